import PyProof.Rows.All
import Wide.All
import OpenK.AllK
import Wide.FinOn
import KE.KUnpack
import Lean
import PySem.Challenge.RW_pq1221_01
open PySem PySem.Calls PySem.W PyProof.Rows
set_option Elab.async false
set_option linter.unusedVariables false
set_option maxRecDepth 100000
set_option maxHeartbeats 4000000
set_option bootstrap.genMatcherCode false
noncomputable section
namespace Mn
theorem dC {p:Prop} [h:Decidable p] (e:decide p=true:=by rfl):p:=of_decide_eq_true e
theorem cast_le {m n:Nat} (h:m<=n):(m:Int)<=n:=Int.ofNat_le.mpr h
theorem cast_lt {m n:Nat} (h:m < n):(m:Int) < n:=Int.ofNat_lt.mpr h
theorem of_cast_le {m n:Nat} (h:(m:Int)<=n):m<=n:=Int.ofNat_le.mp h
theorem of_cast_lt {m n:Nat} (h:(m:Int) < n):m < n:=Int.ofNat_lt.mp h
theorem toNat_lt {i:Int} {n:Nat} (h:0<=i) (k:i < n):i.toNat < n:=(Int.toNat_lt h).mpr k
theorem toNat_le {i:Int} {n:Nat} (k:i<=n):i.toNat<=n:=Int.toNat_le.mpr k
theorem toNat_sub {p d:Int} (h:0<=d) (k:d<=p):(p - d).toNat=p.toNat - d.toNat:=by
 obtain ⟨D,rfl⟩:=Int.eq_ofNat_of_zero_le h
 obtain ⟨P,rfl⟩:=Int.eq_ofNat_of_zero_le (Int.le_trans h k)
 exact Int.toNat_sub P D
theorem pos_ge {i:Int} (h:0 < i):1<=i:=h
theorem nle {a b:Nat} (h:¬ a<=b):b < a:=Nat.not_le.mp h
theorem nlt {a b:Nat} (h:¬ a < b):b<=a:=Nat.not_lt.mp h
theorem ile {a b:Int} (h:¬ a<=b):b < a:=Int.not_le.mp h
theorem ilt {a b:Int} (h:¬ a < b):b<=a:=Int.not_lt.mp h
theorem ltg {a b:Int} (h:a < b):¬ b<=a:=Int.not_le.mpr h
theorem leg {a b:Int} (h:a<=b):¬ b < a:=Int.not_lt.mpr h
theorem lT {k m n:Nat} (h:k < m) (d:m<=n:=by decide):k ≠ n:=Nat.ne_of_lt (Nat.lt_of_lt_of_le h d)
theorem lt_up {k m n:Nat} (h:k < m) (d:m<=n:=by decide):k < n:=Nat.lt_of_lt_of_le h d
theorem lE {k m n:Nat} (h:k<=m) (d:m<=n:=by decide):k<=n:=Nat.le_trans h d
theorem le_lt {k m n:Nat} (h:k<=m) (d:m < n:=by decide):k < n:=Nat.lt_of_le_of_lt h d
theorem cast_up {k m:Nat} {n:Int} (h:k<=m) (d:(m:Int)<=n:=by decide):(k:Int)<=n:=Int.le_trans (Int.ofNat_le.mpr h) d
theorem cast_lup {k m:Nat} {n:Int} (h:k < m) (d:(m:Int)<=n:=by decide):(k:Int) < n:=Int.lt_of_lt_of_le (Int.ofNat_lt.mpr h) d
theorem cast_ltle {k m:Nat} {n:Int} (h:k < m) (d:(m:Int)<=n:=by decide):(k:Int)<=n:=Int.le_of_lt (Int.lt_of_lt_of_le (Int.ofNat_lt.mpr h) d)
theorem iup {k m n:Int} (h:k<=m) (d:m<=n:=by decide):k<=n:=Int.le_trans h d
theorem ilup {k m n:Int} (h:k < m) (d:m<=n:=by decide):k < n:=Int.lt_of_lt_of_le h d
theorem illt {k m n:Int} (h:k<=m) (d:m < n:=by decide):k < n:=Int.lt_of_le_of_lt h d
theorem idn {k m n:Int} (h:m<=n) (d:k<=m:=by decide):k<=n:=Int.le_trans d h
theorem idlt {k m n:Int} (h:m<=n) (d:k < m:=by decide):k < n:=Int.lt_of_lt_of_le d h
theorem idne {k m n:Int} (h:m<=n) (d:k < m:=by decide):n ≠ k:=Int.ne_of_gt (Int.lt_of_lt_of_le d h)
theorem neg_le_cast {k:Int} {n:Nat} (d:k<=0:=by decide):k<=(n:Int):=Int.le_trans d (Int.natCast_nonneg n)
theorem toNat_succ {p:Int} (h:0<=p):(p + 1).toNat=p.toNat + 1:=Int.toNat_add h dC
theorem toNat_addn {o:Int} {g:Nat} (h:0<=o):(o + g).toNat=o.toNat + g:=Int.toNat_add h (Int.natCast_nonneg g)
theorem toNat_add_sub {p n:Int} (h:0<=p) (k:0<=n):(p + n).toNat - p.toNat=n.toNat:=by rw [Int.toNat_add h k,Nat.add_sub_cancel_left]
theorem toNat_lsub {n:Nat} {s:Int} (h:0<=s):((n:Int) - s).toNat=n - s.toNat:=by
 obtain ⟨S,rfl⟩:=Int.eq_ofNat_of_zero_le h
 exact Int.toNat_sub n S
theorem toNat_nsub {n:Nat} {s:Int} (h:0<=s):(-s + (n:Int)).toNat=n - s.toNat:=by rw [Int.add_comm,<- Int.sub_eq_add_neg];exact toNat_lsub h
theorem toNat_pos {s:Int} (h:1<=s):0 < s.toNat:=Int.lt_toNat.mpr h
theorem subt_lt {n:Nat} {s:Int} (h:1<=s) (k:s<=n):n - s.toNat < n:=Nat.sub_lt (Int.ofNat_lt.mp (Int.lt_of_lt_of_le h k)) (toNat_pos h)
theorem sub_of_eq {a b c:Nat} (h:b=a + c):b - a=c:=by rw [h,Nat.add_sub_cancel_left]
theorem toNat_lt256 {s:Int} {n:Nat} (h:0<=s) (k:s<=255) (e:n=256):s.toNat < n:=by rw [e];exact toNat_lt h (Int.lt_of_le_of_lt k dC)
theorem minR {l p en:Int}:p + min l (en - p)<=en:=Int.add_le_of_le_sub_left (Int.min_le_right ..)
theorem minP {l p en:Int} (h:1<=l) (k:p < en):1<=min l (en - p):=Int.le_min.mpr ⟨h,Int.sub_pos_of_lt k⟩
theorem addP {p m:Int} (h:0<=p) (k:1<=m):0<=p + m:=Int.add_nonneg h (Int.le_trans dC k)
theorem step_t {p en m:Int} (h:p < en) (k:1<=m):(en - (p + m)).toNat + 1<=(en - p).toNat:=by omega
theorem step_n {p en m:Int} {n:Nat} (h:p < en) (k:1<=m) (z:(en - p).toNat<=n + 1):(en - (p + m)).toNat<=n:=Nat.le_of_succ_le_succ (Nat.le_trans (step_t h k) z)
theorem step_l {r k N:Nat} {p en m:Int} (h:p < en) (hm:1<=m) (hk:k<=1) (z:r + (en - p).toNat + 1<=N):r + k + (en - (p + m)).toNat + 1<=N:=by
 have:=step_t h hm
 omega
theorem lin1 {l S M p m:Int} (h:l + S=M - p):l - m + S=M - (p + m):=by omega
theorem nsub_succ {n i k:Nat} (h:n - i=k + 1):n - (i + 1)=k:=by rw [Nat.sub_add_eq,h];rfl
theorem nsub_lt {n i k:Nat} (h:n - i=k + 1):i < n:=Nat.lt_of_sub_pos (h ▸ Nat.succ_pos k)
theorem nsub_zero {n i:Nat} (h:n - i=0) (k:i<=n):i=n:=Nat.le_antisymm k (Nat.le_of_sub_eq_zero h)
theorem le_sum {a b N:Nat} (h:a + b<=N):a<=N:=Nat.le_trans (Nat.le_add_right a b) h
theorem le_sum' {a b N:Nat} (h:a + b<=N):b<=N:=Nat.le_trans (Nat.le_add_left b a) h
theorem idx_ok {j:Int} {n:Nat} (h:0<=j) (k:j.toNat < n):((0<=if max j 0 < 0 then max j 0 + (n:Int) else max j 0)/\(if max j 0 < 0 then max j 0 + (n:Int) else max j 0) < n)/\(if max j 0 < 0 then max j 0 + (n:Int) else max j 0).toNat=(max j 0).toNat:=by
 rw [Int.max_eq_left h,if_neg (Int.not_lt.mpr h)]
 exact⟨⟨h,(Int.toNat_lt h).mp k⟩,rfl⟩
theorem ifT {c:Prop} [Decidable c] {A B:Prop} (h:c) (k:A):if c then A else B:=cast (if_pos h).symm k
theorem ifF {c:Prop} [Decidable c] {A B:Prop} (h:¬ c) (k:B):if c then A else B:=cast (if_neg h).symm k
theorem ifT' {c:Prop} [Decidable c] {A B:Prop} (h:c) (k:if c then A else B):A:=cast (if_pos h) k
theorem ifF' {c:Prop} [Decidable c] {A B:Prop} (h:¬ c) (k:if c then A else B):B:=cast (if_neg h) k
theorem nmC {α:Type} {a b:α} {l:List α} (h:a ≠ b) (k:a ∉ l):a ∉ b :: l:=fun m=>(List.mem_cons.mp m).elim h k
theorem nmN {α:Type} {a:α}:a ∉ ([]:List α):=List.not_mem_nil
noncomputable abbrev VS:=Value->Shared->Prop
noncomputable def badIds:List String:=Builtin.Bytes.decodersThatHold ++ ["bytearray.__contains__","bytearray.__mod__","bytearray.__rmod__","_struct.pack_into.held","bytearray.find.held"]
noncomputable def okCode:Code->Bool
 | .builtin id _=>!badIds.contains id
 | _=>true
noncomputable def Clean (Γ:Ctx):Prop:=∀ c ∈ Γ.below,okCode c.1=true
noncomputable def wpC {α:Type} (M:Model) (A:Around) (t:Sem α) (Q:α->Shared->Prop) (E:VS) (s:Shared):Prop :=
 ∀ Γ p,Γ.In A->okCode Γ.code=true->Clean Γ->Sem.wp M Γ t (fun a _ s'=>Q a s') (fun e _ s'=>E e s') p s
noncomputable def cD (M:Model) (A:Around) (c:Code) (R:Result->Shared->Prop) (s:Shared):Prop :=
 okCode c=true/\∀ Γ p,Γ.code=c->Γ.Below A->Clean Γ->wpCode M Γ R p s
section
variable {α β:Type} {M:Model} {A:Around} {Q:α->Shared->Prop} {E:VS} {s:Shared}
theorem wpC_neg {c:Prop} [Decidable c] {a b:Sem α} (h:¬ c) (k:wpC M A b Q E s):wpC M A (if c then a else b) Q E s:=(if_neg h).symm ▸ k
theorem wpC_pos {c:Prop} [Decidable c] {a b:Sem α} (h:c) (k:wpC M A a Q E s):wpC M A (if c then a else b) Q E s:=(if_pos h).symm ▸ k
theorem wpA_neg {c:Prop} [Decidable c] {a b:Sem α} (h:¬ c) (k:wpAny M A b Q E s):wpAny M A (if c then a else b) Q E s:=(if_neg h).symm ▸ k
theorem wpA_pos {c:Prop} [Decidable c] {a b:Sem α} (h:c) (k:wpAny M A a Q E s):wpAny M A (if c then a else b) Q E s:=(if_pos h).symm ▸ k
theorem lift {t:Sem α} (h:wpAny M A t Q E s):wpC M A t Q E s:=fun Γ p hΓ _ _=>h Γ p hΓ
theorem wM {t:Sem α} {Q':α->Shared->Prop} {E':VS} (h:wpC M A t Q E s) (hQ:∀ a s,Q a s->Q' a s) (hE:∀ e s,E e s->E' e s):wpC M A t Q' E' s :=
 fun Γ p hΓ k1 k2=>Sem.wp_mono M Γ t (fun a _ s=>hQ a s) (fun e _ s=>hE e s) p s (h Γ p hΓ k1 k2)
theorem wC {a:α} (h:Q a s):wpC M A (pure a) Q E s:=fun _ _ _ _ _=>h
theorem wP {m:Sem β} {f:β->Sem α} (h:wpC M A m (fun a s'=>wpC M A (f a) Q E s') E s):wpC M A (m >>= f) Q E s:=fun Γ p hΓ k1 k2=>by
 rw [Sem.wp_bind']
 exact Sem.wp_mono M Γ m (fun a p' s' h'=>h' Γ p' hΓ k1 k2) (fun _ _ _ h'=>h') p s (h Γ p hΓ k1 k2)
theorem wpC_onRaise {m:Sem α} {k:Value->Sem Unit} (h:wpC M A m Q (fun e s'=>wpC M A (k e) (fun _ s''=>E e s'') E s') s):wpC M A (m.onRaise k) Q E s:=fun Γ p hΓ k1 k2=>by
 rw [Sem.wp_onRaise]
 exact Sem.wp_mono M Γ m (fun _ _ _ h'=>h') (fun e p' s' h'=>h' Γ p' hΓ k1 k2) p s (h Γ p hΓ k1 k2)
theorem wpC_attempt {m:Sem α} {Q:Except Value α->Shared->Prop} (h:wpC M A m (fun a=>Q (.ok a)) (fun e=>Q (.error e)) s):wpC M A m.attempt Q E s:=fun Γ p hΓ k1 k2=>by
 rw [Sem.wp_attempt];exact h Γ p hΓ k1 k2
theorem wH {vs:List Value} {m:Sem α} (h:wpC M A m Q E s):wpC M A (holding vs m) Q E s:=fun Γ p hΓ k1 k2=>by
 rw [Sem.wp_holding];exact h Γ p hΓ k1 k2
theorem wpC_keep {vs:List Value} {m:Sem α} (h:wpC M A m Q E s):wpC M A (m.keep vs) Q E s:=fun Γ p hΓ k1 k2=>by
 rw [Sem.wp_keep];exact h Γ p hΓ k1 k2
theorem wpC_operate {vs:List Value} {m:Sem Value} {Q:VS} (h:wpC M A m Q E s):wpC M A (operate vs m) Q E s:=fun Γ p hΓ k1 k2=>by
 rw [Sem.wp_operate];exact h Γ p hΓ k1 k2
theorem wS {pos:Pos} {Q:Unit->Shared->Prop} (h:Q () s):wpC M A (standAt pos) Q E s:=fun _ _ _ _ _=>h
theorem wpC_rule {tag:String} {Q:Unit->Shared->Prop} (h:Q () s):wpC M A (rule tag) Q E s:=fun _ _ _ _ _=>h
theorem wpC_point {Q:Unit->Shared->Prop} (h:Q () s):wpC M A point Q E s:=fun _ _ _ _ _=>h
theorem wpC_release {vs keep:List Value} {Q:Unit->Shared->Prop} (h:Q () s):wpC M A (release vs keep) Q E s:=fun Γ p _ _ _=>by rw [Sem.wp_release];exact h
theorem wpC_of_eq {t:Sem α} {a:α} (e:t=pure a) (h:Q a s):wpC M A t Q E s:=e ▸ wC h
theorem wpC_truthy_bool {b:Bool} {Q:Bool->Shared->Prop} (h:Q b s):wpC M A (truthy (.bool b)) Q E s:=lift (wpAny_truthy_bool h)
theorem wpC_askSetting {Q:Setting->Shared->Prop} (h:Q ⟨M.prog,M.w.params⟩ s):wpC M A ask Q E s:=fun _ _ _ _ _=>h
theorem wpC_stack {Q:List (Code × Pos)->Shared->Prop} (h:∀ st:List (Code × Pos),(∀ c ∈ st,okCode c.1=true)->Q st s):wpC M A stack Q E s:=fun Γ p hΓ k1 k2=>by
 refine h _ fun c hc=>?_
 rcases List.mem_cons.mp hc with rfl | hc
 . exact k1
 . exact k2 c hc
theorem wpC_theTreesLotGoes {x:Value} {Q:Unit->Shared->Prop} (h:Q () s):wpC M A (theTreesLotGoes x) Q E s:=lift (wpAny_theTreesLotGoes h)
theorem codeC_mono {c:Code} {R R':Result->Shared->Prop} (h:cD M A c R s) (hR:∀ r s,R r s->R' r s):cD M A c R' s:=⟨h.1,fun Γ p e hΓ k=>wpCode_mono hR (h.2 Γ p e hΓ k)⟩
theorem clean_enter {Γ:Ctx} {c:Code} {hd:Option Value} {p:Pos} (k1:okCode Γ.code=true) (k2:Clean Γ):Clean (Γ.enter c hd p):=by
 intro x hx
 have hx':x ∈ (Γ.code,p) :: Γ.below:=hx
 rcases List.mem_cons.mp hx' with rfl | hx'
 . exact k1
 . exact k2 x hx'
theorem wpC_run {c:Code} {h:Option Value} {Q:Flow->Shared->Prop} (hc:cD M (A.mark h) c (fun r s'=>match r with | .ok f=>Q f s' | .error e=>E e s') s) (hnb:h ≠ some byPass:=by nofun):wpC M A (run c h) Q E s :=
 fun Γ p hΓ k1 k2=>by rw [Sem.wp_run];exact hc.2 _ p rfl (hΓ.enter c h p hnb) (clean_enter k1 k2)
theorem wpC_runValue {c:Code} {Q:VS} (hc:cD M A c (fun r s'=>match r with | .ok (.ret v)=>Q v s' | .ok _=>False | .error e=>E e s') s):wpC M A (runValue c) Q E s :=
 fun Γ p hΓ k1 k2=>by rw [Sem.wp_runValue];exact hc.2 _ p rfl (hΓ.enter c none p (by intro x;cases x)) (clean_enter k1 k2)
theorem wpC_call {f:Value} {pos:List Value} {kw:List (Str × Value)} {Q:VS} (hc:cD M A (.call f ⟨pos,kw⟩) (fun r s'=>match r with | .ok (.ret v)=>Q v s' | .ok _=>False | .error e=>E e s') s) :
   wpC M A (call f pos kw) Q E s:=wpC_runValue hc
theorem cO {c:Code} {R:Result->Shared->Prop} (h:wpC M (A.under c) (M.den c) (fun fin s'=>match fin with | .done f=>R (.ok f) s' | .again c'=>c'.quiet=true/\cD M A c' R s') (fun e s'=>R (.error e) s') s)
   (hc:okCode c=true:=by rfl):cD M A c R s:=⟨hc,fun Γ p e hΓ k=>by
 rw [wpCode_iff_wp,e]
 refine Sem.wp_mono M Γ _ (fun fin p' s' h'=>?_) (fun _ _ _ h'=>h') p s (h Γ p (e ▸ hΓ.in) (by rw [e];exact hc) k)
 cases fin with
 | done f=>exact h'
 | again c'=>exact⟨h'.1,h'.2.2 (Γ.goto c') p' rfl (hΓ.goto c') k⟩⟩
theorem codeC_loop {c:Code} {R:Result->Shared->Prop} (hq:c.quiet=true) (I:Nat->Shared->Prop)
   (turn:∀ n s,I n s->wpC M (A.under c) (M.den c) (fun fin s'=>match fin with | .done f=>R (.ok f) s' | .again c'=>c'=c/\∃ m,m < n/\I m s') (fun e s'=>R (.error e) s') s)
   (n:Nat) (h:I n s) (hc:okCode c=true:=by rfl):cD M A c R s:=by
 induction n using Nat.strongRecOn generalizing s with
 | ind n ih =>
   refine cO (wM (turn n s h) (fun fin s' hf=>?_) fun _ _ h'=>h') hc
   cases fin with
   | done f=>exact hf
   | again c'=>obtain ⟨rfl,m,hm,hI⟩:=hf;exact⟨hq,ih m hm hI⟩
theorem codeC_loop' {c:Code} {R:Result->Shared->Prop} (hq:c.quiet=true) (I:Nat->Shared->Prop)
   (turn:∀ n s,I n s->wpC M (A.under c) (M.den c) (fun fin s'=>match fin with | .done f=>R (.ok f) s' | .again c'=>(c'=c/\∃ m,m < n/\I m s') \/ (c'.quiet=true/\cD M A c' R s')) (fun e s'=>R (.error e) s') s)
   (n:Nat) (h:I n s) (hc:okCode c=true:=by rfl):cD M A c R s:=by
 induction n using Nat.strongRecOn generalizing s with
 | ind n ih =>
   refine cO (wM (turn n s h) (fun fin s' hf=>?_) fun _ _ h'=>h') hc
   cases fin with
   | done f=>exact hf
   | again c' =>
     rcases hf with ⟨rfl,m,hm,hI⟩ | hf
     . exact⟨hq,ih m hm hI⟩
     . exact hf
noncomputable def notedC (M:Model) (A:Around) (env:Env) (E:VS):VS:=fun x s'=>wpC M A (noteFrame x env) (fun _ s''=>E x s'') E s'
noncomputable def backC (M:Model) (A:Around) (env:Env) (E:VS):VS:=fun x s'=>wpC M A (do
   if (<- field x 1) == .none then unsupported "frame.own-activation:exception-without-traceback"
   setFlight x env.frame) (fun _ s''=>E x s'') E s'
theorem wpC_noted {env:Env} {m:Sem α} (h:wpC M A m Q (notedC M A env E) s):wpC M A (m.onRaise fun x=>do noteFrame x env;theTreesLotGoes x) Q E s :=
 wpC_onRaise (wM h (fun _ _ q=>q) fun _ _ hx=>wP (wM hx (fun _ _ e=>wpC_theTreesLotGoes e) fun _ _ e=>e))
theorem wpC_notedAt {env:Env} {m:Sem α} {pos:Pos} (h:wpC M A m Q (notedC M A env E) s):wpC M A (m.onRaise fun x=>do noteFrame x env;standAt pos) Q E s :=
 wpC_onRaise (wM h (fun _ _ q=>q) fun _ _ hx=>wP (wM hx (fun _ _ e=>wS e) fun _ _ e=>e))
theorem wpC_runOwn {c:Code} {env:Env} {h:Option Value} {Q:Flow->Shared->Prop} (hc:cD M (A.mark h) c (fun r s'=>match r with | .ok f=>Q f s' | .error e=>backC M A env E e s') s) (hnb:h ≠ some byPass:=by nofun) :
   wpC M A (runOwn c env h) Q E s:=by
 unfold runOwn
 exact wpC_onRaise (wpC_run hc hnb)
end
section
variable {M:Model} {A:Around} {Q:VS} {E:VS} {s:Shared} {env:Env}
theorem wpC_Name {x pos} (h:wpC M A (loadName env x) Q E s) (hd:(x == ("__debug__":Str))=false:=by decide):wpC M A (eval (.Name x pos) env) Q E s:=by
 rw [eval_Name env x pos hd]
 exact wP (wS h)
theorem wpC_bindName {x:Str} {v:Value} {Q:Unit->Shared->Prop} (h:wpC M A (storeName env x v) Q E s):wpC M A (bindName env x v) Q E s:=fun Γ p hΓ k1 k2=>by
 rw [Sem.wp_bindName];exact h Γ p hΓ k1 k2
theorem wpC_BinOp {l op r pos} (h:wpC M A (eval l env) (fun a s1=>wpC M A (eval r env) (fun b s2=>wpC M A (binaryOp op a b) Q E s2) E s1) E s):wpC M A (eval (.BinOp l op r pos) env) Q E s:=by
 rw [eval_BinOp]
 exact wP (wM h (fun a s1 h1=>wP (wH (wM h1 (fun b s2 h2=>wP (wS (wpC_operate h2))) fun _ _ x=>x))) fun _ _ x=>x)
theorem wpC_Compare1 {l op r pos} (h:wpC M A (eval l env) (fun a s1=>wpC M A (eval r env) (fun b s2=>wpC M A (compareOp op a b) Q E s2) E s1) E s) (hm:behindInMarks op r=false:=by with_unfolding_all rfl) :
   wpC M A (eval (.Compare l [op] [r] pos) env) Q E s:=by
 rw [eval_Compare1,markedBehindIn_of_false hm]
 exact wP (wM h (fun a s1 h1=>wP (wH (wM h1 (fun b s2 h2=>wP (wS (wpC_operate h2))) fun _ _ x=>x))) fun _ _ x=>x)
theorem wpC_isTrue_Compare1 {l op r pos whole} {Q:Bool->Shared->Prop} (h:wpC M A (eval l env) (fun a s1=>wpC M A (eval r env) (fun b s2=>wpC M A (compareOp op a b) (fun c s3=>wpC M A (truthy c) Q E s3) E s2) E s1) E s)
   (hm:behindInMarks op r=false:=by with_unfolding_all rfl):wpC M A (isTrue (.Compare l [op] [r] pos) env whole) Q E s:=by
 rw [isTrue_Compare1,markedBehindIn_of_false hm]
 exact wP (wM h (fun a s1 h1=>wP (wH (wM h1 (fun b s2 h2=>wP (wS (wP (wpC_operate (wM h2 (fun c s3 h3=>wH h3) fun _ _ x=>x))))) fun _ _ x=>x))) fun _ _ x=>x)
theorem wpC_Subscript {value slice pos} (h:wpC M A (eval value env) (fun o s1=>wpC M A (eval slice env) (fun i s2=>wpC M A (subscriptTail value slice o i) Q E s2) E s1) E s):wpC M A (eval (.Subscript value slice pos) env) Q E s:=by
 rw [eval_Subscript]
 exact wP (wM h (fun o s1 h1=>wP (wH (wM h1 (fun i s2 h2=>wP (wS h2)) fun _ _ x=>x))) fun _ _ x=>x)
theorem wpC_Attribute {prog:Program} {w:World} {value:Expr} {attr:Str} {pos:Pos} (h:wpC (model prog w) A (eval value env) (fun o s1=>wpC (model prog w) A (getAttr o attr true) Q E s1) E s)
   (he:eval (.Attribute value attr pos) env=(do
     let o <- eval value env
     standAt pos.atName
     let r <- holding [o] (getAttr o attr true)
     letTemporaryGo value o r
     pure r):=by with_unfolding_all rfl):wpC (model prog w) A (eval (.Attribute value attr pos) env) Q E s:=by
 rw [he]
 refine wP (wM h (fun o s1 h1=>wP (wS (wP (wH (wM h1 (fun r s2 h2=>?_) fun _ _ x=>x))))) fun _ _ x=>x)
 exact wP (lift (wpAny_letTemporaryGo (wC h2)))
theorem wpC_Tuple {elts:List Expr} {k:Nat} {pos:Pos} (h:wpC M A (spliced (backTo pos (starEach elts env))) (fun vs s1=>wpC M A (newTuple vs) Q E s1) E s):wpC M A (eval (.Tuple elts k pos) env) Q E s:=by
 show wpC M A (do standAt pos;newTuple (<- spliced (backTo pos (starEach elts env)))) Q E s
 exact wP (wS (wP h))
theorem wpC_List {elts:List Expr} {pos:Pos} (h:wpC M A (spliced (backTo pos (starEach elts env))) (fun vs s1=>wpC M A (newList vs) Q E s1) E s):wpC M A (eval (.List elts pos) env) Q E s:=by
 show wpC M A (do standAt pos;newList (<- spliced (backTo pos (starEach elts env)))) Q E s
 exact wP (wS (wP h))
theorem wL {x:Sem Value} {rest:List (Bool × Sem Value)} {Q:List Value->Shared->Prop} (h:wpC M A x (fun v s1=>wpC M A (spliced rest) (fun vs s2=>Q (v :: vs) s2) E s1) E s):wpC M A (spliced ((false,x) :: rest)) Q E s:=by
 rw [spliced]
 refine wP (wM h (fun v s1 h1=>?_) fun _ _ x=>x)
 simp only [Bool.false_eq_true,if_false]
 exact wP (wC (wP (wH (wM h1 (fun vs s2 h2=>wC h2) fun _ _ x=>x))))
theorem wE {f:Value} {x:Sem Value} {rest:List (Bool × Sem Value)} {Q:Args->Shared->Prop} (h:wpC M A (spliced ((false,x) :: rest)) (fun vs s'=>Q ⟨vs,[]⟩ s') E s):wpC M A (evalArgs f true ((false,x) :: rest) []) Q E s:=by
 show wpC M A (spliced ((false,x) :: rest) >>= _) Q E s
 refine wP (wM h (fun vs s' h'=>?_) fun _ _ x=>x)
 refine wH ?_
 exact wP (wC (wP (wC (wC h'))))
theorem wpC_callWith {P:Heap->Prop} {pos:Pos} {f:Value} {first:List Value} {args:List (Bool × Sem Value)} {keywords:List (Option Str × Sem Value)} (hplain:(args.any (·.1) || keywords.any (·.1.isNone))=false)
   (hk:∀ h,P h->∃ k,(k=Keeper.frame \/ k=Keeper.machine \/ k=Keeper.boundFrame)/\Looks M h (keeperOf f) k)
   (h:wpC M A (evalArgs f true args keywords) (fun a s1=>P s1.heap/\wpC M A (call f (first ++ a.pos) a.kw) Q E s1) E s):wpC M A (callWith pos f first args keywords) Q E s:=by
 unfold callWith
 refine wP (wH (wM h (fun a s1 h1=>wP (wS ?_)) fun _ _ x=>x))
 obtain ⟨k,hk',L⟩:=hk _ h1.1
 rw [hplain]
 refine wP (lift (L.here ?_))
 have tail:∀ {t:Sem Value},wpC M A t Q E s1->wpC M A (t >>= fun r=>holding [r] point >>= fun _=>pure r) Q E s1 :=
   fun ht=>wP (wM ht (fun r s2 hr=>wP (wH (wpC_point (wC hr)))) fun _ _ x=>x)
 have marked (mk:Value):wpC M A (if args.length + 2 * keywords.length > 30 then call f (first ++ a.pos) a.kw >>= fun r=>holding [r] point >>= fun _=>pure r else callMarked mk f (first ++ a.pos) a.kw >>= fun r=>holding [r] point >>= fun _=>pure r) Q E s1:=by
   by_cases hc:args.length + 2 * keywords.length > 30
   . rw [if_pos hc];exact tail h1.2
   . rw [if_neg hc];exact tail (wpC_keep h1.2)
 rcases hk' with rfl | rfl | rfl
 . exact marked plainCall
 . exact tail h1.2
 . exact marked callOfAMethodObject
end
section
variable {M:Model} {A:Around} {Q:Flow->Shared->Prop} {E:VS} {s:Shared} {env:Env}
theorem wpC_execs_nil (h:Q .next s):wpC M A (execs [] env) Q E s:=fun _ _ _ _ _=>h
theorem wpC_execs_cons {st rest} (h:wpC M A (exec st env) (fun f s'=>match f with | .next=>wpC M A (execs rest env) Q E s' | f=>Q f s') E s):wpC M A (execs (st :: rest) env) Q E s:=by
 rw [execs_cons]
 refine wP (wM h (fun f s' h'=>?_) fun _ _ x=>x)
 cases f <;> first | exact h' | exact wC h'
theorem wpC_Return_some {e pos} (h:wpC M A (eval e env) (fun v=>Q (.ret v)) E s):wpC M A (exec (.Return (some e) pos) env) Q E s:=by
 rw [exec_Return_some]
 exact wP (wS (wP (wM h (fun _ _ x=>wC x) fun _ _ x=>x)))
theorem wpC_If {test body orelse pos} (h:wpC M A (isTrue test env (eval test env)) (fun b s2=>if b then wpC M A (execs body env) Q E s2 else wpC M A (execs orelse env) Q E s2) E s):wpC M A (exec (.If test body orelse pos) env) Q E s:=by
 rw [exec_If]
 refine wP (wS (wP (wM h (fun b s2 h2=>?_) fun _ _ x=>x)))
 cases b <;> exact h2
theorem wpC_Expr {e pos} (h:wpC M A (eval e env) (fun v s'=>match v with | .ref _=>False | _=>Q .next s') E s) (hi:interactive env=false:=by rfl) (hs:swapsWith e none pos.line env=pure false:=by rfl):wpC M A (exec (.Expr e pos) env) Q E s:=by
 rw [exec_Expr env e pos hi hs]
 refine wP (wS (wP (wM h (fun v s' h'=>?_) fun _ _ x=>x)))
 have hv:∀ a,v ≠ .ref a:=fun a hva=>by subst hva;exact h'
 rw [dropValue_plain hv]
 refine wC ?_
 cases v <;> first | exact h' | exact (hv _ rfl).elim
theorem wpC_For {target iter body orelse pos} (h:wpC M A (eval iter env) (fun x s1=>wpC M A (pyIter x) (fun it s2=>cD M A (.forLoop target it body orelse env) (fun r s'=>match r with | .ok f=>Q f s' | .error e=>backC M A env E e s') s2) E s1) E s)
   (hs:foldedSetIterable iter env=fun x=>pure x:=by rfl):wpC M A (exec (.For target iter body orelse pos) env) Q E s:=by
 rw [exec_For]
 exact wP (wS (wP (wM h (fun x s1 h1=>wP (wpC_of_eq (congrFun hs x) (wP (wS (wP (wH (wM h1 (fun it s2 h2=>wpC_runOwn h2) fun _ _ h'=>h'))))))) fun _ _ h'=>h')))
theorem wpC_While {test body orelse pos} (h:cD M A (.whileLoop test body orelse env) (fun r s'=>match r with | .ok f=>Q f s' | .error e=>backC M A env E e s') s):wpC M A (exec (.While test body orelse pos) env) Q E s:=by
 rw [exec_While];exact wP (wS (wpC_runOwn h))
end
section
variable {prog:Program} {w:World} {A:Around} {E:VS} {R:Result->Shared->Prop} {s:Shared}
theorem codeC_block {stmts:List Stmt} {env:Env} (h:wpC (model prog w) A (execs stmts env) (fun f s'=>R (.ok f) s') (notedC (model prog w) A env fun e s'=>R (.error e) s') s):cD (model prog w) A (.block stmts env) R s:=by
 refine cO ?_
 exact wP (wpC_noted (wM h (fun f s' h'=>wC h') fun _ _ h'=>h'))
theorem codeC_whileLoop {test body orelse env} (I:Nat->Shared->Prop)
   (turn:∀ n s,I n s->wpC (model prog w) A (isTrue test env (eval test env)) (fun b s2=>if b then wpC (model prog w) A (execs body env) (fun f s3=>match f with
           | .next | .cont=>∃ m,m < n/\I m s3
           | .brk=>R (.ok .next) s3
           | .ret v=>R (.ok (.ret v)) s3) (notedC (model prog w) A env fun e s'=>R (.error e) s') s2
       else wpC (model prog w) A (execs orelse env) (fun f s3=>R (.ok f) s3) (notedC (model prog w) A env fun e s'=>R (.error e) s') s2) (notedC (model prog w) A env fun e s'=>R (.error e) s') s)
   (n:Nat) (h:I n s):cD (model prog w) A (.whileLoop test body orelse env) R s:=by
 refine codeC_loop rfl I (fun n s hI=>?_) n h
 refine (?_:wpC _ A ((whileTurn test body orelse env).onRaise (fun x=>do noteFrame x env;theTreesLotGoes x)) _ _ s)
 refine wpC_noted ?_
 simp only [whileTurn]
 refine wP (wM (turn n s hI) (fun b s2 h2=>?_) fun _ _ h'=>h')
 cases b with
 | false =>
   simp only [Bool.false_eq_true,if_false] at h2 ⊢
   exact wP (wM h2 (fun f s3 h3=>wC h3) fun _ _ h'=>h')
 | true =>
   simp only [if_true] at h2 ⊢
   refine wP (wM h2 (fun f s3 h3=>?_) fun _ _ h'=>h')
   cases f with
   | next=>exact wC ⟨rfl,h3⟩
   | cont=>exact wC ⟨rfl,h3⟩
   | brk=>exact wC h3
   | ret v=>exact wC h3
theorem codeC_forLoop {target it body orelse env} (I:Nat->Shared->Prop)
   (turn:∀ n s,I n s->wpC (model prog w) A (pyNext it) (fun r s1=>match r with
     | none=>wpC (model prog w) A (execs orelse env) (fun f s3=>R (.ok f) s3) (notedC (model prog w) A env fun e s'=>R (.error e) s') s1
     | some v=>wpC (model prog w) A (letOwnedTupleGo target it v) (fun _ s1=>wpC (model prog w) A (assign target env v) (fun _ s2=>wpC (model prog w) A (execs body env) (fun f s3=>match f with
         | .next | .cont=>∃ m,m < n/\I m s3
         | .brk=>R (.ok .next) s3
         | .ret v=>R (.ok (.ret v)) s3) (notedC (model prog w) A env fun e s'=>R (.error e) s') s2) (notedC (model prog w) A env fun e s'=>R (.error e) s') s1) (notedC (model prog w) A env fun e s'=>R (.error e) s') s1) (notedC (model prog w) A env fun e s'=>R (.error e) s') s)
   (n:Nat) (h:I n s):cD (model prog w) A (.forLoop target it body orelse env) R s:=by
 refine codeC_loop' rfl I (fun n s hI=>?_) n h
 refine wpC_noted ?_
 simp only [forTurn]
 refine wP (wS (wP (wpC_onRaise (wM (turn n s hI) (fun r s1 h1=>?_) fun _ _ h'=>wS h'))))
 cases r with
 | none=>exact wC (.inr ⟨rfl,codeC_block h1⟩)
 | some v =>
   refine wP (wM h1 (fun _ s1 h1=>?_) fun _ _ h'=>h')
   refine wP (wM h1 (fun _ s2 h2=>wP (wM h2 (fun f s3 h3=>?_) fun _ _ h'=>h')) fun _ _ h'=>h')
   cases f with
   | next=>exact wC (.inl ⟨rfl,h3⟩)
   | cont=>exact wC (.inl ⟨rfl,h3⟩)
   | brk=>exact wC h3
   | ret v=>exact wC h3
theorem codeC_func {body env}
   (h:wpC (model prog w) (A.deeper env) (execs body env) (fun f s'=>R (.ok (.ret (match f with | .ret v=>v | _=>.none))) s')
     (fun e s'=>wpC (model prog w) (A.deeper env) (leaving env e) (fun _ s''=>R (.error e) s'') (fun e' s''=>R (.error e') s'') s') s):cD (model prog w) A (.func body env) R s:=by
 refine cO ?_
 refine (?_:wpC _ (A.deeper env) (do point;match <- (execs body env).onRaise (leaving env) with | .ret v=>ret v | _=>ret .none) _ _ s)
 refine wP (wpC_point (wP (wpC_onRaise (wM h (fun f s' h'=>?_) fun _ _ h'=>h'))))
 cases f <;> exact wC h'
theorem codeC_call_fd {a:Addr} {args:Args} {o:Obj} {fd:FuncData} {k:Env->Code} (hroom:A.depth < recursionLimit) (ho:s.heap.get? a=some o)
   (hd':o.data=.func fd) (hco:fd.scope.isCoroutine=false) (hgen:fd.scope.isGenerator=false) (hbody:∀ env,(match fd.body with
     | .stmts b=>Code.func b env
     | .expr e=>.expr e env)=k env) (hqt:∀ env,(k env).quiet=true) (hcd:s.heap.CodeRec fd.code fd.qualname)
   (h:wpC (model prog w) A.in1 (bindArgs fd args) (fun binds s1 =>
     wpC (model prog w) A.in1 (newFunctionEnv fd.scope fd.globals fd.closure binds (fd.qualname ++ ".<locals>.") (some a) fd.code none fd.builtins)
       (fun env s2=>s2.heap.NoLimit/\cD (model prog w) A (k env) R s2) (fun e s'=>R (.error e) s') s1) (fun e s'=>R (.error e) s') s) :
   cD (model prog w) A (.call (.ref a) args) R s:=by
 refine cO ?_
 refine (?_:wpC _ A.in1 (load a >>= _) _ _ s)
 refine wP (lift (wpAny_load ho ?_))
 rw [hd']
 refine (?_:wpC _ _ (callFunction a fd args) _ _ _)
 obtain ⟨c,oc,vs,tq,hc,hoc,hdc,hq⟩:=hcd
 unfold callFunction
 rw [hc] at h ⊢
 rw [hco,hgen]
 refine wP (m:=field (.ref c) 1) (lift (wpAny_field hoc hdc hq (wP (wC ?_))))
 exact wP (wM h (fun binds s1 h1=>wP (wM h1 (fun env s2 h2=>wP (lift (wpAny_enterFrame h2.1 hroom (wC (And.intro ((congrArg Code.quiet (hbody env)).trans (hqt env)) (cast (congrArg (fun c=>cD (model prog w) A c R s2) (hbody env).symm) h2.2)))))) fun _ _ h'=>h')) fun _ _ h'=>h')
theorem codeC_call_function {a:Addr} {args:Args} {o:Obj} {fd:FuncData} {body:List Stmt} (hroom:A.depth < recursionLimit) (ho:s.heap.get? a=some o)
   (hd':o.data=.func fd) (hco:fd.scope.isCoroutine=false) (hgen:fd.scope.isGenerator=false) (hbody:fd.body=.stmts body) (hcd:s.heap.CodeRec fd.code fd.qualname)
   (h:wpC (model prog w) A.in1 (bindArgs fd args) (fun binds s1 =>
     wpC (model prog w) A.in1 (newFunctionEnv fd.scope fd.globals fd.closure binds (fd.qualname ++ ".<locals>.") (some a) fd.code none fd.builtins)
       (fun env s2=>s2.heap.NoLimit/\cD (model prog w) A (.func body env) R s2) (fun e s'=>R (.error e) s') s1) (fun e s'=>R (.error e) s') s) :
   cD (model prog w) A (.call (.ref a) args) R s:=codeC_call_fd hroom ho hd' hco hgen (k:=.func body) (fun _=>by rw [hbody]) (fun _=>rfl) hcd h
theorem wpC_tests_nil {env:Env} {Q:Bool->Shared->Prop} (h:Q true s) :
   wpC (model prog w) A (forIn ([]:List Expr) true fun c r=>if r=true then do let ok <- isTrue c env (eval c env);pure (ForInStep.yield ok) else pure (ForInStep.yield r)) Q E s:=wC h
theorem wpC_tests_one {env:Env} {c:Expr} {Q:Bool->Shared->Prop} (h:wpC (model prog w) A (isTrue c env (eval c env)) Q E s) :
   wpC (model prog w) A (forIn [c] true fun c r=>if r=true then do let ok <- isTrue c env (eval c env);pure (ForInStep.yield ok) else pure (ForInStep.yield r)) Q E s:=by
 simp only [List.forIn_cons,List.forIn_nil,if_true]
 exact wP (wP (wM h (fun b s' hb=>wC (wC hb)) fun _ _ x=>x))
theorem codeC_compLoop {elt target iter:Expr} {ifs:List Expr} {scope:Scope} {pos:Pos} {it acc:Value} {env:Env} (I:Nat->Shared->Prop)
   (turn:∀ n s,I n s->wpC (model prog w) A (pyNext it) (fun r s1=>match r with
     | none=>R (.ok .next) s1
     | some v=>wpC (model prog w) A (assign target env v) (fun _ s2 =>
         wpC (model prog w) A (forIn ifs true fun c r=>if r=true then do let ok <- isTrue c env (eval c env);pure (ForInStep.yield ok) else pure (ForInStep.yield r)) (fun ok s3 =>
           if ok=true then wpC (model prog w) A (eval elt env) (fun x s4 =>
             wpC (model prog w) A (call (.builtin "list.append") [acc,x]) (fun _ s5=>∃ m,m < n/\I m s5) (notedC (model prog w) A env fun e s'=>R (.error e) s') s4) (notedC (model prog w) A env fun e s'=>R (.error e) s') s3
           else ∃ m,m < n/\I m s3) (notedC (model prog w) A env fun e s'=>R (.error e) s') s2) (notedC (model prog w) A env fun e s'=>R (.error e) s') s1) (notedC (model prog w) A env fun e s'=>R (.error e) s') s)
   (n:Nat) (h:I n s) (ht:letOwnedTupleGo target it=fun v=>pure ():=by rfl) :
   cD (model prog w) A (.compLoop (.ListComp elt [⟨target,iter,ifs,0⟩] scope pos) 0 it acc env) R s:=by
 refine codeC_loop rfl I (fun n s hI=>?_) n h
 refine (?_:wpC _ A ((compTurn (.ListComp elt [⟨target,iter,ifs,0⟩] scope pos) 0 it acc env).onRaise (fun x=>do noteFrame x env;theTreesLotGoes x)) _ _ s)
 refine wpC_noted ?_
 rw [compTurn_list]
 refine wP (wS (wP (wM (turn n s hI) (fun r s1 h1=>?_) fun _ _ h'=>h')))
 cases r with
 | none=>exact wC h1
 | some v =>
   refine wP (wpC_of_eq (congrFun ht v) ?_)
   refine wP (wM h1 (fun _ s2 h2=>wP (wM h2 (fun ok s3 h3=>?_) fun _ _ h'=>h')) fun _ _ h'=>h')
   cases ok with
   | false=>exact wC ⟨rfl,h3⟩
   | true =>
     exact wP (wP (wM h3 (fun x s4 h4=>wP (wM h4 (fun _ s5 h5=>wC (wC ⟨rfl,h5⟩)) fun _ _ h'=>h')) fun _ _ h'=>h'))
theorem codeC_compStart {elt target iter ifs rest scope pos it acc env}
   (h0:cD (model prog w) A (.compLoop (.ListComp elt (⟨target,iter,ifs,0⟩ :: rest) scope pos) 0 it acc env) R s)
   (h:wpC (model prog w) A (pyIter it) (fun it' s'=>cD (model prog w) A (.compLoop (.ListComp elt (⟨target,iter,ifs,0⟩ :: rest) scope pos) 0 it' acc env) R s') (notedC (model prog w) A env fun x s'=>R (.error x) s') s) :
   cD (model prog w) A (.compStart (.ListComp elt (⟨target,iter,ifs,0⟩ :: rest) scope pos) 0 it acc env) R s:=by
 refine cO ?_
 refine wpC_notedAt ?_
 refine wP (wpC_askSetting ?_)
 split
 . first
     | exact wP (wC (wC (And.intro rfl h0)))
     | exact wC (And.intro rfl h0)
 . first
     | exact wP (wpC_rule (wP (wS (wP (wM h (fun it' s' h'=>wC (And.intro rfl h')) fun _ _ x=>x)))))
     | (refine wP (wpC_rule ?_);show wpC _ _ (standAt iter.pos >>= _) _ _ s;exact wP (wS (wP (wM h (fun it' s' h'=>wC (And.intro rfl h')) fun _ _ x=>x))))
noncomputable def compPostC (Q:VS) (acc:Value) (C:Addr) (r:Result) (s':Shared):Prop :=
 match r with
 | .ok _=>∃ m,s'.heap.Ns C m/\∀ h',Heap.SameBut C s'.heap h'->Q acc { s' with heap:=h' }
 | .error x=>False
theorem wpC_comprehension {e:Expr} {scope:Scope} {env:Env} {pos:Pos} {newAcc first:Sem Value} {g:Comprehension} {gs:List Comprehension} {cl:List (Str × Addr)} {Q:VS}
   (hcl:clausesOf e=g :: gs) (hs:foldedSetIterable g.iter env=fun x=>pure x) (hclos:closureFor scope env=pure cl)
   (hkind:scope.kind=.function) (hnames:∀ x ∈ scope.names,x.2=.local->scope.names.lookup x.1=some .local)
   (h:wpC (model prog w) A first (fun x s1=>wpC (model prog w) A (pyIter x) (fun it s2=>wpC (model prog w) A newAcc (fun acc s3 =>
     wpC (model prog w) A (newFunctionEnv scope env.globals cl [] env.qual none .none (some env)) (fun cenv s4 =>
       cD (model prog w) A (.compStart e 0 it acc { cenv with scope:=relabel scope env }) (compPostC Q acc cenv.locals) s4) E s3) E s2) E s1) E s) :
   wpC (model prog w) A (comprehension e scope env pos newAcc false first) Q E s:=by
 unfold comprehension
 rw [hclos,hcl]
 refine wP (wM h (fun x s1 h1=>wP (wS (wP (wpC_of_eq (congrFun hs x) (wP (wH (wM h1 (fun it s2 h2=>?_) fun _ _ h'=>h'))))))) fun _ _ h'=>h')
 refine wP (wM h2 (fun acc s3 h3=>wP (wC (wP (wM h3 (fun cenv s4 h4=>?_) fun _ _ h'=>h')))) fun _ _ h'=>h')
 dsimp only
 have hv:∀ x ∈ (scope.names.filter fun x=>(x.2 == .local || x.2 == .cell) && x.1 != (".0":Str)).reverse,x.2=.local ->
     Env.kindOf { cenv with scope:=relabel scope env } x.1=some .local:=fun x hx hl=>lookup_relabel_local (hnames x (List.mem_filter.mp (List.mem_reverse.mp hx)).1 hl)
 refine wH (wP (wpC_attempt (wH (wpC_run (codeC_mono h4 fun r s' hr=>?_)))))
 cases r with
 | ok f =>
   obtain ⟨m,hn,hr⟩:=hr
   exact wP (wH (lift (wpAny_comp_letGo (cenv:={ cenv with scope:=relabel scope env }) hkind _ s' m hv hn fun h' m' _ hs'=>wC (hr h' hs'))))
 | error x=>exact hr.elim
end
theorem cd_load {α:Type} {M:Model} {A:Around} {Q:α->Shared->Prop} {E:VS} {s:Shared} {a:Addr} {p:Option Value} {k:Obj->Sem α} {o:Obj} (ho:s.heap.get? a=some o) (h:wpC M A (k o) Q E s):wpC M A (.load a p k) Q E s:=fun Γ q hΓ k1 k2=>⟨o,ho,h Γ q hΓ k1 k2⟩
section
variable {prog:Program} {w:World} {A:Around} {K:Frag} {C:Addr} {R:Result->Shared->Prop} {h:Heap} {g:Array GenState} {d:Drawn} {t:Nat} {os:OsState}
theorem okB {id:String} {args:Args} (h:badIds.contains id=false):okCode (.builtin id args)=true:=by
 show (!badIds.contains id)=true
 rw [h];rfl
theorem codeC_builtin {id:String} {args:Args} {b:Builtin} {s:Shared} (hb:entryFor table id=some b) (hok:badIds.contains id=false)
   (h:wpC (model prog w) (A.under (.builtin id args)) (b args)
     (fun fin s'=>match fin with | .done f=>R (.ok f) s' | .again c'=>c'.quiet=true/\cD (model prog w) A c' R s') (fun e s'=>R (.error e) s') s) :
   cD (model prog w) A (.builtin id args) R s:=by
 refine cO ?_ (okB hok)
 refine (?_:wpC _ _ (match entryFor table id with | some b=>b args | none=>unsupported ((withoutEnding? id "#data").getD id)) _ _ s)
 rw [hb];exact h
theorem codeC_make {rest:List Value} {kw:List (Str × Value)} {init:Value} (Y:Makes (model prog w) h C) (hi:Looks (model prog w) h (typeLookup (.ref C) "__init__") (some init))
   (hb:∀ self,Looks (model prog w) h (bindSpecial init self) (init,[self])) (hne:(some init != some (Value.builtin "object.__init__"))=true)
   (hq:cD (model prog w) (A.under (.builtin "type.__call__" ⟨.ref C :: rest,kw⟩)) (.call init ⟨.ref (h.objs.size + 1) :: rest,kw⟩) (InitBack (h.objs.size + 1) R) ⟨(h.push emptyDict).push (instObj C h.objs.size),g,d,t,os⟩) :
   cD (model prog w) A (.call (.ref C) ⟨rest,kw⟩) R ⟨h,g,d,t,os⟩:=by
 have Y':=Y
 obtain ⟨⟨oc,od,cd,sl,hC,e1,e2,e4⟩,made,base,self,top,call,typ⟩:=Y
 refine cO ?_
 refine cd_load hC ?_
 refine (?_:wpC _ _ (callAny.viaDunder (.ref C) _) _ _ _)
 refine wP (lift (call.at ?_))
 dsimp only
 rw [tc_bind]
 refine wP (wC (wP (wC ?_)))
 refine wC (a:=Fin.again (.call (.builtin "type.__call__") ⟨.ref C :: rest,kw⟩)) (And.intro rfl ?_)
 refine cO ?_
 refine wP (lift (check_slot tc_kind tc_split typ (tc_args _ _ _) (wC (And.intro (Code.quiet_builtin _ (by decide +kernel)) (codeC_builtin entry_typeCall (by decide +kernel) ?_)))))
 have hm:Looks (model prog w) h (mroOf (.ref C)) cd.mro:=((Looks.ld (part:=none) hC).andThen .now).andThen .now
 have k:∀ b o,h.get? b=some o->((h.push emptyDict).push (instObj C h.objs.size)).get? b=some o:=fun b o e=>Heap.get?_push_of_some _ (Heap.get?_push_of_some _ e)
 have hx:((h.push emptyDict).push (instObj C h.objs.size)).get? (h.objs.size + 1)=some (instObj C h.objs.size):=by heap_get
 have t1:Looks (model prog w) ((h.push emptyDict).push (instObj C h.objs.size)) (typeOf (.ref (h.objs.size + 1))) (.ref C):=(Looks.ld hx).andThen .now
 have s1:=self.keeps k
 have i1:=hi.keeps k
 have b1:=(hb (.ref (h.objs.size + 1))).keeps k
 refine wP (m:=mroOf (.ref C)) (lift (hm.at ?_))
 refine wpC_neg (by rw [e4];decide) ?_
 refine wP (m:=Bind.madeBy (.ref C)) (lift (made.at ?_))
 refine wP (wC ?_)
 refine wP (wH (lift (wpAny_call (new_K Y' hi (.inl hne) ?_))))
 dsimp only
 refine wP (wP (lift (t1.at (lift (s1.at ?_)))))
 refine wP (wH (wP (wP (lift (t1.at (lift (i1.at ?_)))))))
 refine wH (wP (lift (b1.at (wP (wpC_call (codeC_mono hq fun r s' z=>?_))))))
 rcases r with e | (v | _ | _ | _) <;> first | exact z | exact z.elim | skip
 obtain ⟨rfl,z⟩:=z
 exact wC (wC z)
end
end Mn
namespace Mh
open Mn
theorem clean_caller:Clean (⟨.builtin "claim.caller" {},none,none,[],none⟩:Ctx):=fun _ h=>nomatch h
theorem ok_caller:okCode (.builtin "claim.caller" {})=true:=by decide +kernel
theorem thread_clean {prog:Program} {w:World} {t:Sem Fin} {s:Shared} {R:Result->Shared->Prop} (hreg:s.asleep)
   (h:wpC (model prog w) callerA t (fun fin s'=>∃ f,fin=.done f/\(R (.ok f) s'/\leftWithCleanup s'.gens=false)) (fun e s'=>R (.error e) s'/\leftWithCleanup s'.gens=false) s) :
   ∃ n r s' s'',runN (denote table) prog w n s ⟨t,.builtin "claim.caller" {},default,[]⟩=.halted (outcomeOf r) s' /\
     schedN (denote table) prog w n (.single s ⟨t,.builtin "claim.caller" {},default,[]⟩)=.halted (outcomeOf r) s'/\s'.forget=s''.forget/\R r s'':=by
 have h':Sem.wp (model prog w) ⟨.builtin "claim.caller" {},none,none,[],none⟩ t (Sem.finPost (model prog w) ⟨.builtin "claim.caller" {},none,none,[],none⟩ fun r s'=>R r s'/\leftWithCleanup s'.gens=false) (fun e _ s'=>R (.error e) s'/\leftWithCleanup s'.gens=false) default s :=
   Sem.wp_mono _ _ t (fun fin p' s' ⟨f,e,hf⟩=>by subst e;exact hf) (fun _ _ _ x=>x) _ _ (h _ default caller_in ok_caller clean_caller)
 obtain ⟨n,r,s1,s2,hs,hn,hfo,hR⟩:=wp_halts_full (M:=model prog w) (R:=R) hreg h'
 exact⟨n,r,s2,s1,hn,hs,hfo,hR⟩
noncomputable def SpecC (c:ClaimW) (tree:List Value->Sem Fin) (w:World) (s:Shared) (kept:Heap->Prop) (args:List WData) (ord:List DictEntry->List DictEntry):Prop :=
 ∃ vs s1,layAllW c.records (classAt s.heap) w.params ord args s=some (vs,s1) /\
   wpC (model c.prog w) callerA (tree vs) (fun fin s'=>∃ f,fin=.done f/\(c.Ends s args vs s1 (.ok f) s'/\s'.os=s.os/\AllBare s'.gens/\kept s'.heap))
     (fun e s'=>c.Ends s args vs s1 (.error e) s'/\s'.os=s.os/\AllBare s'.gens/\kept s'.heap) s1
theorem call_core {c:ClaimW} {tree:List Value->Sem Fin} {w:World} {s:Shared} {kept:Heap->Prop} {args:List WData} {ord:List DictEntry->List DictEntry} (hz:s.asleep) (sp:SpecC c tree w s kept args ord) {C:Prop}
   (K:∀ vs s1 k r s',layAllW c.records (classAt s.heap) w.params ord args s=some (vs,s1)->schedN (denote table) c.prog w k (.single s1 ⟨tree vs,.builtin "claim.caller" {},default,[]⟩)=.halted (outcomeOf r) s'->c.Ends s args vs s1 r s'->kept s'.heap ->
     s'.heap.life=s.heap.life->s'.os=s.os->C):C:=by
 obtain ⟨vs,s1,hl,hw⟩:=sp
 have rest:=layAllW_rest _ _ _ hl
 obtain ⟨k,r,s',s'',run,sched,fo,e⟩:=thread_clean (R:=fun r s'=>c.Ends s args vs s1 r s'/\s'.os=s.os/\kept s'.heap) (Shared.asleep_of_life rest.2.2.2 hz)
   (wM hw (fun fin s' ⟨f,e,h1,h2,h3,h4⟩=>⟨f,e,⟨h1,h2,h4⟩,leftWithCleanup_false_of_bare h3⟩) fun e s' ⟨h1,h2,h3,h4⟩=>⟨⟨h1,h2,h4⟩,leftWithCleanup_false_of_bare h3⟩)
 have eh:=Shared.forget_eq fo
 exact K vs s1 k r s' hl sched (e.1.congr eh.1) (by rw [eh.1];exact e.2.2) ((runN_life _ _ _ run).trans rest.2.2.2) (eh.2.2.2.1.trans e.2.1)
theorem callFrom_clean {c:ClaimW} {tree:List Value->Sem Fin} {w:World} {s:Shared} {free:Addr->Prop} {gens:Prop} {kept:Heap->Prop} (hz:s.asleep) (hgens:s.gens=#[])
   (spec:∀ args,c.pre args=true->WData.layableAll args=true->∀ ord:List DictEntry->List DictEntry,(∀ l,(ord l).Perm l)->SpecC c tree w s kept args ord) :
   c.CallFrom (fun vs=>⟨tree vs,.builtin "claim.caller" {},default,[]⟩) w free gens kept s:=fun args hpre hlay ord hord =>
 call_core hz (spec args hpre hlay ord hord) fun vs s1 k r s' hl sched ends kp life os =>
   ⟨vs,s1,hl,k,_,s',sched,ends.imp
     (fun h=>by obtain ⟨v,e,d⟩:=h;exact⟨v,congrArg outcomeOf e,d.1,d.2.1,d.2.2.1,fun b o y _=>d.2.2.2.1 b o y,d.2.2.2.2⟩)
     (fun h=>by obtain ⟨e,ob,cls,q,d⟩:=h;exact⟨e,ob,cls,congrArg outcomeOf q,d.1,d.2.1,d.2.2.1,d.2.2.2.1,fun b o y _=>d.2.2.2.2 b o y⟩),
     (fun _ i x hx=>by rw [hgens] at hx;simp at hx),kp,by rw [life],Shared.rest_eq os⟩
noncomputable abbrev WalkC (q:Program) (loose:List Str) (XP:(Str->Option Value)->Heap->Prop) (YP:World->Heap->Prop) (r:RowW) (d:DefRec) (kwd:List (Str × Expr)):Prop :=
 ∀ (w:World) (s0 s1:Shared) (mg mb:Str->Option Value),Ground q loose r.records XP w s0 mg mb s1.heap->YP w s1.heap->∀ (a:Addr) (o:Obj) (pm cd doc dV kV:Value),s1.heap.get? a=some o ->
   o.data=.func { docDef d.name d.params d.body d.scope pm cd doc with defaults:=dV,kwdefaults:=kV }->s1.heap.CodeRec cd d.name->Dflts mg s1.heap d.params kwd dV kV->mg d.name=some (.ref a)->s1.gens=#[] ->
   ∀ (args:List WData) (vals:List Value) (as:List Addr),r.claim.pre args=true->WData.layableAll args=true->ReadsAllW r.records (classAt s0.heap) s1.heap vals args as->WellAll w.params s1.heap vals args->(∀ a ∈ as,(a == sysModules)=false) ->
     wpC (model r.prog w) callerA (call (.ref a) vals) (fun v s'=>GoodWG r.claim (classAt s0.heap) (ExcName.means s0.heap) args s1 (.ok (.ret v)) s')
       (fun e s'=>GoodWG r.claim (classAt s0.heap) (ExcName.means s0.heap) args s1 (.error e) s') s1
theorem PySem.W.holds_open {r:OpenRow} {q:Program} {loose:List Str} {Xt:Shared->Bool} {XP:(Str->Option Value)->Heap->Prop} {α:Type} {Yf:Shared->α} {Ya:World->α} {YP:World->Heap->Prop} {d:DefRec} {kwd:List (Str × Expr)} {N:Nat}
   (left:LeftO r.prog q loose Xt Yf Ya N) (hY:∀ w s,Yf s=Ya w->YP w s.heap) (hYk:∀ w h h',YP w h->(∀ b o,h.get? b=some o->h'.get? b=some o)->YP w h')
   (hX:∀ s,Xt s=true->XP (s.heap.nsMap mainGlobals) s.heap) (hXk:∀ mg h h',XP mg h->(∀ b o,h.get? b=some o->h'.get? b=some o)->XP mg h')
   (hdef:defOf q r.name=some (d,kwd)) (hp:r.prog.theDef r.name=some (d.params,d.body,d.scope)) (hk:kwWritten? d.params.kwonlyargs d.params.kw_defaults=some kwd) (hRf:∀ s,Xt s=true->RecFacts r.records s.heap) (hwr:(!r.writes || r.records.isEmpty)=true)
   (k1:r.wellSaid=true) (ok:(chainsOk q && opensWell r.prog && (frees r.toRowW && r.within.isEmpty))=true) (hb:r.prog.bare) (hw:r.toRowW.promised)
   (call:WalkC q loose XP YP r.toRowW d kwd):r.Holds:=by
 refine ⟨k1,hw,?_⟩
 have ok':=Bool.and_eq_true_iff.mp ok
 have hch:=(Bool.and_eq_true_iff.mp ok'.1).1
 have o1:=(Bool.and_eq_true_iff.mp ok'.1).2
 have k6:=(Bool.and_eq_true_iff.mp ok'.2).2
 have fp:=frees_parts (Bool.and_eq_true_iff.mp ok'.2).1
 refine ⟨⟨hb,o1,by show r.toRowW.makers.map _=[];rw [fp.2.2.2.2];rfl⟩,hw.witness,fun w=>⟨(left.behind hX hch w).1,fun s' hs'=>?_⟩⟩
 obtain ⟨s0,hf,hg0,s,hT,hz,hgens,hg,G00,y⟩:=(left.behind (XP:=fun mg h=>XP mg h/\RecFacts r.records h) (fun s hs=>⟨hX s hs,hRf s hs⟩) hch w).2 s' hs'
 have G0:Ground q loose [] XP w s (s.heap.nsMap mainGlobals) (s.heap.nsMap builtinsNs) s.heap:=⟨G00.T,G00.B,G00.D,G00.TE,G00.TD,G00.W,G00.X.1,G00.cls,G00.has,G00.apart,G00.once,G00.K⟩
 have RF:=G00.X.2
 have hT':=hT
 refine ⟨s0,hf,hg0,s,hT,fun n hn=>?_,RF.1,RF.2.1,?_⟩
 . obtain rfl:n=r.name:=by split at hn <;> simp_all
   exact pinned_of_view hg G0 hdef hp hk
 have hgens:s.gens=#[]:=Array.eq_empty_of_size_eq_zero (beq_iff_eq.mp hgens)
 have G:Ground q loose r.records XP w s _ _ s.heap:=RF.ground G0
 refine callFrom_clean (c:=r.toRowW.claim) hz hgens fun args hpre hlay ord hord=>?_
 obtain ⟨⟨vs,s1⟩,hl⟩:=Option.isSome_iff_exists.mp (layAllW_isSome (P:=w.params) (ord:=ord) G.has args r.args s (pre_splitW hpre).1)
 have keeps:=layAllW_keeps _ _ _ hl
 have rest:=layAllW_rest _ _ _ hl
 obtain ⟨as,hrd,hin,hold⟩:=reads_layAllW hord _ _ _ hl hlay s1.heap (fun _ _ e=>e)
 have L:Laid r.records w s s1 args vs as:=⟨⟨ord,hord,hl⟩,hrd,hin,hold,keeps,rest.1.trans hgens,rest.2.2.1⟩
 have G1:=G.keeps hXk keeps
 obtain ⟨a,o,pm,cd,doc,dV,kV,h1,h2,h3,h4,h5⟩:=G1.fn hdef
 have W:=call w s s1 _ _ G1 (hYk _ _ _ (hY w s y) keeps) a o pm cd doc dV kV h2 h3 h4 h5 (defOf_name hdef ▸ h1) L.gens args vs as hpre hlay L.reads L.well (L.low G.low)
 have hi:=ident_freeW fp.2.1 fp.2.2.1 fp.2.2.2.1
 have hwi:r.toRowW.claim.within=[]:=List.isEmpty_iff.mp k6
 refine ⟨vs,s1,hl,?_⟩
 show wpC _ _ (do match <- nsGet mainNs r.name with
     | some f=>do ret (<- PySem.call f vs)
     | none=>unsupported "claim.caller:no-such-global") _ _ _
 refine wP (lift (wpAny_nsGet G1.T.g ?_))
 rw [h1]
 refine wP (wM W (fun v s' g=>wC ⟨_,rfl,?_⟩) fun e s' g=>?_)
 . have z:=g.laid (c:=r.toRowW.claim) fp.1 hwi hi L
   exact⟨z.1,z.2.1,z.2.2,fun q=>⟨namesKept_of hT' hg _ keeps g.2.1.old,noTable hwr q⟩⟩
 . have z:=g.laid (c:=r.toRowW.claim) fp.1 hwi hi L
   exact⟨z.1,z.2.1,z.2.2,fun q=>⟨namesKept_of hT' hg _ keeps g.2.1.old,noTable hwr q⟩⟩
end Mh
namespace Hd
set_option backward.match.sparseCases false
noncomputable abbrev pr:Program:=PySem.Challenge.pw_pq1221_01
noncomputable def st (i:Nat):Stmt:=pr.main.body.getD i (.Pass default)
noncomputable def mt (i j:Nat):Stmt:=match st i with | .ClassDef _ _ _ b ..=>b.getD j (.Pass default) | s=>s
noncomputable def md:List Value:=[.str "threepress.parse" 256,.str "threepress.matches" 711,.str "law_pq1221_01" 969,.str "__main__" 164,.str "threepress.errors" 194]
noncomputable def fn (s:Stmt) (q:Str->Str) (m:Nat) (d:Value) (c:Addr):Obj:=match s with
 | .FunctionDef n ps b _ _ _ sc ..=>⟨.type "function",none,.func { name:=n,qualname:=q n,params:=ps,body:=.stmts b,scope:=sc,globals:=3,closure:=[],defaults:=d,kwdefaults:=.none,pyModule:=md.getD m .none,code:=.ref c },#[]⟩
 | _=>default
noncomputable def fo (i m:Nat) (d:Value) (c:Addr):Obj:=fn (st i) id m d c
noncomputable def mo (i j:Nat) (q:Str) (m:Nat) (d:Value) (c:Addr):Obj:=fn (mt i j) (fun _=>q) m d c
noncomputable def to (vs:List Value):Obj:=⟨.type "tuple",none,.seq ⟨vs⟩,#[]⟩
noncomputable def co (n q:Str) (t:Nat) (l c:Int) (a b d f k:Nat):Obj:=⟨.type "code",none,.fields #[.str n t,.str q (t + 1),.str "/claim/cut.py" (t + 2),.int l 0,.int c 0,.int 0 0,.int 0 0,.int 3 0,.ref a,.bool true,.int 181 0,.ref b,.none,(match d with | 0=>.none | d=>.ref d),(match d with | 0=>.none | d=>.ref (d + 1)),.ref f,.int (t + k) 0,.int l 0,.str "/claim/cut.py" (t + k + 1)],#[]⟩
noncomputable def cl (n:Str) (bs mro:List Value) (ns:Addr) (sub:List Value) (sl:Array (Option Value)):Obj:=⟨.type "type",none,.cls { name:=n,bases:=bs,mro:=mro,ns:=ns,qualname:=n,subclasses:=sub },sl⟩
noncomputable def e' (P:Params) (k:Str) (t:Tok) (v:Value):DictEntry:=⟨PyData.keyHash P k,.str k t,v⟩
noncomputable def KK (P:Params):Frag:=let e:=e' P
 [(2,⟨.none,none,.dict #[] ,#[]⟩),
 (3,⟨.type "dict",none,.dict #[e "__name__" 165 (.str "law_pq1221_01" 969),e "__doc__" 166 (.none),e "__package__" 167 (.none),e "__loader__" 168 (.builtin "__main__.__loader__#opaque"),e "__spec__" 169 (.none),e "__annotations__" 170 (.ref 6),e "__builtins__" 171 (.ref 4),e "__file__" 173 (.str "/claim/cut.py" 172),e "__cached__" 174 (.none),e "_wall" 193 (.ref 21),e "PressError" 223 (.ref 39),e "BadDistance" 239 (.ref 52),e "BadArgument" 255 (.ref 64),e "LEAST_MATCH" 259 (.int 2 258),e "MOST_UNIT" 263 (.int 1024 262),e "check_steps" 272 (.ref 73),e "check_range" 281 (.ref 80),e "step_size" 288 (.ref 87),e "unparse" 301 (.ref 95),e "is_match_right" 312 (.ref 102),e "fits" 328 (.ref 110),e "Trail" 382 (.ref 146),e "Ways" 434 (.ref 181),e "least" 455 (.ref 193),e "slot_of" 463 (.ref 200),e "FlatPrice" 514 (.ref 232),e "Counts" 554 (.ref 260),e "counts_of" 562 (.ref 271),e "need_unit" 569 (.ref 278),e "log_units" 577 (.ref 285),e "SymbolPrices" 613 (.ref 307),e "LearntPrice" 664 (.ref 341),e "learn" 679 (.ref 353),e "put_part" 685 (.ref 358),e "cut_steps" 692 (.ref 364),e "runs_of" 703 (.ref 371),e "steps_of_runs" 710 (.ref 377),e "NOWHERE" 715 (.int (-1) 714),e "PlaceRow" 777 (.ref 415),e "Matcher" 905 (.ref 506),e "Finder" 968 (.ref 549),e "_law_figure" 980 (.ref 558),e "_law_steps" 986 (.ref 563),e "_law_tally" 992 (.ref 568),e "_law_shown" 999 (.ref 575),e "_law_fit" 1012 (.ref 582),e "_law_right" 1031 (.ref 589),e "_law_refused" 1038 (.ref 596),e "_law_odd_right" 1063 (.ref 603),e "law" 1069 (.ref 608)] 50,#[]⟩),
 (20,co "_wall" "_wall" 187 1 1 15 16 17 19 4),
 (21,fo 0 3 .none 20),
 (29,to [.str "" 208]),
 (35,co "__init__" "PressError.__init__" 209 7 2 30 31 32 34 5),
 (36,mo 2 0 "PressError.__init__" 4 (.ref 29) 35),
 (38,⟨.type "dict",none,.dict #[e "__module__" 203 (.str "threepress.errors" 194),e "__firstlineno__" 207 (.int 5 206),e "__init__" 216 (.ref 36),e "__static_attributes__" 218 (.ref 37),e "__weakref__" 220 (.ref 40),e "__doc__" 221 (.none)] 3,#[]⟩),
 (39,cl "PressError" [.type "ValueError"] [.ref 39,.type "ValueError",.type "Exception",.type "BaseException",.type "object"] 38 [.ref 52,.ref 64] #[some (.ref 22),none,some (.str "PressError" 196),some (.str "PressError" 204),some (.builtin "ValueError.__new__"),some (.bool true)]),
 (51,⟨.type "dict",none,.dict #[e "__module__" 231 (.str "threepress.errors" 194),e "__firstlineno__" 235 (.int 10 234),e "__static_attributes__" 236 (.ref 50),e "__doc__" 237 (.none)] 2,#[]⟩),
 (52,cl "BadDistance" [.ref 39] [.ref 52,.ref 39,.type "ValueError",.type "Exception",.type "BaseException",.type "object"] 51 [] #[some (.ref 43),none,some (.str "BadDistance" 224),some (.str "BadDistance" 232),some (.builtin "ValueError.__new__"),some (.bool true)]),
 (63,⟨.type "dict",none,.dict #[e "__module__" 247 (.str "threepress.errors" 194),e "__firstlineno__" 251 (.int 12 250),e "__static_attributes__" 252 (.ref 62),e "__doc__" 253 (.none)] 2,#[]⟩),
 (64,cl "BadArgument" [.ref 39] [.ref 64,.ref 39,.type "ValueError",.type "Exception",.type "BaseException",.type "object"] 63 [] #[some (.ref 55),none,some (.str "BadArgument" 240),some (.str "BadArgument" 248),some (.builtin "ValueError.__new__"),some (.bool true)]),
 (72,co "check_steps" "check_steps" 264 17 1 67 68 69 71 6),
 (73,fo 8 0 .none 72),
 (79,co "check_range" "check_range" 273 26 3 74 75 76 78 6),
 (80,fo 9 0 .none 79),
 (86,co "step_size" "step_size" 282 31 1 81 82 83 85 4),
 (87,fo 10 0 .none 86),
 (88,to [.bytes #[] 289]),
 (94,co "unparse" "unparse" 290 33 2 89 90 91 93 9),
 (95,fo 11 0 (.ref 88) 94),
 (101,co "is_match_right" "is_match_right" 302 45 4 96 97 98 100 8),
 (102,fo 12 0 .none 101),
 (103,to [.int 0 313,.int 2 258,.none,.none]),
 (109,co "fits" "fits" 314 52 6 104 105 106 108 12),
 (110,fo 13 0 (.ref 103) 109),
 (123,co "__init__" "Trail.__init__" 341 70 2 118 119 120 122 5),
 (124,mo 14 0 "Trail.__init__" 0 .none 123),
 (130,co "up_to" "Trail.up_to" 349 75 2 125 126 127 129 5),
 (131,mo 14 1 "Trail.up_to" 0 .none 130),
 (137,co "best" "Trail.best" 357 80 3 132 133 134 136 6),
 (138,mo 14 2 "Trail.best" 0 .none 137),
 (142,co "every" "Trail.every" 366 83 3 139 140 0 141 3),
 (143,mo 14 3 "Trail.every" 0 .none 142),
 (145,⟨.type "dict",none,.dict #[e "__module__" 336 (.str "threepress.parse" 256),e "__firstlineno__" 340 (.int 68 339),e "__init__" 348 (.ref 124),e "up_to" 356 (.ref 131),e "best" 365 (.ref 138),e "every" 371 (.ref 143),e "__static_attributes__" 375 (.ref 144),e "__dict__" 377 (.ref 147),e "__weakref__" 379 (.ref 148),e "__doc__" 380 (.none)] 4,#[]⟩),
 (146,cl "Trail" [.type "object"] [.ref 146,.type "object"] 145 [] #[none,none,some (.str "Trail" 329),some (.str "Trail" 337),some (.builtin "object.__new__"),some (.bool true)]),
 (163,co "__init__" "Ways.__init__" 395 88 2 158 159 160 162 5),
 (164,mo 15 0 "Ways.__init__" 0 .none 163),
 (170,co "offer" "Ways.offer" 403 93 4 165 166 167 169 9),
 (171,mo 15 1 "Ways.offer" 0 .none 170),
 (177,co "told" "Ways.told" 415 102 1 172 173 174 176 6),
 (178,mo 15 2 "Ways.told" 0 .none 177),
 (180,⟨.type "dict",none,.dict #[e "__module__" 390 (.str "threepress.parse" 256),e "__firstlineno__" 394 (.int 86 393),e "__init__" 402 (.ref 164),e "offer" 414 (.ref 171),e "told" 423 (.ref 178),e "__static_attributes__" 427 (.ref 179),e "__dict__" 429 (.ref 182),e "__weakref__" 431 (.ref 183),e "__doc__" 432 (.none)] 4,#[]⟩),
 (181,cl "Ways" [.type "object"] [.ref 181,.type "object"] 180 [] #[none,none,some (.str "Ways" 383),some (.str "Ways" 391),some (.builtin "object.__new__"),some (.bool true)]),
 (186,to [.none]),
 (192,co "least" "least" 435 108 6 187 188 189 191 18),
 (193,fo 16 0 (.ref 186) 192),
 (199,co "slot_of" "slot_of" 456 123 1 194 195 196 198 5),
 (200,fo 17 0 .none 199),
 (208,to [.int 0 476]),
 (214,co "__init__" "FlatPrice.__init__" 477 130 4 209 210 211 213 7),
 (215,mo 18 0 "FlatPrice.__init__" 0 (.ref 208) 214),
 (221,co "literal" "FlatPrice.literal" 487 137 2 216 217 218 220 5),
 (222,mo 18 1 "FlatPrice.literal" 0 .none 221),
 (228,co "match" "FlatPrice.match" 495 140 3 223 224 225 227 6),
 (229,mo 18 2 "FlatPrice.match" 0 .none 228),
 (231,⟨.type "dict",none,.dict #[e "__module__" 471 (.str "threepress.parse" 256),e "__firstlineno__" 475 (.int 128 474),e "__init__" 486 (.ref 215),e "literal" 494 (.ref 222),e "match" 503 (.ref 229),e "__static_attributes__" 507 (.ref 230),e "__dict__" 509 (.ref 233),e "__weakref__" 511 (.ref 234),e "__doc__" 512 (.none)] 4,#[]⟩),
 (232,cl "FlatPrice" [.type "object"] [.ref 232,.type "object"] 231 [] #[none,none,some (.str "FlatPrice" 464),some (.str "FlatPrice" 472),some (.builtin "object.__new__"),some (.bool true)]),
 (249,co "__init__" "Counts.__init__" 527 146 1 244 245 246 248 4),
 (250,mo 19 0 "Counts.__init__" 0 .none 249),
 (256,co "add" "Counts.add" 534 151 2 251 252 253 255 7),
 (257,mo 19 1 "Counts.add" 0 .none 256),
 (259,⟨.type "dict",none,.dict #[e "__module__" 522 (.str "threepress.parse" 256),e "__firstlineno__" 526 (.int 144 525),e "__init__" 533 (.ref 250),e "add" 543 (.ref 257),e "__static_attributes__" 547 (.ref 258),e "__dict__" 549 (.ref 261),e "__weakref__" 551 (.ref 262),e "__doc__" 552 (.none)] 4,#[]⟩),
 (260,cl "Counts" [.type "object"] [.ref 260,.type "object"] 259 [] #[none,none,some (.str "Counts" 515),some (.str "Counts" 523),some (.builtin "object.__new__"),some (.bool true)]),
 (270,co "counts_of" "counts_of" 555 159 1 265 266 267 269 5),
 (271,fo 20 0 .none 270),
 (277,co "need_unit" "need_unit" 563 163 1 272 273 274 276 4),
 (278,fo 21 0 .none 277),
 (284,co "log_units" "log_units" 570 166 2 279 280 281 283 5),
 (285,fo 22 0 .none 284),
 (296,co "__init__" "SymbolPrices.__init__" 590 170 3 293 294 0 295 3),
 (297,mo 23 0 "SymbolPrices.__init__" 0 .none 296),
 (303,co "price" "SymbolPrices.price" 596 177 2 298 299 300 302 5),
 (304,mo 23 1 "SymbolPrices.price" 0 .none 303),
 (306,⟨.type "dict",none,.dict #[e "__module__" 585 (.str "threepress.parse" 256),e "__firstlineno__" 589 (.int 168 588),e "__init__" 595 (.ref 297),e "price" 603 (.ref 304),e "__static_attributes__" 606 (.ref 305),e "__dict__" 608 (.ref 308),e "__weakref__" 610 (.ref 309),e "__doc__" 611 (.none)] 4,#[]⟩),
 (307,cl "SymbolPrices" [.type "object"] [.ref 307,.type "object"] 306 [] #[none,none,some (.str "SymbolPrices" 578),some (.str "SymbolPrices" 586),some (.builtin "object.__new__"),some (.bool true)]),
 (319,to [.int 16 626]),
 (323,co "__init__" "LearntPrice.__init__" 627 181 3 320 321 0 322 3),
 (324,mo 24 0 "LearntPrice.__init__" 0 (.ref 319) 323),
 (330,co "literal" "LearntPrice.literal" 633 195 2 325 326 327 329 5),
 (331,mo 24 1 "LearntPrice.literal" 0 .none 330),
 (337,co "match" "LearntPrice.match" 641 198 3 332 333 334 336 10),
 (338,mo 24 2 "LearntPrice.match" 0 .none 337),
 (340,⟨.type "dict",none,.dict #[e "__module__" 621 (.str "threepress.parse" 256),e "__firstlineno__" 625 (.int 179 624),e "__init__" 632 (.ref 324),e "literal" 640 (.ref 331),e "match" 653 (.ref 338),e "__static_attributes__" 657 (.ref 339),e "__dict__" 659 (.ref 342),e "__weakref__" 661 (.ref 343),e "__doc__" 662 (.none)] 4,#[]⟩),
 (341,cl "LearntPrice" [.type "object"] [.ref 341,.type "object"] 340 [] #[none,none,some (.str "LearntPrice" 614),some (.str "LearntPrice" 622),some (.builtin "object.__new__"),some (.bool true)]),
 (346,to [.int 16 665]),
 (352,co "learn" "learn" 666 202 6 347 348 349 351 11),
 (353,fo 25 0 (.ref 346) 352),
 (357,co "put_part" "put_part" 680 210 6 354 355 0 356 3),
 (358,fo 26 0 .none 357),
 (359,to [.bytes #[] 686,.int 2 258]),
 (363,co "cut_steps" "cut_steps" 687 215 4 360 361 0 362 3),
 (364,fo 27 0 (.ref 359) 363),
 (370,co "runs_of" "runs_of" 693 239 1 365 366 367 369 8),
 (371,fo 28 0 .none 370),
 (372,to [.bytes #[] 704]),
 (376,co "steps_of_runs" "steps_of_runs" 705 249 2 373 374 0 375 3),
 (377,fo 29 0 (.ref 372) 376),
 (390,co "__init__" "PlaceRow.__init__" 728 261 3 385 386 387 389 6),
 (391,mo 32 0 "PlaceRow.__init__" 1 .none 390),
 (397,co "key" "PlaceRow.key" 737 269 2 392 393 394 396 7),
 (398,mo 32 1 "PlaceRow.key" 1 .none 397),
 (404,co "put" "PlaceRow.put" 747 279 2 399 400 401 403 6),
 (405,mo 32 2 "PlaceRow.put" 1 .none 404),
 (411,co "newest" "PlaceRow.newest" 756 285 2 406 407 408 410 7),
 (412,mo 32 3 "PlaceRow.newest" 1 .none 411),
 (414,⟨.type "dict",none,.dict #[e "__module__" 723 (.str "threepress.matches" 711),e "__firstlineno__" 727 (.int 259 726),e "__init__" 736 (.ref 391),e "key" 746 (.ref 398),e "put" 755 (.ref 405),e "newest" 765 (.ref 412),e "__static_attributes__" 770 (.ref 413),e "__dict__" 772 (.ref 416),e "__weakref__" 774 (.ref 417),e "__doc__" 775 (.none)] 4,#[]⟩),
 (415,cl "PlaceRow" [.type "object"] [.ref 415,.type "object"] 414 [] #[none,none,some (.str "PlaceRow" 716),some (.str "PlaceRow" 724),some (.builtin "object.__new__"),some (.bool true)]),
 (432,co "__init__" "Matcher.__init__" 790 295 5 427 428 429 431 8),
 (433,mo 33 0 "Matcher.__init__" 1 .none 432),
 (439,co "put" "Matcher.put" 801 308 2 434 435 436 438 5),
 (440,mo 33 1 "Matcher.put" 1 .none 439),
 (446,co "enter" "Matcher.enter" 809 314 2 441 442 443 445 5),
 (447,mo 33 2 "Matcher.enter" 1 .none 446),
 (453,co "put_all" "Matcher.put_all" 817 317 2 448 449 450 452 5),
 (454,mo 33 3 "Matcher.put_all" 1 .none 453),
 (460,co "limit" "Matcher.limit" 825 320 3 455 456 457 459 6),
 (461,mo 33 4 "Matcher.limit" 1 .none 460),
 (467,co "length" "Matcher.length" 834 323 4 462 463 464 466 7),
 (468,mo 33 5 "Matcher.length" 1 .none 467),
 (474,co "alike" "Matcher.alike" 844 328 5 469 470 471 473 9),
 (475,mo 33 6 "Matcher.alike" 1 .none 474),
 (481,co "is_near" "Matcher.is_near" 856 334 3 476 477 478 480 6),
 (482,mo 33 7 "Matcher.is_near" 1 .none 481),
 (488,co "repeat" "Matcher.repeat" 865 337 4 483 484 485 487 7),
 (489,mo 33 8 "Matcher.repeat" 1 .none 488),
 (495,co "every" "Matcher.every" 875 340 3 490 491 492 494 6),
 (496,mo 33 9 "Matcher.every" 1 .none 495),
 (502,co "best" "Matcher.best" 884 343 3 497 498 499 501 6),
 (503,mo 33 10 "Matcher.best" 1 .none 502),
 (505,⟨.type "dict",none,.dict #[e "__module__" 785 (.str "threepress.matches" 711),e "__firstlineno__" 789 (.int 293 788),e "__init__" 800 (.ref 433),e "put" 808 (.ref 440),e "enter" 816 (.ref 447),e "put_all" 824 (.ref 454),e "limit" 833 (.ref 461),e "length" 843 (.ref 468),e "alike" 855 (.ref 475),e "is_near" 864 (.ref 482),e "repeat" 874 (.ref 489),e "every" 883 (.ref 496),e "best" 892 (.ref 503),e "__static_attributes__" 898 (.ref 504),e "__dict__" 900 (.ref 507),e "__weakref__" 902 (.ref 508),e "__doc__" 903 (.none)] 4,#[]⟩),
 (506,cl "Matcher" [.type "object"] [.ref 506,.type "object"] 505 [.ref 549] #[none,none,some (.str "Matcher" 778),some (.str "Matcher" 786),some (.builtin "object.__new__"),some (.bool true)]),
 (518,to [.int 3 918,.int 32768 919,.int 32 920]),
 (524,co "__init__" "Finder.__init__" 921 347 5 519 520 521 523 8),
 (525,mo 34 0 "Finder.__init__" 1 (.ref 518) 524),
 (531,co "enter" "Finder.enter" 932 351 2 526 527 528 530 5),
 (532,mo 34 1 "Finder.enter" 1 .none 531),
 (538,co "candidates" "Finder.candidates" 940 354 2 533 534 535 537 7),
 (539,mo 34 2 "Finder.candidates" 1 .none 538),
 (545,co "every" "Finder.every" 950 362 3 540 541 542 544 11),
 (546,mo 34 3 "Finder.every" 1 .none 545),
 (548,⟨.type "dict",none,.dict #[e "__module__" 913 (.str "threepress.matches" 711),e "__firstlineno__" 917 (.int 345 916),e "__init__" 931 (.ref 525),e "enter" 939 (.ref 532),e "candidates" 949 (.ref 539),e "every" 963 (.ref 546),e "__static_attributes__" 965 (.ref 547),e "__doc__" 966 (.none)] 2,#[]⟩),
 (549,cl "Finder" [.ref 506] [.ref 549,.ref 506,.type "object"] 548 [] #[some (.ref 511),none,some (.str "Finder" 906),some (.str "Finder" 914),some (.builtin "object.__new__"),some (.bool true)]),
 (557,co "_law_figure" "_law_figure" 971 375 2 552 553 554 556 7),
 (558,fo 36 2 .none 557),
 (562,co "_law_steps" "_law_steps" 981 382 2 559 560 0 561 3),
 (563,fo 37 2 .none 562),
 (567,co "_law_tally" "_law_tally" 987 394 1 564 565 0 566 3),
 (568,fo 38 2 .none 567),
 (574,co "_law_shown" "_law_shown" 993 400 1 569 570 571 573 4),
 (575,fo 39 2 .none 574),
 (581,co "_law_fit" "_law_fit" 1000 402 3 576 577 578 580 10),
 (582,fo 40 2 .none 581),
 (588,co "_law_right" "_law_right" 1013 410 4 583 584 585 587 16),
 (589,fo 41 2 .none 588),
 (595,co "_law_refused" "_law_refused" 1032 427 1 590 591 592 594 4),
 (596,fo 42 2 .none 595),
 (602,co "_law_odd_right" "_law_odd_right" 1039 435 5 597 598 599 601 22),
 (603,fo 43 2 .none 602),
 (607,co "law" "law" 1064 461 1 604 605 0 606 3),
 (608,fo 44 2 .none 607)]
noncomputable def asK:List Addr:=[2,3,20,21,29,35,36,38,39,51,52,63,64,72,73,79,80,86,87,88,94,95,101,102,103,109,110,123,124,130,131,137,138,142,143,145,146,163,164,170,171,177,178,180,181,186,192,193,199,200,208,214,215,221,222,228,229,231,232,249,250,256,257,259,260,270,271,277,278,284,285,296,297,303,304,306,307,319,323,324,330,331,337,338,340,341,346,352,353,357,358,359,363,364,370,371,372,376,377,390,391,397,398,404,405,411,412,414,415,432,433,439,440,446,447,453,454,460,461,467,468,474,475,481,482,488,489,495,496,502,503,505,506,518,524,525,531,532,538,539,545,546,548,549,557,558,562,563,567,568,574,575,581,582,588,589,595,596,602,603,607,608]
set_option backward.match.sparseCases true
noncomputable def topT (tb:String->Option Builtin) (p:Program) (w:World) (n0:Nat) (ann:Option Value) (n:Nat):SharedT->Thread->Option SharedT :=
 Nat.rec (fun _ _=>none) (fun _ ih s t=>match through t with
   | true=>some s
   | false=>match stepOk n0 ann t with
     | false=>none
     | true=>match stepT (denote tb) p w s t with
       | some (s',t')=>ih s' t'
       | none=>none) n
theorem topT_of {tb:String->Option Builtin} {p:Program} {w:World} {n0:Nat} {ann:Option Value}:∀ {n:Nat} {s s':SharedT} {t:Thread},topT tb p w n0 ann n s t=some s'->topRun tb p w n0 ann n s.abs t=some s'.abs
 | 0,_,_,_,h=>by cases h
 | n + 1,s,s',t,h=>by
   have h:(match through t with
     | true=>some s
     | false=>match stepOk n0 ann t with
       | false=>none
       | true=>match stepT (denote tb) p w s t with
         | some (s',t')=>topT tb p w n0 ann n s' t'
         | none=>none)=some s':=h
   unfold topRun
   cases he:through t with
   | true=>rw [he] at h;cases h;rfl
   | false =>
     rw [he] at h
     cases hk:stepOk n0 ann t with
     | false=>rw [hk] at h;cases h
     | true =>
       rw [hk] at h
       cases hs:stepT (denote tb) p w s t with
       | none=>rw [hs] at h;cases h
       | some r=>obtain ⟨s2,t2⟩:=r;rw [hs] at h;dsimp only;rw [stepT_spec hs];exact topT_of h
noncomputable def topQ (p:Program) (w:World) (n0:Nat) (ann:Option Value) (n:Nat):SharedT->Thread->Option SharedT :=
 Nat.rec (fun _ _=>none) (fun _ ih s t=>match through t with
   | true=>some s
   | false=>match Fast.tw6613529449190102663 n0 ann t with
     | false=>none
     | true=>match Fast.tw10156331382660048174 (Fast.tw11892475500146522536 Fast.tw14364793385576792824) p w s t with
       | some (s',t')=>ih s' t'
       | none=>none) n
theorem topQ_eq:topT treeTable=topQ:=by
 unfold topT topQ
 rw [Fast.te6613529449190102663,Fast.te10156331382660048174,Fast.te11892475500146522536,Fast.te14364793385576792824]
noncomputable def bt:List Obj->Nat->BT->BT
 | [],_,t=>t
 | o :: r,n,t=>bt r (n+1) (t.ins n o)
noncomputable def s0 (w:World) (os:OsState):SharedT:=⟨bt (boot_heap w.params).objs.toList 0 .nil,11,(boot_heap w.params).life,#[],boot_drawn,boot_toks,os⟩
theorem s0_abs (w:World) (os:OsState):(s0 w os).abs=⟨boot_heap w.params,#[],boot_drawn,boot_toks,os⟩:=by kernel_rfl
noncomputable def qv:Program:=view pr [0,2,3,4,6,7,8,9,10,12,14,15,17,18,19,20,21,22,23,24,26,28,31,32,33,34,36,37,38,39,40,41,42,43,44]
noncomputable def ls:List Str:=["PressError","MOST_UNIT","unparse","fits","least","learn","cut_steps","steps_of_runs","Finder"]
noncomputable def lv:List (Str × WData):=[("MOST_UNIT",.int 1024)]
noncomputable def Xt (s:Shared):Bool:=xlAt qv lv s && recOk [] s
noncomputable abbrev HH:Hook:=kmHook KK asK (fun _=>by kernel_rfl) [598]
noncomputable abbrev mds:List Str:=importedModules pr.main.body
noncomputable def ends (w:World) (s:Shared):Bool:=staticsOk mds (boot_heap w.params) s.heap && namesBound pr s.heap && gensDone s && laidKept (boot_heap w.params) s.heap
theorem run3 (w:World) (os:OsState):((topQ pr w 11 (some (.ref 6)) 9136 (s0 w os) (topStub pr)).map fun s=>(ends w s.abs,Fast.tw4187177175401517315 qv ls mds Xt true s.abs,HH.obs s.abs))=some (true,openGood qv ls,HH.val w):=by kernel_rfl
theorem m0 (w:World):(boot_heap w.params).isNs mainGlobals=true:=by kernel_rfl
theorem m1 (w:World):(boot_heap w.params).objs.size=11:=by kernel_rfl
theorem m2 (w:World):(boot_heap w.params).nsMap mainGlobals "__annotations__"=some (.ref 6):=by kernel_rfl
theorem opn (w:World):(fencedOpening treeTable pr w 9136).map (fun s=>(s.heap,s.gens,s.drawn,s.toks))=some (boot_heap w.params,#[],boot_drawn,boot_toks) :=
 boot_open (p:=pr) (N:=9136) (by kernel_rfl) (by kernel_rfl) (fun _=>by kernel_rfl) w
theorem frm {p:Program} {w:World} {N n:Nat} {ann:Option Value} {s0 s1:Shared} (h1:s0.heap.isNs mainGlobals=true) (h1':(s0.gens.size == 0)=true) (h2:s0.heap.objs.size=n) (h3:s0.heap.nsMap mainGlobals "__annotations__"=ann) (h4:topRun treeTable p w n ann N s0 (topStub p)=some s1)
   (h5:(staticsOk (importedModules p.main.body) s0.heap s1.heap && namesBound p s1.heap && gensDone s1 && laidKept s0.heap s1.heap)=true):topFrom treeTable p w N s0=some s1:=by
 unfold topFrom
 rw [h1,h1',h2,h3,h4]
 show (match (staticsOk (importedModules p.main.body) s0.heap s1.heap && namesBound p s1.heap && gensDone s1 && laidKept s0.heap s1.heap) with | true=>_ | false=>_)=_
 rw [h5]
theorem lft {p q:Program} {loose:List Str} {Xt:Shared->Bool} {α:Type} {Yf:Shared->α} {Ya:World->α} {N n:Nat} {ann:Option Value} {H:Params->Heap} {d:Drawn} {k:Nat} (S:World->OsState->SharedT)
   (ho:∀ w:World,(fencedOpening treeTable p w N).map (fun s=>(s.heap,s.gens,s.drawn,s.toks))=some (H w.params,#[],d,k)) (h0:∀ w os,(S w os).abs=⟨H w.params,#[],d,k,os⟩)
   (h1:∀ w:World,(H w.params).isNs mainGlobals=true) (h2:∀ w:World,(H w.params).objs.size=n) (h3:∀ w:World,(H w.params).nsMap mainGlobals "__annotations__"=ann)
   (h4:∀ w os,((topT treeTable p w n ann N (S w os) (topStub p)).map fun s=>((staticsOk (importedModules p.main.body) (H w.params) s.abs.heap && namesBound p s.abs.heap && gensDone s.abs && laidKept (H w.params) s.abs.heap),openSeen q loose (importedModules p.main.body) Xt true s.abs,Yf s.abs))=some (true,openGood q loose,Ya w)) :
   LeftO p q loose Xt Yf Ya N:=fun w=>by
 obtain ⟨⟨h,gs,d,k,os⟩,e,e'⟩:=Option.map_eq_some_iff.mp (ho w)
 simp only [Prod.mk.injEq] at e'
 obtain ⟨rfl,rfl,rfl,rfl⟩:=e'
 obtain ⟨s,r,z⟩:=Option.map_eq_some_iff.mp (h4 w os)
 simp only [Prod.mk.injEq] at z
 have r:=topT_of r
 rw [h0] at r
 unfold openEnds
 rw [e]
 show (topFrom treeTable p w N _).map _=_
 rw [frm (h1 w) rfl (h2 w) (h3 w) r z.1]
 exact congrArg some (Prod.ext z.2.1 z.2.2)
theorem left:LeftO pr qv ls Xt HH.obs HH.val 9136:=lft s0 opn s0_abs m0 m1 m2 (by rw [topQ_eq,Fast.te4187177175401517315];exact run3)
noncomputable def dl:DefRec:=match defOf qv "law" with | some (d,_)=>d | none=>⟨"law",⟨[],[],none,[],[],none,[]⟩,[],default,default⟩
theorem said:PySem.Challenge.rw_pq1221_01.wellSaid=true:=by kernel_rfl
open Mh in
theorem hd (walk:WalkC qv ls (XL qv lv) HH.says PySem.Challenge.rw_pq1221_01.row.toRowW dl []):PySem.Challenge.rw_pq1221_01.Holds:=by
 refine holds_law said fun said=>?_
 refine Mh.PySem.W.holds_open (q:=qv) (loose:=ls) (Xt:=Xt) (XP:=XL qv lv) (Yf:=HH.obs) (Ya:=HH.val) (YP:=HH.says) (d:=dl) (kwd:=[]) (N:=9136) left HH.of HH.keeps (fun s e=>xl_of s (Bool.and_eq_true_iff.mp e).1) XL.keeps (by kernel_rfl) (by kernel_rfl) (by kernel_rfl) (fun s e=>recFacts_of (Bool.and_eq_true_iff.mp e).2) (by kernel_rfl) said (by kernel_rfl) ⟨rfl,rfl,rfl,rfl,rfl,by decide +kernel⟩ ?_ walk
 w_witness2
end Hd
namespace Mn
set_option backward.match.sparseCases false
theorem one {α:Type} {x:Option α} {a b:α} (h:x=some a) (k:x=some b):a=b:=Option.some.inj (h.symm.trans k)
theorem na {α:Type} {x:Option α} {a:α} {P:Prop} (h:x=none) (k:x=some a):P:=Option.noConfusion rfl (heq_of_eq (h.symm.trans k))
inductive MV where
 | none
 | bool (b:Bool)
 | int (i:Int)
 | str (x:Str)
 | bytes (b:List Int)
 | tup (vs:List MV)
 | ref (a:Addr)
 | lit (v:Value)
 | ilist (xs:List Int)
 | clo (e:Expr) (sc:Scope) (cl:List (Str × Addr))
inductive CK where
 | obj (q:Str)
 | tab (q:Str)
inductive MObj where
 | list (xs:List MV)
 | barr (b:List Int)
 | dict (es:List (Int × MV))
 | cell (v:Option MV)
 | inst (C dx:Addr)
 | ns (m:Nat->Option MV)
 | hid
 | code (q:CK)
noncomputable abbrev Own:=Addr->Option MObj
noncomputable abbrev Loc:=Nat->Option MV
noncomputable abbrev PE:=Value->Own->Prop
noncomputable abbrev PV:=MV->Own->Prop
theorem nO {O:Nat->Option MObj} {a b:Nat} {o:MObj} (h:O a=some o) (k:O b=none):a ≠ b:=fun e=>na k (e ▸ h)
noncomputable def octs (b:Array UInt8):List Int:=b.toList.map fun u=>(u.toNat:Int)
noncomputable def idx:List Str->Str->Option Nat
 | [],_=>none
 | y :: r,x=>if x=y then some 0 else (idx r x).map (· + 1)
theorem idx_c {y:Str} {r:List Str} {x:Str}:idx (y :: r) x=if x=y then some 0 else (idx r x).map (· + 1):=rfl
noncomputable def rget (vars:List Str) (J:Loc) (x:Str):Option MV:=(idx vars x).bind J
theorem idx_inj:∀ {l:List Str} {x y:Str} {k:Nat},idx l x=some k->idx l y=some k->x=y
 | [],_,_,_,h,_=>by cases h
 | z :: r,x,y,k,h,h'=>by
   rw [idx_c] at h h'
   by_cases hx:x=z
   . rw [if_pos hx] at h
     by_cases hy:y=z
     . rw [hx,hy]
     . rw [if_neg hy] at h'
       injection h with h;subst h
       cases q:idx r y <;> rw [q] at h' <;> simp at h'
   . rw [if_neg hx] at h
     by_cases hy:y=z
     . rw [if_pos hy] at h'
       injection h' with h';subst h'
       cases q:idx r x <;> rw [q] at h <;> simp at h
     . rw [if_neg hy] at h'
       cases q:idx r x with
       | none=>rw [q] at h;simp at h
       | some i =>
         cases q':idx r y with
         | none=>rw [q'] at h';simp at h'
         | some j =>
           rw [q] at h;rw [q'] at h'
           simp at h h'
           exact idx_inj q (by rw [q'];congr 1;lia)
noncomputable def upd {β:Type} (m:Nat->Option β) (k:Nat) (v:β):Nat->Option β:=fun j=>if j=k then some v else m j
theorem rget_upd {vars:List Str} {J:Loc} {x y:Str} {k:Nat} {v:MV} (h:idx vars x=some k):rget vars (upd J k v) y=if y=x then some v else rget vars J y:=by
 unfold rget
 by_cases e:y=x
 . subst e;rw [h,if_pos rfl];simp [upd]
 . rw [if_neg e]
   cases q:idx vars y with
   | none=>rfl
   | some j =>
     have:j ≠ k:=fun z=>e (idx_inj q (z ▸ h))
     simp [upd,this]
noncomputable def CodeAt (O:Own) (cd:Value) (q:Str):Prop:=∃ c,cd=.ref c/\O c=some (.code (.obj q))
noncomputable def lamObj (O:Own) (h:Heap) (a:Addr) (e:Expr) (sc:Scope) (cl:List (Str × Addr)):Prop :=
 ∃ fd:FuncData,O a=none/\h.get? a=some { cls:=.type "function",data:=.func fd }/\fd.body=.expr e/\fd.scope=sc/\fd.closure=cl/\fd.params=⟨[],[],none,[],[],none,[]⟩ /\
   fd.globals=mainGlobals/\fd.builtins=builtinsNs/\fd.defaults=.none/\fd.kwdefaults=.none/\CodeAt O fd.code fd.qualname
structure GC where
 prog:Program
 w:World
 hB:Heap
mutual
inductive VE (hB:Heap) (O:Own) (h:Heap):Value->MV->Prop
 | none:VE hB O h .none .none
 | bool (b:Bool):VE hB O h (.bool b) (.bool b)
 | int (i:Int) (t:Tok):VE hB O h (.int i t) (.int i)
 | str (x:Str) (t:Tok):VE hB O h (.str x t) (.str x)
 | bytes (b:Array UInt8) (t:Tok):VE hB O h (.bytes b t) (.bytes (octs b))
 | tup {a:Addr} {vs:List Value} {n:Nat} {ms:List MV}:O a=none->h.get? a=some ({ cls:=.type "tuple",data:=.seq vs.toArray n }:Obj)->VR hB O h vs ms->VE hB O h (.ref a) (.tup ms)
 | ref (a:Addr):VE hB O h (.ref a) (.ref a)
 | lit (v:Value):VE hB O h v (.lit v)
 | ilist {a:Addr} {vs:List Value} {n:Nat} {xs:List Int}:hB.get? a=some ({ cls:=.type "list",data:=.seq vs.toArray n }:Obj)->IntsAre vs xs->VE hB O h (.ref a) (.ilist xs)
 | clo {a:Addr} {e:Expr} {sc:Scope} {cl:List (Str × Addr)}:lamObj O h a e sc cl->VE hB O h (.ref a) (.clo e sc cl)
inductive VR (hB:Heap) (O:Own) (h:Heap):List Value->List MV->Prop
 | nil:VR hB O h [] []
 | cons {v:Value} {m:MV} {vs:List Value} {ms:List MV}:VE hB O h v m->VR hB O h vs ms->VR hB O h (v :: vs) (m :: ms)
end
noncomputable def vOf (hB:Heap) (O:Own) (h:Heap):MV->Value->Prop
 | .none,v=>v=.none
 | .bool b,v=>v=.bool b
 | .int i,v=>∃ t,v=.int i t
 | .str x,v=>∃ t,v=.str x t
 | .bytes l,v=>∃ b t,v=.bytes b t/\octs b=l
 | .tup ms,v=>∃ a vs n,v=.ref a/\O a=none/\h.get? a=some ({ cls:=.type "tuple",data:=.seq vs.toArray n }:Obj)/\VR hB O h vs ms
 | .ref a,v=>v=.ref a
 | .lit u,v=>v=u
 | .ilist xs,v=>∃ a vs n,v=.ref a/\hB.get? a=some ({ cls:=.type "list",data:=.seq vs.toArray n }:Obj)/\IntsAre vs xs
 | .clo e sc cl,v=>∃ a,v=.ref a/\lamObj O h a e sc cl
section
variable {hB:Heap} {O:Own} {h:Heap} {v:Value}
theorem VE.inv {m:MV} (x:VE hB O h v m):vOf hB O h m v:=by
 cases x with
 | none | bool | ref | lit=>exact rfl
 | int | str=>exact⟨_,rfl⟩
 | bytes=>exact⟨_,_,rfl,rfl⟩
 | tup a b c=>exact⟨_,_,_,rfl,a,b,c⟩
 | ilist a b=>exact⟨_,_,_,rfl,a,b⟩
 | clo a=>exact⟨_,rfl,a⟩
theorem VE.n (x:VE hB O h v .none):v=.none:=x.inv
theorem VE.b {b:Bool} (x:VE hB O h v (.bool b)):v=.bool b:=x.inv
theorem VE.i {i:Int} (x:VE hB O h v (.int i)):∃ t,v=.int i t:=x.inv
theorem VE.s {y:Str} (x:VE hB O h v (.str y)):∃ t,v=.str y t:=x.inv
theorem VE.y {l:List Int} (x:VE hB O h v (.bytes l)):∃ b t,v=.bytes b t/\octs b=l:=x.inv
theorem VE.t {ms:List MV} (x:VE hB O h v (.tup ms)):∃ a vs n,v=.ref a/\O a=Option.none/\h.get? a=some ({ cls:=.type "tuple",data:=.seq vs.toArray n }:Obj)/\VR hB O h vs ms:=x.inv
theorem VE.r {a:Addr} (x:VE hB O h v (.ref a)):v=.ref a:=x.inv
theorem VE.l {u:Value} (x:VE hB O h v (.lit u)):v=u:=x.inv
theorem VE.x {xs:List Int} (x:VE hB O h v (.ilist xs)):∃ a vs n,v=.ref a/\hB.get? a=some ({ cls:=.type "list",data:=.seq vs.toArray n }:Obj)/\IntsAre vs xs:=x.inv
theorem VE.f {e:Expr} {sc:Scope} {cl:List (Str × Addr)} (x:VE hB O h v (.clo e sc cl)):∃ a,v=.ref a/\lamObj O h a e sc cl:=x.inv
end
inductive DR (hB:Heap) (O:Own) (h:Heap):List (Int × Value)->List (Int × MV)->Prop
 | nil:DR hB O h [] []
 | cons {k:Int} {v:Value} {m:MV} {vs:List (Int × Value)} {ms:List (Int × MV)}:VE hB O h v m->DR hB O h vs ms->DR hB O h ((k,v) :: vs) ((k,m) :: ms)
noncomputable def VOpt (hB:Heap) (O:Own) (h:Heap):Option Value->Option MV->Prop
 | some v,some m=>VE hB O h v m
 | none,none=>True
 | _,_=>False
noncomputable def Still (o:Obj):Prop:=(o.cls=.type "tuple" \/ o.cls=.type "function")/\∀ vs,o.data ≠ .fields vs
noncomputable def Kd (O:Own) (h:Heap) (O':Own) (h':Heap):Prop:=(∀ a o,O a=none->h.get? a=some o->Still o->O' a=none/\h'.get? a=some o)/\∀ c q,O c=some (.code q)->O' c=some (.code q)
theorem Kd.refl (O:Own) (h:Heap):Kd O h O h:=⟨fun _ _ n e _=>⟨n,e⟩,fun _ _ e=>e⟩
theorem Kd.trans {O O' O'':Own} {h h' h'':Heap} (x:Kd O h O' h') (y:Kd O' h' O'' h''):Kd O h O'' h'':=⟨fun a o n e s=>y.1 a o (x.1 a o n e s).1 (x.1 a o n e s).2 s,fun c q e=>y.2 c q (x.2 c q e)⟩
theorem Kd.of {O:Own} {h h':Heap} (k:∀ a o,h.get? a=some o->h'.get? a=some o):Kd O h O h':=⟨fun a o n e _=>⟨n,k a o e⟩,fun _ _ e=>e⟩
theorem CodeAt.mono {O O':Own} {h h':Heap} (k:Kd O h O' h') {cd:Value} {q:Str} (x:CodeAt O cd q):CodeAt O' cd q :=
 Exists.imp (fun c x=>⟨x.1,k.2 c (.obj q) x.2⟩) x
theorem lamObj.mono {O O':Own} {h h':Heap} (k:Kd O h O' h') {a:Addr} {e:Expr} {sc:Scope} {cl:List (Str × Addr)} (x:lamObj O h a e sc cl):lamObj O' h' a e sc cl :=
 Exists.imp (fun fd t=>have q:=k.1 _ _ t.1 t.2.1 ⟨.inr rfl,by simp⟩;⟨q.1,q.2,t.2.2.imp_right (And.imp_right (And.imp_right (And.imp_right (And.imp_right (And.imp_right (And.imp_right (And.imp_right (CodeAt.mono k))))))))⟩) x
section
variable {hB h h':Heap} {O O':Own}
theorem VR.ind {P:List Value->List MV->Prop} (n:P [] []) (c:∀ {v m vs ms},VE hB O h v m->VR hB O h vs ms->P vs ms->P (v :: vs) (m :: ms)) {vs:List Value} {ms:List MV} (x:VR hB O h vs ms):P vs ms :=
 VR.rec (motive_1:=fun _ _ _=>True) (motive_2:=fun vs ms _=>P vs ms) trivial (fun _=>trivial) (fun _ _=>trivial) (fun _ _=>trivial) (fun _ _=>trivial) (fun _ _ _ _=>trivial) (fun _=>trivial) (fun _=>trivial) (fun _ _=>trivial) (fun _=>trivial) n (fun a r _ ih=>c a r ih) x
theorem VE.mono (k:Kd O h O' h') {v:Value} {m:MV} (x:VE hB O h v m):VE hB O' h' v m :=
 VE.rec (motive_1:=fun v m _=>VE hB O' h' v m) (motive_2:=fun vs ms _=>VR hB O' h' vs ms) .none .bool .int .str .bytes (fun n ho _ ih=>.tup (k.1 _ _ n ho ⟨.inl rfl,by simp⟩).1 (k.1 _ _ n ho ⟨.inl rfl,by simp⟩).2 ih) .ref .lit .ilist (fun x=>.clo (x.mono k)) .nil (fun _ _ a r=>.cons a r) x
theorem VR.mono (k:Kd O h O' h') {vs:List Value} {ms:List MV} (x:VR hB O h vs ms):VR hB O' h' vs ms :=
 VR.ind (P:=fun vs ms=>VR hB O' h' vs ms) .nil (fun a _ ih=>.cons (VE.mono k a) ih) x
theorem DR.mono (k:Kd O h O' h') {vs:List (Int × Value)} {ms:List (Int × MV)} (x:DR hB O h vs ms):DR hB O' h' vs ms :=
 DR.rec (motive:=fun vs ms _=>DR hB O' h' vs ms) .nil (fun a _ ih=>.cons (a.mono k) ih) x
theorem VOpt.mono (k:Kd O h O' h') {a:Option Value} {b:Option MV} (x:VOpt hB O h a b):VOpt hB O' h' a b:=by
 cases a <;> cases b <;> first | exact x | exact VE.mono k x
theorem VR.length {vs:List Value} {ms:List MV} (x:VR hB O h vs ms):vs.length=ms.length :=
 VR.ind (P:=fun vs ms=>vs.length=ms.length) rfl (fun _ _ ih=>congrArg Nat.succ ih) x
theorem VR.uncons {vs:List Value} {m:MV} {ms:List MV} (x:VR hB O h vs (m :: ms)):∃ v r,vs=v :: r/\VE hB O h v m/\VR hB O h r ms:=by
 cases x with
 | cons a r=>exact⟨_,_,rfl,a,r⟩
theorem VR.append {vs ws:List Value} {ms ns:List MV} (x:VR hB O h vs ms) (k:VR hB O h ws ns):VR hB O h (vs ++ ws) (ms ++ ns) :=
 VR.ind (P:=fun vs ms=>VR hB O h (vs ++ ws) (ms ++ ns)) k (fun a _ ih=>.cons a ih) x
theorem VR.get {vs:List Value} {ms:List MV} (x:VR hB O h vs ms):∀ {i:Nat} {m:MV},ms[i]?=some m->∃ v,vs[i]?=some v/\VE hB O h v m :=
 VR.ind (P:=fun vs ms=>∀ {i:Nat} {m:MV},ms[i]?=some m->∃ v,vs[i]?=some v/\VE hB O h v m) (fun e=>Option.noConfusion rfl (heq_of_eq e)) (fun {v _ _ _} a _ ih {i}=>by
   cases i with
   | zero=>exact fun e=>⟨v,rfl,Option.some.inj e ▸ a⟩
   | succ i=>exact ih) x
theorem VR.set {vs:List Value} {ms:List MV} (x:VR hB O h vs ms):∀ (i:Nat) {v:Value} {m:MV},VE hB O h v m->VR hB O h (vs.set i v) (ms.set i m) :=
 VR.ind (P:=fun vs ms=>∀ (i:Nat) {v:Value} {m:MV},VE hB O h v m->VR hB O h (vs.set i v) (ms.set i m)) (fun _ _ _ _=>.nil) (fun a r ih i v m y=>by
   cases i with
   | zero=>exact .cons y r
   | succ i=>exact .cons a (ih i y)) x
theorem VR.take {vs:List Value} {ms:List MV} (x:VR hB O h vs ms):∀ n,VR hB O h (vs.take n) (ms.take n) :=
 VR.ind (P:=fun vs ms=>∀ n,VR hB O h (vs.take n) (ms.take n)) (fun n=>by cases n <;> exact .nil) (fun a r ih n=>by
   cases n with
   | zero=>exact .nil
   | succ n=>exact .cons a (ih n)) x
theorem VR.drop {vs:List Value} {ms:List MV} (x:VR hB O h vs ms):∀ n,VR hB O h (vs.drop n) (ms.drop n) :=
 VR.ind (P:=fun vs ms=>∀ n,VR hB O h (vs.drop n) (ms.drop n)) (fun n=>by cases n <;> exact .nil) (fun a r ih n=>by
   cases n with
   | zero=>exact .cons a r
   | succ n=>exact ih n) x
theorem VR.reverse {vs:List Value} {ms:List MV} (x:VR hB O h vs ms):VR hB O h vs.reverse ms.reverse :=
 VR.ind (P:=fun vs ms=>VR hB O h vs.reverse ms.reverse) .nil (fun a _ ih=>by rw [List.reverse_cons,List.reverse_cons];exact VR.append ih (.cons a .nil)) x
end
noncomputable def aR:List Str:=["reason","finder","shortest","known","size","costs","steps","of_literal","of_match","of_bit","literals","lengths","distances","octets","last","before","least","window","chain","ahead","row"]
noncomputable def ORep (G:GC) (O:Own) (h:Heap) (a:Addr):MObj->Prop
 | .list xs=>∃ vs n,h.get? a=some { cls:=.type "list",data:=.seq vs.toArray n }/\VR G.hB O h vs xs
 | .barr b=>∃ bs,h.get? a=some { cls:=.type "bytearray",data:=.bytearray bs 0 }/\octs bs=b
 | .dict es=>∃ kvs,h.DictOf (intKind G.prog G.w) a kvs/\DR G.hB O h kvs es
 | .cell v=>∃ u,h.get? a=some { cls:=.type "cell",data:=.cell u }/\VOpt G.hB O h u v
 | .inst C dx=>h.get? a=some { cls:=.ref C,dict:=some dx,data:=.plain }
 | .ns m=>∃ es n,h.get? a=some { cls:=.type "dict",data:=.dict es n }/\StrKeys es/\UniqKeys es/\∀ x,VOpt G.hB O h (nsFind es x) (rget aR m x)
 | .hid=>∃ x y,h.get? a=some { cls:=.type "tuple",data:=.seq #[x,y] }
 | .code (.obj q)=>∃ o vs t,h.get? a=some o/\o.data=.fields vs/\vs[1]?=some (.str q t)
 | .code (.tab q)=>∃ ps,h.get? a=some (tabObj ps)/\TriplesOk ps.toList/\∀ pos cv,codeAmong pos ps.toList=some cv->CodeAt O cv q
theorem ORep.there {G:GC} {O:Own} {h:Heap} {a:Addr} {mo:MObj} (x:ORep G O h a mo):∃ o,h.get? a=some o/\True:=by
 cases mo with
 | list xs=>obtain ⟨vs,n,q,_⟩:=x;exact⟨_,q,trivial⟩
 | barr b=>obtain ⟨vs,q,_⟩:=x;exact⟨_,q,trivial⟩
 | dict es=>obtain ⟨kvs,⟨o',es,ep,q,_⟩,_⟩:=x;exact⟨_,q,trivial⟩
 | cell v=>obtain ⟨u,q,_⟩:=x;exact⟨_,q,trivial⟩
 | inst C dx=>exact⟨_,x,trivial⟩
 | ns m=>obtain ⟨es,n,q,_⟩:=x;exact⟨_,q,trivial⟩
 | hid=>obtain ⟨es,n,q⟩:=x;exact⟨_,q,trivial⟩
 | code q=>cases q with
   | obj q=>obtain ⟨o,vs,t,q,_⟩:=x;exact⟨_,q,trivial⟩
   | tab q=>obtain ⟨ps,q,_⟩:=x;exact⟨_,q,trivial⟩
theorem ORep.mono {G:GC} {O O':Own} {h h':Heap} (k:Kd O h O' h') {a:Addr} (e:∀ o,h.get? a=some o->h'.get? a=some o) {mo:MObj} (x:ORep G O h a mo):ORep G O' h' a mo:=by
 cases mo with
 | list xs=>obtain ⟨vs,n,q,r⟩:=x;exact⟨vs,n,e _ q,r.mono k⟩
 | barr b=>obtain ⟨vs,q,r⟩:=x;exact⟨vs,e _ q,r⟩
 | dict es=>obtain ⟨kvs,⟨o',es,ep,q,r⟩,r'⟩:=x;exact⟨kvs,⟨o',es,ep,e _ q,r⟩,r'.mono k⟩
 | cell v=>obtain ⟨u,q,r⟩:=x;exact⟨u,e _ q,r.mono k⟩
 | inst C dx=>exact e _ x
 | ns m=>obtain ⟨es,n,q,r,r2,r'⟩:=x;exact⟨es,n,e _ q,r,r2,fun y=>(r' y).mono k⟩
 | hid=>obtain ⟨xs,n,q⟩:=x;exact⟨xs,n,e _ q⟩
 | code q=>cases q with
   | obj q=>obtain ⟨o,vs,t,q,r⟩:=x;exact⟨o,vs,t,e _ q,r⟩
   | tab q=>obtain ⟨ps,q,r,z⟩:=x;exact⟨ps,e _ q,r,fun pos cv hc=>(z pos cv hc).mono k⟩
structure HRel (G:GC) (O:Own) (h:Heap):Prop where
 base:G.hB.StaysIn h
 own:∀ a mo,O a=some mo->G.hB.get? a=none/\ORep G O h a mo
noncomputable def Kp (o o':Obj):Prop:=o'=o \/ (o.cls=.type "frame"/\∃ sl,o'={ o with slots:=sl })
theorem Kp.refl (o:Obj):Kp o o:=.inl rfl
theorem Kp.trans {a b c:Obj} (x:Kp a b) (y:Kp b c):Kp a c:=by
 rcases x with rfl | ⟨hc,sl,rfl⟩
 . exact y
 . rcases y with rfl | ⟨_,sl',rfl⟩
   . exact .inr ⟨hc,sl,rfl⟩
   . exact .inr ⟨hc,sl',rfl⟩
theorem Kp.eq {o o':Obj} (x:Kp o o') (h:o.cls ≠ .type "frame"):o'=o:=x.elim id fun y=>absurd y.1 h
theorem Kp.data {o o':Obj} (x:Kp o o'):o'.data=o.data:=by rcases x with rfl | ⟨_,sl,rfl⟩ <;> rfl
theorem Kp.cls {o o':Obj} (x:Kp o o'):o'.cls=o.cls:=by rcases x with rfl | ⟨_,sl,rfl⟩ <;> rfl
noncomputable def Same (s s':Shared):Prop:=∃ h tk,s'={ s with heap:=h,toks:=tk }
theorem Same.refl (s:Shared):Same s s:=⟨s.heap,s.toks,rfl⟩
theorem Same.trans {a b c:Shared} (x:Same a b) (y:Same b c):Same a c:=by
 obtain ⟨h,t,rfl⟩:=x;obtain ⟨h',t',rfl⟩:=y;exact⟨h',t',rfl⟩
theorem Same.gens {a b:Shared} (x:Same a b):b.gens=a.gens:=by obtain ⟨h,t,rfl⟩:=x;rfl
structure Step (X:Option Addr) (O O':Own) (s s':Shared):Prop where
 same:Same s s'
 keep:∀ a o,some a ≠ X->O a=none->s.heap.get? a=some o->∃ o',s'.heap.get? a=some o'/\Kp o o'
 off:∀ a o,O a=none->s.heap.get? a=some o->O' a=none
 code:∀ c q,O c=some (.code q)->O' c=some (.code q)
 dom:∀ a o,s.heap.get? a=some o->∃ o',s'.heap.get? a=some o'
theorem Step.refl (X:Option Addr) (O:Own) (s:Shared):Step X O O s s:=⟨.refl s,fun a o _ _ e=>⟨o,e,.refl o⟩,fun _ _ e _=>e,fun _ _ e=>e,fun _ o e=>⟨o,e⟩⟩
theorem Step.trans {X:Option Addr} {O O' O'':Own} {s s' s'':Shared} (x:Step X O O' s s') (y:Step X O' O'' s' s''):Step X O O'' s s'' where
 same:=x.same.trans y.same
 keep:=fun a o n h e=>by
   obtain ⟨o',e',k⟩:=x.keep a o n h e
   obtain ⟨o'',e'',k'⟩:=y.keep a o' n (x.off a o h e) e'
   exact⟨o'',e'',k.trans k'⟩
 off:=fun a o h e=>by
   obtain ⟨o',e'⟩:=x.dom a o e
   exact y.off a o' (x.off a o h e) e'
 code:=fun c q e=>y.code c q (x.code c q e)
 dom:=fun a o e=>by obtain ⟨o',e'⟩:=x.dom a o e;exact y.dom a o' e'
theorem Step.weak {X:Option Addr} {O O':Own} {s s':Shared} (x:Step none O O' s s'):Step X O O' s s':=⟨x.same,fun a o _=>x.keep a o dC,x.off,x.code,x.dom⟩
theorem Step.kd {X:Option Addr} {O O':Own} {s s':Shared} (S:Step X O O' s s') (hX:∀ a,X=some a->∀ o,s.heap.get? a=some o->¬ Still o):Kd O s.heap O' s'.heap:=by
 refine ⟨?_,S.code⟩
 intro a o hσ e st
 obtain ⟨o',e',k⟩:=S.keep a o (fun q=>hX a q.symm o e st) hσ e
 refine ⟨S.off a o hσ e,?_⟩
 rw [e',k.eq (fun q=>by rcases st.1 with h | h <;> rw [h] at q <;> simp at q)]
structure FC where
 env:Env
 vars:List Str
 fl:List Env
noncomputable def FrsOK (G:GC) (O:Own) (h:Heap) (fl:List Env):Prop :=
 ∀ env ∈ fl,env.scope.kind ≠ .module/\∃ L o,env.frame=some L/\G.hB.get? L=none/\h.get? L=some o/\o.cls=.type "frame"/\(∀ vs,o.data ≠ .fields vs)/\O L=none
theorem FrsOK.funFrames {G:GC} {O:Own} {h:Heap}:∀ {fl:List Env},FrsOK G O h fl->h.FunFrames G.hB fl
 | [],_=>trivial
 | env :: r,H=>by
   obtain ⟨hk,L,o,a,b,c,d,e,_⟩:=H env (.head _)
   exact⟨hk,⟨L,o,a,b,c,e⟩,FrsOK.funFrames fun x hx=>H x (.tail _ hx)⟩
structure At (G:GC) (F:FC) (J:Loc) (O:Own) (s:Shared):Prop where
 rel:HRel G O s.heap
 loc:∃ m,s.heap.Ns F.env.locals m/\∀ x,VOpt G.hB O s.heap (m x) (rget F.vars J x)
 lfree:O F.env.locals=none
 lbase:G.hB.get? F.env.locals=none
 lcls:∀ o,s.heap.get? F.env.locals=some o->¬ Still o
 frs:FrsOK G O s.heap F.fl
theorem Ns.kp {h h':Heap} {L:Addr} {m:Str->Option Value} (n:h.Ns L m) (k:∀ o,h.get? L=some o->∃ o',h'.get? L=some o'/\Kp o o'):h'.Ns L m:=by
 obtain ⟨o,es,ep,e,d,r⟩:=n
 obtain ⟨o',e',q⟩:=k o e
 exact⟨o',es,ep,e',q.data.trans d,r⟩
theorem At.kd {G:GC} {F:FC} {J:Loc} {O O':Own} {s s':Shared} (a:At G F J O s) {X:Option Addr} (hX:X=none \/ X=some F.env.locals) (S:Step X O O' s s'):Kd O s.heap O' s'.heap :=
 S.kd fun b hb o e=>by
   rcases hX with rfl | rfl
   . cases hb
   . cases hb;exact a.lcls o e
theorem FrsOK.step {G:GC} {X:Option Addr} {O O':Own} {s s':Shared} {fl:List Env} (H:FrsOK G O s.heap fl) (S:Step X O O' s s') (hX:∀ L,X=some L->∀ o,s.heap.get? L=some o->∃ o',s'.heap.get? L=some o'/\o'.cls=o.cls/\∀ vs,o.data ≠ .fields vs->o'.data ≠ .fields vs) :
   FrsOK G O' s'.heap fl:=by
 intro env he
 obtain ⟨hk,L,o,a,b,c,d,e,f⟩:=H env he
 by_cases hL:some L=X
 . obtain ⟨o',c',d',e'⟩:=hX L hL.symm o c
   exact⟨hk,L,o',a,b,c',d'.trans d,fun vs=>e' vs (e vs),S.off L o f c⟩
 . obtain ⟨o',c',k⟩:=S.keep L o hL f c
   exact⟨hk,L,o',a,b,c',k.cls.trans d,fun vs=>by rw [k.data];exact e vs,S.off L o f c⟩
theorem At.next {G:GC} {F:FC} {J:Loc} {O O':Own} {s s':Shared} (a:At G F J O s) (S:Step none O O' s s') (R:HRel G O' s'.heap):At G F J O' s' where
 rel:=R
 loc:=by
   obtain ⟨m,n,v⟩:=a.loc
   have k:=a.kd (.inl rfl) S
   exact⟨m,Ns.kp n fun o e=>S.keep _ o dC a.lfree e,fun x=>(v x).mono k⟩
 lfree:=by
   obtain ⟨m,⟨o,es,ep,e,_⟩,_⟩:=a.loc
   exact S.off _ o a.lfree e
 lbase:=a.lbase
 lcls:=fun o' e'=>by
   obtain ⟨m,⟨o,es,ep,e,_⟩,_⟩:=a.loc
   obtain ⟨o'',e'',k⟩:=S.keep _ o dC a.lfree e
   cases one e'' e'
   have:=a.lcls o e
   unfold Still at this ⊢
   rw [k.cls,k.data];exact this
 frs:=a.frs.step S (fun L h=>nomatch h)
theorem HRel.grow {G:GC} {O:Own} {h h':Heap} (H:HRel G O h) (k:∀ a o,h.get? a=some o->h'.get? a=some o):HRel G O h' where
 base:=fun b o e=>k b o (H.base b o e)
 own:=fun a mo e=>⟨(H.own a mo e).1,(H.own a mo e).2.mono (.of k) fun o q=>k a o q⟩
theorem Step.grow {X:Option Addr} {O:Own} {s:Shared} {h':Heap} {tk:Nat} (k:∀ a o,s.heap.get? a=some o->h'.get? a=some o):Step X O O s { s with heap:=h',toks:=tk } :=
 ⟨⟨h',tk,rfl⟩,fun a o _ _ e=>⟨o,k a o e,.refl o⟩,fun _ _ e _=>e,fun _ _ e=>e,fun a o e=>⟨o,k a o e⟩⟩
noncomputable def Fresh (h:Heap) (e:Addr) (k:Value):Prop:=∃ oe vs,h.get? e=some oe/\oe.cls=k/\oe.data=.fields vs/\vs[1]?=some .none/\∃ t,vs[0]?=some (.ref t)
noncomputable def Fly (h:Heap) (e T:Addr) (k f:Value):Prop:=∃ oe vs oT ts,h.get? e=some oe/\oe.cls=k/\oe.data=.fields vs/\vs[1]?=some (.ref T)/\T ≠ e/\h.get? T=some oT/\oT.data=.fields ts/\ts[3]?=some f/\∃ t,vs[0]?=some (.ref t)
noncomputable def Flt (fl:List Env) (f:Value):Prop:=f=.none \/ ∃ env r L,fl=env :: r/\env.frame=some L/\f=rawInt L
structure XAt (G:GC) (fl:List Env) (X:Option Addr) (O O':Own) (s s':Shared) (e:Value) (k:Value):Prop where
 step:Step X O O' s s'
 rel:HRel G O' s'.heap
 frs:FrsOK G O' s'.heap fl
 exc:∃ a,e=.ref a/\s.heap.get? a=none/\(Fresh s'.heap a k \/ ∃ T f,Flt fl f/\s.heap.get? T=none/\(∀ q,O' T ≠ some (.code q))/\Fly s'.heap a T k f)/\∀ q,O' a ≠ some (.code q)
theorem XAt.after {G:GC} {fl:List Env} {X:Option Addr} {O O1 O':Own} {s s1 s':Shared} {e k:Value} (x:XAt G fl X O1 O' s1 s' e k) (S:Step X O O1 s s1):XAt G fl X O O' s s' e k where
 step:=S.trans x.step
 rel:=x.rel
 frs:=x.frs
 exc:=by
   have none_:∀ b,s1.heap.get? b=none->s.heap.get? b=none:=fun b h=>by
     cases q:s.heap.get? b with
     | none=>rfl
     | some o=>obtain ⟨o',e'⟩:=S.dom b o q;exact na h e'
   obtain ⟨a,rfl,h,r,c⟩:=x.exc
   exact⟨a,rfl,none_ a h,r.imp id (Exists.imp fun T=>Exists.imp fun f x=>⟨x.1,none_ T x.2.1,x.2.2⟩),c⟩
theorem XAt.weak {G:GC} {fl:List Env} {X:Option Addr} {O O':Own} {s s':Shared} {e k:Value} (x:XAt G fl none O O' s s' e k):XAt G fl X O O' s s' e k:=⟨x.step.weak,x.rel,x.frs,x.exc⟩
structure Room (fl:List Env) (n:Nat) (A:Around):Prop where
 handled:A.handled=none
 frames:A.frames=some fl
 depth:A.depth + n + 1 < recursionLimit
 units:A.units + 64 * (n + 1) < cLine
noncomputable abbrev ET:=Loc->Own->(PV)->(PE)->Prop
inductive MFl where
 | next | brk | cont
 | ret (v:MV)
noncomputable abbrev ST:=Loc->Own->(MFl->Loc->Own->Prop)->(PE)->Prop
noncomputable def FRep (hB:Heap) (O:Own) (h:Heap):Flow->MFl->Prop
 | .next,.next=>True
 | .brk,.brk=>True
 | .cont,.cont=>True
 | .ret v,.ret m=>VE hB O h v m
 | _,_=>False
theorem FRep.inv {hB:Heap} {O:Own} {h:Heap} {fl:Flow} {mf:MFl} (r:FRep hB O h fl mf):(mf=.next->fl=.next)/\(mf=.brk->fl=.brk)/\(mf=.cont->fl=.cont)/\∀ m,mf=.ret m->∃ v,fl=.ret v/\VE hB O h v m:=by
 refine ⟨?_,?_,?_,fun m=>?_⟩ <;> (rintro rfl;cases fl <;> first | rfl | exact False.elim r | exact⟨_,rfl,r⟩)
theorem FRep.nx {hB:Heap} {O:Own} {h:Heap} {fl:Flow} (r:FRep hB O h fl .next):fl=.next:=r.inv.1 rfl
theorem FRep.bk {hB:Heap} {O:Own} {h:Heap} {fl:Flow} (r:FRep hB O h fl .brk):fl=.brk:=r.inv.2.1 rfl
theorem FRep.ct {hB:Heap} {O:Own} {h:Heap} {fl:Flow} (r:FRep hB O h fl .cont):fl=.cont:=r.inv.2.2.1 rfl
theorem FRep.rt {hB:Heap} {O:Own} {h:Heap} {fl:Flow} {m:MV} (r:FRep hB O h fl (.ret m)):∃ v,fl=.ret v/\VE hB O h v m:=r.inv.2.2.2 m rfl
noncomputable def SimT (α:Type) (β:Type) (Rep:Own->Heap->α->β->Prop) (G:GC) (n:Nat) (F:FC) (t:Sem α) (f:Loc->Own->(β->Own->Prop)->(PE)->Prop):Prop :=
 ∀ (A:Around),Room F.fl n A->∀ (J:Loc) (O:Own) (s:Shared) (Qm:β->Own->Prop) (Em:PE) (Q:α->Shared->Prop) (E:VS),
   At G F J O s->f J O Qm Em ->
   (∀ v m O' s',At G F J O' s'->Step none O O' s s'->Rep O' s'.heap v m->Qm m O'->Q v s') ->
   (∀ k O' e s',XAt G F.fl none O O' s s' e k->Em k O'->E e s') ->
   wpC (model G.prog G.w) A t Q E s
noncomputable abbrev SI (G:GC):=SimT Value MV (VE G.hB) G
noncomputable abbrev SimB (G:GC):=SimT Bool Bool (fun _ _ a b=>a=b) G
noncomputable abbrev SimL (G:GC):=SimT (List Value) (List MV) (VR G.hB) G
noncomputable def SimS (G:GC) (n:Nat) (F:FC) (t:Sem Flow) (f:ST):Prop :=
 ∀ (A:Around),Room F.fl n A->∀ (J:Loc) (O:Own) (s:Shared) (Qm:MFl->Loc->Own->Prop) (Em:PE) (Q:Flow->Shared->Prop) (E:VS),
   At G F J O s->f J O Qm Em ->
   (∀ v m J' O' s',At G F J' O' s'->Step (some F.env.locals) O O' s s'->FRep G.hB O' s'.heap v m->Qm m J' O'->Q v s') ->
   (∀ k O' e s',XAt G F.fl (some F.env.locals) O O' s s' e k->Em k O'->E e s') ->
   wpC (model G.prog G.w) A t Q E s
set_option backward.match.sparseCases true
noncomputable abbrev PS:=MFl->Loc->Own->Prop
noncomputable abbrev LC:=Loc
end Mn
namespace Mn
set_option backward.match.sparseCases false
variable {G:GC} {n:Nat} {F:FC}
section
variable {J:Loc} {O:Own} {s:Shared}
theorem HRel.none_of {h:Heap} (H:HRel G O h) {a:Addr} (e:h.get? a=none):O a=none:=by
 cases q:O a with
 | none=>rfl
 | some mo=>obtain ⟨o,ho,_⟩:=(H.own a mo q).2.there;exact na e ho
theorem gE (h:Heap):h.get? h.objs.size=none:=by
 cases q:h.get? h.objs.size with
 | none=>rfl
 | some o=>exact absurd (Heap.lt_size q) (Nat.lt_irrefl _)
theorem HRel.base_none {h:Heap} (H:HRel G O h) {a:Addr} (e:h.get? a=none):G.hB.get? a=none:=by
 cases q:G.hB.get? a with
 | none=>rfl
 | some o=>exact na e (H.base a o q)
theorem kd_alloc {h h':Heap} (k:∀ a o,h.get? a=some o->h'.get? a=some o) {a:Addr} (hn:h.get? a=none) {mo:MObj} (hnσ:O a=none):Kd O h (upd O a mo) h':=⟨fun c o n e _=>⟨by
 unfold upd;rw [if_neg (fun z=>by rw [z,hn] at e;cases e)];exact n,k c o e⟩,fun c q e=>by
 unfold upd;rw [if_neg (fun z=>by rw [z,hnσ] at e;cases e)];exact e⟩
theorem kd_set {h h':Heap} {a:Addr} {mo mo':MObj} (ha:O a=some mo) (k:∀ b o,b ≠ a->h.get? b=some o->h'.get? b=some o) (hnc:∀ q,mo ≠ .code q:=by nofun):Kd O h (upd O a mo') h':=⟨fun c o n e _=>by
 have hc:c ≠ a:=fun z=>by rw [z,ha] at n;cases n
 exact⟨by unfold upd;rw [if_neg hc];exact n,k c o hc e⟩,fun c q e=>by
 unfold upd;rw [if_neg (fun z=>by rw [z,ha] at e;exact hnc q (Option.some.inj e))];exact e⟩
theorem HRel.alloc {h h':Heap} (H:HRel G O h) (k:∀ a o,h.get? a=some o->h'.get? a=some o) {a:Addr} (hn:h.get? a=none) {mo:MObj} (x:ORep G (upd O a mo) h' a mo):HRel G (upd O a mo) h' where
 base:=fun b o e=>k b o (H.base b o e)
 own:=fun b mb e=>by
   unfold upd at e
   by_cases q:b=a
   . subst q;rw [if_pos rfl] at e;cases e;exact⟨H.base_none hn,x⟩
   . rw [if_neg q] at e
     exact⟨(H.own b mb e).1,(H.own b mb e).2.mono (kd_alloc k hn (H.none_of hn)) fun o q=>k b o q⟩
theorem HRel.set {h h':Heap} (H:HRel G O h) {a:Addr} {mo mo':MObj} (ha:O a=some mo) (k:∀ b o,b ≠ a->h.get? b=some o->h'.get? b=some o) (x:ORep G (upd O a mo') h' a mo') (hnc:∀ q,mo ≠ .code q:=by nofun):HRel G (upd O a mo') h' where
 base:=fun b o e=>k b o (fun q=>by rw [q,(H.own a mo ha).1] at e;cases e) (H.base b o e)
 own:=fun b mb e=>by
   unfold upd at e
   by_cases q:b=a
   . subst q;rw [if_pos rfl] at e;cases e;exact⟨(H.own b mo ha).1,x⟩
   . rw [if_neg q] at e
     exact⟨(H.own b mb e).1,(H.own b mb e).2.mono (kd_set ha k hnc) fun o q'=>k b o q q'⟩
theorem Step.alloc {X:Option Addr} {h':Heap} {tk:Nat} (k:∀ a o,s.heap.get? a=some o->h'.get? a=some o) {a:Addr} (hn:s.heap.get? a=none) {mo:MObj} (hnσ:O a=none):Step X O (upd O a mo) s { s with heap:=h',toks:=tk } :=
 ⟨⟨h',tk,rfl⟩,fun b o _ _ e=>⟨o,k b o e,.refl o⟩,fun b o e q=>by
   unfold upd
   rw [if_neg (fun z=>by rw [z,hn] at q;cases q)];exact e,fun c q e=>by
   unfold upd;rw [if_neg (fun z=>by rw [z,hnσ] at e;cases e)];exact e,fun b o e=>⟨o,k b o e⟩⟩
theorem Step.set {X:Option Addr} {h':Heap} {tk:Nat} {a:Addr} {mo mo':MObj} (ha:O a=some mo') (k:∀ b o,b ≠ a->s.heap.get? b=some o->h'.get? b=some o) (d:∃ o,h'.get? a=some o) (hnc:∀ q,mo' ≠ .code q:=by nofun):Step X O (upd O a mo) s { s with heap:=h',toks:=tk } :=
 ⟨⟨h',tk,rfl⟩,fun b o _ e q=>⟨o,k b o (fun z=>by rw [z] at e;exact na e ha) q,.refl o⟩,fun b o e q=>by
   unfold upd
   rw [if_neg (fun z=>by rw [z] at e;rw [e] at ha;cases ha)];exact e,fun c q e=>by
   unfold upd;rw [if_neg (fun z=>by rw [z,ha] at e;exact hnc q (Option.some.inj e))];exact e,fun b o e=>by
     by_cases q:b=a
     . subst q;exact d
     . exact⟨o,k b o q e⟩⟩
noncomputable abbrev K1 (G:GC) (F:FC) (J:Loc) (O:Own) (s:Shared) (Qm:PV) (Q:VS):Prop :=
 ∀ v m O' s',At G F J O' s'->Step none O O' s s'->VE G.hB O' s'.heap v m->Qm m O'->Q v s'
theorem At.grow (a:At G F J O s) {h':Heap} {tk:Nat} (k:∀ a o,s.heap.get? a=some o->h'.get? a=some o):At G F J O { s with heap:=h',toks:=tk } :=
 a.next (.grow k) (a.rel.grow k)
theorem K1.grow {Qm:PV} {Q:VS} (K:K1 G F J O s Qm Q) (a:At G F J O s) {h':Heap} {tk:Nat} (k:∀ a o,s.heap.get? a=some o->h'.get? a=some o) {v:Value} {m:MV} (hv:VE G.hB O h' v m) (hq:Qm m O) :
   Q v { s with heap:=h',toks:=tk }:=K v m O _ (a.grow k) (.grow k) hv hq
theorem K1.tok {Qm:PV} {Q:VS} (K:K1 G F J O s Qm Q) (a:At G F J O s) {tk:Nat} {v:Value} {m:MV} (hv:VE G.hB O s.heap v m) (hq:Qm m O):Q v { s with toks:=tk } :=
 K.grow a (h':=s.heap) (fun _ _ e=>e) hv hq
theorem K1.now {Qm:PV} {Q:VS} (K:K1 G F J O s Qm Q) (a:At G F J O s) {v:Value} {m:MV} (hv:VE G.hB O s.heap v m) (hq:Qm m O):Q v s:=K v m O s a (.refl ..) hv hq
theorem At.alloc (a:At G F J O s) {h':Heap} {tk:Nat} (k:∀ a o,s.heap.get? a=some o->h'.get? a=some o) {r:Addr} (hn:s.heap.get? r=none) {mo:MObj} (x:ORep G (upd O r mo) h' r mo):At G F J (upd O r mo) { s with heap:=h',toks:=tk } :=
 a.next (.alloc k hn (a.rel.none_of hn)) (a.rel.alloc k hn x)
theorem K1.alloc {Qm:PV} {Q:VS} (K:K1 G F J O s Qm Q) (a:At G F J O s) {h':Heap} {tk:Nat} (k:∀ a o,s.heap.get? a=some o->h'.get? a=some o) {r:Addr} (hn:s.heap.get? r=none) {mo:MObj} (x:ORep G (upd O r mo) h' r mo)
   (hq:∀ r,O r=none->Qm (.ref r) (upd O r mo)):Q (.ref r) { s with heap:=h',toks:=tk } :=
 K _ _ _ _ (a.alloc k hn x) (.alloc k hn (a.rel.none_of hn)) (.ref r) (hq r (a.rel.none_of hn))
theorem K1.push {Qm:PV} {Q:VS} (K:K1 G F J O s Qm Q) (a:At G F J O s) {tk:Nat} {o:Obj} {mo:MObj} (x:ORep G (upd O s.heap.objs.size mo) (s.heap.push o) s.heap.objs.size mo)
   (hq:∀ r,O r=none->Qm (.ref r) (upd O r mo)):Q (.ref s.heap.objs.size) { s with heap:=s.heap.push o,toks:=tk } :=
 K.alloc a (fun b o' e=>Heap.get?_push_of_some _ e) (gE _) x hq
theorem At.set (a:At G F J O s) {h':Heap} {tk:Nat} {r:Addr} {mo mo':MObj} (hr:O r=some mo) (k:∀ b o,b ≠ r->s.heap.get? b=some o->h'.get? b=some o) (x:ORep G (upd O r mo') h' r mo') (hnc:∀ q,mo ≠ .code q:=by nofun):At G F J (upd O r mo') { s with heap:=h',toks:=tk } :=
 a.next (.set hr k (let ⟨o,e,_⟩:=x.there;⟨o,e⟩) hnc) (a.rel.set hr k x hnc)
theorem HRel.kd_push {h:Heap} (H:HRel G O h) (o:Obj) {mo:MObj}:Kd O h (upd O h.objs.size mo) (h.push o):=kd_alloc (fun a o' e=>Heap.get?_push_of_some _ e) (gE h) (H.none_of (gE h))
end
noncomputable def mC (m:MV):ET:=fun _ O Q _=>Q m O
noncomputable def mL (k:Nat):ET:=fun J O Q _=>∃ v,J k=some v/\Q v O
noncomputable def mE (a:Addr):ET:=fun _ O Q _=>∃ v,O a=some (.cell (some v))/\Q v O
theorem sL {x:Str} {pos:Pos} {k:Nat} (hk:F.env.scope.kind=.function) (hl:F.env.kindOf x=some .local) (hi:idx F.vars x=some k) (hd:(x == ("__debug__":Str))=false:=by decide) :
   SI G n F (eval (.Name x pos) F.env) (mL k):=by
 intro A R J O s Qm Em Q E a f K KE
 obtain ⟨v,hv,hq⟩:=f
 obtain ⟨m,hns,hm⟩:=a.loc
 have:=hm x
 unfold rget at this
 rw [hi] at this
 simp only [Option.bind_some,hv] at this
 cases e:m x with
 | none=>rw [e] at this;exact this.elim
 | some u =>
   rw [e] at this
   exact wpC_Name (lift <| wpAny_loadName_local hk hl hns e (K _ _ _ _ a (.refl ..) this hq)) hd
theorem se {x:Str} {pos:Pos} {c:Addr} (hk:F.env.scope.kind=.function) (hl:F.env.kindOf x=some .cell \/ F.env.kindOf x=some .free) (hc:F.env.cells.lookup x=some c) (hd:(x == ("__debug__":Str))=false:=by decide) (hn:(x == ("__classdict__":Str))=false:=by decide) :
   SI G n F (eval (.Name x pos) F.env) (mE c):=by
 intro A R J O s Qm Em Q E a f K KE
 obtain ⟨v,hv,hq⟩:=f
 obtain ⟨u,hu,hr⟩:=(a.rel.own c _ hv).2
 cases u with
 | none=>exact hr.elim
 | some u =>
   have hcell:s.heap.IsCell c (some u):=⟨_,hu,rfl⟩
   have fin:=K _ _ _ _ a (.refl ..) hr hq
   refine wpC_Name ?_ hd
   rcases hl with hl | hl
   . exact lift <| wpAny_loadName_cell hk hl hc hcell fin
   . exact lift <| wpAny_loadName_free hk hl hc hcell fin hn
theorem sI {i:Int} {k:Nat} {pos:Pos} {env:Env}:SI G n F (eval (.Constant (.int i) k pos) env) (mC (.int i)):=by
 intro A R J O s Qm Em Q E a f K KE
 exact lift <| wpAny_Constant_int (K1.tok K a (.int ..) f)
theorem sStr {x:Str} {k:Nat} {pos:Pos} {env:Env}:SI G n F (eval (.Constant (.str x) k pos) env) (mC (.str x)):=by
 intro A R J O s Qm Em Q E a f K KE
 exact fun _ _ _ _ _=>(K1.tok K a (.str ..) f:Q (.str x s.toks) _)
theorem sBool {b:Bool} {k:Nat} {pos:Pos} {env:Env}:SI G n F (eval (.Constant (.bool b) k pos) env) (mC (.bool b)):=by
 intro A R J O s Qm Em Q E a f K KE
 exact fun _ _ _ _ _=>K1.now K a (.bool ..) f
theorem sNone {k:Nat} {pos:Pos} {env:Env}:SI G n F (eval (.Constant .none k pos) env) (mC .none):=by
 intro A R J O s Qm Em Q E a f K KE
 exact fun _ _ _ _ _=>K1.now K a .none f
theorem sBytes {x:List UInt8} {k:Nat} {pos:Pos} {env:Env}:SI G n F (eval (.Constant (.bytes x) k pos) env) (mC (.bytes (x.map fun u=>(u.toNat:Int)))):=by
 intro A R J O s Qm Em Q E a f K KE
 exact lift <| Constant_bytes (K1.tok K a (.bytes ..) f)
theorem sGlo {x:Str} {pos:Pos} {mg:Str->Option Value} {v:Value} {m:MV} (hk:F.env.scope.kind=.function) (hl:F.env.kindOf x=some .globalImplicit) (hg:F.env.globals=mainGlobals) (hmg:G.hB.Ns mainGlobals mg) (hv:mg x=some v)
   (hm:∀ O h,VE G.hB O h v m) (hd:(x == ("__debug__":Str))=false:=by decide):SI G n F (eval (.Name x pos) F.env) (mC m):=by
 intro A R J O s Qm Em Q E a f K KE
 refine wpC_Name ?_ hd
 have ns:s.heap.Ns F.env.globals mg:=by rw [hg];exact hmg.keeps a.rel.base
 rw [loadName_read hk hl]
 unfold loadGlobal
 refine wP (lift <| wpAny_nsGet ns ?_)
 rw [hv]
 exact wC (K1.now K a (hm _ _) f)
theorem sBlt {x:Str} {pos:Pos} {mg mb:Str->Option Value} {v:Value} (hk:F.env.scope.kind=.function) (hl:F.env.kindOf x=some .globalImplicit) (hg:F.env.globals=mainGlobals) (hb:F.env.builtins=builtinsNs) (hmg:G.hB.Ns mainGlobals mg) (hmb:G.hB.Ns builtinsNs mb) (hn:mg x=none)
   (hv:mb x=some v) (hd:(x == ("__debug__":Str))=false:=by decide):SI G n F (eval (.Name x pos) F.env) (mC (.lit v)):=by
 intro A R J O s Qm Em Q E a f K KE
 refine wpC_Name ?_ hd
 have ns:s.heap.Ns F.env.globals mg:=by rw [hg];exact hmg.keeps a.rel.base
 have nb:s.heap.Ns F.env.builtins mb:=by rw [hb];exact hmb.keeps a.rel.base
 rw [loadName_read hk hl]
 unfold loadGlobal
 refine wP (lift <| wpAny_nsGet ns ?_)
 rw [hn]
 refine wP (lift <| wpAny_nsGet nb ?_)
 rw [hv]
 exact wC (K1.now K a (.lit _) f)
noncomputable def yL (n:Nat):Prop:=n<=1000000
theorem yl0:yL 0:=Nat.le_of_ble_eq_true rfl
theorem yl1:yL 1:=Nat.le_of_ble_eq_true rfl
theorem yl2:yL 2:=Nat.le_of_ble_eq_true rfl
theorem yl3:yL 3:=Nat.le_of_ble_eq_true rfl
theorem yl4:yL 4:=Nat.le_of_ble_eq_true rfl
theorem yl5:yL 5:=Nat.le_of_ble_eq_true rfl
theorem yl6:yL 6:=Nat.le_of_ble_eq_true rfl
theorem yl7:yL 7:=Nat.le_of_ble_eq_true rfl
noncomputable def bopI:Operator->Int->Int->Own->(PV)->Prop
 | .Add,a,b,O,Q=>Q (.int (a + b)) O
 | .Sub,a,b,O,Q=>Q (.int (a - b)) O
 | .Mult,a,b,O,Q=>a.natAbs < 2 ^ 64/\Q (.int (a * b)) O
 | .Mod,a,b,O,Q=>0 < b/\Q (.int (a % b)) O
 | .FloorDiv,a,b,O,Q=>0 < b/\b < 2 ^ 30/\Q (.int (a / b)) O
 | .Pow,a,b,O,Q=>a=10/\b=30/\Q (.int (10 ^ 30)) O
 | _,_,_,_,_=>False
noncomputable def bop (op:Operator) (x y:MV) (O:Own) (Q:PV):Prop :=
 match x with
 | .int a=>match y with
   | .int b=>bopI op a b O Q
   | _=>False
 | .bytes a=>match y with
   | .bytes b=>op=.Add/\yL (a.length + b.length)/\Q (.bytes (a ++ b)) O
   | _=>False
 | .ref l=>match y with
   | .ref r=>op=.Add/\∃ xs ys,O l=some (.list xs)/\O r=some (.list ys)/\yL (xs.length + ys.length)/\∀ c,O c=none->Q (.ref c) (upd O c (.list (xs ++ ys)))
   | .int k=>op=.Mult/\∃ xs,O l=some (.list xs)/\k < 2 ^ 62/\-(2 ^ 62) < k/\yL (xs.length * k.toNat)/\∀ c,O c=none->Q (.ref c) (upd O c (.list (List.replicate k.toNat xs).flatten))
   | _=>False
 | _=>False
noncomputable def mB (op:Operator) (f g:ET):ET:=fun J O Q E=>f J O (fun a O1=>g J O1 (fun b O2=>bop op a b O2 Q) E) E
theorem intMulOk_left {a b:Int} (h:a.natAbs < 2 ^ 64):IntMulOk a b:=.of_left (intBits_le h)
theorem sZ {n:Nat} (h:yL n):n<=sizeLine:=by rw [sizeLine_eq];unfold yL at h;exact lE h
theorem oC (b:Array UInt8):(octs b).length=b.size:=by simp [octs]
theorem octs_append (a b:Array UInt8):octs (a ++ b)=octs a ++ octs b:=by simp [octs]
theorem foldl_replicate {α:Type} (xs:Array α):∀ (k:Nat) (acc:Array α),(List.foldl (fun x y=>x ++ y) acc (List.replicate k xs)).toList=acc.toList ++ (List.replicate k xs.toList).flatten
 | 0,acc=>by simp
 | k + 1,acc=>by
   rw [List.replicate_succ,List.foldl_cons,foldl_replicate xs k,List.replicate_succ,List.flatten_cons]
   simp
theorem foldl_rep {α:Type} (xs:List α) (k:Nat):List.foldl (fun x y=>x ++ y) #[] (List.replicate (if xs.toArray.isEmpty=true then 0 else k) xs.toArray)=(List.replicate k xs).flatten.toArray:=by
 apply Array.toList_inj.mp
 rw [foldl_replicate]
 by_cases h:xs=[]
 . subst h;simp
 . have:¬ (xs.toArray.isEmpty=true):=by simpa using h
   rw [if_neg this];simp
theorem VR.flat {hB h:Heap} {O:Own} {vs:List Value} {ms:List MV} (x:VR hB O h vs ms):∀ k,VR hB O h (List.replicate k vs).flatten (List.replicate k ms).flatten
 | 0=>.nil
 | k + 1=>by rw [List.replicate_succ,List.replicate_succ,List.flatten_cons,List.flatten_cons];exact x.append (VR.flat x k)
section
variable {J:Loc} {O:Own} {s:Shared} {A:Around} {Qm:PV} {Q:VS} {E:VS}
theorem mul_list0 {prog:Program} {w:World} {l:Addr} {items:Array Value} {k:Nat} {x:Int} {u:Tok}
   (hl:s.heap.get? l=some { cls:=.type "list",dict:=none,data:=.seq items k,slots:=#[] })
   (hlo:-(2 ^ 63:Int)<=x) (hhi:x < 2 ^ 63) (hsz:items.size * x.toNat<=2 ^ 24)
   (h:Q (.ref s.heap.objs.size) { s with heap:=s.heap.push { cls:=.type "list",data:=.seq (List.foldl (fun x1 x2=>x1 ++ x2) #[] (List.replicate (if items.isEmpty=true then 0 else x.toNat) items)) } }) :
   wpAny (model prog w) A (binaryOp .Mult (.ref l) (.int x u)) Q E s :=
 wpAny_binaryOp_repeat_ref (T:="list") (U:="int") dC ⟨_,hl,rfl⟩ (fun s'=>typeIs_int s' x u) noFill_list_mul F.fills_int_mul F.slot_int_rmul repeat_list F.slot_int_index.lookup
   (call_meets F.slot_int_rmul (typeIs_int s x u) F.entry_int_rmul (F.args_int_rmul_2 _ _) (int___rmul___int_list x u l items k)
     ⟨hl,rfl,⟨_,hl,rfl⟩,call_meets F.slot_list_mul ⟨_,hl,rfl⟩ F.entry_list_mul (F.args_list_mul_2 _ _)
       (AutoListH.list___mul___list_int_3 l items k x u (by simp [Builtin.List.listFitsIndex];exact And.intro (idn hlo) (ilup hhi)) (Nat.not_lt_of_le (lE hsz)) (by simp [Builtin.List.listTooLong,sizeLine];exact hsz))
       ⟨hl,h⟩⟩)
theorem bopI_ok {op:Operator} {x y:Int} {t u:Tok} (a:At G F J O s) (h:bopI op x y O Qm) (K:K1 G F J O s Qm Q) :
   wpAny (model G.prog G.w) A (binaryOp op (.int x t) (.int y u)) Q E s:=by
 cases op with
 | Add=>exact add_int (K1.tok K a (.int ..) h)
 | Sub=>exact sub_int (K1.tok K a (.int ..) h)
 | Mult=>exact mul_int (K1.tok K a (.int ..) h.2) (intMulOk_left h.1)
 | Mod =>
   refine mod_int' (Int.ne_of_gt h.1) (K1.tok K a (m:=.int (x % y)) ?_ h.2)
   rw [Int.fmod_eq_emod_of_nonneg _ (Int.le_of_lt h.1)];exact .int ..
 | FloorDiv =>
   have h1:=h.1
   have h2:=h.2.1
   refine floordiv_int (Int.ne_of_gt h1) (K1.tok K a (m:=.int (x / y)) ?_ h.2.2) (.inl (PyProof.noPylong_small (by lia)))
   rw [Int.fdiv_eq_ediv_of_nonneg _ (Int.le_of_lt h1)];exact .int ..
 | Pow =>
   obtain ⟨rfl,rfl,h⟩:=h
   exact pow_int_small dC dC dC (K1.tok K a (.int ..) h)
 | _=>exact False.elim h
theorem bop_ok {op:Operator} {va vb:Value} {ma mb:MV} (a:At G F J O s) (ra:VE G.hB O s.heap va ma) (rb:VE G.hB O s.heap vb mb) (h:bop op ma mb O Qm) (K:K1 G F J O s Qm Q) :
   wpAny (model G.prog G.w) A (binaryOp op va vb) Q E s:=by
 cases ma with
 | int i =>
   obtain ⟨_,rfl⟩:=ra.i
   cases mb with
   | int j =>
     obtain ⟨_,rfl⟩:=rb.i
     exact bopI_ok a h K
   | _=>exact False.elim h
 | bytes =>
   cases mb with
   | bytes =>
     obtain ⟨x,t,rfl,rfl⟩:=ra.y
     obtain ⟨y,u,rfl,rfl⟩:=rb.y
     obtain ⟨rfl,h1,h⟩:=h
     refine KBy.add_bytes (by rw [oC,oC] at h1;unfold yL at h1;exact lE h1) fun t' k=>K1.tok K a ?_ h
     rw [<- octs_append];exact .bytes ..
   | _=>exact False.elim h
 | ref =>
   cases ra.r
   cases mb with
   | ref =>
     cases rb.r
     obtain ⟨rfl,xs,ys,hx,hy,hl,h⟩:=h
     obtain ⟨vs,i,hvs,rx⟩:=(a.rel.own _ _ hx).2
     obtain ⟨us,j,hus,ry⟩:=(a.rel.own _ _ hy).2
     refine P.add_list hvs hus ?_ (by have:=rx.length;have:=ry.length;simp only [List.size_toArray];exact sZ (by rw [rx.length,ry.length];exact hl))
     refine K1.push K a (tk:=s.toks) (mo:=.list (xs ++ ys)) ⟨vs ++ us,0,?_,?_⟩ h
     . rw [Heap.get?_push_size _ rfl];simp
     . exact (rx.append ry).mono (a.rel.kd_push _)
   | int k =>
     obtain ⟨_,rfl⟩:=rb.i
     obtain ⟨rfl,xs,hx,h1,h2,hl,h⟩:=h
     obtain ⟨vs,i,hvs,rx⟩:=(a.rel.own _ _ hx).2
     refine mul_list0 hvs (by lia) (ilup h1) (by rw [List.size_toArray,rx.length];unfold yL at hl;exact lE hl) ?_
     rw [foldl_rep]
     refine K1.push K a (tk:=s.toks) (mo:=.list (List.replicate k.toNat xs).flatten) ⟨_,0,Heap.get?_push_size _ rfl,?_⟩ h
     exact (rx.flat _).mono (a.rel.kd_push _)
   | _=>exact False.elim h
 | _=>exact False.elim h
end
theorem sB {op:Operator} {l r:Expr} {pos:Pos} {f g:ET} (hf:SI G n F (eval l F.env) f) (hg:SI G n F (eval r F.env) g):SI G n F (eval (.BinOp l op r pos) F.env) (mB op f g):=by
 intro A R J O s Qm Em Q E a h K KE
 refine wpC_BinOp (hf A R J O s _ Em _ E a h (fun va ma O1 s1 a1 S1 r1 h1=>?_) KE)
 refine hg A R J O1 s1 _ Em _ E a1 h1 (fun vb mb O2 s2 a2 S2 r2 h2=>?_) (fun k O' e s' x=>KE k O' e s' (x.after S1))
 exact lift <| bop_ok a2 (r1.mono (a1.kd (.inl rfl) S2)) r2 h2 fun v m O' s' a' S'=>K v m O' s' a' ((S1.trans S2).trans S')
set_option backward.match.sparseCases true
end Mn
namespace Mn
variable {G:GC} {n:Nat} {F:FC}
theorem beq_dec {α:Type} [BEq α] [LawfulBEq α] [DecidableEq α] (a b:α):(a == b)=decide (a=b):=by
 by_cases h:a=b
 . rw [decide_eq_true h];exact beq_iff_eq.mpr h
 . rw [decide_eq_false h];exact beq_eq_false_iff_ne.mpr h
theorem bne_dec {α:Type} [BEq α] [LawfulBEq α] [DecidableEq α] (a b:α):(a != b)=decide (a ≠ b):=by
 unfold bne
 rw [beq_dec]
 by_cases h:a=b
 . rw [decide_eq_true h,decide_eq_false (by simpa using h)];rfl
 . rw [decide_eq_false h,decide_eq_true h];rfl
noncomputable def copI:CmpOp->Int->Int->(Bool->Prop)->Prop
 | .Eq,a,b,Q=>Q (decide (a=b))
 | .NotEq,a,b,Q=>Q (decide (a ≠ b))
 | .Lt,a,b,Q=>Q (decide (a < b))
 | .LtE,a,b,Q=>Q (decide (a<=b))
 | .Gt,a,b,Q=>Q (decide (a > b))
 | .GtE,a,b,Q=>Q (decide (a >= b))
 | _,_,_,_=>False
noncomputable def copE (op:CmpOp) (p:Prop) [Decidable p] (Q:Bool->Prop):Prop:=match op with
 | .Eq=>Q (decide p)
 | .NotEq=>Q (decide (¬ p))
 | _=>False
noncomputable def copIs (op:CmpOp) (c:Bool) (Q:Bool->Prop):Prop:=match op with
 | .Is=>Q c
 | .IsNot=>Q (!c)
 | _=>False
noncomputable def copB (op:CmpOp) (a b:Bool) (Q:Bool->Prop):Prop:=match op with
 | .NotEq=>Q (decide (a ≠ b))
 | _=>False
noncomputable def cop (op:CmpOp) (x y:MV) (Q:Bool->Prop):Prop:=match x with
 | .int a=>match y with
   | .int b=>copI op a b Q
   | .none=>copIs op false Q
   | _=>False
 | .bytes a=>match y with
   | .bytes b=>copE op (a=b) Q
   | _=>False
 | .str a=>match y with
   | .str b=>copE op (a=b) Q
   | _=>False
 | .bool a=>match y with
   | .bool b=>copB op a b Q
   | _=>False
 | .none=>match y with
   | .none=>copIs op true Q
   | _=>False
 | _=>False
theorem octs_inj {a b:Array UInt8} (h:octs a=octs b):a.toList=b.toList:=by
 unfold octs at h
 exact List.map_inj_right (fun x y e=>by
   have:x.toNat=y.toNat:=by exact_mod_cast e
   exact UInt8.toNat_inj.mp this) |>.mp h
theorem octs_beq {x y:Array UInt8}:(x.toList == y.toList)=decide (octs x=octs y):=by
 rw [beq_dec]
 exact decide_eq_decide.mpr ⟨fun q=>by unfold octs;rw [q],octs_inj⟩
section
variable {J:Loc} {O:Own} {s:Shared} {A:Around} {Q:VS} {E:VS}
theorem cop_ok {op:CmpOp} {va vb:Value} {ma mb:MV} (ra:VE G.hB O s.heap va ma) (rb:VE G.hB O s.heap vb mb) {Qm:Bool->Prop} (h:cop op ma mb Qm) (K:∀ c,Qm c->Q (.bool c) s) :
   wpAny (model G.prog G.w) A (compareOp op va vb) Q E s:=by
 cases ma with
 | int =>
   obtain ⟨_,rfl⟩:=ra.i
   cases mb with
   | int =>
     obtain ⟨_,rfl⟩:=rb.i
     cases op with
     | Eq=>exact eq_int (K _ h)
     | NotEq=>refine ne_int (K _ ?_);rw [bne_dec];exact h
     | Lt=>exact lt_int (K _ h)
     | LtE=>exact le_int (K _ h)
     | Gt=>exact gt_int (K _ h)
     | GtE=>exact ge_int (K _ h)
     | _=>exact False.elim h
   | none =>
     cases rb.n
     cases op with
     | Is | IsNot=>exact fun _ _ _=>K _ h
     | _=>exact False.elim h
   | _=>exact False.elim h
 | bytes =>
   cases mb with
   | bytes =>
     obtain ⟨x,t,rfl,rfl⟩:=ra.y
     obtain ⟨y,u,rfl,rfl⟩:=rb.y
     cases op with
     | Eq=>refine eq_bytes (K _ ?_);rw [octs_beq];exact h
     | NotEq=>refine ne_bytes (K _ ?_);rw [bne,octs_beq,<- decide_not];exact h
     | _=>exact False.elim h
   | _=>exact False.elim h
 | str =>
   cases mb with
   | str =>
     obtain ⟨_,rfl⟩:=ra.s
     obtain ⟨_,rfl⟩:=rb.s
     cases op with
     | Eq=>refine eq_str (K _ ?_);rw [beq_dec];exact h
     | NotEq=>refine ne_str (K _ ?_);rw [bne_dec];exact h
     | _=>exact False.elim h
   | _=>exact False.elim h
 | bool =>
   cases mb with
   | bool =>
     cases ra.b;cases rb.b
     cases op with
     | NotEq=>refine ne_bool (K _ ?_);rw [bne_dec];exact h
     | _=>exact False.elim h
   | _=>exact False.elim h
 | none =>
   cases mb with
   | none =>
     cases ra.n;cases rb.n
     cases op with
     | Is | IsNot=>exact fun _ _ _=>K _ h
     | _=>exact False.elim h
   | _=>exact False.elim h
 | _=>exact False.elim h
end
noncomputable def mCmp (op:CmpOp) (f g:ET):ET:=fun J O Q E=>f J O (fun a O1=>g J O1 (fun b O2=>cop op a b fun c=>Q (.bool c) O2) E) E
noncomputable def mCmp2 (op op':CmpOp) (f g h:ET):ET:=fun J O Q E=>f J O (fun a O1=>g J O1 (fun b O2=>cop op a b fun c=>if c=true then h J O2 (fun d O3=>cop op' b d fun c'=>Q (.bool c') O3) E else Q (.bool false) O2) E) E
noncomputable abbrev BT:=Loc->Own->(Bool->Own->Prop)->(PE)->Prop
noncomputable def bC (op:CmpOp) (f g:ET):BT:=fun J O Q E=>f J O (fun a O1=>g J O1 (fun b O2=>cop op a b fun c=>Q c O2) E) E
noncomputable def bCmp2 (op op':CmpOp) (f g h:ET):BT:=fun J O Q E=>f J O (fun a O1=>g J O1 (fun b O2=>cop op a b fun c=>if c=true then h J O2 (fun d O3=>cop op' b d fun c'=>Q c' O3) E else Q false O2) E) E
noncomputable def bNot (f:BT):BT:=fun J O Q E=>f J O (fun c O'=>Q (!c) O') E
noncomputable def bVal (f:ET):BT:=fun J O Q E=>f J O (fun v O'=>∃ b,v=.bool b/\Q b O') E
noncomputable def bAnd (f g:BT):BT:=fun J O Q E=>f J O (fun c O'=>if c=true then g J O' Q E else Q false O') E
noncomputable def bOr (f g:BT):BT:=fun J O Q E=>f J O (fun c O'=>if c=true then Q true O' else g J O' Q E) E
noncomputable abbrev isT (e:Expr) (env:Env):Sem Bool:=isTrue e env (eval e env)
theorem sCmp {op:CmpOp} {l r:Expr} {pos:Pos} {f g:ET} (hf:SI G n F (eval l F.env) f) (hg:SI G n F (eval r F.env) g) (hm:behindInMarks op r=false:=by with_unfolding_all rfl):SI G n F (eval (.Compare l [op] [r] pos) F.env) (mCmp op f g):=by
 intro A R J O s Qm Em Q E a h K KE
 refine wpC_Compare1 (hf A R J O s _ Em _ E a h (fun va ma O1 s1 a1 S1 r1 h1=>?_) KE) hm
 refine hg A R J O1 s1 _ Em _ E a1 h1 (fun vb mb O2 s2 a2 S2 r2 h2=>?_) (fun k O' e s' x=>KE k O' e s' (x.after S1))
 exact lift <| cop_ok (r1.mono (a1.kd (.inl rfl) S2)) r2 h2 fun c hc=>K _ _ _ _ a2 (S1.trans S2) (.bool c) hc
theorem tC {op:CmpOp} {l r:Expr} {pos:Pos} {f g:ET} (hf:SI G n F (eval l F.env) f) (hg:SI G n F (eval r F.env) g) (hm:behindInMarks op r=false:=by with_unfolding_all rfl):SimB G n F (isT (.Compare l [op] [r] pos) F.env) (bC op f g):=by
 intro A R J O s Qm Em Q E a h K KE
 refine wpC_isTrue_Compare1 (hf A R J O s _ Em _ E a h (fun va ma O1 s1 a1 S1 r1 h1=>?_) KE) hm
 refine hg A R J O1 s1 _ Em _ E a1 h1 (fun vb mb O2 s2 a2 S2 r2 h2=>?_) (fun k O' e s' x=>KE k O' e s' (x.after S1))
 exact lift <| cop_ok (Q:=fun c s3=>wpC _ A (truthy c) Q E s3) (r1.mono (a1.kd (.inl rfl) S2)) r2 h2 fun c hc=>wpC_truthy_bool (K _ _ _ _ a2 (S1.trans S2) rfl hc)
theorem tCmp2 {op op':CmpOp} {l r u:Expr} {pos:Pos} {f g h:ET} (hf:SI G n F (eval l F.env) f) (hg:SI G n F (eval r F.env) g) (hh:SI G n F (eval u F.env) h) (hm:behindInMarks op' u=false:=by with_unfolding_all rfl):SimB G n F (isT (.Compare l [op,op'] [r,u] pos) F.env) (bCmp2 op op' f g h):=by
 intro A R J O s Qm Em Q E a hx K KE
 refine (?_:wpC _ A (do testChain pos (<- eval l F.env) [op,op'] [eval r F.env,markedBehindIn op' u (eval u F.env)]) Q E s)
 rw [markedBehindIn_of_false hm]
 refine wP (hf A R J O s _ Em _ E a hx (fun va ma O1 s1 a1 S1 r1 h1=>?_) KE)
 refine wP (wH (hg A R J O1 s1 _ Em _ E a1 h1 (fun vb mb O2 s2 a2 S2 r2 h2=>?_) (fun k O' e s' x=>KE k O' e s' (x.after S1))))
 refine wP (wS (wP (wH ?_)))
 refine lift <| cop_ok (r1.mono (a1.kd (.inl rfl) S2)) r2 h2 fun c hc=>?_
 refine wP (wpC_release (wP (wH (wpC_truthy_bool ?_))))
 cases c with
 | false=>rw [if_neg Bool.false_ne_true] at hc ⊢;exact wC (K _ _ _ _ a2 (S1.trans S2) rfl hc)
 | true =>
   rw [if_pos rfl] at hc ⊢
   refine wP (wH (hh A R J O2 s2 _ Em _ E a2 hc (fun vd md O3 s3 a3 S3 r3 h3=>?_) (fun k O' e s' x=>KE k O' e s' (x.after (S1.trans S2)))))
   refine wP (wS (wP (wpC_operate ?_)))
   exact lift <| cop_ok (r2.mono (a2.kd (.inl rfl) S3)) r3 h3 fun c hc=>wH (wpC_truthy_bool (K _ _ _ _ a3 ((S1.trans S2).trans S3) rfl hc))
theorem tNot {e:Expr} {pos:Pos} {f:BT} (hf:SimB G n F (isT e F.env) f):SimB G n F (isT (.UnaryOp .Not e pos) F.env) (bNot f):=by
 intro A R J O s Qm Em Q E a h K KE
 refine (?_:wpC _ A (do return !(<- isTrue e F.env (eval e F.env))) Q E s)
 exact wP (hf A R J O s _ Em _ E a h (fun v m O1 s1 a1 S1 r1 h1=>wC (by cases r1;exact K _ _ _ _ a1 S1 rfl h1)) KE)
theorem tVal {e:Expr} {f:ET} (hf:SI G n F (eval e F.env) f) (hs:isT e F.env=(do let v <- eval e F.env;standAt e.pos;holding [v] (truthy v)):=by with_unfolding_all rfl):SimB G n F (isT e F.env) (bVal f):=by
 intro A R J O s Qm Em Q E a h K KE
 rw [hs]
 refine wP (hf A R J O s _ Em _ E a h (fun v m O1 s1 a1 S1 r1 h1=>?_) KE)
 obtain ⟨b,rfl,h1⟩:=h1
 cases r1.b
 exact wP (wS (wH (wpC_truthy_bool (K _ _ _ _ a1 S1 rfl h1))))
noncomputable abbrev isTs (op:BoolOp) (es:List Expr) (env:Env):Sem Bool:=allTrue op es env
theorem tAnd_nil {f:BT} {e:Expr} (hf:SimB G n F (isT e F.env) f):SimB G n F (isTs .And [e] F.env) f:=by
 intro A R J O s Qm Em Q E a h K KE
 refine (?_:wpC _ A (do match BoolOp.And,<- isTrue e F.env (eval e F.env) with | .And,false=>pure false | .Or,true=>pure true | _,_=>allTrue .And [] F.env) Q E s)
 refine wP (hf A R J O s _ Em _ E a h (fun v m O1 s1 a1 S1 r1 h1=>?_) KE)
 cases r1
 cases v <;> exact wC (K _ _ _ _ a1 S1 rfl h1)
theorem tOr_nil {f:BT} {e:Expr} (hf:SimB G n F (isT e F.env) f):SimB G n F (isTs .Or [e] F.env) f:=by
 intro A R J O s Qm Em Q E a h K KE
 refine (?_:wpC _ A (do match BoolOp.Or,<- isTrue e F.env (eval e F.env) with | .And,false=>pure false | .Or,true=>pure true | _,_=>allTrue .Or [] F.env) Q E s)
 refine wP (hf A R J O s _ Em _ E a h (fun v m O1 s1 a1 S1 r1 h1=>?_) KE)
 cases r1
 cases v <;> exact wC (K _ _ _ _ a1 S1 rfl h1)
theorem tAnd_cons {f g:BT} {e:Expr} {es:List Expr} (hf:SimB G n F (isT e F.env) f) (hg:SimB G n F (isTs .And es F.env) g):SimB G n F (isTs .And (e :: es) F.env) (bAnd f g):=by
 intro A R J O s Qm Em Q E a h K KE
 refine (?_:wpC _ A (do match BoolOp.And,<- isTrue e F.env (eval e F.env) with | .And,false=>pure false | .Or,true=>pure true | _,_=>allTrue .And es F.env) Q E s)
 refine wP (hf A R J O s _ Em _ E a h (fun v m O1 s1 a1 S1 r1 h1=>?_) KE)
 cases r1
 cases v with
 | false=>replace h1:=ifF' Bool.false_ne_true h1;exact wC (K _ _ _ _ a1 S1 rfl h1)
 | true =>
   replace h1:=ifT' rfl h1
   exact hg A R J O1 s1 _ Em _ E a1 h1 (fun v m O2 s2 a2 S2 r2 h2=>K _ _ _ _ a2 (S1.trans S2) r2 h2) (fun k O' e s' x=>KE k O' e s' (x.after S1))
theorem tOr_cons {f g:BT} {e:Expr} {es:List Expr} (hf:SimB G n F (isT e F.env) f) (hg:SimB G n F (isTs .Or es F.env) g):SimB G n F (isTs .Or (e :: es) F.env) (bOr f g):=by
 intro A R J O s Qm Em Q E a h K KE
 refine (?_:wpC _ A (do match BoolOp.Or,<- isTrue e F.env (eval e F.env) with | .And,false=>pure false | .Or,true=>pure true | _,_=>allTrue .Or es F.env) Q E s)
 refine wP (hf A R J O s _ Em _ E a h (fun v m O1 s1 a1 S1 r1 h1=>?_) KE)
 cases r1
 cases v with
 | true=>replace h1:=ifT' rfl h1;exact wC (K _ _ _ _ a1 S1 rfl h1)
 | false =>
   replace h1:=ifF' Bool.false_ne_true h1
   exact hg A R J O1 s1 _ Em _ E a1 h1 (fun v m O2 s2 a2 S2 r2 h2=>K _ _ _ _ a2 (S1.trans S2) r2 h2) (fun k O' e s' x=>KE k O' e s' (x.after S1))
theorem tBool {op:BoolOp} {es:List Expr} {pos:Pos} {f:BT} (hf:SimB G n F (isTs op es F.env) f):SimB G n F (isT (.BoolOp op es pos) F.env) f:=hf
noncomputable def mAnd (f g:ET):ET:=fun J O Q E=>f J O (fun v O'=>∃ b,v=.bool b/\if b=true then g J O' Q E else Q (.bool false) O') E
theorem sAnd {e e':Expr} {pos:Pos} {f g:ET} (hf:SI G n F (eval e F.env) f) (hg:SI G n F (eval e' F.env) g):SI G n F (eval (.BoolOp .And [e,e'] pos) F.env) (mAnd f g):=by
 intro A R J O s Qm Em Q E a h K KE
 refine (?_:wpC _ A (eval e F.env >>= _) Q E s)
 refine wP (hf A R J O s _ Em _ E a h (fun v m O1 s1 a1 S1 r1 h1=>?_) KE)
 obtain ⟨b,rfl,h1⟩:=h1
 cases r1.b
 refine wP (wS (wP (wH (wpC_truthy_bool ?_))))
 cases b with
 | false=>replace h1:=ifF' Bool.false_ne_true h1;exact wC (K _ _ _ _ a1 S1 (.bool _) h1)
 | true =>
   replace h1:=ifT' rfl h1
   refine (?_:wpC _ A (eval e' F.env) Q E s1)
   exact hg A R J O1 s1 _ Em _ E a1 h1 (fun v m O2 s2 a2 S2 r2 h2=>K _ _ _ _ a2 (S1.trans S2) r2 h2) (fun k O' e s' x=>KE k O' e s' (x.after S1))
noncomputable def mIte (t:BT) (f g:ET):ET:=fun J O Q E=>t J O (fun c O'=>if c=true then f J O' Q E else g J O' Q E) E
theorem sIte {t e e':Expr} {pos:Pos} {ft:BT} {f g:ET} (ht:SimB G n F (isT t F.env) ft) (hf:SI G n F (eval e F.env) f) (hg:SI G n F (eval e' F.env) g):SI G n F (eval (.IfExp t e e' pos) F.env) (mIte ft f g):=by
 intro A R J O s Qm Em Q E a h K KE
 refine (?_:wpC _ A (do if <- isTrue t F.env (eval t F.env) then eval e F.env else eval e' F.env) Q E s)
 refine wP (ht A R J O s _ Em _ E a h (fun v m O1 s1 a1 S1 r1 h1=>?_) KE)
 cases r1
 cases v with
 | true =>
   rw [if_pos rfl] at h1 ⊢
   exact hf A R J O1 s1 _ Em _ E a1 h1 (fun v m O2 s2 a2 S2 r2 h2=>K _ _ _ _ a2 (S1.trans S2) r2 h2) (fun k O' e s' x=>KE k O' e s' (x.after S1))
 | false =>
   rw [if_neg Bool.false_ne_true] at h1 ⊢
   exact hg A R J O1 s1 _ Em _ E a1 h1 (fun v m O2 s2 a2 S2 r2 h2=>K _ _ _ _ a2 (S1.trans S2) r2 h2) (fun k O' e s' x=>KE k O' e s' (x.after S1))
noncomputable def mNeg (f:ET):ET:=fun J O Q E=>f J O (fun v O'=>∃ i,v=.int i/\Q (.int (-i)) O') E
theorem sNeg {e:Expr} {pos:Pos} {f:ET} (hf:SI G n F (eval e F.env) f):SI G n F (eval (.UnaryOp .USub e pos) F.env) (mNeg f):=by
 intro A R J O s Qm Em Q E a h K KE
 refine (?_:wpC _ A (do let v <- eval e F.env;standAt pos;holding [v] (unaryOp .USub v)) Q E s)
 refine wP (hf A R J O s _ Em _ E a h (fun v m O1 s1 a1 S1 r1 h1=>?_) KE)
 obtain ⟨i,rfl,h1⟩:=h1
 obtain ⟨_,rfl⟩:=r1.i
 exact wP (wS (wH (lift <| neg_int (K1.tok (fun v m O' s' a' S'=>K v m O' s' a' (S1.trans S')) a1 (.int ..) h1))))
end Mn
namespace Mn
variable {G:GC} {n:Nat} {F:FC}
noncomputable abbrev AT:=MV->Loc->Own->(Loc->Own->Prop)->Prop
noncomputable abbrev ALT:=List MV->Loc->Own->(Loc->Own->Prop)->Prop
noncomputable def SimA (G:GC) (n:Nat) (F:FC) (t:Value->Sem Unit) (g:AT):Prop :=
 ∀ (A:Around),Room F.fl n A->∀ (J:Loc) (O:Own) (s:Shared) (v:Value) (m:MV) (Qm:Loc->Own->Prop) (Q:Unit->Shared->Prop) (E:VS),
   At G F J O s->VE G.hB O s.heap v m->g m J O Qm ->
   (∀ J' O' s',At G F J' O' s'->Step (some F.env.locals) O O' s s'->Qm J' O'->Q () s')->wpC (model G.prog G.w) A (t v) Q E s
noncomputable def SimAL (G:GC) (n:Nat) (F:FC) (ts:List (Value->Sem Unit)) (g:ALT):Prop :=
 ∀ (A:Around),Room F.fl n A->∀ (J:Loc) (O:Own) (s:Shared) (vs:List Value) (ms:List MV) (Qm:Loc->Own->Prop) (Q:Unit->Shared->Prop) (E:VS),
   At G F J O s->VR G.hB O s.heap vs ms->g ms J O Qm ->
   (∀ J' O' s',At G F J' O' s'->Step (some F.env.locals) O O' s s'->Qm J' O'->Q () s')->wpC (model G.prog G.w) A (assignInOrder ts vs) Q E s
noncomputable def aL (k:Nat):AT:=fun m J O Q=>Q (upd J k m) O
noncomputable def aCel (c:Addr):AT:=fun m J O Q=>∃ u,O c=some (.cell u)/\Q J (upd O c (.cell (some m)))
noncomputable def aN:ALT:=fun ms J O Q=>ms=[]/\Q J O
noncomputable def aC (a:AT) (r:ALT):ALT:=fun ms J O Q=>∃ m ms',ms=m :: ms'/\a m J O fun J' O'=>r ms' J' O' Q
noncomputable def aT (k:Nat) (g:ALT):AT:=fun m J O Q=>∃ ms,m=.tup ms/\ms.length=k/\g ms J O Q
theorem At.storeLoc {J:Loc} {O:Own} {s:Shared} (a:At G F J O s) {m:Str->Option Value} {x:Str} {k:Nat} {v:Value} {u:MV} (hi:idx F.vars x=some k) (hv:VE G.hB O s.heap v u) (hm:∀ x,VOpt G.hB O s.heap (m x) (rget F.vars J x))
   {h':Heap} {tk:Nat} (ns:h'.Ns F.env.locals (fun y=>if y=x then some v else m y)) (sb:Heap.SameBut F.env.locals s.heap h')
   (cls:∀ o o',s.heap.get? F.env.locals=some o->h'.get? F.env.locals=some o'->o'.cls=o.cls) :
   At G F (upd J k u) O { s with heap:=h',toks:=tk }/\Step (some F.env.locals) O O s { s with heap:=h',toks:=tk }:=by
 obtain ⟨oL,es0,ep0,eL,dL,_⟩:=a.loc.choose_spec.1
 have k':∀ b o,b ≠ F.env.locals->s.heap.get? b=some o->h'.get? b=some o:=fun b o hb e=>sb.extBut b o hb e
 have kd:Kd O s.heap O h':=⟨fun b o n e st=>⟨n,k' b o (fun z=>a.lcls o (z ▸ e) st) e⟩,fun _ _ e=>e⟩
 obtain ⟨oL',es',ep',eL',dL',_⟩:=id ns
 have hc:=cls _ _ eL eL'
 have S:Step (some F.env.locals) O O s { s with heap:=h',toks:=tk }:=⟨⟨h',tk,rfl⟩,fun b o hb _ e=>⟨o,k' b o (fun z=>hb (by rw [z])) e,.refl o⟩,fun _ _ e _=>e,fun _ _ e=>e,fun b o e=>by
   by_cases q:b=F.env.locals
   . subst q;exact⟨_,eL'⟩
   . exact⟨o,k' b o q e⟩⟩
 refine ⟨⟨⟨fun b o e=>?_,fun b mo e=>?_⟩,⟨_,ns,fun y=>?_⟩,a.lfree,a.lbase,fun o' e'=>?_,?_⟩,S⟩
 . exact k' b o (fun z=>by rw [z,a.lbase] at e;cases e) (a.rel.base b o e)
 . exact⟨(a.rel.own b mo e).1,(a.rel.own b mo e).2.mono kd fun o q=>k' b o (fun z=>by rw [z,a.lfree] at e;cases e) q⟩
 . rw [rget_upd hi]
   by_cases q:y=x
   . rw [if_pos q,if_pos q];exact hv.mono kd
   . rw [if_neg q,if_neg q];exact (hm y).mono kd
 . have e1:h'.get? F.env.locals=some o':=e'
   cases one eL' e1
   have:=a.lcls oL eL
   unfold Still at this ⊢
   rw [hc,dL']
   exact fun z=>this ⟨z.1,by rw [dL];simp⟩
 . refine a.frs.step S fun L hL o e=>?_
   cases hL
   cases one eL e
   exact⟨oL',eL',hc,fun vs _=>by rw [dL'];simp⟩
theorem nsSet_core {M:Model} {A:Around} {E:VS} {s:Shared} {a:Addr} {o:Obj} {es:Array DictEntry} {k:Nat} {name:Str} {v:Value} {Q:Unit->Shared->Prop} (ho:s.heap.get? a=some o) (hd:o.data=.dict es k) (hk:StrKeys es)
   (h:∀ h' es' k',h'.get? a=some { o with data:=.dict es' k' }->StrKeys es'->(UniqKeys es->UniqKeys es')->(∀ x,nsFind es' x=if x=name then some v else nsFind es x)->Heap.SameBut a s.heap h'->Q () { s with heap:=h',toks:=s.toks + 1 }) :
   wpAny M A (nsSet a name v) Q E s:=by
 obtain ⟨c,d,dt,sl⟩:=o
 obtain rfl:dt=.dict es k:=hd
 intro Γ p hΓ
 simp only [nsSet,strHash,Sem.wp_bind',Sem.wp_cmd_ask,Sem.wp_pure',Sem.wp_cmd_mkText]
 rw [Sem.wp_loadPart_of M Γ _ p { s with toks:=s.toks + 1 } _ ho]
 have hany:es.any (·.refKey)=false:=by
   rw [Array.any_eq_false'];intro e he;obtain ⟨n,t,h⟩:=hk e he;simp [DictEntry.refKey,h]
 simp only [aRefKeyMayBeTheName_eq,aRefKeyMayBeTheNameByArray,hany,Bool.and_false,Bool.false_eq_true,if_false,Sem.wp_cmd_updatePart]
 refine ⟨by rw [ho];rfl,?_⟩
 cases hi:es.findIdx? (·.key.isStr name) with
 | some i =>
   refine h _ _ k (Heap.get?_update_self _ ho (by simp only [Obj.putName_eq,Obj.putNameByArray,hi];rfl) |>.trans (by simp only [Obj.putName_eq,Obj.putNameByArray,hi])) (hk.modify i v) (fun hu=>hu.modify i v) (fun x=>?_) (Heap.SameBut.update ..)
   exact findBy_modify (fun n v=>v.isStr n) Value.isStr_inj es name x v i hi
 | none =>
   refine h _ _ (k + 1) (Heap.get?_update_self _ ho (by simp only [Obj.putName_eq,Obj.putNameByArray,hi];rfl) |>.trans (by simp only [Obj.putName_eq,Obj.putNameByArray,hi];rfl)) (hk.push _ name _ v) (fun hu=>hu.push _ name _ v hi) (fun x=>?_) (Heap.SameBut.update ..)
   exact findBy_push (fun n v=>v.isStr n) es name x _ _ v (fun y=>by
     refine (?_:(name == y)=decide (y=name))
     by_cases h:y=name
     . subst h;simp
     . have:¬ name=y:=fun e=>h e.symm
       simp [h,this]) hi
theorem wpAny_nsSet_cls {M:Model} {A:Around} {E:VS} {s:Shared} {a:Addr} {m} {name:Str} {v:Value} {Q:Unit->Shared->Prop} (hn:s.heap.Ns a m)
   (h:∀ h',h'.Ns a (fun x=>if x=name then some v else m x)->Heap.SameBut a s.heap h'->(∀ o o',s.heap.get? a=some o->h'.get? a=some o'->o'.cls=o.cls)->Q () { s with heap:=h',toks:=s.toks + 1 }) :
   wpAny M A (nsSet a name v) Q E s:=by
 obtain ⟨o,es,ep,ho,hd,hk,hm⟩:=hn
 refine nsSet_core ho hd hk fun h' es' k' e hk' _ hf hsb=>h h' ⟨_,es',k',e,rfl,hk',fun x=>(hf x).trans (by rw [hm x])⟩ hsb fun o1 o' e1 e'=>?_
 cases one ho e1
 cases one e e'
 rfl
theorem storeName_cel {env:Env} {x:Str} {v:Value} (hl:env.kindOf x=some .cell) (hk:env.scope.kind=.function):storeName env x v=(do cellSet (<- cellOf env x) (some v)):=by
 unfold storeName
 rw [hl,hk]
 rfl
noncomputable def SimN (G:GC) (F:FC) (x:Str) (g:AT):Prop :=
 ∀ (A:Around) (J:Loc) (O:Own) (s:Shared) (v:Value) (m:MV) (Qm:Loc->Own->Prop) (Q:Unit->Shared->Prop) (E:VS),
   At G F J O s->VE G.hB O s.heap v m->g m J O Qm ->
   (∀ J' O' s',At G F J' O' s'->Step (some F.env.locals) O O' s s'->Qm J' O'->Q () s')->wpAny (model G.prog G.w) A (storeName F.env x v) Q E s
theorem nM {x:Str} {k:Nat} (hk:F.env.scope.kind=.function) (hl:F.env.kindOf x=some .local) (hi:idx F.vars x=some k):SimN G F x (aL k):=by
 intro A J O s v m Qm Q E a hv h K
 rw [storeName_local hl (by rw [hk];rfl)]
 obtain ⟨m0,ns,hm⟩:=a.loc
 refine wpAny_nsSet_cls ns fun h' hns hsb hcls=>?_
 obtain ⟨a',S⟩:=a.storeLoc hi hv hm (tk:=s.toks + 1) hns hsb hcls
 exact K _ _ _ a' S h
theorem nmCel {x:Str} {c:Addr} (hk:F.env.scope.kind=.function) (hl:F.env.kindOf x=some .cell) (hc:F.env.cells.lookup x=some c):SimN G F x (aCel c):=by
 intro A J O s v m Qm Q E a hv h K
 obtain ⟨u,hu,h⟩:=h
 obtain ⟨w,hw,hr⟩:=(a.rel.own c _ hu).2
 rw [storeName_cel hl hk]
 refine wpAny_bind (wpAny_cellOf hc ?_)
 refine wpAny_bind (wpAny_load hw (wpAny_update hw ?_))
 have k:∀ b o,b ≠ c->s.heap.get? b=some o->(s.heap.update c fun o=>{ o with data:=.cell (some v) }).get? b=some o:=fun b o hb e=>(Heap.get?_update_other _ _ (Ne.symm hb)).trans e
 have self:=Heap.get?_update_self (fun o:Obj=>{ o with data:=.cell (some v) }) hw rfl
 refine K _ _ _ (a.set hu (tk:=s.toks) k (mo':=.cell (some m)) ⟨some v,self,?_⟩) (Step.set hu k ⟨_,self⟩) h
 exact hv.mono (kd_set hu k)
theorem SimN.st {x:Str} {g:AT} (h:SimN G F x g):SimA G n F (fun v=>bindName F.env x v) g:=fun A _ J O s v m Qm Q E a hv h' K=>wpC_bindName (lift (h A J O s v m Qm Q E a hv h' K))
theorem sT {x:Str} {k:Nat} (hk:F.env.scope.kind=.function) (hl:F.env.kindOf x=some .local) (hi:idx F.vars x=some k):SimA G n F (fun v=>bindName F.env x v) (aL k):=(nM hk hl hi).st
theorem stCel {x:Str} {c:Addr} (hk:F.env.scope.kind=.function) (hl:F.env.kindOf x=some .cell) (hc:F.env.cells.lookup x=some c):SimA G n F (fun v=>bindName F.env x v) (aCel c):=(nmCel hk hl hc).st
theorem aS {x:Str} {pos:Pos} {g:AT} (h:SimA G n F (fun v=>bindName F.env x v) g):SimA G n F (assign (.Name x pos) F.env) g:=by
 intro A R J O s v m Qm Q E a hv hq K
 refine (?_:wpC _ A (do standAt pos;bindName F.env x v) Q E s)
 exact wP (wS (h A R J O s v m Qm Q E a hv hq K))
theorem ai:SimAL G n F [] aN:=by
 intro A R J O s vs ms Qm Q E a hv h K
 obtain ⟨rfl,h⟩:=h
 cases hv
 exact wC (K _ _ _ a (.refl ..) h)
theorem aO {t:Value->Sem Unit} {ts:List (Value->Sem Unit)} {g:AT} {r:ALT} (hg:SimA G n F t g) (hr:SimAL G n F ts r):SimAL G n F (t :: ts) (aC g r):=by
 intro A R J O s vs ms Qm Q E a hv h K
 obtain ⟨m,ms',rfl,h⟩:=h
 cases hv with
 | cons h1 h2 =>
   refine (?_:wpC _ A (do holding _ (t _);assignInOrder ts _) Q E s)
   refine wP (wH (hg A R J O s _ m _ _ E a h1 h fun J1 O1 s1 a1 S1 q1=>?_))
   exact hr A R J1 O1 s1 _ ms' Qm Q E a1 (h2.mono (a.kd (.inr rfl) S1)) q1 fun J' O' s' a' S' q'=>K _ _ _ a' (S1.trans S') q'
theorem isTuple_of {h:Heap} {a:Addr} {vs:List Value} {k:Nat} (e:h.get? a=some ({ cls:=.type "tuple",data:=.seq vs.toArray k }:Obj)):h.IsTuple a vs.toArray:=⟨_,e,rfl,k,rfl⟩
theorem aU {elts:List Expr} {k:Nat} {pos:Pos} {r:ALT} (hr:SimAL G n F ((assignEach elts F.env).map (·.2)) r) (hn:(assignEach elts F.env).length=elts.length:=by rfl) (hs:(assignEach elts F.env).findIdx? (·.1)=none:=by rfl) :
   SimA G n F (assign (.Tuple elts k pos) F.env) (aT elts.length r):=by
 intro A R J O s v m Qm Q E a hv h K
 obtain ⟨ms,rfl,hlen,h⟩:=h
 refine (?_:wpC _ A (do standAt pos;unpack v (assignEach elts F.env)) Q E s)
 refine wP (wS ?_)
 unfold unpack
 rw [hs,hn]
 obtain ⟨_,_,_,rfl,hn,e,hvs⟩:=hv.t
 ·
   rename_i b vs k'
   refine wP (wH ?_)
   have hsz:vs.toArray.size=elts.length:=by rw [List.size_toArray,hvs.length,hlen]
   rw [<- hsz]
   refine lift <| wpAny_unpackItems_tuple R.handled (isTuple_of e) fun h' he=>?_
   have kk:∀ b o,s.heap.get? b=some o->h'.get? b=some o:=fun b o q=>he b o (Nat.ne_of_lt (Heap.lt_size q)) q
   exact hr A R J O { s with heap:=h' } _ ms Qm Q E (a.grow (tk:=s.toks) kk) (hvs.mono (.of kk)) h fun J' O' s' a' S' q'=>K _ _ _ a' (Step.trans (Step.grow (tk:=s.toks) kk) S') q'
noncomputable def sN:ST:=fun J O Q _=>Q .next J O
@[reducible] noncomputable def kSeq (g:ST) (Q:PS) (E:PE) (fl:MFl) (J:Loc) (O:Own):Prop:=match fl with
 | .next=>g J O Q E
 | fl=>Q fl J O
@[reducible] noncomputable def kLoop (g:ST) (Q:PS) (E:PE) (fl:MFl) (J:Loc) (O:Own):Prop:=match fl with
 | .next=>g J O Q E
 | .cont=>g J O Q E
 | .brk=>Q .next J O
 | .ret v=>Q (.ret v) J O
@[reducible] noncomputable def kRet (Q:PV) (fl:MFl) (_:Loc) (O:Own):Prop:=match fl with
 | .ret v=>Q v O
 | .next=>Q .none O
 | _=>False
noncomputable def sQ (f g:ST):ST:=fun J O Q E=>f J O (kSeq g Q E) E
noncomputable def sR (f:ET):ST:=fun J O Q E=>f J O (fun v O'=>Q (.ret v) J O') E
noncomputable def sFlow (fl:MFl):ST:=fun J O Q _=>Q fl J O
noncomputable def sX (f:ET):ST:=fun J O Q E=>f J O (fun v O'=>v=.none/\Q .next J O') E
noncomputable def sA (f:ET) (g:AT):ST:=fun J O Q E=>f J O (fun v O'=>g v J O' fun J' O''=>Q .next J' O'') E
noncomputable def sIf (t:BT) (f g:ST):ST:=fun J O Q E=>t J O (fun c O'=>if c=true then f J O' Q E else g J O' Q E) E
theorem bN:SimS G n F (execs [] F.env) sN:=by
 intro A R J O s Qm Em Q E a h K KE
 exact wpC_execs_nil (K .next .next _ _ _ a (.refl ..) trivial h)
theorem bS {st:Stmt} {rest:List Stmt} {f g:ST} (hf:SimS G n F (exec st F.env) f) (hg:SimS G n F (execs rest F.env) g):SimS G n F (execs (st :: rest) F.env) (sQ f g):=by
 intro A R J O s Qm Em Q E a h K KE
 refine wpC_execs_cons (hf A R J O s _ Em _ E a h (fun fl mf J1 O1 s1 a1 S1 r1 h1=>?_) KE)
 cases fl <;> cases mf <;> (try exact r1.elim)
 . exact hg A R J1 O1 s1 Qm Em Q E a1 h1 (fun v m J' O' s' a' S' r' q'=>K v m J' O' s' a' (S1.trans S') r' q') (fun k O' e s' x=>KE k O' e s' (x.after S1))
 . exact K _ _ _ _ _ a1 S1 r1 h1
 . exact K _ _ _ _ _ a1 S1 r1 h1
 . exact K _ _ _ _ _ a1 S1 r1 h1
theorem bO {st:Stmt} {f:ST} (hf:SimS G n F (exec st F.env) f):SimS G n F (execs [st] F.env) f:=by
 intro A R J O s Qm Em Q E a h K KE
 refine wpC_execs_cons (hf A R J O s _ Em _ E a h (fun fl mf J1 O1 s1 a1 S1 r1 h1=>?_) KE)
 cases fl <;> cases mf <;> (try exact r1.elim)
 . exact wpC_execs_nil (K _ _ _ _ _ a1 S1 r1 h1)
 . exact K _ _ _ _ _ a1 S1 r1 h1
 . exact K _ _ _ _ _ a1 S1 r1 h1
 . exact K _ _ _ _ _ a1 S1 r1 h1
theorem bR {e:Expr} {pos:Pos} {f:ET} (hf:SI G n F (eval e F.env) f):SimS G n F (exec (.Return (some e) pos) F.env) (sR f):=by
 intro A R J O s Qm Em Q E a h K KE
 exact wpC_Return_some (hf A R J O s _ Em _ E a h (fun v m O1 s1 a1 S1 r1 h1=>K (.ret v) (.ret m) _ _ _ a1 S1.weak r1 h1) fun k O' e s' x=>KE k O' e s' x.weak)
theorem bCont {pos:Pos}:SimS G n F (exec (.Continue pos) F.env) (sFlow .cont):=by
 intro A R J O s Qm Em Q E a h K KE
 exact fun _ _ _ _ _=>(K .cont .cont _ _ _ a (.refl ..) trivial h)
theorem bBreak {pos:Pos}:SimS G n F (exec (.Break pos) F.env) (sFlow .brk):=by
 intro A R J O s Qm Em Q E a h K KE
 exact fun _ _ _ _ _=>(K .brk .brk _ _ _ a (.refl ..) trivial h)
theorem bE {e:Expr} {pos:Pos} {f:ET} (hf:SI G n F (eval e F.env) f) (hi:interactive F.env=false) (hs:swapsWith e none pos.line F.env=pure false:=by rfl):SimS G n F (exec (.Expr e pos) F.env) (sX f):=by
 intro A R J O s Qm Em Q E a h K KE
 refine wpC_Expr (hf A R J O s _ Em _ E a h (fun v m O1 s1 a1 S1 r1 h1=>?_) fun k O' e s' x=>KE k O' e s' x.weak) hi hs
 obtain ⟨rfl,h1⟩:=h1
 cases r1.n
 exact K .next .next _ _ _ a1 S1.weak trivial h1
theorem bIf {t:Expr} {b o:List Stmt} {pos:Pos} {ft:BT} {f g:ST} (ht:SimB G n F (isT t F.env) ft) (hf:SimS G n F (execs b F.env) f) (hg:SimS G n F (execs o F.env) g):SimS G n F (exec (.If t b o pos) F.env) (sIf ft f g):=by
 intro A R J O s Qm Em Q E a h K KE
 refine wpC_If (ht A R J O s _ Em _ E a h (fun c c' O1 s1 a1 S1 r1 h1=>?_) fun k O' e s' x=>KE k O' e s' x.weak)
 cases r1
 cases c with
 | true =>
   rw [if_pos rfl] at h1 ⊢
   exact hf A R J O1 s1 Qm Em Q E a1 h1 (fun v m J' O' s' a' S' r' q'=>K v m J' O' s' a' (S1.weak.trans S') r' q') (fun k O' e s' x=>KE k O' e s' (x.after S1.weak))
 | false =>
   rw [if_neg Bool.false_ne_true] at h1 ⊢
   exact hg A R J O1 s1 Qm Em Q E a1 h1 (fun v m J' O' s' a' S' r' q'=>K v m J' O' s' a' (S1.weak.trans S') r' q') (fun k O' e s' x=>KE k O' e s' (x.after S1.weak))
theorem bA {t e:Expr} {pos:Pos} {f:ET} {g:AT} (hf:SI G n F (eval e F.env) f) (hg:SimA G n F (assign t F.env) g) (hs:swapsWith e (some t) pos.line F.env=pure false) (hw:swappedStores [t] e F.env=pure none)
   (ht:assignEach [t] F.env=[(false,assign t F.env)]:=by rfl):SimS G n F (exec (.Assign [t] e pos) F.env) (sA f g):=by
 intro A R J O s Qm Em Q E a h K KE
 show wpC _ A (do
   standAt pos
   if <- swapsWith e (some t) pos.line F.env then do
     evalThenUse e F.env fun v=>assignAll v ((assignEach [t] F.env).map (·.2))
     pure .next
   else do
     let v <- eval e F.env
     assignStores F.env v (<- swappedStores [t] e F.env) ((assignEach [t] F.env).map (·.2))) Q E s
 rw [hs,hw,ht]
 refine wP (wS (wP (wC ?_)))
 refine wP (hf A R J O s _ Em _ E a h (fun v m O1 s1 a1 S1 r1 h1=>?_) fun k O' e s' x=>KE k O' e s' x.weak)
 refine wP (wC ?_)
 refine wP (hg A R J O1 s1 v m _ _ E a1 r1 h1 fun J' O' s' a' S' q'=>wC (K .next .next _ _ _ a' (S1.weak.trans S') trivial q'))
theorem bAsgSw {ts:List Expr} {k:Nat} {tp:Pos} {e:Expr} {pos:Pos} {f:ET} {g:ALT} {names:List Str} (hf:SI G n F (eval e F.env) f) (hg:SimAL G n F (names.reverse.map fun x=>fun v=>bindName F.env x v) g)
   (hs:swapsWith e (some (.Tuple ts k tp)) pos.line F.env=pure false) (hw:swappedStores [.Tuple ts k tp] e F.env=pure (some names)) :
   SimS G n F (exec (.Assign [.Tuple ts k tp] e pos) F.env) (sA f (aT names.length fun ms=>g ms.reverse)):=by
 intro A R J O s Qm Em Q E a h K KE
 show wpC _ A (do
   standAt pos
   if <- swapsWith e (some (.Tuple ts k tp)) pos.line F.env then do
     evalThenUse e F.env fun v=>assignAll v ((assignEach [.Tuple ts k tp] F.env).map (·.2))
     pure .next
   else do
     let v <- eval e F.env
     assignStores F.env v (<- swappedStores [.Tuple ts k tp] e F.env) ((assignEach [.Tuple ts k tp] F.env).map (·.2))) Q E s
 rw [hs,hw]
 refine wP (wS (wP (wC ?_)))
 refine wP (hf A R J O s _ Em _ E a h (fun v m O1 s1 a1 S1 r1 h1=>?_) fun k O' e s' x=>KE k O' e s' x.weak)
 obtain ⟨ms,rfl,hlen,h1⟩:=h1
 refine wP (wC ?_)
 refine wP (wpC_rule ?_)
 obtain ⟨_,_,_,rfl,hn,e1,hvs⟩:=r1.t
 ·
   rename_i b vs k'
   have hsz:vs.toArray.size=names.length:=by rw [List.size_toArray,hvs.length,hlen]
   rw [<- hsz]
   refine wP (lift <| wpAny_unpackItems_tuple R.handled (isTuple_of e1) fun h' he=>?_)
   have kk:∀ b o,s1.heap.get? b=some o->h'.get? b=some o:=fun b o q=>he b o (Nat.ne_of_lt (Heap.lt_size q)) q
   refine wP (hg A R J O1 { s1 with heap:=h' } _ ms.reverse _ _ E (a1.grow (tk:=s1.toks) kk) ?_ h1 fun J' O' s' a' S' q'=>wC (K .next .next _ _ _ a' (S1.weak.trans (Step.trans (Step.grow (tk:=s1.toks) kk) S')) trivial q'))
   exact (hvs.mono (.of kk)).reverse
end Mn
namespace Mn
variable {G:GC} {n:Nat} {F:FC} {K:Frag}
theorem ORep.nofields {O:Own} {h:Heap} {a:Addr} {mo:MObj} (x:ORep G O h a mo) (hc:∀ q,mo ≠ .code q):∃ o,h.get? a=some o/\∀ vs,o.data ≠ .fields vs:=by
 cases mo with
 | list xs=>obtain ⟨vs,n,q,_⟩:=x;exact⟨_,q,by simp⟩
 | barr b=>obtain ⟨vs,q,_⟩:=x;exact⟨_,q,by simp⟩
 | dict es=>obtain ⟨kvs,⟨o',es,ep,q,⟨hc,_⟩,hd,_⟩,_⟩:=x;exact⟨_,q,by rw [hd];simp⟩
 | cell v=>obtain ⟨u,q,_⟩:=x;exact⟨_,q,by simp⟩
 | inst C dx=>exact⟨_,x,by simp⟩
 | ns m=>obtain ⟨es,n,q,_⟩:=x;exact⟨_,q,by simp⟩
 | hid=>obtain ⟨es,n,q⟩:=x;exact⟨_,q,by simp⟩
 | code q=>exact absurd rfl (hc q)
section
variable {fl l':List Env} {X:Option Addr} {O O':Own} {s s':Shared} {a:Addr} {k:Value}
noncomputable def Rec (O':Own) (s s':Shared) (b:Addr):Prop:=s.heap.get? b=none/\(∀ q,O' b ≠ some (.code q))/\∃ o vs,s'.heap.get? b=some o/\o.data=.fields vs
theorem XAt.land {as:List Addr} {t:Addr} {h2:Heap} {fv:Value} (x:XAt G fl X O O' s s' (.ref a) k) (hb:∀ b,s.heap.get? b=none->G.hB.get? b=none) (has:∀ b ∈ as,Rec O' s s' b \/ ∃ env ∈ fl,env.frame=some b)
   (st:(hideAll s'.heap as).StaysIn h2) (tr:h2.TracedAtW (hideAll s'.heap as) a k (.ref t) fv) (hfv:Flt l' fv) (hu:s'.heap.UpToSlots h2) (hl:∀ env ∈ l',env ∈ fl):XAt G l' X O O' s { s' with heap:=h2 } (.ref a) k:=by
 have frame:∀ b,(∃ env ∈ fl,env.frame=some b)->G.hB.get? b=none/\O' b=none/\∃ o,s'.heap.get? b=some o/\o.cls=.type "frame"/\∀ vs,o.data ≠ .fields vs:=by
   rintro b ⟨env,he,hb⟩
   obtain ⟨_,L,o,h1,h2,h3,h4,h5,h6⟩:=x.frs env he
   cases one h1 hb
   exact⟨h2,h6,o,h3,h4,h5⟩
 have keepAll:∀ b o,s'.heap.get? b=some o->¬ Rec O' s s' b->∃ o',h2.get? b=some o'/\Kp o o':=by
   intro b o e np
   by_cases hm:b ∈ as
   . rcases has b hm with p | q
     . exact absurd p np
     . obtain ⟨_,_,o',e',hc,hd⟩:=frame b q
       cases one e e'
       obtain ⟨sl,hs⟩:=hu b o e hd
       exact⟨_,hs,.inr ⟨hc,sl,rfl⟩⟩
   . exact⟨o,st b o (hideAll_get _ e hm),.refl o⟩
 have kd:Kd O' s'.heap O' h2:=⟨fun b o n e st=>by
   obtain ⟨o',e',kp⟩:=keepAll b o e (fun x=>by obtain ⟨_,_,o',vs,e',d⟩:=x;rw [e] at e';cases e';exact st.2 vs d)
   rw [kp.eq (fun q=>by rcases st.1 with h | h <;> rw [h] at q <;> simp at q)] at e'
   exact⟨n,e'⟩,fun _ _ e=>e⟩
 have nRec:∀ b o,s.heap.get? b=some o->¬ Rec O' s s' b:=fun b o e p=>na p.1 e
 refine ⟨⟨x.step.same.trans ⟨h2,s'.toks,rfl⟩,fun b o hX e1 e2=>?_,x.step.off,x.step.code,fun b o e=>?_⟩,⟨fun b o e=>?_,fun b mo e=>?_⟩,fun env he=>?_,?_⟩
 . obtain ⟨o',e',kp⟩:=x.step.keep b o hX e1 e2
   obtain ⟨o'',e'',kp'⟩:=keepAll b o' e' (nRec b o e2)
   exact⟨o'',e'',kp.trans kp'⟩
 . obtain ⟨o',e'⟩:=x.step.dom b o e
   obtain ⟨o'',e'',_⟩:=keepAll b o' e' (nRec b o e)
   exact⟨o'',e''⟩
 . have e':=x.rel.base b o e
   by_cases hm:b ∈ as
   . rcases has b hm with p | q
     . exact na (hb b p.1) e
     . exact na ((frame b q).1) e
   . exact st b o (hideAll_get _ e' hm)
 . obtain ⟨hB,r⟩:=x.rel.own b mo e
   refine ⟨hB,r.mono kd fun o eo=>?_⟩
   by_cases hm:b ∈ as
   . rcases has b hm with p | q
     . by_cases hc:∃ q,mo=.code q
       . obtain ⟨q,rfl⟩:=hc
         exact absurd e (p.2.1 q)
       . obtain ⟨o',e',nf⟩:=r.nofields (fun q h=>hc ⟨q,h⟩)
         obtain ⟨_,_,o'',vs,e'',d⟩:=p
         cases one e' e''
         exact absurd d (nf vs)
     . exact na ((frame b q).2.1) e
   . exact st b o (hideAll_get _ eo hm)
 . obtain ⟨hk,L,o,h1,hB,h3,h4,h5,h6⟩:=x.frs env (hl env he)
   obtain ⟨o',e',kp⟩:=keepAll L o h3 (fun x=>by obtain ⟨_,_,o',vs,e',d⟩:=x;rw [h3] at e';cases e';exact h5 vs d)
   exact⟨hk,L,o',h1,hB,e',kp.cls.trans h4,fun vs=>by rw [kp.data];exact h5 vs,h6⟩
 . obtain ⟨a',ea,hs,_,hc⟩:=x.exc
   cases ea
   obtain ⟨oe,vs,T,oT,ts,he,⟨hcls,h0⟩,hd,h1,hnT,hTe,hT,hdT,h3⟩:=tr
   refine ⟨a,rfl,hs,.inr ⟨T,fv,hfv,?_,?_,oe,vs,oT,ts,he,hcls,hd,h1,hTe,hT,hdT,h3,t,h0⟩,hc⟩
   . by_cases hm:T ∈ as
     . rcases has T hm with p | q
       . exact p.1
       . obtain ⟨_,_,o,e,_,nf⟩:=frame T q
         obtain ⟨sl,hsl⟩:=hu T o e nf
         cases one hT hsl
         exact absurd hdT (nf ts)
     . cases q:s.heap.get? T with
       | none=>rfl
       | some o =>
         obtain ⟨o',e'⟩:=x.step.dom T o q
         exact na hnT (hideAll_get _ e' hm)
   . intro q eq
     by_cases hm:T ∈ as
     . rcases has T hm with p | q'
       . exact p.2.1 q eq
       . exact na ((frame T q').2.1) eq
     . obtain ⟨o',e',_⟩:=(x.rel.own T _ eq).2.there
       exact na hnT (hideAll_get _ e' hm)
theorem FrsOK.hid {h:Heap} {as:List Addr} (H:FrsOK G O h fl) (hin:∀ env ∈ fl,∀ b,env.frame=some b->b ∈ as):h.FunFrames (hideAll h as) fl:=PySem.W.funFrames_hide H.funFrames hin
noncomputable abbrev frs (l:List Env):List Addr:=l.filterMap (·.frame)
theorem mem_frs {l:List Env} {env:Env} {b:Addr} (he:env ∈ l) (hb:env.frame=some b):b ∈ frs l:=List.mem_filterMap.mpr ⟨env,he,hb⟩
theorem of_frs {l:List Env} {b:Addr} (h:b ∈ frs l):∃ env ∈ l,env.frame=some b:=List.mem_filterMap.mp h
theorem Flt.at {env:Env} {r:List Env} {L:Addr} {f:Value} (x:Flt (env :: r) f) (hf:env.frame=some L):f=.none \/ f=rawInt L:=by
 rcases x with rfl | ⟨env',r',L',e,hf',rfl⟩
 . exact .inl rfl
 . cases e
   cases one hf hf'
   exact .inr rfl
theorem leave_ok {M:Model} {A:Around} {E:VS} {Q:Unit->Shared->Prop} {env:Env} {L:Addr} {e:Value} (hfr:A.frames=some (env :: fl)) (hf:env.frame=some L) (x:XAt G (env :: fl) X O O' s s' e k) (hb:∀ b,s.heap.get? b=none->G.hB.get? b=none)
   (hQ:∀ h2,XAt G fl X O O' s { s' with heap:=h2 } e k->Q () { s' with heap:=h2 }):wpAny M A (leaving env e) Q E s':=by
 obtain ⟨a,rfl,hs,r,hc⟩:=id x.exc
 have sub:∀ env' ∈ fl,env' ∈ env :: fl:=fun env' h=>.tail _ h
 have stay:∀ (as:List Addr),(∀ b ∈ as,True)->(hideAll s'.heap as).StaysIn s'.heap:=fun as _ b o e=>of_hideAll _ e
 rcases r with ⟨oe,vs,h1,h2,h3,h4,t,h5⟩ | ⟨T,f,hfl,hT,hTc,oe,vs,oT,ts,h1,h2,h3,h4,h5,h6,h7,h8,t,h9⟩
 . let as:=a :: frs (env :: fl)
   have has:∀ b ∈ as,Rec O' s s' b \/ ∃ e' ∈ env :: fl,e'.frame=some b:=fun b hm=>by
     rcases List.mem_cons.mp hm with rfl | hm
     . exact .inl ⟨hs,hc,oe,vs,h1,h3⟩
     . exact .inr (of_frs hm)
   subst h2
   refine wpAny_leaving_firstW (base:=hideAll s'.heap as) (a0:=.ref t) hfr (x.frs.hid fun env' he b hb=>.tail _ (mem_frs he hb)) hf h1 (stay as fun _ _=>trivial) (hideAll_none _ (.head _)) h3 h4 h5 fun h' y=>?_
   obtain ⟨k1,⟨_,_,k2⟩,k3,k4⟩:=y
   exact hQ h' (x.land hb has k1 k3 (.inl rfl) k4 sub)
 . let as:=a :: T :: frs (env :: fl)
   have has:∀ b ∈ as,Rec O' s s' b \/ ∃ e' ∈ env :: fl,e'.frame=some b:=fun b hm=>by
     rcases List.mem_cons.mp hm with rfl | hm
     . exact .inl ⟨hs,hc,oe,vs,h1,h3⟩
     . rcases List.mem_cons.mp hm with rfl | hm
       . exact .inl ⟨hT,hTc,oT,ts,h6,h7⟩
       . exact .inr (of_frs hm)
   have hn:=hideAll_none (h:=s'.heap) as (.head _:a ∈ as)
   have hn':=hideAll_none (h:=s'.heap) as (.tail _ (.head _):T ∈ as)
   have hff:=x.frs.hid (as:=as) fun env' he b hb=>.tail _ (.tail _ (mem_frs he hb))
   rcases hfl.at hf with rfl | rfl
   . refine wpAny_leaves_onW (base:=hideAll s'.heap as) (a0:=.ref t) (cls:=k) hfr hf ⟨stay as fun _ _=>trivial,hn,hff,oe,vs,T,oT,ts,h1,⟨h2,h9⟩,h3,h4,hn',h5,h6,h7,h8⟩ fun h' f u=>?_
     exact hQ h' (x.land hb has f.1 f.2.2.2 (.inl rfl) u sub)
   . unfold leaving
     refine wpAny_bind (wpAny_noteFrame_againW (base:=hideAll s'.heap as) (cls:=k) (a0:=.ref t) hf ⟨oe,vs,T,oT,ts,h1,⟨h2,h9⟩,h3,h4,hn',h5,h6,h7,h8⟩ ?_)
     refine wpAny_setFlight_noneW (base:=hideAll s'.heap as) (cls:=k) (a0:=.ref t) (stay as fun _ _=>trivial) hff ⟨oe,vs,T,oT,ts,h1,⟨h2,h9⟩,h3,h4,hn',h5,h6,h7,h8⟩ fun h' k1 k2 k3 k4=>?_
     exact hQ h' (x.land hb has k1 k3 (.inl rfl) (fun b o e nf=>⟨o.slots,k4 b o e nf⟩) sub)
theorem note_ok {M:Model} {A:Around} {E:VS} {Q:Unit->Shared->Prop} {env:Env} {L:Addr} {e:Value} (hfr:A.frames=some (env :: fl)) (hf:env.frame=some L) (x:XAt G (env :: fl) X O O' s s' e k) (hb:∀ b,s.heap.get? b=none->G.hB.get? b=none)
   (hQ:∀ h2,XAt G (env :: fl) X O O' s { s' with heap:=h2 } e k->(∀ a,e=.ref a->∃ T,Fly h2 a T k (rawInt L))->Q () { s' with heap:=h2 }):wpAny M A (noteFrame e env) Q E s':=by
 obtain ⟨a,rfl,hs,r,hc⟩:=id x.exc
 have sub:∀ env' ∈ env :: fl,env' ∈ env :: fl:=fun env' h=>h
 have stay:∀ (as:List Addr),(∀ b ∈ as,True)->(hideAll s'.heap as).StaysIn s'.heap:=fun as _ b o e=>of_hideAll _ e
 have held:Flt (env :: fl) (rawInt L):=.inr ⟨env,fl,L,rfl,hf,rfl⟩
 have tell:∀ {B h2:Heap} {t:Addr},h2.TracedAtW B a k (.ref t) (rawInt L)->∀ a',Value.ref a=.ref a'->∃ T,Fly h2 a' T k (rawInt L):=by
   rintro B h2 t ⟨oe,vs,T,oT,ts,h1,⟨h2,h9⟩,h3,h4,hn',h5,h6,h7,h8⟩ a' e
   cases e
   exact⟨T,oe,vs,oT,ts,h1,h2,h3,h4,h5,h6,h7,h8,t,h9⟩
 rcases r with ⟨oe,vs,h1,h2,h3,h4,t,h5⟩ | ⟨T,f,hfl,hT,hTc,oe,vs,oT,ts,h1,h2,h3,h4,h5,h6,h7,h8,t,h9⟩
 . let as:=a :: frs (env :: fl)
   have has:∀ b ∈ as,Rec O' s s' b \/ ∃ e' ∈ env :: fl,e'.frame=some b:=fun b hm=>by
     rcases List.mem_cons.mp hm with rfl | hm
     . exact .inl ⟨hs,hc,oe,vs,h1,h3⟩
     . exact .inr (of_frs hm)
   subst h2
   unfold noteFrame
   simp only [hf]
   refine wpAny_bind (wpAny_field h1 h3 h4 ?_)
   refine wpAny_entryW (base:=hideAll s'.heap as) (a0:=.ref t) hfr (x.frs.hid fun env' he b hb=>.tail _ (mem_frs he hb)) hf h1 (stay as fun _ _=>trivial) (hideAll_none _ (.head _)) h3 (Array.getElem?_eq_some_iff.mp h4).1 h5 fun h' y=>?_
   obtain ⟨k1,k2,k3,k4⟩:=y
   exact hQ h' (x.land hb has k1 k3 held k4 sub) (tell k3)
 . let as:=a :: T :: frs (env :: fl)
   have has:∀ b ∈ as,Rec O' s s' b \/ ∃ e' ∈ env :: fl,e'.frame=some b:=fun b hm=>by
     rcases List.mem_cons.mp hm with rfl | hm
     . exact .inl ⟨hs,hc,oe,vs,h1,h3⟩
     . rcases List.mem_cons.mp hm with rfl | hm
       . exact .inl ⟨hT,hTc,oT,ts,h6,h7⟩
       . exact .inr (of_frs hm)
   have hn:=hideAll_none (h:=s'.heap) as (.head _:a ∈ as)
   have hn':=hideAll_none (h:=s'.heap) as (.tail _ (.head _):T ∈ as)
   have hff:=x.frs.hid (as:=as) fun env' he b hb=>.tail _ (.tail _ (mem_frs he hb))
   rcases hfl.at hf with rfl | rfl
   . refine wpAny_looks_onW (base:=hideAll s'.heap as) (a0:=.ref t) (cls:=k) hfr hf ⟨stay as fun _ _=>trivial,hn,hff,oe,vs,T,oT,ts,h1,⟨h2,h9⟩,h3,h4,hn',h5,h6,h7,h8⟩ fun h' f u=>?_
     exact hQ h' (x.land hb has f.1 f.2.2.2 held u sub) (tell f.2.2.2)
   . refine wpAny_noteFrame_againW (base:=hideAll s'.heap as) (cls:=k) (a0:=.ref t) hf ⟨oe,vs,T,oT,ts,h1,⟨h2,h9⟩,h3,h4,hn',h5,h6,h7,h8⟩ ?_
     have q:({ s' with heap:=s'.heap }:Shared)=s':=rfl
     exact hQ s'.heap x fun a' e=>by cases e;exact⟨T,oe,vs,oT,ts,h1,h2,h3,h4,h5,h6,h7,h8,t,h9⟩
theorem again_ok {M:Model} {A:Around} {E:VS} {env:Env} {L:Addr} {e:Value} (hfr:A.frames=some (env :: fl)) (hf:env.frame=some L) (x:XAt G (env :: fl) X O O' s s' e k) (hb:∀ b,s.heap.get? b=none->G.hB.get? b=none)
   (hE:∀ h2,XAt G (env :: fl) X O O' s { s' with heap:=h2 } e k->E e { s' with heap:=h2 }):notedC M A env (backC M A env E) e s':=by
 refine lift (note_ok hfr hf x hb fun h2 x2 hT=>?_)
 obtain ⟨a,rfl,hs,_,hc⟩:=id x2.exc
 obtain ⟨T,oe,vs,oT,ts,h1,hk,h3,h4,h5,h6,h7,h8,t,h9⟩:=hT a rfl
 refine lift (wpAny_bind (wpAny_field (s:={ s' with heap:=h2 }) h1 h3 h4 ?_))
 refine wpA_neg ((show ¬ ((Value.ref T == Value.none)=true) from by simp)) ?_
 refine (?_:wpAny M A (setFlight (.ref a) env.frame) _ _ _)
 rw [hf]
 unfold setFlight
 refine wpAny_bind (wpAny_field (s:={ s' with heap:=h2 }) h1 h3 h4 ?_)
 refine wpA_pos ((show (Value.ref T != Value.none)=true from by simp)) ?_
 have hsz:3 < ts.size:=(Array.getElem?_eq_some_iff.mp h8).1
 refine wpAny_setField (s:={ s' with heap:=h2 }) h6 h7 hsz ?_
 have same:h2.update T (Obj.mapFields (·.setIfInBounds 3 ((some L:Option Addr).elim Value.none fun f=>rawInt f)))=h2:=Heap.update_setField_same h2 T oT ts 3 (rawInt L) h6 h7 h8
 refine (?_:E (.ref a) { s' with heap:=_ })
 rw [show ({ s' with heap:=h2 }:Shared).heap=h2 from rfl,same]
 exact hE h2 x2
end
end Mn
namespace Mn
variable {G:GC} {n:Nat} {F:FC}
structure IterOK (G:GC) (A:Around) (I:Addr) (ms:List MV) (g:Own->Prop) (fp fh:List Addr) (St:Nat->Heap->Prop):Prop where
 frame:∀ i h h',St i h->(∀ b ∈ fp,∀ o,h.get? b=some o->h'.get? b=some o)->St i h'
 cls:∀ i h,St i h->∀ b ∈ fp,∃ o,h.get? b=some o/\o.cls ≠ .type "frame"
 hids:∀ O,g O->∀ b ∈ fh,O b=some .hid
 item:∀ i m O (s:Shared) (Q:Option Value->Shared->Prop) (E:VS),ms[i]?=some m->St i s.heap->HRel G O s.heap->g O ->
   (∀ v h' tk,VE G.hB O h' v m->St (i + 1) h'->(∀ b o,(b ∉ fp \/ Still o)->b ∉ fh->s.heap.get? b=some o->h'.get? b=some o)->(∀ b ∈ fh,ORep G O h' b .hid)->Q (some v) { s with heap:=h',toks:=tk })->wpAny (model G.prog G.w) A (pyNext (.ref I)) Q E s
 done:∀ O (s:Shared) (Q:Option Value->Shared->Prop) (E:VS),St ms.length s.heap->HRel G O s.heap->g O ->
   (∀ h' tk,(∀ b o,(b ∉ fp \/ Still o)->b ∉ fh->s.heap.get? b=some o->h'.get? b=some o)->(∀ b ∈ fh,ORep G O h' b .hid)->Q none { s with heap:=h',toks:=tk })->wpAny (model G.prog G.w) A (pyNext (.ref I)) Q E s
 self:∀ i (s:Shared) (Q:VS) (E:VS),St i s.heap->Q (.ref I) s->wpAny (model G.prog G.w) A (pyIter (.ref I)) Q E s
 lets:∀ i (t:Expr) (v:Value) (s:Shared) (Q:Unit->Shared->Prop) (E:VS),St i s.heap ->
   (∀ h',St i h'->(∀ b o,(b ∉ fp \/ Still o)->s.heap.get? b=some o->h'.get? b=some o)->Q () { s with heap:=h' })->wpAny (model G.prog G.w) A (letOwnedTupleGo t (.ref I) v) Q E s
theorem At.poke {J:Loc} {O:Own} {s:Shared} (a:At G F J O s) {h':Heap} {tk:Nat} {fp fh:List Addr} (k:∀ b o,(b ∉ fp \/ Still o)->b ∉ fh->s.heap.get? b=some o->h'.get? b=some o)
   (hf:∀ b ∈ fp,O b=none/\G.hB.get? b=none/\b ≠ F.env.locals/\∃ o,s.heap.get? b=some o/\o.cls ≠ .type "frame")
   (hh:∀ b ∈ fh,O b=some .hid/\ORep G O h' b .hid):At G F J O { s with heap:=h',toks:=tk }:=by
 have offh:∀ b,O b=none->b ∉ fh:=fun b e hb=>na e ((hh b hb).1)
 have kd:Kd O s.heap O h':=⟨fun b o n e st=>⟨n,k b o (.inr st) (offh b n) e⟩,fun _ _ e=>e⟩
 refine ⟨⟨fun b o e=>k b o (.inl fun hb=>na ((hf b hb).2.1) e) (fun hb=>na ((a.rel.own b _ (hh b hb).1).1) e) (a.rel.base b o e),fun b mo e=>?_⟩,?_,a.lfree,a.lbase,fun o' e'=>?_,?_⟩
 . by_cases q:b ∈ fh
   . have:=(hh b q).1
     cases one this e
     exact⟨(a.rel.own b _ this).1,(hh b q).2⟩
   . exact⟨(a.rel.own b mo e).1,(a.rel.own b mo e).2.mono kd fun o q'=>k b o (.inl fun hb=>na ((hf b hb).1) e) q q'⟩
 . obtain ⟨m,ns,hm⟩:=a.loc
   obtain ⟨o,es,ep,e,r⟩:=ns
   exact⟨m,⟨_,es,ep,k _ _ (.inl fun hb=>(hf _ hb).2.2.1 rfl) (offh _ a.lfree) e,r⟩,fun x=>(hm x).mono kd⟩
 . obtain ⟨m,⟨o,es,ep,e,r⟩,hm⟩:=a.loc
   have e1:=k _ o (.inl fun hb=>(hf _ hb).2.2.1 rfl) (offh _ a.lfree) e
   have e2:h'.get? F.env.locals=some o':=e'
   cases one e1 e2
   exact a.lcls _ e
 . intro env he
   obtain ⟨hk,L,o,h1,h2,h3,h4,h5,h6⟩:=a.frs env he
   exact⟨hk,L,o,h1,h2,k L o (.inl fun hb=>by
     obtain ⟨_,_,_,o',e',nf⟩:=hf L hb
     cases one h3 e';exact nf h4) (offh _ h6) h3,h4,h5,h6⟩
theorem frOf {F:FC} (h:F.fl=F.env :: F.fl.tail) (k:F.env.frame.isSome=true):∃ r L,F.fl=F.env :: r/\F.env.frame=some L:=⟨_,_,h,(Option.some_get k).symm⟩
theorem againS {n:Nat} {A:Around} {J:Loc} {O:Own} {s:Shared} {E:VS} {Em:PE} (R:Room F.fl n A) (a:At G F J O s) (hF:∃ r L,F.fl=F.env :: r/\F.env.frame=some L)
   (KE:∀ k O' e s',XAt G F.fl (some F.env.locals) O O' s s' e k->Em k O'->E e s') (k:Value) (O':Own) (e:Value) (s':Shared) (x:XAt G F.fl (some F.env.locals) O O' s s' e k) (hm:Em k O'):notedC (model G.prog G.w) A F.env (backC (model G.prog G.w) A F.env E) e s':=by
 obtain ⟨fr,L,hfl,hfL⟩:=hF
 exact again_ok (R.frames.trans (by rw [hfl])) hfL (hfl ▸ x) (fun b e=>a.rel.base_none e) fun h2 x2=>KE _ _ _ _ (hfl ▸ x2) hm
noncomputable def SimIt (G:GC) (n:Nat) (F:FC) (iter:Expr) (f:Loc->Own->(List MV->(Own->Prop)->Own->Prop)->(PE)->Prop):Prop :=
 ∀ (A:Around),Room F.fl n A->∀ (J:Loc) (O:Own) (s:Shared) (Qm:List MV->(Own->Prop)->Own->Prop) (Em:PE) (Q:VS) (E:VS),
   At G F J O s->f J O Qm Em ->
   (∀ I ms g fp fh St O' s',At G F J O' s'->Step none O O' s s'->IterOK G A I ms g fp fh St->St 0 s'.heap->(∀ b ∈ fp,s.heap.get? b=none/\O' b=none)->Qm ms g O'->Q (.ref I) s') ->
   (∀ k O' e s',XAt G F.fl none O O' s s' e k->Em k O'->E e s') ->
   wpC (model G.prog G.w) A (eval iter F.env) (fun x s1=>wpC (model G.prog G.w) A (pyIter x) Q E s1) E s
noncomputable def forL (a:AT) (b:ST) (g:Own->Prop):List MV->ST
 | []=>fun J O Q _=>g O/\Q .next J O
 | m :: r=>fun J O Q E=>g O/\a m J O fun J1 O1=>b J1 O1 (kLoop (forL a b g r) Q E) E
noncomputable def sFor (fi:Loc->Own->(List MV->(Own->Prop)->Own->Prop)->(PE)->Prop) (a:AT) (b:ST):ST:=fun J O Q E=>fi J O (fun ms g O'=>forL a b g ms J O' Q E) E
structure IterG (G:GC) (A:Around) (I:Addr) (ms:List MV) (g:Own->Prop) (fp fh:List Addr) (St:Nat->Heap->Prop) (Md:Nat->Value->Heap->Prop) (t:Expr):Prop where
 frame:∀ i h h',St i h->(∀ b ∈ fp,∀ o,h.get? b=some o->h'.get? b=some o)->St i h'
 cls:∀ i h,St i h->∀ b ∈ fp,∃ o,h.get? b=some o/\o.cls ≠ .type "frame"
 hids:∀ O,g O->∀ b ∈ fh,O b=some .hid
 item:∀ i m O (s:Shared) (Q:Option Value->Shared->Prop) (E:VS),ms[i]?=some m->St i s.heap->HRel G O s.heap->g O ->
   (∀ v h' tk,VE G.hB O h' v m->Md (i + 1) v h'->(∀ b o,(b ∉ fp \/ Still o)->b ∉ fh->s.heap.get? b=some o->h'.get? b=some o)->(∀ b ∈ fh,ORep G O h' b .hid)->Q (some v) { s with heap:=h',toks:=tk })->wpAny (model G.prog G.w) A (pyNext (.ref I)) Q E s
 done:∀ O (s:Shared) (Q:Option Value->Shared->Prop) (E:VS),St ms.length s.heap->HRel G O s.heap->g O ->
   (∀ h' tk,(∀ b o,(b ∉ fp \/ Still o)->b ∉ fh->s.heap.get? b=some o->h'.get? b=some o)->(∀ b ∈ fh,ORep G O h' b .hid)->Q none { s with heap:=h',toks:=tk })->wpAny (model G.prog G.w) A (pyNext (.ref I)) Q E s
 lets:∀ i (v:Value) (s:Shared) (Q:Unit->Shared->Prop) (E:VS),Md i v s.heap ->
   (∀ h',St i h'->(∀ b o,(b ∉ fp \/ Still o)->s.heap.get? b=some o->h'.get? b=some o)->Q () { s with heap:=h' })->wpAny (model G.prog G.w) A (letOwnedTupleGo t (.ref I) v) Q E s
theorem IterOK.g {A:Around} {I:Addr} {ms:List MV} {g:Own->Prop} {fp fh:List Addr} {St:Nat->Heap->Prop} {t:Expr} (W:IterOK G A I ms g fp fh St):IterG G A I ms g fp fh St (fun i _ h=>St i h) t :=
 ⟨W.frame,W.cls,W.hids,W.item,W.done,fun i=>W.lets i t⟩
noncomputable def SimItG (G:GC) (n:Nat) (F:FC) (t iter:Expr) (f:Loc->Own->(List MV->(Own->Prop)->Own->Prop)->(PE)->Prop):Prop :=
 ∀ (A:Around),Room F.fl n A->∀ (J:Loc) (O:Own) (s:Shared) (Qm:List MV->(Own->Prop)->Own->Prop) (Em:PE) (Q:VS) (E:VS),
   At G F J O s->f J O Qm Em ->
   (∀ I ms g fp fh St Md O' s',At G F J O' s'->Step none O O' s s'->IterG G A I ms g fp fh St Md t->St 0 s'.heap->(∀ b ∈ fp,s.heap.get? b=none/\O' b=none)->Qm ms g O'->Q (.ref I) s') ->
   (∀ k O' e s',XAt G F.fl none O O' s s' e k->Em k O'->E e s') ->
   wpC (model G.prog G.w) A (eval iter F.env) (fun x s1=>wpC (model G.prog G.w) A (pyIter x) Q E s1) E s
section
variable {X:Option Addr} {O O':Own} {s s':Shared} {fp fh:List Addr}
theorem Step.poke {h':Heap} {tk:Nat} (x:Step X O O' s s') (hfp:∀ b ∈ fp,s.heap.get? b=none) (k:∀ b o,(b ∉ fp \/ Still o)->b ∉ fh->s'.heap.get? b=some o->h'.get? b=some o)
   (hh:∀ b ∈ fh,O' b=some .hid/\ORep G O' h' b .hid):Step X O O' s { s' with heap:=h',toks:=tk }:=by
 refine ⟨x.same.trans ⟨h',tk,rfl⟩,fun b o hb e1 e2=>?_,x.off,x.code,fun b o e=>?_⟩
 . obtain ⟨o',e',q⟩:=x.keep b o hb e1 e2
   exact⟨o',k b o' (.inl fun hm=>na (hfp b hm) e2) (fun hm=>na (x.off b o e1 e2) (hh b hm).1) e',q⟩
 . by_cases q:b ∈ fh
   . obtain ⟨o,e,_⟩:=(hh b q).2.there;exact⟨o,e⟩
   . obtain ⟨o',e'⟩:=x.dom b o e
     exact⟨o',k b o' (.inl fun hm=>na (hfp b hm) e) q e'⟩
theorem Step.frame {P:Heap->Prop} (fr:∀ h',(∀ b ∈ fp,∀ o,s.heap.get? b=some o->h'.get? b=some o)->P h') (cl:∀ b ∈ fp,∃ o,s.heap.get? b=some o/\o.cls ≠ .type "frame") (hσ:∀ b ∈ fp,O b=none) (hX:∀ b ∈ fp,some b ≠ X) (S:Step X O O' s s') :
   P s'.heap/\∀ b ∈ fp,O' b=none:=by
 refine ⟨fr _ fun b hb o e=>?_,fun b hb=>?_⟩
 . obtain ⟨o',e',q⟩:=S.keep b o (hX b hb) (hσ b hb) e
   obtain ⟨o2,e2,nf⟩:=cl b hb
   rw [e',q.eq (one e e2 ▸ nf)]
 . obtain ⟨o2,e2,_⟩:=cl b hb
   exact S.off b o2 (hσ b hb) e2
theorem get_size_none' {h:Heap} {b:Nat} (hb:h.objs.size<=b):h.get? b=none:=by
 cases q:h.get? b with
 | none=>rfl
 | some o=>exact absurd (Heap.lt_size q) (Nat.not_lt.mpr hb)
theorem Step.none_of {b:Addr} (S:Step X O O' s s') (h:s'.heap.get? b=none):s.heap.get? b=none:=by
 cases q:s.heap.get? b with
 | none=>rfl
 | some o=>obtain ⟨o',e'⟩:=S.dom b o q;exact na h e'
theorem At.offs {J:Loc} (a:At G F J O s) (h:∀ b ∈ fp,s.heap.get? b=none):∀ b ∈ fp,some b ≠ some F.env.locals:=fun b hb q=>by
 obtain ⟨m,⟨o,es,ep,e,_⟩,_⟩:=a.loc
 rw [<- Option.some.inj q] at e
 exact na (h b hb) e
noncomputable def FInv (G:GC) (F:FC) (X:Option Addr) (O:Own) (s:Shared) (St:Nat->Heap->Prop) (fp:List Addr) (n:Nat) (Z:Nat->Loc->Own->Prop) (k:Nat) (s':Shared):Prop :=
 ∀ P:Prop,(∀ i J' O',k=n + 1 - i->i<=n->At G F J' O' s'->Step X O O' s s'->St i s'.heap->(∀ b ∈ fp,O' b=none)->Z i J' O'->P)->P
theorem FInv.on {St:Nat->Heap->Prop} {n i:Nat} {Z:Nat->Loc->Own->Prop} {J':Loc} (h:i < n) (a:At G F J' O' s') (S:Step X O O' s s') (st:St (i + 1) s'.heap/\∀ b ∈ fp,O' b=none) (z:Z (i + 1) J' O'):∃ m,m < n + 1 - i/\FInv G F X O s St fp n Z m s' :=
 ⟨n + 1 - (i + 1),Nat.sub_lt_sub_left (Nat.lt_succ_of_lt h) (Nat.lt_succ_self i),fun P k=>k (i + 1) J' O' rfl h a S st.1 st.2 z⟩
end
theorem forGo {t iter:Expr} {body:List Stmt} {pos:Pos} {fi:Loc->Own->(List MV->(Own->Prop)->Own->Prop)->(PE)->Prop} {ga:AT} {fb:ST}
   (hi:SimItG G n F t iter fi) (ha:SimA G n F (assign t F.env) ga) (hb:SimS G n F (execs body F.env) fb) (hs:foldedSetIterable iter F.env=fun x=>pure x:=by rfl) (hF:F.fl=F.env :: F.fl.tail:=by rfl) (hF2:F.env.frame.isSome=true:=by rfl) :
   SimS G n F (exec (.For t iter body [] pos) F.env) (sFor fi ga fb):=by
 intro A R J O s Qm Em Q E a h K KE
 have again:=againS R a (frOf hF hF2) KE
 refine wpC_For (hi A R J O s _ Em _ E a h (fun I ms g fp fh St Md O₀ s0 a0 S0 W st0 hfp0 h0=>?_) fun k O' e s' x=>KE k O' e s' x.weak) hs
 have hfp:∀ b ∈ fp,s.heap.get? b=none:=fun b hb=>(hfp0 b hb).1
 have ob:=a.offs hfp
 refine codeC_forLoop (FInv G F (some F.env.locals) O s St fp ms.length fun i J' O'=>forL ga fb g (ms.drop i) J' O' Qm Em) ?_ (ms.length + 1) fun P q=>q 0 J O₀ rfl (Nat.zero_le _) a0 S0.weak st0 (fun b hb=>(hfp0 b hb).2) h0
 intro k s' hk
 refine hk _ fun i J' O' e hi' a' S' st' hσ' (hf:forL ga fb g (ms.drop i) J' O' Qm Em)=>?_
 subst e
 have hfp':∀ b ∈ fp,O' b=none/\G.hB.get? b=none/\b ≠ F.env.locals/\∃ o,s'.heap.get? b=some o/\o.cls ≠ .type "frame":=fun b hb=>⟨hσ' b hb,a.rel.base_none (hfp b hb),fun q=>ob b hb (congrArg some q),W.cls i _ st' b hb⟩
 by_cases hlt:i < ms.length
 . rw [List.drop_eq_getElem_cons hlt] at hf
   have hhid:=W.hids O' hf.1
   refine lift <| W.item i _ O' s' _ _ (List.getElem?_eq_getElem hlt) st' a'.rel hf.1 fun v h' tk hv md1 kk hh1=>?_
   refine lift <| W.lets (i + 1) v { s' with heap:=h',toks:=tk } _ _ md1 fun h2 st2 kk2=>?_
   have kd2:Kd O' h' O' h2:=⟨fun b o n e st=>⟨n,kk2 b o (.inr st) e⟩,fun _ _ e=>e⟩
   have kkk:∀ b o,(b ∉ fp \/ Still o)->b ∉ fh->s'.heap.get? b=some o->h2.get? b=some o:=fun b o hb hb' e=>kk2 b o hb (kk b o hb hb' e)
   have hh2:∀ b ∈ fh,O' b=some .hid/\ORep G O' h2 b .hid:=fun b hb=>⟨hhid b hb,(hh1 b hb).mono (O':=O') kd2 fun o e=>kk2 b o (.inl fun hc=>na (hσ' b hc) (hhid b hb)) e⟩
   have S2:=S'.poke (tk:=tk) hfp kkk hh2
   refine (ha A R J' O' _ v _ _ _ _ (a'.poke (tk:=tk) kkk hfp' hh2) (hv.mono kd2) hf.2 fun J3 O3 s3 a3 S3 h3=>?_)
   have f3:=S3.frame (fun h'=>W.frame _ _ h' st2) (W.cls _ _ st2) hσ' ob
   refine hb A R J3 O3 s3 _ Em _ _ a3 h3 (fun fl mf J4 O4 s4 a4 S4 r4 h4=>?_) (fun k O' e s' x=>again k O' e s' (x.after (S2.trans S3)))
   have f4:=S4.frame (fun h'=>W.frame _ _ h' f3.1) (W.cls _ _ f3.1) f3.2 ob
   have SS:=(S2.trans S3).trans S4
   cases mf with
   | next=>cases r4.nx;exact FInv.on hlt a4 SS f4 h4
   | brk=>cases r4.bk;exact K .next .next _ _ _ a4 SS trivial h4
   | cont=>cases r4.ct;exact FInv.on hlt a4 SS f4 h4
   | ret=>obtain ⟨_,rfl,r4⟩:=r4.rt;exact K (.ret _) (.ret _) _ _ _ a4 SS r4 h4
 . have hin:i=ms.length:=Nat.le_antisymm hi' (Nat.not_lt.mp hlt)
   subst hin
   rw [List.drop_length] at hf
   refine lift <| W.done O' s' _ _ st' a'.rel hf.1 fun h' tk kk hh=>?_
   have hh':∀ b ∈ fh,O' b=some .hid/\ORep G O' h' b .hid:=fun b hb=>⟨W.hids O' hf.1 b hb,hh b hb⟩
   exact wpC_execs_nil (K .next .next _ _ _ (a'.poke (tk:=tk) kk hfp' hh') (S'.poke hfp kk hh') trivial hf.2)
theorem bFor {target iter:Expr} {body:List Stmt} {pos:Pos} {fi:Loc->Own->(List MV->(Own->Prop)->Own->Prop)->(PE)->Prop} {ga:AT} {fb:ST}
   (hi:SimIt G n F iter fi) (ha:SimA G n F (assign target F.env) ga) (hb:SimS G n F (execs body F.env) fb) (hs:foldedSetIterable iter F.env=fun x=>pure x:=by rfl) (hF:F.fl=F.env :: F.fl.tail:=by rfl) (hF2:F.env.frame.isSome=true:=by rfl) :
   SimS G n F (exec (.For target iter body [] pos) F.env) (sFor fi ga fb) :=
 forGo (fun A R J O s Qm Em Q E a h K=>hi A R J O s Qm Em Q E a h fun I ms g fp fh St O' s' a' S W=>K I ms g fp fh St _ O' s' a' S W.g) ha hb hs hF hF2
end Mn
namespace Mn
variable {G:GC} {n:Nat} {F:FC}
noncomputable def whN (t:BT) (b:ST):Nat->ST
 | 0=>fun _ _ _ _=>False
 | k + 1=>fun J O Q E=>t J O (fun c O1=>if c=true then b J O1 (kLoop (whN t b k) Q E) E else Q .next J O1) E
noncomputable def sWh (t:BT) (b:ST):ST:=fun J O Q E=>∃ k,whN t b k J O Q E
theorem bWh {t:Expr} {body:List Stmt} {pos:Pos} {ft:BT} {fb:ST} (ht:SimB G n F (isT t F.env) ft) (hb:SimS G n F (execs body F.env) fb) (hF:F.fl=F.env :: F.fl.tail:=by rfl) (hF2:F.env.frame.isSome=true:=by rfl):SimS G n F (exec (.While t body [] pos) F.env) (sWh ft fb):=by
 intro A R J O s Qm Em Q E a h K KE
 obtain ⟨fr,L,hfl,hfL⟩:=frOf hF hF2
 have again:∀ (k:Value) (O':Own) (e:Value) (s':Shared),XAt G F.fl (some F.env.locals) O O' s s' e k->Em k O'->notedC (model G.prog G.w) A F.env (backC (model G.prog G.w) A F.env E) e s':=fun k O' e s' x hm=>again_ok (R.frames.trans (by rw [hfl])) hfL (hfl ▸ x) (fun b e=>a.rel.base_none e) fun h2 x2=>KE _ _ _ _ (hfl ▸ x2) hm
 obtain ⟨k,h⟩:=h
 refine wpC_While (codeC_whileLoop (fun k s'=>∃ J' O',At G F J' O' s'/\Step (some F.env.locals) O O' s s'/\whN ft fb k J' O' Qm Em) ?_ k ⟨J,O,a,.refl ..,h⟩)
 rintro k s' ⟨J',O',a',S',h⟩
 cases k with
 | zero=>exact h.elim
 | succ k =>
   refine ht A R J' O' s' _ Em _ _ a' h (fun c c' O1 s1 a1 S1 r1 h1=>?_) fun k O' e s' x=>again k O' e s' (x.weak.after S')
   cases r1
   cases c with
   | true =>
     rw [if_pos rfl] at h1 ⊢
     refine hb A R J' O1 s1 _ Em _ _ a1 h1 (fun fl mf J2 O2 s2 a2 S2 r2 h₂=>?_) (fun k O' e s' x=>again k O' e s' (x.after (S'.trans S1.weak)))
     have SS:=(S'.trans S1.weak).trans S2
     cases fl <;> cases mf <;> (try exact r2.elim)
     . exact⟨k,Nat.lt_succ_self _,J2,O2,a2,SS,h₂⟩
     . exact K .next .next _ _ _ a2 SS trivial h₂
     . exact⟨k,Nat.lt_succ_self _,J2,O2,a2,SS,h₂⟩
     . exact K (.ret _) (.ret _) _ _ _ a2 SS r2 h₂
   | false =>
     rw [if_neg Bool.false_ne_true] at h1 ⊢
     exact wpC_execs_nil (K .next .next _ _ _ a1 (S'.trans S1.weak) trivial h1)
theorem letGo_none {prog:Program} {w:World} {A:Around} {s:Shared} {t:Expr} {I:Addr} {v:Value} {o:Obj} {cl:String} {Q:Unit->Shared->Prop} {E:VS} (ho:s.heap.get? I=some o) (hc:o.cls=.type cl)
   (hn:["enumerate","zip","dict_itemiterator","dict_reverseitemiterator","odict_iterator","itertools.zip_longest","itertools.pairwise"].contains cl=false) (h:Q () s):wpAny (model prog w) A (letOwnedTupleGo t (.ref I) v) Q E s:=by
 have key:wpAny (model prog w) A (do
     let (.ref r,.ref a):=(Value.ref I,v) | return
     let o <- load r
     match o.cls,o.data with
     | .type n,.fields vs =>
       if ["enumerate","zip","dict_itemiterator","dict_reverseitemiterator","odict_iterator","itertools.zip_longest","itertools.pairwise"].contains n && vs[0]? == some (rawInt a) then
         rule "for.unpacks-the-owned-tuple"
         updateField r 0 .none
     | _,_=>pure ()) Q E s:=by
   cases v <;> try exact wpAny_pure h
   refine wpAny_bind (wpAny_load ho ?_)
   obtain ⟨c,d,dt,sl⟩:=o
   obtain rfl:c=.type cl:=hc
   cases dt <;> try exact wpAny_pure h
   dsimp only
   rw [hn,Bool.false_and,if_neg Bool.false_ne_true]
   exact wpAny_pure h
 cases t <;> first | exact key | exact wpAny_pure h
noncomputable def iT (f:ET):Loc->Own->(List MV->(Own->Prop)->Own->Prop)->(PE)->Prop:=fun J O Q E=>f J O (fun v O'=>∃ l xs,v=.ref l/\O' l=some (.list xs)/\Q xs (fun O=>O l=some (.list xs)) O') E
theorem iterList {A:Around} (hh:A.handled=none) {I l:Addr} {xs:List MV} (hne:l ≠ I):IterOK G A I xs (fun O=>O l=some (.list xs)) [I] [] (fun i h=>h.IsListIter I l i) where
 frame:=fun i h h' ⟨o,e,r⟩ k=>⟨o,k I (.head _) o e,r⟩
 cls:=fun i h ⟨o,e,c,_⟩ b hb=>by
   obtain rfl:b=I:=by simpa using hb
   exact⟨o,e,by rw [c];simp⟩
 hids:=fun _ _ b hb=>nomatch hb
 item:=fun i m O s Q E hm st H hg hQ=>by
   obtain ⟨vs,k,hvs,rx⟩:=(H.own _ _ hg).2
   obtain ⟨v,hv,rv⟩:=rx.get hm
   refine wpAny_pyNext_list_item st ⟨_,hvs,rfl,k,rfl⟩ (by simpa using hv) fun h' it' hs=>?_
   have nI:∀ b o,(b ∉ [I] \/ Still o)->s.heap.get? b=some o->b ≠ I:=fun b o hb e=>by
     rcases hb with hb | stl
     . simpa using hb
     . intro z
       obtain ⟨o',e',c,_⟩:=st
       rw [z,e'] at e;cases e
       unfold Still at stl;rw [c] at stl;simp at stl
   exact hQ v h' s.toks (rv.mono ⟨fun b o n e stl=>⟨n,hs.extBut b o (fun z=>by
     obtain ⟨o',e',c,_⟩:=st
     rw [z,e'] at e;cases e
     unfold Still at stl;rw [c] at stl;simp at stl) e⟩,fun _ _ e=>e⟩) it' (fun b o hb _ e=>hs.extBut b o (nI b o hb e) e) (fun b hb=>nomatch hb)
 done:=fun O s Q E st H hg hQ=>by
   obtain ⟨vs,k,hvs,rx⟩:=(H.own _ _ hg).2
   refine wpAny_pyNext_list_end hh st ⟨_,hvs,rfl,k,rfl⟩ (by simp [rx.length]) fun h' hs=>?_
   refine hQ h' s.toks (fun b o hb _ e=>hs b o ?_ e) (fun b hb=>nomatch hb)
   rcases hb with hb | stl
   . simpa using hb
   . intro z
     obtain ⟨o',e',c,_⟩:=st
     rw [z,e'] at e;cases e
     unfold Still at stl;rw [c] at stl;simp at stl
 self:=fun i s Q E st hQ=>wpAny_pyIter_listiter st hQ
 lets:=fun i t v s Q E st hQ=>by
   obtain ⟨o,e,c,d⟩:=id st
   exact letGo_none e c dC (hQ s.heap st fun b o _ e=>e)
theorem sf {e:Expr} {f:ET} (hf:SI G n F (eval e F.env) f):SimIt G n F e (iT f):=by
 intro A R J O s Qm Em Q E a h K KE
 refine hf A R J O s _ Em _ E a h (fun v m O1 s1 a1 S1 r1 h1=>?_) KE
 obtain ⟨l,xs,rfl,hl,h1⟩:=h1
 cases r1.r
 obtain ⟨vs,k,hvs,rx⟩:=(a1.rel.own _ _ hl).2
 have hIsList:s1.heap.IsList l vs.toArray:=⟨_,hvs,rfl,k,rfl⟩
 refine lift <| wpAny_pyIter_list hIsList ?_
 have hne:l ≠ s1.heap.objs.size:=Nat.ne_of_lt (Heap.lt_size hvs)
 have kk:∀ b o,s1.heap.get? b=some o->(s1.heap.push { cls:=.type "list_iterator",data:=.fields #[.ref l,.int 0 0] }).get? b=some o:=fun b o e=>Heap.get?_push_of_some _ e
 have nsz:∀ b,b=s1.heap.objs.size->s.heap.get? b=none/\O1 b=none:=fun b hb=>by
   subst hb
   refine ⟨?_,a1.rel.none_of (gE _)⟩
   cases q:s.heap.get? s1.heap.objs.size with
   | none=>rfl
   | some o=>obtain ⟨o',e'⟩:=S1.dom _ o q;rw [gE] at e';cases e'
 exact K _ _ _ _ _ _ _ _ (a1.grow (tk:=s1.toks) kk) (S1.trans (.grow (tk:=s1.toks) kk)) (iterList R.handled hne) ⟨_,Heap.get?_push_size _ rfl,rfl,rfl⟩ (fun b hb=>nsz b (by simpa using hb)) h1
theorem iterWalk {A:Around} {I:Addr} {N:Nat} {P:Nat->Value->Prop} {St:Nat->Heap->Prop} {ms:List MV} {cl:String} (W:Walks G.prog G.w A I [I] [I] N P St) (hN:N=ms.length)
   (hc:∀ i h,St i h->∃ o,h.get? I=some o/\o.cls=.type cl) (hcl:cl ≠ "tuple"/\cl ≠ "function"/\cl ≠ "code"/\cl ≠ "frame") (hn:["enumerate","zip","dict_itemiterator","dict_reverseitemiterator","odict_iterator","itertools.zip_longest","itertools.pairwise"].contains cl=false)
   (hP:∀ i m v,ms[i]?=some m->P i v->∀ O h,VE G.hB O h v m):IterOK G A I ms (fun _=>True) [I] [] St where
 frame:=fun i h h' st k=>W.frame i h h' st k
 cls:=fun i h st b hb=>by
   obtain rfl:b=I:=by simpa using hb
   obtain ⟨o,e,c⟩:=hc i h st
   exact⟨o,e,by rw [c];simp [hcl]⟩
 hids:=fun _ _ b hb=>nomatch hb
 item:=fun i m O s Q E hm st H hg hQ=>by
   refine W.item i s _ _ (by rw [hN];exact (List.getElem?_eq_some_iff.mp hm).1) st fun v h' tk hp st' k=>?_
   refine hQ v h' tk (hP i m v hm hp O h') st' (fun b o hb _ e=>k b o ?_ e) (fun b hb=>nomatch hb)
   rcases hb with hb | stl
   . exact hb
   . intro z
     obtain rfl:b=I:=by simpa using z
     obtain ⟨o',e',c⟩:=hc i _ st
     cases one e' e
     unfold Still at stl;rw [c] at stl;simp [hcl] at stl
 done:=fun O s Q E st H hg hQ=>by
   refine W.done s _ _ (hN ▸ st) fun h' tk k=>?_
   refine hQ h' tk (fun b o hb _ e=>k b o ?_ e) (fun b hb=>nomatch hb)
   rcases hb with hb | stl
   . exact hb
   . intro z
     obtain rfl:b=I:=by simpa using z
     obtain ⟨o',e',c⟩:=hc _ _ st
     cases one e' e
     unfold Still at stl;rw [c] at stl;simp [hcl] at stl
 self:=fun i s Q E st hQ=>W.self i s Q E st hQ
 lets:=fun i t v s Q E st hQ=>by
   obtain ⟨o,e,c⟩:=hc i _ st
   exact letGo_none e c hn (hQ s.heap st fun b o _ e=>e)
noncomputable def itBytes (f:ET):Loc->Own->(List MV->(Own->Prop)->Own->Prop)->(PE)->Prop:=fun J O Q E=>f J O (fun v O'=>∃ b,v=.bytes b/\Q (b.map .int) (fun _=>True) O') E
theorem siBytes {e:Expr} {f:ET} (hf:SI G n F (eval e F.env) f):SimIt G n F e (itBytes f):=by
 intro A R J O s Qm Em Q E a h K KE
 refine hf A R J O s _ Em _ E a h (fun v m O1 s1 a1 S1 r1 h1=>?_) KE
 obtain ⟨b,rfl,h1⟩:=h1
 obtain ⟨b,t,rfl,rfl⟩:=r1.y
 ·
   refine lift <| KBw.pyIter_bytes ?_
   have kk:∀ c o,s1.heap.get? c=some o->(s1.heap.push { cls:=.type "bytes_iterator",data:=.fields #[.bytes b t,.int 0 0] }).get? c=some o:=fun b o e=>Heap.get?_push_of_some _ e
   have nsz:∀ b,b=s1.heap.objs.size->s.heap.get? b=none/\O1 b=none:=fun b hb=>by
     subst hb
     refine ⟨?_,a1.rel.none_of (gE _)⟩
     cases q:s.heap.get? s1.heap.objs.size with
     | none=>rfl
     | some o=>obtain ⟨o',e'⟩:=S1.dom _ o q;rw [gE] at e';cases e'
   refine K _ _ _ _ _ _ _ _ (a1.grow (tk:=s1.toks) kk) (S1.trans (.grow (tk:=s1.toks) kk)) (iterWalk (cl:="bytes_iterator") (KBw.walks R.handled s1.heap.objs.size b t) (by simp [octs]) (fun i h ⟨o,e,c,_⟩=>⟨o,e,c⟩) dC dC ?_) ⟨_,Heap.get?_push_size _ rfl,rfl,rfl⟩ (fun b hb=>nsz b (by simpa using hb)) h1
   rintro i m v hm ⟨c,u,hc,rfl⟩ O h
   have:(octs b)[i]?=some (c.toNat:Int):=KBw.ints_get hc
   rw [List.getElem?_map,this] at hm
   cases hm
   exact .int ..
end Mn
namespace Mn
variable {G:GC} {n:Nat} {F:FC}
noncomputable abbrev LT:=Loc->Own->(List MV->Own->Prop)->(PE)->Prop
noncomputable def eN:LT:=fun _ O Q _=>Q [] O
noncomputable def eC (f:ET) (g:LT):LT:=fun J O Q E=>f J O (fun v O1=>g J O1 (fun vs O2=>Q (v :: vs) O2) E) E
noncomputable abbrev argsOf (es:List Expr) (env:Env) (pos:Pos):Sem (List Value):=spliced (backTo pos (starEach es env))
theorem lN {pos:Pos}:SimL G n F (argsOf [] F.env pos) eN:=by
 intro A R J O s Qm Em Q E a h K KE
 exact lift <| spliced_nil (K _ _ _ _ a (.refl ..) .nil h)
theorem lC {e:Expr} {es:List Expr} {pos:Pos} {f:ET} {g:LT} (hf:SI G n F (eval e F.env) f) (hg:SimL G n F (argsOf es F.env pos) g)
   (he:starEach (e :: es) F.env=(false,eval e F.env) :: starEach es F.env:=by rfl):SimL G n F (argsOf (e :: es) F.env pos) (eC f g):=by
 intro A R J O s Qm Em Q E a h K KE
 refine (?_:wpC _ A (spliced (backTo pos (starEach (e :: es) F.env))) Q E s)
 rw [he]
 refine wL (hf A R J O s _ Em _ E a h (fun v m O1 s1 a1 S1 r1 h1=>?_) KE)
 exact hg A R J O1 s1 _ Em _ E a1 h1 (fun vs ms O2 s2 a2 S2 r2 h2=>K _ _ _ _ a2 (S1.trans S2) (.cons (r1.mono (a1.kd (.inl rfl) S2)) r2) h2) (fun k O' e s' x=>KE k O' e s' (x.after S1))
noncomputable def mU (g:LT):ET:=fun J O Q E=>g J O (fun ms O'=>yL ms.length/\Q (.tup ms) O') E
noncomputable def mLst (g:LT):ET:=fun J O Q E=>g J O (fun ms O'=>yL ms.length/\∀ r,O' r=none->Q (.ref r) (upd O' r (.list ms))) E
theorem sTup {es:List Expr} {k:Nat} {pos:Pos} {g:LT} (hg:SimL G n F (argsOf es F.env pos) g):SI G n F (eval (.Tuple es k pos) F.env) (mU g):=by
 intro A R J O s Qm Em Q E a h K KE
 refine wpC_Tuple (hg A R J O s _ Em _ E a h (fun vs ms O1 s1 a1 S1 r1 h1=>?_) KE)
 obtain ⟨hl,h1⟩:=h1
 have kk:∀ b o,s1.heap.get? b=some o->(s1.heap.push { cls:=.type "tuple",data:=.seq vs.toArray }).get? b=some o:=fun b o e=>Heap.get?_push_of_some _ e
 refine lift <| wpAny_newObj_type (K _ _ _ _ (a1.grow (tk:=s1.toks) kk) (S1.trans (.grow (tk:=s1.toks) kk)) (.tup (a1.rel.none_of (gE _)) (Heap.get?_push_size _ rfl) (r1.mono (.of kk))) h1) ?_
 refine (?_:vs.toArray.size<=sizeLine)
 rw [List.size_toArray,r1.length];exact sZ hl
theorem sLst {es:List Expr} {pos:Pos} {g:LT} (hg:SimL G n F (argsOf es F.env pos) g):SI G n F (eval (.List es pos) F.env) (mLst g):=by
 intro A R J O s Qm Em Q E a h K KE
 refine wpC_List (hg A R J O s _ Em _ E a h (fun vs ms O1 s1 a1 S1 r1 h1=>?_) KE)
 obtain ⟨hl,h1⟩:=h1
 refine lift <| wpAny_newObj_type ?_ (show vs.toArray.size<=sizeLine by rw [List.size_toArray,r1.length];exact sZ hl)
 exact K1.push (fun v m O' s' a' S'=>K v m O' s' a' (S1.trans S')) a1 (tk:=s1.toks) (mo:=.list ms) ⟨vs,0,Heap.get?_push_size _ rfl,r1.mono (a1.rel.kd_push _)⟩ h1
noncomputable def mDct:ET:=fun J O Q E=>∀ r,O r=none->Q (.ref r) (upd O r (.dict []))
theorem sDct {pos:Pos}:SI G n F (eval (.Dict [] [] pos) F.env) mDct:=by
 intro A R J O s Qm Em Q E a h K KE
 refine (?_:wpC _ A (do standAt pos;dictDisplay []) Q E s)
 refine wP (wS ?_)
 refine (?_:wpC _ A newDict Q E s)
 refine lift <| wpAny_newObj_type ?_ ?_
 . exact K1.push K a (tk:=s.toks) (mo:=.dict []) ⟨[],⟨_,#[],0,Heap.get?_push_size _ rfl,⟨rfl,rfl,rfl⟩,rfl,(fun e he=>by simp at he),.nil,by simp⟩,.nil⟩ h
 . refine (?_:(#[]:Array DictEntry).size<=sizeLine + 1)
   simp
noncomputable abbrev CT:=List MV->Own->(PV)->(PE)->Prop
noncomputable def SimC (G:GC) (n:Nat) (F:FC) (fv:Value) (c:CT):Prop :=
 ∀ (A:Around),Room F.fl n A->∀ (J:Loc) (O:Own) (s:Shared) (vs:List Value) (ms:List MV) (Qm:PV) (Em:PE) (Q:VS) (E:VS),
   At G F J O s->VR G.hB O s.heap vs ms->c ms O Qm Em->K1 G F J O s Qm Q->(∀ k O' e s',XAt G F.fl none O O' s s' e k->Em k O'->E e s')->wpC (model G.prog G.w) A (call fv vs) Q E s
noncomputable def KeepOK (G:GC) (fv:Value):Prop:=∀ h:Heap,G.hB.StaysIn h->∃ k,(k=Keeper.frame \/ k=Keeper.machine \/ k=Keeper.boundFrame)/\Looks (model G.prog G.w) h (keeperOf fv) k
noncomputable def mA (g:LT) (c:CT):ET:=fun J O Q E=>g J O (fun ms O'=>c ms O' Q E) E
theorem kO {T:String}:KeepOK G (.type T):=fun h _=>⟨.machine,.inr (.inl rfl),Looks.of_pure rfl⟩
theorem kP {T:String}:KeepOK G (.builtin T):=fun h _=>⟨.machine,.inr (.inl rfl),Looks.of_pure rfl⟩
theorem callWith_sim {fv:Value} {pos:Pos} {es:List Expr} {g:LT} {c:CT} {first:List Value} (hk:KeepOK G fv) (hg:SimL G n F (argsOf es F.env pos) g) (hp:(backTo pos (starEach es F.env)).any (·.1)=false)
   {A:Around} (R:Room F.fl n A) {J:Loc} {O:Own} {s:Shared} {Qm:PV} {Em:PE} {Q:VS} {E:VS} {fms:List MV} (a:At G F J O s) (hf:VR G.hB O s.heap first fms)
   (hc:SimC G n F fv c) (h:g J O (fun ms O'=>c (fms ++ ms) O' Qm Em) Em) (K:K1 G F J O s Qm Q) (KE:∀ k O' e s',XAt G F.fl none O O' s s' e k->Em k O'->E e s') :
   wpC (model G.prog G.w) A (callWith pos fv first (backTo pos (starEach es F.env)) (backToKw pos (keywordEach [] F.env))) Q E s:=by
 have key:wpC (model G.prog G.w) A (spliced (backTo pos (starEach es F.env))) (fun vs s1=>G.hB.StaysIn s1.heap/\wpC (model G.prog G.w) A (call fv (first ++ vs) []) Q E s1) E s:=by
   refine hg A R J O s _ Em _ E a h (fun vs ms O1 s1 a1 S1 r1 h1=>⟨a1.rel.base,?_⟩) KE
   exact hc A R J O1 s1 _ _ Qm Em Q E a1 ((hf.mono (a.kd (.inl rfl) S1)).append r1) h1 (fun v m O' s' a' S'=>K v m O' s' a' (S1.trans S')) (fun k O' e s' x=>KE k O' e s' (x.after S1))
 refine wpC_callWith (P:=fun h=>G.hB.StaysIn h) (by show ((backTo pos (starEach es F.env)).any (·.1) || false)=false;rw [hp];rfl) hk ?_
 cases hb:backTo pos (starEach es F.env) with
 | nil =>
   rw [hb] at key
   exact lift <| evalArgs_nil3 (by
     have:=key
     have h2:wpC (model G.prog G.w) A (pure []:Sem (List Value)) (fun vs s1=>G.hB.StaysIn s1.heap/\wpC (model G.prog G.w) A (call fv (first ++ vs) []) Q E s1) E s:=this
     exact⟨a.rel.base,fun Γ p hΓ k1 k2=>(h2 Γ p hΓ k1 k2).2 Γ p hΓ k1 k2⟩)
 | cons x r =>
   obtain ⟨st,t⟩:=x
   rw [hb] at key hp
   have:st=false:=by cases st <;> simp at hp ⊢
   subst this
   exact wE key
theorem sC {fe:Expr} {es:List Expr} {pos:Pos} {fv:Value} {g:LT} {c:CT} (hfe:SI G n F (eval fe F.env) (mC (.lit fv))) (hk:KeepOK G fv) (hg:SimL G n F (argsOf es F.env pos) g) (hc:SimC G n F fv c)
   (hs:eval (.Call fe es [] pos) F.env=(do callWith pos (<- eval fe F.env) [] (backTo pos (starEach es F.env)) (backToKw pos (keywordEach [] F.env))):=by rfl) (hp:(backTo pos (starEach es F.env)).any (·.1)=false:=by rfl) :
   SI G n F (eval (.Call fe es [] pos) F.env) (mA g c):=by
 intro A R J O s Qm Em Q E a h K KE
 rw [hs]
 refine wP (hfe A R J O s (fun v O'=>v=.lit fv/\g J O' (fun ms O'=>c ms O' Qm Em) Em) (fun _ _=>False) _ E a ⟨rfl,h⟩ (fun v m O1 s1 a1 S1 r1 h1=>?_) (fun k O' e s' x h=>h.elim))
 obtain ⟨rfl,h1⟩:=h1
 cases r1.l
 exact callWith_sim hk hg hp R a1 .nil hc h1 (fun v m O' s' a' S'=>K v m O' s' a' (S1.trans S')) (fun k O' e s' x=>KE k O' e s' (x.after S1))
noncomputable def upInts (a:Int) (k:Nat):List Int:=(List.range k).map fun (i:Nat)=>a + (i:Int)
noncomputable def itRange1 (f:ET):Loc->Own->(List MV->(Own->Prop)->Own->Prop)->(PE)->Prop:=fun J O Q E=>f J O (fun v O'=>∃ b,v=.int b/\-1000000<=b/\b<=1000000/\Q ((upInts 0 b.toNat).map .int) (fun _=>True) O') E
noncomputable def itRange2 (f g:ET):Loc->Own->(List MV->(Own->Prop)->Own->Prop)->(PE)->Prop:=fun J O Q E=>f J O (fun u O1=>g J O1 (fun v O'=>∃ a b,u=.int a/\v=.int b/\-1000000<=a/\a<=1000000/\-1000000<=b/\b<=1000000/\Q ((upInts a (b - a).toNat).map .int) (fun _=>True) O') E) E
theorem range_small {a b:Int} (h1:-1000000<=a) (h2:a<=1000000) (h3:-1000000<=b) (h4:b<=1000000):Builtin.Range.small a b 1=true/\Builtin.Range.rangeSize a b 1=((b - a).toNat:Int):=by
 have hsz:Builtin.Range.rangeSize a b 1=((b - a).toNat:Int):=by
   unfold Builtin.Range.rangeSize
   simp
   split <;> lia
 refine ⟨?_,hsz⟩
 unfold Builtin.Range.small
 rw [hsz]
 simp only [Builtin.Range.rangeFitsLong,Bool.and_eq_true,Bool.or_eq_true,decide_eq_true_eq,beq_iff_eq]
 refine ⟨⟨⟨⟨⟨?_,?_⟩,⟨?_,?_⟩⟩,⟨?_,?_⟩⟩,⟨?_,?_⟩⟩,.inr ?_⟩ <;> (try lia)
 rw [if_pos dC];simp only [Bool.and_eq_true,decide_eq_true_eq];lia
theorem range_tail {A:Around} (R:Room F.fl n A) {J:Loc} {O1:Own} {s s1:Shared} {a b:Int} {t u v:Tok} {O:Own} {Qm:List MV->(Own->Prop)->Own->Prop} {Q:VS} {E:VS} (h1:-1000000<=a) (h2:a<=1000000) (h3:-1000000<=b) (h4:b<=1000000)
   (a1:At G F J O1 s1) (S1:Step none O O1 s s1) (hq:Qm ((upInts a (b - a).toNat).map .int) (fun _=>True) O1) {tk:Nat}
   (K:∀ I ms g fp fh St O' s',At G F J O' s'->Step none O O' s s'->IterOK G A I ms g fp fh St->St 0 s'.heap->(∀ b ∈ fp,s.heap.get? b=none/\O' b=none)->Qm ms g O'->Q (.ref I) s') :
   wpAny (model G.prog G.w) A (pyIter (.ref s1.heap.objs.size)) Q E { s1 with heap:=s1.heap.push { cls:=.type "range",data:=.fields #[.int a t,.int b u,.int 1 v] },toks:=tk }:=by
 obtain ⟨hsm,hsz⟩:=range_small h1 h2 h3 h4
 refine wpAny_pyIter_range (IsRange.new s1.heap a b 1 t u v) hsm ?_
 rw [hsz]
 let H:=(s1.heap.push { cls:=.type "range",data:=.fields #[.int a t,.int b u,.int 1 v] })
 have kk:∀ c o,s1.heap.get? c=some o->(H.push { cls:=.type "range_iterator",data:=.fields #[rawInt a,rawInt ((b - a).toNat:Int),rawInt 1] }).get? c=some o:=fun b o e=>Heap.get?_push_of_some _ (Heap.get?_push_of_some _ e)
 have nn:s1.heap.get? H.objs.size=none:=by
   cases q:s1.heap.get? H.objs.size with
   | none=>rfl
   | some o =>
     have:=Heap.lt_size q
     have e:H.objs.size=s1.heap.objs.size + 1:=Heap.size_push ..
     rw [e] at this
     exact absurd this (Nat.not_lt.mpr (Nat.le_succ _))
 have nsz:∀ b,b=H.objs.size->s.heap.get? b=none/\O1 b=none:=fun b hb=>by
   subst hb
   refine ⟨?_,a1.rel.none_of nn⟩
   cases q:s.heap.get? H.objs.size with
   | none=>rfl
   | some o=>obtain ⟨o',e'⟩:=S1.dom _ o q;exact na nn e'
 refine K H.objs.size _ _ _ _ _ _ _ (a1.grow (tk:=tk) kk) (S1.trans (.grow (tk:=tk) kk)) (iterWalk (cl:="range_iterator") (ms:=(upInts a (b - a).toNat).map .int) (Walks.range R.handled H.objs.size a 1 (b - a).toNat) (by simp [upInts]) (fun i h e=>⟨_,e,rfl⟩) dC dC ?_) ?_ (fun b hb=>nsz b (by simpa using hb)) hq
 . rintro i m v hm ⟨t,rfl⟩ O h
   simp only [upInts,List.map_map,List.getElem?_map] at hm
   cases q:(List.range (b - a).toNat)[i]? with
   | none=>rw [q] at hm;cases hm
   | some j =>
     rw [q] at hm
     have hj:=List.getElem?_eq_some_iff.mp q
     obtain ⟨hlt,he⟩:=hj
     simp at he
     subst he
     cases hm
     rw [Int.mul_one];exact .int ..
 . refine (?_:IsRangeIter _ _ _ _ _)
   rw [show a + ((0:Nat):Int) * 1=a by lia,show (((b - a).toNat:Nat):Int) - ((0:Nat):Int)=((b - a).toNat:Int) by lia]
   exact Heap.get?_push_size _ rfl
theorem siRange1 {fe e:Expr} {pos:Pos} {f:ET} (hfe:SI G n F (eval fe F.env) (mC (.lit (.type "range")))) (hf:SI G n F (eval e F.env) f)
   (hs:eval (.Call fe [e] [] pos) F.env=(do callWith pos (<- eval fe F.env) [] (backTo pos (starEach [e] F.env)) (backToKw pos (keywordEach [] F.env))):=by rfl) (he:backTo pos (starEach [e] F.env)=[(false,eval e F.env)]:=by rfl) :
   SimIt G n F (.Call fe [e] [] pos) (itRange1 f):=by
 intro A R J O s Qm Em Q E a h K KE
 rw [hs]
 refine wP (hfe A R J O s (fun v O'=>v=.lit (.type "range")/\itRange1 f J O' Qm Em) (fun _ _=>False) _ E a ⟨rfl,h⟩ (fun v m O₀ s0 a0 S0 r0 h0=>?_) (fun k O' e s' x h=>h.elim))
 obtain ⟨rfl,h0⟩:=h0
 cases r0.l
 rw [he]
 refine wpC_callWith (P:=fun h=>True) (f:=.type "range") rfl (fun h _=>⟨.machine,.inr (.inl rfl),Looks.of_pure rfl⟩) (wE (wL (hf A R J O₀ s0 _ Em _ E a0 h0 (fun v m O1 s1 a1 S1 r1 h1=>lift <| spliced_nil ?_) (fun k O' e s' x=>KE k O' e s' (x.after S0)))))
 obtain ⟨b,rfl,hb1,hb2,h1⟩:=h1
 obtain ⟨_,rfl⟩:=r1.i
 refine ⟨trivial,lift <| call_range_1 ?_⟩
 exact lift <| range_tail R dC dC hb1 hb2 a1 (S0.trans S1) (by rw [Int.sub_zero];exact h1) K
theorem siRange2 {fe e e':Expr} {pos:Pos} {f g:ET} (hfe:SI G n F (eval fe F.env) (mC (.lit (.type "range")))) (hf:SI G n F (eval e F.env) f) (hg:SI G n F (eval e' F.env) g)
   (hs:eval (.Call fe [e,e'] [] pos) F.env=(do callWith pos (<- eval fe F.env) [] (backTo pos (starEach [e,e'] F.env)) (backToKw pos (keywordEach [] F.env))):=by rfl) (he:backTo pos (starEach [e,e'] F.env)=[(false,eval e F.env),(false,eval e' F.env)]:=by rfl) :
   SimIt G n F (.Call fe [e,e'] [] pos) (itRange2 f g):=by
 intro A R J O s Qm Em Q E a h K KE
 rw [hs]
 refine wP (hfe A R J O s (fun v O'=>v=.lit (.type "range")/\itRange2 f g J O' Qm Em) (fun _ _=>False) _ E a ⟨rfl,h⟩ (fun v m O₀ s0 a0 S0 r0 h0=>?_) (fun k O' e s' x h=>h.elim))
 obtain ⟨rfl,h0⟩:=h0
 cases r0.l
 rw [he]
 refine wpC_callWith (P:=fun h=>True) (f:=.type "range") rfl (fun h _=>⟨.machine,.inr (.inl rfl),Looks.of_pure rfl⟩) (wE (wL (hf A R J O₀ s0 _ Em _ E a0 h0 (fun v m O1 s1 a1 S1 r1 h₁=>wL ?_) (fun k O' e s' x=>KE k O' e s' (x.after S0)))))
 refine hg A R J O1 s1 _ Em _ E a1 h₁ (fun v' m' O2 s2 a2 S2 r2 h₂=>lift <| spliced_nil ?_) (fun k O' e s' x=>KE k O' e s' (x.after (S0.trans S1)))
 obtain ⟨x,b,rfl,rfl,h1,h2,h3,h4,h₂⟩:=h₂
 obtain ⟨_,rfl⟩:=r1.i;obtain ⟨_,rfl⟩:=r2.i
 refine ⟨trivial,lift <| call_range_2 ?_⟩
 exact lift <| range_tail R h1 h2 h3 h4 a2 ((S0.trans S1).trans S2) h₂ K
end Mn
namespace Mn
set_option backward.match.sparseCases false
variable {G:GC} {n:Nat} {F:FC}
noncomputable def pick {α:Type} (xs:List α) (i:Int):Option α:=if 0<=i then xs[i.toNat]? else if 0<=i + xs.length then xs[(i + xs.length).toNat]? else none
noncomputable def geti:MV->MV->Own->Option MV
 | .tup xs,.int i,_=>if 0<=i then xs[i.toNat]? else none
 | .bytes b,.int i,_=>if 0<=i then (b[i.toNat]?).map .int else none
 | .ref l,.int i,O=>match O l with
   | some (.list xs)=>pick xs i
   | _=>none
 | _,_,_=>none
theorem geti_ref {i:Int} {x:MV} {o:Option MObj} (h:(match o with
   | some (.list xs)=>pick xs i
   | _=>none)=some x):∃ xs,o=some (.list xs)/\pick xs i=some x:=by
 cases o with
 | none=>exact nomatch h
 | some v=>cases v <;> first | exact⟨_,rfl,h⟩ | exact nomatch h
theorem geti_ls {l:Addr} {i:Int} {O:Own} {xs:List MV} (h:O l=some (.list xs)):geti (.ref l) (.int i) O=pick xs i:=congrArg (fun o:Option MObj=>(match o with
   | some (.list xs)=>pick xs i
   | _=>none:Option MV)) h
noncomputable def smallI (v:MV):Prop:=∃ i,v=.int i/\-1000000<=i/\i<=1000000
noncomputable def mI (f g:ET):ET:=fun J O Q E=>f J O (fun a O1=>g J O1 (fun b O2=>∃ x,geti a b O2=some x/\smallI b/\Q x O2) E) E
theorem octs_get {b:Array UInt8} {i:Nat} {x:Int} (h:(octs b)[i]?=some x):∃ c:UInt8,b.toList[i]?=some c/\(c.toNat:Int)=x:=by
 unfold octs at h
 rw [List.getElem?_map] at h
 cases q:b.toList[i]? with
 | none=>rw [q] at h;cases h
 | some c=>rw [q] at h;exact⟨c,rfl,by simpa using h⟩
section
variable {J:Loc} {O:Own} {s:Shared} {A:Around} {Qm:PV} {Q:VS} {E:VS}
theorem geti_ok {value slice:Expr} {va vb:Value} {ma mb x:MV} (a:At G F J O s) (ra:VE G.hB O s.heap va ma) (rb:VE G.hB O s.heap vb mb) (h:geti ma mb O=some x) (hs:smallI mb) (hq:Qm x O) (K:K1 G F J O s Qm Q)
   (hsl:subscripted slice false=fun o i=>operate [o,i] (getItem o i)) :
   wpAny (model G.prog G.w) A (subscriptTail value slice va vb) Q E s:=by
 obtain ⟨j,rfl,h1,h2⟩:=hs
 cases rb with
 | int _ t =>
   cases ma with
   | tup xs =>
     have h:(if 0<=j then xs[j.toNat]? else none)=some x:=h
     cases ra with
     | tup hn e hvs =>
       split at h
       . rename_i h0
         obtain ⟨v,hv,rv⟩:=hvs.get h
         rename_i b vs k
         have hlt:=(List.getElem?_eq_some_iff.mp hv).1
         have ht:IsTup s.heap b vs.toArray:=⟨_,e,rfl,k,rfl⟩
         refine tail_any (isTuple_of e).typeIs _root_.PySem.F.slot_tuple_getitem.lookup (getItem_tuple ht (idn h1) (illt h2) (j:=j.toNat) ?_ (by simpa using hv) (K1.now K a rv hq)) (congrFun (congrFun hsl _) _)
         unfold seqIndex?
         rw [List.size_toArray]
         have:j=((j.toNat:Nat):Int):=by lia
         rw [this]
         simp
         exact idx_ok h0 hlt
       . cases h
   | bytes bb =>
     have h:(if 0<=j then (bb[j.toNat]?).map MV.int else none)=some x:=h
     cases ra with
     | bytes b tk =>
       split at h
       . rename_i h0
         cases q:(octs b)[j.toNat]? with
         | none=>rw [q] at h;cases h
         | some y =>
           rw [q] at h;cases h
           obtain ⟨c,hc,rfl⟩:=octs_get q
           have hlt:=(List.getElem?_eq_some_iff.mp hc).1
           refine tail_any (typeIs_bytes s b tk) FB.slot_bytes_getitem.lookup ?_ (congrFun (congrFun hsl _) _)
           refine getItem_gives (typeIs_bytes s _ tk) dC FB.slot_bytes_getitem FB.entry_bytes_getitem (FB.args_bytes_getitem_2 _ _) (gives_bytes_getitem _ j tk t c ?_ ?_) (K1.tok K a (.int ..) hq)
           . simp only [Builtin.Bytes.fitsIndex,Bool.and_eq_true,decide_eq_true_eq];exact And.intro (idn h1) (illt h2)
           . have hj:j=((j.toNat:Nat):Int):=by lia
             have:seqIndex? j b.size=some j.toNat:=by
               unfold seqIndex?
               rw [hj];simp
               rw [Array.length_toList] at hlt;exact idx_ok h0 hlt
             rw [this]
             simpa using hc
       . cases h
   | ref l =>
     obtain ⟨xs,hl,h⟩:=geti_ref (o:=O l) h
     . cases ra.r
       obtain ⟨vs,k,hvs,rx⟩:=(a.rel.own _ _ hl).2
       have hL:s.heap.IsList l vs.toArray:=⟨_,hvs,rfl,k,rfl⟩
       unfold pick at h
       split at h
       . rename_i h0
         obtain ⟨v,hv,rv⟩:=rx.get h
         exact tail_any hL.typeIs slot_list_getitem.lookup (wpAny_getItem_list hL h0 (illt h2) (by simpa using hv) (K1.now K a rv hq)) (congrFun (congrFun hsl _) _)
       . split at h
         . rename_i h0 h1'
           obtain ⟨v,hv,rv⟩:=rx.get h
           refine tail_any hL.typeIs slot_list_getitem.lookup (wpAny_getItem_list_neg hL (ile h0) (by rw [List.size_toArray,rx.length];lia) (idn h1) (x:=v) ?_ (K1.now K a rv hq)) (congrFun (congrFun hsl _) _)
           rw [List.size_toArray,rx.length];simpa using hv
         . cases h
   | _=>exact nomatch (show (none:Option MV)=some x from h)
end
theorem sD {e i:Expr} {pos:Pos} {f g:ET} (hf:SI G n F (eval e F.env) f) (hg:SI G n F (eval i F.env) g) (hsl:subscripted i false=fun o j=>operate [o,j] (getItem o j):=by with_unfolding_all rfl):SI G n F (eval (.Subscript e i pos) F.env) (mI f g):=by
 intro A R J O s Qm Em Q E a h K KE
 refine wpC_Subscript (hf A R J O s _ Em _ E a h (fun va ma O1 s1 a1 S1 r1 h1=>?_) KE)
 refine hg A R J O1 s1 _ Em _ E a1 h1 (fun vb mb O2 s2 a2 S2 r2 h2=>?_) (fun k O' e s' x=>KE k O' e s' (x.after S1))
 obtain ⟨x,hx,hs,hq⟩:=h2
 exact lift <| geti_ok a2 (r1.mono (a1.kd (.inl rfl) S2)) r2 hx hs hq (fun v m O' s' a' S'=>K v m O' s' a' ((S1.trans S2).trans S')) hsl
noncomputable def cutM {α:Type} (l:List α) (lo hi:Option Int):List α:=(l.drop (lo.elim 0 (clipAt l.length))).take (hi.elim l.length (clipAt l.length) - lo.elim 0 (clipAt l.length))
theorem slicePick_cut (vs:List Value) (lo hi:Option Int):slicePick vs.toArray lo hi none=(cutM vs lo hi).toArray:=by
 unfold slicePick cutM
 rw [sliceBounds_plain]
 simp only [sliceRange_one,pick_run,List.size_toArray]
theorem VR.cut {hB h:Heap} {O:Own} {vs:List Value} {ms:List MV} (x:VR hB O h vs ms) (lo hi:Option Int):VR hB O h (cutM vs lo hi) (cutM ms lo hi):=by
 unfold cutM
 rw [x.length]
 exact (x.drop _).take _
theorem octs_cut (b:Array UInt8) (lo hi:Option Int):octs (KBy.picked b lo hi)=cutM (octs b) lo hi:=by
 have:=KBc.ints_picked (b:=b) rfl lo hi
 exact this
noncomputable abbrev PT:=Loc->Own->(Option Int->Own->Prop)->(PE)->Prop
noncomputable abbrev SimP (G:GC):=SimT Value (Option Int) (fun _ _ v p=>IsPart v p) G
noncomputable def pNo:PT:=fun _ O Q _=>Q none O
noncomputable def pYes (f:ET):PT:=fun J O Q E=>f J O (fun v O'=>∃ i,v=.int i/\Q (some i) O') E
theorem pNo_:SimP G n F (valueOrNone (evalOpt none F.env)) pNo:=by
 intro A R J O s Qm Em Q E a h K KE
 exact fun _ _ _ _ _=>K _ _ _ _ a (.refl ..) .none h
theorem pYes_ {e:Expr} {f:ET} (hf:SI G n F (eval e F.env) f):SimP G n F (valueOrNone (evalOpt (some e) F.env)) (pYes f):=by
 intro A R J O s Qm Em Q E a h K KE
 refine (?_:wpC _ A (eval e F.env) Q E s)
 refine hf A R J O s _ Em _ E a h (fun v m O1 s1 a1 S1 r1 h1=>?_) KE
 obtain ⟨i,rfl,h1⟩:=h1
 obtain ⟨_,rfl⟩:=r1.i
 exact K _ _ _ _ a1 S1 (.int ..) h1
noncomputable def slcM (v:MV) (lo hi:Option Int) (O:Own) (Q:PV):Prop:=match v with
 | .ref l=>∃ xs,O l=some (.list xs)/\yL xs.length/\∀ r,O r=none->Q (.ref r) (upd O r (.list (cutM xs lo hi)))
 | .bytes b=>yL b.length/\Q (.bytes (cutM b lo hi)) O
 | .ilist xs=>yL xs.length/\∀ r,O r=none->Q (.ref r) (upd O r (.list ((cutM xs lo hi).map .int)))
 | _=>False
noncomputable def mSlc (f:ET) (p q:PT):ET:=fun J O Q E=>f J O (fun v O1=>p J O1 (fun lo O2=>q J O2 (fun hi O3=>slcM v lo hi O3 Q) E) E) E
theorem IntsAre.reps {hB h:Heap} {O:Own} {vs:List Value} {xs:List Int} (x:IntsAre vs xs):VR hB O h vs (xs.map .int):=by
 induction x with
 | nil=>exact .nil
 | cons n t r ih=>exact .cons (.int n t) ih
theorem map_cut {α β:Type} (f:α->β) (l:List α) (lo hi:Option Int):cutM (l.map f) lo hi=(cutM l lo hi).map f:=by
 unfold cutM
 rw [List.length_map,List.map_take,List.map_drop]
theorem sSlc {e:Expr} {lo hi:Option Expr} {pos spos:Pos} {f:ET} {p q:PT} (hf:SI G n F (eval e F.env) f) (hp:SimP G n F (valueOrNone (evalOpt lo F.env)) p) (hq:SimP G n F (valueOrNone (evalOpt hi F.env)) q) :
   SI G n F (eval (.Subscript e (.Slice lo hi none spos) pos) F.env) (mSlc f p q):=by
 intro A R J O s Qm Em Q E a h K KE
 refine wpC_Subscript (hf A R J O s _ Em _ E a h (fun va ma O1 s1 a1 S1 r1 h1=>?_) KE)
 show wpC _ A (do
   let l <- valueOrNone (evalOpt lo F.env)
   let u <- holding [l] (valueOrNone (evalOpt hi F.env))
   let s <- holding [l,u] (valueOrNone (evalOpt none F.env))
   newFields "slice" [l,u,s]) _ E s1
 refine wP (hp A R J O1 s1 _ Em _ E a1 h1 (fun vl ml O2 s2 a2 S2 r2 h2=>?_) (fun k O' e s' x=>KE k O' e s' (x.after S1)))
 refine wP (wH (hq A R J O2 s2 _ Em _ E a2 h2 (fun vu mu O3 s3 a3 S3 r3 h3=>?_) (fun k O' e s' x=>KE k O' e s' (x.after (S1.trans S2)))))
 refine wP (wH (wC ?_))
 have S13:=(S1.trans S2).trans S3
 have ra:=(r1.mono (a1.kd (.inl rfl) S2)).mono (a2.kd (.inl rfl) S3)
 refine lift <| wpAny_newObj_type ?_ (by show (#[vl,vu,Value.none]:Array Value).size<=sizeLine + 2;rw [sizeLine_eq];show 3<=_;exact dC)
 have kk:∀ b o,s3.heap.get? b=some o->(s3.heap.push { cls:=.type "slice",data:=.fields #[vl,vu,.none] }).get? b=some o:=fun b o e=>Heap.get?_push_of_some _ e
 have a4:=a3.grow (tk:=s3.toks) kk
 have K':K1 G F J O3 { s3 with heap:=s3.heap.push { cls:=.type "slice",data:=.fields #[vl,vu,.none] },toks:=s3.toks } Qm Q:=fun v m O' s' a' S'=>K v m O' s' a' ((S13.trans (.grow (tk:=s3.toks) kk)).trans S')
 have hsl:∀ o i,subscripted (.Slice lo hi none spos) false o i=operate [i,o] (getItem o i):=fun o i=>rfl
 have hsz:IsPart vl ml/\IsPart vu mu:=⟨r2,r3⟩
 cases ma with
 | ref l =>
   obtain ⟨xs,hx,hl,h3⟩:=h3
   cases ra.r
   obtain ⟨vs,k,hvs,rx⟩:=(a3.rel.own _ _ hx).2
   have hL:(s3.heap.push { cls:=.type "slice",data:=.fields #[vl,vu,.none] }).IsList l vs.toArray:=⟨_,kk _ _ hvs,rfl,k,rfl⟩
   refine lift <| tail_any (s:={ s3 with heap:=_,toks:=s3.toks }) hL.typeIs slot_list_getitem.lookup (wpAny_getItem_list_slice (s:={ s3 with heap:=_,toks:=s3.toks }) hL (Heap.IsSliceOf.new ..) r2 r3 .none dC ?_ (by rw [List.size_toArray,rx.length];exact sZ hl)) (hsl _ _)
   rw [slicePick_cut]
   exact K1.push K' a4 (tk:=s3.toks) (mo:=.list (cutM xs ml mu)) ⟨cutM vs ml mu,0,Heap.get?_push_size _ rfl,((rx.cut ml mu).mono (.of kk)).mono (a4.rel.kd_push _)⟩ h3
 | bytes b =>
   obtain ⟨hl,h3⟩:=h3
   obtain ⟨b,t,rfl,rfl⟩:=ra.y
   ·
     refine lift <| tail_any (s:={ s3 with heap:=_,toks:=s3.toks }) (typeIs_bytes _ _ _) FB.slot_bytes_getitem.lookup (getItem_meets (s:={ s3 with heap:=_,toks:=s3.toks }) (typeIs_bytes _ _ _) dC FB.slot_bytes_getitem FB.entry_bytes_getitem (FB.args_bytes_getitem_2 _ _) (KBc.meets_slice2 b t _ r2 r3)
       ⟨Heap.IsSliceOf.new _ _ _ _,Nat.le_trans (KBc.size_picked_le b ml mu) (sZ (by rw [oC] at hl;exact hl)),fun t' k=>K1.tok K' a4 (tk:=k) (m:=.bytes (cutM (octs b) ml mu)) ?_ h3⟩) (hsl _ _)
     rw [<- octs_cut];exact .bytes ..
 | ilist xs =>
   obtain ⟨hl,h3⟩:=h3
   obtain ⟨_,_,_,rfl,e,hi'⟩:=ra.x
   ·
     rename_i l vs k
     have hvs:=kk _ _ (a3.rel.base _ _ e)
     have hL:(s3.heap.push { cls:=.type "slice",data:=.fields #[vl,vu,.none] }).IsList l vs.toArray:=⟨_,hvs,rfl,k,rfl⟩
     refine lift <| tail_any (s:={ s3 with heap:=_,toks:=s3.toks }) hL.typeIs slot_list_getitem.lookup (wpAny_getItem_list_slice (s:={ s3 with heap:=_,toks:=s3.toks }) hL (Heap.IsSliceOf.new ..) r2 r3 .none dC ?_ (by rw [List.size_toArray,hi'.length];exact sZ hl)) (hsl _ _)
     rw [slicePick_cut]
     refine K1.push K' a4 (tk:=s3.toks) (mo:=.list ((cutM xs ml mu).map .int)) ⟨cutM vs ml mu,0,Heap.get?_push_size _ rfl,?_⟩ h3
     rw [<- map_cut]
     exact (IntsAre.reps hi').cut ml mu
 | _=>exact h3.elim
noncomputable def mRev (f:ET):ET:=fun J O Q E=>f J O (fun v O'=>∃ l xs,v=.ref l/\O' l=some (.list xs)/\yL xs.length/\∀ r,O' r=none->Q (.ref r) (upd O' r (.list xs.reverse))) E
theorem sRev {e:Expr} {k1:Nat} {pos spos p1 p2:Pos} {f:ET} (hf:SI G n F (eval e F.env) f):SI G n F (eval (.Subscript e (.Slice none none (some (.UnaryOp .USub (.Constant (.int 1) k1 p1) p2)) spos) pos) F.env) (mRev f):=by
 intro A R J O s Qm Em Q E a h K KE
 refine wpC_Subscript (hf A R J O s _ Em _ E a h (fun va ma O1 s1 a1 S1 r1 h1=>?_) KE)
 obtain ⟨l,xs,rfl,hx,hl,h1⟩:=h1
 cases r1.r
 show wpC _ A (do
   let l <- valueOrNone (evalOpt none F.env)
   let u <- holding [l] (valueOrNone (evalOpt none F.env))
   let s <- holding [l,u] (valueOrNone (evalOpt (some (.UnaryOp .USub (.Constant (.int 1) k1 p1) p2)) F.env))
   newFields "slice" [l,u,s]) _ E s1
 refine wP (wC (wP (wH (wC (wP (wH ?_))))))
 refine (?_:wpC _ A (do let v <- eval (.Constant (.int 1) k1 p1) F.env;standAt p2;holding [v] (unaryOp .USub v)) _ E s1)
 refine wP (lift <| wpAny_Constant_int (wP (wS (wH (lift <| neg_int ?_)))))
 have a2:=a1.grow (h':=s1.heap) (tk:=s1.toks + 1 + 1) (fun _ _ e=>e)
 obtain ⟨vs,k,hvs,rx⟩:=(a1.rel.own _ _ hx).2
 refine lift <| wpAny_newObj_type ?_ (by show (#[Value.none,Value.none,_]:Array Value).size<=sizeLine + 2;rw [sizeLine_eq];show 3<=_;exact dC)
 have kk:∀ b o,s1.heap.get? b=some o->(s1.heap.push { cls:=.type "slice",data:=.fields #[Value.none,Value.none,.int (-1) (s1.toks + 1)] }).get? b=some o:=fun b o e=>Heap.get?_push_of_some _ e
 have a4:=a1.grow (tk:=s1.toks + 1 + 1) kk
 have hL:(s1.heap.push { cls:=.type "slice",data:=.fields #[Value.none,Value.none,.int (-1) (s1.toks + 1)] }).IsList l vs.toArray:=⟨_,kk _ _ hvs,rfl,k,rfl⟩
 have hsl:∀ o i,subscripted (.Slice none none (some (.UnaryOp .USub (.Constant (.int 1) k1 p1) p2)) spos) false o i=operate [o,i] (getItem o i):=fun o i=>rfl
 refine lift <| tail_any (s:={ s1 with heap:=_,toks:=s1.toks + 1 + 1 }) hL.typeIs slot_list_getitem.lookup (wpAny_getItem_list_slice (s:={ s1 with heap:=_,toks:=s1.toks + 1 + 1 }) hL ⟨_,Heap.get?_push_size _ rfl,rfl,rfl⟩ .none .none (.int (-1) _) dC ?_ (by rw [List.size_toArray,rx.length];exact sZ hl)) (hsl _ _)
 rw [krv_pick]
 exact K1.push (fun v m O' s' a' S'=>K v m O' s' a' ((S1.trans (.grow (tk:=s1.toks + 1 + 1) kk)).trans S')) a4 (tk:=s1.toks + 1 + 1) (mo:=.list xs.reverse) ⟨vs.reverse,0,Heap.get?_push_size _ rfl,((rx.reverse).mono (.of kk)).mono (a4.rel.kd_push _)⟩ h1
set_option backward.match.sparseCases true
end Mn
namespace Mn
set_option backward.match.sparseCases false
variable {G:GC} {n:Nat} {F:FC} {K:Frag}
noncomputable def handM:MV->Prop
 | .lit _=>False
 | _=>True
theorem handed_rep {hB h:Heap} {O:Own} {v:Value} {m:MV} (r:VE hB O h v m) (hm:handM m):handedIn v=true:=by
 cases r <;> first | rfl | exact hm.elim
noncomputable def instO (C:Addr):Option MObj->Option Addr
 | some (.inst C' dx)=>if C'=C then some dx else none
 | _=>none
noncomputable def nsO (k:Nat):Option MObj->Option MV
 | some (.ns m)=>m k
 | _=>none
noncomputable def fld (O:Own) (C x:Addr) (k:Nat):Option MV:=(instO C (O x)).bind fun dx=>nsO k (O dx)
theorem instO_of {C dx:Addr} {o:Option MObj} (h:instO C o=some dx):o=some (.inst C dx):=by
 cases o with
 | none=>exact nomatch h
 | some o =>
   cases o with
   | inst C' d =>
     by_cases hc:C'=C
     . exact hc ▸ Option.some.inj ((if_pos hc).symm.trans h) ▸ rfl
     . exact nomatch (if_neg hc).symm.trans h
   | _=>exact nomatch h
theorem nsO_of {k:Nat} {u:MV} {o:Option MObj} (h:nsO k o=some u):∃ m,o=some (.ns m)/\m k=some u:=by
 cases o with
 | none=>exact nomatch h
 | some o =>
   cases o with
   | ns m=>exact⟨m,rfl,h⟩
   | _=>exact nomatch h
theorem fld_of {O:Own} {C x:Addr} {k:Nat} {u:MV} (h:fld O C x k=some u):∃ dx m,O x=some (.inst C dx)/\O dx=some (.ns m)/\m k=some u:=by
 obtain ⟨dx,h1,h2⟩:=Option.bind_eq_some_iff.mp h
 obtain ⟨m,h3,h4⟩:=nsO_of h2
 exact⟨dx,m,instO_of h1,h3,h4⟩
theorem fld_mk {O:Own} {C x dx:Addr} {k:Nat} {m:Nat->Option MV} {u:MV} (h1:O x=some (.inst C dx)) (h2:O dx=some (.ns m)) (h3:m k=some u):fld O C x k=some u :=
 (congrArg (·.bind fun dx=>nsO k (O dx)) ((congrArg (instO C) h1).trans (if_pos rfl))).trans ((congrArg (nsO k) h2).trans h3)
noncomputable def readIn (K:Frag) (C:Addr) (name:Str):Bool :=
 (clsIn K C).any (·.hasDict) && findIn K (.ref C) "__getattribute__" == some (some (.builtin "object.__getattribute__")) && findIn K (.ref C) name == some none
noncomputable def storeIn (K:Frag) (C:Addr) (name:Str):Bool :=
 hasDictIn K C && plainOver K C && takerIn K C name == some none && findIn K (.ref C) "__setattr__" == some (some (.builtin "object.__setattr__"))
theorem lookIn_of {es:Array DictEntry} {n:Nat} {d:Option Addr} {sl:Array (Option Value)} {c:Value} (hk:StrKeys es) (name:Str):lookIn name ⟨c,d,.dict es n,sl⟩=some (nsFind es name):=by
 unfold lookIn nsFind findBy
 dsimp only
 rw [Array.find?_toList]
 cases q:es.find? (·.key.isStr name) with
 | some e=>rfl
 | none =>
   have:es.toList.any (·.refKey)=false:=by
     rw [List.any_eq_false];intro e he;obtain ⟨n,t,h⟩:=hk e (Array.mem_toList_iff.mp he);simp [DictEntry.refKey,h]
   dsimp only [Option.map]
   rw [this]
   rfl
section
variable {J:Loc} {O:Own} {s:Shared}
theorem inst_at (a:At G F J O s) {C x dx:Addr} {m:Nat->Option MV} (hx:O x=some (.inst C dx)) (hd:O dx=some (.ns m)) :
   ∃ es n,s.heap.get? dx=some { cls:=.type "dict",data:=.dict es n }/\StrKeys es/\UniqKeys es/\(∀ y,VOpt G.hB O s.heap (nsFind es y) (rget aR m y))/\InstAt s.heap x { cls:=.ref C,dict:=some dx,data:=.plain } C (some { cls:=.type "dict",data:=.dict es n }):=by
 obtain ⟨es,n,e,k,u,v⟩:=(a.rel.own _ _ hd).2
 have:=(a.rel.own _ _ hx).2
 exact⟨es,n,e,k,u,v,⟨this,rfl,rfl,e⟩⟩
theorem att_ok {A:Around} {Q:VS} {E:VS} {Qm:PV} (X:K.In G.hB) (a:At G F J O s) {C x:Addr} {k:Nat} {u:MV} {name:Str} {ex:Bool} (hr:readIn K C name=true) (hi:idx aR name=some k) (hf:fld O C x k=some u) (hu:handM u)
   (hq:Qm u O) (K1':K1 G F J O s Qm Q):wpAny (model G.prog G.w) A (getAttr (.ref x) name ex) Q E s:=by
 obtain ⟨dx,m,hx,hd,hm⟩:=fld_of hf
 obtain ⟨es,n',e,hk,hun,hv,I⟩:=inst_at a hx hd
 simp only [readIn,Bool.and_eq_true,beq_iff_eq] at hr
 obtain ⟨⟨h1,h2⟩,h3⟩:=hr
 have hvx:=hv name
 unfold rget at hvx
 rw [hi] at hvx
 simp only [Option.bind_some,hm] at hvx
 cases q:nsFind es name with
 | none=>rw [q] at hvx;exact hvx.elim
 | some v =>
   rw [q] at hvx
   obtain ⟨cd,hc,hdd⟩:=any_some h1
   have hfo:findObj K C (some { cls:=.type "dict",data:=.dict es n' }) name=some (.value v):=by
     unfold findObj
     rw [hc,Option.bind_some,h3]
     dsimp only [Option.bind_some,Option.bind]
     unfold PySem.W.ownOf
     rw [hdd,if_pos rfl]
     dsimp only
     rw [lookIn_of hk,q]
   exact get_value (X.keeps a.rel.base) I h2 hfo (handed_rep hvx hu) (K1'.tok a hvx hq)
end
noncomputable def mT (C:Addr) (k:Nat) (f:ET):ET:=fun J O Q E=>f J O (fun v O'=>∃ x u,v=.ref x/\fld O' C x k=some u/\handM u/\Q u O') E
theorem sd {e:Expr} {name:Str} {pos:Pos} {C:Addr} {k:Nat} {f:ET} (X:K.In G.hB) (hf:SI G n F (eval e F.env) f) (hr:readIn K C name=true) (hi:idx aR name=some k)
   (he:eval (.Attribute e name pos) F.env=(do
     let o <- eval e F.env
     standAt pos.atName
     let r <- holding [o] (getAttr o name true)
     letTemporaryGo e o r
     pure r):=by with_unfolding_all rfl):SI G n F (eval (.Attribute e name pos) F.env) (mT C k f):=by
 intro A R J O s Qm Em Q E a h K' KE
 refine wpC_Attribute (hf A R J O s _ Em _ E a h (fun v m O1 s1 a1 S1 r1 h1=>?_) KE) he
 obtain ⟨x,u,rfl,hu,hh,h1⟩:=h1
 cases r1.r
 exact lift <| att_ok X a1 hr hi hu hh h1 fun v m O' s' a' S'=>K' v m O' s' a' (S1.trans S')
theorem ns_size {es:Array DictEntry} {hB h:Heap} {O:Own} {m:Nat->Option MV} (hk:StrKeys es) (hu:UniqKeys es) (hv:∀ y,VOpt hB O h (nsFind es y) (rget aR m y)):es.size<=aR.length:=by
 have h1:=length_le_of_nodup_of_subset _ aR (names_nodup hk hu) fun y hy=>by
   obtain ⟨b,hb,rfl⟩:=List.mem_map.mp hy
   have:=name_bound hk (m:=nsFind es) (fun _=>rfl) (Array.mem_toList_iff.mp hb)
   have hv':=hv b.name
   cases q:nsFind es b.name with
   | none=>exact absurd q this
   | some v =>
     rw [q] at hv'
     cases q':idx aR b.name with
     | none=>unfold rget at hv';rw [q'] at hv';exact hv'.elim
     | some i =>
       have:∀ (l:List Str) (i:Nat),idx l b.name=some i->b.name ∈ l:=by
         intro l
         induction l with
         | nil=>intro i h;cases h
         | cons z r ih =>
           intro i h
           rw [idx_c] at h
           split at h
           . rename_i e;rw [e];exact .head _
           . cases q:idx r b.name with
             | none=>rw [q] at h;cases h
             | some j=>exact .tail _ (ih j q)
       exact this _ _ q'
 rwa [List.length_map,Array.length_toList] at h1
theorem attSet_ok {A:Around} {Q:Unit->Shared->Prop} {E:VS} {J:Loc} {O:Own} {s:Shared} (X:K.In G.hB) (a:At G F J O s) {C x dx:Addr} {k:Nat} {m:Nat->Option MV} {v:Value} {u:MV} {name:Str} (hr:storeIn K C name=true) (hi:idx aR name=some k)
   (hx:O x=some (.inst C dx)) (hd:O dx=some (.ns m)) (hv:VE G.hB O s.heap v u)
   (hq:∀ s',At G F J (upd O dx (.ns (upd m k u))) s'->Step none O (upd O dx (.ns (upd m k u))) s s'->Q () s'):wpAny (model G.prog G.w) A (setAttr (.ref x) name v) Q E s:=by
 obtain ⟨es,n',e,hk,hun,hvs,I⟩:=inst_at a hx hd
 simp only [storeIn,Bool.and_eq_true,beq_iff_eq] at hr
 obtain ⟨⟨⟨h1,h2⟩,h3⟩,h4⟩:=hr
 have X':=X.keeps a.rel.base
 refine set_plain X' I h4 ?_
 refine osa_open (s:={ s with toks:=s.toks + 1 }) X' I h2 h3 fun b=>?_
 obtain ⟨cd,hc,hd'⟩:=any_some h1
 refine wpAny_bind (wpAny_pure (wpAny_bind (wpAny_bind (wpAny_loadPart I.at_ (wpAny_bind (looks_clsIn X' hc _ _ _ _ (fun _ _ e=>e) ?_))))))
 rw [hd']
 refine wpAny_pure (a:=some dx) (wpAny_bind (wpAny_pure (wpAny_bind ?_)))
 refine nsSet_core (s:={ s with toks:=s.toks + 1 }) e rfl hk fun h' es' k' e' hk' hun' hf hsb=>?_
 replace hun':=hun' hun
 have kk:∀ b o,b ≠ dx->s.heap.get? b=some o->h'.get? b=some o:=fun b o hb q=>hsb.extBut b o hb q
 have hkd:Kd O s.heap (upd O dx (.ns (upd m k u))) h':=kd_set hd kk
 have hvs':∀ y,VOpt G.hB (upd O dx (.ns (upd m k u))) h' (nsFind es' y) (rget aR (upd m k u) y):=fun y=>by
   rw [hf,rget_upd hi]
   by_cases q:y=name
   . rw [if_pos q,if_pos q];exact hv.mono hkd
   . rw [if_neg q,if_neg q];exact (hvs y).mono hkd
 refine wpAny_bind (wpAny_lookBehind (s:={ s with heap:=h',toks:=s.toks + 1 + 1 }) e' (pastItsLine_dict ?_) ?_)
 . have:=ns_size hk' hun' hvs'
   rw [sizeLine_eq]
   have:aR.length=21:=rfl
   lia
 exact wpAny_pure (hq _ (a.set hd (tk:=s.toks + 1 + 1) kk (mo':=.ns (upd m k u)) ⟨es',k',e',hk',hun',hvs'⟩) (Step.set hd kk ⟨_,e'⟩))
noncomputable def aAtt (C:Addr) (k:Nat) (f:ET):AT:=fun m J O Q=>f J O (fun v O'=>∃ x dx mm,v=.ref x/\O' x=some (.inst C dx)/\O' dx=some (.ns mm)/\Q J (upd O' dx (.ns (upd mm k m)))) (fun _ _=>False)
theorem stAtt {o:Expr} {name:Str} {pos:Pos} {C:Addr} {k:Nat} {f:ET} (X:K.In G.hB) (hf:SI G n F (eval o F.env) f) (hr:storeIn K C name=true) (hi:idx aR name=some k) :
   SimA G n F (assign (.Attribute o name pos) F.env) (aAtt C k f):=by
 intro A R J O s v m Qm Q E a hv h K'
 rw [assign_Attribute]
 refine wP (wH (hf A R J O s _ _ _ E a h (fun vo mo O1 s1 a1 S1 r1 h1=>?_) fun _ _ _ _ _ z=>z.elim))
 obtain ⟨x,dx,mm,rfl,hx,hd,h1⟩:=h1
 cases r1.r
 refine wP (wS (wP (wH ?_)))
 exact lift <| attSet_ok X a1 hr hi hx hd (hv.mono (a.kd (.inl rfl) S1)) fun s' a' S'=>wpC_release (K' _ _ _ a' (S1.trans S').weak h1)
noncomputable def methIn (K:Frag) (C:Addr) (name:Str) (f:Addr):Bool :=
 findIn K (.ref C) "__getattribute__" == some (some (.builtin "object.__getattribute__")) && findIn K (.ref C) "__getattr__" == some none && findIn K (.ref C) name == some (some (.ref f)) && typeIn K (.ref f) == some (.type "function")
theorem kE {f:Value} (X:K.In G.hB) (hk:keepIn K f=true):KeepOK G f:=fun h st=>keeps_K hk h (X.keeps st)
noncomputable def mMet (C:Addr) (f:ET) (g:LT) (c:CT):ET:=fun J O Q E=>f J O (fun v O1=>∃ x dx m,v=.ref x/\O1 x=some (.inst C dx)/\O1 dx=some (.ns m)/\g J O1 (fun ms O'=>c (.ref x :: ms) O' Q E) E) E
theorem sMet {o:Expr} {name:Str} {apos pos:Pos} {es:List Expr} {C fa:Addr} {f:ET} {g:LT} {c:CT} (X:K.In G.hB) (hf:SI G n F (eval o F.env) f) (hm:methIn K C name fa=true) (hn:idx aR name=none) (hk:keepIn K (.ref fa)=true) (hg:SimL G n F (argsOf es F.env pos) g) (hc:SimC G n F (.ref fa) c)
   (he:eval (.Call (.Attribute o name apos) es [] pos) F.env=(do
     let ov <- eval o F.env
     standAt apos.atName
     let (f,first) <- holding [ov] (getMethod ov name (do return (<- importBound o F.env).getD true))
     callWith pos f first (backTo pos (starEach es F.env)) (backToKw pos (keywordEach [] F.env))):=by with_unfolding_all rfl) (hp:(backTo pos (starEach es F.env)).any (·.1)=false:=by rfl) :
   SI G n F (eval (.Call (.Attribute o name apos) es [] pos) F.env) (mMet C f g c):=by
 intro A R J O s Qm Em Q E a h K' KE
 rw [he]
 refine wP (hf A R J O s _ Em _ E a h (fun v m O1 s1 a1 S1 r1 h₁=>?_) KE)
 obtain ⟨x,dx,mm,rfl,hx,hd,h₁⟩:=h₁
 cases r1.r
 obtain ⟨es',n',e,hkk,hun,hv,I⟩:=inst_at a1 hx hd
 simp only [methIn,Bool.and_eq_true,beq_iff_eq] at hm
 obtain ⟨⟨⟨h1,h2⟩,h3⟩,h4⟩:=hm
 refine wP (wS (wP (wH ?_)))
 refine lift <| method_fn (X.keeps a1.rel.base) I h1 h2 h3 h4 ?_ ?_
 . refine (?_:(lookIn name _).map _=_)
   rw [lookIn_of hkk]
   have hvx:=hv name
   unfold rget at hvx
   rw [hn] at hvx
   cases q:nsFind es' name with
   | none=>rfl
   | some v=>rw [q] at hvx;exact hvx.elim
 . exact callWith_sim (kE X hk) hg hp R a1 (.cons (.ref x) .nil) hc h₁ (fun v m O' s' a' S'=>K' v m O' s' a' (S1.trans S')) (fun k O' e s' x=>KE k O' e s' (x.after S1))
noncomputable def clsMethIn (K:Frag) (C:Addr) (name:Str) (f:Addr):Bool :=
 readsIn K C (.type "type") && specialIn K (.ref C) "__getattribute__" == some (some (.builtin "type.__getattribute__")) && (match findCls K (.ref C) (.type "type") name with | some (.val v)=>v == .ref f | _=>false)
theorem clsVal {o:Option CFound} {f:Addr} (h:(match o with
   | some (.val v)=>v == .ref f
   | _=>false)=true):o=some (.val (.ref f)):=by
 cases o with
 | none=>cases h
 | some o=>cases o with
   | val v=>exact congrArg (some ∘ CFound.val) (beq_iff_eq.mp h)
   | _=>cases h
theorem sClsMet {o:Expr} {name:Str} {apos pos:Pos} {es:List Expr} {C fa:Addr} {g:LT} {c:CT} (X:K.In G.hB) (hf:SI G n F (eval o F.env) (mC (.lit (.ref C)))) (hm:clsMethIn K C name fa=true) (hk:keepIn K (.ref fa)=true) (hg:SimL G n F (argsOf es F.env pos) g) (hc:SimC G n F (.ref fa) c)
   (he:eval (.Call (.Attribute o name apos) es [] pos) F.env=(do
     let ov <- eval o F.env
     standAt apos.atName
     let (f,first) <- holding [ov] (getMethod ov name (do return (<- importBound o F.env).getD true))
     callWith pos f first (backTo pos (starEach es F.env)) (backToKw pos (keywordEach [] F.env))):=by with_unfolding_all rfl) (hp:(backTo pos (starEach es F.env)).any (·.1)=false:=by rfl) :
   SI G n F (eval (.Call (.Attribute o name apos) es [] pos) F.env) (mA g c):=by
 intro A R J O s Qm Em Q E a h K' KE
 rw [he]
 refine wP (hf A R J O s (fun v O'=>v=.lit (.ref C)/\g J O' (fun ms O'=>c ms O' Qm Em) Em) (fun _ _=>False) _ E a ⟨rfl,h⟩ (fun v m O1 s1 a1 S1 r1 h₁=>?_) (fun k O' e s' x h=>h.elim))
 obtain ⟨rfl,h₁⟩:=h₁
 cases r1.l
 simp only [clsMethIn,Bool.and_eq_true,beq_iff_eq] at hm
 obtain ⟨⟨h1,h2⟩,h3⟩:=hm
 have hv:=clsVal h3
 ·
   refine wP (wS (wP (wH ?_)))
   have X1:=X.keeps a1.rel.base
   refine lift <| method_cls X1 h2 (cls_value X1 h1 hv rfl ?_)
   have a2:=a1.grow (h':=s1.heap) (tk:=s1.toks + 1) (fun _ _ e=>e)
   have S2:Step none O O1 s { s1 with toks:=s1.toks + 1 }:=S1.trans (Step.grow (h':=s1.heap) (tk:=s1.toks + 1) (fun _ _ e=>e))
   exact callWith_sim (kE X hk) hg hp R a2 .nil hc h₁ (fun v m O' s' a' S'=>K' v m O' s' a' (S2.trans S')) (fun k O' e s' x=>KE k O' e s' (x.after S2))
set_option backward.match.sparseCases true
end Mn
namespace Mn
variable {G:GC} {n:Nat} {F:FC} {K:Frag}
noncomputable def SimNs (G:GC) (F:FC) (xs:List Str) (g:ALT):Prop :=
 ∀ (A:Around) (f:Str × Value->PUnit->Sem (ForInStep PUnit)),(∀ n v u,f (n,v) u=(do storeName F.env n v;pure (.yield ⟨⟩)))->∀ (J:Loc) (O:Own) (s:Shared) (vs:List Value) (ms:List MV) (Qm:Loc->Own->Prop) (Q:PUnit->Shared->Prop) (E:VS),
   At G F J O s->VR G.hB O s.heap vs ms->g ms J O Qm ->
   (∀ J' O' s',At G F J' O' s'->Step (some F.env.locals) O O' s s'->Qm J' O'->Q ⟨⟩ s')->wpAny (model G.prog G.w) A (forIn (xs.zip vs) ⟨⟩ f) Q E s
theorem nN:SimNs G F [] aN:=by
 intro A f hf J O s vs ms Qm Q E a hv h K
 rw [List.zip_nil_left,List.forIn_nil]
 exact wpAny_pure (K _ _ _ a (.refl ..) h.2)
theorem nC {x:Str} {xs:List Str} {g:AT} {r:ALT} (hg:SimN G F x g) (hr:SimNs G F xs r):SimNs G F (x :: xs) (aC g r):=by
 intro A f hf J O s vs ms Qm Q E a hv h K
 obtain ⟨m,ms',rfl,h⟩:=h
 cases hv with
 | cons h1 h2 =>
   rw [List.zip_cons_cons,List.forIn_cons,hf]
   refine wpAny_bind (wpAny_bind (hg A J O s _ m _ _ E a h1 h fun J1 O1 s1 a1 S1 q1=>wpAny_pure ?_))
   exact hr A f hf J1 O1 s1 _ ms' Qm Q E a1 (h2.mono (a.kd (.inr rfl) S1)) q1 fun J' O' s' a' S' q'=>K _ _ _ a' (S1.trans S') q'
noncomputable def cE (L:Nat):Nat->Own->Own
 | 0,O=>O
 | k + 1,O=>upd (cE L k O) (L + 1 + k) (.cell none)
noncomputable def nCells (names:List (Str × NameKind)):Nat:=(names.filter fun x=>x.2 == .cell).length
theorem layCells_ok {J:Loc} {L:Nat}:∀ (names:List (Str × NameKind)) (k:Nat) (O:Own) (s:Shared),At G F J (cE L k O) s->s.heap.objs.size=L + 1 + k ->
   At G F J (cE L (k + nCells names) O) { s with heap:=pushCells s.heap names }/\Step none (cE L k O) (cE L (k + nCells names) O) s { s with heap:=pushCells s.heap names }/\(pushCells s.heap names).objs.size=L + 1 + (k + nCells names)
 | [],k,O,s,a,hL=>⟨a,.refl ..,hL⟩
 | (x,kind) :: r,k,O,s,a,hL=>by
   unfold pushCells
   cases hk:kind == .cell with
   | true =>
     have e:k + nCells ((x,kind) :: r)=(k + 1) + nCells r:=by
       unfold nCells
       rw [List.filter_cons,if_pos (show ((x,kind).2 == NameKind.cell)=true from hk),List.length_cons];lia
     rw [e]
     have kk:∀ b o,s.heap.get? b=some o->(s.heap.push { cls:=.type "cell",data:=.cell none }).get? b=some o:=fun b o e=>Heap.get?_push_of_some _ e
     have hn:s.heap.get? (L + 1 + k)=none:=by rw [<- hL];exact gE _
     have a1:At G F J (cE L (k + 1) O) { s with heap:=s.heap.push { cls:=.type "cell",data:=.cell none } }:=a.alloc (tk:=s.toks) kk hn (mo:=.cell none) ⟨none,by rw [<- hL];exact Heap.get?_push_size _ rfl,trivial⟩
     have S1:Step none (cE L k O) (cE L (k + 1) O) s { s with heap:=s.heap.push { cls:=.type "cell",data:=.cell none } }:=Step.alloc (tk:=s.toks) kk hn (a.rel.none_of hn)
     obtain ⟨a2,S2,h2⟩:=layCells_ok r (k + 1) O _ a1 (by show (s.heap.push _).objs.size=_;rw [Heap.size_push,hL];exact Nat.le_antisymm (Nat.le_refl _) (Nat.le_refl _))
     exact⟨a2,S1.trans S2,h2⟩
   | false =>
     have e:nCells ((x,kind) :: r)=nCells r:=by
       unfold nCells
       rw [List.filter_cons,if_neg (show ¬ ((x,kind).2 == NameKind.cell)=true by rw [hk];decide)]
     rw [e]
     exact layCells_ok r k O s a hL
noncomputable abbrev fenv (fd:FuncData) (L fa:Addr):Env:=newEnv fd.scope L fd.globals (cellsFrom (L + 1) fd.scope.names fd.closure) (fd.qualname ++ ".<locals>.") (some fa) fd.code none fd.builtins
theorem enter_ok {A:Around} {fd:FuncData} {fa:Addr} {vars xs:List Str} {g:ALT} {J:Loc} {O:Own} {s:Shared} {vs:List Value} {ms:List MV} {Qm:Loc->Own->Prop} {Q:Env->Shared->Prop} {E:VS} (a:At G F J O s)
   (hk:fd.scope.kind=.function) (hg:SimNs G ⟨fenv fd s.heap.objs.size fa,vars,fenv fd s.heap.objs.size fa :: F.fl⟩ xs g) (hv:VR G.hB O s.heap vs ms)
   (h:g ms (fun _=>none) (cE s.heap.objs.size (nCells fd.scope.names) O) Qm)
   (hQ:∀ J' O' s',At G ⟨fenv fd s.heap.objs.size fa,vars,fenv fd s.heap.objs.size fa :: F.fl⟩ J' O' s'->Step none O O' s s'->(∀ b,s.heap.get? b=none->O b=none)->Qm J' O'->Q (fenv fd s.heap.objs.size fa) s') :
   wpAny (model G.prog G.w) A (newFunctionEnv fd.scope fd.globals fd.closure (xs.zip vs) (fd.qualname ++ ".<locals>.") (some fa) fd.code none fd.builtins) Q E s:=by
 simp only [newFunctionEnv,Option.isSome_none,Bool.false_eq_true,if_false]
 let L:=s.heap.objs.size
 let F':FC:=⟨fenv fd L fa,vars,fenv fd L fa :: F.fl⟩
 let H:=s.heap.push { cls:=.type "frame",data:=.dict #[] }
 have kk:∀ b o,s.heap.get? b=some o->H.get? b=some o:=fun b o e=>Heap.get?_push_of_some _ e
 have hL:H.get? L=some { cls:=.type "frame",data:=.dict #[] }:=Heap.get?_push_size _ rfl
 have hnL:s.heap.get? L=none:=gE _
 have a0:At G F' (fun _=>none) O { s with heap:=H }:=by
   refine ⟨a.rel.grow kk,⟨fun _=>none,Heap.Ns.new s.heap (.type "frame"),fun x=>?_⟩,a.rel.none_of hnL,a.rel.base_none hnL,fun o e=>?_,?_⟩
   . unfold rget;cases idx F'.vars x <;> trivial
   . have e':H.get? L=some o:=e
     cases one hL e'
     unfold Still;simp
   . intro env he
     rcases List.mem_cons.mp he with rfl | he
     . exact⟨by show fd.scope.kind ≠ _;rw [hk];decide,L,_,rfl,a.rel.base_none hnL,hL,rfl,(fun vs q=>by cases q),a.rel.none_of hnL⟩
     . obtain ⟨h1,L',o,h2,h3,h4,h5,h6,h7⟩:=a.frs env he
       exact⟨h1,L',o,h2,h3,kk _ _ h4,h5,h6,h7⟩
 have S0:Step none O O s { s with heap:=H }:=Step.grow (tk:=s.toks) kk
 have hsz:H.objs.size=L + 1:=Heap.size_push ..
 obtain ⟨a1,S1,hs1⟩:=layCells_ok (L:=L) fd.scope.names 0 O { s with heap:=H } a0 hsz
 rw [Nat.zero_add] at a1 S1
 refine wpAny_bind (wpAny_alloc ?_)
 refine wpAny_bind (wpAny_layCells _ (fun name kind cells=>by cases hkc:kind == NameKind.cell <;> simp [hkc]) _ _ _ _ ?_)
 rw [show ({ s with heap:=s.heap.push { cls:=.type "frame",data:=.dict #[] } }:Shared).heap.objs.size=L + 1 from hsz]
 have S01:=S0.trans S1
 have hv1:=hv.mono (a.kd (.inl rfl) S01)
 refine wpAny_bind (hg A _ (fun _ _ _=>rfl) (fun _=>none) _ _ vs ms Qm _ E a1 hv1 h fun J' O' s' a' S' q'=>wpAny_pure (hQ J' O' s' a' ?_ (fun b e=>a.rel.none_of e) q'))
 refine ⟨S01.same.trans S'.same,fun b o hb e1 e2=>?_,fun b o e1 e2=>S'.off b _ (S01.off b o e1 e2) (S01.dom b o e2).choose_spec,fun c q e=>S'.code c q (S01.code c q e),fun b o e=>?_⟩
 . obtain ⟨o',e',q⟩:=S01.keep b o hb e1 e2
   obtain ⟨o'',e'',q'⟩:=S'.keep b o' (fun z=>by
     have z':b=L:=Option.some.inj z
     rw [z',hnL] at e2;cases e2) (S01.off b o e1 e2) e'
   exact⟨o'',e'',q.trans q'⟩
 . obtain ⟨o',e'⟩:=S01.dom b o e
   exact S'.dom b o' e'
end Mn
namespace Mn
variable {G:GC} {n:Nat} {F:FC} {K:Frag}
structure Wd (G:GC) (K:Frag) (mg mb:Str->Option Value):Prop where
 inn:K.In G.hB
 lim:G.hB.NoLimit
 glob:G.hB.Ns mainGlobals mg
 blt:G.hB.Ns builtinsNs mb
 boot:∀ x,x ≠ "__name__"->mb x=bootBuiltins x
theorem Room.deeper {fl:List Env} {A:Around} {env:Env} (R:Room fl (n + 1) A):Room (env :: fl) n (A.deeper env) where
 handled:=R.handled
 frames:=Around.frames_deeper R.frames
 depth:=by have:=R.depth;show A.depth + 1 + n + 1 < _;lia
 units:=by have:=R.units;show A.units + 3 + _ < _;lia
noncomputable def ent (g:Addr->ALT) (k:Nat) (ds:List MV) (f:Addr->ST):CT:=fun ms O Q E=>∀ L:Addr,(∀ b,L<=b->O b=none)->g L (ms ++ ds) (fun _=>none) (cE L k O) fun J O' =>
 f L J O' (kRet Q) E
noncomputable def SM (G:GC) (n:Nat) (F:FC) (fv:Value) (c:CT):Prop :=
 ∀ (A:Around),Room F.fl n A->∀ (J:Loc) (O:Own) (s:Shared) (vs:List Value) (ms:List MV) (Qm:PV) (Em:PE) (Q:VS) (E:VS),
   At G F J O s->VR G.hB O s.heap vs ms->c ms O Qm Em->K1 G F J O s Qm Q->(∀ k O' e s',XAt G F.fl none O O' s s' e k->Em k O'->E e s') ->
   cD (model G.prog G.w) A (.call fv ⟨vs,[]⟩) (fun r s'=>match r with | .ok (.ret v)=>Q v s' | .ok _=>False | .error e=>E e s') s
theorem SM.c {fv:Value} {c:CT} (h:SM G n F fv c):SimC G n F fv c:=fun A R J O s vs ms Qm Em Q E a hv hc K KE=>wpC_call (h A R J O s vs ms Qm Em Q E a hv hc K KE)
theorem call_ok {fa:Addr} {fo:Obj} {fd:FuncData} {body:List Stmt} {vars xs:List Str} {g:Addr->ALT} {f:Addr->ST} {ds:List MV} {dvs:List Value} {j:Nat} {mg mb:Str->Option Value} (W:Wd G K mg mb) (ho:K.lookup fa=some fo) (hdat:fo.data=.func fd) (hbody:fd.body=.stmts body) (hcd:codeIn K fd.code fd.qualname=true)
   (hbind:∀ (vs:List Value) (s:Shared),K.In s.heap->vs.length=j->BindsTo s fd ⟨vs,[]⟩ (xs.zip (vs ++ dvs))) (hds:∀ O h,VR G.hB O h dvs ds)
   (hg:∀ L fl,SimNs G ⟨fenv fd L fa,vars,fenv fd L fa :: fl⟩ xs (g L)) (hf:∀ L fl,SimS G n ⟨fenv fd L fa,vars,fenv fd L fa :: fl⟩ (execs body (fenv fd L fa)) (f L))
   (hk:fd.scope.kind=.function:=by rfl) (hco:fd.scope.isCoroutine=false:=by rfl) (hgen:fd.scope.isGenerator=false:=by rfl) :
   SM G (n + 1) F (.ref fa) (fun ms O Q E=>ms.length=j/\ent g (nCells fd.scope.names) ds f ms O Q E):=by
 intro A R J O s vs ms Qm Em Q E a hv h K1' KE
 obtain ⟨hj,h⟩:=h
 have X:=W.inn.keeps a.rel.base
 refine codeC_call_function (by have:=R.depth;lia) (X _ _ ho) hdat hco hgen hbody (codeRec_of X hcd) (lift (hbind vs s X (by rw [hv.length,hj]) _ _ _ _ ?_))
 have h':=h s.heap.objs.size (fun b hb=>a.rel.none_of (by
   cases q:s.heap.get? b with
   | none=>rfl
   | some o=>exact absurd (Heap.lt_size q) (Nat.not_lt.mpr hb)))
 refine lift <| enter_ok a hk (hg _ F.fl) (hv.append (hds _ _)) h' fun J1 O1 s1 a1 S1 hno h1=>⟨W.lim.keeps a1.rel.base,codeC_func ?_⟩
 have nol:s.heap.get? s.heap.objs.size=none:=gE _
 have drop:∀ {O2:Own} {s2:Shared},Step (some s.heap.objs.size) O1 O2 s1 s2->Step none O O2 s s2:=fun {O2 s2} S=>⟨S1.same.trans S.same,fun b o _ e1 e2=>by
   obtain ⟨o',e',q⟩:=S1.keep b o dC e1 e2
   obtain ⟨o'',e'',q'⟩:=S.keep b o' (fun z=>by rw [Option.some.inj z,nol] at e2;cases e2) (S1.off b o e1 e2) e'
   exact⟨o'',e'',q.trans q'⟩,fun b o e1 e2=>by
     obtain ⟨o',e'⟩:=S1.dom b o e2
     exact S.off b o' (S1.off b o e1 e2) e',fun c q e=>S.code c q (S1.code c q e),fun b o e=>by
     obtain ⟨o',e'⟩:=S1.dom b o e
     exact S.dom b o' e'⟩
 refine hf _ F.fl (A.deeper _) R.deeper J1 O1 s1 _ Em _ _ a1 h1 (fun fl mf J2 O2 s2 a2 S2 r2 h₂=>?_) (fun k O2 e s2 x he=>?_)
 . have S02:Step none O O2 s s2:=drop S2
   have a02:At G F J O2 s2:=a.next S02 a2.rel
   cases fl <;> cases mf <;> (try exact r2.elim)
   . exact K1' .none .none _ _ a02 S02 .none h₂
   . exact h₂.elim
   . exact h₂.elim
   . exact K1' _ _ _ _ a02 S02 r2 h₂
 . have x':XAt G (fenv fd s.heap.objs.size fa :: F.fl) none O O2 s s2 e k:=⟨drop x.step,x.rel,x.frs,by
     have:=x.exc
     have none_:∀ b,s1.heap.get? b=none->s.heap.get? b=none:=fun b h=>by
       cases q:s.heap.get? b with
       | none=>rfl
       | some o=>obtain ⟨o',e'⟩:=S1.dom b o q;exact na h e'
     obtain ⟨a,rfl,h,r,c⟩:=this
     exact⟨a,rfl,none_ a h,r.imp id (Exists.imp fun T=>Exists.imp fun f x=>⟨x.1,none_ T x.2.1,x.2.2⟩),c⟩⟩
   exact lift <| leave_ok (Around.frames_deeper R.frames) rfl x' (fun b e=>a.rel.base_none e) fun h2 x2=>KE _ _ _ _ x2 he
end Mn
namespace Mn
variable {G:GC} {n:Nat} {F:FC} {K:Frag}
noncomputable abbrev cenv (scope:Scope) (cl:List (Str × Addr)) (C:Addr) (env:Env):Env:={ newEnv scope C env.globals (cellsFrom (C + 1) scope.names cl) env.qual none .none (some env) env.builtins with scope:=relabel scope env }
noncomputable def compL (a:AT) (t:BT) (e:ET) (g:Own->Prop) (D:Addr):List MV->List MV->Loc->Own->(List MV->Own->Prop)->Prop
 | [],acc,_,O,Q=>g O/\Q acc O
 | m :: r,acc,J,O,Q=>g O/\a m J O fun J1 O1=>t J1 O1 (fun c O2=>if c=true
     then e J1 O2 (fun v O3=>O3 D=some (.list acc)/\compL a t e g D r (acc ++ [v]) J1 (upd O3 D (.list (acc ++ [v]))) Q) (fun _ _=>False)
     else compL a t e g D r acc J1 O2 Q) (fun _ _=>False)
noncomputable def mComp (fi:Loc->Own->(List MV->(Own->Prop)->Own->Prop)->(PE)->Prop) (k:Nat) (a:Addr->AT) (t:Addr->BT) (e:Addr->ET):ET:=fun J O Q E =>
 fi J O (fun ms g O1=>yL ms.length/\∀ D C:Addr,O1 D=none->D < C->(∀ b,C<=b->O1 b=none)->compL (a C) (t C) (e C) g D ms [] (fun _=>none) (cE C k (upd O1 D (.list []))) fun acc O2=>O2 D=some (.list acc)/\Q (.ref D) O2) E
noncomputable def bTrue:BT:=fun _ O Q _=>Q true O
noncomputable def SimTs (G:GC) (n:Nat) (F:FC) (ifs:List Expr) (t:BT):Prop:=SimB G n F (forIn ifs true fun c r=>if r=true then do let ok <- isTrue c F.env (eval c F.env);pure (ForInStep.yield ok) else pure (ForInStep.yield r)) t
theorem tsNil:SimTs G n F [] bTrue:=by
 intro A R J O s Qm Em Q E a h K KE
 exact wpC_tests_nil (K _ _ _ _ a (.refl ..) rfl h)
theorem tsOne {c:Expr} {t:BT} (h:SimB G n F (isT c F.env) t):SimTs G n F [c] t:=by
 intro A R J O s Qm Em Q E a hx K KE
 exact wpC_tests_one (h A R J O s Qm Em Q E a hx K KE)
theorem VR.snoc {hB h:Heap} {O:Own} {vs:List Value} {ms:List MV} {v:Value} {m:MV} (x:VR hB O h vs ms) (y:VE hB O h v m):VR hB O h (vs ++ [v]) (ms ++ [m]):=x.append (.cons y .nil)
theorem append_ok {A:Around} {J:Loc} {O:Own} {s:Shared} {l:Addr} {xs:List MV} {v:Value} {m:MV} {Q:VS} {E:VS} (a:At G F J O s) (hl:O l=some (.list xs)) (hv:VE G.hB O s.heap v m) (hlen:yL xs.length)
   (hQ:∀ s',At G F J (upd O l (.list (xs ++ [m]))) s'->Step none O (upd O l (.list (xs ++ [m]))) s s'->Q .none s') :
   wpAny (model G.prog G.w) A (call (.builtin "list.append") [.ref l,v]) Q E s:=by
 obtain ⟨vs,k,hvs,rx⟩:=(a.rel.own _ _ hl).2
 refine wpAny_list_append_plain (items:=vs.toArray) ⟨k,hvs⟩ (fun h' y hsb=>?_) (by rw [List.size_toArray,rx.length];exact sZ hlen)
 obtain ⟨k',hk'⟩:=y
 have hu:∀ b o,b ≠ l->s.heap.get? b=some o->h'.get? b=some o:=fun b o hb e=>hsb.extBut b o hb e
 rw [List.push_toArray] at hk'
 exact hQ _ (a.set hl (tk:=s.toks) hu (mo':=.list (xs ++ [m])) ⟨_,k',hk',(rx.snoc hv).mono (kd_set hl hu)⟩) (Step.set hl hu ⟨_,hk'⟩)
theorem Step.through {O O1 O2:Own} {s s1 s2:Shared} {C:Addr} (x:Step none O O1 s s1) (h:s.heap.get? C=none) (y:Step (some C) O1 O2 s1 s2):Step none O O2 s s2:=⟨x.same.trans y.same,fun b o _ e1 e2=>by
   obtain ⟨o',e',q⟩:=x.keep b o (by simp) e1 e2
   obtain ⟨o'',e'',q'⟩:=y.keep b o' (fun z=>by rw [Option.some.inj z,h] at e2;cases e2) (x.off b o e1 e2) e'
   exact⟨o'',e'',q.trans q'⟩,fun b o e1 e2=>by
     obtain ⟨o',e'⟩:=x.dom b o e2
     exact y.off b o' (x.off b o e1 e2) e',fun c q e=>y.code c q (x.code c q e),fun b o e=>by
     obtain ⟨o',e'⟩:=x.dom b o e
     exact y.dom b o' e'⟩
noncomputable def ItGot (G:GC) (F:FC) (A:Around) (J:Loc) (O:Own) (s:Shared) (Z:List MV->(Own->Prop)->Own->Prop) (v:Value) (s1:Shared):Prop :=
 ∀ P:Prop,(∀ I ms g fp fh St O1,v=.ref I->At G F J O1 s1->Step none O O1 s s1->IterOK G A I ms g fp fh St->St 0 s1.heap->(∀ b ∈ fp,s.heap.get? b=none/\O1 b=none)->Z ms g O1->P)->P
theorem comp_out {F':FC} {J J':Loc} {O O':Own} {s s':Shared} {h':Heap} {Q:Shared->Prop} (a:At G F J O s) (hn:s.heap.get? F'.env.locals=none) (a':At G F' J' O' s') (S':Step none O O' s s')
   (kx:∀ b o,b ≠ F'.env.locals->s'.heap.get? b=some o->h'.get? b=some o) (K:∀ s'',At G F J O' s''->Step none O O' s s''->Q s''):Q { s' with heap:=h' }:=by
 have kd:Kd O' s'.heap O' h':=⟨fun b o n e st=>⟨n,kx b o (fun z=>a'.lcls o (z ▸ e) st) e⟩,fun _ _ e=>e⟩
 have S'':Step none O O' s { s' with heap:=h' }:=by
   refine ⟨S'.same.trans ⟨h',s'.toks,rfl⟩,fun b o hb e1 e2=>?_,S'.off,S'.code,fun b o e=>?_⟩
   . obtain ⟨o',e',q⟩:=S'.keep b o hb e1 e2
     exact⟨o',kx b o' (fun z=>na hn (z ▸ e2)) e',q⟩
   . obtain ⟨o',e'⟩:=S'.dom b o e
     exact⟨o',kx b o' (fun z=>na hn (z ▸ e)) e'⟩
 exact K _ (a.next S'' ⟨fun b o e=>kx b o (fun z=>na a'.lbase (z ▸ e)) (a'.rel.base b o e),fun b mo e=>⟨(a'.rel.own b mo e).1,(a'.rel.own b mo e).2.mono kd fun o q=>kx b o (fun z=>na a'.lfree (z ▸ e)) q⟩⟩) S''
theorem sComp {elt iter:Expr} {x:Str} {px:Pos} {ifs:List Expr} {scope:Scope} {cl:List (Str × Addr)} {pos:Pos} {vars:List Str} {fi:Loc->Own->(List MV->(Own->Prop)->Own->Prop)->(PE)->Prop} {ga:Addr->AT} {gt:Addr->BT} {ge:Addr->ET}
   (hi:SimIt G n F iter fi) (hclos:closureFor scope F.env=pure cl) (hkind:scope.kind=.function) (hnames:∀ y ∈ scope.names,y.2=.local->scope.names.lookup y.1=some .local)
   (ha:∀ C,SimA G n ⟨cenv scope cl C F.env,vars,F.fl⟩ (assign (.Name x px) (cenv scope cl C F.env)) (ga C))
   (ht:∀ C,SimTs G n ⟨cenv scope cl C F.env,vars,F.fl⟩ ifs (gt C)) (he:∀ C,SI G n ⟨cenv scope cl C F.env,vars,F.fl⟩ (eval elt (cenv scope cl C F.env)) (ge C))
   (hs:foldedSetIterable iter F.env=fun x=>pure x:=by rfl) :
   SI G n F (eval (.ListComp elt [⟨.Name x px,iter,ifs,0⟩] scope pos) F.env) (mComp fi (nCells scope.names) ga gt ge):=by
 intro A R J O s Qm Em Q E a h K1' KE
 rw [eval_ListComp]
 refine wpC_comprehension rfl hs hclos hkind hnames (wM (hi A R J O s _ Em (ItGot G F A J O s _) E a h (fun I ms g fp fh St O1 s1 a1 S1 W st hfp hq P k=>k I ms g fp fh St O1 rfl a1 S1 W st hfp hq) KE) (fun xv s1 h₁=>wM h₁ (fun it s2 h₂=>?_) fun _ _ e=>e) fun _ _ e=>e)
 refine h₂ _ fun I ms g fp fh St O1 e a1 S1 W st1 hfp hq=>?_
 subst e
 let D:=s2.heap.objs.size
 let H1:=s2.heap.push { cls:=.type "list",data:=.seq ([]:List Value).toArray }
 let C:=H1.objs.size
 have hC:C=D + 1:=Heap.size_push ..
 refine lift <| wpAny_newObj_type ?_ (show ([]:List Value).toArray.size<=sizeLine by rw [sizeLine_eq];simp)
 have kk1:∀ b o,s2.heap.get? b=some o->H1.get? b=some o:=fun b o e=>Heap.get?_push_of_some _ e
 have hnD:s2.heap.get? D=none:=gE _
 have a2:At G F J (upd O1 D (.list [])) { s2 with heap:=H1,toks:=s2.toks }:=a1.alloc (tk:=s2.toks) kk1 hnD (mo:=.list []) ⟨[],0,Heap.get?_push_size _ rfl,.nil⟩
 have S2:Step none O1 (upd O1 D (.list [])) s2 { s2 with heap:=H1,toks:=s2.toks }:=Step.alloc (tk:=s2.toks) kk1 hnD (a1.rel.none_of hnD)
 have hσ1:∀ b,D<=b->O1 b=none:=fun b hb=>a1.rel.none_of (get_size_none' hb)
 have hq':=hq.2 D C (hσ1 D (Nat.le_refl _)) (by rw [hC];exact Nat.lt_succ_self _) (fun b hb=>hσ1 b (by rw [hC] at hb;exact Nat.le_of_succ_le hb))
 let F':FC:=⟨cenv scope cl C F.env,vars,F.fl⟩
 let H2:=H1.push { cls:=.type "dict",data:=.dict #[] }
 have kk2:∀ b o,H1.get? b=some o->H2.get? b=some o:=fun b o e=>Heap.get?_push_of_some _ e
 have hLC:H2.get? C=some { cls:=.type "dict",data:=.dict #[] }:=Heap.get?_push_size _ rfl
 have hnC:H1.get? C=none:=gE _
 have hnC2:s2.heap.get? C=none:=get_size_none' (by rw [hC];exact Nat.le_succ _)
 have hnCs:s.heap.get? C=none:=S1.none_of hnC2
 have a3:At G F' (fun _=>none) (upd O1 D (.list [])) { s2 with heap:=H2,toks:=s2.toks }:=by
   refine ⟨a2.rel.grow kk2,⟨fun _=>none,Heap.Ns.new H1 (.type "dict"),fun x=>?_⟩,a2.rel.none_of hnC,a2.rel.base_none hnC,fun o e=>?_,fun env he=>?_⟩
   . unfold rget;cases idx F'.vars x <;> trivial
   . have e':H2.get? C=some o:=e
     cases one hLC e'
     unfold Still;simp
   . obtain ⟨h1,L',o,h2,h3,h4,h5,h6,h7⟩:=a2.frs env he
     exact⟨h1,L',o,h2,h3,kk2 _ _ h4,h5,h6,h7⟩
 have S3:Step none (upd O1 D (.list [])) (upd O1 D (.list [])) { s2 with heap:=H1,toks:=s2.toks } { s2 with heap:=H2,toks:=s2.toks }:=Step.grow (tk:=s2.toks) kk2
 have hsz:H2.objs.size=C + 1:=Heap.size_push ..
 obtain ⟨a4,S4,hs4⟩:=layCells_ok (L:=C) scope.names 0 (upd O1 D (.list [])) { s2 with heap:=H2,toks:=s2.toks } a3 hsz
 rw [Nat.zero_add] at a4 S4
 have S04:=((S1.trans S2).trans S3).trans S4
 have S24:=(S2.trans S3).trans S4
 simp only [newFunctionEnv,Option.isSome_some,if_true]
 refine wP (lift <| wpAny_alloc ?_)
 refine wP (lift <| wpAny_layCells _ (fun name kind cells=>by cases hkc:kind == NameKind.cell <;> simp [hkc]) _ _ _ _ ?_)
 rw [show ({ s2 with heap:=H1.push { cls:=.type "dict",data:=.dict #[] } }:Shared).heap.objs.size=C + 1 from hsz]
 simp only [List.forIn_nil]
 refine wP (wC (wC ?_))
 refine (?_:cD _ _ (.compStart _ 0 (.ref I) (.ref D) (cenv scope cl C F.env)) _ _)
 have hfpN:∀ b ∈ fp,s.heap.get? b=none:=fun b hb=>(hfp b hb).1
 have hfpC:∀ b ∈ fp,some b ≠ some C:=fun b hb q=>by
   obtain ⟨o,e,_⟩:=W.cls 0 _ st1 b hb
   exact na hnC2 (Option.some.inj q ▸ e)
 have hfpX:∀ b ∈ fp,some b ≠ none:=fun b hb q=>Option.noConfusion rfl (heq_of_eq q)
 have stFp:=S24.frame (fun h'=>W.frame _ _ h' st1) (W.cls _ _ st1) (fun b hb=>(hfp b hb).2) hfpX
 have fin:∀ J' O' s' acc,At G F' J' O' s'->Step none O O' s s'->O' D=some (.list acc)->Qm (.ref D) O'->compPostC Q (.ref D) C (.ok .next) s':=by
   intro J' O' s' acc a' S' hD hq
   exact a'.loc.elim fun m' h=>⟨m',h.1,fun h' hsb=>comp_out (Q:=Q (.ref D)) a hnCs a' S' (fun b o hb e=>hsb.extBut b o hb e) fun s'' b S=>K1' _ _ _ _ b S (.ref D) hq⟩
 have loop:cD (model G.prog G.w) A (.compLoop (.ListComp elt [⟨.Name x px,iter,ifs,0⟩] scope pos) 0 (.ref I) (.ref D) (cenv scope cl C F.env)) (compPostC Q (.ref D) C) { s2 with heap:=pushCells H2 scope.names }:=by
   refine codeC_compLoop (FInv G F' none O s St fp ms.length fun i J' O'=>∃ acc:List MV,acc.length<=i/\compL (ga C) (gt C) (ge C) g D (ms.drop i) acc J' O' (fun acc O2=>O2 D=some (.list acc)/\Qm (.ref D) O2)) ?_ (ms.length + 1)
     fun P k=>k 0 (fun _=>none) _ rfl (Nat.zero_le _) a4 S04 stFp.1 stFp.2 ⟨[],Nat.le_refl _,hq'⟩
   intro j s' hk
   refine hk _ fun i J' O' e hi' a' S' st' hσ' hf=>?_
   subst e
   obtain ⟨acc,hacc,hf⟩:=hf
   have hfp':∀ b ∈ fp,O' b=none/\G.hB.get? b=none/\b ≠ F'.env.locals/\∃ o,s'.heap.get? b=some o/\o.cls ≠ .type "frame":=fun b hb=>⟨hσ' b hb,a.rel.base_none (hfpN b hb),fun q=>hfpC b hb (congrArg some q),W.cls i _ st' b hb⟩
   by_cases hlt:i < ms.length
   . rw [List.drop_eq_getElem_cons hlt] at hf
     have hhid:=W.hids O' hf.1
     refine lift <| W.item i _ O' s' _ _ (List.getElem?_eq_getElem hlt) st' a'.rel hf.1 fun v h' tk hv st5 kk hh1=>?_
     have hh1':∀ b ∈ fh,O' b=some .hid/\ORep G O' h' b .hid:=fun b hb=>⟨hhid b hb,hh1 b hb⟩
     have S5:=S'.poke (tk:=tk) hfpN kk hh1'
     refine ha C A R J' O' _ v _ _ _ _ (a'.poke (tk:=tk) kk hfp' hh1') hv hf.2 fun J6 O6 s6 a6 S6 h₆=>?_
     have f6:=S6.frame (fun h'=>W.frame _ _ h' st5) (W.cls _ _ st5) hσ' hfpC
     refine ht C A R J6 O6 s6 _ _ _ _ a6 h₆ (fun c c' O7 s7 a7 S7 r7 h₇=>?_) (fun _ _ _ _ _ z=>z.elim)
     have r7':c=c':=r7
     subst r7'
     have S07:=(S5.through hnCs S6).trans S7
     have f7:=S7.frame (fun h'=>W.frame _ _ h' f6.1) (W.cls _ _ f6.1) f6.2 hfpX
     cases c with
     | false=>exact FInv.on hlt a7 S07 f7 ⟨acc,Nat.le_succ_of_le hacc,h₇⟩
     | true =>
       refine he C A R J6 O7 s7 _ (fun _ _=>False) _ _ a7 h₇ (fun y my O8 s8 a8 S8 r8 h8=>?_) (fun _ _ _ _ _ z=>z.elim)
       have f8:=S8.frame (fun h'=>W.frame _ _ h' f7.1) (W.cls _ _ f7.1) f7.2 hfpX
       refine lift <| append_ok a8 h8.1 r8 (Nat.le_trans hacc (Nat.le_trans hi' hq.1)) fun s9 a9 S9=>?_
       have f9:=S9.frame (fun h'=>W.frame _ _ h' f8.1) (W.cls _ _ f8.1) f8.2 hfpX
       exact FInv.on hlt a9 ((S07.trans S8).trans S9) f9 ⟨acc ++ [my],by rw [List.length_append];exact Nat.succ_le_succ hacc,h8.2⟩
   . have hin:i=ms.length:=Nat.le_antisymm hi' (Nat.not_lt.mp hlt)
     subst hin
     rw [List.drop_length] at hf
     refine lift <| W.done O' s' _ _ st' a'.rel hf.1 fun h' tk kk hh=>?_
     have hh':∀ b ∈ fh,O' b=some .hid/\ORep G O' h' b .hid:=fun b hb=>⟨W.hids O' hf.1 b hb,hh b hb⟩
     exact fin J' O' _ acc (a'.poke (tk:=tk) kk hfp' hh') (S'.poke hfpN kk hh') hf.2.1 hf.2.2
 exact codeC_compStart loop (lift <| W.self 0 _ _ _ stFp.1 loop)
end Mn
namespace Mn
variable {G:GC} {n:Nat} {F:FC} {K:Frag}
noncomputable def mkIn (K:Frag) (C fI:Addr):Bool:=makesIn K C && findIn K (.ref C) "__init__" == some (some (.ref fI)) && typeIn K (.ref fI) == some (.type "function")
theorem Room.under {fl:List Env} {A:Around} {rest:List Value} {C:Addr} {kw:List (Str × Value)} (R:Room fl (n + 1) A):Room fl n (A.under (.builtin "type.__call__" ⟨.ref C :: rest,kw⟩)) where
 handled:=R.handled
 frames:=R.frames
 depth:=by
   have:=R.depth
   have hw:(Code.builtin "type.__call__" ⟨.ref C :: rest,kw⟩).weight=1:=by
     refine (?_:(Code.builtin "type.__call__" ⟨.ref C :: rest,kw⟩).frames + _ + _ + _=1)
     have h1:(Code.builtin "type.__call__" ⟨.ref C :: rest,kw⟩).frames=0:=by kernel_rfl
     have h2:(Code.builtin "type.__call__" ⟨.ref C :: rest,kw⟩).isCreation=true:=rfl
     have h3:(Code.builtin "type.__call__" ⟨.ref C :: rest,kw⟩).isGuard=false:=by kernel_rfl
     have h4:(Code.builtin "type.__call__" ⟨.ref C :: rest,kw⟩).isCaller=false:=by kernel_rfl
     rw [h1,h2,h3,h4];rfl
   refine (?_:A.depth + _ + n + 1 < _)
   rw [hw];lia
 units:=by
   have:=R.units
   have hu:(Code.builtin "type.__call__" ⟨.ref C :: rest,kw⟩).cUnits<=8:=by
     have:(Code.builtin "type.__call__" ⟨.ref C :: rest,kw⟩).cUnits=(Code.builtin "type.__call__" ⟨[],[]⟩).cUnits:=by kernel_rfl
     rw [this];decide +kernel
   refine (?_:A.units + _ + _ < _)
   lia
noncomputable def mkC (C:Addr) (c:CT):CT:=fun ms O Q E=>∀ x dx:Addr,O x=none->O dx=none->dx < x->c (.ref x :: ms) (upd (upd O dx (.ns fun _=>none)) x (.inst C dx)) (fun v O'=>v=.none/\Q (.ref x) O') E
theorem make_ok {C fI:Addr} {c:CT} (X:K.In G.hB) (hm:mkIn K C fI=true) (hc:SM G n F (.ref fI) c):SimC G (n + 1) F (.ref C) (mkC C c):=by
 intro A R J O s vs ms Qm Em Q E a hv h K1' KE
 simp only [mkIn,Bool.and_eq_true,beq_iff_eq] at hm
 obtain ⟨⟨h1,h2⟩,h3⟩:=hm
 have X':=X.keeps a.rel.base
 refine wpC_call ?_
 obtain ⟨hh,g,d,t,os⟩:=s
 refine codeC_make (makes_of X' h1) (looks_findIn X' h2) (fun self=>bind_fn X' self h3) rfl ?_
 have kk1:∀ b o,hh.get? b=some o->(hh.push emptyDict).get? b=some o:=fun b o e=>Heap.get?_push_of_some _ e
 have kk2:∀ b o,(hh.push emptyDict).get? b=some o->((hh.push emptyDict).push (instObj C hh.objs.size)).get? b=some o:=fun b o e=>Heap.get?_push_of_some _ e
 have hn1:hh.get? hh.objs.size=none:=gE _
 have hn2:(hh.push emptyDict).get? (hh.objs.size + 1)=none:=by have:=gE (hh.push emptyDict);rwa [Heap.size_push] at this
 have hn2':hh.get? (hh.objs.size + 1)=none:=by
   cases q:hh.get? (hh.objs.size + 1) with
   | none=>rfl
   | some o=>exact na hn2 (kk1 _ _ q)
 have a1:At G F J (upd O hh.objs.size (.ns fun _=>none)) ⟨hh.push emptyDict,g,d,t,os⟩:=a.alloc (tk:=t) kk1 hn1 (mo:=.ns fun _=>none) ⟨#[],0,Heap.get?_push_size _ rfl,fun e he=>by simp at he,by unfold UniqKeys;exact .nil,fun x=>by
   unfold rget
   refine (?_:VOpt _ _ _ none _)
   cases idx aR x <;> trivial⟩
 have S1:Step none O (upd O hh.objs.size (.ns fun _=>none)) ⟨hh,g,d,t,os⟩ ⟨hh.push emptyDict,g,d,t,os⟩:=Step.alloc (tk:=t) kk1 hn1 (a.rel.none_of hn1)
 have a2:At G F J (upd (upd O hh.objs.size (.ns fun _=>none)) (hh.objs.size + 1) (.inst C hh.objs.size)) ⟨(hh.push emptyDict).push (instObj C hh.objs.size),g,d,t,os⟩:=a1.alloc (tk:=t) kk2 hn2 (mo:=.inst C hh.objs.size) (by
   refine (?_:((hh.push emptyDict).push (instObj C hh.objs.size)).get? (hh.objs.size + 1)=some _)
   have:=Heap.get?_push_size (hh.push emptyDict) (o:=instObj C hh.objs.size) rfl
   rwa [Heap.size_push] at this)
 have S2:Step none (upd O hh.objs.size (.ns fun _=>none)) (upd (upd O hh.objs.size (.ns fun _=>none)) (hh.objs.size + 1) (.inst C hh.objs.size)) ⟨hh.push emptyDict,g,d,t,os⟩ ⟨(hh.push emptyDict).push (instObj C hh.objs.size),g,d,t,os⟩:=Step.alloc (tk:=t) kk2 hn2 (a1.rel.none_of hn2)
 have S12:=S1.trans S2
 refine codeC_mono (hc _ R.under J _ _ (.ref (hh.objs.size + 1) :: vs) (.ref (hh.objs.size + 1) :: ms) _ Em _ _ a2 (.cons (.ref _) (hv.mono (a.kd (.inl rfl) S12))) (h (hh.objs.size + 1) hh.objs.size (a.rel.none_of hn2') (a.rel.none_of hn1) (Nat.lt_succ_self _)) (fun v m O' s' a' S' r hq=>(?_:v=.none/\Q (.ref (hh.objs.size + 1)) s')) (fun k O' e s' x he=>KE k O' e s' (x.after S12) he)) fun r s' z=>?_
 . obtain ⟨rfl,hq⟩:=hq
   cases r.n
   exact⟨rfl,K1' _ _ _ _ a' (S12.trans S') (.ref _) hq⟩
 . rcases r with e | (v | _ | _ | _) <;> exact z
end Mn
namespace Mn
section
variable {M:Model} {A:Around} {E:VS} {h:Heap} {g:Array GenState} {d:Drawn} {t:Nat} {os:OsState}
variable {nm q:Str} {C N:Addr} {bs bm:List Value} {hdct:Bool} {sn:List Str} {sub:List Value} {ab:Bool} {col:Option Bool} {dd:Option Addr} {k0 k1 k2 k3 k5:Option Value} {B newId initId:String} {bmB:List Value}
theorem xc_check (F:ExcBaseFacts B newId initId bmB) (hB:bm.contains (.type B)=true) {rest:List Value} {Q:Unit->Shared->Prop} (hC:h.get? C=some (excClassObj nm q C N bs bm hdct sn sub ab col dd k0 k1 k2 k3 k5 newId))
   (hq:Q () ⟨h,g,d,t,os⟩):wpAny M A (checkBuiltinCall newId ⟨.ref C :: rest,[]⟩) Q E ⟨h,g,d,t,os⟩:=by
 have hcont:(Value.ref C :: bm).contains (.type B)=true:=by rw [List.contains_cons,hB,Bool.or_true]
 have hstar:=F.noStar
 simp only [checkBuiltinCall,F.newKind,F.newSplit,F.newRow]
 repeat (first | refine wpAny_loadPart_at hC ?_ | (refine wpAny_isSubtype_exc hC ?_;rw [hcont]) | refine wpAny_staticBase_exc hC ?_ | refine wpAny_madeBy_exc hC ?_ | simp only [bne_self_eq_false,Bool.false_eq_true,if_false] | wp_step)
 exact hq
end
section
variable {prog:Program} {w:World} {A:Around} {R:Result->Shared->Prop} {h:Heap} {g:Array GenState} {d:Drawn} {t:Nat} {os:OsState}
variable {nm q:Str} {C N:Addr} {bs bm:List Value} {hdct:Bool} {sn:List Str} {sub:List Value} {ab:Bool} {col:Option Bool} {dd:Option Addr} {k0 k1 k2 k3 k5:Option Value} {B newId initId:String} {bmB:List Value}
noncomputable abbrev xcObj (C t:Addr):Obj:={ cls:=.ref C,data:=.fields #[.ref t,.none,.none,.none,.bool false,.none] }
noncomputable abbrev tupObj (rest:List Value):Obj:={ cls:=.type "tuple",data:=.seq rest.toArray }
theorem xc_new (F:ExcBaseFacts B newId initId bmB) (hB:bm.contains (.type B)=true) (hA:bm.contains (.type "AttributeError")=false) (hN:bm.contains (.type "NameError")=false) {rest:List Value} (hC:h.get? C=some (excClassObj nm q C N bs bm hdct sn sub ab col dd k0 k1 k2 k3 k5 newId))
   (hq:R (.ok (.ret (.ref (h.objs.size + 1)))) ⟨(h.push (tupObj rest)).push (xcObj C h.objs.size),g,d,t,os⟩) (hrest:rest.length<=sizeLine:=by size_fits) :
   codeAny (model prog w) A (.builtin newId ⟨.ref C :: rest,[]⟩) R ⟨h,g,d,t,os⟩:=by
 have hends:=F.ends
 have hcB:(Value.ref C :: bm).contains (.type B)=true:=by rw [List.contains_cons,hB,Bool.or_true]
 have hcA:(Value.ref C :: bm).contains (.type "AttributeError")=false:=by rw [List.contains_cons,hA];rfl
 have hcN:(Value.ref C :: bm).contains (.type "NameError")=false:=by rw [List.contains_cons,hN];rfl
 refine PySem.codeAny_builtinAt F.entry ?_
 unfold Builtin.«BaseException.__new__»
 refine PySem.wpAt_bind ?_
 refine (?_:PySem.wpAt _ _ _ (stack >>= _) _ _ _)
 refine PySem.wpAt_bind (PySem.wpAt_stack fun p below=>PySem.wpAt_of_wpAny ?_)
 wp_walk
 refine PySem.wpAt_of_wpAny ?_
 rw [F.owner]
 repeat (first | with_reducible refine wpAny_madeHere_exc F.canon hC ?_ | with_reducible refine wpAny_loadPart_at hC ?_ | (with_reducible refine wpAny_isSubtype_exc hC ?_;first | rw [hcB] | rw [hcA] | rw [hcN]) | wp_step)
 refine (?_:R _ _)
 rw [Heap.size_push]
 exact hq
theorem xc_make (F:ExcBaseFacts B newId initId bmB) (hB:bm.contains (.type B)=true) (hA:bm.contains (.type "AttributeError")=false) (hN:bm.contains (.type "NameError")=false) {v:Value} {fI:Addr} {oI:Obj}
   (hC:h.get? C=some (excClassObj nm q C N bs bm hdct sn sub ab col dd k0 k1 k2 k3 k5 newId)) (hi:Looks (model prog w) h (typeLookup (.ref C) "__init__") (some (.ref fI))) (hfI:h.get? fI=some oI) (hfc:oI.cls=.type "function")
   {Q:VS} {E:VS}
   (hq:wpAny (model prog w) (A.under (.builtin "type.__call__" ⟨[.ref C,v],[]⟩)) (call (.ref fI) [.ref (h.objs.size + 1),v]) (fun r s'=>r=.none/\Q (.ref (h.objs.size + 1)) s') E ⟨(h.push (tupObj [v])).push (xcObj C h.objs.size),g,d,t,os⟩) :
   wpAny (model prog w) A (call (.ref C) [v]) Q E ⟨h,g,d,t,os⟩:=by
 have f1:=tc_lookup
 have f2:=tc_bind (.ref C)
 have hT:(⟨h,g,d,t,os⟩:Shared).TypeIs (.ref C) "type":=⟨_,hC,rfl⟩
 refine wpAny_call (codeAny_of_tree ?_)
 refine (?_:wpAny _ _ (callAny (.ref C) _) _ _ _)
 repeat (any_goals (first | assumption | with_reducible refine wpAny_loadPart_at hC ?_ | wp_step))
 refine ⟨rfl,?_⟩
 refine codeAny_call_builtin_at (Code.quiet_builtin _ (by decide +kernel)) entry_typeCall (wpAny_check_type_call_sub hC ?_)
 repeat (first | with_reducible refine wpAny_loadPart_at hC ?_ | with_reducible refine wpAny_madeBy_exc hC ?_ | wp_step)
 refine codeAny_call_builtin_code (Code.quiet_builtin _ F.quiet) (xc_check F hB hC ?_)
 refine xc_new F hB hA hN hC ?_ (by rw [sizeLine_eq];simp)
 refine (?_:wpAny _ _ _ _ _ _)
 have k:∀ b o,h.get? b=some o->((h.push (tupObj [v])).push (xcObj C h.objs.size)).get? b=some o:=fun b o e=>Heap.get?_push_of_some _ (Heap.get?_push_of_some _ e)
 have hC1:=k _ _ hC
 have hfI1:=k _ _ hfI
 have hget:((h.push (tupObj [v])).push (xcObj C h.objs.size)).get? (h.objs.size + 1)=some (xcObj C h.objs.size):=by heap_get
 have hcC:(Value.ref C :: bm).contains (.ref C)=true:=by simp
 unfold isInstance
 repeat (first | with_reducible refine wpAny_loadPart_at hget ?_ | (with_reducible refine wpAny_isSubtype_exc hC1 ?_;rw [hcC]) | wp_step)
 refine (?_:wpAny _ _ (isSubtype (.ref C) (.ref C)) _ _ ⟨(h.push (tupObj [v])).push (xcObj C h.objs.size),g,d,t,os⟩)
 refine wpAny_isSubtype_exc hC1 ?_
 rw [hcC]
 unfold callSpecial? specialOf
 repeat (first | with_reducible refine wpAny_loadPart_at hget ?_ | wp_step)
 refine (hi.keeps k).at ?_
 refine wpAny_holding (wpAny_bind ?_)
 unfold bindSpecial
 refine wpAny_bind (wpAny_typeOf (T:="function") ⟨_,hfI1,hfc⟩ ?_)
 refine wpA_pos dC ?_
 refine wpAny_pure (wpAny_bind (wpAny_mono hq (fun r s' hr=>?_) fun _ _ x=>x))
 obtain ⟨rfl,hQ⟩:=hr
 wp_walk
 exact hQ
end
section
variable {prog:Program} {w:World} {A:Around} {E:VS} {s:Shared} {K:Frag}
variable {nm q:Str} {C N e:Addr} {bs bm:List Value} {hdct:Bool} {sn:List Str} {sub:List Value} {ab:Bool} {col:Option Bool} {dd:Option Addr} {k0 k1 k2 k3 k5:Option Value} {B newId initId:String} {bmB:List Value}
theorem xc_vinit (F:ExcBaseFacts B newId initId bmB) (hB:bm.contains (.type B)=true) {v:Value} {t0:Addr} {Q:VS}
   (hC:s.heap.get? C=some (excClassObj nm q C N bs bm hdct sn sub ab col dd k0 k1 k2 k3 k5 newId)) (he:s.heap.get? e=some (xcObj C t0))
   (hq:Q .none { s with heap:=(s.heap.push (tupObj [v])).update e (Obj.mapFields (·.setIfInBounds 0 (.ref s.heap.objs.size))) }) :
   wpAny (model prog w) A (call (.builtin initId) [.ref e,v]) Q E s:=by
 obtain ⟨h,g,d,t,os⟩:=s
 dsimp only at hC he
 have hcB:(Value.ref C :: bm).contains (.type B)=true:=by rw [List.contains_cons,hB,Bool.or_true]
 have hshort:=F.noStar
 refine wpAny_call (codeAny_call_builtin F.init.plain F.initEntry ?_)
 have chk:∀ {Q:Unit->Shared->Prop} {E:VS},Q () ⟨h,g,d,t,os⟩->wpAny (model prog w) A.in1 (checkBuiltinCall initId ⟨.ref e :: [v],[]⟩) Q E ⟨h,g,d,t,os⟩:=by
   intro Q E hq
   simp only [checkBuiltinCall,F.initKind,F.initSplit,F.initRow]
   repeat (first | (with_reducible refine wpAny_loadPart_at he ?_) | with_reducible refine wpAny_loadPart_at hC ?_ | (with_reducible refine wpAny_isSubtype_exc hC ?_;rw [hcB]) | wp_step)
   exact hq
 refine chk ?_
 wp_walk
 exact hq
theorem xc_store {v:Value} {name:Str} {vs:Array Value} {cd:ClassData} (X:K.In s.heap) (he:s.heap.get? e=some { cls:=.ref C,data:=.fields vs }) (hs:findIn K (.ref C) "__setattr__"=some (some (.builtin "object.__setattr__")))
   (hc:clsIn K C=some cd) (hd:cd.hasDict=true) (ho:cd.mro.contains (.type "object")=true) (hr:∀ self:Value,refuseLoop self "__setattr__" cd.mro=pure ()) (ht:takerIn K C name=some none) {Q:Unit->Shared->Prop}
   (hq:∀ h' dx,h'.get? e=some { cls:=.ref C,dict:=some dx,data:=.fields vs }->(∀ b o,b ≠ e->s.heap.get? b=some o->h'.get? b=some o)->Q () { s with heap:=h',toks:=s.toks + 1 + 1 }) :
   wpAny (model prog w) A (setAttr (.ref e) name v) Q E s:=by
 have I:InstAt s.heap e { cls:=.ref C,data:=.fields vs } C none:=⟨he,rfl,rfl,trivial⟩
 have SF:=PySem.F.store_object
 have ne:cd.mro.isEmpty=false:=by cases q:cd.mro with | nil=>rw [q] at ho;cases ho | cons _ _=>rfl
 refine set_plain X I hs ?_
 have sub:Looks (model prog w) s.heap (isInstance (.ref e) (.type "object")) true:=I.type.andThen (looks_mroIn X (by unfold mroIn;rw [hc,Option.bind_some,if_neg (by rw [ne];decide),ho]))
 refine codeAny_call_builtin SF.slot.plain SF.entry (@check_slot (model prog w) _ _ { s with toks:=s.toks + 1 } "object.__setattr__" "object" "__setattr__" (.ref e) [.str name s.toks,v] [] _ SF.kind SF.split sub (SF.args (.ref e) (.str name s.toks) v) ?_)
 obtain ⟨attr,ha,hr'⟩:=Option.bind_eq_some_iff.mp ht
 have hm:Looks (model prog w) s.heap (mroOf (.ref C)) cd.mro:=(looks_clsIn X hc).andThen .now
 have L3:Looks (model prog w) s.heap (Builtin.ObjectAttr.storeTaker? attr) none:=by
   cases attr with
   | none=>cases hr';exact .now
   | some a =>
     obtain ⟨b,hb,hb'⟩:=Option.map_eq_some_iff.mp hr'
     refine (looks_takesIn X hb).andThen ?_
     cases b with
     | true=>cases hb'
     | false=>exact .now
 have at_:∀ {α:Type} {t:Sem α} {r:α} {Q:α->Shared->Prop} {E:VS},Looks (model prog w) s.heap t r->Q r { s with toks:=s.toks + 1 }->wpAny (model prog w) A.in1 t Q E { s with toks:=s.toks + 1 }:=fun L q=>L _ _ _ _ (fun _ _ e=>e) q
 rw [osa_eq,refuse_eq]
 refine wpAny_bind (wpAny_bind (at_ I.type (wpAny_bind (at_ hm ?_))))
 rw [hr]
 refine wpAny_pure (wpAny_bind (at_ I.type (wpAny_bind (at_ (looks_findIn X ha) (wpAny_bind (at_ L3 ?_))))))
 refine wpAny_bind (wpAny_pure (wpAny_bind (wpAny_bind (wpAny_loadPart he (wpAny_bind (at_ (looks_clsIn X hc) ?_))))))
 rw [hd]
 have hxs:e ≠ s.heap.objs.size:=Nat.ne_of_lt (Heap.lt_size he)
 have he1:(s.heap.push { cls:=.type "dict",data:=.dict #[] }).get? e=some { cls:=.ref C,data:=.fields vs }:=Heap.get?_push_of_some _ he
 refine wpAny_bind (wpAny_alloc ?_)
 refine wpAny_bind (wpAny_update (s:={ s with heap:=_,toks:=s.toks + 1 }) he1 ?_)
 refine wpAny_pure (a:=some s.heap.objs.size) ?_
 let H2:=(s.heap.push { cls:=.type "dict",data:=.dict #[] }).update e fun o=>{ cls:=o.cls,dict:=some s.heap.objs.size,data:=o.data,slots:=o.slots }
 have hgd:H2.get? s.heap.objs.size=some { cls:=.type "dict",data:=.dict #[] }:=(Heap.get?_update_ne _ _ _ _ hxs.symm).trans (Heap.get?_push_at rfl rfl)
 have hge:H2.get? e=some { cls:=.ref C,dict:=some s.heap.objs.size,data:=.fields vs }:=Heap.get?_update_self _ he1 rfl
 refine (?_:wpAny _ _ (Builtin.ObjectAttr.storeInDict s.heap.objs.size (.str name s.toks) name v) _ _ { s with heap:=H2,toks:=s.toks + 1 })
 unfold Builtin.ObjectAttr.storeInDict Builtin.ObjectAttr.newKeyGuard
 refine wpAny_bind (wpAny_pure (wpAny_bind ?_))
 refine nsSet_core (s:={ s with heap:=H2,toks:=s.toks + 1 }) hgd rfl (fun e he=>by simp at he) fun h' es' k' e' hk' hu' hf hsb=>?_
 replace hu':=hu' (by unfold UniqKeys;exact .nil)
 have hsz:es'.size<=1:=by
   have h1:=length_le_of_nodup_of_subset _ [name] (names_nodup hk' hu') fun y hy=>by
     obtain ⟨b,hb,rfl⟩:=List.mem_map.mp hy
     have hnb:=name_bound hk' (m:=nsFind es') (fun _=>rfl) (Array.mem_toList_iff.mp hb)
     rw [hf] at hnb
     by_cases q:b.name=name
     . rw [q];exact .head _
     . rw [if_neg q] at hnb;exact absurd (by rfl) hnb
   rwa [List.length_map,Array.length_toList] at h1
 refine wpAny_bind (wpAny_lookBehind (s:={ s with heap:=h',toks:=s.toks + 1 + 1 }) e' (pastItsLine_dict (by rw [sizeLine_eq];exact lE hsz)) ?_)
 refine wpAny_pure ?_
 refine hq h' s.heap.objs.size ((hsb.2 e hxs).trans hge) fun b o hb hq=>?_
 exact (hsb.2 b (Nat.ne_of_lt (Heap.lt_size hq))).trans ((Heap.get?_update_ne _ _ _ _ hb).trans (Heap.get?_push_of_some _ hq))
end
section
variable {G:GC} {K:Frag} {mg mb:Str->Option Value} {A:Around} {E:VS} {s:Shared}
variable {nm q:Str} {C N e:Addr} {bs bm:List Value} {hdct:Bool} {sn:List Str} {sub:List Value} {ab:Bool} {col:Option Bool} {dd:Option Addr} {k0 k1 k2 k3 k5:Option Value} {newId initId:String} {bmB:List Value} {B:String}
theorem xc_init (W:Wd G K mg mb) (F:ExcBaseFacts B newId initId bmB) (hB:bm.contains (.type B)=true) {fI:Addr} {fo:Obj} {fd:FuncData} {body:List Stmt} {xs:List Str} {v:Value} {t0:Addr} {cd:ClassData} {p1 p2 p3 p4 p5 p6 p7 p8 p9 p10:Pos}
   (hst:G.hB.StaysIn s.heap) (hdep:A.depth + 1 < recursionLimit)
   (hKC:K.lookup C=some (excClassObj nm q C N bs bm hdct sn sub ab col dd k0 k1 k2 k3 k5 newId))
   (ho:K.lookup fI=some fo) (hdat:fo.data=.func fd) (hbody:fd.body=.stmts [.Expr (.Call (.Attribute (.Name "ValueError" p1) "__init__" p2) [.Name "self" p3,.Name "reason" p4] [] p5) p6,.Assign [.Attribute (.Name "self" p7) "reason" p8] (.Name "reason" p9) p10])
   (hcd:codeIn K fd.code fd.qualname=true) (hbind:∀ s:Shared,K.In s.heap->BindsTo s fd ⟨[.ref e,v],[]⟩ [("self",.ref e),("reason",v)])
   (hcell:∀ x ∈ fd.scope.names,x.2 ≠ .cell) (hl1:fd.scope.names.lookup ("self":Str)=some .local) (hl2:fd.scope.names.lookup ("reason":Str)=some .local) (hl3:fd.scope.names.lookup ("ValueError":Str)=some .globalImplicit) (hgl:fd.globals=mainGlobals) (hbl:fd.builtins=builtinsNs)
   (hco:fd.scope.isCoroutine=false) (hgen:fd.scope.isGenerator=false) (hk:fd.scope.kind=.function)
   (hd1:("ValueError" == ("__debug__":Str))=false) (hd2:("self" == ("__debug__":Str))=false) (hd3:("reason" == ("__debug__":Str))=false)
   (hmx:nsIn K mainGlobals ("ValueError":Str)=some none) (hbx:bootBuiltins "ValueError"=some (.type B)) (hnx:"ValueError" ≠ "__name__")
   (htB:typeOf (.type B)=pure (.type "type")) (hsB:Manifest.isStub B=false) (hfB:findCls K (.type B) (.type "type") "__init__"=some (.val (.builtin initId))) (hhB:handedIn (.builtin initId)=true)
   (hs:findIn K (.ref C) "__setattr__"=some (some (.builtin "object.__setattr__"))) (hc:clsIn K C=some cd) (hhd:cd.hasDict=true) (hobj:cd.mro.contains (.type "object")=true) (hr:∀ self:Value,refuseLoop self "__setattr__" cd.mro=pure ()) (ht:takerIn K C "reason"=some none)
   (hev:∀ L,eval (.Call (.Attribute (.Name "ValueError" p1) "__init__" p2) [.Name "self" p3,.Name "reason" p4] [] p5) (callEnv fd L fI)=(do
     let ov <- eval (.Name "ValueError" p1) (callEnv fd L fI)
     standAt p2.atName
     let (f,first) <- holding [ov] (getMethod ov "__init__" (do return (<- importBound (.Name "ValueError" p1) (callEnv fd L fI)).getD true))
     callWith p5 f first (backTo p5 (starEach [.Name "self" p3,.Name "reason" p4] (callEnv fd L fI))) []))
   (heB:G.hB.get? e=none) (he:s.heap.get? e=some (xcObj C t0)) {Q:VS}
   (hq:∀ h' dx t1 tk,h'.get? e=some { cls:=.ref C,dict:=some dx,data:=.fields #[.ref t1,.none,.none,.none,.bool false,.none] }->(∀ b o,b ≠ e->s.heap.get? b=some o->h'.get? b=some o)->Q .none { s with heap:=h',toks:=tk }) :
   wpAny (model G.prog G.w) A (call (.ref fI) [.ref e,v]) Q E s:=by
 have X:=W.inn.keeps hst
 refine wpAny_call (codeAny_call_def (Nat.lt_of_succ_lt_succ (lt_up hdep)) (X _ _ ho) hdat (W.lim.keeps hst) (codeRec_of X hcd) hbody (hbind s X) hcell (fun x hx=>by
   simp at hx;rcases hx with rfl | rfl;exact hl1;exact hl2) (fun h0 hns hk0=>?_) hco hgen hk)
 let L:=s.heap.objs.size
 let env:Env:=callEnv fd L fI
 have hkind:env.scope.kind=.function:=hk
 have h1:env.kindOf "self"=some .local:=hl1
 have h2:env.kindOf "reason"=some .local:=hl2
 have h3:env.kindOf "ValueError"=some .globalImplicit:=hl3
 have m1:([("self",Value.ref e),("reason",v)]:List (Str × Value)).reverse.lookup ("self":Str)=some (.ref e):=by
   rfl
 have m2:([("self",Value.ref e),("reason",v)]:List (Str × Value)).reverse.lookup ("reason":Str)=some v:=by rfl
 have eL:e ≠ L:=Nat.ne_of_lt (Heap.lt_size he)
 have he0:=hk0 _ _ he
 have X0:=X.keeps hk0
 have hst0:G.hB.StaysIn h0:=fun b o q=>hk0 b o (hst b o q)
 refine wpAny_execs_cons (wpAny_Expr ?_ (by show (env.scope.kind == .module && _)=false;rw [hkind];rfl) rfl)
 refine MethodCall_ (o:=.Name "ValueError" p1) (name:="__init__") (pl:=do return (<- importBound (.Name "ValueError" p1) env).getD true) (wpAny_Name ?_ hd1) (hev L)
 have ns:h0.Ns env.globals mg:=by show h0.Ns fd.globals mg;rw [hgl];exact W.glob.keeps hst0
 have nb:h0.Ns env.builtins mb:=by show h0.Ns fd.builtins mb;rw [hbl];exact W.blt.keeps hst0
 show wpAny _ _ (loadName env ("ValueError":Str)) _ _ { s with heap:=h0,toks:=_ }
 rw [loadName_read hkind h3]
 unfold loadGlobal
 refine wpAny_bind (wpAny_nsGet ns ?_)
 rw [mg_none_of W.inn W.glob hmx]
 refine wpAny_bind (wpAny_nsGet nb ?_)
 rw [W.boot "ValueError" hnx,hbx]
 refine wpAny_pure ?_
 have hstub:opaqueClassAbove (.type B)=pure none:=by unfold opaqueClassAbove;dsimp only;rw [hsB];rfl
 have L0:Looks (model G.prog G.w) h0 (typeOf (.type B)) (.type "type"):=Looks.of_pure htB
 have hg:findIn K (.type "type") "__getattribute__"=some (some (.builtin "type.__getattribute__")):=type_tga
 unfold getMethod specialOf
 refine wpAny_bind (wpAny_bind (L0.here ((looks_findIn X0 hg).here ?_)))
 dsimp only
 refine wpA_pos canon_tga ?_
 refine wpAny_bind ?_
 refine cls_open X0 (Looks.of_pure hstub) L0 hg (looks_hook X0 (r:=none) (by rfl)) (by show subIn K _ _=_;rfl) hfB (wpAny_pure ?_)
 show wpAny _ _ (handedOut _) _ _ _
 rw [handedOut_of hhB]
 refine wpAny_pure (wpAny_pure ?_)
 dsimp only
 refine callWith_method1 (env:=env) (first:=[]) (rest:=[.Name "reason" p4]) (e:=.Name "self" p3) ?_ (by rfl) (by rfl)
 refine args_cons (wpAny_Name (wpAny_loadName_local hkind h1 hns m1 ?_) hd2) (by rfl)
 refine args_cons (wpAny_Name (wpAny_loadName_local hkind h2 hns m2 (args_nil ?_)) hd3) (by rfl)
 refine xc_vinit (s:={ s with heap:=h0,toks:=_ }) F hB (X0 _ _ hKC) he0 ?_
 dsimp only
 let H1:=(h0.push (tupObj [v])).update e (Obj.mapFields (·.setIfInBounds 0 (.ref h0.objs.size)))
 have he1:H1.get? e=some (xcObj C h0.objs.size):=Heap.get?_update_self _ (Heap.get?_push_of_some _ he0) rfl
 have k1:∀ b o,b ≠ e->h0.get? b=some o->H1.get? b=some o:=fun b o hb q=>(Heap.get?_update_other _ _ hb.symm).trans (Heap.get?_push_of_some _ q)
 have eK:∀ b o,K.lookup b=some o->b ≠ e:=fun b o q z=>by
   have:=W.inn b o q
   rw [z,heB] at this
   cases this
 have X1:K.In H1:=fun b o q=>k1 b o (eK b o q) (X0 b o q)
 obtain ⟨oL,es,ep,hLo,hLr⟩:=hns
 have ns1:H1.Ns L _:=⟨oL,es,ep,k1 L _ eL.symm hLo,hLr⟩
 refine wpAny_execs_cons (plainObj_wpAny_Assign_Attribute (wpAny_Name (wpAny_loadName_local (s:={ s with heap:=H1,toks:=_ }) hkind h2 ns1 m2 (wpAny_Name (wpAny_loadName_local (s:={ s with heap:=H1,toks:=_ }) hkind h1 ns1 m1 ?_) hd2)) hd3) (by rfl))
 refine xc_store (s:={ s with heap:=H1,toks:=_ }) X1 he1 hs hc hhd hobj hr ht fun h' dx he' k2=>?_
 refine wpAny_execs_nil ?_
 exact hq h' dx h0.objs.size _ he' fun b o hb q=>k2 b o hb (k1 b o hb (hk0 b o q))
end
end Mn
namespace Mn
set_option backward.match.sparseCases false
variable {G:GC} {n:Nat} {F:FC} {K:Frag}
noncomputable def vAt {V:Type} (es:List (Int × V)) (k:Int):Option V:=(es.find? fun kv=>decide (kv.1=k)).map (·.2)
noncomputable def vPut {V:Type} (es:List (Int × V)) (k:Int) (v:V):List (Int × V) :=
 if es.any (fun kv=>decide (kv.1=k)) then es.map (fun kv=>if kv.1=k then (kv.1,v) else kv) else es ++ [(k,v)]
section
variable {hB h:Heap} {O:Own}
theorem DR.length {es:List (Int × Value)} {ms:List (Int × MV)} (x:DR hB O h es ms):es.length=ms.length:=by
 induction x with
 | nil=>rfl
 | cons _ _ ih=>exact congrArg Nat.succ ih
theorem DR.at {es:List (Int × Value)} {ms:List (Int × MV)} (x:DR hB O h es ms) (k:Int):VOpt hB O h (valueAt es k) (vAt ms k):=by
 induction x with
 | nil=>trivial
 | @cons k' _ _ _ _ x _ ih =>
   unfold valueAt vAt
   rw [List.find?_cons,List.find?_cons]
   by_cases q:k'=k
   . simp only [q,decide_true];exact x
   . simp only [q,decide_false];exact ih
theorem DR.any {es:List (Int × Value)} {ms:List (Int × MV)} (x:DR hB O h es ms) (k:Int):es.any (fun kv=>decide (kv.1=k))=ms.any (fun kv=>decide (kv.1=k)):=by
 induction x with
 | nil=>rfl
 | cons _ _ ih=>rw [List.any_cons,List.any_cons,ih]
theorem DR.map {es:List (Int × Value)} {ms:List (Int × MV)} (x:DR hB O h es ms) (k:Int) {v:Value} {m:MV} (y:VE hB O h v m) :
   DR hB O h (es.map fun kv=>if kv.1=k then (kv.1,v) else kv) (ms.map fun kv=>if kv.1=k then (kv.1,m) else kv):=by
 induction x with
 | nil=>exact .nil
 | @cons k' _ _ _ _ x _ ih =>
   rw [List.map_cons,List.map_cons]
   by_cases q:k'=k
   . rw [if_pos q,if_pos q];exact .cons y ih
   . rw [if_neg q,if_neg q];exact .cons x ih
theorem DR.append {es es':List (Int × Value)} {ms ms':List (Int × MV)} (x:DR hB O h es ms) (y:DR hB O h es' ms'):DR hB O h (es ++ es') (ms ++ ms'):=by
 induction x with
 | nil=>exact y
 | cons x _ ih=>exact .cons x ih
theorem DR.put {es:List (Int × Value)} {ms:List (Int × MV)} (x:DR hB O h es ms) (k:Int) {v:Value} {m:MV} (y:VE hB O h v m):DR hB O h (stored es k v) (vPut ms k m):=by
 unfold stored vPut
 rw [x.any k]
 split
 . exact x.map k y
 . exact x.append (.cons y .nil)
end
theorem VR.zero {hB h:Heap} {O:Own} {vs:List Value} (x:VR hB O h vs []):vs=[]:=List.eq_nil_of_length_eq_zero x.length
theorem VR.one {hB h:Heap} {O:Own} {vs:List Value} {m:MV} (x:VR hB O h vs [m]):∃ v,vs=[v]/\VE hB O h v m:=by
 obtain ⟨v,w,rfl,a,r⟩:=x.uncons;cases r.zero;exact⟨v,rfl,a⟩
theorem VR.two {hB h:Heap} {O:Own} {vs:List Value} {m m':MV} (x:VR hB O h vs [m,m']):∃ v v',vs=[v,v']/\VE hB O h v m/\VE hB O h v' m':=by
 obtain ⟨v,w,rfl,a,r⟩:=x.uncons;obtain ⟨v',rfl,b⟩:=r.one;exact⟨_,_,rfl,a,b⟩
theorem VR.three {hB h:Heap} {O:Own} {vs:List Value} {m m' m'':MV} (x:VR hB O h vs [m,m',m'']):∃ v v' v'',vs=[v,v',v'']/\VE hB O h v m/\VE hB O h v' m'/\VE hB O h v'' m'':=by
 obtain ⟨v,w,rfl,a,r⟩:=x.uncons;obtain ⟨v',v'',rfl,b,c⟩:=r.two;exact⟨_,_,_,rfl,a,b,c⟩
theorem setItem_list_obj {prog:Program} {w:World} {A:Around} {E:VS} {s:Shared} {l:Addr} {us:Array Value} {j:Nat} {k:Int} {t:Tok} {v:Value} {Q:Unit->Shared->Prop} (ho:s.heap.get? l=some { cls:=.type "list",data:=.seq us j })
   (h0:0<=k) (hfit:k < 2 ^ 63) (hn:k < us.size)
   (hQ:∀ h' j',h'.get? l=some { cls:=.type "list",data:=.seq (us.setIfInBounds k.toNat v) j' }->Heap.SameBut l s.heap h'->Q () { s with heap:=h' }) :
   wpAny (model prog w) A (setItem (.ref l) (.int k t) v) Q E s:=by
 have hl:s.heap.IsList l us:=⟨_,ho,rfl,j,rfl⟩
 unfold setItem
 try with_reducible refine wpAny_holding ?_
 first | refine wpAny_bind (wpAny_pure ?_) | skip
 refine wpAny_bind (wpAny_sequenceKey hl.typeIs dC ?_)
 refine wpAny_bind (wpAny_callSpecial?_slot (name:=Str.ofString "__setitem__") hl.typeIs slot_list_setitem
   (wpAny_call_entry slot_list_setitem hl.typeIs entry_list_setitem ?_ (args_list_setitem _ _ _)))
 refine (?_:wpAny _ _ (Builtin.List.listSubscript? (.int k t) >>= _) _ _ s)
 refine wpAny_bind (wpAny_listSubscript_int (fitsIndex_of h0 hfit) ?_)
 clear hfit
 obtain ⟨i,rfl⟩:=Int.eq_ofNat_of_zero_le h0
 have hj:i < us.size:=of_cast_lt hn
 have hx':us[i]?=some us[i]:=Array.getElem?_eq_getElem hj
 refine (?_:wpAny _ _ ((seqItemAt l i >>= fun r=>pure (r.map (i,·))) >>= _) _ _ s)
 refine wpAny_bind (wpAny_bind (wpAny_seqItemAt ho rfl (wpAny_pure ?_)))
 rw [hx']
 refine (?_:wpAny _ _ (setSeqItemAt l i v >>= _) _ _ s)
 have hfin:=Heap.get?_update_self (Obj.mapSeq (·.setIfInBounds i v)) ho rfl
 refine wpAny_bind (wpAny_setSeqItemAt ho rfl ?_)
 exact wpAny_pure ⟨.none,rfl,wpAny_pure (hQ _ _ hfin (Heap.SameBut.update ..))⟩
theorem not_sys (hsys:G.hB.get? sysModules ≠ none) {O:Own} {h:Heap} (H:HRel G O h) {a:Addr} {mo:MObj} (e:O a=some mo):(a == sysModules)=false:=by
 rw [beq_eq_false_iff_ne]
 rintro rfl
 exact hsys (H.own _ _ e).1
noncomputable def IsT (G:GC) (P:PV) (T:String):Prop:=∀ (O:Own) (h:Heap) (v:Value) (m:MV),HRel G O h->VE G.hB O h v m->P m O->∃ a o,v=.ref a/\h.get? a=some o/\o.cls=.type T/\o.dict=none
noncomputable def isL (m:MV) (O:Own):Prop:=∃ a xs,m=.ref a/\O a=some (.list xs)
noncomputable def isD (m:MV) (O:Own):Prop:=∃ a xs,m=.ref a/\O a=some (.dict xs)
noncomputable def isB (m:MV) (O:Own):Prop:=∃ a xs,m=.ref a/\O a=some (.barr xs)
theorem isL_T:IsT G isL "list":=by
 rintro O h v m H r ⟨a,xs,rfl,e⟩
 cases r.r
 obtain ⟨vs,k,q,_⟩:=(H.own _ _ e).2
 exact⟨a,_,rfl,q,rfl,rfl⟩
theorem isD_T:IsT G isD "dict":=by
 rintro O h v m H r ⟨a,xs,rfl,e⟩
 cases r.r
 obtain ⟨kvs,⟨o,es,ep,q,⟨h1,h2,_⟩,_⟩,_⟩:=(H.own _ _ e).2
 exact⟨a,_,rfl,q,h1,h2⟩
theorem isB_T:IsT G isB "bytearray":=by
 rintro O h v m H r ⟨a,xs,rfl,e⟩
 cases r.r
 obtain ⟨bs,q,_⟩:=(H.own _ _ e).2
 exact⟨a,_,rfl,q,rfl,rfl⟩
noncomputable def mM (P:PV) (f:ET) (g:LT) (c:CT):ET:=fun J O Q E=>f J O (fun v O1=>P v O1/\g J O1 (fun ms O'=>c (v :: ms) O' Q E) E) E
theorem sBMet {o:Expr} {name:Str} {apos pos:Pos} {es:List Expr} {T id:String} {P:PV} {f:ET} {g:LT} {c:CT} (hT:IsT G P T) (pa:PlainAttrs T) (slot:Slot T name id) (hty:typeOf (.builtin id)=pure (.type "method_descriptor"))
   (hf:SI G n F (eval o F.env) f) (hg:SimL G n F (argsOf es F.env pos) g) (hc:SimC G n F (.builtin id) c)
   (he:eval (.Call (.Attribute o name apos) es [] pos) F.env=(do
     let ov <- eval o F.env
     standAt apos.atName
     let (f,first) <- holding [ov] (getMethod ov name (do return (<- importBound o F.env).getD true))
     callWith pos f first (backTo pos (starEach es F.env)) (backToKw pos (keywordEach [] F.env))):=by with_unfolding_all rfl) (hp:(backTo pos (starEach es F.env)).any (·.1)=false:=by rfl) :
   SI G n F (eval (.Call (.Attribute o name apos) es [] pos) F.env) (mM P f g c):=by
 intro A R J O s Qm Em Q E a h K' KE
 rw [he]
 refine wP (hf A R J O s _ Em _ E a h (fun v m O1 s1 a1 S1 r1 h1=>?_) KE)
 obtain ⟨hP,h1⟩:=h1
 obtain ⟨b,ob,rfl,e,hcl,hd⟩:=hT O1 s1.heap v m a1.rel r1 hP
 refine wP (wS (wP (wH ?_)))
 refine lift <| getMethod_builtin ⟨ob,e,hcl⟩ pa slot hty (fun c q=>by cases q;exact⟨ob,e,hd⟩) ?_
 exact callWith_sim kP hg hp R a1 (.cons r1 .nil) hc h1 (fun v m O' s' a' S'=>K' v m O' s' a' (S1.trans S')) (fun k O' e s' x=>KE k O' e s' (x.after S1))
noncomputable def cA:CT:=fun ms O Q E=>∃ l xs v,ms=[.ref l,v]/\O l=some (.list xs)/\yL xs.length/\Q .none (upd O l (.list (xs ++ [v])))
theorem aP:SimC G n F (.builtin "list.append") cA:=by
 intro A R J O s vs ms Qm Em Q E a hv h K KE
 obtain ⟨l,xs,v,rfl,hl,hy,h⟩:=h
 obtain ⟨v1,v2,rfl,h1,h2⟩:=hv.two
 cases h1.r
 exact lift <| append_ok a hl h2 hy fun s' a' S'=>K .none .none _ s' a' S' .none h
noncomputable def cExtend:CT:=fun ms O Q E=>∃ l r xs ys,ms=[.ref l,.ref r]/\O l=some (.list xs)/\O r=some (.list ys)/\yL (xs.length + ys.length)/\Q .none (upd O l (.list (xs ++ ys)))
theorem extend_sim:SimC G n F (.builtin "list.extend") cExtend:=by
 intro A R J O s vs ms Qm Em Q E a hv h K KE
 obtain ⟨l,r,xs,ys,rfl,hl,hr,hy,h⟩:=h
 obtain ⟨v1,v2,rfl,h1,h2⟩:=hv.two
 cases h1.r;cases h2.r
 obtain ⟨us,k,hus,rx⟩:=(a.rel.own _ _ hl).2
 obtain ⟨ws,j,hws,ry⟩:=(a.rel.own _ _ hr).2
 have e1:=rx.length
 have e2:=ry.length
 unfold yL at hy
 have hsz:¬(!us.toArray.isEmpty && Builtin.List.listTooLong (us.toArray.size + ws.toArray.size))=true:=by
   simp only [Builtin.List.listTooLong,List.size_toArray,sizeLine_eq,Bool.and_eq_true,decide_eq_true_eq]
   lia
 have hu:∀ b o,b ≠ l->s.heap.get? b=some o->(s.heap.update l (Obj.mapSeq fun x=>x ++ ws.toArray)).get? b=some o:=fun b o hb e=>(Heap.get?_update_other _ _ (Ne.symm hb)).trans e
 obtain ⟨k',hnew⟩:∃ k',(s.heap.update l (Obj.mapSeq fun x=>x ++ ws.toArray)).get? l=some { cls:=.type "list",data:=.seq (us ++ ws).toArray k' }:=by
   have:=Heap.get?_update_self (Obj.mapSeq fun x=>x ++ ws.toArray) hus rfl
   rw [show (us ++ ws).toArray=us.toArray ++ ws.toArray by simp]
   exact⟨_,this⟩
 refine lift <| call_meets PySem.F.slot_list_extend ⟨_,hus,rfl⟩ PySem.F.entry_list_extend (PySem.F.args_list_extend_2 _ _) (PySem.AutoSeq1.list_extend_list_list_0 l us.toArray k r ws.toArray j hsz (by rw [List.size_toArray,sizeLine_eq];lia) (by rw [List.size_toArray,List.size_toArray,sizeLine_eq];lia)) ⟨hus,hws,?_⟩
 exact K .none .none _ _ (a.set hl (tk:=s.toks) hu (mo':=.list (xs ++ ys)) ⟨us ++ ws,_,hnew,(rx.append ry).mono (kd_set hl hu)⟩) (Step.set hl hu ⟨_,hnew⟩) .none h
noncomputable def cCount:CT:=fun ms O Q E=>∃ (l:Addr) (xs:List Int) (k:Int),ms=[.ref l,.int k]/\O l=some (.list (xs.map .int))/\Q (.int ((xs.count k:Nat):Int)) O
theorem iN {hB h:Heap} {O:Own} {vs:List Value} {xs:List Int} (x:VR hB O h vs (xs.map .int)):IntsAre vs xs :=
 VR.ind (P:=fun vs ms=>∀ xs:List Int,ms=xs.map .int->IntsAre vs xs) (fun xs e=>by cases xs with | nil=>exact .nil | cons=>exact List.noConfusion rfl (heq_of_eq e)) (fun {v m _ _} a _ ih xs e=>by
   cases xs with
   | nil=>exact List.noConfusion rfl (heq_of_eq e)
   | cons i r =>
     have e1:m=.int i:=(List.cons.inj e).1
     rw [e1] at a
     obtain ⟨t,rfl⟩:=a.i
     exact .cons i t (ih r (List.cons.inj e).2)) x xs rfl
noncomputable def isI (k:Int):Value->Bool | .int i _=>i == k | _=>false
theorem countP_ints {k:Int} {vs:List Value} {xs:List Int} (x:IntsAre vs xs):vs.countP (isI k)=xs.count k:=by
 induction x with
 | nil=>rfl
 | cons n t r ih=>rw [List.countP_cons,List.count_cons,ih];rfl
theorem mem_ints {vs:List Value} {xs:List Int} (x:IntsAre vs xs) (y:Value) (h:y ∈ vs):∃ i t,y=.int i t:=by
 induction x with
 | nil=>cases h
 | cons n t r ih =>
   rcases List.mem_cons.mp h with rfl | h
   . exact⟨_,_,rfl⟩
   . exact ih h
theorem count_sim:SimC G n F (.builtin "list.count") cCount:=by
 intro A R J O s vs ms Qm Em Q E a hv h K KE
 obtain ⟨l,xs,k,rfl,hl,h⟩:=h
 obtain ⟨v1,v2,rfl,h1,h2⟩:=hv.two
 cases h1.r;obtain ⟨_,rfl⟩:=h2.i
 rename_i t
 obtain ⟨us,j,hus,rx⟩:=(a.rel.own _ _ hl).2
 have ri:=iN rx
 refine lift <| call_meets PySem.F.slot_list_count ⟨_,hus,rfl⟩ PySem.F.entry_list_count (PySem.F.args_list_count_2 _ _) (PySem.SeqAt.list_countAt l us.toArray j none #[] (.int k t) (isI k)) ⟨hus,fun y hy=>?_,?_⟩
 . obtain ⟨i,u,rfl⟩:=mem_ints ri y (by simpa using hy)
   exact PySem.SeqAt.EqAt.int_int i u k t
 . refine (?_:Q (.int ((us.toArray.toList.countP (isI k):Nat):Int) s.toks) _)
   rw [show us.toArray.toList=us from rfl,countP_ints ri]
   exact K1.tok K a (.int ..) h
noncomputable def cGet:CT:=fun ms O Q E=>∃ d es k v,ms=[.ref d,.int k,v]/\O d=some (.dict es)/\Q ((vAt es k).getD v) O
theorem get_sim (hsys:G.hB.get? sysModules ≠ none):SimC G n F (.builtin "dict.get") cGet:=by
 intro A R J O s vs ms Qm Em Q E a hv h K KE
 obtain ⟨d,es,k,v,rfl,hd,h⟩:=h
 obtain ⟨v1,v2,v3,rfl,h1,h2,h3⟩:=hv.three
 cases h1.r;obtain ⟨_,rfl⟩:=h2.i
 rename_i t
 obtain ⟨kvs,hm,rx⟩:=(a.rel.own _ _ hd).2
 have hx:=rx.at k
 refine lift <| wpAny_call (codeAny_call_builtin PySem.F.slot_dict_get.plain PySem.F.entry_dict_get (PySem.F.slot_dict_get.check _ _ _ _ _ _ _ _ hm.typeIs (PySem.F.args_dict_get_3 _ _ _) ((meets_dict_get_default (intKind G.prog G.w) (k:=k) d (intKind_is _ _ _ _) (not_sys hsys a.rel hd) _) _ (wants Q E) s ⟨_,hm.mapOf,?_⟩)))
 refine (?_:Q ((valueAt kvs k).getD _) _)
 cases q:valueAt kvs k with
 | none =>
   rw [q] at hx
   cases q':vAt es k with
   | none=>rw [q'] at h;exact K1.tok K a h3 h
   | some m=>rw [q'] at hx;exact hx.elim
 | some u =>
   rw [q] at hx
   cases q':vAt es k with
   | none=>rw [q'] at hx;exact hx.elim
   | some m=>rw [q'] at h hx;exact K1.tok K a hx h
noncomputable def putR (l:Addr) (k:Int) (v:MV) (O:Own) (Q:Own->Prop):Prop:=(∃ xs,O l=some (.list xs)/\0<=k/\k < xs.length/\yL xs.length/\Q (upd O l (.list (xs.set k.toNat v)))) \/ (∃ es,O l=some (.dict es)/\yL es.length/\Q (upd O l (.dict (vPut es k v))))
noncomputable def putM (o i v:MV) (O:Own) (Q:Own->Prop):Prop:=match o,i with
 | .ref l,.int k=>putR l k v O Q
 | _,_=>False
theorem putM_inv {o i v:MV} {O:Own} {Q:Own->Prop} (h:putM o i v O Q):∃ l k,o=.ref l/\i=.int k/\putR l k v O Q:=by
 cases o with
 | ref l=>cases i with
   | int k=>exact⟨l,k,rfl,rfl,h⟩
   | _=>exact h.elim
 | _=>exact h.elim
noncomputable def aIdx (f g:ET):AT:=fun m J O Q=>f J O (fun o O1=>g J O1 (fun i O2=>putM o i m O2 fun O3=>Q J O3) (fun _ _=>False)) (fun _ _=>False)
theorem put_ok {A:Around} {J:Loc} {O:Own} {s:Shared} {vo vi v:Value} {o i m:MV} {Q:Unit->Shared->Prop} {E:VS} {Qm:Own->Prop} (a:At G F J O s) (ro:VE G.hB O s.heap vo o) (ri:VE G.hB O s.heap vi i) (rv:VE G.hB O s.heap v m) (h:putM o i m O Qm)
   (K:∀ O' s',At G F J O' s'->Step none O O' s s'->Qm O'->Q () s'):wpAny (model G.prog G.w) A (setItem vo vi v) Q E s:=by
 obtain ⟨l,k,rfl,rfl,h⟩:=putM_inv h
 . cases ro.r;obtain ⟨t,rfl⟩:=ri.i
   rcases h with ⟨xs,hl,h0,h1,hy,h⟩ | ⟨es,hd,hy,h⟩
   . obtain ⟨us,j,hus,rx⟩:=(a.rel.own _ _ hl).2
     have hlen:=rx.length
     unfold yL at hy
     have hL:s.heap.IsList l us.toArray:=⟨_,hus,rfl,j,rfl⟩
     refine setItem_list_obj hus h0 (Int.lt_of_lt_of_le h1 (cast_up hy)) (by rw [List.size_toArray];lia) fun h' j' e hs=>?_
     have hu:∀ b o,b ≠ l->s.heap.get? b=some o->h'.get? b=some o:=fun b o hb e=>(hs.2 b hb).trans e
     have e':h'.get? l=some { cls:=.type "list",data:=.seq (us.set k.toNat v).toArray j' }:=by rw [e];simp
     exact K _ _ (a.set hl (tk:=s.toks) hu (mo':=.list (xs.set k.toNat m)) ⟨_,_,e',(rx.set _ rv).mono (kd_set hl hu)⟩) (Step.set hl hu ⟨_,e'⟩) h
   . obtain ⟨kvs,hm,rx⟩:=(a.rel.own _ _ hd).2
     have hlen:=rx.length
     unfold yL at hy
     refine wpAny_setItem_pairs (knd:=intKind G.prog G.w) (k:=k) (intKind_is _ _ _ _) hm (fun h' hm' hs=>?_) (by rw [sizeLine_eq];lia)
     have hu:∀ b o,b ≠ l->s.heap.get? b=some o->h'.get? b=some o:=fun b o hb e=>(hs.2 b hb).trans e
     exact K _ _ (a.set hd (tk:=s.toks + 1) hu (mo':=.dict (vPut es k m)) ⟨_,hm',(rx.put k rv).mono (kd_set hd hu)⟩) (Step.set hd hu (Exists.imp (fun o x=>x.elim fun _ x=>x.elim fun _ x=>x.1) hm')) h
theorem stIdx {o i:Expr} {pos:Pos} {f g:ET} (hf:SI G n F (eval o F.env) f) (hg:SI G n F (eval i F.env) g):SimA G n F (assign (.Subscript o i pos) F.env) (aIdx f g):=by
 intro A R J O s v m Qm Q E a hv h K'
 rw [assign_Subscript]
 refine wP (wH (hf A R J O s _ _ _ E a h (fun vo mo O1 s1 a1 S1 r1 h1=>?_) fun _ _ _ _ _ z=>z.elim))
 refine wP (wH (hg A R J O1 s1 _ _ _ E a1 h1 (fun vi mi O2 s2 a2 S2 r2 h2=>?_) fun _ _ _ _ _ z=>z.elim))
 refine wP (wS (wP (wH ?_)))
 have S12:=S1.trans S2
 refine lift <| put_ok a2 (r1.mono (a1.kd (.inl rfl) S2)) r2 (hv.mono (a.kd (.inl rfl) S12)) h2 fun O' s' a' S' q'=>?_
 exact wpC_release (K' _ _ _ a' (S12.trans S').weak q')
set_option backward.match.sparseCases true
end Mn
namespace Mn
namespace BA
theorem plainAttrs:PlainAttrs "bytearray" :=
 ⟨⟨"bytearray.__getattribute__",by rw [typeLookup_type,builtinLookup_eq_fast];kernel_rfl,by decide +kernel⟩,by rw [typeLookup_type,builtinLookup_eq_fast];kernel_rfl⟩
theorem owner:Manifest.owners.lookup (String.ofList ['y','a','r','r','a','e','t','y','b'].reverse)=some Manifest.sig_bytearray:=by kernel_rfl
theorem slot_len:Slot "bytearray" "__len__" "bytearray.__len__" :=
 .of (owner:="bytearray") (n:="__len__") (by rw [typeLookup_type,builtinLookup_eq_fast];kernel_rfl) (by decide +kernel) (by decide +kernel) (by decide +kernel)
   (by first | exact .inl (by decide +kernel) | exact .inr (by decide +kernel)) (by rw [isSubtype_type];kernel_rfl)
theorem entry_len:entryFor table "bytearray.__len__"=some Builtin.«bytearray.__len__»:=entryFor_of_tree (by kernel_rfl)
theorem args_len (a:Value):argsOk "bytearray.__len__" ⟨[a],[]⟩:=by
 unfold argsOk;rw [signature?_of (id:="bytearray.__len__") (n:=['_','_','n','e','l','_','_']) (o:=['y','a','r','r','a','e','t','y','b']) (by kernel_rfl) owner];kernel_rfl
theorem slot_getitem:Slot "bytearray" "__getitem__" "bytearray.__getitem__" :=
 .of (owner:="bytearray") (n:="__getitem__") (by rw [typeLookup_type,builtinLookup_eq_fast];kernel_rfl) (by decide +kernel) (by decide +kernel) (by decide +kernel)
   (by first | exact .inl (by decide +kernel) | exact .inr (by decide +kernel)) (by rw [isSubtype_type];kernel_rfl)
theorem entry_getitem:entryFor table "bytearray.__getitem__"=some Builtin.«bytearray.__getitem__»:=entryFor_of_tree (by kernel_rfl)
theorem args_getitem (a b:Value):argsOk "bytearray.__getitem__" ⟨[a,b],[]⟩:=by
 unfold argsOk;rw [signature?_of (id:="bytearray.__getitem__") (n:=['_','_','m','e','t','i','t','e','g','_','_']) (o:=['y','a','r','r','a','e','t','y','b']) (by kernel_rfl) owner];kernel_rfl
theorem slot_append:Slot "bytearray" "append" "bytearray.append" :=
 .of (owner:="bytearray") (n:="append") (by rw [typeLookup_type,builtinLookup_eq_fast];kernel_rfl) (by decide +kernel) (by decide +kernel) (by decide +kernel)
   (by first | exact .inl (by decide +kernel) | exact .inr (by decide +kernel)) (by rw [isSubtype_type];kernel_rfl)
theorem type_append:typeOf (.builtin "bytearray.append")=pure (.type "method_descriptor"):=by show builtinType _=_;rw [builtinType_eq_fast];kernel_rfl
theorem entry_append:entryFor table "bytearray.append"=some Builtin.«bytearray.append»:=entryFor_of_tree (by kernel_rfl)
theorem args_append (a b:Value):argsOk "bytearray.append" ⟨[a,b],[]⟩:=by
 unfold argsOk;rw [signature?_of (id:="bytearray.append") (n:=['d','n','e','p','p','a']) (o:=['y','a','r','r','a','e','t','y','b']) (by kernel_rfl) owner];kernel_rfl
theorem slot_init:Slot "bytearray" "__init__" "bytearray.__init__" :=
 .of (owner:="bytearray") (n:="__init__") (by rw [typeLookup_type,builtinLookup_eq_fast];kernel_rfl) (by decide +kernel) (by decide +kernel) (by decide +kernel)
   (by first | exact .inl (by decide +kernel) | exact .inr (by decide +kernel)) (by rw [isSubtype_type];kernel_rfl)
theorem entry_init:entryFor table "bytearray.__init__"=some Builtin.«bytearray.__init__»:=entryFor_of_tree (by kernel_rfl)
theorem args_init_1 (a:Value):argsOk "bytearray.__init__" ⟨[a],[]⟩:=by
 unfold argsOk;rw [signature?_of (id:="bytearray.__init__") (n:=['_','_','t','i','n','i','_','_']) (o:=['y','a','r','r','a','e','t','y','b']) (by kernel_rfl) owner];kernel_rfl
theorem args_init_2 (a b:Value):argsOk "bytearray.__init__" ⟨[a,b],[]⟩:=by
 unfold argsOk;rw [signature?_of (id:="bytearray.__init__") (n:=['_','_','t','i','n','i','_','_']) (o:=['y','a','r','r','a','e','t','y','b']) (by kernel_rfl) owner];kernel_rfl
theorem mro:mroOf (.type "bytearray")=pure [.type "bytearray",.type "object"]:=by rw [mroOf_type];kernel_rfl
theorem lookup_new:typeLookup (.type "bytearray") "__new__"=pure (some (.builtin "bytearray.__new__")):=by rw [typeLookup_type,builtinLookup_eq_fast];kernel_rfl
theorem called:TypeCalled "bytearray" "bytearray.__new__" "bytearray.__init__" :=
 ⟨by decide +kernel,by decide +kernel,⟨_,_,mro⟩,madeBy_type mro lookup_new (by decide +kernel),by decide +kernel,by rw [isSubtype_type];kernel_rfl,slot_init⟩
theorem typeCall_0:checkTypeCall "bytearray" ⟨[],[]⟩=pure ():=by kernel_rfl
theorem typeCall_1 (a:Value):checkTypeCall "bytearray" ⟨[a],[]⟩=pure ():=by kernel_rfl
theorem newCall_0:checkBuiltinCall "bytearray.__new__" ⟨[.type "bytearray"],[]⟩=pure ():=by kernel_rfl
theorem newCall_1 (a:Value):checkBuiltinCall "bytearray.__new__" ⟨[.type "bytearray",a],[]⟩=pure ():=by kernel_rfl
theorem entry_new:entryFor table "bytearray.__new__"=some Builtin.«list.__new__»:=entryFor_alias (id':="list.__new__") (by kernel_rfl) rfl (by decide +kernel) (by kernel_rfl)
theorem plain_new:plainId "bytearray.__new__"=true:=by decide +kernel
theorem owner_new:("bytearray.__new__".splitOn ".__new__").headD ""="bytearray":=by simp +decide [String.splitOn,String.splitOnAux]
theorem sub_self:isSubtype (.type "bytearray") (.type "bytearray")=pure true:=by rw [isSubtype_type];kernel_rfl
theorem release:typeLookup (.type "bytearray") "__release_buffer__"=pure (some (.builtin "bytearray.__release_buffer__")):=by rw [typeLookup_type,builtinLookup_eq_fast];kernel_rfl
theorem buffer:typeLookup (.type "bytearray") "__buffer__"=pure (some (.builtin "bytearray.__buffer__")):=by rw [typeLookup_type,builtinLookup_eq_fast];kernel_rfl
theorem bytes_buffer:typeLookup (.type "bytes") "__buffer__"=pure (some (.builtin "bytes.__buffer__")):=by rw [typeLookup_type,builtinLookup_eq_fast];kernel_rfl
theorem bytes_release:typeLookup (.type "bytes") "__release_buffer__"=pure none:=by rw [typeLookup_type,builtinLookup_eq_fast];kernel_rfl
theorem bytes_index:typeLookup (.type "bytes") "__index__"=pure none:=by rw [typeLookup_type,builtinLookup_eq_fast];kernel_rfl
theorem ba_index:typeLookup (.type "bytearray") "__index__"=pure none:=by rw [typeLookup_type,builtinLookup_eq_fast];kernel_rfl
theorem ba_bytes:typeLookup (.type "bytearray") "__bytes__"=pure none:=by rw [typeLookup_type,builtinLookup_eq_fast];kernel_rfl
theorem bytes_bytes:typeLookup (.type "bytes") "__bytes__"=pure (some (.builtin "bytes.__bytes__")):=by rw [typeLookup_type,builtinLookup_eq_fast];kernel_rfl
theorem bind_0:Builtin.Bytes.bindOptional "bytearray.__init__" "bytearray" ["source","encoding","errors"] [] []=pure [none,none,none]:=by kernel_rfl
theorem bind_1 (v:Value):Builtin.Bytes.bindOptional "bytearray.__init__" "bytearray" ["source","encoding","errors"] [v] []=pure [some v,none,none]:=by kernel_rfl
end BA
section
variable {prog:Program} {w:World} {A:Around} {E:VS} {s:Shared} {R:Result->Shared->Prop}
theorem ba_new {rest:List Value} (hc:checkBuiltinCall "bytearray.__new__" ⟨.type "bytearray" :: rest,[]⟩=pure ()) {Q₁:VS}
   (h:Q₁ (.ref s.heap.objs.size) { s with heap:=s.heap.push { cls:=.type "bytearray",data:=.bytearray #[] } }) :
   codeAny (model prog w) A (.call (.builtin "bytearray.__new__") ⟨.type "bytearray" :: rest,[]⟩) (wants Q₁ E) s:=by
 refine codeAny_of_tree ?_
 refine (?_:wpAny _ A.in1 (do checkBuiltinCall "bytearray.__new__" ⟨.type "bytearray" :: rest,[]⟩;again (.builtin "bytearray.__new__" ⟨.type "bytearray" :: rest,[]⟩)) _ _ s)
 refine wpAny_bind (wpAny_of_eq hc (wpAny_pure ⟨plainId_quiet BA.plain_new _,codeAny_builtin_stack BA.entry_new rfl fun p st=>?_⟩))
 rw [Around.under_plainId BA.plain_new _]
 have hsub:=BA.sub_self
 have hown:=BA.owner_new
 obtain ⟨hp,g,d,tk,os⟩:=s
 simp only [hown]
 wp_walk
 exact h
theorem codeC_call_builtin {id:String} {args:Args} {b:Builtin} (hq:plainId id=true) (hb:entryFor table id=some b) (hok:badIds.contains id=false)
   (h:wpC (model prog w) A.in1 (checkBuiltinCall id args) (fun _ s1=>wpC (model prog w) A.in1 (b args)
     (fun fin s'=>match fin with | .done f=>R (.ok f) s' | .again c'=>c'.quiet=true/\cD (model prog w) A c' R s') (fun e s'=>R (.error e) s') s1)
     (fun e s'=>R (.error e) s') s):cD (model prog w) A (.call (.builtin id) args) R s:=by
 refine cO ?_
 refine (?_:wpC _ A.in1 (do checkBuiltinCall id args;again (.builtin id args)) _ _ s)
 refine wP (wM h (fun _ s1 h1=>wC (And.intro (plainId_quiet hq args) (cO ?_ (by show (!badIds.contains id)=true;rw [hok];rfl)))) fun _ _ h'=>h')
 refine (?_:wpC _ _ (match entryFor table id with | some b=>b args | none=>unsupported ((withoutEnding? id "#data").getD id)) _ _ s1)
 rw [hb,Around.under_plainId hq args];exact h1
end
section
variable {prog:Program} {w:World} {A:Around} {E:VS} {s:Shared} {R:Result->Shared->Prop}
theorem callTypeC {T newId initId:String} {Bi:Builtin} {args:List Value} {Q Q₁:VS} (ft:TypeCalled T newId initId)
   (hct:checkTypeCall T ⟨args,[]⟩=pure ()) (entryI:entryFor table initId=some Bi) (hok:badIds.contains initId=false)
   (hnew:codeAny (model prog w) A.in1 (.call (.builtin newId) ⟨.type T :: args,[]⟩) (wants Q₁ E) s)
   (hnext:∀ obj s1,Q₁ obj s1->s1.TypeIs obj T/\argsOk initId ⟨obj :: args,[]⟩ /\
     wpC (model prog w) A.in1.in1 (Bi ⟨obj :: args,[]⟩)
       (fun fin s'=>match fin with | .done f=>wants (fun r s2=>r=.none/\Q obj s2) E (.ok f) s' | .again c'=>c'.quiet=true/\cD (model prog w) A.in1 c' (wants (fun r s2=>r=.none/\Q obj s2) E) s')
       (fun e s'=>wants (fun r s2=>r=.none/\Q obj s2) E (.error e) s') s1) :
   wpC (model prog w) A (call (.type T) args) Q E s:=by
 obtain ⟨c,tl,hmro⟩:=ft.mro
 refine wpC_call (cO ?_)
 have hq:(Code.builtin "type.__call__" ⟨.type T :: args,[]⟩).quiet=true:=Code.quiet_builtin _ (by decide +kernel)
 refine (?_:wpC _ _ (callAny (.type T) _) _ _ _)
 refine (?_:wpC _ _ (pure (Fin.again (.builtin "type.__call__" ⟨.type T :: args,[]⟩)):Sem Fin) _ _ _)
 refine wC ?_
 refine And.intro hq ?_
 refine codeC_builtin F.entry_type_call (by decide +kernel) ?_
 rw [Around.under_plain (weight_type_call_type T args []) rfl]
 dsimp only
 refine wpC_neg (by rw [ft.notType];exact Bool.false_ne_true) ?_
 refine wpC_neg (by rw [ft.canCreate];exact Bool.false_ne_true) ?_
 refine wP (m:=checkTypeCall T ⟨args,[]⟩) (wpC_of_eq hct ?_)
 refine wP (m:=mroOf (.type T)) (wpC_of_eq hmro ?_)
 refine wpC_neg dC ?_
 refine wP (m:=Bind.madeBy (.type T)) (wpC_of_eq ft.made ?_)
 refine wP (wC ?_)
 refine wP (wH (lift (wpAny_call (codeAny_mono hnew fun r s1 hr=>?_))))
 cases r with
 | error e=>exact hr
 | ok fl =>
   cases fl with
   | ret obj =>
     obtain ⟨hT,hargs,hsi⟩:=hnext _ _ hr
     refine wP (lift (wpAny_isInstance hT ft.sub ?_))
     refine wP (wH (wP (lift (wpAny_specialOf hT ft.init.lookup ?_))))
     refine wH (wP (wpC_of_eq (ft.init.bind obj) ?_))
     refine wP (wpC_call (codeC_mono (codeC_call_builtin ft.init.plain entryI hok (lift (ft.init.check _ _ _ _ _ _ _ _ hT hargs hsi))) fun r2 s2 hr2=>?_))
     cases r2 with
     | error e=>exact hr2
     | ok fl2 =>
       cases fl2 with
       | ret r =>
         obtain ⟨rfl,hq⟩:=hr2
         exact wC (wC hq)
       | _=>exact hr2.elim
   | _=>exact hr.elim
end
section
variable {prog:Program} {w:World} {A:Around} {E:VS} {s:Shared}
theorem ownRelease_no {a:Addr} {o:Obj} (ho:s.heap.get? a=some o) (hc:o.cls=.type "bytearray") {Q:Bool->Shared->Prop} (h:Q false s):wpC (model prog w) A (Builtin.Bytes.ownRelease (.ref a)) Q E s:=by
 have hT:s.TypeIs (.ref a) "bytearray":=⟨o,ho,hc⟩
 refine wP (wP (lift (wpAny_specialOf hT BA.release ?_)))
 simp only
 split
 . rename_i hx
   exact absurd hx (by decide +kernel)
 . have key:∀ x:String,x="bytearray"->wpC (model prog w) A (isInstance (.ref a) (.type x)) (fun b s'=>wpC (model prog w) A (pure !b) Q E s') E s:=fun x hx=>by rw [hx];exact lift (wpAny_isInstance hT BA.sub_self (wC h))
   exact key _ (by decide +kernel)
theorem bad1 {id:String} (k:(!badIds.contains id)=true):Builtin.Bytes.decodersThatHold.contains id=false/\id ≠ "bytearray.__contains__"/\id ≠ "bytearray.__mod__"/\id ≠ "bytearray.__rmod__"/\id ≠ "_struct.pack_into.held"/\id ≠ "bytearray.find.held":=by
 unfold badIds at k
 rw [List.contains_eq_any_beq,List.any_append,<- List.contains_eq_any_beq] at k
 cases q:Builtin.Bytes.decodersThatHold.contains id with
 | true=>rw [q] at k;cases k
 | false =>
   refine ⟨rfl,?_,?_,?_,?_,?_⟩ <;> (rintro rfl;rw [q] at k;exact Bool.noConfusion k)
theorem any_no {α:Type} {f:α->Bool} {Q:Bool->Shared->Prop} (h:Q false s):∀ st:List α,(∀ c ∈ st,f c=false)->Q (st.any f) s:=fun st k=>by
 rw [List.any_eq_false.mpr fun c hc=>by rw [k c hc];exact Bool.false_ne_true];exact h
theorem exported_no {v:Value} {Q:Bool->Shared->Prop} (h:Q false s):wpC (model prog w) A (Builtin.Bytes.exported v) Q E s:=by
 refine wP (wpC_stack fun st hst=>wC (any_no h st fun c hc=>?_))
 have k:=hst c hc
 obtain ⟨co,p⟩:=c
 cases co with
 | builtin id args =>
   obtain ⟨l,kw⟩:=args
   obtain ⟨q,n1,n2,n3,n4,n5⟩:=bad1 k
   unfold Builtin.Bytes.exported.match_1
   refine (dif_neg n1).trans ?_
   refine (dif_neg n2).trans ?_
   refine (dif_neg n3).trans ?_
   refine (dif_neg n4).trans ?_
   refine (dif_neg n5).trans ?_
   cases l with
   | nil=>rfl
   | cons x l=>exact (congrArg _ q).trans (Bool.and_false _)
 | _=>rfl
end
section
variable {prog:Program} {w:World} {A:Around} {E:VS} {s:Shared}
theorem wpAny_payload {M:Model} {a:Addr} {o:Obj} {bs:Array UInt8} {n:Nat} {Q:Array UInt8->Shared->Prop} (ho:s.heap.get? a=some o) (hd:o.data=.bytearray bs n) (h:Q bs s):wpAny M A (Builtin.Bytes.payload (.ref a)) Q E s:=by
 refine wpAny_bind (wpAny_bind (wpAny_load ho ?_))
 rw [hd]
 exact wpAny_pure (wpAny_pure h)
theorem ba_len {a:Addr} {bs:Array UInt8} (ho:s.heap.get? a=some { cls:=.type "bytearray",data:=.bytearray bs 0 }) (hfit:(bs.size:Int) < 2 ^ 63) {Q:VS}
   (h:Q (.int bs.size (s.toks + 1)) { s with toks:=s.toks + 1 + 1 }):wpAny (model prog w) A (call (.builtin "len") [.ref a]) Q E s:=by
 have hT:s.TypeIs (.ref a) "bytearray":=⟨_,ho,rfl⟩
 refine call_function_entry kind_len plain_len entry_len (args_len1 _) ?_
 refine wpAny_bind (m:=oneArg "len" _) (wpAny_pure ?_)
 refine wpAny_bind (m:=callSpecial? (.ref a) (Str.ofString "__len__")) (wpAny_callSpecial?_slot (name:=Str.ofString "__len__") hT BA.slot_len
   (wpAny_call_entry BA.slot_len hT BA.entry_len ?_ (BA.args_len _)))
 . refine (?_:wpAny _ _ (do retInt (<- Builtin.Bytes.payload (.ref a)).size) _ _ s)
   refine wpAny_bind (wpAny_payload ho rfl ?_)
   refine wpAny_bind (wpAny_mkInt (wpAny_pure ⟨_,rfl,?_⟩))
   refine wpAny_bind (wpAny_holding (wpAny_pure ?_))
   refine wpAny_bind (wpAny_letGo ?_)
   refine (?_:wpAny _ _ (if ((bs.size:Nat):Int) < 0 then _ else _) _ _ _)
   refine wpA_neg ((leg (Int.natCast_nonneg _))) ?_
   refine (?_:wpAny _ _ (if ((bs.size:Nat):Int) >= 2 ^ 63 then _ else _) _ _ _)
   refine wpA_neg (ltg hfit) ?_
   exact wpAny_bind (wpAny_mkInt (wpAny_pure ⟨_,rfl,h⟩))
theorem ba_index {a:Addr} {bs:Array UInt8} {i:Int} {u:Tok} {c:UInt8} (ho:s.heap.get? a=some { cls:=.type "bytearray",data:=.bytearray bs 0 }) (hr:Builtin.Bytes.fitsIndex i=true) (hc:(seqIndex? i bs.size).bind (bs[·]?)=some c) {Q:VS}
   (h:Q (.int c.toNat s.toks) { s with toks:=s.toks + 1 }):wpAny (model prog w) A (getItem (.ref a) (.int i u)) Q E s:=by
 have hT:s.TypeIs (.ref a) "bytearray":=⟨_,ho,rfl⟩
 refine wpAny_getItem_slot hT dC BA.slot_getitem (wpAny_call_entry BA.slot_getitem hT BA.entry_getitem ?_ (BA.args_getitem _ _))
 refine (?_:wpAny _ _ (Builtin.Bytes.subscript? (.int i u) >>= fun r=>_) _ _ s)
 refine wpAny_bind ?_
 refine wpAny_bind (wpAny_specialOf (typeIs_int s i u) F.slot_int_index.lookup ?_)
 refine (?_:wpAny _ _ (if (!Builtin.Bytes.fitsIndex i)=true then _ else pure (some i)) _ _ s)
 rw [hr]
 refine wpAny_pure ?_
 refine (?_:wpAny _ _ (Builtin.Bytes.payload (.ref a) >>= fun b=>_) _ _ s)
 refine wpAny_bind (wpAny_payload ho rfl ?_)
 rw [hc]
 exact wpAny_bind (wpAny_mkInt (wpAny_pure ⟨_,rfl,h⟩))
theorem ba_slice {a c:Addr} {bs:Array UInt8} {n:Int} {t:Tok} (ho:s.heap.get? a=some { cls:=.type "bytearray",data:=.bytearray bs 0 }) (hs:s.heap.IsSliceOf c (.int n t) .none .none) (hz:(KBy.picked bs (some n) none).size<=sizeLine) {Q:VS}
   (h:Q (.ref s.heap.objs.size) { s with heap:=s.heap.push { cls:=.type "bytearray",data:=.bytearray (KBy.picked bs (some n) none) 0 } }):wpAny (model prog w) A (getItem (.ref a) (.ref c)) Q E s:=by
 have hT:s.TypeIs (.ref a) "bytearray":=⟨_,ho,rfl⟩
 obtain ⟨oc,hoc,hcc,hcd⟩:=hs
 have hS:s.TypeIs (.ref c) "slice":=⟨oc,hoc,hcc⟩
 refine wpAny_getItem_slot hT dC BA.slot_getitem (wpAny_call_entry BA.slot_getitem hT BA.entry_getitem ?_ (BA.args_getitem _ _))
 refine (?_:wpAny _ _ (Builtin.Bytes.subscript? (.ref c) >>= fun r=>_) _ _ s)
 refine wpAny_bind ?_
 refine wpAny_bind (wpAny_specialOf hS slice_no_index (wpAny_pure ?_))
 refine wpAny_bind (wpAny_typeOf hS ?_)
 refine wpAny_bind ?_
 refine wpAny_bind (wpAny_field (x:=.none) hoc hcd rfl ?_)
 refine wpAny_bind (wpAny_of_eq (a:=Value.none) rfl ?_)
 refine wpA_neg ((show ¬ ((Value.none == rawInt 0)=true) from Bool.false_ne_true)) ?_
 refine wpAny_bind (wpAny_field (x:=.int n t) hoc hcd rfl ?_)
 refine wpAny_bind ?_
 refine wpA_neg ((show ¬ ((Value.int n t == Value.none)=true) from Bool.false_ne_true)) ?_
 refine wpAny_bind (wpAny_specialOf (T:="int") (typeIs_int _ _ _) F.slot_int_index.lookup ?_)
 refine wpA_neg ((show ¬ (Option.isNone (some _)=true) from Bool.false_ne_true)) ?_
 refine wpAny_bind (wpAny_of_eq rfl (wpAny_pure ?_))
 refine wpAny_bind (wpAny_field (x:=.none) hoc hcd rfl ?_)
 refine wpAny_pure ?_
 refine wpAny_bind (wpAny_payload ho rfl ?_)
 have go:wpAny (model prog w) A.in1 (sliceIndices (rawPart (some n)) (rawPart none) (rawPart none) bs.size) (fun r s'=>r=sliceBounds (some n) none none bs.size/\s'=s) (fun _ _=>False) s :=
   wpAny_of_eq (sliceIndices_raw (some n) none none bs.size (fun e=>nomatch e)) ⟨rfl,rfl⟩
 refine wpAny_bind (wpAny_mono go (fun r s' hr=>?_) fun _ _ e=>e.elim)
 obtain ⟨rfl,rfl⟩:=hr
 refine wpAny_bind ?_
 refine wpAny_newObj_type (wpAny_pure ⟨_,rfl,h⟩) (hz)
end
section
variable {prog:Program} {w:World} {A:Around} {E:VS} {s:Shared}
theorem wpAny_baUpdate {M:Model} {a:Addr} {bs:Array UInt8} {f:Array UInt8->Array UInt8} {Q:Unit->Shared->Prop} (ho:s.heap.get? a=some { cls:=.type "bytearray",data:=.bytearray bs 0 }) (hz:(f bs).size<=sizeLine)
   (h:∀ h',h'.get? a=some { cls:=.type "bytearray",data:=.bytearray (f bs) 0 }->Heap.SameBut a s.heap h'->Q () { s with heap:=h' }):wpAny M A (Builtin.Bytes.write (.ref a) f) Q E s:=by
 refine (?_:wpAny M A (updateBytearray a f) Q E s)
 refine wpAny_bind (wpAny_load ho ?_)
 refine wpAny_bind (wpAny_update ho ?_)
 have e:=Heap.get?_update_self (Obj.mapBytearray f) ho rfl
 exact wpAny_lookBehind (s:={ s with heap:=_ }) e (by
   refine (?_:(Data.bytearray (f bs) 0).pastItsLine=none)
   unfold Data.pastItsLine
   simp
   exact hz) (h _ e (Heap.SameBut.update ..))
theorem exportsOf_no {M:Model} {a:Addr} {bs:Array UInt8} (ho:s.heap.get? a=some { cls:=.type "bytearray",data:=.bytearray bs 0 }) {Q:Nat->Shared->Prop} (h:Q 0 s):wpAny M A (Builtin.Bytes.exportsOf (.ref a)) Q E s:=by
 unfold Builtin.Bytes.exportsOf
 exact wpAny_bind (wpAny_load ho (wpAny_pure h))
theorem checkResize_no {a:Addr} {bs:Array UInt8} (ho:s.heap.get? a=some { cls:=.type "bytearray",data:=.bytearray bs 0 }) {Q:Unit->Shared->Prop} (h:Q () s):wpC (model prog w) A (Builtin.Bytes.checkResize (.ref a)) Q E s:=by
 unfold Builtin.Bytes.checkResize
 refine wP (wP (exported_no ?_))
 refine wP (lift (exportsOf_no ho (wC ?_)))
 exact wC h
theorem ba_append {a:Addr} {bs:Array UInt8} {i:Int} {t:Tok} (ho:s.heap.get? a=some { cls:=.type "bytearray",data:=.bytearray bs 0 }) (h0:0<=i) (h1:i < 256) (hz:bs.size + 1<=sizeLine) {Q:VS}
   (h:∀ h',h'.get? a=some { cls:=.type "bytearray",data:=.bytearray (bs.push i.toNat.toUInt8) 0 }->Heap.SameBut a s.heap h'->Q .none { s with heap:=h' }):wpC (model prog w) A (call (.builtin "bytearray.append") [.ref a,.int i t]) Q E s:=by
 have hT:s.TypeIs (.ref a) "bytearray":=⟨_,ho,rfl⟩
 refine wpC_call (codeC_call_builtin BA.slot_append.plain BA.entry_append (by decide +kernel) (lift (BA.slot_append.check _ _ _ _ _ _ _ _ hT (BA.args_append _ _) ?_)))
 refine (?_:wpC _ _ (Builtin.Bytes.byteValue (.int i t) >>= fun c=>Builtin.Bytes.checkResize (.ref a) >>= fun _=>Builtin.Bytes.write (.ref a) (·.push c) >>= fun _=>ret .none) _ _ s)
 refine wP ?_
 refine wpC_neg (by simp only [Bool.or_eq_true,decide_eq_true_eq];lia) ?_
 refine wC ?_
 refine wP (checkResize_no ho ?_)
 refine wP (lift (wpAny_baUpdate ho (by rw [Array.size_push];exact hz) fun h' e hs=>?_))
 exact wC (h h' e hs)
theorem ba_make0 {Q:VS} (h:∀ h',h'.get? s.heap.objs.size=some { cls:=.type "bytearray",data:=.bytearray #[] 0 }->(∀ b o,s.heap.get? b=some o->h'.get? b=some o)->Q (.ref s.heap.objs.size) { s with heap:=h' }) :
   wpC (model prog w) A (call (.type "bytearray") []) Q E s:=by
 refine callTypeC (Q₁:=fun obj s1=>obj=.ref s.heap.objs.size/\s1={ s with heap:=s.heap.push { cls:=.type "bytearray",data:=.bytearray #[] } }) BA.called BA.typeCall_0 BA.entry_init (by decide +kernel) (ba_new BA.newCall_0 ⟨rfl,rfl⟩) ?_
 rintro obj s1 ⟨rfl,rfl⟩
 have hn:(s.heap.push { cls:=.type "bytearray",data:=.bytearray #[] }).get? s.heap.objs.size=some { cls:=.type "bytearray",data:=.bytearray #[] 0 }:=Heap.get?_push_size _ rfl
 refine ⟨⟨_,hn,rfl⟩,BA.args_init_1 _,?_⟩
 refine (?_:wpC _ _ (Builtin.Bytes.ownRelease _ >>= _) _ _ _)
 refine wP (ownRelease_no (s:={ s with heap:=_ }) hn rfl ?_)
 refine wP (m:=Builtin.Bytes.bindOptional _ _ _ _ _) (wpC_of_eq BA.bind_0 ?_)
 refine (?_:wpC _ _ ((Builtin.Bytes.exported _ >>= _) >>= _) _ _ _)
 refine wP (wP (exported_no ?_))
 refine wP (lift (exportsOf_no (s:={ s with heap:=_ }) hn (wC ?_)))
 refine wP (lift (wpAny_baUpdate (s:={ s with heap:=_ }) hn (Nat.zero_le _) fun h' e hs=>?_))
 refine wC ⟨rfl,h h' e fun b o q=>?_⟩
 exact hs.extBut b o (Nat.ne_of_lt (Heap.lt_size q)) (Heap.get?_push_of_some _ q)
theorem ba_make1 {x:Array UInt8} {t:Tok} (hz:x.size<=sizeLine) {Q:VS} (h:∀ h',h'.get? s.heap.objs.size=some { cls:=.type "bytearray",data:=.bytearray x 0 }->(∀ b o,s.heap.get? b=some o->h'.get? b=some o)->Q (.ref s.heap.objs.size) { s with heap:=h' }) :
   wpC (model prog w) A (call (.type "bytearray") [.bytes x t]) Q E s:=by
 refine callTypeC (Q₁:=fun obj s1=>obj=.ref s.heap.objs.size/\s1={ s with heap:=s.heap.push { cls:=.type "bytearray",data:=.bytearray #[] } }) BA.called (BA.typeCall_1 _) BA.entry_init (by decide +kernel) (ba_new (BA.newCall_1 _) ⟨rfl,rfl⟩) ?_
 rintro obj s1 ⟨rfl,rfl⟩
 have hn:(s.heap.push { cls:=.type "bytearray",data:=.bytearray #[] }).get? s.heap.objs.size=some { cls:=.type "bytearray",data:=.bytearray #[] 0 }:=Heap.get?_push_size _ rfl
 refine ⟨⟨_,hn,rfl⟩,BA.args_init_2 _ _,?_⟩
 refine (?_:wpC _ _ (Builtin.Bytes.ownRelease _ >>= _) _ _ _)
 refine wP (ownRelease_no (s:={ s with heap:=_ }) hn rfl ?_)
 refine wP (m:=Builtin.Bytes.bindOptional _ _ _ _ _) (wpC_of_eq (BA.bind_1 _) ?_)
 refine (?_:wpC _ _ ((Builtin.Bytes.exported _ >>= _) >>= _) _ _ _)
 refine wP (wP (exported_no ?_))
 refine wP (lift (exportsOf_no (s:={ s with heap:=_ }) hn (wC ?_)))
 refine wP (lift (wpAny_baUpdate (s:={ s with heap:=_ }) hn (Nat.zero_le _) fun h' e hs=>?_))
 refine (?_:wpC _ _ (specialOf _ _ >>= _) _ _ _)
 refine wP (lift (wpAny_specialOf (PySem.W.typeIs_bytes _ _ _) BA.bytes_index ?_))
 refine (?_:wpC _ _ (Builtin.Bytes.buffer? _ _ _ >>= _) _ _ _)
 refine wP (wpC_of_eq KBy.buffer_eq ?_)
 refine wP (wpC_rule ?_)
 refine wP (lift (wpAny_baUpdate (s:={ s with heap:=h' }) e hz fun h2 e2 hs2=>?_))
 refine wC ⟨rfl,h h2 e2 fun b o q=>?_⟩
 have hb:=Nat.ne_of_lt (Heap.lt_size q)
 exact hs2.extBut b o hb (hs.extBut b o hb (Heap.get?_push_of_some _ q))
end
section
variable {prog:Program} {w:World} {A:Around} {E:VS} {s:Shared}
theorem ba_buffer {id:String} {a:Addr} {bs:Array UInt8} {full:Bool} (ho:s.heap.get? a=some { cls:=.type "bytearray",data:=.bytearray bs 0 }) {Q:Option (Array UInt8)->Shared->Prop} (h:Q (some bs) s):wpAny (model prog w) A (Builtin.Bytes.buffer? id (.ref a) full) Q E s:=by
 have hT:s.TypeIs (.ref a) "bytearray":=⟨_,ho,rfl⟩
 have own:∀ (name:String) (r:String),typeLookup (.type "bytearray") (name:Str)=pure (some (.builtin r))->(!r.endsWith ("." ++ name))=false->r.dropRight (name.length + 1)="bytearray"->∀ {Q:Bool->Shared->Prop},Q true s->wpAny (model prog w) A (Builtin.Bytes.slotIsOwn (.ref a) name) Q E s:=by
   intro name r h1 h2 h3 Q hq
   unfold Builtin.Bytes.slotIsOwn
   refine wpAny_bind (wpAny_specialOf hT h1 ?_)
   dsimp only
   rw [h2,if_neg Bool.false_ne_true,h3]
   exact wpAny_isInstance hT BA.sub_self hq
 refine wpAny_bind (wpAny_specialOf hT BA.buffer ?_)
 refine wpAny_bind (own _ _ BA.buffer (by decide +kernel) (by decide +kernel) ?_)
 refine wpA_neg dC ?_
 refine wpAny_bind (wpAny_specialOf hT BA.buffer ?_)
 refine (?_:wpAny _ _ (Builtin.Bytes.ownRelease (.ref a) >>= _) _ _ _)
 refine wpAny_bind (wpAny_bind (own _ _ BA.release (by decide +kernel) (by decide +kernel) (wpAny_pure ?_)))
 exact wpAny_bind (wpAny_payload ho rfl (wpAny_pure h))
theorem bytes_of_ba {a:Addr} {bs:Array UInt8} (ho:s.heap.get? a=some { cls:=.type "bytearray",data:=.bytearray bs 0 }) (hz:bs.size<=sizeLine) {Q:VS} (h:Q (.bytes bs s.toks) { s with toks:=s.toks + 1 }) :
   wpAny (model prog w) A (call (.type "bytes") [.ref a]) Q E s:=by
 have hT:s.TypeIs (.ref a) "bytearray":=⟨_,ho,rfl⟩
 refine callType_codes (Q₁:=fun obj s1=>s1.TypeIs obj "bytes"/\Q obj s1) F.bm_called (F.bm_typeCall _) F.entry_object_init ?_ fun obj s1 h1=>?_
 . refine codeAny_call_builtin F.bm_plain F.bm_entry (wpAny_of_eq (F.bm_newCall _) ?_)
   refine (?_:wpAny _ _ (isSubtype _ _ >>= _) _ _ _)
   refine wpAny_bind (wpAny_of_eq F.bm_sub ?_)
   refine (?_:wpAny _ _ (Builtin.Bytes.bindOptional _ _ _ _ _ >>= _) _ _ _)
   refine wpAny_bind (wpAny_of_eq (F.bm_bind _) ?_)
   refine (?_:wpAny _ _ (specialOf _ _ >>= _) _ _ _)
   refine wpAny_bind (wpAny_specialOf hT BA.ba_bytes ?_)
   refine wpAny_bind (wpAny_bind ?_)
   refine (?_:wpAny _ _ (load a >>= _) _ _ _)
   refine wpAny_bind (wpAny_load ho ?_)
   refine wpAny_pure (wpAny_pure ?_)
   refine wpAny_bind (wpAny_specialOf hT BA.ba_index ?_)
   first
     | show wpAny _ _ (Builtin.Bytes.buffer? "bytes.__new__" (.ref a) true >>= _) _ _ _
     | (refine wpAny_bind ?_;show wpAny _ _ (Builtin.Bytes.buffer? "bytes.__new__" (.ref a) true >>= _) _ _ _)
   refine wpAny_bind (ba_buffer ho ?_)
   refine wpAny_bind (wpAny_rule ?_)
   refine wpAny_bind (wpAny_mkBytes ?_ hz)
   first
     | exact wpAny_pure ⟨PySem.W.typeIs_bytes _ _ _,h⟩
     | exact wpAny_pure (wpAny_pure ⟨PySem.W.typeIs_bytes _ _ _,h⟩)
     | exact wpAny_bind (wpAny_pure (wpAny_pure ⟨PySem.W.typeIs_bytes _ _ _,h⟩))
 . exact⟨h1.1,F.args_object_init_2 obj _,object_init_meets F.bm_called.init.lookup F.bm_called.made dC prog w A.in1 _ s1 ⟨h1.1,rfl,h1.2⟩⟩
theorem bytes_of_bytes {b:Array UInt8} {t:Tok} {Q:VS} (h:Q (.bytes b t) s) :
   wpAny (model prog w) A (call (.type "bytes") [.bytes b t]) Q E s:=by
 refine callType_codes (Q₁:=fun obj s1=>s1.TypeIs obj "bytes"/\Q obj s1) F.bm_called (F.bm_typeCall _) F.entry_object_init ?_ fun obj s1 h1=>?_
 . refine codeAny_call_builtin F.bm_plain F.bm_entry (wpAny_of_eq (F.bm_newCall _) ?_)
   refine (?_:wpAny _ _ (isSubtype _ _ >>= _) _ _ _)
   refine wpAny_bind (wpAny_of_eq F.bm_sub ?_)
   refine (?_:wpAny _ _ (Builtin.Bytes.bindOptional _ _ _ _ _ >>= _) _ _ _)
   refine wpAny_bind (wpAny_of_eq (F.bm_bind _) ?_)
   refine (?_:wpAny _ _ (specialOf _ _ >>= _) _ _ _)
   refine wpAny_bind (wpAny_specialOf (PySem.W.typeIs_bytes _ _ _) BA.bytes_bytes ?_)
   refine wpAny_bind (wpAny_rule ?_)
   refine wpAny_bind (wpAny_typeOf (PySem.W.typeIs_bytes _ _ _) ?_)
   first
     | exact wpAny_pure ⟨PySem.W.typeIs_bytes _ _ _,h⟩
     | exact wpAny_pure (wpAny_pure ⟨PySem.W.typeIs_bytes _ _ _,h⟩)
     | exact wpAny_bind (wpAny_pure (wpAny_pure ⟨PySem.W.typeIs_bytes _ _ _,h⟩))
 . exact⟨h1.1,F.args_object_init_2 obj _,object_init_meets F.bm_called.init.lookup F.bm_called.made dC prog w A.in1 _ s1 ⟨h1.1,rfl,h1.2⟩⟩
end
namespace BA
theorem bytes_len:typeLookup (.type "bytes") "__len__"=pure (some (.builtin "bytes.__len__")):=by rw [typeLookup_type,builtinLookup_eq_fast];kernel_rfl
theorem list_keys:typeLookup (.type "list") "keys"=pure none:=by rw [typeLookup_type,builtinLookup_eq_fast];kernel_rfl
theorem entry_uploop:entryFor table "dict.update.loop"=some Builtin.«dict.update.loop»:=entryFor_of_tree (by kernel_rfl)
theorem plain_uploop:plainId "dict.update.loop"=true:=by decide +kernel
end BA
section
variable {prog:Program} {w:World} {A:Around} {E:VS} {s:Shared}
theorem list_of_bytes {b:Array UInt8} {t:Tok} (hh:A.handled=none) (hn:b.size<=sizeLine) {Q:VS}
   (hQ:∀ h' tk acc' c',(∀ b o,s.heap.get? b=some o->h'.get? b=some o)->h'.get? s.heap.objs.size=some { cls:=.type "list",dict:=none,data:=.seq acc' c',slots:=#[] }->ItemsOf (fun i v=>∃ c u,b[i]?=some c/\v=.int (c.toNat:Int) u) acc' b.size->Q (.ref s.heap.objs.size) { s with heap:=h',toks:=tk }) :
   wpAny (model prog w) A (call (.type "list") [.bytes b t]) Q E s:=by
 refine callType_codes (Q₁:=fun obj s1=>obj=.ref s.heap.objs.size/\s1={ s with heap:=s.heap.push { cls:=.type "list",data:=.seq #[] } }) PySem.F.called_list (PySem.F.typeCall_list_1 _) PySem.F.entry_list_init
   (code_list_new _ ⟨rfl,rfl⟩) fun obj s1 h₁=>?_
 obtain ⟨rfl,rfl⟩:=h₁
 let S:=s.heap.objs.size
 have hS:(s.heap.push { cls:=.type "list",data:=.seq #[] }).get? S=some { cls:=.type "list",data:=.seq #[] }:=Heap.get?_push_size _ rfl
 refine ⟨⟨_,hS,rfl⟩,PySem.F.args_list_init_2 _ _,?_⟩
 refine (?_:wpAny _ _ (do let old <- Builtin.List.listItems (.ref S);Builtin.List.listUpdate (.ref S) (fun _=>#[]);letGo old.toList.reverse;Builtin.List.listExtendWith (.ref S) (.bytes b t) .none) _ _ _)
 refine wpAny_bind ?_
 unfold Builtin.List.listItems
 refine wpAny_bind (wpAny_seqItems hS rfl (wpAny_pure ?_))
 refine (?_:wpAny _ _ (updateSeq S (fun _=>#[]) >>= fun _=>letGo (#[]:Array Value).toList.reverse >>= fun _=>Builtin.List.listExtendWith (.ref S) (.bytes b t) .none) _ _ _)
 refine wpAny_bind (wpAny_updateSeq hS rfl ?_)
 have hS2:=Heap.get?_update_self (Obj.mapSeq (fun _=>(#[]:Array Value))) hS rfl
 refine wpAny_bind (wpAny_letGo ?_)
 let H2:=(s.heap.push { cls:=.type "list",data:=.seq #[] }).update S (Obj.mapSeq (fun _=>(#[]:Array Value)))
 have k2:∀ b o,s.heap.get? b=some o->H2.get? b=some o:=fun b o e=>(Heap.get?_update_other _ _ (Ne.symm (Nat.ne_of_lt (Heap.lt_size e)))).trans (Heap.get?_push_of_some _ e)
 refine (?_:wpAny _ _ (Builtin.List.listExtendWith (.ref S) (.bytes b t) .none) _ _ { s with heap:=H2 })
 unfold Builtin.List.listExtendWith
 refine wpAny_bind (wpAny_typeOf (T:="bytes") (PySem.W.typeIs_bytes _ _ _) ?_)
 have h1:Builtin.List.listSameRef (.ref S) (.bytes b t)=false:=rfl
 have h2:(Value.type "bytes" == Value.type "list")=false:=by decide
 have h3:(Value.type "bytes" == Value.type "tuple")=false:=by decide
 simp only [h1,h2,h3,Bool.or_false,Bool.false_eq_true,if_false]
 have hsz2:H2.objs.size=S + 1:=(Heap.size_update ..).trans (Heap.size_push ..)
 refine wpAny_bind (KBw.pyIter_bytes ?_)
 let I:=H2.objs.size
 let H3:=H2.push { cls:=.type "bytes_iterator",data:=.fields #[.bytes b t,.int 0 0] }
 have hSI:S ≠ I:=by show S ≠ H2.objs.size;rw [hsz2];exact Nat.ne_of_lt (Nat.lt_succ_self _)
 have hS3:=Heap.get?_push_of_some { cls:=.type "bytes_iterator",data:=.fields #[.bytes b t,.int 0 0] } hS2
 refine wpAny_bind (wpAny_holding ?_)
 unfold Builtin.List.listLengthHint
 refine wpAny_bind (wpAny_specialOf (PySem.W.typeIs_bytes _ _ _) BA.bytes_len ?_)
 generalize hid:("bytes.__len__":String)=id0
 wp_delta
 rw [show splitId id0=some ("bytes","__len__") from by subst hid;decide +kernel]
 subst hid
 refine wpAny_bind (wpAny_isInstance (T:="bytes") (b:=true) (PySem.W.typeIs_bytes _ _ _) F.bm_sub ?_)
 refine wpAny_ite_split (fun hab=>absurd hab dC) (fun _=>?_)
 refine wpAny_ite_split (fun _=>?_) (fun hab=>absurd (by decide +kernel) hab)
 refine wpAny_bind (wpAny_typeOf (PySem.W.typeIs_bytes _ _ _) ?_)
 refine wpAny_pure ?_
 refine wpAny_ite_split (fun hab=>absurd hab (by decide +kernel)) (fun _=>wpAny_pure ⟨plainId_quiet PySem.F.plain_extend_loop _,?_⟩)
 have W:Walks prog w A.in1.in1 I [I] [I] b.size (fun i v=>∃ c u,b[i]?=some c/\v=.int (c.toNat:Int) u) (fun i h=>KBw.IsBytesIter h I b t i):=KBw.walks (A:=A.in1.in1) hh I b t
 refine codeAny_extend_loopS W.toS hn S (nmC hSI nmN) .none b.size 0 _ #[] _ rfl (Nat.zero_le _) ⟨_,Heap.get?_push_size _ rfl,rfl,rfl⟩ hS3 (ItemsOf.nil _) fun s' acc' c' hm hS' hacc=>?_
 rw [Moved.eq_with hm]
 refine ⟨rfl,hQ s'.heap s'.toks acc' c' (fun b o e=>?_) hS' hacc⟩
 have hlt:=Heap.lt_size e
 refine hm.heap b o (fun hmem=>?_) (Heap.get?_push_of_some _ (k2 b o e))
 rcases List.mem_cons.mp hmem with e' | hmem
 . exact absurd hlt (by rw [e'];exact Nat.lt_irrefl _)
 . have:b=I:=List.mem_singleton.mp hmem
   have h4:b=S + 1:=this.trans hsz2
   exact absurd hlt (by rw [h4];exact Nat.not_lt.mpr (Nat.le_succ _))
theorem miss_list {a:Addr} {xs:Array Value} {k:Nat} {name:Str} {Q:Option Value->Shared->Prop}
   (hx:s.heap.get? a=some { cls:=.type "list",data:=.seq xs k }) (hmiss:typeLookup (.type "list") name=pure none) (hname:(["__module__","__name__","__qualname__","__doc__","__annotations__"]:List Str).contains name=false) (hA:A.handled=none)
   (h:∀ h' tk,(∀ b o,s.heap.get? b=some o->h'.get? b=some o)->Q none { s with heap:=h',toks:=tk }) (hsz:name.length + 100<=sizeLine:=by size_fits) :
   wpAny (model prog w) A (getAttr? (.ref a) name) Q E s:=by
 obtain ⟨hp,g,d,tk,os⟩:=s
 have hT:∀ tk',(⟨hp,g,d,tk',os⟩:Shared).TypeIs (.ref a) "list":=fun _=>⟨_,hx,rfl⟩
 have f1:=sub_AttributeError
 have f3:=F.slot_list_getattribute.lookup
 have f4:=F.slot_list_getattribute.bind (.ref a)
 have f5:=am_list_getattr_none
 unfold getAttr? getAttrBy? getAttrBy
 repeat (any_goals (first | assumption | exact hT _ | ((with_reducible show wpAny _ _ (call (Value.builtin "list.__getattribute__") _ _) _ _ _);refine call_meets F.slot_list_getattribute (hT _) am_entry_list_getattribute (F.args_list_getattribute_2 _ _) (meets_getattribute_miss_list a xs k #[] name _ hmiss hname hsz) ⟨hx,hA,fun h' tk' e hx'=>?_⟩) | wp_step))
 obtain ⟨t',u',he⟩:=hx'.there
 refine (?_:wpAny _ _ (getattributeRaised _ _ _ _ _ _ _) _ _ _)
 unfold getattributeRaised
 repeat (any_goals (first | assumption | wp_step))
 exact h _ _ hx'.keeps
end
section
variable {prog:Program} {w:World} {A:Around} {E:VS} {s:Shared}
noncomputable def putAll {V:Type} (f:List (Int × V)->Int->V->List (Int × V)) (acc:List (Int × V)):List (Int × V)->List (Int × V)
 | []=>acc
 | kv :: r=>putAll f (f acc kv.1 kv.2) r
theorem putAll_n {V:Type} {f:List (Int × V)->Int->V->List (Int × V)} {acc:List (Int × V)}:putAll f acc []=acc:=rfl
theorem putAll_c {V:Type} {f:List (Int × V)->Int->V->List (Int × V)} {acc:List (Int × V)} {kv:Int × V} {r:List (Int × V)}:putAll f acc (kv :: r)=putAll f (f acc kv.1 kv.2) r:=rfl
noncomputable def PairAt (h:Heap) (x:Value) (kv:Int × Value):Prop:=∃ tp t n,x=.ref tp/\h.get? tp=some { cls:=.type "tuple",data:=.seq #[.int kv.1 t,kv.2] n }
theorem stored_length (kvs:List (Int × Value)) (k:Int) (v:Value):(stored kvs k v).length<=kvs.length + 1:=by
 unfold stored
 split <;> simp
theorem uploop {R:Result->Shared->Prop} {d I l:Addr} {vs:List Value} {ps:List (Int × Value)} {c:Nat} (hh:A.handled=none) (hdI:d ≠ I) (hlI:l ≠ I) (hld:l ≠ d) (hps:ps.length=vs.length) (hz:vs.length<=1000000) :
   ∀ (k i:Nat) (s:Shared) (acc:List (Int × Value)),vs.length - i=k->i<=vs.length->acc.length<=i->s.heap.get? l=some { cls:=.type "list",data:=.seq vs.toArray c }->s.heap.IsListIter I l i->s.heap.DictOf (intKind prog w) d acc ->
     (∀ (j:Nat) x kv,vs[j]?=some x->ps[j]?=some kv->PairAt s.heap x kv) ->
     (∀ h' tk,h'.DictOf (intKind prog w) d (putAll stored acc (ps.drop i))->(∀ b o,b ≠ I->b ≠ d->s.heap.get? b=some o->h'.get? b=some o)->R (.ok (.ret .none)) { s with heap:=h',toks:=tk }) ->
     codeAny (model prog w) A (.builtin "dict.update.loop" ⟨[.ref d,.ref I,rawInt i,.none],[]⟩) R s:=by
 intro k
 induction k with
 | zero =>
   intro i s acc hk hi ha hl hit hd hp hR
   have hin:i=vs.length:=nsub_zero hk hi
   subst hin
   refine codeAny_builtin BA.entry_uploop ?_
   rw [Around.under_plainId BA.plain_uploop _]
   refine (?_:wpAny _ A.in1 (pyNext (.ref I) >>= _) _ _ s)
   refine wpAny_bind (wpAny_pyNext_list_end hh hit ⟨_,hl,rfl,c,rfl⟩ (by simp) fun h' he=>?_)
   refine (?_:wpAny _ _ (Builtin.Dict.addKeywords d [] >>= fun _=>ret .none) _ _ _)
   refine wpAny_bind (wpAny_pure (wpAny_pure ?_))
   refine hR h' s.toks ?_ (fun b o hb _ e=>he b o hb e)
   rw [<- hps,List.drop_length]
   obtain ⟨o,es,ep,ho,r⟩:=hd
   exact⟨o,es,ep,he d o hdI ho,r⟩
 | succ k ih =>
   intro i s acc hk hi ha hl hit hd hp hR
   have hlt:i < vs.length:=nsub_lt hk
   obtain ⟨x,hx⟩:∃ x,vs[i]?=some x:=⟨vs[i],List.getElem?_eq_getElem hlt⟩
   obtain ⟨kv,hkv⟩:∃ kv,ps[i]?=some kv:=⟨ps[i]'(by lia),List.getElem?_eq_getElem (by lia)⟩
   refine codeAny_builtin BA.entry_uploop ?_
   rw [Around.under_plainId BA.plain_uploop _]
   refine (?_:wpAny _ A.in1 (pyNext (.ref I) >>= _) _ _ s)
   refine wpAny_bind (wpAny_pyNext_list_item hit ⟨_,hl,rfl,c,rfl⟩ (by simpa using hx) fun h' hit' hs=>?_)
   obtain ⟨tp,t,n,rfl,htp⟩:=hp i x kv hx hkv
   obtain ⟨oI,hoI,hcI,hdI'⟩:=id hit
   have htI:tp ≠ I:=fun z=>by rw [z,hoI] at htp;cases htp;simp at hcI
   have htp':=hs.extBut tp _ htI htp
   have hT:({ s with heap:=h' }:Shared).TypeIs (.ref tp) "tuple":=⟨_,htp',rfl⟩
   refine wpAny_bind (wpAny_holding ?_)
   refine wpAny_bind (wpAny_tryCatch ?_)
   unfold Builtin.Dict.pairItems
   refine wpAny_bind (wpAny_typeOf hT ?_)
   refine wpAny_bind (wpAny_seqItems htp' rfl (wpAny_pure ?_))
   refine wpAny_holding ?_
   have hd':h'.DictOf (intKind prog w) d acc:=by
     obtain ⟨o,es,ep,ho,r⟩:=hd
     exact⟨o,es,ep,hs.extBut d o hdI ho,r⟩
   refine wpAny_dictSet_pairs (s:={ s with heap:=h' }) (k:=kv.1) (intKind_is _ _ _ _) hd' (fun h2 hd2 hs2=>?_) (by rw [sizeLine_eq];lia)
   obtain ⟨od,_,_,hod,⟨hcd,_⟩,_⟩:=hd'
   have htd:tp ≠ d:=fun z=>by rw [z,hod] at htp';cases htp';simp at hcd
   have hId:I ≠ d:=Ne.symm hdI
   have keep:∀ b o,b ≠ I->b ≠ d->s.heap.get? b=some o->h2.get? b=some o:=fun b o h1 h3 e=>(hs2.2 b h3).trans (hs.extBut b o h1 e)
   refine wpAny_pure ⟨plainId_quiet BA.plain_uploop _,?_⟩
   have e1:rawInt ((i:Int) + 1)=rawInt ((i + 1:Nat):Int):=by push_cast;rfl
   rw [e1]
   refine ih (i + 1) _ (stored acc kv.1 kv.2) (nsub_succ hk) hlt (by have:=stored_length acc kv.1 kv.2;exact Nat.le_trans this (Nat.succ_le_succ ha)) (keep l _ hlI hld hl) ?_ hd2 (fun j x' kv' hx' hkv'=>?_) (fun h3 tk hd3 hk3=>?_)
   . obtain ⟨o,ho,r⟩:=hit'
     exact⟨o,(hs2.2 I hId).trans ho,r⟩
   . obtain ⟨tp',t',n',rfl,htp2⟩:=hp j x' kv' hx' hkv'
     have h1:tp' ≠ I:=fun z=>by rw [z,hoI] at htp2;cases htp2;simp at hcI
     have h2':tp' ≠ d:=fun z=>by
       obtain ⟨o,es,ep,ho,⟨hc,_⟩,_⟩:=hd
       rw [z,ho] at htp2;cases htp2;simp at hc
     exact⟨tp',t',n',rfl,keep tp' _ h1 h2' htp2⟩
   . refine hR h3 tk ?_ (fun b o h1 h2 e=>hk3 b o h1 h2 (keep b o h1 h2 e))
     have hpl:i < ps.length:=by lia
     have hdrop:ps.drop i=kv :: ps.drop (i + 1):=by
       rw [List.drop_eq_getElem_cons hpl]
       rw [List.getElem?_eq_getElem hpl] at hkv
       injection hkv with hkv;rw [hkv]
     rw [hdrop]
     exact hd3
theorem dict_of_pairs {l:Addr} {vs:List Value} {ps:List (Int × Value)} {c:Nat} (hh:A.handled=none) (hl:s.heap.get? l=some { cls:=.type "list",data:=.seq vs.toArray c }) (hps:ps.length=vs.length) (hz:vs.length<=1000000)
   (hp:∀ (j:Nat) x kv,vs[j]?=some x->ps[j]?=some kv->PairAt s.heap x kv) {Q:VS}
   (h:∀ h' tk,h'.DictOf (intKind prog w) s.heap.objs.size (putAll stored [] ps)->(∀ b o,s.heap.get? b=some o->h'.get? b=some o)->Q (.ref s.heap.objs.size) { s with heap:=h',toks:=tk }) :
   wpAny (model prog w) A (call (.type "dict") [.ref l]) Q E s:=by
 refine callType_codes (Q₁:=fun obj s1=>obj=.ref s.heap.objs.size/\s1={ s with heap:=s.heap.push { cls:=.type "dict",data:=.dict #[] } }) F.kt_called_dict (F.kt_typeCall_dict_1 _) F.entry_dict_init (kt_code_dict_new _ ⟨rfl,rfl⟩) ?_
 rintro obj s1 ⟨rfl,rfl⟩
 let D:=s.heap.objs.size
 let H1:=s.heap.push { cls:=.type "dict",data:=.dict #[] }
 have hnew:H1.DictOf (intKind prog w) D []:=Heap.DictOf.new s.heap
 have hl1:H1.get? l=some { cls:=.type "list",data:=.seq vs.toArray c }:=Heap.get?_push_of_some _ hl
 have k1:∀ b o,s.heap.get? b=some o->H1.get? b=some o:=fun b o e=>Heap.get?_push_of_some _ e
 refine ⟨hnew.typeIs (s:={ s with heap:=H1 }),F.args_dict_init_2 _ _,?_⟩
 unfold Builtin.«dict.__init__»
 refine wpAny_bind ?_
 refine wpAny_bind (wpAny_notOrdered_dict (hnew.typeIs (s:={ s with heap:=H1 })) ?_)
 refine wpAny_pure ?_
 refine (?_:wpAny _ _ (Builtin.Dict.updateFrom "dict.__init__" s.heap.objs.size (.ref l) [] .none) _ _ _)
 have hT:({ s with heap:=H1 }:Shared).TypeIs (.ref l) "list":=⟨_,hl1,rfl⟩
 refine wpAny_bind (wpAny_typeOf hT ?_)
 refine wpAny_bind (miss_list (s:={ s with heap:=H1 }) hl1 BA.list_keys (by decide +kernel) hh (fun h2 tk k2=>?_) (by rw [sizeLine_eq];decide +kernel))
 refine wpA_pos ((show (none:Option Value).isNone=true from rfl)) ?_
 refine wpAny_bind (wpAny_rule ?_)
 have hl2:=k2 _ _ hl1
 have hltD:D < h2.objs.size:=by
   obtain ⟨o,es,ep,ho,r⟩:=hnew
   exact Heap.lt_size (k2 _ _ ho)
 refine wpAny_bind (wpAny_pyIter_list (s:={ s with heap:=h2,toks:=tk }) ⟨_,hl2,rfl,c,rfl⟩ ?_)
 let I:=h2.objs.size
 let H3:=h2.push { cls:=.type "list_iterator",data:=.fields #[.ref l,.int 0 0] }
 have k3:∀ b o,h2.get? b=some o->H3.get? b=some o:=fun b o e=>Heap.get?_push_of_some _ e
 have hlD:l ≠ D:=Nat.ne_of_lt (Heap.lt_size hl)
 refine wpAny_pure ⟨plainId_quiet BA.plain_uploop _,?_⟩
 refine uploop (A:=A.in1) (prog:=prog) (w:=w) (vs:=vs) (ps:=ps) (c:=c) hh (Nat.ne_of_lt hltD) (Nat.ne_of_lt (Heap.lt_size hl2)) hlD hps hz vs.length 0 { s with heap:=H3,toks:=tk } [] rfl (Nat.zero_le _) (Nat.le_refl _) (k3 _ _ hl2) ⟨_,Heap.get?_push_size _ rfl,rfl,rfl⟩ ?_ (fun j x kv hx hkv=>?_) (fun h' tk' hd hk=>?_)
 . obtain ⟨o,es,ep,ho,r⟩:=hnew
   exact⟨o,es,ep,k3 _ _ (k2 _ _ ho),r⟩
 . obtain ⟨tp,t,n,rfl,htp⟩:=hp j x kv hx hkv
   exact⟨tp,t,n,rfl,k3 _ _ (k2 _ _ (k1 _ _ htp))⟩
 . refine ⟨rfl,h h' tk' hd fun b o e=>?_⟩
   have h1:=Heap.lt_size e
   exact hk b o (Nat.ne_of_lt (Nat.lt_trans h1 hltD)) (Nat.ne_of_lt h1) (k3 _ _ (k2 _ _ (k1 _ _ e)))
end
end Mn
namespace Mn
set_option backward.match.sparseCases false
variable {G:GC} {n:Nat} {F:FC} {K:Frag}
noncomputable def lenM:MV->Own->Option Nat
 | .ref l,O=>match O l with
   | some (.list xs)=>some xs.length
   | some (.barr b)=>some b.length
   | _=>none
 | .bytes b,_=>some b.length
 | .ilist xs,_=>some xs.length
 | _,_=>none
theorem lenM_ref {O:Own} {l:Addr} {o:MObj} {k:Nat} (h:O l=some o) (e:(match some o with
   | some (.list xs)=>some xs.length
   | some (.barr b)=>some b.length
   | _=>none)=some k):lenM (.ref l) O=some k :=
 (congrArg (fun o:Option MObj=>match o with
   | some (.list xs)=>some xs.length
   | some (.barr b)=>some b.length
   | _=>none) h).trans e
theorem lenO_inv {o:Option MObj} {k:Nat} (h:(match o with
   | some (.list xs)=>some xs.length
   | some (.barr b)=>some b.length
   | _=>none)=some k):(∃ xs,o=some (.list xs)/\xs.length=k) \/ ∃ b,o=some (.barr b)/\b.length=k:=by
 cases o with
 | none=>cases h
 | some o=>cases o with
   | list xs=>exact .inl ⟨xs,rfl,Option.some.inj h⟩
   | barr b=>exact .inr ⟨b,rfl,Option.some.inj h⟩
   | _=>cases h
noncomputable def cN:CT:=fun ms O Q E=>∃ v k,ms=[v]/\lenM v O=some k/\yL k/\Q (.int (k:Int)) O
theorem lI:SimC G n F (.builtin "len") cN:=by
 intro A R J O s vs ms Qm Em Q E a hv h K' KE
 obtain ⟨v,k,rfl,hl,hy,h⟩:=h
 obtain ⟨u,rfl,r⟩:=hv.one
 unfold yL at hy
 cases v with
 | ref l =>
   cases r.r
   rcases lenO_inv (o:=O l) hl with ⟨xs,e,rfl⟩ | ⟨b,e,rfl⟩
   ·
     obtain ⟨us,j,hus,rx⟩:=(a.rel.own _ _ e).2
     have hlen:=rx.length
     refine lift <| call_len_list (items:=us.toArray) ⟨_,hus,rfl,j,rfl⟩ (by rw [List.size_toArray,hlen];lia) ?_
     rw [List.size_toArray,hlen]
     exact K1.tok K' a (.int ..) h
   ·
     obtain ⟨bs,hbs,rb⟩:=(a.rel.own _ _ e).2
     have hlen:bs.size=b.length:=by rw [<- rb,oC]
     refine lift <| ba_len hbs (by rw [hlen];lia) ?_
     rw [hlen]
     exact K1.tok K' a (.int ..) h
 | bytes b =>
   cases hl
   obtain ⟨b,t,rfl,rfl⟩:=r.y
   ·
     rw [oC] at h hy
     exact lift <| len_bytes (lE hy) (K1.tok K' a (.int ..) h)
 | ilist xs =>
   cases hl
   obtain ⟨_,_,_,rfl,e,hi⟩:=r.x
   ·
     have hlen:=hi.length
     refine lift <| call_len_list (items:=_) ⟨_,a.rel.base _ _ e,rfl,_,rfl⟩ (by rw [List.size_toArray,hlen];lia) ?_
     rw [List.size_toArray,hlen]
     exact K1.tok K' a (.int ..) h
 | _=>cases hl
noncomputable def cAbs:CT:=fun ms O Q E=>∃ i,ms=[.int i]/\Q (.int (i.natAbs:Int)) O
theorem abs_sim:SimC G n F (.builtin "abs") cAbs:=by
 intro A R J O s vs ms Qm Em Q E a hv h K' KE
 obtain ⟨i,rfl,h⟩:=h
 obtain ⟨u,rfl,r⟩:=hv.one
 obtain ⟨_,rfl⟩:=r.i
 refine lift <| call_abs_int fun u tk=>?_
 have e:(if i < 0 then -i else i)=(i.natAbs:Int):=by split <;> lia
 rw [e]
 exact K1.tok K' a (.int ..) h
noncomputable def cMax:CT:=fun ms O Q E=>∃ i j,ms=[.int i,.int j]/\Q (.int (max i j)) O
theorem max_sim:SimC G n F (.builtin "max") cMax:=by
 intro A R J O s vs ms Qm Em Q E a hv h K' KE
 obtain ⟨i,j,rfl,h⟩:=h
 obtain ⟨u,u',rfl,r,r'⟩:=hv.two
 obtain ⟨_,rfl⟩:=r.i;obtain ⟨_,rfl⟩:=r'.i
 refine lift <| max_two_ints R.handled fun h' tk k=>?_
 have hQ:∀ t,VE G.hB O h' (.int (max i j) t) (.int (max i j)):=fun t=>.int ..
 split
 . rename_i hlt
   have:max i j=j:=by lia
   exact K1.grow K' a k (m:=.int (max i j)) (by rw [this];exact .int ..) h
 . rename_i hlt
   have:max i j=i:=by lia
   exact K1.grow K' a k (m:=.int (max i j)) (by rw [this];exact .int ..) h
noncomputable def cMin:CT:=fun ms O Q E=>∃ i j,ms=[.int i,.int j]/\Q (.int (min i j)) O
theorem min_sim:SimC G n F (.builtin "min") cMin:=by
 intro A R J O s vs ms Qm Em Q E a hv h K' KE
 obtain ⟨i,j,rfl,h⟩:=h
 obtain ⟨u,u',rfl,r,r'⟩:=hv.two
 obtain ⟨_,rfl⟩:=r.i;obtain ⟨_,rfl⟩:=r'.i
 refine lift <| min_two_ints R.handled fun h' tk k=>?_
 split
 . rename_i hlt
   have:min i j=j:=by lia
   exact K1.grow K' a k (m:=.int (min i j)) (by rw [this];exact .int ..) h
 . rename_i hlt
   have:min i j=i:=by lia
   exact K1.grow K' a k (m:=.int (min i j)) (by rw [this];exact .int ..) h
noncomputable def cSum:CT:=fun ms O Q E=>∃ (l:Addr) (xs:List Int),ms=[.ref l]/\O l=some (.list (xs.map .int))/\Q (.int xs.sum) O
theorem sum_sim:SimC G n F (.builtin "sum") cSum:=by
 intro A R J O s vs ms Qm Em Q E a hv h K' KE
 obtain ⟨l,xs,rfl,hl,h⟩:=h
 obtain ⟨u,rfl,r⟩:=hv.one
 cases r.r
 obtain ⟨us,j,hus,rx⟩:=(a.rel.own _ _ hl).2
 have hi:=iN rx
 obtain ⟨ys,hy⟩:=hi.allInts.items
 have hL:s.heap.IsList l (intItems ys):=hy ▸ ⟨_,hus,rfl,j,rfl⟩
 refine lift <| sum_intListG R.handled hL fun h' tk t' hk=>?_
 have e1:xs=ys.toList.map (·.1):=by
   rw [<- nums_intItems,<- hy]
   exact (show numsOf us.toArray.toList=xs from hi.numsOf).symm
 have e2:preSum (numAt ys) ys.size=xs.sum:=by
   rw [preSum_eq,List.take_of_length_le (by simp),e1]
 rw [e2]
 exact K1.grow K' a hk (.int ..) h
noncomputable def cInt:CT:=fun ms O Q E=>∃ b:Bool,ms=[.bool b]/\Q (.int (if b then 1 else 0)) O
theorem int_sim:SimC G n F (.type "int") cInt:=by
 intro A R J O s vs ms Qm Em Q E a hv h K' KE
 obtain ⟨b,rfl,h⟩:=h
 obtain ⟨u,rfl,r⟩:=hv.one
 cases r.b
 exact lift <| call_int_bool (K1.tok K' a (.int ..) h)
noncomputable def oct? (b:List Int):Prop:=∀ i ∈ b,0<=i/\i < 256
noncomputable def cBytes:CT:=fun ms O Q E=>∃ v,ms=[v]/\match v with
 | .bytes b=>Q (.bytes b) O
 | .ref l=>(∃ b,O l=some (.barr b)/\yL b.length/\Q (.bytes b) O) \/ (∃ xs:List Int,O l=some (.list (xs.map .int))/\oct? xs/\yL xs.length/\Q (.bytes xs) O)
 | _=>False
theorem octs_byteArr {xs:List Int} (h:oct? xs):octs (byteArr xs)=xs:=by
 unfold octs byteArr
 rw [List.map_map]
 have:∀ l:List Int,(∀ i ∈ l,0<=i/\i < 256)->l.map ((fun u:UInt8=>(u.toNat:Int)) ∘ fun n:Int=>n.toNat.toUInt8)=l:=by
   intro l hl
   induction l with
   | nil=>rfl
   | cons x r ih =>
     rw [List.map_cons,ih fun i hi=>hl i (.tail _ hi)]
     have:=hl x (.head _)
     congr 1
     simp only [Function.comp,UInt8.toNat_ofNat',Nat.toUInt8]
     lia
 exact this xs h
theorem bytes_sim:SimC G n F (.type "bytes") cBytes:=by
 intro A R J O s vs ms Qm Em Q E a hv h K' KE
 obtain ⟨v,rfl,h⟩:=h
 obtain ⟨u,rfl,r⟩:=hv.one
 cases v with
 | bytes b =>
   obtain ⟨b,t,rfl,rfl⟩:=r.y
   . exact lift <| bytes_of_bytes (K1.now K' a (.bytes ..) h)
 | ref l =>
   cases r.r
   rcases h with ⟨b,hl,hy,h⟩ | ⟨xs,hl,ho,hy,h⟩
   . obtain ⟨bs,hbs,rb⟩:=(a.rel.own _ _ hl).2
     subst rb
     unfold yL at hy
     rw [oC] at hy
     exact lift <| bytes_of_ba hbs (by rw [sizeLine_eq];exact lE hy) (K1.tok K' a (.bytes ..) h)
   . obtain ⟨us,j,hus,rx⟩:=(a.rel.own _ _ hl).2
     have hi:=iN rx
     have hlen:=hi.length
     unfold yL at hy
     refine lift <| call_bytes_ints ⟨_,hus,rfl,j,rfl⟩ hi (fun n hn=>ho n hn) (by rw [sizeLine_eq];lia) R.handled fun h' t k hk=>?_
     refine K1.grow K' a hk (m:=.bytes xs) ?_ h
     rw [<- octs_byteArr ho]
     rw [octs_byteArr ho]
     have:=VE.bytes (hB:=G.hB) (O:=O) (h:=h') (byteArr xs) t
     rwa [octs_byteArr ho] at this
 | _=>exact h.elim
noncomputable def cList:CT:=fun ms O Q E=>∃ v,ms=[v]/\match v with
 | .bytes b=>yL b.length/\∀ r,O r=none->Q (.ref r) (upd O r (.list (b.map .int)))
 | .ref l=>∃ xs,O l=some (.list xs)/\yL xs.length/\∀ r,O r=none->Q (.ref r) (upd O r (.list xs))
 | _=>False
theorem list_sim:SimC G n F (.type "list") cList:=by
 intro A R J O s vs ms Qm Em Q E a hv h K' KE
 obtain ⟨v,rfl,h⟩:=h
 obtain ⟨u,rfl,r⟩:=hv.one
 cases v with
 | bytes b =>
   obtain ⟨hy,h⟩:=h
   obtain ⟨b,t,rfl,rfl⟩:=r.y
   ·
     unfold yL at hy
     rw [oC] at hy
     refine lift <| list_of_bytes R.handled (by rw [sizeLine_eq];exact lE hy) fun h' tk acc' c' hk hS hacc=>?_
     refine K1.alloc K' a (h':=h') (tk:=tk) hk (gE _) (mo:=.list ((octs b).map .int)) ?_ h
     refine ⟨acc'.toList,c',hS,?_⟩
     obtain ⟨hsz,hit⟩:=hacc
     have:∀ (l:List Value) (m:List MV),l.length=m.length->(∀ (i:Nat) v y,l[i]?=some v->m[i]?=some y->VE G.hB (upd O s.heap.objs.size (.list ((octs b).map .int))) h' v y)->VR G.hB (upd O s.heap.objs.size (.list ((octs b).map .int))) h' l m:=by
       intro l
       induction l with
       | nil=>intro m hm _;cases m with | nil=>exact .nil | cons=>simp at hm
       | cons v l ih =>
         intro m hm hp
         cases m with
         | nil=>simp at hm
         | cons y m=>exact .cons (hp 0 v y rfl rfl) (ih m (by simpa using hm) fun i v y h1 h2=>hp (i + 1) v y h1 h2)
     refine this _ _ (by rw [List.length_map,oC,Array.length_toList];exact hsz) fun i v y h1 h2=>?_
     obtain ⟨c,u,hc,rfl⟩:=hit i v (by simpa using h1)
     rw [List.getElem?_map,show (octs b)[i]?=some (c.toNat:Int) from KBw.ints_get hc] at h2
     cases h2
     exact .int ..
 | ref l =>
   cases r.r
   obtain ⟨xs,hl,hy,h⟩:=h
   obtain ⟨us,j,hus,rx⟩:=(a.rel.own _ _ hl).2
   have hlen:=rx.length
   unfold yL at hy
   refine lift <| call_list_seq l (T:="list") (.inl rfl) hus rfl rfl (fun h' c' hk hD=>?_) (by rw [List.size_toArray,sizeLine_eq];lia)
   exact K1.alloc K' a (h':=h') (tk:=s.toks) hk (gE _) (mo:=.list xs) ⟨us,c',hD,rx.mono (kd_alloc hk (gE _) (a.rel.none_of (gE _)))⟩ h
 | _=>exact h.elim
noncomputable def cBarr:CT:=fun ms O Q E=>(ms=[]/\∀ r,O r=none->Q (.ref r) (upd O r (.barr []))) \/ ∃ b,ms=[.bytes b]/\yL b.length/\∀ r,O r=none->Q (.ref r) (upd O r (.barr b))
theorem barr_sim:SimC G n F (.type "bytearray") cBarr:=by
 intro A R J O s vs ms Qm Em Q E a hv h K' KE
 rcases h with ⟨rfl,h⟩ | ⟨b,rfl,hy,h⟩
 . obtain rfl:=hv.zero
   refine ba_make0 fun h' e hk=>?_
   exact K1.alloc K' a (h':=h') (tk:=s.toks) hk (gE _) (mo:=.barr []) ⟨#[],e,rfl⟩ h
 . obtain ⟨u,rfl,r⟩:=hv.one
   obtain ⟨b,t,rfl,rfl⟩:=r.y
   ·
     unfold yL at hy
     rw [oC] at hy
     refine ba_make1 (by rw [sizeLine_eq];exact lE hy) fun h' e hk=>?_
     exact K1.alloc K' a (h':=h') (tk:=s.toks) hk (gE _) (mo:=.barr (octs b)) ⟨b,e,rfl⟩ h
noncomputable def cBApp:CT:=fun ms O Q E=>∃ l b i,ms=[.ref l,.int i]/\O l=some (.barr b)/\0<=i/\i < 256/\yL b.length/\Q .none (upd O l (.barr (b ++ [i])))
theorem bapp_sim:SimC G n F (.builtin "bytearray.append") cBApp:=by
 intro A R J O s vs ms Qm Em Q E a hv h K' KE
 obtain ⟨l,b,i,rfl,hl,h0,h1,hy,h⟩:=h
 obtain ⟨u,u',rfl,r,r'⟩:=hv.two
 cases r.r;obtain ⟨_,rfl⟩:=r'.i
 obtain ⟨bs,hbs,rfl⟩:=(a.rel.own _ _ hl).2
 unfold yL at hy
 rw [oC] at hy
 refine ba_append hbs h0 h1 (by rw [sizeLine_eq];exact Nat.succ_le_of_lt (le_lt hy)) fun h' e hs=>?_
 have hu:∀ b o,b ≠ l->s.heap.get? b=some o->h'.get? b=some o:=fun b o hb e=>(hs.2 b hb).trans e
 have e2:octs (bs.push i.toNat.toUInt8)=octs bs ++ [i]:=by
   unfold octs
   simp
   lia
 exact K' .none .none _ _ (a.set hl (tk:=s.toks) hu (mo':=.barr (octs bs ++ [i])) ⟨_,e,e2⟩) (Step.set hl hu ⟨_,e⟩) .none h
noncomputable def cDict:CT:=fun ms O Q E=>∃ l,ms=[.ref l]/\((∃ es,O l=some (.dict es)/\yL es.length/\∀ r,O r=none->Q (.ref r) (upd O r (.dict es))) \/
 ∃ ps:List (Int × MV),O l=some (.list (ps.map fun kv=>.tup [.int kv.1,kv.2]))/\yL ps.length/\∀ r,O r=none->Q (.ref r) (upd O r (.dict (putAll vPut [] ps))))
theorem DR.putAll {hB h:Heap} {O:Own} {ps:List (Int × Value)} {qs:List (Int × MV)} (x:DR hB O h ps qs):∀ {es:List (Int × Value)} {ms:List (Int × MV)},DR hB O h es ms->DR hB O h (putAll stored es ps) (putAll vPut ms qs):=by
 induction x with
 | nil=>exact fun y=>y
 | @cons k _ _ _ _ x r ih=>exact fun y=>ih (y.put k x)
theorem pairs_of {hB h:Heap} {O:Own} {vs:List Value} {ps:List (Int × MV)} (x:VR hB O h vs (ps.map fun kv=>.tup [.int kv.1,kv.2])) :
   ∃ qs:List (Int × Value),qs.length=vs.length/\DR hB O h qs ps/\∀ (j:Nat) x kv,vs[j]?=some x->qs[j]?=some kv->PairAt h x kv:=by
 induction ps generalizing vs with
 | nil=>cases x.zero;exact⟨[],rfl,.nil,fun j x kv h=>Option.noConfusion rfl (heq_of_eq h)⟩
 | cons p r ih =>
   obtain ⟨v,ws,rfl,x,y⟩:=x.uncons
   obtain ⟨qs,h1,h2,h3⟩:=ih y
   obtain ⟨a,us,n,rfl,hn,e,hvs⟩:=x.t
   obtain ⟨v1,v2,rfl,r1,r2⟩:=hvs.two
   obtain ⟨t,rfl⟩:=r1.i
   refine ⟨(p.1,v2) :: qs,congrArg Nat.succ h1,.cons r2 h2,fun j x kv hx hkv=>?_⟩
   cases j with
   | zero=>cases Option.some.inj hx;cases Option.some.inj hkv;exact⟨a,t,n,rfl,e⟩
   | succ j=>exact h3 j x kv hx hkv
theorem dict_sim (hsys:G.hB.get? sysModules ≠ none):SimC G n F (.type "dict") cDict:=by
 intro A R J O s vs ms Qm Em Q E a hv h K' KE
 obtain ⟨l,rfl,h⟩:=h
 obtain ⟨u,rfl,r⟩:=hv.one
 cases r.r
 rcases h with ⟨es,hl,hy,h⟩ | ⟨ps,hl,hy,h⟩
 . obtain ⟨kvs,hm,rx⟩:=(a.rel.own _ _ hl).2
   have hlen:=rx.length
   unfold yL at hy
   refine lift <| kt_call_dict (not_sys hsys a.rel hl) hm (by rw [sizeLine_eq];lia) fun h' hm' hs=>?_
   have hk:∀ b o,s.heap.get? b=some o->h'.get? b=some o:=fun b o e=>hs.extBut b o (Nat.ne_of_lt (Heap.lt_size e)) (Heap.get?_push_of_some _ e)
   exact K1.alloc K' a (h':=h') (tk:=s.toks) hk (gE _) (mo:=.dict es) ⟨kvs,hm',rx.mono (kd_alloc hk (gE _) (a.rel.none_of (gE _)))⟩ h
 . obtain ⟨us,j,hus,rx⟩:=(a.rel.own _ _ hl).2
   have hlen:=rx.length
   rw [List.length_map] at hlen
   unfold yL at hy
   obtain ⟨qs,h1,h2,h3⟩:=pairs_of rx
   refine lift <| dict_of_pairs R.handled hus h1 (by lia) h3 fun h' tk hm' hk=>?_
   exact K1.alloc K' a (h':=h') (tk:=tk) hk (gE _) (mo:=.dict (putAll vPut [] ps)) ⟨_,hm',(DR.putAll h2 .nil).mono (kd_alloc hk (gE _) (a.rel.none_of (gE _)))⟩ h
set_option backward.match.sparseCases true
end Mn
namespace Mn
variable {G:GC} {n:Nat} {F:FC} {K:Frag}
theorem notStill {h:Heap} {a:Addr} {o o':Obj} (e:h.get? a=some o') (hc:o'.cls ≠ .type "tuple"/\o'.cls ≠ .type "function") {b:Addr} (hb:h.get? b=some o) (st:Still o):b ≠ a:=fun z=>by
 rw [z,e] at hb;cases hb
 rcases st.1 with q | q
 . exact hc.1 q
 . exact hc.2 q
noncomputable def zipM:List MV->List MV->List MV
 | a :: r,b :: q=>.tup [a,b] :: zipM r q
 | _,_=>[]
theorem zipM_get {xs:List MV}:∀ {ys:List MV} {i:Nat} {m:MV},(zipM xs ys)[i]?=some m->∃ a b,xs[i]?=some a/\ys[i]?=some b/\m=.tup [a,b]:=by
 induction xs with
 | nil=>exact fun h=>nomatch (show (none:Option MV)=_ from h)
 | cons a r ih =>
   intro ys i m h
   cases ys with
   | nil=>exact nomatch (show (none:Option MV)=_ from h)
   | cons b q =>
     cases i with
     | zero=>exact⟨a,b,rfl,rfl,(Option.some.inj h).symm⟩
     | succ i=>exact ih h
theorem zipM_length (xs:List MV):∀ ys:List MV,(zipM xs ys).length=min xs.length ys.length:=by
 induction xs with
 | nil=>exact fun _=>(Nat.zero_min _).symm
 | cons a r ih =>
   intro ys
   cases ys with
   | nil=>exact (Nat.min_zero _).symm
   | cons b q=>exact (congrArg Nat.succ (ih q)).trans (Nat.succ_min_succ _ _).symm
theorem zip_end {prog:Program} {w:World} {A:Around} {E:VS} {s:Shared} {z TI TO i1 i2 l1 l2:Addr} {k1 k2:Nat} {xs ys:Array Value} {a b:Value} {Q:Option Value->Shared->Prop} (hh:A.handled=none) (D:ZipApart z TI TO i1 i2 l1 l2)
   (hz:IsZip s.heap z TI TO .none) (hTI:IsPair s.heap TI (.ref i1) (.ref i2)) (hTO:IsPair s.heap TO a b)
   (h1:s.heap.IsListIter i1 l1 k1) (h2:s.heap.IsListIter i2 l2 k2) (hl1:s.heap.IsList l1 xs) (hl2:s.heap.IsList l2 ys) (hend:xs[k1]?=none \/ ys[k2]?=none)
   (hQ:∀ h' p q,IsPair h' TO p q->(∀ c o,c ≠ z->c ≠ TO->c ≠ i1->c ≠ i2->s.heap.get? c=some o->h'.get? c=some o)->Q none { s with heap:=h' }):wpAny (model prog w) A (pyNext (.ref z)) Q E s:=by
 have hT:s.TypeIs (.ref z) "zip":=⟨_,hz,rfl⟩
 have fin:∀ (h':Heap) (e:Addr) p q,IsPair h' TO p q->(∀ c o,c ≠ z->c ≠ TO->c ≠ i1->c ≠ i2->s.heap.get? c=some o->h'.get? c=some o)->(∃ o,h'.get? e=some o/\o.cls=.type "StopIteration") ->
     wpAny (model prog w) A (do if <- isInstance (.ref e) (.type "StopIteration") then pure none else throw (.ref e)) Q E { s with heap:=h' }:=by
   rintro h' e p q hp hk ⟨o,ho,hc⟩
   refine wpAny_bind (wpAny_isInstance (T:="StopIteration") (b:=true) ⟨o,ho,hc⟩ isSubtype_stop ?_)
   exact wpAny_pure (hQ _ p q hp hk)
 refine wpAny_bind (wpAny_attempt (wpAny_callSpecial?_slot (name:=Str.ofString "__next__") hT F.slot_zip_next (wpAny_call_entry F.slot_zip_next hT F.entry_zip_next ?_ (F.args_zip_next_1 _))))
 refine (?_:wpAny _ _ (field (.ref z) 2 >>= _) _ _ _)
 refine wpAny_bind (wpAny_field hz rfl (x:=.bool false) rfl ?_)
 refine (?_:wpAny _ _ (field (.ref z) 3 >>= _) _ _ _)
 refine wpAny_bind (wpAny_field hz rfl (x:=.ref TI) rfl (wpAny_bind (wpAny_seqItems hTI rfl ?_)))
 refine (?_:wpAny _ _ (Builtin.SmallTypes.ownedTupleIsFree (.ref z) >>= _) _ _ _)
 refine wpAny_bind (wpAny_bind (wpAny_field hz rfl (x:=.none) rfl (wpAny_pure ?_)))
 simp only [if_true]
 refine wpAny_bind (wpAny_rule (wpAny_bind (wpAny_field hz rfl (x:=.ref TO) rfl ?_)))
 refine wpAny_bind (wpAny_setField_rec hz dC fun ha hza hsa=>wpAny_bind ?_)
 replace hza:IsZip ha z TI TO .ellipsis:=hza
 simp only [List.zipIdx_cons,List.zipIdx_nil,List.forIn_cons,List.forIn_nil]
 refine wpAny_bind (wpAny_bind (wpAny_onRaise ?_))
 have hTOa:IsPair ha TO a b:=hsa.extBut _ _ D.TOz hTO
 cases hx:xs[k1]? with
 | none =>
   refine wpAny_bind (wpAny_nextOf_list_end hh (h1.extBut hsa.extBut D.i1z) (hl1.extBut hsa.extBut D.l1z) hx fun hb e hsb he=>?_)
   obtain ⟨oe,hoe,hce⟩:=he
   have hzb:IsZip hb z TI TO .ellipsis:=hsb _ _ D.i1z.symm hza
   have hez:e ≠ z:=fun x=>by subst x;cases one hzb hoe;simp at hce
   refine wpAny_setField_rec hzb dC fun hc _ hsc=>?_
   exact fin hc e a b (hsc.extBut _ _ D.TOz (hsb _ _ D.TOi1 hTOa)) (fun c o c1 _ c3 _ x=>hsc.extBut _ _ c1 (hsb _ _ c3 (hsa.extBut _ _ c1 x))) ⟨oe,hsc.extBut _ _ hez hoe,hce⟩
 | some x =>
   have hy:ys[k2]?=none:=by rcases hend with h | h;exact na h hx;exact h
   refine wpAny_bind (wpAny_nextOf_list_item (h1.extBut hsa.extBut D.i1z) (hl1.extBut hsa.extBut D.l1z) hx fun hb h1b hsb=>wpAny_pure ?_)
   have hTOb:IsPair hb TO a b:=hsb.extBut _ _ D.TOi1 hTOa
   refine wpAny_bind (wpAny_seqItems hTOb rfl (wpAny_bind (wpAny_updateSeq_pair hTOb fun hc hTOc hsc=>wpAny_bind (wpAny_letGo (wpAny_pure ?_)))))
   replace hTOc:IsPair hc TO x b:=hTOc
   refine wpAny_bind (wpAny_bind (wpAny_onRaise ?_))
   refine (?_:wpAny _ _ (Builtin.SmallTypes.nextOf (.ref i2) >>= _) _ _ _)
   refine wpAny_bind (wpAny_nextOf_list_end hh (((h2.extBut hsa.extBut D.i2z).extBut hsb.extBut D.i12.symm).extBut hsc.extBut D.TOi2.symm)
     (((hl2.extBut hsa.extBut D.l2z).extBut hsb.extBut D.l2i1).extBut hsc.extBut D.l2TO) hy fun hd e hsd he=>?_)
   obtain ⟨oe,hoe,hce⟩:=he
   have hzd:IsZip hd z TI TO .ellipsis:=hsd _ _ D.i2z.symm (hsc.extBut _ _ D.TOz.symm (hsb.extBut _ _ D.i1z.symm hza))
   have hez:e ≠ z:=fun x=>by subst x;cases one hzd hoe;simp at hce
   refine wpAny_setField_rec hzd dC fun hf _ hsf=>?_
   exact fin hf e x b (hsf.extBut _ _ D.TOz (hsd _ _ D.TOi2 hTOc)) (fun c o c1 c2 c3 c4 x=>hsf.extBut _ _ c1 (hsd _ _ c4 (hsc.extBut _ _ c2 (hsb.extBut _ _ c3 (hsa.extBut _ _ c1 x))))) ⟨oe,hsf.extBut _ _ hez hoe,hce⟩
theorem iterZip {A:Around} (hh:A.handled=none) {z TI TO i1 i2 l1 l2:Addr} {xs ys:List MV} (D:ZipApart z TI TO i1 i2 l1 l2) {elts:List Expr} {kk:Nat} {pp:Pos} :
   IterG G A z (zipM xs ys) (fun O=>O l1=some (.list xs)/\O l2=some (.list ys)/\O TO=some .hid) [z,TI,i1,i2] [TO]
     (fun i h=>IsZip h z TI TO .none/\IsPair h TI (.ref i1) (.ref i2)/\h.IsListIter i1 l1 i/\h.IsListIter i2 l2 i)
     (fun i v h=>∃ T,v=.ref T/\IsZip h z TI TO (rawInt T)/\IsPair h TI (.ref i1) (.ref i2)/\h.IsListIter i1 l1 i/\h.IsListIter i2 l2 i) (.Tuple elts kk pp) where
 frame:=fun i h h' x k=>⟨k z (.head _) _ x.1,k TI (.tail _ (.head _)) _ x.2.1,Exists.imp (fun o e=>⟨k i1 (.tail _ (.tail _ (.head _))) _ e.1,e.2⟩) x.2.2.1,Exists.imp (fun o e=>⟨k i2 (.tail _ (.tail _ (.tail _ (.head _)))) _ e.1,e.2⟩) x.2.2.2⟩
 cls:=fun i h x b hb=>by
   obtain ⟨h1,h2,⟨o1,e1,c1,_⟩,⟨o2,e2,c2,_⟩⟩:=x
   simp at hb
   rcases hb with rfl | rfl | rfl | rfl
   . exact⟨_,h1,by simp⟩
   . exact⟨_,h2,by simp⟩
   . exact⟨_,e1,by rw [c1];simp⟩
   . exact⟨_,e2,by rw [c2];simp⟩
 hids:=fun O hg b hb=>by simp at hb;subst hb;exact hg.2.2
 item:=fun i m O s Q E hm st H hg hQ=>by
   obtain ⟨hz,hTI,it1,it2⟩:=st
   obtain ⟨g1,g2,g3⟩:=hg
   obtain ⟨x,y,hx,hy,rfl⟩:=zipM_get hm
   obtain ⟨vs,k,hvs,rx⟩:=(H.own _ _ g1).2
   obtain ⟨ws,j,hws,ry⟩:=(H.own _ _ g2).2
   obtain ⟨p,q,hTO⟩:=(H.own _ _ g3).2
   obtain ⟨v,hv,rv⟩:=rx.get hx
   obtain ⟨u,hu,ru⟩:=ry.get hy
   refine wpAny_pyNext_zip_item D hz hTI hTO it1 it2 ⟨_,hvs,rfl,k,rfl⟩ ⟨_,hws,rfl,j,rfl⟩ (by simpa using hv) (by simpa using hu) fun h' a1 a2 a3 a4 a5 a6 hk=>?_
   obtain ⟨o1,e1,c1,_⟩:=id it1
   obtain ⟨o2,e2,c2,_⟩:=id it2
   have sn:∀ b o,Still o->s.heap.get? b=some o->b ≠ z/\b ≠ i1/\b ≠ i2:=fun b o st e=>⟨notStill hz dC e st,notStill e1 (by rw [c1];simp) e st,notStill e2 (by rw [c2];simp) e st⟩
   have kd:Kd O s.heap O h':=⟨fun b o n e st=>⟨n,by
     obtain ⟨q1,q2,q3⟩:=sn b o st e
     exact hk b o q1 (fun zz=>by rw [zz,g3] at n;cases n) q2 q3 e⟩,fun _ _ e=>e⟩
   refine hQ (.ref s.heap.objs.size) h' s.toks (.tup (vs:=[v,u]) (n:=0) (H.none_of (gE _)) a5 (.cons (rv.mono kd) (.cons (ru.mono kd) .nil))) ⟨_,rfl,a1,hk _ _ D.TIz D.TITO D.TIi1 D.TIi2 hTI,a3,a4⟩ (fun b o hb hb' e=>?_) (fun b hb=>?_)
   . have h4:b ≠ TO:=by simpa using hb'
     rcases hb with hb | st
     . simp at hb;exact hk b o hb.1 h4 hb.2.2.1 hb.2.2.2 e
     . obtain ⟨q1,q2,q3⟩:=sn b o st e
       exact hk b o q1 h4 q2 q3 e
   . simp at hb;subst hb;exact⟨_,_,a2⟩
 done:=fun O s Q E st H hg hQ=>by
   obtain ⟨hz,hTI,it1,it2⟩:=st
   obtain ⟨g1,g2,g3⟩:=hg
   obtain ⟨vs,k,hvs,rx⟩:=(H.own _ _ g1).2
   obtain ⟨ws,j,hws,ry⟩:=(H.own _ _ g2).2
   obtain ⟨p,q,hTO⟩:=(H.own _ _ g3).2
   have l1:=rx.length
   have l2:=ry.length
   rw [zipM_length] at it1 it2
   refine zip_end hh D hz hTI hTO it1 it2 ⟨_,hvs,rfl,k,rfl⟩ ⟨_,hws,rfl,j,rfl⟩ ?_ fun h' p' q' hp hk=>?_
   . rcases Nat.le_total xs.length ys.length with h | h
     . left;simp;lia
     . right;simp;lia
   . obtain ⟨o1,e1,c1,_⟩:=id it1
     obtain ⟨o2,e2,c2,_⟩:=id it2
     refine hQ h' s.toks (fun b o hb hb' e=>?_) (fun b hb=>?_)
     . have h4:b ≠ TO:=by simpa using hb'
       rcases hb with hb | st
       . simp at hb;exact hk b o hb.1 h4 hb.2.2.1 hb.2.2.2 e
       . exact hk b o (notStill hz dC e st) h4 (notStill e1 (by rw [c1];simp) e st) (notStill e2 (by rw [c2];simp) e st) e
     . simp at hb;subst hb;exact⟨_,_,hp⟩
 lets:=fun i v s Q E x hQ=>by
   obtain ⟨T,hv,hz,hTI,it1,it2⟩:=x
   subst hv
   refine wpAny_letOwnedTupleGo_zip hz fun h' hz' hs=>?_
   obtain ⟨o1,e1,c1,r1⟩:=id it1
   obtain ⟨o2,e2,c2,r2⟩:=id it2
   refine hQ h' ⟨hz',hs.extBut _ _ D.TIz hTI,⟨o1,hs.extBut _ _ D.i1z e1,c1,r1⟩,⟨o2,hs.extBut _ _ D.i2z e2,c2,r2⟩⟩ fun b o hb e=>?_
   rcases hb with hb | st
   . simp at hb;exact hs.extBut _ _ hb.1 e
   . exact hs.extBut _ _ (notStill hz dC e st) e
end Mn
namespace Mn
variable {G:GC} {n:Nat} {F:FC} {K:Frag}
theorem zip_apart (N l1 l2:Nat) (h1:l1 < N) (h2:l2 < N):ZipApart (N + 4) (N + 2) (N + 3) N (N + 1) l1 l2:=by
 constructor <;> intro z <;> (have z':(_:Nat)=_:=z) <;> lia
theorem zip_four (N b:Nat) (h:b=N + 4 \/ b=N + 2 \/ b=N \/ b=N + 1):N<=b/\b ≠ N + 3:=by lia
noncomputable def itZip (f g:ET):Loc->Own->(List MV->(Own->Prop)->Own->Prop)->(PE)->Prop:=fun J O Q E=>f J O (fun u O1=>g J O1 (fun v O2=>∃ a b xs ys,u=.ref a/\v=.ref b/\O2 a=some (.list xs)/\O2 b=some (.list ys)/\a ≠ b /\
 ∀ t,O2 t=none->Q (zipM xs ys) (fun O=>O a=some (.list xs)/\O b=some (.list ys)/\O t=some .hid) (upd O2 t .hid)) E) E
theorem siZip {elts:List Expr} {kk:Nat} {pp:Pos} {fe e e':Expr} {pos:Pos} {f g:ET} (hfe:SI G n F (eval fe F.env) (mC (.lit (.type "zip")))) (hf:SI G n F (eval e F.env) f) (hg:SI G n F (eval e' F.env) g)
   (hs:eval (.Call fe [e,e'] [] pos) F.env=(do callWith pos (<- eval fe F.env) [] (backTo pos (starEach [e,e'] F.env)) (backToKw pos (keywordEach [] F.env))):=by rfl) (he:backTo pos (starEach [e,e'] F.env)=[(false,eval e F.env),(false,eval e' F.env)]:=by rfl) :
   SimItG G n F (.Tuple elts kk pp) (.Call fe [e,e'] [] pos) (itZip f g):=by
 intro A R J O s Qm Em Q E a h K KE
 rw [hs]
 refine wP (hfe A R J O s (fun v O'=>v=.lit (.type "zip")/\itZip f g J O' Qm Em) (fun _ _=>False) _ E a ⟨rfl,h⟩ (fun v m O₀ s0 a0 S0 r0 h0=>?_) (fun k O' e s' x h=>h.elim))
 obtain ⟨rfl,h0⟩:=h0
 cases r0.l
 rw [he]
 refine wpC_callWith (P:=fun h=>True) (f:=.type "zip") rfl (fun h _=>⟨.machine,.inr (.inl rfl),Looks.of_pure rfl⟩) (wE (wL (hf A R J O₀ s0 _ Em _ E a0 h0 (fun v m O1 s1 a1 S1 r1 h1=>wL ?_) (fun k O' e s' x=>KE k O' e s' (x.after S0)))))
 refine hg A R J O1 s1 _ Em _ E a1 h1 (fun v' m' O2 s2 a2 S2 r2 h2=>lift <| spliced_nil ?_) (fun k O' e s' x=>KE k O' e s' (x.after (S0.trans S1)))
 obtain ⟨l1,l2,xs,ys,rfl,rfl,g1,g2,hne,h2⟩:=h2
 cases r1.r;cases r2.r
 refine ⟨trivial,?_⟩
 obtain ⟨vs,k,hvs,rx⟩:=(a2.rel.own _ _ g1).2
 obtain ⟨ws,j,hws,ry⟩:=(a2.rel.own _ _ g2).2
 have hlt1:=Heap.lt_size hvs
 have hlt2:=Heap.lt_size hws
 have S02:=(S0.trans S1).trans S2
 refine lift <| call_zip_2 ⟨_,hvs,rfl,k,rfl⟩ ⟨_,hws,rfl,j,rfl⟩ fun h' hz hTI hTO hi1 hi2 hsz hk=>lift <| wpAny_pyIter_zip hz ?_
 let N:=s2.heap.objs.size
 have nn:∀ b,N<=b->s2.heap.get? b=none:=fun b hb=>by
   cases q:s2.heap.get? b with
   | none=>rfl
   | some o=>exact absurd (Heap.lt_size q) (Nat.not_lt.mpr hb)
 have hT:s2.heap.get? (N + 3)=none:=nn _ (Nat.le_add_right ..)
 have nσ:∀ b,N<=b->O2 b=none:=fun b hb=>a2.rel.none_of (nn b hb)
 have n0:∀ b,N<=b->s.heap.get? b=none:=fun b hb=>by
   cases q:s.heap.get? b with
   | none=>rfl
   | some o=>obtain ⟨o',e'⟩:=S02.dom b o q;exact na (nn b hb) e'
 have D:ZipApart (N + 4) (N + 2) (N + 3) N (N + 1) l1 l2:=zip_apart N l1 l2 hlt1 hlt2
 have aZ:At G F J (upd O2 (N + 3) .hid) { s2 with heap:=h',toks:=s2.toks }:=a2.alloc (tk:=s2.toks) hk hT (mo:=.hid) ⟨_,_,hTO⟩
 have SZ:Step none O2 (upd O2 (N + 3) .hid) s2 { s2 with heap:=h',toks:=s2.toks }:=Step.alloc (tk:=s2.toks) hk hT (nσ _ (Nat.le_add_right ..))
 refine K _ _ _ _ _ _ _ _ _ aZ (S02.trans SZ) (iterZip R.handled D) ⟨hz,hTI,hi1,hi2⟩ (fun b hb=>?_) (h2 (N + 3) (nσ _ (Nat.le_add_right ..)))
 have hb':N<=b/\b ≠ N + 3:=zip_four N b (by simpa using hb)
 exact⟨n0 b hb'.1,by unfold upd;rw [if_neg hb'.2];exact nσ b hb'.1⟩
noncomputable def itTupD (g:LT):Loc->Own->(List MV->(Own->Prop)->Own->Prop)->(PE)->Prop:=fun J O Q E=>g J O (fun ms O'=>yL ms.length/\Q ms (fun _=>True) O') E
theorem iterTup {A:Around} (hh:A.handled=none) {I t:Addr} {ms:List MV} {vs:List Value} (hne:t ≠ I) (hlen:vs.length=ms.length) (hv:∀ (i:Nat) v m,vs[i]?=some v->ms[i]?=some m->v ≠ .none/\∃ a,m=.ref a/\v=.ref a) :
   IterOK G A I ms (fun _=>True) [I,t] [] (fun i h=>h.IsTupleIter I t i/\∃ n,h.get? t=some { cls:=.type "tuple",data:=.seq vs.toArray n }) where
 frame:=fun i h h' x k=>⟨Exists.imp (fun o e=>⟨k I (.head _) o e.1,e.2⟩) x.1,Exists.imp (fun n e=>k t (.tail _ (.head _)) _ e) x.2⟩
 cls:=fun i h x b hb=>by
   obtain ⟨⟨o,e,c,_⟩,n,e'⟩:=x
   simp at hb
   rcases hb with rfl | rfl
   . exact⟨o,e,by rw [c];simp⟩
   . exact⟨_,e',by simp⟩
 hids:=fun _ _ b hb=>nomatch hb
 item:=fun i m O s Q E hm st H hg hQ=>by
   obtain ⟨it,n,e'⟩:=st
   obtain ⟨o,e,c,_⟩:=id it
   have hlt:i < vs.length:=by rw [hlen];exact (List.getElem?_eq_some_iff.mp hm).1
   obtain ⟨_,a,rfl,hva⟩:=hv i vs[i] m (List.getElem?_eq_getElem hlt) hm
   refine wpAny_pyNext_tuple_item it ⟨_,e',rfl,n,rfl⟩ (x:=vs[i]) (by simp [hlt]) fun h' it' hs=>?_
   have kk:∀ b o,(b ∉ [I,t] \/ Still o)->s.heap.get? b=some o->h'.get? b=some o:=fun b o hb q=>by
     rcases hb with hb | st
     . simp at hb;exact hs.extBut b o hb.1 q
     . exact hs.extBut b o (notStill e (by rw [c];simp) q st) q
   exact hQ _ h' s.toks (by rw [hva];exact .ref a) ⟨it',n,kk t _ (.inr ⟨.inl rfl,by simp⟩) e'⟩ (fun b o hb _ q=>kk b o hb q) (fun b hb=>nomatch hb)
 done:=fun O s Q E st H hg hQ=>by
   obtain ⟨it,n,e'⟩:=st
   obtain ⟨o,e,c,_⟩:=id it
   refine wpAny_pyNext_tuple_end hh it ⟨_,e',rfl,n,rfl⟩ (by simp [hlen]) fun h' hs=>?_
   refine hQ h' s.toks (fun b o hb _ q=>?_) (fun b hb=>nomatch hb)
   rcases hb with hb | st
   . simp at hb;exact hs b o hb.1 q
   . exact hs b o (notStill e (by rw [c];simp) q st) q
 self:=fun i s Q E st hQ=>wpAny_pyIter_tupleiter st.1 hQ
 lets:=fun i t v s Q E st hQ=>by
   obtain ⟨o,e,c,d⟩:=id st.1
   exact letGo_none e c dC (hQ s.heap st fun b o _ e=>e)
noncomputable def allRef (ms:List MV):Prop:=∀ m ∈ ms,∃ a,m=.ref a
theorem siTupD {es:List Expr} {k:Nat} {pos:Pos} {g:LT} (hg:SimL G n F (argsOf es F.env pos) g):SimIt G n F (.Tuple es k pos) (fun J O Q E=>itTupD g J O (fun ms q O'=>allRef ms/\Q ms q O') E):=by
 intro A R J O s Qm Em Q E a h K KE
 refine wpC_Tuple (hg A R J O s _ Em _ E a h (fun vs ms O1 s1 a1 S1 r1 h1=>?_) KE)
 obtain ⟨hl,hr,h1⟩:=h1
 have hlen:=r1.length
 have kk:∀ b o,s1.heap.get? b=some o->(s1.heap.push { cls:=.type "tuple",data:=.seq vs.toArray }).get? b=some o:=fun b o e=>Heap.get?_push_of_some _ e
 have nn:s1.heap.get? s1.heap.objs.size=none:=gE _
 refine lift <| wpAny_newObj_type ?_ (by
   refine (?_:vs.toArray.size<=sizeLine)
   rw [List.size_toArray,r1.length];exact sZ hl)
 let H:=s1.heap.push { cls:=.type "tuple",data:=.seq vs.toArray }
 have hT:H.get? s1.heap.objs.size=some { cls:=.type "tuple",data:=.seq vs.toArray }:=Heap.get?_push_size _ rfl
 refine lift <| wpAny_pyIter_tuple (s:={ s1 with heap:=H }) ⟨_,hT,rfl,0,rfl⟩ ?_
 have kk2:∀ b o,H.get? b=some o->(H.push { cls:=.type "tuple_iterator",data:=.fields #[.ref s1.heap.objs.size,.int 0 0] }).get? b=some o:=fun b o e=>Heap.get?_push_of_some _ e
 have kk3:∀ b o,s1.heap.get? b=some o->(H.push { cls:=.type "tuple_iterator",data:=.fields #[.ref s1.heap.objs.size,.int 0 0] }).get? b=some o:=fun b o e=>kk2 b o (kk b o e)
 have hsz:H.objs.size=s1.heap.objs.size + 1:=Heap.size_push ..
 have nn2:∀ b,s1.heap.objs.size<=b->s1.heap.get? b=none:=fun b hb=>by
   cases q:s1.heap.get? b with
   | none=>rfl
   | some o=>exact absurd (Heap.lt_size q) (Nat.not_lt.mpr hb)
 refine K H.objs.size _ _ _ _ _ _ _ (a1.grow (tk:=s1.toks) kk3) (S1.trans (.grow (tk:=s1.toks) kk3)) (iterTup R.handled (by rw [hsz];exact Nat.ne_of_lt (Nat.lt_succ_self _)) hlen fun i v m hv hm=>?_) ⟨⟨_,Heap.get?_push_size _ rfl,rfl,rfl⟩,0,kk2 _ _ hT⟩ (fun b hb=>?_) h1
 . obtain ⟨c,rfl⟩:=hr m (List.mem_of_getElem? hm)
   obtain ⟨u,hu,ru⟩:=r1.get hm
   cases one hv hu
   cases ru.r
   exact⟨by simp,c,rfl,rfl⟩
 . have hb':s1.heap.objs.size<=b:=by
     simp at hb
     rcases hb with rfl | rfl
     . rw [hsz];exact Nat.le_succ _
     . exact Nat.le_refl _
   refine ⟨?_,a1.rel.none_of (nn2 b hb')⟩
   cases q:s.heap.get? b with
   | none=>rfl
   | some o=>obtain ⟨o',e'⟩:=S1.dom b o q;exact na (nn2 b hb') e'
noncomputable def aLst (k:Nat) (g:ALT):AT:=fun m J O Q=>∃ l ms,m=.ref l/\O l=some (.list ms)/\ms.length=k/\g ms J O Q
theorem asLst {elts:List Expr} {k:Nat} {pos:Pos} {r:ALT} (hr:SimAL G n F ((assignEach elts F.env).map (·.2)) r) (hn:(assignEach elts F.env).length=elts.length:=by rfl) (hs:(assignEach elts F.env).findIdx? (·.1)=none:=by rfl) :
   SimA G n F (assign (.Tuple elts k pos) F.env) (aLst elts.length r):=by
 intro A R J O s v m Qm Q E a hv h K
 obtain ⟨l,ms,rfl,hl,hlen,h⟩:=h
 refine (?_:wpC _ A (do standAt pos;unpack v (assignEach elts F.env)) Q E s)
 refine wP (wS ?_)
 unfold unpack
 rw [hs,hn]
 cases hv.r
 obtain ⟨vs,k',hvs,rx⟩:=(a.rel.own _ _ hl).2
 refine wP (wH ?_)
 have hsz:vs.toArray.size=elts.length:=by rw [List.size_toArray,rx.length,hlen]
 rw [<- hsz]
 refine lift <| kun_itemsOf R.handled ⟨_,hvs,rfl,k',rfl⟩ fun h' he=>?_
 have kk:∀ b o,s.heap.get? b=some o->h'.get? b=some o:=fun b o q=>he b o (Nat.ne_of_lt (Heap.lt_size q)) q
 exact hr A R J O { s with heap:=h' } _ ms Qm Q E (a.grow (tk:=s.toks) kk) (rx.mono (.of kk)) h fun J' O' s' a' S' q'=>K _ _ _ a' (Step.trans (Step.grow (tk:=s.toks) kk) S') q'
noncomputable def sAug (k:Nat) (f:ET):ST:=fun J O Q E=>∃ i,J k=some (.int i)/\f J O (fun v O'=>∃ j,v=.int j/\Q .next (upd J k (.int (i + j))) O') E
theorem bAug {x:Str} {p pos:Pos} {e:Expr} {k:Nat} {f:ET} (hk:F.env.scope.kind=.function) (hl:F.env.kindOf x=some .local) (hi:idx F.vars x=some k) (hf:SI G n F (eval e F.env) f) :
   SimS G n F (exec (.AugAssign (.Name x p) .Add e pos) F.env) (sAug k f):=by
 intro A R J O s Qm Em Q E a h K KE
 obtain ⟨i,hv,h⟩:=h
 rw [exec_AugAssign_Name]
 obtain ⟨m,hns,hm⟩:=a.loc
 have:=hm x
 unfold rget at this
 rw [hi] at this
 simp only [Option.bind_some,hv] at this
 cases e1:m x with
 | none=>rw [e1] at this;exact this.elim
 | some u =>
   rw [e1] at this
   cases this
   refine wP (wS (wP (lift <| wpAny_loadName_local hk hl hns e1 ?_)))
   refine wP (wH (hf A R J O s _ Em _ E a h (fun v m O1 s1 a1 S1 r1 h1=>?_) (fun k O' e s' x=>KE k O' e s' x.weak)))
   obtain ⟨j,rfl,h1⟩:=h1
   obtain ⟨_,rfl⟩:=r1.i
   refine wP (wS (wP (wpC_operate (lift <| iadd_int ?_))))
   have a2:=a1.grow (h':=s1.heap) (tk:=s1.toks + 1) (fun _ _ e=>e)
   have S2:Step none O O1 s { s1 with toks:=s1.toks + 1 }:=S1.trans (Step.grow (h':=s1.heap) (tk:=s1.toks + 1) (fun _ _ e=>e))
   refine wP (wS (wP (sT hk hl hi A R J O1 _ _ (.int (i + j)) _ _ _ a2 (.int ..) h1 fun J' O' s' a' S' q'=>wC (K .next .next _ _ _ a' (S2.weak.trans S') trivial q'))))
end Mn
namespace Mn
variable {G:GC} {n:Nat} {F:FC} {K:Frag}
noncomputable abbrev prM (p:Int × Int):MV:=.tup [.int p.1,.int p.2]
noncomputable abbrev prD (p:Int × Int):PyData:=.tuple [.int p.1,.int p.2]
theorem reads_prs {hB h:Heap} {O:Own} {vs:List Value} {ps:List (Int × Int)} (x:VR hB O h vs (ps.map prM)):ReadsAll h vs (ps.map prD) []:=by
 induction ps generalizing vs with
 | nil=>cases x.zero;exact .nil
 | cons p r ih =>
   obtain ⟨v,ws,rfl,x,y⟩:=x.uncons
   obtain ⟨a,us,n,rfl,hn,e,hvs⟩:=x.t
   obtain ⟨v1,v2,rfl,r1,r2⟩:=hvs.two
   obtain ⟨t,rfl⟩:=r1.i
   obtain ⟨u,rfl⟩:=r2.i
   exact ReadsAll.cons (as:=[]) (bs:=[]) (Reads.tuple (h:=h) (a:=a) (o:={ cls:=.type "tuple",data:=.seq #[.int p.1 t,.int p.2 u] n }) e rfl rfl (xs:=[.int p.1,.int p.2]) (as:=[]) (ReadsAll.cons (as:=[]) (bs:=[]) (Reads.int (h:=h) p.1 t) (ReadsAll.cons (as:=[]) (bs:=[]) (Reads.int (h:=h) p.2 u) (ReadsAll.nil (h:=h))))) (ih y)
theorem canLay_prs:∀ ps:List (Int × Int),PyData.canLayAll0 (ps.map prD)=true
 | []=>by simp [PyData.canLayAll0]
 | p :: r=>by simp [PyData.canLayAll0,PyData.canLay0,canLay_prs r]
theorem depth_prs:∀ ps:List (Int × Int),PyData.depthAll (ps.map prD)<=2
 | []=>by simp [PyData.depthAll]
 | p :: r=>by
   have:=depth_prs r
   simp only [List.map_cons,PyData.depthAll,PyData.depth]
   lia
theorem shaped_prs (ps:List (Int × Int)):SeqAt.shaped (.list (ps.map prD))=true:=by
 have h1:=depth_prs ps
 have h2:PyData.depth (.list (ps.map prD))<=64:=by simp only [PyData.depth];exact Nat.succ_le_of_lt (le_lt h1)
 refine (?_:(PyData.canLay0 (.list (ps.map prD)) && decide (PyData.depth (.list (ps.map prD))<=64))=true)
 rw [Bool.and_eq_true]
 exact⟨by simp only [PyData.canLay0];exact canLay_prs ps,decide_eq_true h2⟩
theorem noMix_prs:∀ ps qs:List (Int × Int),SeqAt.noMixAll (ps.map prD) (qs.map prD)=true
 | [],[]=>by simp [SeqAt.noMixAll]
 | [],_ :: _=>by simp [SeqAt.noMixAll]
 | _ :: _,[]=>by simp [SeqAt.noMixAll]
 | _ :: r,_ :: q=>by simp [SeqAt.noMixAll,SeqAt.noMix,noMix_prs r q]
theorem same_prs:∀ ps qs:List (Int × Int),PySem.Spec.sameAll (ps.map prD) (qs.map prD)=decide (ps=qs)
 | [],[]=>by simp [PySem.Spec.sameAll]
 | [],_ :: _=>by simp [PySem.Spec.sameAll]
 | _ :: _,[]=>by simp [PySem.Spec.sameAll]
 | (a,b) :: r,(c,d) :: q=>by
   simp only [List.map_cons,PySem.Spec.sameAll,PySem.Spec.same,same_prs r q]
   by_cases h1:a=c <;> by_cases h2:b=d <;> by_cases h3:r=q <;> simp [h1,h2,h3]
noncomputable def dcop (op:CmpOp) (a b:MV) (O:Own) (Q:Bool->Prop):Prop:=∃ l r,a=.ref l/\b=.ref r /\
 ((∃ xs ys:List Int,O l=some (.list (xs.map .int))/\O r=some (.list (ys.map .int))/\((op=.Eq/\Q (decide (xs=ys))) \/ (op=.NotEq/\Q (!decide (xs=ys))))) \/
  (∃ xs ys:List (Int × Int),O l=some (.list (xs.map prM))/\O r=some (.list (ys.map prM))/\((op=.Eq/\Q (decide (xs=ys))) \/ (op=.NotEq/\Q (!decide (xs=ys))))))
theorem dcop_ok {A:Around} {J:Loc} {O:Own} {s:Shared} {op:CmpOp} {va vb:Value} {ma mb:MV} {Q:VS} {E:VS} (R:Room F.fl n A) (H:HRel G O s.heap) (ra:VE G.hB O s.heap va ma) (rb:VE G.hB O s.heap vb mb) {Qm:Bool->Prop} (h:dcop op ma mb O Qm) (K:∀ c,Qm c->Q (.bool c) s) :
   wpAny (model G.prog G.w) A (compareOp op va vb) Q E s:=by
 have hu:A.units + 64 < cLine:=by have:=R.units;lia
 obtain ⟨l,r,rfl,rfl,h⟩:=h
 cases ra.r;cases rb.r
 rcases h with ⟨xs,ys,hl,hr,h⟩ | ⟨xs,ys,hl,hr,h⟩
 . obtain ⟨us,j,hus,rx⟩:=(H.own _ _ hl).2
   obtain ⟨ws,k,hws,ry⟩:=(H.own _ _ hr).2
   rcases h with ⟨rfl,h⟩ | ⟨rfl,h⟩
   . exact eq_intsK ⟨_,hus,rfl,j,rfl⟩ (iN rx) ⟨_,hws,rfl,k,rfl⟩ (iN ry) hu (K _ h)
   . exact ne_intsK ⟨_,hus,rfl,j,rfl⟩ (iN rx) ⟨_,hws,rfl,k,rfl⟩ (iN ry) hu (K _ h)
 . obtain ⟨us,j,hus,rx⟩:=(H.own _ _ hl).2
   obtain ⟨ws,k,hws,ry⟩:=(H.own _ _ hr).2
   have q1:Reads s.heap (.ref l) (.list (xs.map prD)) [l]:=Reads.list hus rfl rfl (reads_prs rx)
   have q2:Reads s.heap (.ref r) (.list (ys.map prD)) [r]:=Reads.list hws rfl rfl (reads_prs ry)
   rcases h with ⟨rfl,h⟩ | ⟨rfl,h⟩
   . exact eq_dataH_same q1 q2 (shaped_prs xs) (shaped_prs ys) hu (by simp only [SeqAt.noMix];exact noMix_prs xs ys) (by simp only [PySem.Spec.same];rw [same_prs];exact K _ h)
   . exact ne_dataH_same q1 q2 (shaped_prs xs) (shaped_prs ys) hu (by simp only [SeqAt.noMix];exact noMix_prs xs ys) (by simp only [PySem.Spec.same];rw [same_prs];exact K _ h)
noncomputable def mDCmp (op:CmpOp) (f g:ET):ET:=fun J O Q E=>f J O (fun a O1=>g J O1 (fun b O2=>dcop op a b O2 fun c=>Q (.bool c) O2) E) E
noncomputable def bDCmp (op:CmpOp) (f g:ET):BT:=fun J O Q E=>f J O (fun a O1=>g J O1 (fun b O2=>dcop op a b O2 fun c=>Q c O2) E) E
theorem sDCmp {op:CmpOp} {l r:Expr} {pos:Pos} {f g:ET} (hf:SI G n F (eval l F.env) f) (hg:SI G n F (eval r F.env) g) (hm:behindInMarks op r=false:=by with_unfolding_all rfl):SI G n F (eval (.Compare l [op] [r] pos) F.env) (mDCmp op f g):=by
 intro A R J O s Qm Em Q E a h K KE
 refine wpC_Compare1 (hf A R J O s _ Em _ E a h (fun va ma O1 s1 a1 S1 r1 h1=>?_) KE) hm
 refine hg A R J O1 s1 _ Em _ E a1 h1 (fun vb mb O2 s2 a2 S2 r2 h2=>?_) (fun k O' e s' x=>KE k O' e s' (x.after S1))
 exact lift <| dcop_ok (J:=J) R a2.rel (r1.mono (a1.kd (.inl rfl) S2)) r2 h2 fun c hc=>K _ _ _ _ a2 (S1.trans S2) (.bool c) hc
theorem tDCmp {op:CmpOp} {l r:Expr} {pos:Pos} {f g:ET} (hf:SI G n F (eval l F.env) f) (hg:SI G n F (eval r F.env) g) (hm:behindInMarks op r=false:=by with_unfolding_all rfl):SimB G n F (isT (.Compare l [op] [r] pos) F.env) (bDCmp op f g):=by
 intro A R J O s Qm Em Q E a h K KE
 refine wpC_isTrue_Compare1 (hf A R J O s _ Em _ E a h (fun va ma O1 s1 a1 S1 r1 h1=>?_) KE) hm
 refine hg A R J O1 s1 _ Em _ E a1 h1 (fun vb mb O2 s2 a2 S2 r2 h2=>?_) (fun k O' e s' x=>KE k O' e s' (x.after S1))
 exact lift <| dcop_ok (J:=J) (Q:=fun c s3=>wpC _ A (truthy c) Q E s3) R a2.rel (r1.mono (a1.kd (.inl rfl) S2)) r2 h2 fun c hc=>wpC_truthy_bool (K _ _ _ _ a2 (S1.trans S2) rfl hc)
noncomputable def dictSame (es fs:List (Int × MV)):Prop:=es.length=fs.length/\∀ kv ∈ es,∃ i,kv.2=.int i/\vAt fs kv.1=some (.int i)
theorem hits_of {A:Around} {s:Shared} {hB:Heap} {O:Own} {kb:List (Int × Value)} {fs:List (Int × MV)} (y:DR hB O s.heap kb fs):∀ {ka:List (Int × Value)} {es:List (Int × MV)},DR hB O s.heap ka es->(∀ kv ∈ es,∃ i,kv.2=.int i/\vAt fs kv.1=some (.int i))->KeqHits A s kb ka true:=by
 intro ka es x
 induction x with
 | nil=>exact fun _=>.nil
 | @cons k _ m _ _ x r ih =>
   intro h
   obtain ⟨i,hi,hv⟩:=h (k,m) (.head _)
   have:=y.at k
   dsimp only at hi hv
   rw [hv] at this
   subst hi
   cases q:valueAt kb k with
   | none=>rw [q] at this;exact this.elim
   | some u =>
     rw [q] at this
     obtain ⟨_,rfl⟩:=x.i;cases this
     rename_i t t'
     have e1:SeqAt.EqAt A s (.int i t) (.int i t') true:=by
       have:=SeqAt.EqAt.int_int (A:=A) (s:=s) i t i t'
       rwa [show (i == i)=true from beq_self_eq_true i] at this
     exact KeqHits.hit (e:=true) (b:=true) q e1 (ih fun kv hkv=>h kv (.tail _ hkv))
theorem dictOf_any {h:Heap} {a:Addr} {kvs:List (Int × Value)} {p p':Program} {w w':World} (x:h.DictOf (intKind p w) a kvs):h.DictOf (intKind p' w') a kvs:=by
 obtain ⟨o,es,ep,h1,h2,h3,h4,h5,h6⟩:=x
 refine ⟨o,es,ep,h1,h2,h3,h4,?_,h6⟩
 clear h1 h2 h3 h4 h6
 generalize es.toList=l at h5
 induction h5 with
 | nil=>exact .nil
 | cons q1 q2 _ ih=>exact .cons q1 q2 ih
theorem in1_units (A:Around):A.in1.units<=A.units + 4:=by
 show _<=_
 first | exact Nat.le_add_right _ _ | (unfold Around.in1;simp) | (simp [Around.in1];done)
noncomputable def shown (a b:MV) (O:Own) (Q:Bool->Prop):Prop:=∃ (l r x1 x2 x3 y1 y2 y3:Addr) (xs:List Int) (e1 e2 f1 f2:List (Int × MV)),a=.ref l/\b=.ref r/\l ≠ r/\O l=some (.list [.ref x1,.ref x2,.ref x3])/\O r=some (.list [.ref y1,.ref y2,.ref y3])/\x1 ≠ y1/\x2 ≠ y2/\x3 ≠ y3 /\
 O x1=some (.list (xs.map .int))/\O y1=some (.list (xs.map .int))/\O x2=some (.dict e1)/\O y2=some (.dict f1)/\O x3=some (.dict e2)/\O y3=some (.dict f2)/\dictSame e1 f1/\dictSame e2 f2/\Q true
theorem shown_ok {A:Around} {J:Loc} {O:Own} {s:Shared} {va vb:Value} {ma mb:MV} {Q:VS} {E:VS} (hsys:G.hB.get? sysModules ≠ none) (R:Room F.fl n A) (H:HRel G O s.heap) (ra:VE G.hB O s.heap va ma) (rb:VE G.hB O s.heap vb mb) {Qm:Bool->Prop} (h:shown ma mb O Qm) (K:∀ c,Qm c->Q (.bool c) s) :
   wpAny (model G.prog G.w) A (compareOp .Eq va vb) Q E s:=by
 have hu:A.units + 64 < cLine:=by have:=R.units;lia
 obtain ⟨l,r,x1,x2,x3,y1,y2,y3,xs,e1,e2,f1,f2,rfl,rfl,hne,hl,hr,n1,n2,n3,g1,g1',g2,g2',g3,g3',d1,d2,hq⟩:=h
 cases ra.r;cases rb.r
 obtain ⟨us,j,hus,rx⟩:=(H.own _ _ hl).2
 obtain ⟨ws,k,hws,ry⟩:=(H.own _ _ hr).2
 obtain ⟨u1,u2,u3,rfl,p1,p2,p3⟩:=rx.three
 obtain ⟨v1,v2,v3,rfl,q1,q2,q3⟩:=ry.three
 cases p1.r;cases p2.r;cases p3.r;cases q1.r;cases q2.r;cases q3.r
 have hints:SeqAt.EqAt A.in1 s (.ref x1) (.ref y1) true:=by
   obtain ⟨a1,i1,h1,z1⟩:=(H.own _ _ g1).2
   obtain ⟨a2,i2,h2,z2⟩:=(H.own _ _ g1').2
   have c1:=reads_of_ints (h:=s.heap) (a:=x1) ⟨_,h1,rfl,i1,rfl⟩ (iN z1)
   have c2:=reads_of_ints (h:=s.heap) (a:=y1) ⟨_,h2,rfl,i2,rfl⟩ (iN z2)
   have sh:=shaped_ints xs
   have:=SeqAt.eqAt_reads _ _ A.in1 s _ _ _ _ c1 c2 (SeqAt.canLay_of_shaped sh) (SeqAt.canLay_of_shaped sh) (by
     have h1:=PySem.W.depthAll_ints xs
     have h2:PyData.depth (.list (xs.map PyData.int))<=2:=by simp only [PyData.depth];exact Nat.succ_le_succ h1
     refine (?_:A.in1.units + _ < _)
     have:=in1_units A
     lia)
   have e:PyData.eqv (.list (xs.map PyData.int)) (.list (xs.map PyData.int))=true:=by
     rw [<- SeqAt.same_eq_eqv _ _ (by simp only [SeqAt.noMix];exact noMix_ints xs xs)]
     simp only [PySem.Spec.same]
     rw [same_ints];simp
   rwa [e] at this
 have hdict:∀ {x y:Addr} {es fs:List (Int × MV)},x ≠ y->O x=some (.dict es)->O y=some (.dict fs)->dictSame es fs->SeqAt.EqAt A.in1 s (.ref x) (.ref y) true:=by
   intro x y es fs hxy hx hy hd
   obtain ⟨ka,ha,za⟩:=(H.own _ _ hx).2
   obtain ⟨kb,hb,zb⟩:=(H.own _ _ hy).2
   refine SeqAt.EqAt.of_refs hxy fun prog w E Q hq=>?_
   have hlen:ka.length=kb.length:=by rw [za.length,zb.length];exact hd.1
   refine keq_eq (prog:=prog) (w:=w) (knd:=intKind prog w) (r:=true) (not_sys hsys H hx) (not_sys hsys H hy) (dictOf_any ha) (dictOf_any hb) (by have:=in1_units A;lia) (fun _=>hits_of zb za hd.2) ?_
   rw [hlen,beq_self_eq_true]
   exact hq
 refine SeqAt.eq_listAt (e:=fun _=>true) (items:=#[.ref x1,.ref x2,.ref x3]) (items2:=#[.ref y1,.ref y2,.ref y3]) ⟨_,hus,rfl,j,rfl⟩ ⟨_,hws,rfl,k,rfl⟩ rfl (by lia) (fun j h1 h2=>?_) ?_
 . cases j with
   | zero=>exact hints
   | succ j=>cases j with
     | zero=>exact hdict n2 g2 g2' d1
     | succ j=>cases j with
       | zero=>exact hdict n3 g3 g3' d2
       | succ j=>exact absurd h1 (Nat.not_lt.mpr (Nat.le_add_left 3 j))
 . have:((List.range (#[Value.ref x1,Value.ref x2,Value.ref x3]:Array Value).size).all fun _=>true)=true:=rfl
   rw [this]
   exact K _ hq
noncomputable def mShown (f g:ET):ET:=fun J O Q E=>f J O (fun a O1=>g J O1 (fun b O2=>shown a b O2 fun c=>Q (.bool c) O2) E) E
theorem sShown (hsys:G.hB.get? sysModules ≠ none) {l r:Expr} {pos:Pos} {f g:ET} (hf:SI G n F (eval l F.env) f) (hg:SI G n F (eval r F.env) g) (hm:behindInMarks .Eq r=false:=by with_unfolding_all rfl):SI G n F (eval (.Compare l [.Eq] [r] pos) F.env) (mShown f g):=by
 intro A R J O s Qm Em Q E a h K KE
 refine wpC_Compare1 (hf A R J O s _ Em _ E a h (fun va ma O1 s1 a1 S1 r1 h1=>?_) KE) hm
 refine hg A R J O1 s1 _ Em _ E a1 h1 (fun vb mb O2 s2 a2 S2 r2 h2=>?_) (fun k O' e s' x=>KE k O' e s' (x.after S1))
 exact lift <| shown_ok (J:=J) hsys R a2.rel (r1.mono (a1.kd (.inl rfl) S2)) r2 h2 fun c hc=>K _ _ _ _ a2 (S1.trans S2) (.bool c) hc
end Mn
namespace Mn
section
variable {M:Model} {A:Around} {E:VS} {env:Env}
variable {nm q:Str} {C N:Addr} {bs bm:List Value} {hdct:Bool} {sn:List Str} {sub:List Value} {ab:Bool} {col:Option Bool} {dd:Option Addr} {k0 k1 k2 k3 k5:Option Value} {newId:String}
theorem raise_obj {s:Shared} {x:Sem Value} {Q:Flow->Shared->Prop} (hbase:bm.contains (.type "BaseException")=true) (hh:A.handled=none)
   (h:wpC M A x (fun v s1=>∃ e t dx,v=.ref e/\s1.heap.get? C=some (excClassObj nm q C N bs bm hdct sn sub ab col dd k0 k1 k2 k3 k5 newId) /\
     s1.heap.get? e=some { cls:=.ref C,dict:=some dx,data:=.fields #[.ref t,.none,.none,.none,.bool false,.none] }/\E (.ref e) s1) E s) :
   wpC M A (raiseStmt env (some x) none) Q E s:=by
 have hcB:(Value.ref C :: bm).contains (.type "BaseException")=true:=by rw [List.contains_cons,hbase,Bool.or_true]
 refine wP (wM h (fun v s1 h1=>?_) fun _ _ x=>x)
 obtain ⟨e,t,dx,rfl,hC,he,hE⟩:=h1
 obtain ⟨hp,g,d,tk,os⟩:=s1
 refine lift ?_
 repeat (first | with_reducible refine wpAny_loadPart_at he ?_ | with_reducible refine wpAny_loadPart_at hC ?_ | (with_reducible refine wpAny_isSubtype_exc hC ?_;rw [hcB]) | wp_step)
 exact wpAny_raiseNew_none hh hE
end
section
variable {G:GC} {n:Nat} {F:FC} {K:Frag}
noncomputable def ExcAt (h:Heap) (C:Addr) (Z:List Value->Prop):Prop:=∀ P:Prop,(∀ (nm q:Str) (N:Addr) (bs bm:List Value) (hdct:Bool) (sn:List Str) (sub:List Value) (ab:Bool) (col:Option Bool) (dd:Option Addr) (k0 k1 k2 k3 k5:Option Value) (newId:String),h.get? C=some (excClassObj nm q C N bs bm hdct sn sub ab col dd k0 k1 k2 k3 k5 newId)->Z bm->P)->P
structure XcOK (G:GC) (K:Frag) (C:Addr):Prop where
 make:∀ (A:Around) (s:Shared) (v:Value) (E:VS) (Q:VS),A.depth + 2 < recursionLimit->A.handled=none->G.hB.StaysIn s.heap->G.hB.get? (s.heap.objs.size + 1)=none ->
   (∀ e h' dx t1 tk,s.heap.get? e=none->h'.get? e=some { cls:=.ref C,dict:=some dx,data:=.fields #[.ref t1,.none,.none,.none,.bool false,.none] }->(∀ b o,s.heap.get? b=some o->h'.get? b=some o)->Q (.ref e) { s with heap:=h',toks:=tk }) ->
   wpAny (model G.prog G.w) A (call (.ref C) [v]) Q E s
 cls:ExcAt G.hB C fun bm=>bm.contains (.type "BaseException")=true
noncomputable def ss (C:Addr):ST:=fun J O Q E=>E (.ref C) O
theorem bRaise {x msg:Str} {np cp cpos pos:Pos} {k:Nat} {C:Addr} (X:XcOK G K C) (hk:KeepOK G (.ref C)) (hfe:SI G (n + 1) F (eval (.Name x np) F.env) (mC (.lit (.ref C))))
   (hs:eval (.Call (.Name x np) [.Constant (.str msg) k cp] [] cpos) F.env=(do callWith cpos (<- eval (.Name x np) F.env) [] (backTo cpos (starEach [.Constant (.str msg) k cp] F.env)) (backToKw cpos (keywordEach [] F.env))):=by rfl) (hp:(backTo cpos (starEach [.Constant (.str msg) k cp] F.env))=[(false,eval (.Constant (.str msg) k cp) F.env)]:=by rfl) :
   SimS G (n + 1) F (exec (.Raise (some (.Call (.Name x np) [.Constant (.str msg) k cp] [] cpos)) none pos) F.env) (ss C):=by
 intro A R J O s Qm Em Q E a h KQ KE
 refine X.cls _ fun nm q N bs bm hdct sn sub ab col dd k0 k1 k2 k3 k5 newId hC hbase=>?_
 rw [arm_exec_Raise]
 refine wP (wS ?_)
 refine raise_obj (C:=C) (nm:=nm) (q:=q) (N:=N) (bs:=bs) (bm:=bm) (hdct:=hdct) (sn:=sn) (sub:=sub) (ab:=ab) (col:=col) (dd:=dd) (k0:=k0) (k1:=k1) (k2:=k2) (k3:=k3) (k5:=k5) (newId:=newId) hbase R.handled (wP ?_)
 rw [hs]
 refine wP (hfe A R J O s (fun v O'=>v=.lit (.ref C)/\O'=O) (fun _ _=>False) _ E a ⟨rfl,rfl⟩ (fun v m O1 s1 a1 S1 r1 h1=>?_) (fun k O' e s' x h=>h.elim))
 obtain ⟨rfl,rfl⟩:=h1
 cases r1.l
 rw [hp]
 refine wpC_callWith (P:=fun h=>G.hB.StaysIn h) (f:=.ref C) rfl hk (wE (wL ?_))
 refine sStr A R J O1 s1 (fun v O'=>v=.str msg/\O'=O1) (fun _ _=>False) _ E a1 ⟨rfl,rfl⟩ (fun v m O2 s2 a2 S2 r2 h2=>?_) (fun k O' e s' x h=>h.elim)
 obtain ⟨rfl,rfl⟩:=h2
 refine lift <| spliced_nil ⟨a2.rel.base,?_⟩
 have nn:s2.heap.get? (s2.heap.objs.size + 1)=none:=by
   cases q:s2.heap.get? (s2.heap.objs.size + 1) with
   | none=>rfl
   | some o=>exact absurd (Heap.lt_size q) (Nat.not_lt.mpr (Nat.le_succ _))
 have S02:=S1.trans S2
 refine lift <| X.make A s2 v E _ (by have:=R.depth;lia) R.handled a2.rel.base (a2.rel.base_none nn) fun e h' dx t1 tk hne he hk=>?_
 refine wP (wS (wC ⟨e,t1,dx,rfl,hk _ _ (a2.rel.base _ _ hC),he,KE (.ref C) O2 _ _ ?_ h⟩))
 have a3:At G F J O2 { s2 with heap:=h',toks:=tk }:=a2.grow (tk:=tk) hk
 have S3:Step none O2 O2 s2 { s2 with heap:=h',toks:=tk }:=.grow (tk:=tk) hk
 have hne0:s.heap.get? e=none:=by
   cases q:s.heap.get? e with
   | none=>rfl
   | some o=>obtain ⟨o',e'⟩:=S02.dom e o q;exact na hne e'
 refine ⟨(S02.trans S3).weak,a3.rel,a3.frs,e,rfl,hne0,.inl ⟨_,_,he,rfl,rfl,rfl,t1,rfl⟩,fun q hq=>?_⟩
 obtain ⟨o,ho,_⟩:=(a2.rel.own _ _ hq).2.there
 exact na hne ho
end
section
variable {M:Model} {A:Around} {E:VS} {env:Env}
variable {nm q:Str} {C N:Addr} {bs bm:List Value} {hdct:Bool} {sn:List Str} {sub:List Value} {ab:Bool} {col:Option Bool} {dd:Option Addr} {k0 k1 k2 k3 k5:Option Value} {newId:String}
variable {nm' q':Str} {D N':Addr} {bs' bm':List Value} {hdct':Bool} {sn':List Str} {sub':List Value} {ab':Bool} {col':Option Bool} {dd':Option Addr} {k0' k1' k2' k3' k5':Option Value} {newId':String}
theorem excMatches_other {h:Heap} {g:Array GenState} {d:Drawn} {t:Nat} {os:OsState} {e:Addr} {oe:Obj} {Q:Bool->Shared->Prop}
   (hC:h.get? C=some (excClassObj nm q C N bs bm hdct sn sub ab col dd k0 k1 k2 k3 k5 newId)) (hD:h.get? D=some (excClassObj nm' q' D N' bs' bm' hdct' sn' sub' ab' col' dd' k0' k1' k2' k3' k5' newId')) (he:h.get? e=some oe) (hcls:oe.cls=.ref C)
   (hbase:bm'.contains (.type "BaseException")=true) (hno:(Value.ref C :: bm).contains (.ref D)=false)
   (hq:Q false ⟨h,g,d,t,os⟩):wpAny M A (excMatches (.ref e) (.ref D)) Q E ⟨h,g,d,t,os⟩:=by
 have hcB:(Value.ref D :: bm').contains (.type "BaseException")=true:=by rw [List.contains_cons,hbase,Bool.or_true]
 have f:=tc_notTuple
 unfold excMatches
 repeat (first | (with_reducible refine wpAny_loadPart_at he ?_;rw [hcls]) | with_reducible refine wpAny_loadPart_at hD ?_ | (with_reducible refine wpAny_isSubtype_exc hC ?_;rw [hno]) | (with_reducible refine wpAny_isSubtype_exc hD ?_;rw [hcB]) | wp_step)
 exact hq
end
section
variable {G:GC} {n:Nat} {F:FC} {K:Frag}
theorem glo_any {A:Around} {E:VS} {s:Shared} {env:Env} {x:Str} {pos:Pos} {mg:Str->Option Value} {v:Value} {Q:VS} (hk:env.scope.kind=.function) (hl:env.kindOf x=some .globalImplicit) (hg:env.globals=mainGlobals) (hmg:G.hB.Ns mainGlobals mg) (hv:mg x=some v)
   (hst:G.hB.StaysIn s.heap) (h:Q v s) (hd:(x == ("__debug__":Str))=false:=by decide):wpAny (model G.prog G.w) A (eval (.Name x pos) env) Q E s:=by
 refine wpAny_Name ?_ hd
 have ns:s.heap.Ns env.globals mg:=by rw [hg];exact hmg.keeps hst
 rw [loadName_read hk hl]
 unfold loadGlobal
 refine wpAny_bind (wpAny_nsGet ns ?_)
 rw [hv]
 exact wpAny_pure h
theorem flight_none {M:Model} {A:Around} {E:VS} {J:Loc} {O O':Own} {s s':Shared} {e T:Addr} {k f:Value} (a:At G F J O s) (x:XAt G F.fl none O O' s s' (.ref e) k) (hf:Fly s'.heap e T k f) {Q:Unit->Shared->Prop}
   (hQ:∀ h2,XAt G F.fl none O O' s { s' with heap:=h2 } (.ref e) k->Fly h2 e T k .none->Q () { s' with heap:=h2 }):wpAny M A (setFlight (.ref e) none) Q E s':=by
 obtain ⟨oe,vs,oT,ts,h1,h2,h3,h4,hTe,h5,h6,h7,t,h8⟩:=hf
 unfold setFlight
 refine wpAny_bind (wpAny_field h1 h3 h4 ?_)
 refine wpA_pos ((show (Value.ref T != Value.none)=true from by simp)) ?_
 have hsz:3 < ts.size:=(Array.getElem?_eq_some_iff.mp h7).1
 refine wpAny_setField h5 h6 hsz ?_
 obtain ⟨e',he',hs,r,hc⟩:=id x.exc
 cases he'
 have hT:s.heap.get? T=none/\∀ q,O' T ≠ some (.code q):=by
   rcases r with ⟨oe',vs',q1,q2,q3,q4,_⟩ | ⟨T',f',_,q1,q2,oe',vs',oT',ts',p1,p2,p3,p4,_⟩
   . rw [h1] at q1;cases q1;rw [h3] at q3;cases q3;rw [h4] at q4;cases q4
   . rw [h1] at p1;cases p1;rw [h3] at p3;cases p3;rw [h4] at p4;cases p4;exact⟨q1,q2⟩
 have kk:∀ b o,b ≠ T->s'.heap.get? b=some o->(s'.heap.update T (Obj.mapFields (·.setIfInBounds 3 Value.none))).get? b=some o:=fun b o hb q=>(Heap.get?_update_other _ _ (Ne.symm hb)).trans q
 obtain ⟨cT,dT,datT,slT⟩:=oT
 dsimp only at h6
 subst h6
 have hTn:=Heap.get?_update_self (Obj.mapFields (·.setIfInBounds 3 Value.none)) h5 rfl
 have noT:∀ b mo,O' b=some mo->b ≠ T:=fun b mo q z=>by
   rw [z] at q
   obtain ⟨o,ho,hn⟩:=(x.rel.own _ _ q).2.nofields (fun c hc'=>hT.2 c (by rw [q,hc']))
   cases one h5 ho
   exact hn ts rfl
 have notStT:∀ o,s'.heap.get? T=some o->¬ Still o:=fun o q st=>by rw [h5] at q;cases q;exact st.2 ts rfl
 have kd:Kd O' s'.heap O' (s'.heap.update T (Obj.mapFields (·.setIfInBounds 3 Value.none))):=⟨fun b o n q st=>⟨n,kk b o (fun z=>notStT o (z ▸ q) st) q⟩,fun _ _ q=>q⟩
 refine hQ _ ⟨⟨x.step.same.trans ⟨_,s'.toks,rfl⟩,fun b o hb q1 q2=>?_,x.step.off,x.step.code,fun b o q=>?_⟩,⟨fun b o q=>kk b o (fun z=>?_) (x.rel.base b o q),fun b mo q=>⟨(x.rel.own b mo q).1,(x.rel.own b mo q).2.mono kd fun o p=>kk b o (noT b mo q) p⟩⟩,fun env he=>?_,e,rfl,hs,.inr ⟨T,.none,.inl rfl,hT.1,hT.2,?_⟩,hc⟩ ?_
 . obtain ⟨o',e',kp⟩:=x.step.keep b o hb q1 q2
   exact⟨o',kk b o' (fun z=>by rw [z,hT.1] at q2;cases q2) e',kp⟩
 . obtain ⟨o',e'⟩:=x.step.dom b o q
   exact⟨o',kk b o' (fun z=>by rw [z,hT.1] at q;cases q) e'⟩
 . have:=a.rel.base_none hT.1
   rw [z,this] at q;cases q
 . obtain ⟨p1,L,o,p2,p3,p4,p5,p6,p7⟩:=x.frs env he
   exact⟨p1,L,o,p2,p3,kk L o (fun z=>by rw [z,h5] at p4;cases p4;exact p6 ts rfl) p4,p5,p6,p7⟩
 all_goals exact⟨oe,vs,_,ts.setIfInBounds 3 .none,kk e oe (Ne.symm hTe) h1,h2,h3,h4,hTe,hTn,rfl,by simp [hsz],t,h8⟩
theorem exc_is {A:Around} {E:VS} {s:Shared} {C e:Addr} {oe:Obj} {Q:Bool->Shared->Prop} (X:XcOK G K C) (hst:G.hB.StaysIn s.heap) (he:s.heap.get? e=some oe) (hc:oe.cls=.ref C) (hq:Q true s):wpAny (model G.prog G.w) A (excMatches (.ref e) (.ref C)) Q E s:=by
 exact X.cls _ fun _ _ _ _ _ _ _ _ _ _ _ _ _ _ _ _ _ hC hb=>wpAny_excMatches_sub_self (hst _ _ hC) he hc hb hq
theorem exc_not {A:Around} {E:VS} {s:Shared} {C D e:Addr} {oe:Obj} {Q:Bool->Shared->Prop} (X:XcOK G K C)
   (hD:ExcAt G.hB D fun bm=>(Value.ref D :: bm).contains (.ref C)=false)
   (hst:G.hB.StaysIn s.heap) (he:s.heap.get? e=some oe) (hc:oe.cls=.ref D) (hq:Q false s):wpAny (model G.prog G.w) A (excMatches (.ref e) (.ref C)) Q E s:=by
 exact hD _ fun _ _ _ _ _ _ _ _ _ _ _ _ _ _ _ _ _ hX hno=>X.cls _ fun _ _ _ _ _ _ _ _ _ _ _ _ _ _ _ _ _ hC hb=>excMatches_other (hst _ _ hX) (hst _ _ hC) he hc hb hno hq
theorem flight_again {M:Model} {A:Around} {E:VS} {s:Shared} {e T:Addr} {k:Value} (hf:Fly s.heap e T k .none) {Q:Unit->Shared->Prop} (hq:Q () s):wpAny M A (setFlight (.ref e) none) Q E s:=by
 obtain ⟨oe,vs,oT,ts,h1,h2,h3,h4,hTe,h5,h6,h7,t,h8⟩:=hf
 refine wpAny_bind (wpAny_field h1 h3 h4 ?_)
 refine wpA_pos ((show (Value.ref T != Value.none)=true from by simp)) ?_
 refine wpAny_setField h5 h6 (Array.getElem?_eq_some_iff.mp h7).1 ?_
 rw [show s.heap.update T (Obj.mapFields (·.setIfInBounds 3 ((none:Option Addr).elim Value.none fun f=>rawInt f)))=s.heap from Heap.update_setField_same s.heap T oT ts 3 .none h5 h6 h7]
 exact hq
noncomputable def sTry (f:ET) (C D:Addr) (m m':Str):ST:=fun J O Q E=>f J O (fun _ _=>False) (fun k O'=>(k=.ref C/\Q (.ret (.str m)) J O') \/ (k=.ref D/\Q (.ret (.str m')) J O'))
theorem bTry {e:Expr} {ep pos p1 p2 q1 q2 r1 r2 c1 c2:Pos} {k1 k2:Nat} {x y m m':Str} {C D:Addr} {f:ET} {mg:Str->Option Value} (XC:XcOK G K C) (XD:XcOK G K D)
   (hCD:ExcAt G.hB D fun bm=>(Value.ref D :: bm).contains (.ref C)=false)
   (hf:SI G n F (eval e F.env) f) (hk:F.env.scope.kind=.function) (hlx:F.env.kindOf x=some .globalImplicit) (hly:F.env.kindOf y=some .globalImplicit) (hg:F.env.globals=mainGlobals) (hmg:G.hB.Ns mainGlobals mg) (hvx:mg x=some (.ref C)) (hvy:mg y=some (.ref D))
   (hF:F.fl=F.env :: F.fl.tail:=by rfl) (hF2:F.env.frame.isSome=true:=by rfl) (hi:interactive F.env=false:=by rfl) (hs:swapsWith e none ep.line F.env=pure false:=by rfl)
   (hdx:(x == ("__debug__":Str))=false:=by decide) (hdy:(y == ("__debug__":Str))=false:=by decide) :
   SimS G n F (exec (.Try [.Expr e ep] [.ExceptHandler (some (.Name x p1)) none [.Return (some (.Constant (.str m) k1 c1)) r1] q1,.ExceptHandler (some (.Name y p2)) none [.Return (some (.Constant (.str m') k2 c2)) r2] q2] [] [] pos) F.env) (sTry f C D m m'):=by
 intro A R J O s Qm Em Q E a h KQ KE
 obtain ⟨fr,L,hfl,hfL⟩:=frOf hF hF2
 rw [arm_exec_Try]
 refine wP (wS ?_)
 refine (?_:wpC _ A (Sem.attempt _ >>= _) _ _ _)
 refine wP (wpC_attempt ?_)
 refine wpC_execs_cons (wpC_Expr (hf A R J O s (fun _ _=>False) _ _ _ a h (fun v mm O1 s1 a1 S1 r₁ h1=>h1.elim) fun k O' ev s' xx hm=>?_) hi hs)
 refine wP (lift <| note_ok (R.frames.trans (by rw [hfl])) hfL (hfl ▸ xx) (fun b q=>a.rel.base_none q) fun h2 x2 hT=>?_)
 rw [<- hfl] at x2
 obtain ⟨ea,rfl,hs0,_,hc0⟩:=id x2.exc
 obtain ⟨T,hFly⟩:=hT ea rfl
 refine lift <| (?_:wpAny _ _ (setFlight (.ref ea) none >>= _) _ _ _)
 refine wpAny_bind (flight_none a x2 hFly fun h3 x3 hFly3=>?_)
 have a3:At G F J O' { s' with heap:=h3 }:=a.next x3.step x3.rel
 have fin:∀ mm:Str,Qm (.ret (.str mm)) J O'->∀ tk,Q (.ret (.str mm tk)) { s' with heap:=h3,toks:=s'.toks + 1 }:=fun mm hq tk =>
   KQ (.ret (.str mm tk)) (.ret (.str mm)) J O' _ (a3.grow (h':=h3) (tk:=s'.toks + 1) (fun _ _ q=>q)) (x3.step.trans (.grow (s:={ s' with heap:=h3 }) (h':=h3) (tk:=s'.toks + 1) (fun _ _ q=>q))).weak (.str ..) hq
 have suite:∀ {B:Around} {E':VS} {mm:Str} {kk:Nat} {cc rr:Pos} {Q':Flow->Shared->Prop},(∀ tk,Q' (.ret (.str mm tk)) { s' with heap:=h3,toks:=s'.toks + 1 })->wpAny (model G.prog G.w) B (execs [.Return (some (.Constant (.str mm) kk cc)) rr] F.env) Q' E' { s' with heap:=h3 }:=by
   intro B E' mm kk cc rr Q' hq
   refine wpAny_execs_cons (wpAny_Return_some ?_)
   exact fun _ _ _=>hq _
 obtain ⟨oe,ws,hoe,hoec,_⟩:∃ oe vs,h3.get? ea=some oe/\oe.cls=k/\oe.data=.fields vs:=by
   obtain ⟨oe,vs,oT,ts,q1,q2,q3,_⟩:=hFly3
   exact⟨oe,vs,q1,q2,q3⟩
 have hst:=x3.rel.base
 refine (?_:wpAny _ _ (handleBy (.ref ea) F.env _) _ _ _)
 refine wpAny_handleBy_cons (codeAny_handlers_test (glo_any (s:={ s' with heap:=h3 }) hk hlx hg hmg hvx hst ?_ hdx)) (by intro q;cases q)
 rcases hm with ⟨rfl,hq⟩ | ⟨rfl,hq⟩
 . exact exc_is XC hst hoe hoec (codeAny_handlers_suite (flight_again (s:={ s' with heap:=h3 }) hFly3 (suite (fin m hq))))
 . refine exc_not XC hCD hst hoe hoec ?_
   refine wpAny_handleBy_cons (codeAny_handlers_test (glo_any (s:={ s' with heap:=h3 }) hk hly hg hmg hvy hst ?_ hdy)) (by intro q;cases q)
   exact exc_is XD hst hoe hoec (codeAny_handlers_suite (flight_again (s:={ s' with heap:=h3 }) hFly3 (suite (fin m' hq))))
end
section
variable {prog:Program} {w:World} {A:Around} {R:Result->Shared->Prop} {s:Shared}
theorem codeC_expr {e:Expr} {env:Env}
   (h:wpC (model prog w) (A.deeper env) (eval e env) (fun v s'=>R (.ok (.ret v)) s')
     (fun e' s'=>wpC (model prog w) (A.deeper env) (leaving env e') (fun _ s''=>R (.error e') s'') (fun e'' s''=>R (.error e'') s'') s') s) :
   cD (model prog w) A (.expr e env) R s:=by
 refine cO ?_
 refine (?_:wpC _ (A.deeper env) (do point;ret (<- (eval e env).onRaise (leaving env))) _ _ s)
 exact wP (wpC_point (wP (wpC_onRaise (wM h (fun v s' h'=>wC h') fun _ _ h'=>h'))))
theorem codeC_call_lambda {a:Addr} {args:Args} {o:Obj} {fd:FuncData} {body:Expr} (hroom:A.depth < recursionLimit)
   (ho:s.heap.get? a=some o)
   (hd':o.data=.func fd) (hco:fd.scope.isCoroutine=false) (hgen:fd.scope.isGenerator=false) (hbody:fd.body=.expr body) (hcd:s.heap.CodeRec fd.code fd.qualname)
   (h:wpC (model prog w) A.in1 (bindArgs fd args) (fun binds s1 =>
     wpC (model prog w) A.in1 (newFunctionEnv fd.scope fd.globals fd.closure binds (fd.qualname ++ ".<locals>.") (some a) fd.code none fd.builtins)
       (fun env s2=>s2.heap.NoLimit/\cD (model prog w) A (.expr body env) R s2) (fun e s'=>R (.error e) s') s1) (fun e s'=>R (.error e) s') s) :
   cD (model prog w) A (.call (.ref a) args) R s:=codeC_call_fd hroom ho hd' hco hgen (k:=.expr body) (fun _=>by rw [hbody]) (fun _=>rfl) hcd h
end
section
variable {G:GC} {n:Nat} {F:FC} {K:Frag}
theorem among_old:∀ (l:List Value),TriplesOk l->∀ {pos:Pos} {cv:Value},codeAmong pos l=some cv->∀ {rest:List Value},codeAmong pos (l ++ rest)=some cv:=by
 intro l h
 fun_induction TriplesOk l with
 | case1=>intro pos cv hq;simp [codeAmong] at hq
 | case2 a t b u x rest ih =>
   intro pos cv hq r
   simp only [List.cons_append,codeAmong] at hq ⊢
   split at hq
   . rename_i hc;rw [if_pos hc];exact hq
   . rename_i hc;rw [if_neg hc];exact ih h hq
 | case3 l h1 h2=>exact h.elim
theorem among_new:∀ (l:List Value),TriplesOk l->∀ {pos:Pos} {i j:Int} {c cv:Value},codeAmong pos l=none->codeAmong pos (l ++ [rawInt i,rawInt j,c])=some cv->cv=c:=by
 intro l h
 fun_induction TriplesOk l with
 | case1 =>
   intro pos i j c cv _ hq
   simp only [List.nil_append,rawInt,codeAmong] at hq
   split at hq
   . exact (Option.some.inj hq).symm
   . cases hq
 | case2 a t b u x rest ih =>
   intro pos i j c cv hq he
   simp only [List.cons_append,codeAmong] at hq he
   split at hq
   . cases hq
   . rename_i hc;rw [if_neg hc] at he;exact ih h hq he
 | case3 l h1 h2=>exact h.elim
noncomputable def Coded (O O':Own) (q:Str):Prop:=O'=O \/ ∃ c,O c=none/\O'=upd O c (.code (.obj q))
noncomputable def mLam (P:Addr) (q:Str) (body:Expr) (sc:Scope) (cl:List (Str × Addr)):ET:=fun J O Q E=>O P=some (.code (.tab q))/\∀ O',Coded O O' q->Q (.clo body sc cl) O'
theorem sLam {body:Expr} {sc:Scope} {pos:Pos} {c P:Addr} {cl:List (Str × Addr)} {mg:Str->Option Value} {q:Str} (hcode:F.env.code=.ref c) (C:CodeHd G.hB c P) (hcl:closureFor sc F.env=pure cl) (hg:F.env.globals=mainGlobals) (hmg:G.hB.Ns mainGlobals mg)
   (hb:∃ bm ob,mg "__builtins__"=some (.ref bm)/\bm ≠ builtinsNs/\bm ≠ mainGlobals/\G.hB.get? bm=some ob/\ob.cls=.type "module"/\ob.dict=some builtinsNs/\ob.data=.plain)
   (hq:F.env.qual ++ "<lambda>"=q):SI G n F (eval (.Lambda ⟨[],[],none,[],[],none,[]⟩ body sc pos) F.env) (mLam P q body sc cl):=by
 intro A R J O s Qm Em Q E a h K' KE
 obtain ⟨hP,h⟩:=h
 subst hq
 obtain ⟨hPB,ps,hps,htr,hcs⟩:=a.rel.own _ _ hP
 have CS:=C.keeps a.rel.base
 have hgs:=hmg.keeps a.rel.base
 obtain ⟨bm,ob,b1,b2,b3,b4,b5,b6,b7⟩:=hb
 have hgP:mainGlobals ≠ P:=fun q=>by
   obtain ⟨o,es,ep,e,hd,_⟩:=hmg
   rw [q,hPB] at e;cases e
 have hbP:bm ≠ P:=fun q=>by rw [q,hPB] at b4;cases b4
 have BA:s.heap.BuiltinsAt mg P:=⟨bm,ob,b1,b2,b3,hbP,a.rel.base _ _ b4,b5,b6,b7⟩
 refine lift <| kla_eval rfl ?_
 have lam:∀ {O':Own} {h':Heap} {cv ctv:Value} {tk:Nat},At G F J O' { s with heap:=h',toks:=tk }->Step none O O' s { s with heap:=h',toks:=tk }->CodeAt O' cv (F.env.qual ++ "<lambda>")->Coded O O' (F.env.qual ++ "<lambda>") ->
     Q (.ref h'.objs.size) { s with heap:=h'.push { cls:=.type "function",data:=.func (kla_fn "<lambda>" (F.env.qual ++ "<lambda>") ⟨[],[],none,[],[],none,[]⟩ body sc cl ((mg "__name__").getD .none) cv ctv) },toks:=tk }:=by
   intro O' h' cv ctv tk a' S' hcv hcd
   have kk:∀ b o,h'.get? b=some o->(h'.push { cls:=.type "function",data:=.func (kla_fn "<lambda>" (F.env.qual ++ "<lambda>") ⟨[],[],none,[],[],none,[]⟩ body sc cl ((mg "__name__").getD .none) cv ctv) }).get? b=some o:=fun b o e=>Heap.get?_push_of_some _ e
   refine K' _ (.clo body sc cl) O' _ (a'.grow (h':=_) (tk:=tk) kk) (S'.trans (.grow (s:={ s with heap:=h',toks:=tk }) (tk:=tk) kk)) (.clo ⟨_,a'.rel.none_of (gE _),Heap.get?_push_size _ rfl,rfl,rfl,rfl,rfl,rfl,rfl,rfl,rfl,hcv⟩) (h O' hcd)
 cases hf:codeAmong pos ps.toList with
 | some cv =>
   refine kla_makeFunctionHit hcl hg hgs hcode CS hps htr hf BA fun ctv h' tk hk hsz=>?_
   exact lam (a.grow (tk:=tk) hk) (.grow (tk:=tk) hk) (hcs pos cv hf) (.inl rfl)
 | none =>
   refine kla_makeFunction hcl hg hgs hcode CS hps htr hf hgP BA fun c' ctv h' tk hx hge hlt hrec htb=>?_
   obtain ⟨c2,oc,vs,t,e2,hoc,hd,hv⟩:=hrec
   cases e2
   have hcn:s.heap.get? c'=none:=by
     cases q:s.heap.get? c' with
     | none=>rfl
     | some o=>exact absurd (Heap.lt_size q) (Nat.not_lt.mpr hge)
   have hcσ:O c'=none:=a.rel.none_of hcn
   have hcP:c' ≠ P:=fun z=>by rw [z,hps] at hcn;cases hcn
   let O':=upd O c' (.code (.obj (F.env.qual ++ "<lambda>")))
   have hcode':CodeAt O' (.ref c') (F.env.qual ++ "<lambda>"):=⟨c',rfl,by show upd O c' _ c'=_;unfold upd;rw [if_pos rfl]⟩
   have up:∀ {b:Addr},b ≠ c'->O' b=O b:=fun hb=>by show upd O c' _ _=_;unfold upd;rw [if_neg hb]
   have notSt:∀ b o,s.heap.get? b=some o->Still o->b ≠ P:=fun b o e st z=>by rw [z,hps] at e;cases e;exact st.2 ps rfl
   have kd:Kd O s.heap O' h':=⟨fun b o n e st=>⟨by rw [up (fun z=>by rw [z,hcn] at e;cases e)];exact n,hx b o (notSt b o e st) e⟩,fun b q e=>by rw [up (fun z=>by rw [z,hcσ] at e;cases e)];exact e⟩
   have S:Step none O O' s { s with heap:=h',toks:=tk }:=⟨⟨h',tk,rfl⟩,fun b o _ e1 e2=>⟨o,hx b o (fun z=>by rw [z,hP] at e1;cases e1) e2,.refl o⟩,fun b o e1 e2=>by rw [up (fun z=>by rw [z,hcn] at e2;cases e2)];exact e1,kd.2,fun b o e=>by
     by_cases z:b=P
     . subst z;exact⟨_,htb⟩
     . exact⟨o,hx b o z e⟩⟩
   refine lam (a.next S ⟨fun b o e=>hx b o (fun z=>by rw [z,hPB] at e;cases e) (a.rel.base b o e),fun b mo e=>?_⟩) S hcode' (.inr ⟨c',hcσ,rfl⟩)
   by_cases z:b=c'
   . subst z
     have e':some (MObj.code (.obj (F.env.qual ++ "<lambda>")))=some mo:=by rw [<- e];show _=upd O b _ b;unfold upd;rw [if_pos rfl]
     cases e'
     exact⟨a.rel.base_none hcn,oc,vs,t,hoc,hd,hv⟩
   . rw [up z] at e
     by_cases z2:b=P
     . subst z2
       cases one hP e
       refine ⟨hPB,_,htb,?_,fun pos' cv' hc'=>?_⟩
       . have:=TriplesOk_snoc (pos.line:Int) (pos.col:Int) (.ref c') ps.toList htr
         simpa using this
       . have e1:codeAmong pos' (ps.toList ++ [rawInt pos.line,rawInt pos.col,.ref c'])=some cv':=by simpa using hc'
         cases hq:codeAmong pos' ps.toList with
         | some cv2 =>
           have:cv2=cv':=by
             have:=among_old ps.toList htr hq (rest:=[rawInt pos.line,rawInt pos.col,.ref c'])
             rw [this] at e1;exact Option.some.inj e1
           subst this
           obtain ⟨d,hd1,hd2⟩:=hcs pos' cv2 hq
           exact⟨d,hd1,kd.2 _ _ hd2⟩
         | none =>
           have:=among_new ps.toList htr hq e1
           subst this
           exact hcode'
     . exact⟨(a.rel.own b mo e).1,(a.rel.own b mo e).2.mono kd fun o q=>hx b o z2 q⟩
noncomputable def lenv (sc:Scope) (cl:List (Str × Addr)) (L fa:Addr) (cd:Value) (q:Str):Env:=newEnv sc L mainGlobals (cellsFrom (L + 1) sc.names cl) (q ++ ".<locals>.") (some fa) cd none builtinsNs
noncomputable abbrev RT:=Own->(PV)->(PE)->Prop
structure LamSim (G:GC) (n:Nat) (body:Expr) (sc:Scope) (cl:List (Str × Addr)) (run:RT):Prop where
 co:sc.isCoroutine=false
 gen:sc.isGenerator=false
 kind:sc.kind=.function
 cells:nCells sc.names=0
 sim:∀ fl L fa cd q,SI G n ⟨lenv sc cl L fa cd q,[],lenv sc cl L fa cd q :: fl⟩ (eval body (lenv sc cl L fa cd q)) (fun _ O Q E=>run O Q E)
noncomputable def mCallClo (G:GC) (n:Nat) (f:ET):ET:=fun J O Q E=>f J O (fun v O'=>∃ body sc cl run,v=.clo body sc cl/\LamSim G n body sc cl run/\run O' Q E) E
theorem lam_call {A:Around} (R:Room F.fl (n + 1) A) {J:Loc} {O:Own} {s:Shared} {fa:Addr} {body:Expr} {sc:Scope} {cl:List (Str × Addr)} {run:RT} {Qm:PV} {Em:PE} {Q:VS} {E:VS}
   (hlim:G.hB.NoLimit) (a:At G F J O s) (hl:lamObj O s.heap fa body sc cl) (S:LamSim G n body sc cl run) (h:run O Qm Em) (K1':K1 G F J O s Qm Q) (KE:∀ k O' e s',XAt G F.fl none O O' s s' e k->Em k O'->E e s') :
   wpC (model G.prog G.w) A (call (.ref fa) []) Q E s:=by
 obtain ⟨fd,hσ,ho,r1,r2,r3,r4,r5,r6,r7,r8,cc,hcc,hcσ⟩:=hl
 obtain ⟨name,qualname,params,fbody,scope,globals,closure,defaults,kwdefaults,doc,pyModule,ann,code,ct,blt⟩:=fd
 dsimp only at r1 r2 r3 r4 r5 r6 r7 r8 hcc hcσ
 subst r1 r2 r3 r4 r5 r6 r7 r8 hcc
 have hcd:s.heap.CodeRec (.ref cc) qualname:=by
   obtain ⟨_,o,vs,t,q1,q2,q3⟩:=a.rel.own _ _ hcσ
   exact⟨cc,o,vs,t,rfl,q1,q2,q3⟩
 refine wpC_call (codeC_call_lambda (by have:=R.depth;lia) ho rfl S.co S.gen rfl hcd ?_)
 refine wpC_of_eq (a:=[]) rfl ?_
 have hno:∀ b,s.heap.objs.size<=b->O b=none:=fun b hb=>a.rel.none_of (by
   cases q:s.heap.get? b with
   | none=>rfl
   | some o=>exact absurd (Heap.lt_size q) (Nat.not_lt.mpr hb))
 let fd:FuncData:={ name:=name,qualname:=qualname,params:=⟨[],[],none,[],[],none,[]⟩,body:=.expr body,scope:=scope,globals:=mainGlobals,closure:=closure,defaults:=.none,kwdefaults:=.none,doc:=doc,pyModule:=pyModule,annotations:=ann,code:=.ref cc,closureTuple:=ct,builtins:=builtinsNs }
 have hk:scope.kind=.function:=S.kind
 have hc0:cE s.heap.objs.size (nCells scope.names) O=O:=by rw [S.cells];rfl
 refine lift <| enter_ok (fd:=fd) (fa:=fa) (vars:=[]) (xs:=[]) (vs:=[]) (ms:=[]) (g:=aN) (Qm:=fun _ O'=>run O' Qm Em) a hk nN .nil ⟨rfl,by rw [show fd.scope.names=scope.names from rfl,hc0];exact h⟩ fun J1 O1 s1 a1 S1 hno1 h1=>⟨hlim.keeps a1.rel.base,codeC_expr ?_⟩
 have nol:s.heap.get? s.heap.objs.size=none:=gE _
 refine S.sim F.fl s.heap.objs.size fa (.ref cc) qualname (A.deeper _) R.deeper J1 O1 s1 Qm Em _ _ a1 h1 (fun v mv O2 s2 a2 S2 r₂ h₂=>?_) (fun k O2 e s2 x he=>?_)
 . have S02:=S1.trans S2
   exact K1' v mv _ _ (a.next S02 a2.rel) S02 r₂ h₂
 . have x':XAt G (fenv fd s.heap.objs.size fa :: F.fl) none O O2 s s2 e k:=x.after S1
   exact lift <| leave_ok (Around.frames_deeper R.frames) rfl x' (fun b e=>a.rel.base_none e) fun h2 x2=>KE _ _ _ _ x2 he
theorem sCallClo {fe:Expr} {pos:Pos} {f:ET} (hlim:G.hB.NoLimit) (hf:SI G (n + 1) F (eval fe F.env) f)
   (hs:eval (.Call fe [] [] pos) F.env=(do callWith pos (<- eval fe F.env) [] (backTo pos (starEach [] F.env)) (backToKw pos (keywordEach [] F.env))):=by rfl) :
   SI G (n + 1) F (eval (.Call fe [] [] pos) F.env) (mCallClo G n f):=by
 intro A R J O s Qm Em Q E a h K' KE
 rw [hs]
 refine wP (hf A R J O s _ Em _ E a h (fun v m O1 s1 a1 S1 r1 h1=>?_) KE)
 obtain ⟨body,sc,cl,run,rfl,L,h1⟩:=h1
 obtain ⟨_,rfl,hl⟩:=r1.f
 ·
   rename_i fa
   obtain ⟨fd,hσ,ho,hr⟩:=id hl
   have key:wpC (model G.prog G.w) A (call (.ref fa) []) Q E s1:=lam_call R hlim a1 hl L h1 (fun v m O' s' a' S'=>K' v m O' s' a' (S1.trans S')) (fun k O' e s' x=>KE k O' e s' (x.after S1))
   refine wpC_callWith (P:=fun h=>h.get? fa=some { cls:=.type "function",data:=.func fd }) rfl (fun h hh=>⟨.frame,.inl rfl,(Looks.ld (part:=none) hh).andThen .now⟩) ?_
   exact lift <| evalArgs_nil3 ⟨ho,fun Γ p hΓ k1 k2=>key Γ p hΓ k1 k2⟩
end
end Mn
namespace Mn
variable {G:GC} {n:Nat} {F:FC} {K:Frag} {mg mb:Str->Option Value}
theorem Room.up {fl:List Env} {n k:Nat} {A:Around} (h:n<=k) (R:Room fl k A):Room fl n A where
 handled:=R.handled
 frames:=R.frames
 depth:=by have:=R.depth;lia
 units:=by have:=R.units;lia
theorem SimC.up {k:Nat} {fv:Value} {c:CT} (h:SimC G n F fv c) (hk:n<=k):SimC G k F fv c:=fun A R=>h A (R.up hk)
structure Wk (G:GC) (K:Frag) (mg mb:Str->Option Value):Prop extends Wd G K mg mb where
 sys:G.hB.get? sysModules ≠ none
 bm:∃ bm ob,mg "__builtins__"=some (.ref bm)/\bm ≠ builtinsNs/\bm ≠ mainGlobals/\G.hB.get? bm=some ob/\ob.cls=.type "module"/\ob.dict=some builtinsNs/\ob.data=.plain
theorem gR {x:Str} {pos:Pos} {a:Addr} (W:Wd G K mg mb) (hn:nsIn K mainGlobals x=some (some (.ref a))) (hk:F.env.scope.kind=.function) (hl:F.env.kindOf x=some .globalImplicit) (hg:F.env.globals=mainGlobals) (hd:(x == ("__debug__":Str))=false:=by decide):SI G n F (eval (.Name x pos) F.env) (mC (.lit (.ref a))) :=
 sGlo hk hl hg W.glob (mg_of W.inn W.glob hn) (fun _ _=>.lit _) hd
theorem gInt {x:Str} {pos:Pos} {i:Int} {t:Tok} (W:Wd G K mg mb) (hn:nsIn K mainGlobals x=some (some (.int i t))) (hk:F.env.scope.kind=.function) (hl:F.env.kindOf x=some .globalImplicit) (hg:F.env.globals=mainGlobals) (hd:(x == ("__debug__":Str))=false:=by decide):SI G n F (eval (.Name x pos) F.env) (mC (.int i)) :=
 sGlo hk hl hg W.glob (mg_of W.inn W.glob hn) (fun _ _=>.int _ _) hd
theorem gB {x:String} {pos:Pos} {v:Value} (W:Wd G K mg mb) (hn:nsIn K mainGlobals x=some none) (hv:bootBuiltins x=some v) (hne:x ≠ "__name__") (hk:F.env.scope.kind=.function) (hl:F.env.kindOf (x:Str)=some .globalImplicit) (hg:F.env.globals=mainGlobals) (hb:F.env.builtins=builtinsNs) (hd:((x:Str) == ("__debug__":Str))=false:=by decide):SI G n F (eval (.Name x pos) F.env) (mC (.lit v)) :=
 sBlt hk hl hg hb W.glob W.blt (mg_none_of W.inn W.glob hn) ((W.boot x hne).trans hv) hd
noncomputable def bNever:BT:=fun _ _ _ _=>False
noncomputable def sNever:ST:=fun _ _ _ _=>False
theorem nB {t:Sem Bool}:SimB G n F t bNever:=fun _ _ _ _ _ _ _ _ _ _ h=>h.elim
theorem nS {t:Sem Flow}:SimS G n F t sNever:=fun _ _ _ _ _ _ _ _ _ _ h=>h.elim
theorem dE {c:CT} {fa:Addr} {fo:Obj} {fd:FuncData} {body:List Stmt} (vars xs:List Str) {g:Addr->ALT} {f:Addr->ST} {ds:List MV} (dvs:List Value) {j k:Nat} (W:Wd G K mg mb) (hc:c=fun ms O Q E=>ms.length=j/\ent g k ds f ms O Q E)
   (ho:K.lookup fa=some fo) (hdat:fo.data=.func fd) (hbody:fd.body=.stmts body) (hnc:nCells fd.scope.names=k) (hk:fd.scope.kind=.function) (hco:fd.scope.isCoroutine=false) (hgen:fd.scope.isGenerator=false) (hcd:codeIn K fd.code fd.qualname=true)
   (hbind:∀ (vs:List Value) (s:Shared),K.In s.heap->vs.length=j->BindsTo s fd ⟨vs,[]⟩ (xs.zip (vs ++ dvs))) (hds:∀ O h,VR G.hB O h dvs ds)
   (hg:∀ L fl,SimNs G ⟨fenv fd L fa,vars,fenv fd L fa :: fl⟩ xs (g L)) (hf:∀ L fl,SimS G n ⟨fenv fd L fa,vars,fenv fd L fa :: fl⟩ (execs body (fenv fd L fa)) (f L)) :
   SM G (n + 1) F (.ref fa) c:=by
 subst hc hnc
 exact call_ok W ho hdat hbody hcd hbind hds hg hf hk hco hgen
end Mn
namespace Mn
variable {G:GC} {n:Nat} {F:FC} {K:Frag}
noncomputable def mBIdx (f g:ET):ET:=fun J O Q E=>f J O (fun a O1=>g J O1 (fun b O2=>∃ l bs i x,a=.ref l/\b=.int i/\O2 l=some (.barr bs)/\0<=i/\i<=1000000/\bs[i.toNat]?=some x/\Q (.int x) O2) E) E
theorem sBIdx {e i:Expr} {pos:Pos} {f g:ET} (hf:SI G n F (eval e F.env) f) (hg:SI G n F (eval i F.env) g) (hsl:subscripted i false=fun o j=>operate [o,j] (getItem o j):=by with_unfolding_all rfl):SI G n F (eval (.Subscript e i pos) F.env) (mBIdx f g):=by
 intro A R J O s Qm Em Q E a h K KE
 refine wpC_Subscript (hf A R J O s _ Em _ E a h (fun va ma O1 s1 a1 S1 r1 h₁=>?_) KE)
 refine hg A R J O1 s1 _ Em _ E a1 h₁ (fun vb mb O2 s2 a2 S2 r2 h2=>?_) (fun k O' e s' x=>KE k O' e s' (x.after S1))
 obtain ⟨l,bs,j,x,rfl,rfl,hl,h0,h1,hx,hq⟩:=h2
 have r1':=r1.mono (a1.kd (.inl rfl) S2)
 cases r1'.r;obtain ⟨_,rfl⟩:=r2.i
 obtain ⟨b,hb,rfl⟩:=(a2.rel.own _ _ hl).2
 obtain ⟨c,hc,rfl⟩:=octs_get hx
 have hlt:=(List.getElem?_eq_some_iff.mp hc).1
 refine lift <| tail_any (T:="bytearray") ⟨_,hb,rfl⟩ BA.slot_getitem.lookup (ba_index hb ?_ ?_ (K1.tok (fun v m O' s' a' S'=>K v m O' s' a' ((S1.trans S2).trans S')) a2 (.int ..) hq)) (congrFun (congrFun hsl _) _)
 . simp only [Builtin.Bytes.fitsIndex,Bool.and_eq_true,decide_eq_true_eq];exact And.intro (idn h0) (illt h1)
 . have hj:j=((j.toNat:Nat):Int):=by lia
   have:seqIndex? j b.size=some j.toNat:=by
     unfold seqIndex?
     rw [hj];simp
     rw [Array.length_toList] at hlt;exact idx_ok h0 hlt
   rw [this]
   simpa using hc
noncomputable def mBSlc (f g:ET):ET:=fun J O Q E=>f J O (fun a O1=>g J O1 (fun b O2=>∃ l bs i,a=.ref l/\b=.int i/\O2 l=some (.barr bs)/\yL bs.length/\∀ r,O2 r=none->Q (.ref r) (upd O2 r (.barr (cutM bs (some i) none)))) E) E
theorem sBSlc {e i:Expr} {pos spos:Pos} {f g:ET} (hf:SI G n F (eval e F.env) f) (hg:SI G n F (eval i F.env) g):SI G n F (eval (.Subscript e (.Slice (some i) none none spos) pos) F.env) (mBSlc f g):=by
 intro A R J O s Qm Em Q E a h K KE
 refine wpC_Subscript (hf A R J O s _ Em _ E a h (fun va ma O1 s1 a1 S1 r1 h1=>?_) KE)
 show wpC _ A (do
   let l <- valueOrNone (evalOpt (some i) F.env)
   let u <- holding [l] (valueOrNone (evalOpt none F.env))
   let s <- holding [l,u] (valueOrNone (evalOpt none F.env))
   newFields "slice" [l,u,s]) _ E s1
 refine wP (show wpC _ A (eval i F.env) _ E s1 from hg A R J O1 s1 _ Em _ E a1 h1 (fun vb mb O2 s2 a2 S2 r2 h2=>?_) (fun k O' e s' x=>KE k O' e s' (x.after S1)))
 obtain ⟨l,bs,j,rfl,rfl,hl,hy,hq⟩:=h2
 have r1':=r1.mono (a1.kd (.inl rfl) S2)
 cases r1'.r;obtain ⟨_,rfl⟩:=r2.i
 rename_i t
 refine wP (wH (wC (wP (wH (wC ?_)))))
 obtain ⟨b,hb,rfl⟩:=(a2.rel.own _ _ hl).2
 unfold newFields
 refine lift <| wpAny_newObj_type ?_ (by show (#[Value.int j t,Value.none,Value.none]:Array Value).size<=sizeLine + 2;rw [sizeLine_eq];show 3<=_;exact dC)
 have kk:∀ b o,s2.heap.get? b=some o->(s2.heap.push { cls:=.type "slice",data:=.fields #[.int j t,.none,.none] }).get? b=some o:=fun b o e=>Heap.get?_push_of_some _ e
 have a4:=a2.grow (tk:=s2.toks) kk
 have S4:=(S1.trans S2).trans (.grow (tk:=s2.toks) kk)
 have hsl:∀ o k,subscripted (.Slice (some i) none none spos) false o k=operate [k,o] (getItem o k):=fun o i=>rfl
 have hsz:(KBy.picked b (some j) none).size<=sizeLine:=by
   refine Nat.le_trans (KBc.size_picked_le b (some j) none) ?_
   rw [oC] at hy
   exact sZ hy
 refine lift <| tail_any (T:="bytearray") (s:={ s2 with heap:=_,toks:=s2.toks }) ⟨_,kk _ _ hb,rfl⟩ BA.slot_getitem.lookup (ba_slice (s:={ s2 with heap:=_,toks:=s2.toks }) (kk _ _ hb) (Heap.IsSliceOf.new ..) hsz ?_) (hsl _ _)
 exact K1.push (fun v m O' s' a' S'=>K v m O' s' a' (S4.trans S')) a4 (tk:=s2.toks) (mo:=.barr (cutM (octs b) (some j) none)) ⟨_,Heap.get?_push_size _ rfl,octs_cut b (some j) none⟩ hq
noncomputable def sRet0:ST:=fun J O Q _=>Q (.ret .none) J O
theorem bRet0 {pos:Pos}:SimS G n F (exec (.Return none pos) F.env) sRet0:=by
 intro A R J O s Qm Em Q E a h K KE
 exact fun _ _ _ _ _=>(K (.ret .none) (.ret .none) _ _ _ a (.refl ..) .none h)
noncomputable def mR (G:GC) (n:Nat) (P:Addr) (q:Str) (run:RT):ET:=fun J O Q E=>O P=some (.code (.tab q))/\∀ body sc cl,LamSim G n body sc cl run->∀ O',Coded O O' q->Q (.clo body sc cl) O'
theorem sLamR {m:Nat} {body:Expr} {sc:Scope} {pos:Pos} {c P:Addr} {cl:List (Str × Addr)} {mg mb:Str->Option Value} {q:Str} {run:RT} (W:Wk G K mg mb) (hcode:F.env.code=.ref c) (C:CodeHd G.hB c P) (hcl:closureFor sc F.env=pure cl) (hg:F.env.globals=mainGlobals)
   (hq:F.env.qual ++ "<lambda>"=q) (hs:LamSim G m body sc cl run):SI G n F (eval (.Lambda ⟨[],[],none,[],[],none,[]⟩ body sc pos) F.env) (mR G m P q run):=by
 intro A R J O s Qm Em Q E a h K' KE
 exact sLam hcode C hcl hg W.glob W.bm hq A R J O s Qm Em Q E a ⟨h.1,fun O' hc=>h.2 body sc cl hs O' hc⟩ K' KE
theorem lamSim {body:Expr} {sc:Scope} {cl:List (Str × Addr)} {f:ET} (hco:sc.isCoroutine=false) (hgen:sc.isGenerator=false) (hk:sc.kind=.function) (hc:nCells sc.names=0)
   (h:∀ fl L fa cd q,SI G n ⟨lenv sc cl L fa cd q,[],lenv sc cl L fa cd q :: fl⟩ (eval body (lenv sc cl L fa cd q)) f) (hf:∀ J J' O Q E,f J O Q E->f J' O Q E):LamSim G n body sc cl (f fun _=>none) :=
 ⟨hco,hgen,hk,hc,fun fl L fa cd q A R J O s Qm Em Q E a hx K KE=>h fl L fa cd q A R J O s Qm Em Q E a (hf _ _ _ _ _ hx) K KE⟩
end Mn
namespace Mn
variable {G:GC} {n:Nat} {K:Frag} {mg mb:Str->Option Value}
theorem enter_top {A:Around} {fd:FuncData} {fa:Addr} {vars xs:List Str} {g:ALT} {O:Own} {s:Shared} {vs:List Value} {ms:List MV} {Qm:Mn.Loc->Own->Prop} {Q:Env->Shared->Prop} {E:VS} (H0:HRel G O s.heap)
   (hk:fd.scope.kind=.function) (hg:SimNs G ⟨fenv fd s.heap.objs.size fa,vars,[fenv fd s.heap.objs.size fa]⟩ xs g) (hv:VR G.hB O s.heap vs ms)
   (h:g ms (fun _=>none) (cE s.heap.objs.size (nCells fd.scope.names) O) Qm)
   (hQ:∀ J' O' s',At G ⟨fenv fd s.heap.objs.size fa,vars,[fenv fd s.heap.objs.size fa]⟩ J' O' s'->Step none O O' s s'->Qm J' O'->Q (fenv fd s.heap.objs.size fa) s') :
   wpAny (model G.prog G.w) A (newFunctionEnv fd.scope fd.globals fd.closure (xs.zip vs) (fd.qualname ++ ".<locals>.") (some fa) fd.code none fd.builtins) Q E s:=by
 simp only [newFunctionEnv,Option.isSome_none,Bool.false_eq_true,if_false]
 let L:=s.heap.objs.size
 let F':FC:=⟨fenv fd L fa,vars,[fenv fd L fa]⟩
 let H:=s.heap.push { cls:=.type "frame",data:=.dict #[] }
 have kk:∀ b o,s.heap.get? b=some o->H.get? b=some o:=fun b o e=>Heap.get?_push_of_some _ e
 have hL:H.get? L=some { cls:=.type "frame",data:=.dict #[] }:=Heap.get?_push_size _ rfl
 have hnL:s.heap.get? L=none:=gE _
 have a0:At G F' (fun _=>none) O { s with heap:=H }:=by
   refine ⟨H0.grow kk,⟨fun _=>none,Heap.Ns.new s.heap (.type "frame"),fun x=>?_⟩,H0.none_of hnL,H0.base_none hnL,fun o e=>?_,?_⟩
   . unfold rget;cases idx F'.vars x <;> trivial
   . have e':H.get? L=some o:=e
     cases one hL e'
     unfold Still;simp
   . intro env he
     obtain rfl:env=fenv fd L fa:=List.mem_singleton.mp he
     exact⟨by show fd.scope.kind ≠ _;rw [hk];decide,L,_,rfl,H0.base_none hnL,hL,rfl,(fun vs q=>by cases q),H0.none_of hnL⟩
 have S0:Step none O O s { s with heap:=H }:=Step.grow (tk:=s.toks) kk
 have hsz:H.objs.size=L + 1:=Heap.size_push ..
 obtain ⟨a1,S1,hs1⟩:=layCells_ok (L:=L) fd.scope.names 0 O { s with heap:=H } a0 hsz
 rw [Nat.zero_add] at a1 S1
 refine wpAny_bind (wpAny_alloc ?_)
 refine wpAny_bind (wpAny_layCells _ (fun name kind cells=>by cases hkc:kind == NameKind.cell <;> simp [hkc]) _ _ _ _ ?_)
 rw [show ({ s with heap:=s.heap.push { cls:=.type "frame",data:=.dict #[] } }:Shared).heap.objs.size=L + 1 from hsz]
 have S01:=S0.trans S1
 have hv1:=hv.mono (S01.kd fun _ h=>nomatch h)
 refine wpAny_bind (hg A _ (fun _ _ _=>rfl) (fun _=>none) _ _ vs ms Qm _ E a1 hv1 h fun J' O' s' a' S' q'=>wpAny_pure (hQ J' O' s' a' ?_ q'))
 refine ⟨S01.same.trans S'.same,fun b o hb e1 e2=>?_,fun b o e1 e2=>S'.off b _ (S01.off b o e1 e2) (S01.dom b o e2).choose_spec,fun c q e=>S'.code c q (S01.code c q e),fun b o e=>?_⟩
 . obtain ⟨o',e',q⟩:=S01.keep b o hb e1 e2
   obtain ⟨o'',e'',q'⟩:=S'.keep b o' (fun z=>by
     have z':b=L:=Option.some.inj z
     rw [z',hnL] at e2;cases e2) (S01.off b o e1 e2) e'
   exact⟨o'',e'',q.trans q'⟩
 . obtain ⟨o',e'⟩:=S01.dom b o e
   exact S'.dom b o' e'
noncomputable def TopF (G:GC) (n:Nat) (fv:Value) (c:CT):Prop:=∀ (A:Around),Room [] n A->∀ (O:Own) (s:Shared) (vs:List Value) (ms:List MV) (Qm:PV) (Q:VS) (E:VS),
 HRel G O s.heap->VR G.hB O s.heap vs ms->c ms O Qm (fun _ _=>False)->(∀ v m O' s',HRel G O' s'.heap->Step none O O' s s'->VE G.hB O' s'.heap v m->Qm m O'->Q v s')->wpC (model G.prog G.w) A (call fv vs) Q E s
theorem top_ok {c:CT} {fa:Addr} {fo:Obj} {fd:FuncData} {body:List Stmt} (vars xs:List Str) {g:Addr->ALT} {f:Addr->ST} {ds:List MV} (dvs:List Value) {j k:Nat} (W:Wd G K mg mb) (hc:c=fun ms O Q E=>ms.length=j/\ent g k ds f ms O Q E)
   (ho:K.lookup fa=some fo) (hdat:fo.data=.func fd) (hbody:fd.body=.stmts body) (hnc:nCells fd.scope.names=k) (hk:fd.scope.kind=.function) (hco:fd.scope.isCoroutine=false) (hgen:fd.scope.isGenerator=false) (hcd:codeIn K fd.code fd.qualname=true)
   (hbind:∀ (vs:List Value) (s:Shared),K.In s.heap->vs.length=j->BindsTo s fd ⟨vs,[]⟩ (xs.zip (vs ++ dvs))) (hds:∀ O h,VR G.hB O h dvs ds)
   (hg:∀ L fl,SimNs G ⟨fenv fd L fa,vars,fenv fd L fa :: fl⟩ xs (g L)) (hf:∀ L fl,SimS G n ⟨fenv fd L fa,vars,fenv fd L fa :: fl⟩ (execs body (fenv fd L fa)) (f L)) :
   TopF G (n + 1) (.ref fa) c:=by
 subst hc hnc
 intro A R O s vs ms Qm Q E H hv h K1'
 obtain ⟨hj,h⟩:=h
 have X:=W.inn.keeps H.base
 refine wpC_call (codeC_call_function (by have:=R.depth;omega) (X _ _ ho) hdat hco hgen hbody (codeRec_of X hcd) (lift (hbind vs s X (by rw [hv.length,hj]) _ _ _ _ ?_)))
 have h':=h s.heap.objs.size (fun b hb=>H.none_of (by
   cases q:s.heap.get? b with
   | none=>rfl
   | some o=>exact absurd (Heap.lt_size q) (Nat.not_lt.mpr hb)))
 refine lift <| enter_top H hk (hg _ []) (hv.append (hds _ _)) h' fun J1 O1 s1 a1 S1 h1=>⟨W.lim.keeps a1.rel.base,codeC_func ?_⟩
 have nol:s.heap.get? s.heap.objs.size=none:=gE _
 refine hf _ [] (A.deeper _) R.deeper J1 O1 s1 _ (fun _ _=>False) _ _ a1 h1 (fun fl mf J2 O2 s2 a2 S2 r2 h2=>?_) (fun k O2 e s2 x he=>he.elim)
 have S02:Step none O O2 s s2:=S1.through nol S2
 cases fl <;> cases mf <;> (try exact r2.elim)
 . exact K1' .none .none _ _ a2.rel S02 .none h2
 . exact h2.elim
 . exact h2.elim
 . exact K1' _ _ _ _ a2.rel S02 r2 h2
end Mn
namespace Law
open Mn
noncomputable def itTupR (g:LT):LC->Own->(List MV->(Own->Prop)->Own->Prop)->(PE)->Prop:=fun J O Q E=>itTupD g J O (fun ms q O'=>allRef ms/\Q ms q O') E
noncomputable def f_check_steps:Addr->ST:=fun L =>
   (sQ (sFor (iT (mL 0)) (aT 2 (aC (aL 1) (aC (aL 2) aN))) (sQ (sIf (bAnd (bC .Eq (mL 1) (mC (.int 0))) (bNot (bCmp2 .LtE .LtE (mC (.int 0)) (mL 2) (mC (.int 255))))) (ss 64) sN)
   (sIf (bAnd (bC .NotEq (mL 1) (mC (.int 0))) (bC .Lt (mL 1) (mC (.int 2)))) (ss 64) sN)))
   (sFor (iT (mL 0)) (aT 2 (aC (aL 1) (aC (aL 2) aN))) (sIf (bAnd (bC .NotEq (mL 1) (mC (.int 0))) (bC .Lt (mL 2) (mC (.int 1)))) (ss 52) sN)))
noncomputable def g_check_steps:Addr->ALT:=fun L=>(aC (aL 0) aN)
noncomputable def c_check_steps:CT:=fun ms O Q E=>ms.length=1/\ent g_check_steps 0 [] f_check_steps ms O Q E
noncomputable def f_check_range:Addr->ST:=fun L =>
   (sQ (sIf (bNot (bCmp2 .LtE .LtE (mC (.int 0)) (mL 1) (mA (eC (mL 0) eN) cN))) (ss 64) sN)
   (sIf (bC .Lt (mL 2) (mC (.int 0))) (ss 64) sN))
noncomputable def g_check_range:Addr->ALT:=fun L=>(aC (aL 0) (aC (aL 1) (aC (aL 2) aN)))
noncomputable def c_check_range:CT:=fun ms O Q E=>ms.length=3/\ent g_check_range 0 [] f_check_range ms O Q E
noncomputable def f_step_size:Addr->ST:=fun L =>
   (sR (mIte (bC .Eq (mI (mL 0) (mC (.int 0))) (mC (.int 0))) (mC (.int 1)) (mI (mL 0) (mC (.int 0)))))
noncomputable def g_step_size:Addr->ALT:=fun L=>(aC (aL 0) aN)
noncomputable def c_step_size:CT:=fun ms O Q E=>ms.length=1/\ent g_step_size 0 [] f_step_size ms O Q E
noncomputable def f_unparse:Addr->ST:=fun L =>
   (sQ (sX (mA (eC (mL 0) eN) c_check_steps))
   (sQ (sA (mA (eC (mL 1) eN) cBarr) (aL 2))
   (sQ (sFor (iT (mL 0)) (aT 2 (aC (aL 3) (aC (aL 4) aN))) (sQ (sIf (bC .Eq (mL 3) (mC (.int 0))) (sQ (sX (mM isB (mL 2) (eC (mL 4) eN) cBApp))
   (sFlow .cont)) sN)
   (sQ (sIf (bNot (bCmp2 .LtE .LtE (mC (.int 1)) (mL 4) (mA (eC (mL 2) eN) cN))) (ss 52) sN)
   (sFor (itRange1 (mL 3)) (aL 5) (sX (mM isB (mL 2) (eC (mBIdx (mL 2) (mB .Sub (mA (eC (mL 2) eN) cN) (mL 4))) eN) cBApp))))))
   (sR (mA (eC (mBSlc (mL 2) (mA (eC (mL 1) eN) cN)) eN) cBytes)))))
noncomputable def g_unparse:Addr->ALT:=fun L=>(aC (aL 0) (aC (aL 1) aN))
noncomputable def c_unparse:CT:=fun ms O Q E=>ms.length=2/\ent g_unparse 0 [] f_unparse ms O Q E
noncomputable def f_is_match_right:Addr->ST:=fun L =>
   (sQ (sIf (bOr (bC .Gt (mB .Add (mL 1) (mL 2)) (mA (eC (mL 0) eN) cN)) (bNot (bCmp2 .LtE .LtE (mC (.int 1)) (mL 3) (mL 1)))) (sR (mC (.bool false))) sN)
   (sQ (sFor (itRange2 (mL 1) (mB .Add (mL 1) (mL 2))) (aL 4) (sIf (bC .NotEq (mI (mL 0) (mL 4)) (mI (mL 0) (mB .Sub (mL 4) (mL 3)))) (sR (mC (.bool false))) sN))
   (sR (mC (.bool true)))))
noncomputable def g_is_match_right:Addr->ALT:=fun L=>(aC (aL 0) (aC (aL 1) (aC (aL 2) (aC (aL 3) aN))))
noncomputable def c_is_match_right:CT:=fun ms O Q E=>ms.length=4/\ent g_is_match_right 0 [] f_is_match_right ms O Q E
noncomputable def f_fits:Addr->ST:=fun L =>
   (sQ (sIf (bC .Lt (mL 2) (mC (.int 0))) (ss 64) sN)
   (sQ (sA (mL 2) (aL 6))
   (sQ (sFor (iT (mL 0)) (aT 2 (aC (aL 7) (aC (aL 8) aN))) (sQ (sIf (bC .Eq (mL 7) (mC (.int 0))) (sQ (sIf (bOr (bC .GtE (mL 6) (mA (eC (mL 1) eN) cN)) (bC .NotEq (mI (mL 1) (mL 6)) (mL 8))) (sR (mC (.bool false))) sN)
   (sQ (sA (mB .Add (mL 6) (mC (.int 1))) (aL 6))
   (sFlow .cont))) sN)
   (sQ (sIf (bOr (bC .Lt (mL 7) (mL 3)) (bOr (bAnd (bC .IsNot (mL 4) (mC .none)) (bC .Gt (mL 7) (mL 4))) (bAnd (bC .IsNot (mL 5) (mC .none)) (bC .Gt (mL 8) (mL 5))))) (sR (mC (.bool false))) sN)
   (sQ (sIf (bNot (bVal (mA (eC (mL 1) (eC (mL 6) (eC (mL 7) (eC (mL 8) eN)))) c_is_match_right))) (sR (mC (.bool false))) sN)
   (sA (mB .Add (mL 6) (mL 7)) (aL 6))))))
   (sR (mCmp .Eq (mL 6) (mA (eC (mL 1) eN) cN))))))
noncomputable def g_fits:Addr->ALT:=fun L=>(aC (aL 0) (aC (aL 1) (aC (aL 2) (aC (aL 3) (aC (aL 4) (aC (aL 5) aN))))))
noncomputable def c_fits:CT:=fun ms O Q E=>ms.length=3/\ent g_fits 0 [.int 2,.none,.none] f_fits ms O Q E
noncomputable def f_Trail_init:Addr->ST:=fun L =>
   (sQ (sA (mL 1) (aAtt 146 1 (mL 0)))
   (sQ (sA (mA (eC (mT 549 16 (mL 1)) (eC (mC (.int 2)) eN)) cMax) (aAtt 146 2 (mL 0)))
   (sA (mC (.int 0)) (aAtt 146 3 (mL 0)))))
noncomputable def g_Trail_init:Addr->ALT:=fun L=>(aC (aL 0) (aC (aL 1) aN))
noncomputable def c_Trail_init:CT:=fun ms O Q E=>ms.length=2/\ent g_Trail_init 0 [] f_Trail_init ms O Q E
noncomputable def f_PlaceRow_key:Addr->ST:=fun L =>
   (sQ (sIf (bNot (bCmp2 .LtE .LtE (mC (.int 0)) (mL 1) (mA (eC (mT 415 13 (mL 0)) eN) cN))) (ss 64) sN)
   (sQ (sIf (bC .Gt (mB .Add (mL 1) (mT 415 4 (mL 0))) (mA (eC (mT 415 13 (mL 0)) eN) cN)) (sR (mC .none)) sN)
   (sQ (sA (mC (.int 0)) (aL 2))
   (sQ (sFor (itBytes (mSlc (mT 415 13 (mL 0)) (pYes (mL 1)) (pYes (mB .Add (mL 1) (mT 415 4 (mL 0)))))) (aL 3) (sA (mB .Add (mB .Mult (mL 2) (mC (.int 256))) (mL 3)) (aL 2)))
   (sR (mL 2))))))
noncomputable def g_PlaceRow_key:Addr->ALT:=fun L=>(aC (aL 0) (aC (aL 1) aN))
noncomputable def c_PlaceRow_key:CT:=fun ms O Q E=>ms.length=2/\ent g_PlaceRow_key 0 [] f_PlaceRow_key ms O Q E
noncomputable def f_PlaceRow_put:Addr->ST:=fun L =>
   (sQ (sA (mMet 415 (mL 0) (eC (mL 1) eN) c_PlaceRow_key) (aL 2))
   (sIf (bC .IsNot (mL 2) (mC .none)) (sQ (sA (mM isD (mT 415 14 (mL 0)) (eC (mL 2) (eC (mC (.int (-1))) eN)) cGet) (aIdx (mT 415 15 (mL 0)) (mL 1)))
   (sA (mL 1) (aIdx (mT 415 14 (mL 0)) (mL 2)))) sN))
noncomputable def g_PlaceRow_put:Addr->ALT:=fun L=>(aC (aL 0) (aC (aL 1) aN))
noncomputable def c_PlaceRow_put:CT:=fun ms O Q E=>ms.length=2/\ent g_PlaceRow_put 0 [] f_PlaceRow_put ms O Q E
noncomputable def f_Finder_enter:Addr->ST:=fun L =>
   (sX (mMet 415 (mT 549 20 (mL 0)) (eC (mL 1) eN) c_PlaceRow_put))
noncomputable def g_Finder_enter:Addr->ALT:=fun L=>(aC (aL 0) (aC (aL 1) aN))
noncomputable def c_Finder_enter:CT:=fun ms O Q E=>ms.length=2/\ent g_Finder_enter 0 [] f_Finder_enter ms O Q E
noncomputable def f_Matcher_put:Addr->ST:=fun L =>
   (sQ (sIf (bOr (bC .Lt (mL 1) (mT 549 19 (mL 0))) (bC .GtE (mL 1) (mA (eC (mT 549 13 (mL 0)) eN) cN))) (ss 64) sN)
   (sQ (sA (mB .Add (mL 1) (mC (.int 1))) (aAtt 549 19 (mL 0)))
   (sX (mMet 549 (mL 0) (eC (mL 1) eN) c_Finder_enter))))
noncomputable def g_Matcher_put:Addr->ALT:=fun L=>(aC (aL 0) (aC (aL 1) aN))
noncomputable def c_Matcher_put:CT:=fun ms O Q E=>ms.length=2/\ent g_Matcher_put 0 [] f_Matcher_put ms O Q E
noncomputable def f_Trail_up_to:Addr->ST:=fun L =>
   (sWh (bC .Lt (mT 146 3 (mL 0)) (mL 1)) (sQ (sX (mMet 549 (mT 146 1 (mL 0)) (eC (mT 146 3 (mL 0)) eN) c_Matcher_put))
   (sA (mB .Add (mT 146 3 (mL 0)) (mC (.int 1))) (aAtt 146 3 (mL 0)))))
noncomputable def g_Trail_up_to:Addr->ALT:=fun L=>(aC (aL 0) (aC (aL 1) aN))
noncomputable def c_Trail_up_to:CT:=fun ms O Q E=>ms.length=2/\ent g_Trail_up_to 0 [] f_Trail_up_to ms O Q E
noncomputable def f_Matcher_is_near:Addr->ST:=fun L =>
   (sR (mAnd (mCmp .NotEq (mL 2) (mC (.int (-1)))) (mCmp .LtE (mB .Sub (mL 1) (mL 2)) (mT 549 17 (mL 0)))))
noncomputable def g_Matcher_is_near:Addr->ALT:=fun L=>(aC (aL 0) (aC (aL 1) (aC (aL 2) aN)))
noncomputable def c_Matcher_is_near:CT:=fun ms O Q E=>ms.length=3/\ent g_Matcher_is_near 0 [] f_Matcher_is_near ms O Q E
noncomputable def f_PlaceRow_newest:Addr->ST:=fun L =>
   (sQ (sA (mMet 415 (mL 0) (eC (mL 1) eN) c_PlaceRow_key) (aL 2))
   (sQ (sIf (bC .Is (mL 2) (mC .none)) (sR (mC (.int (-1)))) sN)
   (sQ (sA (mM isD (mT 415 14 (mL 0)) (eC (mL 2) (eC (mC (.int (-1))) eN)) cGet) (aL 3))
   (sQ (sWh (bC .GtE (mL 3) (mL 1)) (sA (mI (mT 415 15 (mL 0)) (mL 3)) (aL 3)))
   (sR (mL 3))))))
noncomputable def g_PlaceRow_newest:Addr->ALT:=fun L=>(aC (aL 0) (aC (aL 1) aN))
noncomputable def c_PlaceRow_newest:CT:=fun ms O Q E=>ms.length=2/\ent g_PlaceRow_newest 0 [] f_PlaceRow_newest ms O Q E
noncomputable def f_Finder_candidates:Addr->ST:=fun L =>
   (sQ (sA (mLst eN) (aL 2))
   (sQ (sA (mMet 415 (mT 549 20 (mL 0)) (eC (mL 1) eN) c_PlaceRow_newest) (aL 3))
   (sQ (sWh (bAnd (bVal (mMet 549 (mL 0) (eC (mL 1) (eC (mL 3) eN)) c_Matcher_is_near)) (bC .Lt (mA (eC (mL 2) eN) cN) (mT 549 18 (mL 0)))) (sQ (sX (mM isL (mL 2) (eC (mL 3) eN) cA))
   (sA (mI (mT 415 15 (mT 549 20 (mL 0))) (mL 3)) (aL 3))))
   (sR (mL 2)))))
noncomputable def g_Finder_candidates:Addr->ALT:=fun L=>(aC (aL 0) (aC (aL 1) aN))
noncomputable def c_Finder_candidates:CT:=fun ms O Q E=>ms.length=2/\ent g_Finder_candidates 0 [] f_Finder_candidates ms O Q E
noncomputable def f_Matcher_alike:Addr->ST:=fun L =>
   (sQ (sA (mT 549 13 (mL 0)) (aL 5))
   (sQ (sWh (bAnd (bC .Lt (mL 3) (mL 4)) (bC .Eq (mI (mL 5) (mB .Add (mL 1) (mL 3))) (mI (mL 5) (mB .Add (mL 2) (mL 3))))) (sAug 3 (mC (.int 1))))
   (sR (mL 3))))
noncomputable def g_Matcher_alike:Addr->ALT:=fun L=>(aC (aL 0) (aC (aL 1) (aC (aL 2) (aC (aL 3) (aC (aL 4) aN)))))
noncomputable def c_Matcher_alike:CT:=fun ms O Q E=>ms.length=5/\ent g_Matcher_alike 0 [] f_Matcher_alike ms O Q E
noncomputable def f_Matcher_limit:Addr->ST:=fun L =>
   (sR (mA (eC (mL 2) (eC (mB .Sub (mA (eC (mT 549 13 (mL 0)) eN) cN) (mL 1)) eN)) cMin))
noncomputable def g_Matcher_limit:Addr->ALT:=fun L=>(aC (aL 0) (aC (aL 1) (aC (aL 2) aN)))
noncomputable def c_Matcher_limit:CT:=fun ms O Q E=>ms.length=3/\ent g_Matcher_limit 0 [] f_Matcher_limit ms O Q E
noncomputable def f_Finder_every:Addr->ST:=fun L =>
   (sQ (sA (mU (eC (mLst eN) (eC (mMet 549 (mL 0) (eC (mL 1) (eC (mL 2) eN)) c_Matcher_limit) eN))) (aT 2 fun ms=>(aC (aL 4) (aC (aL 3) aN)) ms.reverse))
   (sQ (sA (mB .Sub (mT 549 16 (mL 0)) (mC (.int 1))) (aL 5))
   (sQ (sFor (iT (mMet 549 (mL 0) (eC (mL 1) eN) c_Finder_candidates)) (aL 6) (sQ (sIf (bC .GtE (mL 5) (mL 4)) (sFlow .brk) sN)
   (sIf (bC .Eq (mI (mT 549 13 (mL 0)) (mB .Add (mL 6) (mL 5))) (mI (mT 549 13 (mL 0)) (mB .Add (mL 1) (mL 5)))) (sQ (sA (mMet 549 (mL 0) (eC (mL 1) (eC (mL 6) (eC (mC (.int 0)) (eC (mL 4) eN)))) c_Matcher_alike) (aL 7))
   (sIf (bC .Gt (mL 7) (mL 5)) (sQ (sX (mM isL (mL 3) (eC (mU (eC (mL 7) (eC (mB .Sub (mL 1) (mL 6)) eN))) eN) cA))
   (sA (mL 7) (aL 5))) sN)) sN)))
   (sR (mL 3)))))
noncomputable def g_Finder_every:Addr->ALT:=fun L=>(aC (aL 0) (aC (aL 1) (aC (aL 2) aN)))
noncomputable def c_Finder_every:CT:=fun ms O Q E=>ms.length=3/\ent g_Finder_every 0 [] f_Finder_every ms O Q E
noncomputable def f_Trail_every:Addr->ST:=fun L =>
   (sQ (sX (mMet 146 (mE (L + 1 + 0)) (eC (mL 0) eN) c_Trail_up_to))
   (sR (mComp (iT (mMet 549 (mT 146 1 (mE (L + 1 + 0))) (eC (mL 0) (eC (mL 1) eN)) c_Finder_every)) 0 (fun C=>(aL 0)) (fun C=>(bC .GtE (mI (mL 0) (mC (.int 0))) (mT 146 2 (mE (L + 1 + 0))))) (fun C=>(mL 0)))))
noncomputable def g_Trail_every:Addr->ALT:=fun L=>(aC (aCel (L + 1 + 0)) (aC (aL 0) (aC (aL 1) aN)))
noncomputable def c_Trail_every:CT:=fun ms O Q E=>ms.length=3/\ent g_Trail_every 1 [] f_Trail_every ms O Q E
noncomputable def f_Ways_init:Addr->ST:=fun L =>
   (sQ (sA (mL 1) (aAtt 181 4 (mL 0)))
   (sQ (sA (mB .Add (mLst (eC (mC (.int 0)) eN)) (mB .Mult (mLst (eC (mC .none) eN)) (mL 1))) (aAtt 181 5 (mL 0)))
   (sA (mB .Mult (mLst (eC (mC .none) eN)) (mB .Add (mL 1) (mC (.int 1)))) (aAtt 181 6 (mL 0)))))
noncomputable def g_Ways_init:Addr->ALT:=fun L=>(aC (aL 0) (aC (aL 1) aN))
noncomputable def c_Ways_init:CT:=fun ms O Q E=>ms.length=2/\ent g_Ways_init 0 [] f_Ways_init ms O Q E
noncomputable def f_Ways_offer:Addr->ST:=fun L =>
   (sQ (sA (mB .Add (mL 1) (mA (eC (mL 2) eN) c_step_size)) (aL 4))
   (sQ (sIf (bC .Gt (mL 4) (mT 181 4 (mL 0))) sRet0 sN)
   (sQ (sA (mB .Add (mI (mT 181 5 (mL 0)) (mL 1)) (mL 3)) (aL 5))
   (sIf (bOr (bC .Is (mI (mT 181 5 (mL 0)) (mL 4)) (mC .none)) (bC .Lt (mL 5) (mI (mT 181 5 (mL 0)) (mL 4)))) (sQ (sA (mL 5) (aIdx (mT 181 5 (mL 0)) (mL 4)))
   (sA (mL 2) (aIdx (mT 181 6 (mL 0)) (mL 4)))) sN))))
noncomputable def g_Ways_offer:Addr->ALT:=fun L=>(aC (aL 0) (aC (aL 1) (aC (aL 2) (aC (aL 3) aN))))
noncomputable def c_Ways_offer:CT:=fun ms O Q E=>ms.length=4/\ent g_Ways_offer 0 [] f_Ways_offer ms O Q E
noncomputable def f_Ways_told:Addr->ST:=fun L =>
   (sQ (sA (mU (eC (mLst eN) (eC (mT 181 4 (mL 0)) eN))) (aT 2 fun ms=>(aC (aL 2) (aC (aL 1) aN)) ms.reverse))
   (sQ (sWh (bC .Gt (mL 2) (mC (.int 0))) (sQ (sX (mM isL (mL 1) (eC (mI (mT 181 6 (mL 0)) (mL 2)) eN) cA))
   (sA (mB .Sub (mL 2) (mA (eC (mI (mT 181 6 (mL 0)) (mL 2)) eN) c_step_size)) (aL 2))))
   (sR (mRev (mL 1)))))
noncomputable def g_Ways_told:Addr->ALT:=fun L=>(aC (aL 0) aN)
noncomputable def c_Ways_told:CT:=fun ms O Q E=>ms.length=1/\ent g_Ways_told 0 [] f_Ways_told ms O Q E
noncomputable def f_FlatPrice_init:Addr->ST:=fun L =>
   (sQ (sIf (bOr (bC .Lt (mL 1) (mC (.int 0))) (bOr (bC .Lt (mL 2) (mC (.int 0))) (bC .Lt (mL 3) (mC (.int 0))))) (ss 64) sN)
   (sQ (sA (mL 1) (aAtt 232 7 (mL 0)))
   (sQ (sA (mL 2) (aAtt 232 8 (mL 0)))
   (sA (mL 3) (aAtt 232 9 (mL 0))))))
noncomputable def g_FlatPrice_init:Addr->ALT:=fun L=>(aC (aL 0) (aC (aL 1) (aC (aL 2) (aC (aL 3) aN))))
noncomputable def c_FlatPrice_init:CT:=fun ms O Q E=>ms.length=3/\ent g_FlatPrice_init 0 [.int 0] f_FlatPrice_init ms O Q E
noncomputable def f_FlatPrice_literal:Addr->ST:=fun L =>
   (sR (mT 232 7 (mL 0)))
noncomputable def g_FlatPrice_literal:Addr->ALT:=fun L=>(aC (aL 0) (aC (aL 1) aN))
noncomputable def c_FlatPrice_literal:CT:=fun ms O Q E=>ms.length=2/\ent g_FlatPrice_literal 0 [] f_FlatPrice_literal ms O Q E
noncomputable def f_FlatPrice_match:Addr->ST:=fun L =>
   (sQ (sIf (bC .Eq (mT 232 9 (mL 0)) (mC (.int 0))) (sR (mT 232 8 (mL 0))) sN)
   sNever)
noncomputable def g_FlatPrice_match:Addr->ALT:=fun L=>(aC (aL 0) (aC (aL 1) (aC (aL 2) aN)))
noncomputable def c_FlatPrice_match:CT:=fun ms O Q E=>ms.length=3/\ent g_FlatPrice_match 0 [] f_FlatPrice_match ms O Q E
noncomputable def f_Counts_init:Addr->ST:=fun L =>
   (sQ (sA (mB .Mult (mLst (eC (mC (.int 0)) eN)) (mC (.int 256))) (aAtt 260 10 (mL 0)))
   (sQ (sA mDct (aAtt 260 11 (mL 0)))
   (sA mDct (aAtt 260 12 (mL 0)))))
noncomputable def g_Counts_init:Addr->ALT:=fun L=>(aC (aL 0) aN)
noncomputable def c_Counts_init:CT:=fun ms O Q E=>ms.length=1/\ent g_Counts_init 0 [] f_Counts_init ms O Q E
noncomputable def f_Counts_add:Addr->ST:=fun L =>
   (sQ (sX (mA (eC (mL 1) eN) c_check_steps))
   (sFor (iT (mL 1)) (aT 2 (aC (aL 2) (aC (aL 3) aN))) (sIf (bC .Eq (mL 2) (mC (.int 0))) (sA (mB .Add (mI (mT 260 10 (mL 0)) (mL 3)) (mC (.int 1))) (aIdx (mT 260 10 (mL 0)) (mL 3))) (sQ (sA (mB .Add (mM isD (mT 260 11 (mL 0)) (eC (mL 2) (eC (mC (.int 0)) eN)) cGet) (mC (.int 1))) (aIdx (mT 260 11 (mL 0)) (mL 2)))
   (sA (mB .Add (mM isD (mT 260 12 (mL 0)) (eC (mL 3) (eC (mC (.int 0)) eN)) cGet) (mC (.int 1))) (aIdx (mT 260 12 (mL 0)) (mL 3)))))))
noncomputable def g_Counts_add:Addr->ALT:=fun L=>(aC (aL 0) (aC (aL 1) aN))
noncomputable def cC:CT:=fun ms O Q E=>ms.length=2/\ent g_Counts_add 0 [] f_Counts_add ms O Q E
noncomputable def f_counts_of:Addr->ST:=fun L =>
   (sQ (sA (mA eN (mkC 260 c_Counts_init)) (aL 1))
   (sQ (sX (mMet 260 (mL 1) (eC (mL 0) eN) cC))
   (sR (mL 1))))
noncomputable def g_counts_of:Addr->ALT:=fun L=>(aC (aL 0) aN)
noncomputable def c_counts_of:CT:=fun ms O Q E=>ms.length=1/\ent g_counts_of 0 [] f_counts_of ms O Q E
noncomputable def f_need_unit:Addr->ST:=fun L =>
   (sIf (bNot (bCmp2 .LtE .LtE (mC (.int 1)) (mL 0) (mC (.int 1024)))) (ss 64) sN)
noncomputable def g_need_unit:Addr->ALT:=fun L=>(aC (aL 0) aN)
noncomputable def c_need_unit:CT:=fun ms O Q E=>ms.length=1/\ent g_need_unit 0 [] f_need_unit ms O Q E
noncomputable def f_LearntPrice_init:Addr->ST:=fun L =>
   (sQ (sX (mA (eC (mL 2) eN) c_need_unit))
   sNever)
noncomputable def g_LearntPrice_init:Addr->ALT:=fun L=>(aC (aL 0) (aC (aL 1) (aC (aL 2) aN)))
noncomputable def c_LearntPrice_init:CT:=fun ms O Q E=>ms.length=3/\ent g_LearntPrice_init 0 [] f_LearntPrice_init ms O Q E
noncomputable def f_PlaceRow_init:Addr->ST:=fun L =>
   (sQ (sIf (bC .Lt (mL 2) (mC (.int 1))) (ss 64) sN)
   (sQ (sA (mL 1) (aAtt 415 13 (mL 0)))
   (sQ (sA (mL 2) (aAtt 415 4 (mL 0)))
   (sQ (sA mDct (aAtt 415 14 (mL 0)))
   (sA (mB .Mult (mLst (eC (mC (.int (-1))) eN)) (mA (eC (mL 1) eN) cN)) (aAtt 415 15 (mL 0)))))))
noncomputable def g_PlaceRow_init:Addr->ALT:=fun L=>(aC (aL 0) (aC (aL 1) (aC (aL 2) aN)))
noncomputable def c_PlaceRow_init:CT:=fun ms O Q E=>ms.length=3/\ent g_PlaceRow_init 0 [] f_PlaceRow_init ms O Q E
noncomputable def f_Matcher_init:Addr->ST:=fun L =>
   (sQ (sIf (bC .Lt (mL 2) (mC (.int 1))) (ss 64) sN)
   (sQ (sIf (bC .Lt (mL 3) (mC (.int 1))) (ss 64) sN)
   (sQ (sIf (bC .Lt (mL 4) (mC (.int 1))) (ss 64) sN)
   (sQ (sA (mA (eC (mL 1) eN) cBytes) (aAtt 549 13 (mL 0)))
   (sQ (sA (mL 2) (aAtt 549 16 (mL 0)))
   (sQ (sA (mL 3) (aAtt 549 17 (mL 0)))
   (sQ (sA (mL 4) (aAtt 549 18 (mL 0)))
   (sA (mC (.int 0)) (aAtt 549 19 (mL 0))))))))))
noncomputable def g_Matcher_init:Addr->ALT:=fun L=>(aC (aL 0) (aC (aL 1) (aC (aL 2) (aC (aL 3) (aC (aL 4) aN)))))
noncomputable def c_Matcher_init:CT:=fun ms O Q E=>ms.length=5/\ent g_Matcher_init 0 [] f_Matcher_init ms O Q E
noncomputable def f_Finder_init:Addr->ST:=fun L =>
   (sQ (sX (mA (eC (mL 0) (eC (mL 1) (eC (mL 2) (eC (mL 3) (eC (mL 4) eN))))) c_Matcher_init))
   (sA (mA (eC (mT 549 13 (mL 0)) (eC (mL 2) eN)) (mkC 415 c_PlaceRow_init)) (aAtt 549 20 (mL 0))))
noncomputable def g_Finder_init:Addr->ALT:=fun L=>(aC (aL 0) (aC (aL 1) (aC (aL 2) (aC (aL 3) (aC (aL 4) aN)))))
noncomputable def c_Finder_init:CT:=fun ms O Q E=>ms.length=5/\ent g_Finder_init 0 [] f_Finder_init ms O Q E
noncomputable def f_least:Addr->ST:=fun L =>
   (sQ (sX (mA (eC (mL 0) (eC (mL 1) (eC (mL 3) eN))) c_check_range))
   (sQ (sA (mU (eC (mA (eC (mL 2) eN) (mkC 146 c_Trail_init)) (eC (mA (eC (mB .Sub (mA (eC (mL 0) eN) cN) (mL 1)) eN) (mkC 181 c_Ways_init)) (eC (mC (.int 0)) eN)))) (aT 3 fun ms=>(aC (aL 8) (aC (aL 7) (aC (aL 6) aN))) ms.reverse))
   (sQ (sWh (bC .Lt (mL 8) (mT 181 4 (mL 7))) (sQ (sA (mB .Add (mL 1) (mL 8)) (aL 9))
   (sQ (sA (mMet 146 (mL 6) (eC (mL 9) (eC (mL 3) eN)) c_Trail_every) (aL 10))
   (sQ (sX (mMet 181 (mL 7) (eC (mL 8) (eC (mU (eC (mC (.int 0)) (eC (mI (mL 0) (mL 9)) eN))) (eC (mMet 232 (mL 4) (eC (mI (mL 0) (mL 9)) eN) c_FlatPrice_literal) eN))) c_Ways_offer))
   (sQ (sFor (iT (mL 10)) (aT 2 (aC (aL 11) (aC (aL 12) aN))) (sFor (itRange2 (mT 146 2 (mL 6)) (mB .Add (mL 11) (mC (.int 1)))) (aL 13) (sX (mMet 181 (mL 7) (eC (mL 8) (eC (mU (eC (mL 13) (eC (mL 12) eN))) (eC (mMet 232 (mL 4) (eC (mL 13) (eC (mL 12) eN)) c_FlatPrice_match) eN))) c_Ways_offer))))
   (sQ (sA (mC (.int 1)) (aL 14))
   (sQ (sIf (bAnd (bC .IsNot (mL 5) (mC .none)) (bAnd bNever bNever)) (sA (mI (mI (mL 10) (mNeg (mC (.int 1)))) (mC (.int 0))) (aL 14)) sN)
   (sA (mB .Add (mL 8) (mL 14)) (aL 8)))))))))
   (sR (mMet 181 (mL 7) eN c_Ways_told)))))
noncomputable def g_least:Addr->ALT:=fun L=>(aC (aL 0) (aC (aL 1) (aC (aL 2) (aC (aL 3) (aC (aL 4) (aC (aL 5) aN))))))
noncomputable def c_least:CT:=fun ms O Q E=>ms.length=5/\ent g_least 0 [.none] f_least ms O Q E
noncomputable def f_learn:Addr->ST:=fun L =>
   (sQ (sIf (bC .Eq (mA (eC (mL 2) eN) cN) (mC (.int 0))) (ss 64) sN)
   (sQ (sX (mA (eC (mL 5) eN) c_need_unit))
   (sQ (sA (mA (eC (mL 0) (eC (mL 1) (eC (mI (mL 2) (mC (.int 0))) (eC (mL 3) (eC (mL 4) eN))))) c_least) (aL 6))
   (sQ (sFor (iT (mSlc (mL 2) (pYes (mC (.int 1))) pNo)) (aL 7) sNever)
   (sR (mL 6))))))
noncomputable def g_learn:Addr->ALT:=fun L=>(aC (aL 0) (aC (aL 1) (aC (aL 2) (aC (aL 3) (aC (aL 4) (aC (aL 5) aN))))))
noncomputable def c_learn:CT:=fun ms O Q E=>ms.length=6/\ent g_learn 0 [] f_learn ms O Q E
noncomputable def f_put_part:Addr->ST:=fun L =>
   (sIf (bC .GtE (mL 3) (mL 5)) (sX (mM isL (mL 0) (eC (mU (eC (mL 3) (eC (mL 4) eN))) eN) cA)) (sX (mM isL (mL 0) (eC (mComp (itBytes (mSlc (mL 1) (pYes (mL 2)) (pYes (mB .Add (mL 2) (mL 3))))) 0 (fun C=>(aL 0)) (fun C=>bTrue) (fun C=>(mU (eC (mC (.int 0)) (eC (mL 0) eN))))) eN) cExtend)))
noncomputable def g_put_part:Addr->ALT:=fun L=>(aC (aL 0) (aC (aL 1) (aC (aL 2) (aC (aL 3) (aC (aL 4) (aC (aL 5) aN))))))
noncomputable def c_put_part:CT:=fun ms O Q E=>ms.length=6/\ent g_put_part 0 [] f_put_part ms O Q E
noncomputable def f_cut_steps:Addr->ST:=fun L =>
   (sQ (sIf (bC .Lt (mL 3) (mC (.int 2))) (ss 64) sN)
   (sQ (sA (mA (eC (mL 0) (eC (mL 2) eN)) c_unparse) (aL 4))
   (sQ (sIf (bOr (bC .NotEq (mA (eC (mL 1) eN) cSum) (mA (eC (mL 4) eN) cN)) (bDCmp .NotEq (mComp (iT (mL 1)) 0 (fun C=>(aL 0)) (fun C=>(bC .Lt (mL 0) (mC (.int 0)))) (fun C=>(mL 0))) (mLst eN))) (ss 64) sN)
   (sQ (sA (mU (eC (mLst eN) (eC (mC (.int 0)) (eC (mC (.int 0)) eN)))) (aT 3 fun ms=>(aC (aL 8) (aC (aL 7) (aC (aL 6) aN))) ms.reverse))
   (sQ (sA (mU (eC (mC (.int 0)) (eC (mC (.int 0)) eN))) (aT 2 (aC (aL 9) (aC (aL 10) aN))))
   (sQ (sFor (iT (mL 1)) (aL 5) (sQ (sA (mU (eC (mLst eN) (eC (mB .Add (mL 7) (mL 5)) eN))) (aT 2 fun ms=>(aC (aL 12) (aC (aL 11) aN)) ms.reverse))
   (sQ (sWh (bC .Lt (mL 7) (mL 12)) (sQ (sIf (bC .Eq (mL 9) (mC (.int 0))) (sQ (sA (mI (mL 0) (mL 8)) (aT 2 (aC (aL 13) (aC (aL 14) aN))))
   (sQ (sA (mB .Add (mL 8) (mC (.int 1))) (aL 8))
   (sQ (sIf (bC .Eq (mL 13) (mC (.int 0))) (sQ (sX (mM isL (mL 11) (eC (mU (eC (mC (.int 0)) (eC (mL 14) eN))) eN) cA))
   (sQ (sA (mB .Add (mL 7) (mC (.int 1))) (aL 7))
   (sFlow .cont))) sN)
   (sA (mU (eC (mL 13) (eC (mL 14) eN))) (aT 2 fun ms=>(aC (aL 10) (aC (aL 9) aN)) ms.reverse))))) sN)
   (sQ (sA (mA (eC (mL 9) (eC (mB .Sub (mL 12) (mL 7)) eN)) cMin) (aL 15))
   (sQ (sX (mA (eC (mL 11) (eC (mL 4) (eC (mL 7) (eC (mL 15) (eC (mL 10) (eC (mL 3) eN)))))) c_put_part))
   (sA (mU (eC (mB .Add (mL 7) (mL 15)) (eC (mB .Sub (mL 9) (mL 15)) eN))) (aT 2 fun ms=>(aC (aL 9) (aC (aL 7) aN)) ms.reverse))))))
   (sX (mM isL (mL 6) (eC (mL 11) eN) cA)))))
   (sR (mL 6))))))))
noncomputable def g_cut_steps:Addr->ALT:=fun L=>(aC (aL 0) (aC (aL 1) (aC (aL 2) (aC (aL 3) aN))))
noncomputable def c_cut_steps3:CT:=fun ms O Q E=>ms.length=3/\ent g_cut_steps 0 [.int 2] f_cut_steps ms O Q E
noncomputable def c_cut_steps4:CT:=fun ms O Q E=>ms.length=4/\ent g_cut_steps 0 [] f_cut_steps ms O Q E
noncomputable def f_runs_of:Addr->ST:=fun L =>
   (sQ (sX (mA (eC (mL 0) eN) c_check_steps))
   (sQ (sA (mU (eC (mLst eN) (eC (mA eN cBarr) eN))) (aT 2 fun ms=>(aC (aL 2) (aC (aL 1) aN)) ms.reverse))
   (sQ (sFor (iT (mL 0)) (aT 2 (aC (aL 3) (aC (aL 4) aN))) (sIf (bC .Eq (mL 3) (mC (.int 0))) (sX (mM isB (mL 2) (eC (mL 4) eN) cBApp)) (sQ (sX (mM isL (mL 1) (eC (mU (eC (mA (eC (mL 2) eN) cBytes) (eC (mL 3) (eC (mL 4) eN)))) eN) cA))
   (sA (mA eN cBarr) (aL 2)))))
   (sR (mU (eC (mL 1) (eC (mA (eC (mL 2) eN) cBytes) eN)))))))
noncomputable def g_runs_of:Addr->ALT:=fun L=>(aC (aL 0) aN)
noncomputable def c_runs_of:CT:=fun ms O Q E=>ms.length=1/\ent g_runs_of 0 [] f_runs_of ms O Q E
noncomputable def f_steps_of_runs:Addr->ST:=fun L =>
   (sQ (sA (mLst eN) (aL 2))
   (sQ (sFor (iT (mL 0)) (aT 3 (aC (aL 3) (aC (aL 4) (aC (aL 5) aN)))) (sQ (sX (mM isL (mL 2) (eC (mComp (itBytes (mL 3)) 0 (fun C=>(aL 0)) (fun C=>bTrue) (fun C=>(mU (eC (mC (.int 0)) (eC (mL 0) eN))))) eN) cExtend))
   (sX (mM isL (mL 2) (eC (mU (eC (mL 4) (eC (mL 5) eN))) eN) cA))))
   (sQ (sX (mM isL (mL 2) (eC (mComp (itBytes (mL 1)) 0 (fun C=>(aL 0)) (fun C=>bTrue) (fun C=>(mU (eC (mC (.int 0)) (eC (mL 0) eN))))) eN) cExtend))
   (sQ (sX (mA (eC (mL 2) eN) c_check_steps))
   (sR (mL 2))))))
noncomputable def g_steps_of_runs:Addr->ALT:=fun L=>(aC (aL 0) (aC (aL 1) aN))
noncomputable def c_steps_of_runs1:CT:=fun ms O Q E=>ms.length=1/\ent g_steps_of_runs 0 [.bytes []] f_steps_of_runs ms O Q E
noncomputable def c_steps_of_runs2:CT:=fun ms O Q E=>ms.length=2/\ent g_steps_of_runs 0 [] f_steps_of_runs ms O Q E
noncomputable def f__law_figure:Addr->ST:=fun L =>
   (sQ (sA (mB .Add (mI (mL 0) (mC (.int 1))) (mC (.int 1))) (aIdx (mL 0) (mC (.int 1))))
   (sQ (sIf (bDCmp .Eq (mI (mL 0) (mC (.int 0))) (mLst eN)) (sR (mB .Mod (mB .Mod (mB .Add (mB .Add (mB .Mult (mB .Mult (mC (.int 5)) (mI (mL 0) (mC (.int 1)))) (mI (mL 0) (mC (.int 1)))) (mB .Mult (mC (.int 3)) (mI (mL 0) (mC (.int 1))))) (mC (.int 1))) (mC (.int 97))) (mL 1))) sN)
   (sQ (sA (mU (eC (mB .Mod (mI (mI (mL 0) (mC (.int 0))) (mC (.int 0))) (mL 1)) (eC (mB .FloorDiv (mI (mI (mL 0) (mC (.int 0))) (mC (.int 0))) (mL 1)) eN))) (aT 2 fun ms=>(aC (aL 3) (aC (aL 2) aN)) ms.reverse))
   (sQ (sA (mB .Add (mB .Mult (mLst (eC (mL 3) eN)) (mA (eC (mCmp .Gt (mL 3) (mC (.int 0))) eN) cInt)) (mSlc (mI (mL 0) (mC (.int 0))) (pYes (mC (.int 1))) pNo)) (aIdx (mL 0) (mC (.int 0))))
   (sR (mL 2))))))
noncomputable def g__law_figure:Addr->ALT:=fun L=>(aC (aL 0) (aC (aL 1) aN))
noncomputable def cL:CT:=fun ms O Q E=>ms.length=2/\ent g__law_figure 0 [] f__law_figure ms O Q E
noncomputable def f__law_steps:Addr->ST:=fun L =>
   (sQ (sA (mU (eC (mComp (itRange1 (mB .Add (mC (.int 1)) (mA (eC (mE (L + 1 + 0)) (eC (mC (.int 3)) eN)) cL))) 0 (fun C=>(aL 0)) (fun C=>bTrue) (fun C=>(mB .Add (mC (.int 97)) (mA (eC (mE (L + 1 + 0)) (eC (mC (.int 3)) eN)) cL)))) (eC (mLst eN) eN))) (aT 2 fun ms=>(aC (aL 2) (aC (aL 1) aN)) ms.reverse))
   (sQ (sA (mA (eC (mL 1) eN) cN) (aL 3))
   (sQ (sFor (itRange1 (mB .Add (mC (.int 1)) (mA (eC (mE (L + 1 + 0)) (eC (mL 0) eN)) cL))) (aL 4) (sIf (bC .Eq (mA (eC (mE (L + 1 + 0)) (eC (mC (.int 2)) eN)) cL) (mC (.int 0))) (sQ (sX (mM isL (mL 2) (eC (mU (eC (mC (.int 0)) (eC (mB .Add (mC (.int 97)) (mA (eC (mE (L + 1 + 0)) (eC (mC (.int 3)) eN)) cL)) eN))) eN) cA))
   (sX (mM isL (mL 1) (eC (mI (mI (mL 2) (mNeg (mC (.int 1)))) (mC (.int 1))) eN) cA))) (sQ (sX (mM isL (mL 2) (eC (mU (eC (mB .Add (mC (.int 2)) (mA (eC (mE (L + 1 + 0)) (eC (mC (.int 4)) eN)) cL)) (eC (mB .Add (mC (.int 1)) (mA (eC (mE (L + 1 + 0)) (eC (mA (eC (mL 1) eN) cN) eN)) cL)) eN))) eN) cA))
   (sFor (itRange1 (mI (mI (mL 2) (mNeg (mC (.int 1)))) (mC (.int 0)))) (aL 5) (sX (mM isL (mL 1) (eC (mI (mL 1) (mNeg (mI (mI (mL 2) (mNeg (mC (.int 1)))) (mC (.int 1))))) eN) cA))))))
   (sR (mU (eC (mA (eC (mSlc (mL 1) pNo (pYes (mL 3))) eN) cBytes) (eC (mL 2) (eC (mA (eC (mSlc (mL 1) (pYes (mL 3)) pNo) eN) cBytes) eN))))))))
noncomputable def g__law_steps:Addr->ALT:=fun L=>(aC (aCel (L + 1 + 0)) (aC (aL 0) aN))
noncomputable def c__law_steps:CT:=fun ms O Q E=>ms.length=2/\ent g__law_steps 1 [] f__law_steps ms O Q E
noncomputable def f__law_tally:Addr->ST:=fun L =>
   (sQ (sA (mB .Mult (mLst (eC (mC (.int 0)) eN)) (mC (.int 256))) (aL 0))
   (sQ (sFor (iT (mE (L + 1 + 0))) (aT 2 (aC (aL 1) (aC (aL 2) aN))) (sA (mIte (bC .Eq (mL 1) (mC (.int 0))) (mB .Add (mI (mL 0) (mL 2)) (mC (.int 1))) (mI (mL 0) (mL 2))) (aIdx (mL 0) (mL 2))))
   (sQ (sA (mComp (itRange1 (mC (.int 2))) 1 (fun C=>(aCel (C + 1 + 0))) (fun C=>bTrue) (fun C=>(mComp (iT (mE (L + 1 + 0))) 0 (fun D=>(aL 0)) (fun D=>(bC .Gt (mI (mL 0) (mC (.int 0))) (mC (.int 0)))) (fun D=>(mI (mL 0) (mE (C + 1 + 0))))))) (aLst 2 (aC (aL 3) (aC (aL 4) aN))))
   (sR (mB .Add (mLst (eC (mL 0) eN)) (mComp (itTupR (eC (mL 3) (eC (mL 4) eN))) 1 (fun C=>(aCel (C + 1 + 0))) (fun C=>bTrue) (fun C=>(mA (eC (mComp (iT (mE (C + 1 + 0))) 0 (fun D=>(aL 0)) (fun D=>bTrue) (fun D=>(mU (eC (mL 0) (eC (mM isL (mE (C + 1 + 0)) (eC (mL 0) eN) cCount) eN))))) eN) cDict))))))))
noncomputable def g__law_tally:Addr->ALT:=fun L=>(aC (aCel (L + 1 + 0)) aN)
noncomputable def c__law_tally:CT:=fun ms O Q E=>ms.length=1/\ent g__law_tally 1 [] f__law_tally ms O Q E
noncomputable def f__law_shown:Addr->ST:=fun L =>
   (sR (mLst (eC (mA (eC (mT 260 10 (mL 0)) eN) cList) (eC (mA (eC (mT 260 11 (mL 0)) eN) cDict) (eC (mA (eC (mT 260 12 (mL 0)) eN) cDict) eN)))))
noncomputable def g__law_shown:Addr->ALT:=fun L=>(aC (aL 0) aN)
noncomputable def c__law_shown:CT:=fun ms O Q E=>ms.length=1/\ent g__law_shown 0 [] f__law_shown ms O Q E
noncomputable def f__law_fit:Addr->ST:=fun L =>
   (sQ (sA (mA (eC (mSlc (mL 1) pNo (pYes (mL 2))) eN) cList) (aL 3))
   (sQ (sFor (iT (mL 0)) (aT 2 (aC (aL 4) (aC (aL 5) aN))) (sQ (sIf (bAnd (bC .Gt (mL 4) (mC (.int 0))) (bC .Gt (mL 5) (mA (eC (mL 3) eN) cN))) (sR (mC (.bool false))) sN)
   (sFor (itRange1 (mA (eC (mC (.int 1)) (eC (mL 4) eN)) cMax)) (aL 6) (sX (mM isL (mL 3) (eC (mIte (bC .Eq (mL 4) (mC (.int 0))) (mL 5) (mI (mL 3) (mNeg (mL 5)))) eN) cA)))))
   (sR (mCmp .Eq (mA (eC (mL 3) eN) cBytes) (mL 1)))))
noncomputable def g__law_fit:Addr->ALT:=fun L=>(aC (aL 0) (aC (aL 1) (aC (aL 2) aN)))
noncomputable def c__law_fit:CT:=fun ms O Q E=>ms.length=3/\ent g__law_fit 0 [] f__law_fit ms O Q E
noncomputable def f__law_right:Addr->ST:=fun L =>
   (sQ (sA (mU (eC (mB .Add (mL 0) (mL 2)) (eC (mL 0) eN))) (aT 2 fun ms=>(aC (aL 5) (aC (aL 4) aN)) ms.reverse))
   (sQ (sIf (bC .NotEq (mA (eC (mL 1) (eC (mL 0) eN)) c_unparse) (mL 2)) (sR (mC (.bool false))) sN)
   (sQ (sA (mA (eC (mL 1) (eC (mL 3) (eC (mL 0) eN))) c_cut_steps3) (aL 6))
   (sQ (sFor (itZip (mL 6) (mL 3)) (aT 2 (aC (aL 7) (aC (aL 8) aN))) (sQ (sA (mA (eC (mL 7) (eC (mL 5) eN)) c_unparse) (aL 9))
   (sQ (sIf (bC .NotEq (mA (eC (mL 9) eN) cN) (mL 8)) (sR (mC (.bool false))) sN)
   (sA (mB .Add (mL 5) (mL 9)) (aL 5)))))
   (sQ (sIf (bOr (bC .NotEq (mL 5) (mL 4)) (bC .NotEq (mA (eC (mL 6) eN) cN) (mA (eC (mL 3) eN) cN))) (sR (mC (.bool false))) sN)
   (sQ (sFor (itRange1 (mB .Add (mA (eC (mL 4) eN) cN) (mC (.int 1)))) (aL 10) (sIf (bC .NotEq (mA (eC (mL 1) (eC (mL 4) (eC (mL 10) eN))) c_fits) (mA (eC (mL 1) (eC (mL 4) (eC (mL 10) eN))) c__law_fit)) (sR (mC (.bool false))) sN))
   (sQ (sA (mA (eC (mL 1) eN) c_runs_of) (aT 2 (aC (aL 11) (aC (aL 12) aN))))
   (sR (mAnd (mDCmp .Eq (mA (eC (mL 11) (eC (mL 12) eN)) c_steps_of_runs2) (mL 1)) (mShown (mA (eC (mA (eC (mL 1) eN) c_counts_of) eN) c__law_shown) (mA (eC (mL 1) eN) c__law_tally)))))))))))
noncomputable def g__law_right:Addr->ALT:=fun L=>(aC (aL 0) (aC (aL 1) (aC (aL 2) (aC (aL 3) aN))))
noncomputable def c__law_right:CT:=fun ms O Q E=>ms.length=4/\ent g__law_right 0 [] f__law_right ms O Q E
noncomputable def f__law_refused (G:GC):Addr->ST:=fun L =>
   (sQ (sTry (mCallClo G 10 (mL 0)) 64 52 "argument" "distance")
   (sR (mC (.str "nothing"))))
noncomputable def g__law_refused:Addr->ALT:=fun L=>(aC (aL 0) aN)
noncomputable def c__law_refused (G:GC):CT:=fun ms O Q E=>ms.length=1/\ent g__law_refused 0 [] (f__law_refused G) ms O Q E
noncomputable def run_0 (L:Addr):RT:=(mA (eC (mE (L + 1 + 7)) (eC (mE (L + 1 + 0)) eN)) c_unparse) (fun _=>none)
noncomputable def run_1 (L:Addr):RT:=(mA (eC (mE (L + 1 + 7)) eN) c_counts_of) (fun _=>none)
noncomputable def run_2 (L:Addr):RT:=(mA (eC (mE (L + 1 + 7)) eN) c_runs_of) (fun _=>none)
noncomputable def run_3 (L:Addr):RT:=(mMet 260 (mE (L + 1 + 3)) (eC (mE (L + 1 + 7)) eN) cC) (fun _=>none)
noncomputable def run_4 (L:Addr):RT:=(mA (eC (mLst (eC (mU (eC (mC (.bytes [97])) (eC (mC (.int 3)) (eC (mE (L + 1 + 6)) eN)))) eN)) eN) c_steps_of_runs1) (fun _=>none)
noncomputable def run_5 (L:Addr):RT:=(mA (eC (mE (L + 1 + 1)) (eC (mE (L + 1 + 2)) (eC (mE (L + 1 + 0)) (eC (mE (L + 1 + 4)) eN)))) c_cut_steps4) (fun _=>none)
noncomputable def run_6 (L:Addr):RT:=(mA (eC (mE (L + 1 + 1)) (eC (mE (L + 1 + 11)) (eC (mB .Sub (mE (L + 1 + 6)) (mC (.int 1))) eN))) c_fits) (fun _=>none)
noncomputable def run_7 (L:Addr):RT:=(mMet 260 (mE (L + 1 + 3)) (eC (mE (L + 1 + 10)) eN) cC) (fun _=>none)
noncomputable def run_8 (L:Addr):RT:=(mA (eC (mE (L + 1 + 10)) eN) c_counts_of) (fun _=>none)
noncomputable def run_9 (L:Addr):RT:=(mA (eC (mE (L + 1 + 3)) (eC (mE (L + 1 + 8)) eN)) (mkC 341 c_LearntPrice_init)) (fun _=>none)
noncomputable def run_10 (L:Addr):RT:=(mA (eC (mE (L + 1 + 11)) (eC (mA (eC (mE (L + 1 + 0)) eN) cN) (eC (mLst (eC (mE (L + 1 + 5)) eN)) (eC (mC (.int 9)) (eC (mE (L + 1 + 9)) (eC (mE (L + 1 + 8)) eN)))))) c_learn) (fun _=>none)
noncomputable def f__law_odd_right (G:GC):Addr->ST:=fun L =>
   (sQ (sA (mU (eC (mB .Add (mE (L + 1 + 0)) (mL 1)) (eC (mNeg (mA (eC (mL 0) (eC (mC (.int 3)) eN)) cL)) (eC (mB .Sub (mC (.int 1)) (mA (eC (mL 0) (eC (mC (.int 3)) eN)) cL)) eN)))) (aT 3 (aC (aCel (L + 1 + 11)) (aC (aCel (L + 1 + 6)) (aC (aCel (L + 1 + 4)) aN)))))
   (sQ (sA (mB .Add (mE (L + 1 + 1)) (mLst (eC (mU (eC (mB .Add (mC (.int 2)) (mA (eC (mL 0) (eC (mC (.int 3)) eN)) cL)) (eC (mE (L + 1 + 6)) eN))) eN))) (aCel (L + 1 + 7)))
   (sQ (sA (mB .Add (mE (L + 1 + 1)) (mLst (eC (mI (mLst (eC (mU (eC (mC (.int 0)) (eC (mC (.int 256)) eN))) (eC (mU (eC (mC (.int 0)) (eC (mNeg (mC (.int 1))) eN))) (eC (mU (eC (mC (.int 1)) (eC (mC (.int 1)) eN))) (eC (mU (eC (mNeg (mC (.int 2))) (eC (mC (.int 1)) eN))) (eC (mU (eC (mC (.int 0)) (eC (mC (.int 300)) eN))) eN)))))) (mA (eC (mL 0) (eC (mC (.int 5)) eN)) cL)) eN))) (aCel (L + 1 + 10)))
   (sQ (sA (mI (mLst (eC (mC (.int 0)) (eC (mB .Sub (mNeg (mC (.int 1))) (mA (eC (mL 0) (eC (mC (.int 9)) eN)) cL)) (eC (mB .Add (mC (.int 1025)) (mA (eC (mL 0) (eC (mC (.int 9)) eN)) cL)) eN)))) (mA (eC (mL 0) (eC (mC (.int 3)) eN)) cL)) (aCel (L + 1 + 8)))
   (sQ (sA (mU (eC (mA eN (mkC 260 c_Counts_init)) (eC (mA (eC (mE (L + 1 + 11)) (eC (mC (.int 2)) (eC (mC (.int 40)) (eC (mC (.int 40)) eN)))) (mkC 549 c_Finder_init)) (eC (mA (eC (mC (.int 3)) (eC (mC (.int 5)) eN)) (mkC 232 c_FlatPrice_init)) eN)))) (aT 3 (aC (aCel (L + 1 + 3)) (aC (aCel (L + 1 + 5)) (aC (aCel (L + 1 + 9)) aN)))))
   (sQ (sX (mMet 260 (mE (L + 1 + 3)) (eC (mE (L + 1 + 1)) eN) cC))
   (sQ (sFor (iT (mLst (eC (mR G 10 598 "_law_odd_right.<locals>.<lambda>" (run_0 L)) (eC (mR G 10 598 "_law_odd_right.<locals>.<lambda>" (run_1 L)) (eC (mR G 10 598 "_law_odd_right.<locals>.<lambda>" (run_2 L)) (eC (mR G 10 598 "_law_odd_right.<locals>.<lambda>" (run_3 L)) (eC (mR G 10 598 "_law_odd_right.<locals>.<lambda>" (run_4 L)) eN))))))) (aL 2) (sIf (bC .NotEq (mA (eC (mL 2) eN) (c__law_refused G)) (mC (.str "distance"))) (sR (mC (.bool false))) sN))
   (sQ (sFor (iT (mLst (eC (mR G 10 598 "_law_odd_right.<locals>.<lambda>" (run_5 L)) (eC (mR G 10 598 "_law_odd_right.<locals>.<lambda>" (run_6 L)) (eC (mR G 10 598 "_law_odd_right.<locals>.<lambda>" (run_7 L)) (eC (mR G 10 598 "_law_odd_right.<locals>.<lambda>" (run_8 L)) (eC (mR G 10 598 "_law_odd_right.<locals>.<lambda>" (run_9 L)) (eC (mR G 10 598 "_law_odd_right.<locals>.<lambda>" (run_10 L)) eN)))))))) (aL 2) (sIf (bC .NotEq (mA (eC (mL 2) eN) (c__law_refused G)) (mC (.str "argument"))) (sR (mC (.bool false))) sN))
   (sQ (sA (mA (eC (mE (L + 1 + 11)) (eC (mA (eC (mE (L + 1 + 0)) eN) cN) (eC (mA (eC (mE (L + 1 + 11)) (eC (mC (.int 2)) (eC (mC (.int 40)) (eC (mC (.int 40)) eN)))) (mkC 549 c_Finder_init)) (eC (mC (.int 9)) (eC (mE (L + 1 + 9)) eN))))) c_least) (aL 3))
   (sR (mAnd (mShown (mA (eC (mE (L + 1 + 3)) eN) c__law_shown) (mA (eC (mE (L + 1 + 1)) eN) c__law_tally)) (mDCmp .Eq (mA (eC (mE (L + 1 + 11)) (eC (mA (eC (mE (L + 1 + 0)) eN) cN) (eC (mLst (eC (mE (L + 1 + 5)) eN)) (eC (mC (.int 9)) (eC (mE (L + 1 + 9)) (eC (mC (.int 1024)) eN)))))) c_learn) (mL 3)))))))))))))
noncomputable def g__law_odd_right:Addr->ALT:=fun L=>(aC (aL 0) (aC (aCel (L + 1 + 0)) (aC (aCel (L + 1 + 1)) (aC (aL 1) (aC (aCel (L + 1 + 2)) aN)))))
noncomputable def c__law_odd_right (G:GC):CT:=fun ms O Q E=>ms.length=5/\ent g__law_odd_right 12 [] (f__law_odd_right G) ms O Q E
noncomputable def f_law (G:GC):Addr->ST:=fun L =>
   (sQ (sA (mLst (eC (mComp (iT (mSlc (mL 0) pNo (pYes (mC (.int 20))))) 0 (fun C=>(aL 0)) (fun C=>bTrue) (fun C=>(mB .Mod (mA (eC (mL 0) eN) cAbs) (mB .Pow (mC (.int 10)) (mC (.int 30)))))) (eC (mC (.int 0)) eN))) (aL 1))
   (sQ (sA (mA (eC (mL 1) (eC (mIte (bC .Gt (mA (eC (mL 0) eN) cN) (mC (.int 1))) (mC (.int 7)) (mC (.int 3))) eN)) c__law_steps) (aT 3 (aC (aL 2) (aC (aL 3) (aC (aL 4) aN)))))
   (sQ (sA (mA (eC (mL 1) (eC (mB .Add (mA (eC (mL 4) eN) cN) (mC (.int 1))) eN)) cL) (aL 5))
   (sQ (sA (mLst (eC (mL 5) (eC (mC (.int 0)) (eC (mB .Sub (mA (eC (mL 4) eN) cN) (mL 5)) eN)))) (aL 6))
   (sQ (sIf (bOr (bNot (bVal (mA (eC (mL 2) (eC (mL 3) (eC (mL 4) (eC (mL 6) eN)))) c__law_right))) (bNot (bVal (mA (eC (mL 1) (eC (mL 2) (eC (mL 3) (eC (mL 4) (eC (mL 6) eN))))) (c__law_odd_right G))))) (sR (mC (.bool false))) sN)
   (sR (mA (eC (mL 2) (eC (mL 3) (eC (mL 4) (eC (mL 6) eN)))) c__law_right)))))))
noncomputable def g_law:Addr->ALT:=fun L=>(aC (aL 0) aN)
noncomputable def c_law (G:GC):CT:=fun ms O Q E=>ms.length=1/\ent g_law 0 [] (f_law G) ms O Q E
end Law
namespace Law
open Mn
noncomputable abbrev KK (P:Params):Frag:=Hd.KK P
structure WkL (G:GC) (P:Params) (mg mb:Str->Option Value):Prop extends Wk G (KK P) mg mb where
 x52:XcOK G (KK P) 52
 x64:XcOK G (KK P) 64
 x52_64:ExcAt G.hB 52 fun bm=>(Value.ref 52 :: bm).contains (.ref 64)=false
 c602:CodeHd G.hB 602 598
variable {G:GC} {F:FC} {P:Params} {mg mb:Str->Option Value}
theorem lS {α:Type} {n:Nat} {vs:List α} (h:vs.length=n + 1):∃ a r,vs=a :: r/\r.length=n:=by
 cases vs with
 | nil=>cases h
 | cons a r=>exact⟨a,r,rfl,Nat.succ.inj h⟩
theorem l1 {α:Type} {vs:List α} (h:vs.length=1):∃ a,vs=[a]:=let ⟨a,_,e,h⟩:=lS h;⟨a,by rw [e,List.eq_nil_of_length_eq_zero h]⟩
theorem l2 {α:Type} {vs:List α} (h:vs.length=2):∃ a b,vs=[a,b]:=let ⟨a,_,u,h⟩:=lS h;let ⟨b,w⟩:=l1 h;⟨a,b,by rw [u,w]⟩
theorem l3 {α:Type} {vs:List α} (h:vs.length=3):∃ a b c,vs=[a,b,c]:=let ⟨a,_,u,h⟩:=lS h;let ⟨b,c,w⟩:=l2 h;⟨a,b,c,by rw [u,w]⟩
theorem l4 {α:Type} {vs:List α} (h:vs.length=4):∃ a b c d,vs=[a,b,c,d]:=let ⟨a,_,u,h⟩:=lS h;let ⟨b,c,d,w⟩:=l3 h;⟨a,b,c,d,by rw [u,w]⟩
theorem l5 {α:Type} {vs:List α} (h:vs.length=5):∃ a b c d e,vs=[a,b,c,d,e]:=let ⟨a,_,u,h⟩:=lS h;let ⟨b,c,d,e,w⟩:=l4 h;⟨a,b,c,d,e,by rw [u,w]⟩
theorem l6 {α:Type} {vs:List α} (h:vs.length=6):∃ a b c d e f,vs=[a,b,c,d,e,f]:=let ⟨a,_,u,h⟩:=lS h;let ⟨b,c,d,e,f,w⟩:=l5 h;⟨a,b,c,d,e,f,by rw [u,w]⟩
theorem nA:nsIn (KK P) mainGlobals "BadArgument"=some (some (.ref 64)):=by kernel_rfl
theorem n_BadDistance:nsIn (KK P) mainGlobals "BadDistance"=some (some (.ref 52)):=by kernel_rfl
theorem n_Counts:nsIn (KK P) mainGlobals "Counts"=some (some (.ref 260)):=by kernel_rfl
theorem n_Finder:nsIn (KK P) mainGlobals "Finder"=some (some (.ref 549)):=by kernel_rfl
theorem n_FlatPrice:nsIn (KK P) mainGlobals "FlatPrice"=some (some (.ref 232)):=by kernel_rfl
theorem n_LEAST_MATCH:nsIn (KK P) mainGlobals "LEAST_MATCH"=some (some (.int 2 258)):=by kernel_rfl
theorem n_LearntPrice:nsIn (KK P) mainGlobals "LearntPrice"=some (some (.ref 341)):=by kernel_rfl
theorem n_MOST_UNIT:nsIn (KK P) mainGlobals "MOST_UNIT"=some (some (.int 1024 262)):=by kernel_rfl
theorem n_Matcher:nsIn (KK P) mainGlobals "Matcher"=some (some (.ref 506)):=by kernel_rfl
theorem n_NOWHERE:nsIn (KK P) mainGlobals "NOWHERE"=some (some (.int (-1) 714)):=by kernel_rfl
theorem n_PlaceRow:nsIn (KK P) mainGlobals "PlaceRow"=some (some (.ref 415)):=by kernel_rfl
theorem n_Trail:nsIn (KK P) mainGlobals "Trail"=some (some (.ref 146)):=by kernel_rfl
theorem n_Ways:nsIn (KK P) mainGlobals "Ways"=some (some (.ref 181)):=by kernel_rfl
theorem nL:nsIn (KK P) mainGlobals "_law_figure"=some (some (.ref 558)):=by kernel_rfl
theorem n__law_fit:nsIn (KK P) mainGlobals "_law_fit"=some (some (.ref 582)):=by kernel_rfl
theorem n__law_odd_right:nsIn (KK P) mainGlobals "_law_odd_right"=some (some (.ref 603)):=by kernel_rfl
theorem n__law_refused:nsIn (KK P) mainGlobals "_law_refused"=some (some (.ref 596)):=by kernel_rfl
theorem n__law_right:nsIn (KK P) mainGlobals "_law_right"=some (some (.ref 589)):=by kernel_rfl
theorem n__law_shown:nsIn (KK P) mainGlobals "_law_shown"=some (some (.ref 575)):=by kernel_rfl
theorem n__law_steps:nsIn (KK P) mainGlobals "_law_steps"=some (some (.ref 563)):=by kernel_rfl
theorem n__law_tally:nsIn (KK P) mainGlobals "_law_tally"=some (some (.ref 568)):=by kernel_rfl
theorem n_check_range:nsIn (KK P) mainGlobals "check_range"=some (some (.ref 80)):=by kernel_rfl
theorem n_check_steps:nsIn (KK P) mainGlobals "check_steps"=some (some (.ref 73)):=by kernel_rfl
theorem n_counts_of:nsIn (KK P) mainGlobals "counts_of"=some (some (.ref 271)):=by kernel_rfl
theorem n_cut_steps:nsIn (KK P) mainGlobals "cut_steps"=some (some (.ref 364)):=by kernel_rfl
theorem n_fits:nsIn (KK P) mainGlobals "fits"=some (some (.ref 110)):=by kernel_rfl
theorem n_is_match_right:nsIn (KK P) mainGlobals "is_match_right"=some (some (.ref 102)):=by kernel_rfl
theorem n_learn:nsIn (KK P) mainGlobals "learn"=some (some (.ref 353)):=by kernel_rfl
theorem n_least:nsIn (KK P) mainGlobals "least"=some (some (.ref 193)):=by kernel_rfl
theorem n_need_unit:nsIn (KK P) mainGlobals "need_unit"=some (some (.ref 278)):=by kernel_rfl
theorem n_put_part:nsIn (KK P) mainGlobals "put_part"=some (some (.ref 358)):=by kernel_rfl
theorem n_runs_of:nsIn (KK P) mainGlobals "runs_of"=some (some (.ref 371)):=by kernel_rfl
theorem n_step_size:nsIn (KK P) mainGlobals "step_size"=some (some (.ref 87)):=by kernel_rfl
theorem n_steps_of_runs:nsIn (KK P) mainGlobals "steps_of_runs"=some (some (.ref 377)):=by kernel_rfl
theorem n_unparse:nsIn (KK P) mainGlobals "unparse"=some (some (.ref 95)):=by kernel_rfl
theorem k_52:keepIn (KK P) (.ref 52)=true:=by kernel_rfl
theorem k_64:keepIn (KK P) (.ref 64)=true:=by kernel_rfl
theorem k_73:keepIn (KK P) (.ref 73)=true:=by kernel_rfl
theorem k_80:keepIn (KK P) (.ref 80)=true:=by kernel_rfl
theorem k_87:keepIn (KK P) (.ref 87)=true:=by kernel_rfl
theorem k_95:keepIn (KK P) (.ref 95)=true:=by kernel_rfl
theorem k_102:keepIn (KK P) (.ref 102)=true:=by kernel_rfl
theorem k_110:keepIn (KK P) (.ref 110)=true:=by kernel_rfl
theorem k_131:keepIn (KK P) (.ref 131)=true:=by kernel_rfl
theorem k_143:keepIn (KK P) (.ref 143)=true:=by kernel_rfl
theorem k_146:keepIn (KK P) (.ref 146)=true:=by kernel_rfl
theorem k_171:keepIn (KK P) (.ref 171)=true:=by kernel_rfl
theorem k_178:keepIn (KK P) (.ref 178)=true:=by kernel_rfl
theorem k_181:keepIn (KK P) (.ref 181)=true:=by kernel_rfl
theorem k_193:keepIn (KK P) (.ref 193)=true:=by kernel_rfl
theorem k_222:keepIn (KK P) (.ref 222)=true:=by kernel_rfl
theorem k_229:keepIn (KK P) (.ref 229)=true:=by kernel_rfl
theorem k_232:keepIn (KK P) (.ref 232)=true:=by kernel_rfl
theorem k_257:keepIn (KK P) (.ref 257)=true:=by kernel_rfl
theorem k_260:keepIn (KK P) (.ref 260)=true:=by kernel_rfl
theorem k_271:keepIn (KK P) (.ref 271)=true:=by kernel_rfl
theorem k_278:keepIn (KK P) (.ref 278)=true:=by kernel_rfl
theorem k_341:keepIn (KK P) (.ref 341)=true:=by kernel_rfl
theorem k_353:keepIn (KK P) (.ref 353)=true:=by kernel_rfl
theorem k_358:keepIn (KK P) (.ref 358)=true:=by kernel_rfl
theorem k_364:keepIn (KK P) (.ref 364)=true:=by kernel_rfl
theorem k_371:keepIn (KK P) (.ref 371)=true:=by kernel_rfl
theorem k_377:keepIn (KK P) (.ref 377)=true:=by kernel_rfl
theorem k_398:keepIn (KK P) (.ref 398)=true:=by kernel_rfl
theorem k_405:keepIn (KK P) (.ref 405)=true:=by kernel_rfl
theorem k_412:keepIn (KK P) (.ref 412)=true:=by kernel_rfl
theorem k_415:keepIn (KK P) (.ref 415)=true:=by kernel_rfl
theorem k_433:keepIn (KK P) (.ref 433)=true:=by kernel_rfl
theorem k_440:keepIn (KK P) (.ref 440)=true:=by kernel_rfl
theorem k_461:keepIn (KK P) (.ref 461)=true:=by kernel_rfl
theorem k_475:keepIn (KK P) (.ref 475)=true:=by kernel_rfl
theorem k_482:keepIn (KK P) (.ref 482)=true:=by kernel_rfl
theorem k_532:keepIn (KK P) (.ref 532)=true:=by kernel_rfl
theorem k_539:keepIn (KK P) (.ref 539)=true:=by kernel_rfl
theorem k_546:keepIn (KK P) (.ref 546)=true:=by kernel_rfl
theorem k_549:keepIn (KK P) (.ref 549)=true:=by kernel_rfl
theorem k_558:keepIn (KK P) (.ref 558)=true:=by kernel_rfl
theorem k_563:keepIn (KK P) (.ref 563)=true:=by kernel_rfl
theorem k_568:keepIn (KK P) (.ref 568)=true:=by kernel_rfl
theorem k_575:keepIn (KK P) (.ref 575)=true:=by kernel_rfl
theorem k_582:keepIn (KK P) (.ref 582)=true:=by kernel_rfl
theorem k_589:keepIn (KK P) (.ref 589)=true:=by kernel_rfl
theorem k_596:keepIn (KK P) (.ref 596)=true:=by kernel_rfl
theorem k_603:keepIn (KK P) (.ref 603)=true:=by kernel_rfl
theorem nb_abs:nsIn (KK P) mainGlobals "abs"=some none:=by kernel_rfl
theorem bb_abs:bootBuiltins "abs"=some (.builtin "abs"):=by decide +kernel
theorem nb_bytearray:nsIn (KK P) mainGlobals "bytearray"=some none:=by kernel_rfl
theorem bb_bytearray:bootBuiltins "bytearray"=some (.type "bytearray"):=by decide +kernel
theorem nb_bytes:nsIn (KK P) mainGlobals "bytes"=some none:=by kernel_rfl
theorem bb_bytes:bootBuiltins "bytes"=some (.type "bytes"):=by decide +kernel
theorem nb_dict:nsIn (KK P) mainGlobals "dict"=some none:=by kernel_rfl
theorem bb_dict:bootBuiltins "dict"=some (.type "dict"):=by decide +kernel
theorem nb_int:nsIn (KK P) mainGlobals "int"=some none:=by kernel_rfl
theorem bb_int:bootBuiltins "int"=some (.type "int"):=by decide +kernel
theorem ng:nsIn (KK P) mainGlobals "len"=some none:=by kernel_rfl
theorem bB:bootBuiltins "len"=some (.builtin "len"):=by decide +kernel
theorem nb_list:nsIn (KK P) mainGlobals "list"=some none:=by kernel_rfl
theorem bb_list:bootBuiltins "list"=some (.type "list"):=by decide +kernel
theorem nb_max:nsIn (KK P) mainGlobals "max"=some none:=by kernel_rfl
theorem bb_max:bootBuiltins "max"=some (.builtin "max"):=by decide +kernel
theorem nb_min:nsIn (KK P) mainGlobals "min"=some none:=by kernel_rfl
theorem bb_min:bootBuiltins "min"=some (.builtin "min"):=by decide +kernel
theorem nb_range:nsIn (KK P) mainGlobals "range"=some none:=by kernel_rfl
theorem bb_range:bootBuiltins "range"=some (.type "range"):=by decide +kernel
theorem nb_sum:nsIn (KK P) mainGlobals "sum"=some none:=by kernel_rfl
theorem bb_sum:bootBuiltins "sum"=some (.builtin "sum"):=by decide +kernel
theorem nb_zip:nsIn (KK P) mainGlobals "zip"=some none:=by kernel_rfl
theorem bb_zip:bootBuiltins "zip"=some (.type "zip"):=by decide +kernel
theorem s_check_steps (W:WkL G P mg mb):SM G 2 F (.ref 73) c_check_steps:=by
 refine' dE (n:=1) ["steps","first","second"] ["steps"] [] W.toWd ?c ?o ?d ?b ?n ?k ?e ?g ?x ?y ?z ?u ?v
 case c | o | d | b | n | k | e | g=>rfl
 case x=>kernel_rfl
 case y =>
   intro vs s X hl
   obtain ⟨a,rfl⟩:=l1 hl;exact BindsTo.of_eq rfl
 case z=>exact fun _ _=>.nil
 case u=>exact fun L fl=>(nC (nM rfl rfl rfl) nN)
 case v=>exact fun L fl =>
     (bS (bFor (sf (sL rfl rfl rfl)) (aU (aO (aS (sT rfl rfl rfl)) (aO (aS (sT rfl rfl rfl)) ai))) (bS (bIf (tBool (tAnd_cons (tC (sL rfl rfl rfl) sI) (tAnd_nil (tNot (tCmp2 sI (sL rfl rfl rfl) sI))))) (bO (bRaise W.x64 (kE W.inn k_64) (gR W.toWd nA rfl rfl rfl))) bN)
     (bO (bIf (tBool (tAnd_cons (tC (sL rfl rfl rfl) sI) (tAnd_nil (tC (sL rfl rfl rfl) (gInt W.toWd n_LEAST_MATCH rfl rfl rfl))))) (bO (bRaise W.x64 (kE W.inn k_64) (gR W.toWd nA rfl rfl rfl))) bN))))
     (bO (bFor (sf (sL rfl rfl rfl)) (aU (aO (aS (sT rfl rfl rfl)) (aO (aS (sT rfl rfl rfl)) ai))) (bO (bIf (tBool (tAnd_cons (tC (sL rfl rfl rfl) sI) (tAnd_nil (tC (sL rfl rfl rfl) sI)))) (bO (bRaise W.x52 (kE W.inn k_52) (gR W.toWd n_BadDistance rfl rfl rfl))) bN)))))
theorem s_check_range (W:WkL G P mg mb):SM G 2 F (.ref 80) c_check_range:=by
 refine' dE (n:=1) ["octets","start","most"] ["octets","start","most"] [] W.toWd ?c ?o ?d ?b ?n ?k ?e ?g ?x ?y ?z ?u ?v
 case c | o | d | b | n | k | e | g=>rfl
 case x=>kernel_rfl
 case y =>
   intro vs s X hl
   obtain ⟨a,b,c,rfl⟩:=l3 hl;exact BindsTo.of_eq rfl
 case z=>exact fun _ _=>.nil
 case u=>exact fun L fl=>(nC (nM rfl rfl rfl) (nC (nM rfl rfl rfl) (nC (nM rfl rfl rfl) nN)))
 case v=>exact fun L fl =>
     (bS (bIf (tNot (tCmp2 sI (sL rfl rfl rfl) (sC (gB W.toWd ng bB dC rfl rfl rfl rfl) kP (lC (sL rfl rfl rfl) lN) lI))) (bO (bRaise W.x64 (kE W.inn k_64) (gR W.toWd nA rfl rfl rfl))) bN)
     (bO (bIf (tC (sL rfl rfl rfl) sI) (bO (bRaise W.x64 (kE W.inn k_64) (gR W.toWd nA rfl rfl rfl))) bN)))
theorem s_step_size (W:WkL G P mg mb):SM G 1 F (.ref 87) c_step_size:=by
 refine' dE (n:=0) ["step"] ["step"] [] W.toWd ?c ?o ?d ?b ?n ?k ?e ?g ?x ?y ?z ?u ?v
 case c | o | d | b | n | k | e | g=>rfl
 case x=>kernel_rfl
 case y =>
   intro vs s X hl
   obtain ⟨a,rfl⟩:=l1 hl;exact BindsTo.of_eq rfl
 case z=>exact fun _ _=>.nil
 case u=>exact fun L fl=>(nC (nM rfl rfl rfl) nN)
 case v=>exact fun L fl =>
     (bO (bR (sIte (tC (sD (sL rfl rfl rfl) sI) sI) sI (sD (sL rfl rfl rfl) sI))))
theorem s_unparse (W:WkL G P mg mb):SM G 3 F (.ref 95) c_unparse:=by
 refine' dE (n:=2) ["steps","history","made","first","second","turn"] ["steps","history"] [] W.toWd ?c ?o ?d ?b ?n ?k ?e ?g ?x ?y ?z ?u ?v
 case c | o | d | b | n | k | e | g=>rfl
 case x=>kernel_rfl
 case y =>
   intro vs s X hl
   obtain ⟨a,b,rfl⟩:=l2 hl;exact binds_K X rfl rfl rfl rfl rfl
 case z=>exact fun _ _=>.nil
 case u=>exact fun L fl=>(nC (nM rfl rfl rfl) (nC (nM rfl rfl rfl) nN))
 case v=>exact fun L fl =>
     (bS (bE (sC (gR W.toWd n_check_steps rfl rfl rfl) (kE W.inn k_73) (lC (sL rfl rfl rfl) lN) ((s_check_steps W).c.up dC)) rfl)
     (bS (bA (sC (gB W.toWd nb_bytearray bb_bytearray dC rfl rfl rfl rfl) kO (lC (sL rfl rfl rfl) lN) barr_sim) (aS (sT rfl rfl rfl)) rfl rfl)
     (bS (bFor (sf (sL rfl rfl rfl)) (aU (aO (aS (sT rfl rfl rfl)) (aO (aS (sT rfl rfl rfl)) ai))) (bS (bIf (tC (sL rfl rfl rfl) sI) (bS (bE (sBMet isB_T BA.plainAttrs BA.slot_append BA.type_append (sL rfl rfl rfl) (lC (sL rfl rfl rfl) lN) bapp_sim) rfl)
     (bO bCont)) bN)
     (bS (bIf (tNot (tCmp2 sI (sL rfl rfl rfl) (sC (gB W.toWd ng bB dC rfl rfl rfl rfl) kP (lC (sL rfl rfl rfl) lN) lI))) (bO (bRaise W.x52 (kE W.inn k_52) (gR W.toWd n_BadDistance rfl rfl rfl))) bN)
     (bO (bFor (siRange1 (gB W.toWd nb_range bb_range dC rfl rfl rfl rfl) (sL rfl rfl rfl)) (aS (sT rfl rfl rfl)) (bO (bE (sBMet isB_T BA.plainAttrs BA.slot_append BA.type_append (sL rfl rfl rfl) (lC (sBIdx (sL rfl rfl rfl) (sB (sC (gB W.toWd ng bB dC rfl rfl rfl rfl) kP (lC (sL rfl rfl rfl) lN) lI) (sL rfl rfl rfl))) lN) bapp_sim) rfl)))))))
     (bO (bR (sC (gB W.toWd nb_bytes bb_bytes dC rfl rfl rfl rfl) kO (lC (sBSlc (sL rfl rfl rfl) (sC (gB W.toWd ng bB dC rfl rfl rfl rfl) kP (lC (sL rfl rfl rfl) lN) lI)) lN) bytes_sim))))))
theorem s_is_match_right (W:WkL G P mg mb):SM G 1 F (.ref 102) c_is_match_right:=by
 refine' dE (n:=0) ["octets","place","length","distance","at"] ["octets","place","length","distance"] [] W.toWd ?c ?o ?d ?b ?n ?k ?e ?g ?x ?y ?z ?u ?v
 case c | o | d | b | n | k | e | g=>rfl
 case x=>kernel_rfl
 case y =>
   intro vs s X hl
   obtain ⟨a,b,c,d,rfl⟩:=l4 hl;exact BindsTo.of_eq rfl
 case z=>exact fun _ _=>.nil
 case u=>exact fun L fl=>(nC (nM rfl rfl rfl) (nC (nM rfl rfl rfl) (nC (nM rfl rfl rfl) (nC (nM rfl rfl rfl) nN))))
 case v=>exact fun L fl =>
     (bS (bIf (tBool (tOr_cons (tC (sB (sL rfl rfl rfl) (sL rfl rfl rfl)) (sC (gB W.toWd ng bB dC rfl rfl rfl rfl) kP (lC (sL rfl rfl rfl) lN) lI)) (tOr_nil (tNot (tCmp2 sI (sL rfl rfl rfl) (sL rfl rfl rfl)))))) (bO (bR sBool)) bN)
     (bS (bFor (siRange2 (gB W.toWd nb_range bb_range dC rfl rfl rfl rfl) (sL rfl rfl rfl) (sB (sL rfl rfl rfl) (sL rfl rfl rfl))) (aS (sT rfl rfl rfl)) (bO (bIf (tC (sD (sL rfl rfl rfl) (sL rfl rfl rfl)) (sD (sL rfl rfl rfl) (sB (sL rfl rfl rfl) (sL rfl rfl rfl)))) (bO (bR sBool)) bN)))
     (bO (bR sBool))))
theorem s_fits (W:WkL G P mg mb):SM G 2 F (.ref 110) c_fits:=by
 refine' dE (n:=1) ["steps","octets","start","shortest","most","window","place","first","second"] ["steps","octets","start","shortest","most","window"] [.int 2 258,.none,.none] W.toWd ?c ?o ?d ?b ?n ?k ?e ?g ?x ?y ?z ?u ?v
 case c | o | d | b | n | k | e | g=>rfl
 case x=>kernel_rfl
 case y =>
   intro vs s X hl
   obtain ⟨a,b,c,rfl⟩:=l3 hl;exact binds_K X rfl rfl rfl rfl rfl
 case z=>exact fun _ _=>.cons (.int _ _) (.cons (.none) (.cons (.none) (.nil)))
 case u=>exact fun L fl=>(nC (nM rfl rfl rfl) (nC (nM rfl rfl rfl) (nC (nM rfl rfl rfl) (nC (nM rfl rfl rfl) (nC (nM rfl rfl rfl) (nC (nM rfl rfl rfl) nN))))))
 case v=>exact fun L fl =>
     (bS (bIf (tC (sL rfl rfl rfl) sI) (bO (bRaise W.x64 (kE W.inn k_64) (gR W.toWd nA rfl rfl rfl))) bN)
     (bS (bA (sL rfl rfl rfl) (aS (sT rfl rfl rfl)) rfl rfl)
     (bS (bFor (sf (sL rfl rfl rfl)) (aU (aO (aS (sT rfl rfl rfl)) (aO (aS (sT rfl rfl rfl)) ai))) (bS (bIf (tC (sL rfl rfl rfl) sI) (bS (bIf (tBool (tOr_cons (tC (sL rfl rfl rfl) (sC (gB W.toWd ng bB dC rfl rfl rfl rfl) kP (lC (sL rfl rfl rfl) lN) lI)) (tOr_nil (tC (sD (sL rfl rfl rfl) (sL rfl rfl rfl)) (sL rfl rfl rfl))))) (bO (bR sBool)) bN)
     (bS (bA (sB (sL rfl rfl rfl) sI) (aS (sT rfl rfl rfl)) rfl rfl)
     (bO bCont))) bN)
     (bS (bIf (tBool (tOr_cons (tC (sL rfl rfl rfl) (sL rfl rfl rfl)) (tOr_cons (tBool (tAnd_cons (tC (sL rfl rfl rfl) sNone) (tAnd_nil (tC (sL rfl rfl rfl) (sL rfl rfl rfl))))) (tOr_nil (tBool (tAnd_cons (tC (sL rfl rfl rfl) sNone) (tAnd_nil (tC (sL rfl rfl rfl) (sL rfl rfl rfl))))))))) (bO (bR sBool)) bN)
     (bS (bIf (tNot (tVal (sC (gR W.toWd n_is_match_right rfl rfl rfl) (kE W.inn k_102) (lC (sL rfl rfl rfl) (lC (sL rfl rfl rfl) (lC (sL rfl rfl rfl) (lC (sL rfl rfl rfl) lN)))) ((s_is_match_right W).c.up dC)))) (bO (bR sBool)) bN)
     (bO (bA (sB (sL rfl rfl rfl) (sL rfl rfl rfl)) (aS (sT rfl rfl rfl)) rfl rfl))))))
     (bO (bR (sCmp (sL rfl rfl rfl) (sC (gB W.toWd ng bB dC rfl rfl rfl rfl) kP (lC (sL rfl rfl rfl) lN) lI)))))))
theorem s_Trail_init (W:WkL G P mg mb):SM G 1 F (.ref 124) c_Trail_init:=by
 refine' dE (n:=0) ["self","finder"] ["self","finder"] [] W.toWd ?c ?o ?d ?b ?n ?k ?e ?g ?x ?y ?z ?u ?v
 case c | o | d | b | n | k | e | g=>rfl
 case x=>kernel_rfl
 case y =>
   intro vs s X hl
   obtain ⟨a,b,rfl⟩:=l2 hl;exact BindsTo.of_eq rfl
 case z=>exact fun _ _=>.nil
 case u=>exact fun L fl=>(nC (nM rfl rfl rfl) (nC (nM rfl rfl rfl) nN))
 case v=>exact fun L fl =>
     (bS (bA (sL rfl rfl rfl) (stAtt W.inn (sL rfl rfl rfl) (by kernel_rfl) (by kernel_rfl)) rfl rfl)
     (bS (bA (sC (gB W.toWd nb_max bb_max dC rfl rfl rfl rfl) kP (lC (sd W.inn (sL rfl rfl rfl) (by kernel_rfl) (by kernel_rfl)) (lC (gInt W.toWd n_LEAST_MATCH rfl rfl rfl) lN)) max_sim) (stAtt W.inn (sL rfl rfl rfl) (by kernel_rfl) (by kernel_rfl)) rfl rfl)
     (bO (bA sI (stAtt W.inn (sL rfl rfl rfl) (by kernel_rfl) (by kernel_rfl)) rfl rfl))))
theorem s_PlaceRow_key (W:WkL G P mg mb):SM G 2 F (.ref 398) c_PlaceRow_key:=by
 refine' dE (n:=1) ["self","place","number","octet"] ["self","place"] [] W.toWd ?c ?o ?d ?b ?n ?k ?e ?g ?x ?y ?z ?u ?v
 case c | o | d | b | n | k | e | g=>rfl
 case x=>kernel_rfl
 case y =>
   intro vs s X hl
   obtain ⟨a,b,rfl⟩:=l2 hl;exact BindsTo.of_eq rfl
 case z=>exact fun _ _=>.nil
 case u=>exact fun L fl=>(nC (nM rfl rfl rfl) (nC (nM rfl rfl rfl) nN))
 case v=>exact fun L fl =>
     (bS (bIf (tNot (tCmp2 sI (sL rfl rfl rfl) (sC (gB W.toWd ng bB dC rfl rfl rfl rfl) kP (lC (sd W.inn (sL rfl rfl rfl) (by kernel_rfl) (by kernel_rfl)) lN) lI))) (bO (bRaise W.x64 (kE W.inn k_64) (gR W.toWd nA rfl rfl rfl))) bN)
     (bS (bIf (tC (sB (sL rfl rfl rfl) (sd W.inn (sL rfl rfl rfl) (by kernel_rfl) (by kernel_rfl))) (sC (gB W.toWd ng bB dC rfl rfl rfl rfl) kP (lC (sd W.inn (sL rfl rfl rfl) (by kernel_rfl) (by kernel_rfl)) lN) lI)) (bO (bR sNone)) bN)
     (bS (bA sI (aS (sT rfl rfl rfl)) rfl rfl)
     (bS (bFor (siBytes (sSlc (sd W.inn (sL rfl rfl rfl) (by kernel_rfl) (by kernel_rfl)) (pYes_ (sL rfl rfl rfl)) (pYes_ (sB (sL rfl rfl rfl) (sd W.inn (sL rfl rfl rfl) (by kernel_rfl) (by kernel_rfl)))))) (aS (sT rfl rfl rfl)) (bO (bA (sB (sB (sL rfl rfl rfl) sI) (sL rfl rfl rfl)) (aS (sT rfl rfl rfl)) rfl rfl)))
     (bO (bR (sL rfl rfl rfl)))))))
theorem s_PlaceRow_put (W:WkL G P mg mb):SM G 3 F (.ref 405) c_PlaceRow_put:=by
 refine' dE (n:=2) ["self","place","number"] ["self","place"] [] W.toWd ?c ?o ?d ?b ?n ?k ?e ?g ?x ?y ?z ?u ?v
 case c | o | d | b | n | k | e | g=>rfl
 case x=>kernel_rfl
 case y =>
   intro vs s X hl
   obtain ⟨a,b,rfl⟩:=l2 hl;exact BindsTo.of_eq rfl
 case z=>exact fun _ _=>.nil
 case u=>exact fun L fl=>(nC (nM rfl rfl rfl) (nC (nM rfl rfl rfl) nN))
 case v=>exact fun L fl =>
     (bS (bA (sMet W.inn (sL rfl rfl rfl) (by kernel_rfl) (by kernel_rfl) k_398 (lC (sL rfl rfl rfl) lN) ((s_PlaceRow_key W).c.up dC)) (aS (sT rfl rfl rfl)) rfl rfl)
     (bO (bIf (tC (sL rfl rfl rfl) sNone) (bS (bA (sBMet isD_T PySem.F.plainAttrs_dict PySem.F.slot_dict_get PySem.F.type_dict_get (sd W.inn (sL rfl rfl rfl) (by kernel_rfl) (by kernel_rfl)) (lC (sL rfl rfl rfl) (lC (gInt W.toWd n_NOWHERE rfl rfl rfl) lN)) (get_sim W.sys)) (stIdx (sd W.inn (sL rfl rfl rfl) (by kernel_rfl) (by kernel_rfl)) (sL rfl rfl rfl)) rfl rfl)
     (bO (bA (sL rfl rfl rfl) (stIdx (sd W.inn (sL rfl rfl rfl) (by kernel_rfl) (by kernel_rfl)) (sL rfl rfl rfl)) rfl rfl))) bN)))
theorem s_Finder_enter (W:WkL G P mg mb):SM G 4 F (.ref 532) c_Finder_enter:=by
 refine' dE (n:=3) ["self","place"] ["self","place"] [] W.toWd ?c ?o ?d ?b ?n ?k ?e ?g ?x ?y ?z ?u ?v
 case c | o | d | b | n | k | e | g=>rfl
 case x=>kernel_rfl
 case y =>
   intro vs s X hl
   obtain ⟨a,b,rfl⟩:=l2 hl;exact BindsTo.of_eq rfl
 case z=>exact fun _ _=>.nil
 case u=>exact fun L fl=>(nC (nM rfl rfl rfl) (nC (nM rfl rfl rfl) nN))
 case v=>exact fun L fl =>
     (bO (bE (sMet W.inn (sd W.inn (sL rfl rfl rfl) (by kernel_rfl) (by kernel_rfl)) (by kernel_rfl) (by kernel_rfl) k_405 (lC (sL rfl rfl rfl) lN) ((s_PlaceRow_put W).c.up dC)) rfl))
theorem s_Matcher_put (W:WkL G P mg mb):SM G 5 F (.ref 440) c_Matcher_put:=by
 refine' dE (n:=4) ["self","place"] ["self","place"] [] W.toWd ?c ?o ?d ?b ?n ?k ?e ?g ?x ?y ?z ?u ?v
 case c | o | d | b | n | k | e | g=>rfl
 case x=>kernel_rfl
 case y =>
   intro vs s X hl
   obtain ⟨a,b,rfl⟩:=l2 hl;exact BindsTo.of_eq rfl
 case z=>exact fun _ _=>.nil
 case u=>exact fun L fl=>(nC (nM rfl rfl rfl) (nC (nM rfl rfl rfl) nN))
 case v=>exact fun L fl =>
     (bS (bIf (tBool (tOr_cons (tC (sL rfl rfl rfl) (sd W.inn (sL rfl rfl rfl) (by kernel_rfl) (by kernel_rfl))) (tOr_nil (tC (sL rfl rfl rfl) (sC (gB W.toWd ng bB dC rfl rfl rfl rfl) kP (lC (sd W.inn (sL rfl rfl rfl) (by kernel_rfl) (by kernel_rfl)) lN) lI))))) (bO (bRaise W.x64 (kE W.inn k_64) (gR W.toWd nA rfl rfl rfl))) bN)
     (bS (bA (sB (sL rfl rfl rfl) sI) (stAtt W.inn (sL rfl rfl rfl) (by kernel_rfl) (by kernel_rfl)) rfl rfl)
     (bO (bE (sMet W.inn (sL rfl rfl rfl) (by kernel_rfl) (by kernel_rfl) k_532 (lC (sL rfl rfl rfl) lN) ((s_Finder_enter W).c.up dC)) rfl))))
theorem s_Trail_up_to (W:WkL G P mg mb):SM G 6 F (.ref 131) c_Trail_up_to:=by
 refine' dE (n:=5) ["self","place"] ["self","place"] [] W.toWd ?c ?o ?d ?b ?n ?k ?e ?g ?x ?y ?z ?u ?v
 case c | o | d | b | n | k | e | g=>rfl
 case x=>kernel_rfl
 case y =>
   intro vs s X hl
   obtain ⟨a,b,rfl⟩:=l2 hl;exact BindsTo.of_eq rfl
 case z=>exact fun _ _=>.nil
 case u=>exact fun L fl=>(nC (nM rfl rfl rfl) (nC (nM rfl rfl rfl) nN))
 case v=>exact fun L fl =>
     (bO (bWh (tC (sd W.inn (sL rfl rfl rfl) (by kernel_rfl) (by kernel_rfl)) (sL rfl rfl rfl)) (bS (bE (sMet W.inn (sd W.inn (sL rfl rfl rfl) (by kernel_rfl) (by kernel_rfl)) (by kernel_rfl) (by kernel_rfl) k_440 (lC (sd W.inn (sL rfl rfl rfl) (by kernel_rfl) (by kernel_rfl)) lN) ((s_Matcher_put W).c.up dC)) rfl)
     (bO (bA (sB (sd W.inn (sL rfl rfl rfl) (by kernel_rfl) (by kernel_rfl)) sI) (stAtt W.inn (sL rfl rfl rfl) (by kernel_rfl) (by kernel_rfl)) rfl rfl)))))
theorem s_Matcher_is_near (W:WkL G P mg mb):SM G 1 F (.ref 482) c_Matcher_is_near:=by
 refine' dE (n:=0) ["self","place","other"] ["self","place","other"] [] W.toWd ?c ?o ?d ?b ?n ?k ?e ?g ?x ?y ?z ?u ?v
 case c | o | d | b | n | k | e | g=>rfl
 case x=>kernel_rfl
 case y =>
   intro vs s X hl
   obtain ⟨a,b,c,rfl⟩:=l3 hl;exact BindsTo.of_eq rfl
 case z=>exact fun _ _=>.nil
 case u=>exact fun L fl=>(nC (nM rfl rfl rfl) (nC (nM rfl rfl rfl) (nC (nM rfl rfl rfl) nN)))
 case v=>exact fun L fl =>
     (bO (bR (sAnd (sCmp (sL rfl rfl rfl) (gInt W.toWd n_NOWHERE rfl rfl rfl)) (sCmp (sB (sL rfl rfl rfl) (sL rfl rfl rfl)) (sd W.inn (sL rfl rfl rfl) (by kernel_rfl) (by kernel_rfl))))))
theorem s_PlaceRow_newest (W:WkL G P mg mb):SM G 3 F (.ref 412) c_PlaceRow_newest:=by
 refine' dE (n:=2) ["self","place","number","other"] ["self","place"] [] W.toWd ?c ?o ?d ?b ?n ?k ?e ?g ?x ?y ?z ?u ?v
 case c | o | d | b | n | k | e | g=>rfl
 case x=>kernel_rfl
 case y =>
   intro vs s X hl
   obtain ⟨a,b,rfl⟩:=l2 hl;exact BindsTo.of_eq rfl
 case z=>exact fun _ _=>.nil
 case u=>exact fun L fl=>(nC (nM rfl rfl rfl) (nC (nM rfl rfl rfl) nN))
 case v=>exact fun L fl =>
     (bS (bA (sMet W.inn (sL rfl rfl rfl) (by kernel_rfl) (by kernel_rfl) k_398 (lC (sL rfl rfl rfl) lN) ((s_PlaceRow_key W).c.up dC)) (aS (sT rfl rfl rfl)) rfl rfl)
     (bS (bIf (tC (sL rfl rfl rfl) sNone) (bO (bR (gInt W.toWd n_NOWHERE rfl rfl rfl))) bN)
     (bS (bA (sBMet isD_T PySem.F.plainAttrs_dict PySem.F.slot_dict_get PySem.F.type_dict_get (sd W.inn (sL rfl rfl rfl) (by kernel_rfl) (by kernel_rfl)) (lC (sL rfl rfl rfl) (lC (gInt W.toWd n_NOWHERE rfl rfl rfl) lN)) (get_sim W.sys)) (aS (sT rfl rfl rfl)) rfl rfl)
     (bS (bWh (tC (sL rfl rfl rfl) (sL rfl rfl rfl)) (bO (bA (sD (sd W.inn (sL rfl rfl rfl) (by kernel_rfl) (by kernel_rfl)) (sL rfl rfl rfl)) (aS (sT rfl rfl rfl)) rfl rfl)))
     (bO (bR (sL rfl rfl rfl)))))))
theorem s_Finder_candidates (W:WkL G P mg mb):SM G 4 F (.ref 539) c_Finder_candidates:=by
 refine' dE (n:=3) ["self","place","found","other"] ["self","place"] [] W.toWd ?c ?o ?d ?b ?n ?k ?e ?g ?x ?y ?z ?u ?v
 case c | o | d | b | n | k | e | g=>rfl
 case x=>kernel_rfl
 case y =>
   intro vs s X hl
   obtain ⟨a,b,rfl⟩:=l2 hl;exact BindsTo.of_eq rfl
 case z=>exact fun _ _=>.nil
 case u=>exact fun L fl=>(nC (nM rfl rfl rfl) (nC (nM rfl rfl rfl) nN))
 case v=>exact fun L fl =>
     (bS (bA (sLst lN) (aS (sT rfl rfl rfl)) rfl rfl)
     (bS (bA (sMet W.inn (sd W.inn (sL rfl rfl rfl) (by kernel_rfl) (by kernel_rfl)) (by kernel_rfl) (by kernel_rfl) k_412 (lC (sL rfl rfl rfl) lN) ((s_PlaceRow_newest W).c.up dC)) (aS (sT rfl rfl rfl)) rfl rfl)
     (bS (bWh (tBool (tAnd_cons (tVal (sMet W.inn (sL rfl rfl rfl) (by kernel_rfl) (by kernel_rfl) k_482 (lC (sL rfl rfl rfl) (lC (sL rfl rfl rfl) lN)) ((s_Matcher_is_near W).c.up dC))) (tAnd_nil (tC (sC (gB W.toWd ng bB dC rfl rfl rfl rfl) kP (lC (sL rfl rfl rfl) lN) lI) (sd W.inn (sL rfl rfl rfl) (by kernel_rfl) (by kernel_rfl)))))) (bS (bE (sBMet isL_T PySem.F.plainAttrs_list PySem.F.slot_list_append PySem.F.type_list_append (sL rfl rfl rfl) (lC (sL rfl rfl rfl) lN) aP) rfl)
     (bO (bA (sD (sd W.inn (sd W.inn (sL rfl rfl rfl) (by kernel_rfl) (by kernel_rfl)) (by kernel_rfl) (by kernel_rfl)) (sL rfl rfl rfl)) (aS (sT rfl rfl rfl)) rfl rfl))))
     (bO (bR (sL rfl rfl rfl))))))
theorem s_Matcher_alike (W:WkL G P mg mb):SM G 1 F (.ref 475) c_Matcher_alike:=by
 refine' dE (n:=0) ["self","place","other","known","limit","octets"] ["self","place","other","known","limit"] [] W.toWd ?c ?o ?d ?b ?n ?k ?e ?g ?x ?y ?z ?u ?v
 case c | o | d | b | n | k | e | g=>rfl
 case x=>kernel_rfl
 case y =>
   intro vs s X hl
   obtain ⟨a,b,c,d,e,rfl⟩:=l5 hl;exact BindsTo.of_eq rfl
 case z=>exact fun _ _=>.nil
 case u=>exact fun L fl=>(nC (nM rfl rfl rfl) (nC (nM rfl rfl rfl) (nC (nM rfl rfl rfl) (nC (nM rfl rfl rfl) (nC (nM rfl rfl rfl) nN)))))
 case v=>exact fun L fl =>
     (bS (bA (sd W.inn (sL rfl rfl rfl) (by kernel_rfl) (by kernel_rfl)) (aS (sT rfl rfl rfl)) rfl rfl)
     (bS (bWh (tBool (tAnd_cons (tC (sL rfl rfl rfl) (sL rfl rfl rfl)) (tAnd_nil (tC (sD (sL rfl rfl rfl) (sB (sL rfl rfl rfl) (sL rfl rfl rfl))) (sD (sL rfl rfl rfl) (sB (sL rfl rfl rfl) (sL rfl rfl rfl))))))) (bO (bAug rfl rfl rfl sI)))
     (bO (bR (sL rfl rfl rfl)))))
theorem s_Matcher_limit (W:WkL G P mg mb):SM G 1 F (.ref 461) c_Matcher_limit:=by
 refine' dE (n:=0) ["self","place","most"] ["self","place","most"] [] W.toWd ?c ?o ?d ?b ?n ?k ?e ?g ?x ?y ?z ?u ?v
 case c | o | d | b | n | k | e | g=>rfl
 case x=>kernel_rfl
 case y =>
   intro vs s X hl
   obtain ⟨a,b,c,rfl⟩:=l3 hl;exact BindsTo.of_eq rfl
 case z=>exact fun _ _=>.nil
 case u=>exact fun L fl=>(nC (nM rfl rfl rfl) (nC (nM rfl rfl rfl) (nC (nM rfl rfl rfl) nN)))
 case v=>exact fun L fl =>
     (bO (bR (sC (gB W.toWd nb_min bb_min dC rfl rfl rfl rfl) kP (lC (sL rfl rfl rfl) (lC (sB (sC (gB W.toWd ng bB dC rfl rfl rfl rfl) kP (lC (sd W.inn (sL rfl rfl rfl) (by kernel_rfl) (by kernel_rfl)) lN) lI) (sL rfl rfl rfl)) lN)) min_sim)))
theorem s_Finder_every (W:WkL G P mg mb):SM G 5 F (.ref 546) c_Finder_every:=by
 refine' dE (n:=4) ["self","place","most","found","limit","longest","other","count"] ["self","place","most"] [] W.toWd ?c ?o ?d ?b ?n ?k ?e ?g ?x ?y ?z ?u ?v
 case c | o | d | b | n | k | e | g=>rfl
 case x=>kernel_rfl
 case y =>
   intro vs s X hl
   obtain ⟨a,b,c,rfl⟩:=l3 hl;exact BindsTo.of_eq rfl
 case z=>exact fun _ _=>.nil
 case u=>exact fun L fl=>(nC (nM rfl rfl rfl) (nC (nM rfl rfl rfl) (nC (nM rfl rfl rfl) nN)))
 case v=>exact fun L fl =>
     (bS (bAsgSw (names:=["found","limit"]) (sTup (lC (sLst lN) (lC (sMet W.inn (sL rfl rfl rfl) (by kernel_rfl) (by kernel_rfl) k_461 (lC (sL rfl rfl rfl) (lC (sL rfl rfl rfl) lN)) ((s_Matcher_limit W).c.up dC)) lN))) (aO (sT rfl rfl rfl) (aO (sT rfl rfl rfl) ai)) rfl rfl)
     (bS (bA (sB (sd W.inn (sL rfl rfl rfl) (by kernel_rfl) (by kernel_rfl)) sI) (aS (sT rfl rfl rfl)) rfl rfl)
     (bS (bFor (sf (sMet W.inn (sL rfl rfl rfl) (by kernel_rfl) (by kernel_rfl) k_539 (lC (sL rfl rfl rfl) lN) ((s_Finder_candidates W).c.up dC))) (aS (sT rfl rfl rfl)) (bS (bIf (tC (sL rfl rfl rfl) (sL rfl rfl rfl)) (bO bBreak) bN)
     (bO (bIf (tC (sD (sd W.inn (sL rfl rfl rfl) (by kernel_rfl) (by kernel_rfl)) (sB (sL rfl rfl rfl) (sL rfl rfl rfl))) (sD (sd W.inn (sL rfl rfl rfl) (by kernel_rfl) (by kernel_rfl)) (sB (sL rfl rfl rfl) (sL rfl rfl rfl)))) (bS (bA (sMet W.inn (sL rfl rfl rfl) (by kernel_rfl) (by kernel_rfl) k_475 (lC (sL rfl rfl rfl) (lC (sL rfl rfl rfl) (lC sI (lC (sL rfl rfl rfl) lN)))) ((s_Matcher_alike W).c.up dC)) (aS (sT rfl rfl rfl)) rfl rfl)
     (bO (bIf (tC (sL rfl rfl rfl) (sL rfl rfl rfl)) (bS (bE (sBMet isL_T PySem.F.plainAttrs_list PySem.F.slot_list_append PySem.F.type_list_append (sL rfl rfl rfl) (lC (sTup (lC (sL rfl rfl rfl) (lC (sB (sL rfl rfl rfl) (sL rfl rfl rfl)) lN))) lN) aP) rfl)
     (bO (bA (sL rfl rfl rfl) (aS (sT rfl rfl rfl)) rfl rfl))) bN))) bN))))
     (bO (bR (sL rfl rfl rfl))))))
theorem s_Trail_every (W:WkL G P mg mb):SM G 7 F (.ref 143) c_Trail_every:=by
 refine' dE (n:=6) ["place","most"] ["self","place","most"] [] W.toWd ?c ?o ?d ?b ?n ?k ?e ?g ?x ?y ?z ?u ?v
 case c | o | d | b | n | k | e | g=>rfl
 case x=>kernel_rfl
 case y =>
   intro vs s X hl
   obtain ⟨a,b,c,rfl⟩:=l3 hl;exact BindsTo.of_eq rfl
 case z=>exact fun _ _=>.nil
 case u=>exact fun L fl=>(nC (nmCel rfl rfl rfl) (nC (nM rfl rfl rfl) (nC (nM rfl rfl rfl) nN)))
 case v=>exact fun L fl =>
     (bS (bE (sMet W.inn (se rfl (.inl rfl) rfl) (by kernel_rfl) (by kernel_rfl) k_131 (lC (sL rfl rfl rfl) lN) ((s_Trail_up_to W).c.up dC)) rfl)
     (bO (bR (sComp (vars:=["match"]) (sf (sMet W.inn (sd W.inn (se rfl (.inl rfl) rfl) (by kernel_rfl) (by kernel_rfl)) (by kernel_rfl) (by kernel_rfl) k_546 (lC (sL rfl rfl rfl) (lC (sL rfl rfl rfl) lN)) ((s_Finder_every W).c.up dC))) rfl rfl (by decide +kernel) (fun C=>(aS (sT rfl rfl rfl))) (fun C=>(tsOne (tC (sD (sL rfl rfl rfl) sI) (sd W.inn (se rfl (.inl rfl) rfl) (by kernel_rfl) (by kernel_rfl))))) (fun C=>(sL rfl rfl rfl))))))
theorem s_Ways_init (W:WkL G P mg mb):SM G 1 F (.ref 164) c_Ways_init:=by
 refine' dE (n:=0) ["self","size"] ["self","size"] [] W.toWd ?c ?o ?d ?b ?n ?k ?e ?g ?x ?y ?z ?u ?v
 case c | o | d | b | n | k | e | g=>rfl
 case x=>kernel_rfl
 case y =>
   intro vs s X hl
   obtain ⟨a,b,rfl⟩:=l2 hl;exact BindsTo.of_eq rfl
 case z=>exact fun _ _=>.nil
 case u=>exact fun L fl=>(nC (nM rfl rfl rfl) (nC (nM rfl rfl rfl) nN))
 case v=>exact fun L fl =>
     (bS (bA (sL rfl rfl rfl) (stAtt W.inn (sL rfl rfl rfl) (by kernel_rfl) (by kernel_rfl)) rfl rfl)
     (bS (bA (sB (sLst (lC sI lN)) (sB (sLst (lC sNone lN)) (sL rfl rfl rfl))) (stAtt W.inn (sL rfl rfl rfl) (by kernel_rfl) (by kernel_rfl)) rfl rfl)
     (bO (bA (sB (sLst (lC sNone lN)) (sB (sL rfl rfl rfl) sI)) (stAtt W.inn (sL rfl rfl rfl) (by kernel_rfl) (by kernel_rfl)) rfl rfl))))
theorem s_Ways_offer (W:WkL G P mg mb):SM G 2 F (.ref 171) c_Ways_offer:=by
 refine' dE (n:=1) ["self","at","step","cost","there","whole"] ["self","at","step","cost"] [] W.toWd ?c ?o ?d ?b ?n ?k ?e ?g ?x ?y ?z ?u ?v
 case c | o | d | b | n | k | e | g=>rfl
 case x=>kernel_rfl
 case y =>
   intro vs s X hl
   obtain ⟨a,b,c,d,rfl⟩:=l4 hl;exact BindsTo.of_eq rfl
 case z=>exact fun _ _=>.nil
 case u=>exact fun L fl=>(nC (nM rfl rfl rfl) (nC (nM rfl rfl rfl) (nC (nM rfl rfl rfl) (nC (nM rfl rfl rfl) nN))))
 case v=>exact fun L fl =>
     (bS (bA (sB (sL rfl rfl rfl) (sC (gR W.toWd n_step_size rfl rfl rfl) (kE W.inn k_87) (lC (sL rfl rfl rfl) lN) ((s_step_size W).c.up dC))) (aS (sT rfl rfl rfl)) rfl rfl)
     (bS (bIf (tC (sL rfl rfl rfl) (sd W.inn (sL rfl rfl rfl) (by kernel_rfl) (by kernel_rfl))) (bO bRet0) bN)
     (bS (bA (sB (sD (sd W.inn (sL rfl rfl rfl) (by kernel_rfl) (by kernel_rfl)) (sL rfl rfl rfl)) (sL rfl rfl rfl)) (aS (sT rfl rfl rfl)) rfl rfl)
     (bO (bIf (tBool (tOr_cons (tC (sD (sd W.inn (sL rfl rfl rfl) (by kernel_rfl) (by kernel_rfl)) (sL rfl rfl rfl)) sNone) (tOr_nil (tC (sL rfl rfl rfl) (sD (sd W.inn (sL rfl rfl rfl) (by kernel_rfl) (by kernel_rfl)) (sL rfl rfl rfl)))))) (bS (bA (sL rfl rfl rfl) (stIdx (sd W.inn (sL rfl rfl rfl) (by kernel_rfl) (by kernel_rfl)) (sL rfl rfl rfl)) rfl rfl)
     (bO (bA (sL rfl rfl rfl) (stIdx (sd W.inn (sL rfl rfl rfl) (by kernel_rfl) (by kernel_rfl)) (sL rfl rfl rfl)) rfl rfl))) bN)))))
theorem s_Ways_told (W:WkL G P mg mb):SM G 2 F (.ref 178) c_Ways_told:=by
 refine' dE (n:=1) ["self","found","at"] ["self"] [] W.toWd ?c ?o ?d ?b ?n ?k ?e ?g ?x ?y ?z ?u ?v
 case c | o | d | b | n | k | e | g=>rfl
 case x=>kernel_rfl
 case y =>
   intro vs s X hl
   obtain ⟨a,rfl⟩:=l1 hl;exact BindsTo.of_eq rfl
 case z=>exact fun _ _=>.nil
 case u=>exact fun L fl=>(nC (nM rfl rfl rfl) nN)
 case v=>exact fun L fl =>
     (bS (bAsgSw (names:=["found","at"]) (sTup (lC (sLst lN) (lC (sd W.inn (sL rfl rfl rfl) (by kernel_rfl) (by kernel_rfl)) lN))) (aO (sT rfl rfl rfl) (aO (sT rfl rfl rfl) ai)) rfl rfl)
     (bS (bWh (tC (sL rfl rfl rfl) sI) (bS (bE (sBMet isL_T PySem.F.plainAttrs_list PySem.F.slot_list_append PySem.F.type_list_append (sL rfl rfl rfl) (lC (sD (sd W.inn (sL rfl rfl rfl) (by kernel_rfl) (by kernel_rfl)) (sL rfl rfl rfl)) lN) aP) rfl)
     (bO (bA (sB (sL rfl rfl rfl) (sC (gR W.toWd n_step_size rfl rfl rfl) (kE W.inn k_87) (lC (sD (sd W.inn (sL rfl rfl rfl) (by kernel_rfl) (by kernel_rfl)) (sL rfl rfl rfl)) lN) ((s_step_size W).c.up dC))) (aS (sT rfl rfl rfl)) rfl rfl))))
     (bO (bR (sRev (sL rfl rfl rfl))))))
theorem s_FlatPrice_init (W:WkL G P mg mb):SM G 2 F (.ref 215) c_FlatPrice_init:=by
 refine' dE (n:=1) ["self","literal","match","bit"] ["self","literal","match","bit"] [.int 0 476] W.toWd ?c ?o ?d ?b ?n ?k ?e ?g ?x ?y ?z ?u ?v
 case c | o | d | b | n | k | e | g=>rfl
 case x=>kernel_rfl
 case y =>
   intro vs s X hl
   obtain ⟨a,b,c,rfl⟩:=l3 hl;exact binds_K X rfl rfl rfl rfl rfl
 case z=>exact fun _ _=>.cons (.int _ _) (.nil)
 case u=>exact fun L fl=>(nC (nM rfl rfl rfl) (nC (nM rfl rfl rfl) (nC (nM rfl rfl rfl) (nC (nM rfl rfl rfl) nN))))
 case v=>exact fun L fl =>
     (bS (bIf (tBool (tOr_cons (tC (sL rfl rfl rfl) sI) (tOr_cons (tC (sL rfl rfl rfl) sI) (tOr_nil (tC (sL rfl rfl rfl) sI))))) (bO (bRaise W.x64 (kE W.inn k_64) (gR W.toWd nA rfl rfl rfl))) bN)
     (bS (bA (sL rfl rfl rfl) (stAtt W.inn (sL rfl rfl rfl) (by kernel_rfl) (by kernel_rfl)) rfl rfl)
     (bS (bA (sL rfl rfl rfl) (stAtt W.inn (sL rfl rfl rfl) (by kernel_rfl) (by kernel_rfl)) rfl rfl)
     (bO (bA (sL rfl rfl rfl) (stAtt W.inn (sL rfl rfl rfl) (by kernel_rfl) (by kernel_rfl)) rfl rfl)))))
theorem s_FlatPrice_literal (W:WkL G P mg mb):SM G 1 F (.ref 222) c_FlatPrice_literal:=by
 refine' dE (n:=0) ["self","octet"] ["self","octet"] [] W.toWd ?c ?o ?d ?b ?n ?k ?e ?g ?x ?y ?z ?u ?v
 case c | o | d | b | n | k | e | g=>rfl
 case x=>kernel_rfl
 case y =>
   intro vs s X hl
   obtain ⟨a,b,rfl⟩:=l2 hl;exact BindsTo.of_eq rfl
 case z=>exact fun _ _=>.nil
 case u=>exact fun L fl=>(nC (nM rfl rfl rfl) (nC (nM rfl rfl rfl) nN))
 case v=>exact fun L fl =>
     (bO (bR (sd W.inn (sL rfl rfl rfl) (by kernel_rfl) (by kernel_rfl))))
theorem s_FlatPrice_match (W:WkL G P mg mb):SM G 1 F (.ref 229) c_FlatPrice_match:=by
 refine' dE (n:=0) ["self","length","distance"] ["self","length","distance"] [] W.toWd ?c ?o ?d ?b ?n ?k ?e ?g ?x ?y ?z ?u ?v
 case c | o | d | b | n | k | e | g=>rfl
 case x=>kernel_rfl
 case y =>
   intro vs s X hl
   obtain ⟨a,b,c,rfl⟩:=l3 hl;exact BindsTo.of_eq rfl
 case z=>exact fun _ _=>.nil
 case u=>exact fun L fl=>(nC (nM rfl rfl rfl) (nC (nM rfl rfl rfl) (nC (nM rfl rfl rfl) nN)))
 case v=>exact fun L fl =>
     (bS (bIf (tC (sd W.inn (sL rfl rfl rfl) (by kernel_rfl) (by kernel_rfl)) sI) (bO (bR (sd W.inn (sL rfl rfl rfl) (by kernel_rfl) (by kernel_rfl)))) bN)
     nS)
theorem s_Counts_init (W:WkL G P mg mb):SM G 1 F (.ref 250) c_Counts_init:=by
 refine' dE (n:=0) ["self"] ["self"] [] W.toWd ?c ?o ?d ?b ?n ?k ?e ?g ?x ?y ?z ?u ?v
 case c | o | d | b | n | k | e | g=>rfl
 case x=>kernel_rfl
 case y =>
   intro vs s X hl
   obtain ⟨a,rfl⟩:=l1 hl;exact BindsTo.of_eq rfl
 case z=>exact fun _ _=>.nil
 case u=>exact fun L fl=>(nC (nM rfl rfl rfl) nN)
 case v=>exact fun L fl =>
     (bS (bA (sB (sLst (lC sI lN)) sI) (stAtt W.inn (sL rfl rfl rfl) (by kernel_rfl) (by kernel_rfl)) rfl rfl)
     (bS (bA sDct (stAtt W.inn (sL rfl rfl rfl) (by kernel_rfl) (by kernel_rfl)) rfl rfl)
     (bO (bA sDct (stAtt W.inn (sL rfl rfl rfl) (by kernel_rfl) (by kernel_rfl)) rfl rfl))))
theorem s_Counts_add (W:WkL G P mg mb):SM G 3 F (.ref 257) cC:=by
 refine' dE (n:=2) ["self","steps","first","second"] ["self","steps"] [] W.toWd ?c ?o ?d ?b ?n ?k ?e ?g ?x ?y ?z ?u ?v
 case c | o | d | b | n | k | e | g=>rfl
 case x=>kernel_rfl
 case y =>
   intro vs s X hl
   obtain ⟨a,b,rfl⟩:=l2 hl;exact BindsTo.of_eq rfl
 case z=>exact fun _ _=>.nil
 case u=>exact fun L fl=>(nC (nM rfl rfl rfl) (nC (nM rfl rfl rfl) nN))
 case v=>exact fun L fl =>
     (bS (bE (sC (gR W.toWd n_check_steps rfl rfl rfl) (kE W.inn k_73) (lC (sL rfl rfl rfl) lN) ((s_check_steps W).c.up dC)) rfl)
     (bO (bFor (sf (sL rfl rfl rfl)) (aU (aO (aS (sT rfl rfl rfl)) (aO (aS (sT rfl rfl rfl)) ai))) (bO (bIf (tC (sL rfl rfl rfl) sI) (bO (bA (sB (sD (sd W.inn (sL rfl rfl rfl) (by kernel_rfl) (by kernel_rfl)) (sL rfl rfl rfl)) sI) (stIdx (sd W.inn (sL rfl rfl rfl) (by kernel_rfl) (by kernel_rfl)) (sL rfl rfl rfl)) rfl rfl)) (bS (bA (sB (sBMet isD_T PySem.F.plainAttrs_dict PySem.F.slot_dict_get PySem.F.type_dict_get (sd W.inn (sL rfl rfl rfl) (by kernel_rfl) (by kernel_rfl)) (lC (sL rfl rfl rfl) (lC sI lN)) (get_sim W.sys)) sI) (stIdx (sd W.inn (sL rfl rfl rfl) (by kernel_rfl) (by kernel_rfl)) (sL rfl rfl rfl)) rfl rfl)
     (bO (bA (sB (sBMet isD_T PySem.F.plainAttrs_dict PySem.F.slot_dict_get PySem.F.type_dict_get (sd W.inn (sL rfl rfl rfl) (by kernel_rfl) (by kernel_rfl)) (lC (sL rfl rfl rfl) (lC sI lN)) (get_sim W.sys)) sI) (stIdx (sd W.inn (sL rfl rfl rfl) (by kernel_rfl) (by kernel_rfl)) (sL rfl rfl rfl)) rfl rfl))))))))
theorem s_counts_of (W:WkL G P mg mb):SM G 4 F (.ref 271) c_counts_of:=by
 refine' dE (n:=3) ["steps","found"] ["steps"] [] W.toWd ?c ?o ?d ?b ?n ?k ?e ?g ?x ?y ?z ?u ?v
 case c | o | d | b | n | k | e | g=>rfl
 case x=>kernel_rfl
 case y =>
   intro vs s X hl
   obtain ⟨a,rfl⟩:=l1 hl;exact BindsTo.of_eq rfl
 case z=>exact fun _ _=>.nil
 case u=>exact fun L fl=>(nC (nM rfl rfl rfl) nN)
 case v=>exact fun L fl =>
     (bS (bA (sC (gR W.toWd n_Counts rfl rfl rfl) (kE W.inn k_260) lN ((make_ok W.inn (by kernel_rfl) (s_Counts_init W)).up dC)) (aS (sT rfl rfl rfl)) rfl rfl)
     (bS (bE (sMet W.inn (sL rfl rfl rfl) (by kernel_rfl) (by kernel_rfl) k_257 (lC (sL rfl rfl rfl) lN) ((s_Counts_add W).c.up dC)) rfl)
     (bO (bR (sL rfl rfl rfl)))))
theorem s_need_unit (W:WkL G P mg mb):SM G 2 F (.ref 278) c_need_unit:=by
 refine' dE (n:=1) ["unit"] ["unit"] [] W.toWd ?c ?o ?d ?b ?n ?k ?e ?g ?x ?y ?z ?u ?v
 case c | o | d | b | n | k | e | g=>rfl
 case x=>kernel_rfl
 case y =>
   intro vs s X hl
   obtain ⟨a,rfl⟩:=l1 hl;exact BindsTo.of_eq rfl
 case z=>exact fun _ _=>.nil
 case u=>exact fun L fl=>(nC (nM rfl rfl rfl) nN)
 case v=>exact fun L fl =>
     (bO (bIf (tNot (tCmp2 sI (sL rfl rfl rfl) (gInt W.toWd n_MOST_UNIT rfl rfl rfl))) (bO (bRaise W.x64 (kE W.inn k_64) (gR W.toWd nA rfl rfl rfl))) bN))
theorem s_LearntPrice_init (W:WkL G P mg mb):SM G 3 F (.ref 324) c_LearntPrice_init:=by
 refine' dE (n:=2) ["self","counts","unit","firsts","seconds","length","symbol","distance"] ["self","counts","unit"] [] W.toWd ?c ?o ?d ?b ?n ?k ?e ?g ?x ?y ?z ?u ?v
 case c | o | d | b | n | k | e | g=>rfl
 case x=>kernel_rfl
 case y =>
   intro vs s X hl
   obtain ⟨a,b,c,rfl⟩:=l3 hl;exact binds_K X rfl rfl rfl rfl rfl
 case z=>exact fun _ _=>.nil
 case u=>exact fun L fl=>(nC (nM rfl rfl rfl) (nC (nM rfl rfl rfl) (nC (nM rfl rfl rfl) nN)))
 case v=>exact fun L fl =>
     (bS (bE (sC (gR W.toWd n_need_unit rfl rfl rfl) (kE W.inn k_278) (lC (sL rfl rfl rfl) lN) ((s_need_unit W).c.up dC)) rfl)
     nS)
theorem s_PlaceRow_init (W:WkL G P mg mb):SM G 2 F (.ref 391) c_PlaceRow_init:=by
 refine' dE (n:=1) ["self","octets","size"] ["self","octets","size"] [] W.toWd ?c ?o ?d ?b ?n ?k ?e ?g ?x ?y ?z ?u ?v
 case c | o | d | b | n | k | e | g=>rfl
 case x=>kernel_rfl
 case y =>
   intro vs s X hl
   obtain ⟨a,b,c,rfl⟩:=l3 hl;exact BindsTo.of_eq rfl
 case z=>exact fun _ _=>.nil
 case u=>exact fun L fl=>(nC (nM rfl rfl rfl) (nC (nM rfl rfl rfl) (nC (nM rfl rfl rfl) nN)))
 case v=>exact fun L fl =>
     (bS (bIf (tC (sL rfl rfl rfl) sI) (bO (bRaise W.x64 (kE W.inn k_64) (gR W.toWd nA rfl rfl rfl))) bN)
     (bS (bA (sL rfl rfl rfl) (stAtt W.inn (sL rfl rfl rfl) (by kernel_rfl) (by kernel_rfl)) rfl rfl)
     (bS (bA (sL rfl rfl rfl) (stAtt W.inn (sL rfl rfl rfl) (by kernel_rfl) (by kernel_rfl)) rfl rfl)
     (bS (bA sDct (stAtt W.inn (sL rfl rfl rfl) (by kernel_rfl) (by kernel_rfl)) rfl rfl)
     (bO (bA (sB (sLst (lC (gInt W.toWd n_NOWHERE rfl rfl rfl) lN)) (sC (gB W.toWd ng bB dC rfl rfl rfl rfl) kP (lC (sL rfl rfl rfl) lN) lI)) (stAtt W.inn (sL rfl rfl rfl) (by kernel_rfl) (by kernel_rfl)) rfl rfl))))))
theorem s_Matcher_init (W:WkL G P mg mb):SM G 2 F (.ref 433) c_Matcher_init:=by
 refine' dE (n:=1) ["self","octets","least","window","chain"] ["self","octets","least","window","chain"] [] W.toWd ?c ?o ?d ?b ?n ?k ?e ?g ?x ?y ?z ?u ?v
 case c | o | d | b | n | k | e | g=>rfl
 case x=>kernel_rfl
 case y =>
   intro vs s X hl
   obtain ⟨a,b,c,d,e,rfl⟩:=l5 hl;exact BindsTo.of_eq rfl
 case z=>exact fun _ _=>.nil
 case u=>exact fun L fl=>(nC (nM rfl rfl rfl) (nC (nM rfl rfl rfl) (nC (nM rfl rfl rfl) (nC (nM rfl rfl rfl) (nC (nM rfl rfl rfl) nN)))))
 case v=>exact fun L fl =>
     (bS (bIf (tC (sL rfl rfl rfl) sI) (bO (bRaise W.x64 (kE W.inn k_64) (gR W.toWd nA rfl rfl rfl))) bN)
     (bS (bIf (tC (sL rfl rfl rfl) sI) (bO (bRaise W.x64 (kE W.inn k_64) (gR W.toWd nA rfl rfl rfl))) bN)
     (bS (bIf (tC (sL rfl rfl rfl) sI) (bO (bRaise W.x64 (kE W.inn k_64) (gR W.toWd nA rfl rfl rfl))) bN)
     (bS (bA (sC (gB W.toWd nb_bytes bb_bytes dC rfl rfl rfl rfl) kO (lC (sL rfl rfl rfl) lN) bytes_sim) (stAtt W.inn (sL rfl rfl rfl) (by kernel_rfl) (by kernel_rfl)) rfl rfl)
     (bS (bA (sL rfl rfl rfl) (stAtt W.inn (sL rfl rfl rfl) (by kernel_rfl) (by kernel_rfl)) rfl rfl)
     (bS (bA (sL rfl rfl rfl) (stAtt W.inn (sL rfl rfl rfl) (by kernel_rfl) (by kernel_rfl)) rfl rfl)
     (bS (bA (sL rfl rfl rfl) (stAtt W.inn (sL rfl rfl rfl) (by kernel_rfl) (by kernel_rfl)) rfl rfl)
     (bO (bA sI (stAtt W.inn (sL rfl rfl rfl) (by kernel_rfl) (by kernel_rfl)) rfl rfl)))))))))
theorem s_Finder_init (W:WkL G P mg mb):SM G 4 F (.ref 525) c_Finder_init:=by
 refine' dE (n:=3) ["self","octets","least","window","chain"] ["self","octets","least","window","chain"] [] W.toWd ?c ?o ?d ?b ?n ?k ?e ?g ?x ?y ?z ?u ?v
 case c | o | d | b | n | k | e | g=>rfl
 case x=>kernel_rfl
 case y =>
   intro vs s X hl
   obtain ⟨a,b,c,d,e,rfl⟩:=l5 hl;exact binds_K X rfl rfl rfl rfl rfl
 case z=>exact fun _ _=>.nil
 case u=>exact fun L fl=>(nC (nM rfl rfl rfl) (nC (nM rfl rfl rfl) (nC (nM rfl rfl rfl) (nC (nM rfl rfl rfl) (nC (nM rfl rfl rfl) nN)))))
 case v=>exact fun L fl =>
     (bS (bE (sClsMet W.inn (gR W.toWd n_Matcher rfl rfl rfl) (by kernel_rfl) k_433 (lC (sL rfl rfl rfl) (lC (sL rfl rfl rfl) (lC (sL rfl rfl rfl) (lC (sL rfl rfl rfl) (lC (sL rfl rfl rfl) lN))))) ((s_Matcher_init W).c.up dC)) rfl)
     (bO (bA (sC (gR W.toWd n_PlaceRow rfl rfl rfl) (kE W.inn k_415) (lC (sd W.inn (sL rfl rfl rfl) (by kernel_rfl) (by kernel_rfl)) (lC (sL rfl rfl rfl) lN)) ((make_ok W.inn (by kernel_rfl) (s_PlaceRow_init W)).up dC)) (stAtt W.inn (sL rfl rfl rfl) (by kernel_rfl) (by kernel_rfl)) rfl rfl)))
end Law
namespace Law
open Mn
variable {G:GC} {F:FC} {P:Params} {mg mb:Str->Option Value}
theorem s_least (W:WkL G P mg mb):SM G 8 F (.ref 193) c_least:=by
 refine' dE (n:=7) ["octets","start","finder","most","price","enough","trail","ways","at","place","matches","length","distance","part","taken"] ["octets","start","finder","most","price","enough"] [.none] W.toWd ?c ?o ?d ?b ?n ?k ?e ?g ?x ?y ?z ?u ?v
 case c | o | d | b | n | k | e | g=>rfl
 case x=>kernel_rfl
 case y =>
   intro vs s X hl
   obtain ⟨a,b,c,d,e,rfl⟩:=l5 hl;exact binds_K X rfl rfl rfl rfl rfl
 case z=>exact fun _ _=>.cons (.none) (.nil)
 case u=>exact fun L fl=>(nC (nM rfl rfl rfl) (nC (nM rfl rfl rfl) (nC (nM rfl rfl rfl) (nC (nM rfl rfl rfl) (nC (nM rfl rfl rfl) (nC (nM rfl rfl rfl) nN))))))
 case v=>exact fun L fl =>
     (bS (bE (sC (gR W.toWd n_check_range rfl rfl rfl) (kE W.inn k_80) (lC (sL rfl rfl rfl) (lC (sL rfl rfl rfl) (lC (sL rfl rfl rfl) lN))) ((s_check_range W).c.up dC)) rfl)
     (bS (bAsgSw (names:=["trail","ways","at"]) (sTup (lC (sC (gR W.toWd n_Trail rfl rfl rfl) (kE W.inn k_146) (lC (sL rfl rfl rfl) lN) ((make_ok W.inn (by kernel_rfl) (s_Trail_init W)).up dC)) (lC (sC (gR W.toWd n_Ways rfl rfl rfl) (kE W.inn k_181) (lC (sB (sC (gB W.toWd ng bB dC rfl rfl rfl rfl) kP (lC (sL rfl rfl rfl) lN) lI) (sL rfl rfl rfl)) lN) ((make_ok W.inn (by kernel_rfl) (s_Ways_init W)).up dC)) (lC sI lN)))) (aO (sT rfl rfl rfl) (aO (sT rfl rfl rfl) (aO (sT rfl rfl rfl) ai))) rfl rfl)
     (bS (bWh (tC (sL rfl rfl rfl) (sd W.inn (sL rfl rfl rfl) (by kernel_rfl) (by kernel_rfl))) (bS (bA (sB (sL rfl rfl rfl) (sL rfl rfl rfl)) (aS (sT rfl rfl rfl)) rfl rfl)
     (bS (bA (sMet W.inn (sL rfl rfl rfl) (by kernel_rfl) (by kernel_rfl) k_143 (lC (sL rfl rfl rfl) (lC (sL rfl rfl rfl) lN)) ((s_Trail_every W).c.up dC)) (aS (sT rfl rfl rfl)) rfl rfl)
     (bS (bE (sMet W.inn (sL rfl rfl rfl) (by kernel_rfl) (by kernel_rfl) k_171 (lC (sL rfl rfl rfl) (lC (sTup (lC sI (lC (sD (sL rfl rfl rfl) (sL rfl rfl rfl)) lN))) (lC (sMet W.inn (sL rfl rfl rfl) (by kernel_rfl) (by kernel_rfl) k_222 (lC (sD (sL rfl rfl rfl) (sL rfl rfl rfl)) lN) ((s_FlatPrice_literal W).c.up dC)) lN))) ((s_Ways_offer W).c.up dC)) rfl)
     (bS (bFor (sf (sL rfl rfl rfl)) (aU (aO (aS (sT rfl rfl rfl)) (aO (aS (sT rfl rfl rfl)) ai))) (bO (bFor (siRange2 (gB W.toWd nb_range bb_range dC rfl rfl rfl rfl) (sd W.inn (sL rfl rfl rfl) (by kernel_rfl) (by kernel_rfl)) (sB (sL rfl rfl rfl) sI)) (aS (sT rfl rfl rfl)) (bO (bE (sMet W.inn (sL rfl rfl rfl) (by kernel_rfl) (by kernel_rfl) k_171 (lC (sL rfl rfl rfl) (lC (sTup (lC (sL rfl rfl rfl) (lC (sL rfl rfl rfl) lN))) (lC (sMet W.inn (sL rfl rfl rfl) (by kernel_rfl) (by kernel_rfl) k_229 (lC (sL rfl rfl rfl) (lC (sL rfl rfl rfl) lN)) ((s_FlatPrice_match W).c.up dC)) lN))) ((s_Ways_offer W).c.up dC)) rfl)))))
     (bS (bA sI (aS (sT rfl rfl rfl)) rfl rfl)
     (bS (bIf (tBool (tAnd_cons (tC (sL rfl rfl rfl) sNone) (tAnd_cons nB (tAnd_nil nB)))) (bO (bA (sD (sD (sL rfl rfl rfl) (sNeg sI)) sI) (aS (sT rfl rfl rfl)) rfl rfl)) bN)
     (bO (bA (sB (sL rfl rfl rfl) (sL rfl rfl rfl)) (aS (sT rfl rfl rfl)) rfl rfl)))))))))
     (bO (bR (sMet W.inn (sL rfl rfl rfl) (by kernel_rfl) (by kernel_rfl) k_178 lN ((s_Ways_told W).c.up dC)))))))
theorem s_learn (W:WkL G P mg mb):SM G 9 F (.ref 353) c_learn:=by
 refine' dE (n:=8) ["octets","start","finders","most","price","unit","steps","finder"] ["octets","start","finders","most","price","unit"] [] W.toWd ?c ?o ?d ?b ?n ?k ?e ?g ?x ?y ?z ?u ?v
 case c | o | d | b | n | k | e | g=>rfl
 case x=>kernel_rfl
 case y =>
   intro vs s X hl
   obtain ⟨a,b,c,d,e,f,rfl⟩:=l6 hl;exact binds_K X rfl rfl rfl rfl rfl
 case z=>exact fun _ _=>.nil
 case u=>exact fun L fl=>(nC (nM rfl rfl rfl) (nC (nM rfl rfl rfl) (nC (nM rfl rfl rfl) (nC (nM rfl rfl rfl) (nC (nM rfl rfl rfl) (nC (nM rfl rfl rfl) nN))))))
 case v=>exact fun L fl =>
     (bS (bIf (tC (sC (gB W.toWd ng bB dC rfl rfl rfl rfl) kP (lC (sL rfl rfl rfl) lN) lI) sI) (bO (bRaise W.x64 (kE W.inn k_64) (gR W.toWd nA rfl rfl rfl))) bN)
     (bS (bE (sC (gR W.toWd n_need_unit rfl rfl rfl) (kE W.inn k_278) (lC (sL rfl rfl rfl) lN) ((s_need_unit W).c.up dC)) rfl)
     (bS (bA (sC (gR W.toWd n_least rfl rfl rfl) (kE W.inn k_193) (lC (sL rfl rfl rfl) (lC (sL rfl rfl rfl) (lC (sD (sL rfl rfl rfl) sI) (lC (sL rfl rfl rfl) (lC (sL rfl rfl rfl) lN))))) ((s_least W).c.up dC)) (aS (sT rfl rfl rfl)) rfl rfl)
     (bS (bFor (sf (sSlc (sL rfl rfl rfl) (pYes_ sI) pNo_)) (aS (sT rfl rfl rfl)) nS)
     (bO (bR (sL rfl rfl rfl)))))))
theorem s_put_part (W:WkL G P mg mb):SM G 1 F (.ref 358) c_put_part:=by
 refine' dE (n:=0) ["row","made","place","size","distance","shortest"] ["row","made","place","size","distance","shortest"] [] W.toWd ?c ?o ?d ?b ?n ?k ?e ?g ?x ?y ?z ?u ?v
 case c | o | d | b | n | k | e | g=>rfl
 case x=>kernel_rfl
 case y =>
   intro vs s X hl
   obtain ⟨a,b,c,d,e,f,rfl⟩:=l6 hl;exact BindsTo.of_eq rfl
 case z=>exact fun _ _=>.nil
 case u=>exact fun L fl=>(nC (nM rfl rfl rfl) (nC (nM rfl rfl rfl) (nC (nM rfl rfl rfl) (nC (nM rfl rfl rfl) (nC (nM rfl rfl rfl) (nC (nM rfl rfl rfl) nN))))))
 case v=>exact fun L fl =>
     (bO (bIf (tC (sL rfl rfl rfl) (sL rfl rfl rfl)) (bO (bE (sBMet isL_T PySem.F.plainAttrs_list PySem.F.slot_list_append PySem.F.type_list_append (sL rfl rfl rfl) (lC (sTup (lC (sL rfl rfl rfl) (lC (sL rfl rfl rfl) lN))) lN) aP) rfl)) (bO (bE (sBMet isL_T PySem.F.plainAttrs_list PySem.F.slot_list_extend PySem.F.type_list_extend (sL rfl rfl rfl) (lC (sComp (vars:=["octet"]) (siBytes (sSlc (sL rfl rfl rfl) (pYes_ (sL rfl rfl rfl)) (pYes_ (sB (sL rfl rfl rfl) (sL rfl rfl rfl))))) rfl rfl (by decide +kernel) (fun C=>(aS (sT rfl rfl rfl))) (fun C=>tsNil) (fun C=>(sTup (lC sI (lC (sL rfl rfl rfl) lN))))) lN) extend_sim) rfl))))
theorem s_cut_steps3 (W:WkL G P mg mb):SM G 4 F (.ref 364) c_cut_steps3:=by
 refine' dE (n:=3) ["steps","sizes","history","shortest","made","size","rows","place","taken","left","distance","row","end","first","second","part"] ["steps","sizes","history","shortest"] [.int 2 258] W.toWd ?c ?o ?d ?b ?n ?k ?e ?g ?x ?y ?z ?u ?v
 case c | o | d | b | n | k | e | g=>rfl
 case x=>kernel_rfl
 case y =>
   intro vs s X hl
   obtain ⟨a,b,c,rfl⟩:=l3 hl;exact binds_K X rfl rfl rfl rfl rfl
 case z=>exact fun _ _=>.cons (.int _ _) (.nil)
 case u=>exact fun L fl=>(nC (nM rfl rfl rfl) (nC (nM rfl rfl rfl) (nC (nM rfl rfl rfl) (nC (nM rfl rfl rfl) nN))))
 case v=>exact fun L fl =>
     (bS (bIf (tC (sL rfl rfl rfl) (gInt W.toWd n_LEAST_MATCH rfl rfl rfl)) (bO (bRaise W.x64 (kE W.inn k_64) (gR W.toWd nA rfl rfl rfl))) bN)
     (bS (bA (sC (gR W.toWd n_unparse rfl rfl rfl) (kE W.inn k_95) (lC (sL rfl rfl rfl) (lC (sL rfl rfl rfl) lN)) ((s_unparse W).c.up dC)) (aS (sT rfl rfl rfl)) rfl rfl)
     (bS (bIf (tBool (tOr_cons (tC (sC (gB W.toWd nb_sum bb_sum dC rfl rfl rfl rfl) kP (lC (sL rfl rfl rfl) lN) sum_sim) (sC (gB W.toWd ng bB dC rfl rfl rfl rfl) kP (lC (sL rfl rfl rfl) lN) lI)) (tOr_nil (tDCmp (sComp (vars:=["size"]) (sf (sL rfl rfl rfl)) rfl rfl (by decide +kernel) (fun C=>(aS (sT rfl rfl rfl))) (fun C=>(tsOne (tC (sL rfl rfl rfl) sI))) (fun C=>(sL rfl rfl rfl))) (sLst lN))))) (bO (bRaise W.x64 (kE W.inn k_64) (gR W.toWd nA rfl rfl rfl))) bN)
     (bS (bAsgSw (names:=["rows","place","taken"]) (sTup (lC (sLst lN) (lC sI (lC sI lN)))) (aO (sT rfl rfl rfl) (aO (sT rfl rfl rfl) (aO (sT rfl rfl rfl) ai))) rfl rfl)
     (bS (bA (sTup (lC sI (lC sI lN))) (aU (aO (aS (sT rfl rfl rfl)) (aO (aS (sT rfl rfl rfl)) ai))) rfl rfl)
     (bS (bFor (sf (sL rfl rfl rfl)) (aS (sT rfl rfl rfl)) (bS (bAsgSw (names:=["row","end"]) (sTup (lC (sLst lN) (lC (sB (sL rfl rfl rfl) (sL rfl rfl rfl)) lN))) (aO (sT rfl rfl rfl) (aO (sT rfl rfl rfl) ai)) rfl rfl)
     (bS (bWh (tC (sL rfl rfl rfl) (sL rfl rfl rfl)) (bS (bIf (tC (sL rfl rfl rfl) sI) (bS (bA (sD (sL rfl rfl rfl) (sL rfl rfl rfl)) (aU (aO (aS (sT rfl rfl rfl)) (aO (aS (sT rfl rfl rfl)) ai))) rfl rfl)
     (bS (bA (sB (sL rfl rfl rfl) sI) (aS (sT rfl rfl rfl)) rfl rfl)
     (bS (bIf (tC (sL rfl rfl rfl) sI) (bS (bE (sBMet isL_T PySem.F.plainAttrs_list PySem.F.slot_list_append PySem.F.type_list_append (sL rfl rfl rfl) (lC (sTup (lC sI (lC (sL rfl rfl rfl) lN))) lN) aP) rfl)
     (bS (bA (sB (sL rfl rfl rfl) sI) (aS (sT rfl rfl rfl)) rfl rfl)
     (bO bCont))) bN)
     (bO (bAsgSw (names:=["left","distance"]) (sTup (lC (sL rfl rfl rfl) (lC (sL rfl rfl rfl) lN))) (aO (sT rfl rfl rfl) (aO (sT rfl rfl rfl) ai)) rfl rfl))))) bN)
     (bS (bA (sC (gB W.toWd nb_min bb_min dC rfl rfl rfl rfl) kP (lC (sL rfl rfl rfl) (lC (sB (sL rfl rfl rfl) (sL rfl rfl rfl)) lN)) min_sim) (aS (sT rfl rfl rfl)) rfl rfl)
     (bS (bE (sC (gR W.toWd n_put_part rfl rfl rfl) (kE W.inn k_358) (lC (sL rfl rfl rfl) (lC (sL rfl rfl rfl) (lC (sL rfl rfl rfl) (lC (sL rfl rfl rfl) (lC (sL rfl rfl rfl) (lC (sL rfl rfl rfl) lN)))))) ((s_put_part W).c.up dC)) rfl)
     (bO (bAsgSw (names:=["place","left"]) (sTup (lC (sB (sL rfl rfl rfl) (sL rfl rfl rfl)) (lC (sB (sL rfl rfl rfl) (sL rfl rfl rfl)) lN))) (aO (sT rfl rfl rfl) (aO (sT rfl rfl rfl) ai)) rfl rfl))))))
     (bO (bE (sBMet isL_T PySem.F.plainAttrs_list PySem.F.slot_list_append PySem.F.type_list_append (sL rfl rfl rfl) (lC (sL rfl rfl rfl) lN) aP) rfl)))))
     (bO (bR (sL rfl rfl rfl)))))))))
theorem s_cut_steps4 (W:WkL G P mg mb):SM G 4 F (.ref 364) c_cut_steps4:=by
 refine' dE (n:=3) ["steps","sizes","history","shortest","made","size","rows","place","taken","left","distance","row","end","first","second","part"] ["steps","sizes","history","shortest"] [] W.toWd ?c ?o ?d ?b ?n ?k ?e ?g ?x ?y ?z ?u ?v
 case c | o | d | b | n | k | e | g=>rfl
 case x=>kernel_rfl
 case y =>
   intro vs s X hl
   obtain ⟨a,b,c,d,rfl⟩:=l4 hl;exact binds_K X rfl rfl rfl rfl rfl
 case z=>exact fun _ _=>.nil
 case u=>exact fun L fl=>(nC (nM rfl rfl rfl) (nC (nM rfl rfl rfl) (nC (nM rfl rfl rfl) (nC (nM rfl rfl rfl) nN))))
 case v=>exact fun L fl =>
     (bS (bIf (tC (sL rfl rfl rfl) (gInt W.toWd n_LEAST_MATCH rfl rfl rfl)) (bO (bRaise W.x64 (kE W.inn k_64) (gR W.toWd nA rfl rfl rfl))) bN)
     (bS (bA (sC (gR W.toWd n_unparse rfl rfl rfl) (kE W.inn k_95) (lC (sL rfl rfl rfl) (lC (sL rfl rfl rfl) lN)) ((s_unparse W).c.up dC)) (aS (sT rfl rfl rfl)) rfl rfl)
     (bS (bIf (tBool (tOr_cons (tC (sC (gB W.toWd nb_sum bb_sum dC rfl rfl rfl rfl) kP (lC (sL rfl rfl rfl) lN) sum_sim) (sC (gB W.toWd ng bB dC rfl rfl rfl rfl) kP (lC (sL rfl rfl rfl) lN) lI)) (tOr_nil (tDCmp (sComp (vars:=["size"]) (sf (sL rfl rfl rfl)) rfl rfl (by decide +kernel) (fun C=>(aS (sT rfl rfl rfl))) (fun C=>(tsOne (tC (sL rfl rfl rfl) sI))) (fun C=>(sL rfl rfl rfl))) (sLst lN))))) (bO (bRaise W.x64 (kE W.inn k_64) (gR W.toWd nA rfl rfl rfl))) bN)
     (bS (bAsgSw (names:=["rows","place","taken"]) (sTup (lC (sLst lN) (lC sI (lC sI lN)))) (aO (sT rfl rfl rfl) (aO (sT rfl rfl rfl) (aO (sT rfl rfl rfl) ai))) rfl rfl)
     (bS (bA (sTup (lC sI (lC sI lN))) (aU (aO (aS (sT rfl rfl rfl)) (aO (aS (sT rfl rfl rfl)) ai))) rfl rfl)
     (bS (bFor (sf (sL rfl rfl rfl)) (aS (sT rfl rfl rfl)) (bS (bAsgSw (names:=["row","end"]) (sTup (lC (sLst lN) (lC (sB (sL rfl rfl rfl) (sL rfl rfl rfl)) lN))) (aO (sT rfl rfl rfl) (aO (sT rfl rfl rfl) ai)) rfl rfl)
     (bS (bWh (tC (sL rfl rfl rfl) (sL rfl rfl rfl)) (bS (bIf (tC (sL rfl rfl rfl) sI) (bS (bA (sD (sL rfl rfl rfl) (sL rfl rfl rfl)) (aU (aO (aS (sT rfl rfl rfl)) (aO (aS (sT rfl rfl rfl)) ai))) rfl rfl)
     (bS (bA (sB (sL rfl rfl rfl) sI) (aS (sT rfl rfl rfl)) rfl rfl)
     (bS (bIf (tC (sL rfl rfl rfl) sI) (bS (bE (sBMet isL_T PySem.F.plainAttrs_list PySem.F.slot_list_append PySem.F.type_list_append (sL rfl rfl rfl) (lC (sTup (lC sI (lC (sL rfl rfl rfl) lN))) lN) aP) rfl)
     (bS (bA (sB (sL rfl rfl rfl) sI) (aS (sT rfl rfl rfl)) rfl rfl)
     (bO bCont))) bN)
     (bO (bAsgSw (names:=["left","distance"]) (sTup (lC (sL rfl rfl rfl) (lC (sL rfl rfl rfl) lN))) (aO (sT rfl rfl rfl) (aO (sT rfl rfl rfl) ai)) rfl rfl))))) bN)
     (bS (bA (sC (gB W.toWd nb_min bb_min dC rfl rfl rfl rfl) kP (lC (sL rfl rfl rfl) (lC (sB (sL rfl rfl rfl) (sL rfl rfl rfl)) lN)) min_sim) (aS (sT rfl rfl rfl)) rfl rfl)
     (bS (bE (sC (gR W.toWd n_put_part rfl rfl rfl) (kE W.inn k_358) (lC (sL rfl rfl rfl) (lC (sL rfl rfl rfl) (lC (sL rfl rfl rfl) (lC (sL rfl rfl rfl) (lC (sL rfl rfl rfl) (lC (sL rfl rfl rfl) lN)))))) ((s_put_part W).c.up dC)) rfl)
     (bO (bAsgSw (names:=["place","left"]) (sTup (lC (sB (sL rfl rfl rfl) (sL rfl rfl rfl)) (lC (sB (sL rfl rfl rfl) (sL rfl rfl rfl)) lN))) (aO (sT rfl rfl rfl) (aO (sT rfl rfl rfl) ai)) rfl rfl))))))
     (bO (bE (sBMet isL_T PySem.F.plainAttrs_list PySem.F.slot_list_append PySem.F.type_list_append (sL rfl rfl rfl) (lC (sL rfl rfl rfl) lN) aP) rfl)))))
     (bO (bR (sL rfl rfl rfl)))))))))
theorem s_runs_of (W:WkL G P mg mb):SM G 3 F (.ref 371) c_runs_of:=by
 refine' dE (n:=2) ["steps","rows","held","first","second"] ["steps"] [] W.toWd ?c ?o ?d ?b ?n ?k ?e ?g ?x ?y ?z ?u ?v
 case c | o | d | b | n | k | e | g=>rfl
 case x=>kernel_rfl
 case y =>
   intro vs s X hl
   obtain ⟨a,rfl⟩:=l1 hl;exact BindsTo.of_eq rfl
 case z=>exact fun _ _=>.nil
 case u=>exact fun L fl=>(nC (nM rfl rfl rfl) nN)
 case v=>exact fun L fl =>
     (bS (bE (sC (gR W.toWd n_check_steps rfl rfl rfl) (kE W.inn k_73) (lC (sL rfl rfl rfl) lN) ((s_check_steps W).c.up dC)) rfl)
     (bS (bAsgSw (names:=["rows","held"]) (sTup (lC (sLst lN) (lC (sC (gB W.toWd nb_bytearray bb_bytearray dC rfl rfl rfl rfl) kO lN barr_sim) lN))) (aO (sT rfl rfl rfl) (aO (sT rfl rfl rfl) ai)) rfl rfl)
     (bS (bFor (sf (sL rfl rfl rfl)) (aU (aO (aS (sT rfl rfl rfl)) (aO (aS (sT rfl rfl rfl)) ai))) (bO (bIf (tC (sL rfl rfl rfl) sI) (bO (bE (sBMet isB_T BA.plainAttrs BA.slot_append BA.type_append (sL rfl rfl rfl) (lC (sL rfl rfl rfl) lN) bapp_sim) rfl)) (bS (bE (sBMet isL_T PySem.F.plainAttrs_list PySem.F.slot_list_append PySem.F.type_list_append (sL rfl rfl rfl) (lC (sTup (lC (sC (gB W.toWd nb_bytes bb_bytes dC rfl rfl rfl rfl) kO (lC (sL rfl rfl rfl) lN) bytes_sim) (lC (sL rfl rfl rfl) (lC (sL rfl rfl rfl) lN)))) lN) aP) rfl)
     (bO (bA (sC (gB W.toWd nb_bytearray bb_bytearray dC rfl rfl rfl rfl) kO lN barr_sim) (aS (sT rfl rfl rfl)) rfl rfl))))))
     (bO (bR (sTup (lC (sL rfl rfl rfl) (lC (sC (gB W.toWd nb_bytes bb_bytes dC rfl rfl rfl rfl) kO (lC (sL rfl rfl rfl) lN) bytes_sim) lN))))))))
theorem s_steps_of_runs1 (W:WkL G P mg mb):SM G 3 F (.ref 377) c_steps_of_runs1:=by
 refine' dE (n:=2) ["rows","last","steps","run","length","distance"] ["rows","last"] [.bytes #[] 704] W.toWd ?c ?o ?d ?b ?n ?k ?e ?g ?x ?y ?z ?u ?v
 case c | o | d | b | n | k | e | g=>rfl
 case x=>kernel_rfl
 case y =>
   intro vs s X hl
   obtain ⟨a,rfl⟩:=l1 hl;exact binds_K X rfl rfl rfl rfl rfl
 case z=>exact fun _ _=>.cons (.bytes _ _) (.nil)
 case u=>exact fun L fl=>(nC (nM rfl rfl rfl) (nC (nM rfl rfl rfl) nN))
 case v=>exact fun L fl =>
     (bS (bA (sLst lN) (aS (sT rfl rfl rfl)) rfl rfl)
     (bS (bFor (sf (sL rfl rfl rfl)) (aU (aO (aS (sT rfl rfl rfl)) (aO (aS (sT rfl rfl rfl)) (aO (aS (sT rfl rfl rfl)) ai)))) (bS (bE (sBMet isL_T PySem.F.plainAttrs_list PySem.F.slot_list_extend PySem.F.type_list_extend (sL rfl rfl rfl) (lC (sComp (vars:=["octet"]) (siBytes (sL rfl rfl rfl)) rfl rfl (by decide +kernel) (fun C=>(aS (sT rfl rfl rfl))) (fun C=>tsNil) (fun C=>(sTup (lC sI (lC (sL rfl rfl rfl) lN))))) lN) extend_sim) rfl)
     (bO (bE (sBMet isL_T PySem.F.plainAttrs_list PySem.F.slot_list_append PySem.F.type_list_append (sL rfl rfl rfl) (lC (sTup (lC (sL rfl rfl rfl) (lC (sL rfl rfl rfl) lN))) lN) aP) rfl))))
     (bS (bE (sBMet isL_T PySem.F.plainAttrs_list PySem.F.slot_list_extend PySem.F.type_list_extend (sL rfl rfl rfl) (lC (sComp (vars:=["octet"]) (siBytes (sL rfl rfl rfl)) rfl rfl (by decide +kernel) (fun C=>(aS (sT rfl rfl rfl))) (fun C=>tsNil) (fun C=>(sTup (lC sI (lC (sL rfl rfl rfl) lN))))) lN) extend_sim) rfl)
     (bS (bE (sC (gR W.toWd n_check_steps rfl rfl rfl) (kE W.inn k_73) (lC (sL rfl rfl rfl) lN) ((s_check_steps W).c.up dC)) rfl)
     (bO (bR (sL rfl rfl rfl)))))))
theorem s_steps_of_runs2 (W:WkL G P mg mb):SM G 3 F (.ref 377) c_steps_of_runs2:=by
 refine' dE (n:=2) ["rows","last","steps","run","length","distance"] ["rows","last"] [] W.toWd ?c ?o ?d ?b ?n ?k ?e ?g ?x ?y ?z ?u ?v
 case c | o | d | b | n | k | e | g=>rfl
 case x=>kernel_rfl
 case y =>
   intro vs s X hl
   obtain ⟨a,b,rfl⟩:=l2 hl;exact binds_K X rfl rfl rfl rfl rfl
 case z=>exact fun _ _=>.nil
 case u=>exact fun L fl=>(nC (nM rfl rfl rfl) (nC (nM rfl rfl rfl) nN))
 case v=>exact fun L fl =>
     (bS (bA (sLst lN) (aS (sT rfl rfl rfl)) rfl rfl)
     (bS (bFor (sf (sL rfl rfl rfl)) (aU (aO (aS (sT rfl rfl rfl)) (aO (aS (sT rfl rfl rfl)) (aO (aS (sT rfl rfl rfl)) ai)))) (bS (bE (sBMet isL_T PySem.F.plainAttrs_list PySem.F.slot_list_extend PySem.F.type_list_extend (sL rfl rfl rfl) (lC (sComp (vars:=["octet"]) (siBytes (sL rfl rfl rfl)) rfl rfl (by decide +kernel) (fun C=>(aS (sT rfl rfl rfl))) (fun C=>tsNil) (fun C=>(sTup (lC sI (lC (sL rfl rfl rfl) lN))))) lN) extend_sim) rfl)
     (bO (bE (sBMet isL_T PySem.F.plainAttrs_list PySem.F.slot_list_append PySem.F.type_list_append (sL rfl rfl rfl) (lC (sTup (lC (sL rfl rfl rfl) (lC (sL rfl rfl rfl) lN))) lN) aP) rfl))))
     (bS (bE (sBMet isL_T PySem.F.plainAttrs_list PySem.F.slot_list_extend PySem.F.type_list_extend (sL rfl rfl rfl) (lC (sComp (vars:=["octet"]) (siBytes (sL rfl rfl rfl)) rfl rfl (by decide +kernel) (fun C=>(aS (sT rfl rfl rfl))) (fun C=>tsNil) (fun C=>(sTup (lC sI (lC (sL rfl rfl rfl) lN))))) lN) extend_sim) rfl)
     (bS (bE (sC (gR W.toWd n_check_steps rfl rfl rfl) (kE W.inn k_73) (lC (sL rfl rfl rfl) lN) ((s_check_steps W).c.up dC)) rfl)
     (bO (bR (sL rfl rfl rfl)))))))
theorem sW (W:WkL G P mg mb):SM G 1 F (.ref 558) cL:=by
 refine' dE (n:=0) ["sheet","many","figure","more"] ["sheet","many"] [] W.toWd ?c ?o ?d ?b ?n ?k ?e ?g ?x ?y ?z ?u ?v
 case c | o | d | b | n | k | e | g=>rfl
 case x=>kernel_rfl
 case y =>
   intro vs s X hl
   obtain ⟨a,b,rfl⟩:=l2 hl;exact BindsTo.of_eq rfl
 case z=>exact fun _ _=>.nil
 case u=>exact fun L fl=>(nC (nM rfl rfl rfl) (nC (nM rfl rfl rfl) nN))
 case v=>exact fun L fl =>
     (bS (bA (sB (sD (sL rfl rfl rfl) sI) sI) (stIdx (sL rfl rfl rfl) sI) rfl rfl)
     (bS (bIf (tDCmp (sD (sL rfl rfl rfl) sI) (sLst lN)) (bO (bR (sB (sB (sB (sB (sB (sB sI (sD (sL rfl rfl rfl) sI)) (sD (sL rfl rfl rfl) sI)) (sB sI (sD (sL rfl rfl rfl) sI))) sI) sI) (sL rfl rfl rfl)))) bN)
     (bS (bAsgSw (names:=["figure","more"]) (sTup (lC (sB (sD (sD (sL rfl rfl rfl) sI) sI) (sL rfl rfl rfl)) (lC (sB (sD (sD (sL rfl rfl rfl) sI) sI) (sL rfl rfl rfl)) lN))) (aO (sT rfl rfl rfl) (aO (sT rfl rfl rfl) ai)) rfl rfl)
     (bS (bA (sB (sB (sLst (lC (sL rfl rfl rfl) lN)) (sC (gB W.toWd nb_int bb_int dC rfl rfl rfl rfl) kO (lC (sCmp (sL rfl rfl rfl) sI) lN) int_sim)) (sSlc (sD (sL rfl rfl rfl) sI) (pYes_ sI) pNo_)) (stIdx (sL rfl rfl rfl) sI) rfl rfl)
     (bO (bR (sL rfl rfl rfl)))))))
theorem s__law_steps (W:WkL G P mg mb):SM G 2 F (.ref 563) c__law_steps:=by
 refine' dE (n:=1) ["most","made","steps","begun","turn","copy"] ["sheet","most"] [] W.toWd ?c ?o ?d ?b ?n ?k ?e ?g ?x ?y ?z ?u ?v
 case c | o | d | b | n | k | e | g=>rfl
 case x=>kernel_rfl
 case y =>
   intro vs s X hl
   obtain ⟨a,b,rfl⟩:=l2 hl;exact BindsTo.of_eq rfl
 case z=>exact fun _ _=>.nil
 case u=>exact fun L fl=>(nC (nmCel rfl rfl rfl) (nC (nM rfl rfl rfl) nN))
 case v=>exact fun L fl =>
     (bS (bAsgSw (names:=["made","steps"]) (sTup (lC (sComp (vars:=["k"]) (siRange1 (gB W.toWd nb_range bb_range dC rfl rfl rfl rfl) (sB sI (sC (gR W.toWd nL rfl rfl rfl) (kE W.inn k_558) (lC (se rfl (.inl rfl) rfl) (lC sI lN)) ((sW W).c.up dC)))) rfl rfl (by decide +kernel) (fun C=>(aS (sT rfl rfl rfl))) (fun C=>tsNil) (fun C=>(sB sI (sC (gR W.toWd nL rfl rfl rfl) (kE W.inn k_558) (lC (se rfl (.inl rfl) rfl) (lC sI lN)) ((sW W).c.up dC))))) (lC (sLst lN) lN))) (aO (sT rfl rfl rfl) (aO (sT rfl rfl rfl) ai)) rfl rfl)
     (bS (bA (sC (gB W.toWd ng bB dC rfl rfl rfl rfl) kP (lC (sL rfl rfl rfl) lN) lI) (aS (sT rfl rfl rfl)) rfl rfl)
     (bS (bFor (siRange1 (gB W.toWd nb_range bb_range dC rfl rfl rfl rfl) (sB sI (sC (gR W.toWd nL rfl rfl rfl) (kE W.inn k_558) (lC (se rfl (.inl rfl) rfl) (lC (sL rfl rfl rfl) lN)) ((sW W).c.up dC)))) (aS (sT rfl rfl rfl)) (bO (bIf (tC (sC (gR W.toWd nL rfl rfl rfl) (kE W.inn k_558) (lC (se rfl (.inl rfl) rfl) (lC sI lN)) ((sW W).c.up dC)) sI) (bS (bE (sBMet isL_T PySem.F.plainAttrs_list PySem.F.slot_list_append PySem.F.type_list_append (sL rfl rfl rfl) (lC (sTup (lC sI (lC (sB sI (sC (gR W.toWd nL rfl rfl rfl) (kE W.inn k_558) (lC (se rfl (.inl rfl) rfl) (lC sI lN)) ((sW W).c.up dC))) lN))) lN) aP) rfl)
     (bO (bE (sBMet isL_T PySem.F.plainAttrs_list PySem.F.slot_list_append PySem.F.type_list_append (sL rfl rfl rfl) (lC (sD (sD (sL rfl rfl rfl) (sNeg sI)) sI) lN) aP) rfl))) (bS (bE (sBMet isL_T PySem.F.plainAttrs_list PySem.F.slot_list_append PySem.F.type_list_append (sL rfl rfl rfl) (lC (sTup (lC (sB sI (sC (gR W.toWd nL rfl rfl rfl) (kE W.inn k_558) (lC (se rfl (.inl rfl) rfl) (lC sI lN)) ((sW W).c.up dC))) (lC (sB sI (sC (gR W.toWd nL rfl rfl rfl) (kE W.inn k_558) (lC (se rfl (.inl rfl) rfl) (lC (sC (gB W.toWd ng bB dC rfl rfl rfl rfl) kP (lC (sL rfl rfl rfl) lN) lI) lN)) ((sW W).c.up dC))) lN))) lN) aP) rfl)
     (bO (bFor (siRange1 (gB W.toWd nb_range bb_range dC rfl rfl rfl rfl) (sD (sD (sL rfl rfl rfl) (sNeg sI)) sI)) (aS (sT rfl rfl rfl)) (bO (bE (sBMet isL_T PySem.F.plainAttrs_list PySem.F.slot_list_append PySem.F.type_list_append (sL rfl rfl rfl) (lC (sD (sL rfl rfl rfl) (sNeg (sD (sD (sL rfl rfl rfl) (sNeg sI)) sI))) lN) aP) rfl))))))))
     (bO (bR (sTup (lC (sC (gB W.toWd nb_bytes bb_bytes dC rfl rfl rfl rfl) kO (lC (sSlc (sL rfl rfl rfl) pNo_ (pYes_ (sL rfl rfl rfl))) lN) bytes_sim) (lC (sL rfl rfl rfl) (lC (sC (gB W.toWd nb_bytes bb_bytes dC rfl rfl rfl rfl) kO (lC (sSlc (sL rfl rfl rfl) (pYes_ (sL rfl rfl rfl)) pNo_) lN) bytes_sim) lN)))))))))
theorem s__law_tally (W:WkL G P mg mb):SM G 1 F (.ref 568) c__law_tally:=by
 refine' dE (n:=0) ["plain","first","second","lengths","gaps"] ["steps"] [] W.toWd ?c ?o ?d ?b ?n ?k ?e ?g ?x ?y ?z ?u ?v
 case c | o | d | b | n | k | e | g=>rfl
 case x=>kernel_rfl
 case y =>
   intro vs s X hl
   obtain ⟨a,rfl⟩:=l1 hl;exact BindsTo.of_eq rfl
 case z=>exact fun _ _=>.nil
 case u=>exact fun L fl=>(nC (nmCel rfl rfl rfl) nN)
 case v=>exact fun L fl =>
     (bS (bA (sB (sLst (lC sI lN)) sI) (aS (sT rfl rfl rfl)) rfl rfl)
     (bS (bFor (sf (se rfl (.inl rfl) rfl)) (aU (aO (aS (sT rfl rfl rfl)) (aO (aS (sT rfl rfl rfl)) ai))) (bO (bA (sIte (tC (sL rfl rfl rfl) sI) (sB (sD (sL rfl rfl rfl) (sL rfl rfl rfl)) sI) (sD (sL rfl rfl rfl) (sL rfl rfl rfl))) (stIdx (sL rfl rfl rfl) (sL rfl rfl rfl)) rfl rfl)))
     (bS (bA (sComp (vars:=[]) (siRange1 (gB W.toWd nb_range bb_range dC rfl rfl rfl rfl) sI) rfl rfl (by decide +kernel) (fun C=>(aS (stCel rfl rfl rfl))) (fun C=>tsNil) (fun C=>(sComp (vars:=["step"]) (sf (se rfl (.inl rfl) rfl)) rfl rfl (by decide +kernel) (fun D=>(aS (sT rfl rfl rfl))) (fun D=>(tsOne (tC (sD (sL rfl rfl rfl) sI) sI))) (fun D=>(sD (sL rfl rfl rfl) (se rfl (.inl rfl) rfl)))))) (asLst (aO (aS (sT rfl rfl rfl)) (aO (aS (sT rfl rfl rfl)) ai))) rfl rfl)
     (bO (bR (sB (sLst (lC (sL rfl rfl rfl) lN)) (sComp (vars:=[]) (siTupD (lC (sL rfl rfl rfl) (lC (sL rfl rfl rfl) lN))) rfl rfl (by decide +kernel) (fun C=>(aS (stCel rfl rfl rfl))) (fun C=>tsNil) (fun C=>(sC (gB W.toWd nb_dict bb_dict dC rfl rfl rfl rfl) kO (lC (sComp (vars:=["one"]) (sf (se rfl (.inl rfl) rfl)) rfl rfl (by decide +kernel) (fun D=>(aS (sT rfl rfl rfl))) (fun D=>tsNil) (fun D=>(sTup (lC (sL rfl rfl rfl) (lC (sBMet isL_T PySem.F.plainAttrs_list PySem.F.slot_list_count PySem.F.type_list_count (se rfl (.inl rfl) rfl) (lC (sL rfl rfl rfl) lN) count_sim) lN))))) lN) (dict_sim W.sys))))))))))
theorem s__law_shown (W:WkL G P mg mb):SM G 1 F (.ref 575) c__law_shown:=by
 refine' dE (n:=0) ["counts"] ["counts"] [] W.toWd ?c ?o ?d ?b ?n ?k ?e ?g ?x ?y ?z ?u ?v
 case c | o | d | b | n | k | e | g=>rfl
 case x=>kernel_rfl
 case y =>
   intro vs s X hl
   obtain ⟨a,rfl⟩:=l1 hl;exact BindsTo.of_eq rfl
 case z=>exact fun _ _=>.nil
 case u=>exact fun L fl=>(nC (nM rfl rfl rfl) nN)
 case v=>exact fun L fl =>
     (bO (bR (sLst (lC (sC (gB W.toWd nb_list bb_list dC rfl rfl rfl rfl) kO (lC (sd W.inn (sL rfl rfl rfl) (by kernel_rfl) (by kernel_rfl)) lN) list_sim) (lC (sC (gB W.toWd nb_dict bb_dict dC rfl rfl rfl rfl) kO (lC (sd W.inn (sL rfl rfl rfl) (by kernel_rfl) (by kernel_rfl)) lN) (dict_sim W.sys)) (lC (sC (gB W.toWd nb_dict bb_dict dC rfl rfl rfl rfl) kO (lC (sd W.inn (sL rfl rfl rfl) (by kernel_rfl) (by kernel_rfl)) lN) (dict_sim W.sys)) lN))))))
theorem s__law_fit (W:WkL G P mg mb):SM G 1 F (.ref 582) c__law_fit:=by
 refine' dE (n:=0) ["steps","whole","begin","made","first","second","copy"] ["steps","whole","begin"] [] W.toWd ?c ?o ?d ?b ?n ?k ?e ?g ?x ?y ?z ?u ?v
 case c | o | d | b | n | k | e | g=>rfl
 case x=>kernel_rfl
 case y =>
   intro vs s X hl
   obtain ⟨a,b,c,rfl⟩:=l3 hl;exact BindsTo.of_eq rfl
 case z=>exact fun _ _=>.nil
 case u=>exact fun L fl=>(nC (nM rfl rfl rfl) (nC (nM rfl rfl rfl) (nC (nM rfl rfl rfl) nN)))
 case v=>exact fun L fl =>
     (bS (bA (sC (gB W.toWd nb_list bb_list dC rfl rfl rfl rfl) kO (lC (sSlc (sL rfl rfl rfl) pNo_ (pYes_ (sL rfl rfl rfl))) lN) list_sim) (aS (sT rfl rfl rfl)) rfl rfl)
     (bS (bFor (sf (sL rfl rfl rfl)) (aU (aO (aS (sT rfl rfl rfl)) (aO (aS (sT rfl rfl rfl)) ai))) (bS (bIf (tBool (tAnd_cons (tC (sL rfl rfl rfl) sI) (tAnd_nil (tC (sL rfl rfl rfl) (sC (gB W.toWd ng bB dC rfl rfl rfl rfl) kP (lC (sL rfl rfl rfl) lN) lI))))) (bO (bR sBool)) bN)
     (bO (bFor (siRange1 (gB W.toWd nb_range bb_range dC rfl rfl rfl rfl) (sC (gB W.toWd nb_max bb_max dC rfl rfl rfl rfl) kP (lC sI (lC (sL rfl rfl rfl) lN)) max_sim)) (aS (sT rfl rfl rfl)) (bO (bE (sBMet isL_T PySem.F.plainAttrs_list PySem.F.slot_list_append PySem.F.type_list_append (sL rfl rfl rfl) (lC (sIte (tC (sL rfl rfl rfl) sI) (sL rfl rfl rfl) (sD (sL rfl rfl rfl) (sNeg (sL rfl rfl rfl)))) lN) aP) rfl))))))
     (bO (bR (sCmp (sC (gB W.toWd nb_bytes bb_bytes dC rfl rfl rfl rfl) kO (lC (sL rfl rfl rfl) lN) bytes_sim) (sL rfl rfl rfl))))))
end Law
namespace Law
open Mn
variable {G:GC} {F:FC} {P:Params} {mg mb:Str->Option Value}
theorem s__law_right (W:WkL G P mg mb):SM G 5 F (.ref 589) c__law_right:=by
 refine' dE (n:=4) ["history","steps","text","sizes","whole","back","rows","row","size","piece","begin","runs","last"] ["history","steps","text","sizes"] [] W.toWd ?c ?o ?d ?b ?n ?k ?e ?g ?x ?y ?z ?u ?v
 case c | o | d | b | n | k | e | g=>rfl
 case x=>kernel_rfl
 case y =>
   intro vs s X hl
   obtain ⟨a,b,c,d,rfl⟩:=l4 hl;exact BindsTo.of_eq rfl
 case z=>exact fun _ _=>.nil
 case u=>exact fun L fl=>(nC (nM rfl rfl rfl) (nC (nM rfl rfl rfl) (nC (nM rfl rfl rfl) (nC (nM rfl rfl rfl) nN))))
 case v=>exact fun L fl =>
     (bS (bAsgSw (names:=["whole","back"]) (sTup (lC (sB (sL rfl rfl rfl) (sL rfl rfl rfl)) (lC (sL rfl rfl rfl) lN))) (aO (sT rfl rfl rfl) (aO (sT rfl rfl rfl) ai)) rfl rfl)
     (bS (bIf (tC (sC (gR W.toWd n_unparse rfl rfl rfl) (kE W.inn k_95) (lC (sL rfl rfl rfl) (lC (sL rfl rfl rfl) lN)) ((s_unparse W).c.up dC)) (sL rfl rfl rfl)) (bO (bR sBool)) bN)
     (bS (bA (sC (gR W.toWd n_cut_steps rfl rfl rfl) (kE W.inn k_364) (lC (sL rfl rfl rfl) (lC (sL rfl rfl rfl) (lC (sL rfl rfl rfl) lN))) ((s_cut_steps3 W).c.up dC)) (aS (sT rfl rfl rfl)) rfl rfl)
     (bS (forGo (siZip (gB W.toWd nb_zip bb_zip dC rfl rfl rfl rfl) (sL rfl rfl rfl) (sL rfl rfl rfl)) (aU (aO (aS (sT rfl rfl rfl)) (aO (aS (sT rfl rfl rfl)) ai))) (bS (bA (sC (gR W.toWd n_unparse rfl rfl rfl) (kE W.inn k_95) (lC (sL rfl rfl rfl) (lC (sL rfl rfl rfl) lN)) ((s_unparse W).c.up dC)) (aS (sT rfl rfl rfl)) rfl rfl)
     (bS (bIf (tC (sC (gB W.toWd ng bB dC rfl rfl rfl rfl) kP (lC (sL rfl rfl rfl) lN) lI) (sL rfl rfl rfl)) (bO (bR sBool)) bN)
     (bO (bA (sB (sL rfl rfl rfl) (sL rfl rfl rfl)) (aS (sT rfl rfl rfl)) rfl rfl)))))
     (bS (bIf (tBool (tOr_cons (tC (sL rfl rfl rfl) (sL rfl rfl rfl)) (tOr_nil (tC (sC (gB W.toWd ng bB dC rfl rfl rfl rfl) kP (lC (sL rfl rfl rfl) lN) lI) (sC (gB W.toWd ng bB dC rfl rfl rfl rfl) kP (lC (sL rfl rfl rfl) lN) lI))))) (bO (bR sBool)) bN)
     (bS (bFor (siRange1 (gB W.toWd nb_range bb_range dC rfl rfl rfl rfl) (sB (sC (gB W.toWd ng bB dC rfl rfl rfl rfl) kP (lC (sL rfl rfl rfl) lN) lI) sI)) (aS (sT rfl rfl rfl)) (bO (bIf (tC (sC (gR W.toWd n_fits rfl rfl rfl) (kE W.inn k_110) (lC (sL rfl rfl rfl) (lC (sL rfl rfl rfl) (lC (sL rfl rfl rfl) lN))) ((s_fits W).c.up dC)) (sC (gR W.toWd n__law_fit rfl rfl rfl) (kE W.inn k_582) (lC (sL rfl rfl rfl) (lC (sL rfl rfl rfl) (lC (sL rfl rfl rfl) lN))) ((s__law_fit W).c.up dC))) (bO (bR sBool)) bN)))
     (bS (bA (sC (gR W.toWd n_runs_of rfl rfl rfl) (kE W.inn k_371) (lC (sL rfl rfl rfl) lN) ((s_runs_of W).c.up dC)) (aU (aO (aS (sT rfl rfl rfl)) (aO (aS (sT rfl rfl rfl)) ai))) rfl rfl)
     (bO (bR (sAnd (sDCmp (sC (gR W.toWd n_steps_of_runs rfl rfl rfl) (kE W.inn k_377) (lC (sL rfl rfl rfl) (lC (sL rfl rfl rfl) lN)) ((s_steps_of_runs2 W).c.up dC)) (sL rfl rfl rfl)) (sShown W.sys (sC (gR W.toWd n__law_shown rfl rfl rfl) (kE W.inn k_575) (lC (sC (gR W.toWd n_counts_of rfl rfl rfl) (kE W.inn k_271) (lC (sL rfl rfl rfl) lN) ((s_counts_of W).c.up dC)) lN) ((s__law_shown W).c.up dC)) (sC (gR W.toWd n__law_tally rfl rfl rfl) (kE W.inn k_568) (lC (sL rfl rfl rfl) lN) ((s__law_tally W).c.up dC)))))))))))))
theorem s__law_refused (W:WkL G P mg mb):SM G 12 F (.ref 596) (c__law_refused G):=by
 refine' dE (n:=11) ["deed"] ["deed"] [] W.toWd ?c ?o ?d ?b ?n ?k ?e ?g ?x ?y ?z ?u ?v
 case c | o | d | b | n | k | e | g=>rfl
 case x=>kernel_rfl
 case y =>
   intro vs s X hl
   obtain ⟨a,rfl⟩:=l1 hl;exact BindsTo.of_eq rfl
 case z=>exact fun _ _=>.nil
 case u=>exact fun L fl=>(nC (nM rfl rfl rfl) nN)
 case v=>exact fun L fl =>
     (bS (bTry W.x64 W.x52 W.x52_64 (sCallClo W.lim (sL rfl rfl rfl)) rfl rfl rfl rfl W.glob (mg_of W.inn W.glob nA) (mg_of W.inn W.glob n_BadDistance))
     (bO (bR sStr)))
theorem s__law_odd_right (W:WkL G P mg mb):SM G 13 F (.ref 603) (c__law_odd_right G):=by
 refine' dE (n:=12) ["sheet","text","deed","due"] ["sheet","history","steps","text","sizes"] [] W.toWd ?c ?o ?d ?b ?n ?k ?e ?g ?x ?y ?z ?u ?v
 case c | o | d | b | n | k | e | g=>rfl
 case x=>kernel_rfl
 case y =>
   intro vs s X hl
   obtain ⟨a,b,c,d,e,rfl⟩:=l5 hl;exact BindsTo.of_eq rfl
 case z=>exact fun _ _=>.nil
 case u=>exact fun L fl=>(nC (nM rfl rfl rfl) (nC (nmCel rfl rfl rfl) (nC (nmCel rfl rfl rfl) (nC (nM rfl rfl rfl) (nC (nmCel rfl rfl rfl) nN)))))
 case v=>exact fun L fl =>
     (bS (bA (sTup (lC (sB (se rfl (.inl rfl) rfl) (sL rfl rfl rfl)) (lC (sNeg (sC (gR W.toWd nL rfl rfl rfl) (kE W.inn k_558) (lC (sL rfl rfl rfl) (lC sI lN)) ((sW W).c.up dC))) (lC (sB sI (sC (gR W.toWd nL rfl rfl rfl) (kE W.inn k_558) (lC (sL rfl rfl rfl) (lC sI lN)) ((sW W).c.up dC))) lN)))) (aU (aO (aS (stCel rfl rfl rfl)) (aO (aS (stCel rfl rfl rfl)) (aO (aS (stCel rfl rfl rfl)) ai)))) rfl rfl)
     (bS (bA (sB (se rfl (.inl rfl) rfl) (sLst (lC (sTup (lC (sB sI (sC (gR W.toWd nL rfl rfl rfl) (kE W.inn k_558) (lC (sL rfl rfl rfl) (lC sI lN)) ((sW W).c.up dC))) (lC (se rfl (.inl rfl) rfl) lN))) lN))) (aS (stCel rfl rfl rfl)) rfl rfl)
     (bS (bA (sB (se rfl (.inl rfl) rfl) (sLst (lC (sD (sLst (lC (sTup (lC sI (lC sI lN))) (lC (sTup (lC sI (lC (sNeg sI) lN))) (lC (sTup (lC sI (lC sI lN))) (lC (sTup (lC (sNeg sI) (lC sI lN))) (lC (sTup (lC sI (lC sI lN))) lN)))))) (sC (gR W.toWd nL rfl rfl rfl) (kE W.inn k_558) (lC (sL rfl rfl rfl) (lC sI lN)) ((sW W).c.up dC))) lN))) (aS (stCel rfl rfl rfl)) rfl rfl)
     (bS (bA (sD (sLst (lC sI (lC (sB (sNeg sI) (sC (gR W.toWd nL rfl rfl rfl) (kE W.inn k_558) (lC (sL rfl rfl rfl) (lC sI lN)) ((sW W).c.up dC))) (lC (sB sI (sC (gR W.toWd nL rfl rfl rfl) (kE W.inn k_558) (lC (sL rfl rfl rfl) (lC sI lN)) ((sW W).c.up dC))) lN)))) (sC (gR W.toWd nL rfl rfl rfl) (kE W.inn k_558) (lC (sL rfl rfl rfl) (lC sI lN)) ((sW W).c.up dC))) (aS (stCel rfl rfl rfl)) rfl rfl)
     (bS (bA (sTup (lC (sC (gR W.toWd n_Counts rfl rfl rfl) (kE W.inn k_260) lN ((make_ok W.inn (by kernel_rfl) (s_Counts_init W)).up dC)) (lC (sC (gR W.toWd n_Finder rfl rfl rfl) (kE W.inn k_549) (lC (se rfl (.inl rfl) rfl) (lC sI (lC sI (lC sI lN)))) ((make_ok W.inn (by kernel_rfl) (s_Finder_init W)).up dC)) (lC (sC (gR W.toWd n_FlatPrice rfl rfl rfl) (kE W.inn k_232) (lC sI (lC sI lN)) ((make_ok W.inn (by kernel_rfl) (s_FlatPrice_init W)).up dC)) lN)))) (aU (aO (aS (stCel rfl rfl rfl)) (aO (aS (stCel rfl rfl rfl)) (aO (aS (stCel rfl rfl rfl)) ai)))) rfl rfl)
     (bS (bE (sMet W.inn (se rfl (.inl rfl) rfl) (by kernel_rfl) (by kernel_rfl) k_257 (lC (se rfl (.inl rfl) rfl) lN) ((s_Counts_add W).c.up dC)) rfl)
     (bS (bFor (sf (sLst (lC (sLamR (run:=run_0 L) W.toWk rfl W.c602 rfl rfl rfl (lamSim (f:=(mA (eC (mE (L + 1 + 7)) (eC (mE (L + 1 + 0)) eN)) c_unparse)) rfl rfl rfl rfl (fun _ _ _ _ _=>(sC (gR W.toWd n_unparse rfl rfl rfl) (kE W.inn k_95) (lC (se rfl (.inr rfl) rfl) (lC (se rfl (.inr rfl) rfl) lN)) ((s_unparse W).c.up dC))) (fun _ _ _ _ _ h=>h))) (lC (sLamR (run:=run_1 L) W.toWk rfl W.c602 rfl rfl rfl (lamSim (f:=(mA (eC (mE (L + 1 + 7)) eN) c_counts_of)) rfl rfl rfl rfl (fun _ _ _ _ _=>(sC (gR W.toWd n_counts_of rfl rfl rfl) (kE W.inn k_271) (lC (se rfl (.inr rfl) rfl) lN) ((s_counts_of W).c.up dC))) (fun _ _ _ _ _ h=>h))) (lC (sLamR (run:=run_2 L) W.toWk rfl W.c602 rfl rfl rfl (lamSim (f:=(mA (eC (mE (L + 1 + 7)) eN) c_runs_of)) rfl rfl rfl rfl (fun _ _ _ _ _=>(sC (gR W.toWd n_runs_of rfl rfl rfl) (kE W.inn k_371) (lC (se rfl (.inr rfl) rfl) lN) ((s_runs_of W).c.up dC))) (fun _ _ _ _ _ h=>h))) (lC (sLamR (run:=run_3 L) W.toWk rfl W.c602 rfl rfl rfl (lamSim (f:=(mMet 260 (mE (L + 1 + 3)) (eC (mE (L + 1 + 7)) eN) cC)) rfl rfl rfl rfl (fun _ _ _ _ _=>(sMet W.inn (se rfl (.inr rfl) rfl) (by kernel_rfl) (by kernel_rfl) k_257 (lC (se rfl (.inr rfl) rfl) lN) ((s_Counts_add W).c.up dC))) (fun _ _ _ _ _ h=>h))) (lC (sLamR (run:=run_4 L) W.toWk rfl W.c602 rfl rfl rfl (lamSim (f:=(mA (eC (mLst (eC (mU (eC (mC (.bytes [97])) (eC (mC (.int 3)) (eC (mE (L + 1 + 6)) eN)))) eN)) eN) c_steps_of_runs1)) rfl rfl rfl rfl (fun _ _ _ _ _=>(sC (gR W.toWd n_steps_of_runs rfl rfl rfl) (kE W.inn k_377) (lC (sLst (lC (sTup (lC sBytes (lC sI (lC (se rfl (.inr rfl) rfl) lN)))) lN)) lN) ((s_steps_of_runs1 W).c.up dC))) (fun _ _ _ _ _ h=>h))) lN))))))) (aS (sT rfl rfl rfl)) (bO (bIf (tC (sC (gR W.toWd n__law_refused rfl rfl rfl) (kE W.inn k_596) (lC (sL rfl rfl rfl) lN) ((s__law_refused W).c.up dC)) sStr) (bO (bR sBool)) bN)))
     (bS (bFor (sf (sLst (lC (sLamR (run:=run_5 L) W.toWk rfl W.c602 rfl rfl rfl (lamSim (f:=(mA (eC (mE (L + 1 + 1)) (eC (mE (L + 1 + 2)) (eC (mE (L + 1 + 0)) (eC (mE (L + 1 + 4)) eN)))) c_cut_steps4)) rfl rfl rfl rfl (fun _ _ _ _ _=>(sC (gR W.toWd n_cut_steps rfl rfl rfl) (kE W.inn k_364) (lC (se rfl (.inr rfl) rfl) (lC (se rfl (.inr rfl) rfl) (lC (se rfl (.inr rfl) rfl) (lC (se rfl (.inr rfl) rfl) lN)))) ((s_cut_steps4 W).c.up dC))) (fun _ _ _ _ _ h=>h))) (lC (sLamR (run:=run_6 L) W.toWk rfl W.c602 rfl rfl rfl (lamSim (f:=(mA (eC (mE (L + 1 + 1)) (eC (mE (L + 1 + 11)) (eC (mB .Sub (mE (L + 1 + 6)) (mC (.int 1))) eN))) c_fits)) rfl rfl rfl rfl (fun _ _ _ _ _=>(sC (gR W.toWd n_fits rfl rfl rfl) (kE W.inn k_110) (lC (se rfl (.inr rfl) rfl) (lC (se rfl (.inr rfl) rfl) (lC (sB (se rfl (.inr rfl) rfl) sI) lN))) ((s_fits W).c.up dC))) (fun _ _ _ _ _ h=>h))) (lC (sLamR (run:=run_7 L) W.toWk rfl W.c602 rfl rfl rfl (lamSim (f:=(mMet 260 (mE (L + 1 + 3)) (eC (mE (L + 1 + 10)) eN) cC)) rfl rfl rfl rfl (fun _ _ _ _ _=>(sMet W.inn (se rfl (.inr rfl) rfl) (by kernel_rfl) (by kernel_rfl) k_257 (lC (se rfl (.inr rfl) rfl) lN) ((s_Counts_add W).c.up dC))) (fun _ _ _ _ _ h=>h))) (lC (sLamR (run:=run_8 L) W.toWk rfl W.c602 rfl rfl rfl (lamSim (f:=(mA (eC (mE (L + 1 + 10)) eN) c_counts_of)) rfl rfl rfl rfl (fun _ _ _ _ _=>(sC (gR W.toWd n_counts_of rfl rfl rfl) (kE W.inn k_271) (lC (se rfl (.inr rfl) rfl) lN) ((s_counts_of W).c.up dC))) (fun _ _ _ _ _ h=>h))) (lC (sLamR (run:=run_9 L) W.toWk rfl W.c602 rfl rfl rfl (lamSim (f:=(mA (eC (mE (L + 1 + 3)) (eC (mE (L + 1 + 8)) eN)) (mkC 341 c_LearntPrice_init))) rfl rfl rfl rfl (fun _ _ _ _ _=>(sC (gR W.toWd n_LearntPrice rfl rfl rfl) (kE W.inn k_341) (lC (se rfl (.inr rfl) rfl) (lC (se rfl (.inr rfl) rfl) lN)) ((make_ok W.inn (by kernel_rfl) (s_LearntPrice_init W)).up dC))) (fun _ _ _ _ _ h=>h))) (lC (sLamR (run:=run_10 L) W.toWk rfl W.c602 rfl rfl rfl (lamSim (f:=(mA (eC (mE (L + 1 + 11)) (eC (mA (eC (mE (L + 1 + 0)) eN) cN) (eC (mLst (eC (mE (L + 1 + 5)) eN)) (eC (mC (.int 9)) (eC (mE (L + 1 + 9)) (eC (mE (L + 1 + 8)) eN)))))) c_learn)) rfl rfl rfl rfl (fun _ _ _ _ _=>(sC (gR W.toWd n_learn rfl rfl rfl) (kE W.inn k_353) (lC (se rfl (.inr rfl) rfl) (lC (sC (gB W.toWd ng bB dC rfl rfl rfl rfl) kP (lC (se rfl (.inr rfl) rfl) lN) lI) (lC (sLst (lC (se rfl (.inr rfl) rfl) lN)) (lC sI (lC (se rfl (.inr rfl) rfl) (lC (se rfl (.inr rfl) rfl) lN)))))) ((s_learn W).c.up dC))) (fun _ _ _ _ _ h=>h))) lN)))))))) (aS (sT rfl rfl rfl)) (bO (bIf (tC (sC (gR W.toWd n__law_refused rfl rfl rfl) (kE W.inn k_596) (lC (sL rfl rfl rfl) lN) ((s__law_refused W).c.up dC)) sStr) (bO (bR sBool)) bN)))
     (bS (bA (sC (gR W.toWd n_least rfl rfl rfl) (kE W.inn k_193) (lC (se rfl (.inl rfl) rfl) (lC (sC (gB W.toWd ng bB dC rfl rfl rfl rfl) kP (lC (se rfl (.inl rfl) rfl) lN) lI) (lC (sC (gR W.toWd n_Finder rfl rfl rfl) (kE W.inn k_549) (lC (se rfl (.inl rfl) rfl) (lC sI (lC sI (lC sI lN)))) ((make_ok W.inn (by kernel_rfl) (s_Finder_init W)).up dC)) (lC sI (lC (se rfl (.inl rfl) rfl) lN))))) ((s_least W).c.up dC)) (aS (sT rfl rfl rfl)) rfl rfl)
     (bO (bR (sAnd (sShown W.sys (sC (gR W.toWd n__law_shown rfl rfl rfl) (kE W.inn k_575) (lC (se rfl (.inl rfl) rfl) lN) ((s__law_shown W).c.up dC)) (sC (gR W.toWd n__law_tally rfl rfl rfl) (kE W.inn k_568) (lC (se rfl (.inl rfl) rfl) lN) ((s__law_tally W).c.up dC))) (sDCmp (sC (gR W.toWd n_learn rfl rfl rfl) (kE W.inn k_353) (lC (se rfl (.inl rfl) rfl) (lC (sC (gB W.toWd ng bB dC rfl rfl rfl rfl) kP (lC (se rfl (.inl rfl) rfl) lN) lI) (lC (sLst (lC (se rfl (.inl rfl) rfl) lN)) (lC sI (lC (se rfl (.inl rfl) rfl) (lC sI lN)))))) ((s_learn W).c.up dC)) (sL rfl rfl rfl))))))))))))))
theorem s_law (W:WkL G P mg mb):TopF G 14 (.ref 608) (c_law G):=by
 refine' top_ok (n:=13) ["script","sheet","history","steps","text","middle","sizes"] ["script"] [] W.toWd ?c ?o ?d ?b ?n ?k ?e ?g ?x ?y ?z ?u ?v
 case c | o | d | b | n | k | e | g=>rfl
 case x=>kernel_rfl
 case y =>
   intro vs s X hl
   obtain ⟨a,rfl⟩:=l1 hl;exact BindsTo.of_eq rfl
 case z=>exact fun _ _=>.nil
 case u=>exact fun L fl=>(nC (nM rfl rfl rfl) nN)
 case v=>exact fun L fl =>
     (bS (bA (sLst (lC (sComp (vars:=["cell"]) (sf (sSlc (sL rfl rfl rfl) pNo_ (pYes_ sI))) rfl rfl (by decide +kernel) (fun C=>(aS (sT rfl rfl rfl))) (fun C=>tsNil) (fun C=>(sB (sC (gB W.toWd nb_abs bb_abs dC rfl rfl rfl rfl) kP (lC (sL rfl rfl rfl) lN) abs_sim) (sB sI sI)))) (lC sI lN))) (aS (sT rfl rfl rfl)) rfl rfl)
     (bS (bA (sC (gR W.toWd n__law_steps rfl rfl rfl) (kE W.inn k_563) (lC (sL rfl rfl rfl) (lC (sIte (tC (sC (gB W.toWd ng bB dC rfl rfl rfl rfl) kP (lC (sL rfl rfl rfl) lN) lI) sI) sI sI) lN)) ((s__law_steps W).c.up dC)) (aU (aO (aS (sT rfl rfl rfl)) (aO (aS (sT rfl rfl rfl)) (aO (aS (sT rfl rfl rfl)) ai)))) rfl rfl)
     (bS (bA (sC (gR W.toWd nL rfl rfl rfl) (kE W.inn k_558) (lC (sL rfl rfl rfl) (lC (sB (sC (gB W.toWd ng bB dC rfl rfl rfl rfl) kP (lC (sL rfl rfl rfl) lN) lI) sI) lN)) ((sW W).c.up dC)) (aS (sT rfl rfl rfl)) rfl rfl)
     (bS (bA (sLst (lC (sL rfl rfl rfl) (lC sI (lC (sB (sC (gB W.toWd ng bB dC rfl rfl rfl rfl) kP (lC (sL rfl rfl rfl) lN) lI) (sL rfl rfl rfl)) lN)))) (aS (sT rfl rfl rfl)) rfl rfl)
     (bS (bIf (tBool (tOr_cons (tNot (tVal (sC (gR W.toWd n__law_right rfl rfl rfl) (kE W.inn k_589) (lC (sL rfl rfl rfl) (lC (sL rfl rfl rfl) (lC (sL rfl rfl rfl) (lC (sL rfl rfl rfl) lN)))) ((s__law_right W).c.up dC)))) (tOr_nil (tNot (tVal (sC (gR W.toWd n__law_odd_right rfl rfl rfl) (kE W.inn k_603) (lC (sL rfl rfl rfl) (lC (sL rfl rfl rfl) (lC (sL rfl rfl rfl) (lC (sL rfl rfl rfl) (lC (sL rfl rfl rfl) lN))))) ((s__law_odd_right W).c.up dC))))))) (bO (bR sBool)) bN)
     (bO (bR (sC (gR W.toWd n__law_right rfl rfl rfl) (kE W.inn k_589) (lC (sL rfl rfl rfl) (lC (sL rfl rfl rfl) (lC (sL rfl rfl rfl) (lC (sL rfl rfl rfl) lN)))) ((s__law_right W).c.up dC)))))))))
end Law
namespace Law
open Mn
variable {G:GC} {F:FC} {P:Params} {mg mb:Str->Option Value}
theorem xc_of {C:Addr} {nm q:Str} {N:Addr} {bs bm:List Value} {hdct:Bool} {sn:List Str} {sub:List Value} {ab:Bool} {col:Option Bool} {dd:Option Addr} {k0 k1 k2 k3 k5:Option Value} {cd:ClassData} (W:Wk G (KK P) mg mb)
   (hKC:(KK P).lookup C=some (excClassObj nm q C N bs bm hdct sn sub ab col dd k0 k1 k2 k3 k5 "ValueError.__new__"))
   (hB:bm.contains (.type "ValueError")=true) (hA:bm.contains (.type "AttributeError")=false) (hN:bm.contains (.type "NameError")=false) (hbase:bm.contains (.type "BaseException")=true)
   (hi:findIn (KK P) (.ref C) "__init__"=some (some (.ref 36)))
   (hs:findIn (KK P) (.ref C) "__setattr__"=some (some (.builtin "object.__setattr__"))) (hc:clsIn (KK P) C=some cd) (hhd:cd.hasDict=true) (hobj:cd.mro.contains (.type "object")=true) (hr:∀ self:Value,refuseLoop self "__setattr__" cd.mro=pure ()) (ht:takerIn (KK P) C "reason"=some none):XcOK G (KK P) C where
 cls:=fun _ k=>k _ _ _ _ _ _ _ _ _ _ _ _ _ _ _ _ _ (W.inn _ _ hKC) hbase
 make:=by
   rintro A ⟨hh,g,d,t,os⟩ v E Q hdep hA0 hst heB hQ
   have X:=W.inn.keeps hst
   obtain ⟨fo,hfo⟩:∃ fo,(KK P).lookup 36=some fo:=⟨_,rfl⟩
   have hfc:fo.cls=.type "function":=by cases hfo;rfl
   refine xc_make F.excBase_ValueError hB hA hN (X _ _ hKC) (looks_findIn X hi) (X _ _ hfo) hfc ?_
   have hst':G.hB.StaysIn ((hh.push (tupObj [v])).push (xcObj C hh.objs.size)):=fun b o q=>Heap.get?_push_of_some _ (Heap.get?_push_of_some _ (hst b o q))
   have hn1:hh.get? (hh.objs.size + 1)=none:=by
     cases q:hh.get? (hh.objs.size + 1) with
     | none=>rfl
     | some o=>exact absurd (Heap.lt_size q) (Nat.not_lt.mpr (Nat.le_succ _))
   have hfd:∃ fd,fo.data=.func fd:=by cases hfo;exact⟨_,rfl⟩
   obtain ⟨fd,hfd⟩:=hfd
   have hq':∀ h' dx t1 tk,h'.get? (hh.objs.size + 1)=some { cls:=.ref C,dict:=some dx,data:=.fields #[.ref t1,.none,.none,.none,.bool false,.none] }->(∀ b o,b ≠ (hh.objs.size + 1)->((hh.push (tupObj [v])).push (xcObj C hh.objs.size)).get? b=some o->h'.get? b=some o)->Value.none=Value.none/\Q (.ref (hh.objs.size + 1)) ⟨h',g,d,tk,os⟩:=fun h' dx t1 tk h1 h2=>⟨rfl,hQ _ _ dx t1 tk hn1 h1 (fun b o q=>h2 b o (by rintro rfl;exact na hn1 q) (Heap.get?_push_of_some _ (Heap.get?_push_of_some _ q)))⟩
   have he':((hh.push (tupObj [v])).push (xcObj C hh.objs.size)).get? (hh.objs.size + 1)=some (xcObj C hh.objs.size):=by heap_get
   have hdep':(A.under (.builtin "type.__call__" ⟨[.ref C,v],[]⟩)).depth + 1 < recursionLimit:=by
     have hw:(Code.builtin "type.__call__" ⟨[.ref C,v],[]⟩).weight=1:=by unfold Code.weight;rfl
     refine (?_:A.depth + _ + 1 < _)
     rw [hw];exact hdep
   cases hfo;cases hfd
   refine' xc_init (body:=[]) (xs:=[]) (A:=A.under (.builtin "type.__call__" ⟨[.ref C,v],[]⟩)) (v:=v) (s:=⟨(hh.push (tupObj [v])).push (xcObj C hh.objs.size),g,d,t,os⟩) (Q:=fun r s'=>r=.none/\Q (.ref (hh.objs.size + 1)) s') W.toWd F.excBase_ValueError hB hst' hdep' hKC rfl rfl ?h1 ?h2 ?h3 ?h4 ?h5 ?h6 ?h7 ?h8 ?h9 ?h10 ?h11 ?h12 ?h13 dC dC (by kernel_rfl) (by rfl) dC (by rfl) (by decide +kernel) (by rfl) (by decide +kernel) hs hc hhd hobj hr ht ?hev heB he' hq'
   case h1=>rfl
   case h2=>kernel_rfl
   case h3=>exact fun s X=>binds_K X rfl rfl rfl rfl rfl
   case h4=>decide
   case h5=>rfl
   case h6=>rfl
   case h7=>rfl
   case h8=>rfl
   case h9=>rfl
   case h10=>rfl
   case h11=>rfl
   case h12=>rfl
   case h13=>decide
   case hev=>intro L;with_unfolding_all rfl
theorem x52_of (W:Wk G (KK P) mg mb):XcOK G (KK P) 52:=by
 refine' xc_of W ?a ?b ?c ?d ?e ?f ?g ?h ?i ?j ?k ?l
 case a=>rfl
 case b=>decide +kernel
 case c=>decide +kernel
 case d=>decide +kernel
 case e=>decide +kernel
 case f=>kernel_rfl
 case g=>kernel_rfl
 case h=>rfl
 case i=>rfl
 case j=>decide +kernel
 case k=>intro self;rfl
 case l=>kernel_rfl
theorem x64_of (W:Wk G (KK P) mg mb):XcOK G (KK P) 64:=by
 refine' xc_of W ?a ?b ?c ?d ?e ?f ?g ?h ?i ?j ?k ?l
 case a=>rfl
 case b=>decide +kernel
 case c=>decide +kernel
 case d=>decide +kernel
 case e=>decide +kernel
 case f=>kernel_rfl
 case g=>kernel_rfl
 case h=>rfl
 case i=>rfl
 case j=>decide +kernel
 case k=>intro self;rfl
 case l=>kernel_rfl
theorem wkl_of (W:Wk G (KK P) mg mb) (c:CodeHd G.hB 602 598):WkL G P mg mb where
 toWk:=W
 x52:=x52_of W
 x64:=x64_of W
 x52_64:=by
   refine' fun _ k=>k _ _ _ _ _ _ _ _ _ _ _ _ _ _ _ _ _ (W.inn 52 _ ?a) ?b
   case a=>rfl
   case b=>decide +kernel
 c602:=c
end Law
namespace Law
open Mn
theorem ofS {a b:String} (h:Str.ofString a=Str.ofString b):a=b:=by
 rw [Str.ofString_eq_toList,Str.ofString_eq_toList] at h
 injection h with h
 have h':=congrArg Array.toList h
 simp only at h'
 have inj:∀ (u v:List Char),u.map Char.toNat=v.map Char.toNat->u=v:=by
   intro u
   induction u with
   | nil=>intro v q;cases v with
     | nil=>rfl
     | cons=>cases q
   | cons x r ih=>intro v q;cases v with
     | nil=>cases q
     | cons y t =>
       injection q with q1 q2
       rw [ih t q2,Char.toNat_inj.mp q1]
 exact String.toList_inj.mp (inj _ _ h')
theorem post_true (as bs:List WData):Challenge.rw_pq1221_01.row.claim.post as (.bool true) bs=true:=by
 unfold OpenLaw.row
 dsimp only [RowW.claim]
 refine Bool.and_eq_true_iff.mpr ⟨by decide +kernel,?_⟩
 have h:same (WData.bool true) (WData.bool true)=true:=by decide +kernel
 simp [WTm.holds,WTm.value,h]
noncomputable def O0:Own:=fun a=>if a=598 then some (.code (.tab "_law_odd_right.<locals>.<lambda>")) else none
theorem ilist_of {hB:Heap} {O:Own} {h h₁:Heap} {P:Params} {a:Addr} {vs:List Value} {xs:List Int} (hl:h₁.IsList a vs.toArray) (hI:IntsAre vs xs) (hw:Well P h₁ (.ref a) (ofPy (.list (xs.map .int)))) (hb:∀ o,h₁.get? a=some o->o.cls=.type "list"->hB.get? a=some o):VE hB O h (.ref a) (.ilist xs):=by
 obtain ⟨o,ho,hc,n,hd⟩:=hl
 have e:∃ ds,ofPy (.list (xs.map .int))=.list ds:=⟨_,by simp only [ofPy];rfl⟩
 obtain ⟨ds,e⟩:=e
 rw [e] at hw
 cases hw with
 | list h1 h2 =>
   cases one ho h1
   rename_i us
   have q:us=vs:=by
     injection hd with q _
     exact congrArg Array.toList q
   exact .ilist (hb _ ho rfl) (q ▸ hI)
theorem join (hlaw:∀ (G:GC) (xs:List Int),xs.length<=63->c_law G [.ilist xs] O0 (fun v _=>v=.bool true) fun _ _=>False):Challenge.rw_pq1221_01.Holds:=by
 refine Hd.hd ?_
 intro w s0 s1 mg mb G Y fa o pm cd doc dV kV ho hd hcd hD hmg hg args vals as hpre hlay hrd hwl hlo
 have KX:=km_in_of Y
 have hT8:=km_tabs_of Y
 refine Ground.open G ?_
 intro T B D TE TW
 clear hd ho hcd hD
 have hT9:TabsAt [(602,598)] s1.heap:=List.forall_mem_cons.mpr ⟨⟨codeHd_of_K (c:=602) (P:=598) KX (by kernel_rfl),hT8 598 dC⟩,fun _ h=>nomatch h⟩
 let gh:=ghostOf s1.heap [(602,598)]
 have KX':(KK w.params).In gh:=ghost_K hT9 KX (by kernel_rfl)
 have Tg:gh.Ns mainGlobals mg:=ghost_ns hT9 T.g
 have Tb:gh.Ns builtinsNs mb:=ghost_ns hT9 T.b
 have Tl:gh.NoLimit:=by obtain ⟨mc,h1,h2⟩:=T.nolimit;exact⟨mc,ghost_ns hT9 h1,h2⟩
 have hsys:gh.get? sysModules ≠ none:=by
   obtain ⟨mm,⟨o,es,ep,e,_⟩,_⟩:=(T.seer (by decide +kernel)).mods
   have:=ghost_ne (tabs:=[(602,598)]) e dC
   intro q;exact na q this
 have hbm:∃ bm ob,mg "__builtins__"=some (.ref bm)/\bm ≠ builtinsNs/\bm ≠ mainGlobals/\gh.get? bm=some ob/\ob.cls=.type "module"/\ob.dict=some builtinsNs/\ob.data=.plain:=by
   obtain ⟨bm,ob,h1,h2,h3,h4,h5,h6⟩:=T.bmain
   refine ⟨bm,ob,h1,h2,?_,ghost_get hT9 h3 (fun q=>by rw [q] at h4;cases h4),h4,h5,h6⟩
   rintro rfl
   obtain ⟨o,es,ep,e,hd,_⟩:=T.g
   rw [h3] at e;cases e;rw [h6] at hd;cases hd
 have h608:nsIn (KK w.params) mainGlobals "law"=some (some (.ref 608)):=by kernel_rfl
 have h1:=mg_of KX T.g h608
 rw [show mg "law"=some (.ref fa) from hmg] at h1
 obtain rfl:fa=608:=by injection h1 with h1;injection h1
 let GG:GC:=⟨Challenge.rw_pq1221_01.row.prog,w,gh⟩
 have hc602:CodeHd gh 602 598:=(ghost_code hT9).1
 have W:WkL GG w.params mg mb:=wkl_of (G:=GG) ⟨⟨KX',Tl,Tg,Tb,fun x h=>T.builtins _ (fun q=>h (ofS q))⟩,hsys,hbm⟩ hc602
 have H0:HRel GG O0 s1.heap:=⟨fun b o e=>of_hideAll _ e,fun a mo e=>by
   unfold O0 at e
   split at e
   . rename_i h;subst h;cases e
     exact⟨hideAll_none _ dC,#[],hT8 598 dC,trivial,fun pos cv h=>by cases h⟩
   . cases e⟩
 clear hmg T B D TE TW G Y
 wrow_args hpre hlay hrd hwl hlo
 rename_i xs _ _ _ _ _ _ _ a vs _ hIL _ hW _ hInt _ hlen _
 refine s_law W callerA ⟨rfl,rfl,?r1,?r2⟩ O0 s1 [.ref a] [.ilist xs] (fun v _=>v=.bool true) _ _ H0 (.cons (ilist_of hIL hInt hW ?il) .nil) (hlaw GG xs (of_cast_le (ilt hlen))) ?post
 case r1=>decide +kernel
 case r2=>decide +kernel
 case il=>intro o ho hc;exact ghost_get hT9 ho (fun q=>by rw [q] at hc;cases hc)
 case post =>
   intro v m O' s' H' S hv hm
   subst hm
   cases hv
   have keep:∀ b o,b ≠ 598->s1.heap.get? b=some o->s'.heap.get? b=some o:=fun b o hb e=>H'.base b o (ghost_ne e (nmC hb nmN))
   have tab:∃ ps,s'.heap.get? 598=some (tabObj ps):=by
     have:=S.code 598 (.tab "_law_odd_right.<locals>.<lambda>") (by unfold O0;rw [if_pos rfl])
     obtain ⟨_,ps,q,_⟩:=H'.own _ _ this
     exact⟨ps,q⟩
   obtain ⟨ps,hP⟩:=tab
   have hold:OldK s1.heap s'.heap:=by
     refine ⟨fun b o e=>?_,fun b o e=>S.dom b o e⟩
     by_cases hb:b=598
     . subst hb
       have e0:=hT8 598 dC
       cases one e0 e
       exact .inr (.inl ⟨((hT9 (602,598) (.head _)).1.tab e0).isCodeTable,rfl,#[],ps,rfl,by rw [Array.empty_append];exact hP⟩)
     . exact .inl (keep b o hb e)
   obtain ⟨h',tk,hs⟩:=S.same
   refine ⟨.inl ⟨_,.bool true,[],rfl,fun _=>rfl,.bool true,post_true _ _,fun _=>⟨List.nodup_nil,fun a ha=>nomatch ha⟩⟩,hold,?_,.of_eq ?_⟩
   . rw [hs]
   . rw [hs];exact hg
noncomputable def Tst (t:Mn.BT) (J:LC) (O:Own) (c:Bool):Prop:=∀ (Q:Bool->Own->Prop) (E:PE),Q c O->t J O Q E
noncomputable def Evl (f:ET) (J:LC) (O:Own) (v:MV):Prop:=∀ (Q:PV) (E:PE),Q v O->f J O Q E
section
variable {t:Mn.BT} {f g:ST} {e:ET} {a:AT} {c:Bool} {v:MV} {J:LC} {O:Own} {Q:PS} {E:PE}
theorem sE (h:f J O (kSeq g Q E) E):sQ f g J O Q E:=h
theorem si (h:Q .next J O):sN J O Q E:=h
theorem sIfT (h:Tst t J O true) (k:f J O Q E):sIf t f g J O Q E:=h (fun c O'=>if c=true then f J O' Q E else g J O' Q E) E (by refine ifT rfl ?_;exact k)
theorem sIfF (h:Tst t J O false) (k:g J O Q E):sIf t f g J O Q E:=h (fun c O'=>if c=true then f J O' Q E else g J O' Q E) E (by refine ifF dC ?_;exact k)
theorem sG (h:Evl e J O v) (k:a v J O fun J' O'=>Q .next J' O'):sA e a J O Q E:=h _ _ k
theorem sRetI (h:Evl e J O v) (k:Q (.ret v) J O):sR e J O Q E:=h _ _ k
theorem sRange1 {b:ST} {i:Int} (h:Evl e J O (.int i)) (h1:-1000000<=i) (h2:i<=1000000) (k:forL a b (fun _=>True) ((upInts 0 i.toNat).map .int) J O Q E):sFor (itRange1 e) a b J O Q E:=h _ _ ⟨i,rfl,h1,h2,k⟩
end
theorem eV {k:Nat} {J:LC} {O:Own} {v:MV} (h:J k=some v):Evl (mL k) J O v:=fun _ _ hq=>⟨v,h,hq⟩
theorem tNe {e e':ET} {J:LC} {O:Own} {i j:Int} (h:Evl e J O (.int i)) (h':Evl e' J O (.int j)):Tst (bC .NotEq e e') J O (decide (i ≠ j)):=fun _ _ hq=>h _ _ (h' _ _ hq)
theorem sAsgL {e:ET} {k:Nat} {v:MV} {J:LC} {O:Own} {Q:PS} {E:PE} (h:Evl e J O v) (q:Q .next (upd J k v) O):sA e (aL k) J O Q E:=h _ _ q
theorem tOrT {s t:Mn.BT} {J:LC} {O:Own} (h:Tst s J O true):Tst (bOr s t) J O true:=fun Q E q=>h _ _ (by refine ifT rfl ?_;exact q)
theorem tOrF {s t:Mn.BT} {J:LC} {O:Own} {c:Bool} (h:Tst s J O false) (h':Tst t J O c):Tst (bOr s t) J O c:=fun Q E q=>h _ _ (by refine ifF dC ?_;exact h' _ _ q)
theorem tNot {t:Mn.BT} {J:LC} {O:Own} {c:Bool} (h:Tst t J O c):Tst (bNot t) J O (!c):=fun Q E q=>h _ _ q
section
variable {J:LC} {O:Own} {Q:LC->Own->Prop} {j k:Nat} {x y:MV}
theorem aTupRL (h:Q (upd (upd J j y) k x) O):aT 2 (fun ms=>(aC (aL j) (aC (aL k) aN)) ms.reverse) (.tup [x,y]) J O Q :=
 ⟨[x,y],rfl,rfl,⟨y,[x],rfl,⟨x,[],rfl,rfl,h⟩⟩⟩
theorem aTupL (h:Q (upd (upd J j x) k y) O):aT 2 (aC (aL j) (aC (aL k) aN)) (.tup [x,y]) J O Q :=
 ⟨[x,y],rfl,rfl,⟨x,[y],rfl,⟨y,[],rfl,rfl,h⟩⟩⟩
end
theorem evTup2 {f g:ET} {J:LC} {O:Own} {u v:MV} (hf:Evl f J O u) (hg:Evl g J O v):Evl (mU (eC f (eC g eN))) J O (.tup [u,v]):=fun Q E q=>hf _ _ (hg _ _ ⟨yl2,q⟩)
theorem evAdd {f g:ET} {J:LC} {O:Own} {u v:Int} (hf:Evl f J O (.int u)) (hg:Evl g J O (.int v)):Evl (mB .Add f g) J O (.int (u + v)):=fun Q E q=>hf _ _ (hg _ _ q)
theorem evSub {f g:ET} {J:LC} {O:Own} {u v:Int} (hf:Evl f J O (.int u)) (hg:Evl g J O (.int v)):Evl (mB .Sub f g) J O (.int (u - v)):=fun Q E q=>hf _ _ (hg _ _ q)
theorem eS {J:LC} {O:Own} {v:MV}:Evl (mC v) J O v:=fun Q E q=>q
theorem evMin {f g:ET} {J:LC} {O:Own} {u v:Int} (hf:Evl f J O (.int u)) (hg:Evl g J O (.int v)):Evl (mA (eC f (eC g eN)) cMin) J O (.int (min u v)):=fun Q E q=>hf _ _ (hg _ _ ⟨u,v,rfl,q⟩)
theorem tLt {e e':ET} {J:LC} {O:Own} {i j:Int} (h:Evl e J O (.int i)) (h':Evl e' J O (.int j)):Tst (bC .Lt e e') J O (decide (i < j)):=fun _ _ hq=>h _ _ (h' _ _ hq)
theorem tEq {e e':ET} {J:LC} {O:Own} {i j:Int} (h:Evl e J O (.int i)) (h':Evl e' J O (.int j)):Tst (bC .Eq e e') J O (decide (i=j)):=fun _ _ hq=>h _ _ (h' _ _ hq)
theorem tGt {e e':ET} {J:LC} {O:Own} {i j:Int} (h:Evl e J O (.int i)) (h':Evl e' J O (.int j)):Tst (bC .Gt e e') J O (decide (i > j)):=fun _ _ hq=>h _ _ (h' _ _ hq)
theorem evLen {f:ET} {J:LC} {O:Own} {b:List Int} (hf:Evl f J O (.bytes b)) (hy:b.length<=1000000):Evl (mA (eC f eN) cN) J O (.int (b.length:Int)):=fun Q E q=>hf _ _ ⟨_,_,rfl,rfl,hy,q⟩
theorem evLenL {f:ET} {J:LC} {O:Own} {l:Addr} {xs:List MV} (hf:Evl f J O (.ref l)) (hl:O l=some (.list xs)) (hy:xs.length<=1000000):Evl (mA (eC f eN) cN) J O (.int (xs.length:Int)):=fun Q E q=>hf _ _ ⟨_,_,rfl,lenM_ref hl rfl,hy,q⟩
theorem evLenI {f:ET} {J:LC} {O:Own} {l:Addr} {b:List Int} (hf:Evl f J O (.ref l)) (hl:O l=some (.list (b.map .int))) (hy:b.length<=1000000):Evl (mA (eC f eN) cN) J O (.int (b.length:Int)):=fun Q E q=>hf _ _ ⟨_,_,rfl,lenM_ref hl (congrArg some (List.length_map ..)),hy,q⟩
theorem evLenA {f:ET} {J:LC} {O:Own} {m:Addr} {b:List Int} (hf:Evl f J O (.ref m)) (hm:O m=some (.barr b)) (hy:b.length<=1000000):Evl (mA (eC f eN) cN) J O (.int (b.length:Int)):=fun Q E q=>hf _ _ ⟨_,_,rfl,lenM_ref hm rfl,hy,q⟩
theorem tGe {e e':ET} {J:LC} {O:Own} {i j:Int} (h:Evl e J O (.int i)) (h':Evl e' J O (.int j)):Tst (bC .GtE e e') J O (decide (i >= j)):=fun _ _ hq=>h _ _ (h' _ _ hq)
theorem tLe2 {e e' e'':ET} {J:LC} {O:Own} {i j k:Int} (h:Evl e J O (.int i)) (h':Evl e' J O (.int j)) (h'':Evl e'' J O (.int k)) (h1:i<=j):Tst (bCmp2 .LtE .LtE e e' e'') J O (decide (j<=k)):=fun Q E hq=>h _ _ (h' _ _ (by
 refine (?_:if decide (i<=j)=true then _ else _)
 rw [decide_eq_true h1,if_pos rfl]
 exact h'' _ _ hq))
theorem tLe2F {e e' e'':ET} {J:LC} {O:Own} {i j:Int} (h:Evl e J O (.int i)) (h':Evl e' J O (.int j)) (h1:j < i):Tst (bCmp2 .LtE .LtE e e' e'') J O false:=fun Q E hq=>h _ _ (h' _ _ (by
 refine (?_:if decide (i<=j)=true then _ else _)
 rw [decide_eq_false (ltg h1),if_neg Bool.false_ne_true]
 exact hq))
theorem tAndT {s t:Mn.BT} {J:LC} {O:Own} {c:Bool} (h:Tst s J O true) (h':Tst t J O c):Tst (bAnd s t) J O c:=fun Q E q=>h _ _ (by refine ifT rfl ?_;exact h' _ _ q)
theorem tAndF {s t:Mn.BT} {J:LC} {O:Own} (h:Tst s J O false):Tst (bAnd s t) J O false:=fun Q E q=>h _ _ (by refine ifF Bool.false_ne_true ?_;exact q)
theorem Tst.to {t:Mn.BT} {J:LC} {O:Own} {c d:Bool} (h:Tst t J O c) (e:c=d):Tst t J O d:=e ▸ h
theorem Evl.to {t:ET} {J:LC} {O:Own} {c d:MV} (h:Evl t J O c) (e:c=d):Evl t J O d:=e ▸ h
theorem tIsNotI {f:ET} {J:LC} {O:Own} {i:Int} (h:Evl f J O (.int i)):Tst (bC .IsNot f (mC .none)) J O true:=fun _ _ q=>h _ _ q
theorem tIsNotN {f:ET} {J:LC} {O:Own} (h:Evl f J O .none):Tst (bC .IsNot f (mC .none)) J O false:=fun _ _ q=>h _ _ q
theorem tIsI {f:ET} {J:LC} {O:Own} {i:Int} (h:Evl f J O (.int i)):Tst (bC .Is f (mC .none)) J O false:=fun _ _ q=>h _ _ q
theorem tIsN {f:ET} {J:LC} {O:Own} (h:Evl f J O .none):Tst (bC .Is f (mC .none)) J O true:=fun _ _ q=>h _ _ q
theorem sRaiseI {C:Addr} {J:LC} {O:Own} {Q:PS} {E:PE} (h:E (.ref C) O):ss C J O Q E:=h
theorem ent1 {k0:Nat} {f:Addr->ST} {ds ms:List MV} {x0:MV} {O:Own} {Q:PV} {E:PE} (e:ms ++ ds=[x0]) (h:∀ L,(∀ b,L<=b->O b=none)->f L (upd (fun _=>none) k0 x0) O (kRet Q) E):ent (fun _=>aC (aL k0) aN) 0 ds f ms O Q E:=fun L hL=>e ▸ ⟨x0,[],rfl,⟨rfl,h L hL⟩⟩
theorem ent2 {k0 k1:Nat} {f:Addr->ST} {ds ms:List MV} {x0 x1:MV} {O:Own} {Q:PV} {E:PE} (e:ms ++ ds=[x0,x1]) (h:∀ L,(∀ b,L<=b->O b=none)->f L (upd (upd (fun _=>none) k0 x0) k1 x1) O (kRet Q) E):ent (fun _=>aC (aL k0) (aC (aL k1) aN)) 0 ds f ms O Q E:=fun L hL=>e ▸ ⟨x0,[x1],rfl,⟨x1,[],rfl,⟨rfl,h L hL⟩⟩⟩
theorem entc1 {k0:Nat} {f:Addr->ST} {ds ms:List MV} {x0:MV} {O:Own} {Q:PV} {E:PE} (e:ms ++ ds=[x0]) (h:∀ L,(∀ b,L<=b->O b=none)->f L (upd (fun _=>none) k0 x0) (upd O (L + 1 + 0) (.cell none)) (kRet Q) E):ent (fun _=>aC (aL k0) aN) 1 ds f ms O Q E:=fun L hL=>e ▸ ⟨x0,[],rfl,⟨rfl,h L hL⟩⟩
theorem entc2 {k0 k1:Nat} {f:Addr->ST} {ds ms:List MV} {x0 x1:MV} {O:Own} {Q:PV} {E:PE} (e:ms ++ ds=[x0,x1]) (h:∀ L,(∀ b,L<=b->O b=none)->f L (upd (upd (fun _=>none) k0 x0) k1 x1) (upd O (L + 1 + 0) (.cell none)) (kRet Q) E):ent (fun _=>aC (aL k0) (aC (aL k1) aN)) 1 ds f ms O Q E:=fun L hL=>e ▸ ⟨x0,[x1],rfl,⟨x1,[],rfl,⟨rfl,h L hL⟩⟩⟩
theorem ent3 {k0 k1 k2:Nat} {f:Addr->ST} {ds ms:List MV} {x0 x1 x2:MV} {O:Own} {Q:PV} {E:PE} (e:ms ++ ds=[x0,x1,x2]) (h:∀ L,(∀ b,L<=b->O b=none)->f L (upd (upd (upd (fun _=>none) k0 x0) k1 x1) k2 x2) O (kRet Q) E):ent (fun _=>aC (aL k0) (aC (aL k1) (aC (aL k2) aN))) 0 ds f ms O Q E:=fun L hL=>e ▸ ⟨x0,[x1,x2],rfl,⟨x1,[x2],rfl,⟨x2,[],rfl,⟨rfl,h L hL⟩⟩⟩⟩
theorem ent4 {k0 k1 k2 k3:Nat} {f:Addr->ST} {ds ms:List MV} {x0 x1 x2 x3:MV} {O:Own} {Q:PV} {E:PE} (e:ms ++ ds=[x0,x1,x2,x3]) (h:∀ L,(∀ b,L<=b->O b=none)->f L (upd (upd (upd (upd (fun _=>none) k0 x0) k1 x1) k2 x2) k3 x3) O (kRet Q) E):ent (fun _=>aC (aL k0) (aC (aL k1) (aC (aL k2) (aC (aL k3) aN)))) 0 ds f ms O Q E:=fun L hL=>e ▸ ⟨x0,[x1,x2,x3],rfl,⟨x1,[x2,x3],rfl,⟨x2,[x3],rfl,⟨x3,[],rfl,⟨rfl,h L hL⟩⟩⟩⟩⟩
theorem ent5 {k0 k1 k2 k3 k4:Nat} {f:Addr->ST} {ds ms:List MV} {x0 x1 x2 x3 x4:MV} {O:Own} {Q:PV} {E:PE} (e:ms ++ ds=[x0,x1,x2,x3,x4]) (h:∀ L,(∀ b,L<=b->O b=none)->f L (upd (upd (upd (upd (upd (fun _=>none) k0 x0) k1 x1) k2 x2) k3 x3) k4 x4) O (kRet Q) E):ent (fun _=>aC (aL k0) (aC (aL k1) (aC (aL k2) (aC (aL k3) (aC (aL k4) aN))))) 0 ds f ms O Q E:=fun L hL=>e ▸ ⟨x0,[x1,x2,x3,x4],rfl,⟨x1,[x2,x3,x4],rfl,⟨x2,[x3,x4],rfl,⟨x3,[x4],rfl,⟨x4,[],rfl,⟨rfl,h L hL⟩⟩⟩⟩⟩⟩
theorem ent6 {k0 k1 k2 k3 k4 k5:Nat} {f:Addr->ST} {ds ms:List MV} {x0 x1 x2 x3 x4 x5:MV} {O:Own} {Q:PV} {E:PE} (e:ms ++ ds=[x0,x1,x2,x3,x4,x5]) (h:∀ L,(∀ b,L<=b->O b=none)->f L (upd (upd (upd (upd (upd (upd (fun _=>none) k0 x0) k1 x1) k2 x2) k3 x3) k4 x4) k5 x5) O (kRet Q) E):ent (fun _=>aC (aL k0) (aC (aL k1) (aC (aL k2) (aC (aL k3) (aC (aL k4) (aC (aL k5) aN)))))) 0 ds f ms O Q E:=fun L hL=>e ▸ ⟨x0,[x1,x2,x3,x4,x5],rfl,⟨x1,[x2,x3,x4,x5],rfl,⟨x2,[x3,x4,x5],rfl,⟨x3,[x4,x5],rfl,⟨x4,[x5],rfl,⟨x5,[],rfl,⟨rfl,h L hL⟩⟩⟩⟩⟩⟩⟩
theorem ent7 {k0 k1 k2 k3 k4 k5 k6:Nat} {f:Addr->ST} {ds ms:List MV} {x0 x1 x2 x3 x4 x5 x6:MV} {O:Own} {Q:PV} {E:PE} (e:ms ++ ds=[x0,x1,x2,x3,x4,x5,x6]) (h:∀ L,(∀ b,L<=b->O b=none)->f L (upd (upd (upd (upd (upd (upd (upd (fun _=>none) k0 x0) k1 x1) k2 x2) k3 x3) k4 x4) k5 x5) k6 x6) O (kRet Q) E):ent (fun _=>aC (aL k0) (aC (aL k1) (aC (aL k2) (aC (aL k3) (aC (aL k4) (aC (aL k5) (aC (aL k6) aN))))))) 0 ds f ms O Q E:=fun L hL=>e ▸ ⟨x0,[x1,x2,x3,x4,x5,x6],rfl,⟨x1,[x2,x3,x4,x5,x6],rfl,⟨x2,[x3,x4,x5,x6],rfl,⟨x3,[x4,x5,x6],rfl,⟨x4,[x5,x6],rfl,⟨x5,[x6],rfl,⟨x6,[],rfl,⟨rfl,h L hL⟩⟩⟩⟩⟩⟩⟩⟩
theorem updL (m:Nat->Option MV) (k j:Nat) (v:MV):upd m k v j=if j=k then some v else m j:=rfl
theorem aNil1 {J:LC} {O:Own} {Q:LC->Own->Prop}:aN [] J O Q=Q J O:=by simp [aN]
theorem aCons1 {a:AT} {r:ALT} {m:MV} {ms:List MV} {J:LC} {O:Own} {Q:LC->Own->Prop}:aC a r (m :: ms) J O Q=a m J O (fun J' O'=>r ms J' O' Q):=by
 apply propext;constructor
 . rintro ⟨m',ms',h,k⟩;injection h with h1 h2;subst h1 h2;exact k
 . exact fun k=>⟨_,_,rfl,k⟩
theorem aTup2 {g:ALT} {x y:MV} {J:LC} {O:Own} {Q:LC->Own->Prop}:aT 2 g (.tup [x,y]) J O Q=g [x,y] J O Q:=by
 apply propext;constructor
 . rintro ⟨ms,h,_,k⟩;injection h with h;subst h;exact k
 . exact fun k=>⟨_,rfl,rfl,k⟩
theorem aTup3 {g:ALT} {x y z:MV} {J:LC} {O:Own} {Q:LC->Own->Prop}:aT 3 g (.tup [x,y,z]) J O Q=g [x,y,z] J O Q:=by
 apply propext;constructor
 . rintro ⟨ms,h,_,k⟩;injection h with h;subst h;exact k
 . exact fun k=>⟨_,rfl,rfl,k⟩
section
variable {a b:Int} {Q:Bool->Prop} {u v:List Int} {O:Own} {R:PV}
theorem copEq:cop .Eq (.int a) (.int b) Q=Q (decide (a=b)):=rfl
theorem copNe:cop .NotEq (.int a) (.int b) Q=Q (decide (a ≠ b)):=rfl
theorem copLt:cop .Lt (.int a) (.int b) Q=Q (decide (a < b)):=rfl
theorem copLe:cop .LtE (.int a) (.int b) Q=Q (decide (a<=b)):=rfl
theorem copGt:cop .Gt (.int a) (.int b) Q=Q (decide (a > b)):=rfl
theorem copGe:cop .GtE (.int a) (.int b) Q=Q (decide (a >= b)):=rfl
theorem copEqB:cop .Eq (.bytes u) (.bytes v) Q=Q (decide (u=v)):=rfl
theorem copNeB:cop .NotEq (.bytes u) (.bytes v) Q=Q (decide (u ≠ v)):=rfl
theorem bopAdd:bop .Add (.int a) (.int b) O R=R (.int (a + b)) O:=rfl
theorem bopSub:bop .Sub (.int a) (.int b) O R=R (.int (a - b)) O:=rfl
theorem bopAddB:bop .Add (.bytes u) (.bytes v) O R=(yL (u.length + v.length)/\R (.bytes (u ++ v)) O):=propext (and_iff_right rfl)
end
noncomputable def Ext (O O':Own):Prop:=∀ a o,O a=some o->O' a=some o
theorem Ext.refl (O:Own):Ext O O:=fun _ _ h=>h
theorem Ext.trans {a b c:Own} (h:Ext a b) (k:Ext b c):Ext a c:=fun x o q=>k x o (h x o q)
theorem Ext.upd {O:Own} {r:Addr} {o:MObj} (h:O r=none):Ext O (upd O r o):=by
 intro a x q
 have:a ≠ r:=nO q h
 unfold Mn.upd;rw [if_neg this];exact q
theorem uP (O:Own) (r:Addr) (o:MObj):upd O r o r=some o:=if_pos rfl
theorem uN {O:Own} {r a:Addr} {o:MObj} (h:a ≠ r):upd O r o a=O a:=if_neg h
noncomputable abbrev St2:=List (Int × Int)
noncomputable def okA (p:Int × Int):Bool:=if p.1=0 then decide (0<=p.2/\p.2<=255) else decide (2<=p.1)
noncomputable def okD (p:Int × Int):Bool:=if p.1=0 then true else decide (1<=p.2)
noncomputable def cH (xs:St2):Option Addr:=if xs.all okA then (if xs.all okD then none else some 52) else some 64
theorem okA0 {b:Int}:okA (0,b)=decide (0<=b/\b<=255):=rfl
theorem okA1 {a b:Int} (h:a ≠ 0):okA (a,b)=decide (2<=a):=if_neg h
theorem okD1 {a b:Int} (h:a ≠ 0):okD (a,b)=decide (1<=b):=if_neg h
theorem check_loop1 (g:Own->Prop) (O:Own) (hg:g O):∀ (xs:St2) (J:LC) (Q:PS) (E:PE),
   (if xs.all okA then ∀ J':LC,J' 0=J 0->Q .next J' O else E (.ref 64) O) ->
   forL (aT 2 (aC (aL 1) (aC (aL 2) aN))) (sQ (sIf (bAnd (bC .Eq (mL 1) (mC (.int 0))) (bNot (bCmp2 .LtE .LtE (mC (.int 0)) (mL 2) (mC (.int 255))))) (ss 64) sN)
   (sIf (bAnd (bC .NotEq (mL 1) (mC (.int 0))) (bC .Lt (mL 1) (mC (.int 2)))) (ss 64) sN)) g (xs.map prM) J O Q E:=by
 intro xs
 induction xs with
 | nil=>intro J Q E h;exact⟨hg,h J rfl⟩
 | cons p r ih =>
   intro J Q E h
   obtain ⟨a,b⟩:=p
   refine ⟨hg,aTupL (x:=.int a) (y:=.int b) (sE ?_)⟩
   rw [List.all_cons] at h
   by_cases h0:a=0
   . subst h0
     rw [okA0] at h
     have t1:∀ c,Tst (bNot (bCmp2 .LtE .LtE (mC (.int 0)) (mL 2) (mC (.int 255)))) (upd (upd J 1 (.int 0)) 2 (.int b)) O c->Tst (bAnd (bC .Eq (mL 1) (mC (.int 0))) (bNot (bCmp2 .LtE .LtE (mC (.int 0)) (mL 2) (mC (.int 255))))) (upd (upd J 1 (.int 0)) 2 (.int b)) O c:=fun c t=>tAndT ((tEq (e:=mL 1) (i:=0) (j:=0) (eV rfl) eS).to rfl) t
     by_cases h2:0<=b
     . have t2:=tNot (tLe2 (O:=O) (e:=mC (.int 0)) (e':=mL 2) (e'':=mC (.int 255)) (J:=upd (upd J 1 (.int 0)) 2 (.int b)) eS (eV (k:=2) rfl) eS h2)
       by_cases h3:b<=255
       . rw [decide_eq_true h3] at t2
         rw [decide_eq_true ⟨h2,h3⟩,Bool.true_and] at h
         exact sIfF (t1 _ t2) (si (sIfF (tAndF ((tNe (e:=mL 1) (i:=0) (j:=0) (eV rfl) eS).to rfl)) (si (ih _ Q E h))))
       . rw [decide_eq_false h3] at t2
         rw [decide_eq_false (fun x=>h3 x.2)] at h
         exact sIfT (t1 _ t2) (sRaiseI h)
     . rw [decide_eq_false (fun x=>h2 x.1)] at h
       exact sIfT (t1 _ (tNot (tLe2F eS (eV (k:=2) rfl) (ile h2)))) (sRaiseI h)
   . rw [okA1 h0] at h
     refine sIfF (tAndF ((tEq (eV (k:=1) rfl) eS).to (decide_eq_false h0))) (si ?_)
     have t2:=tAndT ((tNe (O:=O) (e:=mL 1) (e':=mC (.int 0)) (J:=upd (upd J 1 (.int a)) 2 (.int b)) (eV (k:=1) rfl) eS).to (decide_eq_true h0)) (tLt (eV (k:=1) rfl) (eS (v:=.int 2)))
     by_cases h1:a < 2
     . rw [decide_eq_true h1] at t2
       rw [decide_eq_false (ltg h1)] at h
       exact sIfT t2 (sRaiseI h)
     . rw [decide_eq_false h1] at t2
       rw [decide_eq_true (ilt h1),Bool.true_and] at h
       exact sIfF t2 (si (ih _ Q E h))
theorem sFor_list {k:Nat} {l:Addr} {xs:List MV} {a:AT} {b:ST} {J:LC} {O:Own} {Q:PS} {E:PE} (hρ:J k=some (.ref l)) (hl:O l=some (.list xs)) (h:forL a b (fun O=>O l=some (.list xs)) xs J O Q E):sFor (iT (mL k)) a b J O Q E:=⟨_,hρ,l,xs,rfl,hl,h⟩
theorem check_loop2 (g:Own->Prop) (O:Own) (hg:g O):∀ (xs:St2) (J:LC) (Q:PS) (E:PE),
   (if xs.all okD then ∀ J':LC,Q .next J' O else E (.ref 52) O) ->
   forL (aT 2 (aC (aL 1) (aC (aL 2) aN))) (sIf (bAnd (bC .NotEq (mL 1) (mC (.int 0))) (bC .Lt (mL 2) (mC (.int 1)))) (ss 52) sN) g (xs.map prM) J O Q E:=by
 intro xs
 induction xs with
 | nil=>intro J Q E h;exact⟨hg,h J⟩
 | cons p r ih =>
   intro J Q E h
   obtain ⟨a,b⟩:=p
   refine ⟨hg,aTupL (x:=.int a) (y:=.int b) ?_⟩
   rw [List.all_cons] at h
   by_cases h0:a=0
   . subst h0
     exact sIfF (tAndF ((tNe (e:=mL 1) (i:=0) (j:=0) (eV rfl) eS).to rfl)) (si (ih _ Q E h))
   . rw [okD1 h0] at h
     have t2:=tAndT ((tNe (O:=O) (e:=mL 1) (e':=mC (.int 0)) (J:=upd (upd J 1 (.int a)) 2 (.int b)) (eV (k:=1) rfl) eS).to (decide_eq_true h0)) (tLt (eV (k:=2) rfl) (eS (v:=.int 1)))
     by_cases h1:b < 1
     . rw [decide_eq_true h1] at t2
       rw [decide_eq_false (ltg h1)] at h
       exact sIfT t2 (sRaiseI h)
     . rw [decide_eq_false h1] at t2
       rw [decide_eq_true (ilt h1),Bool.true_and] at h
       exact sIfF t2 (si (ih _ Q E h))
theorem c_check {l:Addr} {xs:St2} {O:Own} {Q:PV} {E:PE} (hl:O l=some (.list (xs.map prM)))
   (h:match cH xs with | none=>Q .none O | some k=>E (.ref k) O):c_check_steps [.ref l] O Q E:=by
 refine ⟨rfl,fun L _=>?_⟩
 simp only [g_check_steps,f_check_steps,List.append_nil,aCons1,aNil1,cE,aL,sQ,kSeq]
 refine sFor_list rfl hl (check_loop1 _ O hl xs _ _ _ ?_)
 unfold cH at h
 by_cases h1:xs.all okA=true
 . rw [if_pos h1] at h ⊢
   intro J' hρ
   refine sFor_list (by rw [hρ];simp [updL]) hl (check_loop2 _ O hl xs _ _ _ ?_)
   by_cases h2:xs.all okD=true
   . rw [if_pos h2] at h ⊢;exact fun _=>h
   . rw [if_neg h2] at h ⊢;exact h
 . rw [if_neg h1] at h ⊢;exact h
theorem c_size {a b:Int} {O:Own} {Q:PV} {E:PE} (h:Q (.int (if a=0 then 1 else a)) O):c_step_size [prM (a,b)] O Q E:=by
 refine ⟨rfl,ent1 rfl fun L _=>?_⟩
 have e:Evl (mI (mL 0) (mC (.int 0))) (upd (fun _=>none) 0 (prM (a,b))) O (.int a):=fun Q E q=>⟨_,rfl,_,rfl,⟨_,rfl,dC,dC⟩,q⟩
 by_cases h0:a=0
 . rw [if_pos h0] at h
   exact sRetI (fun Q E q=>tEq e eS _ _ (ifT (decide_eq_true h0) q)) h
 . rw [if_neg h0] at h
   exact sRetI (fun Q E q=>tEq e eS _ _ (ifF (fun x=>h0 (of_decide_eq_true x)) (e _ _ q))) h
theorem c_range {b:List Int} {s m:Int} {O:Own} {Q:PV} {E:PE} (hb:yL b.length) (h0:0<=s) (h1:s<=b.length) (h2:0<=m) (h:Q .none O):c_check_range [.bytes b,.int s,.int m] O Q E:=by
 refine ⟨rfl,ent3 rfl fun L _=>?_⟩
 exact sE (sIfF (tNot ((tLe2 eS (eV rfl) (evLen (eV rfl) hb) h0).to (decide_eq_true h1))) (sIfF ((tLt (eV rfl) eS).to (decide_eq_false (leg h2))) h))
theorem uU {O:Own} {m:Addr} {x y:MObj}:upd (upd O m x) m y=upd O m y:=by
 funext a;unfold upd;split <;> rfl
theorem uD {J:LC} {k j:Nat} {v:MV} (h:j ≠ k):upd J k v j=J j:=if_neg h
theorem uL {J:LC} {k:Nat} {v:MV}:upd J k v k=some v:=if_pos rfl
theorem aI {k:Nat} {m:MV} {J:LC} {O:Own} {Q:LC->Own->Prop} (h:Q (upd J k m) O):aL k m J O Q:=h
theorem sBApp {k:Nat} {m:Addr} {b:List Int} {f:ET} {i:Int} {J:LC} {O:Own} {Q:PS} {E:PE} (hρ:J k=some (.ref m)) (hm:O m=some (.barr b)) (hf:∀ Q':PV,Q' (.int i) O->f J O Q' E)
   (h0:0<=i) (h1:i < 256) (hy:yL b.length) (h:Q .next J (upd O m (.barr (b ++ [i])))):sX (mM isB (mL k) (eC f eN) cBApp) J O Q E :=
 ⟨_,hρ,⟨m,b,rfl,hm⟩,hf _ ⟨m,b,i,rfl,hm,h0,h1,hy,rfl,h⟩⟩
noncomputable def copyN (s:Nat):Nat->List Int->List Int
 | 0,b=>b
 | n + 1,b=>copyN s n (b ++ [b.getD (b.length - s) 0])
theorem copyN_n {s:Nat} {b:List Int}:copyN s 0 b=b:=rfl
theorem copyN_c {s n:Nat} {b:List Int}:copyN s (n + 1) b=copyN s n (b ++ [b.getD (b.length - s) 0]):=rfl
theorem copyN_len (s:Nat):∀ (n:Nat) (b:List Int),(copyN s n b).length=b.length + n
 | 0,b=>rfl
 | n + 1,b=>by rw [copyN_c,copyN_len s n,List.length_append,List.length_singleton];lia
noncomputable def unp:St2->List Int->Option (List Int)
 | [],b=>some b
 | (f,s) :: r,b=>if f=0 then unp r (b ++ [s]) else if 1<=s/\s<=b.length then unp r (copyN s.toNat f.toNat b) else none
theorem unp_n {b:List Int}:unp [] b=some b:=rfl
theorem unp_c {f s:Int} {r:St2} {b:List Int}:unp ((f,s) :: r) b=if f=0 then unp r (b ++ [s]) else if 1<=s/\s<=b.length then unp r (copyN s.toNat f.toNat b) else none:=rfl
noncomputable def stSz (p:Int × Int):Nat:=if p.1=0 then 1 else p.1.toNat
noncomputable def sz (xs:St2):Nat:=(xs.map stSz).sum
theorem oct_app {b:List Int} {i:Int} (h:oct? b) (h0:0<=i) (h1:i < 256):oct? (b ++ [i]):=by
 intro j hj
 rcases List.mem_append.mp hj with h' | h'
 . exact h j h'
 . rw [List.mem_singleton.mp h'];exact⟨h0,h1⟩
theorem oct_getD {b:List Int} (h:oct? b) (k:Nat):0<=b.getD k 0/\b.getD k 0 < 256:=by
 rw [List.getD_eq_getElem?_getD]
 cases q:b[k]? with
 | none=>simp
 | some x=>exact h x (List.mem_of_getElem? q)
theorem oct_copy (s:Nat):∀ (n:Nat) (b:List Int),oct? b->oct? (copyN s n b)
 | 0,b,h=>h
 | n + 1,b,h=>oct_copy s n _ (oct_app h (oct_getD h _).1 (oct_getD h _).2)
theorem unp_inner (m:Addr) (s:Int) (O:Own):∀ (xs:List MV) (J:LC) (b:List Int) (Q:PS) (E:PE),
   J 2=some (.ref m)->J 4=some (.int s)->1<=s->s<=b.length->b.length + xs.length<=1000000->oct? b ->
   (∀ J':LC,(∀ k,k ≠ 5->J' k=J k)->Q .next J' (upd O m (.barr (copyN s.toNat xs.length b)))) ->
   forL (aL 5) (sX (mM isB (mL 2) (eC (mBIdx (mL 2) (mB .Sub (mA (eC (mL 2) eN) cN) (mL 4))) eN) cBApp)) (fun _=>True) xs J (upd O m (.barr b)) Q E:=by
 intro xs
 induction xs with
 | nil=>intro J b Q E h2 h4 h1 hs hl ho h;exact⟨trivial,h J fun _ _=>rfl⟩
 | cons x r ih =>
   intro J b Q E h2 h4 h1 hs hl ho h
   have hl':b.length + (r.length + 1)<=1000000:=hl
   refine ⟨trivial,?_⟩
   have hi:b[((b.length:Int) - s).toNat]?=some (b.getD (b.length - s.toNat) 0):=by
     have:((b.length:Int) - s).toNat=b.length - s.toNat:=toNat_lsub (idn h1)
     rw [this,List.getD_eq_getElem?_getD,List.getElem?_eq_getElem (subt_lt h1 hs)];rfl
   have e2:upd J 5 x 2=some (.ref m):=by rw [uD dC];exact h2
   have e4:upd J 5 x 4=some (.int s):=by rw [uD dC];exact h4
   refine aI ?_
   refine sBApp (i:=b.getD (b.length - s.toNat) 0) e2 (uP _ _ _) (fun Q' hq=>?_) (oct_getD ho _).1 (oct_getD ho _).2 (by unfold yL;exact le_sum hl) ?_
   . refine ⟨_,e2,_,e2,⟨.ref m,b.length,rfl,lenM_ref (uP _ _ _) rfl,by unfold yL;exact le_sum hl,_,e4,m,b,(b.length:Int) - s,_,rfl,rfl,uP _ _ _,(Int.sub_nonneg_of_le hs),by lia,hi,hq⟩⟩
   . rw [uU]
     refine ih (upd J 5 x) _ Q E (by rw [uD dC];exact h2) (by rw [uD dC];exact h4) h1 (by rw [List.length_append];simp;exact Int.le_of_lt (Int.lt_add_one_of_le hs)) (by rw [List.length_append];simp;lia) (oct_app ho (oct_getD ho _).1 (oct_getD ho _).2) fun J' hρ=>h J' fun k hk=>?_
     rw [hρ k hk,uD hk]
theorem uI (a:Int) (n:Nat):(upInts a n).length=n:=by simp [upInts]
noncomputable def unpBody:ST:=(sQ (sIf (bC .Eq (mL 3) (mC (.int 0))) (sQ (sX (mM isB (mL 2) (eC (mL 4) eN) cBApp))
   (sFlow .cont)) sN)
   (sQ (sIf (bNot (bCmp2 .LtE .LtE (mC (.int 1)) (mL 4) (mA (eC (mL 2) eN) cN))) (ss 52) sN)
   (sFor (itRange1 (mL 3)) (aL 5) (sX (mM isB (mL 2) (eC (mBIdx (mL 2) (mB .Sub (mA (eC (mL 2) eN) cN) (mL 4))) eN) cBApp)))))
theorem unp_loop (m:Addr) (O:Own) (g:Own->Prop) (hg:∀ o,g (upd O m o)):∀ (xs:St2) (J:LC) (b:List Int) (Q:PS) (E:PE),
   J 2=some (.ref m)->xs.all okA=true->b.length + sz xs<=1000000->oct? b ->
   (match unp xs b with
     | some b'=>∀ J':LC,(∀ k,k < 3->J' k=J k)->oct? b'->b'.length=b.length + sz xs->Q .next J' (upd O m (.barr b'))
     | none=>∀ o,E (.ref 52) (upd O m o)) ->
   forL (aT 2 (aC (aL 3) (aC (aL 4) aN))) unpBody g (xs.map prM) J (upd O m (.barr b)) Q E:=by
 intro xs
 induction xs with
 | nil=>intro J b Q E h2 hx hl ho h;exact⟨hg _,h J (fun _ _=>rfl) ho rfl⟩
 | cons p r ih =>
   intro J b Q E h2 hx hl ho h
   obtain ⟨a,d⟩:=p
   rw [List.all_cons,Bool.and_eq_true] at hx
   obtain ⟨hx1,hx2⟩:=hx
   have hsz:sz ((a,d) :: r)=stSz (a,d) + sz r:=by simp [sz]
   rw [hsz] at hl
   rw [List.map_cons]
   refine ⟨hg _,aTupL ?_⟩
   generalize hρ':upd (upd J 3 (.int a)) 4 (.int d)=J'
   have e2:J' 2=some (.ref m):=(congrFun hρ' _).symm.trans (by rw [uD dC,uD dC];exact h2)
   have e3:J' 3=some (.int a):=(congrFun hρ' _).symm.trans (by rw [uD dC];exact uL)
   have e4:J' 4=some (.int d):=(congrFun hρ' _).symm.trans uL
   have eq:∀ k,k < 3->J' k=J k:=by
     intro k hk;subst hρ';rw [uD (lT hk),uD (lT hk)]
   have em:upd O m (.barr b) m=some (.barr b):=uP _ _ _
   refine sE ?_
   by_cases h0:a=0
   . subst h0
     have hd:0<=d/\d<=255:=of_decide_eq_true hx1
     refine sIfT ((tEq (eV e3) eS).to rfl) (sE ?_)
     have hs:stSz (0,d)=1:=rfl
     rw [hs] at hl hsz
     refine sBApp (i:=d) e2 em (fun Q' hq=>⟨_,e4,hq⟩) hd.1 (illt hd.2) (by unfold yL;exact le_sum hl) ?_
     rw [uU]
     refine ih J' _ Q E e2 hx2 (by rw [List.length_append,List.length_singleton];lia) (oct_app ho hd.1 (illt hd.2)) ?_
     rw [unp_c,if_pos rfl] at h
     split
     . rename_i b' hb
       rw [hb] at h
       exact fun J'' hk ho' hl'=>h J'' (fun k hk'=>(hk k hk').trans (eq k hk')) ho' (by rw [hl',List.length_append,List.length_singleton,hsz];lia)
     . rename_i hb
       rw [hb] at h
       exact h
   . have ha:2<=a:=of_decide_eq_true ((okA1 h0).symm.trans hx1)
     have hs:stSz (a,d)=a.toNat:=if_neg h0
     rw [hs] at hl hsz
     refine sIfF ((tEq (eV e3) eS).to (decide_eq_false h0)) ?_
     refine si ?_
     refine sE ?_
     rw [unp_c,if_neg h0] at h
     have hy:yL b.length:=by unfold yL;exact le_sum hl
     by_cases hd:1<=d/\d<=b.length
     . rw [if_pos hd] at h
       refine sIfF ((tNot (tLe2 eS (eV e4) (evLenA (eV e2) em hy) hd.1)).to (congrArg not (decide_eq_true hd.2))) ?_
       refine si ?_
       refine sRange1 (i:=a) (eV e3) (idn ha) (by lia) ?_
       refine unp_inner m d O _ J' b _ E e2 e4 hd.1 hd.2 (by rw [List.length_map,uI];lia) ho fun J'' hk=>?_
       rw [List.length_map,uI]
       refine ih J'' _ Q E ((hk 2 dC).trans e2) hx2 (by rw [copyN_len];lia) (oct_copy _ _ _ ho) ?_
       split
       . rename_i b' hb
         rw [hb] at h
         exact fun J3 hk' ho' hl'=>h J3 (fun k hk2=>(hk' k hk2).trans ((hk k (lT hk2)).trans (eq k hk2))) ho' (by rw [hl',copyN_len,hsz];lia)
       . rename_i hb
         rw [hb] at h
         exact h
     . rw [if_neg hd] at h
       by_cases h1:1<=d
       . have h2':¬ d<=b.length:=fun q=>hd ⟨h1,q⟩
         refine sIfT ((tNot (tLe2 eS (eV e4) (evLenA (eV e2) em hy) h1)).to (congrArg not (decide_eq_false h2'))) ?_
         exact h _
       . refine sIfT (tNot (tLe2F eS (eV e4) (ile h1))) ?_
         exact h _
theorem clip_in {n:Nat} {i:Int} (h0:0<=i) (h1:i<=n):clipAt n i=i.toNat:=by
 unfold clipAt
 rw [if_neg (leg h0)]
 congr 1;lia
theorem cut_from {b:List Int} {k:Nat} (h:k<=b.length):cutM b (some (k:Int)) none=b.drop k:=by
 unfold cutM
 simp only [Option.elim]
 rw [clip_in (Int.natCast_nonneg _) (cast_le h),Int.toNat_natCast]
 exact List.take_of_length_le (by rw [List.length_drop];exact Nat.le_refl _)
noncomputable def unpE (xs:St2) (hb:List Int):Except Addr (List Int):=match cH xs with
 | some k=>.error k
 | none=>match unp xs hb with
   | none=>.error 52
   | some b=>.ok (b.drop hb.length)
theorem c_unp {l:Addr} {xs:St2} {hb:List Int} {O:Own} {Q:PV} {E:PE} (hl:O l=some (.list (xs.map prM))) (ho:oct? hb) (hy:hb.length + sz xs<=1000000)
   (hQ:∀ b O',unpE xs hb=.ok b->Ext O O'->Q (.bytes b) O') (hE:∀ k O',unpE xs hb=.error k->Ext O O'->E (.ref k) O'):c_unparse [.ref l,.bytes hb] O Q E:=by
 refine ⟨rfl,ent2 rfl fun L _=>?_⟩
 generalize hρ:upd (upd (fun _=>none) 0 (MV.ref l)) 1 (MV.bytes hb)=J
 have e0:J 0=some (.ref l):=(congrFun hρ _).symm
 have e1:J 1=some (.bytes hb):=(congrFun hρ _).symm
 unfold f_unparse
 refine sE ?_
 refine ⟨_,e0,c_check hl ?_⟩
 cases hc:cH xs with
 | some k=>exact hE k O (by unfold unpE;rw [hc]) (.refl O)
 | none =>
   refine ⟨rfl,?_⟩
   refine sE ?_
   refine ⟨_,e1,.inr ⟨hb,rfl,by unfold yL;exact le_sum hy,fun m hm=>?_⟩⟩
   refine aI ?_
   have hml:l ≠ m:=nO hl hm
   have f0:upd J 2 (.ref m) 0=some (.ref l):=by rw [uD dC];exact e0
   have f1:upd J 2 (.ref m) 1=some (.bytes hb):=by rw [uD dC];exact e1
   have hA:xs.all okA=true:=by
     unfold cH at hc
     by_cases q:xs.all okA=true
     . exact q
     . rw [if_neg q] at hc;cases hc
   refine sE ?_
   refine sFor_list f0 (by rw [uN hml];exact hl) ?_
   refine unp_loop m O _ (fun o=>by rw [uN hml];exact hl) xs _ hb _ E uL hA hy ho ?_
   have x1:Ext O (upd O m (.barr hb)):=.upd hm
   cases hu:unp xs hb with
   | none=>exact fun o=>hE 52 _ (by unfold unpE;rw [hc];dsimp only;rw [hu]) (.upd hm)
   | some b =>
     intro J' hk ho' hl'
     have g2:J' 2=some (.ref m):=(hk 2 dC).trans uL
     have g1:J' 1=some (.bytes hb):=(hk 1 dC).trans f1
     refine ⟨_,g2,_,g1,.bytes hb,hb.length,rfl,rfl,by unfold yL;exact le_sum hy,m,b,hb.length,rfl,rfl,uP _ _ _,by unfold yL;lia,fun r hr=>?_⟩
     refine ⟨.ref r,rfl,.inl ⟨_,uP _ _ _,?_,?_⟩⟩
     . rw [cut_from (by lia)];unfold yL;rw [List.length_drop];lia
     . rw [cut_from (by lia)]
       exact hQ _ _ (by unfold unpE;rw [hc];dsimp only;rw [hu]) (Ext.trans (.upd hm) (.upd hr))
theorem upInts_succ (a:Int) (n:Nat):upInts a (n + 1)=a :: upInts (a + 1) n:=by
 unfold upInts
 rw [List.range_succ_eq_map,List.map_cons,List.map_map]
 simp only [Int.natCast_zero,Int.add_zero,List.cons.injEq,true_and]
 refine List.map_congr_left fun i _=>?_
 simp only [Function.comp_apply]
 lia
theorem pick_in {α:Type} {b:List α} {i:Int} {x:α} (h0:0<=i) (h:b[i.toNat]?=some x):pick b i=some x:=by
 unfold pick;rw [if_pos h0];exact h
theorem some_getD {b:List Int} {i:Nat} (h:i < b.length):b[i]?=some (b.getD i 0):=by
 rw [List.getD_eq_getElem?_getD,List.getElem?_eq_getElem h];rfl
theorem evIdxB {f g:ET} {J:LC} {O:Own} {b:List Int} {i:Int} (hf:Evl f J O (.bytes b)) (hg:Evl g J O (.int i)) (h0:0<=i) (h1:i < b.length) (hy:b.length<=1000000):Evl (mI f g) J O (.int (b.getD i.toNat 0)):=by
 intro Q E hq
 refine hf _ _ (hg _ _ ⟨_,?_,⟨i,rfl,(idn h0),by lia⟩,hq⟩)
 refine (?_:(if 0<=i then (b[i.toNat]?).map MV.int else none)=_)
 rw [if_pos h0,some_getD (toNat_lt h0 h1)];rfl
section
variable {a:AT} {b:ST} {e e':ET} {J:LC} {O:Own} {Q:PS} {E:PE}
theorem sRange2 {i j:Int} (h:Evl e J O (.int i)) (h':Evl e' J O (.int j)) (h1:-1000000<=i) (h2:i<=1000000) (h3:-1000000<=j) (h4:j<=1000000) (k:forL a b (fun _=>True) ((upInts i (j - i).toNat).map .int) J O Q E):sFor (itRange2 e e') a b J O Q E:=h _ _ (h' _ _ ⟨i,j,rfl,rfl,h1,h2,h3,h4,k⟩)
end
noncomputable def matchR (b:List Int) (d:Nat):Nat->Nat->Bool
 | 0,_=>true
 | n + 1,p=>decide (b.getD p 0=b.getD (p - d) 0) && matchR b d n (p + 1)
theorem matchR_n {b:List Int} {d p:Nat}:matchR b d 0 p=true:=rfl
theorem matchR_c {b:List Int} {d n p:Nat}:matchR b d (n + 1) p=(decide (b.getD p 0=b.getD (p - d) 0) && matchR b d n (p + 1)):=rfl
noncomputable def isMR (b:List Int) (p n d:Int):Bool:=if p + n > b.length \/ ¬ (1<=d/\d<=p) then false else matchR b d.toNat n.toNat p.toNat
theorem mr_loop (b:List Int) (d:Int) (hy:b.length<=1000000) (h1:1<=d) (O:Own):∀ (n:Nat) (p:Int) (J:LC) (Q:PS) (E:PE),
   J 0=some (.bytes b)->J 3=some (.int d)->d<=p->p + n<=b.length ->
   (if matchR b d.toNat n p.toNat then ∀ J',Q .next J' O else ∀ J',Q (.ret (.bool false)) J' O) ->
   forL (aL 4) (sIf (bC .NotEq (mI (mL 0) (mL 4)) (mI (mL 0) (mB .Sub (mL 4) (mL 3)))) (sR (mC (.bool false))) sN) (fun _=>True) ((upInts p n).map .int) J O Q E:=by
 intro n
 induction n with
 | zero=>intro p J Q E e0 e3 hd hp h;exact⟨trivial,by simpa [matchR_n] using h J⟩
 | succ n ih =>
   intro p J Q E e0 e3 hd hp h
   rw [upInts_succ]
   rw [List.map_cons]
   refine ⟨trivial,aI ?_⟩
   generalize hρ':upd J 4 (.int p)=J'
   have f0:J' 0=some (.bytes b):=(congrFun hρ' _).symm.trans (by rw [uD dC];exact e0)
   have f3:J' 3=some (.int d):=(congrFun hρ' _).symm.trans (by rw [uD dC];exact e3)
   have f4:J' 4=some (.int p):=(congrFun hρ' _).symm.trans uL
   have ht:=tNe (O:=O) (evIdxB (eV f0) (eV f4) (by lia) (by lia) hy) (evIdxB (g:=mB .Sub (mL 4) (mL 3)) (i:=p - d) (eV f0) (evSub (eV f4) (eV f3)) (Int.sub_nonneg_of_le hd) (by lia) hy)
   have hpd:(p - d).toNat=p.toNat - d.toNat:=toNat_sub (idn h1) hd
   have hp1:(p + 1).toNat=p.toNat + 1:=by lia
   rw [matchR_c] at h
   rw [hpd] at ht
   by_cases hx:b.getD p.toNat 0=b.getD (p.toNat - d.toNat) 0
   . rw [decide_eq_false (fun q=>q hx)] at ht
     rw [decide_eq_true hx,Bool.true_and] at h
     refine sIfF ht ?_
     exact ih (p + 1) J' Q E f0 f3 (Int.le_of_lt (Int.lt_add_one_of_le hd)) (by lia) (by rw [hp1];exact h)
   . rw [decide_eq_true hx] at ht
     rw [decide_eq_false hx,Bool.false_and] at h
     exact sIfT ht (h _)
theorem c_mr {b:List Int} {p n d:Int} {O:Own} {Q:PV} {E:PE} (hy:b.length<=1000000) (hp:0<=p) (hn:0<=n)
   (h:Q (.bool (isMR b p n d)) O):c_is_match_right [.bytes b,.int p,.int n,.int d] O Q E:=by
 refine ⟨rfl,ent4 rfl fun L _=>?_⟩
 generalize hρ:upd (upd (upd (upd (fun _=>none) 0 (MV.bytes b)) 1 (MV.int p)) 2 (MV.int n)) 3 (MV.int d)=J
 have e0:J 0=some (.bytes b):=by subst hρ;simp [updL]
 have e1:J 1=some (.int p):=by subst hρ;simp [updL]
 have e2:J 2=some (.int n):=by subst hρ;simp [updL]
 have e3:J 3=some (.int d):=by subst hρ;simp [updL]
 have tg:=tGt (O:=O) (evAdd (eV e1) (eV e2)) (evLen (eV e0) hy)
 unfold f_is_match_right
 refine sE ?_
 unfold isMR at h
 by_cases h1:p + n > b.length
 . rw [if_pos (.inl h1)] at h
   refine sIfT (tOrT (tg.to (decide_eq_true h1))) ?_
   exact h
 . by_cases h2:1<=d
   . by_cases h3:d<=p
     . rw [if_neg (fun q=>q.elim h1 fun q=>q ⟨h2,h3⟩)] at h
       refine sIfF (tOrF (tg.to (decide_eq_false h1)) ((tNot (tLe2 eS (eV e3) (eV e1) h2)).to (congrArg not (decide_eq_true h3)))) ?_
       refine si ?_
       refine sE ?_
       refine sRange2 (i:=p) (j:=p + n) (eV e1) (evAdd (eV e1) (eV e2)) (idn hp) (by lia) (by lia) (by lia) ?_
       have:(p + n - p).toNat=n.toNat:=by rw [Int.add_comm,Int.add_sub_cancel]
       rw [this]
       refine mr_loop b d hy h2 O n.toNat p J _ E e0 e3 h3 (by lia) ?_
       split
       . rename_i hm;rw [hm] at h;exact fun J'=>h
       . rename_i hm;rw [Bool.not_eq_true] at hm;rw [hm] at h;exact fun J'=>h
     . rw [if_pos (.inr fun q=>h3 q.2)] at h
       refine sIfT (tOrF (tg.to (decide_eq_false h1)) ((tNot (tLe2 eS (eV e3) (eV e1) h2)).to (congrArg not (decide_eq_false h3)))) ?_
       exact h
   . rw [if_pos (.inr fun q=>h2 q.1)] at h
     refine sIfT (tOrF (tg.to (decide_eq_false h1)) (tNot (tLe2F eS (eV e3) (ile h2)))) ?_
     exact h
theorem copIsN {Q:Bool->Prop}:cop .Is .none .none Q=Q true:=rfl
theorem copIsI {Q:Bool->Prop} {i:Int}:cop .Is (.int i) .none Q=Q false:=rfl
theorem copIsNotN {Q:Bool->Prop}:cop .IsNot .none .none Q=Q false:=rfl
theorem copIsNotI {Q:Bool->Prop} {i:Int}:cop .IsNot (.int i) .none Q=Q true:=rfl
noncomputable def fitEnd (b:List Int):St2->Int->Option Int
 | [],p=>some p
 | (f,s) :: r,p=>if f=0 then (if p >= b.length \/ b.getD p.toNat 0 ≠ s then none else fitEnd b r (p + 1)) else if f < 2 then none else if isMR b p f s then fitEnd b r (p + f) else none
theorem fitEnd_n {b:List Int} {p:Int}:fitEnd b [] p=some p:=rfl
theorem fitEnd_cons {b:List Int} {f s:Int} {r:St2} {p:Int}:fitEnd b ((f,s) :: r) p=if f=0 then (if p >= b.length \/ b.getD p.toNat 0 ≠ s then none else fitEnd b r (p + 1)) else if f < 2 then none else if isMR b p f s then fitEnd b r (p + f) else none:=rfl
noncomputable def fitP (b:List Int) (xs:St2) (p:Int):Bool:=match fitEnd b xs p with
 | some q=>decide (q=b.length)
 | none=>false
noncomputable def fitBody:ST:=(sQ (sIf (bC .Eq (mL 7) (mC (.int 0))) (sQ (sIf (bOr (bC .GtE (mL 6) (mA (eC (mL 1) eN) cN)) (bC .NotEq (mI (mL 1) (mL 6)) (mL 8))) (sR (mC (.bool false))) sN)
   (sQ (sA (mB .Add (mL 6) (mC (.int 1))) (aL 6))
   (sFlow .cont))) sN)
   (sQ (sIf (bOr (bC .Lt (mL 7) (mL 3)) (bOr (bAnd (bC .IsNot (mL 4) (mC .none)) (bC .Gt (mL 7) (mL 4))) (bAnd (bC .IsNot (mL 5) (mC .none)) (bC .Gt (mL 8) (mL 5))))) (sR (mC (.bool false))) sN)
   (sQ (sIf (bNot (bVal (mA (eC (mL 1) (eC (mL 6) (eC (mL 7) (eC (mL 8) eN)))) c_is_match_right))) (sR (mC (.bool false))) sN)
   (sA (mB .Add (mL 6) (mL 7)) (aL 6)))))
theorem fit_loop (b:List Int) (hy:b.length<=1000000) (O:Own) (g:Own->Prop) (hg:g O):∀ (xs:St2) (p:Int) (J:LC) (Q:PS) (E:PE),
   J 1=some (.bytes b)->J 3=some (.int 2)->J 4=some .none->J 5=some .none->J 6=some (.int p)->0<=p->p<=b.length ->
   (match fitEnd b xs p with
     | some q=>∀ J':LC,J' 1=some (.bytes b)->J' 6=some (.int q)->Q .next J' O
     | none=>∀ J',Q (.ret (.bool false)) J' O) ->
   forL (aT 2 (aC (aL 7) (aC (aL 8) aN))) fitBody g (xs.map prM) J O Q E:=by
 intro xs
 induction xs with
 | nil=>intro p J Q E e1 e3 e4 e5 e6 h0 hp h;exact⟨hg,h J e1 e6⟩
 | cons x r ih =>
   intro p J Q E e1 e3 e4 e5 e6 h0 hp h
   obtain ⟨a,d⟩:=x
   rw [List.map_cons]
   refine ⟨hg,aTupL ?_⟩
   generalize hρ':upd (upd J 7 (.int a)) 8 (.int d)=J'
   have f1:J' 1=some (.bytes b):=(congrFun hρ' _).symm.trans (by rw [uD dC,uD dC];exact e1)
   have f3:J' 3=some (.int 2):=(congrFun hρ' _).symm.trans (by rw [uD dC,uD dC];exact e3)
   have f4:J' 4=some .none:=(congrFun hρ' _).symm.trans (by rw [uD dC,uD dC];exact e4)
   have f5:J' 5=some .none:=(congrFun hρ' _).symm.trans (by rw [uD dC,uD dC];exact e5)
   have f6:J' 6=some (.int p):=(congrFun hρ' _).symm.trans (by rw [uD dC,uD dC];exact e6)
   have f7:J' 7=some (.int a):=(congrFun hρ' _).symm.trans (by rw [uD dC];exact uL)
   have f8:J' 8=some (.int d):=(congrFun hρ' _).symm.trans uL
   have hy':yL b.length:=hy
   rw [fitEnd_cons] at h
   refine sE ?_
   have again:∀ i:Int,0<=i->i<=b.length->(match fitEnd b r i with
     | some q=>∀ J':LC,J' 1=some (.bytes b)->J' 6=some (.int q)->Q .next J' O
     | none=>∀ J',Q (.ret (.bool false)) J' O)->forL (aT 2 (aC (aL 7) (aC (aL 8) aN))) fitBody g (r.map prM) (upd J' 6 (.int i)) O Q E:=fun i h1 h2 hh =>
     ih i _ Q E (by rw [uD dC];exact f1) (by rw [uD dC];exact f3) (by rw [uD dC];exact f4) (by rw [uD dC];exact f5) uL h1 h2 hh
   by_cases ha:a=0
   . rw [if_pos ha] at h
     refine sIfT ((tEq (eV f7) eS).to (decide_eq_true ha)) (sE ?_)
     by_cases hp1:p >= b.length
     . rw [if_pos (.inl hp1)] at h
       refine sIfT (tOrT ((tGe (eV f6) (evLen (eV f1) hy)).to (decide_eq_true hp1))) ?_
       exact h _
     . have t1:Tst (bC .GtE (mL 6) (mA (eC (mL 1) eN) cN)) J' O false:=(tGe (eV f6) (evLen (eV f1) hy)).to (decide_eq_false hp1)
       have t2:=tNe (O:=O) (evIdxB (eV f1) (eV f6) h0 (ile hp1) hy) (eV f8)
       by_cases hx:b.getD p.toNat 0 ≠ d
       . rw [if_pos (.inr hx)] at h
         rw [decide_eq_true hx] at t2
         refine sIfT (tOrF t1 t2) ?_
         exact h _
       . rw [if_neg (fun q=>q.elim hp1 hx)] at h
         rw [decide_eq_false hx] at t2
         refine sIfF (tOrF t1 t2) ?_
         refine si ?_
         refine sE (sAsgL (v:=.int (p + 1)) (evAdd (eV f6) eS) ?_)
         exact again (p + 1) (Int.add_nonneg h0 dC) (Int.add_one_le_of_lt (ile hp1)) h
   . rw [if_neg ha] at h
     refine sIfF ((tEq (eV f7) eS).to (decide_eq_false ha)) ?_
     refine si ?_
     refine sE ?_
     by_cases h2:a < 2
     . rw [if_pos h2] at h
       refine sIfT (tOrT ((tLt (eV f7) (eV f3)).to (decide_eq_true h2))) ?_
       exact h _
     . rw [if_neg h2] at h
       refine sIfF (tOrF ((tLt (eV f7) (eV f3)).to (decide_eq_false h2)) (tOrF (tAndF (tIsNotN (eV f4))) (tAndF (tIsNotN (eV f5))))) ?_
       refine si ?_
       refine sE ?_
       have tm:Tst (bVal (mA (eC (mL 1) (eC (mL 6) (eC (mL 7) (eC (mL 8) eN)))) c_is_match_right)) J' O (isMR b p a d):=fun Q' E' hq =>
         ⟨_,f1,_,f6,_,f7,_,f8,c_mr hy h0 (by lia) ⟨_,rfl,hq⟩⟩
       by_cases hm:isMR b p a d=true
       . rw [if_pos hm] at h
         rw [hm] at tm
         refine sIfF (tNot tm) ?_
         refine si ?_
         refine sAsgL (v:=.int (p + a)) (evAdd (eV f6) (eV f7)) ?_
         refine again (p + a) (by lia) ?_ h
         unfold isMR at hm
         split at hm
         . cases hm
         . lia
       . rw [if_neg hm] at h
         rw [Bool.not_eq_true] at hm
         rw [hm] at tm
         refine sIfT (tNot tm) ?_
         exact h _
theorem c_fit {l:Addr} {xs:St2} {b:List Int} {p:Int} {O:Own} {Q:PV} {E:PE} (hl:O l=some (.list (xs.map prM))) (hy:b.length<=1000000) (hp:p<=b.length)
   (h:if p < 0 then E (.ref 64) O else Q (.bool (fitP b xs p)) O):c_fits [.ref l,.bytes b,.int p] O Q E:=by
 refine ⟨rfl,ent6 rfl fun L _=>?_⟩
 generalize hρ:upd (upd (upd (upd (upd (upd (fun _=>none) 0 (MV.ref l)) 1 (MV.bytes b)) 2 (MV.int p)) 3 (MV.int 2)) 4 MV.none) 5 MV.none=J
 have e0:J 0=some (.ref l):=(congrFun hρ _).symm
 have e1:J 1=some (.bytes b):=(congrFun hρ _).symm
 have e2:J 2=some (.int p):=(congrFun hρ _).symm
 have e3:J 3=some (.int 2):=(congrFun hρ _).symm
 have e4:J 4=some .none:=(congrFun hρ _).symm
 have e5:J 5=some .none:=(congrFun hρ _).symm
 have hy':yL b.length:=hy
 unfold f_fits
 refine sE ?_
 by_cases h0:p < 0
 . replace h:=ifT' h0 h
   refine sIfT ((tLt (eV e2) eS).to (decide_eq_true h0)) ?_
   exact h
 . replace h:=ifF' h0 h
   refine sIfF ((tLt (eV e2) eS).to (decide_eq_false h0)) ?_
   refine si ?_
   refine sE (sAsgL (eV e2) ?_)
   refine sE ?_
   refine sFor_list (by rw [uD dC];exact e0) hl ?_
   refine fit_loop b hy O _ hl xs p _ _ E (by rw [uD dC];exact e1) (by rw [uD dC];exact e3) (by rw [uD dC];exact e4) (by rw [uD dC];exact e5) uL (ilt h0) hp ?_
   unfold fitP at h
   split
   . rename_i q hq
     rw [hq] at h
     intro J' g1 g6
     refine sRetI (v:=.bool (decide (q=b.length))) (fun _ _ hq=>eV g6 _ _ (evLen (eV g1) hy _ _ hq)) ?_
     exact h
   . rename_i hq
     rw [hq] at h
     exact fun J'=>h
noncomputable def litOf (o:Int):MV:=prM (0,o)
noncomputable abbrev litCompE:ET->ET:=fun f=>mComp (itBytes f) 0 (fun C=>(aL 0)) (fun C=>bTrue) (fun C=>(mU (eC (mC (.int 0)) (eC (mL 0) eN))))
theorem bTrueI {J:LC} {O:Own} {Q:Bool->Own->Prop} {E:PE} (h:Q true O):bTrue J O Q E:=h
theorem eCons1 {f:ET} {J:LC} {O:Own} {Q:List MV->Own->Prop} {E:PE} (h:f J O (fun v O1=>Q [v] O1) E):eC f eN J O Q E:=h
theorem lit_loop (D:Addr) (O:Own):∀ (b:List Int) (acc:List MV) (J:LC) (Q:List MV->Own->Prop),
   Q (acc ++ b.map litOf) (upd O D (.list (acc ++ b.map litOf))) ->
   compL (aL 0) bTrue (mU (eC (mC (.int 0)) (eC (mL 0) eN))) (fun _=>True) D (b.map .int) acc J (upd O D (.list acc)) Q:=by
 intro b
 induction b with
 | nil=>intro acc J Q h;exact⟨trivial,by simpa using h⟩
 | cons x r ih =>
   intro acc J Q h
   rw [List.map_cons]
   refine ⟨trivial,aI ?_⟩
   refine bTrueI ?_
   refine ifT rfl ?_
   refine ⟨_,uL,yl2,uP _ _ _,?_⟩
   rw [uU]
   refine ih (acc ++ [litOf x]) _ Q ?_
   simpa [List.append_assoc] using h
theorem litComp {f:ET} {b:List Int} {J:LC} {O:Own} {Q:PV} {E:PE} (hf:Evl f J O (.bytes b)) (hy:yL b.length) (h:∀ D,O D=none->Q (.ref D) (upd O D (.list (b.map litOf)))):litCompE f J O Q E:=by
 refine hf _ _ ⟨b,rfl,by rw [List.length_map];exact hy,fun D C hD _ _=>?_⟩
 refine lit_loop D O b [] _ _ ?_
 exact⟨uP _ _ _,h D hD⟩
theorem sAppL {k:Nat} {m:Addr} {xs:List MV} {f:ET} {v:MV} {J:LC} {O:Own} {Q:PS} {E:PE} (hρ:J k=some (.ref m)) (hm:O m=some (.list xs)) (hf:Evl f J O v)
   (hy:yL xs.length) (h:Q .next J (upd O m (.list (xs ++ [v])))):sX (mM isL (mL k) (eC f eN) cA) J O Q E :=
 ⟨_,hρ,⟨m,xs,rfl,hm⟩,hf _ _ ⟨m,xs,v,rfl,hm,hy,rfl,h⟩⟩
theorem sExtL {k:Nat} {m:Addr} {xs:List MV} {b:List Int} {f:ET} {J:LC} {O:Own} {Q:PS} {E:PE} (hρ:J k=some (.ref m)) (hm:O m=some (.list xs)) (hf:Evl f J O (.bytes b))
   (hy:yL (xs.length + b.length)) (h:∀ D,O D=none->Q .next J (upd (upd O D (.list (b.map litOf))) m (.list (xs ++ b.map litOf)))):sX (mM isL (mL k) (eC (litCompE f) eN) cExtend) J O Q E:=by
 refine ⟨_,hρ,⟨m,xs,rfl,hm⟩,eCons1 (litComp hf (by unfold yL at *;exact le_sum' hy) fun D hD=>?_)⟩
 have hne:m ≠ D:=nO hm hD
 exact⟨m,D,xs,_,rfl,by rw [uN hne];exact hm,uP _ _ _,by rw [List.length_map];exact hy,rfl,h D hD⟩
noncomputable def ExtB (m:Addr) (O O':Own):Prop:=∀ a o,a ≠ m->O a=some o->O' a=some o
theorem ExtB.trans {m:Addr} {a b c:Own} (h:ExtB m a b) (k:ExtB m b c):ExtB m a c:=fun x o n q=>k x o n (h x o n q)
theorem Ext.toB {m:Addr} {a b:Own} (h:Ext a b):ExtB m a b:=fun x o _ q=>h x o q
theorem ExtB.upd {m:Addr} {O:Own} {o:MObj}:ExtB m O (upd O m o):=fun a x n q=>by rw [uN n];exact q
theorem cut_mid {b:List Int} {p n:Int} (h0:0<=p) (hn:0<=n) (h:p + n<=b.length):cutM b (some p) (some (p + n))=(b.drop p.toNat).take n.toNat:=by
 unfold cutM
 simp only [Option.elim]
 rw [clip_in h0 (by lia),clip_in (Int.add_nonneg h0 hn) h]
 congr 1;exact toNat_add_sub h0 hn
noncomputable def partP (made:List Int) (p n d:Int):St2:=if 2<=n then [(n,d)] else ((made.drop p.toNat).take n.toNat).map fun o=>(0,o)
theorem c_put {row:Addr} {rs:List MV} {made:List Int} {p n d:Int} {O:Own} {Q:PV} {E:PE} (hr:O row=some (.list rs)) (h0:0<=p) (hn:1<=n) (h:p + n<=made.length) (hy:made.length<=1000000) (hy':rs.length + 1<=1000000)
   (hq:∀ O',O' row=some (.list (rs ++ (partP made p n d).map prM))->ExtB row O O'->Q .none O'):c_put_part [.ref row,.bytes made,.int p,.int n,.int d,.int 2] O Q E:=by
 refine ⟨rfl,ent6 rfl fun L _=>?_⟩
 generalize hρ:upd (upd (upd (upd (upd (upd (fun _=>none) 0 (MV.ref row)) 1 (MV.bytes made)) 2 (MV.int p)) 3 (MV.int n)) 4 (MV.int d)) 5 (MV.int 2)=J
 have e0:J 0=some (.ref row):=(congrFun hρ _).symm
 have e1:J 1=some (.bytes made):=(congrFun hρ _).symm
 have e2:J 2=some (.int p):=(congrFun hρ _).symm
 have e3:J 3=some (.int n):=(congrFun hρ _).symm
 have e4:J 4=some (.int d):=(congrFun hρ _).symm
 have e5:J 5=some (.int 2):=(congrFun hρ _).symm
 unfold f_put_part
 by_cases h2:2<=n
 . refine sIfT ((tGe (eV e3) (eV e5)).to (decide_eq_true h2)) ?_
   refine sAppL e0 hr (v:=prM (n,d)) (fun Q' E' hq'=>⟨_,e3,_,e4,yl2,hq'⟩) (by unfold yL;exact Nat.le_of_succ_le hy') ?_
   refine hq _ ?_ .upd
   rw [uP];unfold partP;rw [if_pos h2];rfl
 . refine sIfF ((tGe (eV e3) (eV e5)).to (decide_eq_false h2)) ?_
   refine sExtL (b:=(made.drop p.toNat).take n.toNat) e0 hr ?_ ?_ fun D hD=>?_
   . intro Q' E' hq'
     refine ⟨_,e1,⟨_,e2,p,rfl,⟨_,e2,_,e3,p + n,rfl,?_⟩⟩⟩
     rw [<- cut_mid h0 (idn hn) h] at hq'
     exact⟨hy,hq'⟩
   . unfold yL;rw [List.length_take,List.length_drop];lia
   . refine hq _ ?_ (ExtB.trans (Ext.upd hD).toB .upd)
     rw [uP];unfold partP;rw [if_neg h2,List.map_map];rfl
noncomputable def cutTail:ST:=(sQ (sA (mA (eC (mL 9) (eC (mB .Sub (mL 12) (mL 7)) eN)) cMin) (aL 15))
   (sQ (sX (mA (eC (mL 11) (eC (mL 4) (eC (mL 7) (eC (mL 15) (eC (mL 10) (eC (mL 3) eN)))))) c_put_part))
   (sA (mU (eC (mB .Add (mL 7) (mL 15)) (eC (mB .Sub (mL 9) (mL 15)) eN))) (aT 2 fun ms=>(aC (aL 9) (aC (aL 7) aN)) ms.reverse))))
theorem cut_tail {row:Addr} {rs:List MV} {made:List Int} {p l d en:Int} {J:LC} {O:Own} {Q:PS} {E:PE}
   (e3:J 3=some (.int 2)) (e4:J 4=some (.bytes made)) (e7:J 7=some (.int p)) (e9:J 9=some (.int l)) (e10:J 10=some (.int d)) (e11:J 11=some (.ref row)) (e12:J 12=some (.int en))
   (hr:O row=some (.list rs)) (h0:0<=p) (hp:p < en) (hen:en<=made.length) (hl:1<=l) (hy:made.length<=1000000) (hy':rs.length + 1<=1000000)
   (hq:∀ J' O',(∀ k,k ≠ 7->k ≠ 9->k ≠ 15->J' k=J k)->J' 7=some (.int (p + min l (en - p)))->J' 9=some (.int (l - min l (en - p)))->O' row=some (.list (rs ++ (partP made p (min l (en - p)) d).map prM))->ExtB row O O'->Q .next J' O'):cutTail J O Q E:=by
 generalize hm:min l (en - p)=m at hq
 have m1:1<=m:=by lia
 have m2:p + m<=made.length:=by lia
 refine sE (sAsgL (v:=.int m) (hm ▸ evMin (eV e9) (evSub (eV e12) (eV e7))) ?_)
 generalize hρ:upd J 15 (.int m)=J1
 have f:∀ k,k ≠ 15->J1 k=J k:=fun k hk=>(congrFun hρ _).symm.trans (uD hk)
 have f15:J1 15=some (.int m):=(congrFun hρ _).symm.trans uL
 refine sE ?_
 refine ⟨_,(f 11 dC).trans e11,_,(f 4 dC).trans e4,_,(f 7 dC).trans e7,_,f15,_,(f 10 dC).trans e10,_,(f 3 dC).trans e3,?_⟩
 refine c_put hr h0 m1 m2 hy hy' fun O' h1 h2=>⟨rfl,?_⟩
 refine sG (v:=.tup [.int (p + m),.int (l - m)]) (evTup2 (evAdd (eV ((f 7 dC).trans e7)) (eV f15)) (evSub (eV ((f 9 dC).trans e9)) (eV f15))) ?_
 refine aTupRL ?_
 refine hq _ O' (fun k k7 k9 k15=>?_) ?_ ?_ h1 h2
 . rw [uD k7,uD k9];exact f k k15
 . exact uL
 . rw [uD dC];exact uL
noncomputable def cutW (made:List Int):Nat->St2->Int->Int->Int->Int->St2->(St2 × St2 × Int × Int × Int)
 | 0,xs,l,d,p,en,row=>(row,xs,l,d,p)
 | n + 1,xs,l,d,p,en,row=>if p < en then
     if l=0 then match xs with
       | []=>(row,[],l,d,p)
       | (f,s) :: r=>if f=0 then cutW made n r 0 d (p + 1) en (row ++ [(0,s)])
           else cutW made n r (f - min f (en - p)) s (p + min f (en - p)) en (row ++ partP made p (min f (en - p)) s)
     else cutW made n xs (l - min l (en - p)) d (p + min l (en - p)) en (row ++ partP made p (min l (en - p)) d)
   else (row,xs,l,d,p)
noncomputable def cutBody:ST:=(sQ (sIf (bC .Eq (mL 9) (mC (.int 0))) (sQ (sA (mI (mL 0) (mL 8)) (aT 2 (aC (aL 13) (aC (aL 14) aN))))
   (sQ (sA (mB .Add (mL 8) (mC (.int 1))) (aL 8))
   (sQ (sIf (bC .Eq (mL 13) (mC (.int 0))) (sQ (sX (mM isL (mL 11) (eC (mU (eC (mC (.int 0)) (eC (mL 14) eN))) eN) cA))
   (sQ (sA (mB .Add (mL 7) (mC (.int 1))) (aL 7))
   (sFlow .cont))) sN)
   (sA (mU (eC (mL 13) (eC (mL 14) eN))) (aT 2 fun ms=>(aC (aL 10) (aC (aL 9) aN)) ms.reverse))))) sN) cutTail)
section
variable {t:Mn.BT} {b:ST} {k:Nat} {J:LC} {O:Own} {Q:PS} {E:PE}
theorem whN_stop (h:Tst t J O false) (q:Q .next J O):whN t b (k + 1) J O Q E :=
 h (fun c O1=>if c=true then b J O1 (kLoop (whN t b k) Q E) E else Q .next J O1) E (by refine ifF dC ?_;exact q)
theorem whN_go (h:Tst t J O true) (q:b J O (kLoop (whN t b k) Q E) E):whN t b (k + 1) J O Q E :=
 h (fun c O1=>if c=true then b J O1 (kLoop (whN t b k) Q E) E else Q .next J O1) E (by refine ifT rfl ?_;exact q)
end
theorem evIdxL {f g:ET} {J:LC} {O:Own} {l:Addr} {xs:List MV} {i:Int} {v:MV} (hf:Evl f J O (.ref l)) (hg:Evl g J O (.int i)) (hl:O l=some (.list xs)) (h0:0<=i) (h1:i<=1000000) (hx:xs[i.toNat]?=some v):Evl (mI f g) J O v:=by
 intro Q E hq
 refine hf _ _ (hg _ _ ⟨v,?_,⟨i,rfl,(idn h0),h1⟩,hq⟩)
 exact (geti_ls hl).trans (pick_in h0 hx)
theorem partP_len {made:List Int} {p n d:Int} (hn:1<=n):(partP made p n d).length<=1:=by
 unfold partP
 split
 . exact Nat.le_refl 1
 . rw [List.length_map,List.length_take];lia
theorem sz_cons (p:Int × Int) (r:St2):sz (p :: r)=stSz p + sz r:=List.sum_cons
theorem cutW_succ {made:List Int} {n:Nat} {xs:St2} {l d p en:Int} {row:St2}:cutW made (n + 1) xs l d p en row=if p < en then
     if l=0 then match xs with
       | []=>(row,[],l,d,p)
       | (f,s) :: r=>if f=0 then cutW made n r 0 d (p + 1) en (row ++ [(0,s)])
           else cutW made n r (f - min f (en - p)) s (p + min f (en - p)) en (row ++ partP made p (min f (en - p)) s)
     else cutW made n xs (l - min l (en - p)) d (p + min l (en - p)) en (row ++ partP made p (min l (en - p)) d)
   else (row,xs,l,d,p):=rfl
theorem cut_loop {l row:Addr} {made:List Int} {steps:St2} {en:Int} (hs:steps.length<=100000) (hA:steps.all okA=true) (hne:l ≠ row) (hy:made.length<=1000000) (hen:en<=made.length) :
   ∀ (n t:Nat) (lf d p:Int) (rs:St2) (J:LC) (O:Own) (Q:PS) (E:PE),
   J 0=some (.ref l)->J 3=some (.int 2)->J 4=some (.bytes made)->J 7=some (.int p)->J 8=some (.int t)->J 9=some (.int lf)->J 10=some (.int d)->J 11=some (.ref row)->J 12=some (.int en) ->
   O l=some (.list (steps.map prM))->O row=some (.list (rs.map prM))->0<=lf->0<=p->p<=en->(en - p).toNat<=n->lf + sz (steps.drop t)=made.length - p->rs.length + (en - p).toNat + 1<=1000000 ->
   (∀ J' O' row' t' lf' d',(∀ k,k < 7->J' k=J k)->J' 11=some (.ref row)->J' 7=some (.int en)->J' 8=some (.int ((t':Nat):Int))->J' 9=some (.int lf')->J' 10=some (.int d')->O' row=some (.list (row'.map prM))->ExtB row O O' ->
     cutW made n (steps.drop t) lf d p en rs=(row',steps.drop t',lf',d',en)->0<=lf'->lf' + sz (steps.drop t')=made.length - en->Q .next J' O') ->
   whN (bC .Lt (mL 7) (mL 12)) cutBody (n + 1) J O Q E:=by
 intro n
 induction n with
 | zero =>
   intro t lf d p rs J O Q E e0 e3 e4 e7 e8 e9 e10 e11 e12 hl hr h1 h2 h3 h4 h5 h6 h
   have hp:p=en:=by lia
   subst hp
   have ht:=tLt (O:=O) (eV e7) (eV e12)
   rw [decide_eq_false (leg h3)] at ht
   exact whN_stop ht (h J O rs t lf d (fun _ _=>rfl) e11 e7 e8 e9 e10 hr (fun _ _ _ q=>q) rfl h1 h5)
 | succ n ih =>
   intro t lf d p rs J O Q E e0 e3 e4 e7 e8 e9 e10 e11 e12 hl hr h1 h2 h3 h4 h5 h6 h
   have ht:=tLt (O:=O) (eV e7) (eV e12)
   rw [cutW_succ] at h
   by_cases hp:p < en
   . rw [decide_eq_true hp] at ht
     rw [if_pos hp] at h
     refine whN_go ht (sE ?_)
     have te:=tEq (O:=O) (eV e9) (eS (v:=.int 0))
     have tail:∀ (J1:LC) (t1:Nat) (l1 d1:Int),(∀ k,k < 8->J1 k=J k)->J1 8=some (.int t1)->J1 9=some (.int l1)->J1 10=some (.int d1)->J1 11=some (.ref row)->J1 12=some (.int en)->1<=l1->l1 + sz (steps.drop t1)=made.length - p ->
         (∀ J' O' row' t' lf' d',(∀ k,k < 7->J' k=J k)->J' 11=some (.ref row)->J' 7=some (.int en)->J' 8=some (.int ((t':Nat):Int))->J' 9=some (.int lf')->J' 10=some (.int d')->O' row=some (.list (row'.map prM))->ExtB row O O' ->
           cutW made n (steps.drop t1) (l1 - min l1 (en - p)) d1 (p + min l1 (en - p)) en (rs ++ partP made p (min l1 (en - p)) d1)=(row',steps.drop t',lf',d',en)->0<=lf'->lf' + sz (steps.drop t')=made.length - en->Q .next J' O') ->
         cutTail J1 O (kLoop (whN (bC .Lt (mL 7) (mL 12)) cutBody (n + 1)) Q E) E:=by
       intro J1 t1 l1 d1 hk g8 g9 g10 g11 g12 hl1 hsz hh
       refine cut_tail ((hk 3 dC).trans e3) ((hk 4 dC).trans e4) ((hk 7 dC).trans e7) g9 g10 g11 g12 hr h2 hp hen hl1 hy (by rw [List.length_map];lia) fun J' O' k1 k7 k9 hr' hx=>?_
       have pl:=partP_len (made:=made) (p:=p) (d:=d1) (n:=min l1 (en - p)) (minP hl1 hp)
       refine ih t1 (l1 - min l1 (en - p)) d1 (p + min l1 (en - p)) (rs ++ partP made p (min l1 (en - p)) d1) J' O' Q E ((k1 0 dC dC dC).trans ((hk 0 dC).trans e0)) ((k1 3 dC dC dC).trans ((hk 3 dC).trans e3)) ((k1 4 dC dC dC).trans ((hk 4 dC).trans e4)) k7 ((k1 8 dC dC dC).trans g8) k9 ((k1 10 dC dC dC).trans g10) ((k1 11 dC dC dC).trans g11) ((k1 12 dC dC dC).trans g12)
         (hx _ _ hne hl) (by rw [List.map_append];exact hr') (Int.sub_nonneg_of_le (Int.min_le_left _ _)) (addP h2 (minP hl1 hp)) (Int.add_le_of_le_sub_left (Int.min_le_right _ _)) (step_n hp (minP hl1 hp) h4) (lin1 hsz) (by rw [List.length_append];exact step_l hp (minP hl1 hp) pl h6) ?_
       intro J2 O2 row' t' lf' d' a1 a2 a3 a4 a5 a6 a7 a8 a9 a10 a11
       exact hh J2 O2 row' t' lf' d' (fun k hk'=>(a1 k hk').trans ((k1 k (lT hk') (lT hk') (lT hk')).trans (hk k (lt_up hk')))) a2 a3 a4 a5 a6 a7 (hx.trans a8) a9 a10 a11
     by_cases hz:lf=0
     . subst hz
       rw [decide_eq_true rfl] at te
       rw [if_pos rfl] at h
       refine sIfT te ?_
       cases hd:steps.drop t with
       | nil=>rw [hd] at h5;simp [sz] at h5;lia
       | cons x r =>
         obtain ⟨f,s⟩:=x
         rw [hd] at h h5
         have hlt:t < steps.length:=by
           apply Nat.lt_of_not_le;intro q
           rw [List.drop_eq_nil_of_le q] at hd;cases hd
         have hget:steps[t]?=some (f,s):=by
           have:=congrArg List.head? hd
           rw [List.head?_drop] at this;exact this
         have hdr:steps.drop (t + 1)=r:=by
           have:=congrArg List.tail hd
           rw [List.tail_drop] at this;exact this
         have hok:okA (f,s)=true:=List.all_eq_true.mp hA _ (List.mem_of_getElem? hget)
         refine sE (sG (v:=prM (f,s)) (evIdxL (eV e0) (eV e8) hl (Int.natCast_nonneg _) (by lia) ?_) (aTupL ?_))
         . rw [Int.toNat_natCast,List.getElem?_map,hget];rfl
         generalize hρ:upd (upd J 13 (.int f)) 14 (.int s)=J1
         have k₁:∀ k,k < 13->J1 k=J k:=fun k hk=>(congrFun hρ _).symm.trans (by rw [uD (lT hk),uD (lT hk)])
         have g13:J1 13=some (.int f):=(congrFun hρ _).symm.trans (by rw [uD dC];exact uL)
         have g14:J1 14=some (.int s):=(congrFun hρ _).symm.trans uL
         refine sE (sAsgL (v:=.int ((t:Int) + 1)) (evAdd (eV ((k₁ 8 dC).trans e8)) eS) ?_)
         generalize hρ2:upd J1 8 (.int ((t:Int) + 1))=J₂
         have k2:∀ k,k ≠ 8->J₂ k=J1 k:=fun k hk=>(congrFun hρ2 _).symm.trans (uD hk)
         have g8:J₂ 8=some (.int ((t + 1:Nat):Int)):=(congrFun hρ2 _).symm.trans (by rw [uL];rfl)
         have g13':=(k2 13 dC).trans g13
         have g14':=(k2 14 dC).trans g14
         have tf:=tEq (O:=O) (eV g13') (eS (v:=.int 0))
         refine sE ?_
         by_cases hf:f=0
         . subst hf
           rw [decide_eq_true rfl] at tf
           dsimp only at h
           rw [if_pos rfl] at h
           have hst:stSz (0,s)=1:=rfl
           rw [sz_cons,hst] at h5
           refine sIfT tf (sE ?_)
           refine sAppL (v:=prM (0,s)) ((k2 11 dC).trans ((k₁ 11 dC).trans e11)) hr (evTup2 eS (eV g14')) (by unfold yL;rw [List.length_map];lia) ?_
           refine sE (sAsgL (v:=.int (p + 1)) (evAdd (eV ((k2 7 dC).trans ((k₁ 7 dC).trans e7))) eS) ?_)
           have all:∀ k,k < 13->k ≠ 8->k ≠ 7->upd J₂ 7 (.int (p + 1)) k=J k:=fun k a b c=>by rw [uD c,k2 k b,k₁ k a]
           refine ih (t + 1) 0 d (p + 1) (rs ++ [(0,s)]) (upd J₂ 7 (.int (p + 1))) (upd O row (.list (rs.map prM ++ [prM (0,s)]))) Q E ((all 0 dC dC dC).trans e0) ((all 3 dC dC dC).trans e3) ((all 4 dC dC dC).trans e4) uL ((uD dC).trans g8) ((all 9 dC dC dC).trans e9) ((all 10 dC dC dC).trans e10) ((all 11 dC dC dC).trans e11) ((all 12 dC dC dC).trans e12)
             ((uN hne).trans hl) ((uP _ _ _).trans (by rw [List.map_append];rfl)) h1 (Int.add_nonneg h2 dC) (Int.add_one_le_of_lt hp) (step_n hp dC h4) (by rw [hdr];lia) (by rw [List.length_append,List.length_singleton];exact step_l hp dC dC h6) ?_
           rw [hdr]
           intro J' O' row' t' lf' d' a1 a2 a3 a4 a5 a6 a7 a8 a9 a10 a11
           exact h J' O' row' t' lf' d' (fun k hk=>(a1 k hk).trans (all k (lt_up hk) (lT hk) (lT hk))) a2 a3 a4 a5 a6 a7 (ExtB.trans .upd a8) a9 a10 a11
         . rw [decide_eq_false hf] at tf
           dsimp only at h
           rw [if_neg hf] at h
           have hf2:2<=f:=of_decide_eq_true ((okA1 hf).symm.trans hok)
           have hst:stSz (f,s)=f.toNat:=if_neg hf
           rw [sz_cons,hst] at h5
           refine sIfF tf ?_
           refine si ?_
           refine sG (v:=.tup [.int f,.int s]) (evTup2 (eV g13') (eV g14')) (aTupRL ?_)
           have all:∀ k,k < 13->k ≠ 8->k ≠ 9->k ≠ 10->upd (upd J₂ 10 (.int s)) 9 (.int f) k=J k:=fun k a b c c'=>by rw [uD c,uD c',k2 k b,k₁ k a]
           refine tail _ (t + 1) f s (fun k hk=>all k (lt_up hk) (lT hk) (lT hk) (lT hk)) ?_ uL ?_ ((all 11 dC dC dC dC).trans e11) ((all 12 dC dC dC dC).trans e12) (idn hf2) (by rw [hdr];lia) ?_
           . rw [uD dC,uD dC];exact g8
           . rw [uD dC];exact uL
           rw [hdr]
           exact h
     . rw [decide_eq_false hz] at te
       rw [if_neg hz] at h
       refine sIfF te ?_
       refine si ?_
       exact tail J t lf d (fun _ _=>rfl) e8 e9 e10 e11 e12 (by lia) h5 h
   . rw [decide_eq_false hp] at ht
     rw [if_neg hp] at h
     have hp':p=en:=Int.le_antisymm h3 (ilt hp)
     subst hp'
     exact whN_stop ht (h J O rs t lf d (fun _ _=>rfl) e11 e7 e8 e9 e10 hr (fun _ _ _ q=>q) rfl h1 h5)
noncomputable def RowsAt (O:Own) (R:Addr):List Addr->List St2->Prop
 | [],[]=>True
 | a :: as,r :: rs=>(O a=some (.list (r.map prM))/\a ≠ R)/\RowsAt O R as rs
 | _,_=>False
theorem RowsAt.mono {O O':Own} {R:Addr} (h:ExtB R O O'):∀ {as:List Addr} {rs:List St2},RowsAt O R as rs->RowsAt O' R as rs
 | [],[],_=>trivial
 | a :: as,r :: rs,q=>⟨⟨h a _ q.1.2 q.1.1,q.1.2⟩,RowsAt.mono h q.2⟩
theorem RowsAt.snoc {O:Own} {R a:Addr} {r:St2} (h:O a=some (.list (r.map prM))) (hn:a ≠ R):∀ {as:List Addr} {rs:List St2},RowsAt O R as rs->RowsAt O R (as ++ [a]) (rs ++ [r])
 | [],[],_=>⟨⟨h,hn⟩,trivial⟩
 | _ :: _,_ :: _,q=>⟨q.1,RowsAt.snoc h hn q.2⟩
noncomputable def cutRows (made:List Int):List Int->St2->Int->Int->Int->List St2
 | [],_,_,_,_=>[]
 | z :: zs,xs,l,d,p=>(cutW made z.toNat xs l d p (p + z) []).1 :: cutRows made zs (cutW made z.toNat xs l d p (p + z) []).2.1 (cutW made z.toNat xs l d p (p + z) []).2.2.1 (cutW made z.toNat xs l d p (p + z) []).2.2.2.1 (p + z)
theorem cutRows_c {made:List Int} {z:Int} {zs:List Int} {xs:St2} {l d p:Int}:cutRows made (z :: zs) xs l d p=(cutW made z.toNat xs l d p (p + z) []).1 :: cutRows made zs (cutW made z.toNat xs l d p (p + z) []).2.1 (cutW made z.toNat xs l d p (p + z) []).2.2.1 (cutW made z.toNat xs l d p (p + z) []).2.2.2.1 (p + z):=rfl
theorem cutRows_n {made:List Int} {xs:St2} {l d p:Int}:cutRows made [] xs l d p=[]:=rfl
noncomputable def rowBody:ST:=(sQ (sA (mU (eC (mLst eN) (eC (mB .Add (mL 7) (mL 5)) eN))) (aT 2 fun ms=>(aC (aL 12) (aC (aL 11) aN)) ms.reverse))
   (sQ (sWh (bC .Lt (mL 7) (mL 12)) cutBody)
   (sX (mM isL (mL 6) (eC (mL 11) eN) cA))))
theorem sum_nonneg:∀ (zs:List Int),(∀ x ∈ zs,0<=x)->0<=zs.sum
 | [],_=>by simp
 | z :: zs,h=>by
   have h1:=h z (.head _)
   have h2:=sum_nonneg zs fun x hx=>h x (.tail _ hx)
   rw [List.sum_cons];exact Int.add_nonneg h1 h2
theorem rows_loop {l R:Addr} {made:List Int} {steps:St2} {g:Own->Prop} (hs:steps.length<=100000) (hA:steps.all okA=true) (hy:made.length<=100000) (hlR:l ≠ R) (hg:∀ O O',g O->ExtB R O O'->g O') :
   ∀ (zs:List Int) (t:Nat) (lf d p:Int) (refs:List Addr) (rows:List St2) (J:LC) (O:Own) (Q:PS) (E:PE),
   J 0=some (.ref l)->J 3=some (.int 2)->J 4=some (.bytes made)->J 6=some (.ref R)->J 7=some (.int p)->J 8=some (.int t)->J 9=some (.int lf)->J 10=some (.int d) ->
   O l=some (.list (steps.map prM))->g O->O R=some (.list (refs.map .ref))->RowsAt O R refs rows->0<=lf->0<=p->(∀ x ∈ zs,0<=x)->p + zs.sum=made.length->lf + sz (steps.drop t)=made.length - p->refs.length + zs.length<=100000 ->
   (∀ J' O' refs',J' 6=some (.ref R)->O' R=some (.list (refs'.map .ref))->RowsAt O' R refs' (rows ++ cutRows made zs (steps.drop t) lf d p)->ExtB R O O'->Q .next J' O') ->
   forL (aL 5) rowBody g (zs.map .int) J O Q E:=by
 intro zs
 induction zs with
 | nil =>
   intro t lf d p refs rows J O Q E e0 e3 e4 e6 e7 e8 e9 e10 hl hgs hR hro h1 h2 h3 h4 h5 h6 h
   exact⟨hgs,h J O refs e6 hR (by rw [cutRows_n,List.append_nil];exact hro) (fun _ _ _ q=>q)⟩
 | cons z zs ih =>
   intro t lf d p refs rows J O Q E e0 e3 e4 e6 e7 e8 e9 e10 hl hgs hR hro h1 h2 h3 h4 h5 h6 h
   have hz:=h3 z (.head _)
   have hzs:=sum_nonneg zs fun x hx=>h3 x (.tail _ hx)
   rw [List.sum_cons] at h4
   rw [List.map_cons]
   refine ⟨hgs,aI ?_⟩
   generalize hρ:upd J 5 (.int z)=J1
   have k1:∀ k,k ≠ 5->J1 k=J k:=fun k hk=>(congrFun hρ _).symm.trans (uD hk)
   have g5:J1 5=some (.int z):=(congrFun hρ _).symm.trans uL
   refine sE ?_
   refine ⟨yl0,fun row hrow=>?_⟩
   refine ⟨_,(k1 7 dC).trans e7,_,g5,yl2,?_⟩
   refine aTupRL ?_
   generalize hρ2:upd (upd J1 12 (.int (p + z))) 11 (.ref row)=J2
   have k2:∀ k,k < 11->k ≠ 5->J2 k=J k:=fun k hk h5=>(congrFun hρ2 _).symm.trans (by rw [uD (lT hk),uD (lT hk)];exact k1 k h5)
   have g11:J2 11=some (.ref row):=(congrFun hρ2 _).symm.trans uL
   have g12:J2 12=some (.int (p + z)):=(congrFun hρ2 _).symm.trans (by rw [uD dC];exact uL)
   have hne:∀ a o,O a=some o->a ≠ row:=fun a o q=>nO q hrow
   refine sE ?_
   refine ⟨z.toNat + 1,?_⟩
   refine cut_loop hs hA (hne l _ hl) (lE hy) (by lia) z.toNat t lf d p [] J2 _ _ E ((k2 0 dC dC).trans e0) ((k2 3 dC dC).trans e3) ((k2 4 dC dC).trans e4) ((k2 7 dC dC).trans e7) ((k2 8 dC dC).trans e8) ((k2 9 dC dC).trans e9) ((k2 10 dC dC).trans e10) g11 g12
     ((uN (hne l _ hl)).trans hl) (uP _ _ _) h1 h2 (by lia) (by lia) h5 (by simp;lia) ?_
   intro J' O' row' t' lf' d' a1 a2 a3 a4 a5 a6 a7 a8 a9 a10 a11
   have x2:Ext O O':=fun a o q=>a8 a o (hne a o q) (by rw [uN (hne a o q)];exact q)
   have xB:ExtB R O (upd O' R (.list (refs.map .ref ++ [.ref row]))):=ExtB.trans x2.toB .upd
   have hrR:row ≠ R:=fun q=>hne R _ hR q.symm
   refine sAppL (xs:=refs.map .ref) (v:=.ref row) ((a1 6 dC).trans ((k2 6 dC dC).trans e6)) (x2 R _ hR) (eV a2) (by unfold yL;rw [List.length_map];lia) ?_
   refine ih t' lf' d' (p + z) (refs ++ [row]) (rows ++ [row']) J' _ Q E ((a1 0 dC).trans ((k2 0 dC dC).trans e0)) ((a1 3 dC).trans ((k2 3 dC dC).trans e3)) ((a1 4 dC).trans ((k2 4 dC dC).trans e4)) ((a1 6 dC).trans ((k2 6 dC dC).trans e6)) a3 a4 a5 a6
     (xB l _ hlR hl) (hg _ _ hgs xB) (by rw [uP,List.map_append];rfl) (RowsAt.snoc (by rw [uN hrR];exact a7) hrR (hro.mono xB)) a10 (Int.add_nonneg h2 hz) (fun x hx=>h3 x (.tail _ hx)) (by lia) a11 (by rw [List.length_append,List.length_singleton];simp at h6;lia) ?_
   intro J3 O3 refs3 b1 b2 b3 b4
   refine h J3 O3 refs3 b1 b2 ?_ (ExtB.trans xB b4)
   rw [cutRows_c,a9]
   rw [List.append_assoc] at b3
   exact b3
theorem unp_len:∀ (xs:St2) (b b':List Int),xs.all okA=true->unp xs b=some b'->b'.length=b.length + sz xs:=by
 intro xs
 induction xs with
 | nil=>intro b b' _ h;rw [unp_n] at h;cases h;simp [sz]
 | cons x r ih =>
   intro b b' hA h
   obtain ⟨f,s⟩:=x
   rw [List.all_cons,Bool.and_eq_true] at hA
   rw [sz_cons]
   by_cases h0:f=0
   . subst h0
     rw [unp_c,if_pos rfl] at h
     have:=ih _ _ hA.2 h
     rw [List.length_append,List.length_singleton] at this
     have hst:stSz (0,s)=1:=rfl
     rw [hst];lia
   . have hst:stSz (f,s)=f.toNat:=if_neg h0
     rw [unp_c,if_neg h0] at h
     by_cases h1:1<=s/\s<=b.length
     . rw [if_pos h1] at h
       have:=ih _ _ hA.2 h
       rw [copyN_len] at this
       rw [hst];lia
     . rw [if_neg h1] at h;cases h
theorem unpE_len {xs:St2} {hb made:List Int} (h:unpE xs hb=.ok made):xs.all okA=true/\made.length=sz xs:=by
 unfold unpE at h
 cases hc:cH xs with
 | some k=>rw [hc] at h;cases h
 | none =>
   rw [hc] at h
   dsimp only at h
   have hA:xs.all okA=true:=by
     unfold cH at hc
     by_cases q:xs.all okA=true
     . exact q
     . rw [if_neg q] at hc;cases hc
   cases hu:unp xs hb with
   | none=>rw [hu] at h;cases h
   | some b =>
     rw [hu] at h
     injection h with h
     have:=unp_len xs hb b hA hu
     exact⟨hA,by rw [<- h,List.length_drop];exact sub_of_eq this⟩
theorem neg_loop (D:Addr) (O:Own) (g:Own->Prop) (hg:g O):∀ (zs:List Int) (acc:List MV) (J:LC) (Q:List MV->Own->Prop),(∀ x ∈ zs,0<=x)->Q acc O ->
   compL (aL 0) (bC .Lt (mL 0) (mC (.int 0))) (mL 0) g D (zs.map .int) acc J O Q:=by
 intro zs
 induction zs with
 | nil=>intro acc J Q _ h;exact⟨hg,h⟩
 | cons z r ih =>
   intro acc J Q hz h
   rw [List.map_cons]
   refine ⟨hg,aI ?_⟩
   have h0:=hz z (.head _)
   have ht:=tLt (O:=O) (eV (J:=upd J 0 (.int z)) (k:=0) uL) (eS (v:=.int 0))
   rw [decide_eq_false (leg h0)] at ht
   refine ht _ _ ?_
   refine ifF dC ?_
   exact ih acc _ Q (fun x hx=>hz x (.tail _ hx)) h
theorem c_cut {l z:Addr} {xs:St2} {zs hb made:List Int} {O:Own} {Q:PV} {E:PE} (hl:O l=some (.list (xs.map prM))) (hz:O z=some (.list (zs.map .int))) (ho:oct? hb) (hy:hb.length + sz xs<=100000) (hx:xs.length<=100000) (hzl:zs.length<=100000)
   (hm:unpE xs hb=.ok made) (h0:∀ x ∈ zs,0<=x) (hsum:zs.sum=made.length)
   (hq:∀ R O' refs,O R=none->O' R=some (.list (refs.map .ref))->RowsAt O' R refs (cutRows made zs xs 0 0 0)->Ext O O'->Q (.ref R) O'):c_cut_steps3 [.ref l,.ref z,.bytes hb] O Q E:=by
 refine ⟨rfl,ent4 rfl fun L _=>?_⟩
 generalize hρ:upd (upd (upd (upd (fun _=>none) 0 (MV.ref l)) 1 (MV.ref z)) 2 (MV.bytes hb)) 3 (MV.int 2)=J
 have e0:J 0=some (.ref l):=(congrFun hρ _).symm
 have e1:J 1=some (.ref z):=(congrFun hρ _).symm
 have e2:J 2=some (.bytes hb):=(congrFun hρ _).symm
 have e3:J 3=some (.int 2):=(congrFun hρ _).symm
 obtain ⟨hA,hml⟩:=unpE_len hm
 unfold f_cut_steps
 refine sE ?_
 have t1:=tLt (O:=O) (eV e3) (eS (v:=.int 2))
 rw [decide_eq_false dC] at t1
 refine sIfF t1 ?_
 refine si ?_
 refine sE ?_
 refine ⟨_,e0,_,e2,?_⟩
 refine c_unp hl ho (lE hy) (fun b O1 hb' x1=>?_) (fun k O1 hk _=>by rw [hm] at hk;cases hk)
 rw [hm] at hb';injection hb' with hb';subst hb'
 refine aI ?_
 generalize hρ1:upd J 4 (.bytes made)=J1
 have k1:∀ k,k ≠ 4->J1 k=J k:=fun k hk=>(congrFun hρ1 _).symm.trans (uD hk)
 have g4:J1 4=some (.bytes made):=(congrFun hρ1 _).symm.trans uL
 refine sE ?_
 have ts:Tst (bC .NotEq (mA (eC (mL 1) eN) cSum) (mA (eC (mL 4) eN) cN)) J1 O1 false:=fun Q' E' q =>
   ⟨_,(k1 1 dC).trans e1,z,zs,rfl,x1 _ _ hz,⟨_,g4,_,made.length,rfl,rfl,by unfold yL;lia,by
     refine (?_:Q' (decide (zs.sum ≠ (made.length:Int))) O1)
     rw [decide_eq_false (fun q=>q hsum)];exact q⟩⟩
 refine ts _ _ ?_
 refine ifF dC ?_
 refine ⟨_,(k1 1 dC).trans e1,z,_,rfl,x1 _ _ hz,by rw [List.length_map];unfold yL;exact lE hzl,fun D C hD _ _=>?_⟩
 have x2:Ext O1 (upd O1 D (.list [])):=.upd hD
 refine neg_loop D _ _ ?_ zs [] _ _ h0 ?_
 . exact x2 _ _ (x1 _ _ hz)
 refine ⟨uP _ _ _,⟨yl0,fun r hr=>?_⟩⟩
 have x3:Ext (upd O1 D (.list [])) (upd (upd O1 D (.list [])) r (.list [])):=.upd hr
 refine ⟨D,r,rfl,rfl,.inl ⟨[],[],x3 _ _ (uP _ _ _),uP _ _ _,.inr ⟨rfl,?_⟩⟩⟩
 refine (?_:if (!decide (([]:List Int)=[]))=true then _ else _)
 rw [decide_eq_true rfl,if_neg dC]
 have x4:Ext O (upd (cE C 0 (upd O1 D (.list []))) r (.list [])):=x1.trans (x2.trans x3)
 generalize hσ:upd (cE C 0 (upd O1 D (.list []))) r (.list [])=O2 at x4 ⊢
 refine si ?_
 refine sE ?_
 refine ⟨yl0,fun R hR=>⟨yl3,?_⟩⟩
 refine ⟨[.ref R,.int 0,.int 0],rfl,rfl,?_⟩
 refine ⟨_,_,rfl,⟨_,_,rfl,⟨_,_,rfl,rfl,?_⟩⟩⟩
 refine sE (sG (v:=.tup [.int 0,.int 0]) (evTup2 eS eS) (aTupL ?_))
 have x5:Ext O2 (upd O2 R (.list [])):=.upd hR
 refine sE ?_
 have hne:∀ a o,O a=some o->a ≠ R:=fun a o q=>nO (x4 _ _ q) hR
 refine sFor_list (l:=z) (xs:=zs.map .int) ?_ (x5 _ _ (x4 _ _ hz)) ?_
 . simp [updL];exact (k1 1 dC).trans e1
 refine rows_loop (l:=l) (R:=R) (made:=made) (steps:=xs) hx hA (by lia) (hne l _ hl) (fun s s' h1 h2=>h2 _ _ (hne z _ hz) h1) zs 0 0 0 0 [] [] _ _ _ E ?_ ?_ ?_ ?_ ?_ ?_ ?_ ?_ (x5 _ _ (x4 _ _ hl)) (x5 _ _ (x4 _ _ hz)) (uP _ _ _) trivial dC dC h0 (by lia) (by rw [List.drop_zero];lia) ((Nat.zero_add _).symm ▸ (hzl)) ?_
 . simp [updL];exact (k1 0 dC).trans e0
 . simp [updL];exact (k1 3 dC).trans e3
 . simp [updL];exact g4
 . simp [updL]
 . simp [updL]
 . simp [updL]
 . simp [updL]
 . simp [updL]
 intro J' O' refs b1 b2 b3 b4
 refine sRetI (eV b1) ?_
 refine hq R O' refs ?_ b2 b3 (fun a o q=>b4 a o (hne a o q) (x5 _ _ (x4 _ _ q)))
 cases q:O R with
 | none=>rfl
 | some o=>exact na hR (x4 _ _ q)
theorem c_cut_bad {l z:MV} {hb:MV} {few:Int} {O:Own} {Q:PV} {E:PE} (hf:few < 2) (h:E (.ref 64) O):c_cut_steps4 [l,z,hb,.int few] O Q E:=by
 refine ⟨rfl,ent4 rfl fun L _=>?_⟩
 unfold f_cut_steps
 refine sE ?_
 have t1:=tLt (O:=O) (J:=upd (upd (upd (upd (fun _=>none) 0 l) 1 z) 2 hb) 3 (MV.int few)) (eV (k:=3) uL) (eS (v:=.int 2))
 rw [decide_eq_true hf] at t1
 exact sIfT t1 h
noncomputable abbrev Run:=List Int × Int × Int
noncomputable def runM (r:Run):MV:=.tup [.bytes r.1,.int r.2.1,.int r.2.2]
noncomputable def runsP:St2->List Int->List Run × List Int
 | [],h=>([],h)
 | (f,s) :: r,h=>if f=0 then runsP r (h ++ [s]) else ((h,f,s) :: (runsP r []).1,(runsP r []).2)
theorem runsP_n {h:List Int}:runsP [] h=([],h):=rfl
theorem runsP_c {f s:Int} {r:St2} {h:List Int}:runsP ((f,s) :: r) h=if f=0 then runsP r (h ++ [s]) else ((h,f,s) :: (runsP r []).1,(runsP r []).2):=rfl
theorem Ext.put {O₀ O:Own} {m:Addr} {o:MObj} (h:Ext O₀ O) (hm:O₀ m=none):Ext O₀ (Mn.upd O m o):=fun a x q=>by
 have:a ≠ m:=nO q hm
 rw [uN this];exact h a x q
theorem Ext.free {O₀ O:Own} {m:Addr} (h:Ext O₀ O) (hm:O m=none):O₀ m=none:=by
 cases q:O₀ m with
 | none=>rfl
 | some o=>exact na hm (h m o q)
noncomputable def runsBody:ST:=(sIf (bC .Eq (mL 3) (mC (.int 0))) (sX (mM isB (mL 2) (eC (mL 4) eN) cBApp)) (sQ (sX (mM isL (mL 1) (eC (mU (eC (mA (eC (mL 2) eN) cBytes) (eC (mL 3) (eC (mL 4) eN)))) eN) cA))
   (sA (mA eN cBarr) (aL 2))))
theorem runs_loop {O₀:Own} {R l:Addr} {xs0:List MV} (hl:O₀ l=some (.list xs0)) (hR:O₀ R=none):∀ (xs:St2) (hd:List Int) (H:Addr) (rows:List Run) (J:LC) (O:Own) (Q:PS) (E:PE),
   J 1=some (.ref R)->J 2=some (.ref H)->O R=some (.list (rows.map runM))->O H=some (.barr hd)->H ≠ R->O₀ H=none->Ext O₀ O->xs.all okA=true->hd.length + xs.length<=100000->rows.length + xs.length<=100000 ->
   (∀ J' O' H',J' 1=some (.ref R)->J' 2=some (.ref H')->O' R=some (.list ((rows ++ (runsP xs hd).1).map runM))->O' H'=some (.barr (runsP xs hd).2)->(runsP xs hd).2.length<=100000->Ext O₀ O'->Q .next J' O') ->
   forL (aT 2 (aC (aL 3) (aC (aL 4) aN))) runsBody (fun O=>O l=some (.list xs0)) (xs.map prM) J O Q E:=by
 intro xs
 induction xs with
 | nil=>intro hd H rows J O Q E e1 e2 h1 h2 h3 h4 h5 h6 h7 h8 h;exact⟨h5 _ _ hl,h J O H e1 e2 (by rw [runsP_n,List.append_nil];exact h1) h2 (by rw [runsP_n];simp at h7;exact h7) h5⟩
 | cons x r ih =>
   intro hd H rows J O Q E e1 e2 h1 h2 h3 h4 h5 h6 h7 h8 h
   obtain ⟨f,s⟩:=x
   rw [List.all_cons,Bool.and_eq_true] at h6
   rw [List.length_cons] at h7 h8
   rw [List.map_cons]
   refine ⟨h5 _ _ hl,aTupL ?_⟩
   generalize hρ:upd (upd J 3 (.int f)) 4 (.int s)=J1
   have f1:J1 1=some (.ref R):=(congrFun hρ _).symm.trans (by rw [uD dC,uD dC];exact e1)
   have f2:J1 2=some (.ref H):=(congrFun hρ _).symm.trans (by rw [uD dC,uD dC];exact e2)
   have f3:J1 3=some (.int f):=(congrFun hρ _).symm.trans (by rw [uD dC];exact uL)
   have f4:J1 4=some (.int s):=(congrFun hρ _).symm.trans uL
   have te:=tEq (O:=O) (eV f3) (eS (v:=.int 0))
   by_cases h0:f=0
   . subst h0
     rw [decide_eq_true rfl] at te
     rw [runsP_c,if_pos rfl] at h
     have hs:0<=s/\s<=255:=of_decide_eq_true h6.1
     refine sIfT te ?_
     refine sBApp (i:=s) f2 h2 (fun Q' hq=>⟨_,f4,hq⟩) hs.1 (illt hs.2) (by unfold yL;lia) ?_
     exact ih (hd ++ [s]) H rows J1 _ Q E f1 f2 ((uN h3.symm).trans h1) (uP _ _ _) h3 h4 (h5.put h4) h6.2 (by rw [List.length_append,List.length_singleton];lia) (Nat.le_of_succ_le h8) h
   . rw [decide_eq_false h0] at te
     rw [runsP_c,if_neg h0] at h
     refine sIfF te ?_
     refine sE ?_
     refine sAppL (v:=runM (hd,f,s)) f1 h1 (fun Q' E' hq=>⟨_,f2,.ref H,rfl,.inl ⟨hd,h2,by unfold yL;lia,⟨_,f3,_,f4,yl3,hq⟩⟩⟩) (by unfold yL;rw [List.length_map];lia) ?_
     refine .inl ⟨rfl,fun H' hH'=>?_⟩
     refine aI ?_
     have hn0:O₀ H'=none:=(h5.put hR).free hH'
     have hne:H' ≠ R:=by rintro rfl;rw [uP] at hH';cases hH'
     refine ih [] H' (rows ++ [(hd,f,s)]) (upd J1 2 (.ref H')) _ Q E ((uD dC).trans f1) uL ((uN hne.symm).trans ((uP _ _ _).trans (by rw [List.map_append];rfl))) (uP _ _ _) hne hn0 ((h5.put hR).put hn0) h6.2 ((Nat.zero_add _).symm ▸ (Nat.le_of_succ_le (le_sum' h7))) (by rw [List.length_append,List.length_singleton];lia) ?_
     intro J' O' H2 a1 a2 a3 a4 a5 a6
     exact h J' O' H2 a1 a2 (by rw [List.append_assoc] at a3;exact a3) a4 a5 a6
theorem c_runs {l:Addr} {xs:St2} {O:Own} {Q:PV} {E:PE} (hl:O l=some (.list (xs.map prM))) (hx:xs.length<=100000)
   (hE:∀ k,cH xs=some k->E (.ref k) O) (hQ:∀ R O',cH xs=none->O R=none->O' R=some (.list ((runsP xs []).1.map runM))->Ext O O'->Q (.tup [.ref R,.bytes (runsP xs []).2]) O'):c_runs_of [.ref l] O Q E:=by
 refine ⟨rfl,ent1 rfl fun L _=>?_⟩
 generalize hρ:upd (fun _=>none) 0 (MV.ref l)=J
 have e0:J 0=some (.ref l):=(congrFun hρ _).symm
 unfold f_runs_of
 refine sE ?_
 refine ⟨_,e0,c_check hl ?_⟩
 cases hc:cH xs with
 | some k=>exact hE k hc
 | none =>
   refine ⟨rfl,?_⟩
   have hA:xs.all okA=true:=by
     unfold cH at hc
     by_cases q:xs.all okA=true
     . exact q
     . rw [if_neg q] at hc;cases hc
   refine sE ?_
   refine ⟨yl0,fun R hR=>?_⟩
   refine .inl ⟨rfl,fun H hH=>⟨yl2,?_⟩⟩
   refine aTupRL ?_
   have hne:H ≠ R:=by rintro rfl;rw [uP] at hH;cases hH
   have x1:Ext O (upd O R (.list [])):=.upd hR
   have hH0:=x1.free hH
   refine sE ?_
   refine sFor_list (l:=l) (xs:=xs.map prM) (by simp [updL];exact e0) ((x1.put hH0) _ _ hl) ?_
   refine runs_loop hl hR xs [] H [] _ _ _ E rfl rfl ((uN hne.symm).trans (uP _ _ _)) (uP _ _ _) hne hH0 (x1.put hH0) hA ((Nat.zero_add _).symm ▸ (hx)) ((Nat.zero_add _).symm ▸ (hx)) ?_
   intro J' O' H' a1 a2 a3 a4 a5 a6
   refine ⟨_,a1,⟨_,a2,.ref H',rfl,.inl ⟨_,a4,by unfold yL;exact lE a5,?_⟩⟩⟩
   refine ⟨yl2,?_⟩
   exact hQ R O' hc hR a3 a6
noncomputable abbrev litP (b:List Int):St2:=b.map fun o=>(0,o)
theorem litP_prM (b:List Int):(litP b).map prM=b.map litOf:=by rw [List.map_map];rfl
noncomputable def sofP:List Run->St2
 | []=>[]
 | r :: rs=>litP r.1 ++ (r.2.1,r.2.2) :: sofP rs
theorem sofP_n:sofP []=[]:=rfl
theorem sofP_c {r:Run} {rs:List Run}:sofP (r :: rs)=litP r.1 ++ (r.2.1,r.2.2) :: sofP rs:=rfl
noncomputable def sofBody:ST:=(sQ (sX (mM isL (mL 2) (eC (mComp (itBytes (mL 3)) 0 (fun C=>(aL 0)) (fun C=>bTrue) (fun C=>(mU (eC (mC (.int 0)) (eC (mL 0) eN))))) eN) cExtend))
   (sX (mM isL (mL 2) (eC (mU (eC (mL 4) (eC (mL 5) eN))) eN) cA)))
theorem aTup3L {J:LC} {O:Own} {Q:LC->Own->Prop} {i j k:Nat} {x y z:MV} (h:Q (upd (upd (upd J i x) j y) k z) O):aT 3 (aC (aL i) (aC (aL j) (aC (aL k) aN))) (.tup [x,y,z]) J O Q :=
 ⟨[x,y,z],rfl,rfl,⟨x,[y,z],rfl,⟨y,[z],rfl,⟨z,[],rfl,rfl,h⟩⟩⟩⟩
theorem sof_loop {O₀:Own} {S l:Addr} {xs0:List MV} (hl:O₀ l=some (.list xs0)) (hS:O₀ S=none):∀ (rs:List Run) (acc:St2) (J:LC) (O:Own) (Q:PS) (E:PE),
   J 2=some (.ref S)->O S=some (.list (acc.map prM))->Ext O₀ O->acc.length + (sofP rs).length<=100000 ->
   (∀ J' O',(∀ k,k < 3->J' k=J k)->O' S=some (.list ((acc ++ sofP rs).map prM))->Ext O₀ O'->Q .next J' O') ->
   forL (aT 3 (aC (aL 3) (aC (aL 4) (aC (aL 5) aN)))) sofBody (fun O=>O l=some (.list xs0)) (rs.map runM) J O Q E:=by
 intro rs
 induction rs with
 | nil=>intro acc J O Q E e2 h1 h5 h7 h;exact⟨h5 _ _ hl,h J O (fun _ _=>rfl) (by rw [sofP_n,List.append_nil];exact h1) h5⟩
 | cons x r ih =>
   intro acc J O Q E e2 h1 h5 h7 h
   obtain ⟨b,f,s⟩:=x
   have hlen:(sofP ((b,f,s) :: r)).length=b.length + (1 + (sofP r).length):=by
     rw [sofP_c,List.length_append,List.length_cons,List.length_map];dsimp only;lia
   rw [hlen] at h7
   rw [List.map_cons]
   refine ⟨h5 _ _ hl,aTup3L ?_⟩
   generalize hρ:upd (upd (upd J 3 (.bytes b)) 4 (.int f)) 5 (.int s)=J1
   have k1:∀ k,k < 3->J1 k=J k:=fun k hk=>(congrFun hρ _).symm.trans (by rw [uD (lT hk),uD (lT hk),uD (lT hk)])
   have f3:J1 3=some (.bytes b):=(congrFun hρ _).symm.trans (by rw [uD dC,uD dC];exact uL)
   have f4:J1 4=some (.int f):=(congrFun hρ _).symm.trans (by rw [uD dC];exact uL)
   have f5:J1 5=some (.int s):=(congrFun hρ _).symm.trans uL
   have f2:=(k1 2 dC).trans e2
   refine sE ?_
   refine sExtL f2 h1 (eV f3) (by rw [List.length_map];unfold yL;lia) fun D hD=>?_
   have hD0:=h5.free hD
   refine sAppL (v:=prM (f,s)) f2 (uP _ _ _) (evTup2 (eV f4) (eV f5)) (by rw [List.length_append,List.length_map,List.length_map];unfold yL;lia) ?_
   rw [uU]
   refine ih (acc ++ litP b ++ [(f,s)]) J1 _ Q E f2 ((uP _ _ _).trans (by rw [List.map_append,List.map_append,litP_prM];rfl)) ((h5.put hD0).put hS) (by rw [List.length_append,List.length_append,List.length_map,List.length_singleton];lia) ?_
   intro J' O' a1 a2 a3
   refine h J' O' (fun k hk=>(a1 k hk).trans (k1 k hk)) ?_ a3
   rw [a2,sofP_c];simp
theorem sof_main {l:Addr} {rs:List Run} {last:List Int} {J:LC} {O:Own} {Q:PV} {E:PE} (e0:J 0=some (.ref l)) (e1:J 1=some (.bytes last)) (hl:O l=some (.list (rs.map runM))) (hx:(sofP rs).length + last.length<=100000)
   (hE:∀ k O',cH (sofP rs ++ litP last)=some k->Ext O O'->E (.ref k) O') (hQ:∀ S O',cH (sofP rs ++ litP last)=none->O S=none->O' S=some (.list ((sofP rs ++ litP last).map prM))->Ext O O'->Q (.ref S) O') :
   f_steps_of_runs 0 J O (kRet Q) E:=by
 unfold f_steps_of_runs
 refine sE ?_
 refine ⟨yl0,fun S hS=>?_⟩
 refine aI ?_
 refine sE ?_
 have x1:Ext O (upd O S (.list [])):=.upd hS
 refine sFor_list (l:=l) (xs:=rs.map runM) (by rw [uD dC];exact e0) (x1 _ _ hl) ?_
 refine sof_loop hl hS rs [] _ _ _ E uL (uP _ _ _) x1 ((Nat.zero_add _).symm ▸ (le_sum hx)) ?_
 intro J' O' a1 a2 a3
 have g2:J' 2=some (.ref S):=(a1 2 dC).trans uL
 have g1:J' 1=some (.bytes last):=(a1 1 dC).trans ((uD dC).trans e1)
 refine sE ?_
 refine sExtL g2 a2 (eV g1) (by rw [List.length_map];unfold yL;simp;exact lE hx) fun D hD=>?_
 have hD0:=a3.free hD
 refine sE ?_
 have hS2:upd (upd O' D (.list (last.map litOf))) S (.list ((([] ++ sofP rs)).map prM ++ last.map litOf)) S=some (.list ((sofP rs ++ litP last).map prM)):=by
   rw [uP,List.nil_append,List.map_append,litP_prM]
 have x2:Ext O (upd (upd O' D (.list (last.map litOf))) S (.list ((([] ++ sofP rs)).map prM ++ last.map litOf))):=(a3.put hD0).put hS
 refine ⟨_,g2,c_check hS2 ?_⟩
 cases hc:cH (sofP rs ++ litP last) with
 | some k=>exact hE k _ hc x2
 | none =>
   refine ⟨rfl,?_⟩
   refine sRetI (eV g2) ?_
   exact hQ S _ hc hS hS2 x2
theorem c_sof2 {l:Addr} {rs:List Run} {last:List Int} {O:Own} {Q:PV} {E:PE} (hl:O l=some (.list (rs.map runM))) (hx:(sofP rs).length + last.length<=100000)
   (hE:∀ k O',cH (sofP rs ++ litP last)=some k->Ext O O'->E (.ref k) O') (hQ:∀ S O',cH (sofP rs ++ litP last)=none->O S=none->O' S=some (.list ((sofP rs ++ litP last).map prM))->Ext O O'->Q (.ref S) O'):c_steps_of_runs2 [.ref l,.bytes last] O Q E:=by
 refine ⟨rfl,ent2 rfl fun L _=>?_⟩
 exact sof_main rfl rfl hl hx hE hQ
theorem c_sof1 {l:Addr} {rs:List Run} {O:Own} {Q:PV} {E:PE} (hl:O l=some (.list (rs.map runM))) (hx:(sofP rs).length<=100000)
   (hE:∀ k O',cH (sofP rs ++ litP [])=some k->Ext O O'->E (.ref k) O') (hQ:∀ S O',cH (sofP rs ++ litP [])=none->O S=none->O' S=some (.list ((sofP rs ++ litP []).map prM))->Ext O O'->Q (.ref S) O'):c_steps_of_runs1 [.ref l] O Q E:=by
 refine ⟨rfl,ent2 rfl fun L _=>?_⟩
 exact sof_main (last:=[]) rfl rfl hl hx hE hQ
noncomputable def Sheet (O:Own) (s l:Addr) (N:Int):Prop:=∃ (xs:List Int) (n:Int),O s=some (.list [.ref l,.int n])/\O l=some (.list (xs.map .int))/\l ≠ s/\(∀ x ∈ xs,0<=x)/\xs.length<=64/\0<=n/\n<=N
theorem evMod {f g:ET} {J:LC} {O:Own} {u v:Int} (hf:Evl f J O (.int u)) (hg:Evl g J O (.int v)) (h:0 < v):Evl (mB .Mod f g) J O (.int (u % v)):=fun Q E q=>hf _ _ (hg _ _ ⟨h,q⟩)
theorem evDiv {f g:ET} {J:LC} {O:Own} {u v:Int} (hf:Evl f J O (.int u)) (hg:Evl g J O (.int v)) (h:0 < v) (h':v < 2 ^ 30):Evl (mB .FloorDiv f g) J O (.int (u / v)):=fun Q E q=>hf _ _ (hg _ _ ⟨h,h',q⟩)
theorem evMul {f g:ET} {J:LC} {O:Own} {u v:Int} (hf:Evl f J O (.int u)) (hg:Evl g J O (.int v)) (h:u.natAbs < 2 ^ 64):Evl (mB .Mult f g) J O (.int (u * v)):=fun Q E q=>hf _ _ (hg _ _ ⟨h,q⟩)
theorem evIntGt {f g:ET} {J:LC} {O:Own} {u v:Int} (hf:Evl f J O (.int u)) (hg:Evl g J O (.int v)):Evl (mA (eC (mCmp .Gt f g) eN) cInt) J O (.int (if decide (u > v)=true then 1 else 0)):=fun Q E q=>hf _ _ (hg _ _ ⟨decide (u > v),rfl,q⟩)
theorem sIfNil {f:ET} {a b:ST} {l:Addr} {xs:List Int} {J:LC} {O:Own} {Q:PS} {E:PE} (hf:Evl f J O (.ref l)) (hl:O l=some (.list (xs.map .int)))
   (h:∀ r,O r=none->if xs=[] then a J (upd O r (.list [])) Q E else b J (upd O r (.list [])) Q E):sIf (bDCmp .Eq f (mLst eN)) a b J O Q E:=by
 refine hf _ _ ⟨yl0,fun r hr=>?_⟩
 refine ⟨l,r,rfl,rfl,.inl ⟨xs,[],(Ext.upd hr) _ _ hl,uP _ _ _,.inl ⟨rfl,?_⟩⟩⟩
 have h':=h r hr
 by_cases q:xs=[]
 . replace h':=ifT' q h';rw [decide_eq_true q];dsimp only;refine ifT rfl ?_;exact h'
 . replace h':=ifF' q h';rw [decide_eq_false q];dsimp only;refine ifF Bool.false_ne_true ?_;exact h'
theorem c_fig {s l:Addr} {N many:Int} {O:Own} {Q:PV} {E:PE} (hS:Sheet O s l N) (hN:N<=100000) (h1:0 < many) (h2:many<=100000)
   (hq:∀ v O' l',0<=v->v < many->Sheet O' s l' (N + 1)->(l'=l \/ O l'=none)->ExtB s O O'->Q (.int v) O'):cL [.ref s,.int many] O Q E:=by
 obtain ⟨xs,n,hs,hl,hne,hx,hlen,hn0,hnN⟩:=hS
 refine ⟨rfl,ent2 rfl fun L _=>?_⟩
 generalize hρ:upd (upd (fun _=>none) 0 (MV.ref s)) 1 (MV.int many)=J
 have e0:J 0=some (.ref s):=(congrFun hρ _).symm
 have e1:J 1=some (.int many):=(congrFun hρ _).symm
 unfold f__law_figure
 refine sE ?_
 refine sG (v:=.int (n + 1)) (evAdd (evIdxL (eV e0) eS hs dC dC rfl) eS) ?_
 refine ⟨_,e0,.inl ⟨[.ref l,.int n],hs,by decide,by simp,yl2,?_⟩⟩
 generalize hσ:upd O s (.list (([.ref l,.int n]:List MV).set (Int.toNat 1) (.int (n + 1))))=O1
 have hs1:O1 s=some (.list [.ref l,.int (n + 1)]):=(congrFun hσ _).symm.trans (uP _ _ _)
 have hl1:O1 l=some (.list (xs.map .int)):=(congrFun hσ _).symm.trans ((uN hne).trans hl)
 have x1:ExtB s O O1:=hσ ▸ .upd
 have es0:∀ O2,O2 s=some (.list [.ref l,.int (n + 1)])->∀ J':LC,J' 0=some (.ref s)->Evl (mI (mL 0) (mC (.int 0))) J' O2 (.ref l):=fun O2 h J' h'=>evIdxL (eV h') eS h dC dC rfl
 have es1:∀ O2,O2 s=some (.list [.ref l,.int (n + 1)])->∀ J':LC,J' 0=some (.ref s)->Evl (mI (mL 0) (mC (.int 1))) J' O2 (.int (n + 1)):=fun O2 h J' h'=>evIdxL (eV h') eS h dC dC rfl
 refine sE ?_
 refine sIfNil (es0 O1 hs1 J e0) hl1 fun r hr=>?_
 have x2:Ext O1 (upd O1 r (.list [])):=.upd hr
 generalize hσ2:upd O1 r (.list [])=O2 at x2 ⊢
 have hs2:=x2 _ _ hs1
 have hl2:=x2 _ _ hl1
 have hr2:O2 r=some (.list ([].map .int)):=(congrFun hσ2 _).symm.trans (uP _ _ _)
 cases xs with
 | nil =>
   refine ifT rfl ?_
   have ee:=es1 O2 hs2 J e0
   have hb:(5 * (n + 1)).natAbs < 2 ^ 64:=by lia
   refine sRetI (evMod (evMod (evAdd (evAdd (evMul (evMul eS ee dC) ee hb) (evMul eS ee dC)) eS) eS dC) (eV e1) h1) ?_
   refine hq _ O2 l (Int.emod_nonneg _ (Int.ne_of_gt h1)) (Int.emod_lt_of_pos _ h1) ⟨[],n + 1,hs2,hl2,hne,hx,hlen,(Int.add_nonneg hn0 dC),(Int.add_le_add hnN dC)⟩ (.inl rfl) (x1.trans x2.toB)
 | cons a xs =>
   refine ifF nofun ?_
   refine si ?_
   refine sE ?_
   have ea:Evl (mI (mI (mL 0) (mC (.int 0))) (mC (.int 0))) J O2 (.int a):=evIdxL (es0 O2 hs2 J e0) eS hl2 dC dC rfl
   refine sG (v:=.tup [.int (a % many),.int (a / many)]) (evTup2 (evMod ea (eV e1) h1) (evDiv ea (eV e1) h1 (illt h2))) (aTupRL ?_)
   generalize hρ1:upd (upd J 3 (.int (a / many))) 2 (.int (a % many))=J1
   have f0:J1 0=some (.ref s):=(congrFun hρ1 _).symm.trans (by rw [uD dC,uD dC];exact e0)
   have f2:J1 2=some (.int (a % many)):=(congrFun hρ1 _).symm.trans uL
   have f3:J1 3=some (.int (a / many)):=(congrFun hρ1 _).symm.trans (by rw [uD dC];exact uL)
   have ha:0<=a:=hx a (.head _)
   have hdv:0<=a / many:=Int.ediv_nonneg ha (Int.le_of_lt h1)
   refine sE ?_
   refine ⟨_,f3,yl1,fun u hu=>?_⟩
   have x3:Ext O2 (upd O2 u (.list [.int (a / many)])):=.upd hu
   refine evIntGt (eV f3) eS _ _ ?_
   generalize hc:decide (a / many > 0)=c
   refine ⟨rfl,[.int (a / many)],uP _ _ _,by cases c <;> decide,by cases c <;> decide,by cases c <;> simp [yL],fun v hv=>?_⟩
   have x4:=Ext.upd (o:=.list (List.replicate (if c=true then (1:Int) else 0).toNat [MV.int (a / many)]).flatten) hv
   have hs4:=x4 _ _ (x3 _ _ hs2)
   have hl4:=x4 _ _ (x3 _ _ hl2)
   refine es0 _ hs4 J1 f0 _ _ ?_
   refine ⟨1,rfl,?_⟩
   refine ⟨_,hl4,by rw [List.length_map];unfold yL;exact lE hlen,fun w hw=>?_⟩
   have x5:=Ext.upd (o:=.list (cutM ((a :: xs).map MV.int) (some 1) none)) hw
   have hcut:cutM ((a :: xs).map MV.int) (some 1) none=xs.map MV.int:=by
     unfold cutM
     simp only [Option.elim]
     have:clipAt ((a :: xs).map MV.int).length 1=1:=by rw [clip_in dC (by simp;lia)];rfl
     rw [this]
     refine (?_:List.take _ (List.map MV.int xs)=_)
     exact List.take_of_length_le (Nat.le_refl _)
   have hrep:(List.replicate (if c=true then (1:Int) else 0).toNat [MV.int (a / many)]).flatten=(if c=true then [a / many] else []).map MV.int:=by cases c <;> rfl
   have hw4:=x5 _ _ (uP _ v _)
   have hl5:=x5 _ _ hl4
   have hs5:=x5 _ _ hs4
   have xx:Ext O1 _:=x2.trans (x3.trans (x4.trans x5))
   refine ⟨rfl,_,_,hw4,uP _ _ _,?_,fun t ht=>?_⟩
   . rw [hrep,hcut];cases c <;> simp [yL] <;> simp at hlen <;> lia
   have x6:=Ext.upd (o:=.list ((List.replicate (if c=true then (1:Int) else 0).toNat [MV.int (a / many)]).flatten ++ cutM ((a :: xs).map MV.int) (some 1) none)) ht
   have hs6:=x6 _ _ hs5
   have hts:t ≠ s:=(nO hs5 ht).symm
   refine ⟨_,f0,.inl ⟨_,hs6,by decide,by simp,yl2,?_⟩⟩
   refine sRetI (eV f2) ?_
   refine hq _ _ t (Int.emod_nonneg _ (Int.ne_of_gt h1)) (Int.emod_lt_of_pos _ h1) ⟨(if c=true then [a / many] else []) ++ xs,n + 1,uP _ _ _,?_,hts,?_,?_,(Int.add_nonneg hn0 dC),(Int.add_le_add hnN dC)⟩ (.inr ?_) (x1.trans ((xx.trans x6).toB.trans .upd))
   . rw [uN hts,uP,hrep,hcut,<- List.map_append]
   . intro x hx'
     rcases List.mem_append.mp hx' with h' | h'
     . cases c
       . cases h'
       . rw [List.mem_singleton.mp h'];exact hdv
     . exact hx x (.tail _ h')
   . rw [List.length_append];simp at hlen;cases c <;> simp <;> lia
   . cases q:O t with
     | none=>rfl
     | some o=>exact na ht (xx _ _ (x1 _ _ hts q))
theorem evNeg {f:ET} {J:LC} {O:Own} {u:Int} (hf:Evl f J O (.int u)):Evl (mNeg f) J O (.int (-u)):=fun Q E q=>hf _ _ ⟨u,rfl,q⟩
theorem evIteT {t:Mn.BT} {f g:ET} {J:LC} {O:Own} {v:MV} (h:Tst t J O true) (k:Evl f J O v):Evl (mIte t f g) J O v:=fun Q E q=>h (fun c O'=>if c=true then f J O' Q E else g J O' Q E) E (by refine ifT rfl ?_;exact k _ _ q)
theorem evIteF {t:Mn.BT} {f g:ET} {J:LC} {O:Own} {v:MV} (h:Tst t J O false) (k:Evl g J O v):Evl (mIte t f g) J O v:=fun Q E q=>h (fun c O'=>if c=true then f J O' Q E else g J O' Q E) E (by refine ifF Bool.false_ne_true ?_;exact k _ _ q)
theorem evBack {f g:ET} {J:LC} {O:Own} {l:Addr} {xs:List MV} {s:Int} {v:MV} (hf:Evl f J O (.ref l)) (hg:Evl g J O (.int (-s))) (hl:O l=some (.list xs)) (h0:1<=s) (h1:s<=xs.length) (h2:xs.length<=1000000) (hx:xs[xs.length - s.toNat]?=some v):Evl (mI f g) J O v:=by
 intro Q E hq
 refine hf _ _ (hg _ _ ⟨v,?_,⟨-s,rfl,by lia,by lia⟩,hq⟩)
 rw [geti_ls hl]
 unfold pick
 rw [if_neg (by lia),if_pos (by lia)]
 have:(-s + (xs.length:Int)).toNat=xs.length - s.toNat:=toNat_nsub (idn h0)
 rw [this];exact hx
noncomputable abbrev fitStep:ST:=(sX (mM isL (mL 3) (eC (mIte (bC .Eq (mL 4) (mC (.int 0))) (mL 5) (mI (mL 3) (mNeg (mL 5)))) eN) cA))
theorem fitL_inner (m:Addr) (f s:Int) (O:Own) (hf:1<=f):∀ (xs:List MV) (J:LC) (b:List Int) (Q:PS) (E:PE),
   J 3=some (.ref m)->J 4=some (.int f)->J 5=some (.int s)->1<=s->s<=b.length->b.length + xs.length<=1000000 ->
   (∀ J':LC,(∀ k,k ≠ 6->J' k=J k)->Q .next J' (upd O m (.list ((copyN s.toNat xs.length b).map .int)))) ->
   forL (aL 6) fitStep (fun _=>True) xs J (upd O m (.list (b.map .int))) Q E:=by
 intro xs
 induction xs with
 | nil=>intro J b Q E h3 h4 h5 h1 hs hl h;exact⟨trivial,h J fun _ _=>rfl⟩
 | cons x r ih =>
   intro J b Q E h3 h4 h5 h1 hs hl h
   rw [List.length_cons] at hl
   refine ⟨trivial,aI ?_⟩
   have e3:upd J 6 x 3=some (.ref m):=by rw [uD dC];exact h3
   have e4:upd J 6 x 4=some (.int f):=by rw [uD dC];exact h4
   have e5:upd J 6 x 5=some (.int s):=by rw [uD dC];exact h5
   have te:=tEq (O:=upd O m (.list (b.map .int))) (eV e4) (eS (v:=.int 0))
   rw [decide_eq_false (idne hf)] at te
   refine sAppL (v:=.int (b.getD (b.length - s.toNat) 0)) e3 (uP _ _ _) (evIteF te (evBack (eV e3) (evNeg (eV e5)) (uP _ _ _) h1 (by rw [List.length_map];exact hs) (by rw [List.length_map];exact le_sum hl) ?_)) (by rw [List.length_map];unfold yL;exact le_sum hl) ?_
   . rw [List.length_map,List.getElem?_map,some_getD (subt_lt h1 hs)];rfl
   . rw [uU]
     have:b.map MV.int ++ [.int (b.getD (b.length - s.toNat) 0)]=(b ++ [b.getD (b.length - s.toNat) 0]).map .int:=by rw [List.map_append];rfl
     rw [this]
     refine ih (upd J 6 x) _ Q E e3 e4 e5 h1 (by rw [List.length_append];simp;exact Int.le_of_lt (Int.lt_add_one_of_le hs)) (by rw [List.length_append];simp;lia) fun J' hρ=>h J' fun k hk=>?_
     rw [hρ k hk,uD hk]
noncomputable def lawFit (xs:St2) (whole:List Int) (p:Nat):Bool:=match unp xs (whole.take p) with
 | some b=>decide (b=whole)
 | none=>false
noncomputable def fitLBody:ST:=(sQ (sIf (bAnd (bC .Gt (mL 4) (mC (.int 0))) (bC .Gt (mL 5) (mA (eC (mL 3) eN) cN))) (sR (mC (.bool false))) sN)
   (sFor (itRange1 (mA (eC (mC (.int 1)) (eC (mL 4) eN)) cMax)) (aL 6) fitStep))
theorem evMax {f g:ET} {J:LC} {O:Own} {u v:Int} (hf:Evl f J O (.int u)) (hg:Evl g J O (.int v)):Evl (mA (eC f (eC g eN)) cMax) J O (.int (max u v)):=fun Q E q=>hf _ _ (hg _ _ ⟨u,v,rfl,q⟩)
theorem fitL_loop (m:Addr) (O:Own) (g:Own->Prop) (hg:∀ o,g (upd O m o)):∀ (xs:St2) (J:LC) (b:List Int) (Q:PS) (E:PE),
   J 3=some (.ref m)->xs.all okA=true->xs.all okD=true->b.length + sz xs<=100000->oct? b ->
   (match unp xs b with
     | some b'=>∀ J':LC,(∀ k,k < 4->J' k=J k)->oct? b'->b'.length<=100000->Q .next J' (upd O m (.list (b'.map .int)))
     | none=>∀ J' o,Q (.ret (.bool false)) J' (upd O m o)) ->
   forL (aT 2 (aC (aL 4) (aC (aL 5) aN))) fitLBody g (xs.map prM) J (upd O m (.list (b.map .int))) Q E:=by
 intro xs
 induction xs with
 | nil=>intro J b Q E h3 hx hd hl ho h;exact⟨hg _,h J (fun _ _=>rfl) ho (le_sum hl)⟩
 | cons p r ih =>
   intro J b Q E h3 hx hd hl ho h
   obtain ⟨a,d⟩:=p
   rw [List.all_cons,Bool.and_eq_true] at hx hd
   rw [sz_cons] at hl
   rw [List.map_cons]
   refine ⟨hg _,aTupL ?_⟩
   generalize hρ':upd (upd J 4 (.int a)) 5 (.int d)=J'
   have e3:J' 3=some (.ref m):=(congrFun hρ' _).symm.trans (by rw [uD dC,uD dC];exact h3)
   have e4:J' 4=some (.int a):=(congrFun hρ' _).symm.trans (by rw [uD dC];exact uL)
   have e5:J' 5=some (.int d):=(congrFun hρ' _).symm.trans uL
   have eq:∀ k,k < 4->J' k=J k:=by
     intro k hk;subst hρ';rw [uD (lT hk),uD (lT hk)]
   have em:upd O m (.list (b.map .int)) m=some (.list (b.map .int)):=uP _ _ _
   refine sE ?_
   by_cases h0:a=0
   . subst h0
     have hdd:0<=d/\d<=255:=of_decide_eq_true hx.1
     have hs:stSz (0,d)=1:=rfl
     rw [hs] at hl
     rw [unp_c,if_pos rfl] at h
     refine sIfF (tAndF ((tGt (eV e4) eS).to rfl)) ?_
     refine si ?_
     refine sRange1 (i:=1) (evMax eS (eV e4)) dC dC ?_
     refine ⟨trivial,aI ?_⟩
     generalize hx6:upd J' 6 (MV.int (0 + (0:Nat)))=J6
     have g3:J6 3=some (.ref m):=(congrFun hx6 _).symm.trans (by rw [uD dC];exact e3)
     have g4:J6 4=some (.int 0):=(congrFun hx6 _).symm.trans (by rw [uD dC];exact e4)
     have g5:J6 5=some (.int d):=(congrFun hx6 _).symm.trans (by rw [uD dC];exact e5)
     have te:=tEq (O:=upd O m (.list (b.map .int))) (eV g4) (eS (v:=.int 0))
     rw [decide_eq_true rfl] at te
     refine sAppL (v:=.int d) g3 em (evIteT te (eV g5)) (by rw [List.length_map];unfold yL;lia) ?_
     refine ⟨trivial,?_⟩
     rw [uU]
     have:b.map MV.int ++ [.int d]=(b ++ [d]).map .int:=by rw [List.map_append];rfl
     rw [this]
     refine ih J6 _ Q E g3 hx.2 hd.2 (by rw [List.length_append,List.length_singleton];lia) (oct_app ho hdd.1 (illt hdd.2)) ?_
     split
     . rename_i b' hb
       rw [hb] at h
       exact fun J'' hk ho' hl'=>h J'' (fun k hk'=>(hk k hk').trans ((congrFun hx6 _).symm.trans (by rw [uD (lT hk')];exact eq k hk'))) ho' hl'
     . rename_i hb
       rw [hb] at h
       exact h
   . have ha:2<=a:=of_decide_eq_true ((okA1 h0).symm.trans hx.1)
     have hd1:1<=d:=by simpa [okD,h0] using hd.1
     have hs:stSz (a,d)=a.toNat:=by simp [stSz,h0]
     rw [hs] at hl
     rw [unp_c,if_neg h0] at h
     have hy:yL b.length:=by unfold yL;lia
     have ha0:0 < a:=idlt ha
     by_cases hd2:d<=b.length
     . rw [if_pos ⟨hd1,hd2⟩] at h
       have hd3:¬ ((b.length:Int) < d):=leg hd2
       refine sIfF (tAndT ((tGt (eV e4) eS).to (decide_eq_true ha0)) ((tGt (eV e5) (evLenI (eV e3) em hy)).to (decide_eq_false hd3))) ?_
       refine si ?_
       refine sRange1 (i:=max 1 a) (evMax eS (eV e4)) (by lia) (by lia) ?_
       have hmax:(max 1 a).toNat=a.toNat:=by lia
       rw [hmax]
       refine fitL_inner m a d O (idn ha) _ J' b _ E e3 e4 e5 hd1 hd2 (by rw [List.length_map,uI];lia) fun J'' hk=>?_
       rw [List.length_map,uI]
       refine ih J'' _ Q E ((hk 3 dC).trans e3) hx.2 hd.2 (by rw [copyN_len];lia) (oct_copy _ _ _ ho) ?_
       split
       . rename_i b' hb
         rw [hb] at h
         exact fun J3 hk' ho' hl'=>h J3 (fun k hk2=>(hk' k hk2).trans ((hk k (lT hk2)).trans (eq k hk2))) ho' hl'
       . rename_i hb
         rw [hb] at h
         exact h
     . rw [if_neg (fun q=>hd2 q.2)] at h
       have hd3:(b.length:Int) < d:=ile hd2
       refine sIfT (tAndT ((tGt (eV e4) eS).to (decide_eq_true ha0)) ((tGt (eV e5) (evLenI (eV e3) em hy)).to (decide_eq_true hd3))) ?_
       exact h _ _
theorem cut_to {b:List Int} {k:Nat} (h:k<=b.length):cutM b none (some (k:Int))=b.take k:=by
 unfold cutM
 simp only [Option.elim,List.drop_zero,Nat.sub_zero]
 rw [clip_in (Int.natCast_nonneg _) (cast_le h),Int.toNat_natCast]
theorem oct_take {b:List Int} (h:oct? b) (k:Nat):oct? (b.take k):=fun i hi=>h i (List.mem_of_mem_take hi)
theorem c_lfit {l:Addr} {xs:St2} {whole:List Int} {p:Nat} {O:Own} {Q:PV} {E:PE} (hl:O l=some (.list (xs.map prM))) (ho:oct? whole) (hA:xs.all okA=true) (hD:xs.all okD=true) (hy:whole.length + sz xs<=100000) (hp:p<=whole.length)
   (hq:∀ O',Ext O O'->Q (.bool (lawFit xs whole p)) O'):c__law_fit [.ref l,.bytes whole,.int (p:Int)] O Q E:=by
 refine ⟨rfl,ent3 rfl fun L _=>?_⟩
 generalize hρ:upd (upd (upd (fun _=>none) 0 (MV.ref l)) 1 (MV.bytes whole)) 2 (MV.int (p:Int))=J
 have e0:J 0=some (.ref l):=(congrFun hρ _).symm
 have e1:J 1=some (.bytes whole):=(congrFun hρ _).symm
 have e2:J 2=some (.int (p:Int)):=(congrFun hρ _).symm
 unfold f__law_fit
 refine sE ?_
 refine ⟨_,e1,⟨_,e2,_,rfl,⟨by unfold yL;lia,?_⟩⟩⟩
 refine ⟨_,rfl,?_⟩
 refine (?_:yL _/\_)
 rw [cut_to hp]
 refine ⟨by unfold yL;rw [List.length_take];lia,fun m hm=>?_⟩
 refine aI ?_
 have hml:l ≠ m:=nO hl hm
 have x1:∀ o,Ext O (upd O m o):=fun o=>.upd hm
 refine sE ?_
 refine sFor_list (l:=l) (xs:=xs.map prM) (by rw [uD dC];exact e0) ((uN hml).trans hl) ?_
 refine fitL_loop m O _ (fun o=>(uN hml).trans hl) xs _ (whole.take p) _ E uL hA hD (by rw [List.length_take];lia) (oct_take ho p) ?_
 unfold lawFit at hq
 split
 . rename_i b hb
   rw [hb] at hq
   intro J' hk ho' hl'
   have g3:J' 3=some (.ref m):=(hk 3 dC).trans uL
   have g1:J' 1=some (.bytes whole):=(hk 1 dC).trans ((uD dC).trans e1)
   refine ⟨_,g3,.ref m,rfl,.inr ⟨b,uP _ _ _,ho',by unfold yL;exact lE hl',⟨_,g1,?_⟩⟩⟩
   exact hq _ (x1 _)
 . rename_i hb
   rw [hb] at hq
   exact fun J' o=>hq _ (x1 _)
theorem copyN_pre (s:Nat):∀ (n:Nat) (b:List Int),∃ t,copyN s n b=b ++ t
 | 0,b=>⟨[],by rw [copyN_n,List.append_nil]⟩
 | n + 1,b=>by
   obtain ⟨t,h⟩:=copyN_pre s n (b ++ [b.getD (b.length - s) 0])
   exact⟨_,by rw [copyN_c,h,List.append_assoc]⟩
theorem unp_pre:∀ (xs:St2) (b b':List Int),unp xs b=some b'->∃ t,b'=b ++ t:=by
 intro xs
 induction xs with
 | nil=>intro b b' h;rw [unp_n] at h;cases h;exact⟨[],by simp⟩
 | cons x r ih =>
   intro b b' h
   obtain ⟨f,s⟩:=x
   by_cases h0:f=0
   . rw [unp_c,if_pos h0] at h
     obtain ⟨t,q⟩:=ih _ _ h
     exact⟨_,by rw [q,List.append_assoc]⟩
   . rw [unp_c,if_neg h0] at h
     by_cases h1:1<=s/\s<=b.length
     . rw [if_pos h1] at h
       obtain ⟨t,q⟩:=ih _ _ h
       obtain ⟨u,v⟩:=copyN_pre s.toNat f.toNat b
       exact⟨_,by rw [q,v,List.append_assoc]⟩
     . rw [if_neg h1] at h;cases h
theorem take_snoc {w:List Int} {p:Nat} (h:p < w.length):w.take p ++ [w.getD p 0]=w.take (p + 1):=by
 rw [List.take_add_one,some_getD h];rfl
theorem getD_take {w:List Int} {p k:Nat} (h:k < p):(w.take p).getD k 0=w.getD k 0:=by
 rw [List.getD_eq_getElem?_getD,List.getD_eq_getElem?_getD,List.getElem?_take_of_lt h]
theorem copy_right (w:List Int) (d:Nat) (h1:1<=d):∀ (n p:Nat),d<=p->p + n<=w.length ->
   (matchR w d n p=true->copyN d n (w.take p)=w.take (p + n))/\(matchR w d n p=false->∀ t,copyN d n (w.take p) ++ t ≠ w):=by
 intro n
 induction n with
 | zero=>intro p hd hp;exact⟨fun _=>rfl,fun h=>by rw [matchR_n] at h;cases h⟩
 | succ n ih =>
   intro p hd hp
   have hl:(w.take p).length=p:=by rw [List.length_take];lia
   have hg:(w.take p).getD ((w.take p).length - d) 0=w.getD (p - d) 0:=by rw [hl];exact getD_take (by lia)
   rw [matchR_c,copyN_c,hg]
   by_cases hx:w.getD p 0=w.getD (p - d) 0
   . rw [decide_eq_true hx,Bool.true_and,<- hx,take_snoc (by lia)]
     have:=ih (p + 1) (Nat.le_of_lt (Nat.lt_succ_of_le hd)) (by lia)
     rw [show p + 1 + n=p + (n + 1) by lia] at this
     exact this
   . rw [decide_eq_false hx,Bool.false_and]
     refine ⟨fun h=>(by cases h),fun _ t h=>hx ?_⟩
     obtain ⟨u,hu⟩:=copyN_pre d n (w.take p ++ [w.getD (p - d) 0])
     rw [hu] at h
     have:w.getD p 0=((w.take p ++ [w.getD (p - d) 0] ++ u) ++ t).getD p 0:=by rw [h]
     rw [this,List.getD_eq_getElem?_getD]
     simp [List.getElem?_append,hl]
theorem fit_same (w:List Int):∀ (xs:St2) (p:Nat),p<=w.length->xs.all okA=true->xs.all okD=true->fitP w xs p=lawFit xs w p:=by
 intro xs
 induction xs with
 | nil =>
   intro p hp _ _
   unfold fitP lawFit
   rw [fitEnd_n,unp_n]
   dsimp only
   by_cases h:p=w.length
   . rw [decide_eq_true (by lia),decide_eq_true (by rw [h,List.take_length])]
   . rw [decide_eq_false (by lia),decide_eq_false (fun q=>h (by have:=congrArg List.length q;rw [List.length_take] at this;lia))]
 | cons x r ih =>
   intro p hp hA hD
   obtain ⟨f,s⟩:=x
   rw [List.all_cons,Bool.and_eq_true] at hA hD
   have hl:(w.take p).length=p:=by rw [List.length_take];lia
   have bad:∀ b:List Int,(∀ t,b ++ t ≠ w)->(match unp r b with | some b'=>decide (b'=w) | none=>false)=false:=by
     intro b hb
     cases q:unp r b with
     | none=>rfl
     | some b' =>
       obtain ⟨t,ht⟩:=unp_pre r b b' q
       exact decide_eq_false fun e=>hb t (by rw [<- ht];exact e)
   unfold fitP lawFit
   rw [fitEnd_cons,unp_c]
   by_cases h0:f=0
   . rw [if_pos h0,if_pos h0]
     by_cases hq:(p:Int) >= w.length
     . rw [if_pos (.inl hq)]
       refine (bad _ fun t ht=>?_).symm
       have:=congrArg List.length ht
       rw [List.length_append,List.length_append,hl,List.length_singleton] at this
       lia
     . rw [Int.toNat_natCast]
       by_cases hx:w.getD p 0 ≠ s
       . rw [if_pos (.inr hx)]
         refine (bad _ fun t ht=>hx ?_).symm
         have:w.getD p 0=((w.take p ++ [s]) ++ t).getD p 0:=by rw [ht]
         rw [this,List.getD_eq_getElem?_getD]
         simp [List.getElem?_append,hl]
       . rw [if_neg (fun q=>q.elim hq hx)]
         have hx':w.getD p 0=s:=Decidable.not_not.mp hx
         rw [<- hx',take_snoc (of_cast_lt (ile hq))]
         have:=ih (p + 1) (by lia) hA.2 hD.2
         unfold fitP lawFit at this
         exact this
   . rw [if_neg h0,if_neg h0]
     have hf:2<=f:=of_decide_eq_true ((okA1 h0).symm.trans hA.1)
     have hs:1<=s:=of_decide_eq_true ((okD1 h0).symm.trans hD.1)
     rw [if_neg (leg hf),hl]
     by_cases hsp:s<=p
     . by_cases hq:(p:Int) + f > w.length
       . have hI:isMR w p f s=false:=by unfold isMR;rw [if_pos (.inl hq)]
         rw [hI,if_neg Bool.false_ne_true,if_pos (show 1<=s/\s<=(p:Int) from ⟨hs,hsp⟩)]
         refine (bad _ fun t ht=>?_).symm
         have:=congrArg List.length ht
         rw [List.length_append,copyN_len,hl] at this
         lia
       . have hI:isMR w p f s=matchR w s.toNat f.toNat p:=by unfold isMR;rw [if_neg (by lia),Int.toNat_natCast]
         rw [hI,if_pos (show 1<=s/\s<=(p:Int) from ⟨hs,hsp⟩)]
         have cr:=copy_right w s.toNat (Nat.succ_le_of_lt (toNat_pos hs)) f.toNat p (toNat_le hsp) (by lia)
         cases hm:matchR w s.toNat f.toNat p with
         | true =>
           rw [if_pos rfl,cr.1 hm]
           have:=ih (p + f.toNat) (by lia) hA.2 hD.2
           unfold fitP lawFit at this
           rw [show ((p + f.toNat:Nat):Int)=(p:Int) + f by lia] at this
           exact this
         | false =>
           rw [if_neg Bool.false_ne_true]
           exact (bad _ (cr.2 hm)).symm
     . have hI:isMR w p f s=false:=by unfold isMR;rw [if_pos (.inr (fun q=>hsp q.2))]
       rw [hI,if_neg Bool.false_ne_true,if_neg (fun q=>hsp q.2)]
theorem unp_app:∀ (xs ys:St2) (b:List Int),unp (xs ++ ys) b=(unp xs b).bind (unp ys)
 | [],ys,b=>rfl
 | (f,s) :: r,ys,b=>by
   rw [List.cons_append,unp_c,unp_c]
   by_cases h0:f=0
   . rw [if_pos h0,if_pos h0];exact unp_app r ys _
   . rw [if_neg h0,if_neg h0]
     by_cases h1:1<=s/\s<=b.length
     . rw [if_pos h1,if_pos h1];exact unp_app r ys _
     . rw [if_neg h1,if_neg h1];rfl
theorem copyN_add (s m:Nat):∀ (n:Nat) (b:List Int),copyN s (n + m) b=copyN s m (copyN s n b)
 | 0,b=>by rw [Nat.zero_add];rfl
 | n + 1,b=>by rw [show n + 1 + m=(n + m) + 1 by omega,copyN_c,copyN_c];exact copyN_add s m n _
theorem unp_lits:∀ (os b:List Int),unp (os.map fun o=>((0:Int),o)) b=some (b ++ os)
 | [],b=>by rw [List.map_nil,unp_n,List.append_nil]
 | o :: r,b=>by rw [List.map_cons,unp_c,if_pos rfl,unp_lits r,List.append_assoc];rfl
theorem pre_take {W B t:List Int} (h:W=B ++ t):B=W.take B.length:=by rw [h,List.take_left'];rfl
theorem take_app_drop (W:List Int) (a n:Nat):W.take a ++ (W.drop a).take n=W.take (a + n):=by
 rw [List.take_add]
noncomputable def CS (W:List Int) (a:Nat) (xs:St2) (L:Nat) (d:Int) (P:Nat):Prop:=xs.all okA=true/\xs.all okD=true/\(L ≠ 0->1<=d/\d<=((a + P:Nat):Int))/\unp xs (copyN d.toNat L (W.take (a + P)))=some W
noncomputable def RS (W:List Int) (row:St2) (p0 P:Nat):Prop:=unp row (W.take p0)=some (W.take P)/\row.all okA=true/\row.all okD=true
theorem RS.app {W:List Int} {row xs:St2} {p0 P P':Nat} (r:RS W row p0 P) (x:RS W xs P P'):RS W (row ++ xs) p0 P' :=
 ⟨by rw [unp_app,r.1];exact x.1,by rw [List.all_append,r.2.1,x.2.1];rfl,by rw [List.all_append,r.2.2,x.2.2];rfl⟩
theorem okA_lit {o:Int} (h:0<=o/\o < 256):okA (0,o)=true:=decide_eq_true ⟨h.1,Int.lt_add_one_iff.mp h.2⟩
theorem okA_mat {f s:Int} (h:2<=f):okA (f,s)=true:=by unfold okA;rw [if_neg (by rintro rfl;exact absurd h dC)];exact decide_eq_true h
theorem okD_lit {o:Int}:okD (0,o)=true:=rfl
theorem okD_mat {f s:Int} (h:1<=s):okD (f,s)=true:=by
 unfold okD
 split
 . rfl
 . exact decide_eq_true h
theorem min_nat {L P E:Nat} (h:P<=E):min (L:Int) ((E:Int) - (P:Int))=((min L (E - P):Nat):Int):=by lia
theorem part_row {hb tx:List Int} (ho:oct? tx) {M P:Nat} {d:Int} (hM:1<=M) (hP:P + M<=tx.length) (hd:1<=d/\d<=((hb.length + P:Nat):Int)) (hcp:copyN d.toNat M ((hb ++ tx).take (hb.length + P))=(hb ++ tx).take (hb.length + (P + M))) :
   RS (hb ++ tx) (partP tx P M d) (hb.length + P) (hb.length + (P + M)):=by
 have bl:((hb ++ tx).take (hb.length + P)).length=hb.length + P:=List.length_take_of_le (by rw [List.length_append];exact Nat.add_le_add_left (Nat.le_trans (Nat.le_add_right ..) hP) _)
 unfold partP
 by_cases h2:2<=(M:Int)
 . rw [if_pos h2]
   refine ⟨?_,?_,?_⟩
   . rw [unp_c,if_neg (by rintro h;rw [h] at h2;exact absurd h2 dC),bl,if_pos hd,unp_n]
     exact congrArg some hcp
   . rw [List.all_cons,okA_mat h2];rfl
   . rw [List.all_cons,okD_mat hd.1];rfl
 . rw [if_neg h2]
   refine ⟨?_,?_,?_⟩
   . rw [unp_lits]
     have:(tx.drop P).take M=((hb ++ tx).drop (hb.length + P)).take M:=by rw [List.drop_append,List.drop_eq_nil_of_le (Nat.le_add_right ..),List.nil_append,Nat.add_sub_cancel_left]
     refine (?_:some (_ ++ (tx.drop P).take M)=_)
     rw [this,take_app_drop,Nat.add_assoc]
   . rw [List.all_eq_true]
     intro x hx
     obtain ⟨o,ho',rfl⟩:=List.mem_map.mp hx
     exact okA_lit (ho o (List.mem_of_mem_drop (List.mem_of_mem_take ho')))
   . rw [List.all_eq_true]
     intro x hx
     obtain ⟨o,ho',rfl⟩:=List.mem_map.mp hx
     rfl
theorem part_law {hb tx:List Int} (ho:oct? tx) {xs row:St2} {L M P p0:Nat} {d:Int} (hM:1<=M) (hML:M<=L) (hP:P + M<=tx.length) (s:CS (hb ++ tx) hb.length xs L d P) (r:RS (hb ++ tx) row p0 (hb.length + P)) :
   CS (hb ++ tx) hb.length xs (L - M) d (P + M)/\RS (hb ++ tx) (row ++ partP tx P M d) p0 (hb.length + (P + M)):=by
 obtain ⟨hA,hD,hd,hu⟩:=s
 have hd':=hd (Nat.ne_of_gt (Nat.lt_of_lt_of_le hM hML))
 have bl:((hb ++ tx).take (hb.length + P)).length=hb.length + P:=List.length_take_of_le (by rw [List.length_append];exact Nat.add_le_add_left (Nat.le_trans (Nat.le_add_right ..) hP) _)
 rw [show L=M + (L - M) from (Nat.add_sub_of_le hML).symm,copyN_add] at hu
 have hcp:copyN d.toNat M ((hb ++ tx).take (hb.length + P))=(hb ++ tx).take (hb.length + (P + M)):=by
   obtain ⟨t,ht⟩:=unp_pre _ _ _ hu
   obtain ⟨t',ht'⟩:=copyN_pre d.toNat (L - M) (copyN d.toNat M ((hb ++ tx).take (hb.length + P)))
   rw [ht',List.append_assoc] at ht
   have:=pre_take ht
   rwa [copyN_len,bl,Nat.add_assoc] at this
 rw [hcp] at hu
 refine ⟨⟨hA,hD,fun _=>⟨hd'.1,Int.le_trans hd'.2 (Int.ofNat_le.mpr (Nat.add_le_add_left (Nat.le_add_right ..) _))⟩,hu⟩,r.app (part_row ho hM hP hd' hcp)⟩
noncomputable def CutOK (W:List Int) (a E p0:Nat) (c:St2 × St2 × Int × Int × Int):Prop:=∃ L:Nat,c.2.2.1=L/\CS W a c.2.1 L c.2.2.2.1 E/\RS W c.1 p0 (a + E)
theorem cutW_law {hb tx:List Int} (ho:oct? tx):∀ (n:Nat) (xs:St2) (L:Nat) (d:Int) (P E:Nat) (row:St2) (p0:Nat),P<=E->E<=tx.length->E - P<=n->CS (hb ++ tx) hb.length xs L d P->RS (hb ++ tx) row p0 (hb.length + P) ->
   CutOK (hb ++ tx) hb.length E p0 (cutW tx n xs L d P E row):=by
 intro n
 induction n with
 | zero =>
   intro xs L d P E row p0 h1 h2 h3 s r
   cases Nat.le_antisymm h1 (Nat.le_of_sub_eq_zero (Nat.le_zero.mp h3))
   exact⟨L,rfl,s,r⟩
 | succ n ih =>
   intro xs L d P E row p0 h1 h2 h3 s r
   rw [cutW_succ]
   by_cases hp:P < E
   . rw [if_pos (Int.ofNat_lt.mpr hp)]
     have part:∀ (xs:St2) (L:Nat) (d:Int),1<=L->CS (hb ++ tx) hb.length xs L d P->CutOK (hb ++ tx) hb.length E p0 (cutW tx n xs (L - min (L:Int) ((E:Int) - P)) d (P + min (L:Int) ((E:Int) - P)) E (row ++ partP tx P (min (L:Int) ((E:Int) - P)) d)):=by
       intro xs L d hL s
       rw [min_nat h1]
       have m1:1<=min L (E - P):=Nat.le_min.mpr ⟨hL,Nat.sub_pos_of_lt hp⟩
       have m3:P + min L (E - P)<=E:=Nat.le_trans (Nat.add_le_add_left (Nat.min_le_right ..) _) (Nat.le_of_eq (Nat.add_sub_of_le h1))
       obtain ⟨s',r'⟩:=part_law ho m1 (Nat.min_le_left ..) (Nat.le_trans m3 h2) s r
       rw [show ((L:Int) - ((min L (E - P):Nat):Int))=((L - min L (E - P):Nat):Int) from (Int.ofNat_sub (Nat.min_le_left ..)).symm]
       exact ih xs _ d (P + min L (E - P)) E _ p0 m3 h2 (by rw [Nat.sub_add_eq];exact Nat.le_of_lt_succ (Nat.lt_of_lt_of_le (Nat.sub_lt (Nat.sub_pos_of_lt hp) m1) h3)) s' r'
     by_cases hl:L=0
     . subst hl
       rw [if_pos (show ((0:Nat):Int)=0 from rfl)]
       obtain ⟨hA,hD,hd,hu⟩:=s
       rw [copyN_n] at hu
       have bl:((hb ++ tx).take (hb.length + P)).length=hb.length + P:=List.length_take_of_le (by rw [List.length_append];exact Nat.add_le_add_left (Nat.le_trans h1 h2) _)
       cases xs with
       | nil =>
         rw [unp_n] at hu
         have:=congrArg List.length (Option.some.inj hu)
         rw [bl,List.length_append] at this
         exact absurd (Nat.add_left_cancel this) (Nat.ne_of_lt (Nat.lt_of_lt_of_le hp h2))
       | cons x r' =>
         obtain ⟨f,s⟩:=x
         rw [List.all_cons,Bool.and_eq_true] at hA hD
         dsimp only
         by_cases hf:f=0
         . subst hf
           rw [if_pos rfl]
           rw [unp_c,if_pos rfl] at hu
           have hs:(hb ++ tx).take (hb.length + P) ++ [s]=(hb ++ tx).take (hb.length + (P + 1)):=by
             obtain ⟨t,ht⟩:=unp_pre _ _ _ hu
             have:=pre_take ht
             rwa [List.length_append,bl,List.length_singleton,Nat.add_assoc] at this
           rw [hs] at hu
           refine ih r' 0 d (P + 1) E (row ++ [(0,s)]) p0 hp h2 (Nat.le_of_lt_succ (Nat.lt_of_lt_of_le (Nat.sub_lt_sub_left hp (Nat.lt_succ_self P)) h3)) ⟨hA.2,hD.2,fun h=>absurd rfl h,hu⟩ (r.app ⟨?_,?_,rfl⟩)
           . rw [unp_c,if_pos rfl,unp_n,hs]
           . rw [List.all_cons,hA.1];rfl
         . rw [if_neg hf]
           have hf2:2<=f:=by have:=hA.1;unfold okA at this;rw [if_neg hf] at this;exact of_decide_eq_true this
           have hs1:1<=s:=by have:=hD.1;unfold okD at this;rw [if_neg hf] at this;exact of_decide_eq_true this
           rw [unp_c,if_neg hf,bl] at hu
           by_cases hs2:1<=s/\s<=((hb.length + P:Nat):Int)
           . rw [if_pos hs2] at hu
             obtain ⟨F,rfl⟩:=Int.eq_ofNat_of_zero_le (Int.le_trans dC hf2)
             exact part r' F s (Int.ofNat_le.mp (Int.le_trans dC hf2)) ⟨hA.2,hD.2,fun _=>hs2,hu⟩
           . rw [if_neg hs2] at hu;cases hu
     . rw [if_neg (show ¬ ((L:Nat):Int)=0 from fun h=>hl (Int.ofNat.inj h))]
       exact part xs L d (Nat.pos_of_ne_zero hl) s
   . rw [if_neg (fun h=>hp (Int.ofNat_lt.mp h))]
     cases Nat.le_antisymm h1 (Nat.not_lt.mp hp)
     exact⟨L,rfl,s,r⟩
noncomputable def RowsOK (W:List Int):List Int->List St2->Nat->Prop
 | [],[],_=>True
 | z :: zs,r :: rs,P=>(0<=z/\P + z.toNat<=W.length/\unp r (W.take P)=some (W.take (P + z.toNat))/\r.all okA=true/\r.all okD=true)/\RowsOK W zs rs (P + z.toNat)
 | _,_,_=>False
theorem rows_law {hb tx:List Int} (ho:oct? tx):∀ (zs:List Int) (xs:St2) (L:Nat) (d:Int) (P:Nat),(∀ z ∈ zs,0<=z)->(P:Int) + zs.sum=tx.length->CS (hb ++ tx) hb.length xs L d P->RowsOK (hb ++ tx) zs (cutRows tx zs xs L d P) (hb.length + P)
 | [],xs,L,d,P,_,_,_=>trivial
 | z :: zs,xs,L,d,P,hz,h3,s=>by
   have hz0:=hz z (.head _)
   have hzs:=sum_nonneg zs fun x hx=>hz x (.tail _ hx)
   rw [List.sum_cons] at h3
   rw [cutRows_c]
   obtain ⟨Z,rfl⟩:=Int.eq_ofNat_of_zero_le hz0
   have hE:P + Z<=tx.length:=by lia
   obtain ⟨L',e,s',r⟩:=cutW_law (hb:=hb) ho Z xs L d P (P + Z) [] (hb.length + P) (Nat.le_add_right ..) hE (Nat.le_of_eq (Nat.add_sub_cancel_left ..)) s ⟨rfl,rfl,rfl⟩
   have ih:=rows_law ho zs _ L' _ (P + Z) (fun x hx=>hz x (.tail _ hx)) (by lia) s'
   rw [<- e,<- Nat.add_assoc] at ih
   refine ⟨⟨hz0,by rw [List.length_append,Nat.add_assoc];exact Nat.add_le_add_left hE _,?_⟩,ih⟩
   rw [<- Nat.add_assoc] at r
   exact r
theorem runs_law:∀ (xs:St2) (h:List Int),sofP (runsP xs h).1 ++ litP (runsP xs h).2=litP h ++ xs
 | [],h=>by rw [runsP_n];simp [sofP_n]
 | (f,s) :: r,h=>by
   rw [runsP_c]
   by_cases h0:f=0
   . rw [if_pos h0,runs_law r (h ++ [s]),h0];simp [litP]
   . rw [if_neg h0]
     have ih:=runs_law r []
     dsimp only
     rw [sofP_c,List.append_assoc,List.cons_append,ih];rfl
noncomputable abbrev Dc:=List (Int × Int)
noncomputable def dcM (d:Dc):List (Int × MV):=d.map fun kv=>(kv.1,.int kv.2)
structure Cnt where
 lits:List Int
 ls:Dc
 ds:Dc
structure CAddr where
 c:Addr
 dx:Addr
 l1:Addr
 d1:Addr
 d2:Addr
structure CntAt (O:Own) (a:CAddr) (k:Cnt):Prop where
 obj:O a.c=some (.inst 260 a.dx)
 ns:∃ m,O a.dx=some (.ns m)/\m 10=some (.ref a.l1)/\m 11=some (.ref a.d1)/\m 12=some (.ref a.d2)
 lits:O a.l1=some (.list (k.lits.map .int))
 ls:O a.d1=some (.dict (dcM k.ls))
 ds:O a.d2=some (.dict (dcM k.ds))
 ne:a.d1 ≠ a.d2
 len:k.lits.length=256
theorem evAttC {f:ET} {J:LC} {O:Own} {a:CAddr} {k:Cnt} (h:CntAt O a k) (hf:Evl f J O (.ref a.c)):Evl (mT 260 10 f) J O (.ref a.l1)/\Evl (mT 260 11 f) J O (.ref a.d1)/\Evl (mT 260 12 f) J O (.ref a.d2):=by
 obtain ⟨m,h1,h2,h3,h4⟩:=h.ns
 have fl:∀ j u,m j=some u->Mn.fld O 260 a.c j=some u:=fun j u q=>fld_mk h.obj h1 q
 exact⟨fun Q E q=>hf _ _ ⟨_,_,rfl,fl _ _ h2,trivial,q⟩,fun Q E q=>hf _ _ ⟨_,_,rfl,fl _ _ h3,trivial,q⟩,fun Q E q=>hf _ _ ⟨_,_,rfl,fl _ _ h4,trivial,q⟩⟩
noncomputable def vInc (d:Dc) (k:Int):Dc:=vPut d k ((vAt d k).getD 0 + 1)
theorem vAt_dcM (d:Dc) (k:Int):vAt (dcM d) k=(vAt d k).map .int:=by
 unfold vAt dcM
 rw [List.find?_map,Option.map_map,Option.map_map];rfl
theorem vPut_dcM (d:Dc) (k v:Int):vPut (dcM d) k (.int v)=dcM (vPut d k v):=by
 unfold vPut dcM
 rw [List.any_map]
 by_cases h:(d.any fun kv=>decide (kv.1=k))=true
 . rw [if_pos h,if_pos (by exact h),List.map_map,List.map_map]
   refine List.map_congr_left fun kv _=>?_
   simp only [Function.comp]
   by_cases q:kv.1=k
   . rw [if_pos q,if_pos q]
   . rw [if_neg q,if_neg q]
 . rw [if_neg h,if_neg (by exact h),List.map_append];rfl
noncomputable def cnt1 (k:Cnt) (p:Int × Int):Cnt:=if p.1=0 then { k with lits:=k.lits.set p.2.toNat (k.lits.getD p.2.toNat 0 + 1) } else { k with ls:=vInc k.ls p.1,ds:=vInc k.ds p.2 }
noncomputable def cntP (k:Cnt) (xs:St2):Cnt:=xs.foldl cnt1 k
noncomputable def ExtC (a:CAddr) (O O':Own):Prop:=∀ x o,x ≠ a.l1->x ≠ a.d1->x ≠ a.d2->O x=some o->O' x=some o
theorem ExtC.trans {a:CAddr} {s t u:Own} (h:ExtC a s t) (k:ExtC a t u):ExtC a s u:=fun x o h1 h2 h3 q=>k x o h1 h2 h3 (h x o h1 h2 h3 q)
theorem nE {O:Own} {x y:Addr} {o o':MObj} (h:O x=some o) (k:O y=some o') (n:o ≠ o'):x ≠ y:=by
 rintro rfl;rw [h] at k;exact n (Option.some.inj k)
theorem CntAt.setL {O:Own} {a:CAddr} {k:Cnt} (h:CntAt O a k) {l:List Int} (hl:l.length=256):CntAt (upd O a.l1 (.list (l.map .int))) a { k with lits:=l }/\ExtC a O (upd O a.l1 (.list (l.map .int))):=by
 obtain ⟨m,m1,m2⟩:=h.ns
 refine ⟨⟨(uN (nE h.obj h.lits nofun)).trans h.obj,⟨m,(uN (nE m1 h.lits nofun)).trans m1,m2⟩,uP _ _ _,(uN (nE h.ls h.lits nofun)).trans h.ls,(uN (nE h.ds h.lits nofun)).trans h.ds,h.ne,hl⟩,fun x o n1 _ _ q=>(uN n1).trans q⟩
theorem CntAt.set1 {O:Own} {a:CAddr} {k:Cnt} (h:CntAt O a k) (d:Dc):CntAt (upd O a.d1 (.dict (dcM d))) a { k with ls:=d }/\ExtC a O (upd O a.d1 (.dict (dcM d))):=by
 obtain ⟨m,m1,m2⟩:=h.ns
 refine ⟨⟨(uN (nE h.obj h.ls nofun)).trans h.obj,⟨m,(uN (nE m1 h.ls nofun)).trans m1,m2⟩,(uN (nE h.lits h.ls nofun)).trans h.lits,uP _ _ _,(uN h.ne.symm).trans h.ds,h.ne,h.len⟩,fun x o _ n1 _ q=>(uN n1).trans q⟩
theorem CntAt.set2 {O:Own} {a:CAddr} {k:Cnt} (h:CntAt O a k) (d:Dc):CntAt (upd O a.d2 (.dict (dcM d))) a { k with ds:=d }/\ExtC a O (upd O a.d2 (.dict (dcM d))):=by
 obtain ⟨m,m1,m2⟩:=h.ns
 refine ⟨⟨(uN (nE h.obj h.ds nofun)).trans h.obj,⟨m,(uN (nE m1 h.ds nofun)).trans m1,m2⟩,(uN (nE h.lits h.ds nofun)).trans h.lits,(uN h.ne).trans h.ls,uP _ _ _,h.ne,h.len⟩,fun x o _ _ n1 q=>(uN n1).trans q⟩
theorem evGetD {f g:ET} {J:LC} {O:Own} {D:Addr} {d:Dc} {i:Int} (hf:Evl f J O (.ref D)) (hD:O D=some (.dict (dcM d))) (hg:Evl g J O (.int i)):Evl (mM isD f (eC g (eC (mC (.int 0)) eN)) cGet) J O (.int ((vAt d i).getD 0)):=by
 intro Q E q
 refine hf _ _ ⟨⟨D,_,rfl,hD⟩,hg _ _ ⟨D,_,i,.int 0,rfl,hD,?_⟩⟩
 rw [vAt_dcM]
 cases h:vAt d i with
 | none=>rw [h] at q;exact q
 | some v=>rw [h] at q;exact q
theorem vInc_len (d:Dc) (k:Int):(vInc d k).length<=d.length + 1:=by
 unfold vInc vPut
 split
 . rw [List.length_map];exact Nat.le_succ _
 . rw [List.length_append];simp
noncomputable def cntBody:ST:=(sIf (bC .Eq (mL 2) (mC (.int 0))) (sA (mB .Add (mI (mT 260 10 (mL 0)) (mL 3)) (mC (.int 1))) (aIdx (mT 260 10 (mL 0)) (mL 3))) (sQ (sA (mB .Add (mM isD (mT 260 11 (mL 0)) (eC (mL 2) (eC (mC (.int 0)) eN)) cGet) (mC (.int 1))) (aIdx (mT 260 11 (mL 0)) (mL 2)))
   (sA (mB .Add (mM isD (mT 260 12 (mL 0)) (eC (mL 3) (eC (mC (.int 0)) eN)) cGet) (mC (.int 1))) (aIdx (mT 260 12 (mL 0)) (mL 3)))))
theorem cnt_loop {a:CAddr} {g:Own->Prop} (hg:∀ s s',g s->ExtC a s s'->g s'):∀ (xs:St2) (k:Cnt) (J:LC) (O:Own) (Q:PS) (E:PE),
   J 0=some (.ref a.c)->CntAt O a k->g O->xs.all okA=true->k.ls.length + xs.length<=100000->k.ds.length + xs.length<=100000 ->
   (∀ J' O',CntAt O' a (cntP k xs)->ExtC a O O'->Q .next J' O') ->
   forL (aT 2 (aC (aL 2) (aC (aL 3) aN))) cntBody g (xs.map prM) J O Q E:=by
 intro xs
 induction xs with
 | nil=>intro k J O Q E e0 hk hgs hA h1 h2 h;exact⟨hgs,h J O hk (fun _ _ _ _ _ q=>q)⟩
 | cons x r ih =>
   intro k J O Q E e0 hk hgs hA h1 h2 h
   obtain ⟨f,s⟩:=x
   rw [List.all_cons,Bool.and_eq_true] at hA
   rw [List.length_cons] at h1 h2
   rw [List.map_cons]
   refine ⟨hgs,aTupL ?_⟩
   generalize hρ:upd (upd J 2 (.int f)) 3 (.int s)=J1
   have f0:J1 0=some (.ref a.c):=(congrFun hρ _).symm.trans (by rw [uD dC,uD dC];exact e0)
   have f2:J1 2=some (.int f):=(congrFun hρ _).symm.trans (by rw [uD dC];exact uL)
   have f3:J1 3=some (.int s):=(congrFun hρ _).symm.trans uL
   have te:=tEq (O:=O) (eV f2) (eS (v:=.int 0))
   have at0:=evAttC hk (eV f0)
   by_cases h0:f=0
   . subst h0
     rw [decide_eq_true rfl] at te
     have hs:0<=s/\s<=255:=of_decide_eq_true hA.1
     have hc:cntP k ((0,s) :: r)=cntP { k with lits:=k.lits.set s.toNat (k.lits.getD s.toNat 0 + 1) } r:=rfl
     rw [hc] at h
     refine sIfT te ?_
     have hlen:=hk.len
     refine sG (v:=.int (k.lits.getD s.toNat 0 + 1)) (evAdd (evIdxL at0.1 (eV f3) hk.lits hs.1 (iup hs.2) (by rw [List.getElem?_map,some_getD (toNat_lt256 hs.1 hs.2 hlen)];rfl)) eS) ?_
     refine at0.1 _ _ ⟨_,f3,.inl ⟨_,hk.lits,hs.1,by rw [List.length_map,hlen];exact illt hs.2,by rw [List.length_map,hlen];simp [yL],?_⟩⟩
     have hset:(k.lits.map MV.int).set s.toNat (.int (k.lits.getD s.toNat 0 + 1))=(k.lits.set s.toNat (k.lits.getD s.toNat 0 + 1)).map .int:=by rw [List.map_set]
     rw [hset]
     obtain ⟨c1,x1⟩:=hk.setL (l:=k.lits.set s.toNat (k.lits.getD s.toNat 0 + 1)) (by rw [List.length_set];exact hlen)
     exact ih _ J1 _ Q E f0 c1 (hg _ _ hgs x1) hA.2 (by dsimp only;exact Nat.le_of_succ_le h1) (by dsimp only;exact Nat.le_of_succ_le h2) fun J' O' a1 a2=>h J' O' a1 (x1.trans a2)
   . rw [decide_eq_false h0] at te
     have hc:cntP k ((f,s) :: r)=cntP { k with ls:=vInc k.ls f,ds:=vInc k.ds s } r:=by
       refine (?_:cntP (cnt1 k (f,s)) r=_)
       unfold cnt1;rw [if_neg h0]
     rw [hc] at h
     refine sIfF te ?_
     refine sE (sG (evAdd (evGetD at0.2.1 hk.ls (eV f2)) eS) ?_)
     refine at0.2.1 _ _ ⟨_,f2,.inr ⟨_,hk.ls,by unfold dcM;rw [List.length_map];unfold yL;lia,?_⟩⟩
     rw [vPut_dcM]
     obtain ⟨c1,x1⟩:=hk.set1 (vInc k.ls f)
     have at1:=evAttC c1 (eV f0)
     refine sG (evAdd (evGetD at1.2.2 c1.ds (eV f3)) eS) ?_
     refine at1.2.2 _ _ ⟨_,f3,.inr ⟨_,c1.ds,by unfold dcM;rw [List.length_map];unfold yL;dsimp only;lia,?_⟩⟩
     rw [vPut_dcM]
     obtain ⟨c2,x2⟩:=c1.set2 (vInc k.ds s)
     have l1:=vInc_len k.ls f
     have l2:=vInc_len k.ds s
     exact ih _ J1 _ Q E f0 c2 (hg _ _ (hg _ _ hgs x1) x2) hA.2 (by dsimp only;lia) (by dsimp only;lia) fun J' O' a1 a2=>h J' O' a1 (x1.trans (x2.trans a2))
theorem c_add {a:CAddr} {l:Addr} {xs:St2} {k:Cnt} {O:Own} {Q:PV} {E:PE} (hl:O l=some (.list (xs.map prM))) (hk:CntAt O a k) (hne:l ≠ a.l1) (h1:k.ls.length + xs.length<=100000) (h2:k.ds.length + xs.length<=100000)
   (hE:∀ c,cH xs=some c->E (.ref c) O) (hQ:∀ O',cH xs=none->CntAt O' a (cntP k xs)->ExtC a O O'->Q .none O'):cC [.ref a.c,.ref l] O Q E:=by
 refine ⟨rfl,ent2 rfl fun L _=>?_⟩
 generalize hρ:upd (upd (fun _=>none) 0 (MV.ref a.c)) 1 (MV.ref l)=J
 have e0:J 0=some (.ref a.c):=(congrFun hρ _).symm
 have e1:J 1=some (.ref l):=(congrFun hρ _).symm
 unfold f_Counts_add
 refine sE ?_
 refine ⟨_,e1,c_check hl ?_⟩
 cases hc:cH xs with
 | some c=>exact hE c hc
 | none =>
   refine ⟨rfl,?_⟩
   have hA:xs.all okA=true:=by
     unfold cH at hc
     by_cases q:xs.all okA=true
     . exact q
     . rw [if_neg q] at hc;cases hc
   refine sFor_list e1 hl ?_
   refine cnt_loop (g:=fun O=>O l=some (.list (xs.map prM))) (fun s s' q x=>x _ _ hne (nE hl hk.ls nofun) (nE hl hk.ds nofun) q) xs k J O _ E e0 hk hl hA h1 h2 fun J' O' c1 x1=>hQ O' hc c1 x1
noncomputable def cnt0:Cnt:=⟨List.replicate 256 0,[],[]⟩
theorem rep256:(List.replicate 256 [MV.int 0]).flatten=(List.replicate 256 (0:Int)).map MV.int:=by rfl
theorem c_new {O:Own} {Q:PV} {E:PE} (hQ:∀ a O',CntAt O' a cnt0->Ext O O'->O a.c=none->O a.l1=none->O a.d1=none->O a.d2=none->Q (.ref a.c) O'):mkC 260 c_Counts_init [] O Q E:=by
 intro x dx hx hdx hlt
 have hxd:x ≠ dx:=by rintro rfl;exact absurd hlt (Nat.lt_irrefl _)
 refine ⟨rfl,ent1 rfl fun L _=>?_⟩
 generalize hρ:upd (fun _=>none) 0 (MV.ref x)=J
 have e0:J 0=some (.ref x):=(congrFun hρ _).symm
 have x1:Ext O (upd (upd O dx (.ns fun _=>none)) x (.inst 260 dx)):=(Ext.upd hdx).put hx
 have i1:upd (upd O dx (.ns fun _=>none)) x (.inst 260 dx) x=some (.inst 260 dx):=uP _ _ _
 have n1:upd (upd O dx (.ns fun _=>none)) x (.inst 260 dx) dx=some (.ns fun _=>none):=(uN hxd.symm).trans (uP _ _ _)
 generalize hσ:upd (upd O dx (.ns fun _=>none)) x (.inst 260 dx)=O1 at x1 i1 n1 ⊢
 unfold f_Counts_init
 refine sE ?_
 refine ⟨yl1,fun u hu=>?_⟩
 refine ⟨rfl,_,uP _ _ _,by decide,by decide,by simp [yL],fun l1 hl1=>?_⟩
 have y1:Ext O1 (upd O1 u (.list [.int 0])):=.upd hu
 have y2:=Ext.upd (o:=.list (List.replicate (256:Int).toNat [MV.int 0]).flatten) hl1
 have x2:=x1.trans (y1.trans y2)
 have hl1':=x1.free (y1.free hl1)
 have i2:=y2 _ _ (y1 _ _ i1)
 have n2:=y2 _ _ (y1 _ _ n1)
 have L2:upd (upd O1 u (.list [.int 0])) l1 (.list (List.replicate (256:Int).toNat [MV.int 0]).flatten) l1=some (.list (cnt0.lits.map .int)):=(uP _ _ _).trans (congrArg (fun z=>some (MObj.list z)) rep256)
 refine ⟨_,e0,x,dx,_,rfl,i2,n2,?_⟩
 generalize upd (upd O1 u (.list [.int 0])) l1 (.list (List.replicate (256:Int).toNat [MV.int 0]).flatten)=O2 at x2 i2 n2 L2 ⊢
 have x3:Ext O (upd O2 dx (.ns (upd (fun _=>none) 10 (.ref l1)))):=x2.put hdx
 have i3:upd O2 dx (.ns (upd (fun _=>none) 10 (.ref l1))) x=some (.inst 260 dx):=(uN hxd).trans i2
 have n3:upd O2 dx (.ns (upd (fun _=>none) 10 (.ref l1))) dx=some (.ns (upd (fun _=>none) 10 (.ref l1))):=uP _ _ _
 have L3:upd O2 dx (.ns (upd (fun _=>none) 10 (.ref l1))) l1=_:=(uN (nE L2 n2 nofun)).trans L2
 generalize upd O2 dx (.ns (upd (fun _=>none) 10 (.ref l1)))=O3 at x3 i3 n3 L3 ⊢
 refine sE ?_
 intro d1 hd1
 have y3:Ext O3 (upd O3 d1 (.dict [])):=.upd hd1
 have hd1':=x3.free hd1
 have D3:upd O3 d1 (.dict []) d1=some (.dict []):=uP _ _ _
 refine ⟨_,e0,x,dx,_,rfl,y3 _ _ i3,y3 _ _ n3,?_⟩
 have x4:=(x3.trans y3).put (o:=.ns (upd (upd (fun _=>none) 10 (.ref l1)) 11 (.ref d1))) hdx
 have i4:=(uN (o:=.ns (upd (upd (fun _=>none) 10 (.ref l1)) 11 (.ref d1))) hxd).trans (y3 _ _ i3)
 have L4:=(uN (o:=.ns (upd (upd (fun _=>none) 10 (.ref l1)) 11 (.ref d1))) (nE L3 n3 nofun)).trans (y3 _ _ L3)
 have D4:=(uN (o:=.ns (upd (upd (fun _=>none) 10 (.ref l1)) 11 (.ref d1))) (nE D3 (y3 _ _ n3) nofun)).trans D3
 have n4:=uP (upd O3 d1 (.dict [])) dx (.ns (upd (upd (fun _=>none) 10 (.ref l1)) 11 (.ref d1)))
 generalize upd (upd O3 d1 (.dict [])) dx (.ns (upd (upd (fun _=>none) 10 (.ref l1)) 11 (.ref d1)))=O4 at x4 i4 n4 L4 D4 ⊢
 intro d2 hd2
 have y5:Ext O4 (upd O4 d2 (.dict [])):=.upd hd2
 have hd2':=x4.free hd2
 have D5:upd O4 d2 (.dict []) d2=some (.dict []):=uP _ _ _
 have hne:d1 ≠ d2:=nO D4 hd2
 refine ⟨_,e0,x,dx,_,rfl,y5 _ _ i4,y5 _ _ n4,?_⟩
 refine ⟨rfl,?_⟩
 refine hQ ⟨x,dx,l1,d1,d2⟩ _ ⟨(uN hxd).trans (y5 _ _ i4),⟨_,uP _ _ _,rfl,rfl,rfl⟩,(uN (nE L4 n4 nofun)).trans (y5 _ _ L4),(uN (nE D4 n4 nofun)).trans (y5 _ _ D4),(uN (nE D5 (y5 _ _ n4) nofun)).trans D5,hne,by rfl⟩ ((x4.trans y5).put hdx) hx hl1' hd1' hd2'
theorem sAsgCall0 {c:CT} {a:AT} {J:LC} {O:Own} {Q:PS} {E:PE} (h:c [] O (fun v O'=>a v J O' fun J' O''=>Q .next J' O'') E):sA (mA eN c) a J O Q E:=h
theorem c_cof {l:Addr} {xs:St2} {O:Own} {Q:PV} {E:PE} (hl:O l=some (.list (xs.map prM))) (hx:xs.length<=100000)
   (hE:∀ c O',cH xs=some c->Ext O O'->E (.ref c) O') (hQ:∀ a O',cH xs=none->CntAt O' a (cntP cnt0 xs)->Ext O O'->Q (.ref a.c) O'):c_counts_of [.ref l] O Q E:=by
 refine ⟨rfl,ent1 rfl fun L _=>?_⟩
 generalize hρ:upd (fun _=>none) 0 (MV.ref l)=J
 have e0:J 0=some (.ref l):=(congrFun hρ _).symm
 unfold f_counts_of
 refine sE ?_
 refine sAsgCall0 ?_
 refine c_new (O:=O) fun a O1 c1 x1 n0 n1 n2 n3=>?_
 refine aI ?_
 generalize hρ1:upd J 1 (.ref a.c)=J1
 have f1:J1 1=some (.ref a.c):=(congrFun hρ1 _).symm.trans uL
 have f0:J1 0=some (.ref l):=(congrFun hρ1 _).symm.trans ((uD dC).trans e0)
 refine sE ?_
 obtain ⟨m,m1,_⟩:=c1.ns
 have hl1:=x1 _ _ hl
 refine ⟨_,f1,a.c,a.dx,m,rfl,c1.obj,m1,⟨_,f0,?_⟩⟩
 have hz1:cnt0.ls.length + xs.length<=100000:=by unfold cnt0;simpa using hx
 have hz2:cnt0.ds.length + xs.length<=100000:=by unfold cnt0;simpa using hx
 generalize cnt0=k at c1 hz1 hz2 hQ
 have nO:∀ y o,O y=some o->∀ z,O z=none->y ≠ z:=fun y o q z h=>nO q h
 refine c_add hl1 c1 (nO _ _ hl _ n1) hz1 hz2 (fun c hc=>hE c O1 hc x1) fun O' hc c2 x2=>⟨rfl,?_⟩
 refine sRetI (eV f1) ?_
 exact hQ a O' hc c2 fun y o q=>x2 y o (nO _ _ q _ n1) (nO _ _ q _ n2) (nO _ _ q _ n3) (x1 _ _ q)
structure ShAt (O₀ O:Own) (R x1 x2 x3:Addr) (lits:List Int) (es fs:List (Int × MV)):Prop where
 r:O R=some (.list [.ref x1,.ref x2,.ref x3])
 l:O x1=some (.list (lits.map .int))
 d1:O x2=some (.dict es)
 d2:O x3=some (.dict fs)
 n0:O₀ R=none
 n1:O₀ x1=none
 n2:O₀ x2=none
 n3:O₀ x3=none
theorem c_show {a:CAddr} {k:Cnt} {O:Own} {Q:PV} {E:PE} (hk:CntAt O a k) (h1:k.ls.length<=100000) (h2:k.ds.length<=100000)
   (hQ:∀ R x1 x2 x3 O',ShAt O O' R x1 x2 x3 k.lits (dcM k.ls) (dcM k.ds)->Ext O O'->Q (.ref R) O'):c__law_shown [.ref a.c] O Q E:=by
 refine ⟨rfl,ent1 rfl fun L _=>?_⟩
 generalize hρ:upd (fun _=>none) 0 (MV.ref a.c)=J
 have e0:J 0=some (.ref a.c):=(congrFun hρ _).symm
 unfold f__law_shown
 have at0:=evAttC hk (eV e0)
 have hlen:=hk.len
 refine at0.1 _ E ⟨_,rfl,_,hk.lits,by rw [List.length_map,hlen];simp [yL],fun x1 n1=>?_⟩
 have y1:Ext O (upd O x1 (.list (k.lits.map .int))):=.upd n1
 have L1:=uP O x1 (.list (k.lits.map .int))
 have k1:CntAt (upd O x1 (.list (k.lits.map .int))) a k:=by
   obtain ⟨m,m1,m2⟩:=hk.ns
   exact⟨y1 _ _ hk.obj,⟨m,y1 _ _ m1,m2⟩,y1 _ _ hk.lits,y1 _ _ hk.ls,y1 _ _ hk.ds,hk.ne,hk.len⟩
 generalize upd O x1 (.list (k.lits.map .int))=O1 at y1 k1 L1 ⊢
 refine (evAttC k1 (eV e0)).2.1 _ E ⟨a.d1,rfl,.inl ⟨_,k1.ls,by unfold dcM;rw [List.length_map];unfold yL;exact lE h1,fun x2 n2=>?_⟩⟩
 have y2:Ext O1 (upd O1 x2 (.dict (dcM k.ls))):=.upd n2
 have L2:=uP O1 x2 (.dict (dcM k.ls))
 have k2:CntAt (upd O1 x2 (.dict (dcM k.ls))) a k:=by
   obtain ⟨m,m1,m2⟩:=k1.ns
   exact⟨y2 _ _ k1.obj,⟨m,y2 _ _ m1,m2⟩,y2 _ _ k1.lits,y2 _ _ k1.ls,y2 _ _ k1.ds,hk.ne,hk.len⟩
 generalize upd O1 x2 (.dict (dcM k.ls))=O2 at y2 k2 L2 ⊢
 refine (evAttC k2 (eV e0)).2.2 _ E ⟨a.d2,rfl,.inl ⟨_,k2.ds,by unfold dcM;rw [List.length_map];unfold yL;exact lE h2,fun x3 n3=>?_⟩⟩
 have y3:Ext O2 (upd O2 x3 (.dict (dcM k.ds))):=.upd n3
 have L3:=uP O2 x3 (.dict (dcM k.ds))
 generalize upd O2 x3 (.dict (dcM k.ds))=O3 at y3 L3 ⊢
 refine ⟨yl3,fun R nR=>?_⟩
 have y4:Ext O3 (upd O3 R (.list [.ref x1,.ref x2,.ref x3])):=.upd nR
 exact hQ R x1 x2 x3 _ ⟨uP _ _ _,y4 _ _ (y3 _ _ (y2 _ _ L1)),y4 _ _ (y3 _ _ L2),y4 _ _ L3,y1.free (y2.free (y3.free nR)),n1,y1.free n2,y1.free (y2.free n3)⟩ (y1.trans (y2.trans (y3.trans y4)))
section
variable {α:Type} {t:Mn.BT} {e:ET} {g:Own->Prop} {D:Addr} {em:α->MV} {tf:α->Bool} {ef:α->MV} {O:Own}
theorem comp_loc (hg:∀ acc,g (upd O D (.list acc))):∀ (xs:List α),(∀ x ∈ xs,∀ (J:LC) acc,J 0=some (em x)->Tst t J (upd O D (.list acc)) (tf x))->(∀ x ∈ xs,tf x=true->∀ (J:LC) acc,J 0=some (em x)->Evl e J (upd O D (.list acc)) (ef x)) ->
   ∀ (acc:List MV) (J:LC) (Q:List MV->Own->Prop),Q (acc ++ (xs.filter tf).map ef) (upd O D (.list (acc ++ (xs.filter tf).map ef)))->compL (aL 0) t e g D (xs.map em) acc J (upd O D (.list acc)) Q:=by
 intro xs
 induction xs with
 | nil=>intro _ _ acc J Q h;exact⟨hg _,by simpa using h⟩
 | cons m r ih =>
   intro ht he acc J Q h
   refine ⟨hg _,aI ?_⟩
   have t1:=ht m (.head _) (upd J 0 (em m)) acc uL
   have ih':=ih (fun x hx=>ht x (.tail _ hx)) (fun x hx=>he x (.tail _ hx))
   cases q:tf m with
   | true =>
     rw [q] at t1
     rw [List.filter_cons_of_pos q,List.map_cons] at h
     refine t1 (fun c O2=>if c=true then _ else _) _ ?_
     refine ifT rfl ?_
     refine he m (.head _) q _ acc uL _ _ ⟨uP _ _ _,?_⟩
     rw [uU]
     refine ih' (acc ++ [ef m]) _ Q ?_
     rw [List.append_assoc]
     exact h
   | false =>
     rw [q] at t1
     rw [List.filter_cons_of_neg (by simp [q])] at h
     refine t1 (fun c O2=>if c=true then _ else _) _ ?_
     refine ifF Bool.false_ne_true ?_
     exact ih' acc _ Q h
theorem compI {f:ET} {l:Addr} {J:LC} {Q:PV} {E:PE} (em:α->MV) (tf:α->Bool) (ef:α->MV) (xs:List α) (hf:Evl f J O (.ref l)) (hl:O l=some (.list (xs.map em))) (hy:xs.length<=1000000)
   (ht:∀ x ∈ xs,∀ (J:LC) O',Ext O O'->J 0=some (em x)->Tst t J O' (tf x)) (he:∀ x ∈ xs,tf x=true->∀ (J:LC) O',Ext O O'->J 0=some (em x)->Evl e J O' (ef x))
   (h:∀ D,O D=none->Q (.ref D) (upd O D (.list ((xs.filter tf).map ef)))):mComp (iT f) 0 (fun C=>aL 0) (fun _=>t) (fun _=>e) J O Q E:=by
 refine hf _ _ ⟨l,_,rfl,hl,by unfold yL;rw [List.length_map];exact hy,fun D C hD _ _=>?_⟩
 exact comp_loc (fun acc=>(Ext.upd hD) _ _ hl) xs (fun m hm J acc q=>ht m hm J _ (.upd hD) q) (fun m hm k J acc q=>he m hm k J _ (.upd hD) q) [] _ _ ⟨uP _ _ _,h D hD⟩
end
theorem bTrueT {J:LC} {O:Own}:Tst bTrue J O true:=fun _ _ q=>q
theorem filter_tt {α:Type}:∀ (ms:List α),ms.filter (fun _=>true)=ms:=fun ms=>List.filter_eq_self.mpr fun _ _=>rfl
noncomputable def talBody:ST:=(sA (mIte (bC .Eq (mL 1) (mC (.int 0))) (mB .Add (mI (mL 0) (mL 2)) (mC (.int 1))) (mI (mL 0) (mL 2))) (aIdx (mL 0) (mL 2)))
theorem tal_loop {P:Addr} {O:Own} {g:Own->Prop} (hg:∀ o,g (upd O P o)):∀ (xs:St2) (k:Cnt) (J:LC) (Q:PS) (E:PE),
   J 0=some (.ref P)->k.lits.length=256->(∀ p ∈ xs,0<=p.2/\p.2<=255) ->
   (∀ J':LC,J' 0=some (.ref P)->(cntP k xs).lits.length=256->Q .next J' (upd O P (.list ((cntP k xs).lits.map .int)))) ->
   forL (aT 2 (aC (aL 1) (aC (aL 2) aN))) talBody g (xs.map prM) J (upd O P (.list (k.lits.map .int))) Q E:=by
 intro xs
 induction xs with
 | nil=>intro k J Q E e0 hk hx h;exact⟨hg _,h J e0 hk⟩
 | cons p r ih =>
   intro k J Q E e0 hk hx h
   obtain ⟨f,s⟩:=p
   have hs:0<=s/\s<=255:=hx (f,s) (.head _)
   rw [List.map_cons]
   refine ⟨hg _,aTupL ?_⟩
   generalize hρ:upd (upd J 1 (.int f)) 2 (.int s)=J1
   have f0:J1 0=some (.ref P):=(congrFun hρ _).symm.trans e0
   have f1:J1 1=some (.int f):=(congrFun hρ _).symm
   have f2:J1 2=some (.int s):=(congrFun hρ _).symm
   have hP:=uP O P (.list (k.lits.map .int))
   have te:=tEq (O:=upd O P (.list (k.lits.map .int))) (eV f1) (eS (v:=.int 0))
   have ei:Evl (mI (mL 0) (mL 2)) J1 (upd O P (.list (k.lits.map .int))) (.int (k.lits.getD s.toNat 0)):=evIdxL (eV f0) (eV f2) hP hs.1 (iup hs.2) (by rw [List.getElem?_map,some_getD (toNat_lt256 hs.1 hs.2 hk)];rfl)
   have put:∀ (v:Int) (k':Cnt),k'.lits=k.lits.set s.toNat v->cnt1 k (f,s)=k'->aIdx (mL 0) (mL 2) (.int v) J1 (upd O P (.list (k.lits.map .int))) (fun J' O''=>forL (aT 2 (aC (aL 1) (aC (aL 2) aN))) talBody g (r.map prM) J' O'' Q E):=by
     intro v k' h1 h2
     refine ⟨_,f0,_,f2,.inl ⟨_,hP,hs.1,by rw [List.length_map,hk];exact illt hs.2,by rw [List.length_map,hk];simp [yL],?_⟩⟩
     rw [uU]
     have:(k.lits.map MV.int).set s.toNat (.int v)=k'.lits.map .int:=by rw [h1,List.map_set]
     rw [this]
     refine ih k' J1 Q E f0 (by rw [h1,List.length_set];exact hk) (fun p hp=>hx p (.tail _ hp)) ?_
     have:cntP k ((f,s) :: r)=cntP k' r:=by rw [<- h2];rfl
     rw [this] at h
     exact h
   by_cases h0:f=0
   . rw [decide_eq_true h0] at te
     refine sG (evIteT te (evAdd ei eS)) ?_
     refine put _ { k with lits:=k.lits.set s.toNat (k.lits.getD s.toNat 0 + 1) } rfl ?_
     . unfold cnt1;rw [if_pos h0]
   . rw [decide_eq_false h0] at te
     refine sG (evIteF te ei) ?_
     refine put _ { k with ls:=vInc k.ls f,ds:=vInc k.ds s } ?_ ?_
     . dsimp only
       rw [List.getD_eq_getElem?_getD,List.getElem?_eq_getElem (toNat_lt256 hs.1 hs.2 hk)]
       exact (List.set_getElem_self (toNat_lt256 hs.1 hs.2 hk)).symm
     . unfold cnt1;rw [if_neg h0]
noncomputable def talD (row:List Int):List (Int × MV):=putAll vPut [] (row.map fun x=>(x,.int ((row.count x:Nat):Int)))
theorem evCel {c:Addr} {v:MV} {J:LC} {O:Own} (h:O c=some (.cell (some v))):Evl (mE c) J O v:=fun _ _ q=>⟨v,h,q⟩
theorem evTup {f g:ET} {J:LC} {O:Own} {ms:List MV} {i:Nat} {v:MV} (hf:Evl f J O (.tup ms)) (hg:Evl g J O (.int i)) (hi:i<=1000000) (h:ms[i]?=some v):Evl (mI f g) J O v:=by
 intro Q E hq
 refine hf _ _ (hg _ _ ⟨v,?_,⟨i,rfl,(neg_le_cast),(cast_up hi)⟩,hq⟩)
 refine (?_:(if 0<=(i:Int) then ms[(i:Int).toNat]? else none)=_)
 rw [if_pos (Int.natCast_nonneg _),Int.toNat_natCast];exact h
noncomputable def rowE (c c':Addr):ET:=mComp (iT (mE c)) 0 (fun D=>(aL 0)) (fun D=>(bC .Gt (mI (mL 0) (mC (.int 0))) (mC (.int 0)))) (fun D=>(mI (mL 0) (mE c')))
noncomputable def dctE (c:Addr):ET:=mA (eC (mComp (iT (mE c)) 0 (fun D=>(aL 0)) (fun D=>bTrue) (fun D=>(mU (eC (mL 0) (eC (mM isL (mE c) (eC (mL 0) eN) cCount) eN))))) eN) cDict
theorem tal_row {c c' l:Addr} {xs:St2} {k:Nat} {pr:Int × Int->Int} {J:LC} {O:Own} {Q:PV} {E:PE} (hc:O c=some (.cell (some (.ref l)))) (hc':O c'=some (.cell (some (.int k)))) (hk:k<=1000) (hpr:∀ p,[MV.int p.1,.int p.2][k]?=some (.int (pr p))) (hl:O l=some (.list (xs.map prM))) (hx:xs.length<=100000)
   (h:∀ D,O D=none->Q (.ref D) (upd O D (.list (((xs.filter fun p=>decide (p.1 > 0)).map pr).map .int)))) :
   rowE c c' J O Q E:=by
 unfold rowE
 refine compI prM (fun p=>decide (p.1 > 0)) (fun p=>.int (pr p)) xs (evCel hc) hl (lE hx) (fun p _ J' O' x e=>tGt (evTup (i:=0) (eV e) eS dC rfl) eS) (fun p _ _ J' O' x e=>evTup (i:=k) (eV e) (evCel (x _ _ hc')) (lE hk) (hpr p)) fun D hD=>?_
 have:=h D hD
 rw [List.map_map] at this
 exact this
theorem tal_dict {c l:Addr} {row:List Int} {J:LC} {O:Own} {Q:PV} {E:PE} (hc:O c=some (.cell (some (.ref l)))) (hl:O l=some (.list (row.map .int))) (hx:row.length<=100000)
   (h:∀ D O',Ext O O'->O D=none->O' D=some (.dict (talD row))->Q (.ref D) O') :
   dctE c J O Q E:=by
 unfold dctE mA
 refine eCons1 (compI MV.int (fun _=>true) (fun x=>.tup [.int x,.int ((row.count x:Nat):Int)]) row (evCel hc) hl (lE hx) (fun _ _ _ _ _ _=>bTrueT) (fun p _ _ J' O' x e=>evTup2 (eV e) fun Q' E' q=>⟨_,x _ _ hc,⟨l,_,rfl,x _ _ hl⟩,⟨_,e,l,row,p,rfl,x _ _ hl,q⟩⟩) fun D hD=>?_)
 rw [filter_tt]
 have y:=Ext.upd (o:=.list (row.map fun x=>MV.tup [.int x,.int ((row.count x:Nat):Int)])) hD
 refine ⟨D,rfl,.inr ⟨row.map fun x=>(x,.int ((row.count x:Nat):Int)),?_,by rw [List.length_map];unfold yL;exact lE hx,fun r hr=>?_⟩⟩
 . rw [uP,List.map_map];rfl
 . exact h r _ (y.trans (.upd hr)) (y.free hr) (uP _ _ _)
theorem c_tally {l:Addr} {xs:St2} {O:Own} {Q:PV} {E:PE} (hl:O l=some (.list (xs.map prM))) (hx:xs.length<=100000) (hb:∀ p ∈ xs,0<=p.2/\p.2<=255)
   (hQ:∀ R x1 x2 x3 O',ShAt O O' R x1 x2 x3 (cntP cnt0 xs).lits (talD ((xs.filter fun p=>decide (p.1 > 0)).map (·.1))) (talD ((xs.filter fun p=>decide (p.1 > 0)).map (·.2)))->Ext O O'->Q (.ref R) O'):c__law_tally [.ref l] O Q E:=by
 refine ⟨rfl,fun L hL=>?_⟩
 unfold f__law_tally
 simp only [g__law_tally,List.append_nil,aCons1,aNil1,cE]
 have hc0:O (L + 1 + 0)=none:=hL _ (Nat.le_succ L)
 generalize L + 1 + 0=c at hc0 ⊢
 refine ⟨_,uP _ _ _,?_⟩
 rw [uU]
 have x1:Ext O (upd O c (.cell (some (.ref l)))):=.upd hc0
 have c1:=uP O c (.cell (some (.ref l)))
 generalize upd O c (.cell (some (.ref l)))=O1 at x1 c1 ⊢
 refine sE ?_
 refine ⟨yl1,fun u hu=>⟨rfl,_,uP _ _ _,by decide,by decide,by simp [yL],fun P hP=>?_⟩⟩
 have y1:Ext O1 (upd O1 u (.list [.int 0])):=.upd hu
 refine aI ?_
 have hL0:(List.replicate (256:Int).toNat [MV.int 0]).flatten=cnt0.lits.map .int:=rep256
 rw [hL0]
 generalize upd O1 u (.list [.int 0])=O2 at hP y1 ⊢
 have hPn:∀ a o,O2 a=some o->a ≠ P:=fun a o q=>nO q hP
 have l2:=y1 _ _ (x1 _ _ hl)
 refine sE ?_
 refine ⟨_,(uN (hPn _ _ (y1 _ _ c1))).trans (y1 _ _ c1),l,_,rfl,(uN (hPn _ _ l2)).trans l2,?_⟩
 refine tal_loop (fun o=>(uN (hPn _ _ l2)).trans l2) xs cnt0 _ _ E uL (by unfold cnt0;rw [List.length_replicate]) hb fun J e0 hlen=>?_
 have y2:=Ext.upd (o:=.list ((cntP cnt0 xs).lits.map .int)) hP
 have p3:=uP O2 P (.list ((cntP cnt0 xs).lits.map .int))
 have hP0:=x1.free (y1.free hP)
 have x3:=x1.trans (y1.trans y2)
 have l3:=y2 _ _ l2
 have c3:=y2 _ _ (y1 _ _ c1)
 generalize upd O2 P (.list ((cntP cnt0 xs).lits.map .int))=O3 at x3 l3 c3 p3 ⊢
 clear y1 y2 hPn l2 hP
 refine sE ?_
 refine ⟨2,rfl,by decide,by decide,by simp [yL,upInts],fun D C hD hDC hC=>?_⟩
 have hC0:O3 (C + 1 + 0)=none:=hC _ (Nat.le_succ C)
 have hDC':D ≠ C + 1 + 0:=Nat.ne_of_lt (Nat.lt_succ_of_lt hDC)
 refine (?_:compL (aCel (C + 1 + 0)) bTrue (rowE c (C + 1 + 0)) (fun _=>True) D [.int 0,.int 1] [] (fun _=>none) (upd (upd O3 D (.list [])) (C + 1 + 0) (.cell none)) _)
 generalize C + 1 + 0=c' at hC0 hDC' ⊢
 have z1:Ext O3 (upd (upd O3 D (.list [])) c' (.cell (some (.int 0)))):=(Ext.upd hD).put hC0
 have d1:upd (upd O3 D (.list [])) c' (.cell (some (.int 0))) D=some (.list []):=(uN hDC').trans (uP _ _ _)
 refine ⟨trivial,⟨_,uP _ _ _,bTrueI ?_⟩⟩
 rw [if_pos rfl,uU]
 have k1:=uP (upd O3 D (.list [])) c' (.cell (some (.int 0)))
 generalize upd (upd O3 D (.list [])) c' (.cell (some (.int 0)))=O4 at z1 d1 k1 ⊢
 refine tal_row (k:=0) (pr:=(·.1)) (z1 _ _ c3) k1 dC (fun _=>rfl) (z1 _ _ l3) hx fun D0 hD0=>?_
 have y4:=Ext.upd (o:=.list (((xs.filter fun p=>decide (p.1 > 0)).map (·.1)).map .int)) hD0
 have n0:=z1.free hD0
 have q0:=uP O4 D0 (.list (((xs.filter fun p=>decide (p.1 > 0)).map (·.1)).map .int))
 refine ⟨y4 _ _ d1,?_⟩
 have hDD:D0 ≠ D:=(nO d1 hD0).symm
 have z2:Ext O3 _:=((z1.trans y4).put (o:=.list [.ref D0]) hD)
 have q0':=(uN (o:=.list [.ref D0]) hDD).trans q0
 have d2:=uP (upd O4 D0 (.list (((xs.filter fun p=>decide (p.1 > 0)).map (·.1)).map .int))) D (.list [.ref D0])
 have k2:=(uN (o:=.list [.ref D0]) hDC'.symm).trans (y4 _ _ k1)
 rw [List.nil_append]
 generalize upd (upd O4 D0 (.list (((xs.filter fun p=>decide (p.1 > 0)).map (·.1)).map .int))) D (.list [.ref D0])=O5 at z2 q0' d2 k2 ⊢
 clear y4 q0
 refine ⟨trivial,⟨_,k2,bTrueI ?_⟩⟩
 refine ifT rfl ?_
 have hcD0:D0 ≠ c':=by rintro rfl;cases one k2 q0'
 have z3:=z2.put (o:=.cell (some (.int 1))) hC0
 have q1:=(uN (o:=.cell (some (.int 1))) hcD0).trans q0'
 have d3:=(uN (o:=.cell (some (.int 1))) hDC').trans d2
 have k3:=uP O5 c' (.cell (some (.int 1)))
 generalize upd O5 c' (.cell (some (.int 1)))=O6 at z3 q1 d3 k3 ⊢
 refine tal_row (k:=1) (pr:=(·.2)) (z3 _ _ c3) k3 dC (fun _=>rfl) (z3 _ _ l3) hx fun D1 hD1=>?_
 have y6:=Ext.upd (o:=.list (((xs.filter fun p=>decide (p.1 > 0)).map (·.2)).map .int)) hD1
 have n1:=z3.free hD1
 have r0:=uP O6 D1 (.list (((xs.filter fun p=>decide (p.1 > 0)).map (·.2)).map .int))
 refine ⟨y6 _ _ d3,?_⟩
 have hDD1:D1 ≠ D:=(nO d3 hD1).symm
 have z4:Ext O3 _:=((z3.trans y6).put (o:=.list [.ref D0,.ref D1]) hD)
 have q2:=(uN (o:=.list [.ref D0,.ref D1]) hDD).trans (y6 _ _ q1)
 have r1:=(uN (o:=.list [.ref D0,.ref D1]) hDD1).trans r0
 have d4:=uP (upd O6 D1 (.list (((xs.filter fun p=>decide (p.1 > 0)).map (·.2)).map .int))) D (.list [.ref D0,.ref D1])
 rw [List.cons_append,List.nil_append]
 refine ⟨trivial,d4,?_⟩
 have hPn:∀ a,O3 a=none->P ≠ a:=fun a q=>nO p3 q
 have hDn:D0 ≠ D1:=nO q1 hD1
 change O3 D=none at hD
 have x7:=x3.trans z4
 have p7:=z4 _ _ p3
 generalize upd (upd O6 D1 (.list (((xs.filter fun p=>decide (p.1 > 0)).map (·.2)).map .int))) D (.list [.ref D0,.ref D1])=O7 at z4 q2 r1 d4 x7 p7 ⊢
 refine ⟨D,[.ref D0,.ref D1],rfl,d4,rfl,⟨_,_,rfl,⟨_,_,rfl,⟨rfl,?_⟩⟩⟩⟩
 clear z1 z2 z3 y6 d1 d2 d3 d4 q0' q1 r0 k1 k2 k3
 generalize hρ:upd (upd J 3 (.ref D0)) 4 (.ref D1)=J1
 have g0:J1 0=some (.ref P):=(congrFun hρ _).symm.trans e0
 have g3:J1 3=some (.ref D0):=(congrFun hρ _).symm
 have g4:J1 4=some (.ref D1):=(congrFun hρ _).symm
 refine ⟨_,g0,yl1,fun u2 hu2=>?_⟩
 have w1:=Ext.upd (o:=.list [.ref P]) hu2
 have u1:=uP O7 u2 (.list [.ref P])
 have p8:=w1 _ _ p7
 have a8:=w1 _ _ q2
 have b8:=w1 _ _ r1
 have x8:=x7.trans w1
 generalize upd O7 u2 (.list [.ref P])=O8 at w1 u1 p8 a8 b8 x8 ⊢
 refine ⟨_,g3,_,g4,yl2,?_⟩
 have hlenF:(xs.filter fun p=>decide (p.1 > 0)).length<=100000:=Nat.le_trans (List.length_filter_le _ _) hx
 refine ⟨?_,yl2,fun B C hB hBC hC=>?_⟩
 . intro m hm
   simp only [List.mem_cons,List.not_mem_nil,or_false] at hm
   rcases hm with rfl | rfl
   . exact⟨_,rfl⟩
   . exact⟨_,rfl⟩
 have hC0:O8 (C + 1 + 0)=none:=hC _ (Nat.le_succ C)
 have hBC':B ≠ C + 1 + 0:=Nat.ne_of_lt (Nat.lt_succ_of_lt hBC)
 refine (?_:compL (aCel (C + 1 + 0)) bTrue (dctE (C + 1 + 0)) (fun _=>True) B [.ref D0,.ref D1] [] (fun _=>none) (upd (upd O8 B (.list [])) (C + 1 + 0) (.cell none)) _)
 generalize C + 1 + 0=e at hC0 hBC' ⊢
 refine ⟨trivial,⟨_,uP _ _ _,bTrueI ?_⟩⟩
 rw [if_pos rfl,uU]
 have v1:Ext O8 (upd (upd O8 B (.list [])) e (.cell (some (.ref D0)))):=(Ext.upd hB).put hC0
 have t1:upd (upd O8 B (.list [])) e (.cell (some (.ref D0))) B=some (.list []):=(uN hBC').trans (uP _ _ _)
 have s1:=uP (upd O8 B (.list [])) e (.cell (some (.ref D0)))
 generalize upd (upd O8 B (.list [])) e (.cell (some (.ref D0)))=τ1 at v1 t1 s1 ⊢
 refine tal_dict s1 (v1 _ _ a8) (by rw [List.length_map];exact hlenF) fun E1 τ2 v2 hE1 q1=>?_
 refine ⟨v2 _ _ t1,?_⟩
 have hE1B:E1 ≠ B:=(nO t1 hE1).symm
 have hE1e:E1 ≠ e:=(nO s1 hE1).symm
 have hE18:=v1.free hE1
 have v3:=(v1.trans v2).put (o:=.list ([] ++ [.ref E1])) hB
 have t3:=uP τ2 B (.list ([] ++ [.ref E1]))
 have q3:=(uN (o:=.list ([] ++ [.ref E1])) hE1B).trans q1
 have s3:=(uN (o:=.list ([] ++ [.ref E1])) hBC'.symm).trans (v2 _ _ s1)
 generalize upd τ2 B (.list ([] ++ [.ref E1]))=τ3 at v3 t3 q3 s3 ⊢
 refine ⟨trivial,⟨_,s3,bTrueI ?_⟩⟩
 refine ifT rfl ?_
 have v4:=v3.put (o:=.cell (some (.ref D1))) hC0
 have t4:=(uN (o:=.cell (some (.ref D1))) hBC').trans t3
 have q4:=(uN (o:=.cell (some (.ref D1))) hE1e).trans q3
 have s4:=uP τ3 e (.cell (some (.ref D1)))
 generalize upd τ3 e (.cell (some (.ref D1)))=τ4 at v4 t4 q4 s4 ⊢
 refine tal_dict s4 (v4 _ _ b8) (by rw [List.length_map];exact hlenF) fun E2 τ5 v5 hE2 q5=>?_
 refine ⟨v5 _ _ t4,?_⟩
 have hE2B:E2 ≠ B:=(nO t4 hE2).symm
 have hE28:=v4.free hE2
 have v6:=(v4.trans v5).put (o:=.list ([] ++ [.ref E1] ++ [.ref E2])) hB
 have t6:=uP τ5 B (.list ([] ++ [.ref E1] ++ [.ref E2]))
 have q6:=(uN (o:=.list ([] ++ [.ref E1] ++ [.ref E2])) hE1B).trans (v5 _ _ q4)
 have r6:=(uN (o:=.list ([] ++ [.ref E1] ++ [.ref E2])) hE2B).trans q5
 generalize upd τ5 B (.list ([] ++ [.ref E1] ++ [.ref E2]))=τ6 at v6 t6 q6 r6 ⊢
 refine ⟨trivial,t6,?_⟩
 refine ⟨rfl,_,_,v6 _ _ u1,t6,yl3,fun R hR=>?_⟩
 have w6:=Ext.upd (o:=.list ([.ref P] ++ ([] ++ [.ref E1] ++ [.ref E2]))) hR
 have x9:=x8.trans (v6.trans w6)
 exact hQ R P E1 E2 _ ⟨uP _ _ _,w6 _ _ (v6 _ _ p8),w6 _ _ q6,w6 _ _ r6,x8.free (v6.free hR),hP0,x8.free hE18,x8.free hE28⟩ x9
noncomputable def addK (ks:List Int) (k:Int):List Int:=if k ∈ ks then ks else ks ++ [k]
section
variable {V:Type}
theorem any_key (d:List (Int × V)) (k:Int):(d.any fun kv=>decide (kv.1=k))=decide (k ∈ d.map (·.1)):=by
 induction d with
 | nil=>simp
 | cons x r ih =>
   rw [List.any_cons,ih,List.map_cons]
   by_cases h:x.1=k
   . simp [h]
   . have h':¬ k=x.1:=fun e=>h e.symm
     simp [h,h']
theorem keys_put (d:List (Int × V)) (k:Int) (v:V):(vPut d k v).map (·.1)=addK (d.map (·.1)) k:=by
 unfold vPut addK
 rw [any_key]
 by_cases h:k ∈ d.map (·.1)
 . rw [if_pos h,if_pos (decide_eq_true h),List.map_map]
   refine List.map_congr_left fun kv _=>?_
   simp only [Function.comp]
   split <;> rfl
 . rw [if_neg h,if_neg (by simpa using h),List.map_append];rfl
theorem vAt_vPut (d:List (Int × V)) (k:Int) (v:V) (n:Int):vAt (vPut d k v) n=if n=k then some v else vAt d n:=by
 unfold vPut
 rw [any_key]
 by_cases h:k ∈ d.map (·.1)
 . rw [if_pos (decide_eq_true h)]
   induction d with
   | nil=>cases h
   | cons x r ih =>
     unfold vAt at ih ⊢
     rw [List.map_cons,List.find?_cons,List.find?_cons]
     by_cases hx:x.1=k
     . rw [if_pos hx]
       by_cases hn:n=k
       . subst hn;simp [hx]
       . have hn':¬ x.1=n:=fun e=>hn (e.symm.trans hx)
         rw [if_neg hn]
         simp only [hn',decide_false]
         by_cases hr:k ∈ r.map (·.1)
         . have:=ih hr
           rw [if_neg hn] at this
           exact this
         . have:r.map (fun kv=>if kv.1=k then (kv.1,v) else kv)=r:=by
             refine (List.map_congr_left fun kv hkv=>?_).trans (List.map_id r)
             have:kv.1 ≠ k:=fun e=>hr (List.mem_map.mpr ⟨kv,hkv,e⟩)
             rw [if_neg this];rfl
           rw [this]
     . rw [if_neg hx]
       have hr:k ∈ r.map (·.1):=by
         rcases List.mem_cons.mp h with e | e
         . exact absurd e.symm hx
         . exact e
       by_cases hxn:x.1=n
       . have:n ≠ k:=fun e=>hx (hxn.trans e)
         simp [hxn,this]
       . simp only [hxn,decide_false]
         exact ih hr
 . rw [if_neg (by simpa using h)]
   unfold vAt
   rw [List.find?_append]
   cases q:d.find? fun kv=>decide (kv.1=n) with
   | some y =>
     have hm:=List.mem_of_find?_eq_some q
     have hy:y.1=n:=by simpa using List.find?_some q
     have hn:n ≠ k:=by rintro rfl;exact h (List.mem_map.mpr ⟨y,hm,hy⟩)
     rw [if_neg hn];rfl
   | none =>
     by_cases hn:n=k
     . simp [hn]
     . have hn':¬ k=n:=fun e=>hn e.symm
       simp [hn,hn']
theorem vAt_mem (d:List (Int × V)) (h:(d.map (·.1)).Nodup) (kv:Int × V) (hm:kv ∈ d):vAt d kv.1=some kv.2:=by
 induction d with
 | nil=>cases hm
 | cons x r ih =>
   rw [List.map_cons,List.nodup_cons] at h
   unfold vAt at ih ⊢
   rw [List.find?_cons]
   rcases List.mem_cons.mp hm with rfl | hm
   . simp
   . have:¬ x.1=kv.1:=fun e=>h.1 (e ▸ List.mem_map.mpr ⟨kv,hm,rfl⟩)
     simp only [this,decide_false]
     exact ih h.2 hm
end
theorem addK_nodup {ks:List Int} {k:Int} (h:ks.Nodup):(addK ks k).Nodup:=by
 unfold addK
 split
 . exact h
 . rename_i hk
   rw [List.nodup_append]
   exact⟨h,by simp,fun a ha b hb=>by rw [List.mem_singleton.mp hb];rintro rfl;exact hk ha⟩
theorem foldK_nodup:∀ (row ks:List Int),ks.Nodup->(row.foldl addK ks).Nodup
 | [],ks,h=>h
 | k :: r,ks,h=>foldK_nodup r _ (addK_nodup h)
theorem mem_addK {ks:List Int} {k x:Int}:x ∈ addK ks k ↔ x ∈ ks \/ x=k:=by
 unfold addK
 split
 . rename_i h
   exact⟨.inl,fun q=>q.elim id fun e=>e ▸ h⟩
 . simp
theorem mem_foldK:∀ (row ks:List Int) (x:Int),x ∈ row.foldl addK ks ↔ x ∈ ks \/ x ∈ row
 | [],ks,x=>by simp
 | k :: r,ks,x=>by
   rw [List.foldl_cons,mem_foldK r,mem_addK,List.mem_cons,or_assoc]
theorem incs_keys:∀ (row:List Int) (d:Dc),(row.foldl vInc d).map (·.1)=row.foldl addK (d.map (·.1))
 | [],d=>rfl
 | k :: r,d=>by
   rw [List.foldl_cons,incs_keys r,List.foldl_cons]
   unfold vInc
   rw [keys_put]
theorem incs_at:∀ (row:List Int) (d:Dc) (k:Int),vAt (row.foldl vInc d) k=if k ∈ row then some ((vAt d k).getD 0 + (row.count k:Nat)) else vAt d k
 | [],d,k=>rfl
 | x :: r,d,k=>by
   rw [List.foldl_cons,incs_at r]
   unfold vInc
   rw [vAt_vPut,List.count_cons]
   by_cases hx:k=x
   . subst hx
     rw [if_pos rfl,if_pos (show k ∈ k :: r from .head _)]
     by_cases hr:k ∈ r
     . rw [if_pos hr];simp;lia
     . rw [if_neg hr,List.count_eq_zero.mpr hr];simp
   . have hx':¬ x=k:=fun e=>hx e.symm
     rw [if_neg hx]
     by_cases hr:k ∈ r
     . rw [if_pos hr,if_pos (.tail _ hr)];simp [hx']
     . rw [if_neg hr,if_neg (fun h=>(List.mem_cons.mp h).elim hx hr)]
theorem puts_keys (c:Int->MV):∀ (row:List Int) (d:List (Int × MV)),(Mn.putAll vPut d (row.map fun x=>(x,c x))).map (·.1)=row.foldl addK (d.map (·.1))
 | [],d=>rfl
 | k :: r,d=>by
   rw [List.map_cons,Mn.putAll_c,puts_keys c r,List.foldl_cons,keys_put]
theorem puts_at (c:Int->MV):∀ (row:List Int) (d:List (Int × MV)) (k:Int),vAt (Mn.putAll vPut d (row.map fun x=>(x,c x))) k=if k ∈ row then some (c k) else vAt d k
 | [],d,k=>by simp [Mn.putAll_n]
 | x :: r,d,k=>by
   rw [List.map_cons,Mn.putAll_c,puts_at c r,vAt_vPut]
   by_cases hr:k ∈ r
   . rw [if_pos hr,if_pos (.tail _ hr)]
   . rw [if_neg hr]
     by_cases hx:k=x
     . subst hx;rw [if_pos rfl,if_pos (.head _)]
     . rw [if_neg hx,if_neg (fun h=>(List.mem_cons.mp h).elim hx hr)]
theorem dict_row (row:List Int):dictSame (dcM (row.foldl vInc [])) (talD row):=by
 have k1:=incs_keys row []
 have k2:=puts_keys (fun x=>.int ((row.count x:Nat):Int)) row []
 refine ⟨?_,fun kv hkv=>?_⟩
 . have e1:=congrArg List.length k1
   have e2:=congrArg List.length k2
   rw [List.length_map] at e1 e2
   unfold dcM talD
   rw [List.length_map,e1,e2];rfl
 . obtain ⟨⟨k,v⟩,hm,rfl⟩:=List.mem_map.mp hkv
   have nd:((row.foldl vInc []).map (·.1)).Nodup:=by rw [k1];exact foldK_nodup row [] List.nodup_nil
   have hv:=vAt_mem _ nd (k,v) hm
   have hk:k ∈ row:=by
     have:k ∈ (row.foldl vInc []).map (·.1):=List.mem_map.mpr ⟨(k,v),hm,rfl⟩
     rw [k1,mem_foldK] at this
     simpa using this
   rw [incs_at,if_pos hk] at hv
   have hv':(row.count k:Int)=v:=by simpa [vAt] using hv
   refine ⟨v,rfl,?_⟩
   unfold talD
   rw [puts_at (fun x=>.int ((row.count x:Nat):Int)),if_pos hk,hv']
theorem cnt_ls:∀ (xs:St2) (k:Cnt),(∀ p ∈ xs,0<=p.1)->(cntP k xs).ls=((xs.filter fun p=>decide (p.1 > 0)).map (·.1)).foldl vInc k.ls/\(cntP k xs).ds=((xs.filter fun p=>decide (p.1 > 0)).map (·.2)).foldl vInc k.ds
 | [],k,_=>⟨rfl,rfl⟩
 | p :: r,k,h=>by
   have h0:=h p (.head _)
   obtain ⟨i1,i2⟩:=cnt_ls r (cnt1 k p) fun q hq=>h q (.tail _ hq)
   have e:cntP k (p :: r)=cntP (cnt1 k p) r:=rfl
   rw [e,i1,i2]
   unfold cnt1
   by_cases hp:p.1=0
   . rw [if_pos hp,List.filter_cons_of_neg (by simp [hp])];exact⟨rfl,rfl⟩
   . rw [if_neg hp,List.filter_cons_of_pos (by simp;lia)];exact⟨rfl,rfl⟩
theorem cnt_same (xs:St2) (h:∀ p ∈ xs,0<=p.1):dictSame (dcM (cntP cnt0 xs).ls) (talD ((xs.filter fun p=>decide (p.1 > 0)).map (·.1)))/\dictSame (dcM (cntP cnt0 xs).ds) (talD ((xs.filter fun p=>decide (p.1 > 0)).map (·.2))):=by
 obtain ⟨e1,e2⟩:=cnt_ls xs cnt0 h
 rw [e1,e2]
 exact⟨dict_row _,dict_row _⟩
theorem cnt_len:∀ (xs:St2) (k:Cnt),(cntP k xs).ls.length<=k.ls.length + xs.length/\(cntP k xs).ds.length<=k.ds.length + xs.length
 | [],k=>⟨Nat.le_refl _,Nat.le_refl _⟩
 | p :: r,k=>by
   obtain ⟨i1,i2⟩:=cnt_len r (cnt1 k p)
   have e:cntP k (p :: r)=cntP (cnt1 k p) r:=rfl
   rw [e,List.length_cons]
   have h1:(cnt1 k p).ls.length<=k.ls.length + 1/\(cnt1 k p).ds.length<=k.ds.length + 1:=by
     unfold cnt1
     split
     . exact⟨by dsimp only;exact Nat.le_succ _,by dsimp only;exact Nat.le_succ _⟩
     . exact⟨vInc_len _ _,vInc_len _ _⟩
   lia
theorem evAtt {C:Addr} {k:Nat} {f:ET} {J:LC} {O:Own} {x dx:Addr} {m:Nat->Option MV} {u:MV} (hf:Evl f J O (.ref x)) (h1:O x=some (.inst C dx)) (h2:O dx=some (.ns m)) (h3:m k=some u) (h4:handM u:=by trivial):Evl (mT C k f) J O u:=fun Q E q =>
 hf _ _ ⟨x,u,rfl,fld_mk h1 h2 h3,h4,q⟩
theorem aAttI {C:Addr} {k:Nat} {f:ET} {m:MV} {J:LC} {O:Own} {x dx:Addr} {mm:Nat->Option MV} {Q:LC->Own->Prop} (hf:Evl f J O (.ref x)) (h1:O x=some (.inst C dx)) (h2:O dx=some (.ns mm)) (h:Q J (upd O dx (.ns (upd mm k m)))):aAtt C k f m J O Q :=
 hf (fun v O'=>∃ x dx mm,v=.ref x/\O' x=some (.inst C dx)/\O' dx=some (.ns mm)/\Q J (upd O' dx (.ns (upd mm k m)))) _ ⟨x,dx,mm,rfl,h1,h2,h⟩
noncomputable def PrAt (O:Own) (p dx:Addr):Prop:=∃ m,O p=some (.inst 232 dx)/\O dx=some (.ns m)/\m 7=some (.int 3)/\m 8=some (.int 5)/\m 9=some (.int 0)
theorem PrAt.mono {O O':Own} {p dx:Addr} (h:PrAt O p dx) (x:Ext O O'):PrAt O' p dx:=by
 obtain ⟨m,h1,h2,h3⟩:=h
 exact⟨m,x _ _ h1,x _ _ h2,h3⟩
theorem c_price {O:Own} {Q:PV} {E:PE} (hQ:∀ p dx O',PrAt O' p dx->Ext O O'->O p=none->O dx=none->Q (.ref p) O'):mkC 232 c_FlatPrice_init [.int 3,.int 5] O Q E:=by
 intro x dx hx hdx hlt
 have hxd:x ≠ dx:=by rintro rfl;exact absurd hlt (Nat.lt_irrefl _)
 refine ⟨rfl,ent4 rfl fun L _=>?_⟩
 have x1:Ext O (upd (upd O dx (.ns fun _=>none)) x (.inst 232 dx)):=(Ext.upd hdx).put hx
 have i1:upd (upd O dx (.ns fun _=>none)) x (.inst 232 dx) x=some (.inst 232 dx):=uP _ _ _
 have n1:upd (upd O dx (.ns fun _=>none)) x (.inst 232 dx) dx=some (.ns fun _=>none):=(uN hxd.symm).trans (uP _ _ _)
 generalize upd (upd O dx (.ns fun _=>none)) x (.inst 232 dx)=O1 at x1 i1 n1 ⊢
 generalize hρ:upd (upd (upd (upd (fun _=>none) 0 (MV.ref x)) 1 (MV.int 3)) 2 (MV.int 5)) 3 (MV.int 0)=J
 have e0:J 0=some (.ref x):=(congrFun hρ _).symm
 have e1:J 1=some (.int 3):=(congrFun hρ _).symm
 have e2:J 2=some (.int 5):=(congrFun hρ _).symm
 have e3:J 3=some (.int 0):=(congrFun hρ _).symm
 refine sE (sIfF (tOrF ((tLt (eV e1) eS).to rfl) (tOrF ((tLt (eV e2) eS).to rfl) ((tLt (eV e3) eS).to rfl))) (si ?_))
 refine sE (sG (eV e1) (aAttI (eV e0) i1 n1 ?_))
 refine sE (sG (eV e2) (aAttI (eV e0) ((uN hxd).trans i1) (uP _ _ _) ?_))
 rw [uU]
 refine sG (eV e3) (aAttI (eV e0) ((uN hxd).trans i1) (uP _ _ _) ?_)
 rw [uU]
 exact⟨rfl,hQ x dx _ ⟨_,(uN hxd).trans i1,uP _ _ _,rfl,rfl,rfl⟩ (x1.put hdx) hx hdx⟩
theorem evLitP {f g:ET} {J:LC} {O:Own} {p dx:Addr} {v:MV} (h:PrAt O p dx) (hf:Evl f J O (.ref p)) (hg:Evl g J O v):Evl (mMet 232 f (eC g eN) c_FlatPrice_literal) J O (.int 3):=by
 obtain ⟨m,h1,h2,h3,h4,h5⟩:=h
 intro Q E q
 refine hf _ _ ⟨p,dx,m,rfl,h1,h2,hg _ _ ⟨rfl,ent2 rfl fun L _=>?_⟩⟩
 exact sRetI (evAtt (eV (k:=0) rfl) h1 h2 h3) q
theorem evMatP {f g h:ET} {J:LC} {O:Own} {p dx:Addr} {v w:MV} (hp:PrAt O p dx) (hf:Evl f J O (.ref p)) (hg:Evl g J O v) (hh:Evl h J O w):Evl (mMet 232 f (eC g (eC h eN)) c_FlatPrice_match) J O (.int 5):=by
 obtain ⟨m,h1,h2,h3,h4,h5⟩:=hp
 intro Q E q
 refine hf _ _ ⟨p,dx,m,rfl,h1,h2,hg _ _ (hh _ _ ⟨rfl,ent3 rfl fun L _=>?_⟩)⟩
 exact sE (sIfT ((tEq (evAtt (eV (k:=0) rfl) h1 h2 h5) eS).to rfl) (sRetI (evAtt (eV (k:=0) rfl) h1 h2 h4) q))
noncomputable def ExtS (S:List Addr) (O O':Own):Prop:=∀ a o,a ∉ S->O a=some o->O' a=some o
theorem ExtS.refl {S:List Addr} {O:Own}:ExtS S O O:=fun _ _ _ q=>q
theorem ExtS.trans {S:List Addr} {a b c:Own} (h:ExtS S a b) (k:ExtS S b c):ExtS S a c:=fun x o n q=>k x o n (h x o n q)
theorem Ext.toS {S:List Addr} {a b:Own} (h:Ext a b):ExtS S a b:=fun x o _ q=>h x o q
theorem ExtS.upd {S:List Addr} {m:Addr} {O:Own} {o:MObj} (h:m ∈ S):ExtS S O (upd O m o):=fun a x n q=>(uN fun (e:a=m)=>n (e ▸ h)).trans q
theorem ExtS.mono {S T:List Addr} {a b:Own} (h:ExtS S a b) (k:∀ x ∈ S,x ∈ T):ExtS T a b:=fun x o n q=>h x o (fun e=>n (k x e)) q
structure FAddr where
 f:Addr
 fx:Addr
 r:Addr
 rx:Addr
 d:Addr
 b:Addr
structure Fs where
 ld:Dc
 bf:List Int
structure FI (O:Own) (a:FAddr) (w:List Int) (h:Int) (s:Fs):Prop where
 of:O a.f=some (.inst 549 a.fx)
 nf:∃ m,O a.fx=some (.ns m)/\m 13=some (.bytes w)/\m 16=some (.int 2)/\m 17=some (.int 40)/\m 18=some (.int 40)/\m 19=some (.int h)/\m 20=some (.ref a.r)
 ro:O a.r=some (.inst 415 a.rx)
 nr:∃ m,O a.rx=some (.ns m)/\m 13=some (.bytes w)/\m 4=some (.int 2)/\m 14=some (.ref a.d)/\m 15=some (.ref a.b)
 ld:O a.d=some (.dict (dcM s.ld))
 lb:O a.b=some (.list (s.bf.map .int))
 ne:a.fx ≠ a.rx
theorem FI.mono {O O':Own} {a:FAddr} {w:List Int} {h:Int} {s:Fs} (k:FI O a w h s) (x:Ext O O'):FI O' a w h s:=by
 obtain ⟨m,m1,m2⟩:=k.nf
 obtain ⟨n,n1,n2⟩:=k.nr
 exact⟨x _ _ k.of,⟨m,x _ _ m1,m2⟩,x _ _ k.ro,⟨n,x _ _ n1,n2⟩,x _ _ k.ld,x _ _ k.lb,k.ne⟩
section
variable {f:ET} {J:LC} {O:Own} {a:FAddr} {w:List Int} {h:Int} {s:Fs}
theorem fin13 (k:FI O a w h s) (hf:Evl f J O (.ref a.f)):Evl (mT 549 13 f) J O (.bytes w):=by obtain ⟨m,m1,m2,_⟩:=k.nf;exact evAtt hf k.of m1 m2
theorem fin16 (k:FI O a w h s) (hf:Evl f J O (.ref a.f)):Evl (mT 549 16 f) J O (.int 2):=by obtain ⟨m,m1,_,m2,_⟩:=k.nf;exact evAtt hf k.of m1 m2
theorem fin17 (k:FI O a w h s) (hf:Evl f J O (.ref a.f)):Evl (mT 549 17 f) J O (.int 40):=by obtain ⟨m,m1,_,_,m2,_⟩:=k.nf;exact evAtt hf k.of m1 m2
theorem fin18 (k:FI O a w h s) (hf:Evl f J O (.ref a.f)):Evl (mT 549 18 f) J O (.int 40):=by obtain ⟨m,m1,_,_,_,m2,_⟩:=k.nf;exact evAtt hf k.of m1 m2
theorem fin19 (k:FI O a w h s) (hf:Evl f J O (.ref a.f)):Evl (mT 549 19 f) J O (.int h):=by obtain ⟨m,m1,_,_,_,_,m2,_⟩:=k.nf;exact evAtt hf k.of m1 m2
theorem fin20 (k:FI O a w h s) (hf:Evl f J O (.ref a.f)):Evl (mT 549 20 f) J O (.ref a.r):=by obtain ⟨m,m1,_,_,_,_,_,m2⟩:=k.nf;exact evAtt hf k.of m1 m2
theorem row13 (k:FI O a w h s) (hf:Evl f J O (.ref a.r)):Evl (mT 415 13 f) J O (.bytes w):=by obtain ⟨m,m1,m2,_⟩:=k.nr;exact evAtt hf k.ro m1 m2
theorem row4 (k:FI O a w h s) (hf:Evl f J O (.ref a.r)):Evl (mT 415 4 f) J O (.int 2):=by obtain ⟨m,m1,_,m2,_⟩:=k.nr;exact evAtt hf k.ro m1 m2
theorem row14 (k:FI O a w h s) (hf:Evl f J O (.ref a.r)):Evl (mT 415 14 f) J O (.ref a.d):=by obtain ⟨m,m1,_,_,m2,_⟩:=k.nr;exact evAtt hf k.ro m1 m2
theorem row15 (k:FI O a w h s) (hf:Evl f J O (.ref a.r)):Evl (mT 415 15 f) J O (.ref a.b):=by obtain ⟨m,m1,_,_,_,m2⟩:=k.nr;exact evAtt hf k.ro m1 m2
end
theorem evSlcB {f g h:ET} {J:LC} {O:Own} {b:List Int} {i n:Int} (hf:Evl f J O (.bytes b)) (hg:Evl g J O (.int i)) (hh:Evl h J O (.int (i + n))) (h0:0<=i) (h1:0<=n) (h2:i + n<=b.length) (hy:b.length<=1000000):Evl (mSlc f (pYes g) (pYes h)) J O (.bytes ((b.drop i.toNat).take n.toNat)):=fun Q E q =>
 hf _ _ (hg _ _ ⟨i,rfl,hh _ _ ⟨i + n,rfl,hy,by rw [cut_mid h0 h1 h2];exact q⟩⟩)
noncomputable def keyP (w:List Int) (p:Nat):Option Int:=if p + 2 > w.length then none else some ((0 * 256 + w.getD p 0) * 256 + w.getD (p + 1) 0)
noncomputable def optM:Option Int->MV
 | none=>.none
 | some i=>.int i
theorem two_at {w:List Int} {p:Nat} (h:p + 2<=w.length):(w.drop p).take 2=[w.getD p 0,w.getD (p + 1) 0]:=by
 have e1:w.drop p=w[p] :: w[p + 1] :: w.drop (p + 1 + 1):=by rw [List.drop_eq_getElem_cons (show p < w.length by lia),List.drop_eq_getElem_cons (show p + 1 < w.length from Nat.lt_of_succ_lt_succ (Nat.lt_succ_of_le h))]
 rw [e1,List.getD_eq_getElem?_getD,List.getD_eq_getElem?_getD,List.getElem?_eq_getElem (show p < w.length by lia),List.getElem?_eq_getElem (show p + 1 < w.length from Nat.lt_of_succ_lt_succ (Nat.lt_succ_of_le h))]
 rfl
theorem c_key {O:Own} {a:FAddr} {w:List Int} {h:Int} {s:Fs} {p:Nat} {Q:PV} {E:PE} (k:FI O a w h s) (hp:p<=w.length) (hy:w.length<=100000) (ho:oct? w) (q:Q (optM (keyP w p)) O):c_PlaceRow_key [.ref a.r,.int p] O Q E:=by
 refine ⟨rfl,ent2 rfl fun L _=>?_⟩
 generalize hρ:upd (upd (fun _=>none) 0 (MV.ref a.r)) 1 (MV.int (p:Int))=J
 have e0:J 0=some (.ref a.r):=(congrFun hρ _).symm
 have e1:J 1=some (.int p):=(congrFun hρ _).symm
 have o13:=row13 k (eV e0)
 have o4:=row4 k (eV e0)
 unfold f_PlaceRow_key
 refine sE (sIfF ((tNot (tLe2 eS (eV e1) (evLen o13 (lE hy)) (Int.natCast_nonneg _))).to (by rw [decide_eq_true (cast_le hp)];rfl)) (si ?_))
 refine sE ?_
 have tg:=tGt (evAdd (eV e1) o4) (evLen o13 (lE hy))
 unfold keyP at q
 by_cases h2:p + 2 > w.length
 . rw [if_pos h2] at q
   exact sIfT (tg.to (decide_eq_true (by lia))) (sRetI eS q)
 . rw [if_neg h2] at q
   refine sIfF (tg.to (decide_eq_false (by lia))) (si ?_)
   refine sE (sAsgL eS ?_)
   refine sE ?_
   have eb:Evl (mSlc (mT 415 13 (mL 0)) (pYes (mL 1)) (pYes (mB .Add (mL 1) (mT 415 4 (mL 0))))) (upd J 2 (.int 0)) O (.bytes [w.getD p 0,w.getD (p + 1) 0]):=by
     have e0':upd J 2 (.int 0) 0=some (.ref a.r):=e0
     have e1':upd J 2 (.int 0) 1=some (.int p):=e1
     have:=evSlcB (n:=2) (row13 k (eV e0')) (eV e1') (evAdd (eV e1') (row4 k (eV e0'))) (Int.natCast_nonneg _) dC (by lia) (lE hy)
     rw [Int.toNat_natCast,show (2:Int).toNat=2 from rfl,two_at (nlt h2)] at this
     exact this
   refine eb _ _ ⟨_,rfl,?_⟩
   have b1:=oct_getD ho p
   have b2:=oct_getD ho (p + 1)
   generalize w.getD p 0=x at b1 q ⊢
   generalize w.getD (p + 1) 0=y at b2 q ⊢
   refine ⟨trivial,aI ?_⟩
   refine sAsgL (evAdd (evMul (eV (k:=2) rfl) eS dC) (eV (k:=3) rfl)) ?_
   refine ⟨trivial,aI ?_⟩
   refine sAsgL (evAdd (evMul (eV (k:=2) rfl) eS (by lia)) (eV (k:=3) rfl)) ?_
   exact⟨trivial,sRetI (eV (k:=2) rfl) q⟩
theorem evGetN {f g:ET} {J:LC} {O:Own} {D:Addr} {d:Dc} {i:Int} (hf:Evl f J O (.ref D)) (hD:O D=some (.dict (dcM d))) (hg:Evl g J O (.int i)):Evl (mM isD f (eC g (eC (mC (.int (-1))) eN)) cGet) J O (.int ((vAt d i).getD (-1))):=by
 intro Q E q
 refine hf _ _ ⟨⟨D,_,rfl,hD⟩,hg _ _ ⟨D,_,i,_,rfl,hD,?_⟩⟩
 rw [vAt_dcM]
 cases h:vAt d i with
 | none=>rw [h] at q;exact q
 | some v=>rw [h] at q;exact q
noncomputable def newP (w:List Int) (p:Nat) (s:Fs):Int:=match keyP w p with
 | none=>-1
 | some n=>(vAt s.ld n).getD (-1)
theorem c_newest {O:Own} {a:FAddr} {w:List Int} {h:Int} {s:Fs} {p:Nat} {Q:PV} {E:PE} (k:FI O a w h s) (hp:p<=w.length) (hy:w.length<=100000) (ho:oct? w) (hs:newP w p s < p) (q:Q (.int (newP w p s)) O):c_PlaceRow_newest [.ref a.r,.int p] O Q E:=by
 refine ⟨rfl,ent2 rfl fun L _=>?_⟩
 generalize hρ:upd (upd (fun _=>none) 0 (MV.ref a.r)) 1 (MV.int (p:Int))=J
 have e0:J 0=some (.ref a.r):=(congrFun hρ _).symm
 have e1:J 1=some (.int p):=(congrFun hρ _).symm
 obtain ⟨m,m1,_⟩:=k.nr
 unfold f_PlaceRow_newest
 refine sE ⟨_,e0,a.r,a.rx,m,rfl,k.ro,m1,⟨_,e1,c_key k hp hy ho ?_⟩⟩
 refine aI (sE ?_)
 unfold newP at q hs
 cases hk:keyP w p with
 | none =>
   rw [hk] at q
   exact sIfT (tIsN (eV uL)) (sRetI eS q)
 | some n =>
   rw [hk] at q hs
   dsimp only at q hs
   refine sIfF (tIsI (i:=n) (eV uL)) (si ?_)
   refine sE (sAsgL (evGetN (row14 k (eV (k:=0) e0)) k.ld (eV (k:=2) uL)) ?_)
   refine sE ⟨1,whN_stop ((tGe (eV (k:=3) uL) (eV (k:=1) e1)).to (decide_eq_false (ltg hs))) ?_⟩
   exact sRetI (eV (k:=3) uL) q
theorem c_near {O:Own} {a:FAddr} {w:List Int} {h:Int} {s:Fs} {p o:Int} {Q:PV} {E:PE} (k:FI O a w h s) (q:Q (.bool (decide (o ≠ -1/\p - o<=40))) O):c_Matcher_is_near [.ref a.f,.int p,.int o] O Q E:=by
 refine ⟨rfl,ent3 rfl fun L _=>?_⟩
 unfold f_Matcher_is_near
 refine ⟨_,rfl,?_⟩
 refine (?_:∃ b,MV.bool (decide (o ≠ -1))=.bool b/\_)
 refine ⟨_,rfl,?_⟩
 by_cases ho:o=-1
 . rw [decide_eq_false (fun h=>h ho),if_neg Bool.false_ne_true]
   rw [decide_eq_false (fun h=>h.1 ho)] at q
   exact q
 . rw [decide_eq_true ho,if_pos rfl]
   refine evSub (eV (k:=1) rfl) (eV (k:=2) rfl) _ _ (fin17 k (eV (k:=0) rfl) _ _ ?_)
   refine (?_:Q (.bool (decide (p - o<=40))) O)
   by_cases h4:p - o<=40
   . rw [decide_eq_true h4];rw [decide_eq_true ⟨ho,h4⟩] at q;exact q
   . rw [decide_eq_false h4];rw [decide_eq_false (fun h=>h4 h.2)] at q;exact q
theorem aIdxLI {f g:ET} {J:LC} {O:Own} {l:Addr} {xs:List MV} {i:Int} {m:MV} {Q:LC->Own->Prop} (hf:Evl f J O (.ref l)) (hg:Evl g J O (.int i)) (hl:O l=some (.list xs)) (h0:0<=i) (h1:i < xs.length) (hy:xs.length<=1000000) (h:Q J (upd O l (.list (xs.set i.toNat m)))):aIdx f g m J O Q :=
 hf (fun o O1=>g J O1 (fun i O2=>putM o i m O2 fun O3=>Q J O3) (fun _ _=>False)) _ (hg (fun i O2=>putM (.ref l) i m O2 fun O3=>Q J O3) _ (.inl ⟨xs,hl,h0,h1,hy,h⟩))
theorem aIdxDI {f g:ET} {J:LC} {O:Own} {l:Addr} {es:List (Int × MV)} {i:Int} {m:MV} {Q:LC->Own->Prop} (hf:Evl f J O (.ref l)) (hg:Evl g J O (.int i)) (hl:O l=some (.dict es)) (hy:es.length<=1000000) (h:Q J (upd O l (.dict (vPut es i m)))):aIdx f g m J O Q :=
 hf (fun o O1=>g J O1 (fun i O2=>putM o i m O2 fun O3=>Q J O3) (fun _ _=>False)) _ (hg (fun i O2=>putM (.ref l) i m O2 fun O3=>Q J O3) _ (.inr ⟨es,hl,hy,h⟩))
theorem sMet1 {C:Addr} {f g:ET} {c:CT} {J:LC} {O:Own} {x dx:Addr} {m:Nat->Option MV} {v:MV} {Q:PS} {E:PE} (hf:Evl f J O (.ref x)) (h1:O x=some (.inst C dx)) (h2:O dx=some (.ns m)) (hg:Evl g J O v) (h:c [.ref x,v] O (fun u O'=>u=.none/\Q .next J O') E):sX (mMet C f (eC g eN) c) J O Q E :=
 hf (fun v O1=>∃ x dx m,v=.ref x/\O1 x=some (.inst C dx)/\O1 dx=some (.ns m)/\eC g eN J O1 (fun ms O'=>c (.ref x :: ms) O' (fun u O'=>u=.none/\Q .next J O') E) E) _ ⟨x,dx,m,rfl,h1,h2,hg _ _ h⟩
theorem mMet1 {C:Addr} {f g:ET} {c:CT} {J:LC} {O:Own} {x dx:Addr} {m:Nat->Option MV} {v:MV} {Q:PV} {E:PE} (hf:Evl f J O (.ref x)) (h1:O x=some (.inst C dx)) (h2:O dx=some (.ns m)) (hg:Evl g J O v) (h:c [.ref x,v] O Q E):mMet C f (eC g eN) c J O Q E :=
 hf (fun v O1=>∃ x dx m,v=.ref x/\O1 x=some (.inst C dx)/\O1 dx=some (.ns m)/\eC g eN J O1 (fun ms O'=>c (.ref x :: ms) O' Q E) E) _ ⟨x,dx,m,rfl,h1,h2,hg _ _ h⟩
section
variable {O:Own} {a:FAddr} {w:List Int} {h:Int} {s:Fs}
theorem FI.setD (k:FI O a w h s) (d:Dc):FI (upd O a.d (.dict (dcM d))) a w h { s with ld:=d }:=by
 obtain ⟨m,m1,m2⟩:=k.nf
 obtain ⟨n,n1,n2⟩:=k.nr
 exact⟨(uN (nE k.of k.ld nofun)).trans k.of,⟨m,(uN (nE m1 k.ld nofun)).trans m1,m2⟩,(uN (nE k.ro k.ld nofun)).trans k.ro,⟨n,(uN (nE n1 k.ld nofun)).trans n1,n2⟩,uP _ _ _,(uN (nE k.lb k.ld nofun)).trans k.lb,k.ne⟩
theorem FI.setB (k:FI O a w h s) (d:List Int):FI (upd O a.b (.list (d.map .int))) a w h { s with bf:=d }:=by
 obtain ⟨m,m1,m2⟩:=k.nf
 obtain ⟨n,n1,n2⟩:=k.nr
 exact⟨(uN (nE k.of k.lb nofun)).trans k.of,⟨m,(uN (nE m1 k.lb nofun)).trans m1,m2⟩,(uN (nE k.ro k.lb nofun)).trans k.ro,⟨n,(uN (nE n1 k.lb nofun)).trans n1,n2⟩,(uN (nE k.ld k.lb nofun)).trans k.ld,uP _ _ _,k.ne⟩
theorem FI.setH {m:Nat->Option MV} (k:FI O a w h s) (e:O a.fx=some (.ns m)) (h':Int):FI (upd O a.fx (.ns (upd m 19 (.int h')))) a w h' s:=by
 obtain ⟨m',m1,m2⟩:=k.nf
 obtain ⟨n,n1,n2⟩:=k.nr
 cases one e m1
 exact⟨(uN (nE k.of e nofun)).trans k.of,⟨_,uP _ _ _,m2.1,m2.2.1,m2.2.2.1,m2.2.2.2.1,rfl,m2.2.2.2.2.2⟩,(uN (nE k.ro e nofun)).trans k.ro,⟨n,(uN k.ne.symm).trans n1,n2⟩,(uN (nE k.ld e nofun)).trans k.ld,(uN (nE k.lb e nofun)).trans k.lb,k.ne⟩
noncomputable def putP (w:List Int) (p:Nat) (s:Fs):Fs:=match keyP w p with
 | none=>s
 | some n=>⟨vPut s.ld n p,s.bf.set p ((vAt s.ld n).getD (-1))⟩
theorem c_rput {p:Nat} {Q:PV} {E:PE} (k:FI O a w h s) (hp:p < w.length) (hy:w.length<=100000) (ho:oct? w) (hb:s.bf.length=w.length) (hd:s.ld.length<=100000)
   (q:∀ O',FI O' a w h (putP w p s)->ExtS [a.fx,a.d,a.b] O O'->Q .none O'):c_PlaceRow_put [.ref a.r,.int p] O Q E:=by
 refine ⟨rfl,ent2 rfl fun L _=>?_⟩
 generalize hρ:upd (upd (fun _=>none) 0 (MV.ref a.r)) 1 (MV.int (p:Int))=J
 have e0:J 0=some (.ref a.r):=(congrFun hρ _).symm
 have e1:J 1=some (.int p):=(congrFun hρ _).symm
 obtain ⟨m,m1,_⟩:=k.nr
 unfold f_PlaceRow_put
 refine sE ⟨_,e0,a.r,a.rx,m,rfl,k.ro,m1,⟨_,e1,c_key k (Nat.le_of_lt hp) hy ho ?_⟩⟩
 refine aI ?_
 unfold putP at q
 cases hk:keyP w p with
 | none =>
   rw [hk] at q
   exact sIfF (tIsNotN (eV uL)) (si (q _ k .refl))
 | some n =>
   rw [hk] at q
   dsimp only at q
   refine sIfT (tIsNotI (i:=n) (eV uL)) (sE (sG (evGetN (row14 k (eV (k:=0) e0)) k.ld (eV (k:=2) uL)) ?_))
   refine aIdxLI (row15 k (eV (k:=0) e0)) (eV (k:=1) e1) k.lb (Int.natCast_nonneg _) (by rw [List.length_map];lia) (by rw [List.length_map];lia) ?_
   rw [Int.toNat_natCast,<- List.map_set]
   have k2:=k.setB (s.bf.set p ((vAt s.ld n).getD (-1)))
   refine sG (eV (k:=1) e1) ?_
   refine aIdxDI (row14 k2 (eV (k:=0) e0)) (eV (k:=2) uL) k2.ld (by unfold dcM;rw [List.length_map];dsimp only;exact lE hd) ?_
   rw [vPut_dcM]
   exact q _ (k2.setD _) (ExtS.trans (.upd (.tail _ (.tail _ (.head _)))) (.upd (.tail _ (.head _))))
theorem c_put549 {p:Nat} {Q:PV} {E:PE} (k:FI O a w p s) (hp:p < w.length) (hy:w.length<=100000) (ho:oct? w) (hb:s.bf.length=w.length) (hd:s.ld.length<=100000)
   (q:∀ O',FI O' a w (p + 1:Nat) (putP w p s)->ExtS [a.fx,a.d,a.b] O O'->Q .none O'):c_Matcher_put [.ref a.f,.int p] O Q E:=by
 refine ⟨rfl,ent2 rfl fun L _=>?_⟩
 generalize hρ:upd (upd (fun _=>none) 0 (MV.ref a.f)) 1 (MV.int (p:Int))=J
 have e0:J 0=some (.ref a.f):=(congrFun hρ _).symm
 have e1:J 1=some (.int p):=(congrFun hρ _).symm
 obtain ⟨m,m1,_⟩:=k.nf
 unfold f_Matcher_put
 refine sE (sIfF (tOrF ((tLt (eV e1) (fin19 k (eV e0))).to (decide_eq_false (leg (Int.le_refl _)))) ((tGe (eV e1) (evLen (fin13 k (eV e0)) (lE hy))).to (decide_eq_false (ltg (cast_lt hp))))) (si ?_))
 refine sE (sG (evAdd (eV e1) eS) (aAttI (eV e0) k.of m1 ?_))
 have k2:=k.setH m1 ((p:Int) + 1)
 have x2:ExtS [a.fx,a.d,a.b] O (upd O a.fx (.ns (upd m 19 (.int ((p:Int) + 1))))):=.upd (.head _)
 generalize upd O a.fx (.ns (upd m 19 (.int ((p:Int) + 1))))=O1 at k2 x2 ⊢
 obtain ⟨m',m1',_⟩:=k2.nf
 refine ⟨_,e0,a.f,a.fx,m',rfl,k2.of,m1',⟨_,e1,⟨rfl,ent2 rfl fun L _=>?_⟩⟩⟩
 unfold f_Finder_enter
 obtain ⟨n,n1,_⟩:=k2.nr
 exact sMet1 (fin20 k2 (eV (k:=0) rfl)) k2.ro n1 (eV (k:=1) rfl) (c_rput k2 hp hy ho hb hd fun O' k3 x3=>⟨rfl,rfl,q O' k3 (x2.trans x3)⟩)
end
noncomputable def fsAt (w:List Int):Nat->Fs
 | 0=>⟨[],List.replicate w.length (-1)⟩
 | k + 1=>putP w k (fsAt w k)
theorem fsAt_n {w:List Int}:fsAt w 0=⟨[],List.replicate w.length (-1)⟩:=rfl
theorem fsAt_c {w:List Int} {k:Nat}:fsAt w (k + 1)=putP w k (fsAt w k):=rfl
theorem vAt_put (d:Dc) (k v n u:Int) (h:vAt (vPut d k v) n=some u):u=v \/ vAt d n=some u:=by
 unfold vPut at h
 by_cases hk:(d.any fun kv=>decide (kv.1=k))=true
 . rw [if_pos hk] at h
   clear hk
   induction d with
   | nil=>exact .inr h
   | cons x r ih =>
     unfold vAt at h ih ⊢
     rw [List.map_cons,List.find?_cons] at h
     rw [List.find?_cons]
     by_cases hx:x.1=k
     . rw [if_pos hx] at h
       by_cases hn:x.1=n
       . simp [hn] at h;exact .inl h.symm
       . simp [hn] at h
         simp [hn]
         exact (ih (by simpa using h)).imp id (by simpa using ·)
     . rw [if_neg hx] at h
       by_cases hn:x.1=n
       . simp [hn] at h;simp [hn];exact .inr h
       . simp [hn] at h
         simp [hn]
         exact (ih (by simpa using h)).imp id (by simpa using ·)
 . rw [if_neg hk] at h
   unfold vAt at h ⊢
   rw [List.find?_append] at h
   cases q:d.find? fun kv=>decide (kv.1=n) with
   | some y=>rw [q] at h;exact .inr h
   | none =>
     rw [q] at h
     by_cases hn:k=n
     . simp [hn] at h;exact .inl h.symm
     . simp [hn] at h
theorem vPut_len (d:Dc) (k v:Int):(vPut d k v).length<=d.length + 1:=by
 unfold vPut
 split
 . rw [List.length_map];exact Nat.le_succ _
 . rw [List.length_append];simp
structure FsOK (w:List Int) (k:Nat) (s:Fs):Prop where
 bl:s.bf.length=w.length
 dl:s.ld.length<=k
 dv:∀ n v,vAt s.ld n=some v->0<=v/\v < k
 bv:∀ i,i < w.length->-1<=s.bf.getD i 0/\s.bf.getD i 0 < i
theorem fs_ok (w:List Int):∀ k,k<=w.length->FsOK w k (fsAt w k)
 | 0,_=>⟨List.length_replicate,Nat.le_refl 0,fun n v h=>by simp [fsAt_n,vAt] at h,fun i hi=>by
     rw [fsAt_n,List.getD_eq_getElem?_getD,List.getElem?_replicate,if_pos hi];simp;exact Int.lt_of_add_one_le neg_le_cast⟩
 | k + 1,hk=>by
   have ih:=fs_ok w k (Nat.le_of_succ_le hk)
   rw [fsAt_c]
   unfold putP
   cases hn:keyP w k with
   | none=>dsimp only;exact⟨ih.bl,by have:=ih.dl;exact Nat.le_of_lt (Nat.lt_succ_of_le this),fun n v h=>by have:=ih.dv n v h;lia,ih.bv⟩
   | some n =>
     dsimp only
     refine ⟨by rw [List.length_set];exact ih.bl,by have:=ih.dl;have:=vPut_len (fsAt w k).ld n k;dsimp only;lia,fun m v h=>?_,fun i hi=>?_⟩
     . rcases vAt_put _ _ _ _ _ h with rfl | h
       . lia
       . have:=ih.dv m v h;lia
     . dsimp only
       rw [List.getD_eq_getElem?_getD,List.getElem?_set]
       by_cases e:k=i
       . subst e
         rw [if_pos rfl,if_pos (by rw [ih.bl];exact hi)]
         cases q:vAt (fsAt w k).ld n with
         | none=>simp;exact Int.lt_of_add_one_le neg_le_cast
         | some v=>have:=ih.dv n v q;simp;exact And.intro (idn this.1) this.2
       . rw [if_neg e,<- List.getD_eq_getElem?_getD]
         exact ih.bv i hi
theorem newP_lt {w:List Int} {p:Nat} (hp:p<=w.length):-1<=newP w p (fsAt w p)/\newP w p (fsAt w p) < p:=by
 have ok:=fs_ok w p hp
 unfold newP
 cases keyP w p with
 | none=>dsimp only;lia
 | some n =>
   dsimp only
   cases q:vAt (fsAt w p).ld n with
   | none=>simp;exact Int.lt_of_add_one_le neg_le_cast
   | some v=>have:=ok.dv n v q;simp;exact And.intro (idn this.1) this.2
noncomputable def candP (bf:List Int) (p:Nat):Nat->Int->List Int->List Int
 | 0,_,acc=>acc
 | n + 1,o,acc=>if o ≠ -1/\(p:Int) - o<=40 then candP bf p n (bf.getD o.toNat 0) (acc ++ [o]) else acc
theorem candP_s {bf:List Int} {p n:Nat} {o:Int} {acc:List Int}:candP bf p (n + 1) o acc=if o ≠ -1/\(p:Int) - o<=40 then candP bf p n (bf.getD o.toNat 0) (acc ++ [o]) else acc:=rfl
theorem tNear {O:Own} {a:FAddr} {w:List Int} {h:Int} {s:Fs} {p o:Int} {f g i:ET} {J:LC} (k:FI O a w h s) (hf:Evl f J O (.ref a.f)) (hg:Evl g J O (.int p)) (hi:Evl i J O (.int o)):Tst (bVal (mMet 549 f (eC g (eC i eN)) c_Matcher_is_near)) J O (decide (o ≠ -1/\p - o<=40)):=by
 obtain ⟨m,m1,_⟩:=k.nf
 intro Q E q
 exact hf _ _ ⟨a.f,a.fx,m,rfl,k.of,m1,hg _ _ (hi _ _ (c_near k ⟨_,rfl,q⟩))⟩
noncomputable def candBody:ST:=(sQ (sX (mM isL (mL 2) (eC (mL 3) eN) cA))
   (sA (mI (mT 415 15 (mT 549 20 (mL 0))) (mL 3)) (aL 3)))
noncomputable def candT:Mn.BT:=(bAnd (bVal (mMet 549 (mL 0) (eC (mL 1) (eC (mL 3) eN)) c_Matcher_is_near)) (bC .Lt (mA (eC (mL 2) eN) cN) (mT 549 18 (mL 0))))
theorem cand_loop {O₀:Own} {a:FAddr} {w:List Int} {h:Int} {s:Fs} {p:Nat} {C:Addr} (k:FI O₀ a w h s) (ok:FsOK w p s) (hp:p<=w.length) (hy:w.length<=100000) (hC:O₀ C=none):∀ (n:Nat) (o:Int) (acc:List Int) (J:LC) (O:Own) (Q:PS) (E:PE),
   J 0=some (.ref a.f)->J 1=some (.int p)->J 2=some (.ref C)->J 3=some (.int o)->O C=some (.list (acc.map .int))->Ext O₀ O->acc.length + n=40->-1<=o->o < p->(∀ x ∈ acc,0<=x/\x < p) ->
   (∀ J' O',J' 2=some (.ref C)->O' C=some (.list ((candP s.bf p n o acc).map .int))->Ext O₀ O'->(∀ x ∈ candP s.bf p n o acc,0<=x/\x < p)->(candP s.bf p n o acc).length<=40->Q .next J' O') ->
   whN candT candBody (n + 1) J O Q E:=by
 intro n
 induction n with
 | zero =>
   intro o acc J O Q E e0 e1 e2 e3 c1 x hl h1 h2 h3 q
   have kk:=k.mono x
   have t1:=tNear kk (eV e0) (eV e1) (eV e3)
   have t2:=tLt (evLenL (eV e2) c1 (by rw [List.length_map];lia)) (fin18 kk (eV e0))
   rw [List.length_map,decide_eq_false (by lia)] at t2
   refine whN_stop ?_ (q J O e2 c1 x h3 (Nat.le_of_eq hl))
   cases hc:decide (o ≠ -1/\(p:Int) - o<=40) with
   | true=>rw [hc] at t1;exact tAndT t1 t2
   | false=>rw [hc] at t1;exact tAndF t1
 | succ n ih =>
   intro o acc J O Q E e0 e1 e2 e3 c1 x hl h1 h2 h3 q
   have kk:=k.mono x
   have t1:=tNear kk (eV e0) (eV e1) (eV e3)
   have t2:=tLt (evLenL (eV e2) c1 (by rw [List.length_map];lia)) (fin18 kk (eV e0))
   rw [List.length_map,decide_eq_true (by lia)] at t2
   rw [candP_s] at q
   by_cases hc:o ≠ -1/\(p:Int) - o<=40
   . rw [decide_eq_true hc] at t1
     rw [if_pos hc] at q
     have ho:0<=o:=by lia
     have bo:=ok.bv o.toNat (by lia)
     refine whN_go (tAndT t1 t2) ?_
     refine sE (sAppL e2 c1 (eV e3) (by unfold yL;rw [List.length_map];lia) ?_)
     have c2:upd O C (.list (acc.map MV.int ++ [.int o])) C=some (.list ((acc ++ [o]).map .int)):=(uP _ _ _).trans (by rw [List.map_append];rfl)
     have x2:=x.put (o:=.list (acc.map MV.int ++ [.int o])) hC
     generalize upd O C (.list (acc.map MV.int ++ [.int o]))=O1 at c2 x2 ⊢
     have k2:=k.mono x2
     refine sAsgL (v:=.int (s.bf.getD o.toNat 0)) (evIdxL (row15 k2 (fin20 k2 (eV e0))) (eV e3) k2.lb ho (by lia) (by rw [List.getElem?_map,some_getD (by rw [ok.bl];lia)];rfl)) ?_
     exact ih (s.bf.getD o.toNat 0) (acc ++ [o]) (upd J 3 (.int (s.bf.getD o.toNat 0))) O1 Q E e0 e1 e2 uL c2 x2 (by rw [List.length_append,List.length_singleton];lia) bo.1 (by lia) (fun y hy'=>(List.mem_append.mp hy').elim (h3 y) fun hy'=>by rw [List.mem_singleton.mp hy'];exact⟨ho,h2⟩) q
   . rw [decide_eq_false hc] at t1
     rw [if_neg hc] at q
     exact whN_stop (tAndF t1) (q J O e2 c1 x h3 (by lia))
theorem c_cand {O:Own} {a:FAddr} {w:List Int} {h:Int} {p:Nat} {Q:PV} {E:PE} (k:FI O a w h (fsAt w p)) (hp:p<=w.length) (hy:w.length<=100000) (ho:oct? w)
   (q:∀ C O',O C=none->O' C=some (.list ((candP (fsAt w p).bf p 40 (newP w p (fsAt w p)) []).map .int))->Ext O O'->(∀ x ∈ candP (fsAt w p).bf p 40 (newP w p (fsAt w p)) [],0<=x/\x < p)->(candP (fsAt w p).bf p 40 (newP w p (fsAt w p)) []).length<=40->Q (.ref C) O'):c_Finder_candidates [.ref a.f,.int p] O Q E:=by
 refine ⟨rfl,ent2 rfl fun L _=>?_⟩
 generalize hρ:upd (upd (fun _=>none) 0 (MV.ref a.f)) 1 (MV.int (p:Int))=J
 have e0:J 0=some (.ref a.f):=(congrFun hρ _).symm
 have e1:J 1=some (.int p):=(congrFun hρ _).symm
 unfold f_Finder_candidates
 refine sE ⟨yl0,fun C hC=>aI ?_⟩
 have x1:Ext O (upd O C (.list [])):=.upd hC
 have c1:upd O C (.list []) C=some (.list (([]:List Int).map .int)):=uP _ _ _
 generalize upd O C (.list [])=O1 at x1 c1 ⊢
 have k1:=k.mono x1
 obtain ⟨n,n1,_⟩:=k1.nr
 have nl:=newP_lt (w:=w) hp
 refine sE ?_
 refine mMet1 (fin20 k1 (eV (k:=0) e0)) k1.ro n1 (eV (k:=1) e1) (c_newest k1 hp hy ho nl.2 ?_)
 refine aI (sE ⟨41,?_⟩)
 refine cand_loop (C:=C) k (fs_ok w p hp) hp hy hC 40 _ [] _ O1 _ E e0 e1 rfl rfl c1 x1 rfl nl.1 nl.2 (fun _ h=>nomatch h) fun J' O' r2 c2 x2 h2 h3=>?_
 exact sRetI (eV r2) (q C O' hC c2 x2 h2 h3)
noncomputable def alikeP (w:List Int) (p o:Nat):Nat->Nat->Nat
 | 0,k=>k
 | n + 1,k=>if w.getD (p + k) 0=w.getD (o + k) 0 then alikeP w p o n (k + 1) else k
theorem alikeP_s {w:List Int} {p o n k:Nat}:alikeP w p o (n + 1) k=if w.getD (p + k) 0=w.getD (o + k) 0 then alikeP w p o n (k + 1) else k:=rfl
theorem alike_le (w:List Int) (p o:Nat):∀ n k,alikeP w p o n k<=k + n
 | 0,k=>Nat.le_refl k
 | n + 1,k=>by
   rw [alikeP_s]
   split
   . have:=alike_le w p o n (k + 1);lia
   . exact Nat.le_add_right _ _
theorem alike_loop {w:List Int} {p o l:Nat} {O:Own} (hy:w.length<=100000) (hl:p + l<=w.length) (ho:o < p):∀ (n k:Nat) (J:LC) (Q:PS) (E:PE),
   J 1=some (.int p)->J 2=some (.int o)->J 3=some (.int k)->J 4=some (.int l)->J 5=some (.bytes w)->k + n=l ->
   (∀ J':LC,J' 3=some (.int (alikeP w p o n k:Nat))->Q .next J' O) ->
   whN (bAnd (bC .Lt (mL 3) (mL 4)) (bC .Eq (mI (mL 5) (mB .Add (mL 1) (mL 3))) (mI (mL 5) (mB .Add (mL 2) (mL 3))))) (sAug 3 (mC (.int 1))) (n + 1) J O Q E:=by
 intro n
 induction n with
 | zero =>
   intro k J Q E e1 e2 e3 e4 e5 hk q
   exact whN_stop (tAndF ((tLt (eV e3) (eV e4)).to (decide_eq_false (by lia)))) (q J e3)
 | succ n ih =>
   intro k J Q E e1 e2 e3 e4 e5 hk q
   have t1:=(tLt (O:=O) (eV e3) (eV e4)).to (decide_eq_true (by lia))
   have t2:=tEq (evIdxB (O:=O) (eV e5) (evAdd (eV e1) (eV e3)) (Int.add_nonneg (Int.natCast_nonneg _) (Int.natCast_nonneg _)) (by lia) (lE hy)) (evIdxB (eV e5) (evAdd (eV e2) (eV e3)) (Int.add_nonneg (Int.natCast_nonneg _) (Int.natCast_nonneg _)) (by lia) (lE hy))
   rw [show ((p:Int) + k).toNat=p + k by lia,show ((o:Int) + k).toNat=o + k by lia] at t2
   rw [alikeP_s] at q
   by_cases hc:w.getD (p + k) 0=w.getD (o + k) 0
   . rw [decide_eq_true hc] at t2
     rw [if_pos hc] at q
     refine whN_go (tAndT t1 t2) ?_
     refine ⟨k,e3,1,rfl,?_⟩
     exact ih (k + 1) (upd J 3 (.int ((k:Int) + 1))) Q E e1 e2 uL e4 e5 (by lia) q
   . rw [decide_eq_false hc] at t2
     rw [if_neg hc] at q
     exact whN_stop (tAndT t1 t2) (q J e3)
theorem c_alike {O:Own} {a:FAddr} {w:List Int} {h:Int} {s:Fs} {p o l:Nat} {Q:PV} {E:PE} (k:FI O a w h s) (hy:w.length<=100000) (hl:p + l<=w.length) (ho:o < p)
   (q:Q (.int (alikeP w p o l 0:Nat)) O):c_Matcher_alike [.ref a.f,.int p,.int o,.int 0,.int l] O Q E:=by
 refine ⟨rfl,ent5 rfl fun L _=>?_⟩
 unfold f_Matcher_alike
 refine sE (sAsgL (fin13 k (eV (k:=0) rfl)) ?_)
 refine sE ⟨l + 1,?_⟩
 exact alike_loop hy hl ho l 0 _ _ E rfl rfl rfl rfl rfl (Nat.add_comm _ _) fun J' r3=>sRetI (eV r3) q
noncomputable def evyP (w:List Int) (p l:Nat):List Int->Nat->St2->St2
 | [],_,acc=>acc
 | o :: r,g,acc=>if g >= l then acc else if w.getD (o.toNat + g) 0=w.getD (p + g) 0 then
     (if alikeP w p o.toNat l 0 > g then evyP w p l r (alikeP w p o.toNat l 0) (acc ++ [((alikeP w p o.toNat l 0:Int),(p:Int) - o)]) else evyP w p l r g acc)
     else evyP w p l r g acc
theorem evyP_cons {w:List Int} {p l g:Nat} {o:Int} {r:List Int} {acc:St2}:evyP w p l (o :: r) g acc=if g >= l then acc else if w.getD (o.toNat + g) 0=w.getD (p + g) 0 then
     (if alikeP w p o.toNat l 0 > g then evyP w p l r (alikeP w p o.toNat l 0) (acc ++ [((alikeP w p o.toNat l 0:Int),(p:Int) - o)]) else evyP w p l r g acc)
     else evyP w p l r g acc:=rfl
noncomputable def evyBody:ST:=(sQ (sIf (bC .GtE (mL 5) (mL 4)) (sFlow .brk) sN)
   (sIf (bC .Eq (mI (mT 549 13 (mL 0)) (mB .Add (mL 6) (mL 5))) (mI (mT 549 13 (mL 0)) (mB .Add (mL 1) (mL 5)))) (sQ (sA (mMet 549 (mL 0) (eC (mL 1) (eC (mL 6) (eC (mC (.int 0)) (eC (mL 4) eN)))) c_Matcher_alike) (aL 7))
   (sIf (bC .Gt (mL 7) (mL 5)) (sQ (sX (mM isL (mL 3) (eC (mU (eC (mL 7) (eC (mB .Sub (mL 1) (mL 6)) eN))) eN) cA))
   (sA (mL 7) (aL 5))) sN)) sN))
noncomputable abbrev mOK (xs:St2):Prop:=∀ x ∈ xs,2<=x.1/\x.1<=9
theorem evy_loop {O₀:Own} {a:FAddr} {w:List Int} {h:Int} {s:Fs} {p l:Nat} {F C:Addr} {cs0:List MV} (k:FI O₀ a w h s) (hy:w.length<=100000) (hl:p + l<=w.length) (hl9:l<=9) (hF:O₀ F=none) (hCF:C ≠ F):∀ (cs:List Int) (g:Nat) (acc:St2) (J:LC) (O:Own) (Q:PS) (E:PE),
   J 0=some (.ref a.f)->J 1=some (.int p)->J 3=some (.ref F)->J 4=some (.int l)->J 5=some (.int g)->O C=some (.list cs0)->O F=some (.list (acc.map prM))->Ext O₀ O->acc.length + cs.length<=1000->1<=g->(∀ x ∈ cs,0<=x/\x < p)->mOK acc ->
   (∀ J' O',J' 3=some (.ref F)->O' F=some (.list ((evyP w p l cs g acc).map prM))->Ext O₀ O'->mOK (evyP w p l cs g acc)->(evyP w p l cs g acc).length<=1000->Q .next J' O') ->
   forL (aL 6) evyBody (fun O=>O C=some (.list cs0)) (cs.map .int) J O Q E:=by
 intro cs
 induction cs with
 | nil=>intro g acc J O Q E e0 e1 e3 e4 e5 hC f1 x hn hg hcs hm q;exact⟨hC,q J O e3 f1 x hm hn⟩
 | cons o r ih =>
   intro g acc J O Q E e0 e1 e3 e4 e5 hC f1 x hn hg hcs hm q
   have ho:=hcs o (.head _)
   have hcs':∀ x ∈ r,0<=x/\x < p:=fun y hy=>hcs y (.tail _ hy)
   rw [List.length_cons] at hn
   rw [List.map_cons]
   refine ⟨hC,aI ?_⟩
   generalize hρ:upd J 6 (.int o)=J1
   have g0:J1 0=some (.ref a.f):=(congrFun hρ _).symm.trans e0
   have g1:J1 1=some (.int p):=(congrFun hρ _).symm.trans e1
   have g3:J1 3=some (.ref F):=(congrFun hρ _).symm.trans e3
   have g4:J1 4=some (.int l):=(congrFun hρ _).symm.trans e4
   have g5:J1 5=some (.int g):=(congrFun hρ _).symm.trans e5
   have g6:J1 6=some (.int o):=(congrFun hρ _).symm.trans uL
   have kk:=k.mono x
   have t1:=tGe (O:=O) (eV g5) (eV g4)
   rw [evyP_cons] at q
   refine sE ?_
   by_cases hc:g >= l
   . rw [if_pos hc] at q
     exact sIfT (t1.to (decide_eq_true (cast_le hc))) (q J1 O g3 f1 x hm (by lia))
   . rw [if_neg hc] at q
     refine sIfF (t1.to (decide_eq_false (by lia))) (si ?_)
     have t2:=tEq (evIdxB (O:=O) (fin13 kk (eV g0)) (evAdd (eV g6) (eV g5)) (Int.add_nonneg ho.1 (Int.natCast_nonneg _)) (by lia) (lE hy)) (evIdxB (fin13 kk (eV g0)) (evAdd (eV g1) (eV g5)) (Int.add_nonneg (Int.natCast_nonneg _) (Int.natCast_nonneg _)) (by lia) (lE hy))
     rw [show (o + (g:Int)).toNat=o.toNat + g by lia,show ((p:Int) + g).toNat=p + g by lia] at t2
     by_cases hd:w.getD (o.toNat + g) 0=w.getD (p + g) 0
     . rw [if_pos hd] at q
       refine sIfT (t2.to (decide_eq_true hd)) ?_
       obtain ⟨m,m1,_⟩:=kk.nf
       refine sE ⟨_,g0,a.f,a.fx,m,rfl,kk.of,m1,⟨_,g1,_,g6,_,g4,?_⟩⟩
       have hoI:MV.int o=.int (o.toNat:Int):=by rw [Int.toNat_of_nonneg ho.1]
       rw [hoI]
       refine c_alike kk hy hl (toNat_lt ho.1 ho.2) ?_
       refine aI ?_
       have al:=alike_le w p o.toNat l 0
       generalize alikeP w p o.toNat l 0=c at q al ⊢
       have t3:=tGt (O:=O) (J:=upd J1 7 (.int c)) (eV (k:=7) uL) (eV (k:=5) g5)
       by_cases he:c > g
       . rw [if_pos he] at q
         refine sIfT (t3.to (decide_eq_true (cast_lt he))) ?_
         refine sE (sAppL (v:=prM ((c:Int),(p:Int) - o)) g3 f1 (evTup2 (eV uL) (evSub (eV g1) (eV g6))) (by unfold yL;rw [List.length_map];lia) ?_)
         refine sAsgL (eV (k:=7) uL) ?_
         refine ih c (acc ++ [((c:Int),(p:Int) - o)]) (upd (upd J1 7 (.int c)) 5 (.int c)) _ Q E g0 g1 g3 g4 uL ((uN hCF).trans hC) ((uP _ _ _).trans (by rw [List.map_append];rfl)) (x.put hF) (by rw [List.length_append,List.length_singleton];lia) (Nat.le_of_lt (Nat.lt_of_le_of_lt hg he)) hcs' (fun y hy'=>(List.mem_append.mp hy').elim (hm y) fun hy'=>by rw [List.mem_singleton.mp hy'];dsimp only;lia) q
       . rw [if_neg he] at q
         exact sIfF (t3.to (decide_eq_false (by lia))) (si (ih g acc (upd J1 7 (.int c)) O Q E g0 g1 g3 g4 g5 hC f1 x (Nat.le_of_succ_le hn) hg hcs' hm q))
     . rw [if_neg hd] at q
       exact sIfF (t2.to (decide_eq_false hd)) (si (ih g acc J1 O Q E g0 g1 g3 g4 g5 hC f1 x (Nat.le_of_succ_le hn) hg hcs' hm q))
noncomputable def evyA (w:List Int) (p:Nat):St2:=evyP w p (min 9 (w.length - p)) (candP (fsAt w p).bf p 40 (newP w p (fsAt w p)) []) 1 []
theorem c_evy {O:Own} {a:FAddr} {w:List Int} {h:Int} {p:Nat} {Q:PV} {E:PE} (k:FI O a w h (fsAt w p)) (hp:p<=w.length) (hy:w.length<=100000) (ho:oct? w)
   (q:∀ F O',O F=none->O' F=some (.list ((evyA w p).map prM))->Ext O O'->mOK (evyA w p)->(evyA w p).length<=1000->Q (.ref F) O'):c_Finder_every [.ref a.f,.int p,.int 9] O Q E:=by
 refine ⟨rfl,ent3 rfl fun L _=>?_⟩
 generalize hρ:upd (upd (upd (fun _=>none) 0 (MV.ref a.f)) 1 (MV.int (p:Int))) 2 (MV.int 9)=J
 have e0:J 0=some (.ref a.f):=(congrFun hρ _).symm
 have e1:J 1=some (.int p):=(congrFun hρ _).symm
 have e2:J 2=some (.int 9):=(congrFun hρ _).symm
 unfold f_Finder_every
 refine sE ⟨yl0,fun F hF=>?_⟩
 have x1:Ext O (upd O F (.list [])):=.upd hF
 have f1:upd O F (.list []) F=some (.list (([]:St2).map prM)):=uP _ _ _
 generalize upd O F (.list [])=O1 at x1 f1 ⊢
 have k1:=k.mono x1
 obtain ⟨m,m1,_⟩:=k1.nf
 refine ⟨_,e0,a.f,a.fx,m,rfl,k1.of,m1,⟨_,e1,_,e2,⟨rfl,ent3 rfl fun L' _=>?_⟩⟩⟩
 unfold f_Matcher_limit
 refine sRetI (evMin (eV (k:=2) rfl) (evSub (evLen (fin13 k1 (eV (k:=0) rfl)) (lE hy)) (eV (k:=1) rfl))) ?_
 rw [show min (9:Int) ((w.length:Int) - p)=((min 9 (w.length - p):Nat):Int) by lia]
 refine ⟨yl2,aTupRL ?_⟩
 refine sE (sAsgL (evSub (fin16 k1 (eV (k:=0) e0)) eS) ?_)
 refine sE ?_
 refine mMet1 (eV (k:=0) e0) k1.of m1 (eV (k:=1) e1) (c_cand k1 hp hy ho fun C O2 hC c2 x2 hc1 hc2=>?_)
 refine ⟨C,_,rfl,c2,?_⟩
 have x12:=x1.trans x2
 have hCF:C ≠ F:=(nO f1 hC).symm
 refine evy_loop (C:=C) (F:=F) k hy (show p + min 9 (w.length - p)<=w.length by lia) (Nat.min_le_left _ _) hF hCF _ 1 [] _ O2 _ E e0 e1 rfl rfl rfl c2 (x2 _ _ f1) x12 (by rw [List.length_nil,Nat.zero_add];exact Nat.le_trans hc2 dC) dC hc1 (fun _ h=>nomatch h) fun J' O' r3 f3 x3 hm hn=>?_
 exact sRetI (eV r3) (q F O' hF f3 x3 hm hn)
theorem sRetK {e:ET} {J:LC} {O:Own} {Q:PS} {E:PE} (h:e J O (fun v O'=>Q (.ret v) J O') E):sR e J O Q E:=h
structure TrAt (O:Own) (t tx:Addr) (a:FAddr) (k:Int):Prop where
 ot:O t=some (.inst 146 tx)
 nt:∃ m,O tx=some (.ns m)/\m 1=some (.ref a.f)/\m 2=some (.int 2)/\m 3=some (.int k)
 n1:tx ≠ a.fx
 n2:tx ≠ a.rx
section
variable {O O':Own} {t tx:Addr} {a:FAddr} {w:List Int} {h k:Int} {s:Fs} {f:ET} {J:LC}
theorem TrAt.mono (x:TrAt O t tx a k) (y:Ext O O'):TrAt O' t tx a k:=by
 obtain ⟨m,m1,m2⟩:=x.nt
 exact⟨y _ _ x.ot,⟨m,y _ _ m1,m2⟩,x.n1,x.n2⟩
theorem tr1 (x:TrAt O t tx a k) (hf:Evl f J O (.ref t)):Evl (mT 146 1 f) J O (.ref a.f):=by obtain ⟨m,m1,m2,_⟩:=x.nt;exact evAtt hf x.ot m1 m2
theorem tr2 (x:TrAt O t tx a k) (hf:Evl f J O (.ref t)):Evl (mT 146 2 f) J O (.int 2):=by obtain ⟨m,m1,_,m2,_⟩:=x.nt;exact evAtt hf x.ot m1 m2
theorem tr3 (x:TrAt O t tx a k) (hf:Evl f J O (.ref t)):Evl (mT 146 3 f) J O (.int k):=by obtain ⟨m,m1,_,_,m2⟩:=x.nt;exact evAtt hf x.ot m1 m2
theorem TrAt.frame (x:TrAt O t tx a k) (y:FI O a w h s) (z:ExtS [a.fx,a.d,a.b] O O'):TrAt O' t tx a k:=by
 obtain ⟨m,m1,m2⟩:=x.nt
 obtain ⟨n,n1,_⟩:=y.nf
 have p1:=nE x.ot n1 nofun
 have p2:=nE x.ot y.ld nofun
 have p3:=nE x.ot y.lb nofun
 have p4:=nE m1 y.ld nofun
 have p5:=nE m1 y.lb nofun
 exact⟨z _ _ (nmC p1 (nmC p2 (nmC p3 nmN))) x.ot,⟨m,z _ _ (nmC x.n1 (nmC p4 (nmC p5 nmN))) m1,m2⟩,x.n1,x.n2⟩
theorem FI.frame {S:List Addr} (y:FI O a w h s) (z:ExtS S O O') (h1:a.f ∉ S) (h2:a.fx ∉ S) (h3:a.r ∉ S) (h4:a.rx ∉ S) (h5:a.d ∉ S) (h6:a.b ∉ S):FI O' a w h s:=by
 obtain ⟨m,m1,m2⟩:=y.nf
 obtain ⟨n,n1,n2⟩:=y.nr
 exact⟨z _ _ h1 y.of,⟨m,z _ _ h2 m1,m2⟩,z _ _ h3 y.ro,⟨n,z _ _ h4 n1,n2⟩,z _ _ h5 y.ld,z _ _ h6 y.lb,y.ne⟩
theorem TrAt.set {m:Nat->Option MV} (x:TrAt O t tx a k) (y:FI O a w h s) (e:O tx=some (.ns m)) (j:Int):TrAt (upd O tx (.ns (upd m 3 (.int j)))) t tx a j/\FI (upd O tx (.ns (upd m 3 (.int j)))) a w h s:=by
 obtain ⟨m',m1,m2⟩:=x.nt
 cases one e m1
 refine ⟨⟨(uN (nE x.ot e nofun)).trans x.ot,⟨_,uP _ _ _,m2.1,m2.2.1,rfl⟩,x.n1,x.n2⟩,y.frame (S:=[tx]) (.upd (.head _)) ?_ ?_ ?_ ?_ ?_ ?_⟩
 . simpa using nE y.of e nofun
 . simpa using x.n1.symm
 . simpa using nE y.ro e nofun
 . simpa using x.n2.symm
 . simpa using nE y.ld e nofun
 . simpa using nE y.lb e nofun
end
theorem up_loop {t tx:Addr} {a:FAddr} {w:List Int} {p:Nat} (hp:p<=w.length) (hy:w.length<=100000) (ho:oct? w):∀ (n k:Nat) (J:LC) (O:Own) (Q:PS) (E:PE),
   J 0=some (.ref t)->J 1=some (.int p)->TrAt O t tx a k->FI O a w k (fsAt w k)->k + n=p ->
   (∀ J' O',TrAt O' t tx a p->FI O' a w p (fsAt w p)->ExtS [a.fx,a.d,a.b,tx] O O'->Q .next J' O') ->
   whN (bC .Lt (mT 146 3 (mL 0)) (mL 1)) (sQ (sX (mMet 549 (mT 146 1 (mL 0)) (eC (mT 146 3 (mL 0)) eN) c_Matcher_put))
   (sA (mB .Add (mT 146 3 (mL 0)) (mC (.int 1))) (aAtt 146 3 (mL 0)))) (n + 1) J O Q E:=by
 intro n
 induction n with
 | zero =>
   intro k J O Q E e0 e1 ht hf hk q
   obtain rfl:k=p:=hk
   exact whN_stop ((tLt (tr3 ht (eV e0)) (eV e1)).to (decide_eq_false (leg (Int.le_refl _)))) (q J O ht hf .refl)
 | succ n ih =>
   intro k J O Q E e0 e1 ht hf hk q
   have ok:=fs_ok w k (by lia)
   obtain ⟨m,m1,_⟩:=hf.nf
   refine whN_go ((tLt (tr3 ht (eV e0)) (eV e1)).to (decide_eq_true (by lia))) ?_
   refine sE (sMet1 (tr1 ht (eV e0)) hf.of m1 (tr3 ht (eV e0)) (c_put549 hf (by lia) hy ho ok.bl (by have:=ok.dl;lia) fun O1 hf1 x1=>⟨rfl,?_⟩))
   have ht1:=ht.frame hf x1
   obtain ⟨m',m1',_⟩:=ht1.nt
   refine sG (evAdd (tr3 ht1 (eV e0)) eS) (aAttI (eV e0) ht1.ot m1' ?_)
   obtain ⟨ht2,hf2⟩:=ht1.set hf1 m1' ((k:Int) + 1)
   refine ih (k + 1) J _ Q E e0 e1 ht2 hf2 (by lia) fun J' O' h1 h2 h3=>q J' O' h1 h2 ?_
   exact (x1.mono (by simp)).trans (ExtS.trans (.upd (by simp)) h3)
theorem c_upto {O:Own} {t tx:Addr} {a:FAddr} {w:List Int} {k p:Nat} {Q:PV} {E:PE} (hp:p<=w.length) (hy:w.length<=100000) (ho:oct? w) (ht:TrAt O t tx a k) (hf:FI O a w k (fsAt w k)) (hk:k<=p)
   (q:∀ O',TrAt O' t tx a p->FI O' a w p (fsAt w p)->ExtS [a.fx,a.d,a.b,tx] O O'->Q .none O'):c_Trail_up_to [.ref t,.int p] O Q E:=by
 refine ⟨rfl,ent2 rfl fun L _=>?_⟩
 unfold f_Trail_up_to
 exact⟨p - k + 1,up_loop hp hy ho (p - k) k _ O _ E rfl rfl ht hf (Nat.add_sub_of_le hk) fun J' O' h1 h2 h3=>q O' h1 h2 h3⟩
theorem c_tevy {O:Own} {t tx:Addr} {a:FAddr} {w:List Int} {k p:Nat} {Q:PV} {E:PE} (hp:p<=w.length) (hy:w.length<=100000) (ho:oct? w) (ht:TrAt O t tx a k) (hf:FI O a w k (fsAt w k)) (hk:k<=p)
   (q:∀ M O',TrAt O' t tx a p->FI O' a w p (fsAt w p)->ExtS [a.fx,a.d,a.b,tx] O O'->O' M=some (.list ((evyA w p).map prM))->(∀ x o,x ∉ [a.fx,a.d,a.b,tx]->O x=some o->x ≠ M)->mOK (evyA w p)->(evyA w p).length<=1000->Q (.ref M) O'):c_Trail_every [.ref t,.int p,.int 9] O Q E:=by
 refine ⟨rfl,fun L hL=>?_⟩
 unfold f_Trail_every
 simp only [g_Trail_every,List.append_nil,aCons1,aNil1,cE,aL]
 have hc0:O (L + 1 + 0)=none:=hL _ (Nat.le_succ L)
 generalize L + 1 + 0=c at hc0 ⊢
 refine ⟨_,uP _ _ _,?_⟩
 rw [uU]
 have x1:Ext O (upd O c (.cell (some (.ref t)))):=.upd hc0
 have c1:=uP O c (.cell (some (.ref t)))
 generalize upd O c (.cell (some (.ref t)))=O1 at x1 c1 ⊢
 have ht1:=ht.mono x1
 have hf1:=hf.mono x1
 obtain ⟨m,m1,_⟩:=ht1.nt
 obtain ⟨n,n1,_⟩:=hf1.nf
 refine sE (sMet1 (evCel c1) ht1.ot m1 (eV (k:=0) rfl) (c_upto hp hy ho ht1 hf1 hk fun O2 ht2 hf2 x2=>⟨rfl,?_⟩))
 have c2:O2 c=_:=x2 _ _ (nmC (nE c1 n1 nofun) (nmC (nE c1 hf1.ld nofun) (nmC (nE c1 hf1.lb nofun) (nmC (nE c1 m1 nofun) nmN)))) c1
 obtain ⟨n',n1',_⟩:=hf2.nf
 refine sRetK ?_
 unfold mComp iT mMet
 refine tr1 ht2 (evCel c2) _ _ ?_
 refine ⟨a.f,a.fx,n',rfl,hf2.of,n1',⟨_,rfl,_,rfl,c_evy hf2 hp hy ho fun F O3 hF f3 x3 hm hn=>?_⟩⟩
 refine ⟨F,_,rfl,f3,by unfold yL;rw [List.length_map];exact lE hn,fun D C hD _ _=>?_⟩
 have ht3:=ht2.mono x3
 have c3:=x3 _ _ c2
 refine comp_loc (em:=prM) (tf:=fun x=>decide (x.1 >= 2)) (ef:=prM) (fun acc=>(Ext.upd hD) _ _ f3) (evyA w p) (fun x hx J acc e=>?_) (fun x hx _ J acc e=>eV e) [] _ _ ?_
 . have y:Ext O3 (upd O3 D (.list acc)):=.upd hD
   exact tGe (evTup (i:=0) (eV e) eS dC rfl) (tr2 (ht3.mono y) (evCel (y _ _ c3)))
 . have hfl:(evyA w p).filter (fun x=>decide (x.1 >= 2))=evyA w p:=List.filter_eq_self.mpr fun x hx=>decide_eq_true (hm x hx).1
   rw [hfl,List.nil_append]
   have y:Ext O3 (upd O3 D (.list ((evyA w p).map prM))):=.upd hD
   refine ⟨uP _ _ _,q D _ (ht3.mono y) ((hf2.mono x3).mono y) (x1.toS.trans (x2.trans (x3.trans y).toS)) (uP _ _ _) (fun x o h1 h2=>?_) hm hn⟩
   rintro rfl
   rw [x3 _ _ (x2 _ _ h1 (x1 _ _ h2))] at hD
   cases hD
noncomputable def stM:Option (Int × Int)->MV
 | none=>.none
 | some p=>prM p
structure WAddr where
 y:Addr
 yx:Addr
 c:Addr
 s:Addr
structure Wy where
 co:List (Option Int)
 st:List (Option (Int × Int))
structure WyAt (O:Own) (b:WAddr) (n:Nat) (u:Wy):Prop where
 oy:O b.y=some (.inst 181 b.yx)
 ny:∃ m,O b.yx=some (.ns m)/\m 4=some (.int n)/\m 5=some (.ref b.c)/\m 6=some (.ref b.s)
 oc:O b.c=some (.list (u.co.map optM))
 os:O b.s=some (.list (u.st.map stM))
 ne:b.c ≠ b.s
section
variable {O O':Own} {b:WAddr} {n:Nat} {u:Wy} {f:ET} {J:LC}
theorem WyAt.mono (x:WyAt O b n u) (y:Ext O O'):WyAt O' b n u:=by
 obtain ⟨m,m1,m2⟩:=x.ny
 exact⟨y _ _ x.oy,⟨m,y _ _ m1,m2⟩,y _ _ x.oc,y _ _ x.os,x.ne⟩
theorem WyAt.frame {S:List Addr} (x:WyAt O b n u) (y:ExtS S O O') (h1:b.y ∉ S) (h2:b.yx ∉ S) (h3:b.c ∉ S) (h4:b.s ∉ S):WyAt O' b n u:=by
 obtain ⟨m,m1,m2⟩:=x.ny
 exact⟨y _ _ h1 x.oy,⟨m,y _ _ h2 m1,m2⟩,y _ _ h3 x.oc,y _ _ h4 x.os,x.ne⟩
theorem wy4 (x:WyAt O b n u) (hf:Evl f J O (.ref b.y)):Evl (mT 181 4 f) J O (.int n):=by obtain ⟨m,m1,m2,_⟩:=x.ny;exact evAtt hf x.oy m1 m2
theorem wy5 (x:WyAt O b n u) (hf:Evl f J O (.ref b.y)):Evl (mT 181 5 f) J O (.ref b.c):=by obtain ⟨m,m1,_,m2,_⟩:=x.ny;exact evAtt hf x.oy m1 m2
theorem wy6 (x:WyAt O b n u) (hf:Evl f J O (.ref b.y)):Evl (mT 181 6 f) J O (.ref b.s):=by obtain ⟨m,m1,_,_,m2⟩:=x.ny;exact evAtt hf x.oy m1 m2
theorem WyAt.set (x:WyAt O b n u) (co:List (Option Int)) (st:List (Option (Int × Int))):WyAt (upd (upd O b.c (.list (co.map optM))) b.s (.list (st.map stM))) b n ⟨co,st⟩:=by
 obtain ⟨m,m1,m2⟩:=x.ny
 exact⟨(uN (nE x.oy x.os nofun)).trans ((uN (nE x.oy x.oc nofun)).trans x.oy),⟨m,(uN (nE m1 x.os nofun)).trans ((uN (nE m1 x.oc nofun)).trans m1),m2⟩,(uN x.ne).trans (uP _ _ _),uP _ _ _,x.ne⟩
end
theorem evSize {f:ET} {J:LC} {O:Own} {p:Int × Int} (hf:Evl f J O (prM p)) (h:0<=p.1):Evl (mA (eC f eN) c_step_size) J O (.int (stSz p)):=by
 intro Q E q
 refine hf _ _ (c_size (a:=p.1) (b:=p.2) ?_)
 unfold stSz at q
 by_cases h0:p.1=0
 . rw [if_pos h0] at q ⊢;exact q
 . rw [if_neg h0] at q ⊢
   rw [Int.toNat_of_nonneg h] at q;exact q
noncomputable def offP (n:Nat) (u:Wy) (i:Nat) (p:Int × Int) (k:Int):Wy :=
 if i + stSz p > n then u else match u.co.getD i none with
   | none=>u
   | some c=>match u.co.getD (i + stSz p) none with
     | none=>⟨u.co.set (i + stSz p) (some (c + k)),u.st.set (i + stSz p) (some p)⟩
     | some c'=>if c + k < c' then ⟨u.co.set (i + stSz p) (some (c + k)),u.st.set (i + stSz p) (some p)⟩ else u
structure WyOK (n a:Nat) (u:Wy):Prop where
 cl:u.co.length=n + 1
 sl:u.st.length=n + 1
 ca:∀ i,i<=a->∃ c,u.co.getD i none=some c
 sa:∀ i c,1<=i->u.co.getD i none=some c->∃ p,u.st.getD i none=some p/\0<=p.1/\1<=stSz p/\stSz p<=i
theorem getD_set {α:Type} {xs:List α} {i j:Nat} {v d:α} (h:i < xs.length):(xs.set i v).getD j d=if i=j then v else xs.getD j d:=by
 rw [List.getD_eq_getElem?_getD,List.getElem?_set,List.getD_eq_getElem?_getD]
 by_cases e:i=j
 . rw [if_pos e,if_pos (e ▸ h),if_pos e];rfl
 . rw [if_neg e,if_neg e]
theorem off_put {n a:Nat} {u:Wy} {i:Nat} {p:Int × Int} {v:Int} (ok:WyOK n a u) (hi:i + stSz p<=n) (h0:0<=p.1) (h1:1<=stSz p):WyOK n a ⟨u.co.set (i + stSz p) (some v),u.st.set (i + stSz p) (some p)⟩ where
 cl:=by rw [List.length_set];exact ok.cl
 sl:=by rw [List.length_set];exact ok.sl
 ca j hj:=by
   rw [getD_set (by rw [ok.cl];exact Nat.lt_succ_of_le hi)]
   split
   . exact⟨_,rfl⟩
   . exact ok.ca j hj
 sa j c hj hc:=by
   rw [getD_set (by rw [ok.cl];exact Nat.lt_succ_of_le hi)] at hc
   rw [getD_set (by rw [ok.sl];exact Nat.lt_succ_of_le hi)]
   by_cases e:i + stSz p=j
   . rw [if_pos e];exact⟨p,rfl,h0,h1,by lia⟩
   . rw [if_neg e] at hc ⊢;exact ok.sa j c hj hc
theorem off_ok {n a:Nat} {u:Wy} {i:Nat} {p:Int × Int} {k:Int} (ok:WyOK n a u) (h0:0<=p.1) (h1:1<=stSz p):WyOK n a (offP n u i p k):=by
 unfold offP
 split
 . exact ok
 . split
   . exact ok
   . split
     . exact off_put ok (by lia) h0 h1
     . split
       . exact off_put ok (by lia) h0 h1
       . exact ok
theorem off_next {n a:Nat} {u:Wy} {p:Int × Int} {k:Int} (ok:WyOK n a u) (h0:0<=p.1) (h1:stSz p=1) (ha:a + 1<=n):WyOK n (a + 1) (offP n u a p k):=by
 have ok':=off_ok (i:=a) (k:=k) ok h0 (by lia)
 refine ⟨ok'.cl,ok'.sl,fun i hi=>?_,ok'.sa⟩
 by_cases e:i<=a
 . exact ok'.ca i e
 . obtain rfl:i=a + 1:=by lia
   obtain ⟨c,hc⟩:=ok.ca a (Nat.le_refl a)
   unfold offP
   rw [h1,if_neg (Nat.not_lt_of_le ha),hc]
   dsimp only
   cases q:u.co.getD (a + 1) none with
   | none=>dsimp only;rw [getD_set (by rw [ok.cl];exact Nat.lt_succ_of_le ha),if_pos rfl];exact⟨_,rfl⟩
   | some c' =>
     dsimp only
     split
     . dsimp only;rw [getD_set (by rw [ok.cl];exact Nat.lt_succ_of_le ha),if_pos rfl];exact⟨_,rfl⟩
     . exact⟨_,q⟩
theorem some_getD' {α:Type} {b:List α} {i:Nat} {d:α} (h:i < b.length):b[i]?=some (b.getD i d):=by
 rw [List.getD_eq_getElem?_getD,List.getElem?_eq_getElem h];rfl
theorem c_offer {O:Own} {b:WAddr} {n a:Nat} {u:Wy} {i:Nat} {p:Int × Int} {k:Int} {Q:PV} {E:PE} (x:WyAt O b n u) (ok:WyOK n a u) (hn:n<=100000) (hi:i<=a) (han:a<=n) (h0:0<=p.1) (h9:p.1<=100000)
   (q:∀ O',WyAt O' b n (offP n u i p k)->ExtS [b.c,b.s] O O'->Q .none O'):c_Ways_offer [.ref b.y,.int i,prM p,.int k] O Q E:=by
 refine ⟨rfl,ent4 rfl fun L _=>?_⟩
 generalize hρ:upd (upd (upd (upd (fun _=>none) 0 (MV.ref b.y)) 1 (MV.int (i:Int))) 2 (prM p)) 3 (MV.int k)=J
 have e0:J 0=some (.ref b.y):=(congrFun hρ _).symm
 have e1:J 1=some (.int i):=(congrFun hρ _).symm
 have e2:J 2=some (prM p):=(congrFun hρ _).symm
 have e3:J 3=some (.int k):=(congrFun hρ _).symm
 unfold f_Ways_offer
 refine sE (sAsgL (evAdd (eV e1) (evSize (eV e2) h0)) ?_)
 rw [show (i:Int) + (stSz p:Nat)=((i + stSz p:Nat):Int) by lia]
 obtain ⟨c,hc⟩:=ok.ca i hi
 unfold offP at q
 have cl:=ok.cl
 generalize i + stSz p=j at q ⊢
 have t1:=tGt (eV (k:=4) (uL (J:=J) (v:=.int (j:Nat)))) (wy4 x (eV (k:=0) e0))
 refine sE ?_
 by_cases h1:j > n
 . rw [if_pos h1] at q
   exact sIfT (t1.to (decide_eq_true (cast_lt h1))) (q O x .refl)
 . rw [if_neg h1,hc] at q
   dsimp only at q
   refine sIfF (t1.to (decide_eq_false (by lia))) (si ?_)
   refine sE (sAsgL (evAdd (evIdxL (v:=.int c) (wy5 x (eV (k:=0) e0)) (eV (k:=1) e1) x.oc (Int.natCast_nonneg _) (by lia) (by rw [List.getElem?_map,Int.toNat_natCast,some_getD' (d:=none) (by lia),hc];rfl)) (eV (k:=3) e3)) ?_)
   generalize hρ1:upd (upd J 4 (.int (j:Nat))) 5 (.int (c + k))=J1
   have g0:J1 0=some (.ref b.y):=(congrFun hρ1 _).symm.trans e0
   have g2:J1 2=some (prM p):=(congrFun hρ1 _).symm.trans e2
   have g4:J1 4=some (.int j):=(congrFun hρ1 _).symm
   have g5:J1 5=some (.int (c + k)):=(congrFun hρ1 _).symm
   have ei:Evl (mI (mT 181 5 (mL 0)) (mL 4)) J1 O (optM (u.co.getD j none)):=evIdxL (wy5 x (eV g0)) (eV g4) x.oc (Int.natCast_nonneg _) (by lia) (by rw [List.getElem?_map,Int.toNat_natCast,some_getD' (d:=none) (by lia)];rfl)
   have fin:(∀ O',WyAt O' b n ⟨u.co.set j (some (c + k)),u.st.set j (some p)⟩->ExtS [b.c,b.s] O O'->Q .none O')->(sQ (sA (mL 5) (aIdx (mT 181 5 (mL 0)) (mL 4))) (sA (mL 2) (aIdx (mT 181 6 (mL 0)) (mL 4)))) J1 O (kRet Q) E:=by
     intro q
     refine sE (sG (eV g5) (aIdxLI (wy5 x (eV g0)) (eV g4) x.oc (Int.natCast_nonneg _) (by rw [List.length_map];lia) (by rw [List.length_map];lia) ?_))
     have e1:(u.co.map optM).set (j:Int).toNat (.int (c + k))=(u.co.set j (some (c + k))).map optM:=by rw [Int.toNat_natCast,List.map_set];rfl
     rw [e1]
     obtain ⟨m,m1,_,_,m2⟩:=x.ny
     have o1:=(uN (o:=.list ((u.co.set j (some (c + k))).map optM)) (nE x.oy x.oc nofun)).trans x.oy
     have o2:=(uN (o:=.list ((u.co.set j (some (c + k))).map optM)) (nE m1 x.oc nofun)).trans m1
     refine sG (eV g2) (aIdxLI (evAtt (eV g0) o1 o2 m2) (eV g4) ((uN x.ne.symm).trans x.os) (Int.natCast_nonneg _) (by rw [List.length_map,ok.sl];lia) (by rw [List.length_map,ok.sl];exact Nat.succ_le_of_lt (le_lt hn)) ?_)
     have e2:(u.st.map stM).set (j:Int).toNat (prM p)=(u.st.set j (some p)).map stM:=by rw [Int.toNat_natCast,List.map_set];rfl
     rw [e2]
     exact q _ (x.set _ _) (ExtS.trans (.upd (.head _)) (.upd (.tail _ (.head _))))
   cases hj:u.co.getD j none with
   | none =>
     rw [hj] at q ei
     exact sIfT (tOrT (tIsN ei)) (fin q)
   | some c' =>
     rw [hj] at q ei
     dsimp only at q
     have t2:=tLt (eV g5) ei
     by_cases h2:c + k < c'
     . rw [if_pos h2] at q
       exact sIfT (tOrF (tIsI ei) (t2.to (decide_eq_true h2))) (fin q)
     . rw [if_neg h2] at q
       exact sIfF (tOrF (tIsI ei) (t2.to (decide_eq_false h2))) (si (q O x .refl))
theorem mkI {C:Addr} {c:CT} {ms:List MV} {O:Own} {Q:PV} {E:PE} (h:∀ x dx O1,x ≠ dx->O x=none->O dx=none->Ext O O1->O1 x=some (.inst C dx)->O1 dx=some (.ns fun _=>none)->c (.ref x :: ms) O1 (fun v O'=>v=.none/\Q (.ref x) O') E):mkC C c ms O Q E:=fun x dx hx hdx hlt=>by
 have hxd:x ≠ dx:=by rintro rfl;exact absurd hlt (Nat.lt_irrefl _)
 exact h x dx _ hxd hx hdx ((Ext.upd hdx).put hx) (uP _ _ _) ((uN hxd.symm).trans (uP _ _ _))
theorem flat_rep {α:Type} (x:α):∀ n,(List.replicate n [x]).flatten=List.replicate n x
 | 0=>rfl
 | n + 1=>by rw [List.replicate_succ,List.flatten_cons,flat_rep x n,List.replicate_succ];rfl
theorem c_trail {a:FAddr} {w:List Int} {h:Int} {s:Fs} {O:Own} {Q:PV} {E:PE} (k:FI O a w h s) (q:∀ t tx O',TrAt O' t tx a 0->Ext O O'->O t=none->O tx=none->Q (.ref t) O'):mkC 146 c_Trail_init [.ref a.f] O Q E:=by
 refine mkI fun t tx O1 hne ht htx x1 i1 n1=>⟨rfl,ent2 rfl fun L _=>?_⟩
 generalize hρ:upd (upd (fun _=>none) 0 (MV.ref t)) 1 (MV.ref a.f)=J
 have e0:J 0=some (.ref t):=(congrFun hρ _).symm
 have e1:J 1=some (.ref a.f):=(congrFun hρ _).symm
 unfold f_Trail_init
 refine sE (sG (eV e1) (aAttI (eV e0) i1 n1 ?_))
 have x2:=x1.put (o:=.ns (upd (fun _=>none) 1 (.ref a.f))) htx
 refine sE (sG (v:=.int 2) ((evMax (fin16 (k.mono x2) (eV e1)) eS).to rfl) (aAttI (eV e0) ((uN hne).trans i1) (uP _ _ _) ?_))
 rw [uU]
 refine sG eS (aAttI (eV e0) ((uN hne).trans i1) (uP _ _ _) ?_)
 rw [uU]
 obtain ⟨m,m1,_⟩:=k.nf
 obtain ⟨n,n1',_⟩:=k.nr
 exact⟨rfl,q t tx _ ⟨(uN hne).trans i1,⟨_,uP _ _ _,rfl,rfl,rfl⟩,(nO m1 htx).symm,(nO n1' htx).symm⟩ (x1.put htx) ht htx⟩
noncomputable def wy0 (n:Nat):Wy:=⟨some 0 :: List.replicate n none,List.replicate (n + 1) none⟩
theorem wy0_ok (n:Nat):WyOK n 0 (wy0 n) where
 cl:=by simp [wy0]
 sl:=by simp [wy0]
 ca i hi:=(Nat.le_antisymm hi (Nat.zero_le i)).symm ▸ ⟨0,rfl⟩
 sa i c hi hc:=by
   obtain ⟨j,rfl⟩:∃ j,i=j + 1:=⟨i - 1,by lia⟩
   simp [wy0,List.getD_eq_getElem?_getD,List.getElem?_replicate] at hc
   split at hc <;> cases hc
theorem c_ways {n:Nat} {O:Own} {Q:PV} {E:PE} (hn:n<=100000) (q:∀ b O',WyAt O' b n (wy0 n)->Ext O O'->O b.yx=none->O b.c=none->O b.s=none->Q (.ref b.y) O'):mkC 181 c_Ways_init [.int n] O Q E:=by
 refine mkI fun y yx O1 hne hy hyx x1 i1 n1=>⟨rfl,ent2 rfl fun L _=>?_⟩
 generalize hρ:upd (upd (fun _=>none) 0 (MV.ref y)) 1 (MV.int (n:Int))=J
 have e0:J 0=some (.ref y):=(congrFun hρ _).symm
 have e1:J 1=some (.int n):=(congrFun hρ _).symm
 unfold f_Ways_init
 refine sE (sG (eV e1) (aAttI (eV e0) i1 n1 ?_))
 have x2:=x1.put (o:=.ns (upd (fun _=>none) 4 (.int n))) hyx
 have i2:=(uN (o:=.ns (upd (fun _=>none) 4 (.int n))) hne).trans i1
 have n2:=uP O1 yx (.ns (upd (fun _=>none) 4 (.int n)))
 generalize upd O1 yx (.ns (upd (fun _=>none) 4 (.int n)))=O2 at x2 i2 n2 ⊢
 refine sE ⟨yl1,fun u hu=>⟨yl1,fun v hv=>⟨_,e1,?_⟩⟩⟩
 have y1:Ext O2 (upd O2 u (.list [.int 0])):=.upd hu
 have u1:=uP O2 u (.list [.int 0])
 generalize upd O2 u (.list [.int 0])=O3 at hv y1 u1 ⊢
 have y2:Ext O3 (upd O3 v (.list [.none])):=.upd hv
 have v2:=uP O3 v (.list [.none])
 generalize upd O3 v (.list [.none])=O4 at y2 v2 ⊢
 refine ⟨rfl,_,v2,by lia,(Int.lt_of_add_one_le neg_le_cast),by unfold yL;simp;exact lE hn,fun z hz=>?_⟩
 rw [Int.toNat_natCast,flat_rep]
 have y3:=Ext.upd (o:=.list (List.replicate n MV.none)) hz
 have z3:=uP O4 z (.list (List.replicate n MV.none))
 generalize upd O4 z (.list (List.replicate n MV.none))=O5 at y3 z3 ⊢
 refine ⟨rfl,_,_,y3 _ _ (y2 _ _ u1),z3,by unfold yL;simp;lia,fun c hc=>?_⟩
 have y4:=Ext.upd (o:=.list ([MV.int 0] ++ List.replicate n MV.none)) hc
 have x5:=y1.trans (y2.trans (y3.trans y4))
 have c5:upd O5 c (.list ([MV.int 0] ++ List.replicate n MV.none)) c=some (.list ((wy0 n).co.map optM)):=(uP _ _ _).trans (by simp [wy0,optM])
 have hc0:=(x2.trans (y1.trans (y2.trans y3))).free hc
 generalize upd O5 c (.list ([MV.int 0] ++ List.replicate n MV.none))=O6 at x5 c5 ⊢
 have i6:=x5 _ _ i2
 have n6:=x5 _ _ n2
 refine aAttI (eV e0) i6 n6 ?_
 have x7:=(x2.trans x5).put (o:=.ns (upd (upd (fun _=>none) 4 (.int n)) 5 (.ref c))) hyx
 have i7:=(uN (o:=.ns (upd (upd (fun _=>none) 4 (.int n)) 5 (.ref c))) hne).trans i6
 have c7:=(uN (o:=.ns (upd (upd (fun _=>none) 4 (.int n)) 5 (.ref c))) (nE c5 n6 nofun)).trans c5
 have n7:=uP O6 yx (.ns (upd (upd (fun _=>none) 4 (.int n)) 5 (.ref c)))
 generalize upd O6 yx (.ns (upd (upd (fun _=>none) 4 (.int n)) 5 (.ref c)))=O7 at x7 i7 c7 n7 ⊢
 clear x5 c5 i6 n6 y4 y3 y2 y1 hz hv hu hc
 refine ⟨yl1,fun v hv=>⟨_,e1,?_⟩⟩
 have y2:Ext O7 (upd O7 v (.list [.none])):=.upd hv
 have v2:=uP O7 v (.list [.none])
 generalize upd O7 v (.list [.none])=O8 at y2 v2 ⊢
 refine ⟨rfl,_,v2,by lia,(Int.lt_add_one_of_le neg_le_cast),by unfold yL;simp;exact lE hn,fun z hz=>?_⟩
 rw [show ((n:Int) + 1).toNat=n + 1 by lia,flat_rep]
 have y3:=Ext.upd (o:=.list (List.replicate (n + 1) MV.none)) hz
 have z3:upd O8 z (.list (List.replicate (n + 1) MV.none)) z=some (.list ((wy0 n).st.map stM)):=(uP _ _ _).trans (by simp [wy0,stM])
 have hz0:=(x7.trans y2).free hz
 have y5:=y2.trans y3
 have hzc:c ≠ z:=nO (y2 _ _ c7) hz
 generalize upd O8 z (.list (List.replicate (n + 1) MV.none))=O9 at y5 z3 ⊢
 refine aAttI (eV e0) (y5 _ _ i7) (y5 _ _ n7) ?_
 exact⟨rfl,q ⟨y,yx,c,z⟩ _ ⟨(uN hne).trans (y5 _ _ i7),⟨_,uP _ _ _,rfl,rfl,rfl⟩,(uN (nE c7 n7 nofun)).trans (y5 _ _ c7),(uN (nE z3 (y5 _ _ n7) nofun)).trans z3,hzc⟩ ((x7.trans y5).put hyx) hyx hc0 hz0⟩
theorem eO {f:ET} {g:LT} {v:MV} {J:LC} {O:Own} {Q:List MV->Own->Prop} {E:PE} (hf:Evl f J O v) (h:g J O (fun vs O2=>Q (v :: vs) O2) E):eC f g J O Q E:=hf _ _ h
theorem eI {J:LC} {O:Own} {Q:List MV->Own->Prop} {E:PE} (h:Q [] O):eN J O Q E:=h
theorem me {g:LT} {c:CT} {J:LC} {O:Own} {Q:PV} {E:PE} (h:g J O (fun ms O'=>c ms O' Q E) E):mA g c J O Q E:=h
theorem sAsgK {e:ET} {a:AT} {J:LC} {O:Own} {Q:PS} {E:PE} (h:e J O (fun v O'=>a v J O' fun J' O''=>Q .next J' O'') E):sA e a J O Q E:=h
noncomputable def toldP (st:List (Option (Int × Int))):Nat->Nat->St2->St2
 | 0,_,acc=>acc
 | n + 1,a,acc=>if a=0 then acc else match st.getD a none with
   | none=>acc
   | some p=>toldP st n (a - stSz p) (acc ++ [p])
theorem toldP_s {st:List (Option (Int × Int))} {n a:Nat} {acc:St2}:toldP st (n + 1) a acc=if a=0 then acc else match st.getD a none with
   | none=>acc
   | some p=>toldP st n (a - stSz p) (acc ++ [p]):=rfl
theorem told_loop {O₀:Own} {b:WAddr} {n:Nat} {u:Wy} {F:Addr} (x:WyAt O₀ b n u) (ok:WyOK n n u) (hn:n<=100000) (hF:O₀ F=none):∀ (k a:Nat) (acc:St2) (J:LC) (O:Own) (Q:PS) (E:PE),
   J 0=some (.ref b.y)->J 1=some (.ref F)->J 2=some (.int a)->O F=some (.list (acc.map prM))->Ext O₀ O->a<=k->a<=n->acc.length + a<=n ->
   (∀ J' O',J' 1=some (.ref F)->O' F=some (.list ((toldP u.st k a acc).map prM))->Ext O₀ O'->(toldP u.st k a acc).length<=n->Q .next J' O') ->
   whN (bC .Gt (mL 2) (mC (.int 0))) (sQ (sX (mM isL (mL 1) (eC (mI (mT 181 6 (mL 0)) (mL 2)) eN) cA))
   (sA (mB .Sub (mL 2) (mA (eC (mI (mT 181 6 (mL 0)) (mL 2)) eN) c_step_size)) (aL 2))) (k + 1) J O Q E:=by
 intro k
 induction k with
 | zero =>
   intro a acc J O Q E e0 e1 e2 f1 y hk han hl q
   exact whN_stop ((tGt (eV e2) eS).to (decide_eq_false (leg (cast_up hk)))) (q J O e1 f1 y (le_sum hl))
 | succ k ih =>
   intro a acc J O Q E e0 e1 e2 f1 y hk han hl q
   rw [toldP_s] at q
   by_cases h0:a=0
   . rw [if_pos h0] at q
     exact whN_stop ((tGt (eV e2) eS).to (decide_eq_false (by lia))) (q J O e1 f1 y (le_sum hl))
   . rw [if_neg h0] at q
     obtain ⟨c,hc⟩:=ok.ca a han
     obtain ⟨p,hp,p0,p1,p2⟩:=ok.sa a c (Nat.succ_le_of_lt (Nat.pos_of_ne_zero h0)) hc
     rw [hp] at q
     dsimp only at q
     have sl:=ok.sl
     have ei:∀ O,Ext O₀ O->Evl (mI (mT 181 6 (mL 0)) (mL 2)) J O (prM p):=fun O y=>evIdxL (wy6 (x.mono y) (eV e0)) (eV e2) (x.mono y).os (Int.natCast_nonneg _) (by lia) (by rw [List.getElem?_map,Int.toNat_natCast,some_getD' (d:=none) (by lia),hp];rfl)
     refine whN_go ((tGt (eV e2) eS).to (decide_eq_true (cast_lt (Nat.pos_of_ne_zero h0)))) ?_
     refine sE (sAppL (v:=prM p) e1 f1 (ei O y) (by unfold yL;rw [List.length_map];lia) ?_)
     have y2:=y.put (o:=.list (acc.map prM ++ [prM p])) hF
     have f2:upd O F (.list (acc.map prM ++ [prM p])) F=some (.list ((acc ++ [p]).map prM)):=(uP _ _ _).trans (by rw [List.map_append];rfl)
     refine sAsgL (evSub (eV e2) (evSize (ei _ y2) p0)) ?_
     rw [show (a:Int) - (stSz p:Nat)=((a - stSz p:Nat):Int) by lia]
     exact ih (a - stSz p) (acc ++ [p]) (upd J 2 (.int (a - stSz p:Nat))) _ Q E e0 e1 uL f2 y2 (by lia) (by lia) (by rw [List.length_append,List.length_singleton];lia) q
theorem c_told {O:Own} {b:WAddr} {n:Nat} {u:Wy} {Q:PV} {E:PE} (x:WyAt O b n u) (ok:WyOK n n u) (hn:n<=100000)
   (q:∀ R O',O R=none->O' R=some (.list ((toldP u.st n n []).reverse.map prM))->Ext O O'->Q (.ref R) O'):c_Ways_told [.ref b.y] O Q E:=by
 refine ⟨rfl,ent1 rfl fun L _=>?_⟩
 generalize hρ:upd (fun _=>none) 0 (MV.ref b.y)=J
 have e0:J 0=some (.ref b.y):=(congrFun hρ _).symm
 unfold f_Ways_told
 refine sE ⟨yl0,fun F hF=>?_⟩
 have y:Ext O (upd O F (.list [])):=.upd hF
 refine wy4 (x.mono y) (eV e0) _ _ ?_
 refine ⟨yl2,aTupRL ?_⟩
 refine sE ⟨n + 1,told_loop x ok hn hF n n [] _ _ _ E e0 rfl rfl (uP _ _ _) y (Nat.le_refl n) (Nat.le_refl n) (by simp) fun J' O' e1 f1 y' hl=>?_⟩
 refine ⟨_,e1,F,_,rfl,f1,by unfold yL;rw [List.length_map];exact Nat.le_trans hl (lE hn),fun R hR=>?_⟩
 rw [<- List.map_reverse]
 exact q R _ (y'.free hR) (uP _ _ _) (y'.trans (.upd hR))
theorem c_finder {w:List Int} {O:Own} {Q:PV} {E:PE} (hy:w.length<=100000) (q:∀ a O',FI O' a w 0 (fsAt w 0)->Ext O O'->O a.f=none->O a.fx=none->O a.r=none->O a.rx=none->O a.d=none->O a.b=none->Q (.ref a.f) O'):mkC 549 c_Finder_init [.bytes w,.int 2,.int 40,.int 40] O Q E:=by
 refine mkI fun f fx O1 hne hf hfx x1 i1 n1=>⟨rfl,ent5 rfl fun L _=>?_⟩
 unfold f_Finder_init
 refine sE ⟨_,rfl,_,rfl,_,rfl,_,rfl,_,rfl,⟨rfl,ent5 rfl fun L _=>?_⟩⟩
 generalize hρ:upd (upd (upd (upd (upd (fun _=>none) 0 (MV.ref f)) 1 (MV.bytes w)) 2 (MV.int 2)) 3 (MV.int 40)) 4 (MV.int 40)=J
 have e0:J 0=some (.ref f):=(congrFun hρ _).symm
 have e1:J 1=some (.bytes w):=(congrFun hρ _).symm
 have e2:J 2=some (.int 2):=(congrFun hρ _).symm
 have e3:J 3=some (.int 40):=(congrFun hρ _).symm
 have e4:J 4=some (.int 40):=(congrFun hρ _).symm
 unfold f_Matcher_init
 refine sE (sIfF ((tLt (eV e2) eS).to rfl) (si ?_))
 refine sE (sIfF ((tLt (eV e3) eS).to rfl) (si ?_))
 refine sE (sIfF ((tLt (eV e4) eS).to rfl) (si ?_))
 refine sE (sG (v:=.bytes w) (fun Q' E' h=>⟨_,e1,_,rfl,h⟩) (aAttI (eV e0) i1 n1 ?_))
 refine sE (sG (eV e2) (aAttI (eV e0) ((uN hne).trans i1) (uP _ _ _) ?_))
 rw [uU]
 refine sE (sG (eV e3) (aAttI (eV e0) ((uN hne).trans i1) (uP _ _ _) ?_))
 rw [uU]
 refine sE (sG (eV e4) (aAttI (eV e0) ((uN hne).trans i1) (uP _ _ _) ?_))
 rw [uU]
 refine sG eS (aAttI (eV e0) ((uN hne).trans i1) (uP _ _ _) ?_)
 rw [uU]
 generalize hm:upd (upd (upd (upd (upd (fun _=>none) 13 (MV.bytes w)) 16 (MV.int 2)) 17 (MV.int 40)) 18 (MV.int 40)) 19 (MV.int 0)=m
 have m13:m 13=some (.bytes w):=(congrFun hm _).symm
 have x2:=x1.put (o:=.ns m) hfx
 have i2:=(uN (o:=.ns m) hne).trans i1
 have n2:=uP O1 fx (.ns m)
 generalize upd O1 fx (.ns m)=O2 at x2 i2 n2 ⊢
 refine ⟨rfl,sAsgK (me (eO (evAtt (eV e0) i2 n2 m13) (eO (eV e2) (eI ?_))))⟩
 refine mkI fun r rx O3 hne' hr hrx x3 i3 n3=>⟨rfl,ent3 rfl fun L _=>?_⟩
 generalize hρr:upd (upd (upd (fun _=>none) 0 (MV.ref r)) 1 (MV.bytes w)) 2 (MV.int 2)=Jr
 have r0:Jr 0=some (.ref r):=(congrFun hρr _).symm
 have r1:Jr 1=some (.bytes w):=(congrFun hρr _).symm
 have r2:Jr 2=some (.int 2):=(congrFun hρr _).symm
 unfold f_PlaceRow_init
 refine sE (sIfF ((tLt (eV r2) eS).to rfl) (si ?_))
 refine sE (sG (eV r1) (aAttI (eV r0) i3 n3 ?_))
 refine sE (sG (eV r2) (aAttI (eV r0) ((uN hne').trans i3) (uP _ _ _) ?_))
 rw [uU]
 have x4:=x3.put (o:=.ns (upd (upd (fun _=>none) 13 (.bytes w)) 4 (.int 2))) hrx
 have i4:=(uN (o:=.ns (upd (upd (fun _=>none) 13 (.bytes w)) 4 (.int 2))) hne').trans i3
 have n4:=uP O3 rx (.ns (upd (upd (fun _=>none) 13 (.bytes w)) 4 (.int 2)))
 generalize upd O3 rx (.ns (upd (upd (fun _=>none) 13 (.bytes w)) 4 (.int 2)))=O4 at x4 i4 n4 ⊢
 refine sE fun d hd=>?_
 have y5:Ext O4 (upd O4 d (.dict [])):=.upd hd
 have d5:upd O4 d (.dict []) d=some (.dict (dcM [])):=uP _ _ _
 have hd2:=x4.free hd
 generalize upd O4 d (.dict [])=O5 at y5 d5 ⊢
 refine aAttI (eV r0) (y5 _ _ i4) (y5 _ _ n4) ?_
 generalize hm2:upd (upd (upd (fun _=>none) 13 (MV.bytes w)) 4 (MV.int 2)) 14 (MV.ref d)=m2
 have x6:=(x4.trans y5).put (o:=.ns m2) hrx
 have i6:=(uN (o:=.ns m2) hne').trans (y5 _ _ i4)
 have n6:=uP O5 rx (.ns m2)
 have d6:=(uN (o:=.ns m2) (nE d5 (y5 _ _ n4) nofun)).trans d5
 generalize upd O5 rx (.ns m2)=O6 at x6 i6 n6 d6 ⊢
 refine ⟨yl1,fun u hu=>?_⟩
 have y7:Ext O6 (upd O6 u (.list [.int (-1)])):=.upd hu
 have u7:=uP O6 u (.list [.int (-1)])
 generalize upd O6 u (.list [.int (-1)])=O7 at y7 u7 ⊢
 refine ⟨_,r1,_,_,rfl,rfl,by unfold yL;exact lE hy,?_⟩
 refine ⟨rfl,_,u7,by lia,(Int.lt_of_add_one_le neg_le_cast),by unfold yL;simp;exact lE hy,fun b hb=>?_⟩
 rw [Int.toNat_natCast,flat_rep]
 have y8:=Ext.upd (o:=.list (List.replicate w.length (MV.int (-1)))) hb
 have b8:upd O7 b (.list (List.replicate w.length (MV.int (-1)))) b=some (.list ((List.replicate w.length (-1:Int)).map .int)):=(uP _ _ _).trans (by rw [List.map_replicate])
 have hb2:=(x6.trans y7).free hb
 have x8:=x6.trans (y7.trans y8)
 have i8:=y8 _ _ (y7 _ _ i6)
 have n8:=y8 _ _ (y7 _ _ n6)
 have d8:=y8 _ _ (y7 _ _ d6)
 generalize upd O7 b (.list (List.replicate w.length (MV.int (-1))))=O8 at b8 x8 i8 n8 d8 ⊢
 refine aAttI (eV r0) i8 n8 ?_
 have x9:=x8.put (o:=.ns (upd m2 15 (.ref b))) hrx
 have i9:=(uN (o:=.ns (upd m2 15 (.ref b))) hne').trans i8
 have n9:=uP O8 rx (.ns (upd m2 15 (.ref b)))
 have d9:=(uN (o:=.ns (upd m2 15 (.ref b))) (nE d8 n8 nofun)).trans d8
 have b9:=(uN (o:=.ns (upd m2 15 (.ref b))) (nE b8 n8 nofun)).trans b8
 generalize upd O8 rx (.ns (upd m2 15 (.ref b)))=O9 at x9 i9 n9 d9 b9 ⊢
 refine ⟨rfl,?_⟩
 have hfr:fx ≠ rx:=nO n2 hrx
 refine aAttI (eV e0) (x9 _ _ i2) (x9 _ _ n2) ?_
 refine ⟨rfl,?_⟩
 refine q ⟨f,fx,r,rx,d,b⟩ _ ⟨(uN hne).trans (x9 _ _ i2),⟨_,uP _ _ _,?_,?_,?_,?_,?_,?_⟩,(uN (nE i9 (x9 _ _ n2) nofun)).trans i9,⟨_,(uN hfr.symm).trans n9,?_,?_,?_,?_⟩,(uN (nE d9 (x9 _ _ n2) nofun)).trans d9,(uN (nE b9 (x9 _ _ n2) nofun)).trans b9,hfr⟩ ((x2.trans x9).put hfx) hf hfx (x2.free hr) (x2.free hrx) (x2.free hd2) (x2.free hb2)
 all_goals first | (subst hm;rfl) | (subst hm2;rfl)
theorem PrAt.frame {S:List Addr} {O O':Own} {p dx:Addr} (h:PrAt O p dx) (x:ExtS S O O') (h1:p ∉ S) (h2:dx ∉ S):PrAt O' p dx:=by
 obtain ⟨m,q1,q2,q3⟩:=h
 exact⟨m,x _ _ h1 q1,x _ _ h2 q2,q3⟩
theorem sMet3 {C:Addr} {f g i j:ET} {c:CT} {J:LC} {O:Own} {x dx:Addr} {m:Nat->Option MV} {v v' v'':MV} {Q:PS} {E:PE} (hf:Evl f J O (.ref x)) (h1:O x=some (.inst C dx)) (h2:O dx=some (.ns m)) (hg:Evl g J O v) (hi:Evl i J O v') (hj:Evl j J O v'') (h:c [.ref x,v,v',v''] O (fun u O'=>u=.none/\Q .next J O') E):sX (mMet C f (eC g (eC i (eC j eN))) c) J O Q E :=
 hf (fun v O1=>∃ x dx m,v=.ref x/\O1 x=some (.inst C dx)/\O1 dx=some (.ns m)/\eC g (eC i (eC j eN)) J O1 (fun ms O'=>c (.ref x :: ms) O' (fun u O'=>u=.none/\Q .next J O') E) E) _ ⟨x,dx,m,rfl,h1,h2,eO hg (eO hi (eO hj (eI h)))⟩
noncomputable def partsP (n i:Nat) (d:Int) (js:List Int) (u:Wy):Wy:=js.foldl (fun u j=>offP n u i (j,d) 5) u
theorem part_loop {b:WAddr} {n i a:Nat} {d:Int} {p px:Addr} (hn:n<=100000) (hi:i<=a) (han:a<=n):∀ (js:List Int) (u:Wy) (J:LC) (O:Own) (Q:PS) (E:PE),
   (∀ j ∈ js,2<=j/\j<=9)->J 4=some (.ref p)->J 7=some (.ref b.y)->J 8=some (.int i)->J 12=some (.int d)->WyAt O b n u->WyOK n a u->PrAt O p px ->
   (∀ J' O',(∀ k,k < 13->J' k=J k)->WyAt O' b n (partsP n i d js u)->WyOK n a (partsP n i d js u)->PrAt O' p px->ExtS [b.c,b.s] O O'->Q .next J' O') ->
   forL (aL 13) (sX (mMet 181 (mL 7) (eC (mL 8) (eC (mU (eC (mL 13) (eC (mL 12) eN))) (eC (mMet 232 (mL 4) (eC (mL 13) (eC (mL 12) eN)) c_FlatPrice_match) eN))) c_Ways_offer)) (fun _=>True) (js.map .int) J O Q E:=by
 intro js
 induction js with
 | nil=>intro u J O Q E _ e4 e7 e8 e12 x ok hp q;exact⟨trivial,q J O (fun _ _=>rfl) x ok hp .refl⟩
 | cons j r ih =>
   intro u J O Q E hj e4 e7 e8 e12 x ok hp q
   have h1:=hj j (.head _)
   rw [List.map_cons]
   refine ⟨trivial,aI ?_⟩
   have hs:stSz (j,d)=j.toNat:=by unfold stSz;rw [if_neg (by dsimp only;exact idne h1.1)]
   obtain ⟨m,m1,_⟩:=x.ny
   refine sMet3 (eV (k:=7) e7) x.oy m1 (eV (k:=8) e8) (evTup2 (eV (k:=13) uL) (eV (k:=12) e12)) (evMatP hp (eV (k:=4) e4) (eV (k:=13) uL) (eV (k:=12) e12)) ?_
   refine c_offer (p:=(j,d)) x ok hn hi han (by dsimp only;exact idn h1.1) (by dsimp only;exact iup h1.2) fun O1 x1 y1=>⟨rfl,?_⟩
   have hp2:=hp
   obtain ⟨m',q1,q2,_⟩:=hp2
   refine ih _ (upd J 13 (.int j)) O1 Q E (fun j h=>hj j (.tail _ h)) e4 e7 e8 e12 x1 (off_ok ok (by dsimp only;exact idn h1.1) (by rw [hs];lia)) (hp.frame y1 (nmC (nE q1 x.oc nofun) (nmC (nE q1 x.os nofun) nmN)) (nmC (nE q2 x.oc nofun) (nmC (nE q2 x.os nofun) nmN))) fun J' O' h1 h2 h3 h4 h5=>q J' O' (fun k hk=>(h1 k hk).trans (uD (lT hk))) h2 h3 h4 (y1.trans h5)
noncomputable def matsP (n i:Nat) (ms:St2) (u:Wy):Wy:=ms.foldl (fun u m=>partsP n i m.2 (upInts 2 (m.1 + 1 - 2).toNat) u) u
noncomputable def matBody:ST:=(sFor (itRange2 (mT 146 2 (mL 6)) (mB .Add (mL 11) (mC (.int 1)))) (aL 13) (sX (mMet 181 (mL 7) (eC (mL 8) (eC (mU (eC (mL 13) (eC (mL 12) eN))) (eC (mMet 232 (mL 4) (eC (mL 13) (eC (mL 12) eN)) c_FlatPrice_match) eN))) c_Ways_offer)))
theorem mat_loop {b:WAddr} {n i a:Nat} {p px t tx M:Addr} {fa:FAddr} {k:Int} {cs:List MV} (hn:n<=100000) (hi:i<=a) (han:a<=n):∀ (ms:St2) (u:Wy) (J:LC) (O:Own) (Q:PS) (E:PE),
   mOK ms->J 4=some (.ref p)->J 6=some (.ref t)->J 7=some (.ref b.y)->J 8=some (.int i)->WyAt O b n u->WyOK n a u->PrAt O p px->TrAt O t tx fa k->M ∉ [b.c,b.s]->O M=some (.list cs) ->
   (∀ J' O',(∀ k,k < 11->J' k=J k)->WyAt O' b n (matsP n i ms u)->WyOK n a (matsP n i ms u)->PrAt O' p px->TrAt O' t tx fa k->ExtS [b.c,b.s] O O'->Q .next J' O') ->
   forL (aT 2 (aC (aL 11) (aC (aL 12) aN))) matBody (fun O=>O M=some (.list cs)) (ms.map prM) J O Q E:=by
 intro ms
 induction ms with
 | nil=>intro u J O Q E _ e4 e6 e7 e8 x ok hp ht hM hm q;exact⟨hm,q J O (fun _ _=>rfl) x ok hp ht .refl⟩
 | cons m r ih =>
   intro u J O Q E hj e4 e6 e7 e8 x ok hp ht hM hm q
   obtain ⟨f,d⟩:=m
   have h1:2<=f/\f<=9:=hj (f,d) (.head _)
   rw [List.map_cons]
   refine ⟨hm,aTupL ?_⟩
   generalize hρ:upd (upd J 11 (.int f)) 12 (.int d)=J1
   have g:∀ k,k < 11->J1 k=J k:=fun k hk=>(congrFun hρ _).symm.trans (by rw [uD (lT hk),uD (lT hk)])
   have g4:=(g 4 dC).trans e4
   have g6:=(g 6 dC).trans e6
   have g7:=(g 7 dC).trans e7
   have g8:=(g 8 dC).trans e8
   have g11:J1 11=some (.int f):=(congrFun hρ _).symm
   have g12:J1 12=some (.int d):=(congrFun hρ _).symm
   refine sRange2 (i:=2) (j:=f + 1) (tr2 ht (eV g6)) (evAdd (eV g11) eS) dC dC (by lia) (Int.add_one_le_of_lt (illt h1.2)) ?_
   refine part_loop hn hi han (upInts 2 (f + 1 - 2).toNat) u J1 O _ E (fun j hj'=>?_) g4 g7 g8 g12 x ok hp fun J' O' k1 k2 k3 k4 k5=>?_
   . simp only [upInts,List.mem_map,List.mem_range] at hj'
     obtain ⟨z,hz,rfl⟩:=hj'
     lia
   . obtain ⟨mm,mm1,_⟩:=ht.nt
     have ht':TrAt O' t tx fa k:=⟨k5 _ _ (nmC (nE ht.ot x.oc nofun) (nmC (nE ht.ot x.os nofun) nmN)) ht.ot,⟨mm,k5 _ _ (nmC (nE mm1 x.oc nofun) (nmC (nE mm1 x.os nofun) nmN)) mm1,by obtain ⟨m2,q1,q2⟩:=ht.nt;cases one mm1 q1;exact q2⟩,ht.n1,ht.n2⟩
     have kk:∀ k,k < 11->J' k=J k:=fun k hk=>(k1 k (lt_up hk)).trans (g k hk)
     exact ih _ J' O' Q E (fun y hy=>hj y (.tail _ hy)) ((kk 4 dC).trans e4) ((kk 6 dC).trans e6) ((kk 7 dC).trans e7) ((kk 8 dC).trans e8) k2 k3 k4 ht' hM (k5 _ _ hM hm) fun J3 O3 a1 a2 a3 a4 a5 a6=>q J3 O3 (fun k hk=>(a1 k hk).trans (kk k hk)) a2 a3 a4 a5 (k5.trans a6)
theorem aTup3RL {J:LC} {O:Own} {Q:LC->Own->Prop} {i j k:Nat} {x y z:MV} (h:Q (upd (upd (upd J i z) j y) k x) O):aT 3 (fun ms=>(aC (aL i) (aC (aL j) (aC (aL k) aN))) ms.reverse) (.tup [x,y,z]) J O Q :=
 ⟨[x,y,z],rfl,rfl,⟨z,[y,x],rfl,⟨y,[x],rfl,⟨x,[],rfl,rfl,h⟩⟩⟩⟩
theorem ec {f:ET} {g:LT} {J:LC} {O:Own} {Q:List MV->Own->Prop} {E:PE} (h:f J O (fun v O1=>g J O1 (fun vs O2=>Q (v :: vs) O2) E) E):eC f g J O Q E:=h
theorem mTupI {g:LT} {J:LC} {O:Own} {Q:PV} {E:PE} (h:g J O (fun ms O'=>yL ms.length/\Q (.tup ms) O') E):mU g J O Q E:=h
noncomputable def waysP (w:List Int) (s n:Nat):Nat->Wy
 | 0=>wy0 n
 | k + 1=>matsP n k (evyA w (s + k)) (offP n (waysP w s n k) k (0,w.getD (s + k) 0) 3)
noncomputable def leastBody:ST:=(sQ (sA (mB .Add (mL 1) (mL 8)) (aL 9))
   (sQ (sA (mMet 146 (mL 6) (eC (mL 9) (eC (mL 3) eN)) c_Trail_every) (aL 10))
   (sQ (sX (mMet 181 (mL 7) (eC (mL 8) (eC (mU (eC (mC (.int 0)) (eC (mI (mL 0) (mL 9)) eN))) (eC (mMet 232 (mL 4) (eC (mI (mL 0) (mL 9)) eN) c_FlatPrice_literal) eN))) c_Ways_offer))
   (sQ (sFor (iT (mL 10)) (aT 2 (aC (aL 11) (aC (aL 12) aN))) matBody)
   (sQ (sA (mC (.int 1)) (aL 14))
   (sQ (sIf (bAnd (bC .IsNot (mL 5) (mC .none)) (bAnd bNever bNever)) (sA (mI (mI (mL 10) (mNeg (mC (.int 1)))) (mC (.int 0))) (aL 14)) sN)
   (sA (mB .Add (mL 8) (mL 14)) (aL 8))))))))
theorem least_loop {b:WAddr} {w:List Int} {s n:Nat} {p px t tx:Addr} {fa:FAddr} (hn:s + n=w.length) (hy:w.length<=100000) (ho:oct? w) (d1:px ≠ fa.fx) (d2:px ≠ tx) (d3:b.yx ≠ fa.fx) (d4:b.yx ≠ tx) (d5:b.c ≠ fa.b) (d6:b.s ≠ fa.b):∀ (k i h:Nat) (J:LC) (O:Own) (Q:PS) (E:PE),
   i + k=n->h<=s + i->J 0=some (.bytes w)->J 1=some (.int s)->J 3=some (.int 9)->J 4=some (.ref p)->J 5=some .none->J 6=some (.ref t)->J 7=some (.ref b.y)->J 8=some (.int i) ->
   WyAt O b n (waysP w s n i)->WyOK n i (waysP w s n i)->PrAt O p px->TrAt O t tx fa h->FI O fa w h (fsAt w h) ->
   (∀ J' O',J' 7=some (.ref b.y)->WyAt O' b n (waysP w s n n)->WyOK n n (waysP w s n n)->ExtS [fa.fx,fa.d,fa.b,tx,b.c,b.s] O O'->Q .next J' O') ->
   whN (bC .Lt (mL 8) (mT 181 4 (mL 7))) leastBody (k + 1) J O Q E:=by
 intro k
 induction k with
 | zero =>
   intro i h J O Q E hk hh e0 e1 e3 e4 e5 e6 e7 e8 x ok hp ht hf q
   obtain rfl:i=n:=hk
   exact whN_stop ((tLt (eV e8) (wy4 x (eV e7))).to (decide_eq_false (leg (Int.le_refl _)))) (q J O e7 x ok .refl)
 | succ k ih =>
   intro i h J O Q E hk hh e0 e1 e3 e4 e5 e6 e7 e8 x ok hp ht hf q
   refine whN_go ((tLt (eV e8) (wy4 x (eV e7))).to (decide_eq_true (by lia))) ?_
   refine sE (sAsgL (evAdd (eV e1) (eV e8)) ?_)
   rw [show (s:Int) + i=((s + i:Nat):Int) by lia]
   generalize hρ:upd J 9 (.int (s + i:Nat))=J1
   have g:∀ j,j < 9->J1 j=J j:=fun j hj=>(congrFun hρ _).symm.trans (uD (lT hj))
   have g9:J1 9=some (.int (s + i:Nat)):=(congrFun hρ _).symm
   obtain ⟨m,m1,_⟩:=ht.nt
   obtain ⟨mf,mf1,_⟩:=hf.nf
   refine sE ?_
   refine ⟨_,(g 6 dC).trans e6,t,tx,m,rfl,ht.ot,m1,⟨_,g9,_,(g 3 dC).trans e3,?_⟩⟩
   refine c_tevy (by lia) hy ho ht hf hh fun M O1 ht1 hf1 x1 hM hne hm hml=>?_
   refine aI ?_
   generalize hρ2:upd J1 10 (.ref M)=J2
   have f:∀ j,j < 9->J2 j=J j:=fun j hj=>(congrFun hρ2 _).symm.trans (by rw [uD (lT hj)];exact g j hj)
   have f9:J2 9=some (.int (s + i:Nat)):=(congrFun hρ2 _).symm.trans g9
   have f10:J2 10=some (.ref M):=(congrFun hρ2 _).symm
   obtain ⟨my,my1,_⟩:=x.ny
   have nc:b.c ∉ [fa.fx,fa.d,fa.b,tx]:=by simp [nE x.oc mf1 nofun,nE x.oc hf.ld nofun,nE x.oc m1 nofun,d5]
   have ns:b.s ∉ [fa.fx,fa.d,fa.b,tx]:=by simp [nE x.os mf1 nofun,nE x.os hf.ld nofun,nE x.os m1 nofun,d6]
   have w1:WyAt O1 b n (waysP w s n i):=x.frame x1 (by simp [nE x.oy mf1 nofun,nE x.oy hf.ld nofun,nE x.oy hf.lb nofun,nE x.oy m1 nofun]) (by simp [nE my1 hf.ld nofun,nE my1 hf.lb nofun,d3,d4]) nc ns
   have hp1:PrAt O1 p px:=by
     have hp2:=hp
     obtain ⟨mp,q1,q2,_⟩:=hp2
     exact hp.frame x1 (by simp [nE q1 mf1 nofun,nE q1 hf.ld nofun,nE q1 hf.lb nofun,nE q1 m1 nofun]) (by simp [nE q2 hf.ld nofun,nE q2 hf.lb nofun,d1,d2])
   have eb:Evl (mI (mL 0) (mL 9)) J2 O1 (.int (w.getD (s + i) 0)):=evIdxB (i:=(s + i:Nat)) (eV ((f 0 dC).trans e0)) (eV f9) (Int.natCast_nonneg _) (by lia) (lE hy)
   obtain ⟨my',my1',_⟩:=w1.ny
   refine sE (sMet3 (eV ((f 7 dC).trans e7)) w1.oy my1' (eV ((f 8 dC).trans e8)) (evTup2 eS eb) (evLitP hp1 (eV ((f 4 dC).trans e4)) eb) ?_)
   refine c_offer (p:=(0,w.getD (s + i) 0)) (k:=3) w1 ok (by lia) (Nat.le_refl i) (by lia) (show (0:Int)<=0 by decide) (show (0:Int)<=100000 by decide) fun O2 w2 y2=>⟨rfl,?_⟩
   have ok2:WyOK n (i + 1) (offP n (waysP w s n i) i (0,w.getD (s + i) 0) 3):=off_next ok (show (0:Int)<=0 by decide) rfl (by lia)
   have hp2:PrAt O2 p px:=by
     have hp2:=hp1
     obtain ⟨mp,q1,q2,_⟩:=hp2
     exact hp1.frame y2 (nmC (nE q1 w1.oc nofun) (nmC (nE q1 w1.os nofun) nmN)) (nmC (nE q2 w1.oc nofun) (nmC (nE q2 w1.os nofun) nmN))
   have fr:∀ (O O':Own) (u:Wy) (h:Nat) (s:Fs),WyAt O b n u->ExtS [b.c,b.s] O O'->FI O fa w h s->FI O' fa w h s:=fun O O' u h s wy y fi=>by
     obtain ⟨a1,a2,_⟩:=fi.nf
     obtain ⟨b1,b2,_⟩:=fi.nr
     exact fi.frame y (nmC (nE fi.of wy.oc nofun) (nmC (nE fi.of wy.os nofun) nmN)) (nmC (nE a2 wy.oc nofun) (nmC (nE a2 wy.os nofun) nmN)) (nmC (nE fi.ro wy.oc nofun) (nmC (nE fi.ro wy.os nofun) nmN)) (nmC (nE b2 wy.oc nofun) (nmC (nE b2 wy.os nofun) nmN)) (nmC (nE fi.ld wy.oc nofun) (nmC (nE fi.ld wy.os nofun) nmN)) (nmC d5.symm (nmC d6.symm nmN))
   have ht2:TrAt O2 t tx fa (s + i:Nat):=by
     obtain ⟨mm,mm1,mm2⟩:=ht1.nt
     exact⟨y2 _ _ (nmC (nE ht1.ot w1.oc nofun) (nmC (nE ht1.ot w1.os nofun) nmN)) ht1.ot,⟨mm,y2 _ _ (nmC (nE mm1 w1.oc nofun) (nmC (nE mm1 w1.os nofun) nmN)) mm1,mm2⟩,ht1.n1,ht1.n2⟩
   have hf2:=fr _ _ _ _ _ w1 y2 hf1
   have hMn:M ∉ [b.c,b.s]:=by simp [(hne _ _ nc x.oc).symm,(hne _ _ ns x.os).symm]
   refine sE ?_
   refine ⟨_,f10,M,_,rfl,y2 _ _ hMn hM,?_⟩
   refine mat_loop (i:=i) (a:=i + 1) (by lia) (Nat.le_succ _) (by lia) (evyA w (s + i)) _ J2 O2 _ E hm ((f 4 dC).trans e4) ((f 6 dC).trans e6) ((f 7 dC).trans e7) ((f 8 dC).trans e8) w2 ok2 hp2 ht2 hMn (y2 _ _ hMn hM) fun J3 O3 k3 w3 ok3 hp3 ht3 y3=>?_
   have hf3:=fr _ _ _ _ _ w2 y3 hf2
   have kk:∀ j,j < 9->J3 j=J j:=fun j hj=>(k3 j (lt_up hj)).trans (f j hj)
   refine sE (sAsgL eS ?_)
   refine sE (sIfF (tAndF (tIsNotN (eV (k:=5) ((kk 5 dC).trans e5)))) (si ?_))
   refine sAsgL (evAdd (eV (k:=8) ((kk 8 dC).trans e8)) (eV (k:=14) uL)) ?_
   refine ih (i + 1) (s + i) (upd (upd J3 14 (.int 1)) 8 (.int ((i:Int) + 1))) O3 Q E (by lia) (Nat.le_succ _) ((kk 0 dC).trans e0) ((kk 1 dC).trans e1) ((kk 3 dC).trans e3) ((kk 4 dC).trans e4) ((kk 5 dC).trans e5) ((kk 6 dC).trans e6) ((kk 7 dC).trans e7) uL w3 ok3 hp3 ht3 hf3 fun J' O' r1 r2 r3 r4=>q J' O' r1 r2 r3 ?_
   exact (x1.mono (by simp +contextual)).trans (((y2.trans y3).mono (by simp +contextual)).trans r4)
noncomputable def leastP (w:List Int) (s:Nat):St2:=(toldP (waysP w s (w.length - s) (w.length - s)).st (w.length - s) (w.length - s) []).reverse
theorem c_lst {w:List Int} {s:Nat} {p px:Addr} {a:FAddr} {O:Own} {Q:PV} {E:PE} (hs:s<=w.length) (hy:w.length<=100000) (ho:oct? w) (hf:FI O a w 0 (fsAt w 0)) (hp:PrAt O p px) (hpx:px ≠ a.fx)
   (q:∀ R O',O' R=some (.list ((leastP w s).map prM))->ExtS [a.fx,a.d,a.b] O O'->(∀ x o,x ∉ [a.fx,a.d,a.b]->O x=some o->x ≠ R)->Q (.ref R) O'):c_least [.bytes w,.int s,.ref a.f,.int 9,.ref p] O Q E:=by
 refine ⟨rfl,ent6 rfl fun L _=>?_⟩
 generalize hρ:upd (upd (upd (upd (upd (upd (fun _=>none) 0 (MV.bytes w)) 1 (MV.int (s:Int))) 2 (MV.ref a.f)) 3 (MV.int 9)) 4 (MV.ref p)) 5 MV.none=J
 have e0:J 0=some (.bytes w):=(congrFun hρ _).symm
 have e1:J 1=some (.int s):=(congrFun hρ _).symm
 have e2:J 2=some (.ref a.f):=(congrFun hρ _).symm
 have e3:J 3=some (.int 9):=(congrFun hρ _).symm
 have e4:J 4=some (.ref p):=(congrFun hρ _).symm
 have e5:J 5=some .none:=(congrFun hρ _).symm
 unfold f_least
 refine sE ⟨_,e0,_,e1,_,e3,?_⟩
 refine c_range (by unfold yL;exact lE hy) (Int.natCast_nonneg _) (cast_le hs) dC ⟨rfl,?_⟩
 refine sE (sAsgK (mTupI (ec (me (eO (eV e2) (eI ?_))))))
 refine c_trail hf fun t tx O1 ht x1 n1 n2=>?_
 refine ec (me (eO (evSub (evLen (eV e0) (lE hy)) (eV e1)) (eI ?_)))
 rw [show (w.length:Int) - s=((w.length - s:Nat):Int) by lia]
 refine c_ways (by lia) fun b O2 hb x2 n3 n4 n5=>?_
 refine eO eS (eI ⟨yl3,aTup3RL ?_⟩)
 have hf1:=hf.mono x1
 obtain ⟨m,m1,_⟩:=hf1.nf
 obtain ⟨mt,mt1,_⟩:=ht.nt
 have hp':=hp
 obtain ⟨mp,_,q2,_⟩:=hp'
 have hn:s + (w.length - s)=w.length:=Nat.add_sub_of_le hs
 unfold leastP at q
 generalize w.length - s=n at hn hb q ⊢
 refine sE ⟨n + 1,?_⟩
 refine least_loop hn hy ho hpx (nO q2 n2) (nO m1 n3).symm (nO mt1 n3).symm (nO hf1.lb n4).symm (nO hf1.lb n5).symm n 0 0 _ O2 _ E (Nat.add_comm _ _) (Nat.zero_le _) e0 e1 e3 e4 e5 rfl rfl rfl hb (wy0_ok n) (hp.mono (x1.trans x2)) (ht.mono x2) (hf1.mono x2) fun J' O3 r7 w3 ok3 y3=>?_
 obtain ⟨mw,mw1,_⟩:=w3.ny
 refine sRetK ⟨_,r7,b.y,b.yx,mw,rfl,w3.oy,mw1,?_⟩
 refine c_told w3 ok3 (by lia) fun R O4 hR r4 x4=>?_
 have st:∀ z o,z ∉ [a.fx,a.d,a.b]->O z=some o->O3 z=some o:=fun z o hz hzo=>by
   simp only [List.mem_cons,List.not_mem_nil,or_false,not_or] at hz
   have z1:=x1 _ _ hzo
   exact y3 _ _ (by simp [hz,nO hzo n2,nO z1 n4,nO z1 n5]) (x2 _ _ z1)
 exact q R O4 r4 (fun z o hz hzo=>x4 _ _ (st z o hz hzo)) fun z o hz hzo=>nO (st z o hz hzo) hR
theorem c_unit {u:Int} {O:Own} {Q:PV} {E:PE} (q:if 1<=u/\u<=1024 then Q .none O else E (.ref 64) O):c_need_unit [.int u] O Q E:=by
 refine ⟨rfl,ent1 rfl fun L _=>?_⟩
 unfold f_need_unit
 by_cases h1:1<=u
 . have t:=tNot (tLe2 (O:=O) (J:=upd (fun _=>none) 0 (.int u)) (eS (v:=.int 1)) (eV (k:=0) rfl) (eS (v:=.int 1024)) h1)
   by_cases h2:u<=1024
   . replace q:=ifT' (⟨h1,h2⟩) q
     exact sIfF (t.to (by rw [decide_eq_true h2];rfl)) (si q)
   . replace q:=ifF' (fun h=>h2 h.2) q
     exact sIfT (t.to (by rw [decide_eq_false h2];rfl)) q
 . replace q:=ifF' (fun h=>h1 h.1) q
   exact sIfT (tNot (tLe2F (O:=O) (J:=upd (fun _=>none) 0 (.int u)) (eS (v:=.int 1)) (eV (k:=0) rfl) (ile h1))) q
theorem c_learnt {c:MV} {u:Int} {O:Own} {Q:PV} {E:PE} (hu:¬ (1<=u/\u<=1024)) (q:∀ O',Ext O O'->E (.ref 64) O'):mkC 341 c_LearntPrice_init [c,.int u] O Q E:=by
 refine mkI fun x dx O1 hne hx hdx x1 i1 n1=>⟨rfl,ent3 rfl fun L _=>?_⟩
 unfold f_LearntPrice_init
 refine sE ⟨_,rfl,c_unit ?_⟩
 refine ifF hu ?_
 exact q _ x1
theorem c_learn_bad {w s m p:MV} {F:Addr} {xs:List MV} {u:Int} {O:Own} {Q:PV} {E:PE} (hF:O F=some (.list xs)) (hx:xs.length=1) (hu:¬ (1<=u/\u<=1024)) (q:E (.ref 64) O):c_learn [w,s,.ref F,m,p,.int u] O Q E:=by
 refine ⟨rfl,ent6 rfl fun L _=>?_⟩
 unfold f_learn
 refine sE (sIfF ((tEq (evLenL (eV (k:=2) rfl) hF (by lia)) eS).to (decide_eq_false (by lia))) (si ?_))
 refine sE ⟨_,rfl,c_unit ?_⟩
 refine ifF hu ?_
 exact q
theorem c_learn1 {w:List Int} {s:Nat} {p px F:Addr} {a:FAddr} {u:Int} {O:Own} {Q:PV} {E:PE} (hs:s<=w.length) (hy:w.length<=100000) (ho:oct? w) (hf:FI O a w 0 (fsAt w 0)) (hp:PrAt O p px) (hpx:px ≠ a.fx) (hF:O F=some (.list [.ref a.f])) (hFb:F ≠ a.b) (hu:1<=u/\u<=1024)
   (q:∀ R O',O' R=some (.list ((leastP w s).map prM))->ExtS [a.fx,a.d,a.b] O O'->Q (.ref R) O'):c_learn [.bytes w,.int s,.ref F,.int 9,.ref p,.int u] O Q E:=by
 refine ⟨rfl,ent6 rfl fun L _=>?_⟩
 generalize hρ:upd (upd (upd (upd (upd (upd (fun _=>none) 0 (MV.bytes w)) 1 (MV.int (s:Int))) 2 (MV.ref F)) 3 (MV.int 9)) 4 (MV.ref p)) 5 (MV.int u)=J
 have e0:J 0=some (.bytes w):=(congrFun hρ _).symm
 have e1:J 1=some (.int s):=(congrFun hρ _).symm
 have e2:J 2=some (.ref F):=(congrFun hρ _).symm
 have e3:J 3=some (.int 9):=(congrFun hρ _).symm
 have e4:J 4=some (.ref p):=(congrFun hρ _).symm
 have e5:J 5=some (.int u):=(congrFun hρ _).symm
 unfold f_learn
 refine sE (sIfF ((tEq (evLenL (eV e2) hF dC) eS).to rfl) (si ?_))
 refine sE ⟨_,e5,c_unit ?_⟩
 refine ifT hu ?_
 refine ⟨rfl,?_⟩
 refine sE (sAsgK (me (eO (eV e0) (eO (eV e1) (eO (evIdxL (v:=.ref a.f) (eV e2) eS hF dC dC rfl) (eO (eV e3) (eO (eV e4) (eI ?_))))))))
 refine c_lst hs hy ho hf hp hpx fun R O1 hR x1 _=>?_
 refine aI ?_
 obtain ⟨m,m1,_⟩:=hf.nf
 have hF1:=x1 _ _ (nmC (nE hF m1 nofun) (nmC (nE hF hf.ld nofun) (nmC hFb nmN))) hF
 refine sE ⟨_,e2,⟨1,rfl,?_⟩⟩
 refine ⟨_,hF1,yl1,fun r hr=>?_⟩
 have hc:cutM [MV.ref a.f] (some 1) none=[]:=rfl
 rw [hc]
 refine ⟨r,[],rfl,uP _ _ _,uP _ _ _,?_⟩
 have y:Ext O1 (upd O1 r (.list [])):=.upd hr
 exact⟨_,rfl,q R _ (y _ _ hR) (x1.trans y.toS)⟩
noncomputable def Rz (run:RT) (O:Own) (X:Addr):Prop:=∀ E:PE,(∀ O',Ext O O'->E (.ref X) O')->run O (fun _ _=>False) E
noncomputable abbrev Dd:=Expr × Scope × List (Str × Addr)
noncomputable abbrev ddM (d:Dd):MV:=.clo d.1 d.2.1 d.2.2
noncomputable def ddBody (G:GC) (m:Str):ST:=(sIf (bC .NotEq (mA (eC (mL 2) eN) (c__law_refused G)) (mC (.str m))) (sR (mC (.bool false))) sN)
theorem c_refused {G:GC} {X:Addr} {m:Str} {d:Dd} {run:RT} {O:Own} {Q:PV} {E:PE} (hm:(X=64/\m="argument") \/ (X=52/\m="distance")) (hs:LamSim G 10 d.1 d.2.1 d.2.2 run) (hr:Rz run O X) (q:∀ O',Ext O O'->Q (.str m) O'):c__law_refused G [ddM d] O Q E:=by
 refine ⟨rfl,ent1 rfl fun L _=>?_⟩
 unfold f__law_refused
 refine sE ⟨_,rfl,⟨_,_,_,run,rfl,hs,hr _ fun O' y=>?_⟩⟩
 rcases hm with ⟨rfl,rfl⟩ | ⟨rfl,rfl⟩
 . exact .inl ⟨rfl,q O' y⟩
 . exact .inr ⟨rfl,q O' y⟩
theorem deeds {G:GC} {X:Addr} {m:Str} (hm:(X=64/\m="argument") \/ (X=52/\m="distance")) {O₀:Own} {l:Addr} {cs:List MV} (hl:O₀ l=some (.list cs)):∀ (ds:List Dd),(∀ d ∈ ds,∃ run,LamSim G 10 d.1 d.2.1 d.2.2 run/\∀ O,Ext O₀ O->Rz run O X) ->
   ∀ (J:LC) (O:Own) (Q:PS) (E:PE),Ext O₀ O->(∀ J' O',(∀ k,k ≠ 2->J' k=J k)->Ext O₀ O'->Q .next J' O') ->
   forL (aL 2) (ddBody G m) (fun O=>O l=some (.list cs)) (ds.map ddM) J O Q E:=by
 intro ds
 induction ds with
 | nil=>intro _ J O Q E x q;exact⟨x _ _ hl,q J O (fun _ _=>rfl) x⟩
 | cons d r ih =>
   intro hd J O Q E x q
   rw [List.map_cons]
   refine ⟨x _ _ hl,aI ?_⟩
   obtain ⟨run,hs,hr⟩:=hd d (.head _)
   have next:∀ O',Ext O O'->forL (aL 2) (ddBody G m) (fun O=>O l=some (.list cs)) (r.map ddM) (upd J 2 (ddM d)) O' Q E:=fun O' y =>
     ih (fun d' h=>hd d' (.tail _ h)) _ O' Q E (x.trans y) fun J' O2 k z=>q J' O2 (fun j hj=>(k j hj).trans (uD hj)) z
   refine ⟨_,uL,c_refused hm hs (hr O x) fun O' y=>?_⟩
   refine (?_:if decide (m ≠ m)=true then _ else _)
   rw [decide_eq_false (fun h=>h rfl),if_neg Bool.false_ne_true]
   exact next O' y
theorem codedExt {O O':Own} {q:Str} (h:Coded O O' q):Ext O O':=by
 rcases h with rfl | ⟨c,hc,rfl⟩
 . exact .refl _
 . exact .upd hc
theorem lamI {G:GC} {n:Nat} {P:Addr} {q:Str} {run:RT} {J:LC} {O:Own} {Q:PV} {E:PE} (hP:O P=some (.code (.tab q))) (h:∀ (d:Dd) O',LamSim G n d.1 d.2.1 d.2.2 run->Ext O O'->Q (ddM d) O'):mR G n P q run J O Q E:=⟨hP,fun body sc cl hs O' hc=>h (body,sc,cl) O' hs (codedExt hc)⟩
structure Good (hb:List Int) (xs:St2) (tx zs:List Int):Prop where
 oh:oct? hb
 ot:oct? tx
 A:xs.all okA=true
 D:xs.all okD=true
 un:unp xs hb=some (hb ++ tx)
 z0:∀ z ∈ zs,0<=z
 zt:zs.sum=tx.length
 zl:zs.length<=100
 len:hb.length + tx.length<=10000
 b256:∀ p ∈ xs,0<=p.2/\p.2<=255
theorem checkP_ok {xs:St2} (h:xs.all okA=true) (h':xs.all okD=true):cH xs=none:=by unfold cH;rw [if_pos h,if_pos h']
theorem unpE_ok {xs:St2} {hb b:List Int} (h:xs.all okA=true) (h':xs.all okD=true) (hu:unp xs hb=some b):unpE xs hb=.ok (b.drop hb.length):=by unfold unpE;rw [checkP_ok h h'];dsimp only;rw [hu]
theorem len_sz:∀ (xs:St2),xs.all okA=true->xs.length<=sz xs
 | [],_=>Nat.le_refl _
 | p :: r,h=>by
   rw [List.all_cons,Bool.and_eq_true] at h
   have ih:=len_sz r h.2
   rw [sz_cons,List.length_cons]
   have:1<=stSz p:=by
     unfold stSz
     split
     . exact Nat.le_refl _
     . rename_i h0
       have:2<=p.1:=of_decide_eq_true ((okA1 h0).symm.trans h.1)
       lia
   lia
theorem evAddB {f g:ET} {J:LC} {O:Own} {u v:List Int} (hf:Evl f J O (.bytes u)) (hg:Evl g J O (.bytes v)) (hy:u.length + v.length<=1000000):Evl (mB .Add f g) J O (.bytes (u ++ v)):=fun Q E q=>hf _ _ (hg _ _ ⟨rfl,hy,q⟩)
theorem tNeB {e e':ET} {J:LC} {O:Own} {i j:List Int} (h:Evl e J O (.bytes i)) (h':Evl e' J O (.bytes j)):Tst (bC .NotEq e e') J O (decide (i ≠ j)):=fun _ _ hq=>h _ _ (h' _ _ hq)
noncomputable def zipBody:ST:=(sQ (sA (mA (eC (mL 7) (eC (mL 5) eN)) c_unparse) (aL 9))
   (sQ (sIf (bC .NotEq (mA (eC (mL 9) eN) cN) (mL 8)) (sR (mC (.bool false))) sN)
   (sA (mB .Add (mL 5) (mL 9)) (aL 5))))
theorem zip_loop {W:List Int} {R:Addr} {O₀:Own} {g:Own->Prop} (hg:∀ O,Ext O₀ O->g O) (oW:oct? W) (hW:W.length<=10000):∀ (zs:List Int) (rows:List St2) (refs:List Addr) (P:Nat) (J:LC) (O:Own) (Q:PS) (E:PE),
   RowsOK W zs rows P->RowsAt O₀ R refs rows->Ext O₀ O->P<=W.length->J 5=some (.bytes (W.take P)) ->
   (∀ J' O',(∀ k,k ≠ 5->k ≠ 7->k ≠ 8->k ≠ 9->J' k=J k)->J' 5=some (.bytes (W.take (P + (zs.map Int.toNat).sum)))->refs.length=zs.length->Ext O₀ O'->Q .next J' O') ->
   forL (aT 2 (aC (aL 7) (aC (aL 8) aN))) zipBody g (zipM (refs.map .ref) (zs.map .int)) J O Q E:=by
 intro zs
 induction zs with
 | nil =>
   intro rows refs P J O Q E hr ha x hP e5 q
   cases rows with
   | cons=>exact False.elim hr
   | nil=>cases refs with
     | cons=>exact False.elim ha
     | nil=>exact⟨hg O x,q J O (fun _ _ _ _ _=>rfl) e5 rfl x⟩
 | cons z zs ih =>
   intro rows refs P J O Q E hr ha x hP e5 q
   cases rows with
   | nil=>exact False.elim hr
   | cons r rows=>cases refs with
     | nil=>exact False.elim ha
     | cons a refs =>
       obtain ⟨⟨h0,h1,h2,hA,hD⟩,hr'⟩:=hr
       refine ⟨hg O x,aTupL ?_⟩
       generalize hρ:upd (upd J 7 (.ref a)) 8 (.int z)=J1
       have k1:∀ k,k ≠ 7->k ≠ 8->J1 k=J k:=fun k h7 h8=>(congrFun hρ _).symm.trans (by rw [uD h8,uD h7])
       have f7:J1 7=some (.ref a):=(congrFun hρ _).symm
       have f8:J1 8=some (.int z):=(congrFun hρ _).symm
       have f5:=(k1 5 dC dC).trans e5
       have lP:(W.take P).length=P:=by rw [List.length_take];lia
       have hl:=unp_len r _ _ hA h2
       rw [lP,List.length_take] at hl
       have hE:=unpE_ok hA hD h2
       rw [lP] at hE
       refine sE (sAsgK (me (eO (eV f7) (eO (eV f5) (eI ?_)))))
       refine c_unp (x _ _ ha.1.1) (fun i hi=>oW i (List.mem_of_mem_take hi)) (by lia) (fun b O1 hb x1=>?_) (fun k O1 hk _=>by rw [hE] at hk;cases hk)
       rw [hE] at hb
       injection hb with hb
       refine aI ?_
       have lb:b.length=z.toNat:=by rw [<- hb,List.length_drop,List.length_take];lia
       have g5:upd J1 9 (.bytes b) 5=some (.bytes (W.take P)):=f5
       have g8:upd J1 9 (.bytes b) 8=some (.int z):=f8
       refine sE (sIfF ((tNe (evLen (eV (k:=9) uL) (by lia)) (eV g8)).to (decide_eq_false (by rw [lb];lia))) (si ?_))
       refine sAsgL (evAddB (eV g5) (eV (k:=9) uL) (by lia)) ?_
       have hcat:W.take P ++ b=W.take (P + z.toNat):=by
         have:W.take P=(W.take (P + z.toNat)).take P:=by rw [List.take_take];congr 1;lia
         rw [<- hb,this,List.take_append_drop]
       rw [hcat]
       refine ih rows refs (P + z.toNat) _ O1 Q E hr' ha.2 (x.trans x1) h1 uL fun J' O' a1 a2 a3 a4=>q J' O' (fun k b5 b7 b8 b9=>(a1 k b5 b7 b8 b9).trans ((uD b5).trans ((uD b9).trans (k1 k b7 b8)))) ?_ (by rw [List.length_cons,List.length_cons,a3]) a4
       rw [List.map_cons,List.sum_cons,<- Nat.add_assoc]
       exact a2
theorem fits_loop {W:List Int} {l:Addr} {xs:St2} {O₀:Own} (hl:O₀ l=some (.list (xs.map prM))) (oW:oct? W) (hA:xs.all okA=true) (hD:xs.all okD=true) (hy:W.length + sz xs<=100000):∀ (js:List Int) (J:LC) (O:Own) (Q:PS) (E:PE),
   (∀ j ∈ js,0<=j/\j<=W.length)->J 1=some (.ref l)->J 4=some (.bytes W)->Ext O₀ O->(∀ J' O',(∀ k,k ≠ 10->J' k=J k)->Ext O₀ O'->Q .next J' O') ->
   forL (aL 10) (sIf (bC .NotEq (mA (eC (mL 1) (eC (mL 4) (eC (mL 10) eN))) c_fits) (mA (eC (mL 1) (eC (mL 4) (eC (mL 10) eN))) c__law_fit)) (sR (mC (.bool false))) sN) (fun _=>True) (js.map .int) J O Q E:=by
 intro js
 induction js with
 | nil=>intro J O Q E _ e1 e4 x q;exact⟨trivial,q J O (fun _ _=>rfl) x⟩
 | cons j r ih =>
   intro J O Q E hj e1 e4 x q
   have h:=hj j (.head _)
   rw [List.map_cons]
   refine ⟨trivial,aI ?_⟩
   refine ⟨_,e1,_,e4,_,uL,c_fit (x _ _ hl) (by lia) h.2 ?_⟩
   refine ifF (leg h.1) ?_
   obtain ⟨p,rfl⟩:∃ p:Nat,j=p:=⟨j.toNat,by lia⟩
   refine ⟨_,e1,_,e4,_,uL,c_lfit (x _ _ hl) oW hA hD hy (of_cast_le h.2) fun O' x'=>?_⟩
   rw [fit_same W xs p (of_cast_le h.2) hA hD]
   refine (?_:if decide (lawFit xs W p ≠ lawFit xs W p)=true then _ else _)
   rw [decide_eq_false (fun h=>h rfl),if_neg Bool.false_ne_true]
   exact ih _ O' Q E (fun j h=>hj j (.tail _ h)) e1 e4 (x.trans x') fun J' O2 k y=>q J' O2 (fun i hi=>(k i hi).trans (uD hi)) y
theorem sum_toNat:∀ (zs:List Int),(∀ z ∈ zs,0<=z)->((zs.map Int.toNat).sum:Int)=zs.sum
 | [],_=>rfl
 | z :: zs,h=>by
   have h0:=h z (.head _)
   have ih:=sum_toNat zs fun x hx=>h x (.tail _ hx)
   rw [List.map_cons,List.sum_cons,List.sum_cons]
   lia
theorem okA_nn {xs:St2} (h:xs.all okA=true):∀ p ∈ xs,0<=p.1:=fun p hp=>by
 have:=List.all_eq_true.mp h p hp
 by_cases h0:p.1=0
 . lia
 . have:2<=p.1:=of_decide_eq_true ((okA1 h0).symm.trans this)
   exact idn this
theorem shown_ok {l:Addr} {xs:St2} {J:LC} {O:Own} {Q:PV} {E:PE} {a:CAddr} (hl:O l=some (.list (xs.map prM))) (hA:xs.all okA=true) (hx:xs.length<=10000) (hb:∀ p ∈ xs,0<=p.2/\p.2<=255) (hk:CntAt O a (cntP cnt0 xs)) {g:ET} (hg:∀ O',Ext O O'->Evl g J O' (.ref l))
   (q:∀ O',Ext O O'->Q (.bool true) O'):c__law_shown [.ref a.c] O (fun u O1=>mA (eC g eN) c__law_tally J O1 (fun v O2=>shown u v O2 fun c=>Q (.bool c) O2) E) E:=by
 have cl:=cnt_len xs cnt0
 have e0:cnt0.ls.length=0:=rfl
 have e1:cnt0.ds.length=0:=rfl
 refine c_show hk (by lia) (by lia) fun R x1 x2 x3 O1 s1 y1=>?_
 refine me (eO (hg O1 y1) (eI ?_))
 refine c_tally (y1 _ _ hl) (lE hx) hb fun R' z1 z2 z3 O2 s2 y2=>?_
 obtain ⟨d1,d2⟩:=cnt_same xs (okA_nn hA)
 refine ⟨R,R',x1,x2,x3,z1,z2,z3,(cntP cnt0 xs).lits,_,_,_,_,rfl,rfl,nO s1.r s2.n0,y2 _ _ s1.r,s2.r,nO s1.l s2.n1,nO s1.d1 s2.n2,nO s1.d2 s2.n3,y2 _ _ s1.l,s2.l,y2 _ _ s1.d1,s2.d1,y2 _ _ s1.d2,s2.d2,d1,d2,?_⟩
 exact q O2 (y1.trans y2)
theorem c_right {hb tx zs:List Int} {xs:St2} {l z:Addr} {O:Own} {Q:PV} {E:PE} (G:Good hb xs tx zs) (hl:O l=some (.list (xs.map prM))) (hz:O z=some (.list (zs.map .int))) (q:∀ O',Ext O O'->Q (.bool true) O'):c__law_right [.bytes hb,.ref l,.bytes tx,.ref z] O Q E:=by
 refine ⟨rfl,ent4 rfl fun L _=>?_⟩
 generalize hρ:upd (upd (upd (upd (fun _=>none) 0 (MV.bytes hb)) 1 (MV.ref l)) 2 (MV.bytes tx)) 3 (MV.ref z)=J
 have e0:J 0=some (.bytes hb):=(congrFun hρ _).symm
 have e1:J 1=some (.ref l):=(congrFun hρ _).symm
 have e2:J 2=some (.bytes tx):=(congrFun hρ _).symm
 have e3:J 3=some (.ref z):=(congrFun hρ _).symm
 have hlen:=G.len
 have hunl:=unp_len xs _ _ G.A G.un
 rw [List.length_append] at hunl
 have hxl:=len_sz xs G.A
 have hE:unpE xs hb=.ok tx:=by
   have:=unpE_ok G.A G.D G.un
   rwa [List.drop_left'] at this
   rfl
 have hWl:(hb ++ tx).length=hb.length + tx.length:=List.length_append
 have oW:oct? (hb ++ tx):=fun i hi=>(List.mem_append.mp hi).elim (G.oh i) (G.ot i)
 unfold f__law_right
 refine sE (sG (v:=.tup [.bytes (hb ++ tx),.bytes hb]) (evTup2 (evAddB (eV e0) (eV e2) (lE hlen)) (eV e0)) (aTupRL ?_))
 generalize hρ1:upd (upd J 5 (.bytes hb)) 4 (.bytes (hb ++ tx))=J1
 have k1:∀ k,k < 4->J1 k=J k:=fun k hk=>(congrFun hρ1 _).symm.trans (by rw [uD (lT hk),uD (lT hk)])
 have f0:=(k1 0 dC).trans e0
 have f1:=(k1 1 dC).trans e1
 have f2:=(k1 2 dC).trans e2
 have f3:=(k1 3 dC).trans e3
 have f4:J1 4=some (.bytes (hb ++ tx)):=(congrFun hρ1 _).symm
 have f5:J1 5=some (.bytes hb):=(congrFun hρ1 _).symm
 refine sE ⟨_,f1,_,f0,?_⟩
 refine c_unp hl G.oh (by lia) (fun b O1 hb' y1=>?_) (fun k O1 hk _=>by rw [hE] at hk;cases hk)
 rw [hE] at hb'
 injection hb' with hb'
 subst hb'
 refine ⟨_,f2,?_⟩
 refine (?_:if decide (tx ≠ tx)=true then _ else _)
 rw [decide_eq_false (fun h=>h rfl),if_neg Bool.false_ne_true]
 refine si ?_
 refine sE (sAsgK (me (eO (eV f1) (eO (eV f3) (eO (eV f0) (eI ?_))))))
 refine c_cut (y1 _ _ hl) (y1 _ _ hz) G.oh (by lia) (by lia) (by have:=G.zl;exact lE this) hE G.z0 G.zt fun R O2 refs hR r2 ra y2=>?_
 refine aI ?_
 have hrows:RowsOK (hb ++ tx) zs (cutRows tx zs xs 0 0 0) hb.length:=rows_law (hb:=hb) G.ot zs xs 0 0 0 G.z0 ((Int.zero_add _).trans G.zt) ⟨G.A,G.D,fun h=>absurd rfl h,by
   rw [copyN_n,Nat.add_zero,List.take_left']
   . exact G.un
   . rfl⟩
 have hzR:z ≠ R:=nO (y1 _ _ hz) hR
 have y12:=y1.trans y2
 refine sE ⟨_,uL,⟨_,(uD dC).trans f3,⟨R,z,_,_,rfl,rfl,r2,y12 _ _ hz,hzR.symm,fun t ht=>?_⟩⟩⟩
 have y3:Ext O2 (upd O2 t .hid):=.upd ht
 have x3:=y12.trans y3
 refine zip_loop (O₀:=upd O2 t .hid) (fun O' y=>⟨y _ _ (y3 _ _ r2),y _ _ (y3 _ _ (y12 _ _ hz)),y _ _ (uP _ _ _)⟩) oW (by lia) zs _ refs hb.length _ _ _ E hrows (ra.mono y3.toB) (.refl _) (by lia) ?_ fun J2 O3 k2 b5 rl y4=>?_
 . rw [uD dC,f5,List.take_left'];rfl
 have hsum:=sum_toNat zs G.z0
 have hzt:=G.zt
 rw [show hb.length + (zs.map Int.toNat).sum=(hb ++ tx).length by rw [hWl];lia,List.take_length] at b5
 have kk:∀ k,k < 5->J2 k=J1 k:=fun k hk=>(k2 k (lT hk) (lT hk) (lT hk) (lT hk)).trans (uD (lT hk))
 have b6:J2 6=some (.ref R):=(k2 6 dC dC dC dC).trans uL
 have x4:=x3.trans y4
 have r4:=y4 _ _ (y3 _ _ r2)
 refine sE (sIfF (tOrF ((tNeB (eV b5) (eV ((kk 4 dC).trans f4))).to (decide_eq_false fun h=>h rfl)) ((tNe (evLenL (eV b6) r4 (by rw [List.length_map,rl];have:=G.zl;exact lE this)) (evLenL (eV ((kk 3 dC).trans f3)) (x4 _ _ hz) (by rw [List.length_map];have:=G.zl;exact lE this))).to (decide_eq_false (by rw [List.length_map,List.length_map,rl];exact fun h=>h rfl)))) (si ?_))
 refine sE (sRange1 (evAdd (evLen (eV ((kk 4 dC).trans f4)) (by lia)) eS) (by lia) (by lia) ?_)
 refine fits_loop (x4 _ _ hl) oW G.A G.D (by lia) _ J2 O3 _ E (fun j hj=>?_) ((kk 1 dC).trans f1) ((kk 4 dC).trans f4) (.refl _) fun J3 O4 k3 y5=>?_
 . simp only [upInts,List.mem_map,List.mem_range] at hj
   obtain ⟨i,hi,rfl⟩:=hj
   lia
 have x5:=x4.trans y5
 have c1:J3 1=some (.ref l):=(k3 1 dC).trans ((kk 1 dC).trans f1)
 refine sE (sAsgK (me (eO (eV c1) (eI ?_))))
 have hck:=checkP_ok G.A G.D
 refine c_runs (x5 _ _ hl) (by lia) (fun k hk=>na hck hk) fun U O5 _ hU u5 y6=>?_
 refine aTupL ?_
 have x6:=x5.trans y6
 have hrl:=runs_law xs []
 have hrl':sofP (runsP xs []).1 ++ litP (runsP xs []).2=xs:=hrl
 have hrlen:=congrArg List.length hrl'
 rw [List.length_append] at hrlen
 have hrlen2:(litP (runsP xs []).2).length=(runsP xs []).2.length:=List.length_map _
 generalize hρ3:upd (upd J3 11 (.ref U)) 12 (.bytes (runsP xs []).2)=J4
 have g11:J4 11=some (.ref U):=(congrFun hρ3 _).symm
 have g12:J4 12=some (.bytes (runsP xs []).2):=(congrFun hρ3 _).symm
 have g1:J4 1=some (.ref l):=(congrFun hρ3 _).symm.trans c1
 refine sRetK ?_
 refine (me (eO (eV g11) (eO (eV g12) (eI ?_))):mA (eC (mL 11) (eC (mL 12) eN)) c_steps_of_runs2 J4 O5 _ E)
 refine c_sof2 u5 (by lia) (fun k O' hk=>by rw [hrl',hck] at hk;cases hk) fun S O6 _ hS s6 y7=>?_
 rw [hrl'] at s6
 have x7:=x6.trans y7
 refine ⟨_,g1,⟨S,l,rfl,rfl,.inr ⟨xs,xs,s6,x7 _ _ hl,.inl ⟨rfl,?_⟩⟩⟩⟩
 rw [decide_eq_true rfl]
 refine ⟨true,rfl,?_⟩
 refine ifT rfl ?_
 unfold mShown
 refine me (ec (me (eO (eV g1) (eI ?_))))
 refine c_cof (x7 _ _ hl) (by lia) (fun c O' hk=>na hck hk) fun a O7 _ ha y8=>?_
 have x8:=x7.trans y8
 exact shown_ok (Q:=fun v O'=>Q v O') (x8 _ _ hl) G.A (by lia) G.b256 ha (fun _ _=>eV g1) fun O' y9=>q O' (x8.trans y9)
theorem figI {f g:ET} {s l:Addr} {N many:Int} {J:LC} {O:Own} {Q:PV} {E:PE} (hf:Evl f J O (.ref s)) (hg:Evl g J O (.int many)) (hS:Sheet O s l N) (hN:N<=100000) (h1:0 < many) (h2:many<=100000)
   (hq:∀ v O' l',0<=v->v < many->Sheet O' s l' (N + 1)->(l'=l \/ O l'=none)->ExtB s O O'->Q (.int v) O'):mA (eC f (eC g eN)) cL J O Q E:=me (eO hf (eO hg (eI (c_fig hS hN h1 h2 hq))))
theorem mAddK {f g:ET} {k:Int} {J:LC} {O:Own} {Q:PV} {E:PE} (hf:Evl f J O (.int k)) (h:g J O (fun b O2=>bop .Add (.int k) b O2 Q) E):mB .Add f g J O Q E:=hf _ _ h
theorem bAddI {a b:Int} {O:Own} {Q:PV} (h:Q (.int (a + b)) O):bop .Add (.int a) (.int b) O Q:=h
theorem sAppK {k:Nat} {m:Addr} {xs:List MV} {f:ET} {J:LC} {O:Own} {Q:PS} {E:PE} (hρ:J k=some (.ref m)) (hm:O m=some (.list xs)) (h:f J O (fun v O1=>cA [.ref m,v] O1 (fun u O'=>u=.none/\Q .next J O') E) E):sX (mM isL (mL k) (eC f eN) cA) J O Q E :=
 ⟨_,hρ,⟨m,xs,rfl,hm⟩,h⟩
theorem appI {m:Addr} {xs:List MV} {v:MV} {O:Own} {Q:PV} {E:PE} (hm:O m=some (.list xs)) (hy:xs.length<=1000000) (h:Q .none (upd O m (.list (xs ++ [v])))):cA [.ref m,v] O Q E:=⟨m,xs,v,rfl,hm,hy,h⟩
structure LS (O₀ O:Own) (s l c M S:Addr) (N:Int) (made:List Int) (xs:St2):Prop where
 sh:Sheet O s l N
 hc:O c=some (.cell (some (.ref s)))
 m:O M=some (.list (made.map .int))
 st:O S=some (.list (xs.map prM))
 lM:l ≠ M
 lS:l ≠ S
 sM:s ≠ M
 sS:s ≠ S
 MS:M ≠ S
 x:ExtB s O₀ O
section
variable {O₀ O O':Own} {s l l' c M S:Addr} {N:Int} {made:List Int} {xs:St2}
theorem LS.fig (h:LS O₀ O s l c M S N made xs) (k:Sheet O' s l' (N + 1)) (hl:l'=l \/ O l'=none) (x:ExtB s O O'):LS O₀ O' s l' c M S (N + 1) made xs:=by
 obtain ⟨_,_,hs,_⟩:=h.sh
 refine ⟨k,x _ _ (nE h.hc hs nofun) h.hc,x _ _ h.sM.symm h.m,x _ _ h.sS.symm h.st,?_,?_,h.sM,h.sS,h.MS,h.x.trans x⟩
 . rcases hl with rfl | hl
   . exact h.lM
   . exact (nO h.m hl).symm
 . rcases hl with rfl | hl
   . exact h.lS
   . exact (nO h.st hl).symm
theorem Sheet.upd {m:Addr} {o:MObj} (h:Sheet O s l N) (h1:l ≠ m) (h2:s ≠ m):Sheet (Mn.upd O m o) s l N:=by
 obtain ⟨xs,n,hs,hl,r⟩:=h
 exact⟨xs,n,(uN h2).trans hs,(uN h1).trans hl,r⟩
theorem ExtB.put {m:Addr} {o:MObj} (h:ExtB s O₀ O) (hm:O₀ m=none):ExtB s O₀ (Mn.upd O m o):=fun a x n q=>by
 have:a ≠ m:=nO q hm
 rw [uN this];exact h a x n q
theorem LS.setM (h:LS O₀ O s l c M S N made xs) (hM:O₀ M=none) (b:List Int):LS O₀ (upd O M (.list (b.map .int))) s l c M S N b xs :=
 ⟨h.sh.upd h.lM h.sM,(uN (nE h.hc h.m nofun)).trans h.hc,uP _ _ _,(uN h.MS.symm).trans h.st,h.lM,h.lS,h.sM,h.sS,h.MS,h.x.put hM⟩
theorem LS.setS (h:LS O₀ O s l c M S N made xs) (hS:O₀ S=none) (b:St2):LS O₀ (upd O S (.list (b.map prM))) s l c M S N made b :=
 ⟨h.sh.upd h.lS h.sS,(uN (nE h.hc h.st nofun)).trans h.hc,(uN h.MS).trans h.m,uP _ _ _,h.lM,h.lS,h.sM,h.sS,h.MS,h.x.put hS⟩
end
structure GP (hb:List Int) (xs:St2) (made:List Int):Prop where
 o:oct? made
 A:xs.all okA=true
 D:xs.all okD=true
 un:unp xs hb=some made
 b256:∀ p ∈ xs,0<=p.2/\p.2<=255
theorem GP.lit {hb made:List Int} {xs:St2} (h:GP hb xs made) {v:Int} (h0:0<=v) (h1:v < 3):GP hb (xs ++ [(0,97 + v)]) (made ++ [97 + v]) where
 o:=oct_app h.o (Int.add_nonneg dC h0) (by lia)
 A:=by rw [List.all_append,h.A];simp [okA];lia
 D:=by rw [List.all_append,h.D];simp [okD]
 un:=by rw [unp_app,h.un];show unp [(0,97 + v)] made=_;rw [unp_c,if_pos rfl,unp_n]
 b256 p hp:=(List.mem_append.mp hp).elim (h.b256 p) fun e=>by rw [List.mem_singleton.mp e];dsimp only;lia
theorem GP.mat {hb made:List Int} {xs:St2} (h:GP hb xs made) {f d:Int} (h0:0<=f) (h1:0<=d) (h2:d < made.length) (h3:made.length<=255):GP hb (xs ++ [(2 + f,1 + d)]) (copyN (1 + d).toNat (2 + f).toNat made) where
 o:=oct_copy _ _ _ h.o
 A:=by rw [List.all_append,h.A];simp [okA];refine ifF (by lia) ?_;lia
 D:=by rw [List.all_append,h.D];simp [okD];lia
 un:=by rw [unp_app,h.un];show unp [(2 + f,1 + d)] made=_;rw [unp_c,if_neg (by lia),if_pos (by lia),unp_n]
 b256 p hp:=(List.mem_append.mp hp).elim (h.b256 p) fun e=>by rw [List.mem_singleton.mp e];dsimp only;lia
theorem cp_loop (M S:Addr) (d f:Int) (ys:St2) (O:Own) (hS:O S=some (.list ((ys ++ [(f,d)]).map prM))) (hSM:S ≠ M) (hyl:ys.length<=1000) (h1:1<=d):∀ (xs:List MV) (J:LC) (b:List Int) (Q:PS) (E:PE),
   J 1=some (.ref M)->J 2=some (.ref S)->d<=b.length->b.length + xs.length<=1000000 ->
   (∀ J':LC,(∀ k,k ≠ 5->J' k=J k)->Q .next J' (upd O M (.list ((copyN d.toNat xs.length b).map .int)))) ->
   forL (aL 5) (sX (mM isL (mL 1) (eC (mI (mL 1) (mNeg (mI (mI (mL 2) (mNeg (mC (.int 1)))) (mC (.int 1))))) eN) cA)) (fun _=>True) xs J (upd O M (.list (b.map .int))) Q E:=by
 intro xs
 induction xs with
 | nil=>intro J b Q E e1 e2 hs hl h;exact⟨trivial,h J fun _ _=>rfl⟩
 | cons x r ih =>
   intro J b Q E e1 e2 hs hl h
   rw [List.length_cons] at hl
   refine ⟨trivial,aI ?_⟩
   have f1:upd J 5 x 1=some (.ref M):=e1
   have f2:upd J 5 x 2=some (.ref S):=e2
   have ed:Evl (mI (mI (mL 2) (mNeg (mC (.int 1)))) (mC (.int 1))) (upd J 5 x) (upd O M (.list (b.map .int))) (.int d):=evTup (i:=1) (ms:=[.int f,.int d]) (evBack (s:=1) (eV f2) (evNeg eS) ((uN hSM).trans hS) dC (by simp;lia) (by simp;exact lE hyl) (by simp)) eS dC rfl
   refine sAppL (v:=.int (b.getD (b.length - d.toNat) 0)) f1 (uP _ _ _) (evBack (eV f1) (evNeg ed) (uP _ _ _) h1 (by rw [List.length_map];exact hs) (by rw [List.length_map];exact le_sum hl) ?_) (by rw [List.length_map];unfold yL;exact le_sum hl) ?_
   . rw [List.length_map,List.getElem?_map,some_getD (subt_lt h1 hs)];rfl
   . rw [uU]
     have:b.map MV.int ++ [.int (b.getD (b.length - d.toNat) 0)]=(b ++ [b.getD (b.length - d.toNat) 0]).map .int:=by rw [List.map_append];rfl
     rw [this]
     refine ih (upd J 5 x) _ Q E f1 f2 (by rw [List.length_append];simp;exact Int.le_of_lt (Int.lt_add_one_of_le hs)) (by rw [List.length_append];simp;lia) fun J' hρ=>h J' fun k hk=>?_
     rw [hρ k hk,uD hk]
theorem sIfK {t:Mn.BT} {f g:ST} {J:LC} {O:Own} {Q:PS} {E:PE} (h:t J O (fun c O'=>if c=true then f J O' Q E else g J O' Q E) E):sIf t f g J O Q E:=h
theorem bCmpK {op:CmpOp} {f g:ET} {J:LC} {O:Own} {Q:Bool->Own->Prop} {E:PE} (h:f J O (fun a O1=>g J O1 (fun b O2=>cop op a b fun c=>Q c O2) E) E):bC op f g J O Q E:=h
noncomputable def turnBody (c:Addr):ST:=(sIf (bC .Eq (mA (eC (mE c) (eC (mC (.int 2)) eN)) cL) (mC (.int 0))) (sQ (sX (mM isL (mL 2) (eC (mU (eC (mC (.int 0)) (eC (mB .Add (mC (.int 97)) (mA (eC (mE c) (eC (mC (.int 3)) eN)) cL)) eN))) eN) cA))
   (sX (mM isL (mL 1) (eC (mI (mI (mL 2) (mNeg (mC (.int 1)))) (mC (.int 1))) eN) cA))) (sQ (sX (mM isL (mL 2) (eC (mU (eC (mB .Add (mC (.int 2)) (mA (eC (mE c) (eC (mC (.int 4)) eN)) cL)) (eC (mB .Add (mC (.int 1)) (mA (eC (mE c) (eC (mA (eC (mL 1) eN) cN) eN)) cL)) eN))) eN) cA))
   (sFor (itRange1 (mI (mI (mL 2) (mNeg (mC (.int 1)))) (mC (.int 0)))) (aL 5) (sX (mM isL (mL 1) (eC (mI (mL 1) (mNeg (mI (mI (mL 2) (mNeg (mC (.int 1)))) (mC (.int 1))))) eN) cA)))))
theorem turn_loop {O₀:Own} {s c M S:Addr} {hb:List Int} (hM:O₀ M=none) (hS:O₀ S=none):∀ (js:List MV) (l:Addr) (N:Int) (made:List Int) (xs:St2) (J:LC) (O:Own) (Q:PS) (E:PE),
   LS O₀ O s l c M S N made xs->GP hb xs made->1<=made.length->made.length + 5 * js.length<=200->xs.length + js.length<=200->N + 3 * js.length<=1000->J 1=some (.ref M)->J 2=some (.ref S) ->
   (∀ J' O' l' N' made' xs',LS O₀ O' s l' c M S N' made' xs'->GP hb xs' made'->made'.length<=200->xs'.length<=200->xs.length + js.length<=xs'.length->N'<=N + 3 * js.length->(∀ k,k < 4->J' k=J k)->Q .next J' O') ->
   forL (aL 4) (turnBody c) (fun _=>True) js J O Q E:=by
 intro js
 induction js with
 | nil=>intro l N made xs J O Q E h g h1 h2 h3 h4 e1 e2 q;exact⟨trivial,q J O l N made xs h g (by simp at h2;exact h2) (by simp at h3;exact h3) (by simp) (by simp) fun _ _=>rfl⟩
 | cons j r ih =>
   intro l N made xs J O Q E h g h1 h2 h3 h4 e1 e2 q
   rw [List.length_cons] at h2 h3 h4
   refine ⟨trivial,aI ?_⟩
   generalize hρ:upd J 4 j=J1
   have f1:J1 1=some (.ref M):=(congrFun hρ _).symm.trans e1
   have f2:J1 2=some (.ref S):=(congrFun hρ _).symm.trans e2
   have kk:∀ k,k < 4->J1 k=J k:=fun k hk=>(congrFun hρ _).symm.trans (uD (lT hk))
   refine sIfK (bCmpK (figI (evCel h.hc) eS h.sh (by lia) dC dC fun v O1 l1 v0 v1 k1 k2 k3=>?_))
   have s1:=h.fig k1 k2 k3
   refine (?_:if decide (v=0)=true then _ else _)
   by_cases hv:v=0
   . rw [decide_eq_true hv,if_pos rfl]
     refine sE (sAppK f2 s1.st ?_)
     refine mTupI (eO eS (ec (mAddK eS ?_)))
     refine figI (evCel s1.hc) eS s1.sh (by lia) dC dC fun u O2 l2 u0 u1 k1 k2 k3=>bAddI (eI ⟨yl2,?_⟩)
     have s2:=s1.fig k1 k2 k3
     refine appI s2.st (by rw [List.length_map];lia) ⟨rfl,?_⟩
     have e:xs.map prM ++ [.tup [.int 0,.int (97 + u)]]=(xs ++ [(0,97 + u)]).map prM:=by rw [List.map_append];rfl
     rw [e]
     have s3:=s2.setS hS (xs ++ [(0,97 + u)])
     refine sAppL (v:=.int (97 + u)) f1 s3.m (evTup (i:=1) (ms:=[.int 0,.int (97 + u)]) (evBack (s:=1) (eV f2) (evNeg eS) s3.st dC (by simp;lia) (by simp;lia) (by simp)) eS dC rfl) (by unfold yL;rw [List.length_map];lia) ?_
     have e:made.map MV.int ++ [.int (97 + u)]=(made ++ [97 + u]).map .int:=by rw [List.map_append];rfl
     rw [e]
     refine ih l2 (N + 1 + 1) _ _ J1 _ Q E (s3.setM hM (made ++ [97 + u])) (g.lit u0 u1) (by simp) (by simp;lia) (by simp;lia) (by lia) f1 f2 fun J' O' l' N' made' xs' a1 a2 a3 a4 a5 a6 a7=>q J' O' l' N' made' xs' a1 a2 a3 a4 (by simp at a5;rw [List.length_cons];lia) (by rw [List.length_cons];lia) fun k hk=>(a7 k hk).trans (kk k hk)
   . rw [decide_eq_false hv,if_neg Bool.false_ne_true]
     refine sE (sAppK f2 s1.st ?_)
     refine mTupI (ec (mAddK eS ?_))
     refine figI (evCel s1.hc) eS s1.sh (by lia) dC dC fun u O2 l2 u0 u1 k1 k2 k3=>bAddI (ec (mAddK eS ?_))
     have s2:=s1.fig k1 k2 k3
     refine figI (evCel s2.hc) (evLenL (eV f1) s2.m (by rw [List.length_map];lia)) s2.sh (by lia) (by rw [List.length_map];lia) (by rw [List.length_map];lia) fun w O3 l3 w0 w1 k1 k2 k3=>bAddI (eI ⟨yl2,?_⟩)
     rw [List.length_map] at w1
     have s3:=s2.fig k1 k2 k3
     refine appI s3.st (by rw [List.length_map];lia) ⟨rfl,?_⟩
     have e:xs.map prM ++ [.tup [.int (2 + u),.int (1 + w)]]=(xs ++ [(2 + u,1 + w)]).map prM:=by rw [List.map_append];rfl
     rw [e]
     have s4:=s3.setS hS (xs ++ [(2 + u,1 + w)])
     refine sRange1 (i:=2 + u) (evTup (i:=0) (ms:=[.int (2 + u),.int (1 + w)]) (evBack (s:=1) (eV f2) (evNeg eS) s4.st dC (by simp;lia) (by simp;lia) (by simp)) eS dC rfl) (by lia) (by lia) ?_
     have hMM:upd O3 S (.list ((xs ++ [(2 + u,1 + w)]).map prM))=upd (upd O3 S (.list ((xs ++ [(2 + u,1 + w)]).map prM))) M (.list (made.map .int)):=by
       funext a
       by_cases ha:a=M
       . subst ha;rw [uP];exact s4.m
       . rw [uN ha]
     rw [hMM]
     refine cp_loop M S (1 + w) (2 + u) xs _ s4.st s4.MS.symm (by lia) (by lia) _ J1 made _ E f1 f2 (by lia) (by rw [List.length_map,uI];lia) fun J2 k2=>?_
     rw [List.length_map,uI]
     refine ih l3 (N + 1 + 1 + 1) _ _ J2 _ Q E (s4.setM hM (copyN (1 + w).toNat (2 + u).toNat made)) (g.mat u0 w0 w1 (by lia)) (by rw [copyN_len];exact Nat.le_trans h1 (Nat.le_add_right _ _)) (by rw [copyN_len];lia) (by simp;lia) (by lia) ((k2 1 dC).trans f1) ((k2 2 dC).trans f2) fun J' O' l' N' made' xs' a1 a2 a3 a4 a5 a6 a7=>q J' O' l' N' made' xs' a1 a2 a3 a4 (by simp at a5;rw [List.length_cons];lia) (by rw [List.length_cons];lia) fun k hk=>(a7 k hk).trans ((k2 k (lT hk)).trans (kk k hk))
theorem ExtB.free {s m:Addr} {O₀ O:Own} {o:MObj} (h:ExtB s O₀ O) (hs:O s=some o) (hm:O m=none):O₀ m=none:=by
 cases q:O₀ m with
 | none=>rfl
 | some u =>
   have:m ≠ s:=(nO hs hm).symm
   exact na hm (h m u this q)
theorem Sheet.mono {O O':Own} {s l:Addr} {N:Int} (h:Sheet O s l N) (x:Ext O O'):Sheet O' s l N:=by
 obtain ⟨xs,n,hs,hl,r⟩:=h
 exact⟨xs,n,x _ _ hs,x _ _ hl,r⟩
theorem cutTo {α:Type} {b:List α} {k:Nat} (h:k<=b.length):cutM b none (some (k:Int))=b.take k:=by
 unfold cutM
 simp only [Option.elim,List.drop_zero,Nat.sub_zero]
 rw [clip_in (Int.natCast_nonneg _) (cast_le h),Int.toNat_natCast]
theorem cutFrom {α:Type} {b:List α} {k:Nat} (h:k<=b.length):cutM b (some (k:Int)) none=b.drop k:=by
 unfold cutM
 simp only [Option.elim]
 rw [clip_in (Int.natCast_nonneg _) (cast_le h),Int.toNat_natCast]
 exact List.take_of_length_le (by rw [List.length_drop];exact Nat.le_refl _)
section
variable {f e:ET} {J:LC} {O:Own} {E:PE}
theorem mCompR {k:Nat} {a:Addr->AT} {t:Addr->Mn.BT} {e:Addr->ET} {Q:PV} (h:f J O (fun v O'=>∃ b,v=.int b/\-1000000<=b/\b<=1000000/\(yL ((upInts 0 b.toNat).map MV.int).length/\∀ D C:Addr,O' D=none->D < C->(∀ b,C<=b->O' b=none)->compL (a C) (t C) (e C) (fun _=>True) D ((upInts 0 b.toNat).map .int) [] (fun _=>none) (cE C k (upd O' D (.list []))) fun acc O2=>O2 D=some (.list acc)/\Q (.ref D) O2)) E):mComp (itRange1 f) k a t e J O Q E:=h
theorem sForR {a:AT} {b:ST} {Q:PS} (h:f J O (fun v O'=>∃ i,v=.int i/\-1000000<=i/\i<=1000000/\forL a b (fun _=>True) ((upInts 0 i.toNat).map .int) J O' Q E) E):sFor (itRange1 f) a b J O Q E:=h
end
theorem fig_comp {O₀:Own} {s c D:Addr} (hD:O₀ D=none):∀ (js:List MV) (l:Addr) (N:Int) (acc:List Int) (J:LC) (O:Own) (Q:List MV->Own->Prop),
   Sheet O s l N->O c=some (.cell (some (.ref s)))->O D=some (.list (acc.map .int))->l ≠ D->s ≠ D->ExtB s O₀ O->oct? acc->N + js.length<=1000 ->
   (∀ O' l' acc',Sheet O' s l' (N + js.length)->O' c=some (.cell (some (.ref s)))->O' D=some (.list (acc'.map .int))->l' ≠ D->ExtB s O₀ O'->oct? acc'->acc'.length=acc.length + js.length->Q (acc'.map .int) O') ->
   compL (aL 0) bTrue (mB .Add (mC (.int 97)) (mA (eC (mE c) (eC (mC (.int 3)) eN)) cL)) (fun _=>True) D js (acc.map .int) J O Q:=by
 intro js
 induction js with
 | nil=>intro l N acc J O Q h hc hd hl hs x ho hN q;exact⟨trivial,q O l acc (by simpa using h) hc hd hl x ho rfl⟩
 | cons j r ih =>
   intro l N acc J O Q h hc hd hl hs x ho hN q
   rw [List.length_cons] at hN
   refine ⟨trivial,aI (bTrueI ?_)⟩
   refine ifT rfl ?_
   refine mAddK eS (figI (evCel hc) eS h (by lia) dC dC fun v O1 l₁ v0 v1 k1 k2 k3=>bAddI ?_)
   obtain ⟨_,_,hss,_⟩:=h
   have hd1:=k3 _ _ hs.symm hd
   refine ⟨hd1,?_⟩
   have e:acc.map MV.int ++ [.int (97 + v)]=(acc ++ [97 + v]).map .int:=by rw [List.map_append];rfl
   rw [e]
   have l1:l₁ ≠ D:=by
     rcases k2 with rfl | k2
     . exact hl
     . exact (nO hd k2).symm
   refine ih l₁ (N + 1) (acc ++ [97 + v]) _ _ Q (k1.upd l1 hs) ((uN (nE (k3 _ _ (nE hc hss nofun) hc) hd1 nofun)).trans (k3 _ _ (nE hc hss nofun) hc)) (uP _ _ _) l1 hs ((x.trans k3).put hD) (oct_app ho (Int.add_nonneg dC v0) (by lia)) (by lia) fun O' l' acc' a1 a2 a3 a4 a5 a6 a7=>q O' l' acc' (by rw [List.length_cons];rw [show N + ((r.length + 1:Nat):Int)=N + 1 + (r.length:Int) by lia];exact a1) a2 a3 a4 a5 a6 (by rw [a7];simp;lia)
theorem c_lsteps {s l:Addr} {N most:Int} {O:Own} {Q:PV} {E:PE} (hS:Sheet O s l N) (hN:N<=100) (m1:1<=most) (m2:most<=7)
   (q:∀ hb tx xs S O' l' N',GP hb xs (hb ++ tx)->hb.length<=3->(hb ++ tx).length<=200->xs.length<=200->O S=none->O' S=some (.list (xs.map prM))->Sheet O' s l' N'->N'<=200->ExtB s O O'->Q (.tup [.bytes hb,.ref S,.bytes tx]) O'):c__law_steps [.ref s,.int most] O Q E:=by
 refine ⟨rfl,fun L hL=>?_⟩
 unfold f__law_steps
 simp only [g__law_steps,List.append_nil,aCons1,aNil1,cE,aL]
 have hc0:O (L + 1 + 0)=none:=hL _ (Nat.le_succ L)
 generalize L + 1 + 0=c at hc0 ⊢
 refine ⟨_,uP _ _ _,?_⟩
 rw [uU]
 have x1:Ext O (upd O c (.cell (some (.ref s)))):=.upd hc0
 have c1:=uP O c (.cell (some (.ref s)))
 generalize upd O c (.cell (some (.ref s)))=O1 at x1 c1 ⊢
 have h1:=hS.mono x1
 refine sE (sAsgK (mTupI (ec ?_)))
 refine mCompR ?_
 refine mAddK eS (figI (evCel c1) eS h1 (iup hN) dC dC fun v O2 l2 v0 v1 k1 k2 k3=>bAddI ?_)
 refine ⟨1 + v,rfl,by lia,by lia,by unfold yL;rw [List.length_map,uI];lia,fun D C hD _ _=>?_⟩
 have hh:=h1
 obtain ⟨_,_,hss,_⟩:=hh
 have hh:=k1
 obtain ⟨_,_,hss2,hsl2,_⟩:=hh
 have c2:=k3 _ _ (nE c1 hss nofun) c1
 have hD1:=k3.free hss2 hD
 have y2:Ext O2 (upd O2 D (.list [])):=.upd hD
 refine fig_comp (O₀:=O1) (acc:=[]) hD1 _ l2 (N + 1) _ _ _ (k1.mono y2) (y2 _ _ c2) (uP _ _ _) (nO hsl2 hD) (nO hss2 hD) (k3.trans y2.toB) (fun _ h=>nomatch h) (by rw [List.length_map,uI];lia) fun O3 l3 hb h3 c3 d3 lD x3 ho hlen=>?_
 rw [List.length_map,uI] at h3 hlen
 rw [List.length_nil] at hlen
 refine ⟨d3,ec ⟨yl0,fun S hS3=>eI ⟨yl2,aTupRL ?_⟩⟩⟩
 have hh:=h3
 obtain ⟨_,_,hss3,hsl3,_⟩:=hh
 have hS1:=x3.free hss3 hS3
 have y4:Ext O3 (upd O3 S (.list [])):=.upd hS3
 have ls:LS O1 (upd O3 S (.list [])) s l3 c D S (N + 1 + ((1 + v).toNat:Nat)) hb []:=⟨h3.mono y4,y4 _ _ c3,y4 _ _ d3,uP _ _ _,lD,nO hsl3 hS3,nO hss2 hD,nO hss3 hS3,nO d3 hS3,x3.trans y4.toB⟩
 generalize upd O3 S (.list [])=O4 at ls ⊢
 generalize hρ:upd (upd (upd (fun _=>none) 0 (MV.int most)) 2 (MV.ref S)) 1 (MV.ref D)=J
 have e0:J 0=some (.int most):=(congrFun hρ _).symm
 have e1:J 1=some (.ref D):=(congrFun hρ _).symm
 have e2:J 2=some (.ref S):=(congrFun hρ _).symm
 refine sE (sAsgL (evLenL (eV e1) ls.m (by rw [List.length_map];lia)) ?_)
 rw [List.length_map]
 have f0:upd J 3 (.int (hb.length:Nat)) 0=some (.int most):=e0
 refine sE ?_
 refine sForR ?_
 refine mAddK eS (figI (evCel ls.hc) (eV f0) ls.sh (by lia) (idlt m1) (iup m2) fun u O5 l5 u0 u1 k1' k2' k3'=>bAddI ?_)
 have ls5:=ls.fig k1' k2' k3'
 refine ⟨1 + u,rfl,by lia,by lia,?_⟩
 have g0:GP hb [] hb:=⟨ho,rfl,rfl,rfl,fun _ h=>nomatch h⟩
 refine turn_loop hD1 hS1 _ l5 _ hb [] _ O5 _ E ls5 g0 (by lia) (by rw [List.length_map,uI];lia) (by rw [List.length_map,uI,List.length_nil];lia) (by rw [List.length_map,uI];lia) e1 e2 fun J' O6 l6 N6 made xs ls6 g6 n6 x6 _ hN6 kk=>?_
 rw [List.length_map,uI] at hN6
 have r1:J' 1=some (.ref D):=(kk 1 dC).trans e1
 have r2:J' 2=some (.ref S):=(kk 2 dC).trans e2
 have r3:J' 3=some (.int (hb.length:Nat)):=(kk 3 dC).trans uL
 obtain ⟨tx,htx⟩:=unp_pre _ _ _ g6.un
 subst htx
 refine sRetK (mTupI (ec (me (ec ?_))))
 have otx:oct? tx:=fun i hi=>g6.o i (List.mem_append_right _ hi)
 have n6':=n6
 rw [List.length_append] at n6'
 refine ⟨_,r1,⟨_,r3,_,rfl,⟨_,ls6.m,by unfold yL;rw [List.length_map];exact lE n6,fun r hr=>?_⟩⟩⟩
 rw [cutTo (by rw [List.length_map,List.length_append];exact Nat.le_add_right _ _),<- List.map_take,List.take_left' rfl]
 have y7:Ext O6 (upd O6 r (.list (hb.map .int))):=.upd hr
 have r7:=uP O6 r (.list (hb.map MV.int))
 generalize upd O6 r (.list (hb.map MV.int))=O7 at y7 r7 ⊢
 refine eI ⟨.ref r,rfl,.inr ⟨hb,r7,ho,by unfold yL;lia,?_⟩⟩
 refine eO (eV r2) (ec (me (ec ?_)))
 refine ⟨_,r1,⟨_,r3,_,rfl,⟨_,y7 _ _ ls6.m,by unfold yL;rw [List.length_map];exact lE n6,fun w hw=>?_⟩⟩⟩
 rw [cutFrom (by rw [List.length_map,List.length_append];exact Nat.le_add_right _ _),<- List.map_drop,List.drop_left' rfl]
 have y8:Ext O7 (upd O7 w (.list (tx.map .int))):=.upd hw
 have w8:=uP O7 w (.list (tx.map MV.int))
 generalize upd O7 w (.list (tx.map MV.int))=O8 at y8 w8 ⊢
 refine eI ⟨.ref w,rfl,.inr ⟨tx,w8,otx,by unfold yL;lia,?_⟩⟩
 refine eI ⟨yl3,?_⟩
 have y:=y7.trans y8
 refine q hb tx xs S O8 l6 N6 g6 (by lia) n6 x6 (x1.free hS1) (y _ _ ls6.st) (ls6.sh.mono y) (by lia) (x1.toB.trans (ls6.x.trans y.toB))
noncomputable def ExtO (S:List Addr) (O O':Own):Prop:=∀ a o,a ∉ S->(∀ u,o ≠ .cell u)->O a=some o->O' a=some o
theorem ExtO.trans {S:List Addr} {a b c:Own} (h:ExtO S a b) (k:ExtO S b c):ExtO S a c:=fun x o n m q=>k x o n m (h x o n m q)
theorem Ext.toO {S:List Addr} {a b:Own} (h:Ext a b):ExtO S a b:=fun x o _ _ q=>h x o q
theorem ExtB.toO {s:Addr} {a b:Own} (h:ExtB s a b):ExtO [s] a b:=fun x o n _ q=>h x o (by simpa using n) q
theorem ExtO.cell {S:List Addr} {O:Own} {c:Addr} {u v:Option MV} (h:O c=some (.cell u)):ExtO S O (upd O c (.cell v)):=fun a o _ m q=>by
 have:a ≠ c:=by rintro rfl;cases one h q;exact m _ rfl
 rw [uN this];exact q
structure OS (O:Own) (s l L:Addr) (N:Int) (K:Nat->Option MV):Prop where
 sh:Sheet O s l N
 ce:∀ i,i < 12->O (L + 1 + i)=some (.cell (K i))
section
variable {O O':Own} {s l l' L:Addr} {N:Int} {K:Nat->Option MV}
theorem OS.fig (h:OS O s l L N K) (k:Sheet O' s l' (N + 1)) (x:ExtB s O O'):OS O' s l' L (N + 1) K:=by
 obtain ⟨_,_,hs,_⟩:=h.sh
 exact⟨k,fun i hi=>x _ _ (nE (h.ce i hi) hs nofun) (h.ce i hi)⟩
theorem OS.ext (h:OS O s l L N K) (x:Ext O O'):OS O' s l L N K:=⟨h.sh.mono x,fun i hi=>x _ _ (h.ce i hi)⟩
theorem OS.set (h:OS O s l L N K) (i:Nat) (hi:i < 12) (m:MV):OS (upd O (L + 1 + i) (.cell (some m))) s l L N (Mn.upd K i m)/\∀ S,ExtO S O (upd O (L + 1 + i) (.cell (some m))):=by
 have hc:=h.ce i hi
 have hh:=h.sh
 obtain ⟨_,_,hs,hl,_⟩:=hh
 refine ⟨⟨h.sh.upd (nE hl hc nofun) (nE hs hc nofun),fun j hj=>?_⟩,fun S=>.cell hc⟩
 by_cases e:j=i
 . subst e;rw [uP,uL]
 . rw [uD e,uN (fun q=>e (Nat.add_left_cancel q))];exact h.ce j hj
end
theorem cells12 (L:Addr):∀ (k:Nat) (O:Own) (i:Nat),i < k->cE L k O (L + 1 + i)=some (.cell none)
 | k + 1,O,i,h=>by
   rw [cE]
   by_cases e:i=k
   . subst e;exact uP _ _ _
   . rw [uN (fun q=>e (Nat.add_left_cancel q))];exact cells12 L k O i (by lia)
theorem cells_ext (L:Addr) (O:Own) (hL:∀ b,L<=b->O b=none):∀ k,Ext O (cE L k O)
 | 0=>.refl O
 | k + 1=>(cells_ext L O hL k).put (hL _ (Nat.le_trans (Nat.le_succ L) (Nat.le_add_right _ _)))
theorem aCelI {c:Addr} {m:MV} {u:Option MV} {J:LC} {O:Own} {Q:LC->Own->Prop} (h:O c=some (.cell u)) (q:Q J (upd O c (.cell (some m)))):aCel c m J O Q:=⟨u,h,q⟩
theorem mLstI {g:LT} {J:LC} {O:Own} {Q:PV} {E:PE} (h:g J O (fun ms O'=>yL ms.length/\∀ r,O' r=none->Q (.ref r) (upd O' r (.list ms))) E):mLst g J O Q E:=h
theorem mNegI {f:ET} {J:LC} {O:Own} {Q:PV} {E:PE} (h:f J O (fun v O'=>∃ i,v=.int i/\Q (.int (-i)) O') E):mNeg f J O Q E:=h
theorem mBinK {op:Operator} {f g:ET} {v:MV} {J:LC} {O:Own} {Q:PV} {E:PE} (hf:Evl f J O v) (h:g J O (fun b O2=>bop op v b O2 Q) E):mB op f g J O Q E:=hf _ _ h
theorem bSubI {a b:Int} {O:Own} {Q:PV} (h:Q (.int (a - b)) O):bop .Sub (.int a) (.int b) O Q:=h
theorem bCatI {a b:Addr} {xs ys:List MV} {O:Own} {Q:PV} (h1:O a=some (.list xs)) (h2:O b=some (.list ys)) (hy:xs.length + ys.length<=1000000) (h:∀ c,O c=none->Q (.ref c) (upd O c (.list (xs ++ ys)))):bop .Add (.ref a) (.ref b) O Q:=⟨rfl,xs,ys,h1,h2,hy,h⟩
theorem mIdxK {f g:ET} {J:LC} {O:Own} {Q:PV} {E:PE} (h:f J O (fun a O1=>g J O1 (fun b O2=>∃ x,geti a b O2=some x/\smallI b/\Q x O2) E) E):mI f g J O Q E:=h
theorem idxK {r:Addr} {i:Int} {xs:List MV} {v:MV} {O:Own} {Q:MV->Prop} (hl:O r=some (.list xs)) (h0:0<=i) (h1:i<=1000000) (hx:xs[i.toNat]?=some v) (q:Q v):∃ x,geti (.ref r) (.int i) O=some x/\smallI (.int i)/\Q x:=by
 refine ⟨v,?_,⟨i,rfl,(idn h0),h1⟩,q⟩
 exact (geti_ls hl).trans (pick_in h0 hx)
theorem aTup3C {a b c:AT} {J:LC} {O:Own} {Q:LC->Own->Prop} {x y z:MV} (h:a x J O fun J' O'=>b y J' O' fun J' O'=>c z J' O' Q):aT 3 (aC a (aC b (aC c aN))) (.tup [x,y,z]) J O Q:=by
 rw [aTup3,aCons1]
 have e:∀ (J:LC) (O:Own),aC b (aC c aN) [y,z] J O Q=b y J O fun J' O'=>c z J' O' Q:=by
   intro J O
   rw [aCons1]
   have:(fun J' O'=>aC c aN [z] J' O' Q)=fun J' O'=>c z J' O' Q:=by
     funext J' O'
     rw [aCons1]
     have:(fun J' O'=>aN [] J' O' Q)=Q:=by funext J' O';rw [aNil1]
     rw [this]
   rw [this]
 have:(fun J' O'=>aC b (aC c aN) [y,z] J' O' Q)=fun J' O'=>b y J' O' fun J' O'=>c z J' O' Q:=by funext J' O';rw [e]
 rw [this]
 exact h
theorem near_ck {xs:St2} {f d:Int} (hA:xs.all okA=true) (h0:0<=f) (h1:d<=0):cH (xs ++ [(2 + f,d)])=some 52:=by
 unfold cH
 have a:okA (2 + f,d)=true:=by unfold okA;rw [if_neg (by dsimp only;lia)];exact decide_eq_true (by dsimp only;lia)
 have b:okD (2 + f,d)=false:=by unfold okD;rw [if_neg (by dsimp only;lia)];exact decide_eq_false (by dsimp only;exact ltg (illt h1))
 rw [if_pos (by rw [List.all_append,hA,List.all_cons,a];rfl),if_neg (by rw [List.all_append,List.all_cons,b];simp)]
theorem spoilt_ck {xs:St2} {p:Int × Int} (h:okA p=false):cH (xs ++ [p])=some 64:=by
 unfold cH
 rw [if_neg (by rw [List.all_append,List.all_cons,h];simp)]
theorem spoilt_at {v:Int} (h0:0<=v) (h1:v < 5):∃ p:Int × Int,okA p=false/\([(0,256),(0,-1),(1,1),(-2,1),(0,300)]:St2)[v.toNat]?=some p:=by
 have:v=0 \/ v=1 \/ v=2 \/ v=3 \/ v=4:=by lia
 rcases this with rfl | rfl | rfl | rfl | rfl
 . exact⟨(0,256),by decide,rfl⟩
 . exact⟨(0,-1),by decide,rfl⟩
 . exact⟨(1,1),by decide,rfl⟩
 . exact⟨(-2,1),by decide,rfl⟩
 . exact⟨(0,300),by decide,rfl⟩
theorem parts_at {v a b:Int} (h0:0<=v) (h1:v < 3) (ha:0<=a) (hb:0<=b):∃ u:Int,¬ (1<=u/\u<=1024)/\([.int 0,.int (-1 - a),.int (1025 + b)]:List MV)[v.toNat]?=some (.int u):=by
 have:v=0 \/ v=1 \/ v=2:=by lia
 rcases this with rfl | rfl | rfl
 . exact⟨0,by decide,rfl⟩
 . exact⟨-1 - a,by lia,rfl⟩
 . exact⟨1025 + b,by lia,rfl⟩
theorem ExtO.lst {S:List Addr} {O O':Own} {a:Addr} {xs:List MV} (h:ExtO S O O') (n:a ∉ S) (q:O a=some (.list xs)):O' a=some (.list xs):=h _ _ n nofun q
structure OddK (K:Nat->Option MV) (hb tx:List Int) (l z ln lp:Addr) (low few u:Int):Prop where
 k0:K 0=some (.bytes hb)
 k1:K 1=some (.ref l)
 k2:K 2=some (.ref z)
 k4:K 4=some (.int few)
 k6:K 6=some (.int low)
 k7:K 7=some (.ref ln)
 k8:K 8=some (.int u)
 k10:K 10=some (.ref lp)
 k11:K 11=some (.bytes (hb ++ tx))
theorem OS.cel {O:Own} {s l L:Addr} {N:Int} {K:Nat->Option MV} {i:Nat} {v:MV} {J:LC} (h:OS O s l L N K) (hi:i < 12) (hk:K i=some v):Evl (mE (L + 1 + i)) J O v:=evCel (by rw [h.ce i hi,hk])
noncomputable def oddHead (L:Addr) (rest:ST):ST:=(sQ (sA (mU (eC (mB .Add (mE (L + 1 + 0)) (mL 1)) (eC (mNeg (mA (eC (mL 0) (eC (mC (.int 3)) eN)) cL)) (eC (mB .Sub (mC (.int 1)) (mA (eC (mL 0) (eC (mC (.int 3)) eN)) cL)) eN)))) (aT 3 (aC (aCel (L + 1 + 11)) (aC (aCel (L + 1 + 6)) (aC (aCel (L + 1 + 4)) aN)))))
   (sQ (sA (mB .Add (mE (L + 1 + 1)) (mLst (eC (mU (eC (mB .Add (mC (.int 2)) (mA (eC (mL 0) (eC (mC (.int 3)) eN)) cL)) (eC (mE (L + 1 + 6)) eN))) eN))) (aCel (L + 1 + 7)))
   (sQ (sA (mB .Add (mE (L + 1 + 1)) (mLst (eC (mI (mLst (eC (mU (eC (mC (.int 0)) (eC (mC (.int 256)) eN))) (eC (mU (eC (mC (.int 0)) (eC (mNeg (mC (.int 1))) eN))) (eC (mU (eC (mC (.int 1)) (eC (mC (.int 1)) eN))) (eC (mU (eC (mNeg (mC (.int 2))) (eC (mC (.int 1)) eN))) (eC (mU (eC (mC (.int 0)) (eC (mC (.int 300)) eN))) eN)))))) (mA (eC (mL 0) (eC (mC (.int 5)) eN)) cL)) eN))) (aCel (L + 1 + 10)))
   (sQ (sA (mI (mLst (eC (mC (.int 0)) (eC (mB .Sub (mNeg (mC (.int 1))) (mA (eC (mL 0) (eC (mC (.int 9)) eN)) cL)) (eC (mB .Add (mC (.int 1025)) (mA (eC (mL 0) (eC (mC (.int 9)) eN)) cL)) eN)))) (mA (eC (mL 0) (eC (mC (.int 3)) eN)) cL)) (aCel (L + 1 + 8)))
   rest))))
theorem odd_head {rest:ST} {s l0 L l z:Addr} {N:Int} {K:Nat->Option MV} {hb tx:List Int} {xs:St2} {J:LC} {O:Own} {Q:PS} {E:PE} (os:OS O s l0 L N K) (hN:N<=1000) (e0:J 0=some (.ref s)) (e1:J 1=some (.bytes tx)) (k0:K 0=some (.bytes hb)) (k1:K 1=some (.ref l)) (k2:K 2=some (.ref z)) (hl:O l=some (.list (xs.map prM))) (hls:l ≠ s) (hy:hb.length + tx.length<=10000) (hx:xs.length<=1000)
   (h:∀ O' l' N' K' ln lp low few u f p,OS O' s l' L N' K'->OddK K' hb tx l z ln lp low few u->low<=0->few < 2->¬ (1<=u/\u<=1024)->0<=f->f < 3->okA p=false->O' ln=some (.list ((xs ++ [(2 + f,low)]).map prM))->O' lp=some (.list ((xs ++ [p]).map prM))->ExtO [s] O O'->rest J O' Q E):oddHead L rest J O Q E:=by
 unfold oddHead
 refine sE (sAsgK (mTupI (eO (evAddB (os.cel dC k0) (eV e1) (lE hy)) (ec (mNegI ?_)))))
 refine figI (eV e0) eS os.sh (iup hN) dC dC fun lo O1 l1 v0 v1 q1 _ x1=>⟨lo,rfl,ec (mBinK eS ?_)⟩
 have os1:=os.fig q1 x1
 refine figI (eV e0) eS os1.sh (Int.add_one_le_of_lt (illt hN)) dC dC fun fe O2 l2 w0 w1 q2 _ x2=>bSubI (eI ⟨yl3,aTup3C ?_⟩)
 have os2:=os1.fig q2 x2
 refine aCelI (os2.ce 11 dC) ?_
 obtain ⟨os3,y3⟩:=os2.set 11 dC (.bytes (hb ++ tx))
 refine aCelI (os3.ce 6 dC) ?_
 obtain ⟨os4,y4⟩:=os3.set 6 dC (.int (-lo))
 refine aCelI (os4.ce 4 dC) ?_
 obtain ⟨os5,y5⟩:=os4.set 4 dC (.int (1 - fe))
 have X5:ExtO [s] O _:=x1.toO.trans (x2.toO.trans ((y3 _).trans ((y4 _).trans (y5 _))))
 generalize hσ5:upd (upd (upd O2 (L + 1 + 11) (.cell (some (.bytes (hb ++ tx))))) (L + 1 + 6) (.cell (some (.int (-lo))))) (L + 1 + 4) (.cell (some (.int (1 - fe))))=O5 at os5 X5 ⊢
 generalize hK5:upd (upd (upd K 11 (.bytes (hb ++ tx))) 6 (.int (-lo))) 4 (.int (1 - fe))=K5 at os5
 have a0:K5 0=some (.bytes hb):=(congrFun hK5 _).symm.trans k0
 have a1:K5 1=some (.ref l):=(congrFun hK5 _).symm.trans k1
 have a2:K5 2=some (.ref z):=(congrFun hK5 _).symm.trans k2
 have a4:K5 4=some (.int (1 - fe)):=(congrFun hK5 _).symm
 have a6:K5 6=some (.int (-lo)):=(congrFun hK5 _).symm
 have a11:K5 11=some (.bytes (hb ++ tx)):=(congrFun hK5 _).symm
 clear hσ5 hK5 y3 y4 y5 os1 os2 os3 os4
 refine sE (sAsgK (mBinK (os5.cel dC a1) (mLstI (ec (mTupI (ec (mAddK eS ?_)))))))
 refine figI (eV e0) eS os5.sh (by lia) dC dC fun f O6 l6 f0 f1 q6 _ x6=>bAddI ?_
 have os6:=os5.fig q6 x6
 refine eO (os6.cel dC a6) (eI ⟨yl2,eI ⟨yl1,fun r hr=>?_⟩⟩)
 have ls6:=x6 _ _ hls (X5.lst (nmC hls nmN) hl)
 have y7:Ext O6 (upd O6 r (.list [.tup [.int (2 + f),.int (-lo)]])):=.upd hr
 have os7:=os6.ext y7
 refine bCatI (y7 _ _ ls6) (uP _ _ _) (by rw [List.length_map];simp;exact lE hx) fun ln hln=>?_
 have e:xs.map prM ++ [.tup [.int (2 + f),.int (-lo)]]=(xs ++ [(2 + f,-lo)]).map prM:=by rw [List.map_append];rfl
 rw [e]
 have y8:=Ext.upd (o:=.list ((xs ++ [(2 + f,-lo)]).map prM)) hln
 have ln8:=uP (upd O6 r (.list [.tup [.int (2 + f),.int (-lo)]])) ln (.list ((xs ++ [(2 + f,-lo)]).map prM))
 have os8:=os7.ext y8
 have X8:ExtO [s] O _:=X5.trans (x6.toO.trans (y7.trans y8).toO)
 obtain ⟨_,_,hs6,_⟩:=q6
 have hlns:ln ≠ s:=(nO (y7 _ _ hs6) hln).symm
 generalize upd (upd O6 r (.list [.tup [.int (2 + f),.int (-lo)]])) ln (.list ((xs ++ [(2 + f,-lo)]).map prM))=O8 at y8 ln8 os8 X8 ⊢
 refine aCelI (os8.ce 7 dC) ?_
 obtain ⟨os9,y9⟩:=os8.set 7 dC (.ref ln)
 have X9:=X8.trans (y9 _)
 have ln9:=(y9 []).lst nofun ln8
 generalize upd O8 (L + 1 + 7) (.cell (some (.ref ln)))=O9 at os9 X9 ln9 ⊢
 clear y9 os8 y8 os7 y7 ls6 os6 os5 X5 X8 ln8
 refine sE (sAsgK (mBinK (os9.cel dC (v:=.ref l) a1) (mLstI (ec (mIdxK (mLstI (eO (evTup2 eS eS) (eO (evTup2 eS (evNeg eS)) (eO (evTup2 eS eS) (eO (evTup2 (evNeg eS) eS) (eO (evTup2 eS eS) (eI ⟨yl5,fun t ht=>?_⟩))))))))))))
 have y10:Ext O9 (upd O9 t (.list [.tup [.int 0,.int 256],.tup [.int 0,.int (-1)],.tup [.int 1,.int 1],.tup [.int (-2),.int 1],.tup [.int 0,.int 300]])):=.upd ht
 have t10:=uP O9 t (.list [.tup [.int 0,.int 256],.tup [.int 0,.int (-1)],.tup [.int 1,.int 1],.tup [.int (-2),.int 1],.tup [.int 0,.int 300]])
 have os10:=os9.ext y10
 have hts:t ≠ s:=by
   obtain ⟨_,_,hs9,_⟩:=os9.sh
   exact (nO hs9 ht).symm
 generalize upd O9 t (.list [.tup [.int 0,.int 256],.tup [.int 0,.int (-1)],.tup [.int 1,.int 1],.tup [.int (-2),.int 1],.tup [.int 0,.int 300]])=O10 at y10 t10 os10 ⊢
 refine figI (eV e0) eS os10.sh (by lia) dC dC fun g O11 l11 g0 g1 q11 _ x11=>?_
 have os11:=os10.fig q11 x11
 obtain ⟨p,hp,hpx⟩:=spoilt_at g0 g1
 refine idxK (v:=prM p) (x11 _ _ hts t10) g0 (Int.le_of_lt (ilup g1)) (by have:=congrArg (Option.map prM) hpx;rw [<- List.getElem?_map] at this;exact this) ?_
 refine eI ⟨yl1,fun r hr=>?_⟩
 have X11:ExtO [s] O O11:=X9.trans (y10.toO.trans x11.toO)
 have ln11:O11 ln=_:=x11 _ _ hlns (y10 _ _ ln9)
 have hl11:=X11.lst (nmC hls nmN) hl
 have y12:Ext O11 (upd O11 r (.list [prM p])):=.upd hr
 refine bCatI (y12 _ _ hl11) (uP _ _ _) (by rw [List.length_map];simp;exact lE hx) fun lp hlp=>?_
 have e:xs.map prM ++ [prM p]=(xs ++ [p]).map prM:=by rw [List.map_append];rfl
 rw [e]
 have y13:=Ext.upd (o:=.list ((xs ++ [p]).map prM)) hlp
 have lp13:=uP (upd O11 r (.list [prM p])) lp (.list ((xs ++ [p]).map prM))
 have os13:=(os11.ext y12).ext y13
 have ln13:=y13 _ _ (y12 _ _ ln11)
 have X13:ExtO [s] O _:=X11.trans (y12.trans y13).toO
 have hlps:lp ≠ s:=by
   obtain ⟨_,_,hs11,_⟩:=os11.sh
   exact (nO (y12 _ _ hs11) hlp).symm
 generalize upd (upd O11 r (.list [prM p])) lp (.list ((xs ++ [p]).map prM))=O13 at y13 lp13 os13 ln13 X13 ⊢
 refine aCelI (os13.ce 10 dC) ?_
 obtain ⟨os14,y14⟩:=os13.set 10 dC (.ref lp)
 have X14:=X13.trans (y14 _)
 have ln14:=(y14 []).lst nofun ln13
 have lp14:=(y14 []).lst nofun lp13
 generalize upd O13 (L + 1 + 10) (.cell (some (.ref lp)))=O14 at os14 X14 ln14 lp14 ⊢
 clear y14 os13 y13 y12 os11 os10 y10 os9 X9 X11 X13 ln9 ln11 ln13 lp13 hl11 t10
 refine sE (sAsgK (mIdxK (mLstI (eO eS (ec (mBinK (evNeg eS) ?_))))))
 refine figI (eV e0) eS os14.sh (by lia) dC dC fun a O15 l15 a0' a1' q15 _ x15=>bSubI (ec (mAddK eS ?_))
 have os15:=os14.fig q15 x15
 refine figI (eV e0) eS os15.sh (by lia) dC dC fun b O16 l16 b0 b1 q16 _ x16=>bAddI (eI ⟨yl3,fun t ht=>?_⟩)
 have os16:=os15.fig q16 x16
 have y17:Ext O16 (upd O16 t (.list [.int 0,.int (-1 - a),.int (1025 + b)])):=.upd ht
 have t17:=uP O16 t (.list [.int 0,.int (-1 - a),.int (1025 + b)])
 have os17:=os16.ext y17
 have hts:t ≠ s:=by
   obtain ⟨_,_,hs9,_⟩:=os16.sh
   exact (nO hs9 ht).symm
 have X17:ExtO [s] O14 _:=x15.toO.trans (x16.toO.trans y17.toO)
 generalize upd O16 t (.list [.int 0,.int (-1 - a),.int (1025 + b)])=O17 at t17 os17 X17 ⊢
 refine figI (eV e0) eS os17.sh (by lia) dC dC fun v O18 l18 v0 v1 q18 _ x18=>?_
 have os18:=os17.fig q18 x18
 obtain ⟨u,hu,hux⟩:=parts_at v0 v1 a0' b0
 refine idxK (v:=.int u) (x18 _ _ hts t17) v0 (Int.le_of_lt (ilup v1)) hux ?_
 have X18:=X17.trans x18.toO
 refine aCelI (os18.ce 8 dC) ?_
 obtain ⟨os19,y19⟩:=os18.set 8 dC (.int u)
 have X19:=X18.trans (y19 _)
 exact h _ _ _ _ ln lp (-lo) (1 - fe) u f p os19 ⟨a0,a1,a2,a4,a6,rfl,rfl,rfl,a11⟩ (by lia) (by lia) hu f0 f1 hp (X19.lst (nmC hlns nmN) ln14) (X19.lst (nmC hlps nmN) lp14) (X14.trans X19)
noncomputable abbrev lamQ:Str:="_law_odd_right.<locals>.<lambda>"
structure OT (O:Own) (L:Addr) (K:Nat->Option MV) (W:List Int) (l z ln lp:Addr) (xs ns ps:St2) (zs:List Int) (a:CAddr) (k:Cnt) (fa:FAddr) (p px:Addr):Prop where
 ce:∀ i,i < 12->O (L + 1 + i)=some (.cell (K i))
 hl:O l=some (.list (xs.map prM))
 hz:O z=some (.list (zs.map .int))
 hn:O ln=some (.list (ns.map prM))
 hp:O lp=some (.list (ps.map prM))
 ck:CntAt O a k
 fk:FI O fa W 0 (fsAt W 0)
 pk:PrAt O p px
 cd:O 598=some (.code (.tab lamQ))
theorem CntAt.mono {O O':Own} {a:CAddr} {k:Cnt} (h:CntAt O a k) (x:Ext O O'):CntAt O' a k:=by
 obtain ⟨m,m1,m2⟩:=h.ns
 exact⟨x _ _ h.obj,⟨m,x _ _ m1,m2⟩,x _ _ h.lits,x _ _ h.ls,x _ _ h.ds,h.ne,h.len⟩
section
variable {O O':Own} {L:Addr} {K:Nat->Option MV} {W:List Int} {l z ln lp:Addr} {xs ns ps:St2} {zs:List Int} {a:CAddr} {k:Cnt} {fa:FAddr} {p px:Addr}
theorem OT.ext (h:OT O L K W l z ln lp xs ns ps zs a k fa p px) (x:Ext O O'):OT O' L K W l z ln lp xs ns ps zs a k fa p px :=
 ⟨fun i hi=>x _ _ (h.ce i hi),x _ _ h.hl,x _ _ h.hz,x _ _ h.hn,x _ _ h.hp,h.ck.mono x,h.fk.mono x,h.pk.mono x,x _ _ h.cd⟩
theorem OT.cel {i:Nat} {v:MV} {J:LC} (h:OT O L K W l z ln lp xs ns ps zs a k fa p px) (hi:i < 12) (hk:K i=some v):Evl (mE (L + 1 + i)) J O v:=evCel (by rw [h.ce i hi,hk])
end
structure OddC (K:Nat->Option MV) (W:List Int) (l ln lp:Addr) (xs ns ps:St2) (a:CAddr) (k:Cnt) (fa:FAddr) (p px:Addr):Prop where
 k3:K 3=some (.ref a.c)
 k5:K 5=some (.ref fa.f)
 k9:K 9=some (.ref p)
 nn:ln ≠ a.l1
 np:lp ≠ a.l1
 cn:cH ns=some 52
 cp:cH ps=some 64
 ln:ns.length<=10000
 lp:ps.length<=10000
 sn:W.length + sz ns<=50000
 kl:k.ls.length<=10000
 kd:k.ds.length<=10000
theorem unpE_bad {xs:St2} {hb:List Int} {c:Addr} (h:cH xs=some c):unpE xs hb=.error c:=by unfold unpE;rw [h]
theorem evTup3 {f g h:ET} {J:LC} {O:Own} {u v w:MV} (hf:Evl f J O u) (hg:Evl g J O v) (hh:Evl h J O w):Evl (mU (eC f (eC g (eC h eN)))) J O (.tup [u,v,w]):=fun Q E q=>hf _ _ (hg _ _ (hh _ _ ⟨yl3,q⟩))
section
variable {O:Own} {L:Addr} {K:Nat->Option MV} {hb tx:List Int} {l z ln lp:Addr} {xs ns ps:St2} {zs:List Int} {a:CAddr} {k:Cnt} {fa:FAddr} {p px:Addr} {low few u:Int}
variable (o:OT O L K (hb ++ tx) l z ln lp xs ns ps zs a k fa p px) (ok:OddK K hb tx l z ln lp low few u) (oc:OddC K (hb ++ tx) l ln lp xs ns ps a k fa p px) (oh:oct? hb) (hlow:low<=0) (hfew:few < 2) (hu:¬ (1<=u/\u<=1024))
include o ok oc
include oh in
theorem rz0:Rz (run_0 L) O 52:=fun E h=>me (eO (o.cel dC ok.k7) (eO (o.cel dC ok.k0) (eI (by
 have:=oc.sn
 rw [List.length_append] at this
 exact c_unp o.hn oh (by lia) (fun b O' hb _=>by rw [unpE_bad oc.cn] at hb;cases hb) (fun c O' hc x=>by rw [unpE_bad oc.cn] at hc;cases hc;exact h O' x)))))
theorem rz1:Rz (run_1 L) O 52:=fun E h=>me (eO (o.cel dC ok.k7) (eI (c_cof o.hn (by have:=oc.ln;exact lE this) (fun c O' hc x=>by rw [oc.cn] at hc;cases hc;exact h O' x) (fun a O' hc=>na hc oc.cn))))
theorem rz2:Rz (run_2 L) O 52:=fun E h=>me (eO (o.cel dC ok.k7) (eI (c_runs o.hn (by have:=oc.ln;exact lE this) (fun c hc=>by rw [oc.cn] at hc;cases hc;exact h O (.refl O)) (fun R O' hc=>na hc oc.cn))))
theorem rz3:Rz (run_3 L) O 52:=fun E h=>by
 obtain ⟨m,m1,_⟩:=o.ck.ns
 exact mMet1 (o.cel dC oc.k3) o.ck.obj m1 (o.cel dC ok.k7) (c_add o.hn o.ck oc.nn (by have:=oc.ln;have:=oc.kl;lia) (by have:=oc.ln;have:=oc.kd;lia) (fun c hc=>by rw [oc.cn] at hc;cases hc;exact h O (.refl O)) (fun O' hc=>na hc oc.cn))
include hlow in
theorem rz4:Rz (run_4 L) O 52:=fun E h=>me (ec (mLstI (eO (evTup3 eS eS (o.cel dC ok.k6)) (eI ⟨yl1,fun r hr=>by
 have hc:cH (sofP [([97],3,low)] ++ litP [])=some 52:=near_ck (xs:=[(0,97)]) (f:=1) dC dC hlow
 exact eI (c_sof1 (rs:=[([97],3,low)]) (uP _ _ _) (by simp [sofP_c,sofP_n]) (fun c O' hk x=>by rw [hc] at hk;cases hk;exact h O' ((Ext.upd hr).trans x)) (fun S O' hk=>na hk hc))⟩))))
include hfew in
theorem rz5:Rz (run_5 L) O 64:=fun E h=>me (eO (o.cel dC ok.k1) (eO (o.cel dC ok.k2) (eO (o.cel dC ok.k0) (eO (o.cel dC ok.k4) (eI (c_cut_bad hfew (h O (.refl O))))))))
include hlow in
theorem rz6:Rz (run_6 L) O 64:=fun E h=>me (eO (o.cel dC ok.k1) (eO (o.cel dC ok.k11) (eO (evSub (o.cel dC ok.k6) eS) (eI (c_fit o.hl (by have:=oc.sn;lia) (by lia) (by refine ifT (by lia) ?_;exact h O (.refl O)))))))
theorem rz7:Rz (run_7 L) O 64:=fun E h=>by
 obtain ⟨m,m1,_⟩:=o.ck.ns
 exact mMet1 (o.cel dC oc.k3) o.ck.obj m1 (o.cel dC ok.k10) (c_add o.hp o.ck oc.np (by have:=oc.lp;have:=oc.kl;lia) (by have:=oc.lp;have:=oc.kd;lia) (fun c hc=>by rw [oc.cp] at hc;cases hc;exact h O (.refl O)) (fun O' hc=>na hc oc.cp))
theorem rz8:Rz (run_8 L) O 64:=fun E h=>me (eO (o.cel dC ok.k10) (eI (c_cof o.hp (by have:=oc.lp;exact lE this) (fun c O' hc x=>by rw [oc.cp] at hc;cases hc;exact h O' x) (fun a O' hc=>na hc oc.cp))))
include hu in
theorem rz9:Rz (run_9 L) O 64:=fun E h=>me (eO (o.cel dC oc.k3) (eO (o.cel dC ok.k8) (eI (c_learnt hu h))))
include hu in
theorem rz10:Rz (run_10 L) O 64:=fun E h=>me (eO (o.cel dC ok.k11) (eO (evLen (o.cel dC ok.k0) (by have:=oc.sn;rw [List.length_append] at this;lia)) (ec (mLstI (eO (o.cel dC oc.k5) (eI ⟨yl1,fun r hr=>by
 have o':=o.ext (Ext.upd (o:=.list [.ref fa.f]) hr)
 exact eO eS (eO (o'.cel dC oc.k9) (eO (o'.cel dC ok.k8) (eI (c_learn_bad (uP _ _ _) rfl hu (h _ (.upd hr))))))⟩))))))
end
theorem sForL {f:ET} {a:AT} {b:ST} {J:LC} {O:Own} {Q:PS} {E:PE} (h:f J O (fun v O'=>∃ l xs,v=.ref l/\O' l=some (.list xs)/\forL a b (fun O=>O l=some (.list xs)) xs J O' Q E) E):sFor (iT f) a b J O Q E:=h
theorem sz_app (xs ys:St2):sz (xs ++ ys)=sz xs + sz ys:=by unfold sz;rw [List.map_append,List.sum_append]
section
variable {O O':Own} {a:CAddr} {k:Cnt} {fa:FAddr} {W:List Int} {h:Int} {s:Fs} {p px:Addr}
theorem CntAt.o (h:CntAt O a k) (x:ExtO [] O O'):CntAt O' a k:=by
 obtain ⟨m,m1,m2⟩:=h.ns
 exact⟨x _ _ nmN nofun h.obj,⟨m,x _ _ nmN nofun m1,m2⟩,x _ _ nmN nofun h.lits,x _ _ nmN nofun h.ls,x _ _ nmN nofun h.ds,h.ne,h.len⟩
theorem FI.o (y:FI O fa W h s) (x:ExtO [] O O'):FI O' fa W h s:=by
 obtain ⟨m,m1,m2⟩:=y.nf
 obtain ⟨n,n1,n2⟩:=y.nr
 exact⟨x _ _ nmN nofun y.of,⟨m,x _ _ nmN nofun m1,m2⟩,x _ _ nmN nofun y.ro,⟨n,x _ _ nmN nofun n1,n2⟩,x _ _ nmN nofun y.ld,x _ _ nmN nofun y.lb,y.ne⟩
theorem PrAt.o (h:PrAt O p px) (x:ExtO [] O O'):PrAt O' p px:=by
 obtain ⟨m,h1,h2,h3⟩:=h
 exact⟨m,x _ _ nmN nofun h1,x _ _ nmN nofun h2,h3⟩
end
noncomputable def oddRest (G:GC) (L:Addr):ST:=(sQ (sA (mU (eC (mA eN (mkC 260 c_Counts_init)) (eC (mA (eC (mE (L + 1 + 11)) (eC (mC (.int 2)) (eC (mC (.int 40)) (eC (mC (.int 40)) eN)))) (mkC 549 c_Finder_init)) (eC (mA (eC (mC (.int 3)) (eC (mC (.int 5)) eN)) (mkC 232 c_FlatPrice_init)) eN)))) (aT 3 (aC (aCel (L + 1 + 3)) (aC (aCel (L + 1 + 5)) (aC (aCel (L + 1 + 9)) aN)))))
   (sQ (sX (mMet 260 (mE (L + 1 + 3)) (eC (mE (L + 1 + 1)) eN) cC))
   (sQ (sFor (iT (mLst (eC (mR G 10 598 "_law_odd_right.<locals>.<lambda>" (run_0 L)) (eC (mR G 10 598 "_law_odd_right.<locals>.<lambda>" (run_1 L)) (eC (mR G 10 598 "_law_odd_right.<locals>.<lambda>" (run_2 L)) (eC (mR G 10 598 "_law_odd_right.<locals>.<lambda>" (run_3 L)) (eC (mR G 10 598 "_law_odd_right.<locals>.<lambda>" (run_4 L)) eN))))))) (aL 2) (ddBody G "distance"))
   (sQ (sFor (iT (mLst (eC (mR G 10 598 "_law_odd_right.<locals>.<lambda>" (run_5 L)) (eC (mR G 10 598 "_law_odd_right.<locals>.<lambda>" (run_6 L)) (eC (mR G 10 598 "_law_odd_right.<locals>.<lambda>" (run_7 L)) (eC (mR G 10 598 "_law_odd_right.<locals>.<lambda>" (run_8 L)) (eC (mR G 10 598 "_law_odd_right.<locals>.<lambda>" (run_9 L)) (eC (mR G 10 598 "_law_odd_right.<locals>.<lambda>" (run_10 L)) eN)))))))) (aL 2) (ddBody G "argument"))
   (sQ (sA (mA (eC (mE (L + 1 + 11)) (eC (mA (eC (mE (L + 1 + 0)) eN) cN) (eC (mA (eC (mE (L + 1 + 11)) (eC (mC (.int 2)) (eC (mC (.int 40)) (eC (mC (.int 40)) eN)))) (mkC 549 c_Finder_init)) (eC (mC (.int 9)) (eC (mE (L + 1 + 9)) eN))))) c_least) (aL 3))
   (sR (mAnd (mShown (mA (eC (mE (L + 1 + 3)) eN) c__law_shown) (mA (eC (mE (L + 1 + 1)) eN) c__law_tally)) (mDCmp .Eq (mA (eC (mE (L + 1 + 11)) (eC (mA (eC (mE (L + 1 + 0)) eN) cN) (eC (mLst (eC (mE (L + 1 + 5)) eN)) (eC (mC (.int 9)) (eC (mE (L + 1 + 9)) (eC (mC (.int 1024)) eN)))))) c_learn) (mL 3)))))))))
theorem mAndI {f g:ET} {J:LC} {O:Own} {Q:PV} {E:PE} (h:f J O (fun v O'=>∃ b,v=.bool b/\if b=true then g J O' Q E else Q (.bool false) O') E):mAnd f g J O Q E:=h
theorem shown_cel {l:Addr} {xs:St2} {J:LC} {O:Own} {Q:PV} {E:PE} {a:CAddr} {f g:ET} (hl:O l=some (.list (xs.map prM))) (hA:xs.all okA=true) (hx:xs.length<=10000) (hb:∀ p ∈ xs,0<=p.2/\p.2<=255) (hk:CntAt O a (cntP cnt0 xs)) (hg:∀ O',Ext O O'->Evl g J O' (.ref l)) (hf:Evl f J O (.ref a.c))
   (q:∀ O',Ext O O'->Q (.bool true) O'):mShown (mA (eC f eN) c__law_shown) (mA (eC g eN) c__law_tally) J O Q E:=by
 unfold mShown
 exact me (eO hf (eI (shown_ok hl hA hx hb hk hg q)))
theorem odd_tail {G:GC} {hb tx zs:List Int} {xs ns ps:St2} {l z ln lp:Addr} {L:Addr} {K:Nat->Option MV} {low few u:Int} {a:CAddr} {fa:FAddr} {p px:Addr} {J:LC} {O:Own} {Q:PS} {E:PE} (g:Good hb xs tx zs)
   (o:OT O L K (hb ++ tx) l z ln lp xs ns ps zs a (cntP cnt0 xs) fa p px) (ok:OddK K hb tx l z ln lp low few u) (oc:OddC K (hb ++ tx) l ln lp xs ns ps a (cntP cnt0 xs) fa p px) (hlow:low<=0) (hfew:few < 2) (hu:¬ (1<=u/\u<=1024)) (d1:px ≠ fa.fx) (d2:l ≠ fa.b) (d3:z ≠ fa.b)
   (q:∀ J' O',O' l=some (.list (xs.map prM))->O' z=some (.list (zs.map .int))->Q (.ret (.bool true)) J' O') :
   (sQ (sFor (iT (mLst (eC (mR G 10 598 "_law_odd_right.<locals>.<lambda>" (run_0 L)) (eC (mR G 10 598 "_law_odd_right.<locals>.<lambda>" (run_1 L)) (eC (mR G 10 598 "_law_odd_right.<locals>.<lambda>" (run_2 L)) (eC (mR G 10 598 "_law_odd_right.<locals>.<lambda>" (run_3 L)) (eC (mR G 10 598 "_law_odd_right.<locals>.<lambda>" (run_4 L)) eN))))))) (aL 2) (ddBody G "distance"))
   (sQ (sFor (iT (mLst (eC (mR G 10 598 "_law_odd_right.<locals>.<lambda>" (run_5 L)) (eC (mR G 10 598 "_law_odd_right.<locals>.<lambda>" (run_6 L)) (eC (mR G 10 598 "_law_odd_right.<locals>.<lambda>" (run_7 L)) (eC (mR G 10 598 "_law_odd_right.<locals>.<lambda>" (run_8 L)) (eC (mR G 10 598 "_law_odd_right.<locals>.<lambda>" (run_9 L)) (eC (mR G 10 598 "_law_odd_right.<locals>.<lambda>" (run_10 L)) eN)))))))) (aL 2) (ddBody G "argument"))
   (sQ (sA (mA (eC (mE (L + 1 + 11)) (eC (mA (eC (mE (L + 1 + 0)) eN) cN) (eC (mA (eC (mE (L + 1 + 11)) (eC (mC (.int 2)) (eC (mC (.int 40)) (eC (mC (.int 40)) eN)))) (mkC 549 c_Finder_init)) (eC (mC (.int 9)) (eC (mE (L + 1 + 9)) eN))))) c_least) (aL 3))
   (sR (mAnd (mShown (mA (eC (mE (L + 1 + 3)) eN) c__law_shown) (mA (eC (mE (L + 1 + 1)) eN) c__law_tally)) (mDCmp .Eq (mA (eC (mE (L + 1 + 11)) (eC (mA (eC (mE (L + 1 + 0)) eN) cN) (eC (mLst (eC (mE (L + 1 + 5)) eN)) (eC (mC (.int 9)) (eC (mE (L + 1 + 9)) (eC (mC (.int 1024)) eN)))))) c_learn) (mL 3))))))) J O Q E:=by
 have glen:=g.len
 have hWl:(hb ++ tx).length=hb.length + tx.length:=List.length_append
 have oW:oct? (hb ++ tx):=fun i hi=>(List.mem_append.mp hi).elim (g.oh i) (g.ot i)
 have hunl:=unp_len xs _ _ g.A g.un
 have hxl:=len_sz xs g.A
 refine sE (sForL (mLstI (ec (lamI o.cd fun b0 O₀ h0 x0=>ec (lamI (o.ext x0).cd fun b1 O1 h1 x1=>?_)))))
 have o1:=(o.ext x0).ext x1
 refine ec (lamI o1.cd fun b2 O2 h2 x2=>ec (lamI (o1.ext x2).cd fun b3 O3 h3 x3=>?_))
 have o3:=(o1.ext x2).ext x3
 refine ec (lamI o3.cd fun b4 O4 h4 x4=>eI ⟨yl5,fun r hr=>?_⟩)
 have o5:=(o3.ext x4).ext (Ext.upd (o:=.list [ddM b0,ddM b1,ddM b2,ddM b3,ddM b4]) hr)
 have r5:=uP O4 r (.list [ddM b0,ddM b1,ddM b2,ddM b3,ddM b4])
 generalize upd O4 r (.list [ddM b0,ddM b1,ddM b2,ddM b3,ddM b4])=O5 at o5 r5 ⊢
 refine ⟨r,_,rfl,r5,?_⟩
 refine deeds (X:=52) (.inr ⟨rfl,rfl⟩) r5 [b0,b1,b2,b3,b4] ?_ J O5 _ E (.refl _) fun J1 O6 _ x6=>?_
 . refine List.forall_mem_cons.mpr ⟨⟨_,h0,fun O x=>rz0 (o5.ext x) ok oc g.oh⟩,List.forall_mem_cons.mpr ⟨⟨_,h1,fun O x=>rz1 (o5.ext x) ok oc⟩,List.forall_mem_cons.mpr ⟨⟨_,h2,fun O x=>rz2 (o5.ext x) ok oc⟩,List.forall_mem_cons.mpr ⟨⟨_,h3,fun O x=>rz3 (o5.ext x) ok oc⟩,List.forall_mem_cons.mpr ⟨⟨_,h4,fun O x=>rz4 (o5.ext x) ok oc hlow⟩,fun _ h=>nomatch h⟩⟩⟩⟩⟩
 have o6:=o5.ext x6
 clear o1 o3 o5 r5 hr x6 x4 x3 x2 x1 x0 h0 h1 h2 h3 h4
 refine sE (sForL (mLstI (ec (lamI o6.cd fun b0 O₀ h0 x0=>ec (lamI (o6.ext x0).cd fun b1 O1 h1 x1=>?_)))))
 have o1:=(o6.ext x0).ext x1
 refine ec (lamI o1.cd fun b2 O2 h2 x2=>ec (lamI (o1.ext x2).cd fun b3 O3 h3 x3=>?_))
 have o3:=(o1.ext x2).ext x3
 refine ec (lamI o3.cd fun b4 O4 h4 x4=>ec (lamI (o3.ext x4).cd fun b5 O5 h5 x5=>eI ⟨yl6,fun r hr=>?_⟩))
 have o5:=((o3.ext x4).ext x5).ext (Ext.upd (o:=.list [ddM b0,ddM b1,ddM b2,ddM b3,ddM b4,ddM b5]) hr)
 have r5:=uP O5 r (.list [ddM b0,ddM b1,ddM b2,ddM b3,ddM b4,ddM b5])
 generalize upd O5 r (.list [ddM b0,ddM b1,ddM b2,ddM b3,ddM b4,ddM b5])=O7 at o5 r5 ⊢
 refine ⟨r,_,rfl,r5,?_⟩
 refine deeds (X:=64) (.inl ⟨rfl,rfl⟩) r5 [b0,b1,b2,b3,b4,b5] ?_ J1 O7 _ E (.refl _) fun J2 O8 _ x8=>?_
 . refine List.forall_mem_cons.mpr ⟨⟨_,h0,fun O x=>rz5 (o5.ext x) ok oc hfew⟩,List.forall_mem_cons.mpr ⟨⟨_,h1,fun O x=>rz6 (o5.ext x) ok oc hlow⟩,List.forall_mem_cons.mpr ⟨⟨_,h2,fun O x=>rz7 (o5.ext x) ok oc⟩,List.forall_mem_cons.mpr ⟨⟨_,h3,fun O x=>rz8 (o5.ext x) ok oc⟩,List.forall_mem_cons.mpr ⟨⟨_,h4,fun O x=>rz9 (o5.ext x) ok oc hu⟩,List.forall_mem_cons.mpr ⟨⟨_,h5,fun O x=>rz10 (o5.ext x) ok oc hu⟩,fun _ h=>nomatch h⟩⟩⟩⟩⟩⟩
 have o8:=o5.ext x8
 clear o1 o3 o5 r5 hr x8 x5 x4 x3 x2 x1 x0 h0 h1 h2 h3 h4 h5 o6
 refine sE (sAsgK (me (eO (o8.cel dC ok.k11) (eO (evLen (o8.cel dC ok.k0) (by lia)) (ec (me (eO (o8.cel dC ok.k11) (eO eS (eO eS (eO eS (eI ?_)))))))))))
 refine c_finder (by lia) fun fb O9 f9 x9 n1 n2 n3 n4 n5 n6=>?_
 have o9:=o8.ext x9
 refine eO eS (eO (o9.cel dC oc.k9) (eI ?_))
 have hpx:px ≠ fb.fx:=by
   obtain ⟨m,_,m2,_⟩:=o8.pk
   exact nO m2 n2
 refine c_lst (by lia) (by lia) oW f9 o9.pk hpx fun R O10 hR x10 hRn=>?_
 have X10:Ext O8 O10:=fun y w h=>x10 _ _ (nmC (nO h n2) (nmC (nO h n5) (nmC (nO h n6) nmN))) (x9 _ _ h)
 have o10:=o8.ext X10
 have hRb:fa.b ≠ R:=hRn _ _ (by simp [nO o8.fk.lb n2,nO o8.fk.lb n5,nO o8.fk.lb n6]) o9.fk.lb
 refine aI (sRetK (mAndI ?_))
 refine shown_cel o10.hl g.A (by lia) g.b256 o10.ck (fun O' x=>(o10.ext x).cel dC ok.k1) (o10.cel dC oc.k3) fun O11 x11=>⟨true,rfl,?_⟩
 refine ifT rfl ?_
 have o11:=o10.ext x11
 unfold mDCmp
 refine me (eO (o11.cel dC ok.k11) (eO (evLen (o11.cel dC ok.k0) (by lia)) (ec (mLstI (eO (o11.cel dC oc.k5) (eI ⟨yl1,fun F hF=>?_⟩))))))
 have x12:Ext O11 (upd O11 F (.list [.ref fa.f])):=.upd hF
 have o12:=o11.ext x12
 have F12:=uP O11 F (.list [.ref fa.f])
 have R12:=x12 _ _ (x11 _ _ hR)
 have hFb:F ≠ fa.b:=(nO o11.fk.lb hF).symm
 generalize upd O11 F (.list [.ref fa.f])=O12 at x12 o12 F12 R12 ⊢
 refine eO eS (eO (o12.cel dC oc.k9) (eO eS (eI ?_)))
 refine c_learn1 (by lia) (by lia) oW o12.fk o12.pk d1 F12 hFb dC fun R' O13 hR' x13=>?_
 obtain ⟨m,m1,_⟩:=o12.fk.nf
 have tr:∀ (y:Addr) (w:List MV),y ≠ fa.b->O12 y=some (.list w)->O13 y=some (.list w):=fun y w hy h=>x13 _ _ (by simp [hy,nE h m1 nofun,nE h o12.fk.ld nofun]) h
 refine ⟨_,uL,⟨R',R,rfl,rfl,.inr ⟨_,_,hR',tr R _ hRb.symm R12,.inl ⟨rfl,?_⟩⟩⟩⟩
 rw [decide_eq_true rfl]
 exact q _ O13 (tr l _ d2 o12.hl) (tr z _ d3 o12.hz)
theorem ExtO.cod {S:List Addr} {O O':Own} {a:Addr} {q:CK} (h:ExtO S O O') (n:a ∉ S) (e:O a=some (.code q)):O' a=some (.code q):=h _ _ n nofun e
theorem c_odd {G:GC} {hb tx zs:List Int} {xs:St2} {s l0 l z:Addr} {N:Int} {O:Own} {Q:PV} {E:PE} (g:Good hb xs tx zs) (hx:xs.length<=1000) (hS:Sheet O s l0 N) (hN:N<=1000) (hl:O l=some (.list (xs.map prM))) (hz:O z=some (.list (zs.map .int))) (hls:l ≠ s) (hzs:z ≠ s) (hcd:O 598=some (.code (.tab lamQ)))
   (q:∀ O',O' l=some (.list (xs.map prM))->O' z=some (.list (zs.map .int))->Q (.bool true) O'):c__law_odd_right G [.ref s,.bytes hb,.ref l,.bytes tx,.ref z] O Q E:=by
 refine ⟨rfl,fun L hL=>?_⟩
 simp only [g__law_odd_right,List.append_nil,aCons1,aNil1,aL]
 have x0:=cells_ext L O hL 12
 have os0:OS (cE L 12 O) s l0 L N (fun _=>none):=⟨hS.mono x0,fun i hi=>cells12 L 12 O i hi⟩
 have hcs:(598:Addr) ≠ s:=by
   obtain ⟨_,_,hs,_⟩:=hS
   exact nE hcd hs nofun
 have hl0:=x0 _ _ hl
 have hz0:=x0 _ _ hz
 have hcd0:=x0 _ _ hcd
 generalize cE L 12 O=O₀ at os0 hl0 hz0 hcd0 ⊢
 refine aCelI (os0.ce 0 dC) ?_
 obtain ⟨os1,y1⟩:=os0.set 0 dC (.bytes hb)
 refine aCelI (os1.ce 1 dC) ?_
 obtain ⟨os2,y2⟩:=os1.set 1 dC (.ref l)
 refine aCelI (os2.ce 2 dC) ?_
 obtain ⟨os3,y3⟩:=os2.set 2 dC (.ref z)
 have X3:ExtO [s] O₀ _:=(y1 _).trans ((y2 _).trans (y3 _))
 generalize upd (upd (upd O₀ (L + 1 + 0) (.cell (some (.bytes hb)))) (L + 1 + 1) (.cell (some (.ref l)))) (L + 1 + 2) (.cell (some (.ref z)))=O3 at os3 X3 ⊢
 have hl3:=X3.lst (nmC hls nmN) hl0
 have hz3:=X3.lst (nmC hzs nmN) hz0
 have hcd3:=X3.cod (nmC hcs nmN) hcd0
 have glen:=g.len
 have hWl:(hb ++ tx).length=hb.length + tx.length:=List.length_append
 have hunl:=unp_len xs _ _ g.A g.un
 have hxl:=len_sz xs g.A
 refine (?_:oddHead L (oddRest G L) _ _ _ _)
 refine odd_head os3 hN rfl rfl rfl rfl rfl hl3 hls g.len hx fun O4 l4 N4 K ln lp low few u f p os ok hlow hfew hu hf hf3 hp ln4 lp4 X4=>?_
 have hl4:=X4.lst (nmC hls nmN) hl3
 have hz4:=X4.lst (nmC hzs nmN) hz3
 have hcd4:=X4.cod (nmC hcs nmN) hcd3
 clear os0 os1 os2 os3 y1 y2 y3 X3 X4
 unfold oddRest
 refine sE (sAsgK (mTupI (ec (me (eI ?_)))))
 refine c_new (O:=O4) fun a O5 c5 x5 n0 n1 n2 n3=>?_
 have os5:=os.ext x5
 refine ec (me (eO (os5.cel dC ok.k11) (eO eS (eO eS (eO eS (eI ?_))))))
 refine c_finder (by lia) fun fa O6 f6 x6 m1 m2 m3 m4 m5 m6=>?_
 have os6:=os5.ext x6
 refine ec (me (eO eS (eO eS (eI ?_))))
 refine c_price fun pr px O7 p7 x7 np npx=>?_
 have os7:=os6.ext x7
 refine eI ⟨yl3,aTup3C ?_⟩
 refine aCelI (os7.ce 3 dC) ?_
 obtain ⟨os8,y8⟩:=os7.set 3 dC (.ref a.c)
 refine aCelI (os8.ce 5 dC) ?_
 obtain ⟨os9,y9⟩:=os8.set 5 dC (.ref fa.f)
 refine aCelI (os9.ce 9 dC) ?_
 obtain ⟨os10,y10⟩:=os9.set 9 dC (.ref pr)
 have X10:ExtO [] O7 _:=(y8 _).trans ((y9 _).trans (y10 _))
 generalize upd (upd (upd O7 (L + 1 + 3) (.cell (some (.ref a.c)))) (L + 1 + 5) (.cell (some (.ref fa.f)))) (L + 1 + 9) (.cell (some (.ref pr)))=O10 at os10 X10 ⊢
 have x57:=x5.trans (x6.trans x7)
 have hl10:=X10.lst nmN (x57 _ _ hl4)
 have hz10:=X10.lst nmN (x57 _ _ hz4)
 have ln10:=X10.lst nmN (x57 _ _ ln4)
 have lp10:=X10.lst nmN (x57 _ _ lp4)
 have hcd10:=X10.cod nmN (x57 _ _ hcd4)
 have ck10:=((c5.mono x6).mono x7).o X10
 have fk10:=(f6.mono x7).o X10
 have pk10:=p7.o X10
 have hck:=checkP_ok g.A g.D
 obtain ⟨m,mm,_⟩:=ck10.ns
 have c0l:cnt0.ls.length=0:=rfl
 have c0d:cnt0.ds.length=0:=rfl
 refine sE (sMet1 (os10.cel dC (v:=.ref a.c) rfl) ck10.obj mm (os10.cel dC (v:=.ref l) ok.k1) ?_)
 refine c_add hl10 ck10 (nO hl4 n1) (by lia) (by lia) (fun c hc=>na hck hc) fun O11 _ c11 x11=>⟨rfl,?_⟩
 have XS:ExtS [a.l1,a.d1,a.d2] O10 O11:=fun y w hy h=>by
   simp only [List.mem_cons,List.not_mem_nil,or_false,not_or] at hy
   exact x11 _ _ hy.1 hy.2.1 hy.2.2 h
 have lst:∀ y w,y ≠ a.l1->O10 y=some (.list w)->O11 y=some (.list w):=fun y w hy h=>x11 _ _ hy (nE h ck10.ls nofun) (nE h ck10.ds nofun) h
 obtain ⟨mf,mf1,_⟩:=fk10.nf
 obtain ⟨mr,mr1,_⟩:=fk10.nr
 have fk11:FI O11 fa (hb ++ tx) 0 (fsAt (hb ++ tx) 0):=fk10.frame XS (nmC (nE fk10.of ck10.lits nofun) (nmC (nE fk10.of ck10.ls nofun) (nmC (nE fk10.of ck10.ds nofun) nmN))) (nmC (nE mf1 ck10.lits nofun) (nmC (nE mf1 ck10.ls nofun) (nmC (nE mf1 ck10.ds nofun) nmN))) (nmC (nE fk10.ro ck10.lits nofun) (nmC (nE fk10.ro ck10.ls nofun) (nmC (nE fk10.ro ck10.ds nofun) nmN))) (nmC (nE mr1 ck10.lits nofun) (nmC (nE mr1 ck10.ls nofun) (nmC (nE mr1 ck10.ds nofun) nmN))) (nmC (nE fk10.ld ck10.lits nofun) (nmC ((nO c5.ls m5).symm) (nmC ((nO c5.ds m5).symm) nmN))) (nmC ((nO c5.lits m6).symm) (nmC (nE fk10.lb ck10.ls nofun) (nmC (nE fk10.lb ck10.ds nofun) nmN)))
 have pk11:PrAt O11 pr px:=by
   have hh:=pk10
   obtain ⟨mp,q1,q2,_⟩:=hh
   exact pk10.frame XS (nmC (nE q1 ck10.lits nofun) (nmC (nE q1 ck10.ls nofun) (nmC (nE q1 ck10.ds nofun) nmN))) (nmC (nE q2 ck10.lits nofun) (nmC (nE q2 ck10.ls nofun) (nmC (nE q2 ck10.ds nofun) nmN)))
 have hce:∀ i,i < 12->O11 (L + 1 + i)=some (.cell (upd (upd (upd K 3 (.ref a.c)) 5 (.ref fa.f)) 9 (.ref pr) i)):=fun i hi=>x11 _ _ (nE (os10.ce i hi) ck10.lits nofun) (nE (os10.ce i hi) ck10.ls nofun) (nE (os10.ce i hi) ck10.ds nofun) (os10.ce i hi)
 have cl:=cnt_len xs cnt0
 have hsn:=sz_app xs [(2 + f,low)]
 have hs1:sz [(2 + f,low)]=(2 + f).toNat:=by simp [sz,stSz];lia
 have ln5:=x5 _ _ ln4
 obtain ⟨mf6,mf61,_⟩:=f6.nf
 refine odd_tail (K:=upd (upd (upd K 3 (.ref a.c)) 5 (.ref fa.f)) 9 (.ref pr)) g ⟨hce,lst _ _ (nO hl4 n1) hl10,lst _ _ (nO hz4 n1) hz10,lst _ _ (nO ln4 n1) ln10,lst _ _ (nO lp4 n1) lp10,c11,fk11,pk11,x11 _ _ (nE hcd10 ck10.lits nofun) (nE hcd10 ck10.ls nofun) (nE hcd10 ck10.ds nofun) hcd10⟩ ⟨ok.k0,ok.k1,ok.k2,ok.k4,ok.k6,ok.k7,ok.k8,ok.k10,ok.k11⟩ ⟨rfl,rfl,rfl,nO ln4 n1,nO lp4 n1,near_ck g.A hf hlow,spoilt_ck hp,by rw [List.length_append,List.length_singleton];exact Nat.succ_le_of_lt (le_lt hx),by rw [List.length_append,List.length_singleton];exact Nat.succ_le_of_lt (le_lt hx),by rw [hsn,hs1,hWl];rw [hWl] at hunl;lia,by lia,by lia⟩ hlow hfew hu (nO mf61 npx).symm (nO (x5 _ _ hl4) m6) (nO (x5 _ _ hz4) m6) fun J' O' h1 h2=>q O' h1 h2
theorem mCompLI {f:ET} {k:Nat} {a:Addr->AT} {t:Addr->Mn.BT} {e:Addr->ET} {J:LC} {O:Own} {Q:PV} {E:PE} (h:f J O (fun v O'=>∃ l xs,v=.ref l/\O' l=some (.list xs)/\(yL xs.length/\∀ D C:Addr,O' D=none->D < C->(∀ b,C<=b->O' b=none)->compL (a C) (t C) (e C) (fun O=>O l=some (.list xs)) D xs [] (fun _=>none) (cE C k (upd O' D (.list []))) fun acc O2=>O2 D=some (.list acc)/\Q (.ref D) O2)) E):mComp (iT f) k a t e J O Q E:=h
theorem bOrN {f:ET} {g:Mn.BT} {J:LC} {O:Own} {Q:Bool->Own->Prop} {E:PE} (h:f J O (fun v O'=>∃ b,v=.bool b/\if (!b)=true then Q true O' else g J O' Q E) E):bOr (bNot (bVal f)) g J O Q E:=h
theorem bNV {f:ET} {J:LC} {O:Own} {Q:Bool->Own->Prop} {E:PE} (h:f J O (fun v O'=>∃ b,v=.bool b/\Q (!b) O') E):bNot (bVal f) J O Q E:=h
theorem evAbsMod {J:LC} {O:Own} {i:Int} (h:J 0=some (.int i)):Evl (mB .Mod (mA (eC (mL 0) eN) cAbs) (mB .Pow (mC (.int 10)) (mC (.int 30)))) J O (.int ((i.natAbs:Int) % (10 ^ 30))):=fun Q E q=>⟨_,h,i,rfl,rfl,rfl,by decide,q⟩
theorem evLenZ {f:ET} {J:LC} {O:Own} {xs:List Int} (hf:Evl f J O (.ilist xs)) (hy:xs.length<=1000000):Evl (mA (eC f eN) cN) J O (.int (xs.length:Int)):=fun Q E q=>hf _ _ ⟨_,_,rfl,rfl,hy,q⟩
theorem cutM_len {α:Type} (xs:List α) (lo hi:Option Int):(cutM xs lo hi).length<=xs.length:=by
 unfold cutM
 rw [List.length_take,List.length_drop];lia
theorem law_ok (G:GC) (xs:List Int) (O:Own) (hx:xs.length<=63) (hcd:O 598=some (.code (.tab lamQ))):c_law G [.ilist xs] O (fun v _=>v=.bool true) fun _ _=>False:=by
 refine ⟨rfl,ent1 rfl fun L _=>?_⟩
 generalize hρ:upd (fun _=>none) 0 (MV.ilist xs)=J
 have e0:J 0=some (.ilist xs):=(congrFun hρ _).symm
 unfold f_law
 refine sE (sAsgK (mLstI (ec (mCompLI ?_))))
 refine ⟨_,e0,20,rfl,by unfold yL;exact lE hx,fun r hr=>?_⟩
 have hcl:=cutM_len xs none (some 20)
 have x1:Ext O (upd O r (.list ((cutM xs none (some 20)).map .int))):=.upd hr
 have r1:=uP O r (.list ((cutM xs none (some 20)).map MV.int))
 generalize cutM xs none (some 20)=cs at x1 r1 hcl ⊢
 generalize upd O r (.list (cs.map MV.int))=O1 at x1 r1 ⊢
 refine ⟨r,_,rfl,r1,by unfold yL;rw [List.length_map];exact Nat.le_trans hcl (lE hx),fun D C hD _ _=>?_⟩
 refine comp_loc (em:=MV.int) (tf:=fun _=>true) (ef:=fun i=>.int ((i.natAbs:Int) % (10 ^ 30))) (fun acc=>(Ext.upd hD) _ _ r1) cs (fun _ _ _ _ _=>bTrueT) (fun i _ _ J acc e=>evAbsMod e) [] _ _ ?_
 rw [filter_tt,List.nil_append]
 have eM:(cs.map fun i=>MV.int ((i.natAbs:Int) % (10 ^ 30)))=(cs.map fun i=>(i.natAbs:Int) % (10 ^ 30)).map MV.int:=by rw [List.map_map];rfl
 rw [eM]
 have hnn:∀ x ∈ cs.map (fun i:Int=>(i.natAbs:Int) % (10 ^ 30)),0<=x:=fun x hx=>by
   obtain ⟨i,_,rfl⟩:=List.mem_map.mp hx
   exact Int.emod_nonneg _ dC
 have hlen:(cs.map (fun i:Int=>(i.natAbs:Int) % (10 ^ 30))).length<=64:=by rw [List.length_map];exact Nat.le_trans hcl (lE hx)
 generalize cs.map (fun i:Int=>(i.natAbs:Int) % (10 ^ 30))=ds at hnn hlen ⊢
 have x2:Ext O1 (upd O1 D (.list (ds.map .int))):=.upd hD
 have d2:=uP O1 D (.list (ds.map MV.int))
 refine ⟨d2,?_⟩
 generalize upd O1 D (.list (ds.map MV.int))=O2 at x2 d2 ⊢
 refine eO eS (eI ⟨yl2,fun s hs=>aI ?_⟩)
 have x3:Ext O2 (upd O2 s (.list [.ref D,.int 0])):=.upd hs
 have sh3:Sheet (upd O2 s (.list [.ref D,.int 0])) s D 0:=⟨ds,0,uP _ _ _,x3 _ _ d2,nO d2 hs,hnn,hlen,by decide,by decide⟩
 have hcd3:=x3 _ _ (x2 _ _ (x1 _ _ hcd))
 have X3:=x1.trans (x2.trans x3)
 generalize upd O2 s (.list [.ref D,.int 0])=O3 at x3 sh3 hcd3 X3 ⊢
 have hcs:(598:Addr) ≠ s:=by
   obtain ⟨_,_,hs',_⟩:=sh3
   exact nE hcd3 hs' nofun
 generalize hρ1:upd J 1 (.ref s)=J1
 have f0:J1 0=some (.ilist xs):=(congrFun hρ1 _).symm.trans e0
 have f1:J1 1=some (.ref s):=(congrFun hρ1 _).symm
 have em:∃ most:Int,1<=most/\most<=7/\Evl (mIte (bC .Gt (mA (eC (mL 0) eN) cN) (mC (.int 1))) (mC (.int 7)) (mC (.int 3))) J1 O3 (.int most):=by
   have t:=tGt (O:=O3) (evLenZ (eV f0) (lE hx)) (eS (v:=.int 1))
   by_cases h1:(xs.length:Int) > 1
   . exact⟨7,by decide,by decide,evIteT (t.to (decide_eq_true h1)) eS⟩
   . exact⟨3,by decide,by decide,evIteF (t.to (decide_eq_false h1)) eS⟩
 obtain ⟨most,m1,m2,em⟩:=em
 refine sE (sAsgK (me (eO (eV f1) (eO em (eI ?_)))))
 refine c_lsteps sh3 dC m1 m2 fun hb tx st S O4 l4 N4 g4 hb3 h200 st200 hS3 s4 sh4 hN4 x4=>?_
 refine aTup3L ?_
 generalize hρ2:upd (upd (upd J1 2 (.bytes hb)) 3 (.ref S)) 4 (.bytes tx)=J2
 have g1:J2 1=some (.ref s):=(congrFun hρ2 _).symm.trans f1
 have g2:J2 2=some (.bytes hb):=(congrFun hρ2 _).symm
 have g3:J2 3=some (.ref S):=(congrFun hρ2 _).symm
 have g4':J2 4=some (.bytes tx):=(congrFun hρ2 _).symm
 have hl:=h200
 rw [List.length_append] at hl
 have hcd4:=x4 _ _ hcs hcd3
 have hSs:S ≠ s:=by
   obtain ⟨_,_,hs',_⟩:=sh3
   exact (nO hs' hS3).symm
 refine sE (sAsgK ?_)
 refine figI (eV g1) (evAdd (evLen (eV g4') (by lia)) eS) sh4 (iup hN4) (Int.lt_add_one_of_le (Int.natCast_nonneg _)) (by lia) fun v O5 l5 v0 v1 sh5 _ x5=>aI ?_
 have s5:=x5 _ _ hSs s4
 have hcd5:=x5 _ _ hcs hcd4
 generalize hρ3:upd J2 5 (.int v)=J3
 have h1:J3 1=some (.ref s):=(congrFun hρ3 _).symm.trans g1
 have h2:J3 2=some (.bytes hb):=(congrFun hρ3 _).symm.trans g2
 have h3:J3 3=some (.ref S):=(congrFun hρ3 _).symm.trans g3
 have h4:J3 4=some (.bytes tx):=(congrFun hρ3 _).symm.trans g4'
 have h5:J3 5=some (.int v):=(congrFun hρ3 _).symm
 refine sE (sAsgK (mLstI (eO (eV h5) (eO eS (eO (evSub (evLen (eV h4) (by lia)) (eV h5)) (eI ⟨yl3,fun z hz=>aI ?_⟩))))))
 have x6:Ext O5 (upd O5 z (.list [.int v,.int 0,.int ((tx.length:Int) - v)])):=.upd hz
 have z6:upd O5 z (.list [.int v,.int 0,.int ((tx.length:Int) - v)]) z=some (.list (([v,0,(tx.length:Int) - v]:List Int).map .int)):=uP _ _ _
 have sh6:=sh5.mono x6
 have hzs:z ≠ s:=by
   obtain ⟨_,_,hs',_⟩:=sh5
   exact (nO hs' hz).symm
 have s6:=x6 _ _ s5
 have hcd6:=x6 _ _ hcd5
 generalize upd O5 z (.list [.int v,.int 0,.int ((tx.length:Int) - v)])=O6 at x6 z6 sh6 s6 hcd6 ⊢
 generalize hρ4:upd J3 6 (.ref z)=J4
 have k1:J4 1=some (.ref s):=(congrFun hρ4 _).symm.trans h1
 have k2:J4 2=some (.bytes hb):=(congrFun hρ4 _).symm.trans h2
 have k3:J4 3=some (.ref S):=(congrFun hρ4 _).symm.trans h3
 have k4:J4 4=some (.bytes tx):=(congrFun hρ4 _).symm.trans h4
 have k6:J4 6=some (.ref z):=(congrFun hρ4 _).symm
 have good:Good hb st tx [v,0,(tx.length:Int) - v]:=⟨fun i hi=>g4.o i (List.mem_append_left _ hi),fun i hi=>g4.o i (List.mem_append_right _ hi),g4.A,g4.D,g4.un,fun w hw=>by
   simp only [List.mem_cons,List.not_mem_nil,or_false] at hw
   rcases hw with rfl | rfl | rfl
   . exact v0
   . exact dC
   . exact Int.sub_nonneg_of_le (Int.le_of_lt_add_one v1),by simp;lia,by simp,(lE hl),g4.b256⟩
 refine sE (sIfK (bOrN (me (eO (eV k2) (eO (eV k3) (eO (eV k4) (eO (eV k6) (eI ?_))))))))
 refine c_right good s6 z6 fun O7 x7=>⟨true,rfl,?_⟩
 refine ifF dC ?_
 refine bNV (me (eO (eV k1) (eO (eV k2) (eO (eV k3) (eO (eV k4) (eO (eV k6) (eI ?_)))))))
 refine c_odd good (lE st200) (sh6.mono x7) (Int.add_one_le_of_lt (illt hN4)) (x7 _ _ s6) (x7 _ _ z6) hSs hzs (x7 _ _ hcd6) fun O8 s8 z8=>⟨true,rfl,?_⟩
 refine ifF dC ?_
 refine si (sRetK (me (eO (eV k2) (eO (eV k3) (eO (eV k4) (eO (eV k6) (eI ?_)))))))
 exact c_right good s8 z8 fun O9 _=>rfl
end Law
end
theorem PySem.Challenge.cw_pq1221_01_holds : PySem.Challenge.rw_pq1221_01.Holds :=
  Law.join fun G xs h => Law.law_ok G xs Law.O0 h (if_pos rfl)
