import PyProof.Rows.All
import Wide.All
import OpenK.AllK
import Wide.FinOn
import Lean
import PySem.Challenge.RW_pq0067_01
set_option maxRecDepth 100000
set_option maxHeartbeats 8000000
set_option linter.all false
set_option Elab.async false
set_option compiler.extract_closed false
set_option tactic.hygienic false
namespace Mine
open PySem PySem.W PySem.Calls PyProof.Rows
open Str (ofString)
theorem nbl {n m:Nat} (h:Nat.ble n m=true):n≤m:=Nat.le_of_ble_eq_true h
theorem e0a2 {p q:Prop} (h:p∧q) {G:Prop} (k:p→q→G):G:=k h.1 h.2
theorem e0a3 {p q r:Prop} (h:p∧q∧r) {G:Prop} (k:p→q→r→G):G:=k h.1 h.2.1 h.2.2
theorem e0a4 {p q r s:Prop} (h:p∧q∧r∧s) {G:Prop} (k:p→q→r→s→G):G:=k h.1 h.2.1 h.2.2.1 h.2.2.2
theorem e0a5 {p q r s t:Prop} (h:p∧q∧r∧s∧t) {G:Prop} (k:p→q→r→s→t→G):G:=k h.1 h.2.1 h.2.2.1 h.2.2.2.1 h.2.2.2.2
theorem e1a1 {α:Sort _} {p:α→Prop} (h:∃ a,p a) {G:Prop} (k:∀ a,p a→G):G:=h.elim fun a h=>k a h
theorem e1a2 {α:Sort _} {p q:α→Prop} (h:∃ a,p a∧q a) {G:Prop} (k:∀ a,p a→q a→G):G:=h.elim fun a h=>k a h.1 h.2
theorem e1a2l {α:Sort _} {τ:Sort _} {p:α→Prop} {f:α→τ} {x:τ} (h:∃ a,p a∧x=f a) {G:τ→Prop} (k:∀ a,p a→G (f a)):G x:=h.elim fun a h=>h.2.symm▸k a h.1
theorem e1a2r {α:Sort _} {τ:Sort _} {p:α→Prop} {f:α→τ} {x:τ} (h:∃ a,p a∧f a=x) {G:τ→Prop} (k:∀ a,p a→G (f a)):G x:=h.elim fun a h=>h.2▸k a h.1
theorem e1a3 {α:Sort _} {p q r:α→Prop} (h:∃ a,p a∧q a∧r a) {G:Prop} (k:∀ a,p a→q a→r a→G):G:=h.elim fun a h=>k a h.1 h.2.1 h.2.2
theorem e1a4 {α:Sort _} {p q r s:α→Prop} (h:∃ a,p a∧q a∧r a∧s a) {G:Prop} (k:∀ a,p a→q a→r a→s a→G):G:=h.elim fun a h=>k a h.1 h.2.1 h.2.2.1 h.2.2.2
theorem e1a5 {α:Sort _} {p q r s t:α→Prop} (h:∃ a,p a∧q a∧r a∧s a∧t a) {G:Prop} (k:∀ a,p a→q a→r a→s a→t a→G):G:=h.elim fun a h=>k a h.1 h.2.1 h.2.2.1 h.2.2.2.1 h.2.2.2.2
theorem e2a1 {α:Sort _} {β:Sort _} {p:α→β→Prop} (h:∃ a b,p a b) {G:Prop} (k:∀ a b,p a b→G):G:=h.elim fun a h=>h.elim fun b h=>k a b h
theorem e2a2 {α:Sort _} {β:Sort _} {p q:α→β→Prop} (h:∃ a b,p a b∧q a b) {G:Prop} (k:∀ a b,p a b→q a b→G):G:=h.elim fun a h=>h.elim fun b h=>k a b h.1 h.2
theorem e2a3 {α:Sort _} {β:Sort _} {p q r:α→β→Prop} (h:∃ a b,p a b∧q a b∧r a b) {G:Prop} (k:∀ a b,p a b→q a b→r a b→G):G:=h.elim fun a h=>h.elim fun b h=>k a b h.1 h.2.1 h.2.2
theorem e2a3fl {α:Sort _} {β:Sort _} {τ:Sort _} {q r:α→β→Prop} {f:α→β→τ} {x:τ} (h:∃ a b,x=f a b∧q a b∧r a b) {G:τ→Prop} (k:∀ a b,q a b→r a b→G (f a b)):G x:=h.elim fun a h=>h.elim fun b h=>h.1.symm▸k a b h.2.1 h.2.2
theorem e2a4 {α:Sort _} {β:Sort _} {p q r s:α→β→Prop} (h:∃ a b,p a b∧q a b∧r a b∧s a b) {G:Prop} (k:∀ a b,p a b→q a b→r a b→s a b→G):G:=h.elim fun a h=>h.elim fun b h=>k a b h.1 h.2.1 h.2.2.1 h.2.2.2
theorem e2a5 {α:Sort _} {β:Sort _} {p q r s t:α→β→Prop} (h:∃ a b,p a b∧q a b∧r a b∧s a b∧t a b) {G:Prop} (k:∀ a b,p a b→q a b→r a b→s a b→t a b→G):G:=h.elim fun a h=>h.elim fun b h=>k a b h.1 h.2.1 h.2.2.1 h.2.2.2.1 h.2.2.2.2
theorem e2a7 {α:Sort _} {β:Sort _} {p q r s t u v:α→β→Prop} (h:∃ a b,p a b∧q a b∧r a b∧s a b∧t a b∧u a b∧v a b) {G:Prop} (k:∀ a b,p a b→q a b→r a b→s a b→t a b→u a b→v a b→G):G:=h.elim fun a h=>h.elim fun b h=>k a b h.1 h.2.1 h.2.2.1 h.2.2.2.1 h.2.2.2.2.1 h.2.2.2.2.2.1 h.2.2.2.2.2.2
theorem e3a1 {α:Sort _} {β:Sort _} {γ:Sort _} {p:α→β→γ→Prop} (h:∃ a b c,p a b c) {G:Prop} (k:∀ a b c,p a b c→G):G:=h.elim fun a h=>h.elim fun b h=>h.elim fun c h=>k a b c h
theorem e3a2 {α:Sort _} {β:Sort _} {γ:Sort _} {p q:α→β→γ→Prop} (h:∃ a b c,p a b c∧q a b c) {G:Prop} (k:∀ a b c,p a b c→q a b c→G):G:=h.elim fun a h=>h.elim fun b h=>h.elim fun c h=>k a b c h.1 h.2
theorem e3a3 {α:Sort _} {β:Sort _} {γ:Sort _} {p q r:α→β→γ→Prop} (h:∃ a b c,p a b c∧q a b c∧r a b c) {G:Prop} (k:∀ a b c,p a b c→q a b c→r a b c→G):G:=h.elim fun a h=>h.elim fun b h=>h.elim fun c h=>k a b c h.1 h.2.1 h.2.2
theorem e3a3fl {α:Sort _} {β:Sort _} {γ:Sort _} {τ:Sort _} {q r:α→β→γ→Prop} {f:α→β→γ→τ} {x:τ} (h:∃ a b c,x=f a b c∧q a b c∧r a b c) {G:τ→Prop} (k:∀ a b c,q a b c→r a b c→G (f a b c)):G x:=h.elim fun a h=>h.elim fun b h=>h.elim fun c h=>h.1.symm▸k a b c h.2.1 h.2.2
theorem e3a4 {α:Sort _} {β:Sort _} {γ:Sort _} {p q r s:α→β→γ→Prop} (h:∃ a b c,p a b c∧q a b c∧r a b c∧s a b c) {G:Prop} (k:∀ a b c,p a b c→q a b c→r a b c→s a b c→G):G:=h.elim fun a h=>h.elim fun b h=>h.elim fun c h=>k a b c h.1 h.2.1 h.2.2.1 h.2.2.2
theorem e3a5 {α:Sort _} {β:Sort _} {γ:Sort _} {p q r s t:α→β→γ→Prop} (h:∃ a b c,p a b c∧q a b c∧r a b c∧s a b c∧t a b c) {G:Prop} (k:∀ a b c,p a b c→q a b c→r a b c→s a b c→t a b c→G):G:=h.elim fun a h=>h.elim fun b h=>h.elim fun c h=>k a b c h.1 h.2.1 h.2.2.1 h.2.2.2.1 h.2.2.2.2
theorem e3a6 {α:Sort _} {β:Sort _} {γ:Sort _} {p q r s t u:α→β→γ→Prop} (h:∃ a b c,p a b c∧q a b c∧r a b c∧s a b c∧t a b c∧u a b c) {G:Prop} (k:∀ a b c,p a b c→q a b c→r a b c→s a b c→t a b c→u a b c→G):G:=h.elim fun a h=>h.elim fun b h=>h.elim fun c h=>k a b c h.1 h.2.1 h.2.2.1 h.2.2.2.1 h.2.2.2.2.1 h.2.2.2.2.2
theorem e4a4 {α:Sort _} {β:Sort _} {γ:Sort _} {δ:Sort _} {p q r s:α→β→γ→δ→Prop} (h:∃ a b c d,p a b c d∧q a b c d∧r a b c d∧s a b c d) {G:Prop} (k:∀ a b c d,p a b c d→q a b c d→r a b c d→s a b c d→G):G:=h.elim fun a h=>h.elim fun b h=>h.elim fun c h=>h.elim fun d h=>k a b c d h.1 h.2.1 h.2.2.1 h.2.2.2
theorem e4a5 {α:Sort _} {β:Sort _} {γ:Sort _} {δ:Sort _} {p q r s t:α→β→γ→δ→Prop} (h:∃ a b c d,p a b c d∧q a b c d∧r a b c d∧s a b c d∧t a b c d) {G:Prop} (k:∀ a b c d,p a b c d→q a b c d→r a b c d→s a b c d→t a b c d→G):G:=h.elim fun a h=>h.elim fun b h=>h.elim fun c h=>h.elim fun d h=>k a b c d h.1 h.2.1 h.2.2.1 h.2.2.2.1 h.2.2.2.2
theorem e4a6 {α:Sort _} {β:Sort _} {γ:Sort _} {δ:Sort _} {p q r s t u:α→β→γ→δ→Prop} (h:∃ a b c d,p a b c d∧q a b c d∧r a b c d∧s a b c d∧t a b c d∧u a b c d) {G:Prop} (k:∀ a b c d,p a b c d→q a b c d→r a b c d→s a b c d→t a b c d→u a b c d→G):G:=h.elim fun a h=>h.elim fun b h=>h.elim fun c h=>h.elim fun d h=>k a b c d h.1 h.2.1 h.2.2.1 h.2.2.2.1 h.2.2.2.2.1 h.2.2.2.2.2
theorem i0a3 {p q r:Prop} (hp:p) (hq:q) (hr:r):p∧q∧r:=⟨hp,hq,hr⟩
theorem i0a4 {p q r s:Prop} (hp:p) (hq:q) (hr:r) (hs:s):p∧q∧r∧s:=⟨hp,hq,hr,hs⟩
theorem i0a5 {p q r s t:Prop} (hp:p) (hq:q) (hr:r) (hs:s) (ht:t):p∧q∧r∧s∧t:=⟨hp,hq,hr,hs,ht⟩
theorem i1a1 {α:Sort _} {p:α→Prop} (a:α) (hp:p a):∃ a,p a:=⟨a,hp⟩
theorem i1a2 {α:Sort _} {p q:α→Prop} (a:α) (hp:p a) (hq:q a):∃ a,p a∧q a:=⟨a,hp,hq⟩
theorem i1a3 {α:Sort _} {p q r:α→Prop} (a:α) (hp:p a) (hq:q a) (hr:r a):∃ a,p a∧q a∧r a:=⟨a,hp,hq,hr⟩
theorem i1a4 {α:Sort _} {p q r s:α→Prop} (a:α) (hp:p a) (hq:q a) (hr:r a) (hs:s a):∃ a,p a∧q a∧r a∧s a:=⟨a,hp,hq,hr,hs⟩
theorem i1a5 {α:Sort _} {p q r s t:α→Prop} (a:α) (hp:p a) (hq:q a) (hr:r a) (hs:s a) (ht:t a):∃ a,p a∧q a∧r a∧s a∧t a:=⟨a,hp,hq,hr,hs,ht⟩
theorem i2a1 {α:Sort _} {β:Sort _} {p:α→β→Prop} (a:α) (b:β) (hp:p a b):∃ a b,p a b:=⟨a,b,hp⟩
theorem i2a2 {α:Sort _} {β:Sort _} {p q:α→β→Prop} (a:α) (b:β) (hp:p a b) (hq:q a b):∃ a b,p a b∧q a b:=⟨a,b,hp,hq⟩
theorem i2a3 {α:Sort _} {β:Sort _} {p q r:α→β→Prop} (a:α) (b:β) (hp:p a b) (hq:q a b) (hr:r a b):∃ a b,p a b∧q a b∧r a b:=⟨a,b,hp,hq,hr⟩
theorem i2a4 {α:Sort _} {β:Sort _} {p q r s:α→β→Prop} (a:α) (b:β) (hp:p a b) (hq:q a b) (hr:r a b) (hs:s a b):∃ a b,p a b∧q a b∧r a b∧s a b:=⟨a,b,hp,hq,hr,hs⟩
theorem i2a5 {α:Sort _} {β:Sort _} {p q r s t:α→β→Prop} (a:α) (b:β) (hp:p a b) (hq:q a b) (hr:r a b) (hs:s a b) (ht:t a b):∃ a b,p a b∧q a b∧r a b∧s a b∧t a b:=⟨a,b,hp,hq,hr,hs,ht⟩
theorem i3a1 {α:Sort _} {β:Sort _} {γ:Sort _} {p:α→β→γ→Prop} (a:α) (b:β) (c:γ) (hp:p a b c):∃ a b c,p a b c:=⟨a,b,c,hp⟩
theorem i3a2 {α:Sort _} {β:Sort _} {γ:Sort _} {p q:α→β→γ→Prop} (a:α) (b:β) (c:γ) (hp:p a b c) (hq:q a b c):∃ a b c,p a b c∧q a b c:=⟨a,b,c,hp,hq⟩
theorem i3a3 {α:Sort _} {β:Sort _} {γ:Sort _} {p q r:α→β→γ→Prop} (a:α) (b:β) (c:γ) (hp:p a b c) (hq:q a b c) (hr:r a b c):∃ a b c,p a b c∧q a b c∧r a b c:=⟨a,b,c,hp,hq,hr⟩
theorem i3a4 {α:Sort _} {β:Sort _} {γ:Sort _} {p q r s:α→β→γ→Prop} (a:α) (b:β) (c:γ) (hp:p a b c) (hq:q a b c) (hr:r a b c) (hs:s a b c):∃ a b c,p a b c∧q a b c∧r a b c∧s a b c:=⟨a,b,c,hp,hq,hr,hs⟩
theorem i3a5 {α:Sort _} {β:Sort _} {γ:Sort _} {p q r s t:α→β→γ→Prop} (a:α) (b:β) (c:γ) (hp:p a b c) (hq:q a b c) (hr:r a b c) (hs:s a b c) (ht:t a b c):∃ a b c,p a b c∧q a b c∧r a b c∧s a b c∧t a b c:=⟨a,b,c,hp,hq,hr,hs,ht⟩
theorem i3a6 {α:Sort _} {β:Sort _} {γ:Sort _} {p q r s t u:α→β→γ→Prop} (a:α) (b:β) (c:γ) (hp:p a b c) (hq:q a b c) (hr:r a b c) (hs:s a b c) (ht:t a b c) (hu:u a b c):∃ a b c,p a b c∧q a b c∧r a b c∧s a b c∧t a b c∧u a b c:=⟨a,b,c,hp,hq,hr,hs,ht,hu⟩
theorem i4a4 {α:Sort _} {β:Sort _} {γ:Sort _} {δ:Sort _} {p q r s:α→β→γ→δ→Prop} (a:α) (b:β) (c:γ) (d:δ) (hp:p a b c d) (hq:q a b c d) (hr:r a b c d) (hs:s a b c d):∃ a b c d,p a b c d∧q a b c d∧r a b c d∧s a b c d:=⟨a,b,c,d,hp,hq,hr,hs⟩
theorem i4a5 {α:Sort _} {β:Sort _} {γ:Sort _} {δ:Sort _} {p q r s t:α→β→γ→δ→Prop} (a:α) (b:β) (c:γ) (d:δ) (hp:p a b c d) (hq:q a b c d) (hr:r a b c d) (hs:s a b c d) (ht:t a b c d):∃ a b c d,p a b c d∧q a b c d∧r a b c d∧s a b c d∧t a b c d:=⟨a,b,c,d,hp,hq,hr,hs,ht⟩
theorem z_ns {α:Type _} {x:α} {P:Prop} (h:none=some x):P:=nomatch h
theorem z_sn {α:Type _} {x:α} {P:Prop} (h:some x=none):P:=nomatch h
theorem z_ft {P:Prop} (h:false=true):P:=nomatch h
theorem z_tf {P:Prop} (h:true=false):P:=nomatch h
theorem z_sl {α:Type _} {x y:α} (h:some x=some y) {G:α→Prop} (k:G x):G y:=Option.some.inj h▸k
theorem z_el {α:Sort _} {x y:α} (h:x=y) {G:α→Prop} (k:G x):G y:=h▸k
theorem z_er {α:Sort _} {x y:α} (h:x=y) {G:α→Prop} (k:G y):G x:=h.symm▸k
theorem z_m0 {α:Type _} {a:α} {l:List α}:a∈a::l:=.head _
theorem z_m1 {α:Type _} {a b:α} {l:List α}:a∈b::a::l:=.tail _ (.head _)
theorem z_m2 {α:Type _} {a b c:α} {l:List α}:a∈b::c::a::l:=.tail _ (.tail _ (.head _))
theorem z_m3 {α:Type _} {a b c d:α} {l:List α}:a∈b::c::d::a::l:=.tail _ (.tail _ (.tail _ (.head _)))
theorem z_m4 {α:Type _} {a b c d e:α} {l:List α}:a∈b::c::d::e::a::l:=.tail _ (.tail _ (.tail _ (.tail _ (.head _))))
theorem y71 {v n:Nat} (hv:v < 2 ^ n):1+v < 2 ^ (n+1):=by rw [Nat.pow_succ];omega
theorem y72 {l r:Nat} (h:l < r):l≤(l+r) / 2:=by omega
theorem y73 {l r:Nat} (h:l < r):(l+r) / 2 < r:=by omega
theorem y74 {x y:Nat}:min x y≤max x y:=Nat.le_trans (Nat.min_le_left x y) (Nat.le_max_left x y)
theorem y75 {n:Nat} (h:0 < n):n - 1 < n:=Nat.sub_lt h Nat.one_pos
theorem y76 {v m:Nat} (h:v≤m):1+v≤m+1:=by omega
theorem y77 {v w m:Nat} (h:v≤m) (h2:w≤m):1+max v w≤m+1:=by omega
theorem y78 {j k:Nat} (h:j≤k+1) (e:¬ j=k+1):j≤k:=Nat.le_of_lt_succ (Nat.lt_of_le_of_ne h e)
theorem y79 {x y:Nat} (h:x≤y) (e:¬ x=y):x+1≤y:=Nat.lt_of_le_of_ne h e
theorem y80 {m k:Nat} (h:k < m):∃ n,m=n+1:=⟨m - 1,(Nat.sub_add_cancel (Nat.zero_lt_of_lt h)).symm⟩
theorem y81 {x y a b:Nat} (hx:x=min a b) (hy:y=max a b):(x=a∧y=b)∨(x=b∧y=a):=(Nat.le_total a b).elim (fun c=>.inl ⟨hx.trans (Nat.min_eq_left c),hy.trans (Nat.max_eq_right c)⟩) fun c=>.inr ⟨hx.trans (Nat.min_eq_right c),hy.trans (Nat.max_eq_left c)⟩
theorem y82 {K W E r q L:Nat} (h1:q+1=r) (h2:K+W+25 * r≤26 * L) (h3:E≤24):K+(W+E)+25 * q≤26 * L:=by omega
theorem y83 {a m j:Nat} (h:a=m+1) (h2:j≤m):j < a:=h▸Nat.lt_succ_of_le h2
theorem y84 {a m:Nat} (h:a=m+1):(a:Int) - 1=(m:Nat):=by omega
theorem y85 {m:Nat} (h:1≤m):(m:Int)=1+((m - 1:Nat):Int):=by omega
theorem y86 {m:Nat} (h:m≤4000):1+(m - 1)≤4100:=by omega
theorem y87 {a b:Nat}:max a b=a∨max a b=b:=(Nat.le_total a b).elim (fun h=>.inr (Nat.max_eq_right h)) fun h=>.inl (Nat.max_eq_left h)
theorem y88 {a b:Nat}:min a b=a∨min a b=b:=(Nat.le_total a b).elim (fun h=>.inl (Nat.min_eq_left h)) fun h=>.inr (Nat.min_eq_right h)
theorem y89 {v x:Nat} (h:v+1=x):((-1:Int)+(x:Int)).toNat=v:=by omega
theorem y01 {a b:Nat} (h:a≠b):min a b < max a b:=by omega
theorem y02 {x y a b:Nat} (h:a≠b) (hx:x=min a b) (hy:y=max a b):x < y:=by omega
theorem y03 {x y a b:Nat} (hx:x=min a b) (hy:y=max a b) (h:¬ a=b):¬ x=y:=by omega
theorem y04 {x a b n:Nat} (hx:x=min a b) (h:a < n):x < n:=by omega
theorem y05 {y a b n:Nat} (hy:y=max a b) (h1:a < n) (h2:b < n):y < n:=by omega
theorem y06 {i k L:Nat} (h:i+k=L+1) (h2:i≤L):k - 1 < k∧i+1+(k - 1)=L+1:=by omega
theorem y07 {L m i:Nat} (h:L - i=m+1):i < L:=by omega
theorem y08 {L m i:Nat} (h:L - i=m+1):L - (i+1)=m:=by omega
theorem y09 {i L:Nat} (h:¬ i < L) (h2:¬ i=L):¬ i - L=0:=by omega
theorem y10 {i L:Nat} (h:¬ i < L) (h2:¬ i=L):1≤i - L:=by omega
theorem y11 {a b i:Nat} (e:a=b) (h:¬ i < a) (h2:i - a=0):i=b:=by omega
theorem y12 {m j:Nat} (h1:1≤j) (h2:j < m):j - 1 < m - 1:=by omega
theorem y13 {v x:Nat} (h:v+(0+1)=x):x - 1 < x:=by omega
theorem y14 {v x:Nat} (h:v+(0+1)=x):x - 1+1=x:=by omega
theorem y15 {m:Nat} (h:m≤4000):4001 - (m+1) < 4001 - m:=by omega
theorem y16 {lo hi f:Nat} (h:hi - lo≤f+1) (h2:lo < hi):(lo+hi) / 2 - lo≤f:=by omega
theorem y17 {lo hi f:Nat} (h:hi - lo≤f+1) (h2:lo < hi):hi - ((lo+hi) / 2+1)≤f:=by omega
theorem y18 {p n:Nat}:min p n+(n - p+1)=n+1:=by omega
theorem y20 {p n:Nat}:min p n+(n - p+1)≤n+1:=by omega
theorem y21 {v w n:Nat} (hv:v < 2 ^ n) (hw:w < 2 ^ n):1+max v w < 2 ^ (n+1):=by rw [Nat.pow_succ];omega
theorem y22 {v w n:Nat} (hv:v < 2 ^ n) (hw:w < 2 ^ n):1+(v+w) < 2 ^ (n+1):=by rw [Nat.pow_succ];omega
theorem y23 {v w w1 w' u:Nat} (h1:w1≤v) (h2:w'≤w) (h3:u≤1+max w1 w'):u≤1+max v w:=by omega
theorem y24 {a l m j:Nat} (h:a=l) (h2:l=m+1):m - (j+1) < a:=by omega
theorem y25 {a l m j:Nat} (h:a=l) (h3:l=m+1) (h4:j < m - 1):j+1 < a:=by omega
theorem y27 {A a b c:Nat} (h:A+max a b < c):A+b < c:=by omega
theorem y28 {A a b c:Nat} (h:A+max a b < c):A+a < c:=by omega
theorem y29 {a x n s:Nat} (h1:n≤s) (h2:x < n):x - 1 < s:=by omega
theorem y30 {l r k n s:Nat} (h1:n≤s) (h2:k < n) (h3:r≤k) (h4:¬ l ≥ r):(l+r) / 2 < s:=by omega
theorem y31 {n N s:Nat} (h1:1≤n) (h2:n≤N) (h3:N≤s):n - 1 < s:=by omega
theorem y32 {j n:Nat} (h:j < n):j≤n - 1:=by omega
theorem y33 {s r p:Nat} (h:s < r):p+(r - (s+1)) < p+(r - s):=by omega
theorem y34 {c d e u r s:Nat} (h1:c+1≤d) (h2:e≤u) (h3:u≤12) (h4:s < r):13 * c+(r+e - (s+1)) < 13 * d+(r - s):=by omega
theorem y35 {i j:Nat} (h:i≤j):0 < j+1 - i:=by omega
theorem y36 {a b c:Nat} (h:a+1≤b) (h2:c≤a):c < b:=by omega
theorem y38 {a b:Nat} (h:¬ a < b) (h2:a≤b):a=b:=by omega
theorem y39 {a b:Nat} (h:¬ a < b) (h2:a < b+1):a=b:=by omega
theorem y40 {a b c:Nat} (h:a=b) (h2:c < a):c < b:=by omega
theorem y41 {a b c:Nat} (h:a=b) (h2:c < b):c < a:=by omega
theorem y43 {a b c d:Nat} (h:a < b) (h2:b≤c) (h3:c≤d):a < d:=by omega
theorem y46 {a b:Nat} (h:¬ a=b) (h2:a≤b):a < b:=by omega
theorem y47 {a b:Nat} (h:a < b+1) (h2:¬ a=b):a < b:=by omega
theorem y50 {a b:Nat} (h:b≤a):a - b+b=a:=by omega
theorem y51 {a b c:Nat} (h:a+b≤c):a≤c:=by omega
theorem y53 {a b c:Nat} (h:a+b < c):a < c:=by omega
theorem y55 {a b c d:Nat} (h:a≤b) (h2:c≤d):a+c≤b+d:=by omega
theorem y62 {a b:Nat} (h:a < b) (h3:b≤a) {P:Prop}:P:=by omega
theorem y70 {a b c:Nat} (h:a=b+1) (h2:c≤b):c < a:=by omega
set_option genSizeOf false in
inductive V where
 | none
 | bool (b:Bool)
 | int (i:Int)
 | str (s:Str)
 | ref (a:Addr)
 | tup (vs:List V)
set_option genSizeOf false in
inductive Cls where
 | unions | heap | bank | keeper | depth | size
noncomputable def Cls.addr:Cls→Addr
 | .unions=>359 | .heap=>491 | .bank=>277 | .keeper=>123 | .depth=>45 | .size=>66
set_option genSizeOf false in
inductive Cell where
 | list (xs:List V)
 | idict (kvs:List (Int × V))
 | tdict (kvs:List (List (Str ⊕ Int) × V))
 | sdict (kvs:List (Str × V))
 | inst (C:Cls) (d:Addr)
 | set (xs:List V)
noncomputable abbrev AH:=Addr→Option Cell
noncomputable def AH.put (H:AH) (a:Addr) (c:Cell):AH:=fun b=>if b=a then some c else H b
theorem AH.put_self (H:AH) (a:Addr) (c:Cell):H.put a c a=some c:=by simp [AH.put]
theorem AH.put_ne (H:AH) {a b:Addr} (c:Cell) (h:b≠a):H.put a c b=H b:=by simp [AH.put,h]
set_option genInjectivity false in
set_option genSizeOf false in
structure Bs where
 prog:Program
 w:World
 K:Frag
 h0:Heap
 mg:Str→Option Value
 mb:Str→Option Value
 p:Program
 loose:List Str
 priv:Addr→Prop
mutual
noncomputable def Conc (B:Bs) (h:Heap):V→Value→Prop
 | .none,x=>x=.none
 | .bool b,x=>x=.bool b
 | .int i,x=>∃ t,x=.int i t
 | .str s,x=>∃ t,x=.str s t
 | .ref a,x=>x=.ref a
 | .tup vs,x=>∃ a xs n,x=.ref a∧h.get? a=some (seqObj "tuple" (List.toArray xs) n)∧ConcL B h vs xs∧¬ B.priv a
noncomputable def ConcL (B:Bs) (h:Heap):List V→List Value→Prop
 | [],l=>l=[]
 | v::vs,l=>∃ x xs,l=x::xs∧Conc B h v x∧ConcL B h vs xs
end
structure KeepT (B:Bs) (h h':Heap):Prop where
 tup:∀ b o,¬ B.priv b→h.get? b=some o→o.cls=.type "tuple"→(∃ xs n,o.data=.seq xs n)→h'.get? b=some o
theorem no_some {α:Type} {x:α} {p:Prop} (h:(none:Option α)=some x):p:=nomatch h
theorem some_none {α:Type} {o:Option α} {x:α} {p:Prop} (h1:o=some x) (h2:o=none):p:=no_some (h2.symm.trans h1)
theorem some_same {α:Type} {o:Option α} {x y:α} (h1:o=some x) (h2:o=some y):x=y:=Option.some.inj (h1.symm.trans h2)
noncomputable def TupMap (B B':Bs) (h h':Heap):Prop:=∀ a o,¬ B.priv a→h.get? a=some o→o.cls=.type "tuple"→(∃ xs n,o.data=.seq xs n)→h'.get? a=some o∧¬ B'.priv a
theorem Conc.map {B B':Bs} {h h':Heap} (k:TupMap B B' h h') (v:V):∀ {x},Conc B h v x→Conc B' h' v x:=
 V.rec (motive_1:=fun v=>∀ {x},Conc B h v x→Conc B' h' v x) (motive_2:=fun vs=>∀ {xs},ConcL B h vs xs→ConcL B' h' vs xs) (fun e=>e) (fun _ _ e=>e) (fun _ _ e=>e) (fun _ _ e=>e) (fun _ _ e=>e)
  (fun vs ih x e=>by refine e3a4 e fun a xs n hx ho hl hp=>?_;have g:=k a _ hp ho rfl (i2a1 _ _ rfl);exact i3a4 a xs n hx g.1 (ih hl) g.2) (fun e=>e)
  (fun v vs ih1 ih2 l e=>by refine e2a3 e fun x xs hx h1 h2=>?_;exact i2a3 x xs hx (ih1 h1) (ih2 h2)) v
theorem ConcL.map {B B':Bs} {h h':Heap} (k:TupMap B B' h h') {vs:List V} {xs:List Value} (e:ConcL B h vs xs):ConcL B' h' vs xs:=by
 induction vs generalizing xs with
 | nil=>exact e
 | cons v vs ih=>refine e2a3 e fun x xs hx h1 h2=>?_;exact i2a3 x xs hx (h1.map k) (ih h2)
theorem KeepT.map {h h':Heap} (k:KeepT B h h'):TupMap B B h h':=fun a o hp ho hc hd=>⟨k.tup _ _ hp ho hc hd,hp⟩
theorem Conc.keep {h h':Heap} (k:KeepT B h h') {v:V} {x:Value} (e:Conc B h v x):Conc B h' v x:=e.map k.map
theorem ConcL.keep {h h':Heap} (k:KeepT B h h') {vs:List V} {xs:List Value} (e:ConcL B h vs xs):ConcL B h' vs xs:=e.map k.map
theorem KeepT.refl (h:Heap):KeepT B h h:=⟨fun _ _ _ e _ _=>e⟩
theorem KeepT.trans {h h' h'':Heap} (a:KeepT B h h') (b:KeepT B h' h''):KeepT B h h'':=⟨fun c o p e t d=>b.tup c o p (a.tup c o p e t d) t d⟩
theorem KeepT.of_keeps {h h':Heap} (k:∀ b o,h.get? b=some o→h'.get? b=some o):KeepT B h h':=⟨fun b o _ e _ _=>k b o e⟩
theorem KeepT.sameBut {h h':Heap} {a:Addr} {o:Obj} (hs:Heap.SameBut a h h') (ho:h.get? a=some o) (hc:o.cls≠.type "tuple"):KeepT B h h':=
 ⟨fun b o' _ e t _=>(hs.2 b fun q=>hc ((some_same ho (q▸e)).symm▸t)).trans e⟩
theorem KeepT.sameBut' {h h':Heap} {a:Addr} {o:Obj} (hs:Heap.SameBut a h h') (ho:h.get? a=some o) (hc:∀ xs n,o.data≠.seq xs n):KeepT B h h':=
 ⟨fun b o' _ e t d=>(hs.2 b fun q=>by refine e2a1 d fun xs n d=>?_;exact hc xs n ((some_same ho (q▸e)).symm▸d)).trans e⟩
inductive All2 {α β:Type} (R:α→β→Prop):List α→List β→Prop
 | nil:All2 R [] []
 | cons {a b l m}:R a b→All2 R l m→All2 R (a::l) (b::m)
section
variable {α β:Type} {R S:α→β→Prop} {l l':List α} {m m':List β} {i:Nat} {a:α} {b:β}
theorem All2.imp (h:∀ a b,R a b→S a b) (x:All2 R l m):All2 S l m:=by
 induction x with
 | nil=>exact .nil
 | cons a _ ih=>exact .cons (h _ _ a) ih
theorem All2.length (x:All2 R l m):l.length=m.length:=by
 induction x with
 | nil=>rfl
 | cons _ _ ih=>exact congrArg (· + 1) ih
theorem All2.append (x:All2 R l m) (y:All2 R l' m'):All2 R (l++l') (m++m'):=by
 induction x with
 | nil=>exact y
 | cons a _ ih=>exact .cons a ih
theorem no_get {p:Prop} (h:([]:List α)[i]? = some a):p:=no_some (List.getElem?_nil.symm.trans h)
theorem All2.get (x:All2 R l m) (e:l[i]? = some a):∃ b,m[i]? = some b∧R a b:=by
 induction x generalizing i with
 | nil=>exact no_get e
 | cons r _ ih=>
  induction i with
  | zero=>cases e;exact i1a2 _ rfl r
  | succ i=>exact ih e
theorem All2.flip (x:All2 R l m):All2 (fun b a=>R a b) m l:=by
 induction x with
 | nil=>exact .nil
 | cons a _ ih=>exact .cons a ih
theorem All2.get' (x:All2 R l m) (e:m[i]? = some b):∃ a,l[i]? = some a∧R a b:=x.flip.get e
theorem All2.take (x:All2 R l m) (k:Nat):All2 R (l.take k) (m.take k):=by
 induction x generalizing k with
 | nil=>simp only [List.take_nil,List.take_nil];exact .nil
 | cons a _ ih=>
  induction k with
  | zero=>exact .nil
  | succ k=>exact .cons a (ih k)
theorem All2.drop (x:All2 R l m) (k:Nat):All2 R (l.drop k) (m.drop k):=by
 induction x generalizing k with
 | nil=>simp only [List.drop_nil,List.drop_nil];exact .nil
 | cons a b ih=>
  induction k with
  | zero=>exact .cons a b
  | succ k=>exact ih k
theorem All2.set (x:All2 R l m) (r:R a b) (k:Nat):All2 R (l.set k a) (m.set k b):=by
 induction x generalizing k with
 | nil=>exact .nil
 | cons x y ih=>
  induction k with
  | zero=>exact .cons r y
  | succ k=>exact .cons x (ih k)
end
section
variable {h:Heap} {vs ws:List V} {xs ys:List Value}
theorem ConcL.all (e:ConcL B h vs xs):All2 (Conc B h) vs xs:=by
 induction vs generalizing xs with
 | nil=>cases (show xs=[] from e);exact .nil
 | cons v vs ih=>refine e2a3fl (x:=xs) e fun x ys h1 h2=>?_;exact .cons h1 (ih h2)
theorem ConcL.of (x:All2 (Conc B h) vs xs):ConcL B h vs xs:=by
 induction x with
 | nil=>rfl
 | cons a _ ih=>exact i2a3 _ _ rfl a ih
theorem ConcL.length (e:ConcL B h vs xs):vs.length=xs.length:=e.all.length
theorem ConcL.append (e:ConcL B h vs xs) (f:ConcL B h ws ys):ConcL B h (vs++ws) (xs++ys):=.of (e.all.append f.all)
theorem ConcL.get {i:Nat} {v:V} (e:ConcL B h vs xs) (hi:vs[i]? = some v):∃ x,xs[i]? = some x∧Conc B h v x:=e.all.get hi
theorem ConcL.get' {i:Nat} {x:Value} (e:ConcL B h vs xs) (hi:xs[i]? = some x):∃ v,vs[i]? = some v∧Conc B h v x:=e.all.get' hi
theorem ConcL.take (k:Nat) (e:ConcL B h vs xs):ConcL B h (vs.take k) (xs.take k):=.of (e.all.take k)
theorem ConcL.drop (k:Nat) (e:ConcL B h vs xs):ConcL B h (vs.drop k) (xs.drop k):=.of (e.all.drop k)
theorem ConcL.set {u:V} {y:Value} (hu:Conc B h u y) (k:Nat) (e:ConcL B h vs xs):ConcL B h (vs.set k u) (xs.set k y):=.of (e.all.set hu k)
end
noncomputable def atomIs:Str ⊕ Int→Value→Bool
 | .inl s,v=>Value.isStrOf s v
 | .inr i,v=>Value.isInt i v
theorem atomIs_shape {k:Str ⊕ Int} {v:Value} (h:atomIs k v=true):(∃ s t,k=.inl s∧v=.str s t)∨(∃ i t,k=.inr i∧v=.int i t):=by
 induction k with
 | inl s=>obtain ⟨t,rfl⟩:=Value.isStrOf_shape h;exact .inl (i2a2 s t rfl rfl)
 | inr i=>obtain ⟨t,rfl⟩:=Value.isInt_shape h;exact .inr (i2a2 i t rfl rfl)
noncomputable def atomHash (w:World):Str ⊕ Int→Int
 | .inl s=>hashStr w s
 | .inr i=>hashInt i
theorem atom_elim {k:Str ⊕ Int} {v:Value} (P:Str ⊕ Int→Value→Prop) (h1:∀ s t,P (.inl s) (.str s t)) (h2:∀ i t,P (.inr i) (.int i t)) (h:atomIs k v=true):P k v:=by
 induction k with
 | inl s=>obtain ⟨t,rfl⟩:=Value.isStrOf_shape h;exact h1 s t
 | inr i=>obtain ⟨t,rfl⟩:=Value.isInt_shape h;exact h2 i t
noncomputable def atomKind (prog:Program) (w:World):KeyKind prog w (Str ⊕ Int) where
 is:=atomIs
 hash:=atomHash w
 inj:=fun v a b ha hb=>by
  induction a with
  | inl s=>
   induction b with
   | inl s'=>exact congrArg Sum.inl (Value.isStrOf_inj v s s' ha hb)
   | inr i=>exact (Value.isStrOf_shape ha).elim fun t e=>by subst e;exact z_ft hb
  | inr i=>
   induction b with
   | inl s'=>exact (Value.isInt_shape ha).elim fun t e=>by subst e;exact z_ft hb
   | inr i'=>exact congrArg Sum.inr (Value.isInt_inj v i i' ha hb)
 byValue:=fun k v=>atom_elim (fun k v=>carriedByValue v=true) (fun _ _=>rfl) (fun _ _=>rfl)
 pyHash:=fun {A E s k v Q} hv=>atom_elim (fun k v=>Q (atomHash w k) { s with toks:=s.toks+1 }→wpAny (model prog w) A (PySem.pyHash v) Q E s) (fun _ _=>wpAny_pyHash_str) (fun _ _=>wpAny_pyHash_int) hv
 eqBool:=fun {A E st a b u v Q} hu hv=>by
  refine atom_elim (fun a u=>Q (decide (a=b)) st→wpAny (model prog w) A (PySem.eqBool u v) Q E st) (fun s t=>?_) (fun i t=>?_) hu
  ·refine atom_elim (fun b v=>Q (decide (.inl s=b)) st→wpAny (model prog w) A (PySem.eqBool (.str s t) v) Q E st) (fun s' t' h=>?_) (fun i' t' h=>?_) hv
   ·exact wpAny_eqBool_str (decide_eq_decide.mpr ⟨Sum.inl.inj,congrArg _⟩▸h)
   ·exact SeqAt.EqAt.str_int s t i' t' prog w _ _ h
  ·refine atom_elim (fun b v=>Q (decide (.inr i=b)) st→wpAny (model prog w) A (PySem.eqBool (.int i t) v) Q E st) (fun s' t' h=>?_) (fun i' t' h=>?_) hv
   ·exact SeqAt.EqAt.int_str i t s' t' prog w _ _ h
   ·exact (intKind prog w).eqBool (decide_eq_true rfl) (decide_eq_true rfl) (decide_eq_decide.mpr ⟨Sum.inr.inj,congrArg _⟩▸h)
 «strs»:=fun k x t v h=>by
  induction k with
  | inl s=>exact (strKind prog w).strs s x t v h
  | inr i=>cases h
noncomputable abbrev nodeKind (prog:Program) (w:World):HeapKind prog w (List (Str ⊕ Int)):=tupleKind (atomKind prog w)
noncomputable def PV {K:Type} (B:Bs) (h:Heap) (kv:K × V) (x:K × Value):Prop:=kv.1=x.1∧Conc B h kv.2 x.2
noncomputable def PVT {K:Type} (B:Bs) (h:Heap) (kv:K × V) (x:K × Addr × Value):Prop:=kv.1=x.1∧Conc B h kv.2 x.2.2
noncomputable def CellIs (B:Bs) (h:Heap) (a:Addr):Cell→Prop
 | .list vs=>∃ xs n,h.get? a=some (listOf (List.toArray xs) n)∧ConcL B h vs xs
 | .idict kvs=>∃ xs,h.DictOf (intKind B.prog B.w) a xs∧All2 (PV B h) kvs xs
 | .tdict kvs=>∃ xs,h.DictOfH (nodeKind B.prog B.w) a xs∧All2 (PVT B h) kvs xs∧∀ y∈xs,¬ B.priv y.2.1
 | .sdict kvs=>∃ xs,h.DictOf (strKind B.prog B.w) a xs∧All2 (PV B h) kvs xs
 | .inst C d=>h.get? a=some (instObj C.addr d)
 | .set us=>∃ es n t,h.get? a=some { cls:=.type "set",dict:=.none,data:=.set (List.toArray es) n t }∧ConcL B h us (es.map (·.2))∧t.fits es.length=true∧(t.led=true∨B.w.params.followText "set-order" = true)∧t.place.toList.Pairwise (· < ·)
theorem exactDict_eq {o:Obj} {es:Array DictEntry} {n:Nat} (h:o.ExactDict) (hd:o.data=.dict es n):o={ cls:=.type "dict",data:=.dict es n }:=by
 obtain ⟨c,d,dt,sl⟩:=o;obtain ⟨rfl,rfl,rfl⟩:=h;simp only at hd;subst hd;rfl
theorem ty_ne {a b:String} (h:(a == b)=false):Value.type a≠.type b:=fun e=>by cases e;exact absurd h (by simp)
theorem CellIs.notTup {B:Bs} {h:Heap} {a:Addr} {c:Cell} (x:CellIs B h a c):∃ o,h.get? a=some o∧o.cls≠.type "tuple":=by
 have dk:∀ {o:Obj},o.ExactDict→o.cls≠.type "tuple":=fun hc=>hc.1▸ty_ne (by decide);induction c with
 | list vs=>refine e2a2 x fun xs n h1 _=>?_;exact i1a2 _ h1 (ty_ne (by decide))
 | idict vs=>refine e1a2 x fun xs z _=>?_;refine e3a3 z fun o es ep ho hc _=>?_;exact i1a2 o ho (dk hc)
 | tdict vs=>refine e1a2 x fun xs z _=>?_;refine e3a3 z fun o es ep ho hc _=>?_;exact i1a2 o ho (dk hc)
 | sdict vs=>refine e1a2 x fun xs z _=>?_;refine e3a3 z fun o es ep ho hc _=>?_;exact i1a2 o ho (dk hc)
 | inst C d=>exact i1a2 _ x (fun h=>nomatch h)
 | set vs=>refine e3a2 x fun es n t h1 _=>?_;exact i1a2 _ h1 (ty_ne (by decide))
theorem CellIs.map {B:Bs} {P:Addr→Prop} {h h':Heap} {a:Addr} {c:Cell} (x:CellIs B h a c) (k:TupMap B { B with priv:=P } h h') (ha:∀ o,h.get? a=some o→h'.get? a=some o):CellIs { B with priv:=P } h' a c:=by
 induction c with
 | list vs=>refine e2a2 x fun xs n h1 h2=>?_;exact i2a2 xs n (ha _ h1) (h2.map k)
 | idict vs=>refine e1a2 x fun xs h1 h3=>?_;exact i1a2 xs (h1.at ha) (h3.imp fun _ _ e=>⟨e.1,e.2.map k⟩)
 | tdict vs=>
  refine e1a3 x fun xs z18 h7 h8=>?_;refine e3a6 z18 fun o es n h1 h2 h3 h4 h5 h6=>?_;have g:∀ y∈xs,(nodeKind B.prog B.w).is h' y.1 y.2.1∧¬ P y.2.1:=fun y hy=>by
   refine e3a4 (h5 y hy) fun o items n g1 g2 g3 g4=>?_;have g:=k _ _ (h8 y hy) g1 g2 (i2a1 _ _ g3);exact ⟨i3a4 o items n g.1 g2 g3 g4,g.2⟩
  exact i1a3 xs (i3a6 o es n (ha _ h1) h2 h3 h4 (fun y hy=>(g y hy).1) h6) (h7.imp fun _ _ e=>⟨e.1,e.2.map k⟩) (fun y hy=>(g y hy).2)
 | sdict vs=>refine e1a2 x fun xs h1 h3=>?_;exact i1a2 xs (h1.at ha) (h3.imp fun _ _ e=>⟨e.1,e.2.map k⟩)
 | inst C d=>exact ha _ x
 | set vs=>refine e3a3 x fun es n t h1 h2 h4=>?_;exact i3a3 es n t (ha _ h1) (h2.map k) h4
theorem CellIs.keep {B:Bs} {h h':Heap} {a:Addr} {c:Cell} (x:CellIs B h a c) (k:KeepT B h h') (ha:∀ o,h.get? a=some o→h'.get? a=some o):CellIs B h' a c:=x.map (P:=B.priv) k.map ha
structure Bs.OK (B:Bs):Prop where
 X:B.K.In B.h0
 T:TopRead B.p B.loose B.mg B.mb B.h0
noncomputable abbrev Bs.M (B:Bs):Model:=model B.prog B.w
noncomputable abbrev Bs.P (B:Bs):Params:=B.w.params
structure Abs (B:Bs) (h:Heap) (H:AH):Prop where
 cell:∀ a c,H a=some c→CellIs B h a c
 new:∀ a c,H a=some c→B.h0.get? a=none
 keep:∀ b o,B.h0.get? b=some o→h.get? b=some o
 low:∀ a c,H a=some c→2 < a
 stat:∃ o,h.get? 2=some o
 priv:∀ a,B.priv a→∃ o,h.get? a=some o
theorem Abs.low_size {B:Bs} {h:Heap} {H:AH} (x:Abs B h H):2 < h.objs.size:=e1a1 x.stat fun _ e=>Heap.lt_size e
theorem Abs.mods {B:Bs} {h:Heap} {H:AH} (x:Abs B h H) {a:Addr} {c:Cell} (ha:H a=some c):(a == sysModules)=false:=by
 exact beq_false_of_ne (Nat.ne_of_gt (Nat.lt_trans (by decide) (x.low _ _ ha)))
theorem none_of {α:Type} {o:Option α} (h:∀ c,o=some c→False):o=none:=by
 induction o with
 | none=>rfl
 | some c=>exact (h c rfl).elim
theorem Abs.none_of_none {B:Bs} {h:Heap} {H:AH} (x:Abs B h H) {a:Addr} (ha:h.get? a=none):H a=none:=
 none_of fun c e=>e1a2 ((x.cell a c e).notTup) fun o' h1 _=>some_none h1 ha
theorem Abs.base_none {B:Bs} {h:Heap} {H:AH} (x:Abs B h H) {a:Addr} (ha:h.get? a=none):B.h0.get? a=none:=none_of fun o e=>some_none (x.keep _ _ e) ha
theorem Abs.notPriv {B:Bs} {h:Heap} {H:AH} (x:Abs B h H) {a:Addr} (ha:h.objs.size≤a):¬ B.priv a:=fun hp=>by
 refine e1a1 (x.priv a hp) fun o e=>?_;exact absurd (Heap.lt_size e) (Nat.not_lt.mpr ha)
structure St (B:Bs) (X:List Addr) (s:Shared) (H:AH) (s':Shared) (H':AH):Prop where
 keep:∀ b o,s.heap.get? b=some o→H b=none→b ∉ X→s'.heap.get? b=some o
 live:∀ b o,s.heap.get? b=some o→b ∉ X→∃ o',s'.heap.get? b=some o'
 dom:∀ b o,s.heap.get? b=some o→b ∉ X→H b=none→H' b=none
 tup:KeepT B s.heap s'.heap
 gens:s'.gens=s.gens
 os:s'.os=s.os
theorem St.refl (X:List Addr) (s:Shared) (H:AH):St B X s H s H:=⟨fun _ _ e _ _=>e,fun _ o e _=>⟨o,e⟩,fun _ _ _ _ e=>e,.refl _,rfl,rfl⟩
theorem St.trans {X:List Addr} {s s' s'':Shared} {H H' H'':AH} (a:St B X s H s' H') (b:St B X s' H' s'' H''):St B X s H s'' H'':=
 ⟨fun c o e n x=>b.keep c o (a.keep c o e n x) (a.dom c o e x n) x,fun c o e x=>e1a1 (a.live c o e x) fun o' e'=>b.live c o' e' x,fun c o h x n=>e1a1 (a.live c o h x) fun o' e'=>b.dom c o' e' x (a.dom c o h x n),
  a.tup.trans b.tup,b.gens.trans a.gens,b.os.trans a.os⟩
theorem St.mono {X Y:List Addr} {s s':Shared} {H H':AH} (a:St B X s H s' H') (h:∀ b∈X,b∈Y):St B Y s H s' H':=
 ⟨fun c o e n x=>a.keep c o e n fun hx=>x (h c hx),fun c o e x=>a.live c o e fun hx=>x (h c hx),fun c o e x=>a.dom c o e fun hx=>x (h c hx),a.tup,a.gens,a.os⟩
theorem St.of_nil {X:List Addr} {s s':Shared} {H H':AH} (a:St B [] s H s' H'):St B X s H s' H':=a.mono fun _ h=>nomatch h
theorem St.drop {X Y:List Addr} {s s':Shared} {H H':AH} (a:St B X s H s' H') (h:∀ b∈X,b∈Y∨s.heap.get? b=none):St B Y s H s' H':=
 have g:∀ c o,s.heap.get? c=some o→c ∉ Y→c ∉ X:=fun c o e x hx=>(h c hx).elim x fun hle=>some_none e hle
 ⟨fun c o e n x=>a.keep c o e n (g c o e x),fun c o e x=>a.live c o e (g c o e x),fun c o e x=>a.dom c o e (g c o e x),a.tup,a.gens,a.os⟩
noncomputable abbrev NoE:Value→Shared→Prop:=fun _ _=>False
inductive TrP {α:Type} (B:Bs) (X:List Addr) (s:Shared) (H:AH) (Q:α→AH→Shared→Prop) (v:α) (s':Shared):Prop
 | mk (H':AH) (a:Abs B s'.heap H') (st:St B X s H s' H') (q:Q v H' s')
noncomputable def Tr {α:Type} (B:Bs) (A:Around) (X:List Addr) (t:Sem α) (H:AH) (s:Shared) (Q:α→AH→Shared→Prop):Prop:=
 wpAny B.M A t (TrP B X s H Q) NoE s
section
variable {α β:Type} {B:Bs} {A:Around} {X:List Addr} {H:AH} {s:Shared}
theorem Tr.pure {a:α} {Q:α→AH→Shared→Prop} (x:Abs B s.heap H) (h:Q a H s):Tr B A X (pure a) H s Q:=wpAny_pure ⟨H,x,.refl _ _ _,h⟩
theorem Tr.mono {t:Sem α} {Q Q':α→AH→Shared→Prop} (h:Tr B A X t H s Q) (k:∀ v H' s',Abs B s'.heap H'→St B X s H s' H'→Q v H' s'→Q' v H' s'):Tr B A X t H s Q':=
 wpAny_mono h (fun v s' ⟨H',a,b,c⟩=>⟨H',a,b,k v H' s' a b c⟩) fun _ _ e=>e
theorem Tr.bind {t:Sem α} {f:α→Sem β} {Q:β→AH→Shared→Prop} (h:Tr B A X t H s fun v H' s'=>Tr B A X (f v) H' s' Q):Tr B A X (t >>= f) H s Q:=
 wpAny_bind (wpAny_mono h (fun _ s' ⟨_,_,b,c⟩=>wpAny_mono c (fun v s'' ⟨H'',a',b',c'⟩=>⟨H'',a',b.trans b',c'⟩) fun _ _ e=>e) fun _ _ e=>e)
theorem Tr.out {t:Sem α} {Q:α→AH→Shared→Prop} {R:α→Shared→Prop} {E:Value→Shared→Prop} (h:Tr B A X t H s Q) (k:∀ v H' s',Abs B s'.heap H'→St B X s H s' H'→Q v H' s'→R v s'):wpAny B.M A t R E s:=
 wpAny_mono h (fun v s' ⟨H',a,b,c⟩=>k v H' s' a b c) fun _ _ e=>e.elim
theorem Tr.holding {vs:List Value} {t:Sem α} {Q:α→AH→Shared→Prop} (h:Tr B A X t H s Q):Tr B A X (holding vs t) H s Q:=wpAny_holding h
theorem Tr.wider {Y:List Addr} {t:Sem α} {Q:α→AH→Shared→Prop} (h:Tr B A X t H s Q) (k:∀ b∈X,b∈Y):Tr B A Y t H s Q:=
 wpAny_mono h (fun v s' ⟨H',a,b,c⟩=>⟨H',a,b.mono k,c⟩) fun _ _ e=>e
end
theorem St.grown {X:List Addr} {s:Shared} {H:AH} {h':Heap} {tk:Nat} (k:∀ b o,s.heap.get? b=some o→h'.get? b=some o):St B X s H { s with heap:=h',toks:=tk } H:=
 ⟨fun b o e _ _=>k b o e,fun b o e _=>⟨o,k b o e⟩,fun _ _ _ _ e=>e,.of_keeps k,rfl,rfl⟩
theorem Abs.grown {B:Bs} {h h':Heap} {H:AH} (x:Abs B h H) (k:∀ b o,h.get? b=some o→h'.get? b=some o):Abs B h' H:=
 ⟨fun a c e=>(x.cell a c e).keep (.of_keeps k) fun o ho=>k a o ho,x.new,fun b o e=>k b o (x.keep b o e),x.low,e1a1 x.stat fun o e=>⟨o,k _ _ e⟩,fun a ha=>e1a1 (x.priv a ha) fun o e=>⟨o,k _ _ e⟩⟩
theorem AH.put_at {H:AH} {a b:Addr} {c d:Cell} (e:(H.put a c) b=some d):(b=a∧d=c)∨(b≠a∧H b=some d):=by
 by_cases h:b=a
 ·subst h;exact .inl ⟨rfl,some_same e (H.put_self b c)⟩
 ·exact .inr ⟨h,(H.put_ne c h).symm.trans e⟩
theorem Abs.put {B:Bs} {h:Heap} {H:AH} {a:Addr} {c:Cell} (hc:CellIs B h a c) (hb:B.h0.get? a=none) (hl:2 < a) (cell:∀ b d,b≠a→H b=some d→CellIs B h b d∧B.h0.get? b=none∧2 < b)
  (keep:∀ b o,B.h0.get? b=some o→h.get? b=some o) (stat:∃ o,h.get? 2=some o) (priv:∀ a,B.priv a→∃ o,h.get? a=some o):Abs B h (H.put a c):=
 have g:∀ b d,(H.put a c) b=some d→CellIs B h b d∧B.h0.get? b=none∧2 < b:=fun b d e=>by
  rcases AH.put_at e with ⟨rfl,rfl⟩ | ⟨h1,h2⟩
  ·exact i0a3 hc hb hl
  ·exact cell b d h1 h2
 ⟨fun b d e=>(g b d e).1,fun b d e=>(g b d e).2.1,keep,fun b d e=>(g b d e).2.2,stat,priv⟩
theorem Abs.of {B:Bs} {h:Heap} {H:AH} (x:Abs B h H) {b:Addr} {d:Cell} (e:H b=some d):CellIs B h b d∧B.h0.get? b=none∧2 < b:=i0a3 (x.cell b d e) (x.new b d e) (x.low b d e)
theorem Abs.alloc {B:Bs} {h h':Heap} {H:AH} (x:Abs B h H) (k:∀ b o,h.get? b=some o→h'.get? b=some o) {a:Addr} {c:Cell} (ha':h.objs.size≤a) (hc:CellIs B h' a c):Abs B h' (H.put a c):=
 have g:=x.grown k
 .put hc (x.base_none (Heap.get?_none_of_le ha')) (Nat.lt_of_lt_of_le x.low_size ha') (fun b d _ e=>g.of e) g.keep g.stat g.priv
theorem St.alloc {X:List Addr} {s:Shared} {H:AH} {h':Heap} {tk:Nat} (k:∀ b o,s.heap.get? b=some o→h'.get? b=some o) {a:Addr} {c:Cell} (ha:s.heap.get? a=none) :
  St B X s H { s with heap:=h',toks:=tk } (H.put a c):=
 ⟨fun b o e _ _=>k b o e,fun b o e _=>⟨o,k b o e⟩,fun b o hb _ e=>(AH.put_ne _ _ fun q:b=a=>some_none hb (q▸ha)).trans e,.of_keeps k,rfl,rfl⟩
theorem Abs.turn {B:Bs} {h h':Heap} {H:AH} (x:Abs B h H) {a:Addr} {c c':Cell} (ha:H a=some c) (hs:Heap.SameBut a h h') (hc:CellIs B h' a c'):Abs B h' (H.put a c'):=by
 refine e1a2 ((x.cell a c ha).notTup) fun o ho hn=>?_;have k:KeepT B h h':=.sameBut hs ho hn;have l:=x.low _ _ ha;refine .put hc (x.new _ _ ha) l (fun b d hb e=>⟨(x.cell b d e).keep k fun o' ho'=>(hs.2 b hb).trans ho',(x.of e).2⟩) (fun b ob e=>(hs.2 b fun q=>some_none e (q▸x.new _ _ ha)).trans (x.keep b ob e)) ?_ fun b hp=>?_
 ·obtain ⟨o,e⟩:=x.stat;exact ⟨o,(hs.2 2 (Nat.ne_of_lt l)).trans e⟩
 ·refine e1a1 (x.priv b hp) fun ob e=>?_;by_cases hb:b=a
  ·clear ha hs ho l;subst hb;refine e1a2 hc.notTup fun o' ho' _=>?_;exact ⟨o',ho'⟩
  ·exact ⟨ob,(hs.2 b hb).trans e⟩
theorem St.turn {B:Bs} {X:List Addr} {s:Shared} {H:AH} {h':Heap} {tk:Nat} (x:Abs B s.heap H) {a:Addr} {c c':Cell} (ha:H a=some c) (hs:Heap.SameBut a s.heap h') (hc:CellIs B h' a c') :
  St B X s H { s with heap:=h',toks:=tk } (H.put a c'):=by
 refine e1a2 ((x.cell a c ha).notTup) fun o ho hn=>?_;refine ⟨fun b ob e n _=>(hs.2 b fun q=>some_none ha (q▸n)).trans e,fun b ob e _=>?_,fun b ob hb _ e=>(AH.put_ne _ _ fun q:b=a=>some_none ha (q▸e)).trans e,.sameBut hs ho hn,rfl,rfl⟩;by_cases hb:b=a
 ·clear ha hs ho;subst hb;refine e1a2 hc.notTup fun o' ho' _=>?_;exact ⟨o',ho'⟩
 ·exact ⟨ob,(hs.2 b hb).trans e⟩
structure Room (n:Nat) (A:Around):Prop where
 handled:A.handled=none
 depth:A.depth+3 * n+3 < recursionLimit
 units:A.units+20 * n+40 < cLine
inductive Ret (B:Bs) (Q:V→AH→Prop) (y:Value) (H':AH) (s':Shared):Prop
 | mk (v:V) (hc:Conc B s'.heap v y) (q:Q v H')
noncomputable def Ret0 {α:Type} (Q:AH→Prop) (y:α) (H':AH) (s':Shared):Prop:=Q H'
section
variable {B:Bs} {A:Around} {X:List Addr} {H:AH} {s:Shared} {Q:V→AH→Prop}
theorem fin_same {v:V} {y:Value} (x:Abs B s.heap H) (hc:Conc B s.heap v y) (q:Q v H):TrP B X s H (Ret B Q) y s:=⟨H,x,.refl _ _ _,v,hc,q⟩
theorem fin_tok {v:V} {y:Value} {tk:Nat} (x:Abs B s.heap H) (hc:Conc B s.heap v y) (q:Q v H):TrP B X s H (Ret B Q) y { s with toks:=tk }:=
 ⟨H,x,.grown (fun u1_ u2_ e=>e),v,hc,q⟩
theorem fin_grown {v:V} {y:Value} {h':Heap} {tk:Nat} (x:Abs B s.heap H) (k:∀ b o,s.heap.get? b=some o→h'.get? b=some o) (hc:Conc B h' v y) (q:Q v H) :
  TrP B X s H (Ret B Q) y { s with heap:=h',toks:=tk }:=⟨H,x.grown k,.grown k,v,hc,q⟩
theorem fin_alloc {c:Cell} {h':Heap} {tk:Nat} {a:Addr} (x:Abs B s.heap H) (k:∀ b o,s.heap.get? b=some o→h'.get? b=some o) (ha:s.heap.objs.size≤a) (hc:CellIs B h' a c)
  (q:∀ a,H a=none→Q (.ref a) (H.put a c)) :
  TrP B X s H (Ret B Q) (.ref a) { s with heap:=h',toks:=tk }:=
 ⟨H.put a c,x.alloc k ha hc,.alloc k (Heap.get?_none_of_le ha),.ref a,rfl,q a (x.none_of_none (Heap.get?_none_of_le ha))⟩
theorem fin_turn {c c':Cell} {v:V} {y:Value} {h':Heap} {tk:Nat} {a:Addr} (x:Abs B s.heap H) (ha:H a=some c) (hs:Heap.SameBut a s.heap h') (hc:CellIs B h' a c') (hv:Conc B h' v y) (q:Q v (H.put a c')) :
  TrP B X s H (Ret B Q) y { s with heap:=h',toks:=tk }:=
 ⟨H.put a c',x.turn ha hs hc,.turn x ha hs hc,v,hv,q⟩
theorem fin_turn0 {α:Type} {u:α} {c c':Cell} {h':Heap} {tk:Nat} {a:Addr} {Q:AH→Prop} (x:Abs B s.heap H) (ha:H a=some c) (hs:Heap.SameBut a s.heap h') (hc:CellIs B h' a c') (q:Q (H.put a c')) :
  TrP B X s H (Ret0 Q) u { s with heap:=h',toks:=tk }:=
 ⟨H.put a c',x.turn ha hs hc,.turn x ha hs hc,q⟩
end
section
variable {B:Bs} {A:Around} {X:List Addr} {H:AH} {s:Shared} {Q:V→AH→Prop} {a b:Addr} {vs ws:List V} {v:V} {t:Tok}
theorem line_ok {n:Nat} (h:n≤100000):n≤sizeLine:=by
 have:(100000:Nat)≤sizeLine:=by decide
 exact Nat.le_trans ‹_› ‹_›
theorem cell_list {B:Bs} {h:Heap} {a:Addr} {arr:Array Value} {n:Nat} {xs:List Value} {vs:List V} (ho:h.get? a=some (seqObj "list" arr n)) (e:arr=List.toArray xs) (hl:ConcL B h vs xs):CellIs B h a (.list vs):=
 ⟨xs,n,by refine ho▸?_;exact e▸rfl,hl⟩
theorem tr_list_get (x:Abs B s.heap H) (ha:H a=some (.list vs)) {i:Nat} (hi:vs[i]? = some v) (hz:vs.length≤100000) (q:Q v H):Tr B A X (getItem (.ref a) (.int i t)) H s (Ret B Q):=by
 refine e2a2 (x.cell _ _ ha) fun xs n ho hl=>?_;refine e1a2 (hl.get hi) fun y hy hc=>?_;have hi':i < vs.length:=(List.getElem?_eq_some_iff.mp hi).1;exact wpAny_getItem_list (IsL.isList (n:=n) ho) (by simp) (by lia) (by simpa using hy) (fin_same x hc q)
theorem tr_list_last (x:Abs B s.heap H) (ha:H a=some (.list (vs++[v]))) (hz:vs.length≤100000) (q:Q v H):Tr B A X (getItem (.ref a) (.int (-1) t)) H s (Ret B Q):=by
 refine e2a2 (x.cell _ _ ha) fun xs n ho hl=>?_;have hlen:=hl.length;refine e1a2 (hl.get (i:=vs.length) (v:=v) (by simp)) fun y hy hc=>?_;simp only [List.length_append,List.length_cons,List.length_nil] at hlen;refine wpAny_getItem_list_neg (IsL.isList (n:=n) ho) (by decide) (by simp;lia) (by decide) ?_ (fin_same x hc q);have:((-1:Int)+((List.toArray xs).size:Int)).toNat=vs.length:=y89 hlen;refine this▸?_;simpa using hy
theorem tr_list_set {Q:AH→Prop} (x:Abs B s.heap H) (ha:H a=some (.list vs)) {i:Nat} {y:Value} (hi:i < vs.length) (hz:vs.length≤100000) (hc:Conc B s.heap v y) (q:Q (H.put a (.list (vs.set i v)))) :
  Tr B A X (setItem (.ref a) (.int i t) y) H s (Ret0 Q):=by
 refine e2a2 (x.cell _ _ ha) fun xs n ho hl=>?_;have hlen:=hl.length;have hs:=Heap.SameBut.update s.heap a (Obj.mapSeq (·.setIfInBounds i y));have k:KeepT B s.heap (s.heap.update a (Obj.mapSeq (·.setIfInBounds i y))):=.sameBut hs ho (by simp);refine ki_setAt ho (by simp) (by lia) (by simp;exact y40 (by assumption) (by assumption)) ?_;refine fin_turn0 (a:=a) (tk:=s.toks) (c':=.list (vs.set i v)) x ha hs (i2a2 (xs.set i y) n ?_ ((hl.set hc i).keep k)) q;have:=get?_update_seq (c:="list") ho (·.setIfInBounds i y);simp only [Int.toNat_natCast,this];simp
theorem tr_append {y:Value} (x:Abs B s.heap H) (ha:H a=some (.list vs)) (hz:vs.length≤100000) (hc:Conc B s.heap v y) (q:Q .none (H.put a (.list (vs++[v])))) :
  Tr B A X (call (.builtin "list.append") [.ref a,y]) H s (Ret B Q):=by
 refine e2a2 (x.cell _ _ ha) fun xs n ho hl=>?_;have hlen:=hl.length;refine wpAny_list_append_plain ⟨n,ho⟩ (fun h' hp hs=>?_) (by refine List.size_toArray▸?_;exact line_ok (by exact Nat.le_trans (Nat.le_of_eq (Eq.symm ‹_›)) ‹_›));refine e1a1 hp fun n' ho'=>?_;have k:KeepT B s.heap h':=.sameBut hs ho (by simp);exact fin_turn (a:=a) (tk:=s.toks) (c':=.list (vs++[v])) x ha hs ⟨xs++[y],n',by refine ho'.trans ?_;simp,(hl.keep k).append (i2a3 y ([]) rfl (hc.keep k) rfl)⟩ (v:=.none) rfl q
theorem tr_extend (x:Abs B s.heap H) (ha:H a=some (.list vs)) (hb:H b=some (.list ws)) (hz:vs.length+ws.length≤100000) (q:Q .none (H.put a (.list (vs++ws)))) :
  Tr B A X (call (.builtin "list.extend") [.ref a,.ref b]) H s (Ret B Q):=by
 refine e2a2 (x.cell _ _ ha) fun xs n ho hl=>?_;refine e2a2 (x.cell _ _ hb) fun ys n2 ho2 hl2=>?_;have hlen:=hl.length;have hlen2:=hl2.length;have hsz:(List.toArray xs).size+(List.toArray ys).size≤sizeLine:=by simp only [List.size_toArray];exact line_ok (by lia)
 refine call_meets PySem.F.slot_list_extend (i1a2 _ ho rfl) PySem.F.entry_list_extend (PySem.F.args_list_extend_2 _ _) (AutoSeq1.list_extend_list_list_0 a (List.toArray xs) n b (List.toArray ys) n2 (extend_door hsz) (Nat.le_trans (Nat.le_add_right _ _) hsz)
  (Nat.le_succ_of_le hsz)) (i0a3 ho ho2 ?_)
 have hs:=Heap.SameBut.update s.heap a (Obj.mapSeq fun x=>x++List.toArray ys);have k:KeepT B s.heap (s.heap.update a (Obj.mapSeq fun x=>x++List.toArray ys)):=.sameBut hs ho (by simp);have:=get?_update_seq (c:="list") ho (fun x=>x++List.toArray ys);exact fin_turn (a:=a) (tk:=s.toks) (c':=.list (vs++ws)) x ha hs (cell_list this (by simp) ((hl.keep k).append (hl2.keep k))) (v:=.none) rfl q
theorem tr_pop (x:Abs B s.heap H) (ha:H a=some (.list (vs++[v]))) (hz:vs.length≤100000) (q:Q v (H.put a (.list vs))):Tr B A X (call (.builtin "list.pop") [.ref a]) H s (Ret B Q):=by
 refine e2a2 (x.cell _ _ ha) fun xs n ho hl=>?_;have hlen:=hl.length;replace hlen:=List.length_nil▸(List.length_cons▸(List.length_append▸hlen))
 refine e1a2 (hl.get (i:=vs.length) (v:=v) (by simp)) fun y hy hc=>?_;have hsz:(List.toArray xs).size≤sizeLine:=by
  have hlt:xs.length≤sizeLine+1:=hlen▸Nat.succ_le_succ (line_ok hz);have:(100000:Nat) < sizeLine:=by decide
  show xs.length≤sizeLine;exact hlen▸Nat.lt_of_le_of_lt hz this
 have hp:xs.length - 1=vs.length:=(congrArg (· - 1) hlen).symm;refine call_meets PySem.F.slot_list_pop (i1a2 _ ho rfl) PySem.F.entry_list_pop (PySem.F.args_list_pop_1 _) (MeetsSeq.list_pop_last a (List.toArray xs) n y (by simp;rw [hp];exact hy) hsz) ⟨ho,?_⟩;have hs:=Heap.SameBut.update s.heap a (Obj.mapSeq fun q=>q.eraseIdxIfInBounds ((List.toArray xs).size - 1));have k:KeepT B s.heap (s.heap.update a (Obj.mapSeq fun q=>q.eraseIdxIfInBounds ((List.toArray xs).size - 1))):=.sameBut hs ho (by simp);have:=get?_update_seq (c:="list") ho (fun q=>q.eraseIdxIfInBounds ((List.toArray xs).size - 1));refine fin_turn (a:=a) (tk:=s.toks) (c':=.list vs) x ha hs (cell_list (xs:=xs.take vs.length) this ?_ ?_) (hc.keep k) q
 ·have e:(List.toArray xs).eraseIdxIfInBounds ((List.toArray xs).size - 1)=List.toArray (xs.take vs.length):=by
   apply Array.toList_inj.mp;have hlt:xs.length - 1 < xs.length:=by exact y13 (by assumption)
   simp only [Array.eraseIdxIfInBounds,List.size_toArray,hlt,dite_true];rw [List.eraseIdx_toArray];simp only [List.eraseIdx_eq_take_drop_succ];rw [show xs.length - 1+1=xs.length by exact y14 (by assumption),List.drop_length,hp];simp
  exact e
 ·have h1:=(hl.keep k).take vs.length;simpa using h1
theorem tr_addList (x:Abs B s.heap H) (ha:H a=some (.list vs)) (hb:H b=some (.list ws)) (hz:vs.length+ws.length≤100000) (q:∀ c,H c=none→Q (.ref c) (H.put c (.list (vs++ws)))) :
  Tr B A X (binaryOp .Add (.ref a) (.ref b)) H s (Ret B Q):=by
 refine e2a2 (x.cell _ _ ha) fun xs n ho hl=>?_;refine e2a2 (x.cell _ _ hb) fun ys n2 ho2 hl2=>?_;have hlen:=hl.length;have hlen2:=hl2.length;have hsz:(List.toArray xs).size+(List.toArray ys).size≤sizeLine:=by simp only [List.size_toArray];exact line_ok (by lia)
 refine P.add_list ho ho2 ?_ hsz;refine fin_alloc (tk:=s.toks) (a:=s.heap.objs.size) (c:=.list (vs++ws)) x (fun b o e=>Heap.get?_push_of_some _ e) (Nat.le_refl _) (i2a2 (xs++ys) 0 ?_ ?_) q
 ·refine (Heap.get?_push_size _ rfl).trans ?_;simp
 ·have k:KeepT B s.heap (s.heap.push { cls:=.type "list",data:=.seq (List.toArray xs++List.toArray ys) }):=.of_keeps fun b o e=>Heap.get?_push_of_some _ e;exact (hl.keep k).append (hl2.keep k)
theorem tr_lenList (x:Abs B s.heap H) (ha:H a=some (.list vs)) (hz:vs.length≤100000) (q:Q (.int vs.length) H):Tr B A X (call (.builtin "len") [.ref a]) H s (Ret B Q):=by
 refine e2a2 (x.cell _ _ ha) fun xs n ho hl=>?_;have hlen:=hl.length;refine call_len_list (IsL.isList (n:=n) ho) (by refine List.size_toArray▸?_;lia) (fin_tok x (v:=.int vs.length) ⟨s.toks+1,?_⟩ q);rw [List.size_toArray,hlen]
theorem tr_newList (x:Abs B s.heap H) {xs:List Value} (hl:ConcL B s.heap vs xs) (hz:vs.length≤100000) (q:∀ c,H c=none→Q (.ref c) (H.put c (.list vs))):Tr B A X (newList xs) H s (Ret B Q):=by
 have hlen:=hl.length;refine wpAny_newObj_type ?_ (by show (List.toArray xs).size≤sizeLine;refine List.size_toArray▸?_;exact line_ok (by exact Nat.le_trans (Nat.le_of_eq (Eq.symm ‹_›)) ‹_›));have k:∀ b o,s.heap.get? b=some o→(s.heap.push (listOf (List.toArray xs) 0)).get? b=some o:=fun b o e=>Heap.get?_push_of_some _ e;exact fin_alloc (tk:=s.toks) (a:=s.heap.objs.size) (c:=.list vs) x k (Nat.le_refl _) (i2a2 xs 0 (Heap.get?_push_size _ rfl) (hl.keep (.of_keeps k))) q
theorem tr_newTuple (x:Abs B s.heap H) {xs:List Value} (hl:ConcL B s.heap vs xs) (hz:vs.length≤100000) (q:Q (.tup vs) H):Tr B A X (newTuple xs) H s (Ret B Q):=by
 have hlen:=hl.length;refine wpAny_newObj_type ?_ (by show (List.toArray xs).size≤sizeLine;refine List.size_toArray▸?_;exact line_ok (by exact Nat.le_trans (Nat.le_of_eq (Eq.symm ‹_›)) ‹_›));have k:∀ b o,s.heap.get? b=some o→(s.heap.push (seqObj "tuple" (List.toArray xs) 0)).get? b=some o:=fun b o e=>Heap.get?_push_of_some _ e;refine fin_grown (tk:=s.toks) x k (v:=.tup vs) ?_ q;simp only [Conc];exact i3a4 _ xs 0 rfl (Heap.get?_push_size _ rfl) (hl.keep (.of_keeps k)) (x.notPriv (Nat.le_refl _))
theorem conc_tup' {h:Heap} {vs:List V} {y:Value} (hc:Conc B h (.tup vs) y):∃ c xs n,y=.ref c∧h.get? c=some (seqObj "tuple" (List.toArray xs) n)∧ConcL B h vs xs∧¬ B.priv c:=by simpa only [Conc] using hc
theorem conc_tup {h:Heap} {vs:List V} {y:Value} (hc:Conc B h (.tup vs) y):∃ c xs n,y=.ref c∧h.get? c=some (seqObj "tuple" (List.toArray xs) n)∧ConcL B h vs xs:=e3a4 (conc_tup' hc) fun c xs n a b d u1_=>(i3a3 c xs n a b d)
theorem isTup_of {h:Heap} {c:Addr} {xs:List Value} {n:Nat} (ho:h.get? c=some (seqObj "tuple" (List.toArray xs) n)):IsTup h c (List.toArray xs):=⟨_,ho,rfl,n,rfl⟩
theorem tr_tup_get {y:Value} (x:Abs B s.heap H) (hc:Conc B s.heap (.tup vs) y) {i:Nat} (hi:vs[i]? = some v) (hz:vs.length≤100000) (q:Q v H):Tr B A X (getItem y (.int i t)) H s (Ret B Q):=by
 refine e3a3 (conc_tup hc) fun c xs n z1 ho hl=>?_;clear hc;subst z1;refine e1a2 (hl.get hi) fun y hy hc=>?_;have hlen:=hl.length;have hi':i < vs.length:=(List.getElem?_eq_some_iff.mp hi).1;exact getItem_tuple (isTup_of ho) (by simp) (by lia) (j:=i) (seqIndex_of (Int.natCast_nonneg i) (Int.ofNat_lt.mpr (Nat.lt_of_lt_of_eq hi' hlen))) (by simpa using hy) (fin_same x hc q)
theorem tr_lenTup {y:Value} (x:Abs B s.heap H) (hc:Conc B s.heap (.tup vs) y) (hz:vs.length≤100000) (q:Q (.int vs.length) H):Tr B A X (call (.builtin "len") [y]) H s (Ret B Q):=by
 refine e3a3 (conc_tup hc) fun c xs n z2 ho hl=>?_;clear hc;subst z2;have hlen:=hl.length;refine len_tuple (isTup_of ho) (by refine List.size_toArray▸?_;lia) (fin_tok x (v:=.int vs.length) ⟨s.toks+1,?_⟩ q);rw [List.size_toArray,hlen]
end
theorem noFill_tuple_mul:fillsNumberSlot (.type "tuple") "mul" = pure false:=
 PySem.fillsNumberSlot_seq (id:="tuple.__mul__") (r:=some (.builtin "tuple.__rmul__")) F.slot_tuple_mul.lookup (by decide +kernel) F.slot_tuple_rmul.lookup (by decide +kernel)
theorem repeat_tuple:seqRepeat? (.type "tuple")=pure (some (.builtin "tuple.__mul__")):=by
 unfold seqRepeat?;refine PySem.seqSlot_of (T:="tuple") (name:="__mul__") (id:="tuple.__mul__") F.slot_tuple_mul.lookup (by decide +kernel)▸?_;refine PySem.seqSlot_of (T:="tuple") (name:="__rmul__") (id:="tuple.__rmul__") F.slot_tuple_rmul.lookup (by decide +kernel)▸?_;rfl
theorem int_rmul_tuple (a:Int) (t:Tok) (l:Addr) (items:Array Value) (n:Nat) :
  Meets (Builtin.«int.__rmul__» ⟨[.int a t,.ref l],[]⟩) (fun u1_ R s=>s.heap.get? l=some { cls:=.type "tuple",dict:=none,data:=.seq items n,slots:=#[] }∧R (.ok (.ret Value.notImplemented)) s):=
 .of_wp fun prog w A R s h=>by obtain ⟨hp,g,d,tk,os⟩:=s;refine e0a2 h fun hl h=>?_;wp_walk;exact i1a2 _ rfl h
theorem tuple_mul_ones (l:Addr) (items:Array Value) (n:Nat) (u:Tok) :
  Meets (Builtin.«tuple.__mul__» ⟨[.ref l,.int 1 u],[]⟩) (fun u1_ R s=>s.heap.get? l=some { cls:=.type "tuple",dict:=none,data:=.seq items n,slots:=#[] }∧R (.ok (.ret (.ref l))) s):=
 .of_wp fun prog w A R s h=>by
  obtain ⟨hp,g,d,tk,os⟩:=s;refine e0a2 h fun hl h=>?_
  wp_walk
  exact i1a2 _ rfl h
theorem tuple_mul_twice (l:Addr) (y:Value) (n:Nat) (u:Tok) :
  Meets (Builtin.«tuple.__mul__» ⟨[.ref l,.int 2 u],[]⟩) (fun u1_ R s=>s.heap.get? l=some { cls:=.type "tuple",dict:=none,data:=.seq #[y] n,slots:=#[] } ∧
   R (.ok (.ret (.ref s.heap.objs.size))) { s with heap:=s.heap.push { cls:=.type "tuple",data:=.seq #[y,y] } }):=
 .of_wp fun prog w A R s h=>by
  obtain ⟨hp,g,d,tk,os⟩:=s;refine e0a2 h fun hl h=>?_
  wp_walk
  exact i1a2 _ rfl h
section
variable {B:Bs} {A:Around} {X:List Addr} {H:AH} {s:Shared} {Q:V→AH→Prop} {a b:Addr} {vs ws:List V} {v:V} {t u:Tok}
theorem conc_tup_mk {h:Heap} {c:Addr} {xs:List Value} {n:Nat} {vs:List V} (hp:¬ B.priv c) (ho:h.get? c=some (seqObj "tuple" (List.toArray xs) n)) (hl:ConcL B h vs xs):Conc B h (.tup vs) (.ref c):=by
 simp only [Conc];exact i3a4 c xs n rfl ho hl hp
theorem tr_tup_add {y z:Value} (x:Abs B s.heap H) (hc:Conc B s.heap (.tup vs) y) (hd:Conc B s.heap (.tup ws) z) (hz:vs.length+ws.length≤100000) (q:Q (.tup (vs++ws)) H):Tr B A X (binaryOp .Add y z) H s (Ret B Q):=by
 refine e3a3 (conc_tup hc) fun c xs n z8 ho hl=>?_;subst z8;refine e3a3 (conc_tup hd) fun d ys n2 z7 ho2 hl2=>?_;subst z7;have hlen:=hl.length;have hlen2:=hl2.length;by_cases hv:xs=[]
 ·refine concat_meets (i1a2 _ ho rfl) (i1a2 _ ho2 rfl) noFill_tuple_add seq_tuple_add PySem.F.slot_tuple_add PySem.F.entry_tuple_add (PySem.F.args_tuple_add_2 _ _)
   (AutoSeq1.tuple___add___tuple_tuple_0 c (List.toArray xs) n d (List.toArray ys) n2 (by simp [hv])) (i0a3 ho ho2 ?_)
  have:vs=[]:=List.eq_nil_of_length_eq_zero (by rw [hlen,hv];rfl);replace q:=this▸q;exact fin_tok x hd q
 ·by_cases hw:ys=[]
  ·refine concat_meets (i1a2 _ ho rfl) (i1a2 _ ho2 rfl) noFill_tuple_add seq_tuple_add PySem.F.slot_tuple_add PySem.F.entry_tuple_add (PySem.F.args_tuple_add_2 _ _)
    (AutoSeq1.tuple___add___tuple_tuple_1 c (List.toArray xs) n d (List.toArray ys) n2 (by simpa using hv) (by simp [hw])) (i0a3 ho ho2 ?_)
   have:ws=[]:=List.eq_nil_of_length_eq_zero (by rw [hlen2,hw];rfl);rw [this,List.append_nil] at q;exact fin_tok x hc q
  ·have hsz:(List.toArray xs).size+(List.toArray ys).size≤sizeLine:=by
    have:(100000:Nat) < sizeLine:=by decide
    simp only [List.size_toArray];lia
   refine concat_meets (i1a2 _ ho rfl) (i1a2 _ ho2 rfl) noFill_tuple_add seq_tuple_add PySem.F.slot_tuple_add PySem.F.entry_tuple_add (PySem.F.args_tuple_add_2 _ _)
    (AutoSeq1.tuple___add___tuple_tuple_2 c (List.toArray xs) n d (List.toArray ys) n2 (by simpa using hv) (by simpa using hw) hsz) (i0a3 ho ho2 ?_)
   have k:∀ b o,s.heap.get? b=some o→(s.heap.push { cls:=Value.type "tuple",data:=Data.seq (List.toArray xs++List.toArray ys) }).get? b=some o:=fun b o e=>Heap.get?_push_of_some _ e;refine fin_grown (tk:=s.toks) x k (v:=.tup (vs++ws)) (conc_tup_mk (xs:=xs++ys) (n:=0) (x.notPriv (Nat.le_refl _)) ?_ ((hl.keep (.of_keeps k)).append (hl2.keep (.of_keeps k)))) q;refine (Heap.get?_push_size _ rfl).trans ?_;simp
theorem tr_tup_mul {y:Value} (x:Abs B s.heap H) (hc:Conc B s.heap (.tup [v]) y) {k:Nat} (hk:k=1∨k=2) (q:Q (.tup (List.replicate k v)) H):Tr B A X (binaryOp .Mult y (.int k t)) H s (Ret B Q):=by
 refine e3a3 (conc_tup hc) fun c xs n z9 ho hl=>?_;subst z9;obtain ⟨z,zs,rfl,hz,rfl⟩:∃ z zs,xs=z::zs∧Conc B s.heap v z∧zs=[]:=by simpa only [ConcL] using hl
 refine wpAny_binaryOp_repeat_ref (T:="tuple") (U:="int") (by decide) ⟨_,ho,rfl⟩ (fun s'=>typeIs_int s' _ t) noFill_tuple_mul F.fills_int_mul F.slot_int_rmul repeat_tuple F.slot_int_index.lookup
  (call_meets F.slot_int_rmul (typeIs_int s _ t) F.entry_int_rmul (F.args_int_rmul_2 _ _) (int_rmul_tuple k t c _ n) (i0a4 ho rfl ⟨_,ho,rfl⟩ ?_))
 rcases hk with rfl | rfl
 ·exact call_meets F.slot_tuple_mul ⟨_,ho,rfl⟩ F.entry_tuple_mul (F.args_tuple_mul_2 _ _) (tuple_mul_ones c _ n t) ⟨ho,fin_same x hc q⟩
 ·refine call_meets F.slot_tuple_mul ⟨_,ho,rfl⟩ F.entry_tuple_mul (F.args_tuple_mul_2 _ _) (tuple_mul_twice c z n t) ⟨ho,?_⟩;have k:∀ b o,s.heap.get? b=some o→(s.heap.push { cls:=Value.type "tuple",data:=Data.seq #[z,z] }).get? b=some o:=fun b o e=>Heap.get?_push_of_some _ e;have hz':=hz.keep (KeepT.of_keeps k);exact fin_grown (tk:=s.toks) x k (v:=.tup [v,v]) (conc_tup_mk (xs:=[z,z]) (n:=0) (x.notPriv (Nat.le_refl _)) (Heap.get?_push_size _ rfl) ⟨z,[z],rfl,hz',z,[],rfl,hz',rfl⟩) q
theorem tr_add {i j:Int} (x:Abs B s.heap H) (q:Q (.int (i+j)) H):Tr B A X (binaryOp .Add (.int i t) (.int j u)) H s (Ret B Q):=P.add_int (fin_tok x (v:=.int (i+j)) ⟨_,rfl⟩ q)
theorem tr_sub {i j:Int} (x:Abs B s.heap H) (q:Q (.int (i - j)) H):Tr B A X (binaryOp .Sub (.int i t) (.int j u)) H s (Ret B Q):=P.sub_int (fin_tok x (v:=.int (i - j)) ⟨_,rfl⟩ q)
theorem tr_mod {i j:Int} (x:Abs B s.heap H) (hj:j≠0) (q:Q (.int (i.fmod j)) H):Tr B A X (binaryOp .Mod (.int i t) (.int j u)) H s (Ret B Q):=PyProof.Rows.mod_int' hj (fin_tok x (v:=.int (i.fmod j)) ⟨_,rfl⟩ q)
theorem tr_fdiv {i j:Int} (x:Abs B s.heap H) (hj:j≠0) (hs:j.natAbs < 1073741824) (q:Q (.int (i.fdiv j)) H):Tr B A X (binaryOp .FloorDiv (.int i t) (.int j u)) H s (Ret B Q):=PyProof.Rows.floordiv_int hj (fin_tok x (v:=.int (i.fdiv j)) ⟨_,rfl⟩ q) (.inl (PyProof.noPylong_small hs))
theorem tr_mul {i j:Int} (x:Abs B s.heap H) (hi:0≤i∧i < 2 ^ 32) (hj:0≤j∧j < 2 ^ 32) (q:Q (.int (i * j)) H):Tr B A X (binaryOp .Mult (.int i t) (.int j u)) H s (Ret B Q):=
 P.mul_int (fin_tok x (v:=.int (i * j)) ⟨_,rfl⟩ q) (by mul_fits)
end
mutual
noncomputable def veq:V→V→Bool
 | .none,.none=>true
 | .int i,.int j=>i == j
 | .str s,.str t=>s == t
 | .tup vs,.tup ws=>veqL vs ws
 | _,_=>false
noncomputable def veqL:List V→List V→Bool
 | [],[]=>true
 | v::vs,w::ws=>veq v w && veqL vs ws
 | _,_=>false
end
mutual
noncomputable def V.flat:V→Bool
 | .none=>true
 | .int _=>true
 | .str _=>true
 | .tup vs=>V.flatL vs
 | _=>false
noncomputable def V.flatL:List V→Bool
 | []=>true
 | v::vs=>v.flat && V.flatL vs
end
mutual
theorem veq_iff:∀ (v w:V),v.flat=true→(veq v w=true↔v=w)
 | .none,w,_=>by rcases w with _ | _ <;> first | exact ⟨fun _=>rfl,fun _=>rfl⟩ | exact ⟨fun h=>z_ft h,fun h=>V.noConfusion h⟩
 | .int i,w,_=>by rcases w with _ | _ <;> first | exact ⟨fun h=>congrArg V.int (eq_of_beq h),fun h=>V.int.inj h▸beq_self_eq_true i⟩ | exact ⟨fun h=>z_ft h,fun h=>V.noConfusion h⟩
 | .str i,w,_=>by rcases w with _ | _ <;> first | exact ⟨fun h=>congrArg V.str (eq_of_beq h),fun h=>V.str.inj h▸beq_self_eq_true i⟩ | exact ⟨fun h=>z_ft h,fun h=>V.noConfusion h⟩
 | .tup vs,w,h=>by rcases w with _ | _ <;> first | exact (veqL_iff vs _ h).trans ⟨congrArg V.tup,V.tup.inj⟩ | exact ⟨fun h=>z_ft h,fun h=>V.noConfusion h⟩
 | .bool _,_,h=>z_ft h
 | .ref _,_,h=>z_ft h
theorem veqL_iff:∀ (vs ws:List V),V.flatL vs=true→(veqL vs ws=true↔vs=ws)
 | [],ws,_=>by induction ws <;> first | exact ⟨fun _=>rfl,fun _=>rfl⟩ | exact ⟨fun h=>z_ft h,fun h=>nomatch h⟩
 | v::vs,ws,h=>by
  have h:=Bool.and_eq_true_iff.mp h;induction ws with
  | nil=>exact ⟨fun h=>z_ft h,fun h=>nomatch h⟩
  | cons w ws=>
   exact ⟨fun e=>(veq_iff v w h.1).mp (Bool.and_eq_true_iff.mp e).1▸(veqL_iff vs ws h.2).mp (Bool.and_eq_true_iff.mp e).2▸rfl,fun e=>Bool.and_eq_true_iff.mpr ⟨(veq_iff v w h.1).mpr (List.cons.inj e).1,(veqL_iff vs ws h.2).mpr (List.cons.inj e).2⟩⟩
end
theorem veqL_range:∀ (vs ws:List V),veqL vs ws=((List.range (min vs.length ws.length)).all (fun i=>veq (vs.getD i .none) (ws.getD i .none)) && vs.length == ws.length):=by
 intro vs;induction vs with
 | nil=>
  intro ws;induction ws with
  | nil=>
   exact rfl
  | cons w ws=>
   exact rfl
 | cons v vs ih_=>
  intro ws;induction ws with
  | nil=>
   exact rfl
  | cons w ws=>
   have ih:=ih_ ws;show (veq v w && veqL vs ws)=_;rw [ih];simp only [List.length_cons];rw [show min (vs.length+1) (ws.length+1)=min vs.length ws.length+1 by simp,List.range_succ_eq_map,List.all_cons,List.all_map];have e:(vs.length+1 == ws.length+1)=(vs.length == ws.length):=by
    by_cases h:vs.length=ws.length <;> simp [h]
   simp only [e,Bool.and_assoc];rfl
mutual
noncomputable def V.deep:V→Nat
 | .tup vs=>V.deepL vs+1
 | _=>0
noncomputable def V.deepL:List V→Nat
 | []=>0
 | v::vs=>max v.deep (V.deepL vs)
end
theorem V.deep_get:∀ (vs:List V) (i:Nat) (v:V),vs[i]? = some v→v.deep≤V.deepL vs:=by
 intro vs;induction vs with
 | nil=>intro i v h;exact no_get h
 | cons w vs ih=>
  intro i v h;induction i with
  | zero=>exact Option.some.inj h▸Nat.le_max_left _ _
  | succ i=>exact Nat.le_trans (ih i v h) (Nat.le_max_right _ _)
theorem V.flat_get:∀ (vs:List V) (i:Nat) (v:V),V.flatL vs=true→vs[i]? = some v→v.flat=true:=by
 intro vs;induction vs with
 | nil=>intro i v f h;exact no_get h
 | cons w vs ih=>
  intro i v f h;have f:=Bool.and_eq_true_iff.mp f;induction i with
  | zero=>exact Option.some.inj h▸f.1
  | succ i=>exact ih i v f.2 h
theorem isTuple_of {h:Heap} {c:Addr} {xs:List Value} {n:Nat} (ho:h.get? c=some (seqObj "tuple" (List.toArray xs) n)):h.IsTuple c (List.toArray xs):=⟨_,ho,rfl,n,rfl⟩
set_option tactic.hygienic true in
mutual
theorem conc_inj {h:Heap}:∀ {v w:V} {x:Value},v.flat=true→w.flat=true→Conc B h v x→Conc B h w x→v=w
 | .none,w,x,_,hw,e,e'=>by
  have e:x=.none:=e;subst e;rcases w with _ | _ <;> first | rfl | exact z_ft hw | (obtain ⟨t,e'⟩:=e';exact nomatch e') | (obtain ⟨c,xs,n,e',h_⟩:=e';exact nomatch e')
 | .int i,w,x,_,hw,e,e'=>by
  obtain ⟨t,rfl⟩:=e;rcases w with _ | _ <;> first | exact z_ft hw | (obtain ⟨u,e'⟩:=e';exact congrArg V.int (Value.int.inj e').1) | exact nomatch e' | (obtain ⟨u,e'⟩:=e';exact nomatch e') | (obtain ⟨c,xs,n,e',h_⟩:=e';exact nomatch e')
 | .str i,w,x,_,hw,e,e'=>by
  obtain ⟨t,rfl⟩:=e;rcases w with _ | _ <;> first | exact z_ft hw | (obtain ⟨u,e'⟩:=e';exact congrArg V.str (Value.str.inj e').1) | exact nomatch e' | (obtain ⟨u,e'⟩:=e';exact nomatch e') | (obtain ⟨c,xs,n,e',h_⟩:=e';exact nomatch e')
 | .tup vs,w,x,hv,hw,e,e'=>by
  obtain ⟨c,xs,n,rfl,ho,hl,h_⟩:=e;clear h_;rcases w with _ | b | i | i | b | ws
  ·exact nomatch e'
  ·exact z_ft hw
  ·obtain ⟨t,e'⟩:=e';exact nomatch e'
  ·obtain ⟨t,e'⟩:=e';exact nomatch e'
  ·exact z_ft hw
  ·obtain ⟨c',xs',n',hc,ho',hl',h_⟩:=e';clear h_;cases Value.ref.inj hc;have hxs:xs=xs':=congrArg (fun o:Obj=>match o.data with | .seq its _=>its.toList | _=>[]) (Option.some.inj (ho.symm.trans ho'));clear ho' ho hc;subst hxs;exact congrArg V.tup (concL_inj hv hw hl hl')
 | .bool _,_,_,h,_,_,_=>z_ft h
 | .ref _,_,_,h,_,_,_=>z_ft h
theorem concL_inj {h:Heap}:∀ {vs ws:List V} {xs:List Value},V.flatL vs=true→V.flatL ws=true→ConcL B h vs xs→ConcL B h ws xs→vs=ws
 | [],ws,xs,_,_,e,e'=>by
  have e:xs=[]:=e;subst e;induction ws with
  | nil=>rfl
  | cons w ws=>obtain ⟨_,_,h,_⟩:=e';exact nomatch h
 | v::vs,ws,xs,hv,hw,e,e'=>by
  obtain ⟨y,ys,rfl,h1,h2⟩:=e;have hv:=Bool.and_eq_true_iff.mp hv;induction ws with
  | nil=>exact nomatch e'
  | cons w ws=>
   obtain ⟨y',ys',e0,h1',h2'⟩:=e';have hw:=Bool.and_eq_true_iff.mp hw;have e1:=List.cons.inj e0;exact conc_inj hv.1 hw.1 h1 (e1.1▸h1')▸concL_inj hv.2 hw.2 h2 (e1.2▸h2')▸rfl
end
set_option tactic.hygienic true in
open SeqAt in
theorem eqAt_V:∀ (n:Nat) (A:Around) (s:Shared) (v w:V) (x y:Value),v.deep≤n→v.flat=true→w.flat=true→A.units+n < cLine→Conc B s.heap v x→Conc B s.heap w y→EqAt A s x y (veq v w):=by
 intro n;induction n with
 | zero=>
  intro A s v w x y hd hv hw hu hx hy;rcases v with _ | _ <;> (try exact z_ft hv) <;> (try exact absurd hd (Nat.not_succ_le_zero _)) <;> rcases w with _ | _ <;> (try exact z_ft hw)
  ·obtain rfl:=hx;obtain rfl:=hy;exact .same _
  ·obtain ⟨t,rfl⟩:=hy;obtain rfl:=hx;exact .none_int _ _
  ·obtain ⟨t,rfl⟩:=hy;obtain rfl:=hx;exact .none_str _ _
  ·refine e3a3 (conc_tup hy) fun c xs n z11 ho hl=>?_;clear hy;subst z11;obtain rfl:=hx;exact .none_tuple (isTuple_of ho) (by assumption)
  ·obtain ⟨t,rfl⟩:=hx;obtain rfl:=hy;exact .int_none _ _
  ·obtain ⟨t,rfl⟩:=hx;obtain ⟨u,rfl⟩:=hy;exact .int_int _ _ _ _
  ·obtain ⟨t,rfl⟩:=hx;obtain ⟨u,rfl⟩:=hy;exact .int_str _ _ _ _
  ·obtain ⟨t,rfl⟩:=hx;refine e3a3 (conc_tup hy) fun c xs n z18 ho hl=>?_;clear hy;subst z18;exact .int_tuple _ _ (isTuple_of ho) (by lia)
  ·obtain ⟨t,rfl⟩:=hx;obtain rfl:=hy;exact .str_none _ _
  ·obtain ⟨t,rfl⟩:=hx;obtain ⟨u,rfl⟩:=hy;exact .str_int _ _ _ _
  ·obtain ⟨t,rfl⟩:=hx;obtain ⟨u,rfl⟩:=hy;exact .str_str _ _ _ _
  ·obtain ⟨t,rfl⟩:=hx;refine e3a3 (conc_tup hy) fun c xs n z25 ho hl=>?_;clear hy;subst z25;exact .str_tuple _ _ (isTuple_of ho) (by lia)
 | succ n ih=>
  intro A s v w x y hd hv hw hu hx hy;by_cases hd0:v.deep≤n
  ·exact ih A s v w x y hd0 hv hw (by lia) hx hy
  rcases v with _ | _ <;> (try exact absurd (Nat.zero_le _) hd0)
  rename_i vs;have hd:V.deepL vs+1≤n+1:=hd;refine e3a3 (conc_tup hx) fun c xs k z26 ho hl=>?_;subst z26;rcases w with _ | _ <;> (try exact z_ft hw)
  ·obtain rfl:=hy;exact .tuple_none (isTuple_of ho) (by lia)
  ·obtain ⟨t,rfl⟩:=hy;exact .tuple_int _ _ (isTuple_of ho) (by lia)
  ·obtain ⟨t,rfl⟩:=hy;exact .tuple_str _ _ (isTuple_of ho) (by lia)
  ·rename_i ws;refine e3a3 (conc_tup hy) fun d ys k' z29 ho' hl'=>?_;subst z29;by_cases hcd:c=d
   ·clear ho';subst hcd;have e:=conc_inj (v:=.tup vs) (w:=.tup ws) hv hw hx hy;have e2:veq (.tup vs) (.tup ws)=true:=(veq_iff _ _ hv).mpr e;simp only [e2];exact .same _
   ·have hlen:=hl.length;have hlen':=hl'.length;refine .of_refs hcd ?_;have r:=RcAt.tuples (A:=A) (s:=s) (e:=fun i=>veq (vs.getD i .none) (ws.getD i .none)) (isTuple_of ho) (isTuple_of ho') (by lia) (fun j h1 h2=>?_)
    ·rw [show veq (.tup vs) (.tup ws)=veqL vs ws from rfl];simp only [veqL_range,hlen,hlen'];simpa using r
    ·simp only [List.size_toArray] at h1 h2;refine e1a2 (hl.get' (i:=j) (x:=xs[j]) (by simp [h1])) fun v hv1 hv2=>?_;refine e1a2 (hl'.get' (i:=j) (x:=ys[j]) (by simp [h2])) fun w hw1 hw2=>?_;have:=ih A.in1 s v w xs[j] ys[j] (Nat.le_trans (V.deep_get _ _ _ hv1) (by lia)) (V.flat_get _ _ _ hv hv1) (V.flat_get _ _ _ hw hw1) (by simp only [Around.in1_units];lia) hv2 hw2;rw [show vs.getD j .none=v by simp [hv1],show ws.getD j .none=w by simp [hw1]];exact this
section
variable {K:Type} [DecidableEq K]
noncomputable def dget (kvs:List (K × V)) (k:K):Option V:=(kvs.find? fun kv=>decide (kv.1=k)).map (·.2)
noncomputable def dput (kvs:List (K × V)) (k:K) (v:V):List (K × V):=
 if kvs.any (fun kv=>decide (kv.1=k)) then kvs.map (fun kv=>if kv.1=k then (kv.1,v) else kv) else kvs++[(k,v)]
noncomputable def ddel (kvs:List (K × V)) (k:K):List (K × V):=kvs.filter fun kv=>decide (kv.1≠k)
theorem pv_get {h:Heap} {k:K}:∀ {kvs:List (K × V)} {xs:List (K × Value)},All2 (PV B h) kvs xs→(dget kvs k=none∧valueAt xs k=none)∨∃ v y,dget kvs k=some v∧valueAt xs k=some y∧Conc B h v y:=by
 intro kvs xs r_;induction r_ with
 | nil=>exact .inl ⟨rfl,rfl⟩
 | @cons p_ q_ l m a r ih_=>
  obtain ⟨k1,v1⟩:=p_;obtain ⟨k2,y2⟩:=q_;obtain ⟨e,c⟩:=a;simp only at e c;subst e;unfold dget valueAt;by_cases hk:k1=k
  ·right;exact i2a3 v1 y2 (by simp [hk]) (by simp [hk]) c
  ·simp only [List.find?_cons,hk,decide_false];exact ih_
theorem pv_any {h:Heap} {k:K}:∀ {kvs:List (K × V)} {xs:List (K × Value)},All2 (PV B h) kvs xs→kvs.any (fun kv=>decide (kv.1=k))=xs.any (fun kv=>decide (kv.1=k)):=by
 intro kvs xs r_;induction r_ with
 | nil=>exact rfl
 | @cons p_ q_ l m a r ih_=>
  obtain ⟨k1,v1⟩:=p_;obtain ⟨k2,y2⟩:=q_;obtain ⟨e,c⟩:=a;simp only at e;clear c;subst e;simp only [List.any_cons,ih_]
theorem pv_map {h:Heap} {k:K} {v:V} {y:Value} (hc:Conc B h v y):∀ {kvs:List (K × V)} {xs:List (K × Value)},All2 (PV B h) kvs xs →
  All2 (PV B h) (kvs.map (fun kv=>if kv.1=k then (kv.1,v) else kv)) (xs.map (fun kv=>if kv.1=k then (kv.1,y) else kv)):=by
 intro kvs xs r_;induction r_ with
 | nil=>exact .nil
 | @cons p_ q_ l m a r ih_=>
  obtain ⟨k1,v1⟩:=p_;obtain ⟨k2,y2⟩:=q_;obtain ⟨e,c⟩:=a;simp only at e c;subst e;refine .cons ?_ (ih_);by_cases hk:k1=k
  ·simp only [hk,if_true];exact ⟨rfl,hc⟩
  ·simp only [hk,if_false];exact ⟨rfl,c⟩
theorem pv_put {h:Heap} {k:K} {v:V} {y:Value} (hc:Conc B h v y) {kvs:List (K × V)} {xs:List (K × Value)} (a:All2 (PV B h) kvs xs):All2 (PV B h) (dput kvs k v) (stored xs k y):=by
 unfold dput stored;rw [pv_any a];split
 ·exact pv_map hc a
 ·exact a.append (.cons ⟨rfl,hc⟩ .nil)
theorem pv_del {h:Heap} {k:K}:∀ {kvs:List (K × V)} {xs:List (K × Value)},All2 (PV B h) kvs xs→All2 (PV B h) (ddel kvs k) (without xs k):=by
 intro kvs xs r_;induction r_ with
 | nil=>exact .nil
 | @cons p_ q_ l m a r ih_=>
  obtain ⟨k1,v1⟩:=p_;obtain ⟨k2,y2⟩:=q_;obtain ⟨e,c⟩:=a;simp only at e c;subst e;unfold ddel without;by_cases hk:k1=k
  ·simp only [List.filter_cons,hk,ne_eq,not_true_eq_false,decide_false,Bool.false_eq_true,if_false];exact ih_
  ·simp only [List.filter_cons,hk,ne_eq,not_false_eq_true,decide_true,if_true];exact .cons ⟨rfl,c⟩ (ih_)
theorem dget_none_any {kvs:List (K × V)} {k:K} (h:dget kvs k=none):kvs.any (fun kv=>decide (kv.1=k))=false:=by
 unfold dget at h;rw [Option.map_eq_none_iff,List.find?_eq_none] at h;refine List.any_eq_false.mpr ?_;exact h
theorem dput_new {kvs:List (K × V)} {k:K} {v:V} (h:dget kvs k=none):dput kvs k v=kvs++[(k,v)]:=by
 unfold dput;refine dget_none_any h▸?_;rfl
variable {prog:Program} {w:World} {knd:KeyKind prog w K} {A:Around} {E:Value→Shared→Prop} {s:Shared} {d:Addr} {k:K} {key:Value}
theorem setDefault_new {xs:List (K × Value)} {dflt:Value} {Q:Value→Shared→Prop} (hkey:knd.is k key=true) (hm:s.heap.DictOf knd d xs) (hv:valueAt xs k=none) (hsz:xs.length≤sizeLine)
  (hQ:∀ h',h'.DictOf knd d (stored xs k dflt)→Heap.SameBut d s.heap h'→Q dflt { s with heap:=h',toks:=s.toks+1 }):wpAny (model prog w) A (dictSetDefault d key dflt) Q E s:=by
 refine e3a6 hm fun o es ep ho hc hd hk hp hn=>?_;have hes:es.size≤sizeLine:=Nat.le_trans (Nat.le_of_eq hp.length) hsz;refine wpAny_holding (wpAny_bind (knd.pyHash hkey (wpAny_bind (wpAny_dictFind_of hkey ho hd hk ?_))));have hfi:(es.findIdx? fun e=>knd.is k e.key)=none:=by
  have h1:=hp.findIdx k;have h2:(xs.findIdx? fun kv=>decide (kv.1=k))=none:=by
   refine List.findIdx?_eq_none_iff.mpr ?_;intro x hx;unfold valueAt at hv;replace hv:=List.find?_eq_none.mp (Option.map_eq_none_iff.mp hv);simpa using hv x hx
  rw [h2] at h1;obtain ⟨l⟩:=es;rw [List.findIdx?_toArray];exact h1
 rw [hfi];dsimp only;refine wpAny_bind (wpAny_rule (wpAny_bind (wpAny_updateDictKeys (hz:=hes) ho hd (wpAny_pure ?_))));have hnot:k ∉ xs.map (·.1):=by
  intro hm;refine e1a2 (List.mem_map.mp hm) fun x hx e=>?_;unfold valueAt at hv;replace hv:=List.find?_eq_none.mp (Option.map_eq_none_iff.mp hv);exact hv x hx (by simpa using e)
 refine hQ _ (i3a6 _ _ (ep+1) (Heap.get?_update_self _ ho (Obj.isFreed_of_dict (Obj.data_mapDictKeys hd _))) (hc.mapDictKeys _) (Obj.data_mapDictKeys hd _) (hk.push hkey dflt) ?_ ?_) (Heap.SameBut.update ..)
 ·have hst:stored xs k dflt=xs++[(k,dflt)]:=by
   unfold stored;rw [if_neg];intro ha;obtain ⟨x,hx,e⟩:=List.any_eq_true.mp ha;exact hnot (List.mem_map.mpr ⟨x,hx,by simpa using e⟩)
  simp only [hst,Array.toList_push];exact hp.append hkey _ dflt
 ·have hst:stored xs k dflt=xs++[(k,dflt)]:=by
   unfold stored;rw [if_neg];intro ha;obtain ⟨x,hx,e⟩:=List.any_eq_true.mp ha;exact hnot (List.mem_map.mpr ⟨x,hx,by simpa using e⟩)
  rw [hst,List.map_append,List.nodup_append];refine i0a3 hn (by simp) ?_;intro a ha b hb;simp at hb;clear hkey hv hQ hfi hst;refine z_er hb ?_;exact fun e=>hnot (e▸ha)
end
section
variable {B:Bs} {A:Around} {X:List Addr} {H:AH} {s:Shared} {Q:V→AH→Prop} {a:Addr} {v:V} {t:Tok}
theorem pv_len {K:Type} {h:Heap} {kvs:List (K × V)} {xs:List (K × Value)} (a:All2 (PV B h) kvs xs):xs.length=kvs.length:=a.length.symm
theorem tr_idict_get {kvs:List (Int × V)} {i:Int} (x:Abs B s.heap H) (ha:H a=some (.idict kvs)) (hv:dget kvs i=some v) (q:Q v H):Tr B A X (getItem (.ref a) (.int i t)) H s (Ret B Q):=by
 refine e1a2 (x.cell _ _ ha) fun xs hm hp=>?_;rcases pv_get (k:=i) hp with ⟨h1,_⟩ | ⟨v',y,h1,h2,hc⟩
 ·replace hv:=h1.symm.trans hv;exact z_ns hv
 ·replace hv:=h1.symm.trans hv;clear h1;cases hv;exact wpAny_getItem_of (intKind_is _ _ _ _) hm.mapOf h2 (fin_tok x hc q)
theorem tr_idict_notin {kvs:List (Int × V)} {i:Int} (x:Abs B s.heap H) (ha:H a=some (.idict kvs)) (q:Q (.bool (!(dget kvs i).isSome)) H):Tr B A X (compareOp .NotIn (.int i t) (.ref a)) H s (Ret B Q):=by
 refine e1a2 (x.cell _ _ ha) fun xs hm hp=>?_;refine wpAny_notIn_of (intKind_is _ _ _ _) (x.mods ha) hm.mapOf (fin_tok x (v:=.bool (!(dget kvs i).isSome)) ?_ q);rcases pv_get (k:=i) hp with ⟨h1,h2⟩ | ⟨v',y,h1,h2,hc⟩ <;> rw [h1,h2] <;> rfl
theorem small_line {n:Nat} (h:n≤100000):n≤sizeLine:=Nat.le_trans h (by decide)
theorem keepT_turn {B:Bs} {h h':Heap} {H:AH} {a:Addr} {c:Cell} (x:Abs B h H) (ha:H a=some c) (hs:Heap.SameBut a h h'):KeepT B h h':=by
 refine e1a2 ((x.cell _ _ ha).notTup) fun o ho hn=>?_;exact .sameBut hs ho hn
theorem tr_idict_set {Q:AH→Prop} {kvs:List (Int × V)} {i:Int} {y:Value} (x:Abs B s.heap H) (ha:H a=some (.idict kvs)) (hz:kvs.length≤100000) (hc:Conc B s.heap v y) (q:Q (H.put a (.idict (dput kvs i v)))) :
  Tr B A X (setItem (.ref a) (.int i t) y) H s (Ret0 Q):=by
 refine e1a2 (x.cell _ _ ha) fun xs hm hp=>?_;refine wpAny_setItem_pairs (intKind_is _ _ _ _) hm (fun h' hm' hs=>?_) (by refine pv_len hp▸?_;exact small_line hz);have k:=keepT_turn x ha hs;exact fin_turn0 (a:=a) (c':=.idict (dput kvs i v)) x ha hs (i1a2 _ hm' (pv_put (hc.keep k) (hp.imp fun u1_ u2_ e=>⟨e.1,e.2.keep k⟩))) q
theorem tr_idict_pop {kvs:List (Int × V)} {i:Int} (x:Abs B s.heap H) (ha:H a=some (.idict kvs)) (hz:kvs.length≤100000) (hv:dget kvs i=some v) (q:Q v (H.put a (.idict (ddel kvs i)))) :
  Tr B A X (call (.builtin "dict.pop") [.ref a,.int i t]) H s (Ret B Q):=by
 refine e1a2 (x.cell _ _ ha) fun xs hm hp=>?_;rcases pv_get (k:=i) hp with ⟨h1,_⟩ | ⟨v',y,h1,h2,hc⟩
 ·replace hv:=h1.symm.trans hv;exact z_ns hv
 replace hv:=h1.symm.trans hv;clear h1;cases hv;refine call_meetsIn PySem.F.slot_dict_pop hm.typeIs PySem.F.entry_dict_pop (PySem.F.args_dict_pop_2 _ _) (meets_dict_pop_there (knd:=intKind B.prog B.w) (d:=a) (intKind_is _ _ _ _) [] (.inl rfl) (by rfl))
  ⟨xs,y,hm,by refine pv_len hp▸?_;exact small_line hz,h2,fun h' hm' hs=>?_⟩
 have k:=keepT_turn x ha hs;exact fin_turn (a:=a) (c':=.idict (ddel kvs i)) x ha hs (i1a2 _ hm' (pv_del (hp.imp fun u1_ u2_ e=>⟨e.1,e.2.keep k⟩))) (hc.keep k) q
theorem tr_idict_dget {kvs:List (Int × V)} {i:Int} (x:Abs B s.heap H) (ha:H a=some (.idict kvs)) (q:Q ((dget kvs i).getD .none) H):Tr B A X (call (.builtin "dict.get") [.ref a,.int i t]) H s (Ret B Q):=by
 refine e1a2 (x.cell _ _ ha) fun xs hm hp=>?_;refine call_meetsIn PySem.F.slot_dict_get hm.typeIs PySem.F.entry_dict_get (PySem.F.args_dict_get_2 _ _) (meets_dict_get (knd:=intKind B.prog B.w) (d:=a) (intKind_is _ _ _ _) (x.mods ha)) (i1a2 (valueAt xs) hm.mapOf ?_);refine fin_tok x (v:=(dget kvs i).getD .none) ?_ q;rcases pv_get (k:=i) hp with ⟨h1,h2⟩ | ⟨v',y,h1,h2,hc⟩ <;> rw [h1,h2]
 ·rfl
 ·exact hc
theorem setdef_call {prog:Program} {w:World} {A:Around} {E:Value→Shared→Prop} {s:Shared} {d:Addr} {key dflt:Value} {Q:Value→Shared→Prop} (hT:s.TypeIs (.ref d) "dict") (hd:(d == sysModules)=false)
  (h:wpAny (model prog w) A.in1 (dictSetDefault d key dflt) Q (fun u1_ u2_=>False) s):wpAny (model prog w) A (call (.builtin "dict.setdefault") [.ref d,key,dflt]) Q E s:=by
 refine call_meetsIn (S:=fun A' R s'=>s'.TypeIs (.ref d) "dict"∧wpAny (model prog w) A'.in1 (dictSetDefault d key dflt) (fun v s''=>R (.ok (.ret v)) s'') (fun u3_ u4_=>False) s') PySem.F.slot_dict_setdefault hT PySem.F.entry_dict_setdefault (PySem.F.args_dict_setdefault_3 _ _ _)
  (.of_wp fun A' R s' z1=>e0a2 z1 fun hT' h'=>?_) ⟨hT,h⟩
 unfold Builtin.«dict.setdefault»;refine wpAny_bind ?_;refine wpAny_bind (wpAny_notOrdered_dict hT' ?_);show wpAny _ _ (pure (d,key,some dflt)) _ _ s';refine wpAny_pure ?_;show wpAny _ _ (if (d == sysModules)=true then _ else (dictSetDefault d key dflt >>= _)) _ _ s';rw [if_neg (by refine hd▸?_;exact Bool.false_ne_true)];exact wpAny_bind (wpAny_mono h' (fun v s'' hr=>wpAny_pure (i1a2 v rfl hr)) fun u5_ u6_ e=>e.elim)
theorem setDefault_old {K:Type} [DecidableEq K] {prog:Program} {w:World} {knd:KeyKind prog w K} {A:Around} {E:Value→Shared→Prop} {s:Shared} {d:Addr} {k:K} {key:Value} {xs:List (K × Value)} {dflt y:Value} {Q:Value→Shared→Prop}
  (hkey:knd.is k key=true) (hm:s.heap.DictOf knd d xs) (hv:valueAt xs k=some y) (hQ:Q y { s with toks:=s.toks+1 }):wpAny (model prog w) A (dictSetDefault d key dflt) Q E s:=by
 refine e3a6 hm fun o es ep ho hc hd hk hp hn=>?_;refine wpAny_holding (wpAny_bind (knd.pyHash hkey (wpAny_bind (wpAny_dictFind_of hkey ho hd hk ?_))));have h1:(es.findIdx? fun e=>knd.is k e.key)=xs.findIdx? fun kv=>decide (kv.1=k):=by
  have h1:=hp.findIdx k;obtain ⟨l⟩:=es;rw [List.findIdx?_toArray];exact h1
 have hex:∃ i,(es.findIdx? fun e=>knd.is k e.key)=some i:=by
  induction hf:es.findIdx? fun e=>knd.is k e.key with
  | some i=>exact ⟨i,rfl⟩
  | none=>
   rw [hf] at h1;have:=h1.symm;rw [List.findIdx?_eq_none_iff] at this;unfold valueAt at hv;refine e1a2 (Option.map_eq_some_iff.mp hv) fun x hx u1_=>?_;have:=this x (List.mem_of_find?_eq_some hx);simp [List.find?_some hx] at this
 refine e1a1 hex fun i hi=>?_;refine hi▸?_;dsimp only;refine wpAny_bind (wpAny_dictEntries ho hd ?_);have hfind:=hp.find k;replace hfind:=hv▸hfind;have hi':(es.find? fun e=>knd.is k e.key).map (·.val)=es[i]?.map (·.val):=by
  have:=findBy_of_findIdx? knd.is es k;unfold findBy at this;simp only [this,hi]
 have hval:es[i]?.map (·.val)=some y:=by
  simp only [← hi',← hfind];obtain ⟨l⟩:=es;simp
 refine e1a2 (Option.map_eq_some_iff.mp hval) fun e he z1=>?_;clear hv hfind hval;subst z1;refine he▸?_;exact wpAny_bind (wpAny_rule (wpAny_pure hQ))
theorem tr_idict_setdefault {kvs:List (Int × V)} {i:Int} {y:Value} (x:Abs B s.heap H) (ha:H a=some (.idict kvs)) (hz:kvs.length≤100000) (hc:Conc B s.heap v y)
  (q:match dget kvs i with | some u=>Q u H | none=>Q v (H.put a (.idict (kvs++[(i,v)])))):Tr B A X (call (.builtin "dict.setdefault") [.ref a,.int i t,y]) H s (Ret B Q):=by
 refine e1a2 (x.cell _ _ ha) fun xs hm hp=>?_;refine setdef_call hm.typeIs (x.mods ha) ?_;rcases pv_get (k:=i) hp with ⟨h1,h2⟩ | ⟨v',y',h1,h2,hc'⟩
 ·rw [h1] at q;refine setDefault_new (knd:=intKind B.prog B.w) (intKind_is _ _ _ _) hm h2 (by refine pv_len hp▸?_;exact small_line hz) fun h' hm' hs=>?_;have k:=keepT_turn x ha hs;rw [← dput_new h1] at q;exact fin_turn (a:=a) (c':=.idict (dput kvs i v)) x ha hs (i1a2 _ hm' (pv_put (hc.keep k) (hp.imp fun u1_ u2_ e=>⟨e.1,e.2.keep k⟩))) (hc.keep k) q
 ·rw [h1] at q;exact setDefault_old (knd:=intKind B.prog B.w) (intKind_is _ _ _ _) hm h2 (fin_tok x hc' q)
theorem tr_lenDict {kvs:List (Int × V)} (x:Abs B s.heap H) (ha:H a=some (.idict kvs)) (hz:kvs.length≤100000) (q:Q (.int kvs.length) H):Tr B A X (call (.builtin "len") [.ref a]) H s (Ret B Q):=by
 refine e1a2 (x.cell _ _ ha) fun xs hm hp=>?_;refine call_len_dict (x.mods ha) hm (by refine pv_len hp▸?_;lia) (fin_tok x (v:=.int kvs.length) ⟨s.toks+1,?_⟩ q);exact pv_len hp▸rfl
theorem tr_sdict_get {kvs:List (Str × V)} {k:Str} (x:Abs B s.heap H) (ha:H a=some (.sdict kvs)) (hv:dget kvs k=some v) (q:Q v H):Tr B A X (getItem (.ref a) (.str k t)) H s (Ret B Q):=by
 refine e1a2 (x.cell _ _ ha) fun xs hm hp=>?_;rcases pv_get (k:=k) hp with ⟨h1,_⟩ | ⟨v',y,h1,h2,hc⟩
 ·replace hv:=h1.symm.trans hv;exact z_ns hv
 ·replace hv:=h1.symm.trans hv;clear h1;cases hv;exact wpAny_getItem_of (strKind_is _ _ _ _) hm.mapOf h2 (fin_tok x hc q)
theorem tr_sdict_set {Q:AH→Prop} {kvs:List (Str × V)} {k:Str} {y:Value} (x:Abs B s.heap H) (ha:H a=some (.sdict kvs)) (hz:kvs.length≤100000) (hc:Conc B s.heap v y) (q:Q (H.put a (.sdict (dput kvs k v)))) :
  Tr B A X (setItem (.ref a) (.str k t) y) H s (Ret0 Q):=by
 refine e1a2 (x.cell _ _ ha) fun xs hm hp=>?_;refine wpAny_setItem_pairs (strKind_is _ _ _ _) hm (fun h' hm' hs=>?_) (by refine pv_len hp▸?_;exact small_line hz);have kk:=keepT_turn x ha hs;exact fin_turn0 (a:=a) (c':=.sdict (dput kvs k v)) x ha hs (i1a2 _ hm' (pv_put (hc.keep kk) (hp.imp fun u1_ u2_ e=>⟨e.1,e.2.keep kk⟩))) q
end
noncomputable def atomV:Str ⊕ Int→V
 | .inl s=>.str s
 | .inr i=>.int i
noncomputable def nodeV (ks:List (Str ⊕ Int)):V:=.tup (ks.map atomV)
theorem itemsAre_of {prog:Program} {w:World} {h:Heap}:∀ {ks:List (Str ⊕ Int)} {xs:List Value},ConcL B h (ks.map atomV) xs→ItemsAre (atomKind prog w) ks xs:=by
 intro ks;induction ks with
 | nil=>
  intro xs e;simp only [List.map_nil,ConcL] at e;refine z_er e ?_;exact .nil
 | cons k ks ih_=>
  intro xs e;simp only [List.map_cons,ConcL] at e;refine e2a3fl (x:=xs) e fun y ys h1 h2=>?_;refine .cons ?_ (ih_ h2);clear e;induction k with
  | inl s=>simp only [atomV,Conc] at h1;obtain ⟨t,rfl⟩:=h1;exact strKind_is prog w s t
  | inr i=>simp only [atomV,Conc] at h1;obtain ⟨t,rfl⟩:=h1;exact intKind_is prog w i t
theorem node_key {prog:Program} {w:World} {h:Heap} {ks:List (Str ⊕ Int)} {y:Value} (hc:Conc B h (nodeV ks) y):∃ c,y=.ref c∧(nodeKind prog w).is h ks c∧¬ B.priv c:=by
 refine e3a4 (conc_tup' hc) fun c xs n z5 ho hl hp=>?_;clear hc;subst z5;exact ⟨c,rfl,i3a4 _ _ n ho rfl rfl (itemsAre_of hl),hp⟩
theorem storedH_priv {K:Type} [DecidableEq K] {P:Addr→Prop} {xs:List (K × Addr × Value)} {k:K} {c:Addr} {v:Value} (h:∀ y∈xs,¬ P y.2.1) (hc:¬ P c):∀ y∈storedH xs k c v,¬ P y.2.1:=by
 intro y hy;unfold storedH at hy;split at hy
 ·refine e1a2 (List.mem_map.mp hy) fun x hx z6=>?_;clear hy;subst z6;unfold putAt;split <;> exact h x hx
 ·refine Or.elim (List.mem_append.mp hy) (fun hy=>?_) fun hy=>?_
  ·exact h y hy
  ·refine (List.mem_singleton.mp hy)▸?_;exact hc
section
variable {K:Type} [DecidableEq K]
theorem pvt_get {h:Heap} {k:K}:∀ {kvs:List (K × V)} {xs:List (K × Addr × Value)},All2 (PVT B h) kvs xs→(dget kvs k=none∧atKey xs k=none)∨∃ v p,dget kvs k=some v∧atKey xs k=some p∧Conc B h v p.2:=by
 intro kvs xs r_;induction r_ with
 | nil=>exact .inl ⟨rfl,rfl⟩
 | @cons p_ q_ l m a r ih_=>
  obtain ⟨k1,v1⟩:=p_;obtain ⟨k2,y2⟩:=q_;obtain ⟨e,c⟩:=a;simp only at e c;subst e;unfold dget atKey;by_cases hk:k1=k
  ·right;exact i2a3 v1 y2 (by simp [hk]) (by simp [hk]) c
  ·simp only [List.find?_cons,hk,decide_false];exact ih_
theorem pvt_map {h:Heap} {k:K} {v:V} {y:Value} (hc:Conc B h v y):∀ {kvs:List (K × V)} {xs:List (K × Addr × Value)},All2 (PVT B h) kvs xs →
  All2 (PVT B h) (kvs.map (fun kv=>if kv.1=k then (kv.1,v) else kv)) (xs.map (putAt k y)):=by
 intro kvs xs r_;induction r_ with
 | nil=>exact .nil
 | @cons p_ q_ l m a r ih_=>
  obtain ⟨k1,v1⟩:=p_;obtain ⟨k2,y2⟩:=q_;obtain ⟨e,c⟩:=a;simp only at e c;subst e;refine .cons ?_ (ih_);unfold putAt;by_cases hk:k1=k
  ·simp only [hk,if_true];exact ⟨rfl,hc⟩
  ·simp only [hk,if_false];exact ⟨rfl,c⟩
theorem pvt_put {h:Heap} {k:K} {v:V} {y:Value} (hc:Conc B h v y) {kvs:List (K × V)} {xs:List (K × Addr × Value)} (a:All2 (PVT B h) kvs xs) (c:Addr):All2 (PVT B h) (dput kvs k v) (storedH xs k c y):=by
 unfold storedH;rcases pvt_get (k:=k) a with ⟨h1,h2⟩ | ⟨v',p,h1,h2,_⟩
 ·rw [h2,dput_new h1];simp only [Option.isSome_none,Bool.false_eq_true,if_false];exact a.append (.cons ⟨rfl,hc⟩ .nil)
 ·rw [h2];simp only [Option.isSome_some,if_true];unfold dput;rw [if_pos]
  ·exact pvt_map hc a
  ·unfold dget at h1;refine e1a2 (Option.map_eq_some_iff.mp h1) fun x hx u1_=>?_;refine List.any_eq_true.mpr ?_;exact i1a2 x (List.mem_of_find?_eq_some hx) (List.find?_some (p:=fun kv:K × V=>decide (kv.1=k)) hx)
end
section
variable {B:Bs} {A:Around} {X:List Addr} {H:AH} {s:Shared} {Q:V→AH→Prop} {a:Addr} {v:V} {t:Tok} {kvs:List (List (Str ⊕ Int) × V)} {ks:List (Str ⊕ Int)} {y z:Value}
theorem tr_tdict_in (hu:A.units+1 < cLine) (x:Abs B s.heap H) (ha:H a=some (.tdict kvs)) (hc:Conc B s.heap (nodeV ks) y) (q:Q (.bool (dget kvs ks).isSome) H):Tr B A X (compareOp .In y (.ref a)) H s (Ret B Q):=by
 refine e1a3 (x.cell _ _ ha) fun xs hm hp hpr=>?_;refine e1a3 (node_key (prog:=B.prog) (w:=B.w) hc) fun c z7 hk hcp=>?_;clear hc;subst z7;refine wpAny_in_heap hu hk (x.mods ha) hm (fin_tok x (v:=.bool (dget kvs ks).isSome) ?_ q);rcases pvt_get (k:=ks) hp with ⟨h1,h2⟩ | ⟨v',p,h1,h2,hc⟩ <;> rw [h1,h2] <;> rfl
theorem tr_tdict_get (hu:A.units+1 < cLine) (x:Abs B s.heap H) (ha:H a=some (.tdict kvs)) (hc:Conc B s.heap (nodeV ks) y) (hv:dget kvs ks=some v) (q:Q v H):Tr B A X (getItem (.ref a) y) H s (Ret B Q):=by
 refine e1a3 (x.cell _ _ ha) fun xs hm hp hpr=>?_;refine e1a3 (node_key (prog:=B.prog) (w:=B.w) hc) fun c z8 hk hcp=>?_;clear hc;subst z8;rcases pvt_get (k:=ks) hp with ⟨h1,_⟩ | ⟨v',p,h1,h2,hc⟩
 ·replace hv:=h1.symm.trans hv;exact z_ns hv
 ·replace hv:=h1.symm.trans hv;clear h1;cases hv;exact wpAny_getItem_heap hu hk hm h2 (fin_tok x hc q)
theorem tr_tdict_set {Q:AH→Prop} (hu:A.units+1 < cLine) (x:Abs B s.heap H) (ha:H a=some (.tdict kvs)) (hz:kvs.length≤100000) (hc:Conc B s.heap (nodeV ks) y) (hc2:Conc B s.heap v z) (q:Q (H.put a (.tdict (dput kvs ks v)))) :
  Tr B A X (setItem (.ref a) y z) H s (Ret0 Q):=by
 refine e1a3 (x.cell _ _ ha) fun xs hm hp hpr=>?_;refine e1a3 (node_key (prog:=B.prog) (w:=B.w) hc) fun c z9 hk hcp=>?_;clear hc;subst z9;refine wpAny_setItem_heap hu hk hm (fun h' hm' hs=>?_) (by refine (hp.length).symm▸?_;exact small_line hz);have k:=keepT_turn x ha hs;exact fin_turn0 (a:=a) (c':=.tdict (dput kvs ks v)) x ha hs (i1a3 _ hm' (pvt_put (hc2.keep k) (hp.imp fun u1_ u2_ e=>⟨e.1,e.2.keep k⟩) c) (storedH_priv hpr hcp)) q
theorem setDefaultH {K:Type} [DecidableEq K] {prog:Program} {w:World} {knd:HeapKind prog w K} {A:Around} {E:Value→Shared→Prop} {s:Shared} {d a:Addr} {k:K} {xs:List (K × Addr × Value)} {dflt:Value} {Q:Value→Shared→Prop}
  (hu:knd.room A) (hkey:knd.is s.heap k a) (hm:s.heap.DictOfH knd d xs) (hsz:xs.length≤sizeLine)
  (h1:∀ p,atKey xs k=some p→Q p.2 { s with toks:=s.toks+knd.draws k })
  (h2:atKey xs k=none→∀ h',h'.DictOfH knd d (storedH xs k a dflt)→Heap.SameBut d s.heap h'→Q dflt { s with heap:=h',toks:=s.toks+knd.draws k }):wpAny (model prog w) A (dictSetDefault d (.ref a) dflt) Q E s:=by
 refine e3a6 hm fun o es ep ho hc hd he his hn=>?_;refine wpAny_holding (wpAny_bind (knd.pyHash hu hkey (wpAny_bind (wpAny_dictFind_heap (s:={ s with toks:=s.toks+knd.draws k }) hu hkey ho hd he his hn ?_ ?_))))
 ·intro hno;have hnot:k ∉ xs.map (·.1):=not_mem_keys_of_get hno;refine wpAny_bind (wpAny_rule (wpAny_bind (wpAny_updateDictKeys (hz:=by have e:=size_of_entries he;exact Nat.le_trans (Nat.le_of_eq ‹_›) ‹_›) (s:={ s with toks:=s.toks+knd.draws k }) ho hd (wpAny_pure ?_))));refine h2 (atKey_none_of_get hno) _ (i3a6 _ _ (ep+1) (Heap.get?_update_self _ ho (Obj.isFreed_of_dict (Obj.data_mapDictKeys hd _))) (hc.mapDictKeys _) (Obj.data_mapDictKeys hd _) ?_ ?_ ?_) (Heap.SameBut.update ..)
  ·rw [storedH_new (atKey_none_of_get hno)];simp [he,entryOfKey]
  ·rw [storedH_new (atKey_none_of_get hno)];intro x hx;refine Or.elim (List.mem_append.mp hx) (fun hx=>?_) fun hx=>?_
   ·exact knd.keeps (his x hx) ho hd (Heap.SameBut.update ..)
   ·simp only [List.mem_singleton] at hx;subst hx;exact knd.keeps hkey ho hd (Heap.SameBut.update ..)
  ·rw [storedH_new (atKey_none_of_get hno),List.map_append,List.nodup_append];refine i0a3 hn (by simp) ?_;intro x hx y hy;simp only [List.map_cons,List.map_nil,List.mem_singleton] at hy;clear hkey h1 h2;refine z_er hy ?_;exact fun e=>hnot (e▸hx)
 ·intro j p hj;refine wpAny_bind (wpAny_dictEntries ho hd ?_);rw [entry_at he,hj];exact wpAny_bind (wpAny_rule (wpAny_pure (h1 p (atKey_of_get hn hj))))
theorem tr_tdict_setdefault (hu:A.units+2 < cLine) (x:Abs B s.heap H) (ha:H a=some (.tdict kvs)) (hz:kvs.length≤100000) (hc:Conc B s.heap (nodeV ks) y) (hc2:Conc B s.heap v z)
  (q:match dget kvs ks with | some u=>Q u H | none=>Q v (H.put a (.tdict (kvs++[(ks,v)])))):Tr B A X (call (.builtin "dict.setdefault") [.ref a,y,z]) H s (Ret B Q):=by
 refine e1a3 (x.cell _ _ ha) fun xs hm hp hpr=>?_;refine e1a3 (node_key (prog:=B.prog) (w:=B.w) hc) fun c z10 hk hcp=>?_;clear hc;subst z10;refine setdef_call hm.typeIs (x.mods ha) (setDefaultH (knd:=nodeKind B.prog B.w) (Nat.lt_of_succ_lt hu) hk hm (by refine (hp.length).symm▸?_;exact small_line hz) (fun p hp'=>?_) (fun hn h' hm' hs=>?_))
 ·rcases pvt_get (k:=ks) hp with ⟨h1,h2⟩ | ⟨v',p',h1,h2,hc'⟩
  ·replace hp':=h2.symm.trans hp';exact z_ns hp'
  ·replace hp':=h2.symm.trans hp';clear h2;cases hp';replace q:=h1▸q;exact fin_tok x hc' q
 ·rcases pvt_get (k:=ks) hp with ⟨h1,h2⟩ | ⟨v',p',h1,h2,hc'⟩
  ·rw [h1] at q;have k:=keepT_turn x ha hs;rw [← dput_new h1] at q;exact fin_turn (a:=a) (c':=.tdict (dput kvs ks v)) x ha hs (i1a3 _ hm' (pvt_put (hc2.keep k) (hp.imp fun u1_ u2_ e=>⟨e.1,e.2.keep k⟩) c) (storedH_priv hpr hcp)) (hc2.keep k) q
  ·rw [h2] at hn;exact z_sn hn
end
noncomputable abbrev Rho:=List (Str × V)
structure Frm (B:Bs) (env:Env) (ρ:Rho) (H:AH) (h:Heap):Prop where
 kind:env.scope.kind=.function
 glob:env.globals=mainGlobals
 bi:env.builtins=builtinsNs
 ns:∃ m,h.Ns env.locals m∧∀ x u,env.kindOf x=some .local→ρ.lookup x=some u→∃ y,m x=some y∧Conc B h u y
 cl:∀ x c,env.cells.lookup x=some c→∃ v,h.IsCell c v∧∀ u,env.kindOf x=some .cell∨env.kindOf x=some .free→ρ.lookup x=some u→∃ y,v=some y∧Conc B h u y
 has:∀ x,env.kindOf x=some .cell∨env.kindOf x=some .free→∃ c,env.cells.lookup x=some c
 outL:H env.locals=none∧B.h0.get? env.locals=none
 outC:∀ x c,env.cells.lookup x=some c→H c=none∧B.h0.get? c=none∧c≠env.locals
 apart:∀ x y c,env.cells.lookup x=some c→env.cells.lookup y=some c→x=y
noncomputable def fpOf (env:Env):List Addr:=env.locals::env.cells.filterMap fun p=>env.cells.lookup p.1
theorem mem_fp {env:Env} {x:Str} {c:Addr} (h:env.cells.lookup x=some c):c∈fpOf env:=
 List.mem_cons_of_mem _ (List.mem_filterMap.mpr (i1a2 (x,c) (mem_of_lookup h) h))
theorem of_mem_fp {env:Env} {c:Addr} (h:c∈fpOf env):c=env.locals∨∃ x,env.cells.lookup x=some c:=by
 refine Or.elim (List.mem_cons.mp h) (fun e=>?_) fun h=>?_
 ·exact .inl e
 ·refine e1a2 (List.mem_filterMap.mp h) fun p u1_ e=>?_;exact .inr ⟨p.1,e⟩
theorem ns_obj {h:Heap} {a:Addr} {m} (x:h.Ns a m):∃ o,h.get? a=some o:=e3a2 x fun o u1_ u2_ ho u3_=>⟨o,ho⟩
theorem Frm.stepX {B:Bs} {env:Env} {ρ:Rho} {H H':AH} {s s':Shared} {X:List Addr} (F:Frm B env ρ H s.heap) (a:St B X s H s' H') (hd:∀ b∈X,b ∉ fpOf env):Frm B env ρ H' s'.heap:=by
 have hL:env.locals ∉ X:=fun h=>hd _ h (List.mem_cons_self ..);have hC:∀ x c,env.cells.lookup x=some c→c ∉ X:=fun x c hc h=>hd _ h (mem_fp hc);refine ⟨F.kind,F.glob,F.bi,?_,fun x c hc=>?_,F.has,⟨?_,F.outL.2⟩,fun x c hc=>⟨?_,(F.outC x c hc).2⟩,F.apart⟩
 ·refine e1a2 F.ns fun m hn hm=>?_;refine i1a2 m (Heap.Ns.at' hn fun o e=>a.keep _ _ e F.outL.1 hL) (fun x u hx hu=>?_);refine e1a2 (hm x u hx hu) fun y hy hc=>?_;exact i1a2 y hy (hc.keep a.tup)
 ·obtain ⟨v,⟨o,ho,hd⟩,hv⟩:=F.cl x c hc;refine ⟨v,i1a2 o (a.keep _ _ ho (F.outC x c hc).1 (hC x c hc)) hd,fun u hk hu=>?_⟩;refine e1a2 (hv u hk hu) fun y hy hc'=>?_;exact i1a2 y hy (hc'.keep a.tup)
 ·refine e1a2 F.ns fun m hn u1_=>?_;refine e1a1 (ns_obj hn) fun o ho=>?_;exact a.dom _ _ ho hL F.outL.1
 ·obtain ⟨v,⟨o,ho,hd⟩,hv⟩:=F.cl x c hc;exact a.dom _ _ ho (hC x c hc) (F.outC x c hc).1
theorem Frm.step {B:Bs} {env:Env} {ρ:Rho} {H H':AH} {s s':Shared} (F:Frm B env ρ H s.heap) (a:St B [] s H s' H'):Frm B env ρ H' s'.heap:=F.stepX a fun u1_ h=>nomatch h
theorem Frm.there {B:Bs} {env:Env} {ρ:Rho} {H:AH} {h:Heap} (F:Frm B env ρ H h) {b:Addr} (hb:b∈fpOf env):∃ o,h.get? b=some o:=by
 rcases of_mem_fp hb with rfl | ⟨x,hx⟩
 ·refine e1a2 F.ns fun m hns u1_=>?_;exact ns_obj hns
 ·refine e1a2 (F.cl x b hx) fun v z5 u2_=>?_;refine e1a2 z5 fun o ho u3_=>?_;exact ⟨o,ho⟩
theorem Frm.sub {B:Bs} {env:Env} {ρ ρ':Rho} {H:AH} {h:Heap} (F:Frm B env ρ H h) (k:∀ x u,ρ'.lookup x=some u→ρ.lookup x=some u):Frm B env ρ' H h:=
 ⟨F.kind,F.glob,F.bi,e1a2 F.ns fun m a b=>(i1a2 m a (fun x u hx hu=>b x u hx (k x u hu))),fun x c hc=>e1a2 (F.cl x c hc) fun v a b=>(i1a2 v a (fun u hk hu=>b u hk (k x u hu))),F.has,F.outL,F.outC,F.apart⟩
section
variable {B:Bs} {n:Nat} {sc:Scope} {ρ:Rho} {H:AH}
theorem Tr.stand {α:Type} {B:Bs} {A:Around} {X:List Addr} {H:AH} {s:Shared} {pos:Pos} {f:Unit→Sem α} {Q:α→AH→Shared→Prop} (x:Abs B s.heap H) (h:Tr B A X (f ()) H s Q):Tr B A X (standAt pos >>= f) H s Q:=
 wpAny_bind (wpAny_standAt h)
theorem Tr.then {α β:Type} {B:Bs} {A:Around} {X Y:List Addr} {H:AH} {s:Shared} {t:Sem α} {f:α→Sem β} {P:α→AH→Shared→Prop} {Q:β→AH→Shared→Prop} (h:Tr B A Y t H s P) (hy:∀ b∈Y,b∈X)
  (k:∀ v H' s',Abs B s'.heap H'→St B Y s H s' H'→P v H' s'→Tr B A X (f v) H' s' Q):Tr B A X (t >>= f) H s Q:=
 Tr.bind ((Tr.mono h k).wider hy)
theorem Tr.release {B:Bs} {A:Around} {X:List Addr} {H:AH} {s:Shared} {vs ks:List Value} {Q:Unit→AH→Shared→Prop} (x:Abs B s.heap H) (h:Q () H s):Tr B A X (release vs ks) H s Q:=
 wpAny_release ⟨H,x,.refl _ _ _,h⟩
theorem Tr.operate {B:Bs} {A:Around} {X:List Addr} {H:AH} {s:Shared} {vs:List Value} {t:Sem Value} {Q:Value→AH→Shared→Prop} (h:Tr B A X t H s Q):Tr B A X (operate vs t) H s Q:=wpAny_operateT h
structure Ev (B:Bs) (n:Nat) (sc:Scope) (e:Expr) (ρ:Rho) (H:AH) (Q:V→AH→Prop):Prop where
 run:∀ env A s,B.OK→env.scope=sc→Room n A→Abs B s.heap H→Frm B env ρ H s.heap→Tr B A [] (eval e env) H s (Ret B Q)
noncomputable def U1 (B:Bs) (n:Nat) (f:Value→Sem Value) (a:V) (H:AH) (Q:V→AH→Prop):Prop:=
 ∀ A s x,B.OK→Room n A→Abs B s.heap H→Conc B s.heap a x→Tr B A [] (f x) H s (Ret B Q)
noncomputable def U2 (B:Bs) (n:Nat) (f:Value→Value→Sem Value) (a b:V) (H:AH) (Q:V→AH→Prop):Prop:=
 ∀ A s x y,B.OK→Room n A→Abs B s.heap H→Conc B s.heap a x→Conc B s.heap b y→Tr B A [] (f x y) H s (Ret B Q)
noncomputable def UC (B:Bs) (n:Nat) (f:Value) (vs:List V) (H:AH) (Q:V→AH→Prop):Prop:=
 ∀ A s xs,B.OK→Room n A→Abs B s.heap H→ConcL B s.heap vs xs→Tr B A [] (call f xs) H s (Ret B Q)
noncomputable def US (B:Bs) (n:Nat) (f:Value→Value→Sem Unit) (a b:V) (H:AH) (Q:AH→Prop):Prop:=
 ∀ A s x y,B.OK→Room n A→Abs B s.heap H→Conc B s.heap a x→Conc B s.heap b y→Tr B A [] (f x y) H s (Ret0 Q)
noncomputable def US3 (B:Bs) (n:Nat) (f:Value→Value→Value→Sem Unit) (a b c:V) (H:AH) (Q:AH→Prop):Prop:=
 ∀ A s x y z,B.OK→Room n A→Abs B s.heap H→Conc B s.heap a x→Conc B s.heap b y→Conc B s.heap c z→Tr B A [] (f x y z) H s (Ret0 Q)
structure Tst (B:Bs) (n:Nat) (sc:Scope) (e:Expr) (ρ:Rho) (H:AH) (Q:Bool→AH→Prop):Prop where
 run:∀ env A s,B.OK→env.scope=sc→Room n A→Abs B s.heap H→Frm B env ρ H s.heap→Tr B A [] (isTrue e env (eval e env)) H s (fun b H' _=>Q b H')
structure EvL (B:Bs) (n:Nat) (sc:Scope) (es:List Expr) (ρ:Rho) (H:AH) (Q:List V→AH→Prop):Prop where
 run:∀ env A s pos,B.OK→env.scope=sc→Room n A→Abs B s.heap H→Frm B env ρ H s.heap→Tr B A [] (spliced (backTo pos (starEach es env))) H s (fun xs H' s'=>∃ vs,ConcL B s'.heap vs xs∧Q vs H')
theorem Ev.mono {e:Expr} {Q Q':V→AH→Prop} (h:Ev B n sc e ρ H Q) (k:∀ v H',Q v H'→Q' v H'):Ev B n sc e ρ H Q':=
 ⟨fun env A s ok he R x F=>(h.run env A s ok he R x F).mono fun u1_ u2_ u3_ u4_ u5_ ⟨u,hc,q⟩=>⟨u,hc,k _ _ q⟩⟩
theorem Ev.name {x:Str} {pos:Pos} {u:V} {Q:V→AH→Prop} {k:NameKind} (hk:sc.names.lookup x=some k) (hu:ρ.lookup x=some u) (q:Q u H) (hl:k=.local∨k=.cell∨k=.free:=by decide)
  (hd:(x == ("__debug__":Str))=false:=by decide) (hn:(x == ("__classdict__":Str))=false:=by decide):Ev B n sc (.Name x pos) ρ H Q:=by
 refine ⟨fun env A s ok he R a F=>?_⟩;subst he;have hk':env.kindOf x=some k:=hk;refine wpAny_Name ?_ hd;rcases hl with rfl | hl
 ·refine e1a2 F.ns fun m hns hm=>?_;refine e1a2 (hm x u hk' hu) fun y hy hc=>?_;exact wpAny_loadName_local F.kind hk' hns hy (fin_same a hc q)
 ·refine e1a1 (F.has x (by refine hk'▸?_;clear hk hk';rcases hl with rfl | rfl <;> simp)) fun c hc=>?_;refine e1a2 (F.cl x c hc) fun v hcell hv=>?_;refine e1a2 (hv u (by refine hk'▸?_;clear hk hk';rcases hl with rfl | rfl <;> simp) hu) fun y z7 hy=>?_;clear hv;subst z7;rcases hl with rfl | rfl
  ·exact wpAny_loadName_cell F.kind hk' hc hcell (fin_same a hy q)
  ·exact wpAny_loadName_free F.kind hk' hc hcell (fin_same a hy q) hn
theorem Ev.cNone {k:Nat} {pos:Pos} {Q:V→AH→Prop} (q:Q .none H):Ev B n sc (.Constant .none k pos) ρ H Q:=⟨fun env A s ok he R a F=>wpAny_pure (fin_same a (v:=.none) rfl q)⟩
theorem Ev.cBool {b:Bool} {k:Nat} {pos:Pos} {Q:V→AH→Prop} (q:Q (.bool b) H):Ev B n sc (.Constant (.bool b) k pos) ρ H Q:=⟨fun env A s ok he R a F=>wpAny_pure (fin_same a (v:=.bool b) rfl q)⟩
theorem Ev.cInt {i:Int} {k:Nat} {pos:Pos} {Q:V→AH→Prop} (q:Q (.int i) H):Ev B n sc (.Constant (.int i) k pos) ρ H Q:=⟨fun env A s ok he R a F=>wpAny_mkInt (fin_tok a (v:=.int i) ⟨_,rfl⟩ q)⟩
theorem Ev.cStr {x:Str} {k:Nat} {pos:Pos} {Q:V→AH→Prop} (q:Q (.str x) H):Ev B n sc (.Constant (.str x) k pos) ρ H Q:=⟨fun env A s ok he R a F=>wpAny_mkText (fin_tok a (v:=.str x) ⟨_,rfl⟩ q)⟩
theorem Ev.bin {l r:Expr} {op:Operator} {pos:Pos} {Q:V→AH→Prop} (h:Ev B n sc l ρ H fun u H1=>Ev B n sc r ρ H1 fun v H2=>U2 B n (binaryOp op) u v H2 Q):Ev B n sc (.BinOp l op r pos) ρ H Q:=by
 refine ⟨fun env A s ok he R a F=>?_⟩;refine Tr.then (h.run env A s ok he R a F) (fun u1_ h=>h) fun y H1 s1 a1 st1 z8=>?_;obtain ⟨u,hu,q⟩:=z8;refine Tr.then (Tr.holding (q.run env A s1 ok he R a1 (F.step st1))) (fun u2_ h=>h) fun z H2 s2 a2 st2 z5=>?_;obtain ⟨v,hv,q⟩:=z5;exact Tr.stand a2 (Tr.operate (q A s2 y z ok R a2 (hu.keep st2.tup) hv))
theorem Ev.cmp {l r:Expr} {op:CmpOp} {pos:Pos} {Q:V→AH→Prop} (h:Ev B n sc l ρ H fun u H1=>Ev B n sc r ρ H1 fun v H2=>U2 B n (compareOp op) u v H2 Q) (hm:behindInMarks op r=false:=by with_unfolding_all rfl) :
  Ev B n sc (.Compare l [op] [r] pos) ρ H Q:=by
 refine ⟨fun env A s ok he R a F=>?_⟩;refine wpAny_Compare1 ?_ hm;refine Tr.out (h.run env A s ok he R a F) fun y H1 s1 a1 st1 z14=>?_;obtain ⟨u,hu,q⟩:=z14;refine Tr.out (q.run env A s1 ok he R a1 (F.step st1)) fun z H2 s2 a2 st2 z11=>?_;obtain ⟨v,hv,q⟩:=z11;refine wpAny_mono (q A s2 y z ok R a2 (hu.keep st2.tup) hv) (fun v s' ⟨H',p1,p2,p3⟩=>⟨H',p1,(st1.trans st2).trans p2,p3⟩) fun u1_ u2_ e=>e
theorem Tst.cmp {l r:Expr} {op:CmpOp} {pos:Pos} {Q:Bool→AH→Prop} (h:Ev B n sc l ρ H fun u H1=>Ev B n sc r ρ H1 fun v H2=>U2 B n (compareOp op) u v H2 fun w H3=>∃ b,w=.bool b∧Q b H3)
  (hm:behindInMarks op r=false:=by with_unfolding_all rfl):Tst B n sc (.Compare l [op] [r] pos) ρ H Q:=by
 refine ⟨fun env A s ok he R a F=>?_⟩;refine wpAny_isTrue_Compare1 ?_ hm;refine Tr.out (h.run env A s ok he R a F) fun y H1 s1 a1 st1 z23=>?_;obtain ⟨u,hu,q⟩:=z23;refine Tr.out (q.run env A s1 ok he R a1 (F.step st1)) fun z H2 s2 a2 st2 z20=>?_;obtain ⟨v,hv,q⟩:=z20;refine Tr.out (q A s2 y z ok R a2 (hu.keep st2.tup) hv) fun w H3 s3 a3 st3 z17=>?_;obtain ⟨w',hw,b,e,q⟩:=z17;subst e;have:w=.bool b:=hw;subst this;exact wpAny_truthy_bool ⟨H3,a3,(st1.trans st2).trans st3,q⟩
theorem Tst.value {e:Expr} {Q:Bool→AH→Prop} (h:Ev B n sc e ρ H fun w H3=>∃ b,w=.bool b∧Q b H3) (he:∀ env,isTrue e env (eval e env)=(do let v ← eval e env;standAt e.pos;holding [v] (truthy v)):=by intro u1_;rfl):Tst B n sc e ρ H Q:=by
 refine ⟨fun env A s ok hs R a F=>?_⟩;refine wpAny_isTrue_value ?_ (he env);refine Tr.out (h.run env A s ok hs R a F) fun w H3 s3 a3 st3 z26=>?_;obtain ⟨w',hw,b,e,q⟩:=z26;subst e;have:w=.bool b:=hw;subst this;exact wpAny_truthy_bool ⟨H3,a3,st3,q⟩
theorem Tst.not {e:Expr} {pos:Pos} {Q:Bool→AH→Prop} (h:Tst B n sc e ρ H fun b H'=>Q (!b) H'):Tst B n sc (.UnaryOp .Not e pos) ρ H Q:=
 ⟨fun env A s ok hs R a F=>wpAny_isTrue_Not (wpAny_mono (h.run env A s ok hs R a F) (fun u1_ u2_ z=>by obtain ⟨H',a,b,c⟩:=z;exact ⟨H',a,b,c⟩) fun u3_ u4_ z=>z)⟩
theorem Tst.and {x y:Expr} {pos:Pos} {Q:Bool→AH→Prop} (h:Tst B n sc x ρ H fun b H1=>if b then Tst B n sc y ρ H1 Q else Q false H1):Tst B n sc (.BoolOp .And [x,y] pos) ρ H Q:=by
 refine ⟨fun env A s ok hs R a F=>?_⟩;refine wpAny_isTrue_BoolOp (wpAny_allTrue_And_cons ?_);refine Tr.out (h.run env A s ok hs R a F) fun b H1 s1 a1 st1 q=>?_;induction b with
 | false=>exact ⟨H1,a1,st1,q⟩
 | true=>
  refine wpAny_allTrue_And_cons ?_;refine Tr.out (q.run env A s1 ok hs R a1 (F.step st1)) fun b H2 s2 a2 st2 q=>?_;induction b with
  | false=>exact ⟨H2,a2,st1.trans st2,q⟩
  | true=>exact wpAny_allTrue_And_nil ⟨H2,a2,st1.trans st2,q⟩
theorem Tst.or {x y:Expr} {pos:Pos} {Q:Bool→AH→Prop} (h:Tst B n sc x ρ H fun b H1=>if b then Q true H1 else Tst B n sc y ρ H1 Q):Tst B n sc (.BoolOp .Or [x,y] pos) ρ H Q:=by
 refine ⟨fun env A s ok hs R a F=>?_⟩;refine wpAny_isTrue_BoolOp (wpAny_allTrue_Or_cons ?_);refine Tr.out (h.run env A s ok hs R a F) fun b H1 s1 a1 st1 q=>?_;induction b with
 | true=>exact ⟨H1,a1,st1,q⟩
 | false=>
  refine wpAny_allTrue_Or_cons ?_;refine Tr.out (q.run env A s1 ok hs R a1 (F.step st1)) fun b H2 s2 a2 st2 q=>?_;induction b with
  | true=>exact ⟨H2,a2,st1.trans st2,q⟩
  | false=>exact wpAny_allTrue_Or_nil ⟨H2,a2,st1.trans st2,q⟩
theorem Ev.ifexp {t x y:Expr} {pos:Pos} {Q:V→AH→Prop} (h:Tst B n sc t ρ H fun b H1=>if b then Ev B n sc x ρ H1 Q else Ev B n sc y ρ H1 Q):Ev B n sc (.IfExp t x y pos) ρ H Q:=by
 refine ⟨fun env A s ok hs R a F=>?_⟩;show Tr B A [] (isTrue t env (eval t env) >>= fun b=>if b then eval x env else eval y env) H s (Ret B Q);refine Tr.then (h.run env A s ok hs R a F) (fun u1_ h=>h) fun b H1 s1 a1 st1 q=>?_;induction b with
 | true=>exact q.run env A s1 ok hs R a1 (F.step st1)
 | false=>exact q.run env A s1 ok hs R a1 (F.step st1)
theorem Ev.and {x y:Expr} {pos:Pos} {Q:V→AH→Prop} (h:Ev B n sc x ρ H fun v H1=>∃ b,v=.bool b∧if b then Ev B n sc y ρ H1 Q else Q (.bool false) H1):Ev B n sc (.BoolOp .And [x,y] pos) ρ H Q:=by
 refine ⟨fun env A s ok hs R a F=>?_⟩;show Tr B A [] (eval x env >>= fun v=>standAt pos >>= fun u1_=>holding [v] (truthy v) >>= fun t=>match BoolOp.And,t with | .And,false | .Or,true=>pure v | _,_=>boolOp pos .And [eval y env]) H s (Ret B Q);refine Tr.then (h.run env A s ok hs R a F) (fun u2_ h=>h) fun w H1 s1 a1 st1 z31=>?_;obtain ⟨w',hw,b,e,q⟩:=z31;subst e;have:w=.bool b:=hw;subst this;refine Tr.stand a1 (Tr.bind (Tr.holding (wpAny_truthy_bool ⟨H1,a1,.refl _ _ _,?_⟩)));clear hw;induction b with
 | true=>exact q.run env A s1 ok hs R a1 (F.step st1)
 | false=>exact Tr.pure a1 ⟨.bool false,rfl,q⟩
theorem EvL.nil {Q:List V→AH→Prop} (q:Q [] H):EvL B n sc [] ρ H Q:=⟨fun env A s pos ok hs R a F=>wpAny_pure ⟨H,a,.refl _ _ _,[],rfl,q⟩⟩
theorem EvL.cons {e:Expr} {es:List Expr} {Q:List V→AH→Prop} (h:Ev B n sc e ρ H fun v H1=>EvL B n sc es ρ H1 fun vs H2=>Q (v::vs) H2) (he:∀ env,starEach (e::es) env=(false,eval e env)::starEach es env:=by intro u1_;rfl):EvL B n sc (e::es) ρ H Q:=by
 refine ⟨fun env A s pos ok hs R a F=>?_⟩;rw [he];show Tr B A [] (spliced ((false,eval e env)::backTo pos (starEach es env))) H s _;refine spliced_cons ?_;refine Tr.out (h.run env A s ok hs R a F) fun y H1 s1 a1 st1 z34=>?_;obtain ⟨u,hu,q⟩:=z34;refine Tr.out (q.run env A s1 pos ok hs R a1 (F.step st1)) fun ys H2 s2 a2 st2 z21=>e1a2 z21 fun us hus q=>?_;exact ⟨H2,a2,st1.trans st2,u::us,i2a3 _ _ rfl (hu.keep st2.tup) hus,q⟩
theorem Ev.tuple {es:List Expr} {k:Nat} {pos:Pos} {Q:V→AH→Prop} (h:EvL B n sc es ρ H fun vs H1=>Q (.tup vs) H1∧vs.length≤100000):Ev B n sc (.Tuple es k pos) ρ H Q:=by
 refine ⟨fun env A s ok hs R a F=>?_⟩;show Tr B A [] (standAt pos >>= fun u1_=>spliced (backTo pos (starEach es env)) >>= newTuple) H s (Ret B Q);refine Tr.stand a (Tr.then (h.run env A s pos ok hs R a F) (fun u2_ h=>h) fun ys H1 s1 a1 st1 z22=>e1a2 z22 fun us hus q=>?_);exact tr_newTuple a1 hus q.2 q.1
theorem Ev.list {es:List Expr} {pos:Pos} {Q:V→AH→Prop} (h:EvL B n sc es ρ H fun vs H1=>(∀ c,H1 c=.none→Q (.ref c) (H1.put c (.list vs)))∧vs.length≤100000):Ev B n sc (.List es pos) ρ H Q:=by
 refine ⟨fun env A s ok hs R a F=>?_⟩;show Tr B A [] (standAt pos >>= fun u1_=>spliced (backTo pos (starEach es env)) >>= newList) H s (Ret B Q);refine Tr.stand a (Tr.then (h.run env A s pos ok hs R a F) (fun u2_ h=>h) fun ys H1 s1 a1 st1 z23=>e1a2 z23 fun us hus q=>?_);exact tr_newList a1 hus q.2 q.1
end
theorem isStr_eq (name:Str):(fun e:DictEntry=>e.key.isStr name)=fun e=>Value.isStrOf name e.key:=by
 funext e;cases e.key <;> rfl
theorem isStr_eq' (name:Str) (v:Value):v.isStr name=Value.isStrOf name v:=by induction v <;> rfl
theorem keysOf_noRef {prog:Program} {w:World} {es:Array DictEntry} (hk:PySem.KeysOf (PySem.strKind prog w) es):es.toList.any (·.refKey)=false:=by
 refine List.any_eq_false.mpr ?_;intro e he;refine e1a2 (hk e (by simpa using he)) fun k h1 u1_=>?_;refine e1a1 (Value.isStrOf_shape h1) fun t ht=>?_;unfold DictEntry.refKey;refine ht▸?_;simp
theorem lookIn_dictOf {prog:Program} {w:World} {h:Heap} {d:Addr} {xs:List (Str × Value)} (hm:h.DictOf (PySem.strKind prog w) d xs):∃ o,h.get? d=some o∧∀ name,lookIn name o=some (valueAt xs name):=by
 refine e3a6 hm fun o es ep ho hc hd hk hp hn=>?_;refine i1a2 o ho (fun name=>?_);unfold lookIn;refine hd▸?_;dsimp only;rw [isStr_eq,keysOf_noRef hk,← hp.find name];show (match List.find? (fun e=>Value.isStrOf name e.key) es.toList with | some e=>_ | none=>_)=some ((List.find? (fun e=>Value.isStrOf name e.key) es.toList).map _);cases List.find? (fun e=>Value.isStrOf name e.key) es.toList <;> rfl
theorem putName_dictOf {prog:Program} {w:World} {h:Heap} {d:Addr} {xs:List (Str × Value)} {name:Str} {hsh:Int} {v:Value} {tk:Tok} (hm:h.DictOf (PySem.strKind prog w) d xs) (hh:hsh=hashStr w name) :
  (h.update d (Obj.putName name hsh (.str name tk) v)).DictOf (PySem.strKind prog w) d (stored xs name v):=by
 subst hh;refine e3a6 hm fun o es ep ho hc hd hk hp hn=>?_;have hkey:(PySem.strKind prog w).is name (.str name tk)=true:=by show ((name == name)=true);exact beq_self_eq_true _
 have ho':=exactDict_eq hc hd;subst ho';have hidx:(es.findIdx? fun e=>Value.isStrOf name e.key)=xs.findIdx? fun kv=>decide (kv.1=name):=by
  simp only [← hp.findIdx name];obtain ⟨l⟩:=es;simp;rfl
 rw [show Obj.putName=Obj.putNameByArray from Obj.putName_eq];have hput:Obj.putNameByArray name (hashStr w name) (.str name tk) v { cls:=.type "dict",data:=.dict es ep }=(match es.findIdx? (fun e=>Value.isStrOf name e.key) with
  | some i=>{ cls:=.type "dict",data:=.dict (es.modify i fun e=>{ e with val:=v }) ep }
  | none=>{ cls:=.type "dict",data:=.dict (es.push ⟨hashStr w name,.str name tk,v⟩) (ep+1) }):=by
  dsimp only [ Obj.putNameByArray];simp only [isStr_eq'];cases es.findIdx? (fun e=>Value.isStrOf name e.key) <;> rfl
 induction hi:es.findIdx? fun e=>Value.isStrOf name e.key with
 | some i=>
  replace hput:=hi▸hput;refine ⟨_,es.modify i fun e=>{ e with val:=v },ep,Heap.get?_update_self _ ho (by rw [hput];rfl),by rw [hput];exact i0a3 rfl rfl rfl,by rw [hput],hk.modify _ _,?_,?_⟩
  ·rw [stored,if_pos (any_of_findIdx_some (hidx▸hi))];have hl:(es.toList.findIdx? fun e=>(PySem.strKind prog w).is name e.key)=some i:=by
    simp only [← hi];obtain ⟨l⟩:=es;simp;rfl
   have:=hp.modify hn hl v;obtain ⟨l⟩:=es;simpa using this
  ·rw [stored,if_pos (any_of_findIdx_some (hidx▸hi)),keys_map_store];exact hn
 | none=>
  rw [hi] at hput;have hnot:name ∉ xs.map (·.1):=not_mem_of_findIdx_none (hidx▸hi);have hany:¬ (xs.any fun kv=>decide (kv.1=name))=true:=by
   rw [List.any_eq_true];intro z1;refine e1a2 z1 fun kv hkv he=>?_;exact hnot (List.mem_map.mpr (i1a2 kv hkv (of_decide_eq_true he)))
  refine ⟨_,es.push ⟨hashStr w name,.str name tk,v⟩,ep+1,Heap.get?_update_self _ ho (by rw [hput];rfl),by rw [hput];exact i0a3 rfl rfl rfl,by rw [hput],hk.push hkey _,?_,?_⟩
  ·rw [stored,if_neg hany];have:=hp.append hkey (hashStr w name) v;obtain ⟨l⟩:=es;simpa using this
  ·rw [stored,if_neg hany,List.map_append,List.nodup_append];refine i0a3 hn (by simp) ?_;intro a ha b hb;simp only [List.map_cons,List.map_nil,List.mem_singleton] at hb;clear hkey hidx hput hi hany;refine z_er hb ?_;exact fun e=>hnot (e▸ha)
structure ClsOK (K:Frag) (C:Addr):Prop where
 get:plainGet K C "x" = true
 dict:hasDictIn K C=true
 over:plainOver K C=true
 set:findIn K (.ref C) "__setattr__" = some (some (.builtin "object.__setattr__"))
noncomputable def AttrOK (K:Frag) (C:Addr) (name:Str):Prop:=findIn K (.ref C) name=some none
noncomputable def MethOK (K:Frag) (C:Addr) (name:Str) (f:Addr):Prop:=findIn K (.ref C) name=some (some (.ref f))∧typeIn K (.ref f)=some (.type "function")
theorem Abs.K {B:Bs} {h:Heap} {H:AH} (ok:B.OK) (x:Abs B h H):B.K.In h:=ok.X.keeps x.keep
theorem handed_conc {h:Heap} {v:V} {y:Value} (c:Conc B h v y):handedIn y=true:=by
 rcases v with _ | _ <;> simp only [Conc] at c
 case none=>subst c;rfl
 case bool=>subst c;rfl
 case int=>obtain ⟨t,rfl⟩:=c;rfl
 case str=>obtain ⟨t,rfl⟩:=c;rfl
 case ref=>subst c;rfl
 case tup=>refine e3a2 c fun a xs n z3 u1_=>?_;clear c;subst z3;rfl
section
variable {B:Bs} {A:Around} {X:List Addr} {H:AH} {s:Shared} {Q:V→AH→Prop} {a d:Addr} {C:Cls} {kvs:List (Str × V)} {name:Str} {v:V}
theorem inst_at (x:Abs B s.heap H) (ha:H a=some (.inst C d)) (hd:H d=some (.sdict kvs)):∃ od xs,InstAt s.heap a (instObj C.addr d) C.addr (some od)∧s.heap.get? d=some od∧s.heap.DictOf (PySem.strKind B.prog B.w) d xs ∧
  All2 (PV B s.heap) kvs xs∧∀ name,lookIn name od=some (valueAt xs name):=by
 refine e1a2 (x.cell _ _ hd) fun xs hm hp=>?_;refine e1a2 (lookIn_dictOf hm) fun od ho hl=>?_;have hi:s.heap.get? a=some (instObj C.addr d):=x.cell _ _ ha;exact i2a5 od xs ⟨hi,rfl,rfl,ho⟩ ho hm hp hl
theorem tr_getAttr {expr:Bool} (ok:B.OK) (x:Abs B s.heap H) (ha:H a=some (.inst C d)) (hd:H d=some (.sdict kvs)) (hC:ClsOK B.K C.addr) (hn:AttrOK B.K C.addr name) (hv:dget kvs name=some v) (q:Q v H) :
  Tr B A X (getAttr (.ref a) name expr) H s (Ret B Q):=by
 refine e2a5 (inst_at x ha hd) fun od xs I ho hm hp hl=>?_;rcases pv_get (k:=name) hp with ⟨h1,_⟩ | ⟨u,y,h1,h2,hc⟩
 ·replace h1:=hv.symm.trans h1;exact z_sn h1
 ·replace h1:=hv.symm.trans h1;cases h1;have hg:plainGet B.K C.addr name=true:=hC.get;exact get_value (x.K ok) I (plainGet_of (name:=name) hg).1 (findObj_own hC.dict hn rfl (by simp only [hl,h2])) (handed_conc hc) (fin_tok x hc q)
theorem method_look {pl:Sem Bool} {f:Addr} {E:Value→Shared→Prop} {Q:Value × List Value→Shared→Prop} (ok:B.OK) (x:Abs B s.heap H) (ha:H a=some (.inst C d)) (hd:H d=some (.sdict kvs)) (hC:ClsOK B.K C.addr) (hm:MethOK B.K C.addr name f) (hv:dget kvs name=none)
  (q:Q (.ref f,[.ref a]) s):wpAny B.M A (getMethod (.ref a) name pl) Q E s:=by
 refine e2a5 (inst_at x ha hd) fun od xs I ho hm' hp hl=>?_;have hg:plainGet B.K C.addr name=true:=hC.get;refine method_fn (x.K ok) I (plainGet_of (name:=name) hg).1 (plainGet_of (name:=name) hg).2 hm.1 hm.2 ?_ q;rcases pv_get (k:=name) hp with ⟨_,h2⟩ | ⟨u,y,h1,_,_⟩
 ·show (lookIn name od).map _=_;rw [hl,h2];rfl
 ·replace h1:=hv.symm.trans h1;exact z_ns h1
theorem osa_abs {y:Value} {tk:Tok} {R:Result→Shared→Prop} {od:Obj} {xs:List (Str × Value)} (ok:B.OK) (x:Abs B s.heap H) (I:InstAt s.heap a (instObj C.addr d) C.addr (some od)) (ho:s.heap.get? d=some od)
  (hm:s.heap.DictOf (PySem.strKind B.prog B.w) d xs) (hC:ClsOK B.K C.addr) (hn:AttrOK B.K C.addr name) (hz:xs.length≤100)
  (q:∀ h',h'.DictOf (PySem.strKind B.prog B.w) d (stored xs name y)→Heap.SameBut d s.heap h'→R (.ok (.ret .none)) { s with heap:=h',toks:=s.toks+1 }) :
  codeAny B.M A (.call (.builtin "object.__setattr__") ⟨[.ref a,.str name tk,y],[]⟩) R s:=by
 refine osa_open (x.K ok) I hC.over (by unfold takerIn;rw [hn];rfl) fun b=>?_;refine e1a2 (any_some hC.dict) fun cd hcd hd'=>?_;have hsb:=Heap.SameBut.update s.heap d (Obj.putName name (hashStr B.w name) (.str name s.toks) y);have hm':=putName_dictOf (v:=y) (tk:=s.toks) hm (name:=name) rfl;have fin:=q _ hm' hsb;refine e3a6 hm' fun o' es' ep' ho' hx' hd'' u1_ hp' u2_=>?_;refine wpAny_bind (wpAny_pure (wpAny_bind (wpAny_bind (wpAny_loadPart I.at_ (wpAny_bind ((looks_clsIn (x.K ok) hcd).here ?_))))));rw [hd'];refine wpAny_pure (a:=some d) (wpAny_bind (wpAny_pure (wpAny_bind ?_)));refine wpAny_bind (wpAny_bind (wpAny_askSetting (wpAny_pure (wpAny_bind (wpAny_mkText (wpAny_bind (wpAny_loadPart ho ?_)))))));refine e3a6 hm fun o2 es ep ho2 hc2 hd2 hk2 hp2 hn2=>?_;replace ho2:=ho.symm.trans ho2;clear hc2;cases ho2;rw [hd2];dsimp only;have c:(!es.any (·.key.isStr name) && es.any (·.refKey))=false:=by
  have:=keysOf_noRef hk2;rw [Array.any_toList] at this;simp only [this,Bool.and_false]
 rw [aRefKeyMayBeTheName_at,c];refine wpAny_updatePart ho ?_;have hlen:es'.size≤sizeLine+1:=by
  have e1:=hp'.length;have e2:=stored_length_le xs name y;have e4:es'.toList.length=es'.size:=rfl;have:(1000:Nat)≤sizeLine:=by decide
  lia
 refine wpAny_bind (wpAny_lookBehind ho' (by refine hd''▸?_;exact pastItsLine_dict hlen) ?_);exact wpAny_pure fin
theorem tr_setAttr {y:Value} {Q:AH→Prop} (ok:B.OK) (x:Abs B s.heap H) (ha:H a=some (.inst C d)) (hd:H d=some (.sdict kvs)) (hC:ClsOK B.K C.addr) (hn:AttrOK B.K C.addr name) (hz:kvs.length≤100) (hc:Conc B s.heap v y)
  (q:Q (H.put d (.sdict (dput kvs name v)))):Tr B A X (setAttr (.ref a) name y) H s (Ret0 Q):=by
 refine e2a5 (inst_at x ha hd) fun od xs I ho hm hp hl=>?_;refine set_plain (x.K ok) I hC.set (osa_abs (s:={ s with toks:=s.toks+1 }) ok x I ho hm hC hn (by refine pv_len hp▸?_;exact hz) fun h' hm' hsb=>?_);have k:KeepT B s.heap h':=keepT_turn x hd hsb;exact fin_turn0 (X:=X) (u:=()) (tk:=s.toks+1+1) (c':=.sdict (dput kvs name v)) x hd hsb (i1a2 _ hm' (pv_put (hc.keep k) (hp.imp fun u1_ u2_ e=>⟨e.1,e.2.keep k⟩))) q
end
noncomputable def ctyp:Cell→Option String
 | .list _=>some "list"
 | .idict _=>some "dict"
 | .tdict _=>some "dict"
 | .sdict _=>some "dict"
 | _=>none
noncomputable def btyp (H:AH):V→Option String
 | .tup _=>some "tuple"
 | .str _=>some "str"
 | .ref a=>(H a).bind ctyp
 | _=>none
set_option tactic.hygienic true in
theorem btyp_is {B:Bs} {H:AH} {s:Shared} {u:V} {y:Value} {T:String} (x:Abs B s.heap H) (hc:Conc B s.heap u y) (h:btyp H u=some T):s.TypeIs y T:=by
 rcases u with _ | _ <;> try exact z_ns h
 case tup vs=>
  refine z_sl h ?_;refine e3a3 (conc_tup hc) fun c xs n z3 ho _=>?_;clear hc h;subst z3;exact i1a2 _ ho rfl
 case str t=>
  refine z_sl h ?_;obtain ⟨k,rfl⟩:∃ k,y=.str t k:=hc;exact rfl
 case ref a=>
  have:y=.ref a:=hc;clear hc;subst this;refine e1a2 (Option.bind_eq_some_iff.mp h) fun c e h=>?_;induction c with
  | list xs=>refine z_sl h ?_;refine e2a2 (x.cell _ _ e) fun xs n ho _=>?_;exact i1a2 _ ho rfl
  | idict xs=>refine z_sl h ?_;refine e1a2 (x.cell _ _ e) fun xs hm _=>?_;exact hm.typeIs
  | tdict xs=>refine z_sl h ?_;refine e1a2 (x.cell _ _ e) fun xs z1 _=>?_;refine e3a3 z1 fun o es ep ho hc _=>?_;exact i1a2 o ho hc.1
  | sdict xs=>refine z_sl h ?_;refine e1a2 (x.cell _ _ e) fun xs hm _=>?_;exact hm.typeIs
  | inst C d=>exact z_ns h
  | set xs=>exact z_ns h
set_option tactic.hygienic true in
theorem btyp_dict {B:Bs} {H:AH} {s:Shared} {u:V} {y:Value} {T:String} (x:Abs B s.heap H) (hc:Conc B s.heap u y) (h:btyp H u=some T):∀ a,y=.ref a→∃ o,s.heap.get? a=some o∧o.dict=none:=by
 intro a ha;subst ha;rcases u with _ | _ <;> try exact z_ns h
 case tup vs=>
  refine e3a3 (conc_tup hc) fun c xs n e ho _=>?_;clear hc h;cases e;exact i1a2 _ ho rfl
 case str t=>obtain ⟨k,e⟩:∃ k,Value.ref a=.str t k:=hc;exact nomatch e
 case ref b=>
  have:Value.ref a=.ref b:=hc;cases this;refine e1a2 (Option.bind_eq_some_iff.mp h) fun c e h=>?_;induction c with
  | list xs=>refine e2a2 (x.cell _ _ e) fun xs n ho _=>?_;exact i1a2 _ ho rfl
  | idict xs=>refine e1a2 (x.cell _ _ e) fun xs z8 _=>?_;refine e3a3 z8 fun o es ep ho hc _=>?_;exact i1a2 o ho hc.2.1
  | tdict xs=>refine e1a2 (x.cell _ _ e) fun xs z6 _=>?_;refine e3a3 z6 fun o es ep ho hc _=>?_;exact i1a2 o ho hc.2.1
  | sdict xs=>refine e1a2 (x.cell _ _ e) fun xs z1 _=>?_;refine e3a3 z1 fun o es ep ho hc _=>?_;exact i1a2 o ho hc.2.1
  | inst C d=>exact z_ns h
  | set xs=>exact z_ns h
theorem getitem_look {T:String} (h:T="list"∨T="tuple"∨T="dict"∨T="str"):∃ id,typeLookup (.type T) "__getitem__" = pure (some (.builtin id)):=by
 rcases h with rfl | rfl | rfl | rfl
 ·exact ⟨_,PySem.F.slot_list_getitem.lookup⟩
 ·exact ⟨_,PySem.F.slot_tuple_getitem.lookup⟩
 ·exact ⟨_,PySem.F.slot_dict_getitem.lookup⟩
 ·exact ⟨_,PySem.F.slot_str_getitem.lookup⟩
theorem btyp_four {H:AH} {u:V} {T:String} (h:btyp H u=some T):T="list"∨T="tuple"∨T="dict"∨T="str":=by
 rcases u with _ | _ | _ | t | a | vs <;> try (exact z_ns h;done)
 ·exact .inr (.inr (.inr (Option.some.inj h).symm))
 ·refine e1a2 (Option.bind_eq_some_iff.mp h) fun c e h=>?_;induction c with
  | list xs=>exact .inl (Option.some.inj h).symm
  | idict xs=>exact .inr (.inr (.inl (Option.some.inj h).symm))
  | tdict xs=>exact .inr (.inr (.inl (Option.some.inj h).symm))
  | sdict xs=>exact .inr (.inr (.inl (Option.some.inj h).symm))
  | _=>exact z_ns h
 ·exact .inr (.inl (Option.some.inj h).symm)
section
variable {B:Bs} {n:Nat} {sc:Scope} {ρ:Rho} {H:AH}
noncomputable def Mth (B:Bs) (H:AH) (u:V) (name:Str) (f:Value):Prop:=
 ∀ A s y pl (Q:Value × List Value→Shared→Prop),B.OK→Abs B s.heap H→Conc B s.heap u y→Q (f,[y]) s→wpAny B.M A (getMethod y name pl) Q (fun _ _=>False) s
noncomputable def Callee (B:Bs) (f:Value):Prop:=(∃ id,f=.builtin id)∨(∃ T,f=.type T)∨keepIn B.K f=true
theorem Mth.builtin {u:V} {T:String} {name:Str} {id:String} (h:btyp H u=some T) (pa:PlainAttrs T) (slot:Slot T name id) (hty:typeOf (.builtin id)=pure (.type "method_descriptor"):=by with_unfolding_all rfl):Mth B H u name (.builtin id):=
 fun A s y pl Q ok x hc q=>getMethod_builtin (btyp_is x hc h) pa slot hty (btyp_dict x hc h) q
theorem Mth.inst {a d f:Addr} {C:Cls} {kvs:List (Str × V)} {name:Str} (ha:H a=some (.inst C d)) (hd:H d=some (.sdict kvs)) (hC:ClsOK B.K C.addr) (hm:MethOK B.K C.addr name f) (hv:dget kvs name=none):Mth B H (.ref a) name (.ref f):=by
 intro A s y pl Q ok x hc q;have:y=.ref a:=hc;subst this;exact method_look ok x ha hd hC hm hv q
theorem evalArgs_any {M:Model} {A:Around} {E:Value→Shared→Prop} {s:Shared} {f:Value} {args:List (Bool × Sem Value)} {Q:Args→Shared→Prop} (hpl:args.any (·.1)=false)
  (h:wpAny M A (spliced args) (fun vs s'=>Q ⟨vs,[]⟩ s') E s):wpAny M A (evalArgs f true args []) Q E s:=by
 induction args with
 | nil=>
  show wpAny M A (spliced [] >>= _) Q E s;refine wpAny_bind (wpAny_mono h (fun vs s' h'=>?_) fun u1_ u2_ e=>e);exact wpAny_bind (wpAny_pure (wpAny_holding (wpAny_bind (wpAny_pure (wpAny_bind (wpAny_pure (wpAny_pure h')))))))
 | cons p rest=>
  obtain ⟨st,t⟩:=p;have:st=false:=by
   simp only [List.any_cons,Bool.or_eq_false_iff] at hpl;exact hpl.1
  clear hpl;subst this;exact evalArgs_plain h
theorem callW {A:Around} {env:Env} {s:Shared} {pos:Pos} {f:Value} {first:List Value} {us:List V} {es:List Expr} {Q:V→AH→Prop} (hf:Callee B f) (ok:B.OK) (he:env.scope=sc) (R:Room n A) (a:Abs B s.heap H) (F:Frm B env ρ H s.heap)
  (hc:ConcL B s.heap us first) (h:EvL B n sc es ρ H fun vs H'=>UC B n f (us++vs) H' Q) (hpl:(backTo pos (starEach es env)).any (·.1)=false) :
  Tr B A [] (callWith pos f first (backTo pos (starEach es env)) []) H s (Ret B Q):=by
 have main:wpAny B.M A (evalArgs f true (backTo pos (starEach es env)) []) (fun x s₁=>B.K.In s₁.heap∧wpAny B.M A (PySem.call f (first++x.pos) x.kw) (TrP B [] s H (Ret B Q)) (fun u1_ u2_=>False) s₁) (fun u3_ u4_=>False) s:=by
  refine evalArgs_any hpl (Tr.out (h.run env A s pos ok he R a F) fun xs H1 s1 a1 st1 z3=>e1a2 z3 fun vs hvs q=>⟨a1.K ok,?_⟩);exact wpAny_mono (q A s1 (first++xs) ok R a1 (ConcL.append (hc.keep st1.tup) hvs)) (fun v s' ⟨H',p1,p2,p3⟩=>⟨H',p1,st1.trans p2,p3⟩) fun u5_ u6_ e=>e
 clear h;rcases hf with ⟨id,rfl⟩ | ⟨T,rfl⟩ | hk
 ·exact Calls.callWith_builtin hpl (wpAny_mono main (fun x s1 h=>h.2) fun u7_ u8_ e=>e)
 ·exact PySem.callWith_type hpl (wpAny_mono main (fun x s1 h=>h.2) fun u9_ u10_ e=>e)
 ·exact callWith_of (P:=fun h=>B.K.In h) (by rw [hpl];rfl) (keeps_K hk) main
noncomputable def Glob (B:Bs) (f:Str) (v:Value):Prop:=(nsIn B.K mainGlobals f=some (some v))∨(nsIn B.K mainGlobals f=some Option.none∧bootBuiltins f=some v∧f≠"__name__")
theorem Ev.call {f:Str} {fp pos:Pos} {es:List Expr} {v:Value} {Q:V→AH→Prop} (hk:sc.names.lookup f=some .globalImplicit) (hg:Glob B f v) (hf:Callee B v)
  (h:EvL B n sc es ρ H fun vs H'=>UC B n v vs H' Q) (hpl:∀ env,(backTo pos (starEach es env)).any (·.1)=false:=by intro u1_;rfl) (hd:(f == ("__debug__":Str))=false:=by decide):Ev B n sc (.Call (.Name f fp) es [] pos) ρ H Q:=by
 refine ⟨fun env A s ok he R a F=>?_⟩;subst he;refine wpAny_Call_ofName (Name_function_global F.kind hk ?_ hd);have next:wpAny B.M A (callWith pos v [] (backTo pos (starEach es env)) (backToKw pos (keywordEach [] env))) (TrP B [] s H (Ret B Q)) (fun u2_ u3_=>False) s:=
  callW (us:=[]) hf ok rfl R a F rfl h (hpl env)
 have hg3:s.heap.Ns env.globals B.mg:=F.glob▸ok.T.g.keeps a.keep;rcases hg with hg | ⟨hg,hb,hn⟩
 ·exact loadGlobal_global hg3 (mg_of ok.X ok.T.g hg) next
 ·exact loadGlobal_builtin hg3 (mg_none_of ok.X ok.T.g hg) (F.bi▸ok.T.b.keeps a.keep) ((ok.T.builtins f hn).trans hb) next
theorem Ev.meth {o:Expr} {name:Str} {ap pos:Pos} {es:List Expr} {Q:V→AH→Prop} (h:Ev B n sc o ρ H fun u H1=>∃ f,Mth B H1 u name f∧Callee B f∧EvL B n sc es ρ H1 fun vs H2=>UC B n f (u::vs) H2 Q)
  (hb:∀ env t,attributeBase o name env t=t:=by intro _ _;rfl) (hp:∀ env,methodCallPos (methodCallForm es.length (backTo pos (starEach es env)) []) o env ap pos=pure pos:=by intro _;rfl)
  (hm:∀ env,methodCallForm es.length (backTo pos (starEach es env)) []=true:=by intro _;rfl)
  (hpl:∀ env,(backTo pos (starEach es env)).any (·.1)=false:=by intro _;rfl):Ev B n sc (.Call (.Attribute o name ap) es [] pos) ρ H Q:=by
 refine ⟨fun env A s ok he R a F=>?_⟩;simp only [arm_eval_Call,hb];refine Tr.then (h.run env A s ok he R a F) (fun _ h=>h) fun y H1 s1 a1 st1 ⟨u,hu,f,hmth,hf,q⟩=>Tr.stand a1 ?_;show wpAny B.M A (holding [y] (calleeOf (methodCallForm es.length (backTo pos (starEach es env)) []) o env y name) >>= fun x=>methodCallPos (methodCallForm es.length (backTo pos (starEach es env)) []) o env ap pos >>= fun p=>callWith p x.1 x.2 (backTo pos (starEach es env)) []) _ _ s1;rw [hp];rw [hm];refine wpAny_bind (wpAny_holding ?_);refine hmth A s1 y _ _ ok a1 hu ?_;refine wpAny_bind (wpAny_pure ?_);exact callW (us:=[u]) hf ok he R a1 (F.step st1) (i2a3 _ _ rfl hu rfl) q (hpl env)
theorem Ev.attr {o:Expr} {name:Str} {pos:Pos} {Q:V→AH→Prop} (h:Ev B n sc o ρ H fun u H1=>U1 B n (fun y=>getAttr y name true) u H1 Q)
  (hb:∀ env t,attributeBase o name env t=t:=by intro _ _;rfl):Ev B n sc (.Attribute o name pos) ρ H Q:=by
 refine ⟨fun env A s ok he R a F=>?_⟩;simp only [arm_eval_Attribute,hb];refine Tr.then (h.run env A s ok he R a F) (fun _ h=>h) fun y H1 s1 a1 st1 ⟨u,hu,q⟩=>Tr.stand a1 ?_;refine Tr.then (Tr.holding (q A s1 y ok R a1 hu)) (fun _ h=>h) fun z H2 s2 a2 st2 hz=>?_;exact wpAny_bind (wpAny_letTemporaryGo (Tr.pure a2 hz))
theorem Ev.sub {o i:Expr} {pos:Pos} {Q:V→AH→Prop} (h:Ev B n sc o ρ H fun u H1=>Ev B n sc i ρ H1 fun v H2=>(∃ T,btyp H2 u=some T)∧U2 B n getItem u v H2 Q)
  (hs:∀ o' i',subscripted i false o' i'=operate [o',i'] (getItem o' i'):=by intro _ _;rfl):Ev B n sc (.Subscript o i pos) ρ H Q:=by
 refine ⟨fun env A s ok he R a F=>?_⟩;simp only [arm_eval_Subscript];refine Tr.then (h.run env A s ok he R a F) (fun _ h=>h) fun y H1 s1 a1 st1 z1=>?_;obtain ⟨u,hu,q⟩:=z1;refine Tr.then (Tr.holding (q.run env A s1 ok he R a1 (F.step st1))) (fun _ h=>h) fun z H2 s2 a2 st2 ⟨v,hv,⟨T,hT⟩,q⟩=>Tr.stand a2 ?_;have hu2:=hu.keep st2.tup;have hT':=btyp_is a2 hu2 hT;obtain ⟨id,hid⟩:=getitem_look (btyp_four hT);refine wpAny_bind ?_;refine getitemInPython_of_ne hT'.not_modules▸?_;refine wpAny_bind (wpAny_specialOf hT' hid ?_);refine wpAny_pure ?_;rw [hs];refine Tr.then (Tr.operate (q A s2 y z ok R a2 hu2 hv)) (fun _ h=>h) fun r H3 s3 a3 st3 hr=>?_;exact wpAny_bind (wpAny_letTemporaryGo (Tr.pure a3 hr))
end
set_option genInjectivity false in
set_option genSizeOf false in
inductive Out where
 | next | brk | cont
 | ret (v:V)
noncomputable def FlowIs (B:Bs) (h:Heap):Out→Flow→Prop
 | .next,f=>f=.next
 | .brk,f=>f=.brk
 | .cont,f=>f=.cont
 | .ret v,f=>∃ y,f=.ret y∧Conc B h v y
theorem St.drop' {X:List Addr} {s s':Shared} {H H':AH} (a:St B [] s H s' H'):St B X s H s' H':=a.mono fun u1_ h=>nomatch h
theorem store_at {X:List Addr} {B:Bs} {A:Around} {env:Env} {ρ:Rho} {H:AH} {s:Shared} {x:Str} {k:NameKind} {u:V} {y:Value} {Q:Unit→AH→Shared→Prop} (a:Abs B s.heap H) (F:Frm B env ρ H s.heap) (hk:env.kindOf x=some k)
  (hl:k=.local∨k=.cell∨k=.free) (hX1:k=.local→env.locals∈X) (hX2:k≠.local→∀ c,env.cells.lookup x=some c→c∈X) (hc:Conc B s.heap u y)
  (q:∀ s',Frm B env ((x,u)::ρ) H s'.heap→Abs B s'.heap H→Q () H s'):Tr B A X (storeName env x y) H s Q:=by
 have lk:∀ (z:Str) (w:V),List.lookup z ((x,u)::ρ)=some w→(z=x∧w=u)∨(z≠x∧ρ.lookup z=some w):=by
  intro z w e;rw [List.lookup_cons] at e;induction hz:z == x with
  | true=>replace e:=hz▸e;cases e;exact .inl ⟨beq_iff_eq.mp hz,rfl⟩
  | false=>rw [hz] at e;exact .inr ⟨by simpa using hz,e⟩
 have fin:∀ c h',(c∈X)→H c=none→B.h0.get? c=none→(∃ o,s.heap.get? c=some o∧(∀ xs n,o.data≠.seq xs n)∧∃ o',h'.get? c=some o')→Heap.SameBut c s.heap h'→∀ tk,Frm B env ((x,u)::ρ) H h' →
   TrP B X s H Q () { s with heap:=h',toks:=tk }:=by
  intro c h' hm hn hb ⟨o,ho,hcl,o',ho'⟩ hs tk F';have kt:KeepT B s.heap h':=.sameBut' hs ho hcl;have nb:∀ b,H b≠none→b≠c:=fun b hb e=>hb (e▸hn);have ab:Abs B h' H:=by
   refine ⟨fun b d e=>(a.cell b d e).keep kt fun o2 h2=>?_,a.new,fun b o2 e=>?_,a.low,?_,?_⟩
   ·refine (hs.2 b (nb b (by refine e▸?_;simp))).trans ?_;exact h2
   ·have:b≠c:=fun q=>by clear hm hn ho ho' hs nb;subst q;replace e:=hb.symm.trans e;exact z_ns e
    refine hs.2 b this▸?_;exact a.keep b o2 e
   ·refine e1a1 a.stat fun o2 e2=>?_;by_cases h2:(2:Addr)=c
    ·refine h2▸?_;exact ⟨o',ho'⟩
    ·exact ⟨o2,by refine (hs.2 2 h2).trans ?_;exact e2⟩
   ·intro b hp;refine e1a1 (a.priv b hp) fun o2 e2=>?_;by_cases h2:b=c
    ·refine h2▸?_;exact ⟨o',ho'⟩
    ·exact ⟨o2,by refine (hs.2 b h2).trans ?_;exact e2⟩
  refine ⟨H,ab,⟨fun b o2 e u1_ hx=>?_,fun b o2 e u2_=>?_,fun u3_ u4_ u5_ u6_ e=>e,kt,rfl,rfl⟩,q _ F' ab⟩
  ·have:b≠c:=fun e2=>hx (e2▸hm);show h'.get? b=_;refine hs.2 b this▸?_;exact e
  ·by_cases h2:b=c
   ·clear hm hn hb ho hs nb;subst h2;exact ⟨o',ho'⟩
   ·exact ⟨o2,by show h'.get? b=_;refine hs.2 b h2▸?_;exact e⟩
 have kc:∀ {h':Heap} {c:Addr} {o:Obj},s.heap.get? c=some o→(∀ xs n,o.data≠.seq xs n)→Heap.SameBut c s.heap h'→KeepT B s.heap h':=fun ho hd hs=>.sameBut' hs ho hd;clear q;rcases hl with rfl | hl
 ·refine e1a2 F.ns fun m hns hm=>?_;refine e3a3 (id hns) fun o es ep ho hd hns'=>?_;refine wpAny_storeName_local hk hns (fun h' hn' hs=>?_) (by refine F.kind▸?_;rfl);have kt:=kc ho (fun xs n e=>by replace e:=hd.symm.trans e;cases e) hs;refine fin env.locals h' (hX1 rfl) F.outL.1 F.outL.2 (i1a3 o ho (fun xs n e=>by replace e:=hd.symm.trans e;cases e) (ns_obj hn')) hs _ ⟨F.kind,F.glob,F.bi,i1a2 _ hn' (fun z w hz hw=>?_),fun z c hz=>?_,F.has,F.outL,F.outC,F.apart⟩
  ·clear fin hk hX2 hn';rcases lk z w hw with ⟨rfl,rfl⟩ | ⟨hne,hw⟩
   ·exact i1a2 y (by simp) (hc.keep kt)
   ·refine e1a2 (hm z w hz hw) fun v hv hc'=>?_;exact i1a2 v (by simp [hne,hv]) (hc'.keep kt)
  ·refine e1a2 (F.cl z c hz) fun v hv hu=>?_;refine i1a2 v (hv.sameBut hs (F.outC z c hz).2.2) (fun w hkz hw=>?_);clear hc fin hX2 hn';rcases lk z w hw with ⟨rfl,rfl⟩ | ⟨hne,hw⟩
   ·rw [hk] at hkz;rcases hkz with e | e <;> cases e
   ·refine e1a2 (hu w hkz hw) fun v' hv' hc'=>?_;exact i1a2 v' hv' (hc'.keep kt)
 ·refine e1a1 (F.has x (by refine hk▸?_;clear hk hX1 hX2;rcases hl with rfl | rfl <;> decide)) fun c hcc=>?_;refine e1a2 (F.cl x c hcc) fun v hv hu=>?_;refine e1a2 (id hv) fun o ho hd=>?_;have nonseq:∀ xs n,o.data≠.seq xs n:=fun xs n e=>by replace e:=hd.symm.trans e;cases e
  have key:∀ h',h'.IsCell c (some y)→Heap.SameBut c s.heap h'→Frm B env ((x,u)::ρ) H h':=by
   intro h' hc' hs;have kt:=kc ho nonseq hs;refine ⟨F.kind,F.glob,F.bi,?_,fun z c' hz=>?_,F.has,F.outL,F.outC,F.apart⟩
   ·refine e1a2 F.ns fun m hns hm=>?_;refine i1a2 m (hns.sameBut hs (Ne.symm (F.outC x c hcc).2.2)) (fun z w hz hw=>?_);clear hX1 hX2 hc fin hcc hu;rcases lk z w hw with ⟨rfl,rfl⟩ | ⟨hne,hw⟩
    ·rw [hk] at hz;clear hk;rcases hl with rfl | rfl <;> cases hz
    ·refine e1a2 (hm z w hz hw) fun v' hv' hcc'=>?_;exact i1a2 v' hv' (hcc'.keep kt)
   ·by_cases hzx:z=x
    ·clear hk hX2 fin hu;subst hzx;replace hz:=hcc.symm.trans hz;cases hz;refine ⟨some y,hc',fun w hkz hw=>i1a2 y rfl ?_⟩;rcases lk z w hw with ⟨_,rfl⟩ | ⟨hne,_⟩
     ·exact hc.keep kt
     ·exact absurd rfl hne
    ·refine e1a2 (F.cl z c' hz) fun v' hv' hu'=>?_;refine i1a2 v' (hv'.sameBut hs fun e=>hzx (F.apart z x c' hz (e▸hcc))) (fun w hkz hw=>?_);rcases lk z w hw with ⟨e,_⟩ | ⟨_,hw⟩
     ·exact absurd e hzx
     ·refine e1a2 (hu' w hkz hw) fun v2 hv2 hc2=>?_;exact i1a2 v2 hv2 (hc2.keep kt)
  have go:∀ h',h'.IsCell c (some y)→Heap.SameBut c s.heap h'→TrP B X s H Q () { s with heap:=h' }:=fun h' hc' hs=>
   fin c h' (hX2 (by clear hk hX1 hX2;rcases hl with rfl | rfl <;> decide) c hcc) (F.outC x c hcc).1 (F.outC x c hcc).2.1 ⟨o,ho,nonseq,e1a2 hc' fun o' e u7_=>⟨o',e⟩⟩ hs s.toks (key h' hc' hs)
  dsimp only [ storeName];clear hX1;rcases hl with rfl | rfl
  ·exact wpAny_storeName_cell F.kind hk hcc hv go
  ·have:env.blockKind=.function:=by unfold Env.blockKind;rw [F.kind];rfl
   rw [hk,F.kind];refine wpAny_bind (wpAny_cellOf hcc ?_);exact wpAny_cellSet hv go
theorem store_name {B:Bs} {A:Around} {env:Env} {ρ:Rho} {H:AH} {s:Shared} {x:Str} {k:NameKind} {u:V} {y:Value} {Q:Unit→AH→Shared→Prop} (a:Abs B s.heap H) (F:Frm B env ρ H s.heap) (hk:env.kindOf x=some k)
  (hl:k=.local∨k=.cell∨k=.free) (hc:Conc B s.heap u y) (q:∀ s',Frm B env ((x,u)::ρ) H s'.heap→Abs B s'.heap H→Q () H s'):Tr B A (fpOf env) (storeName env x y) H s Q:=
 store_at a F hk hl (fun u1_=>List.mem_cons_self ..) (fun u2_ c h=>mem_fp h) hc q
theorem store_local {B:Bs} {A:Around} {env:Env} {ρ:Rho} {H:AH} {s:Shared} {x:Str} {u:V} {y:Value} {Q:Unit→AH→Shared→Prop} (a:Abs B s.heap H) (F:Frm B env ρ H s.heap) (hk:env.kindOf x=some .local)
  (hc:Conc B s.heap u y) (q:∀ s',Frm B env ((x,u)::ρ) H s'.heap→Abs B s'.heap H→Q () H s'):Tr B A [env.locals] (storeName env x y) H s Q:=
 store_at a F hk (.inl rfl) (fun u1_=>List.mem_cons_self ..) (fun h=>absurd rfl h) hc q
noncomputable def FpOk (B:Bs) (H:AH) (fp:List Addr):Prop:=∀ b∈fp,H b=none∧B.h0.get? b=none∧2 < b
theorem off {B:Bs} {s:Shared} {H:AH} {h':Heap} {tk:Nat} {fp:List Addr} (x:Abs B s.heap H) (hf:FpOk B H fp) (hk:∀ b o,b ∉ fp→s.heap.get? b=some o→h'.get? b=some o)
  (kt:KeepT B s.heap h') (hp:∀ b∈fp,B.priv b→∃ o,h'.get? b=some o):Abs B h' H∧St B fp s H { s with heap:=h',toks:=tk } H:=by
 refine ⟨⟨fun a c e=>(x.cell a c e).keep kt fun o ho=>?_,x.new,fun b o e=>?_,x.low,?_,fun b hb=>?_⟩,fun b o e u1_ hx=>hk b o hx e,fun b o e hx=>⟨o,hk b o hx e⟩,fun u2_ u3_ u4_ u5_ e=>e,kt,rfl,rfl⟩
 ·exact hk _ _ (fun hb=>by have:=(hf a hb).1;replace this:=e.symm.trans this;exact z_sn this) ho
 ·exact hk _ _ (fun hb=>by have:=(hf b hb).2.1;replace this:=e.symm.trans this;exact z_sn this) (x.keep _ _ e)
 ·refine e1a1 x.stat fun o e=>?_;exact ⟨o,hk _ _ (fun hb=>absurd (hf 2 hb).2.2 (Nat.lt_irrefl _)) e⟩
 ·by_cases hm:b∈fp
  ·exact hp b hm hb
  ·refine e1a1 (x.priv b hb) fun o e=>?_;exact ⟨o,hk b o hm e⟩
theorem off1 {B:Bs} {s:Shared} {H:AH} {h':Heap} {tk:Nat} {I:Addr} (x:Abs B s.heap H) (hf:FpOk B H [I]) (hI:¬ B.priv I) (hk:∀ b o,b≠I→s.heap.get? b=some o→h'.get? b=some o)
  (ht:∀ o,s.heap.get? I=some o→∀ xs n,o.data≠.seq xs n):Abs B h' H∧KeepT B s.heap h'∧St B [I] s H { s with heap:=h',toks:=tk } H:=by
 have kt:KeepT B s.heap h':=⟨fun b o u1_ e t ⟨xs,n,d⟩=>by
  by_cases hb:b=I
  ·clear hf hI hk;subst hb;exact absurd d (ht o e _ _)
  ·exact hk b o hb e⟩
 refine e0a2 (off (tk:=tk) x hf (fun b o hb e=>hk b o (fun e2=>hb (by simp [e2])) e) kt (fun b hb hp=>absurd (List.mem_singleton.mp hb▸hp) hI)) fun a st=>?_;exact ⟨a,kt,st⟩
theorem offBut {B:Bs} {s:Shared} {H:AH} {h':Heap} {tk:Nat} {C:Addr} (x:Abs B s.heap H) (hs:Heap.SameBut C s.heap h') (kt:KeepT B s.heap h') (hH:H C=none) (hb:B.h0.get? C=none) (h2:2 < C) (hpv:¬ B.priv C) :
  Abs B h' H∧St B [C] s H { s with heap:=h',toks:=tk } H:=by
 refine ⟨⟨fun b c e=>(x.cell b c e).keep kt fun o ho=>?_,x.new,fun b o e=>?_,x.low,?_,fun b hp=>let ⟨o,e⟩:=x.priv b hp;⟨o,by refine (hs.2 b (fun e2=>hpv (e2▸hp))).trans ?_;exact e⟩⟩,fun b o e u1_ hx=>?_,fun b o e hx=>?_,fun u2_ u3_ u4_ u5_ e=>e,kt,rfl,rfl⟩
 ·rw [hs.2 b (fun e2=>by replace e:=hH.symm.trans (e2▸e);exact z_ns e)];exact ho
 ·rw [hs.2 b (fun e2=>by replace e:=hb.symm.trans (e2▸e);exact z_ns e)];exact x.keep b o e
 ·refine e1a1 x.stat fun o e=>?_;exact ⟨o,by refine (hs.2 2 (Nat.ne_of_lt h2)).trans ?_;exact e⟩
 ·show h'.get? b=_;rw [hs.2 b (fun e2=>hx (by simp [e2]))];exact e
 ·exact ⟨o,by show h'.get? b=_;rw [hs.2 b (fun e2=>hx (by simp [e2]))];exact e⟩
noncomputable def Tuple? (e:Expr):Bool:=Nat.beq e.ctorIdx 25
theorem tuple_is {tg:Expr} (h:Tuple? tg=true):∃ es kk pos,tg=.Tuple es kk pos:=by
 rcases tg with _ | _ <;> first | exact ⟨_,_,_,rfl⟩ | exact z_ft h
structure Src (B:Bs) (tg:Expr) (live:AH→Prop) (items:List V) (it:Value) (fp:List Addr) (at_:Nat→Heap→Prop):Prop where
 frame:∀ i h h',at_ i h→KeepT B h h'→(∀ b∈fp,∀ o,h.get? b=some o→h'.get? b=some o)→at_ i h'
 next:∀ i v A s H,A.handled=none→Abs B s.heap H→live H→FpOk B H fp→at_ i s.heap→items[i]? = some v →
  wpAny B.M A (pyNext it) (fun r s1=>∃ y,r=some y∧wpAny B.M A (letOwnedTupleGo tg it y) (fun _ s'=>Abs B s'.heap H∧St B fp s H s' H∧at_ (i+1) s'.heap∧Conc B s'.heap v y) (fun _ _=>False) s1) (fun _ _=>False) s
 done:∀ A s H,A.handled=none→Abs B s.heap H→live H→FpOk B H fp→at_ items.length s.heap →
  wpAny B.M A (pyNext it) (fun r s'=>r=none∧Abs B s'.heap H∧St B fp s H s' H) (fun _ _=>False) s
 there:∀ i h,at_ i h→∀ b∈fp,∃ o,h.get? b=some o
 self:∀ i A s (Q:Value→Shared→Prop),at_ i s.heap→Q it s→wpAny B.M A (pyIter it) Q (fun _ _=>False) s
noncomputable abbrev Bs.wp (B:Bs) (P:Addr→Prop):Bs:={ B with priv:=P }
structure Up (B:Bs) (P:Addr→Prop) (s:Shared):Prop where
 le:∀ a,B.priv a→P a
 new:∀ a,P a→B.priv a∨s.heap.get? a=none
theorem Up.refl {B:Bs} {s:Shared}:Up B B.priv s:=⟨fun u1_ h=>h,fun u2_ h=>.inl h⟩
noncomputable abbrev QT:=(Addr→Prop)→List V→(AH→Prop)→AH→Prop
inductive ItPost (B:Bs) (tg:Expr) (s:Shared) (H:AH) (Q:QT) (it:Value) (s2:Shared):Prop
 | mk (P:Addr→Prop) (H2:AH) (items:List V) (live:AH→Prop) (fp:List Addr) (at_:Nat→Heap→Prop) (u:Up B P s) (a:Abs (B.wp P) s2.heap H2) (st:St B [] s H s2 H2) (src:Src (B.wp P) tg live items it fp at_) (hat:at_ 0 s2.heap) (hfp:∀ b∈fp,s.heap.get? b=none) (hok:FpOk (B.wp P) H2 fp) (q:Q P items live H2)
noncomputable def It (B:Bs) (n:Nat) (sc:Scope) (tg:Expr) (iter:Expr) (ρ:Rho) (H:AH) (Q:QT):Prop:=
 ∀ env A s,B.OK→env.scope=sc→Room n A→Abs B s.heap H→Frm B env ρ H s.heap→wpAny B.M A (eval iter env) (fun x s1=>wpAny B.M A (pyIter x) (fun it s2=>ItPost B tg s H Q it s2) (fun _ _=>False) s1) (fun _ _=>False) s
noncomputable def UI (B:Bs) (n:Nat) (tg:Expr) (u:V) (H:AH) (Q:QT):Prop:=
 ∀ A s x,B.OK→Room n A→Abs B s.heap H→Conc B s.heap u x→wpAny B.M A (pyIter x) (fun it s2=>ItPost B tg s H Q it s2) (fun _ _=>False) s
noncomputable def UCI (B:Bs) (n:Nat) (tg:Expr) (f:Value) (us:List V) (H:AH) (Q:QT):Prop:=
 ∀ A s xs,B.OK→Room n A→Abs B s.heap H→ConcL B s.heap us xs→wpAny B.M A (PySem.call f xs) (fun x s1=>wpAny B.M A (pyIter x) (fun it s2=>ItPost B tg s H Q it s2) (fun _ _=>False) s1) (fun _ _=>False) s
section
variable {B:Bs} {n:Nat} {sc:Scope} {ρ:Rho} {H:AH} {tg:Expr} {Q:QT}
theorem not_there {s s1:Shared} {H H1:AH} (st:St B [] s H s1 H1) {x:Addr} (h:s1.heap.get? x=none):s.heap.get? x=none:=by
 induction hq:s.heap.get? x with
 | none=>rfl
 | some o=>
  refine e1a1 (st.live x o hq (fun h=>nomatch h)) fun o' e'=>?_;replace e':=h.symm.trans e';exact z_ns e'
theorem ItPost.back {s s1:Shared} {H1:AH} {it:Value} {s2:Shared} (st:St B [] s H s1 H1) (h:ItPost B tg s1 H1 Q it s2):ItPost B tg s H Q it s2:=by
 obtain ⟨P,H2,items,live,fp,at_,u,a,b,c,d,e,f,g⟩:=h;exact ⟨P,H2,items,live,fp,at_,⟨u.le,fun x hx=>(u.new x hx).imp id fun h=>not_there st h⟩,a,st.trans b,c,d,fun x hx=>not_there st (e x hx),f,g⟩
theorem It.value {iter:Expr} (h:Ev B n sc iter ρ H fun u H1=>UI B n tg u H1 Q):It B n sc tg iter ρ H Q:=by
 intro env A s ok he R a F;refine Tr.out (h.run env A s ok he R a F) fun y H1 s1 a1 st1 z3=>?_;obtain ⟨u,hu,q⟩:=z3;exact wpAny_mono (q A s1 y ok R a1 hu) (fun u1_ u2_ p=>p.back st1) fun u3_ u4_ e=>e
theorem It.call {f:Str} {fp pos:Pos} {es:List Expr} {T:String} (hk:sc.names.lookup f=some .globalImplicit) (hg:Glob B f (.type T))
  (h:EvL B n sc es ρ H fun vs H'=>UCI B n tg (.type T) vs H' Q) (hpl:∀ env,(backTo pos (starEach es env)).any (·.1)=false:=by intro u1_;rfl) (hd:(f == ("__debug__":Str))=false:=by decide):It B n sc tg (.Call (.Name f fp) es [] pos) ρ H Q:=by
 intro env A s ok he R a F;subst he;refine wpAny_Call_ofName (Name_function_global F.kind hk ?_ hd);have next:wpAny B.M A (callWith pos (.type T) [] (backTo pos (starEach es env)) (backToKw pos (keywordEach [] env))) (fun x s1=>wpAny B.M A (pyIter x) (fun it s2=>ItPost B tg s H Q it s2) (fun u2_ u3_=>False) s1) (fun u4_ u5_=>False) s:=by
  refine PySem.callWith_type (hpl env) (evalArgs_any (hpl env) (Tr.out (h.run env A s pos ok rfl R a F) fun xs H1 s1 a1 st1 z6=>?_));refine e1a2 z6 fun vs hvs q=>?_;exact wpAny_mono (q A s1 xs ok R a1 hvs) (fun x s2 p=>wpAny_mono p (fun u6_ u7_ p=>p.back st1) fun u8_ u9_ e=>e) fun u10_ u11_ e=>e
 have hg3:s.heap.Ns env.globals B.mg:=F.glob▸ok.T.g.keeps a.keep;rcases hg with hg | ⟨hg,hb,hn⟩
 ·exact loadGlobal_global hg3 (mg_of ok.X ok.T.g hg) next
 ·exact loadGlobal_builtin hg3 (mg_none_of ok.X ok.T.g hg) (F.bi▸ok.T.b.keeps a.keep) ((ok.T.builtins f hn).trans hb) next
theorem noOwn {A:Around} {s:Shared} {E:Value→Shared→Prop} {I:Addr} {o:Obj} {T:String} {y:Value} {Q:Unit→Shared→Prop} (ho:s.heap.get? I=some o) (hc:o.cls=.type T) (hT:["enumerate","zip","dict_itemiterator","dict_reverseitemiterator","odict_iterator","itertools.zip_longest","itertools.pairwise"].contains T=false)
  (q:Q () s):wpAny B.M A (letOwnedTupleGo tg (.ref I) y) Q E s:=by
 have key:wpAny B.M A (letOwnedTupleGo (.Tuple [] 0 default) (.ref I) y) Q E s:=by
  induction y with
  | ref a=>
   refine wpAny_bind (m:=load I) (wpAny_load ho ?_);obtain ⟨cls,dict,data,slots⟩:=o;simp only at hc;subst hc;induction data with
   | fields vs=>
    dsimp only;refine hT▸?_;exact wpAny_pure q
   | _=>exact wpAny_pure q
  | _=>exact wpAny_pure q
 rcases tg with _ | _ <;> first | exact key | exact wpAny_pure q
theorem fresh_fp {s:Shared} (a:Abs B s.heap H) {b:Addr} (hb:s.heap.objs.size≤b):H b=none∧B.h0.get? b=none∧2 < b∧¬ B.priv b:=
 ⟨a.none_of_none (Heap.get?_none_of_le hb),a.base_none (Heap.get?_none_of_le hb),Nat.lt_of_lt_of_le a.low_size hb,a.notPriv hb⟩
theorem src_list {l I:Addr} {items:List V}:Src B tg (fun H=>H l=some (.list items)) items (.ref I) [I] (fun i h=>h.IsListIter I l i∧¬ B.priv I) where
 frame:=fun i h h' x u1_ k=>⟨x.1.at fun o e=>k I z_m0 o e,x.2⟩
 next:=fun i v A s H hh a live hf ⟨hit,hpI⟩ hi=>by
  refine e2a2 (a.cell _ _ live) fun xs n ho hl=>?_;refine e1a2 (hl.get hi) fun y hy hc=>?_;refine wpAny_pyNext_list_item hit (IsL.isList (n:=n) ho) (x:=y) (by simpa using hy) fun h' hit' hs=>⟨y,rfl,?_⟩
  refine e1a3 hit fun o hoI hcI hdI=>?_;refine e1a3 (id hit') fun o' hoI' hcI' u2_=>?_;refine e0a3 (off1 (tk:=s.toks) a hf hpI (fun b o hb e=>by refine (hs.2 b hb).trans ?_;exact e) (fun o2 e xs n e2=>by
   replace e:=hoI.symm.trans e;cases e;replace e2:=hdI.symm.trans e2;cases e2)) fun a' kt st=>?_
  exact noOwn (s:={ s with heap:=h' }) hoI' hcI' (by decide) ⟨a',st,⟨hit',hpI⟩,hc.keep kt⟩
 done:=fun A s H hh a live hf ⟨hit,hpI⟩=>by
  refine e2a2 (a.cell _ _ live) fun xs n ho hl=>?_;refine wpAny_pyNext_list_end hh hit (IsL.isList (n:=n) ho) (by simp [hl.length]) fun h' hs=>⟨rfl,?_⟩
  refine e1a3 hit fun o hoI hcI hdI=>?_;refine e0a3 (off1 (tk:=s.toks) a hf hpI (h':=h') (fun b o hb e=>hs b o hb e) (fun o2 e xs n e2=>by
   replace e:=hoI.symm.trans e;cases e;replace e2:=hdI.symm.trans e2;cases e2)) fun a' kt st=>?_
  exact ⟨a',st⟩
 there:=fun i h x b hb=>by replace hb:=List.mem_singleton.mp hb;subst hb;obtain ⟨⟨o,ho,u3_⟩,u4_⟩:=x;exact ⟨o,ho⟩
 self:=fun i A s Q hit q=>wpAny_pyIter_listiter hit.1 q
theorem UI.list {l:Addr} {items:List V} (hl:H l=some (.list items)) (q:Q B.priv items (fun H=>H l=some (.list items)) H):UI B n tg (.ref l) H Q:=by
 intro A s x ok R a hc;have:x=.ref l:=hc;subst this;refine e2a2 (a.cell _ _ hl) fun xs n ho u1_=>?_;refine wpAny_pyIter_list (IsL.isList (n:=n) ho) ?_;have hk:∀ b o,s.heap.get? b=some o→(s.heap.push { cls:=.type "list_iterator",data:=.fields #[.ref l,.int 0 0] }).get? b=some o:=fun b o e=>Heap.get?_push_of_some _ e;refine ⟨B.priv,H,items,_,[s.heap.objs.size],_,.refl,a.grown hk,.grown (tk:=s.toks) hk,src_list (B:=B),⟨⟨_,Heap.get?_push_size _ rfl,rfl,rfl⟩,a.notPriv (Nat.le_refl _)⟩,?_,?_,q⟩
 ·intro b hb;simp only [List.mem_singleton] at hb;subst hb;exact Heap.get?_none_of_le (Nat.le_refl _)
 ·intro b hb;simp only [List.mem_singleton] at hb;subst hb;exact let f:=fresh_fp a (Nat.le_refl _);⟨f.1,f.2.1,f.2.2.1⟩
theorem src_tup {I t:Addr} {items:List V} {xs:List Value} {m:Nat} (hp:¬ B.priv t):Src B tg (fun u1_=>True) items (.ref I) [I] (fun i h=>h.IsTupleIter I t i∧h.get? t=some (seqObj "tuple" (List.toArray xs) m)∧ConcL B h items xs∧¬ B.priv I) where
 frame:=fun i h h' x kt k=>⟨let ⟨o,ho,r⟩:=x.1;⟨o,k I z_m0 o ho,r⟩,kt.tup _ _ hp x.2.1 rfl ⟨_,_,rfl⟩,x.2.2.1.keep kt,x.2.2.2⟩
 next:=fun i v A s H hh a live hf ⟨hit,ht,hl,hpI⟩ hi=>by
  refine e1a2 (hl.get hi) fun y hy hc=>?_;refine wpAny_pyNext_tuple_item hit (isTuple_of ht) (x:=y) (by simpa using hy) fun h' hit' hs=>⟨y,rfl,?_⟩
  refine e1a3 hit fun o hoI hcI hdI=>?_;refine e1a3 (id hit') fun o' hoI' hcI' u2_=>?_;refine e0a3 (off1 (tk:=s.toks) a hf hpI (fun b o hb e=>by refine (hs.2 b hb).trans ?_;exact e) (fun o2 e xs n e2=>by
   replace e:=hoI.symm.trans e;cases e;replace e2:=hdI.symm.trans e2;cases e2)) fun a' kt st=>?_
  exact noOwn (s:={ s with heap:=h' }) hoI' hcI' (by decide) ⟨a',st,⟨hit',kt.tup _ _ hp ht rfl ⟨_,_,rfl⟩,hl.keep kt,hpI⟩,hc.keep kt⟩
 done:=fun A s H hh a live hf ⟨hit,ht,hl,hpI⟩=>by
  refine wpAny_pyNext_tuple_end hh hit (isTuple_of ht) (by simp [hl.length]) fun h' hs=>⟨rfl,?_⟩
  refine e1a3 hit fun o hoI hcI hdI=>?_;refine e0a3 (off1 (tk:=s.toks) a hf hpI (h':=h') (fun b o hb e=>hs b o hb e) (fun o2 e xs n e2=>by
   replace e:=hoI.symm.trans e;cases e;replace e2:=hdI.symm.trans e2;cases e2)) fun a' kt st=>?_
  exact ⟨a',st⟩
 there:=fun i h x b hb=>by replace hb:=List.mem_singleton.mp hb;subst hb;obtain ⟨⟨o,ho,u3_⟩,u4_⟩:=x;exact ⟨o,ho⟩
 self:=fun i A s Q hit q=>wpAny_pyIter_tupleiter hit.1 q
theorem UI.tup {items:List V} (q:Q B.priv items (fun u1_=>True) H):UI B n tg (.tup items) H Q:=by
 intro A s x ok R a hc;refine e3a4 (conc_tup' hc) fun t xs m z7 ht hl hp=>?_;subst z7;refine wpAny_pyIter_tuple (isTuple_of ht) ?_;have hk:∀ b o,s.heap.get? b=some o→(s.heap.push { cls:=.type "tuple_iterator",data:=.fields #[.ref t,.int 0 0] }).get? b=some o:=fun b o e=>Heap.get?_push_of_some _ e;refine ⟨B.priv,H,items,_,[s.heap.objs.size],_,.refl,a.grown hk,.grown (tk:=s.toks) hk,src_tup (B:=B) (xs:=xs) (m:=m) (t:=t) hp,⟨⟨_,Heap.get?_push_size _ rfl,rfl,rfl⟩,hk _ _ ht,hl.keep (.of_keeps hk),a.notPriv (Nat.le_refl _)⟩,?_,?_,q⟩
 ·intro b hb;simp only [List.mem_singleton] at hb;subst hb;exact Heap.get?_none_of_le (Nat.le_refl _)
 ·intro b hb;simp only [List.mem_singleton] at hb;subst hb;exact let f:=fresh_fp a (Nat.le_refl _);⟨f.1,f.2.1,f.2.2.1⟩
noncomputable def irange (a:Int) (n:Nat):List V:=(List.range n).map fun (i:Nat)=>V.int (a+i)
theorem src_range {I:Addr} {a:Int} {n:Nat}:Src B tg (fun u1_=>True) (irange a n) (.ref I) [I] (fun i h=>IsRangeIter h I (a+(i:Nat) * 1) ((n:Int) - (i:Nat)) 1∧¬ B.priv I) where
 frame:=fun i h h' x kt k=>⟨k I z_m0 _ x.1,x.2⟩
 next:=fun i v A s H hh ab live hf ⟨hit,hpI⟩ hi=>by
  have hi':i < n:=by
   have:=(List.getElem?_eq_some_iff.mp hi).1;simpa [irange] using this
  have hv:v=.int (a+i):=by simp [irange,hi'] at hi;exact hi.symm
  clear hi;subst hv;refine wpAny_pyNext_range_item hit (by lia) fun h' hit' hs=>⟨_,rfl,?_⟩
  refine e0a3 (off1 (tk:=s.toks+1) ab hf hpI (h':=h') (fun b o hb e=>by refine (hs.2 b hb).trans ?_;exact e) (fun o2 e xs n e2=>by
   rw [show s.heap.get? I=_ from hit] at e;cases e;cases e2)) fun a' kt st=>?_
  have e1:a+((i+1:Nat):Int) * 1=a+(i:Int) * 1+1:=by push_cast;lia
  have e2:(n:Int) - ((i+1:Nat):Int)=(n:Int) - (i:Int) - 1:=by push_cast;lia
  refine noOwn (s:={ s with heap:=h',toks:=s.toks+1 }) hit' rfl (by decide) ⟨a',st,⟨by refine e1▸?_;refine e2▸?_;exact hit',hpI⟩,?_⟩;show ∃ t,Value.int (a+(i:Int) * 1) s.toks=.int (a+i) t;rw [Int.mul_one];exact ⟨_,rfl⟩
 done:=fun A s H hh ab live hf ⟨hit,hpI⟩=>by
  refine wpAny_pyNext_range_end hh hit (by simp [irange]) fun h' hs=>⟨rfl,?_⟩
  refine e0a3 (off1 (tk:=s.toks) ab hf hpI (h':=h') (fun b o hb e=>hs b o hb e) (fun o2 e xs n e2=>by
   rw [show s.heap.get? I=_ from hit] at e;cases e;cases e2)) fun a' kt st=>?_
  exact ⟨a',st⟩
 there:=fun i h x b hb=>by simp only [List.mem_singleton] at hb;subst hb;exact ⟨_,x.1⟩
 self:=fun i A s Q hit q=>wpAny_pyIter_rangeiter hit.1 q
end
inductive ExPost (B:Bs) (env:Env) (Q:Out→Rho→AH→Prop) (f:Flow) (H':AH) (s':Shared):Prop
 | mk (o:Out) (ρ':Rho) (hf:FlowIs B s'.heap o f) (F:Frm B env ρ' H' s'.heap) (q:Q o ρ' H')
structure Ex (B:Bs) (n:Nat) (sc:Scope) (st:Stmt) (ρ:Rho) (H:AH) (Q:Out→Rho→AH→Prop):Prop where
 run:∀ env A s,B.OK→env.scope=sc→Room n A→Abs B s.heap H→Frm B env ρ H s.heap→Tr B A (fpOf env) (exec st env) H s (ExPost B env Q)
structure Exs (B:Bs) (n:Nat) (sc:Scope) (sts:List Stmt) (ρ:Rho) (H:AH) (Q:Out→Rho→AH→Prop):Prop where
 run:∀ env A s,B.OK→env.scope=sc→Room n A→Abs B s.heap H→Frm B env ρ H s.heap→Tr B A (fpOf env) (execs sts env) H s (ExPost B env Q)
structure AsX (X:Env→List Addr) (B:Bs) (n:Nat) (sc:Scope) (t:Expr) (ρ:Rho) (H:AH) (u:V) (Q:Rho→AH→Prop):Prop where
 run:∀ env A s y,B.OK→env.scope=sc→Room n A→Abs B s.heap H→Frm B env ρ H s.heap→Conc B s.heap u y→Tr B A (X env) (assign t env y) H s (fun _ H' s'=>∃ ρ',Frm B env ρ' H' s'.heap∧Q ρ' H')
noncomputable abbrev As:=AsX fpOf
theorem Up.map {B:Bs} {P:Addr→Prop} {s:Shared} {h':Heap} (u:Up B P s) (k:KeepT B s.heap h'):TupMap B (B.wp P) s.heap h':=fun a o hp ho hc hd=>⟨k.tup _ _ hp ho hc hd,fun h=>(u.new a h).elim hp fun h=>some_none ho h⟩
theorem down_map {B:Bs} {P:Addr→Prop} {h:Heap} (u:∀ a,B.priv a→P a):TupMap (B.wp P) B h h:=fun a o hp ho u1_ u2_=>⟨ho,fun h=>hp (u a h)⟩
theorem Conc.up {B:Bs} {P:Addr→Prop} {s:Shared} {h':Heap} (u:Up B P s) (k:KeepT B s.heap h') {v:V} {x:Value} (e:Conc B s.heap v x):Conc (B.wp P) h' v x:=e.map (u.map k)
theorem Conc.down {B:Bs} {P:Addr→Prop} {h:Heap} (u:∀ a,B.priv a→P a) {v:V} {x:Value} (e:Conc (B.wp P) h v x):Conc B h v x:=e.map (down_map u)
theorem CellIs.down {B:Bs} {P:Addr→Prop} {h:Heap} (u:∀ a,B.priv a→P a) {a:Addr} {c:Cell} (x:CellIs (B.wp P) h a c):CellIs B h a c:=x.map (P:=B.priv) (down_map u) fun u1_ h=>h
theorem CellIs.up {B:Bs} {P:Addr→Prop} {s:Shared} {h':Heap} (u:Up B P s) (hk:∀ b o,s.heap.get? b=some o→h'.get? b=some o) {a:Addr} {c:Cell} (x:CellIs B s.heap a c):CellIs (B.wp P) h' a c:=x.map (u.map (.of_keeps hk)) (hk a)
theorem Abs.up {B:Bs} {P:Addr→Prop} {s:Shared} {H:AH} {h':Heap} (x:Abs B s.heap H) (u:Up B P s) (hk:∀ b o,s.heap.get? b=some o→h'.get? b=some o) (hp:∀ a,P a→∃ o,h'.get? a=some o):Abs (B.wp P) h' H:=
 ⟨fun a c e=>(x.cell a c e).up u hk,x.new,fun b o e=>hk b o (x.keep b o e),x.low,e1a1 x.stat fun o e=>⟨o,hk _ _ e⟩,hp⟩
theorem Abs.down {B:Bs} {P:Addr→Prop} {h:Heap} {H:AH} (u:∀ a,B.priv a→P a) (x:Abs (B.wp P) h H):Abs B h H:=⟨fun a c e=>(x.cell a c e).down u,x.new,x.keep,x.low,x.stat,fun a ha=>x.priv a (u a ha)⟩
theorem Frm.down {B:Bs} {P:Addr→Prop} {env:Env} {ρ:Rho} {H:AH} {h:Heap} (u:∀ a,B.priv a→P a) (F:Frm (B.wp P) env ρ H h):Frm B env ρ H h:=
 ⟨F.kind,F.glob,F.bi,e1a2 F.ns fun m a b=>(i1a2 m a (fun x w hx hw=>(b x w hx hw).imp fun y hy=>⟨hy.1,hy.2.down u⟩)),fun x c hc=>e1a2 (F.cl x c hc) fun v a b=>(i1a2 v a (fun w hx hw=>(b w hx hw).imp fun y hy=>⟨hy.1,hy.2.down u⟩)),F.has,F.outL,F.outC,F.apart⟩
theorem Frm.up {B:Bs} {P:Addr→Prop} {env:Env} {ρ:Rho} {H H2:AH} {s s2:Shared} (u:Up B P s) (F:Frm B env ρ H s.heap) (a:St B [] s H s2 H2):Frm (B.wp P) env ρ H2 s2.heap:=by
 have F':=F.step a;refine ⟨F.kind,F.glob,F.bi,?_,fun x c hc=>?_,F.has,F'.outL,F'.outC,F.apart⟩
 ·refine e1a2 F.ns fun m hn hm=>?_;refine i1a2 m (Heap.Ns.at' hn fun o e=>a.keep _ _ e F.outL.1 (fun h=>nomatch h)) (fun x w hx hw=>?_);refine e1a2 (hm x w hx hw) fun y hy hc=>?_;exact i1a2 y hy (hc.up u a.tup)
 ·refine e1a2 (F.cl x c hc) fun v z1 hv=>?_;refine e1a2 z1 fun o ho hd=>?_;refine i1a2 v (i1a2 o (a.keep _ _ ho (F.outC x c hc).1 (fun h=>nomatch h)) hd) (fun w hk hw=>?_);refine e1a2 (hv w hk hw) fun y hy hc'=>?_;exact i1a2 y hy (hc'.up u a.tup)
theorem St.down {B:Bs} {P:Addr→Prop} {X:List Addr} {s s2 s':Shared} {H H2 H':AH} (u:Up B P s) (a:St B [] s H s2 H2) (b:St (B.wp P) X s2 H2 s' H'):St B X s H s' H':=by
 refine ⟨fun c o e n x=>b.keep c o (a.keep c o e n (fun h=>nomatch h)) (a.dom c o e (fun h=>nomatch h) n) x,fun c o e x=>e1a1 (a.live c o e (fun h=>nomatch h)) fun o' e'=>b.live c o' e' x,
  fun c o h x n=>e1a1 (a.live c o h (fun h=>nomatch h)) fun o' e'=>b.dom c o' e' x (a.dom c o h (fun h=>nomatch h) n),⟨fun c o hp e t d=>?_⟩,b.gens.trans a.gens,b.os.trans a.os⟩
 refine b.tup.tup c o (fun h=>(u.new c h).elim hp fun h=>some_none e h) (a.tup.tup c o hp e t d) t d
theorem FlowIs.down {B:Bs} {P:Addr→Prop} {h:Heap} (u:∀ a,B.priv a→P a) {o:Out} {f:Flow} (x:FlowIs (B.wp P) h o f):FlowIs B h o f:=by
 induction o with
 | ret v=>refine e1a2 x fun y e hy=>?_;exact i1a2 y e (hy.down u)
 | next=>exact x
 | brk=>exact x
 | cont=>exact x
theorem Bs.OK.wp {B:Bs} (ok:B.OK) (P:Addr→Prop):(B.wp P).OK:=⟨ok.X,ok.T⟩
section
variable {B:Bs} {n:Nat} {sc:Scope} {ρ:Rho} {H:AH}
theorem As.name {x:Str} {pos:Pos} {u:V} {Q:Rho→AH→Prop} {k:NameKind} (hk:sc.names.lookup x=some k) (q:Q ((x,u)::ρ) H) (hl:k=.local∨k=.cell∨k=.free:=by decide):As B n sc (.Name x pos) ρ H u Q:=by
 refine ⟨fun env A s y ok he R a F hc=>?_⟩;subst he;refine wpAny_assign_Name (store_name a F hk hl hc fun s' F' a'=>i1a2 _ F' q)
theorem AsX.name {x:Str} {pos:Pos} {u:V} {Q:Rho→AH→Prop} (hk:sc.names.lookup x=some .local) (q:Q ((x,u)::ρ) H):AsX (fun e=>[e.locals]) B n sc (.Name x pos) ρ H u Q:=by
 refine ⟨fun env A s y ok he R a F hc=>?_⟩;subst he;refine wpAny_assign_Name (store_local a F hk hc fun s' F' a'=>i1a2 _ F' q)
theorem As.attr {o:Expr} {name:Str} {pos:Pos} {u:V} {Q:Rho→AH→Prop} (h:Ev B n sc o ρ H fun v H1=>US B n (fun x y=>setAttr x name y) v u H1 fun H2=>Q ρ H2):As B n sc (.Attribute o name pos) ρ H u Q:=by
 refine ⟨fun env A s y ok he R a F hc=>?_⟩;show Tr B A (fpOf env) (holding [y] (eval o env) >>= fun ov=>standAt pos.atName >>= fun u1_=>holding [y,ov] (setAttr ov name y) >>= fun u2_=>release [y,ov] []) H s _;refine Tr.then (Tr.holding (h.run env A s ok he R a F)) (fun u3_ h=>nomatch h) fun z H1 s1 a1 st1 ⟨v,hv,q⟩=>Tr.stand a1 ?_;refine Tr.then (Tr.holding (q A s1 z y ok R a1 hv (hc.keep st1.tup))) (fun u4_ h=>nomatch h) fun u5_ H2 s2 a2 st2 q=>Tr.release a2 (i1a2 ρ ((F.step st1).step st2) q)
theorem As.sub {o i:Expr} {pos:Pos} {u:V} {Q:Rho→AH→Prop} (h:Ev B n sc o ρ H fun v H1=>Ev B n sc i ρ H1 fun w H2=>US3 B n setItem v w u H2 fun H3=>Q ρ H3)
  (hi:∀ l p q r,i≠.Slice l p q r:=by intro _ _ _ _ e;subst e):As B n sc (.Subscript o i pos) ρ H u Q:=by
 refine ⟨fun env A s y ok he R a F hc=>?_⟩;show Tr B A (fpOf env) (holding [y] (eval o env) >>= fun ov=>holding [y,ov] (eval i env) >>= fun iv=>standAt pos >>= fun _=>holding [y,ov,iv] (setItem ov iv y) >>= fun _=>release _ []) H s _;refine Tr.then (Tr.holding (h.run env A s ok he R a F)) (fun _ h=>nomatch h) fun z H1 s1 a1 st1 z1=>?_;obtain ⟨v,hv,q⟩:=z1;refine Tr.then (Tr.holding (q.run env A s1 ok he R a1 (F.step st1))) (fun _ h=>nomatch h) fun z2 H2 s2 a2 st2 ⟨w,hw,q⟩=>Tr.stand a2 ?_;refine Tr.then (Tr.holding (q A s2 z z2 y ok R a2 (hv.keep st2.tup) hw ((hc.keep st1.tup).keep st2.tup))) (fun _ h=>nomatch h) fun _ H3 s3 a3 st3 q=>Tr.release a3 (i1a2 ρ (((F.step st1).step st2).step st3) q)
theorem Exs.nil {Q:Out→Rho→AH→Prop} (q:Q .next ρ H):Exs B n sc [] ρ H Q:=⟨fun env A s ok he R a F=>Tr.pure a ⟨.next,ρ,rfl,F,q⟩⟩
theorem Exs.cons {st:Stmt} {sts:List Stmt} {Q:Out→Rho→AH→Prop} (h:Ex B n sc st ρ H fun o ρ' H'=>match o with | .next=>Exs B n sc sts ρ' H' Q | o=>Q o ρ' H'):Exs B n sc (st::sts) ρ H Q:=by
 refine ⟨fun env A s ok he R a F=>?_⟩;refine wpAny_execs_cons (Tr.out (h.run env A s ok he R a F) fun f H1 s1 a1 st1 z4=>?_);obtain ⟨o,ρ',hf,F1,q⟩:=z4;induction o with
 | next=>
  have:f=.next:=hf;subst this;exact wpAny_mono (q.run env A s1 ok he R a1 F1) (fun u1_ u2_ ⟨H',p1,p2,p3⟩=>⟨H',p1,st1.trans p2,p3⟩) fun u3_ u4_ e=>e
 | brk=>have:f=.brk:=hf;subst this;exact ⟨H1,a1,st1,_,ρ',hf,F1,q⟩
 | cont=>have:f=.cont:=hf;subst this;exact ⟨H1,a1,st1,_,ρ',hf,F1,q⟩
 | ret v=>refine e1a2 hf fun y z3 hy=>?_;clear hf;subst z3;exact ⟨H1,a1,st1,.ret v,ρ',i1a2 y rfl hy,F1,q⟩
theorem Exs.sub {sts:List Stmt} {ρ':Rho} {Q:Out→Rho→AH→Prop} (k:∀ x u,ρ'.lookup x=some u→ρ.lookup x=some u) (h:Exs B n sc sts ρ' H Q):Exs B n sc sts ρ H Q:=⟨fun env A s ok he R a F=>h.run env A s ok he R a (F.sub k)⟩
theorem Exs.mono {sts:List Stmt} {Q Q':Out→Rho→AH→Prop} (h:Exs B n sc sts ρ H Q) (k:∀ o ρ' H',Q o ρ' H'→Q' o ρ' H'):Exs B n sc sts ρ H Q':=
 ⟨fun env A s ok he R a F=>(h.run env A s ok he R a F).mono fun u1_ u2_ u3_ u4_ u5_ ⟨o,ρ',p1,p2,p3⟩=>⟨o,ρ',p1,p2,k _ _ _ p3⟩⟩
theorem Ex.mono {st:Stmt} {Q Q':Out→Rho→AH→Prop} (h:Ex B n sc st ρ H Q) (k:∀ o ρ' H',Q o ρ' H'→Q' o ρ' H'):Ex B n sc st ρ H Q':=
 ⟨fun env A s ok he R a F=>(h.run env A s ok he R a F).mono fun u1_ u2_ u3_ u4_ u5_ ⟨o,ρ',p1,p2,p3⟩=>⟨o,ρ',p1,p2,k _ _ _ p3⟩⟩
theorem Ex.ret {e:Expr} {pos:Pos} {Q:Out→Rho→AH→Prop} (h:Ev B n sc e ρ H fun v H'=>Q (.ret v) ρ H'):Ex B n sc (.Return (some e) pos) ρ H Q:=by
 refine ⟨fun env A s ok he R a F=>?_⟩;refine wpAny_Return_some (Tr.out (h.run env A s ok he R a F) fun y H1 s1 a1 st1 ⟨v,hv,q⟩=>⟨H1,a1,st1.drop',.ret v,ρ,i1a2 y rfl hv,F.step st1,q⟩)
theorem Ex.expr {e:Expr} {pos:Pos} {Q:Out→Rho→AH→Prop} (h:Ev B n sc e ρ H fun v H'=>Q .next ρ H') (hs:∀ env,swapsWith e none pos.line env=pure false:=by intro _;rfl):Ex B n sc (.Expr e pos) ρ H Q:=by
 refine ⟨fun env A s ok he R a F=>?_⟩;refine wpAny_Expr_any (Tr.out (h.run env A s ok he R a F) fun y H1 s1 a1 st1 ⟨v,hv,q⟩=>⟨H1,a1,st1.drop',.next,ρ,rfl,F.step st1,q⟩) ?_ (hs env);dsimp only [ interactive];refine F.kind▸?_;rfl
theorem Ex.if {t:Expr} {b o:List Stmt} {pos:Pos} {Q:Out→Rho→AH→Prop} (h:Tst B n sc t ρ H fun c H1=>if c then Exs B n sc b ρ H1 Q else Exs B n sc o ρ H1 Q):Ex B n sc (.If t b o pos) ρ H Q:=by
 refine ⟨fun env A s ok he R a F=>?_⟩;refine wpAny_If (Tr.out (h.run env A s ok he R a F) fun c H1 s1 a1 st1 q=>?_);induction c with
 | true=>exact wpAny_mono (q.run env A s1 ok he R a1 (F.step st1)) (fun u1_ u2_ ⟨H',p1,p2,p3⟩=>⟨H',p1,st1.drop'.trans p2,p3⟩) fun u3_ u4_ e=>e
 | false=>exact wpAny_mono (q.run env A s1 ok he R a1 (F.step st1)) (fun u5_ u6_ ⟨H',p1,p2,p3⟩=>⟨H',p1,st1.drop'.trans p2,p3⟩) fun u7_ u8_ e=>e
theorem Ex.assign {t e:Expr} {pos:Pos} {Q:Out→Rho→AH→Prop} (h:Ev B n sc e ρ H fun u H1=>As B n sc t ρ H1 u fun ρ' H2=>Q .next ρ' H2) (hstar:∀ env,assignEach [t] env=[(false,assign t env)]:=by intro _;rfl)
  (hs:∀ env,env.scope=sc→swapsWith e (some t) pos.line env=pure false:=by intro _ _;rfl) (hw:∀ env,env.scope=sc→swappedStores [t] e env=pure none:=by intro _ _;rfl):Ex B n sc (.Assign [t] e pos) ρ H Q:=by
 refine ⟨fun env A s ok he R a F=>?_⟩;refine wpAny_Assign_stores ?_ (hs env he) (hw env he);refine Tr.out (h.run env A s ok he R a F) fun y H1 s1 a1 st1 z7=>?_;obtain ⟨u,hu,q⟩:=z7;rw [hstar];refine Tr.out (q.run env A s1 y ok he R a1 (F.step st1) hu) fun _ H2 s2 a2 st2 z13=>e1a2 z13 fun ρ' F2 q=>⟨H2,a2,st1.drop'.trans st2,.next,ρ',rfl,F2,q⟩
inductive WSt (B:Bs) (env:Env) (s0:Shared) (H0:AH) (I:Nat→Rho→AH→Prop) (k:Nat) (s:Shared):Prop
 | mk (ρ:Rho) (H:AH) (a:Abs B s.heap H) (st:St B (fpOf env) s0 H0 s H) (F:Frm B env ρ H s.heap) (i:I k ρ H)
theorem Ex.while {t:Expr} {b:List Stmt} {pos:Pos} {Q:Out→Rho→AH→Prop} (I:Nat→Rho→AH→Prop) (k:Nat) (h:I k ρ H)
  (turn:∀ k ρ H,I k ρ H→Tst B n sc t ρ H fun c H1=>if c then Exs B n sc b ρ H1 (fun o ρ' H2=>match o with | .next=>∃ m,m < k∧I m ρ' H2 | .cont=>∃ m,m < k∧I m ρ' H2 | .brk=>Q .next ρ' H2 | .ret v=>Q (.ret v) ρ' H2) else Q .next ρ H1) :
  Ex B n sc (.While t b [] pos) ρ H Q:=by
 refine ⟨fun env A s ok he R a F=>?_⟩;refine wpAny_While (codeAny_whileLoop (I:=WSt B env s H I) (fun k s0 S=>?_) k (.mk ρ H a (.refl _ _ _) F h));obtain ⟨ρ0,H0,a0,st0,F0,i0⟩:=S;refine Tr.out ((turn k ρ0 H0 i0).run env A s0 ok he R a0 F0) fun c H1 s1 a1 st1 q=>?_;have st01:=st0.trans st1.drop';have F1:=F0.step st1;clear turn a0 st0 F0 i0 st1;induction c with
 | true=>
  refine Tr.out (q.run env A s1 ok he R a1 F1) fun f H2 s2 a2 st2 h=>?_;obtain ⟨o,ρ2,hf,F2,q⟩:=h;have st02:=st01.trans st2;clear F1 st01 a1 st2;have nx:(∃ m,m < k∧I m ρ2 H2)→∃ m,m < k∧WSt B env s H I m s2:=fun z18=>e1a2 z18 fun m hm i=>i1a2 m hm (.mk ρ2 H2 a2 st02 F2 i);induction o with
  | next=>cases (show f=.next from hf);exact nx q
  | cont=>cases (show f=.cont from hf);exact nx q
  | brk=>cases (show f=.brk from hf);exact ⟨H2,a2,st02,.next,ρ2,rfl,F2,q⟩
  | ret v=>refine e1a2 hf fun y z4 hy=>?_;clear hf;subst z4;exact ⟨H2,a2,st02,.ret v,ρ2,i1a2 y rfl hy,F2,q⟩
 | false=>exact wpAny_pure ⟨H1,a1,st01,.next,ρ0,rfl,F1,q⟩
set_option genInjectivity false in
set_option genSizeOf false in
structure FX where
 B:Bs
 env:Env
 s0:Shared
 H0:AH
 fp:List Addr
 at_:Nat→Heap→Prop
 items:List V
inductive FSt (x:FX) (I:Nat→Rho→AH→Prop) (k:Nat) (s:Shared):Prop
 | mk (i:Nat) (ρ:Rho) (H:AH) (a:Abs x.B s.heap H) (st:St x.B (x.fp++fpOf x.env) x.s0 x.H0 s H) (F:Frm x.B x.env ρ H s.heap) (hk:i+k=x.items.length+1) (hi:I i ρ H) (hle:i≤x.items.length) (hat:x.at_ i s.heap) (ok:FpOk x.B H x.fp)
theorem for_core {env:Env} {A:Around} {s2:Shared} {H2:AH} {tg:Expr} {b:List Stmt} {it:Value} {items:List V} {live:AH→Prop} {fp:List Addr} {at_:Nat→Heap→Prop} {Q:Out→Rho→AH→Prop} (ok:B.OK) (he:env.scope=sc) (R:Room n A) (a2:Abs B s2.heap H2)
  (F2:Frm B env ρ H2 s2.heap) (src:Src B tg live items it fp at_) (hat:at_ 0 s2.heap) (fpn:∀ b∈fp,b ∉ fpOf env) (hok:FpOk B H2 fp) (I:Nat→Rho→AH→Prop) (i0:I 0 ρ H2) (iend:∀ ρ' H',I items.length ρ' H'→live H'∧Q .next ρ' H')
  (turn:∀ i v ρ' H',items[i]? = some v→I i ρ' H'→live H'∧As B n sc tg ρ' H' v fun ρ2 H2=>Exs B n sc b ρ2 H2 fun o ρ3 H3=>match o with | .next=>I (i+1) ρ3 H3 | .cont=>I (i+1) ρ3 H3 | .brk=>Q .next ρ3 H3 | .ret v=>Q (.ret v) ρ3 H3) :
  codeAny B.M A (.forLoop tg it b [] env) (fun r s'=>match r with | .ok f=>TrP B (fp++fpOf env) s2 H2 (ExPost B env Q) f s' | .error e=>False) s2:=by
 refine codeAny_forLoop_any (prog:=B.prog) (w:=B.w) (A:=A) (I:=FSt ⟨B,env,s2,H2,fp,at_,items⟩ I) (fun k s0 S=>?_) (items.length+1) (.mk 0 ρ H2 a2 (.refl _ _ _) F2 (Nat.zero_add _) i0 (Nat.zero_le _) hat hok);obtain ⟨i,ρ0,H0,a0,st0,F0,hk,hi,hle,hat0,hok0⟩:=S;have toX:∀ b∈fp,b∈fp++fpOf env:=fun u1_ h=>List.mem_append_left _ h;induction hv:items[i]? with
 | none=>
  have e:i=items.length:=Nat.le_antisymm hle (List.getElem?_eq_none_iff.mp hv);have g:=iend ρ0 H0 (e▸hi);refine wpAny_mono (src.done A s0 H0 R.handled a0 g.1 hok0 (e▸hat0)) (fun r s1 h=>?_) fun u2_ u3_ e=>e.elim;obtain ⟨rfl,a1,st1⟩:=h;exact wpAny_pure ⟨H0,a1,st0.trans (st1.mono toX),.next,ρ0,rfl,F0.stepX st1 fpn,g.2⟩
 | some v=>
  have t:=turn i v ρ0 H0 hv hi;have hlt:=(List.getElem?_eq_some_iff.mp hv).1;have hkm:k - 1 < k∧i+1+(k - 1)=items.length+1:=by exact y06 (by assumption) (by assumption)
  clear turn iend;refine wpAny_mono (src.next i v A s0 H0 R.handled a0 t.1 hok0 hat0 hv) (fun r s1 h=>?_) fun u4_ u5_ e=>e.elim;obtain ⟨y,rfl,h⟩:=h;refine wpAny_mono h (fun u6_ s1 h=>?_) fun u7_ u8_ e=>e.elim;refine e0a4 h fun a1 st1 hat1 hc1=>?_;have F1:=F0.stepX st1 fpn;have st01:=st0.trans (st1.mono toX);clear hat0 F0 st0 a0 st1 hi hk hle hv;refine Tr.out (t.2.run env A s1 y ok he R a1 F1 hc1) fun u9_ H3 s3 a3 st3 h=>?_;refine e1a2 h fun ρ2 F3 q=>?_;refine Tr.out (q.run env A s3 ok he R a3 F3) fun f H4 s4 a4 st4 h=>?_;obtain ⟨o,ρ3,hf,F4,q⟩:=h;have stb:=st3.trans st4;have stall:=st01.trans (stb.mono fun u10_ h=>List.mem_append_right _ h);have nx:I (i+1) ρ3 H4→∃ m,m < k∧FSt ⟨B,env,s2,H2,fp,at_,items⟩ I m s4:=fun q=>i1a2 (k - 1) hkm.1 (.mk (i+1) ρ3 H4 a4 stall F4 hkm.2 q hlt (src.frame (i+1) _ _ hat1 stb.tup fun b hb o e=>stb.keep b o e (hok0 b hb).1 (fpn b hb)) fun b hb=>
   e1a1 (src.there _ _ hat1 b hb) fun o ho=>⟨stb.dom b o ho (fpn b hb) (hok0 b hb).1,(hok0 b hb).2⟩)
  have out:∀ o' f',FlowIs B s4.heap o' f'→Q o' ρ3 H4→TrP B (fp++fpOf env) s2 H2 (ExPost B env Q) f' s4:=fun o' f' hf q=>⟨H4,a4,stall,o',ρ3,hf,F4,q⟩
  clear st3 F3 a3 hat1 F1 st01 hc1 a1 stb F4 st4 stall a4;induction o with
  | next=>cases (show f=.next from hf);exact nx q
  | cont=>cases (show f=.cont from hf);exact nx q
  | brk=>cases (show f=.brk from hf);exact out .next _ rfl q
  | ret v=>refine e1a2 hf fun y z9 hy=>?_;clear hf;subst z9;exact out (.ret v) _ (i1a2 y rfl hy) q
inductive ForH (B:Bs) (n:Nat) (sc:Scope) (tg:Expr) (b:List Stmt) (Q:Out→Rho→AH→Prop) (ρ:Rho) (items:List V) (live:AH→Prop) (H1:AH):Prop
 | mk (I:Nat→Rho→AH→Prop) (i0:I 0 ρ H1) (iend:∀ ρ' H',I items.length ρ' H'→live H'∧Q .next ρ' H')
  (turn:∀ i v ρ' H',items[i]? = some v→I i ρ' H'→live H'∧As B n sc tg ρ' H' v fun ρ2 H2=>Exs B n sc b ρ2 H2 fun o ρ3 H3=>match o with | .next=>I (i+1) ρ3 H3 | .cont=>I (i+1) ρ3 H3 | .brk=>Q .next ρ3 H3 | .ret v=>Q (.ret v) ρ3 H3)
theorem Ex.for {tg iter:Expr} {b:List Stmt} {pos:Pos} {Q:Out→Rho→AH→Prop} (hR:It B n sc tg iter ρ H fun P items live H1=>ForH (B.wp P) n sc tg b Q ρ items live H1)
  (hs:∀ env x,foldedSetIterable iter env x=pure x:=by intro _ _;rfl):Ex B n sc (.For tg iter b [] pos) ρ H Q:=by
 refine ⟨fun env A s ok he R a F=>?_⟩;refine wpAny_For (wpAny_mono (hR env A s ok he R a F) (fun x s1 h=>wpAny_mono h (fun it s2 h=>?_) fun _ _ e=>e.elim) fun _ _ e=>e.elim) (hs env);obtain ⟨P,H2,items,live,fp,at_,u,a2,st2,src,hat,hfp,hok,I,i0,iend,turn⟩:=h;refine codeAny_mono (for_core (B:=B.wp P) (ok.wp P) he R a2 (F.up u st2) src hat (fun b hb hm=>?_) hok I i0 iend turn) fun r s' h=>?_
 ·refine e1a1 (F.there hm) fun o ho=>?_;exact some_none ho (hfp b hb)
 ·induction r with
  | error e=>exact h.elim
  | ok f=>
   obtain ⟨H',a',st',o,ρ',hf,F',q⟩:=h;exact ⟨H',a'.down u.le,(St.down u st2 st').drop fun b hb=>(List.mem_append.mp hb).elim (fun h=>.inr (hfp b h)) .inl,o,ρ',hf.down u.le,F'.down u.le,q⟩
end
noncomputable def closOf (cells:List (Str × Addr)):List (Str × NameKind)→List (Str × Addr)→List (Str × Addr)
 | [],acc=>acc
 | (n,k)::r,acc=>closOf cells r (if k == .free then (n,(cells.lookup n).getD 0)::acc else acc)
theorem clos_loop {env:Env} (f:Str × NameKind→List (Str × Addr)→Sem (ForInStep (List (Str × Addr)))) (hf:∀ p acc,f p acc=if p.2 == .free then (do let a ← cellOf env p.1;pure (.yield ((p.1,a)::acc))) else pure (.yield acc)) :
  ∀ (names:List (Str × NameKind)) (acc:List (Str × Addr)),(∀ p∈names,p.2=.free→∃ c,env.cells.lookup p.1=some c)→forIn names acc f=pure (closOf env.cells names acc):=by
 intro names;induction names with
 | nil=>intro acc h;simp only [List.forIn_nil];rfl
 | cons p_ r ih_=>
  obtain ⟨nm,k⟩:=p_;intro acc h;simp only [List.forIn_cons,hf];dsimp only [ closOf];have ih:=fun acc=>ih_ acc fun p hp=>h p (List.mem_cons_of_mem _ hp);by_cases hk:(k == NameKind.free)=true
  ·refine e1a1 (h (nm,k) List.mem_cons_self (beq_iff_eq.mp hk)) fun c hc=>?_;simp only [hk,if_true];unfold cellOf;dsimp only at hc;rw [hc];simp only [pure_bind,Option.getD_some];exact ih _
  ·simp only [hk,Bool.false_eq_true,if_false,pure_bind];exact ih _
theorem closureFor_eq {scope:Scope} {env:Env} (h:∀ p∈scope.names,p.2=.free→∃ c,env.cells.lookup p.1=some c):closureFor scope env=pure (closOf env.cells scope.names []):=by
 simp only [closureFor];rw [clos_loop (env:=env) _ (fun p acc=>?_) scope.names [] h]
 ·rfl
 ·cases hk:(p.2 == NameKind.free) <;> rfl
theorem closOf_mem {cells:List (Str × Addr)}:∀ {names:List (Str × NameKind)} {acc:List (Str × Addr)} {x:Str} {c:Addr},(x,c)∈closOf cells names acc→(x,c)∈acc∨((x,NameKind.free)∈names∧c=(cells.lookup x).getD 0):=by
 intro names;induction names with
 | nil=>
  intro acc x c h;exact .inl h
 | cons p_ r ih_=>
  obtain ⟨n,k⟩:=p_;intro acc x c h;rcases ih_ h with h | ⟨h1,h2⟩
  ·split at h
   ·rename_i hk;refine Or.elim (List.mem_cons.mp h) (fun e=>?_) fun h=>?_
    ·clear h;clear h;cases e;exact .inr ⟨by refine beq_iff_eq.mp hk▸?_;exact List.mem_cons_self,rfl⟩
    ·exact .inl h
   ·exact .inl h
  ·exact .inr ⟨List.mem_cons_of_mem _ h1,h2⟩
theorem closOf_has {cells:List (Str × Addr)}:∀ {names:List (Str × NameKind)} {acc:List (Str × Addr)} {x:Str},((x,NameKind.free)∈names∨∃ c,(x,c)∈acc)→∃ c,(x,c)∈closOf cells names acc:=by
 intro names;induction names with
 | nil=>
  intro acc x h;exact h.elim (fun h=>nomatch h) id
 | cons p_ r ih_=>
  obtain ⟨n,k⟩:=p_;intro acc x h;apply ih_;rcases h with h | ⟨c,h⟩
  ·refine Or.elim (List.mem_cons.mp h) (fun e=>?_) fun h=>?_
   ·clear h;cases e;exact .inr ⟨_,by rw [if_pos (by rfl)];exact List.mem_cons_self⟩
   ·exact .inl h
  ·refine .inr ⟨c,?_⟩;split
   ·exact List.mem_cons_of_mem _ h
   ·exact h
theorem Abs.adopt {B:Bs} {h:Heap} {H:AH} {D:Addr} {c:Cell} (x:Abs B h H) (hb:B.h0.get? D=none) (h2:2 < D) (hc:CellIs B h D c):Abs B h (H.put D c):=by
 refine ⟨fun b d e=>?_,fun b d e=>?_,x.keep,fun b d e=>?_,x.stat,x.priv⟩
 ·by_cases hbD:b=D
  ·clear hb h2;subst hbD;rw [AH.put_self] at e;refine z_sl e ?_;exact hc
  ·rw [AH.put_ne _ _ hbD] at e;exact x.cell b d e
 ·by_cases hbD:b=D
  ·clear h2 hc e;subst hbD;exact hb
  ·rw [AH.put_ne _ _ hbD] at e;exact x.new b d e
 ·by_cases hbD:b=D
  ·clear hb hc e;refine z_er hbD ?_;exact h2
  ·rw [AH.put_ne _ _ hbD] at e;exact x.low b d e
theorem St.adopt {X:List Addr} {s s':Shared} {H H':AH} {D:Addr} {c:Cell} (a:St B X s H s' H') (hd:s.heap.get? D=none):St B X s H s' (H'.put D c):=
 ⟨a.keep,a.live,fun b o e hx hn=>by rw [AH.put_ne _ _ (fun q=>by subst q;replace e:=hd.symm.trans e;exact z_ns e)];exact a.dom b o e hx hn,a.tup,a.gens,a.os⟩
structure CompOK (sc scope:Scope) (ts:List Str):Prop where
 kind:scope.kind=.function
 cell:∀ p∈scope.names,p.2≠.cell
 loc:∀ p∈scope.names,p.2=.local→scope.names.lookup p.1=some .local
 free:∀ p∈scope.names,p.2=.free→sc.names.lookup p.1=some .cell∨sc.names.lookup p.1=some .free
 free':∀ p∈scope.names,p.2=.free→scope.names.lookup p.1=some .free
 own:∀ p∈scope.names,p.2=.local→p.1=(".0":Str)∨p.1∈ts
noncomputable def compOk (sc scope:Scope) (ts:List Str):Bool:=
 scope.kind == .function && scope.names.all fun p=>p.2 != .cell && (p.2 != .local || (scope.names.lookup p.1 == some .local && (p.1 == (".0":Str) || ts.contains p.1))) &&
  (p.2 != .free || (scope.names.lookup p.1 == some .free && (sc.names.lookup p.1 == some .cell || sc.names.lookup p.1 == some .free)))
theorem CompOK.of {sc scope:Scope} {ts:List Str} (h:compOk sc scope ts=true):CompOK sc scope ts:=by
 unfold compOk at h;refine e0a2 (Bool.and_eq_true_iff.mp h) fun h1 h2=>?_;have h2:=List.all_eq_true.mp h2;refine ⟨beq_iff_eq.mp h1,fun p hp e=>?_,fun p hp e=>?_,fun p hp e=>?_,fun p hp e=>?_,fun p hp e=>?_⟩ <;> have:=h2 p hp
 ·simp [e] at this
 ·simp [e] at this;exact this.1
 ·simp [e] at this;exact this.2
 ·simp [e] at this;exact this.1
 ·simp [e] at this;exact this.2
noncomputable def relab (s t:Scope):Scope:={ s with names:=s.names.map fun (n,k)=>if (k == .free && t.kind == .function && t.names.lookup n == some .cell) then (n,.cell) else (n,k) }
theorem relab_mem {s t:Scope} {x:Str} {k:NameKind} (h:(relab s t).names.lookup x=some k):∃ k',(x,k')∈s.names∧(k=k'∨(k'=.free∧k=.cell)):=by
 have:=mem_of_lookup h;unfold relab at this;obtain ⟨⟨n,k'⟩,hp,e⟩:=List.mem_map.mp this;dsimp only at e;split at e
 ·rename_i hc;clear h this;cases e;refine i1a2 k' hp (.inr ⟨?_,rfl⟩);simp only [Bool.and_eq_true,beq_iff_eq] at hc;exact hc.1.1
 ·cases e;exact i1a2 k hp (.inl rfl)
noncomputable def keepName (ts:List Str) (p:Str × V):Bool:=!(ts.contains p.1 || p.1 == (".0":Str))
theorem lookup_keep {ρ:Rho} {p:Str × V→Bool} {x:Str} (h:∀ u,p (x,u)=true):(ρ.filter p).lookup x=ρ.lookup x:=by
 induction ρ with
 | nil=>rfl
 | cons q r ih=>
  obtain ⟨y,w⟩:=q;rw [List.filter_cons,List.lookup_cons];induction e:x == y with
  | true=>
   cases beq_iff_eq.mp e;rw [if_pos (h w),List.lookup_cons,e]
  | false=>
   by_cases hp:p (y,w)=true
   ·rw [if_pos hp,List.lookup_cons,e];exact ih
   ·rw [if_neg hp];exact ih
theorem lookup_gone {ρ:Rho} {p:Str × V→Bool} {x:Str} (h:∀ u,p (x,u)=false):(ρ.filter p).lookup x=none:=
 List.lookup_eq_none_iff.mpr fun (y,w) hq=>bne_iff_ne.mpr fun e=>by
  cases (e:x=y);exact absurd (List.mem_filter.mp hq).2 (by rw [h];exact Bool.false_ne_true)
theorem lookup_filter {ts:List Str} {ρ:Rho} {x:Str} {u:V} (h:(ρ.filter (keepName ts)).lookup x=some u):x ∉ ts∧x≠(".0":Str)∧ρ.lookup x=some u:=by
 induction hk:ts.contains x || x == (".0":Str) with
 | true=>rw [lookup_gone fun u1_=>congrArg (!·) hk] at h;exact z_ns h
 | false=>
  rw [lookup_keep fun u2_=>congrArg (!·) hk] at h;replace hk:=Bool.or_eq_false_iff.mp hk;exact i0a3 (fun hm=>by rw [List.contains_iff_mem.mpr hm] at hk;exact (nomatch hk.1)) (beq_eq_false_iff_ne.mp hk.2) h
theorem comp_frm {B:Bs} {env:Env} {ρ:Rho} {H:AH} {s s1:Shared} {scope:Scope} {ts:List Str} {C:Addr} {m:Str→Option Value} (F:Frm B env ρ H s.heap) (ok:CompOK env.scope scope ts)
  (hk:∀ b o,s.heap.get? b=some o→s1.heap.get? b=some o) (hC:s1.heap.Ns C m) (hnew:s.heap.get? C=none) (hH:H C=none) (hb:B.h0.get? C=none) :
  Frm B (compEnvC scope (closOf env.cells scope.names []) C env) (ρ.filter (keepName ts)) H s1.heap:=by
 have kt:KeepT B s.heap s1.heap:=.of_keeps hk;have hcl:∀ x c,(closOf env.cells scope.names []).lookup x=some c→env.cells.lookup x=some c∧(x,NameKind.free)∈scope.names:=by
  intro x c h;rcases closOf_mem (mem_of_lookup h) with h | ⟨h1,h2⟩
  ·exact nomatch h
  ·refine e1a1 (F.has x (ok.free _ h1 rfl)) fun c' hc'=>?_;rw [hc'] at h2;exact ⟨by refine hc'.trans ?_;refine h2▸?_;rfl,h1⟩
 refine ⟨ok.kind,F.glob,F.bi,i1a2 m hC (fun x u hx hu=>?_),fun x c hc=>?_,fun x hx=>?_,⟨hH,hb⟩,fun x c hc=>?_,fun x y c h1 h2=>F.apart x y c (hcl x c h1).1 (hcl y c h2).1⟩
 ·refine e1a2 (relab_mem (s:=scope) (t:=env.scope) hx) fun k' hm hk'=>?_;have:k'=.local:=by
   rcases hk' with e | ⟨_,e⟩
   ·exact e.symm
   ·cases e
  clear hk';subst this;rcases ok.own _ hm rfl with e | e
  ·exact absurd e (lookup_filter hu).2.1
  ·exact absurd e (lookup_filter hu).1
 ·refine e1a2 (F.cl x c (hcl x c hc).1) fun v hv hu=>?_;refine i1a2 v (hv.keeps hk) (fun u hx hl=>?_);refine e1a2 (hu u (ok.free _ (hcl x c hc).2 rfl) (lookup_filter hl).2.2) fun y hy hcy=>?_;exact i1a2 y hy (hcy.keep kt)
 ·have:(x,NameKind.free)∈scope.names:=by
   refine Or.elim hx (fun hx=>?_) fun hx=>?_
   ·refine e1a2 (relab_mem (s:=scope) (t:=env.scope) hx) fun k' hm hk'=>?_;rcases hk' with e | ⟨e,_⟩
    ·subst e;exact absurd rfl (ok.cell _ hm)
    ·subst e;exact hm
   ·refine e1a2 (relab_mem (s:=scope) (t:=env.scope) hx) fun k' hm hk'=>?_;rcases hk' with e | ⟨e,e2⟩
    ·subst e;exact hm
    ·cases e2
  refine e1a1 (closOf_has (cells:=env.cells) (acc:=[]) (.inl this)) fun c hc=>?_;show ∃ c,(closOf env.cells scope.names []).lookup x=some c;induction hl:(closOf env.cells scope.names []).lookup x with
  | some c=>exact ⟨c,rfl⟩
  | none=>
   exfalso;exact absurd hc (by
    intro hc;have:=List.lookup_eq_none_iff.mp hl _ hc;simp at this)
 ·refine e1a2 (F.cl x c (hcl x c hc).1) fun v z1 u1_=>?_;refine e1a2 z1 fun o ho u2_=>?_;refine i0a3 ((F.outC x c (hcl x c hc).1).1) ((F.outC x c (hcl x c hc).1).2.1) (fun e=>?_);have e':c=C:=e;replace ho:=hnew.symm.trans (e'▸ho);exact z_ns ho
structure AsL (X:Env→List Addr) (B:Bs) (n:Nat) (sc:Scope) (es:List Expr) (ρ:Rho) (H:AH) (us:List V) (Q:Rho→AH→Prop):Prop where
 run:∀ env A s ys,B.OK→env.scope=sc→Room n A→Abs B s.heap H→Frm B env ρ H s.heap→ConcL B s.heap us ys→Tr B A (X env) (assignInOrder ((assignEach es env).map (·.2)) ys) H s (fun _ H' s'=>∃ ρ',Frm B env ρ' H' s'.heap∧Q ρ' H')
section
variable {X:Env→List Addr} {B:Bs} {n:Nat} {sc:Scope} {ρ:Rho} {H:AH}
theorem AsL.nil {Q:Rho→AH→Prop} (q:Q ρ H):AsL X B n sc [] ρ H [] Q:=by
 refine ⟨fun env A s ys ok he R a F hc=>?_⟩;have:ys=[]:=hc;subst this;exact Tr.pure a (i1a2 ρ F q)
theorem AsL.cons {e:Expr} {es:List Expr} {u:V} {us:List V} {Q:Rho→AH→Prop} (h:AsX X B n sc e ρ H u fun ρ1 H1=>AsL X B n sc es ρ1 H1 us Q) (he':∀ env,assignEach (e::es) env=(false,assign e env)::assignEach es env:=by intro u1_;rfl):AsL X B n sc (e::es) ρ H (u::us) Q:=by
 refine ⟨fun env A s ys ok he R a F hc=>?_⟩;refine e2a3 hc fun y ys' z1 hy hys=>?_;clear hc;subst z1;rw [he'];show Tr B A (X env) (holding ys' (assign e env y) >>= fun u2_=>assignInOrder ((assignEach es env).map (·.2)) ys') H s _;refine Tr.then (Tr.holding (h.run env A s y ok he R a F hy)) (fun u3_ h=>h) fun u4_ H1 s1 a1 st1 z1=>e1a2 z1 fun ρ1 F1 q=>?_;exact q.run env A s1 ys' ok he R a1 F1 (hys.keep st1.tup)
theorem star_none {es:List Expr} {env:Env} (h:(assignEach es env).any (·.1)=false):(assignEach es env).findIdx? (·.1)=none:=by
 refine List.findIdx?_eq_none_iff.mpr ?_;intro x hx;replace h:=List.any_eq_false.mp h;simpa using h x hx
theorem AsX.tuple {es:List Expr} {k:Nat} {pos:Pos} {us:List V} {Q:Rho→AH→Prop} (h:AsL X B n sc es ρ H us Q) (hs:∀ env,(assignEach es env).any (·.1)=false:=by intro u1_;rfl) (hl:∀ env,(assignEach es env).length=us.length:=by intro u2_;rfl):AsX X B n sc (.Tuple es k pos) ρ H (.tup us) Q:=by
 refine ⟨fun env A s y ok he R a F hc=>?_⟩;refine e3a3 (conc_tup hc) fun c xs m z2 ho hcl=>?_;clear hc;subst z2;show Tr B A (X env) (standAt pos >>= fun u3_=>unpack (.ref c) (assignEach es env)) H s _;refine Tr.stand a (wpAny_unpack_tuple R.handled (isTuple_of ho) (by refine (hl env).trans ?_;refine hcl.length.trans ?_;rfl) (star_none (hs env)) fun h' hx=>?_);have hk:∀ b o,s.heap.get? b=some o→h'.get? b=some o:=fun b o e=>hx b o (Nat.ne_of_lt (Heap.lt_size e)) e;have st:St B [] s H { s with heap:=h' } H:=.grown (tk:=s.toks) hk;have:=h.run env A { s with heap:=h' } xs ok he R (a.grown hk) (F.step st) (hcl.keep (.of_keeps hk));exact wpAny_mono this (fun u4_ u5_ ⟨H',p1,p2,p3⟩=>⟨H',p1,st.drop'.trans p2,p3⟩) fun u6_ u7_ e=>e
theorem AsX.list2 {e1 e2:Expr} {k:Nat} {pos:Pos} {l:Addr} {u v:V} {Q:Rho→AH→Prop} (hL:H l=some (.list [u,v])) (h:AsL X B n sc [e1,e2] ρ H [u,v] Q) (hs:∀ env,(assignEach [e1,e2] env).any (·.1)=false:=by intro u1_;rfl) (hl:∀ env,(assignEach [e1,e2] env).length=2:=by intro u2_;rfl) :
  AsX X B n sc (.Tuple [e1,e2] k pos) ρ H (.ref l) Q:=by
 refine ⟨fun env A s y ok he R a F hc=>?_⟩;have:y=.ref l:=hc;subst this;refine e2a2 (a.cell _ _ hL) fun xs m ho hcl=>?_;refine e2a3 (id hcl) fun x1 xs1 z4 h1 hcl1=>?_;subst z4;refine e2a3 hcl1 fun x2 xs2 z3 h2 hcl2=>?_;clear hcl1;subst z3;have:xs2=[]:=hcl2;subst this;have hT:s.TypeIs (.ref l) "list":=i1a2 _ ho rfl;show Tr B A (X env) (standAt pos >>= fun u3_=>unpack (.ref l) (assignEach [e1,e2] env)) H s _;refine Tr.stand a ?_;unfold unpack;refine hl env▸?_;refine star_none (hs env)▸?_;dsimp only [ unpackItems];refine wpAny_bind (wpAny_holding (wpAny_bind ?_))
 ·unfold notIterableAtAll;refine wpAny_bind (wpAny_specialOf hT PySem.F.slot_list_iter.lookup ?_);refine wpAny_pure ?_;simp only [Bool.false_eq_true,if_false];refine wpAny_bind (wpAny_holding (wpAny_pyIter_list (IsL.isList (n:=m) ho) ?_));have hlt:l≠s.heap.objs.size:=Nat.ne_of_lt (Heap.lt_size ho);have hL0:(s.heap.push { cls:=.type "list_iterator",data:=.fields #[.ref l,.int 0 0] }).IsList l (List.toArray [x1,x2]):=(IsL.isList (n:=m) ho).push _;refine wpAny_bind (wpAny_holding ?_);refine wpAny_bind (wpAny_pyNext_list_item (s:={ s with heap:=s.heap.push _ }) (i1a3 _ (Heap.get?_push_size _ rfl) rfl rfl) hL0 (x:=x1) rfl fun h1' hit1 hs1=>?_);have hL1:=hL0.extBut hs1.extBut hlt;refine wpAny_bind (wpAny_holding ?_);dsimp only [ draw];refine wpAny_bind (wpAny_pyNext_list_item (s:={ s with heap:=h1' }) hit1 hL1 (x:=x2) rfl fun h2' hit2 hs2=>?_);have hL2:=hL1.extBut hs2.extBut hlt;refine wpAny_bind (wpAny_holding ?_);refine wpAny_pure (wpAny_pure (wpAny_pure ?_));simp only [List.length_cons,List.length_nil,Nat.lt_irrefl,if_false];refine wpAny_bind (wpAny_holding (wpAny_pyNext_list_end (s:={ s with heap:=h2' }) R.handled hit2 hL2 rfl fun h3' hs3=>?_));simp only [Option.isSome_none,Bool.false_eq_true,if_false];refine wpAny_pure ?_;have hk:∀ b o,s.heap.get? b=some o→h3'.get? b=some o:=fun b o e=>by
   have hb:b≠s.heap.objs.size:=Nat.ne_of_lt (Heap.lt_size e);exact hs3 b o hb (hs2.extBut b o hb (hs1.extBut b o hb (Heap.get?_push_of_some _ e)))
  have st:St B [] s H { s with heap:=h3' } H:=.grown (tk:=s.toks) hk;have:=h.run env A { s with heap:=h3' } [x1,x2] ok he R (a.grown hk) (F.step st) (hcl.keep (.of_keeps hk));exact wpAny_mono this (fun u4_ u5_ ⟨H',p1,p2,p3⟩=>⟨H',p1,st.drop'.trans p2,p3⟩) fun u6_ u7_ e=>e
end
noncomputable def V.asTup:V→Option (List V)
 | .tup vs=>Option.some vs
 | _=>Option.none
theorem V.of_tup {v:V} {vs:List V} (h:v.asTup=some vs):v=.tup vs:=by rcases v with _ | _ <;> first | (exact z_ns h;done) | (cases h;rfl)
noncomputable def nameOf:Expr→Option Str
 | .Name x _=>some x
 | _=>none
theorem nameOf_is {e:Expr} {x:Str} (h:nameOf e=some x):∃ p,e=.Name x p:=by rcases e with _ | _ <;> first | (exact z_ns h;done) | (cases h;exact ⟨_,rfl⟩)
noncomputable def patNames:Expr→List Str
 | .Name x _=>[x]
 | .Tuple es _ _=>match es with
  | [e1,e2]=>((nameOf e1).bind fun x=>(nameOf e2).map fun y=>[y,x]).getD []
  | _=>[]
 | _=>[]
noncomputable def pairBind (x y:Str):List V→Option Rho
 | [a,b]=>some [(y,b),(x,a)]
 | _=>none
noncomputable def tupBind:List Expr→V→Option Rho
 | [e1,e2],v=>(nameOf e1).bind fun x=>(nameOf e2).bind fun y=>v.asTup.bind (pairBind x y)
 | _,_=>none
noncomputable def patBind (t:Expr) (v:V):Option Rho:=match t with
 | .Name x _=>some [(x,v)]
 | .Tuple es _ _=>tupBind es v
 | _=>none
inductive PatIs:Expr→V→Rho→Prop
 | name (x:Str) (p:Pos) (v:V):PatIs (.Name x p) v [(x,v)]
 | pair (x y:Str) (p q r:Pos) (k:Nat) (a b:V):PatIs (.Tuple [.Name x p,.Name y q] k r) (.tup [a,b]) [(y,b),(x,a)]
theorem patBind_is {t:Expr} {v:V} {bs:Rho} (h:patBind t v=some bs):PatIs t v bs:=by
 rcases t with _ | _ | _ | _ | _ | _ | _ | _ | _ | _ | _ | _ | _ | _ | _ | _ | _ | _ | _ | _ | _ | _ | _ | ⟨x,p⟩ | _ | ⟨es,k,r⟩ | _ <;> try (exact z_ns h;done)
 ·refine z_sl h ?_;exact .name ..
 ·rcases es with _ | ⟨e1,_ | ⟨e2,_ | _⟩⟩
  ·exact z_ns h
  ·exact z_ns h
  ·refine e1a2 (Option.bind_eq_some_iff.mp h) fun x hx h=>?_;refine e1a2 (Option.bind_eq_some_iff.mp h) fun y hy h=>?_;refine e1a2 (Option.bind_eq_some_iff.mp h) fun vs hv h=>?_;refine e1a1 (nameOf_is hx) fun p z2=>?_;clear hx;subst z2;refine e1a1 (nameOf_is hy) fun q z1=>?_;clear hy;subst z1;cases V.of_tup hv;rcases vs with _ | ⟨a,_ | ⟨b,_ | _⟩⟩
   ·exact z_ns h
   ·exact z_ns h
   ·refine z_sl h ?_;exact .pair ..
   ·exact z_ns h
  ·exact z_ns h
theorem patBind_names {t:Expr} {v:V} {bs:Rho} (h:patBind t v=some bs):bs.map (·.1)=patNames t:=by cases patBind_is h <;> rfl
section
variable {B:Bs} {n:Nat} {sc:Scope} {ρ:Rho} {H:AH}
theorem AsX.pat {t:Expr} {v:V} {bs:Rho} {Q:Rho→AH→Prop} (hp:patBind t v=some bs) (hk:∀ x∈patNames t,sc.names.lookup x=some .local) (q:Q (bs++ρ) H):AsX (fun e=>[e.locals]) B n sc t ρ H v Q:=by
 induction patBind_is hp with
 | name x p v=>exact AsX.name (hk _ List.mem_cons_self) q
 | pair x y p p' r k a b=>exact AsX.tuple (AsL.cons (AsX.name (hk _ (List.mem_cons_of_mem _ List.mem_cons_self)) (AsL.cons (AsX.name (hk _ List.mem_cons_self) (AsL.nil q)))))
noncomputable def Tests (B:Bs) (n:Nat) (sc:Scope) (ρ:Rho) (H:AH) (Q:Bool→AH→Prop):List Expr→Prop
 | []=>Q true H
 | [c]=>Tst B n sc c ρ H Q
 | _=>False
theorem lookup_append_some {a b:Rho} {x:Str} {u:V}:(a++b).lookup x=some u↔a.lookup x=some u∨(a.lookup x=none∧b.lookup x=some u):=by
 induction a with
 | nil=>simp
 | cons p r ih=>
  rw [List.cons_append,List.lookup_cons,List.lookup_cons];induction hxy:x == p.1 with
  | true=>simp
  | false=>exact ih
theorem not_bound {t:Expr} {v:V} {bs:Rho} (hp:patBind t v=some bs) {x:Str}:bs.lookup x=none↔x ∉ patNames t:=by
 rw [List.lookup_eq_none_iff,← patBind_names hp,List.mem_map];exact ⟨fun h z1=>e1a2 z1 fun p hp e=>bne_iff_ne.mp (h p hp) e.symm,fun h p hp=>bne_iff_ne.mpr fun e=>h (i1a2 p hp e.symm)⟩
theorem frm_pat {env:Env} {h:Heap} {t:Expr} {v:V} {bs:Rho} (hp:patBind t v=some bs) (h0:ρ.lookup (".0":Str)=none) (F:Frm B env (bs++ρ.filter (keepName (patNames t))) H h):Frm B env (bs++ρ) H h:=
 F.sub fun x u hx=>lookup_append_some.mpr ((lookup_append_some.mp hx).imp id fun z2=>e0a2 z2 fun h1 h2=>⟨h1,by
  have hn:=(not_bound hp).mp h1;have h00:x≠(".0":Str):=fun e=>by rw [e,h0] at h2;exact z_ns h2
  rw [lookup_keep fun u1_=>by unfold keepName;rw [beq_eq_false_iff_ne.mpr h00,Bool.or_false,Bool.not_eq_true',← Bool.not_eq_true,List.contains_iff_mem];exact hn];exact h2⟩)
theorem frm_unpat {env:Env} {h:Heap} {t:Expr} {v:V} {bs:Rho} (hp:patBind t v=some bs) (F:Frm B env (bs++ρ.filter (keepName (patNames t))) H h):Frm B env (ρ.filter (keepName (patNames t))) H h:=
 F.sub fun x u hx=>lookup_append_some.mpr (.inr ⟨(not_bound hp).mpr (lookup_filter hx).1,hx⟩)
theorem tests_state {env:Env} {A:Around} {s:Shared} {ifs:List Expr} {Q:Bool→AH→Prop} (ok:B.OK) (he:env.scope=sc) (R:Room n A) (a:Abs B s.heap H) (F:Frm B env ρ H s.heap) (h:Tests B n sc ρ H Q ifs) :
  Tr B A [] (forIn ifs true fun c r=>if r=true then do let ok ← isTrue c env (eval c env);pure (ForInStep.yield ok) else pure (ForInStep.yield r)) H s (fun b H' u1_=>Q b H'):=by
 match ifs,h with
 | [],h=>simp only [List.forIn_nil];exact Tr.pure a h
 | [c],h=>
  rw [List.forIn_cons];simp only [if_true];refine Tr.bind (Tr.then (h.run env A s ok he R a F) (fun u2_ h=>h) fun b H1 s1 a1 st1 q=>Tr.pure a1 ?_);show Tr B A [] (forIn [] b _) _ _ _;simp only [List.forIn_nil];exact Tr.pure a1 q
 | c::d::r,h=>exact h.elim
end
noncomputable def CTurn (B:Bs) (A:Around) (it:Value) (tg:Expr) (cenv:Env) (ifs:List Expr) (W:(Shared→Prop)→Shared→Prop) (R N:Shared→Prop) (s:Shared):Prop:=
 wpAny B.M A (pyNext it) (fun r s₁=>match r with
  | none=>R s₁
  | some v=>wpAny B.M A (letOwnedTupleGo tg it v) (fun _ s₁'=>wpAny B.M A (assign tg cenv v) (fun _ s₂=>
    wpAny B.M A (forIn ifs true fun c r=>if r=true then do let ok ← isTrue c cenv (eval c cenv);pure (ForInStep.yield ok) else pure (ForInStep.yield r)) (fun ok s₃=>
     if ok=true then W N s₃ else N s₃) NoE s₂) NoE s₁') NoE s₁) NoE s
section
variable {B:Bs} {n:Nat} {sc:Scope} {ρ:Rho} {H:AH} {T:Type}
inductive CompG (B:Bs) (n:Nat) (sc:Scope) (ρ:Rho) (tg:Expr) (ifs:List Expr) (scope:Scope) {T:Type} (nil:T) (bd:Rho→(T→AH→Prop)→T→AH→Prop) (Q:Addr→T→AH→Prop) (items:List V) (live:AH→Prop) (H1:AH):Prop
 | mk (hl:items.length≤100000) (I:Nat→T→AH→Prop) (h0:I 0 nil H1) (hend:∀ acc H',I items.length acc H'→live H'∧∀ D,H' D=none→Q D acc H')
  (turn:∀ i acc v H',items[i]? = some v→I i acc H'→live H'∧∃ bs,patBind tg v=some bs∧Tests B n (relab scope sc) (bs++ρ) H' (fun b H2=>if b then bd (bs++ρ) (I (i+1)) acc H2 else I (i+1) acc H2) ifs)
structure CKind (B:Bs) (n:Nat) (sc:Scope) (e:Expr) (mk:Sem Value) (tg:Expr) (ifs:List Expr) (nil:T) (cell:T→Cell) (len:T→Nat) (bd:Rho→(T→AH→Prop)→T→AH→Prop) (W:Around→Env→Addr→(Shared→Prop)→Shared→Prop):Prop where
 nil0:len nil=0
 make:∀ {A:Around} {Q:Value→Shared→Prop} {s:Shared},(∀ o:Obj,o.isFreed=false→(∀ h':Heap,h'.get? s.heap.objs.size=some o→CellIs B h' s.heap.objs.size (cell nil))→Q (.ref s.heap.objs.size) { s with heap:=s.heap.push o })→wpAny B.M A mk Q NoE s
 loop:∀ {A:Around} {it:Value} {D:Addr} {cenv:Env} {R:Result→Shared→Prop} (I:Nat→Shared→Prop),(∀ k s,I k s→CTurn B A it tg cenv ifs (W A cenv D) (R (.ok .next)) (fun s=>∃ m,m < k∧I m s) s)→∀ k s,I k s→codeAny B.M A (.compLoop e 0 it (.ref D) cenv) R s
 start:∀ {A:Around} {it:Value} {D:Addr} {cenv:Env} {R:Result→Shared→Prop} {s:Shared},codeAny B.M A (.compLoop e 0 it (.ref D) cenv) R s→wpAny B.M A (pyIter it) (fun it' s'=>codeAny B.M A (.compLoop e 0 it' (.ref D) cenv) R s') NoE s→codeAny B.M A (.compStart e 0 it (.ref D) cenv) R s
 body:∀ {A:Around} {cenv:Env} {D:Addr} {ρ':Rho} {I':T→AH→Prop} {acc:T} {H:AH} {s:Shared} {N:Shared→Prop},B.OK→Room n A→cenv.scope=sc→len acc≤100000→Abs B s.heap H→Frm B cenv ρ' H s.heap→CellIs B s.heap D (cell acc)→H D=none→B.h0.get? D=none→2 < D→¬ B.priv D →
  bd ρ' I' acc H→(∀ acc' H' s',Abs B s'.heap H'→St B [D] s H s' H'→CellIs B s'.heap D (cell acc')→H' D=none→len acc'≤len acc+1→I' acc' H'→N s')→W A cenv D N s
set_option genInjectivity false in
set_option genSizeOf false in
structure CX where
 B:Bs
 n:Nat
 A:Around
 cenv:Env
 ρ:Rho
 s0:Shared
 H0:AH
 C:Addr
 D:Addr
 fp:List Addr
 at_:Nat→Heap→Prop
 items:List V
 live:AH→Prop
 it:Value
 tg:Expr
noncomputable abbrev CX.ρf (x:CX):Rho:=x.ρ.filter (keepName (patNames x.tg))
structure CXOK (x:CX):Prop where
 ok:x.B.OK
 R:Room x.n x.A
 src:Src x.B x.tg x.live x.items x.it x.fp x.at_
 fpn:∀ b∈x.fp,b ∉ fpOf x.cenv
 Dn:x.D ∉ fpOf x.cenv
 loc:x.cenv.locals=x.C
 wrC:∀ b∈x.fp,b≠x.C
 wrD:∀ b∈x.fp,b≠x.D
 DC:x.D≠x.C
 h0:x.ρ.lookup (".0":Str)=none
 hpat:∀ y∈patNames x.tg,x.cenv.scope.names.lookup y=some .local
 d1:x.B.h0.get? x.D=none
 d2:2 < x.D
 d3:¬ x.B.priv x.D
structure CMid (x:CX) (i:Nat) (s:Shared) (H:AH):Prop where
 a:Abs x.B s.heap H
 st:St x.B (x.C::x.D::x.fp) x.s0 x.H0 s H
 hat:x.at_ i s.heap
 ok:FpOk x.B H x.fp
theorem CMid.step {x:CX} {i:Nat} {s s':Shared} {H H':AH} {Y:List Addr} (O:CXOK x) (M:CMid x i s H) (a:Abs x.B s'.heap H') (st:St x.B Y s H s' H') (hY:∀ b∈Y,b=x.C∨b=x.D):CMid x i s' H':=by
 have n:∀ b∈x.fp,b ∉ Y:=fun b hb hm=>(hY b hm).elim (O.wrC b hb) (O.wrD b hb);refine ⟨a,M.st.trans (st.mono fun b hb=>(hY b hb).elim (fun e=>e▸List.mem_cons_self) fun e=>e▸List.mem_cons_of_mem _ List.mem_cons_self),O.src.frame _ _ _ M.hat st.tup fun b hb o e=>st.keep b o e (M.ok b hb).1 (n b hb),fun b hb=>⟨?_,(M.ok b hb).2⟩⟩;refine e1a1 (O.src.there _ _ M.hat b hb) fun o ho=>?_;exact st.dom b o ho (n b hb) (M.ok b hb).1
inductive CSt (x:CX) (cell:T→Cell) (len:T→Nat) (I:Nat→T→AH→Prop) (k:Nat) (s:Shared):Prop
 | mk (i:Nat) (acc:T) (H:AH) (M:CMid x i s H) (F:Frm x.B x.cenv x.ρf H s.heap) (c:CellIs x.B s.heap x.D (cell acc)) (hD:H x.D=none) (hl:len acc≤i) (hk:i+k=x.items.length+1) (hi:I i acc H) (hle:i≤x.items.length)
theorem cell_obj {h:Heap} {a:Addr} {c:Cell} (x:CellIs B h a c):∃ o,h.get? a=some o:=by
 induction c with
 | list=>refine e2a2 x fun u1_ u2_ e u3_=>?_;exact ⟨_,e⟩
 | idict=>refine e1a2 x fun u4_ z3 u5_=>?_;refine e3a2 z3 fun u6_ u7_ u8_ e u9_=>?_;exact ⟨_,e⟩
 | tdict=>refine e1a2 x fun u10_ z5 u11_=>?_;refine e3a2 z5 fun u12_ u13_ u14_ e u15_=>?_;exact ⟨_,e⟩
 | sdict=>refine e1a2 x fun u16_ z1 u17_=>?_;refine e3a2 z1 fun u18_ u19_ u20_ e u21_=>?_;exact ⟨_,e⟩
 | inst=>exact ⟨_,x⟩
 | set=>refine e3a2 x fun u22_ u23_ u24_ e u25_=>?_;exact ⟨_,e⟩
theorem cell_step {X:List Addr} {s s':Shared} {H H':AH} {D:Addr} {c:Cell} (x:CellIs B s.heap D c) (st:St B X s H s' H') (hD:H D=none) (hX:D ∉ X):CellIs B s'.heap D c∧H' D=none:=
 ⟨x.keep st.tup fun o e=>st.keep D o e hD hX,e1a1 (cell_obj x) fun o e=>st.dom D o e hX hD⟩
theorem comp_turn {x:CX} (O:CXOK x) {cell:T→Cell} {len:T→Nat} {bd:Rho→(T→AH→Prop)→T→AH→Prop} {W:Around→Env→Addr→(Shared→Prop)→Shared→Prop} {e:Expr} {mk:Sem Value} {nil:T} {ifs:List Expr} (K:CKind x.B x.n x.cenv.scope e mk x.tg ifs nil cell len bd W) (hlen:x.items.length≤100000)
  {I:Nat→T→AH→Prop} (live:∀ acc H,I x.items.length acc H→x.live H)
  (turn:∀ i acc v H',x.items[i]? = some v→I i acc H'→x.live H'∧∃ bs,patBind x.tg v=some bs∧Tests x.B x.n x.cenv.scope (bs++x.ρ) H' (fun b H2=>if b then bd (bs++x.ρ) (I (i+1)) acc H2 else I (i+1) acc H2) ifs)
  {k:Nat} {s:Shared} (S:CSt x cell len I k s) {R:Shared→Prop} (hend:∀ acc H' s',Abs x.B s'.heap H'→St x.B (x.C::x.D::x.fp) x.s0 x.H0 s' H'→Frm x.B x.cenv x.ρf H' s'.heap→CellIs x.B s'.heap x.D (cell acc)→H' x.D=none→I x.items.length acc H'→R s') :
  CTurn x.B x.A x.it x.tg x.cenv ifs (W x.A x.cenv x.D) R (fun s=>∃ m,m < k∧CSt x cell len I m s) s:=by
 obtain ⟨i,acc,H,M,F,c,hD,hl,hk,hi,hle⟩:=S;have fpX:∀ b∈x.fp,b∈x.C::x.D::x.fp:=fun b hb=>List.mem_cons_of_mem _ (List.mem_cons_of_mem _ hb);have Dfp:x.D ∉ x.fp:=fun h=>O.wrD _ h rfl;induction hv:x.items[i]? with
 | none=>
  have e:i=x.items.length:=Nat.le_antisymm hle (List.getElem?_eq_none_iff.mp hv);refine wpAny_mono (O.src.done x.A s H O.R.handled M.a (live acc H (e▸hi)) M.ok (e▸M.hat)) (fun r s1 h=>?_) fun u1_ u2_ e=>e;obtain ⟨rfl,a1,st1⟩:=h;have c1:=cell_step c st1 hD Dfp;exact hend acc H s1 a1 (M.st.trans (st1.mono fpX)) (F.stepX st1 O.fpn) c1.1 hD (e▸hi)
 | some v=>
  refine e0a2 (turn i acc v H hv hi) fun hlive z4=>?_;refine e1a2 z4 fun bs hbs ht=>?_;have hlt:=(List.getElem?_eq_some_iff.mp hv).1;have hkm:k - 1 < k∧i+1+(k - 1)=x.items.length+1:=by exact y06 (by assumption) (by assumption)
  clear turn live hend;refine wpAny_mono (O.src.next i v x.A s H O.R.handled M.a hlive M.ok M.hat hv) (fun r s1 h=>?_) fun u3_ u4_ e=>e;clear z4;obtain ⟨y,rfl,h⟩:=h;refine wpAny_mono h (fun u5_ s1 h=>?_) fun u6_ u7_ e=>e;refine e0a4 h fun a1 st1 hat1 hc1=>?_;have M1:CMid x (i+1) s1 H:=⟨a1,M.st.trans (st1.mono fpX),hat1,M.ok⟩
  have c1:=(cell_step c st1 hD Dfp).1;have F1:=F.stepX st1 O.fpn;clear M F c hv hlive hi st1 a1 hat1;refine Tr.out ((AsX.pat (B:=x.B) (n:=x.n) (sc:=x.cenv.scope) (Q:=fun ρ' H'=>ρ'=bs++x.ρf∧H'=H) hbs O.hpat ⟨rfl,rfl⟩).run x.cenv x.A s1 y O.ok rfl O.R M1.a F1 hc1) fun u8_ H3 s3 a3 st3 h=>?_;refine e1a3 h fun ρ2 F3 z10 z11=>?_;subst z10;subst z11;have hC:∀ b∈[x.cenv.locals],b=x.C:=fun b hb=>(List.mem_singleton.mp hb).trans O.loc;have M3:=M1.step O a3 st3 fun b hb=>.inl (hC b hb);have c3:=(cell_step c1 st3 hD fun h=>O.DC (hC _ h)).1;clear M1 F1 c1 hc1 st3 a3;refine Tr.out (tests_state O.ok rfl O.R M3.a (frm_pat hbs O.h0 F3) ht) fun b H5 s5 a5 st5 q=>?_;have M5:=M3.step O a5 st5 fun u9_ h=>nomatch h;have c5:=cell_step c3 st5 hD fun h=>nomatch h;have F5:=F3.step st5;clear M3 c3 F3 a5 st5 ht;induction b with
  | false=>exact i1a2 (k - 1) hkm.1 (.mk (i+1) acc H5 M5 (frm_unpat hbs F5) c5.1 c5.2 (Nat.le_succ_of_le hl) hkm.2 q hlt)
  | true=>
   refine K.body O.ok O.R rfl (Nat.le_trans hl (Nat.le_trans hle hlen)) M5.a (frm_pat hbs O.h0 F5) c5.1 c5.2 O.d1 O.d2 O.d3 q fun acc' H' s' a' st' c' hD' hl' hi'=>?_;have hDs:∀ b∈[x.D],b=x.D:=fun b hb=>List.mem_singleton.mp hb;exact i1a2 (k - 1) hkm.1 (.mk (i+1) acc' H' (M5.step O a' st' fun b hb=>.inr (hDs b hb)) ((frm_unpat hbs F5).stepX st' fun b hb=>hDs b hb▸O.Dn) c' hD' (Nat.le_trans hl' (Nat.succ_le_succ hl)) hkm.2 hi' hlt)
structure CEnd (B:Bs) (s H:_) (X:List Addr) (c:Cell) (D C:Addr) (H':AH) (s':Shared):Prop where
 a:Abs B s'.heap (H'.put D c)
 st:St B X s H s' (H'.put D c)
 nC:s.heap.get? C=none
 CD:C≠D
 ns:∃ m,s'.heap.Ns C m
 HC:H' C=none
 bC:B.h0.get? C=none
 C2:2 < C
 pC:¬ B.priv C
theorem comp_base {env:Env} {A:Around} {s2:Shared} {H2:AH} {tg:Expr} {ifs:List Expr} {scope:Scope} {it:Value} {items:List V} {live:AH→Prop} {fp:List Addr} {at_:Nat→Heap→Prop} {Q:Addr→T→AH→Prop} {PP:Value→Addr→Result→Shared→Prop}
  {cell:T→Cell} {len:T→Nat} {bd:Rho→(T→AH→Prop)→T→AH→Prop} {W:Around→Env→Addr→(Shared→Prop)→Shared→Prop} {e:Expr} {mk:Sem Value} {nil:T} (K:CKind B n (relab scope env.scope) e mk tg ifs nil cell len bd W)
  (cok:CompOK env.scope scope (patNames tg)) (h0:ρ.lookup (".0":Str)=none) (ok:B.OK) (R:Room n A) (a2:Abs B s2.heap H2) (F2:Frm B env ρ H2 s2.heap)
  (hpat:∀ x∈patNames tg,(relab scope env.scope).names.lookup x=some .local) (src:Src B tg live items it fp at_) (hat:at_ 0 s2.heap) (hfpn:∀ b∈fp,b ∉ fpOf env) (hfok:FpOk B H2 fp) (h:CompG B n env.scope ρ tg ifs scope nil bd Q items live H2)
  (hP:∀ D acc H' s' C,CEnd B s2 H2 fp (cell acc) D C H' s'→Q D acc H'→PP (.ref D) C (.ok .next) s') :
  wpAny B.M A mk (fun acc s3=>wpAny B.M A (newFunctionEnv scope env.globals (closOf env.cells scope.names []) [] env.qual none .none (some env)) (fun cenv s4=>
   codeAny B.M A (.compStart e 0 it acc { cenv with scope:=relabel scope env }) (PP acc cenv.locals) s4) NoE s3) NoE s2:=by
 obtain ⟨hlen,I,i0,iend,turn⟩:=h;refine K.make fun o hof hco=>wpAny_newFunctionEnv cok.cell (fun u1_ h=>nomatch h) (fun h₁ hns₁ hsb₁=>?_) cok.kind;dsimp only at hns₁ hsb₁ ⊢;generalize hH2:s2.heap.push o=HH at hns₁ hsb₁ ⊢;have hC:HH.objs.size=s2.heap.objs.size+1:=by rw [← hH2,Heap.size_push]
 generalize hCe:HH.objs.size=C at hns₁ hsb₁ hC ⊢;generalize hDe:s2.heap.objs.size=D at hco hC ⊢;have hDC:D≠C:=by simp only [hC];exact Nat.ne_of_lt (Nat.lt_succ_self _)
 have below:∀ b o,s2.heap.get? b=some o→b≠C∧b≠D:=fun b o e=>by
  have hb:=Heap.lt_size e;rw [hDe] at hb;exact ⟨by simp only [hC];exact Nat.ne_of_lt (Nat.lt_succ_of_lt hb),Nat.ne_of_lt hb⟩
 have old:∀ b o,s2.heap.get? b=some o→h₁.get? b=some o:=fun b o e=>hsb₁.extBut b o (below b o e).1 (Heap.get?_push_of_some _ (hH2▸Heap.get?_push_of_some _ e));have hacc:CellIs B h₁ D (cell nil):=hco _ (hsb₁.extBut _ _ hDC (Heap.get?_push_of_some _ (hH2▸hDe▸Heap.get?_push_size _ hof)));have nD:s2.heap.get? D=none:=Heap.get?_none_of_le (Nat.le_of_eq hDe);have nC:s2.heap.get? C=none:=Heap.get?_none_of_le (by simp only [hDe,hC];exact Nat.le_succ _);have fD:=fresh_fp a2 (b:=D) (Nat.le_of_eq hDe);have fC:=fresh_fp a2 (b:=C) (by simp only [hDe,hC];exact Nat.le_succ _);clear hco hCe hDe hC hH2 hsb₁;have hfr:=src.frame 0 _ _ hat (.of_keeps old) fun b u2_ o e=>old b o e;generalize hs3:({ s2 with heap:=h₁,toks:=s2.toks+([]:List (Str × Value)).length }:Shared)=s3;have hh3:h₁=s3.heap:=by exact (hs3).symm▸rfl
 have st23:St B [] s2 H2 s3 H2:=by refine (hs3).symm▸?_;exact .grown old
 clear hs3;subst hh3;have F3:=comp_frm (ts:=patNames tg) (C:=C) F2 cok old hns₁ nC fC.1 fC.2.1;have hcells:∀ x c,(compEnvC scope (closOf env.cells scope.names []) C env).cells.lookup x=some c→env.cells.lookup x=some c:=fun x c h=>by
  rcases closOf_mem (mem_of_lookup h) with h | ⟨h1,h2⟩
  ·exact nomatch h
  ·refine e1a1 (F2.has x (cok.free _ h1 rfl)) fun c' hc'=>?_;rw [hc'] at h2;refine hc'.trans ?_;refine h2▸?_;rfl
 have hsc:(compEnvC scope (closOf env.cells scope.names []) C env).scope=relab scope env.scope:=rfl;have hloc:(compEnvC scope (closOf env.cells scope.names []) C env).locals=C:=rfl;change codeAny B.M A (.compStart e 0 it (.ref D) (compEnvC scope (closOf env.cells scope.names []) C env)) (PP (.ref D) C) s3;generalize compEnvC scope (closOf env.cells scope.names []) C env=cenv at F3 hsc hloc hcells ⊢;have wrt:∀ b∈fp,b≠C∧b≠D:=fun b hb=>e1a1 (src.there _ _ hat b hb) fun o ho=>below b o ho;have old2:∀ x c,cenv.cells.lookup x=some c→c ∉ C::D::fp:=fun x c hc hm=>by
  refine e1a2 (F2.cl x c (hcells x c hc)) fun v z18 u3_=>?_;refine e1a2 z18 fun o ho u4_=>?_;refine Or.elim (List.mem_cons.mp hm) (fun e=>?_) fun hm=>?_
  ·exact (below c o ho).1 e
  refine Or.elim (List.mem_cons.mp hm) (fun e=>?_) fun hm=>?_
  ·exact (below c o ho).2 e
  ·exact hfpn c hm (mem_fp (hcells x c hc))
 have O:CXOK ⟨B,n,A,cenv,ρ,s3,H2,C,D,fp,at_,items,live,it,tg⟩:=⟨ok,R,src,
  fun b hb hm=>by
   rcases of_mem_fp hm with e | ⟨x,hx⟩
   ·exact (wrt b hb).1 (e.trans hloc)
   ·exact old2 x b hx (List.mem_cons_of_mem _ (List.mem_cons_of_mem _ hb)),
  fun hm=>by
   rcases of_mem_fp hm with e | ⟨x,hx⟩
   ·exact hDC (e.trans hloc)
   ·exact old2 x D hx (List.mem_cons_of_mem _ List.mem_cons_self),hloc,fun b hb=>(wrt b hb).1,fun b hb=>(wrt b hb).2,hDC,h0,hsc▸hpat,fD.2.1,fD.2.2.1,fD.2.2.2⟩
 have S0:CSt ⟨B,n,A,cenv,ρ,s3,H2,C,D,fp,at_,items,live,it,tg⟩ cell len I (items.length+1) s3:=.mk 0 nil H2 ⟨a2.grown old,.refl _ _ _,hfr,hfok⟩ F3 hacc fD.1 (Nat.le_of_eq K.nil0) (Nat.zero_add _) i0 (Nat.zero_le _);clear F3 hacc hcells old2 wrt below F2 hns₁ i0;have hl:codeAny B.M A (.compLoop e 0 it (.ref D) cenv) (PP (.ref D) C) s3:=by
  refine K.loop _ (fun k s S=>comp_turn O (hsc▸K) hlen (fun acc H h=>(iend acc H h).1) (hsc▸turn) S fun acc H' s' a' st' F' c' hD' hi=>hP D acc H' s' C ?_ ((iend _ _ hi).2 D hD')) _ _ S0;refine ⟨a'.adopt fD.2.1 fD.2.2.1 c',(((st23.of_nil.trans st').drop fun b hb=>?_)).adopt nD,nC,Ne.symm hDC,e1a2 F'.ns fun m h u5_=>(i1a1 m (hloc▸h)),hloc▸F'.outL.1,fC.2.1,fC.2.2.1,fC.2.2.2⟩;clear hDC fD fC hloc O S0 S a' st' F' c' hD' hi;rcases List.mem_cons.mp hb with rfl | hb
  ·exact .inr nC
  rcases List.mem_cons.mp hb with rfl | hb
  ·exact .inr nD
  ·exact .inl hb
 exact K.start hl (src.self 0 A _ _ hfr hl)
theorem comp_core {env:Env} {A:Around} {s:Shared} {e tg iter:Expr} {ifs:List Expr} {scope:Scope} {p2:Pos} {use:Option (Value→Sem Unit)} {P:Value→Shared→Prop} {Q:Addr→T→AH→Prop}
  {cell:T→Cell} {len:T→Nat} {bd:Bs→Rho→(T→AH→Prop)→T→AH→Prop} {W:Around→Env→Addr→(Shared→Prop)→Shared→Prop} {mk:Sem Value} {nil:T} (K:∀ P,CKind (B.wp P) n (relab scope sc) e mk tg ifs nil cell len (bd (B.wp P)) W) (hcl:clausesOf e=[⟨tg,iter,ifs,0⟩])
  (hok:compOk sc scope (patNames tg)=true) (h0:ρ.lookup (".0":Str)=none) (hs:∀ env x,foldedSetIterable iter env x=pure x) (ok:B.OK) (he:env.scope=sc) (R:Room n A) (a:Abs B s.heap H) (F:Frm B env ρ H s.heap)
  (hpat:(patNames tg).all (fun x=>(relab scope sc).names.lookup x == some .local)=true)
  (h:It B n sc tg iter ρ H fun P' items live H1=>CompG (B.wp P') n sc ρ tg ifs scope nil (bd (B.wp P')) Q items live H1)
  (hP:∀ D acc H' s' C,CEnd B s H [] (cell acc) D C H' s'→Q D acc H'→compPost B.M A NoE use P (.ref D) C (.ok .next) s') :
  wpAny B.M A (comprehension e scope env p2 mk false (eval iter env) use) P NoE s:=by
 subst he;have cok:=CompOK.of hok;have hclo:closureFor scope env=pure (closOf env.cells scope.names []):=closureFor_eq fun p hp hf=>F.has p.1 (cok.free p hp hf);refine wpAny_comprehension_free (use:=use) hcl (hs env) hclo cok.kind cok.loc ?_;refine wpAny_mono (h env A s ok rfl R a F) (fun x s1 h1=>wpAny_mono h1 (fun it s2 h2=>?_) fun u1_ u2_ e=>e) fun u3_ u4_ e=>e;obtain ⟨P',H2,items,live,fp,at_,u,a2,st2,src,hat,hfp,hfok,hC⟩:=h2;refine comp_base (B:=B.wp P') (PP:=fun acc C=>compPost B.M A NoE use P acc C) (K P') cok h0 (ok.wp P') R a2 (F.up u st2) (fun x hx=>beq_iff_eq.mp (List.all_eq_true.mp hpat x hx)) src hat (fun b hb hm=>?_) hfok hC fun D acc H' s' C E q=>hP D acc H' s' C ?_ q
 ·refine e1a1 (F.there hm) fun o ho=>?_;replace ho:=(hfp b hb).symm.trans ho;exact z_ns ho
 ·exact ⟨E.a.down u.le,(St.down u st2 E.st).drop fun b hb=>.inr (hfp b hb),not_there st2 E.nC,E.CD,E.ns,E.HC,E.bC,E.C2,fun h=>E.pC (u.le C h)⟩
theorem CEnd.gone {s s':Shared} {H H':AH} {X:List Addr} {c:Cell} {D C:Addr} (E:CEnd B s H X c D C H' s') {s2:Shared} {Y:List Addr} (hXY:∀ b∈X,b∈Y) (a2:Abs B s2.heap (H'.put D c)) (st2:St B Y s' (H'.put D c) s2 (H'.put D c)) (hCY:C ∉ Y) :
  ∃ m,s2.heap.Ns C m∧∀ h',Heap.SameBut C s2.heap h'→Abs B h' (H'.put D c)∧St B [C] s2 (H'.put D c) { s2 with heap:=h' } (H'.put D c)∧St B Y s H { s2 with heap:=h' } (H'.put D c):=by
 have hHC:(H'.put D c) C=none:=by refine AH.put_ne _ _ E.CD▸?_;exact E.HC
 obtain ⟨m,hns⟩:=E.ns;have hns2:s2.heap.Ns C m:=Heap.Ns.at' hns fun o e=>st2.keep C o e hHC hCY;refine i1a2 m hns2 (fun h' hs=>?_);refine e3a3 hns2 fun o es ep ho hd u1_=>?_;have kt:KeepT B s2.heap h':=.sameBut' hs ho fun xs n e=>by replace e:=hd.symm.trans e;cases e
 refine e0a2 (offBut (tk:=s2.toks) a2 hs kt hHC E.bC E.C2 E.pC) fun a3 st3=>?_;refine i0a3 a3 st3 (((((E.st.mono hXY).trans st2).mono (Y:=C::Y) fun b hb=>List.mem_cons_of_mem _ hb).trans (st3.mono fun b hb=>List.mem_singleton.mp hb▸List.mem_cons_self)).drop fun b hb=>?_);clear hCY hHC hns hns2 hs ho st3;rcases List.mem_cons.mp hb with rfl | hb
 ·exact .inr E.nC
 ·exact .inl hb
end
theorem cellsFrom_mem:∀ {names:List (Str × NameKind)} {a:Nat} {acc:List (Str × Addr)} {x:Str},((x,NameKind.cell)∈names∨∃ c,(x,c)∈acc)→∃ c,(x,c)∈cellsFrom a names acc:=by
 intro names;induction names with
 | nil=>
  intro a acc x h;exact h.elim (fun h=>nomatch h) id
 | cons p_ r ih_=>
  obtain ⟨n,k⟩:=p_;intro a acc x h;dsimp only [ cellsFrom];split
  ·apply ih_;rcases h with h | ⟨c,h⟩
   ·refine Or.elim (List.mem_cons.mp h) (fun e=>?_) fun h=>?_
    ·clear h;cases e;exact .inr ⟨_,List.mem_cons_self⟩
    ·exact .inl h
   ·exact .inr ⟨c,List.mem_cons_of_mem _ h⟩
  ·rename_i hk;apply ih_;rcases h with h | h
   ·refine Or.elim (List.mem_cons.mp h) (fun e=>?_) fun h=>?_
    ·clear h;cases e;exact absurd rfl hk
    ·exact .inl h
   ·exact .inr h
theorem lookup_of_has {α:Type} {l:List (Str × α)} {x:Str} (h:∃ c,(x,c)∈l):∃ c,l.lookup x=some c:=by
 refine e1a1 h fun c hc=>?_;induction hl:l.lookup x with
 | some c=>exact ⟨c,rfl⟩
 | none=>
  have:=List.lookup_eq_none_iff.mp hl _ hc;simp at this
theorem bindL_miss {kf:Str→Option NameKind} {x:Str}:∀ {ps:List Str} {vals:List Value} {m:Str→Option Value},x ∉ ps→bindL kf (ps.zip vals) m x=m x:=by
 intro ps;induction ps with
 | nil=>
  intro _ _ _;exact rfl
 | cons p ps ih_=>
  intro l_;induction l_ with
  | nil=>
   intro _ _;exact rfl
  | cons v vals=>
   intro m h;simp only [List.zip_cons_cons,bindL,ih_ (fun hm=>h (List.mem_cons_of_mem _ hm))];split
   ·exact if_neg (fun e:x=p=>h (e▸List.mem_cons_self))
   ·rfl
theorem bindL_hit {h:Heap} {kf:Str→Option NameKind} {x:Str} {u:V}:∀ {ps:List Str} {us:List V} {vals:List Value} {m:Str→Option Value},ps.Nodup→ConcL B h us vals→kf x=some .local→(ps.zip us).lookup x=some u→∃ y,bindL kf (ps.zip vals) m x=some y∧Conc B h u y:=by
 intro ps;induction ps with
 | nil=>
  intro us vals m hn hc hk hl;exact z_ns hl
 | cons p ps ih_=>
  intro l_;cases l_ with
  | nil=>
   intro vals m hn hc hk hl;exact z_ns hl
  | cons v us=>
   intro vals m hn hc hk hl;refine e2a3 hc fun y ys z1 hy hys=>?_;clear hc;subst z1;rw [List.zip_cons_cons,List.lookup_cons] at hl;simp only [List.zip_cons_cons,bindL];refine e0a2 (List.nodup_cons.mp hn) fun h1 h2=>?_;clear hn;induction hxp:x == p with
   | true=>
    replace hl:=hxp▸hl;cases hl;have e:x=p:=beq_iff_eq.mp hxp;subst e;refine bindL_miss h1▸?_;refine if_pos hk▸?_;refine if_pos rfl▸?_;exact i1a2 y rfl hy
   | false=>
    replace hl:=hxp▸hl;exact ih_ h2 hys hk hl
theorem bindC_miss {kf:Str→Option NameKind} {x:Str}:∀ {ps:List Str} {vals:List Value} {m:Str→Option Value},x ∉ ps→bindC kf (ps.zip vals) m x=m x:=by
 intro ps;induction ps with
 | nil=>
  intro _ _ _;exact rfl
 | cons p ps ih_=>
  intro l_;induction l_ with
  | nil=>
   intro _ _;exact rfl
  | cons v vals=>
   intro m h;simp only [List.zip_cons_cons,bindC,ih_ (fun hm=>h (List.mem_cons_of_mem _ hm))];split
   ·rfl
   ·exact if_neg (fun e:x=p=>h (e▸List.mem_cons_self))
theorem bindC_hit {h:Heap} {kf:Str→Option NameKind} {x:Str} {u:V}:∀ {ps:List Str} {us:List V} {vals:List Value} {m:Str→Option Value},ps.Nodup→ConcL B h us vals→kf x≠some .local→(ps.zip us).lookup x=some u→∃ y,bindC kf (ps.zip vals) m x=some y∧Conc B h u y:=by
 intro ps;induction ps with
 | nil=>
  intro us vals m hn hc hk hl;exact z_ns hl
 | cons p ps ih_=>
  intro l_;cases l_ with
  | nil=>
   intro vals m hn hc hk hl;exact z_ns hl
  | cons v us=>
   intro vals m hn hc hk hl;refine e2a3 hc fun y ys z2 hy hys=>?_;clear hc;subst z2;rw [List.zip_cons_cons,List.lookup_cons] at hl;simp only [List.zip_cons_cons,bindC];refine e0a2 (List.nodup_cons.mp hn) fun h1 h2=>?_;clear hn;induction hxp:x == p with
   | true=>
    replace hl:=hxp▸hl;cases hl;have e:x=p:=beq_iff_eq.mp hxp;subst e;refine bindC_miss h1▸?_;refine if_neg hk▸?_;refine if_pos rfl▸?_;exact i1a2 y rfl hy
   | false=>
    replace hl:=hxp▸hl;exact ih_ h2 hys hk hl
structure FnAt (K:Frag) (f:Addr) (ps:List Str) (body:List Stmt) (sc:Scope):Prop where
 obj:∃ o fd,K.lookup f=some o∧o.data=.func fd∧fd.body=.stmts body∧fd.scope=sc∧fd.globals=mainGlobals∧fd.builtins=builtinsNs∧fd.closure=[]∧codeIn K fd.code fd.qualname=true ∧
  ∀ vals:List Value,vals.length=ps.length→bindArgs fd ⟨vals,[]⟩=pure (ps.zip vals)
 co:sc.isCoroutine=false
 gen:sc.isGenerator=false
 kind:sc.kind=.function
 nd:ps.Nodup
 par:∀ x∈ps,sc.names.lookup x=some .local∨sc.names.lookup x=some .cell
 noFree:∀ p∈sc.names,p.2≠.free
section
variable {B:Bs} {n:Nat}
noncomputable def RetQ (Q:V→AH→Prop) (o:Out) (_:Rho) (H':AH):Prop:=match o with | .ret v=>Q v H' | .next=>Q .none H' | _=>False
theorem code_func {f:Addr} {ps:List Str} {body:List Stmt} {sc:Scope} {us:List V} {H:AH} {Q:V→AH→Prop} {A:Around} {s:Shared} {xs:List Value} {R':Result→Shared→Prop} (X:FnAt B.K f ps body sc) (hl:us.length=ps.length)
  (h:Exs B n sc body (ps.zip us) H (RetQ Q)) (ok:B.OK) (R:Room n { A with depth:=A.depth+1,units:=A.units+3 }) (a:Abs B s.heap H) (hc:ConcL B s.heap us xs)
  (hR:∀ y s',(TrP B [] s H (Ret B Q) y s')→R' (.ok (.ret y)) s'):codeAny B.M A (.call (.ref f) ⟨xs,[]⟩) R' s:=by
 obtain ⟨o,fd,ho,hd,hb,hsc,hg,hbi,hcl,hcd,hbind⟩:=X.obj;have hlen:xs.length=ps.length:=by refine (hc.length).symm▸?_;exact hl▸rfl
 have hKs:=a.K ok;have hkind:∀ x∈ps.zip xs,fd.scope.names.lookup x.1=some .local∨(fd.scope.names.lookup x.1=some .cell∧((cellsFrom (s.heap.objs.size+1) fd.scope.names []).lookup x.1).isSome=true):=by
  intro x hx;have hm:x.1∈ps:=(List.of_mem_zip (show (x.1,x.2)∈ps.zip xs from hx)).1;refine hsc▸?_;refine Or.elim (X.par x.1 hm) (fun h1=>?_) fun h1=>?_
  ·exact .inl h1
  ·refine e1a1 (lookup_of_has (cellsFrom_mem (a:=s.heap.objs.size+1) (acc:=[]) (.inl (mem_of_lookup h1)))) fun c hc=>?_;exact .inr ⟨h1,by refine hc▸?_;rfl⟩
 refine codeAny_call_cells (by have:=R.depth;dsimp only at this;lia) (hKs _ _ ho) hd (ok.T.nolimit.keeps a.keep) (codeRec_of hKs hcd) hb (hbind xs hlen) hcl hkind (fun s1 IC=>?_) (hsc▸X.co) (hsc▸X.gen) (hsc▸X.kind);generalize hE:callEnvC fd s.heap.objs.size f=env at IC ⊢;have eS:env.scope=sc:=by refine (hE).symm▸?_;exact hsc
 have eL:env.locals=s.heap.objs.size:=by refine (hE).symm▸?_;rfl
 have eG:env.globals=mainGlobals:=by refine (hE).symm▸?_;exact hg
 have eB:env.builtins=builtinsNs:=by refine (hE).symm▸?_;exact hbi
 have eC:env.cells=cellsFrom (s.heap.objs.size+1) sc.names []:=by refine (hE).symm▸?_;refine (hsc).symm▸?_;rfl
 have hk:∀ b o,s.heap.get? b=some o→s1.heap.get? b=some o:=IC.toInCall.keep;have kt:KeepT B s.heap s1.heap:=.of_keeps hk;refine e2a1 IC.toInCall.same fun h1 tk1 hs1=>?_;subst hs1;have st1:St B [] s H { s with heap:=h1,toks:=tk1 } H:=.grown hk;have a1:Abs B h1 H:=a.grown hk;have cfr:∀ x c,env.cells.lookup x=some c→s.heap.objs.size < c:=fun x c h=>eL▸IC.above x c (mem_of_lookup h);have kindEq:∀ x,env.kindOf x=sc.names.lookup x:=fun x=>by exact eS▸rfl
 have F:Frm B env (ps.zip us) H h1:=by
  refine ⟨by refine eS▸?_;exact X.kind,eG,eB,i1a2 _ IC.toInCall.ns (fun x u hx hu=>?_),fun x c hc'=>i1a2 _ (IC.cell x c hc') (fun u hx hu=>?_),fun x hx=>?_,?_,fun x c hc'=>?_,fun x y c h1 h2=>name_of_addr IC.apart (mem_of_lookup h1) (mem_of_lookup h2)⟩
  ·refine e1a2 (bindL_hit (m:=fun u1_=>none) (vals:=xs) X.nd (hc.keep kt) hx hu) fun y hy hcy=>?_;exact i1a2 y hy hcy
  ·refine e1a2 (bindC_hit (kf:=env.kindOf) (m:=fun u2_=>none) (vals:=xs) X.nd (hc.keep kt) (by rcases hx with e | e <;> refine e▸?_ <;> decide) hu) fun y hy hcy=>?_;exact i1a2 y hy hcy
  ·refine eC▸?_;rw [kindEq] at hx;refine Or.elim hx (fun hx=>?_) fun hx=>?_
   ·exact lookup_of_has (cellsFrom_mem (.inl (mem_of_lookup hx)))
   ·exact absurd rfl (X.noFree _ (mem_of_lookup hx))
  ·refine eL▸?_;have:=fresh_fp a (Nat.le_refl s.heap.objs.size);exact ⟨this.1,this.2.1⟩
  ·have h1:=cfr x c hc';have:=fresh_fp a (Nat.le_of_lt h1);exact i0a3 this.1 this.2.1 (by simp only [eL];exact Nat.ne_of_gt h1)
 have R1:Room n (A.deeper env):=⟨R.handled,R.depth,R.units⟩
 refine wpAny_mono (h.run env (A.deeper env) { s with heap:=h1,toks:=tk1 } ok eS R1 a1 F) (fun fl s2 ⟨H2,a2,st2,o2,ρ2,hf,F2,q⟩=>?_) fun u3_ u4_ e=>e.elim;have st:St B [] s H s2 H2:=((st1.drop' (X:=fpOf env)).trans st2).drop fun b hb=>.inr (by
  rcases of_mem_fp hb with e | ⟨x,hx⟩
  ·refine e▸?_;refine eL▸?_;exact Heap.get?_none_of_le (Nat.le_refl _)
  ·exact Heap.get?_none_of_le (Nat.le_of_lt (cfr x b hx)))
 induction o2 with
 | next=>
  have:fl=.next:=hf;subst this;exact hR _ _ ⟨H2,a2,st,.none,rfl,q⟩
 | brk=>exact q.elim
 | cont=>exact q.elim
 | ret v=>
  refine e1a2 hf fun y z3 hy=>?_;clear hf;subst z3;exact hR _ _ ⟨H2,a2,st,v,hy,q⟩
theorem UC.func {f:Addr} {ps:List Str} {body:List Stmt} {sc:Scope} {us:List V} {H:AH} {Q:V→AH→Prop} (X:FnAt B.K f ps body sc) (hl:us.length=ps.length)
  (h:Exs B n sc body (ps.zip us) H (RetQ Q)):UC B (n+1) (.ref f) us H Q:=by
 intro A s xs ok R a hc;exact wpAny_call (code_func X hl h ok ⟨R.handled,by have:=R.depth;dsimp only;lia,by have:=R.units;dsimp only;lia⟩ a hc fun y s' h=>h)
theorem make_state {C:Cls} {s:Shared} {H:AH} (a:Abs B s.heap H):Abs B ((s.heap.push emptyDict).push (instObj C.addr s.heap.objs.size)) ((H.put s.heap.objs.size (.sdict [])).put (s.heap.objs.size+1) (.inst C s.heap.objs.size)) ∧
  St B [] s H { s with heap:=(s.heap.push emptyDict).push (instObj C.addr s.heap.objs.size) } ((H.put s.heap.objs.size (.sdict [])).put (s.heap.objs.size+1) (.inst C s.heap.objs.size)):=by
 have k1:∀ b o,s.heap.get? b=some o→(s.heap.push emptyDict).get? b=some o:=fun b o e=>Heap.get?_push_of_some _ e;have k2:∀ b o,(s.heap.push emptyDict).get? b=some o→((s.heap.push emptyDict).push (instObj C.addr s.heap.objs.size)).get? b=some o:=fun b o e=>Heap.get?_push_of_some _ e;have hs:(s.heap.push emptyDict).objs.size=s.heap.objs.size+1:=Heap.size_push ..;have a1:Abs B (s.heap.push emptyDict) (H.put s.heap.objs.size (.sdict [])):=a.alloc k1 (Nat.le_refl _) (i1a2 ([]) (Heap.DictOf.new _) .nil);have st1:St B [] s H { s with heap:=s.heap.push emptyDict } (H.put s.heap.objs.size (.sdict [])):=.alloc (tk:=s.toks) k1 (Heap.get?_none_of_le (Nat.le_refl _));have a2:=a1.alloc (a:=s.heap.objs.size+1) (c:=.inst C s.heap.objs.size) k2 (by refine hs▸?_;exact Nat.le_refl _) (by
  show Heap.get? _ _=_;refine (hs).symm▸?_;exact Heap.get?_push_size _ rfl)
 refine ⟨a2,st1.trans (.alloc (tk:=s.toks) (s:={ s with heap:=s.heap.push emptyDict }) k2 (Heap.get?_none_of_le (by refine hs▸?_;exact Nat.le_refl _)))⟩
theorem UC.new {C:Cls} {fI:Addr} {ps:List Str} {body:List Stmt} {sc:Scope} {us:List V} {H:AH} {Q:V→AH→Prop} (hm:makesIn B.K C.addr=true) (hi:findIn B.K (.ref C.addr) "__init__" = some (some (.ref fI))) (hf:typeIn B.K (.ref fI)=some (.type "function"))
  (X:FnAt B.K fI ps body sc) (hl:us.length+1=ps.length)
  (h:∀ d x,H d=none→H x=none→d≠x→Exs B n sc body (ps.zip (.ref x::us)) ((H.put d (.sdict [])).put x (.inst C d)) (RetQ fun v H'=>v=.none∧Q (.ref x) H')):UC B (n+1) (.ref C.addr) us H Q:=by
 intro A s xs ok R a hc;refine e0a2 (make_state (C:=C) a) fun a2 st2=>?_;have f1:=fresh_fp a (Nat.le_refl s.heap.objs.size);have f2:=fresh_fp a (Nat.le_succ s.heap.objs.size);have K:=a.K ok;obtain ⟨hp,g,dr,t,os⟩:=s;refine wpAny_call (make_core (makes_of K hm) (looks_findIn K hi) (fun self=>bind_fn K self hf) (.inl rfl) ?_);refine code_func (us:=.ref (hp.objs.size+1)::us) X hl (h hp.objs.size (hp.objs.size+1) f1.1 f2.1 (Nat.ne_of_lt (Nat.lt_succ_self _))) ok ?_ a2 (i2a3 _ _ rfl rfl (hc.keep st2.tup)) fun y s' ⟨H',p1,p2,v,hv,e,q⟩=>?_
 ·have hd:=R.depth;have hu:=R.units;refine ⟨R.handled,?_,?_⟩
  ·show (A.under _).depth+1+3 * n+3 < _;simp only [depth_under_make];exact Nat.lt_of_le_of_lt (Nat.add_le_add_right (Nat.le_trans (Nat.le_of_eq (Nat.add_right_comm A.depth 2 (3 * n))) (Nat.le_succ _)) 3) hd
  ·show (A.under _).units+3+20 * n+40 < _;simp only [units_under_make];exact Nat.lt_of_le_of_lt (Nat.add_le_add_right (Nat.le_trans (Nat.le_of_eq (Nat.add_right_comm A.units 4 (20 * n))) (Nat.add_le_add_left (by decide:4≤20) _)) 40) hu
 ·subst e;have:y=.none:=hv;exact ⟨this,H',p1,st2.trans p2,.ref _,rfl,q⟩
theorem UC.new0 {C:Cls} {H:AH} {Q:V→AH→Prop} (hm:makesIn B.K C.addr=true) (hi:findIn B.K (.ref C.addr) "__init__" = some (some (.builtin "object.__init__")))
  (h:∀ d x,H d=none→H x=none→d≠x→Q (.ref x) ((H.put d (.sdict [])).put x (.inst C d))):UC B (n+1) (.ref C.addr) [] H Q:=by
 intro A s xs ok R a hc;have:xs=[]:=hc;subst this;obtain ⟨a2,st2⟩:=make_state (C:=C) a;have f1:=fresh_fp a (Nat.le_refl s.heap.objs.size);have f2:=fresh_fp a (Nat.le_succ s.heap.objs.size);have K:=a.K ok;obtain ⟨hh,g,dr,t,os⟩:=s;have Y:=makes_of (M:=B.M) K hm;refine wpAny_call (make_core Y (looks_findIn K hi) (fun self=>Looks.of_pure (oi_bind self)) (.inr ⟨rfl,rfl⟩) ?_);have t1:Looks B.M ((hh.push emptyDict).push (instObj C.addr hh.objs.size)) (typeOf (.ref (hh.objs.size+1))) (.ref C.addr):=by
  have hs:(hh.push emptyDict).objs.size=hh.objs.size+1:=Heap.size_push ..;have:((hh.push emptyDict).push (instObj C.addr hh.objs.size)).get? (hh.objs.size+1)=some (instObj C.addr hh.objs.size):=by refine (hs).symm▸?_;exact Heap.get?_push_size _ rfl
  exact (Looks.ld (part:=none) this).andThen .now
 have t2:Looks B.M ((hh.push emptyDict).push (instObj C.addr hh.objs.size)) (isInstance (.ref (hh.objs.size+1)) (.type "object")) true:=t1.andThen (Y.top.keeps fun b o e=>Heap.get?_push_of_some _ (Heap.get?_push_of_some _ e));refine codeAny_call_builtin oi_plain entry_oi (@check_slot B.M _ _ _ "object.__init__" "object" "__init__" (.ref (hh.objs.size+1)) [] [] _ oi_kind oi_split t2 (oi_args (.ref (hh.objs.size+1))) ?_);rw [oi_run];exact wpAny_pure ⟨rfl,_,a2,st2,.ref _,rfl,h _ _ f1.1 f2.1 (Nat.ne_of_lt (Nat.lt_succ_self _))⟩
end
section
variable {B:Bs} {n:Nat} {sc:Scope} {ρ:Rho} {H:AH}
noncomputable def WL (B:Bs) (elt:Expr) (A:Around) (cenv:Env) (D:Addr) (N:Shared→Prop) (s:Shared):Prop:=
 wpAny B.M A (eval elt cenv) (fun x s1=>wpAny B.M A (call (.builtin "list.append") [.ref D,x]) (fun _ s2=>N s2) NoE s1) NoE s
noncomputable def bdL (n:Nat) (sc:Scope) (elt:Expr) (B:Bs) (ρ:Rho) (I:List V→AH→Prop) (acc:List V) (H:AH):Prop:=Ev B n sc elt ρ H fun u H'=>I (acc++[u]) H'
theorem kindL {elt tg iter:Expr} {ifs:List Expr} {scope:Scope} {pos:Pos}:CKind B n sc (.ListComp elt [⟨tg,iter,ifs,0⟩] scope pos) (newList []) tg ifs [] Cell.list List.length (bdL n sc elt B) (WL B elt) where
 nil0:=rfl
 make:=fun h=>wpAny_newObj_type (h _ rfl fun h' e=>i2a2 ([]) _ e rfl)
 loop:=fun {A it D cenv R} I turn k s h=>by
  refine codeAny_loop rfl I (fun n s hI=>?_) k h;show wpAny _ A ((compTurn (.ListComp elt [⟨tg,iter,ifs,0⟩] scope pos) 0 it (.ref D) cenv).onRaise (fun x=>do noteFrame x cenv;theTreesLotGoes x)) _ _ s;refine wpAny_noted ?_;rw [compTurn_list];refine wpAny_bind (wpAny_standAt (wpAny_bind (wpAny_mono (turn n s hI) (fun r s₁ h₁=>?_) fun u1_ u2_ h'=>h'.elim)));induction r with
  | none=>exact wpAny_pure h₁
  | some v=>
   refine wpAny_bind (wpAny_mono h₁ (fun u3_ s₁' h₁'=>wpAny_bind (wpAny_mono h₁' (fun u4_ s₂ h₂=>wpAny_bind (wpAny_mono h₂ (fun ok s₃ h₃=>?_) fun u5_ u6_ h'=>h'.elim)) fun u7_ u8_ h'=>h'.elim)) fun u9_ u10_ h'=>h'.elim);induction ok with
   | false=>exact wpAny_pure ⟨rfl,h₃⟩
   | true=>
    exact wpAny_bind (wpAny_bind (wpAny_mono h₃ (fun x s₄ h₄=>wpAny_bind (wpAny_mono h₄ (fun u11_ s₅ h₅=>wpAny_pure (wpAny_pure ⟨rfl,h₅⟩)) fun u12_ u13_ h'=>h'.elim)) fun u14_ u15_ h'=>h'.elim))
 start:=fun h0 h=>codeAny_compStart_list h0 (wpAny_mono h (fun u16_ u17_ h=>h) fun u18_ u19_ h=>h.elim)
 body:=fun {A cenv D ρ' I' acc H s N} ok R he hl a F c hD d1 d2 d3 h q=>by
  refine Tr.out (h.run cenv A s ok he R a F) fun z H6 s6 a6 st6 z1=>?_;obtain ⟨u,hu,i⟩:=z1;have c6:=cell_step c st6 hD fun h=>nomatch h;refine e0a2 c6 fun z1 HD6=>?_;refine e2a2 z1 fun ys m D6 hy=>?_;refine wpAny_list_append_plain (items:=List.toArray ys) ⟨m,D6⟩ (fun h7 hp7 hs7=>?_) (by simp only [List.size_toArray,← hy.length];exact line_ok (Nat.le_trans hl (nbl rfl)));refine e1a1 hp7 fun m7 D7=>?_;have kt7:KeepT B s6.heap h7:=.sameBut hs7 D6 (by simp);have g:=offBut (tk:=s6.toks) a6 hs7 kt7 HD6 d1 d2 d3;exact q (acc++[u]) H6 _ g.1 (st6.of_nil.trans g.2) ⟨ys++[z],m7,by simpa using D7,(hy.keep kt7).append (i2a3 z ([]) rfl (hu.keep kt7) rfl)⟩ HD6 (Nat.le_of_eq List.length_append) i
theorem Ev.listComp {elt tg iter:Expr} {ifs:List Expr} {scope:Scope} {pos:Pos} {Q:V→AH→Prop}
  (h:It B n sc tg iter ρ H fun P' items live H1=>CompG (B.wp P') n sc ρ tg ifs scope [] (bdL n (relab scope sc) elt (B.wp P')) (fun D acc H'=>Q (.ref D) (H'.put D (.list acc))) items live H1)
  (hok:compOk sc scope (patNames tg)=true:=by decide +kernel) (hpat:(patNames tg).all (fun x=>(relab scope sc).names.lookup x == some .local)=true:=by decide +kernel)
  (h0:ρ.lookup (".0":Str)=Option.none:=by rfl) (hs:∀ env x,foldedSetIterable iter env x=pure x:=by intro u1_ u2_;rfl) :
  Ev B n sc (.ListComp elt [⟨tg,iter,ifs,0⟩] scope pos) ρ H Q:=by
 refine ⟨fun env A s ok he R a F=>?_⟩;show wpAny B.M A (comprehension (.ListComp elt [⟨tg,iter,ifs,0⟩] scope pos) scope env (firstIterPos [⟨tg,iter,ifs,0⟩] pos) (newList []) false (eval iter env) Option.none) _ _ s;refine comp_core (W:=WL B elt) (use:=Option.none) (fun P=>kindL (B:=B.wp P)) rfl hok h0 hs ok he R a F hpat h fun D acc H' s' C E q=>?_;refine e1a2 (E.gone (fun u3_ h=>h) E.a (.refl _ _ _) (fun h=>nomatch h)) fun m hns g=>?_;exact i1a2 m hns (fun h'' hs''=>have g:=g h'' hs'';⟨_,g.1,g.2.2,.ref D,rfl,q⟩)
theorem Ex.assignG {T:Type} {cell:T→Cell} {len:T→Nat} {bd:Bs→Rho→(T→AH→Prop)→T→AH→Prop} {W:Around→Env→Addr→(Shared→Prop)→Shared→Prop} {mk:Sem Value} {nil:T} {x:Str} {e tg iter:Expr} {ifs:List Expr} {scope:Scope} {p2 px pos:Pos} {Q:Out→Rho→AH→Prop}
  (K:∀ P,CKind (B.wp P) n (relab scope sc) e mk tg ifs nil cell len (bd (B.wp P)) W) (hcl:clausesOf e=[⟨tg,iter,ifs,0⟩]) (hev:∀ env f,evalThenUse e env f=(do let _ ← comprehension e scope env p2 mk false (eval iter env) (some f)))
  (hk:sc.names.lookup x=some .local) (h:It B n sc tg iter ρ H fun P' items live H1=>CompG (B.wp P') n sc ρ tg ifs scope nil (bd (B.wp P')) (fun D acc H'=>Q .next ((x,.ref D)::ρ) (H'.put D (cell acc))) items live H1)
  (hsw:∀ env,env.scope=sc→swapsWith e (some (.Name x px)) pos.line env=pure true) (hok:compOk sc scope (patNames tg)=true) (hpat:(patNames tg).all (fun x=>(relab scope sc).names.lookup x == some .local)=true)
  (h0:ρ.lookup (".0":Str)=Option.none) (hs:∀ env x,foldedSetIterable iter env x=pure x):Ex B n sc (.Assign [.Name x px] e pos) ρ H Q:=by
 refine ⟨fun env A s ok he R a F=>?_⟩;simp only [arm_exec_Assign];refine Tr.stand a ?_;show wpAny B.M A (swapsWith e (some (.Name x px)) pos.line env >>= _) _ _ s;rw [hsw env he];refine wpAny_bind (wpAny_pure ?_);rw [if_pos rfl,hev];refine wpAny_bind (wpAny_bind (wpAny_mono (comp_core (P:=fun u1_ s'=>TrP B (fpOf env) s H (ExPost B env Q) .next s') (use:=some _) K hcl hok h0 hs ok he R a F hpat h fun D acc H' s' C E q=>?_) (fun u2_ s' h=>wpAny_pure (wpAny_pure h)) fun u3_ u4_ e=>e));have hCn:C ∉ fpOf env:=fun hm=>by
  refine e1a1 (F.there hm) fun o ho=>?_;replace ho:=E.nC.symm.trans ho;exact z_ns ho
 show wpAny B.M A (PySem.assign (.Name x px) env (.ref D)) _ _ s';refine Tr.out ((As.name (B:=B) (n:=n) (sc:=env.scope) (pos:=px) (Q:=fun ρ' H2=>ρ'=(x,.ref D)::ρ∧H2=H'.put D (cell acc)) (he▸hk) ⟨rfl,rfl⟩ (.inl rfl)).run env A s' (.ref D) ok rfl R E.a (F.step E.st) rfl) fun u5_ H2 s2 a2 st2 h=>?_;refine e1a3 h fun ρ2 F2 z4 z5=>?_;clear h;subst z4;subst z5;refine e1a2 (E.gone (fun u6_ h=>nomatch h) a2 st2 hCn) fun m hns g=>?_;exact i1a2 m hns (fun h'' hs''=>have g:=g h'' hs'';⟨_,g.1,g.2.2,.next,_,rfl,F2.stepX (s':={ s2 with heap:=h'' }) g.2.1 fun b hb=>List.mem_singleton.mp hb▸hCn,q⟩)
end
section
variable {B:Bs} {n:Nat} {sc:Scope} {ρ:Rho} {H:AH}
noncomputable def WD (B:Bs) (kx vx:Expr) (A:Around) (cenv:Env) (D:Addr) (N:Shared→Prop) (s:Shared):Prop:=
 wpAny B.M A (eval kx cenv) (fun x s1=>wpAny B.M A (eval vx cenv) (fun y s2=>wpAny B.M A (dictSet D x y) (fun _ s3=>N s3) NoE s2) NoE s1) NoE s
noncomputable def bdD (n:Nat) (sc:Scope) (kx vx:Expr) (B:Bs) (ρ:Rho) (I:List (Int × V)→AH→Prop) (acc:List (Int × V)) (H:AH):Prop:=
 Ev B n sc kx ρ H fun w H1=>∃ z,w=.int z∧Ev B n sc vx ρ H1 fun u H'=>I (dput acc z u) H'
theorem dput_len {acc:List (Int × V)} {z:Int} {u:V}:(dput acc z u).length≤acc.length+1:=by
 unfold dput;by_cases h:acc.any (fun kv=>decide (kv.1=z))=true
 ·rw [if_pos h,List.length_map];exact Nat.le_succ _
 ·rw [if_neg h,List.length_append];exact Nat.le_refl _
theorem kindD {kx vx tg iter:Expr} {ifs:List Expr} {scope:Scope} {pos:Pos}:CKind B n sc (.DictComp kx vx [⟨tg,iter,ifs,0⟩] scope pos) newDict tg ifs [] Cell.idict List.length (bdD n sc kx vx B) (WD B kx vx) where
 nil0:=rfl
 make:=fun {A Q s} h=>wpAny_newObj_type (h _ rfl fun h' e=>i1a2 ([]) ((Heap.DictOf.new s.heap).at fun o e'=>by replace e':=(Heap.get?_push_size _ rfl).symm.trans e';refine z_el e' ?_;exact e) .nil)
 loop:=fun {A it D cenv R} I turn k s h=>by
  refine codeAny_loop rfl I (fun n s hI=>?_) k h;show wpAny _ A ((compTurn (.DictComp kx vx [⟨tg,iter,ifs,0⟩] scope pos) 0 it (.ref D) cenv).onRaise (fun x=>do noteFrame x cenv;theTreesLotGoes x)) _ _ s;refine wpAny_noted ?_;rw [compTurn_dict];refine wpAny_bind (wpAny_standAt (wpAny_bind (wpAny_mono (turn n s hI) (fun r s₁ h₁=>?_) fun u1_ u2_ h'=>h'.elim)));induction r with
  | none=>exact wpAny_pure h₁
  | some v=>
   refine wpAny_bind (wpAny_mono h₁ (fun u3_ s₁' h₁'=>wpAny_bind (wpAny_mono h₁' (fun u4_ s₂ h₂=>wpAny_bind (wpAny_mono h₂ (fun ok s₃ h₃=>?_) fun u5_ u6_ h'=>h'.elim)) fun u7_ u8_ h'=>h'.elim)) fun u9_ u10_ h'=>h'.elim);induction ok with
   | false=>exact wpAny_pure ⟨rfl,h₃⟩
   | true=>
    exact wpAny_bind (wpAny_bind (wpAny_mono h₃ (fun x s₄ h₄=>wpAny_bind (wpAny_holding (wpAny_mono h₄ (fun y s₄' h₄'=>wpAny_bind (wpAny_standAt (wpAny_holding (wpAny_mono h₄' (fun u11_ s₅ h₅=>wpAny_pure ⟨rfl,h₅⟩) fun u12_ u13_ h'=>h'.elim)))) fun u14_ u15_ h'=>h'.elim))) fun u16_ u17_ h'=>h'.elim))
 start:=fun h0 h=>codeAny_compStart_dict h0 (wpAny_mono h (fun u18_ u19_ h=>h) fun u20_ u21_ h=>h.elim)
 body:=fun {A cenv D ρ' I' acc H s N} ok R he hl a F c hD d1 d2 d3 h q=>by
  refine Tr.out (h.run cenv A s ok he R a F) fun zk H6 s6 a6 st6 z4=>?_;obtain ⟨uk,huk,zi,ezk,i⟩:=z4;subst ezk;obtain ⟨tz,rfl⟩:∃ t,zk=.int zi t:=huk;have c6:=cell_step c st6 hD fun h=>nomatch h;refine Tr.out (i.run cenv A s6 ok he R a6 (F.step st6)) fun z H7 s7 a7 st7 z1=>?_;obtain ⟨u,hu,i⟩:=z1;have c7:=cell_step c6.1 st7 c6.2 fun h=>nomatch h;refine e0a2 c7 fun z1 HD7=>?_;refine e1a2 z1 fun ys D7 hy=>?_;refine wpAny_dictSet_pairs (intKind_is _ _ _ _) D7 (fun h8 D8 hs8=>?_) (by rw [pv_len hy];exact line_ok (Nat.le_trans hl (nbl rfl)));have kt8:KeepT B s7.heap h8:=by
   refine e3a4 D7 fun o es ep ho hc hd u22_=>?_;exact .sameBut' hs8 ho fun xs n e=>by replace e:=hd.symm.trans e;cases e
  have g:=offBut (tk:=s7.toks+1) a7 hs8 kt8 HD7 d1 d2 d3;exact q (dput acc zi u) H7 _ g.1 ((st6.trans st7).of_nil.trans g.2) (i1a2 _ D8 (pv_put (hu.keep kt8) (hy.imp fun u23_ u24_ e=>⟨e.1,e.2.keep kt8⟩))) HD7 dput_len i
theorem stores_all {env:Env} {A:Around} (hk:∀ (ns:List Str),ns=ns):∀ (ns:List Str) (us:List V) (ys:List Value) (ρ:Rho) (H:AH) (s:Shared) (Q:Unit→AH→Shared→Prop),(∀ x∈ns,env.kindOf x=some .local)→us.length=ns.length→Abs B s.heap H→Frm B env ρ H s.heap→ConcL B s.heap us ys →
  (∀ s',Frm B env ((ns.zip us).reverse++ρ) H s'.heap→Abs B s'.heap H→St B (fpOf env) s H s' H→Q () H s')→Tr B A (fpOf env) (assignInOrder (ns.map fun x=>bindName env x) ys) H s Q:=by
 intro ns;induction ns with
 | nil=>
  intro us ys ρ H s Q _ hl a F hc q;exact Tr.pure a (q s (by simpa using F) a (.refl _ _ _))
 | cons x ns ih_=>
  intro l_;induction l_ with
  | nil=>
   intro ys ρ H s Q _ hl a F hc q;cases hl
  | cons u us=>
   intro ys ρ H s Q hns hl a F hc q;refine e2a3 hc fun y ys' z3 hy hys=>?_;clear hc;subst z3;show Tr B A (fpOf env) (holding ys' (bindName env x y) >>= fun u1_=>assignInOrder (ns.map fun x=>bindName env x) ys') H s Q;refine wpAny_bind (wpAny_holding (wpAny_bindName (Tr.out (store_name (Q:=fun u2_ H' s'=>H'=H∧Frm B env ((x,u)::ρ) H s'.heap) a F (hns x List.mem_cons_self) (.inl rfl) hy fun s' F' a'=>⟨rfl,F'⟩) fun u3_ H1 s1 a1 st1 z3=>e0a2 z3 fun e F1=>?_)));clear a F z3;subst e;refine wpAny_mono (ih_ us ys' ((x,u)::ρ) H1 s1 (fun v H' s'=>St B (fpOf env) s H1 s' H'→Q v H' s') (fun z hz=>hns z (List.mem_cons_of_mem _ hz)) (by simpa using hl) a1 F1 (hys.keep st1.tup) (fun s' F' a' st' st=>q s' (by simp only [List.zip_cons_cons,List.reverse_cons,List.append_assoc];exact F') a' (st1.trans st'))) (fun u4_ s' ⟨H',p1,p2,p3⟩=>⟨H',p1,st1.trans p2,p3 (st1.trans p2)⟩) fun u5_ u6_ e=>e
theorem concL_rev {h:Heap}:∀ {us:List V} {ys:List Value},ConcL B h us ys→ConcL B h us.reverse ys.reverse:=by
 intro us;induction us with
 | nil=>
  intro ys hc;have:ys=[]:=hc;subst this;rfl
 | cons u us ih_=>
  intro ys hc;refine e2a3 hc fun y ys' z4 hy hys=>?_;clear hc;subst z4;simp only [List.reverse_cons,List.reverse_cons];exact (ih_ hys).append (i2a3 y ([]) rfl hy rfl)
theorem Ex.assignSwap {names:List Str} {t e:Expr} {pos:Pos} {Q:Out→Rho→AH→Prop} (hw:∀ env,env.scope=sc→swappedStores [t] e env=pure (some names))
  (h:Ev B n sc e ρ H fun u H1=>∃ us,u=.tup us∧us.length=names.length∧Q .next ((names.reverse.zip us.reverse).reverse++ρ) H1) (hk:names.all (fun x=>sc.names.lookup x == some .local)=true:=by decide +kernel)
  (hs:∀ env,env.scope=sc→swapsWith e (some t) pos.line env=pure false:=by intro u1_ u2_;rfl):Ex B n sc (.Assign [t] e pos) ρ H Q:=by
 refine ⟨fun env A s ok he R a F=>?_⟩;simp only [arm_exec_Assign];refine Tr.stand a ?_;show wpAny B.M A (swapsWith e (some t) pos.line env >>= _) _ _ s;rw [hs env he];refine wpAny_bind (wpAny_pure ?_);rw [if_neg (by decide)];refine wpAny_bind (Tr.out (h.run env A s ok he R a F) fun y H1 s1 a1 st1 z7=>?_);obtain ⟨u,hu,us,e1,hl,q⟩:=z7;subst e1;refine e3a3 (conc_tup hu) fun c xs m z5 ho hcl=>?_;clear hu;subst z5;refine hw env he▸?_;refine wpAny_bind (wpAny_pure ?_);show wpAny B.M A (rule "assign.swapped-stores" >>= fun u3_=>unpackItems (.ref c) names.length .none >>= fun items=>assignInOrder (names.reverse.map fun n=>bindName env n) items.reverse >>= fun u4_=>pure Flow.next) _ _ s1;refine wpAny_bind (wpAny_rule ?_);have hsz:(List.toArray xs).size=names.length:=by simp only [List.size_toArray,← hcl.length,hl]
 refine (hsz).symm▸?_;refine wpAny_bind (wpAny_unpackItems_tuple R.handled (isTuple_of ho) fun h' hx=>?_);have hk':∀ b o,s1.heap.get? b=some o→h'.get? b=some o:=fun b o e=>hx b o (Nat.ne_of_lt (Heap.lt_size e)) e;have st2:St B [] s1 H1 { s1 with heap:=h' } H1:=.grown (tk:=s1.toks) hk';have F2:=(F.step st1).step st2;refine wpAny_bind (Tr.out (stores_all (B:=B) (fun u5_=>rfl) names.reverse us.reverse xs.reverse ρ H1 { s1 with heap:=h' } (fun u6_ H' s'=>H'=H1∧Frm B env ((names.reverse.zip us.reverse).reverse++ρ) H1 s'.heap) (fun x hx=>by
  have:=List.all_eq_true.mp hk x (List.mem_reverse.mp hx);unfold Env.kindOf;refine he▸?_;exact beq_iff_eq.mp this) (by simp [hl]) (a1.grown hk') F2 (concL_rev (hcl.keep (.of_keeps hk'))) fun s' F' a' st'=>⟨rfl,F'⟩) fun u7_ H3 s3 a3 st3 z6=>e0a2 z6 fun e3 F3=>?_)
 clear a1 F2 z6;subst e3;exact wpAny_pure ⟨H3,a3,((st1.trans st2).drop').trans st3,.next,_,rfl,F3,q⟩
end
theorem conc1 {h:Heap} {u:V} {xs:List Value} (c:ConcL B h [u] xs):∃ x,xs=[x]∧Conc B h u x:=by
 refine e2a3 c fun x r z1 h1 h2=>?_;clear c;subst z1;have:r=[]:=h2;subst this;exact i1a2 x rfl h1
theorem conc2 {h:Heap} {u v:V} {xs:List Value} (c:ConcL B h [u,v] xs):∃ x y,xs=[x,y]∧Conc B h u x∧Conc B h v y:=by
 refine e2a3 c fun x r z2 h1 h2=>?_;clear c;subst z2;refine e1a2 (conc1 h2) fun y z3 h3=>?_;clear h2;subst z3;exact i2a3 x y rfl h1 h3
theorem conc3 {h:Heap} {u v w:V} {xs:List Value} (c:ConcL B h [u,v,w] xs):∃ x y z,xs=[x,y,z]∧Conc B h u x∧Conc B h v y∧Conc B h w z:=by
 refine e2a3 c fun x r z4 h1 h2=>?_;clear c;subst z4;refine e2a3 (conc2 h2) fun y z z5 h3 h4=>?_;clear h2;subst z5;exact i3a4 x y z rfl h1 h3 h4
section
variable {B:Bs} {n:Nat} {H:AH} {Q:V→AH→Prop} {a b:Addr} {vs ws:List V} {v u:V} {i j:Int}
theorem u_add (q:Q (.int (i+j)) H):U2 B n (binaryOp .Add) (.int i) (.int j) H Q:=fun A s x y ok R ab hx hy=>by obtain ⟨t,rfl⟩:=hx;obtain ⟨u,rfl⟩:=hy;exact tr_add ab q
theorem u_sub (q:Q (.int (i - j)) H):U2 B n (binaryOp .Sub) (.int i) (.int j) H Q:=fun A s x y ok R ab hx hy=>by obtain ⟨t,rfl⟩:=hx;obtain ⟨u,rfl⟩:=hy;exact tr_sub ab q
theorem u_mod (hj:j≠0) (q:Q (.int (i.fmod j)) H):U2 B n (binaryOp .Mod) (.int i) (.int j) H Q:=fun A s x y ok R ab hx hy=>by obtain ⟨t,rfl⟩:=hx;obtain ⟨u,rfl⟩:=hy;exact tr_mod ab hj q
theorem u_fdiv (hj:j≠0) (hs:j.natAbs < 1073741824) (q:Q (.int (i.fdiv j)) H):U2 B n (binaryOp .FloorDiv) (.int i) (.int j) H Q:=fun A s x y ok R ab hx hy=>by obtain ⟨t,rfl⟩:=hx;obtain ⟨u,rfl⟩:=hy;exact tr_fdiv ab hj hs q
theorem u_mul (hi:0≤i∧i < 2 ^ 32) (hj:0≤j∧j < 2 ^ 32) (q:Q (.int (i * j)) H):U2 B n (binaryOp .Mult) (.int i) (.int j) H Q:=fun A s x y ok R ab hx hy=>by obtain ⟨t,rfl⟩:=hx;obtain ⟨u,rfl⟩:=hy;exact tr_mul ab hi hj q
theorem u_lt (q:Q (.bool (decide (i < j))) H):U2 B n (compareOp .Lt) (.int i) (.int j) H Q:=fun A s x y ok R ab hx hy=>by obtain ⟨t,rfl⟩:=hx;obtain ⟨u,rfl⟩:=hy;exact P.lt_int (fin_same ab (v:=.bool _) rfl q)
theorem u_le (q:Q (.bool (decide (i≤j))) H):U2 B n (compareOp .LtE) (.int i) (.int j) H Q:=fun A s x y ok R ab hx hy=>by obtain ⟨t,rfl⟩:=hx;obtain ⟨u,rfl⟩:=hy;exact P.le_int (fin_same ab (v:=.bool _) rfl q)
theorem u_gt (q:Q (.bool (decide (i > j))) H):U2 B n (compareOp .Gt) (.int i) (.int j) H Q:=fun A s x y ok R ab hx hy=>by obtain ⟨t,rfl⟩:=hx;obtain ⟨u,rfl⟩:=hy;exact P.gt_int (fin_same ab (v:=.bool _) rfl q)
theorem room_units {A:Around} (R:Room n A):A.units+40 < cLine:=by have:=R.units;lia
theorem u_addList (ha:H a=some (.list vs)) (hb:H b=some (.list ws)) (hz:vs.length+ws.length≤100000) (q:∀ c,H c=none→Q (.ref c) (H.put c (.list (vs++ws)))):U2 B n (binaryOp .Add) (.ref a) (.ref b) H Q:=fun A s x y ok R ab hx hy=>by
 have:x=.ref a:=hx;subst this;have:y=.ref b:=hy;subst this;exact tr_addList ab ha hb hz q
theorem u_tupAdd (hz:vs.length+ws.length≤100000) (q:Q (.tup (vs++ws)) H):U2 B n (binaryOp .Add) (.tup vs) (.tup ws) H Q:=fun A s x y ok R ab hx hy=>tr_tup_add ab hx hy hz q
theorem u_tupMul {k:Nat} (hk:k=1∨k=2) (q:Q (.tup (List.replicate k v)) H):U2 B n (binaryOp .Mult) (.tup [v]) (.int k) H Q:=fun A s x y ok R ab hx hy=>by obtain ⟨t,rfl⟩:=hy;exact tr_tup_mul ab hx hk q
theorem u_listGet {i:Nat} (ha:H a=some (.list vs)) (hi:vs[i]? = some v) (hz:vs.length≤100000) (q:Q v H):U2 B n getItem (.ref a) (.int i) H Q:=fun A s x y ok R ab hx hy=>by
 have:x=.ref a:=hx;subst this;obtain ⟨t,rfl⟩:=hy;exact tr_list_get ab ha hi hz q
theorem u_listLast (ha:H a=some (.list (vs++[v]))) (hz:vs.length≤100000) (q:Q v H):U2 B n getItem (.ref a) (.int (-1)) H Q:=fun A s x y ok R ab hx hy=>by
 have:x=.ref a:=hx;subst this;obtain ⟨t,rfl⟩:=hy;exact tr_list_last ab ha hz q
theorem u_tupGet {i:Nat} (hi:vs[i]? = some v) (hz:vs.length≤100000) (q:Q v H):U2 B n getItem (.tup vs) (.int i) H Q:=fun A s x y ok R ab hx hy=>by obtain ⟨t,rfl⟩:=hy;exact tr_tup_get ab hx hi hz q
theorem u_listSet {i:Nat} {Q:AH→Prop} (ha:H a=some (.list vs)) (hi:i < vs.length) (hz:vs.length≤100000) (q:Q (H.put a (.list (vs.set i v)))):US3 B n setItem (.ref a) (.int i) v H Q:=fun A s x y z ok R ab hx hy hzc=>by
 have:x=.ref a:=hx;subst this;obtain ⟨t,rfl⟩:=hy;exact tr_list_set ab ha hi hz hzc q
theorem c_append (ha:H a=some (.list vs)) (hz:vs.length≤100000) (q:Q .none (H.put a (.list (vs++[v])))):UC B n (.builtin "list.append") [.ref a,v] H Q:=fun A s xs ok R ab hc=>by
 refine e2a3 (conc2 hc) fun x y z27 hx hy=>?_;clear hc;subst z27;have:x=.ref a:=hx;subst this;exact tr_append ab ha hz hy q
theorem c_extend (ha:H a=some (.list vs)) (hb:H b=some (.list ws)) (hz:vs.length+ws.length≤100000) (q:Q .none (H.put a (.list (vs++ws)))):UC B n (.builtin "list.extend") [.ref a,.ref b] H Q:=fun A s xs ok R ab hc=>by
 refine e2a3 (conc2 hc) fun x y z28 hx hy=>?_;clear hc;subst z28;have:x=.ref a:=hx;subst this;have:y=.ref b:=hy;subst this;exact tr_extend ab ha hb hz q
theorem c_pop (ha:H a=some (.list (vs++[v]))) (hz:vs.length≤100000) (q:Q v (H.put a (.list vs))):UC B n (.builtin "list.pop") [.ref a] H Q:=fun A s xs ok R ab hc=>by
 refine e1a2 (conc1 hc) fun x z29 hx=>?_;clear hc;subst z29;have:x=.ref a:=hx;subst this;exact tr_pop ab ha hz q
theorem c_lenList (ha:H a=some (.list vs)) (hz:vs.length≤100000) (q:Q (.int vs.length) H):UC B n (.builtin "len") [.ref a] H Q:=fun A s xs ok R ab hc=>by
 refine e1a2 (conc1 hc) fun x z30 hx=>?_;clear hc;subst z30;have:x=.ref a:=hx;subst this;exact tr_lenList ab ha hz q
theorem c_lenDict {kvs:List (Int × V)} (ha:H a=some (.idict kvs)) (hz:kvs.length≤100000) (q:Q (.int kvs.length) H):UC B n (.builtin "len") [.ref a] H Q:=fun A s xs ok R ab hc=>by
 refine e1a2 (conc1 hc) fun x z31 hx=>?_;clear hc;subst z31;have:x=.ref a:=hx;subst this;exact tr_lenDict ab ha hz q
theorem c_lenTup (hz:vs.length≤100000) (q:Q (.int vs.length) H):UC B n (.builtin "len") [.tup vs] H Q:=fun A s xs ok R ab hc=>by
 refine e1a2 (conc1 hc) fun x z32 hx=>?_;clear hc;subst z32;exact tr_lenTup ab hx hz q
theorem u_idictGet {kvs:List (Int × V)} (ha:H a=some (.idict kvs)) (hv:dget kvs i=some v) (q:Q v H):U2 B n getItem (.ref a) (.int i) H Q:=fun A s x y ok R ab hx hy=>by
 have:x=.ref a:=hx;subst this;obtain ⟨t,rfl⟩:=hy;exact tr_idict_get ab ha hv q
theorem u_idictNotIn {kvs:List (Int × V)} (ha:H a=some (.idict kvs)) (q:Q (.bool (!(dget kvs i).isSome)) H):U2 B n (compareOp .NotIn) (.int i) (.ref a) H Q:=fun A s x y ok R ab hx hy=>by
 have:y=.ref a:=hy;subst this;obtain ⟨t,rfl⟩:=hx;exact tr_idict_notin ab ha q
theorem u_idictSet {kvs:List (Int × V)} {Q:AH→Prop} (ha:H a=some (.idict kvs)) (hz:kvs.length≤100000) (q:Q (H.put a (.idict (dput kvs i v)))):US3 B n setItem (.ref a) (.int i) v H Q:=fun A s x y z ok R ab hx hy hzc=>by
 have:x=.ref a:=hx;subst this;obtain ⟨t,rfl⟩:=hy;exact tr_idict_set ab ha hz hzc q
theorem c_idictPop {kvs:List (Int × V)} (ha:H a=some (.idict kvs)) (hz:kvs.length≤100000) (hv:dget kvs i=some v) (q:Q v (H.put a (.idict (ddel kvs i)))):UC B n (.builtin "dict.pop") [.ref a,.int i] H Q:=fun A s xs ok R ab hc=>by
 refine e2a3 (conc2 hc) fun x y z37 hx hy=>?_;clear hc;subst z37;have:x=.ref a:=hx;subst this;obtain ⟨t,rfl⟩:=hy;exact tr_idict_pop ab ha hz hv q
theorem c_idictGet {kvs:List (Int × V)} (ha:H a=some (.idict kvs)) (q:Q ((dget kvs i).getD .none) H):UC B n (.builtin "dict.get") [.ref a,.int i] H Q:=fun A s xs ok R ab hc=>by
 refine e2a3 (conc2 hc) fun x y z39 hx hy=>?_;clear hc;subst z39;have:x=.ref a:=hx;subst this;obtain ⟨t,rfl⟩:=hy;exact tr_idict_dget ab ha q
theorem c_idictSetdefault {kvs:List (Int × V)} (ha:H a=some (.idict kvs)) (hz:kvs.length≤100000) (q:match dget kvs i with | some u=>Q u H | none=>Q v (H.put a (.idict (kvs++[(i,v)])))):UC B n (.builtin "dict.setdefault") [.ref a,.int i,v] H Q:=fun A s xs ok R ab hc=>by
 refine e3a4 (conc3 hc) fun x y z z41 hx hy hzc=>?_;clear hc;subst z41;have:x=.ref a:=hx;subst this;obtain ⟨t,rfl⟩:=hy;exact tr_idict_setdefault ab ha hz hzc q
theorem u_sdictGet {kvs:List (Str × V)} {k:Str} (ha:H a=some (.sdict kvs)) (hv:dget kvs k=some v) (q:Q v H):U2 B n getItem (.ref a) (.str k) H Q:=fun A s x y ok R ab hx hy=>by
 have:x=.ref a:=hx;subst this;obtain ⟨t,rfl⟩:=hy;exact tr_sdict_get ab ha hv q
theorem u_sdictSet {kvs:List (Str × V)} {k:Str} {Q:AH→Prop} (ha:H a=some (.sdict kvs)) (hz:kvs.length≤100000) (q:Q (H.put a (.sdict (dput kvs k v)))):US3 B n setItem (.ref a) (.str k) v H Q:=fun A s x y z ok R ab hx hy hzc=>by
 have:x=.ref a:=hx;subst this;obtain ⟨t,rfl⟩:=hy;exact tr_sdict_set ab ha hz hzc q
theorem u_tdictIn {kvs:List (List (Str ⊕ Int) × V)} {ks:List (Str ⊕ Int)} (ha:H a=some (.tdict kvs)) (q:Q (.bool (dget kvs ks).isSome) H):U2 B n (compareOp .In) (nodeV ks) (.ref a) H Q:=fun A s x y ok R ab hx hy=>by
 have:y=.ref a:=hy;subst this;exact tr_tdict_in (by have:=room_units R;lia) ab ha hx q
theorem u_tdictGet {kvs:List (List (Str ⊕ Int) × V)} {ks:List (Str ⊕ Int)} (ha:H a=some (.tdict kvs)) (hv:dget kvs ks=some v) (q:Q v H):U2 B n getItem (.ref a) (nodeV ks) H Q:=fun A s x y ok R ab hx hy=>by
 have:x=.ref a:=hx;subst this;exact tr_tdict_get (by have:=room_units R;lia) ab ha hy hv q
theorem u_tdictSet {kvs:List (List (Str ⊕ Int) × V)} {ks:List (Str ⊕ Int)} {Q:AH→Prop} (ha:H a=some (.tdict kvs)) (hz:kvs.length≤100000) (q:Q (H.put a (.tdict (dput kvs ks v)))):US3 B n setItem (.ref a) (nodeV ks) v H Q:=fun A s x y z ok R ab hx hy hzc=>by
 have:x=.ref a:=hx;subst this;exact tr_tdict_set (by have:=room_units R;lia) ab ha hz hy hzc q
theorem u_getAttr {C:Cls} {d:Addr} {kvs:List (Str × V)} {name:Str} (ha:H a=some (.inst C d)) (hd:H d=some (.sdict kvs)) (hC:ClsOK B.K C.addr) (hn:AttrOK B.K C.addr name) (hv:dget kvs name=some v) (q:Q v H):U1 B n (fun y=>getAttr y name true) (.ref a) H Q:=fun A s x ok R ab hx=>by
 have:x=.ref a:=hx;subst this;exact tr_getAttr ok ab ha hd hC hn hv q
theorem u_setAttr {C:Cls} {d:Addr} {kvs:List (Str × V)} {name:Str} {Q:AH→Prop} (ha:H a=some (.inst C d)) (hd:H d=some (.sdict kvs)) (hC:ClsOK B.K C.addr) (hn:AttrOK B.K C.addr name) (hz:kvs.length≤100) (q:Q (H.put d (.sdict (dput kvs name v)))) :
  US B n (fun x y=>setAttr x name y) (.ref a) v H Q:=fun A s x y ok R ab hx hy=>by
 have:x=.ref a:=hx;subst this;exact tr_setAttr ok ab ha hd hC hn hz hy q
theorem c_tupleTup (q:Q (.tup vs) H):UC B n (.type "tuple") [.tup vs] H Q:=fun A s xs ok R ab hc=>by
 refine e1a2 (conc1 hc) fun x z45 hx=>?_;clear hc;subst z45;refine e3a3 (conc_tup hx) fun c ys m z46 ho hl=>?_;subst z46;exact call_tuple_same (isTuple_of ho) (fin_same ab hx q)
theorem c_tupleList (ha:H a=some (.list vs)) (hz:vs.length≤100000) (q:Q (.tup vs) H):UC B n (.type "tuple") [.ref a] H Q:=fun A s xs ok R ab hc=>by
 refine e1a2 (conc1 hc) fun x z47 hx=>?_;clear hc;subst z47;have:x=.ref a:=hx;subst this;refine e2a2 (ab.cell _ _ ha) fun ys m ho hl=>?_;refine call_tuple_list (IsL.isList (n:=m) ho) (fun h' hk=>?_) (by refine List.size_toArray▸?_;refine (hl.length).symm▸?_;exact line_ok hz);have hk2:∀ b o,s.heap.get? b=some o→(h'.push { cls:=.type "tuple",data:=.seq (List.toArray ys) }).get? b=some o:=fun b o e=>Heap.get?_push_of_some _ (hk b o e);exact fin_grown (tk:=s.toks) ab hk2 (v:=.tup vs) (conc_tup_mk (n:=0) ((ab.grown hk).notPriv (Nat.le_refl _)) (Heap.get?_push_size _ rfl) (hl.keep (.of_keeps hk2))) q
theorem c_listList (ha:H a=some (.list vs)) (hz:vs.length≤100000) (q:∀ c,H c=none→Q (.ref c) (H.put c (.list vs))):UC B n (.type "list") [.ref a] H Q:=fun A s xs ok R ab hc=>by
 refine e1a2 (conc1 hc) fun x z48 hx=>?_;clear hc;subst z48;have:x=.ref a:=hx;subst this;refine e2a2 (ab.cell _ _ ha) fun ys m ho hl=>?_;refine call_list_seq a (.inl rfl) ho rfl rfl (fun h' c' hk hn=>?_) (by refine List.size_toArray▸?_;refine (hl.length).symm▸?_;exact line_ok hz);exact fin_alloc (tk:=s.toks) ab hk (Nat.le_refl _) (cell_list (n:=c') hn rfl (hl.keep (.of_keeps hk))) q
theorem c_max2 (q:Q (.int (max i j)) H):UC B n (.builtin "max") [.int i,.int j] H Q:=fun A s xs ok R ab hc=>by
 refine e2a3 (conc2 hc) fun x y z51 z52 z53=>?_;clear hc;subst z51;obtain ⟨t,rfl⟩:=z52;obtain ⟨t2,rfl⟩:=z53;refine max_two_ints R.handled fun h' tk hk=>?_;have e:max i j=if j > i then j else i:=by simp only [Int.max_def];split <;> split <;> lia
 rw [e] at q;split <;> rename_i hji
 ·rw [if_pos hji] at q;exact fin_grown ab hk (v:=.int j) ⟨_,rfl⟩ q
 ·rw [if_neg hji] at q;exact fin_grown ab hk (v:=.int i) ⟨_,rfl⟩ q
theorem c_min2 (q:Q (.int (min i j)) H):UC B n (.builtin "min") [.int i,.int j] H Q:=fun A s xs ok R ab hc=>by
 refine e2a3 (conc2 hc) fun x y z56 z57 z58=>?_;clear hc;subst z56;obtain ⟨t,rfl⟩:=z57;obtain ⟨t2,rfl⟩:=z58;refine min_two_ints R.handled fun h' tk hk=>?_;have e:min i j=if j < i then j else i:=by simp only [Int.min_def];split <;> split <;> lia
 rw [e] at q;split <;> rename_i hji
 ·rw [if_pos hji] at q;exact fin_grown ab hk (v:=.int j) ⟨_,rfl⟩ q
 ·rw [if_neg hji] at q;exact fin_grown ab hk (v:=.int i) ⟨_,rfl⟩ q
end
section
open SeqAt
section
variable {B:Bs} {n:Nat} {H:AH} {Q:V→AH→Prop} {a b:Addr} {vs ws:List V} {v u:V} {i j:Int}
theorem u_eqInt (q:Q (.bool (decide (i=j))) H):U2 B n (compareOp .Eq) (.int i) (.int j) H Q:=fun A s x y ok R ab hx hy=>by
 obtain ⟨t,rfl⟩:=hx;obtain ⟨u,rfl⟩:=hy;exact P.eq_int (fin_same ab (v:=.bool _) rfl (by have:(i == j)=decide (i=j):=(by by_cases h:i=j <;> exact rfl);refine this▸?_;exact q))
theorem u_neInt (q:Q (.bool (decide (i≠j))) H):U2 B n (compareOp .NotEq) (.int i) (.int j) H Q:=fun A s x y ok R ab hx hy=>by
 obtain ⟨t,rfl⟩:=hx;obtain ⟨u,rfl⟩:=hy;exact PyProof.Rows.ne_int (fin_same ab (v:=.bool _) rfl (by have:(i != j)=decide (i≠j):=(by by_cases h:i=j <;> simp [h]);refine this▸?_;exact q))
theorem u_neIntNone (q:Q (.bool true) H):U2 B n (compareOp .NotEq) (.int i) .none H Q:=fun A s x y ok R ab hx hy=>by
 obtain ⟨t,rfl⟩:=hx;have:y=.none:=hy;subst this;exact EqNone.ne_int_none (fin_same ab (v:=.bool _) rfl q)
theorem u_neNoneInt (q:Q (.bool true) H):U2 B n (compareOp .NotEq) .none (.int i) H Q:=fun A s x y ok R ab hx hy=>by
 obtain ⟨t,rfl⟩:=hy;have:x=.none:=hx;subst this;exact EqNone.ne_none_int (fin_same ab (v:=.bool _) rfl q)
theorem u_neNoneNone (q:Q (.bool false) H):U2 B n (compareOp .NotEq) .none .none H Q:=fun A s x y ok R ab hx hy=>by
 have:x=.none:=hx;subst this;have:y=.none:=hy;subst this;exact EqNone.ne_none_none (fin_same ab (v:=.bool _) rfl q)
theorem u_eqStr {x y:Str} (q:Q (.bool (x == y)) H):U2 B n (compareOp .Eq) (.str x) (.str y) H Q:=fun A s x' y' ok R ab hx hy=>by
 obtain ⟨t,rfl⟩:=hx;obtain ⟨u,rfl⟩:=hy;exact PyProof.Rows.eq_str (fin_same ab (v:=.bool _) rfl q)
theorem u_neStr {x y:Str} (q:Q (.bool (x != y)) H):U2 B n (compareOp .NotEq) (.str x) (.str y) H Q:=fun A s x' y' ok R ab hx hy=>by
 obtain ⟨t,rfl⟩:=hx;obtain ⟨u,rfl⟩:=hy;exact PyProof.Rows.ne_str (fin_same ab (v:=.bool _) rfl q)
noncomputable def V.isNone:V→Bool
 | .none=>true
 | _=>false
theorem conc_notNone {h:Heap} {v:V} {y:Value} (hc:Conc B h v y) (hn:v.isNone=false):y≠.none:=by
 rcases v with _ | _ <;> simp only [V.isNone] at hn <;> simp only [Conc] at hc
 case none=>exact z_tf hn
 case bool=>subst hc;simp
 case int=>obtain ⟨t,rfl⟩:=hc;simp
 case str=>obtain ⟨t,rfl⟩:=hc;simp
 case ref=>subst hc;simp
 case tup=>refine e3a2 hc fun a xs n z11 u1_=>?_;clear hc;subst z11;simp
theorem u_is (q:Q (.bool v.isNone) H):U2 B n (compareOp .Is) v .none H Q:=fun A s x y ok R ab hx hy=>by
 have:y=.none:=hy;subst this;induction hv:v.isNone with
 | true=>
  have:v=.none:=by clear q hx;rcases v with _ | _ <;> simp_all [V.isNone]
  clear hv;subst this;have:x=.none:=hx;subst this;exact is_none_none (fin_same ab (v:=.bool _) rfl q)
 | false=>rw [hv] at q;exact is_none_ne (conc_notNone hx hv) (fin_same ab (v:=.bool _) rfl q)
theorem u_isNot (q:Q (.bool (!v.isNone)) H):U2 B n (compareOp .IsNot) v .none H Q:=fun A s x y ok R ab hx hy=>by
 have:y=.none:=hy;subst this;induction hv:v.isNone with
 | true=>
  have:v=.none:=by clear q hx;rcases v with _ | _ <;> simp_all [V.isNone]
  clear hv;subst this;have:x=.none:=hx;subst this;exact isnot_none_none (fin_same ab (v:=.bool _) rfl q)
 | false=>rw [hv] at q;exact isnot_none_ne (conc_notNone hx hv) (fin_same ab (v:=.bool _) rfl q)
theorem list_eqs {A:Around} {s:Shared} {items:List Value} {x:Value} {v:V} (R:Room n A) (hv:v.flat=true) (hd:V.deepL vs≤10) (hf:V.flatL vs=true) (hl:ConcL B s.heap vs items) (hx:Conc B s.heap v x) :
  ∃ e:Value→Bool,(∀ y∈items,EqAt A.in1 s y x (e y))∧items.any e=vs.any (fun w=>veq w v):=by
 classical
 have hall:∀ y∈items,∃ w∈vs,Conc B s.heap w y∧EqAt A.in1 s y x (veq w v):=by
  intro y hy;obtain ⟨i,hi,he⟩:=List.mem_iff_getElem.mp hy;have hi':i < vs.length:=by simp only [hl.length];exact hi
  refine e1a2 (hl.get (i:=i) (v:=vs[i]) (by simp [hi'])) fun y' hy' hc=>?_;have:y'=y:=by
   have h1:items[i]? = some y:=by simp [hi,he]
   replace h1:=hy'.symm.trans h1;clear hy' hc;refine z_sl h1 ?_;rfl
  clear hy he;subst this;have h1:=V.deep_get vs i vs[i] (by simp [hi']);have h2:=V.flat_get vs i vs[i] hf (by simp [hi']);exact i1a3 (vs[i]) (List.getElem_mem hi') hc (eqAt_V 10 A.in1 s vs[i] v y' x (by exact Nat.le_trans ‹_› ‹_›) h2 hv (by have:=room_units R;show A.units+1+10 < _;lia) hc hx)
 have key:∀ y∈items,∀ w∈vs,Conc B s.heap w y→decide (∃ w∈vs,Conc B s.heap w y∧veq w v=true)=veq w v:=by
  intro y hy w hw hc;rw [Bool.eq_iff_iff,decide_eq_true_eq];constructor
  ·intro z18;refine e1a3 z18 fun w' hw' hc' he=>?_;refine e1a1 (List.mem_iff_getElem?.mp hw) fun i hi=>?_;refine e1a1 (List.mem_iff_getElem?.mp hw') fun i' hi'=>?_;refine conc_inj (V.flat_get vs i w hf hi) (V.flat_get vs i' w' hf hi') hc hc'▸?_;exact he
  ·exact fun he=>i1a3 w hw hc he
 refine i1a2 (fun y=>decide (∃ w∈vs,Conc B s.heap w y∧veq w v=true)) (fun y hy=>?_) ?_
 ·refine e1a3 (hall y hy) fun w hw hc he=>?_;have:=key y hy w hw hc;dsimp only;simp only [this];exact he
 ·rw [Bool.eq_iff_iff,List.any_eq_true,List.any_eq_true];constructor
  ·intro z16;refine e1a2 z16 fun y hy he=>?_;refine e1a3 (of_decide_eq_true he) fun w hw u1_ he=>?_;exact i1a2 w hw he
  ·intro z14;refine e1a2 z14 fun w hw he=>?_;refine e1a1 (List.mem_iff_getElem?.mp hw) fun i hi=>?_;refine e1a2 (hl.get hi) fun y hy hc=>?_;exact ⟨y,List.mem_of_getElem? hy,decide_eq_true (i1a3 w hw hc he)⟩
theorem u_inList (ha:H a=some (.list vs)) (hv:v.flat=true) (hd:V.deepL vs≤10) (hf:V.flatL vs=true) (q:Q (.bool (vs.any fun w=>veq w v)) H):U2 B n (compareOp .In) v (.ref a) H Q:=fun A s x y ok R ab hx hy=>by
 have:y=.ref a:=hy;subst this;refine e2a2 (ab.cell _ _ ha) fun xs m ho hl=>?_;refine e1a2 (list_eqs R hv hd hf hl hx) fun e he hany=>?_;exact in_listAt e (IsL.isList (n:=m) ho) (fun y hy=>he y (by simpa using hy)) (fin_same ab (v:=.bool _) rfl (by refine List.any_toArray▸?_;refine hany▸?_;exact q))
theorem u_notInList (ha:H a=some (.list vs)) (hv:v.flat=true) (hd:V.deepL vs≤10) (hf:V.flatL vs=true) (q:Q (.bool (!vs.any fun w=>veq w v)) H):U2 B n (compareOp .NotIn) v (.ref a) H Q:=fun A s x y ok R ab hx hy=>by
 have:y=.ref a:=hy;subst this;refine e2a2 (ab.cell _ _ ha) fun xs m ho hl=>?_;refine e1a2 (list_eqs R hv hd hf hl hx) fun e he hany=>?_;exact notIn_listAt e (IsL.isList (n:=m) ho) (fun y hy=>he y (by simpa using hy)) (fin_same ab (v:=.bool _) rfl (by refine List.any_toArray▸?_;refine hany▸?_;exact q))
theorem ints_flat (ns:List Int):V.flatL (ns.map V.int)=true∧V.deepL (ns.map V.int)≤1:=by
 induction ns with
 | nil=>exact ⟨rfl,by decide⟩
 | cons k ns ih=>exact ⟨Bool.and_eq_true_iff.mpr ⟨rfl,ih.1⟩,Nat.max_le.mpr ⟨Nat.zero_le _,ih.2⟩⟩
theorem list_cmp {A:Around} {s:Shared} {xs ys:List Value} (R:Room n A) (hd:V.deepL vs≤10) (hf:V.flatL vs=true) (hg:V.flatL ws=true) (hl:ConcL B s.heap vs xs) (hm:ConcL B s.heap ws ys) :
  ∀ j (h1:j < (List.toArray xs).size) (h2:j < (List.toArray ys).size),EqAt A.in1 s (List.toArray xs)[j] (List.toArray ys)[j] (veq (vs.getD j .none) (ws.getD j .none)):=by
 intro j h1 h2;have h1':j < vs.length:=by simp only [hl.length];simpa using h1
 have h2':j < ws.length:=by simp only [hm.length];simpa using h2
 refine e1a2 (hl.get (i:=j) (v:=vs[j]) (by simp [h1'])) fun x hx hcx=>?_;refine e1a2 (hm.get (i:=j) (v:=ws[j]) (by simp [h2'])) fun y hy hcy=>?_;have ex:(List.toArray xs)[j]=x:=by
  have:xs[j]? = some ((List.toArray xs)[j]):=by simp
  replace this:=hx.symm.trans this;exact (Option.some.inj this).symm
 have ey:(List.toArray ys)[j]=y:=by
  have:ys[j]? = some ((List.toArray ys)[j]):=by simp
  replace this:=hy.symm.trans this;exact (Option.some.inj this).symm
 refine ex▸?_;refine ey▸?_;have e1:vs.getD j .none=vs[j]:=by simp [List.getD,h1']
 have e2:ws.getD j .none=ws[j]:=by simp [List.getD,h2']
 simp only [e1,e2];have d1:=V.deep_get vs j vs[j] (by simp [h1']);exact eqAt_V 10 A.in1 s _ _ x y (by exact Nat.le_trans ‹_› ‹_›) (V.flat_get vs j _ hf (by simp [h1'])) (V.flat_get ws j _ hg (by simp [h2'])) (by have:=room_units R;show A.units+1+10 < _;lia) hcx hcy
theorem u_eqList (ha:H a=some (.list vs)) (hb:H b=some (.list ws)) (hd:V.deepL vs≤10) (hf:V.flatL vs=true) (hg:V.flatL ws=true) (q:Q (.bool (veqL vs ws)) H):U2 B n (compareOp .Eq) (.ref a) (.ref b) H Q:=fun A s x y ok R ab hx hy=>by
 have:x=.ref a:=hx;subst this;have:y=.ref b:=hy;subst this;refine e2a2 (ab.cell _ _ ha) fun xs m ho hl=>?_;refine e2a2 (ab.cell _ _ hb) fun ys m2 ho2 hl2=>?_;rw [veqL_range] at q;by_cases hz:vs.length=ws.length
 ·refine eq_listAt (IsL.isList (n:=m) ho) (IsL.isList (n:=m2) ho2) (by simp [← hl.length,← hl2.length,hz]) (by have:=room_units R;lia) (list_cmp R hd hf hg hl hl2) (fin_same ab (v:=.bool _) rfl ?_);rw [hz] at q;simp only [Nat.min_self,beq_self_eq_true,Bool.and_true] at q;simp only [List.size_toArray,← hl.length,hz];exact q
 ·refine eq_list_lengthsAt (IsL.isList (n:=m) ho) (IsL.isList (n:=m2) ho2) (by simp [← hl.length,← hl2.length,hz]) (by have:=room_units R;lia) (fin_same ab (v:=.bool _) rfl ?_);have:(vs.length == ws.length)=false:=by simpa using hz
  rw [this,Bool.and_false] at q;exact q
theorem u_neList (ha:H a=some (.list vs)) (hb:H b=some (.list ws)) (hd:V.deepL vs≤10) (hf:V.flatL vs=true) (hg:V.flatL ws=true) (q:Q (.bool (!veqL vs ws)) H):U2 B n (compareOp .NotEq) (.ref a) (.ref b) H Q:=fun A s x y ok R ab hx hy=>by
 have:x=.ref a:=hx;subst this;have:y=.ref b:=hy;subst this;refine e2a2 (ab.cell _ _ ha) fun xs m ho hl=>?_;refine e2a2 (ab.cell _ _ hb) fun ys m2 ho2 hl2=>?_;rw [veqL_range] at q;by_cases hz:vs.length=ws.length
 ·refine (RcNeAt.lists (IsL.isList (n:=m) ho) (IsL.isList (n:=m2) ho2) (by simp [← hl.length,← hl2.length,hz]) (by have:=room_units R;lia) (list_cmp R hd hf hg hl hl2)) _ _ _ _ (fin_same ab (v:=.bool _) rfl ?_);rw [hz] at q;simp only [Nat.min_self,beq_self_eq_true,Bool.and_true] at q;simp only [List.size_toArray,← hl.length,hz];exact q
 ·refine (RcNeAt.lists_lengths (IsL.isList (n:=m) ho) (IsL.isList (n:=m2) ho2) (by simp [← hl.length,← hl2.length,hz]) (by have:=room_units R;lia)) _ _ _ _ (fin_same ab (v:=.bool _) rfl ?_);have:(vs.length == ws.length)=false:=by simpa using hz
  rw [this,Bool.and_false] at q;exact q
theorem intItems_of {h:Heap}:∀ {ns:List Int} {xs:List Value},ConcL B h (ns.map V.int) xs→∃ ps:List (Int × Tok),xs=ps.map (fun p=>Value.int p.1 p.2)∧ps.map (·.1)=ns:=by
 intro ns;induction ns with
 | nil=>
  intro xs h;have:xs=[]:=h;subst this;exact i1a2 ([]) rfl rfl
 | cons k ns ih_=>
  intro xs h;refine e2a3 h fun x r z22 z23 h2=>?_;clear h;subst z22;obtain ⟨t,rfl⟩:=z23;refine e1a2 (ih_ h2) fun ps z20 e=>?_;clear h2;subst z20;exact ⟨(k,t)::ps,rfl,by simp only [List.map_cons,e]⟩
theorem preSum_list:∀ (ps:List (Int × Tok)) (k:Nat),k≤ps.length→preSum (numAt (List.toArray ps)) k=((ps.map (·.1)).take k).sum:=by
 intro ps k;induction k with
 | zero=>
  intro h_;exact rfl
 | succ k ih_=>
  intro h;simp only [preSum,ih_ (by exact y51 (by assumption)),List.take_add_one];have hk:k < ps.length:=h;simp [numAt,hk]
theorem c_sum {ns:List Int} (ha:H a=some (.list (ns.map V.int))) (q:Q (.int ns.sum) H):UC B n (.builtin "sum") [.ref a] H Q:=fun A s xs ok R ab hc=>by
 refine e1a2 (conc1 hc) fun x z25 hx=>?_;clear hc;subst z25;have:x=.ref a:=hx;subst this;refine e2a2 (ab.cell _ _ ha) fun ys m ho hl=>?_;refine e1a2 (intItems_of hl) fun ps z24 e=>?_;clear hl;subst z24;have hL:s.heap.IsList a (intItems (List.toArray ps)):=by
  have:=IsL.isList (n:=m) ho;simpa [intItems] using this
 refine sum_intListG R.handled hL fun h' tk t' hk=>?_;have:preSum (numAt (List.toArray ps)) (List.toArray ps).size=ns.sum:=by
  simp only [List.size_toArray,preSum_list ps ps.length (Nat.le_refl _),← e];rw [List.take_of_length_le (by simp)]
 refine this▸?_;exact fin_grown ab hk (v:=.int ns.sum) ⟨_,rfl⟩ q
theorem argBest_max {ps:List (Int × Tok)}:∀ k,k < ps.length→argBest (fun i j=>decide (numAt (List.toArray ps) i > numAt (List.toArray ps) j)) k≤k∧∀ j,j≤k→numAt (List.toArray ps) j≤numAt (List.toArray ps) (argBest (fun i j=>decide (numAt (List.toArray ps) i > numAt (List.toArray ps) j)) k):=by
 intro k;induction k with
 | zero=>
  intro h;simp [argBest]
 | succ k ih_=>
  intro h;refine e0a2 (ih_ (by exact y53 (by assumption))) fun h1 h2=>?_;simp only [argBest];split
  ·rename_i hb;simp only [decide_eq_true_eq] at hb;refine ⟨Nat.le_refl _,fun j hj=>?_⟩;by_cases e:j=k+1
   ·clear hj;subst e;exact Int.le_refl _
   ·exact Int.le_trans (h2 j (y78 hj e)) (Int.le_of_lt hb)
  ·rename_i hb;simp only [decide_eq_true_eq] at hb;refine ⟨by exact Nat.le_succ_of_le ‹_›,fun j hj=>?_⟩;by_cases e:j=k+1
   ·clear hj;subst e;exact Int.not_lt.mp hb
   ·exact h2 j (y78 hj e)
theorem c_maxList {ns:List Int} {m:Int} (ha:H a=some (.list (ns.map V.int))) (hm:m∈ns) (hmax:∀ x∈ns,x≤m) (q:Q (.int m) H):UC B n (.builtin "max") [.ref a] H Q:=fun A s xs ok R ab hc=>by
 refine e1a2 (conc1 hc) fun x z29 hx=>?_;clear hc;subst z29;have:x=.ref a:=hx;subst this;refine e2a2 (ab.cell _ _ ha) fun ys m' ho hl=>?_;refine e1a2 (intItems_of hl) fun ps z28 e=>?_;clear hl;subst z28;have hL:s.heap.IsList a (intItems (List.toArray ps)):=by
  have:=IsL.isList (n:=m') ho;simpa [intItems] using this
 have hpos:0 < ps.length:=by
  have:=List.length_pos_of_mem hm;rw [← e,List.length_map] at this;exact this
 refine max_intList R.handled hL (by simpa using hpos) fun v h' tk hv hk=>?_;refine e1a1 (intItems_at hv) fun t z27=>?_;subst z27;refine e0a2 (argBest_max (ps:=ps) (ps.length - 1) (y75 hpos)) fun b1 b2=>?_;rw [List.size_toArray] at hv ⊢;have at_:∀ j,j < ps.length→numAt (List.toArray ps) j∈ns:=fun j hj=>by
  rw [← e];refine List.mem_map.mpr (i1a2 (ps[j]) (List.getElem_mem hj) ?_);simp [numAt,hj]
 have hle:numAt (List.toArray ps) (argBest (fun i j=>decide (numAt (List.toArray ps) i > numAt (List.toArray ps) j)) (ps.length - 1))≤m:=hmax _ (at_ _ (Nat.lt_of_le_of_lt b1 (y75 hpos)));have hge:m≤numAt (List.toArray ps) (argBest (fun i j=>decide (numAt (List.toArray ps) i > numAt (List.toArray ps) j)) (ps.length - 1)):=by
  rw [← e] at hm;refine e1a2 (List.mem_map.mp hm) fun p hp z26=>?_;clear hmax q hm hle;subst z26;refine e1a1 (List.mem_iff_getElem?.mp hp) fun j hj=>?_;have hj':j < ps.length:=(List.getElem?_eq_some_iff.mp hj).1;have:=b2 j (by exact y32 (by assumption));simpa [numAt,hj] using this
 have:numAt (List.toArray ps) (argBest (fun i j=>decide (numAt (List.toArray ps) i > numAt (List.toArray ps) j)) (ps.length - 1))=m:=Int.le_antisymm hle hge;refine this▸?_;exact fin_grown ab hk (v:=.int m) ⟨_,rfl⟩ q
theorem intsAre_of {h:Heap}:∀ {ns:List Int} {xs:List Value},ConcL B h (ns.map V.int) xs→IntsAre xs ns:=by
 intro ns;induction ns with
 | nil=>
  intro xs h;have:xs=[]:=h;subst this;exact .nil
 | cons k ns ih_=>
  intro xs h;refine e2a3 h fun x r z31 z32 h2=>?_;clear h;subst z31;obtain ⟨t,rfl⟩:=z32;exact .cons k t (ih_ h2)
theorem conc_ints {h:Heap}:∀ {ns:List Int} {xs:List Value},IntsAre xs ns→ConcL B h (ns.map V.int) xs:=by
 intro ns xs r_;induction r_ with
 | nil=>
  exact rfl
 | cons k t r ih_=>
  exact i2a3 _ _ rfl ⟨t,rfl⟩ (ih_)
theorem c_sortedInts {ns:List Int} (ha:H a=some (.list (ns.map V.int))) (hz:ns.length < 64) (q:∀ (c:Addr) (ms:List Int),H c=none→ms.Perm ns→ms.Pairwise (·≤·)→Q (.ref c) (H.put c (.list (ms.map V.int)))):UC B n (.builtin "sorted") [.ref a] H Q:=fun A s xs ok R ab hc=>by
 refine e1a2 (conc1 hc) fun x z33 hx=>?_;clear hc;subst z33;have:x=.ref a:=hx;subst this;refine e2a2 (ab.cell _ _ ha) fun ys m' ho hl=>?_;refine sorted_ints (IsL.isList (n:=m') ho) (intsAre_of hl) (by refine (hl.length).symm▸?_;simpa using hz) fun out ms hI hp hs=>?_;obtain ⟨e,he⟩:=sortedAll_at s.heap ys out;have hk:∀ b o,s.heap.get? b=some o→(sortedAll s.heap ys out).get? b=some o:=fun b o e=>sortedAll_old e;exact fin_alloc (tk:=s.toks) ab hk (Nat.le_succ _) (cell_list (n:=e) he rfl (conc_ints hI)) fun c hc=>q c ms hc hp hs
theorem c_intInt (q:Q (.int i) H):UC B n (.type "int") [.int i] H Q:=fun A s xs ok R ab hc=>by
 refine e1a2 (conc1 hc) fun x z35 z36=>?_;clear hc;subst z35;refine e1a1 z36 fun t z15=>?_;clear z36;subst z15;exact call_int_int (fin_same ab (v:=.int i) ⟨t,rfl⟩ q)
theorem c_strInt (hi:i.natAbs.log2 < 1920) (q:∀ x,Q (.str x) H):UC B n (.type "str") [.int i] H Q:=fun A s xs ok R ab hc=>by
 refine e1a2 (conc1 hc) fun x z38 z39=>?_;clear hc;subst z38;refine e1a1 z39 fun t z16=>?_;clear z39;subst z16;exact PySem.P.str_of_int hi (fin_tok ab (v:=.str _) ⟨_,rfl⟩ (q _))
theorem m_isspace {x:Str}:Mth B H (.str x) "isspace" (.builtin "str.isspace"):=.builtin (T:="str") rfl PySem.F.plainAttrs_str PySem.F.slot_str_isspace PySem.F.type_str_isspace
theorem c_isspace {x:Str} (q:Q (.bool (x.length > 0 && x.cps.all Unicode.isSpace)) H):UC B n (.builtin "str.isspace") [.str x] H Q:=fun A s xs ok R ab hc=>by
 refine e1a2 (conc1 hc) fun y z41 z42=>?_;clear hc;subst z41;refine e1a1 z42 fun t z17=>?_;clear z42;subst z17;exact call_gives PySem.F.slot_str_isspace (typeIs_str s x t) PySem.F.entry_str_isspace (PySem.F.args_str_isspace_1 _) (PySem.gives_str_isspace x t) (fin_same ab (v:=.bool _) rfl q)
end
end
section
open SeqAt
section
variable {B:Bs} {n:Nat} {sc:Scope} {ρ:Rho} {H:AH} {Q:V→AH→Prop} {a b:Addr} {vs ws:List V} {v u:V} {i j:Int}
theorem u_inStr {x y:Str} (q:Q (.bool (!(Builtin.Str.occurrences x y 0 x.length 1).isEmpty)) H):U2 B n (compareOp .In) (.str y) (.str x) H Q:=fun A s x' y' ok R ab hx hy=>by
 obtain ⟨t,rfl⟩:=hx;obtain ⟨u,rfl⟩:=hy;exact PyProof.Rows.in_str (fin_same ab (v:=.bool _) rfl q)
theorem u_strGet {x:Str} {i:Int} {c:Nat} (hr:(decide (i < -(2 ^ 63:Int)) || decide (i ≥ 2 ^ 63))=false) (hc:(seqIndex? i x.length).bind (x.cps[·]?)=some c) (q:Q (.str ⟨#[c]⟩) H):U2 B n getItem (.str x) (.int i) H Q:=fun A s x' y' ok R ab hx hy=>by
 obtain ⟨t,rfl⟩:=hx;obtain ⟨u,rfl⟩:=hy;exact PySem.P.getItem_str hr hc (fin_tok ab (v:=.str _) ⟨_,rfl⟩ q)
noncomputable def signs (x:Str):List V:=x.cps.toList.map fun c=>V.str ⟨#[c]⟩
theorem src_str {tg:Expr} {I:Addr} {x:Str} {t:Tok}:Src B tg (fun u1_=>True) (signs x) (.ref I) [I] (fun i h=>h.IsStrIter I "str_ascii_iterator" x t i∧¬ B.priv I) where
 frame:=fun i h h' y kt k=>⟨e1a2 y.1 fun o ho r=>(i1a2 o (k I z_m0 _ ho) r),y.2⟩
 next:=fun i v A s H hh ab live hf z7 hi=>e0a2 z7 fun hit hpI=>by
  have hi':i < x.cps.size:=by
   have:=(List.getElem?_eq_some_iff.mp hi).1;simpa [signs] using this
  have hv:v=.str ⟨#[x.cps[i]]⟩:=by simp [signs,hi'] at hi;exact hi.symm
  clear hi;subst hv;refine wpAny_pyNext_ascii_item hit (c:=x.cps[i]) (by simp [hi']) fun h' hit' hs=>i1a2 _ rfl ?_;refine e1a3 hit fun o ho hc hd=>?_;refine e1a3 (id hit') fun o' ho' hc' u2_=>?_;refine e0a3 (off1 (tk:=s.toks+1) ab hf hpI (h':=h') (fun b o hb e=>by refine hs.2 b hb▸?_;exact e) (fun o2 e xs n e2=>by
   replace e:=ho.symm.trans e;cases e;replace e2:=hd.symm.trans e2;cases e2)) fun a' kt st=>?_
  exact noOwn (s:={ s with heap:=h',toks:=s.toks+1 }) ho' hc' (by decide) ⟨a',st,⟨hit',hpI⟩,_,rfl⟩
 done:=fun A s H hh ab live hf z8=>e0a2 z8 fun hit hpI=>by
  refine wpAny_pyNext_ascii_end hh hit (by simp [signs]) fun h' hs=>⟨rfl,?_⟩
  refine e1a3 hit fun o ho hc hd=>?_;refine e0a3 (off1 (tk:=s.toks) ab hf hpI (h':=h') (fun b o hb e=>hs b o hb e) (fun o2 e xs n e2=>by
   replace e:=ho.symm.trans e;cases e;rw [hd] at e2;cases e2)) fun a' kt st=>?_
  exact ⟨a',st⟩
 there:=fun i h x b hb=>by replace hb:=List.mem_singleton.mp hb;subst hb;obtain ⟨⟨o,ho,u3_⟩,u4_⟩:=x;exact ⟨o,ho⟩
 self:=fun i A s Q hit q=>wpAny_pyIter_striter_ascii hit.1 q
theorem UI.str {tg:Expr} {x:Str} {Q:QT} (ha:x.cps.all (· < 128)=true) (q:Q B.priv (signs x) (fun u1_=>True) H):UI B n tg (.str x) H Q:=by
 intro A s y ok R ab hc;obtain ⟨t,rfl⟩:=hc;refine wpAny_pyIter_ascii ha ?_;have hk:∀ b o,s.heap.get? b=some o→(s.heap.push { cls:=.type "str_ascii_iterator",data:=.fields #[.str x t,.int 0 0] }).get? b=some o:=fun b o e=>Heap.get?_push_of_some _ e;refine ⟨B.priv,H,_,_,[s.heap.objs.size],_,.refl,ab.grown hk,.grown (tk:=s.toks) hk,src_str (B:=B) (x:=x) (t:=t),⟨i1a3 _ (Heap.get?_push_size _ rfl) rfl rfl,ab.notPriv (Nat.le_refl _)⟩,?_,?_,q⟩
 ·intro b hb;simp only [List.mem_singleton] at hb;subst hb;exact Heap.get?_none_of_le (Nat.le_refl _)
 ·intro b hb;simp only [List.mem_singleton] at hb;subst hb;exact let f:=fresh_fp ab (Nat.le_refl _);(i0a3 f.1 f.2.1 f.2.2.1)
theorem range_ok {tg:Expr} {Q:QT} {A:Around} {s s':Shared} {lo:Int} {k:Nat} {r:Addr} {t1 t2 t3:Tok} (ab:Abs B s.heap H) (hr:IsRange s'.heap r lo (lo+k) 1 t1 t2 t3) (a':Abs B s'.heap H) (st:St B [] s H s' H)
  (h1:-(2 ^ 62)≤lo∧lo < 2 ^ 62) (h2:lo+k < 2 ^ 62) (q:Q B.priv (irange lo k) (fun u1_=>True) H):wpAny B.M A (pyIter (.ref r)) (fun it s2=>ItPost B tg s H Q it s2) (fun u2_ u3_=>False) s':=by
 have hsz:Builtin.Range.rangeSize lo (lo+k) 1=(k:Int):=by
  rw [rangeSize_nat,Int.add_comm,Int.add_sub_cancel];rfl
 refine wpAny_pyIter_range hr (small_one h1.1 h1.2 (Int.le_trans h1.1 (Int.le_add_of_nonneg_right (Int.natCast_nonneg k))) h2) ?_;rw [hsz];have hk:∀ b o,s'.heap.get? b=some o→(s'.heap.push { cls:=.type "range_iterator",data:=.fields #[rawInt lo,rawInt k,rawInt 1] }).get? b=some o:=fun b o e=>Heap.get?_push_of_some _ e;refine ⟨B.priv,H,irange lo k,fun u4_=>True,[s'.heap.objs.size],_,.refl,a'.grown hk,st.trans (.grown (tk:=s'.toks) hk),src_range (B:=B) (a:=lo) (n:=k),⟨?_,a'.notPriv (Nat.le_refl _)⟩,?_,?_,q⟩
 ·show IsRangeIter _ _ _ _ _;have e1:lo+((0:Nat):Int) * 1=lo:=by simp
  have e2:(k:Int) - ((0:Nat):Int)=k:=rfl;simp only [e1,e2];exact Heap.get?_push_size _ rfl
 ·intro b hb;simp only [List.mem_singleton] at hb;subst hb;induction hq:s.heap.get? s'.heap.objs.size with
  | none=>rfl
  | some o=>
   refine e1a1 (st.live _ o hq (fun h=>nomatch h)) fun o' e'=>?_;exact absurd (Heap.lt_size e') (Nat.lt_irrefl _)
 ·intro b hb;simp only [List.mem_singleton] at hb;subst hb;exact let f:=fresh_fp a' (Nat.le_refl _);(i0a3 f.1 f.2.1 f.2.2.1)
theorem UCI.range1 {tg:Expr} {k:Nat} {Q:QT} (hk:k < 2 ^ 61) (q:Q B.priv (irange 0 k) (fun u1_=>True) H):UCI B n tg (.type "range") [.int k] H Q:=by
 intro A s xs ok R ab hc;refine e1a2 (conc1 hc) fun x z9 z10=>?_;clear hc;subst z9;obtain ⟨t,rfl⟩:=z10;refine call_range_1 ?_;have hg:∀ b o,s.heap.get? b=some o→(s.heap.push { cls:=.type "range",data:=.fields #[.int 0 s.toks,.int k t,.int 1 (s.toks+1)] }).get? b=some o:=fun b o e=>Heap.get?_push_of_some _ e;exact range_ok (k:=k) (lo:=0) (t1:=s.toks) (t2:=t) (t3:=s.toks+1) ab (by simp only [Int.zero_add];exact Heap.get?_push_size _ rfl) (ab.grown hg) (.grown hg) (by decide) (by lia) q
theorem UCI.range2 {tg:Expr} {lo:Int} {k:Nat} {hi:Int} {Q:QT} (he:hi=lo+k) (hk:k < 2 ^ 61) (hl:0≤lo∧lo < 2 ^ 61) (q:Q B.priv (irange lo k) (fun u1_=>True) H):UCI B n tg (.type "range") [.int lo,.int hi] H Q:=by
 intro A s xs ok R ab hc;subst he;refine e2a3 (conc2 hc) fun x y z13 z14 z15=>?_;clear hc;subst z13;obtain ⟨t,rfl⟩:=z14;obtain ⟨t2,rfl⟩:=z15;refine call_range_2 ?_;have hg:∀ b o,s.heap.get? b=some o→(s.heap.push { cls:=.type "range",data:=.fields #[.int lo t,.int (lo+k) t2,.int 1 s.toks] }).get? b=some o:=fun b o e=>Heap.get?_push_of_some _ e;exact range_ok (k:=k) (lo:=lo) (t1:=t) (t2:=t2) (t3:=s.toks) ab (Heap.get?_push_size _ rfl) (ab.grown hg) (.grown hg) (by lia) (by lia) q
theorem slice_ev {o sl:Expr} {pos:Pos} {T:String} (hT4:T="list"∨T="tuple"∨T="dict"∨T="str") {env:Env} {A:Around} {s:Shared} (hs:∀ o' i',subscripted sl false o' i'=operate [i',o'] (getItem o' i'))
  (h:wpAny B.M A (eval o env) (fun y s1=>wpAny B.M A (eval sl env) (fun z s2=>s2.TypeIs y T∧wpAny B.M A (getItem y z) (TrP B [] s H (Ret B Q)) (fun u1_ u2_=>False) s2) (fun u3_ u4_=>False) s1) (fun u5_ u6_=>False) s) :
  Tr B A [] (eval (.Subscript o sl pos) env) H s (Ret B Q):=by
 simp only [arm_eval_Subscript];refine wpAny_bind (wpAny_mono h (fun y s1 h1=>?_) fun u7_ u8_ e=>e);refine wpAny_bind (wpAny_holding (wpAny_mono h1 (fun z s2 z13=>e0a2 z13 fun hT h2=>wpAny_bind (wpAny_standAt ?_)) fun u9_ u10_ e=>e));refine e1a1 (getitem_look hT4) fun id hid=>?_;refine wpAny_bind ?_;refine getitemInPython_of_ne hT.not_modules▸?_;refine wpAny_bind (wpAny_specialOf hT hid ?_);refine wpAny_pure ?_;rw [hs];refine wpAny_bind (wpAny_operateT (wpAny_mono h2 (fun r s3 h3=>?_) fun u11_ u12_ e=>e));exact wpAny_bind (wpAny_letTemporaryGo (wpAny_pure h3))
theorem concL_drop1 {vs:List V} {xs:List Value} {h:Heap} (c:ConcL B h vs xs):ConcL B h (vs.drop 1) (xs.drop 1):=by
 induction vs with
 | nil=>have:xs=[]:=c;subst this;rfl
 | cons v r=>refine e2a3 c fun x ys z16 u1_ c2=>?_;clear c;clear tail_ih;subst z16;exact c2
theorem concL_take {h:Heap}:∀ {vs:List V} {xs:List Value} {k:Nat},ConcL B h vs xs→ConcL B h (vs.take k) (xs.take k):=by
 intro vs;induction vs with
 | nil=>
  intro xs k c;have:xs=[]:=c;subst this;simp;rfl
 | cons v vs ih_=>
  intro xs k c;induction k with
  | zero=>
   simp;rfl
  | succ k=>
   refine e2a3 c fun x ys z17 h1 h2=>?_;clear c;clear a;subst z17;exact i2a3 x (ys.take k) rfl h1 (ih_ h2)
theorem Ev.from1 {o:Expr} {k:Nat} {p1 p2 pos:Pos} (h:Ev B n sc o ρ H fun u H1=>∃ vs,u=.tup vs∧1≤vs.length∧vs.length≤100000∧Q (.tup (vs.drop 1)) H1) :
  Ev B n sc (.Subscript o (.Slice (some (.Constant (.int 1) k p1)) none none p2) pos) ρ H Q:=by
 refine ⟨fun env A s ok he R a F=>?_⟩;refine slice_ev (T:="tuple") (by decide) (fun u1_ u2_=>rfl) ?_;refine Tr.out (h.run env A s ok he R a F) fun y H1 s1 a1 st1 z13=>?_;obtain ⟨u,hu,vs,e,h1,h2,q⟩:=z13;subst e;refine e3a3 (conc_tup hu) fun c xs m z20 ho hl=>?_;clear hu;subst z20;refine wpAny_Slice (wpAny_mkInt (wpAny_pure (wpAny_pure ?_)));have hk:∀ b o,s1.heap.get? b=some o→(s1.heap.push { cls:=.type "slice",data:=.fields #[.int 1 s1.toks,.none,.none] }).get? b=some o:=fun b o e=>Heap.get?_push_of_some _ e;refine ⟨(isTuple_of (hk _ _ ho)).typeIs,?_⟩;refine getItem_tuple_from (items:=List.toArray xs) (a:=1) (isTup_of (hk _ _ ho)) (Heap.IsSliceOf.new ..) (Nat.le_refl _) (by simp only [List.size_toArray,← hl.length];exact h1) ?_ (by simp only [List.size_toArray,← hl.length];exact line_ok h2);have hk2:∀ b o,s1.heap.get? b=some o→((s1.heap.push { cls:=.type "slice",data:=.fields #[.int 1 s1.toks,.none,.none] }).push { cls:=.type "tuple",data:=.seq ((List.toArray xs).toList.drop 1).toArray }).get? b=some o:=fun b o e=>Heap.get?_push_of_some _ (hk b o e);obtain ⟨H',p1,p2,p3⟩:=fin_grown (X:=[]) (tk:=s1.toks+1) a1 hk2 (v:=.tup (vs.drop 1)) (conc_tup_mk (n:=0) ((a1.grown hk).notPriv (Nat.le_refl _)) (Heap.get?_push_size _ rfl) ((concL_drop1 hl).keep (.of_keeps hk2))) q;exact ⟨H',p1,st1.trans p2,p3⟩
theorem Ev.upto {o:Expr} {m:Nat} {k:Nat} {p1 p2 pos:Pos} (h:Ev B n sc o ρ H fun u H1=>∃ a xs ns,u=.ref a∧B.h0.IsList a (List.toArray xs)∧IntsAre xs ns∧ns.length≤100000∧∀ c,H1 c=.none→Q (.ref c) (H1.put c (.list ((ns.map V.int).take m)))) :
  Ev B n sc (.Subscript o (.Slice none (some (.Constant (.int m) k p1)) none p2) pos) ρ H Q:=by
 refine ⟨fun env A s ok he R a F=>?_⟩;refine slice_ev (T:="list") (Or.inl rfl) (fun u1_ u2_=>rfl) ?_;refine Tr.out (h.run env A s ok he R a F) fun y H1 s1 a1 st1 z18=>?_;obtain ⟨u,hu,l,xs,ns,e,hL,hI,h2,q⟩:=z18;subst e;have:y=.ref l:=hu;subst this;have hL1:s1.heap.IsList l (List.toArray xs):=hL.at fun o e=>a1.keep l o e;have hl:ConcL B s1.heap (ns.map V.int) xs:=conc_ints hI;have h3:(ns.map V.int).length≤100000:=by simpa using h2
 refine wpAny_Slice (wpAny_pure (wpAny_mkInt (wpAny_pure ?_)));have hk:∀ b o,s1.heap.get? b=some o→(s1.heap.push { cls:=.type "slice",data:=.fields #[.none,.int m s1.toks,.none] }).get? b=some o:=fun b o e=>Heap.get?_push_of_some _ e;refine ⟨(hL1.push _).typeIs,?_⟩;refine wpAny_getItem_list_slice (lo:=.none) (hi:=some (m:Int)) (st:=.none) (hL1.push _) (Heap.IsSliceOf.new ..) .none (.int _ _) .none (by decide) ?_ (by simp only [List.size_toArray,← hl.length];exact line_ok h3);have hpick:slicePick (List.toArray xs) .none (some (m:Int)) .none=(xs.take m).toArray:=by
  have e:sliceBounds .none (some (m:Int)) .none (List.toArray xs).size=(((0:Nat):Int),((min m (List.toArray xs).size:Nat):Int),1):=by
   simp only [sliceBounds,Option.getD_none,show (1:Int) > 0 by decide,if_true,if_neg (show ¬ ((m:Int) < 0) by simp)];congr 1;congr 1;exact (Int.max_eq_right (Int.le_min.mpr ⟨Int.natCast_nonneg _,Int.natCast_nonneg _⟩)).trans (Lean.Omega.Int.ofNat_min _ _).symm
  unfold slicePick;refine e▸?_;simp only [sliceRange_one,pick_run];simp only [List.size_toArray,Nat.sub_zero,List.drop_zero];by_cases h:m≤xs.length
  ·rw [Nat.min_eq_left h]
  ·rw [Nat.min_eq_right (by lia),List.take_of_length_le (Nat.le_refl _),List.take_of_length_le (by lia)]
 refine hpick▸?_;have hk2:∀ b o,s1.heap.get? b=some o→((s1.heap.push { cls:=.type "slice",data:=.fields #[.none,.int m s1.toks,.none] }).push { cls:=.type "list",data:=.seq (xs.take m).toArray }).get? b=some o:=fun b o e=>Heap.get?_push_of_some _ (hk b o e);obtain ⟨H',p1,p2,p3⟩:=fin_alloc (X:=[]) (tk:=s1.toks+1) (c:=.list ((ns.map V.int).take m)) a1 hk2 (a:=(s1.heap.push { cls:=.type "slice",data:=.fields #[.none,.int m s1.toks,.none] }).objs.size) (by simp only [Heap.size_push];exact Nat.le_succ _) (cell_list (n:=0) (Heap.get?_push_size _ rfl) rfl ((concL_take hl).keep (.of_keeps hk2))) q;exact ⟨H',p1,st1.trans p2,p3⟩
theorem Ev.dict0 {pos:Pos} (q:∀ c,H c=.none→Q (.ref c) (H.put c (.idict []))):Ev B n sc (.Dict [] [] pos) ρ H Q:=by
 refine ⟨fun env A s ok he R a F=>?_⟩;refine wpAny_Dict_empty ?_;have hk:∀ b o,s.heap.get? b=some o→(s.heap.push { cls:=.type "dict",data:=.dict #[] }).get? b=some o:=fun b o e=>Heap.get?_push_of_some _ e;exact fin_alloc (tk:=s.toks) (c:=.idict []) a hk (Nat.le_refl _) (i1a2 ([]) (Heap.DictOf.new _) .nil) q
theorem Ev.dict0T {pos:Pos} (q:∀ c,H c=.none→Q (.ref c) (H.put c (.tdict []))):Ev B n sc (.Dict [] [] pos) ρ H Q:=by
 refine ⟨fun env A s ok he R a F=>?_⟩;refine wpAny_Dict_empty ?_;have hk:∀ b o,s.heap.get? b=some o→(s.heap.push { cls:=.type "dict",data:=.dict #[] }).get? b=some o:=fun b o e=>Heap.get?_push_of_some _ e;exact fin_alloc (tk:=s.toks) (c:=.tdict []) a hk (Nat.le_refl _) ⟨[],⟨_,_,_,Heap.get?_push_size _ rfl,i0a3 rfl rfl rfl,rfl,rfl,by simp,List.nodup_nil⟩,.nil,by simp⟩ q
end
end
noncomputable def topAt (i:Nat):Stmt:=PySem.Challenge.pw_pq0067_01.main.body.getD i (.Pass ⟨0,0,0,0⟩)
noncomputable def subAt (st:Stmt) (i:Nat):Stmt:=match st with
 | .ClassDef _ _ _ b _ _ _ _ _ _ _=>b.getD i (.Pass ⟨0,0,0,0⟩)
 | _=>.Pass ⟨0,0,0,0⟩
noncomputable def bodyOf:Stmt→List Stmt
 | .FunctionDef _ _ b _ _ _ _ _ _ _=>b
 | _=>[]
noncomputable def scopeOf:Stmt→Scope
 | .FunctionDef _ _ _ _ _ _ s _ _ _=>s
 | _=>{ kind:=.function,names:=[],isGenerator:=false,isCoroutine:=false }
noncomputable abbrev mb (c i:Nat):List Stmt:=bodyOf (subAt (topAt c) i)
noncomputable abbrev ms (c i:Nat):Scope:=scopeOf (subAt (topAt c) i)
noncomputable abbrev fb (i:Nat):List Stmt:=bodyOf (topAt i)
noncomputable abbrev fs (i:Nat):Scope:=scopeOf (topAt i)
noncomputable abbrev lk (ρ:Rho) (x:String):Option V:=ρ.lookup (ofString x)
noncomputable def fnTab:List (Addr × List Str × List Stmt × Scope):=[(35,[ofString "self",ofString "op",ofString "values"],mb 2 0,ms 2 0),(42,[ofString "self",ofString "one",ofString "other"],mb 2 1,ms 2 1),(63,[ofString "self",ofString "op",ofString "values"],mb 3 0,ms 3 0),(82,[ofString "self",ofString "heap",ofString "analysis"],mb 4 0,ms 4 0),(89,[ofString "self",ofString "c"],mb 4 1,ms 4 1),(96,[ofString "self"],mb 4 2,ms 4 2),(101,[ofString "self",ofString "c"],mb 4 3,ms 4 3),(106,[ofString "self"],mb 4 4,ms 4 4),(173,[ofString "text"],fb 9,fs 9),(187,[ofString "self"],mb 10 0,ms 10 0),(194,[ofString "self"],mb 10 1,ms 10 1),(199,[ofString "self",ofString "op",ofString "kids"],mb 10 2,ms 10 2),(206,[ofString "self",ofString "op"],mb 10 3,ms 10 3),(234,[ofString "self",ofString "n"],mb 10 7,ms 10 7),(241,[ofString "self",ofString "n"],mb 10 8,ms 10 8),(295,[ofString "self"],mb 12 0,ms 12 0),(302,[ofString "self"],mb 12 1,ms 12 1),(309,[ofString "self"],mb 12 2,ms 12 2),(316,[ofString "self",ofString "a"],mb 12 3,ms 12 3),(323,[ofString "self",ofString "a",ofString "b"],mb 12 4,ms 12 4),(330,[ofString "self",ofString "a"],mb 12 5,ms 12 5),(335,[ofString "self"],mb 12 6,ms 12 6),(377,[ofString "self"],mb 14 0,ms 14 0),(389,[ofString "self",ofString "n"],mb 14 2,ms 14 2),(394,[ofString "self",ofString "op",ofString "numbers"],mb 14 3,ms 14 3),(408,[ofString "self",ofString "n"],mb 14 5,ms 14 5),(415,[ofString "self",ofString "n"],mb 14 6,ms 14 6),(429,[ofString "self",ofString "a",ofString "b",ofString "reason"],mb 14 8,ms 14 8),(436,[ofString "self",ofString "a",ofString "b",ofString "reason"],mb 14 9,ms 14 9),(443,[ofString "self"],mb 14 10,ms 14 10),(457,[ofString "self"],mb 14 12,ms 14 12),(464,[ofString "self",ofString "c"],mb 14 13,ms 14 13),(469,[ofString "self",ofString "c"],mb 14 14,ms 14 14),(488,[ofString "self",ofString "c"],mb 14 17,ms 14 17),(502,[ofString "row",ofString "many"],fb 16,fs 16),(507,[ofString "nodes",ofString "pairs"],fb 17,fs 17),(512,[ofString "table",ofString "lots"],fb 18,fs 18),(517,[ofString "table",ofString "is_depth",ofString "classes"],fb 19,fs 19),(522,[ofString "heap",ofString "keepers",ofString "nodes",ofString "pairs"],fb 20,fs 20),(529,[ofString "flat",ofString "small",ofString "some"],fb 21,fs 21),(534,[ofString "script"],fb 22,fs 22)]
noncomputable def methTab:Cls→List (Str × Addr)
 | .unions=>[(ofString "make",302),(ofString "size",309),(ofString "find",316),(ofString "merge",323),(ofString "members",330),(ofString "classes",335)]
 | .heap=>[(ofString "node",389),(ofString "add",394),(ofString "look_at",408),(ofString "find",415),(ofString "merge",429),(ofString "join",436),(ofString "settle",443),(ofString "classes",457),(ofString "members",464),(ofString "nodes_of",469),(ofString "users",488)]
 | .bank=>[(ofString "size",194),(ofString "take",199),(ofString "require",206),(ofString "op",234),(ofString "kids",241)]
 | .keeper=>[(ofString "value",89),(ofString "begun",96),(ofString "reckoned",101),(ofString "settle",106)]
 | .depth=>[(ofString "of_node",35),(ofString "joined",42)]
 | .size=>[(ofString "of_node",63),(ofString "joined",42)]
noncomputable def attrTab:Cls→List Str
 | .bank=>[ofString "nodes",ofString "numbers",ofString "weights",ofString "depths"]
 | .unions=>[ofString "above",ofString "lots",ofString "merged"]
 | .heap=>[ofString "bank",ofString "unions",ofString "edges",ofString "forest",ofString "known",ofString "above",ofString "waiting"]
 | .keeper=>[ofString "heap",ofString "analysis",ofString "values",ofString "told"]
 | _=>[]
noncomputable def ownTab:List (Str × Value):=[(ofString "Heap",.ref 491),(ofString "Keeper",.ref 123),(ofString "LeastDepth",.ref 45),(ofString "LeastSize",.ref 66),(ofString "Bank",.ref 277),(ofString "Unions",.ref 359),(ofString "is_op",.ref 173),(ofString "_law_next",.ref 502),(ofString "_law_homes",.ref 507),(ofString "_law_of_lots",.ref 512),(ofString "_law_least",.ref 517),(ofString "_law_is_right",.ref 522),(ofString "_law_is_plain",.ref 529)]
noncomputable def bootTab:List (Str × Value):=[(ofString "len",.builtin "len"),(ofString "sorted",.builtin "sorted"),(ofString "max",.builtin "max"),(ofString "min",.builtin "min"),(ofString "sum",.builtin "sum"),(ofString "list",.type "list"),(ofString "tuple",.type "tuple"),(ofString "set",.type "set"),(ofString "int",.type "int"),(ofString "str",.type "str")]
noncomputable def iterTab:List (Str × String):=[(ofString "range","range"),(ofString "enumerate","enumerate"),(ofString "zip","zip")]
noncomputable def initTab:List (Cls × Addr):=[(.bank,187),(.unions,295),(.heap,377),(.keeper,82)]
noncomputable def fdOf (K:Frag) (f:Addr):Option FuncData:=match K.lookup f with
 | some o=>match o.data with
  | .func fd=>some fd
  | _=>none
 | none=>none
noncomputable def fdAt (K:Frag) (f:Addr):FuncData:=(fdOf K f).getD default
noncomputable def bindP (fd:FuncData) (ps:List Str):Nat→List Value→Prop
 | 0,acc=>bindArgs fd ⟨acc,[]⟩=pure (ps.zip acc)
 | k+1,acc=>∀ v,bindP fd ps k (acc++[v])
theorem bindP.at {fd:FuncData} {ps:List Str} {vals:List Value}:∀ {acc:List Value},bindP fd ps vals.length acc→bindArgs fd ⟨acc++vals,[]⟩=pure (ps.zip (acc++vals)):=by
 induction vals with
 | nil=>intro acc h;rw [List.append_nil];exact h
 | cons v vals ih=>intro acc h;rw [List.append_cons];exact ih (h v)
noncomputable def AllP {α:Type} (P:α→Prop):List α→Prop
 | []=>True
 | a::l=>P a∧AllP P l
theorem AllP.at {α:Type} {P:α→Prop} {l:List α}:AllP P l→∀ {i:Nat} {a:α},l[i]? = some a→P a:=by
 induction l with
 | nil=>exact fun u1_ u2_ u3_ h=>nomatch h
 | cons x l ih=>
  intro h i a e;induction i with
  | zero=>refine z_sl e ?_;exact h.1
  | succ i=>exact ih h.2 e
theorem map_same {α β:Type} {f g:α→β} {l:List α} (h:l.map f=l.map g) {i:Nat} {a:α} (e:l[i]? = some a):f a=g a:=List.map_inj_left.mp h a (List.mem_of_getElem? e)
structure Facts (K:Frag):Prop where
 cls:∀ C:Cls,ClsOK K C.addr
 body:fnTab.map (fun p=>(fdOf K p.1).map (·.body))=fnTab.map fun p=>some (.stmts p.2.2.1)
 scope:fnTab.map (fun p=>(fdAt K p.1).scope)=fnTab.map (·.2.2.2)
 rest:fnTab.map (fun p=>((fdAt K p.1).globals,(fdAt K p.1).builtins,(fdAt K p.1).closure,codeIn K (fdAt K p.1).code (fdAt K p.1).qualname,keepIn K (.ref p.1)))=fnTab.map fun _=>(mainGlobals,builtinsNs,[],true,true)
 bind:AllP (fun p=>bindP (fdAt K p.1) p.2.1 p.2.1.length []) fnTab
 meth:∀ C,(methTab C).map (fun p=>(findIn K (.ref C.addr) p.1,typeIn K (.ref p.2),keepIn K (.ref p.2)))=(methTab C).map fun p=>(some (some (.ref p.2)),some (.type "function"),true)
 attr:∀ C,(attrTab C).map (fun x=>findIn K (.ref C.addr) x)=(attrTab C).map fun _=>some none
 own:ownTab.map (fun p=>(nsIn K mainGlobals p.1,keepIn K p.2))=ownTab.map fun p=>(some (some p.2),true)
 boot:bootTab.map (fun p=>nsIn K mainGlobals p.1)=bootTab.map fun _=>some none
 iter:iterTab.map (fun p=>nsIn K mainGlobals p.1)=iterTab.map fun _=>some none
 init:initTab.map (fun p=>(makesIn K p.1.addr,findIn K (.ref p.1.addr) (ofString "__init__"),typeIn K (.ref p.2),keepIn K (.ref p.1.addr)))=initTab.map fun p=>(true,some (some (.ref p.2)),some (.type "function"),true)
 none:([.depth,.size]:List Cls).map (fun C=>(makesIn K C.addr,findIn K (.ref C.addr) (ofString "__init__")))=([.depth,.size]:List Cls).map fun _=>(true,some (some (.builtin "object.__init__")))
theorem fn_scopes:fnTab.all (fun p=>!p.2.2.2.isCoroutine && !p.2.2.2.isGenerator && (match p.2.2.2.kind with | .function=>true | _=>false) && decide p.2.1.Nodup && p.2.1.all (fun x=>p.2.2.2.names.lookup x == some .local || p.2.2.2.names.lookup x == some .cell) && p.2.2.2.names.all (fun q=>q.2 != .free))=true:=by decide +kernel
theorem Facts.fn {K:Frag} (Fk:Facts K) (i:Nat) {f:Addr} {ps:List Str} {b:List Stmt} {sc:Scope} (h:fnTab[i]? = some (f,ps,b,sc)):FnAt K f ps b sc:=by
 have c:=List.all_eq_true.mp fn_scopes _ (List.mem_of_getElem? h);simp only [Bool.and_eq_true,Bool.not_eq_true'] at c;have e1:=map_same Fk.body h;have e2:=map_same Fk.scope h;have e3:=map_same Fk.rest h;have e4:=Fk.bind.at h;induction hf:fdOf K f with
 | none=>rw [hf] at e1;exact z_ns e1
 | some fd=>
  have hd:fdAt K f=fd:=by rw [fdAt,hf];rfl
  rw [hf] at e1;simp only [hd,Prod.mk.injEq] at e2 e3 e4;have ho:∃ o,K.lookup f=some o∧o.data=.func fd:=by
   unfold fdOf at hf;induction hl:K.lookup f with
   | none=>replace hf:=hl▸hf;exact z_ns hf
   | some o=>
    replace hf:=hl▸hf;refine ⟨o,rfl,?_⟩;cases hd:o.data <;> simp only [hd] at hf <;> first | (cases hf;rfl) | exact z_ns hf
  obtain ⟨o,h1,h2⟩:=ho;refine ⟨⟨o,fd,h1,h2,Option.some.inj e1,e2,e3.1,e3.2.1,e3.2.2.1,e3.2.2.2.1,fun vals hl=>?_⟩,c.1.1.1.1.1,c.1.1.1.1.2,?_,of_decide_eq_true c.1.1.2,fun x hx=>?_,fun p hp=>?_⟩
  ·exact (show vals.length=ps.length from hl)▸e4 |> fun e4=>bindP.at (acc:=[]) e4
  ·have:=c.1.1.1.2;cases hk:sc.kind <;> simp only [hk] at this <;> first | rfl | exact z_ft this
  ·simpa using List.all_eq_true.mp c.1.2 x hx
  ·simpa using List.all_eq_true.mp c.2 p hp
theorem lookup_at {β:Type} {x:Str} {v:β} {l:List (Str × β)} (h:l.lookup x=some v):∃ i:Nat,l[i]? = some (x,v):=by
 induction l with
 | nil=>exact z_ns h
 | cons p l ih=>
  rw [List.lookup_cons] at h;induction e:x == p.1 with
  | true=>replace h:=e▸h;clear ih;cases h;rw [beq_iff_eq.mp e];exact ⟨0,rfl⟩
  | false=>rw [e] at h;exact let ⟨i,hi⟩:=ih h;⟨i+1,hi⟩
theorem Facts.meths {K:Frag} (Fk:Facts K) {C:Cls} {x:Str} {f:Addr} (h:(methTab C).lookup x=some f):MethOK K C.addr x f∧keepIn K (.ref f)=true:=by
 obtain ⟨i,e⟩:=lookup_at h;have:=map_same (Fk.meth C) e;simp only [Prod.mk.injEq] at this;exact ⟨⟨this.1,this.2.1⟩,this.2.2⟩
theorem Facts.attrs {K:Frag} (Fk:Facts K) {C:Cls} {x:Str} (h:(attrTab C).contains x=true):AttrOK K C.addr x:=by
 obtain ⟨i,e⟩:=List.getElem?_of_mem (List.contains_iff_mem.mp h);exact map_same (Fk.attr C) e
noncomputable def globTab:List (Str × Value):=bootTab++ownTab
theorem boot_is:bootTab.map (fun p=>(bootBuiltins p.1,p.1 == ofString "__name__"))=bootTab.map fun p=>(some p.2,false):=by kernel_rfl
theorem iter_is:iterTab.map (fun p=>(bootBuiltins p.1,p.1 == ofString "__name__"))=iterTab.map fun p=>(some (.type p.2),false):=by kernel_rfl
theorem callees:bootTab.all (fun p=>match p.2 with | .builtin _=>true | .type _=>true | _=>false)=true:=by decide +kernel
theorem lookup_append {β:Type} {x:Str} {v:β} {l m:List (Str × β)} (h:(l++m).lookup x=some v):l.lookup x=some v∨m.lookup x=some v:=by
 induction l with
 | nil=>exact .inr h
 | cons p l ih=>
  rw [List.cons_append,List.lookup_cons] at h;rw [List.lookup_cons];induction e:x == p.1 with
  | true=>rw [e] at h;exact .inl h
  | false=>rw [e] at h;exact ih h
section
variable {B:Bs}
theorem Facts.globs (Fk:Facts B.K) {x:Str} {v:Value} (h:globTab.lookup x=some v):Glob B x v∧Callee B v:=by
 rcases lookup_append h with h | h
 ·obtain ⟨i,e⟩:=lookup_at h;have h1:=map_same Fk.boot e;have h2:=map_same boot_is e;simp only [Prod.mk.injEq] at h1 h2;have h3:=List.all_eq_true.mp callees _ (List.mem_of_getElem? e);refine ⟨.inr ⟨h1,h2.1,fun e=>?_⟩,?_⟩
  ·have:=beq_eq_false_iff_ne.mp h2.2;exact this e
  ·clear h h2;clear h;induction v <;> first | exact .inl ⟨_,rfl⟩ | exact .inr (.inl ⟨_,rfl⟩) | exact z_ft h3
 ·obtain ⟨i,e⟩:=lookup_at h;have h1:=map_same Fk.own e;simp only [Prod.mk.injEq] at h1;exact ⟨.inl h1.1,.inr (.inr h1.2)⟩
theorem Facts.iters (Fk:Facts B.K) {x:Str} {T:String} (h:iterTab.lookup x=some T):Glob B x (.type T):=by
 obtain ⟨i,e⟩:=lookup_at h;have h1:=map_same Fk.iter e;have h2:=map_same iter_is e;simp only [Prod.mk.injEq] at h1 h2;exact .inr ⟨h1,h2.1,fun e=>beq_eq_false_iff_ne.mp h2.2 e⟩
end
theorem Facts.inits {K:Frag} (Fk:Facts K) (i:Nat) {C:Cls} {f:Addr} (h:initTab[i]? = some (C,f)):makesIn K C.addr=true∧findIn K (.ref C.addr) (ofString "__init__")=some (some (.ref f))∧typeIn K (.ref f)=some (.type "function")∧keepIn K (.ref C.addr)=true:=by
 have:=map_same Fk.init h;simp only [Prod.mk.injEq] at this;exact this
theorem Facts.plain {K:Frag} (Fk:Facts K) (i:Nat) {C:Cls} (h:([.depth,.size]:List Cls)[i]? = some C):makesIn K C.addr=true∧findIn K (.ref C.addr) (ofString "__init__")=some (some (.builtin "object.__init__")):=by
 have:=map_same Fk.none h;simp only [Prod.mk.injEq] at this;exact this
section
open SeqAt
open AutoSeq1 (wpAny_loadPart')
noncomputable def enumV (vs:List V):List V:=(List.range vs.length).map fun (i:Nat)=>V.tup [.int i,vs.getD i .none]
theorem enumV_get {vs:List V} {i:Nat} {v:V} (h:(enumV vs)[i]? = some v):∃ u,vs[i]? = some u∧v=.tup [.int i,u]:=by
 have hi:i < vs.length:=by
  have:=(List.getElem?_eq_some_iff.mp h).1;simpa [enumV] using this
 refine i1a2 (vs[i]) (by simp [hi]) ?_;simp [enumV,hi] at h;exact (h).symm
section
variable {B:Bs} {n:Nat} {H:AH} {tg:Expr}
theorem src_enum {l e I:Addr} {vs:List V} (htg:Tuple? tg=true):Src B tg (fun H=>H l=some (.list vs)) (enumV vs) (.ref e) [e,I] (fun i h=>(∃ old,IsEnum h e I i old)∧h.IsListIter I l i∧e≠I∧¬ B.priv e∧¬ B.priv I) where
 frame:=fun i h h' x kt k=>⟨e1a1 x.1 fun old ho=>(i1a1 old (k e z_m0 _ ho)),x.2.1.at fun o e=>k I z_m1 o e,x.2.2⟩
 next:=fun i v A s H hh a live hf ⟨⟨old,he⟩,hit,hne,hpe,hpI⟩ hi=>by
  refine e1a2 (enumV_get hi) fun u hu z7=>?_;clear hi;subst z7;refine e2a2 (a.cell _ _ live) fun xs m ho hl=>?_;refine e1a2 (hl.get hu) fun y hy hc=>?_;refine wpAny_pyNext_enum_item he hit (IsL.isList (n:=m) ho) (x:=y) (by simpa using hy) hne fun h' he' hit' ht' hsz hk=>i1a2 _ rfl ?_;obtain ⟨es,k,pos,rfl⟩:=tuple_is htg;clear htg;refine wpAny_letOwnedTupleGo_enum he' fun h'' he'' hs''=>?_;refine e1a3 hit fun o hoI hcI hdI=>?_;have hlt:e < s.heap.objs.size:=Heap.lt_size he;have hk2:∀ b o,b ∉ [e,I]→s.heap.get? b=some o→h''.get? b=some o:=fun b o hb e1=>by
   simp only [List.mem_cons,List.not_mem_nil,or_false,not_or] at hb;refine (hs''.2 b hb.1).trans ?_;exact hk b o hb.1 hb.2 e1
  have kt:KeepT B s.heap h'':=⟨fun b o _ e1 t ⟨ys,n,d⟩=>by
   by_cases h1:b=e
   ·clear hf hne hpe he' hk he'' hs'' hlt hk2 t;subst h1;replace e1:=he.symm.trans e1;cases e1;cases d
   ·by_cases h2:b=I
    ·clear hf he hit hne hpI he' hit' hk he'' hk2 t;subst h2;rw [hoI] at e1;cases e1;replace d:=hdI.symm.trans d;cases d
    ·exact hk2 b o (by simp [h1,h2]) e1⟩
  clear hit he' hk hoI;obtain ⟨a',st⟩:=off (tk:=s.toks+1) a hf hk2 kt (fun b hb hp=>by
   simp only [List.mem_cons,List.not_mem_nil,or_false] at hb;clear hf he hne hit' he'' hs'' hlt hk2;rcases hb with rfl | rfl
   ·exact absurd hp hpe
   ·exact absurd hp hpI)
  have hT:h''.get? s.heap.objs.size=some (seqObj "tuple" (List.toArray [.int i s.toks,y]) 0):=by
   refine (hs''.2 _ (Ne.symm (Nat.ne_of_lt hlt))).trans ?_;exact ht'
  refine ⟨a',st,i0a5 ⟨_,by simpa using he''⟩ (hit'.at fun o e1=>by refine (hs''.2 I (Ne.symm hne)).trans ?_;exact e1) hne hpe hpI,?_⟩;exact conc_tup_mk (a.notPriv (Nat.le_refl _)) hT ⟨_,_,rfl,⟨_,rfl⟩,_,_,rfl,hc.keep kt,rfl⟩
 done:=fun A s H hh a live hf ⟨⟨old,he⟩,hit,hne,hpe,hpI⟩=>by
  refine e2a2 (a.cell _ _ live) fun xs m ho hl=>?_;have hlen:(enumV vs).length=vs.length:=by simp [enumV]
  rw [hlen] at he hit;refine wpAny_pyNext_enum_end hh he hit (IsL.isList (n:=m) ho) (by simp [hl.length]) fun h' hs=>⟨rfl,?_⟩
  refine e1a3 hit fun o hoI hcI hdI=>?_;have hk2:∀ b o,b ∉ [e,I]→s.heap.get? b=some o→h'.get? b=some o:=fun b o hb e1=>by
   simp only [List.mem_cons,List.not_mem_nil,or_false,not_or] at hb;exact hs b o hb.2 e1
  have kt:KeepT B s.heap h':=⟨fun b o _ e1 t ⟨ys,n,d⟩=>by
   by_cases h2:b=I
   ·clear hf he hit hne hpI hs hk2 t;subst h2;replace e1:=hoI.symm.trans e1;cases e1;replace d:=hdI.symm.trans d;cases d
   ·exact hs b o h2 e1⟩
  exact off (tk:=s.toks) a hf hk2 kt (fun b hb hp=>by
   simp only [List.mem_cons,List.not_mem_nil,or_false] at hb;clear hf he hit hne hs hoI hk2;rcases hb with rfl | rfl
   ·exact absurd hp hpe
   ·exact absurd hp hpI)
 there:=fun i h x b hb=>by
  simp only [List.mem_cons,List.not_mem_nil,or_false] at hb;rcases hb with rfl | rfl
  ·refine e0a2 x fun z5 _=>?_;obtain ⟨old,ho⟩:=z5;exact ⟨_,ho⟩
  ·refine e0a3 x fun _ z3 _=>?_;refine e1a2 z3 fun o ho _=>?_;exact ⟨o,ho⟩
 self:=fun i A s Q hit q=>by
  refine e0a2 hit fun z1 _=>?_;obtain ⟨old,he⟩:=z1;have hT:s.TypeIs (.ref e) "enumerate":=i1a2 _ he rfl;refine wpAny_pyIter_slot hT PySem.F.slot_enumerate_iter (wpAny_call_entry PySem.F.slot_enumerate_iter hT PySem.F.entry_enumerate_iter ?_ (PySem.F.args_enumerate_iter_1 _));show wpAny _ _ (ret (.ref e)) _ _ s;exact wpAny_pure ⟨_,rfl,"enumerate",_,hT,PySem.F.slot_enumerate_next.lookup,q⟩
theorem UCI.enum {l:Addr} {vs:List V} {Q:QT} (htg:Tuple? tg=true) (hl:H l=some (.list vs)) (q:Q B.priv (enumV vs) (fun H=>H l=some (.list vs)) H):UCI B n tg (.type "enumerate") [.ref l] H Q:=by
 intro A s xs ok R a hc;refine e1a2 (conc1 hc) fun x z8 hx=>?_;clear hc;subst z8;have:x=.ref l:=hx;subst this;refine e2a2 (a.cell _ _ hl) fun ys m ho _=>?_;refine call_enumerate_list (IsL.isList (n:=m) ho) fun h' he hit hsz hk=>?_;refine (src_enum (B:=B) (l:=l) (e:=s.heap.objs.size+1) (I:=s.heap.objs.size) (vs:=vs) htg).self 0 A { s with heap:=h' } _ ⟨⟨_,he⟩,hit,Nat.succ_ne_self _,a.notPriv (Nat.le_succ _),a.notPriv (Nat.le_refl _)⟩ ?_;refine ⟨B.priv,H,enumV vs,_,[s.heap.objs.size+1,s.heap.objs.size],_,.refl,a.grown hk,.grown (tk:=s.toks) hk,src_enum (B:=B) htg,⟨⟨_,he⟩,hit,Nat.succ_ne_self _,a.notPriv (Nat.le_succ _),a.notPriv (Nat.le_refl _)⟩,?_,?_,q⟩
 ·intro b hb;simp only [List.mem_cons,List.not_mem_nil,or_false] at hb;rcases hb with rfl | rfl
  ·exact Heap.get?_none_of_le (Nat.le_succ _)
  ·exact Heap.get?_none_of_le (Nat.le_refl _)
 ·intro b hb;simp only [List.mem_cons,List.not_mem_nil,or_false] at hb;rcases hb with rfl | rfl
  ·exact let f:=fresh_fp a (Nat.le_succ _);(i0a3 f.1 f.2.1 f.2.2.1)
  ·exact let f:=fresh_fp a (Nat.le_refl _);(i0a3 f.1 f.2.1 f.2.2.1)
end
noncomputable def SubAt (k:Bool) (h:Heap) (I src:Addr) (items:Array Value) (i:Nat):Prop:=if k then h.IsListIter I src i∧h.IsList src items else h.IsTupleIter I src i∧h.IsTuple src items
theorem SubAt.ext {k:Bool} {h h':Heap} {I src:Addr} {items:Array Value} {i:Nat} (x:SubAt k h I src items i) (k1:∀ o,h.get? I=some o→h'.get? I=some o) (k2:∀ o,h.get? src=some o→h'.get? src=some o):SubAt k h' I src items i:=by
 unfold SubAt at *;induction k with
 | true=>simp only [if_true] at *;exact ⟨x.1.at k1,x.2.at k2⟩
 | false=>
  simp only [Bool.false_eq_true,if_false] at *;exact ⟨e1a2 x.1 fun o e r=>(i1a2 o (k1 o e) r),e1a2 x.2 fun o e r=>(i1a2 o (k2 o e) r)⟩
theorem SubAt.obj {k:Bool} {h:Heap} {I src:Addr} {items:Array Value} {i:Nat} (x:SubAt k h I src items i):∃ o,h.get? I=some o∧∀ xs n,o.data≠.seq xs n:=by
 induction k with
 | true=>refine e0a2 x fun z11 _=>?_;obtain ⟨o,e,_,d⟩:=z11;exact ⟨o,e,fun xs n h=>by rw [d] at h;cases h⟩
 | false=>refine e0a2 x fun z9 _=>?_;obtain ⟨o,e,_,d⟩:=z9;exact ⟨o,e,fun xs n h=>by rw [d] at h;cases h⟩
section
variable {prog:Program} {w:World} {A:Around} {E:Value→Shared→Prop} {s:Shared}
theorem nextOf_tup_item {it l:Addr} {i:Nat} {items:Array Value} {x:Value} {Q:Value→Shared→Prop} (hit:s.heap.IsTupleIter it l i)
  (hl:s.heap.IsTuple l items) (hx:items[i]? = some x)
  (hQ:∀ h',h'.IsTupleIter it l (i+1)→Heap.SameBut it s.heap h'→Q x { s with heap:=h' }) :
  wpAny (model prog w) A (Builtin.SmallTypes.nextOf (.ref it)) Q E s:=by
 refine e1a3 (id hit) fun o ho hc hd=>?_;refine e1a3 hl fun ol hol _ z13=>?_;refine e1a1 z13 fun nl hdl=>?_;have hT:s.TypeIs (.ref it) "tuple_iterator":=i1a2 o ho hc;refine wpAny_bind (wpAny_callSpecial?_slot (name:=ofString "__next__") hT PySem.F.slot_tuple_iterator_next
  (wpAny_call_entry PySem.F.slot_tuple_iterator_next hT PySem.F.entry_tuple_iterator_next ?_ (PySem.F.args_tuple_iterator_next_1 _)))
 show wpAny _ _ (field (.ref it) 0 >>= _) _ _ s;refine wpAny_bind (wpAny_field ho hd (x:=.ref l) rfl ?_);show wpAny _ _ (if (Value.ref l == Value.none)=true then _ else _) _ _ s;refine if_neg (show ¬ ((Value.ref l == Value.none)=true) from Bool.false_ne_true)▸?_;show wpAny _ _ (field (.ref it) 1 >>= _) _ _ s;refine wpAny_bind (wpAny_field ho hd (x:=.int i 0) rfl ?_);show wpAny _ _ (seqItems? (.ref l) >>= _) _ _ s;refine wpAny_bind (wpAny_seqItems hol hdl ?_);simp only [Int.toNat_natCast,hx];refine wpAny_bind (wpAny_setField ho hd (Nat.le_refl _) (wpAny_pure (i1a2 x rfl (wpAny_pure (hQ _ ?_ (Heap.SameBut.update ..))))));exact i1a3 _ (Heap.get?_update_self _ ho (Obj.isFreed_of_fields (Obj.data_mapFields hd _))) ((Obj.cls_mapFields ..).trans hc) (by
  rw [Obj.data_mapFields hd];exact rfl)
theorem nextOf_tup_end {it l:Addr} {i:Nat} {items:Array Value} {Q:Value→Shared→Prop} (hh:A.handled=none)
  (hit:s.heap.IsTupleIter it l i) (hl:s.heap.IsTuple l items) (hx:items[i]? = none)
  (hE:∀ h' e,Heap.ExtBut it s.heap h'→(∃ o,h'.get? e=some o∧o.cls=.type "StopIteration")→E (.ref e) { s with heap:=h' }) :
  wpAny (model prog w) A (Builtin.SmallTypes.nextOf (.ref it)) Q E s:=by
 refine e1a3 (id hit) fun o ho hc hd=>?_;refine e1a3 hl fun ol hol _ z15=>?_;refine e1a1 z15 fun nl hdl=>?_;have hT:s.TypeIs (.ref it) "tuple_iterator":=i1a2 o ho hc;refine wpAny_bind (wpAny_callSpecial?_slot (name:=ofString "__next__") hT PySem.F.slot_tuple_iterator_next
  (wpAny_call_entry PySem.F.slot_tuple_iterator_next hT PySem.F.entry_tuple_iterator_next ?_ (PySem.F.args_tuple_iterator_next_1 _)))
 show wpAny _ _ (field (.ref it) 0 >>= _) _ _ s;refine wpAny_bind (wpAny_field ho hd (x:=.ref l) rfl ?_);show wpAny _ _ (if (Value.ref l == Value.none)=true then _ else _) _ _ s;refine if_neg (show ¬ ((Value.ref l == Value.none)=true) from Bool.false_ne_true)▸?_;show wpAny _ _ (field (.ref it) 1 >>= _) _ _ s;refine wpAny_bind (wpAny_field ho hd (x:=.int i 0) rfl ?_);show wpAny _ _ (seqItems? (.ref l) >>= _) _ _ s;refine wpAny_bind (wpAny_seqItems hol hdl ?_);simp only [Int.toNat_natCast,hx];refine wpAny_bind (wpAny_rule (wpAny_bind (wpAny_setField ho hd (Nat.succ_pos _) ?_)));show wpAny _ _ (newExc (.type "StopIteration") [] >>= _) _ _ _;refine wpAny_bind ?_;simp only [newExc,newTuple];refine wpAny_bind (wpAny_newObj_type ?_ (by size_fits));refine wpAny_bind (m:=firstArgMember _ _) (wpAny_of_eq (a:=Value.none) (by first | rfl | (simp only [firstArgMember];rfl)) ?_);refine wpAny_newObj_type ?_ (by size_fits);rw [raiseNew];refine wpAny_bind (wpAny_handled ?_)
 first | rw [show A.in1.handled=none from hh] | rw [hh]
 refine wpAny_bind (wpAny_pure (wpAny_throw ?_));exact hE _ _ (((Heap.SameBut.update ..).extBut.push _).push _) (i1a2 _ (Heap.get?_push_size _ rfl) rfl)
theorem sub_next {k:Bool} {I src:Addr} {i:Nat} {items:Array Value} {x:Value} {Q:Value→Shared→Prop} (h:SubAt k s.heap I src items i) (hne:src≠I) (hx:items[i]? = some x)
  (hQ:∀ h',SubAt k h' I src items (i+1)→Heap.SameBut I s.heap h'→Q x { s with heap:=h' }):wpAny (model prog w) A (Builtin.SmallTypes.nextOf (.ref I)) Q E s:=by
 induction k with
 | true=>exact wpAny_nextOf_list_item h.1 h.2 hx fun h' a b=>hQ h' ⟨a,h.2.extBut b.extBut hne⟩ b
 | false=>exact nextOf_tup_item h.1 h.2 hx fun h' a b=>hQ h' ⟨a,h.2.extBut b.extBut hne⟩ b
theorem sub_end {k:Bool} {I src:Addr} {i:Nat} {items:Array Value} {Q:Value→Shared→Prop} (hh:A.handled=none) (h:SubAt k s.heap I src items i) (hx:items[i]? = none)
  (hE:∀ h' e,Heap.ExtBut I s.heap h'→(∃ o,h'.get? e=some o∧o.cls=.type "StopIteration")→E (.ref e) { s with heap:=h' }):wpAny (model prog w) A (Builtin.SmallTypes.nextOf (.ref I)) Q E s:=by
 induction k with
 | true=>exact wpAny_nextOf_list_end hh h.1 h.2 hx hE
 | false=>exact nextOf_tup_end hh h.1 h.2 hx hE
end
end
section
open SeqAt
open AutoSeq1 (wpAny_loadPart')
section
variable {prog:Program} {w:World} {A:Around} {E:Value→Shared→Prop} {s:Shared} {κ₁ κ₂:Bool}
theorem zip_item {z TI TO i1 i2 l1 l2:Addr} {k1 k2:Nat} {xs ys:Array Value} {x y a b:Value} {Q:Value→Shared→Prop} (D:ZipApart z TI TO i1 i2 l1 l2)
  (hz:IsZip s.heap z TI TO .none) (hTI:IsPair s.heap TI (.ref i1) (.ref i2)) (hTO:IsPair s.heap TO a b)
  (h1:SubAt κ₁ s.heap i1 l1 xs k1) (h2:SubAt κ₂ s.heap i2 l2 ys k2) (hx:xs[k1]? = some x) (hy:ys[k2]? = some y)
  (hQ:∀ h',IsZip h' z TI TO (rawInt s.heap.objs.size)→IsPair h' TO x y→SubAt κ₁ h' i1 l1 xs (k1+1)→SubAt κ₂ h' i2 l2 ys (k2+1)→IsPair h' s.heap.objs.size x y→h'.objs.size=s.heap.objs.size+1 →
   (∀ c o,c≠z→c≠TO→c≠i1→c≠i2→s.heap.get? c=some o→h'.get? c=some o)→Q (.ref s.heap.objs.size) { s with heap:=h' }) :
  wpAny (model prog w) A (Builtin.«zip.__next__» ⟨[.ref z],[]⟩) (fun fin s'=>∃ v,fin=.done (.ret v)∧Q v s') E s:=by
 show wpAny _ _ (field (.ref z) 2 >>= _) _ _ _;refine wpAny_bind (wpAny_field hz rfl (x:=.bool false) rfl ?_);show wpAny _ _ (field (.ref z) 3 >>= _) _ _ _;refine wpAny_bind (wpAny_field hz rfl (x:=.ref TI) rfl ?_);refine wpAny_bind (wpAny_seqItems hTI rfl ?_);show wpAny _ _ (Builtin.SmallTypes.ownedTupleIsFree (.ref z) >>= _) _ _ _;refine wpAny_bind ?_;unfold Builtin.SmallTypes.ownedTupleIsFree;refine wpAny_bind (wpAny_field hz rfl (x:=.none) rfl (wpAny_pure ?_));simp only [if_true];refine wpAny_bind (wpAny_rule ?_);refine wpAny_bind (wpAny_field hz rfl (x:=.ref TO) rfl ?_);refine wpAny_bind (wpAny_setField_rec hz (Nat.succ_pos _) fun h₁ hz₁ hs₁=>?_);replace hz₁:IsZip h₁ z TI TO .ellipsis:=hz₁;refine wpAny_bind ?_;simp only [List.zipIdx_cons,List.zipIdx_nil,List.forIn_cons,List.forIn_nil];refine wpAny_bind (wpAny_bind (wpAny_onRaise ?_));show wpAny _ _ (Builtin.SmallTypes.nextOf (.ref i1) >>= _) _ _ _;refine wpAny_bind (sub_next (s:={ s with heap:=h₁ }) (h1.ext (fun o e=>hs₁.extBut _ o D.i1z e) (fun o e=>hs₁.extBut _ o D.l1z e)) D.l1i1 hx fun h₂ h1₂ hs₂=>wpAny_pure ?_);have hTO₂:IsPair h₂ TO a b:=hs₂.extBut _ _ D.TOi1 (hs₁.extBut _ _ D.TOz hTO);refine wpAny_bind (wpAny_seqItems hTO₂ rfl ?_);refine wpAny_bind (wpAny_updateSeq_pair hTO₂ fun h₃ hTO₃ hs₃=>?_);replace hTO₃:IsPair h₃ TO x b:=hTO₃;refine wpAny_bind (wpAny_letGo (wpAny_pure ?_));refine wpAny_bind (wpAny_bind (wpAny_onRaise ?_));show wpAny _ _ (Builtin.SmallTypes.nextOf (.ref i2) >>= _) _ _ _;have up3:∀ c o,c≠z→c≠i1→c≠TO→s.heap.get? c=some o→h₃.get? c=some o:=fun c o c1 c2 c3 e=>hs₃.extBut _ o c3 (hs₂.extBut _ o c2 (hs₁.extBut _ o c1 e));refine wpAny_bind (sub_next (s:={ s with heap:=h₃ }) (h2.ext (fun o e=>up3 _ o D.i2z D.i12.symm D.TOi2.symm e) (fun o e=>up3 _ o D.l2z D.l2i1 D.l2TO e)) D.l2i2 hy fun h₄ h2₄ hs₄=>wpAny_pure ?_);have hTO₄:IsPair h₄ TO x b:=hs₄.extBut _ _ D.TOi2 hTO₃;refine wpAny_bind (wpAny_seqItems hTO₄ rfl ?_);refine wpAny_bind (wpAny_updateSeq_pair hTO₄ fun h₅ hTO₅ hs₅=>?_);replace hTO₅:IsPair h₅ TO x y:=hTO₅;refine wpAny_bind (wpAny_letGo (wpAny_pure (wpAny_pure ?_)));refine wpAny_bind (wpAny_seqItems hTO₅ rfl ?_);refine wpAny_bind (wpAny_newTuple ?_);have hsz:h₅.objs.size=s.heap.objs.size:=by simp only [hs₅.1,hs₄.1,hs₃.1,hs₂.1,hs₁.1]
 have hz₅:IsZip h₅ z TI TO .ellipsis:=hs₅.extBut _ _ D.TOz.symm (hs₄.extBut _ _ D.i2z.symm (hs₃.extBut _ _ D.TOz.symm (hs₂.extBut _ _ D.i1z.symm hz₁)));have hk₅:∀ c o,c≠z→c≠TO→c≠i1→c≠i2→s.heap.get? c=some o→h₅.get? c=some o:=fun c o c1 c2 c3 c4 e=>
  hs₅.extBut _ _ c2 (hs₄.extBut _ _ c4 (hs₃.extBut _ _ c2 (hs₂.extBut _ _ c3 (hs₁.extBut _ _ c1 e))))
 have up25:∀ c o,c≠TO→c≠i2→h₂.get? c=some o→h₅.get? c=some o:=fun c o c1 c2 e=>hs₅.extBut _ o c1 (hs₄.extBut _ o c2 (hs₃.extBut _ o c1 e));have h1₅:SubAt κ₁ h₅ i1 l1 xs (k1+1):=h1₂.ext (fun o e=>up25 _ o D.TOi1.symm D.i12 e) (fun o e=>up25 _ o D.l1TO D.l1i2 e);have h2₅:SubAt κ₂ h₅ i2 l2 ys (k2+1):=h2₄.ext (fun o e=>hs₅.extBut _ o D.TOi2.symm e) (fun o e=>hs₅.extBut _ o D.l2TO e);have hzlt:z < h₅.objs.size:=Heap.lt_size hz₅;show wpAny _ _ (Builtin.SmallTypes.ownedTupleHandOut (.ref z) (.ref h₅.objs.size) >>= _) _ _ _;refine wpAny_bind ?_;unfold Builtin.SmallTypes.ownedTupleHandOut;have hz₆:IsZip (h₅.push { cls:=.type "tuple",data:=.seq #[x,y] }) z TI TO .ellipsis:=Heap.get?_push_of_some _ hz₅;refine wpAny_bind (wpAny_setField_rec hz₆ (Nat.succ_pos _) fun h₇ hz₇ hs₇=>?_);replace hz₇:IsZip h₇ z TI TO (rawInt h₅.objs.size):=hz₇;refine wpAny_setField_rec hz₇ (by simp) fun h₈ hz₈ hs₈=>?_;replace hz₈:IsZip h₈ z TI TO (rawInt h₅.objs.size):=hz₈;have up:∀ c o,c≠z→h₅.get? c=some o→h₈.get? c=some o:=fun c o c1 e=>hs₈.extBut _ _ c1 (hs₇.extBut _ _ c1 (Heap.get?_push_of_some _ e));have hT₈:IsPair h₈ h₅.objs.size x y:=hs₈.extBut _ _ (Nat.ne_of_gt hzlt) (hs₇.extBut _ _ (Nat.ne_of_gt hzlt) (Heap.get?_push_size _ rfl));have hz8:h₈.objs.size=h₅.objs.size+1:=by simp only [hs₈.1,hs₇.1,Heap.size_push]
 rw [hsz] at hz₈ hT₈ hz8;refine wpAny_pure (i1a2 _ rfl ?_);show Q (.ref h₅.objs.size) _;rw [hsz];exact hQ h₈ hz₈ (up _ _ D.TOz hTO₅) (h1₅.ext (fun o e=>up _ o D.i1z e) fun o e=>up _ o D.l1z e) (h2₅.ext (fun o e=>up _ o D.i2z e) fun o e=>up _ o D.l2z e) hT₈ hz8 fun c o c1 c2 c3 c4 e=>up c o c1 (hk₅ c o c1 c2 c3 c4 e)
theorem zip_end {z TI TO i1 i2 l1 l2:Addr} {k1 k2:Nat} {xs ys:Array Value} {a b:Value} {Q:Fin→Shared→Prop} (hh:A.handled=none) (D:ZipApart z TI TO i1 i2 l1 l2)
  (hz:IsZip s.heap z TI TO .none) (hTI:IsPair s.heap TI (.ref i1) (.ref i2)) (hTO:IsPair s.heap TO a b)
  (h1:SubAt κ₁ s.heap i1 l1 xs k1) (h2:SubAt κ₂ s.heap i2 l2 ys k2) (hend:xs[k1]? = none∨ys[k2]? = none)
  (hE:∀ h' e,(∀ c o,c≠z→c≠TO→c≠i1→c≠i2→s.heap.get? c=some o→h'.get? c=some o)→(∃ o,h'.get? TO=some o)→(∃ o,h'.get? e=some o∧o.cls=.type "StopIteration")→E (.ref e) { s with heap:=h' }) :
  wpAny (model prog w) A (Builtin.«zip.__next__» ⟨[.ref z],[]⟩) Q E s:=by
 show wpAny _ _ (field (.ref z) 2 >>= _) _ _ _;refine wpAny_bind (wpAny_field hz rfl (x:=.bool false) rfl ?_);show wpAny _ _ (field (.ref z) 3 >>= _) _ _ _;refine wpAny_bind (wpAny_field hz rfl (x:=.ref TI) rfl ?_);refine wpAny_bind (wpAny_seqItems hTI rfl ?_);show wpAny _ _ (Builtin.SmallTypes.ownedTupleIsFree (.ref z) >>= _) _ _ _;refine wpAny_bind ?_;unfold Builtin.SmallTypes.ownedTupleIsFree;refine wpAny_bind (wpAny_field hz rfl (x:=.none) rfl (wpAny_pure ?_));simp only [if_true];refine wpAny_bind (wpAny_rule ?_);refine wpAny_bind (wpAny_field hz rfl (x:=.ref TO) rfl ?_);refine wpAny_bind (wpAny_setField_rec hz (Nat.succ_pos _) fun h₁ hz₁ hs₁=>?_);replace hz₁:IsZip h₁ z TI TO .ellipsis:=hz₁;refine wpAny_bind ?_;simp only [List.zipIdx_cons,List.zipIdx_nil,List.forIn_cons,List.forIn_nil];refine wpAny_bind (wpAny_bind (wpAny_onRaise ?_));show wpAny _ _ (Builtin.SmallTypes.nextOf (.ref i1) >>= _) _ _ _;have h1':SubAt κ₁ h₁ i1 l1 xs k1:=h1.ext (fun o e=>hs₁.extBut _ o D.i1z e) (fun o e=>hs₁.extBut _ o D.l1z e);clear hz;induction hx:xs[k1]? with
 | none=>
  refine wpAny_bind (sub_end (s:={ s with heap:=h₁ }) hh h1' hx fun h₂ e hs₂ he=>?_);refine e1a2 he fun oe hoe hce=>?_;have hz₂:IsZip h₂ z TI TO .ellipsis:=hs₂ _ _ D.i1z.symm hz₁;have hez:e≠z:=fun x=>by clear hE hs₁;subst x;rw [hz₂] at hoe;cases hoe;simp at hce
  refine wpAny_setField_rec hz₂ (Nat.succ_pos _) fun h₃ u1_ hs₃=>hE h₃ e (fun c o c1 u2_ c3 u3_ x=>hs₃.extBut _ _ c1 (hs₂ _ _ c3 (hs₁.extBut _ _ c1 x))) ⟨_,hs₃.extBut _ _ D.TOz (hs₂ _ _ D.TOi1 (hs₁.extBut _ _ D.TOz hTO))⟩ ⟨oe,hs₃.extBut _ _ hez hoe,hce⟩
 | some x=>
  have hy:ys[k2]? = none:=by rcases hend with h | h;replace h:=hx.symm.trans h;exact z_sn h;exact h
  refine wpAny_bind (sub_next (s:={ s with heap:=h₁ }) h1' D.l1i1 hx fun h₂ h1₂ hs₂=>wpAny_pure ?_);have hTO₂:IsPair h₂ TO a b:=hs₂.extBut _ _ D.TOi1 (hs₁.extBut _ _ D.TOz hTO);refine wpAny_bind (wpAny_seqItems hTO₂ rfl ?_);refine wpAny_bind (wpAny_updateSeq_pair hTO₂ fun h₃ hTO₃ hs₃=>?_);refine wpAny_bind (wpAny_letGo (wpAny_pure ?_));refine wpAny_bind (wpAny_bind (wpAny_onRaise ?_));show wpAny _ _ (Builtin.SmallTypes.nextOf (.ref i2) >>= _) _ _ _;have up3:∀ c o,c≠z→c≠i1→c≠TO→s.heap.get? c=some o→h₃.get? c=some o:=fun c o c1 c2 c3 e=>hs₃.extBut _ o c3 (hs₂.extBut _ o c2 (hs₁.extBut _ o c1 e));refine wpAny_bind (sub_end (s:={ s with heap:=h₃ }) hh (h2.ext (fun o e=>up3 _ o D.i2z D.i12.symm D.TOi2.symm e) (fun o e=>up3 _ o D.l2z D.l2i1 D.l2TO e)) hy fun h₄ e hs₄ he=>?_);refine e1a2 he fun oe hoe hce=>?_;have hz₄:IsZip h₄ z TI TO .ellipsis:=hs₄ _ _ D.i2z.symm (hs₃.extBut _ _ D.TOz.symm (hs₂.extBut _ _ D.i1z.symm hz₁));have hez:e≠z:=fun x=>by clear hE hs₁ up3;subst x;rw [hz₄] at hoe;cases hoe;simp at hce
  refine wpAny_setField_rec hz₄ (Nat.succ_pos _) fun h₅ u4_ hs₅=>hE h₅ e (fun c o c1 c2 c3 c4 x=>hs₅.extBut _ _ c1 (hs₄ _ _ c4 (hs₃.extBut _ _ c2 (hs₂.extBut _ _ c3 (hs₁.extBut _ _ c1 x))))) ⟨_,hs₅.extBut _ _ D.TOz (hs₄ _ _ D.TOi2 hTO₃)⟩ ⟨oe,hs₅.extBut _ _ hez hoe,hce⟩
theorem next_zip_item {z TI TO i1 i2 l1 l2:Addr} {k1 k2:Nat} {xs ys:Array Value} {x y a b:Value} {Q:Option Value→Shared→Prop} (D:ZipApart z TI TO i1 i2 l1 l2)
  (hz:IsZip s.heap z TI TO .none) (hTI:IsPair s.heap TI (.ref i1) (.ref i2)) (hTO:IsPair s.heap TO a b)
  (h1:SubAt κ₁ s.heap i1 l1 xs k1) (h2:SubAt κ₂ s.heap i2 l2 ys k2) (hx:xs[k1]? = some x) (hy:ys[k2]? = some y)
  (hQ:∀ h',IsZip h' z TI TO (rawInt s.heap.objs.size)→IsPair h' TO x y→SubAt κ₁ h' i1 l1 xs (k1+1)→SubAt κ₂ h' i2 l2 ys (k2+1)→IsPair h' s.heap.objs.size x y→h'.objs.size=s.heap.objs.size+1 →
   (∀ c o,c≠z→c≠TO→c≠i1→c≠i2→s.heap.get? c=some o→h'.get? c=some o)→Q (some (.ref s.heap.objs.size)) { s with heap:=h' }) :
  wpAny (model prog w) A (pyNext (.ref z)) Q E s:=by
 have hT:s.TypeIs (.ref z) "zip":=i1a2 _ hz rfl;unfold pyNext;exact wpAny_bind (wpAny_attempt (wpAny_callSpecial?_slot (name:=ofString "__next__") hT PySem.F.slot_zip_next
  (wpAny_call_entry PySem.F.slot_zip_next hT PySem.F.entry_zip_next
   (zip_item D hz hTI hTO h1 h2 hx hy fun h' a1 a2 a3 a4 a5 a6 a7=>wpAny_pure (hQ h' a1 a2 a3 a4 a5 a6 a7)) (PySem.F.args_zip_next_1 _))))
theorem next_zip_end {z TI TO i1 i2 l1 l2:Addr} {k1 k2:Nat} {xs ys:Array Value} {a b:Value} {Q:Option Value→Shared→Prop} (hh:A.handled=none) (D:ZipApart z TI TO i1 i2 l1 l2)
  (hz:IsZip s.heap z TI TO .none) (hTI:IsPair s.heap TI (.ref i1) (.ref i2)) (hTO:IsPair s.heap TO a b)
  (h1:SubAt κ₁ s.heap i1 l1 xs k1) (h2:SubAt κ₂ s.heap i2 l2 ys k2) (hend:xs[k1]? = none∨ys[k2]? = none)
  (hQ:∀ h',(∀ c o,c≠z→c≠TO→c≠i1→c≠i2→s.heap.get? c=some o→h'.get? c=some o)→(∃ o,h'.get? TO=some o)→Q none { s with heap:=h' }):wpAny (model prog w) A (pyNext (.ref z)) Q E s:=by
 have hT:s.TypeIs (.ref z) "zip":=i1a2 _ hz rfl;unfold pyNext;refine wpAny_bind (wpAny_attempt (wpAny_callSpecial?_slot (name:=ofString "__next__") hT PySem.F.slot_zip_next
  (wpAny_call_entry PySem.F.slot_zip_next hT PySem.F.entry_zip_next (zip_end hh D hz hTI hTO h1 h2 hend fun h' e hk ht he=>?_) (PySem.F.args_zip_next_1 _))))
 refine e1a2 he fun o ho hc=>?_;refine wpAny_bind (wpAny_isInstance (T:="StopIteration") (b:=true) (i1a2 o ho hc) isSubtype_stop ?_);exact wpAny_pure (hQ _ hk ht)
noncomputable def SubSrc (k:Bool) (h:Heap) (src:Addr) (items:Array Value):Prop:=if k then h.IsList src items else h.IsTuple src items
noncomputable abbrev iterObj (k:Bool) (src:Addr):Obj:={ cls:=.type (if k then "list_iterator" else "tuple_iterator"),data:=.fields #[.ref src,.int 0 0] }
theorem SubSrc.at {k:Bool} {h h':Heap} {src:Addr} {items:Array Value} (x:SubSrc k h src items) (k2:∀ o,h.get? src=some o→h'.get? src=some o):SubSrc k h' src items:=by
 induction k with
 | true=>exact Heap.IsList.at (show h.IsList src items from x) k2
 | false=>exact (e1a2 (show h.IsTuple src items from x) fun o e r=>(i1a2 o (k2 o e) r):h'.IsTuple src items)
theorem sub_iter {k:Bool} {src:Addr} {items:Array Value} {Q:Value→Shared→Prop} (h:SubSrc k s.heap src items) (hQ:Q (.ref s.heap.objs.size) { s with heap:=s.heap.push (iterObj k src) }) :
  wpAny (model prog w) A (pyIter (.ref src)) Q E s:=by
 induction k with
 | true=>exact wpAny_pyIter_list (show s.heap.IsList src items from h) hQ
 | false=>exact wpAny_pyIter_tuple (show s.heap.IsTuple src items from h) hQ
theorem SubAt.start {k:Bool} {h:Heap} {I src:Addr} {items:Array Value} (x:SubSrc k h src items) (hI:h.get? I=some (iterObj k src)):SubAt k h I src items 0:=by
 induction k with
 | true=>exact ⟨i1a3 _ hI rfl rfl,x⟩
 | false=>exact ⟨i1a3 _ hI rfl rfl,x⟩
noncomputable abbrev zH1 (h:Heap) (k1:Bool) (l1:Addr):Heap:=h.push (iterObj k1 l1)
noncomputable abbrev zH2 (h:Heap) (k1 k2:Bool) (l1 l2:Addr):Heap:=(zH1 h k1 l1).push (iterObj k2 l2)
noncomputable abbrev zH3 (h:Heap) (k1 k2:Bool) (l1 l2:Addr):Heap:=(zH2 h k1 k2 l1 l2).push { cls:=.type "tuple",data:=.seq #[.ref h.objs.size,.ref (zH1 h k1 l1).objs.size] }
noncomputable abbrev zH4 (h:Heap) (k1 k2:Bool) (l1 l2:Addr):Heap:=(zH3 h k1 k2 l1 l2).push { cls:=.type "tuple",data:=.seq #[.none,.none] }
noncomputable abbrev zH5 (h:Heap) (k1 k2:Bool) (l1 l2:Addr):Heap:=(zH4 h k1 k2 l1 l2).push { cls:=.type "zip",data:=.fields #[.none,.bool false,.bool false,.ref (zH2 h k1 k2 l1 l2).objs.size,.ref (zH3 h k1 k2 l1 l2).objs.size] }
theorem meets_zip (k1 k2:Bool) (l1 l2:Addr) (xs ys:Array Value) :
  Meets (Builtin.«zip.__new__» ⟨[.type "zip",.ref l1,.ref l2],[]⟩) (fun u1_ R s=>SubSrc k1 s.heap l1 xs∧SubSrc k2 s.heap l2 ys ∧
   R (.ok (.ret (.ref (zH4 s.heap k1 k2 l1 l2).objs.size))) { s with heap:=zH5 s.heap k1 k2 l1 l2 }):=
 .of_wp fun prog w A R s h=>by
  obtain ⟨hp,g,d,tk,os⟩:=s;refine e0a3 h fun hl1 hl2 h=>?_;have hsub:=sub_zip;have hL1:SubSrc k1 (Shared.heap ⟨hp,g,d,tk,os⟩) l1 xs:=hl1;have hL2:SubSrc k2 (Shared.heap ⟨hp.push (iterObj k1 l1),g,d,tk,os⟩) l2 ys:=SubSrc.at hl2 fun o e=>Heap.get?_push_of_some _ e
  wp_walk using sub_iter hL1,sub_iter hL2
  exact i1a2 _ rfl h
end
end
section
open SeqAt
section
variable {prog:Program} {w:World} {A:Around} {E:Value→Shared→Prop} {s:Shared} {κ₁ κ₂:Bool}
theorem call_zip {l1 l2:Addr} {xs ys:Array Value} {Q:Value→Shared→Prop} (hl1:SubSrc κ₁ s.heap l1 xs) (hl2:SubSrc κ₂ s.heap l2 ys)
  (h:∀ h',IsZip h' (s.heap.objs.size+4) (s.heap.objs.size+2) (s.heap.objs.size+3) .none→IsPair h' (s.heap.objs.size+2) (.ref s.heap.objs.size) (.ref (s.heap.objs.size+1)) →
   IsPair h' (s.heap.objs.size+3) .none .none→SubAt κ₁ h' s.heap.objs.size l1 xs 0→SubAt κ₂ h' (s.heap.objs.size+1) l2 ys 0→h'.objs.size=s.heap.objs.size+5 →
   (∀ c o,s.heap.get? c=some o→h'.get? c=some o)→Q (.ref (s.heap.objs.size+4)) { s with heap:=h' }) :
  wpAny (model prog w) A (call (.type "zip") [.ref l1,.ref l2]) Q E s:=by
 refine callType_new PySem.F.called_zip (by decide) (PySem.F.typeCall_zip_2 _ _) (PySem.F.newCall_zip_2 _ _) (fun obj=>PySem.F.args_object_init_3 obj _ _) PySem.F.entry_zip_new
  (meets_zip κ₁ κ₂ l1 l2 xs ys) (i0a3 hl1 hl2 ?_)
 have z1:(zH1 s.heap κ₁ l1).objs.size=s.heap.objs.size+1:=Heap.size_push ..;have z2:(zH2 s.heap κ₁ κ₂ l1 l2).objs.size=s.heap.objs.size+2:=by rw [Heap.size_push,z1]
 have z3:(zH3 s.heap κ₁ κ₂ l1 l2).objs.size=s.heap.objs.size+3:=by rw [Heap.size_push,z2]
 have z4:(zH4 s.heap κ₁ κ₂ l1 l2).objs.size=s.heap.objs.size+4:=by rw [Heap.size_push,z3]
 have z5:(zH5 s.heap κ₁ κ₂ l1 l2).objs.size=s.heap.objs.size+5:=by rw [Heap.size_push,z4]
 have g5:(zH5 s.heap κ₁ κ₂ l1 l2).get? (zH4 s.heap κ₁ κ₂ l1 l2).objs.size=some _:=Heap.get?_push_size _ rfl;have g4:(zH5 s.heap κ₁ κ₂ l1 l2).get? (zH3 s.heap κ₁ κ₂ l1 l2).objs.size=some _:=Heap.get?_push_of_some _ (Heap.get?_push_size _ rfl);have g3:(zH5 s.heap κ₁ κ₂ l1 l2).get? (zH2 s.heap κ₁ κ₂ l1 l2).objs.size=some _:=Heap.get?_push_of_some _ (Heap.get?_push_of_some _ (Heap.get?_push_size _ rfl));have g2:(zH5 s.heap κ₁ κ₂ l1 l2).get? (zH1 s.heap κ₁ l1).objs.size=some _:=Heap.get?_push_of_some _ (Heap.get?_push_of_some _ (Heap.get?_push_of_some _ (Heap.get?_push_size _ rfl)));have g1:(zH5 s.heap κ₁ κ₂ l1 l2).get? s.heap.objs.size=some _:=Heap.get?_push_of_some _ (Heap.get?_push_of_some _ (Heap.get?_push_of_some _ (Heap.get?_push_of_some _ (Heap.get?_push_size _ rfl))));have up:∀ c o,s.heap.get? c=some o→(zH5 s.heap κ₁ κ₂ l1 l2).get? c=some o:=fun c o x=>
  Heap.get?_push_of_some _ (Heap.get?_push_of_some _ (Heap.get?_push_of_some _ (Heap.get?_push_of_some _ (Heap.get?_push_of_some _ x))))
 show _∧_;rw [z2,z3,z4] at g5;rw [z1,z2] at g3;rw [z3] at g4;rw [z1] at g2;rw [z4];exact ⟨i1a2 _ g5 rfl,h _ g5 g3 g4 (.start (hl1.at fun o e=>up _ o e) g1) (.start (hl2.at fun o e=>up _ o e) g2) z5 up⟩
end
noncomputable def Side (B:Bs) (k:Bool) (H:AH) (u:V) (vs:List V):Prop:=if k then ∃ l,u=.ref l∧H l=some (.list vs) else u=.tup vs
noncomputable def SideLive (k:Bool) (src:Addr) (vs:List V) (H:AH):Prop:=if k then H src=some (.list vs) else True
theorem side_src {B:Bs} {k:Bool} {H:AH} {s:Shared} {u:V} {vs:List V} {y:Value} (a:Abs B s.heap H) (h:Side B k H u vs) (hc:Conc B s.heap u y) :
  ∃ src xs,y=.ref src∧SubSrc k s.heap src (List.toArray xs)∧ConcL B s.heap vs xs∧SideLive k src vs H∧(k=false→∃ m,s.heap.get? src=some (seqObj "tuple" (List.toArray xs) m)∧¬ B.priv src):=by
 induction k with
 | true=>
  refine e1a2 h fun l z1 hl=>?_;clear h;subst z1;have:y=.ref l:=hc;subst this;refine e2a2 (a.cell _ _ hl) fun xs m ho hx=>?_;exact i2a5 l xs rfl (IsL.isList (n:=m) ho) hx hl (fun h=>by exact z_tf h)
 | false=>
  have h':u=.tup vs:=h;subst h';refine e3a4 (conc_tup' hc) fun c xs m z1 ho hx hp=>?_;clear hc;subst z1;exact i2a5 c xs rfl (isTuple_of ho) hx trivial (fun u1_=>i1a2 m ho hp)
noncomputable def zipV (vs ws:List V):List V:=(List.range (min vs.length ws.length)).map fun i=>V.tup [vs.getD i .none,ws.getD i .none]
theorem zipV_get {vs ws:List V} {i:Nat} {v:V} (h:(zipV vs ws)[i]? = some v):∃ u t,vs[i]? = some u∧ws[i]? = some t∧v=.tup [u,t]:=by
 have hi:i < min vs.length ws.length:=by
  have:=(List.getElem?_eq_some_iff.mp h).1;simpa [zipV] using this
 have h1:i < vs.length:=Nat.lt_of_lt_of_le hi (Nat.min_le_left _ _);have h2:i < ws.length:=Nat.lt_of_lt_of_le hi (Nat.min_le_right _ _);refine i2a3 (vs[i]) (ws[i]) (by simp [h1]) (by simp [h2]) ?_;unfold zipV at h;rw [List.getElem?_map,List.getElem?_range hi] at h;simp [h1,h2] at h;exact (h).symm
section
variable {B:Bs} {n:Nat} {H:AH} {tg:Expr} {κ₁ κ₂:Bool}
noncomputable def SideAt (B:Bs) (k:Bool) (h:Heap) (I src:Addr) (vs:List V) (i:Nat):Prop:=
 if k then h.IsListIter I src i else h.IsTupleIter I src i∧∃ xs m,h.get? src=some (seqObj "tuple" (List.toArray xs) m)∧ConcL B h vs xs∧¬ B.priv src
theorem SideAt.sub {B:Bs} {k:Bool} {s:Shared} {H:AH} {I src:Addr} {vs:List V} {i:Nat} (a:Abs B s.heap H) (l:SideLive k src vs H) (x:SideAt B k s.heap I src vs i):∃ xs,SubAt k s.heap I src (List.toArray xs) i∧ConcL B s.heap vs xs:=by
 induction k with
 | true=>
  refine e2a2 (a.cell _ _ (show H src=some (.list vs) from l)) fun xs m ho hx=>?_;exact i1a2 xs ⟨x,IsL.isList (n:=m) ho⟩ hx
 | false=>
  refine e0a2 x fun hi z3=>?_;refine e2a3 z3 fun xs m ho hx u1_=>?_;exact i1a2 xs ⟨hi,isTuple_of ho⟩ hx
theorem SideAt.of {B:Bs} {k:Bool} {h h0:Heap} {I src:Addr} {vs:List V} {i j:Nat} {items:Array Value} (kt:KeepT B h0 h) (x:SideAt B k h0 I src vs i) (y:SubAt k h I src items j):SideAt B k h I src vs j:=by
 induction k with
 | true=>exact y.1
 | false=>
  refine e0a2 x fun u1_ z5=>?_;refine e2a3 z5 fun xs m ho hx hp=>?_;exact ⟨y.1,xs,m,kt.tup _ _ hp ho rfl (i2a1 _ _ rfl),hx.keep kt,hp⟩
theorem SideAt.frame {B:Bs} {k:Bool} {h h':Heap} {I src:Addr} {vs:List V} {i:Nat} (x:SideAt B k h I src vs i) (kt:KeepT B h h') (hk:∀ o,h.get? I=some o→h'.get? I=some o):SideAt B k h' I src vs i:=by
 induction k with
 | true=>exact Heap.IsListIter.at (show h.IsListIter I src i from x) hk
 | false=>
  refine e0a2 x fun z7 z8=>?_;refine e1a2 z7 fun o e r=>?_;refine e2a3 z8 fun xs m ho hx hp=>?_;exact ⟨i1a2 o (hk o e) r,xs,m,kt.tup _ _ hp ho rfl (i2a1 _ _ rfl),hx.keep kt,hp⟩
structure ZipAt (B:Bs) (κ₁ κ₂:Bool) (z TI TO i1 i2 l1 l2:Addr) (vs ws:List V) (i:Nat) (h:Heap):Prop where
 apart:ZipApart z TI TO i1 i2 l1 l2
 obj:IsZip h z TI TO .none
 ti:IsPair h TI (.ref i1) (.ref i2)
 to:∃ a b,IsPair h TO a b
 s1:SideAt B κ₁ h i1 l1 vs i
 s2:SideAt B κ₂ h i2 l2 ws i
 np:¬ B.priv z∧¬ B.priv i1∧¬ B.priv i2∧¬ B.priv TI∧B.priv TO
theorem src_zip {z TI TO i1 i2 l1 l2:Addr} {vs ws:List V} (htg:Tuple? tg=true):Src B tg (fun H=>SideLive κ₁ l1 vs H∧SideLive κ₂ l2 ws H) (zipV vs ws) (.ref z) [z,TI,TO,i1,i2] (fun i h=>ZipAt B κ₁ κ₂ z TI TO i1 i2 l1 l2 vs ws i h) where
 frame:=fun i h h' x kt k=>⟨x.apart,k z z_m0 _ x.obj,k TI z_m1 _ x.ti,e2a1 x.to fun a b e=>(i2a1 a b (k TO z_m2 _ e)),x.s1.frame kt fun o e=>k i1 z_m3 o e,x.s2.frame kt fun o e=>k i2 z_m4 o e,x.np⟩
 next:=fun i v A s H hh a live hf x hi=>by
  obtain ⟨D,hz,hTI,⟨ta,tb,hTO⟩,h1,h2,np⟩:=x;refine e2a3 (zipV_get hi) fun u t hu ht z15=>?_;clear hi;subst z15;refine e1a2 (h1.sub a live.1) fun xs sub1 hl1=>?_;refine e1a2 (h2.sub a live.2) fun ys sub2 hl2=>?_;refine e1a2 (hl1.get hu) fun x hx hcx=>?_;refine e1a2 (hl2.get ht) fun y hy hcy=>?_;refine next_zip_item D hz hTI hTO sub1 sub2 (x:=x) (y:=y) (by simpa using hx) (by simpa using hy) fun h' hz' hTO' s1' s2' hT' hsz hk=>i1a2 _ rfl ?_;clear hTO;refine e3a1 (tuple_is htg) fun es kk pos z4=>?_;subst z4;clear htg;refine wpAny_letOwnedTupleGo_zip hz' fun h'' hz'' hs''=>?_;refine e1a2 sub1.obj fun o1 ho1 d1=>?_;refine e1a2 sub2.obj fun o2 ho2 d2=>?_;have hlt:z < s.heap.objs.size:=Heap.lt_size hz;have hk1:∀ b o,b≠z→b≠TO→b≠i1→b≠i2→s.heap.get? b=some o→h''.get? b=some o:=fun b o e1 e2 e3 e4 e=>by
   refine (hs''.2 b e1).trans ?_;exact hk b o e1 e2 e3 e4 e
  have hk2:∀ b o,b ∉ [z,TI,TO,i1,i2]→s.heap.get? b=some o→h''.get? b=some o:=fun b o hb e1=>by
   simp only [List.mem_cons,List.not_mem_nil,or_false,not_or] at hb;exact hk1 b o hb.1 hb.2.2.1 hb.2.2.2.1 hb.2.2.2.2 e1
  have kt:KeepT B s.heap h'':=⟨fun b o hp e1 t ⟨zs,n,d⟩=>by
   by_cases c1:b=z
   ·clear hf D np hz' hk hz'' hs'' hlt hk1 hk2 t;subst c1;rw [hz] at e1;cases e1;cases d
   by_cases c2:b=TO
   ·clear hf D hz hz' hTO' hk hz'' hk1 hk2;subst c2;exact absurd np.2.2.2.2 hp
   by_cases c3:b=i1
   ·clear hf D hTI h1 np sub1 s1' hk hk1 hk2 t;subst c3;replace e1:=ho1.symm.trans e1;cases e1;exact absurd d (d1 _ _)
   by_cases c4:b=i2
   ·clear hf D hTI h2 np sub2 s2' hk hk1 hk2 t;subst c4;replace e1:=ho2.symm.trans e1;cases e1;exact absurd d (d2 _ _)
   exact hk1 b o c1 c2 c3 c4 e1⟩
  have hTO'':IsPair h'' TO x y:=by
   show h''.get? TO=_;refine (hs''.2 TO D.TOz).trans ?_;exact hTO'
  refine e0a2 (off (tk:=s.toks) a hf hk2 kt (fun b hb hp=>by
   simp only [List.mem_cons,List.not_mem_nil,or_false] at hb;clear hf hz hTI h1 h2 sub1 sub2 hz' s1' s2' hk hz'' ho1 ho2 hlt hk1 hk2;rcases hb with rfl | rfl | rfl | rfl | rfl
   ·exact absurd hp np.1
   ·exact absurd hp np.2.2.2.1
   ·exact ⟨_,hTO''⟩
   ·exact absurd hp np.2.1
   ·exact absurd hp np.2.2.1)) fun a' st=>?_
  have hT:h''.get? s.heap.objs.size=some (seqObj "tuple" (List.toArray [x,y]) 0):=by
   refine (hs''.2 _ (Ne.symm (Nat.ne_of_lt hlt))).trans ?_;exact hT'
  have up:∀ b o,b≠z→h'.get? b=some o→h''.get? b=some o:=fun b o hb e=>by refine (hs''.2 b hb).trans ?_;exact e
  refine i0a4 a' st ⟨D,hz'',hk1 TI _ D.TIz D.TITO D.TIi1 D.TIi2 hTI,i2a1 x y hTO'',.of kt h1 (s1'.ext (fun o e=>up _ o D.i1z e) fun o e=>up _ o D.l1z e),.of kt h2 (s2'.ext (fun o e=>up _ o D.i2z e) fun o e=>up _ o D.l2z e),np⟩ ?_;exact conc_tup_mk (a.notPriv (Nat.le_refl _)) hT ⟨_,_,rfl,hcx.keep kt,_,_,rfl,hcy.keep kt,rfl⟩
 done:=fun A s H hh a live hf x=>by
  obtain ⟨D,hz,hTI,⟨ta,tb,hTO⟩,h1,h2,np⟩:=x;have hlen:(zipV vs ws).length=min vs.length ws.length:=by simp [zipV]
  refine e1a2 (h1.sub a live.1) fun xs sub1 hl1=>?_;refine e1a2 (h2.sub a live.2) fun ys sub2 hl2=>?_;have hend:(List.toArray xs)[(zipV vs ws).length]? = none∨(List.toArray ys)[(zipV vs ws).length]? = none:=by
   rw [hlen];by_cases h:vs.length≤ws.length
   ·left;refine List.getElem?_toArray.trans ?_;exact List.getElem?_eq_none (by rw [← hl1.length];lia)
   ·right;refine List.getElem?_toArray.trans ?_;exact List.getElem?_eq_none (by rw [← hl2.length];lia)
  refine next_zip_end hh D hz hTI hTO sub1 sub2 hend fun h' hk hto=>⟨rfl,?_⟩
  refine e1a2 sub1.obj fun o1 ho1 d1=>?_;refine e1a2 sub2.obj fun o2 ho2 d2=>?_;have hk2:∀ b o,b ∉ [z,TI,TO,i1,i2]→s.heap.get? b=some o→h'.get? b=some o:=fun b o hb e1=>by
   simp only [List.mem_cons,List.not_mem_nil,or_false,not_or] at hb;exact hk b o hb.1 hb.2.2.1 hb.2.2.2.1 hb.2.2.2.2 e1
  have kt:KeepT B s.heap h':=⟨fun b o hp e1 t ⟨zs,n,d⟩=>by
   by_cases c1:b=z
   ·clear hf D np hk hk2 t;subst c1;rw [hz] at e1;cases e1;cases d
   by_cases c2:b=TO
   ·clear hf D hz hTO hk hto hk2;subst c2;exact absurd np.2.2.2.2 hp
   by_cases c3:b=i1
   ·clear hf D hTI h1 np sub1 hk hk2 t;subst c3;replace e1:=ho1.symm.trans e1;cases e1;exact absurd d (d1 _ _)
   by_cases c4:b=i2
   ·clear hf D hTI h2 np sub2 hk hk2 t;subst c4;replace e1:=ho2.symm.trans e1;cases e1;exact absurd d (d2 _ _)
   exact hk b o c1 c2 c3 c4 e1⟩
  exact off (tk:=s.toks) a hf hk2 kt (fun b hb hp=>by
   simp only [List.mem_cons,List.not_mem_nil,or_false] at hb;clear hf D hz hTI h1 h2 hTO sub1 sub2 hk ho1 ho2 hk2;rcases hb with rfl | rfl | rfl | rfl | rfl
   ·exact absurd hp np.1
   ·exact absurd hp np.2.2.2.1
   ·exact hto
   ·exact absurd hp np.2.1
   ·exact absurd hp np.2.2.1)
 there:=fun i h x b hb=>by
  simp only [List.mem_cons,List.not_mem_nil,or_false] at hb;have sideObj:∀ {k:Bool} {I src:Addr} {us:List V},SideAt B k h I src us i→∃ o,h.get? I=some o:=fun {k I src us} y=>by
   induction k with
   | true=>refine e1a2 ((show h.IsListIter I src i from y)) fun o e _=>?_;exact ⟨o,e⟩
   | false=>refine e0a2 y fun z11 _=>?_;refine e1a2 z11 fun o e _=>?_;exact ⟨o,e⟩
  rcases hb with rfl | rfl | rfl | rfl | rfl
  ·exact ⟨_,x.obj⟩
  ·exact ⟨_,x.ti⟩
  ·refine e2a1 x.to fun a b e=>?_;exact ⟨_,e⟩
  ·exact sideObj x.s1
  ·exact sideObj x.s2
 self:=fun i A s Q x q=>wpAny_pyIter_zip x.obj q
theorem UCI.zip {u t:V} {vs ws:List V} {Q:QT} (htg:Tuple? tg=true) (h1:Side B κ₁ H u vs) (h2:Side B κ₂ H t ws) (q:∀ P l1 l2,(κ₁=true→u=.ref l1)→(κ₂=true→t=.ref l2)→Q P (zipV vs ws) (fun H=>SideLive κ₁ l1 vs H∧SideLive κ₂ l2 ws H) H):UCI B n tg (.type "zip") [u,t] H Q:=by
 intro A s xs ok R a hc;refine e2a3 (conc2 hc) fun x y z22 hx hy=>?_;clear hc;subst z22;refine e2a5 (side_src a h1 hx) fun l1 xs z21 S1 hl1 v1 t1=>?_;clear v1;subst z21;refine e2a5 (side_src a h2 hy) fun l2 ys z20 S2 hl2 v2 t2=>?_;clear v2;subst z20;refine call_zip S1 S2 fun h' hz hTI hTO s1 s2 hsz hk=>wpAny_pyIter_zip hz ?_;have u1:Up B (fun b=>b=s.heap.objs.size+3∨B.priv b) s:=⟨fun b hb=>.inr hb,fun b hb=>hb.elim (fun e=>.inr (by refine e▸?_;exact Heap.get?_none_of_le (Nat.le_add_right _ _))) .inl⟩
 have lt1:l1 < s.heap.objs.size:=by
  clear h1 q t1 s1;induction κ₁ with
  | true=>exact (let ⟨o,e,_⟩:=(show s.heap.IsList l1 _ from S1);Heap.lt_size e)
  | false=>exact (let ⟨o,e,_⟩:=(show s.heap.IsTuple l1 _ from S1);Heap.lt_size e)
 have lt2:l2 < s.heap.objs.size:=by
  clear h2 q t2 s2;induction κ₂ with
  | true=>exact (let ⟨o,e,_⟩:=(show s.heap.IsList l2 _ from S2);Heap.lt_size e)
  | false=>exact (let ⟨o,e,_⟩:=(show s.heap.IsTuple l2 _ from S2);Heap.lt_size e)
 have kt:KeepT B s.heap h':=.of_keeps hk;have D:ZipApart (s.heap.objs.size+4) (s.heap.objs.size+2) (s.heap.objs.size+3) s.heap.objs.size (s.heap.objs.size+1) l1 l2:=by
  have nn:∀ (b i j:Nat),i≠j→b+i≠b+j:=fun b i j h e=>by lia
  have ll:∀ (a b:Nat),a < b→∀ k,a≠b+k:=fun a b h k e=>by lia
  exact ⟨nn _ 2 4 (by decide),nn _ 3 4 (by decide),nn _ 0 4 (by decide),nn _ 1 4 (by decide),nn _ 2 3 (by decide),nn _ 2 0 (by decide),nn _ 2 1 (by decide),nn _ 3 0 (by decide),nn _ 3 1 (by decide),nn _ 0 1 (by decide),
   ll _ _ lt1 4,ll _ _ lt1 3,ll _ _ lt1 0,ll _ _ lt1 1,ll _ _ lt2 4,ll _ _ lt2 3,ll _ _ lt2 0,ll _ _ lt2 1⟩
 have np:∀ k,k≠3→¬ (B.wp fun b=>b=s.heap.objs.size+3∨B.priv b).priv (s.heap.objs.size+k):=fun k hk3 hp=>by
  rcases hp with e | hp
  ·have nn:∀ (b i j:Nat),i≠j→b+i≠b+j:=fun b i j h e=>by lia
   exact nn _ _ _ hk3 e
  ·exact a.notPriv (Nat.le_add_right _ _) hp
 have side:∀ {k:Bool} {I src:Addr} {us:List V} {zs:List Value},SubAt k h' I src (List.toArray zs) 0→ConcL B s.heap us zs→(k=false→∃ m,s.heap.get? src=some (seqObj "tuple" (List.toArray zs) m)∧¬ B.priv src)→src < s.heap.objs.size →
   SideAt (B.wp fun b=>b=s.heap.objs.size+3∨B.priv b) k h' I src us 0:=fun {k I src us zs} x hc ht hlt=>by
  induction k with
  | true=>exact x.1
  | false=>
   refine e1a2 (ht rfl) fun m ho hp=>?_;refine ⟨x.1,zs,m,hk _ _ ho,hc.map (u1.map kt),fun hp'=>hp'.elim (fun e=>?_) hp⟩;have ll:∀ (a b:Nat),a < b→∀ k,a≠b+k:=fun a b h k e=>by lia
   exact absurd e (ll _ _ hlt 3)
 refine ⟨fun b=>b=s.heap.objs.size+3∨B.priv b,H,zipV vs ws,_,[s.heap.objs.size+4,s.heap.objs.size+2,s.heap.objs.size+3,s.heap.objs.size,s.heap.objs.size+1],_,u1,a.up u1 hk (fun b hb=>hb.elim (fun e=>⟨_,e▸hTO⟩) fun hb=>e1a1 (a.priv b hb) fun o e=>⟨o,hk b o e⟩),.grown (tk:=s.toks) hk,
  src_zip htg,⟨D,hz,hTI,i2a1 _ _ hTO,side s1 hl1 t1 lt1,side s2 hl2 t2 lt2,np 4 (by decide),np 0 (by decide),np 1 (by decide),np 2 (by decide),.inl rfl⟩,?_,?_,q _ l1 l2 ?_ ?_⟩
 ·intro b hb;simp only [List.mem_cons,List.not_mem_nil,or_false] at hb;rcases hb with rfl | rfl | rfl | rfl | rfl <;> first | exact Heap.get?_none_of_le (Nat.le_add_right _ _) | exact Heap.get?_none_of_le (Nat.le_refl _)
 ·intro b hb;simp only [List.mem_cons,List.not_mem_nil,or_false] at hb;rcases hb with rfl | rfl | rfl | rfl | rfl <;> first | exact (let f:=fresh_fp a (Nat.le_add_right _ _);(i0a3 f.1 f.2.1 f.2.2.1)) | exact (let f:=fresh_fp a (Nat.le_refl _);(i0a3 f.1 f.2.1 f.2.2.1))
 ·intro e;clear q S1 t1 s1;subst e;obtain ⟨l,rfl,_⟩:=h1;exact congrArg V.ref (Value.ref.inj (show Value.ref l1=.ref l from hx)).symm
 ·intro e;clear q S2 t2 s2;subst e;obtain ⟨l,rfl,_⟩:=h2;exact congrArg V.ref (Value.ref.inj (show Value.ref l2=.ref l from hy)).symm
end
end
section
open SeqAt
mutual
noncomputable def vhash (w:World):V→Int
 | .int i=>hashInt i
 | .str s=>hashStr w s
 | .tup vs=>reduceHash (Builtin.Tuple.tupleHashOf (vhashL w vs))
 | _=>0
noncomputable def vhashL (w:World):List V→List Int
 | []=>[]
 | v::vs=>vhash w v::vhashL w vs
end
mutual
noncomputable def V.hh:V→Bool
 | .int _=>true
 | .str _=>true
 | .tup vs=>V.hhL vs
 | _=>false
noncomputable def V.hhL:List V→Bool
 | []=>true
 | v::vs=>v.hh && V.hhL vs
end
theorem V.hh_flat (v:V):v.hh=true→v.flat=true:=
 V.rec (motive_1:=fun v=>v.hh=true→v.flat=true) (motive_2:=fun vs=>V.hhL vs=true→V.flatL vs=true) (fun h=>z_ft h) (fun _ h=>z_ft h) (fun _ _=>rfl) (fun _ _=>rfl) (fun _ h=>z_ft h) (fun _ ih h=>ih h) (fun _=>rfl)
  (fun _ _ ih1 ih2 h=>have h:=Bool.and_eq_true_iff.mp h;Bool.and_eq_true_iff.mpr ⟨ih1 h.1,ih2 h.2⟩) v
section
variable {prog:Program} {w:World} {A:Around} {E:Value→Shared→Prop} {s:Shared}
noncomputable def HashAt (prog:Program) (w:World) (A:Around) (h:Heap) (x:Value) (k:Int):Prop:=
 ∀ (s:Shared) (E:Value→Shared→Prop) (Q:Int→Shared→Prop),s.heap=h→(∀ tk,Q k { s with toks:=tk })→wpAny (model prog w) A (pyHash x) Q E s
theorem hash_tuple {h:Heap} {a:Addr} {xs:List Value} {n:Nat} {ks:List Int} (hu:A.units < cLine) (ho:h.get? a=some (seqObj "tuple" (List.toArray xs) n)) (hx:All2 (fun x k=>HashAt prog w A.in1 h x k) xs ks) :
  HashAt prog w A h (.ref a) (reduceHash (Builtin.Tuple.tupleHashOf ks)):=by
 intro s E Q hs hq;subst hs;have hT:s.TypeIs (.ref a) "tuple":=⟨_,ho,rfl⟩
 first | unfold pyHashByItsType | skip
 first | refine wpAny_bind (wpAny_cRoomFor_or (.inr hu) ?_) | skip
 refine wpAny_bind (wpAny_specialOf hT PySem.F.slot_tuple_hash.lookup ?_);show wpAny _ _ (if (some (Value.builtin "tuple.__hash__") == some Value.none)=true then _ else _) Q E s;rw [if_neg (by rw [beq_builtin_none];exact Bool.false_ne_true)];refine wpAny_bind (wpAny_specialOf hT PySem.F.slot_tuple_hash.lookup ?_);show wpAny _ _ (callSpecialIfBoundUnlessNone? (.ref a) "__hash__" _ >>= _) Q E s;refine wpAny_bind (wpAny_callSpecialIfBoundUnlessNone?_slot hT PySem.F.slot_tuple_hash (wpAny_call_entry PySem.F.slot_tuple_hash hT PySem.F.entry_tuple_hash ?_ (PySem.F.args_tuple_hash_1 _)));show wpAny _ _ (Builtin.Tuple.tupleItemsOf (.ref a) >>= _) _ _ s;refine wpAny_bind (wpAny_tupleItemsOf ho rfl ?_);refine wpAny_bind ?_;rw [← Array.forIn_toList];refine wpAny_forIn_list _ (fun rest (b:Array Int) s'=>∃ done left,ks=done++left∧All2 (fun x k=>HashAt prog w A.in1 s.heap x k) rest left∧b.toList=done∧∃ tk,s'={ s with toks:=tk }) _ ?_ ?_ _ _ ⟨[],ks,rfl,hx,rfl,s.toks,rfl⟩
 ·intro x rest b s' z9;refine e2a4 z9 fun done left z10 hl hb z11=>?_;clear hq hx z9;subst z10;refine e1a1 z11 fun tk z12=>?_;clear z11;subst z12;cases hl with
  | @cons _ k _ ks' h1 hl'=>
   refine wpAny_bind (h1 _ _ _ rfl fun tk'=>?_)
   first
    | exact wpAny_pure ⟨done++[k],ks',by simp,hl',by simp [hb],tk',rfl⟩
    | exact wpAny_bind (wpAny_pure (wpAny_pure ⟨done++[k],ks',by simp,hl',by simp [hb],tk',rfl⟩))
 ·intro b s' z3;refine e2a4 z3 fun done left z4 hl hb z5=>?_;clear hx z3;subst z4;refine e1a1 z5 fun tk z6=>?_;clear z5;refine z_er z6 ?_;cases hl;rw [List.append_nil] at hq;show wpAny _ _ (retInt (Builtin.Tuple.tupleHashOf b.toList)) _ _ _;refine hb▸?_;refine wpAny_ret_mkInt ?_;show wpAny _ _ (if (decide (-(2:Int) ^ 63≤Builtin.Tuple.tupleHashOf done) && decide (Builtin.Tuple.tupleHashOf done < 2 ^ 63))=true then _ else _) Q E _;unfold reduceHash at hq;by_cases hr:(decide (-(2:Int) ^ 63≤Builtin.Tuple.tupleHashOf done) && decide (Builtin.Tuple.tupleHashOf done < 2 ^ 63))=true
  ·rw [if_pos hr];rw [if_pos hr] at hq;exact wpAny_pure (hq _)
  ·rw [if_neg hr];rw [if_neg hr] at hq;exact wpAny_bind (wpAny_rule (wpAny_pure (hq _)))
end
theorem vhash_at {B:Bs} {h:Heap} (v:V):∀ (x:Value) (A:Around),v.hh=true→A.units+v.deep < cLine→Conc B h v x→HashAt B.prog B.w A h x (vhash B.w v):=by
 refine V.rec (motive_1:=fun v=>∀ (x:Value) (A:Around),v.hh=true→A.units+v.deep < cLine→Conc B h v x→HashAt B.prog B.w A h x (vhash B.w v))
  (motive_2:=fun vs=>∀ (xs:List Value) (A:Around),V.hhL vs=true→A.units+V.deepL vs < cLine→ConcL B h vs xs→All2 (fun x k=>HashAt B.prog B.w A h x k) xs (vhashL B.w vs)) ?_ ?_ ?_ ?_ ?_ ?_ ?_ ?_ v
 ·exact fun x A hv=>z_ft hv
 ·exact fun b x A hv=>z_ft hv
 ·intro i x A hv hu hc;obtain ⟨t,rfl⟩:=hc;intro s E Q hs hq;exact wpAny_pyHash_int (hq _)
 ·intro i x A hv hu hc;obtain ⟨t,rfl⟩:=hc;intro s E Q hs hq;exact wpAny_pyHash_str (hq _)
 ·exact fun b x A hv=>z_ft hv
 ·intro vs ih x A hv hu hc;have hu:A.units+(V.deepL vs+1) < cLine:=hu;refine e3a4 (conc_tup' hc) fun a xs n z14 ho hl hp=>?_;clear hc hp;subst z14;exact hash_tuple (by exact y53 (by assumption)) ho (ih xs A.in1 hv (by show A.units+1+V.deepL vs < cLine;lia) hl)
 ·intro xs A hv hu hc;have:xs=[]:=hc;subst this;exact .nil
 ·intro v vs ih1 ih2 xs A hv hu hc;refine e2a3 hc fun x r z13 h1 h2=>?_;clear hc;subst z13;have hv:=Bool.and_eq_true_iff.mp hv;have hu:A.units+max v.deep (V.deepL vs) < cLine:=hu;exact .cons (ih1 x A hv.1 (by exact y28 (by assumption)) h1) (ih2 r A hv.2 (by exact y27 (by assumption)) h2)
end
section
open SeqAt
section
variable {B:Bs} {A:Around} {E:Value→Shared→Prop} {s:Shared}
noncomputable def QuietAt (M:Model) (h:Heap) (n:Nat) (x:Value):Prop:=∀ (A:Around) (E:Value→Shared→Prop) (s:Shared) (Q:Bool→Shared→Prop),s.heap=h→Q true s→wpAny M A (eqIsQuiet n x) Q E s
noncomputable def PlainAt (M:Model) (h:Heap) (n:Nat) (x:Value):Prop:=∀ (A:Around) (E:Value→Shared→Prop) (s:Shared) (Q:Bool→Shared→Prop),s.heap=h→Q false s→wpAny M A (ofAClassStatement n x) Q E s
theorem quiet_tuple {M:Model} {h:Heap} {a:Addr} {xs:List Value} {m n:Nat} (ho:h.get? a=some (seqObj "tuple" (List.toArray xs) m)) (hx:∀ x∈xs,QuietAt M h n x):QuietAt M h (n+1) (.ref a):=by
 intro A E s Q hs hq;subst hs;have hT:s.TypeIs (.ref a) "tuple":=i1a2 _ ho rfl;unfold eqIsQuiet;refine wpAny_bind (wpAny_specialOf hT PySem.F.slot_tuple_eq.lookup ?_);show wpAny _ _ (isInstance (.ref a) (.type "tuple") >>= _) Q E s;refine wpAny_bind (wpAny_isInstance hT isSubtype_tuple_tuple ?_);simp only [Bool.not_true,Bool.false_eq_true,if_false];refine wpAny_bind (wpAny_seqItems ho rfl ?_);refine wpAny_bind ?_;show wpAny _ _ (forIn (List.toArray xs) _ _) _ _ s;rw [← Array.forIn_toList];refine wpAny_forIn_list _ (fun rest r s'=>r.1=none∧s'=s∧∀ v∈rest,QuietAt M s.heap n v) _ ?_ ?_ _ _ (i0a3 rfl rfl hx)
 ·clear hq ho hx hT;intro v rest r s' z1;refine e0a3 z1 fun hr z2 hall=>?_;clear z1;subst z2;refine wpAny_bind (hall v List.mem_cons_self _ _ _ _ rfl ?_);simp only [Bool.not_true,Bool.false_eq_true,if_false];exact wpAny_pure (i0a3 rfl rfl (fun u hu'=>hall u (List.mem_cons_of_mem _ hu')))
 ·clear ho hx hT;rintro ⟨r1,r2⟩ s' ⟨hr,rfl,u1_⟩;simp only at hr;subst hr;exact wpAny_pure hq
theorem class_tuple {M:Model} {h:Heap} {a:Addr} {xs:List Value} {m n:Nat} (ho:h.get? a=some (seqObj "tuple" (List.toArray xs) m)) (hx:∀ x∈xs,PlainAt M h n x):PlainAt M h (n+1) (.ref a):=by
 intro A E s Q hs hq;subst hs;have hT:s.TypeIs (.ref a) "tuple":=i1a2 _ ho rfl;unfold ofAClassStatement;refine wpAny_bind (wpAny_typeOf hT ?_);dsimp only;refine wpAny_bind (wpAny_pure ?_);simp only [Bool.not_true,Bool.false_eq_true,if_false];refine wpAny_bind (wpAny_seqItems ho rfl ?_);refine wpAny_bind ?_;show wpAny _ _ (forIn (List.toArray xs) _ _) _ _ s;rw [← Array.forIn_toList];refine wpAny_forIn_list _ (fun rest r s'=>r.1=none∧s'=s∧∀ v∈rest,PlainAt M s.heap n v) _ ?_ ?_ _ _ (i0a3 rfl rfl hx)
 ·clear hq ho hx hT;intro v rest r s' z11;refine e0a3 z11 fun hr z12 hall=>?_;clear z11;subst z12;refine wpAny_bind (hall v List.mem_cons_self _ _ _ _ rfl ?_);simp only [Bool.false_eq_true,if_false];exact wpAny_pure (i0a3 rfl rfl (fun u hu'=>hall u (List.mem_cons_of_mem _ hu')))
 ·clear ho hx hT;rintro ⟨r1,r2⟩ s' ⟨hr,rfl,u1_⟩;simp only at hr;subst hr;exact wpAny_pure hq
theorem plain_byValue {M:Model} {h:Heap} (n:Nat) {v:Value} (hv:carriedByValue v=true):PlainAt M h n v:=by
 intro A E s Q hs hq;induction v with
 | ref a=>simp [carriedByValue] at hv
 | _=>(induction n <;> exact wpAny_pure hq)
theorem quiet_byValue {M:Model} {h:Heap} (n:Nat) {v:Value} (hv:carriedByValue v=true):QuietAt M h n v:=by
 intro A E s Q hs hq;refine eqIsQuiet_byValue n hv▸?_;exact wpAny_pure hq
end
theorem quiet_V {B:Bs} {h:Heap} (v:V):∀ (x:Value) (n:Nat),v.hh=true→v.deep≤n→Conc B h v x→QuietAt B.M h n x∧PlainAt B.M h n x:=by
 refine V.rec (motive_1:=fun v=>∀ (x:Value) (n:Nat),v.hh=true→v.deep≤n→Conc B h v x→QuietAt B.M h n x∧PlainAt B.M h n x)
  (motive_2:=fun vs=>∀ (xs:List Value) (n:Nat),V.hhL vs=true→V.deepL vs≤n→ConcL B h vs xs→∀ x∈xs,QuietAt B.M h n x∧PlainAt B.M h n x) ?_ ?_ ?_ ?_ ?_ ?_ ?_ ?_ v
 ·exact fun x A hv=>z_ft hv
 ·exact fun b x A hv=>z_ft hv
 ·intro i x n hv hu hc;obtain ⟨t,rfl⟩:=hc;exact ⟨quiet_byValue n rfl,plain_byValue n rfl⟩
 ·intro i x n hv hu hc;obtain ⟨t,rfl⟩:=hc;exact ⟨quiet_byValue n rfl,plain_byValue n rfl⟩
 ·exact fun b x A hv=>z_ft hv
 ·intro vs ih x n hv hu hc;refine e3a4 (conc_tup' hc) fun a xs m z22 ho hl hp=>?_;clear hc hp;subst z22;induction n with
  | zero=>exact absurd hu (Nat.not_succ_le_zero _)
  | succ n=>
   have ih:=ih xs n hv (Nat.le_of_succ_le_succ hu) hl;exact ⟨quiet_tuple ho fun y hy=>(ih y hy).1,class_tuple ho fun y hy=>(ih y hy).2⟩
 ·intro xs n hv hu hc;have:xs=[]:=hc;subst this;exact nofun
 ·intro v vs ih1 ih2 xs n hv hu hc;refine e2a3 hc fun x r z21 h1 h2=>?_;clear hc;subst z21;have hv:=Bool.and_eq_true_iff.mp hv;intro y hy;cases hy with
  | head=>exact ih1 x n hv.1 (Nat.le_trans (Nat.le_max_left _ _) hu) h1
  | tail _ hy=>exact ih2 r n hv.2 (Nat.le_trans (Nat.le_max_right _ _) hu) h2 y hy
theorem quietL_V {B:Bs} {h:Heap} (vs:List V):∀ (xs:List Value) (n:Nat),V.hhL vs=true→V.deepL vs≤n→ConcL B h vs xs→∀ x∈xs,QuietAt B.M h n x∧PlainAt B.M h n x:=by
 induction vs with
 | nil=>
  intro xs n hv hu hc;have:xs=[]:=hc;subst this;exact nofun
 | cons v vs ih2=>
  intro xs n hv hu hc;refine e2a3 hc fun x r z21 h1 h2=>?_;clear hc;subst z21;have hv:=Bool.and_eq_true_iff.mp hv;intro y hy;cases hy with
  | head=>exact quiet_V v x n hv.1 (Nat.le_trans (Nat.le_max_left _ _) hu) h1
  | tail _ hy=>exact ih2 r n hv.2 (Nat.le_trans (Nat.le_max_right _ _) hu) h2 y hy
theorem seen_none {M:Model} {A:Around} {E:Value→Shared→Prop} {s:Shared} {x:Value} {ys:List Value} {Q:Bool→Shared→Prop} (hx:QuietAt M s.heap 8 x∧PlainAt M s.heap 8 x) (hy:∀ y∈ys,QuietAt M s.heap 8 y∧PlainAt M s.heap 8 y) (hq:Q false s) :
  wpAny M A (searchCouldBeSeen x ys) Q E s:=by
 refine wpAny_bind ?_;refine wpAny_forIn_list _ (fun rest r s'=>r.1=none∧s'=s∧∀ v∈rest,QuietAt M s.heap 8 v∧PlainAt M s.heap 8 v) _ ?_ ?_ _ _ (i0a3 rfl rfl hy)
 ·clear hy hq;rintro v rest r s' ⟨hr,rfl,hall⟩;have hv:=hall v List.mem_cons_self;have hrest:∀ u∈rest,QuietAt M s'.heap 8 u∧PlainAt M s'.heap 8 u:=fun u hu=>hall u (List.mem_cons_of_mem _ hu);dsimp only
  repeat' split
  all_goals first
   | exact wpAny_pure ⟨rfl,rfl,hrest⟩
   | (refine wpAny_bind (hx.1 _ _ _ _ rfl ?_);simp only [Bool.not_true,Bool.false_eq_true,if_false];refine wpAny_bind (hv.1 _ _ _ _ rfl ?_);simp only [Bool.not_true,Bool.false_eq_true,if_false];refine wpAny_bind (hx.2 _ _ _ _ rfl ?_);simp only [Bool.false_eq_true,if_false];refine wpAny_bind (hv.2 _ _ _ _ rfl ?_);simp only [Bool.false_eq_true,if_false];exact wpAny_pure ⟨rfl,rfl,hrest⟩)
 ·clear hx hy;rintro ⟨r1,r2⟩ s' ⟨hr,rfl,u1_⟩;simp only at hr;subst hr;exact wpAny_pure hq
end
section
open SeqAt
noncomputable def adv (t:SetTable):Nat→SetTable.Probe→SetTable.Probe
 | 0,p=>p
 | k+1,p=>adv t k (t.advance p)
theorem adv_add (t:SetTable):∀ (a b:Nat) (p:SetTable.Probe),adv t (a+b) p=adv t b (adv t a p):=by
 intro a;induction a with
 | zero=>
  intro b p;simp [adv]
 | succ a ih_=>
  intro b p;rw [show a+1+b=(a+b)+1 by lia];simp only [adv];exact ih_ b _
noncomputable def blk (mask i pb:Nat):SetTable.Probe:={ j:=i,more:=SetTable.runEnd mask i - i,i:=i,perturb:=pb,dummy:=none }
theorem adv_block (t:SetTable):∀ (m:Nat) (p:SetTable.Probe),p.more=m→p.dummy=none→adv t (m+1) p=blk t.mask (SetTable.leap t.mask p.i p.perturb).1 (SetTable.leap t.mask p.i p.perturb).2:=by
 intro m;induction m with
 | zero=>
  intro p h hd;simp only [adv];dsimp only [ SetTable.advance];refine (if_neg (by lia)).trans ?_;simp only [blk,hd]
 | succ m ih_=>
  intro p h hd;have:adv t (m+1+1) p=adv t (m+1) (t.advance p):=rfl;refine this.trans ?_;have e:t.advance p={ p with j:=p.j+1,more:=p.more - 1 }:=by
   exact if_pos (by exact y07 (by assumption))
  rw [e,ih_ _ (by simp;exact y08 (by assumption)) (by simpa using hd)]
theorem runEnd_le (mask i:Nat):SetTable.runEnd mask i - i≤9:=by
 unfold SetTable.runEnd;split <;> simp
noncomputable def lp (mask:Nat):Nat→Nat × Nat→Nat × Nat
 | 0,q=>q
 | m+1,q=>lp mask m (SetTable.leap mask q.1 q.2)
theorem adv_leaps (t:SetTable):∀ (m:Nat) (q:Nat × Nat),∃ k,k≤10 * m∧adv t k (blk t.mask q.1 q.2)=blk t.mask (lp t.mask m q).1 (lp t.mask m q).2:=by
 intro m;induction m with
 | zero=>
  intro q;exact i1a2 0 (Nat.le_refl _) rfl
 | succ m ih_=>
  intro q;refine e1a2 (ih_ (SetTable.leap t.mask q.1 q.2)) fun k h1 h2=>?_;have h3:=adv_block t _ (blk t.mask q.1 q.2) rfl rfl;refine i1a2 ((blk t.mask q.1 q.2).more+1+k) ?_ ?_
  ·have:=runEnd_le t.mask q.1;show SetTable.runEnd t.mask q.1 - q.1+1+k≤_;lia
  ·simp only [adv_add,h3];exact h2
theorem lp_add (mask:Nat):∀ (a b:Nat) (q:Nat × Nat),lp mask (a+b) q=lp mask b (lp mask a q):=by
 intro a;induction a with
 | zero=>
  intro b q;simp [lp]
 | succ a ih_=>
  intro b q;rw [show a+1+b=(a+b)+1 by lia];simp only [lp];exact ih_ b _
theorem lp_perturb (mask:Nat):∀ (m:Nat) (q:Nat × Nat),(lp mask m q).2=q.2 / 32 ^ m:=by
 intro m;induction m with
 | zero=>
  intro q;simp [lp]
 | succ m ih_=>
  intro q;simp only [lp];simp only [ih_];show q.2 / 32 / 32 ^ m=_;simp only [Nat.div_div_eq_div_mul,Nat.pow_succ,Nat.mul_comm]
theorem leap_lt (mask i pb:Nat):(SetTable.leap mask i pb).1 < mask+1:=Nat.mod_lt _ (Nat.succ_pos _)
theorem lp_lt (mask:Nat):∀ (m:Nat) (q:Nat × Nat),q.1 < mask+1→(lp mask m q).1 < mask+1:=by
 intro m;induction m with
 | zero=>
  intro q h;exact h
 | succ m ih_=>
  intro q h;exact ih_ _ (leap_lt _ _ _)
theorem cyc7:∀ i,i < 8→∀ j,j < 8→∃ m,m < 8∧(lp 7 m (i,0)).1=j:=by decide +kernel
theorem cyc31:∀ i,i < 32→∀ j,j < 32→∃ m,m < 32∧(lp 31 m (i,0)).1=j:=by decide +kernel
theorem lp_reach {mask:Nat} (hm:mask=7∨mask=31) {q:Nat × Nat} (h1:q.1 < mask+1) (h2:q.2 < 2 ^ 64) {j:Nat} (hj:j < mask+1):∃ m,m≤mask+13∧(lp mask m q).1=j:=by
 have e:(lp mask 13 q).2=0:=by
  rw [lp_perturb];exact Nat.div_eq_of_lt (Nat.lt_of_lt_of_le h2 (by decide))
 have hl:=lp_lt mask 13 q h1;have e2:lp mask 13 q=((lp mask 13 q).1,0):=by simp only [← e]
 clear e;rcases hm with rfl | rfl
 ·refine e1a2 (cyc7 _ hl j hj) fun m a b=>?_;exact i1a2 (13+m) (by lia) (by rw [lp_add,e2];exact b)
 ·refine e1a2 (cyc31 _ hl j hj) fun m a b=>?_;exact i1a2 (13+m) (by lia) (by rw [lp_add,e2];exact b)
theorem bits_lt (h:Int):SetTable.bits h < 2 ^ 64:=by
 unfold SetTable.bits;exact (Int.toNat_lt (Int.emod_nonneg _ (by decide))).mpr (Int.emod_lt_of_pos _ (by decide))
theorem probe_reach (t:SetTable) (hm:t.mask=7∨t.mask=31) (h:Int) {j:Nat} (hj:j < t.mask+1):∃ k,k≤10 * (t.mask+13)∧(adv t k (t.probeStart h)).j=j:=by
 refine e1a2 (lp_reach hm (q:=(SetTable.bits h % (t.mask+1),SetTable.bits h)) (Nat.mod_lt _ (Nat.succ_pos _)) (bits_lt h) hj) fun m h1 h2=>?_;refine e1a2 (adv_leaps t m (SetTable.bits h % (t.mask+1),SetTable.bits h)) fun k h3 h4=>?_;refine i1a2 k (by lia) ?_;have:t.probeStart h=blk t.mask (SetTable.bits h % (t.mask+1)) (SetTable.bits h):=rfl;simp only [this,h4];exact h2
noncomputable abbrev Rise (xs:Array Nat):Prop:=xs.toList.Pairwise (· < ·)
theorem Rise.lt {xs:Array Nat} (h:Rise xs) {i j:Nat} (hij:i < j) (hj:j < xs.size):xs.getD i 0 < xs.getD j 0:=by
 have hi:=Nat.lt_trans hij hj;have h1:=List.pairwise_iff_getElem.mp h i j (by simpa using hi) (by simpa using hj) hij;have e1:xs.getD i 0=xs[i]:=by simp [hi]
 have e2:xs.getD j 0=xs[j]:=by simp [hj]
 simp only [e1,e2];simpa using h1
theorem below_go {xs:Array Nat} (h:Rise xs) (j:Nat):∀ (fuel lo hi:Nat),lo≤hi→hi≤xs.size→hi - lo≤fuel→(∀ k,k < lo→xs.getD k 0 < j)→(∀ k,hi≤k→k < xs.size→j≤xs.getD k 0) →
  (SetTable.below.go xs j fuel lo hi≤xs.size∧(∀ k,k < SetTable.below.go xs j fuel lo hi→xs.getD k 0 < j)∧∀ k,SetTable.below.go xs j fuel lo hi≤k→k < xs.size→j≤xs.getD k 0):=by
 intro fuel;induction fuel with
 | zero=>
  intro lo hi h1 h2 h3 h4 h5;have:lo=hi:=Nat.le_antisymm h1 (Nat.le_of_sub_eq_zero (Nat.le_zero.mp h3));clear h1 h3;subst this;exact i0a3 h2 h4 h5
 | succ fuel ih=>
  intro lo hi h1 h2 h3 h4 h5;unfold SetTable.below.go;by_cases hl:lo < hi
  ·rw [if_pos hl];dsimp only;have hm:(lo+hi) / 2 < xs.size:=Nat.lt_of_lt_of_le (y73 hl) h2;by_cases hc:xs.getD ((lo+hi) / 2) j < j
   ·rw [if_pos hc];have e:xs.getD ((lo+hi) / 2) 0 < j:=by simpa [hm] using hc
    refine ih _ _ (y73 hl) h2 (by exact y17 (by assumption) (by assumption)) (fun k hk=>?_) h5;by_cases hk2:k=(lo+hi) / 2
    ·refine hk2▸?_;exact e
    ·exact Nat.lt_trans (h.lt (show k < (lo+hi) / 2 by exact y47 (by assumption) (by assumption)) hm) e
   ·rw [if_neg hc];have e:j≤xs.getD ((lo+hi) / 2) 0:=by
     have:¬ xs.getD ((lo+hi) / 2) 0 < j:=by simpa [hm] using hc
     exact Nat.le_of_not_lt ‹_›
    refine ih _ _ (y72 hl) (Nat.le_of_lt hm) (by exact y16 (by assumption) (by assumption)) h4 (fun k hk hk2=>?_);by_cases hk3:k=(lo+hi) / 2
    ·refine hk3▸?_;exact e
    ·have:=h.lt (show (lo+hi) / 2 < k by exact Nat.lt_of_le_of_ne ‹_› (Ne.symm ‹_›)) hk2;exact Nat.le_trans ‹_› (Nat.le_of_lt ‹_›)
  ·rw [if_neg hl];have:lo=hi:=by exact y38 (by assumption) (by assumption)
   clear h1 h3 hl;subst this;exact i0a3 h2 h4 h5
theorem below_spec {xs:Array Nat} (h:Rise xs) (j:Nat):SetTable.below xs j≤xs.size∧(∀ k,k < SetTable.below xs j→xs.getD k 0 < j)∧∀ k,SetTable.below xs j≤k→k < xs.size→j≤xs.getD k 0:=
 below_go h j xs.size 0 xs.size (Nat.zero_le _) (Nat.le_refl _) (by exact Nat.sub_le _ _) (fun k hk=>absurd hk (Nat.not_lt_zero _)) (fun k hk hk2=>absurd hk2 (by exact y62 (by assumption) (by assumption)))
theorem below_at {xs:Array Nat} (h:Rise xs) {i j:Nat} (hi:i≤xs.size) (h1:∀ k,k < i→xs.getD k 0 < j) (h2:∀ k,i≤k→k < xs.size→j≤xs.getD k 0):SetTable.below xs j=i:=by
 refine e0a3 (below_spec h j) fun a b c=>?_;rcases Nat.lt_trichotomy (SetTable.below xs j) i with e | e | e
 ·have:=h1 _ e;have:=c _ (Nat.le_refl _) (by exact Nat.lt_of_lt_of_le ‹_› ‹_›);exact y62 (by assumption) (by assumption)
 ·exact e
 ·have:=b _ e;have:=h2 _ (Nat.le_refl _) (by exact Nat.lt_of_lt_of_le ‹_› ‹_›);exact y62 (by assumption) (by assumption)
noncomputable def after (xs:Array Nat) (i:Nat):Nat:=if i=0 then 0 else xs.getD (i - 1) 0+1
theorem below_after {xs:Array Nat} (h:Rise xs) {i:Nat} (hi:i≤xs.size):SetTable.below xs (after xs i)=i:=by
 refine below_at h hi (fun k hk=>?_) (fun k hk hk2=>?_)
 ·unfold after;rw [if_neg (Nat.ne_of_gt (Nat.zero_lt_of_lt hk))];by_cases e:k=i - 1
  ·refine e▸?_;exact Nat.le_refl _
  ·exact Nat.lt_succ_of_lt (h.lt (y79 (Nat.le_sub_one_of_lt hk) e) (Nat.lt_of_lt_of_le (y75 (Nat.zero_lt_of_lt hk)) hi))
 ·unfold after;by_cases e:i=0
  ·rw [if_pos e];exact nbl rfl
  ·rw [if_neg e];exact h.lt (Nat.lt_of_lt_of_le (Nat.sub_one_lt e) hk) hk2
theorem put_rise {xs:Array Nat} (h:Rise xs) {j:Nat} (hj:xs[SetTable.below xs j]?≠some j):Rise (SetTable.insertAt xs (SetTable.below xs j) j):=by
 refine e0a3 (below_spec h j) fun a b c=>?_;show (SetTable.insertAt xs (SetTable.below xs j) j).toList.Pairwise (· < ·);rw [SetTable.toList_insertAt,List.pairwise_append];have hd:∀ y∈xs.toList.drop (SetTable.below xs j),j < y:=fun y hy=>by
  refine e1a1 (List.getElem?_of_mem hy) fun k hk=>?_;replace hk:=List.getElem?_drop.symm.trans hk;refine e1a1 (List.getElem?_eq_some_iff.mp hk) fun h1 h2=>?_;simp only [Array.length_toList] at h1;have e1:xs.getD (SetTable.below xs j+k) 0=y:=by simp only [← h2];simp [h1]
  have:=c _ (Nat.le_add_right _ k) h1;rw [e1] at this;by_cases hk0:k=0
  ·clear h1 h2 e1;subst hk0;have e2:xs[SetTable.below xs j]? = some y:=by refine (Array.getElem?_toList).symm▸?_;exact hk
   have:y≠j:=fun e=>hj (by refine e2▸?_;exact e▸rfl);exact Nat.lt_of_le_of_ne ‹_› (Ne.symm ‹_›)
  ·have h3:=h.lt (show SetTable.below xs j < SetTable.below xs j+k by lia) h1;have h4:=c _ (Nat.le_refl _) (by exact y53 (by assumption));rw [e1] at h3;exact Nat.lt_of_le_of_lt ‹_› ‹_›
 refine i0a3 (h.sublist (List.take_sublist _ _)) (List.pairwise_cons.mpr ⟨hd,h.sublist (List.drop_sublist _ _)⟩) (fun x hx y hy=>?_);have hxj:x < j:=by
  refine e1a1 (List.getElem?_of_mem hx) fun k hk=>?_;rw [List.getElem?_take] at hk;split at hk
  ·rename_i hk2;refine e1a1 (List.getElem?_eq_some_iff.mp hk) fun h1 h2=>?_;simp only [Array.length_toList] at h1;have e1:xs.getD k 0=x:=by simp only [← h2];simp [h1]
   have:=b _ hk2;refine Nat.lt_of_le_of_lt ?_ ‹_›;exact Nat.le_of_eq (Eq.symm ‹_›)
  ·exact z_ns hk
 clear hj a b c hx;rcases List.mem_cons.mp hy with rfl | hy
 ·exact hxj
 ·exact Nat.lt_trans hxj (hd y hy)
theorem slot_dead {t:SetTable} {j:Nat} (h:∀ i,t.slot j≠.live i):t.place[SetTable.below t.place j]?≠some j:=by
 intro e;refine h (SetTable.below t.place j) ?_;dsimp only [ SetTable.slot];rw [if_pos (by simp [e])]
theorem go_dead {t:SetTable} (hashAt:Nat→Int) (hash:Int):∀ (fuel:Nat) (p:SetTable.Probe),(∀ d,p.dummy=some d→t.slot d=.dummy)→∀ j o,SetTable.probe.go t hashAt hash fuel p=some (.empty j o)→t.slot j=.empty∧∀ d,o=some d→t.slot d=.dummy:=by
 have hadv:∀ p,(t.advance p).dummy=p.dummy:=fun p=>by unfold SetTable.advance;split <;> rfl
 intro fuel;induction fuel with
 | zero=>intro p u1_ j o h;exact z_ns h
 | succ fuel ih=>
  intro p hd j o h;dsimp only [ SetTable.probe.go] at h;induction hp:t.slot p.j with
  | empty=>
   rw [hp] at h;simp only [Option.some.injEq,SetTable.Met.empty.injEq] at h;obtain ⟨rfl,rfl⟩:=h;exact ⟨hp,hd⟩
  | dummy=>
   rw [hp] at h;dsimp only at h;exact ih _ (fun d e=>by rw [hadv] at e;simp only [Option.some.injEq] at e;refine (e).symm▸?_;exact hp) j o h
  | live i=>
   replace h:=hp▸h;dsimp only at h;split at h
   ·exact nomatch h
   ·exact ih _ (fun d e=>by rw [hadv] at e;exact hd d e) j o h
set_option tactic.hygienic true in
theorem freeSlot_dead {t:SetTable} {h:Int} {j:Nat} {b:Bool} (e:t.freeSlot h=some (j,b)):t.place[SetTable.below t.place j]?≠some j:=by
 unfold SetTable.freeSlot SetTable.probe at e;split at e
 ·rename_i j' o hp;refine e0a2 (go_dead (t:=t) (fun _=>h+1) h _ _ (fun d hd=>by exact z_ns hd) _ _ hp) fun h1 h2=>?_;clear hp;cases e;induction o with
  | none=>exact slot_dead fun i=>by simp only [Option.getD_none,h1];exact fun h=>nomatch h
  | some d=>exact slot_dead fun i=>by simp only [Option.getD_some,h2 d rfl];exact fun h=>nomatch h
 ·exact z_ns e
structure TabOK (t:SetTable) (n:Nat):Prop where
 size:t.place.size=n
 dum:t.dummies=#[]
 room:(t.mask=7∧n≤4)∨(t.mask=31∧n≤15)
 rise:Rise t.place
theorem TabOK.mask {t:SetTable} {n:Nat} (h:TabOK t n):t.mask=7∨t.mask=31:=h.room.imp (·.1) (·.1)
theorem TabOK.fits {t:SetTable} {n:Nat} (h:TabOK t n):t.fits n=true:=by
 simp only [SetTable.fits,SetTable.fill,Bool.and_eq_true,beq_iff_eq,decide_eq_true_eq,h.size,h.dum];refine ⟨trivial,?_⟩;simp only [List.size_toArray,List.length_nil];rcases h.room with ⟨a,b⟩ | ⟨a,b⟩ <;> lia
theorem slot_live {t:SetTable} {n j i:Nat} (h:TabOK t n) (hs:t.slot j=.live i):i < n:=by
 unfold SetTable.slot at hs;dsimp only at hs;split at hs
 ·rename_i hp;cases hs;simp only [beq_iff_eq] at hp;have:=(Array.getElem?_eq_some_iff.mp hp).1;rw [h.size] at this;exact this
 ·split at hs <;> exact nomatch hs
theorem slot_ne_dummy {t:SetTable} {n j:Nat} (h:TabOK t n):t.slot j≠.dummy:=by
 intro hs;unfold SetTable.slot at hs;dsimp only at hs;split at hs
 ·cases hs
 ·split at hs
  ·rename_i hd;rw [h.dum] at hd;simp [SetTable.has] at hd
  ·exact nomatch hs
theorem slot_empty {t:SetTable} {n j:Nat} (h:TabOK t n) (hj:j ∉ t.place.toList):t.slot j=.empty:=by
 dsimp only [ SetTable.slot];rw [if_neg,if_neg]
 ·rw [h.dum];simp [SetTable.has]
 ·intro hp;simp only [beq_iff_eq] at hp;refine e1a1 (Array.getElem?_eq_some_iff.mp hp) fun h1 h2=>?_;exact hj (by refine (h2).symm▸?_;exact Array.getElem_mem_toList h1)
theorem free_exists {t:SetTable} {n:Nat} (h:TabOK t n):∃ j,j < t.mask+1∧j ∉ t.place.toList:=by
 by_cases c:∃ j,j < t.mask+1∧j ∉ t.place.toList
 ·exact c
 ·exfalso;have hall:∀ j∈List.range (t.mask+1),j∈t.place.toList:=fun j hj=>by
   by_cases e:j∈t.place.toList
   ·exact e
   ·exact absurd ⟨j,List.mem_range.mp hj,e⟩ c
  have:=List.Nodup.length_le_of_subset List.nodup_range hall;have hsz:=h.size;simp only [List.length_range,Array.length_toList] at this;rcases h.room with ⟨a,b⟩ | ⟨a,b⟩ <;> lia
theorem start_empty {t:SetTable} {n:Nat} (h:TabOK t n) (hash:Int):∃ k,k < 10 * SetTable.turns t.mask∧t.slot (adv t k (t.probeStart hash)).j=.empty:=by
 refine e1a2 (free_exists h) fun j h1 h2=>?_;refine e1a2 (probe_reach t h.mask hash h1) fun k h3 h4=>?_;exact i1a2 k (by unfold SetTable.turns;lia) (by refine h4▸?_;exact slot_empty h h2)
theorem advance_dummy {t:SetTable} {p:SetTable.Probe} (h:p.dummy=none):(t.advance p).dummy=none:=by
 dsimp only [ SetTable.advance];split
 ·exact h
 ·exact h
theorem go_meets {t:SetTable} {n:Nat} (h:TabOK t n) (hashAt:Nat→Int) (hash:Int):∀ (k fuel:Nat) (p:SetTable.Probe),k < fuel→p.dummy=none→t.slot (adv t k p).j=.empty →
  (∃ j,SetTable.probe.go t hashAt hash fuel p=some (.empty j none)∧t.slot j=.empty) ∨
  ∃ j i nx k2,SetTable.probe.go t hashAt hash fuel p=some (.candidate j i nx)∧t.slot j=.live i∧k2 < k∧nx.dummy=none∧t.slot (adv t k2 nx).j=.empty:=by
 intro k;induction k with
 | zero=>
  intro fuel p hf hd hs;obtain ⟨fuel,rfl⟩:∃ m,fuel=m+1:=y80 hf;simp only [adv] at hs;left;refine ⟨p.j,?_,hs⟩;dsimp only [ SetTable.probe.go];refine hs▸?_;simp only [hd]
 | succ k ih=>
  intro fuel p hf hd hs;obtain ⟨fuel,rfl⟩:∃ m,fuel=m+1:=y80 hf;simp only [adv] at hs;dsimp only [ SetTable.probe.go];induction hp:t.slot p.j with
  | empty=>left;exact ⟨p.j,by simp only [hd],hp⟩
  | dummy=>exact absurd hp (slot_ne_dummy h)
  | live i=>
   dsimp only;by_cases hh:(hashAt i == hash)=true
   ·rw [if_pos hh];right;exact i4a5 p.j i (t.advance p) k rfl hp (Nat.le_refl _) (advance_dummy hd) hs
   ·rw [if_neg hh];rcases ih fuel (t.advance p) (by exact y32 (by assumption)) (advance_dummy hd) hs with h1 | ⟨j,i2,nx,k2,a,b,c,d⟩
    ·exact .inl h1
    ·exact .inr (i4a4 j i2 nx k2 a b (Nat.lt_succ_of_lt c) d)
end
section
open SeqAt
noncomputable abbrev setObj (es:Array (Int × Value)) (n:Nat) (t:SetTable):Obj:={ cls:=.type "set",dict:=.none,data:=.set es n t }
noncomputable def V.isTup:V→Bool
 | .tup _=>true
 | _=>false
section
variable {B:Bs} {A:Around} {E:Value→Shared→Prop} {s:Shared}
theorem concL_at {B:Bs} {h:Heap} {us:List V} {xs:List Value} {i:Nat} {x:Value} (hc:ConcL B h us xs) (hx:xs[i]? = some x):∃ u,us[i]? = some u∧Conc B h u x:=hc.get' hx
structure Ents (B:Bs) (h:Heap) (us:List V) (es:Array (Int × Value)):Prop where
 conc:ConcL B h us (es.toList.map (·.2))
 hh:V.hhL us=true
 deep:V.deepL us≤4
 tup:∀ u∈us,u.isTup=true
theorem hhL_mem:∀ {us:List V} {u:V},V.hhL us=true→u∈us→u.hh=true
 | v::us,u,h,hm=>by
  have h:=Bool.and_eq_true_iff.mp h;rcases List.mem_cons.mp hm with rfl | hm
  ·exact h.1
  ·exact hhL_mem h.2 hm
theorem deepL_mem:∀ {us:List V} {u:V},u∈us→u.deep≤V.deepL us
 | v::us,u,hm=>by
  rcases List.mem_cons.mp hm with rfl | hm
  ·exact Nat.le_max_left _ _
  ·exact Nat.le_trans (deepL_mem hm) (Nat.le_max_right _ _)
theorem search_spec {a:Addr} {es:Array (Int × Value)} {ep:Nat} {t:SetTable} {us:List V} {v:V} {x:Value} {hash:Int} {Q:SetFound→Shared→Prop} (R:A.units+20 < cLine) (ho:s.heap.get? a=some (setObj es ep t)) (ht:TabOK t es.size) (hn:Ents B s.heap us es)
  (hv:v.hh=true) (hvt:v.isTup=true) (hvd:v.deep≤4) (hx:Conc B s.heap v x) (q1:v∈us→Q (.there none) s) (q2:∀ j,t.slot j=.empty→Q (.free j false) s) :
  ∀ (k fuel:Nat) (stand:Option SetTable.Probe),k < fuel→(stand.getD (t.probeStart hash)).dummy=none→t.slot (adv t k (stand.getD (t.probeStart hash))).j=.empty→k < 10 * SetTable.turns t.mask →
   wpAny B.M A (setSearchFrom a x hash true fuel stand) Q E s:=by
 intro k;induction k using Nat.strongRecOn with
 | _ k ih=>
  intro fuel stand hf hd hs hk;obtain ⟨fuel,rfl⟩:∃ m,fuel=m+1:=y80 (by assumption);have hfit:=ht.fits;refine wpAny_bind (m:=setState a) (wpAny_setState_of ho rfl hfit ?_);dsimp only;have hgw:t.gaveWay=false:=by
   unfold SetTable.gaveWay;rcases ht.mask with e | e <;> exact e▸rfl <;> decide
  rw [hgw];simp only [Bool.false_eq_true,if_false];generalize hpr:t.probe _ hash (stand.getD (t.probeStart hash))=pr;have hgo:=fun hashAt=>go_meets ht hashAt hash k (10 * SetTable.turns t.mask) (stand.getD (t.probeStart hash)) hk hd hs;unfold SetTable.probe at hpr;refine (hpr).symm▸?_;rcases hgo _ with ⟨j,e,hje⟩ | ⟨j,i,nx,k2,e,hl,hk2,hnd,hs2⟩
  ·rw [e];dsimp only;exact wpAny_pure (q2 j hje)
  ·rw [e];dsimp only;have hi:=slot_live ht hl;have hei:es[i]? = some es[i]:=by simp [hi]
   refine e1a2 (concL_at (i:=i) (x:=es[i].2) hn.conc (by simp only [List.getElem?_map,Array.getElem?_toList,hei];rfl)) fun u hu hcu=>?_;have hum:=List.mem_of_getElem? hu;have huh:=hhL_mem hn.hh hum;have hud:=deepL_mem hum;have hdeep:=hn.deep;have hunits:=R;have heq:EqAt A s es[i].2 x (veq u v):=eqAt_V 4 A s u v _ _ (by exact Nat.le_trans ‹_› ‹_›) (V.hh_flat u huh) (V.hh_flat v hv) (by lia) hcu hx;clear hud;obtain ⟨c,hc⟩:∃ c,es[i].2=.ref c:=by
    have h1:=hn.tup u hum;clear huh heq;cases u with
    | tup vs=>refine e3a2 (conc_tup' hcu) fun c u1_ u2_ e u3_=>?_;exact ⟨c,e⟩
    | _=>simp [V.isTup] at h1
   have hall:∀ y∈(Array.filter (fun x=>x.fst == hash) es).toList.map (·.2),QuietAt B.M s.heap 8 y∧PlainAt B.M s.heap 8 y:=fun y hy=>by
    refine e1a2 (List.mem_map.mp hy) fun e he z1=>?_;clear hy;subst z1;rw [Array.toList_filter] at he;exact quietL_V us _ 8 hn.hh (by exact Nat.le_trans ‹_› (nbl rfl)) hn.conc _ (List.mem_map_of_mem (List.mem_filter.mp he).1)
   have hsm:t.sameMemory t.moves t.mask=some true:=by simp [SetTable.sameMemory]
   by_cases hld:(!t.led)=true
   ·rw [if_pos hld];refine wpAny_bind (seen_none (quiet_V v x 8 hv (by exact Nat.le_trans ‹_› (nbl rfl)) hx) hall ?_);simp only [Bool.false_eq_true,if_false];rw [hei];dsimp only;refine wpAny_bind (wpAny_holding (heq _ _ _ _ ?_));refine wpAny_bind (wpAny_setState_of ho rfl hfit ?_);dsimp only;by_cases hq:veq u v=true
    ·rw [hq];simp only [Bool.and_self,if_true];exact wpAny_pure (q1 (by rw [← (veq_iff u v (V.hh_flat u huh)).mp hq];exact hum))
    ·rw [Bool.not_eq_true] at hq;rw [hq];simp only [Bool.and_false,Bool.false_eq_true,if_false];rw [hsm];dsimp only;rw [if_pos rfl,hl];dsimp only;rw [hei];dsimp only;rw [hc];refine wpAny_bind (wpAny_isSame_ref_self ?_);refine wpAny_bind (wpAny_pure ?_);simp only [if_true];exact ih k2 hk2 fuel (some nx) (by lia) hnd hs2 (by lia)
   ·rw [if_neg hld];rw [hei];dsimp only;refine wpAny_bind (wpAny_holding (heq _ _ _ _ ?_));refine wpAny_bind (wpAny_setState_of ho rfl hfit ?_);dsimp only;by_cases hq:veq u v=true
    ·rw [hq];simp only [Bool.and_self,if_true];exact wpAny_pure (q1 (by rw [← (veq_iff u v (V.hh_flat u huh)).mp hq];exact hum))
    ·rw [Bool.not_eq_true] at hq;rw [hq];simp only [Bool.and_false,Bool.false_eq_true,if_false];rw [hsm];dsimp only;rw [if_pos rfl,hl];dsimp only;rw [hei];dsimp only;rw [hc];refine wpAny_bind (wpAny_isSame_ref_self ?_);refine wpAny_bind (wpAny_pure ?_);simp only [if_true];exact ih k2 hk2 fuel (some nx) (by lia) hnd hs2 (by lia)
end
end
section
open SeqAt
noncomputable def ByV (M:Model) (h:Heap) (n:Nat) (x:Value):Prop:=∀ (A:Around) (E:Value→Shared→Prop) (s:Shared) (Q:Bool→Shared→Prop),s.heap=h→(∀ b,Q b s)→wpAny M A (hashByValue n x) Q E s
theorem byv_tuple {M:Model} {h:Heap} {a:Addr} {xs:List Value} {m n:Nat} (ho:h.get? a=some (seqObj "tuple" (List.toArray xs) m)) (hx:∀ x∈xs,ByV M h n x):ByV M h (n+1) (.ref a):=by
 intro A E s Q hs hq;subst hs;have hT:s.TypeIs (.ref a) "tuple":=i1a2 _ ho rfl;refine wpAny_bind (wpAny_specialOf hT PySem.F.slot_tuple_hash.lookup ?_);show wpAny _ _ (seqItems? (.ref a) >>= _) Q E s;refine wpAny_bind (wpAny_seqItems ho rfl ?_);refine wpAny_bind ?_;show wpAny _ _ (forIn (List.toArray xs) _ _) _ _ s;rw [← Array.forIn_toList];refine wpAny_forIn_list _ (fun rest r s'=>r.1=none∧s'=s∧∀ v∈rest,ByV M s.heap n v) _ ?_ ?_ _ _ (i0a3 rfl rfl hx)
 ·clear ho hx hT;intro v rest r s' z1;refine e0a3 z1 fun hr z2 hall=>?_;clear z1;subst z2;refine wpAny_bind (hall v List.mem_cons_self _ _ _ _ rfl fun b=>?_);induction b with
  | true=>
   simp only [Bool.not_true,Bool.false_eq_true,if_false];exact wpAny_pure (i0a3 rfl rfl (fun u hu'=>hall u (List.mem_cons_of_mem _ hu')))
  | false=>
   simp only [Bool.not_false,if_true];exact wpAny_pure (wpAny_pure (hq _))
 ·clear ho hx hT;rintro ⟨r1,r2⟩ s' ⟨hr,rfl,u1_⟩;simp only at hr;subst hr;exact wpAny_pure (hq _)
theorem byv_V {B:Bs} {h:Heap} (v:V):∀ (x:Value) (n:Nat),v.hh=true→v.deep≤n→Conc B h v x→ByV B.M h n x:=by
 refine V.rec (motive_1:=fun v=>∀ (x:Value) (n:Nat),v.hh=true→v.deep≤n→Conc B h v x→ByV B.M h n x)
  (motive_2:=fun vs=>∀ (xs:List Value) (n:Nat),V.hhL vs=true→V.deepL vs≤n→ConcL B h vs xs→∀ x∈xs,ByV B.M h n x) ?_ ?_ ?_ ?_ ?_ ?_ ?_ ?_ v
 ·exact fun x A hv=>z_ft hv
 ·exact fun b x A hv=>z_ft hv
 ·intro i x n hv hu hc;clear hu;obtain ⟨t,rfl⟩:=hc;intro A E s Q hs hq;induction n <;> exact wpAny_pure (hq _)
 ·intro i x n hv hu hc;clear hu;obtain ⟨t,rfl⟩:=hc;intro A E s Q hs hq;induction n <;> exact wpAny_pure (hq _)
 ·exact fun b x A hv=>z_ft hv
 ·intro vs ih x n hv hu hc;refine e3a4 (conc_tup' hc) fun a xs m z22 ho hl hp=>?_;clear hc hp;subst z22;induction n with
  | zero=>exact absurd hu (Nat.not_succ_le_zero _)
  | succ n=>exact byv_tuple ho (ih xs n hv (Nat.le_of_succ_le_succ hu) hl)
 ·intro xs n hv hu hc;have:xs=[]:=hc;subst this;exact nofun
 ·intro v vs ih1 ih2 xs n hv hu hc;refine e2a3 hc fun x r z21 h1 h2=>?_;clear hc;subst z21;have hv:=Bool.and_eq_true_iff.mp hv;intro y hy;cases hy with
  | head=>exact ih1 x n hv.1 (Nat.le_trans (Nat.le_max_left _ _) hu) h1
  | tail _ hy=>exact ih2 r n hv.2 (Nat.le_trans (Nat.le_max_right _ _) hu) h2 y hy
theorem free_finds {mask:Nat} {owner:Array (Option Nat)} {j0:Nat} (h0:(owner.getD j0 (some 0)).isNone=true):∀ (m fuel i pb:Nat),m < fuel→(lp mask m (i,pb)).1=j0→∃ j,SetTable.layClean.free mask owner fuel i pb=some j∧(owner.getD j (some 0)).isNone=true:=by
 intro m fuel;revert m;induction fuel with
 | zero=>
  intro m i pb hf h;exact (Nat.not_lt_zero _ ‹_›).elim
 | succ fuel ih_=>
  intro m i pb hf h;dsimp only [ SetTable.layClean.free];induction hfd:(List.range (SetTable.runEnd mask i+1 - i)).find? (fun k=>(owner.getD (i+k) (some 0)).isNone) with
  | some k=>exact i1a2 (i+k) rfl (by simpa using List.find?_some hfd)
  | none=>
   dsimp only;induction m with
   | zero=>
    simp only [lp] at h;clear ih_;subst h;rw [List.find?_eq_none] at hfd;have hr:0∈List.range (SetTable.runEnd mask i+1 - i):=by
     refine List.mem_range.mpr ?_;have:i≤SetTable.runEnd mask i:=by unfold SetTable.runEnd;split <;> simp
     exact y35 (by assumption)
    exact absurd h0 (by simpa using hfd 0 hr)
   | succ m=>
    simp only [lp] at h;exact ih_ m _ _ (by exact y32 (by assumption)) h
theorem set_perm {l:List (Option Nat)} {j k:Nat} (h:l[j]? = some none):((l.set j (some k)).filterMap id).Perm (l.filterMap id++[k]):=by
 obtain ⟨e1,e2⟩:l=l.take j++none::l.drop (j+1)∧l.set j (some k)=l.take j++some k::l.drop (j+1):=by
  refine e1a1 (List.getElem?_eq_some_iff.mp h) fun h1 h2=>?_;refine ⟨?_,?_⟩
  ·simp only [← h2,← List.drop_eq_getElem_cons h1,List.take_append_drop]
  ·rw [List.set_eq_take_append_cons_drop,if_pos h1]
 rw [e2]
 conv=>rhs;rw [e1]
 simp only [List.filterMap_append,List.filterMap_cons,id];exact (List.perm_middle.trans (List.perm_append_comm (l₁:=[k])))
theorem range_filterMap (l:List (Option Nat)):(List.range l.length).filterMap (fun j=>l.getD j none)=l.filterMap id:=by
 induction l with
 | nil=>rfl
 | cons a l ih=>
  refine List.length_cons▸?_;refine List.range_succ_eq_map▸?_;refine List.filterMap_cons▸?_;refine List.filterMap_map▸?_;have:((fun j=>(a::l).getD j none) ∘ Nat.succ)=fun j=>l.getD j none:=by funext j;rfl
  refine this▸?_;refine ih▸?_;clear this;rcases a with _ <;> rfl
end
section
open SeqAt
noncomputable def layStep (mask:Nat) (acc:Option (Array (Option Nat) × Nat)) (h:Int):Option (Array (Option Nat) × Nat):=do
 let (owner,k) ← acc
 let j ← SetTable.layClean.free mask owner (SetTable.turns mask) (SetTable.bits h % (mask+1)) (SetTable.bits h)
 pure (owner.setIfInBounds j (some k),k+1)
theorem layClean_eq (mask:Nat) (hashes:Array Int):SetTable.layClean mask hashes=(hashes.toList.foldl (layStep mask) (some (Array.replicate (mask+1) none,0))).map (·.1):=by
 unfold SetTable.layClean;rw [← Array.foldl_toList];rfl
theorem owner_free {owner:Array (Option Nat)} {k:Nat} (hs:owner.size=32) (hp:(owner.toList.filterMap id).Perm (List.range k)) (hk:k≤30):∃ j,j < 32∧(owner.getD j (some 0)).isNone=true:=by
 by_cases c:∃ j,j < 32∧(owner.getD j (some 0)).isNone=true
 ·exact c
 ·exfalso;have hall:∀ j,j < 32→∃ v,owner.toList[j]? = some (some v):=fun j hj=>by
   have h1:¬ (owner.getD j (some 0)).isNone=true:=fun h=>c (i1a2 j hj h);have h2:owner.toList[j]? = some owner[j]:=by simp [hs,hj]
   have h3:owner.getD j (some 0)=owner[j]:=by simp [hs,hj]
   rw [h3] at h1;induction h4:owner[j] with
   | none=>rw [h4] at h1;simp at h1
   | some v=>exact ⟨v,by simp only [h2,h4]⟩
  have hlen:(owner.toList.filterMap id).length=owner.toList.length:=by
   have:∀ l:List (Option Nat),(∀ x∈l,x≠none)→(l.filterMap id).length=l.length:=fun l=>by
    induction l with
    | nil=>decide
    | cons a l ih=>
     intro h;have h1:=h a z_m0;induction a with
     | none=>exact absurd rfl h1
     | some v=>
      have:=ih fun x hx=>h x (by simp [hx]);simp [this]
   refine this _ fun x hx e=>?_;refine e1a1 (List.getElem?_of_mem hx) fun j hj=>?_;have hjl:=(List.getElem?_eq_some_iff.mp hj).1;simp only [Array.length_toList] at hjl;refine e1a1 (hall j (by exact y40 (by assumption) (by assumption))) fun v hv=>?_;replace hj:=hv.symm.trans hj;simp at hj;rw [e] at hj;exact z_sn hj
  have:=hp.length_eq;simp only [List.length_range,Array.length_toList] at this hlen;lia
theorem lay_fold:∀ (l:List Int) (owner:Array (Option Nat)) (k:Nat),owner.size=32→(owner.toList.filterMap id).Perm (List.range k)→k+l.length≤16 →
  ∃ owner',l.foldl (layStep 31) (some (owner,k))=some (owner',k+l.length)∧owner'.size=32∧(owner'.toList.filterMap id).Perm (List.range (k+l.length)):=by
 intro l;induction l with
 | nil=>
  intro owner k hs hp hk;exact i1a3 owner (rfl) hs (by simpa using hp)
 | cons h l ih_=>
  intro owner k hs hp hk;simp only [List.length_cons] at hk;refine e1a2 (owner_free hs hp (by lia)) fun j0 h1 h2=>?_;refine e1a2 (lp_reach (mask:=31) (.inr rfl) (q:=(SetTable.bits h % 32,SetTable.bits h)) (Nat.mod_lt _ (Nat.succ_pos _)) (bits_lt h) h1) fun m h3 h4=>?_;refine e1a2 (free_finds (mask:=31) h2 m (SetTable.turns 31) (SetTable.bits h % 32) (SetTable.bits h) (by unfold SetTable.turns;lia) h4) fun j h5 h6=>?_;have hj:owner.toList[j]? = some none:=by
   by_cases c:j < owner.size
   ·have e1:owner.getD j (some 0)=owner[j]:=by simp [c]
    rw [e1] at h6;have e2:owner.toList[j]? = some owner[j]:=by simp [c]
    refine e2▸?_;induction h7:owner[j] with
    | none=>rfl
    | some v=>rw [h7] at h6;simp at h6
   ·have e1:owner.getD j (some 0)=some 0:=by simp [c]
    rw [e1] at h6;simp at h6
  have hstep:layStep 31 (some (owner,k)) h=some (owner.setIfInBounds j (some k),k+1):=by
   unfold layStep;simp only [Option.bind_eq_bind,Option.bind_some];show (SetTable.layClean.free 31 owner (SetTable.turns 31) (SetTable.bits h % 32) (SetTable.bits h)).bind _=_;refine h5▸?_;rfl
  refine e1a3 (ih_ (owner.setIfInBounds j (some k)) (k+1) (by simpa using hs) (by
   simp only [Array.toList_setIfInBounds,List.range_succ];exact (set_perm hj).trans (hp.append_right _)) (by lia)) fun o' g1 g2 g3=>?_
  refine i1a3 o' ?_ g2 ?_
  ·simp only [List.foldl_cons,hstep,g1];simp;lia
  ·rw [List.length_cons,show k+(l.length+1)=k+1+l.length by lia];exact g3
theorem laid_rise {mask finger moves:Nat} {led plain:Bool} {hashes:Array Int} {t:SetTable} {order:Array Nat} (h:SetTable.laid mask finger moves led plain hashes=some (t,order)):Rise t.place:=by
 unfold SetTable.laid at h;induction hc:SetTable.layClean mask hashes with
 | none=>replace h:=hc▸h;exact z_ns h
 | some owner=>
  replace h:=hc▸h;cases h;show (List.map _ _).Pairwise _;refine List.pairwise_map.mpr ?_;refine List.pairwise_filterMap.mpr ?_;refine List.pairwise_lt_range.imp fun {i j} hij x hx y hy=>?_;simp only [Option.map_eq_some_iff] at hx hy;obtain ⟨u1_,u2_,rfl⟩:=hx;obtain ⟨u3_,u4_,rfl⟩:=hy;exact hij
theorem relaid_rise {t t':SetTable} {hashes:Array Int} {wanted:Nat} {order:Array Nat} (h:t.relaid hashes wanted=some (t',order)):Rise t'.place:=laid_rise h
theorem relaid_ok (t:SetTable) (es:Array (Int × Value)) (hn:es.size≤15) {wanted:Nat} (hw:SetTable.sizeAbove wanted=32) :
  ∃ t' order,t.relaid (es.map (·.1)) wanted=some (t',order)∧TabOK t' es.size∧t'.led=t.led∧((order.filterMap (es[·]?)).toList).Perm es.toList:=by
 refine e1a3 (lay_fold (es.map (·.1)).toList (Array.replicate 32 none) 0 (rfl) (by
  have:∀ n:Nat,((List.replicate n (none:Option Nat)).filterMap id)=[]:=fun n=>by induction n <;> simp_all [List.replicate_succ]
  decide) (by simp;exact Nat.le_trans ‹_› (nbl rfl))) fun owner h1 h2 h3=>?_
 have hl:SetTable.layClean 31 (es.map (·.1))=some owner:=by
  rw [layClean_eq];show Option.map _ (List.foldl (layStep 31) (some (Array.replicate 32 none,0)) _)=_;rw [h1];rfl
 have hlen:((es.map (·.1)).toList).length=es.size:=by simp
 rw [Nat.zero_add,hlen] at h3;obtain ⟨live,hlive⟩:∃ live:List (Nat × Nat),live=(List.range 32).filterMap fun j=>(owner.getD j none).map (j,·):=⟨_,rfl⟩
 have hsnd:live.map (·.2)=owner.toList.filterMap id:=by
  simp only [hlive,List.map_filterMap,← range_filterMap];have:owner.toList.length=32:=by simpa using h2
  refine this▸?_;congr 1;funext j;have:owner.getD j none=owner.toList.getD j none:=by simp [List.getD_eq_getElem?_getD,Array.getD_eq_getD_getElem?]
  rw [this];cases owner.toList.getD j none <;> rfl
 have hlv:live.length=es.size:=by
  have:=congrArg List.length hsnd;rw [List.length_map] at this;simp only [this,h3.length_eq,List.length_range]
 have hrel:t.relaid (es.map (·.1)) wanted=some ({ mask:=31,place:=(live.map (·.1)).toArray,dummies:=#[],finger:=t.finger,led:=t.led,moves:=t.movedTo 31,plain:=t.plain },(live.map (·.2)).toArray):=by
  unfold SetTable.relaid SetTable.laid;refine hw▸?_;refine hl▸?_;refine hlive▸?_;rfl
 refine i2a4 _ _ hrel ⟨by simp [hlv],rfl,.inr ⟨rfl,hn⟩,relaid_rise hrel⟩ rfl ?_;refine Array.toList_filterMap▸?_;refine hsnd▸?_;refine (h3.filterMap _).trans ?_;have:=filterMap_getElem?_range es;rw [← this]
end
section
open SeqAt
theorem concL_perm {B:Bs} {h:Heap} {xs ys:List Value} (p:xs.Perm ys):∀ {us:List V},ConcL B h us xs→∃ us',us'.Perm us∧ConcL B h us' ys:=by
 induction p with
 | nil=>intro us hc;exact i1a2 us (.refl _) hc
 | cons x _ ih=>
  intro us hc;induction us with
  | nil=>cases (show _=[] from hc)
  | cons u us=>
   refine e2a3 hc fun y r e h1 h2=>?_;simp only [List.cons.injEq] at e;obtain ⟨rfl,rfl⟩:=e;refine e1a2 (ih h2) fun us' p' c'=>?_;exact ⟨u::us',p'.cons _,_,_,rfl,h1,c'⟩
 | swap x y l=>
  intro us hc;cases us with
  | nil=>cases (show _=[] from hc)
  | cons u us=>
   refine e2a3 hc fun a r e h1 h2=>?_;simp only [List.cons.injEq] at e;clear hc;obtain ⟨rfl,rfl⟩:=e;induction us with
   | nil=>cases (show _=[] from h2)
   | cons v us=>
    refine e2a3 h2 fun b r e h3 h4=>?_;simp only [List.cons.injEq] at e;obtain ⟨rfl,rfl⟩:=e;exact ⟨v::u::us,.swap _ _ _,_,_,rfl,h3,_,_,rfl,h1,h4⟩
 | trans _ _ ih1 ih2=>
  intro us hc;refine e1a2 (ih1 hc) fun us1 p1 c1=>?_;refine e1a2 (ih2 c1) fun us2 p2 c2=>?_;exact i1a2 us2 (p2.trans p1) c2
theorem concL_insert {B:Bs} {h:Heap} {u:V} {x:Value} (hu:Conc B h u x) {us:List V} {xs:List Value} (k:Nat) (hc:ConcL B h us xs):ConcL B h (us.take k++u::us.drop k) (xs.take k++x::xs.drop k):=
 (hc.take k).append (i2a3 x _ rfl hu (hc.drop k))
theorem hhL_of {us:List V} (h:∀ u∈us,u.hh=true):V.hhL us=true:=by
 induction us with
 | nil=>rfl
 | cons a us ih=>exact Bool.and_eq_true_iff.mpr ⟨h a z_m0,ih fun u hu=>h u (by simp [hu])⟩
theorem deepL_of {us:List V} {n:Nat} (h:∀ u∈us,u.deep≤n):V.deepL us≤n:=by
 induction us with
 | nil=>exact Nat.zero_le _
 | cons a us ih=>
  have h1:=h a z_m0;have h2:=ih fun u hu=>h u (by simp [hu]);exact Nat.max_le.mpr ⟨h1,h2⟩
noncomputable def TupV (v:V):Prop:=v.hh=true∧v.deep≤4∧v.isTup=true
theorem Ents.of {B:Bs} {h:Heap} {us:List V} {es:Array (Int × Value)} (hc:ConcL B h us (es.toList.map (·.2))) (hu:∀ u∈us,TupV u):Ents B h us es:=⟨hc,hhL_of fun u h=>(hu u h).1,deepL_of fun u h=>(hu u h).2.1,fun u h=>(hu u h).2.2⟩
section
variable {B:Bs} {A:Around} {E:Value→Shared→Prop} {s:Shared} {n:Nat}
structure Added (B:Bs) (h:Heap) (a:Addr) (us:List V) (v:V) (led:Bool) (h':Heap):Prop where
 but:Heap.SameBut a h h'
 set:∃ us' es' ep' t',h'.get? a=some (setObj es' ep' t')∧TabOK t' es'.size∧ConcL B h' us' (es'.toList.map (·.2))∧(∀ u,u∈us'↔u∈us∨u=v)∧us'.length≤us.length+1∧t'.led=led
theorem setObj_store {h:Heap} {a:Addr} {es:Array (Int × Value)} {ep:Nat} {t:SetTable} (ho:h.get? a=some (setObj es ep t)) (es':Array (Int × Value)) (t':SetTable) :
  (h.update a (Obj.putSet es' t')).get? a=some (setObj es' (ep+1) t'):=by
 have:=Heap.get?_update_self (Obj.putSet es' t') ho (by rw [putSet_of es' t' rfl];rfl);rw [putSet_of es' t' rfl] at this;exact this
theorem relay_tup {a:Addr} {es:Array (Int × Value)} {ep:Nat} {t:SetTable} {us:List V} {Q:Unit→Shared→Prop} (ho:s.heap.get? a=some (setObj es ep t)) (hf:t.fits es.size=true) (hn:es.size≤15) (hc:ConcL B s.heap us (es.toList.map (·.2))) {wanted:Nat} (hw:SetTable.sizeAbove wanted=32)
  (q:∀ h' us' es' ep' t',Heap.SameBut a s.heap h'→h'.get? a=some (setObj es' ep' t')→TabOK t' es'.size→ConcL B h' us' (es'.toList.map (·.2))→us'.Perm us→t'.led=t.led→Q () { s with heap:=h' }):wpAny B.M A (setRelay a wanted) Q E s:=by
 refine e2a4 (relaid_ok t es hn hw) fun t' order h1 h2 h3 h4=>?_;refine e1a2 (concL_perm (h4.map (·.2)).symm hc) fun us' p' c'=>?_;have hsz:(order.filterMap (es[·]?)).size=es.size:=by refine (Array.length_toList).symm▸?_;refine h4.length_eq▸?_;exact Array.length_toList▸rfl
 dsimp only [ setRelay];refine wpAny_bind (wpAny_setState_of ho rfl hf ?_);dsimp only;rw [hw,if_neg (by refine sizeLine_eq▸?_;decide),h1];show wpAny B.M A ((do
  if (order.filterMap (es[·]?)).size != es.size then unsupported "internal:set-table-lost-an-element"
  pure (order.filterMap (es[·]?),t')) >>= fun x=>storeSet a x.1 x.2) Q E s
 refine hsz▸?_;simp only [bne_self_eq_false,Bool.false_eq_true,if_false];refine wpAny_bind (wpAny_pure ?_);refine wpAny_storeSet_of ho rfl ?_ (by refine sizeLine_eq▸?_;refine hsz▸?_;exact Nat.le_trans ‹_› (nbl rfl));exact q _ us' _ _ t' (Heap.SameBut.update _ _ _) (setObj_store ho _ _) (by simp only [hsz];exact h2) (c'.keep (.sameBut' (Heap.SameBut.update _ _ _) ho fun xs n e=>nomatch e)) p' h3
theorem add_tail {a:Addr} {es:Array (Int × Value)} {ep:Nat} {t t2:SetTable} {us:List V} {v:V} {x:Value} {hash:Int} {p:Nat} {Q:Bool→Shared→Prop} (ho:s.heap.get? a=some (setObj es ep t)) (ht:TabOK t es.size) (hc:ConcL B s.heap us (es.toList.map (·.2)))
  (hx:Conc B s.heap v x) (hsz:es.size≤13) (h1:t2.place.size=es.size+1) (h2:t2.dummies=#[]) (h3:t2.mask=t.mask) (h4:t2.led=t.led) (h6:Rise t2.place) (q:∀ b h',Added B s.heap a us v t.led h'→Q b { s with heap:=h' }) :
  wpAny B.M A (do
   storeSet a (SetTable.insertAt es p (hash,x)) t2
   if (!false && t2.tooFull)=true then do
    setRelay a (SetTable.grown (es.size+1))
    pure true
   else pure true) Q E s:=by
 obtain ⟨es1,hes1⟩:∃ es1,es1=SetTable.insertAt es p (hash,x):=⟨_,rfl⟩
 have hl1:es1.toList=es.toList.take p++(hash,x)::es.toList.drop p:=by refine hes1▸?_;exact SetTable.toList_insertAt _ _ _
 have hlen:es1.size=es.size+1:=by
  rw [← Array.length_toList,hl1,List.length_append,List.length_cons,List.length_take,List.length_drop,Array.length_toList];exact y18
 have hc1:ConcL B s.heap (us.take p++v::us.drop p) (es1.toList.map (·.2)):=by
  simp only [hl1,List.map_append,List.map_cons,List.map_take,List.map_drop];exact concL_insert hx p hc
 have hmem:∀ u,u∈us.take p++v::us.drop p↔u∈us∨u=v:=fun u=>by
  have e:u∈us↔u∈us.take p∨u∈us.drop p:=by
   rw [← List.mem_append,List.take_append_drop]
  rw [List.mem_append,List.mem_cons,e];constructor
  ·rintro (h | h | h)
   ·exact .inl (.inl h)
   ·exact .inr h
   ·exact .inl (.inr h)
  ·rintro ((h | h) | h)
   ·exact .inl h
   ·exact .inr (.inr h)
   ·exact .inr (.inl h)
 have hul:(us.take p++v::us.drop p).length≤us.length+1:=by simp only [List.length_append,List.length_cons,List.length_take,List.length_drop];exact y20
 refine (hes1).symm▸?_;refine wpAny_bind (wpAny_storeSet_of ho rfl ?_ (by refine sizeLine_eq▸?_;lia));have ho1:=setObj_store ho es1 t2;have hsb:=Heap.SameBut.update s.heap a (Obj.putSet es1 t2);have hfill:t2.fill=es.size+1:=by unfold SetTable.fill;refine h1▸?_;refine h2▸?_;rfl
 by_cases hfull:t2.tooFull=true
 ·rw [hfull];simp only [Bool.not_false,Bool.and_self,if_true];unfold SetTable.tooFull at hfull;simp only [decide_eq_true_eq] at hfull;rw [hfill,h3] at hfull;have hroom:=ht.room;have h5:es.size=4∧t.mask=7:=by rcases hroom with ⟨a,b⟩ | ⟨a,b⟩ <;> lia
  have kt:KeepT B s.heap (s.heap.update a (Obj.putSet es1 t2)):=.sameBut' hsb ho fun xs n e=>nomatch e;refine wpAny_bind (relay_tup (us:=us.take p++v::us.drop p) ho1 ?_ (by lia) (hc1.keep kt) (by refine h5.1▸?_;decide +kernel) fun h' us' es' ep' t' b1 b2 b3 b4 b5 b6=>?_)
  ·simp only [SetTable.fits,Bool.and_eq_true,beq_iff_eq,decide_eq_true_eq];simp only [h1,hfill,h3];lia
  ·exact wpAny_pure (q true h' ⟨hsb.trans b1,us',es',ep',t',b2,b3,b4,fun u=>by rw [b5.mem_iff,hmem],by refine b5.length_eq▸?_;exact hul,by simp only [b6,h4]⟩)
 ·rw [Bool.not_eq_true] at hfull;rw [hfull];simp only [Bool.and_false,Bool.false_eq_true,if_false];refine wpAny_pure (q true _ ⟨hsb,_,es1,ep+1,t2,ho1,⟨by refine hlen▸?_;exact h1,h2,?_,h6⟩,hc1.keep (.sameBut' hsb ho fun xs n e=>nomatch e),hmem,hul,h4⟩);unfold SetTable.tooFull at hfull;replace hfull:=decide_eq_false_iff_not.mp hfull;rw [hfill,h3] at hfull;refine h3▸?_;refine hlen▸?_;rcases ht.room with ⟨a,b⟩ | ⟨a,b⟩
  ·exact .inl ⟨a,by lia⟩
  ·exact .inr ⟨a,by lia⟩
theorem add_tup {a:Addr} {es:Array (Int × Value)} {ep:Nat} {t:SetTable} {us:List V} {v:V} {x:Value} {hash:Int} {Q:Bool→Shared→Prop} (R:A.units+20 < cLine) (ho:s.heap.get? a=some (setObj es ep t)) (ht:TabOK t es.size) (hc:ConcL B s.heap us (es.toList.map (·.2))) (hu:∀ u∈us,TupV u)
  (hv:TupV v) (hx:Conc B s.heap v x) (hsz:es.size≤13) (q:∀ b h',Added B s.heap a us v t.led h'→Q b { s with heap:=h' }):wpAny B.M A (setAddHashed a x hash) Q E s:=by
 refine wpAny_holding (wpAny_bind (wpAny_setState_of ho rfl ht.fits ?_));dsimp only;have hsc:x.scannable=false:=by
  refine e0a3 hv fun u1_ u2_ h3=>?_;clear hv q;clear u1_ u2_;cases v with
  | tup vs=>refine e3a2 (conc_tup' hx) fun c u3_ u4_ e u5_=>?_;refine e▸?_;rfl
  | _=>simp [V.isTup] at h3
 have hbs:byScan x es=false:=by unfold byScan;rw [hsc];rfl
 rw [hbs];simp only [Bool.false_eq_true,if_false];have hlen:us.length=es.size:=by refine hc.length.trans ?_;simp
 refine e1a2 (start_empty ht hash) fun k hk1 hk2=>?_;refine wpAny_bind ?_;have hturn:10 * SetTable.turns t.mask < 100000:=by rcases ht.mask with e | e <;> rw [e] <;> decide
 refine search_spec R ho ht (Ents.of hc hu) hv.1 hv.2.2 hv.2.1 hx (fun hin=>?_) (fun j hje=>?_) k 100000 none (by exact Nat.lt_of_lt_of_le ‹_› (Nat.le_of_lt ‹_›)) rfl hk2 hk1
 ·dsimp only;refine wpAny_pure ?_;have e:s={ s with heap:=s.heap }:=by clear ho hc hx q;rcases s with _;rfl
  refine e▸?_;refine q false _ ⟨Heap.SameBut.refl a s.heap,us,es,ep,t,ho,ht,hc,fun u=>⟨.inl,fun h=>h.elim id fun e=>e▸hin⟩,by exact Nat.le_add_right _ _,rfl⟩
 ·dsimp only;refine wpAny_bind (wpAny_setState_of ho rfl ht.fits ?_);dsimp only;have hp1:(t.put j).1.place.size=es.size+1:=by
   show (SetTable.insertAt t.place _ j).size=_;rw [← Array.length_toList,SetTable.toList_insertAt,List.length_append,List.length_cons,List.length_take,List.length_drop,Array.length_toList,ht.size];exact y18
  have hp2:(t.put j).1.dummies=#[]:=by
   show (if SetTable.has t.dummies j then _ else t.dummies)=#[];rw [ht.dum];exact rfl
  have hp3:Rise (t.put j).1.place:=put_rise ht.rise (slot_dead fun i=>by refine hje▸?_;exact fun h=>nomatch h);have hdeep:=hv.2.1;split
  ·refine wpAny_bind (byv_V v x 8 hv.1 (by exact Nat.le_trans ‹_› (nbl rfl)) hx _ _ _ _ rfl fun b=>?_);refine add_tail (t:=t) ho ht hc hx hsz ?_ ?_ ?_ ?_ ?_ q
   ·split <;> exact hp1
   ·split <;> exact hp2
   ·split <;> rfl
   ·split <;> rfl
   ·split <;> exact hp3
  ·refine wpAny_bind (wpAny_pure ?_);exact add_tail (t:=t) ho ht hc hx hsz hp1 hp2 rfl rfl hp3 q
end
end
section
open SeqAt
theorem layNew_led (t:SetTable) (es:Array (Int × Value)) (h:Int) (x:Value):(layNew t es h x).2.1.led=t.led:=by
 dsimp only [ layNew];split
 ·show (SetTable.orStandIn _ _).led=t.led;unfold SetTable.orStandIn;split <;> rfl
 ·rfl
theorem relaid_led {t t':SetTable} {hashes:Array Int} {wanted:Nat} {order:Array Nat} (h:t.relaid hashes wanted=some (t',order)):t'.led=t.led:=by
 unfold SetTable.relaid SetTable.laid at h;induction hc:SetTable.layClean (SetTable.sizeAbove wanted - 1) hashes with
 | none=>replace h:=hc▸h;exact z_ns h
 | some owner=>replace h:=hc▸h;cases h;rfl
set_option tactic.hygienic true in
theorem relayAll_led (t:SetTable) (es:Array (Int × Value)) (wanted:Nat):(relayAll t es wanted).2.1.led=t.led:=by
 unfold relayAll;split
 ·rename_i t' order h;dsimp only;split
  ·exact relaid_led h
  ·rfl
 ·rfl
theorem standIn_rise (t:SetTable) (n:Nat):Rise (t.standIn n).place:=by
 show (Array.range n).toList.Pairwise _;simp only [Array.toList_range];exact List.pairwise_lt_range
theorem orStandIn_rise {t:SetTable} (n:Nat) (h:Rise t.place):Rise (t.orStandIn n).place:=by
 unfold SetTable.orStandIn;split
 ·exact h
 ·exact standIn_rise _ _
set_option tactic.hygienic true in
theorem layNew_rise {t:SetTable} (es:Array (Int × Value)) (h:Int) (x:Value) (hr:Rise t.place):Rise (layNew t es h x).2.1.place:=by
 dsimp only [ layNew];split
 ·rename_i slot b he;exact orStandIn_rise _ (put_rise hr (freeSlot_dead he))
 ·exact standIn_rise _ _
set_option tactic.hygienic true in
theorem relayAll_rise (t:SetTable) (es:Array (Int × Value)) (wanted:Nat):Rise (relayAll t es wanted).2.1.place:=by
 unfold relayAll;split
 ·rename_i t' order h;dsimp only;split
  ·exact relaid_rise h
  ·exact standIn_rise _ _
 ·exact standIn_rise _ _
noncomputable def SetSt (B:Bs) (h:Heap) (a:Addr) (us:List V) (k:Bool):Prop:=
 ∃ es ep t,h.get? a=some (setObj es ep t)∧ConcL B h us (es.toList.map (·.2))∧t.led=(!B.w.params.followText "set-order")∧(k=true→TabOK t es.size∧∀ u∈us,TupV u) ∧
  (k=false→t.fits es.size=true∧ElemsOf (intKind B.prog B.w) es.toList∧(∀ u∈us,∃ i,u=.int i)∧us.Nodup∧Rise t.place)
noncomputable def ValOK (k:Bool) (v:V):Prop:=if k then TupV v else ∃ i,v=.int i
section
variable {B:Bs} {A:Around} {E:Value→Shared→Prop} {s:Shared} {n:Nat}
theorem add_int {a:Addr} {us:List V} {i:Int} {tk:Tok} {Q:Bool→Shared→Prop} (h:SetSt B s.heap a us false) (hl:us.length≤100)
  (q:∀ b h' us',Heap.SameBut a s.heap h'→SetSt B h' a us' false→(∀ u,u∈us'↔u∈us∨u=.int i)→us'.length≤us.length+1→Q b { s with heap:=h' }):wpAny B.M A (setAddHashed a (.int i tk) (hashInt i)) Q E s:=by
 refine e3a5 h fun es ep t ho hc hled u1_ hf=>?_;refine e0a5 (hf rfl) fun hfit hel hint hnd hri=>?_;have hsz:es.size=us.length:=by simp only [hc.length];simp
 have hsc:(Value.int i tk).scannable=true:=rfl;have hkey:(intKind B.prog B.w).is i (.int i tk)=true:=intKind_is _ _ _ _;refine wpAny_holding (wpAny_bind (wpAny_setState_of ho rfl hfit ?_));dsimp only;rw [byScan_of hsc (by unfold scanBound;lia) hel];simp only [↓reduceIte];refine wpAny_bind ?_;refine wpAny_bind (wpAny_rule ?_);refine wpAny_bind (wpAny_setScan_of (knd:=intKind B.prog B.w) (k:=i) hkey ho rfl hfit hel ?_);have hat:∀ (j:Nat) (u:V),us[j]? = some u→∃ e,es.toList[j]? = some e∧Conc B s.heap u e.2:=fun j u hu=>by
  refine e1a2 (hc.get hu) fun x hx hcx=>?_;replace hx:=Option.map_eq_some_iff.mp (List.getElem?_map.symm.trans hx);refine e1a2 hx fun e he z1=>?_;clear hx;subst z1;exact i1a2 e he hcx
 clear h;induction hr:List.findIdx? (fun e=>(intKind B.prog B.w).is i e.2) es.toList with
 | some j=>
  dsimp only;refine e1a2 (List.findIdx?_eq_some_iff_getElem.mp hr) fun hj hpj u2_=>?_;have hin:V.int i∈us:=by
   refine e1a2 (hc.get' (i:=j) (x:=es.toList[j].2) (by refine List.getElem?_map.trans ?_;refine (List.getElem?_eq_getElem hj)▸?_;rfl)) fun u hu hcu=>?_;refine e1a1 (Value.isInt_shape hpj) fun t' e=>?_;rw [e] at hcu;refine e1a1 (hint u (List.mem_of_getElem? hu)) fun i' z5=>?_;subst z5;obtain ⟨t2,e2⟩:=hcu;cases e2;exact List.mem_of_getElem? hu
  refine wpAny_pure (wpAny_pure ?_);have e:s={ s with heap:=s.heap }:=by clear q ho hc hat;rcases s with _;rfl
  refine e▸?_;exact q false s.heap us (Heap.SameBut.refl a s.heap) (i3a5 es ep t ho hc hled (fun h=>nomatch h) hf) (fun u=>⟨.inl,fun h=>h.elim id fun e=>e▸hin⟩) (by exact Nat.le_add_right _ _)
 | none=>
  dsimp only;have hni:V.int i ∉ us:=fun hin=>by
   refine e1a1 (List.getElem?_of_mem hin) fun j hj=>?_;refine e1a2 (hat j _ hj) fun e he hce=>?_;refine e1a1 hce fun t' e'=>?_;have:=List.findIdx?_eq_none_iff.mp hr e (List.mem_of_getElem? he);rw [e'] at this;rw [intKind_is] at this;exact z_tf this
  have hgw:∀ (b:Bool) {s₁:Shared} {Q':Unit→Shared→Prop},Q' () s₁→wpAny B.M A (match b with | true=>rule "set.scan.the-table-gave-way" | false=>pure ()) Q' E s₁:=
   fun b s₁ Q' hq=>by induction b <;> first | exact wpAny_pure hq | exact wpAny_rule hq
  have hperm:=layNew_perm t es (hashInt i) (.int i tk);have hfits:=layNew_fits t es (hashInt i) (.int i tk);have hledN:=layNew_led t es (hashInt i) (.int i tk);have hriN:=layNew_rise es (hashInt i) (.int i tk) hri;have hp1:(us++[V.int i]).length=us.length+1:=by simp
  generalize hL:layNew t es (hashInt i) (.int i tk)=L at hperm hfits hledN hriN ⊢;obtain ⟨es1,t1,wasDummy,gave⟩:=L;dsimp only at hperm hfits hledN hriN ⊢;replace hperm:=Array.toList_push▸hperm;have hel1:ElemsOf (intKind B.prog B.w) es1.toList:=(hel.push hkey hsc).perm hperm;have hsz1:es1.size=es.size+1:=by refine (Array.length_toList).symm▸?_;refine hperm.length_eq▸?_;simp
  have hcc:ConcL B s.heap (us++[V.int i]) ((es.toList++[(hashInt i,Value.int i tk)]).map (·.2)):=by
   simp only [List.map_append];exact hc.append (i2a3 _ _ rfl ⟨tk,rfl⟩ rfl)
  refine e1a2 (concL_perm (hperm.map (·.2)).symm hcc) fun us1 p1 c1=>?_;have hend:∀ h' es2 ep2 (t2:SetTable),Heap.SameBut a s.heap h'→h'.get? a=some (setObj es2 ep2 t2)→t2.fits es2.size=true→t2.led=t.led→Rise t2.place→es2.toList.Perm es1.toList→Q true { s with heap:=h' }:=fun h' es2 ep2 t2 b1 b2 b3 b4 b6 b5=>by
   refine e1a2 (concL_perm (b5.map (·.2)).symm c1) fun us2 p2 c2=>?_;have p3:=p2.trans p1;refine q true h' us2 b1 (i3a5 es2 ep2 t2 b2 (c2.keep (.sameBut' b1 ho fun xs n e=>nomatch e)) (by simp only [b4,hled]) (fun h=>nomatch h) (fun u3_=>i0a4 b3 (hel1.perm b5) (fun u hu=>?_) ?_)) (fun u=>by refine p3.mem_iff.trans ?_;simp) (by refine p3.length_eq▸?_;refine hp1▸?_;exact Nat.le_trans (Nat.le_of_eq ‹_›) (Nat.le_of_eq (Eq.symm ‹_›)))
   ·refine Or.elim (List.mem_append.mp (p3.mem_iff.mp hu)) (fun h=>?_) fun h=>?_
    ·exact hint u h
    ·simp at h;exact ⟨i,h⟩
   ·refine ⟨?_,b6⟩;refine p3.nodup_iff.mpr ?_;refine List.nodup_append.mpr ?_;exact i0a3 hnd (by simp) (fun x hx y hy e=>by simp at hy;subst hy;subst e;exact hni hx)
  refine wpAny_bind (hgw _ ?_);have htail:∀ (g:Bool→Sem Unit) (t2:SetTable) (R:Option Bool→Shared→Prop),(∀ (b:Bool) (s₁:Shared) (Q':Unit→Shared→Prop),Q' () s₁→wpAny B.M A (g b) Q' E s₁)→t2.fits es1.size=true→t2.led=t.led→Rise t2.place→(∀ s',Q true s'→R (some true) s')→wpAny B.M A (do
    storeSet a es1 t2
    if (!wasDummy && t2.tooFull)=true then do
      g (relayAll t2 es1 (SetTable.grown es1.size)).2.2
      storeSet a (relayAll t2 es1 (SetTable.grown es1.size)).1 (relayAll t2 es1 (SetTable.grown es1.size)).2.1
      pure (some true)
     else pure (some true)) R E s:=fun g t2 R hg hf2 hl2 hr2 hR=>by
   refine wpAny_bind (wpAny_storeSet_of ho rfl ?_ (by simp only [sizeLine_eq];lia));have ho1:=setObj_store ho es1 t2;have hsb1:=Heap.SameBut.update s.heap a (Obj.putSet es1 t2);split
   ·have hp:=relayAll_perm t2 es1 (SetTable.grown es1.size);have hfr:=relayAll_fits t2 es1 (SetTable.grown es1.size);have hlr:=relayAll_led t2 es1 (SetTable.grown es1.size);have hrr:=relayAll_rise t2 es1 (SetTable.grown es1.size);generalize hRl:relayAll t2 es1 (SetTable.grown es1.size)=Rl at hp hfr hlr hrr ⊢;obtain ⟨es2,t3,gave2⟩:=Rl;dsimp only at hp hfr hlr hrr ⊢;have hsz2:es2.size=es1.size:=by refine (Array.length_toList).symm▸?_;refine hp.length_eq▸?_;exact Array.length_toList▸rfl
    refine wpAny_bind (hg _ _ _ ?_);refine wpAny_bind (wpAny_storeSet_of ho1 rfl ?_ (by simp only [sizeLine_eq];lia));exact wpAny_pure (hR _ (hend _ es2 _ t3 (hsb1.trans (Heap.SameBut.update _ a _)) (setObj_store ho1 es2 t3) hfr (by simp only [hlr,hl2]) hrr hp))
   ·exact wpAny_pure (hR _ (hend _ es1 _ t2 hsb1 ho1 hf2 hl2 hr2 (.refl _)))
  split
  ·refine wpAny_bind ?_;simp only [hashByValue_scannable 8 hsc];refine wpAny_pure ?_;refine htail _ _ _ ?_ ?_ ?_ ?_ fun s' hs'=>?_
   ·intro b s₁ Q' hq;cases b <;> first | exact wpAny_pure hq | exact wpAny_rule hq
   ·split
    ·exact hfits
    ·exact SetTable.fits_plain_off hfits
   ·split <;> exact hledN
   ·split <;> exact hriN
   ·dsimp only;exact wpAny_pure hs'
  ·refine wpAny_bind (wpAny_pure ?_);simp only [↓reduceIte];refine htail _ _ _ ?_ hfits hledN hriN fun s' hs'=>?_
   ·intro b s₁ Q' hq;cases b <;> first | exact wpAny_pure hq | exact wpAny_rule hq
   ·dsimp only;exact wpAny_pure hs'
end
end
section
open SeqAt
section
variable {B:Bs} {A:Around} {E:Value→Shared→Prop} {s:Shared} {n:Nat}
theorem add_one {a:Addr} {us:List V} {k:Bool} {v:V} {x:Value} {Q:Bool→Shared→Prop} (R:A.units+20 < cLine) (h:SetSt B s.heap a us k) (hv:ValOK k v) (hx:Conc B s.heap v x) (hl:us.length≤12)
  (q:∀ b h' tk us',Heap.SameBut a s.heap h'→SetSt B h' a us' k→(∀ u,u∈us'↔u∈us∨u=v)→us'.length≤us.length+1→Q b { s with heap:=h',toks:=tk }):wpAny B.M A (setAdd a x) Q E s:=by
 have hunits:=R;induction k with
 | true=>
  have hv:TupV v:=hv;refine wpAny_holding (wpAny_bind (vhash_at v x A hv.1 (by have:=hv.2.1;lia) hx _ _ _ rfl fun tk=>?_));refine e3a5 h fun es ep t ho hc hled ht hf=>?_;refine e0a2 (ht rfl) fun ht1 ht2=>?_;have hsz:es.size=us.length:=by simp only [hc.length];simp
  refine add_tup (s:={ s with toks:=tk }) R ho ht1 hc ht2 hv hx (by lia) fun b h' had=>?_;clear hx;obtain ⟨hb,us',es',ep',t',g1,g2,g3,g4,g5,g6⟩:=had;refine q b h' tk us' hb ⟨es',ep',t',g1,g3,by refine g6▸?_;exact hled▸rfl,(fun u1_=>⟨g2,fun u hu=>?_⟩),(fun h=>nomatch h)⟩ g4 g5;clear q;rcases (g4 u).mp hu with h | rfl
  ·exact ht2 u h
  ·exact hv
 | false=>
  obtain ⟨i,rfl⟩:∃ i,v=.int i:=hv;obtain ⟨t,rfl⟩:=hx;refine wpAny_holding (wpAny_bind (wpAny_pyHash_int ?_));exact add_int (s:={ s with toks:=s.toks+1 }) h (by exact Nat.le_trans ‹_› (nbl rfl)) fun b h' us' h1 h2 h3 h4=>q b h' _ us' h1 h2 h3 h4
theorem fill_loop {I l S:Addr} {k:Bool} {vs:List V} {items:List Value} {R':Result→Shared→Prop} {s0:Shared} (R:A.units+30 < cLine) (hne:l≠I) (hSI:S≠I) (hSl:S≠l) (hI0:s0.heap.get? I=none) (hS0:s0.heap.get? S=none) (hh:A.handled=none)
  (hc0:ConcL B s0.heap vs items) (hv:∀ v∈vs,ValOK k v) (hb:∀ us:List V,us.Nodup→(∀ u∈us,u∈vs)→us.length≤12) (hk:k=true→vs.length≤12)
  (hR:∀ (s':Shared) (us:List V),s'.gens=s0.gens→s'.drawn=s0.drawn→s'.os=s0.os→(∀ b o,s0.heap.get? b=some o→s'.heap.get? b=some o)→SetSt B s'.heap S us k→(∀ u,u∈us↔u∈vs)→us.length≤vs.length→R' (.ok (.ret .none)) s') :
  ∀ (m i:Nat) (s:Shared) (us:List V),vs.length - i=m→i≤vs.length→s.gens=s0.gens→s.drawn=s0.drawn→s.os=s0.os→(∀ b o,s0.heap.get? b=some o→s.heap.get? b=some o)→s.heap.IsListIter I l i→s.heap.IsList l (List.toArray items)→SetSt B s.heap S us k→(∀ u,u∈us↔u∈vs.take i)→us.length≤i →
   codeAny B.M A (.builtin "set.update.loop" ⟨[.ref S,.ref I],[]⟩) R' s:=by
 have hlen:vs.length=items.length:=hc0.length;have hW:=fun A' (hh':A'.handled=none)=>Walks.list (prog:=B.prog) (w:=B.w) (A:=A') hh' I l hne (List.toArray items);have hh1:A.in1.handled=none:=by simp [hh]
 intro m;induction m with
 | zero=>
  intro i s us hm hi g1 g2 g3 hk0 hit hls hS hmem hul;have hin:i=vs.length:=Nat.le_antisymm hi (Nat.le_of_sub_eq_zero hm);refine codeAny_builtin PyProof.Rows.F.entry_set_update_loop ?_;refine Around.under_plainId PyProof.Rows.F.plain_set_update_loop _▸?_;show wpAny _ A.in1 (pyNext (.ref I) >>= _) _ _ s;refine wpAny_bind ((hW A.in1 hh1).done s _ _ ⟨by rw [hin,hlen] at hit;simpa using hit,hls⟩ fun h' tk hkeep=>?_);show wpAny _ A.in1 (ret Value.none) _ _ _;refine wpAny_pure (hR _ us g1 g2 g3 (fun b o hbo=>?_) ?_ (fun u=>by simp only [hmem,hin,List.take_length]) (by exact Nat.le_trans ‹_› ‹_›))
  ·refine hkeep b o ?_ (hk0 b o hbo);simp only [List.mem_singleton];clear hne hSI hW hit hkeep;rintro rfl;rw [hI0] at hbo;exact z_ns hbo
  ·refine e3a3 hS fun es ep t ho hc hrest=>?_;have ho':=hkeep S _ (by simpa using hSI) ho;refine i3a3 es ep t ho' (hc.keep ⟨fun b o hp hbo hct hd=>hkeep b o ?_ hbo⟩) hrest;simp only [List.mem_singleton];clear hne hSI hI0 hW hkeep;rintro rfl;refine e1a3 hit fun oi hoi hci u1_=>?_;rw [hbo] at hoi;clear u1_;cases hoi;rw [hct] at hci;simp at hci
 | succ m ih=>
  intro i s us hm hi g1 g2 g3 hk0 hit hls hS hmem hul;have hlt:i < vs.length:=by exact y07 (by assumption)
  refine codeAny_builtin PyProof.Rows.F.entry_set_update_loop ?_;refine Around.under_plainId PyProof.Rows.F.plain_set_update_loop _▸?_;show wpAny _ A.in1 (pyNext (.ref I) >>= _) _ _ s;refine wpAny_bind ((hW A.in1 hh1).item i s _ _ (by simp;exact y40 (by assumption) (by assumption)) ⟨hit,hls⟩ fun y h' tk hy hst hkeep=>?_);refine e1a2 (hc0.get' (i:=i) (x:=y) (by simpa using hy)) fun v hvi hcv0=>?_;have hk0':∀ b o,s0.heap.get? b=some o→h'.get? b=some o:=fun b o hbo=>hkeep b o (by simp only [List.mem_singleton];clear hne hSI hW ih hit hst hkeep;rintro rfl;rw [hI0] at hbo;exact z_ns hbo) (hk0 b o hbo);have hcv:Conc B h' v y:=hcv0.keep (.of_keeps hk0');have hS':SetSt B h' S us k:=by
   refine e3a3 hS fun es ep t ho hc hrest=>?_;refine i3a3 es ep t (hkeep S _ (by simpa using hSI) ho) (hc.keep ⟨fun b o hp hbo hct hd=>hkeep b o ?_ hbo⟩) hrest;simp only [List.mem_singleton];clear hne hSI hI0 hW ih hst hkeep;rintro rfl;refine e1a3 hit fun oi hoi hci u2_=>?_;rw [hbo] at hoi;clear u2_;cases hoi;rw [hct] at hci;simp at hci
  have hvm:=List.mem_of_getElem? hvi;have hul12:us.length≤12:=by
   clear hv hR ih hS;induction k with
   | true=>have:=hk rfl;exact Nat.le_trans (Nat.le_trans ‹_› ‹_›) ‹_›
   | false=>
    refine e3a5 hS' fun u3_ u4_ u5_ u6_ u7_ u8_ u9_ hf=>?_;exact hb us (hf rfl).2.2.2.1 fun u hu=>List.mem_of_mem_take ((hmem u).mp hu)
  show wpAny _ A.in1 (holding [y] (setAdd S y) >>= _) _ _ _;refine wpAny_bind (wpAny_holding ?_);refine add_one (s:={ s with heap:=h',toks:=tk }) (by show A.units+1+20 < cLine;lia) hS' (hv v hvm) hcv hul12 fun b h2 tk2 us2 hb2 hS2 hm2 hl2=>?_;refine wpAny_pure ⟨plainId_quiet PyProof.Rows.F.plain_set_update_loop _,ih (i+1) _ us2 (by exact y08 (by assumption)) hlt g1 g2 g3 (fun b o hbo=>?_) ?_ ?_ hS2 (fun u=>?_) (Nat.le_trans hl2 (Nat.succ_le_succ hul))⟩
  ·have:b≠S:=by clear hSI hSl hR ih hS hS' hb2 hS2;rintro rfl;rw [hS0] at hbo;exact z_ns hbo
   show h2.get? b=some o;rw [hb2.2 b this];exact hk0' b o hbo
  ·exact hst.1.at fun o e=>by rw [hb2.2 I (Ne.symm hSI)];exact e
  ·exact hst.2.at fun o e=>by rw [hb2.2 l (Ne.symm hSl)];exact e
  ·simp only [hm2,hmem,List.take_add_one,hvi];simp
end
end
section
open SeqAt
noncomputable abbrev newSetObj (w:World):Obj:={ cls:=.type "set",dict:=.none,data:=.set #[] 0 (.fresh 0 0 (!w.params.followText "set-order")) }
section
variable {prog:Program} {w:World} {A:Around} {E:Value→Shared→Prop} {s:Shared}
theorem set_made (a:Value) {Q₁:Value→Shared→Prop} (h:Q₁ (.ref s.heap.objs.size) { s with heap:=s.heap.push (newSetObj w) }) :
  codeAny (model prog w) A (.call (.builtin "set.__new__") ⟨[.type "set",a],[]⟩) (wants Q₁ E) s:=by
 refine codeAny_of_tree ?_;show wpAny _ A.in1 (do checkBuiltinCall "set.__new__" ⟨[.type "set",a],[]⟩;again (.builtin "set.__new__" ⟨[.type "set",a],[]⟩)) _ _ s;refine wpAny_bind (wpAny_of_eq (PySem.F.newCall_set_1 a) (wpAny_pure ⟨plainId_quiet PySem.F.plain_set_new _,codeAny_builtin PySem.F.entry_set_new ?_⟩));refine Around.under_plainId PySem.F.plain_set_new _▸?_;unfold Builtin.«set.__new__» Builtin.Frozenset.newClass;have hsub:=sub_set_self;obtain ⟨hp,g,d,tk,os⟩:=s;dsimp only
 wp_walk
 refine wpAny_askSetting (wpAny_pure ?_);dsimp only;simp only [newObj];refine wpAny_bind (wpAny_alloc (wpAny_pure ?_));exact wpAny_pure h
end
section
variable {B:Bs} {A:Around} {E:Value→Shared→Prop} {s:Shared} {n:Nat}
set_option maxHeartbeats 3200000 in
theorem call_set {l:Addr} {vs:List V} {items:List Value} {k:Bool} {Q:Value→Shared→Prop} (R:A.units+35 < cLine) (hh:A.handled=none) (hl:s.heap.IsList l (List.toArray items)) (hc0:ConcL B s.heap vs items) (hv:∀ v∈vs,ValOK k v)
  (hb:∀ us:List V,us.Nodup→(∀ u∈us,u∈vs)→us.length≤12) (hk:k=true→vs.length≤12)
  (h:∀ (h':Heap) (tk:Nat) (us:List V),(∀ b o,s.heap.get? b=some o→h'.get? b=some o)→SetSt B h' s.heap.objs.size us k→(∀ u,u∈us↔u∈vs)→us.length≤vs.length→Q (.ref s.heap.objs.size) { s with heap:=h',toks:=tk }) :
  wpAny B.M A (call (.type "set") [.ref l]) Q E s:=by
 refine e2a1 PySem.F.called_set.mro fun c tl hmro=>?_;have hmade:=PySem.F.called_set.made;have hsub:=PySem.F.called_set.sub;refine wpAny_call (codeAny_of_tree ?_);show wpAny _ _ (callAny (.type "set") _) _ _ _;refine wpAny_pure ⟨Code.quiet_builtin _ (by decide +kernel),codeAny_builtin PySem.F.entry_type_call ?_⟩;rw [Around.under_plain (weight_type_call_type "set" [.ref l] []) rfl];have h1:=PySem.F.called_set.notType;have h2:=PySem.F.called_set.canCreate;have hct:=PySem.F.typeCall_set_1 (.ref l)
 repeat (any_goals (first | assumption | wp_step))
 refine codeAny_mono (set_made (w:=B.w) (.ref l) (E:=E) (Q₁:=fun obj s₁=>obj=.ref s.heap.objs.size∧s₁={ s with heap:=s.heap.push (newSetObj B.w) }) ⟨rfl,rfl⟩) fun r s₁ hr=>?_;cases r with
 | error e=>exact hr
 | ok fl=>
  cases fl with
  | ret obj=>
   obtain ⟨rfl,rfl⟩:=hr;have hS:(s.heap.push (newSetObj B.w)).get? s.heap.objs.size=some (newSetObj B.w):=Heap.get?_push_size _ rfl;have hT:Shared.TypeIs { s with heap:=s.heap.push (newSetObj B.w) } (.ref s.heap.objs.size) "set":=⟨_,hS,rfl⟩
   have hli:=PySem.F.called_set.init.lookup;have hbi:=PySem.F.called_set.init.bind (.ref s.heap.objs.size)
   repeat (any_goals (first | assumption | wp_step))
   refine codeAny_mono (codeAny_call_builtin (R:=wants (fun r s₂=>r=.none∧∃ h' tk us,s₂={ s with heap:=h',toks:=tk }∧(∀ b o,s.heap.get? b=some o→h'.get? b=some o)∧SetSt B h' s.heap.objs.size us k∧(∀ u,u∈us↔u∈vs)∧us.length≤vs.length) E) PySem.F.called_set.init.plain PySem.F.entry_set_init (check_set_init_1 hT ?_)) fun r₂ s₂ hr₂=>?_
   ·refine e1a3 hl fun ol hol hcl z11=>?_;refine e1a1 z11 fun nl hdl=>?_;obtain ⟨ocls,odict,odata,oslots⟩:=ol;simp only at hcl hdl;clear z11;subst hcl;subst hdl;have hol':(s.heap.push (newSetObj B.w)).get? l=some { cls:=.type "list",dict:=odict,data:=.seq (List.toArray items) nl,slots:=oslots }:=Heap.get?_push_of_some _ hol;have hsls:=PySem.F.sub_list_set;have hslf:=PySem.F.sub_list_frozenset;have hne:(Value.type "list" == Value.type "dict")=false:=by decide
    have hl1:(s.heap.push (newSetObj B.w)).IsList l (List.toArray items):=⟨_,hol',rfl,nl,rfl⟩
    unfold Builtin.«set.__init__» noKeywords Builtin.Frozenset.updateFrom;generalize hPI:pyIter=PI
    wp_walk
    subst hPI;refine wpAny_pyIter_list hl1 ?_;refine wpAny_bind (wpAny_runValue ?_);have hlS:l < s.heap.objs.size:=Heap.lt_size hol;have hneI:l≠(s.heap.push (newSetObj B.w)).objs.size:=by
     rw [Heap.size_push];exact Nat.ne_of_lt (Nat.lt_succ_of_lt hlS)
    have hSI:s.heap.objs.size≠(s.heap.push (newSetObj B.w)).objs.size:=by
     rw [Heap.size_push];exact Nat.ne_of_lt (Nat.lt_succ_self _)
    have hh3:A.in1.in1.handled=none:=by simp [hh]
    have hgrow:∀ b o,s.heap.get? b=some o→((s.heap.push (newSetObj B.w)).push { cls:=.type "list_iterator",data:=.fields #[.ref l,.int 0 0] }).get? b=some o:=fun b o e=>Heap.get?_push_of_some _ (Heap.get?_push_of_some _ e);refine fill_loop (k:=k) (s0:=s) (by show A.units+1+1+30 < cLine;lia) hneI hSI (Ne.symm (Nat.ne_of_lt hlS)) (Heap.get?_none_of_le (by rw [Heap.size_push];lia)) (Heap.get?_none_of_le (Nat.le_refl _)) hh3 hc0 hv hb hk (fun s' us e1 e2 e3 hkeep hst hmem hlen=>?_) vs.length 0 { s with heap:=(s.heap.push (newSetObj B.w)).push { cls:=.type "list_iterator",data:=.fields #[.ref l,.int 0 0] } } [] (by lia) (by lia) rfl rfl rfl hgrow
     ⟨_,Heap.get?_push_size _ rfl,rfl,rfl⟩ (hl1.push _) ?_ (by simp) (by simp)
    ·obtain ⟨h',g',d',tk',os'⟩:=s';have eg:g'=s.gens:=e1;have ed:d'=s.drawn:=e2;have eo:os'=s.os:=e3;subst eg;clear e1 e2 e3;subst ed;subst eo;show wpAny _ _ _ _ _ _;refine wpAny_pure ?_;show wpAny _ _ (ret Value.none) _ _ _;exact wpAny_pure ⟨rfl,h',tk',us,rfl,hkeep,hst,hmem,hlen⟩
    ·refine ⟨#[],0,_,Heap.get?_push_of_some _ hS,rfl,rfl,fun _=>⟨⟨rfl,rfl,.inl ⟨rfl,by simp⟩,List.Pairwise.nil⟩,by simp⟩,fun _=>⟨rfl,fun e he=>by simp at he,by simp,by simp,List.Pairwise.nil⟩⟩
   ·cases r₂ with
    | error e=>exact hr₂
    | ok fl₂=>
     cases fl₂ with
     | ret r=>
      refine e0a2 hr₂ fun z4 z5=>?_;clear hr₂;subst z4;refine e3a5 z5 fun h' tk us z6 hk1 hk2 hk3 hk4=>?_;clear z5;subst z6
      repeat (any_goals (first | assumption | wp_step))
      exact h _ _ us hk1 hk2 hk3 hk4
     | _=>exact hr₂.elim
  | _=>exact hr.elim
end
end
section
open SeqAt
theorem slot_set_iterator_iter:Slot "set_iterator" "__iter__" "set_iterator.__iter__":=
 .of (owner:="set_iterator") (n:="__iter__") (by rw [typeLookup_type,builtinLookup_eq_fast];kernel_rfl) (by decide +kernel) (by decide +kernel) (by decide +kernel)
  (by first | exact .inl (by decide +kernel) | exact .inr (by decide +kernel)) (by rw [isSubtype_type];kernel_rfl)
theorem slot_set_iterator_next:Slot "set_iterator" "__next__" "set_iterator.__next__":=
 .of (owner:="set_iterator") (n:="__next__") (by rw [typeLookup_type,builtinLookup_eq_fast];kernel_rfl) (by decide +kernel) (by decide +kernel) (by decide +kernel)
  (by first | exact .inl (by decide +kernel) | exact .inr (by decide +kernel)) (by rw [isSubtype_type];kernel_rfl)
theorem entry_set_iterator_next:entryFor table "set_iterator.__next__" = some Builtin.«set_iterator.__next__»:=entryFor_of_fast (by kernel_rfl)
theorem entry_set_iterator_iter:entryFor table "set_iterator.__iter__" = some Builtin.«dict_keyiterator.__iter__»:=
 entryFor_alias (id':="dict_keyiterator.__iter__") (by kernel_rfl) rfl (by decide +kernel) (by kernel_rfl)
theorem entry_set_iter:entryFor table "set.__iter__" = some Builtin.«frozenset.__iter__»:=
 entryFor_alias (id':="frozenset.__iter__") (by kernel_rfl) rfl (by decide +kernel) (by kernel_rfl)
theorem args_set_iterator_next (a:Value):argsOk "set_iterator.__next__" ⟨[a],[]⟩:=by unfold argsOk;kernel_rfl
theorem args_set_iterator_iter (a:Value):argsOk "set_iterator.__iter__" ⟨[a],[]⟩:=by unfold argsOk;kernel_rfl
theorem erase_perm {α:Type}:∀ (l:List α) (i:Nat) (h:i < l.length),(l[i]::l.eraseIdx i).Perm l
 | x::l,0,h=>.refl _
 | x::l,i+1,h=>by
  simp only [List.getElem_cons_succ,List.eraseIdx_cons_succ];exact (List.Perm.swap _ _ _).trans ((erase_perm l i (by simpa using h)).cons x)
section
variable {M:Model} {A:Around} {E:Value→Shared→Prop} {s:Shared}
theorem wpAny_choose {src:Source} {n:Nat} {Q:Nat→Shared→Prop} (hn:n≠0) (h:∀ i dr,i < n→Q i { s with drawn:=dr }):wpAny M A (choose src n) Q E s:=fun u1_ u2_ u3_=>
 ⟨hn,h _ _ (Nat.mod_lt _ (Nat.pos_of_ne_zero hn))⟩
theorem wpAny_drawOrder {α:Type}:∀ (n:Nat) (xs:List α) (s:Shared) {Q:List α→Shared→Prop},xs.length≤n→(∀ ys dr,ys.Perm xs→Q ys { s with drawn:=dr })→wpAny M A (drawOrder n xs) Q E s:=by
 intro n;induction n with
 | zero=>
  intro xs s Q hl h;induction xs with
  | nil=>
   unfold drawOrder;exact wpAny_pure (h [] s.drawn (.refl _))
  | cons x xs=>
   simp at hl
 | succ n ih_=>
  intro xs s Q hl h;induction xs with
  | nil=>
   unfold drawOrder;exact wpAny_pure (h [] s.drawn (.refl _))
  | cons x xs=>
   unfold drawOrder;refine wpAny_bind (wpAny_choose (by simp) fun i dr hi=>?_);obtain ⟨y,hy⟩:∃ y,(x::xs)[i]? = some y:=⟨(x::xs)[i],by simp [hi]⟩
   refine hy▸?_;dsimp only;refine wpAny_bind (ih_ _ _ (by refine (List.length_eraseIdx_of_lt hi)▸?_;simp at hl ⊢;assumption) fun ys dr2 hp=>?_);refine wpAny_pure (h _ dr2 ((hp.cons y).trans ?_));refine e1a1 (List.getElem?_eq_some_iff.mp hy) fun hi2 z1=>?_;clear hy;subst z1;exact erase_perm _ _ hi2
end
theorem pickOrder_go {α:Type} (next:Nat→Nat):∀ (fuel k:Nat) (l:List α) (out:Array α),l.length≤fuel→(pickOrder.go next fuel k l out).toList.Perm (out.toList++l):=by
 intro fuel;induction fuel with
 | zero=>
  intro k l out h;have:l=[]:=List.length_eq_zero_iff.mp (by lia);clear h;subst this;unfold pickOrder.go;simp
 | succ fuel ih_=>
  intro k l out h;induction l with
  | nil=>
   unfold pickOrder.go;simp
  | cons x l=>
   unfold pickOrder.go;have hi:next k % (x::l).length < (x::l).length:=Nat.mod_lt _ (Nat.succ_pos _)
   rw [List.getElem?_eq_getElem hi];dsimp only;refine (ih_ (k+1) _ _ (by refine (List.length_eraseIdx_of_lt hi)▸?_;simp at h ⊢;assumption)).trans ?_;rw [Array.toList_push,List.append_assoc];exact (erase_perm _ _ hi).append_left _
theorem pickOrder_perm {α:Type} (next:Nat→Nat) (xs:Array α):(pickOrder next xs).toList.Perm xs.toList:=by
 unfold pickOrder;exact (pickOrder_go next xs.size 0 xs.toList #[] (Nat.le_refl _)).trans (by simp)
section
variable {B:Bs} {A:Around} {E:Value→Shared→Prop} {s:Shared} {n:Nat}
noncomputable abbrev itObj (first:Value) (i:Nat) (a:Addr) (n ep:Nat):Obj:={ cls:=.type "set_iterator",data:=.fields #[first,.int i 0,.ref a,.int n 0,.int ep 0] }
noncomputable def ItAt (h:Heap) (I a:Addr) (first:Value) (i n ep:Nat):Prop:=∃ o,h.get? I=some o∧o.cls=.type "set_iterator"∧o.data=.fields #[first,.int i 0,.ref a,.int n 0,.int ep 0]
theorem ItAt.typeIs {I a:Addr} {first:Value} {i n ep:Nat} (x:ItAt s.heap I a first i n ep):s.TypeIs (.ref I) "set_iterator":=e1a3 x fun o ho hc u1_=>(i1a2 o ho hc)
theorem wpAny_pyIter_setiter {I a:Addr} {first:Value} {i n ep:Nat} {Q:Value→Shared→Prop} (hit:ItAt s.heap I a first i n ep) (h:Q (.ref I) s):wpAny B.M A (pyIter (.ref I)) Q E s:=by
 refine wpAny_pyIter_slot hit.typeIs slot_set_iterator_iter (wpAny_call_entry slot_set_iterator_iter hit.typeIs entry_set_iterator_iter ?_ (args_set_iterator_iter _));show wpAny _ _ (ret (.ref I)) _ _ s;exact wpAny_pure ⟨_,rfl,"set_iterator",_,hit.typeIs,slot_set_iterator_next.lookup,h⟩
theorem ItAt.upd {h:Heap} {I a:Addr} {first x:Value} {i n ep:Nat} (hit:ItAt h I a first i n ep) (k:Nat) (y:Value) {vs:Array Value} (e:(#[first,.int i 0,.ref a,.int n 0,.int ep 0]:Array Value).setIfInBounds k y=vs) :
  ∃ o,(h.update I (Obj.mapFields (·.setIfInBounds k y))).get? I=some o∧o.cls=.type "set_iterator"∧o.data=.fields vs:=by
 refine e1a3 hit fun o ho hc hd=>?_;exact i1a3 _ (Heap.get?_update_self _ ho (Obj.isFreed_of_fields (Obj.data_mapFields hd _))) ((Obj.cls_mapFields ..).trans hc) (by rw [Obj.data_mapFields hd,e])
theorem next_slot_item {I a:Addr} {slot i nx ep ep':Nat} {es:Array (Int × Value)} {t:SetTable} {x:Value} {Q:Option Value→Shared→Prop} (hit:ItAt s.heap I a (.int slot 0) i es.size ep) (ho:s.heap.get? a=some (setObj es ep' t)) (hf:t.fits es.size=true)
  (hn:∀ (A':Around) (E':Value→Shared→Prop) (Q':Option (Value × Nat)→Shared→Prop),Q' (some (x,nx)) s→wpAny B.M A' (setNext a slot i ep) Q' E' s)
  (q:∀ h',Heap.SameBut I s.heap h'→ItAt h' I a (.int nx 0) (i+1) es.size ep→Q (some x) { s with heap:=h' }):wpAny B.M A (pyNext (.ref I)) Q E s:=by
 refine e1a3 (id hit) fun o hoi hc hd=>?_;refine wpAny_bind (wpAny_attempt (wpAny_callSpecial?_slot (name:=ofString "__next__") hit.typeIs slot_set_iterator_next
  (wpAny_call_entry slot_set_iterator_next hit.typeIs entry_set_iterator_next ?_ (args_set_iterator_next _))))
 unfold Builtin.«set_iterator.__next__»;refine wpAny_bind (m:=slotArgs "__next__" 0 _) (wpAny_pure ?_);refine wpAny_bind (wpAny_fieldsOf hoi hd ?_);dsimp only;refine wpAny_bind (wpAny_setEntries_of ho rfl hf ?_);rw [if_neg (by simp)];rw [Int.toNat_natCast,Int.toNat_natCast,Int.toNat_natCast];refine wpAny_bind (hn _ _ _ ?_);dsimp only;refine wpAny_bind (wpAny_setField hoi hd (by simp) ?_);refine e1a3 (hit.upd (x:=x) 0 (rawInt nx) rfl) fun o1 ho1 hc1 hd1=>?_;refine wpAny_bind (wpAny_setField ho1 hd1 (by simp) ?_);refine wpAny_pure (i1a2 _ rfl (wpAny_pure (q _ ((Heap.SameBut.update ..).trans (Heap.SameBut.update ..)) ?_)));refine e1a3 (ItAt.upd (x:=x) (h:=s.heap.update I (Obj.mapFields (·.setIfInBounds 0 (rawInt nx)))) (i1a3 o1 ho1 hc1 hd1) 1 (rawInt ((i:Int)+1)) rfl) fun o2 ho2 hc2 hd2=>?_;exact i1a3 o2 ho2 hc2 hd2
theorem next_end {I a:Addr} {Q:Option Value→Shared→Prop} {E':Value→Shared→Prop} {P:Fin→Shared→Prop} (hh:A.handled=none) (hQ:∀ h',(∀ b o,s.heap.get? b=some o→h'.get? b=some o)→∀ e,({ s with heap:=h' }:Shared).TypeIs e "StopIteration"→E' e { s with heap:=h' }) :
  wpAny B.M A (do raiseNew (← newExc (.type "StopIteration") []):Sem Fin) P E' s:=by
 refine wpAny_bind ?_;simp only [newExc,newTuple];refine wpAny_bind (wpAny_newObj_type ?_ (by size_fits));refine wpAny_bind (m:=firstArgMember _ _) (wpAny_of_eq (a:=Value.none) (by first | rfl | (simp only [firstArgMember];rfl)) ?_);refine wpAny_newObj_type ?_ (by size_fits);simp only [raiseNew];refine wpAny_bind (wpAny_handled ?_);refine hh▸?_;refine wpAny_bind (wpAny_pure (wpAny_throw ?_));exact hQ _ (fun b o e=>Heap.get?_push_of_some _ (Heap.get?_push_of_some _ e)) _ (i1a2 _ (Heap.get?_push_size _ rfl) rfl)
theorem next_slot_end {I a:Addr} {slot i ep ep':Nat} {es:Array (Int × Value)} {t:SetTable} {Q:Option Value→Shared→Prop} (hh:A.handled=none) (hit:ItAt s.heap I a (.int slot 0) i es.size ep) (ho:s.heap.get? a=some (setObj es ep' t)) (hf:t.fits es.size=true)
  (hn:∀ (A':Around) (E':Value→Shared→Prop) (Q':Option (Value × Nat)→Shared→Prop),Q' none s→wpAny B.M A' (setNext a slot i ep) Q' E' s)
  (q:∀ h',Heap.ExtBut I s.heap h'→Q none { s with heap:=h' }):wpAny B.M A (pyNext (.ref I)) Q E s:=by
 refine e1a3 (id hit) fun o hoi hc hd=>?_;refine wpAny_bind (wpAny_attempt (wpAny_callSpecial?_slot (name:=ofString "__next__") hit.typeIs slot_set_iterator_next
  (wpAny_call_entry slot_set_iterator_next hit.typeIs entry_set_iterator_next ?_ (args_set_iterator_next _))))
 unfold Builtin.«set_iterator.__next__»;refine wpAny_bind (m:=slotArgs "__next__" 0 _) (wpAny_pure ?_);refine wpAny_bind (wpAny_fieldsOf hoi hd ?_);dsimp only;refine wpAny_bind (wpAny_setEntries_of ho rfl hf ?_);rw [if_neg (by simp)];rw [Int.toNat_natCast,Int.toNat_natCast,Int.toNat_natCast];refine wpAny_bind (hn _ _ _ ?_);dsimp only;refine wpAny_bind (wpAny_setField hoi hd (by simp) ?_);refine next_end (I:=I) (a:=a) (Q:=Q) (by simpa using hh) fun h' hk e he=>?_;refine wpAny_bind (wpAny_isInstance (T:="StopIteration") (b:=true) he isSubtype_stop ?_);refine wpAny_pure (q _ ?_);intro b o hb e;exact hk b o ((Heap.get?_update_other _ _ (Ne.symm hb)).trans e)
end
end
section
open SeqAt
section
variable {B:Bs} {A:Around} {E:Value→Shared→Prop} {s:Shared} {n:Nat}
theorem next_drawn_item {I a P:Addr} {places:List Nat} {i pl ep:Nat} {es:Array (Int × Value)} {t:SetTable} {x:Value} {Q:Option Value→Shared→Prop} (hit:ItAt s.heap I a (.ref P) i es.size ep) (ho:s.heap.get? a=some (setObj es ep t)) (hf:t.fits es.size=true)
  (hP:s.heap.get? P=some (seqObj "tuple" (places.map fun (i:Nat)=>rawInt i).toArray 0)) (hi:places[i]? = some pl) (hx:(es[pl]?).map (·.2)=some x)
  (q:∀ h',Heap.SameBut I s.heap h'→ItAt h' I a (.ref P) (i+1) es.size ep→Q (some x) { s with heap:=h' }):wpAny B.M A (pyNext (.ref I)) Q E s:=by
 refine e1a3 (id hit) fun o hoi hc hd=>?_;refine wpAny_bind (wpAny_attempt (wpAny_callSpecial?_slot (name:=ofString "__next__") hit.typeIs slot_set_iterator_next
  (wpAny_call_entry slot_set_iterator_next hit.typeIs entry_set_iterator_next ?_ (args_set_iterator_next _))))
 unfold Builtin.«set_iterator.__next__»;refine wpAny_bind (m:=slotArgs "__next__" 0 _) (wpAny_pure ?_);refine wpAny_bind (wpAny_fieldsOf hoi hd ?_);dsimp only;refine wpAny_bind (wpAny_setEntries_of ho rfl hf ?_);rw [if_neg (by simp)];show wpAny _ _ (seqItems? (.ref P) >>= _) _ _ s;refine wpAny_bind (wpAny_seqItems hP rfl ?_);dsimp only;have he:((places.map fun (i:Nat)=>rawInt i).toArray)[(i:Int).toNat]? = some (.int (pl:Int) 0):=by
  simp only [Int.toNat_natCast,List.getElem?_toArray,List.getElem?_map,hi];rfl
 refine he▸?_;dsimp only;simp only [Int.toNat_natCast,Int.toNat_natCast];refine wpAny_bind ?_;refine wpAny_bind (wpAny_setState_of ho rfl hf ?_);dsimp only;rw [if_neg (by simp)];refine e1a2 (Option.map_eq_some_iff.mp hx) fun e hee z1=>?_;clear hx;subst z1;rw [hee];refine wpAny_pure ?_;refine wpAny_bind (wpAny_setField hoi hd (by simp) ?_);refine wpAny_pure (i1a2 _ rfl (wpAny_pure (q _ (Heap.SameBut.update ..) ?_)));exact hit.upd (x:=.none) 1 (rawInt ((i:Int)+1)) rfl
theorem next_drawn_end {I a P:Addr} {places:List Nat} {i ep:Nat} {es:Array (Int × Value)} {t:SetTable} {Q:Option Value→Shared→Prop} (hh:A.handled=none) (hit:ItAt s.heap I a (.ref P) i es.size ep) (ho:s.heap.get? a=some (setObj es ep t)) (hf:t.fits es.size=true)
  (hP:s.heap.get? P=some (seqObj "tuple" (places.map fun (i:Nat)=>rawInt i).toArray 0)) (hi:places[i]? = none)
  (q:∀ h',Heap.ExtBut I s.heap h'→Q none { s with heap:=h' }):wpAny B.M A (pyNext (.ref I)) Q E s:=by
 obtain ⟨o,hoi,hc,hd⟩:=id hit;refine wpAny_bind (wpAny_attempt (wpAny_callSpecial?_slot (name:=ofString "__next__") hit.typeIs slot_set_iterator_next
  (wpAny_call_entry slot_set_iterator_next hit.typeIs entry_set_iterator_next ?_ (args_set_iterator_next _))))
 unfold Builtin.«set_iterator.__next__»;refine wpAny_bind (m:=slotArgs "__next__" 0 _) (wpAny_pure ?_);refine wpAny_bind (wpAny_fieldsOf hoi hd ?_);dsimp only;refine wpAny_bind (wpAny_setEntries_of ho rfl hf ?_);rw [if_neg (by simp)];show wpAny _ _ (seqItems? (.ref P) >>= _) _ _ s;refine wpAny_bind (wpAny_seqItems hP rfl ?_);dsimp only;have he:((places.map fun (i:Nat)=>rawInt i).toArray)[(i:Int).toNat]? = none:=by
  simp only [Int.toNat_natCast,List.getElem?_toArray,List.getElem?_map,hi];rfl
 rw [he];dsimp only;refine wpAny_bind (wpAny_setField hoi hd (Nat.succ_pos _) ?_);refine e1a3 (hit.upd (x:=.none) 0 (rawInt 0) rfl) fun o1 ho1 hc1 hd1=>?_;refine wpAny_bind (wpAny_setField ho1 hd1 (by simp) ?_);refine next_end (I:=I) (a:=a) (Q:=Q) (by simpa using hh) fun h' hk e he=>?_;refine wpAny_bind (wpAny_isInstance (T:="StopIteration") (b:=true) he isSubtype_stop ?_);refine wpAny_pure (q _ ?_);intro b o hb e;exact hk b o ((Heap.get?_update_other _ _ (Ne.symm hb)).trans ((Heap.get?_update_other _ _ (Ne.symm hb)).trans e))
theorem ItAt.at {h h':Heap} {I a:Addr} {first:Value} {i n ep:Nat} (x:ItAt h I a first i n ep) (e:∀ o,h.get? I=some o→h'.get? I=some o):ItAt h' I a first i n ep:=e1a2 x fun o ho r=>⟨o,e _ ho,r⟩
theorem Walks.setDrawn (hh:A.handled=none) {I a P:Addr} (hne:a≠I) (hPI:P≠I) {places:List Nat} {es:Array (Int × Value)} {t:SetTable} {ep:Nat} (hf:t.fits es.size=true) (hp:places.Perm (List.range es.size)) :
  Walks B.prog B.w A I [I,a,P] [I] es.size (fun i v=>∃ pl,places[i]? = some pl∧(es[pl]?).map (·.2)=some v) (fun i h=>ItAt h I a (.ref P) i es.size ep∧h.get? a=some (setObj es ep t)∧h.get? P=some (seqObj "tuple" (places.map fun (i:Nat)=>rawInt i).toArray 0)) where
 sub:=fun b hb=>by simp at hb;simp [hb]
 frame:=fun u1_ u2_ u3_ st hk=>i0a3 (st.1.at fun o e=>hk I z_m0 o e) (hk a z_m1 _ st.2.1) (hk P z_m2 _ st.2.2)
 item:=fun i s Q E hi st hQ=>by
  have hl:places.length=es.size:=by refine hp.length_eq.trans ?_;simp
  obtain ⟨pl,hpl⟩:∃ pl,places[i]? = some pl:=⟨places[i],by simp [hl,hi]⟩
  have hplt:pl < es.size:=List.mem_range.mp (hp.mem_iff.mp (List.mem_of_getElem? hpl));have hx:(es[pl]?).map (·.2)=some es[pl].2:=by simp [hplt]
  refine next_drawn_item (B:=B) st.1 st.2.1 hf st.2.2 hpl hx fun h' hs' hit'=>?_;exact hQ _ h' s.toks (i1a2 pl hpl hx) (i0a3 hit' (by refine (hs'.2 a hne).trans ?_;exact st.2.1) (by refine (hs'.2 P hPI).trans ?_;exact st.2.2)) fun b o hb e=>by rw [hs'.2 b (fun h=>hb (by simp [h]))];exact e
 done:=fun s Q E st hQ=>by
  have hl:places.length=es.size:=by refine hp.length_eq.trans ?_;simp
  exact next_drawn_end (B:=B) hh st.1 st.2.1 hf st.2.2 (by simp [hl]) fun h' he'=>hQ h' s.toks fun b o hb e=>he' b o (fun h=>hb (by simp [h])) e
 self:=fun u4_ u5_ u6_ u7_ st hQ=>wpAny_pyIter_setiter (B:=B) st.1 hQ
theorem Walks.setSlot (hh:A.handled=none) {I a:Addr} (hne:a≠I) {ord:List Value} {es:Array (Int × Value)} {t:SetTable} {ep:Nat} {f:Nat→Nat} (hf:t.fits es.size=true)
  (hn:∀ (i:Nat) (x:Value),ord[i]? = some x→∀ (s:Shared) (A':Around) (E':Value→Shared→Prop) (Q':Option (Value × Nat)→Shared→Prop),s.heap.get? a=some (setObj es ep t)→Q' (some (x,f (i+1))) s→wpAny B.M A' (setNext a (f i) i ep) Q' E' s)
  (hd:∀ (s:Shared) (A':Around) (E':Value→Shared→Prop) (Q':Option (Value × Nat)→Shared→Prop),s.heap.get? a=some (setObj es ep t)→Q' none s→wpAny B.M A' (setNext a (f es.size) es.size ep) Q' E' s) (hl:ord.length=es.size) :
  Walks B.prog B.w A I [I,a] [I] es.size (fun i v=>ord[i]? = some v) (fun i h=>ItAt h I a (.int (f i) 0) i es.size ep∧h.get? a=some (setObj es ep t)) where
 sub:=fun b hb=>by simp at hb;simp [hb]
 frame:=fun u1_ u2_ u3_ st hk=>⟨st.1.at fun o e=>hk I z_m0 o e,hk a z_m1 _ st.2⟩
 item:=fun i s Q E hi st hQ=>by
  have hx:ord[i]? = some ord[i]:=by simp [hl,hi]
  refine next_slot_item (B:=B) st.1 st.2 hf (hn i _ hx s · · · st.2) fun h' hs' hit'=>?_;exact hQ _ h' s.toks hx ⟨hit',by refine (hs'.2 a hne).trans ?_;exact st.2⟩ fun b o hb e=>by rw [hs'.2 b (fun h=>hb (by simp [h]))];exact e
 done:=fun s Q E st hQ=>next_slot_end (B:=B) hh st.1 st.2 hf (hd s · · · st.2) fun h' he'=>hQ h' s.toks fun b o hb e=>he' b o (fun h=>hb (by simp [h])) e
 self:=fun u4_ u5_ u6_ u7_ st hQ=>wpAny_pyIter_setiter (B:=B) st.1 hQ
theorem setNext_text {a:Addr} {es:Array (Int × Value)} {t:SetTable} {ep i:Nat} {r:Option Value} {Q:Option (Value × Nat)→Shared→Prop} (ht:B.w.params.followText "set-order" = true) (hf:t.fits es.size=true) (ho:s.heap.get? a=some (setObj es ep t))
  (hr:((pickOrder (B.w.params.setOrder a ep) es)[i]?).map (·.2)=r) (q:Q (r.map (·,0)) s):wpAny B.M A (setNext a 0 i ep) Q E s:=by
 refine wpAny_bind (wpAny_setState_of ho rfl hf ?_);dsimp only;refine wpAny_bind (wpAny_bind (wpAny_askSetting (wpAny_pure ?_)));have ht':({ program:=B.M.prog,params:=B.M.w.params }:Setting).params.followText "set-order" = true:=ht;rw [if_pos ht',if_neg (by simp)];refine wpAny_bind (wpAny_bind (wpAny_setState_of ho rfl hf ?_));dsimp only;refine wpAny_bind (wpAny_bind (wpAny_askSetting (wpAny_pure ?_)));refine if_pos ht'▸?_;refine wpAny_bind (wpAny_askSetting (wpAny_pure (wpAny_pure ?_)));subst hr;show Q (((pickOrder (B.w.params.setOrder a ep) es)[i]?).map fun e=>(e.2,0)) s;rw [Option.map_map] at q;exact q
theorem setNext_slots {a:Addr} {es:Array (Int × Value)} {t:SetTable} {ep i:Nat} {Q:Option (Value × Nat)→Shared→Prop} (ht:B.w.params.followText "set-order" = false) (hdr:(!t.plain && decide (es.size > 1))=false) (hled:t.led=true) (hri:Rise t.place) (hf:t.fits es.size=true)
  (ho:s.heap.get? a=some (setObj es ep t)) (hi:i≤es.size) (q:Q ((es[i]?).map fun e=>(e.2,after t.place (i+1))) s):wpAny B.M A (setNext a (after t.place i) i ep) Q E s:=by
 have hsz:t.place.size=es.size:=by
  rw [SetTable.fits,Bool.and_eq_true,beq_iff_eq] at hf;exact hf.1
 refine wpAny_bind (wpAny_setState_of ho rfl hf ?_);dsimp only;refine wpAny_bind (wpAny_bind (wpAny_askSetting (wpAny_pure ?_)));rw [if_neg (by show ¬ B.w.params.followText "set-order" = true;rw [ht];decide)];show wpAny _ _ (if (!t.plain && decide (es.size > 1))=true then _ else _) _ _ _;rw [if_neg (by rw [hdr];decide)];show wpAny _ _ ((if (!t.led && !es.isEmpty)=true then unsupported "set:maker-not-led" else pure ()) >>= _) _ _ _;rw [if_neg (by rw [hled];simp)];refine wpAny_bind (wpAny_pure ?_);rw [below_after hri (by exact Nat.le_trans ‹_› (Nat.le_of_eq (Eq.symm ‹_›)))];refine wpAny_pure ?_;by_cases hlt:i < es.size
 ·have e1:es[i]? = some es[i]:=by simp [hlt]
  have e2:t.place[i]? = some t.place[i]:=by simp [hsz,hlt]
  refine e1▸?_;refine e2▸?_;rw [e1] at q;have e3:after t.place (i+1)=t.place[i]+1:=by
   unfold after;refine (if_neg (by simp)).trans ?_;simp [hsz,hlt]
  rw [Option.map_some,e3] at q;exact q
 ·have e1:es[i]? = none:=by simp;exact Nat.le_of_not_lt ‹_›
  rw [e1] at q ⊢;exact q
end
end
section
open SeqAt
theorem itemsOf_eq {ord:List Value} {acc:Array Value} {n:Nat} (h:ItemsOf (fun i v=>ord[i]? = some v) acc n) (hl:ord.length=n):acc.toList=ord:=by
 refine List.ext_getElem? fun i=>?_;by_cases hi:i < acc.size
 ·have e:acc[i]? = some acc[i]:=by simp [hi]
  simp only [Array.getElem?_toList,e,h.2 i _ e]
 ·rw [List.getElem?_eq_none (by simpa using hi),List.getElem?_eq_none (by refine hl▸?_;refine (h.1).symm▸?_;exact Nat.le_of_not_lt ‹_›)]
noncomputable def Opened (B:Bs) (s:Shared) (a I:Addr) (h':Heap) (ok:List Value→Prop):Prop:=
 ∃ (fp:List Addr) (n:Nat) (P:Nat→Value→Prop) (St:Nat→Heap→Prop),(∀ b∈fp,b=a∨s.heap.objs.size≤b)∧s.heap.objs.size≤I∧n≤sizeLine∧(∀ acc:Array Value,ItemsOf P acc n→ok acc.toList)∧St 0 h'∧∀ A:Around,A.handled=none→Walks B.prog B.w A I fp [I] n P St
section
variable {B:Bs} {A:Around} {E:Value→Shared→Prop} {s:Shared} {n:Nat}
theorem pyIter_set {a:Addr} {es:Array (Int × Value)} {ep:Nat} {t:SetTable} {Q:Value→Shared→Prop} (ho:s.heap.get? a=some (setObj es ep t)) (hf:t.fits es.size=true) (hled:t.led=true∨B.w.params.followText "set-order" = true) (hri:Rise t.place) (hsz:es.size≤sizeLine)
  (q:∀ I h' dr,(∀ b o,s.heap.get? b=some o→h'.get? b=some o)→Opened B s a I h' (fun out=>out.Perm (es.toList.map (·.2)))→Q (.ref I) { s with heap:=h',drawn:=dr }):wpAny B.M A (pyIter (.ref a)) Q E s:=by
 have hT:s.TypeIs (.ref a) "set":=i1a2 _ ho rfl;have hlt:a < s.heap.objs.size:=Heap.lt_size ho;refine wpAny_pyIter_slot hT F.slot_set_iter (wpAny_call_entry F.slot_set_iter hT entry_set_iter ?_ (F.args_set_iter_1 _));unfold Builtin.«frozenset.__iter__»;refine wpAny_bind (m:=Builtin.Frozenset.slot0 "__iter__" _) (wpAny_pure ?_);refine wpAny_bind (wpAny_bind (wpAny_setEntries_of ho rfl hf (wpAny_pure ?_)));refine wpAny_bind ?_;refine wpAny_bind (wpAny_setState_of ho rfl hf ?_);dsimp only;refine wpAny_bind (wpAny_bind (wpAny_askSetting (wpAny_pure ?_)));show wpAny _ _ (pure (!(B.w.params.followText "set-order") && (!t.plain && decide (es.size > 1)))) _ _ _;refine wpAny_pure ?_;have hkeep1:∀ (x:Obj) b o,s.heap.get? b=some o→(s.heap.push x).get? b=some o:=fun x b o e=>Heap.get?_push_of_some _ e;have slot:∀ (ord:List Value) (f:Nat→Nat),f 0=0→ord.length=es.size→ord.Perm (es.toList.map (·.2)) →
   (∀ (i:Nat) (x:Value),ord[i]? = some x→∀ (s:Shared) (A':Around) (E':Value→Shared→Prop) (Q':Option (Value × Nat)→Shared→Prop),s.heap.get? a=some (setObj es ep t)→Q' (some (x,f (i+1))) s→wpAny B.M A' (setNext a (f i) i ep) Q' E' s) →
   (∀ (s:Shared) (A':Around) (E':Value→Shared→Prop) (Q':Option (Value × Nat)→Shared→Prop),s.heap.get? a=some (setObj es ep t)→Q' none s→wpAny B.M A' (setNext a (f es.size) es.size ep) Q' E' s) →
   Opened B s a s.heap.objs.size (s.heap.push (itObj (.int 0 0) 0 a es.size ep)) (fun out=>out.Perm (es.toList.map (·.2))):=fun ord f f0 hl hp hn hd=>
  ⟨[s.heap.objs.size,a],es.size,fun i v=>ord[i]? = some v,fun i h=>ItAt h s.heap.objs.size a (.int (f i) 0) i es.size ep∧h.get? a=some (setObj es ep t),fun b hb=>by
    simp only [List.mem_cons,List.not_mem_nil,or_false] at hb;clear ho q hT hlt hn hd;rcases hb with rfl | rfl
    ·exact .inr (Nat.le_refl _)
    ·exact .inl rfl,Nat.le_refl _,hsz,fun acc hacc=>by refine itemsOf_eq hacc hl▸?_;exact hp,
   ⟨by rw [f0];exact i1a3 _ (Heap.get?_push_size _ rfl) rfl rfl,Heap.get?_push_of_some _ ho⟩,fun A hh=>Walks.setSlot hh (Nat.ne_of_lt hlt) hf hn hd hl⟩
 by_cases hdr:(!(B.w.params.followText "set-order") && (!t.plain && decide (es.size > 1)))=true
 ·rw [if_pos hdr];refine wpAny_bind ?_;refine wpAny_drawOrder _ _ _ (Nat.le_of_eq List.length_range) fun places dr hp=>?_;have hpl:places.length=es.size:=by refine hp.length_eq▸?_;simp
  refine wpAny_bind (wpAny_newTuple ?_ (by simp only [List.length_map,hpl];exact hsz));have hP:(s.heap.push (seqObj "tuple" (places.map fun (i:Nat)=>rawInt i).toArray 0)).get? s.heap.objs.size=some (seqObj "tuple" (places.map fun (i:Nat)=>rawInt i).toArray 0):=Heap.get?_push_size _ rfl;refine wpAny_bind (wpAny_setEpoch_of (s:={ s with heap:=_,drawn:=dr }) (hkeep1 _ a _ ho) rfl hf ?_);refine wpAny_bind (wpAny_newObj_type (wpAny_pure ⟨_,rfl,"set_iterator",_,i1a2 _ (Heap.get?_push_size _ rfl) rfl,slot_set_iterator_next.lookup,?_⟩));refine q _ _ dr (fun b o e=>Heap.get?_push_of_some _ (Heap.get?_push_of_some _ e)) ?_;have hI:s.heap.objs.size≠(s.heap.push (seqObj "tuple" (places.map fun (i:Nat)=>rawInt i).toArray 0)).objs.size:=by simp only [size_push'];simp
  refine ⟨[_,a,s.heap.objs.size],es.size,_,_,fun b hb=>?_,?_,hsz,fun acc hacc=>?_,⟨i1a3 _ (Heap.get?_push_size _ rfl) rfl rfl,Heap.get?_push_of_some _ (hkeep1 _ a _ ho),Heap.get?_push_of_some _ hP⟩,fun A hh=>Walks.setDrawn hh ?_ hI hf hp⟩
  ·simp only [List.mem_cons,List.not_mem_nil,or_false] at hb;clear ho q hT hlt slot;rcases hb with rfl | rfl | rfl
   ·right;show _≤(s.heap.push _).objs.size;simp only [size_push'];lia
   ·exact .inl rfl
   ·exact .inr (Nat.le_refl _)
  ·show _≤(s.heap.push _).objs.size;simp only [size_push'];lia
  ·have e:acc.toList=places.map fun pl=>((es[pl]?).map (·.2)).getD .none:=by
    refine itemsOf_eq (n:=es.size) ⟨hacc.1,fun j v hj=>?_⟩ (by simp only [List.length_map,hpl]);refine e1a2 (hacc.2 j v hj) fun pl h1 h2=>?_;simp only [List.getElem?_map,h1,Option.map_some,h2];rfl
   refine e▸?_;refine (hp.map _).trans (.of_eq ?_);refine List.ext_getElem? fun i=>?_;by_cases hi:i < es.size
   ·simp [hi]
   ·simp [hi]
  ·show a≠(s.heap.push _).objs.size;simp only [size_push'];exact Nat.ne_of_lt (Nat.lt_succ_of_lt hlt)
 ·rw [if_neg hdr];refine wpAny_bind (wpAny_pure ?_);refine wpAny_bind (wpAny_setEpoch_of ho rfl hf ?_);refine wpAny_bind (wpAny_newObj_type (wpAny_pure ⟨_,rfl,"set_iterator",_,i1a2 _ (Heap.get?_push_size _ rfl) rfl,slot_set_iterator_next.lookup,?_⟩));refine q _ _ s.drawn (fun b o e=>Heap.get?_push_of_some _ e) ?_;induction ht:B.w.params.followText "set-order" with
  | true=>
   have hpo:=pickOrder_perm (B.w.params.setOrder a ep) es;have hlen:(pickOrder (B.w.params.setOrder a ep) es).size=es.size:=by refine (Array.length_toList).symm▸?_;refine hpo.length_eq▸?_;exact Array.length_toList▸rfl
   refine slot ((pickOrder (B.w.params.setOrder a ep) es).toList.map (·.2)) (fun u1_=>0) rfl (by simp [hlen]) (hpo.map _) (fun i x hx s A' E' Q' ho q=>?_) (fun s A' E' Q' ho q=>?_)
   ·refine setNext_text ht hf ho (r:=some x) ?_ q;simp only [← hx,List.getElem?_map,Array.getElem?_toList]
   ·refine setNext_text ht hf ho (r:=none) ?_ q;rw [Array.getElem?_eq_none (by exact Nat.le_of_eq ‹_›)];rfl
  | false=>
   rw [ht] at hdr;have hdr':(!t.plain && decide (es.size > 1))=false:=by simpa using hdr
   have hl:t.led=true:=hled.resolve_right (by refine ht▸?_;decide);refine slot (es.toList.map (·.2)) (after t.place) rfl (by simp) (.refl _) (fun i x hx s A' E' Q' ho q=>?_) (fun s A' E' Q' ho q=>?_)
   ·rw [List.getElem?_map,Array.getElem?_toList] at hx;refine e1a2 (Option.map_eq_some_iff.mp hx) fun e he z1=>?_;clear hx;subst z1;have hi:i < es.size:=(Array.getElem?_eq_some_iff.mp he).1;refine setNext_slots ht hdr' hl hri hf ho (by exact Nat.le_of_lt ‹_›) ?_;refine he▸?_;exact q
   ·refine setNext_slots ht hdr' hl hri hf ho (Nat.le_refl _) ?_;refine Array.getElem?_eq_none (Nat.le_refl _)▸?_;exact q
end
end
section
open SeqAt
section
variable {B:Bs} {A:Around} {E:Value→Shared→Prop} {s:Shared} {n:Nat}
theorem pyIter_idict {K:Type} [DecidableEq K] {knd:KeyKind B.prog B.w K} {d:Addr} {kvs:List (K × Value)} {Q:Value→Shared→Prop} (hd:(d == sysModules)=false) (hm:s.heap.DictOf knd d kvs) (hsz:kvs.length≤sizeLine)
  (q:∀ I h' dr,(∀ b o,s.heap.get? b=some o→h'.get? b=some o)→Opened B s d I h' (fun out=>∃ ks:List K,ks=kvs.map (·.1)∧out.length=ks.length∧∀ (i:Nat) (k:K) (v:Value),ks[i]? = some k→out[i]? = some v→knd.is k v=true)→Q (.ref I) { s with heap:=h',drawn:=dr }):wpAny B.M A (pyIter (.ref d)) Q E s:=by
 refine e1a1 hm.dictAt fun ep hm=>?_;have hlt:=hm.lt_size;refine wpAny_pyIter_dict hd hm ?_;refine q _ _ s.drawn (fun b o e=>Heap.get?_push_of_some _ e) ?_;refine ⟨[s.heap.objs.size,d],kvs.length,_,_,fun b hb=>?_,Nat.le_refl _,hsz,fun acc hacc=>?_,⟨i1a3 _ (Heap.get?_push_size _ rfl) rfl rfl,hm.push _⟩,fun A hh=>Walks.dictKeys (knd:=knd) hh _ d (Nat.ne_of_lt hlt) kvs ep⟩
 ·simp only [List.mem_cons,List.not_mem_nil,or_false] at hb;clear hd q hm hlt;clear hm;rcases hb with rfl | rfl
  ·exact .inr (Nat.le_refl _)
  ·exact .inl rfl
 ·refine i1a3 _ rfl (by simpa using hacc.1) (fun i k v hk hv=>?_);rw [Array.getElem?_toList] at hv;refine e2a2 (hacc.2 i v hv) fun k' x h1 h2=>?_;replace hk:=h1▸(List.getElem?_map.symm.trans hk)
  cases hk;exact h2
set_option maxHeartbeats 1600000 in
theorem hint_any {T:String} {a:Addr} {s1:Shared} {Q:Bool→Shared→Prop} (hTm:T="set"∨T="dict") (hT:s1.TypeIs (.ref a) T) (q:Q false s1):wpAny B.M A (Builtin.List.listLengthHint (.ref a)) Q E s1:=by
 unfold Builtin.List.listLengthHint;rcases hTm with rfl | rfl
 all_goals
  refine wpAny_bind (wpAny_specialOf (name:=ofString "__len__") hT (by first | exact PySem.F.slot_set_len.lookup | exact PySem.F.slot_dict_len.lookup) ?_)
  first
   | (generalize hid:("set.__len__":String)=id0;(fail_if_success (clear hid id0));wp_delta;rw [show splitId id0=some ("set","__len__") from by subst hid;decide +kernel];subst hid)
   | (generalize hid:("dict.__len__":String)=id0;(fail_if_success (clear hid id0));wp_delta;rw [show splitId id0=some ("dict","__len__") from by subst hid;decide +kernel];subst hid)
  refine wpAny_bind (wpAny_isInstance (b:=true) hT (by rw [isSubtype_type];kernel_rfl) ?_);show wpAny _ _ (typeOf (.ref a) >>= _) _ _ _;refine wpAny_bind (wpAny_typeOf hT ?_);exact wpAny_pure q
theorem collect_any {T:String} {a:Addr} {ok:List Value→Prop} {Q:List Value→Shared→Prop} (hTm:T="set"∨T="dict") (hT:s.TypeIs (.ref a) T) (hh:A.handled=none) (ha:a < s.heap.objs.size)
  (hit:∀ (A':Around) (E':Value→Shared→Prop) (s1:Shared) (Q':Value→Shared→Prop),(∀ b o,s.heap.get? b=some o→s1.heap.get? b=some o)→(∀ I h' dr,(∀ b o,s1.heap.get? b=some o→h'.get? b=some o)→Opened B s1 a I h' ok→Q' (.ref I) { s1 with heap:=h',drawn:=dr })→wpAny B.M A' (pyIter (.ref a)) Q' E' s1)
  (q:∀ out h' tk dr,ok out→(∀ b o,s.heap.get? b=some o→h'.get? b=some o)→s.heap.objs.size < h'.objs.size→Q out { s with heap:=h',toks:=tk,drawn:=dr }):wpAny B.M A (collect (.ref a)) Q E s:=by
 have hSa:s.heap.objs.size≠a:=Ne.symm (Nat.ne_of_lt ha);unfold collect;refine wpAny_bind (wpAny_runValue (codeAny_builtin PySem.F.entry_proto_collect ?_));refine Around.under_plainId PySem.F.plain_proto_collect _▸?_;show wpAny _ A.in1 (newList [] >>= fun l=>again (.builtin "list.__iadd__" ⟨[l,.ref a],[]⟩)) _ _ s;refine wpAny_bind (wpAny_newObj_type ?_);refine wpAny_pure ⟨plainId_quiet PySem.F.plain_list_iadd _,codeAny_builtin PySem.F.entry_list_iadd ?_⟩;refine Around.under_plainId PySem.F.plain_list_iadd _▸?_;have hk1:∀ b o,s.heap.get? b=some o→(s.heap.push { cls:=.type "list",data:=.seq ([]:List Value).toArray }).get? b=some o:=fun b o e=>Heap.get?_push_of_some _ e;have hS₁:(s.heap.push { cls:=.type "list",data:=.seq ([]:List Value).toArray }).get? s.heap.objs.size=some { cls:=.type "list",data:=.seq ([]:List Value).toArray }:=Heap.get?_push_size _ rfl;have h1:Builtin.List.listSameRef (.ref s.heap.objs.size) (.ref a)=false:=by simp [Builtin.List.listSameRef,hSa]
 have hT1:∀ (h':Heap) (dr:_),(∀ b o,s.heap.get? b=some o→h'.get? b=some o)→Shared.TypeIs { s with heap:=h',drawn:=dr } (.ref a) T:=fun h' dr hk=>e1a2 hT fun o ho hc=>(i1a2 o (hk a o ho) hc)
 show wpAny _ A.in1 (Builtin.List.listExtendWith (.ref s.heap.objs.size) (.ref a) (.ref s.heap.objs.size)) _ _ { s with heap:=s.heap.push { cls:=.type "list",data:=.seq ([]:List Value).toArray } };unfold Builtin.List.listExtendWith;refine wpAny_bind (wpAny_typeOf (hT1 _ s.drawn hk1) ?_);rw [if_neg (by refine h1▸?_;clear hT hT1;rcases hTm with rfl | rfl <;> decide)];refine wpAny_bind (hit _ _ _ _ hk1 fun I h2 dr hk2 hop=>?_);have hk12:∀ b o,s.heap.get? b=some o→h2.get? b=some o:=fun b o e=>hk2 b o (hk1 b o e);refine e4a6 hop fun fp n P St hfp hI hn hok hst W=>?_;have hI':s.heap.objs.size < I:=by
  have:(s.heap.push { cls:=.type "list",data:=.seq ([]:List Value).toArray }).objs.size≤I:=hI;rw [size_push'] at this;assumption
 have hSf:s.heap.objs.size ∉ fp:=fun hm=>by
  refine Or.elim (hfp _ hm) (fun e=>?_) fun e=>?_
  ·exact hSa e
  ·have:(s.heap.push { cls:=.type "list",data:=.seq ([]:List Value).toArray }).objs.size≤s.heap.objs.size:=e;rw [size_push'] at this;exact (Nat.lt_irrefl _ ‹_›).elim
 have W1:=(W A.in1 (by simpa using hh)).toS;have hS2:=hk2 _ _ hS₁;refine wpAny_bind (wpAny_holding ?_);refine hint_any hTm (hT1 h2 dr hk12) ?_;rw [if_pos (by clear hT hT1;rcases hTm with rfl | rfl <;> decide)];refine wpAny_bind (wpAny_rule ?_);refine wpAny_bind ?_;show wpAny _ A.in1 (updateSeq s.heap.objs.size (·.push .none) >>= fun u1_=>updateSeq s.heap.objs.size (·.pop)) _ _ _;refine wpAny_bind (wpAny_updateSeq hS2 rfl ?_);have hS3:=Heap.get?_update_self (Obj.mapSeq (·.push Value.none)) hS2 rfl;refine wpAny_updateSeq hS3 rfl ?_;have hS4:=Heap.get?_update_self (Obj.mapSeq (·.pop)) hS3 rfl;have oth:∀ b o,b≠s.heap.objs.size→h2.get? b=some o→((h2.update s.heap.objs.size (Obj.mapSeq (·.push Value.none))).update s.heap.objs.size (Obj.mapSeq (·.pop))).get? b=some o:=
  fun b o hb e=>(Heap.get?_update_other _ _ (Ne.symm hb)).trans ((Heap.get?_update_other _ _ (Ne.symm hb)).trans e)
 refine wpAny_pure ⟨plainId_quiet PySem.F.plain_extend_loop _,codeAny_extend_loopS W1 hn _ hSf _ n 0 _ _ _ rfl (Nat.zero_le _)
  (W1.frame 0 ({ s with heap:=h2,drawn:=dr }:Shared) _ s.toks hst (Nat.le_refl _) fun b hb o e=>oth b o (fun h=>hSf (h▸hb)) e) hS4 (ItemsOf.nil P) fun s' acc' c' hm hS' hacc=>?_⟩
 show wpAny _ A (load s.heap.objs.size >>= _) _ _ s';refine wpAny_bind (wpAny_load hS' ?_);refine wpAny_pure ?_;have hkk:∀ b o,s.heap.get? b=some o→s'.heap.get? b=some o:=fun b o e=>by
  have hb:b < s.heap.objs.size:=Heap.lt_size e;refine hm.heap b o ?_ (oth b o (Nat.ne_of_lt hb) (hk12 b o e));simp only [List.mem_cons,List.not_mem_nil,or_false];intro h;refine Or.elim h (fun h=>?_) fun h=>?_
  ·exact Nat.lt_irrefl _ (h▸hb)
  ·exact Nat.lt_irrefl _ (Nat.lt_trans hI' (h▸hb))
 have hSz:s.heap.objs.size < s'.heap.objs.size:=Heap.lt_size hS';obtain ⟨h',g',d',tk',os'⟩:=s';have e1:g'=s.gens:=hm.gens;have e2:d'=dr:=hm.drawn;have e3:os'=s.os:=hm.os;clear hS';subst e1 e2 e3;exact q acc'.toList h' tk' d' (hok acc' hacc) hkk hSz
end
end
section
open SeqAt
noncomputable def LtW (A:Around) (s:Shared) (x y:Value):Prop:=∀ (prog:Program) (w:World) (E:Value→Shared→Prop) (Q:Value→Shared→Prop),(∀ b:Bool,Q (.bool b) s)→wpAny (model prog w) A (richCompare .Lt x y) Q E s
noncomputable def OneW (A:Around) (s:Shared) (x y:Value):Prop:=∀ (prog:Program) (w:World) (E:Value→Shared→Prop) (Q:Bool→Shared→Prop),(∀ b:Bool,Q b s)→wpAny (model prog w) A (oneLt' true x y) Q E s
theorem ltW_int {A:Around} {s:Shared} (a b:Int) (t u:Tok):LtW A s (.int a t) (.int b u):=fun prog w E Q h=>wpAny_lt_int (h _)
theorem ltW_str {A:Around} {s:Shared} (x y:Str) (t u:Tok):LtW A s (.str x t) (.str y u):=fun prog w E Q h=>lt_str (h _)
theorem oneW_str {A:Around} {s:Shared} (x y:Str) (t u:Tok):OneW A s (.str x t) (.str y u):=fun prog w E Q h=>oneLt_str (h _)
theorem tuple_ltAt (l b:Addr) (items items2:Array Value) (n n2:Nat) (dd dd2:Option Addr) (sl sl2:Array (Option Value)) :
  Meets (Builtin.«tuple.__lt__» ⟨[.ref l,.ref b],[]⟩)
   (fun A R s=>s.heap.get? l=some { cls:=.type "tuple",dict:=dd,data:=.seq items n,slots:=sl }∧s.heap.get? b=some { cls:=.type "tuple",dict:=dd2,data:=.seq items2 n2,slots:=sl2 } ∧
    (∀ j (h1:j < items.size) (h2:j < items2.size),(∃ e,EqAt A.in1 s items[j] items2[j] e)∧LtW A.in1 s items[j] items2[j])∧∀ b:Bool,R (.ok (.ret (.bool b))) s):=
 .of_wp fun prog w A R s h=>by
  obtain ⟨hp,g,d,tk,os⟩:=s;refine e0a4 h fun hl hb he h=>?_;have f2:=AutoSeq1.sub_tuple_tuple;have hZ:(items.toList.zip items2.toList).length=min items.size items2.size:=by simp
  wp_walk using wpAny_loadPart' hl,wpAny_loadPart' hb,wpAny_forIn_list _ (fun rest b s'=>b.1=none∧s'=⟨hp,g,d,tk,os⟩∧∃ i,rest=(items.toList.zip items2.toList).drop i) _
  case turn=>
   rintro ⟨y,x⟩ rest b s' ⟨hb',rfl,i,hz⟩;have hlt:i < (items.toList.zip items2.toList).length:=by
    refine Or.elim (Nat.lt_or_ge i (items.toList.zip items2.toList).length) (fun h'=>?_) fun h'=>?_
    ·exact h'
    ·rw [List.drop_of_length_le h'] at hz;cases hz
   have hm:i < min items.size items2.size:=hZ▸hlt;have h1:i < items.size:=Nat.lt_of_lt_of_le hm (Nat.min_le_left _ _);have h2:i < items2.size:=Nat.lt_of_lt_of_le hm (Nat.min_le_right _ _);rw [List.drop_eq_getElem_cons hlt] at hz;injection hz with hyx hrest;have hy:y=items[i]:=by have:=congrArg Prod.fst hyx;simpa using this
   have hx:x=items2[i]:=by have:=congrArg Prod.snd hyx;simpa using this
   clear hyx;subst hy hx;refine e0a2 (he i h1 h2) fun z9 he2=>?_;obtain ⟨e,he1⟩:=z9;refine wpAny_bind (he1 prog w _ _ ?_);clear he1;induction e with
   | true=>
    wp_walk
    exact ⟨rfl,rfl,i+1,hrest⟩
   | false=>
    simp only [Bool.not_false,if_true];refine wpAny_bind (wpAny_rule ?_);refine wpAny_bind (he2 prog w _ _ fun r=>?_)
    wp_walk
    exact i1a2 _ rfl (h r)
  case fin=>
   rintro ⟨b1,b2⟩ s' ⟨hb',rfl,i,hz⟩;simp only at hb';subst hb'
   wp_walk
   exact i1a2 _ rfl (h _)
  case h=>
   exact ⟨rfl,rfl,0,rfl⟩
theorem ltW_tup {A:Around} {s:Shared} {l b:Addr} {items items2:Array Value} (hl:s.heap.IsTuple l items) (hb:s.heap.IsTuple b items2) (hu:A.units < cLine)
  (he:∀ j (h1:j < items.size) (h2:j < items2.size),(∃ e,EqAt A.in1 s items[j] items2[j] e)∧LtW A.in1 s items[j] items2[j]):LtW A s (.ref l) (.ref b):=fun prog w E Q h=>by
 obtain ⟨⟨cls,dd,data,sl⟩,ho,hc,n,hd⟩:=id hl;obtain ⟨⟨cls2,dd2,data2,sl2⟩,ho2,hc2,n2,hd2⟩:=id hb;simp only at hc hd hc2 hd2;subst hc hd hc2 hd2;exact richCompare_meets_room (op:=.Lt) (i1a2 _ ho rfl) (i1a2 _ ho2 rfl) PySem.F.slot_tuple_lt PySem.F.entry_tuple_lt (PySem.F.args_tuple_lt_2 _ _) (tuple_ltAt l b items items2 n n2 dd dd2 sl sl2)
  (i0a4 ho ho2 he (fun r=>show Value.bool r≠Value.notImplemented∧Q (.bool r) s from ⟨(fun x=>nomatch x),h r⟩)) hu
section
variable {prog:Program} {w:World} {A:Around} {E:Value→Shared→Prop} {s:Shared}
theorem oneLt_false {p q:Value} {Q:Bool→Shared→Prop} (hlt:LtW A s p q) (h:∀ b,Q b s):wpAny (model prog w) A (oneLt' false p q) Q E s:=by
 simp only [oneLt'_eq];simp only [Bool.false_eq_true,if_false];exact wpAny_bind (hlt prog w _ _ fun b=>wpAny_truthy_bool (h b))
theorem keyLt_eq (b:Bool) (x y:Value):keyLt' (tuples' b) x y=(do
  let xs ← Builtin.List.listItems x;let ys ← Builtin.List.listItems y
  for ((p,q),i) in (xs.toList.zip ys.toList).zipIdx do
   if !(← eqBool p q) then return ← oneLt' (b && i == 0) p q
  return xs.size < ys.size):=rfl
theorem keyLt_tup {b:Bool} {l m:Addr} {items items2:Array Value} {Q:Bool→Shared→Prop} (hl:s.heap.IsTuple l items) (hm:s.heap.IsTuple m items2)
  (he:∀ p q i,items[i]? = some p→items2[i]? = some q→(∃ e,EqAt A s p q e)∧LtW A s p q∧(b=true→i=0→OneW A s p q)) (h:∀ b,Q b s):wpAny (model prog w) A (keyLt' (tuples' b) (.ref l) (.ref m)) Q E s:=by
 simp only [keyLt_eq];refine e1a3 hl fun o ho hc z37=>?_;refine e1a1 z37 fun n hd=>?_;refine e1a3 hm fun o2 ho2 hc2 z35=>?_;refine e1a1 z35 fun n2 hd2=>?_;refine wpAny_bind (listItems_at ho hd ?_);refine wpAny_bind (listItems_at ho2 hd2 ?_);refine wpAny_bind (wpAny_forIn_list _ (fun rest st s'=>s'=s∧st.1=none∧∀ x∈rest,x∈(items.toList.zip items2.toList).zipIdx) _ ?_ ?_ _ _ (i0a3 rfl rfl (fun x hx=>hx)))
 ·clear hl hm ho ho2;rintro ⟨⟨p,q⟩,i⟩ rest st s' ⟨rfl,hst,hrest⟩;have hmem:=hrest _ (List.mem_cons_self ..);have hget:=List.mem_zipIdx_iff_getElem?.mp hmem;simp only at hget;rw [List.getElem?_zip_eq_some] at hget;simp only [Array.getElem?_toList] at hget;refine e0a3 (he p q i hget.1 hget.2) fun z26 he2 he3=>?_;refine e1a1 z26 fun e he1=>?_;dsimp only;refine wpAny_bind (he1 prog w _ _ ?_);clear he1;induction e with
  | true=>
   simp only [Bool.not_true,Bool.false_eq_true,if_false];exact wpAny_pure (i0a3 rfl rfl (fun x hx=>hrest x (List.mem_cons_of_mem _ hx)))
  | false=>
   simp only [Bool.not_false,if_true];induction hb:(b && i == 0) with
   | false=>exact wpAny_bind (oneLt_false he2 fun r=>wpAny_pure (wpAny_pure (h r)))
   | true=>
    rw [Bool.and_eq_true,beq_iff_eq] at hb;exact wpAny_bind (he3 hb.1 hb.2 prog w _ _ fun r=>wpAny_pure (wpAny_pure (h r)))
 ·clear hl hm he ho ho2;rintro ⟨a,u⟩ s' ⟨rfl,ha,u1_⟩;simp only at ha;subst ha;exact wpAny_pure (h _)
theorem wpAny_mapM_same {α β:Type} {f:α→Sem β} {g:α→β}:∀ (l:List α) {Q:List β→Shared→Prop},(∀ x∈l,∀ Q':β→Shared→Prop,Q' (g x) s→wpAny (model prog w) A (f x) Q' E s)→Q (l.map g) s→wpAny (model prog w) A (l.mapM f) Q E s:=by
 intro l;induction l with
 | nil=>
  intro Q hf_ h;simp only [List.mapM_nil];exact wpAny_pure h
 | cons x l ih_=>
  intro Q hf h;rw [List.mapM_cons];refine wpAny_bind (hf x z_m0 _ ?_);refine wpAny_bind (ih_ (fun y hy=>hf y (by simp [hy])) ?_);exact wpAny_pure h
noncomputable def fstOf (h:Heap):Value→Value
 | .ref l=>match h.get? l with
  | some o=>match o.data with
   | .seq xs _=>xs[0]?.getD .none
   | _=>.none
  | none=>.none
 | _=>.none
theorem firstOf_eq (v:Value):firstOfTuple' v=(do
  if (← typeOf v) != .type "tuple" then return none
  return (← Builtin.List.listItems v)[0]?):=rfl
theorem keyKind_tups {T:String} {vs:List Value} {Q:SortKind→Shared→Prop} (hne:vs≠[]) (hv:∀ v∈vs,∃ l items f,v=.ref l∧s.heap.IsTuple l items∧items[0]? = some f∧s.TypeIs f T)
  (h:Q (tuples' (T != "tuple")) s):wpAny (model prog w) A (keyKind' vs.toArray) Q E s:=by
 have hf:∀ v∈vs,(∀ Q':Option Value→Shared→Prop,Q' (some (fstOf s.heap v)) s→wpAny (model prog w) A (firstOfTuple' v) Q' E s)∧s.TypeIs (fstOf s.heap v) T:=fun v hm=>by
  refine e3a4 (hv v hm) fun l items f z41 z42 h0 hT=>?_;clear hm;subst z41;refine e1a3 z42 fun o ho hc z31=>?_;refine e1a1 z31 fun n hd=>?_;have e:fstOf s.heap (.ref l)=f:=by
   unfold fstOf;dsimp only;refine ho▸?_;dsimp only;refine hd▸?_;dsimp only;refine h0▸?_;rfl
  refine e▸?_;refine ⟨fun Q' q=>?_,hT⟩;rw [firstOf_eq];refine wpAny_bind (wpAny_typeOf (T:="tuple") ⟨o,ho,hc⟩ ?_);rw [if_neg (by decide)];refine wpAny_bind (listItems_at ho hd ?_);refine h0▸?_;exact wpAny_pure q
 rw [keyKind'_eq,List.mapM_toArray];refine wpAny_bind ?_;rw [← bind_pure_comp];refine wpAny_bind (wpAny_mapM_same (g:=fun v=>some (fstOf s.heap v)) vs (fun v hm=>(hf v hm).1) ?_);refine wpAny_pure ?_;rw [if_pos (by simp)];refine wpAny_bind (wpAny_rule ?_);have hfm:Array.filterMap id (vs.map fun v=>some (fstOf s.heap v)).toArray=(vs.map (fstOf s.heap)).toArray:=by
  refine List.filterMap_toArray.trans ?_;refine List.filterMap_map▸?_;congr 1;exact congrFun (List.filterMap_eq_map (f:=fstOf s.heap)) vs
 rw [hfm,oneTypeOnly'_eq,List.mapM_toArray];refine wpAny_bind ?_;refine wpAny_bind ?_;rw [← bind_pure_comp];refine wpAny_bind (wpAny_mapM_same (g:=fun u1_=>Value.type T) (vs.map (fstOf s.heap)) (fun x hx Q' q=>?_) ?_)
 ·refine e1a2 (List.mem_map.mp hx) fun v hm z39=>?_;clear hx;subst z39;exact wpAny_typeOf (hf v hm).2 q
 ·refine wpAny_pure ?_;clear hv hf hfm;obtain ⟨v,vs,rfl⟩:∃ v vs',vs=v::vs':=List.exists_cons_of_ne_nil hne;have h0:(List.map (fun u2_=>Value.type T) ((v::vs).map (fstOf s.heap))).toArray[0]? = some (Value.type T):=rfl;refine h0▸?_;dsimp only;have hall:((List.map (fun u3_=>Value.type T) ((v::vs).map (fstOf s.heap))).toArray.all fun x=>x == Value.type T)=true:=by simp
  rw [hall];refine wpAny_pure ?_;refine wpAny_pure ?_;have e:(Option.any (fun x=>x != Value.type "tuple") (if true=true then some (Value.type T) else none))=(T != "tuple"):=by
   simp only [if_true,Option.any_some];by_cases c:T="tuple"
   ·clear h h0 hall;subst c;decide
   ·have h1:(Value.type T != Value.type "tuple")=true:=by
     refine bne_iff_ne.mpr ?_;intro e;clear h h0 hall;cases e;exact c rfl
    have h2:(T != "tuple")=true:=by refine bne_iff_ne.mpr ?_;exact c
    rw [h1,h2]
  refine e▸?_;exact h
end
end
section
open SeqAt
structure WBase (kd:SortKind) (a₀:Array Keyed) (st:SortSt):Prop where
 perm:(arrOf st).Perm a₀
 kind:kindOf st=kd
 failed:failedOf st=none
 pend:pendingOf st=#[]
theorem WBase.size {kd:SortKind} {a₀:Array Keyed} {st:SortSt} (h:WBase kd a₀ st):(arrOf st).size=a₀.size:=h.perm.size_eq
theorem WBase.setArr {kd:SortKind} {a₀:Array Keyed} {st:SortSt} (h:WBase kd a₀ st) {xs:Array Keyed} (hp:xs.Perm (arrOf st)):WBase kd a₀ (setArr st xs):=⟨hp.trans h.perm,h.kind,h.failed,h.pend⟩
noncomputable def CmpW (A:Around) (s:Shared) (kd:SortKind) (a₀:Array Keyed):Prop:=∀ x y:Keyed,x∈a₀.toList→y∈a₀.toList→∀ (prog:Program) (w:World) (E:Value→Shared→Prop) (Q:Bool→Shared→Prop),(∀ b,Q b s)→wpAny (model prog w) A (keyLt' kd x.1 y.1) Q E s
section
variable {prog:Program} {w:World} {A:Around} {E:Value→Shared→Prop} {s:Shared} {a₀:Array Keyed} {kd:SortKind}
theorem WBase.at {st:SortSt} (h:WBase kd a₀ st) {i:Nat} (hi:i < a₀.size):∃ p,(arrOf st)[i]? = some p∧p∈a₀.toList:=by
 have hi':i < (arrOf st).size:=by simp only [h.size];exact hi
 exact i1a2 ((arrOf st)[i]) (getElem?_pos _ i hi') ((Array.perm_iff_toList_perm.mp h.perm).mem_iff.mp (by simp))
theorem wpS_ltW {st:SortSt} {i j:Nat} {Q:Option Bool→SortSt→Prop} (hC:CmpW A s kd a₀) (hB:WBase kd a₀ st) (hi:i < a₀.size) (hj:j < a₀.size) (h:∀ b,Q (some b) st):wpS (model prog w) A E s (ltAt' i j) Q st:=by
 refine e1a2 (hB.at hi) fun p e1 m1=>?_;refine e1a2 (hB.at hj) fun q e2 m2=>?_;simp only [ltAt'_eq];refine wpS_bind (wpS_get ?_);simp only [elem'_eq,elem'_eq,e1,e2];refine wpS_bind (wpS_pure (wpS_bind (wpS_pure ?_)));rw [lt'_eq];refine wpS_bind (wpS_get ?_);refine hB.kind▸?_;refine wpS_bind (wpS_lift (wpAny_attempt (hC p q m1 m2 _ _ _ _ fun b=>⟨rfl,?_⟩)));exact wpS_pure (h b)
theorem wpS_binarySortW {st:SortSt} {n ok:Nat} {Q:Bool→SortSt→Prop} (hC:CmpW A s kd a₀) (hn:n≤a₀.size) (hok:ok≤n) (hB:WBase kd a₀ st) (h:∀ st',WBase kd a₀ st'→Q true st'):wpS (model prog w) A E s (binarySort' 0 n ok) Q st:=by
 rw [binarySort'_eq];simp only [Nat.zero_add];refine wpS_bind (wpS_mono (wpS_forRange (I:=fun k c st'=>c=(none,())∧WBase kd a₀ st') (Q:=fun c st'=>c=(none,())∧WBase kd a₀ st') ?step ?fin ⟨rfl,hB⟩) ?post)
 case post=>
  intro c st' z17;refine e0a2 z17 fun z18 hB'=>?_;clear z17;subst z18;exact wpS_pure (h st' hB')
 case fin=>exact fun c st' h=>h
 case step=>
  rintro k c st' hak hkn ⟨rfl,hB'⟩;have hk:k < a₀.size:=by exact Nat.lt_of_lt_of_le ‹_› ‹_›
  refine wpS_bind (wpS_mono (wpS_forRange (I:=fun x c st''=>st''=st'∧∃ l r,c=(none,l,r)∧l≤r∧r≤k) (Q:=fun c st''=>st''=st'∧∃ l r,c=(none,l,r)∧l≤r∧r≤k) ?istep ?ifin ?iinit) ?ipost)
  case iinit=>exact ⟨rfl,0,k,rfl,Nat.zero_le _,Nat.le_refl _⟩
  case ifin=>exact fun c st'' h=>h
  case istep=>
   intro x c st'' u1_ hxk z9;refine e0a2 z9 fun z10 z11=>?_;clear z9;refine z_er z10 ?_;refine e2a3 z11 fun l r z12 hlr hrk=>?_;clear z11;subst z12;dsimp only;by_cases hge:l ≥ r
   ·rw [if_pos hge];exact wpS_pure ⟨rfl,l,r,rfl,hlr,hrk⟩
   ·rw [if_neg hge];refine wpS_bind (wpS_ltW hC hB' hk (y30 hn hkn hrk hge) fun b=>?_);induction b with
    | true=>
     exact wpS_pure ⟨rfl,l,(l+r) / 2,rfl,y72 (Nat.lt_of_not_le hge),Nat.le_trans (Nat.le_of_lt (y73 (Nat.lt_of_not_le hge))) hrk⟩
    | false=>
     exact wpS_pure ⟨rfl,(l+r) / 2+1,r,rfl,y73 (Nat.lt_of_not_le hge),hrk⟩
  case ipost=>
   intro c st'' z3;refine e0a2 z3 fun z4 z5=>?_;clear z3;refine z_er z4 ?_;refine e2a3 z5 fun l r z6 hlr hrk=>?_;clear z5;subst z6;rw [moveDown'_eq];exact wpS_bind (wpS_modify (wpS_pure ⟨rfl,hB'.setArr (bubble_perm _ _ _)⟩))
theorem wpS_ascLoopW {st:SortSt} {a nrem:Nat} {Q:AscSt→SortSt→Prop} (hC:CmpW A s kd a₀) (hn:nrem≤a₀.size) (ha:1≤a) (han:a≤nrem) (hB:WBase kd a₀ st) (h:∀ n,a≤n→n≤nrem→Q (none,n) st):wpS (model prog w) A E s (ascLoop a nrem) Q st:=by
 refine wpS_forRange (I:=fun x c st'=>st'=st∧c=(none,x)) ?step ?fin ⟨rfl,rfl⟩
 case fin=>
  clear hB;rintro c st' ⟨rfl,rfl⟩;rw [Nat.max_eq_right han];exact h nrem han (Nat.le_refl _)
 case step=>
  rintro x c st' hax hxn ⟨rfl,rfl⟩;refine wpS_bind (wpS_ltW hC hB (by exact Nat.lt_of_lt_of_le ‹_› ‹_›) (y29 (a:=0) hn hxn) fun b=>?_);induction b with
  | true=>simp only [if_true];exact wpS_pure (h x hax (by exact Nat.le_of_lt ‹_›))
  | false=>simp only [Bool.false_eq_true,if_false];exact wpS_pure ⟨rfl,rfl⟩
theorem wpS_tail3W {st:SortSt} {n nrem:Nat} {Q:Option Nat→SortSt→Prop} (hC:CmpW A s kd a₀) (hn:nrem≤a₀.size) (h1:1≤n) (hnn:n≤nrem) (hB:WBase kd a₀ st) (h:∀ m st',WBase kd a₀ st'→1≤m→m≤nrem→Q (some m) st'):wpS (model prog w) A E s (tail3 n nrem) Q st:=by
 refine wpS_bind (wpS_reverse ?_);have hB':WBase kd a₀ (setArr st (mirror (arrOf st) 0 n ((n - 0) / 2))):=hB.setArr (mirror_perm _ _ _ _);exact wpS_bind (wpS_ascLoopW hC hn h1 hnn hB' fun m hm1 hm2=>wpS_pure (h m _ hB' (by exact Nat.lt_of_lt_of_le ‹_› ‹_›) hm2))
theorem wpS_descLoopW {st:SortSt} {n nrem:Nat} {Q:DescSt→SortSt→Prop} (hC:CmpW A s kd a₀) (hn:nrem≤a₀.size) (h1:1≤n) (hnn:n≤nrem) (hB:WBase kd a₀ st) (h:∀ m neq st',WBase kd a₀ st'→n≤m→m≤nrem→Q (none,m,neq) st'):wpS (model prog w) A E s (descLoop n nrem) Q st:=by
 refine wpS_forRange (I:=fun x c st'=>∃ neq,c=(none,x,neq)∧WBase kd a₀ st') ?step ?fin (i1a2 0 rfl hB)
 case fin=>
  rintro c st' ⟨neq,rfl,hB'⟩;rw [Nat.max_eq_right hnn];exact h nrem neq st' hB' hnn (Nat.le_refl _)
 case step=>
  rintro x c st' hax hxn ⟨neq,rfl,hB'⟩;dsimp only;refine wpS_bind (wpS_ltW hC hB' (by exact Nat.lt_of_lt_of_le ‹_› ‹_›) (y29 (a:=0) hn hxn) fun b=>?_);induction b with
  | true=>
   by_cases hneq:neq > 0
   ·rw [if_pos hneq];exact wpS_bind (wpS_reverse (wpS_pure (i1a2 0 rfl (hB'.setArr (mirror_perm _ _ _ _)))))
   ·rw [if_neg hneq];exact wpS_pure (i1a2 0 rfl hB')
  | false=>
   refine wpS_bind (wpS_ltW hC hB' (y29 (a:=0) hn hxn) (Nat.lt_of_lt_of_le hxn hn) fun b=>?_);induction b with
   | true=>simp only [if_true];exact wpS_pure (h x neq st' hB' hax (by exact Nat.le_of_lt ‹_›))
   | false=>simp only [Bool.false_eq_true,if_false];exact wpS_pure (i1a2 (neq+1) rfl hB')
theorem wpS_descPartW {st:SortSt} {n nrem:Nat} {Q:Option Nat→SortSt→Prop} (hC:CmpW A s kd a₀) (hn:nrem≤a₀.size) (hnn:n+1≤nrem) (hB:WBase kd a₀ st) (h:∀ m st',WBase kd a₀ st'→1≤m→m≤nrem→Q (some m) st'):wpS (model prog w) A E s (descPart n nrem) Q st:=by
 refine wpS_bind (wpS_lift (wpAny_rule ⟨rfl,?_⟩));refine wpS_bind (wpS_descLoopW hC hn (Nat.succ_pos _) hnn hB fun m neq st' hB' hm1 hm2=>?_);dsimp only;by_cases hneq:neq > 0
 ·rw [if_pos hneq];exact wpS_bind (wpS_reverse (wpS_tail3W hC hn (by lia) hm2 (hB'.setArr (mirror_perm _ _ _ _)) h))
 ·rw [if_neg hneq];exact wpS_tail3W hC hn (by lia) hm2 hB' h
theorem wpS_countRunW {st:SortSt} {nrem:Nat} {Q:Option Nat→SortSt→Prop} (hC:CmpW A s kd a₀) (hn:nrem≤a₀.size) (h1:1≤nrem) (hB:WBase kd a₀ st) (h:∀ m st',WBase kd a₀ st'→1≤m→m≤nrem→Q (some m) st'):wpS (model prog w) A E s (countRun' 0 nrem) Q st:=by
 rw [countRun0_eq];refine wpS_bind (wpS_ascLoopW hC hn (Nat.le_refl 1) h1 hB fun n hn1 hn2=>?_);dsimp only;by_cases hnn:n=nrem
 ·rw [if_pos (by simpa using hnn)];exact wpS_pure (h n st hB hn1 hn2)
 ·rw [if_neg (by simpa using hnn)];by_cases hgt:n > 1
  ·rw [if_pos hgt];refine wpS_bind (wpS_ltW hC hB (by exact y43 (by assumption) (by assumption) (by assumption)) (by exact y31 (by assumption) (by assumption) (by assumption)) fun b=>?_);induction b with
   | true=>simp only [if_true];exact wpS_pure (h n st hB hn1 hn2)
   | false=>
    exact wpS_bind (wpS_reverse (wpS_descPartW hC hn (by exact y46 (by assumption) (by assumption)) (hB.setArr (mirror_perm _ _ _ _)) h))
  ·rw [if_neg hgt];exact wpS_descPartW hC hn (by exact y46 (by assumption) (by assumption)) hB h
noncomputable def WDone (a₀:Array Keyed) (st:SortSt):Prop:=(arrOf st).Perm a₀∧failedOf st=none∧pendingOf st=#[(0,a₀.size,0)]
theorem WBase.done {st:SortSt} (hB:WBase kd a₀ st):WDone a₀ (setPending st ((pendingOf st).push (0,a₀.size,0))):=i0a3 hB.perm hB.failed (by show (pendingOf st).push _=_;refine hB.pend▸?_;rfl)
theorem wpS_sortRunsW {st:SortSt} {Q:Unit→SortSt→Prop} (hC:CmpW A s kd a₀) (hB:WBase kd a₀ st) (h2:2≤a₀.size) (h64:a₀.size < 64) (h:∀ st',(arrOf st').Perm a₀→failedOf st'=none→Q () st'):wpS (model prog w) A E s sortRuns' Q st:=by
 refine sortRuns'_eq▸?_;refine wpS_bind (wpS_get ?_);dsimp only;have hmr:minRun' a₀.size a₀.size 0=a₀.size:=by
  obtain ⟨f,hf⟩:∃ f,a₀.size=f+1:=⟨a₀.size - 1,by lia⟩
  have:minRun' (f+1) a₀.size 0=a₀.size:=by rw [minRun'_succ,if_pos h64];rfl
  rwa [← hf] at this
 rw [hB.size,hmr];refine wpS_bind (wpS_mono (wpS_forRange
  (I:=fun x c st'=>(x=0∧c=(none,0)∧WBase kd a₀ st')∨(1≤x∧c=(none,a₀.size)∧WDone a₀ st'))
  (Q:=fun c st'=>c=(none,a₀.size)∧WDone a₀ st') ?step ?fin (.inl (i0a3 rfl rfl hB))) ?post)
 case fin=>
  rintro c st' (⟨hx,_,_⟩ | ⟨_,hc,hD⟩)
  ·lia
  ·exact ⟨hc,hD⟩
 case step=>
  rintro x c st' _ hx (⟨rfl,rfl,hB'⟩ | ⟨hx1,rfl,hD⟩)
  ·dsimp only;rw [if_neg (by exact Nat.not_le.mpr ‹_›)];simp only [Nat.sub_zero,Nat.min_self,Nat.zero_add];refine wpS_bind (wpS_countRunW hC (Nat.le_refl _) (by assumption) hB' fun m st2 hB2 hm1 hm2=>?_);dsimp only;by_cases hlt:m < a₀.size
   ·rw [if_pos hlt];refine wpS_bind (wpS_lift (wpAny_rule ⟨rfl,?_⟩));refine wpS_bind (wpS_binarySortW hC (Nat.le_refl _) hm2 hB2 fun st3 hB3=>?_);refine wpS_bind (wpS_get ?_);have hb:(pendingOf st3).back? = none:=by refine hB3.pend▸?_;rfl
    rw [hb];exact wpS_bind (wpS_modify (wpS_pure (.inr (i0a3 (by lia) rfl hB3.done))))
   ·rw [if_neg hlt];have hm:m=a₀.size:=by exact y38 (by assumption) (by assumption)
    clear hm1 hm2 hlt;subst hm;refine wpS_bind (wpS_get ?_);have hb:(pendingOf st2).back? = none:=by refine hB2.pend▸?_;rfl
    rw [hb];exact wpS_bind (wpS_modify (wpS_pure (.inr (i0a3 (by lia) rfl hB2.done))))
  ·dsimp only;rw [if_pos (Nat.le_refl _)];exact wpS_pure ⟨rfl,hD⟩
 case post=>
  rintro c st' ⟨rfl,hD⟩;refine wpS_bind (wpS_mono (wpS_forRange (I:=fun u1_ c st''=>st''=st'∧c=(none,())) (Q:=fun c st''=>st''=st'∧c=(none,())) ?_ (fun u2_ u3_ hh=>hh) ⟨rfl,rfl⟩) ?_)
  ·rintro x c st'' u4_ u5_ ⟨rfl,rfl⟩;refine wpS_bind (wpS_get ?_);rw [if_pos (by rw [hD.2.2];exact Nat.le_refl 1)];exact wpS_pure ⟨rfl,rfl⟩
  ·rintro c st'' ⟨rfl,rfl⟩;exact wpS_pure (h _ hD.1 hD.2.1)
theorem list_sort_W {a:Addr} {vs:List Value} {n:Nat} {P:Fin→Shared→Prop} {b:Bool} (ho:s.heap.get? a=some (seqObj "list" vs.toArray n)) (h64:vs.length < 64)
  (hkind:∀ (s':Shared) (Q:SortKind→Shared→Prop),vs≠[]→(∀ c o,c≠a→s.heap.get? c=some o→s'.heap.get? c=some o)→Q (tuples' b) s'→wpAny (model prog w) A (keyKind' vs.toArray) Q E s')
  (hcmp:∀ s':Shared,(∀ c o,c≠a→s.heap.get? c=some o→s'.heap.get? c=some o)→CmpW A s' (tuples' b) (pairsOf vs))
  (h:∀ out:Array Value,out.toList.Perm vs→P (.done (.ret .none)) { s with heap:=sortedHeap s.heap a vs out }) :
  wpAny (model prog w) A (Builtin.«list.sort» ⟨[.ref a],[]⟩) P E s:=by
 rw [list_sort_plain];have ha:a < s.heap.objs.size:=Heap.lt_size ho;refine wpAny_bind (listItems_at ho rfl ?_);refine wpAny_bind (listUpdate_at ho rfl ?_);obtain ⟨e1,ho1⟩:∃ e1,(s.heap.update a (Obj.mapSeq fun u1_=>#[])).get? a=some (seqObj "list" #[] e1):=⟨_,get?_update_seq ho (fun u2_=>#[])⟩
 refine wpAny_bind (seqEpoch_at ho1 rfl ?_);refine wpAny_bind (wpAny_newTuple ?_);refine wpAny_bind (wpAny_newList ?_);refine wpAny_holding ?_;have ho6:(((s.heap.update a (Obj.mapSeq fun u3_=>#[])).push (seqObj "tuple" vs.toArray 0)).push (seqObj "list" #[] 0)).get? a=some (seqObj "list" #[] e1):=by
  rw [Heap.get?_push_ne _ _ _ (by simp only [size_push',Heap.size_update];exact Nat.ne_of_lt (Nat.lt_succ_of_lt ha)),Heap.get?_push_ne _ _ _ (by simp only [Heap.size_update];exact Nat.ne_of_lt ha)];exact ho1
 have hk6:∀ c o,c≠a→s.heap.get? c=some o→(((s.heap.update a (Obj.mapSeq fun u4_=>#[])).push (seqObj "tuple" vs.toArray 0)).push (seqObj "list" #[] 0)).get? c=some o:=fun c o hc e=>
  Heap.get?_push_of_some _ (Heap.get?_push_of_some _ ((Heap.get?_update_other _ _ (Ne.symm hc)).trans e))
 show wpAny (model prog w) A _ P E { s with heap:=((s.heap.update a (Obj.mapSeq fun u5_=>#[])).push (seqObj "tuple" vs.toArray 0)).push (seqObj "list" #[] 0) };have hsz:vs.toArray.size=vs.length:=rfl;have fin:∀ st':SortSt,(arrOf st').Perm (pairsOf vs)→P (.done (.ret .none)) { s with heap:=sortedHeap s.heap a vs ((arrOf st').map (·.2)) }:=by
  intro st' hp;refine h _ ?_;have hl:(arrOf st').toList.Perm (vs.zip vs):=by rw [← pairsOf_toList];exact Array.perm_iff_toList_perm.mp hp
  refine Array.toList_map▸?_;refine (hl.map _).trans (.of_eq ?_);exact List.map_snd_zip (Nat.le_refl _)
 by_cases h2:vs.toArray.size < 2
 ·rw [if_pos h2,if_pos h2];refine wpAny_bind (wpAny_pure ?_);refine wpAny_bind (wpAny_pure ?_);dsimp only;refine wpAny_bind (seqEpoch_at ho6 rfl ?_);refine wpAny_bind (listUpdate_at ho6 rfl ?_ (hsz2:=by rw [Array.size_map];show (pairsOf vs).size≤_;simp only [pairsOf_size,sizeLine_eq];lia));simp only [bne_self_eq_false,Bool.false_eq_true,if_false];exact wpAny_pure (fin (SortSt.mk' general' (vs.toArray.zip vs.toArray) #[] 7 none) (Array.Perm.refl _))
 ·rw [if_neg h2,if_neg h2];refine wpAny_bind (hkind _ _ (fun e=>h2 (by refine e▸?_;decide)) hk6 ?_);refine wpAny_bind (wpAny_mono (wpS_sortRunsW (a₀:=pairsOf vs) (st:=SortSt.mk' (tuples' b) (vs.toArray.zip vs.toArray) #[] 7 none)
   (Q:=fun u6_ st'=>(arrOf st').Perm (pairsOf vs)∧failedOf st'=none)
   (hcmp _ hk6) ⟨Array.Perm.refl _,rfl,rfl,rfl⟩ (by simp only [pairsOf_size];lia) (by rw [pairsOf_size];exact h64) fun st' a1 a2=>⟨a1,a2⟩) ?_ fun u7_ u8_ e=>e)
  rintro ⟨⟨⟩,st'⟩ s' ⟨rfl,hp,hf⟩;refine wpAny_bind (seqEpoch_at ho6 rfl ?_);refine wpAny_bind (listUpdate_at ho6 rfl ?_ (hsz2:=by refine Nat.le_trans (Nat.le_of_eq ((Array.size_map ..).trans (hp.size_eq.trans (pairsOf_size _)))) ?_;simp only [sizeLine_eq];refine Nat.le_of_lt (Nat.lt_of_lt_of_le ‹_› ?_);exact nbl rfl));refine hf▸?_;simp only [bne_self_eq_false,Bool.false_eq_true,if_false];exact wpAny_pure (fin st' hp)
end
end
section
open SeqAt
section
variable {B:Bs} {A:Around} {E:Value→Shared→Prop} {s:Shared} {n:Nat} {H:AH} {X:List Addr}
theorem sorted_any {T:String} {a:Addr} {ok:List Value→Prop} {ok2:List Value→List Value→Prop} {Q:Value→Shared→Prop} (hTm:T="set"∨T="dict") (hT:s.TypeIs (.ref a) T) (hh:A.handled=none) (ha:a < s.heap.objs.size)
  (hlen:∀ out,ok out→out.length≤sizeLine)
  (hit:∀ (A':Around) (E':Value→Shared→Prop) (s1:Shared) (Q':Value→Shared→Prop),(∀ b o,s.heap.get? b=some o→s1.heap.get? b=some o)→(∀ I h' dr,(∀ b o,s1.heap.get? b=some o→h'.get? b=some o)→Opened B s1 a I h' ok→Q' (.ref I) { s1 with heap:=h',drawn:=dr })→wpAny B.M A' (pyIter (.ref a)) Q' E' s1)
  (hsort:∀ (E':Value→Shared→Prop) (s2:Shared) (l:Addr) (out:List Value) (P:Fin→Shared→Prop),ok out→(∀ b o,s.heap.get? b=some o→s2.heap.get? b=some o)→s.heap.objs.size≤l→s2.heap.get? l=some (seqObj "list" out.toArray 0) →
   (∀ out':Array Value,ok2 out out'.toList→P (.done (.ret .none)) { s2 with heap:=sortedHeap s2.heap l out out' })→wpAny B.M A.in1.in1 (Builtin.«list.sort» ⟨[.ref l],[]⟩) P E' s2)
  (q:∀ l h' tk dr out out' e,ok out→ok2 out out'→(∀ b o,s.heap.get? b=some o→h'.get? b=some o)→s.heap.objs.size≤l→h'.get? l=some (seqObj "list" out'.toArray e)→Q (.ref l) { s with heap:=h',toks:=tk,drawn:=dr }) :
  wpAny B.M A (call (.builtin "sorted") [.ref a]) Q E s:=by
 refine Calls.call_function_entry kind_sorted plain_sorted entry_sorted (args_sorted1 _) ?_;unfold Builtin.«sorted»;refine wpAny_bind (m:=checkCount "sorted" 1 1 _) (wpAny_pure ?_);refine wpAny_bind (collect_any hTm hT (by simpa using hh) ha hit fun out h1 tk dr hok hk1 hsz=>?_);refine wpAny_bind (wpAny_newList ?_ (hlen _ hok));have hsz:s.heap.objs.size≤h1.objs.size:=Nat.le_of_lt hsz;have hoL:(h1.push (seqObj "list" out.toArray 0)).get? h1.objs.size=some (seqObj "list" out.toArray 0):=Heap.get?_push_size _ rfl;have hk2:∀ b o,s.heap.get? b=some o→(h1.push (seqObj "list" out.toArray 0)).get? b=some o:=fun b o e=>Heap.get?_push_of_some _ (hk1 b o e);show wpAny _ _ _ _ _ { s with heap:=h1.push (seqObj "list" out.toArray 0),toks:=tk,drawn:=dr };refine wpAny_bind (wpAny_holding (wpAny_call_entry slot_list_sort (i1a2 _ hoL rfl) entry_list_sort (hsort _ _ _ out _ hok hk2 hsz hoL fun out' h2=>i1a2 _ rfl ?_) (args_list_sort _)));refine e1a1 (sortedHeap_at (out:=out') hoL) fun e he=>?_;refine wpAny_pure (i1a2 _ rfl (q _ _ tk dr out out'.toList e hok h2 (fun b o hb=>?_) hsz he));have hb1:=hk2 b o hb;have hlt:=Heap.lt_size (hk1 b o hb);refine sortedHeap_old (Nat.ne_of_lt hlt) (Heap.lt_size hb1)▸?_;exact hb1
theorem fin_allocD {Q:V→AH→Prop} {c:Cell} {h':Heap} {tk:Nat} {dr} {a:Addr} (x:Abs B s.heap H) (k:∀ b o,s.heap.get? b=some o→h'.get? b=some o) (ha:s.heap.objs.size≤a) (hc:CellIs B h' a c)
  (q:∀ a,H a=none→Q (.ref a) (H.put a c)) :
  TrP B X s H (Ret B Q) (.ref a) { s with heap:=h',toks:=tk,drawn:=dr }:=by
 have h0:s.heap.get? a=none:=Heap.get?_none_of_le ha;refine ⟨H.put a c,x.alloc k ha hc,⟨fun b o e u1_ u2_=>k b o e,fun b o e u3_=>⟨o,k b o e⟩,fun b o hb u4_ e=>?_,.of_keeps k,rfl,rfl⟩,.ref a,rfl,q a (x.none_of_none h0)⟩;rw [AH.put_ne _ _ (fun q=>by clear hc;subst q;replace hb:=h0.symm.trans hb;exact z_ns hb)];exact e
end
end
section
open SeqAt
theorem intsAre_perm {out xs:List Value} {ns:List Int} (p:out.Perm xs) (h:IntsAre xs ns):∃ ms,IntsAre out ms∧ms.Perm ns:=by
 refine i1a2 (out.map numOf) (intsAre_map out fun v hv=>h.all v (p.mem_iff.mp hv)) ?_;refine (h.nums).symm▸?_;exact p.map _
section
variable {B:Bs} {A:Around} {E:Value→Shared→Prop} {s:Shared} {n:Nat} {H:AH} {Q:V→AH→Prop} {a:Addr}
theorem c_sortedSetInts {ns:List Int} (ha:H a=some (.set (ns.map V.int))) (hz:ns.length < 64) (q:∀ (c:Addr) (ms:List Int),H c=none→ms.Perm ns→ms.Pairwise (·≤·)→Q (.ref c) (H.put c (.list (ms.map V.int)))):UC B n (.builtin "sorted") [.ref a] H Q:=fun A s xs ok R ab hc=>by
 refine e1a2 (conc1 hc) fun x z1 hx=>?_;clear hc;subst z1;have:x=.ref a:=hx;subst this;refine e3a5 (ab.cell _ _ ha) fun es ep t ho hl hf hled hri=>?_;have hI:IntsAre (es.map (·.2)) ns:=intsAre_of hl;have hlen:es.length=ns.length:=by have:=hl.length;simp at this;lia
 refine sorted_any (T:="set") (ok:=fun out=>out.Perm (es.map (·.2))) (ok2:=fun out out'=>∃ ms,IntsAre out' ms∧ms.Perm ns∧ms.Pairwise (·≤·)) (.inl rfl) (i1a2 _ ho rfl) R.handled (Heap.lt_size ho) (fun out hp=>by simp only [hp.length_eq,List.length_map,sizeLine_eq];lia) (fun A' E' s1 Q' hk q=>?_) (fun E' s2 l out P hp hk hl2 hol q=>?_) (fun l h' tk dr out out' e hp z1 hk hl2 hol=>e1a3 z1 fun ms h1 h2 h3=>?_)
 ·exact pyIter_set (es:=es.toArray) (t:=t) (ep:=ep) (hk a _ ho) (by simpa using hf) hled hri (by simp [sizeLine_eq];lia) fun I h' dr hk2 hop=>q I h' dr hk2 hop
 ·refine e1a2 (intsAre_perm hp hI) fun ns' i1 i2=>?_;refine list_sort_tree hol i1 (by simp only [hp.length_eq,List.length_map];refine Nat.lt_of_le_of_lt ?_ ‹_›;exact Nat.le_of_eq ‹_›) fun out' ms g1 g2 g3=>q out' (i1a3 ms g1 (g2.trans i2) g3)
 ·exact fin_allocD ab hk hl2 (c:=.list (ms.map V.int)) (i2a2 out' e hol (conc_ints h1)) fun c hc=>q c ms hc h2 h3
theorem c_sortedDict {kvs:List (Int × V)} (ha:H a=some (.idict kvs)) (hz:kvs.length < 64) (q:∀ (c:Addr) (ms:List Int),H c=none→ms.Perm (kvs.map (·.1))→ms.Pairwise (·≤·)→Q (.ref c) (H.put c (.list (ms.map V.int)))):UC B n (.builtin "sorted") [.ref a] H Q:=fun A s xs ok R ab hc=>by
 refine e1a2 (conc1 hc) fun x z1 hx=>?_;subst z1;have:x=.ref a:=hx;subst this;refine e1a2 (ab.cell _ _ ha) fun ys hd hl=>?_;obtain ⟨o,ho⟩:∃ o,s.heap.get? a=some o:=e3a2 hd fun o u1_ u2_ ho u3_=>⟨o,ho⟩
 have hkeys:ys.map (·.1)=kvs.map (·.1):=by
  clear q hd ho ha hz hc;induction hl with
  | nil=>rfl
  | cons h _ ih=>refine List.map_cons.trans ?_;refine ih▸?_;congr 1;exact h.1.symm
 have hlen:ys.length=kvs.length:=by have:=congrArg List.length hkeys;simpa using this
 have hints:∀ (ks:List Int) (out:List Value),out.length=ks.length→(∀ (i:Nat) (k:Int) (v:Value),ks[i]? = some k→out[i]? = some v→(intKind B.prog B.w).is k v=true)→IntsAre out ks:=by
  intro ks;induction ks with
  | nil=>intro out h1 u4_;refine List.length_eq_zero_iff.mp h1▸?_;exact .nil
  | cons k ks ih=>
   intro out h1 h2;induction out with
   | nil=>simp at h1
   | cons v out=>
    refine e1a1 (Value.isInt_shape (h2 0 k v rfl rfl)) fun t z4=>?_;subst z4;exact .cons k t (ih out (by simpa using h1) fun i k' v' e1 e2=>h2 (i+1) k' v' (by simpa using e1) (by simpa using e2))
 refine sorted_any (T:="dict") (ok:=fun out=>IntsAre out (kvs.map (·.1))) (ok2:=fun out out'=>∃ ms,IntsAre out' ms∧ms.Perm (kvs.map (·.1))∧ms.Pairwise (·≤·)) (.inr rfl) hd.typeIs R.handled (Heap.lt_size ho) (fun out hp=>by simp only [← List.length_map (f:=numOf),hp.nums,List.length_map,sizeLine_eq];refine Nat.le_of_lt (Nat.lt_of_lt_of_le ‹_› ?_);exact nbl rfl) (fun A' E' s1 Q' hk q=>?_) (fun E' s2 l out P hp hk hl2 hol q=>?_) (fun l h' tk dr out out' e hp z3 hk hl2 hol=>e1a3 z3 fun ms h1 h2 h3=>?_)
 ·refine pyIter_idict (knd:=intKind B.prog B.w) (kvs:=ys) (ab.mods ha) (hd.at fun o e=>hk a o e) (by refine sizeLine_eq▸?_;lia) fun I h' dr hk2 hop=>q I h' dr hk2 ?_;refine e4a5 hop fun fp m P St g1 g2 g3 g4 g5=>?_;refine i4a5 fp m P St g1 g2 g3 (fun acc hacc=>?_) g5;refine e1a3 (g4 acc hacc) fun ks z2 g6 g7=>?_;subst z2;simp only [← hkeys];exact hints _ _ g6 g7
 ·refine list_sort_tree hol hp (by simp only [← List.length_map (f:=numOf),hp.nums,List.length_map];assumption) fun out' ms g1 g2 g3=>q out' (i1a3 ms g1 g2 g3)
 ·exact fin_allocD ab hk hl2 (c:=.list (ms.map V.int)) (i2a2 out' e hol (conc_ints h1)) fun c hc=>q c ms hc h2 h3
theorem pair_flat {A:Around} {s:Shared} {p q:Value} {v w:V} (R:A.units+4 < cLine) (hv:v.flat=true) (hw:w.flat=true) (hd:v.deep≤3) (h1:Conc B s.heap v p) (h2:Conc B s.heap w q):∃ e,EqAt A s p q e:=⟨_,eqAt_V 3 A s v w p q hd hv hw (by lia) h1 h2⟩
theorem node_pairs {A:Around} {s:Shared} {y z:Str} {ns ms:List Int} {xs ys:List Value} (R:A.units+4 < cLine) (h1:ConcL B s.heap (.str y::ns.map V.int) xs) (h2:ConcL B s.heap (.str z::ms.map V.int) ys) {i:Nat} {p q:Value} (hp:xs[i]? = some p) (hq:ys[i]? = some q) :
  (∃ e,EqAt A s p q e)∧LtW A s p q∧(i=0→OneW A s p q):=by
 refine e1a2 (h1.get' hp) fun v hv cv=>?_;refine e1a2 (h2.get' hq) fun w hw cw=>?_;clear hp hq;cases i with
 | zero=>
  simp only [List.getElem?_cons_zero,Option.some.injEq] at hv hw;subst hv;subst hw;refine ⟨pair_flat R rfl rfl (Nat.zero_le _) cv cw,?_⟩;obtain ⟨t,rfl⟩:=cv;obtain ⟨u,rfl⟩:=cw;exact ⟨ltW_str _ _ _ _,fun u1_=>oneW_str _ _ _ _⟩
 | succ i=>
  simp only [List.getElem?_cons_succ,List.getElem?_map,Option.map_eq_some_iff] at hv hw;obtain ⟨k,u2_,rfl⟩:=hv;obtain ⟨m,u3_,rfl⟩:=hw;refine ⟨pair_flat R rfl rfl (Nat.zero_le _) cv cw,?_⟩;obtain ⟨t,rfl⟩:=cv;obtain ⟨u,rfl⟩:=cw;exact ⟨ltW_int _ _ _ _,fun h=>nomatch h⟩
theorem sortedSetTups {us:List V} {T:String} {b:Bool} (hb:b=(T != "tuple")) (ha:H a=some (.set us)) (hz:us.length < 64) (ht:∀ v∈us,∃ ws,v=.tup ws)
  (hT:∀ (s:Shared) (ws:List V) (xs:List Value),.tup ws∈us→ConcL B s.heap ws xs→∃ f,xs[0]? = some f∧s.TypeIs f T)
  (hcmp:∀ (A:Around) (s:Shared) (vs ws:List V) (xs ys:List Value) (i:Nat) (p q:Value),A.units+10 < cLine→.tup vs∈us→.tup ws∈us→ConcL B s.heap vs xs→ConcL B s.heap ws ys→xs[i]? = some p→ys[i]? = some q→(∃ e,EqAt A s p q e)∧LtW A s p q∧(b=true→i=0→OneW A s p q))
  (q:∀ (c:Addr) (ws:List V),H c=none→ws.Perm us→Q (.ref c) (H.put c (.list ws))):UC B n (.builtin "sorted") [.ref a] H Q:=fun A s xs ok R ab hc=>by
 refine e1a2 (conc1 hc) fun x z13 hx=>?_;clear hc;subst z13;have:x=.ref a:=hx;subst this;have hun:=R.units;refine e3a5 (ab.cell _ _ ha) fun es ep t ho hl hf hled hri=>?_;have hlen:es.length=us.length:=by have:=hl.length;simp at this;lia
 have hof:∀ (h':Heap),(∀ b o,s.heap.get? b=some o→h'.get? b=some o)→∀ out:List Value,out.Perm (es.map (·.2))→∀ v∈out,∃ c ws xs m,v=.ref c∧.tup ws∈us∧h'.get? c=some (seqObj "tuple" (List.toArray xs) m)∧ConcL B h' ws xs:=fun h' hk out hp v hv=>by
  refine e1a1 (List.getElem?_of_mem (hp.mem_iff.mp hv)) fun j hj=>?_;refine e1a2 ((hl.keep (.of_keeps hk)).get' hj) fun u hu hcu=>?_;have hum:=List.mem_of_getElem? hu;refine e1a1 (ht u hum) fun ws z12=>?_;subst z12;refine e3a3 (conc_tup hcu) fun c xs m e1 e2 e3=>?_;exact i4a4 c ws xs m e1 hum e2 e3
 refine sorted_any (T:="set") (ok:=fun out=>out.Perm (es.map (·.2))) (ok2:=fun out out'=>out'.Perm out) (.inl rfl) (i1a2 _ ho rfl) R.handled (Heap.lt_size ho) (fun out hp=>by simp only [hp.length_eq,List.length_map,sizeLine_eq];lia) (fun A' E' s1 Q' hk q=>?_) (fun E' s2 l out P hp hk hl2 hol q=>?_) (fun l h' tk dr out out' e hp hp2 hk hl2 hol=>?_)
 ·exact pyIter_set (es:=es.toArray) (t:=t) (ep:=ep) (hk a _ ho) (by simpa using hf) hled hri (by simp [sizeLine_eq];lia) fun I h' dr hk2 hop=>q I h' dr hk2 hop
 ·have hk3:∀ (s':Shared),(∀ c o,c≠l→s2.heap.get? c=some o→s'.heap.get? c=some o)→∀ b o,s.heap.get? b=some o→s'.heap.get? b=some o:=fun s' hk' b o e=>hk' b o (Nat.ne_of_lt (Nat.lt_of_lt_of_le (Heap.lt_size e) hl2)) (hk b o e);refine list_sort_W (b:=b) hol (by simp only [hp.length_eq,List.length_map];refine Nat.lt_of_le_of_lt ?_ ‹_›;exact Nat.le_of_eq ‹_›) (fun s' Q' hne hk' hq=>?_) (fun s' hk'=>?_) fun out' hp'=>q out' hp'
  ·refine keyKind_tups (T:=T) hne (fun v hv=>?_) (by refine (hb).symm▸?_;exact hq);refine e4a4 (hof s'.heap (hk3 s' hk') out hp v hv) fun c ws xs m e1 e2 e3 e4=>?_;refine e1a2 (hT s' ws xs e2 e4) fun f f1 f2=>?_;exact i3a4 c _ f e1 (isTuple_of e3) (by refine List.getElem?_toArray.trans ?_;exact f1) f2
  ·intro x y hx hy prog w E'' Q'' hq;rw [pairsOf_toList] at hx hy;refine e4a4 (hof s'.heap (hk3 s' hk') out hp x.1 (mem_zip_self hx).2) fun c ws xs m e1 e2 e3 e4=>?_;refine e4a4 (hof s'.heap (hk3 s' hk') out hp y.1 (mem_zip_self hy).2) fun c2 ws2 xs2 m2 f1 f2 f3 f4=>?_;refine e1▸?_;refine f1▸?_;refine keyLt_tup (isTuple_of e3) (isTuple_of f3) (fun p q i h1 h2=>?_) hq;rw [List.getElem?_toArray] at h1 h2;exact hcmp A.in1.in1 s' ws ws2 xs xs2 i p q (by show A.units+1+1+10 < cLine;lia) e2 f2 e4 f4 h1 h2
 ·refine e1a2 (concL_perm (hp2.trans hp).symm hl) fun ws p1 c1=>?_;exact fin_allocD ab hk hl2 (c:=.list ws) (i2a2 out' e hol (c1.keep (.of_keeps hk))) fun c hc=>q c ws hc p1
theorem c_sortedSetNodes {us:List V} (ha:H a=some (.set us)) (hz:us.length < 64) (hn:∀ v∈us,∃ (x:Str) (ns:List Int),v=.tup (.str x::ns.map V.int)) (q:∀ (c:Addr) (ws:List V),H c=none→ws.Perm us→Q (.ref c) (H.put c (.list ws))):UC B n (.builtin "sorted") [.ref a] H Q:=
 sortedSetTups (T:="str") (b:=true) rfl ha hz (fun v hv=>e2a1 (hn v hv) fun x ns e=>⟨_,e⟩)
  (fun s ws xs hm hc=>by
   refine e2a1 (hn _ hm) fun x ns e=>?_;clear hm;cases e;refine e2a3 hc fun y r z15 z16 u1_=>?_;clear hc;subst z15;obtain ⟨t,rfl⟩:=z16;exact i1a2 _ rfl rfl)
  (fun A s vs ws xs ys i p q R hm1 hm2 h1 h2 hp hq=>by
   refine e2a1 (hn _ hm1) fun x ns e=>?_;refine e2a1 (hn _ hm2) fun x2 ns2 e2=>?_;clear hm1 hm2;cases e;cases e2;refine e0a3 (node_pairs (A:=A) (by lia) h1 h2 hp hq) fun g1 g2 g3=>?_;exact i0a3 g1 g2 (fun u2_=>g3)) q
theorem c_sortedSetHeads {us:List V} (ha:H a=some (.set us)) (hz:us.length < 64) (hn:∀ v∈us,∃ (x:Str) (ns:List Int) (k:Int),v=.tup [.tup (.str x::ns.map V.int),.int k]) (q:∀ (c:Addr) (ws:List V),H c=none→ws.Perm us→Q (.ref c) (H.put c (.list ws))):UC B n (.builtin "sorted") [.ref a] H Q:=
 sortedSetTups (T:="tuple") (b:=false) rfl ha hz (fun v hv=>e3a1 (hn v hv) fun x ns k e=>⟨_,e⟩)
  (fun s ws xs hm hc=>by
   refine e3a1 (hn _ hm) fun x ns k e=>?_;clear hm;cases e;refine e2a3 hc fun y r z36 hy u1_=>?_;clear hc;subst z36;refine e3a3 (conc_tup hy) fun c zs m z35 e2 u2_=>?_;clear hy;subst z35;exact ⟨_,rfl,i1a2 _ e2 rfl⟩)
  (fun A s vs ws xs ys i p q R hm1 hm2 h1 h2 hp hq=>by
   refine e3a1 (hn _ hm1) fun x ns k e=>?_;refine e3a1 (hn _ hm2) fun x2 ns2 k2 e2=>?_;clear hm1 hm2;cases e;cases e2;refine e2a3 h1 fun y r z31 hy z32=>?_;clear h1;subst z31;refine e2a3 z32 fun y2 r2 z33 hy2 z34=>?_;clear z32;subst z33;subst z34;refine e2a3 h2 fun z r3 z24 hz z25=>?_;clear h2;subst z24;refine e2a3 z25 fun z2 r4 z26 hz2 z27=>?_;clear z25;subst z26;subst z27;have fl:=fun (x:Str) (ns:List Int)=>ints_flat ns
   match i with
   | 0=>
    simp only [List.getElem?_cons_zero,Option.some.injEq] at hp hq;subst hp;subst hq;refine i0a3 (pair_flat (by lia) ?_ ?_ ?_ hy hz) ?_ (fun h=>nomatch h)
    ·exact Bool.and_eq_true_iff.mpr ⟨rfl,(ints_flat ns).1⟩
    ·exact Bool.and_eq_true_iff.mpr ⟨rfl,(ints_flat ns2).1⟩
    ·have:=(ints_flat ns).2;exact Nat.le_trans (Nat.succ_le_succ (Nat.max_le.mpr ⟨Nat.zero_le _,this⟩)) (by decide)
    ·refine e3a3 (conc_tup hy) fun c xs m z20 g1 g2=>?_;clear hy;subst z20;refine e3a3fl (x:=z) (conc_tup hz) fun c2 xs2 m2 f1 f2=>?_;refine ltW_tup (isTuple_of g1) (isTuple_of f1) (by exact y53 (by assumption)) fun j h1 h2=>?_;refine e0a3 (node_pairs (A:=A.in1) (s:=s) (i:=j) (p:=(List.toArray xs)[j]) (q:=(List.toArray xs2)[j]) (by show A.units+1+4 < cLine;lia) g2 f2 (by simp) (by simp)) fun a1 a2 u3_=>?_;exact ⟨a1,a2⟩
   | 1=>
    simp only [List.getElem?_cons_succ,List.getElem?_cons_zero,Option.some.injEq] at hp hq;subst hp;subst hq;refine i0a3 (pair_flat (by lia) rfl rfl (Nat.zero_le _) hy2 hz2) ?_ (fun h=>nomatch h);obtain ⟨t,rfl⟩:=hy2;obtain ⟨u,rfl⟩:=hz2;exact ltW_int _ _ _ _
   | i+2=>simp at hp) q
end
end
section
open SeqAt
theorem nodup_le {us vs:List V} (nd:us.Nodup) (h:∀ u∈us,u∈vs):us.length≤vs.length:=List.Nodup.length_le_of_subset nd fun u hu=>h u hu
theorem ints_hh:∀ ns:List Int,V.hhL (ns.map V.int)=true
 | []=>rfl
 | k::ns=>Bool.and_eq_true_iff.mpr ⟨rfl,ints_hh ns⟩
theorem ints_deep0:∀ ns:List Int,V.deepL (ns.map V.int)=0
 | []=>rfl
 | k::ns=>(Nat.zero_max _).trans (ints_deep0 ns)
theorem tupV_node (x:Str) (ns:List Int):TupV (.tup (.str x::ns.map V.int)):=by
 refine i0a3 (Bool.and_eq_true_iff.mpr ⟨rfl,ints_hh ns⟩) ?_ rfl;show max 0 (V.deepL (ns.map V.int))+1≤4;rw [ints_deep0];decide
theorem tupV_head (x:Str) (ns:List Int) (k:Int):TupV (.tup [.tup (.str x::ns.map V.int),.int k]):=by
 refine i0a3 (Bool.and_eq_true_iff.mpr ⟨Bool.and_eq_true_iff.mpr ⟨rfl,ints_hh ns⟩,rfl⟩) ?_ rfl;show max (max 0 (V.deepL (ns.map V.int))+1) 0+1≤4;rw [ints_deep0];decide
section
variable {B:Bs} {n:Nat} {H:AH} {Q:V→AH→Prop} {a:Addr} {vs:List V}
theorem cellSet {h:Heap} {c:Addr} {us:List V} {k:Bool} (x:SetSt B h c us k):CellIs B h c (.set us):=by
 refine e3a5 x fun es ep t ho hc hled ht hf=>?_;refine i3a5 es.toList ep t ho hc ?_ ?_ ?_
 ·clear x;cases k with
  | true=>simpa using (ht rfl).1.fits
  | false=>simpa using (hf rfl).1
 ·refine hled▸?_;induction B.w.params.followText "set-order" with
  | true=>exact .inr rfl
  | false=>exact .inl rfl
 ·clear x;cases k with
  | true=>exact (ht rfl).1.rise
  | false=>exact (hf rfl).2.2.2.2
theorem c_setI (ha:H a=some (.list vs)) (hi:∀ v∈vs,∃ i,v=.int i) (hd:∃ ds:List V,ds.length≤12∧∀ v∈vs,v∈ds) (q:∀ (c:Addr) (us:List V),H c=none→us.Nodup→(∀ v,v∈us↔v∈vs)→Q (.ref c) (H.put c (.set us))):UC B n (.type "set") [.ref a] H Q:=fun A s xs ok R ab hc=>by
 refine e1a2 (conc1 hc) fun x z1 hx=>?_;clear hc;subst z1;have:x=.ref a:=hx;subst this;have hun:=R.units;refine e2a2 (ab.cell _ _ ha) fun ys m ho hl=>?_;refine e1a2 hd fun ds hd1 hd2=>?_;refine call_set (k:=false) (by lia) R.handled (IsL.isList (n:=m) ho) hl hi (fun us nd h=>Nat.le_trans (nodup_le nd fun u hu=>hd2 u (h u hu)) hd1) (fun h=>nomatch h) fun h' tk us hk hst hm hlen=>?_;refine e3a5 (id hst) fun u1_ u2_ u3_ u4_ u5_ u6_ u7_ hf=>?_;have nd:=(hf rfl).2.2.2.1;exact fin_alloc (tk:=tk) ab hk (Nat.le_refl _) (cellSet hst) fun c hc=>q c us hc nd hm
theorem c_setT (ha:H a=some (.list vs)) (hz:vs.length≤12) (ht:∀ v∈vs,TupV v) (q:∀ (c:Addr) (us:List V),H c=none→us.length≤vs.length→(∀ v,v∈us↔v∈vs)→Q (.ref c) (H.put c (.set us))):UC B n (.type "set") [.ref a] H Q:=fun A s xs ok R ab hc=>by
 refine e1a2 (conc1 hc) fun x z2 hx=>?_;clear hc;subst z2;have:x=.ref a:=hx;subst this;have hun:=R.units;refine e2a2 (ab.cell _ _ ha) fun ys m ho hl=>?_;refine call_set (k:=true) (by lia) R.handled (IsL.isList (n:=m) ho) hl ht (fun us nd h=>Nat.le_trans (nodup_le nd h) hz) (fun u1_=>hz) fun h' tk us hk hst hm hlen=>?_;exact fin_alloc (tk:=tk) ab hk (Nat.le_refl _) (cellSet hst) fun c hc=>q c us hc hlen hm
end
end
section
open SeqAt
section
variable {B:Bs} {n:Nat} {sc:Scope} {ρ:Rho} {H:AH} {Q:V→AH→Prop} {a b:Addr} {vs ws:List V} {v u:V} {i j:Int}
theorem m_list {name:Str} {id:String} (ha:H a=some (.list vs)) (slot:Slot "list" name id) (hty:typeOf (.builtin id)=pure (.type "method_descriptor"):=by with_unfolding_all rfl):Mth B H (.ref a) name (.builtin id):=
 .builtin (T:="list") (congrArg (Option.bind · ctyp) ha) PySem.F.plainAttrs_list slot hty
theorem m_idict {kvs:List (Int × V)} {name:Str} {id:String} (ha:H a=some (.idict kvs)) (slot:Slot "dict" name id) (hty:typeOf (.builtin id)=pure (.type "method_descriptor"):=by with_unfolding_all rfl):Mth B H (.ref a) name (.builtin id):=
 .builtin (T:="dict") (congrArg (Option.bind · ctyp) ha) PySem.F.plainAttrs_dict slot hty
theorem m_tdict {kvs:List (List (Str ⊕ Int) × V)} {name:Str} {id:String} (ha:H a=some (.tdict kvs)) (slot:Slot "dict" name id) (hty:typeOf (.builtin id)=pure (.type "method_descriptor"):=by with_unfolding_all rfl):Mth B H (.ref a) name (.builtin id):=
 .builtin (T:="dict") (congrArg (Option.bind · ctyp) ha) PySem.F.plainAttrs_dict slot hty
theorem m_append (ha:H a=some (.list vs)):Mth B H (.ref a) "append" (.builtin "list.append"):=m_list ha PySem.F.slot_list_append PySem.F.type_list_append
theorem m_extend (ha:H a=some (.list vs)):Mth B H (.ref a) "extend" (.builtin "list.extend"):=m_list ha PySem.F.slot_list_extend PySem.F.type_list_extend
theorem m_pop (ha:H a=some (.list vs)):Mth B H (.ref a) "pop" (.builtin "list.pop"):=m_list ha PySem.F.slot_list_pop PySem.F.type_list_pop
theorem m_get {kvs:List (Int × V)} (ha:H a=some (.idict kvs)):Mth B H (.ref a) "get" (.builtin "dict.get"):=m_idict ha PySem.F.slot_dict_get PySem.F.type_dict_get
theorem m_dpop {kvs:List (Int × V)} (ha:H a=some (.idict kvs)):Mth B H (.ref a) "pop" (.builtin "dict.pop"):=m_idict ha PySem.F.slot_dict_pop PySem.F.type_dict_pop
theorem m_setdefault {kvs:List (Int × V)} (ha:H a=some (.idict kvs)):Mth B H (.ref a) "setdefault" (.builtin "dict.setdefault"):=m_idict ha PySem.F.slot_dict_setdefault PySem.F.type_dict_setdefault
theorem m_setdefaultT {kvs:List (List (Str ⊕ Int) × V)} (ha:H a=some (.tdict kvs)):Mth B H (.ref a) "setdefault" (.builtin "dict.setdefault"):=m_tdict ha PySem.F.slot_dict_setdefault PySem.F.type_dict_setdefault
theorem callee_b {id:String}:Callee B (.builtin id):=.inl ⟨id,rfl⟩
theorem c_tdictSetdefault {kvs:List (List (Str ⊕ Int) × V)} {ks:List (Str ⊕ Int)} (ha:H a=some (.tdict kvs)) (hz:kvs.length≤100000) (q:match dget kvs ks with | some u=>Q u H | none=>Q v (H.put a (.tdict (kvs++[(ks,v)])))) :
  UC B n (.builtin "dict.setdefault") [.ref a,nodeV ks,v] H Q:=fun A s xs ok R ab hc=>by
 refine e3a4 (conc3 hc) fun x y z z1 hx hy hzc=>?_;clear hc;subst z1;have:x=.ref a:=hx;subst this;exact tr_tdict_setdefault (Nat.lt_of_le_of_lt (Nat.add_le_add_left (by decide) _) (room_units R)) ab ha hz hy hzc q
theorem evalPairs_two {M:Model} {A:Around} {E:Value→Shared→Prop} {s:Shared} {k1 v1 k2 v2:Sem Value} {Q:List (Value × Value)→Shared→Prop}
  (h:wpAny M A k1 (fun a s1=>wpAny M A v1 (fun b s2=>wpAny M A k2 (fun c s3=>wpAny M A v2 (fun d s4=>Q [(a,b),(c,d)] s4) E s3) E s2) E s1) E s):wpAny M A (evalPairs [(k1,v1),(k2,v2)]) Q E s:=by
 refine wpAny_bind (wpAny_mono h (fun a s1 h=>wpAny_bind (wpAny_holding (wpAny_mono h (fun b s2 h=>wpAny_bind (wpAny_holding ?_)) fun u1_ u2_ e=>e))) fun u3_ u4_ e=>e);refine wpAny_bind (wpAny_mono h (fun c s3 h=>wpAny_bind (wpAny_holding (wpAny_mono h (fun d s4 h=>wpAny_bind (wpAny_holding ?_)) fun u5_ u6_ e=>e))) fun u7_ u8_ e=>e);exact wpAny_pure (wpAny_pure (wpAny_pure h))
theorem Ev.dict2 {k1 k2:Str} {c1 c2:Nat} {p1 p2 pos:Pos} {e1 e2:Expr} (hne:k1≠k2)
  (h:Ev B n sc e1 ρ H fun u H1=>Ev B n sc e2 ρ H1 fun v H2=>∀ c,H2 c=.none→Q (.ref c) (H2.put c (.sdict [(k1,u),(k2,v)]))):Ev B n sc (.Dict [some (.Constant (.str k1) c1 p1),some (.Constant (.str k2) c2 p2)] [e1,e2] pos) ρ H Q:=by
 refine ⟨fun env A s ok he R a F=>?_⟩;refine wpAny_Dict_pairs (knd:=PySem.strKind B.prog B.w) (pairs:=[(eval (.Constant (.str k1) c1 p1) env,do let x ← eval e1 env;standAt pos;pure x),(eval (.Constant (.str k2) c2 p2) env,do let x ← eval e2 env;standAt pos;pure x)]) rfl (by simp) (nbl rfl) ?_;have hk0:∀ b o,s.heap.get? b=some o→(s.heap.push { cls:=.type "dict",data:=.dict #[] }).get? b=some o:=fun b o e=>Heap.get?_push_of_some _ e;generalize hD:s.heap.objs.size=D;have nD:s.heap.get? D=Option.none:=Heap.get?_none_of_le (by refine hD▸?_;exact Nat.le_refl _);have fD:=fresh_fp a (b:=D) (by refine hD▸?_;exact Nat.le_refl _);have a0:Abs B (s.heap.push { cls:=.type "dict",data:=.dict #[] }) H:=a.grown hk0;have st0:St B [] s H { s with heap:=s.heap.push { cls:=.type "dict",data:=.dict #[] } } H:=.grown (tk:=s.toks) hk0;have hm0:(s.heap.push { cls:=.type "dict",data:=.dict #[] }).DictOf (PySem.strKind B.prog B.w) D []:=hD▸Heap.DictOf.new _;generalize hs0:({ s with heap:=s.heap.push { cls:=.type "dict",data:=.dict #[] } }:Shared)=s0 at st0;have hh0:s0.heap=s.heap.push { cls:=.type "dict",data:=.dict #[] }:=by exact (hs0).symm▸rfl
 rw [← hh0] at a0 hm0;refine evalPairs_two ?_;refine wpAny_mkText ?_;have g1:St B [] s0 H { s0 with toks:=s0.toks+1 } H:=.grown (tk:=s0.toks+1) (h':=s0.heap) fun u1_ u2_ e=>e;have F1:Frm B env ρ H s0.heap:=F.step st0;refine wpAny_bind (Tr.out (h.run env A { s0 with toks:=s0.toks+1 } ok he R a0 F1) fun y1 H1 s1 a1 st1 ⟨u,hu,q⟩=>wpAny_bind (wpAny_standAt (wpAny_pure ?_)));refine wpAny_mkText ?_;have F2:Frm B env ρ H1 s1.heap:=(show Frm B env ρ H ({ s0 with toks:=s0.toks+1 }:Shared).heap from F1).step st1;refine wpAny_bind (Tr.out (q.run env A { s1 with toks:=s1.toks+1 } ok he R a1 F2) fun y2 H2 s2 a2 st2 ⟨v,hv,q⟩=>wpAny_bind (wpAny_standAt (wpAny_pure ?_)));have g2:St B [] s1 H1 { s1 with toks:=s1.toks+1 } H1:=.grown (tk:=s1.toks+1) (h':=s1.heap) fun u3_ u4_ e=>e;have st:St B [] s H s2 H2:=((st0.trans g1).trans st1).trans (g2.trans st2);have st02:St B [] s0 H s2 H2:=(g1.trans st1).trans (g2.trans st2);have hm2:s2.heap.DictOf (PySem.strKind B.prog B.w) D []:=hm0.at fun o e=>st02.keep D o e fD.1 fun h=>nomatch h;have HD2:H2 D=Option.none:=(e3a2 hm0 fun o u5_ u6_ ho u7_=>st02.dom D o ho (fun h=>nomatch h) fD.1)
 have hk:∀ (x:Str) (t:Tok),(PySem.strKind B.prog B.w).is x (.str x t)=true:=fun x t=>by show ((x == x)=true);exact beq_self_eq_true _
 refine ⟨[(k1,y1),(k2,y2)],i0a5 (hk _ _) rfl (hk _ _) rfl trivial,hm2,fun h' hm' hs'=>?_⟩;have hmg:merged ([]:List (Str × Value)) [(k1,y1),(k2,y2)]=[(k1,y1),(k2,y2)]:=by simp [merged,stored,hne]
 rw [hmg] at hm';have kt:KeepT B s2.heap h':=by
  refine e3a4 hm2 fun o es ep ho u8_ hd u9_=>?_;exact .sameBut' hs' ho fun xs n e=>by replace e:=hd.symm.trans e;cases e
 refine e0a2 (offBut (tk:=s2.toks+[((Value.str k1 s0.toks),y1),((Value.str k2 s1.toks),y2)].length) a2 hs' kt HD2 fD.2.1 fD.2.2.1 fD.2.2.2) fun a3 st3=>?_;have a4:=a3.adopt (c:=.sdict [(k1,u),(k2,v)]) fD.2.1 fD.2.2.1 (i1a2 _ hm' (.cons ⟨rfl,(hu.keep (g2.trans st2).tup).keep kt⟩ (.cons ⟨rfl,hv.keep kt⟩ .nil)));have st4:=(((st.mono (Y:=[D]) fun u10_ h=>nomatch h).trans st3).drop (Y:=[]) fun b hb=>.inr (by refine List.mem_singleton.mp hb▸?_;exact nD)).adopt (c:=.sdict [(k1,u),(k2,v)]) nD;exact ⟨_,a4,st4,.ref D,rfl,q D HD2⟩
end
end
section
variable {B:Bs} {n:Nat} {sc:Scope} {ρ:Rho} {H:AH}
theorem Tst.chain {l m r:Expr} {op1 op2:CmpOp} {pos:Pos} {Q:Bool→AH→Prop}
  (h:Ev B n sc l ρ H fun u H1=>Ev B n sc m ρ H1 fun v H2=>U2 B n (compareOp op1) u v H2 fun w H3=>∃ b,w=.bool b∧if b then Ev B n sc r ρ H3 fun x H4=>U2 B n (compareOp op2) v x H4 fun w H5=>∃ b,w=.bool b∧Q b H5 else Q false H3)
  (hm:behindInMarks op2 r=false:=by with_unfolding_all rfl):Tst B n sc (.Compare l [op1,op2] [m,r] pos) ρ H Q:=by
 refine ⟨fun env A s ok he R a F=>?_⟩;show Tr B A [] (eval l env >>= fun y=>testChain pos y [op1,op2] [eval m env,markedBehindIn op2 r (eval r env)]) H s _;refine markedBehindIn_of_false hm▸?_;refine Tr.then (h.run env A s ok he R a F) (fun u1_ h=>h) fun y H1 s1 a1 st1 z11=>?_;obtain ⟨u,hu,q⟩:=z11;show Tr B A [] (holding [y] (eval m env) >>= fun rv=>standAt pos >>= fun u2_=>holding [y,rv] (compareOp op1 y rv) >>= fun c=>release [y,rv] [c] >>= fun u3_=>holding [c,rv] (truthy c) >>= fun b=>if b then testChain pos rv [op2] [eval r env] else pure false) H1 s1 _;refine Tr.then (Tr.holding (q.run env A s1 ok he R a1 (F.step st1))) (fun u4_ h=>h) fun z H2 s2 a2 st2 z8=>?_;obtain ⟨v,hv,q⟩:=z8;refine Tr.stand a2 ?_;refine Tr.then (Tr.holding (q A s2 y z ok R a2 (hu.keep st2.tup) hv)) (fun u5_ h=>h) fun c H3 s3 a3 st3 z5=>?_;obtain ⟨w,hw,b,e,q⟩:=z5;subst e;cases (show c=.bool b from hw);refine wpAny_bind (wpAny_release (wpAny_bind (wpAny_holding (wpAny_truthy_bool ?_))));clear hw;induction b with
 | false=>exact Tr.pure a3 q
 | true=>
  show Tr B A [] (holding [z] (eval r env) >>= fun rv=>standAt pos >>= fun u6_=>operate [z,rv] (compareOp op2 z rv) >>= fun c=>holding [c] (truthy c)) H3 s3 _;refine Tr.then (Tr.holding (Ev.run q env A s3 ok he R a3 (((F.step st1).step st2).step st3))) (fun u7_ h=>h) fun x H6 s6 a6 st6 h=>?_;obtain ⟨v6,hv6,q⟩:=h;refine Tr.stand a6 ?_;refine Tr.then (Tr.operate (q A s6 z x ok R a6 ((hv.keep st3.tup).keep st6.tup) hv6)) (fun u8_ h=>h) fun c H7 s7 a7 st7 h=>?_;obtain ⟨w,hw,b,rfl,q⟩:=h;cases (show c=.bool b from hw);exact Tr.holding (wpAny_truthy_bool ⟨H7,a7,.refl _ _ _,q⟩)
end
theorem dget_hit {K:Type} [DecidableEq K] {k:K} {v:V} {kvs:List (K × V)}:dget ((k,v)::kvs) k=some v:=by simp [dget]
theorem dget_ne {K:Type} [DecidableEq K] {k k':K} {v:V} {o:Option V} {kvs:List (K × V)} (h:k'≠k) (e:dget kvs k=o):dget ((k',v)::kvs) k=o:=by simp only [← e];simp [dget,h]
theorem btL {H:AH} {a:Addr} {vs:List V} (h:H a=some (.list vs)):∃ T,btyp H (.ref a)=some T:=⟨_,congrArg (Option.bind · ctyp) h⟩
theorem btD {H:AH} {a:Addr} {vs:List (Int × V)} (h:H a=some (.idict vs)):∃ T,btyp H (.ref a)=some T:=⟨_,congrArg (Option.bind · ctyp) h⟩
theorem btT {H:AH} {a:Addr} {vs:List (List (Str ⊕ Int) × V)} (h:H a=some (.tdict vs)):∃ T,btyp H (.ref a)=some T:=⟨_,congrArg (Option.bind · ctyp) h⟩
theorem btS {H:AH} {a:Addr} {vs:List (Str × V)} (h:H a=some (.sdict vs)):∃ T,btyp H (.ref a)=some T:=⟨_,congrArg (Option.bind · ctyp) h⟩
noncomputable def Holds (H:AH) (L:List (Addr × Cell)):Prop:=(L.map (·.1)).Nodup∧∀ p∈L,H p.1=some p.2
section
variable {H:AH} {L L':List (Addr × Cell)} {a:Addr} {c c0:Cell}
theorem Holds.get (i:Nat) (h:Holds H L) (e:L[i]? = some (a,c)):H a=some c:=h.2 _ (List.mem_of_getElem? e)
theorem Holds.mem (h:Holds H L) (e:(a,c)∈L):H a=some c:=h.2 _ e
theorem Holds.perm (h:Holds H L) (p:L.Perm L'):Holds H L':=⟨(p.map _).nodup_iff.mp h.1,fun q hq=>h.2 q (p.mem_iff.mpr hq)⟩
theorem Holds.sub (h:Holds H L) (p:L'.Sublist L):Holds H L':=⟨(p.map _).nodup h.1,fun q hq=>h.2 q (p.subset hq)⟩
theorem Holds.tail {p:Addr × Cell} (h:Holds H (p::L)):Holds H L:=h.sub (List.sublist_cons_self _ _)
theorem Holds.right (h:Holds H (L++L')):Holds H L':=h.sub (List.sublist_append_right _ _)
theorem Holds.new (h:Holds H L) (f:H a=none):Holds (H.put a c) ((a,c)::L):=by
 refine ⟨?_,fun p hp=>?_⟩
 ·refine List.map_cons▸?_;refine List.nodup_cons.mpr ?_;refine ⟨fun hm=>?_,h.1⟩;refine e1a2 (List.mem_map.mp hm) fun p hp e=>?_;have:=h.2 p hp;replace this:=f.symm.trans (e▸this);exact z_ns this
 ·rcases List.mem_cons.mp hp with rfl | hp
  ·exact AH.put_self _ _ _
  ·have:=h.2 p hp;rw [AH.put_ne _ _ fun e=>by replace this:=f.symm.trans (e▸this);cases this];exact this
theorem Holds.head (h:Holds H ((a,c0)::L)):Holds (H.put a c) ((a,c)::L):=by
 refine ⟨h.1,fun p hp=>?_⟩;rcases List.mem_cons.mp hp with rfl | hp
 ·exact AH.put_self _ _ _
 ·have hn:=h.1;simp only [List.map_cons,List.nodup_cons] at hn;rw [AH.put_ne _ _ fun e=>hn.1 (by refine (e).symm▸?_;exact List.mem_map_of_mem hp)];exact h.2 p (List.mem_cons_of_mem _ hp)
theorem Holds.mid {A C:List (Addr × Cell)} (h:Holds H (A++(a,c0)::C)):Holds (H.put a c) (A++(a,c)::C):=
 ((h.perm List.perm_middle).head (c:=c)).perm List.perm_middle.symm
theorem list_split {α:Type}:∀ {i:Nat} {L:List α} {x:α},L[i]? = some x→L=L.take i++x::L.drop (i+1)∧∀ y,L.set i y=L.take i++y::L.drop (i+1)
 | 0,y::L,x,h=>by simp at h;subst h;simp
 | i+1,y::L,x,h=>by
  have ih:=list_split (i:=i) (L:=L) (x:=x) (by simpa using h);refine ⟨?_,fun z=>?_⟩
  ·simp only [List.take_succ_cons,List.cons_append,List.drop_succ_cons];simp only [← ih.1]
  ·simp only [List.take_succ_cons,List.cons_append,List.drop_succ_cons,List.set_cons_succ];rw [ih.2]
 | i,[],x,h=>by simp at h
theorem Holds.set (i:Nat) (h:Holds H L) (e:L[i]? = some (a,c0)):Holds (H.put a c) (L.set i (a,c)):=by
 refine e0a2 (list_split e) fun e1 e2=>?_;simp only [e2];rw [e1] at h;exact h.mid
end
section
variable {B:Bs} {n:Nat} {sc:Scope} {ρ:Rho} {H:AH}
theorem Ev.neg {e:Expr} {pos:Pos} {Q:V→AH→Prop} (h:Ev B n sc e ρ H fun v H'=>∃ i,v=.int i∧Q (.int (-i)) H'):Ev B n sc (.UnaryOp .USub e pos) ρ H Q:=by
 refine ⟨fun env A s ok he R a F=>?_⟩;show Tr B A [] (eval e env >>= fun v=>standAt pos >>= fun u1_=>holding [v] (unaryOp .USub v)) H s (Ret B Q);refine Tr.then (h.run env A s ok he R a F) (fun u2_ h=>h) fun y H1 s1 a1 st1 z2=>?_;obtain ⟨u,hu,i,e,q⟩:=z2;subst e;obtain ⟨t,rfl⟩:=hu;exact Tr.stand a1 (Tr.holding (P.neg_int (fin_tok a1 (v:=.int (-i)) ⟨_,rfl⟩ q)))
end
noncomputable def plainE (e:Expr):Bool:=!Nat.beq e.ctorIdx 22
theorem starEach_cons {e:Expr} {es:List Expr} (h:plainE e=true) (env:Env):starEach (e::es) env=(false,eval e env)::starEach es env:=by
 rcases e with _ | _ <;> first | rfl | exact z_ft h
theorem noStar {pos:Pos} {env:Env}:∀ {es:List Expr},es.all plainE=true→(backTo pos (starEach es env)).any (·.1)=false:=by
 intro es;induction es with
 | nil=>
  intro _;exact rfl
 | cons e es ih_=>
  intro h;rw [List.all_cons,Bool.and_eq_true] at h;rw [starEach_cons h.1];exact ih_ h.2
noncomputable def isCall (e:Expr):Bool:=Nat.beq e.ctorIdx 16
noncomputable def noSlice (e:Expr):Bool:=!Nat.beq e.ctorIdx 26
noncomputable def noComp (e:Expr):Bool:=Nat.ble e.ctorIdx 7 || Nat.ble 11 e.ctorIdx
theorem noSuper_base {o:Expr} (h:isCall o=false) (name:Str) (env:Env) (t:Sem Value):attributeBase o name env t=t:=by
 rcases o with _ | _ <;> first | rfl | exact z_tf h
theorem noComp_swaps {e:Expr} {t:Option Expr} {l:Nat} {env:Env} (h:noComp e=true):swapsWith e t l env=pure false:=by
 rcases e with _ | _ <;> first | rfl | exact z_ft h
noncomputable def plainTg (t e:Expr):Bool:=Nat.beq t.ctorIdx 23 || (Nat.beq t.ctorIdx 20 || (Nat.beq t.ctorIdx 21 || (Nat.beq t.ctorIdx 25 && !Nat.beq e.ctorIdx 25)))
structure Lf (p:Prop):Prop where
 of::h:p
inductive BIf (c:Bool) (p q:Prop):Prop
 | yes (e:c=true) (h:p)
 | no (e:c=false) (h:q)
noncomputable def BT (b:Bool) (p:Prop):Prop:=match b with
 | true=>p
 | false=>False
noncomputable def BF (b:Bool) (p:Prop):Prop:=match b with
 | false=>p
 | true=>False
noncomputable def BTor (b:Bool) (p d:Prop):Prop:=match b with
 | true=>p
 | false=>d
noncomputable def OS {α:Type} (o:Option α) (p:α→Prop):Prop:=match o with
 | some a=>p a
 | none=>False
noncomputable def OSor {α:Type} (o:Option α) (p:α→Prop) (d:Prop):Prop:=match o with
 | some a=>p a
 | none=>d
theorem BT.of {b:Bool} {p:Prop} (h:BT b p):b=true∧p:=by
 induction b
 ·exact h.elim
 ·exact ⟨rfl,h⟩
theorem BF.of {b:Bool} {p:Prop} (h:BF b p):b=false∧p:=by
 induction b
 ·exact ⟨rfl,h⟩
 ·exact h.elim
theorem BTor.of {b:Bool} {p d:Prop} (h:BTor b p d):(b=true∧p)∨d:=by
 induction b
 ·exact .inr h
 ·exact .inl ⟨rfl,h⟩
theorem OS.of {α:Type} {o:Option α} {p:α→Prop} (h:OS o p):∃ a,o=some a∧p a:=by
 induction o
 ·exact h.elim
 ·exact i1a2 _ rfl h
theorem OSor.of {α:Type} {o:Option α} {p:α→Prop} {d:Prop} (h:OSor o p d):(∃ a,o=some a∧p a)∨d:=by
 induction o
 ·exact .inr h
 ·exact .inl (i1a2 _ rfl h)
noncomputable def V.asBool:V→Option Bool
 | .bool b=>Option.some b
 | _=>Option.none
noncomputable def V.asInt:V→Option Int
 | .int i=>some i
 | _=>Option.none
theorem V.of_bool {v:V} {b:Bool} (h:v.asBool=some b):v=.bool b:=by rcases v with _ | _ <;> first | (exact z_ns h;done) | (cases h;rfl)
theorem V.of_int {v:V} {i:Int} (h:v.asInt=some i):v=.int i:=by rcases v with _ | _ <;> first | (exact z_ns h;done) | (cases h;rfl)
noncomputable abbrev QV:=V→AH→Prop
noncomputable abbrev QB:=Bool→AH→Prop
noncomputable abbrev QS:=Out→Rho→AH→Prop
noncomputable abbrev FE:=Expr→Rho→AH→QV→Prop
noncomputable abbrev FT:=Expr→Rho→AH→QB→Prop
noncomputable abbrev FS:=List Stmt→Rho→AH→QS→Prop
section
variable (B:Bs) (n:Nat) (sc:Scope)
noncomputable def KBool (Q:QB):QV:=fun v H=>OS v.asBool fun b=>Q b H
noncomputable def KNot (Q:QB):QB:=fun b H=>Q (!b) H
noncomputable def KNeg (Q:QV):QV:=fun v H=>OS v.asInt fun i=>Q (.int (-i)) H
noncomputable def KOp (op:Operator) (u:V) (Q:QV):QV:=fun v H=>Lf (U2 B n (binaryOp op) u v H Q)
noncomputable def KBin (f:FE) (ρ:Rho) (op:Operator) (r:Expr) (Q:QV):QV:=fun u H=>f r ρ H (KOp B n op u Q)
noncomputable def KRel (op:CmpOp) (u:V) (Q:QV):QV:=fun v H=>Lf (U2 B n (compareOp op) u v H Q)
noncomputable def KCmp (f:FE) (ρ:Rho) (op:CmpOp) (r:Expr) (Q:QV):QV:=fun u H=>f r ρ H (KRel B n op u Q)
noncomputable def KCh3 (f:FE) (ρ:Rho) (op2:CmpOp) (v:V) (r:Expr) (Q:QB):QB:=fun b H=>Lf (BIf b (f r ρ H (KRel B n op2 v (KBool Q))) (Q false H))
noncomputable def KCh2 (f:FE) (ρ:Rho) (op1 op2:CmpOp) (u:V) (r:Expr) (Q:QB):QV:=fun v H=>Lf (U2 B n (compareOp op1) u v H (KBool (KCh3 B n f ρ op2 v r Q)))
noncomputable def KCh1 (f:FE) (ρ:Rho) (op1 op2:CmpOp) (m r:Expr) (Q:QB):QV:=fun u H=>f m ρ H (KCh2 B n f ρ op1 op2 u r Q)
noncomputable def KAnd (g:FT) (ρ:Rho) (y:Expr) (Q:QB):QB:=fun b H=>Lf (BIf b (g y ρ H Q) (Q false H))
noncomputable def KOr (g:FT) (ρ:Rho) (y:Expr) (Q:QB):QB:=fun b H=>Lf (BIf b (Q true H) (g y ρ H Q))
noncomputable def KIfE (f:FE) (ρ:Rho) (x y:Expr) (Q:QV):QB:=fun b H=>Lf (BIf b (f x ρ H Q) (f y ρ H Q))
noncomputable def KAndE (f:FE) (ρ:Rho) (y:Expr) (Q:QV):QB:=fun b H=>Lf (BIf b (f y ρ H Q) (Q (.bool false) H))
noncomputable def KTup (Q:QV):List V→AH→Prop:=fun vs H=>BT (Nat.ble vs.length 100000) (Q (.tup vs) H)
noncomputable def KLst (Q:QV):List V→AH→Prop:=fun vs H=>BT (Nat.ble vs.length 100000) (Lf (∀ c,H c=none→Q (.ref c) (H.put c (.list vs))))
noncomputable def KAttr (name:Str) (Q:QV):QV:=fun u H=>Lf (U1 B n (fun y=>getAttr y name true) u H Q)
noncomputable def KItem (u:V) (Q:QV):QV:=fun v H=>Lf ((∃ T,btyp H u=some T)∧U2 B n getItem u v H Q)
noncomputable def KSub (f:FE) (ρ:Rho) (i:Expr) (Q:QV):QV:=fun u H=>f i ρ H (KItem B n u Q)
noncomputable def KCall (v:Value) (Q:QV):List V→AH→Prop:=fun vs H=>Lf (UC B n v vs H Q)
noncomputable def KVs (v:V) (Q:List V→AH→Prop):List V→AH→Prop:=fun vs H=>Q (v::vs) H
noncomputable def vL (f:FE) (ρ:Rho):List Expr→AH→(List V→AH→Prop)→Prop
 | [],H,Q=>Q [] H
 | e::es,H,Q=>BT (plainE e) (f e ρ H fun v H1=>vL f ρ es H1 (KVs v Q))
noncomputable def KArgs (v:Value) (u:V) (Q:QV):List V→AH→Prop:=fun vs H=>Lf (UC B n v (u::vs) H Q)
inductive CM (f:FE) (ρ:Rho) (name:Str) (es:List Expr) (Q:QV) (u:V) (H:AH):Prop
 | mk (v:Value) (m:Mth B H u name v) (c:Callee B v) (h:vL f ρ es H (KArgs B n v u Q))
noncomputable def KMeth (f:FE) (ρ:Rho) (name:Str) (es:List Expr) (Q:QV):QV:=fun u H=>Lf (CM B n f ρ name es Q u H)
noncomputable def okName (x:Str):Bool:=(match sc.names.lookup x with | some .local=>true | some .cell=>true | some .free=>true | _=>false) && (!(x == ("__debug__":Str)) && !(x == ("__classdict__":Str)))
noncomputable def vName (ρ:Rho) (x:Str) (H:AH) (Q:QV):Prop:=BT (okName sc x) (OS (ρ.lookup x) fun u=>Q u H)
noncomputable def vConst (H:AH) (Q:QV):Const→Prop
 | .none=>Q .none H
 | .bool b=>Q (.bool b) H
 | .int i=>Q (.int i) H
 | .str x=>Q (.str x) H
 | _=>False
noncomputable def vCmp (f:FE) (ρ:Rho) (H:AH) (Q:QV) (l:Expr):List CmpOp→List Expr→Prop
 | [op],[r]=>BF (behindInMarks op r) (f l ρ H (KCmp B n f ρ op r Q))
 | _,_=>False
noncomputable def vAndE (f:FE) (ρ:Rho) (H:AH) (Q:QV):BoolOp→List Expr→Prop
 | .And,[x,y]=>f x ρ H (KBool (KAndE f ρ y Q))
 | _,_=>False
noncomputable def globOf (x:Str):Option Value:=match sc.names.lookup x with
 | some .globalImplicit=>match x == ("__debug__":Str) with
  | false=>List.lookup x globTab
  | true=>none
 | _=>none
noncomputable def vCall (f:FE) (ρ:Rho) (H:AH) (Q:QV) (o:Prop) (es:List Expr) (pos:Pos):Expr→Prop
 | .Name x _=>BTor (es.all plainE) (OSor (globOf sc x) (fun v=>vL f ρ es H (KCall B n v Q)) o) o
 | .Attribute r name ap=>BTor (!isCall r && (ap.endLine == pos.line && (es.all plainE && Nat.blt es.length 30))) (f r ρ H (KMeth B n f ρ name es Q)) o
 | _=>o
noncomputable def stepE (f:FE) (g:FT) (e:Expr) (ρ:Rho) (H:AH) (Q:QV):Prop:=match e with
 | .Name x _=>vName sc ρ x H Q
 | .Constant c _ _=>vConst H Q c
 | .BinOp l op r _=>f l ρ H (KBin B n f ρ op r Q)
 | .UnaryOp op x _=>match op with
  | .USub=>f x ρ H (KNeg Q)
  | _=>False
 | .Compare l ops rs _=>vCmp B n f ρ H Q l ops rs
 | .IfExp t x y _=>g t ρ H (KIfE f ρ x y Q)
 | .BoolOp op es _=>vAndE f ρ H Q op es
 | .Tuple es _ _=>vL f ρ es H (KTup Q)
 | .List es _=>vL f ρ es H (KLst Q)
 | .Attribute o name _=>BF (isCall o) (f o ρ H (KAttr B n name Q))
 | .Subscript o i _=>BTor (noSlice i) (f o ρ H (KSub B n f ρ i Q)) (Lf (Ev B n sc e ρ H Q))
 | .Call c es kws pos=>match kws with
  | []=>vCall B n sc f ρ H Q (Lf (Ev B n sc e ρ H Q)) es pos c
  | _=>Lf (Ev B n sc e ρ H Q)
 | _=>Lf (Ev B n sc e ρ H Q)
noncomputable def vCmpT (f:FE) (ρ:Rho) (H:AH) (Q:QB) (l:Expr):List CmpOp→List Expr→Prop
 | [op],[r]=>BF (behindInMarks op r) (f l ρ H (KCmp B n f ρ op r (KBool Q)))
 | [op1,op2],[m,r]=>BF (behindInMarks op2 r) (f l ρ H (KCh1 B n f ρ op1 op2 m r Q))
 | _,_=>False
noncomputable def vBoolT (g:FT) (ρ:Rho) (H:AH) (Q:QB) (pos:Pos):BoolOp→List Expr→Prop
 | .And,[x,y]=>g x ρ H (KAnd g ρ y Q)
 | .Or,[x,y]=>g x ρ H (KOr g ρ y Q)
 | .Or,[x,y,z]=>g x ρ H (KOr g ρ (.BoolOp .Or [y,z] pos) Q)
 | _,_=>False
noncomputable def stepT (f:FE) (g:FT) (e:Expr) (ρ:Rho) (H:AH) (Q:QB):Prop:=match e with
 | .Compare l ops rs _=>vCmpT B n f ρ H Q l ops rs
 | .UnaryOp op x _=>match op with
  | .Not=>g x ρ H (KNot Q)
  | _=>False
 | .BoolOp op es pos=>vBoolT g ρ H Q pos op es
 | .IfExp ..=>False
 | .NamedExpr ..=>False
 | e=>f e ρ H (KBool Q)
mutual
noncomputable def vE:Nat→FE
 | 0=>fun _ _ _ _=>False
 | k+1=>stepE B n sc (vE k) (vT k)
noncomputable def vT:Nat→FT
 | 0=>fun _ _ _ _=>False
 | k+1=>stepT B n (vE k) (vT k)
end
end
section
variable {B:Bs} {n:Nat} {sc:Scope} {ρ:Rho} {H:AH}
theorem Tst.or3' {x y z:Expr} {pos:Pos} {Q:QB} (h:Tst B n sc x ρ H fun b H1=>if b then Q true H1 else Tst B n sc (.BoolOp .Or [y,z] pos) ρ H1 Q):Tst B n sc (.BoolOp .Or [x,y,z] pos) ρ H Q:=by
 refine ⟨fun env A s ok hs R a F=>?_⟩;refine wpAny_isTrue_BoolOp (wpAny_allTrue_Or_cons ?_);refine Tr.out (h.run env A s ok hs R a F) fun b H1 s1 a1 st1 q=>?_;induction b with
 | true=>exact ⟨H1,a1,st1,q⟩
 | false=>exact wpAny_mono (q.run env A s1 ok hs R a1 (F.step st1)) (fun u1_ u2_ ⟨H',a,b,c⟩=>⟨H',a,st1.trans b,c⟩) fun u3_ u4_ e=>e
theorem Tst.mono {e:Expr} {Q Q':QB} (h:Tst B n sc e ρ H Q) (k:∀ v H',Q v H'→Q' v H'):Tst B n sc e ρ H Q':=
 ⟨fun env A s ok he R x F=>(h.run env A s ok he R x F).mono fun u1_ u2_ u3_ u4_ u5_ q=>k _ _ q⟩
theorem BIf.imp {c:Bool} {p q p' q':Prop} (h:BIf c p q) (f:p→p') (g:q→q'):if c then p' else q':=by
 induction h with
 | yes e h=>subst e;exact f h
 | no e h=>subst e;exact g h
theorem KBool.at {Q Q':QB} {v:V} (h:KBool Q v H) (k:∀ b,Q b H→Q' b H):∃ b,v=.bool b∧Q' b H:=
 e1a2 (OS.of h) fun b e q=>(i1a2 b (V.of_bool e) (k _ q))
theorem okName_at {x:Str} (h:okName sc x=true):(∃ k,sc.names.lookup x=some k∧(k=.local∨k=.cell∨k=.free))∧(x == ("__debug__":Str))=false∧(x == ("__classdict__":Str))=false:=by
 unfold okName at h;rw [Bool.and_eq_true,Bool.and_eq_true,Bool.not_eq_true',Bool.not_eq_true'] at h;refine ⟨?_,h.2⟩;have h1:=h.1;induction e:sc.names.lookup x with
 | none=>rw [e] at h1;exact z_ft h1
 | some k=>rw [e] at h1;exact i1a2 k rfl (by clear e;induction k <;> first | exact .inl rfl | exact .inr (.inl rfl) | exact .inr (.inr rfl) | exact z_ft h1)
structure Sound (B:Bs) (n:Nat) (sc:Scope) (f:FE) (g:FT):Prop where
 e:∀ e ρ H Q,f e ρ H Q→Ev B n sc e ρ H Q
 t:∀ e ρ H Q,g e ρ H Q→Tst B n sc e ρ H Q
theorem U2.mono {f:Value→Value→Sem Value} {u v:V} {Q Q':QV} (h:U2 B n f u v H Q) (k:∀ v H',Q v H'→Q' v H'):U2 B n f u v H Q':=
 fun A s x y ok R a c d=>(h A s x y ok R a c d).mono fun u1_ u2_ u3_ u4_ u5_ ⟨u,hc,q⟩=>⟨u,hc,k _ _ q⟩
variable {f:FE} {g:FT} {Q:QV}
theorem vL_sound (hf:Sound B n sc f g) {Q Q':List V→AH→Prop} {es:List Expr} {H:AH} (h:vL f ρ es H Q) (k:∀ vs H,Q vs H→Q' vs H):EvL B n sc es ρ H Q':=by
 induction es generalizing H Q Q' with
 | nil=>exact EvL.nil (k _ _ h)
 | cons e es ih=>
  have h:=BT.of h;exact EvL.cons ((hf.e _ _ _ _ h.2).mono fun v H1 h=>ih h fun vs H2 h=>k _ _ h) (starEach_cons h.1)
theorem globOf_at {x:Str} {v:Value} (h:globOf sc x=some v):sc.names.lookup x=some .globalImplicit∧(x == ("__debug__":Str))=false∧List.lookup x globTab=some v:=by
 unfold globOf at h;induction e:sc.names.lookup x with
 | none=>replace h:=e▸h;exact z_ns h
 | some k=>
  rw [e] at h;clear e;induction k <;> first | (exact z_ns h;done) | skip
  induction e2:x == ("__debug__":Str) with
  | true=>rw [e2] at h;exact z_ns h
  | false=>rw [e2] at h;exact i0a3 rfl rfl h
theorem form_at {es:List Expr} (h:es.all plainE=true) (hl:Nat.blt es.length 30=true) (pos:Pos) (env:Env):methodCallForm es.length (backTo pos (starEach es env)) []=true:=by
 have h1:=noStar (pos:=pos) (env:=env) h;replace h1:=List.any_eq_false.mp h1;unfold methodCallForm;simp only [Bool.and_eq_true,Bool.and_eq_true];exact ⟨⟨List.all_eq_true.mpr fun x hx=>by simp only [Bool.not_eq_true'];exact eq_false_of_ne_true (h1 x hx),rfl⟩,decide_eq_true (Nat.blt_eq.mp hl)⟩
theorem vCall_sound (Fk:Facts B.K) (hf:Sound B n sc f g) {es:List Expr} {pos:Pos} {c:Expr} {o:Prop} (h:vCall B n sc f ρ H Q o es pos c) (ho:o→Ev B n sc (.Call c es [] pos) ρ H Q):Ev B n sc (.Call c es [] pos) ρ H Q:=by
 rcases c with _ | _ | _ | _ | _ | _ | _ | _ | _ | _ | _ | _ | _ | _ | _ | _ | _ | _ | _ | _ | ⟨r,name,ap⟩ | _ | _ | ⟨x,p⟩ | _ | _ | _ <;> try (exact ho h;done)
 ·rcases BTor.of h with ⟨hm,h⟩ | h
  ·rw [Bool.and_eq_true,Bool.and_eq_true,Bool.and_eq_true,Bool.not_eq_true'] at hm;have hf':=fun env=>form_at hm.2.2.1 hm.2.2.2 pos env;refine Ev.meth ((hf.e _ _ _ _ h).mono fun u H1 h=>?_) (fun env t=>noSuper_base hm.1 name env t) (fun env=>?_) hf' fun env=>noStar hm.2.2.1
   ·obtain ⟨v,m,c,h⟩:=h.h;exact i1a3 v m c (vL_sound hf h fun vs H2 h=>h.h)
   ·refine hf' env▸?_;unfold methodCallPos;rw [hm.2.1];rfl
  ·exact ho h
 ·rcases BTor.of h with ⟨hp,h⟩ | h
  ·rcases OSor.of h with ⟨v,hg,h⟩ | h
   ·have h1:=globOf_at hg;have h4:=Fk.globs h1.2.2;exact Ev.call h1.1 h4.1 h4.2 (vL_sound hf h fun vs H2 h=>h.h) (fun env=>noStar hp) h1.2.1
   ·exact ho h
  ·exact ho h
theorem noSlice_at {i:Expr} (hb:noSlice i=true):∀ o' i',subscripted i false o' i'=operate [o',i'] (getItem o' i'):=by intro u1_ u2_;rcases i with _ | _ <;> first | rfl | exact z_ft hb
theorem stepE_sound (Fk:Facts B.K) (hf:Sound B n sc f g) {e:Expr} (h:stepE B n sc f g e ρ H Q):Ev B n sc e ρ H Q:=by
 rcases e with ⟨op,es,p⟩ | _ | ⟨l,op,r,p⟩ | ⟨op,x,p⟩ | _ | ⟨t,x,y,p⟩ | _ | _ | _ | _ | _ | _ | _ | _ | _ | ⟨l,ops,rs,p⟩ | ⟨c,es,kws,p⟩ | _ | _ | ⟨c,k,p⟩ | ⟨o,name,p⟩ | ⟨o,i,p⟩ | _ | ⟨x,p⟩ | ⟨es,p⟩ | ⟨es,k,p⟩ | _ <;> try (exact h.h;done)
 ·change vAndE f ρ H Q op es at h;induction op with
  | Or=>exact h.elim
  | And=>
   rcases es with _ | ⟨x,_ | ⟨y,_ | _⟩⟩ <;> try exact h.elim
   exact Ev.and ((hf.e _ _ _ _ h).mono fun v H1 h=>KBool.at (Q':=fun b H1=>if b then Ev B n sc y ρ H1 Q else Q (.bool false) H1) h fun b h=>h.h.imp (hf.e _ _ _ _) id)
 ·exact Ev.bin ((hf.e _ _ _ _ h).mono fun u H1 h=>(hf.e _ _ _ _ h).mono fun v H2 h=>h.h)
 ·induction op with
  | USub=>exact Ev.neg ((hf.e _ _ _ _ h).mono fun v H1 h=>e1a2 (OS.of h) fun i e q=>(i1a2 i (V.of_int e) q))
  | _=>exact h.elim
 ·exact Ev.ifexp ((hf.t _ _ _ _ h).mono fun b H1 h=>h.h.imp (hf.e _ _ _ _) (hf.e _ _ _ _))
 ·change vCmp B n f ρ H Q l ops rs at h;rcases ops with _ | ⟨op,_ | _⟩ <;> try exact h.elim
  rcases rs with _ | ⟨r,_ | _⟩ <;> try exact h.elim
  have h:=BF.of h;exact Ev.cmp ((hf.e _ _ _ _ h.2).mono fun u H1 h=>(hf.e _ _ _ _ h).mono fun v H2 h=>h.h) h.1
 ·induction kws with
  | cons=>exact h.h
  | nil=>exact vCall_sound Fk hf h fun h=>h.h
 ·induction c with
  | none=>exact Ev.cNone h
  | bool b=>exact Ev.cBool h
  | int i=>exact Ev.cInt h
  | str x=>exact Ev.cStr h
  | _=>exact h.elim
 ·have h:=BF.of h;exact Ev.attr ((hf.e _ _ _ _ h.2).mono fun u H1 h=>h.h) fun env t=>noSuper_base h.1 name env t
 ·rcases BTor.of h with ⟨hb,h⟩ | h
  ·exact Ev.sub ((hf.e _ _ _ _ h).mono fun u H1 h=>(hf.e _ _ _ _ h).mono fun v H2 h=>h.h) (noSlice_at hb)
  ·exact h.h
 ·have h1:=BT.of h;refine e1a2 (OS.of h1.2) fun u h2 h=>?_;refine e0a2 (okName_at h1.1) fun z3 hn=>?_;refine e1a2 z3 fun k hk hl=>?_;exact Ev.name hk h2 h hl hn.1 hn.2
 ·exact Ev.list (vL_sound hf h fun vs H2 h=>have h:=BT.of h;⟨h.2.h,nbl h.1⟩)
 ·exact Ev.tuple (vL_sound hf h fun vs H2 h=>have h:=BT.of h;⟨h.2,nbl h.1⟩)
theorem stepT_sound (hf:Sound B n sc f g) {e:Expr} {Q:QB} (h:stepT B n f g e ρ H Q):Tst B n sc e ρ H Q:=by
 rcases e with ⟨op,es,p⟩ | _ | _ | ⟨op,x,p⟩ | _ | _ | _ | _ | _ | _ | _ | _ | _ | _ | _ | ⟨l,ops,rs,p⟩ | _ | _ | _ | _ | _ | _ | _ | _ | _ | _ | _ <;> try (exact Tst.value ((hf.e _ _ _ _ h).mono fun v H1 h=>KBool.at h fun b h=>h);done)
 ·change vBoolT g ρ H Q p op es at h;induction op with
  | And=>
   rcases es with _ | ⟨x,_ | ⟨y,_ | _⟩⟩ <;> try exact h.elim
   exact Tst.and ((hf.t _ _ _ _ h).mono fun b H1 h=>h.h.imp (hf.t _ _ _ _) id)
  | Or=>
   rcases es with _ | ⟨x,_ | ⟨y,_ | ⟨z,_ | _⟩⟩⟩ <;> try exact h.elim
   ·exact Tst.or ((hf.t _ _ _ _ h).mono fun b H1 h=>h.h.imp id (hf.t _ _ _ _))
   ·exact Tst.or3' ((hf.t _ _ _ _ h).mono fun b H1 h=>h.h.imp id (hf.t _ _ _ _))
 ·exact h.elim
 ·induction op with
  | Not=>exact Tst.not (hf.t _ _ _ _ h)
  | _=>exact h.elim
 ·exact h.elim
 ·change vCmpT B n f ρ H Q l ops rs at h;rcases ops with _ | ⟨op,_ | ⟨op2,_ | _⟩⟩ <;> try exact h.elim
  ·rcases rs with _ | ⟨r,_ | _⟩ <;> try exact h.elim
   have h:=BF.of h;exact Tst.cmp ((hf.e _ _ _ _ h.2).mono fun u H1 h=>(hf.e _ _ _ _ h).mono fun v H2 h=>U2.mono h.h fun w H3 h=>KBool.at h fun b h=>h) h.1
  ·rcases rs with _ | ⟨m,_ | ⟨r,_ | _⟩⟩ <;> try exact h.elim
   have h:=BF.of h;exact Tst.chain ((hf.e _ _ _ _ h.2).mono fun u H1 h=>(hf.e _ _ _ _ h).mono fun v H2 h=>U2.mono h.h fun w H3 h=>KBool.at (Q':=fun b H3=>if b then Ev B n sc r ρ H3 fun x H4=>U2 B n (compareOp op2) v x H4 fun w H5=>∃ b,w=V.bool b∧Q b H5 else Q false H3) h fun b h=>h.h.imp (fun h=>(hf.e _ _ _ _ h).mono fun x H4 h=>U2.mono h.h fun w H5 h=>KBool.at h fun b h=>h) id) h.1
theorem v_sound (Fk:Facts B.K):∀ k,Sound B n sc (vE B n sc k) (vT B n sc k)
 | 0=>⟨fun u1_ u2_ u3_ u4_ h=>h.elim,fun u5_ u6_ u7_ u8_ h=>h.elim⟩
 | k+1=>⟨fun u9_ u10_ u11_ u12_ h=>stepE_sound Fk (v_sound Fk k) h,fun u13_ u14_ u15_ u16_ h=>stepT_sound (v_sound Fk k) h⟩
end
section
variable (B:Bs) (n:Nat) (sc:Scope)
noncomputable abbrev QR:=Rho→AH→Prop
noncomputable def KSetAt (name:Str) (ρ:Rho) (u:V) (Q:QR):QV:=fun v H=>Lf (US B n (fun x y=>setAttr x name y) v u H (Q ρ))
noncomputable def KSet2 (ρ:Rho) (u v:V) (Q:QR):QV:=fun w H=>Lf (US3 B n setItem v w u H (Q ρ))
noncomputable def KSet1 (f:FE) (ρ:Rho) (i:Expr) (u:V) (Q:QR):QV:=fun v H=>f i ρ H (KSet2 B n ρ u v Q)
noncomputable def KNx (Q:QS):QR:=fun ρ H=>Q .next ρ H
noncomputable def vAL (H:AH) (Q:QR):List Expr→List V→Rho→Prop
 | [],[],ρ=>Q ρ H
 | .Name x _::es,u::us,ρ=>BT (okName sc x) (vAL H Q es us ((x,u)::ρ))
 | _,_,_=>False
noncomputable def vAT (H:AH) (Q:QR) (es:List Expr) (ρ:Rho) (o:Prop):V→Prop
 | .tup us=>vAL sc H Q es us ρ
 | _=>o
noncomputable def KAs (f:FE) (t:Expr) (ρ:Rho) (Q:QR):QV:=fun u H=>match t with
 | .Name x _=>BT (okName sc x) (Q ((x,u)::ρ) H)
 | .Attribute o name _=>f o ρ H (KSetAt B n name ρ u Q)
 | .Subscript o i _=>BT (noSlice i) (f o ρ H (KSet1 B n f ρ i u Q))
 | .Tuple es _ _=>vAT sc H Q es ρ (Lf (As B n sc t ρ H u Q)) u
 | _=>False
noncomputable def KRet (ρ:Rho) (Q:QS):QV:=fun v H=>Q (.ret v) ρ H
noncomputable def KEx (ρ:Rho) (Q:QS):QV:=fun _ H=>Q .next ρ H
noncomputable def KIf (r:FS) (ρ:Rho) (b o:List Stmt) (Q:QS):QB:=fun c H=>Lf (BIf c (r b ρ H Q) (r o ρ H Q))
noncomputable def KSeq (r:FS) (sts:List Stmt) (Q:QS):QS:=fun o ρ H=>match o with
 | .next=>r sts ρ H Q
 | .brk=>Q .brk ρ H
 | .cont=>Q .cont ρ H
 | .ret v=>Q (.ret v) ρ H
noncomputable def stepS (f:FE) (g:FT) (r:FS) (st:Stmt) (ρ:Rho) (H:AH) (Q:QS):Prop:=match st with
 | .Return v _=>match v with
  | some e=>f e ρ H (KRet ρ Q)
  | none=>False
 | .Expr e _=>BT (noComp e) (f e ρ H (KEx ρ Q))
 | .If t b o _=>g t ρ H (KIf r ρ b o Q)
 | .Assign ts e _=>match ts with
  | [t]=>BTor (noComp e && plainTg t e) (f e ρ H (KAs B n sc f t ρ (KNx Q))) (Lf (Ex B n sc st ρ H Q))
  | _=>Lf (Ex B n sc st ρ H Q)
 | _=>Lf (Ex B n sc st ρ H Q)
noncomputable def vS:Nat→FS
 | 0=>fun _ _ _ _=>False
 | k+1=>fun sts ρ H Q=>match sts with
  | []=>Q .next ρ H
  | st::sts=>stepS B n sc (vE B n sc 14) (vT B n sc 14) (vS k) st ρ H (KSeq (vS k) sts Q)
noncomputable def KFun (Q:QV):QS:=fun o ρ H=>match o with
 | .ret v=>Lf (Q v H)
 | .next=>Lf (Q .none H)
 | .brk=>False
 | .cont=>False
end
section
variable {B:Bs} {n:Nat} {sc:Scope} {ρ:Rho} {H:AH} {f:FE} {g:FT} {r:FS} {Q:QS}
theorem As.mono {t:Expr} {u:V} {Q Q':QR} (h:As B n sc t ρ H u Q) (k:∀ ρ H,Q ρ H→Q' ρ H):As B n sc t ρ H u Q':=
 ⟨fun env A s y ok he R a F c=>(h.run env A s y ok he R a F c).mono fun u1_ u2_ u3_ u4_ u5_ z1=>e1a2 z1 fun ρ' F q=>i1a2 ρ' F (k _ _ q)⟩
theorem vAL_sound {Q:QR} {es:List Expr} {us:List V} {ρ:Rho} (h:vAL sc H Q es us ρ):AsL fpOf B n sc es ρ H us Q∧(∀ env,(assignEach es env).any (·.1)=false)∧∀ env,(assignEach es env).length=us.length:=by
 induction es generalizing us ρ with
 | nil=>
  induction us with
  | nil=>exact i0a3 (AsL.nil h) (fun u1_=>rfl) (fun u2_=>rfl)
  | cons=>exact h.elim
 | cons e es ih=>
  cases us with
  | nil=>rcases e with _ | _ <;> exact h.elim
  | cons u us=>
   rcases e with _ | _ | _ | _ | _ | _ | _ | _ | _ | _ | _ | _ | _ | _ | _ | _ | _ | _ | _ | _ | _ | _ | _ | ⟨x,p⟩ | _ | _ | _ <;> try (exact h.elim;done)
   ·have h:=BT.of h;refine e0a2 (okName_at h.1) fun z1 u3_=>?_;refine e1a2 z1 fun k hk hl=>?_;have i:=ih h.2;exact i0a3 (AsL.cons (As.name hk i.1 hl)) (fun env=>i.2.1 env) (fun env=>congrArg (· + 1) (i.2.2 env))
theorem KAs_sound (hf:Sound B n sc f g) {t:Expr} {u:V} {Q:QR} (h:KAs B n sc f t ρ Q u H):As B n sc t ρ H u Q:=by
 rcases t with _ | _ | _ | _ | _ | _ | _ | _ | _ | _ | _ | _ | _ | _ | _ | _ | _ | _ | _ | _ | ⟨o,name,p⟩ | ⟨o,i,p⟩ | _ | ⟨x,p⟩ | _ | ⟨es,k,p⟩ | _ <;> try (exact h.elim;done)
 ·exact As.attr ((hf.e _ _ _ _ h).mono fun v H1 h=>h.h)
 ·have h:=BT.of h;exact As.sub ((hf.e _ _ _ _ h.2).mono fun v H1 h=>(hf.e _ _ _ _ h).mono fun w H2 h=>h.h) (by intro u2_ u3_ u4_ u5_ e;have:=h.1;replace this:=e▸this;exact z_ft this)
 ·have h:=BT.of h;refine e0a2 (okName_at h.1) fun z3 u1_=>?_;refine e1a2 z3 fun k hk hl=>?_;exact As.name hk h.2 hl
 ·rcases u with _ | _ | _ | _ | _ | us <;> try (exact h.h;done)
  ·have h:=vAL_sound (B:=B) (n:=n) h;exact AsX.tuple h.1 h.2.1 h.2.2
theorem plainTg_at {t e:Expr} (h:plainTg t e=true) (env:Env):assignEach [t] env=[(false,assign t env)]∧swappedStores [t] e env=pure none:=by
 rcases t with _ | _ | _ | _ | _ | _ | _ | _ | _ | _ | _ | _ | _ | _ | _ | _ | _ | _ | _ | _ | _ | _ | _ | _ | _ | _ | _ <;> try (exact z_ft h;done)
 ·exact ⟨rfl,rfl⟩
 ·exact ⟨rfl,rfl⟩
 ·exact ⟨rfl,rfl⟩
 ·exact ⟨rfl,by rcases e with _ | _ <;> first | rfl | cases h⟩
theorem stepS_sound (hf:Sound B n sc f g) (hr:∀ sts ρ H Q,r sts ρ H Q→Exs B n sc sts ρ H Q) {st:Stmt} (h:stepS B n sc f g r st ρ H Q):Ex B n sc st ρ H Q:=by
 rcases st with _ | _ | _ | ⟨v,p⟩ | _ | ⟨ts,e,p⟩ | _ | _ | _ | _ | _ | _ | ⟨t,b,o,p⟩ | _ | _ | _ | _ | _ | _ | _ | _ | _ | _ | _ | ⟨e,p⟩ | _ | _ | _ <;> try (exact h.h;done)
 ·induction v with
  | none=>exact h.elim
  | some e=>exact Ex.ret (hf.e _ _ _ _ h)
 ·rcases ts with _ | ⟨t,_ | _⟩
  ·exact h.h
  ·rcases BTor.of h with ⟨h1,h⟩ | h
   ·refine e0a2 (Bool.and_eq_true_iff.mp h1) fun h2 h3=>?_;exact Ex.assign ((hf.e _ _ _ _ h).mono fun u H1 h=>KAs_sound hf h) (fun env=>(plainTg_at h3 env).1) (fun env u1_=>noComp_swaps h2) fun env u2_=>(plainTg_at h3 env).2
   ·exact h.h
  ·exact h.h
 ·exact Ex.if ((hf.t _ _ _ _ h).mono fun c H1 h=>h.h.imp (hr _ _ _ _) (hr _ _ _ _))
 ·have h:=BT.of h;exact Ex.expr (hf.e _ _ _ _ h.2) fun env=>noComp_swaps h.1
theorem vS_sound (Fk:Facts B.K):∀ k sts ρ H Q,vS B n sc k sts ρ H Q→Exs B n sc sts ρ H Q:=by
 intro k;induction k with
 | zero=>
  intro sts ρ H Q h;exact h.elim
 | succ k ih_=>
  intro sts ρ H Q h;induction sts with
  | nil=>
   exact Exs.nil h
  | cons st sts=>
   exact Exs.cons ((stepS_sound (v_sound Fk 14) (ih_) h).mono fun o ρ H h=>by
   induction o with
   | next=>exact ih_ _ _ _ _ h
   | _=>exact h)
theorem Ev.v (Fk:Facts B.K) {e:Expr} {Q:QV} (h:vE B n sc 14 e ρ H Q):Ev B n sc e ρ H Q:=(v_sound Fk 14).e _ _ _ _ h
theorem Tst.v (Fk:Facts B.K) {e:Expr} {Q:QB} (h:vT B n sc 14 e ρ H Q):Tst B n sc e ρ H Q:=(v_sound Fk 14).t _ _ _ _ h
theorem As.v (Fk:Facts B.K) {t:Expr} {u:V} {Q:QR} (h:KAs B n sc (vE B n sc 14) t ρ Q u H):As B n sc t ρ H u Q:=KAs_sound (v_sound Fk 14) h
theorem Exs.v (Fk:Facts B.K) {sts:List Stmt} (h:vS B n sc 60 sts ρ H Q):Exs B n sc sts ρ H Q:=vS_sound Fk 60 _ _ _ _ h
end
noncomputable def Sub (ρ0 ρ:Rho):Prop:=∀ x u,ρ0.lookup x=some u→ρ.lookup x=some u
theorem Sub.nil {ρ:Rho}:Sub [] ρ:=fun u1_ u2_ h=>nomatch h
theorem Sub.cons {ρ0 ρ:Rho} {x:Str} {u:V} (h:ρ.lookup x=some u) (t:Sub ρ0 ρ):Sub ((x,u)::ρ0) ρ:=fun y v e=>by
 rw [List.lookup_cons] at e;induction hz:y == x with
 | true=>rw [hz] at e;refine z_el e ?_;refine beq_iff_eq.mp hz▸?_;exact h
 | false=>rw [hz] at e;exact t _ _ e
theorem Sub.refl {ρ:Rho}:Sub ρ ρ:=fun u1_ u2_ h=>h
noncomputable def Same (ρ0 ρ:Rho):Prop:=(ρ0.map fun p=>ρ.lookup p.1)=ρ0.map fun p=>some p.2
theorem Sub.of {ρ0 ρ:Rho} (h:Same ρ0 ρ):Sub ρ0 ρ:=fun x u e=>List.map_inj_left.mp h (x,u) (mem_of_lookup e)
inductive SubI (I:QR) (ρ:Rho) (H:AH):Prop
 | mk (ρ0:Rho) (s:Sub ρ0 ρ) (i:I ρ0 H)
section
variable (B:Bs) (n:Nat) (sc:Scope)
noncomputable def KTurnI (I:QR) (Q:QS):QS:=fun o ρ H=>match o with
 | .next=>Lf (SubI I ρ H)
 | .cont=>Lf (SubI I ρ H)
 | .brk=>Q .next ρ H
 | .ret v=>Q (.ret v) ρ H
noncomputable def KBodyG (b:List Stmt) (Q:QS):QR:=fun ρ H=>vS B n sc 60 b ρ H Q
inductive ForQ (tg:Expr) (b:List Stmt) (Q:QS) (ρ:Rho) (items:List V) (live:AH→Prop) (H1:AH):Prop
 | mk (I:Nat→Rho→AH→Prop) (h0:SubI (I 0) ρ H1) (hend:∀ ρ' H',I items.length ρ' H'→live H'∧Q .next ρ' H')
  (turn:∀ i v ρ' H' (Qt:QS),items[i]? = some v→I i ρ' H'→(∀ ρ2 H2,SubI (I (i+1)) ρ2 H2→Qt .next ρ2 H2)→live H'∧KAs B n sc (vE B n sc 14) tg ρ' (KBodyG B n sc b Qt) v H')
 | fix (ρ0:Rho) (hs:Same ρ0 ρ) (J:Nat→AH→Prop) (h0:J 0 H1) (hend:∀ H',J items.length H'→live H'∧Q .next ρ0 H')
  (turn:∀ i v H' (Qt:QS),items[i]? = some v→J i H'→(∀ ρ2 H2,Same ρ0 ρ2→J (i+1) H2→Qt .next ρ2 H2)→live H'∧KAs B n sc (vE B n sc 14) tg ρ0 (KBodyG B n sc b Qt) v H')
noncomputable def KFor (tg:Expr) (b:List Stmt) (Q:QS) (ρ:Rho):QT:=fun P items live H1=>Lf (ForQ (B.wp P) n sc tg b Q ρ items live H1)
noncomputable def KIter (tg:Expr) (Q:QT):QV:=fun u H=>Lf (UI B n tg u H Q)
noncomputable def KIters (tg:Expr) (T:String) (Q:QT):List V→AH→Prop:=fun vs H=>Lf (UCI B n tg (.type T) vs H Q)
noncomputable def iterOf (x:Str):Option String:=match sc.names.lookup x with
 | some .globalImplicit=>match x == ("__debug__":Str) with
  | false=>List.lookup x iterTab
  | true=>none
 | _=>none
noncomputable def vItC (tg:Expr) (es:List Expr) (ρ:Rho) (H:AH) (Q:QT) (o:Prop):Expr→Prop
 | .Name x _=>OSor (iterOf sc x) (fun T=>BT (es.all plainE) (vL (vE B n sc 14) ρ es H (KIters B n tg T Q))) o
 | _=>o
noncomputable def vIt (tg:Expr) (it:Expr) (ρ:Rho) (H:AH) (Q:QT):Prop:=match it with
 | .Call c es [] _=>vItC B n sc tg es ρ H Q (vE B n sc 14 it ρ H (KIter B n tg Q)) c
 | it=>vE B n sc 14 it ρ H (KIter B n tg Q)
noncomputable def KWh (b:List Stmt) (ρ:Rho) (Qt Q:QS):QB:=fun c H=>Lf (BIf c (vS B n sc 60 b ρ H Qt) (Q .next ρ H))
noncomputable def KElt (elt:Expr) (ρ:Rho) (Q:QV) (o:AH→Prop):QB:=fun c H=>Lf (BIf c (vE B n sc 14 elt ρ H Q) (o H))
noncomputable def vIfs (elt:Expr) (ρ:Rho) (H:AH) (Q:QV) (o:AH→Prop):List Expr→Prop
 | []=>vE B n sc 14 elt ρ H Q
 | [c]=>vT B n sc 14 c ρ H (KElt B n sc elt ρ Q o)
 | _=>False
noncomputable def vElt (tg:Expr) (ifs:List Expr) (elt:Expr) (ρ:Rho) (v:V) (H:AH) (Q:QV) (o:AH→Prop):Prop:=OS (patBind tg v) fun bs=>vIfs B n sc elt (bs++ρ) H Q o ifs
inductive CompQ (tg:Expr) (ifs:List Expr) (elt:Expr) (Q:Addr→List V→AH→Prop) (ρ:Rho) (items:List V) (live:AH→Prop) (H1:AH):Prop
 | mk (hl:items.length≤100000) (I:Nat→List V→AH→Prop) (h0:I 0 [] H1) (hend:∀ acc H',I items.length acc H'→live H'∧∀ D,H' D=none→Q D acc H')
  (turn:∀ i acc v H' (Qe:QV) (Qo:AH→Prop),items[i]? = some v→I i acc H'→(∀ u H2,I (i+1) (acc++[u]) H2→Qe u H2)→(∀ H2,I (i+1) acc H2→Qo H2)→live H'∧vElt B n sc tg ifs elt ρ v H' Qe Qo)
 | pure (hl:items.length≤100000) (hv:live H1) (out:List V) (ho:out.length=items.length) (turn:∀ (i:Nat) (v:V) (Qe:QV),items[i]? = some v→∃ u:V,out[i]? = some u∧(Qe u H1→vElt B n sc tg ifs elt ρ v H1 Qe (fun _=>False))) (q:∀ D,H1 D=none→Q D out H1)
 | grow (hl:items.length≤100000) (G:AH→Prop) (g0:G H1) (hv:∀ H',G H'→live H') (out:List V) (ho:out.length=items.length) (turn:∀ (i:Nat) (v:V) H' (Qe:QV),items[i]? = some v→G H'→∃ u:V,out[i]? = some u∧((∀ H2,G H2→Qe u H2)→vElt B n sc tg ifs elt ρ v H' Qe (fun _=>False))) (q:∀ D H',G H'→H' D=none→Q D out H')
noncomputable def KComp (tg:Expr) (ifs:List Expr) (scope:Scope) (elt:Expr) (Q:Addr→List V→AH→Prop) (ρ:Rho):QT:=fun P items live H1=>Lf (CompQ (B.wp P) n (relab scope sc) tg ifs elt Q ρ items live H1)
noncomputable def KNewL (Q:QV):Addr→List V→AH→Prop:=fun D acc H=>Q (.ref D) (H.put D (.list acc))
noncomputable def KSwap (names:List Str) (ρ:Rho) (Q:QS):QV:=fun u H=>OS u.asTup fun us=>BT (Nat.beq us.length names.length) (Q .next ((names.reverse.zip us.reverse).reverse++ρ) H)
noncomputable def KNewD (x:Str) (ρ:Rho) (Q:QS):Addr→List (Int × V)→AH→Prop:=fun D acc H=>Q .next ((x,.ref D)::ρ) (H.put D (.idict acc))
noncomputable def KCompD (tg:Expr) (ifs:List Expr) (scope:Scope) (kx vx:Expr) (Q:Addr→List (Int × V)→AH→Prop) (ρ:Rho):QT:=fun P items live H1=>Lf (CompG (B.wp P) n sc ρ tg ifs scope [] (bdD n (relab scope sc) kx vx (B.wp P)) Q items live H1)
noncomputable def KNewA (x:Str) (ρ:Rho) (Q:QS):Addr→List V→AH→Prop:=fun D acc H=>Q .next ((x,.ref D)::ρ) (H.put D (.list acc))
end
section
variable {B:Bs} {n:Nat} {sc:Scope} {ρ:Rho} {H:AH} {Q:QV}
theorem Tst.sub {e:Expr} {ρ0:Rho} {Q:QB} (k:Sub ρ0 ρ) (h:Tst B n sc e ρ0 H Q):Tst B n sc e ρ H Q:=⟨fun env A s ok he R a F=>h.run env A s ok he R a (F.sub k)⟩
theorem ItPost.mono {tg:Expr} {s:Shared} {Q Q':QT} {it:Value} {s2:Shared} (h:ItPost B tg s H Q it s2) (k:∀ P items live H,Q P items live H→Q' P items live H):ItPost B tg s H Q' it s2:=by
 obtain ⟨P,H2,items,live,fp,at_,b1,b2,b3,b4,b5,b6,b7,q⟩:=h;exact ⟨P,H2,items,live,fp,at_,b1,b2,b3,b4,b5,b6,b7,k _ _ _ _ q⟩
theorem UI.mono {tg:Expr} {u:V} {Q Q':QT} (h:UI B n tg u H Q) (k:∀ P items live H,Q P items live H→Q' P items live H):UI B n tg u H Q':=
 fun A s x ok R a c=>wpAny_mono (h A s x ok R a c) (fun u1_ u2_ h=>h.mono k) fun u3_ u4_ e=>e
theorem UCI.mono {tg:Expr} {f:Value} {us:List V} {Q Q':QT} (h:UCI B n tg f us H Q) (k:∀ P items live H,Q P items live H→Q' P items live H):UCI B n tg f us H Q':=
 fun A s x ok R a c=>wpAny_mono (h A s x ok R a c) (fun u1_ u2_ h=>wpAny_mono h (fun u3_ u4_ h=>h.mono k) fun u5_ u6_ e=>e) fun u7_ u8_ e=>e
theorem iterOf_at {x:Str} {T:String} (h1:iterOf sc x=some T):sc.names.lookup x=some .globalImplicit∧(x == ("__debug__":Str))=false∧List.lookup x iterTab=some T:=by
 unfold iterOf at h1;induction e:sc.names.lookup x with
 | none=>replace h1:=e▸h1;exact z_ns h1
 | some k=>
  rw [e] at h1;clear e;induction k <;> first | (exact z_ns h1;done) | skip
  induction e2:x == ("__debug__":Str) with
  | true=>rw [e2] at h1;exact z_ns h1
  | false=>rw [e2] at h1;exact i0a3 rfl rfl h1
theorem vIt_sound (Fk:Facts B.K) {tg it:Expr} {Q Q':QT} (k:∀ P items live H,Q P items live H→Q' P items live H) (h:vIt B n sc tg it ρ H Q):It B n sc tg it ρ H Q':=by
 have dflt:vE B n sc 14 it ρ H (KIter B n tg Q)→It B n sc tg it ρ H Q':=fun h=>It.value ((Ev.v Fk h).mono fun u H h=>UI.mono h.h k);rcases it with _ | _ | _ | _ | _ | _ | _ | _ | _ | _ | _ | _ | _ | _ | _ | _ | ⟨c,es,kws,p⟩ | _ | _ | _ | _ | _ | _ | _ | _ | _ | _ <;> try (exact dflt h;done)
 ·induction kws with
  | cons=>exact dflt h
  | nil=>
   rcases c with _ | _ | _ | _ | _ | _ | _ | _ | _ | _ | _ | _ | _ | _ | _ | _ | _ | _ | _ | _ | _ | _ | _ | ⟨x,p⟩ | _ | _ | _ <;> try (exact dflt h;done)
   ·rcases OSor.of h with ⟨T,h1,h⟩ | h
    ·have h:=BT.of h;have h3:=iterOf_at h1;exact It.call h3.1 (Fk.iters h3.2.2) (vL_sound (v_sound Fk 14) h.2 fun vs H h=>UCI.mono h.h k) (fun env=>noStar h.1) h3.2.1
    ·exact dflt h
theorem As.weak {tg:Expr} {u:V} {ρ0:Rho} {Q:QR} (k:Sub ρ0 ρ) (h:As B n sc tg ρ0 H u Q):As B n sc tg ρ H u Q:=⟨fun env A s y ok he R a F hc=>h.run env A s y ok he R a (F.sub k) hc⟩
theorem Ex.weak {st:Stmt} {Q:QS} (h:Ex B n sc st ρ H fun o ρ H=>∃ ρ0,Sub ρ0 ρ∧Q o ρ0 H):Ex B n sc st ρ H Q:=
 ⟨fun env A s ok he R a F=>(h.run env A s ok he R a F).mono fun u1_ u2_ u3_ u4_ u5_ ⟨o,ρ',p1,p2,ρ0,p3,q⟩=>⟨o,ρ0,p1,p2.sub p3,q⟩⟩
theorem ForQ.gen (Fk:Facts B.K) {tg:Expr} {b:List Stmt} {Q:QS} {items:List V} {live:AH→Prop} (I:Nat→Rho→AH→Prop) (h0:SubI (I 0) ρ H) (hend:∀ ρ' H',I items.length ρ' H'→live H'∧Q .next ρ' H')
  (turn:∀ i v ρ' H' (Qt:QS),items[i]? = some v→I i ρ' H'→(∀ ρ2 H2,SubI (I (i+1)) ρ2 H2→Qt .next ρ2 H2)→live H'∧KAs B n sc (vE B n sc 14) tg ρ' (KBodyG B n sc b Qt) v H'):ForH B n sc tg b (fun o ρ H=>∃ ρ0,Sub ρ0 ρ∧Q o ρ0 H) ρ items live H:=by
 refine ⟨fun i=>SubI (I i),h0,fun ρ' H' h=>?_,fun i v ρ' H' hv h=>?_⟩
 ·obtain ⟨ρ0,s,i⟩:=h;have g:=hend ρ0 H' i;exact ⟨g.1,ρ0,s,g.2⟩
 ·obtain ⟨ρ0,s,hi⟩:=h;have t:=turn i v ρ0 H' (KTurnI (I (i+1)) Q) hv hi fun u1_ u2_ h=>⟨h⟩
  refine ⟨t.1,As.weak s ((As.v Fk t.2).mono fun ρ2 H2 h=>(Exs.v Fk h).mono fun o ρ3 H3 h=>?_)⟩;induction o with
  | next=>exact h.h
  | cont=>exact h.h
  | brk=>exact i1a2 ρ3 .refl h
  | ret v=>exact i1a2 ρ3 .refl h
theorem Ex.forL (Fk:Facts B.K) {tg it:Expr} {b:List Stmt} {pos:Pos} {Q:QS} (h:vIt B n sc tg it ρ H (KFor B n sc tg b Q ρ)) (hs:∀ env x,foldedSetIterable it env x=pure x:=by intro _ _;rfl):Ex B n sc (.For tg it b [] pos) ρ H Q:=by
 refine Ex.weak (Ex.for (vIt_sound Fk (fun P items live H1 h=>?_) h) hs);induction h.h with
 | mk I h0 hend turn=>exact ForQ.gen (B:=B.wp P) Fk I h0 hend turn
 | fix ρ0 hs J h0 hend turn=>
  refine ForQ.gen (B:=B.wp P) Fk (fun i ρ H=>ρ=ρ0∧J i H) ⟨ρ0,.of hs,rfl,h0⟩ (fun ρ' H' h=>h.1▸hend H' h.2) fun i v ρ' H' Qt hv h k=>h.1▸turn i v H' Qt hv h.2 fun ρ2 H2 hs hj=>k ρ2 H2 ⟨ρ0,.of hs,rfl,hj⟩
theorem Ex.whileL (Fk:Facts B.K) {t:Expr} {b:List Stmt} {pos:Pos} {Q:QS} (I:Nat→Rho→AH→Prop) (k:Nat) (h:SubI (I k) ρ H) (turn:∀ k ρ H (Qt:QS),I k ρ H→(∀ m ρ2 H2,m < k→SubI (I m) ρ2 H2→Qt .next ρ2 H2)→vT B n sc 14 t ρ H (KWh B n sc b ρ Qt Q)):Ex B n sc (.While t b [] pos) ρ H Q:=by
 refine Ex.weak (Ex.while (fun i=>SubI (I i)) k h fun k ρ' H' h=>?_);obtain ⟨ρ0,s,hi⟩:=h;refine Tst.sub s ((Tst.v Fk (turn k ρ0 H' (KTurnI (fun ρ H=>∃ m,m < k∧I m ρ H) Q) hi fun m ρ2 H2 hm h=>⟨by obtain ⟨ρ3,s,i⟩:=h;exact ⟨ρ3,s,m,hm,i⟩⟩)).mono fun c H1 h=>?_);refine h.h.imp (fun h=>Exs.sub s ((Exs.v Fk h).mono fun o ρ3 H3 h=>?_)) fun h=>i1a2 ρ0 s h;have nx:SubI (fun ρ H=>∃ m,m < k∧I m ρ H) ρ3 H3→∃ m,m < k∧SubI (I m) ρ3 H3:=fun h=>by obtain ⟨ρ4,s,m,hm,i⟩:=h;exact ⟨m,hm,ρ4,s,i⟩
 induction o with
 | next=>exact nx h.h
 | cont=>exact nx h.h
 | brk=>exact i1a2 ρ3 .refl h
 | ret v=>exact i1a2 ρ3 .refl h
theorem vElt_sound (Fk:Facts B.K) {tg elt:Expr} {ifs:List Expr} {v:V} {o:AH→Prop} {Q':QV} {o':AH→Prop} (hq:∀ u H,Q u H→Q' u H) (ho:∀ H,o H→o' H) (h:vElt B n sc tg ifs elt ρ v H Q o) :
  ∃ bs,patBind tg v=some bs∧Tests B n sc (bs++ρ) H (fun b H2=>if b then Ev B n sc elt (bs++ρ) H2 Q' else o' H2) ifs:=by
 refine e1a2 (OS.of h) fun bs hp h=>?_;refine i1a2 bs hp ?_;rcases ifs with _ | ⟨c,_ | _⟩
 ·exact (Ev.v Fk h).mono hq
 ·exact (Tst.v Fk h).mono fun b H2 h=>h.h.imp (fun h=>(Ev.v Fk h).mono hq) (ho _)
 ·exact h.elim
noncomputable abbrev CompH (B:Bs) (n:Nat) (sc:Scope) (ρ:Rho) (tg:Expr) (ifs:List Expr) (scope:Scope) (elt:Expr) (Q:Addr→List V→AH→Prop) (items:List V) (live:AH→Prop) (H1:AH):Prop:=CompG B n sc ρ tg ifs scope [] (bdL n (relab scope sc) elt B) Q items live H1
theorem CompQ.grown (Fk:Facts B.K) {tg elt:Expr} {ifs:List Expr} {scope:Scope} {Q:Addr→List V→AH→Prop} {items:List V} {live:AH→Prop} (hl:items.length≤100000) (G:AH→Prop) (g0:G H) (hv:∀ H',G H'→live H') (out:List V) (ho:out.length=items.length)
  (turn:∀ (i:Nat) (v:V) H' (Qe:QV),items[i]? = some v→G H'→∃ u:V,out[i]? = some u∧((∀ H2,G H2→Qe u H2)→vElt B n (relab scope sc) tg ifs elt ρ v H' Qe (fun u1_=>False))) (q:∀ D H',G H'→H' D=none→Q D out H'):CompH B n sc ρ tg ifs scope elt Q items live H:=by
 refine ⟨hl,fun i acc H'=>G H'∧acc=out.take i,⟨g0,rfl⟩,fun acc H' h=>?_,fun i acc v H' hi h=>?_⟩
 ·refine h.2▸?_;refine (ho).symm▸?_;refine List.take_length▸?_;exact ⟨hv _ h.1,fun D=>q D H' h.1⟩
 ·refine e1a2 (turn i v H' (fun u H2=>G H2∧acc++[u]=out.take (i+1)) hi h.1) fun u hu t=>?_;exact ⟨hv _ h.1,vElt_sound Fk (fun u' H1 h1=>h1) (fun u2_ h=>h.elim) (t fun H2 g=>⟨g,by simp only [h.2,List.take_add_one,hu];rfl⟩)⟩
theorem CompQ.at (Fk:Facts B.K) {tg elt:Expr} {ifs:List Expr} {scope:Scope} {Q:Addr→List V→AH→Prop} {items:List V} {live:AH→Prop} (h:CompQ B n (relab scope sc) tg ifs elt Q ρ items live H):CompH B n sc ρ tg ifs scope elt Q items live H:=by
 induction h with
 | mk hl I h0 hend turn=>exact ⟨hl,I,h0,hend,fun i acc v H' hv hi=>have t:=turn i acc v H' (fun u H2=>I (i+1) (acc++[u]) H2) (I (i+1) acc) hv hi (fun u1_ u2_ h=>h) fun u3_ h=>h;⟨t.1,vElt_sound Fk (fun u H h=>h) (fun H h=>h) t.2⟩⟩
 | pure hl hv out ho turn q=>
  exact CompQ.grown Fk hl (· = H) rfl (fun u4_ e=>e▸hv) out ho (fun i v H' Qe hi e=>e1a2 (turn i v Qe hi) fun u hu t=>(i1a2 u hu (fun k=>e▸t (k H rfl)))) fun D H' e hd=>e▸q D (e▸hd)
 | grow hl G g0 hv out ho turn q=>exact CompQ.grown Fk hl G g0 hv out ho turn q
theorem Ev.compL (Fk:Facts B.K) {elt tg it:Expr} {ifs:List Expr} {scope:Scope} {pos:Pos} (h:vIt B n sc tg it ρ H (KComp B n sc tg ifs scope elt (KNewL Q) ρ))
  (hok:compOk sc scope (patNames tg)=true:=by decide +kernel) (hpat:(patNames tg).all (fun x=>(relab scope sc).names.lookup x == some .local)=true:=by decide +kernel)
  (h0:ρ.lookup (".0":Str)=Option.none:=by rfl) (hs:∀ env x,foldedSetIterable it env x=pure x:=by intro _ _;rfl):Ev B n sc (.ListComp elt [⟨tg,it,ifs,0⟩] scope pos) ρ H Q:=
 Ev.listComp (vIt_sound Fk (fun P items live H h=>CompQ.at (B:=B.wp P) Fk h.h) h) hok hpat h0 hs
theorem Ex.compAs (Fk:Facts B.K) {x:Str} {elt tg it:Expr} {ifs:List Expr} {scope:Scope} {px pos spos:Pos} {Q:QS} (h:vIt B n sc tg it ρ H (KComp B n sc tg ifs scope elt (KNewA x ρ Q) ρ)) (hk:sc.names.lookup x=some .local:=by rfl)
  (hsw:∀ env,env.scope=sc→swapsWith (.ListComp elt [⟨tg,it,ifs,0⟩] scope pos) (some (.Name x px)) spos.line env=pure true:=by intro env h;cases env;cases h;rfl)
  (hok:compOk sc scope (patNames tg)=true:=by decide +kernel) (hpat:(patNames tg).all (fun x=>(relab scope sc).names.lookup x == some .local)=true:=by decide +kernel)
  (h0:ρ.lookup (".0":Str)=Option.none:=by rfl) (hs:∀ env x,foldedSetIterable it env x=pure x:=by intro _ _;rfl):Ex B n sc (.Assign [.Name x px] (.ListComp elt [⟨tg,it,ifs,0⟩] scope pos) spos) ρ H Q:=
 Ex.assignG (W:=WL B elt) (fun P=>kindL (B:=B.wp P)) rfl (fun _ _=>rfl) hk (vIt_sound Fk (fun P items live H h=>CompQ.at (B:=B.wp P) Fk h.h) h) hsw hok hpat h0 hs
theorem Ex.compAsD (Fk:Facts B.K) {x:Str} {kx vx tg it:Expr} {ifs:List Expr} {scope:Scope} {px pos spos:Pos} {Q:QS} (h:vIt B n sc tg it ρ H (KCompD B n sc tg ifs scope kx vx (KNewD x ρ Q) ρ)) (hk:sc.names.lookup x=some .local:=by rfl)
  (hsw:∀ env,env.scope=sc→swapsWith (.DictComp kx vx [⟨tg,it,ifs,0⟩] scope pos) (some (.Name x px)) spos.line env=pure true:=by intro env h;cases env;cases h;rfl)
  (hok:compOk sc scope (patNames tg)=true:=by decide +kernel) (hpat:(patNames tg).all (fun x=>(relab scope sc).names.lookup x == some .local)=true:=by decide +kernel)
  (h0:ρ.lookup (".0":Str)=Option.none:=by rfl) (hs:∀ env x,foldedSetIterable it env x=pure x:=by intro _ _;rfl):Ex B n sc (.Assign [.Name x px] (.DictComp kx vx [⟨tg,it,ifs,0⟩] scope pos) spos) ρ H Q:=
 Ex.assignG (W:=WD B kx vx) (fun P=>kindD (B:=B.wp P)) rfl (fun _ _=>rfl) hk (vIt_sound Fk (fun P items live H h=>h.h) h) hsw hok hpat h0 hs
theorem Ex.swapV (Fk:Facts B.K) (names:List Str) {t e:Expr} {pos:Pos} {Q:QS} (h:vE B n sc 14 e ρ H (KSwap names ρ Q)) (hw:∀ env,env.scope=sc→swappedStores [t] e env=pure (some names):=by intro env h;cases env;cases h;rfl)
  (hk:names.all (fun x=>sc.names.lookup x == some .local)=true:=by decide +kernel) (hs:noComp e=true:=by rfl):Ex B n sc (.Assign [t] e pos) ρ H Q:=
 Ex.assignSwap hw ((Ev.v Fk h).mono fun u H1 h=>e1a2 (OS.of h) fun us e h=>have h:=BT.of h;(i1a3 us (V.of_tup e) (Nat.eq_of_beq_eq_true h.1) h.2)) hk fun env u1_=>noComp_swaps hs
theorem Ex.pairV (Fk:Facts B.K) {es:List Expr} {k:Nat} {p:Pos} {e:Expr} {pos:Pos} {Q:QS} (h:vE B n sc 14 e ρ H (KAs B n sc (vE B n sc 14) (.Tuple es k p) ρ (KNx Q))) (hw:∀ env,env.scope=sc→swappedStores [.Tuple es k p] e env=pure none:=by intro env h;cases env;cases h;rfl)
  (hs:noComp e=true:=by rfl):Ex B n sc (.Assign [.Tuple es k p] e pos) ρ H Q:=
 Ex.assign ((Ev.v Fk h).mono fun u H1 h=>As.v Fk h) (fun u1_=>rfl) (fun env u2_=>noComp_swaps hs) hw
end
structure IsInst (H:AH) (a:Addr) (C:Cls) (d:Addr) (kvs:List (Str × V)):Prop where
 a:H a=some (.inst C d)
 d:H d=some (.sdict kvs)
theorem Holds.inst {H:AH} {L:List (Addr × Cell)} {a d:Addr} {C:Cls} {kvs:List (Str × V)} (i:Nat) (h:Holds H L) (hi:L[i]? = some (a,.inst C d)) (hj:L[i+1]? = some (d,.sdict kvs)):IsInst H a C d kvs:=⟨h.get i hi,h.get _ hj⟩
noncomputable def KFrom1 (Q:QV):QV:=fun u H=>match u with
 | .tup vs=>Lf (1≤vs.length∧vs.length≤100000∧Q (.tup (vs.drop 1)) H)
 | _=>False
theorem Holds.to {H:AH} {L L':List (Addr × Cell)} (h:Holds H L) (e:L=L'):Holds H L':=e▸h
section
variable {B:Bs} {n:Nat} {sc:Scope} {ρ:Rho} {H:AH} {Q:QV} {a d:Addr} {C:Cls} {kvs:List (Str × V)} {name:Str} {f:FE}
theorem A.get {v:V} (Fk:Facts B.K) (h:IsInst H a C d kvs) (hn:(attrTab C).contains name=true) (hv:dget kvs name=some v) (q:Q v H):U1 B n (fun y=>getAttr y name true) (.ref a) H Q:=
 u_getAttr h.a h.d (Fk.cls _) (Fk.attrs hn) hv q
theorem A.set {v:V} {Q:AH→Prop} (Fk:Facts B.K) (h:IsInst H a C d kvs) (hn:(attrTab C).contains name=true) (hz:Nat.ble kvs.length 100=true) (q:Q (H.put d (.sdict (dput kvs name v)))):US B n (fun x y=>setAttr x name y) (.ref a) v H Q:=
 u_setAttr h.a h.d (Fk.cls _) (Fk.attrs hn) (nbl hz) q
theorem A.meth {es:List Expr} {m:Addr} (Fk:Facts B.K) (h:IsInst H a C d kvs) (hm:(methTab C).lookup name=some m) (hv:dget kvs name=none) (q:vL f ρ es H (KArgs B n (.ref m) (.ref a) Q)):CM B n f ρ name es Q (.ref a) H:=
 have h2:=Fk.meths hm
 .mk _ (.inst h.a h.d (Fk.cls _) h2.1 hv) (.inr (.inr h2.2)) q
theorem A.bm {es:List Expr} {u:V} {id:String} (m:Mth B H u name (.builtin id)) (q:vL f ρ es H (KArgs B n (.builtin id) u Q)):CM B n f ρ name es Q u H:=.mk _ m callee_b q
theorem UC.fn {fa:Addr} {ps:List Str} {body:List Stmt} {us:List V} (Fk:Facts B.K) (i:Nat) (e:fnTab[i]? = some (fa,ps,body,sc)) (hl:us.length=ps.length) (h:vS B n sc 60 body (ps.zip us) H (KFun Q)):UC B (n+1) (.ref fa) us H Q:=
 UC.func (Fk.fn i e) hl ((Exs.v Fk h).mono fun o ρ H h=>by induction o <;> first | exact h.h | exact h.elim)
theorem As.list2V {e1 e2:Expr} {k:Nat} {pos:Pos} {l:Addr} {u v:V} {Q:QR} (hL:H l=some (.list [u,v])) (h:vAL sc H Q [e1,e2] [u,v] ρ):As B n sc (.Tuple [e1,e2] k pos) ρ H (.ref l) Q:=
 have h:=vAL_sound h
 AsX.list2 hL h.1 h.2.1 h.2.2
theorem Ev.from1V (Fk:Facts B.K) {o:Expr} {k:Nat} {p1 p2 pos:Pos} (h:vE B n sc 14 o ρ H (KFrom1 Q)):Ev B n sc (.Subscript o (.Slice (some (.Constant (.int 1) k p1)) none none p2) pos) ρ H Q:=
 Ev.from1 ((Ev.v Fk h).mono fun u H h=>by
  cases u with
  | tup vs=>exact i1a4 vs rfl h.h.1 h.h.2.1 h.h.2.2
  | _=>exact h.elim)
theorem UC.cls {L:List (Addr × Cell)} {fI:Addr} {ps:List Str} {body:List Stmt} {us:List V} (Fk:Facts B.K) (hk:makesIn B.K C.addr=true∧findIn B.K (.ref C.addr) "__init__" = some (some (.ref fI))∧typeIn B.K (.ref fI)=some (.type "function")∧keepIn B.K (.ref C.addr)=true)
  (X:FnAt B.K fI ps body sc) (hl:us.length+1=ps.length) (hh:Holds H L) (h:∀ d x H',Holds H' ((x,.inst C d)::(d,.sdict [])::L)→vS B n sc 60 body (ps.zip (.ref x::us)) H' (KFun fun v H''=>v=.none∧Q (.ref x) H'')):UC B (n+1) (.ref C.addr) us H Q:=
 UC.new hk.1 hk.2.1 hk.2.2.1 X hl fun d x hd hx hne=>(Exs.v Fk (h d x _ ((hh.new (c:=.sdict []) hd).new (c:=.inst C d) (a:=x) (by refine AH.put_ne _ _ hne.symm▸?_;exact hx)))).mono fun o ρ H h=>by induction o <;> first | exact h.h | exact h.elim
theorem byes {P:Prop} [Decidable P] {p q:Prop} (h:P) (x:p):Lf (BIf (decide P) p q):=⟨.yes (decide_eq_true h) x⟩
theorem bno {P:Prop} [Decidable P] {p q:Prop} (h:¬ P) (x:q):Lf (BIf (decide P) p q):=⟨.no (decide_eq_false h) x⟩
theorem byes' {b:Bool} {p q:Prop} (h:b=true) (x:p):Lf (BIf b p q):=⟨.yes h x⟩
theorem bno' {b:Bool} {p q:Prop} (h:b=false) (x:q):Lf (BIf b p q):=⟨.no h x⟩
end
local macro_rules | `(tactic| walk_at "hg")=>`(tactic| first | assumption | exact Holds.get 0 ‹_› rfl | exact Holds.get 1 ‹_› rfl | exact Holds.get 2 ‹_› rfl | exact Holds.get 3 ‹_› rfl | exact Holds.get 4 ‹_› rfl | exact Holds.get 5 ‹_› rfl | exact Holds.get 6 ‹_› rfl | exact Holds.get 7 ‹_› rfl | exact Holds.get 8 ‹_› rfl | exact Holds.get 9 ‹_› rfl | exact Holds.get 10 ‹_› rfl | exact Holds.get 11 ‹_› rfl | exact Holds.get 12 ‹_› rfl | exact Holds.get 13 ‹_› rfl | exact Holds.get 14 ‹_› rfl | exact Holds.get 15 ‹_› rfl | exact Holds.get 16 ‹_› rfl | exact Holds.get 17 ‹_› rfl | exact Holds.get 18 ‹_› rfl | exact Holds.get 19 ‹_› rfl)
local macro_rules | `(tactic| walk_at "ig")=>`(tactic| first | assumption | exact Holds.inst 0 ‹_› rfl rfl | exact Holds.inst 1 ‹_› rfl rfl | exact Holds.inst 2 ‹_› rfl rfl | exact Holds.inst 3 ‹_› rfl rfl | exact Holds.inst 4 ‹_› rfl rfl | exact Holds.inst 5 ‹_› rfl rfl | exact Holds.inst 6 ‹_› rfl rfl | exact Holds.inst 7 ‹_› rfl rfl | exact Holds.inst 8 ‹_› rfl rfl | exact Holds.inst 9 ‹_› rfl rfl | exact Holds.inst 10 ‹_› rfl rfl | exact Holds.inst 11 ‹_› rfl rfl | exact Holds.inst 12 ‹_› rfl rfl | exact Holds.inst 13 ‹_› rfl rfl | exact Holds.inst 14 ‹_› rfl rfl)
local macro_rules | `(tactic| walk_at "sb")=>`(tactic| first | refine ⟨btL (by walk_at "hg"),?_⟩ | refine ⟨btD (by walk_at "hg"),?_⟩ | refine ⟨btT (by walk_at "hg"),?_⟩ | refine ⟨btS (by walk_at "hg"),?_⟩ | refine ⟨⟨_,rfl⟩,?_⟩)
local macro_rules | `(tactic| walk_at "ev0")=>`(tactic| first
 | ((with_reducible change U1 _ _ _ _ _ _);refine A.get ‹_› (by walk_at "ig") rfl rfl ?_) | ((with_reducible change US _ _ _ _ _ _ _);refine A.set ‹_› (by walk_at "ig") rfl rfl ?_)
 | ((with_reducible change CM _ _ _ _ (ofString "append") _ _ _ _);refine A.bm (m_append (by walk_at "hg")) ?_) | ((with_reducible change CM _ _ _ _ (ofString "extend") _ _ _ _);refine A.bm (m_extend (by walk_at "hg")) ?_) | ((with_reducible change CM _ _ _ _ (ofString "pop") _ _ _ _);first | refine A.bm (m_pop (by walk_at "hg")) ?_ | refine A.bm (m_dpop (by walk_at "hg")) ?_) | ((with_reducible change CM _ _ _ _ (ofString "get") _ _ _ _);refine A.bm (m_get (by walk_at "hg")) ?_) | ((with_reducible change CM _ _ _ _ (ofString "setdefault") _ _ _ _);first | refine A.bm (m_setdefault (by walk_at "hg")) ?_ | refine A.bm (m_setdefaultT (by walk_at "hg")) ?_)
 | ((with_reducible change CM _ _ _ _ _ _ _ _ _);refine A.meth ‹_› (by walk_at "ig") rfl rfl ?_))
local macro_rules | `(tactic| walk_at "evs")=>`(tactic| ((try refine Lf.of ?_);(repeat (walk_at "ev0";refine Lf.of ?_));(try walk_at "sb")))
noncomputable abbrev nv (k:Nat):V:=.int k
noncomputable abbrev sv (x:String):V:=.str (ofString x)
noncomputable abbrev nvs (l:List Nat):List V:=l.map nv
noncomputable def rtF (ab:List Nat):Nat→Nat→Nat
 | 0,a=>a
 | n+1,a=>if ab.getD a a < a then rtF ab n (ab.getD a a) else a
noncomputable def rt (ab:List Nat) (a:Nat):Nat:=rtF ab a a
theorem rtF_same (ab:List Nat) (n:Nat):∀ m a,a≤n→a≤m→rtF ab n a=rtF ab m a:=by
 have z:∀ m,rtF ab m 0=0:=fun m=>by induction m <;> rfl
 induction n with
 | zero=>intro m a h u1_;clear u1_;cases Nat.le_zero.mp h;exact (z m).symm
 | succ n ih=>
  intro m a h1 h2;induction m with
  | zero=>clear h1;cases Nat.le_zero.mp h2;rfl
  | succ m=>
   simp only [rtF,rtF];by_cases h:ab.getD a a < a
   ·rw [if_pos h,if_pos h];exact ih m _ (Nat.le_of_lt_succ (Nat.lt_of_lt_of_le h h1)) (Nat.le_of_lt_succ (Nat.lt_of_lt_of_le h h2))
   ·rw [if_neg h,if_neg h]
theorem rt_eq (ab:List Nat) (a:Nat):rt ab a=if ab.getD a a < a then rt ab (ab.getD a a) else a:=by
 induction a with
 | zero=>rfl
 | succ a=>
  show rtF ab (a+1) (a+1)=_;simp only [rtF];by_cases h:ab.getD (a+1) (a+1) < a+1
  ·rw [if_pos h,if_pos h];exact rtF_same ab _ _ _ (Nat.le_of_lt_succ h) (Nat.le_refl _)
  ·rw [if_neg h,if_neg h]
set_option genInjectivity false in
set_option genSizeOf false in
structure UR where
 u:Addr
 du:Addr
 aa:Addr
 al:Addr
 am:Addr
 ls:List Addr
set_option genInjectivity false in
set_option genSizeOf false in
structure UN where
 par:List Nat
 lots:List (List Nat)
 merged:List V
noncomputable def lotCells (ls:List Addr) (lots:List (List Nat)):List (Addr × Cell):=(ls.zip lots).map fun p=>(p.1,.list (nvs p.2))
noncomputable def unCells (R:UR) (S:UN):List (Addr × Cell):=
 (R.u,.inst .unions R.du)::(R.du,.sdict [(ofString "above",.ref R.aa),(ofString "lots",.ref R.al),(ofString "merged",.ref R.am)]) ::
 (R.aa,.list (nvs S.par))::(R.al,.list (R.ls.map V.ref))::(R.am,.list S.merged)::lotCells R.ls S.lots
structure UNok (R:UR) (S:UN):Prop where
 ls:R.ls.length=S.lots.length
 lots:S.lots.length=S.par.length
 small:S.par.length≤12
 le:∀ i,S.par.getD i i≤i
theorem nvs_snoc {l:List Nat} {k:Nat}:nvs l++[nv k]=nvs (l++[k]):=by simp [nvs]
section
variable {B:Bs} {n:Nat} {H:AH}
theorem nvs_get {l:List Nat} {i x:Nat} (h:l[i]? = some x):(nvs l)[i]? = some (nv x):=by simp [nvs,h]
theorem find_spec (Fk:Facts B.K) {R:UR} {S:UN} {L:List (Addr × Cell)} {a:Nat} (hh:Holds H (unCells R S++L)) (ok:UNok R S) (ha:a < S.par.length) {Q:QV} (q:Q (nv (rt S.par a)) H):UC B (n+1) (.ref 316) [.ref R.u,nv a] H Q:=by
 refine UC.fn Fk 18 rfl rfl ?_;walk_at "evs";refine Ex.whileL Fk (fun k ρ H'=>ρ=[(ofString "self",.ref R.u),(ofString "a",nv k)]∧H'=H∧k < S.par.length∧rt S.par k=rt S.par a) a ⟨_,.refl,rfl,rfl,ha,rfl⟩ ?_;rintro b u1_ u2_ Qt ⟨rfl,rfl,hb,hr⟩ kn;have hz:(nvs S.par).length≤100000:=by have:=ok.small;simp;exact Nat.le_trans ‹_› (nbl rfl)
 have hget:(nvs S.par)[b]? = some (nv S.par[b]):=nvs_get (by simp [hb]);have hle:=ok.le b;have hrt:=rt_eq S.par b;rw [List.getD_eq_getElem?_getD,List.getElem?_eq_getElem hb,Option.getD_some] at hle hrt;walk_at "evs";refine u_listGet (by walk_at "hg") hget hz ?_;walk_at "evs";refine u_neInt ?_;by_cases he:S.par[b]=b
 ·refine bno (by lia) ?_;walk_at "evs";rw [← hr,hrt,if_neg (by lia)] at q;exact q
 ·refine byes (by lia) ?_;walk_at "evs";refine u_listGet (by walk_at "hg") hget hz ?_;walk_at "evs";exact kn S.par[b] _ _ (by lia) ⟨_,.cons rfl (.cons rfl .nil),rfl,rfl,by exact Nat.lt_of_le_of_lt ‹_› ‹_›,by rw [← hr,hrt,if_pos (by lia)]⟩
end
theorem irange0 (k:Nat):irange 0 k=nvs (List.range k):=by
 simp [irange,nvs]
theorem nvs_get? {l:List Nat} {i:Nat} {v:V} (h:(nvs l)[i]? = some v):∃ x,l[i]? = some x∧v=nv x:=by
 rw [nvs,List.getElem?_map,Option.map_eq_some_iff] at h;obtain ⟨x,e,rfl⟩:=h;exact i1a2 x e rfl
theorem nvs_ints (l:List Nat):nvs l=(l.map Int.ofNat).map V.int:=by simp [nvs]
theorem perm_nat {l:List Nat} {ms:List Int} (p:ms.Perm (l.map Int.ofNat)):∃ ks:List Nat,ms=ks.map Int.ofNat∧ks.Perm l:=by
 refine i1a2 (ms.map Int.toNat) ?_ ?_
 ·simp only [List.map_map];have:∀ x∈ms,(Int.ofNat ∘ Int.toNat) x=x:=fun x hx=>by
   refine e1a2 (List.mem_map.mp (p.mem_iff.mp hx)) fun y u1_ z2=>?_;clear hx;subst z2;rfl
  exact (List.map_id' ms).symm.trans (List.map_congr_left fun x hx=>(this x hx).symm)
 ·have:=p.map Int.toNat;rw [List.map_map] at this;have e:(Int.toNat ∘ Int.ofNat)=id:=by funext x;rfl
  rw [e,List.map_id] at this;exact this
theorem c_sortedNats {B:Bs} {n:Nat} {H:AH} {a:Addr} {l:List Nat} {Q:V→AH→Prop} (ha:H a=some (.list (nvs l))) (hz:l.length < 64) (q:∀ (c:Addr) (ms:List Nat),H c=none→ms.Perm l→ms.Pairwise (·≤·)→Q (.ref c) (H.put c (.list (nvs ms)))):UC B n (.builtin "sorted") [.ref a] H Q:=by
 rw [nvs_ints] at ha;refine c_sortedInts ha (by simpa using hz) fun c ms hc hp hs=>?_;refine e1a2 (perm_nat hp) fun ks z3 hk=>?_;clear hp;subst z3;rw [← nvs_ints];refine q c ks hc hk ?_;replace hs:=List.pairwise_map.mp hs;exact hs.imp fun {a b} h=>by simpa using h
noncomputable def UN.make (S:UN):UN:={ S with par:=S.par++[S.par.length],lots:=S.lots++[[S.par.length]] }
noncomputable def UN.merge (S:UN) (x y:Nat):UN:={ par:=S.par.set y x,lots:=S.lots.set x (S.lots.getD x []++S.lots.getD y []),merged:=S.merged++[.tup [nv x,nv y]] }
noncomputable def roots (par:List Nat):List Nat:=(List.range par.length).filter fun a=>par.getD a a=a
theorem lotCells_append {ls:List Addr} {lots:List (List Nat)} {c:Addr} {l:List Nat} (h:ls.length=lots.length):lotCells (ls++[c]) (lots++[l])=lotCells ls lots++[(c,.list (nvs l))]:=by
 simp [lotCells,List.zip_append h]
theorem lotCells_get {ls:List Addr} {lots:List (List Nat)} {L:List (Addr × Cell)} {k:Nat} {la:Addr} {lo:List Nat} (h1:ls[k]? = some la) (h2:lots[k]? = some lo):(lotCells ls lots++L)[k]? = some (la,.list (nvs lo)):=by
 have:(lotCells ls lots)[k]? = some (la,.list (nvs lo)):=by
  rw [lotCells,List.getElem?_map,show (ls.zip lots)[k]? = some (la,lo) from List.getElem?_zip_eq_some.mpr ⟨h1,h2⟩];rfl
 exact (List.getElem?_append_left (List.getElem?_eq_some_iff.mp this).1).trans this
theorem lotCells_set {L:List (Addr × Cell)}:∀ {ls:List Addr} {lots:List (List Nat)} {k:Nat} {la:Addr} {lo:List Nat},ls[k]? = some la→k < lots.length→(lotCells ls lots++L).set k (la,.list (nvs lo))=lotCells ls (lots.set k lo)++L:=by
 intro ls;induction ls with
 | nil=>
  intro lots k la lo h h_;simp at h
 | cons a ls ih_=>
  intro lots k la lo h hk;cases lots with
  | nil=>
   have h:=hk;simp at h
  | cons o lots=>
   induction k with
   | zero=>
    simp at h;subst h;rfl
   | succ k=>
    have ih:=ih_ (lots:=lots) (k:=k) (la:=la) (lo:=lo) (by simpa using h) (by simpa using hk);simp only [lotCells,List.zip_cons_cons,List.map_cons,List.cons_append,List.set_cons_succ] at ih ⊢;simp only [ih]
section
variable {B:Bs} {n:Nat} {H:AH}
theorem make_spec (Fk:Facts B.K) {R:UR} {S:UN} {L:List (Addr × Cell)} (hh:Holds H (unCells R S++L)) (ok:UNok R S) (hlt:S.par.length < 12) {Q:QV}
  (q:∀ c H',Holds H' (unCells { R with ls:=R.ls++[c] } S.make++L)→UNok { R with ls:=R.ls++[c] } S.make→Q (nv S.par.length) H'):UC B (n+1) (.ref 302) [.ref R.u] H Q:=by
 refine UC.fn Fk 16 rfl rfl ?_;have hz:(nvs S.par).length≤100000:=by simp;refine Nat.le_of_lt (Nat.lt_of_lt_of_le ‹_› ?_);exact nbl rfl
 walk_at "evs";refine c_lenList (by walk_at "hg") hz ?_;walk_at "evs";refine c_append (by walk_at "hg") hz ?_;have h1:Holds (H.put R.aa _) _:=hh.set 2 (c:=.list (nvs S.par++[.int (nvs S.par).length])) rfl;walk_at "evs";refine c_lenList (by walk_at "hg") (by simp;have:=ok.ls;have:=ok.lots;lia) ?_;walk_at "evs";refine fun c hc=>?_;have h3:=h1.new (c:=.list [.int (R.ls.map V.ref).length]) hc;walk_at "evs";refine c_append (by walk_at "hg") (by simp;have:=ok.ls;have:=ok.lots;lia) ?_;have h4:Holds (((H.put R.aa _).put c _).put R.al _) _:=h3.set 4 (c:=.list (R.ls.map V.ref++[.ref c])) rfl;walk_at "evs";refine c_lenList (by walk_at "hg") (by simp;refine Nat.le_of_lt (Nat.lt_of_lt_of_le ‹_› ?_);exact nbl rfl) ?_;walk_at "evs";refine u_sub ?_;walk_at "evs";rw [show ((nvs S.par++[V.int (nvs S.par).length]).length:Int) - 1=S.par.length by simp];refine q c _ ?_ ?_
 ·have e1:R.ls.length=S.lots.length:=ok.ls;refine (h4.perm (L':=unCells { R with ls:=R.ls++[c] } S.make++L) ?_);simp only [unCells,UN.make,lotCells_append e1,List.cons_append,List.map_append,List.map_cons,List.map_nil,nvs,List.length_map,List.append_assoc,List.set_cons_succ,List.set_cons_zero,List.nil_append];simp only [e1,ok.lots];exact (List.perm_middle (l₁:=_::_::_::_::_::lotCells R.ls S.lots) (l₂:=L)).symm
 ·refine ⟨by simp [UN.make,ok.ls],by simp [UN.make,ok.lots],by simp [UN.make];exact Nat.le_of_lt_succ ‹_›,fun i=>?_⟩;have:=ok.le i;simp only [UN.make,List.getD_eq_getElem?_getD,List.getElem?_append] at this ⊢;split
  ·exact this
  ·rename_i hi;by_cases e:i=S.par.length
   ·clear this hi;subst e;simp
   ·have:(i - S.par.length)≠0:=by exact y09 (by assumption) (by assumption)
    rw [List.getElem?_eq_none (by simp;exact y10 (by assumption) (by assumption))];simp
theorem usize_spec (Fk:Facts B.K) {R:UR} {S:UN} {L:List (Addr × Cell)} (hh:Holds H (unCells R S++L)) (ok:UNok R S) {Q:QV} (q:Q (nv S.par.length) H):UC B (n+1) (.ref 309) [.ref R.u] H Q:=by
 refine UC.fn Fk 17 rfl rfl ?_;walk_at "evs";refine c_lenList (by walk_at "hg") (by have:=ok.small;simp;exact Nat.le_trans ‹_› (nbl rfl)) ?_;rw [List.length_map];walk_at "evs";exact q
theorem members_spec (Fk:Facts B.K) {R:UR} {S:UN} {L:List (Addr × Cell)} {a:Nat} {lo:List Nat} (hh:Holds H (unCells R S++L)) (ok:UNok R S) (ha:a < S.par.length) (hlo:S.lots[rt S.par a]? = some lo) (hs:lo.length < 64) {Q:QV}
  (q:∀ c ms H',ms.Perm lo→ms.Pairwise (·≤·)→Holds H' ((c,.list (nvs ms))::(unCells R S++L))→Q (.ref c) H'):UC B (n+2) (.ref 330) [.ref R.u,nv a] H Q:=by
 refine UC.fn Fk 20 rfl rfl ?_;have hk:rt S.par a < S.lots.length:=(List.getElem?_eq_some_iff.mp hlo).1;obtain ⟨la,hla⟩:∃ la,R.ls[rt S.par a]? = some la:=⟨_,List.getElem?_eq_getElem (by simp only [ok.ls];exact hk)⟩
 have hlc:H la=some (.list (nvs lo)):=hh.get (5+rt S.par a) (by
  rw [Nat.add_comm];exact lotCells_get hla hlo)
 walk_at "evs";refine find_spec Fk hh ok ha ?_;walk_at "evs";have hal:H R.al=some (.list (R.ls.map V.ref)):=hh.get 3 rfl;refine u_listGet hal (v:=.ref la) (by refine List.getElem?_map.trans ?_;refine hla▸?_;rfl) (by simp;have:=ok.ls;have:=ok.lots;have:=ok.small;lia) ?_;walk_at "evs";refine c_sortedNats hlc hs fun c ms hc hp hsrt=>?_;walk_at "evs";exact q c ms _ hp hsrt (hh.new hc)
theorem uclasses_spec (Fk:Facts B.K) {R:UR} {S:UN} {L:List (Addr × Cell)} (hh:Holds H (unCells R S++L)) (ok:UNok R S) {Q:QV} (q:∀ c H',Holds H' ((c,.list (nvs (roots S.par)))::(unCells R S++L))→Q (.ref c) H'):UC B (n+1) (.ref 335) [.ref R.u] H Q:=by
 refine UC.fn Fk 21 rfl rfl ?_;have hz:(nvs S.par).length≤100000:=by have:=ok.small;simp;exact Nat.le_trans ‹_› (nbl rfl)
 have ha':H R.aa=some (.list (nvs S.par)):=hh.get 2 rfl;walk_at "evs";refine Ev.compL Fk ?_;walk_at "evs";refine c_lenList ha' hz ?_;walk_at "evs";refine UCI.range1 (by have:=ok.small;simp;lia) ?_;rw [show (nvs S.par).length=S.par.length by simp,irange0];refine ⟨.mk (by have:=ok.small;simp;lia) (fun i acc H'=>H'=H∧acc=nvs ((List.range i).filter fun a=>S.par.getD a a=a)) ⟨rfl,rfl⟩ ?_ ?_⟩
 ·clear ha';rintro acc H' ⟨rfl,rfl⟩;refine ⟨trivial,fun D hD=>?_⟩;walk_at "evs";refine q D _ ?_;rw [show (nvs (List.range S.par.length)).length=S.par.length by simp];exact hh.new hD
 ·rintro i acc v H' Qe Qo hi ⟨rfl,rfl⟩ ke ko;refine e1a2 (nvs_get? hi) fun x hx z5=>?_;clear hi;subst z5;obtain ⟨hx1,rfl⟩:=List.getElem?_eq_some_iff.mp hx;simp only [List.getElem_range,List.length_range] at hx1 ⊢;refine ⟨trivial,?_⟩;have hd:S.par[i]?.getD i=S.par[i]:=by simp [hx1]
  walk_at "evs";refine u_listGet ha' (nvs_get (List.getElem?_eq_getElem hx1)) hz ?_;walk_at "evs";refine u_eqInt ?_;by_cases e:S.par[i]=i
  ·refine byes (by lia) ?_;exact ke _ _ ⟨rfl,by simp only [List.range_succ,List.filter_append];simp [nvs,List.filter_cons,hd,e]⟩
  ·refine bno (by lia) ?_;exact ko _ ⟨rfl,by simp only [List.range_succ,List.filter_append];simp [nvs,List.filter_cons,hd,e]⟩
end
theorem rt_le (ab:List Nat) (a:Nat):rt ab a≤a:=by
 induction a using Nat.strongRecOn with
 | _ a ih=>
  rw [rt_eq];split
  ·rename_i h;exact Nat.le_trans (ih _ h) (Nat.le_of_lt h)
  ·exact Nat.le_refl _
theorem pair_sorted {x y:Nat} {ms:List Nat} (p:ms.Perm [x,y]) (s:ms.Pairwise (·≤·)):ms=[min x y,max x y]:=by
 refine List.Perm.eq_of_pairwise (le:=(·≤·)) (fun _ _ _ _=>Nat.le_antisymm) s (.cons (fun z hz=>List.mem_singleton.mp hz▸y74) (.cons (fun _ h=>nomatch h) .nil)) (p.trans ?_);refine Or.elim (Nat.le_total x y) (fun c=>?_) fun c=>?_
 ·rw [Nat.min_eq_left c,Nat.max_eq_right c]
 ·rw [Nat.min_eq_right c,Nat.max_eq_left c];exact .swap ..
section
variable {B:Bs} {n:Nat} {H:AH}
theorem umerge_spec (Fk:Facts B.K) {R:UR} {S:UN} {L:List (Addr × Cell)} {a b x y:Nat} (hh:Holds H (unCells R S++L)) (ok:UNok R S) (ha:a < S.par.length) (hb:b < S.par.length)
  (hm:S.merged.length≤1000) (hl:∀ lo∈S.lots,lo.length≤1000) (hx:x=min (rt S.par a) (rt S.par b)) (hy:y=max (rt S.par a) (rt S.par b)) {Q:QV}
  (p1:rt S.par a=rt S.par b→∀ H',Holds H' (unCells R S++L)→Q .none H') (p2:rt S.par a≠rt S.par b→∀ H',Holds H' (unCells R (S.merge x y)++L)→Q (.tup [nv x,nv y]) H'):UC B (n+2) (.ref 323) [.ref R.u,nv a,nv b] H Q:=by
 refine UC.fn Fk 19 rfl rfl ?_;have hra:rt S.par a < S.par.length:=Nat.lt_of_le_of_lt (rt_le _ _) ha;have hrb:rt S.par b < S.par.length:=Nat.lt_of_le_of_lt (rt_le _ _) hb;have hxl:x < S.par.length:=by exact y04 (by assumption) (by assumption)
 have hyl:y < S.par.length:=by exact y05 (by assumption) (by assumption) (by assumption)
 have e1:=ok.ls;have e2:=ok.lots;have e3:=ok.small;walk_at "evs";refine find_spec Fk hh ok ha ?_;walk_at "evs";refine find_spec Fk hh ok hb ?_;walk_at "evs";refine fun c hc=>?_;have h1:=hh.new (c:=.list (nvs [rt S.par a,rt S.par b])) hc;walk_at "evs";refine c_sortedNats (l:=[rt S.par a,rt S.par b]) (h1.get 0 rfl) (by simp) fun d ms hd hp hs=>?_;have hms:=pair_sorted hp hs;rw [← hx,← hy] at hms;clear hp hs;subst hms;have h2:=h1.new (c:=.list (nvs [x,y])) hd;walk_at "evs";refine As.list2V (u:=nv x) (v:=nv y) (h2.get 0 rfl) ?_;walk_at "evs";refine u_eqInt ?_;by_cases e:rt S.par a=rt S.par b
 ·refine byes (by lia:(x:Int)=y) ?_;walk_at "evs";exact p1 e _ h2.tail.tail
 ·have hxy:x≠y:=by exact y03 (by assumption) (by assumption) (by assumption)
  refine bno (by lia:¬ (x:Int)=y) ?_;obtain ⟨lx,hlx⟩:∃ la,R.ls[x]? = some la:=⟨_,List.getElem?_eq_getElem (by lia)⟩
  obtain ⟨ly,hly⟩:∃ la,R.ls[y]? = some la:=⟨_,List.getElem?_eq_getElem (by lia)⟩
  obtain ⟨ox,hox⟩:∃ la,S.lots[x]? = some la:=⟨_,List.getElem?_eq_getElem (by lia)⟩
  obtain ⟨oy,hoy⟩:∃ la,S.lots[y]? = some la:=⟨_,List.getElem?_eq_getElem (by lia)⟩
  have h2':Holds _ (unCells R S++L):=h2.tail.tail;walk_at "evs";refine u_listSet (i:=y) (h2'.get 2 rfl) (by simpa using hyl) (by simp;exact Nat.le_trans ‹_› (nbl rfl)) ?_;have h3:=h2'.set (a:=R.aa) (c:=.list ((nvs S.par).set y (nv x))) 2 rfl;have hal:=h3.get (a:=R.al) 3 rfl;walk_at "evs";refine u_listGet (i:=x) hal (v:=.ref lx) (by rw [List.getElem?_map,hlx];rfl) (by simp;lia) ?_;have hcx:=h3.get (a:=lx) (c:=.list (nvs ox)) (x+5) (lotCells_get hlx hox);have hcy:=h3.get (a:=ly) (c:=.list (nvs oy)) (y+5) (lotCells_get hly hoy);walk_at "evs";refine u_listGet (i:=y) hal (v:=.ref ly) (by rw [List.getElem?_map,hly];rfl) (by simp;lia) ?_;walk_at "evs";have q1:=hl ox (List.mem_of_getElem? hox);have q2:=hl oy (List.mem_of_getElem? hoy);refine c_extend hcx hcy (by simp;lia) ?_;have h4:=h3.set (a:=lx) (c:=.list (nvs ox++nvs oy)) (x+5) (lotCells_get hlx hox);have h5:Holds _ ((R.u,_)::(R.du,_)::(R.aa,_)::(R.al,_)::(R.am,.list S.merged)::((lotCells R.ls S.lots++L).set x (lx,.list (nvs ox++nvs oy)))):=h4;walk_at "evs";refine c_append (h5.get 4 rfl) (by exact Nat.le_trans ‹_› (nbl rfl)) ?_;have h6:=h5.set (a:=R.am) (c:=.list (S.merged++[.tup [nv x,nv y]])) 4 rfl;walk_at "evs";refine p2 e _ ?_;have e5:nvs ox++nvs oy=nvs (ox++oy):=by simp [nvs]
  rw [e5,lotCells_set hlx (by lia)] at h6;have e6:(nvs S.par).set y (nv x)=nvs (S.par.set y x):=by simp [nvs,List.map_set]
  simp only [e6] at h6;have e7:S.lots.getD x []=ox:=by simp [hox]
  have e8:S.lots.getD y []=oy:=by simp [hoy]
  simp only [unCells,UN.merge,e7,e8];simp only [e5,e6];exact h6
end
set_option genSizeOf false in
structure Nd where
 op:Str
 kids:List Nat
 deriving DecidableEq
noncomputable def Nd.key (x:Nd):List (Str ⊕ Int):=.inl x.op::x.kids.map fun k:Nat=>(.inr (k:Int):Str ⊕ Int)
noncomputable def Nd.v (x:Nd):V:=.tup (.str x.op::nvs x.kids)
theorem Nd.nodeV (x:Nd):nodeV x.key=x.v:=by
 simp [Mine.nodeV,Nd.key,Nd.v,nvs,atomV,Function.comp_def]
theorem Nd.key_inj {x y:Nd} (h:x.key=y.key):x=y:=by
 obtain ⟨o,k⟩:=x;obtain ⟨o',k'⟩:=y;rw [Nd.key,Nd.key,List.cons.injEq,Sum.inl.injEq] at h;obtain ⟨rfl,h⟩:=h;congr 1;exact (List.map_inj_right (f:=fun k:Nat=>(Sum.inr (k:Int):Str ⊕ Int)) (fun a b e=>by have:=Sum.inr.inj e;lia)).mp h
noncomputable def isOp (op:Str):Prop:=op=ofString "a"∨op=ofString "b"∨op=ofString "f"∨op=ofString "g"
noncomputable def Ext (H H':AH):Prop:=∀ a c,H a=some c→H' a=some c
theorem Ext.refl (H:AH):Ext H H:=fun u1_ u2_ h=>h
theorem Ext.new {H H':AH} {a:Addr} {c:Cell} (h:Ext H H') (f:H' a=none):Ext H (H'.put a c):=fun b d e=>by
 have:=h b d e;rw [AH.put_ne _ _ fun e=>by replace this:=f.symm.trans (e▸this);cases this];exact this
theorem Holds.ext {H H':AH} {L:List (Addr × Cell)} (h:Holds H L) (e:Ext H H'):Holds H' L:=⟨h.1,fun p hp=>e _ _ (h.2 p hp)⟩
section
variable {B:Bs} {n:Nat} {H:AH}
theorem is_op_spec (Fk:Facts B.K) {op:Str} (ho:isOp op) {Q:QV} (q:∀ H',Ext H H'→Q (.bool true) H'):UC B (n+1) (.ref 173) [.str op] H Q:=by
 refine UC.fn Fk 8 rfl rfl ?_;walk_at "evs";refine u_neStr (byes' (by rcases ho with rfl | rfl | rfl | rfl <;> decide) ?_);walk_at "evs";refine Ev.compL Fk ?_;walk_at "evs";refine UI.str (by rcases ho with rfl | rfl | rfl | rfl <;> decide +kernel) ?_;have hs:signs op=[.str op]:=by rcases ho with rfl | rfl | rfl | rfl <;> rfl
 simp only [hs];refine ⟨.mk (by simp) (fun i acc H'=>H'=H∧acc=[]) ⟨rfl,rfl⟩ ?_ ?_⟩
 ·rintro acc H' ⟨rfl,rfl⟩;refine ⟨trivial,fun D hD=>?_⟩;walk_at "evs";refine fun c hc=>?_;have h1:(H'.put D (.list [])) D=some (.list []):=AH.put_self _ _ _;have hne:D≠c:=fun e=>by subst e;rw [h1] at hc;exact z_sn hc
  walk_at "evs";refine u_eqList (vs:=[]) (ws:=[]) ((AH.put_ne _ _ hne).trans h1) (AH.put_self _ _ _) (by decide) rfl rfl ?_;walk_at "evs";exact q _ (((Ext.refl _).new hD).new hc)
 ·clear q hs;rintro i acc v H' Qe Qo hi ⟨rfl,rfl⟩ ke ko;refine ⟨trivial,?_⟩;have:v=.str op:=by
   induction i with
   | zero=>simpa using hi.symm
   | succ i=>simp at hi
  clear hi;subst this;walk_at "evs";refine A.bm m_isspace ?_;walk_at "evs";refine c_isspace (bno' (by rcases ho with rfl | rfl | rfl | rfl <;> decide +kernel) ?_);walk_at "evs";refine u_inStr (bno' (by rcases ho with rfl | rfl | rfl | rfl <;> decide +kernel) ?_);exact ko _ ⟨rfl,rfl⟩
end
set_option genInjectivity false in
set_option genSizeOf false in
structure BR where
 b:Addr
 db:Addr
 an:Addr
 am:Addr
 aw:Addr
 ad:Addr
set_option genInjectivity false in
set_option genSizeOf false in
structure BN where
 nodes:List Nd
 weights:List Int
 depths:List Int
noncomputable def numbersF:Nat→List Nd→List (List (Str ⊕ Int) × V)
 | _,[]=>[]
 | i,x::xs=>(x.key,nv i)::numbersF (i+1) xs
noncomputable def bankCells (R:BR) (S:BN):List (Addr × Cell):=
 [(R.b,.inst .bank R.db),(R.db,.sdict [(ofString "nodes",.ref R.an),(ofString "numbers",.ref R.am),(ofString "weights",.ref R.aw),(ofString "depths",.ref R.ad)]),
  (R.an,.list (S.nodes.map Nd.v)),(R.am,.tdict (numbersF 0 S.nodes)),(R.aw,.list (S.weights.map V.int)),(R.ad,.list (S.depths.map V.int))]
structure BNok (S:BN):Prop where
 w:S.weights.length=S.nodes.length
 d:S.depths.length=S.nodes.length
 small:S.nodes.length≤12
 ops:∀ x∈S.nodes,isOp x.op
 kids:∀ (i:Nat) x,S.nodes[i]? = some x→∀ k∈x.kids,k < i
 few:∀ x∈S.nodes,x.kids.length≤2
 nd:S.nodes.Nodup
theorem numbers_get:∀ {i:Nat} {l:List Nd} {x:Nd},dget (numbersF i l) x.key=if x∈l then some (nv (i+l.idxOf x)) else none:=by
 intro i l x;revert i x;induction l with
 | nil=>
  intro i x;exact rfl
 | cons y l ih_=>
  intro i x;by_cases e:y=x
  ·subst e;simp [numbersF,dget_hit]
  ·simp only [numbersF,dget_ne (fun h=>e (Nd.key_inj h)) rfl,ih_];have e':x≠y:=fun h=>e h.symm;have hidx:(y::l).idxOf x=l.idxOf x+1:=by rw [List.idxOf_cons,show (y == x)=false from beq_eq_false_iff_ne.mpr e];rfl
   simp only [List.mem_cons,e',false_or,hidx];split
   ·rw [show i+1+l.idxOf x=i+(l.idxOf x+1) by lia]
   ·rfl
theorem numbers_len:∀ {i:Nat} {l:List Nd},(numbersF i l).length=l.length
 | i,[]=>rfl
 | i,y::l=>by simp [numbersF,numbers_len]
theorem numbers_app:∀ {i:Nat} {l:List Nd} {x:Nd},numbersF i (l++[x])=numbersF i l++[(x.key,nv (i+l.length))]:=by
 intro i l x;revert i x;induction l with
 | nil=>
  intro i x;exact rfl
 | cons y l ih_=>
  intro i x;rw [List.cons_append,numbersF,ih_,numbersF,List.cons_append,show i+1+l.length=i+(y::l).length by simp only [List.length_cons];lia]
section
variable {B:Bs} {n:Nat} {H:AH}
theorem require_spec (Fk:Facts B.K) {b:V} {op:Str} (ho:isOp op) {Q:QV} (q:∀ H',Ext H H'→Q .none H'):UC B (n+2) (.ref 206) [b,.str op] H Q:=by
 refine UC.fn Fk 12 rfl rfl ?_;walk_at "evs";refine is_op_spec Fk ho fun H' hx=>?_;refine bno' rfl ?_;walk_at "evs";have hg:∃ c,(decide ((0:Int) < -(2 ^ 63:Int)) || decide ((0:Int) ≥ 2 ^ 63))=false∧(seqIndex? 0 op.length).bind (op.cps[·]?)=some c∧op=⟨#[c]⟩∧(op == ofString "?")=false:=by
  rcases ho with rfl | rfl | rfl | rfl
  ·exact ⟨97,by decide +kernel⟩
  ·exact ⟨98,by decide +kernel⟩
  ·exact ⟨102,by decide +kernel⟩
  ·exact ⟨103,by decide +kernel⟩
 refine e1a4 hg fun c hr hc e hq=>?_;refine u_strGet hr hc ?_;simp only [← e];walk_at "evs";refine u_eqStr (bno' hq ?_);walk_at "evs";exact q _ hx
theorem bop_spec (Fk:Facts B.K) {R:BR} {S:BN} {L:List (Addr × Cell)} {i:Nat} {x:Nd} (hh:Holds H (bankCells R S++L)) (ok:BNok S) (hx:S.nodes[i]? = some x) {Q:QV} (q:Q (.str x.op) H):UC B (n+1) (.ref 234) [.ref R.b,nv i] H Q:=by
 refine UC.fn Fk 13 rfl rfl ?_;walk_at "evs";refine u_listGet (i:=i) (v:=x.v) (by walk_at "hg") (by simp [hx]) (by have:=ok.small;simp;exact Nat.le_trans ‹_› (nbl rfl)) ?_;walk_at "evs";refine u_tupGet (i:=0) rfl (by have:=ok.few x (List.mem_of_getElem? hx);simp;exact Nat.le_trans ‹_› (nbl rfl)) ?_;walk_at "evs";exact q
theorem bkids_spec (Fk:Facts B.K) {R:BR} {S:BN} {L:List (Addr × Cell)} {i:Nat} {x:Nd} (hh:Holds H (bankCells R S++L)) (ok:BNok S) (hx:S.nodes[i]? = some x) {Q:QV} (q:Q (.tup (nvs x.kids)) H):UC B (n+1) (.ref 241) [.ref R.b,nv i] H Q:=by
 refine UC.fn Fk 14 rfl rfl ?_;walk_at "evs";refine Ev.from1V Fk ?_;walk_at "evs";refine u_listGet (i:=i) (v:=x.v) (by walk_at "hg") (by simp [hx]) (by have:=ok.small;simp;exact Nat.le_trans ‹_› (nbl rfl)) ?_;walk_at "evs";refine i0a3 (Nat.succ_pos _) (by have:=ok.few x (List.mem_of_getElem? hx);simp;exact Nat.le_trans ‹_› (nbl rfl)) ?_;walk_at "evs";exact q
end
section
variable {B:Bs} {n:Nat} {H:AH}
theorem max_mem {l:List Int} (h:l≠[]):∃ m∈l,∀ x∈l,x≤m:=by
 induction l with
 | nil=>exact absurd rfl h
 | cons a l ih=>
  by_cases e:l=[]
  ·clear ih h;subst e;exact ⟨a,z_m0,by simp⟩
  ·refine e1a2 (ih e) fun m hm hx=>?_;by_cases c:m≤a
   ·exact ⟨a,z_m0,fun x hx'=>by clear h;rcases List.mem_cons.mp hx' with rfl | h';exact Int.le_refl _;exact Int.le_trans (hx x h') c⟩
   ·exact ⟨m,by simp [hm],fun x hx'=>by clear h;rcases List.mem_cons.mp hx' with rfl | h';lia;exact hx x h'⟩
theorem u_nodeIn {x:Nd} {a:Addr} {kvs:List (List (Str ⊕ Int) × V)} {Q:QV} (ha:H a=some (.tdict kvs)) (q:Q (.bool (dget kvs x.key).isSome) H):U2 B n (compareOp .In) x.v (.ref a) H Q:=x.nodeV▸u_tdictIn ha q
theorem u_nodeGet {x:Nd} {a:Addr} {v:V} {kvs:List (List (Str ⊕ Int) × V)} {Q:QV} (ha:H a=some (.tdict kvs)) (hv:dget kvs x.key=some v) (q:Q v H):U2 B n getItem (.ref a) x.v H Q:=x.nodeV▸u_tdictGet ha hv q
theorem u_nodeSet {x:Nd} {a:Addr} {v:V} {kvs:List (List (Str ⊕ Int) × V)} {Q:AH→Prop} (ha:H a=some (.tdict kvs)) (hz:kvs.length≤100000) (q:Q (H.put a (.tdict (dput kvs x.key v)))):US3 B n setItem (.ref a) x.v v H Q:=x.nodeV▸u_tdictSet ha hz q
theorem pure_kids {α:Type} {kids:List Nat} {g:Nat→α} {T:α→V} {i:Nat} {v:V} (hi:(nvs kids)[i]? = some v):∃ k,k∈kids∧v=nv k∧((kids.map g).map T)[i]? = some (T (g k)):=by
 refine e1a2 (nvs_get? hi) fun k hk z1=>?_;clear hi;subst z1;exact ⟨k,List.mem_of_getElem? hk,rfl,by rw [List.getElem?_map,List.getElem?_map,hk];rfl⟩
theorem take_spec (Fk:Facts B.K) {R:BR} {S:BN} {L:List (Addr × Cell)} {op:Str} {kids:List Nat} (hh:Holds H (bankCells R S++L)) (ok:BNok S) (ho:isOp op) (hk:∀ k∈kids,k < S.nodes.length) (hf:kids.length≤2) (hs:S.nodes.length < 12) {Q:QV}
  (q1:(⟨op,kids⟩:Nd)∈S.nodes→Q (nv (S.nodes.idxOf ⟨op,kids⟩)) H) (q2:(⟨op,kids⟩:Nd) ∉ S.nodes→∀ w d H',Holds H' (bankCells R ⟨S.nodes++[⟨op,kids⟩],S.weights++[w],S.depths++[d]⟩++L)→Q (nv S.nodes.length) H'):UC B (n+3) (.ref 199) [.ref R.b,.str op,.tup (nvs kids)] H Q:=by
 have hz:(nvs kids).length≤100000:=by rw [List.length_map];exact Nat.le_trans ‹_› (nbl rfl)
 have hn:(S.nodes.map Nd.v).length≤100000:=by rw [List.length_map];lia
 refine UC.fn Fk 11 rfl rfl ?_;walk_at "evs";refine c_tupleTup ?_;walk_at "evs";refine u_tupAdd (by rw [List.length_map,List.length_singleton];lia) ?_;walk_at "evs";refine u_nodeIn (x:=⟨op,kids⟩) (by walk_at "hg") ?_;rw [numbers_get];by_cases hm:(⟨op,kids⟩:Nd)∈S.nodes
 ·rw [if_pos hm];refine byes' rfl ?_;walk_at "evs";refine u_nodeGet (x:=⟨op,kids⟩) (by walk_at "hg") (numbers_get.trans (if_pos hm)) ?_;walk_at "evs";rw [Nat.zero_add];exact q1 hm
 ·rw [if_neg hm];refine bno' rfl ?_;walk_at "evs";refine require_spec Fk ho fun H1 hE=>?_;have h1:=hh.ext hE;clear hE hh;walk_at "evs";refine Ex.forL Fk ?_;walk_at "evs";refine Ev.from1V Fk ?_;walk_at "evs";refine ⟨Nat.succ_pos _,Nat.succ_le_of_lt (Nat.lt_of_le_of_lt (Nat.le_of_eq (List.length_map ..)) (by lia)),?_⟩;walk_at "evs";refine UI.tup ⟨.fix [(ofString "node",V.tup ([V.str op]++nvs kids)),(ofString "self",.ref R.b),(ofString "op",.str op),(ofString "kids",.tup (nvs kids))] rfl (fun i H'=>H'=H1) rfl ?_ ?_⟩
  ·rintro u1_ rfl;refine ⟨trivial,?_⟩;walk_at "evs";refine c_lenList (by walk_at "hg") hn ?_;walk_at "evs";refine u_nodeSet (x:=⟨op,kids⟩) (by walk_at "hg") (by rw [numbers_len];lia) ?_;rw [dput_new (by rw [numbers_get,if_neg hm])];have h2:Holds _ _:=h1.set (a:=R.am) (c:=.tdict (numbersF 0 S.nodes++[((⟨op,kids⟩:Nd).key,V.int (S.nodes.map Nd.v).length)])) 3 rfl;clear h1;walk_at "evs";refine c_append (by walk_at "hg") hn ?_;have h3:=h2.set (a:=R.an) (c:=.list (S.nodes.map Nd.v++[(⟨op,kids⟩:Nd).v])) 2 rfl;clear h2;walk_at "evs";refine Ev.compL Fk ?_;walk_at "evs";refine Ev.from1V Fk ?_;walk_at "evs";refine ⟨Nat.succ_pos _,Nat.succ_le_of_lt (Nat.lt_of_le_of_lt (Nat.le_of_eq (List.length_map ..)) (by lia)),?_⟩;walk_at "evs";refine UI.tup ⟨.pure hz trivial ((kids.map fun k=>S.weights.getD k 0).map V.int) (by simp) (fun i v Qe hi=>?_) fun D hD=>?_⟩
   ·refine e1a3 (pure_kids (g:=fun k=>S.weights.getD k 0) (T:=V.int) hi) fun k hkm z5 e=>?_;clear hi;subst z5;refine ⟨_,e,fun ke=>?_⟩;walk_at "evs";refine u_listGet (v:=.int (S.weights.getD k 0)) (by walk_at "hg") (by rw [List.getElem?_map];simp [ok.w,hk k hkm]) (by rw [List.length_map,ok.w];lia) ?_;walk_at "evs";exact ke
   have h4:=h3.new (c:=.list ((kids.map fun k=>S.weights.getD k 0).map V.int)) hD;clear h3;walk_at "evs";refine c_sum (h4.get 0 rfl) ?_;generalize (kids.map fun k=>S.weights.getD k 0).sum=w;walk_at "evs";refine u_add ?_;walk_at "evs";refine c_append (by walk_at "hg") (by rw [List.length_map,ok.w];lia) ?_;have h5:=(h4.set (a:=R.aw) (c:=.list (S.weights.map V.int++[V.int (1+w)])) 5 rfl).tail;clear h4;walk_at "evs";refine Ev.compL Fk ?_;walk_at "evs";refine Ev.from1V Fk ?_;walk_at "evs";refine ⟨Nat.succ_pos _,Nat.succ_le_of_lt (Nat.lt_of_le_of_lt (Nat.le_of_eq (List.length_map ..)) (by lia)),?_⟩;walk_at "evs";refine UI.tup ⟨.pure hz trivial ((kids.map fun k=>S.depths.getD k 0).map V.int) (by simp) (fun i v Qe hi=>?_) fun D2 hD2=>?_⟩
   ·refine e1a3 (pure_kids (g:=fun k=>S.depths.getD k 0) (T:=V.int) hi) fun k hkm z3 e=>?_;clear hi;subst z3;refine ⟨_,e,fun ke=>?_⟩;walk_at "evs";refine u_listGet (v:=.int (S.depths.getD k 0)) (h5.get (a:=R.ad) 5 rfl) (by rw [List.getElem?_map];simp [ok.d,hk k hkm]) (by rw [List.length_map,ok.d];lia) ?_;walk_at "evs";exact ke
   have h6:=h5.new (c:=.list ((kids.map fun k=>S.depths.getD k 0).map V.int)) hD2;clear h5;walk_at "evs";refine fun c hc=>?_;have h7:=h6.new (c:=.list [.int 0]) hc;walk_at "evs";refine u_addList (h7.get 1 rfl) (h7.get 0 rfl) (by simp;exact Nat.le_trans ‹_› (nbl rfl)) fun d hd=>?_;have h8:=(h7.new (c:=.list ((kids.map fun k=>S.depths.getD k 0).map V.int++[V.int 0])) hd)
   refine e1a2 (max_mem (l:=(kids.map fun k=>S.depths.getD k 0)++[0]) (by simp)) fun m hm1 hm2=>?_;walk_at "evs";refine c_maxList (ns:=(kids.map fun k=>S.depths.getD k 0)++[0]) (m:=m) (by rw [AH.put_self];simp) hm1 hm2 ?_;walk_at "evs";refine u_add ?_;have h9:=h8.tail.tail.tail.to (L':=bankCells R ⟨S.nodes++[⟨op,kids⟩],S.weights++[1+w],S.depths⟩++L) (by
    simp only [bankCells,numbers_app,List.map_append,List.length_map,Nat.zero_add];rfl)
   clear h8 h7 h6;walk_at "evs";refine c_append (by walk_at "hg") (by rw [List.length_map,ok.d];lia) ?_;have h10:=h9.set (a:=R.ad) (c:=.list (S.depths.map V.int++[V.int (1+m)])) 5 rfl;walk_at "evs";refine c_lenList (h10.get (a:=R.an) 2 rfl) (by simp;refine Nat.le_of_lt (Nat.lt_of_lt_of_le ‹_› ?_);exact nbl rfl) ?_;walk_at "evs";refine u_sub ?_;walk_at "evs";rw [show (((S.nodes++[(⟨op,kids⟩:Nd)]).map Nd.v).length:Int) - 1=S.nodes.length by simp];refine q2 hm (1+w) (1+m) _ ?_;exact h10.to (by simp only [bankCells,List.map_append];rfl)
  ·rintro i v u2_ Qt hi rfl kn;refine ⟨trivial,?_⟩;refine e1a2 (nvs_get? hi) fun k hki z2=>?_;clear hi;subst z2;have hkl:=hk k (List.mem_of_getElem? hki);walk_at "evs";refine u_le (byes (by simp) ?_);walk_at "evs";refine c_lenList (by walk_at "hg") hn ?_;walk_at "evs";refine u_lt ?_;rw [List.length_map,decide_eq_true (by lia)];refine bno' rfl ?_;walk_at "evs";exact kn _ _ rfl rfl
end
set_option genInjectivity false in
set_option genSizeOf false in
structure Ent where
 k:Nat
 a:Addr
 l:List Nat
set_option genInjectivity false in
set_option genSizeOf false in
structure HR where
 h:Addr
 dh:Addr
 ae:Addr
 af:Addr
 ak:Addr
 au:Addr
 aw:Addr
 B:BR
 U:UR
set_option genInjectivity false in
set_option genSizeOf false in
structure HS where
 bank:BN
 un:UN
 edges:List V
 forest:List V
 known:List (Nd × Nat)
 users:List Ent
 waiting:List Nat
noncomputable def knF (l:List (Nd × Nat)):List (List (Str ⊕ Int) × V):=l.map fun p=>(p.1.key,nv p.2)
noncomputable def knGet (l:List (Nd × Nat)) (x:Nd):Option Nat:=(l.find? fun p=>decide (p.1=x)).map (·.2)
noncomputable def entF (l:List Ent):List (Int × V):=l.map fun e=>((e.k:Int),V.ref e.a)
noncomputable def entCells (l:List Ent):List (Addr × Cell):=l.map fun e=>(e.a,.list (nvs e.l))
noncomputable def hfix (R:HR) (edges forest:List V) (known:List (Nd × Nat)) (D:List (Int × V)) (waiting:List Nat):List (Addr × Cell):=
 [(R.h,.inst .heap R.dh),
  (R.dh,.sdict [(ofString "bank",.ref R.B.b),(ofString "unions",.ref R.U.u),(ofString "edges",.ref R.ae),(ofString "forest",.ref R.af),(ofString "known",.ref R.ak),(ofString "above",.ref R.au),(ofString "waiting",.ref R.aw)]),
  (R.ae,.list edges),(R.af,.list forest),(R.ak,.tdict (knF known)),(R.au,.idict D),(R.aw,.list (nvs waiting))]
noncomputable def heapFixed (R:HR) (S:HS):List (Addr × Cell):=hfix R S.edges S.forest S.known (entF S.users) S.waiting
noncomputable def heapIn (R:HR) (S:HS) (L:List (Addr × Cell)):List (Addr × Cell):=heapFixed R S++(bankCells R.B S.bank++(unCells R.U S.un++(entCells S.users++L)))
theorem knGet_eq:∀ {l:List (Nd × Nat)} {x:Nd},dget (knF l) x.key=(knGet l x).map nv:=by
 intro l;induction l with
 | nil=>
  intro x;exact rfl
 | cons p l ih_=>
  intro x;have ih:=ih_ (x:=x);by_cases e:p.1=x
  ·clear ih;subst e;simp [knF,knGet,dget_hit]
  ·simp only [knF,List.map_cons,dget_ne (fun h=>e (Nd.key_inj h)) rfl];rw [knF] at ih;refine ih.trans ?_;simp [knGet,e]
section
variable {B:Bs} {n:Nat} {H:AH} {R:HR} {S:HS} {L:List (Addr × Cell)}
theorem heap_bank (h:Holds H (heapIn R S L)):Holds H (bankCells R.B S.bank++(unCells R.U S.un++(entCells S.users++L))):=h.right
theorem heap_un (h:Holds H (heapIn R S L)):Holds H (unCells R.U S.un++(entCells S.users++L)):=h.right.right
theorem heap_ent (h:Holds H (heapIn R S L)):Holds H (entCells S.users++L):=h.right.right.right
theorem hfind_spec (Fk:Facts B.K) {a:Nat} (hh:Holds H (heapIn R S L)) (ok:UNok R.U S.un) (ha:a < S.un.par.length) {Q:QV} (q:Q (nv (rt S.un.par a)) H):UC B (n+2) (.ref 415) [.ref R.h,nv a] H Q:=by
 refine UC.fn Fk 26 rfl rfl ?_;walk_at "evs";refine find_spec Fk (heap_un hh) ok ha ?_;walk_at "evs";exact q
noncomputable def canon (par:List Nat) (x:Nd):Nd:=⟨x.op,x.kids.map (rt par)⟩
theorem node_spec (Fk:Facts B.K) {a:Nat} {x:Nd} (hh:Holds H (heapIn R S L)) (bk:BNok S.bank) (ok:UNok R.U S.un) (hx:S.bank.nodes[a]? = some x) (hlen:S.bank.nodes.length≤S.un.par.length) {Q:QV}
  (q:∀ H',Ext H H'→Q (canon S.un.par x).v H'):UC B (n+3) (.ref 389) [.ref R.h,nv a] H Q:=by
 refine UC.fn Fk 23 rfl rfl ?_;have hk:=bk.few x (List.mem_of_getElem? hx);have hz:(nvs x.kids).length≤100000:=by simp only [List.length_map];lia
 have ha:=(List.getElem?_eq_some_iff.mp hx).1;walk_at "evs";refine bop_spec Fk (heap_bank hh) bk hx ?_;walk_at "evs";refine Ev.compL Fk ?_;walk_at "evs";refine bkids_spec Fk (heap_bank hh) bk hx ?_;walk_at "evs";refine UI.tup ⟨.pure hz trivial (nvs (x.kids.map (rt S.un.par))) (by simp) (fun i v Qe hi=>?_) fun D hD=>?_⟩
 ·refine e1a3 (pure_kids (g:=rt S.un.par) (T:=nv) hi) fun k hkm z1 e=>?_;clear hi;subst z1;refine i1a2 _ e (fun ke=>?_);have hkk:=bk.kids a x hx k hkm;walk_at "evs";refine hfind_spec Fk hh ok (by lia) ?_;walk_at "evs";exact ke
 walk_at "evs";refine c_tupleList (AH.put_self _ _ _) (by simp;lia) ?_;walk_at "evs";refine u_tupAdd (by simp;lia) ?_;walk_at "evs";exact q _ ((Ext.refl _).new hD)
end
theorem rt_rt (ab:List Nat) (a:Nat):rt ab (rt ab a)=rt ab a:=by
 induction a using Nat.strongRecOn with
 | _ a ih=>
  refine rt_eq ab a▸?_;split
  ·rename_i h;exact ih _ h
  ·rename_i h;rw [rt_eq,if_neg h]
noncomputable def entL (es:List Ent) (k:Nat):List Nat:=((es.find? fun e=>decide (e.k=k)).map (·.l)).getD []
noncomputable def entDel (es:List Ent) (k:Nat):List Ent:=es.filter fun e=>decide (e.k≠k)
noncomputable def entPut (es:List Ent) (f:Ent):List Ent:=es.map fun e=>if e.k=f.k then f else e
theorem split_k {es p q:List Ent} {e:Ent} (h:es=p++e::q) (nd:(es.map (·.k)).Nodup):(∀ x∈p,x.k≠e.k)∧∀ x∈q,x.k≠e.k:=by
 subst h;rw [List.map_append,List.map_cons,List.nodup_append] at nd;refine e0a3 nd fun u1_ h2 h3=>?_;replace h2:=List.nodup_cons.mp h2;exact ⟨fun x hx e'=>h3 _ (List.mem_map_of_mem hx) _ (List.mem_cons_self) e',fun x hx e'=>h2.1 (e'▸List.mem_map_of_mem (f:=(·.k)) hx)⟩
theorem entL_split {es p q:List Ent} {e:Ent} (h:es=p++e::q) (nd:(es.map (·.k)).Nodup):entL es e.k=e.l:=by
 refine e0a2 (split_k h nd) fun h1 u1_=>?_;clear nd;subst h;rw [entL,List.find?_append,List.find?_eq_none.mpr (fun x hx=>by simpa using h1 x hx)];simp
theorem entDel_split {es p q:List Ent} {e:Ent} (h:es=p++e::q) (nd:(es.map (·.k)).Nodup):entDel es e.k=p++q:=by
 refine e0a2 (split_k h nd) fun h1 h2=>?_;clear nd;subst h;simp only [entDel,List.filter_append,List.filter_cons];rw [List.filter_eq_self.mpr (fun x hx=>by simpa using h1 x hx),List.filter_eq_self.mpr (fun x hx=>by simpa using h2 x hx)];simp
theorem entPut_split {es p q:List Ent} {e f:Ent} (h:es=p++e::q) (nd:(es.map (·.k)).Nodup) (hf:f.k=e.k):entPut es f=p++f::q:=by
 refine e0a2 (split_k h nd) fun h1 h2=>?_;clear nd;subst h;simp only [entPut,List.map_append,List.map_cons,hf,if_pos rfl];congr 1
 ·exact (List.map_congr_left fun x hx=>if_neg (h1 x hx)).trans (List.map_id' p)
 ·congr 1;exact (List.map_congr_left fun x hx=>if_neg (h2 x hx)).trans (List.map_id' q)
theorem ent_dget {es p q:List Ent} {e:Ent} (h:es=p++e::q) (nd:(es.map (·.k)).Nodup):dget (entF es) (e.k:Int)=some (.ref e.a):=by
 refine e0a2 (split_k h nd) fun h1 u1_=>?_;clear nd;subst h;rw [dget,entF,List.map_append,List.find?_append,List.find?_eq_none.mpr]
 ·simp
 ·intro x hx;refine e1a2 (List.mem_map.mp hx) fun y hy z1=>?_;clear hx;subst z1;have:=h1 y hy;simp;lia
theorem ent_dput {es p q:List Ent} {e f:Ent} (h:es=p++e::q) (nd:(es.map (·.k)).Nodup) (hf:f.k=e.k):dput (entF es) (e.k:Int) (.ref f.a)=entF (p++f::q):=by
 rw [← entPut_split h nd hf,dput,if_pos]
 ·simp only [entF,entF,entPut,List.map_map,List.map_map];refine List.map_congr_left fun x hx=>?_;simp only [Function.comp_apply];by_cases c:x.k=e.k
  ·rw [if_pos (by lia),if_pos (by exact Eq.trans ‹_› (Eq.symm ‹_›)),c,hf]
  ·rw [if_neg (by lia),if_neg (by lia)]
 ·refine List.any_eq_true.mpr ?_;exact ⟨((e.k:Int),.ref e.a),by refine h▸?_;simp [entF],by simp⟩
theorem ent_split {es:List Ent} {k:Nat} (h:k∈es.map (·.k)):∃ p e q,es=p++e::q∧e.k=k:=by
 refine e1a2 (List.mem_map.mp h) fun e he z3=>?_;clear h;subst z3;refine e2a1 (List.append_of_mem he) fun p q z2=>?_;clear he;subst z2;exact i3a2 p e q rfl rfl
theorem entDel_keys {es:List Ent} {k:Nat}:(entDel es k).map (·.k)=(es.map (·.k)).filter fun j=>decide (j≠k):=by
 simp only [entDel,List.filter_map];rfl
theorem entPut_keys {es:List Ent} {f:Ent}:(entPut es f).map (·.k)=es.map (·.k):=by
 simp only [entPut,List.map_map];refine List.map_congr_left fun x _=>?_;simp only [Function.comp_apply];split
 ·rename_i h;exact h.symm
 ·rfl
theorem perm3 {α:Type} {A B P C:List α}:(A++(B++(P++C))).Perm (P++(A++(B++C))):=
 ((List.perm_append_comm_assoc B P C).append_left A).trans (List.perm_append_comm_assoc A P (B++C))
theorem perm4 {α:Type} {A B D P C:List α}:(A++(B++(D++(P++C)))).Perm (P++(A++(B++(D++C)))):=
 (perm3.append_left A).trans (List.perm_append_comm_assoc A P (B++(D++C)))
theorem un_front {H:AH} {R:HR} {S:HS} {L:List (Addr × Cell)} (h:Holds H (heapIn R S L)):Holds H (unCells R.U S.un++(heapFixed R S++(bankCells R.B S.bank++(entCells S.users++L)))):=h.perm perm3
theorem un_back {H:AH} {R:HR} {S:HS} {U:UN} {L:List (Addr × Cell)} (h:Holds H (unCells R.U U++(heapFixed R S++(bankCells R.B S.bank++(entCells S.users++L))))):Holds H (heapIn R { S with un:=U } L):=h.perm perm3.symm
theorem ent_front {H:AH} {R:HR} {S:HS} {L:List (Addr × Cell)} (h:Holds H (heapIn R S L)):Holds H (entCells S.users++(heapFixed R S++(bankCells R.B S.bank++(unCells R.U S.un++L)))):=h.perm perm4
theorem ent_back {H:AH} {R:HR} {S S':HS} {es:List Ent} {L:List (Addr × Cell)} (h:Holds H (entCells es++(heapFixed R S'++(bankCells R.B S.bank++(unCells R.U S.un++L))))) (e:heapFixed R S'=heapFixed R { S with users:=es }):Holds H (heapIn R { S with users:=es } L):=(e▸h).perm perm4.symm
structure SOK (R:HR) (S:HS):Prop where
 bk:BNok S.bank
 un:UNok R.U S.un
 len:S.bank.nodes.length=S.un.par.length
 keys:(S.users.map (·.k)).Nodup
 roots:∀ k,k < S.un.par.length→rt S.un.par k=k→k∈S.users.map (·.k)
 edges:S.edges.length≤1000
 forest:S.forest.length≤1000
 known:S.known.length≤1000
 users:S.users.length≤1000
 ents:∀ e∈S.users,e.l.length≤1000
 waiting:S.waiting.length≤1000
 merged:S.un.merged.length≤1000
 lots:∀ lo∈S.un.lots,lo.length≤1000
noncomputable def HS.join (S:HS) (x y:Nat) (e f:V) (d:Addr):HS:=
 { S with edges:=S.edges++[e],forest:=S.forest++[f],un:=S.un.merge x y,users:=entPut (entDel S.users y) ⟨x,d,entL S.users x++entL S.users y⟩,waiting:=S.waiting++entL S.users y }
section
variable {B:Bs} {n:Nat} {H:AH} {R:HR} {S:HS} {L:List (Addr × Cell)}
theorem ent_get {es:List Ent} {e:Ent} (nd:(es.map (·.k)).Nodup) (h:e∈es):dget (entF es) (e.k:Int)=some (.ref e.a):=by
 refine e2a1 (List.append_of_mem h) fun p q e'=>?_;exact ent_dget e' nd
theorem entL_get {es:List Ent} {e:Ent} (nd:(es.map (·.k)).Nodup) (h:e∈es):entL es e.k=e.l:=by
 refine e2a1 (List.append_of_mem h) fun p q e'=>?_;exact entL_split e' nd
theorem ent_del (es:List Ent) (k:Nat):ddel (entF es) (k:Int)=entF (entDel es k):=by
 simp only [ddel,entF,entF,entDel,List.filter_map];congr 1;exact List.filter_congr fun x hx=>by simp;lia
theorem ent_put {es:List Ent} {f:Ent} (h:f.k∈es.map (·.k)) (nd:(es.map (·.k)).Nodup):dput (entF es) (f.k:Int) (.ref f.a)=entF (entPut es f):=by
 refine e3a2 (ent_split h) fun p e q hs he=>?_;simp only [← he,ent_dput hs nd he.symm,entPut_split hs nd he.symm]
theorem ent_cell {es:List Ent} {e:Ent} {H:AH} {L:List (Addr × Cell)} (h:Holds H (entCells es++L)) (he:e∈es):H e.a=some (.list (nvs e.l)):=
 h.mem (List.mem_append_left _ (List.mem_map_of_mem (f:=fun e:Ent=>(e.a,Cell.list (nvs e.l))) he))
theorem ent_del_cells {es:List Ent} {k:Nat} {H:AH} {L:List (Addr × Cell)} (h:Holds H (entCells es++L)):Holds H (entCells (entDel es k)++L):=
 h.sub (List.Sublist.append_right (List.Sublist.map _ List.filter_sublist) _)
theorem ent_put_cells {es:List Ent} {f:Ent} {H:AH} {L:List (Addr × Cell)} (hk:f.k∈es.map (·.k)) (nd:(es.map (·.k)).Nodup) (h:Holds H ((f.a,.list (nvs f.l))::(entCells es++L))):Holds H (entCells (entPut es f)++L):=by
 refine e3a2 (ent_split hk) fun p e q hs he=>?_;refine entPut_split hs nd he.symm▸?_;clear hk nd;subst hs;refine (h.sub (L':=(f.a,.list (nvs f.l))::(entCells (p++q)++L)) ?_).perm ?_
 ·exact ((List.Sublist.append_right (List.Sublist.map _ (List.Sublist.append_left (List.sublist_cons_self e q) p)) _).cons₂ _)
 ·simp only [entCells,List.map_append,List.map_cons,List.append_assoc,List.cons_append];exact List.perm_middle.symm
structure JoinE (par:List Nat) (es:List Ent) (x y:Nat) (ex ey:Ent):Prop where
 hx:ex∈es
 hy:ey∈es
 kx:ex.k=x
 ky:ey.k=y
 dx:dget (entF es) (x:Int)=some (.ref ex.a)
 dy:dget (entF es) (y:Int)=some (.ref ey.a)
 lx:entL es x=ex.l
 ly:entL es y=ey.l
 kin:x∈(entDel es y).map (·.k)
 nd:((entDel es y).map (·.k)).Nodup
theorem SOK.joinE {R:HR} {S:HS} {a b x y:Nat} (ok:SOK R S) (ha:a < S.un.par.length) (hb:b < S.un.par.length) (hx:x=min (rt S.un.par a) (rt S.un.par b)) (hy:y=max (rt S.un.par a) (rt S.un.par b)) (e:rt S.un.par a≠rt S.un.par b):∃ ex ey,JoinE S.un.par S.users x y ex ey:=by
 have hra:rt S.un.par a < S.un.par.length:=Nat.lt_of_le_of_lt (rt_le _ _) ha;have hrb:rt S.un.par b < S.un.par.length:=Nat.lt_of_le_of_lt (rt_le _ _) hb;have nd:=ok.keys;have key:∀ z,z=rt S.un.par a∨z=rt S.un.par b→∃ e∈S.users,e.k=z:=fun z hz=>by
  refine e1a2 (List.mem_map.mp (ok.roots z (hz.elim (fun e=>e▸hra) fun e=>e▸hrb) (by rcases hz with rfl | rfl <;> exact rt_rt _ _))) fun e he hk=>?_;exact i1a2 e he hk
 refine e1a2 (key x (by rw [hx];exact y88)) fun ex h1 z5=>?_;subst z5;refine e1a2 (key y (by rw [hy];exact y87)) fun ey h2 z4=>?_;subst z4;exact ⟨ex,ey,h1,h2,rfl,rfl,ent_get nd h1,ent_get nd h2,entL_get nd h1,entL_get nd h2,by rw [entDel_keys];exact List.mem_filter.mpr ⟨List.mem_map_of_mem h1,decide_eq_true (by exact y03 (by assumption) (by assumption) (by assumption))⟩,by rw [entDel_keys];exact nd.filter _⟩
theorem join_spec (Fk:Facts B.K) {a b x y:Nat} {reason:V} (hh:Holds H (heapIn R S L)) (ok:SOK R S) (ha:a < S.un.par.length) (hb:b < S.un.par.length) (hx:x=min (rt S.un.par a) (rt S.un.par b)) (hy:y=max (rt S.un.par a) (rt S.un.par b)) {Q:QV}
  (q1:rt S.un.par a=rt S.un.par b→∀ e H',Holds H' (heapIn R { S with edges:=S.edges++[e] } L)→Q (.bool false) H') (q2:rt S.un.par a≠rt S.un.par b→∀ e f d H',Holds H' (heapIn R (S.join x y e f d) L)→Q (.bool true) H'):UC B (n+3) (.ref 436) [.ref R.h,nv a,nv b,reason] H Q:=by
 refine UC.fn Fk 28 rfl rfl ?_;have o1:=ok.edges;walk_at "evs";refine c_append (hh.get 2 rfl) (by exact Nat.le_trans ‹_› (nbl rfl)) ?_;generalize hE:V.tup [nv a,nv b,reason]=E;have h1:Holds _ (heapIn R { S with edges:=S.edges++[E] } L):=hh.set (a:=R.ae) (c:=.list (S.edges++[E])) 2 rfl;clear hh hE;walk_at "evs";refine umerge_spec Fk (un_front h1) ok.un ha hb ok.merged ok.lots hx hy (fun e H1 h2=>?_) fun e H1 h2=>?_
 ·walk_at "evs";refine u_is (byes' rfl ?_);walk_at "evs";exact q1 e _ _ (un_back h2)
 ·refine e2a1 (ok.joinE ha hb hx hy e) fun ex ey j=>?_;have lx:=ok.ents _ j.hx;have ly:=ok.ents _ j.hy;have h3:Holds H1 (heapIn R { S with edges:=S.edges++[E],un:=S.un.merge x y } L):=un_back h2;clear h1 h2;walk_at "evs";refine u_is (bno' rfl ?_);walk_at "evs";refine c_lenList (h3.get 2 rfl) (by simp;exact Nat.le_trans ‹_› (nbl rfl)) ?_;walk_at "evs";refine u_sub ?_;walk_at "evs";refine c_append (h3.get 3 rfl) (Nat.le_trans ok.forest (by decide)) ?_;generalize V.int (_ - 1)=f;have h4:Holds _ (heapIn R { S with edges:=S.edges++[E],forest:=S.forest++[f],un:=S.un.merge x y } L):=h3.set (a:=R.af) (c:=.list (S.forest++[f])) 3 rfl;clear h3;walk_at "evs";refine u_idictGet (h4.get 5 rfl) j.dy ?_;walk_at "evs";refine c_extend (h4.get 6 rfl) (ent_cell h4.right.right.right j.hy) (by have:=ok.waiting;simp;lia) ?_;rw [show nvs S.waiting++nvs ey.l=nvs (S.waiting++ey.l) from List.map_append.symm];have h5:Holds _ (heapIn R { S with edges:=S.edges++[E],forest:=S.forest++[f],un:=S.un.merge x y,waiting:=S.waiting++ey.l } L):=h4.set (a:=R.aw) (c:=.list (nvs (S.waiting++ey.l))) 6 rfl;clear h4;walk_at "evs";refine u_idictGet (h5.get 5 rfl) j.dx ?_;walk_at "evs";refine c_idictPop (h5.get 5 rfl) (by have:=ok.users;simp [entF];exact Nat.le_trans ‹_› (nbl rfl)) j.dy ?_;simp only [ent_del];have h6:Holds _ (hfix R (S.edges++[E]) (S.forest++[f]) S.known (entF (entDel S.users y)) (S.waiting++ey.l)++(bankCells R.B S.bank++(unCells R.U (S.un.merge x y)++(entCells S.users++L)))):=h5.set (a:=R.au) (c:=.idict (entF (entDel S.users y))) 5 rfl;clear h5;walk_at "evs";refine u_addList (ent_cell h6.right.right.right j.hx) (ent_cell h6.right.right.right j.hy) (by simp;lia) fun d hd=>?_;rw [show nvs ex.l++nvs ey.l=nvs (ex.l++ey.l) from List.map_append.symm];have h7:=h6.new (c:=.list (nvs (ex.l++ey.l))) hd;clear h6;walk_at "evs";refine u_idictSet (h7.get 6 rfl) (by have:=ok.users;have:=List.length_filter_le (fun e:Ent=>decide (e.k≠y)) S.users;simp only [entF,List.length_map,entDel];lia) ?_;simp only [ent_put (f:=⟨x,d,ex.l++ey.l⟩) j.kin j.nd];have h8:=(h7.set (a:=R.au) (c:=.idict (entF (entPut (entDel S.users y) ⟨x,d,ex.l++ey.l⟩))) 6 rfl).perm (L':=entCells S.users++((d,Cell.list (nvs (ex.l++ey.l)))::(hfix R (S.edges++[E]) (S.forest++[f]) S.known (entF (entPut (entDel S.users y) ⟨x,d,ex.l++ey.l⟩)) (S.waiting++ey.l)++(bankCells R.B S.bank++(unCells R.U (S.un.merge x y)++L))))) (((perm4 (A:=hfix ..)).cons _).trans List.perm_middle.symm);clear h7;walk_at "evs";refine q2 e E f d _ ?_;simp only [HS.join,j.lx,j.ly];exact ent_back (S:={ S with edges:=S.edges++[E],forest:=S.forest++[f],un:=S.un.merge x y,waiting:=S.waiting++ey.l }) (ent_put_cells j.kin j.nd ((ent_del_cells h8).perm List.perm_middle)) rfl
end
inductive Looked (R:HR) (S:HS) (n:Nat) (x:Nd):HS→Prop where
 | new (h:knGet S.known (canon S.un.par x)=none):Looked R S n x { S with known:=S.known++[(canon S.un.par x,n)] }
 | same {m:Nat} (h:knGet S.known (canon S.un.par x)=some m) (e:rt S.un.par m=rt S.un.par n):Looked R S n x S
 | join {m:Nat} (h:knGet S.known (canon S.un.par x)=some m) (e:rt S.un.par m≠rt S.un.par n) (e1 f:V) (d:Addr):Looked R S n x (S.join (min (rt S.un.par m) (rt S.un.par n)) (max (rt S.un.par m) (rt S.un.par n)) e1 f d)
section
variable {B:Bs} {n:Nat} {H:AH} {R:HR} {S:HS} {L:List (Addr × Cell)}
theorem kn_lt {l:List (Nd × Nat)} {x:Nd} {m k:Nat} (h:knGet l x=some m) (hk:∀ p∈l,p.2 < k):m < k:=by
 rw [knGet,Option.map_eq_some_iff] at h;obtain ⟨p,hp,rfl⟩:=h;exact hk p (List.mem_of_find?_eq_some hp)
theorem look_spec (Fk:Facts B.K) {a:Nat} {x:Nd} (hh:Holds H (heapIn R S L)) (ok:SOK R S) (hx:S.bank.nodes[a]? = some x) (hkn:∀ p∈S.known,p.2 < S.un.par.length) (hk5:S.known.length≤900) {Q:QV}
  (q:∀ S' H',Looked R S a x S'→Holds H' (heapIn R S' L)→Q .none H'):UC B (n+4) (.ref 408) [.ref R.h,nv a] H Q:=by
 refine UC.fn Fk 25 rfl rfl ?_;have ha:a < S.un.par.length:=ok.len▸(List.getElem?_eq_some_iff.mp hx).1;walk_at "evs";refine node_spec Fk hh ok.bk ok.un hx (Nat.le_of_eq ok.len) fun H1 hE=>?_;have h1:=hh.ext hE;clear hE hh;walk_at "evs";rw [← Nd.nodeV];refine c_tdictSetdefault (h1.get 4 rfl) (by simp only [knF,List.length_map];exact Nat.le_trans ‹_› (nbl rfl)) ?_;refine knGet_eq▸?_;induction hg:knGet S.known (canon S.un.par x) with
 | none=>
  simp only [Option.map_none];rw [show knF S.known++[((canon S.un.par x).key,nv a)]=knF (S.known++[(canon S.un.par x,a)]) by simp [knF]];have h2:Holds _ (heapIn R { S with known:=S.known++[(canon S.un.par x,a)] } L):=h1.set (a:=R.ak) (c:=.tdict (knF (S.known++[(canon S.un.par x,a)]))) 4 rfl;clear h1;walk_at "evs";refine hfind_spec Fk h2 ok.un ha ?_;walk_at "evs";refine hfind_spec Fk h2 ok.un ha ?_;walk_at "evs";refine u_neInt (bno (by simp) ?_);walk_at "evs";exact q _ _ (.new hg) h2
 | some m=>
  simp only [Option.map_some];have hm:=kn_lt hg hkn;walk_at "evs";refine hfind_spec Fk h1 ok.un hm ?_;walk_at "evs";refine hfind_spec Fk h1 ok.un ha ?_;walk_at "evs";refine u_neInt ?_;by_cases e:rt S.un.par m=rt S.un.par a
  ·refine bno (by lia) ?_;walk_at "evs";exact q _ _ (.same hg e) h1
  ·refine byes (by lia) ?_;walk_at "evs";refine join_spec Fk h1 ok hm ha rfl rfl (fun h=>absurd h e) fun u1_ e1 f d H' h2=>?_;walk_at "evs";exact q _ _ (.join hg e e1 f d) h2
end
section
variable {B:Bs} {n:Nat} {H:AH} {R:HR} {S:HS} {L:List (Addr × Cell)}
theorem hmerge_spec (Fk:Facts B.K) {a b x y:Nat} {reason:V} (hh:Holds H (heapIn R S L)) (ok:SOK R S) (ha:a < S.un.par.length) (hb:b < S.un.par.length) (hx:x=min (rt S.un.par a) (rt S.un.par b)) (hy:y=max (rt S.un.par a) (rt S.un.par b)) {Q:QV}
  (q1:rt S.un.par a=rt S.un.par b→∀ e H',Holds H' (heapIn R { S with edges:=S.edges++[e] } L)→Q (.bool false) H') (q2:rt S.un.par a≠rt S.un.par b→∀ e f d H',Holds H' (heapIn R (S.join x y e f d) L)→Q (.bool true) H'):UC B (n+4) (.ref 429) [.ref R.h,nv a,nv b,reason] H Q:=by
 refine UC.fn Fk 27 rfl rfl ?_;walk_at "evs";exact join_spec Fk hh ok ha hb hx hy (fun e f H' h=>⟨q1 e f H' h⟩) fun e f g d H' h=>⟨q2 e f g d H' h⟩
structure Turn (R:HR) (I:HS→Prop) (μ:HS→Nat) (S:HS):Prop where
 ok:SOK R S
 kn:∀ p∈S.known,p.2 < S.un.par.length
 few:S.known.length≤900
 next:∀ w a,S.waiting=w++[a]→∃ x,S.bank.nodes[a]? = some x∧∀ S',Looked R { S with waiting:=w } a x S'→I S'∧μ S' < μ S
theorem hsettle_spec (Fk:Facts B.K) (I:HS→Prop) (μ:HS→Nat) (hI:∀ S,I S→Turn R I μ S) (i0:I S) (hh:Holds H (heapIn R S L)) {Q:QV} (q:∀ S' H',I S'→S'.waiting=[]→Holds H' (heapIn R S' L)→Q .none H'):UC B (n+5) (.ref 443) [.ref R.h] H Q:=by
 refine UC.fn Fk 29 rfl rfl ?_;walk_at "evs";refine Ex.whileL Fk (fun k ρ H'=>ρ=[(ofString "self",.ref R.h)]∧∃ S',I S'∧μ S'=k∧Holds H' (heapIn R S' L)) (μ S) ⟨_,.refl,rfl,S,i0,rfl,hh⟩ ?_;clear hh;intro u1_ u2_ H' Qt z4;refine e0a2 z4 fun z5 z6=>?_;clear z4;subst z5;refine e1a3 z6 fun S' i1 z7 hh=>?_;clear z6;subst z7;intro kn;have T:=hI S' i1;have ow:=T.ok.waiting;walk_at "evs";refine c_lenList (hh.get 6 rfl) (by simp;exact Nat.le_trans ‹_› (nbl rfl)) ?_;walk_at "evs";refine u_gt ?_;rcases List.eq_nil_or_concat S'.waiting with e | ⟨w,a,e⟩
 ·refine bno (by simp [e]) ?_;walk_at "evs";exact q S' _ i1 e hh
 ·rw [List.concat_eq_append] at e;rw [e,List.length_append] at ow;refine byes (by rw [e];simp) ?_;refine e1a2 (T.next w a e) fun x hx hn=>?_;walk_at "evs";refine c_pop (vs:=nvs w) (v:=nv a) ((hh.get (a:=R.aw) 6 rfl).trans (by rw [e];simp [nvs])) (by rw [List.length_map];lia) ?_;have h1:Holds (AH.put _ R.aw (.list (nvs w))) (heapIn R { S' with waiting:=w } L):=hh.set (a:=R.aw) (c:=.list (nvs w)) 6 rfl;clear hh;walk_at "evs";refine look_spec Fk h1 { T.ok with waiting:=Nat.le_of_add_right_le ow } hx T.kn T.few fun S2 H2 hl h2=>?_;walk_at "evs";exact kn _ _ _ (hn S2 hl).2 ⟨_,.refl,rfl,S2,(hn S2 hl).1,rfl,h2⟩
theorem hclasses_spec (Fk:Facts B.K) (hh:Holds H (heapIn R S L)) (ok:UNok R.U S.un) {Q:QV} (q:∀ c H',Holds H' ((c,.list (nvs (roots S.un.par)))::heapIn R S L)→Q (.ref c) H'):UC B (n+2) (.ref 457) [.ref R.h] H Q:=by
 refine UC.fn Fk 30 rfl rfl ?_;walk_at "evs";exact uclasses_spec Fk (un_front hh) ok fun c H' h=>⟨q c H' (h.perm (perm3.symm.cons _))⟩
theorem hmembers_spec (Fk:Facts B.K) {a:Nat} {lo:List Nat} (hh:Holds H (heapIn R S L)) (ok:UNok R.U S.un) (ha:a < S.un.par.length) (hlo:S.un.lots[rt S.un.par a]? = some lo) (hs:lo.length < 64) {Q:QV}
  (q:∀ c ms H',ms.Perm lo→ms.Pairwise (·≤·)→Holds H' ((c,.list (nvs ms))::heapIn R S L)→Q (.ref c) H'):UC B (n+3) (.ref 464) [.ref R.h,nv a] H Q:=by
 refine UC.fn Fk 31 rfl rfl ?_;walk_at "evs";exact members_spec Fk (un_front hh) ok ha hlo hs fun c ms H' h1 h2 h=>⟨q c ms H' h1 h2 (h.perm (perm3.symm.cons _))⟩
end
theorem nv_inj {a b:Nat} (h:nv a=nv b):a=b:=by
 simp only [nv,V.int.injEq] at h;lia
theorem of_nvs {l:List Nat}:∀ {us:List V},us.Nodup→(∀ v,v∈us→v∈nvs l)→∃ ks:List Nat,us=nvs ks∧ks.Nodup:=by
 intro us;induction us with
 | nil=>
  intro _ _;exact i1a2 ([]) rfl List.nodup_nil
 | cons u us ih_=>
  intro nd h;replace nd:=List.nodup_cons.mp nd;refine e1a2 (ih_ nd.2 fun v hv=>h v (List.mem_cons_of_mem _ hv)) fun ks z2 h1=>?_;clear ih_;subst z2;refine e1a2 (List.mem_map.mp (h u List.mem_cons_self)) fun k u1_ z1=>?_;clear h;subst z1;exact i1a2 (k::ks) rfl (List.nodup_cons.mpr ⟨fun hk=>nd.1 (List.mem_map_of_mem hk),h1⟩)
theorem mem_nvs {l:List Nat} {k:Nat}:nv k∈nvs l↔k∈l:=by
 constructor
 ·intro h;refine e1a2 (List.mem_map.mp h) fun j hj e=>?_;refine (nv_inj e).symm▸?_;exact hj
 ·exact List.mem_map_of_mem
section
variable {B:Bs} {n:Nat} {H:AH} {R:HR} {S:HS} {L:List (Addr × Cell)}
theorem c_setNats {a:Addr} {l:List Nat} {Q:V→AH→Prop} (ha:H a=some (.list (nvs l))) (hz:l.length≤60000) (hb:∀ x∈l,x < 12)
  (q:∀ (c:Addr) (ks:List Nat),H c=none→ks.Nodup→(∀ x,x∈ks↔x∈l)→Q (.ref c) (H.put c (.set (nvs ks)))):UC B n (.type "set") [.ref a] H Q:=by
 refine c_setI ha (fun v hv=>?_) (i1a2 (nvs (List.range 12)) (Nat.le_refl _) (fun v hv=>?_)) fun c us hc nd hm=>?_
 ·refine e1a2 (List.mem_map.mp hv) fun k u1_ z5=>?_;clear hv;subst z5;exact ⟨_,rfl⟩
 ·refine e1a2r (x:=v) (List.mem_map.mp hv) fun k hk=>?_;exact mem_nvs.mpr (List.mem_range.mpr (hb k hk))
 ·refine e1a2 (of_nvs nd fun v hv=>(hm v).mp hv) fun ks z3 h1=>?_;clear nd;subst z3;refine q c ks hc h1 fun x=>?_;rw [← mem_nvs,hm,mem_nvs]
theorem c_sortedNatSet {a:Addr} {ks:List Nat} {Q:V→AH→Prop} (ha:H a=some (.set (nvs ks))) (hz:ks.length < 64)
  (q:∀ (c:Addr) (ms:List Nat),H c=none→ms.Perm ks→ms.Pairwise (·≤·)→Q (.ref c) (H.put c (.list (nvs ms)))):UC B n (.builtin "sorted") [.ref a] H Q:=by
 rw [nvs_ints] at ha;refine c_sortedSetInts ha (by simpa using hz) fun c ms hc hp hs=>?_;refine e1a2 (perm_nat hp) fun ms' z6 hk=>?_;clear hp;subst z6;rw [← nvs_ints];refine q c ms' hc hk ?_;replace hs:=List.pairwise_map.mp hs;exact hs.imp fun {a b} h=>by simpa using h
theorem nodup_small {l:List Nat} (nd:l.Nodup) (hb:∀ x∈l,x < 12):l.length≤12:=by
 have:=List.Nodup.length_le_of_subset nd (l₂:=List.range 12) fun x hx=>List.mem_range.mpr (hb x hx);simpa using this
theorem husers_spec (Fk:Facts B.K) {a:Nat} {e:Ent} (hh:Holds H (heapIn R S L)) (ok:SOK R S) (ha:a < S.un.par.length) (he:e∈S.users) (hk:e.k=rt S.un.par a) (hb:∀ x∈e.l,x < 12) {Q:QV}
  (q:∀ c ms H',ms.Nodup→ms.length≤12→(∀ x,x∈ms↔x∈e.l)→Holds H' ((c,.list (nvs ms))::heapIn R S L)→Q (.ref c) H'):UC B (n+3) (.ref 488) [.ref R.h,nv a] H Q:=by
 refine UC.fn Fk 33 rfl rfl ?_;walk_at "evs";refine hfind_spec Fk hh ok.un ha ?_;simp only [← hk];walk_at "evs";refine u_idictGet (hh.get 5 rfl) (ent_get ok.keys he) ?_;walk_at "evs";refine c_setNats (ent_cell hh.right.right.right he) (Nat.le_trans (ok.ents e he) (by decide)) hb fun c ks hcn nd hm=>?_;have h1:=hh.new (c:=.set (nvs ks)) hcn;have hl:ks.length≤12:=nodup_small nd fun x hx=>hb x ((hm x).mp hx);walk_at "evs";refine c_sortedNatSet (h1.get 0 rfl) (by lia) fun d ms hdn hp hs'=>?_;walk_at "evs";exact q d ms _ (hp.nodup_iff.mpr nd) (by refine hp.length_eq▸?_;exact hl) (fun x=>by rw [hp.mem_iff,hm]) ((h1.new (c:=.list (nvs ms)) hdn).sub ((List.sublist_cons_self _ _).cons_cons _))
end
theorem Nd.v_inj {x y:Nd} (h:x.v=y.v):x=y:=by
 obtain ⟨o,k⟩:=x;obtain ⟨o',k'⟩:=y;simp only [Nd.v,V.tup.injEq,List.cons.injEq,V.str.injEq] at h;obtain ⟨rfl,h⟩:=h;congr 1;exact (List.map_inj_right (f:=nv) (fun a b e=>nv_inj e)).mp h
theorem of_nds {l:List Nd}:∀ {us:List V},(∀ v,v∈us→v∈l.map Nd.v)→∃ ks:List Nd,us=ks.map Nd.v:=by
 intro us;induction us with
 | nil=>
  intro _;exact ⟨[],rfl⟩
 | cons u us ih_=>
  intro h;refine e1a1 (ih_ fun v hv=>h v (List.mem_cons_of_mem _ hv)) fun ks z3=>?_;clear ih_;subst z3;refine e1a2 (List.mem_map.mp (h u List.mem_cons_self)) fun k u1_ z2=>?_;clear h;subst z2;exact ⟨k::ks,rfl⟩
theorem tupV_nd (y:Nd):TupV y.v:=by
 have:=tupV_node y.op (y.kids.map Int.ofNat);rw [← nvs_ints] at this;exact this
section
variable {B:Bs} {n:Nat} {H:AH} {R:HR} {S:HS} {L:List (Addr × Cell)}
theorem mem_ndv {y:Nd} {l:List Nd}:y.v∈l.map Nd.v↔y∈l:=⟨fun h=>by refine e1a2 (List.mem_map.mp h) fun z hz e=>?_;refine (Nd.v_inj e).symm▸?_;exact hz,List.mem_map_of_mem⟩
theorem nodes_of_spec (Fk:Facts B.K) {a:Nat} {lo:List Nat} (hh:Holds H (heapIn R S L)) (ok:SOK R S) (ha:a < S.un.par.length) (hlo:S.un.lots[rt S.un.par a]? = some lo) (hs:lo.length≤12) (hb:∀ x∈lo,x < S.bank.nodes.length) {Q:QV}
  (q:∀ c (xs:List Nd) H',xs.length≤12→(∀ y,y∈xs↔∃ i∈lo,y=canon S.un.par (S.bank.nodes.getD i ⟨ofString "",[]⟩))→Holds H' ((c,.list (xs.map Nd.v))::heapIn R S L)→Q (.ref c) H'):UC B (n+4) (.ref 469) [.ref R.h,nv a] H Q:=by
 refine UC.fn Fk 32 rfl rfl ?_;walk_at "evs";refine Ev.compL Fk ?_;walk_at "evs";refine hmembers_spec Fk hh ok.un ha hlo (by lia) fun c ms H1 hp u1_ h1=>?_;have hml:ms.length≤12:=hp.length_eq▸hs;clear hh;walk_at "evs";generalize hg:(fun k=>canon S.un.par (S.bank.nodes.getD k ⟨ofString "",[]⟩))=g;refine UI.list (h1.get 0 rfl) ⟨.grow (by simp;exact Nat.le_trans ‹_› (nbl rfl)) (fun H'=>Holds H' ((c,.list (nvs ms))::heapIn R S L)) h1 (fun H' h=>h.get 0 rfl) ((ms.map g).map Nd.v) (by simp) (fun i v H' Qe hi h=>?_) fun D H' h2 hD=>?_⟩
 ·refine e1a3 (pure_kids (g:=g) (T:=Nd.v) hi) fun k hkm z8 e=>?_;clear hi;subst z8;refine i1a2 _ e (fun ke=>?_);have hk:=hb k (hp.mem_iff.mp hkm);have h3:=h.tail;walk_at "evs";refine node_spec Fk h3 ok.bk ok.un (List.getElem?_eq_getElem hk) (Nat.le_of_eq ok.len) fun H2 hE=>?_;walk_at "evs";have ke:=ke H2 (h.ext hE);rw [show g k=canon S.un.par S.bank.nodes[k] by refine (hg).symm▸?_;simp [hk]] at ke;exact ke
 have h3:=h2.new (c:=.list ((ms.map g).map Nd.v)) hD;clear h2 h1;walk_at "evs";refine c_setT (h3.get 0 rfl) (by simp;assumption) (fun v hv=>?_) fun d us hd hul hm=>?_
 ·refine e1a2r (x:=v) (List.mem_map.mp hv) fun y u2_=>?_;exact tupV_nd y
 refine e1a1 (of_nds fun v hv=>(hm v).mp hv) fun ks z2=>?_;subst z2;have hks:ks.length≤12:=by simp at hul;exact Nat.le_trans ‹_› ‹_›
 have h4:=h3.new (c:=.set (ks.map Nd.v)) hd;clear h3;walk_at "evs";refine c_sortedSetNodes (h4.get 0 rfl) (by simp;lia) (fun v hv=>?_) fun e ws he hpw=>?_
 ·refine e1a2 (List.mem_map.mp hv) fun y u3_ z5=>?_;clear hv;subst z5;exact i2a1 y.op (y.kids.map Int.ofNat) (by rw [← nvs_ints];rfl)
 refine e1a1 (of_nds (l:=ks) fun v hv=>hpw.mem_iff.mp hv) fun zs z4=>?_;clear hul;subst z4;walk_at "evs";refine q e zs _ ?_ (fun y=>?_) ((h4.new (c:=.list (zs.map Nd.v)) he).sub (((List.sublist_cons_self _ _).trans ((List.sublist_cons_self _ _).trans (List.sublist_cons_self _ _))).cons_cons _))
 ·have:=hpw.length_eq;simp at this;exact Nat.le_trans (Nat.le_of_eq ‹_›) ‹_›
 ·clear hd h4 he;subst hg;rw [← mem_ndv (l:=zs),hpw.mem_iff,hm,mem_ndv,List.mem_map];exact ⟨fun z3=>e1a2 z3 fun j h1 h2=>i1a2 j (hp.mem_iff.mp h1) h2.symm,fun z4=>e1a2 z4 fun j h1 h2=>i1a2 j (hp.mem_iff.mpr h1) h2.symm⟩
end
theorem rt_append {ab:List Nat} {b:Nat} (hle:∀ i,ab.getD i i≤i) {a:Nat} (h:a < ab.length):rt (ab++[b]) a=rt ab a:=by
 induction a using Nat.strongRecOn with
 | _ a ih=>
  have e:(ab++[b]).getD a a=ab.getD a a:=by
   simp only [List.getD_eq_getElem?_getD,List.getElem?_append,if_pos h]
  rw [rt_eq,rt_eq ab,e];split
  ·rename_i hlt;exact ih _ hlt (by exact Nat.lt_of_lt_of_le ‹_› (Nat.le_of_lt ‹_›))
  ·rfl
theorem rt_last {ab:List Nat}:rt (ab++[ab.length]) ab.length=ab.length:=by
 rw [rt_eq,if_neg];simp
noncomputable def entAdd (es:List Ent) (n:Nat) (ks:List Nat):List Ent:=es.map fun e=>if e.k∈ks then { e with l:=e.l++[n] } else e
theorem entAdd_nil {es:List Ent} {n:Nat}:entAdd es n []=es:=by simp [entAdd]
theorem entAdd_F {es:List Ent} {n:Nat} {ks:List Nat}:entF (entAdd es n ks)=entF es:=by
 simp only [entF,entF,entAdd,List.map_map];refine List.map_congr_left fun x u1_=>?_;simp only [Function.comp_apply];split <;> rfl
theorem entAdd_keys {es:List Ent} {n:Nat} {ks:List Nat}:(entAdd es n ks).map (·.k)=es.map (·.k):=by
 simp only [entAdd,List.map_map];refine List.map_congr_left fun x u1_=>?_;simp only [Function.comp_apply];split <;> rfl
theorem entAdd_step {es p q:List Ent} {e:Ent} {n:Nat} {ks:List Nat} (h:es=p++e::q) (nd:(es.map (·.k)).Nodup) (hk:e.k ∉ ks) :
  entAdd es n ks=entAdd p n ks++e::entAdd q n ks∧entAdd es n (ks++[e.k])=entAdd p n ks++{ e with l:=e.l++[n] }::entAdd q n ks:=by
 refine e0a2 (split_k h nd) fun h1 h2=>?_;clear nd;subst h;have g:∀ l:List Ent,(∀ x∈l,x.k≠e.k)→entAdd l n (ks++[e.k])=entAdd l n ks:=fun l hl=>List.map_congr_left fun x hx=>by
  have:=hl x hx;simp [this]
 constructor
 ·simp [entAdd,hk]
 ·rw [show entAdd (p++e::q) n (ks++[e.k])=entAdd p n (ks++[e.k])++{ e with l:=e.l++[n] }::entAdd q n (ks++[e.k]) by simp [entAdd],g p h1,g q h2]
theorem entAdd_perm {es:List Ent} {n:Nat} {ks ls:List Nat} (h:∀ x,x∈ks↔x∈ls):entAdd es n ks=entAdd es n ls:=
 List.map_congr_left fun x u1_=>by simp [h]
noncomputable def HS.grown (S:HS) (x:Nd) (w d:Int) (a:Addr):HS:=
 { S with bank:=⟨S.bank.nodes++[x],S.bank.weights++[w],S.bank.depths++[d]⟩,un:=S.un.make,users:=entAdd (S.users++[⟨S.bank.nodes.length,a,[]⟩]) S.bank.nodes.length (x.kids.map (rt S.un.par)) }
noncomputable def HR.grown (R:HR) (c:Addr):HR:={ R with U:={ R.U with ls:=R.U.ls++[c] } }
theorem bank_front {H:AH} {R:HR} {S:HS} {L:List (Addr × Cell)} (h:Holds H (heapIn R S L)):Holds H (bankCells R.B S.bank++(heapFixed R S++(unCells R.U S.un++(entCells S.users++L)))):=h.perm (List.perm_append_comm_assoc _ _ _)
theorem bank_back {H:AH} {R:HR} {S:HS} {K:BN} {L:List (Addr × Cell)} (h:Holds H (bankCells R.B K++(heapFixed R S++(unCells R.U S.un++(entCells S.users++L))))):Holds H (heapIn R { S with bank:=K } L):=h.perm (List.perm_append_comm_assoc _ _ _)
theorem bn_more {S:BN} {op:Str} {kids:List Nat} (ok:BNok S) (ho:isOp op) (hk:∀ k∈kids,k < S.nodes.length) (hf:kids.length≤2) (hs:S.nodes.length < 12) (hm:(⟨op,kids⟩:Nd) ∉ S.nodes) (w d:Int) :
  BNok ⟨S.nodes++[⟨op,kids⟩],S.weights++[w],S.depths++[d]⟩:=by
 refine ⟨by simp [ok.w],by simp [ok.d],by simp;exact Nat.le_of_lt_succ ‹_›,fun x hx=>?_,fun i x hx k hkx=>?_,fun x hx=>?_,?_⟩
 ·refine Or.elim (List.mem_append.mp hx) (fun h=>?_) fun h=>?_
  ·exact ok.ops x h
  ·simp at h;clear hx;subst h;exact ho
 ·by_cases hi:i < S.nodes.length
  ·rw [show (S.nodes++[(⟨op,kids⟩:Nd)])[i]? = S.nodes[i]? from List.getElem?_append_left hi] at hx;exact ok.kids i x hx k hkx
  ·have hx':(S.nodes++[(⟨op,kids⟩:Nd)])[i]? = some x:=hx;replace hx':=(List.getElem?_append_right (by exact Nat.le_of_not_lt ‹_›)).symm.trans hx';have h0:i - S.nodes.length=0:=by
    have:=(List.getElem?_eq_some_iff.mp hx').1;simp at this;assumption
   rw [h0] at hx';simp at hx';clear hx;subst hx';have:=hk k hkx;lia
 ·refine Or.elim (List.mem_append.mp hx) (fun h=>?_) fun h=>?_
  ·exact ok.few x h
  ·simp at h;clear hx;subst h;exact hf
 ·show (S.nodes++[(⟨op,kids⟩:Nd)]).Nodup;refine List.nodup_append.mpr ?_;exact i0a3 ok.nd (by simp) (fun x hx y hy=>by simp at hy;refine z_er hy ?_;exact fun e=>hm (e▸hx))
theorem heap_cons {H:AH} {R:HR} {S:HS} {x:Addr × Cell} {L:List (Addr × Cell)} (h:Holds H (x::heapIn R S L)):Holds H (heapIn R S (x::L)):=h.perm (by
 have e:∀ M,heapIn R S M=(heapFixed R S++(bankCells R.B S.bank++(unCells R.U S.un++entCells S.users)))++M:=fun M=>by simp [heapIn]
 simp only [e,e];exact List.perm_middle.symm)
theorem entF_snoc {es:List Ent} (e:Ent):entF es++[((e.k:Int),V.ref e.a)]=entF (es++[e]):=by simp [entF]
theorem entAdd_add {es:List Ent} {n k:Nat} {ks:List Nat} (h:k ∉ ks):entAdd (entAdd es n ks) n [k]=entAdd es n (ks++[k]):=by
 simp only [entAdd,entAdd,entAdd,List.map_map];refine List.map_congr_left fun x u1_=>?_;simp only [Function.comp_apply,List.mem_append,List.mem_singleton];by_cases e:x.k=k
 ·have:x.k ∉ ks:=e▸h;simp [this,e,h]
 ·by_cases e2:x.k∈ks <;> simp [e,e2]
theorem ent_app_cells {es:List Ent} {e:Ent} {n:Nat} {H:AH} {L:List (Addr × Cell)} (nd:(es.map (·.k)).Nodup) (he:e∈es) (h:Holds H (entCells es++L)):Holds (H.put e.a (.list (nvs e.l++[nv n]))) (entCells (entAdd es n [e.k])++L):=by
 refine e2a1 (List.append_of_mem he) fun p q z1=>?_;clear he;subst z1;have g:=(entAdd_step (n:=n) (ks:=[]) rfl nd (List.not_mem_nil)).2;rw [entAdd_nil,entAdd_nil,List.nil_append] at g;refine g▸?_;rw [nvs_snoc];have h1:∀ f:Ent,entCells (p++f::q)++L=entCells p++(f.a,.list (nvs f.l))::(entCells q++L):=fun f=>by simp [entCells]
 rw [h1] at h ⊢;exact h.mid
noncomputable def HS.more (S:HS) (x:Nd) (w d:Int) (us:List Ent):HS:={ S with bank:=⟨S.bank.nodes++[x],S.bank.weights++[w],S.bank.depths++[d]⟩,un:=S.un.make,users:=us }
structure NewE (S:HS) (nn:Nat) (U:List Ent):Prop where
 keys:U.map (·.k)=S.users.map (·.k)++[nn]
 nd:(U.map (·.k)).Nodup
 l:∀ e∈U,e.l.length≤900
 z:U.length≤901
theorem NewE.of {R:HR} {S:HS} (ok:SOK R S) (hents:∀ e∈S.users,e.l.length≤900) (hu:S.users.length≤900) (hkb:∀ e∈S.users,e.k < S.un.par.length) (a:Addr):NewE S S.bank.nodes.length (S.users++[⟨S.bank.nodes.length,a,[]⟩]):=by
 have hk:(S.users++[(⟨S.bank.nodes.length,a,[]⟩:Ent)]).map (·.k)=S.users.map (·.k)++[S.bank.nodes.length]:=List.map_append;refine ⟨hk,?_,fun e he=>?_,by refine List.length_append▸?_;exact Nat.succ_le_succ hu⟩
 ·refine hk▸?_;refine List.nodup_append.mpr ?_;refine i0a3 ok.keys (by simp) (fun x hx y hy=>?_);refine e1a2 (List.mem_map.mp hx) fun e he z2=>?_;clear hx;subst z2;simp only [List.mem_singleton.mp hy,ok.len];exact Nat.ne_of_lt (hkb e he)
 ·refine Or.elim (List.mem_append.mp he) (fun he=>?_) fun he=>?_
  ·exact hents e he
  ·refine List.mem_singleton.mp he▸?_;exact Nat.zero_le _
theorem newKey {R:HR} {S:HS} (ok:SOK R S) (hkb:∀ e∈S.users,e.k < S.un.par.length):dget (entF S.users) (S.bank.nodes.length:Int)=none:=by
 rw [dget,Option.map_eq_none_iff,List.find?_eq_none];intro p hp;refine e1a2 (List.mem_map.mp hp) fun e he z3=>?_;clear hp;subst z3;have:=hkb e he;have:=ok.len;simp;lia
theorem SOK.grown {R:HR} {S:HS} {x:Nd} {w d:Int} {U:List Ent} {ks:List Nat} {c:Addr} (ok:SOK R S) (E:NewE S S.bank.nodes.length U) (bk:BNok (S.more x w d U).bank) (un:UNok (R.grown c).U S.un.make):SOK (R.grown c) (S.more x w d (entAdd U S.bank.nodes.length ks)):=by
 refine ⟨bk,un,?_,?_,fun k hk1 hk2=>?_,ok.edges,ok.forest,ok.known,?_,fun e he=>?_,ok.waiting,ok.merged,fun lo hlo=>?_⟩
 ·have:=ok.len;simp [UN.make,HS.more,this]
 ·show ((entAdd U _ _).map (·.k)).Nodup;rw [entAdd_keys];exact E.nd
 ·show k∈(entAdd U _ _).map (·.k);simp only [entAdd_keys,E.keys];by_cases hkk:k < S.un.par.length
  ·have h3:rt (S.un.par++[S.un.par.length]) k=k:=hk2;rw [rt_append ok.un.le hkk] at h3;exact List.mem_append_left _ (ok.roots k hkk h3)
  ·have hk1:k < (S.un.par++[S.un.par.length]).length:=hk1;rw [List.length_append,List.length_singleton] at hk1;rw [ok.len,show k=S.un.par.length by exact Nat.eq_of_lt_succ_of_not_lt ‹_› ‹_›];exact List.mem_append_right _ (List.mem_singleton_self _)
 ·show (entAdd U _ _).length≤1000;simp only [entAdd,List.length_map];exact Nat.le_trans E.z (by decide)
 ·refine e1a2 (List.mem_map.mp he) fun f hf' z4=>?_;clear he;subst z4;have:=E.l f hf';split
  ·rw [List.length_append];exact Nat.le_trans (Nat.succ_le_succ this) (by decide)
  ·exact Nat.le_trans this (by decide)
 ·rcases List.mem_append.mp hlo with h | h
  ·exact ok.lots lo h
  ·simp only [List.mem_singleton.mp h,List.length_singleton];decide
section
variable {B:Bs} {n:Nat} {H:AH} {R:HR} {S:HS} {L:List (Addr × Cell)}
theorem add_spec (Fk:Facts B.K) {op:Str} {kids:List Nat} (hh:Holds H (heapIn R S L)) (ok:SOK R S) (ho:isOp op) (hk:∀ k∈kids,k < S.bank.nodes.length) (hf:kids.length≤2) (hs:S.bank.nodes.length < 12)
  (hkn:∀ p∈S.known,p.2 < S.un.par.length) (hk5:S.known.length≤900) (hents:∀ e∈S.users,e.l.length≤900) (hu:S.users.length≤900) (hkb:∀ e∈S.users,e.k < S.un.par.length) {Q:QV}
  (q1:(⟨op,kids⟩:Nd)∈S.bank.nodes→Q (nv (S.bank.nodes.idxOf ⟨op,kids⟩)) H)
  (q2:(⟨op,kids⟩:Nd) ∉ S.bank.nodes→∀ w d a c S' H',Looked (R.grown c) (S.grown ⟨op,kids⟩ w d a) S.bank.nodes.length ⟨op,kids⟩ S'→Holds H' (heapIn (R.grown c) S' L)→Q (nv S.bank.nodes.length) H'):UC B (n+5) (.ref 394) [.ref R.h,.str op,.tup (nvs kids)] H Q:=by
 refine UC.fn Fk 24 rfl rfl ?_;walk_at "evs";refine take_spec Fk (bank_front hh) ok.bk ho hk hf hs (fun hm=>?_) fun hm w dd H1 h1=>?_
 ·walk_at "evs";refine usize_spec Fk (heap_un hh) ok.un ?_;walk_at "evs";refine u_lt (byes (by have:=ok.len;have:=List.idxOf_lt_length_of_mem hm;lia) ?_);walk_at "evs";exact q1 hm
 have h1:=bank_back h1;have hnl:((S.bank.nodes.length:Nat):Int)=S.un.par.length:=by exact ok.len▸rfl
 clear hh q1;walk_at "evs";refine usize_spec Fk (heap_un h1) ok.un ?_;walk_at "evs";refine u_lt (bno (by lia) ?_);walk_at "evs";refine make_spec Fk (un_front h1) ok.un (ok.len▸hs) fun c H2 h2 un2=>?_;have h2:=un_back (R:=R.grown c) h2;clear h1;walk_at "evs";refine fun a hane=>?_;have h3:=h2.new (c:=.list []) hane;clear h2;walk_at "evs";refine u_idictSet (h3.get 6 rfl) (by simp only [entF,List.length_map];exact Nat.le_trans hu (by decide)) ?_;rw [dput_new (newKey ok hkb),entF_snoc ⟨S.bank.nodes.length,a,[]⟩];have E:=NewE.of ok hents hu hkb a;have bk2:=bn_more ok.bk ho hk hf hs hm w dd;have hg:S.grown ⟨op,kids⟩ w dd a=S.more ⟨op,kids⟩ w dd (entAdd (S.users++[⟨S.bank.nodes.length,a,[]⟩]) S.bank.nodes.length (kids.map (rt S.un.par))):=rfl;have h4:Holds _ (heapIn (R.grown c) (S.more ⟨op,kids⟩ w dd (S.users++[⟨S.bank.nodes.length,a,[]⟩])) L):=
  (heap_cons (R:=R.grown c) (S:={ S.more ⟨op,kids⟩ w dd S.users with users:=S.users }) (L:=L) h3 |>.set (a:=(R.grown c).au) (c:=.idict (entF (S.users++[⟨S.bank.nodes.length,a,[]⟩]))) 5 rfl).to (by simp [heapIn,heapFixed,hfix,HS.more,entCells,HR.grown])
 clear h3;have q2:=q2 hm w dd a c;rw [hg] at q2;generalize (S.users++[(⟨S.bank.nodes.length,a,[]⟩:Ent)])=U at h4 E q2 ⊢;generalize AH.put _ (R.grown c).au _=H3 at h4 ⊢;have hkl:∀ k∈kids,k < S.un.par.length:=fun k hkk=>ok.len▸hk k hkk;have hz:(nvs kids).length≤100000:=by rw [List.length_map];lia
 walk_at "evs";refine Ex.forL Fk ?_;walk_at "evs";refine Ev.compL Fk ?_;walk_at "evs";refine UI.tup ⟨.pure hz trivial (nvs (kids.map (rt S.un.par))) (by simp) (fun i v Qe hi=>?_) fun D hD=>?_⟩
 ·refine e1a3 (pure_kids (g:=rt S.un.par) (T:=nv) hi) fun k hkm z10 e=>?_;clear hi;subst z10;refine i1a2 _ e (fun ke=>?_);walk_at "evs";refine hfind_spec Fk h4 un2 (by have:=hkl k hkm;simp [HS.more,UN.make];lia) ?_;walk_at "evs";rw [← rt_append ok.un.le (hkl k hkm)] at ke;exact ke
 have h6:=h4.new (c:=.list (nvs (kids.map (rt S.un.par)))) hD;clear h4;walk_at "evs";refine c_setNats (h6.get 0 rfl) (by simp;exact Nat.le_trans ‹_› (nbl rfl)) (fun x hx=>?_) fun d ks hd nd hms=>?_
 ·refine e1a2 (List.mem_map.mp hx) fun k hkk z9=>?_;clear hx;subst z9;have:=rt_le S.un.par k;have:=hkl k hkk;lia
 have hksl:ks.length≤2:=by
  have:=List.Nodup.length_le_of_subset nd (l₂:=kids.map (rt S.un.par)) fun x hx=>(hms x).mp hx;rw [List.length_map] at this;exact Nat.le_trans ‹_› ‹_›
 have h7:=h6.new (c:=.set (nvs ks)) hd;clear h6;walk_at "evs";refine c_sortedNatSet (h7.get 0 rfl) (by lia) fun e ms he hp u1_=>?_;have h8:=heap_cons ((h7.new (c:=.list (nvs ms)) he).sub (((List.sublist_cons_self _ _).trans (List.sublist_cons_self _ _)).cons_cons _));have hmr:∀ x,x∈ms↔x∈kids.map (rt S.un.par):=fun x=>by rw [hp.mem_iff,hms]
 have hmnd:ms.Nodup:=hp.nodup_iff.mpr nd;have hpl:(nvs ms).length≤100000:=by simp only [List.length_map,hp.length_eq];lia
 clear h7 hd he hp hms nd;generalize AH.put _ e _=H8 at h8 ⊢;walk_at "evs";refine UI.list (h8.right.right.right.right.get 0 rfl) ⟨.fix [(ofString "n",nv S.bank.nodes.length),(ofString "self",.ref R.h)] rfl (fun i H'=>Holds H' (heapIn (R.grown c) (S.more ⟨op,kids⟩ w dd (entAdd U S.bank.nodes.length (ms.take i))) ((e,.list (nvs ms))::L)))
  (by simp only [List.take_zero,entAdd_nil];exact h8) (fun H' h9=>?_) fun i v H' Qt hi h9 kn=>?_⟩
 ·clear h8;refine ⟨h9.right.right.right.right.get 0 rfl,?_⟩;rw [List.length_map,List.take_length,entAdd_perm hmr] at h9;walk_at "evs";refine look_spec Fk (x:=⟨op,kids⟩) h9 (ok.grown E bk2 un2) (by simp [HS.more]) (fun p hp=>?_) hk5 fun S' H' hl h11=>?_
  ·have:=hkn p hp;simp [HS.more,UN.make];lia
  walk_at "evs";exact q2 S' H' hl (h11.sub (List.Sublist.append_left (List.Sublist.append_left (List.Sublist.append_left (List.Sublist.append_left (List.sublist_cons_self _ _) _) _) _) _))
 ·clear h8;refine ⟨h9.right.right.right.right.get 0 rfl,?_⟩;refine e1a2 (nvs_get? hi) fun x hxi z8=>?_;clear hi;subst z8;have hnot:x ∉ ms.take i:=fun hin=>by
   refine e1a1 (List.getElem?_eq_some_iff.mp hxi) fun hil hie=>?_;rw [(List.take_append_drop i ms).symm,List.nodup_append] at hmnd;exact hmnd.2.2 _ hin _ (by simp only [← hie,List.drop_eq_getElem_cons hil];exact List.mem_cons_self) rfl
  have nd9:((entAdd U S.bank.nodes.length (ms.take i)).map (·.k)).Nodup:=by rw [entAdd_keys];exact E.nd
  have hxk:x∈(entAdd U S.bank.nodes.length (ms.take i)).map (·.k):=by
   refine e1a2r (x:=x) (List.mem_map.mp ((hmr x).mp (List.mem_of_getElem? hxi))) fun k hkk=>?_;simp only [entAdd_keys,E.keys];exact List.mem_append_left _ (ok.roots _ (Nat.lt_of_le_of_lt (rt_le _ _) (hkl k hkk)) (rt_rt _ _))
  refine e1a2 (List.mem_map.mp hxk) fun en hen z6=>?_;clear hxk;subst z6;walk_at "evs";refine u_idictGet (h9.get 5 rfl) (ent_get nd9 hen) ?_;walk_at "evs";refine A.bm (m_append (ent_cell (heap_ent h9) hen)) ?_;walk_at "evs";refine c_append (ent_cell (heap_ent h9) hen) (Nat.le_trans (Nat.le_of_eq (List.length_map _)) ?_) ?_
  ·refine e1a2 (List.mem_map.mp hen) fun f hf' z5=>?_;clear hen hxi hnot;subst z5;have:=E.l f hf';split
   ·rw [List.length_append];exact Nat.le_trans (Nat.succ_le_succ this) (by decide)
   ·exact Nat.le_trans this (by decide)
  ·walk_at "evs";refine kn _ _ rfl ?_;rw [show ms.take (i+1)=ms.take i++[en.k] by simp only [List.take_add_one,hxi];rfl,← entAdd_add hnot];exact ent_back (S:=S.more ⟨op,kids⟩ w dd (entAdd U S.bank.nodes.length (ms.take i))) (S':=S.more ⟨op,kids⟩ w dd (entAdd U S.bank.nodes.length (ms.take i))) (ent_app_cells nd9 hen (ent_front h9)) (by simp only [heapFixed,heapFixed];simp only [HS.more,entAdd_F])
end
section
variable {B:Bs} {n:Nat} {H:AH} {L:List (Addr × Cell)}
theorem bank_new (Fk:Facts B.K) (hh:Holds H L) {Q:QV} (q:∀ (R:BR) H',Holds H' (bankCells R ⟨[],[],[]⟩++L)→Q (.ref R.b) H') :
  UC B (n+1) (.ref Cls.bank.addr) [] H Q:=by
 refine UC.cls Fk (Fk.inits 0 rfl) (Fk.fn 9 rfl) rfl hh fun d x H1 h1=>?_;clear hh;walk_at "evs";refine fun a1 ha=>?_;have h2:=h1.new (c:=.list []) ha;clear h1;walk_at "evs";have h3:=h2.set (a:=d) (c:=.sdict [(ofString "nodes",.ref a1)]) 2 rfl;clear h2;refine Ev.dict0T fun a2 ha=>?_;have h4:=h3.new (c:=.tdict []) ha;clear h3;walk_at "evs";have h5:=h4.set (a:=d) (c:=.sdict [(ofString "nodes",.ref a1),(ofString "numbers",.ref a2)]) 3 rfl;clear h4;refine fun a3 ha=>?_;have h6:=h5.new (c:=.list []) ha;clear h5;walk_at "evs";have h7:=h6.set (a:=d) (c:=.sdict [(ofString "nodes",.ref a1),(ofString "numbers",.ref a2),(ofString "weights",.ref a3)]) 4 rfl;clear h6;refine fun a4 ha=>?_;have h8:=h7.new (c:=.list []) ha;clear h7;walk_at "evs";have h9:=h8.set (a:=d) (c:=.sdict [(ofString "nodes",.ref a1),(ofString "numbers",.ref a2),(ofString "weights",.ref a3),(ofString "depths",.ref a4)]) 5 rfl;clear h8;refine ⟨rfl,q ⟨x,d,a1,a2,a3,a4⟩ _ (h9.perm ?_)⟩;exact ((List.reverse_perm [(a1,Cell.list []),(a2,.tdict []),(a3,.list []),(a4,.list [])]).append_right (_::_::L)).trans (List.perm_append_comm_assoc _ [_,_] L)
theorem unions_new (Fk:Facts B.K) (hh:Holds H L) {Q:QV} (q:∀ (R:UR) H',Holds H' (unCells { R with ls:=[] } ⟨[],[],[]⟩++L)→Q (.ref R.u) H') :
  UC B (n+1) (.ref Cls.unions.addr) [] H Q:=by
 refine UC.cls Fk (Fk.inits 1 rfl) (Fk.fn 15 rfl) rfl hh fun d x H1 h1=>?_;clear hh;walk_at "evs";refine fun a1 ha=>?_;have h2:=h1.new (c:=.list []) ha;clear h1;walk_at "evs";have h3:=h2.set (a:=d) (c:=.sdict [(ofString "above",.ref a1)]) 2 rfl;clear h2;refine fun a2 ha=>?_;have h4:=h3.new (c:=.list []) ha;clear h3;walk_at "evs";have h5:=h4.set (a:=d) (c:=.sdict [(ofString "above",.ref a1),(ofString "lots",.ref a2)]) 3 rfl;clear h4;refine fun a3 ha=>?_;have h6:=h5.new (c:=.list []) ha;clear h5;walk_at "evs";have h7:=h6.set (a:=d) (c:=.sdict [(ofString "above",.ref a1),(ofString "lots",.ref a2),(ofString "merged",.ref a3)]) 4 rfl;clear h6;refine ⟨rfl,q ⟨x,d,a1,a2,a3,[]⟩ _ (h7.perm ?_)⟩;exact ((List.reverse_perm [(a1,Cell.list []),(a2,.list []),(a3,.list [])]).append_right (_::_::L)).trans (List.perm_append_comm_assoc _ [_,_] L)
noncomputable def HS.empty:HS:=⟨⟨[],[],[]⟩,⟨[],[],[]⟩,[],[],[],[],[]⟩
theorem heap_new (Fk:Facts B.K) (hh:Holds H L) {Q:QV} (q:∀ (R:HR) H',R.U.ls=[]→Holds H' (heapIn R HS.empty L)→Q (.ref R.h) H') :
  UC B (n+2) (.ref Cls.heap.addr) [] H Q:=by
 refine UC.cls Fk (Fk.inits 2 rfl) (Fk.fn 22 rfl) rfl hh fun d x H1 h1=>?_;clear hh;walk_at "evs";refine bank_new Fk h1 fun RB H1 h2=>?_;clear h1;walk_at "evs";have h3:=h2.set (a:=d) (c:=.sdict [(ofString "bank",.ref RB.b)]) 7 rfl;clear h2;refine unions_new Fk h3 fun RU H2 h4=>?_;clear h3;walk_at "evs";have h5:=h4.set (a:=d) (c:=.sdict [(ofString "bank",.ref RB.b),(ofString "unions",.ref RU.u)]) 12 rfl;clear h4;refine fun a1 ha=>?_;have h6:=h5.new (c:=.list []) ha;clear h5;walk_at "evs";have h7:=h6.set (a:=d) (c:=.sdict [(ofString "bank",.ref RB.b),(ofString "unions",.ref RU.u),(ofString "edges",.ref a1)]) 13 rfl;clear h6;refine fun a2 ha=>?_;have h8:=h7.new (c:=.list []) ha;clear h7;walk_at "evs";have h9:=h8.set (a:=d) (c:=.sdict [(ofString "bank",.ref RB.b),(ofString "unions",.ref RU.u),(ofString "edges",.ref a1),(ofString "forest",.ref a2)]) 14 rfl;clear h8;refine Ev.dict0T fun a3 ha=>?_;have h10:=h9.new (c:=.tdict []) ha;clear h9;walk_at "evs";have h11:=h10.set (a:=d) (c:=.sdict [(ofString "bank",.ref RB.b),(ofString "unions",.ref RU.u),(ofString "edges",.ref a1),(ofString "forest",.ref a2),(ofString "known",.ref a3)]) 15 rfl;clear h10;refine Ev.dict0 fun a4 ha=>?_;have h12:=h11.new (c:=.idict []) ha;clear h11;walk_at "evs";refine A.set Fk (h12.inst 15 rfl rfl) rfl rfl ?_;walk_at "evs";have h13:=h12.set (a:=d) (c:=.sdict [(ofString "bank",.ref RB.b),(ofString "unions",.ref RU.u),(ofString "edges",.ref a1),(ofString "forest",.ref a2),(ofString "known",.ref a3),(ofString "above",.ref a4)]) 16 rfl;clear h12;refine fun a5 ha=>?_;have h14:=h13.new (c:=.list []) ha;clear h13;walk_at "evs";refine A.set Fk (h14.inst 16 rfl rfl) rfl rfl ?_;have h15:=h14.set (a:=d) (c:=.sdict [(ofString "bank",.ref RB.b),(ofString "unions",.ref RU.u),(ofString "edges",.ref a1),(ofString "forest",.ref a2),(ofString "known",.ref a3),(ofString "above",.ref a4),(ofString "waiting",.ref a5)]) 17 rfl;clear h14;refine ⟨rfl,q ⟨x,d,a1,a2,a3,a4,a5,RB,{ RU with ls:=[] }⟩ _ rfl (h15.perm ?_)⟩;exact (((List.reverse_perm [(a1,Cell.list []),(a2,.list []),(a3,.tdict []),(a4,.idict []),(a5,.list [])]).append_right (unCells { RU with ls:=[] } ⟨[],[],[]⟩++(bankCells RB ⟨[],[],[]⟩++(_::_::L)))).trans (perm4 (P:=[_,_]))).trans
  (((List.perm_append_comm_assoc (unCells { RU with ls:=[] } ⟨[],[],[]⟩) (bankCells RB ⟨[],[],[]⟩) L).append_left _).append_left _)
noncomputable def kpCells (k dk va to:Addr) (hp an:Addr) (vals told:List (Int × V)):List (Addr × Cell):=
 [(k,.inst .keeper dk),(dk,.sdict [(ofString "heap",.ref hp),(ofString "analysis",.ref an),(ofString "values",.ref va),(ofString "told",.ref to)]),(va,.idict vals),(to,.idict told)]
theorem keeper_new (Fk:Facts B.K) (hh:Holds H L) (hp an:Addr) {Q:QV} (q:∀ k dk va to H',Holds H' (kpCells k dk va to hp an [] []++L)→Q (.ref k) H') :
  UC B (n+1) (.ref Cls.keeper.addr) [.ref hp,.ref an] H Q:=by
 refine UC.cls Fk (Fk.inits 3 rfl) (Fk.fn 3 rfl) rfl hh fun d x H1 h1=>?_;clear hh;walk_at "evs";have h2:=h1.set (a:=d) (c:=.sdict [(ofString "heap",.ref hp)]) 1 rfl;clear h1;walk_at "evs";have h3:=h2.set (a:=d) (c:=.sdict [(ofString "heap",.ref hp),(ofString "analysis",.ref an)]) 1 rfl;clear h2;walk_at "evs";refine Ev.dict0 fun a1 ha=>?_;have h4:=h3.new (c:=.idict []) ha;clear h3;walk_at "evs";have h5:=h4.set (a:=d) (c:=.sdict [(ofString "heap",.ref hp),(ofString "analysis",.ref an),(ofString "values",.ref a1)]) 2 rfl;clear h4;refine Ev.dict0 fun a2 ha=>?_;have h6:=h5.new (c:=.idict []) ha;clear h5;walk_at "evs";have h7:=h6.set (a:=d) (c:=.sdict [(ofString "heap",.ref hp),(ofString "analysis",.ref an),(ofString "values",.ref a1),(ofString "told",.ref a2)]) 3 rfl;clear h6;refine ⟨rfl,q x d a1 a2 _ (h7.perm ?_)⟩;exact ((List.reverse_perm [(a1,Cell.idict []),(a2,.idict [])]).append_right (_::_::L)).trans (List.perm_append_comm_assoc _ [_,_] L)
end
noncomputable def ov:Option Nat→V
 | none=>.none
 | some k=>nv k
noncomputable abbrev ovs (l:List (Option Nat)):List V:=l.map ov
noncomputable def allS:List (Option Nat)→Option (List Nat)
 | []=>some []
 | none::_=>none
 | some k::l=>(allS l).map (k :: ·)
noncomputable def agg (dep:Bool) (ks:List Nat):Nat:=1+if dep then ks.foldr max 0 else ks.sum
noncomputable def ofN (dep:Bool) (l:List (Option Nat)):Option Nat:=(allS l).map (agg dep)
noncomputable def jn:Option Nat→Option Nat→Option Nat
 | none,y=>y
 | x,none=>x
 | some i,some j=>some (min i j)
noncomputable abbrev anCls (dep:Bool):Cls:=if dep then .depth else .size
noncomputable abbrev ofAddr (dep:Bool):Addr:=if dep then 35 else 63
theorem ovs_flat:∀ l:List (Option Nat),V.flatL (ovs l)=true∧V.deepL (ovs l)≤1:=by
 intro l;induction l with
 | nil=>
  decide
 | cons x l ih_=>
  refine e0a2 (ih_) fun h1 h2=>?_;induction x <;> exact ⟨Bool.and_eq_true_iff.mpr ⟨rfl,h1⟩,Nat.max_le.mpr ⟨Nat.zero_le _,h2⟩⟩
theorem ovs_any:∀ l:List (Option Nat),((ovs l).any fun w=>veq w .none)=(allS l).isNone
 | []=>rfl
 | none::l=>rfl
 | some k::l=>by
  have ih:=ovs_any l;simp only [ovs,List.map_cons,List.any_cons] at ih ⊢;exact ih.trans (Option.isNone_map ..).symm
theorem allS_some:∀ {l:List (Option Nat)} {ks:List Nat},allS l=some ks→l=ks.map some:=by
 intro l;induction l with
 | nil=>
  intro ks h;cases h;rfl
 | cons o l ih_=>
  intro ks h;induction o with
  | none=>
   exact z_ns h
  | some k=>
   rw [allS,Option.map_eq_some_iff] at h;obtain ⟨ms,h1,rfl⟩:=h;refine ih_ h1▸?_;rfl
theorem allS_map (ks:List Nat):allS (ks.map some)=some ks:=by
 induction ks with
 | nil=>rfl
 | cons k ks ih=>simp [allS,ih]
theorem foldr_max_mem:∀ ks:List Nat,(ks.foldr max 0:Nat)∈ks++[0]
 | []=>z_m0
 | k::ks=>by
  have ih:=foldr_max_mem ks;simp only [List.foldr_cons,List.cons_append,List.mem_cons];refine Or.elim (Nat.le_total k (ks.foldr max 0)) (fun h=>?_) fun h=>?_
  ·rw [Nat.max_eq_right h];exact .inr ih
  ·rw [Nat.max_eq_left h];exact .inl rfl
theorem foldr_max_le:∀ (ks:List Nat),∀ x∈ks++[0],x≤ks.foldr max 0:=by
 intro ks;induction ks with
 | nil=>
  intro x h;simp at h;simp [h]
 | cons k ks ih_=>
  intro x h;rcases List.mem_cons.mp h with rfl | h
  ·exact Nat.le_max_left _ _
  ·exact Nat.le_trans (ih_ x h) (Nat.le_max_right _ _)
theorem sum_cast:∀ ks:List Nat,(ks.map Int.ofNat).sum=(ks.sum:Nat)
 | []=>rfl
 | k::ks=>by simp [sum_cast ks]
theorem ovs_some (ks:List Nat):ovs (ks.map some)=(ks.map Int.ofNat).map V.int:=by simp [ovs,ov]
section
variable {B:Bs} {n:Nat} {H:AH}
theorem of_depth_spec (Fk:Facts B.K) {a:Addr} {l:List (Option Nat)} {u op:V} (ha:H a=some (.list (ovs l))) (hz:l.length≤100) {Q:QV} (q:∀ H',Ext H H'→Q (ov (ofN true l)) H'):UC B (n+1) (.ref 35) [u,op,.ref a] H Q:=by
 refine UC.fn Fk 0 rfl rfl ?_;refine e0a2 (ovs_flat l) fun f1 f2=>?_;walk_at "evs";refine u_inList ha (by decide) (by exact Nat.le_trans ‹_› (nbl rfl)) f1 ?_;rw [ovs_any];rw [ofN] at q;induction e:allS l with
 | none=>
  replace q:=e▸q;refine byes' rfl ?_;walk_at "evs";exact q _ (Ext.refl _)
 | some ks=>
  rw [e] at q;refine bno' rfl ?_;have hl:=allS_some e;have hks:ks.length≤100:=by have:=congrArg List.length hl;simp at this;exact Nat.le_trans (Nat.le_of_eq (Eq.symm ‹_›)) ‹_›
  rw [hl,ovs_some] at ha;walk_at "evs";refine fun c hc=>?_;walk_at "evs";refine u_addList ((AH.put_ne _ _ fun e=>by subst e;rw [hc] at ha;exact z_ns ha).trans ha) (AH.put_self _ _ _) (by simp;exact Nat.le_trans ‹_› (nbl rfl)) fun d hd=>?_;walk_at "evs";refine c_maxList (ns:=ks.map Int.ofNat++[0]) (m:=(ks.foldr max 0:Nat)) (by rw [AH.put_self];simp) ?_ (fun x hx=>?_) ?_
  ·rcases List.mem_append.mp (foldr_max_mem ks) with h | h
   ·exact List.mem_append_left _ (List.mem_map_of_mem (f:=Int.ofNat) h)
   ·rw [List.mem_singleton.mp h];simp
  ·refine e1a2 (List.mem_map.mp (show x∈(ks++[0]).map Int.ofNat by simpa using hx)) fun y hy z2=>?_;clear hx;subst z2;exact Int.ofNat_le.mpr (foldr_max_le ks y hy)
  walk_at "evs";refine u_add ?_;walk_at "evs";exact q _ (((Ext.refl _).new hc).new hd)
theorem of_size_spec (Fk:Facts B.K) {a:Addr} {l:List (Option Nat)} {u op:V} (ha:H a=some (.list (ovs l))) (hz:l.length≤100) {Q:QV} (q:∀ H',Ext H H'→Q (ov (ofN false l)) H'):UC B (n+1) (.ref 63) [u,op,.ref a] H Q:=by
 refine UC.fn Fk 2 rfl rfl ?_;refine e0a2 (ovs_flat l) fun f1 f2=>?_;walk_at "evs";refine u_inList ha (by decide) (by exact Nat.le_trans ‹_› (nbl rfl)) f1 ?_;rw [ovs_any];rw [ofN] at q;induction e:allS l with
 | none=>
  replace q:=e▸q;refine byes' rfl ?_;walk_at "evs";exact q _ (Ext.refl _)
 | some ks=>
  rw [e] at q;refine bno' rfl ?_;rw [allS_some e,ovs_some] at ha;walk_at "evs";refine c_sum ha ?_;rw [sum_cast];walk_at "evs";refine u_add ?_;walk_at "evs";exact q _ (Ext.refl _)
theorem of_spec (Fk:Facts B.K) (dep:Bool) {a:Addr} {l:List (Option Nat)} {u op:V} (ha:H a=some (.list (ovs l))) (hz:l.length≤100) {Q:QV} (q:∀ H',Ext H H'→Q (ov (ofN dep l)) H'):UC B (n+1) (.ref (ofAddr dep)) [u,op,.ref a] H Q:=by
 induction dep
 ·exact of_size_spec Fk ha hz q
 ·exact of_depth_spec Fk ha hz q
theorem joined_spec (Fk:Facts B.K) {u:V} {x y:Option Nat} {Q:QV} (q:Q (ov (jn x y)) H):UC B (n+1) (.ref 42) [u,ov x,ov y] H Q:=by
 refine UC.fn Fk 1 rfl rfl ?_;walk_at "evs";refine u_is ?_;induction x with
 | none=>
  refine byes' rfl (byes' rfl ?_);walk_at "evs";refine u_is ?_;refine byes' rfl ?_;walk_at "evs";rcases y with _ <;> exact q
 | some i=>
  refine bno' rfl ?_;walk_at "evs";refine u_is ?_;induction y with
  | none=>
   refine byes' rfl ?_;walk_at "evs";refine u_is ?_;refine bno' rfl ?_;walk_at "evs";exact q
  | some j=>
   refine bno' rfl ?_;walk_at "evs";refine c_min2 ?_;rw [show V.int (min (i:Int) (j:Int))=ov (jn (some i) (some j)) by simp only [jn,ov];congr 1;omega];walk_at "evs";exact q
end
section
variable {α:Type}
noncomputable def kvF (f:α→V) (l:List (Nat × α)):List (Int × V):=l.map fun p=>((p.1:Int),f p.2)
noncomputable def lget (l:List (Nat × α)) (k:Nat):Option α:=(l.find? fun p=>decide (p.1=k)).map (·.2)
noncomputable def lput (l:List (Nat × α)) (k:Nat) (v:α):List (Nat × α):=if l.any (fun p=>decide (p.1=k)) then l.map (fun p=>if p.1=k then (p.1,v) else p) else l++[(k,v)]
noncomputable def ldel (l:List (Nat × α)) (k:Nat):List (Nat × α):=l.filter fun p=>decide (p.1≠k)
theorem lget_cons {p:Nat × α} {l:List (Nat × α)} {k:Nat}:lget (p::l) k=if p.1=k then some p.2 else lget l k:=by
 unfold lget;by_cases h:p.1=k <;> simp [h]
theorem dget_kvF {f:α→V}:∀ {l:List (Nat × α)} {k:Nat},dget (kvF f l) (k:Int)=(lget l k).map f:=by
 intro l;induction l with
 | nil=>
  intro k;exact rfl
 | cons p l ih_=>
  intro k;have ih:=ih_ (k:=k);refine lget_cons▸?_;by_cases h:p.1=k
  ·simp [kvF,dget,h]
  ·rw [if_neg h,← ih,kvF,List.map_cons,dget_ne (by lia) rfl];rfl
theorem any_kvF {f:α→V} {k:Nat}:∀ {l:List (Nat × α)},(kvF f l).any (fun kv=>decide (kv.1=(k:Int)))=l.any fun p=>decide (p.1=k):=by
 intro l;induction l with
 | nil=>
  exact rfl
 | cons p l ih_=>
  have ih:=ih_;simp only [kvF,List.map_cons,List.any_cons] at ih ⊢;simp only [ih];congr 1;simp;lia
theorem dput_kvF {f:α→V} {l:List (Nat × α)} {k:Nat} {v:α}:dput (kvF f l) (k:Int) (f v)=kvF f (lput l k v):=by
 unfold dput lput;rw [any_kvF];split
 ·unfold kvF;simp only [List.map_map,List.map_map];refine List.map_congr_left fun p u1_=>?_;simp only [Function.comp_apply];by_cases h:p.1=k
  ·rw [if_pos h,if_pos (by lia)]
  ·rw [if_neg h,if_neg (by lia)]
 ·simp [kvF]
theorem ddel_kvF {f:α→V} {l:List (Nat × α)} {k:Nat}:ddel (kvF f l) (k:Int)=kvF f (ldel l k):=by
 refine List.filter_map.trans ?_;congr 1;refine List.filter_congr fun p u1_=>?_;simp;lia
theorem kvF_len {f:α→V} {l:List (Nat × α)}:(kvF f l).length=l.length:=by simp [kvF]
theorem kvF_keys {f:α→V} {l:List (Nat × α)}:(kvF f l).map (·.1)=(l.map (·.1)).map Int.ofNat:=by simp [kvF]
theorem lget_none {k:Nat}:∀ {l:List (Nat × α)},lget l k=none↔k ∉ l.map (·.1):=by
 intro l;induction l with
 | nil=>
  simp [lget]
 | cons p l ih_=>
  refine lget_cons▸?_;have ih:=ih_;by_cases h:p.1=k
  ·simp [h]
  ·refine (if_neg h)▸?_;refine ih.trans ?_;simp [Ne.symm h]
theorem lget_isSome {l:List (Nat × α)} {k:Nat}:(lget l k).isSome=true↔k∈l.map (·.1):=by
 have:=lget_none (k:=k) (l:=l);induction h:lget l k with
 | none=>replace this:=h▸this;simpa using this
 | some v=>rw [h] at this;simp at this ⊢;exact this
theorem lget_append {l m:List (Nat × α)} {k:Nat}:lget (l++m) k=(lget l k).or (lget m k):=by
 unfold lget;refine List.find?_append▸?_;cases List.find? (fun p=>decide (p.1=k)) l <;> rfl
theorem lput_new {l:List (Nat × α)} {k:Nat} {v:α} (h:lget l k=none):lput l k v=l++[(k,v)]:=by
 unfold lput;rw [if_neg];replace h:=lget_none.mp h;intro c;refine e1a2 (List.any_eq_true.mp c) fun p hp e=>?_;exact h (by simp at e;simp only [← e];exact List.mem_map_of_mem (f:=(·.1)) hp)
theorem lget_map_put {k j:Nat} {v:α}:∀ {l:List (Nat × α)},lget (l.map (fun p=>if p.1=k then (p.1,v) else p)) j=if j=k then (lget l j).map (fun u1_=>v) else lget l j:=by
 intro l;induction l with
 | nil=>
  simp [lget]
 | cons p l ih_=>
  rw [List.map_cons,lget_cons,ih_,lget_cons];by_cases h:p.1=k
  ·rw [if_pos h];by_cases e:p.1=j
   ·rw [if_pos e,if_pos (by lia),if_pos e];rfl
   ·refine (if_neg e).trans ?_;by_cases g:j=k
    ·lia
    ·refine if_neg g▸?_;refine if_neg e▸?_;exact if_neg g▸rfl
  ·rw [if_neg h];by_cases e:p.1=j
   ·rw [if_pos e,if_neg (by lia),if_pos e]
   ·rw [if_neg e,if_neg e]
theorem lget_lput {l:List (Nat × α)} {k j:Nat} {v:α}:lget (lput l k v) j=if j=k then some v else lget l j:=by
 induction h:lget l k with
 | none=>
  simp only [lput_new h,lget_append,lget_cons];by_cases e:j=k
  ·subst e;refine h▸?_;rfl
  ·refine if_neg e▸?_;refine if_neg (Ne.symm e)▸?_;cases lget l j <;> rfl
 | some w=>
  have hm:k∈l.map (·.1):=lget_isSome.mp (by refine h▸?_;rfl);refine e1a2 (List.mem_map.mp hm) fun p hp e=>?_;unfold lput;rw [if_pos (List.any_eq_true.mpr (i1a2 p hp (by simpa using e))),lget_map_put];by_cases g:j=k
  ·clear hm e;subst g;simp only [if_pos rfl,if_pos rfl,h];rfl
  ·refine if_neg g▸?_;exact if_neg g▸rfl
theorem lput_keys {l:List (Nat × α)} {k:Nat} {v:α}:(lput l k v).map (·.1)=if k∈l.map (·.1) then l.map (·.1) else l.map (·.1)++[k]:=by
 unfold lput;have:(l.any fun p=>decide (p.1=k))=true↔k∈l.map (·.1):=by
  rw [List.any_eq_true,List.mem_map];exact ⟨fun z1=>e1a2 z1 fun p a b=>i1a2 p a (by simpa using b),fun z2=>e1a2 z2 fun p a b=>⟨p,a,by simpa using b⟩⟩
 by_cases h:k∈l.map (·.1)
 ·rw [if_pos (this.mpr h),if_pos h,List.map_map];refine List.map_congr_left fun p u1_=>?_;simp only [Function.comp_apply];split <;> rfl
 ·rw [if_neg (fun c=>h (this.mp c)),if_neg h];simp
theorem lput_nodup {l:List (Nat × α)} {k:Nat} {v:α} (nd:(l.map (·.1)).Nodup):((lput l k v).map (·.1)).Nodup:=by
 rw [lput_keys];split
 ·exact nd
 ·rename_i h;refine List.nodup_append.mpr ?_;exact i0a3 nd (by simp) (fun x hx y hy=>by simp at hy;refine z_er hy ?_;exact fun e=>h (e▸hx))
theorem lput_mem_keys {l:List (Nat × α)} {k j:Nat} {v:α}:j∈(lput l k v).map (·.1)↔j=k∨j∈l.map (·.1):=by
 refine lput_keys▸?_;split
 ·rename_i h;exact ⟨.inr,fun c=>c.elim (fun e=>e▸h) id⟩
 ·rw [List.mem_append,List.mem_singleton];exact Or.comm
theorem ldel_keys {l:List (Nat × α)} {k:Nat}:(ldel l k).map (·.1)=(l.map (·.1)).filter fun j=>decide (j≠k):=by
 simp only [ldel,List.filter_map];rfl
theorem keys_small {l:List (Nat × α)} (nd:(l.map (·.1)).Nodup) (hb:∀ k∈l.map (·.1),k < 12):l.length≤12:=by
 have:=nodup_small nd hb;simpa using this
end
inductive Der (dep:Bool) (tb:Nd→Nat→Prop):Nat→Nat→Prop
 | leaf {o:Str} {c:Nat} (h:tb ⟨o,[]⟩ c):Der dep tb 1 c
 | un {o:Str} {c k v:Nat} (h:tb ⟨o,[k]⟩ c) (hk:Der dep tb v k):Der dep tb (1+v) c
 | bin {o:Str} {c k l v w:Nat} (h:tb ⟨o,[k,l]⟩ c) (hk:Der dep tb v k) (hl:Der dep tb w l):Der dep tb (1+if dep then max v w else v+w) c
theorem agg0 {dep:Bool}:agg dep []=1:=by induction dep <;> rfl
theorem agg1 {dep:Bool} {v:Nat}:agg dep [v]=1+v:=by rcases dep with _ <;> simp [agg]
theorem agg2 {dep:Bool} {v w:Nat}:agg dep [v,w]=1+if dep then max v w else v+w:=by rcases dep with _ <;> simp [agg]
theorem Der.pos {dep:Bool} {tb:Nd→Nat→Prop} {v c:Nat} (h:Der dep tb v c):1≤v:=by induction h <;> lia
theorem Der.mono {dep:Bool} {tb tb':Nd→Nat→Prop} {g:Nat→Nat} (ht:∀ x c,tb x c→tb' ⟨x.op,x.kids.map g⟩ (g c)) {v c:Nat} (h:Der dep tb v c):Der dep tb' v (g c):=by
 induction h with
 | leaf h=>exact .leaf (ht _ _ h)
 | un h _ ih=>exact .un (ht _ _ h) ih
 | bin h _ _ ih1 ih2=>exact .bin (ht _ _ h) ih1 ih2
noncomputable def Upto (dep:Bool) (tb:Nd→Nat→Prop) (m c:Nat):Prop:=∃ v,v≤m∧Der dep tb v c
noncomputable def Least (dep:Bool) (tb:Nd→Nat→Prop) (v c:Nat):Prop:=Der dep tb v c∧∀ w,Der dep tb w c→v≤w
theorem Least.eq {dep:Bool} {tb:Nd→Nat→Prop} {v w c:Nat} (a:Least dep tb v c) (b:Least dep tb w c):v=w:=Nat.le_antisymm (a.2 _ b.1) (b.2 _ a.1)
section
variable {dep:Bool} {tb:Nd→Nat→Prop}
theorem Upto.mono {m n c:Nat} (h:Upto dep tb m c) (l:m≤n):Upto dep tb n c:=e1a2 h fun v a b=>⟨v,by exact Nat.le_trans ‹_› ‹_›,b⟩
theorem Upto.succ {m c:Nat}:Upto dep tb (m+1) c↔Upto dep tb m c∨Der dep tb (m+1) c:=by
 constructor
 ·intro z1;refine e1a2 z1 fun v h1 h2=>?_;by_cases e:v=m+1
  ·clear h1;subst e;exact .inr h2
  ·exact .inl (i1a2 v (by lia) h2)
 ·rintro (h | h)
  ·exact h.mono (by exact Nat.le_add_right _ _)
  ·exact i1a2 _ (Nat.le_refl _) h
theorem not_upto0 {c:Nat}:¬ Upto dep tb 0 c:=fun z1=>e1a2 z1 fun v h1 h2=>by have:=h2.pos;exact y62 (by assumption) (by assumption)
structure LeastInv (dep:Bool) (tb:Nd→Nat→Prop) (m:Nat) (ll:List (List Nat)) (fd:List (Nat × Nat)):Prop where
 pos:1≤m
 len:ll.length=m+1
 nd:(fd.map (·.1)).Nodup
 keys:∀ c,c∈fd.map (·.1)↔Upto dep tb (m - 1) c
 val:∀ c v,lget fd c=some v→Least dep tb v c
 lot1:∀ c,c∈ll.getD m []→Upto dep tb m c
 lot2:∀ c,Der dep tb m c→c∈ll.getD m []∨Upto dep tb (m - 1) c
 all:dep=false→∀ k,1≤k→k≤m→∀ c,c∈ll.getD k []↔Der dep tb k c
theorem LeastInv.start {l1:List Nat} (h:∀ c,c∈l1↔∃ o,tb ⟨o,[]⟩ c):LeastInv dep tb 1 [[],l1] []:=by
 have hd:∀ c,c∈l1↔Der dep tb 1 c:=fun c=>by
  rw [h];constructor
  ·intro z3;refine e1a1 z3 fun o ho=>?_;exact .leaf ho
  ·intro hd;generalize e:1=u at hd;cases hd with
   | leaf h=>exact ⟨_,h⟩
   | un h hk=>have:=hk.pos;lia
   | bin h hk hl=>have:=hk.pos;have:=hl.pos;split at e <;> lia
 refine ⟨by lia,rfl,List.nodup_nil,fun c=>?_,by simp [lget],fun c hc=>i1a2 1 (by lia) ((hd c).mp hc),fun c hc=>.inl ((hd c).mpr hc),fun u1_ k h1 h2 c=>?_⟩
 ·simp [not_upto0]
 ·have:k=1:=by exact Nat.le_antisymm ‹_› ‹_›
  clear h1 h2;subst this;exact hd c
noncomputable def setAll (m:Nat) (fd:List (Nat × Nat)) (lot:List Nat):List (Nat × Nat):=lot.foldl (fun fd c=>if (lget fd c).isSome then fd else fd++[(c,m)]) fd
theorem setAll_keys {m:Nat}:∀ {lot:List Nat} {fd:List (Nat × Nat)} {c:Nat},c∈(setAll m fd lot).map (·.1)↔c∈fd.map (·.1)∨c∈lot:=by
 intro lot;induction lot with
 | nil=>
  intro fd c;simp [setAll]
 | cons a lot ih_=>
  intro fd c;have ih:=fun fd'=>ih_ (fd:=fd') (c:=c);unfold setAll at ih ⊢;simp only [List.foldl_cons,ih];split
  ·rename_i hs;have:=lget_isSome.mp hs;simp only [List.mem_cons];constructor
   ·rintro (h | h)
    ·exact .inl h
    ·exact .inr (.inr h)
   ·rintro (h | rfl | h)
    ·exact .inl h
    ·exact .inl this
    ·exact .inr h
  ·simp only [List.map_append,List.map_cons,List.map_nil,List.mem_append,List.mem_cons,List.not_mem_nil,or_false];constructor
   ·rintro ((h | h) | h)
    ·exact .inl h
    ·exact .inr (.inl h)
    ·exact .inr (.inr h)
   ·rintro (h | h | h)
    ·exact .inl (.inl h)
    ·exact .inl (.inr h)
    ·exact .inr h
theorem setAll_nd {m:Nat}:∀ {lot:List Nat} {fd:List (Nat × Nat)},(fd.map (·.1)).Nodup→((setAll m fd lot).map (·.1)).Nodup:=by
 intro lot;induction lot with
 | nil=>
  intro fd h;exact h
 | cons a lot ih_=>
  intro fd h;have ih:=fun fd'=>ih_ (fd:=fd');unfold setAll at ih ⊢;simp only [List.foldl_cons];apply ih;split
  ·exact h
  ·rename_i hs;refine List.map_append▸?_;refine List.nodup_append.mpr ?_;refine i0a3 h (by simp) (fun x hx y hy=>?_);simp at hy;subst hy;intro e;subst e;exact hs (lget_isSome.mpr hx)
theorem setAll_val {m:Nat}:∀ {lot:List Nat} {fd:List (Nat × Nat)} {c v:Nat},lget (setAll m fd lot) c=some v→lget fd c=some v∨(v=m∧c∈lot∧lget fd c=none):=by
 intro lot;induction lot with
 | nil=>
  intro fd c v h;exact .inl h
 | cons a lot ih_=>
  intro fd c v h;unfold setAll at h;rw [List.foldl_cons] at h;have ih:=ih_ (fd:=if (lget fd a).isSome then fd else fd++[(a,m)]) (c:=c) (v:=v) h;split at ih
  ·rcases ih with ih | ⟨h1,h2,h3⟩
   ·exact .inl ih
   ·exact .inr (i0a3 h1 (by simp [h2]) h3)
  ·rename_i hs;rw [lget_append,lget_cons] at ih;simp only at ih;clear h;induction e:lget fd c with
   | some w=>rw [e] at ih;simp at ih;left;exact ih▸rfl
   | none=>
    rw [e] at ih;by_cases ac:a=c
    ·clear e;subst ac;simp at ih;exact .inr (i0a3 ih.symm z_m0 rfl)
    ·simp [ac,lget] at ih;exact .inr (i0a3 ih.1 (by simp [ih.2]) rfl)
theorem LeastInv.seen {m:Nat} {ll:List (List Nat)} {fd:List (Nat × Nat)} (h:LeastInv dep tb m ll fd) :
  (∀ c,c∈(setAll m fd (ll.getD m [])).map (·.1)↔Upto dep tb m c)∧(∀ c v,lget (setAll m fd (ll.getD m [])) c=some v→Least dep tb v c):=by
 have hm:m - 1+1=m:=by have:=h.pos;exact Nat.sub_add_cancel ‹_›
 constructor
 ·intro c;rw [setAll_keys,h.keys];constructor
  ·rintro (a | a)
   ·exact a.mono (by exact Nat.sub_le _ _)
   ·exact h.lot1 c a
  ·intro a;rw [← hm,Upto.succ,hm] at a;refine Or.elim a (fun a=>?_) fun a=>?_
   ·exact .inl a
   ·exact (h.lot2 c a).symm
 ·intro c v hv;rcases setAll_val hv with hv | ⟨rfl,hc,hn⟩
  ·exact h.val c v hv
  ·have hnu:¬ Upto dep tb (v - 1) c:=by rw [← h.keys,← lget_isSome,hn];simp
   have hu:=h.lot1 c hc;rw [← hm,Upto.succ,hm] at hu;refine ⟨hu.resolve_left hnu,fun w hw=>?_⟩;by_cases hlt:v≤w
   ·exact hlt
   ·exact absurd (i1a2 w (by lia) hw) hnu
set_option tactic.hygienic true in
theorem LeastInv.next {m:Nat} {ll:List (List Nat)} {fd:List (Nat × Nat)} (h:LeastInv dep tb m ll fd) {lot:List Nat}
  (hd:dep=true→∀ c,c∈lot↔∃ o ks,tb ⟨o,ks⟩ c∧((∃ k,ks=[k]∧Upto dep tb m k)∨∃ k l,ks=[k,l]∧Upto dep tb m k∧Upto dep tb m l))
  (hs:dep=false→∀ c,c∈lot↔∃ o ks,tb ⟨o,ks⟩ c∧((∃ k,ks=[k]∧k∈ll.getD m [])∨∃ k l j,ks=[k,l]∧1≤j∧j < m∧k∈ll.getD j []∧l∈ll.getD (m - j) [])) :
  LeastInv dep tb (m+1) (ll++[lot]) (setAll m fd (ll.getD m [])):=by
 refine e0a2 h.seen fun s1 s2=>?_;have hp:=h.pos;have hl:(ll++[lot]).getD (m+1) []=lot:=by
  have:=h.len;simp [List.getD_eq_getElem?_getD,List.getElem?_append,this]
 have ho:∀ k,k≤m→(ll++[lot]).getD k []=ll.getD k []:=fun k hk=>by
  have:=h.len;simp [List.getD_eq_getElem?_getD,List.getElem?_append,show k < ll.length by exact y70 (by assumption) (by assumption)]
 have key:(∀ c,c∈lot→Upto dep tb (m+1) c)∧(∀ c,Der dep tb (m+1) c→c∈lot)∧(dep=false→∀ c,c∈lot→Der dep tb (m+1) c):=by
  clear s1 s2 hl ho;induction dep with
  | true=>
   have hd:=hd rfl;refine i0a3 (fun c hc=>?_) (fun c hc=>?_) (fun e=>nomatch e)
   ·obtain ⟨o,ks,ht,⟨k,rfl,v,hv1,hv2⟩ | ⟨k,l,rfl,⟨v,hv1,hv2⟩,w,hw1,hw2⟩⟩:=(hd c).mp hc
    ·exact i1a2 (1+v) (y76 hv1) (.un ht hv2)
    ·exact i1a2 (1+max v w) (y77 hv1 hw1) (.bin ht hv2 hw2)
   ·generalize e:m+1=u at hc;cases hc with
    | leaf h=>lia
    | un ht hk=>exact (hd c).mpr (i2a2 _ _ ht (.inl ⟨_,rfl,_,Nat.le_of_eq (Nat.succ.inj (e.trans (Nat.add_comm 1 _))).symm,hk⟩))
    | bin ht hk hl=>
     rw [if_pos rfl] at e;exact (hd c).mpr ⟨_,_,ht,.inr ⟨_,_,rfl,i1a2 _ (Nat.le_trans (Nat.le_max_left _ _) (Nat.le_of_eq (Nat.succ.inj (e.trans (Nat.add_comm 1 _))).symm)) hk,_,Nat.le_trans (Nat.le_max_right _ _) (Nat.le_of_eq (Nat.succ.inj (e.trans (Nat.add_comm 1 _))).symm),hl⟩⟩
  | false=>
   have hs:=hs rfl;have ha:=h.all rfl;have g:∀ c,c∈lot→Der false tb (m+1) c:=fun c hc=>by
    obtain ⟨o,ks,ht,⟨k,rfl,hk⟩ | ⟨k,l,j,rfl,h1,h2,hk,hl⟩⟩:=(hs c).mp hc
    ·have:=Der.un (dep:=false) ht ((ha m hp (Nat.le_refl _) k).mp hk);rwa [Nat.add_comm] at this
    ·have:=Der.bin (dep:=false) ht ((ha j h1 (by exact Nat.le_of_lt ‹_›) k).mp hk) ((ha (m - j) (Nat.sub_pos_of_lt h2) (by exact Nat.sub_le _ _) l).mp hl);rw [if_neg (by simp),show 1+(j+(m - j))=m+1 from (congrArg (1 + ·) (Nat.add_sub_cancel' (Nat.le_of_lt h2))).trans (Nat.add_comm 1 m)] at this;exact this
   refine ⟨fun c hc=>i1a2 _ (Nat.le_refl _) (g c hc),fun c hc=>?_,fun _=>g⟩;generalize e:m+1=u at hc;clear hd g;cases hc with
   | leaf h=>lia
   | un ht hk=>
    rename_i v;have:v=m:=(Nat.succ.inj (e.trans (Nat.add_comm 1 v))).symm;clear e;subst this;exact (hs c).mpr ⟨_,_,ht,.inl (i1a2 _ rfl ((ha v hp (Nat.le_refl _) _).mpr hk))⟩
   | bin ht hk hl=>
    rename_i v w;rw [if_neg (by simp)] at e;have:=hk.pos;have:=hl.pos;have hw:w=m - v:=(Nat.sub_eq_of_eq_add' (Nat.succ.inj (e.trans (Nat.add_comm 1 _)))).symm;subst hw;exact (hs c).mpr ⟨_,_,ht,.inr (i3a5 _ _ v rfl (by lia) (by lia) ((ha v (by lia) (by lia) _).mpr hk) ((ha (m - v) (by assumption) (by exact Nat.sub_le _ _) _).mpr hl))⟩
 refine e0a3 key fun k1 k2 k3=>?_;refine ⟨by exact nbl rfl,by simp [h.len],setAll_nd h.nd,s1,s2,fun c hc=>k1 c (hl▸hc),fun c hc=>.inl (hl.symm▸k2 c hc),fun e k h1 h2 c=>?_⟩;by_cases hk:k=m+1
 ·clear h1 h2;subst hk;rw [hl];exact ⟨k3 e c,k2 c⟩
 ·refine ho k (y78 h2 hk)▸?_;exact h.all e k h1 (y78 h2 hk) c
end
set_option genInjectivity false in
set_option genSizeOf false in
structure KR where
 k:Addr
 dk:Addr
 va:Addr
 to:Addr
 an:Addr
 dan:Addr
noncomputable def kIn (K:KR) (dep:Bool) (hp:Addr) (vals:List (Nat × Nat)):List (Addr × Cell):=
 [(K.k,.inst .keeper K.dk),(K.dk,.sdict [(ofString "heap",.ref hp),(ofString "analysis",.ref K.an),(ofString "values",.ref K.va),(ofString "told",.ref K.to)]),
  (K.va,.idict (kvF nv vals)),(K.to,.idict []),(K.an,.inst (anCls dep) K.dan),(K.dan,.sdict [])]
theorem perm5 {α:Type} {A B D E P C:List α}:(P++(A++(B++(D++(E++C))))).Perm (A++(B++(D++(E++(P++C))))):=
 (perm4 (A:=A) (B:=B) (D:=D) (P:=P) (C:=E++C)).symm.trans ((((List.perm_append_comm_assoc P E C).append_left D).append_left B).append_left A)
theorem kp_heap {H:AH} {P L:List (Addr × Cell)} {R:HR} {S:HS} (h:Holds H (P++heapIn R S L)):Holds H (heapIn R S (P++L)):=h.perm perm5
theorem getD_ov {l:List (Nat × Nat)} {k:Nat}:(dget (kvF nv l) (k:Int)).getD .none=ov (lget l k):=by
 refine dget_kvF▸?_;cases lget l k <;> rfl
theorem Facts.m_an_joined {K:Frag} (Fk:Facts K) (dep:Bool):MethOK K (anCls dep).addr (ofString "joined") 42:=by induction dep <;> exact (Fk.meths rfl).1
theorem Facts.m_an_of {K:Frag} (Fk:Facts K) (dep:Bool):MethOK K (anCls dep).addr (ofString "of_node") (ofAddr dep):=by induction dep <;> exact (Fk.meths rfl).1
theorem Facts.k_an_of {K:Frag} (Fk:Facts K) (dep:Bool):keepIn K (.ref (ofAddr dep))=true:=by
 induction dep
 ·exact (Fk.meths (C:=.size) (x:=ofString "of_node") rfl).2
 ·exact (Fk.meths (C:=.depth) (x:=ofString "of_node") rfl).2
theorem Facts.joined' {K:Frag} (Fk:Facts K):keepIn K (.ref 42)=true:=(Fk.meths (C:=.depth) (x:=ofString "joined") rfl).2
section
variable {B:Bs} {n:Nat} {H:AH} {R:HR} {S:HS} {L:List (Addr × Cell)} {K:KR} {dep:Bool} {vals:List (Nat × Nat)}
theorem value_spec (Fk:Facts B.K) {c:Nat} (hh:Holds H (kIn K dep R.h vals++heapIn R S L)) (ok:UNok R.U S.un) (hc:c < S.un.par.length) {Q:QV} (q:Q (ov (lget vals (rt S.un.par c))) H):UC B (n+3) (.ref 89) [.ref K.k,nv c] H Q:=by
 refine UC.fn Fk 4 rfl rfl ?_;walk_at "evs";refine hfind_spec Fk (kp_heap hh) ok hc ?_;walk_at "evs";refine c_idictGet (hh.get 2 rfl) ?_;refine getD_ov▸?_;walk_at "evs";exact q
noncomputable def reckF (dep:Bool) (vals:List (Nat × Nat)) (f:Option Nat) (xs:List Nd):Option Nat:=xs.foldl (fun f y=>jn f (ofN dep (y.kids.map (lget vals)))) f
theorem reckF_snoc {dep:Bool} {vals:List (Nat × Nat)} {f:Option Nat} {xs:List Nd} {y:Nd}:reckF dep vals f (xs++[y])=jn (reckF dep vals f xs) (ofN dep (y.kids.map (lget vals))):=by simp [reckF]
theorem nds_get? {l:List Nd} {i:Nat} {v:V} (h:(l.map Nd.v)[i]? = some v):∃ y,l[i]? = some y∧v=y.v:=by
 replace h:=Option.map_eq_some_iff.mp (List.getElem?_map.symm.trans h);obtain ⟨y,h,rfl⟩:=h;exact i1a2 y h rfl
theorem reckoned_spec (Fk:Facts B.K) {c:Nat} {lo:List Nat} (hh:Holds H (kIn K dep R.h vals++heapIn R S L)) (ok:SOK R S) (hc:c < S.un.par.length) (hlo:S.un.lots[rt S.un.par c]? = some lo) (hs:lo.length≤12) (hb:∀ x∈lo,x < S.bank.nodes.length) {Q:QV}
  (q:∀ (xs:List Nd) H',(∀ y,y∈xs↔∃ i∈lo,y=canon S.un.par (S.bank.nodes.getD i ⟨ofString "",[]⟩))→Holds H' (kIn K dep R.h vals++heapIn R S L)→Q (ov (reckF dep vals (lget vals c) xs)) H'):UC B (n+5) (.ref 101) [.ref K.k,nv c] H Q:=by
 refine UC.fn Fk 6 rfl rfl ?_;walk_at "evs";refine c_idictGet (hh.get 2 rfl) ?_;simp only [getD_ov];walk_at "evs";refine Ex.forL Fk ?_;walk_at "evs";refine nodes_of_spec Fk (kp_heap hh) ok hc hlo hs hb fun d xs H1 hxl hx h1=>?_;have h2:Holds H1 ((d,.list (xs.map Nd.v))::(kIn K dep R.h vals++heapIn R S L)):=h1.perm (perm5.symm.cons _);clear h1 hh;have hk:∀ y∈xs,(nvs y.kids).length≤2:=fun y hy=>by
  refine e1a2 ((hx y).mp hy) fun j hj z11=>?_;clear hy;subst z11;have:=ok.bk.few _ (List.getElem_mem (hb j hj));simpa [canon,hb j hj] using this
 walk_at "evs";refine UI.list (h2.get 0 rfl) ⟨.mk (fun i ρ H'=>ρ=[(ofString "found",ov (reckF dep vals (lget vals c) (xs.take i))),(ofString "self",.ref K.k)]∧Holds H' ((d,.list (xs.map Nd.v))::(kIn K dep R.h vals++heapIn R S L))) ⟨_,.cons rfl (.cons rfl .nil),rfl,h2⟩ ?_ ?_⟩
 ·clear h2;rintro u1_ H' ⟨rfl,h3⟩;refine ⟨h3.get 0 rfl,?_⟩;rw [List.length_map,List.take_length];walk_at "evs";exact q xs _ hx h3.tail
 ·clear h2;rintro i v u2_ H' Qt hi ⟨rfl,h3⟩ kn;refine ⟨h3.get 0 rfl,?_⟩;refine e1a2 (nds_get? hi) fun y hyi z4=>?_;clear hi;subst z4;have hyk:=hk y (List.mem_of_getElem? hyi);walk_at "evs";refine Ex.compAs Fk ?_;walk_at "evs";refine Ev.from1V Fk ?_;walk_at "evs";refine i0a3 (Nat.succ_pos _) (Nat.succ_le_succ (Nat.le_trans hyk (by decide))) ?_;walk_at "evs";refine UI.tup ⟨.pure (Nat.le_trans hyk (by decide)) trivial (ovs (y.kids.map (lget vals))) (by simp) (fun j v Qe hj=>?_) fun D hD=>?_⟩
  ·refine e1a3 (pure_kids (g:=lget vals) (T:=ov) hj) fun k hkm z2 e=>?_;clear hj;subst z2;refine i1a2 _ e (fun ke=>?_);walk_at "evs";refine c_idictGet (h3.get 3 rfl) ?_;refine getD_ov▸?_;exact ke
  have h4:=h3.new (c:=.list (ovs (y.kids.map (lget vals)))) hD;clear h3;walk_at "evs";refine .mk _ (.inst (h4.get (a:=K.an) 6 rfl) (h4.get (a:=K.dan) 7 rfl) (Fk.cls _) (Fk.m_an_joined dep) rfl) (.inr (.inr Fk.joined')) ?_;walk_at "evs";refine .mk _ (.inst (h4.get (a:=K.an) 6 rfl) (h4.get (a:=K.dan) 7 rfl) (Fk.cls _) (Fk.m_an_of dep) rfl) (.inr (.inr (Fk.k_an_of dep))) ?_;walk_at "evs";refine u_tupGet (i:=0) rfl (Nat.succ_le_succ (Nat.le_trans hyk (by decide))) ?_;walk_at "evs";refine of_spec Fk dep (h4.get 0 rfl) (by simp at hyk ⊢;exact Nat.le_trans ‹_› (nbl rfl)) fun H2 hE=>?_;have h5:=h4.ext hE;clear h4 hE;walk_at "evs";refine joined_spec Fk ?_;walk_at "evs";exact kn _ _ ⟨_,.cons (by simp only [List.take_add_one,hyi,Option.toList_some,reckF_snoc];rfl) (.cons rfl .nil),rfl,h5.tail⟩
end
structure Begun (par:List Nat) (ms:List Nat) (vals fl:List (Nat × Nat)):Prop where
 nd:(fl.map (·.1)).Nodup
 up:∀ c∈ms,∀ v,lget vals c=some v→∃ w,w≤v∧lget fl (rt par c)=some w
 dn:∀ k w,lget fl k=some w→∃ c∈ms,rt par c=k∧lget vals c=some w
theorem Begun.nil {par:List Nat} {vals:List (Nat × Nat)}:Begun par [] vals []:=⟨List.nodup_nil,by simp,nofun⟩
theorem Begun.step {par ms:List Nat} {vals fl:List (Nat × Nat)} {c v:Nat} (h:Begun par ms vals fl) (hv:lget vals c=some v) {w:Nat} (hw:some w=jn (lget fl (rt par c)) (some v)):Begun par (ms++[c]) vals (lput fl (rt par c) w):=by
 have hwv:w≤v:=by
  cases e:lget fl (rt par c) <;> rw [e] at hw <;> simp [jn] at hw <;> first | exact Nat.le_of_eq hw | exact hw▸Nat.min_le_right _ _
 refine ⟨lput_nodup h.nd,fun d hd u hu=>?_,fun k x hk=>?_⟩
 ·refine lget_lput▸?_;refine Or.elim (List.mem_append.mp hd) (fun hd=>?_) fun hd=>?_
  ·refine e1a2 (h.up d hd u hu) fun x hx hx2=>?_;by_cases e:rt par d=rt par c
   ·rw [if_pos e];refine ⟨w,?_,rfl⟩;rw [e] at hx2;rw [hx2] at hw;simp [jn] at hw;exact hw▸Nat.le_trans (Nat.min_le_left _ _) hx
   ·rw [if_neg e];exact ⟨x,hx,hx2⟩
  ·simp at hd;clear hw;subst hd;replace hu:=hv.symm.trans hu;cases hu;refine if_pos rfl▸?_;exact ⟨w,hwv,rfl⟩
 ·rw [lget_lput] at hk;by_cases e:k=rt par c
  ·replace hk:=(if_pos e).symm.trans hk;cases hk;induction e2:lget fl (rt par c) with
   | none=>
    rw [e2] at hw;simp [jn] at hw;clear hwv;subst hw;exact i1a3 c (by simp) e.symm hv
   | some y=>
    rw [e2] at hw;simp [jn] at hw;refine Or.elim (Nat.le_total y v) (fun hle=>?_) fun hle=>?_
    ·have:w=y:=by lia
     clear hw hle;subst this;refine e1a3 (h.dn _ _ e2) fun d hd h1 h2=>?_;exact ⟨d,List.mem_append_left _ hd,by simp only [h1,e],h2⟩
    ·have:w=v:=by lia
     clear hwv hw hle;subst this;exact i1a3 c (by simp) e.symm hv
  ·rw [if_neg e] at hk;refine e1a3 (h.dn _ _ hk) fun d hd h1 h2=>?_;exact i1a3 d (List.mem_append_left _ hd) h1 h2
section
variable {B:Bs} {n:Nat} {H:AH} {R:HR} {S:HS} {L:List (Addr × Cell)} {K:KR} {dep:Bool} {vals:List (Nat × Nat)}
theorem c_sortedKeys {a:Addr} {l:List (Nat × Nat)} {Q:V→AH→Prop} (ha:H a=some (.idict (kvF nv l))) (hz:l.length < 64)
  (q:∀ (c:Addr) (ms:List Nat),H c=none→ms.Perm (l.map (·.1))→ms.Pairwise (·≤·)→Q (.ref c) (H.put c (.list (nvs ms)))):UC B n (.builtin "sorted") [.ref a] H Q:=by
 refine c_sortedDict ha (by refine kvF_len▸?_;exact hz) fun c ms hc hp hs=>?_;rw [kvF_keys] at hp;refine e1a2 (perm_nat hp) fun ks z1 hk=>?_;clear hp;subst z1;rw [← nvs_ints];refine q c ks hc hk ?_;replace hs:=List.pairwise_map.mp hs;exact hs.imp fun {a b} h=>by simpa using h
theorem Begun.small {par ms:List Nat} {vals fl:List (Nat × Nat)} (h:Begun par ms vals fl) (hb:∀ c∈ms,c < par.length) (hs:par.length≤12):fl.length≤12:=keys_small h.nd fun k hk=>by
 refine e1a1 (Option.isSome_iff_exists.mp (lget_isSome.mpr hk)) fun w hw=>?_;refine e1a3 (h.dn k w hw) fun c' hc' h1 u1_=>?_;have:=hb c' hc';have:=rt_le par c';lia
theorem begun_spec (Fk:Facts B.K) (hh:Holds H (kIn K dep R.h vals++heapIn R S L)) (ok:UNok R.U S.un) (nd:(vals.map (·.1)).Nodup) (hb:∀ c∈vals.map (·.1),c < S.un.par.length) {Q:QV}
  (q:∀ va fl ms H',ms.Perm (vals.map (·.1))→Begun S.un.par ms vals fl→Holds H' (kIn { K with va:=va } dep R.h fl++heapIn R S L)→Q .none H'):UC B (n+4) (.ref 96) [.ref K.k] H Q:=by
 refine UC.fn Fk 5 rfl rfl ?_;have hsm:vals.length≤12:=keys_small nd fun k hk=>Nat.lt_of_lt_of_le (hb k hk) ok.small;walk_at "evs";refine Ev.dict0 fun va hva=>?_;have h1:=hh.new (c:=.idict []) hva;clear hh;walk_at "evs";refine Ex.forL Fk ?_;walk_at "evs";refine c_sortedKeys (h1.get 3 rfl) (by lia) fun d ms hd hp u1_=>?_;have h2:=h1.new (c:=.list (nvs ms)) hd;clear h1;walk_at "evs";refine UI.list (h2.get 0 rfl) ⟨.fix [(ofString "found",.ref va),(ofString "self",.ref K.k)] rfl (fun i H'=>∃ fl,Begun S.un.par (ms.take i) vals fl∧Holds H' ((d,.list (nvs ms))::(va,.idict (kvF nv fl))::(kIn K dep R.h vals++heapIn R S L))) (i1a2 ([]) Begun.nil h2) ?_ ?_⟩
 ·clear h2;intro H' z5;refine e1a2 z5 fun fl hf h3=>?_;refine ⟨h3.get 0 rfl,?_⟩;rw [List.length_map,List.take_length] at hf;walk_at "evs";have h4:=h3.set (a:=K.dk) (c:=.sdict [(ofString "heap",.ref R.h),(ofString "analysis",.ref K.an),(ofString "values",.ref va),(ofString "told",.ref K.to)]) 3 rfl;exact q va fl ms _ hp hf ((h4.tail.sub (((List.sublist_cons_self (K.va,Cell.idict (kvF nv vals)) _).cons_cons _).cons_cons _ |>.cons_cons _)).perm (List.perm_middle (l₁:=[_,_])).symm)
 ·clear h2;intro i v H' Qt hi z3;refine e1a2 z3 fun fl hf h3=>?_;intro kn;refine ⟨h3.get 0 rfl,?_⟩;refine e1a2 (nvs_get? hi) fun c hci z2=>?_;clear hi;subst z2;have hck:c∈vals.map (·.1):=hp.mem_iff.mp (List.mem_of_getElem? hci);refine e1a1 (Option.isSome_iff_exists.mp (lget_isSome.mpr hck)) fun x hx=>?_;walk_at "evs";refine hfind_spec Fk (kp_heap (P:=_::_::kIn K dep R.h vals) h3) ok (hb c hck) ?_;walk_at "evs";refine .mk _ (.inst (h3.get (a:=K.an) 6 rfl) (h3.get (a:=K.dan) 7 rfl) (Fk.cls _) (Fk.m_an_joined dep) rfl) (.inr (.inr Fk.joined')) ?_;walk_at "evs";refine c_idictGet (h3.get 1 rfl) ?_;refine getD_ov▸?_;walk_at "evs";refine u_idictGet (v:=nv x) (h3.get 4 rfl) (by refine dget_kvF▸?_;refine hx▸?_;rfl) ?_;walk_at "evs";refine joined_spec Fk (y:=some x) ?_;obtain ⟨w,hw⟩:∃ w,some w=jn (lget fl (rt S.un.par c)) (some x):=by cases lget fl (rt S.un.par c) <;> exact ⟨_,rfl⟩
  rw [← hw];walk_at "evs";refine u_idictSet (h3.get 1 rfl) (by have:=hf.small (fun c hc=>hb c (hp.mem_iff.mp (List.mem_of_mem_take hc))) ok.small;refine kvF_len▸?_;exact Nat.le_trans ‹_› (nbl rfl)) ?_;rw [show dput (kvF nv fl) _ (ov (some w))=kvF nv (lput fl (rt S.un.par c) w) from dput_kvF];have h4:=h3.set (a:=va) (c:=.idict (kvF nv (lput fl (rt S.un.par c) w))) 1 rfl;walk_at "evs";exact kn _ _ rfl (i1a2 (lput fl (rt S.un.par c) w) (by rw [List.take_add_one,hci];exact hf.step hx hw) h4)
end
noncomputable abbrev tF:Unit→V:=fun _=>.bool true
noncomputable def pushL (par:List Nat) (st:List (Nat × Unit) × List Nat) (u:Nat):List (Nat × Unit) × List Nat:=
 if (lget st.1 (rt par u)).isSome then st else (st.1++[(rt par u,())],st.2++[rt par u])
structure KTurn (S:HS) (dep:Bool) (I:List (Nat × Nat)→List (Nat × Unit)→List Nat→Nat→Prop) (μ:List (Nat × Nat)→List (Nat × Unit)→List Nat→Nat→Nat) (vals:List (Nat × Nat)) (wt:List (Nat × Unit)) (row:List Nat) (spot:Nat):Prop where
 rl:row.length≤90000
 wl:wt.length≤12
 vl:vals.length≤12
 next:∀ c,row[spot]? = some c→c < S.un.par.length∧rt S.un.par c=c∧(lget wt c).isSome=true∧∃ lo e,S.un.lots[c]? = some lo∧lo.length≤12∧(∀ x∈lo,x < S.bank.nodes.length)∧e∈S.users∧e.k=c∧(∀ x∈e.l,x < S.un.par.length) ∧
  ∀ xs:List Nd,(∀ y,y∈xs↔∃ i∈lo,∃ x,S.bank.nodes[i]? = some x∧y=canon S.un.par x) →
   (reckF dep vals (lget vals c) xs=lget vals c→I vals (ldel wt c) row (spot+1)∧μ vals (ldel wt c) row (spot+1) < μ vals wt row spot) ∧
   (∀ w,reckF dep vals (lget vals c) xs=some w→some w≠lget vals c→∀ us:List Nat,us.Nodup→(∀ x,x∈us↔x∈e.l) →
    I (lput vals c w) (us.foldl (pushL S.un.par) (ldel wt c,row)).1 (us.foldl (pushL S.un.par) (ldel wt c,row)).2 (spot+1) ∧
    μ (lput vals c w) (us.foldl (pushL S.un.par) (ldel wt c,row)).1 (us.foldl (pushL S.un.par) (ldel wt c,row)).2 (spot+1) < μ vals wt row spot)
theorem jn_some {i:Nat} {y:Option Nat}:∃ j,jn (some i) y=some j:=by induction y <;> exact ⟨_,rfl⟩
theorem reckF_some {dep:Bool} {vals:List (Nat × Nat)}:∀ {xs:List Nd} {i:Nat},∃ j,reckF dep vals (some i) xs=some j:=by
 intro xs;induction xs with
 | nil=>
  intro i;exact ⟨i,rfl⟩
 | cons x xs ih_=>
  intro i;refine e1a1 (jn_some (i:=i) (y:=ofN dep (x.kids.map (lget vals)))) fun j hj=>?_;obtain ⟨k,hk⟩:=ih_ (i:=j);exact ⟨k,by simp only [reckF,List.foldl_cons,hj];exact hk⟩
theorem foldl_take {α β:Type} (f:β→α→β) (b:β) (l:List α) {i:Nat} {x:α} (h:l[i]? = some x):(l.take (i+1)).foldl f b=f ((l.take i).foldl f b) x:=by
 simp only [List.take_add_one,h,List.foldl_append];rfl
theorem push_len (par:List Nat):∀ (us:List Nat) (st:List (Nat × Unit) × List Nat),(us.foldl (pushL par) st).1.length≤st.1.length+us.length∧(us.foldl (pushL par) st).2.length≤st.2.length+us.length:=by
 intro us;induction us with
 | nil=>
  intro st;simp
 | cons u us ih_=>
  intro st;have ih:=ih_ (pushL par st u);have:(pushL par st u).1.length≤st.1.length+1∧(pushL par st u).2.length≤st.2.length+1:=by
   unfold pushL;split <;> simp
  exact ⟨Nat.le_trans ih.1 (Nat.le_trans (Nat.add_le_add_right this.1 _) (Nat.le_of_eq (Nat.add_right_comm _ 1 _))),Nat.le_trans ih.2 (Nat.le_trans (Nat.add_le_add_right this.2 _) (Nat.le_of_eq (Nat.add_right_comm _ 1 _)))⟩
theorem roots_nodup (par:List Nat):(roots par).Nodup:=List.nodup_range.filter _
section
variable {B:Bs} {n:Nat} {H:AH} {R:HR} {S:HS} {L:List (Addr × Cell)} {K:KR} {dep:Bool} {vals:List (Nat × Nat)}
theorem u_neOv {x y:Option Nat} {Q:V→AH→Prop} (q:Q (.bool (decide (x≠y))) H):U2 B n (compareOp .NotEq) (ov x) (ov y) H Q:=by
 induction x with
 | none=>
  induction y with
  | none=>exact u_neNoneNone (by simpa using q)
  | some j=>exact u_neNoneInt (by simpa using q)
 | some i=>
  induction y with
  | none=>exact u_neIntNone (by simpa using q)
  | some j=>
   refine u_neInt ?_;have:decide ((i:Int)≠(j:Int))=decide (some i≠some j):=by
    refine decide_eq_decide.mpr ?_;simp only [ne_eq,Option.some.injEq];lia
   rw [this];exact q
theorem k_front {A:List (Addr × Cell)} (h:Holds H (A++(kIn K dep R.h vals++heapIn R S L))):Holds H (kIn K dep R.h vals++heapIn R S (A++L)):=
 h.perm ((List.perm_append_comm_assoc A (kIn K dep R.h vals) _).trans (perm5.append_left _))
theorem k_back {A:List (Addr × Cell)} (h:Holds H (kIn K dep R.h vals++heapIn R S (A++L))):Holds H (A++(kIn K dep R.h vals++heapIn R S L)):=
 h.perm ((List.perm_append_comm_assoc A (kIn K dep R.h vals) _).trans (perm5.append_left _)).symm
theorem nodes_form {par:List Nat} {lo:List Nat} {nodes:List Nd} (hb:∀ x∈lo,x < nodes.length) {y:Nd}:(∃ i∈lo,y=canon par (nodes.getD i ⟨ofString "",[]⟩))↔∃ i∈lo,∃ x,nodes[i]? = some x∧y=canon par x:=by
 constructor
 ·intro z7;refine e1a2 z7 fun i hi z8=>?_;clear z7;subst z8;exact ⟨i,hi,_,List.getElem?_eq_getElem (hb i hi),by simp [hb i hi]⟩
 ·intro z3;refine e1a2 z3 fun i hi z4=>?_;refine e1a2 z4 fun x hx z5=>?_;clear z3 z4;subst z5;exact i1a2 i hi (by simp [hx])
theorem reck_news {dep:Bool} {vals:List (Nat × Nat)} {xs:List Nd} {c:Nat} (he:reckF dep vals (lget vals c) xs≠lget vals c):∃ w,reckF dep vals (lget vals c) xs=some w:=by
 induction hg:lget vals c with
 | some i=>exact reckF_some
 | none=>
  rw [hg] at he;induction hr:reckF dep vals none xs with
  | some w=>exact ⟨w,rfl⟩
  | none=>exact absurd hr he
theorem tF_new {l:List Nat} {i c:Nat} (nd:l.Nodup) (h:l[i]? = some c):dput (kvF tF ((l.take i).map fun c=>(c,()))) (c:Int) (.bool true)=kvF tF ((l.take (i+1)).map fun c=>(c,())):=by
 rw [show V.bool true=tF () from rfl,dput_kvF,lput_new,List.take_add_one,h]
 ·simp
 ·rw [lget_none,List.map_map];intro hin;have hin':c∈l.take i:=by simpa [Function.comp_def] using hin
  refine e1a1 (List.getElem?_eq_some_iff.mp h) fun hil hie=>?_;rw [(List.take_append_drop i l).symm,List.nodup_append] at nd;exact nd.2.2 _ hin' _ (by simp only [← hie,List.drop_eq_getElem_cons hil];exact List.mem_cons_self) rfl
theorem ksettle_spec (Fk:Facts B.K) (I:List (Nat × Nat)→List (Nat × Unit)→List Nat→Nat→Prop) (μ:List (Nat × Nat)→List (Nat × Unit)→List Nat→Nat→Nat)
  (hh:Holds H (kIn K dep R.h vals++heapIn R S L)) (ok:SOK R S) (nd:(vals.map (·.1)).Nodup) (hb:∀ c∈vals.map (·.1),c < S.un.par.length)
  (hI:∀ vals wt row spot,I vals wt row spot→KTurn S dep I μ vals wt row spot)
  (i0:∀ ms fl,ms.Perm (vals.map (·.1))→Begun S.un.par ms vals fl→I fl ((roots S.un.par).map fun c=>(c,())) (roots S.un.par) 0) {Q:QV}
  (q:∀ va fl wt row spot H',I fl wt row spot→row.length≤spot→Holds H' (kIn { K with va:=va } dep R.h fl++heapIn R S L)→Q .none H'):UC B (n+6) (.ref 106) [.ref K.k] H Q:=by
 refine UC.fn Fk 7 rfl rfl ?_;walk_at "evs";refine begun_spec Fk hh ok.un nd hb fun va fl ms H1 hp hf h1=>?_;have I0:=i0 ms fl hp hf;replace q:=q va;clear i0 hh hf hp;generalize hK1:({ K with va:=va }:KR)=K1 at h1 q;rw [show K.k=K1.k by exact (hK1).symm▸rfl];clear hK1;have hrl:(roots S.un.par).length≤12:=Nat.le_trans (Nat.le_trans (List.length_filter_le _ _) (Nat.le_of_eq List.length_range)) ok.un.small;walk_at "evs";refine hclasses_spec Fk (kp_heap h1) ok.un fun a H2 h2=>?_;have h3:Holds H2 ((a,.list (nvs (roots S.un.par)))::(kIn K1 dep R.h fl++heapIn R S L)):=h2.perm (perm5.symm.cons _);clear h1 h2;walk_at "evs";refine c_listList (h3.get 0 rfl) (by simp;lia) fun ar har=>?_;have h4:=(h3.new (c:=.list (nvs (roots S.un.par))) har).sub (L':=(ar,.list (nvs (roots S.un.par)))::(kIn K1 dep R.h fl++heapIn R S L)) ((List.sublist_cons_self _ _).cons_cons _);clear h3 har;generalize AH.put _ ar _=H3 at h4 ⊢;walk_at "evs";refine Ex.compAsD Fk ?_;walk_at "evs";refine UI.list (h4.get 0 rfl) ⟨⟨by simp;lia,fun i acc H'=>H'=H3∧acc=kvF tF (((roots S.un.par).take i).map fun c=>(c,())),⟨rfl,rfl⟩,?_,?_⟩⟩
 ·rintro acc H' ⟨rfl,rfl⟩;refine ⟨h4.get 0 rfl,fun aw haw=>?_⟩;rw [List.length_map,List.take_length];have h5:=(h4.new (c:=.idict (kvF tF ((roots S.un.par).map fun c=>(c,())))) haw)
  clear h4 haw;walk_at "evs";refine Ex.whileL Fk (fun k ρ H'=>∃ vals wt row spot,ρ=[(ofString "self",.ref K1.k),(ofString "row",.ref ar),(ofString "waiting",.ref aw),(ofString "spot",nv spot)]∧I vals wt row spot∧μ vals wt row spot=k ∧
   Holds H' ((aw,.idict (kvF tF wt))::(ar,.list (nvs row))::(kIn K1 dep R.h vals++heapIn R S L))) (μ fl ((roots S.un.par).map fun c=>(c,())) (roots S.un.par) 0) ⟨_,.cons rfl (.cons rfl (.cons rfl (.cons rfl .nil))),fl,_,_,0,rfl,I0,rfl,h5⟩ ?_
  clear h5 I0;intro k u1_ H' Qw z20;refine e4a4 z20 fun vals wt row spot z21 i1 z22 h6=>?_;clear z20;subst z21;subst z22;intro kw;have T:=hI _ _ _ _ i1;have trl:(nvs row).length≤100000:=by have:=T.rl;rw [List.length_map];exact Nat.le_trans ‹_› (nbl rfl)
  have twl:=T.wl;walk_at "evs";refine c_lenList (h6.get 1 rfl) trl ?_;rw [List.length_map];walk_at "evs";refine u_lt ?_;by_cases hlt:spot < row.length
  ·refine byes (by lia) ?_;obtain ⟨c,hc⟩:∃ c,row[spot]? = some c:=⟨_,List.getElem?_eq_getElem hlt⟩
   refine e0a4 (T.next c hc) fun c1 c2 c3 z16=>?_;refine e2a7 z16 fun lo e g1 g2 g3 g4 g5 g6 g7=>?_;walk_at "evs";refine Ex.swapV Fk [ofString "c",ofString "spot"] ?_;walk_at "evs";refine u_listGet (h6.get 1 rfl) (nvs_get hc) trl ?_;walk_at "evs";refine u_add ?_;rw [show (spot:Int)+1=(spot+1:Nat) from rfl];walk_at "evs";refine c_idictPop (v:=.bool true) (h6.get 0 rfl) (by rw [kvF_len];exact Nat.le_trans ‹_› (nbl rfl)) (by refine e1a1 (Option.isSome_iff_exists.mp c3) fun u hu=>?_;simp only [dget_kvF,hu];rfl) ?_;rw [ddel_kvF];have h7:=h6.set (a:=aw) (c:=.idict (kvF tF (ldel wt c))) 0 rfl;clear h6;walk_at "evs";refine reckoned_spec Fk (k_front (A:=[_,_]) h7) ok c1 (c2.symm▸g1) g2 g3 fun xs H2 hx h8=>?_;clear h7;have h8:=k_back (A:=[(aw,.idict (kvF tF (ldel wt c))),(ar,.list (nvs row))]) h8;refine e0a2 (g7 xs fun y=>(hx y).trans (nodes_form g3)) fun j1 j2=>?_;clear g7 hx;walk_at "evs";refine c_idictGet (h8.get 4 rfl) ?_;rw [getD_ov];walk_at "evs";refine u_neOv ?_;by_cases he:reckF dep vals (lget vals c) xs=lget vals c
   ·refine bno (fun h=>h he) ?_;walk_at "evs";refine e0a2 (j1 he) fun i2 lt2=>?_;exact kw _ _ _ lt2 ⟨_,.cons rfl (.cons rfl (.cons rfl (.cons rfl .nil))),vals,ldel wt c,row,spot+1,rfl,i2,rfl,h8⟩
   ·refine byes he ?_;refine e1a1 (reck_news he) fun w hw=>?_;have j3:=j2 w hw (hw▸he);rw [hw];clear j1 j2;walk_at "evs";refine u_idictSet (h8.get 4 rfl) (by rw [kvF_len];have:=T.vl;exact Nat.le_trans ‹_› (nbl rfl)) ?_;rw [show ov (some w)=nv w from rfl,dput_kvF];have h9:Holds _ ((aw,.idict (kvF tF (ldel wt c)))::(ar,.list (nvs row))::(kIn K1 dep R.h (lput vals c w)++heapIn R S L)):=h8.set (a:=K1.va) (c:=.idict (kvF nv (lput vals c w))) 4 rfl;clear h8 he hw;generalize lput vals c w=vals2 at h9 j3 ⊢;walk_at "evs";refine Ex.forL Fk ?_;walk_at "evs";refine husers_spec Fk (kp_heap (P:=_::_::kIn K1 dep R.h _) h9) ok c1 g4 (g5.trans c2.symm) (fun x hx=>Nat.lt_of_lt_of_le (g6 x hx) ok.un.small) fun d us H3 und ul hus h=>?_;clear h9;refine e0a2 (j3 us und hus) fun i3 lt3=>?_;have h10:Holds H3 ((d,.list (nvs us))::(aw,.idict (kvF tF (ldel wt c)))::(ar,.list (nvs row))::(kIn K1 dep R.h vals2++heapIn R S L)):=
     h.perm ((perm5 (P:=_::_::kIn K1 dep R.h vals2)).symm.cons _)
    clear h;walk_at "evs";refine UI.list (h10.get 0 rfl) ⟨.fix [(ofString "self",.ref K1.k),(ofString "row",.ref ar),(ofString "waiting",.ref aw),(ofString "spot",nv (spot+1))] rfl (fun i H'=>
     Holds H' ((d,.list (nvs us))::(aw,.idict (kvF tF ((us.take i).foldl (pushL S.un.par) (ldel wt c,row)).1))::(ar,.list (nvs ((us.take i).foldl (pushL S.un.par) (ldel wt c,row)).2))::(kIn K1 dep R.h vals2++heapIn R S L))) h10 ?_ ?_⟩
    ·clear h10;rintro H' h11;refine ⟨h11.get 0 rfl,?_⟩;rw [List.length_map,List.take_length] at h11;walk_at "evs";exact kw _ _ _ lt3 ⟨_,.refl,_,_,_,_,rfl,i3,rfl,h11.tail⟩
    ·clear h10 i3 lt3 j3;rintro i v H' Qt hi h11 kn;refine ⟨h11.get 0 rfl,?_⟩;refine e1a2 (nvs_get? hi) fun u hui z15=>?_;clear hi;subst z15;have hpl:=push_len S.un.par (us.take i) (ldel wt c,row);have hdl:(ldel wt c).length≤12:=Nat.le_trans (List.length_filter_le _ _) twl;have htk:(us.take i).length≤12:=Nat.le_trans (List.length_take_le' _ _) ul;rw [foldl_take _ _ _ hui] at kn;generalize (us.take i).foldl (pushL S.un.par) (ldel wt c,row)=st at h11 hpl kn;have hs1:st.1.length≤100:=by have:=hpl.1;lia
     have hs2:(nvs st.2).length≤100000:=by have:=hpl.2;have:=T.rl;rw [List.length_map];lia
     clear hpl hdl htk;walk_at "evs";refine hfind_spec Fk (kp_heap (P:=_::_::_::kIn K1 dep R.h _) h11) ok.un (g6 u ((hus u).mp (List.mem_of_getElem? hui))) ?_;walk_at "evs";refine u_idictNotIn (h11.get 1 rfl) ?_;rw [dget_kvF,Option.isSome_map];by_cases hin:(lget st.1 (rt S.un.par u)).isSome=true
     ·rw [pushL,if_pos hin] at kn;rw [hin];refine bno' rfl ?_;walk_at "evs";exact kn _ _ rfl h11
     ·rw [pushL,if_neg hin] at kn;rw [Bool.not_eq_true] at hin;rw [hin];refine byes' rfl ?_;walk_at "evs";refine u_idictSet (h11.get 1 rfl) (by rw [kvF_len];exact Nat.le_trans ‹_› (nbl rfl)) ?_;rw [show V.bool true=tF () from rfl,dput_kvF,lput_new (by simpa using hin)];have h12:=h11.set (a:=aw) (c:=.idict (kvF tF (st.1++[(rt S.un.par u,())]))) 1 rfl;clear h11;walk_at "evs";refine c_append (h12.get 2 rfl) hs2 ?_;simp only [nvs_snoc];have h13:=h12.set (a:=ar) (c:=.list (nvs (st.2++[rt S.un.par u]))) 2 rfl;clear h12;walk_at "evs";exact kn _ _ rfl h13
  ·refine bno (by lia) ?_;walk_at "evs";exact q vals wt row spot _ i1 (Nat.le_of_not_lt hlt) h6.tail.tail
 ·rintro i acc v H' hi ⟨rfl,rfl⟩;refine e1a2 (nvs_get? hi) fun c hci z9=>?_;clear hi;subst z9;exact ⟨h4.get 0 rfl,[_],rfl,Ev.name (by rfl) (by rfl) (i1a2 c rfl (Ev.cBool ⟨rfl,tF_new (roots_nodup _) hci⟩))⟩
end
noncomputable def rowCells (ra rc:Addr) (cells:List Int) (k:Nat):List (Addr × Cell):=[(ra,.sdict [(ofString "cells",.ref rc),(ofString "at",nv k)]),(rc,.list (cells.map V.int))]
theorem fmod_nat {a:Int} {b:Nat} (h:0 < b):∃ k:Nat,k < b∧a.fmod (b:Int)=k:=by
 have h1:=Int.fmod_nonneg_of_pos a (b:=(b:Int)) (Int.ofNat_lt.mpr h);have h2:=Int.fmod_lt_of_pos a (b:=(b:Int)) (Int.ofNat_lt.mpr h);exact (Int.eq_ofNat_of_zero_le h1).elim fun k e=>⟨k,Int.ofNat_lt.mp (e▸h2),e⟩
section
variable {B:Bs} {n:Nat} {H:AH} {L:List (Addr × Cell)}
theorem next_spec (Fk:Facts B.K) {ra rc:Addr} {cells:List Int} {k many:Nat} (hh:Holds H (rowCells ra rc cells k++L)) (hm:0 < many) (hc:cells.length≤48) (hk:k < 100000) {Q:QV} (q:∀ j H',j < many→Holds H' (rowCells ra rc cells (k+1)++L)→Q (nv j) H'):UC B (n+1) (.ref 502) [.ref ra,nv many] H Q:=by
 refine UC.fn Fk 34 rfl rfl ?_;walk_at "evs";refine u_sdictGet (hh.get 0 rfl) rfl ?_;walk_at "evs";refine u_add ?_;walk_at "evs";refine u_sdictSet (hh.get 0 rfl) (nbl rfl) ?_;rw [show dput [(ofString "cells",V.ref rc),(ofString "at",nv k)] (ofString "at") (.int ((k:Int)+1))=[(ofString "cells",V.ref rc),(ofString "at",nv (k+1))] from rfl];have h1:=hh.set (a:=ra) (c:=.sdict [(ofString "cells",V.ref rc),(ofString "at",nv (k+1))]) 0 rfl;clear hh;walk_at "evs";refine u_sdictGet (h1.get 0 rfl) rfl ?_;walk_at "evs";refine u_sdictGet (h1.get 0 rfl) rfl ?_;walk_at "evs";refine c_lenList (h1.get 1 rfl) (by simp;lia) ?_;walk_at "evs";refine u_le ?_;by_cases hlt:k < cells.length
 ·refine byes (by simp;lia) ?_;walk_at "evs";refine u_sdictGet (h1.get 0 rfl) rfl ?_;walk_at "evs";refine u_sdictGet (h1.get 0 rfl) rfl ?_;walk_at "evs";refine u_sub ?_;rw [show ((k+1:Nat):Int) - 1=(k:Nat) by simp];walk_at "evs";refine u_listGet (h1.get 1 rfl) (v:=.int cells[k]) (by simp [hlt]) (by simp;lia) ?_;walk_at "evs";refine u_mod (by lia) ?_;refine e1a2 (fmod_nat (a:=cells[k]) hm) fun j hj e3=>?_;simp only [e3];walk_at "evs";exact q j _ hj h1
 ·refine bno (by simp;lia) ?_;walk_at "evs";refine u_sdictGet (h1.get 0 rfl) rfl ?_;walk_at "evs";refine u_mul (by simp) (by lia) ?_;walk_at "evs";refine u_sdictGet (h1.get 0 rfl) rfl ?_;walk_at "evs";refine u_fdiv (by decide) (by decide) ?_;walk_at "evs";refine u_add ?_;walk_at "evs";refine u_mod (by lia) ?_;refine e1a2 (fmod_nat (a:=3 * ((k+1:Nat):Int)+Int.fdiv ((k+1:Nat):Int) 4) hm) fun j hj e3=>?_;rw [e3];walk_at "evs";exact q j _ hj h1
end
noncomputable def canonF (f:Nat→Nat) (x:Nd):Nd:=⟨x.op,x.kids.map f⟩
structure IsC (nodes:List Nd) (pairs:List (Nat × Nat)) (f:Nat→Nat):Prop where
 pair:∀ p∈pairs,f p.1=f p.2
 like:∀ i j x y,nodes[i]? = some x→nodes[j]? = some y→canonF f x=canonF f y→f i=f j
noncomputable abbrev hf (hm:List Nat):Nat→Nat:=fun k=>hm.getD k 0
structure NodesOK (nodes:List Nd):Prop where
 kids:∀ (i:Nat) x,nodes[i]? = some x→∀ k∈x.kids,k < i
 few:∀ x∈nodes,x.kids.length≤2
 small:nodes.length≤12
structure HomeOK (nodes:List Nd) (pairs:List (Nat × Nat)) (hm:List Nat):Prop where
 len:hm.length=nodes.length
 le:∀ i,hf hm i≤i
 sound:∀ f,IsC nodes pairs f→∀ i,i < nodes.length→f (hf hm i)=f i
structure Firsts (nodes:List Nd) (hm:List Nat) (i:Nat) (fl:List (Nd × Nat)) (t:List (Nat × Nat)):Prop where
 fl1:∀ y m,knGet fl y=some m→∃ x,nodes[m]? = some x∧y=canonF (hf hm) x
 t1:∀ n x,n < i→nodes[n]? = some x→∃ m,knGet fl (canonF (hf hm) x)=some m∧(m,n)∈t
 t2:∀ p∈t,∃ x y,nodes[p.1]? = some x∧nodes[p.2]? = some y∧canonF (hf hm) x=canonF (hf hm) y
 tl:t.length=i
 fll:fl.length≤i
noncomputable def tieStep (st:List Nat × Bool) (p:Nat × Nat):List Nat × Bool:=
 if hf st.1 p.1≠hf st.1 p.2 then (st.1.map (fun c=>if c=max (hf st.1 p.1) (hf st.1 p.2) then min (hf st.1 p.1) (hf st.1 p.2) else c),true) else st
theorem knGet_app {fl:List (Nd × Nat)} {x y:Nd} {m:Nat}:knGet (fl++[(x,m)]) y=(knGet fl y).or (if x=y then some m else none):=by
 unfold knGet;refine List.find?_append▸?_;induction h:List.find? (fun p=>decide (p.1=y)) fl with
 | some p=>rfl
 | none=>by_cases e:x=y <;> simp [e]
theorem Firsts.zero {nodes:List Nd} {hm:List Nat}:Firsts nodes hm 0 [] []:=⟨by simp [knGet],by simp,by simp,rfl,Nat.zero_le _⟩
theorem Firsts.old {nodes:List Nd} {hm:List Nat} {i m:Nat} {fl:List (Nd × Nat)} {t:List (Nat × Nat)} {x:Nd} (h:Firsts nodes hm i fl t) (hx:nodes[i]? = some x) (hg:knGet fl (canonF (hf hm) x)=some m):Firsts nodes hm (i+1) fl (t++[(m,i)]):=by
 refine ⟨h.fl1,fun n y hn hy=>?_,fun p hp=>?_,by simp [h.tl],Nat.le_succ_of_le h.fll⟩
 ·by_cases e:n < i
  ·refine e1a2 (h.t1 n y e hy) fun m' h1 h2=>?_;exact i1a2 m' h1 (List.mem_append_left _ h2)
  ·have:n=i:=by exact Nat.eq_of_lt_succ_of_not_lt ‹_› ‹_›
   clear h hn e;subst this;replace hy:=hx.symm.trans hy;cases hy;exact i1a2 m hg (by simp)
 ·refine Or.elim (List.mem_append.mp hp) (fun hp=>?_) fun hp=>?_
  ·exact h.t2 p hp
  ·simp at hp;subst hp;refine e1a2 (h.fl1 _ _ hg) fun z h1 h2=>?_;exact i2a3 z x h1 hx h2.symm
theorem Firsts.new {nodes:List Nd} {hm:List Nat} {i:Nat} {fl:List (Nd × Nat)} {t:List (Nat × Nat)} {x:Nd} (h:Firsts nodes hm i fl t) (hx:nodes[i]? = some x) (hg:knGet fl (canonF (hf hm) x)=none):Firsts nodes hm (i+1) (fl++[(canonF (hf hm) x,i)]) (t++[(i,i)]):=by
 refine ⟨fun y m hy=>?_,fun n y hn hy=>?_,fun p hp=>?_,by simp [h.tl],by have:=h.fll;simp;assumption⟩
 ·rw [knGet_app] at hy;induction e:knGet fl y with
  | some k=>rw [e] at hy;simp at hy;subst hy;exact h.fl1 _ _ e
  | none=>
   rw [e] at hy;by_cases c:canonF (hf hm) x=y
   ·simp [c] at hy;subst hy;exact i1a2 x hx c.symm
   ·simp [c] at hy
 ·by_cases e:n < i
  ·refine e1a2 (h.t1 n y e hy) fun m' h1 h2=>?_;exact ⟨m',by simp only [knGet_app,h1];rfl,List.mem_append_left _ h2⟩
  ·have:n=i:=by exact Nat.eq_of_lt_succ_of_not_lt ‹_› ‹_›
   clear h hn e;subst this;replace hy:=hx.symm.trans hy;cases hy;exact i1a2 n (by rw [knGet_app,hg];simp) (by simp)
 ·refine Or.elim (List.mem_append.mp hp) (fun hp=>?_) fun hp=>?_
  ·exact h.t2 p hp
  ·simp at hp;subst hp;exact i2a3 x x hx hx rfl
theorem hf_map {hm:List Nat} {g:Nat→Nat} {k:Nat} (h:k < hm.length):hf (hm.map g) k=g (hf hm k):=by
 simp [hf,h]
theorem canonF_sound {nodes:List Nd} {pairs:List (Nat × Nat)} {hm:List Nat} (h:HomeOK nodes pairs hm) (nk:NodesOK nodes) {f:Nat→Nat} (hc:IsC nodes pairs f) {i:Nat} {x:Nd} (hx:nodes[i]? = some x):canonF f (canonF (hf hm) x)=canonF f x:=by
 dsimp only [ canonF];simp only [List.map_map];congr 1;refine List.map_congr_left fun k hk=>?_;have h1:=nk.kids i x hx k hk;have h2:=(List.getElem?_eq_some_iff.mp hx).1;exact h.sound f hc k (by exact Nat.lt_of_lt_of_le ‹_› (Nat.le_of_lt ‹_›))
theorem tie_sound {nodes:List Nd} {pairs:List (Nat × Nat)} {hm:List Nat} {i:Nat} {fl:List (Nd × Nat)} {t:List (Nat × Nat)} (h:HomeOK nodes pairs hm) (nk:NodesOK nodes) (F:Firsts nodes hm i fl t) {f:Nat→Nat} (hc:IsC nodes pairs f) {p:Nat × Nat} (hp:p∈pairs++t):f p.1=f p.2:=by
 refine Or.elim (List.mem_append.mp hp) (fun hp=>?_) fun hp=>?_
 ·exact hc.pair p hp
 ·refine e2a3 (F.t2 p hp) fun x y hx hy e=>?_;refine hc.like _ _ x y hx hy ?_;simp only [← canonF_sound h nk hc hx,← canonF_sound h nk hc hy,e]
theorem tieStep_ok {nodes:List Nd} {pairs:List (Nat × Nat)} {st:List Nat × Bool} {p:Nat × Nat} (h:HomeOK nodes pairs st.1) (h1:p.1 < nodes.length) (h2:p.2 < nodes.length) (hs:∀ f,IsC nodes pairs f→f p.1=f p.2):HomeOK nodes pairs (tieStep st p).1:=by
 unfold tieStep;split
 ·rename_i hne;refine ⟨by simp [h.len],fun i=>?_,fun f hc i hi=>?_⟩
  ·by_cases hi:i < st.1.length
   ·refine hf_map hi▸?_;have:=h.le i;split
    ·exact Nat.le_trans y74 (Eq.subst (motive:=fun x=>x≤i) ‹_› this)
    ·exact this
   ·have:hf (st.1.map (fun c=>if c=max (hf st.1 p.1) (hf st.1 p.2) then min (hf st.1 p.1) (hf st.1 p.2) else c)) i=0:=by
     simp [hf,hi]
    refine this▸?_;exact Nat.zero_le _
  ·rw [hf_map (by refine h.len▸?_;exact hi)];have e1:=h.sound f hc p.1 h1;have e2:=h.sound f hc p.2 h2;have e3:=hs f hc;have e4:=h.sound f hc i hi;split
   ·rename_i e;simp only [← e4,e];refine Or.elim (Nat.le_total (hf st.1 p.1) (hf st.1 p.2)) (fun c=>?_) fun c=>?_
    ·simp only [Nat.min_eq_left c,Nat.max_eq_right c,e1,e2,e3]
    ·simp only [Nat.min_eq_right c,Nat.max_eq_left c,e1,e2,e3]
   ·exact e4
 ·exact h
theorem sum_map_le {l:List Nat} {g:Nat→Nat} (h:∀ x∈l,g x≤x):(l.map g).sum≤l.sum:=by
 induction l with
 | nil=>exact Nat.zero_le _
 | cons a l ih=>
  have h1:=h a z_m0;have h2:=ih fun x hx=>h x (by simp [hx]);simp only [List.map_cons,List.sum_cons];exact y55 (by assumption) (by assumption)
theorem sum_map_lt {l:List Nat} {g:Nat→Nat} (h:∀ x∈l,g x≤x) {y:Nat} (hy:y∈l) (hg:g y < y):(l.map g).sum < l.sum:=by
 induction l with
 | nil=>simp at hy
 | cons a l ih=>
  have h1:=h a z_m0;have h2:=sum_map_le (l:=l) (g:=g) fun x hx=>h x (by simp [hx]);simp only [List.map_cons,List.sum_cons];rcases List.mem_cons.mp hy with rfl | hy
  ·exact Nat.add_lt_add_of_lt_of_le hg h2
  ·exact Nat.add_lt_add_of_le_of_lt h1 (ih (fun x hx=>h x (by simp [hx])) hy)
theorem hf_mem {hm:List Nat} {k:Nat} (h:k < hm.length):hf hm k∈hm:=by
 have:hf hm k=hm[k]:=by simp [hf,h]
 simp only [this];exact List.getElem_mem h
theorem tieStep_less {st:List Nat × Bool} {p:Nat × Nat} (h1:p.1 < st.1.length) (h2:p.2 < st.1.length):(tieStep st p=st∧hf st.1 p.1=hf st.1 p.2)∨((tieStep st p).2=true∧(tieStep st p).1.sum < st.1.sum):=by
 unfold tieStep;split
 ·rename_i hne;refine .inr ⟨rfl,?_⟩;refine sum_map_lt (fun x hx=>?_) (y:=max (hf st.1 p.1) (hf st.1 p.2)) ?_ ?_
  ·split
   ·exact Nat.le_trans y74 (Nat.le_of_eq (Eq.symm ‹_›))
   ·exact Nat.le_refl _
  ·refine Or.elim (Nat.le_total (hf st.1 p.1) (hf st.1 p.2)) (fun c=>?_) fun c=>?_
   ·rw [Nat.max_eq_right c];exact hf_mem h2
   ·rw [Nat.max_eq_left c];exact hf_mem h1
  ·refine if_pos rfl▸?_;exact y01 (by assumption)
 ·rename_i h;exact .inl ⟨rfl,by simpa using h⟩
theorem ties_all {nodes:List Nd} {pairs:List (Nat × Nat)}:∀ (ts:List (Nat × Nat)) (st:List Nat × Bool),HomeOK nodes pairs st.1→(∀ p∈ts,p.1 < nodes.length∧p.2 < nodes.length∧∀ f,IsC nodes pairs f→f p.1=f p.2) →
  HomeOK nodes pairs (ts.foldl tieStep st).1∧((ts.foldl tieStep st=st∧∀ p∈ts,hf st.1 p.1=hf st.1 p.2)∨((ts.foldl tieStep st).2=true∧(ts.foldl tieStep st).1.sum < st.1.sum)):=by
 intro ts;induction ts with
 | nil=>
  intro st h _;exact ⟨h,.inl ⟨rfl,by simp⟩⟩
 | cons p ts ih_=>
  intro st h hp;refine e0a3 (hp p z_m0) fun a1 a2 a3=>?_;have h1:=tieStep_ok (st:=st) h a1 a2 a3;refine e0a2 (ih_ (tieStep st p) h1 fun q hq=>hp q (by simp [hq])) fun b1 b2=>?_;refine ⟨b1,?_⟩;simp only [List.foldl_cons];clear hp a3 h1 b1;rcases tieStep_less (st:=st) (p:=p) (by simp only [h.len];exact a1) (by simp only [h.len];exact a2) with ⟨c1,c2⟩ | ⟨c1,c2⟩
  ·rw [c1] at b2 ⊢;clear a1 a2 c1;rcases b2 with ⟨d1,d2⟩ | d
   ·exact .inl ⟨d1,fun q hq=>by rcases List.mem_cons.mp hq with rfl | hq;exact c2;exact d2 q hq⟩
   ·exact .inr d
  ·rcases b2 with ⟨d1,d2⟩ | ⟨d1,d2⟩
   ·rw [d1];exact .inr ⟨c1,c2⟩
   ·exact .inr ⟨d1,by exact Nat.lt_of_lt_of_le ‹_› (Nat.le_of_lt ‹_›)⟩
theorem round_done {nodes:List Nd} {pairs:List (Nat × Nat)} {hm:List Nat} {fl:List (Nd × Nat)} {t:List (Nat × Nat)} (h:HomeOK nodes pairs hm) (F:Firsts nodes hm nodes.length fl t) (hp:∀ p∈pairs++t,hf hm p.1=hf hm p.2):IsC nodes pairs (hf hm):=by
 refine ⟨fun p hq=>hp p (List.mem_append_left _ hq),fun i j x y hx hy e=>?_⟩;refine e1a2 (F.t1 i x (List.getElem?_eq_some_iff.mp hx).1 hx) fun m h1 h2=>?_;refine e1a2 (F.t1 j y (List.getElem?_eq_some_iff.mp hy).1 hy) fun m' h3 h4=>?_;rw [e] at h1;replace h3:=h1.symm.trans h3;cases h3;have e1:=hp _ (List.mem_append_right pairs h2);have e2:=hp _ (List.mem_append_right pairs h4);simp only at e1 e2;simp only [← e1,← e2]
theorem HomeOK.start {nodes:List Nd} {pairs:List (Nat × Nat)}:HomeOK nodes pairs (List.range nodes.length):=by
 refine ⟨by simp,fun i=>?_,fun f hc i hi=>?_⟩
 ·by_cases h:i < nodes.length <;> simp [hf,h]
 ·simp [hf,hi]
theorem rt_root {ab:List Nat} (hle:∀ i,ab.getD i i≤i) (a:Nat):ab.getD (rt ab a) (rt ab a)=rt ab a:=by
 induction a using Nat.strongRecOn with
 | _ a ih=>
  rw [rt_eq];split
  ·rename_i h;exact ih _ h
  ·rename_i h;have:=hle a;exact y38 (by assumption) (by assumption)
theorem rt_self {ab:List Nat} (hle:∀ i,ab.getD i i≤i) {a:Nat}:rt ab a=a↔ab.getD a a=a:=by
 constructor
 ·intro h;have:=rt_root hle a;rw [h] at this;exact this
 ·intro h;rw [rt_eq,if_neg (by lia)]
theorem getD_set {ab:List Nat} {y x a:Nat} (hy:y < ab.length):(ab.set y x).getD a a=if a=y then x else ab.getD a a:=by
 refine List.getD_eq_getElem?_getD.trans ?_;refine List.getElem?_set▸?_;by_cases h:a=y
 ·subst h;simp [hy]
 ·refine if_neg (Ne.symm h)▸?_;exact if_neg h▸rfl
theorem rt_set {ab:List Nat} (hle:∀ i,ab.getD i i≤i) {x y:Nat} (hx:rt ab x=x) (hy:rt ab y=y) (hxy:x < y) (hyl:y < ab.length) (a:Nat):rt (ab.set y x) a=if rt ab a=y then x else rt ab a:=by
 induction a using Nat.strongRecOn with
 | _ a ih=>
  rw [rt_eq (ab.set y x),getD_set hyl];by_cases h:a=y
  ·clear hyl;subst h;rw [if_pos rfl,if_pos hxy,ih x hxy,hx,if_neg (by exact Nat.ne_of_lt ‹_›),if_pos hy]
  ·refine if_neg h▸?_;by_cases hlt:ab.getD a a < a
   ·rw [if_pos hlt,ih _ hlt,rt_eq ab a,if_pos hlt]
   ·refine (if_neg hlt).trans ?_;have e:rt ab a=a:=by rw [rt_eq,if_neg hlt]
    rw [e,if_neg h]
theorem le_set {ab:List Nat} (hle:∀ i,ab.getD i i≤i) {x y:Nat} (hxy:x < y) (hyl:y < ab.length):∀ i,(ab.set y x).getD i i≤i:=fun i=>by
 refine getD_set hyl▸?_;split
 ·refine Nat.le_of_lt (Nat.lt_of_lt_of_le ‹_› ?_);exact Nat.le_of_eq (Eq.symm ‹_›)
 ·exact hle i
theorem mem_roots {ab:List Nat} (hle:∀ i,ab.getD i i≤i) {a:Nat}:a∈roots ab↔a < ab.length∧rt ab a=a:=by
 rw [roots,List.mem_filter,List.mem_range,rt_self hle];simp
theorem roots_set {ab:List Nat} (hle:∀ i,ab.getD i i≤i) {x y:Nat} (hx:rt ab x=x) (hy:rt ab y=y) (hxy:x < y) (hyl:y < ab.length):(roots (ab.set y x)).length+1=(roots ab).length:=by
 have e:roots (ab.set y x)=(roots ab).filter fun a=>decide (a≠y):=by
  simp only [roots,roots,List.length_set,List.filter_filter];refine List.filter_congr fun a ha=>?_;refine (getD_set hyl)▸?_;by_cases h:a=y
  ·clear hy hyl;subst h;simp;exact Nat.ne_of_lt ‹_›
  ·simp [h]
 have hm:y∈roots ab:=(mem_roots hle).mpr ⟨hyl,hy⟩;have hnd:(roots ab).Nodup:=List.nodup_range.filter _;refine e▸?_;have h1:((roots ab).filter fun a=>decide (a≠y))=(roots ab).erase y:=by
  rw [hnd.erase_eq_filter];refine List.filter_congr fun a u1_=>?_;by_cases h:a=y <;> simp [h]
 refine h1▸?_;refine List.length_erase_of_mem hm▸?_;have:=List.length_pos_of_mem hm;exact y50 (by assumption)
theorem roots_append {ab:List Nat}:(roots (ab++[ab.length])).length=(roots ab).length+1:=by
 simp only [roots,List.length_append,List.length_singleton,List.range_succ,List.filter_append,List.length_append,roots];congr 1
 ·congr 1;refine List.filter_congr fun a ha=>?_;replace ha:=List.mem_range.mp ha;simp [List.getD_eq_getElem?_getD,List.getElem?_append,ha]
 ·simp [List.filter_cons]
theorem canonF_canonF {f g:Nat→Nat} (h:∀ k,f (g k)=f k) (x:Nd):canonF f (canonF g x)=canonF f x:=by
 unfold canonF;simp only [List.map_map];congr 1;exact List.map_congr_left fun k u1_=>h k
theorem canonF_comp {f g:Nat→Nat} {x y:Nd} (h:canonF f x=canonF f y):canonF (fun k=>g (f k)) x=canonF (fun k=>g (f k)) y:=by
 simp only [canonF,Nd.mk.injEq] at h ⊢;refine ⟨h.1,?_⟩;have:=congrArg (List.map g) h.2;simpa [Function.comp_def] using this
structure HInv (R:HR) (S:HS) (pairs:List (Nat × Nat)) (out:Nat→Prop):Prop where
 bk:BNok S.bank
 un:UNok R.U S.un
 len:S.bank.nodes.length=S.un.par.length
 keys:(S.users.map (·.k)).Nodup
 kb:∀ e∈S.users,e.k < S.un.par.length
 roots:∀ k,k < S.un.par.length→rt S.un.par k=k→k∈S.users.map (·.k)
 eb:∀ e∈S.users,∀ x∈e.l,x < S.un.par.length
 es:(S.users.map (·.l.length)).sum≤2 * S.un.par.length
 sound:∀ f,IsC S.bank.nodes pairs f→∀ i,i < S.un.par.length→f (rt S.un.par i)=f i
 pin:∀ p∈pairs,rt S.un.par p.1=rt S.un.par p.2
 pb:∀ p∈pairs,p.1 < S.un.par.length∧p.2 < S.un.par.length
 kn:∀ x m,(x,m)∈S.known→∃ y,S.bank.nodes[m]? = some y∧canonF (rt S.un.par) y=canonF (rt S.un.par) x
 wb:∀ a∈S.waiting,a < S.un.par.length
 done:∀ n y,S.bank.nodes[n]? = some y→¬ out n→n∈S.waiting∨∃ m,knGet S.known (canonF (rt S.un.par) y)=some m∧rt S.un.par m=rt S.un.par n
 us:∀ n y,S.bank.nodes[n]? = some y→∀ k∈y.kids,n∈entL S.users (rt S.un.par k)
 lot:∀ i lo,S.un.lots[i]? = some lo→lo.Nodup∧(∀ a∈lo,a < S.un.par.length)∧(rt S.un.par i=i→∀ a,a∈lo↔a < S.un.par.length∧rt S.un.par a=i)
 cw:S.known.length+S.waiting.length+25 * (Mine.roots S.un.par).length≤26 * S.un.par.length
 ce:S.edges.length+(Mine.roots S.un.par).length≤pairs.length+S.un.par.length
 cf:S.forest.length+(Mine.roots S.un.par).length≤S.un.par.length
 cm:S.un.merged.length+(Mine.roots S.un.par).length≤S.un.par.length
theorem len_le_sum {es:List Ent} {e:Ent} (h:e∈es):e.l.length≤(es.map (·.l.length)).sum:=by
 induction es with
 | nil=>simp at h
 | cons a es ih=>
  simp only [List.map_cons,List.sum_cons];rcases List.mem_cons.mp h with rfl | h
  ·exact Nat.le_add_right _ _
  ·have:=ih h;lia
section
variable {R:HR} {S:HS} {pairs:List (Nat × Nat)} {out:Nat→Prop}
theorem HInv.ent_le (h:HInv R S pairs out) {e:Ent} (he:e∈S.users):e.l.length≤24:=by
 have h1:=len_le_sum he;have h2:=h.es;have h3:=h.un.small;lia
theorem HInv.users_le (h:HInv R S pairs out):S.users.length≤12:=by
 have:=nodup_small h.keys fun x hx=>by
  refine e1a2 (List.mem_map.mp hx) fun e he z1=>?_;clear hx;subst z1;have:=h.kb e he;have:=h.un.small;exact Nat.lt_of_lt_of_le ‹_› ‹_›
 simpa using this
theorem HInv.sok (h:HInv R S pairs out) (hp:pairs.length≤100):SOK R S:=by
 have h3:=h.un.small;have h4:=h.cw;have h5:=h.ce;have h6:=h.cf;have h7:=h.cm;refine ⟨h.bk,h.un,h.len,h.keys,h.roots,by lia,by lia,by lia,by have:=h.users_le;exact Nat.le_trans ‹_› (nbl rfl),fun e he=>by have:=h.ent_le he;exact Nat.le_trans ‹_› (nbl rfl),by lia,by lia,fun lo hlo=>?_⟩;refine e1a1 (List.getElem?_of_mem hlo) fun i hi=>?_;refine e0a3 (h.lot i lo hi) fun a b u1_=>?_;have:=nodup_small a fun x hx=>by have:=b x hx;exact Nat.lt_of_lt_of_le ‹_› ‹_›
 exact Nat.le_trans ‹_› (nbl rfl)
theorem HInv.knb (h:HInv R S pairs out):∀ p∈S.known,p.2 < S.un.par.length:=fun p hp=>by
 refine e1a2 (h.kn p.1 p.2 hp) fun y hy u1_=>?_;simp only [← h.len];exact (List.getElem?_eq_some_iff.mp hy).1
theorem HInv.knl (h:HInv R S pairs out):S.known.length≤900:=by have:=h.cw;have:=h.un.small;lia
theorem knGet_mem {l:List (Nd × Nat)} {x:Nd} {m:Nat} (h:knGet l x=some m):(x,m)∈l:=by
 rw [knGet,Option.map_eq_some_iff] at h;obtain ⟨p,hp,rfl⟩:=h;have h1:=List.mem_of_find?_eq_some hp;have h2:=List.find?_some hp;simp only [decide_eq_true_eq] at h2;refine (h2).symm▸?_;exact h1
theorem HInv.settled (h:HInv R S pairs out) (ho:∀ n,¬ out n) (hw:S.waiting=[]):IsC S.bank.nodes pairs (rt S.un.par):=by
 refine ⟨h.pin,fun i j x y hx hy e=>?_⟩;have h1:=(h.done i x hx (ho i)).resolve_left (by simp [hw]);have h2:=(h.done j y hy (ho j)).resolve_left (by simp [hw]);refine e1a2 h1 fun m a1 a2=>?_;refine e1a2 h2 fun m' b1 b2=>?_;replace a1:=b1.symm.trans (e▸a1);clear b1;cases a1;simp only [← a2,b2]
end
theorem entL_cons {e:Ent} {es:List Ent} {k:Nat}:entL (e::es) k=if e.k=k then e.l else entL es k:=by
 unfold entL;by_cases h:e.k=k <;> simp [h]
theorem entL_put_ne {f:Ent} {k:Nat} (h:k≠f.k):∀ {es:List Ent},entL (entPut es f) k=entL es k:=by
 intro es;induction es with
 | nil=>
  exact rfl
 | cons e es ih_=>
  have ih:=ih_;unfold entPut at ih ⊢;simp only [List.map_cons,entL_cons,entL_cons,ih];by_cases c:e.k=f.k
  ·rw [if_pos c,if_neg (Ne.symm h),if_neg (by lia)]
  ·rw [if_neg c]
theorem entL_put_eq {f:Ent}:∀ {es:List Ent},f.k∈es.map (·.k)→entL (entPut es f) f.k=f.l:=by
 intro es;induction es with
 | nil=>
  intro h;simp at h
 | cons e es ih_=>
  intro h;unfold entPut;refine List.map_cons▸?_;refine entL_cons.trans ?_;by_cases c:e.k=f.k
  ·rw [if_pos c,if_pos rfl]
  ·rw [if_neg c,if_neg c];exact ih_ (by rw [List.map_cons,List.mem_cons] at h;exact h.resolve_left (Ne.symm c))
theorem entL_del {y k:Nat} (h:k≠y):∀ {es:List Ent},entL (entDel es y) k=entL es k:=by
 intro es;induction es with
 | nil=>
  exact rfl
 | cons e es ih_=>
  have ih:=ih_;unfold entDel at ih ⊢;simp only [List.filter_cons,entL_cons];by_cases c:e.k=y
  ·rw [if_neg (by simp [c]),ih,if_neg (by lia)]
  ·rw [if_pos (by simp [c]),entL_cons,ih]
theorem entL_mem {es:List Ent} {k x:Nat} (h:x∈entL es k):∃ e∈es,e.k=k∧x∈e.l:=by
 induction es with
 | nil=>simp [entL] at h
 | cons e es ih=>
  rw [entL_cons] at h;by_cases c:e.k=k
  ·rw [if_pos c] at h;exact i1a3 e z_m0 c h
  ·rw [if_neg c] at h;refine e1a2 (ih h) fun f h1 h2=>?_;exact i1a2 f (by simp [h1]) h2
theorem sum_join {es:List Ent} (nd:(es.map (·.k)).Nodup) {x y:Nat} (hxy:x≠y) (hx:x∈es.map (·.k)) (hy:y∈es.map (·.k)) (d:Addr) :
  ((entPut (entDel es y) ⟨x,d,entL es x++entL es y⟩).map (·.l.length)).sum=(es.map (·.l.length)).sum:=by
 refine e3a2 (ent_split hy) fun p ey q hs z2=>?_;clear hy;subst z2;have e1:=entL_split hs nd;refine entDel_split hs nd▸?_;refine e1▸?_;have hx2:x∈(p++q).map (·.k):=by
  replace hx:=hs▸hx;simp only [List.map_append,List.map_cons,List.mem_append,List.mem_cons] at hx ⊢;rcases hx with h | h | h
  ·exact .inl h
  ·exact absurd h hxy
  ·exact .inr h
 have nd2:((p++q).map (·.k)).Nodup:=by
  rw [hs] at nd;exact nd.sublist (by simp)
 refine e3a2 (ent_split hx2) fun p2 ex q2 hs2 z1=>?_;clear hx hx2;subst z1;have e2:entL es ex.k=ex.l:=by
  have h:=entL_split hs2 nd2;refine (entL_del hxy (es:=es)).symm.trans ?_;refine (entDel_split hs nd)▸?_;exact h
 rw [e2,entPut_split (f:=⟨ex.k,d,ex.l++ey.l⟩) hs2 nd2 rfl,hs];have e3:=congrArg (fun l:List Ent=>(l.map (·.l.length)).sum) hs2;simp only [List.map_append,List.map_cons,List.sum_append,List.sum_cons,List.length_append] at e3 ⊢;lia
section
variable {R:HR} {S:HS} {pairs:List (Nat × Nat)} {out:Nat→Prop}
theorem HInv.join (h:HInv R S pairs out) {pairs':List (Nat × Nat)} {a b x y:Nat} (ha:a < S.un.par.length) (hb:b < S.un.par.length) (hne:rt S.un.par a≠rt S.un.par b) (hx:x=min (rt S.un.par a) (rt S.un.par b)) (hy:y=max (rt S.un.par a) (rt S.un.par b))
  (hs:∀ f,IsC S.bank.nodes pairs' f→IsC S.bank.nodes pairs f∧f a=f b) (hp:∀ p∈pairs',p∈pairs∨p=(a,b)) (hpl:pairs.length≤pairs'.length) (e f:V) (d:Addr) :
  HInv R (S.join x y e f d) pairs' out∧(∀ n z,S.bank.nodes[n]? = some z→n∈(S.join x y e f d).waiting∨canonF (rt (S.join x y e f d).un.par) z=canonF (rt S.un.par) z)∧rt (S.join x y e f d).un.par a=rt (S.join x y e f d).un.par b∧∀ i,rt (S.join x y e f d).un.par (rt S.un.par i)=rt (S.join x y e f d).un.par i:=by
 have hle:=h.un.le;have hra:rt S.un.par a < S.un.par.length:=Nat.lt_of_le_of_lt (rt_le _ _) ha;have hrb:rt S.un.par b < S.un.par.length:=Nat.lt_of_le_of_lt (rt_le _ _) hb;have hxy:x < y:=by exact y02 (by assumption) (by assumption) (by assumption)
 have hyl:y < S.un.par.length:=by exact y05 (by assumption) (by assumption) (by assumption)
 have hz:=y81 hx hy;have hxr:rt S.un.par x=x:=by
  refine Or.elim hz (fun c=>?_) fun c=>?_
  ·rw [c.1,rt_rt]
  ·rw [c.1,rt_rt]
 have hyr:rt S.un.par y=y:=by
  refine Or.elim hz (fun c=>?_) fun c=>?_
  ·rw [c.2,rt_rt]
  ·rw [c.2,rt_rt]
 have hrt:∀ k,rt (S.un.par.set y x) k=if rt S.un.par k=y then x else rt S.un.par k:=rt_set hle hxr hyr hxy hyl
 obtain ⟨g,hg⟩:∃ g:Nat→Nat,g=fun c=>if c=y then x else c:=⟨_,rfl⟩
 have hrg:∀ k,rt (S.un.par.set y x) k=g (rt S.un.par k):=fun k=>by simp only [hrt,hg]
 have hfun:rt (S.un.par.set y x)=fun k=>g (rt S.un.par k):=funext hrg;have hxk:=h.roots x (by exact y04 (by assumption) (by assumption)) hxr;have hyk:=h.roots y hyl hyr;have hent:∀ k,k≠y→entL (entPut (entDel S.users y) ⟨x,d,entL S.users x++entL S.users y⟩) k=if k=x then entL S.users x++entL S.users y else entL S.users k:=fun k hk=>by
  by_cases c:k=x
  ·clear hrt hg hrg hfun;subst c;refine if_pos rfl▸?_;refine entL_put_eq (f:=⟨k,d,entL S.users k++entL S.users y⟩) ?_;show k∈(entDel S.users y).map (·.k);rw [entDel_keys,List.mem_filter];exact ⟨hxk,by simpa using hk⟩
  ·rw [if_neg c,entL_put_ne c,entL_del hk]
 have hrab:g (rt S.un.par a)=g (rt S.un.par b):=by
  simp only [hg];refine Or.elim hz (fun c=>?_) fun c=>?_
  ·rw [if_neg fun e=>hne (e.trans c.2),if_pos c.2.symm];exact c.1.symm
  ·rw [if_pos c.2.symm,if_neg fun e=>hne (e.trans c.2).symm];exact c.1
 have hcan:∀ n z,S.bank.nodes[n]? = some z→n∈S.waiting++entL S.users y∨canonF (rt (S.un.par.set y x)) z=canonF (rt S.un.par) z:=fun n z hz=>by
  by_cases c:∃ k∈z.kids,rt S.un.par k=y
  ·refine e1a2 c fun k hk hky=>?_;have:=h.us n z hz k hk;rw [hky] at this;exact .inl (List.mem_append_right _ this)
  ·right;unfold canonF;congr 1;refine List.map_congr_left fun k hk=>?_;rw [hrt,if_neg fun e=>c (i1a2 k hk e)]
 have hsy:∀ f,IsC S.bank.nodes pairs' f→f x=f y:=fun f hf=>by
  refine e0a2 (hs f hf) fun h1 h2=>?_;have h3:=h.sound f h1 a ha;have h4:=h.sound f h1 b hb;rcases hz with c | c
  ·rw [c.1,c.2,h3,h4,h2]
  ·rw [c.1,c.2,h3,h4,h2]
 refine i0a4 ⟨h.bk,⟨by have:=h.un.ls;simp [HS.join,UN.merge,this],by have:=h.un.lots;simp [HS.join,UN.merge,this],by have:=h.un.small;simpa [HS.join,UN.merge] using this,le_set hle hxy hyl⟩,?_,?_,?_,?_,?_,?_,?_,?_,?_,?_,?_,?_,?_,?_,?_,?_,?_,?_⟩ hcan (by simp only [HS.join,UN.merge];simp only [hrg,hrg];exact hrab) (fun i=>by simp only [HS.join,UN.merge];simp only [hrg,hrg,rt_rt])
 ·simp [HS.join,UN.merge,h.len]
 ·show ((entPut (entDel S.users y) ⟨x,d,_⟩).map (·.k)).Nodup;simp only [entPut_keys,entDel_keys];exact h.keys.filter _
 ·intro e' he';have:e'.k∈(entPut (entDel S.users y) ⟨x,d,entL S.users x++entL S.users y⟩).map (·.k):=List.mem_map_of_mem he';rw [entPut_keys,entDel_keys,List.mem_filter] at this;refine e1a2 (List.mem_map.mp this.1) fun e2 he2 e3=>?_;have:=h.kb e2 he2;simp only [HS.join,UN.merge,List.length_set];refine Nat.lt_of_le_of_lt ?_ ‹_›;exact Nat.le_of_eq (Eq.symm ‹_›)
 ·intro k hk hkr;simp only [HS.join,UN.merge,List.length_set] at hk hkr ⊢;rw [entPut_keys,entDel_keys,List.mem_filter];rw [hrt] at hkr;by_cases c:rt S.un.par k=y
  ·rw [if_pos c] at hkr;clear hk;subst hkr;exact absurd (hxr.symm.trans c) (Nat.ne_of_lt hxy)
  ·rw [if_neg c] at hkr;exact ⟨h.roots k hk hkr,by simp;exact fun e=>c (hkr.trans e)⟩
 ·intro e' he' z hz;simp only [HS.join,UN.merge,List.length_set];refine e1a2 (List.mem_map.mp he') fun e2 he2 z10=>?_;clear he';subst z10;split at hz
  ·refine Or.elim (List.mem_append.mp hz) (fun hz=>?_) fun hz=>?_
   ·refine e1a3 (entL_mem hz) fun e3 h1 _ h3=>?_;exact h.eb e3 h1 z h3
   ·refine e1a3 (entL_mem hz) fun e3 h1 _ h3=>?_;exact h.eb e3 h1 z h3
  ·exact h.eb e2 ((List.mem_filter.mp he2).1) z hz
 ·have:=sum_join h.keys (Nat.ne_of_lt hxy) hxk hyk d;simp only [HS.join,UN.merge,List.length_set];refine this▸?_;exact h.es
 ·intro f' hf' i hi;simp only [HS.join,UN.merge,List.length_set] at hi ⊢;have h1:=h.sound f' (hs f' hf').1 i hi;rw [hrt];split
  ·rename_i c;simp only [hsy f' hf',← c,h1]
  ·exact h1
 ·intro p hp';simp only [HS.join,UN.merge];simp only [hrg,hrg];rcases hp p hp' with h1 | rfl
  ·exact h.pin p h1▸rfl
  ·exact hrab
 ·intro p hp';simp only [HS.join,UN.merge,List.length_set];rcases hp p hp' with h1 | rfl
  ·exact h.pb p h1
  ·exact ⟨ha,hb⟩
 ·intro z m hz;refine e1a2 (h.kn z m hz) fun w h1 h2=>?_;refine i1a2 w h1 ?_;simp only [HS.join,UN.merge];refine hfun▸?_;exact canonF_comp h2
 ·intro z hz;simp only [HS.join,UN.merge,List.length_set] at hz ⊢;refine Or.elim (List.mem_append.mp hz) (fun hz=>?_) fun hz=>?_
  ·exact h.wb z hz
  ·refine e1a3 (entL_mem hz) fun e3 h1 _ h3=>?_;exact h.eb e3 h1 z h3
 ·intro n z hz hn;rcases h.done n z hz hn with h1 | ⟨m,h1,h2⟩
  ·exact .inl (List.mem_append_left _ h1)
  ·rcases hcan n z hz with h3 | h3
   ·exact .inl h3
   ·right;refine ⟨m,?_,?_⟩
    ·simp only [HS.join,UN.merge];refine h3▸?_;exact h1
    ·simp only [HS.join,UN.merge];simp only [hrg,hrg,h2]
 ·intro n z hz k hk;have h1:=h.us n z hz k hk;simp only [HS.join,UN.merge];rw [hrt];by_cases c:rt S.un.par k=y
  ·rw [if_pos c,hent x (Nat.ne_of_lt hxy),if_pos rfl];rw [c] at h1;exact List.mem_append_right _ h1
  ·rw [if_neg c,hent _ c];split
   ·rename_i c2;rw [c2] at h1;exact List.mem_append_left _ h1
   ·exact h1
 ·intro i lo hlo;simp only [HS.join,UN.merge,List.length_set] at hlo ⊢;have hll:=h.un.lots;rw [List.getElem?_set] at hlo;have hlx:S.un.lots[x]? = some (S.un.lots.getD x []):=by simp [y41 hll (Nat.lt_trans hxy hyl)]
  have hly:S.un.lots[y]? = some (S.un.lots.getD y []):=by simp [show y < S.un.lots.length by exact y41 (by assumption) (by assumption)]
  refine e0a3 (h.lot x _ hlx) fun x1 x2 x3=>?_;refine e0a3 (h.lot y _ hly) fun y1 y2 y3=>?_;have x3:=x3 hxr;have y3:=y3 hyr;by_cases c:x=i
  ·subst c;rw [if_pos rfl,if_pos (y41 hll (Nat.lt_trans hxy hyl))] at hlo;simp only [Option.some.injEq] at hlo;subst hlo;refine i0a3 ?_ (fun a ha=>?_) (fun _ a=>?_)
   ·rw [List.nodup_append];refine i0a3 x1 y1 (fun a ha b hb e=>?_);subst e;have h1:=((x3 a).mp ha).2;have h2:=((y3 a).mp hb).2;exact absurd (h1.symm.trans h2) (Nat.ne_of_lt hxy)
   ·refine Or.elim (List.mem_append.mp ha) (fun ha=>?_) fun ha=>?_
    ·exact x2 a ha
    ·exact y2 a ha
   ·simp only [List.mem_append,x3,y3,hrt];constructor
    ·rintro (⟨h1,h2⟩ | ⟨h1,h2⟩)
     ·exact ⟨h1,by rw [if_neg fun e=>Nat.ne_of_lt hxy (h2.symm.trans e)];exact h2⟩
     ·exact ⟨h1,by exact if_pos h2⟩
    ·intro z8;refine e0a2 z8 fun h1 h2=>?_;by_cases c:rt S.un.par a=y
     ·exact .inr ⟨h1,c⟩
     ·rw [if_neg c] at h2;exact .inl ⟨h1,h2⟩
  ·rw [if_neg c] at hlo;refine e0a3 (h.lot i lo hlo) fun z1 z2 z3=>?_;refine i0a3 z1 z2 (fun hi a=>?_);rw [hrt] at hi;by_cases c2:rt S.un.par i=y
   ·rw [if_pos c2] at hi;exact absurd hi c
   ·rw [if_neg c2] at hi;rw [z3 hi,hrt];constructor
    ·rintro ⟨h1,h2⟩;exact ⟨h1,by rw [if_neg fun e=>c2 (hi.trans (h2.symm.trans e))];exact h2⟩
    ·intro z4;refine e0a2 z4 fun h1 h2=>?_;by_cases c3:rt S.un.par a=y
     ·rw [if_pos c3] at h2;exact absurd h2 c
     ·rw [if_neg c3] at h2;exact ⟨h1,h2⟩
 ·have h1:=roots_set hle hxr hyr hxy hyl;have h2:=h.cw;have h3:(entL S.users y).length≤24:=by
   refine e3a2 (ent_split hyk) fun p ey q hs' z3=>?_;clear hy hxy hyl hyr hrt hg hrg hfun hyk hent hcan hsy h1;subst z3;refine entL_split hs' h.keys▸?_;exact h.ent_le (by refine hs'▸?_;simp)
  simp only [HS.join,UN.merge,List.length_set,List.length_append];exact y82 h1 h2 h3
 ·have h1:=roots_set hle hxr hyr hxy hyl;have h2:=h.ce;simp only [HS.join,UN.merge,List.length_set,List.length_append,List.length_singleton];lia
 ·have h1:=roots_set hle hxr hyr hxy hyl;have h2:=h.cf;simp only [HS.join,UN.merge,List.length_set,List.length_append,List.length_singleton];lia
 ·have h1:=roots_set hle hxr hyr hxy hyl;have h2:=h.cm;simp only [HS.join,UN.merge,List.length_set,List.length_append,List.length_singleton];lia
end
structure StepR (S S':HS):Prop where
 pre:∀ (n:Nat) (y:Nd),S.bank.nodes[n]? = some y→S'.bank.nodes[n]? = some y
 coarse:∀ i,i < S.un.par.length→rt S'.un.par (rt S.un.par i)=rt S'.un.par i
 le:S.un.par.length≤S'.un.par.length
theorem StepR.refl (S:HS):StepR S S:=⟨fun u1_ u2_ h=>h,fun i u3_=>rt_rt _ _,Nat.le_refl _⟩
theorem StepR.trans {S S' S'':HS} (a:StepR S S') (b:StepR S' S''):StepR S S'':=by
 refine ⟨fun n y h=>b.pre n y (a.pre n y h),fun i hi=>?_,Nat.le_trans a.le b.le⟩;have h1:=a.coarse i hi;have hr:rt S.un.par i < S.un.par.length:=Nat.lt_of_le_of_lt (rt_le _ _) hi;have h2:=b.coarse (rt S.un.par i) (Nat.lt_of_lt_of_le hr a.le);have h3:=b.coarse i (Nat.lt_of_lt_of_le hi a.le);simp only [← h2,h1,h3]
noncomputable def tbR (S:HS) (x:Nd) (c:Nat):Prop:=∃ (n:Nat) (y:Nd),S.bank.nodes[n]? = some y∧x=canonF (rt S.un.par) y∧c=rt S.un.par n
theorem Der.step {S S':HS} (st:StepR S S') (bk:BNok S.bank) (len:S.bank.nodes.length=S.un.par.length) {dep:Bool} {v c:Nat} (h:Der dep (tbR S) v c):Der dep (tbR S') v (rt S'.un.par c):=by
 refine h.mono (g:=rt S'.un.par) fun x c z1=>e2a3 z1 fun n y h1 h2 h3=>i2a3 n y (st.pre n y h1) ?_ ?_
 ·have hn:=(List.getElem?_eq_some_iff.mp h1).1;clear z1;subst h2;unfold canonF;refine List.map_map▸?_;congr 1;refine List.map_congr_left fun k hk=>?_;have:=bk.kids n y h1 k hk;exact st.coarse k (by lia)
 ·have hn:=(List.getElem?_eq_some_iff.mp h1).1;refine h3▸?_;exact st.coarse n (by exact y40 (by assumption) (by assumption))
section
variable {R:HR} {S:HS} {pairs:List (Nat × Nat)} {out:Nat→Prop}
theorem HInv.fill {n:Nat} (h:HInv R S pairs (fun k=>k=n)) (hd:∀ y,S.bank.nodes[n]? = some y→n∈S.waiting∨∃ m,knGet S.known (canonF (rt S.un.par) y)=some m∧rt S.un.par m=rt S.un.par n):HInv R S pairs (fun u1_=>False):=by
 have hdone:∀ (k:Nat) (y:Nd),S.bank.nodes[k]? = some y→¬ False→k∈S.waiting∨∃ m,knGet S.known (canonF (rt S.un.par) y)=some m∧rt S.un.par m=rt S.un.par k:=fun k y hy u2_=>by
  by_cases e:k=n
  ·clear h;subst e;exact hd y hy
  ·exact h.done k y hy e
 exact { h with done:=hdone }
theorem HInv.canon_sound (h:HInv R S pairs out) {f:Nat→Nat} (hf:IsC S.bank.nodes pairs f) {i:Nat} {x:Nd} (hx:S.bank.nodes[i]? = some x):canonF f (canonF (rt S.un.par) x)=canonF f x:=by
 unfold canonF;simp only [List.map_map];congr 1;refine List.map_congr_left fun k hk=>?_;have h1:=h.bk.kids i x hx k hk;have h2:=(List.getElem?_eq_some_iff.mp hx).1;exact h.sound f hf k (by refine (h.len).symm▸?_;exact Nat.lt_of_lt_of_le ‹_› (Nat.le_of_lt ‹_›))
theorem canonF_rt_rt {par:List Nat} {x:Nd}:canonF (rt par) (canonF (rt par) x)=canonF (rt par) x:=canonF_canonF (fun k=>rt_rt par k) x
set_option tactic.hygienic true in
theorem HInv.look {n:Nat} {x:Nd} {S':HS} (h:HInv R S pairs (fun k=>k=n)) (hx:S.bank.nodes[n]? = some x) (sl:S.known.length+S.waiting.length+25 * (Mine.roots S.un.par).length+1≤26 * S.un.par.length) (hl:Looked R S n x S') :
  HInv R S' pairs (fun _=>False)∧StepR S S'∧S'.bank=S.bank∧S'.waiting.length+25 * (Mine.roots S'.un.par).length≤S.waiting.length+25 * (Mine.roots S.un.par).length:=by
 have hn:n < S.un.par.length:=by simp only [← h.len];exact (List.getElem?_eq_some_iff.mp hx).1
 induction hl with
 | new hg=>
  refine i0a4 (HInv.fill (n:=n) ?_ fun y hy=>?_) ⟨fun _ _ e=>e,fun i _=>rt_rt _ _,Nat.le_refl _⟩ rfl (Nat.le_refl _)
  ·refine { h with kn:=fun z m hz=>?_,done:=fun k y hy hk=>?_,cw:=?_ }
   ·clear hn;rcases List.mem_append.mp hz with hz | hz
    ·exact h.kn z m hz
    ·rw [List.mem_singleton,Prod.mk.injEq] at hz;clear h;obtain ⟨rfl,rfl⟩:=hz;exact i1a2 x hx canonF_rt_rt.symm
   ·rcases h.done k y hy hk with h1 | ⟨m,h1,h2⟩
    ·exact .inl h1
    ·exact .inr (i1a2 m (by simp only [knGet_app,h1];rfl) h2)
   ·simp only [List.length_append,List.length_singleton];lia
  ·right;have e:S.bank.nodes[n]? = some y:=hy;replace e:=hx.symm.trans e;clear hy;cases e;refine i1a2 n ?_ rfl;refine knGet_app.trans ?_;have:canon S.un.par x=canonF (rt S.un.par) x:=rfl;rw [← this,hg];simp
 | same hg e=>
  rename_i m;refine i0a4 (h.fill fun y hy=>?_) (StepR.refl _) rfl (Nat.le_refl _);replace hy:=hx.symm.trans hy;cases hy;exact .inr (i1a2 m hg e)
 | join hg e e1 f d=>
  rename_i m;have hkm:=knGet_mem hg;refine e1a2 (h.kn _ _ hkm) fun z hz hzc=>?_;have hm:=h.knb _ hkm;have hlike:∀ f,IsC S.bank.nodes pairs f→f m=f n:=fun f hf=>by
   refine hf.like _ _ z x hz hx ?_;rw [← h.canon_sound hf hz,hzc,show canon S.un.par x=canonF (rt S.un.par) x from rfl,canonF_rt_rt,h.canon_sound hf hx]
  refine e0a4 (h.join (pairs':=pairs) (a:=m) (b:=n) hm hn e rfl rfl (fun f hf=>⟨hf,hlike f hf⟩) (fun p hp=>.inl hp) (Nat.le_refl _) e1 f d) fun h1 h2 h3 h4=>?_
  ·refine i0a4 (h1.fill fun y hy=>?_) ⟨fun _ _ e=>e,fun i _=>h4 i,by simp [HS.join,UN.merge]⟩ rfl ?_
   ·have e:S.bank.nodes[n]? = some y:=hy;replace e:=hx.symm.trans e;clear hy;cases e;rcases h2 n x hx with h5 | h5
    ·exact .inl h5
    ·right;refine i1a2 m ?_ h3;rw [h5];exact hg
   ·have hle:=h.un.le;have hra:rt S.un.par m < S.un.par.length:=Nat.lt_of_le_of_lt (rt_le _ _) hm;have hrb:rt S.un.par n < S.un.par.length:=Nat.lt_of_le_of_lt (rt_le _ _) hn;have hroot:∀ c,c=rt S.un.par m∨c=rt S.un.par n→rt S.un.par c=c:=by
     rintro c (rfl | rfl) <;> exact rt_rt _ _
    have hyl:max (rt S.un.par m) (rt S.un.par n) < S.un.par.length:=Nat.max_lt.mpr ⟨hra,hrb⟩;have hyr:=hroot (max (rt S.un.par m) (rt S.un.par n)) y87;have g1:=roots_set hle (hroot (min (rt S.un.par m) (rt S.un.par n)) y88) hyr (by exact y01 (by assumption)) hyl;have g3:(entL S.users (max (rt S.un.par m) (rt S.un.par n))).length≤24:=by
     refine e3a2 (ent_split (h.roots _ hyl hyr)) fun p ey q hs' hek=>?_;simp only [← hek,entL_split hs' h.keys];exact h.ent_le (by rw [hs'];simp)
    simp only [HS.join,UN.merge,List.length_append];lia
theorem HInv.told (h:HInv R S pairs (fun u1_=>False)) {a b:Nat} (ha:a < S.un.par.length) (hb:b < S.un.par.length) (e:V) (he:rt S.un.par a=rt S.un.par b):HInv R { S with edges:=S.edges++[e] } (pairs++[(a,b)]) (fun u2_=>False):=by
 have hs:∀ f,IsC S.bank.nodes (pairs++[(a,b)]) f→IsC S.bank.nodes pairs f:=fun f hf=>⟨fun p hp=>hf.pair p (List.mem_append_left _ hp),hf.like⟩
 refine { h with sound:=fun f hf i hi=>h.sound f (hs f hf) i hi,pin:=fun p hp=>?_,pb:=fun p hp=>?_,ce:=?_ }
 ·rcases List.mem_append.mp hp with hp | hp
  ·exact h.pin p hp
  ·simp at hp;subst hp;exact he
 ·rcases List.mem_append.mp hp with hp | hp
  ·exact h.pb p hp
  ·simp at hp;subst hp;exact ⟨ha,hb⟩
 ·have:=h.ce;simp only [List.length_append,List.length_singleton];lia
theorem HInv.toldJoin (h:HInv R S pairs (fun u1_=>False)) {a b:Nat} (ha:a < S.un.par.length) (hb:b < S.un.par.length) (hne:rt S.un.par a≠rt S.un.par b) (e f:V) (d:Addr) :
  HInv R (S.join (min (rt S.un.par a) (rt S.un.par b)) (max (rt S.un.par a) (rt S.un.par b)) e f d) (pairs++[(a,b)]) (fun u2_=>False)∧StepR S (S.join (min (rt S.un.par a) (rt S.un.par b)) (max (rt S.un.par a) (rt S.un.par b)) e f d):=by
 refine e0a4 (h.join (pairs':=pairs++[(a,b)]) ha hb hne rfl rfl (fun f hf=>⟨⟨fun p hp=>hf.pair p (List.mem_append_left _ hp),hf.like⟩,hf.pair (a,b) (by simp)⟩) (fun p hp=>by simpa using hp) (by simp) e f d) fun h1 u3_ u4_ h4=>?_;exact ⟨h1,⟨fun u5_ u6_ e=>e,fun i u7_=>h4 i,by simp [HS.join,UN.merge]⟩⟩
theorem entL_add {es:List Ent} {n k:Nat} {ks:List Nat}:entL (entAdd es n ks) k=if k∈ks∧k∈es.map (·.k) then entL es k++[n] else entL es k:=by
 induction es with
 | nil=>simp [entL,entAdd]
 | cons e es ih=>
  unfold entAdd at ih ⊢;simp only [List.map_cons,entL_cons,entL_cons,ih];by_cases c:e.k=k
  ·clear ih;subst c;by_cases c2:e.k∈ks
   ·rw [if_pos c2,if_pos rfl,if_pos ⟨c2,z_m0⟩,if_pos rfl]
   ·rw [if_neg c2,if_pos rfl,if_neg (fun h=>c2 h.1),if_pos rfl]
  ·have e1:(if e.k∈ks then ({ e with l:=e.l++[n] }:Ent) else e).k=e.k:=by split <;> rfl
   rw [e1,if_neg c,if_neg c];by_cases c2:k∈ks∧k∈es.map (·.k)
   ·rw [if_pos c2,if_pos ⟨c2.1,by simp only [List.map_cons,List.mem_cons];exact .inr c2.2⟩]
   ·rw [if_neg c2,if_neg];intro z4;refine e0a2 z4 fun h1 h2=>?_;simp only [List.map_cons,List.mem_cons] at h2;exact c2 ⟨h1,h2.resolve_left (Ne.symm c)⟩
theorem sum_add {es:List Ent} {n:Nat} {ks:List Nat}:((entAdd es n ks).map (·.l.length)).sum=(es.map (·.l.length)).sum+(es.filter fun e=>decide (e.k∈ks)).length:=by
 induction es with
 | nil=>exact rfl
 | cons e es ih=>
  unfold entAdd at ih ⊢;simp only [List.map_cons,List.map_cons,List.sum_cons,ih,List.map_cons,List.sum_cons,List.filter_cons];by_cases c:e.k∈ks
  ·rw [if_pos c,if_pos (by simpa using c)];simp only [List.length_append,List.length_cons,List.length_nil];lia
  ·rw [if_neg c,if_neg (by simpa using c)];lia
theorem rt_out {par:List Nat} {k:Nat} (h:par.length≤k):rt par k=k:=by
 rw [rt_eq,if_neg];simp [List.getD_eq_getElem?_getD,List.getElem?_eq_none h]
theorem HInv.grown (h:HInv R S pairs (fun u1_=>False)) {x:Nd} (ho:isOp x.op) (hk:∀ k∈x.kids,k < S.bank.nodes.length) (hf:x.kids.length≤2) (hs:S.bank.nodes.length < 12) (hm:x ∉ S.bank.nodes) (w d:Int) (a c:Addr) :
  HInv (R.grown c) (S.grown x w d a) pairs (fun k=>k=S.bank.nodes.length)∧StepR S (S.grown x w d a) ∧
   (S.grown x w d a).known.length+(S.grown x w d a).waiting.length+25 * (Mine.roots (S.grown x w d a).un.par).length+1≤26 * (S.grown x w d a).un.par.length:=by
 have hle:=h.un.le;have hlen:=h.len;have hrt:∀ i,i < S.un.par.length→rt (S.un.par++[S.un.par.length]) i=rt S.un.par i:=fun i hi=>rt_append hle hi;have hlast:rt (S.un.par++[S.un.par.length]) S.un.par.length=S.un.par.length:=rt_last;have hnode:∀ (n:Nat) (y:Nd),S.bank.nodes[n]? = some y→(S.bank.nodes++[x])[n]? = some y:=fun n y hy=>by
  rw [List.getElem?_append_left (List.getElem?_eq_some_iff.mp hy).1];exact hy
 have hnode':∀ (n:Nat) (y:Nd),(S.bank.nodes++[x])[n]? = some y→(S.bank.nodes[n]? = some y∧n < S.un.par.length)∨(n=S.un.par.length∧y=x):=fun n y hy=>by
  by_cases c:n < S.bank.nodes.length
  ·rw [List.getElem?_append_left c] at hy;exact .inl ⟨hy,hlen▸c⟩
  ·rw [List.getElem?_append_right (Nat.le_of_not_lt c)] at hy;have h0:n - S.bank.nodes.length=0:=Nat.lt_one_iff.mp (List.getElem?_eq_some_iff.mp hy).1;rw [h0] at hy;simp at hy;exact .inr ⟨y11 hlen c h0,hy.symm⟩
 have hcan:∀ (n:Nat) (y:Nd),S.bank.nodes[n]? = some y→canonF (rt (S.un.par++[S.un.par.length])) y=canonF (rt S.un.par) y:=fun n y hy=>by
  unfold canonF;congr 1;refine List.map_congr_left fun k hk=>?_;have h1:=h.bk.kids n y hy k hk;have h2:=(List.getElem?_eq_some_iff.mp hy).1;exact hrt k (hlen▸Nat.lt_trans h1 h2)
 have hc:∀ f,IsC (S.bank.nodes++[x]) pairs f→IsC S.bank.nodes pairs f:=fun f hf=>⟨hf.pair,fun i j y z hy hz e=>hf.like i j y z (hnode i y hy) (hnode j z hz) e⟩
 have hkeys:(S.users++[(⟨S.bank.nodes.length,a,[]⟩:Ent)]).map (·.k)=S.users.map (·.k)++[S.bank.nodes.length]:=by simp
 have hknd:((S.users++[(⟨S.bank.nodes.length,a,[]⟩:Ent)]).map (·.k)).Nodup:=by
  rw [hkeys,List.nodup_append];refine i0a3 h.keys (by simp) (fun z hz y hy=>?_);refine e1a2 (List.mem_map.mp hz) fun e he z15=>?_;clear hz;subst z15;have:=h.kb e he;exact fun e2=>Nat.ne_of_lt this (e2.trans ((List.mem_singleton.mp hy).trans hlen))
 have hentU:∀ k,k∈S.users.map (·.k)→entL (S.users++[(⟨S.bank.nodes.length,a,[]⟩:Ent)]) k=entL S.users k:=fun k hk=>by
  refine e3a2 (ent_split hk) fun p e q hs' z14=>?_;clear hk;subst z14;refine entL_split hs' h.keys▸?_;exact entL_split (p:=p) (q:=q++[⟨S.bank.nodes.length,a,[]⟩]) (by rw [hs'];simp) hknd
 have hrl:=roots_append (ab:=S.un.par);have hcw:=h.cw;refine i0a3 ⟨bn_more h.bk ho hk hf hs hm w d,⟨by have:=h.un.ls;simp [HR.grown,HS.grown,UN.make,this],by have:=h.un.lots;simp [HS.grown,UN.make,this],by simp [HS.grown,UN.make];exact hlen▸Nat.le_of_lt_succ hs,fun i=>?_⟩,?_,?_,?_,?_,?_,?_,?_,?_,?_,?_,?_,?_,?_,?_,?_,?_,?_,?_⟩ ⟨hnode,fun i hi=>?_,by simp [HS.grown,UN.make]⟩ ?_
 ·have:=hle i;simp only [HS.grown,UN.make,List.getD_eq_getElem?_getD,List.getElem?_append] at this ⊢;split
  ·exact this
  ·by_cases e:i=S.un.par.length
   ·clear this;subst e;simp
   ·rw [List.getElem?_eq_none (by simp;exact y10 (by assumption) (by assumption))];simp
 ·simp [HS.grown,UN.make,hlen]
 ·show ((entAdd _ _ _).map (·.k)).Nodup;rw [entAdd_keys];exact hknd
 ·intro e he;have:e.k∈(entAdd (S.users++[(⟨S.bank.nodes.length,a,[]⟩:Ent)]) S.bank.nodes.length (x.kids.map (rt S.un.par))).map (·.k):=List.mem_map_of_mem he;rw [entAdd_keys,hkeys] at this;simp only [HS.grown,UN.make,List.length_append,List.length_singleton];refine Or.elim (List.mem_append.mp this) (fun h1=>?_) fun h1=>?_
  ·refine e1a2 (List.mem_map.mp h1) fun e2 he2 e3=>?_;exact Nat.lt_succ_of_lt (e3▸h.kb e2 he2)
  ·exact Nat.lt_succ_of_le (Nat.le_of_eq ((List.mem_singleton.mp h1).trans hlen))
 ·intro k hk1 hk2;show k∈(entAdd _ _ _).map (·.k);simp only [entAdd_keys,hkeys];simp only [HS.grown,UN.make,List.length_append,List.length_singleton] at hk1 hk2;by_cases c:k < S.un.par.length
  ·rw [hrt k c] at hk2;exact List.mem_append_left _ (h.roots k c hk2)
  ·have:k=S.bank.nodes.length:=(y39 c hk1).trans hlen.symm;simp only [this];simp
 ·intro e he z hz;simp only [HS.grown,UN.make,List.length_append,List.length_singleton];refine e1a2 (List.mem_map.mp he) fun e2 he2 z13=>?_;clear he;subst z13;have hz2:z∈e2.l∨z=S.bank.nodes.length:=by
   split at hz
   ·simpa using hz
   ·exact .inl hz
  clear hz;rcases hz2 with hz2 | rfl
  ·refine Or.elim (List.mem_append.mp he2) (fun he2=>?_) fun he2=>?_
   ·exact Nat.lt_succ_of_lt (h.eb e2 he2 z hz2)
   ·simp at he2;subst he2;simp at hz2
  ·exact Nat.lt_succ_of_le (Nat.le_of_eq hlen)
 ·have h1:=sum_add (es:=S.users++[(⟨S.bank.nodes.length,a,[]⟩:Ent)]) (n:=S.bank.nodes.length) (ks:=x.kids.map (rt S.un.par));have h2:((S.users++[(⟨S.bank.nodes.length,a,[]⟩:Ent)]).filter fun e=>decide (e.k∈x.kids.map (rt S.un.par))).length≤2:=by
   have h3:(((S.users++[(⟨S.bank.nodes.length,a,[]⟩:Ent)]).filter fun e=>decide (e.k∈x.kids.map (rt S.un.par))).map (·.k)).Nodup:=hknd.sublist ((List.filter_sublist).map _);have h4:=List.Nodup.length_le_of_subset h3 (l₂:=x.kids.map (rt S.un.par)) fun z hz=>by
    refine e1a2r (x:=z) (List.mem_map.mp hz) fun e he=>?_;have:=(List.mem_filter.mp he).2;simpa using this
   simp only [List.length_map] at h4;exact Nat.le_trans h4 hf
  have h5:=h.es;simp only [HS.grown,UN.make,List.length_append,List.length_singleton];simp only [h1];simp only [List.map_append,List.map_cons,List.map_nil,List.sum_append,List.sum_cons,List.sum_nil,List.length_nil];exact y55 (by assumption) (by assumption)
 ·intro f hf' i hi;simp only [HS.grown,UN.make,List.length_append,List.length_singleton] at hi ⊢;by_cases c:i < S.un.par.length
  ·rw [hrt i c];exact h.sound f (hc f hf') i c
  ·rw [y39 c hi,hlast]
 ·intro p hp;obtain ⟨h1,h2⟩:=h.pb p hp;simp only [HS.grown,UN.make];simp only [hrt _ h1,hrt _ h2];exact h.pin p hp
 ·intro p hp;obtain ⟨h1,h2⟩:=h.pb p hp;simp only [HS.grown,UN.make,List.length_append,List.length_singleton];exact ⟨Nat.lt_succ_of_lt h1,Nat.lt_succ_of_lt h2⟩
 ·intro z m hz;refine e1a2 (h.kn z m hz) fun y h1 h2=>?_;refine i1a2 y (hnode m y h1) ?_;simp only [HS.grown,UN.make];simp only [hcan m y h1,h2];have h3:y.kids.map (rt S.un.par)=z.kids.map (rt S.un.par):=by
   simp only [canonF,Nd.mk.injEq] at h2;exact h2.2
  unfold canonF;congr 1;refine (List.map_congr_left fun k hk=>?_).symm;have h4:rt S.un.par k∈y.kids.map (rt S.un.par):=by refine h3▸?_;exact List.mem_map_of_mem hk
  refine e1a2 (List.mem_map.mp h4) fun k' hk' e=>?_;have h5:=h.bk.kids m y h1 k' hk';have h6:=(List.getElem?_eq_some_iff.mp h1).1;have h7:=rt_le S.un.par k';refine hrt k ?_;by_cases c:k < S.un.par.length
  ·exact c
  ·rw [rt_out (k:=k) (Nat.le_of_not_lt c)] at e;exact absurd (e▸Nat.lt_of_le_of_lt h7 (hlen▸Nat.lt_trans h5 h6)) c
 ·intro z hz;have:=h.wb z hz;simp only [HS.grown,UN.make,List.length_append,List.length_singleton];exact Nat.lt_succ_of_lt this
 ·intro n y hy hn;rcases hnode' n y hy with ⟨h1,h2⟩ | ⟨h1,_⟩
  ·rcases h.done n y h1 (fun f=>f) with h3 | ⟨m,h3,h4⟩
   ·exact .inl h3
   ·right;have hm:=h.knb _ (knGet_mem h3);simp only [HS.grown,UN.make];exact i1a2 m (by rw [hcan n y h1];exact h3) (by simp only [hrt m hm,hrt n h2];exact h4)
  ·exact absurd (h1.trans hlen.symm) hn
 ·intro n y hy k hk';simp only [HS.grown,UN.make];clear ho hf hm hnode hc;rcases hnode' n y hy with ⟨h1,h2⟩ | ⟨h1,rfl⟩
  ·have h3:=h.bk.kids n y h1 k hk';simp only [hrt k (Nat.lt_trans h3 h2),entL_add];have h5:=h.us n y h1 k hk';have h6:rt S.un.par k∈S.users.map (·.k):=h.roots _ (Nat.lt_of_le_of_lt (rt_le _ _) (Nat.lt_trans h3 h2)) (rt_rt _ _);rw [hentU _ h6];split
   ·exact List.mem_append_left _ h5
   ·exact h5
  ·have h3:=hk k hk';simp only [hrt k (hlen▸h3),entL_add];have h6:rt S.un.par k∈S.users.map (·.k):=h.roots _ (Nat.lt_of_le_of_lt (rt_le _ _) (hlen▸h3)) (rt_rt _ _);rw [if_pos ⟨List.mem_map_of_mem hk',by rw [hkeys];exact List.mem_append_left _ h6⟩,h1,hlen];simp
 ·intro i lo hlo;simp only [HS.grown,UN.make,List.length_append,List.length_singleton] at hlo ⊢;have hll:=h.un.lots;by_cases c:i < S.un.lots.length
  ·rw [List.getElem?_append_left c] at hlo;refine e0a3 (h.lot i lo hlo) fun z1 z2 z3=>?_;refine i0a3 z1 (fun b hb=>Nat.lt_succ_of_lt (z2 b hb)) (fun hi b=>?_);rw [hrt i (by exact y40 (by assumption) (by assumption))] at hi;rw [z3 hi];constructor
   ·rintro ⟨h1,h2⟩;exact ⟨Nat.lt_succ_of_lt h1,by refine hrt b h1▸?_;exact h2⟩
   ·rintro ⟨h1,h2⟩;by_cases c2:b < S.un.par.length
    ·rw [hrt b c2] at h2;exact ⟨c2,h2⟩
    ·rw [y39 c2 h1,hlast] at h2;exact absurd (y40 hll c) (h2▸Nat.lt_irrefl _)
  ·rw [List.getElem?_append_right (Nat.le_of_not_lt c)] at hlo;have h0:i - S.un.lots.length=0:=Nat.lt_one_iff.mp (List.getElem?_eq_some_iff.mp hlo).1;rw [h0] at hlo;simp at hlo;subst hlo;have hi:i=S.un.par.length:=by exact y11 (by assumption) (by assumption) (by assumption)
   refine i0a3 (by simp) (by simp) (fun u2_ b=>?_);simp only [List.mem_singleton];constructor
   ·rintro rfl;exact ⟨by simp,by simp only [hlast,hi]⟩
   ·rintro ⟨h1,h2⟩;by_cases c2:b < S.un.par.length
    ·rw [hrt b c2] at h2;exact absurd c2 (Nat.not_lt.mpr (hi▸h2▸rt_le S.un.par b))
    ·exact y39 c2 h1
 ·simp only [HS.grown,UN.make,List.length_append,List.length_singleton];rw [hrl];lia
 ·have:=h.ce;simp only [HS.grown,UN.make,List.length_append,List.length_singleton];simp only [hrl];lia
 ·have:=h.cf;simp only [HS.grown,UN.make,List.length_append,List.length_singleton];simp only [hrl];lia
 ·have:=h.cm;simp only [HS.grown,UN.make,List.length_append,List.length_singleton];simp only [hrl];lia
 ·simp only [HS.grown,UN.make];have:=rt_le S.un.par i;rw [hrt i hi,hrt _ (by exact y36 (by assumption) (by assumption)),rt_rt]
 ·simp only [HS.grown,UN.make,List.length_append,List.length_singleton];rw [hrl];lia
end
theorem jn_le {x y:Option Nat} {w:Nat} (h:jn x y=some w):(x=some w∨y=some w)∧(∀ v,x=some v→w≤v)∧(∀ v,y=some v→w≤v):=by
 induction x with
 | none=>simp only [jn] at h;subst h;simp
 | some i=>
  induction y with
  | none=>simp only [jn] at h;simp at h;subst h;simp
  | some j=>
   simp only [jn,Option.some.injEq] at h;refine i0a3 ?_ (fun v hv=>by simp at hv;exact hv▸h▸Nat.min_le_left i j) (fun v hv=>by simp at hv;exact hv▸h▸Nat.min_le_right i j);refine Or.elim (Nat.le_total i j) (fun c=>?_) fun c=>?_
   ·left;congr 1;exact (Nat.min_eq_left c).symm.trans h
   ·right;congr 1;exact (Nat.min_eq_right c).symm.trans h
theorem jn_none {x y:Option Nat} (h:jn x y=none):x=none∧y=none:=by
 induction x <;> induction y <;> simp [jn] at h ⊢
theorem reckF_le {dep:Bool} {vals:List (Nat × Nat)}:∀ {xs:List Nd} {f:Option Nat} {w:Nat},reckF dep vals f xs=some w →
  (f=some w∨∃ y∈xs,ofN dep (y.kids.map (lget vals))=some w)∧(∀ v,f=some v→w≤v)∧∀ y∈xs,∀ v,ofN dep (y.kids.map (lget vals))=some v→w≤v:=by
 intro xs;induction xs with
 | nil=>
  intro f w h;have:f=some w:=h;subst this;simp
 | cons x xs ih_=>
  intro f w h;refine e0a3 (ih_ (f:=jn f (ofN dep (x.kids.map (lget vals)))) (w:=w) h) fun a1 a2 a3=>?_;refine i0a3 ?_ (fun v hv=>?_) (fun y hy v hv=>?_)
  ·rcases a1 with a1 | ⟨y,hy,e⟩
   ·refine Or.elim ((jn_le a1).1) (fun b=>?_) fun b=>?_
    ·exact .inl b
    ·exact .inr (i1a2 x z_m0 b)
   ·exact .inr (i1a2 y (by simp [hy]) e)
  ·refine e1a1 (jn_some (i:=v) (y:=ofN dep (x.kids.map (lget vals)))) fun j hj=>?_;replace hj:=(hv).symm▸hj;have h1:=(jn_le hj).2.1 v hv;have h2:=a2 j hj;lia
  ·clear h a1;rcases List.mem_cons.mp hy with rfl | hy
   ·induction hj:jn f (ofN dep (y.kids.map (lget vals))) with
    | none=>have:=(jn_none hj).2;replace hv:=this.symm.trans hv;exact z_ns hv
    | some j=>
     have h1:=(jn_le hj).2.2 v hv;have h2:=a2 j hj;lia
   ·exact a3 y hy v hv
theorem reckF_none {dep:Bool} {vals:List (Nat × Nat)}:∀ {xs:List Nd} {f:Option Nat},reckF dep vals f xs=none→f=none∧∀ y∈xs,ofN dep (y.kids.map (lget vals))=none:=by
 intro xs;induction xs with
 | nil=>
  intro f h;exact ⟨h,by simp⟩
 | cons x xs ih_=>
  intro f h;refine e0a2 (ih_ (f:=jn f (ofN dep (x.kids.map (lget vals)))) h) fun a1 a2=>?_;refine e0a2 (jn_none a1) fun b1 b2=>?_;exact ⟨b1,fun y hy=>by clear h a1;rcases List.mem_cons.mp hy with rfl | hy;exact b2;exact a2 y hy⟩
theorem ofN_eq {dep:Bool} {g:Nat→Option Nat} {ks:List Nat} (hl:ks.length≤2) {w:Nat} (h:ofN dep (ks.map g)=some w) :
  (ks=[]∧w=1)∨(∃ k v,ks=[k]∧g k=some v∧w=1+v)∨∃ k l v u,ks=[k,l]∧g k=some v∧g l=some u∧w=1+if dep then max v u else v+u:=by
 match ks,hl with
 | [],_=>left;simp [ofN,allS,agg0] at h;exact ⟨rfl,h.symm⟩
 | [k],_=>
  right;left;induction hk:g k with
  | none=>simp [ofN,allS,hk] at h
  | some v=>simp [ofN,allS,hk,agg1] at h;exact i2a3 k v rfl hk h.symm
 | [k,l],_=>
  right;right;induction hk:g k with
  | none=>simp [ofN,allS,hk] at h
  | some v=>
   induction hl:g l with
   | none=>simp [ofN,allS,hk,hl] at h
   | some u=>
    refine i4a4 k l v u rfl hk hl ?_;simp [ofN,allS,hk,hl,agg2] at h;exact h.symm
theorem ofN_of {dep:Bool} {g:Nat→Option Nat} {ks:List Nat} (hl:ks.length≤2) (h:∀ k∈ks,(g k).isSome=true):∃ w,ofN dep (ks.map g)=some w:=by
 match ks,hl with
 | [],_=>exact ⟨1,by simp [ofN,allS,agg0]⟩
 | [k],_=>
  obtain ⟨v,hv⟩:=Option.isSome_iff_exists.mp (h k z_m0);exact ⟨1+v,by simp [ofN,allS,hv,agg1]⟩
 | [k,l],_=>
  refine e1a1 (Option.isSome_iff_exists.mp (h k z_m0)) fun v hv=>?_;obtain ⟨u,hu⟩:=Option.isSome_iff_exists.mp (h l z_m1);exact ⟨_,by simp [ofN,allS,hv,hu,agg2];rfl⟩
structure KInv (dep:Bool) (S:HS) (vals:List (Nat × Nat)) (n0:Nat):Prop where
 le:n0≤S.un.par.length
 nd:(vals.map (·.1)).Nodup
 kb:∀ k∈vals.map (·.1),k < n0
 cov:∀ i,i < n0→rt S.un.par i=i→i∈vals.map (·.1)
 der:∀ k v,lget vals k=some v→Der dep (tbR S) v (rt S.un.par k)
 bnd:∀ k v,lget vals k=some v→v < 2 ^ (k+1)
theorem KInv.start {dep:Bool} {S:HS}:KInv dep S [] 0:=⟨Nat.zero_le _,List.nodup_nil,by decide,fun i h=>by exact (Nat.not_lt_zero _ ‹_›).elim,by simp [lget],by simp [lget]⟩
theorem KInv.step {dep:Bool} {S S':HS} {vals:List (Nat × Nat)} {n0:Nat} (h:KInv dep S vals n0) (st:StepR S S') (bk:BNok S.bank) (len:S.bank.nodes.length=S.un.par.length):KInv dep S' vals n0:=by
 have hn:=h.le;refine ⟨Nat.le_trans hn st.le,h.nd,h.kb,fun i hi hr=>h.cov i hi ?_,fun k v hv=>?_,h.bnd⟩
 ·have h1:=st.coarse i (by lia);have h2:=rt_le S.un.par i;have h3:=rt_le S'.un.par (rt S.un.par i);rw [h1,hr] at h3;exact Nat.le_antisymm ‹_› ‹_›
 ·have hk:=h.kb k (lget_isSome.mp (by refine hv▸?_;rfl));have:=(h.der k v hv).step st bk len;rwa [st.coarse k (by lia)] at this
section
variable {dep:Bool} {S:HS}
noncomputable def Stable (dep:Bool) (S:HS) (vals:List (Nat × Nat)) (c:Nat):Prop:=
 ∀ (n:Nat) (y:Nd),S.bank.nodes[n]? = some y→rt S.un.par n=c→∀ u,ofN dep ((canonF (rt S.un.par) y).kids.map (lget vals))=some u→∃ w,w≤u∧lget vals c=some w
noncomputable def phi (vals:List (Nat × Nat)) (rs:List Nat):Nat:=(rs.map fun c=>(lget vals c).getD (2 ^ (c+1))).sum
structure KLoop (dep:Bool) (S:HS) (vals:List (Nat × Nat)) (wt:List (Nat × Unit)) (row:List Nat) (spot:Nat):Prop where
 nd:(vals.map (·.1)).Nodup
 kr:∀ k∈vals.map (·.1),k∈roots S.un.par
 der:∀ c v,lget vals c=some v→Der dep (tbR S) v c
 bnd:∀ c v,lget vals c=some v→v < 2 ^ (c+1)
 rr:∀ c∈row,c∈roots S.un.par
 rs:∀ (i c:Nat),(roots S.un.par)[i]? = some c→row[i]? = some c
 wnd:(wt.map (·.1)).Nodup
 wk:∀ c,c∈wt.map (·.1)↔c∈row.drop spot
 rnd:(row.drop spot).Nodup
 vis:∀ c∈row.take spot,c∈vals.map (·.1)
 stb:∀ c,c∈roots S.un.par→c ∉ wt.map (·.1)→Stable dep S vals c
 big:row.length+12 * phi vals (roots S.un.par)≤60000
theorem sum_le_of {l:List Nat} {f g:Nat→Nat} (h:∀ x∈l,f x≤g x):(l.map f).sum≤(l.map g).sum:=by
 induction l with
 | nil=>exact Nat.zero_le _
 | cons a l ih=>
  have h1:=h a z_m0;have h2:=ih fun x hx=>h x (by simp [hx]);simp only [List.map_cons,List.sum_cons];exact y55 (by assumption) (by assumption)
theorem sum_lt_of {l:List Nat} {f g:Nat→Nat} (h:∀ x∈l,f x≤g x) {y:Nat} (hy:y∈l) (hg:f y < g y):(l.map f).sum < (l.map g).sum:=by
 induction l with
 | nil=>simp at hy
 | cons a l ih=>
  have h1:=h a z_m0;have h2:=sum_le_of (l:=l) (f:=f) (g:=g) fun x hx=>h x (by simp [hx]);simp only [List.map_cons,List.sum_cons];rcases List.mem_cons.mp hy with rfl | hy
  ·exact Nat.add_lt_add_of_lt_of_le hg h2
  ·exact Nat.add_lt_add_of_le_of_lt h1 (ih (fun x hx=>h x (by simp [hx])) hy)
theorem phi_put {vals:List (Nat × Nat)} {rs:List Nat} {c w:Nat} (hc:c∈rs) (hw:w < (lget vals c).getD (2 ^ (c+1))):phi (lput vals c w) rs+1≤phi vals rs:=by
 refine sum_lt_of (fun x u1_=>?_) hc ?_
 ·refine lget_lput▸?_;by_cases e:x=c
  ·clear hc;subst e;refine (if_pos rfl)▸?_;simp only [Option.getD_some];exact Nat.le_of_lt ‹_›
  ·refine if_neg e▸?_;exact Nat.le_refl _
 ·refine lget_lput▸?_;refine if_pos rfl▸?_;exact hw
theorem pow_sum:∀ n:Nat,((List.range n).map fun c=>2 ^ (c+1)).sum+2=2 ^ (n+1)
 | 0=>rfl
 | n+1=>by
  have ih:=pow_sum n;simp only [List.range_succ,List.map_append,List.sum_append];simp only [List.map_cons,List.map_nil,List.sum_cons,List.sum_nil];simp only [Nat.pow_succ 2 (n+1)];lia
theorem sum_filter_le (p:Nat→Bool) (f:Nat→Nat):∀ l:List Nat,((l.filter p).map f).sum≤(l.map f).sum
 | []=>Nat.zero_le _
 | a::l=>by
  have ih:=sum_filter_le p f l;refine List.filter_cons▸?_;split <;> simp only [List.map_cons,List.sum_cons] <;> lia
theorem phi_le {vals:List (Nat × Nat)} {par:List Nat} (hb:∀ c v,lget vals c=some v→v < 2 ^ (c+1)) (hl:par.length≤11):phi vals (roots par)≤4094:=by
 have h1:phi vals (roots par)≤((roots par).map fun c=>2 ^ (c+1)).sum:=sum_le_of fun x u1_=>by
  induction e:lget vals x with
  | none=>exact Nat.le_refl _
  | some v=>have:=hb x v e;simp only [Option.getD_some];exact Nat.le_of_lt ‹_›
 have h2:=sum_filter_le (fun a=>decide (par.getD a a=a)) (fun c=>2 ^ (c+1)) (List.range par.length);have h3:=pow_sum par.length;have h4:2 ^ (par.length+1)≤2 ^ 12:=Nat.pow_le_pow_right (by decide) (by exact Nat.succ_le_succ ‹_›);exact Nat.le_of_add_le_add_right (b:=2) (Nat.le_trans (Nat.add_le_add_right (Nat.le_trans h1 h2) 2) (Nat.le_trans (Nat.le_of_eq h3) h4))
end
theorem push_spec (par:List Nat):∀ (us:List Nat) (wt:List (Nat × Unit)) (row:List Nat),∃ ex:List Nat,us.foldl (pushL par) (wt,row)=(wt++ex.map (fun c=>(c,())),row++ex)∧ex.Nodup∧(∀ c∈ex,c ∉ wt.map (·.1)∧∃ u∈us,c=rt par u) ∧
  (∀ u∈us,rt par u∈wt.map (·.1)∨rt par u∈ex)∧ex.length≤us.length:=by
 intro us;induction us with
 | nil=>
  intro wt row;exact i1a5 ([]) (by simp) List.nodup_nil nofun nofun (Nat.le_refl _)
 | cons u us ih_=>
  intro wt row;simp only [List.foldl_cons];by_cases c:(lget wt (rt par u)).isSome=true
  ·refine e1a5 (ih_ wt row) fun ex h1 h2 h3 h4 h5=>?_;have e:pushL par (wt,row) u=(wt,row):=by rw [pushL,if_pos c]
   rw [e];refine i1a5 ex h1 h2 (fun x hx=>?_) (fun v hv=>?_) (by simp;exact Nat.le_succ_of_le ‹_›)
   ·refine e0a2 (h3 x hx) fun a z3=>?_;refine e1a2 z3 fun w b d=>?_;exact ⟨a,w,by simp [b],d⟩
   ·clear e;rcases List.mem_cons.mp hv with rfl | hv
    ·exact .inl (lget_isSome.mp c)
    ·exact h4 v hv
  ·refine e1a5 (ih_ (wt++[(rt par u,())]) (row++[rt par u])) fun ex h1 h2 h3 h4 h5=>?_;have e:pushL par (wt,row) u=(wt++[(rt par u,())],row++[rt par u]):=by rw [pushL,if_neg c]
   rw [e];refine i1a5 (rt par u::ex) (by refine h1.trans ?_;simp) ?_ (fun x hx=>?_) (fun v hv=>?_) (by simp;assumption)
   ·refine List.nodup_cons.mpr ?_;refine ⟨fun hin=>?_,h2⟩;exact (h3 _ hin).1 (by simp)
   ·rcases List.mem_cons.mp hx with rfl | hx
    ·exact ⟨fun hin=>c (lget_isSome.mpr hin),u,z_m0,rfl⟩
    ·refine e0a2 (h3 x hx) fun a z1=>?_;refine e1a2 z1 fun w b d=>?_;refine ⟨fun hin=>a (by simp only [List.map_append,List.mem_append];exact .inl hin),w,by simp [b],d⟩
   ·clear c h1 h3 e;rcases List.mem_cons.mp hv with rfl | hv
    ·exact .inr z_m0
    ·refine Or.elim (h4 v hv) (fun h=>?_) fun h=>?_
     ·simp only [List.map_append,List.map_cons,List.map_nil,List.mem_append,List.mem_singleton] at h;refine Or.elim h (fun h=>?_) fun h=>?_
      ·exact .inl h
      ·right;refine h▸?_;exact z_m0
     ·exact .inr (by simp [h])
theorem nodup_idx {l:List Nat} (nd:l.Nodup) {i j x:Nat} (h1:l[i]? = some x) (h2:l[j]? = some x):i=j:=by
 refine e1a1 (List.getElem?_eq_some_iff.mp h1) fun a1 a2=>?_;refine e1a1 (List.getElem?_eq_some_iff.mp h2) fun b1 b2=>?_;have hp:=List.pairwise_iff_getElem.mp nd;rcases Nat.lt_trichotomy i j with c | c | c
 ·exact absurd (by simp only [a2,b2]) (hp i j a1 b1 c)
 ·exact c
 ·exact absurd (by simp only [a2,b2]) (hp j i b1 a1 c)
section
variable {dep:Bool} {R:HR} {S:HS} {pairs:List (Nat × Nat)}
theorem der_node {n:Nat} {y:Nd} (hn:S.bank.nodes[n]? = some y) (hf:y.kids.length≤2) {vals:List (Nat × Nat)} (hd:∀ c v,lget vals c=some v→Der dep (tbR S) v c) {w:Nat} (h:ofN dep ((canonF (rt S.un.par) y).kids.map (lget vals))=some w) :
  Der dep (tbR S) w (rt S.un.par n):=by
 have ht:tbR S (canonF (rt S.un.par) y) (rt S.un.par n):=i2a3 n y hn rfl rfl;have hl:(canonF (rt S.un.par) y).kids.length≤2:=by simpa [canonF] using hf
 rcases ofN_eq hl h with ⟨e,rfl⟩ | ⟨k,v,e,h1,rfl⟩ | ⟨k,l,v,u,e,h1,h2,rfl⟩
 ·exact .leaf (o:=y.op) (by refine (e).symm▸?_;exact ht)
 ·exact .un (o:=y.op) (k:=k) (by refine (e).symm▸?_;exact ht) (hd _ _ h1)
 ·exact .bin (o:=y.op) (k:=k) (l:=l) (by refine (e).symm▸?_;exact ht) (hd _ _ h1) (hd _ _ h2)
theorem own_node (hI:HInv R S pairs (fun u1_=>False)) {vals:List (Nat × Nat)} (hb:∀ c v,lget vals c=some v→v < 2 ^ (c+1)) {c:Nat} (hc:c < S.un.par.length) (hs:∀ k,k∈roots S.un.par→k < c→k∈vals.map (·.1)) :
  ∃ y u,S.bank.nodes[c]? = some y∧ofN dep ((canonF (rt S.un.par) y).kids.map (lget vals))=some u∧u < 2 ^ (c+1):=by
 obtain ⟨y,hy⟩:∃ y,S.bank.nodes[c]? = some y:=⟨_,List.getElem?_eq_getElem (by simp only [hI.len];exact hc)⟩
 have hf:(canonF (rt S.un.par) y).kids.length≤2:=by simpa [canonF] using hI.bk.few y (List.mem_of_getElem? hy)
 have hk:∀ k∈(canonF (rt S.un.par) y).kids,k < c∧(lget vals k).isSome=true:=fun k hk=>by
  refine e1a2 (List.mem_map.mp hk) fun k' hk' z5=>?_;clear hk;subst z5;have h1:=hI.bk.kids c y hy k' hk';have h2:=rt_le S.un.par k';exact ⟨by lia,lget_isSome.mpr (hs _ ((mem_roots hI.un.le).mpr ⟨by lia,rt_rt _ _⟩) (by lia))⟩
 refine e1a1 (ofN_of (dep:=dep) hf fun k hk'=>(hk k hk').2) fun u hu=>?_;refine i2a3 y u hy hu ?_;have hpos:0 < 2 ^ c:=Nat.two_pow_pos c;have hv:∀ k∈(canonF (rt S.un.par) y).kids,∀ v,lget vals k=some v→v < 2 ^ c:=fun k hk' v hv=>by
  have h1:=hb k v hv;have h2:=(hk k hk').1;exact Nat.lt_of_lt_of_le h1 (Nat.pow_le_pow_right (by decide) (by assumption))
 rcases ofN_eq hf hu with ⟨e,rfl⟩ | ⟨k,v,e,h1,rfl⟩ | ⟨k,l,v,w,e,h1,h2,rfl⟩
 ·simp
 ·have:=hv k (by refine e▸?_;exact z_m0) v h1;exact y71 this
 ·have h3:=hv k (by refine e▸?_;exact z_m0) v h1;have h4:=hv l (by refine e▸?_;exact z_m1) w h2;split
  ·exact y21 h3 h4
  ·exact y22 h3 h4
theorem roots_sorted (par:List Nat):(roots par).Pairwise (· < ·):=List.pairwise_lt_range.filter _
theorem KLoop.before {vals:List (Nat × Nat)} {wt:List (Nat × Unit)} {row:List Nat} {spot c:Nat} (h:KLoop dep S vals wt row spot) (hc:row[spot]? = some c) (hn:c ∉ vals.map (·.1)):∀ k,k∈roots S.un.par→k < c→k∈vals.map (·.1):=by
 intro k hk hkc;have hcr:=h.rr c (List.mem_of_getElem? hc);refine e1a1 (List.getElem?_of_mem hcr) fun i hi=>?_;refine e1a1 (List.getElem?_of_mem hk) fun j hj=>?_;have hri:=h.rs i c hi;have hrj:=h.rs j k hj;have hsi:spot≤i:=by
  by_cases e:spot≤i
  ·exact e
  ·exact absurd (h.vis c (List.mem_of_getElem? (i:=i) (by refine List.getElem?_take.trans ?_;refine (if_pos (by exact Nat.lt_of_not_le ‹_›)).trans ?_;exact hri))) hn
 have hei:i=spot:=by
  have h1:(row.drop spot)[0]? = some c:=by refine List.getElem?_drop.trans ?_;simpa using hc
  have h2:(row.drop spot)[i - spot]? = some c:=by rw [List.getElem?_drop,show spot+(i - spot)=i by exact Nat.add_sub_of_le ‹_›];exact hri
  exact Nat.le_antisymm (Nat.le_of_sub_eq_zero (nodup_idx h.rnd h1 h2).symm) hsi
 have hji:j < i:=by
  refine e1a1 (List.getElem?_eq_some_iff.mp hi) fun a1 a2=>?_;refine e1a1 (List.getElem?_eq_some_iff.mp hj) fun b1 b2=>?_;by_cases e:j < i
  ·exact e
  ·by_cases e2:i=j
   ·clear hrj b1 b2 e;refine z_er e2 ?_;lia
   ·have:=List.pairwise_iff_getElem.mp (roots_sorted S.un.par) i j a1 b1 (Nat.lt_of_le_of_ne (Nat.le_of_not_lt e) e2);exact absurd (Nat.lt_trans (Nat.lt_of_lt_of_eq (Nat.lt_of_le_of_lt (Nat.le_of_eq a2.symm) this) b2) hkc) (Nat.lt_irrefl _)
 exact h.vis k (List.mem_of_getElem? (i:=j) (by refine List.getElem?_take.trans ?_;refine (if_pos (by exact y40 (by assumption) (by assumption))).trans ?_;exact hrj))
noncomputable abbrev kmu (S:HS) (vals:List (Nat × Nat)) (wt:List (Nat × Unit)) (row:List Nat) (spot:Nat):Nat:=13 * phi vals (roots S.un.par)+(row.length - spot)
theorem KLoop.turn (hI:HInv R S pairs (fun _=>False)) {vals:List (Nat × Nat)} {wt:List (Nat × Unit)} {row:List Nat} {spot:Nat} (h:KLoop dep S vals wt row spot):KTurn S dep (KLoop dep S) (kmu S) vals wt row spot:=by
 have hle:=hI.un.le;have hsm:=hI.un.small;have hrb:∀ k,k∈roots S.un.par→k < S.un.par.length∧rt S.un.par k=k:=fun k hk=>(mem_roots hle).mp hk;have hwr:∀ c∈wt.map (·.1),c∈roots S.un.par:=fun c hc=>h.rr c (List.mem_of_mem_drop ((h.wk c).mp hc));refine ⟨by have:=h.big;lia,keys_small h.wnd fun k hk=>by have:=(hrb k (hwr k hk)).1;lia,keys_small h.nd fun k hk=>by have:=(hrb k (h.kr k hk)).1;lia,fun c hc=>?_⟩;have hcr:=h.rr c (List.mem_of_getElem? hc);refine e0a2 (hrb c hcr) fun c1 c2=>?_;have hdrop:row.drop spot=c::row.drop (spot+1):=by
  refine e1a1 (List.getElem?_eq_some_iff.mp hc) fun a1 a2=>?_;simp only [List.drop_eq_getElem_cons a1,a2]
 have htake:row.take (spot+1)=row.take spot++[c]:=by refine List.take_add_one.trans ?_;refine hc▸?_;rfl
 have hsl:spot < row.length:=(List.getElem?_eq_some_iff.mp hc).1;have hcw:c∈wt.map (·.1):=(h.wk c).mpr (by rw [hdrop];exact z_m0);have hrnd:=h.rnd;replace hrnd:=List.nodup_cons.mp (hdrop▸hrnd);obtain ⟨lo,hlo⟩:∃ lo,S.un.lots[c]? = some lo:=⟨_,List.getElem?_eq_getElem (by refine hI.un.lots▸?_;exact c1)⟩
 refine e0a3 (hI.lot c lo hlo) fun l1 l2 l3=>?_;have l3:=l3 c2;refine e3a2 (ent_split (hI.roots c c1 c2)) fun p e q hes hek=>?_;have hel:entL S.users c=e.l:=by refine (hek).symm▸?_;exact entL_split hes hI.keys
 have heb:=hI.eb e (by rw [hes];simp);refine ⟨c1,c2,lget_isSome.mpr hcw,lo,e,hlo,nodup_small l1 fun x hx=>by have:=l2 x hx;lia,fun x hx=>by simp only [hI.len];exact l2 x hx,by rw [hes];simp,hek,heb,fun xs hxs=>?_⟩;have hmem:∀ (n:Nat) (y:Nd),S.bank.nodes[n]? = some y→rt S.un.par n=c→canonF (rt S.un.par) y∈xs:=fun n y hn hr=>
  (hxs _).mpr ⟨n,(l3 n).mpr ⟨by simp only [← hI.len];exact (List.getElem?_eq_some_iff.mp hn).1,hr⟩,y,hn,rfl⟩
 have hown:c ∉ vals.map (·.1)→∃ u,u < 2 ^ (c+1)∧∃ y∈xs,ofN dep (y.kids.map (lget vals))=some u:=fun hn=>by
  refine e2a3 (own_node (dep:=dep) hI h.bnd c1 (h.before hc hn)) fun y u a1 a2 a3=>?_;exact ⟨u,a3,_,hmem c y a1 c2,a2⟩
 have hwk':∀ x,x∈(ldel wt c).map (·.1)↔x∈row.drop (spot+1):=fun x=>by
  rw [ldel_keys,List.mem_filter,h.wk,hdrop,List.mem_cons];constructor
  ·clear hc hcr c1 c2 hdrop htake hcw hrnd hlo l3 hek hel hmem hown;clear l3;rintro ⟨rfl | h1,h2⟩
   ·simp at h2
   ·exact h1
  ·intro h1;refine ⟨.inr h1,?_⟩;simp only [ne_eq,decide_eq_true_eq];clear hc hcr c1 c2 hdrop htake hcw hlo l3 hek hel hmem hown;clear l3;rintro rfl;exact hrnd.1 h1
 have hwnd':((ldel wt c).map (·.1)).Nodup:=by rw [ldel_keys];exact h.wnd.filter _
 have hvis:∀ vals':List (Nat × Nat),(∀ x,x∈vals.map (·.1)→x∈vals'.map (·.1))→c∈vals'.map (·.1)→∀ x∈row.take (spot+1),x∈vals'.map (·.1):=fun vals' h1 h2 x hx=>by
  rw [htake] at hx;refine Or.elim (List.mem_append.mp hx) (fun hx=>?_) fun hx=>?_
  ·exact h1 x (h.vis x hx)
  ·simp at hx;clear hc hcr c1 c2 hdrop htake hcw hrnd hlo l3 hek hel hmem hown hwk' hwnd';clear l3;refine z_er hx ?_;exact h2
 refine ⟨fun he=>?_,fun w hw hne us und hus=>?_⟩
 ·have hck:c∈vals.map (·.1):=by
   by_cases hn:c∈vals.map (·.1)
   ·exact hn
   ·refine e1a2 (hown hn) fun u _ z14=>?_;refine e1a2 z14 fun y hy hu=>?_;replace he:=(lget_none.mpr hn)▸he;have:=(reckF_none he).2 y hy;replace hu:=this.symm.trans hu;exact z_ns hu
  refine ⟨⟨h.nd,h.kr,h.der,h.bnd,h.rr,h.rs,hwnd',hwk',hrnd.2,hvis vals (fun _ h=>h) hck,fun x hx hxw=>?_,h.big⟩,by unfold kmu;exact y33 (by assumption)⟩;by_cases e:x=c
  ·clear hc hcr c1 hdrop htake hcw hrnd hlo hek hel hown hwk' hwnd' hvis hxw;refine z_er e ?_;intro n y hn hr u hu;refine e1a1 (Option.isSome_iff_exists.mp (lget_isSome.mpr hck)) fun v hv=>?_;refine i1a2 v ?_ hv;rw [hv] at he;exact (reckF_le he).2.2 _ (hmem n y hn hr) u hu
  ·refine h.stb x hx fun hin=>hxw ?_;refine ldel_keys▸?_;refine List.mem_filter.mpr ?_;exact ⟨hin,by simpa using e⟩
 ·refine e0a3 (reckF_le hw) fun r1 r2 r3=>?_;have hder:Der dep (tbR S) w c:=by
   rcases r1 with r1 | ⟨y,hy,hu⟩
   ·exact absurd r1.symm hne
   ·refine e1a2 ((hxs y).mp hy) fun n hn z12=>?_;refine e1a2 z12 fun y' hn' z13=>?_;clear hy z12;subst z13;have hr:=((l3 n).mp hn).2;have:=der_node hn' (hI.bk.few y' (List.mem_of_getElem? hn')) h.der hu;rwa [hr] at this
  have hlt:w < (lget vals c).getD (2 ^ (c+1)):=by
   induction hg:lget vals c with
   | some v=>
    have:=r2 v hg;have h2:w≠v:=fun e=>hne (by refine hg▸?_;exact e▸rfl);simp only [Option.getD_some];exact Nat.lt_of_le_of_ne ‹_› ‹_›
   | none=>
    refine e1a2 (hown (lget_none.mp hg)) fun u hu1 z9=>?_;refine e1a2 z9 fun y hy hu2=>?_;have:=r3 y hy u hu2;simp only [Option.getD_none];exact Nat.lt_of_le_of_lt ‹_› ‹_›
  have hwb:w < 2 ^ (c+1):=by
   induction hg:lget vals c with
   | some v=>
    have:=h.bnd c v hg;rw [hg] at hlt;simp only [Option.getD_some] at hlt;exact Nat.lt_of_lt_of_le ‹_› (Nat.le_of_lt ‹_›)
   | none=>replace hlt:=hg▸hlt;exact hlt
  have hphi:=phi_put (vals:=vals) hcr hlt;refine e1a5 (push_spec S.un.par us (ldel wt c) row) fun ex x1 x2 x3 x4 x5=>?_;simp only [x1];have hul:us.length≤12:=nodup_small und fun x hx=>by have:=heb x ((hus x).mp hx);lia
  have hbig:=h.big;have hwke:∀ x,x∈((ldel wt c)++ex.map (fun c=>(c,()))).map (·.1)↔x∈(ldel wt c).map (·.1)∨x∈ex:=fun x=>by
   simp [Function.comp_def]
  have hexr:∀ x∈ex,x∈roots S.un.par:=fun x hx=>by
   refine e0a2 (x3 x hx) fun _ z6=>?_;refine e1a2l (x:=x) z6 fun u hu=>?_;exact (mem_roots hle).mpr ⟨Nat.lt_of_le_of_lt (rt_le _ _) (heb u ((hus u).mp hu)),rt_rt _ _⟩
  refine ⟨⟨lput_nodup h.nd,fun k hk=>?_,fun k v hk=>?_,fun k v hk=>?_,fun x hx=>?_,fun i x hi=>?_,?_,fun x=>?_,?_,?_,fun x hx hxw=>?_,?_⟩,?_⟩
  ·clear c1 c2 hdrop htake hcw hrnd hlo l3 hek hel hmem hown hwk' hwnd' hvis hw hne r1 r2 hder hlt hwb hphi x1 x3 x4 hwke;clear l3;rcases lput_mem_keys.mp hk with rfl | hk
   ·exact hcr
   ·exact h.kr k hk
  ·rw [lget_lput] at hk;split at hk
   ·rename_i e;clear hc hcr c1 c2 hdrop htake hcw hrnd hlo l3 hek hel hmem hown hwk' hwnd' hvis hw hne r1 r2 hlt hwb hphi x1 x3 x4 hwke;clear l3;subst e;cases hk;exact hder
   ·exact h.der k v hk
  ·rw [lget_lput] at hk;split at hk
   ·rename_i e;clear hc hcr c1 c2 hdrop htake hcw hrnd hlo l3 hek hel hmem hown hwk' hwnd' hvis hw hne r1 r2 hder hlt hphi x1 x3 x4 hwke;clear l3;subst e;cases hk;exact hwb
   ·exact h.bnd k v hk
  ·rcases List.mem_append.mp hx with hx | hx
   ·exact h.rr x hx
   ·exact hexr x hx
  ·refine List.getElem?_append_left (List.getElem?_eq_some_iff.mp (h.rs i x hi)).1▸?_;exact h.rs i x hi
  ·show (((ldel wt c)++ex.map (fun c=>(c,()))).map (·.1)).Nodup;simp only [List.map_append,List.map_map];have:ex.map ((·.1) ∘ fun c=>(c,()))=ex:=by simp [Function.comp_def]
   rw [this,List.nodup_append];exact i0a3 hwnd' x2 (fun a ha b hb e=>by subst e;exact (x3 a hb).1 ha)
  ·rw [hwke,hwk'];show _↔x∈(row++ex).drop (spot+1);rw [List.drop_append_of_le_length (by assumption),List.mem_append]
  ·show ((row++ex).drop (spot+1)).Nodup;rw [List.drop_append_of_le_length (by lia),List.nodup_append];exact i0a3 hrnd.2 x2 (fun a ha b hb e=>by subst e;exact (x3 a hb).1 ((hwk' a).mpr ha))
  ·show ∀ x∈(row++ex).take (spot+1),_;rw [List.take_append_of_le_length (by lia)];exact hvis _ (fun x hx=>lput_mem_keys.mpr (.inr hx)) (lput_mem_keys.mpr (.inl rfl))
  ·have hxw:x ∉ ((ldel wt c)++ex.map (fun c=>(c,()))).map (·.1):=hxw;rw [hwke] at hxw;have hxn:∀ u∈us,rt S.un.par u≠x:=fun u hu e=>by
    clear hx;subst e;exact hxw (x4 u hu)
   have hkid:∀ (n:Nat) (y:Nd),S.bank.nodes[n]? = some y→rt S.un.par n=x→∀ k∈(canonF (rt S.un.par) y).kids,lget (lput vals c w) k=lget vals k:=fun n y hn hr k hk=>by
    rw [lget_lput,if_neg];clear hc hcr c1 c2 hdrop htake hcw hrnd hlo l3 hmem hown hwk' hwnd' hvis hw hne r1 r2 hder hlt hwb hphi x1 x3 hwke;clear l3;rintro rfl;refine e1a2 (List.mem_map.mp hk) fun k' hk' e=>?_;have h1:=hI.us n y hn k' hk';rw [e,hel] at h1;exact hxn n ((hus n).mpr h1) hr
   intro n y hn hr u hu;replace hu:=(List.map_congr_left (hkid n y hn hr))▸hu;by_cases e:x=c
   ·clear hc hcr c1 hdrop htake hcw hrnd hlo hek hel hown hwk' hwnd' hvis hw hne r1 r2 hder hlt hwb hphi x1 x3 x4 hwke hxw hkid;clear hxw;subst e;exact i1a2 w (r3 _ (hmem n y hn hr) u hu) (by rw [lget_lput,if_pos rfl])
   ·have hxwt:x ∉ wt.map (·.1):=fun hin=>hxw (.inl (by refine ldel_keys▸?_;refine List.mem_filter.mpr ?_;exact ⟨hin,by simpa using e⟩));refine e1a2 (h.stb x hx hxwt n y hn hr u hu) fun v hv1 hv2=>?_;exact i1a2 v hv1 (by refine lget_lput.trans ?_;refine (if_neg e).trans ?_;exact hv2)
  ·show (row++ex).length+_≤_;refine List.length_append▸?_;lia
  ·show kmu S _ _ _ _ < _;unfold kmu;refine List.length_append▸?_;exact y34 (by assumption) (by assumption) (by assumption) (by assumption)
theorem KLoop.start (hI:HInv R S pairs (fun u1_=>False)) (hl:S.un.par.length≤11) {vals fl:List (Nat × Nat)} {n0:Nat} (h:KInv dep S vals n0) {ms:List Nat} (hp:ms.Perm (vals.map (·.1))) (hb:Begun S.un.par ms vals fl):KLoop dep S fl ((roots S.un.par).map fun c=>(c,())) (roots S.un.par) 0:=by
 have hle:=hI.un.le;have hkeys:((roots S.un.par).map fun c=>(c,())).map (·.1)=roots S.un.par:=by simp [Function.comp_def]
 have hnd:(roots S.un.par).Nodup:=roots_nodup _;have hbnd:∀ c v,lget fl c=some v→v < 2 ^ (c+1):=fun c v hv=>by
  refine e1a3 (hb.dn c v hv) fun d hd h1 h2=>?_;have hdk:=h.kb d (hp.mem_iff.mp hd);have hcd:c≤d:=by refine (h1).symm▸?_;exact rt_le _ _
  have hcc:rt S.un.par c=c:=by simp only [← h1,rt_rt]
  have hck:=h.cov c (by exact Nat.lt_of_le_of_lt ‹_› ‹_›) hcc;refine e1a1 (Option.isSome_iff_exists.mp (lget_isSome.mpr hck)) fun u hu=>?_;refine e1a2 (hb.up c (hp.mem_iff.mpr hck) u hu) fun w hw1 hw2=>?_;replace hw2:=hv.symm.trans (hcc▸hw2);cases hw2;have:=h.bnd c u hu;exact Nat.lt_of_le_of_lt ‹_› ‹_›
 refine ⟨hb.nd,fun k hk=>?_,fun c v hv=>?_,hbnd,fun c hc=>hc,fun i c hi=>hi,by rw [hkeys];exact hnd,fun c=>by rw [hkeys];rfl,by simpa using hnd,nofun,fun c hc hn=>?_,?_⟩
 ·obtain ⟨w,hw⟩:=Option.isSome_iff_exists.mp (lget_isSome.mpr hk);refine e1a3 (hb.dn k w hw) fun d hd h1 h2=>?_;have hdk:=h.kb d (hp.mem_iff.mp hd);have:=h.le;simp only [← h1];exact (mem_roots hle).mpr ⟨Nat.lt_of_le_of_lt (rt_le _ _) (by exact Nat.lt_of_lt_of_le ‹_› ‹_›),rt_rt _ _⟩
 ·refine e1a3 (hb.dn c v hv) fun d hd h1 h2=>?_;simp only [← h1];exact h.der d v h2
 ·rw [hkeys] at hn;exact absurd hc hn
 ·have h1:=phi_le hbnd hl;have h2:=List.length_filter_le (fun a=>decide (S.un.par.getD a a=a)) (List.range S.un.par.length);unfold roots at h1 ⊢;simp only [List.length_range] at h2;lia
theorem KLoop.done (hI:HInv R S pairs (fun u1_=>False)) {vals:List (Nat × Nat)} {wt:List (Nat × Unit)} {row:List Nat} {spot:Nat} (h:KLoop dep S vals wt row spot) (hs:row.length≤spot) :
  KInv dep S vals S.un.par.length∧∀ c,c∈roots S.un.par→∃ v,lget vals c=some v∧Least dep (tbR S) v c:=by
 have hle:=hI.un.le;have hall:∀ c,c∈roots S.un.par→c∈vals.map (·.1):=fun c hc=>by
  refine e1a1 (List.getElem?_of_mem hc) fun i hi=>?_;have:=List.mem_of_getElem? (h.rs i c hi);exact h.vis c (by rw [List.take_of_length_le hs];exact this)
 have hwt:∀ c,c ∉ wt.map (·.1):=fun c hc=>by
  have:=(h.wk c).mp hc;rw [List.drop_of_length_le hs] at this;simp at this
 have hstb:∀ c,c∈roots S.un.par→Stable dep S vals c:=fun c hc=>h.stb c hc (hwt c);have htb:∀ x c,tbR S x c→∀ u,ofN dep (x.kids.map (lget vals))=some u→∃ w,w≤u∧lget vals c=some w:=fun x c z3 u hu=>e2a3 z3 fun n y h1 h2 h3=>by
  clear z3;subst h2 h3;have hn:n < S.un.par.length:=by simp only [← hI.len];exact (List.getElem?_eq_some_iff.mp h1).1
  exact hstb _ ((mem_roots hle).mpr ⟨Nat.lt_of_le_of_lt (rt_le _ _) hn,rt_rt _ _⟩) n y h1 rfl u hu
 have hleast:∀ v c,Der dep (tbR S) v c→∃ w,w≤v∧lget vals c=some w:=fun v c hd=>by
  induction hd with
  | leaf ht=>exact htb _ _ ht 1 (by simp [ofN,allS,agg0])
  | un ht _ ih=>
   refine e1a2 ih fun w h1 h2=>?_;refine e1a2 (htb _ _ ht (1+w) (by simp [ofN,allS,h2,agg1])) fun u h3 h4=>?_;exact i1a2 u (by lia) h4
  | bin ht _ _ ih1 ih2=>
   clear hk hl;obtain ⟨w,h1,h2⟩:=ih1;obtain ⟨w',h1',h2'⟩:=ih2;refine e1a2 (htb _ _ ht (1+if dep then max w w' else w+w') (by simp [ofN,allS,h2,h2',agg2])) fun u h3 h4=>?_;refine i1a2 u ?_ h4;clear h hstb htb;induction dep
   ·simp at h3 ⊢;lia
   ·simp at h3 ⊢;exact y23 (by assumption) (by assumption) (by assumption)
 refine ⟨⟨Nat.le_refl _,h.nd,fun k hk=>((mem_roots hle).mp (h.kr k hk)).1,fun i hi hr=>hall i ((mem_roots hle).mpr ⟨hi,hr⟩),fun k v hk=>?_,h.bnd⟩,fun c hc=>?_⟩
 ·have hk':=h.kr k (lget_isSome.mp (by refine hk▸?_;rfl));simp only [((mem_roots hle).mp hk').2];exact h.der k v hk
 ·refine e1a1 (Option.isSome_iff_exists.mp (lget_isSome.mpr (hall c hc))) fun v hv=>?_;refine i1a3 v hv (h.der c v hv) (fun w hw=>?_);refine e1a2 (hleast w c hw) fun u h1 h2=>?_;replace h2:=hv.symm.trans h2;cases h2;exact h1
end
noncomputable abbrev pv (p:Nat × Nat):V:=.tup [nv p.1,nv p.2]
theorem hf_get {hm:List Nat} {k:Nat} (h:k < hm.length):hm[k]? = some (hf hm k):=by simp [hf,h]
theorem pairV_get {l:List (Nat × Nat)} {i:Nat} {v:V} (h:(l.map pv)[i]? = some v):∃ p,l[i]? = some p∧v=pv p:=by
 replace h:=Option.map_eq_some_iff.mp (List.getElem?_map.symm.trans h);obtain ⟨y,h,rfl⟩:=h;exact i1a2 y h rfl
theorem pv_snoc {l t:List (Nat × Nat)} {m i:Nat}:(l++(t++[(m,i)])).map pv=(l++t).map pv++[.tup [nv m,nv i]]:=by rw [← List.append_assoc,List.map_append];rfl
theorem nv_min (a b:Nat):V.int (min (a:Int) b)=nv (min a b):=congrArg V.int (by omega)
theorem nv_max (a b:Nat):V.int (max (a:Int) b)=nv (max a b):=congrArg V.int (by omega)
theorem tie_in {nodes:List Nd} {pairs t:List (Nat × Nat)} {hm:List Nat} {fl:List (Nd × Nat)} (ok:HomeOK nodes pairs hm) (nk:NodesOK nodes) (hp:∀ p∈pairs,p.1 < nodes.length∧p.2 < nodes.length) (hF:Firsts nodes hm nodes.length fl t) :
  ∀ p∈pairs++t,p.1 < nodes.length∧p.2 < nodes.length∧∀ f,IsC nodes pairs f→f p.1=f p.2:=fun p hp'=>by
 have hs:∀ f,IsC nodes pairs f→f p.1=f p.2:=fun f hc=>tie_sound ok nk hF hc hp';rcases List.mem_append.mp hp' with h | h
 ·exact i0a3 ((hp p h).1) ((hp p h).2) hs
 ·refine e2a3 (hF.t2 p h) fun x y hx hy u1_=>?_;exact i0a3 ((List.getElem?_eq_some_iff.mp hx).1) ((List.getElem?_eq_some_iff.mp hy).1) hs
section
variable {B:Bs} {n:Nat} {H:AH} {L:List (Addr × Cell)}
theorem homes_spec (Fk:Facts B.K) {an ap:Addr} {nodes:List Nd} {pairs:List (Nat × Nat)} (hh:Holds H ((an,.list (nodes.map Nd.v))::(ap,.list (pairs.map pv))::L)) (nk:NodesOK nodes) (hp:∀ p∈pairs,p.1 < nodes.length∧p.2 < nodes.length) (hpl:pairs.length≤100) {Q:QV}
  (q:∀ c hm H',HomeOK nodes pairs hm→IsC nodes pairs (hf hm)→Holds H' ((c,.list (nvs hm))::(an,.list (nodes.map Nd.v))::(ap,.list (pairs.map pv))::L)→Q (.ref c) H'):UC B (n+1) (.ref 507) [.ref an,.ref ap] H Q:=by
 refine UC.fn Fk 35 rfl rfl ?_;have hsm:=nk.small;walk_at "evs";refine Ex.pairV Fk ?_;walk_at "evs";refine Ev.compL Fk ?_;walk_at "evs";refine c_lenList (hh.get 0 rfl) (by simp;lia) ?_;walk_at "evs";refine UCI.range1 (by simp;lia) ?_;simp only [irange0,List.length_map];refine ⟨.pure (by simp;lia) trivial (nvs (List.range nodes.length)) rfl (fun i v Qe hi=>i1a2 v hi (fun ke=>?_)) fun ca hca=>?_⟩
 ·walk_at "evs";exact ke
 have h1:=hh.new (c:=.list (nvs (List.range nodes.length))) hca;clear hh hca;walk_at "evs";refine Ex.whileL Fk (fun k ρ H'=>∃ hm b ca,ρ=[(ofString "nodes",.ref an),(ofString "pairs",.ref ap),(ofString "home",.ref ca),(ofString "has_more",.bool b)]∧HomeOK nodes pairs hm∧(b=false→IsC nodes pairs (hf hm))∧(k=if b then hm.sum+1 else 0) ∧
  Holds H' ((ca,.list (nvs hm))::(an,.list (nodes.map Nd.v))::(ap,.list (pairs.map pv))::L)) _ ⟨_,.cons rfl (.cons rfl (.cons rfl (.cons rfl .nil))),_,true,ca,rfl,HomeOK.start,by simp,rfl,h1⟩ ?_
 clear h1;intro k u1_ H' Qw z21;refine e3a5 z21 fun hm b ca z22 ok hdone z23 h2=>?_;clear z21;subst z22;subst z23;intro kw;have hml:=ok.len;induction b with
 | false=>
  refine bno' rfl ?_;walk_at "evs";exact q ca hm _ ok (hdone rfl) h2
 | true=>
  refine byes' rfl ?_;clear hdone q;walk_at "evs";refine Ex.swapV Fk [ofString "has_more",ofString "first",ofString "ties"] ?_;walk_at "evs";refine Ev.dict0T fun af haf=>?_;have h3:=h2.new (c:=.tdict []) haf;clear h2 haf;walk_at "evs";refine c_listList (h3.get 3 rfl) (by simp;lia) fun at_ hat=>?_;have h4:=h3.new (c:=.list (pairs.map pv)) hat;clear h3 hat;walk_at "evs";refine Ex.forL Fk ?_;walk_at "evs";refine UCI.enum rfl (h4.get 3 rfl) ⟨.fix [(ofString "nodes",.ref an),(ofString "pairs",.ref ap),(ofString "home",.ref ca),(ofString "has_more",.bool false),(ofString "first",.ref af),(ofString "ties",.ref at_)] rfl (fun i H'=>∃ fl t,Firsts nodes hm i fl t ∧
   Holds H' ((at_,.list ((pairs++t).map pv))::(af,.tdict (knF fl))::(ca,.list (nvs hm))::(an,.list (nodes.map Nd.v))::(ap,.list (pairs.map pv))::L)) (i2a2 ([]) ([]) Firsts.zero (by simpa [knF] using h4)) ?_ ?_⟩
  ·clear h4;intro H' z17;refine e2a2 z17 fun fl t hF h5=>?_;refine ⟨h5.get 3 rfl,?_⟩;rw [show (enumV (nodes.map Nd.v)).length=nodes.length by simp [enumV]] at hF;have hties:=tie_in ok nk hp hF;walk_at "evs";refine Ex.forL Fk ?_;walk_at "evs";refine UI.list (h5.get 0 rfl) ⟨.mk (fun i ρ'' H'=>∃ ca,ρ''=[(ofString "nodes",.ref an),(ofString "pairs",.ref ap),(ofString "home",.ref ca),(ofString "has_more",.bool (((pairs++t).take i).foldl tieStep (hm,false)).2)] ∧
    Holds H' ((at_,.list ((pairs++t).map pv))::(ca,.list (nvs (((pairs++t).take i).foldl tieStep (hm,false)).1))::(an,.list (nodes.map Nd.v))::(ap,.list (pairs.map pv))::L)) ⟨_,.cons rfl (.cons rfl (.cons rfl (.cons rfl .nil))),ca,rfl,h5.sub ((List.sublist_cons_self _ _).cons_cons _)⟩ ?_ ?_⟩
   ·clear h5;intro u2_ H' z3;refine e1a2 z3 fun ca2 z4 h6=>?_;clear z3;subst z4;refine ⟨h6.get 0 rfl,?_⟩;rw [List.length_map,List.take_length] at h6 ⊢;refine e0a2 (ties_all (pairs++t) (hm,false) ok hties) fun b1 b2=>?_;walk_at "evs";rcases b2 with ⟨e1,e2⟩ | ⟨e1,e2⟩
    ·rw [e1] at h6 ⊢;exact kw 0 _ _ (Nat.succ_pos _) ⟨_,.refl,hm,false,ca2,rfl,ok,fun u3_=>round_done ok hF e2,rfl,h6.tail⟩
    ·rw [e1];exact kw _ _ _ (Nat.succ_lt_succ e2) ⟨_,.refl,_,true,ca2,rfl,b1,(fun h=>nomatch h),rfl,h6.tail⟩
   ·clear h5;intro i v u4_ H' Qt hi z12;refine e1a2 z12 fun ca2 z13 h6=>?_;clear z12;subst z13;intro kn;refine ⟨h6.get 0 rfl,?_⟩;refine e1a2 (pairV_get hi) fun p hpi z10=>?_;clear hi;subst z10;refine e0a3 (hties p (List.mem_of_getElem? hpi)) fun p1 p2 u5_=>?_;have hok:=(ties_all ((pairs++t).take i) (hm,false) ok fun q hq=>hties q (List.mem_of_mem_take hq)).1;rw [foldl_take _ _ _ hpi] at kn;generalize ((pairs++t).take i).foldl tieStep (hm,false)=st at h6 hok kn;have hsl:=hok.len;have hz:(nvs st.1).length≤100000:=by rw [List.length_map];lia
    have g1:(nvs st.1)[p.1]? = some (nv (hf st.1 p.1)):=nvs_get (hf_get (by lia));have g2:(nvs st.1)[p.2]? = some (nv (hf st.1 p.2)):=nvs_get (hf_get (by lia));clear hties hF hok;walk_at "evs";refine u_listGet (h6.get 1 rfl) g1 hz ?_;walk_at "evs";refine u_listGet (h6.get 1 rfl) g2 hz ?_;walk_at "evs";refine u_neInt ?_;by_cases he:hf st.1 p.1=hf st.1 p.2
    ·refine bno (by lia) ?_;rw [show tieStep st p=st by rw [tieStep,if_neg (by simpa using he)]] at kn;walk_at "evs";exact kn _ _ ⟨_,.cons rfl (.cons rfl (.cons rfl (.cons rfl .nil))),ca2,rfl,h6⟩
    ·refine byes (by lia) ?_;rw [show tieStep st p=(st.1.map (fun c=>if c=max (hf st.1 p.1) (hf st.1 p.2) then min (hf st.1 p.1) (hf st.1 p.2) else c),true) by rw [tieStep,if_pos (by simpa using he)]] at kn;walk_at "evs";refine Ex.pairV Fk ?_;walk_at "evs";refine u_listGet (h6.get 1 rfl) g1 hz ?_;walk_at "evs";refine u_listGet (h6.get 1 rfl) g2 hz ?_;walk_at "evs";refine c_min2 ?_;walk_at "evs";refine u_listGet (h6.get 1 rfl) g1 hz ?_;walk_at "evs";refine u_listGet (h6.get 1 rfl) g2 hz ?_;walk_at "evs";refine c_max2 ?_;simp only [nv_min,nv_max];generalize min (hf st.1 p.1) (hf st.1 p.2)=x at kn ⊢;generalize max (hf st.1 p.1) (hf st.1 p.2)=y at kn ⊢;walk_at "evs";refine Ex.pairV Fk ?_;walk_at "evs";refine Ev.compL Fk ?_;walk_at "evs";refine UI.list (h6.get 1 rfl) ⟨.pure hz (h6.get 1 rfl) (nvs (st.1.map fun c=>if c=y then x else c)) (by simp) (fun j v Qe hj=>?_) fun D hD=>?_⟩
     ·refine e1a3 (pure_kids (g:=fun c=>if c=y then x else c) (T:=nv) hj) fun k hkm z8 e=>?_;clear hj;subst z8;refine i1a2 _ e (fun ke=>?_);walk_at "evs";refine u_eqInt ?_;by_cases hc:k=y
      ·rw [if_pos hc] at ke;refine byes (by lia) ?_;walk_at "evs";exact ke
      ·rw [if_neg hc] at ke;refine bno (by lia) ?_;walk_at "evs";exact ke
     ·have h7:=h6.new (c:=.list (nvs (st.1.map fun c=>if c=y then x else c))) hD;walk_at "evs";exact kn _ _ ⟨_,.cons rfl (.cons rfl (.cons rfl (.cons rfl .nil))),D,rfl,(h7.perm (List.Perm.swap _ _ _)).sub (((List.sublist_cons_self _ _).cons_cons _).cons_cons _)⟩
  ·clear h4;intro i v H' Qt hi z6;refine e2a2 z6 fun fl t hF h5=>?_;intro kn;refine ⟨h5.get 3 rfl,?_⟩;refine e1a2 (enumV_get hi) fun u hu z5=>?_;clear hi;subst z5;refine e1a2 (nds_get? hu) fun x hx z4=>?_;clear hu;subst z4;have hil:i < nodes.length:=(List.getElem?_eq_some_iff.mp hx).1;have hfew:(nvs x.kids).length≤2:=by rw [List.length_map];exact nk.few x (List.mem_of_getElem? hx)
   have htl:((pairs++t).map pv).length≤100000:=by have:=hF.tl;simp;lia
   have hfl:=hF.fll;walk_at "evs";refine u_tupGet (i:=0) rfl (Nat.succ_le_succ (Nat.le_trans hfew (by decide))) ?_;walk_at "evs";refine Ev.compL Fk ?_;walk_at "evs";refine Ev.from1V Fk ?_;walk_at "evs";refine i0a3 (Nat.succ_pos _) (Nat.succ_le_succ (Nat.le_trans hfew (by decide))) ?_;walk_at "evs";refine UI.tup ⟨.pure (Nat.le_trans hfew (by decide)) trivial (nvs (x.kids.map (hf hm))) (by simp) (fun j v Qe hj=>?_) fun D hD=>?_⟩
   ·refine e1a3 (pure_kids (g:=hf hm) (T:=nv) hj) fun k hkm z2 e=>?_;clear hj;subst z2;refine i1a2 _ e (fun ke=>?_);have hk:=nk.kids i x hx k hkm;walk_at "evs";refine u_listGet (h5.get 2 rfl) (v:=nv (hf hm k)) (nvs_get (hf_get (by lia))) (by rw [List.length_map];lia) ?_;walk_at "evs";exact ke
   have h6:=h5.new (c:=.list (nvs (x.kids.map (hf hm)))) hD;clear h5 hD;walk_at "evs";refine c_tupleList (h6.get 0 rfl) (by simp only [List.length_map,List.length_map];rw [List.length_map] at hfew;lia) ?_;walk_at "evs";refine u_tupAdd (by simp only [List.length_map,List.length_map,List.length_singleton];rw [List.length_map] at hfew;lia) ?_;rw [show V.tup ([V.str x.op]++nvs (x.kids.map (hf hm)))=nodeV (canonF (hf hm) x).key from (Nd.nodeV (canonF (hf hm) x)).symm];walk_at "evs";refine c_tdictSetdefault (h6.get 2 rfl) (by simp only [knF,List.length_map];lia) ?_;refine knGet_eq▸?_;induction hg:knGet fl (canonF (hf hm) x) with
   | some m=>
    simp only [Option.map_some];walk_at "evs";refine c_append (h6.get 1 rfl) htl ?_;have h7:=(h6.set (a:=at_) (c:=.list ((pairs++t).map pv++[.tup [nv m,nv i]])) 1 rfl).tail;clear h6;walk_at "evs";exact kn _ _ rfl (i2a2 fl (t++[(m,i)]) (hF.old hx hg) (h7.to (by rw [pv_snoc];rfl)))
   | none=>
    simp only [Option.map_none];rw [show knF fl++[((canonF (hf hm) x).key,V.int i)]=knF (fl++[(canonF (hf hm) x,i)]) by simp [knF]];have h7:=h6.set (a:=af) (c:=.tdict (knF (fl++[(canonF (hf hm) x,i)]))) 2 rfl;clear h6;walk_at "evs";refine c_append (h7.get 1 rfl) htl ?_;have h8:=(h7.set (a:=at_) (c:=.list ((pairs++t).map pv++[.tup [nv i,nv i]])) 1 rfl).tail;clear h7;walk_at "evs";exact kn _ _ rfl (i2a2 _ (t++[(i,i)]) (hF.new hx hg) (h8.to (by rw [pv_snoc];rfl)))
end
noncomputable abbrev tv (p:Nd × Nat):V:=.tup [p.1.v,nv p.2]
noncomputable abbrev lotV (l:List Addr):V:=.tup (l.map V.ref)
noncomputable def LotFits (ct:Addr→List Nat) (x:Nd) (l:List Addr):Prop:=x.kids.length=l.length∧∀ p∈x.kids.zip l,p.1∈ct p.2
theorem Holds.ext_new {H H':AH} {L:List (Addr × Cell)} {a:Addr} {c:Cell} (h:Holds H L) (e:Ext H H') (f:H a=none) (g:H' a=some c):Holds H' ((a,c)::L):=by
 refine ⟨?_,fun p hp=>?_⟩
 ·refine List.map_cons▸?_;refine List.nodup_cons.mpr ?_;refine ⟨fun hm=>?_,h.1⟩;refine e1a2 (List.mem_map.mp hm) fun p hp e'=>?_;have:=h.2 p hp;replace this:=f.symm.trans (e'▸this);exact z_ns this
 ·rcases List.mem_cons.mp hp with rfl | hp
  ·exact g
  ·exact e _ _ (h.2 p hp)
theorem Ext.put {H H':AH} {a:Addr} {c:Cell} (e:Ext H H') (f:H a=none):Ext H (H'.put a c):=fun b d h=>by
 rw [AH.put_ne _ _ fun q=>by subst q;replace h:=f.symm.trans h;cases h];exact e b d h
theorem Ext.trans {H H' H'':AH} (a:Ext H H') (b:Ext H' H''):Ext H H'':=fun x c h=>b x c (a x c h)
theorem Ext.none {H H':AH} {a:Addr} (e:Ext H H') (f:H' a=none):H a=none:=by
 induction h:H a with
 | none=>rfl
 | some c=>replace f:=(e a c h).symm.trans f;exact z_sn f
theorem any_veq {l:List Nat} {k:Nat}:((nvs l).any fun w=>veq w (nv k))=decide (k∈l):=by
 induction l with
 | nil=>rfl
 | cons a l ih=>
  simp only [nvs,List.map_cons,List.any_cons] at ih ⊢;refine ih▸?_;have:veq (nv a) (nv k)=decide (k=a):=by
   show ((a:Int) == (k:Int))=_;by_cases h:k=a
   ·subst h;simp
   ·have:¬ (a:Int)=k:=by lia
    simp [h,this]
  refine this▸?_;by_cases h1:k=a <;> by_cases h2:k∈l <;> simp [h1,h2]
theorem nvs_flat (l:List Nat):V.flatL (nvs l)=true∧V.deepL (nvs l)≤1:=by rw [nvs_ints];exact ints_flat _
section
variable {B:Bs} {n:Nat} {H:AH}
theorem u_notInNats {a:Addr} {l:List Nat} {k:Nat} {Q:V→AH→Prop} (ha:H a=some (.list (nvs l))) (q:Q (.bool (!decide (k∈l))) H):U2 B n (compareOp .NotIn) (nv k) (.ref a) H Q:=by
 refine e0a2 (nvs_flat l) fun f1 f2=>?_;refine u_notInList ha (by rfl) (by exact Nat.le_trans ‹_› (nbl rfl)) f1 ?_;refine any_veq▸?_;exact q
theorem u_eqNats {a b:Addr} {l m:List Nat} {Q:V→AH→Prop} (ha:H a=some (.list (nvs l))) (hb:H b=some (.list (nvs m))) (q:Q (.bool (decide (l=m))) H):U2 B n (compareOp .Eq) (.ref a) (.ref b) H Q:=by
 refine e0a2 (nvs_flat l) fun f1 f2=>?_;refine e0a2 (nvs_flat m) fun g1 g2=>?_;refine u_eqList ha hb (by exact Nat.le_trans ‹_› (nbl rfl)) f1 g1 ?_;have:veqL (nvs l) (nvs m)=decide (l=m):=by
  rw [Bool.eq_iff_iff,veqL_iff _ _ f1,decide_eq_true_iff];exact List.map_inj_right fun a b e=>nv_inj e
 refine this▸?_;exact q
theorem tv_get {l:List (Nd × Nat)} {i:Nat} {v:V} (h:(l.map tv)[i]? = some v):∃ p,l[i]? = some p∧v=tv p:=by
 replace h:=Option.map_eq_some_iff.mp (List.getElem?_map.symm.trans h);obtain ⟨y,h,rfl⟩:=h;exact i1a2 y h rfl
theorem lotV_get {l:List (List Addr)} {i:Nat} {v:V} (h:(l.map lotV)[i]? = some v):∃ p,l[i]? = some p∧v=lotV p:=by
 replace h:=Option.map_eq_some_iff.mp (List.getElem?_map.symm.trans h);obtain ⟨y,h,rfl⟩:=h;exact i1a2 y h rfl
theorem refs_get {l:List Addr} {i:Nat} {v:V} (h:(l.map V.ref)[i]? = some v):∃ a,l[i]? = some a∧v=.ref a:=by
 replace h:=Option.map_eq_some_iff.mp (List.getElem?_map.symm.trans h);obtain ⟨y,h,rfl⟩:=h;exact i1a2 y h rfl
noncomputable def FitsT (ct:Addr→List Nat) (table:List (Nd × Nat)) (lts:List (List Addr)) (y:Nat):Prop:=∃ x,(x,y)∈table∧∃ l∈lts,LotFits ct x l
theorem fits_row {ct:Addr→List Nat} {table:List (Nd × Nat)} {lts:List (List Addr)} {i:Nat} {x:Nd} {k y:Nat} (hi:table[i]? = some (x,k)):FitsT ct (table.take (i+1)) lts y↔FitsT ct (table.take i) lts y∨(y=k∧∃ l∈lts,LotFits ct x l):=by
 rw [FitsT,List.take_add_one,hi];constructor
 ·intro z4;refine e1a2 z4 fun z hz h=>?_;clear z4;rcases List.mem_append.mp hz with hz | hz
  ·exact .inl (i1a2 z hz h)
  ·cases List.mem_singleton.mp hz;exact .inr ⟨rfl,h⟩
 ·clear hi;rintro (⟨z,hz,h⟩ | ⟨rfl,h⟩)
  ·exact i1a2 z (List.mem_append_left _ hz) h
  ·exact i1a2 x (List.mem_append_right _ (List.mem_singleton.mpr rfl)) h
theorem fits_lot {ct:Addr→List Nat} {lts:List (List Addr)} {j:Nat} {x:Nd} {l:List Addr} (h:lts[j]? = some l):(∃ l∈lts.take (j+1),LotFits ct x l)↔(∃ l∈lts.take j,LotFits ct x l)∨LotFits ct x l:=by
 refine List.take_add_one▸?_;refine h▸?_;constructor
 ·intro z6;refine e1a2 z6 fun z hz h=>?_;rcases List.mem_append.mp hz with hz | hz
  ·exact .inl (i1a2 z hz h)
  ·cases List.mem_singleton.mp hz;exact .inr h
 ·rintro (⟨z,hz,h⟩ | h)
  ·exact i1a2 z (List.mem_append_left _ hz) h
  ·exact i1a2 l (List.mem_append_right _ (List.mem_singleton.mpr rfl)) h
theorem all_take {α:Type} {P:α→Prop} {l:List α} {q:Nat} {z:α} (h:l[q]? = some z):(∀ p∈l.take (q+1),P p)↔(∀ p∈l.take q,P p)∧P z:=by
 simp only [List.take_add_one,h];constructor
 ·exact fun f=>⟨fun p hp=>f p (List.mem_append_left _ hp),f z (List.mem_append_right _ (List.mem_singleton.mpr rfl))⟩
 ·intro z8;refine e0a2 z8 fun f g=>?_;intro p hp;refine Or.elim (List.mem_append.mp hp) (fun hp=>?_) fun hp=>?_
  ·exact f p hp
  ·cases List.mem_singleton.mp hp;exact g
theorem lots_spec (Fk:Facts B.K) {at_ al:Addr} {table:List (Nd × Nat)} {lts:List (List Addr)} {ct:Addr→List Nat} (h1:H at_=some (.list (table.map tv))) (h2:H al=some (.list (lts.map lotV))) (h3:∀ l∈lts,∀ a∈l,H a=some (.list (nvs (ct a))))
  (hk:∀ p∈table,p.1.kids.length≤2∧p.2 < 12) (ht:table.length≤12) (hl:lts.length≤4100) (hll:∀ l∈lts,l.length≤2) {Q:QV}
  (q:∀ c ms H',H c=none→H' c=some (.list (nvs ms))→Ext H H'→(∀ x∈ms,x < 12)→ms.length≤12→(∀ k,k∈ms↔FitsT ct table lts k)→Q (.ref c) H'):UC B (n+1) (.ref 512) [.ref at_,.ref al] H Q:=by
 refine UC.fn Fk 36 rfl rfl ?_;walk_at "evs";intro af haf;walk_at "evs";refine Ex.forL Fk ?_;walk_at "evs";have hlt:(table.map tv).length=table.length:=List.length_map ..;refine UI.list ((Ext.refl H).new haf _ _ h1) ⟨.fix [(ofString "lots",.ref al),(ofString "found",.ref af)] rfl (fun i H'=>Ext H H'∧∃ fd,H' af=some (.list (nvs fd))∧fd.length≤i * lts.length∧∀ k,k∈fd↔FitsT ct (table.take i) lts k)
  ⟨(Ext.refl _).new haf,[],AH.put_self _ _ _,Nat.zero_le _,fun k=>⟨(fun h=>nomatch h),fun z24=>e1a2 z24 fun u1_ h u2_=>nomatch h⟩⟩ ?_ ?_⟩
 ·intro H' z38;refine e0a2 z38 fun hE z39=>?_;refine e1a3 z39 fun fd hfd hfl hfm=>?_;refine ⟨hE _ _ h1,?_⟩;rw [hlt] at hfl hfm;rw [List.take_length] at hfm;have hks:∀ x∈fd,x < 12:=fun x hx=>e1a2 ((hfm x).mp hx) fun y hy u3_=>(hk _ hy).2;walk_at "evs";refine c_setNats hfd (Nat.le_trans hfl (Nat.le_trans (Nat.mul_le_mul ht hl) (by decide))) hks fun c ks hc nd hm=>?_;have hsm:=nodup_small nd fun x hx=>hks x ((hm x).mp hx);walk_at "evs";refine c_sortedNatSet (AH.put_self _ _ _) (Nat.lt_of_le_of_lt hsm (by decide)) fun d ms hd hp u4_=>?_;walk_at "evs";exact q d ms _ ((hE.new hc).none hd) (AH.put_self _ _ _) ((hE.new hc).new hd) (fun x hx=>hks x ((hm x).mp (hp.mem_iff.mp hx))) (hp.length_eq▸hsm) fun k=>(hp.mem_iff.trans (hm k)).trans (hfm k)
 ·clear q;rintro i v H' Qw hi ⟨hE,fd,hfd,hfl,hfm⟩ kw;refine ⟨hE _ _ h1,?_⟩;obtain ⟨⟨x,k⟩,hxi,rfl⟩:=tv_get hi;obtain ⟨hk1,hk2⟩:=hk _ (List.mem_of_getElem? hxi);have hil:i < 12:=Nat.lt_of_lt_of_le (List.getElem?_eq_some_iff.mp hxi).1 ht;have hxl:x.v=.tup (V.str x.op::nvs x.kids):=rfl;have hx3:(V.str x.op::nvs x.kids).length≤100000:=Nat.succ_le_succ (Nat.le_trans (Nat.le_of_eq (List.length_map ..)) (Nat.le_trans hk1 (by decide)));walk_at "evs";refine Ex.forL Fk ?_;walk_at "evs";have hll2:(lts.map lotV).length=lts.length:=List.length_map ..;refine UI.list (hE _ _ h2) ⟨.fix [(ofString "lots",.ref al),(ofString "found",.ref af),(ofString "head",x.v),(ofString "c",nv k)] rfl (fun j H''=>Ext H H''∧∃ fd,H'' af=some (.list (nvs fd))∧fd.length≤i * lts.length+j ∧
   ∀ y,y∈fd↔FitsT ct (table.take i) lts y∨(y=k∧∃ l∈lts.take j,LotFits ct x l)) ⟨hE,fd,hfd,hfl,fun y=>(hfm y).trans ⟨.inl,fun h=>h.elim id fun h=>e1a2 h.2 fun u5_ h u6_=>nomatch h⟩⟩ ?_ ?_⟩
  ·clear hE hfd hfl hfm;intro H'' z30;refine e0a2 z30 fun hE z31=>?_;refine e1a3 z31 fun fd hfd hfl hfm=>?_;refine ⟨hE _ _ h2,?_⟩;rw [hll2] at hfl hfm;rw [List.take_length] at hfm;walk_at "evs";exact kw _ _ rfl ⟨hE,fd,hfd,by simp only [Nat.succ_mul];exact hfl,fun y=>(hfm y).trans (fits_row hxi).symm⟩
  ·clear hE hfd hfl hfm;rintro j v H'' Qt hj ⟨hE,fd,hfd,hfl,hfm⟩ kn;refine ⟨hE _ _ h2,?_⟩;refine e1a2 (lotV_get hj) fun l hlj z25=>?_;clear hj;subst z25;have hlm:=List.mem_of_getElem? hlj;have hl2:=hll l hlm;have hjl:j < lts.length:=(List.getElem?_eq_some_iff.mp hlj).1;have hfd2:fd.length≤60000:=Nat.le_trans hfl (by have:=Nat.mul_le_mul (Nat.le_of_lt hil) hl;lia);have hnot:¬ LotFits ct x l→∀ y,y∈fd↔FitsT ct (table.take i) lts y∨(y=k∧∃ l∈lts.take (j+1),LotFits ct x l):=fun hn y=>by
    rw [hfm,fits_lot hlj,or_iff_left hn]
   have hlr:(l.map V.ref).length=l.length:=List.length_map ..;walk_at "evs";refine c_lenTup hx3 ?_;walk_at "evs";refine u_sub ?_;walk_at "evs";refine c_lenTup (by refine hlr▸?_;exact Nat.le_trans ‹_› (nbl rfl)) ?_;walk_at "evs";refine u_eqInt ?_;simp only [hlr,List.length_cons,List.length_map];by_cases hlen:x.kids.length=l.length
   ·refine byes (by lia) ?_;walk_at "evs";refine Ev.compL Fk ?_;walk_at "evs";refine Ev.from1V Fk ?_;walk_at "evs";refine i0a3 (Nat.succ_pos _) hx3 ?_;walk_at "evs";have hzl:(zipV (nvs x.kids) (l.map V.ref)).length=(x.kids.zip l).length:=by simp [zipV]
    refine UCI.zip (κ₁:=false) (κ₂:=false) (vs:=nvs x.kids) (ws:=l.map V.ref) rfl rfl rfl fun P l1 l2 u7_ u8_=>⟨.mk (by simp only [hzl,List.length_zip];lia) (fun q acc H3=>H3=H''∧∃ bad:List Nat,acc=nvs bad∧(bad=[]↔∀ p∈(x.kids.zip l).take q,p.1∈ct p.2)) ⟨rfl,[],rfl,fun u9_ u10_ h=>(nomatch h),fun u11_=>rfl⟩ ?_ ?_⟩
    ·rintro acc H3 ⟨rfl,bad,rfl,hbad⟩;refine ⟨⟨trivial,trivial⟩,fun D hD=>?_⟩;rw [hzl,List.take_length] at hbad;walk_at "evs";intro D2 hD2;have e1:=(Ext.refl H3).new (c:=.list (nvs bad)) hD;walk_at "evs";refine u_eqNats (l:=bad) (m:=[]) ((Ext.refl _).new hD2 _ _ (AH.put_self _ _ _)) (AH.put_self _ _ _) ?_;have e2:=e1.new (c:=.list []) hD2;have hfd3:=e2 _ _ hfd;have hE2:=hE.trans e2;clear e1 e2 hfd hE;generalize AH.put _ D2 _=H4 at hfd3 hE2 ⊢;by_cases hb:bad=[]
     ·refine byes hb ?_;have hfit:LotFits ct x l:=⟨hlen,hbad.mp hb⟩
      walk_at "evs";refine c_append hfd3 (by simp only [List.length_map];exact Nat.le_trans ‹_› (nbl rfl)) ?_;simp only [nvs_snoc];walk_at "evs";refine kn _ _ rfl ⟨hE2.put haf,fd++[k],AH.put_self _ _ _,by simp only [List.length_append,List.length_singleton];lia,fun y=>?_⟩;rw [List.mem_append,hfm,List.mem_singleton,or_assoc,fits_lot hlj];exact or_congr_right ⟨fun h=>h.elim (fun h=>⟨h.1,.inl h.2⟩) fun h=>⟨h,.inr hfit⟩,fun h=>.inr h.1⟩
     ·refine bno hb ?_;walk_at "evs";exact kn _ _ rfl ⟨hE2,fd,hfd3,Nat.le_succ_of_le hfl,hnot fun hf=>hb (hbad.mpr hf.2)⟩
    ·clear hfd;rintro q acc v H3 Qe Qo hq ⟨rfl,bad,rfl,hbad⟩ ke ko;refine ⟨⟨trivial,trivial⟩,?_⟩;refine e2a3 (zipV_get hq) fun u t hu ht' z12=>?_;clear hq;subst z12;refine e1a2 (nvs_get? hu) fun kd hkd z11=>?_;clear hu;subst z11;refine e1a2 (refs_get ht') fun a ha z10=>?_;clear ht';subst z10;have hz:(x.kids.zip l)[q]? = some (kd,a):=List.getElem?_zip_eq_some.mpr ⟨hkd,ha⟩;walk_at "evs";refine u_notInNats (hE _ _ (h3 l hlm a (List.mem_of_getElem? ha))) ?_;by_cases hin:kd∈ct a
     ·refine bno' (by refine decide_eq_true hin▸?_;rfl) ?_;walk_at "evs";exact ko _ ⟨rfl,bad,rfl,hbad.trans ((and_iff_left hin).symm.trans (all_take (P:=fun p=>p.1∈ct p.2) hz).symm)⟩
     ·refine byes' (by refine decide_eq_false hin▸?_;rfl) ?_;walk_at "evs";exact ke _ _ ⟨rfl,bad++[kd],nvs_snoc ..,fun h=>absurd h (by simp),fun h=>absurd ((all_take (P:=fun p=>p.1∈ct p.2) hz).mp h).2 hin⟩
   ·refine bno (by lia) ?_;refine bno' rfl ?_;walk_at "evs";exact kn _ _ rfl ⟨hE,fd,hfd,Nat.le_succ_of_le hfl,hnot fun h=>hlen h.1⟩
end
noncomputable def natsAt (H:AH) (a:Addr):List Nat:=match H a with
 | some (.list vs)=>vs.map fun v=>match v with
  | .int i=>i.toNat
  | _=>0
 | _=>[]
theorem natsAt_eq {H:AH} {a:Addr} {l:List Nat} (h:H a=some (.list (nvs l))):natsAt H a=l:=by
 simp only [natsAt,h];simp [nvs,Function.comp_def]
theorem lotCells_mem {as:List Addr} {ll:List (List Nat)} {i:Nat} {a:Addr} {l:List Nat} (h1:as[i]? = some a) (h2:ll[i]? = some l):(a,Cell.list (nvs l))∈lotCells as ll:=by
 have:=lotCells_get (L:=[]) h1 h2;rw [List.append_nil] at this;exact List.mem_of_getElem? this
theorem nodup_full {l m:List Nat} (nd:l.Nodup) (h:∀ x∈l,x∈m) (hl:m.length≤l.length):∀ x∈m,x∈l:=fun x hx=>by
 by_cases e:x∈l
 ·exact e
 ·have:=List.Nodup.length_le_of_subset (l₁:=x::l) (l₂:=m) (List.nodup_cons.mpr ⟨e,nd⟩) fun y hy=>by
   clear e;rcases List.mem_cons.mp hy with rfl | hy
   ·exact hx
   ·exact h y hy
  simp at this;exact y62 (by assumption) (by assumption)
theorem len2 {α:Type} {l:List α} (h:l.length=2):∃ a b,l=[a,b]:=by
 match l,h with
 | [a,b],_=>exact i2a1 a b rfl
theorem irange1 (k:Nat):irange 1 k=nvs ((List.range k).map (· + 1)):=by
 simp [irange,nvs];lia
noncomputable abbrev tbOf (table:List (Nd × Nat)):Nd→Nat→Prop:=fun x c=>(x,c)∈table
noncomputable def LeafIn (table:List (Nd × Nat)) (c:Nat):Prop:=∃ o,((⟨o,[]⟩:Nd),c)∈table
theorem leaf_row {table:List (Nd × Nat)} {i:Nat} {x:Nd} {k c:Nat} (hi:table[i]? = some (x,k)):LeafIn (table.take (i+1)) c↔LeafIn (table.take i) c∨(c=k∧x.kids=[]):=by
 rw [LeafIn,List.take_add_one,hi];constructor
 ·clear hi;rintro ⟨o,ho⟩;rcases List.mem_append.mp ho with ho | ho
  ·exact .inl ⟨o,ho⟩
  ·cases List.mem_singleton.mp ho;exact .inr ⟨rfl,rfl⟩
 ·clear hi;rintro (⟨o,ho⟩ | ⟨rfl,h⟩)
  ·exact ⟨o,List.mem_append_left _ ho⟩
  ·exact ⟨x.op,List.mem_append_right _ (List.mem_singleton.mpr (by exact (h).symm▸rfl))⟩
theorem fits_flat {table:List (Nd × Nat)} {ct:Addr→List Nat} {aft:Addr} {m k:Nat} (hfk:∀ k,k∈ct aft↔Upto true (tbOf table) m k) :
  FitsT ct table [[aft],[aft,aft]] k↔∃ o ks,tbOf table ⟨o,ks⟩ k∧((∃ k,ks=[k]∧Upto true (tbOf table) m k)∨∃ k l,ks=[k,l]∧Upto true (tbOf table) m k∧Upto true (tbOf table) m l):=by
 constructor
 ·rintro ⟨⟨o,ks⟩,hx,l,hl,h1,h2⟩;refine i2a2 o ks hx ?_;clear hx;rcases List.mem_cons.mp hl with rfl | hl
  ·obtain ⟨k,rfl⟩:=List.length_eq_one_iff.mp h1;exact .inl (i1a2 k rfl ((hfk k).mp (h2 (k,aft) List.mem_cons_self)))
  ·cases List.mem_singleton.mp hl;refine e2a1 (len2 h1) fun k l z5=>?_;clear h1;subst z5;exact .inr (i2a3 k l rfl ((hfk k).mp (h2 (k,aft) List.mem_cons_self)) ((hfk l).mp (h2 (l,aft) (List.mem_cons_of_mem _ List.mem_cons_self))))
 ·rintro ⟨o,ks,ht,⟨k,rfl,hk⟩ | ⟨k,l,rfl,hk,hl⟩⟩
  ·exact ⟨_,ht,[aft],List.mem_cons_self,rfl,List.forall_mem_cons.mpr ⟨(hfk k).mpr hk,fun u1_ h=>nomatch h⟩⟩
  ·exact ⟨_,ht,[aft,aft],List.mem_cons_of_mem _ List.mem_cons_self,rfl,List.forall_mem_cons.mpr ⟨(hfk k).mpr hk,List.forall_mem_cons.mpr ⟨(hfk l).mpr hl,fun u2_ h=>nomatch h⟩⟩⟩
theorem two_lots {a:Addr}:∀ l∈[[a],[a,a]],l.length≤2:=List.forall_mem_cons.mpr ⟨Nat.le_succ 1,List.forall_mem_cons.mpr ⟨Nat.le_refl 2,fun u1_ h=>nomatch h⟩⟩
noncomputable def sizeLots (as:List Addr) (m:Nat):List (List Addr):=[[as.getD m 0]]++(List.range (m - 1)).map fun j=>[as.getD (j+1) 0,as.getD (m - (j+1)) 0]
theorem sizeLots_mem {as:List Addr} {m:Nat} {l:List Addr} (h:l∈sizeLots as m):l=[as.getD m 0]∨∃ j,1≤j∧j < m∧l=[as.getD j 0,as.getD (m - j) 0]:=by
 refine Or.elim (List.mem_append.mp h) (fun h=>?_) fun h=>?_
 ·exact .inl (List.mem_singleton.mp h)
 ·refine e1a2 (List.mem_map.mp h) fun j hj z11=>?_;clear h;clear h;subst z11;replace hj:=List.mem_range.mp hj;exact .inr (i1a3 (j+1) (Nat.succ_pos _) (Nat.add_lt_of_lt_sub hj) rfl)
theorem fits_size {table:List (Nd × Nat)} {ct:Addr→List Nat} {as:List Addr} {ll:List (List Nat)} {m k:Nat} (hc:∀ i,i≤m→ct (as.getD i 0)=ll.getD i []) :
  FitsT ct table (sizeLots as m) k↔∃ o ks,tbOf table ⟨o,ks⟩ k∧((∃ k,ks=[k]∧k∈ll.getD m [])∨∃ k l j,ks=[k,l]∧1≤j∧j < m∧k∈ll.getD j []∧l∈ll.getD (m - j) []):=by
 constructor
 ·rintro ⟨⟨o,ks⟩,hx,l,hl,h1,h2⟩;refine i2a2 o ks hx ?_;clear hx;rcases sizeLots_mem hl with rfl | ⟨j,hj1,hj2,rfl⟩
  ·obtain ⟨k,rfl⟩:=List.length_eq_one_iff.mp h1;exact .inl (i1a2 k rfl (hc m (Nat.le_refl _)▸h2 (k,_) List.mem_cons_self))
  ·refine e2a1 (len2 h1) fun k l z14=>?_;clear h1;subst z14;exact .inr (i3a5 k l j rfl hj1 hj2 (hc j (Nat.le_of_lt hj2)▸h2 (k,_) List.mem_cons_self) (hc (m - j) (Nat.sub_le _ _)▸h2 (l,_) (List.mem_cons_of_mem _ List.mem_cons_self)))
 ·rintro ⟨o,ks,ht,⟨k,rfl,hk⟩ | ⟨k,l,j,rfl,hj1,hj2,hk,hl⟩⟩
  ·exact ⟨_,ht,[as.getD m 0],List.mem_append_left _ List.mem_cons_self,rfl,List.forall_mem_cons.mpr ⟨(hc m (Nat.le_refl _)).symm▸hk,fun u1_ h=>nomatch h⟩⟩
  ·refine ⟨_,ht,[as.getD j 0,as.getD (m - j) 0],List.mem_append_right _ (List.mem_map.mpr (i1a2 (j - 1) (List.mem_range.mpr (by exact y12 (by assumption) (by assumption))) ?_)),rfl,List.forall_mem_cons.mpr ⟨(hc j (Nat.le_of_lt hj2)).symm▸hk,List.forall_mem_cons.mpr ⟨(hc (m - j) (Nat.sub_le _ _)).symm▸hl,fun u2_ h=>nomatch h⟩⟩⟩;rw [show j - 1+1=j by exact Nat.sub_add_cancel ‹_›]
theorem lots_more {H H2 H3:AH} {L:List (Addr × Cell)} {al af c:Addr} {kf:Cell} {as:List Addr} {ll:List (List Nat)} {ms:List Nat} (has:as.length=ll.length) (h:Holds H ((al,.list (as.map V.ref))::(af,kf)::(lotCells as ll++L)))
  (e1:Ext H H2) (f1:H2 c=none) (g1:H3 c=some (.list (nvs ms))) (e2:Ext H2 H3):Holds (H3.put al (.list (as.map V.ref++[.ref c]))) ((al,.list ((as++[c]).map V.ref))::(af,kf)::(lotCells (as++[c]) (ll++[ms])++L)):=by
 have h11:=(h.ext_new (e1.trans e2) (e1.none f1) g1).set (a:=al) (c:=.list (as.map V.ref++[.ref c])) 1 rfl;simp only [lotCells_append has,List.map_append];refine h11.perm ((List.Perm.swap _ _ _).trans (.cons _ ((List.Perm.swap _ _ _).trans (.cons _ ?_))));simp only [List.append_assoc];exact List.perm_middle.symm
theorem refs_at {as:List Addr} {j:Nat} (h:j < as.length):(as.map V.ref)[j]? = some (.ref (as.getD j 0)):=by simp [h]
theorem getD_at {α:Type} {as:List α} {j:Nat} {d:α} (h:j < as.length):as[j]? = some (as.getD j d):=by simp [h]
theorem setAll_more {m c i:Nat} {fd:List (Nat × Nat)} {lm:List Nat} (h:lm[i]? = some c):setAll m fd (lm.take (i+1))=if (lget (setAll m fd (lm.take i)) c).isSome then setAll m fd (lm.take i) else setAll m fd (lm.take i)++[(c,m)]:=by
 unfold setAll;exact foldl_take _ _ _ h
theorem keys_few {fd:List (Nat × Nat)} {cl:List Nat} (nd:(fd.map (·.1)).Nodup) (h:∀ c∈fd.map (·.1),c∈cl):fd.length≤cl.length:=by
 have:=List.Nodup.length_le_of_subset nd h;rwa [List.length_map] at this
theorem len_refs {as:List Addr}:(as.map V.ref).length=as.length:=List.length_map ..
section
variable {B:Bs} {n:Nat} {H:AH} {L:List (Addr × Cell)}
theorem least_spec (Fk:Facts B.K) {at_ ac:Addr} {table:List (Nd × Nat)} {cl:List Nat} {dep:Bool} (hh:Holds H ((at_,.list (table.map tv))::(ac,.list (nvs cl))::L))
  (hk:∀ p∈table,p.1.kids.length≤2∧p.2 < 12) (ht:table.length≤12) (hcn:cl.Nodup) (hcl:cl.length≤12) (hc1:∀ x c,(x,c)∈table→c∈cl) (hc2:∀ c∈cl,Upto dep (tbOf table) 4000 c) {Q:QV}
  (q:∀ a fd H',(∀ c∈cl,∃ w,lget fd c=some w∧Least dep (tbOf table) w c)→Holds H' ((a,.idict (kvF nv fd))::(at_,.list (table.map tv))::(ac,.list (nvs cl))::L)→Q (.ref a) H'):UC B (n+2) (.ref 517) [.ref at_,.bool dep,.ref ac] H Q:=by
 refine UC.fn Fk 37 rfl rfl ?_;have hin:∀ m c,Upto dep (tbOf table) m c→c∈cl:=fun m c z33=>e1a2 z33 fun v u1_ hd=>by
  clear u1_;induction hd with
  | leaf h=>exact hc1 _ _ h
  | un h _=>exact hc1 _ _ h
  | bin h _ _=>exact hc1 _ _ h
 have htl:(table.map tv).length=table.length:=List.length_map ..;walk_at "evs";refine Ex.pairV Fk ?_;walk_at "evs";intro a0 ha0;have h1:Holds _ ((a0,.list (nvs []))::_):=hh.new (c:=.list []) ha0;clear hh ha0;generalize AH.put H a0 (.list [])=H0 at h1 ⊢;walk_at "evs";refine Ev.compL Fk ?_;walk_at "evs";refine UI.list (h1.get 1 rfl) ⟨.mk (by refine htl▸?_;exact Nat.le_trans ht (nbl rfl)) (fun i acc H'=>H'=H0∧∃ l:List Nat,acc=nvs l∧l.length≤i∧∀ c,c∈l↔LeafIn (table.take i) c) ⟨rfl,[],rfl,Nat.le_refl _,fun c=>⟨(fun h=>nomatch h),fun z34=>e1a1 z34 fun u2_ h=>nomatch h⟩⟩ ?_ ?_⟩
 ·rintro acc H' ⟨rfl,l,rfl,hll,hlm⟩;refine ⟨h1.get 1 rfl,fun D hD=>?_⟩;rw [htl] at hll hlm;rw [List.take_length] at hlm;have h2:=h1.new (c:=.list (nvs l)) hD;clear h1 hD;have hb:∀ x∈l,x < 12:=fun x hx=>e1a1 ((hlm x).mp hx) fun o ho=>(hk _ ho).2;walk_at "evs";refine c_setNats (h2.get 0 rfl) (by exact Nat.le_trans hll (Nat.le_trans ht (nbl rfl))) hb fun d ks hd nd hm=>?_;have h3:=h2.new (c:=.set (nvs ks)) hd;clear h2 hd;have hks:ks.length≤12:=nodup_small nd fun x hx=>hb x ((hm x).mp hx);walk_at "evs";refine c_sortedNatSet (h3.get 0 rfl) (by exact Nat.lt_of_le_of_lt hks (nbl rfl)) fun a1 l1 ha1 hp u3_=>?_;have h4:=(h3.new (c:=.list (nvs l1)) ha1).sub (L':=(a1,.list (nvs l1))::(a0,.list (nvs []))::(at_,.list (table.map tv))::(ac,.list (nvs cl))::L) (((List.sublist_cons_self _ _).trans (List.sublist_cons_self _ _)).cons_cons _);clear h3 ha1;have hl1:∀ c,c∈l1↔∃ o,tbOf table ⟨o,[]⟩ c:=fun c=>(hp.mem_iff.trans (hm c)).trans (hlm c);clear hp hm hlm hb hks nd hll;walk_at "evs";intro al hal;have h5:=h4.new (c:=.list [.ref a0,.ref a1]) hal;clear h4 hal;walk_at "evs";refine Ev.dict0 fun af haf=>?_;have h6:=h5.new (c:=.idict (kvF nv [])) haf;clear h5 haf;have h7:Holds _ ((al,.list (([a0,a1]:List Addr).map V.ref))::(af,.idict (kvF nv []))::(lotCells [a0,a1] [[],l1]++((at_,.list (table.map tv))::(ac,.list (nvs cl))::L))):=
   h6.perm ((List.Perm.swap _ _ _).trans (((List.Perm.swap _ _ _).cons _).cons _))
  clear h6;walk_at "evs";refine Ex.whileL Fk (fun k ρ H'=>∃ m as ll fd,ρ=[(ofString "table",.ref at_),(ofString "is_depth",.bool dep),(ofString "classes",.ref ac),(ofString "lots",.ref al),(ofString "found",.ref af)] ∧
   LeastInv dep (tbOf table) m ll fd∧m≤4001∧k=4001 - m∧as.length=ll.length∧Holds H' ((al,.list (as.map V.ref))::(af,.idict (kvF nv fd))::(lotCells as ll++((at_,.list (table.map tv))::(ac,.list (nvs cl))::L)))) 4000
   ⟨_,.cons rfl (.cons rfl (.cons rfl (.cons rfl (.cons rfl .nil)))),1,[a0,a1],[[],l1],[],rfl,LeastInv.start hl1,by decide,rfl,rfl,h7⟩ ?_
  clear h7 hl1;rintro k u4_ H' Qw ⟨m,as,ll,fd,rfl,hI,hm4,rfl,has,h8⟩ kw;have hpos:=hI.pos;have hlen:=hI.len;have hsub:∀ c∈fd.map (·.1),c∈cl:=fun c hc=>hin _ c ((hI.keys c).mp hc);have hfl:=keys_few hI.nd hsub;have hcell:H' ac=some (.list (nvs cl)):=h8.mem (List.mem_cons_of_mem _ (List.mem_cons_of_mem _ (List.mem_append_right _ (List.mem_cons_of_mem _ List.mem_cons_self))));walk_at "evs";refine c_lenDict (h8.get 1 rfl) (by refine kvF_len▸?_;exact Nat.le_trans hfl (Nat.le_trans hcl (nbl rfl))) ?_;walk_at "evs";refine c_lenList hcell (by rw [List.length_map];exact Nat.le_trans hcl (nbl rfl)) ?_;walk_at "evs";refine u_lt ?_;simp only [kvF_len,List.length_map];by_cases hlt:fd.length < cl.length
  ·refine byes (by exact Int.ofNat_lt.mpr hlt) ?_;clear hcell;have hm3:m≤4000:=Decidable.byContradiction fun h=>by
    have:=List.Nodup.length_le_of_subset hcn (l₂:=fd.map (·.1)) fun c hc=>(hI.keys c).mpr ((hc2 c hc).mono (Nat.le_sub_one_of_lt (Nat.lt_of_not_le h)));rw [List.length_map] at this;exact absurd hlt (Nat.not_lt.mpr this)
   have hasm:=has.trans hlen;have ham:=getD_at (as:=as) (j:=m) (d:=0) (y83 hasm (Nat.le_refl m));have hlm:=getD_at (as:=ll) (j:=m) (d:=[]) (y83 hlen (Nat.le_refl m));have hal:(as.map V.ref).length≤100000:=by rw [len_refs];exact hasm▸Nat.le_trans (Nat.succ_le_succ hm4) (nbl rfl)
   have hmem:=fun i (hi:i≤m)=>List.mem_cons_of_mem (al,Cell.list (as.map V.ref)) (List.mem_cons_of_mem (af,Cell.idict (kvF nv fd)) (List.mem_append_left ((at_,Cell.list (table.map tv))::(ac,.list (nvs cl))::L) (lotCells_mem (getD_at (as:=as) (j:=i) (d:=0) (y83 hasm hi)) (getD_at (as:=ll) (j:=i) (d:=[]) (y83 hlen hi)))));walk_at "evs";refine c_lenList (h8.get 0 rfl) hal ?_;walk_at "evs";refine u_sub ?_;rw [show (((as.map V.ref).length:Nat):Int) - 1=(m:Nat) from y84 (len_refs.trans hasm)];walk_at "evs";refine Ex.forL Fk ?_;walk_at "evs";refine u_listGet (h8.get 0 rfl) (refs_at (j:=m) (y83 hasm (Nat.le_refl m))) hal ?_;walk_at "evs";have hseen:=hI.seen;have hfew:∀ lot,(∀ c∈lot,c∈ll.getD m [])→(kvF nv (setAll m fd lot)).length≤12:=fun lot hs=>by
    rw [kvF_len];exact Nat.le_trans (keys_few (setAll_nd hI.nd) fun c hc=>hin _ c ((hseen.1 c).mp (setAll_keys.mpr ((setAll_keys.mp hc).imp id (hs c))))) hcl
   have hlml:(nvs (ll.getD m [])).length=(ll.getD m []).length:=List.length_map ..;generalize hlm0:ll.getD m []=lm at hseen hfew hlm hlml;refine UI.list (items:=nvs lm) (h8.mem (List.mem_cons_of_mem _ (List.mem_cons_of_mem _ (List.mem_append_left _ (lotCells_mem ham hlm))))) ⟨.fix [(ofString "table",.ref at_),(ofString "is_depth",.bool dep),(ofString "classes",.ref ac),(ofString "lots",.ref al),(ofString "found",.ref af),(ofString "many",nv m)] rfl (fun i H''=>
    Holds H'' ((al,.list (as.map V.ref))::(af,.idict (kvF nv (setAll m fd (lm.take i))))::(lotCells as ll++((at_,.list (table.map tv))::(ac,.list (nvs cl))::L)))) h8 ?_ ?_⟩
   ·clear h8;clear hc2 q hin;rintro H'' h9;refine ⟨h9.mem (List.mem_cons_of_mem _ (List.mem_cons_of_mem _ (List.mem_append_left _ (lotCells_mem ham hlm)))),?_⟩;rw [hlml,List.take_length] at h9;have hend:=@lots_more H'';induction dep with
    | true=>
     refine byes' rfl ?_;walk_at "evs";refine c_sortedKeys (h9.get 1 rfl) (by exact Nat.lt_of_le_of_lt (kvF_len▸hfew lm fun u5_ h=>h) (nbl rfl)) fun aft flat haft hpf u6_=>?_;have h10:=h9.new (c:=.list (nvs flat)) haft;walk_at "evs";intro alt halt;have h11:=h10.new (c:=.list ([[aft],[aft,aft]].map lotV)) halt;clear h10;have e1:=((Ext.refl H'').new (c:=.list (nvs flat)) haft).new (c:=.list ([[aft],[aft,aft]].map lotV)) halt;walk_at "evs";refine lots_spec Fk (lts:=[[aft],[aft,aft]]) (ct:=fun u7_=>flat) (h11.mem (List.mem_cons_of_mem _ (List.mem_cons_of_mem _ (List.mem_cons_of_mem _ (List.mem_cons_of_mem _ (List.mem_append_right _ List.mem_cons_self)))))) (h11.get 0 rfl) (fun l hl a ha=>?_) hk ht (nbl rfl) two_lots fun c ms H3 f1 g1 e2 hms hml hmm=>?_
     ·have:a=aft:=by
       clear haft halt h11 e1;rcases List.mem_cons.mp hl with rfl | hl
       ·exact List.mem_singleton.mp ha
       ·cases List.mem_singleton.mp hl;clear hl;clear hl;rcases List.mem_cons.mp ha with rfl | ha
        ·rfl
        ·exact List.mem_singleton.mp ha
      clear haft e1 hl;subst this;exact h11.get 1 rfl
     have hfin:=hend has h9 e1 f1 g1 e2;walk_at "evs";refine c_append (e2 _ _ (h11.get (a:=al) 2 rfl)) hal ?_;walk_at "evs";exact kw (4001 - (m+1)) _ _ (y15 hm3) ⟨_,.cons rfl (.cons rfl (.cons rfl (.cons rfl (.cons rfl .nil)))),m+1,as++[c],ll++[ms],setAll m fd lm,rfl,
      hlm0▸hI.next (fun u8_ k=>(hmm k).trans (fits_flat fun k=>hpf.mem_iff.trans (hseen.1 k))) (fun e=>nomatch e),Nat.succ_le_succ hm3,rfl,by simp only [List.length_append,List.length_append,has];rfl,hfin⟩
    | false=>
     refine bno' rfl ?_;walk_at "evs";refine u_listGet (h9.get 0 rfl) (refs_at (j:=m) (y83 hasm (Nat.le_refl m))) hal ?_;walk_at "evs";intro ah hah;have h10:=h9.new (c:=.list ([[as.getD m 0]].map lotV)) hah;walk_at "evs";refine Ev.compL Fk ?_;walk_at "evs";refine UCI.range2 (lo:=1) (k:=m - 1) (y85 hpos) (Nat.lt_of_le_of_lt (Nat.sub_le _ _) (Nat.lt_of_le_of_lt hm3 (nbl rfl))) (by decide) ?_;rw [irange1];have hrl:(nvs ((List.range (m - 1)).map (· + 1))).length=m - 1:=by simp only [List.length_map,List.length_map,List.length_range]
     refine ⟨.pure (by rw [hrl];exact Nat.le_trans (Nat.sub_le _ _) (Nat.le_trans hm4 (nbl rfl))) trivial (((List.range (m - 1)).map fun j=>[as.getD (j+1) 0,as.getD (m - (j+1)) 0]).map lotV) (by simp only [hrl,List.length_map,List.length_map,List.length_range]) (fun j v Qe hj=>?_) fun ai hai=>?_⟩
     ·refine e1a2 (nvs_get? hj) fun k hkj z28=>?_;clear hj;subst z28;rw [List.getElem?_map,Option.map_eq_some_iff] at hkj;obtain ⟨j',hj',rfl⟩:=hkj;obtain ⟨hj1,hj2⟩:=List.getElem?_eq_some_iff.mp hj';rw [List.getElem_range] at hj2;subst hj2;rw [List.length_range] at hj1;refine ⟨_,by simp only [List.getElem?_map,List.getElem?_map,hj'];rfl,fun ke=>?_⟩;walk_at "evs";refine u_listGet (h10.get 1 rfl) (refs_at (j:=j+1) (y25 has hlen hj1)) hal ?_;walk_at "evs";refine u_sub ?_;rw [show (m:Int) - ((j+1:Nat):Int)=((m - (j+1):Nat):Int) from (Int.ofNat_sub (Nat.le_of_lt (Nat.add_lt_of_lt_sub hj1))).symm];walk_at "evs";refine u_listGet (h10.get 1 rfl) (refs_at (j:=m - (j+1)) (y24 has hlen)) hal ?_;walk_at "evs";exact ke
     have h11:=h10.new (c:=.list (((List.range (m - 1)).map fun j=>[as.getD (j+1) 0,as.getD (m - (j+1)) 0]).map lotV)) hai;clear h10;walk_at "evs";refine u_addList (h11.get 1 rfl) (h11.get 0 rfl) (by simp;exact Nat.le_trans (y86 hm3) (nbl rfl)) fun alt halt=>?_;rw [← List.map_append];change vL _ _ _ (AH.put (AH.put (AH.put H'' ah (.list ([[as.getD m 0]].map lotV))) ai _) alt (.list ((sizeLots as m).map lotV))) _;have h12:=h11.new (c:=.list ((sizeLots as m).map lotV)) halt;clear h11;have e1:=(((Ext.refl H'').new (c:=.list ([[as.getD m 0]].map lotV)) hah).new (c:=.list (((List.range (m - 1)).map fun j=>[as.getD (j+1) 0,as.getD (m - (j+1)) 0]).map lotV)) hai).new (c:=.list ((sizeLots as m).map lotV)) halt;generalize AH.put _ alt _=H2 at h12 e1 ⊢;have hct:∀ i,i≤m→H2 (as.getD i 0)=some (.list (nvs (ll.getD i []))):=fun i hi=>e1 _ _ (h9.mem (List.mem_cons_of_mem _ (List.mem_cons_of_mem _ (List.mem_append_left _ (lotCells_mem (getD_at (y83 hasm hi)) (getD_at (y83 hlen hi)))))));have hnat:∀ i,i≤m→natsAt H2 (as.getD i 0)=ll.getD i []:=fun i hi=>natsAt_eq (hct i hi);have hct2:∀ i,i≤m→H2 (as.getD i 0)=some (.list (nvs (natsAt H2 (as.getD i 0)))):=fun i hi=>by refine hnat i hi▸?_;exact hct i hi
     walk_at "evs";refine lots_spec Fk (lts:=sizeLots as m) (ct:=natsAt H2) (h12.mem (List.mem_cons_of_mem _ (List.mem_cons_of_mem _ (List.mem_cons_of_mem _ (List.mem_cons_of_mem _ (List.mem_cons_of_mem _ (List.mem_append_right _ List.mem_cons_self))))))) (h12.get 0 rfl) (fun l hl a ha=>?_) hk ht (by simp only [sizeLots,List.length_append,List.length_map,List.length_range];exact y86 hm3) (fun l hl=>?_) fun c ms H3 f1 g1 e2 hms hml hmm=>?_
     ·rcases sizeLots_mem hl with rfl | ⟨j,hj1,hj2,rfl⟩
      ·cases List.mem_singleton.mp ha;exact hct2 m (Nat.le_refl _)
      ·rcases List.mem_cons.mp ha with rfl | ha
       ·exact hct2 j (Nat.le_of_lt hj2)
       ·cases List.mem_singleton.mp ha;exact hct2 (m - j) (Nat.sub_le _ _)
     ·rcases sizeLots_mem hl with rfl | ⟨j,hj1,hj2,rfl⟩ <;> exact nbl rfl
     have hfin:=hend has h9 e1 f1 g1 e2;walk_at "evs";refine c_append (e2 _ _ (h12.get (a:=al) 3 rfl)) hal ?_;walk_at "evs";exact kw (4001 - (m+1)) _ _ (y15 hm3) ⟨_,.cons rfl (.cons rfl (.cons rfl (.cons rfl (.cons rfl .nil)))),m+1,as++[c],ll++[ms],setAll m fd lm,rfl,
      hlm0▸hI.next (fun e=>nomatch e) (fun u9_ k=>(hmm k).trans (fits_size hnat)),Nat.succ_le_succ hm3,rfl,by simp only [List.length_append,List.length_append,has];rfl,hfin⟩
   ·clear h8;rintro i v H'' Qt hi h9 kn;refine ⟨h9.mem (List.mem_cons_of_mem _ (List.mem_cons_of_mem _ (List.mem_append_left _ (lotCells_mem ham hlm)))),?_⟩;refine e1a2 (nvs_get? hi) fun c hci z26=>?_;clear hi;subst z26;have hf2:=hfew (lm.take i) fun c hc=>List.mem_of_mem_take hc;rw [setAll_more hci] at kn;generalize setAll m fd (lm.take i)=fe at h9 hf2 kn;walk_at "evs";refine c_idictSetdefault (h9.get 1 rfl) (Nat.le_trans hf2 (by decide)) ?_;refine dget_kvF▸?_;induction hg:lget fe c with
    | some w=>
     rw [hg] at kn;walk_at "evs";exact kn _ _ rfl h9
    | none=>
     rw [hg] at kn;have h10:=h9.set (a:=af) (c:=.idict (kvF nv fe++[((c:Int),V.int m)])) 1 rfl;clear h9;walk_at "evs";exact kn _ _ rfl (h10.to (by simp [kvF]))
  ·refine bno (by exact fun e=>hlt (Int.ofNat_lt.mp e)) ?_;walk_at "evs";refine q af fd _ (fun c hc=>?_) (h8.sub ((List.sublist_append_right _ _).cons_cons _ |>.cons _));refine e1a1 (Option.isSome_iff_exists.mp (lget_isSome.mpr (nodup_full hI.nd hsub (by rw [List.length_map];exact Nat.le_of_not_lt hlt) c hc))) fun w hw=>?_;exact i1a2 w hw (hI.val c w hw)
 ·rintro i acc v H' Qe Qo hi ⟨rfl,l,rfl,hll,hlm⟩ ke ko;refine ⟨h1.get 1 rfl,?_⟩;obtain ⟨⟨x,k⟩,hxi,rfl⟩:=tv_get hi;have hkk:=(hk _ (List.mem_of_getElem? hxi)).1;walk_at "evs";refine c_lenTup (Nat.succ_le_succ (Nat.le_trans (Nat.le_of_eq (List.length_map ..)) (Nat.le_trans hkk (by decide)))) ?_;walk_at "evs";refine u_eqInt ?_;simp only [List.length_cons,List.length_map];by_cases he:x.kids=[]
  ·refine byes (by refine he▸?_;rfl) ?_;walk_at "evs";refine ke _ _ ⟨rfl,l++[k],nvs_snoc ..,by simp only [List.length_append,List.length_singleton];exact Nat.succ_le_succ hll,fun c=>?_⟩;rw [List.mem_append,List.mem_singleton,hlm,leaf_row hxi,and_iff_left he]
  ·have:x.kids.length≠0:=fun h=>he (List.length_eq_zero_iff.mp h);refine bno (by lia) ?_;exact ko _ ⟨rfl,l,rfl,Nat.le_succ_of_le hll,fun c=>by rw [leaf_row hxi,hlm,or_iff_left fun h=>he h.2]⟩
end
theorem sorted_unique {l m:List Nat} (ln:l.Nodup) (mn:m.Nodup) (ls:l.Pairwise (·≤·)) (ms:m.Pairwise (·≤·)) (h:∀ x,x∈l↔x∈m):l=m:=
 List.Perm.eq_of_pairwise (le:=(·≤·)) (fun a b u1_ u2_ h1 h2=>Nat.le_antisymm h1 h2) ls ms ((List.perm_ext_iff_of_nodup ln mn).mpr h)
section
variable {R:HR} {S S0:HS} {pairs:List (Nat × Nat)}
noncomputable abbrev smu (S:HS):Nat:=S.waiting.length+25 * (roots S.un.par).length
noncomputable def SInv (R:HR) (S0:HS) (pairs:List (Nat × Nat)) (S:HS):Prop:=HInv R S pairs (fun _=>False)∧StepR S0 S∧S.bank=S0.bank
theorem SInv.turn (h:SInv R S0 pairs S) (hp:pairs.length≤100):Turn R (SInv R S0 pairs) smu S:=by
 refine e0a3 h fun hI st hb=>?_;refine ⟨hI.sok hp,hI.knb,hI.knl,fun w a hw=>?_⟩;have ha:a < S.un.par.length:=hI.wb a (by rw [hw];simp);obtain ⟨x,hx⟩:∃ x,S.bank.nodes[a]? = some x:=⟨_,List.getElem?_eq_getElem (by simp only [hI.len];exact ha)⟩
 refine i1a2 x hx (fun S' hl=>?_);have hwl:S.waiting.length=w.length+1:=by rw [hw];simp
 have hcw:=hI.cw;have h1:HInv R { S with waiting:=w } pairs (fun k=>k=a):=by
  have hdone:∀ (n:Nat) (y:Nd),S.bank.nodes[n]? = some y→¬ n=a→n∈w∨∃ m,knGet S.known (canonF (rt S.un.par) y)=some m∧rt S.un.par m=rt S.un.par n:=fun n y hn hna=>by
   refine Or.elim (hI.done n y hn (fun f=>f)) (fun h2=>?_) fun h2=>?_
   ·left;rw [hw] at h2;refine Or.elim (List.mem_append.mp h2) (fun h3=>?_) fun h3=>?_
    ·exact h3
    ·simp at h3;exact absurd h3 hna
   ·exact .inr h2
  have hcw':S.known.length+w.length+25 * (roots S.un.par).length≤26 * S.un.par.length:=by lia
  exact { hI with done:=hdone,wb:=fun z hz=>hI.wb z (by rw [hw];exact List.mem_append_left _ hz),cw:=hcw' }
 refine e0a4 (h1.look hx (by show S.known.length+w.length+25 * (roots S.un.par).length+1≤26 * S.un.par.length;lia) hl) fun g1 g2 g3 g4=>?_;have g2':StepR S S':=⟨g2.pre,g2.coarse,g2.le⟩
 refine ⟨i0a3 g1 (st.trans g2') (g3.trans hb),?_⟩;show S'.waiting.length+25 * (roots S'.un.par).length < S.waiting.length+25 * (roots S.un.par).length;have g4':S'.waiting.length+25 * (roots S'.un.par).length≤w.length+25 * (roots S.un.par).length:=g4;lia
theorem node_der (hI:HInv R S pairs (fun u1_=>False)) (dep:Bool) (n:Nat) (hn:n < S.un.par.length):∃ v,v < 2 ^ (n+1)∧Der dep (tbR S) v (rt S.un.par n):=by
 induction n using Nat.strongRecOn with
 | _ n ih=>
  obtain ⟨y,hy⟩:∃ y,S.bank.nodes[n]? = some y:=⟨_,List.getElem?_eq_getElem (by simp only [hI.len];exact hn)⟩
  have hf:=hI.bk.few y (List.mem_of_getElem? hy);have hk:=hI.bk.kids n y hy;have ht:tbR S (canonF (rt S.un.par) y) (rt S.un.par n):=i2a3 n y hy rfl rfl;have hpos:0 < 2 ^ n:=Nat.two_pow_pos n;have hp2:2 ^ (n+1)=2 ^ n * 2:=Nat.pow_succ 2 n;have ih':∀ k∈y.kids,∃ v,v < 2 ^ n∧Der dep (tbR S) v (rt S.un.par k):=fun k hkk=>by
   have h1:=hk k hkk;refine e1a2 (ih k h1 (by exact Nat.lt_of_lt_of_le ‹_› (Nat.le_of_lt ‹_›))) fun v h2 h3=>?_;exact i1a2 v (Nat.lt_of_lt_of_le h2 (Nat.pow_le_pow_right (by decide) (by assumption))) h3
  obtain ⟨op,kids⟩:=y;simp only at hf ih'
  match kids,hf,ih',ht with
  | [],_,_,ht=>exact i1a2 1 (by simp) (.leaf (o:=op) ht)
  | [k],_,ih',ht=>
   refine e1a2 (ih' k z_m0) fun v h1 h2=>?_;exact i1a2 (1+v) (y71 h1) (.un (o:=op) ht h2)
  | [k,l],_,ih',ht=>
   refine e1a2 (ih' k z_m0) fun v h1 h2=>?_;refine e1a2 (ih' l z_m1) fun w h3 h4=>?_;refine i1a2 _ ?_ (.bin (o:=op) ht h2 h4);split
   ·exact y21 h1 h3
   ·exact y22 h1 h3
theorem node_upto (hI:HInv R S pairs (fun u1_=>False)) (hl:S.un.par.length≤11) (dep:Bool) (n:Nat) (hn:n < S.un.par.length):Upto dep (tbR S) 4000 (rt S.un.par n):=by
 refine e1a2 (node_der hI dep n hn) fun v h1 h2=>?_;refine i1a2 v ?_ h2;have h3:2 ^ (n+1)≤2 ^ 11:=Nat.pow_le_pow_right (by decide) (by lia);have h4:(2:Nat) ^ 11=2048:=rfl;lia
theorem rt_home (hI:HInv R S pairs (fun u1_=>False)) (hc:IsC S.bank.nodes pairs (rt S.un.par)) {hm:List Nat} (ho:HomeOK S.bank.nodes pairs hm) (hh:IsC S.bank.nodes pairs (hf hm)) (i:Nat) (hi:i < S.un.par.length):hf hm i=rt S.un.par i:=by
 have h1:=ho.sound _ hc i (by simp only [hI.len];exact hi);have h2:=hI.sound _ hh i hi;have h3:=ho.le (rt S.un.par i);have h4:=rt_le S.un.par (hf hm i);lia
theorem HInv.nodesOK (hI:HInv R S pairs (fun u1_=>False)):NodesOK S.bank.nodes:=⟨hI.bk.kids,hI.bk.few,hI.bk.small⟩
end
theorem tv_inj {p q:Nd × Nat} (h:tv p=tv q):p=q:=by
 obtain ⟨x,a⟩:=p;obtain ⟨y,b⟩:=q;simp only [tv,V.tup.injEq,List.cons.injEq] at h;refine e0a3 h fun h1 h2 u1_=>?_;refine Nd.v_inj h1▸?_;exact nv_inj h2▸rfl
theorem tv_hash (p:Nd × Nat):TupV (tv p):=by
 have:=tupV_head p.1.op (p.1.kids.map Int.ofNat) p.2;rw [← nvs_ints] at this;exact this
theorem of_tvs {l:List (Nd × Nat)}:∀ {us:List V},(∀ v,v∈us→v∈l.map tv)→∃ ks:List (Nd × Nat),us=ks.map tv:=by
 intro us;induction us with
 | nil=>
  intro u1_;exact ⟨[],rfl⟩
 | cons u us ih_=>
  intro h;refine e1a1 (ih_ fun v hv=>h v (List.mem_cons_of_mem _ hv)) fun ks z2=>?_;clear ih_;subst z2;refine e1a2 (List.mem_map.mp (h u List.mem_cons_self)) fun k u1_ z1=>?_;clear h;subst z1;exact ⟨k::ks,rfl⟩
theorem mem_tvs {l:List (Nd × Nat)} {p:Nd × Nat}:tv p∈l.map tv↔p∈l:=⟨fun h=>by refine e1a2 (List.mem_map.mp h) fun q hq e=>?_;refine (tv_inj e).symm▸?_;exact hq,List.mem_map_of_mem⟩
section
variable {B:Bs} {n:Nat} {H:AH} {R:HR} {S:HS} {L:List (Addr × Cell)} {K1 K2:KR} {v1 v2:List (Nat × Nat)} {pairs:List (Nat × Nat)}
noncomputable abbrev kps (K1 K2:KR) (R:HR) (v1 v2:List (Nat × Nat)) (S:HS) (L:List (Addr × Cell)):List (Addr × Cell):=kIn K1 true R.h v1++(kIn K2 false R.h v2++heapIn R S L)
theorem kps_1 {A:List (Addr × Cell)} (h:Holds H (A++kps K1 K2 R v1 v2 S L)):Holds H (kIn K1 true R.h v1++heapIn R S (A++(kIn K2 false R.h v2++L))):=
 h.perm ((List.perm_append_comm_assoc A _ _).trans (((perm5 (P:=kIn K2 false R.h v2)).append_left A |>.trans (perm5 (P:=A))).append_left _))
theorem kps_2 {A:List (Addr × Cell)} (h:Holds H (A++kps K1 K2 R v1 v2 S L)):Holds H (kIn K2 false R.h v2++heapIn R S (A++(kIn K1 true R.h v1++L))):=
 h.perm ((((List.perm_append_comm_assoc _ _ _).append_left A).trans (List.perm_append_comm_assoc A _ _)).trans (((perm5 (P:=kIn K1 true R.h v1)).append_left A |>.trans (perm5 (P:=A))).append_left _))
theorem kps_h {A:List (Addr × Cell)} (h:Holds H (A++kps K1 K2 R v1 v2 S L)):Holds H (heapIn R S (A++(kIn K1 true R.h v1++(kIn K2 false R.h v2++L)))):=
 h.perm (((((perm5 (P:=kIn K2 false R.h v2)).append_left (kIn K1 true R.h v1)).trans (perm5 (P:=kIn K1 true R.h v1))).append_left A).trans (perm5 (P:=A)))
theorem kps_hb {A:List (Addr × Cell)} (h:Holds H (heapIn R S (A++(kIn K1 true R.h v1++(kIn K2 false R.h v2++L))))):Holds H (A++kps K1 K2 R v1 v2 S L):=
 h.perm (((((perm5 (P:=kIn K2 false R.h v2)).append_left (kIn K1 true R.h v1)).trans (perm5 (P:=kIn K1 true R.h v1))).append_left A).trans (perm5 (P:=A))).symm
noncomputable def rowsOf (f:Nat→Nat) (nodes:List Nd):List (Nd × Nat):=nodes.mapIdx fun j x=>(canonF f x,f j)
theorem rows_len (f:Nat→Nat) (nodes:List Nd):(rowsOf f nodes).length=nodes.length:=List.length_mapIdx
theorem rows_get {f:Nat→Nat} {nodes:List Nd} {j:Nat} {x:Nd} (h:nodes[j]? = some x):((rowsOf f nodes).map tv)[j]? = some (tv (canonF f x,f j)):=by
 simp only [List.getElem?_map,rowsOf,List.getElem?_mapIdx,h];rfl
theorem rows_mem {f:Nat→Nat} {nodes:List Nd} {p:Nd × Nat}:p∈rowsOf f nodes↔∃ j x,nodes[j]? = some x∧p=(canonF f x,f j):=by
 rw [rowsOf,List.mem_mapIdx];constructor
 ·rintro ⟨j,hj,rfl⟩;exact i2a2 j _ (List.getElem?_eq_getElem hj) rfl
 ·intro z4;refine e2a2 z4 fun j x hx z5=>?_;clear z4;subst z5;obtain ⟨hj,e⟩:=List.getElem?_eq_some_iff.mp hx;exact ⟨j,hj,by exact e▸rfl⟩
theorem table_is {tb:List (Nd × Nat)} (h:∀ p,p∈tb↔p∈rowsOf (rt S.un.par) S.bank.nodes):tbOf tb=tbR S:=by
 funext x c;refine propext (((h (x,c)).trans rows_mem).trans ⟨?_,?_⟩)
 ·rintro ⟨j,y,h2,h3⟩;cases h3;exact i2a3 j y h2 rfl rfl
 ·intro z11;refine e2a3 z11 fun j y h2 z12 z13=>?_;clear z11;subst z12;subst z13;exact i2a2 j y h2 rfl
theorem homes_mem {hm:List Nat} (hI:HInv R S pairs (fun u1_=>False)) (hml:hm.length=S.un.par.length) (hrh:∀ i,i < S.un.par.length→hf hm i=rt S.un.par i) (x:Nat):x∈hm↔x∈roots S.un.par:=by
 rw [mem_roots hI.un.le];constructor
 ·intro hx;refine e1a1 (List.getElem?_of_mem hx) fun j hj=>?_;have hjl:=(List.getElem?_eq_some_iff.mp hj).1;have e:x=rt S.un.par j:=(Option.some.inj (hj.symm.trans (hf_get hjl))).trans (hrh j (hml▸hjl));refine e▸?_;exact ⟨Nat.lt_of_le_of_lt (rt_le _ _) (hml▸hjl),rt_rt _ _⟩
 ·intro z16;refine e0a2 z16 fun h1 h2=>?_;have h3:=hf_mem (hm:=hm) (k:=x) (hml▸h1);rw [hrh x h1,h2] at h3;exact h3
theorem row_small (hI:HInv R S pairs (fun u1_=>False)) {x:Nd} {c:Nat} (h:tbR S x c):x.kids.length≤2∧c∈roots S.un.par:=by
 refine e2a3 h fun j y g1 z19 z20=>?_;clear h;subst z19;subst z20;have hjl:=(List.getElem?_eq_some_iff.mp g1).1;have hlen:=hI.len;exact ⟨Nat.le_trans (Nat.le_of_eq (List.length_map ..)) (hI.bk.few y (List.mem_of_getElem? g1)),(mem_roots hI.un.le).mpr ⟨Nat.lt_of_le_of_lt (rt_le _ _) (by exact y40 (by assumption) (by assumption)),rt_rt _ _⟩⟩
theorem right_spec (Fk:Facts B.K) {an ap ak:Addr} (hh:Holds H ((an,.list (S.bank.nodes.map Nd.v))::(ap,.list (pairs.map pv))::(ak,.list [.ref K1.k,.ref K2.k])::kps K1 K2 R v1 v2 S L)) (hI:HInv R S pairs (fun u1_=>False)) (hw:S.waiting=[]) (hpl:pairs.length≤100) (hl:S.un.par.length≤11)
  (hv1:∀ c,c∈roots S.un.par→∃ v,lget v1 c=some v∧Least true (tbR S) v c) (hv2:∀ c,c∈roots S.un.par→∃ v,lget v2 c=some v∧Least false (tbR S) v c) {Q:QV}
  (q:∀ H',Holds H' ((an,.list (S.bank.nodes.map Nd.v))::(ap,.list (pairs.map pv))::(ak,.list [.ref K1.k,.ref K2.k])::kps K1 K2 R v1 v2 S L)→Q (.bool true) H'):UC B (n+5) (.ref 522) [.ref R.h,.ref ak,.ref an,.ref ap] H Q:=by
 refine UC.fn Fk 38 rfl rfl ?_;have hlen:=hI.len;have hnl:(S.bank.nodes.map Nd.v).length=S.bank.nodes.length:=List.length_map ..;walk_at "evs";refine homes_spec Fk hh hI.nodesOK (fun p hp=>by refine hlen▸?_;exact hI.pb p hp) hpl fun ah hm H1 ho hho h1=>?_;clear hh;have hrh:∀ i,i < S.un.par.length→hf hm i=rt S.un.par i:=rt_home hI (hI.settled (fun u2_ h=>h) hw) ho hho;have hml:hm.length=S.un.par.length:=ho.len.trans hlen;clear ho hho;have hg:∀ k,k < S.un.par.length→(nvs hm)[k]? = some (nv (rt S.un.par k)):=fun k hk=>nvs_get (by refine (hrh k hk).symm▸?_;exact hf_get (hml▸hk));have hz:(nvs hm).length≤100000:=by rw [List.length_map];lia
 have hhm:=homes_mem hI hml hrh;clear hrh;walk_at "evs";refine Ev.compL Fk ?_;walk_at "evs";have hel:(enumV (S.bank.nodes.map Nd.v)).length=S.bank.nodes.length:=by simp only [enumV,List.length_map,List.length_range,hnl]
 refine UCI.enum rfl (h1.get 1 rfl) ⟨.grow (by refine hel▸?_;lia) (fun H'=>Holds H' ((ah,.list (nvs hm))::(an,.list (S.bank.nodes.map Nd.v))::(ap,.list (pairs.map pv))::(ak,.list [.ref K1.k,.ref K2.k])::kps K1 K2 R v1 v2 S L)) h1 (fun H' h=>h.get 1 rfl)
  ((rowsOf (rt S.un.par) S.bank.nodes).map tv) (by simp only [hel,List.length_map,rows_len]) (fun i v H' Qe hi h2=>?_) fun D H' h2 hD=>?_⟩
 ·clear h1;refine e1a2 (enumV_get hi) fun u hu z38=>?_;clear hi;subst z38;obtain ⟨x,hx,rfl⟩:=nds_get? hu;have hil:i < S.bank.nodes.length:=(List.getElem?_eq_some_iff.mp hx).1;have hfew:(nvs x.kids).length≤2:=by rw [List.length_map];exact hI.bk.few x (List.mem_of_getElem? hx)
  have hkid:=hI.bk.kids i x hx;refine i1a2 _ (rows_get hx) (fun kg=>?_);walk_at "evs";refine u_tupGet (i:=0) rfl (Nat.succ_le_succ (Nat.le_trans hfew (by decide))) ?_;walk_at "evs";refine Ev.compL Fk ?_;walk_at "evs";refine Ev.from1V Fk ?_;walk_at "evs";refine i0a3 (Nat.succ_pos _) (Nat.succ_le_succ (Nat.le_trans hfew (by decide))) ?_;walk_at "evs";refine UI.tup ⟨.pure (Nat.le_trans hfew (by decide)) trivial (nvs (x.kids.map (rt S.un.par))) (by simp only [List.length_map,List.length_map];exact (List.length_map ..).symm) (fun j v Qe hj=>?_) fun D hD=>?_⟩
  ·refine e1a3 (pure_kids (g:=rt S.un.par) (T:=nv) hj) fun k hkm z35 e=>?_;clear hj;subst z35;refine i1a2 _ e (fun ke=>?_);have hk:=hkid k hkm;walk_at "evs";refine u_listGet (h2.get 0 rfl) (hg k (by lia)) hz ?_;walk_at "evs";exact ke
  have h3:=h2.new (c:=.list (nvs (x.kids.map (rt S.un.par)))) hD;clear h2 hD;walk_at "evs";refine c_tupleList (h3.get 0 rfl) (by simp only [List.length_map,List.length_map];rw [List.length_map] at hfew;exact Nat.le_trans ‹_› (nbl rfl)) ?_;walk_at "evs";refine u_tupAdd (by simp only [List.length_map,List.length_map,List.length_singleton];rw [List.length_map] at hfew;lia) ?_;walk_at "evs";refine u_listGet (h3.get 1 rfl) (hg i (by exact Nat.lt_of_lt_of_le ‹_› (Nat.le_of_eq ‹_›))) hz ?_;walk_at "evs";exact kg _ h3.tail
 have h3:=h2.new (c:=.list ((rowsOf (rt S.un.par) S.bank.nodes).map tv)) hD;clear h2 h1 hD;walk_at "evs";refine c_setT (h3.get 0 rfl) (by simp only [List.length_map,rows_len];lia) (fun v hv=>e1a2 (List.mem_map.mp hv) fun p u3_ e=>e▸tv_hash p) fun d us hd hul hm'=>?_;refine e1a1 (of_tvs fun v hv=>(hm' v).mp hv) fun ks z7=>?_;subst z7;have hkl:ks.length≤11:=by rw [List.length_map,List.length_map,rows_len] at hul;lia
 have h4:=h3.new (c:=.set (ks.map tv)) hd;clear h3 hd;walk_at "evs";refine c_sortedSetHeads (h4.get 0 rfl) (by rw [List.length_map];lia) (fun v hv=>e1a2 (List.mem_map.mp hv) fun p u4_ e=>(i3a1 p.1.op (p.1.kids.map Int.ofNat) p.2 (by rw [← e,← nvs_ints];rfl))) fun at_ ws hat hpw=>?_;refine e1a1 (of_tvs (l:=ks) fun v hv=>hpw.mem_iff.mp hv) fun tb z33=>?_;subst z33;have htab:tbOf tb=tbR S:=table_is fun p=>by rw [← mem_tvs,hpw.mem_iff,hm',mem_tvs]
 have htbl:tb.length≤12:=by have:=hpw.length_eq;rw [List.length_map,List.length_map] at this;lia
 have h5:=(h4.new (c:=.list (tb.map tv)) hat).sub (L':=(at_,.list (tb.map tv))::(ah,.list (nvs hm))::(an,.list (S.bank.nodes.map Nd.v))::(ap,.list (pairs.map pv))::(ak,.list [.ref K1.k,.ref K2.k])::kps K1 K2 R v1 v2 S L) (((List.sublist_cons_self _ _).trans (List.sublist_cons_self _ _)).cons_cons _);clear h4 hat hpw hm' hul hkl;generalize AH.put _ at_ _=H2 at h5 ⊢;have hrs:∀ x∈roots S.un.par,x < 12:=fun x hx=>by have:=((mem_roots hI.un.le).mp hx).1;lia
 walk_at "evs";refine c_setNats (h5.get 1 rfl) (by lia) (fun x hx=>hrs x ((hhm x).mp hx)) fun d2 ks2 hd2 nd2 hm2=>?_;have hmem:=fun x=>(hm2 x).trans (hhm x);have hk2l:ks2.length≤12:=nodup_small nd2 fun x hx=>hrs x ((hmem x).mp hx);have h6:=h5.new (c:=.set (nvs ks2)) hd2;clear h5 hd2 hm2 hhm hrs;walk_at "evs";refine c_sortedNatSet (h6.get 0 rfl) (by lia) fun ac cl hac hp2 hs2=>?_;have hcl:cl=roots S.un.par:=sorted_unique (hp2.nodup_iff.mpr nd2) (roots_nodup _) hs2 ((roots_sorted _).imp fun h=>Nat.le_of_lt h) fun x=>hp2.mem_iff.trans (hmem x);subst hcl;have hrl:(roots S.un.par).length≤12:=hp2.length_eq▸hk2l;have h7:Holds _ ((at_,.list (tb.map tv))::(ac,.list (nvs (roots S.un.par)))::(ah,.list (nvs hm))::(an,.list (S.bank.nodes.map Nd.v))::(ap,.list (pairs.map pv))::(ak,.list [.ref K1.k,.ref K2.k])::kps K1 K2 R v1 v2 S L):=
  ((h6.new (c:=.list (nvs (roots S.un.par))) hac).sub ((List.sublist_cons_self _ _).cons_cons _)).perm (List.Perm.swap _ _ _)
 clear h6 hac hp2 hs2 nd2 hk2l hmem;generalize AH.put _ ac _=H3 at h7 ⊢;walk_at "evs";refine Ex.forL Fk ?_;walk_at "evs";refine UCI.zip (κ₁:=true) (κ₂:=false) (vs:=[.ref K1.k,.ref K2.k]) (ws:=[.bool true,.bool false]) rfl (i1a2 ak rfl (h7.get 5 rfl)) rfl fun P l1 l2 hl1 u5_=>?_;cases hl1 rfl;refine ⟨.fix [(ofString "heap",.ref R.h),(ofString "nodes",.ref an),(ofString "home",.ref ah),(ofString "table",.ref at_),(ofString "classes",.ref ac)] rfl (fun i H'=>
  Holds H' ((at_,.list (tb.map tv))::(ac,.list (nvs (roots S.un.par)))::(ah,.list (nvs hm))::(an,.list (S.bank.nodes.map Nd.v))::(ap,.list (pairs.map pv))::(ak,.list [.ref K1.k,.ref K2.k])::kps K1 K2 R v1 v2 S L)) h7 ?_ ?_⟩
 ·clear h7;rintro H' h8;refine ⟨⟨h8.get 5 rfl,trivial⟩,?_⟩;have h9:=kps_h (A:=[_,_,_,_,_,_]) h8;walk_at "evs";refine hclasses_spec Fk h9 hI.un fun c H2 h10=>?_;have h11:=kps_hb (A:=[_,_,_,_,_,_,_]) (h10.perm (perm5 (P:=[_])));clear h8 h9 h10;walk_at "evs";refine u_eqNats (h11.get 0 rfl) (h11.get 2 rfl) ?_;rw [decide_eq_true rfl];walk_at "evs";exact q _ h11.tail.tail.tail.tail
 ·clear h7 q;rintro i v H' Qt hi h8 kn;refine ⟨⟨h8.get 5 rfl,trivial⟩,?_⟩;refine e2a3 (zipV_get hi) fun u t hu ht z32=>?_;subst z32;obtain ⟨dep,K,vv,Lx,rfl,rfl,hvv,hfront⟩:∃ (dep:Bool) (K:KR) (vv:List (Nat × Nat)) (Lx:List (Addr × Cell)),u=.ref K.k∧t=.bool dep∧(∀ c,c∈roots S.un.par→∃ v,lget vv c=some v∧Least dep (tbR S) v c) ∧
    ∀ (H:AH) (A:List (Addr × Cell)),Holds H (A++kps K1 K2 R v1 v2 S L)→Holds H (kIn K dep R.h vv++heapIn R S (A++Lx)):=by
   match i,hu,ht with
   | 0,hu,ht=>clear hi;cases hu;cases ht;exact i4a4 true K1 v1 _ rfl rfl hv1 (fun H A h=>kps_1 h)
   | 1,hu,ht=>clear hi;cases hu;cases ht;exact i4a4 false K2 v2 _ rfl rfl hv2 (fun H A h=>kps_2 h)
   | i+2,hu,ht=>cases hu
  clear hu ht hi;walk_at "evs";have hrow:∀ p∈tb,p.1.kids.length≤2∧p.2∈roots S.un.par:=fun p hp=>row_small hI (htab▸hp);refine least_spec (B:=B.wp P) Fk h8 (fun p hp=>⟨(hrow p hp).1,by have:=((mem_roots hI.un.le).mp (hrow p hp).2).1;lia⟩) htbl (roots_nodup _) hrl (fun x c hxc=>(hrow (x,c) hxc).2) (fun c hc=>?_) fun ad fd H2 hfd h9=>?_
  ·refine htab▸?_;refine e0a2 ((mem_roots hI.un.le).mp hc) fun g1 g2=>?_;have:=node_upto hI hl dep c g1;rwa [g2] at this
  clear h8;rw [htab] at hfd;walk_at "evs";refine Ev.compL (B:=B.wp P) Fk ?_;walk_at "evs";refine c_lenList (h9.get 4 rfl) (by rw [hnl];lia) ?_;walk_at "evs";refine UCI.range1 (by rw [hnl];lia) ?_;simp only [irange0,hnl];refine ⟨.mk (by simp only [List.length_map,List.length_range];lia) (fun j acc H3=>H3=H2∧acc=[]) ⟨rfl,rfl⟩ ?_ ?_⟩
  ·intro acc H3 z29;refine e0a2 z29 fun z30 z31=>?_;clear z29;subst z30;subst z31;refine ⟨trivial,fun D hD=>?_⟩;have h10:=h9.new (c:=.list []) hD;clear h9;walk_at "evs";intro D2 hD2;have h11:=h10.new (c:=.list []) hD2;clear h10;walk_at "evs";refine u_neList (vs:=[]) (ws:=[]) (h11.get 1 rfl) (h11.get 0 rfl) (by decide) (by rfl) (by rfl) ?_;refine bno' rfl ?_;walk_at "evs";exact kn _ _ rfl h11.tail.tail.tail
  ·rintro j acc v H3 Qe Qo hj ⟨rfl,rfl⟩ ke ko;refine ⟨trivial,?_⟩;refine e1a2 (nvs_get? hj) fun k hk z21=>?_;clear hj;subst z21;have hkl:k < S.un.par.length:=by have:=List.mem_range.mp (List.mem_of_getElem? hk);exact Nat.lt_of_lt_of_le ‹_› (Nat.le_of_eq ‹_›)
   have h10:=hfront _ [_,_,_,_,_,_,_] h9;walk_at "evs";refine value_spec (B:=B.wp P) Fk h10 hI.un hkl ?_;clear h10;have hroot:rt S.un.par k∈roots S.un.par:=(mem_roots hI.un.le).mpr ⟨Nat.lt_of_le_of_lt (rt_le _ _) hkl,rt_rt _ _⟩;refine e1a2 (hvv _ hroot) fun x hx1 hx2=>?_;refine e1a2 (hfd _ hroot) fun w hw1 hw2=>?_;cases hx2.eq hw2;rw [hx1];walk_at "evs";refine u_listGet (h9.get 3 rfl) (hg k hkl) hz ?_;walk_at "evs";refine u_idictGet (v:=nv x) (h9.get 0 rfl) (by simp only [dget_kvF,hw1];rfl) ?_;walk_at "evs";refine u_neOv (x:=some x) (y:=some x) ?_;refine bno (fun h=>h rfl) ?_;exact ko _ ⟨rfl,rfl⟩
end
noncomputable def anCells (dep:Bool) (a d:Addr):List (Addr × Cell):=[(a,.inst (anCls dep) d),(d,.sdict [])]
theorem ovs_nvs (l:List Nat):ovs (l.map some)=nvs l:=by simp [ovs,ov,nvs]
theorem ofN_some (dep:Bool) (l:List Nat):ofN dep (l.map some)=some (agg dep l):=by simp only [ofN,allS_map];rfl
theorem allS_none {l m:List (Option Nat)}:allS (l++none::m)=none:=by
 induction l with
 | nil=>rfl
 | cons a l ih=>induction a <;> simp [allS,ih]
section
variable {B:Bs} {n:Nat} {H:AH} {L:List (Addr × Cell)}
theorem of_some (Fk:Facts B.K) (dep:Bool) {a:Addr} {l:List Nat} {u op:V} (ha:H a=some (.list (nvs l))) (hz:l.length≤4) {Q:QV} (q:∀ H',Ext H H'→Q (nv (agg dep l)) H'):UC B (n+1) (.ref (ofAddr dep)) [u,op,.ref a] H Q:=by
 refine of_spec Fk dep (l:=l.map some) (by rw [ovs_nvs];exact ha) (by rw [List.length_map];exact Nat.le_trans ‹_› (nbl rfl)) ?_;rw [ofN_some];exact q
theorem of_none (Fk:Facts B.K) (dep:Bool) {a:Addr} {l m:List Nat} {u op:V} (ha:H a=some (.list (nvs l++.none::nvs m))) (hz:l.length+m.length≤4) {Q:QV} (q:∀ H',Ext H H'→Q .none H'):UC B (n+1) (.ref (ofAddr dep)) [u,op,.ref a] H Q:=by
 refine of_spec Fk dep (l:=l.map some++none::m.map some) (by simp only [ha,← ovs_nvs,← ovs_nvs m,ovs,ovs,ovs,List.map_append];rfl) (by simp only [List.length_append,List.length_cons,List.length_map,List.length_map];lia) ?_;rw [ofN,allS_none];exact q
theorem c_max0 {a:Addr} {l:List Nat} {Q:QV} (ha:H a=some (.list (.int 0::nvs l))) (q:Q (.int (l.foldr max 0:Nat)) H):UC B n (.builtin "max") [.ref a] H Q:=by
 refine c_maxList (ns:=0::l.map Int.ofNat) (m:=(l.foldr max 0:Nat)) (by simp only [ha,nvs_ints];rfl) ?_ (fun x hx=>?_) q
 ·rcases List.mem_append.mp (foldr_max_mem l) with h | h
  ·exact List.mem_cons_of_mem _ (List.mem_map_of_mem (f:=Int.ofNat) h)
  ·rw [List.mem_singleton.mp h];exact List.mem_cons_self
 ·rcases List.mem_cons.mp hx with rfl | hx
  ·simp
  ·refine e1a2 (List.mem_map.mp hx) fun y hy z1=>?_;clear hx;clear hx;subst z1;exact Int.ofNat_le.mpr (foldr_max_le l y (List.mem_append_left _ hy))
theorem c_sumN {a:Addr} {l:List Nat} {Q:QV} (ha:H a=some (.list (nvs l))) (q:Q (nv l.sum) H):UC B n (.builtin "sum") [.ref a] H Q:=
 c_sum (ns:=l.map Int.ofNat) (by rw [← nvs_ints];exact ha) (by rw [sum_cast];exact q)
theorem joined_at (Fk:Facts B.K) {dep:Bool} {u du:Addr} {f:FE} {ρ:Rho} {es:List Expr} {Q:QV} (hu:H u=some (.inst (anCls dep) du)) (hd:H du=some (.sdict [])) (h:vL f ρ es H (KArgs B n (.ref 42) (.ref u) Q)):CM B n f ρ (ofString "joined") es Q (.ref u) H:=
 .mk _ (.inst hu hd (Fk.cls _) (Fk.m_an_joined dep) rfl) (.inr (.inr Fk.joined')) h
theorem plain_spec (Fk:Facts B.K) {f df s ds a:Addr} {l:List Nat} (hh:Holds H (anCells true f df++(anCells false s ds++((a,.list (nvs l))::L)))) (hl:l.length≤4) {Q:QV} (q:∀ H',Q (.bool true) H') :
  UC B (n+2) (.ref 529) [.ref f,.ref s,.ref a] H Q:=by
 refine UC.fn Fk 39 rfl rfl ?_;have hz:(nvs l).length≤4:=by simp only [List.length_map];exact hl
 walk_at "evs";refine c_listList (hh.get 4 rfl) (by exact Nat.le_trans ‹_› (nbl rfl)) fun av hav=>?_;have h1:=hh.new (c:=.list (nvs l)) hav;clear hh hav;walk_at "evs";refine of_some Fk true (h1.get 0 rfl) hl fun H1 hE=>?_;have h2:=h1.ext hE;clear h1 hE;walk_at "evs";intro c hc;have h3:=h2.new (c:=.list [.int 0]) hc;clear h2 hc;walk_at "evs";refine u_addList (h3.get 0 rfl) (h3.get 1 rfl) (by simp only [List.length_singleton];lia) fun d hd=>?_;have h4:=h3.new (c:=.list ([.int 0]++nvs l)) hd;clear h3 hd;walk_at "evs";refine c_max0 (h4.get 0 rfl) ?_;walk_at "evs";refine u_add ?_;walk_at "evs";refine u_neInt ?_;refine bno (by simp [agg];lia) ?_;walk_at "evs";refine of_some Fk false (h4.get 2 rfl) hl fun H2 hE=>?_;have h5:=h4.ext hE;clear h4 hE;walk_at "evs";refine c_sumN (h5.get 2 rfl) ?_;walk_at "evs";refine u_add ?_;walk_at "evs";refine u_neInt ?_;refine bno (by simp [agg];lia) ?_;walk_at "evs";intro c2 hc2;have h6:=h5.new (c:=.list [.none]) hc2;clear h5 hc2;walk_at "evs";refine u_addList (h6.get 3 rfl) (h6.get 0 rfl) (by simp only [List.length_singleton];lia) fun d2 hd2=>?_;have h7:=h6.new (c:=.list (nvs l++[.none])) hd2;clear h6 hd2;walk_at "evs";refine of_none Fk true (l:=l) (m:=[]) (h7.get 0 rfl) hl fun H3 hE=>?_;have h8:=h7.ext hE;clear h7 hE;walk_at "evs";refine u_isNot ?_;refine bno' rfl ?_;walk_at "evs";intro c3 hc3;have h9:=h8.new (c:=.list [.none]) hc3;clear h8 hc3;walk_at "evs";refine u_addList (h9.get 0 rfl) (h9.get 5 rfl) (by simp only [List.length_singleton];lia) fun d3 hd3=>?_;have h10:=h9.new (c:=.list ([.none]++nvs l)) hd3;clear h9 hd3;walk_at "evs";refine of_none Fk false (l:=[]) (m:=l) (h10.get 0 rfl) (by simp only [List.length_nil];lia) fun H4 hE=>?_;have h11:=h10.ext hE;clear h10 hE;walk_at "evs";refine u_isNot ?_;refine bno' rfl ?_;walk_at "evs";refine Ex.forL Fk ?_;walk_at "evs";intro lf hlf;have h12:=h11.new (c:=.list [.ref f,.ref s]) hlf;clear h11 hlf;walk_at "evs";generalize AH.put H4 lf _=H5 at h12 ⊢;refine UI.list (h12.get 0 rfl) ⟨.fix [] rfl (fun i H'=>H'=H5) rfl (fun H' e=>?_) fun i v H' Qt hi e kn=>?_⟩
 ·subst e;refine ⟨h12.get 0 rfl,?_⟩;walk_at "evs";exact q _
 ·subst e;refine ⟨h12.get 0 rfl,?_⟩;obtain ⟨dep,u,du,rfl,hu,hd⟩:∃ (dep:Bool) (u du:Addr),v=.ref u∧H' u=some (.inst (anCls dep) du)∧H' du=some (.sdict []):=by
   match i,hi with
   | 0,hi=>cases hi;exact i3a3 true f df rfl (h12.get 8 rfl) (h12.get 9 rfl)
   | 1,hi=>cases hi;exact i3a3 false s ds rfl (h12.get 10 rfl) (h12.get 11 rfl)
   | i+2,hi=>exact z_ns hi
  clear h12 hi;walk_at "evs";refine joined_at Fk hu hd ?_;walk_at "evs";refine joined_spec Fk (x:=none) (y:=none) ?_;walk_at "evs";refine u_isNot ?_;refine bno' rfl ?_;walk_at "evs";refine joined_at Fk hu hd ?_;walk_at "evs";refine joined_spec Fk (x:=none) (y:=some 4) ?_;walk_at "evs";refine u_neInt ?_;refine bno (by decide) ?_;walk_at "evs";refine joined_at Fk hu hd ?_;walk_at "evs";refine joined_spec Fk (x:=some 5) (y:=none) ?_;walk_at "evs";refine u_neInt ?_;refine bno (by decide) ?_;walk_at "evs";refine joined_at Fk hu hd ?_;walk_at "evs";refine joined_spec Fk (x:=some 4) (y:=some 5) ?_;walk_at "evs";refine u_neInt ?_;refine bno (by decide) ?_;walk_at "evs";refine joined_at Fk hu hd ?_;walk_at "evs";refine joined_spec Fk (x:=some 5) (y:=some 4) ?_;walk_at "evs";refine u_neInt ?_;refine bno (by decide) ?_;walk_at "evs";exact kn _ _ rfl rfl
end
section
variable {B:Bs} {n:Nat} {H:AH} {R:HR} {S:HS} {L:List (Addr × Cell)} {K:KR} {dep:Bool} {vals:List (Nat × Nat)} {pairs:List (Nat × Nat)}
theorem hadd_law (Fk:Facts B.K) {op:Str} {kids:List Nat} (hh:Holds H (heapIn R S L)) (hI:HInv R S pairs (fun u1_=>False)) (hp:pairs.length≤100) (ho:isOp op) (hk:∀ k∈kids,k < S.bank.nodes.length) (hf:kids.length≤2) (hs:S.bank.nodes.length < 12) {Q:QV}
  (q1:∀ j,j < S.bank.nodes.length→(⟨op,kids⟩:Nd)∈S.bank.nodes→Q (nv j) H)
  (q2:∀ R' S' H',R'.h=R.h→HInv R' S' pairs (fun u2_=>False)→StepR S S'→Holds H' (heapIn R' S' L)→(⟨op,kids⟩:Nd) ∉ S.bank.nodes→S'.bank.nodes=S.bank.nodes++[⟨op,kids⟩]→Q (nv S.bank.nodes.length) H') :
  UC B (n+5) (.ref 394) [.ref R.h,.str op,.tup (nvs kids)] H Q:=by
 refine add_spec Fk hh (hI.sok hp) ho hk hf hs hI.knb hI.knl (fun e he=>by have:=hI.ent_le he;exact Nat.le_trans ‹_› (nbl rfl)) (by have:=hI.users_le;exact Nat.le_trans ‹_› (nbl rfl)) hI.kb (fun hm=>q1 _ (List.idxOf_lt_length_of_mem hm) hm) fun hm w d a c S' H' hl h1=>?_;refine e0a3 (hI.grown (x:=⟨op,kids⟩) ho hk hf hs hm w d a c) fun g1 g2 g3=>?_;refine e0a4 (g1.look (x:=⟨op,kids⟩) List.getElem?_concat_length g3 hl) fun e1 e2 e3 u3_=>?_;exact q2 (R.grown c) S' _ rfl e1 (g2.trans e2) h1 hm (by refine e3▸?_;rfl)
theorem hmerge_law (Fk:Facts B.K) {a b:Nat} {reason:V} (hh:Holds H (heapIn R S L)) (hI:HInv R S pairs (fun u1_=>False)) (hp:pairs.length≤100) (ha:a < S.un.par.length) (hb:b < S.un.par.length) {Q:QV}
  (q:∀ v S' H',HInv R S' (pairs++[(a,b)]) (fun u2_=>False)→StepR S S'→S'.bank=S.bank→Holds H' (heapIn R S' L)→Q v H'):UC B (n+4) (.ref 429) [.ref R.h,nv a,nv b,reason] H Q:=
 hmerge_spec Fk hh (hI.sok hp) ha hb rfl rfl (fun e ed H' h1=>q _ _ _ (hI.told ha hb ed e) ⟨fun u3_ u4_ h=>h,fun i u5_=>rt_rt _ _,Nat.le_refl _⟩ rfl h1) fun e ed f d H' h1=>
  let g:=hI.toldJoin ha hb e ed f d
  q _ _ _ g.1 g.2 rfl h1
theorem hsettle_law (Fk:Facts B.K) (hh:Holds H (heapIn R S L)) (hI:HInv R S pairs (fun u1_=>False)) (hp:pairs.length≤100) {Q:QV}
  (q:∀ S' H',HInv R S' pairs (fun u2_=>False)→StepR S S'→S'.bank=S.bank→S'.waiting=[]→Holds H' (heapIn R S' L)→Q .none H'):UC B (n+5) (.ref 443) [.ref R.h] H Q:=
 hsettle_spec Fk (SInv R S pairs) smu (fun S' h=>h.turn hp) (i0a3 hI (StepR.refl S) rfl) hh fun S' H' h h4 h5=>q S' H' h.1 h.2.1 h.2.2 h4 h5
theorem ksettle_law (Fk:Facts B.K) {n0:Nat} (hh:Holds H (kIn K dep R.h vals++heapIn R S L)) (hI:HInv R S pairs (fun u1_=>False)) (hp:pairs.length≤100) (hl:S.un.par.length≤11) (hK:KInv dep S vals n0) {Q:QV}
  (q:∀ va fl H',KInv dep S fl S.un.par.length→(∀ c,c∈roots S.un.par→∃ v,lget fl c=some v∧Least dep (tbR S) v c)→Holds H' (kIn { K with va:=va } dep R.h fl++heapIn R S L)→Q .none H'):UC B (n+6) (.ref 106) [.ref K.k] H Q:=
 ksettle_spec Fk (KLoop dep S) (kmu S) hh (hI.sok hp) hK.nd (fun c hc=>Nat.lt_of_lt_of_le (hK.kb c hc) hK.le) (fun vals wt row spot h=>h.turn hI) (fun ms fl hms hb=>KLoop.start hI hl hK hms hb) fun va fl wt row spot H' h1 h2 h3=>
  let g:=h1.done hI h2
  q va fl H' g.1 g.2 h3
theorem HInv.empty {R:HR} (h:R.U.ls=[]):HInv R HS.empty [] (fun u1_=>False):=by
 have hr:(Mine.roots ([]:List Nat)).length=0:=rfl;refine ⟨⟨rfl,rfl,by simp [HS.empty],by simp [HS.empty],by simp [HS.empty],by decide,List.nodup_nil⟩,⟨by simp [HS.empty,h],rfl,by simp [HS.empty],by simp [HS.empty]⟩,rfl,List.nodup_nil,by decide,by decide,by decide,Nat.zero_le _,by simp [HS.empty],by decide,by simp,by simp [HS.empty],by simp [HS.empty],by simp [HS.empty],by simp [HS.empty],nofun,?_,?_,?_,?_⟩ <;> exact Nat.zero_le _
end
noncomputable abbrev nodes0:List Nd:=[⟨ofString "a",[]⟩,⟨ofString "b",[]⟩]
set_option genInjectivity false in
set_option genSizeOf false in
structure LA where
 ra:Addr
 rc:Addr
 an:Addr
 ap:Addr
 aw:Addr
 ak:Addr
 h:Addr
 k1:Addr
 k2:Addr
 cells:List Int
 L:List (Addr × Cell)
noncomputable abbrev lawB (A:LA) (nodes:List Nd) (pairs:List (Nat × Nat)) (ws:List Int):List (Addr × Cell):=
 [(A.an,.list (nodes.map Nd.v)),(A.ap,.list (pairs.map pv)),(A.aw,.list (ws.map V.int)),(A.ak,.list [.ref A.k1,.ref A.k2])]
set_option genInjectivity false in
set_option genSizeOf false in
structure LX where
 R:HR
 S:HS
 K1:KR
 K2:KR
 v1:List (Nat × Nat)
 v2:List (Nat × Nat)
 n1:Nat
 n2:Nat
structure LGood (A:LA) (X:LX) (bn:List Nd) (ps:List (Nat × Nat)):Prop where
 h:X.R.h=A.h
 k1:X.K1.k=A.k1
 k2:X.K2.k=A.k2
 bn:X.S.bank.nodes=bn
 hi:HInv X.R X.S ps (fun _=>False)
 i1:KInv true X.S X.v1 X.n1
 i2:KInv false X.S X.v2 X.n2
noncomputable def LSt (A:LA) (H:AH) (front:List (Addr × Cell)) (X:LX) (bn:List Nd) (ps:List (Nat × Nat)) (nodes:List Nd) (pairs:List (Nat × Nat)) (ws:List Int) (k:Nat):Prop:=
 LGood A X bn ps∧A.cells.length≤48∧Holds H (front++(rowCells A.ra A.rc A.cells k++(lawB A nodes pairs ws++kps X.K1 X.K2 X.R X.v1 X.v2 X.S A.L)))
section
variable {B:Bs} {n:Nat} {H:AH} {A:LA} {front:List (Addr × Cell)} {X:LX} {bn nodes:List Nd} {ps pairs:List (Nat × Nat)} {ws:List Int} {k:Nat}
theorem LSt.new (h:LSt A H front X bn ps nodes pairs ws k) {a:Addr} {c:Cell} (f:H a=none):LSt A (H.put a c) ((a,c)::front) X bn ps nodes pairs ws k:=i0a3 h.1 h.2.1 (h.2.2.new f)
theorem LSt.tail {p:Addr × Cell} (h:LSt A H (p::front) X bn ps nodes pairs ws k):LSt A H front X bn ps nodes pairs ws k:=i0a3 h.1 h.2.1 h.2.2.tail
theorem LSt.drop {f2:List (Addr × Cell)} (h:LSt A H front X bn ps nodes pairs ws k) (s:f2.Sublist front):LSt A H f2 X bn ps nodes pairs ws k:=i0a3 h.1 h.2.1 (h.2.2.sub (s.append_right _))
theorem LSt.at (h:LSt A H front X bn ps nodes pairs ws k) {a:Addr} {c:Cell} (m:(a,c)∈front):H a=some c:=h.2.2.mem (List.mem_append_left _ m)
theorem LSt.rest (h:LSt A H front X bn ps nodes pairs ws k) {a:Addr} {c:Cell} (m:(a,c)∈lawB A nodes pairs ws):H a=some c:=h.2.2.mem (List.mem_append_right _ (List.mem_append_right _ (List.mem_append_left _ m)))
theorem LSt.an (h:LSt A H front X bn ps nodes pairs ws k):H A.an=some (.list (nodes.map Nd.v)):=h.rest z_m0
theorem LSt.ap (h:LSt A H front X bn ps nodes pairs ws k):H A.ap=some (.list (pairs.map pv)):=h.rest z_m1
theorem LSt.aw (h:LSt A H front X bn ps nodes pairs ws k):H A.aw=some (.list (ws.map V.int)):=h.rest z_m2
theorem LSt.ak (h:LSt A H front X bn ps nodes pairs ws k):H A.ak=some (.list [.ref A.k1,.ref A.k2]):=h.rest z_m3
theorem LSt.next (Fk:Facts B.K) (h:LSt A H front X bn ps nodes pairs ws k) {many:Nat} (hm:0 < many) (hk:k < 100000) {Q:QV} (q:∀ j H',j < many→LSt A H' front X bn ps nodes pairs ws (k+1)→Q (nv j) H') :
  UC B (n+1) (.ref 502) [.ref A.ra,nv many] H Q:=
 next_spec Fk (h.2.2.perm (List.perm_append_comm_assoc _ _ _)) hm h.2.1 hk fun j H' h1 h3=>q j H' h1 (i0a3 h.1 h.2.1 (h3.perm (List.perm_append_comm_assoc _ _ _)))
theorem Holds.la {H:AH} {P Q M N:List (Addr × Cell)} (h:Holds H (P++(Q++(M++N)))):Holds H ((P++(Q++M))++N):=by
 have e:P++(Q++(M++N))=(P++(Q++M))++N:=by simp
 refine (e).symm▸?_;exact h
theorem Holds.lb {H:AH} {P Q M N:List (Addr × Cell)} (h:Holds H ((P++(Q++M))++N)):Holds H (P++(Q++(M++N))):=by
 have e:P++(Q++(M++N))=(P++(Q++M))++N:=by simp
 refine e▸?_;exact h
theorem LSt.law (h:LSt A H front X bn ps nodes pairs ws k):Holds H ((front++(rowCells A.ra A.rc A.cells k++lawB A nodes pairs ws))++kps X.K1 X.K2 X.R X.v1 X.v2 X.S A.L):=h.2.2.la
theorem LSt.of_law {X':LX} {bn':List Nd} {ps':List (Nat × Nat)} (h:LSt A H front X bn ps nodes pairs ws k) (g:LGood A X' bn' ps') {H':AH} (hh:Holds H' ((front++(rowCells A.ra A.rc A.cells k++lawB A nodes pairs ws))++kps X'.K1 X'.K2 X'.R X'.v1 X'.v2 X'.S A.L)):LSt A H' front X' bn' ps' nodes pairs ws k:=i0a3 g h.2.1 hh.lb
theorem kps_1b {K1 K2:KR} {R:HR} {S:HS} {v1 v2:List (Nat × Nat)} {L A:List (Addr × Cell)} (h:Holds H (kIn K1 true R.h v1++heapIn R S (A++(kIn K2 false R.h v2++L)))):Holds H (A++kps K1 K2 R v1 v2 S L):=
 h.perm ((List.perm_append_comm_assoc A _ _).trans (((perm5 (P:=kIn K2 false R.h v2)).append_left A |>.trans (perm5 (P:=A))).append_left _)).symm
theorem kps_2b {K1 K2:KR} {R:HR} {S:HS} {v1 v2:List (Nat × Nat)} {L A:List (Addr × Cell)} (h:Holds H (kIn K2 false R.h v2++heapIn R S (A++(kIn K1 true R.h v1++L)))):Holds H (A++kps K1 K2 R v1 v2 S L):=
 h.perm ((((List.perm_append_comm_assoc _ _ _).append_left A).trans (List.perm_append_comm_assoc A _ _)).trans (((perm5 (P:=kIn K1 true R.h v1)).append_left A |>.trans (perm5 (P:=A))).append_left _)).symm
theorem LSt.mth (Fk:Facts B.K) (h:LSt A H front X bn ps nodes pairs ws k) {name:Str} {f:Addr} (hm:MethOK B.K Cls.heap.addr name f)
  (hd:∀ x1 x2 x3 x4 x5 x6 x7,dget [(ofString "bank",x1),(ofString "unions",x2),(ofString "edges",x3),(ofString "forest",x4),(ofString "known",x5),(ofString "above",x6),(ofString "waiting",x7)] name=none):Mth B H (.ref A.h) name (.ref f):=by
 have h1:=kps_h h.law;refine (h.1.h).symm▸?_;exact Mth.inst (h1.get 0 rfl) (h1.get 1 rfl) (Fk.cls _) hm (hd _ _ _ _ _ _ _)
theorem LSt.cm (Fk:Facts B.K) (h:LSt A H front X bn ps nodes pairs ws k) {name:Str} {f:Addr} {fe:FE} {ρ:Rho} {es:List Expr} {Q:QV} (hm:(methTab .heap).lookup name=some f)
  (hd:∀ x1 x2 x3 x4 x5 x6 x7,dget [(ofString "bank",x1),(ofString "unions",x2),(ofString "edges",x3),(ofString "forest",x4),(ofString "known",x5),(ofString "above",x6),(ofString "waiting",x7)] name=none) (q:vL fe ρ es H (KArgs B n (.ref f) (.ref A.h) Q)):CM B n fe ρ name es Q (.ref A.h) H:=
 have h2:=Fk.meths hm
 .mk _ (h.mth Fk h2.1 hd) (.inr (.inr h2.2)) q
theorem LSt.add (Fk:Facts B.K) (h:LSt A H front X bn ps nodes pairs ws k) (hp:ps.length≤100) {op:Str} {kids:List Nat} (ho:isOp op) (hk:∀ k∈kids,k < bn.length) (hf:kids.length≤2) (hs:bn.length < 12) {Q:QV}
  (q1:∀ j,j < bn.length→(⟨op,kids⟩:Nd)∈bn→Q (nv j) H) (q2:∀ X' H',(⟨op,kids⟩:Nd) ∉ bn→LSt A H' front X' (bn++[⟨op,kids⟩]) ps nodes pairs ws k→Q (nv bn.length) H') :
  UC B (n+5) (.ref 394) [.ref A.h,.str op,.tup (nvs kids)] H Q:=by
 have g:=h.1;have g5:=g.hi;have e:=g.bn;subst e;refine (g.h).symm▸?_;exact hadd_law Fk (kps_h h.law) g5 hp ho hk hf hs q1 fun R' S' H' e1 e2 e3 e4 hn e5=>
  q2 ⟨R',S',X.K1,X.K2,X.v1,X.v2,X.n1,X.n2⟩ H' hn (h.of_law (X':=⟨R',S',X.K1,X.K2,X.v1,X.v2,X.n1,X.n2⟩) ⟨e1.trans g.h,g.k1,g.k2,e5,e2,g.i1.step e3 g5.bk g5.len,g.i2.step e3 g5.bk g5.len⟩ (kps_hb (R:=R') (S:=S') (e1.symm▸e4)))
theorem LSt.merge (Fk:Facts B.K) (h:LSt A H front X bn ps nodes pairs ws k) (hp:ps.length≤100) {a b:Nat} {reason:V} (ha:a < bn.length) (hb:b < bn.length) {Q:QV} (q:∀ v X' H',LSt A H' front X' bn (ps++[(a,b)]) nodes pairs ws k→Q v H') :
  UC B (n+4) (.ref 429) [.ref A.h,nv a,nv b,reason] H Q:=by
 have g:=h.1;have g5:=g.hi;have e:=g.bn;subst e;refine (g.h).symm▸?_;exact hmerge_law Fk (kps_h h.law) g5 hp (g5.len▸ha) (g5.len▸hb) fun v S' H' e1 e2 e3 e4=>
  q v ⟨X.R,S',X.K1,X.K2,X.v1,X.v2,X.n1,X.n2⟩ H' (h.of_law (X':=⟨X.R,S',X.K1,X.K2,X.v1,X.v2,X.n1,X.n2⟩) ⟨g.h,g.k1,g.k2,by rw [e3],e1,g.i1.step e2 g5.bk g5.len,g.i2.step e2 g5.bk g5.len⟩ (kps_hb e4))
theorem LSt.settle (Fk:Facts B.K) (h:LSt A H front X bn ps nodes pairs ws k) (hp:ps.length≤100) {Q:QV} (q:∀ X' H',X'.S.waiting=[]→LSt A H' front X' bn ps nodes pairs ws k→Q .none H') :
  UC B (n+5) (.ref 443) [.ref A.h] H Q:=by
 have g:=h.1;have g5:=g.hi;have e:=g.bn;subst e;refine (g.h).symm▸?_;exact hsettle_law Fk (kps_h h.law) g5 hp fun S' H' e1 e2 e3 e4 e5=>
  q ⟨X.R,S',X.K1,X.K2,X.v1,X.v2,X.n1,X.n2⟩ H' e4 (h.of_law (X':=⟨X.R,S',X.K1,X.K2,X.v1,X.v2,X.n1,X.n2⟩) ⟨g.h,g.k1,g.k2,by rw [e3],e1,g.i1.step e2 g5.bk g5.len,g.i2.step e2 g5.bk g5.len⟩ (kps_hb e5))
noncomputable abbrev Known (dep:Bool) (S:HS) (vals:List (Nat × Nat)):Prop:=∀ c,c∈roots S.un.par→∃ v,lget vals c=some v∧Least dep (tbR S) v c
theorem LSt.keep1 (Fk:Facts B.K) (h:LSt A H front X bn ps nodes pairs ws k) (hp:ps.length≤100) (hl:bn.length≤11) {Q:QV} (q:∀ X' H',X'.S=X.S→X'.v2=X.v2→Known true X'.S X'.v1→LSt A H' front X' bn ps nodes pairs ws k→Q .none H') :
  UC B (n+6) (.ref 106) [.ref A.k1] H Q:=by
 have g:=h.1;refine (g.k1).symm▸?_;exact ksettle_law Fk (kps_1 h.law) g.hi hp (by refine (g.hi.len).symm▸?_;refine g.bn▸?_;exact hl) g.i1 fun va fl H' e1 e2 e3=>
  q ⟨X.R,X.S,{ X.K1 with va:=va },X.K2,fl,X.v2,X.S.un.par.length,X.n2⟩ H' rfl rfl e2 (h.of_law (X':=⟨X.R,X.S,{ X.K1 with va:=va },X.K2,fl,X.v2,X.S.un.par.length,X.n2⟩) ⟨g.h,g.k1,g.k2,g.bn,g.hi,e1,g.i2⟩ (kps_1b e3))
theorem LSt.keep2 (Fk:Facts B.K) (h:LSt A H front X bn ps nodes pairs ws k) (hp:ps.length≤100) (hl:bn.length≤11) {Q:QV} (q:∀ X' H',X'.S=X.S→X'.v1=X.v1→Known false X'.S X'.v2→LSt A H' front X' bn ps nodes pairs ws k→Q .none H') :
  UC B (n+6) (.ref 106) [.ref A.k2] H Q:=by
 have g:=h.1;refine (g.k2).symm▸?_;exact ksettle_law Fk (kps_2 h.law) g.hi hp (by refine (g.hi.len).symm▸?_;refine g.bn▸?_;exact hl) g.i2 fun va fl H' e1 e2 e3=>
  q ⟨X.R,X.S,X.K1,{ X.K2 with va:=va },X.v1,fl,X.n1,X.S.un.par.length⟩ H' rfl rfl e2 (h.of_law (X':=⟨X.R,X.S,X.K1,{ X.K2 with va:=va },X.v1,fl,X.n1,X.S.un.par.length⟩) ⟨g.h,g.k1,g.k2,g.bn,g.hi,g.i1,e1⟩ (kps_2b e3))
theorem kps_in {K1 K2:KR} {R:HR} {S:HS} {v1 v2:List (Nat × Nat)} {L P:List (Addr × Cell)}:(P++kps K1 K2 R v1 v2 S L).Perm (kps K1 K2 R v1 v2 S (P++L)):=
 ((List.perm_append_comm_assoc P _ _).trans ((List.perm_append_comm_assoc P _ _).append_left _)).trans ((perm5 (P:=P)).append_left _ |>.append_left _)
theorem right_perm {F Rw Y:List (Addr × Cell)} {a b c d:Addr × Cell}:(F++(Rw++([a,b,c,d]++Y))).Perm (a::b::d::(([c]++(F++Rw))++Y)):=by
 refine perm3.trans ?_;refine ((((List.Perm.swap d c _).cons b).cons a)).trans ?_;simp
theorem LSt.right (Fk:Facts B.K) (h:LSt A H front X bn ps bn ps ws k) (hp:ps.length≤100) (hl:bn.length≤11) (hw:X.S.waiting=[]) (h1:Known true X.S X.v1) (h2:Known false X.S X.v2) {Q:QV} (q:∀ H',LSt A H' front X bn ps bn ps ws k→Q (.bool true) H') :
  UC B (n+5) (.ref 522) [.ref A.h,.ref A.ak,.ref A.an,.ref A.ap] H Q:=by
 have g:=h.1;have e:=g.bn;subst e;have p1:=(right_perm (F:=front) (Rw:=rowCells A.ra A.rc A.cells k) (a:=(A.an,.list (X.S.bank.nodes.map Nd.v))) (b:=(A.ap,.list (ps.map pv))) (c:=(A.aw,.list (ws.map V.int))) (d:=(A.ak,.list [.ref A.k1,.ref A.k2])) (Y:=kps X.K1 X.K2 X.R X.v1 X.v2 X.S A.L)).trans (((kps_in.cons _).cons _).cons _);have h3:=h.2.2.perm p1;have e1:=g.k1;have e2:=g.k2;replace h3:=(e2).symm▸((e1).symm▸h3)
 refine (g.h).symm▸?_;refine right_spec Fk h3 g.hi hw hp (by refine (g.hi.len).symm▸?_;exact hl) h1 h2 fun H' h4=>q H' (i0a3 g h.2.1 ?_);rw [e1,e2] at h4;exact h4.perm p1.symm
theorem Holds.m0 {F Rw Y:List (Addr × Cell)} {a:Addr} {c0 c:Cell} (h:Holds H (F++(Rw++((a,c0)::Y)))):Holds (H.put a c) (F++(Rw++((a,c)::Y))):=by
 have e:∀ d,F++(Rw++((a,d)::Y))=(F++Rw)++(a,d)::Y:=fun d=>by simp
 rw [e] at h ⊢;exact h.mid
theorem Holds.m1 {F Rw Y:List (Addr × Cell)} {p:Addr × Cell} {a:Addr} {c0 c:Cell} (h:Holds H (F++(Rw++(p::(a,c0)::Y)))):Holds (H.put a c) (F++(Rw++(p::(a,c)::Y))):=by
 have e:∀ d,F++(Rw++(p::(a,d)::Y))=(F++(Rw++[p]))++(a,d)::Y:=fun d=>by simp
 rw [e] at h ⊢;exact h.mid
theorem Holds.m2 {F Rw Y:List (Addr × Cell)} {p q:Addr × Cell} {a:Addr} {c0 c:Cell} (h:Holds H (F++(Rw++(p::q::(a,c0)::Y)))):Holds (H.put a c) (F++(Rw++(p::q::(a,c)::Y))):=by
 have e:∀ d,F++(Rw++(p::q::(a,d)::Y))=(F++(Rw++[p,q]))++(a,d)::Y:=fun d=>by simp
 rw [e] at h ⊢;exact h.mid
theorem LSt.setNodes (h:LSt A H front X bn ps nodes pairs ws k) (nodes':List Nd):LSt A (H.put A.an (.list (nodes'.map Nd.v))) front X bn ps nodes' pairs ws k:=i0a3 h.1 h.2.1 h.2.2.m0
theorem LSt.setPairs (h:LSt A H front X bn ps nodes pairs ws k) (pairs':List (Nat × Nat)):LSt A (H.put A.ap (.list (pairs'.map pv))) front X bn ps nodes pairs' ws k:=i0a3 h.1 h.2.1 h.2.2.m1
theorem LSt.setWs (h:LSt A H front X bn ps nodes pairs ws k) (ws':List Int):LSt A (H.put A.aw (.list (ws'.map V.int))) front X bn ps nodes pairs ws' k:=i0a3 h.1 h.2.1 h.2.2.m2
theorem LSt.mthK1 (Fk:Facts B.K) (h:LSt A H front X bn ps nodes pairs ws k) {name:Str} {f:Addr} (hm:MethOK B.K Cls.keeper.addr name f)
  (hd:∀ x1 x2 x3 x4,dget [(ofString "heap",x1),(ofString "analysis",x2),(ofString "values",x3),(ofString "told",x4)] name=none):Mth B H (.ref A.k1) name (.ref f):=by
 have h1:=kps_1 h.law;refine (h.1.k1).symm▸?_;exact Mth.inst (h1.get 0 rfl) (h1.get 1 rfl) (Fk.cls _) hm (hd _ _ _ _)
theorem LSt.mthK2 (Fk:Facts B.K) (h:LSt A H front X bn ps nodes pairs ws k) {name:Str} {f:Addr} (hm:MethOK B.K Cls.keeper.addr name f)
  (hd:∀ x1 x2 x3 x4,dget [(ofString "heap",x1),(ofString "analysis",x2),(ofString "values",x3),(ofString "told",x4)] name=none):Mth B H (.ref A.k2) name (.ref f):=by
 have h1:=kps_2 h.law;refine (h.1.k2).symm▸?_;exact Mth.inst (h1.get 0 rfl) (h1.get 1 rfl) (Fk.cls _) hm (hd _ _ _ _)
theorem two_ways {b:Bool} {f:FE} {x y:Expr} {ρ:Rho} {Q:QV} {P:V→AH→Prop} (k:∀ v H',P v H'→Q v H') (h:∀ Q':QV,(∀ v H',P v H'→Q' v H')→Lf (BIf b (f x ρ H Q') (f y ρ H Q'))):Lf (BIf b (f x ρ H Q) (f y ρ H Q)):=h Q k
end
theorem take_snoc {α:Type} {l:List α} {i:Nat} {x:α} (h:l[i]? = some x):l.take (i+1)=l.take i++[x]:=by simp only [List.take_add_one,h];rfl
section
variable {B:Bs} {n:Nat} {H:AH} {L:List (Addr × Cell)}
structure LNum (i:Nat) (bn:List Nd) (ps:List (Nat × Nat)) (ws:List Int) (k:Nat):Prop where
 w:ws.length=bn.length
 b1:2≤bn.length
 b2:bn.length≤2+i
 p:ps.length≤i
 k:k≤20+10 * i
noncomputable abbrev rho6 (A:LA):Rho:=[(ofString "row",.ref A.ra),(ofString "heap",.ref A.h),(ofString "nodes",.ref A.an),(ofString "pairs",.ref A.ap),(ofString "weights",.ref A.aw),(ofString "keepers",.ref A.ak)]
inductive LInv (A:LA) (ad:Addr) (dds:List Nat) (i:Nat) (H:AH):Prop
 | mk (X:LX) (bn:List Nd) (ps:List (Nat × Nat)) (ws:List Int) (k:Nat) (st:LSt A H [(ad,.list (nvs dds))] X bn ps bn ps ws k) (N:LNum i bn ps ws k)
theorem nvs_len (l:List Nat):(nvs l).length=l.length:=List.length_map ..
theorem nds_len (l:List Nd):(l.map Nd.v).length=l.length:=List.length_map ..
theorem ws_at {ws:List Int} {bn:List Nd} {x:Nat} (h:ws.length=bn.length) (hx:x < bn.length):(ws.map V.int)[x]? = some (.int (ws.getD x 0)):=by
 refine List.getElem?_map.trans ?_;refine (getD_at (d:=0) (h▸hx))▸?_;rfl
noncomputable abbrev fgV:List V:=[V.str (ofString "f"),V.str (ofString "g")]
theorem fg_at:∀ {d:Nat},d < 2→∃ op:Str,isOp op∧fgV[d]? = some (.str op)
 | 0,_=>i1a2 _ (.inr (.inr (.inl rfl))) rfl
 | 1,_=>i1a2 _ (.inr (.inr (.inr rfl))) rfl
theorem range_at {k i x:Nat} (h:(List.range k)[i]? = some x):i < k:=by
 have:=(List.getElem?_eq_some_iff.mp h).1;rwa [List.length_range] at this
theorem law_last (Fk:Facts B.K) {A:LA} {X:LX} {front:List (Addr × Cell)} {bn:List Nd} {ps:List (Nat × Nat)} {ws:List Int} {k:Nat} (st:LSt A H front X bn ps bn ps ws k) (hkN:k≤120) {Q:QV} (q:∀ H',Q (.bool true) H') :
  vS B (n+7) (fs 22) 54 ((fb 22).drop 6) (rho6 A) H (KFun Q):=by
 walk_at "evs";refine UC.new0 (C:=.depth) (Fk.plain 0 rfl).1 (Fk.plain 0 rfl).2 fun dd xd hdd hxd hne=>?_;have st1:=(st.new (c:=.sdict []) hdd).new (c:=.inst .depth dd) (a:=xd) (by refine (AH.put_ne _ _ hne.symm).trans ?_;exact hxd);clear st hdd hxd;walk_at "evs";refine UC.new0 (C:=.size) (Fk.plain 1 rfl).1 (Fk.plain 1 rfl).2 fun ds xs hds hxs hne2=>?_;have st2:=(st1.new (c:=.sdict []) hds).new (c:=.inst .size ds) (a:=xs) (by refine (AH.put_ne _ _ hne2.symm).trans ?_;exact hxs);clear st1 hds hxs;walk_at "evs";refine Ev.compL Fk ?_;walk_at "evs";refine st2.next Fk (many:=4) (by decide) (by lia) fun j H1 hj st3=>?_;clear st2;walk_at "evs";refine UCI.range1 (k:=j) (by exact Nat.lt_of_lt_of_le ‹_› (nbl rfl)) ?_;simp only [irange0];refine ⟨.mk (by simp only [nvs_len,List.length_range];refine Nat.le_of_lt (Nat.lt_of_lt_of_le ‹_› ?_);exact nbl rfl) (fun i acc H'=>∃ l:List Nat,acc=nvs l∧l.length=i∧LSt A H' ((xs,.inst .size ds)::(ds,.sdict [])::(xd,.inst .depth dd)::(dd,.sdict [])::front) X bn ps bn ps ws (k+1+i)) (i1a3 ([]) rfl rfl st3) ?_ ?_⟩
 ·clear st3;intro acc H2 z6;refine e1a3 z6 fun l z7 hl st=>?_;clear z6;subst z7;refine ⟨trivial,fun D hD=>?_⟩;rw [nvs_len,List.length_range] at hl;have h5:Holds _ (anCells true xd dd++(anCells false xs ds++((D,.list (nvs l))::_))):=(st.new (c:=.list (nvs l)) hD).2.2.perm
   ((List.perm_append_comm (l₁:=[(D,Cell.list (nvs l)),(xs,.inst .size ds),(ds,.sdict [])]) (l₂:=[(xd,.inst .depth dd),(dd,.sdict [])])).append_right _ |>.trans (((List.perm_append_comm (l₁:=[(D,Cell.list (nvs l))]) (l₂:=[(xs,.inst .size ds),(ds,.sdict [])])).append_right _).append_left [(xd,.inst .depth dd),(dd,.sdict [])]))
  clear st;walk_at "evs";refine plain_spec Fk h5 (by exact Nat.le_trans (Nat.le_of_eq ‹_›) (Nat.le_of_lt ‹_›)) fun H'=>?_;walk_at "evs";exact q _
 ·clear st3;intro i acc v H2 Qe Qo hi z3;refine e1a3 z3 fun l z4 hl st=>?_;clear z3;subst z4;intro ke ko;refine e1a2 (nvs_get? hi) fun x hx z1=>?_;clear hi;subst z1;have hil:=range_at hx;refine ⟨trivial,?_⟩;walk_at "evs";refine st.next Fk (many:=5) (by decide) (by lia) fun d H3 hd st1=>?_;walk_at "evs";refine u_add ?_;walk_at "evs";exact ke _ _ (i1a3 (l++[1+d]) (nvs_snoc ..) (by refine List.length_append.trans ?_;refine hl▸?_;rfl) st1)
noncomputable def ddIf:Stmt:=match (fb 22).drop 5 with
 | .For _ _ [s] _ _::_=>s
 | _=>.Pass default
noncomputable def ddAdd:List Stmt:=match ddIf with
 | .If _ b _ _=>b
 | _=>[]
noncomputable def ddPair:List Stmt:=match ddIf with
 | .If _ _ [.If _ b _ _] _=>b
 | _=>[]
noncomputable def ddSet:List Stmt:=match ddIf with
 | .If _ _ [.If _ _ b _] _=>b
 | _=>[]
theorem deed_add (Fk:Facts B.K) {A:LA} {X:LX} {ad:Addr} {dds:List Nat} {bn:List Nd} {ps:List (Nat × Nat)} {ws:List Int} {k i d:Nat} (st:LSt A H [(ad,.list (nvs dds))] X bn ps bn ps ws k) (N:LNum i bn ps ws k) (hi10:i < 10) (hd2:d < 2) {Q:QS} (q:∀ ρ' H',Same (rho6 A) ρ'→LInv A ad dds (i+1) H'→Q .next ρ' H'):vS B (n+7) (fs 22) 59 ddAdd ((ofString "deed",nv d)::rho6 A) H Q:=by
 have nw:=N.w;have nb1:=N.b1;have nb2:=N.b2;have np:=N.p;have nk:=N.k;have hbz:(bn.map Nd.v).length≤100000:=by rw [nds_len];lia
 have hwz:(ws.map V.int).length≤100000:=by rw [List.length_map];lia
 clear N;walk_at "evs";refine Ev.compL Fk ?_;walk_at "evs";refine u_add ?_;rw [show (1:Int)+(d:Nat)=((1+d:Nat):Int) by simp];walk_at "evs";refine UCI.range1 (by lia) ?_;rw [irange0];refine ⟨.mk (by simp only [nvs_len,List.length_range];lia) (fun j acc H'=>∃ kd:List Nat,acc=nvs kd∧kd.length=j∧(∀ x∈kd,x < bn.length)∧LSt A H' [(ad,.list (nvs dds))] X bn ps bn ps ws (k+j)) (i1a4 ([]) rfl rfl (fun u1_ h=>nomatch h) st) ?_ ?_⟩
 ·clear st;intro acc H1 z23;refine e1a4 z23 fun kd z24 hkl hkb st=>?_;clear z23;subst z24;refine ⟨trivial,fun D hD=>?_⟩;rw [nvs_len,List.length_range] at hkl st;have st1:=st.new (c:=.list (nvs kd)) hD;clear st hD;walk_at "evs";refine c_tupleList (vs:=nvs kd) (st1.at List.mem_cons_self) (by rw [nvs_len];lia) ?_;have st2:=st1.tail;clear st1;generalize AH.put H1 D _=H2 at st2 ⊢;have aw:=st2.aw;walk_at "evs";refine Ev.compL Fk ?_;walk_at "evs";refine UI.tup ⟨.pure (by rw [nvs_len];lia) trivial ((kd.map fun x=>ws.getD x 0).map V.int) (by simp only [List.length_map,List.length_map,nvs_len]) (fun j v Qe hj=>?_) fun D hD=>?_⟩
  ·refine e1a3 (pure_kids (g:=fun x=>ws.getD x 0) (T:=V.int) hj) fun x hx z20 e=>?_;clear hj;subst z20;refine i1a2 _ e (fun ke=>?_);walk_at "evs";refine u_listGet aw (ws_at nw (hkb x hx)) hwz ?_;walk_at "evs";exact ke
  clear aw;have st3:=st2.new (c:=.list ((kd.map fun x=>ws.getD x 0).map V.int)) hD;clear st2 hD;walk_at "evs";refine c_sum (st3.at List.mem_cons_self) ?_;have st2:=st3.tail;clear st3;generalize AH.put H2 D _=H3 at st2 ⊢;walk_at "evs";refine u_lt ?_;refine two_ways (P:=fun v H'=>H'=H3∧∃ kd:List Nat,v=.tup (nvs kd)∧kd.length=1+d∧(∀ x∈kd,x < bn.length)) ?_ fun Q' cont=>?_
  ·clear hkl hkb;rintro v H' ⟨rfl,kd2,rfl,hl2,hb2⟩;walk_at "evs";refine st2.cm Fk rfl (fun u2_ u3_ u4_ u5_ u6_ u7_ u8_=>rfl) ?_;walk_at "evs";intro c hc;refine e1a2 (fg_at hd2) fun op ho hop=>?_;have st1:=st2.new (c:=.list fgV) hc;clear st2 hc;have hfg:=st1.at List.mem_cons_self;walk_at "evs";refine u_listGet hfg hop (by decide) ?_;have st2:=st1.tail;clear hfg st1;generalize AH.put H' c _=H4 at st2 ⊢;walk_at "evs";refine st2.add Fk (by lia) ho hb2 (by lia) (by lia) (fun j hj hin=>?_) fun X' H5 hn st=>?_
   ·have an:=st2.an;walk_at "evs";refine c_lenList an hbz ?_;walk_at "evs";refine u_eqInt ?_;refine bno (by rw [nds_len];lia) ?_;walk_at "evs";exact q _ _ rfl ⟨X,bn,ps,ws,_,st2,⟨nw,nb1,by lia,by lia,by lia⟩⟩
   ·clear st2;have an:=st.an;walk_at "evs";refine c_lenList an hbz ?_;walk_at "evs";refine u_eqInt ?_;refine byes (by simp only [nds_len]) ?_;walk_at "evs";intro c hc;have st1:=st.new (c:=.list fgV) hc;clear st hc an;have hfg:=st1.at List.mem_cons_self;walk_at "evs";refine u_listGet hfg hop (by decide) ?_;have st2:=st1.tail;clear hfg st1;generalize AH.put H5 c _=H6 at st2 ⊢;walk_at "evs";refine u_tupAdd (by simp only [nvs_len,List.length_singleton];lia) ?_;walk_at "evs";refine c_append st2.an hbz ?_;rw [show bn.map Nd.v++[V.tup ([V.str op]++nvs kd2)]=(bn++[(⟨op,kd2⟩:Nd)]).map Nd.v by simp only [List.map_append];rfl];have st3:=st2.setNodes (bn++[(⟨op,kd2⟩:Nd)]);clear st2;generalize AH.put H6 A.an _=H7 at st3 ⊢;have aw:=st3.aw;walk_at "evs";refine Ev.compL Fk ?_;walk_at "evs";refine UI.tup ⟨.pure (by rw [nvs_len];lia) trivial ((kd2.map fun x=>ws.getD x 0).map V.int) (by simp only [List.length_map,List.length_map,nvs_len]) (fun j v Qe hj=>?_) fun D hD=>?_⟩
    ·refine e1a3 (pure_kids (g:=fun x=>ws.getD x 0) (T:=V.int) hj) fun x hx z12 e=>?_;clear hj;subst z12;refine i1a2 _ e (fun ke=>?_);walk_at "evs";refine u_listGet aw (ws_at nw (hb2 x hx)) hwz ?_;walk_at "evs";exact ke
    clear aw;generalize kd2.map (fun x=>ws.getD x 0)=l;have st4:=st3.new (c:=.list (l.map V.int)) hD;clear st3 hD;walk_at "evs";refine c_sum (st4.at List.mem_cons_self) ?_;have st5:=st4.tail;clear st4;generalize AH.put H7 D _=H9 at st5 ⊢;walk_at "evs";refine u_add ?_;walk_at "evs";refine c_append st5.aw hwz ?_;rw [show ws.map V.int++[V.int (1+l.sum)]=(ws++[1+l.sum]).map V.int by simp only [List.map_append];rfl];have st6:=st5.setWs (ws++[1+l.sum]);clear st5;walk_at "evs";have hbl:(bn++[(⟨op,kd2⟩:Nd)]).length=bn.length+1:=List.length_append;exact q _ _ rfl ⟨X',_,ps,_,_,st6,⟨by simp only [hbl,List.length_append,nw];rfl,by lia,by lia,by lia,by lia⟩⟩
  ·induction decide ((kd.map fun x=>ws.getD x 0).sum < 11) with
   | true=>
    refine byes' rfl ?_;exact cont _ _ ⟨rfl,kd,rfl,hkl,hkb⟩
   | false=>
    refine bno' rfl ?_;walk_at "evs";refine c_lenTup (by rw [nvs_len];lia) ?_;simp only [nvs_len,hkl];walk_at "evs";refine u_tupMul (by lia) ?_;exact cont _ _ ⟨rfl,List.replicate (1+d) 0,congrArg V.tup (List.map_replicate (f:=nv) (a:=0) (n:=1+d)).symm,List.length_replicate,fun x hx=>by refine List.eq_of_mem_replicate hx▸?_;lia⟩
 ·clear st;intro j acc v H1 Qe Qo hj z10;refine e1a4 z10 fun kd z11 hkl hkb st=>?_;clear z10;subst z11;intro ke ko;refine e1a2 (nvs_get? hj) fun x hx z8=>?_;clear hj;subst z8;have hjl:=range_at hx;refine ⟨trivial,?_⟩;have an:=st.an;walk_at "evs";refine c_lenList an hbz ?_;simp only [nds_len];walk_at "evs";refine st.next Fk (by lia) (by lia) fun a H2 ha st1=>?_;walk_at "evs";refine ke _ _ ⟨kd++[a],nvs_snoc ..,by refine List.length_append▸?_;refine hkl▸?_;rfl,fun x hx=>?_,st1⟩;refine Or.elim (List.mem_append.mp hx) (fun h=>?_) fun h=>?_
  ·exact hkb x h
  ·refine List.mem_singleton.mp h▸?_;exact ha
theorem deed_pair (Fk:Facts B.K) {A:LA} {X:LX} {ad:Addr} {dds:List Nat} {bn:List Nd} {ps:List (Nat × Nat)} {ws:List Int} {k i d:Nat} (st:LSt A H [(ad,.list (nvs dds))] X bn ps bn ps ws k) (N:LNum i bn ps ws k) (hi10:i < 10) {Q:QS} (q:∀ ρ' H',Same (rho6 A) ρ'→LInv A ad dds (i+1) H'→Q .next ρ' H'):vS B (n+7) (fs 22) 58 ddPair ((ofString "deed",nv d)::rho6 A) H Q:=by
 have nw:=N.w;have nb1:=N.b1;have nb2:=N.b2;have np:=N.p;have nk:=N.k;have hbz:(bn.map Nd.v).length≤100000:=by rw [nds_len];lia
 have hwz:(ws.map V.int).length≤100000:=by rw [List.length_map];lia
 clear N;have an:=st.an;have ap:=st.ap;have hpz:(ps.map pv).length≤100000:=by rw [List.length_map];lia
 walk_at "evs";refine c_lenList an hbz ?_;simp only [nds_len];walk_at "evs";refine st.next Fk (by lia) (by lia) fun a H1 ha st1=>?_;clear st an ap;have an:=st1.an;walk_at "evs";refine c_lenList an hbz ?_;rw [nds_len];walk_at "evs";refine st1.next Fk (by lia) (by lia) fun b H2 hb st2=>?_;clear st1 an;walk_at "evs";refine c_append st2.ap hpz ?_;rw [show ps.map pv++[V.tup [nv a,nv b]]=(ps++[(a,b)]).map pv by simp only [List.map_append];rfl];have st3:=st2.setPairs (ps++[(a,b)]);clear st2;generalize AH.put H2 A.ap _=H3 at st3 ⊢;have hlast:H3 A.ap=some (.list (ps.map pv++[pv (a,b)])):=by rw [st3.ap,List.map_append];rfl
 walk_at "evs";refine st3.cm Fk rfl (fun u1_ u2_ u3_ u4_ u5_ u6_ u7_=>rfl) ?_;walk_at "evs";refine u_listLast hlast (by lia) ?_;walk_at "evs";refine u_tupGet (i:=0) (v:=nv a) rfl (nbl rfl) ?_;walk_at "evs";refine u_listLast hlast (by lia) ?_;walk_at "evs";refine u_tupGet (i:=1) (v:=nv b) rfl (nbl rfl) ?_;walk_at "evs";refine c_lenList hlast (by simp only [List.length_append,List.length_singleton,List.length_map];lia) ?_;walk_at "evs";refine c_strInt ?_ fun sx=>?_
 ·simp only [List.length_append,List.length_singleton,List.length_map];exact Nat.lt_of_le_of_lt (Nat.log2_le_self _) (Nat.lt_of_le_of_lt (Nat.succ_le_succ np) (Nat.lt_of_lt_of_le (Nat.succ_lt_succ hi10) (nbl rfl)))
 walk_at "evs";refine st3.merge Fk (by lia) ha hb fun v X' H4 st4=>?_;clear st3 hlast;walk_at "evs";exact q _ _ rfl ⟨X',bn,_,ws,k+1+1,st4,⟨nw,nb1,by lia,by simp only [List.length_append,List.length_singleton];exact Nat.succ_le_succ ‹_›,by lia⟩⟩
theorem deed_settle (Fk:Facts B.K) {A:LA} {X:LX} {ad:Addr} {dds:List Nat} {bn:List Nd} {ps:List (Nat × Nat)} {ws:List Int} {k i d:Nat} (st:LSt A H [(ad,.list (nvs dds))] X bn ps bn ps ws k) (N:LNum i bn ps ws k) (hi10:i < 10) {Q:QS} (q:∀ ρ' H',Same (rho6 A) ρ'→LInv A ad dds (i+1) H'→Q .next ρ' H'):vS B (n+7) (fs 22) 58 ddSet ((ofString "deed",nv d)::rho6 A) H Q:=by
 have nw:=N.w;have nb1:=N.b1;have nb2:=N.b2;have np:=N.p;have nk:=N.k;have hbz:(bn.map Nd.v).length≤100000:=by rw [nds_len];lia
 have hwz:(ws.map V.int).length≤100000:=by rw [List.length_map];lia
 clear N;walk_at "evs";refine st.cm Fk rfl (fun u1_ u2_ u3_ u4_ u5_ u6_ u7_=>rfl) ?_;walk_at "evs";refine st.settle Fk (by lia) fun X1 H1 hw st1=>?_;clear st;walk_at "evs";refine Ex.forL Fk ?_;walk_at "evs";refine UI.list st1.ak ⟨.fix (rho6 A) rfl (fun j H'=>∃ X,X.S.waiting=[]∧(1≤j→Known true X.S X.v1)∧(2≤j→Known false X.S X.v2)∧LSt A H' [(ad,.list (nvs dds))] X bn ps bn ps ws k) (i1a4 X1 hw (fun h=>absurd h (by decide)) (fun h=>absurd h (by decide)) st1) ?_ ?_⟩
 ·clear st1 hw;intro H2 z27;refine e1a4 z27 fun X hw h1 h2 st=>?_;refine ⟨st.ak,?_⟩;walk_at "evs";refine st.right Fk (by lia) (by lia) hw (h1 (Nat.le_succ 1)) (h2 (Nat.le_refl 2)) fun H3 st2=>?_;clear st;refine bno' rfl ?_;walk_at "evs";exact q _ _ rfl ⟨X,bn,ps,ws,k,st2,⟨nw,nb1,by lia,by lia,by lia⟩⟩
 ·clear st1 hw;intro j v H2 Qt hj z25;refine e1a4 z25 fun X hw h1 h2 st=>?_;intro kn;refine ⟨st.ak,?_⟩
  match j,hj,h1,kn with
  | 0,hj,_,kn=>
   cases hj;walk_at "evs";refine .mk _ (st.mthK1 Fk (Fk.meths rfl).1 fun u8_ u9_ u10_ u11_=>rfl) (.inr (.inr (Fk.meths (C:=.keeper) (x:=ofString "settle") rfl).2)) ?_;walk_at "evs";refine st.keep1 Fk (by lia) (by lia) fun X' H3 e1 e2 e3 st2=>?_;walk_at "evs";exact kn _ _ rfl (i1a4 X' (e1▸hw) (fun u12_=>e3) (fun h=>absurd h (by decide)) st2)
  | 1,hj,h1,kn=>
   cases hj;walk_at "evs";refine .mk _ (st.mthK2 Fk (Fk.meths rfl).1 fun u13_ u14_ u15_ u16_=>rfl) (.inr (.inr (Fk.meths (C:=.keeper) (x:=ofString "settle") rfl).2)) ?_;walk_at "evs";refine st.keep2 Fk (by lia) (by lia) fun X' H3 e1 e2 e3 st2=>?_;walk_at "evs";exact kn _ _ rfl ⟨X',e1▸hw,fun u17_=>by simp only [e1,e2];exact h1 (Nat.le_refl 1),fun u18_=>e3,st2⟩
  | j+2,hj,_,_=>cases hj
theorem law_deeds (Fk:Facts B.K) {A:LA} {X0:LX} {ad:Addr} {dds:List Nat} {k0:Nat} (st0:LSt A H [(ad,.list (nvs dds))] X0 nodes0 [] nodes0 [] [1,1] k0) (hdd:dds.length≤10) (hk0:k0≤20) {Q:QV} (q:∀ H',Q (.bool true) H') :
  vS B (n+7) (fs 22) 55 ((fb 22).drop 5) ((ofString "deeds",.ref ad)::rho6 A) H (KFun Q):=by
 walk_at "evs";refine Ex.forL Fk ?_;walk_at "evs";refine UI.list (items:=nvs dds) (st0.at List.mem_cons_self) ⟨.fix (rho6 A) rfl (LInv A ad dds) ⟨X0,_,_,_,_,st0,⟨rfl,Nat.le_refl _,Nat.le_refl _,Nat.le_refl _,hk0⟩⟩ ?_ ?_⟩
 ·clear st0;rintro H' ⟨X,bn,ps,ws,k,st,N⟩;refine ⟨st.at List.mem_cons_self,?_⟩;exact law_last Fk st (by have:=N.k;rw [nvs_len] at this;lia) q
 ·clear st0 q;rintro i v H' Qt hi ⟨X,bn,ps,ws,k,st,N⟩ kn;refine ⟨st.at List.mem_cons_self,?_⟩;refine e1a2 (nvs_get? hi) fun d hdi z29=>?_;subst z29;have hi10:i < 10:=Nat.lt_of_lt_of_le (List.getElem?_eq_some_iff.mp hdi).1 hdd;clear hi hdi;walk_at "evs";refine u_lt ?_;by_cases hd2:d < 2
  ·refine byes (by lia) ?_;exact deed_add Fk st N hi10 hd2 kn
  ·refine bno (by lia) ?_;walk_at "evs";refine u_eqInt ?_;by_cases hde:d=2
   ·refine byes (by lia) ?_;exact deed_pair Fk st N hi10 kn
   ·refine bno (by lia) ?_;exact deed_settle Fk st N hi10 kn
end
section
variable {B:Bs} {n:Nat} {H:AH} {L:List (Addr × Cell)}
theorem law_perm {R:HR} {S:HS} {P K1 K2 L:List (Addr × Cell)} {k a b c:Addr × Cell}:([k]++(K2++(K1++([a,b,c]++heapIn R S (P++L))))).Perm (P++([c,b,a,k]++(K1++(K2++heapIn R S L)))):=by
 refine (((perm5 (P:=P) (A:=heapFixed R S)).symm.append_left _).append_left _ |>.append_left _ |>.append_left _).trans ?_;refine ((List.perm_append_comm_assoc K2 K1 _).append_left _).trans ?_;refine (perm5 (P:=P) (A:=[k])).symm.trans (List.Perm.append_left P ?_);exact (perm4 (A:=[k])).trans ((List.reverse_perm [c,b,a]).append_right _)
theorem law_rest (Fk:Facts B.K) {A:LA} {X0:LX} {as_:Addr} (st0:LSt A H [] X0 [] [] nodes0 [] [1,1] 0) {Q:QV} (q:∀ H',Q (.bool true) H') :
  vS B (n+7) (fs 22) 57 ((fb 22).drop 3) ((ofString "keepers",.ref A.ak)::(ofString "weights",.ref A.aw)::(ofString "pairs",.ref A.ap)::(ofString "nodes",.ref A.an)::(ofString "heap",.ref A.h)::(ofString "row",.ref A.ra)::[(ofString "script",.ref as_)]) H (KFun Q):=by
 walk_at "evs";refine Ex.forL Fk ?_;walk_at "evs";refine UI.list st0.an ⟨.fix (rho6 A) rfl (fun i H'=>∃ X,LSt A H' [] X (nodes0.take i) [] nodes0 [] [1,1] 0) ⟨X0,st0⟩ ?_ ?_⟩
 ·clear st0;intro H' z11;refine e1a1 z11 fun X st=>?_;refine ⟨st.an,?_⟩;have st:LSt A H' [] X nodes0 [] nodes0 [] [1,1] 0:=st;walk_at "evs";refine Ev.compL Fk ?_;walk_at "evs";refine st.next Fk (many:=6) (by decide) (by decide) fun j H1 hj st1=>?_;clear st;walk_at "evs";refine u_add ?_;rw [show (4:Int)+(j:Nat)=((4+j:Nat):Int) by simp];walk_at "evs";refine UCI.range1 (by lia) ?_;rw [irange0];refine ⟨.mk (by simp only [nvs_len,List.length_range];lia) (fun i acc H'=>∃ ds:List Nat,acc=nvs ds∧ds.length=i∧LSt A H' [] X nodes0 [] nodes0 [] [1,1] (1+i)) (i1a3 ([]) rfl rfl st1) ?_ ?_⟩
  ·clear st1;intro acc H2 z9;refine e1a3 z9 fun ds z10 hdl st=>?_;clear z9;subst z10;refine ⟨trivial,fun D hD=>?_⟩;rw [nvs_len,List.length_range] at hdl st;have st2:=st.new (c:=.list (nvs ds)) hD;clear st hD;walk_at "evs";intro c hc;have st3:=st2.new (c:=.list [.int 3]) hc;clear st2 hc;walk_at "evs";refine u_addList (vs:=nvs ds) (ws:=[.int 3]) (st3.at (List.mem_cons_of_mem _ List.mem_cons_self)) (st3.at List.mem_cons_self) (by simp only [nvs_len,List.length_singleton];lia) fun ad had=>?_;rw [show nvs ds++[V.int 3]=nvs (ds++[3]) from nvs_snoc ..];have st4:=(st3.new (c:=.list (nvs (ds++[3]))) had).drop (f2:=[(ad,.list (nvs (ds++[3])))]) ((List.nil_sublist _).cons_cons _);clear st3 had;generalize AH.put _ ad _=H5 at st4 ⊢;exact law_deeds Fk st4 (by simp only [List.length_append,List.length_singleton];lia) (by lia) q
  ·clear st1;intro i acc v H2 Qe Qo hi z6;refine e1a3 z6 fun ds z7 hdl st=>?_;clear z6;subst z7;intro ke ko;refine e1a2 (nvs_get? hi) fun x hx z4=>?_;clear hi;subst z4;have hil:=range_at hx;refine ⟨trivial,?_⟩;walk_at "evs";refine st.next Fk (many:=4) (by decide) (by lia) fun d H3 hd st1=>?_;walk_at "evs";exact ke _ _ ⟨ds++[d],nvs_snoc ..,by simp only [List.length_append,hdl];rfl,st1⟩
 ·clear st0;rintro i v H' Qt hi ⟨X,st⟩ kn;refine ⟨st.an,?_⟩;refine e1a2 (nds_get? hi) fun x hx z1=>?_;subst z1;have hxk:x.kids=[]∧isOp x.op∧x ∉ nodes0.take i:=by
   match i,hx with
   | 0,hx=>clear hi;cases hx;exact i0a3 rfl (.inl rfl) List.not_mem_nil
   | 1,hx=>clear hi;cases hx;exact i0a3 rfl (.inr (.inl rfl)) (by decide)
   | i+2,hx=>cases hx
  have hil:(nodes0.take i).length < 12:=Nat.lt_of_le_of_lt (List.length_take_le' ..) (by decide);obtain ⟨x1,x2,x3⟩:=hxk;obtain ⟨op,kids⟩:=x;clear hi;cases (x1:kids=[]);walk_at "evs";refine st.cm Fk rfl (fun u1_ u2_ u3_ u4_ u5_ u6_ u7_=>rfl) ?_;walk_at "evs";refine u_tupGet (i:=0) (v:=.str op) rfl (nbl rfl) ?_;walk_at "evs";refine st.add Fk (kids:=[]) (by decide) x2 (fun u8_ h=>nomatch h) (by decide) hil (fun j u9_ h=>absurd h x3) fun X' H1 u10_ st1=>?_;walk_at "evs";exact kn _ _ rfl ⟨X',by refine take_snoc hx▸?_;exact st1⟩
theorem law_spec (Fk:Facts B.K) {as_:Addr} {xs:List Value} {script:List Int} (hb:B.h0.IsList as_ (List.toArray xs)) (hI:IntsAre xs script) (hh:Holds H L) (hl:script.length≤63) {Q:QV} (q:∀ H',Q (.bool true) H') :
  UC B (n+8) (.ref 534) [.ref as_] H Q:=by
 refine UC.fn Fk 40 rfl rfl ?_;walk_at "evs";refine Ev.dict2 (by decide) ?_;refine Ev.compL Fk ?_;walk_at "evs";refine Ev.upto ?_;refine (v_sound Fk 14).e _ _ _ _ ?_;refine i3a5 as_ xs script rfl hb hI (by exact Nat.le_trans ‹_› (nbl rfl)) (fun c hc=>?_);have h1:=hh.new (c:=.list ((script.map V.int).take 48)) hc;clear hh hc hb hI;walk_at "evs";have hcl:(script.take 48).length≤48:=List.length_take_le ..;rw [← List.map_take] at h1 ⊢;generalize script.take 48=cells at hcl h1 ⊢;refine UI.list (h1.get 0 rfl) ⟨.pure (by rw [List.length_map];exact Nat.le_trans ‹_› (nbl rfl)) (h1.get 0 rfl) (cells.map V.int) rfl (fun i v Qe hi=>?_) fun rc hrc=>?_⟩
 ·refine i1a2 v hi (fun ke=>?_);rw [List.getElem?_map,Option.map_eq_some_iff] at hi;obtain ⟨x,u1_,rfl⟩:=hi;walk_at "evs";refine c_intInt ?_;walk_at "evs";exact ke
 have h2:=(h1.new (c:=.list (cells.map V.int)) hrc).sub (L':=(rc,.list (cells.map V.int))::L) ((List.sublist_cons_self _ _).cons_cons _);clear h1 hrc;refine (v_sound Fk 14).e _ _ _ _ ?_;walk_at "evs";intro ra hra;have h3:Holds _ (rowCells ra rc cells 0++L):=h2.new (c:=.sdict [(ofString "cells",.ref rc),(ofString "at",.int 0)]) hra;clear h2 hra;walk_at "evs";refine Ex.pairV Fk ?_;walk_at "evs";refine heap_new Fk h3 fun R H1 hls h4=>?_;clear h3;walk_at "evs";intro an han;have h5:=h4.new (c:=.list (nodes0.map Nd.v)) han;clear h4 han;walk_at "evs";intro ap hap;have h6:=h5.new (c:=.list (([]:List (Nat × Nat)).map pv)) hap;clear h5 hap;walk_at "evs";intro aw haw;have h7:=h6.new (c:=.list (([1,1]:List Int).map V.int)) haw;clear h6 haw;walk_at "evs";refine UC.new0 (C:=.depth) (Fk.plain 0 rfl).1 (Fk.plain 0 rfl).2 fun dd xd hdd hxd hne=>?_;have h8:=(h7.new (c:=.sdict []) hdd).new (c:=.inst .depth dd) (a:=xd) (by rw [AH.put_ne _ _ hne.symm];exact hxd);clear h7 hdd hxd;walk_at "evs";refine keeper_new Fk h8 R.h xd fun k1 dk1 va1 to1 H2 h9=>?_;clear h8;walk_at "evs";refine UC.new0 (C:=.size) (Fk.plain 1 rfl).1 (Fk.plain 1 rfl).2 fun ds xs hds hxs hne2=>?_;have h10:=(h9.new (c:=.sdict []) hds).new (c:=.inst .size ds) (a:=xs) (by rw [AH.put_ne _ _ hne2.symm];exact hxs);clear h9 hds hxs;walk_at "evs";refine keeper_new Fk h10 R.h xs fun k2 dk2 va2 to2 H3 h11=>?_;clear h10;walk_at "evs";intro ak hak;have h12:Holds _ ([(ak,.list [.ref k1,.ref k2])]++(kIn ⟨k2,dk2,va2,to2,xs,ds⟩ false R.h []++(kIn ⟨k1,dk1,va1,to1,xd,dd⟩ true R.h []++([(aw,.list (([1,1]:List Int).map V.int)),(ap,.list (([]:List (Nat × Nat)).map pv)),(an,.list (nodes0.map Nd.v))]++heapIn R HS.empty (rowCells ra rc cells 0++L))))):=h11.new (c:=.list [.ref k1,.ref k2]) hak;clear h11 hak;generalize AH.put H3 ak _=H4 at h12 ⊢;have st0:LSt ⟨ra,rc,an,ap,aw,ak,R.h,k1,k2,cells,L⟩ H4 [] ⟨R,HS.empty,⟨k1,dk1,va1,to1,xd,dd⟩,⟨k2,dk2,va2,to2,xs,ds⟩,[],[],0,0⟩ [] [] nodes0 [] [1,1] 0:=
  i0a3 ⟨rfl,rfl,rfl,rfl,HInv.empty hls,KInv.start,KInv.start⟩ hcl (h12.perm (law_perm (P:=rowCells ra rc cells 0)))
 exact law_rest Fk st0 q
end
end Mine
set_option Elab.async true
set_option tactic.hygienic true
open PySem PySem.W PySem.Calls PyProof.Rows
namespace Mine.top
theorem tw3034580379859936400:0=0:=rfl
theorem tw16600302727076016134:0=0:=rfl
theorem tw8690613079922662544:0=0:=rfl
theorem tw8036327681605100784:0=0:=rfl
theorem tw10172462246102229377:0=0:=rfl
theorem tw6802827213959003187:0=0:=rfl
theorem tw5155950481276406077:0=0:=rfl
theorem tw7596346672990589777:0=0:=rfl
theorem tw17799576838397608077:0=0:=rfl
theorem tw4598128410516361432:0=0:=rfl
theorem tw17671648378429867997:0=0:=rfl
theorem tw11247735229740821898:0=0:=rfl
theorem tw7897771034784582233:0=0:=rfl
theorem tw5597187220613765494:0=0:=rfl
theorem tw18064794426631996164:0=0:=rfl
theorem tw16541100652227675460:0=0:=rfl
theorem tw11574282978153928489:0=0:=rfl
theorem tw13732284347051372993:0=0:=rfl
theorem tw15484318188022702764:0=0:=rfl
theorem tw3974946682361356058:0=0:=rfl
theorem tw9601329371697537090:0=0:=rfl
theorem tw475491748456739550:0=0:=rfl
theorem tw7063965047294614053:0=0:=rfl
theorem tw11546936639936008217:0=0:=rfl
theorem tw7894919865021028795:0=0:=rfl
theorem tw9693770864829634121:0=0:=rfl
theorem tw7046679081361425455:0=0:=rfl
theorem tw9543386914318008161:0=0:=rfl
theorem tw5210795619274029551:0=0:=rfl
theorem tw9892616901177910922:0=0:=rfl
theorem tw7153270680253938626:0=0:=rfl
theorem tw16444126761440074567:0=0:=rfl
theorem tw3561193834555079511:0=0:=rfl
theorem tw16104615914030681952:0=0:=rfl
theorem tw14826035006057030972:0=0:=rfl
theorem tw10694878333477680388:0=0:=rfl
theorem tw13968125046926948103:0=0:=rfl
theorem tw18289109515434150305:0=0:=rfl
theorem tw16736118626332596326:0=0:=rfl
theorem tw13370185576492129568:0=0:=rfl
theorem tw3874152929960365753:0=0:=rfl
theorem tw7213333562754528385:0=0:=rfl
theorem tw10079171474624433434:0=0:=rfl
theorem tw14657780768301432306:0=0:=rfl
theorem tw1516213087968936877:0=0:=rfl
theorem tw4655869559712951663:0=0:=rfl
theorem tw13501252493785611398:0=0:=rfl
theorem tw17576949682797635024:0=0:=rfl
theorem tw17828378304095215089:0=0:=rfl
theorem tw4828031223510198475:0=0:=rfl
theorem tw9666326922614434849:0=0:=rfl
theorem tw10090393231696489298:0=0:=rfl
theorem tw1142415686869020238:0=0:=rfl
theorem tw4383139521930768336:0=0:=rfl
theorem tw76412952228603488:0=0:=rfl
theorem tw16325430554902658873:0=0:=rfl
theorem tw17620759639134147866:0=0:=rfl
theorem tw2145171640123136144:0=0:=rfl
theorem tw6124053682588569230:0=0:=rfl
theorem tw11762496359356365647:0=0:=rfl
theorem tw6572447435987645144:0=0:=rfl
theorem tw7204998973626084599:0=0:=rfl
theorem tw10448899703829047738:0=0:=rfl
theorem tw2988451766255067171:0=0:=rfl
theorem tw4699463449715708850:0=0:=rfl
theorem tw15874363893724204672:0=0:=rfl
theorem tw8813761850579938390:0=0:=rfl
theorem tw2847958352784047137:0=0:=rfl
theorem tw681777741448182936:0=0:=rfl
theorem tw427420600052151026:0=0:=rfl
theorem tw11982747722937265360:0=0:=rfl
theorem tw594810645892935528:0=0:=rfl
theorem tw9951221954081769418:0=0:=rfl
theorem tw5609151216138764652:0=0:=rfl
theorem tw2555065506035805374:0=0:=rfl
theorem tw8560541052185303311:0=0:=rfl
theorem tw1483126911874232274:0=0:=rfl
theorem tw9590735534726013551:0=0:=rfl
theorem tw1843344800811705456:0=0:=rfl
theorem tw10774637447528242797:0=0:=rfl
theorem tw16719718919923625709:0=0:=rfl
theorem tw72247145696351765:0=0:=rfl
theorem tw16821654228018055803:0=0:=rfl
theorem tw14502225709538309166:0=0:=rfl
theorem tw18245740138792012028:0=0:=rfl
theorem tw10414433010598505635:0=0:=rfl
theorem tw6659320528611288953:0=0:=rfl
theorem tw10987319290404115282:0=0:=rfl
theorem tw83393220934416808:0=0:=rfl
theorem tw350670483859837877:0=0:=rfl
theorem tw12425085872883035938:0=0:=rfl
theorem tw4916261283513009128:0=0:=rfl
theorem tw2514443458684651071:0=0:=rfl
theorem tw10195997230039290492:0=0:=rfl
theorem tw3776753064480771068:0=0:=rfl
theorem tw2727672472851901052:0=0:=rfl
theorem tw18008055252877512497:0=0:=rfl
theorem tw17315540178315561739:0=0:=rfl
theorem tw7458633546980236471:0=0:=rfl
theorem tw10801874191123338550:0=0:=rfl
theorem tw953821971998124167:0=0:=rfl
theorem tw2867133514656366558:0=0:=rfl
theorem tw11053662475850362967:0=0:=rfl
theorem tw1732150942055357024:0=0:=rfl
theorem tw14537839394382259888:0=0:=rfl
theorem tw12318557346453588183:0=0:=rfl
theorem tw10567129059001840431:0=0:=rfl
theorem tw2029088862249889922:0=0:=rfl
theorem tw14615657086365298920:0=0:=rfl
theorem tw8311017846404947139:0=0:=rfl
theorem tw13177472732611162249:0=0:=rfl
theorem tw15245507539482535896:0=0:=rfl
theorem tw1584292188352093569:0=0:=rfl
theorem tw14671331368771545958:0=0:=rfl
theorem tw4159251561096739476:0=0:=rfl
theorem tw12545222027267286695:0=0:=rfl
theorem tw17346259052997144950:0=0:=rfl
theorem tw2907113945770861938:0=0:=rfl
theorem tw16713831800681072344:0=0:=rfl
theorem tw15860264024139754761:0=0:=rfl
theorem tw8345894832289464959:0=0:=rfl
theorem tw7855079511596107753:0=0:=rfl
theorem tw6694047246710070196:0=0:=rfl
theorem tw5278709424875269971:0=0:=rfl
theorem tw3820434133910038737:0=0:=rfl
theorem tw7673058066778466091:0=0:=rfl
theorem tw14823308797102314842:0=0:=rfl
theorem tw8265191368974092141:0=0:=rfl
theorem tw16800595933775061595:0=0:=rfl
theorem tw7198060816514059695:0=0:=rfl
theorem tw17555251805378815213:0=0:=rfl
theorem tw13420762306968818387:0=0:=rfl
theorem tw18374746225686918389:0=0:=rfl
theorem tw17953984050398360512:0=0:=rfl
theorem tw17565814175750979855:0=0:=rfl
theorem tw15985961358823992270:0=0:=rfl
theorem tw4299629679881509495:0=0:=rfl
theorem tw5088376156974544275:0=0:=rfl
theorem tw7250933059871147345:0=0:=rfl
theorem tw9233335307524088747:0=0:=rfl
theorem tw8281120267493503204:0=0:=rfl
theorem tw10648311167861321448:0=0:=rfl
theorem tw7414872774492366064:0=0:=rfl
theorem tw4940147422707163885:0=0:=rfl
theorem tw8204474986945543665:0=0:=rfl
theorem tw6812286434817487243:0=0:=rfl
theorem tw18186074749648716422:0=0:=rfl
theorem tw17030962893124633753:0=0:=rfl
theorem tw1394568958698188020:0=0:=rfl
theorem tw5581607755468803823:0=0:=rfl
theorem tw9631074621892390191:0=0:=rfl
theorem tw15125931889511115149:0=0:=rfl
theorem tw6430265229019958763:0=0:=rfl
theorem tw11459358961799972967:0=0:=rfl
theorem tw7847352863974893604:0=0:=rfl
theorem tw4859757453598101857:0=0:=rfl
theorem tw9442318146202087700:0=0:=rfl
theorem tw4047667213573674445:0=0:=rfl
theorem tw3315250197877816394:0=0:=rfl
theorem tw620129878449983639:0=0:=rfl
theorem tw1294077662247117797:0=0:=rfl
theorem tw3584897518013459382:0=0:=rfl
theorem tw13120753694373217308:0=0:=rfl
theorem tw13802547742096326172:0=0:=rfl
theorem tw4791253341166991637:0=0:=rfl
theorem tw3120133295221510679:0=0:=rfl
theorem tw1195175773429642966:0=0:=rfl
theorem tw8640399195822439974:0=0:=rfl
theorem tw1123975283337734383:0=0:=rfl
theorem tw13305523845174962083:0=0:=rfl
theorem tw16415559393655328363:0=0:=rfl
theorem tw12317137736924338119:0=0:=rfl
theorem tw5766051744304087583:0=0:=rfl
theorem tw17492772389151264855:0=0:=rfl
theorem tw12783364522390391256:0=0:=rfl
theorem tw2506305409684761478:0=0:=rfl
theorem tw13385244156195431271:0=0:=rfl
theorem tw12958502747184954254:0=0:=rfl
theorem tw84136930442132756:0=0:=rfl
theorem tw11173010173815179391:0=0:=rfl
theorem tw4571971715460732019:0=0:=rfl
theorem tw10008474027749305400:0=0:=rfl
theorem tw5938664839603501006:0=0:=rfl
theorem tw8999917154711486175:0=0:=rfl
theorem tw9227057690007400460:0=0:=rfl
theorem tw1736530178072539846:0=0:=rfl
theorem tw5513142621748847562:0=0:=rfl
theorem tw5058314954733539658:0=0:=rfl
theorem tw16759092144687519636:0=0:=rfl
theorem tw18177719399980262173:0=0:=rfl
theorem tw11141966352661209427:0=0:=rfl
theorem tw3195968871104189447:0=0:=rfl
theorem tw728428047077509346:0=0:=rfl
theorem tw2722852734226103192:0=0:=rfl
theorem tw17089494485692210459:0=0:=rfl
theorem tw9178861053002065721:0=0:=rfl
theorem tw8823455108540655025:0=0:=rfl
theorem tw8184561461823581802:0=0:=rfl
theorem tw15503665604740900718:0=0:=rfl
theorem tw9382581127745807760:0=0:=rfl
theorem tw7160873610591055699:0=0:=rfl
theorem tw16900427199656544559:0=0:=rfl
theorem tw956089473029861405:0=0:=rfl
theorem tw1486479319815781832:0=0:=rfl
theorem tw4784893810139332661:0=0:=rfl
theorem tw12080426169559351053:0=0:=rfl
theorem tw13713866747541496747:0=0:=rfl
theorem tw10404823597219466188:0=0:=rfl
theorem tw17486766287000646611:0=0:=rfl
theorem tw9503340733035011235:0=0:=rfl
theorem tw2377541652452675900:0=0:=rfl
theorem tw3548060758652744671:0=0:=rfl
theorem tw8645369167282567922:0=0:=rfl
theorem tw7386116660499605909:0=0:=rfl
theorem tw12718909917080609646:0=0:=rfl
theorem tw4076138812419527698:0=0:=rfl
theorem tw6624316729101989866:0=0:=rfl
theorem tw15212760480394562756:0=0:=rfl
theorem tw13369591340354186047:0=0:=rfl
theorem tw1108800333578037850:0=0:=rfl
theorem tw908825868028484722:0=0:=rfl
theorem tw10574840078274726829:0=0:=rfl
theorem tw5225916559131626549:0=0:=rfl
theorem tw11457754044182789617:0=0:=rfl
theorem tw15976228082101565994:0=0:=rfl
theorem tw10996937224433265937:0=0:=rfl
theorem tw13432635357386499347:0=0:=rfl
theorem tw12643491718579748851:0=0:=rfl
theorem tw575894324575664597:0=0:=rfl
theorem tw3696473221133414273:0=0:=rfl
theorem tw16174758807025615021:0=0:=rfl
theorem tw16580785732701462914:0=0:=rfl
theorem tw12540527436937284434:0=0:=rfl
theorem tw2758071753971750899:0=0:=rfl
theorem tw16273406610938067001:0=0:=rfl
theorem tw9516688046558066552:0=0:=rfl
theorem tw15169761463676818070:0=0:=rfl
theorem tw7313339093194340965:0=0:=rfl
theorem tw1601500998369573665:0=0:=rfl
theorem tw7325726471975496349:0=0:=rfl
theorem tw13370750898655102155:0=0:=rfl
theorem tw6898770573198911631:0=0:=rfl
theorem tw283044589724301:0=0:=rfl
theorem tw5969682004907312646:0=0:=rfl
theorem tw8369368087495890639:0=0:=rfl
theorem tw6431110157172167083:0=0:=rfl
theorem tw9589608677651300831:0=0:=rfl
theorem tw4331257952254489624:0=0:=rfl
theorem tw6756868429301003459:0=0:=rfl
theorem tw1869187583165140508:0=0:=rfl
theorem tw11383000496634168614:0=0:=rfl
theorem tw3995942328266245912:0=0:=rfl
theorem tw6674990990233134667:0=0:=rfl
theorem tw1988063486488863061:0=0:=rfl
theorem tw18085771088847121727:0=0:=rfl
theorem tw10864713392326063847:0=0:=rfl
theorem tw5839659824258004927:0=0:=rfl
theorem tw3474246075231452896:0=0:=rfl
theorem tw10548783162686979305:0=0:=rfl
theorem tw13983857475226248213:0=0:=rfl
theorem tw14987219478266130788:0=0:=rfl
theorem tw4166218997396506358:0=0:=rfl
theorem tw8968299171318014206:0=0:=rfl
theorem tw12342655685612074800:0=0:=rfl
theorem tw6196800358849779857:0=0:=rfl
theorem tw15349318334595610263:0=0:=rfl
theorem tw1814787853859245837:0=0:=rfl
theorem tw15877122091014420850:0=0:=rfl
theorem tw6885214360128481674:0=0:=rfl
theorem tw6491118196486620199:0=0:=rfl
theorem tw7587601194962177611:0=0:=rfl
theorem tw14724332232928298890:0=0:=rfl
theorem tw11845233108574324481:0=0:=rfl
theorem tw2596539476470345881:0=0:=rfl
theorem tw6883741973766446791:0=0:=rfl
theorem tw12392516345856041104:0=0:=rfl
theorem tw11922380849998532372:0=0:=rfl
theorem tw6908635100366463001:0=0:=rfl
theorem tw15878805988109762761:0=0:=rfl
theorem tw14263998999751124003:0=0:=rfl
theorem tw4551080515912023512:0=0:=rfl
theorem tw17323899518341599180:0=0:=rfl
theorem tw5648408011753718230:0=0:=rfl
theorem tw14789260269991461300:0=0:=rfl
theorem tw297971269722091814:0=0:=rfl
theorem tw7657828476027519975:0=0:=rfl
theorem tw11072019736110318841:0=0:=rfl
theorem tw16204670001084760307:0=0:=rfl
theorem tw17781115878593249900:0=0:=rfl
theorem tw1585457916280141200:0=0:=rfl
theorem tw12427389293880184781:0=0:=rfl
theorem tw8321918168302905379:0=0:=rfl
theorem tw9366391650621772374:0=0:=rfl
theorem tw7297446738713254254:0=0:=rfl
theorem tw11542710104232473196:0=0:=rfl
theorem tw14917401599646851644:0=0:=rfl
theorem tw10005945817407372193:0=0:=rfl
theorem tw10783980745131425670:0=0:=rfl
theorem tw10956490626425055710:0=0:=rfl
theorem tw2732273902793177162:0=0:=rfl
theorem tw9227541089923242437:0=0:=rfl
theorem tw12012865196380796599:0=0:=rfl
theorem tw18164388396756303480:0=0:=rfl
theorem tw1655259298481077034:0=0:=rfl
theorem tw7600245330811189008:0=0:=rfl
theorem tw1275901062530889299:0=0:=rfl
theorem tw11334350811105764591:0=0:=rfl
theorem tw18237780215024852062:0=0:=rfl
theorem tw14349089067433371257:0=0:=rfl
theorem tw10187724287525710026:0=0:=rfl
theorem tw4134505453457115739:0=0:=rfl
theorem tw12622177474791663080:0=0:=rfl
theorem tw4773702212245658779:0=0:=rfl
theorem tw1321871150748368714:0=0:=rfl
theorem tw4555866861457887817:0=0:=rfl
theorem tw381845443943030031:0=0:=rfl
theorem tw1400011881503588481:0=0:=rfl
theorem tw53344730913325255:0=0:=rfl
theorem tw15240379268576122478:0=0:=rfl
theorem tw2544169868661182894:0=0:=rfl
theorem tw12764151676501842404:0=0:=rfl
theorem tw9614876229902214918:0=0:=rfl
theorem tw6749217079512962374:0=0:=rfl
theorem tw9673933992889287130:0=0:=rfl
theorem tw1112988674713690477:0=0:=rfl
theorem tw17428532607074087071:0=0:=rfl
theorem tw12535971307161669396:0=0:=rfl
theorem tw16782997733028217545:0=0:=rfl
theorem tw11423202765487971197:0=0:=rfl
theorem tw2731995056826638727:0=0:=rfl
theorem tw2782073688633401757:0=0:=rfl
theorem tw15177526630643400193:0=0:=rfl
theorem tw8693662901424576113:0=0:=rfl
theorem tw15362295582089109014:0=0:=rfl
theorem tw11240886729373846589:0=0:=rfl
theorem tw2057334267981633021:0=0:=rfl
theorem tw2218668502564051296:0=0:=rfl
theorem tw93012567124736588:0=0:=rfl
theorem tw16262243036561855896:0=0:=rfl
theorem tw3261557481417251176:0=0:=rfl
theorem tw10361075674979980167:0=0:=rfl
theorem tw2365566498512967660:0=0:=rfl
theorem tw661290744650703789:0=0:=rfl
theorem tw13223034962123697568:0=0:=rfl
theorem tw13799840507378627052:0=0:=rfl
theorem tw6919701780365589675:0=0:=rfl
theorem tw788273225186049534:0=0:=rfl
theorem tw5476889619067714990:0=0:=rfl
theorem tw3855276242980373810:0=0:=rfl
theorem tw887695700811335699:0=0:=rfl
theorem tw2770239361232196585:0=0:=rfl
theorem tw13272337422414781067:0=0:=rfl
theorem tw81815255157605957:0=0:=rfl
theorem tw11203750815551599093:0=0:=rfl
theorem tw7845129631348957993:0=0:=rfl
theorem tw13290321428070320777:0=0:=rfl
theorem tw6370870915552960936:0=0:=rfl
theorem tw1886144042066472794:0=0:=rfl
theorem tw7830913209206220567:0=0:=rfl
theorem tw16155163154822807229:0=0:=rfl
theorem tw9961057766049560675:0=0:=rfl
theorem tw2126296398998916975:0=0:=rfl
theorem tw12385144161495827662:0=0:=rfl
theorem tw17085176360113175178:0=0:=rfl
theorem tw5523086135645875356:0=0:=rfl
theorem tw11613256710310857696:0=0:=rfl
theorem tw8043003576528973991:0=0:=rfl
theorem tw1492452104121835379:0=0:=rfl
theorem tw3796891538752321733:0=0:=rfl
theorem tw8327351992414209593:0=0:=rfl
theorem tw8523463495250067690:0=0:=rfl
theorem tw4177254973167742082:0=0:=rfl
theorem tw17103585973383926153:0=0:=rfl
theorem tw2617719716777270872:0=0:=rfl
theorem tw4840481374290595910:0=0:=rfl
theorem tw8729362747519067210:0=0:=rfl
theorem tw13345470168829271861:0=0:=rfl
theorem tw11994683656316670133:0=0:=rfl
theorem tw4951766788466123468:0=0:=rfl
theorem tw7990429038631628895:0=0:=rfl
theorem tw3484022092364678248:0=0:=rfl
theorem tw10562855833978642645:0=0:=rfl
theorem tw16004416686337608138:0=0:=rfl
theorem tw5398424786039705171:0=0:=rfl
theorem tw8694864300669457046:0=0:=rfl
theorem tw11334203419191126389:0=0:=rfl
theorem tw12958664272152378060:0=0:=rfl
theorem tw14597223018079223185:0=0:=rfl
theorem tw14697636140705633519:0=0:=rfl
theorem tw13706816188851595723:0=0:=rfl
theorem tw7444641836354208208:0=0:=rfl
theorem tw17741875731164886585:0=0:=rfl
theorem tw13864677062968915208:0=0:=rfl
theorem tw13090165191389475591:0=0:=rfl
theorem tw9016798869158615873:0=0:=rfl
theorem tw8140125068956082859:0=0:=rfl
theorem tw13318506193475082254:0=0:=rfl
theorem tw3479634599624807885:0=0:=rfl
theorem tw9108098604805947806:0=0:=rfl
theorem tw14747140909534839006:0=0:=rfl
theorem tw16878204669230926818:0=0:=rfl
theorem tw17176029603704830031:0=0:=rfl
theorem tw12256363837256957063:0=0:=rfl
theorem tw1088946173253831356:0=0:=rfl
theorem tw8874702517807110003:0=0:=rfl
theorem tw17469865338272021226:0=0:=rfl
theorem tw13091174067606910046:0=0:=rfl
theorem tw4392038535549328194:0=0:=rfl
theorem tw9335426496214029073:0=0:=rfl
theorem tw13889484949932952446:0=0:=rfl
theorem tw9800703332001039478:0=0:=rfl
theorem tw12787338502077490372:0=0:=rfl
theorem tw13500427573557490136:0=0:=rfl
theorem tw1040915598704419856:0=0:=rfl
theorem tw10617020205504526918:0=0:=rfl
theorem tw6664487174759623829:0=0:=rfl
theorem tw8679839319945467846:0=0:=rfl
theorem tw11960245374511038805:0=0:=rfl
theorem tw2405475915293451298:0=0:=rfl
theorem tw13822267516522204269:0=0:=rfl
theorem tw2249405535684624136:0=0:=rfl
theorem tw13710211086531791108:0=0:=rfl
theorem tw8143265674769528471:0=0:=rfl
theorem tw11199532085631943738:0=0:=rfl
theorem tw18034075008235765660:0=0:=rfl
theorem tw18086089286151905521:0=0:=rfl
theorem tw12117888159696746259:0=0:=rfl
theorem tw17795014544551873601:0=0:=rfl
theorem tw9962302188120564619:0=0:=rfl
theorem tw1754339480302792767:0=0:=rfl
theorem tw9759319705405543751:0=0:=rfl
theorem tw1291508964198565346:0=0:=rfl
theorem tw17545328352263074274:0=0:=rfl
theorem tw15542334942015070624:0=0:=rfl
theorem tw2665807947273092163:0=0:=rfl
theorem tw15299407806266782574:0=0:=rfl
theorem tw13928562000808390012:0=0:=rfl
theorem tw12209182163369298222:0=0:=rfl
theorem tw1147548669246485465:0=0:=rfl
theorem tw14608685727046917156:0=0:=rfl
theorem tw12376051458212225564:0=0:=rfl
theorem tw11116745826364501430:0=0:=rfl
theorem tw2878843996050045342:0=0:=rfl
theorem tw9063741608606530840:0=0:=rfl
theorem tw5868845118606482295:0=0:=rfl
theorem tw16196420915677631385:0=0:=rfl
theorem tw5983031951866500094:0=0:=rfl
theorem tw8410488445778877200:0=0:=rfl
theorem tw7681529838311687354:0=0:=rfl
theorem tw6438537300738474071:0=0:=rfl
theorem tw16453443671601555132:0=0:=rfl
theorem tw11858546649754279707:0=0:=rfl
theorem tw3378803678994701225:0=0:=rfl
theorem tw9990226795618131978:0=0:=rfl
theorem tw5889316905344633881:0=0:=rfl
theorem tw6859976401760118174:0=0:=rfl
theorem tw11199710921928265848:0=0:=rfl
theorem tw795583310449317561:0=0:=rfl
theorem tw8973803690348224638:0=0:=rfl
theorem tw12415523145999629524:0=0:=rfl
theorem tw864819663365544661:0=0:=rfl
theorem tw16054190913257422852:0=0:=rfl
theorem tw15254643099363442306:0=0:=rfl
theorem tw2580922434103091657:0=0:=rfl
theorem tw4656485037274611717:0=0:=rfl
theorem tw602653604445443664:0=0:=rfl
theorem tw4807692442873511580:0=0:=rfl
theorem tw3730354652608582461:0=0:=rfl
theorem tw15361541807878343388:0=0:=rfl
theorem tw8148004212497801138:0=0:=rfl
theorem tw3712731000106771831:0=0:=rfl
theorem tw1016984595167383106:0=0:=rfl
theorem tw3422688185749166683:0=0:=rfl
theorem tw10915162052029792233:0=0:=rfl
theorem tw5225153198818245361:0=0:=rfl
theorem tw10657950659306570408:0=0:=rfl
theorem tw2369445192022557226:0=0:=rfl
theorem tw3195522803047326042:0=0:=rfl
theorem tw2312856594315299383:0=0:=rfl
theorem tw13307591127769906961:0=0:=rfl
theorem tw1139600151236580504:0=0:=rfl
theorem tw6187478851450931391:0=0:=rfl
theorem tw10797620697341660853:0=0:=rfl
theorem tw10399464001100048223:0=0:=rfl
theorem tw10467260515200827399:0=0:=rfl
theorem tw427269002284569659:0=0:=rfl
theorem tw2462062305354472974:0=0:=rfl
theorem tw6240723676877644813:0=0:=rfl
theorem tw9149571693438533347:0=0:=rfl
theorem tw7381879191629600215:0=0:=rfl
theorem tw2686433634493928565:0=0:=rfl
theorem tw2741389259953327712:0=0:=rfl
theorem tw2287823674025257028:0=0:=rfl
theorem tw1047907039808853306:0=0:=rfl
theorem tw11466170419677230873:0=0:=rfl
theorem tw1803303928475200142:0=0:=rfl
theorem tw3002795768020413707:0=0:=rfl
theorem tw9166809390415177425:0=0:=rfl
theorem tw11760055953109336660:0=0:=rfl
theorem tw12819366960792805191:0=0:=rfl
theorem tw13187519465064655849:0=0:=rfl
theorem tw10579768621468169598:0=0:=rfl
theorem tw17542608870123051758:0=0:=rfl
theorem tw8363718466572441477:0=0:=rfl
theorem tw13261893007816960818:0=0:=rfl
theorem tw4597200072644226624:0=0:=rfl
theorem tw3337584539547039419:0=0:=rfl
theorem tw17474498911051797155:0=0:=rfl
theorem tw16597617366809209970:0=0:=rfl
theorem tw5245862010334584759:0=0:=rfl
theorem tw9361663168868926718:0=0:=rfl
theorem tw2985252069258134486:0=0:=rfl
theorem tw14450715343900746980:0=0:=rfl
theorem tw501154541418245514:0=0:=rfl
theorem tw13264354339760550358:0=0:=rfl
theorem tw4695670854781333657:0=0:=rfl
theorem tw814325599930780420:0=0:=rfl
theorem tw16885616592811714743:0=0:=rfl
theorem tw2103985501979894447:0=0:=rfl
theorem tw13889309363888878346:0=0:=rfl
theorem tw8810280945414196856:0=0:=rfl
theorem tw3739144386018749749:0=0:=rfl
theorem tw390997316461189296:0=0:=rfl
theorem tw105208000716104510:0=0:=rfl
theorem tw9739860059890490050:0=0:=rfl
theorem tw13975414291046593716:0=0:=rfl
theorem tw4213018616267185653:0=0:=rfl
theorem tw8420165910927482534:0=0:=rfl
theorem tw14762295962024373759:0=0:=rfl
theorem tw995497684801637723:0=0:=rfl
theorem tw3254097082911018636:0=0:=rfl
theorem tw4671429814451907529:0=0:=rfl
theorem tw17981982808018919739:0=0:=rfl
theorem tw11133666699803404755:0=0:=rfl
theorem tw7743179893348639699:0=0:=rfl
theorem tw146815374380898660:0=0:=rfl
theorem tw2581206410525282061:0=0:=rfl
theorem tw6381231289166406305:0=0:=rfl
theorem tw1676862907878916244:0=0:=rfl
theorem tw13987285891283452908:0=0:=rfl
theorem tw10296497611174029103:0=0:=rfl
theorem tw1124271682379634556:0=0:=rfl
theorem tw7273676953221729872:0=0:=rfl
theorem tw16044733080236030384:0=0:=rfl
theorem tw9152664641465651067:0=0:=rfl
theorem tw17355269125676882429:0=0:=rfl
theorem tw11334415319851112604:0=0:=rfl
theorem tw13160728816969591200:0=0:=rfl
theorem tw7913636548009798097:0=0:=rfl
theorem tw3909029901177050473:0=0:=rfl
theorem tw17470836177267949868:0=0:=rfl
theorem tw14611434983143301774:0=0:=rfl
theorem tw6505410396798821541:0=0:=rfl
theorem tw18367679650794681301:0=0:=rfl
theorem tw5728218623943512802:0=0:=rfl
theorem tw15095372191486117680:0=0:=rfl
theorem tw3976154599441133093:0=0:=rfl
theorem tw10194810499950245846:0=0:=rfl
theorem tw6127594578889010139:0=0:=rfl
theorem tw17219337458794519322:0=0:=rfl
theorem tw2464713573024523455:0=0:=rfl
theorem tw6487610083215253720:0=0:=rfl
theorem tw3140898538269762758:0=0:=rfl
theorem tw453181688931711583:0=0:=rfl
theorem tw3217022616335106338:0=0:=rfl
theorem tw9378254376102152143:0=0:=rfl
theorem tw10936122117785486979:0=0:=rfl
theorem tw4796303294375832693:0=0:=rfl
theorem tw18371284783138465269:0=0:=rfl
theorem tw13359135706311490777:0=0:=rfl
theorem tw8237333600419904120:0=0:=rfl
theorem tw14632489290957082403:0=0:=rfl
theorem tw13326734554550294991:0=0:=rfl
theorem tw860223938195835975:0=0:=rfl
theorem tw16866024460163772082:0=0:=rfl
theorem tw14851680436948445374:0=0:=rfl
theorem tw6520327441239513222:0=0:=rfl
theorem tw8538268897159353584:0=0:=rfl
theorem tw1068965626710143233:0=0:=rfl
theorem tw1149218181149386328:0=0:=rfl
theorem tw4205137553216949640:0=0:=rfl
theorem tw7204493036743257322:0=0:=rfl
theorem tw8107780213005350392:0=0:=rfl
theorem tw7429413206186439793:0=0:=rfl
theorem tw1833847959688406909:0=0:=rfl
theorem tw9059672392935016618:0=0:=rfl
theorem tw9919435345466941130:0=0:=rfl
theorem tw14168018189251442112:0=0:=rfl
theorem tw5118827330378232414:0=0:=rfl
theorem tw13012589842206080548:0=0:=rfl
theorem tw3871027444623705763:0=0:=rfl
theorem tw370947364307004932:0=0:=rfl
theorem tw14390669486469195807:0=0:=rfl
theorem tw17046948494117081484:0=0:=rfl
theorem tw2417791160451022400:0=0:=rfl
theorem tw9233715247699887402:0=0:=rfl
theorem tw1697544655201012999:0=0:=rfl
theorem tw6746510453823603384:0=0:=rfl
theorem tw11430207588045935325:0=0:=rfl
theorem tw15058813355848621054:0=0:=rfl
theorem tw3669314199184481253:0=0:=rfl
theorem tw17582957951858275007:0=0:=rfl
theorem tw14861896470697024400:0=0:=rfl
theorem tw1617357707322924660:0=0:=rfl
theorem tw17342085116792181814:0=0:=rfl
theorem tw9685713192446186341:0=0:=rfl
theorem tw16439428074185983240:0=0:=rfl
theorem tw4526881389914513428:0=0:=rfl
theorem tw12094960947251128927:0=0:=rfl
theorem tw8598144960395782539:0=0:=rfl
theorem tw775762912060472103:0=0:=rfl
theorem tw11279390925490393535:0=0:=rfl
theorem tw12105128591322288922:0=0:=rfl
theorem tw1706793611546318481:0=0:=rfl
theorem tw15646934709686841381:0=0:=rfl
theorem tw11582926029173025856:0=0:=rfl
theorem tw2972514686349903234:0=0:=rfl
theorem tw5303079699428457377:0=0:=rfl
theorem tw5244899138074338376:0=0:=rfl
theorem tw2924597203103170677:0=0:=rfl
theorem tw6286779285267259847:0=0:=rfl
theorem tw15092371282622821202:0=0:=rfl
theorem tw10017263926548143515:0=0:=rfl
theorem tw4058662728301269685:0=0:=rfl
theorem tw16795567611416646642:0=0:=rfl
theorem tw2267912224990424062:0=0:=rfl
theorem tw2685012915969955173:0=0:=rfl
theorem tw7008692893051332821:0=0:=rfl
theorem tw9059832203979395877:0=0:=rfl
theorem tw17022078359063049780:0=0:=rfl
theorem tw3767615275625035234:0=0:=rfl
theorem tw6906291655842520137:0=0:=rfl
theorem tw8265311939077410998:0=0:=rfl
theorem tw9768079942903668216:0=0:=rfl
theorem tw14282377253939248939:0=0:=rfl
end Mine.top
namespace Mine
theorem final {prog : Program} {w : World} {K : Frag} {s₁ : Shared} {mg mb : Str → Option Value} {p : Program} {loose : List Str} {l : Addr} {xs : List Value} {script : List Int} {Q : Value → Shared → Prop} {E : Value → Shared → Prop}
    (Fk : Facts K) (X : K.In s₁.heap) (T : TopRead p loose mg mb s₁.heap) (hst : ∃ o, s₁.heap.get? 2 = some o) (hL : s₁.heap.IsList l (List.toArray xs)) (hI : IntsAre xs script) (hl : script.length ≤ 63)
    (q : ∀ s', (∀ b o, s₁.heap.get? b = some o → s'.heap.get? b = some o) → s'.os = s₁.os → s'.gens = s₁.gens → Q (.bool true) s') : wpAny (model prog w) callerA (call (.ref 534) [.ref l]) Q E s₁ := by
  let B : Bs := { prog := prog, w := w, K := K, h0 := s₁.heap, mg := mg, mb := mb, p := p, loose := loose, priv := fun _ => False }
  have ab : Abs B s₁.heap (fun _ => none) := ⟨fun _ _ h => (nomatch h), fun _ _ h => (nomatch h), fun _ _ h => h, fun _ _ h => (nomatch h), hst, fun _ h => h.elim⟩
  have H : UC B 8 (.ref 534) [.ref l] (fun _ => none) (fun v _ => v = .bool true) := law_spec (n := 0) (L := []) Fk hL hI ⟨List.nodup_nil, fun _ h => (nomatch h)⟩ hl (fun _ => rfl)
  refine Tr.out (H callerA s₁ [.ref l] ⟨X, T⟩ ⟨rfl, by decide, by decide +kernel⟩ ab ⟨_, _, rfl, rfl, rfl⟩) fun v H' s' a' st r => ?_
  obtain ⟨u, hu, e⟩ := r
  subst e
  have : v = .bool true := hu
  subst this
  exact q s' a'.keep st.os st.gens
end Mine
theorem Mine.top : PySem.Challenge.rw_pq0067_01.Holds := by
  (w_on; o_law; k_head; (case hw => w_witness2))
  intro w s₀ s₁ mg mb G Y fa o pm cd doc dV kV ho hd' hcd hD hmg hg args vals as hpre hlay hrd hwl hlo
  have KX := kIn_of Y
  refine Ground.open G ?_
  intro T B D TE TW
  try (refine guard_noD D (by decide +kernel) ?_; clear D)
  have hfa : mg (Str.ofString "law") = some (.ref 534) := mg_of KX T.g (by kernel_rfl)
  have e1 := hmg.symm.trans hfa
  cases e1
  wrow_args hpre hlay hrd hwl hlo
  rename_i hL _ _ _ hI _ hc _
  have FK : Mine.Facts (Mine.top.heap_1_39 w.params) := ⟨by intro C; cases C <;> exact ⟨by kernel_rfl, by kernel_rfl, by kernel_rfl, by kernel_rfl⟩, by kernel_rfl, by kernel_rfl, by kernel_rfl, (by repeat' first | (show bindArgs _ _ = _; kernel_rfl) | exact trivial | refine And.intro ?_ ?_ | intro _), by intro C; cases C <;> kernel_rfl, by intro C; cases C <;> kernel_rfl, by kernel_rfl, by kernel_rfl, by kernel_rfl, by kernel_rfl, by kernel_rfl⟩
  refine wpAny_mono (Mine.final FK KX (topRead_of T) (let ⟨_, ⟨o, _, _, h, _⟩, _⟩ := T.nodigits; ⟨o, h⟩) hL hI (by omega) (Q := fun v s' => v = .bool true ∧ (∀ b o, s₁.heap.get? b = some o → s'.heap.get? b = some o) ∧ s'.os = s₁.os ∧ s'.gens = s₁.gens) (E := fun _ _ => False) fun s' h1 h2 h3 => ⟨rfl, h1, h2, h3⟩) ?_ fun _ _ h => h.elim
  rintro v s' ⟨rfl, h1, h2, h3⟩
  exact GoodW.toG ⟨.inl ⟨_, .bool true, [], rfl, fun _ => rfl, .bool true, by wrow_post, fun _ => ⟨.nil, fun _ h => nomatch h⟩⟩, h1, h2, h3.trans hg⟩
theorem PySem.Challenge.cw_pq0067_01_holds : PySem.Challenge.rw_pq0067_01.Holds :=
  Mine.top
