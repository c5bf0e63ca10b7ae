import PyProof.Rows.All
import Wide.All
import OpenK.AllK
import Wide.FinOn
import KE.KTryDeep
import Wide.WTab
import PyProof.ExcBaseAll.Exception
import PyProof.ExcClass3
import PyProof.InstStoreFacts
import OpenK.KMake
import PyProof.InstStore
import PyProof.Rows.SeqMore
import KE.KBytesCut
import KE.KBytesWalk
import PyProof.CompFree
import PyProof.RangeFor
import PyProof.RangeIter
import PyProof.WalksMore
import KE.KIsBytes
import KE.BytesMake
import PyProof.ListStr
import KE.KDictAnyGet
import PyProof.EnumMake
import PyProof.EnumStmt
import Lean
import PySem.Challenge.RW_sa0473_01
set_option Elab.async false
set_option linter.unusedVariables false
set_option linter.unusedSimpArgs false
set_option linter.deprecated false
set_option maxRecDepth 1000000
set_option maxHeartbeats 8000000
set_option genInjectivity false
set_option genSizeOf false
set_option genSizeOfSpec false
set_option hygiene false
set_option compiler.extract_closed false
set_option bootstrap.genMatcherCode false
set_option tactic.hygienic false
namespace Mine
open _root_.Nat (add_comm le_add_left le_add_right le_of_ble_eq_true le_of_eq le_of_lt le_of_lt_succ le_of_succ_le le_refl le_succ le_succ_of_le le_trans le_zero lt_irrefl lt_of_succ_lt_succ lt_succ_of_le lt_succ_of_lt lt_succ_self lt_trans ne_of_gt ne_of_lt strongRecOn sub_le succ_le_succ succ_pos zero_le)
open _root_.Int (natCast_nonneg ofNat_le ofNat_lt toNat_natCast)
open _root_.List (all_cons all_eq_true any_cons append_assoc append_nil cons_append contains_cons drop_zero flatMap_cons flatten_cons foldl_cons getElem?_append_left getElem?_eq_getElem getElem?_map getElem?_of_mem getElem?_set_ne getElem?_set_self getElem?_toArray isEmpty_iff length_append length_cons length_nil length_replicate length_reverse length_take lookup_cons map_cons map_fst_zip mem_append mem_append_left mem_append_right mem_cons mem_filter mem_filterMap mem_flatMap mem_map mem_of_getElem? mem_range mem_singleton nil_append nil_prefix not_mem_nil of_mem_zip prefix_refl range' replicate reverse_cons size_toArray suffix_refl tail_cons takeWhile_cons take_of_length_le toArray zip_cons_cons)
open _root_.Bool (and_eq_true and_eq_true_iff false_eq_true not_eq_true' or_eq_false_iff or_eq_true)
open _root_.Option (bind_eq_some_iff bind_some elim_none elim_some map_eq_some_iff map_some)
section
open _root_.PySem _root_.PySem.W _root_.PyProof.Rows _root_.PySem.Calls
section
variable {A B C D F G H:Prop}{P:Prop}
theorem jj(h:A∧B∧C)(k:A→B→C→P):P:=k h.1 h.2.1 h.2.2
theorem kW(h:A∧B∧C∧D)(k:A→B→C→D→P):P:=k h.1 h.2.1 h.2.2.1 h.2.2.2
theorem wA(h:A∧B∧C∧D∧F)(k:A→B→C→D→F→P):P:=k h.1 h.2.1 h.2.2.1 h.2.2.2.1 h.2.2.2.2
theorem Ec(h:A∧B∧C∧D∧F∧G)(k:A→B→C→D→F→G→P):P:=k h.1 h.2.1 h.2.2.1 h.2.2.2.1 h.2.2.2.2.1 h.2.2.2.2.2
theorem zg(h:A∧B∧C∧D∧F∧G∧H)(k:A→B→C→D→F→G→H→P):P:=k h.1 h.2.1 h.2.2.1 h.2.2.2.1 h.2.2.2.2.1 h.2.2.2.2.2.1 h.2.2.2.2.2.2
end
section
universe u0
variable {α:Sort u0}
variable {A B C D F:α→Prop}{P:Prop}
theorem ak(h:∃x,A x∧B x)(k:∀x,A x→B x→P):P:=h.elim fun x h=>k x h.1 h.2
theorem eP(h:∃x,A x∧B x∧C x)(k:∀x,A x→B x→C x→P):P:=h.elim fun x h=>k x h.1 h.2.1 h.2.2
theorem GN(h:∃x,A x∧B x∧C x∧D x)(k:∀x,A x→B x→C x→D x→P):P:=h.elim fun x h=>k x h.1 h.2.1 h.2.2.1 h.2.2.2
theorem wC(h:∃x,A x∧B x∧C x∧D x∧F x)(k:∀x,A x→B x→C x→D x→F x→P):P:=h.elim fun x h=>k x h.1 h.2.1 h.2.2.1 h.2.2.2.1 h.2.2.2.2
end
section
universe u0 u1
variable {α:Sort u0}{β:Sort u1}
variable {A B C D F:α→β→Prop}{P:Prop}
theorem GO(h:∃x y,A x y)(k:∀x y,A x y→P):P:=h.elim fun x h=>h.elim fun y h=>k x y h
theorem dc(h:∃x y,A x y∧B x y)(k:∀x y,A x y→B x y→P):P:=h.elim fun x h=>h.elim fun y h=>k x y h.1 h.2
theorem bC(h:∃x y,A x y∧B x y∧C x y)(k:∀x y,A x y→B x y→C x y→P):P:=h.elim fun x h=>h.elim fun y h=>k x y h.1 h.2.1 h.2.2
theorem Bz(h:∃x y,A x y∧B x y∧C x y∧D x y)(k:∀x y,A x y→B x y→C x y→D x y→P):P:=h.elim fun x h=>h.elim fun y h=>k x y h.1 h.2.1 h.2.2.1 h.2.2.2
theorem IL(h:∃x y,A x y∧B x y∧C x y∧D x y∧F x y)(k:∀x y,A x y→B x y→C x y→D x y→F x y→P):P:=h.elim fun x h=>h.elim fun y h=>k x y h.1 h.2.1 h.2.2.1 h.2.2.2.1 h.2.2.2.2
end
section
universe u0 u1 u2
variable {α:Sort u0}{β:Sort u1}{γ:Sort u2}
variable {A B C D F G H I:α→β→γ→Prop}{P:Prop}
theorem BA(h:∃x y z,A x y z∧B x y z)(k:∀x y z,A x y z→B x y z→P):P:=h.elim fun x h=>h.elim fun y h=>h.elim fun z h=>k x y z h.1 h.2
theorem fh(h:∃x y z,A x y z∧B x y z∧C x y z)(k:∀x y z,A x y z→B x y z→C x y z→P):P:=h.elim fun x h=>h.elim fun y h=>h.elim fun z h=>k x y z h.1 h.2.1 h.2.2
theorem gR(h:∃x y z,A x y z∧B x y z∧C x y z∧D x y z)(k:∀x y z,A x y z→B x y z→C x y z→D x y z→P):P:=h.elim fun x h=>h.elim fun y h=>h.elim fun z h=>k x y z h.1 h.2.1 h.2.2.1 h.2.2.2
theorem BB(h:∃x y z,A x y z∧B x y z∧C x y z∧D x y z∧F x y z)(k:∀x y z,A x y z→B x y z→C x y z→D x y z→F x y z→P):P:=h.elim fun x h=>h.elim fun y h=>h.elim fun z h=>k x y z h.1 h.2.1 h.2.2.1 h.2.2.2.1 h.2.2.2.2
theorem GP(h:∃x y z,A x y z∧B x y z∧C x y z∧D x y z∧F x y z∧G x y z∧H x y z∧I x y z)(k:∀x y z,A x y z→B x y z→C x y z→D x y z→F x y z→G x y z→H x y z→I x y z→P):P:=h.elim fun x h=>h.elim fun y h=>h.elim fun z h=>k x y z h.1 h.2.1 h.2.2.1 h.2.2.2.1 h.2.2.2.2.1 h.2.2.2.2.2.1 h.2.2.2.2.2.2.1 h.2.2.2.2.2.2.2
end
section
universe u0 u1 u2 u3
variable {α:Sort u0}{β:Sort u1}{γ:Sort u2}{δ:Sort u3}
variable {A B C D F G H:α→β→γ→δ→Prop}{P:Prop}
theorem BC(h:∃x y z u,A x y z u∧B x y z u∧C x y z u∧D x y z u)(k:∀x y z u,A x y z u→B x y z u→C x y z u→D x y z u→P):P:=h.elim fun x h=>h.elim fun y h=>h.elim fun z h=>h.elim fun u h=>k x y z u h.1 h.2.1 h.2.2.1 h.2.2.2
theorem GQ(h:∃x y z u,A x y z u∧B x y z u∧C x y z u∧D x y z u∧F x y z u∧G x y z u∧H x y z u)(k:∀x y z u,A x y z u→B x y z u→C x y z u→D x y z u→F x y z u→G x y z u→H x y z u→P):P:=h.elim fun x h=>h.elim fun y h=>h.elim fun z h=>h.elim fun u h=>k x y z u h.1 h.2.1 h.2.2.1 h.2.2.2.1 h.2.2.2.2.1 h.2.2.2.2.2.1 h.2.2.2.2.2.2
end
section
universe u0 u1 u2 u3 u4
variable {α:Sort u0}{β:Sort u1}{γ:Sort u2}{δ:Sort u3}{ε:Sort u4}
variable {A:α→β→γ→δ→ε→Prop}{P:Prop}
theorem GR(h:∃x y z u v,A x y z u v)(k:∀x y z u v,A x y z u v→P):P:=h.elim fun x h=>h.elim fun y h=>h.elim fun z h=>h.elim fun u h=>h.elim fun v h=>k x y z u v h
end
section
universe u0 u1 u2 u3 u4 u5
variable {α:Sort u0}{β:Sort u1}{γ:Sort u2}{δ:Sort u3}{ε:Sort u4}{ζ:Sort u5}
variable {A B C D F G H I:α→β→γ→δ→ε→ζ→Prop}{P:Prop}
theorem Ed(h:∃x y z u v w,A x y z u v w∧B x y z u v w∧C x y z u v w∧D x y z u v w∧F x y z u v w∧G x y z u v w∧H x y z u v w∧I x y z u v w)(k:∀x y z u v w,A x y z u v w→B x y z u v w→C x y z u v w→D x y z u v w→F x y z u v w→G x y z u v w→H x y z u v w→I x y z u v w→P):P:=h.elim fun x h=>h.elim fun y h=>h.elim fun z h=>h.elim fun u h=>h.elim fun v h=>h.elim fun w h=>k x y z u v w h.1 h.2.1 h.2.2.1 h.2.2.2.1 h.2.2.2.2.1 h.2.2.2.2.2.1 h.2.2.2.2.2.2.1 h.2.2.2.2.2.2.2
end
section
universe u0 u1 u2 u3 u4 u5 u6
variable {α:Sort u0}{β:Sort u1}{γ:Sort u2}{δ:Sort u3}{ε:Sort u4}{ζ:Sort u5}{η:Sort u6}
variable {A B C D F:α→β→γ→δ→ε→ζ→η→Prop}{P:Prop}
theorem GS(h:∃x y z u v w s,A x y z u v w s∧B x y z u v w s∧C x y z u v w s∧D x y z u v w s∧F x y z u v w s)(k:∀x y z u v w s,A x y z u v w s→B x y z u v w s→C x y z u v w s→D x y z u v w s→F x y z u v w s→P):P:=h.elim fun x h=>h.elim fun y h=>h.elim fun z h=>h.elim fun u h=>h.elim fun v h=>h.elim fun w h=>h.elim fun s h=>k x y z u v w s h.1 h.2.1 h.2.2.1 h.2.2.2.1 h.2.2.2.2
end
theorem dI{n:Nat}{P:Prop}(h:n < 0):P:=absurd h (Nat.not_lt_zero n)
theorem bA{a b c:Nat}(h:a≤b)(k:Nat.ble b c=true):a≤c:=le_trans h (le_of_ble_eq_true k)
theorem iC{a b m c:Nat}(h:a+b≤m)(k:Nat.ble m c=true):a≤c:=bA (le_trans (le_add_right a b) h) k
theorem IM{a b m c:Nat}(h:a+b≤m)(k:Nat.ble m c=true):b≤c:=bA (le_trans (le_add_left b a) h) k
theorem Ee{a b m c:Nat}(h:a≤b)(i:b≤m)(k:Nat.ble m c=true):a≤c:=bA (le_trans h i) k
theorem GT{a n c:Nat}(h:a≤n)(k:Nat.ble (c+1) a=true):c < n:=le_trans (le_of_ble_eq_true k) h
theorem Ie{a b n:Nat}(h:n=a+(b+1)):a < n:=h ▸ Nat.lt_add_of_pos_right (succ_pos b)
theorem u7{a b m c:Nat}(h:a+(b+1)≤m)(k:Nat.ble m c=true):a+1+b≤c:=bA (Nat.add_right_comm a 1 b ▸ h:a+1+b≤m) k
theorem BD{a b c d e m:Nat}(h:1≤b)(k:a+c * b+d < m)(i:Nat.ble e c=true):a+e+c * (b - 1)+d < m:=by
 refine Nat.lt_of_le_of_lt ?_ k
 refine Nat.add_le_add_right ?_ d
 rw[Nat.add_assoc]
 refine Nat.add_le_add_left ?_ a
 obtain⟨x,rfl⟩:∃x,b=x+1:=⟨b - 1,(Nat.sub_add_cancel h).symm⟩
 rw[Nat.add_sub_cancel,Nat.mul_add,Nat.mul_one,add_comm]
 exact Nat.add_le_add_left (le_of_ble_eq_true i) _
theorem GU{a b c d e m:Nat}(k:a+c * b+d < m)(i:Nat.ble e d=true):a+e < m:=Nat.lt_of_le_of_lt (Nat.add_le_add (le_add_right a _) (le_of_ble_eq_true i)) k
theorem GV{a b c:Nat}(h:a < b)(k:Nat.ble b c=true):a < c:=Nat.lt_of_lt_of_le h (le_of_ble_eq_true k)
theorem IN{a b c n:Nat}(h:a≤b)(j:c≤n)(k:Nat.ble (b+1) c=true):a < n:=Nat.lt_of_le_of_lt h (GT j k)
theorem Ig{a b c:Nat}(h:a+b=c):a≤c:=h ▸ le_add_right a b
theorem GW{a b c:Nat}(h:a+b=c):b≤c:=h ▸ le_add_left b a
theorem IP{a c:Nat}(k:Nat.ble a c=true):(a:Int)≤(c:Int):=ofNat_le.mpr (le_of_ble_eq_true k)
theorem IQ{a c:Nat}(h:¬a≤c):(c:Int) < (a:Int):=ofNat_lt.mpr (Nat.lt_of_not_le h)
theorem GC{a b n:Nat}(h:n=a+(b+1)):(a:Int) < (n:Int):=ofNat_lt.mpr (Ie h)
theorem Ih{a b c:Nat}(h:a≤b)(k:Nat.ble b c=true):¬(c:Int) < (a:Int):=fun q=>Nat.not_lt.mpr (bA h k) (ofNat_lt.mp q)
theorem IR{a b c:Nat}(h:a < b)(k:Nat.ble b (c+1)=true):a≤c:=le_of_lt_succ (Nat.lt_of_lt_of_le h (le_of_ble_eq_true k))
theorem Ef{a b c:Nat}(h:¬a≤b)(k:Nat.ble c b=true):c < a:=Nat.lt_of_le_of_lt (le_of_ble_eq_true k) (Nat.lt_of_not_le h)
theorem IS{a b n:Nat}(h:a≤b)(i:n=b):a≤n:=i ▸ h
theorem GX{a b k c:Nat}(h:b≤k)(i:a=b)(j:Nat.ble k c=true):a≤c:=i ▸ bA h j
theorem GY{a b k c:Nat}(h:b≤k)(i:b=a)(j:Nat.ble k c=true):a≤c:=i ▸ bA h j
theorem zh{a b:Nat}(h:a < b):(a:Int) < (b:Int):=ofNat_lt.mpr h
theorem GD{a b c:Nat}(h:a≤b):a - c≤b:=le_trans (sub_le a c) h
theorem IT{a b c k:Nat}(h:a≤b)(i:Nat.ble b k=true):a - c≤k:=le_trans (sub_le a c) (bA h i)
theorem ra2{a b c d e m:Nat}(h:1≤b)(k:a+c * b+d < m)(i:Nat.ble e c=true):a+e+c * (b - 1)+d < m:=BD h k i
theorem GE{a b c m:Nat}(k:a+c * b+d < m):a < m:=Nat.lt_of_le_of_lt (le_trans (le_add_right a _) (le_add_right _ d)) k
theorem Ii{a b n:Nat}(h:a≤b - 1)(i:b≤n):a≤n:=le_trans (le_trans h (sub_le b 1)) i
theorem IU{a b c:Nat}(h:a=b)(i:b < c):a < c:=h ▸ i
noncomputable def bQ:Code→Bool
 | .builtin id ⟨_::_,_⟩=>!(Builtin.Bytes.decodersThatHold.contains id)
 |_=>true
noncomputable def iD(Γ:Ctx):Prop:=bQ Γ.code=true∧∀c∈Γ.below,bQ c.1=true
theorem iD.enter{Γ:Ctx}(h:iD Γ){c:Code}(hd:Option Value)(p:Pos)(hc:bQ c=true):iD (Γ.enter c hd p):=
 ⟨hc,fun x hx=>(mem_cons.mp hx).elim (fun e=>e ▸ h.1) (h.2 x)⟩
theorem iD.goto{Γ:Ctx}(h:iD Γ){c:Code}(hc:bQ c=true):iD (Γ.goto c):=⟨hc,h.2⟩
noncomputable def aJ{α:Type}(M:Model)(A:Around)(t:Sem α)(Q:α→Shared→Prop)(E:Value→Shared→Prop)(s:Shared):Prop:=
 ∀Γ p,Γ.In A→iD Γ→Sem.wp M Γ t (fun a z s'=>Q a s') (fun e z s'=>E e s') p s
noncomputable def bf(M:Model)(A:Around)(c:Code)(R:Result→Shared→Prop)(s:Shared):Prop:=
 ∀Γ p,Γ.code=c→Γ.Below A→iD Γ→wpCode M Γ R p s
section
variable {α β:Type}{M:Model}{A:Around}{E:Value→Shared→Prop}{s:Shared}
theorem aB{t:Sem α}{Q:α→Shared→Prop}(h:wpAny M A t Q E s):aJ M A t Q E s:=fun Γ p hΓ z=>h Γ p hΓ
theorem kX{c:Code}{R:Result→Shared→Prop}(h:codeAny M A c R s):bf M A c R s:=fun Γ p hc hΓ z=>h Γ p hc hΓ
theorem av{t:Sem α}{Q Q':α→Shared→Prop}{E':Value→Shared→Prop}(h:aJ M A t Q E s)(hQ:∀a s,Q a s→Q' a s)(hE:∀e s,E e s→E' e s):aJ M A t Q' E' s:=
 fun Γ p hΓ hc=>Sem.wp_mono M Γ t (fun a z s=>hQ a s) (fun e z s=>hE e s) p s (h Γ p hΓ hc)
theorem ae{m:Sem α}{f:α→Sem β}{Q:β→Shared→Prop}(h:aJ M A m (fun a s'=>aJ M A (f a) Q E s') E s):aJ M A (m>>=f) Q E s:=fun Γ p hΓ hc=>by
 rw[Sem.wp_bind']
 exact Sem.wp_mono M Γ m (fun a p' s' h'=>h' Γ p' hΓ hc) (fun z z z h'=>h') p s (h Γ p hΓ hc)
theorem aq{m:Sem α}{f:α→Sem β}{Q:β→Shared→Prop}(h:wpAny M A m (fun a s'=>aJ M A (f a) Q E s') E s):aJ M A (m>>=f) Q E s:=ae (aB h)
theorem au{a:α}{Q:α→Shared→Prop}(h:Q a s):aJ M A (pure a) Q E s:=aB (wpAny_pure h)
theorem a8{vs:List Value}{m:Sem α}{Q:α→Shared→Prop}(h:aJ M A m Q E s):aJ M A (holding vs m) Q E s:=
 fun Γ p hΓ hc=>by rw[Sem.wp_holding];exact h Γ p hΓ hc
theorem bE{m:Sem α}{k:Value→Sem Unit}{Q:α→Shared→Prop}
  (h:aJ M A m Q (fun e s'=>aJ M A (k e) (fun z s''=>E e s'') E s') s):aJ M A (m.onRaise k) Q E s:=fun Γ p hΓ hc=>by
 rw[Sem.wp_onRaise]
 exact Sem.wp_mono M Γ m (fun z z z h'=>h') (fun e p' s' h'=>h' Γ p' hΓ hc) p s (h Γ p hΓ hc)
theorem jW{m:Sem α}{Q:Except Value α→Shared→Prop}(h:aJ M A m (fun a=>Q (.ok a)) (fun e=>Q (.error e)) s):
  aJ M A m.attempt Q E s:=fun Γ p hΓ hc=>by rw[Sem.wp_attempt];exact h Γ p hΓ hc
theorem aF{p:Pos}{m:Sem α}{Q:α→Shared→Prop}(h:aJ M A m Q E s):aJ M A (standAt p>>=fun z=>m) Q E s:=aq (wpAny_standAt h)
theorem hW{c:Code}{R R':Result→Shared→Prop}(h:bf M A c R s)(hR:∀r s,R r s→R' r s):bf M A c R' s:=
 fun Γ p hc hΓ hcl=>wpCode_mono hR (h Γ p hc hΓ hcl)
theorem kH{c:Code}{h:Option Value}{Q:Flow→Shared→Prop}
  (hc:bf M (A.mark h) c (fun r s'=>match r with | .ok f=>Q f s'| .error e=>E e s') s) (hcl:bQ c=true) (hnb:h≠some byPass:=by intro x;cases x):
  aJ M A (run c h) Q E s:=
 fun Γ p hΓ hg=>by rw[Sem.wp_run];exact hc _ p rfl (hΓ.enter c h p hnb) (hg.enter h p hcl)
theorem nH{c:Code}{Q:Value→Shared→Prop}
  (hc:bf M A c (fun r s'=>match r with | .ok (.ret v)=>Q v s'| .ok _=>False| .error e=>E e s') s) (hcl:bQ c=true):
  aJ M A (runValue c) Q E s:=fun Γ p hΓ hg=>by rw[Sem.wp_runValue];exact hc _ p rfl (hΓ.enter c none p (by intro x;cases x)) (hg.enter none p hcl)
theorem bJ{f:Value}{pos:List Value}{kw:List (Str×Value)}{Q:Value→Shared→Prop}
  (hc:bf M A (.call f ⟨pos,kw⟩) (fun r s'=>match r with | .ok (.ret v)=>Q v s'| .ok _=>False| .error e=>E e s') s):
  aJ M A (call f pos kw) Q E s:=nH hc rfl
theorem am{c:Code}{R:Result→Shared→Prop}
  (h:aJ M (A.under c) (M.den c) (fun fin s'=>match fin with | .done f=>R (.ok f) s'| .again c'=>c'.quiet=true∧bQ c'=true∧bf M A c' R s')
   (fun e s'=>R (.error e) s') s):bf M A c R s:=fun Γ p hc hΓ hg=>by
 rw[wpCode_iff_wp,hc]
 refine Sem.wp_mono M Γ _ (fun fin p' s' h'=>?_) (fun z z z h'=>h') p s (h Γ p (hc ▸ hΓ.in) hg)
 cases fin with
 |done f=>exact h'
 |again c'=>exact⟨h'.1,h'.2.2 (Γ.goto c') p' rfl (hΓ.goto c') (hg.goto h'.2.1)⟩
theorem rx{c:Code}{R:Result→Shared→Prop}(hq:c.quiet=true)(hcl:bQ c=true)(I:Nat→Shared→Prop)
  (turn:∀n s,I n s→aJ M (A.under c) (M.den c)
   (fun fin s'=>match fin with | .done f=>R (.ok f) s'| .again c'=>c'=c∧∃m,m < n∧I m s') (fun e s'=>R (.error e) s') s)
  (n:Nat) (h:I n s):bf M A c R s:=by
 induction n using strongRecOn generalizing s with
 |ind n ih=>
  refine am (av (turn n s h) (fun fin s' hf=>?_) fun z z h'=>h')
  cases fin with
  |done f=>exact hf
  |again c'=>obtain⟨rfl,m,hm,hI⟩:=hf;exact⟨hq,hcl,ih m hm hI⟩
theorem u8{Q:List (Code×Pos)→Shared→Prop}
  (h:∀st:List (Code×Pos),(∀c∈st,bQ c.1=true)→(∀g,A.guards=some g→guardsOf st=g)→Q st s):aJ M A stack Q E s:=fun Γ p hΓ hc=>by
 show Q ((Γ.code,p)::Γ.below) s
 exact h _ (fun c hm=>(mem_cons.mp hm).elim (fun e=>e ▸ hc.1) (hc.2 c)) (fun g hg=>by rw[guardsOf_cons];exact hΓ.2.2.2.1 g hg)
end
theorem nI:iD (⟨.builtin "claim.caller" {},none,none,[],none⟩:Ctx):=⟨rfl,fun z h=>nomatch h⟩
theorem zi{α β γ δ ε:Type}{A:α→β→Prop}{B C D K L M:α→β→γ→δ→ε→Prop}(a b)(h:A a b)(c d e)(h1:B a b c d e)(h2:C a b c d e)(h3:D a b c d e)(h4:K a b c d e)(h5:L a b c d e)(h6:M a b c d e):
  ∃a b,A a b∧∃c d e,B a b c d e∧C a b c d e∧D a b c d e∧K a b c d e∧L a b c d e∧M a b c d e:=⟨a,b,h,c,d,e,h1,h2,h3,h4,h5,h6⟩
theorem BE{α β:Type}{A B:α→Prop}{C D E F G:α→β→Prop}(a)(h1:A a)(h2:B a)(b)(h3:C a b)(h4:D a b)(h5:E a b)(h6:F a b)(h7:G a b):∃a,A a∧B a∧∃b,C a b∧D a b∧E a b∧F a b∧G a b:=⟨a,h1,h2,b,h3,h4,h5,h6,h7⟩
theorem zj{α β:Type}{o:Option (α×β)}{P:Prop}(h:o.isSome=true)(k:∀a b,o=some (a,b)→P):P:=(Option.isSome_iff_exists.mp h).elim fun p=>k p.1 p.2
theorem GZ{A B P:Prop}(h:A∧B)(k:A→B→P):P:=k h.1 h.2
theorem u9{c:ClaimW}{tree:List Value→Sem Fin}{w:World}{s:Shared}{free:Addr→Prop}{gens:Prop}{kept:Heap→Prop}(hz:s.asleep)(hgens:s.gens=#[])
  (hspec:∀args,c.pre args=true→WData.layableAll args=true→
   ∀ord:List DictEntry→List DictEntry,(∀l,(ord l).Perm l)→
   ∃vs s₁,layAllW c.records (classAt s.heap) w.params ord args s=some (vs,s₁)∧
    aJ (model c.prog w) callerA (tree vs) (fun fin s'=>∃f,fin=.done f∧(c.Ends s args vs s₁ (.ok f) s'∧s'.os=s.os∧AllBare s'.gens∧kept s'.heap))
     (fun e s'=>c.Ends s args vs s₁ (.error e) s'∧s'.os=s.os∧AllBare s'.gens∧kept s'.heap) s₁):
  c.CallFrom (fun vs=>⟨tree vs,.builtin "claim.caller" {},default,[]⟩) w free gens kept s:=by
 intro args hpre hlay ord hord
 refine dc (hspec args hpre hlay ord hord) fun vs s₁ hlaid hcode=>?_
 have hal:=layAllW_rest _ _ _ hlaid
 have hwp:Sem.wp (model c.prog w) ⟨.builtin "claim.caller" {},none,none,[],none⟩ (tree vs)
   (Sem.finPost (model c.prog w) ⟨.builtin "claim.caller" {},none,none,[],none⟩ fun r s'=>(c.Ends s args vs s₁ r s'∧s'.os=s.os∧kept s'.heap)∧leftWithCleanup s'.gens=false)
   (fun e z s'=>(c.Ends s args vs s₁ (.error e) s'∧s'.os=s.os∧kept s'.heap)∧leftWithCleanup s'.gens=false) default s₁:=by
  refine Sem.wp_mono _ _ _ (fun fin p' s' h'=>?_) (fun e p' s' h'=>?_) _ _ (hcode _ default caller_in nI)
  ·refine wC h' fun f q91 h1 h2 h3 h4=>?_;obtain rfl:=q91
   exact⟨⟨h1,h2,h4⟩,leftWithCleanup_false_of_bare h3⟩
  ·refine kW h' fun h1 h2 h3 h4=>?_
   exact⟨⟨h1,h2,h4⟩,leftWithCleanup_false_of_bare h3⟩
 refine BC (wp_halts_full (M:=model c.prog w) (R:=fun r s'=>c.Ends s args vs s₁ r s'∧s'.os=s.os∧kept s'.heap) (Shared.asleep_of_life hal.2.2.2 hz) hwp) fun k r s'' s' hsched hrun hfo hR=>?_
 refine jj hR fun hcase hos hkp=>?_
 refine wA (Shared.forget_eq hfo) fun eh z z eo z=>?_
 exact zi vs s₁ hlaid k _ s' hsched ((hcase.congr eh).imp (fun x=>x.imp fun v=>And.imp (congrArg outcomeOf) (And.imp_right (And.imp_right (And.imp_right (And.imp_left fun d b o y z=>d b o y)))))
  fun x=>x.imp fun e=>Exists.imp fun ob=>Exists.imp fun cls=>And.imp (congrArg outcomeOf) (And.imp_right (And.imp_right (And.imp_right (And.imp_right fun d b o y z=>d b o y)))))
  (fun z i x hx=>by rw[hgens] at hx;simp at hx) (eh ▸ hkp) (congrArg Life.seen ((runN_life _ _ _ hrun).trans hal.2.2.2)) (Shared.rest_eq (eo ▸ hos))
noncomputable abbrev AU(q:Program)(loose:List Str)(XP:(Str→Option Value)→Heap→Prop)(YP:World→Heap→Prop)(r:RowW)(d:DefRec)(kwd:List (Str×Expr))(run:Value→List Value→Sem Value):Prop:=
 ∀(w:World) (s₀ s₁:Shared) (mg mb:Str→Option Value),Ground q loose r.records XP w s₀ mg mb s₁.heap→YP w s₁.heap→∀(a:Addr) (o:Obj) (pm cd doc dV kV:Value),s₁.heap.get? a=some o→
  o.data=.func { docDef d.name d.params d.body d.scope pm cd doc with defaults:=dV,kwdefaults:=kV }→s₁.heap.CodeRec cd d.name→Dflts mg s₁.heap d.params kwd dV kV→mg d.name=some (.ref a)→s₁.gens=#[]→
  ∀(args:List WData) (vals:List Value) (as:List Addr),r.claim.pre args=true→WData.layableAll args=true→ReadsAllW r.records (classAt s₀.heap) s₁.heap vals args as→WellAll w.params s₁.heap vals args→(∀a∈as,(a==sysModules)=false)→
   aJ (model r.prog w) callerA (run (.ref a) vals) (fun v s'=>GoodWG r.claim (classAt s₀.heap) (ExcName.means s₀.heap) args s₁ (.ok (.ret v)) s')
    (fun e s'=>GoodWG r.claim (classAt s₀.heap) (ExcName.means s₀.heap) args s₁ (.error e) s') s₁
namespace PySem.W
theorem holds_open{r:OpenRow}{q:Program}{loose:List Str}{Xt:Shared→Bool}{XP:(Str→Option Value)→Heap→Prop}{α:Type}{Yf:Shared→α}{Ya:World→α}{YP:World→Heap→Prop}{d:DefRec}{kwd:List (Str×Expr)}{N:Nat}
  (left:LeftO r.prog q loose Xt Yf Ya N) (hY:∀w s,Yf s=Ya w→YP w s.heap) (hYk:∀w h h',YP w h→(∀b o,h.get? b=some o→h'.get? b=some o)→YP w h')
  (hX:∀s,Xt s=true→XP (s.heap.nsMap mainGlobals) s.heap) (hXk:∀mg h h',XP mg h→(∀b o,h.get? b=some o→h'.get? b=some o)→XP mg h')
  (hdef:defOf q r.name=some (d,kwd)) (hp:r.prog.theDef r.name=some (d.params,d.body,d.scope)) (hk:kwWritten? d.params.kwonlyargs d.params.kw_defaults=some kwd) (hRf:∀s,Xt s=true→RecFacts r.records s.heap) (hwr:(!r.writes||r.records.isEmpty)=true)
  (k1:r.wellSaid=true) (ok:(chainsOk q&&opensWell r.prog&&(frees r.toRowW&&r.within.isEmpty))=true) (hb:r.prog.bare) (hw:r.toRowW.promised)
  (call:AU q loose XP YP r.toRowW d kwd fun f vs=>PySem.call f vs):r.Holds:=by
 refine⟨k1,hw,?_⟩
 obtain⟨ok,k5⟩:=and_eq_true_iff.mp ok
 obtain⟨hch,o1⟩:=and_eq_true_iff.mp ok
 obtain⟨k5,k6⟩:=and_eq_true_iff.mp k5
 refine wA (frees_parts k5) fun hsame hu ha hap hm=>?_
 refine⟨⟨hb,o1,by show r.toRowW.makers.map _=[];rw[hm];rfl⟩,hw.witness,fun w=>⟨(left.behind hX hch w).1,fun s' hs'=>?_⟩⟩
 refine eP ((left.behind (XP:=fun mg h=>XP mg h∧RecFacts r.records h) (fun s hs=>⟨hX s hs,hRf s hs⟩) hch w).2 s' hs') fun s₀ hf hg0 Z=>wC Z fun s hT hz hgens hg Gy=>GZ Gy fun G00 y=>?_
 have G0:Ground q loose [] XP w s (s.heap.nsMap mainGlobals) (s.heap.nsMap builtinsNs) s.heap:=⟨G00.T,G00.B,G00.D,G00.TE,G00.TD,G00.W,G00.X.1,G00.cls,G00.has,G00.apart,G00.once,G00.K⟩
 have RF:=G00.X.2
 have hT':=hT
 refine BE s₀ hf hg0 s hT (fun n hn=>?_) RF.1 RF.2.1 ?_
 ·obtain rfl:n=r.name:=by split at hn<;>simp_all
  exact pinned_of_view hg G0 hdef hp hk
 have hgens:s.gens=#[]:=Array.eq_empty_of_size_eq_zero (beq_iff_eq.mp hgens)
 have G:Ground q loose r.records XP w s _ _ s.heap:=RF.ground G0
 refine u9 (c:=r.toRowW.claim) hz hgens fun args hpre hlay ord hord=>?_
 refine zj (layAllW_isSome (P:=w.params) (ord:=ord) G.has args r.args s (pre_splitW hpre).1) fun vs s₁ hlaid=>?_
 have keeps:=layAllW_keeps _ _ _ hlaid
 have hal:=layAllW_rest _ _ _ hlaid
 refine eP (reads_layAllW hord _ _ _ hlaid hlay s₁.heap (fun x x e=>e)) fun as hrd hin hold=>?_
 have L:Laid r.records w s s₁ args vs as:=⟨⟨ord,hord,hlaid⟩,hrd,hin,hold,keeps,hal.1.trans hgens,hal.2.2.1⟩
 have G₁:=G.keeps hXk keeps
 have Y₁:=hYk _ _ _ (hY w s y) keeps
 refine GS (G₁.fn hdef) fun a o pm cd doc dV kV h1 h2 h3 h4 h5=>?_
 have h:=call w s s₁ _ _ G₁ Y₁ a o pm cd doc dV kV h2 h3 h4 h5 (defOf_name hdef ▸ h1) L.gens args vs as hpre hlay L.reads L.well (L.low G.low)
 have hi:=ident_freeW hu ha hap
 have hwi:r.toRowW.claim.within=[]:=isEmpty_iff.mp k6
 refine⟨vs,s₁,hlaid,?_⟩
 refine aq (wpAny_nsGet G₁.T.g ?_)
 rw[h1]
 refine ae (av h (fun v s' g=>au ⟨_,rfl,?_⟩) fun e s' g=>?_)
 ·have z:=g.laid (c:=r.toRowW.claim) hsame hwi hi L
  exact⟨z.1,z.2.1,z.2.2,fun q=>⟨namesKept_of hT' hg r.keeps keeps g.2.1.old,noTable hwr q⟩⟩
 ·have z:=g.laid (c:=r.toRowW.claim) hsame hwi hi L
  exact⟨z.1,z.2.1,z.2.2,fun q=>⟨namesKept_of hT' hg r.keeps keeps g.2.1.old,noTable hwr q⟩⟩
end PySem.W
noncomputable abbrev pw:Program:=PySem.Challenge.pw_sa0473_01
noncomputable def nJ{β:Type}(t:BT):(BT→β)→β:=@BT.rec (fun z=>(BT→β)→β) (fun k=>k .nil) (fun v z z il ir k=>il fun l=>ir fun r=>k (.node v l r)) t
theorem vc{β:Type}(t:BT):∀k:BT→β,nJ t k=k t:=by
 induction t with
 |nil=>intro k;rfl
 |node v l r il ir=>
  intro k
  show nJ l (fun l=>nJ r fun r=>k (.node v l r))=_
  rw[il,ir]
noncomputable def kY{α β:Type}(l:List α):(List α→β)→β:=@List.rec α (fun z=>(List α→β)→β) (fun k=>k []) (fun a z ih k=>ih fun t=>k (a::t)) l
theorem jk{α β:Type}(l:List α):∀k:List α→β,kY l k=k l:=by
 induction l with
 |nil=>intro k;rfl
 |cons a l ih=>intro k;exact ih fun t=>k (a::t)
noncomputable def Eg(ok th:Thread→Bool)(st:SharedT→Thread→Option (SharedT×Thread)):Nat→SharedT→Thread→Option (SharedT×Thread×Bool)
 |0,s,t=>some (s,t,false)
 |n+1,s,t=>match th t with
  |true=>some (s,t,true)
  |false=>match ok t with
   |false=>none
   |true=>match st s t with
    |some (s',t')=>Eg ok th st n s' t'
    |none=>none
noncomputable def wD(ok th:Thread→Bool)(st:SharedT→Thread→Option (SharedT×Thread))(c:Nat):Nat→SharedT→Thread→Option SharedT
 |0,_,_=>none
 |m+1,s,t=>match Eg ok th st c s t with
  |none=>none
  |some (s',_,true)=>some s'
  |some (s',t',false)=>nJ s'.tree fun T=>wD ok th st c m ⟨T,s'.n,s'.life,s'.gens,s'.drawn,s'.toks,s'.os⟩ t'
section
variable {tb:String→Option Builtin}{p:Program}{w:World}{n₀:Nat}{ann:Option Value}
theorem wE:∀{n:Nat} {s s':SharedT} {t t':Thread} {b:Bool},Eg (stepOk n₀ ann) through (stepT (denote tb) p w) n s t=some (s',t',b)→
  ∀m r,(if b then some s'.abs else topRun tb p w n₀ ann m s'.abs t')=r→topRun tb p w n₀ ann (n+m) s.abs t=r
 |0,s,s',t,t',b,h,m,r,hr=>by
  cases h
  rw[Nat.zero_add];exact hr
 |n+1,s,s',t,t',b,h,m,r,hr=>by
  rw[show n+1+m=n+m+1 by omega]
  unfold Eg at h
  unfold topRun
  cases ht:through t with
  |true=>rw[ht] at h;cases h;exact hr
  |false=>
   rw[ht] at h
   cases hk:stepOk n₀ ann t with
   |false=>rw[hk] at h;cases h
   |true=>
    rw[hk] at h
    cases hs:stepT (denote tb) p w s t with
    |none=>rw[hs] at h;cases h
    |some r=>obtain⟨s₂,t₂⟩:=r;rw[hs] at h;dsimp only;rw[stepT_spec hs];exact wE h m _ hr
theorem tF{c:Nat}:∀{m:Nat} {s s':SharedT} {t:Thread},wD (stepOk n₀ ann) through (stepT (denote tb) p w) c m s t=some s'→topRun tb p w n₀ ann (c * m) s.abs t=some s'.abs
 |0,s,s',t,h=>by cases h
 |m+1,s,s',t,h=>by
  unfold wD at h
  rw[Nat.mul_succ,add_comm]
  cases hg:Eg (stepOk n₀ ann) through (stepT (denote tb) p w) c s t with
  |none=>rw[hg] at h;cases h
  |some r=>
   obtain⟨s₂,t₂,b⟩:=r
   rw[hg] at h
   refine wE hg (c * m) _ ?_
   cases b with
   |true=>cases h;rfl
   |false=>
    dsimp only at h
    rw[vc] at h
    exact tF h
end
noncomputable def BF(l:List Obj):BT:=(l.zipIdx.foldl (fun t x=>t.ins x.2 x.1) .nil)
noncomputable def s0(w:World)(os:OsState):SharedT:=⟨BF (boot_heap w.params).objs.toList,11,(boot_heap w.params).life,Array.mk [],boot_drawn,boot_toks,os⟩
theorem BG(w:World)(os:OsState):(s0 w os).abs=⟨boot_heap w.params,Array.mk [],boot_drawn,boot_toks,os⟩:=by kernel_rfl
noncomputable def fin(w:World)(os:OsState):Option SharedT:=wD (stepOk 11 ((boot_heap w.params).nsMap mainGlobals "__annotations__")) through (stepT (denote treeTable) pw w) 64 100 (s0 w os) (topStub pw)
noncomputable def Eh(w:World)(os:OsState):Option SharedT:=wD (PySem.W.Fast.tw6613529449190102663 11 (PySem.W.Fast.tw8920871248978507458 (boot_heap w.params) mainGlobals "__annotations__")) through (PySem.W.Fast.tw10156331382660048174 (PySem.W.Fast.tw11892475500146522536 PySem.W.Fast.tw14364793385576792824) pw w) 64 100 (s0 w os) (topStub pw)
theorem AV(w:World)(os:OsState):fin w os=Eh w os:=by
 unfold fin Eh
 rw[PySem.W.Fast.te6613529449190102663,PySem.W.Fast.te14364793385576792824,PySem.W.Fast.te10156331382660048174,PySem.W.Fast.te11892475500146522536,PySem.W.Fast.te8920871248978507458]
noncomputable def D0{β:Type}(s:SharedT)(f:Shared→β):β:=kY (s.tree.list s.n) fun l=>f ⟨⟨⟨l⟩,s.life⟩,s.gens,s.drawn,s.toks,s.os⟩
theorem wF{β:Type}(s:SharedT)(f:Shared→β):D0 s f=f s.abs:=jk _ _
noncomputable def kept:List Nat:=[0]++range' 2 6++range' 9 12++range' 22 44++range' 67 6
noncomputable def q:Program:={ pw with main:={ pw.main with body:=kept.filterMap (pw.main.body[·]?) } }
noncomputable def loose:List Str:=["is_blank_values","RESERVED","OTHER_TEXTS","is_blank_lexer","_law_pieces"]
theorem G2(w:World)(os:OsState):(fin w os).map (fun s=>D0 s fun s=>openSeen q loose (importedModules pw.main.body) (fun z=>true) true s)=some (openGood q loose):=by
 rw[AV,PySem.W.Fast.te4187177175401517315];kernel_rfl
theorem zk:opening pw=plainProg pw.main.scope.names:=by kernel_rfl
theorem zl(s:Shared):fenceModules? pw s=some s:=by kernel_rfl
theorem vd(P:Params):((boot_heap P).isNs mainGlobals&&(Array.mk []:Array GenState).size==0,(boot_heap P).objs.size)=(true,11):=by kernel_rfl
theorem zm(w:World)(os:OsState)(s:SharedT)(h:fin w os=some s):topRun treeTable pw w 11 ((boot_heap w.params).nsMap mainGlobals "__annotations__") 6400 ⟨boot_heap w.params,Array.mk [],boot_drawn,boot_toks,os⟩ (topStub pw)=some s.abs:=BG w os ▸ tF (c:=64) (m:=100) h
theorem G3:PySem.Challenge.rw_sa0473_01.wellSaid=true:=by
 rw[PySem.W.Fast.te9446332074065402090];kernel_rfl
theorem wG:(defOf q "law").isSome=true:=by kernel_rfl
noncomputable def mv:DefRec×List (Str×Expr):=(defOf q "law").get wG
theorem zn:defOf q PySem.Challenge.rw_sa0473_01.row.name=some (mv.1,mv.2):=by kernel_rfl
theorem zo:PySem.Challenge.rw_sa0473_01.row.prog.theDef PySem.Challenge.rw_sa0473_01.row.name=some (mv.1.params,mv.1.body,mv.1.scope):=by kernel_rfl
theorem BH:kwWritten? mv.1.params.kwonlyargs mv.1.params.kw_defaults=some mv.2:=by kernel_rfl
theorem BI:(chainsOk q&&opensWell PySem.Challenge.rw_sa0473_01.row.prog&&(frees PySem.Challenge.rw_sa0473_01.row.toRowW&&PySem.Challenge.rw_sa0473_01.row.within.isEmpty))=true:=by kernel_rfl
theorem zq:PySem.Challenge.rw_sa0473_01.row.promised:=by w_witness2
structure kZ(K:Frag)(C f:Addr)(bm:List Value):Prop where
 at_:∀P:Prop,(∀nm q N bs sn sub ab col dd k0 k1 k2 k3 k5,K.lookup C=some (excClassObj nm q C N bs bm true sn sub ab col dd k0 k1 k2 k3 k5 "Exception.__new__")→P)→P
 hasB:bm.contains (.type "Exception")=true
 hasBase:bm.contains (.type "BaseException")=true
 hasO:bm.contains (.type "object")=true
 noAttr:bm.contains (.type "AttributeError")=false
 noName:bm.contains (.type "NameError")=false
 init:findIn K (.ref C) "__init__"=some (some (.ref f))
 initF:typeIn K (.ref f)=some (.type "function")
 store:findIn K (.ref C) "__setattr__"=some (some (.builtin "object.__setattr__"))
 over:∀self:Value,refuseLoop self "__setattr__" (.ref C::bm)=pure ()
 keep:keepIn K (.ref C)=true
noncomputable abbrev di(C t:Addr):Obj:={ cls:=.ref C,data:=.fields #[.ref t,.none,.none,.none,.bool false,.none] }
noncomputable abbrev dJ(l:List Value):Obj:={ cls:=.type "tuple",data:=.seq l.toArray }
section
variable {prog:Program}{w:World}{A:Around}{E:Value→Shared→Prop}{h:Heap}{g:Array GenState}{d:Drawn}{t:Nat}{os:OsState}{K:Frag}{C f:Addr}{bm:List Value}
theorem o6(xo:kZ K C f bm)(X:K.In h){rest:List Value}{Q:Unit→Shared→Prop}(hq:Q () ⟨h,g,d,t,os⟩):
  wpAny (model prog w) A (checkBuiltinCall "Exception.__new__" ⟨.ref C::rest,[]⟩) Q E ⟨h,g,d,t,os⟩:=by
 refine xo.at_ _ fun nm q N bs sn sub ab col dd k0 k1 k2 k3 k5 e=>?_
 exact PySem.wpAny_check_new_subU PySem.F.excBase_Exception xo.hasB .base (X _ _ e) hq
theorem Ei(xo:kZ K C f bm)(X:K.In h){R:Result→Shared→Prop}{rest:List Value}(hz:rest.length≤sizeLine)
  (hq:R (.ok (.ret (.ref (h.objs.size+1)))) ⟨(h.push (dJ rest)).push (di C h.objs.size),g,d,t,os⟩):
  codeAny (model prog w) A (.builtin "Exception.__new__" ⟨.ref C::rest,[]⟩) R ⟨h,g,d,t,os⟩:=by
 refine xo.at_ _ fun nm q N bs sn sub ab col dd k0 k1 k2 k3 k5 e=>?_
 have hC:=X _ _ e
 have F:=PySem.F.excBase_Exception
 have he:=F.ends
 have c1:(Value.ref C::bm).contains (.type "Exception")=true:=by rw[contains_cons,xo.hasB,Bool.or_true]
 have c2:(Value.ref C::bm).contains (.type "AttributeError")=false:=by rw[contains_cons,xo.noAttr];rfl
 have c3:(Value.ref C::bm).contains (.type "NameError")=false:=by rw[contains_cons,xo.noName];rfl
 refine codeAny_builtinAt F.entry ?_
 unfold Builtin.«BaseException.__new__»
 refine PySem.wpAt_bind ?_
 show PySem.wpAt _ _ _ (stack>>=_) _ _ _
 refine PySem.wpAt_bind (PySem.wpAt_stack fun p below=>PySem.wpAt_of_wpAny ?_)
 wp_walk
 refine PySem.wpAt_of_wpAny ?_
 rw[F.owner]
 repeat (first|with_reducible refine wpAny_madeHere_exc F.canon hC ?_|with_reducible refine wpAny_loadPart_at hC ?_|(with_reducible refine wpAny_isSubtype_exc hC ?_;first|rw[c1]|rw[c2]|rw[c3])|wp_step)
 show R _ _
 rw[Heap.size_push]
 exact hq
theorem BJ(xo:kZ K C f bm)(X:K.In h){Q:Value→Shared→Prop}{rest:List Value}(hz:rest.length≤sizeLine)
  (hq:wpAny (model prog w) (A.under (.builtin "type.__call__" ⟨.ref C::rest,[]⟩)) (call (.ref f) (.ref (h.objs.size+1)::rest)) (fun r s'=>r=.none∧Q (.ref (h.objs.size+1)) s') E ⟨(h.push (dJ rest)).push (di C h.objs.size),g,d,t,os⟩):
  wpAny (model prog w) A (call (.ref C) rest) Q E ⟨h,g,d,t,os⟩:=by
 refine xo.at_ _ fun nm q N bs sn sub ab col dd k0 k1 k2 k3 k5 e=>?_
 have hC:=X _ _ e
 have F:=PySem.F.excBase_Exception
 have f1:=tc_lookup
 have f2:=tc_bind (.ref C)
 have hT:(⟨h,g,d,t,os⟩:Shared).TypeIs (.ref C) "type":=⟨_,hC,rfl⟩
 refine wpAny_call (codeAny_of_tree ?_)
 show wpAny _ _ (callAny (.ref C) _) _ _ _
 repeat (any_goals (first|assumption|with_reducible refine wpAny_loadPart_at hC ?_|wp_step))
 refine⟨rfl,?_⟩
 refine codeAny_call_builtin_at (Code.quiet_builtin _ (by decide +kernel)) entry_typeCall (wpAny_check_type_call_sub hC ?_)
 repeat (first|with_reducible refine wpAny_loadPart_at hC ?_|with_reducible refine wpAny_madeBy_exc hC ?_|wp_step)
 refine codeAny_call_builtin_code (Code.quiet_builtin _ F.quiet) (o6 xo X ?_)
 refine Ei xo X hz ?_
 show wpAny _ _ _ _ _ _
 have kk:∀b o,h.get? b=some o→((h.push (dJ rest)).push (di C h.objs.size)).get? b=some o:=fun b o e=>Heap.get?_push_of_some _ (Heap.get?_push_of_some _ e)
 have hC₁:=kk _ _ hC
 have X₁:=X.keeps kk
 have hget:((h.push (dJ rest)).push (di C h.objs.size)).get? (h.objs.size+1)=some (di C h.objs.size):=by heap_get
 have hcC:(Value.ref C::bm).contains (.ref C)=true:=by simp
 unfold isInstance
 repeat (first|(with_reducible refine wpAny_loadPart_at hget ?_;dsimp only)|(show wpAny _ _ (isSubtype (.ref C) (.ref C)) _ _ _;refine wpAny_isSubtype_exc hC₁ ?_;rw[hcC])|wp_step)
 show wpAny _ _ (typeLookup (.ref C) _) _ _ _
 refine(looks_findIn X₁ xo.init).here ?_
 refine wpAny_holding (wpAny_bind ?_)
 refine(bind_fn X₁ (.ref (h.objs.size+1)) xo.initF).here ?_
 refine wpAny_bind (wpAny_mono (show wpAny _ _ (call (.ref f) (.ref (h.objs.size+1)::rest)) _ _ _ from hq) (fun r s' hr=>?_) fun z z x=>x)
 obtain⟨rfl,hQ⟩:=hr
 wp_walk
 exact hQ
end
section
open Builtin Builtin.ObjectAttr
noncomputable def XO(h:Heap)(e C t:Addr)(D:Option Addr)(ns:List Str):Prop:=
 ∃o,h.get? e=some o∧o.cls=.ref C∧o.data=.fields #[.ref t,.none,.none,.none,.bool false,.none]∧o.dict=D∧∀d,D=some d→d≠e∧∃mA,h.Ns1 d mA∧Within mA ns
section
variable {prog:Program}{w:World}{A:Around}{E:Value→Shared→Prop}{h:Heap}{g:Array GenState}{dr:Drawn}{tk:Nat}{os:OsState}{K:Frag}{C f e t:Addr}{bm:List Value}{D:Option Addr}{ns:List Str}
theorem ve(xo:kZ K C f bm)(X:K.In h)(I:XO h e C t D ns){name:Str}{v:Value}{b:Bool}{t0:Tok}{Q:PySem.Fin→Shared→Prop}(hz:ns.length≤100)
  (hq:∀h' tk' D',XO h' e C t (some D') (name::ns)→(D=none→D'=h.objs.size)→(∀d,D=some d→D'=d)→(∀b o,b≠e→D≠some b→h.get? b=some o→h'.get? b=some o)→Q (.done (.ret .none)) ⟨h',g,dr,tk',os⟩):
  wpAny (model prog w) A (storeInOwnDict (.ref e) (.ref C) (.str name t0) name v b) Q E ⟨h,g,dr,tk,os⟩:=by
 refine xo.at_ _ fun nm q N bs sn sub ab col dd k0 k1 k2 k3 k5 eC=>?_
 have hC:=X _ _ eC
 refine wC I fun o he hc hd hD hdict=>?_
 obtain⟨oc,od,km,osl⟩:=o
 dsimp only at hc hd hD
 subst hc hd hD
 refine wpAny_bind (wpAny_pure (wpAny_bind (wpAny_bind (wpAny_loadPart he (wpAny_bind (wpAny_bind (wpAny_load hC (wpAny_pure ?_))))))))
 dsimp only
 cases od with
 |some d=>
  obtain⟨hde,mA,hns,hw⟩:=hdict d rfl
  refine wpAny_pure (a:=some d) (wpAny_bind (wpAny_pure ?_))
  refine wpAny_bind (wpAny_nsSet1 hns fun h' hn' hs=>?_)
  refine fh (hn'.count (Within.cons name v hw)) fun oD esD epD hoD hdD hcD=>?_
  refine wpAny_bind (wpAny_lookBehind hoD (by rw[hdD];exact pastItsLine_dict (le_trans hcD (by rw[length_cons,sizeLine_eq];lia))) ?_)
  refine wpAny_pure (hq h' _ d ⟨_,(hs.2 e hde.symm).trans he,rfl,rfl,rfl,fun d' ed=>?_⟩ (fun q=>nomatch q) (fun d' q=>(Option.some.inj q)) fun b o hb hb2 ho=>(hs.2 b fun q=>hb2 (q ▸ rfl)).trans ho)
  obtain rfl:=Option.some.inj ed
  exact⟨hde,_,hn',Within.cons name v hw⟩
 |none=>
  have hxs:e≠h.objs.size:=ne_of_lt (Heap.lt_size he)
  have hx₁:=Heap.get?_push_of_some emptyDict he
  have hgd:((h.push emptyDict).update e fun o=>{ o with dict:=some h.objs.size }).get? h.objs.size=some emptyDict:=
   (Heap.get?_update_ne _ _ _ _ hxs.symm).trans (Heap.get?_push_at rfl rfl)
  have hge:((h.push emptyDict).update e fun o=>{ o with dict:=some h.objs.size }).get? e=some ⟨.ref C,some h.objs.size,.fields #[.ref t,.none,.none,.none,.bool false,.none],osl⟩:=Heap.get?_update_self _ hx₁ rfl
  have hnd:((h.push emptyDict).update e fun o=>{ o with dict:=some h.objs.size }).Ns h.objs.size (fun z=>none):=⟨_,#[],_,hgd,rfl,fun e he=>absurd he (by simp),fun z=>rfl⟩
  refine wpAny_bind (wpAny_alloc' ?_)
  refine wpAny_bind (wpAny_update' hx₁ ?_)
  refine wpAny_pure (a:=some h.objs.size) (wpAny_bind (wpAny_pure ?_))
  refine wpAny_bind (wpAny_nsSet1 (Heap.Ns1.of_empty hnd) fun h' hn' hs=>?_)
  refine fh (hn'.count (Within.cons name v Within.nil)) fun oD esD epD hoD hdD hcD=>?_
  refine wpAny_bind (wpAny_lookBehind hoD (by rw[hdD];exact pastItsLine_dict (le_trans hcD (by rw[length_cons,length_nil,sizeLine_eq];exact le_of_ble_eq_true rfl))) ?_)
  refine wpAny_pure (hq h' _ h.objs.size ⟨_,(hs.2 e hxs).trans hge,rfl,rfl,rfl,fun d' ed=>?_⟩ (fun z=>rfl) (fun d' q=>nomatch q) fun b o hb hb2 ho=>?_)
  ·obtain rfl:=Option.some.inj ed
   refine⟨hxs.symm,_,hn',fun y hy=>?_⟩
   have:=Within.cons name v Within.nil y hy
   simp only[mem_cons,not_mem_nil,or_false] at this
   exact this ▸ .head _
  ·exact(hs.2 b (ne_of_lt (Heap.lt_size ho))).trans ((Heap.get?_update_ne _ _ _ _ hb).trans (Heap.get?_push_of_some _ ho))
end
end
section
open Builtin Builtin.ObjectAttr
section
variable {prog:Program}{w:World}{A:Around}{E:Value→Shared→Prop}{s:Shared}{K:Frag}{C f e t:Addr}{bm:List Value}{D:Option Addr}{ns:List Str}
theorem XO.inst{h:Heap}(I:XO h e C t D ns):∃ox od,InstAt h e ox C od∧ox.cls=.ref C:=by
 refine wC I fun o he hc hd hD hdict=>?_
 have hn:notCls o=true:=by unfold notCls;rw[hd]
 cases q:o.dict with
 |none=>exact⟨o,none,⟨he,hc,hn,by rw[q];trivial⟩,hc⟩
 |some d=>
  obtain⟨_,mA,⟨od,es,ep,h1,_⟩,_⟩:=hdict d (hD ▸ q)
  exact⟨o,some od,⟨he,hc,hn,by rw[q];exact h1⟩,hc⟩
theorem vf(xo:kZ K C f bm)(X:K.In s.heap)(I:XO s.heap e C t D ns){name:Str}{v:Value}{Q:Unit→Shared→Prop}(hz:ns.length≤100)(ht:takerIn K C name=some none)
  (hq:∀h' tk' D',XO h' e C t (some D') (name::ns)→(D=none→D'=s.heap.objs.size)→(∀d,D=some d→D'=d)→(∀b o,b≠e→D≠some b→s.heap.get? b=some o→h'.get? b=some o)→Q () { s with heap:=h',toks:=tk' }):
  wpAny (model prog w) A (setAttr (.ref e) name v) Q E s:=by
 refine dc I.inst fun ox od II hcl=>?_
 refine xo.at_ _ fun nm q N bs sn sub ab col dd k0 k1 k2 k3 k5 eC=>?_
 refine set_plain X II xo.store ?_
 have SF:=PySem.F.store_object
 have hc:clsIn K C=some { name:=nm,bases:=bs,mro:=.ref C::bm,ns:=N,qualname:=q,hasDict:=true,slotNames:=sn,subclasses:=sub,abstract:=ab,collection:=col,hasDel:=false }:=by unfold clsIn;rw[eC]
 have subL:Looks (model prog w) s.heap (isInstance (.ref e) (.type "object")) true:=II.type.andThen (looks_mroIn X (by unfold mroIn;rw[hc,bind_some,if_neg (by simp)];rw[contains_cons,xo.hasO,Bool.or_true]))
 refine codeAny_call_builtin SF.slot.plain SF.entry (@check_slot (model prog w) _ _ { s with toks:=s.toks+1 } "object.__setattr__" "object" "__setattr__" (.ref e) [.str name s.toks,v] [] _ SF.kind SF.split subL (SF.args (.ref e) (.str name s.toks) v) ?_)
 refine ak (bind_eq_some_iff.mp ht) fun attr ha hr=>?_
 have hm:Looks (model prog w) s.heap (mroOf (.ref C)) (.ref C::bm):=(looks_clsIn X hc).andThen .now
 have L3:Looks (model prog w) s.heap (storeTaker? attr) none:=by
  cases attr with
  |none=>exact .now
  |some a=>
   refine ak (map_eq_some_iff.mp hr) fun b hb hb2=>?_
   refine(looks_takesIn X hb).andThen ?_
   cases b
   ·exact .now
   ·cases hb2
 rw[osa_eq,refuse_eq]
 refine wpAny_bind (wpAny_bind (Looks.here (s:={ s with toks:=s.toks+1 }) II.type (wpAny_bind (Looks.here (s:={ s with toks:=s.toks+1 }) hm ?_))))
 rw[xo.over]
 refine wpAny_pure (wpAny_bind (Looks.here (s:={ s with toks:=s.toks+1 }) II.type (wpAny_bind (Looks.here (s:={ s with toks:=s.toks+1 }) (looks_findIn X ha) (wpAny_bind (Looks.here (s:={ s with toks:=s.toks+1 }) L3 ?_))))))
 exact ve xo X I hz fun h' tk' D' q1 q2 q3 q4=>hq h' tk' D' q1 q2 q3 q4
end
end
noncomputable abbrev Bs:=List UInt8
inductive V where
 |none|bool (b:Bool)|int (i:Int)|bytes (b:Bs)|str (s:Str)|ref (i:Nat)|sta (v:Value)
inductive O where
 |inst (C:Addr) (fs:List (Nat×V))
 |list (l:List V)
 |tup (l:List V)
 |ba (b:Bs)
 |dict (l:List (Bs×Int))
 |biter (b:Bs) (k:Nat)
 |liter (a k:Nat)
 |gone
 |cell (v:V)
 |space
 |riter (cur left:Int)
 |flist (l:List V)
noncomputable abbrev Hp:=List O
noncomputable abbrev As:=List (Addr×Addr)
noncomputable abbrev aC:=List (Option V)
noncomputable def VR(as:As):V→Value→Prop
 | .none,v=>v=.none
 | .bool b,v=>v=.bool b
 | .int i,v=>∃t,v=.int i t
 | .bytes b,v=>∃t,v=.bytes b.toArray t
 | .str s,v=>∃t,v=.str s t
 | .ref i,v=>∃p,as[i]? =some p∧v=.ref p.1
 | .sta w,v=>v=w
inductive aj {α β:Type} (R:α→β→Prop):List α→List β→Prop
 |nil:aj R [] []
 |cons {a b l m}:R a b→aj R l m→aj R (a::l) (b::m)
section
variable {α β:Type}{R R':α→β→Prop}{l l':List α}{m m':List β}
theorem aj.mono(h:∀a b,R a b→R' a b)(z:aj R l m):aj R' l m:=by
 induction z with
 |nil=>exact .nil
 |cons x _ y=>exact .cons (h _ _ x) y
theorem aj.length(z:aj R l m):l.length=m.length:=by
 induction z with
 |nil=>rfl
 |cons _ _ y=>exact congrArg Nat.succ y
theorem aj.append(z:aj R l m)(y:aj R l' m'):aj R (l++l') (m++m'):=by
 induction z with
 |nil=>exact y
 |cons x _ z=>exact .cons x z
theorem aj.get(z:aj R l m):∀{i:Nat} {a:α},l[i]? =some a→∃b,m[i]? =some b∧R a b:=by
 induction z with
 |nil=>intro i a h;cases h
 |cons x _ z=>
  intro i a h
  cases i with
  |zero=>cases h;exact⟨_,rfl,x⟩
  |succ i=>exact z (i:=i) h
theorem aj.reverse(h:aj R l m):aj R l.reverse m.reverse:=by
 induction h with
 |nil=>exact .nil
 |cons x y ih=>simp only[reverse_cons];exact ih.append (.cons x .nil)
theorem aj.take(z:aj R l m):∀k,aj R (l.take k) (m.take k):=by
 induction z with
 |nil=>intro k;cases k<;>exact .nil
 |cons x _ z=>intro k;cases k with
  |zero=>exact .nil
  |succ k=>exact .cons x (z k)
theorem aj.drop(z:aj R l m):∀k,aj R (l.drop k) (m.drop k):=by
 induction z with
 |nil=>intro k;cases k<;>exact .nil
 |cons x y z=>intro k;cases k with
  |zero=>exact .cons x y
  |succ k=>exact z k
theorem aj.set{a b}(h:R a b)(z:aj R l m):∀k,aj R (l.set k a) (m.set k b):=by
 induction z with
 |nil=>intro k;exact .nil
 |cons x y z=>intro k;cases k with
  |zero=>exact .cons h y
  |succ k=>exact .cons x (z k)
end
theorem VR.mono{as as':As}(h:as <+: as'){v:V}{u:Value}(r:VR as v u):VR as' v u:=by
 cases v<;>try exact r
 refine ak r fun p hp q92=>?_;obtain rfl:=q92
 exact⟨p,by
  obtain⟨t,rfl⟩:=h
  rw[getElem?_append_left (List.getElem?_eq_some_iff.mp hp).1];exact hp,rfl⟩
set_option genCtorIdx false in
structure bB where
 prog:Program
 w:World
 K:Frag
 p:Program
 loose:List Str
 mg:Str→Option Value
 mb:Str→Option Value
 xc:Addr
 atts:List Str
 scr:Obj
noncomputable def ER(G:bB)(as:As)(f:Nat×V)(e:DictEntry):Prop:=(∃y t,G.atts[f.1]? =some y∧e.key=.str y t)∧VR as f.2 e.val
noncomputable def BR(f:Bs×Int)(e:Bs×Value):Prop:=f.1=e.1∧∃t,e.2=.int f.2 t
theorem ER.mono{G:bB}{as as':As}(h:as <+: as'){f:Nat×V}{e:DictEntry}(r:ER G as f e):ER G as' f e:=⟨r.1,r.2.mono h⟩
noncomputable def OK(G:bB)(as:As):O→Addr→Obj→Obj→Prop
 | .inst C fs,d,o1,o2=>o1=instObj C d∧∃es n,o2=dictOf es n∧aj (ER G as) fs es
 | .list l,_,o1,_=>∃vs n,o1=listOf vs.toArray n∧aj (VR as) l vs
 | .tup l,_,o1,_=>∃vs n,o1=({ cls:=.type "tuple",data:=.seq vs.toArray n }:Obj)∧aj (VR as) l vs
 | .ba b,_,o1,_=>o1=({ cls:=.type "bytearray",data:=.bytearray b.toArray 0 }:Obj)
 | .dict l,_,o1,_=>∃kvs,o1.IsDictOf (bytesKind G.prog G.w) kvs∧aj BR l kvs
 | .biter b k,_,o1,_=>o1.cls=.type "bytes_iterator"∧∃t,o1.data=.fields #[.bytes b.toArray t,.int k 0]
 | .liter a k,_,o1,_=>o1.cls=.type "list_iterator"∧∃p,as[a]? =some p∧o1.data=.fields #[.ref p.1,.int k 0]
 | .gone,_,_,_=>True
 | .cell v,_,o1,_=>∃u,o1.data=.cell (some u)∧VR as v u
 | .space,_,o1,_=>∃es ep,o1.data=.dict es ep∧StrKeys es
 | .riter c l,_,o1,_=>o1=({ cls:=.type "range_iterator",data:=.fields #[rawInt c,rawInt l,rawInt 1] }:Obj)
 | .flist l,_,o1,_=>o1=G.scr∧G.scr.cls=.type "list"∧∃vs,(∃n,G.scr.data=.seq vs.toArray n)∧aj (VR as) l vs
theorem OK.mono{G:bB}{as as':As}(h:as <+: as'){o:O}{d:Addr}{o1 o2:Obj}(r:OK G as o d o1 o2):OK G as' o d o1 o2:=by
 cases o with
 |inst C fs=>obtain⟨a,es,n,b,c⟩:=r;exact⟨a,es,n,b,c.mono fun z z e=>e.mono h⟩
 |list l=>obtain⟨vs,n,a,b⟩:=r;exact⟨vs,n,a,b.mono fun z z e=>e.mono h⟩
 |tup l=>obtain⟨vs,n,a,b⟩:=r;exact⟨vs,n,a,b.mono fun z z e=>e.mono h⟩
 |ba b=>exact r
 |dict l=>exact r
 |biter b k=>exact r
 |liter a k=>obtain⟨c,p,e,d⟩:=r;exact⟨c,p,by
   obtain⟨t,rfl⟩:=h
   rw[getElem?_append_left (List.getElem?_eq_some_iff.mp e).1];exact e,d⟩
 |gone=>trivial
 |cell v=>obtain⟨u,a,b⟩:=r;exact⟨u,a,b.mono h⟩
 |space=>exact r
 |riter c l=>exact r
 |flist l=>obtain⟨a,b,vs,c,e⟩:=r;exact⟨a,b,vs,c,e.mono fun z z e=>e.mono h⟩
set_option genCtorIdx false in
structure Fx where
 A:Around
 cn:Str
 cs:Scope
 L:Addr
 a:Addr
 ccd:Value
 cl:List (Str×Addr)
 outer:List Env
 base:Heap
 h₀:Heap
 lv:Nat
 names:List Str
noncomputable abbrev Fx.env(x:Fx):Env:=envX x.cn x.cs x.L x.a x.ccd x.cl
structure Fx.Ok(G:bB)(x:Fx):Prop where
 B:∃A₀,Below A₀ x.base x.outer x.h₀
 X:G.K.In x.h₀
 T:TopRead G.p G.loose G.mg G.mb x.h₀
 XB:G.K.In x.base
 TB:∃mean,Top G.p G.loose mean G.mg G.mb x.base
 nolim:x.h₀.NoLimit
 hk:x.cs.kind=.function
 hh:x.A.handled=none
 hf:x.A.frames=some (x.env::x.outer)
 hg:x.A.guards=some []
 dep:x.A.depth+4 * x.lv+8 < recursionLimit
 uni:x.A.units+16 * x.lv+40 < cLine
 nodup:x.names.Nodup
 most:x.lv≤40
 top:x.lv=40→x.outer=[]
noncomputable def iE(names:List Str)(as:As)(vars:aC)(m:Str→Option Value):Prop:=∀(i:Nat) v,vars[i]? =some (some v)→∃y u,names[i]? =some y∧m y=some u∧VR as v u
set_option genCtorIdx false in
structure St where
 vars:aC
 hp:Hp
noncomputable def AW(as:As):Prop:=∀(i j:Nat) (p q:Addr×Addr),i≠j→as[i]? =some p→as[j]? =some q→p.1≠q.1∧p.1≠q.2∧p.2≠q.1∧p.2≠q.2
structure aE(G:bB)(x:Fx)(σ:St)(as:As)(h:Heap):Prop where
 fr:∃m,Fr x.h₀ x.L h m∧iE x.names as σ.vars m
 own:∀p∈as,(p.1≠x.L∧x.h₀.get? p.1=none)∧(p.2≠x.L∧x.h₀.get? p.2=none)
 sep:AW as
 len:as.length=σ.hp.length
 obj:∀(i:Nat) o p,σ.hp[i]? =some o→as[i]? =some p→∃o1 o2,h.get? p.1=some o1∧h.get? p.2=some o2∧OK G as o p.2 o1 o2
 low:1 < x.L∧∀p∈as,p.1≠1
theorem iE.mono{names}{as as':As}(h:as <+: as'){vars:aC}{m}(r:iE names as vars m):iE names as' vars m:=fun y v e=>let ⟨z,u,c,a,b⟩:=r y v e;⟨z,u,c,a,b.mono h⟩
theorem aE.lookup{G:bB}{x:Fx}{σ:St}{as:As}{h:Heap}(R:aE G x σ as h){i:Nat}{v y}(e:σ.vars[i]? =some (some v))(hy:x.names[i]? =some y):
  ∃m u,Fr x.h₀ x.L h m∧m y=some u∧VR as v u:=by
 refine ak R.fr fun m F Vr=>?_
 refine bC (Vr i v e) fun z u c a b=>?_
 rw[hy] at c;cases c
 exact⟨m,u,F,a,b⟩
theorem aE.at_{G:bB}{x:Fx}{σ:St}{as:As}{h:Heap}(R:aE G x σ as h){i:Nat}{o:O}(e:σ.hp[i]? =some o):∃p,as[i]? =some p:=by
 have:i < as.length:=by rw[R.len];exact(List.getElem?_eq_some_iff.mp e).1
 exact⟨as[i],getElem?_eq_getElem this⟩
theorem aE.get{G:bB}{x:Fx}{σ:St}{as:As}{h:Heap}(R:aE G x σ as h){i:Nat}{o:O}(e:σ.hp[i]? =some o):
  ∃p o1 o2,as[i]? =some p∧h.get? p.1=some o1∧h.get? p.2=some o2∧OK G as o p.2 o1 o2:=by
 obtain⟨p,hp⟩:=R.at_ e
 refine GO (R.obj i o p e hp) fun o1 o2 a=>?_
 exact⟨p,o1,o2,hp,a⟩
inductive af (β:Type) where
 |ok (b:β) (σ:St)
 |exc (H:Hp)
 |stuck
noncomputable def k8(G:bB)(x:Fx)(H:Hp)(as:As)(e:Value)(h:Heap):Prop:=
 ∃a t vs m g₂ news,e=.ref a∧Fr x.h₀ x.L g₂ m∧g₂.UpToSlots h∧RaisedS x.base g₂ (x.env::x.outer) a (.ref G.xc) t vs news h∧
  AW as∧as.length=H.length∧(∀p∈as,p.1≠1)∧
  ∀(i:Nat) o p,H[i]? =some o→as[i]? =some p→∃o1 o2,(p.1,o1)∈news∧(p.2,o2)∈news∧OK G as o p.2 o1 o2
noncomputable def tG(G:bB)(x:Fx)(H:Hp)(as:As)(e:Value)(h:Heap):Prop:=
 ∃a t vs g vars oe,e=.ref a∧aE G x ⟨vars,H⟩ as g∧(∀b o,g.get? b=some o→h.get? b=some o)∧g.get? a=none∧g.get? t=none∧
  h.get? a=some oe∧oe.cls=.ref G.xc∧oe.data=.fields #[.ref t,.none,.none,.none,.bool false,.none]∧h.TupAt t vs
noncomputable def Ej(G:bB)(x:Fx)(H:Hp)(as:As)(e:Value)(h:Heap):Prop:=k8 G x H as e h∨tG G x H as e h
noncomputable def ah(G:bB){α β:Type}(x:Fx)(as:As)(σ:St)(t:Sem α)(R:As→β→α→Prop):af β→Prop
 | .ok b σ'=>∀s Q E,aE G x σ as s.heap→(∀a as' h' tk',as <+: as'→aE G x σ' as' h'→R as' b a→Q a { s with heap:=h',toks:=tk' })→aJ (model G.prog G.w) x.A t Q E s
 | .exc H'=>∀s Q E,aE G x σ as s.heap→PassesOwn (model G.prog G.w) x.A x.env E→(∀e as' h' tk',as <+: as'→Ej G x H' as' e h'→E e { s with heap:=h',toks:=tk' })→aJ (model G.prog G.w) x.A t Q E s
 | .stuck=>True
noncomputable def kj(G:bB){α β:Type}(x:Fx)(as:As)(σ:St)(t:Sem α)(R:As→β→α→Prop):af β→Prop
 | .ok b σ'=>ah G x as σ t R (.ok b σ')
 | .exc H'=>∀s Q E,aE G x σ as s.heap→(∀e as' h' tk',as <+: as'→k8 G x H' as' e h'→E e { s with heap:=h',toks:=tk' })→aJ (model G.prog G.w) x.A t Q E s
 | .stuck=>True
theorem kj.tri{G:bB}{α β:Type}{x:Fx}{as:As}{σ:St}{t:Sem α}{R:As→β→α→Prop}{r:af β}(h:kj G x as σ t R r):ah G x as σ t R r:=by
 cases r with
 |ok b σ1=>exact h
 |exc H=>exact fun s Q E hr z hq=>h s Q E hr fun e as' h' tk' ha hx=>hq e as' h' tk' ha (.inl hx)
 |stuck=>trivial
section
variable {G:bB}{α α' β β':Type}{x:Fx}{as:As}{σ σ':St}{R:As→β→α→Prop}{R':As→β'→α'→Prop}
theorem ah.pure{a:α}{b:β}(h:R as b a):ah G x as σ (Pure.pure a) R (.ok b σ):=fun s Q E r k=>au (k a as s.heap s.toks (prefix_refl _) r h)
theorem ah.bind{t:Sem α}{f:α→Sem α'}{b:β}{r:af β'}(h:ah G x as σ t R (.ok b σ'))(k:∀a as',as <+: as'→R as' b a→ah G x as' σ' (f a) R' r):ah G x as σ (t>>=f) R' r:=by
 cases r with
 |ok b2 σ2=>
  intro s Q E hr hq
  refine ae (h s _ E hr fun a as' h' tk' ha hr' ra=>?_)
  exact k a as' ha ra _ Q E hr' fun a2 as2 h2 tk2 ha2=>hq a2 as2 h2 tk2 (ha.trans ha2)
 |exc H=>
  intro s Q E hr hp hq
  refine ae (h s _ E hr fun a as' h' tk' ha hr' ra=>?_)
  exact k a as' ha ra _ Q E hr' hp fun a2 as2 h2 tk2 ha2=>hq a2 as2 h2 tk2 (ha.trans ha2)
 |stuck=>trivial
theorem ah.bindX{t:Sem α}{f:α→Sem α'}{H:Hp}(h:ah G x as σ t R (.exc H)):ah G x as σ (t>>=f) R' (.exc H):=by
 intro s Q E hr hp hq
 exact ae (h s _ E hr hp fun e as' h' tk' ha hx=>hq e as' h' tk' ha hx)
theorem ah.holding{t:Sem α}{vs:List Value}{r:af β}(h:ah G x as σ t R r):ah G x as σ (holding vs t) R r:=by
 cases r with
 |ok b2 σ2=>exact fun s Q E hr hq=>a8 (h s Q E hr hq)
 |exc H=>exact fun s Q E hr hp hq=>a8 (h s Q E hr hp hq)
 |stuck=>trivial
theorem ah.standAt{t:Sem α}{p:Pos}{r:af β}(h:ah G x as σ t R r):ah G x as σ (standAt p>>=fun z=>t) R r:=by
 cases r with
 |ok b2 σ2=>exact fun s Q E hr hq=>aF (h s Q E hr hq)
 |exc H=>exact fun s Q E hr hp hq=>aF (h s Q E hr hp hq)
 |stuck=>trivial
theorem ah.of_wp{t:Sem α}{b:β}(h:∀s (Q:α→Shared→Prop) E,aE G x σ as s.heap→(∀a tk',R as b a→Q a { s with toks:=tk' })→wpAny (model G.prog G.w) x.A t Q E s):ah G x as σ t R (.ok b σ):=
 fun s Q E hr hq=>aB (h s Q E hr fun a tk' ra=>hq a as s.heap tk' (prefix_refl _) hr ra)
theorem ah.of_any{t:Sem α}{b:β}(h:∀s (Q:α→Shared→Prop) E,aE G x σ as s.heap→(∀a as' h' tk',as <+: as'→aE G x σ' as' h'→R as' b a→Q a { s with heap:=h',toks:=tk' })→wpAny (model G.prog G.w) x.A t Q E s):ah G x as σ t R (.ok b σ'):=
 fun s Q E hr hq=>aB (h s Q E hr hq)
theorem ah.of_eq{t t':Sem α}{r:af β}(e:t=t')(h:ah G x as σ t' R r):ah G x as σ t R r:=e ▸ h
end
section
variable {G:bB}{x:Fx}{σ:St}{as:As}{h h':Heap}
theorem aE.lt{i:Nat}{p:Addr×Addr}(R:aE G x σ as h)(e:as[i]? =some p):p.1 < h.objs.size∧p.2 < h.objs.size:=by
 have hi:i < σ.hp.length:=by rw[←R.len];exact(List.getElem?_eq_some_iff.mp e).1
 refine bC (R.obj i _ p (getElem?_eq_getElem hi) e) fun o1 o2 a b z=>?_
 exact⟨Heap.lt_size a,Heap.lt_size b⟩
theorem prefix_append(as bs:As):as <+: as++bs:=List.prefix_append as bs
theorem aE.grow(R:aE G x σ as h)(k:∀b o,h.get? b=some o→h'.get? b=some o)(hs:h.objs.size≤h'.objs.size):aE G x σ as h':=by
 obtain⟨⟨m,F,Vr⟩,own,sep,len,obj,low⟩:=R
 refine⟨⟨m,⟨F.ns.keeps k,fun b o e=>k _ _ (F.keep b o e),F.above⟩,Vr⟩,own,sep,len,fun i o p e1 e2=>?_,low⟩
 refine bC (obj i o p e1 e2) fun o1 o2 a b c=>?_
 exact⟨o1,o2,k _ _ a,k _ _ b,c⟩
theorem getElem?_snoc{α:Type}{l:List α}{a b:α}{i:Nat}(h:(l++[a])[i]? =some b):(i < l.length∧l[i]? =some b)∨(i=l.length∧b=a):=by
 rcases Nat.lt_trichotomy i l.length with q|q|q
 ·exact .inl ⟨q,by rw[getElem?_append_left q] at h;exact h⟩
 ·subst q;rw[List.getElem?_append_right (le_refl _)] at h;simp at h;exact .inr ⟨rfl,h.symm⟩
 ·rw[List.getElem?_append_right (le_of_lt q)] at h
  have:i - l.length≠0:=by lia
  cases e:i - l.length with
  |zero=>lia
  |succ n=>rw[e] at h;simp at h
theorem AW.snoc{d1 d2:Addr}(sep:AW as)(hn:∀(i:Nat) (p:Addr×Addr),as[i]? =some p→(p.1 < d1∧p.1 < d2)∧p.2 < d1∧p.2 < d2):AW (as++[(d1,d2)]):=by
 intro i j p q hij hi hj
 rcases getElem?_snoc hi with ⟨li,ei⟩|⟨li,rfl⟩<;>rcases getElem?_snoc hj with ⟨lj,ej⟩|⟨lj,rfl⟩
 ·exact sep i j p q hij ei ej
 ·have:=hn i p ei;exact⟨ne_of_lt this.1.1,ne_of_lt this.1.2,ne_of_lt this.2.1,ne_of_lt this.2.2⟩
 ·have:=hn j q ej;exact⟨ne_of_gt this.1.1,ne_of_gt this.2.1,ne_of_gt this.1.2,ne_of_gt this.2.2⟩
 ·exact absurd (li.trans lj.symm) hij
theorem aE.newAt(R:aE G x σ as h){d:Addr}(hd:h.objs.size≤d):d≠x.L∧x.h₀.get? d=none:=by
 obtain⟨⟨m,F,Vr⟩,own,sep,len,obj,low⟩:=R
 have hL:x.L < h.objs.size:=F.ns.lt
 refine⟨ne_of_gt (Nat.lt_of_lt_of_le hL hd),?_⟩
 cases q:x.h₀.get? d with
 |none=>rfl
 |some o=>exact absurd (Heap.lt_size (F.keep _ _ q)) (Nat.not_lt.mpr hd)
theorem aE.add(R:aE G x σ as h)(k:∀b o,h.get? b=some o→h'.get? b=some o)(hs:h.objs.size≤h'.objs.size){d1 d2:Addr}{o1 o2:Obj}{o:O}
  (hd1:h.objs.size≤d1) (hd2:h.objs.size≤d2) (e1:h'.get? d1=some o1) (e2:h'.get? d2=some o2) (ok:OK G as o d2 o1 o2):
  aE G x ⟨σ.vars,σ.hp++[o]⟩ (as++[(d1,d2)]) h':=by
 have R':=R.grow k hs
 have hp:=prefix_append as [(d1,d2)]
 obtain⟨⟨m,F,Vr⟩,own,sep,len,obj,low⟩:=R'
 refine⟨⟨m,F,Vr.mono hp⟩,?_,?_,by simp[len],?_,low.1,fun p q=>(mem_append.mp q).elim (low.2 p) fun q=>?_⟩
 ·intro p q
  rcases mem_append.mp q with q|q
  ·exact own p q
  ·obtain rfl:=mem_singleton.mp q
   exact⟨R.newAt hd1,R.newAt hd2⟩
 ·refine sep.snoc fun i p e=>?_
  have:=R.lt e
  exact⟨⟨Nat.lt_of_lt_of_le this.1 hd1,Nat.lt_of_lt_of_le this.1 hd2⟩,Nat.lt_of_lt_of_le this.2 hd1,Nat.lt_of_lt_of_le this.2 hd2⟩
 ·intro i ob p q1 q2
  rcases getElem?_snoc q1 with ⟨li,ei⟩|⟨li,rfl⟩<;>rcases getElem?_snoc q2 with ⟨lj,ej⟩|⟨lj,rfl⟩
  ·refine bC (obj i ob p ei ej) fun u1 u2 a b c=>?_
   exact⟨u1,u2,a,b,c.mono hp⟩
  ·rw[lj,len] at li;exact absurd li (lt_irrefl _)
  ·rw[li,len] at lj;exact absurd lj (lt_irrefl _)
  ·exact⟨o1,o2,e1,e2,ok.mono hp⟩
 ·obtain rfl:=mem_singleton.mp q
  refine ak R.fr fun m0 F0 z=>?_
  have h1:x.L < h.objs.size:=F0.ns.lt
  have h2:=R.low.1
  exact ne_of_gt (Nat.lt_of_lt_of_le (lt_trans h2 h1) hd1)
theorem aE.push{ob:Obj}{o:O}(R:aE G x σ as h)(hf:ob.isFreed=false)(ok:OK G as o h.objs.size ob ob):
  aE G x ⟨σ.vars,σ.hp++[o]⟩ (as++[(h.objs.size,h.objs.size)]) (h.push ob):=
 R.add (fun b o e=>Heap.get?_push_of_some _ e) (by simp) (le_refl _) (le_refl _) (Heap.get?_push_size _ hf) (Heap.get?_push_size _ hf) ok
theorem aE.turnN(R:aE G x σ as h){i:Nat}{p:Addr×Addr}{o:O}(hp:as[i]? =some p){m}(Vr:iE x.names as σ.vars m)(F':Fr x.h₀ x.L h' m)
  (hk:∀(j:Nat) (q:Addr×Addr),j≠i→as[j]? =some q→(∀o,h.get? q.1=some o→h'.get? q.1=some o)∧∀o,h.get? q.2=some o→h'.get? q.2=some o)
  (hn:∃o1 o2,h'.get? p.1=some o1∧h'.get? p.2=some o2∧OK G as o p.2 o1 o2):aE G x ⟨σ.vars,σ.hp.set i o⟩ as h':=by
 obtain⟨_,own,sep,len,obj,low⟩:=R
 refine⟨⟨m,F',Vr⟩,own,sep,by simp[len],?_,low⟩
 intro j ob q e1 e2
 by_cases hij:i=j
 ·subst hij
  rw[hp] at e2;cases e2
  have hlt:i < σ.hp.length:=by rw[←len];exact(List.getElem?_eq_some_iff.mp hp).1
  rw[getElem?_set_self hlt] at e1;cases e1
  exact hn
 ·rw[getElem?_set_ne hij] at e1
  refine bC (obj j ob q e1 e2) fun u1 u2 a b c=>?_
  have z:=hk j q (Ne.symm hij) e2
  exact⟨u1,u2,z.1 _ a,z.2 _ b,c⟩
theorem aE.turn(R:aE G x σ as h){i:Nat}{d:Addr}{p:Addr×Addr}{o:O}(hp:as[i]? =some p)(hd:d=p.1∨d=p.2)(hs:Heap.SameBut d h h')
  (hn:∃o1 o2,h'.get? p.1=some o1∧h'.get? p.2=some o2∧OK G as o p.2 o1 o2):aE G x ⟨σ.vars,σ.hp.set i o⟩ as h':=by
 have ow:=R.own p (mem_of_getElem? hp)
 have hdL:d≠x.L:=by rcases hd with rfl|rfl<;>simp[ow]
 have hdb:x.h₀.get? d=none:=by rcases hd with rfl|rfl<;>simp[ow]
 refine ak R.fr fun m F Vr=>?_
 refine R.turnN hp Vr ⟨F.ns.sameBut hs (Ne.symm hdL),fun b o e=>?_,F.above⟩ (fun j q hij e2=>?_) hn
 ·refine(hs.2 b fun q=>?_).trans (F.keep b o e)
  rw[q,hdb] at e;cases e
 ·have z:=R.sep i j p q (Ne.symm hij) hp e2
  constructor<;>intro o e<;>refine(hs.2 _ ?_).trans e<;>rcases hd with rfl|rfl<;>first|exact Ne.symm z.1|exact Ne.symm z.2.1|exact Ne.symm z.2.2.1|exact Ne.symm z.2.2.2
noncomputable def bR(h:Heap)(as:As):List (Addr×Obj):=as.flatMap fun p=>[(p.1,(h.get? p.1).getD default),(p.2,(h.get? p.2).getD default)]
theorem cE(h:Heap)(as bs:As):bR h (as++bs)=bR h as++bR h bs:=by simp[bR]
theorem aE.led(R:aE G x σ as h):News x.h₀ x.L h (bR h as):=by
 intro q hq
 refine ak (mem_flatMap.mp hq) fun p hp hq=>?_
 obtain⟨i,hi⟩:=getElem?_of_mem hp
 have hlt:i < σ.hp.length:=by rw[←R.len];exact(List.getElem?_eq_some_iff.mp hi).1
 refine bC (R.obj i _ p (getElem?_eq_getElem hlt) hi) fun o1 o2 a b z=>?_
 have ow:=R.own p hp
 rcases mem_cons.mp hq with rfl|hq
 ·exact⟨by simp[a],ow.1.1,ow.1.2⟩
 ·obtain rfl:=mem_singleton.mp hq
  exact⟨by simp[b],ow.2.1,ow.2.2⟩
theorem gC{h:Heap}{as:As}{i:Nat}{p:Addr×Addr}(e:as[i]? =some p):(p.1,(h.get? p.1).getD default)∈bR h as∧(p.2,(h.get? p.2).getD default)∈bR h as:=
 ⟨mem_flatMap.mpr ⟨p,mem_of_getElem? e,.head _⟩,mem_flatMap.mpr ⟨p,mem_of_getElem? e,.tail _ (.head _)⟩⟩
theorem eD{h:Heap}{as:As}{q:Addr×Obj}(hq:q∈bR h as):∃(j:Nat) (p:Addr×Addr),as[j]? =some p∧(q.1=p.1∨q.1=p.2):=by
 refine ak (mem_flatMap.mp hq) fun p hp hq=>?_
 obtain⟨i,hi⟩:=getElem?_of_mem hp
 refine⟨i,p,hi,?_⟩
 rcases mem_cons.mp hq with rfl|hq
 ·exact .inl rfl
 ·obtain rfl:=mem_singleton.mp hq
  exact .inr rfl
theorem wH{as:As}{i:Nat}{p:Addr×Addr}(hp:as[i]? =some p):as=as.take i++p::as.drop (i+1):=by
 have hi:=(List.getElem?_eq_some_iff.mp hp).1
 have e:as[i]=p:=(List.getElem?_eq_some_iff.mp hp).2
 conv=>lhs;rw[←List.take_append_drop i as]
 rw[List.drop_eq_getElem_cons hi,e]
set_option tactic.hygienic true in
theorem aE.upd(R:aE G x σ as h){i:Nat}{p:Addr×Addr}(hp:as[i]? =some p){m}(Vr:iE x.names as σ.vars m)(d e:Addr)(hd:(d=p.1∧e=p.2)∨(d=p.2∧e=p.1)){od:Obj}(ho:h.get? d=some od):
  ∃pre post,News x.h₀ x.L h (pre++(d,od)::post)∧(∀q∈pre,q.1≠d)∧(∀q∈post,q.1≠d)∧
   ∀h' od' o',Fr x.h₀ x.L h' m→News x.h₀ x.L h' (pre++(d,od')::post)→
    (∀oe,(e≠d→h.get? e=some oe)→OK G as o' p.2 (if d=p.1 then od' else oe) (if d=p.2 then od' else oe))→aE G x ⟨σ.vars,σ.hp.set i o'⟩ as h':=by
 have hs:=wH hp
 have N:=R.led
 have hlen:i < as.length:=(List.getElem?_eq_some_iff.mp hp).1
 have sepPre:∀q∈bR h (as.take i),q.1≠d:=by
  intro q hq
  refine dc (eD hq) fun j p' hj hq'=>?_
  rw[List.getElem?_take] at hj
  split at hj
  ·rename_i hji
   have z:=R.sep j i p' p (ne_of_lt hji) hj hp
   rcases hq' with r|r<;>rcases hd with ⟨rfl,_⟩|⟨rfl,_⟩<;>rw[r]<;>first|exact z.1|exact z.2.1|exact z.2.2.1|exact z.2.2.2
  ·cases hj
 have sepPost:∀q∈bR h (as.drop (i+1)),q.1≠d:=by
  intro q hq
  refine dc (eD hq) fun j p' hj hq'=>?_
  rw[List.getElem?_drop] at hj
  have z:=R.sep (i+1+j) i p' p (by lia) hj hp
  rcases hq' with r|r<;>rcases hd with ⟨rfl,_⟩|⟨rfl,_⟩<;>rw[r]<;>first|exact z.1|exact z.2.1|exact z.2.2.1|exact z.2.2.2
 have ow:=R.own p (mem_of_getElem? hp)
 have hlt:i < σ.hp.length:=by rw[←R.len];exact hlen
 refine bC (R.obj i _ p (getElem?_eq_getElem hlt) hp) fun u1 u2 a b _=>?_
 have own2:∀z,z=p.1∨z=p.2→z≠x.L∧x.h₀.get? z=none:=fun z hz=>hz.elim (fun r=>r ▸ ow.1) fun r=>r ▸ ow.2
 have he:∃oe,h.get? e=some oe:=hd.elim (fun r=>⟨u2,r.2 ▸ b⟩) fun r=>⟨u1,r.2 ▸ a⟩
 obtain⟨oe,hoe⟩:=he
 have sepE:∀q∈(if e=d then[] else[(e,oe)]:List (Addr×Obj)),q.1≠d:=by
  intro q hq
  split at hq
  ·cases hq
  ·obtain rfl:=mem_singleton.mp hq;assumption
 have NN:News x.h₀ x.L h ((bR h (as.take i)++(if e=d then[] else[(e,oe)]:List (Addr×Obj)))++(d,od)::bR h (as.drop (i+1))):=by
  intro q hq
  rcases mem_append.mp hq with q1|q1
  ·rcases mem_append.mp q1 with q1|q1
   ·exact N q (by rw[hs,cE];exact mem_append_left _ q1)
   ·split at q1
    ·cases q1
    ·obtain rfl:=mem_singleton.mp q1
     exact⟨hoe,own2 _ (hd.elim (fun r=>.inr r.2) fun r=>.inl r.2)⟩
  ·rcases mem_cons.mp q1 with rfl|q1
   ·refine⟨ho,?_⟩
    rcases hd with ⟨rfl,_⟩|⟨rfl,_⟩
    ·exact ow.1
    ·exact ow.2
   ·refine N q ?_
    rw[hs,cE]
    refine mem_append_right _ ?_
    show q∈bR h ([p]++_)
    rw[cE]
    exact mem_append_right _ q1
 refine⟨_,_,NN,fun q hq=>(mem_append.mp hq).elim (sepPre q) (sepE q),sepPost,fun h' od' o' F' N' hok=>?_⟩
 have hE:e≠d→h'.get? e=some oe:=fun k=>(N' (e,oe) (mem_append_left _ (mem_append_right _ (by rw[if_neg k];exact .head _)))).1
 have hd':h'.get? d=some od':=(N' (d,od') (mem_append_right _ (.head _))).1
 refine R.turnN hp Vr F' (fun j q hij e2=>?_) ?_
 ·have hj:j < σ.hp.length:=by rw[←R.len];exact(List.getElem?_eq_some_iff.mp e2).1
  refine bC (R.obj j _ q (getElem?_eq_getElem hj) e2) fun v1 v2 c1 c2 _=>?_
  have hm:∀z:Addr×Obj,z∈bR h as→z.1=q.1∨z.1=q.2→z∈(bR h (as.take i)++(if e=d then[] else[(e,oe)]:List (Addr×Obj)))++(d,od')::bR h (as.drop (i+1)):=by
   intro z hz hz'
   have sp:=R.sep j i q p hij e2 hp
   rw[hs,cE] at hz
   rcases mem_append.mp hz with hz|hz
   ·exact mem_append_left _ (mem_append_left _ hz)
   ·have hz:z∈bR h ([p]++as.drop (i+1)):=hz
    rw[cE] at hz
    rcases mem_append.mp hz with hz|hz
    ·exfalso
     simp only[bR,flatMap_cons,List.flatMap_nil,append_nil,mem_cons,not_mem_nil,or_false] at hz
     rcases hz with rfl|rfl<;>rcases hz' with r|r<;>dsimp only at r<;>first|exact sp.1 r.symm|exact sp.2.1 r.symm|exact sp.2.2.1 r.symm|exact sp.2.2.2 r.symm
    ·exact mem_append_right _ (.tail _ hz)
  have L1:=(N' _ (hm _ (gC (h:=h) e2).1 (.inl rfl))).1
  have L2:=(N' _ (hm _ (gC (h:=h) e2).2 (.inr rfl))).1
  dsimp only at L1 L2
  rw[c1] at L1;rw[c2] at L2
  exact⟨fun o e=>by rw[c1] at e;cases e;exact L1,fun o e=>by rw[c2] at e;cases e;exact L2⟩
 ·by_cases hed:e=d
  ·have h1:p.1=d:=hd.elim (fun r=>r.1.symm) fun r=>r.2.symm.trans hed
   have h2:p.2=d:=hd.elim (fun r=>r.2.symm.trans hed) fun r=>r.1.symm
   have:=hok od' (fun k=>absurd hed k)
   rw[if_pos h1.symm,if_pos h2.symm] at this
   exact⟨od',od',by rw[h1];exact hd',by rw[h2];exact hd',this⟩
  ·have hq:=hok oe fun _=>hoe
   rcases hd with ⟨r1,r2⟩|⟨r1,r2⟩
   ·rw[if_pos r1,if_neg (by rw[←r2];exact Ne.symm hed)] at hq
    exact⟨od',oe,by rw[←r1];exact hd',by rw[←r2];exact hE hed,hq⟩
   ·rw[if_pos r1,if_neg (by rw[←r2];exact Ne.symm hed)] at hq
    exact⟨oe,od',by rw[←r2];exact hE hed,by rw[←r1];exact hd',hq⟩
theorem aE.store(R:aE G x σ as h)(hn:x.names.Nodup){i:Nat}{y:Str}{v:V}{u:Value}(hy:x.names[i]? =some y)(hv:VR as v u){m:Str→Option Value}(Vr:iE x.names as σ.vars m)
  (F:Fr x.h₀ x.L h' (fun z=>if z=y then some u else m z)) (hs:Heap.SameBut x.L h h'):aE G x ⟨σ.vars.set i (some v),σ.hp⟩ as h':=by
 obtain⟨_,own,sep,len,obj,low⟩:=R
 refine⟨⟨_,F,fun j w e=>?_⟩,own,sep,len,fun i o p e1 e2=>?_,low⟩
 ·by_cases q:i=j
  ·subst q
   have hi:i < σ.vars.length:=by
    have:=(List.getElem?_eq_some_iff.mp e).1
    simpa using this
   rw[getElem?_set_self hi] at e;cases e
   exact⟨y,u,hy,by simp,hv⟩
  ·rw[getElem?_set_ne q] at e
   refine bC (Vr j w e) fun z u' c a b=>?_
   refine⟨z,u',c,?_,b⟩
   have:z≠y:=fun k=>by
    subst k
    exact q ((List.getElem?_inj (List.getElem?_eq_some_iff.mp hy).1 hn).mp (hy.trans c.symm))
   rw[if_neg this];exact a
 ·refine bC (obj i o p e1 e2) fun o1 o2 a b c=>?_
  have ow:=own p (mem_of_getElem? e2)
  exact⟨o1,o2,(hs.2 _ ow.1.1).trans a,(hs.2 _ ow.2.1).trans b,c⟩
end
noncomputable def cF:List V→Option (List Int)
 | []=>some []
 | .int i::r=>(cF r).map (i::·)
 |_::_=>none
set_option tactic.hygienic true in
theorem wI{as:As}{l:List V}{vs:List Value}{ns:List Int}(z:aj (VR as) l vs)(h:cF l=some ns):IntsAre vs ns:=by
 induction z generalizing ns with
 |nil=>cases h;exact .nil
 |cons hv _ ih=>
  rename_i a b l m hr
  cases a with
  |int i=>
   obtain⟨t,rfl⟩:=hv
   refine ak (map_eq_some_iff.mp (show(cF l).map (i::·)=some ns from h)) fun ms g q92=>?_;obtain rfl:=q92
   exact .cons i t (ih g)
  |_=>exact absurd h nofun
noncomputable def mK{β:Type}(v:V)(f:Int→Option β):Option β:=@V.casesOn (fun z=>Option β) v none (fun z=>none) f (fun z=>none) (fun z=>none) (fun z=>none) (fun z=>none)
noncomputable def GF{β:Type}(v:V)(f:Bs→Option β):Option β:=@V.casesOn (fun z=>Option β) v none (fun z=>none) (fun z=>none) f (fun z=>none) (fun z=>none) (fun z=>none)
noncomputable def Ij{β:Type}(v:V)(f:Str→Option β):Option β:=@V.casesOn (fun z=>Option β) v none (fun z=>none) (fun z=>none) (fun z=>none) f (fun z=>none) (fun z=>none)
noncomputable def G4{β:Type}(v:V)(f:Option β):Option β:=@V.casesOn (fun z=>Option β) v f (fun z=>none) (fun z=>none) (fun z=>none) (fun z=>none) (fun z=>none) (fun z=>none)
noncomputable def GG{β:Type}(v:V)(f:Nat→Option β):Option β:=@V.casesOn (fun z=>Option β) v none (fun z=>none) (fun z=>none) (fun z=>none) (fun z=>none) f (fun z=>none)
theorem bt{α:Type}{a:α}{P:Prop}(h:none=some a):P:=nomatch h
section
variable {β:Type}{v:V}{r:β}{M:V→Prop}
@[elab_as_elim] theorem onI_i{f:Int→Option β}(h:mK v f=some r)(k:∀i,f i=some r→M (.int i)):M v:=by cases v<;>first|exact k _ h|exact bt h
@[elab_as_elim] theorem onB_i{f:Bs→Option β}(h:GF v f=some r)(k:∀i,f i=some r→M (.bytes i)):M v:=by cases v<;>first|exact k _ h|exact bt h
@[elab_as_elim] theorem onS_i{f:Str→Option β}(h:Ij v f=some r)(k:∀i,f i=some r→M (.str i)):M v:=by cases v<;>first|exact k _ h|exact bt h
@[elab_as_elim] theorem onN_i{f:Option β}(h:G4 v f=some r)(k:f=some r→M .none):M v:=by cases v<;>first|exact k h|exact bt h
@[elab_as_elim] theorem onR_i{f:Nat→Option β}(h:GG v f=some r)(k:∀i,f i=some r→M (.ref i)):M v:=by cases v<;>first|exact k _ h|exact bt h
end
@[elab_as_elim] theorem some_i{α:Type}{a b:α}{M:α→Prop}(h:some a=some b)(k:M a):M b:=by cases h;exact k
theorem ry{α:Type}{p:Prop}{_:Decidable p}{a:Option α}{r:α}{P:Prop}(h:(if p then a else none)=some r)(k:p→a=some r→P):P:=by
 by_cases q:p
 ·rw[if_pos q] at h;exact k q h
 ·rw[if_neg q] at h;cases h
noncomputable def Ek(a b:V):Option V:=@V.casesOn (fun z=>Option V) a none (fun z=>none) (fun i=>mK b fun j=>some (.int (i+j))) (fun x=>GF b fun y=>if x.length+y.length≤16777216 then some (.bytes (x++y)) else none) (fun z=>none) (fun z=>none) (fun z=>none)
noncomputable def o7(a b:V)(f:Int→Int→Option V):Option V:=mK a fun i=>mK b fun j=>f i j
noncomputable def tH(op:Operator)(a b:V):Option V:=match op with
 | .Add=>Ek a b
 | .Sub=>o7 a b fun i j=>some (.int (i - j))
 | .Mult=>o7 a b fun i j=>if i.natAbs≤16∨j.natAbs≤16 then some (.int (i * j)) else none
 | .FloorDiv=>o7 a b fun i j=>if j=2∨j=10 then some (.int (i.fdiv j)) else none
 | .Mod=>o7 a b fun i j=>if j≠0 then some (.int (i.fmod j)) else none
 | .LShift=>o7 a b fun i j=>if i=1∧0≤j∧j≤64 then some (.int (2 ^ j.toNat)) else none
 | .BitAnd=>o7 a b fun i j=>some (.int (Builtin.bitAnd i j))
 | .MatMult=>none
 | .Div=>none
 | .Pow=>none
 | .RShift=>none
 | .BitOr=>none
 | .BitXor=>none
noncomputable def isNone? :V→Option Bool
 | .none=>some true
 | .sta _=>none
 | .bool _=>some false
 | .int _=>some false
 | .bytes _=>some false
 | .str _=>some false
 | .ref _=>some false
noncomputable def Ik(a b:V):Option Bool:=@V.casesOn (fun z=>Option Bool) a none (fun z=>none) (fun i=>mK b fun j=>some (decide (i=j))) (fun x=>GF b fun y=>some (x==y)) (fun x=>Ij b fun y=>some (x==y)) (fun z=>none) (fun z=>none)
noncomputable def Il(a b:V):Option Bool:=@V.casesOn (fun z=>Option Bool) a (@V.casesOn (fun z=>Option Bool) b (some false) (fun z=>none) (fun z=>none) (fun z=>none) (fun z=>some true) (fun z=>none) (fun z=>none)) (fun z=>none) (fun i=>mK b fun j=>some (!decide (i=j))) (fun x=>GF b fun y=>some (!(x==y)))
 (fun x=>@V.casesOn (fun z=>Option Bool) b (some true) (fun z=>none) (fun z=>none) (fun z=>none) (fun y=>some (!(x==y))) (fun z=>none) (fun z=>none)) (fun z=>none) (fun z=>none)
noncomputable def jX(H:Hp)(t:Nat):Option (List Int):=match H[t]? with
  |some (.tup l)=>cF l
  |_=>none
noncomputable def aQ(H:Hp)(op:CmpOp)(a b:V):Option Bool:=match op with
 | .Eq=>Ik a b
 | .NotEq=>Il a b
 | .Lt=>mK a fun i=>mK b fun j=>some (decide (i < j))
 | .LtE=>mK a fun i=>mK b fun j=>some (decide (i≤j))
 | .Gt=>mK a fun i=>mK b fun j=>some (decide (j < i))
 | .GtE=>mK a fun i=>mK b fun j=>some (decide (j≤i))
 | .Is=>G4 b (isNone? a)
 | .IsNot=>G4 b ((isNone? a).map not)
 | .In=>mK a fun i=>@V.casesOn (fun z=>Option Bool) b none (fun z=>none) (fun z=>none) (fun b=>if 0≤i∧i < 256 then some (b.contains i.toNat.toUInt8) else none) (fun z=>none) (fun t=>(jX H t).map fun ns=>ns.any (·==i)) (fun z=>none)
 | .NotIn=>mK a fun i=>GG b fun t=>(jX H t).map fun ns=>!(ns.any (·==i))
section
variable {G:bB}{x:Fx}{as:As}{σ σ':St}
theorem k9{i j:Int}(h:i.natAbs≤16∨j.natAbs≤16):IntMulOk i j:=by
 have key:∀k:Int,k.natAbs≤16→Builtin.Int.intBits k≤64:=by
  intro k hk
  unfold Builtin.Int.intBits
  split
  ·exact zero_le _
  ·exact succ_le_succ (le_trans (Nat.log2_le_self _) (le_trans hk (by decide)))
 exact h.elim (fun h=>IntMulOk.of_left (key i h)) fun h=>IntMulOk.of_right (key j h)
theorem wJ{i j:Int}(h:j=2∨j=10):Builtin.divisionGoesByPylong i j=false:=by
 unfold Builtin.divisionGoesByPylong
 rcases h with rfl|rfl<;>simp<;>intro h<;>exact absurd h (by decide)
theorem wK{prog:Program}{w:World}{A:Around}{E:Value→Shared→Prop}{s:Shared}{b:Bs}{i:Int}{t u:Tok}{Q:Value→Shared→Prop}(h0:0≤i)(h1:i < 256)
  (h:Q (.bool (b.contains i.toNat.toUInt8)) s):wpAny (model prog w) A (compareOp .In (.int i u) (.bytes b.toArray t)) Q E s:=by
 refine in_gives (r:=b.contains i.toNat.toUInt8) (W.typeIs_bytes s _ t) FB.slot_bytes_contains FB.entry_bytes_contains (FB.args_bytes_contains_2 _ _) ?_ h
 refine .of_wp fun M A E s Q hq=>?_
 show wpAny M A (Builtin.Bytes.containsIn "bytes.__contains__" (.bytes b.toArray t) (.int i u)>>=fun r=>ret (.bool r)) _ E s
 refine wpAny_bind ?_
 unfold Builtin.Bytes.containsIn
 refine wpAny_bind (wpAny_attempt (wpAny_of_eq (a:=i) rfl ?_))
 rw[KBy.buffer_eq]
 refine wpAny_bind (wpAny_pure ?_)
 dsimp only
 rw[if_neg (by simp;lia)]
 exact wpAny_pure (wpAny_pure ⟨_,rfl,by
  have hq':Q (.bool (b.contains i.toNat.toUInt8)) s:=hq
  simpa using hq'⟩)
theorem gD{a b r:V}{va vb:Value}{t:Sem Value}{f:Int→Int→Option V}(h:o7 a b f=some r)(ha:VR as a va)(hb:VR as b vb)(k:∀i j u w,va=.int i u→vb=.int j w→f i j=some r→ah G x as σ t VR (.ok r σ)):ah G x as σ t VR (.ok r σ):=by
 unfold o7 at h
 revert ha hb
 refine onI_i h fun i h=>?_
 refine onI_i h fun j h=>?_
 intro⟨u,hu⟩ ⟨w,hw⟩
 exact k i j u w hu hw h
theorem BK{a b r:V}{va vb:Value}(h:Ek a b=some r)(ha:VR as a va)(hb:VR as b vb):ah G x as σ (binaryOp .Add va vb) VR (.ok r σ):=by
 cases a with
 |int i=>
  obtain⟨t,rfl⟩:=ha
  revert hb
  refine onI_i (v:=b) h fun j h=>some_i h ?_
  intro⟨u,hu⟩
  subst hu
  exact .of_wp fun s Q E hr k=>add_int (k _ _ ⟨_,rfl⟩)
 |bytes x=>
  obtain⟨t,rfl⟩:=ha
  revert hb
  refine onB_i (v:=b) h fun y h=>ry h fun q h=>some_i h ?_
  intro⟨u,hu⟩
  subst hu
  exact .of_wp fun s Q E hr k=>KBy.add_bytes (by simpa using q) fun t' c=>k _ _ ⟨t',by simp⟩
 |_=>cases h
theorem wL{op:Operator}{a b r:V}{va vb:Value}(h:tH op a b=some r)(ha:VR as a va)(hb:VR as b vb):ah G x as σ (binaryOp op va vb) VR (.ok r σ):=by
 cases op with
 |Add=>exact BK h ha hb
 |Sub=>exact gD h ha hb fun i j u w e1 e2 h=>e1 ▸ e2 ▸ some_i h (.of_wp fun s Q E hr k=>sub_int (k _ _ ⟨_,rfl⟩))
 |Mult=>exact gD h ha hb fun i j u w e1 e2 h=>e1 ▸ e2 ▸ ry h fun q h=>some_i h (.of_wp fun s Q E hr k=>mul_int (k _ _ ⟨_,rfl⟩) (k9 q))
 |FloorDiv=>exact gD h ha hb fun i j u w e1 e2 h=>e1 ▸ e2 ▸ ry h fun q h=>some_i h (.of_wp fun s Q E hr k=>floordiv_int (by rcases q with rfl|rfl<;>decide) (k _ _ ⟨_,rfl⟩) (.inl (wJ q)))
 |Mod=>exact gD h ha hb fun i j u w e1 e2 h=>e1 ▸ e2 ▸ ry h fun q h=>some_i h (.of_wp fun s Q E hr k=>mod_int' q (k _ _ ⟨_,rfl⟩))
 |LShift=>exact gD h ha hb fun i j u w e1 e2 h=>e1 ▸ e2 ▸ ry h fun q h=>some_i h (q.1 ▸ .of_wp fun s Q E hr k=>lshift_int_small q.2.1 (by have:=q.2.2;lia) (by decide) (k _ _ ⟨_,by rw[Int.one_mul]⟩))
 |BitAnd=>exact gD h ha hb fun i j u w e1 e2 h=>e1 ▸ e2 ▸ some_i h (.of_wp fun s Q E hr k=>and_int (k _ _ ⟨_,rfl⟩))
 |_=>cases h
theorem vg{v:V}{u:Value}{r:Bool}(h:isNone? v=some r)(hv:VR as v u){s:Shared}{A:Around}{Q:Value→Shared→Prop}{E:Value→Shared→Prop}(hq:Q (.bool r) s):wpAny (model G.prog G.w) A (compareOp .Is u .none) Q E s:=by
 cases v<;>cases h
 ·cases hv;exact is_none_none hq
 ·cases hv;exact is_bool_none hq
 ·obtain⟨t,rfl⟩:=hv;exact is_int_none hq
 ·obtain⟨t,rfl⟩:=hv;exact is_bytes_none hq
 ·obtain⟨t,rfl⟩:=hv;exact is_str_none hq
 ·obtain⟨t,_,rfl⟩:=hv;exact is_ref_none hq
theorem nK{v:V}{u:Value}{r:Bool}(h:isNone? v=some r)(hv:VR as v u){s:Shared}{A:Around}{Q:Value→Shared→Prop}{E:Value→Shared→Prop}(hq:Q (.bool (!r)) s):wpAny (model G.prog G.w) A (compareOp .IsNot u .none) Q E s:=by
 cases v<;>cases h
 ·cases hv;exact isnot_none_none hq
 ·cases hv;exact isnot_bool_none hq
 ·obtain⟨t,rfl⟩:=hv;exact isnot_int_none hq
 ·obtain⟨t,rfl⟩:=hv;exact isnot_bytes_none hq
 ·obtain⟨t,rfl⟩:=hv;exact isnot_str_none hq
 ·obtain⟨t,_,rfl⟩:=hv;exact isnot_ref_none hq
theorem aE.tupAt{h:Heap}(R:aE G x σ as h){i:Nat}{l:List V}(e:σ.hp[i]? =some (.tup l)):∃p vs,as[i]? =some p∧IsTup h p.1 vs.toArray∧aj (VR as) l vs:=by
 obtain⟨p,o1,o2,a,b,c,vs,n,rfl,d⟩:=R.get e
 exact⟨p,vs,a,⟨_,b,rfl,⟨_,rfl⟩⟩,d⟩
theorem BL{a b:V}{r:Bool}{va vb:Value}(h:Ik a b=some r)(ha:VR as a va)(hb:VR as b vb):ah G x as σ (compareOp .Eq va vb) VR (.ok (.bool r) σ):=by
 cases a with
 |int i=>
  obtain⟨t,rfl⟩:=ha
  revert hb
  refine onI_i (v:=b) h fun j h=>some_i h ?_
  intro⟨u,hu⟩
  subst hu
  exact .of_wp fun s Q E hr k=>eq_int (k _ _ rfl)
 |bytes i=>
  obtain⟨t,rfl⟩:=ha
  revert hb
  refine onB_i (v:=b) h fun j h=>some_i h ?_
  intro⟨u,hu⟩
  subst hu
  exact .of_wp fun s Q E hr k=>eq_bytes (k _ _ (by simp[VR]))
 |str i=>
  obtain⟨t,rfl⟩:=ha
  revert hb
  refine onS_i (v:=b) h fun j h=>some_i h ?_
  intro⟨u,hu⟩
  subst hu
  exact .of_wp fun s Q E hr k=>eq_str (k _ _ rfl)
 |_=>cases h
theorem BM{a b:V}{r:Bool}{va vb:Value}(h:Il a b=some r)(ha:VR as a va)(hb:VR as b vb):ah G x as σ (compareOp .NotEq va vb) VR (.ok (.bool r) σ):=by
 cases a with
 |none=>
  cases ha
  cases b with
  |none=>cases hb;cases h;exact .of_wp fun s Q E hr k=>EqNone.ne_none_none (k _ _ rfl)
  |str y=>obtain⟨u,rfl⟩:=hb;cases h;exact .of_wp fun s Q E hr k=>EqNone.ne_none_str (k _ _ rfl)
  |_=>cases h
 |int i=>
  obtain⟨t,rfl⟩:=ha
  revert hb
  refine onI_i (v:=b) h fun j h=>some_i h ?_
  intro⟨u,hu⟩
  subst hu
  exact .of_wp fun s Q E hr k=>ne_int (k _ _ rfl)
 |bytes i=>
  obtain⟨t,rfl⟩:=ha
  revert hb
  refine onB_i (v:=b) h fun j h=>some_i h ?_
  intro⟨u,hu⟩
  subst hu
  exact .of_wp fun s Q E hr k=>ne_bytes (k _ _ (by simp[VR,bne]))
 |str i=>
  obtain⟨t,rfl⟩:=ha
  cases b with
  |none=>cases hb;cases h;exact .of_wp fun s Q E hr k=>EqNone.ne_str_none (k _ _ rfl)
  |str y=>obtain⟨u,rfl⟩:=hb;cases h;exact .of_wp fun s Q E hr k=>ne_str (k _ _ rfl)
  |_=>cases h
 |_=>cases h
theorem o8{t:Nat}{ns:List Int}{h:Heap}{u:Value}(e:jX σ.hp t=some ns)(R:aE G x σ as h)(hb:VR as (.ref t) u):∃p vs,u=.ref p∧IsTup h p vs∧IntsAre vs.toList ns:=by
 unfold jX at e
 cases ho:σ.hp[t]? with
 |none=>rw[ho] at e;cases e
 |some o=>
  rw[ho] at e
  cases o with
  |tup l=>
   refine ak hb fun p hp q92=>?_;obtain rfl:=q92
   refine bC (R.tupAt ho) fun p' vs q1 q2 q3=>?_
   rw[hp] at q1;cases q1
   exact⟨_,_,rfl,q2,wI q3 e⟩
  |_=>cases e
theorem kI{a b:V}{r:Bool}{va vb:Value}{t:Sem Value}{f:Int→Int→Bool}(h:(mK a fun i=>mK b fun j=>some (f i j))=some r)(ha:VR as a va)(hb:VR as b vb)(k:∀i j u w,va=.int i u→vb=.int j w→ah G x as σ t VR (.ok (.bool (f i j)) σ)):ah G x as σ t VR (.ok (.bool r) σ):=by
 revert ha hb
 refine onI_i (v:=a) h fun i h=>onI_i (v:=b) h fun j h=>some_i h ?_
 intro⟨u,hu⟩ ⟨w,hw⟩
 exact k i j u w hu hw
theorem la{op:CmpOp}{a b:V}{r:Bool}{va vb:Value}(h:aQ σ.hp op a b=some r)(ha:VR as a va)(hb:VR as b vb):ah G x as σ (compareOp op va vb) VR (.ok (.bool r) σ):=by
 cases op with
 |Eq=>exact BL h ha hb
 |NotEq=>exact BM h ha hb
 |Lt=>exact kI h ha hb fun i j u w e1 e2=>e1 ▸ e2 ▸ .of_wp fun s Q E hr k=>lt_int (k _ _ rfl)
 |LtE=>exact kI h ha hb fun i j u w e1 e2=>e1 ▸ e2 ▸ .of_wp fun s Q E hr k=>le_int (k _ _ rfl)
 |Gt=>exact kI h ha hb fun i j u w e1 e2=>e1 ▸ e2 ▸ .of_wp fun s Q E hr k=>gt_int (k _ _ rfl)
 |GtE=>exact kI h ha hb fun i j u w e1 e2=>e1 ▸ e2 ▸ .of_wp fun s Q E hr k=>ge_int (k _ _ rfl)
 |Is=>
  revert hb
  refine onN_i (v:=b) h fun h=>?_
  intro hb
  cases hb
  exact .of_wp fun s Q E hr k=>vg h ha (k _ _ rfl)
 |IsNot=>
  revert hb
  refine onN_i (v:=b) h fun h=>?_
  intro hb
  cases hb
  refine ak (map_eq_some_iff.mp h) fun q h1 q92=>?_;obtain rfl:=q92
  exact .of_wp fun s Q E hr k=>nK h1 ha (k _ _ rfl)
 |In=>
  revert ha
  refine onI_i (v:=a) h fun i h=>?_
  intro⟨u,hu⟩
  subst hu
  cases b with
  |bytes b=>
   obtain⟨w,rfl⟩:=hb
   exact ry h fun q h=>some_i h (.of_wp fun s Q E hr k=>wK q.1 q.2 (k _ _ rfl))
  |ref t=>
   refine ak (map_eq_some_iff.mp h) fun ns h1 q92=>?_;obtain rfl:=q92
   refine .of_wp fun s Q E hr k=>?_
   refine bC (o8 h1 hr hb) fun p vs q92 q2 q3=>?_;obtain rfl:=q92
   exact in_tuple_ints q2 q3 (k _ _ rfl)
  |_=>cases h
 |NotIn=>
  revert ha
  refine onI_i (v:=a) h fun i h=>?_
  intro⟨u,hu⟩
  subst hu
  revert hb
  refine onR_i (v:=b) h fun t h=>?_
  intro hb
  refine ak (map_eq_some_iff.mp h) fun ns h1 q92=>?_;obtain rfl:=q92
  refine .of_wp fun s Q E hr k=>?_
  refine bC (o8 h1 hr hb) fun p vs q92 q2 q3=>?_;obtain rfl:=q92
  exact notin_tuple_ints q2 q3 (k _ _ rfl)
structure lb(K:Frag)(C:Addr):Prop where
 plain:∀n,plainGet K C n=true
 hasDict:hasDictIn K C=true
 over:plainOver K C=true
 store:findIn K (.ref C) "__setattr__"=some (some (.builtin "object.__setattr__"))
 anyD:(clsIn K C).any (·.hasDict)=true
structure o9(K:Frag)(C:Addr)(n:Str):Prop where
 free:findIn K (.ref C) n=some none
 taker:takerIn K C n=some none
set_option tactic.hygienic true in
theorem nM{fs:List (Nat×V)}{es:List DictEntry}(nd:G.atts.Nodup)(h:aj (ER G as) fs es){n:Nat}{y:Str}(hy:G.atts[n]? =some y):
  (match fs.lookup n with
   |some v=>∃u,getL y es=some (some u)∧VR as v u
   |none=>getL y es=some none):=by
 have key:∀{fs es},aj (ER G as) fs es→(match fs.lookup n with
   |some v=>∃e,es.find? (·.key.isStr y)=some e∧VR as v e.val
   |none=>es.find? (·.key.isStr y)=none)∧es.any (·.refKey)=false:=by
  intro fs es h
  induction h with
  |nil=>exact⟨rfl,rfl⟩
  |cons hx _ ih=>
   rename_i f e l m _
   obtain⟨⟨z,t,hz,hk⟩,hv⟩:=hx
   refine⟨?_,by rw[any_cons,ih.2,Bool.or_false];simp[DictEntry.refKey,hk]⟩
   obtain⟨k,v⟩:=f
   rw[lookup_cons,List.find?_cons]
   have hs:e.key.isStr y=(z==y):=by rw[hk];rfl
   rw[hs]
   by_cases q:n=k
   ·subst q
    rw[hy] at hz;cases hz
    simp only[beq_self_eq_true]
    exact⟨e,rfl,hv⟩
   ·have:z≠y:=fun c=>by
     subst c
     exact q ((List.getElem?_inj (List.getElem?_eq_some_iff.mp hy).1 nd).mp (hy.trans hz.symm))
    rw[beq_false_of_ne this,beq_false_of_ne q]
    exact ih.1
 obtain⟨a,b⟩:=key h
 cases q:fs.lookup n with
 |some v=>rw[q] at a;obtain⟨e,c,d⟩:=a;exact⟨e.val,by unfold getL;rw[c],d⟩
 |none=>rw[q] at a;show getL y es=some none;unfold getL;rw[a,b];rfl
noncomputable def jl(n:Nat)(v:V):List (Nat×V)→List (Nat×V)
 | []=>[(n,v)]
 |(k,u)::r=>if k==n then(k,v)::r else(k,u)::jl n v r
theorem pd(n k:Nat)(v:V):∀fs,(jl n v fs).lookup k=if k=n then some v else fs.lookup k
 | []=>by
  unfold jl
  by_cases e:k=n
  ·subst e;simp
  ·simp only[lookup_cons,if_neg e];rw[beq_false_of_ne e]
 |(u,w)::r=>by
  unfold jl
  by_cases e:u=n
  ·subst e
   simp only[beq_self_eq_true,if_true,lookup_cons]
   by_cases f:k=u
   ·subst f;simp
   ·rw[beq_false_of_ne f,if_neg f]
  ·rw[beq_false_of_ne e]
   simp only[false_eq_true,if_false,lookup_cons]
   rw[pd n k v r]
   by_cases f:k=u
   ·subst f;simp only[beq_self_eq_true];rw[if_neg e]
   ·rw[beq_false_of_ne f]
theorem rz{h:Heap}{p:Addr×Addr}{C:Addr}{es:List DictEntry}{n:Nat}(h1:h.get? p.1=some (instObj C p.2))(h2:h.get? p.2=some (dictOf es n)):InstAt h p.1 (instObj C p.2) C (some (dictOf es n)):=
 ⟨h1,rfl,rfl,h2⟩
theorem vh{v:V}{u:Value}(h:VR as v u)(hs:∀w,v=.sta w→handedIn w=true):handedIn u=true:=by
 cases v with
 |none=>cases h;rfl
 |bool b=>cases h;rfl
 |int i=>obtain⟨t,rfl⟩:=h;rfl
 |bytes b=>obtain⟨t,rfl⟩:=h;rfl
 |str b=>obtain⟨t,rfl⟩:=h;rfl
 |ref i=>obtain⟨t,_,rfl⟩:=h;rfl
 |sta w=>cases h;exact hs _ rfl
theorem BN{i:Nat}{p:Addr×Addr}{C:Addr}{fs:List (Nat×V)}{n:Nat}{y:Str}{v:V}(ok:x.Ok G)(nd:G.atts.Nodup)(co:lb G.K C)(fo:o9 G.K C y)(hs:∀w,v≠.sta w)
  (hy:G.atts[n]? =some y) (hi:σ.hp[i]? =some (.inst C fs)) (hp:as[i]? =some p) (hv:fs.lookup n=some v):ah G x as σ (getAttr (.ref p.1) y true) VR (.ok v σ):=by
 refine .of_wp fun s Q E hr k=>?_
 obtain⟨p',o1,o2,hp',h1,h2,rfl,es,m,rfl,he⟩:=hr.get hi
 rw[hp] at hp';cases hp'
 refine ak hr.fr fun mm F z=>?_
 have q:=nM nd he hy
 rw[hv] at q
 refine ak q fun u q1 q2=>?_
 exact get_own F ok.X (rz h1 h2) (co.plain _) co.hasDict fo.free rfl q1 (vh q2 fun w e=>absurd e (hs w)) (k _ _ q2)
theorem BO{i:Nat}{p:Addr×Addr}{C f:Addr}{fs:List (Nat×V)}{n:Nat}{y:Str}{pl:Sem Bool}(ok:x.Ok G)(nd:G.atts.Nodup)(co:lb G.K C)(hf:findIn G.K (.ref C) y=some (some (.ref f)))(hfn:isFn G.K (.ref f)=true)
  (hy:G.atts[n]? =some y) (hi:σ.hp[i]? =some (.inst C fs)) (hp:as[i]? =some p) (hv:fs.lookup n=none):
  ah G x as σ (getMethod (.ref p.1) y pl) (fun _ (_:Unit) r=>r=(.ref f,[.ref p.1])) (.ok () σ):=by
 refine .of_wp fun s Q E hr k=>?_
 obtain⟨p',o1,o2,hp',h1,h2,rfl,es,m,rfl,he⟩:=hr.get hi
 rw[hp] at hp';cases hp'
 refine ak hr.fr fun mm F _=>?_
 have q:=nM nd he hy
 rw[hv] at q
 exact method_inst F ok.X (rz h1 h2) (co.plain _) hf hfn q (k _ s.toks rfl)
set_option tactic.hygienic true in
theorem BP{fs:List (Nat×V)}{es:List DictEntry}(nd:G.atts.Nodup)(h:aj (ER G as) fs es){n:Nat}{y:Str}(hy:G.atts[n]? =some y){v:V}{u:Value}(hv:VR as v u){hsh:Int}{t:Tok}:
  aj (ER G as) (jl n v fs) (putL y hsh (.str y t) u es):=by
 induction h with
 |nil=>exact .cons ⟨⟨y,t,hy,rfl⟩,hv⟩ .nil
 |cons hx hr ih=>
  rename_i f e l m
  obtain⟨⟨z,t',hz,hk⟩,hw⟩:=hx
  obtain⟨k,w⟩:=f
  unfold jl putL
  have hs:e.key.isStr y=(z==y):=by rw[hk];rfl
  rw[hs]
  by_cases q:k=n
  ·subst q
   rw[hy] at hz;cases hz
   simp only[beq_self_eq_true,if_true]
   exact .cons ⟨⟨y,t',hy,hk⟩,hv⟩ hr
  ·have:z≠y:=fun c=>by
    subst c
    exact q ((List.getElem?_inj (List.getElem?_eq_some_iff.mp hy).1 nd).mp (hy.trans hz.symm)).symm
   rw[beq_false_of_ne this,beq_false_of_ne q]
   exact .cons ⟨⟨z,t',hz,hk⟩,hw⟩ ih
theorem jY(name:Str)(hsh:Int)(key v:Value):∀es,(putL name hsh key v es).length≤es.length+1
 | []=>by simp[putL]
 |e::r=>by
  unfold putL
  split
  ·simp
  ·simp only[length_cons];have:=jY name hsh key v r;lia
theorem vi{i:Nat}{p:Addr×Addr}{C:Addr}{fs:List (Nat×V)}{n:Nat}{y:Str}{v:V}{u:Value}(ok:x.Ok G)(nd:G.atts.Nodup)(co:lb G.K C)(fo:o9 G.K C y)
  (hy:G.atts[n]? =some y) (hi:σ.hp[i]? =some (.inst C fs)) (hp:as[i]? =some p) (hv:VR as v u) (hl:fs.length≤100):
  ah G x as σ (setAttr (.ref p.1) y u) (fun _ (_:Unit) (_:Unit)=>True) (.ok () ⟨σ.vars,σ.hp.set i (.inst C (jl n v fs))⟩):=by
 refine .of_any fun s Q E hr k=>?_
 obtain⟨p',o1,o2,hp',h1,h2,rfl,es,m,rfl,he⟩:=hr.get hi
 rw[hp] at hp';cases hp'
 refine ak hr.fr fun mm F Vr=>?_
 refine Bz (hr.upd hp Vr p.2 p.1 (.inr ⟨rfl,rfl⟩) h2) fun pre post N sp1 sp2 done=>?_
 have X:=ok.X.keeps F.keep
 have I:=rz h1 h2
 have q:=nM nd he hy
 have hg:(lookIn y (dictOf es m)).isSome=true:=by
  rw[lookIn_dict]
  cases e:fs.lookup n with
  |some v=>rw[e] at q;obtain⟨u,q,_⟩:=q;rw[q];rfl
  |none=>rw[e] at q;rw[q];rfl
 have hne:p.1≠p.2:=fun c=>by rw[c,h2] at h1;cases h1
 refine set_plain X I co.store (osa_dict (s:={ s with toks:=s.toks+1 }) F N X I rfl co.over fo.taker co.anyD hg sp1 sp2 (putName_dict ..) rfl (by have:=jY y (PyData.keyHash G.w.params y) (.str y (s.toks+1)) u es;have:=he.length;dsimp only;lia) fun h' F' N'=>?_)
 refine k () as h' _ (prefix_refl _) (done h' _ _ F' N' fun oe hoe=>?_) trivial
 have:oe=instObj C p.2:=by have:=hoe hne;rw[h1] at this;cases this;rfl
 subst this
 rw[if_neg (Ne.symm hne),if_pos rfl]
 exact⟨rfl,_,_,rfl,BP nd he hy hv⟩
theorem rA{l:List V}{vs:List Value}(hv:aj (VR as) l vs)(hz:l.length≤16777216):ah G x as σ (newTuple vs) VR (.ok (.ref σ.hp.length) ⟨σ.vars,σ.hp++[.tup l]⟩):=by
 refine .of_any fun s Q E hr k=>?_
 refine wpAny_newObj_type ?_ (by show vs.toArray.size≤sizeLine;rw[size_toArray,sizeLine_eq,←hv.length];exact hz)
 refine k _ _ _ s.toks (prefix_append as _) (hr.push rfl ⟨vs,0,rfl,hv⟩) ⟨(s.heap.objs.size,s.heap.objs.size),by rw[←hr.len];simp,rfl⟩
theorem vj{l:List V}{vs:List Value}(hv:aj (VR as) l vs)(hz:l.length≤16777216):ah G x as σ (newList vs) VR (.ok (.ref σ.hp.length) ⟨σ.vars,σ.hp++[.list l]⟩):=by
 refine .of_any fun s Q E hr k=>?_
 refine wpAny_newObj_type ?_ (by show vs.toArray.size≤sizeLine;rw[size_toArray,sizeLine_eq,←hv.length];exact hz)
 refine k _ _ _ s.toks (prefix_append as _) (hr.push rfl ⟨vs,0,rfl,hv⟩) ⟨(s.heap.objs.size,s.heap.objs.size),by rw[←hr.len];simp,rfl⟩
theorem AX{i:Nat}{y:Str}{v:V}{pos:Pos}(ok:x.Ok G)(hy:x.names[i]? =some y)(hk:x.cs.names.lookup y=some .local)(hd:(y==("__debug__":Str))=false)(hv:σ.vars[i]? =some (some v)):
  ah G x as σ (eval (.Name y pos) x.env) VR (.ok v σ):=by
 refine .of_wp fun s Q E hr k=>?_
 refine bC (hr.lookup hv hy) fun m u F a b=>?_
 exact nameX_L F a (k _ s.toks b) ok.hk hk hd
theorem zr{i:Nat}{y:Str}{v:V}{u:Value}(ok:x.Ok G)(hy:x.names[i]? =some y)(hk:x.cs.names.lookup y=some .local)(hv:VR as v u):
  ah G x as σ (storeName x.env y u) (fun _ (_:Unit) (_:Unit)=>True) (.ok () ⟨σ.vars.set i (some v),σ.hp⟩):=by
 refine .of_any fun s Q E hr k=>?_
 refine ak hr.fr fun m F Vr=>?_
 refine wpAny_storeName_local hk F.ns (fun h' hn hs=>?_) (by show(x.cs.kind== .class||(x.cs.kind== .module&&x.L != mainGlobals))=false;rw[ok.hk];rfl)
 exact k () as h' _ (prefix_refl _) (hr.store ok.nodup hy hv Vr (F.set hn hs) hs) trivial
noncomputable def ce(G:bB)(y:Str)(v:V):Prop:=
 (∃u,nsIn G.K mainGlobals y=some (some u)∧VR [] v u)∨(nsIn G.K mainGlobals y=some none∧y≠"__name__"∧∃u,bootBuiltins y=some u∧VR [] v u)
theorem AY{y:Str}{v:V}{pos:Pos}(ok:x.Ok G)(h:ce G y v)(hk:x.cs.names.lookup y=some .globalImplicit)(hd:(y==("__debug__":Str))=false):
  ah G x as σ (eval (.Name y pos) x.env) VR (.ok v σ):=by
 refine .of_wp fun s Q E hr k=>?_
 refine ak hr.fr fun m F Vr=>?_
 rcases h with ⟨u,a,b⟩|⟨a,c,u,d,b⟩
 ·exact nameX_K F ok.X ok.T a (k _ s.toks (b.mono (nil_prefix))) ok.hk hk hd
 ·exact nameX_B F ok.X ok.T a d c (k _ s.toks (b.mono (nil_prefix))) ok.hk hk hd
end
noncomputable def wM(a b:V):Bool:=@V.casesOn (fun z=>Bool) a (@V.casesOn (fun z=>Bool) b true (fun z=>false) (fun z=>false) (fun z=>false) (fun z=>false) (fun z=>false) (fun z=>false)) (fun a=>(@V.casesOn (fun z=>Bool) b false (fun b=>a==b) (fun z=>false) (fun z=>false) (fun z=>false) (fun z=>false) (fun z=>false))) (fun a=>(@V.casesOn (fun z=>Bool) b false (fun z=>false) (fun b=>decide (a=b)) (fun z=>false) (fun z=>false) (fun z=>false) (fun z=>false))) (fun a=>(@V.casesOn (fun z=>Bool) b false (fun z=>false) (fun z=>false) (fun b=>a==b) (fun z=>false) (fun z=>false) (fun z=>false))) (fun a=>(@V.casesOn (fun z=>Bool) b false (fun z=>false) (fun z=>false) (fun z=>false) (fun b=>a==b) (fun z=>false) (fun z=>false))) (fun a=>(@V.casesOn (fun z=>Bool) b false (fun z=>false) (fun z=>false) (fun z=>false) (fun z=>false) (fun b=>decide (a=b)) (fun z=>false))) (fun a=>(@V.casesOn (fun z=>Bool) b false (fun z=>false) (fun z=>false) (fun z=>false) (fun z=>false) (fun z=>false) (fun b=>decide (a=b))))
theorem rB{a b:V}(h:wM a b=true):a=b:=by
 cases a<;>cases b<;>first|exact Bool.noConfusion h|rfl|exact congrArg _ (beq_iff_eq.mp h)|exact congrArg _ (of_decide_eq_true h)
set_option genCtorIdx false in
mutual
inductive E where
 |con (v:V)
 |loc (i:Nat)
 |attr (e:E) (n:Nat)
 |bin (op:Operator) (l r:E)
 |neg (e:E)
 |not (e:E)
 |and (a b:E)
 |or (a b:E)
 |cmp (op:CmpOp) (l r:E)
 |cmp2 (o1 o2:CmpOp) (a b c:E)
 |ite (c a b:E)
 |call (f:E) (as:Es)
 |meth (o:E) (m:Nat) (as:Es)
 |list (es:Es)
 |tup (es:Es)
 |dict
 |sub (e i:E)
 |slc (e lo hi:E)
inductive Es where
 |nil
 |cons (e:E) (r:Es)
end
inductive vk where
 |fn (f:Addr) (self:V)
 |prim (id:String) (self:V)
set_option genCtorIdx false in
structure Tb where
 meths:List (Addr×List (Nat×Addr))
 flds:List (Addr×List Nat)
 lists:List (Addr×List V)
 isC:Value→Bool
 prim:Value→List V→St→af V
 msel:V→Nat→Hp→Option vk
 mprim:String→V→List V→St→af V
noncomputable def af.bind{β γ:Type}:af β→(β→St→af γ)→af γ
 | .ok b σ,f=>f b σ
 | .exc H,_=>.exc H
 | .stuck,_=>.stuck
noncomputable def vB{γ:Type}(v:V)(f:Bs→af γ):af γ:=@V.casesOn (fun z=>af γ) v .stuck (fun z=>.stuck) (fun z=>.stuck) f (fun z=>.stuck) (fun z=>.stuck) (fun z=>.stuck)
noncomputable def vI{γ:Type}(v:V)(f:Int→af γ):af γ:=@V.casesOn (fun z=>af γ) v .stuck (fun z=>.stuck) f (fun z=>.stuck) (fun z=>.stuck) (fun z=>.stuck) (fun z=>.stuck)
noncomputable def vR{γ:Type}(v:V)(f:Nat→af γ):af γ:=@V.casesOn (fun z=>af γ) v .stuck (fun z=>.stuck) (fun z=>.stuck) (fun z=>.stuck) (fun z=>.stuck) f (fun z=>.stuck)
noncomputable def vS{γ:Type}(v:V)(f:Value→af γ):af γ:=@V.casesOn (fun z=>af γ) v .stuck (fun z=>.stuck) (fun z=>.stuck) (fun z=>.stuck) (fun z=>.stuck) (fun z=>.stuck) f
noncomputable def l0{γ:Type}(l:List V)(r:af γ):af γ:=@List.casesOn V (fun z=>af γ) l r fun z z=>.stuck
noncomputable def l1{γ:Type}(l:List V)(f:V→af γ):af γ:=@List.casesOn V (fun z=>af γ) l .stuck fun a t=>l0 t (f a)
noncomputable def l2{γ:Type}(l:List V)(f:V→V→af γ):af γ:=@List.casesOn V (fun z=>af γ) l .stuck fun a t=>l1 t (f a)
noncomputable def oO{α γ:Type}(o:Option α)(f:α→af γ):af γ:=@Option.casesOn α (fun z=>af γ) o .stuck f
noncomputable def oL{γ:Type}(o:Option O)(f:List V→af γ):af γ:=oO o fun o=>@O.casesOn (fun z=>af γ) o (fun z z=>.stuck) f (fun z=>.stuck) (fun z=>.stuck) (fun z=>.stuck) (fun z z=>.stuck) (fun z z=>.stuck) .stuck (fun z=>.stuck) .stuck (fun z z=>.stuck) (fun z=>.stuck)
noncomputable def oB{γ:Type}(o:Option O)(f:Bs→af γ):af γ:=oO o fun o=>@O.casesOn (fun z=>af γ) o (fun z z=>.stuck) (fun z=>.stuck) (fun z=>.stuck) f (fun z=>.stuck) (fun z z=>.stuck) (fun z z=>.stuck) .stuck (fun z=>.stuck) .stuck (fun z z=>.stuck) (fun z=>.stuck)
noncomputable def oD{γ:Type}(o:Option O)(f:List (Bs×Int)→af γ):af γ:=oO o fun o=>@O.casesOn (fun z=>af γ) o (fun z z=>.stuck) (fun z=>.stuck) (fun z=>.stuck) (fun z=>.stuck) f (fun z z=>.stuck) (fun z z=>.stuck) .stuck (fun z=>.stuck) .stuck (fun z z=>.stuck) (fun z=>.stuck)
noncomputable def oI{γ:Type}(o:Option O)(f:Addr→List (Nat×V)→af γ):af γ:=oO o fun o=>@O.casesOn (fun z=>af γ) o f (fun z=>.stuck) (fun z=>.stuck) (fun z=>.stuck) (fun z=>.stuck) (fun z z=>.stuck) (fun z z=>.stuck) .stuck (fun z=>.stuck) .stuck (fun z z=>.stuck) (fun z=>.stuck)
section
variable {G:bB}{x:Fx}{as:As}{σ:St}{α γ:Type}{R:As→γ→α→Prop}{t:Sem α}
theorem ah.vB{v:V}{f:Bs→af γ}(h:∀b,v=.bytes b→ah G x as σ t R (f b)):ah G x as σ t R (Mine.vB v f):=by cases v<;>first|exact h _ rfl|trivial
theorem ah.vI{v:V}{f:Int→af γ}(h:∀b,v=.int b→ah G x as σ t R (f b)):ah G x as σ t R (Mine.vI v f):=by cases v<;>first|exact h _ rfl|trivial
theorem ah.vR{v:V}{f:Nat→af γ}(h:∀b,v=.ref b→ah G x as σ t R (f b)):ah G x as σ t R (Mine.vR v f):=by cases v<;>first|exact h _ rfl|trivial
theorem ah.vS{v:V}{f:Value→af γ}(h:∀b,v=.sta b→ah G x as σ t R (f b)):ah G x as σ t R (Mine.vS v f):=by cases v<;>first|exact h _ rfl|trivial
theorem ah.l0{t:List Value→Sem α}{vs:List V}{us:List Value}(hv:aj (VR as) vs us){r:af γ}(h:ah G x as σ (t []) R r):ah G x as σ (t us) R (Mine.l0 vs r):=by
 cases hv with
 |nil=>exact h
 |cons _ _=>trivial
theorem ah.l1{t:List Value→Sem α}{vs:List V}{us:List Value}(hv:aj (VR as) vs us){f:V→af γ}(h:∀w u,VR as w u→ah G x as σ (t [u]) R (f w)):ah G x as σ (t us) R (Mine.l1 vs f):=by
 cases hv with
 |nil=>trivial
 |cons a b=>exact ah.l0 (t:=fun us=>t (_::us)) b (h _ _ a)
theorem ah.l2{t:List Value→Sem α}{vs:List V}{us:List Value}(hv:aj (VR as) vs us){f:V→V→af γ}(h:∀w u w' u',VR as w u→VR as w' u'→ah G x as σ (t [u,u']) R (f w w')):ah G x as σ (t us) R (Mine.l2 vs f):=by
 cases hv with
 |nil=>trivial
 |cons a b=>exact ah.l1 (t:=fun us=>t (_::us)) b fun w u k=>h _ _ w u a k
theorem ah.oO{β:Type}{o:Option β}{f:β→af γ}(h:∀b,o=some b→ah G x as σ t R (f b)):ah G x as σ t R (Mine.oO o f):=by cases o<;>first|exact h _ rfl|trivial
theorem ah.oL{o:Option O}{f:List V→af γ}(h:∀l,o=some (.list l)→ah G x as σ t R (f l)):ah G x as σ t R (Mine.oL o f):=.oO fun p e=>by cases p<;>first|exact h _ e|trivial
theorem ah.oB{o:Option O}{f:Bs→af γ}(h:∀l,o=some (.ba l)→ah G x as σ t R (f l)):ah G x as σ t R (Mine.oB o f):=.oO fun p e=>by cases p<;>first|exact h _ e|trivial
theorem ah.oD{o:Option O}{f:List (Bs×Int)→af γ}(h:∀l,o=some (.dict l)→ah G x as σ t R (f l)):ah G x as σ t R (Mine.oD o f):=.oO fun p e=>by cases p<;>first|exact h _ e|trivial
theorem ah.oI{o:Option O}{f:Addr→List (Nat×V)→af γ}(h:∀C fs,o=some (.inst C fs)→ah G x as σ t R (f C fs)):ah G x as σ t R (Mine.oI o f):=.oO fun p e=>by cases p<;>first|exact h _ _ e|trivial
theorem ah.ifS{p:Prop}{_:Decidable p}{r:af γ}(h:p→ah G x as σ t R r):ah G x as σ t R (if p then r else .stuck):=by
 by_cases q:p
 ·rw[if_pos q];exact h q
 ·rw[if_neg q];trivial
end
noncomputable def ofOpt{β:Type}(σ:St):Option β→af β
 |some b=>.ok b σ
 |none=>.stuck
noncomputable def mL(t:Tb)(C:Addr)(n:Nat):Bool:=((t.flds.lookup C).getD []).contains n
noncomputable def wN(v:V):Bool:=@V.casesOn (fun z=>Bool) v false (fun z=>false) (fun z=>false) (fun z=>false) (fun z=>false) (fun z=>false) (fun z=>true)
noncomputable def aX(t:Tb)(v:V)(n:Nat)(σ:St):af V:=vR v fun i=>oI σ.hp[i]? fun C fs=>if mL t C n=true then oO (fs.lookup n) fun u=>if wN u=false then .ok u σ else .stuck else .stuck
noncomputable def aY(t:Tb)(v:V)(n:Nat)(u:V)(σ:St):af Unit:=vR v fun i=>oI σ.hp[i]? fun C fs=>if mL t C n=true∧fs.length≤100 then .ok () ⟨σ.vars,σ.hp.set i (.inst C (jl n u fs))⟩ else .stuck
noncomputable def rC(H:Hp)(v:V):Option (Addr×List (Nat×V)):=GG v fun i=>H[i]?.bind fun o=>@O.casesOn (fun z=>Option (Addr×List (Nat×V))) o (fun C fs=>some (C,fs)) (fun z=>none) (fun z=>none) (fun z=>none) (fun z=>none) (fun z z=>none) (fun z z=>none) none (fun z=>none) none (fun z z=>none) (fun z=>none)
noncomputable def ay(t:Tb)(v:V)(m:Nat)(H:Hp):Option vk:=((rC H v).map fun p=>((t.meths.lookup p.1).bind (·.lookup m)).bind fun f=>bif (p.2.lookup m).isNone then some (.fn f v) else none).getD (t.msel v m H)
noncomputable def G5{γ:Type}(w:Value)(f:Addr→γ)(d:γ):γ:=@Value.casesOn (fun z=>γ) w d d d (fun z=>d) (fun z z=>d) (fun z z=>d) (fun z z=>d) (fun z z=>d) (fun z=>d) (fun z=>d) f
noncomputable def wR{γ:Type}(w:Value)(f:Addr→af γ):af γ:=G5 w f .stuck
theorem ah.wR{G:bB}{x:Fx}{as:As}{σ:St}{α γ:Type}{R:As→γ→α→Prop}{t:Sem α}{w:Value}{f:Addr→af γ}(h:∀a,w=.ref a→ah G x as σ t R (f a)):ah G x as σ t R (Mine.wR w f):=by cases w<;>first|exact h _ rfl|trivial
noncomputable def cf(t:Tb)(v i:V)(σ:St):af V:=vI i fun k=>@V.casesOn (fun z=>af V) v .stuck (fun z=>.stuck) (fun z=>.stuck) (fun b=>if 0≤k∧k < b.length∧b.length≤1000000 then .ok (.int (b.getD k.toNat 0).toNat) σ else .stuck) (fun z=>.stuck)
 (fun a=>oL σ.hp[a]? fun l=>if 0≤k∧k < 1000000 then ofOpt σ l[k.toNat]? else .stuck) fun w=>wR w fun a=>oO (t.lists.lookup a) fun l=>if 0≤k∧k < 1000000 then ofOpt σ l[k.toNat]? else .stuck
noncomputable def zt:V→Option V
 | .bool b=>some (.bool (!b))
 |_=>none
noncomputable def BQ:V→Option V
 | .int i=>some (.int (-i))
 |_=>none
noncomputable def d5:V→Option Bool
 | .bool b=>some b
 |_=>none
noncomputable def dK:V→Option (Option Int)
 | .none=>some none
 | .int i=>some (some i)
 |_=>none
noncomputable def gU{α:Type}(l:List α)(lo hi:Option Int):List α:=
 (l.drop (lo.elim 0 (clipAt l.length))).take (hi.elim l.length (clipAt l.length) - lo.elim 0 (clipAt l.length))
noncomputable def rD(a:Nat)(o:O)(lo hi:Option Int)(σ:St):af V:=match o with
  | .list l=>if l.length≤1000000 then .ok (.ref σ.hp.length) ⟨σ.vars,σ.hp++[.list (gU l lo hi)]⟩ else .stuck
  | .ba b=>if b.length≤1000000 then .ok (.ref σ.hp.length) ⟨σ.vars,σ.hp++[.ba (gU b lo hi)]⟩ else .stuck
  | .flist l=>if l.length≤1000000 then .ok (.ref σ.hp.length) ⟨σ.vars,σ.hp++[.list (gU l lo hi)]⟩ else .stuck
  |_=>.stuck
noncomputable def aZ(v lo hi:V)(σ:St):af V:=oO (dK lo) fun lo=>oO (dK hi) fun hi=>@V.casesOn (fun z=>af V) v .stuck (fun z=>.stuck) (fun z=>.stuck) (fun b=>if b.length≤1000000 then .ok (.bytes (gU b lo hi)) ⟨σ.vars,σ.hp⟩ else .stuck) (fun z=>.stuck)
 (fun a=>oO σ.hp[a]? fun o=>rD a o lo hi σ) fun z=>.stuck
noncomputable def lf(a b:V)(σ:St):af V:=vR a fun i=>vR b fun j=>oL σ.hp[i]? fun l=>oL σ.hp[j]? fun m=>if l.length+m.length≤1000000 then .ok (.ref σ.hp.length) ⟨σ.vars,σ.hp++[.list (l++m)]⟩ else .stuck
noncomputable def AZ{γ:Type}(op:Operator)(x d:γ):γ:=@Operator.casesOn (fun z=>γ) op x d d d d d d d d d d d d
noncomputable def Im{γ:Type}(v:V)(x d:γ):γ:=@V.casesOn (fun z=>γ) v d (fun z=>d) (fun z=>d) (fun z=>d) (fun z=>d) (fun z=>x) fun z=>d
noncomputable def dy(op:Operator)(a b:V)(σ:St):af V:=AZ op (Im a (lf a b σ) (ofOpt σ (tH op a b))) (ofOpt σ (tH op a b))
theorem zu{γ:Type}{op:Operator}{x d:γ}{M:γ→Prop}(hd:M d)(hx:op=.Add→M x):M (AZ op x d):=by cases op<;>first|exact hd|exact hx rfl
theorem El{γ:Type}{v:V}{x d:γ}{M:γ→Prop}(hd:M d)(hx:M x):M (Im v x d):=by cases v<;>first|exact hd|exact hx
mutual
noncomputable def ev(t:Tb):E→St→af V
 | .con v,σ=>.ok v σ
 | .loc i,σ=>match σ.vars[i]? with
  |some (some v)=>.ok v σ
  |_=>.stuck
 | .attr e n,σ=>(ev t e σ).bind fun v σ=>aX t v n σ
 | .bin op l r,σ=>(ev t l σ).bind fun a σ=>(ev t r σ).bind fun b σ=>dy op a b σ
 | .neg e,σ=>(ev t e σ).bind fun v σ=>ofOpt σ (BQ v)
 | .not e,σ=>(ev t e σ).bind fun v σ=>ofOpt σ (zt v)
 | .and a b,σ=>(ev t a σ).bind fun v σ=>match v with
  | .bool true=>ev t b σ
  | .bool false=>.ok (.bool false) σ
  |_=>.stuck
 | .or a b,σ=>(ev t a σ).bind fun v σ=>match v with
  | .bool true=>.ok (.bool true) σ
  | .bool false=>ev t b σ
  |_=>.stuck
 | .cmp op l r,σ=>(ev t l σ).bind fun a σ=>(ev t r σ).bind fun b σ=>ofOpt σ ((aQ σ.hp op a b).map V.bool)
 | .cmp2 o1 o2 a b c,σ=>(ev t a σ).bind fun u σ=>(ev t b σ).bind fun v σ=>match aQ σ.hp o1 u v with
  |some true=>(ev t c σ).bind fun w σ=>ofOpt σ ((aQ σ.hp o2 v w).map V.bool)
  |some false=>.ok (.bool false) σ
  |none=>.stuck
 | .ite c a b,σ=>(ev t c σ).bind fun v σ=>match v with
  | .bool true=>ev t a σ
  | .bool false=>ev t b σ
  |_=>.stuck
 | .call f as,σ=>(ev t f σ).bind fun fv σ=>match fv with
  | .sta w=>if t.isC w then(fL t as σ).bind fun vs σ=>t.prim w vs σ else .stuck
  |_=>.stuck
 | .meth o m as,σ=>(ev t o σ).bind fun ov σ=>match ay t ov m σ.hp with
  |some (.fn f self)=>(fL t as σ).bind fun vs σ=>t.prim (.ref f) (self::vs) σ
  |some (.prim id self)=>(fL t as σ).bind fun vs σ=>t.mprim id self vs σ
  |none=>.stuck
 | .list es,σ=>(fL t es σ).bind fun vs σ=>if vs.length≤1000 then .ok (.ref σ.hp.length) ⟨σ.vars,σ.hp++[.list vs]⟩ else .stuck
 | .tup es,σ=>(fL t es σ).bind fun vs σ=>if vs.length≤1000 then .ok (.ref σ.hp.length) ⟨σ.vars,σ.hp++[.tup vs]⟩ else .stuck
 | .dict,σ=>.ok (.ref σ.hp.length) ⟨σ.vars,σ.hp++[.dict []]⟩
 | .sub e i,σ=>(ev t e σ).bind fun v σ=>(ev t i σ).bind fun k σ=>cf t v k σ
 | .slc e lo hi,σ=>(ev t e σ).bind fun v σ=>(ev t lo σ).bind fun a σ=>(ev t hi σ).bind fun b σ=>aZ v a b σ
noncomputable def fL(t:Tb):Es→St→af (List V)
 | .nil,σ=>.ok [] σ
 | .cons e r,σ=>(ev t e σ).bind fun v σ=>(fL t r σ).bind fun vs σ=>.ok (v::vs) σ
end
set_option genCtorIdx false in
structure Cx where
 names:List Str
 kinds:List (Str×NameKind)
 atts:List Str
 glob:List (Str×V)
 exn:Str
noncomputable def Em(v:V):Option Const:=@V.casesOn (fun z=>Option Const) v (some .none) (fun b=>some (.bool b)) (fun i=>some (.int i)) (fun b=>some (.bytes b)) (fun z=>none) (fun z=>none) (fun z=>none)
noncomputable def tI(c:Const)(v:V):Bool:=decide (Em v=some c)
noncomputable def dL(y:Str):Bool:=!(y==("__debug__":Str))
noncomputable def kJ(op:CmpOp)(e:Expr):Bool:=!(behindInMarks op e)
theorem an{a b:Bool}(h:(a&&b)=true):a=true∧b=true:=and_eq_true_iff.mp h
theorem A0{y:Str}(h:dL y=true):(y==("__debug__":Str))=false:=not_eq_true' _ ▸ h
noncomputable def e1(e:Expr):Expr:=@Expr.casesOn (fun z=>Expr) e (fun z z z=>e) (fun z z z=>e) (fun a z z z=>a) (fun z a z=>a) (fun z z z z=>e) (fun a z z z=>a) (fun z z z=>e) (fun z z z=>e) (fun z z z z=>e) (fun z z z z=>e) (fun z z z z z=>e) (fun z z z z=>e) (fun z z=>e) (fun z z=>e) (fun z z=>e) (fun a z z z=>a) (fun a z z z=>a) (fun z z z z=>e) (fun z z=>e) (fun z z z=>e) (fun a z z=>a) (fun a z z=>a) (fun z z=>e) (fun z z=>e) (fun z z=>e) (fun z z z=>e) (fun z z z z=>e)
noncomputable def e2(e:Expr):Expr:=@Expr.casesOn (fun z=>Expr) e (fun z z z=>e) (fun z z z=>e) (fun z z a z=>a) (fun z z z=>e) (fun z z z z=>e) (fun z a z z=>a) (fun z z z=>e) (fun z z z=>e) (fun z z z z=>e) (fun z z z z=>e) (fun z z z z z=>e) (fun z z z z=>e) (fun z z=>e) (fun z z=>e) (fun z z=>e) (fun z z z z=>e) (fun z z z z=>e) (fun z z z z=>e) (fun z z=>e) (fun z z z=>e) (fun z z z=>e) (fun z a z=>a) (fun z z=>e) (fun z z=>e) (fun z z=>e) (fun z z z=>e) (fun z z z z=>e)
noncomputable def e3(e:Expr):Expr:=@Expr.casesOn (fun z=>Expr) e (fun z z z=>e) (fun z z z=>e) (fun z z z z=>e) (fun z z z=>e) (fun z z z z=>e) (fun z z a z=>a) (fun z z z=>e) (fun z z z=>e) (fun z z z z=>e) (fun z z z z=>e) (fun z z z z z=>e) (fun z z z z=>e) (fun z z=>e) (fun z z=>e) (fun z z=>e) (fun z z z z=>e) (fun z z z z=>e) (fun z z z z=>e) (fun z z=>e) (fun z z z=>e) (fun z z z=>e) (fun z z z=>e) (fun z z=>e) (fun z z=>e) (fun z z=>e) (fun z z z=>e) (fun z z z z=>e)
noncomputable def el(e:Expr):List Expr:=@Expr.casesOn (fun z=>List Expr) e (fun z a z=>a) (fun z z z=>[]) (fun z z z z=>[]) (fun z z z=>[]) (fun z z z z=>[]) (fun z z z z=>[]) (fun z z z=>[]) (fun z z z=>[]) (fun z z z z=>[]) (fun z z z z=>[]) (fun z z z z z=>[]) (fun z z z z=>[]) (fun z z=>[]) (fun z z=>[]) (fun z z=>[]) (fun z z a z=>a) (fun z a z z=>a) (fun z z z z=>[]) (fun z z=>[]) (fun z z z=>[]) (fun z z z=>[]) (fun z z z=>[]) (fun z z=>[]) (fun z z=>[]) (fun a z=>a) (fun a z z=>a) (fun z z z z=>[])
noncomputable def ey(e:Expr):Str:=@Expr.casesOn (fun z=>Str) e (fun z z z=>"") (fun z z z=>"") (fun z z z z=>"") (fun z z z=>"") (fun z z z z=>"") (fun z z z z=>"") (fun z z z=>"") (fun z z z=>"") (fun z z z z=>"") (fun z z z z=>"") (fun z z z z z=>"") (fun z z z z=>"") (fun z z=>"") (fun z z=>"") (fun z z=>"") (fun z z z z=>"") (fun z z z z=>"") (fun z z z z=>"") (fun z z=>"") (fun z z z=>"") (fun z a z=>a) (fun z z z=>"") (fun z z=>"") (fun a z=>a) (fun z z=>"") (fun z z z=>"") (fun z z z z=>"")
noncomputable def eo(e:Expr):Operator:=@Expr.casesOn (fun z=>Operator) e (fun z z z=>.Add) (fun z z z=>.Add) (fun z a z z=>a) (fun z z z=>.Add) (fun z z z z=>.Add) (fun z z z z=>.Add) (fun z z z=>.Add) (fun z z z=>.Add) (fun z z z z=>.Add) (fun z z z z=>.Add) (fun z z z z z=>.Add) (fun z z z z=>.Add) (fun z z=>.Add) (fun z z=>.Add) (fun z z=>.Add) (fun z z z z=>.Add) (fun z z z z=>.Add) (fun z z z z=>.Add) (fun z z=>.Add) (fun z z z=>.Add) (fun z z z=>.Add) (fun z z z=>.Add) (fun z z=>.Add) (fun z z=>.Add) (fun z z=>.Add) (fun z z z=>.Add) (fun z z z z=>.Add)
noncomputable def eu(e:Expr):UnaryOp:=@Expr.casesOn (fun z=>UnaryOp) e (fun z z z=>.Not) (fun z z z=>.Not) (fun z z z z=>.Not) (fun a z z=>a) (fun z z z z=>.Not) (fun z z z z=>.Not) (fun z z z=>.Not) (fun z z z=>.Not) (fun z z z z=>.Not) (fun z z z z=>.Not) (fun z z z z z=>.Not) (fun z z z z=>.Not) (fun z z=>.Not) (fun z z=>.Not) (fun z z=>.Not) (fun z z z z=>.Not) (fun z z z z=>.Not) (fun z z z z=>.Not) (fun z z=>.Not) (fun z z z=>.Not) (fun z z z=>.Not) (fun z z z=>.Not) (fun z z=>.Not) (fun z z=>.Not) (fun z z=>.Not) (fun z z z=>.Not) (fun z z z z=>.Not)
noncomputable def eb(e:Expr):BoolOp:=@Expr.casesOn (fun z=>BoolOp) e (fun a z z=>a) (fun z z z=>.And) (fun z z z z=>.And) (fun z z z=>.And) (fun z z z z=>.And) (fun z z z z=>.And) (fun z z z=>.And) (fun z z z=>.And) (fun z z z z=>.And) (fun z z z z=>.And) (fun z z z z z=>.And) (fun z z z z=>.And) (fun z z=>.And) (fun z z=>.And) (fun z z=>.And) (fun z z z z=>.And) (fun z z z z=>.And) (fun z z z z=>.And) (fun z z=>.And) (fun z z z=>.And) (fun z z z=>.And) (fun z z z=>.And) (fun z z=>.And) (fun z z=>.And) (fun z z=>.And) (fun z z z=>.And) (fun z z z z=>.And)
noncomputable def ec(e:Expr):List CmpOp:=@Expr.casesOn (fun z=>List CmpOp) e (fun z z z=>[]) (fun z z z=>[]) (fun z z z z=>[]) (fun z z z=>[]) (fun z z z z=>[]) (fun z z z z=>[]) (fun z z z=>[]) (fun z z z=>[]) (fun z z z z=>[]) (fun z z z z=>[]) (fun z z z z z=>[]) (fun z z z z=>[]) (fun z z=>[]) (fun z z=>[]) (fun z z=>[]) (fun z a z z=>a) (fun z z z z=>[]) (fun z z z z=>[]) (fun z z=>[]) (fun z z z=>[]) (fun z z z=>[]) (fun z z z=>[]) (fun z z=>[]) (fun z z=>[]) (fun z z=>[]) (fun z z z=>[]) (fun z z z z=>[])
noncomputable def ew(e:Expr):List Keyword:=@Expr.casesOn (fun z=>List Keyword) e (fun z z z=>[]) (fun z z z=>[]) (fun z z z z=>[]) (fun z z z=>[]) (fun z z z z=>[]) (fun z z z z=>[]) (fun z z z=>[]) (fun z z z=>[]) (fun z z z z=>[]) (fun z z z z=>[]) (fun z z z z z=>[]) (fun z z z z=>[]) (fun z z=>[]) (fun z z=>[]) (fun z z=>[]) (fun z z z z=>[]) (fun z z a z=>a) (fun z z z z=>[]) (fun z z=>[]) (fun z z z=>[]) (fun z z z=>[]) (fun z z z=>[]) (fun z z=>[]) (fun z z=>[]) (fun z z=>[]) (fun z z z=>[]) (fun z z z z=>[])
noncomputable def ek(e:Expr):Const:=@Expr.casesOn (fun z=>Const) e (fun z z z=>.none) (fun z z z=>.none) (fun z z z z=>.none) (fun z z z=>.none) (fun z z z z=>.none) (fun z z z z=>.none) (fun z z z=>.none) (fun z z z=>.none) (fun z z z z=>.none) (fun z z z z=>.none) (fun z z z z z=>.none) (fun z z z z=>.none) (fun z z=>.none) (fun z z=>.none) (fun z z=>.none) (fun z z z z=>.none) (fun z z z z=>.none) (fun z z z z=>.none) (fun z z=>.none) (fun a z z=>a) (fun z z z=>.none) (fun z z z=>.none) (fun z z=>.none) (fun z z=>.none) (fun z z=>.none) (fun z z z=>.none) (fun z z z z=>.none)
noncomputable def en(e:Expr):Nat:=@Expr.casesOn (fun z=>Nat) e (fun z z z=>0) (fun z z z=>0) (fun z z z z=>0) (fun z z z=>0) (fun z z z z=>0) (fun z z z z=>0) (fun z z z=>0) (fun z z z=>0) (fun z z z z=>0) (fun z z z z=>0) (fun z z z z z=>0) (fun z z z z=>0) (fun z z=>0) (fun z z=>0) (fun z z=>0) (fun z z z z=>0) (fun z z z z=>0) (fun z z z z=>0) (fun z z=>0) (fun z a z=>a) (fun z z z=>0) (fun z z z=>0) (fun z z=>0) (fun z z=>0) (fun z z=>0) (fun z a z=>a) (fun z z z z=>0)
noncomputable def s1(e:Expr):Option Expr:=@Expr.casesOn (fun z=>Option Expr) e (fun z z z=>none) (fun z z z=>none) (fun z z z z=>none) (fun z z z=>none) (fun z z z z=>none) (fun z z z z=>none) (fun z z z=>none) (fun z z z=>none) (fun z z z z=>none) (fun z z z z=>none) (fun z z z z z=>none) (fun z z z z=>none) (fun z z=>none) (fun z z=>none) (fun z z=>none) (fun z z z z=>none) (fun z z z z=>none) (fun z z z z=>none) (fun z z=>none) (fun z z z=>none) (fun z z z=>none) (fun z z z=>none) (fun z z=>none) (fun z z=>none) (fun z z=>none) (fun z z z=>none) (fun a z z z=>a)
noncomputable def s2(e:Expr):Option Expr:=@Expr.casesOn (fun z=>Option Expr) e (fun z z z=>none) (fun z z z=>none) (fun z z z z=>none) (fun z z z=>none) (fun z z z z=>none) (fun z z z z=>none) (fun z z z=>none) (fun z z z=>none) (fun z z z z=>none) (fun z z z z=>none) (fun z z z z z=>none) (fun z z z z=>none) (fun z z=>none) (fun z z=>none) (fun z z=>none) (fun z z z z=>none) (fun z z z z=>none) (fun z z z z=>none) (fun z z=>none) (fun z z z=>none) (fun z z z=>none) (fun z z z=>none) (fun z z=>none) (fun z z=>none) (fun z z=>none) (fun z z z=>none) (fun z a z z=>a)
noncomputable def s3(e:Expr):Option Expr:=@Expr.casesOn (fun z=>Option Expr) e (fun z z z=>none) (fun z z z=>none) (fun z z z z=>none) (fun z z z=>none) (fun z z z z=>none) (fun z z z z=>none) (fun z z z=>none) (fun z z z=>none) (fun z z z z=>none) (fun z z z z=>none) (fun z z z z z=>none) (fun z z z z=>none) (fun z z=>none) (fun z z=>none) (fun z z=>none) (fun z z z z=>none) (fun z z z z=>none) (fun z z z z=>none) (fun z z=>none) (fun z z z=>none) (fun z z z=>none) (fun z z z=>none) (fun z z=>none) (fun z z=>none) (fun z z=>none) (fun z z z=>none) (fun z z a z=>a)
noncomputable def tg(e:Expr):Nat:=@Expr.casesOn (fun z=>Nat) e (fun z z z=>6) (fun z z z=>0) (fun z z z z=>4) (fun z z z=>5) (fun z z z z=>0) (fun z z z z=>8) (fun z z z=>0) (fun z z z=>0) (fun z z z z=>15) (fun z z z z=>15) (fun z z z z z=>15) (fun z z z z=>0) (fun z z=>0) (fun z z=>0) (fun z z=>0) (fun z z z z=>7) (fun z z z z=>9) (fun z z z z=>0) (fun z z=>0) (fun z z z=>2) (fun z z z=>3) (fun z z z=>12) (fun z z=>14) (fun z z=>1) (fun z z=>10) (fun z z z=>11) (fun z z z z=>13)
noncomputable def rE(e:Expr):List Prop:=[True,e=.Name (ey e) e.pos,e=.Constant (ek e) (en e) e.pos,e=.Attribute (e1 e) (ey e) e.pos,e=.BinOp (e1 e) (eo e) (e2 e) e.pos,e=.UnaryOp (eu e) (e1 e) e.pos,e=.BoolOp (eb e) (el e) e.pos,e=.Compare (e1 e) (ec e) (el e) e.pos,e=.IfExp (e1 e) (e2 e) (e3 e) e.pos,e=.Call (e1 e) (el e) (ew e) e.pos,e=.List (el e) e.pos,e=.Tuple (el e) (en e) e.pos,e=.Subscript (e1 e) (e2 e) e.pos,e=.Slice (s1 e) (s2 e) (s3 e) e.pos]
theorem re(e:Expr):(rE e).getD (tg e) True:=by cases e<;>first|exact rfl|exact True.intro
noncomputable def eF(e:Expr)(f:Str→Bool):Bool:=tg e==1&&f (ey e)
@[elab_as_elim] theorem onName_i{e:Expr}{f}{M:Expr→Prop}(h:eF e f=true)(k:∀x0 p,f x0=true→M (.Name x0 p)):M e:=
 (congrArg M ((beq_iff_eq.mp (an h).1 ▸ re e:(rE e).getD 1 True):e=.Name (ey e) e.pos)).mpr (k _ _ (an h).2)
noncomputable def wO(e:Expr)(f:Const→Bool):Bool:=tg e==2&&f (ek e)
@[elab_as_elim] theorem onCon_i{e:Expr}{f}{M:Expr→Prop}(h:wO e f=true)(k:∀x0 x1 p,f x0=true→M (.Constant x0 x1 p)):M e:=
 (congrArg M ((beq_iff_eq.mp (an h).1 ▸ re e:(rE e).getD 2 True):e=.Constant (ek e) (en e) e.pos)).mpr (k _ _ _ (an h).2)
noncomputable def jm(e:Expr)(f:Expr→Str→Pos→Bool):Bool:=tg e==3&&f (e1 e) (ey e) e.pos
@[elab_as_elim] theorem onAttr_i{e:Expr}{f}{M:Expr→Prop}(h:jm e f=true)(k:∀x0 x1 p,f x0 x1 p=true→M (.Attribute x0 x1 p)):M e:=
 (congrArg M ((beq_iff_eq.mp (an h).1 ▸ re e:(rE e).getD 3 True):e=.Attribute (e1 e) (ey e) e.pos)).mpr (k _ _ _ (an h).2)
noncomputable def A1(e:Expr)(f:Expr→Operator→Expr→Bool):Bool:=tg e==4&&f (e1 e) (eo e) (e2 e)
@[elab_as_elim] theorem onBin_i{e:Expr}{f}{M:Expr→Prop}(h:A1 e f=true)(k:∀x0 x1 x2 p,f x0 x1 x2=true→M (.BinOp x0 x1 x2 p)):M e:=
 (congrArg M ((beq_iff_eq.mp (an h).1 ▸ re e:(rE e).getD 4 True):e=.BinOp (e1 e) (eo e) (e2 e) e.pos)).mpr (k _ _ _ _ (an h).2)
noncomputable def BS(e:Expr)(f:UnaryOp→Expr→Bool):Bool:=tg e==5&&f (eu e) (e1 e)
@[elab_as_elim] theorem onUn_i{e:Expr}{f}{M:Expr→Prop}(h:BS e f=true)(k:∀x0 x1 p,f x0 x1=true→M (.UnaryOp x0 x1 p)):M e:=
 (congrArg M ((beq_iff_eq.mp (an h).1 ▸ re e:(rE e).getD 5 True):e=.UnaryOp (eu e) (e1 e) e.pos)).mpr (k _ _ _ (an h).2)
noncomputable def rF(e:Expr)(f:BoolOp→List Expr→Pos→Bool):Bool:=tg e==6&&f (eb e) (el e) e.pos
@[elab_as_elim] theorem onBool_i{e:Expr}{f}{M:Expr→Prop}(h:rF e f=true)(k:∀x0 x1 p,f x0 x1 p=true→M (.BoolOp x0 x1 p)):M e:=
 (congrArg M ((beq_iff_eq.mp (an h).1 ▸ re e:(rE e).getD 6 True):e=.BoolOp (eb e) (el e) e.pos)).mpr (k _ _ _ (an h).2)
noncomputable def wP(e:Expr)(f:Expr→List CmpOp→List Expr→Bool):Bool:=tg e==7&&f (e1 e) (ec e) (el e)
@[elab_as_elim] theorem onCmp_i{e:Expr}{f}{M:Expr→Prop}(h:wP e f=true)(k:∀x0 x1 x2 p,f x0 x1 x2=true→M (.Compare x0 x1 x2 p)):M e:=
 (congrArg M ((beq_iff_eq.mp (an h).1 ▸ re e:(rE e).getD 7 True):e=.Compare (e1 e) (ec e) (el e) e.pos)).mpr (k _ _ _ _ (an h).2)
noncomputable def En(e:Expr)(f:Expr→Expr→Expr→Bool):Bool:=tg e==8&&f (e1 e) (e2 e) (e3 e)
@[elab_as_elim] theorem onIf_i{e:Expr}{f}{M:Expr→Prop}(h:En e f=true)(k:∀x0 x1 x2 p,f x0 x1 x2=true→M (.IfExp x0 x1 x2 p)):M e:=
 (congrArg M ((beq_iff_eq.mp (an h).1 ▸ re e:(rE e).getD 8 True):e=.IfExp (e1 e) (e2 e) (e3 e) e.pos)).mpr (k _ _ _ _ (an h).2)
noncomputable def nN(e:Expr)(f:Expr→List Expr→List Keyword→Pos→Bool):Bool:=tg e==9&&f (e1 e) (el e) (ew e) e.pos
@[elab_as_elim] theorem onCall_i{e:Expr}{f}{M:Expr→Prop}(h:nN e f=true)(k:∀x0 x1 x2 p,f x0 x1 x2 p=true→M (.Call x0 x1 x2 p)):M e:=
 (congrArg M ((beq_iff_eq.mp (an h).1 ▸ re e:(rE e).getD 9 True):e=.Call (e1 e) (el e) (ew e) e.pos)).mpr (k _ _ _ _ (an h).2)
noncomputable def rG(e:Expr)(f:List Expr→Bool):Bool:=tg e==10&&f (el e)
@[elab_as_elim] theorem onList_i{e:Expr}{f}{M:Expr→Prop}(h:rG e f=true)(k:∀x0 p,f x0=true→M (.List x0 p)):M e:=
 (congrArg M ((beq_iff_eq.mp (an h).1 ▸ re e:(rE e).getD 10 True):e=.List (el e) e.pos)).mpr (k _ _ (an h).2)
noncomputable def tJ(e:Expr)(f:List Expr→Bool):Bool:=tg e==11&&f (el e)
@[elab_as_elim] theorem onTup_i{e:Expr}{f}{M:Expr→Prop}(h:tJ e f=true)(k:∀x0 x1 p,f x0=true→M (.Tuple x0 x1 p)):M e:=
 (congrArg M ((beq_iff_eq.mp (an h).1 ▸ re e:(rE e).getD 11 True):e=.Tuple (el e) (en e) e.pos)).mpr (k _ _ _ (an h).2)
noncomputable def tK(e:Expr)(f:Expr→Expr→Bool):Bool:=tg e==12&&f (e1 e) (e2 e)
@[elab_as_elim] theorem onSub_i{e:Expr}{f}{M:Expr→Prop}(h:tK e f=true)(k:∀x0 x1 p,f x0 x1=true→M (.Subscript x0 x1 p)):M e:=
 (congrArg M ((beq_iff_eq.mp (an h).1 ▸ re e:(rE e).getD 12 True):e=.Subscript (e1 e) (e2 e) e.pos)).mpr (k _ _ _ (an h).2)
noncomputable def tL(e:Expr)(f:Option Expr→Option Expr→Option Expr→Bool):Bool:=tg e==13&&f (s1 e) (s2 e) (s3 e)
@[elab_as_elim] theorem onSlice_i{e:Expr}{f}{M:Expr→Prop}(h:tL e f=true)(k:∀x0 x1 x2 p,f x0 x1 x2=true→M (.Slice x0 x1 x2 p)):M e:=
 (congrArg M ((beq_iff_eq.mp (an h).1 ▸ re e:(rE e).getD 13 True):e=.Slice (s1 e) (s2 e) (s3 e) e.pos)).mpr (k _ _ _ _ (an h).2)
noncomputable def rH(e:Expr):Bool:=tg e==9
noncomputable def wQ(e:Expr):Bool:=tg e==3
noncomputable def ck(e:Expr):Bool:=tg e==14
noncomputable def zv{α:Type}(l:List α)(f:α→Bool):Bool:=match l with
 | [a]=>f a
 |_=>false
noncomputable def G6{α:Type}(l:List α)(f:α→α→Bool):Bool:=match l with
 | [a,b]=>f a b
 |_=>false
noncomputable def rI(l:List Expr)(f:Expr→Expr→Bool)(g:Expr→List Expr→Bool):Bool:=match l with
 |x::y::r=>match r with
  | []=>f x y
  |_::_=>g x (y::r)
 |_=>false
noncomputable def mM(o:Option Expr)(f:Expr→Bool)(b:Bool):Bool:=match o with
 |some e=>f e
 |none=>b
noncomputable def zw(o:Option Expr):Bool:=match o with
 |some _=>false
 |none=>true
@[elab_as_elim] theorem on1_i{α:Type}{l:List α}{f}{M:List α→Prop}(h:zv l f=true)(k:∀a,f a=true→M [a]):M l:=by
 rcases l with _|⟨a,_|⟨b,l⟩⟩<;>first|exact Bool.noConfusion h|exact k _ h
@[elab_as_elim] theorem on2_i{α:Type}{l:List α}{f}{M:List α→Prop}(h:G6 l f=true)(k:∀a b,f a b=true→M [a,b]):M l:=by
 rcases l with _|⟨a,_|⟨b,_|⟨d,l⟩⟩⟩<;>first|exact Bool.noConfusion h|exact k _ _ h
@[elab_as_elim] theorem onMore_i{l:List Expr}{f g}{M:List Expr→Prop}(h:rI l f g=true)(k:∀x y,f x y=true→M [x,y])(k':∀x y z r,g x (y::z::r)=true→M (x::y::z::r)):M l:=by
 rcases l with _|⟨a,_|⟨b,_|⟨d,l⟩⟩⟩<;>first|exact Bool.noConfusion h|exact k _ _ h|exact k' _ _ _ _ h
@[elab_as_elim] theorem onSome_i{o:Option Expr}{f}{M:Option Expr→Prop}(h:mM o f false=true)(k:∀e,f e=true→M (some e)):M o:=by cases o<;>first|exact k _ h|exact Bool.noConfusion h
@[elab_as_elim] theorem isNo_i{o:Option Expr}{M:Option Expr→Prop}(h:zw o=true)(k:M none):M o:=by cases o<;>first|exact k|exact Bool.noConfusion h
@[elab_as_elim] theorem nil_i{α:Type}{l:List α}{M:List α→Prop}(h:l.isEmpty=true)(k:M []):M l:=by cases l<;>first|exact k|exact Bool.noConfusion h
@[elab_as_elim] theorem eq_i{α:Type}{a b:α}{M:α→Prop}(h:a=b)(k:M b):M a:=(congrArg M h).mpr k
theorem km{p:Prop}[Decidable p](h:decide p=true):p:=of_decide_eq_true h
theorem cN{a b:Bool}{P:Prop}(h:(a&&b)=true)(k:a=true→b=true→P):P:=k (an h).1 (an h).2
theorem rJ{a b c:Bool}{P:Prop}(h:(a&&b&&c)=true)(k:a=true→b=true→c=true→P):P:=k (an (an h).1).1 (an (an h).1).2 (an h).2
theorem vl{a b c d:Bool}{P:Prop}(h:(a&&b&&c&&d)=true)(k:a=true→b=true→c=true→d=true→P):P:=rJ (an h).1 fun x y z=>k x y z (an h).2
theorem D1{a b c d e:Bool}{P:Prop}(h:(a&&b&&c&&d&&e)=true)(k:a=true→b=true→c=true→d=true→e=true→P):P:=vl (an h).1 fun x y z w=>k x y z w (an h).2
theorem Eo{a b c d e f:Bool}{P:Prop}(h:(a&&b&&c&&d&&e&&f)=true)(k:a=true→b=true→c=true→d=true→e=true→f=true→P):P:=D1 (an h).1 fun x y z w v=>k x y z w v (an h).2
theorem IV{a b c d e f g:Bool}{P:Prop}(h:(a&&b&&c&&d&&e&&f&&g)=true)(k:a=true→b=true→c=true→d=true→e=true→f=true→g=true→P):P:=Eo (an h).1 fun x y z w v u=>k x y z w v u (an h).2
set_option backward.match.sparseCases false in
noncomputable def tM(m:E):Bool:=match m with
 | .con v=>wM v .none
 |_=>false
theorem zx{m:E}(h:tM m=true):m=.con .none:=by
 cases m<;>first|exact Bool.noConfusion h|exact congrArg E.con (rB h)
mutual
noncomputable def chk(c:Cx):E→Expr→Bool
 | .con v,e=>wO e (fun k=>tI k v)||eF e fun y=>dL y&&c.kinds.lookup y==some .globalImplicit&&(c.glob.lookup y).any (wM v)
 | .loc i,e=>eF e fun y=>dL y&&c.kinds.lookup y==some .local&&c.names[i]? ==some y
 | .attr a n,e=>jm e fun v y w=>chk c a v&&c.atts[n]? ==some y&&!(rH v)
 | .bin op l r,e=>A1 e fun x o y=>decide (o=op)&&chk c l x&&chk c r y
 | .neg a,e=>BS e fun o x=>decide (o=.USub)&&chk c a x
 | .not a,e=>BS e fun o x=>decide (o=.Not)&&chk c a x
 | .and a b,e=>rF e fun o l p=>decide (o=.And)&&rI l (fun x y=>chk c a x&&chk c b y) fun x r=>chk c a x&&chk c b (.BoolOp .And r p)
 | .or a b,e=>rF e fun o l p=>decide (o=.Or)&&rI l (fun x y=>chk c a x&&chk c b y) fun x r=>chk c a x&&chk c b (.BoolOp .Or r p)
 | .cmp op l r,e=>wP e fun x os ys=>zv os fun o=>zv ys fun y=>decide (o=op)&&chk c l x&&chk c r y&&kJ op y
 | .cmp2 o1 o2 l m r,e=>wP e fun x os ys=>G6 os fun o o'=>G6 ys fun y z=>decide (o=o1)&&decide (o'=o2)&&chk c l x&&chk c m y&&chk c r z&&kJ o2 z
 | .ite t a b,e=>En e fun x y z=>chk c t x&&chk c a y&&chk c b z
 | .call f as,e=>nN e fun g es k w=>k.isEmpty&&chk c f g&&fT c as es&&!(wQ g)
 | .meth o m as,e=>nN e fun g es k p=>k.isEmpty&&jm g fun v y ap=>decide (ap.endLine=p.line)&&chk c o v&&c.atts[m]? ==some y&&fT c as es&&decide (es.length < 20)&&!(rH v)
 | .list es,e=>rG e fun xs=>fT c es xs
 | .tup es,e=>tJ e fun xs=>fT c es xs
 | .dict,e=>false
 | .sub a i,e=>tK e fun x y=>chk c a x&&chk c i y
 | .slc a lo hi,e=>tK e fun x s=>chk c a x&&tL s fun l h z=>zw z&&mM l (fun l=>chk c lo l) (tM lo)&&mM h (fun h=>chk c hi h) (tM hi)
noncomputable def fT(c:Cx):Es→List Expr→Bool
 | .nil,es=>es.isEmpty
 | .cons a r,es=>match es with
  | []=>false
  |e::es=>chk c a e&&!(ck e)&&fT c r es
end
section
variable {t:Tb}{σ:St}
theorem BU{v:V}:ev t (.con v) σ=.ok v σ:=rfl
theorem BV{i:Nat}{vs:aC}{H:Hp}:ev t (.loc i) ⟨vs,H⟩=match vs[i]? with |some (some v)=>.ok v ⟨vs,H⟩|_=>.stuck:=rfl
theorem zy{e:E}{n:Nat}:ev t (.attr e n) σ=(ev t e σ).bind fun v σ=>aX t v n σ:=rfl
theorem BW{op:Operator}{l r:E}:ev t (.bin op l r) σ=(ev t l σ).bind fun a σ=>(ev t r σ).bind fun b σ=>dy op a b σ:=rfl
theorem BX{e:E}:ev t (.neg e) σ=(ev t e σ).bind fun v σ=>ofOpt σ (BQ v):=rfl
theorem BY{e:E}:ev t (.not e) σ=(ev t e σ).bind fun v σ=>ofOpt σ (zt v):=rfl
theorem wT{a b:E}:ev t (.and a b) σ=(ev t a σ).bind fun v σ=>match v with
  | .bool true=>ev t b σ
  | .bool false=>.ok (.bool false) σ
  |_=>.stuck:=rfl
theorem A2{a b:E}:ev t (.or a b) σ=(ev t a σ).bind fun v σ=>match v with
  | .bool true=>.ok (.bool true) σ
  | .bool false=>ev t b σ
  |_=>.stuck:=rfl
theorem BZ{op:CmpOp}{l r:E}:ev t (.cmp op l r) σ=(ev t l σ).bind fun a σ=>(ev t r σ).bind fun b σ=>ofOpt σ ((aQ σ.hp op a b).map V.bool):=rfl
theorem zz{o1 o2:CmpOp}{a b c:E}:ev t (.cmp2 o1 o2 a b c) σ=(ev t a σ).bind fun u σ=>(ev t b σ).bind fun v σ=>match aQ σ.hp o1 u v with
  |some true=>(ev t c σ).bind fun w σ=>ofOpt σ ((aQ σ.hp o2 v w).map V.bool)
  |some false=>.ok (.bool false) σ
  |none=>.stuck:=rfl
theorem wU{c a b:E}:ev t (.ite c a b) σ=(ev t c σ).bind fun v σ=>match v with
  | .bool true=>ev t a σ
  | .bool false=>ev t b σ
  |_=>.stuck:=rfl
theorem tN{o:E}{m:Nat}{as:Es}:ev t (.meth o m as) σ=(ev t o σ).bind fun ov σ=>match ay t ov m σ.hp with
  |some (.fn f self)=>(fL t as σ).bind fun vs σ=>t.prim (.ref f) (self::vs) σ
  |some (.prim id self)=>(fL t as σ).bind fun vs σ=>t.mprim id self vs σ
  |none=>.stuck:=rfl
theorem zA{es:Es}:ev t (.list es) σ=(fL t es σ).bind fun vs σ=>if vs.length≤1000 then .ok (.ref σ.hp.length) ⟨σ.vars,σ.hp++[.list vs]⟩ else .stuck:=rfl
theorem B0{es:Es}:ev t (.tup es) σ=(fL t es σ).bind fun vs σ=>if vs.length≤1000 then .ok (.ref σ.hp.length) ⟨σ.vars,σ.hp++[.tup vs]⟩ else .stuck:=rfl
theorem B1{e i:E}:ev t (.sub e i) σ=(ev t e σ).bind fun v σ=>(ev t i σ).bind fun k σ=>cf t v k σ:=rfl
theorem B2{e lo hi:E}:ev t (.slc e lo hi) σ=(ev t e σ).bind fun v σ=>(ev t lo σ).bind fun a σ=>(ev t hi σ).bind fun b σ=>aZ v a b σ:=rfl
theorem GH:fL t .nil σ=.ok [] σ:=rfl
theorem lg{e:E}{r:Es}:fL t (.cons e r) σ=(ev t e σ).bind fun v σ=>(fL t r σ).bind fun vs σ=>.ok (v::vs) σ:=rfl
end
noncomputable def fi(K:Frag)(f:Value):Prop:=keepIn K f=true∨(∃n,f=.type n)∨∃n,f=.builtin n
structure fU(G:bB)(t:Tb)(lv:Nat):Prop where
 nd:G.atts.Nodup
 cls:∀C ns,t.flds.lookup C=some ns→lb G.K C∧∀n∈ns,∀y,G.atts[n]? =some y→o9 G.K C y
 mth:∀C ms m f,t.meths.lookup C=some ms→ms.lookup m=some f→lb G.K C∧(∀y,G.atts[m]? =some y→findIn G.K (.ref C) y=some (some (.ref f)))∧isFn G.K (.ref f)=true∧keepIn G.K (.ref f)=true
 prim:∀(x:Fx) as σ w vs us,x.Ok G→lv≤x.lv→aj (VR as) vs us→ah G x as σ (call w us) VR (t.prim w vs σ)
 lists:∀a l,t.lists.lookup a=some l→∃vs n,G.K.lookup a=some (listOf vs.toArray n)∧aj (VR []) l vs
 isC:∀w,t.isC w=true→fi G.K w
 msel:∀(x:Fx) as σ v m u y pl s,x.Ok G→VR as v u→G.atts[m]? =some y→t.msel v m σ.hp=some s→∃id,s=.prim id v∧ah G x as σ (getMethod u y pl) (fun _ (_:Unit) r=>r=(.builtin id,[u])) (.ok () σ)
 mprim:∀(x:Fx) as σ id v vs u us,x.Ok G→lv≤x.lv→VR as v u→aj (VR as) vs us→ah G x as σ (call (.builtin id) (u::us)) VR (t.mprim id v vs σ)
structure kq(G:bB)(c:Cx)(x:Fx):Prop where
 ok:x.Ok G
 names:c.names=x.names
 kinds:c.kinds=x.cs.names
 atts:c.atts=G.atts
 glob:∀y v,c.glob.lookup y=some v→ce G y v
 exn:ce G c.exn (.sta (.ref G.xc))
section
variable {M:Model}{A:Around}{E:Value→Shared→Prop}{s:Shared}
theorem bZ{pos:Pos}{f:Value}{first:List Value}{Q:Value→Shared→Prop}{P:Heap→Prop}{args:List (Bool×Sem Value)}{keywords:List (Option Str×Sem Value)}(hplain:(args.any (·.1)||keywords.any (·.1.isNone))=false)
  (hk:∀h,P h→∃k,(k=Keeper.frame∨k=Keeper.machine∨k=Keeper.boundFrame)∧Looks M h (keeperOf f) k)
  (h:aJ M A (evalArgs f true args keywords) (fun a s₁=>P s₁.heap∧aJ M A (call f (first++a.pos) a.kw) Q E s₁) E s):aJ M A (callWith pos f first args keywords) Q E s:=by
 unfold callWith
 refine ae (a8 (av h (fun a s₁ h₁=>aF ?_) fun z z x=>x))
 refine ak (hk _ h₁.1) fun k hk' L=>?_
 simp only[hplain]
 refine aq (L.here ?_)
 have tail:∀{t:Sem Value},aJ M A t Q E s₁→aJ M A (t>>=fun r=>holding [r] point>>=fun z=>pure r) Q E s₁:=
  fun ht=>ae (av ht (fun r s₂ hr=>aq (wpAny_holding (wpAny_point (au hr)))) fun z z x=>x)
 have marked (mk:Value):aJ M A (callMarked mk f (first++a.pos) a.kw) Q E s₁:=by
  unfold callMarked
  exact fun Γ p hΓ hc=>by rw[Sem.wp_keep];exact h₁.2 Γ p hΓ hc
 rcases hk' with rfl|rfl|rfl<;>dsimp only<;>first|exact tail h₁.2|(split<;>first|exact tail h₁.2|exact tail (marked _))
theorem bK{f:Value}{x:Sem Value}{rest:List (Bool×Sem Value)}{Q:Args→Shared→Prop}
  (h:aJ M A (spliced ((false,x)::rest)) (fun vs s'=>Q ⟨vs,[]⟩ s') E s):aJ M A (evalArgs f true ((false,x)::rest) []) Q E s:=by
 unfold evalArgs
 show aJ M A (spliced ((false,x)::rest)>>=_) Q E s
 refine ae (av h (fun vs s' h'=>?_) fun z z x=>x)
 exact aB (wpAny_holding (wpAny_bind (wpAny_pure (wpAny_bind (wpAny_pure (wpAny_pure h'))))))
end
section
variable {G:bB}{x:Fx}{as:As}{σ σ':St}{α α' β γ:Type}{R:As→β→α→Prop}{R':As→γ→α'→Prop}
theorem ah.bindR{t:Sem α}{f:α→Sem α'}{r:af β}{g:β→St→af γ}(h:ah G x as σ t R r)(k:∀a b σ' as',r=.ok b σ'→as <+: as'→R as' b a→ah G x as' σ' (f a) R' (g b σ')):
  ah G x as σ (t>>=f) R' (r.bind g):=by
 cases r with
 |ok b σ1=>exact h.bind fun a as' ha hr=>k a b σ1 as' rfl ha hr
 |exc H=>exact h.bindX
 |stuck=>trivial
theorem ah.mapR{t:Sem α}{f:α→Sem α'}{r:af β}{g:β→γ}(h:ah G x as σ t R r)(k:∀a b σ' as',r=.ok b σ'→as <+: as'→R as' b a→ah G x as' σ' (f a) R' (.ok (g b) σ')):
  ah G x as σ (t>>=f) R' (r.bind fun b σ=>.ok (g b) σ):=h.bindR k
theorem af.bind_ok{r:af β}:(r.bind fun b σ=>.ok b σ)=r:=by cases r<;>rfl
theorem ah.after{t:Sem α}{f:α→Sem α}{r:af β}(h:ah G x as σ t R r)(k:∀a b σ' as',R as' b a→ah G x as' σ' (f a) R (.ok b σ')):ah G x as σ (t>>=f) R r:=by
 have:=h.bindR (g:=fun b σ=>.ok b σ) (f:=f) (R':=R) fun a b σ' as' z z hr=>k a b σ' as' hr
 rwa [af.bind_ok] at this
theorem ah.skip{t:Sem Unit}{f:Unit→Sem α}{r:af β}(ht:∀s (Q:Unit→Shared→Prop) E,Q () s→wpAny (model G.prog G.w) x.A t Q E s)(h:ah G x as σ (f ()) R r):ah G x as σ (t>>=f) R r:=by
 cases r with
 |ok b σ1=>exact fun s Q E hr hq=>aq (ht s _ E (h s Q E hr hq))
 |exc H=>exact fun s Q E hr hp hq=>aq (ht s _ E (h s Q E hr hp hq))
 |stuck=>trivial
theorem ah.operate{m:Sem Value}{vs:List Value}{r:af V}(h:ah G x as σ m VR r):ah G x as σ (operate vs m) VR r:=by
 unfold PySem.operate
 exact h.holding.after fun a b σ' as' hr=>.skip (fun s Q E hq=>wpAny_release hq) (.pure hr)
theorem ah.ofOpt{t:Sem α}{o:Option β}(h:∀b,o=some b→ah G x as σ t R (.ok b σ)):ah G x as σ t R (ofOpt σ o):=by
 cases o with
 |some b=>exact h b rfl
 |none=>trivial
theorem ah.res{t:Sem α}{r r':af β}(h:ah G x as σ t R r)(e:r=r'):ah G x as σ t R r':=e ▸ h
theorem tO{c:Const}{v:V}{k pos}(h:tI c v=true):ah G x as σ (eval (.Constant c k pos) x.env) VR (.ok v σ):=by
 refine .of_wp fun s Q E hr hq=>?_
 replace h:=of_decide_eq_true h
 cases v with
 |none=>obtain rfl:=Option.some.inj h;exact fun z z z=>hq .none s.toks rfl
 |bool a=>obtain rfl:=Option.some.inj h;exact fun z z z=>hq (.bool a) s.toks rfl
 |int i=>obtain rfl:=Option.some.inj h;exact fun z z z=>hq (.int i s.toks) (s.toks+1) ⟨_,rfl⟩
 |bytes a=>obtain rfl:=Option.some.inj h;exact fun z z z=>hq (.bytes a.toArray s.toks) (s.toks+1) ⟨_,rfl⟩
 |_=>exact bt h
theorem fV{b:Bool}:ah G x as σ (truthy (.bool b)) (fun z=>Eq) (.ok b σ):=.of_wp fun s Q E hr hq=>wpAny_truthy_bool (hq b s.toks rfl)
theorem Ep{b:Bool}:ah G x as σ (unaryOp .Not (.bool b)) VR (.ok (.bool (!b)) σ):=.of_wp fun s Q E hr hq=>not_of (wpAny_truthy_bool (hq _ s.toks rfl))
theorem cT{o:Expr}{y:Str}{env:Env}{whole:Sem Value}(h:(!(rH o))=true):attributeBase o y env whole=whole:=by
 cases o<;>first|rfl|exact Bool.noConfusion h
theorem bh(slice:Expr)(o i:Value):∃ops,subscripted slice false o i=PySem.operate ops (getItem o i):=by
 cases slice with
 |Slice _ _ s _=>cases s<;>exact⟨_,rfl⟩
 |_=>exact⟨_,rfl⟩
theorem aE.listAt{h:Heap}(R:aE G x σ as h){i:Nat}{l:List V}(e:σ.hp[i]? =some (.list l)):∃p vs n,as[i]? =some p∧h.get? p.1=some (listOf vs.toArray n)∧aj (VR as) l vs:=by
 obtain⟨p,o1,o2,a,b,c,vs,n,rfl,d⟩:=R.get e
 exact⟨p,vs,n,a,b,d⟩
theorem wV{u:V}(h:wN u=false):∀w,u≠.sta w:=fun w e=>by subst e;cases h
theorem nO{t:Tb}{lv:Nat}(to:fU G t lv){C:Addr}{n:Nat}{y:Str}(hf:mL t C n=true)(hy:G.atts[n]? =some y):lb G.K C∧o9 G.K C y:=by
 unfold mL at hf
 cases q:t.flds.lookup C with
 |none=>rw[q] at hf;cases hf
 |some ns=>
  rw[q] at hf
  exact⟨(to.cls C ns q).1,(to.cls C ns q).2 n (List.contains_iff_mem.mp hf) y hy⟩
theorem pg{t:Tb}{lv:Nat}(to:fU G t lv)(ok:x.Ok G){v:V}{u:Value}{n:Nat}{y:Str}(hr:VR as v u)(hy:G.atts[n]? =some y):ah G x as σ (getAttr u y true) VR (aX t v n σ):=.vR fun i e=>by
 subst e
 refine ak hr fun p hp q92=>?_;obtain rfl:=q92
 exact .oI fun C fs hi=>.ifS fun hf=>.oO fun u hv=>.ifS fun hs=>BN ok to.nd (nO to hf hy).1 (nO to hf hy).2 (wV hs) hy hi hp hv
theorem zB{t:Tb}{lv:Nat}(to:fU G t lv)(ok:x.Ok G){a:Addr}{k:Int}{tk:Tok}{l:List V}{value slice:Expr}(e:t.lists.lookup a=some l)(q:0≤k∧k < 1000000):ah G x as σ (subscriptTail value slice (.ref a) (.int k tk)) VR (ofOpt σ l[k.toNat]?):=by
 obtain⟨ops,hs⟩:=bh slice (.ref a) (.int k tk)
 refine .ofOpt fun w hw=>.of_wp fun s Q E hr hq=>?_
 refine dc (to.lists a l e) fun vs n a1 a3=>?_
 refine ak (a3.get hw) fun z hz hz'=>?_
 refine ak hr.fr fun m F y=>?_
 have L:s.heap.IsList a vs.toArray:=⟨_,(ok.X.keeps F.keep) _ _ a1,rfl,⟨_,rfl⟩⟩
 exact tail_any L.typeIs slot_list_getitem.lookup (getItem_listL L q.1 (by lia) hz (hq _ s.toks (hz'.mono nil_prefix))) hs
theorem zC{a:Nat}{k:Int}{tk:Tok}{l:List V}{p:Addr×Addr}{value slice:Expr}(e:σ.hp[a]? =some (.list l))(hp:as[a]? =some p)(q:0≤k∧k < 1000000):ah G x as σ (subscriptTail value slice (.ref p.1) (.int k tk)) VR (ofOpt σ l[k.toNat]?):=by
 obtain⟨ops,hs⟩:=bh slice (.ref p.1) (.int k tk)
 refine .ofOpt fun w hw=>.of_wp fun s Q E hr hq=>?_
 refine fh (hr.listAt e) fun p' vs n a1 a2 a3=>?_
 rw[hp] at a1;cases a1
 refine ak (a3.get hw) fun z hz hz'=>?_
 have L:s.heap.IsList p.1 vs.toArray:=⟨_,a2,rfl,⟨_,rfl⟩⟩
 exact tail_any L.typeIs slot_list_getitem.lookup (getItem_listL L q.1 (by lia) hz (hq _ s.toks hz')) hs
theorem zD{b:Bs}{t tk:Tok}{k:Int}{value slice:Expr}(q:0≤k∧k < b.length∧b.length≤1000000):ah G x as σ (subscriptTail value slice (.bytes b.toArray t) (.int k tk)) VR (.ok (.int (b.getD k.toNat 0).toNat) σ):=by
 obtain⟨ops,hs⟩:=bh slice (.bytes b.toArray t) (.int k tk)
 exact .of_wp fun s Q E hr hq=>tail_any (W.typeIs_bytes _ _ _) FB.slot_bytes_getitem.lookup (W.getItem_bytes (by lia) q.1 q.2.1 (hq _ _ ⟨_,rfl⟩)) hs
theorem B3{t:Tb}{lv:Nat}(to:fU G t lv)(ok:x.Ok G){v i:V}{u k:Value}{value slice:Expr}(hv:VR as v u)(hi:VR as i k):ah G x as σ (subscriptTail value slice u k) VR (cf t v i σ):=by
 refine .vI fun j e=>?_
 subst e
 obtain⟨t',rfl⟩:=hi
 cases v with
 |bytes b=>obtain⟨t,rfl⟩:=hv;exact .ifS fun q=>zD q
 |ref a=>obtain⟨p,hp,rfl⟩:=hv;exact .oL fun l e=>.ifS fun q=>zC e hp q
 |sta w=>
  cases hv
  cases u with
  |ref a=>exact .oO fun l e=>.ifS fun q=>zB to ok e q
  |_=>trivial
 |_=>trivial
theorem B4{i j:Nat}{p q:Addr×Addr}{l m:List V}(hi:σ.hp[i]? =some (.list l))(hp:as[i]? =some p)(hj:σ.hp[j]? =some (.list m))(hq:as[j]? =some q)(hl:l.length+m.length≤1000000):
  ah G x as σ (binaryOp .Add (.ref p.1) (.ref q.1)) VR (.ok (.ref σ.hp.length) ⟨σ.vars,σ.hp++[.list (l++m)]⟩):=by
 refine .of_any fun s Q E hr k=>?_
 refine fh (hr.listAt hi) fun p' vs n a1 a2 a3=>?_
 rw[hp] at a1;cases a1
 refine fh (hr.listAt hj) fun q' ws n2 b1 b2 b3=>?_
 rw[hq] at b1;cases b1
 have l1:=a3.length
 have l2:=b3.length
 refine concat_meets ⟨_,a2,rfl⟩ ⟨_,b2,rfl⟩ noFill_list_add seq_list_add PySem.F.slot_list_add PySem.F.entry_list_add (PySem.F.args_list_add_2 _ _) (AutoSeq1.list___add___list_list_0 p.1 vs.toArray n q.1 ws.toArray n2 (by simp[sizeLine_eq];lia)) ⟨a2,b2,?_⟩
 refine k _ _ _ s.toks (prefix_append as _) (hr.push rfl ⟨vs++ws,0,by simp,a3.append b3⟩) ⟨(s.heap.objs.size,s.heap.objs.size),by rw[←hr.len];simp,rfl⟩
theorem rK{a b:V}{u w:Value}(hv:VR as a u)(hw:VR as b w):ah G x as σ (binaryOp .Add u w) VR (lf a b σ):=.vR fun i e=>.vR fun j e2=>by
 subst e e2
 refine ak hv fun p hp q92=>?_;obtain rfl:=q92
 refine ak hw fun q hq q92=>?_;obtain rfl:=q92
 exact .oL fun l hl=>.oL fun m hm=>.ifS fun z=>B4 hl hp hm hq z
theorem B5{op:Operator}{a b:V}{u w:Value}(hv:VR as a u)(hw:VR as b w):ah G x as σ (binaryOp op u w) VR (dy op a b σ):=by
 have D:ah G x as σ (binaryOp op u w) VR (ofOpt σ (tH op a b)):=.ofOpt fun r e=>wL e hv hw
 exact zu (M:=ah G x as σ (binaryOp op u w) VR) D fun e=>El (M:=ah G x as σ (binaryOp op u w) VR) D (e ▸ rK hv hw)
theorem aj.one{α β:Type}{R:α→β→Prop}{a b}(h:R a b):aj R [a] [b]:=.cons h .nil
theorem aG{e:Expr}{r:List Expr}{env:Env}(h:ck e=false):starEach (e::r) env=(false,eval e env)::starEach r env:=by
 cases e<;>first|rfl|cases h
theorem fj{c:Cx}:∀{es:Es} {l:List Expr} {env:Env} {pos:Pos},fT c es l=true→(backTo pos (starEach l env)).any (·.1)=false
 | .nil,[],_,_,_=>rfl
 | .nil,_::_,_,_,h=>nomatch h
 | .cons _ _,[],_,_,h=>nomatch h
 | .cons a r,e::l,env,pos,h=>by
  obtain⟨h,h2⟩:=an h
  rw[aG (not_eq_true' _ ▸ (an h).2)]
  exact fj h2
theorem gV{pos:Pos}{env:Env}:ah G x as σ (spliced (backTo pos (starEach [] env))) (fun as=>aj (VR as)) (.ok [] σ):=.pure .nil
theorem jn{prog:Program}{w:World}{K:Frag}{f:Value}(hf:fi K f)(h:Heap)(X:K.In h):∃k,(k=Keeper.frame∨k=Keeper.machine∨k=Keeper.boundFrame)∧Looks (model prog w) h (keeperOf f) k:=by
 rcases hf with hf|⟨n,rfl⟩|⟨n,rfl⟩
 ·exact keeps_K hf h X
 ·exact⟨.machine,.inr (.inl rfl),.now⟩
 ·exact⟨.machine,.inr (.inl rfl),.now⟩
theorem zE(ok:x.Ok G){as':As}{σ':St}{h:Heap}(R:aE G x σ' as' h):G.K.In h:=R.fr.elim fun m k=>ok.X.keeps k.1.keep
theorem jo{cp:Pos}{env:Env}:∀{l:List Expr},(∀e∈l,ck e=false)→(backTo cp (starEach l env)).any (·.1)=false
 | [],_=>rfl
 |e::l,h=>by
  rw[aG (h e (.head _))]
  show(false||(backTo cp (starEach l env)).any (·.1))=false
  rw[jo fun e he=>h e (.tail _ he)];rfl
theorem nP{cp:Pos}{env:Env}{e:Expr}{l:List Expr}{f:Value}{first:List Value}{rs:af (List V)}{g:List V→St→af V}(ok:x.Ok G)(hf:fi G.K f)(hp:∀z∈e::l,ck z=false)
  (hs:ah G x as σ (spliced (backTo cp (starEach (e::l) env))) (fun as=>aj (VR as)) rs)
  (hk:∀us vs σ' as',as <+: as'→aj (VR as') vs us→ah G x as' σ' (call f (first++us)) VR (g vs σ')):
  ah G x as σ (callWith cp f first (backTo cp (starEach (e::l) env)) []) VR (rs.bind g):=by
 have hplain:((backTo cp (starEach (e::l) env)).any (·.1)||([]:List (Option Str×Sem Value)).any (·.1.isNone))=false:=by rw[jo hp];rfl
 have keep:=jn (prog:=G.prog) (w:=G.w) hf
 have inK:∀{as' σ' s},aE G x σ' as' s→G.K.In s:=fun R=>zE ok R
 have args:∀s (Q:Args→Shared→Prop) E,aJ (model G.prog G.w) x.A (spliced (backTo cp (starEach (e::l) env))) (fun vs s'=>Q { pos:=vs } s') E s→aJ (model G.prog G.w) x.A (evalArgs f true (backTo cp (starEach (e::l) env)) []) Q E s:=by
  intro s Q E h
  rw[aG (hp e (.head _))] at h⊢
  exact bK h
 cases rs with
 |stuck=>trivial
 |exc H=>exact fun s Q E hr hp hq=>bZ hplain keep (args _ _ _ (hs s _ E hr hp hq))
 |ok vs σ1=>
  show ah _ _ _ _ _ _ (g vs σ1)
  cases hg:g vs σ1 with
  |stuck=>trivial
  |exc H=>
   intro s Q E hr hp hq
   refine bZ hplain keep (args _ _ _ (hs s _ E hr fun us as' h' tk' ha hr' hu=>⟨inK hr',?_⟩))
   exact(hk us vs σ1 as' ha hu |>.res hg) _ Q E hr' hp fun e as2 h2 tk2 ha2=>hq e as2 h2 tk2 (ha.trans ha2)
  |ok v σ2=>
   intro s Q E hr hq
   refine bZ hplain keep (args _ _ _ (hs s _ E hr fun us as' h' tk' ha hr' hu=>⟨inK hr',?_⟩))
   exact(hk us vs σ1 as' ha hu |>.res hg) _ Q E hr' fun e as2 h2 tk2 ha2=>hq e as2 h2 tk2 (ha.trans ha2)
theorem lh{c:Cx}:∀{es:Es} {l:List Expr},fT c es l=true→∀z∈l,ck z=false
 | .nil,[],_=>fun y h=>nomatch h
 | .nil,_::_,h=>nomatch h
 | .cons _ _,[],h=>nomatch h
 | .cons a r,e::l,h=>fun z hz=>rJ h fun h1 h3 h2=>by
  rcases mem_cons.mp hz with rfl|hz
  ·exact(not_eq_true' _).mp h3
  ·exact lh h2 z hz
theorem lk{c:Cx}{es:Es}{l:List Expr}{pos:Pos}{f:Value}{first:List Value}{rs:af (List V)}{g:List V→St→af V}(ok:x.Ok G)(hf:fi G.K f)(hc:fT c es l=true)
  (hs:ah G x as σ (spliced (backTo pos (starEach l x.env))) (fun as=>aj (VR as)) rs) (hnil:l=[]→rs=.ok [] σ)
  (hk:∀us vs σ' as',as <+: as'→aj (VR as') vs us→ah G x as' σ' (call f (first++us)) VR (g vs σ')):
  ah G x as σ (callWith pos f first (backTo pos (starEach l x.env)) []) VR (rs.bind g):=by
 cases l with
 |nil=>
  obtain rfl:=hnil rfl
  have hk0:=hk [] [] σ as (prefix_refl _) .nil
  show ah _ _ _ _ _ _ (g [] σ)
  cases hg:g [] σ with
  |stuck=>trivial
  |exc H=>exact fun s Q E hr hp hq=>bZ rfl (jn hf) (aB (evalArgs_nil3 ⟨zE ok hr,(hk0.res hg) _ Q E hr hp hq⟩))
  |ok v σ2=>exact fun s Q E hr hq=>bZ rfl (jn hf) (aB (evalArgs_nil3 ⟨zE ok hr,(hk0.res hg) _ Q E hr hq⟩))
 |cons e l=>exact nP ok hf (lh hc) hs hk
end
inductive Fl where
 |next|brk|ret (v:V)
noncomputable def eG(as:As):Fl→Flow→Prop
 | .next,f=>f=.next
 | .brk,f=>f=.brk
 | .ret v,f=>∃u,f=.ret u∧VR as v u
noncomputable def Fl.back:Fl→V
 | .ret v=>v
 |_=>.none
theorem eG.mono{as as':As}(h:as <+: as'){f:Fl}{u:Flow}(r:eG as f u):eG as' f u:=by
 cases f with
 |next=>exact r
 |brk=>exact r
 |ret v=>obtain⟨w,a,b⟩:=r;exact⟨w,a,b.mono h⟩
theorem eG.back{as:As}{f:Fl}{u:Flow}:eG as f u→VR as f.back (match u with | .ret v=>v|_=>.none):=by
 intro r
 cases f with
 |next=>obtain rfl:=r;rfl
 |brk=>obtain rfl:=r;rfl
 |ret v=>obtain⟨w,rfl,b⟩:=r;exact b
noncomputable def af.fn(vars:aC):af Fl→af V
 | .ok f σ=>.ok f.back ⟨vars,σ.hp⟩
 | .exc H=>.exc H
 | .stuck=>.stuck
section
variable {G:bB}{x x':Fx}{as as':As}{σ σ':St}{h h' g:Heap}
noncomputable def aW(h:Heap)(as:As):Heap:=hideAll h ((bR h as).map (·.1))
theorem ph{h:Heap}{as:As}{a:Addr}:a∈(bR h as).map (·.1)↔∃p∈as,a=p.1∨a=p.2:=by
 constructor
 ·intro q
  refine ak (mem_map.mp q) fun z hz q92=>?_;obtain rfl:=q92
  refine dc (eD hz) fun j p hj hq=>?_
  exact⟨p,mem_of_getElem? hj,hq⟩
 ·rintro⟨p,hp,q⟩
  obtain⟨j,hj⟩:=getElem?_of_mem hp
  have:=gC (h:=h) hj
  rcases q with rfl|rfl
  ·exact mem_map.mpr ⟨_,this.1,rfl⟩
  ·exact mem_map.mpr ⟨_,this.2,rfl⟩
theorem aE.ground(R:aE G x σ as h):x.h₀.StaysIn (aW h as)∧(∃m,Fr x.h₀ x.L (aW h as) m∧iE x.names as σ.vars m)∧(∀p∈as,(aW h as).get? p.1=none∧(aW h as).get? p.2=none)∧(aW h as).objs.size=h.objs.size:=by
 refine ak R.fr fun m F Vr=>?_
 have N:=R.led
 have nm:∀b o,x.h₀.get? b=some o→b∉(bR h as).map (·.1):=fun b o e q=>by
  refine ak (mem_map.mp q) fun p hp q92=>?_;obtain rfl:=q92
  rw[(N p hp).2.2] at e;cases e
 have st:x.h₀.StaysIn (aW h as):=fun b o e=>hideAll_get _ (F.keep b o e) (nm b o e)
 refine gR F.ns fun oL es ep hL hLd hLk hLf=>?_
 have nL:x.L∉(bR h as).map (·.1):=fun q=>by
  refine ak (mem_map.mp q) fun p hp e=>?_
  exact(N p hp).2.1 e
 have hLg:=hideAll_get _ hL nL
 exact⟨st,⟨m,⟨⟨oL,es,ep,hLg,hLd,hLk,hLf⟩,st,F.above⟩,Vr⟩,fun p hp=>⟨hideAll_none _ (ph.mpr ⟨p,hp,.inl rfl⟩),hideAll_none _ (ph.mpr ⟨p,hp,.inr rfl⟩)⟩,hideAll_size _ _⟩
theorem aE.back(R:aE G x σ as h)(hx:x'.h₀=aW h as)(ha:as <+: as')(R':aE G x' σ' as' h'):aE G x ⟨σ.vars,σ'.hp⟩ as' h':=by
 obtain⟨st,⟨m,F,Vr⟩,_,_⟩:=R.ground
 obtain⟨⟨m',F',_⟩,own,sep,len,obj,low⟩:=R'
 rw[hx] at F' own
 refine gR F.ns fun oL es ep hLg hLd hLk hLf=>?_
 refine⟨⟨m,⟨⟨oL,es,ep,F'.keep x.L oL hLg,hLd,hLk,hLf⟩,fun b o e=>F'.keep b o (st b o e),F.above⟩,Vr.mono ha⟩,fun p hp=>?_,sep,len,obj,R.low.1,low.2⟩
 have ow:=own p hp
 have key:∀a,(aW h as).get? a=none→a≠x.L∧x.h₀.get? a=none:=fun a e=>by
  refine⟨fun q=>(by rw[q,hLg] at e;cases e),?_⟩
  cases q:x.h₀.get? a with
  |none=>rfl
  |some o=>rw[st _ _ q] at e;cases e
 exact⟨key _ ow.1.2,key _ ow.2.2⟩
theorem k8.back{H:Hp}{e:Value}(R:aE G x σ as h)(ok:x.Ok G)(hx:x'.h₀=aW h as)(hb:x'.base=x.base)(ho:x'.outer=x.env::x.outer)(hcl:x'.cl=[])(hB:∃A₀,x'.A=A₀.deeper x'.env∧Below A₀ x'.base x'.outer x'.h₀)
  (X:k8 G x' H as' e h') {s:Shared} (hs:s.heap=h') {M:Model} {Q:Unit→Shared→Prop} {E:Value→Shared→Prop} (k:∀h'',k8 G x H as' e h''→Q () { s with heap:=h'' }):
  wpAny M x'.A (leaving x'.env e) Q E s:=by
 refine Ed X fun a t vs m g₂ news q96 F hsm RS sep len low obj=>?_;obtain rfl:=q96
 refine ak hB fun A₀ hA B=>?_
 obtain⟨st,⟨m0,F0,_⟩,_,_⟩:=R.ground
 have henv:x'.env=envOf x'.cn x'.cs x'.L x'.a x'.ccd:=by show envX _ _ _ _ _ x'.cl=_;rw[hcl];rfl
 rw[hA,henv]
 rw[henv] at RS
 subst hs
 refine leave_onS B F RS hsm fun h'' R1 z U=>k h'' ⟨a,t,vs,m0,aW h as,news,rfl,F0,?_,?_,sep,len,low,obj⟩
 ·rw[←hx];exact U
 ·rw[←hb,←ho,←hx];exact R1
theorem nQ{M:Model}{A:Around}{E:Value→Shared→Prop}{s':Shared}{base g h:Heap}{outer:List Env}{L a e t:Addr}{m:Str→Option Value}{name:Str}{scope:Scope}{cd:Value}{Q:Unit→Shared→Prop}{news:List (Addr×Obj)}{cls:Value}{vs:List Value}{oe:Obj}
  (K:Below A base outer g) (F:Fr g L h m) (N:News g L h news) (keeps:∀b o,h.get? b=some o→s'.heap.get? b=some o) (ne:h.get? e=none) (nt:h.get? t=none)
  (he:s'.heap.get? e=some oe) (hc:oe.cls=cls) (hd:oe.data=.fields #[.ref t,.none,.none,.none,.bool false,.none]) (ht:s'.heap.TupAt t vs)
  (hQ:∀h',RaisedS base g outer e cls t vs news h'→g.UpToSlots h'→Q () { s' with heap:=h' }) (hk:scope.kind=.function):
  wpAny M (A.deeper (envOf name scope L a cd)) (leaving (envOf name scope L a cd) (.ref e)) Q E s':=by
 subst hc
 have K':=K.push (name:=name) (a:=a) (cd:=cd) F hk
 have hin:∀env∈(envOf name scope L a cd::outer),∀b,env.frame=some b→b∈(envOf name scope L a cd::outer).filterMap (·.frame):=fun env he b hb=>mem_filterMap.mpr ⟨env,he,hb⟩
 have nB:∀b,h.get? b=none→(hideAll h ((envOf name scope L a cd::outer).filterMap (·.frame))).get? b=none:=fun b hb=>by
  cases q:(hideAll h ((envOf name scope L a cd::outer).filterMap (·.frame))).get? b with
  |none=>rfl
  |some o=>rw[of_hideAll _ q] at hb;cases hb
 have st:base.StaysIn (hideAll h ((envOf name scope L a cd::outer).filterMap (·.frame))):=fun b o q=>hideAll_get _ (K'.stays b o q) fun hm=>by
  rw[(K'.frames.mem hm).1] at q;cases q
 have sg:∀b o,g.get? b=some o→b∉outer.filterMap (·.frame)→(hideAll h ((envOf name scope L a cd::outer).filterMap (·.frame))).get? b=some o:=fun b o q nm=>hideAll_get _ (F.keep b o q) fun hm=>by
  rcases kts_mem hm with z|z
  ·rw[z,kts_self F] at q
   cases q
  ·exact nm z
 have hl:∀q∈news,(hideAll h ((envOf name scope L a cd::outer).filterMap (·.frame))).get? q.1=some q.2∧g.get? q.1=none∧base.get? q.1=none:=fun q hq=>by
  refine⟨hideAll_get _ (N q hq).1 fun hm=>?_,(N q hq).2.2,kts_none K.stays (N q hq).2.2⟩
  refine ak (mem_filterMap.mp hm) fun env he hf=>?_
  rcases mem_cons.mp he with rfl|he
  ·exact(N q hq).2.1 (Option.some.inj hf).symm
  ·refine ak ((K.frames.mem (mem_filterMap.mpr ⟨env,he,hf⟩)).2) fun o ho y=>?_
   rw[(N q hq).2.2] at ho;cases ho
 refine wpAny_leaving_firstW (a0:=.ref t) K'.stack ((funFrames_hide K'.frames hin).of_keeps fun b o hb y=>⟨o,keeps b o hb,rfl⟩) rfl he (fun b o hb=>keeps b o (of_hideAll _ hb)) (nB e ne) hd rfl rfl fun h' hL=>?_
 obtain⟨k1,⟨_,_,k2⟩,k3,k4⟩:=hL
 have U:g.UpToSlots h':=((Heap.UpToSlots.of_keeps F.keep).trans (Heap.UpToSlots.of_keeps keeps)).trans k4
 exact hQ h' ⟨⟨_,st,sg,hl,⟨k1,nB e ne,k2,k3⟩,nB t nt⟩,ht.of_slots k4⟩ U
theorem tG.back{H:Hp}{e:Value}(R:aE G x σ as h)(ok':x'.cs.kind=.function)(hx:x'.h₀=aW h as)(hb:x'.base=x.base)(ho:x'.outer=x.env::x.outer)(hcl:x'.cl=[])(hB:∃A₀,x'.A=A₀.deeper x'.env∧Below A₀ x'.base x'.outer x'.h₀)
  (X:tG G x' H as' e h') {s:Shared} (hs:s.heap=h') {M:Model} {Q:Unit→Shared→Prop} {E:Value→Shared→Prop} (k:∀h'',k8 G x H as' e h''→Q () { s with heap:=h'' }):
  wpAny M x'.A (leaving x'.env e) Q E s:=by
 obtain⟨a,t,vs,g,vars,oe,rfl,R',keeps,na,nt,he,hc,hd,ht⟩:=X
 refine ak hB fun A₀ hA B=>?_
 obtain⟨st,⟨m0,F0,_⟩,_,_⟩:=R.ground
 refine ak R'.fr fun m' F' z=>?_
 have henv:x'.env=envOf x'.cn x'.cs x'.L x'.a x'.ccd:=by show envX _ _ _ _ _ x'.cl=_;rw[hcl];rfl
 rw[hA,henv]
 subst hs
 refine nQ B F' R'.led keeps na nt he hc hd ht (fun h'' R1 U=>k h'' ⟨a,t,vs,m0,aW h as,bR g as',rfl,F0,?_,?_,R'.sep,R'.len,R'.low.2,fun i o p e1 e2=>?_⟩) ok'
 ·rw[←hx];exact U
 ·rw[←hb,←ho,←hx];exact R1
 ·refine bC (R'.obj i o p e1 e2) fun o1 o2 q1 q2 q3=>?_
  have:=gC (h:=g) e2
  rw[q1,q2] at this
  exact⟨o1,o2,this.1,this.2,q3⟩
end
section
variable {prog:Program}{w:World}{A:Around}{s:Shared}
theorem cq{R:Result→Shared→Prop}{body env}
  (h:aJ (model prog w) (A.deeper env) (execs body env) (fun f s'=>R (.ok (.ret (match f with | .ret v=>v|_=>.none))) s')
   (fun e s'=>wpAny (model prog w) (A.deeper env) (leaving env e) (fun z s''=>R (.error e) s'') (fun e' s''=>R (.error e') s'') s') s):
  bf (model prog w) A (.func body env) R s:=by
 refine am ?_
 show aJ _ (A.deeper env) (do point;match ←(execs body env).onRaise (leaving env) with | .ret v=>ret v|_=>ret .none) _ _ s
 refine aq (wpAny_point (ae (bE (av h (fun f s' h'=>?_) fun z z h'=>aB h'))))
 cases f<;>exact au h'
theorem aK{R:Result→Shared→Prop}{a:Addr}{args:Args}{o:Obj}{fd:FuncData}{body:List Stmt}(hroom:A.depth < recursionLimit)
  (ho:s.heap.get? a=some o)
  (hd':o.data=.func fd) (hco:fd.scope.isCoroutine=false) (hgen:fd.scope.isGenerator=false) (hbody:fd.body=.stmts body) (hcd:s.heap.CodeRec fd.code fd.qualname)
  (h:wpAny (model prog w) A.in1 (bindArgs fd args) (fun binds s₁=>
   wpAny (model prog w) A.in1 (newFunctionEnv fd.scope fd.globals fd.closure binds (fd.qualname++".<locals>.") (some a) fd.code none fd.builtins)
    (fun env s₂=>s₂.heap.NoLimit∧bf (model prog w) A (.func body env) R s₂) (fun e s'=>R (.error e) s') s₁) (fun e s'=>R (.error e) s') s):
  bf (model prog w) A (.call (.ref a) args) R s:=by
 refine am (aB ?_)
 show wpAny _ A.in1 (callAny (.ref a) args) _ _ s
 simp only[callAny]
 refine wpAny_bind (wpAny_load ho ?_)
 refine BC hcd fun c oc vs tq hc hoc hdc hq=>?_
 simp only[hd',callFunction,hco,hgen,hbody,hc]
 rw[hc] at h
 refine wpAny_bind (m:=field (.ref c) 1) (wpAny_field hoc hdc hq (wpAny_bind (wpAny_pure ?_)))
 exact wpAny_bind (wpAny_mono h (fun binds s₁ h₁=>wpAny_bind (wpAny_mono h₁ (fun env s₂ h₂=>wpAny_bind (wpAny_enterFrame h₂.1 hroom
  (wpAny_pure (And.intro rfl (And.intro rfl h₂.2))))) fun z z h'=>h')) fun z z h'=>h')
end
structure lm(G:bB)(f:Addr)(qual:Str)(scope:Scope)(body:List Stmt)(ps names:List Str):Prop where
 at_:∀P:Prop,(∀oc od osl name params dV kV doc pm an cdv ct,G.K.lookup f=some ⟨oc,od,.func (fnX name qual params body scope [] dV kV doc pm an cdv ct),osl⟩→codeIn G.K cdv qual=true→
  (∀us:List Value,us.length=ps.length→bindArgs (fnX name qual params body scope [] dV kV doc pm an cdv ct) ⟨us,[]⟩=pure (ps.zip us))→P)→P
 co:scope.isCoroutine=false
 gen:scope.isGenerator=false
 kind:scope.kind=.function
 cell:∀y∈scope.names,y.2≠.cell
 nodup:names.Nodup
 pre:ps <+: names
 loc:∀y∈ps,scope.names.lookup y=some .local
noncomputable def ar(names:List Str)(vs:List V):aC:=vs.map some++replicate (names.length - vs.length) none
theorem gE{α:Type}{y:Str}{u:α}:∀{l:List (Str×α)},(l.map (·.1)).Nodup→(y,u)∈l→l.lookup y=some u
 |(z,w)::l,nd,hm=>by
  rw[map_cons,List.nodup_cons] at nd
  rw[lookup_cons]
  rcases mem_cons.mp hm with e|e
  ·cases e;simp
  ·have:y≠z:=fun q=>nd.1 (mem_map.mpr ⟨_,e,q⟩)
   rw[beq_false_of_ne this];exact gE nd.2 e
theorem rL{α:Type}:∀{ps:List Str} {us:List α},ps.Nodup→ps.length=us.length→∀{i:Nat} {y:Str} {u:α},ps[i]? =some y→us[i]? =some u→(ps.zip us).reverse.lookup y=some u:=by
 intro ps us nd hl i y u hy hu
 have mem:(y,u)∈(ps.zip us).reverse:=List.mem_reverse.mpr (mem_of_getElem? (i:=i) (by simp[List.getElem?_zip_eq_some,hy,hu]))
 have nd':((ps.zip us).reverse.map (·.1)).Nodup:=by
  rw[List.map_reverse,map_fst_zip (le_of_eq hl)];exact List.pairwise_reverse.mpr (nd.imp fun h=>Ne.symm h)
 exact gE nd' mem
section
variable {G:bB}{x:Fx}{as:As}{σ:St}
theorem eH{names ps:List Str}{vs:List V}{us:List Value}(nd:names.Nodup)(hp:ps <+: names)(hl:vs.length=ps.length)(hu:aj (VR as) vs us):
  iE names as (ar names vs) (fun y=>(ps.zip us).reverse.lookup y):=by
 intro i v hv
 unfold ar at hv
 rcases Nat.lt_or_ge i vs.length with q|q
 ·rw[getElem?_append_left (by simpa using q),getElem?_map] at hv
  refine ak (map_eq_some_iff.mp hv) fun v' hv' e=>?_
  cases e
  refine ak (hu.get hv') fun u hu' r=>?_
  have hi:i < ps.length:=by lia
  obtain⟨tl,rfl⟩:=hp
  have hy:ps[i]? =some ps[i]:=getElem?_eq_getElem hi
  refine⟨ps[i],u,by rw[getElem?_append_left hi];exact hy,rL (List.nodup_append.mp nd).1 (by rw[←hl,hu.length]) hy hu',r⟩
 ·rw[List.getElem?_append_right (by simpa using q)] at hv
  have:=mem_of_getElem? hv
  simp at this
noncomputable def calleeOf(x:Fx)(f:Addr)(qual:Str)(scope:Scope)(names:List Str)(cdv:Value)(h:Heap)(as:As):Fx:=
 { A:=x.A.deeper (envX qual scope h.objs.size f cdv []),cn:=qual,cs:=scope,L:=h.objs.size,a:=f,ccd:=cdv,cl:=[],outer:=x.env::x.outer,base:=x.base,h₀:=aW h as,lv:=x.lv - 1,names:=names }
theorem bS{h:Heap}(ok:x.Ok G)(R:aE G x σ as h):Below x.A x.base (x.env::x.outer) (aW h as):=by
 obtain⟨st,⟨m,F,Vr⟩,own,sz⟩:=R.ground
 obtain⟨A₀,B⟩:=ok.B
 have B₁:=pushX B F (env:=x.env) rfl ok.hk
 exact⟨ok.hf,B₁.stays,B₁.frames⟩
theorem d6{f:Addr}{qual:Str}{scope:Scope}{names:List Str}{cdv:Value}{h:Heap}(ok:x.Ok G)(hlv:1≤x.lv)(hk:scope.kind=.function)(nd:names.Nodup)(R:aE G x σ as h):(calleeOf x f qual scope names cdv h as).Ok G:=by
 obtain⟨st,⟨m,F,Vr⟩,own,sz⟩:=R.ground
 have B₁:=bS ok R
 refine⟨⟨x.A,B₁⟩,ok.X.keeps st,ok.T.keeps st,ok.XB,ok.TB,ok.nolim.keeps st,hk,ok.hh,?_,ok.hg,?_,?_,nd,?_,fun h=>?_⟩
 ·show(x.A.frames.map _)=_
  rw[ok.hf];rfl
 ·have:=ok.dep
  show x.A.depth+1+4 * (x.lv - 1)+8 < _
  exact BD hlv this rfl
 ·have:=ok.uni
  show x.A.units+3+16 * (x.lv - 1)+40 < _
  exact BD hlv this rfl
 ·have:=ok.most;show x.lv - 1≤40;exact GD this
 ·have:=ok.most;have h:x.lv - 1=40:=h;lia
theorem fk{f:Addr}{qual:Str}{scope:Scope}{body:List Stmt}{ps names:List Str}{vs:List V}{us:List Value}{cdv:Value}{h h₁:Heap}{ob:Obj}(R:aE G x σ as h)(fo:lm G f qual scope body ps names)
  (hl:vs.length=ps.length) (hu:aj (VR as) vs us) (hns:h₁.Ns h.objs.size (fun y=>(ps.zip us).reverse.lookup y)) (hsb:Heap.SameBut h.objs.size (h.push ob) h₁):
  aE G (calleeOf x f qual scope names cdv h as) ⟨ar names vs,σ.hp⟩ as h₁:=by
 obtain⟨st,⟨m,F,Vr⟩,own,sz⟩:=R.ground
 have hk₁:∀b o,h.get? b=some o→h₁.get? b=some o:=fun b o e=>hsb.extBut b o (ne_of_lt (Heap.lt_size e)) (Heap.get?_push_of_some _ e)
 refine⟨⟨_,⟨hns,fun b o e=>hk₁ b o (of_hideAll _ e),le_of_eq sz⟩,eH fo.nodup fo.pre hl hu⟩,fun p hp=>?_,R.sep,R.len,fun i o p e1 e2=>?_,?_,R.low.2⟩
 ·obtain⟨i,hi⟩:=getElem?_of_mem hp
  have:=R.lt hi
  exact⟨⟨ne_of_lt this.1,(own p hp).1⟩,ne_of_lt this.2,(own p hp).2⟩
 ·refine bC (R.obj i o p e1 e2) fun o1 o2 a b c=>?_
  exact⟨o1,o2,hk₁ _ _ a,hk₁ _ _ b,c⟩
 ·refine ak R.fr fun m0 F0 z=>?_
  exact lt_trans R.low.1 F0.ns.lt
theorem mO{f:Addr}{qual:Str}{scope:Scope}{body:List Stmt}{ps names:List Str}{vs:List V}{us:List Value}(ok:x.Ok G)(hlv:1≤x.lv)(fo:lm G f qual scope body ps names)
  (hl:vs.length=ps.length) (hu:aj (VR as) vs us) {fl:Fl} {σ':St}
  (hb:∀x':Fx,x'.Ok G→x'.cs=scope→x'.names=names→x.lv≤x'.lv+1→ah G x' as ⟨ar names vs,σ.hp⟩ (execs body x'.env) eG (.ok fl σ'))
  {s:Shared} (R:aE G x σ as s.heap) {RR:Result→Shared→Prop} (hq:∀a as' h' tk',as <+: as'→aE G x ⟨σ.vars,σ'.hp⟩ as' h'→VR as' fl.back a→RR (.ok (.ret a)) { s with heap:=h',toks:=tk' }):
  bf (model G.prog G.w) x.A (.call (.ref f) ⟨us,[]⟩) RR s:=by
 refine fo.at_ _ fun oc od osl name params dV kV doc pm an cdv ct ho hcd hbind=>?_
 refine ak R.fr fun m F Vr=>?_
 have X:=ok.X.keeps F.keep
 refine aK (fd:=fnX name qual params body scope [] dV kV doc pm an cdv ct) (body:=body) (by have:=ok.dep;exact GE this) (X _ _ ho) rfl fo.co fo.gen rfl (codeRec_of X hcd) ?_
 refine BindsTo.of_eq (hbind us (by rw[←hu.length,hl])) _ _ _ _ ?_
 refine wpAny_newFunctionEnv fo.cell (fun y hy=>fo.loc _ (of_mem_zip hy).1) (fun h₁ hns hsb=>⟨(ok.nolim.keeps F.keep).fresh _ hsb,cq ?_⟩) fo.kind
 have R₁:=fk (f:=f) (qual:=qual) (cdv:=cdv) R fo hl hu hns hsb
 have ok':=d6 (f:=f) (qual:=qual) (cdv:=cdv) ok hlv fo.kind fo.nodup R
 refine hb _ ok' rfl rfl (by show x.lv≤x.lv - 1+1;lia) { s with heap:=h₁,toks:=_ } _ _ R₁ fun a as' h' tk' ha R' hr=>?_
 exact hq _ as' h' tk' ha (R.back rfl ha R') hr.back
theorem A4{f:Addr}{qual:Str}{scope:Scope}{body:List Stmt}{ps names:List Str}{vs:List V}{us:List Value}{r:af Fl}(ok:x.Ok G)(hlv:1≤x.lv)(fo:lm G f qual scope body ps names)
  (hl:vs.length=ps.length) (hu:aj (VR as) vs us)
  (hb:∀x':Fx,x'.Ok G→x'.cs=scope→x'.names=names→x.lv≤x'.lv+1→ah G x' as ⟨ar names vs,σ.hp⟩ (execs body x'.env) eG r):
  kj G x as σ (call (.ref f) us) VR (r.fn σ.vars):=by
 refine fo.at_ _ fun oc od osl name params dV kV doc pm an cdv ct ho hcd hbind=>?_
 cases r with
 |stuck=>trivial
 |ok fl σ'=>
  intro s Q E R hq
  exact bJ (mO ok hlv fo hl hu hb R hq)
 |exc H=>
  intro s Q E R hq
  refine bJ ?_
  refine ak R.fr fun m F Vr=>?_
  have X:=ok.X.keeps F.keep
  refine aK (fd:=fnX name qual params body scope [] dV kV doc pm an cdv ct) (body:=body) (by have:=ok.dep;exact GE this) (X _ _ ho) rfl fo.co fo.gen rfl (codeRec_of X hcd) ?_
  refine BindsTo.of_eq (hbind us (by rw[←hu.length,hl])) _ _ _ _ ?_
  refine wpAny_newFunctionEnv fo.cell (fun y hy=>fo.loc _ (of_mem_zip hy).1) (fun h₁ hns hsb=>⟨(ok.nolim.keeps F.keep).fresh _ hsb,cq ?_⟩) fo.kind
  have R₁:=fk (f:=f) (qual:=qual) (cdv:=cdv) R fo hl hu hns hsb
  have ok':=d6 (f:=f) (qual:=qual) (cdv:=cdv) ok hlv fo.kind fo.nodup R
  refine hb _ ok' rfl rfl (by show x.lv≤x.lv - 1+1;lia) { s with heap:=h₁,toks:=_ } _ _ R₁ ?_ fun e as' h' tk' ha X'=>?_
  ·exact PassesOwn.leaving
  ·rcases X' with X'|X'
   ·exact k8.back (x':=calleeOf x f qual scope names cdv s.heap as) (s:={ s with heap:=h',toks:=tk' }) R ok rfl rfl rfl rfl ⟨x.A,rfl,bS ok R⟩ X' rfl fun h'' X''=>hq e as' h'' tk' ha X''
   ·exact tG.back (x':=calleeOf x f qual scope names cdv s.heap as) (s:={ s with heap:=h',toks:=tk' }) R fo.kind rfl rfl rfl rfl ⟨x.A,rfl,bS ok R⟩ X' rfl fun h'' X''=>hq e as' h'' tk' ha X''
theorem IW{f:Addr}{qual:Str}{scope:Scope}{body:List Stmt}{ps names:List Str}{vs:List V}{us:List Value}{r:af Fl}(ok:x.Ok G)(hlv:1≤x.lv)(fo:lm G f qual scope body ps names)
  (hl:vs.length=ps.length) (hu:aj (VR as) vs us)
  (hb:∀x':Fx,x'.Ok G→x'.cs=scope→x'.names=names→x.lv≤x'.lv+1→ah G x' as ⟨ar names vs,σ.hp⟩ (execs body x'.env) eG r):
  ah G x as σ (call (.ref f) us) VR (r.fn σ.vars):=(A4 ok hlv fo hl hu hb).tri
end
theorem fW{id:String}{a:Args}(h:Builtin.Bytes.decodersThatHold.contains id=false):bQ (.builtin id a)=true:=by
 obtain⟨pos,kw⟩:=a
 cases pos with
 |nil=>rfl
 |cons _ _=>show(!(Builtin.Bytes.decodersThatHold.contains id))=true;rw[h];rfl
section
variable {prog:Program}{w:World}{A:Around}
theorem gW{id:String}{args:Args}{b:Builtin}{R:Result→Shared→Prop}{s:Shared}(hb:entryFor table id=some b)
  (h:aJ (model prog w) (A.under (.builtin id args)) (b args) (fun fin s'=>match fin with | .done f=>R (.ok f) s'| .again c'=>c'.quiet=true∧bQ c'=true∧bf (model prog w) A c' R s') (fun e s'=>R (.error e) s') s):
  bf (model prog w) A (.builtin id args) R s:=by
 refine am ?_
 show aJ _ _ (match entryFor table id with |some b=>b args|none=>unsupported ((withoutEnding? id "#data").getD id)) _ _ s
 rw[hb];exact h
theorem hZ{id:String}{args:Args}{R:Result→Shared→Prop}{s:Shared}(hq:(Code.builtin id args).quiet=true)(hcl:bQ (.builtin id args)=true)
  (h:wpAny (model prog w) A.in1 (checkBuiltinCall id args) (fun z s'=>bf (model prog w) A (.builtin id args) R s') (fun e s'=>R (.error e) s') s):bf (model prog w) A (.call (.builtin id) args) R s:=by
 refine am (aB ?_)
 show wpAny _ _ (checkBuiltinCall id args>>=fun z=>again (.builtin id args)) _ _ _
 exact wpAny_bind (wpAny_mono h (fun z s' h'=>wpAny_pure (a:=Fin.again (.builtin id args)) (And.intro hq (And.intro hcl h'))) fun z z h'=>h')
end
section
variable {prog:Program}{w:World}{A:Around}{K:Frag}{C:Addr}{R:Result→Shared→Prop}{h:Heap}{g:Array GenState}{d:Drawn}{t:Nat}{os:OsState}
theorem A5{rest:List Value}{init:Value}(Y:Makes (model prog w) h C)(hi:Looks (model prog w) h (typeLookup (.ref C) "__init__") (some init))
  (hb:∀self,Looks (model prog w) h (bindSpecial init self) (init,[self])) (hne:(some init != some (Value.builtin "object.__init__"))=true)
  (hq:bf (model prog w) (A.under (.builtin "type.__call__" ⟨.ref C::rest,[]⟩)) (.call init ⟨.ref (h.objs.size+1)::rest,[]⟩) (InitBack (h.objs.size+1) R) ⟨(h.push emptyDict).push (instObj C h.objs.size),g,d,t,os⟩):
  bf (model prog w) A (.call (.ref C) ⟨rest,[]⟩) R ⟨h,g,d,t,os⟩:=by
 have Y':=Y
 obtain⟨⟨oc,od,cd,sl,hC,e1,e2,e4⟩,made,base,self,top,call,typ⟩:=Y
 refine am (aB ?_)
 show wpAny _ _ (callAny (.ref C) _) _ _ _
 refine nd_load hC ?_
 show wpAny _ _ (callAny.viaDunder (.ref C) _) _ _ _
 unfold callAny.viaDunder
 refine wpAny_bind (call.at ?_)
 dsimp only
 rw[tc_bind]
 refine wpAny_bind (wpAny_pure (wpAny_bind (wpAny_pure ?_)))
 refine wpAny_pure (a:=Fin.again (.call (.builtin "type.__call__") ⟨.ref C::rest,[]⟩)) (And.intro rfl (And.intro rfl ?_))
 refine hZ (Code.quiet_builtin _ (by decide +kernel)) (fW (by decide +kernel)) ?_
 refine check_slot tc_kind tc_split typ (tc_args _ _ _) ?_
 refine gW entry_typeCall ?_
 have hm:Looks (model prog w) h (mroOf (.ref C)) cd.mro:=((Looks.ld (part:=none) hC).andThen .now).andThen .now
 have k:∀b o,h.get? b=some o→((h.push emptyDict).push (instObj C h.objs.size)).get? b=some o:=fun b o e=>Heap.get?_push_of_some _ (Heap.get?_push_of_some _ e)
 have hx:((h.push emptyDict).push (instObj C h.objs.size)).get? (h.objs.size+1)=some (instObj C h.objs.size):=by heap_get
 have t1:Looks (model prog w) ((h.push emptyDict).push (instObj C h.objs.size)) (typeOf (.ref (h.objs.size+1))) (.ref C):=(Looks.ld hx).andThen .now
 have s1:=self.keeps k
 have i1:=hi.keeps k
 have b1:=(hb (.ref (h.objs.size+1))).keeps k
 refine aq (m:=mroOf (.ref C)) (hm.at ?_)
 show aJ _ _ (if cd.mro.isEmpty then _ else _) _ _ _
 simp only[e4,false_eq_true,if_false]
 refine aq (m:=Bind.madeBy (.ref C)) (made.at ?_)
 refine aq (m:=pure (Value.builtin "object.__new__")) (wpAny_pure ?_)
 refine aq (wpAny_holding (wpAny_call (new_K Y' hi (.inl hne) ?_)))
 have i2:Looks (model prog w) ((h.push emptyDict).push (instObj C h.objs.size)) (isInstance (.ref (h.objs.size+1)) (.ref C)) true:=t1.andThen s1
 refine aq (m:=isInstance (.ref (h.objs.size+1)) (.ref C)) (i2.at ?_)
 simp only[Bool.not_true,false_eq_true,if_false]
 refine ae (a8 ?_)
 show aJ _ _ (specialOf (.ref (h.objs.size+1)) "__init__">>=_) _ _ _
 have sp:Looks (model prog w) ((h.push emptyDict).push (instObj C h.objs.size)) (specialOf (.ref (h.objs.size+1)) "__init__") (some init):=t1.andThen i1
 refine aq (sp.at ?_)
 dsimp only
 refine a8 (aq (b1.at ?_))
 refine ae (bJ ?_)
 refine hW hq fun r s' z=>?_
 rcases r with e|(v|_|_|_)<;>first|exact z|exact z.elim|skip
 obtain⟨rfl,z⟩:=z
 refine au ?_
 dsimp only
 exact au z
end
noncomputable def af.mk(vars:aC)(n:Nat):af Fl→af V
 | .ok .next σ=>.ok (.ref n) ⟨vars,σ.hp⟩
 |_=>.stuck
noncomputable def eQ(x:Fx)(C:Addr)(us:List Value):Fx:={ x with A:=x.A.under (.builtin "type.__call__" ⟨.ref C::us,[]⟩),lv:=x.lv - 1 }
section
variable {G:bB}{x:Fx}{as:As}{σ:St}
theorem iF{C:Addr}{us:List Value}(ok:x.Ok G)(hlv:1≤x.lv):(eQ x C us).Ok G:=by
 refine⟨ok.B,ok.X,ok.T,ok.XB,ok.TB,ok.nolim,ok.hk,ok.hh,ok.hf,ok.hg,?_,?_,ok.nodup,?_,fun h=>?_⟩
 ·have:=ok.dep
  show x.A.depth+1+4 * (x.lv - 1)+8 < _
  exact BD hlv this rfl
 ·have:=ok.uni
  show x.A.units+1+16 * (x.lv - 1)+40 < _
  exact BD hlv this rfl
 ·have:=ok.most;show x.lv - 1≤40;exact GD this
 ·have:=ok.most;have h:x.lv - 1=40:=h;lia
theorem aE.under{C:Addr}{us:List Value}{h:Heap}(R:aE G x σ as h):aE G (eQ x C us) σ as h:=⟨R.fr,R.own,R.sep,R.len,R.obj,R.low⟩
theorem aE.ofUnder{C:Addr}{us:List Value}{h:Heap}(R:aE G (eQ x C us) σ as h):aE G x σ as h:=⟨R.fr,R.own,R.sep,R.len,R.obj,R.low⟩
theorem Er{C f:Addr}{qual:Str}{scope:Scope}{body:List Stmt}{ps names:List Str}{vs:List V}{us:List Value}{r:af Fl}(ok:x.Ok G)(hlv:2≤x.lv)(hm:makesIn G.K C=true)
  (hi:findIn G.K (.ref C) "__init__"=some (some (.ref f))) (hf:typeIn G.K (.ref f)=some (.type "function")) (fo:lm G f qual scope body ps names)
  (hl:vs.length+1=ps.length) (hu:aj (VR as) vs us)
  (hb:∀(x':Fx) as',x'.Ok G→x'.cs=scope→x'.names=names→x.lv≤x'.lv+2→ah G x' as' ⟨ar names (.ref σ.hp.length::vs),σ.hp++[.inst C []]⟩ (execs body x'.env) eG r):
  ah G x as σ (call (.ref C) us) VR (r.mk σ.vars σ.hp.length):=by
 cases r with
 |stuck=>trivial
 |exc H=>trivial
 |ok fl σ'=>
  cases fl with
  |brk=>trivial
  |ret v=>trivial
  |next=>
   intro s Q E R hq
   refine ak R.fr fun m F Vr=>?_
   have X:=ok.X.keeps F.keep
   obtain⟨hh,g,d,t,os⟩:=s
   refine bJ (A5 (makes_of X hm) (looks_findIn X hi) (fun self=>bind_fn X self hf) rfl ?_)
   have R1:aE G x ⟨σ.vars,σ.hp++[.inst C []]⟩ (as++[(hh.objs.size+1,hh.objs.size)]) ((hh.push emptyDict).push (instObj C hh.objs.size)):=by
    refine R.add (fun b o e=>Heap.get?_push_of_some _ (Heap.get?_push_of_some _ e)) (by simp;lia) (le_succ _) (le_refl _) (o1:=instObj C hh.objs.size) (o2:=emptyDict) ?_ ?_ ⟨rfl,[],0,rfl,.nil⟩
    ·heap_get
    ·exact Heap.get?_push_of_some _ (Heap.get?_push_size _ rfl)
   have hu1:aj (VR (as++[(hh.objs.size+1,hh.objs.size)])) (.ref σ.hp.length::vs) (.ref (hh.objs.size+1)::us):=
    .cons ⟨(hh.objs.size+1,hh.objs.size),by rw[←R.len];simp,rfl⟩ (hu.mono fun y y z=>z.mono (prefix_append _ _))
   refine mO (x:=eQ x C us) (as:=as++[(hh.objs.size+1,hh.objs.size)]) (σ:=⟨σ.vars,σ.hp++[.inst C []]⟩) (vs:=.ref σ.hp.length::vs) (us:=.ref (hh.objs.size+1)::us) (fl:=.next) (σ':=σ') (s:=⟨(hh.push emptyDict).push (instObj C hh.objs.size),g,d,t,os⟩) (iF ok (le_of_succ_le hlv)) (by show 1≤x.lv - 1;lia) fo (by simpa using hl) hu1
    (fun x' o1 o2 o3 o4=>hb x' _ o1 o2 o3 (by have:x.lv - 1≤x'.lv+1:=o4;lia)) R1.under fun a as' h' tk' ha R' hv=>⟨hv,hq _ as' h' tk' ((prefix_append _ _).trans ha) R'.ofUnder ⟨(hh.objs.size+1,hh.objs.size),?_,rfl⟩⟩
   obtain⟨tl,rfl⟩:=ha
   have hL:=R.len
   rw[getElem?_append_left (by simp;lia),←hL];simp
end
section
open Builtin
theorem mx:PlainAttrs "bytearray":=
 ⟨⟨"bytearray.__getattribute__",by rw[typeLookup_type,builtinLookup_eq_fast];kernel_rfl,by decide +kernel⟩,by rw[typeLookup_type,builtinLookup_eq_fast];kernel_rfl⟩
theorem lp:Manifest.owners.lookup (String.ofList ['y','a','r','r','a','e','t','y','b'].reverse)=some Manifest.sig_bytearray:=by kernel_rfl
theorem jZ:Slot "bytearray" "__len__" "bytearray.__len__":=
 .of (owner:="bytearray") (n:="__len__") (by rw[typeLookup_type,builtinLookup_eq_fast];kernel_rfl) (by decide +kernel) (by decide +kernel) (by decide +kernel)
  (by first|exact .inl (by decide +kernel)|exact .inr (by decide +kernel)) (by rw[isSubtype_type];kernel_rfl)
theorem nR:entryFor table "bytearray.__len__"=some Builtin.«bytearray.__len__»:=entryFor_of_tree (by kernel_rfl)
theorem pi(a:Value):argsOk "bytearray.__len__" ⟨[a],[]⟩:=by
 unfold argsOk;rw[signature?_of (id:="bytearray.__len__") (n:=['_','_','n','e','l','_','_']) (o:=['y','a','r','r','a','e','t','y','b']) (by kernel_rfl) lp];kernel_rfl
theorem fM:Slot "bytearray" "__getitem__" "bytearray.__getitem__":=
 .of (owner:="bytearray") (n:="__getitem__") (by rw[typeLookup_type,builtinLookup_eq_fast];kernel_rfl) (by decide +kernel) (by decide +kernel) (by decide +kernel)
  (by first|exact .inl (by decide +kernel)|exact .inr (by decide +kernel)) (by rw[isSubtype_type];kernel_rfl)
theorem jp:entryFor table "bytearray.__getitem__"=some Builtin.«bytearray.__getitem__»:=entryFor_of_tree (by kernel_rfl)
theorem kr(a b:Value):argsOk "bytearray.__getitem__" ⟨[a,b],[]⟩:=by
 unfold argsOk;rw[signature?_of (id:="bytearray.__getitem__") (n:=['_','_','m','e','t','i','t','e','g','_','_']) (o:=['y','a','r','r','a','e','t','y','b']) (by kernel_rfl) lp];kernel_rfl
theorem fX:Slot "bytearray" "append" "bytearray.append":=
 .of (owner:="bytearray") (n:="append") (by rw[typeLookup_type,builtinLookup_eq_fast];kernel_rfl) (by decide +kernel) (by decide +kernel) (by decide +kernel)
  (by first|exact .inl (by decide +kernel)|exact .inr (by decide +kernel)) (by rw[isSubtype_type];kernel_rfl)
theorem lq:typeOf (.builtin "bytearray.append")=pure (.type "method_descriptor"):=by show builtinType _=_;rw[builtinType_eq_fast];kernel_rfl
theorem kx:entryFor table "bytearray.append"=some Builtin.«bytearray.append»:=entryFor_of_tree (by kernel_rfl)
theorem lr(a b:Value):argsOk "bytearray.append" ⟨[a,b],[]⟩:=by
 unfold argsOk;rw[signature?_of (id:="bytearray.append") (n:=['d','n','e','p','p','a']) (o:=['y','a','r','r','a','e','t','y','b']) (by kernel_rfl) lp];kernel_rfl
theorem fN:Slot "bytes" "find" "bytes.find":=
 .of (owner:="bytes") (n:="find") (by rw[typeLookup_type,builtinLookup_eq_fast];kernel_rfl) (by decide +kernel) (by decide +kernel) (by decide +kernel)
  (by first|exact .inl (by decide +kernel)|exact .inr (by decide +kernel)) (by rw[isSubtype_type];kernel_rfl)
theorem ky:typeOf (.builtin "bytes.find")=pure (.type "method_descriptor"):=by show builtinType _=_;rw[builtinType_eq_fast];kernel_rfl
theorem jq:entryFor table "bytes.find"=some Builtin.«bytes.find»:=entryFor_of_tree (by kernel_rfl)
theorem kz(a b:Value):argsOk "bytes.find" ⟨[a,b],[]⟩:=by
 unfold argsOk;rw[signature?_of (id:="bytes.find") (n:=['d','n','i','f']) (o:=['s','e','t','y','b']) (by kernel_rfl) FB.owner_bytes];kernel_rfl
theorem dj:Slot "bytes" "join" "bytes.join":=
 .of (owner:="bytes") (n:="join") (by rw[typeLookup_type,builtinLookup_eq_fast];kernel_rfl) (by decide +kernel) (by decide +kernel) (by decide +kernel)
  (by first|exact .inl (by decide +kernel)|exact .inr (by decide +kernel)) (by rw[isSubtype_type];kernel_rfl)
theorem fO:typeOf (.builtin "bytes.join")=pure (.type "method_descriptor"):=by show builtinType _=_;rw[builtinType_eq_fast];kernel_rfl
theorem jr:entryFor table "bytes.join"=some Builtin.«bytes.join»:=entryFor_of_tree (by kernel_rfl)
theorem kA(a b:Value):argsOk "bytes.join" ⟨[a,b],[]⟩:=by
 unfold argsOk;rw[signature?_of (id:="bytes.join") (n:=['n','i','o','j']) (o:=['s','e','t','y','b']) (by kernel_rfl) FB.owner_bytes];kernel_rfl
noncomputable abbrev bF(b:Bs):Obj:={ cls:=.type "bytearray",data:=.bytearray b.toArray 0 }
section
variable {prog:Program}{w:World}{A:Around}{E:Value→Shared→Prop}{s:Shared}{b:Bs}{a:Addr}
theorem b7(h:s.heap.get? a=some (bF b)):s.TypeIs (.ref a) "bytearray":=⟨_,h,rfl⟩
theorem eI{Q:Array UInt8→Shared→Prop}(h:s.heap.get? a=some (bF b))(hq:Q b.toArray s):wpAny (model prog w) A (Bytes.payload (.ref a)) Q E s:=by
 unfold Bytes.payload Bytes.payload?
 exact wpAny_bind (wpAny_bind (wpAny_load h (wpAny_pure (wpAny_pure hq))))
end
end
section
open Builtin (bitAnd)
section
variable {prog:Program}{w:World}{A:Around}{E:Value→Shared→Prop}{s:Shared}{b:Bs}{a sl:Addr}
theorem my{M:Model}{l u:Value}{lo hi:Option Int}{Q:Value×Value×Value→Shared→Prop}(hS:s.heap.IsSliceOf sl l u .none)(hl:IsPart l lo)(hu:IsPart u hi)(h:Q (rawPart lo,rawPart hi,rawPart none) s):
  wpAny M A (Builtin.Bytes.sliceParts (.ref sl)) Q E s:=by
 refine eP hS fun o hso hc hd=>?_
 unfold Builtin.Bytes.sliceParts
 refine wpAny_bind (wpAny_field (x:=.none) hso hd rfl ?_)
 kby_none
 refine wpAny_ite (KBy.ite_no (show¬((Value.none==rawInt 0)=true) from Bool.false_ne_true) ?_)
 refine wpAny_bind (wpAny_field (x:=l) hso hd rfl ?_)
 cases hl<;>cases hu<;>(first
  |(kby_none;(refine wpAny_bind (wpAny_field (x:=.none) hso hd rfl ?_));kby_none)
  |(kby_none;(refine wpAny_bind (wpAny_field (x:=.int _ _) hso hd rfl ?_));kby_int)
  |(kby_int;(refine wpAny_bind (wpAny_field (x:=.none) hso hd rfl ?_));kby_none)
  |(kby_int;(refine wpAny_bind (wpAny_field (x:=.int _ _) hso hd rfl ?_));kby_int))<;>exact wpAny_pure h
theorem js{l u:Value}{lo hi:Option Int}{Q:Value→Shared→Prop}(ho:s.heap.get? a=some (bF b))(hS:s.heap.IsSliceOf sl l u .none)(hl:IsPart l lo)(hu:IsPart u hi)(hz:b.length≤1000000)
  (h:Q (.ref s.heap.objs.size) { s with heap:=s.heap.push { cls:=.type "bytearray",data:=.bytearray (KBy.picked b.toArray lo hi) 0 } }):
  wpAny (model prog w) A (getItem (.ref a) (.ref sl)) Q E s:=by
 refine getItem_meets (S:=fun z R s'=>s'=s∧R (.ok (.ret (.ref s.heap.objs.size))) { s with heap:=s.heap.push { cls:=.type "bytearray",data:=.bytearray (KBy.picked b.toArray lo hi) 0 } }) (b7 ho) (by decide) fM jp (kr _ _) (.of_wp fun prog w A R s' hs=>?_) ⟨rfl,h⟩
 obtain⟨rfl,h⟩:=hs
 have hS':=hS
 refine eP hS fun o hso hc hd=>?_
 have hT:s'.TypeIs (.ref sl) "slice":=⟨o,hso,hc⟩
 show wpAny _ _ (Builtin.Bytes.subscript? (.ref sl)>>=fun r=>_) _ _ s'
 refine wpAny_bind ?_
 unfold Builtin.Bytes.subscript?
 refine wpAny_bind (wpAny_specialOf hT slice_no_index (wpAny_pure ?_))
 refine wpAny_bind (wpAny_typeOf hT ?_)
 show wpAny _ _ (Builtin.Bytes.sliceParts (.ref sl)>>=fun r=>_) _ _ s'
 refine wpAny_bind (my hS' hl hu ?_)
 refine wpAny_bind (m:=Builtin.Bytes.payload (.ref a)) (eI ho ?_)
 refine wpAny_bind (wpAny_of_eq (sliceIndices_raw lo hi none b.toArray.size (fun e=>nomatch e)) ?_)
 refine wpAny_bind (m:=Builtin.Bytes.newBytearray (KBy.picked b.toArray lo hi)) (wpAny_newObj_type (wpAny_pure ⟨_,rfl,h⟩) ?_)
 show(KBy.picked b.toArray lo hi).size≤sizeLine
 exact le_trans (KBc.size_picked_le _ _ _) (by simp[sizeLine_eq];exact bA hz rfl)
end
section
variable {G:bB}{x:Fx}{as:As}{σ:St}{α α' β γ:Type}{R:As→β→α→Prop}
theorem ah.ofEqWp{t t':Sem α}{r:af β}(e:∀Γ (Q:α→Pos→Shared→Prop) (E:Value→Pos→Shared→Prop) p s,Sem.wp (model G.prog G.w) Γ t Q E p s=Sem.wp (model G.prog G.w) Γ t' Q E p s)(h:ah G x as σ t' R r):ah G x as σ t R r:=by
 cases r with
 |ok b σ1=>exact fun s Q E hr hq Γ p hΓ hc=>by rw[e];exact h s Q E hr hq Γ p hΓ hc
 |exc H=>exact fun s Q E hr hp hq Γ p hΓ hc=>by rw[e];exact h s Q E hr hp hq Γ p hΓ hc
 |stuck=>trivial
theorem ah.holdBind{vs:List Value}{m:Sem γ}{f:γ→Sem α}{r:af β}(h:ah G x as σ (m>>=f) R r):ah G x as σ (PySem.holding vs m>>=f) R r:=
 .ofEqWp (fun Γ Q E p s=>by rw[Sem.wp_bind',Sem.wp_holding,Sem.wp_bind']) h
theorem ah.assoc{δ:Type}{m:Sem δ}{k:δ→Sem γ}{f:γ→Sem α}{r:af β}(h:ah G x as σ (m>>=fun a=>k a>>=f) R r):ah G x as σ ((m>>=k)>>=f) R r:=
 .ofEqWp (fun Γ Q E p s=>by simp only[Sem.wp_bind']) h
theorem kK{v:V}{u:Value}{o:Option Int}(hv:VR as v u)(h:dK v=some o):IsPart u o:=by
 cases v<;>cases h
 ·cases hv;exact .none
 ·obtain⟨t,rfl⟩:=hv;exact .int _ _
theorem aE.baAt'{h:Heap}(R:aE G x σ as h){i:Nat}{b:Bs}(e:σ.hp[i]? =some (.ba b)):∃p,as[i]? =some p∧h.get? p.1=some (bF b):=by
 refine gR (R.get e) fun p o1 o2 a b1 c d=>?_
 exact⟨p,a,by rw[b1,d]⟩
theorem wW{l:List V}{vs:List Value}(h:aj (VR as) l vs)(lo hi:Option Int):aj (VR as) (gU l lo hi) (gU vs lo hi):=by
 unfold gU
 rw[h.length]
 exact(h.drop _).take _
noncomputable abbrev zc(l u:Value):Obj:={ cls:=.type "slice",data:=.fields #[l,u,.none] }
noncomputable abbrev D2(value slice:Expr)(pos:Pos)(o l u:Value):Sem Value:=newFields "slice" [l,u,.none]>>=fun i=>PySem.standAt pos>>=fun z=>subscriptTail value slice o i
variable {value slice:Expr}{pos:Pos}{lo hi:V}{lo' hi':Option Int}{o l u:Value}
theorem ls{s:Shared}{Q:Value→Shared→Prop}{E:Value→Shared→Prop}(h:wpAny (model G.prog G.w) x.A (subscriptTail value slice o (.ref s.heap.objs.size)) Q E { s with heap:=s.heap.push (zc l u) }):wpAny (model G.prog G.w) x.A (D2 value slice pos o l u) Q E s:=
 wpAny_bind (wpAny_newObj_type (wpAny_bind (wpAny_standAt h)) (by size_fits))
theorem iG{h:Heap}{ob:Obj}:∀c o,h.get? c=some o→(h.push ob).get? c=some o:=fun c o e=>Heap.get?_push_of_some _ e
theorem wX{b:Bs}{t:Tok}(hl:IsPart l lo')(hu:IsPart u hi')(hz:b.length≤1000000):ah G x as σ (D2 value slice pos (.bytes b.toArray t) l u) VR (.ok (.bytes (gU b lo' hi')) ⟨σ.vars,σ.hp⟩):=by
 refine .of_any fun s Q E hr k=>ls ?_
 obtain⟨ops,hs⟩:=bh slice (.bytes b.toArray t) (.ref s.heap.objs.size)
 refine tail_any (typeIs_bytes _ _ _) FB.slot_bytes_getitem.lookup (getItem_meets (typeIs_bytes _ _ _) (by decide) FB.slot_bytes_getitem FB.entry_bytes_getitem (FB.args_bytes_getitem_2 _ _) (KBc.meets_slice2 b.toArray t _ hl hu)
  ⟨Heap.IsSliceOf.new _ _ _ _,le_trans (KBc.size_picked_le _ _ _) (by simp[sizeLine_eq];exact bA hz rfl),fun t' k'=>?_⟩) hs
 refine k _ as _ k' (prefix_refl _) (hr.grow iG (by simp)) ⟨t',?_⟩
 rw[KBc.picked_eq];simp[gU]
theorem pj{m:List V}{a:Addr}{c:O}(hl:IsPart l lo')(hu:IsPart u hi')(hz:m.length≤1000000)(hL:∀{h:Heap},aE G x σ as h→∃vs,h.IsList a vs.toArray∧aj (VR as) m vs):ah G x as σ (D2 value slice pos (.ref a) l u) VR (.ok (.ref σ.hp.length) ⟨σ.vars,σ.hp++[.list (gU m lo' hi')]⟩):=by
 refine .of_any fun s Q E hr k=>ls ?_
 refine ak (hL hr) fun vs L a3=>?_
 obtain⟨ops,hs⟩:=bh slice (.ref a) (.ref s.heap.objs.size)
 have ln:=a3.length
 have hr':=hr.grow (h':=s.heap.push (zc l u)) iG (by simp)
 refine tail_any (Heap.IsList.typeIs (s:={ s with heap:=s.heap.push (zc l u) }) (L.push _)) slot_list_getitem.lookup (wpAny_getItem_list_slice (L.push _) (Heap.IsSliceOf.new ..) hl hu .none (by simp) ?_ (by simp[sizeLine_eq];exact GY hz ln rfl)) hs
 refine k _ _ _ s.toks (prefix_append as _) (hr'.push (o:=.list (gU m lo' hi')) rfl ⟨gU vs lo' hi',0,?_,wW a3 _ _⟩) ⟨((s.heap.push (zc l u)).objs.size,(s.heap.push (zc l u)).objs.size),by rw[←hr.len];simp,rfl⟩
 rw[slicePick_plain];simp[gU]
theorem vm{b:Bs}{i:Nat}{p:Addr×Addr}(e:σ.hp[i]? =some (.ba b))(hp:as[i]? =some p)(hl:IsPart l lo')(hu:IsPart u hi')(hz:b.length≤1000000):ah G x as σ (D2 value slice pos (.ref p.1) l u) VR (.ok (.ref σ.hp.length) ⟨σ.vars,σ.hp++[.ba (gU b lo' hi')]⟩):=by
 refine .of_any fun s Q E hr k=>ls ?_
 refine ak (hr.baAt' e) fun p' a1 a2=>?_
 rw[hp] at a1;cases a1
 obtain⟨ops,hs⟩:=bh slice (.ref p.1) (.ref s.heap.objs.size)
 have a2':=iG (ob:=zc l u) _ _ a2
 have hr':=hr.grow (h':=s.heap.push (zc l u)) iG (by simp)
 refine tail_any (T:="bytearray") ⟨_,a2',rfl⟩ fM.lookup (js (s:={ s with heap:=s.heap.push (zc l u) }) a2' (Heap.IsSliceOf.new ..) hl hu hz ?_) hs
 refine k _ _ _ s.toks (prefix_append as _) (hr'.push (o:=.ba (gU b lo' hi')) rfl ?_) ⟨((s.heap.push (zc l u)).objs.size,(s.heap.push (zc l u)).objs.size),by rw[←hr.len];simp,rfl⟩
 show({ cls:=.type "bytearray",data:=.bytearray (KBy.picked b.toArray lo' hi') 0 }:Obj)={ cls:=.type "bytearray",data:=.bytearray (gU b lo' hi').toArray 0 }
 rw[KBc.picked_eq];simp[gU]
theorem wY{i:Nat}{c:O}{p:Addr×Addr}(e:σ.hp[i]? =some c)(hp:as[i]? =some p)(hl:IsPart l lo')(hu:IsPart u hi'):ah G x as σ (D2 value slice pos (.ref p.1) l u) VR (rD i c lo' hi' σ):=by
 cases c with
 |list m=>
  exact .ifS fun hz=>pj (c:=.list m) hl hu hz fun hr=>by
   refine fh (hr.listAt e) fun p' vs n a1 a2 a3=>?_
   rw[hp] at a1;cases a1
   exact⟨vs,⟨_,a2,rfl,⟨_,rfl⟩⟩,a3⟩
 |ba b=>exact .ifS fun hz=>vm e hp hl hu hz
 |flist m=>
  exact .ifS fun hz=>pj (c:=.flist m) hl hu hz fun hr=>by
   obtain⟨p',o1,o2,a1,a2,_,a4,a5,vs,⟨n,a6⟩,a7⟩:=hr.get e
   rw[hp] at a1;cases a1
   exact⟨vs,⟨_,a2,by rw[a4];exact a5,⟨n,by rw[a4];exact a6⟩⟩,a7⟩
 |_=>trivial
theorem pn{v:V}(hv:VR as v o)(hl:VR as lo l)(hu:VR as hi u):ah G x as σ (D2 value slice pos o l u) VR (aZ v lo hi σ):=.oO fun lo' h1=>.oO fun hi' h2=>by
 cases v with
 |bytes b=>obtain⟨t,rfl⟩:=hv;exact .ifS fun hz=>wX (kK hl h1) (kK hu h2) hz
 |ref a=>obtain⟨p,hp,rfl⟩:=hv;exact .oO fun c e=>wY e hp (kK hl h1) (kK hu h2)
 |_=>trivial
end
end
section
variable {G:bB}{x:Fx}{c:Cx}{t:Tb}{lv:Nat}
theorem VR.bool_inv{as:As}{b:Bool}{u:Value}(h:VR as (.bool b) u):u=.bool b:=h
theorem vn{as:As}{σ:St}{v:V}{u:Value}(hv:VR as v u):ah G x as σ (truthy u) (fun z=>Eq) (ofOpt σ (d5 v)):=by
 refine .ofOpt fun b hb=>?_
 cases v<;>cases hb
 obtain rfl:=hv.bool_inv
 exact fV
theorem d7{op:CmpOp}{e:Expr}{t:Sem Value}(h:kJ op e=true):markedBehindIn op e t=t:=by
 unfold markedBehindIn
 simp only[kJ,not_eq_true'] at h
 rw[h]
theorem ah.congr{α β:Type}{as:As}{σ:St}{t t':Sem α}{R:As→β→α→Prop}{r:af β}(e:t=t')(h:ah G x as σ t' R r):ah G x as σ t R r:=e ▸ h
theorem j3{i m:Nat}{H:Hp}{C:Addr}{fs:List (Nat×V)}(hi:H[i]? =some (.inst C fs)):
  ay t (.ref i) m H=((t.meths.lookup C).bind (·.lookup m)).bind fun f=>bif (fs.lookup m).isNone then some (.fn f (.ref i)) else none:=by
 show Option.getD (Option.map _ (H[i]?.bind _)) _=_
 rw[hi];rfl
theorem wZ{H:Hp}{w:V}{p}(h:rC H w=some p):∃i,w=.ref i∧H[i]? =some (.inst p.1 p.2):=onR_i (M:=fun w=>∃i,w=.ref i∧H[i]? =some (.inst p.1 p.2)) h fun i h=>by
 refine(bind_eq_some_iff.mp h).elim fun o k=>⟨i,rfl,k.1.trans ?_⟩
 have e:=k.2
 cases o<;>cases e
 rfl
theorem dz{w:V}{m:Nat}{H:Hp}(h:¬∃i C fs,w=.ref i∧H[i]? =some (.inst C fs)):ay t w m H=t.msel w m H:=by
 unfold ay
 cases e:rC H w with
 |none=>rfl
 |some p=>exact(wZ e).elim fun i k=>absurd ⟨i,p.1,p.2,k⟩ h
theorem af.bb{α β γ:Type}{r:af α}{f:α→St→af β}{g:β→St→af γ}:(r.bind f).bind g=r.bind fun a σ=>(f a σ).bind g:=by cases r<;>rfl
theorem ah.test{α γ:Type}{as:As}{σ:St}{R:As→γ→α→Prop}{t:Sem Bool}{f:Bool→Sem α}{r:af V}{g:V→St→af γ}(T:ah G x as σ t (fun z=>Eq) (r.bind fun v σ=>Mine.ofOpt σ (d5 v)))
  (kn:∀v σ,d5 v=none→g v σ=.stuck) (k:∀b σ' as',as <+: as'→ah G x as' σ' (f b) R (g (.bool b) σ')):ah G x as σ (t>>=f) R (r.bind g):=by
 cases r with
 |stuck=>trivial
 |exc H=>exact T.bindX
 |ok v σ1=>
  cases hb:d5 v with
  |none=>rw[show(af.ok v σ1).bind g=.stuck from kn v σ1 hb];trivial
  |some b=>
   cases v<;>cases hb
   exact T.bind fun tt as1 ha1 e1=>by subst e1;exact k b σ1 as1 ha1
theorem D3{γ:Type}{g:V→St→af γ}(h1:∀σ,g .none σ=.stuck)(h2:∀i σ,g (.int i) σ=.stuck)(h3:∀i σ,g (.bytes i) σ=.stuck)(h4:∀i σ,g (.str i) σ=.stuck)(h5:∀i σ,g (.ref i) σ=.stuck)(h6:∀i σ,g (.sta i) σ=.stuck):
  ∀v σ,d5 v=none→g v σ=.stuck:=fun v σ h=>by
 cases v
 ·exact h1 σ
 ·cases h
 ·exact h2 _ σ
 ·exact h3 _ σ
 ·exact h4 _ σ
 ·exact h5 _ σ
 ·exact h6 _ σ
theorem ah.mapB{as:As}{σ:St}{t:Sem Value}{o:Option Bool}(h:∀q,o=some q→ah G x as σ t VR (.ok (.bool q) σ)):ah G x as σ t VR (Mine.ofOpt σ (o.map V.bool)):=by
 cases o with
 |none=>trivial
 |some q=>exact h q rfl
theorem ah.mapT{as:As}{σ:St}{t:Sem Bool}{o:Option Bool}(h:∀q,o=some q→ah G x as σ t (fun z=>Eq) (.ok q σ)):ah G x as σ t (fun z=>Eq) ((Mine.ofOpt σ (o.map V.bool)).bind fun v σ=>Mine.ofOpt σ (d5 v)):=by
 cases o with
 |none=>trivial
 |some q=>exact h q rfl
theorem ah.boolT{as:As}{σ:St}{t:Sem Value}{q:Bool}(h:ah G x as σ t VR (.ok (.bool q) σ)):ah G x as σ (t>>=fun c=>PySem.holding [c] (truthy c)) (fun z=>Eq) (.ok q σ):=
 h.bind fun cc as3 ha3 hr3=>by obtain rfl:=hr3.bool_inv;exact fV.holding
noncomputable def dA(G:bB)(c:Cx)(x:Fx)(t:Tb)(me:E):Prop:=∀(e:Expr),chk c me e=true→∀(as:As) (σ:St),ah G x as σ (eval e x.env) VR (ev t me σ)
noncomputable def ic(G:bB)(c:Cx)(x:Fx)(t:Tb)(me:E):Prop:=∀(e:Expr),chk c me e=true→∀(as:As) (σ:St),ah G x as σ (isTrue e x.env (eval e x.env)) (fun z=>Eq) ((ev t me σ).bind fun v σ=>ofOpt σ (d5 v))
noncomputable def zd(G:bB)(c:Cx)(x:Fx)(t:Tb)(me:Es):Prop:=∀(es:List Expr) (pos:Pos),fT c me es=true→∀(as:As) (σ:St),ah G x as σ (spliced (backTo pos (starEach es x.env))) (fun as=>aj (VR as)) (fL t me σ)
section
variable (co:kq G c x)(to:fU G t lv)(hl:lv≤x.lv)
theorem B6{me:E}{e:Expr}{as:As}{σ:St}{p:Pos}(T:ah G x as σ (eval e x.env) VR (ev t me σ)):
  ah G x as σ (eval e x.env>>=fun v=>PySem.standAt p>>=fun z=>PySem.holding [v] (truthy v)) (fun z=>Eq) ((ev t me σ).bind fun v σ=>ofOpt σ (d5 v)):=
 T.bindR fun u v σ1 as1 z ha1 hr1=>.standAt (.holding (vn hr1))
theorem fY{me:E}(v:dA G c x t me)(p:∀e,chk c me e=true→isTrue e x.env (eval e x.env)=(eval e x.env>>=fun v=>PySem.standAt e.pos>>=fun z=>PySem.holding [v] (truthy v))):dA G c x t me∧ic G c x t me:=
 ⟨v,fun e h as σ=>.congr (p e h) (B6 (v e h as σ))⟩
include co in
theorem B7{v:V}:dA G c x t (.con v)∧ic G c x t (.con v):=fY (fun e h as σ=>(Bool.or_eq_true_iff.mp h).elim (fun h=>onCon_i h fun k n p h=>tO h) fun h=>onName_i h fun y p h=>rJ h fun h1 h2 h3=>by
  cases hg:c.glob.lookup y with
  |none=>rw[hg] at h3;cases h3
  |some w=>
   rw[hg] at h3
   obtain rfl:=rB h3
   exact AY co.ok (co.glob _ _ hg) (co.kinds ▸ beq_iff_eq.mp h2) (A0 h1)) fun e h=>(Bool.or_eq_true_iff.mp h).elim (fun h=>onCon_i h fun k n p h=>rfl) fun h=>onName_i h fun y p h=>rfl
include co in
theorem B8{i:Nat}:dA G c x t (.loc i)∧ic G c x t (.loc i):=fY (fun e h as σ=>onName_i h fun y p h=>rJ h fun h1 h2 h3=>by
  show ah _ _ _ _ _ _ (match σ.vars[i]? with |some (some v)=>.ok v σ|_=>.stuck)
  cases hv:σ.vars[i]? with
  |none=>trivial
  |some o=>
   cases o with
   |none=>trivial
   |some v=>exact AX co.ok (co.names ▸ beq_iff_eq.mp h3) (co.kinds ▸ beq_iff_eq.mp h2) (A0 h1) hv) fun e h=>onName_i h fun y p h=>rfl
include co to in
theorem zF{a:E}{n:Nat}(ia:dA G c x t a):dA G c x t (.attr a n)∧ic G c x t (.attr a n):=fY (fun e h as σ=>onAttr_i h fun v y p h=>rJ h fun h1 h2 h3=>by
  rw[arm_eval_Attribute,cT h3]
  refine(ia v h1 as σ).bindR (g:=fun v σ=>aX t v n σ) fun u w σ' as' z ha hr=>.standAt ((pg to co.ok hr (co.atts ▸ beq_iff_eq.mp h2)).holding.after fun r b σ' as2 hr2=>?_)
  exact .skip (fun s Q E hq=>wpAny_letTemporaryGo hq) (.pure hr2)) fun e h=>onAttr_i h fun v y p h=>rfl
theorem B9{op:Operator}{l r:E}(il:dA G c x t l)(ir:dA G c x t r):dA G c x t (.bin op l r)∧ic G c x t (.bin op l r):=fY (fun e h as σ=>onBin_i h fun a o b p h=>rJ h fun h0 h1 h2=>eq_i (km h0) (.congr (arm_eval_BinOp _ _ _ _ _)
  ((il _ h1 as σ).bindR (g:=fun a σ=>(ev t r σ).bind fun b σ=>dy op a b σ) fun u a σ1 as1 z ha1 hr1=>
   (ir _ h2 as1 σ1).holding.bindR fun w b σ2 as2 z ha2 hr2=>.standAt (.operate (B5 (hr1.mono ha2) hr2))))) fun e h=>onBin_i h fun a o b p h=>rfl
theorem Ca{a:E}(ia:dA G c x t a):dA G c x t (.neg a)∧ic G c x t (.neg a):=fY (fun e h as σ=>onUn_i h fun o y p h=>cN h fun h0 h=>eq_i (km h0) (.congr (arm_eval_UnaryOp _ _ _ _)
  ((ia _ h as σ).bindR (g:=fun v σ=>ofOpt σ (BQ v)) fun u v σ1 as1 z ha1 hr1=>.standAt (.holding (.ofOpt fun b hb=>by
  cases v<;>cases hb
  obtain⟨t,rfl⟩:=hr1
  exact .of_wp fun s Q E r k=>neg_int (k _ _ ⟨_,rfl⟩)))))) fun e h=>onUn_i h fun o y p h=>cN h fun h0 h=>eq_i (km h0) rfl
theorem Cb{a:E}(ia:dA G c x t a)(it:ic G c x t a):dA G c x t (.not a)∧ic G c x t (.not a):=⟨fun e h as σ=>onUn_i h fun o y p h=>cN h fun h0 h=>eq_i (km h0) (.congr (arm_eval_UnaryOp _ _ _ _)
  ((ia _ h as σ).bindR (g:=fun v σ=>ofOpt σ (zt v)) fun u v σ1 as1 z ha1 hr1=>.standAt (.holding (.ofOpt fun b hb=>by
  cases v<;>cases hb
  obtain rfl:=hr1.bool_inv
  exact Ep)))),fun e h as σ=>onUn_i h fun o y p h=>cN h fun h0 h=>eq_i (km h0) (by
  show ah _ _ _ _ (isTrue y x.env (eval y x.env)>>=fun b=>Pure.pure (!b)) _ (((ev t a σ).bind fun v σ=>ofOpt σ (zt v)).bind _)
  rw[af.bb]
  exact(it _ h as σ).test (D3 (fun z=>rfl) (fun z z=>rfl) (fun z z=>rfl) (fun z z=>rfl) (fun z z=>rfl) (fun z z=>rfl)) fun b σ1 as1 ha=>.pure rfl)⟩
theorem pp{a b:E}{y:Expr}{rest:Sem Value}{pos:Pos}{as:As}{σ:St}(ia:dA G c x t a)(ha:chk c a y=true)(hb:∀as σ,ah G x as σ rest VR (ev t b σ)):
  ah G x as σ (eval y x.env>>=fun v=>PySem.standAt pos>>=fun z=>PySem.holding [v] (truthy v)>>=fun t=>match BoolOp.And,t with | .And,false| .Or,true=>Pure.pure v|_,_=>rest) VR (ev t (.and a b) σ):=by
 show ah _ _ _ _ _ _ ((ev t a σ).bind fun v σ=>match v with | .bool true=>ev t b σ| .bool false=>.ok (.bool false) σ|_=>.stuck)
 refine(ia y ha as σ).bindR fun u v σ1 as1 z ha1 hr1=>.standAt ?_
 cases v with
 |bool bb=>
  obtain rfl:=hr1.bool_inv
  refine(fV.holding).bind fun t' as2 z e=>?_
  subst e
  cases bb with
  |true=>exact hb as2 σ1
  |false=>exact .pure rfl
 |_=>trivial
theorem pq{a b:E}{y:Expr}{rest:Sem Value}{pos:Pos}{as:As}{σ:St}(ia:dA G c x t a)(ha:chk c a y=true)(hb:∀as σ,ah G x as σ rest VR (ev t b σ)):
  ah G x as σ (eval y x.env>>=fun v=>PySem.standAt pos>>=fun z=>PySem.holding [v] (truthy v)>>=fun t=>match BoolOp.Or,t with | .And,false| .Or,true=>Pure.pure v|_,_=>rest) VR (ev t (.or a b) σ):=by
 show ah _ _ _ _ _ _ ((ev t a σ).bind fun v σ=>match v with | .bool true=>.ok (.bool true) σ| .bool false=>ev t b σ|_=>.stuck)
 refine(ia y ha as σ).bindR fun u v σ1 as1 z ha1 hr1=>.standAt ?_
 cases v with
 |bool bb=>
  obtain rfl:=hr1.bool_inv
  refine(fV.holding).bind fun t' as2 z e=>?_
  subst e
  cases bb with
  |true=>exact .pure rfl
  |false=>exact hb as2 σ1
 |_=>trivial
theorem mP{a b:E}{y:Expr}{rest:Sem Bool}{as:As}{σ:St}(it:ic G c x t a)(ha:chk c a y=true)(k:∀as σ,ah G x as σ rest (fun z=>Eq) ((ev t b σ).bind fun v σ=>ofOpt σ (d5 v))):
  ah G x as σ (isTrue y x.env (eval y x.env)>>=fun r=>match BoolOp.And,r with | .And,false=>Pure.pure false| .Or,true=>Pure.pure true|_,_=>rest) (fun z=>Eq) ((ev t (.and a b) σ).bind fun v σ=>ofOpt σ (d5 v)):=by
 rw[wT,af.bb]
 exact(it y ha as σ).test (D3 (fun z=>rfl) (fun z z=>rfl) (fun z z=>rfl) (fun z z=>rfl) (fun z z=>rfl) (fun z z=>rfl)) fun bb σ1 as1 z=>by
  cases bb with
  |true=>exact k as1 σ1
  |false=>exact .pure rfl
theorem mQ{a b:E}{y:Expr}{rest:Sem Bool}{as:As}{σ:St}(it:ic G c x t a)(ha:chk c a y=true)(k:∀as σ,ah G x as σ rest (fun z=>Eq) ((ev t b σ).bind fun v σ=>ofOpt σ (d5 v))):
  ah G x as σ (isTrue y x.env (eval y x.env)>>=fun r=>match BoolOp.Or,r with | .And,false=>Pure.pure false| .Or,true=>Pure.pure true|_,_=>rest) (fun z=>Eq) ((ev t (.or a b) σ).bind fun v σ=>ofOpt σ (d5 v)):=by
 rw[A2,af.bb]
 exact(it y ha as σ).test (D3 (fun z=>rfl) (fun z z=>rfl) (fun z z=>rfl) (fun z z=>rfl) (fun z z=>rfl) (fun z z=>rfl)) fun bb σ1 as1 z=>by
  cases bb with
  |true=>exact .pure rfl
  |false=>exact k as1 σ1
theorem Cc{a b:E}(ia:dA G c x t a)(it:ic G c x t a)(ib:dA G c x t b)(jt:ic G c x t b):dA G c x t (.and a b)∧ic G c x t (.and a b):=
 ⟨fun e h as σ=>onBool_i h fun o l p h=>cN h fun h0 h=>eq_i (km h0) (onMore_i h (fun y z h=>cN h fun h1 h2=>.congr (arm_eval_BoolOp _ _ _ _) (pp ia h1 fun as σ=>ib _ h2 as σ)) fun y z w r h=>cN h fun h1 h2=>.congr (arm_eval_BoolOp _ _ _ _) (pp ia h1 fun as σ=>ib _ h2 as σ)),
 fun e h as σ=>onBool_i h fun o l p h=>cN h fun h0 h=>eq_i (km h0) (onMore_i h (fun y z h=>cN h fun h1 h2=>mP it h1 fun as σ=>by
   show ah _ _ _ _ (isTrue z x.env (eval z x.env)>>=fun r=>match BoolOp.And,r with | .And,false=>Pure.pure false| .Or,true=>Pure.pure true|_,_=>Pure.pure true) _ _
   exact(jt z h2 as σ).after fun r b' σ' as' e=>by subst e;cases b'<;>exact .pure rfl) fun y z w r h=>cN h fun h1 h2=>mP it h1 fun as σ=>jt _ h2 as σ)⟩
theorem Et{a b:E}(ia:dA G c x t a)(it:ic G c x t a)(ib:dA G c x t b)(jt:ic G c x t b):dA G c x t (.or a b)∧ic G c x t (.or a b):=
 ⟨fun e h as σ=>onBool_i h fun o l p h=>cN h fun h0 h=>eq_i (km h0) (onMore_i h (fun y z h=>cN h fun h1 h2=>.congr (arm_eval_BoolOp _ _ _ _) (pq ia h1 fun as σ=>ib _ h2 as σ)) fun y z w r h=>cN h fun h1 h2=>.congr (arm_eval_BoolOp _ _ _ _) (pq ia h1 fun as σ=>ib _ h2 as σ)),
 fun e h as σ=>onBool_i h fun o l p h=>cN h fun h0 h=>eq_i (km h0) (onMore_i h (fun y z h=>cN h fun h1 h2=>mQ it h1 fun as σ=>by
   show ah _ _ _ _ (isTrue z x.env (eval z x.env)>>=fun r=>match BoolOp.Or,r with | .And,false=>Pure.pure false| .Or,true=>Pure.pure true|_,_=>Pure.pure false) _ _
   exact(jt z h2 as σ).after fun r b' σ' as' e=>by subst e;cases b'<;>exact .pure rfl) fun y z w r h=>cN h fun h1 h2=>mQ it h1 fun as σ=>jt _ h2 as σ)⟩
theorem zG{op:CmpOp}{l r:E}(il:dA G c x t l)(ir:dA G c x t r):dA G c x t (.cmp op l r)∧ic G c x t (.cmp op l r):=
 ⟨fun e h as σ=>onCmp_i h fun y os zs p h=>on1_i h fun o h=>on1_i h fun z h=>vl h fun h0 h1 h2 h3=>eq_i (km h0) (.congr (arm_eval_Compare _ _ _ _ _)
  ((il _ h1 as σ).bindR (g:=fun a σ=>(ev t r σ).bind fun b σ=>ofOpt σ ((aQ σ.hp op a b).map V.bool)) fun u a σ1 as1 v ha1 hr1=>by
   show ah _ _ _ _ (PySem.holding [u] (markedBehindIn _ _ _)>>=fun rv=>PySem.standAt _>>=fun v=>PySem.operate [u,rv] (compareOp _ u rv)) _ _
   rw[d7 h3]
   exact(ir _ h2 as1 σ1).holding.bindR fun w b σ2 as2 v ha2 hr2=>.standAt (.operate (.mapB fun q hq=>la hq (hr1.mono ha2) hr2)))),
 fun e h as σ=>onCmp_i h fun y os zs p h=>on1_i h fun o h=>on1_i h fun z h=>vl h fun h0 h1 h2 h3=>eq_i (km h0) (by
   show ah _ _ _ _ (eval _ _>>=fun u=>PySem.holding [u] (markedBehindIn _ _ _)>>=fun rv=>PySem.standAt _>>=fun v=>PySem.operate [u,rv] (compareOp _ u rv)>>=fun cc=>PySem.holding [cc] (truthy cc)) _ (((ev t l σ).bind fun a σ=>(ev t r σ).bind fun b σ=>ofOpt σ ((aQ σ.hp op a b).map V.bool)).bind _)
   rw[d7 h3,af.bb]
   refine(il _ h1 as σ).bindR fun u a σ1 as1 v ha1 hr1=>?_
   rw[af.bb]
   exact(ir _ h2 as1 σ1).holding.bindR fun w b σ2 as2 v ha2 hr2=>.standAt (.mapT fun q hq=>(ah.operate (la hq (hr1.mono ha2) hr2)).boolT))⟩
noncomputable abbrev Io(u:Value)(o o':CmpOp)(m r:Sem Value):Sem Value:=PySem.holding [u] m>>=fun rv=>PySem.standAt default>>=fun z=>PySem.holding [u,rv] (compareOp o u rv)>>=fun cc=>PySem.release [u,rv] [cc]>>=fun z=>PySem.holding [cc,rv] (truthy cc)>>=fun tt=>if tt=true then(PySem.holding [rv] r>>=fun rw'=>PySem.standAt default>>=fun z=>PySem.operate [rv,rw'] (compareOp o' rv rw')) else Pure.pure cc
theorem tP{α β:Type}{u rv:Value}{o:CmpOp}{as:As}{σ:St}{a b:V}{k:Bool→Value→Sem α}{R:As→β→α→Prop}{g:Bool→af β}(hr1:VR as a u)(hr2:VR as b rv)(hk:∀q as',as <+: as'→ah G x as' σ (k q (.bool q)) R (g q)):
  ah G x as σ (PySem.holding [u,rv] (compareOp o u rv)>>=fun cc=>PySem.release [u,rv] [cc]>>=fun z=>PySem.holding [cc,rv] (truthy cc)>>=fun tt=>k tt cc) R (match aQ σ.hp o a b with |some q=>g q|none=>.stuck):=by
 cases hc:aQ σ.hp o a b with
 |none=>trivial
 |some q=>
  refine(la hc hr1 hr2).holding.bind fun cc as3 ha3 hr3=>.skip (fun s Q E hq=>wpAny_release hq) ?_
  obtain rfl:=hr3.bool_inv
  exact fV.holding.bind fun tt as4 ha4 e4=>e4 ▸ hk q as4 (ha3.trans ha4)
theorem zH{o1 o2:CmpOp}{l m r:E}(il:dA G c x t l)(im:dA G c x t m)(ir:dA G c x t r):dA G c x t (.cmp2 o1 o2 l m r)∧ic G c x t (.cmp2 o1 o2 l m r):=
 ⟨fun e h as σ=>onCmp_i h fun y os zs p h=>on2_i h fun o o' h=>on2_i h fun z z' h=>Eo h fun h0 h0' h1 h2 h3 h4=>eq_i (km h0) (eq_i (km h0') (.congr (arm_eval_Compare _ _ _ _ _)
  ((il _ h1 as σ).bindR (g:=fun u σ=>(ev t m σ).bind fun v σ=>match aQ σ.hp o1 u v with
    |some true=>(ev t r σ).bind fun w σ=>ofOpt σ ((aQ σ.hp o2 v w).map V.bool)
    |some false=>.ok (.bool false) σ
    |none=>.stuck) fun u a σ1 as1 s ha1 hr1=>by
   show ah _ _ _ _ (PySem.holding [u] (eval _ _)>>=fun rv=>PySem.standAt _>>=fun s=>PySem.holding [u,rv] (compareOp _ u rv)>>=fun cc=>PySem.release [u,rv] [cc]>>=fun s=>PySem.holding [cc,rv] (truthy cc)>>=fun tt=>if tt=true then(PySem.holding [rv] (markedBehindIn _ _ _)>>=fun rw'=>PySem.standAt _>>=fun s=>PySem.operate [rv,rw'] (compareOp _ rv rw')) else Pure.pure cc) _ _
   rw[d7 h4]
   refine(im _ h2 as1 σ1).holding.bindR fun w b σ2 as2 s ha2 hr2=>.standAt (.res (tP (k:=fun tt cc=>if tt=true then _ else Pure.pure cc) (g:=fun q=>bif q then(ev t r σ2).bind fun w σ=>ofOpt σ ((aQ σ.hp o2 b w).map V.bool) else .ok (.bool false) σ2) (hr1.mono ha2) hr2 fun q as3 ha3=>?_) (by cases aQ σ2.hp o1 a b with |none=>rfl|some q=>cases q<;>rfl))
   cases q with
   |false=>exact .pure rfl
   |true=>exact(ir _ h3 as3 σ2).holding.bindR fun z d σ3 as5 s ha5 hr5=>.standAt (.operate (.mapB fun q hq=>la hq ((hr2.mono ha3).mono ha5) hr5))))),
 fun e h as σ=>onCmp_i h fun y os zs p h=>on2_i h fun o o' h=>on2_i h fun z z' h=>Eo h fun h0 h0' h1 h2 h3 h4=>eq_i (km h0) (eq_i (km h0') (by
   show ah _ _ _ _ (eval _ _>>=fun u=>PySem.holding [u] (eval _ _)>>=fun rv=>PySem.standAt _>>=fun s=>PySem.holding [u,rv] (compareOp _ u rv)>>=fun cc=>PySem.release [u,rv] [cc]>>=fun s=>PySem.holding [cc,rv] (truthy cc)>>=fun tt=>if tt=true then(PySem.holding [rv] (markedBehindIn _ _ _)>>=fun rw'=>PySem.standAt _>>=fun s=>PySem.operate [rv,rw'] (compareOp _ rv rw')>>=fun c2=>PySem.holding [c2] (truthy c2)) else Pure.pure false) _ (((ev t l σ).bind fun u σ=>(ev t m σ).bind fun v σ=>match aQ σ.hp o1 u v with
    |some true=>(ev t r σ).bind fun w σ=>ofOpt σ ((aQ σ.hp o2 v w).map V.bool)
    |some false=>.ok (.bool false) σ
    |none=>.stuck).bind _)
   rw[d7 h4,af.bb]
   refine(il _ h1 as σ).bindR fun u a σ1 as1 s ha1 hr1=>?_
   rw[af.bb]
   refine(im _ h2 as1 σ1).holding.bindR fun w b σ2 as2 s ha2 hr2=>.standAt (.res (tP (k:=fun tt s=>if tt=true then _ else Pure.pure false) (g:=fun q=>bif q then(ev t r σ2).bind fun w σ=>(ofOpt σ ((aQ σ.hp o2 b w).map V.bool)).bind fun v σ=>ofOpt σ (d5 v) else .ok false σ2) (hr1.mono ha2) hr2 fun q as3 ha3=>?_) (by cases aQ σ2.hp o1 a b with |none=>rfl|some q=>cases q<;>first|rfl|exact af.bb.symm))
   cases q with
   |false=>exact .pure rfl
   |true=>exact(ir _ h3 as3 σ2).holding.bindR fun z d σ3 as5 s ha5 hr5=>.standAt (.mapT fun q hq=>(ah.operate (la hq ((hr2.mono ha3).mono ha5) hr5)).boolT)))⟩
theorem Cd{a b d:E}(it:ic G c x t a)(ib:dA G c x t b)(jt:ic G c x t b)(id:dA G c x t d)(kt:ic G c x t d):dA G c x t (.ite a b d)∧ic G c x t (.ite a b d):=
 ⟨fun e h as σ=>onIf_i h fun y z w p h=>rJ h fun h1 h2 h3=>.congr (arm_eval_IfExp _ _ _ _ _) ((it _ h1 as σ).test (g:=fun v σ=>match v with
  | .bool true=>ev t b σ
  | .bool false=>ev t d σ
  |_=>.stuck) (D3 (fun u=>rfl) (fun u u=>rfl) (fun u u=>rfl) (fun u u=>rfl) (fun u u=>rfl) (fun u u=>rfl)) fun bb σ1 as1 u=>by
   cases bb with
   |true=>exact ib _ h2 as1 σ1
   |false=>exact id _ h3 as1 σ1),
 fun e h as σ=>onIf_i h fun y z w p h=>rJ h fun h1 h2 h3=>by
  show ah _ _ _ _ (isTrue _ _ _>>=fun r=>if r=true then isTrue _ _ _ else isTrue _ _ _) _ _
  rw[wU,af.bb]
  exact(it _ h1 as σ).test (D3 (fun u=>rfl) (fun u u=>rfl) (fun u u=>rfl) (fun u u=>rfl) (fun u u=>rfl) (fun u u=>rfl)) fun bb σ1 as1 u=>by
   cases bb with
   |true=>exact jt _ h2 as1 σ1
   |false=>exact kt _ h3 as1 σ1⟩
theorem pr{args:Es}{es:List Expr}(h:fT c args es=true)(σ:St)(e:es=[]):fL t args σ=.ok [] σ:=by
 subst e
 cases args with
 |nil=>rfl
 |cons a r=>cases h
noncomputable def Ce(g:Expr)(es:List Expr)(pos:Pos)(env:Env):Prop:=eval (.Call g es [] pos) env=eval g env>>=fun f=>callWith pos f [] (backTo pos (starEach es env)) []
theorem Cf{g:Expr}{es:List Expr}{pos:Pos}{env:Env}(h:(!(wQ g))=true):Ce g es pos env:=by
 cases g<;>first|exact Bool.noConfusion h|exact rfl
include co to hl in
theorem zI{f:E}{args:Es}(ia:dA G c x t f)(il:zd G c x t args):dA G c x t (.call f args)∧ic G c x t (.call f args):=fY (fun e h as σ=>onCall_i h fun g es ks pos h=>vl h fun h0 h1 h2 h3=>nil_i h0 (.congr (Cf h3)
  ((ia g h1 as σ).bindR (g:=fun fv σ=>match fv with
   | .sta w=>if t.isC w then(fL t args σ).bind fun vs σ=>t.prim w vs σ else .stuck
   |_=>.stuck) fun u w σ1 as1 z ha1 hr1=>by
  cases w with
  |sta w=>
   obtain rfl:u=w:=hr1
   dsimp only
   by_cases hc:t.isC u=true
   ·rw[if_pos hc]
    exact lk co.ok (to.isC u hc) h2 (il es pos h2 as1 σ1) (pr h2 σ1) fun us vs σ2 as2 ha2 hu=>to.prim x as2 σ2 u vs us co.ok hl hu
   ·rw[if_neg hc];trivial
  |_=>trivial))) fun e h=>onCall_i h fun g es ks pos h=>rfl
theorem rM{l:List (Bool×Sem Value)}(h:l.any (·.1)=false):l.all (fun y=>!y.1)=true:=by
 induction l with
 |nil=>rfl
 |cons z l ih=>
  rw[any_cons,or_eq_false_iff] at h
  rw[all_cons,h.1,ih h.2];rfl
noncomputable abbrev pu(f:Value×List Value→Sem Value)(u:Value)(y:Str)(pos:Pos)(pl:Sem Bool):Sem Value:=PySem.holding [u] (getMethod u y pl)>>=fun p=>(Pure.pure pos:Sem Pos)>>=fun z=>f p
include co in
theorem tQ{u:Value}{y:Str}{pl:Sem Bool}{pos:Pos}{es:List Expr}{args:Es}{f:Value}{first:List Value}{gg:List V→St→af V}{as1:As}{σ1:St}(il:zd G c x t args)(h3:fT c args es=true)(hf:fi G.K f)
  (hm:ah G x as1 σ1 (getMethod u y pl) (fun _ (_:Unit) r=>r=(f,first)) (.ok () σ1))
  (hk:∀us vs σ' as',as1 <+: as'→aj (VR as') vs us→ah G x as' σ' (call f (first++us)) VR (gg vs σ')):
  ah G x as1 σ1 (pu (fun p=>callWith pos p.1 p.2 (backTo pos (starEach es x.env)) []) u y pos pl) VR ((fL t args σ1).bind gg):=by
 refine hm.holding.bind fun r as2 ha2 e2=>?_
 subst e2
 show ah _ _ _ _ (callWith pos f first (backTo pos (starEach es x.env)) []) _ _
 exact lk co.ok hf h3 (il es _ h3 as2 σ1) (pr h3 σ1) fun us vs σ' as' ha' hu=>hk us vs σ' as' (ha2.trans ha') hu
theorem w4{es:List Expr}{args:Es}{pos:Pos}{env:Env}(h3:fT c args es=true)(h4:decide (es.length < 20)=true):methodCallForm (es.length+([]:List Keyword).length) (backTo pos (starEach es env)) (backToKw pos (keywordEach [] env))=true:=by
 unfold methodCallForm
 show(List.all _ (fun(y:Bool×Sem Value)=>!y.1)&&true&&decide (es.length+0+0 < 30))=true
 rw[rM (fj h3)]
 have:=of_decide_eq_true h4
 exact decide_eq_true (GV this rfl)
noncomputable abbrev Eu(v:Expr)(env:Env):Sem Bool:=do return (←importBound v env).getD true
theorem Cg{v:Expr}{y:Str}{apos pos:Pos}{es:List Expr}{args:Es}{u:Value}{env:Env}(h0:decide (apos.endLine=pos.line)=true)(h3:fT c args es=true)(h4:decide (es.length < 20)=true):
  methodCall v y apos pos env u (es.length+([]:List Keyword).length) (backTo pos (starEach es env)) (backToKw pos (keywordEach [] env))=pu (fun p=>callWith pos p.1 p.2 (backTo pos (starEach es env)) []) u y pos (Eu v env):=by
 unfold methodCall PySem.calleeOf
 rw[w4 h3 h4,show methodCallPos true v env apos pos=Pure.pure pos from if_pos (by simp[of_decide_eq_true h0]),if_pos rfl]
 rfl
include co to hl in
theorem zJ{o:E}{m:Nat}{args:Es}(ia:dA G c x t o)(il:zd G c x t args):dA G c x t (.meth o m args)∧ic G c x t (.meth o m args):=fY (fun e h as σ=>onCall_i h fun g es ks pos h=>cN h fun hk h=>nil_i hk (onAttr_i h fun v y apos h=>Eo h fun h0 h1 h2 h3 h4 h5=>by
  have hy:G.atts[m]? =some y:=co.atts ▸ beq_iff_eq.mp h2
  show ah _ _ _ _ (attributeBase v y x.env (eval v x.env)>>=fun ov=>PySem.standAt apos.atName>>=fun z=>methodCall v y apos pos x.env ov _ _ _) _ _
  rw[cT h5,tN]
  refine(ia v h1 as σ).bindR fun u w σ1 as1 z ha1 hr1=>.standAt (.congr (Cg h0 h3 h4) ?_)
  by_cases hw:∃i C fs,w=.ref i∧σ1.hp[i]? =some (.inst C fs)
  ·refine BA hw fun i C fs q93 hi=>?_;obtain rfl:=q93
   rw[j3 hi]
   refine ak hr1 fun p hp q92=>?_;obtain rfl:=q92
   cases hms:(t.meths.lookup C).bind (·.lookup m) with
   |none=>trivial
   |some f=>
    cases hfs:fs.lookup m with
    |some _=>trivial
    |none=>
     refine ak (bind_eq_some_iff.mp hms) fun ms q1 q2=>?_
     have K:=to.mth C ms m f q1 q2
     exact tQ co il h3 (.inl K.2.2.2) (BO co.ok to.nd K.1 (K.2.1 y hy) K.2.2.1 hy hi hp hfs) fun us vs σ' as' ha' hu=>to.prim x as' σ' (.ref f) (.ref i::vs) (.ref p.1::us) co.ok hl (.cons (VR.mono ha' (v:=.ref i) ⟨p,hp,rfl⟩) hu)
  ·rw[dz hw]
   cases hs:t.msel w m σ1.hp with
   |none=>trivial
   |some s=>
    refine ak (to.msel x as1 σ1 w m u y (Eu v x.env) s co.ok hr1 hy hs) fun id q91 hT=>?_;obtain rfl:=q91
    exact tQ co il h3 (.inr (.inr ⟨id,rfl⟩)) hT fun us vs σ' as' ha' hu=>to.mprim x as' σ' id w vs u us co.ok hl (hr1.mono ha') hu)) fun e h=>onCall_i h fun g es ks pos h=>rfl
theorem zK{es:Es}(il:zd G c x t es):dA G c x t (.list es)∧ic G c x t (.list es):=fY (fun e h as σ=>onList_i h fun xs p h=>.congr (arm_eval_List _ _ _) (.standAt ((il _ _ h as σ).bindR (g:=fun vs σ=>if vs.length≤1000 then(af.ok (V.ref σ.hp.length) ⟨σ.vars,σ.hp++[.list vs]⟩:af V) else .stuck) fun us vs σ1 as1 z ha1 hr1=>by
  by_cases hz:vs.length≤1000
  ·rw[if_pos hz];exact vj hr1 (le_trans hz (by decide))
  ·rw[if_neg hz];trivial))) fun e h=>onList_i h fun xs p h=>rfl
theorem Ch{es:Es}(il:zd G c x t es):dA G c x t (.tup es)∧ic G c x t (.tup es):=fY (fun e h as σ=>onTup_i h fun xs n p h=>.congr (arm_eval_Tuple _ _ _ _) (.standAt ((il _ _ h as σ).bindR (g:=fun vs σ=>if vs.length≤1000 then(af.ok (V.ref σ.hp.length) ⟨σ.vars,σ.hp++[.tup vs]⟩:af V) else .stuck) fun us vs σ1 as1 s ha1 hr1=>by
  by_cases hz:vs.length≤1000
  ·rw[if_pos hz];exact rA hr1 (le_trans hz (by decide))
  ·rw[if_neg hz];trivial))) fun e h=>onTup_i h fun xs n p h=>rfl
include co to in
theorem Ci{a i:E}(ia:dA G c x t a)(ii:dA G c x t i):dA G c x t (.sub a i)∧ic G c x t (.sub a i):=fY (fun e h as σ=>onSub_i h fun y z p h=>cN h fun h1 h2=>.congr (arm_eval_Subscript _ _ _ _)
  ((ia _ h1 as σ).bindR (g:=fun v σ=>(ev t i σ).bind fun k σ=>cf t v k σ) fun u v σ1 as1 s ha1 hr1=>
  (ii _ h2 as1 σ1).holding.bindR fun w k σ2 as2 s ha2 hr2=>.standAt (B3 to co.ok (hr1.mono ha2) hr2))) fun e h=>onSub_i h fun y z p h=>rfl
theorem pv{m:E}{o:Option Expr}(im:dA G c x t m)(ho:mM o (fun l=>chk c m l) (tM m)=true)(as:As)(σ:St):ah G x as σ (valueOrNone (evalOpt o x.env)) VR (ev t m σ):=by
 cases o with
 |some q=>exact im q ho as σ
 |none=>
  obtain rfl:=zx ho
  exact .pure rfl
theorem Cj{a lo hi:E}(ia:dA G c x t a)(il:dA G c x t lo)(ih:dA G c x t hi):dA G c x t (.slc a lo hi)∧ic G c x t (.slc a lo hi):=fY (fun e h as σ=>onSub_i h fun y s pos h=>cN h fun h1 h=>onSlice_i h fun l hh z sp h=>rJ h fun h0 h2 h3=>isNo_i h0 (.congr (arm_eval_Subscript _ _ _ _)
  ((ia y h1 as σ).bindR (g:=fun v σ=>(ev t lo σ).bind fun a σ=>(ev t hi σ).bind fun b σ=>aZ v a b σ) fun u v σ1 as1 w ha1 hr1=>.holdBind (by
  show ah _ _ _ _ ((valueOrNone (evalOpt l x.env)>>=fun lv=>PySem.holding [lv] (valueOrNone (evalOpt hh x.env))>>=fun uv=>PySem.holding [lv,uv] (valueOrNone (evalOpt none x.env))>>=fun sv=>newFields "slice" [lv,uv,sv])>>=_) _ _
  exact .assoc ((pv il h2 as1 σ1).bindR fun lv vlo σ2 as2 w ha2 hr2=>.assoc (.holdBind
   ((pv ih h3 as2 σ2).bindR fun uv vhi σ3 as3 w ha3 hr3=>.assoc (.holdBind (pn ((hr1.mono ha2).mono ha3) (hr2.mono ha3) hr3))))))))) fun e h=>onSub_i h fun y s p h=>rfl
theorem w5:zd G c x t .nil:=fun es pos h as σ=>by
 exact nil_i h gV
theorem tR{a:E}{r:Es}(ia:dA G c x t a)(ir:zd G c x t r):zd G c x t (.cons a r):=fun es pos h as σ=>by
 cases es with
 |nil=>cases h
 |cons e es=>
  refine rJ h fun h1 h3 h2=>?_
  rw[aG (not_eq_true' _ ▸ h3)]
  have e0:spliced (backTo pos ((false,eval e x.env)::starEach es x.env))=(do
   let v ←eval e x.env
   let here ←(Pure.pure [v]:Sem (List Value))
   return here++(←PySem.holding here (spliced (backTo pos (starEach es x.env))))):=by
   show spliced ((false,_)::_)=_
   rw[spliced]
   rfl
  rw[e0]
  refine(ia e h1 as σ).bindR (g:=fun v σ=>(fL t r σ).bind fun vs σ=>.ok (v::vs) σ) fun u v σ1 as1 z ha1 hr1=>?_
  exact(ir es pos h2 as1 σ1).holding.bindR fun us vs σ2 as3 z ha3 hr3=>.pure (.cons (hr1.mono ha3) hr3)
include co to hl in
theorem rN(me:E):dA G c x t me∧ic G c x t me:=E.rec (motive_1:=fun me=>dA G c x t me∧ic G c x t me) (motive_2:=zd G c x t) (fun v=>B7 co) (fun i=>B8 co) (fun a n ia=>zF co to ia.1) (fun op l r il ir=>B9 il.1 ir.1) (fun a ia=>Ca ia.1)
 (fun a ia=>Cb ia.1 ia.2) (fun a b ia ib=>Cc ia.1 ia.2 ib.1 ib.2) (fun a b ia ib=>Et ia.1 ia.2 ib.1 ib.2) (fun op l r il ir=>zG il.1 ir.1) (fun o1 o2 l m r il im ir=>zH il.1 im.1 ir.1) (fun a b d ia ib id=>Cd ia.2 ib.1 ib.2 id.1 id.2)
 (fun f as ia il=>zI co to hl ia.1 il) (fun o m as ia il=>zJ co to hl ia.1 il) (fun es il=>zK il) (fun es il=>Ch il) ⟨fun e h=>(nomatch h),fun e h=>(nomatch h)⟩ (fun a i ia ii=>Ci co to ia.1 ii.1) (fun a lo hi ia il ih=>Cj ia.1 il.1 ih.1)
 w5 (fun a r ia ir=>tR ia.1 ir) me
include co to hl in
theorem w6:∀(me:Es) (es:List Expr) (pos:Pos),fT c me es=true→∀(as:As) (σ:St),ah G x as σ (spliced (backTo pos (starEach es x.env))) (fun as=>aj (VR as)) (fL t me σ):=fun me=>by
 show zd G c x t me
 induction me using Es.rec (motive_1:=fun z=>True) with
 |nil=>exact w5
 |cons a r _ ir=>exact tR (rN co to hl a).1 ir
 |_=>trivial
theorem du(co:kq G c x)(to:fU G t lv)(hl:lv≤x.lv)(me:E):dA G c x t me:=(rN co to hl me).1
theorem w7(co:kq G c x)(to:fU G t lv)(hl:lv≤x.lv)(me:E):ic G c x t me:=(rN co to hl me).2
end
end
set_option genCtorIdx false in
mutual
inductive S where
 |expr (e:E)
 |asg (i:Nat) (e:E)
 |setA (o:E) (n:Nat) (e:E)
 |setI (o i e:E)
 |unpk (rev:Bool) (is:List Nat) (e:E)
 |aug (i:Nat) (op:Operator) (e:E)
 |augA (o:E) (n:Nat) (op:Operator) (e:E)
 |ite (c:E) (a b:Ss)
 |whl (c:E) (b:Ss)
 |forB (i:Nat) (e:E) (b:Ss)
 |for2 (i j:Nat) (e:E) (b:Ss)
 |ret (e:E)
 |ret0
 |brk
 |pass
 |rais (e:E)
inductive Ss where
 |nil
 |cons (s:S) (r:Ss)
end
noncomputable def cU(v i u:V)(σ:St):af Unit:=vR v fun a=>vI i fun k=>oL σ.hp[a]? fun l=>if 0≤k∧k < l.length∧l.length≤1000000 then .ok () ⟨σ.vars,σ.hp.set a (.list (l.set k.toNat u))⟩ else .stuck
noncomputable def eR(op:Operator)(a b:V):Option V:=@Operator.casesOn (fun z=>Option V) op (mK a fun i=>mK b fun j=>some (.int (i+j))) none none none none none none none none none none none none
noncomputable def fZ(vars:aC):List (Nat×V)→aC
 | []=>vars
 |(i,v)::r=>fZ (vars.set i (some v)) r
noncomputable def nS(o:O):Option (List V):=@O.casesOn (fun z=>Option (List V)) o (fun z z=>none) (fun l=>if l.length≤1000000 then some l else none) some (fun z=>none) (fun z=>none) (fun z z=>none) (fun z z=>none) none (fun z=>none) none (fun z z=>none) (fun z=>none)
noncomputable def d8(v:V)(H:Hp):Option (List V):=GG v fun i=>H[i]?.bind nS
noncomputable def cG(rev:Bool)(is:List Nat)(v:V)(σ:St):af Fl:=oO (d8 v σ.hp) fun l=>if l.length=is.length then .ok .next ⟨fZ σ.vars (if rev then(is.zip l).reverse else is.zip l),σ.hp⟩ else .stuck
noncomputable def lu(cond:St→af V)(body:St→af Fl):Nat→St→af Fl
 |0,_=>.stuck
 |n+1,σ=>(cond σ).bind fun v σ1=>match v with
  | .bool true=>(body σ1).bind fun f σ2=>match f with
   | .next=>lu cond body n σ2
   | .brk=>.ok .next σ2
   | .ret u=>.ok (.ret u) σ2
  | .bool false=>.ok .next σ1
  |_=>.stuck
noncomputable def vo{γ:Type}(H:Hp)(n:Nat)(b:Bs)(k:Nat)(X:af γ):af γ:=oO H[n]? fun o=>@O.casesOn (fun z=>af γ) o (fun z z=>.stuck) (fun z=>.stuck) (fun z=>.stuck) (fun z=>.stuck) (fun z=>.stuck) (fun c j=>if c=b∧j=k then X else .stuck) (fun z z=>.stuck) .stuck (fun z=>.stuck) .stuck (fun z z=>.stuck) (fun z=>.stuck)
noncomputable def vq{γ:Type}(H:Hp)(n a k:Nat)(l:List V)(X:af γ):af γ:=oO H[n]? fun o=>@O.casesOn (fun z=>af γ) o (fun z z=>.stuck) (fun z=>.stuck) (fun z=>.stuck) (fun z=>.stuck) (fun z=>.stuck) (fun z z=>.stuck)
 (fun c j=>if c=a∧j=k then oL H[a]? fun m=>if m.length=l.length∧(m.zip l).all (fun p=>wM p.1 p.2)=true then X else .stuck else .stuck) .stuck (fun z=>.stuck) .stuck (fun z z=>.stuck) (fun z=>.stuck)
noncomputable def Ev(r:af Fl)(f:St→af Fl):af Fl:=@af.casesOn Fl (fun z=>af Fl) r (fun fl σ=>@Fl.casesOn (fun z=>af Fl) fl (f σ) .stuck fun z=>.stuck) (fun z=>.stuck) .stuck
noncomputable def A6{γ:Type}(o:Option (List V))(f:V→V→af γ):af γ:=oO o fun l=>@List.casesOn V (fun z=>af γ) l .stuck fun u r=>@List.casesOn V (fun z=>af γ) r .stuck fun v q=>@List.casesOn V (fun z=>af γ) q (f u v) fun z z=>.stuck
noncomputable def eS(n:Nat)(b:Bs)(i:Nat)(body:St→af Fl):Bs→Nat→St→af Fl
 | [],k,σ=>vo σ.hp n b k (.ok .next ⟨σ.vars,σ.hp.set n .gone⟩)
 |c::r,k,σ=>vo σ.hp n b k (Ev (body ⟨σ.vars.set i (some (.int c.toNat)),σ.hp.set n (.biter b (k+1))⟩) fun σ'=>eS n b i body r (k+1) σ')
noncomputable def eT(n a i j:Nat)(l:List V)(body:St→af Fl):List V→Nat→St→af Fl
 | [],k,σ=>vq σ.hp n a k l (.ok .next ⟨σ.vars,σ.hp.set n .gone⟩)
 |c::r,k,σ=>vq σ.hp n a k l (A6 (d8 c σ.hp) fun u v=>Ev (body ⟨(σ.vars.set i (some u)).set j (some v),σ.hp.set n (.liter a (k+1))⟩) fun σ'=>eT n a i j l body r (k+1) σ')
noncomputable def af.raise:af V→af Fl
 | .ok (.bytes _) σ=>.exc σ.hp
 | .exc H=>.exc H
 |_=>.stuck
mutual
noncomputable def ex(t:Tb)(N:Nat):S→St→af Fl
 | .expr e,σ=>(ev t e σ).bind fun v σ=>match v with
  | .ref _=>.stuck
  | .sta _=>.stuck
  |_=>.ok .next σ
 | .asg i e,σ=>(ev t e σ).bind fun v σ=>.ok .next ⟨σ.vars.set i (some v),σ.hp⟩
 | .setA o n e,σ=>(ev t e σ).bind fun v σ=>(ev t o σ).bind fun w σ=>(aY t w n v σ).bind fun z σ=>.ok .next σ
 | .setI o i e,σ=>(ev t e σ).bind fun v σ=>(ev t o σ).bind fun w σ=>(ev t i σ).bind fun k σ=>(cU w k v σ).bind fun z σ=>.ok .next σ
 | .unpk rev is e,σ=>(ev t e σ).bind fun v σ=>cG rev is v σ
 | .aug i op e,σ=>match σ.vars[i]? with
  |some (some old)=>(ev t e σ).bind fun v σ=>(ofOpt σ (eR op old v)).bind fun w σ=>.ok .next ⟨σ.vars.set i (some w),σ.hp⟩
  |_=>.stuck
 | .augA o n op e,σ=>(ev t o σ).bind fun w σ=>(aX t w n σ).bind fun old σ=>(ev t e σ).bind fun v σ=>(ofOpt σ (eR op old v)).bind fun u σ=>(aY t w n u σ).bind fun z σ=>.ok .next σ
 | .ite c a b,σ=>(ev t c σ).bind fun v σ=>match v with
  | .bool true=>bj t N a σ
  | .bool false=>bj t N b σ
  |_=>.stuck
 | .whl c b,σ=>lu (fun σ=>ev t c σ) (fun σ=>bj t N b σ) N σ
 | .forB i e b,σ=>(ev t e σ).bind fun v σ=>match v with
  | .bytes l=>if l.length≤1000000 then eS σ.hp.length l i (fun σ=>bj t N b σ) l 0 ⟨σ.vars,σ.hp++[.biter l 0]⟩ else .stuck
  |_=>.stuck
 | .for2 i j e b,σ=>(ev t e σ).bind fun v σ=>match v with
  | .ref a=>match σ.hp[a]? with
   |some (.list l)=>eT σ.hp.length a i j l (fun σ=>bj t N b σ) l 0 ⟨σ.vars,σ.hp++[.liter a 0]⟩
   |_=>.stuck
  |_=>.stuck
 | .ret e,σ=>(ev t e σ).bind fun v σ=>.ok (.ret v) σ
 | .ret0,σ=>.ok (.ret .none) σ
 | .brk,σ=>.ok .brk σ
 | .pass,σ=>.ok .next σ
 | .rais e,σ=>(ev t e σ).raise
noncomputable def bj(t:Tb)(N:Nat):Ss→St→af Fl
 | .nil,σ=>.ok .next σ
 | .cons s r,σ=>(ex t N s σ).bind fun f σ=>match f with
  | .next=>bj t N r σ
  |f=>.ok f σ
end
noncomputable def dE:Expr:=.List [] default
noncomputable def t1(e:Stmt):Expr:=@Stmt.casesOn (fun z=>Expr) e (fun z z z z z z z z z z=>dE) (fun z z z z z z z z z z=>dE) (fun z z z z z z z z z z z=>dE) (fun z z=>dE) (fun z z=>dE) (fun z a z=>a) (fun z z z z z z z=>dE) (fun z z a z=>a) (fun z z z z z=>dE) (fun z a z z z=>a) (fun z z z z z=>dE) (fun a z z z=>a) (fun a z z z=>a) (fun z z z=>dE) (fun z z z=>dE) (fun z z z=>dE) (fun z z z=>dE) (fun z z z z z=>dE) (fun z z z z z=>dE) (fun z z z=>dE) (fun z z=>dE) (fun z z z z=>dE) (fun z z=>dE) (fun z z=>dE) (fun a z=>a) (fun z=>dE) (fun z=>dE) (fun z=>dE)
noncomputable def t2(e:Stmt):Expr:=@Stmt.casesOn (fun z=>Expr) e (fun z z z z z z z z z z=>dE) (fun z z z z z z z z z z=>dE) (fun z z z z z z z z z z z=>dE) (fun z z=>dE) (fun z z=>dE) (fun z z z=>dE) (fun z z z z z z z=>dE) (fun a z z z=>a) (fun z z z z z=>dE) (fun a z z z z=>a) (fun z z z z z=>dE) (fun z z z z=>dE) (fun z z z z=>dE) (fun z z z=>dE) (fun z z z=>dE) (fun z z z=>dE) (fun z z z=>dE) (fun z z z z z=>dE) (fun z z z z z=>dE) (fun z z z=>dE) (fun z z=>dE) (fun z z z z=>dE) (fun z z=>dE) (fun z z=>dE) (fun z z=>dE) (fun z=>dE) (fun z=>dE) (fun z=>dE)
noncomputable def tl(e:Stmt):List Expr:=@Stmt.casesOn (fun z=>List Expr) e (fun z z z z z z z z z z=>[]) (fun z z z z z z z z z z=>[]) (fun z z z z z z z z z z z=>[]) (fun z z=>[]) (fun z z=>[]) (fun a z z=>a) (fun z z z z z z z=>[]) (fun z z z z=>[]) (fun z z z z z=>[]) (fun z z z z z=>[]) (fun z z z z z=>[]) (fun z z z z=>[]) (fun z z z z=>[]) (fun z z z=>[]) (fun z z z=>[]) (fun z z z=>[]) (fun z z z=>[]) (fun z z z z z=>[]) (fun z z z z z=>[]) (fun z z z=>[]) (fun z z=>[]) (fun z z z z=>[]) (fun z z=>[]) (fun z z=>[]) (fun z z=>[]) (fun z=>[]) (fun z=>[]) (fun z=>[])
noncomputable def tb(e:Stmt):List Stmt:=@Stmt.casesOn (fun z=>List Stmt) e (fun z z z z z z z z z z=>[]) (fun z z z z z z z z z z=>[]) (fun z z z z z z z z z z z=>[]) (fun z z=>[]) (fun z z=>[]) (fun z z z=>[]) (fun z z z z z z z=>[]) (fun z z z z=>[]) (fun z z z z z=>[]) (fun z z a z z=>a) (fun z z z z z=>[]) (fun z a z z=>a) (fun z a z z=>a) (fun z z z=>[]) (fun z z z=>[]) (fun z z z=>[]) (fun z z z=>[]) (fun z z z z z=>[]) (fun z z z z z=>[]) (fun z z z=>[]) (fun z z=>[]) (fun z z z z=>[]) (fun z z=>[]) (fun z z=>[]) (fun z z=>[]) (fun z=>[]) (fun z=>[]) (fun z=>[])
noncomputable def tc(e:Stmt):List Stmt:=@Stmt.casesOn (fun z=>List Stmt) e (fun z z z z z z z z z z=>[]) (fun z z z z z z z z z z=>[]) (fun z z z z z z z z z z z=>[]) (fun z z=>[]) (fun z z=>[]) (fun z z z=>[]) (fun z z z z z z z=>[]) (fun z z z z=>[]) (fun z z z z z=>[]) (fun z z z a z=>a) (fun z z z z z=>[]) (fun z z a z=>a) (fun z z a z=>a) (fun z z z=>[]) (fun z z z=>[]) (fun z z z=>[]) (fun z z z=>[]) (fun z z z z z=>[]) (fun z z z z z=>[]) (fun z z z=>[]) (fun z z=>[]) (fun z z z z=>[]) (fun z z=>[]) (fun z z=>[]) (fun z z=>[]) (fun z=>[]) (fun z=>[]) (fun z=>[])
noncomputable def G7(e:Stmt):Operator:=@Stmt.casesOn (fun z=>Operator) e (fun z z z z z z z z z z=>.Add) (fun z z z z z z z z z z=>.Add) (fun z z z z z z z z z z z=>.Add) (fun z z=>.Add) (fun z z=>.Add) (fun z z z=>.Add) (fun z z z z z z z=>.Add) (fun z a z z=>a) (fun z z z z z=>.Add) (fun z z z z z=>.Add) (fun z z z z z=>.Add) (fun z z z z=>.Add) (fun z z z z=>.Add) (fun z z z=>.Add) (fun z z z=>.Add) (fun z z z=>.Add) (fun z z z=>.Add) (fun z z z z z=>.Add) (fun z z z z z=>.Add) (fun z z z=>.Add) (fun z z=>.Add) (fun z z z z=>.Add) (fun z z=>.Add) (fun z z=>.Add) (fun z z=>.Add) (fun z=>.Add) (fun z=>.Add) (fun z=>.Add)
noncomputable def q1(e:Stmt):Option Expr:=@Stmt.casesOn (fun z=>Option Expr) e (fun z z z z z z z z z z=>none) (fun z z z z z z z z z z=>none) (fun z z z z z z z z z z z=>none) (fun a z=>a) (fun z z=>none) (fun z z z=>none) (fun z z z z z z z=>none) (fun z z z z=>none) (fun z z z z z=>none) (fun z z z z z=>none) (fun z z z z z=>none) (fun z z z z=>none) (fun z z z z=>none) (fun z z z=>none) (fun z z z=>none) (fun z z z=>none) (fun a z z=>a) (fun z z z z z=>none) (fun z z z z z=>none) (fun z z z=>none) (fun z z=>none) (fun z z z z=>none) (fun z z=>none) (fun z z=>none) (fun z z=>none) (fun z=>none) (fun z=>none) (fun z=>none)
noncomputable def q2(e:Stmt):Option Expr:=@Stmt.casesOn (fun z=>Option Expr) e (fun z z z z z z z z z z=>none) (fun z z z z z z z z z z=>none) (fun z z z z z z z z z z z=>none) (fun z z=>none) (fun z z=>none) (fun z z z=>none) (fun z z z z z z z=>none) (fun z z z z=>none) (fun z z z z z=>none) (fun z z z z z=>none) (fun z z z z z=>none) (fun z z z z=>none) (fun z z z z=>none) (fun z z z=>none) (fun z z z=>none) (fun z z z=>none) (fun z a z=>a) (fun z z z z z=>none) (fun z z z z z=>none) (fun z z z=>none) (fun z z=>none) (fun z z z z=>none) (fun z z=>none) (fun z z=>none) (fun z z=>none) (fun z=>none) (fun z=>none) (fun z=>none)
noncomputable def w8(e:Stmt):Nat:=@Stmt.casesOn (fun z=>Nat) e (fun z z z z z z z z z z=>0) (fun z z z z z z z z z z=>0) (fun z z z z z z z z z z z=>0) (fun z z=>7) (fun z z=>0) (fun z z z=>2) (fun z z z z z z z=>0) (fun z z z z=>3) (fun z z z z z=>0) (fun z z z z z=>6) (fun z z z z z=>0) (fun z z z z=>5) (fun z z z z=>4) (fun z z z=>0) (fun z z z=>0) (fun z z z=>0) (fun z z z=>10) (fun z z z z z=>0) (fun z z z z z=>0) (fun z z z=>0) (fun z z=>0) (fun z z z z=>0) (fun z z=>0) (fun z z=>0) (fun z z=>1) (fun z=>9) (fun z=>8) (fun z=>0)
noncomputable def w9(e:Stmt):List Prop:=[True,e=.Expr (t1 e) e.pos,e=.Assign (tl e) (t1 e) e.pos,e=.AugAssign (t2 e) (G7 e) (t1 e) e.pos,e=.If (t1 e) (tb e) (tc e) e.pos,e=.While (t1 e) (tb e) (tc e) e.pos,e=.For (t2 e) (t1 e) (tb e) (tc e) e.pos,e=.Return (q1 e) e.pos,e=.Break e.pos,e=.Pass e.pos,e=.Raise (q1 e) (q2 e) e.pos]
theorem eJ(e:Stmt):(w9 e).getD (w8 e) True:=by cases e<;>first|exact rfl|exact True.intro
@[irreducible] noncomputable def onExpr(e:Stmt)(f:Expr→Bool):Bool:=w8 e==1&&f (t1 e)
@[elab_as_elim] theorem onExpr_i{e:Stmt}{f}{M:Stmt→Prop}(h:onExpr e f=true)(k:∀x0 p,f x0=true→M (.Expr x0 p)):M e:=by
 unfold onExpr at h
 exact(congrArg M ((beq_iff_eq.mp (an h).1 ▸ eJ e:(w9 e).getD 1 True):e=.Expr (t1 e) e.pos)).mpr (k _ _ (an h).2)
@[irreducible] noncomputable def onAsg(e:Stmt)(f:List Expr→Expr→Bool):Bool:=w8 e==2&&f (tl e) (t1 e)
@[elab_as_elim] theorem onAsg_i{e:Stmt}{f}{M:Stmt→Prop}(h:onAsg e f=true)(k:∀x0 x1 p,f x0 x1=true→M (.Assign x0 x1 p)):M e:=by
 unfold onAsg at h
 exact(congrArg M ((beq_iff_eq.mp (an h).1 ▸ eJ e:(w9 e).getD 2 True):e=.Assign (tl e) (t1 e) e.pos)).mpr (k _ _ _ (an h).2)
@[irreducible] noncomputable def onAug(e:Stmt)(f:Expr→Operator→Expr→Bool):Bool:=w8 e==3&&f (t2 e) (G7 e) (t1 e)
@[elab_as_elim] theorem onAug_i{e:Stmt}{f}{M:Stmt→Prop}(h:onAug e f=true)(k:∀x0 x1 x2 p,f x0 x1 x2=true→M (.AugAssign x0 x1 x2 p)):M e:=by
 unfold onAug at h
 exact(congrArg M ((beq_iff_eq.mp (an h).1 ▸ eJ e:(w9 e).getD 3 True):e=.AugAssign (t2 e) (G7 e) (t1 e) e.pos)).mpr (k _ _ _ _ (an h).2)
@[irreducible] noncomputable def onIfS(e:Stmt)(f:Expr→List Stmt→List Stmt→Bool):Bool:=w8 e==4&&f (t1 e) (tb e) (tc e)
@[elab_as_elim] theorem onIfS_i{e:Stmt}{f}{M:Stmt→Prop}(h:onIfS e f=true)(k:∀x0 x1 x2 p,f x0 x1 x2=true→M (.If x0 x1 x2 p)):M e:=by
 unfold onIfS at h
 exact(congrArg M ((beq_iff_eq.mp (an h).1 ▸ eJ e:(w9 e).getD 4 True):e=.If (t1 e) (tb e) (tc e) e.pos)).mpr (k _ _ _ _ (an h).2)
@[irreducible] noncomputable def onWhl(e:Stmt)(f:Expr→List Stmt→List Stmt→Bool):Bool:=w8 e==5&&f (t1 e) (tb e) (tc e)
@[elab_as_elim] theorem onWhl_i{e:Stmt}{f}{M:Stmt→Prop}(h:onWhl e f=true)(k:∀x0 x1 x2 p,f x0 x1 x2=true→M (.While x0 x1 x2 p)):M e:=by
 unfold onWhl at h
 exact(congrArg M ((beq_iff_eq.mp (an h).1 ▸ eJ e:(w9 e).getD 5 True):e=.While (t1 e) (tb e) (tc e) e.pos)).mpr (k _ _ _ _ (an h).2)
@[irreducible] noncomputable def onFor(e:Stmt)(f:Expr→Expr→List Stmt→List Stmt→Bool):Bool:=w8 e==6&&f (t2 e) (t1 e) (tb e) (tc e)
@[elab_as_elim] theorem onFor_i{e:Stmt}{f}{M:Stmt→Prop}(h:onFor e f=true)(k:∀x0 x1 x2 x3 p,f x0 x1 x2 x3=true→M (.For x0 x1 x2 x3 p)):M e:=by
 unfold onFor at h
 exact(congrArg M ((beq_iff_eq.mp (an h).1 ▸ eJ e:(w9 e).getD 6 True):e=.For (t2 e) (t1 e) (tb e) (tc e) e.pos)).mpr (k _ _ _ _ _ (an h).2)
@[irreducible] noncomputable def onRet(e:Stmt)(f:Option Expr→Bool):Bool:=w8 e==7&&f (q1 e)
@[elab_as_elim] theorem onRet_i{e:Stmt}{f}{M:Stmt→Prop}(h:onRet e f=true)(k:∀x0 p,f x0=true→M (.Return x0 p)):M e:=by
 unfold onRet at h
 exact(congrArg M ((beq_iff_eq.mp (an h).1 ▸ eJ e:(w9 e).getD 7 True):e=.Return (q1 e) e.pos)).mpr (k _ _ (an h).2)
@[irreducible] noncomputable def onBrk(e:Stmt):Bool:=w8 e==8
@[elab_as_elim] theorem onBrk_i{e:Stmt}{M:Stmt→Prop}(h:onBrk e=true)(k:∀p,M (.Break p)):M e:=by
 unfold onBrk at h
 exact(congrArg M ((beq_iff_eq.mp h ▸ eJ e:(w9 e).getD 8 True):e=.Break e.pos)).mpr (k _)
@[irreducible] noncomputable def onPas(e:Stmt):Bool:=w8 e==9
@[elab_as_elim] theorem onPas_i{e:Stmt}{M:Stmt→Prop}(h:onPas e=true)(k:∀p,M (.Pass p)):M e:=by
 unfold onPas at h
 exact(congrArg M ((beq_iff_eq.mp h ▸ eJ e:(w9 e).getD 9 True):e=.Pass e.pos)).mpr (k _)
@[irreducible] noncomputable def onRai(e:Stmt)(f:Option Expr→Option Expr→Bool):Bool:=w8 e==10&&f (q1 e) (q2 e)
@[elab_as_elim] theorem onRai_i{e:Stmt}{f}{M:Stmt→Prop}(h:onRai e f=true)(k:∀x0 x1 p,f x0 x1=true→M (.Raise x0 x1 p)):M e:=by
 unfold onRai at h
 exact(congrArg M ((beq_iff_eq.mp (an h).1 ▸ eJ e:(w9 e).getD 10 True):e=.Raise (q1 e) (q2 e) e.pos)).mpr (k _ _ _ (an h).2)
noncomputable def gF(e:Expr):Bool:=!(tg e==15)
noncomputable def nT(e:Expr):Bool:=tg e==1
noncomputable def px(e:Expr):Bool:=@swappedStores.match_5 (fun z=>Bool) e (fun z z=>true) fun z=>false
noncomputable def mR(ks:List (Str×NameKind))(line:Nat)(e:Expr):Option Str:=@swappedStores.match_8 (fun z=>Option Str) e (fun id pos=>if ks.lookup id==some .local&&pos.line==line then some id else none) fun z=>none
noncomputable def bN(ks:List (Str×NameKind))(ts:List Expr):List Str:=ts.filterMap (mR ks ((ts.head?.map (·.pos.line)).getD 0))
noncomputable def kL{α:Type}(c1 c2 c3 c4 c5:Bool)(n u s:α):α:=if c1=true then n else if c2=true then n else if c3=true then n else if c4=true then n else if c5=true then u else s
noncomputable def rO(c:Cx)(ts:List Expr)(v:Expr):Option Bool:=bif tg v==11 then
  kL (!(ts.length==2||ts.length==3)||(el v).length != ts.length) ((el v).any px) ((bN c.kinds ts).length != ts.length||(bN c.kinds ts).eraseDups.length != (bN c.kinds ts).length)
   ((el v).all (foldedForSure 8)) ((el v).all (constantsAlone 8)) (some false) none (some true) else some false
noncomputable def d9(c:Cx):List Nat→List Expr→Bool
 | [],l=>l.isEmpty
 |i::is,l=>match l with
  | []=>false
  |e::r=>eF e (fun y=>c.kinds.lookup y==some .local&&c.names[i]? ==some y)&&d9 c is r
mutual
noncomputable def Ew(c:Cx):S→Stmt→Bool
 | .expr e,st=>onExpr st fun v=>gF v&&!(nT v)&&chk c e v
 | .asg i e,st=>onAsg st fun ts v=>zv ts fun z=>eF z fun y=>gF v&&c.kinds.lookup y==some .local&&c.names[i]? ==some y&&chk c e v
 | .setA o n e,st=>onAsg st fun ts v=>zv ts fun z=>jm z fun x y u=>gF v&&chk c o x&&c.atts[n]? ==some y&&chk c e v
 | .setI o i e,st=>onAsg st fun ts v=>zv ts fun z=>tK z fun x k=>gF v&&chk c o x&&chk c i k&&chk c e v
 | .unpk rev is e,st=>onAsg st fun ts v=>zv ts fun z=>tJ z fun zs=>gF v&&d9 c is zs&&rO c zs v==some rev&&chk c e v
 | .aug i op e,st=>onAug st fun z o v=>eF z fun y=>dL y&&c.kinds.lookup y==some .local&&c.names[i]? ==some y&&decide (o=op)&&chk c e v
 | .augA o n op e,st=>onAug st fun z p v=>jm z fun x y u=>chk c o x&&c.atts[n]? ==some y&&decide (p=op)&&chk c e v
 | .ite b p q,st=>onIfS st fun x y z=>chk c b x&&fP c p y&&fP c q z
 | .whl b p,st=>onWhl st fun x y z=>z.isEmpty&&chk c b x&&fP c p y
 | .forB i e p,st=>onFor st fun z x b w=>w.isEmpty&&eF z fun y=>c.kinds.lookup y==some .local&&c.names[i]? ==some y&&nT x&&chk c e x&&fP c p b
 | .for2 i j e p,st=>onFor st fun z x b w=>w.isEmpty&&tJ z fun zs=>d9 c [i,j] zs&&nT x&&chk c e x&&fP c p b
 | .ret e,st=>onRet st fun o=>mM o (fun x=>chk c e x) false
 | .ret0,st=>onRet st zw
 | .brk,st=>onBrk st
 | .pass,st=>onPas st
 | .rais e,st=>onRai st fun a b=>zw b&&mM a (fun x=>nN x fun g as ks u=>ks.isEmpty&&zv as fun a=>eF g fun y=>dL y&&c.kinds.lookup y==some .globalImplicit&&y==c.exn&&!(ck a)&&chk c e a) false
noncomputable def fP(c:Cx):Ss→List Stmt→Bool
 | .nil,l=>l.isEmpty
 | .cons s r,l=>match l with
  | []=>false
  |st::l=>Ew c s st&&fP c r l
end
section
variable {t:Tb}{N:Nat}{σ:St}
noncomputable def Wh(t:Tb)(N:Nat)(c:E)(b:Ss)(m:Nat)(σ:St):af Fl:=lu (fun σ=>ev t c σ) (fun σ=>bj t N b σ) m σ
theorem gG{c:E}{b:Ss}{m:Nat}:Wh t N c b (m+1) σ=(ev t c σ).bind fun v σ1=>match v with
  | .bool true=>(bj t N b σ1).bind fun f σ2=>match f with
   | .next=>Wh t N c b m σ2
   | .brk=>.ok .next σ2
   | .ret u=>.ok (.ret u) σ2
  | .bool false=>.ok .next σ1
  |_=>.stuck:=rfl
theorem GI:bj t N .nil σ=.ok .next σ:=rfl
theorem xa{s:S}{r:Ss}:bj t N (.cons s r) σ=(ex t N s σ).bind fun f σ=>match f with
  | .next=>bj t N r σ
  |f=>.ok f σ:=rfl
theorem zL{e:E}:ex t N (.expr e) σ=(ev t e σ).bind fun v σ=>match v with
  | .ref _=>.stuck
  | .sta _=>.stuck
  |_=>.ok .next σ:=rfl
theorem Ck{i:Nat}{e:E}:ex t N (.asg i e) σ=(ev t e σ).bind fun v σ=>.ok .next ⟨σ.vars.set i (some v),σ.hp⟩:=rfl
theorem tS{o e:E}{n:Nat}:ex t N (.setA o n e) σ=(ev t e σ).bind fun v σ=>(ev t o σ).bind fun w σ=>(aY t w n v σ).bind fun z σ=>.ok .next σ:=rfl
theorem zM{o i e:E}:ex t N (.setI o i e) σ=(ev t e σ).bind fun v σ=>(ev t o σ).bind fun w σ=>(ev t i σ).bind fun k σ=>(cU w k v σ).bind fun z σ=>.ok .next σ:=rfl
theorem zN{rev:Bool}{is:List Nat}{e:E}:ex t N (.unpk rev is e) σ=(ev t e σ).bind fun v σ=>cG rev is v σ:=rfl
theorem Cl{i:Nat}{op:Operator}{e:E}{vs:aC}{H:Hp}:ex t N (.aug i op e) ⟨vs,H⟩=match vs[i]? with
  |some (some old)=>(ev t e ⟨vs,H⟩).bind fun v σ=>(ofOpt σ (eR op old v)).bind fun w σ=>.ok .next ⟨σ.vars.set i (some w),σ.hp⟩
  |_=>.stuck:=rfl
theorem zO{o e:E}{n:Nat}{op:Operator}:ex t N (.augA o n op e) σ=(ev t o σ).bind fun w σ=>(aX t w n σ).bind fun old σ=>(ev t e σ).bind fun v σ=>(ofOpt σ (eR op old v)).bind fun u σ=>(aY t w n u σ).bind fun z σ=>.ok .next σ:=rfl
theorem Cm{c:E}{a b:Ss}:ex t N (.ite c a b) σ=(ev t c σ).bind fun v σ=>match v with
  | .bool true=>bj t N a σ
  | .bool false=>bj t N b σ
  |_=>.stuck:=rfl
theorem G8{c:E}{b:Ss}:ex t N (.whl c b) σ=Wh t N c b N σ:=rfl
theorem Cn{e:E}:ex t N (.ret e) σ=(ev t e σ).bind fun v σ=>.ok (.ret v) σ:=rfl
theorem GJ:ex t N .ret0 σ=.ok (.ret .none) σ:=rfl
theorem G9:ex t N .brk σ=.ok .brk σ:=rfl
theorem GK:ex t N .pass σ=.ok .next σ:=rfl
theorem zP{e:E}:ex t N (.rais e) σ=(ev t e σ).raise:=rfl
end
theorem bT{v:Expr}(h:gF v=true){t:Option Expr}{l:Nat}{env:Env}:swapsWith v t l env=pure false:=by
 cases v<;>first|rfl|exact Bool.noConfusion h
theorem j4{v:Expr}(h:nT v=true){env:Env}{u:Value}:foldedSetIterable v env u=pure u:=by
 cases v<;>first|rfl|exact Bool.noConfusion h
section
variable {G:bB}{x:Fx}{as as':As}{σ σ':St}{α α' β γ:Type}{R:As→β→α→Prop}
theorem ah.mono{t:Sem α}{r:af β}{R':As→β→α→Prop}(h:ah G x as σ t R r)(k:∀as b a,R as b a→R' as b a):ah G x as σ t R' r:=by
 cases r with
 |ok b σ1=>exact fun s Q E hr hq=>h s Q E hr fun a as' h' tk' ha hr' ra=>hq a as' h' tk' ha hr' (k _ _ _ ra)
 |exc H=>exact h
 |stuck=>trivial
theorem lw{i:Nat}{y:Str}{v:V}{u:Value}(ok:x.Ok G)(hy:x.names[i]? =some y)(hk:x.cs.names.lookup y=some .local)(hv:VR as v u):
  ah G x as σ (bindName x.env y u) (fun _ (_:Unit) (_:Unit)=>True) (.ok () ⟨σ.vars.set i (some v),σ.hp⟩):=by
 unfold bindName
 refine .skip (fun s Q E hq=>wpAny_holding (wpAny_point hq)) ?_
 exact(zr ok hy hk hv).bind fun a as' ha z=>.of_wp fun s Q E hr k=>wpAny_point (k () s.toks trivial)
set_option tactic.hygienic true
theorem kB(ok:x.Ok G){is:List Nat}{ys:List Str}{l:List V}{us:List Value}{as:As}{σ:St}(z:aj (fun i y=>x.names[i]? =some y∧x.cs.names.lookup y=some .local) is ys):aj (VR as) l us→is.length=l.length→
  ah G x as σ (assignInOrder (ys.map fun y=>bindName x.env y) us) (fun _ (_:Unit) (_:Unit)=>True) (.ok () ⟨fZ σ.vars (is.zip l),σ.hp⟩):=by
 induction z generalizing l us as σ with
 |nil=>
  intro hl e
  cases hl with
  |nil=>exact .pure trivial
  |cons _ _=>cases e
 |cons h _ ih=>
  rename_i i y is ys hr
  intro hl e
  cases hl with
  |nil=>cases e
  |cons hv hl=>
   rename_i v u l us
   show ah G x as σ (holding us (bindName x.env y u)>>=fun _=>assignInOrder (ys.map fun y=>bindName x.env y) us) _ _
   exact(lw ok h.1 h.2 hv).holding.bind fun a as' ha _=>ih (hl.mono fun _ _ z=>z.mono ha) (Nat.succ.inj e)
theorem aE.listOf'{h:Heap}(R:aE G x σ as h){i:Nat}{l:List V}(e:σ.hp[i]? =some (.list l)):∃p vs,as[i]? =some p∧h.IsList p.1 vs.toArray∧aj (VR as) l vs:=by
 refine fh (R.listAt e) fun p vs n a b c=>?_
 exact⟨p,vs,a,⟨_,b,rfl,⟨_,rfl⟩⟩,c⟩
theorem fm{α:Type}{a b:α}{o:Option α}{M:α→Prop}(h:o=some a)(h':o=some b)(k:M b):M a:=Option.some.inj (h.symm.trans h') ▸ k
theorem aE.listIn{h:Heap}(R:aE G x σ as h){i:Nat}{l:List V}{p:Addr×Addr}(e:σ.hp[i]? =some (.list l))(hp:as[i]? =some p):∃vs:List Value,h.IsList p.1 vs.toArray∧aj (VR as) l vs:=
 (R.listOf' e).elim fun q k=>k.elim fun vs k=>⟨vs,fm (M:=fun p=>h.IsList p.1 vs.toArray) hp k.1 k.2.1,k.2.2⟩
theorem aE.tupOf{h:Heap}(R:aE G x σ as h){i:Nat}{l:List V}{p:Addr×Addr}(e:σ.hp[i]? =some (.tup l))(hp:as[i]? =some p):∃vs:List Value,IsTup h p.1 vs.toArray∧aj (VR as) l vs:=
 (R.tupAt e).elim fun q k=>k.elim fun vs k=>⟨vs,fm (M:=fun p=>IsTup h p.1 vs.toArray) hp k.1 k.2.1,k.2.2⟩
theorem Co{o:O}{l:List V}(h:nS o=some l):o=.tup l∨o=.list l:=by
 cases o<;>first|exact bt h|skip
 ·rename_i m
  have h:(if m.length≤1000000 then some m else none)=some l:=h
  by_cases q:m.length≤1000000
  ·exact .inr (congrArg O.list (Option.some.inj ((if_pos q).symm.trans h)))
  ·exact bt ((if_neg q).symm.trans h)
 ·exact .inl (congrArg O.tup (Option.some.inj h))
theorem ju{prog:Program}{w:World}{A:Around}{E:Value→Shared→Prop}{s:Shared}{t:Addr}{items:Array Value}{Q:List Value→Shared→Prop}(hh:A.handled=none)(ht:s.heap.IsList t items)
  (hQ:∀h',Heap.ExtBut s.heap.objs.size s.heap h'→Q items.toList { s with heap:=h' }):wpAny (model prog w) A (unpackItems (.ref t) items.size none) Q E s:=by
 have hlt:t≠s.heap.objs.size:=by obtain⟨o,ho,_⟩:=ht;exact ne_of_lt (Heap.lt_size ho)
 have drawL:∀(it:Addr) (hne:t≠it) (n i:Nat) (s:Shared) (Q:List Value→Shared→Prop),s.heap.IsListIter it t i→s.heap.IsList t items→i+n≤items.size→
   (∀h',h'.IsListIter it t (i+n)→Heap.SameBut it s.heap h'→Q ((items.toList.drop i).take n) { s with heap:=h' })→wpAny (model prog w) A (draw (.ref it) n) Q E s:=by
  intro it hne n
  induction n with
  |zero=>
   intro i s Q hit _ _ hQ
   show wpAny _ _ (pure []) Q E s
   exact wpAny_pure (by simpa using hQ s.heap hit (Heap.SameBut.refl ..))
  |succ n ih=>
   intro i s Q hit ht hle hQ
   have hlt:i < items.size:=by lia
   show wpAny _ _ (pyNext (.ref it)>>=_) Q E s
   refine wpAny_bind (wpAny_pyNext_list_item hit ht (x:=items[i]) (by simp[hlt]) fun h₁ hit₁ hs₁=>?_)
   refine wpAny_bind (wpAny_holding (ih (i+1) _ _ hit₁ (ht.extBut hs₁.extBut hne) (by lia) fun h₂ hit₂ hs₂=>wpAny_pure ?_))
   have hd:items.toList.drop i=items[i]::items.toList.drop (i+1):=by simp[List.drop_eq_getElem_cons,hlt]
   have:=hQ h₂ (by rw[show i+(n+1)=i+1+n by lia];exact hit₂) (hs₁.trans hs₂)
   rw[hd,List.take_succ_cons] at this
   exact this
 unfold unpackItems
 refine wpAny_bind ?_
 unfold notIterableAtAll
 refine wpAny_bind (wpAny_specialOf ht.typeIs slot_list_iter.lookup ?_)
 refine wpAny_pure ?_
 simp only[false_eq_true,if_false]
 refine wpAny_bind (wpAny_holding (wpAny_pyIter_list ht ?_))
 refine wpAny_bind (wpAny_holding (drawL _ hlt items.size 0 _ _ ⟨_,Heap.get?_push_size _ rfl,rfl,rfl⟩ (ht.push _) (by lia) fun h₁ hit₁ hs₁=>?_))
 have hall:List.take items.size (List.drop 0 items.toList)=items.toList:=by
  rw[drop_zero];exact take_of_length_le (by simp)
 rw[hall]
 rw[if_neg (by simp)]
 have ht₁:h₁.IsList t items:=(ht.push _).extBut hs₁.extBut hlt
 refine wpAny_bind (wpAny_holding (wpAny_pyNext_list_end hh hit₁ ht₁ (by simp) fun h₂ he₂=>?_))
 simp only[Option.isSome_none,false_eq_true,if_false]
 exact wpAny_pure (hQ h₂ fun b o hb e=>he₂ b o hb (hs₁.extBut b o hb (Heap.get?_push_of_some _ e)))
theorem aE.keepAll(R:aE G x σ as h)(k:∀b o,h.get? b=some o→h'.get? b=some o):aE G x σ as h':=by
 obtain⟨⟨m,F,Vr⟩,own,sep,len,obj,low⟩:=R
 refine⟨⟨m,⟨F.ns.keeps k,fun b o e=>k _ _ (F.keep b o e),F.above⟩,Vr⟩,own,sep,len,fun i o p e1 e2=>?_,low⟩
 refine bC (obj i o p e1 e2) fun o1 o2 a b c=>?_
 exact⟨o1,o2,k _ _ a,k _ _ b,c⟩
theorem aE.ext(R:aE G x σ as h)(he:Heap.ExtBut h.objs.size h h'):aE G x σ as h':=
 R.keepAll fun b o e=>he b o (ne_of_lt (Heap.lt_size e)) e
theorem tT(ok:x.Ok G){v:V}{u:Value}{l:List V}(hv:VR as v u)(hi:d8 v σ.hp=some l):ah G x as σ (unpackItems u l.length none) (fun as=>aj (VR as)) (.ok l σ):=by
 refine onR_i (M:=fun v=>VR as v u→ah G x as σ (unpackItems u l.length none) (fun as=>aj (VR as)) (.ok l σ)) hi (fun i hi hv=>?_) hv
 refine ak hv fun p hp q92=>?_;obtain rfl:=q92
 refine(bind_eq_some_iff.mp hi).elim fun o q=>.of_any fun s Q E hr k=>(Co q.2).elim (fun e=>?_) fun e=>?_
 ·refine ak (hr.tupOf (q.1.trans (congrArg some e)) hp) fun vs a2 a3=>?_
  rw[show l.length=vs.toArray.size by rw[a3.length];rfl]
  exact unpackItems_tuple ok.hh a2 fun h' he=>k _ as h' s.toks (prefix_refl _) (hr.ext he) a3
 ·refine ak (hr.listIn (q.1.trans (congrArg some e)) hp) fun vs a2 a3=>?_
  rw[show l.length=vs.toArray.size by rw[a3.length];rfl]
  exact ju ok.hh a2 fun h' he=>k _ as h' s.toks (prefix_refl _) (hr.ext he) a3
noncomputable def nU(t:Expr):Option Str:=bif tg t==1 then some (ey t) else none
structure tU(c:Cx)(x:Fx)(is:List Nat)(ts:List Expr)(ys:List Str):Prop where
 at_:aj (fun i y=>x.names[i]? =some y∧x.cs.names.lookup y=some .local) is ys
 len:(assignEach ts x.env).length=is.length
 plain:(assignEach ts x.env).findIdx? (·.1)=none
 are:ts.map nU=ys.map some
theorem ie{c:Cx}(co:kq G c x):∀(is:List Nat) (ts:List Expr),d9 c is ts=true→∃ys:List Str,tU c x is ts ys
 | [],ts,h=>nil_i h ⟨[],.nil,rfl,rfl,rfl⟩
 |i::is,[],h=>nomatch h
 |i::is,e::ts,h=>cN h fun h h2=>onName_i h fun y p h=>cN h fun h1 h3=>(ie co is ts h2).elim fun ys n=>
  ⟨y::ys,.cons ⟨co.names ▸ beq_iff_eq.mp h3,co.kinds ▸ beq_iff_eq.mp h1⟩ n.at_,congrArg (·+1) n.len,by
   show List.findIdx? _ ((false,assign (.Name y p) x.env)::assignEach ts x.env)=none
   rw[List.findIdx?_cons];simp[n.plain],congrArg (some y::·) n.are⟩
theorem gX{α β:Type}{g:α→Option β}:∀{l:List α},(l.filterMap g).length=l.length→l.map g=(l.filterMap g).map some
 | [],_=>rfl
 |a::l,h=>by
  cases q:g a with
  |none=>
   rw[List.filterMap_cons_none q] at h
   have:=List.length_filterMap_le g l
   simp at h;lia
  |some b=>
   rw[List.filterMap_cons_some q] at h⊢
   simp only[map_cons,q]
   rw[gX (by simpa using h)]
theorem iH{α:Type}:∀{l m:List α},l.map some=m.map some→l=m
 | [],[],_=>rfl
 | [],_::_,h=>by cases h
 |_::_,[],h=>by cases h
 |a::l,b::m,h=>by
  simp only[map_cons,List.cons.injEq,Option.some.injEq] at h
  rw[h.1,iH h.2]
noncomputable def Cp(ts:List Expr)(k:Nat)(tp:Pos)(env:Env)(v:Expr):Prop:=swappedStores [.Tuple ts k tp] v env=pure none
theorem Cq{ts:List Expr}{k:Nat}{tp:Pos}{env:Env}{v:Expr}(h:(tg v==11)=false):Cp ts k tp env v:=by
 cases v<;>first|exact rfl|exact Bool.noConfusion h
theorem rP{α:Type}{c1 c2 c3 c4 c5 rev:Bool}{n u s:α}(h:kL c1 c2 c3 c4 c5 (some false) none (some true)=some rev):kL c1 c2 c3 c4 c5 n u s=(if rev=true then s else n)∧(rev=true→c3=false):=by
 cases c1
 ·cases c2
  ·cases c3
   ·cases c4
    ·cases c5
     ·cases h;exact⟨rfl,fun z=>rfl⟩
     ·cases h
    ·cases h;exact⟨rfl,nofun⟩
   ·cases h;exact⟨rfl,nofun⟩
  ·cases h;exact⟨rfl,nofun⟩
 ·cases h;exact⟨rfl,nofun⟩
theorem pz{ks:List (Str×NameKind)}{n:Nat}{z:Str}{e:Expr}(h:mR ks n e=some z):nU e=some z:=by
 cases e<;>first|exact bt h|skip
 rename_i y p
 have h:(if ks.lookup y==some .local&&p.line==n then some y else none)=some z:=h
 by_cases c:(ks.lookup y==some .local&&p.line==n)=true
 ·exact(if_pos c).symm.trans h
 ·exact bt ((if_neg c).symm.trans h)
set_option tactic.hygienic false
theorem rQ{ks:List (Str×NameKind)}{ts:List Expr}{ys:List Str}(hl:(bN ks ts).length=ts.length)(hy:ts.map nU=ys.map some):bN ks ts=ys:=by
 have ha:=gX hl
 refine iH ((ha.symm.trans (List.map_congr_left fun t ht=>?_)).trans hy)
 exact(mem_map.mp (ha ▸ List.mem_map_of_mem ht)).elim fun z hz=>hz.2.symm.trans (pz hz.2.symm).symm
theorem zQ{c:Cx}(co:kq G c x){ts:List Expr}{v:Expr}{rev:Bool}{k:Nat}{tp:Pos}{ys:List Str}(h:rO c ts v=some rev)(hy:ts.map nU=ys.map some):
  swappedStores [.Tuple ts k tp] v x.env=pure (if rev then some ys else none):=by
 unfold rO at h
 cases hv:tg v==11 with
 |false=>
  rw[hv] at h
  cases h
  exact Cq hv
 |true=>
  rw[hv] at h
  have q:v=.Tuple (el v) (en v) v.pos:=(beq_iff_eq.mp hv ▸ re v:(rE v).getD 11 True)
  have hb:x.env.blockKind=.function:=by
   unfold Env.blockKind
   show(if x.cs.kind.isAnnotationScope then _ else x.cs.kind)=_
   rw[co.ok.hk];rfl
  have e:∀(vs:List Expr) k2 vp,swappedStores [.Tuple ts k tp] (.Tuple vs k2 vp) x.env=kL (!(ts.length==2||ts.length==3)||vs.length != ts.length||x.env.blockKind != .function) (vs.any px)
   ((bN x.cs.names ts).length != ts.length||(bN x.cs.names ts).eraseDups.length != (bN x.cs.names ts).length) (vs.all (foldedForSure 8)) (vs.all (constantsAlone 8)) (pure none)
   (unsupported "assign.tuple-of-constant-expressions:order-of-the-stores">>=fun z=>pure (some (bN x.cs.names ts))) (pure (some (bN x.cs.names ts))):=fun z z z=>rfl
  rw[co.kinds] at h
  have S:=fun(n u s:Sem (Option (List Str)))=>rP (n:=n) (u:=u) (s:=s) h
  refine(congrArg (fun v=>swappedStores [.Tuple ts k tp] v x.env) q).trans ((e _ _ _).trans ?_)
  rw[hb]
  simp only[bne_self_eq_false,Bool.or_false]
  refine(S _ _ _).1.trans ?_
  cases rev with
  |false=>rfl
  |true=>
   rw[rQ (beq_iff_eq.mp (Bool.not_eq_false' .. ▸ (or_eq_false_iff.mp ((S (pure none) (pure none) (pure none)).2 rfl)).1)) hy];rfl
end
theorem ee(f:Array Value→Array Value)(its:Array Value)(n:Nat):∃n',Obj.mapSeq f (W.listOf its n)=W.listOf (f its) n':=by
 unfold Obj.mapSeq
 exact⟨_,rfl⟩
section
variable {prog:Program}{w:World}{A:Around}{E:Value→Shared→Prop}{s:Shared}
theorem rR{l:Addr}{items:Array Value}{n0:Nat}{k:Int}{t:Tok}{v:Value}{Q:Unit→Shared→Prop}(ho:s.heap.get? l=some (W.listOf items n0))
  (h0:0≤k) (hfit:k < 2 ^ 63) (hn:k < items.size)
  (hQ:∀h' n',h'.get? l=some (W.listOf (items.setIfInBounds k.toNat v) n')→Heap.SameBut l s.heap h'→Q () { s with heap:=h' }):
  wpAny (model prog w) A (setItem (.ref l) (.int k t) v) Q E s:=by
 have hl:s.heap.IsList l items:=⟨_,ho,rfl,⟨_,rfl⟩⟩
 unfold setItem
 try with_reducible refine wpAny_holding ?_
 first|refine wpAny_bind (wpAny_pure ?_)|skip
 refine wpAny_bind (wpAny_sequenceKey hl.typeIs (by decide) ?_)
 refine wpAny_bind (wpAny_callSpecial?_slot (name:=Str.ofString "__setitem__") hl.typeIs slot_list_setitem
  (wpAny_call_entry slot_list_setitem hl.typeIs entry_list_setitem ?_ (args_list_setitem _ _ _)))
 show wpAny _ _ (Builtin.List.listSubscript? (.int k t)>>=_) _ _ s
 refine wpAny_bind (wpAny_listSubscript_int (fitsIndex_of h0 hfit) ?_)
 clear hfit
 obtain⟨j,rfl⟩:=Int.eq_ofNat_of_zero_le h0
 have hj:j < items.size:=by lia
 have hx':items[j]? =some items[j]:=Array.getElem?_eq_getElem hj
 show wpAny _ _ ((seqItemAt l j>>=fun r=>pure (r.map (j,·)))>>=_) _ _ s
 refine wpAny_bind (wpAny_bind (wpAny_seqItemAt ho rfl (wpAny_pure ?_)))
 rw[hx']
 show wpAny _ _ (setSeqItemAt l j v>>=_) _ _ s
 obtain⟨n',hd'⟩:=ee (·.setIfInBounds j v) items n0
 have hfin:(s.heap.update l (Obj.mapSeq (·.setIfInBounds j v))).get? l=some (W.listOf (items.setIfInBounds j v) n'):=by
  rw[Heap.get?_update_self _ ho (by rw[hd'];rfl),hd']
 refine wpAny_bind (wpAny_setSeqItemAt ho rfl ?_)
 first
  |exact wpAny_bind (wpAny_pure (wpAny_pure ⟨.none,rfl,wpAny_pure (hQ _ n' hfin (Heap.SameBut.update ..))⟩))
  |exact wpAny_pure ⟨.none,rfl,wpAny_pure (hQ _ n' hfin (Heap.SameBut.update ..))⟩
end
section
variable {G:bB}{x:Fx}{as as':As}{σ σ':St}{h h':Heap}
theorem aE.turnAt(R:aE G x σ as h){i:Nat}{p:Addr×Addr}{o:O}(hp:as[i]? =some p)(h2:p.1=p.2∨∃o2,h'.get? p.2=some o2∧h.get? p.2=some o2)(hs:Heap.ExtBut p.1 h h')
  (hn:∃o1,h'.get? p.1=some o1∧∀o2,h'.get? p.2=some o2→OK G as o p.2 o1 o2):aE G x ⟨σ.vars,σ.hp.set i o⟩ as h':=by
 have ow:=R.own p (mem_of_getElem? hp)
 refine ak R.fr fun m F Vr=>?_
 refine ak hn fun o1 e1 k=>?_
 have e2:∃o2,h'.get? p.2=some o2:=h2.elim (fun q=>⟨o1,q ▸ e1⟩) fun⟨o2,a,_⟩=>⟨o2,a⟩
 obtain⟨o2,e2⟩:=e2
 refine R.turnN hp Vr ⟨F.ns.extBut hs (Ne.symm ow.1.1),fun b o e=>hs b o (fun q=>?_) (F.keep b o e),F.above⟩ (fun j q hij e3=>?_) ⟨o1,o2,e1,e2,k o2 e2⟩
 ·rw[q,ow.1.2] at e;cases e
 ·have z:=R.sep j i q p hij e3 hp
  exact⟨fun o e=>hs _ _ z.1 e,fun o e=>hs _ _ z.2.2.1 e⟩
theorem aE.same(R:aE G x σ as h){i:Nat}{o:O}(e:σ.hp[i]? =some o){p:Addr×Addr}(hp:as[i]? =some p):∃o1 o2,h.get? p.1=some o1∧h.get? p.2=some o2:=by
 refine bC (R.obj i o p e hp) fun o1 o2 a b z=>?_
 exact⟨o1,o2,a,b⟩
theorem iI{i:Nat}{p:Addr×Addr}{o:O}(R:aE G x σ as h)(e:σ.hp[i]? =some o)(hp:as[i]? =some p)(hs:Heap.ExtBut p.1 h h'):p.1=p.2∨∃o2,h'.get? p.2=some o2∧h.get? p.2=some o2:=by
 by_cases q:p.1=p.2
 ·exact .inl q
 ·refine dc (R.same e hp) fun o1 o2 a b=>?_
  exact .inr ⟨o2,hs _ _ (Ne.symm q) b,b⟩
theorem aE.turnL(R:aE G x σ as h){i:Nat}{p:Addr×Addr}{l l':List V}(hi:σ.hp[i]? =some (.list l))(hp:as[i]? =some p)(hs:Heap.SameBut p.1 h h'){vs:List Value}{n:Nat}
  (hg:h'.get? p.1=some (W.listOf vs.toArray n)) (hv:aj (VR as) l' vs):aE G x ⟨σ.vars,σ.hp.set i (.list l')⟩ as h':=
 R.turnAt hp (iI R hi hp hs.extBut) hs.extBut ⟨_,hg,fun z z=>⟨vs,n,rfl,hv⟩⟩
theorem Cr(ok:x.Ok G){i:Nat}{p:Addr×Addr}{l:List V}{k:Int}{v:V}{u:Value}{t:Tok}(hi:σ.hp[i]? =some (.list l))(hp:as[i]? =some p)(hv:VR as v u)(h0:0≤k)(hk:k < l.length)(hl:l.length≤1000000):
  ah G x as σ (setItem (.ref p.1) (.int k t) u) (fun _ (_:Unit) (_:Unit)=>True) (.ok () ⟨σ.vars,σ.hp.set i (.list (l.set k.toNat v))⟩):=by
 refine .of_any fun s Q E hr kk=>?_
 refine fh (hr.listAt hi) fun p' vs n a1 a2 a3=>?_
 rw[hp] at a1;cases a1
 have l1:=a3.length
 refine rR a2 h0 (by lia) (by simp;lia) fun h' n' hg hs=>?_
 exact kk _ as h' s.toks (prefix_refl _) (hr.turnL hi hp hs (vs:=vs.set k.toNat u) (n:=n') (by rw[hg];simp) (a3.set hv _)) trivial
theorem vr(ok:x.Ok G){v i w:V}{u k z:Value}(hv:VR as v u)(hi:VR as i k)(hw:VR as w z):ah G x as σ (setItem u k z) (fun _ (_:Unit) (_:Unit)=>True) (cU v i w σ):=.vR fun a e=>.vI fun kk e2=>by
 subst e e2
 refine ak hv fun p hp q92=>?_;obtain rfl:=q92
 obtain⟨tk,rfl⟩:=hi
 exact .oL fun l hl=>.ifS fun q=>Cr ok hl hp hw q.1 q.2.1 q.2.2
theorem mS{op:Operator}{a b r:V}{va vb:Value}(h:eR op a b=some r)(ha:VR as a va)(hb:VR as b vb):ah G x as σ (inplaceOp op va vb) VR (.ok r σ):=by
 revert ha hb
 cases op with
 |Add=>
  refine onI_i (v:=a) h fun i h=>onI_i (v:=b) h fun j h=>some_i h ?_
  intro⟨t,ht⟩ ⟨u,hu⟩
  subst ht hu
  exact .of_wp fun s Q E hr k=>AutoIntOps.iadd_0 (k _ _ ⟨_,rfl⟩)
 |_=>cases h
end
section
variable {G:bB}{x:Fx}{c:Cx}{t:Tb}{lv:Nat}
theorem pA{as:As}{σ:St}(to:fU G t lv)(ok:x.Ok G){v w:V}{u z:Value}{n:Nat}{y:Str}(hr:VR as v u)(hw:VR as w z)(hy:G.atts[n]? =some y):ah G x as σ (setAttr u y z) (fun _ (_:Unit) (_:Unit)=>True) (aY t v n w σ):=.vR fun i e=>by
 subst e
 refine ak hr fun p hp q92=>?_;obtain rfl:=q92
 exact .oI fun C fs hi=>.ifS fun q=>vi ok to.nd (nO to q.1 hy).1 (nO to q.1 hy).2 hy hi hp hw q.2
theorem bU{M:Model}{A:Around}{env:Env}{E:Value→Shared→Prop}{α:Type}{m:Sem α}{Q:α→Shared→Prop}{s:Shared}(h:aJ M A m Q (fun z z=>False) s):aJ M A m Q (notedBy M A env E) s:=
 av h (fun z z q=>q) fun z z q=>q.elim
theorem bD{M:Model}{A:Around}{env:Env}{E:Value→Shared→Prop}{α:Type}{m:Sem α}{Q:α→Shared→Prop}{s:Shared}(h:aJ M A m Q (notedBy M A env E) s):aJ M A (m.onRaise fun x=>do noteFrame x env;theTreesLotGoes x) Q E s:=
 bE (av h (fun z z q=>q) fun z z hx=>aB (wpAny_bind (wpAny_mono hx (fun z z e=>wpAny_theTreesLotGoes e) fun z z e=>e)))
noncomputable def iJ(G:bB)(x:Fx)(as:As)(σ:St)(c:Code):af Fl→Prop
 | .ok fl σ'=>∀s (RR:Result→Shared→Prop),aE G x σ as s.heap→(∀a as' h' tk',as <+: as'→aE G x σ' as' h'→eG as' fl a→RR (.ok a) { s with heap:=h',toks:=tk' })→bf (model G.prog G.w) x.A c RR s
 | .exc H=>∀s (RR:Result→Shared→Prop) E,aE G x σ as s.heap→(∀e s',E e s'→notedBy (model G.prog G.w) x.A x.env (fun e s'=>RR (.error e) s') e s')→(∀e s',E e s'→notedBy (model G.prog G.w) x.A x.env (cameBackBy (model G.prog G.w) x.A x.env E) e s')→(∀e as' h' tk',as <+: as'→Ej G x H as' e h'→E e { s with heap:=h',toks:=tk' })→bf (model G.prog G.w) x.A c RR s
 | .stuck=>True
theorem lx{as:As}{σ:St}{c:Code}{r:af Fl}(hc:bQ c=true)(h:iJ G x as σ c r):ah G x as σ (runOwn c x.env) eG r:=by
 cases r with
 |stuck=>trivial
 |ok fl σ'=>
  intro s Q E R hq
  unfold runOwn
  exact bE (kH (h s _ R hq) hc)
 |exc H=>
  intro s Q E R hp hq
  unfold runOwn
  refine bE (kH (hW (h s (fun r s'=>match r with | .ok f=>Q f s'| .error e=>cameBackBy (model G.prog G.w) x.A x.env E e s') E R hp hp hq) fun r s' hr=>?_) hc)
  cases r with
  |ok f=>exact hr
  |error e=>exact aB hr
set_option tactic.hygienic true in
theorem rS{test:Expr}{body:List Stmt}{cond:St→af V}{bd:St→af Fl}(hc:∀as σ,ah G x as σ (isTrue test x.env (eval test x.env)) (fun _=>Eq) ((cond σ).bind fun v σ=>ofOpt σ (d5 v)))
  (hb:∀as σ,ah G x as σ (execs body x.env) eG (bd σ)):∀n as σ,iJ G x as σ (.whileLoop test body [] x.env) (lu cond bd n σ):=by
 intro n
 induction n with
 |zero=>intro as σ;trivial
 |succ n ih=>
  intro as σ
  have C:=hc as σ
  show iJ _ _ _ _ _ ((cond σ).bind _)
  cases q:cond σ with
  |stuck=>trivial
  |exc H=>
   rw[q] at C
   intro s RR E R h1 h2 h3
   refine am ?_
   show aJ _ x.A ((whileTurn test body [] x.env).onRaise (fun y=>do noteFrame y x.env;theTreesLotGoes y)) _ _ s
   refine bD ?_
   simp only[whileTurn]
   refine ae (av (C s _ E R h2 h3) (fun _ _ z=>z) h1)
  |ok v σ1=>
   rw[q] at C
   dsimp only[af.bind]
   cases v<;>try trivial
   rename_i bb
   cases bb with
   |false=>
    intro s RR R k
    refine am ?_
    show aJ _ x.A ((whileTurn test body [] x.env).onRaise (fun y=>do noteFrame y x.env;theTreesLotGoes y)) _ _ s
    refine bD (bU ?_)
    simp only[whileTurn]
    refine ae (C s _ _ R fun a as' h' tk' ha R' e=>?_)
    subst e
    exact ae (au (au (k _ as' h' tk' ha R' rfl)))
   |true=>
    have B:=fun as'=>hb as' σ1
    cases qb:bd σ1 with
    |stuck=>trivial
    |exc H=>
     rw[qb] at B
     intro s RR E R h1 h2 h3
     refine am ?_
     show aJ _ x.A ((whileTurn test body [] x.env).onRaise (fun y=>do noteFrame y x.env;theTreesLotGoes y)) _ _ s
     refine bD ?_
     simp only[whileTurn]
     refine ae (av (E:=fun _ _=>False) (C s _ _ R fun a as' h' tk' ha R' e=>?_) (fun _ _ z=>z) fun _ _ z=>z.elim)
     subst e
     exact ae (av (B as' { s with heap:=h',toks:=tk' } _ E R' h2 fun e as2 h2' tk2 ha2=>h3 e as2 h2' tk2 (ha.trans ha2)) (fun _ _ z=>z) h1)
    |ok fl σ2=>
     rw[qb] at B
     dsimp only[af.bind]
     have step:∀s (QQ:Fin→Shared→Prop) (EE:Value→Shared→Prop),aE G x σ as s.heap→(∀a as' h' tk',as <+: as'→aE G x σ2 as' h'→eG as' fl a→aJ (model G.prog G.w) x.A (match a with
       | .next| .cont=>PySem.again (.whileLoop test body [] x.env)
       | .brk=>Pure.pure (.done .next)
       | .ret v=>Pure.pure (.done (.ret v))) QQ EE { s with heap:=h',toks:=tk' })→aJ (model G.prog G.w) x.A (whileTurn test body [] x.env) QQ EE s:=by
      intro s QQ EE R k
      simp only[whileTurn]
      refine ae (C s _ _ R fun a as' h' tk' ha R' e=>?_)
      subst e
      exact ae (B as' { s with heap:=h',toks:=tk' } _ _ R' fun a as2 h2 tk2 ha2 R2 ra=>k a as2 h2 tk2 (ha.trans ha2) R2 ra)
     cases fl with
     |brk=>
      intro s RR R k
      refine am ?_
      show aJ _ x.A ((whileTurn test body [] x.env).onRaise (fun y=>do noteFrame y x.env;theTreesLotGoes y)) _ _ s
      refine bD (bU (step s _ _ R fun a as' h' tk' ha R' ra=>?_))
      obtain rfl:=ra
      exact au (k _ as' h' tk' ha R' rfl)
     |ret u=>
      intro s RR R k
      refine am ?_
      show aJ _ x.A ((whileTurn test body [] x.env).onRaise (fun y=>do noteFrame y x.env;theTreesLotGoes y)) _ _ s
      refine bD (bU (step s _ _ R fun a as' h' tk' ha R' ra=>?_))
      refine ak ra fun w q91 hw=>?_;obtain rfl:=q91
      exact au (k _ as' h' tk' ha R' ⟨w,rfl,hw⟩)
     |next=>
      have I:=fun as'=>ih as' σ2
      dsimp only
      cases qn:lu cond bd n σ2 with
      |stuck=>trivial
      |ok fl3 σ3=>
       rw[qn] at I
       intro s RR R k
       refine am ?_
       show aJ _ x.A ((whileTurn test body [] x.env).onRaise (fun y=>do noteFrame y x.env;theTreesLotGoes y)) _ _ s
       refine bD (bU (step s _ _ R fun a as' h' tk' ha R' ra=>?_))
       obtain rfl:=ra
       exact au ⟨rfl,rfl,I as' { s with heap:=h',toks:=tk' } RR R' fun a as2 h2 tk2 ha2 R2 ra2=>k a as2 h2 tk2 (ha.trans ha2) R2 ra2⟩
      |exc H=>
       rw[qn] at I
       intro s RR E R h1 h2 h3
       refine am ?_
       show aJ _ x.A ((whileTurn test body [] x.env).onRaise (fun y=>do noteFrame y x.env;theTreesLotGoes y)) _ _ s
       refine bD (bU (step s _ _ R fun a as' h' tk' ha R' ra=>?_))
       obtain rfl:=ra
       exact au ⟨rfl,rfl,I as' { s with heap:=h',toks:=tk' } RR E R' h1 h2 fun e as2 h2' tk2 ha2=>h3 e as2 h2' tk2 (ha.trans ha2)⟩
end
section
variable {prog:Program}{w:World}{A:Around}{E:Value→Shared→Prop}{s:Shared}
theorem vt{b:Array UInt8}{t:Tok}{it:Addr}{i:Nat}{Q:Option Value→Shared→Prop}(hh:A.handled=none)(hit:KBw.IsBytesIter s.heap it b t i)(hx:b[i]? =none)
  (hQ:∀h',Heap.ExtBut it s.heap h'→(∃o,h'.get? it=some o)→Q none { s with heap:=h' }):wpAny (model prog w) A (pyNext (.ref it)) Q E s:=by
 refine eP (id hit) fun o ho hc hd=>?_
 unfold pyNext
 refine wpAny_bind (wpAny_attempt (wpAny_callSpecial?_slot (name:=PySem.Str.ofString "__next__") (KBw.iter_typeIs hit) KBw.slot_next
  (wpAny_call_entry KBw.slot_next (KBw.iter_typeIs hit) KBw.entry_next ?_ (KBw.args_next _))))
 show wpAny _ _ (field (.ref it) 0>>=_) _ _ s
 refine wpAny_bind (wpAny_field ho hd (x:=.bytes b t) rfl ?_)
 show wpAny _ _ (if(Value.bytes b t==Value.none)=true then _ else _) _ _ s
 rw[if_neg (show¬((Value.bytes b t==Value.none)=true) from Bool.false_ne_true)]
 show wpAny _ _ (field (.ref it) 1>>=_) _ _ s
 refine wpAny_bind (wpAny_field ho hd (x:=.int i 0) rfl ?_)
 refine wpAny_bind (wpAny_of_eq (a:=b) rfl ?_)
 simp only[toNat_natCast,hx]
 refine wpAny_bind (wpAny_rule (wpAny_bind (wpAny_setField ho hd (by simp) ?_)))
 show wpAny _ _ (newExc (.type "StopIteration") []>>=_) _ _ _
 refine wpAny_bind ?_
 simp only[newExc,newTuple]
 refine wpAny_bind (wpAny_newObj_type ?_ (by size_fits))
 refine wpAny_bind (m:=firstArgMember _ _) (wpAny_of_eq (a:=Value.none) (by first|rfl|(simp only[firstArgMember];rfl)) ?_)
 refine wpAny_newObj_type ?_ (by size_fits)
 simp only[raiseNew]
 refine wpAny_bind (wpAny_handled ?_)
 rw[show A.in1.handled=none from hh]
 refine wpAny_bind (wpAny_pure (wpAny_throw ?_))
 refine wpAny_bind (wpAny_isInstance (T:="StopIteration") (b:=true) ⟨_,Heap.get?_push_size _ rfl,rfl⟩ isSubtype_stop ?_)
 refine wpAny_pure (hQ _ (((Heap.SameBut.update ..).extBut.push _).push _) ⟨_,Heap.get?_push_of_some _ (Heap.get?_push_of_some _ (Heap.get?_update_self _ ho ?_))⟩)
 exact Obj.isFreed_of_fields (Obj.data_mapFields hd _)
theorem vu{it l:Addr}{i:Nat}{items}{Q:Option Value→Shared→Prop}(hh:A.handled=none)
  (hit:s.heap.IsListIter it l i) (hl:s.heap.IsList l items) (hx:items[i]? =none)
  (hQ:∀h',Heap.ExtBut it s.heap h'→(∃o,h'.get? it=some o)→Q none { s with heap:=h' }):wpAny (model prog w) A (pyNext (.ref it)) Q E s:=by
 refine eP (id hit) fun o ho hc hd=>?_
 obtain⟨ol,hol,_,nl,hdl⟩:=hl
 unfold pyNext
 refine wpAny_bind (wpAny_attempt (wpAny_callSpecial?_slot (name:=PySem.Str.ofString "__next__") hit.typeIs slot_listiter_next
  (wpAny_call_entry slot_listiter_next hit.typeIs entry_listiter_next ?_ (args_listiter_next _))))
 show wpAny _ _ (field (.ref it) 0>>=_) _ _ s
 refine wpAny_bind (wpAny_field ho hd (x:=.ref l) rfl ?_)
 show wpAny _ _ (if(Value.ref l==Value.none)=true then _ else _) _ _ s
 rw[if_neg (show¬((Value.ref l==Value.none)=true) from Bool.false_ne_true)]
 show wpAny _ _ (field (.ref it) 1>>=_) _ _ s
 refine wpAny_bind (wpAny_field ho hd (x:=.int i 0) rfl ?_)
 show wpAny _ _ (seqItems? (.ref l)>>=_) _ _ s
 refine wpAny_bind (wpAny_seqItems hol hdl ?_)
 simp only[toNat_natCast,hx]
 refine wpAny_bind (wpAny_rule (wpAny_bind (wpAny_setField ho hd (by simp) ?_)))
 show wpAny _ _ (newExc (.type "StopIteration") []>>=_) _ _ _
 refine wpAny_bind ?_
 simp only[newExc,newTuple]
 refine wpAny_bind (wpAny_newObj_type ?_ (by size_fits))
 refine wpAny_bind (m:=firstArgMember _ _) (wpAny_of_eq (a:=Value.none) (by first|rfl|(simp only[firstArgMember];rfl)) ?_)
 refine wpAny_newObj_type ?_ (by size_fits)
 simp only[raiseNew]
 refine wpAny_bind (wpAny_handled ?_)
 rw[show A.in1.handled=none from hh]
 refine wpAny_bind (wpAny_pure (wpAny_throw ?_))
 refine wpAny_bind (wpAny_isInstance (T:="StopIteration") (b:=true) ⟨_,Heap.get?_push_size _ rfl,rfl⟩ isSubtype_stop ?_)
 refine wpAny_pure (hQ _ (((Heap.SameBut.update ..).extBut.push _).push _) ⟨_,Heap.get?_push_of_some _ (Heap.get?_push_of_some _ (Heap.get?_update_self _ ho ?_))⟩)
 exact Obj.isFreed_of_fields (Obj.data_mapFields hd _)
end
section
variable {G:bB}{x:Fx}{as as':As}{σ σ':St}{h h':Heap}
theorem aE.biter(R:aE G x σ as h){i:Nat}{b:Bs}{k:Nat}(e:σ.hp[i]? =some (.biter b k)):∃p t,as[i]? =some p∧KBw.IsBytesIter h p.1 b.toArray t k:=by
 obtain⟨p,o1,o2,a,b1,c,d1,t,d2⟩:=R.get e
 exact⟨p,t,a,o1,b1,d1,d2⟩
theorem aE.liter(R:aE G x σ as h){i a k:Nat}(e:σ.hp[i]? =some (.liter a k)):∃p q,as[i]? =some p∧as[a]? =some q∧h.IsListIter p.1 q.1 k:=by
 obtain⟨p,o1,o2,a1,b1,c,d1,q,d2,d3⟩:=R.get e
 exact⟨p,q,a1,d2,o1,b1,d1,d3⟩
theorem drop_nil{α:Type}{b:List α}{k:Nat}(h:[]=b.drop k):(b.toArray)[k]? =none:=by
 rw[getElem?_toArray,List.getElem?_eq_none_iff]
 exact List.drop_eq_nil_iff.mp h.symm
theorem tV{α:Type}{b r:List α}{c:α}{k:Nat}(h:c::r=b.drop k):(b.toArray)[k]? =some c:=by
 rw[getElem?_toArray]
 exact(List.getElem?_drop (xs:=b) (i:=k) (j:=0)).symm.trans (congrArg (·[0]?) h.symm)
theorem tW{α:Type}{b r:List α}{c:α}{k:Nat}(h:c::r=b.drop k):r=b.drop (k+1):=(congrArg List.tail h).trans List.tail_drop
theorem tX:∀{l m:List V},m.length=l.length→(m.zip l).all (fun p=>wM p.1 p.2)=true→m=l
 | [],[],_,_=>rfl
 | [],_::_,h,_=>by cases h
 |_::_,[],h,_=>by cases h
 |a::l,b::m,h,q=>by
  simp only[zip_cons_cons,all_cons,and_eq_true] at q
  rw[rB q.1,tX (by simpa using h) q.2]
theorem aE.biterAt(R:aE G x σ as h){i:Nat}{b:Bs}{k:Nat}{p:Addr×Addr}(e:σ.hp[i]? =some (.biter b k))(hp:as[i]? =some p):∃t,KBw.IsBytesIter h p.1 b.toArray t k:=
 (R.biter e).elim fun q z=>z.elim fun t z=>⟨t,fm (M:=fun p=>KBw.IsBytesIter h p.1 b.toArray t k) hp z.1 z.2⟩
theorem aE.literAt(R:aE G x σ as h){i a k:Nat}{p:Addr×Addr}(e:σ.hp[i]? =some (.liter a k))(hp:as[i]? =some p):∃q,as[a]? =some q∧h.IsListIter p.1 q.1 k:=
 (R.liter e).elim fun p' z=>z.elim fun q z=>⟨q,z.2.1,fm (M:=fun p=>h.IsListIter p.1 q.1 k) hp z.1 z.2.2⟩
set_option tactic.hygienic true in
theorem xd{γ:Type}{H:Hp}{n k:Nat}{b:Bs}{X:af γ}{M:af γ→Prop}(s:M .stuck)(f:H[n]? =some (.biter b k)→M X):M (vo H n b k X):=by
 unfold vo
 cases e:H[n]? with
 |none=>exact s
 |some o=>
  cases o<;>first|exact s|skip
  rename_i c j
  show M (if c=b∧j=k then X else .stuck)
  by_cases q:c=b∧j=k
  ·rw[if_pos q];exact f (by rw[e,q.1,q.2])
  ·rw[if_neg q];exact s
theorem tY{γ:Type}{H:Hp}{n k:Nat}{b:Bs}{X:af γ}(h:H[n]? =some (.biter b k)):vo H n b k X=X:=by
 unfold vo
 rw[h]
 exact if_pos ⟨rfl,rfl⟩
set_option tactic.hygienic true in
theorem xe{γ:Type}{H:Hp}{n a k:Nat}{l:List V}{X:af γ}{M:af γ→Prop}(s:M .stuck)(f:H[n]? =some (.liter a k)→H[a]? =some (.list l)→M X):M (vq H n a k l X):=by
 unfold vq
 cases e:H[n]? with
 |none=>exact s
 |some o=>
  cases o<;>first|exact s|skip
  rename_i c j
  show M (if c=a∧j=k then oL H[a]? fun m=>if m.length=l.length∧(m.zip l).all (fun p=>wM p.1 p.2)=true then X else .stuck else .stuck)
  by_cases q:c=a∧j=k
  ·rw[if_pos q]
   cases e2:H[a]? with
   |none=>exact s
   |some o=>
    cases o<;>first|exact s|skip
    rename_i m
    show M (if m.length=l.length∧(m.zip l).all (fun p=>wM p.1 p.2)=true then X else .stuck)
    by_cases z:m.length=l.length∧(m.zip l).all (fun p=>wM p.1 p.2)=true
    ·rw[if_pos z];exact f (by rw[e,q.1,q.2]) (by rw[e2,tX z.1 z.2])
    ·rw[if_neg z];exact s
  ·rw[if_neg q];exact s
theorem tZ{γ:Type}{H:Hp}{n a k:Nat}{l:List V}{X:af γ}(h:H[n]? =some (.liter a k))(h2:H[a]? =some (.list l))(hl:((l.zip l).all fun p=>wM p.1 p.2)=true):vq H n a k l X=X:=by
 unfold vq
 rw[h]
 refine(if_pos ⟨rfl,rfl⟩).trans ?_
 rw[h2]
 exact if_pos ⟨rfl,hl⟩
theorem A7{r:af Fl}{g:St→af Fl}{M:af Fl→Prop}(s:M .stuck)(f:∀σ,r=.ok .next σ→M (g σ)):M (Ev r g):=by
 cases r with
 |ok fl σ=>cases fl<;>first|exact f σ rfl|exact s
 |_=>exact s
theorem xf{r:af Fl}{g:St→af Fl}(h:r=.ok .next σ):Ev r g=g σ:=by rw[h];rfl
theorem zR{γ:Type}{o:Option (List V)}{g:V→V→af γ}{M:af γ→Prop}(s:M .stuck)(f:∀u v,o=some [u,v]→M (g u v)):M (A6 o g):=by
 cases o with
 |none=>exact s
 |some l=>
  cases l with
  |nil=>exact s
  |cons u l=>cases l with
   |nil=>exact s
   |cons v l=>cases l with
    |nil=>exact f u v rfl
    |cons _ _=>exact s
theorem mT{tgt:Expr}{it:Value}{body:List Stmt}{n:Nat}{p:Addr×Addr}{r:af Fl}(hp:as[n]? =some p)
  (step:∀s (QQ:Fin→Shared→Prop) (EE:Value→Shared→Prop),aE G x σ as s.heap→(∀as' h' tk',as <+: as'→aE G x σ' as' h'→QQ (.again (.forLoop tgt it body [] x.env)) { s with heap:=h',toks:=tk' })→aJ (model G.prog G.w) x.A (forTurn tgt it body [] x.env) QQ EE s)
  (I:∀as',as'[n]? =some p→iJ G x as' σ' (.forLoop tgt it body [] x.env) r):iJ G x as σ (.forLoop tgt it body [] x.env) r:=by
 have up:∀{as'},as <+: as'→as'[n]? =some p:=fun ha=>by obtain⟨tl,rfl⟩:=ha;rw[getElem?_append_left (List.getElem?_eq_some_iff.mp hp).1];exact hp
 cases r with
 |stuck=>trivial
 |ok fl τ=>
  intro s RR R kk
  refine am ?_
  show aJ _ x.A ((forTurn tgt it body [] x.env).onRaise (fun y=>do noteFrame y x.env;theTreesLotGoes y)) _ _ s
  exact bD (bU (step s _ _ R fun as' h' tk' ha R'=>⟨rfl,rfl,I as' (up ha) { s with heap:=h',toks:=tk' } RR R' fun a as2 h2 tk2 ha2 R2 ra2=>kk a as2 h2 tk2 (ha.trans ha2) R2 ra2⟩))
 |exc H=>
  intro s RR E R h1 h2 h3
  refine am ?_
  show aJ _ x.A ((forTurn tgt it body [] x.env).onRaise (fun y=>do noteFrame y x.env;theTreesLotGoes y)) _ _ s
  exact bD (bU (step s _ _ R fun as' h' tk' ha R'=>⟨rfl,rfl,I as' (up ha) { s with heap:=h',toks:=tk' } RR E R' h1 h2 fun e as2 h2' tk2 ha2=>h3 e as2 h2' tk2 (ha.trans ha2)⟩))
theorem rT{y:Str}{tp:Pos}{body:List Stmt}{bd:St→af Fl}{n i:Nat}{b:Bs}{p:Addr×Addr}(ok:x.Ok G)(hy:x.names[i]? =some y)(hk:x.cs.names.lookup y=some .local)
  (hb:∀as σ,ah G x as σ (execs body x.env) eG (bd σ)):∀rest k as σ,rest=b.drop k→as[n]? =some p→iJ G x as σ (.forLoop (.Name y tp) (.ref p.1) body [] x.env) (eS n b i bd rest k σ):=by
 intro rest
 induction rest with
 |nil=>
  intro k as σ hr hp
  refine xd (M:=iJ G x as σ _) trivial fun hi=>?_
  intro s RR R kk
  refine am ?_
  show aJ _ x.A ((forTurn (.Name y tp) (.ref p.1) body [] x.env).onRaise (fun y=>do noteFrame y x.env;theTreesLotGoes y)) _ _ s
  refine bD ?_
  simp only[forTurn]
  refine aq (wpAny_standAt (aq (wpAny_onRaise ?_)))
  refine(R.biterAt hi hp).elim fun t hit=>vt ok.hh hit (drop_nil hr) fun h' hs ho=>?_
  dsimp only
  refine au ⟨rfl,rfl,ho.elim fun o1 ho=>?_⟩
  exact kX (codeAny_block (wpAny_execs_nil (kk _ as h' s.toks (prefix_refl _) (R.turnAt (o:=.gone) hp (iI R hi hp hs) hs ⟨o1,ho,fun w w=>trivial⟩) rfl)))
 |cons c rest ih=>
  intro k as σ hr hp
  refine xd (M:=iJ G x as σ _) trivial fun hi=>A7 (M:=iJ G x as σ _) trivial fun σ2 q=>?_
  refine mT hp (fun s QQ EE R kk=>?_) fun as'=>ih (k+1) as' σ2 (tW hr)
  simp only[forTurn]
  refine aq (wpAny_standAt (aq (wpAny_onRaise ?_)))
  refine(R.biterAt hi hp).elim fun t hit=>KBw.next_item hit (tV hr) fun h' hit' hs=>?_
  dsimp only
  refine aq (wpAny_of_eq (a:=()) rfl ?_)
  have hs:=hs.extBut
  have R':=R.turnAt (o:=.biter b (k+1)) hp (iI R hi hp hs) hs (hit'.elim fun o z=>⟨o,z.1,fun w w=>⟨z.2.1,t,z.2.2⟩⟩)
  refine ae (m:=PySem.standAt tp>>=fun w=>bindName x.env y (.int c.toNat s.toks)) (aF (lw (G:=G) (x:=x) (as:=as) (σ:=⟨σ.vars,σ.hp.set n (.biter b (k+1))⟩) (v:=.int c.toNat) (u:=.int c.toNat s.toks) ok hy hk ⟨_,rfl⟩ { s with heap:=h',toks:=s.toks+1 } _ _ R' fun w as1 h1 tk1 ha1 R1 w=>?_))
  exact ae ((q ▸ hb as1 _:ah G x as1 _ _ eG (.ok .next σ2)) { s with heap:=h1,toks:=tk1 } _ _ R1 fun a as2 h2 tk2 ha2 R2 ra=>by obtain rfl:=ra;exact au (kk as2 h2 tk2 (ha1.trans ha2) R2))
end
section
variable {G:bB}{x:Fx}{as as':As}{σ σ':St}{h h':Heap}{c:Cx}{t:Tb}{lv:Nat}
theorem nV{i:Nat}{y:Str}{py:Pos}{v:V}{u:Value}(ok:x.Ok G)(hy:x.names[i]? =some y)(hk:x.cs.names.lookup y=some .local)(hv:VR as v u):
  ah G x as σ (assign (.Name y py) x.env u) (fun _ (_:Unit) (_:Unit)=>True) (.ok () ⟨σ.vars.set i (some v),σ.hp⟩):=by
 show ah G x as σ (PySem.standAt py>>=fun _=>bindName x.env y u) _ _
 exact .standAt (lw ok hy hk hv)
set_option tactic.hygienic true in
theorem iK(ok:x.Ok G)(co:kq G c x):∀(is:List Nat) (ts:List Expr) (h:d9 c is ts=true) {l:List V} {us:List Value} {as:As} {σ:St},aj (VR as) l us→l.length=is.length→
  ah G x as σ (assignInOrder ((assignEach ts x.env).map (·.2)) us) (fun _ (_:Unit) (_:Unit)=>True) (.ok () ⟨fZ σ.vars (is.zip l),σ.hp⟩)
 | [],ts,h,_,_,as,σ,hl,e=>nil_i h (by
  cases hl with
  |nil=>exact .pure trivial
  |cons _ _=>cases e)
 |i::is,[],h,_,_,_,_,_,_=>nomatch h
 |i::is,e::ts,h,_,_,as,σ,hl,e'=>cN h fun h h2=>onName_i h fun y p h=>cN h fun h1 h3=>by
  cases hl with
  |nil=>cases e'
  |cons hv hl=>
   rename_i v u l us
   show ah G x as σ (holding us (assign (.Name y p) x.env u)>>=fun _=>assignInOrder ((assignEach ts x.env).map (·.2)) us) _ _
   exact(nV ok (co.names ▸ beq_iff_eq.mp h3) (co.kinds ▸ beq_iff_eq.mp h1) hv).holding.bind fun a as' ha _=>iK ok co is ts h2 (hl.mono fun _ _ z=>z.mono ha) (Nat.succ.inj e')
theorem gY(ok:x.Ok G)(co:kq G c x){is:List Nat}{ts:List Expr}{k:Nat}{tp:Pos}(h:d9 c is ts=true){v:V}{u:Value}{l:List V}(hv:VR as v u)(hi:d8 v σ.hp=some l)(hl:l.length=is.length):
  ah G x as σ (assign (.Tuple ts k tp) x.env u) (fun _ (_:Unit) (_:Unit)=>True) (.ok () ⟨fZ σ.vars (is.zip l),σ.hp⟩):=by
 obtain⟨ys,n⟩:=ie co _ _ h
 show ah G x as σ (PySem.standAt tp>>=fun z=>unpack u (assignEach ts x.env)) _ _
 refine .standAt ?_
 unfold unpack
 rw[n.len,n.plain,←hl]
 exact(tT ok hv hi).holding.bind fun us as' ha hu=>iK ok co _ _ h hu hl
theorem pB{v:V}{H:Hp}{n:Nat}{o o':O}{l:List V}(h:H[n]? =some o')(hs:nS o'=none)(q:d8 v H=some l):d8 v (H.set n o)=some l:=
 onR_i (M:=fun v=>d8 v (H.set n o)=some l) q fun m q=>by
  have hm:n≠m:=fun e=>bt (hs.symm.trans ((congrArg (Option.bind · nS) (h.symm.trans (congrArg (H[·]?) e))).trans q))
  show Option.bind (H.set n o)[m]? nS=_
  rw[getElem?_set_ne hm];exact q
theorem xg{ts:List Expr}{k0:Nat}{tp:Pos}{it l:Addr}{k:Nat}{cv:Value}{prog:Program}{w:World}{A:Around}{s:Shared}{Q:Unit→Shared→Prop}{E:Value→Shared→Prop}(hit:s.heap.IsListIter it l k)(hQ:Q () s):wpAny (model prog w) A (letOwnedTupleGo (.Tuple ts k0 tp) (.ref it) cv) Q E s:=by
 refine eP hit fun o a1 b1 c1=>?_
 unfold letOwnedTupleGo
 cases cv<;>try exact wpAny_pure hQ
 show wpAny _ _ (load it>>=_) _ _ _
 refine wpAny_bind (wpAny_load a1 ?_)
 rw[b1,c1]
 exact wpAny_pure hQ
theorem rU{ts:List Expr}{k0:Nat}{tp:Pos}{body:List Stmt}{bd:St→af Fl}{n a i j:Nat}{l:List V}{p:Addr×Addr}(ok:x.Ok G)(co:kq G c x)(hn:d9 c [i,j] ts=true)
  (hb:∀as σ,ah G x as σ (execs body x.env) eG (bd σ)):∀rest k as σ,rest=l.drop k→as[n]? =some p→iJ G x as σ (.forLoop (.Tuple ts k0 tp) (.ref p.1) body [] x.env) (eT n a i j l bd rest k σ):=by
 intro rest
 induction rest with
 |nil=>
  intro k as σ hr hp
  refine xe (M:=iJ G x as σ _) trivial fun hi hi2=>?_
  intro s RR R kk
  refine am ?_
  show aJ _ x.A ((forTurn (.Tuple ts k0 tp) (.ref p.1) body [] x.env).onRaise (fun y=>do noteFrame y x.env;theTreesLotGoes y)) _ _ s
  refine bD ?_
  simp only[forTurn]
  refine aq (wpAny_standAt (aq (wpAny_onRaise ?_)))
  refine ak (R.literAt hi hp) fun q hq hit=>ak (R.listIn hi2 hq) fun vs hl hvs=>?_
  refine vu ok.hh hit hl (getElem?_toArray.trans (List.getElem?_eq_none_iff.mpr (hvs.length ▸ List.drop_eq_nil_iff.mp hr.symm))) fun h' hs ho=>?_
  dsimp only
  refine au ⟨rfl,rfl,ho.elim fun o1 ho=>?_⟩
  exact kX (codeAny_block (wpAny_execs_nil (kk _ as h' s.toks (prefix_refl _) (R.turnAt (o:=.gone) hp (iI R hi hp hs) hs ⟨o1,ho,fun w w=>trivial⟩) rfl)))
 |cons c' rest ih=>
  intro k as σ hr hp
  refine xe (M:=iJ G x as σ _) trivial fun hi hi2=>zR (M:=iJ G x as σ _) trivial fun u v huv=>A7 (M:=iJ G x as σ _) trivial fun σ2 q=>?_
  refine mT hp (fun s QQ EE R kk=>?_) fun as'=>ih (k+1) as' σ2 (tW hr)
  simp only[forTurn]
  refine aq (wpAny_standAt (aq (wpAny_onRaise ?_)))
  refine ak (R.literAt hi hp) fun q' hq hit=>ak (R.listIn hi2 hq) fun vs hl hvs=>ak (hvs.get (getElem?_toArray.symm.trans (tV hr))) fun cv hcv hrel=>?_
  refine wpAny_pyNext_list_item hit hl (x:=cv) (getElem?_toArray.trans hcv) fun h' hit' hs=>?_
  dsimp only
  have hs:=hs.extBut
  have R':=R.turnAt (o:=.liter a (k+1)) hp (iI R hi hp hs) hs (hit'.elim fun o z=>⟨o,z.1,fun w w=>⟨z.2.1,q',hq,z.2.2⟩⟩)
  refine aq (xg hit' ?_)
  refine ae (gY (G:=G) (x:=x) (c:=c) (as:=as) (σ:=⟨σ.vars,σ.hp.set n (.liter a (k+1))⟩) (k:=k0) (tp:=tp) ok co hn hrel (pB hi rfl huv) rfl { s with heap:=h' } _ _ R' fun w as1 h1 tk1 ha1 R1 w=>?_)
  exact ae ((q ▸ hb as1 _:ah G x as1 _ _ eG (.ok .next σ2)) { s with heap:=h1,toks:=tk1 } _ _ R1 fun a as2 h2 tk2 ha2 R2 ra=>by obtain rfl:=ra;exact au (kk as2 h2 tk2 (ha1.trans ha2) R2))
end
section
variable {G:bB}{x:Fx}{c:Cx}{t:Tb}{lv:Nat}
theorem kC(ok:x.Ok G):interactive x.env=false:=by
 unfold interactive
 show(x.cs.kind== .module&&_)=false
 rw[ok.hk];rfl
theorem Ex{e:Expr}{p:Pos}{v:V}{u:Value}{as:As}(hv:VR as v u)(h:match v with | .ref _=>False| .sta _=>False|_=>True):dropValue e p u=pure .next:=by
 refine dropValue_plain fun a ha=>?_
 subst ha
 cases v with
 |none=>cases hv
 |bool b=>cases hv
 |int i=>obtain⟨t,e⟩:=hv;cases e
 |bytes i=>obtain⟨t,e⟩:=hv;cases e
 |str i=>obtain⟨t,e⟩:=hv;cases e
 |ref i=>exact h
 |sta i=>exact h
theorem ze(vars:aC):∀(l m:List (Nat×V)),fZ vars (l++m)=fZ (fZ vars l) m:=by
 intro l
 induction l generalizing vars with
 |nil=>intro m;rfl
 |cons p l ih=>intro m;obtain⟨i,v⟩:=p;exact ih _ m
theorem pC{l:List Nat}:∀{m:List V},l.length=m.length→(l.zip m).reverse=l.reverse.zip m.reverse:=by
 induction l with
 |nil=>exact fun z=>rfl
 |cons a l ih=>
  intro m h
  cases m with
  |nil=>cases h
  |cons b m=>
   rw[zip_cons_cons,reverse_cons,reverse_cons,reverse_cons,ih (Nat.succ.inj h),List.zip_append (by rw[length_reverse,length_reverse];exact Nat.succ.inj h)];rfl
noncomputable def nW(G:bB)(lv:Nat):Prop:=∀(x:Fx) (as:As) (σ:St) (y:Str) (np:Pos) (a:Expr) (cp pos:Pos) (r:af V),x.Ok G→lv≤x.lv→dL y=true→x.cs.names.lookup y=some .globalImplicit→ce G y (.sta (.ref G.xc))→ck a=false→
 ah G x as σ (eval a x.env) VR r→ah G x as σ (exec (.Raise (some (.Call (.Name y np) [a] [] cp)) none pos) x.env) eG r.raise
theorem ah.skip'{α α' β:Type}{as:As}{σ:St}{R:As→β→α→Prop}{t0:Sem α'}{u:α'}{f:α'→Sem α}{r:af β}(ht:∀s (Q:α'→Shared→Prop) E,Q u s→wpAny (model G.prog G.w) x.A t0 Q E s)(h:ah G x as σ (f u) R r):ah G x as σ (t0>>=f) R r:=by
 cases r with
 |ok b σ1=>exact fun s Q E hr hq=>aq (ht s _ E (h s Q E hr hq))
 |exc H=>exact fun s Q E hr hp hq=>aq (ht s _ E (h s Q E hr hp hq))
 |stuck=>trivial
noncomputable def rV(G:bB)(c:Cx)(x:Fx)(t:Tb)(N:Nat)(me:S):Prop:=∀(st:Stmt),Ew c me st=true→∀(as:As) (σ:St),ah G x as σ (exec st x.env) eG (ex t N me σ)
noncomputable def zS(G:bB)(c:Cx)(x:Fx)(t:Tb)(N:Nat)(me:Ss):Prop:=∀(l:List Stmt),fP c me l=true→∀(as:As) (σ:St),ah G x as σ (execs l x.env) eG (bj t N me σ)
section
variable (co:kq G c x)(to:fU G t lv)(ro:nW G lv)(hl:lv≤x.lv)(N:Nat)
include co in
theorem rW{i:Nat}{y:Str}(h:(c.names[i]? ==some y)=true):x.names[i]? =some y:=co.names ▸ beq_iff_eq.mp h
include co in
theorem nX{k:NameKind}{y:Str}(h:(c.kinds.lookup y==some k)=true):x.cs.names.lookup y=some k:=co.kinds ▸ beq_iff_eq.mp h
include co in
theorem A8{i:Nat}{y:Str}(h:(c.atts[i]? ==some y)=true):G.atts[i]? =some y:=co.atts ▸ beq_iff_eq.mp h
variable {N}
include co to hl
theorem Cs{e:E}:rV G c x t N (.expr e):=fun st h as σ=>onExpr_i h fun v p h=>rJ h fun h1 h2 h3=>.congr (arm_exec_Expr _ _ _) (.standAt (by
  rw[kC co.ok,bT h1]
  show ah _ _ _ _ (Pure.pure false>>=fun b=>if b=true then _ else(eval v x.env>>=fun u=>dropValue v p u)) _ _
  refine ah.bind (b:=false) (R:=fun z b a=>a=b) (σ':=σ) (.pure rfl) fun b as1 ha e1=>?_
  subst e1
  show ah _ _ _ _ (eval v x.env>>=fun u=>dropValue v p u) _ _
  refine(du co to hl e v h3 as1 σ).bindR (R':=eG) (g:=fun v σ=>match v with
   | .ref _=>.stuck
   | .sta _=>.stuck
   |_=>.ok .next σ) fun u w σ1 as2 z ha2 hr=>?_
  cases w<;>first|trivial|exact .congr (Ex hr trivial) (.pure rfl)))
theorem Ey{i:Nat}{e:E}:rV G c x t N (.asg i e):=fun st h as σ=>onAsg_i h fun ts v p h=>on1_i h fun z h=>onName_i h fun y np h=>vl h fun h1 h2 h3 h4=>
 .congr (exec_Assign_Name _ _ _ _ _ (bT h1)) (.standAt ((du co to hl e v h4 as σ).bindR (R':=eG) (g:=fun v σ=>.ok .next ⟨σ.vars.set i (some v),σ.hp⟩) fun u w σ1 as2 s ha2 hr=>.standAt
  ((lw co.ok (rW co h3) (nX co h2) hr).bind fun s as3 s s=>.pure rfl)))
theorem Ct{o e:E}{n:Nat}:rV G c x t N (.setA o n e):=fun st h as σ=>onAsg_i h fun ts v p h=>on1_i h fun z h=>onAttr_i h fun xo y ap h=>vl h fun h1 h2 h3 h4=>
 .congr (plainObj_exec_Assign_Attribute _ _ _ _ _ (bT h1)) (.standAt ((du co to hl e v h4 as σ).bindR (R':=eG) (g:=fun v σ=>(ev t o σ).bind fun w σ=>(aY t w n v σ).bind fun r σ=>.ok .next σ) fun u w σ1 as2 r ha2 hr=>by
  rw[assign_Attribute,←af.bb]
  refine ah.bindR (R:=fun _ (_:Unit) (_:Unit)=>True) ((du co to hl o xo h2 as2 σ1).holding.bindR (g:=fun z σ=>aY t z n w σ) fun ou z σ2 as3 r ha3 hr3=>.standAt ?_) fun r r σ' as' r r r=>.pure rfl
  refine(pA to co.ok hr3 (hr.mono ha3) (A8 co h3)).holding.after fun r r σ' as' r=>?_
  exact .of_wp fun s Q E hr k=>wpAny_release (k () s.toks trivial)))
theorem Cu{o i e:E}:rV G c x t N (.setI o i e):=fun st h as σ=>onAsg_i h fun ts v p h=>on1_i h fun z h=>onSub_i h fun xo k ap h=>vl h fun h1 h2 h3 h4=>
 .congr (exec_Assign_Subscript _ _ _ _ _ (bT h1)) (.standAt ((du co to hl e v h4 as σ).bindR (R':=eG) (g:=fun v σ=>(ev t o σ).bind fun w σ=>(ev t i σ).bind fun k σ=>(cU w k v σ).bind fun y σ=>.ok .next σ) fun u w σ1 as2 y ha2 hr=>by
  have key:ah G x as2 σ1 (assign (.Subscript xo k ap) x.env u) (fun _ (_:Unit) (_:Unit)=>True) ((ev t o σ1).bind fun z σ=>(ev t i σ).bind fun kk σ=>cU z kk w σ):=by
   show ah _ _ _ _ (holding [u] (eval xo x.env)>>=fun ov=>holding [u,ov] (eval k x.env)>>=fun iv=>PySem.standAt ap>>=fun y=>holding [u,ov,iv] (setItem ov iv u)>>=fun y=>release _ []) _ _
   refine(du co to hl o xo h2 as2 σ1).holding.bindR fun ou z σ2 as3 y ha3 hr3=>?_
   refine(du co to hl i k h3 as3 σ2).holding.bindR fun ku kv σ3 as4 y ha4 hr4=>.standAt ?_
   refine(vr co.ok (hr3.mono ha4) hr4 ((hr.mono ha3).mono ha4)).holding.after fun y y σ' as' y=>?_
   exact .of_wp fun s Q E hr k=>wpAny_release (k () s.toks trivial)
  exact(key.bindR (R':=eG) (g:=fun y σ=>.ok .next σ) fun y y σ' as' y y y=>.pure rfl).res (by simp only[af.bb])))
omit to hl in
theorem zT{is:List Nat}{rev:Bool}{zs:List Expr}{k:Nat}{tp:Pos}{ys:List Str}{as:As}{σ:St}{u:Value}{w:V}(hn:d9 c is zs=true)(n:tU c x is zs ys)(hr:VR as w u):
  ah G x as σ (Pure.pure (if rev=true then some ys else none)>>=fun sw=>assignStores x.env u sw [assign (.Tuple zs k tp) x.env]) eG (cG rev is w σ):=by
 unfold cG
 cases hi:d8 w σ.hp with
 |none=>trivial
 |some l=>
  show ah G x as σ _ eG (if _ then _ else _)
  by_cases hlen:l.length=is.length
  ·rw[if_pos hlen]
   refine ah.bind (b:=(if rev=true then some ys else none)) (R:=fun z b a=>a=b) (σ':=σ) (.pure rfl) fun b as3 ha3 e1=>?_
   subst e1
   cases rev with
   |false=>
    show ah _ _ _ _ (assign (.Tuple zs k tp) x.env u>>=fun z=>Pure.pure Flow.next) _ _
    exact(gY co.ok co hn (hr.mono ha3) hi hlen).bind fun z as4 z z=>.pure rfl
   |true=>
    show ah _ _ _ _ (PySem.rule "assign.swapped-stores">>=fun z=>unpackItems u ys.length none>>=fun items=>assignInOrder (ys.reverse.map fun n=>bindName x.env n) items.reverse>>=fun z=>Pure.pure Flow.next) _ _
    refine .skip (fun s Q E hq=>wpAny_rule hq) ?_
    rw[show ys.length=l.length by rw[←n.at_.length,hlen]]
    refine(tT co.ok (hr.mono ha3) hi).bind fun us as4 ha4 hu=>?_
    refine ah.bind (kB (σ:=σ) co.ok n.at_.reverse hu.reverse (by rw[length_reverse,length_reverse,hlen])) fun z as5 z z=>?_
    rw[if_pos rfl,pC hlen.symm]
    exact .pure rfl
  ·rw[if_neg hlen];trivial
theorem Cv{rev:Bool}{is:List Nat}{e:E}:rV G c x t N (.unpk rev is e):=fun st h as σ=>onAsg_i h fun ts v p h=>on1_i h fun z h=>onTup_i h fun zs k tp h=>vl h fun h1 h2 h3 h4=>(ie co _ _ h2).elim fun ys n=>.congr (arm_exec_Assign _ _ _ _) (.standAt (by
  have hsole:swapsWithSole [.Tuple zs k tp] v p.line x.env=pure false:=by
   show swapsWith v (some (.Tuple zs k tp)) p.line x.env=pure false
   exact bT h1
  rw[hsole,zQ co (beq_iff_eq.mp h3) n.are]
  show ah _ _ _ _ (Pure.pure false>>=fun b=>if b=true then _ else(eval v x.env>>=fun u=>Pure.pure (if rev=true then some ys else none)>>=fun sw=>assignStores x.env u sw [assign (.Tuple zs k tp) x.env])) _ _
  refine ah.bind (b:=false) (R:=fun y b a=>a=b) (σ':=σ) (.pure rfl) fun b as1 ha e1=>?_
  subst e1
  show ah _ _ _ _ (eval v x.env>>=fun u=>Pure.pure (if rev=true then some ys else none)>>=fun sw=>assignStores x.env u sw [assign (.Tuple zs k tp) x.env]) _ _
  exact(du co to hl e v h4 as1 σ).bindR (R':=eG) (g:=fun v σ=>cG rev is v σ) fun u w σ1 as2 y ha2 hr=>zT co h2 n hr))
omit to hl in
theorem Cw{i:Nat}{y:Str}{as:As}{σ:St}{old:V}(hy:x.names[i]? =some y)(hk:x.cs.names.lookup y=some .local)(ho:σ.vars[i]? =some (some old)):ah G x as σ (loadName x.env y) VR (.ok old σ):=by
 refine .of_wp fun s Q E hr k=>?_
 refine bC (hr.lookup ho hy) fun m u F a b=>?_
 exact wpAny_loadName_local co.ok.hk hk F.ns a (k _ s.toks b)
theorem Ez{i:Nat}{op:Operator}{e:E}:rV G c x t N (.aug i op e):=fun st h as σ=>onAug_i h fun z o v p h=>onName_i h fun y np h=>D1 h fun h0 h1 h2 h3 h4=>eq_i (km h3) (.congr (exec_AugAssign_Name _ _ _ _ _ _) (.standAt (by
  show ah _ _ _ _ _ eG (match σ.vars[i]? with
   |some (some old)=>(ev t e σ).bind fun v σ=>(ofOpt σ (eR op old v)).bind fun w σ=>.ok .next ⟨σ.vars.set i (some w),σ.hp⟩
   |_=>.stuck)
  cases ho:σ.vars[i]? with
  |none=>trivial
  |some o=>
   cases o with
   |none=>trivial
   |some old=>
    have hy:=rW co h2
    have hk:=nX co h1
    refine(Cw co hy hk ho).bind fun uo as1 ha1 hr1=>?_
    refine(du co to hl e v h4 as1 σ).holding.bindR fun u w σ1 as2 s ha2 hr2=>.standAt ?_
    refine ah.bindR (ah.operate (ah.ofOpt fun z hz=>mS hz (hr1.mono ha2) hr2)) fun nu nv σ2 as3 s ha3 hr3=>.standAt ?_
    exact(lw co.ok hy hk hr3).bind fun s as4 s s=>.pure rfl)))
theorem Cy{o e:E}{n:Nat}{op:Operator}:rV G c x t N (.augA o n op e):=fun st h as σ=>onAug_i h fun z oo v p h=>onAttr_i h fun xo y tp h=>vl h fun h1 h2 h3 h4=>eq_i (km h3) (.congr (arm_exec_AugAssign_2 _ _ _ _ _ _ _) (.standAt
  ((du co to hl o xo h1 as σ).bindR (R':=eG) (g:=fun w σ=>(aX t w n σ).bind fun old σ=>(ev t e σ).bind fun v σ=>(ofOpt σ (eR op old v)).bind fun u σ=>(aY t w n u σ).bind fun r σ=>.ok .next σ) fun ou w σ1 as1 r ha1 hr1=>by
  have hy:=A8 co h2
  have key:ah G x as1 σ1 (holding [ou] (PySem.standAt tp.atName>>=fun r=>getAttr ou y true>>=fun old=>holding [old] (eval v x.env)>>=fun v=>PySem.standAt p>>=fun r=>operate [old,v] (inplaceOp op old v))) VR
    ((aX t w n σ1).bind fun old σ=>(ev t e σ).bind fun v σ=>ofOpt σ (eR op old v)):=by
   refine .holding (.standAt ((pg to co.ok hr1 hy).bindR fun uo old σ2 as2 r ha2 hr2=>?_))
   exact(du co to hl e v h4 as2 σ2).holding.bindR fun u w σ3 as3 r ha3 hr3=>.standAt (ah.operate (ah.ofOpt fun z hz=>mS hz (hr2.mono ha3) hr3))
  exact(key.bindR (R':=eG) (g:=fun u σ=>(aY t w n u σ).bind fun r σ=>.ok .next σ) fun nu nv σ2 as2 r ha2 hr2=>.standAt ((pA to co.ok (hr1.mono ha2) hr2 hy).holding.bindR fun r r σ3 as3 r ha3 r=>.skip (fun s Q E hq=>wpAny_release hq) (.pure rfl))).res (by simp only[af.bb]))))
theorem EA{b:E}{p q:Ss}(ip:zS G c x t N p)(iq:zS G c x t N q):rV G c x t N (.ite b p q):=fun st h as σ=>onIfS_i h fun xb y z pos h=>rJ h fun h1 h2 h3=>.congr (exec_If _ _ _ _ _) (.standAt
  ((w7 co to hl b xb h1 as σ).test (g:=fun v σ=>match v with
  | .bool true=>bj t N p σ
  | .bool false=>bj t N q σ
  |_=>.stuck) (D3 (fun w=>rfl) (fun w w=>rfl) (fun w w=>rfl) (fun w w=>rfl) (fun w w=>rfl) (fun w w=>rfl)) fun bb σ1 as1 w=>by
   cases bb with
   |true=>exact ip y h2 as1 σ1
   |false=>exact iq z h3 as1 σ1))
theorem EB{b:E}{p:Ss}(ip:zS G c x t N p):rV G c x t N (.whl b p):=fun st h as σ=>onWhl_i h fun xb y z pos h=>rJ h fun h0 h1 h2=>nil_i h0 (.congr (exec_While _ _ _ _ _) (.standAt
  (lx rfl (rS (fun as σ=>w7 co to hl b xb h1 as σ) (fun as σ=>ip y h2 as σ) N as σ))))
theorem Cz{i:Nat}{e:E}{p:Ss}(ip:zS G c x t N p):rV G c x t N (.forB i e p):=fun st h as σ=>onFor_i h fun z xi b w pos h=>cN h fun h0 h=>nil_i h0 (onName_i h fun y py h=>D1 h fun h1 h2 h3 h4 h5=>.congr (exec_For _ _ _ _ _) (.standAt
  ((du co to hl e xi h4 as σ).bindR (R':=eG) (g:=fun v σ=>match v with
  | .bytes l=>if l.length≤1000000 then eS σ.hp.length l i (fun σ=>bj t N p σ) l 0 ⟨σ.vars,σ.hp++[.biter l 0]⟩ else .stuck
  |_=>.stuck) fun u w σ1 as1 r ha1 hr1=>by
  rw[j4 h3]
  cases w with
  |bytes l=>
   dsimp only
   by_cases hl':l.length≤1000000
   ·rw[if_pos hl']
    obtain⟨tk,rfl⟩:=hr1
    refine .skip' (fun s Q E hq=>wpAny_pure hq) (.standAt ?_)
    have I:ah G x as1 σ1 (holding [.bytes l.toArray tk] (pyIter (.bytes l.toArray tk))) (fun as (_:Unit) a=>∃p,as[σ1.hp.length]? =some p∧a=.ref p.1) (.ok () ⟨σ1.vars,σ1.hp++[.biter l 0]⟩):=by
     refine .holding (.of_any fun s Q E hr k=>KBw.pyIter_bytes ?_)
     refine k _ _ _ s.toks (prefix_append as1 _) (hr.push rfl ⟨rfl,tk,rfl⟩) ⟨(s.heap.objs.size,s.heap.objs.size),by rw[←hr.len];simp,rfl⟩
    refine I.bind fun a as2 ha2 e2=>?_
    refine ak e2 fun p0 hp0 q92=>?_;obtain rfl:=q92
    exact lx rfl (rT co.ok (rW co h2) (nX co h1) (fun as σ=>ip b h5 as σ) l 0 as2 _ (by simp) hp0)
   ·rw[if_neg hl'];trivial
  |_=>trivial)))
theorem CA{i j:Nat}{e:E}{p:Ss}(ip:zS G c x t N p):rV G c x t N (.for2 i j e p):=fun st h as σ=>onFor_i h fun z xi b w pos h=>cN h fun h0 h=>nil_i h0 (onTup_i h fun zs k0 tp h=>vl h fun h1 h3 h4 h5=>.congr (exec_For _ _ _ _ _) (.standAt
  ((du co to hl e xi h4 as σ).bindR (R':=eG) (g:=fun v σ=>match v with
  | .ref a=>match σ.hp[a]? with
   |some (.list l)=>eT σ.hp.length a i j l (fun σ=>bj t N p σ) l 0 ⟨σ.vars,σ.hp++[.liter a 0]⟩
   |_=>.stuck
  |_=>.stuck) fun u w σ1 as1 y ha1 hr1=>by
  rw[j4 h3]
  cases w with
  |ref a=>
   dsimp only
   cases hl':σ1.hp[a]? with
   |none=>trivial
   |some o=>
    cases o with
    |list l=>
     refine ak hr1 fun pa hpa q92=>?_;obtain rfl:=q92
     refine .skip' (fun s Q E hq=>wpAny_pure hq) (.standAt ?_)
     have I:ah G x as1 σ1 (holding [.ref pa.1] (pyIter (.ref pa.1))) (fun as (_:Unit) a=>∃p,as[σ1.hp.length]? =some p∧a=.ref p.1) (.ok () ⟨σ1.vars,σ1.hp++[.liter a 0]⟩):=by
      refine .holding (.of_any fun s Q E hr k=>?_)
      refine ak (hr.listIn hl' hpa) fun vs L hvs=>?_
      refine wpAny_pyIter_list L ?_
      exact k _ _ _ s.toks (prefix_append as1 _) (hr.push rfl ⟨rfl,pa,hpa,rfl⟩) ⟨(s.heap.objs.size,s.heap.objs.size),by rw[←hr.len];simp,rfl⟩
     refine I.bind fun a2 as2 ha2 e2=>?_
     refine ak e2 fun p0 hp0 q92=>?_;obtain rfl:=q92
     exact lx rfl (rU co.ok co h1 (fun as σ=>ip b h5 as σ) l 0 as2 _ (by simp) hp0)
    |_=>trivial
  |_=>trivial)))
theorem EC{e:E}:rV G c x t N (.ret e):=fun st h as σ=>onRet_i h fun o p h=>onSome_i h fun v h=>.congr (exec_Return_some _ _ _) (.standAt
  ((du co to hl e v h as σ).bindR (R':=eG) (g:=fun v σ=>.ok (.ret v) σ) fun u w σ1 as1 s ha1 hr1=>.pure ⟨u,rfl,hr1⟩))
include ro in
theorem CB{e:E}:rV G c x t N (.rais e):=fun st h as σ=>onRai_i h fun a b pos h=>cN h fun h0 h=>isNo_i h0 (onSome_i h fun z h=>onCall_i h fun g zs ks cp h=>cN h fun h1 h=>nil_i h1 (on1_i h fun a h=>onName_i h fun y np h=>D1 h fun h1 h2 h3 h4 h5=>
  eq_i (beq_iff_eq.mp h3) (ro x as σ _ np a cp pos _ co.ok hl (beq_iff_eq.mp h3 ▸ h1) (beq_iff_eq.mp h3 ▸ nX co h2) co.exn (not_eq_true' _ ▸ h4) (du co to hl e a h5 as σ))))
omit co to hl
theorem ED:zS G c x t N .nil:=fun l h as σ=>nil_i h (.pure rfl)
theorem CC{s:S}{r:Ss}(is:rV G c x t N s)(ir:zS G c x t N r):zS G c x t N (.cons s r):=fun l h as σ=>by
 cases l with
 |nil=>cases h
 |cons st l=>
  refine cN h fun h1 h2=>?_
  rw[execs_cons]
  refine(is st h1 as σ).bindR (R':=eG) (g:=fun f σ=>match f with
  | .next=>bj t N r σ
  |f=>.ok f σ) fun u f σ1 as1 z ha hr=>?_
  cases f with
  |next=>obtain rfl:=hr;exact ir l h2 as1 σ1
  |brk=>obtain rfl:=hr;exact .pure rfl
  |ret v=>obtain⟨w,rfl,hw⟩:=hr;exact .pure ⟨w,rfl,hw⟩
variable (N)
include co to ro hl
theorem nY:∀(ms:Ss) (l:List Stmt),fP c ms l=true→∀(as:As) (σ:St),ah G x as σ (execs l x.env) eG (bj t N ms σ):=
 Ss.rec (motive_1:=rV G c x t N) (motive_2:=zS G c x t N) (fun e=>Cs co to hl) (fun i e=>Ey co to hl) (fun o n e=>Ct co to hl) (fun o i e=>Cu co to hl) (fun rev is e=>Cv co to hl) (fun i op e=>Ez co to hl) (fun o n op e=>Cy co to hl)
  (fun c a b ia ib=>EA co to hl ia ib) (fun c b ib=>EB co to hl ib) (fun i e b ib=>Cz co to hl ib) (fun i j e b ib=>CA co to hl ib) (fun e=>EC co to hl) (fun st h as σ=>onRet_i h fun o p h=>isNo_i h (.congr (exec_Return_none _ _) (.standAt (.pure ⟨.none,rfl,rfl⟩))))
  (fun st h as σ=>onBrk_i h fun p=>.congr (arm_exec_Break _ _) (.standAt (.pure rfl))) (fun st h as σ=>onPas_i h fun p=>.congr (arm_exec_Pass _ _) (.standAt (.pure rfl))) (fun e=>CB co to ro hl) ED (fun s r is ir=>CC is ir)
end
end
section
open Builtin Builtin.ObjectAttr
noncomputable def xh(v:Expr):Bool:=eF v (fun y=>y==("value":Str))||(rG v (fun l=>l.isEmpty)||wO v fun c=>decide (c=.bool false))
noncomputable def t3(K:Frag)(C:Addr)(st:Stmt):Bool:=onAsg st fun ts v=>zv ts fun tg=>jm tg fun z y x=>(eF z (·==("self":Str))&&xh v)&&takerIn K C y==some none
theorem zU{a b:Bool}{P:Prop}(h:(a||b)=true)(k:a=true→P)(l:b=true→P):P:=(Bool.or_eq_true_iff.mp h).elim k l
structure nZ(g:Heap)(L:Addr)(m:Str→Option Value)(e C t:Addr)(vs:List Value)(D:Option Addr)(ns:List Str)(h:Heap):Prop where
 fr:Fr g L h m
 xo:XO h e C t D ns
 dn:∀d,D=some d→g.get? d=none∧d≠L∧d≠t
 tup:h.TupAt t vs
section
variable {prog:Program}{w:World}{A:Around}{E:Value→Shared→Prop}{s:Shared}{K:Frag}{C f e t L a:Addr}{bm:List Value}{D:Option Addr}{ns:List Str}{g:Heap}{m:Str→Option Value}{vs:List Value}
 {cn:Str} {cs:Scope} {ccd:Value}
theorem nZ.keeps{h h':Heap}(I:nZ g L m e C t vs D ns h)(k:∀b o,h.get? b=some o→h'.get? b=some o):nZ g L m e C t vs D ns h':=by
 obtain⟨F,⟨o,he,hc,hd,hD,hdict⟩,dn,tup⟩:=I
 refine⟨⟨F.ns.keeps k,fun b o q=>k _ _ (F.keep b o q),F.above⟩,⟨o,k _ _ he,hc,hd,hD,fun d q=>?_⟩,dn,tup.keeps k⟩
 obtain⟨h1,mA,⟨oo,es,ep,q1,q2⟩,h3⟩:=hdict d q
 exact⟨h1,mA,⟨oo,es,ep,k _ _ q1,q2⟩,h3⟩
theorem EF(I:nZ g L m e C t vs D ns s.heap){v:Expr}(hv:xh v=true){u:Value}(hm:m ("value":Str)=some u)(hk:cs.kind=.function)(hl:cs.names.lookup ("value":Str)=some .local){Q:Value→Shared→Prop}
  (hq:∀z h' tk',nZ g L m e C t vs D ns h'→Q z { s with heap:=h',toks:=tk' }):wpAny (model prog w) A (eval v (envOf cn cs L a ccd)) Q E s:=by
 refine zU hv (fun h=>onName_i h fun y p h=>?_) fun h=>zU h (fun h=>onList_i h fun l p h=>nil_i h ?_) fun h=>onCon_i h fun c k p h=>?_
 ·obtain rfl:=beq_iff_eq.mp h
  show wpAny (model prog w) A (eval (.Name _ _) (envX cn cs L a ccd [])) Q E s
  refine nameX_L I.fr hm ?_ hk hl (by decide)
  exact hq u s.heap s.toks I
 ·obtain rfl:=of_decide_eq_true h
  exact fun x x x=>hq (.bool false) s.heap s.toks I
 ·show wpAny (model prog w) A (newList []) Q E s
  refine wpAny_newObj_type ?_ (zero_le _)
  exact hq _ _ s.toks (I.keeps fun b o q=>Heap.get?_push_of_some _ q)
theorem pD{v:Expr}(hv:xh v=true){t:Option Expr}{l:Nat}{env:Env}:swapsWith v t l env=pure false:=
 zU hv (fun h=>onName_i h fun z z z=>rfl) fun h=>zU h (fun h=>onList_i h fun z z z=>rfl) fun h=>onCon_i h fun z z z z=>rfl
theorem CD(xo:kZ K C f bm)(X:K.In g)(ge:g.get? e=none)(hLe:L≠e)(hte:t≠e)(I:nZ g L m e C t vs D ns s.heap){st:Stmt}(hst:t3 K C st=true)(hz:ns.length≤100)
  {u:Value} (hm:m ("value":Str)=some u) (hs:m ("self":Str)=some (.ref e)) (hk:cs.kind=.function) (hl:cs.names.lookup ("value":Str)=some .local) (hl2:cs.names.lookup ("self":Str)=some .local) {Q:Flow→Shared→Prop}
  (hq:∀h' tk' D' y,nZ g L m e C t vs (some D') (y::ns) h'→Q .next { s with heap:=h',toks:=tk' }):wpAny (model prog w) A (exec st (envOf cn cs L a ccd)) Q E s:=by
 refine onAsg_i hst fun ts v p h=>on1_i h fun tg h=>onAttr_i h fun z y ap h=>?_
 obtain⟨h,ht⟩:=an h
 obtain⟨h1,hv⟩:=an h
 refine onName_i h1 fun z zp h1=>?_
 obtain rfl:=beq_iff_eq.mp h1
 replace ht:=beq_iff_eq.mp ht
 rw[plainObj_exec_Assign_Attribute _ _ _ _ _ (pD hv)]
 refine wpAny_bind (wpAny_standAt ?_)
 refine wpAny_bind (EF I hv hm hk hl fun vv h1 tk1 I1=>?_)
 rw[assign_Attribute]
 refine wpAny_bind (wpAny_bind (wpAny_holding ?_))
 show wpAny (model prog w) A (eval (.Name _ _) (envX cn cs L a ccd [])) _ E _
 refine nameX_L I1.fr hs ?_ hk hl2 (by decide)
 refine wpAny_bind (wpAny_standAt (wpAny_bind (wpAny_holding ?_)))
 have XX:K.In h1:=X.keeps I1.fr.keep
 refine vf xo XX I1.xo hz ht fun h2 tk2 D' q1 q2 q3 q4=>?_
 refine wpAny_release (wpAny_pure (hq h2 tk2 D' y ?_))
 have hlt:L < h1.objs.size:=I1.fr.ns.lt
 have gd:∀b o,g.get? b=some o→b≠e∧D≠some b:=fun b o hb=>⟨fun q=>(by rw[q,ge] at hb;cases hb),fun q=>(by rw[(I1.dn b q).1] at hb;cases hb)⟩
 refine BA I1.fr.ns fun oL es ep e1 e2=>?_
 refine⟨⟨⟨oL,es,ep,q4 L oL hLe (fun q=>(I1.dn L q).2.1 rfl) e1,e2⟩,fun b o hb=>q4 b o (gd b o hb).1 (gd b o hb).2 (I1.fr.keep b o hb),I1.fr.above⟩,q1,fun d hd=>?_,?_⟩
 ·obtain rfl:=Option.some.inj hd
  cases D with
  |none=>
   obtain rfl:=q2 rfl
   refine⟨Heap.get?_none_of_le (le_trans I1.fr.above (le_of_lt hlt)),ne_of_gt hlt,fun q=>?_⟩
   refine dc I1.tup fun o n ho x=>?_
   exact absurd (Heap.lt_size ho) (by rw[←q];exact lt_irrefl _)
  |some d=>
   obtain rfl:=q3 d rfl
   exact I1.dn _ rfl
 ·refine dc I1.tup fun o n ho r=>?_
  exact⟨o,n,q4 t o hte (fun q=>(I1.dn t q).2.2 rfl) ho,r⟩
theorem CE(xo:kZ K C f bm)(X:K.In g)(ge:g.get? e=none)(hLe:L≠e)(hte:t≠e){u:Value}(hm:m ("value":Str)=some u)(hs:m ("self":Str)=some (.ref e))(hk:cs.kind=.function)(hl:cs.names.lookup ("value":Str)=some .local)(hl2:cs.names.lookup ("self":Str)=some .local){Q:Flow→Shared→Prop}:
  ∀(body:List Stmt) (D:Option Addr) (ns:List Str) (s:Shared),(∀st∈body,t3 K C st=true)→ns.length+body.length≤100→nZ g L m e C t vs D ns s.heap→
  (∀h' tk' D' ns',nZ g L m e C t vs D' ns' h'→Q .next { s with heap:=h',toks:=tk' })→wpAny (model prog w) A (execs body (envOf cn cs L a ccd)) Q E s:=by
 intro body
 induction body with
 |nil=>exact fun D ns s x x I hq=>wpAny_pure (hq s.heap s.toks D ns I)
 |cons st body ih=>
  intro D ns s h hz I hq
  rw[length_cons] at hz
  rw[execs_cons]
  refine wpAny_bind (CD xo X ge hLe hte I (h st (.head _)) (iC hz rfl) hm hs hk hl hl2 fun h' tk' D' y I'=>?_)
  exact ih (some D') (y::ns) { s with heap:=h',toks:=tk' } (fun z hz'=>h z (.tail _ hz')) (by rw[length_cons];exact u7 hz rfl) I' fun h'' tk'' D'' ns'' I''=>hq h'' tk'' D'' ns'' I''
end
end
section
open Builtin Builtin.ObjectAttr
structure rX(G:bB)(f C:Addr):Prop where
 ex:∃(qual:Str) (scope:Scope) (body:List Stmt),lm G f qual scope body [("self":Str),("value":Str)] [("self":Str),("value":Str)]∧(∀st∈body,t3 G.K C st=true)∧body.length≤90
section
variable {G:bB}{A:Around}{E:Value→Shared→Prop}{h:Heap}{g:Array GenState}{d:Drawn}{tk:Nat}{os:OsState}{C f:Addr}{bm:List Value}
theorem CF(io:rX G f C)(xo:kZ G.K C f bm)(X:G.K.In h)(nolim:h.NoLimit){u:Value}(hroom:A.depth < recursionLimit){Q:Value→Shared→Prop}
  (hq:∀h' tk' o,(∀b o,h.get? b=some o→h'.get? b=some o)→h'.get? (h.objs.size+1)=some o→o.cls=.ref C→o.data=.fields #[.ref h.objs.size,.none,.none,.none,.bool false,.none]→h'.TupAt h.objs.size [u]→Q .none ⟨h',g,d,tk',os⟩):
  wpAny (model G.prog G.w) A (call (.ref f) [.ref (h.objs.size+1),u]) Q E ⟨(h.push (dJ [u])).push (di C h.objs.size),g,d,tk,os⟩:=by
 refine fh io.ex fun qual scope body fo hb hy=>?_
 refine fo.at_ _ fun oc od osl name params dV kV doc pm an cdv ct ho hcd hbind=>?_
 have kk:∀b o,h.get? b=some o→((h.push (dJ [u])).push (di C h.objs.size)).get? b=some o:=fun b o e=>Heap.get?_push_of_some _ (Heap.get?_push_of_some _ e)
 have X₁:=X.keeps kk
 have he:((h.push (dJ [u])).push (di C h.objs.size)).get? (h.objs.size+1)=some (di C h.objs.size):=by heap_get
 have htt:((h.push (dJ [u])).push (di C h.objs.size)).get? h.objs.size=some (dJ [u]):=Heap.get?_push_of_some _ (Heap.get?_push_size _ rfl)
 refine wpAny_call (codeAny_call_def (fd:=fnX name qual params body scope [] dV kV doc pm an cdv ct) (body:=body) (binds:=[(("self":Str),.ref (h.objs.size+1)),(("value":Str),u)]) hroom (X₁ _ _ ho) rfl (nolim.keeps kk) (codeRec_of X₁ hcd) rfl (BindsTo.of_eq (hbind [_,u] rfl)) fo.cell (fun y hy=>?_) (fun h₁ hns hk₁=>?_) fo.co fo.gen fo.kind)
 ·rcases mem_cons.mp hy with rfl|hy
  ·exact fo.loc _ (.head _)
  ·obtain rfl:=mem_singleton.mp hy
   exact fo.loc _ (.tail _ (.head _))
 ·refine wpAny_noRaise ?_
  have sz:((h.push (dJ [u])).push (di C h.objs.size)).objs.size=h.objs.size+2:=by simp
  refine CE (L:=((h.push (dJ [u])).push (di C h.objs.size)).objs.size) (e:=h.objs.size+1) (t:=h.objs.size) (vs:=[u]) (m:=fun y=>([(("self":Str),.ref (h.objs.size+1)),(("value":Str),u)]:List (Str×Value)).reverse.lookup y) xo X (Heap.get?_none_of_le (le_succ _)) (by rw[sz];exact ne_of_gt (lt_succ_self _)) (ne_of_lt (lt_succ_self _)) (u:=u) (by rfl) (by rfl) fo.kind (fo.loc _ (.tail _ (.head _))) (fo.loc _ (.head _)) body none [] _ hb (by show 0+body.length≤100;lia) ?_ fun h' tk' D' ns' I=>?_
  ·refine⟨⟨hns,fun b o e=>hk₁ b o (kk b o e),by rw[sz];exact le_add_right _ _⟩,⟨_,hk₁ _ _ he,rfl,rfl,rfl,fun d q=>nomatch q⟩,fun d q=>(nomatch q),⟨_,_,hk₁ _ _ htt,rfl,rfl⟩⟩
  ·refine GN I.xo fun o h1 h2 h3 z=>?_
   exact hq h' tk' o I.fr.keep h1 h2 h3 I.tup
variable {x:Fx}{as:As}{σ:St}{lv:Nat}
theorem ig{a:Expr}{cp:Pos}{env:Env}{r:af V}(hs:ck a=false)(h:ah G x as σ (eval a env) VR r):ah G x as σ (spliced (backTo cp (starEach [a] env))) (fun as=>aj (VR as)) (r.bind fun v σ=>.ok [v] σ):=by
 rw[aG hs]
 have e0:spliced (backTo cp ((false,eval a env)::starEach [] env))=(do
  let v ←eval a env
  let here ←(Pure.pure [v]:Sem (List Value))
  return here++(←PySem.holding here (spliced (backTo cp (starEach [] env))))):=by
  show spliced ((false,_)::_)=_
  rw[spliced]
  rfl
 rw[e0]
 refine h.bindR fun u v σ1 as1 z ha1 hr1=>?_
 refine ah.bind (b:=()) (R:=fun _ (_:Unit) l=>l=[u]) (σ':=σ1) (.pure rfl) fun l as2 ha2 e2=>?_
 subst e2
 refine(gV (pos:=cp) (env:=env)).holding.bind fun us as3 ha3 hr3=>?_
 exact .pure (.cons ((hr1.mono ha2).mono ha3) hr3)
theorem xj{oe:Obj}{e t:Addr}{s:Shared}{env:Env}(xo:kZ G.K C f bm)(X:G.K.In s.heap)(hh:A.handled=none)(he:s.heap.get? e=some oe)(hc:oe.cls=.ref C)(hd:oe.data=.fields #[.ref t,.none,.none,.none,.bool false,.none])(hE:E (.ref e) s){Q:Flow→Shared→Prop}:
  wpAny (model G.prog G.w) A (holding ([]:List Value) (excFromValue (.ref e) "exceptions must derive from BaseException")>>=fun v=>(do
   let e ←if←isType (.ref e) then holding [v] (raisedFor (.ref e) v) else raisedInstance v
   setFlight e none
   raiseNew e)) Q E s:=by
 refine xo.at_ _ fun nm q N bs sn sub ab col dd k0 k1 k2 k3 k5 eC=>?_
 have hC:=X _ _ eC
 have hcB:(Value.ref C::bm).contains (.type "BaseException")=true:=by rw[contains_cons,xo.hasBase,Bool.or_true]
 obtain⟨oc,od,km,osl⟩:=oe
 dsimp only at hc hd
 subst hc hd
 obtain⟨hp,g,d,tk,os⟩:=s
 repeat (first|with_reducible refine wpAny_loadPart_at he ?_|with_reducible refine wpAny_loadPart_at hC ?_|(show wpAny _ _ (isSubtype (.ref C) _) _ _ _;refine wpAny_isSubtype_exc hC ?_;rw[hcB])|wp_step)
 exact wpAny_raiseNew_none hh hE
end
end
section
variable {M:Model}{A:Around}{E:Value→Shared→Prop}{s:Shared}{env:Env}
theorem D4:A.mark none=A:=rfl
theorem EG{elt target iter:Expr}{scope:Scope}{pos:Pos}{cl:List (Str×Addr)}{Q:Value→Shared→Prop}
  (hs:∀x,foldedSetIterable iter env x=pure x) (hclos:closureFor scope env=pure cl)
  (hkind:scope.kind=.function) (hnames:∀x∈scope.names,x.2=.local→scope.names.lookup x.1=some .local)
  (h:aJ M A (eval iter env) (fun x s₁=>aJ M A (pyIter x) (fun it s₂=>aJ M A (newList []) (fun acc s₃=>
   aJ M A (newFunctionEnv scope env.globals cl [] env.qual none .none (some env)) (fun cenv s₄=>
    bf M A (.compStart (.ListComp elt [⟨target,iter,[],0⟩] scope pos) 0 it acc { cenv with scope:=relabel scope env })
     (fun r s'=>match r with | .ok _=>∃m,s'.heap.Ns cenv.locals m∧∀h' m',h'.Ns cenv.locals m'→Heap.SameBut cenv.locals s'.heap h'→Q acc { s' with heap:=h' } | .error _=>False) s₄) E s₃) E s₂) E s₁) E s):
  aJ M A (eval (.ListComp elt [⟨target,iter,[],0⟩] scope pos) env) Q E s:=by
 rw[eval_ListComp]
 unfold comprehension
 rw[hclos]
 refine ae (av h (fun x s₁ h₁=>aF (aq (wpAny_of_eq (hs x) (ae (a8 (av h₁ (fun it s₂ h₂=>?_) fun y y z=>z)))))) fun y y z=>z)
 show aJ M A (newList []>>=_) Q E s₂
 refine ae (av h₂ (fun acc s₃ h₃=>?_) fun y y z=>z)
 refine aq (m:=pure cl) (wpAny_pure ?_)
 refine ae (av h₃ (fun cenv s₄ h₄=>?_) fun y y z=>z)
 ·dsimp only
  have hv:∀x∈(scope.names.filter fun x=>(x.2== .local||x.2== .cell)&&x.1 != (".0":Str)).reverse,x.2=.local→
    Env.kindOf { cenv with scope:=relabel scope env } x.1=some .local:=fun x hx hl=>lookup_relabel_local (hnames x (mem_filter.mp (List.mem_reverse.mp hx)).1 hl)
  refine a8 (ae (jW (a8 (kH (hW h₄ fun r s' hr=>?_) rfl))))
  cases r with
  |error e=>exact hr.elim
  |ok f=>
   refine ak hr fun m hn hr=>?_
   exact aB (wpAny_bind (wpAny_holding (wpAny_comp_letGo (cenv:={ cenv with scope:=relabel scope env }) hkind _ s' m hv hn fun h' m' hn' hs'=>wpAny_pure (hr h' m' hn' hs'))))
end
section
variable {prog:Program}{w:World}{A:Around}{R:Result→Shared→Prop}{s:Shared}{env:Env}
theorem CG{e:Expr}{d:Nat}{it acc:Value}(h:(Code.compLoop e d it acc env).weight=0)(hu:(Code.compLoop e d it acc env).cUnits=0):A.under (.compLoop e d it acc env)=A:=Around.under_of_weight h hu
theorem D5{elt target iter:Expr}{scope:Scope}{pos:Pos}{it acc:Value}(I:Nat→Shared→Prop)
  (turn:∀n s,I n s→aJ (model prog w) A (pyNext it) (fun r s₁=>match r with
   |none=>R (.ok .next) s₁
   |some v=>aJ (model prog w) A (assign target env v) (fun y s₂=>aJ (model prog w) A (eval elt env) (fun x s₃=>
     aJ (model prog w) A (call (.builtin "list.append") [acc,x]) (fun y s₄=>∃m,m < n∧I m s₄) (fun y y=>False) s₃) (fun y y=>False) s₂) (fun y y=>False) s₁) (fun y y=>False) s)
  (n:Nat) (h:I n s) (ht:∀v,letOwnedTupleGo target it v=pure ()):
  bf (model prog w) A (.compLoop (.ListComp elt [⟨target,iter,[],0⟩] scope pos) 0 it acc env) R s:=by
 refine rx rfl rfl I (fun n s hI=>?_) n h
 rw[Around.under_of_weight (c:=.compLoop (.ListComp elt [⟨target,iter,[],0⟩] scope pos) 0 it acc env) rfl rfl]
 show aJ _ _ ((compTurn (.ListComp elt [⟨target,iter,[],0⟩] scope pos) 0 it acc env).onRaise (fun x=>do noteFrame x env;theTreesLotGoes x)) _ _ s
 refine bE (av (E:=fun y y=>False) ?_ (fun y y z=>z) fun y y z=>z.elim)
 rw[compTurn_list1]
 refine aF (ae (av (turn n s hI) (fun r s₁ h₁=>?_) fun y y h'=>h'))
 cases r with
 |none=>exact au h₁
 |some v=>
  refine aq (wpAny_of_eq (ht v) ?_)
  exact ae (av h₁ (fun y s₂ h₂=>ae (ae (av h₂ (fun x s₃ h₃=>ae (av h₃
   (fun y s₄ h₄=>au (au ⟨rfl,h₄⟩)) fun y y h'=>h')) fun y y h'=>h'))) fun y y h'=>h')
theorem mU{elt target iter:Expr}{scope:Scope}{pos:Pos}{it acc:Value}
  (turn:aJ (model prog w) A (pyNext it) (fun r s₁=>match r with
   |none=>R (.ok .next) s₁
   |some v=>aJ (model prog w) A (assign target env v) (fun y s₂=>aJ (model prog w) A (eval elt env) (fun x s₃=>
     aJ (model prog w) A (call (.builtin "list.append") [acc,x]) (fun y s₄=>bf (model prog w) A (.compLoop (.ListComp elt [⟨target,iter,[],0⟩] scope pos) 0 it acc env) R s₄) (fun y y=>False) s₃) (fun y y=>False) s₂) (fun y y=>False) s₁) (fun y y=>False) s)
  (ht:∀v,letOwnedTupleGo target it v=pure ()):
  bf (model prog w) A (.compLoop (.ListComp elt [⟨target,iter,[],0⟩] scope pos) 0 it acc env) R s:=by
 refine am ?_
 rw[Around.under_of_weight (c:=.compLoop (.ListComp elt [⟨target,iter,[],0⟩] scope pos) 0 it acc env) rfl rfl]
 show aJ _ _ ((compTurn (.ListComp elt [⟨target,iter,[],0⟩] scope pos) 0 it acc env).onRaise (fun x=>do noteFrame x env;theTreesLotGoes x)) _ _ s
 refine bE (av (E:=fun y y=>False) ?_ (fun y y z=>z) fun y y z=>z.elim)
 rw[compTurn_list1]
 refine aF (ae (av turn (fun r s₁ h₁=>?_) fun y y h'=>h'))
 cases r with
 |none=>exact au h₁
 |some v=>
  refine aq (wpAny_of_eq (ht v) ?_)
  exact ae (av h₁ (fun y s₂ h₂=>ae (ae (av h₂ (fun x s₃ h₃=>ae (av h₃
   (fun y s₄ h₄=>au (au ⟨rfl,rfl,h₄⟩)) fun y y h'=>h')) fun y y h'=>h'))) fun y y h'=>h')
theorem vw{it:Addr}{x left step:Int}{E:Value→Shared→Prop}{Q:Option Value→Shared→Prop}(hh:A.handled=none)(hit:IsRangeIter s.heap it x left step)(hleft:left≤0)
  (hQ:∀h',(∀b o,s.heap.get? b=some o→h'.get? b=some o)→Q none { s with heap:=h' }):wpAny (model prog w) A (pyNext (.ref it)) Q E s:=by
 have hT:s.TypeIs (.ref it) "range_iterator":=⟨_,hit,rfl⟩
 unfold pyNext
 refine wpAny_bind (wpAny_attempt (wpAny_callSpecial?_slot (name:=PySem.Str.ofString "__next__") hT PySem.F.slot_range_iterator_next
  (wpAny_call_entry PySem.F.slot_range_iterator_next hT PySem.F.entry_range_iterator_next ?_ (PySem.F.args_range_iterator_next_1 _))))
 show wpAny _ _ (field (.ref it) 0>>=_) _ _ s
 refine wpAny_bind (wpAny_field hit rfl (x:=rawInt x) rfl ?_)
 show wpAny _ _ (field (.ref it) 1>>=_) _ _ s
 refine wpAny_bind (wpAny_field hit rfl (x:=rawInt left) rfl ?_)
 show wpAny _ _ (field (.ref it) 2>>=_) _ _ s
 refine wpAny_bind (wpAny_field hit rfl (x:=rawInt step) rfl ?_)
 show wpAny _ _ (if left≤0 then _ else _) _ _ s
 rw[if_pos hleft]
 refine wpAny_bind (wpAny_rule ?_)
 refine wpAny_bind ?_
 show wpAny _ _ (newExc (.type "StopIteration") []>>=_) _ _ _
 refine wpAny_bind ?_
 simp only[newExc,newTuple]
 refine wpAny_bind (wpAny_newObj_type ?_ (by size_fits))
 refine wpAny_bind (m:=firstArgMember _ _) (wpAny_of_eq (a:=Value.none) (by first|rfl|(simp only[firstArgMember];rfl)) ?_)
 refine wpAny_newObj_type ?_ (by size_fits)
 simp only[raiseNew]
 refine wpAny_bind (wpAny_handled ?_)
 rw[show A.in1.handled=none from hh]
 refine wpAny_bind (wpAny_pure (wpAny_throw ?_))
 refine wpAny_bind (wpAny_isInstance (T:="StopIteration") (b:=true) ⟨_,Heap.get?_push_size _ rfl,rfl⟩ isSubtype_stop ?_)
 exact wpAny_pure (hQ _ fun b o e=>Heap.get?_push_of_some _ (Heap.get?_push_of_some _ e))
theorem rY{elt target iter:Expr}{scope:Scope}{pos:Pos}{it acc:Value}
  (h0:bf (model prog w) A (.compLoop (.ListComp elt [⟨target,iter,[],0⟩] scope pos) 0 it acc env) R s)
  (h:wpAny (model prog w) A (pyIter it) (fun it' s'=>bf (model prog w) A (.compLoop (.ListComp elt [⟨target,iter,[],0⟩] scope pos) 0 it' acc env) R s') (fun y y=>False) s):
  bf (model prog w) A (.compStart (.ListComp elt [⟨target,iter,[],0⟩] scope pos) 0 it acc env) R s:=by
 refine am ?_
 rw[Around.under_of_weight (c:=.compStart (.ListComp elt [⟨target,iter,[],0⟩] scope pos) 0 it acc env) rfl rfl]
 show aJ _ _ ((compStart (.ListComp elt [⟨target,iter,[],0⟩] scope pos) 0 it acc env).onRaise (fun x=>do noteFrame x env;standAt theWindowsPlace)) _ _ s
 refine bE (aB (wpAny_mono (E:=fun y y=>False) ?_ (fun y y z=>z) fun y y z=>z.elim))
 unfold compStart
 show wpAny _ _ (ask>>=_) _ _ s
 refine wpAny_bind (wpAny_askSetting (wpAny_ite ?_))
 split
 ·exact wpAny_pure (And.intro rfl (And.intro rfl h0))
 ·refine wpAny_bind (wpAny_rule ?_)
  show wpAny _ _ (standAt iter.pos>>=_) _ _ s
  exact wpAny_bind (wpAny_standAt (wpAny_bind (wpAny_mono h (fun it' s' h'=>wpAny_pure (And.intro rfl (And.intro rfl h'))) fun y y x=>x)))
end
section
variable {G:bB}{x:Fx}{as:As}{σ:St}
theorem ly{cp:Pos}{env:Env}{e:Expr}{l:List Expr}{r:af V}{r2:St→af (List V)}(hs:ck e=false)(h:ah G x as σ (eval e env) VR r)
  (hl:∀σ1 as1,as <+: as1→ah G x as1 σ1 (spliced (backTo cp (starEach l env))) (fun as=>aj (VR as)) (r2 σ1)):
  ah G x as σ (spliced (backTo cp (starEach (e::l) env))) (fun as=>aj (VR as)) (r.bind fun v σ1=>(r2 σ1).bind fun vs σ2=>.ok (v::vs) σ2):=by
 rw[aG hs]
 have e0:spliced (backTo cp ((false,eval e env)::starEach l env))=(do
  let v ←eval e env
  let here ←(Pure.pure [v]:Sem (List Value))
  return here++(←PySem.holding here (spliced (backTo cp (starEach l env))))):=by
  show spliced ((false,_)::_)=_
  rw[spliced]
  rfl
 rw[e0]
 refine h.bindR fun u v σ1 as1 z ha1 hr1=>?_
 refine ah.bind (b:=()) (R:=fun _ (_:Unit) l=>l=[u]) (σ':=σ1) (.pure rfl) fun l2 as2 ha2 e2=>?_
 subst e2
 refine(hl σ1 as2 (ha1.trans ha2)).holding.bindR fun us vs σ2 as3 z ha3 hr3=>?_
 exact .pure (.cons ((hr1.mono ha2).mono ha3) hr3)
theorem n6{env:Env}{y:Str}{pos:Pos}{v:V}(ok:x.Ok G)(hg:env.globals=mainGlobals)(hb:env.builtins=builtinsNs)(hk:env.scope.kind=.function)(hy:env.kindOf y=some .globalImplicit)(hd:(y==("__debug__":Str))=false)(h:ce G y v):
  ah G x as σ (eval (.Name y pos) env) VR (.ok v σ):=by
 refine .of_wp fun s Q E hr k=>?_
 refine ak hr.fr fun m F Vr=>?_
 have X:=ok.X.keeps F.keep
 rcases h with ⟨u,a,b⟩|⟨a,c,u,d,b⟩
 ·exact Name_function_global hk hy (loadGlobal_global (hg ▸ ok.T.g.keeps F.keep) (mg_of ok.X ok.T.g a) (k _ s.toks (b.mono (nil_prefix)))) hd
 ·exact Name_function_global hk hy (loadGlobal_builtin (hg ▸ ok.T.g.keeps F.keep) (mg_none_of ok.X ok.T.g a) (hb ▸ ok.T.b.keeps F.keep) ((ok.T.builtins y c).trans d) (k _ s.toks (b.mono (nil_prefix)))) hd
theorem t4{env:Env}{y:Str}{pos:Pos}{v:V}{i:Nat}{p:Addr×Addr}(hk:env.scope.kind=.function)(hy:env.kindOf y=some .cell)(hd:(y==("__debug__":Str))=false)(hc:env.cells.lookup y=some p.1)
  (hi:σ.hp[i]? =some (.cell v)) (hp:as[i]? =some p):ah G x as σ (eval (.Name y pos) env) VR (.ok v σ):=by
 refine .of_wp fun s Q E hr k=>?_
 obtain⟨p',o1,o2,a1,a2,a3,u,a4,a5⟩:=hr.get hi
 rw[hp] at a1;cases a1
 exact wpAny_Name (wpAny_loadName_cell hk hy hc ⟨o1,a2,a4⟩ (k u s.toks a5)) hd
end
section
set_option backward.match.sparseCases false
section
variable {prog:Program}{w:World}{A:Around}{E:Value→Shared→Prop}{s:Shared}{b:Bs}{a:Addr}
theorem zV{Q:Value→Shared→Prop}(h:s.heap.get? a=some (bF b))(hl:b.length≤1000000)(hq:∀t k,Q (.int b.length t) { s with toks:=k }):
  wpAny (model prog w) A (call (.builtin "len") [.ref a]) Q E s:=by
 have hT:=b7 h
 refine Calls.call_function_entry kind_len plain_len entry_len (args_len1 _) ?_
 unfold Builtin.«len»
 refine wpAny_bind (m:=oneArg "len" _) (wpAny_pure ?_)
 refine wpAny_bind (m:=callSpecial? (.ref a) (Str.ofString "__len__")) (wpAny_callSpecial?_slot (name:=Str.ofString "__len__") hT jZ (wpAny_call_entry jZ hT nR ?_ (pi _)))
 show wpAny _ _ (Builtin.Bytes.payload (.ref a)>>=fun r=>retInt r.size) _ _ _
 refine wpAny_bind (eI h ?_)
 refine wpAny_bind (wpAny_mkInt (wpAny_pure ⟨_,rfl,?_⟩))
 refine wpAny_bind (wpAny_holding (wpAny_pure ?_))
 refine wpAny_bind (wpAny_letGo ?_)
 have hz:(b.toArray.size:Int)=b.length:=by simp
 rw[hz]
 show wpAny _ _ (if(b.length:Int) < 0 then _ else _) _ _ _
 rw[if_neg (by lia)]
 show wpAny _ _ (if(b.length:Int)≥2 ^ 63 then _ else _) _ _ _
 rw[if_neg (by lia)]
 exact wpAny_bind (wpAny_mkInt (wpAny_pure ⟨_,rfl,hq _ _⟩))
end
noncomputable def zW(n:Nat)(σ:St):af V:=if n≤1000000 then .ok (.int n) σ else .stuck
noncomputable def seqK{γ:Type}(o:Option O)(f:List V→af γ)(g:Bs→af γ):af γ:=oO o fun o=>@O.casesOn (fun z=>af γ) o (fun z z=>.stuck) f (fun z=>.stuck) g (fun z=>.stuck) (fun z z=>.stuck) (fun z z=>.stuck) .stuck (fun z=>.stuck) .stuck (fun z z=>.stuck) (fun z=>.stuck)
theorem ah.seqK{G:bB}{x:Fx}{as:As}{σ:St}{α γ:Type}{R:As→γ→α→Prop}{t:Sem α}{o:Option O}{f:List V→af γ}{g:Bs→af γ}(h:∀l,o=some (.list l)→ah G x as σ t R (f l))(k:∀l,o=some (.ba l)→ah G x as σ t R (g l)):ah G x as σ t R (Mine.seqK o f g):=.oO fun p e=>by cases p<;>first|exact h _ e|exact k _ e|trivial
noncomputable def CH(lists:List (Addr×List V))(v:V)(σ:St):af V:=@V.casesOn (fun z=>af V) v .stuck (fun z=>.stuck) (fun z=>.stuck) (fun b=>zW b.length σ) (fun z=>.stuck) (fun i=>seqK σ.hp[i]? (fun l=>zW l.length σ) fun b=>zW b.length σ) fun w=>wR w fun a=>oO (lists.lookup a) fun l=>zW l.length σ
noncomputable def jv:List V→Option (List Int)
 | []=>some []
 | .int i::r=>if 0≤i∧i < 256 then(jv r).map (i::·) else none
 |_::_=>none
noncomputable def CI(l:List Int):Bs:=l.map fun i=>UInt8.ofNat i.toNat
noncomputable def rZ(v:V)(σ:St):af V:=vR v fun i=>seqK σ.hp[i]? (fun l=>if l.length≤1000000 then oO (jv l) fun ns=>.ok (.bytes (CI ns)) σ else .stuck) fun b=>if b.length≤1000000 then .ok (.bytes b) σ else .stuck
noncomputable def Ip(v:V)(T:String):Option Bool:=@V.casesOn (fun z=>Option Bool) v none (fun z=>none) (fun z=>if T="int" then some true else if T="bool" then some false else if T="bytes" then some false else none) (fun z=>if T="bytes" then some true else none) (fun z=>none) (fun z=>none) fun z=>none
section
variable {G:bB}{x:Fx}{as:As}{σ:St}{lists:List (Addr×List V)}
theorem EH(ok:x.Ok G)(hL:∀a l,lists.lookup a=some l→∃vs n,G.K.lookup a=some (listOf vs.toArray n)∧aj (VR []) l vs){v:V}{u:Value}(hv:VR as v u):ah G x as σ (call (.builtin "len") [u]) VR (CH lists v σ):=by
 cases v with
 |bytes b=>
  exact .ifS fun q=>by
   obtain⟨t,rfl⟩:=hv
   exact .of_wp fun s Q E hr k=>W.len_bytes (by rw[size_toArray];exact bA q rfl) (k _ _ ⟨s.toks+1,rfl⟩)
 |sta w=>
  exact .wR fun a ea=>.oO fun l e=>.ifS fun q=>by
   obtain rfl:u=.ref a:=(show u=w from hv).trans ea
   refine .of_wp fun s Q E hr k=>dc (hL a l e) fun vs n a1 a3=>ak hr.fr fun m F z=>?_
   have L:s.heap.IsList a vs.toArray:=⟨_,(ok.X.keeps F.keep) _ _ a1,rfl,⟨_,rfl⟩⟩
   exact Calls.call_len_list L (by rw[size_toArray,←a3.length];lia) (k _ _ ⟨s.toks+1,by rw[size_toArray,a3.length]⟩)
 |ref i=>
  refine ak hv fun p hp q92=>?_;obtain rfl:=q92
  exact .seqK (fun l e=>.ifS fun q=>.of_wp fun s Q E hr k=>ak (hr.listIn e hp) fun vs L a3=>Calls.call_len_list L (by rw[size_toArray,←a3.length];lia) (k _ _ ⟨s.toks+1,by rw[size_toArray,a3.length]⟩))
   fun b e=>.ifS fun q=>.of_wp fun s Q E hr k=>gR (hr.get e) fun p' o1 o2 a1 a2 a3 a4=>zV (fm (M:=fun p=>s.heap.get? p.1=some (bF b)) hp a1 (a2.trans (congrArg some a4))) q fun t tk=>k _ _ ⟨_,rfl⟩
 |_=>trivial
theorem EI{i:Int}{u:Value}(hv:VR as (.int i) u):ah G x as σ (call (.builtin "abs") [u]) VR (.ok (.int (if i < 0 then -i else i)) σ):=by
 obtain⟨t,rfl⟩:=hv
 exact .of_wp fun s Q E hr k=>call_abs_int fun u tk=>k _ _ ⟨_,rfl⟩
theorem EJ{i:Int}{u:Value}(hv:VR as (.int i) u):ah G x as σ (call (.type "int") [u]) VR (.ok (.int i) σ):=by
 obtain⟨t,rfl⟩:=hv
 exact .of_wp fun s Q E hr k=>call_int_int (k _ s.toks ⟨_,rfl⟩)
set_option tactic.hygienic true in
theorem n7(ok:x.Ok G){v:V}{u:Value}{T:String}{r:Bool}(hv:VR as v u)(h:Ip v T=some r):ah G x as σ (call (.builtin "isinstance") [u,.type T]) VR (.ok (.bool r) σ):=by
 refine .of_wp fun s Q E hr k=>?_
 refine ak hr.fr fun m F _=>?_
 have X:=ok.X.keeps F.keep
 cases v with
 |int i=>
  obtain⟨t,rfl⟩:=hv
  have h:(if T="int" then some true else if T="bool" then some false else if T="bytes" then some false else none)=some r:=h
  split at h
  ·cases h;rename_i e;subst e
   exact kia_one kitx_int X trivial (by kernel_rfl) (fun e=>by cases e) fun tk=>k _ _ rfl
  ·split at h
   ·cases h;rename_i e;subst e
    exact kia_one kitx_int X trivial (by kernel_rfl) (fun e=>by cases e) fun tk=>k _ _ rfl
   ·split at h<;>cases h
    rename_i e;subst e
    exact kia_one kitx_int X trivial (by kernel_rfl) (fun e=>by cases e) fun tk=>k _ _ rfl
 |bytes b=>
  obtain⟨t,rfl⟩:=hv
  have h:(if T="bytes" then some true else none)=some r:=h
  split at h<;>cases h
  rename_i e;subst e
  exact kia_one kitx_bytes X trivial (by kernel_rfl) (fun e=>by cases e) fun tk=>k _ _ rfl
 |_=>exact bt h
set_option tactic.hygienic true in
theorem r7{as:As}{l:List V}{vs:List Value}{ns:List Int}(z:aj (VR as) l vs)(h:jv l=some ns):IntsAre vs ns∧∀n∈ns,0≤n∧n < 256:=by
 induction z generalizing ns with
 |nil=>cases h;exact⟨.nil,fun _ h=>nomatch h⟩
 |cons hv _ ih=>
  rename_i a b l m hr
  cases a with
  |int i=>
   obtain⟨t,rfl⟩:=hv
   refine ry (show(if 0≤i∧i < 256 then(jv l).map (i::·) else none)=some ns from h) fun q h=>?_
   refine ak (map_eq_some_iff.mp h) fun ms g q92=>?_;obtain rfl:=q92
   exact⟨.cons i t (ih g).1,fun n hn=>(mem_cons.mp hn).elim (fun e=>e ▸ q) ((ih g).2 n)⟩
  |_=>exact absurd h nofun
end
end
section
variable {G:bB}{x:Fx}{as:As}{σ:St}{h h':Heap}
theorem pE{i:Nat}{p:Addr×Addr}{l:List V}{v:V}{u:Value}(hi:σ.hp[i]? =some (.list l))(hp:as[i]? =some p)(hv:VR as v u)(hl:l.length≤1000000):
  ah G x as σ (call (.builtin "list.append") [.ref p.1,u]) VR (.ok .none ⟨σ.vars,σ.hp.set i (.list (l++[v]))⟩):=by
 refine .of_any fun s Q E hr k=>?_
 refine fh (hr.listAt hi) fun p' vs n a1 a2 a3=>?_
 rw[hp] at a1;cases a1
 have:=a3.length
 refine append_at a2 (fun h' hs ho=>?_) (by simp[sizeLine_eq];exact GY hl this rfl)
 refine k _ as h' s.toks (prefix_refl _) (hr.turnL hi hp hs (vs:=vs++[u]) (n:=n+1) (by rw[ho];simp) (a3.append (.cons hv .nil))) rfl
theorem vx{i:Nat}{p:Addr×Addr}{l:List V}(hi:σ.hp[i]? =some (.list l))(hp:as[i]? =some p)(hl:l.length≤1000000):
  ah G x as σ (call (.builtin "list.reverse") [.ref p.1]) VR (.ok .none ⟨σ.vars,σ.hp.set i (.list l.reverse)⟩):=by
 refine .of_any fun s Q E hr k=>?_
 refine fh (hr.listAt hi) fun p' vs n a1 a2 a3=>?_
 rw[hp] at a1;cases a1
 have:=a3.length
 refine call_meets PySem.F.slot_list_reverse (hT:=⟨_,a2,rfl⟩) PySem.F.entry_list_reverse (PySem.F.args_list_reverse_1 _) (AutoListH.list_reverse_list_0 p.1 vs.toArray n (by simp[sizeLine_eq];exact GY hl this rfl)) ⟨a2,?_⟩
 obtain⟨n',hd'⟩:=ee (fun x=>x.reverse) vs.toArray n
 refine k _ as _ s.toks (prefix_refl _) (hr.turnL hi hp (Heap.SameBut.update ..) (vs:=vs.reverse) (n:=n') ?_ a3.reverse) rfl
 rw[Heap.get?_update_self _ a2 (by rw[hd'];rfl),hd'];simp
theorem vy{i j:Nat}{p q:Addr×Addr}{l m:List V}(hi:σ.hp[i]? =some (.list l))(hp:as[i]? =some p)(hj:σ.hp[j]? =some (.list m))(hq:as[j]? =some q)(hl:l.length+m.length≤1000000):
  ah G x as σ (call (.builtin "list.extend") [.ref p.1,.ref q.1]) VR (.ok .none ⟨σ.vars,σ.hp.set i (.list (l++m))⟩):=by
 refine .of_any fun s Q E hr k=>?_
 refine fh (hr.listAt hi) fun p' vs n a1 a2 a3=>?_
 rw[hp] at a1;cases a1
 refine fh (hr.listAt hj) fun q' ws n2 b1 b2 b3=>?_
 rw[hq] at b1;cases b1
 have l1:=a3.length
 have l2:=b3.length
 refine call_meets PySem.F.slot_list_extend (hT:=⟨_,a2,rfl⟩) PySem.F.entry_list_extend (PySem.F.args_list_extend_2 _ _) (AutoSeq1.list_extend_list_list_0 p.1 vs.toArray n q.1 ws.toArray n2 ?_ (by simp[sizeLine_eq];lia) (by simp[sizeLine_eq];lia)) ⟨a2,b2,?_⟩
 ·simp only[Builtin.List.listTooLong,and_eq_true,decide_eq_true_eq,not_and,Nat.not_lt]
  intro _
  simp[sizeLine_eq];lia
 ·obtain⟨n',hd'⟩:=ee (fun x=>x++ws.toArray) vs.toArray n
  refine k _ as _ s.toks (prefix_refl _) (hr.turnL hi hp (Heap.SameBut.update ..) (vs:=vs++ws) (n:=n') ?_ (a3.append b3)) rfl
  rw[Heap.get?_update_self _ a2 (by rw[hd'];rfl),hd'];simp
end
noncomputable def Ha{γ:Type}(o:Option O)(f:Int→Int→af γ):af γ:=oO o fun o=>@O.casesOn (fun z=>af γ) o (fun z z=>.stuck) (fun z=>.stuck) (fun z=>.stuck) (fun z=>.stuck) (fun z=>.stuck) (fun z z=>.stuck) (fun z z=>.stuck) .stuck (fun z=>.stuck) .stuck f (fun z=>.stuck)
noncomputable def GL{γ:Type}(o:Option O)(r:af γ):af γ:=oO o fun o=>@O.casesOn (fun z=>af γ) o (fun z z=>.stuck) (fun z=>.stuck) (fun z=>.stuck) (fun z=>.stuck) (fun z=>.stuck) (fun z z=>.stuck) (fun z z=>.stuck) .stuck (fun z=>.stuck) r (fun z z=>.stuck) (fun z=>.stuck)
noncomputable def EK{γ:Type}(o:Option O)(f:V→af γ):af γ:=oO o fun o=>@O.casesOn (fun z=>af γ) o (fun z z=>.stuck) (fun z=>.stuck) (fun z=>.stuck) (fun z=>.stuck) (fun z=>.stuck) (fun z z=>.stuck) (fun z z=>.stuck) .stuck f .stuck (fun z z=>.stuck) (fun z=>.stuck)
section
variable {α β γ:Type}{r:af β}{b:γ}{τ:St}{P:Prop}
theorem de(h:(af.stuck:af γ)=.ok b τ):P:=nomatch h
theorem xk{o:Option α}{f:α→af γ}(h:oO o f=.ok b τ)(k:∀a,o=some a→f a=.ok b τ→P):P:=by cases o<;>first|exact k _ rfl h|exact de h
theorem A9{k:Int}{f:Int→af γ}:vI (.int k) f=f k:=rfl
theorem ef{o:Option α}{a:α}{f:α→af γ}(h:o=some a):oO o f=f a:=by rw[h];rfl
theorem xl{o:Option O}{c l:Int}{f:Int→Int→af γ}(h:o=some (.riter c l)):Ha o f=f c l:=by rw[h];rfl
theorem r8{o:Option O}{r:af γ}(h:o=some .space):GL o r=r:=by rw[h];rfl
theorem xm{o:Option O}{v:V}{f:V→af γ}(h:o=some (.cell v)):EK o f=f v:=by rw[h];rfl
theorem EL{o:Option O}{f:Int→Int→af γ}(h:Ha o f=.ok b τ)(k:∀c l,o=some (.riter c l)→f c l=.ok b τ→P):P:=xk h fun o e h=>by cases o<;>first|exact k _ _ e h|exact de h
theorem Ba{o:Option O}{r:af γ}(h:GL o r=.ok b τ)(k:o=some .space→r=.ok b τ→P):P:=xk h fun o e h=>by cases o<;>first|exact k e h|exact de h
theorem Bb{o:Option O}{f:V→af γ}(h:EK o f=.ok b τ)(k:∀v,o=some (.cell v)→f v=.ok b τ→P):P:=xk h fun o e h=>by cases o<;>first|exact k _ e h|exact de h
theorem Hb{o:Option O}{f:List V→af γ}(h:oL o f=.ok b τ)(k:∀v,o=some (.list v)→f v=.ok b τ→P):P:=xk h fun o e h=>by cases o<;>first|exact k _ e h|exact de h
theorem EM{v:V}{f:Int→af γ}(h:vI v f=.ok b τ)(k:∀i,v=.int i→f i=.ok b τ→P):P:=by cases v<;>first|exact k _ rfl h|exact de h
theorem CJ{f:β→St→af γ}(h:r.bind f=.ok b τ)(k:∀a σ,r=.ok a σ→f a σ=.ok b τ→P):P:=by cases r<;>first|exact k _ _ rfl h|cases h
theorem t6{p:Prop}{_:Decidable p}{r:af γ}(h:(if p then r else .stuck)=.ok b τ)(k:p→r=.ok b τ→P):P:=by
 by_cases q:p
 ·rw[if_pos q] at h;exact k q h
 ·rw[if_neg q] at h;exact de h
end
noncomputable def dB(st:List V→St→af V)(pieces:List V)(c j:Nat):Nat→St→af Unit
 |0,_=>.stuck
 |n+1,σ=>Ha σ.hp[j]? fun cur left=>GL σ.hp[j+2]? (if left≤0 then .ok () σ else EK σ.hp[c]? fun tr=>if c≠j∧c≠j+2 then
   (st [tr,.int 28] ⟨σ.vars,(σ.hp.set j (.riter (cur+1) (left - 1))).set (j+2) .space⟩).bind fun v σ1=>vI v fun k=>if 0≤k∧k < 1000000 then oO pieces[k.toNat]? fun w=>oL σ1.hp[j+1]? fun l=>
    if l.length≤1000000 then dB st pieces c j n ⟨σ1.vars,σ1.hp.set (j+1) (.list (l++[w]))⟩ else .stuck else .stuck else .stuck)
structure xn(G:bB)(x:Fx)(cs:Scope)(tr pc st tu:Str)(pa:Addr)(ca:Addr):Prop where
 ok:x.Ok G
 cl:x.cl.lookup tr=some ca
 kind:cs.kind=.function
 k1:(relabel cs x.env).names.lookup tr=some .cell
 k2:(relabel cs x.env).names.lookup pc=some .globalImplicit
 k3:(relabel cs x.env).names.lookup st=some .globalImplicit
 k4:(relabel cs x.env).names.lookup tu=some .local
 d1:(tr==("__debug__":Str))=false
 d2:(pc==("__debug__":Str))=false
 d3:(st==("__debug__":Str))=false
 n2:ce G pc (.sta (.ref pa))
 n3:ce G st (.sta (.ref 491))
noncomputable def mz(x:Fx)(cs:Scope)(C:Addr):Env:={ scope:=relabel cs x.env,locals:=C,globals:=mainGlobals,cells:=x.cl,qual:=x.env.qual,func:=none,code:=x.ccd,frame:=some x.L,builtins:=builtinsNs }
section
variable {G:bB}{x:Fx}{as:As}{σ:St}
theorem aE.spaceAt{h:Heap}(R:aE G x σ as h){i:Nat}{p:Addr×Addr}(e:σ.hp[i]? =some .space)(hp:as[i]? =some p):∃m,h.Ns p.1 m:=by
 obtain⟨p',o1,o2,a1,a2,a3,es,ep,q1,q2⟩:=R.get e
 rw[hp] at a1;cases a1
 exact⟨_,o1,es,ep,a2,q1,q2,fun z=>rfl⟩
noncomputable def xp(G:bB)(x:Fx)(el:Expr)(env:Env)(prim:List V→St→af V)(pieces:List V)(c:Nat)(pcl:Addr×Addr):Prop:=
 ∀(as:As) (σ σ1:St) (tv:V) (k:Int) (w:V),as[c]? =some pcl→σ.hp[c]? =some (.cell tv)→prim [tv,.int 28] σ=.ok (.int k) σ1→0≤k∧k < 1000000→pieces[k.toNat]? =some w→ah G x as σ (eval el env) VR (.ok w σ1)
theorem cV{as as':As}(h:as <+: as'){i:Nat}{p:Addr×Addr}(hp:as[i]? =some p):as'[i]? =some p:=by
 obtain⟨t1,rfl⟩:=h
 rw[getElem?_append_left (List.getElem?_eq_some_iff.mp hp).1];exact hp
theorem pF{env:Env}{st tr:Str}{p2 p3 p5:Pos}{a:Expr}{c:Nat}{pcl:Addr×Addr}{tv:V}{prim:List V→St→af V}{ra:St→af V}{r:af V}(ok:x.Ok G)(hprim:∀as σ vs us,aj (VR as) vs us→ah G x as σ (call (.ref 491) us) VR (prim vs σ))(hkeep:fi G.K (.ref 491))
  (h3:ah G x as σ (eval (.Name st p2) env) VR (.ok (.sta (.ref 491)) σ)) (ha:ck a=false) (hc:as[c]? =some pcl) (htr:∀as,as[c]? =some pcl→ah G x as σ (eval (.Name tr p3) env) VR (.ok tv σ)) (hv:∀as σ,ah G x as σ (eval a env) VR (ra σ))
  (hr:((ra σ).bind fun v σ1=>prim [tv,v] σ1)=r):ah G x as σ (eval (.Call (.Name st p2) [.Name tr p3,a] [] p5) env) VR r:=by
 show ah _ _ _ _ (eval (.Name st p2) env>>=fun f=>callWith p5 f [] (backTo p5 (starEach [.Name tr p3,a] env)) []) _ _
 refine h3.bind fun u2 as2 ha2 hu2=>?_
 obtain rfl:u2=.ref 491:=hu2
 have TS:=ly (x:=x) (cp:=p5) (env:=env) (e:=.Name tr p3) (l:=[a]) (r2:=fun σ'=>(ra σ').bind fun v σ1=>(af.ok [] σ1:af (List V)).bind fun vs σ2=>.ok (v::vs) σ2) rfl (htr as2 (cV ha2 hc)) fun σ3 as3 ha3=>ly (x:=x) (cp:=p5) (env:=env) (e:=a) (l:=[]) (r2:=fun σ=>.ok [] σ) ha (hv as3 σ3) fun σ4 as4 y=>.pure .nil
 refine(nP (first:=[]) (g:=prim) ok hkeep (fun z hz=>?_) TS fun us vs σ' as' ha' hu=>hprim as' σ' vs us hu).res ?_
 ·rcases mem_cons.mp hz with rfl|hz
  ·rfl
  ·obtain rfl:=mem_singleton.mp hz;exact ha
 ·rw[←hr]
  show af.bind (af.bind (af.bind (ra σ) _) _) _=_
  cases ra σ<;>rfl
theorem EN{cs:Scope}{tr pc st tu:Str}{pa C:Addr}{prim:List V→St→af V}{pieces:List V}{c:Nat}{pcl:Addr×Addr}{p1 p2 p3 p4 p5 p6:Pos}{k1:Nat}
  (hprim:∀as σ vs us,aj (VR as) vs us→ah G x as σ (call (.ref 491) us) VR (prim vs σ)) (hkeep:fi G.K (.ref 491))
  (hpieces:∃vs n,G.K.lookup pa=some (listOf vs.toArray n)∧aj (VR []) pieces vs) (re:xn G x cs tr pc st tu pa pcl.1):
  xp G x (.Subscript (.Name pc p1) (.Call (.Name st p2) [.Name tr p3,.Constant (.int 28) k1 p4] [] p5) p6) (mz x cs C) prim pieces c pcl:=by
 intro as σ σ1 tv k w hc e3 hv hk hw
 refine .congr (arm_eval_Subscript _ _ _ _) (ah.bind (n6 re.ok rfl rfl re.kind re.k2 re.d2 re.n2) fun u1 as1 ha1 hu1=>?_)
 refine(pF (env:=mz x cs C) (a:=.Constant (.int 28) k1 p4) (ra:=fun σ=>.ok (.int 28) σ) re.ok hprim hkeep (n6 re.ok rfl rfl re.kind re.k3 re.d3 re.n3) rfl (cV ha1 hc) (fun as hc=>t4 re.kind re.k1 re.d1 re.cl e3 hc) (fun as σ=>.of_wp fun s Q E hr hq=>fun y y y=>hq (.int 28 s.toks) (s.toks+1) ⟨_,rfl⟩) hv).holding.bind fun u2 as2 ha2 hu2=>.standAt ?_
 refine dc hpieces fun vs nn q1 q2=>?_
 refine ak (q2.get hw) fun z hz hz'=>?_
 obtain⟨tk,rfl⟩:=hu2
 obtain rfl:u1=.ref pa:=hu1
 obtain⟨ops,hsub⟩:=bh (.Call (.Name st p2) [.Name tr p3,.Constant (.int 28) k1 p4] [] p5) (.ref pa) (.int k tk)
 refine .of_wp fun s Q E hr hq=>?_
 have L:s.heap.IsList pa vs.toArray:=⟨_,zE re.ok hr _ _ q1,rfl,⟨_,rfl⟩⟩
 exact tail_any L.typeIs slot_list_getitem.lookup (getItem_listL L hk.1 (by omega) hz (hq _ s.toks (hz'.mono nil_prefix))) hsub
noncomputable def CK(G:bB)(x:Fx)(as:As)(σ:St)(code:Code)(psp:Addr×Addr):af Unit→Prop
 | .ok () σ'=>∀s (RR:Result→Shared→Prop),aE G x σ as s.heap→(∀as' h' tk',as <+: as'→aE G x σ' as' h'→(∃m,h'.Ns psp.1 m)→RR (.ok .next) { s with heap:=h',toks:=tk' })→bf (model G.prog G.w) x.A code RR s
 |_=>True
theorem zX{cs:Scope}{tu:Str}{el iter:Expr}{prim:List V→St→af V}{pieces:List V}{c j:Nat}{pcl pit pac psp:Addr×Addr}{p7 ip:Pos}{cur left k:Int}{σ σ1 σ':St}{tv w:V}{l:List V}(ok:x.Ok G)(hk:cs.kind=.function)
  (k4:(relabel cs x.env).names.lookup tu=some .local) (hel:xp G x el (mz x cs psp.1) prim pieces c pcl) {as:As} (hc:as[c]? =some pcl) (hj:as[j]? =some pit) (hj1:as[j+1]? =some pac) (hj2:as[j+2]? =some psp)
  (e1:σ.hp[j]? =some (.riter cur left)) (e2:σ.hp[j+2]? =some .space) (hle:¬left≤0) (e3:σ.hp[c]? =some (.cell tv)) (hcj:c≠j∧c≠j+2) (hv:prim [tv,.int 28] ⟨σ.vars,(σ.hp.set j (.riter (cur+1) (left - 1))).set (j+2) .space⟩=.ok (.int k) σ1)
  (hk2:0≤k∧k < 1000000) (hw:pieces[k.toNat]? =some w) (e4:σ1.hp[j+1]? =some (.list l)) (hl:l.length≤1000000)
  (I:∀as',as <+: as'→AW as'→CK G x as' ⟨σ1.vars,σ1.hp.set (j+1) (.list (l++[w]))⟩ (.compLoop (.ListComp el [⟨.Name tu p7,iter,[],0⟩] cs ip) 0 (.ref pit.1) (.ref pac.1) (mz x cs psp.1)) psp (.ok () σ')):
  CK G x as σ (.compLoop (.ListComp el [⟨.Name tu p7,iter,[],0⟩] cs ip) 0 (.ref pit.1) (.ref pac.1) (mz x cs psp.1)) psp (.ok () σ'):=by
 intro s RR R kk
 have hit:IsRangeIter s.heap pit.1 cur left 1:=by
  refine gR (R.get e1) fun p' o1 o2 a1 a2 a3 a4=>?_
  rw[hj] at a1;cases a1
  obtain rfl:=a4
  exact a2
 have e2':(σ.hp.set j (.riter (cur+1) (left - 1)))[j+2]? =some .space:=by rw[getElem?_set_ne (by omega)];exact e2
 have e3':((σ.hp.set j (.riter (cur+1) (left - 1))).set (j+2) .space)[c]? =some (.cell tv):=by
  rw[getElem?_set_ne (Ne.symm hcj.2),getElem?_set_ne (Ne.symm hcj.1)];exact e3
 refine mU (aB (wpAny_pyNext_range_item hit (by omega) fun h₁ hit₁ hs₁=>?_)) fun v=>rfl
 have R1:aE G x ⟨σ.vars,σ.hp.set j (.riter (cur+1) (left - 1))⟩ as h₁:=R.turnAt hj (iI R e1 hj hs₁.extBut) hs₁.extBut ⟨_,hit₁,fun z z=>rfl⟩
 obtain⟨m1,hn1⟩:=R1.spaceAt e2' hj2
 refine aB (wpAny_assign_Name (wpAny_storeName_local (env:=mz x cs psp.1) (name:=tu) k4 hn1 (fun h₂ hn₂ hs₂=>?_) (by show(cs.kind== .class||(cs.kind== .module&&_))=false;rw[hk];rfl)))
 replace hs₂:Heap.SameBut psp.1 h₁ h₂:=hs₂
 have R2:aE G x ⟨σ.vars,(σ.hp.set j (.riter (cur+1) (left - 1))).set (j+2) .space⟩ as h₂:=R1.turnAt hj2 (iI R1 e2' hj2 hs₂.extBut) hs₂.extBut (by
  refine gR hn₂ fun o es ep q1 q2 q3 q4=>?_
  exact⟨o,q1,fun z z=>⟨es,ep,q2,q3⟩⟩)
 refine hel as _ σ1 tv k w hc e3' hv hk2 hw { s with heap:=h₂,toks:=_ } _ _ R2 fun u as2 h3 tk3 ha2 R3 hu=>?_
 refine pE e4 (cV ha2 hj1) hu hl { s with heap:=h3,toks:=tk3 } _ _ R3 fun u3 as3 h4 tk4 ha3 R4 z=>?_
 exact I as3 (ha2.trans ha3) R4.sep { s with heap:=h4,toks:=tk4 } RR R4 fun as' h' tk' ha' R' hm=>kk as' h' tk' ((ha2.trans ha3).trans ha') R' hm
theorem zY{cs:Scope}{tu:Str}{el iter:Expr}{prim:List V→St→af V}{pieces:List V}{c j:Nat}{pcl pit pac psp:Addr×Addr}{p7 ip:Pos}(ok:x.Ok G)(hk:cs.kind=.function)
  (k4:(relabel cs x.env).names.lookup tu=some .local) (hel:xp G x el (mz x cs psp.1) prim pieces c pcl):∀(n:Nat) (as:As) (σ:St),AW as→as[c]? =some pcl→as[j]? =some pit→as[j+1]? =some pac→as[j+2]? =some psp→
  CK G x as σ (.compLoop (.ListComp el [⟨.Name tu p7,iter,[],0⟩] cs ip) 0 (.ref pit.1) (.ref pac.1) (mz x cs psp.1)) psp (dB prim pieces c j n σ):=by
 intro n
 induction n with
 |zero=>intro as σ _ _ _ _ _;trivial
 |succ n ih=>
  intro as σ sep hc hj hj1 hj2
  generalize hr:dB prim pieces c j (n+1) σ=r
  cases r with
  |stuck=>trivial
  |exc H=>trivial
  |ok u σ'=>
   refine EL hr fun cur left e1 hr=>Ba hr fun e2 hr=>?_
   by_cases hle:left≤0
   ·rw[if_pos hle] at hr
    cases hr
    intro s RR R kk
    have hit:IsRangeIter s.heap pit.1 cur left 1:=by
     refine gR (R.get e1) fun p' o1 o2 a1 a2 a3 a4=>?_
     rw[hj] at a1;cases a1
     obtain rfl:=a4
     exact a2
    refine mU (aB (vw ok.hh hit hle fun h' hk'=>?_)) fun v=>rfl
    have R':=R.keepAll hk'
    exact kk as h' s.toks (prefix_refl _) R' (R'.spaceAt e2 hj2)
   ·rw[if_neg hle] at hr
    refine Bb hr fun tv e3 hr=>t6 hr fun hcj hr=>CJ hr fun v σ1 hv hr=>EM hr fun k ek hr=>t6 hr fun hk2 hr=>xk hr fun w hw hr=>Hb hr fun l e4 hr=>t6 hr fun hl hr=>?_
    refine zX ok hk k4 hel hc hj hj1 hj2 e1 e2 hle e3 hcj (ek ▸ hv) hk2 hw e4 hl fun as3 ha3 sep3=>?_
    have I:=ih as3 ⟨σ1.vars,σ1.hp.set (j+1) (.list (l++[w]))⟩ sep3 (cV ha3 hc) (cV ha3 hj) (cV ha3 hj1) (cV ha3 hj2)
    rw[hr] at I
    exact I
noncomputable def af.only{β:Type}:af β→af β
 | .ok b σ=>.ok b σ
 |_=>.stuck
noncomputable def D6(st:List V→St→af V)(pieces:List V)(c N:Nat)(most:V)(σ:St):af V:=af.only (EK σ.hp[c]? fun tr=>(st [tr,most] σ).only.bind fun n σ1=>vI n fun k=>if 0≤k∧k≤1000 then
    (dB st pieces c σ1.hp.length N ⟨σ1.vars,σ1.hp++[.riter 0 k]++[.list []]++[.space]⟩).only.bind fun z σ2=>GL σ2.hp[σ1.hp.length+2]? (.ok (.ref (σ1.hp.length+1)) σ2) else .stuck)
theorem n8{β:Type}{b:β}{σ:St}:(af.ok b σ).only=.ok b σ:=rfl
theorem xq{β γ:Type}{r:af β}{f:β→St→af γ}{b:γ}{τ:St}{P:Prop}(h:r.only.bind f=.ok b τ)(k:∀a σ,r=.ok a σ→f a σ=.ok b τ→P):P:=by cases r<;>first|exact k _ _ rfl h|exact de h
theorem pG{α:Type}{l:List α}{i:Nat}{a:α}(h:l[i]? =some a):l.set i a=l:=by
 obtain⟨hi,e⟩:=List.getElem?_eq_some_iff.mp h
 rw[←e];exact List.set_getElem_self hi
theorem zZ{k:Int}(h0:0≤k)(h1:k≤1000):Builtin.Range.small 0 k 1=true∧Builtin.Range.rangeSize 0 k 1=k:=by
 have e:Builtin.Range.rangeSize 0 k 1=k:=by rw[rangeSize_one];split<;>lia
 refine⟨?_,e⟩
 unfold Builtin.Range.small
 rw[e]
 have f:∀z:Int,0≤z→z≤1001→Builtin.Range.rangeFitsLong z=true:=fun z h2 h3=>by
  unfold Builtin.Range.rangeFitsLong
  simp
  lia
 rw[f 0 (natCast_nonneg _) (natCast_nonneg _),f k h0 (by lia),f 1 (natCast_nonneg _) (IP rfl)]
 simp only[Bool.and_self,Bool.true_and]
 rw[if_pos (by decide),f (k+(1 - 1)) (by lia) (by lia),Bool.or_true]
structure xr(G:bB)(x:Fx)(cs:Scope)(tu:Str):Prop where
 ok:x.Ok G
 kind:cs.kind=.function
 clos:closureFor cs x.env=pure x.cl
 names:∀y∈cs.names,y.2=.local→cs.names.lookup y.1=some .local
 cell:∀y∈cs.names,y.2≠.cell
 k4:(relabel cs x.env).names.lookup tu=some .local
noncomputable abbrev Iq(tk:Nat)(k:Int)(t:Tok):Obj:={ cls:=.type "range",data:=.fields #[.int 0 tk,.int k t,.int 1 (tk+1)] }
noncomputable abbrev Ir(k:Int):Obj:={ cls:=.type "range_iterator",data:=.fields #[rawInt 0,rawInt k,rawInt 1] }
noncomputable abbrev It:Obj:={ cls:=.type "list",data:=.seq ([]:List Value).toArray }
theorem z0{cs:Scope}{tu:Str}{el iter:Expr}{prim:List V→St→af V}{pieces:List V}{c N:Nat}{pcl:Addr×Addr}{p7 ip:Pos}{σ1 σ2:St}{k:Int}{t1:Tok}{as2:As}{s:Shared}{Q:Value→Shared→Prop}{E1 E2 E3 E4:Value→Shared→Prop}(e:xr G x cs tu)
  (hel:∀C,xp G x el (mz x cs C) prim pieces c pcl) (hc:as2[c]? =some pcl) (hl:dB prim pieces c σ1.hp.length N ⟨σ1.vars,σ1.hp++[.riter 0 k]++[.list []]++[.space]⟩=.ok () σ2) (e2:σ2.hp[σ1.hp.length+2]? =some .space) (hk:0≤k∧k≤1000)
  (R:aE G x σ1 as2 s.heap) (hq:∀a as' h' tk',as2 <+: as'→aE G x σ2 as' h'→VR as' (.ref (σ1.hp.length+1)) a→Q a { s with heap:=h',toks:=tk' }):
  aJ (model G.prog G.w) x.A (call (.type "range") [.int k t1]) (fun r s₁=>aJ (model G.prog G.w) x.A (pyIter r) (fun it s₂=>aJ (model G.prog G.w) x.A (newList []) (fun acc s₃=>
   aJ (model G.prog G.w) x.A (newFunctionEnv cs x.env.globals x.cl [] x.env.qual none .none (some x.env)) (fun cenv s₄=>
    bf (model G.prog G.w) x.A (.compStart (.ListComp el [⟨.Name tu p7,iter,[],0⟩] cs ip) 0 it acc { cenv with scope:=relabel cs x.env })
     (fun r s'=>match r with | .ok _=>∃m,s'.heap.Ns cenv.locals m∧∀h' m',h'.Ns cenv.locals m'→Heap.SameBut cenv.locals s'.heap h'→Q acc { s' with heap:=h' } | .error _=>False) s₄) E1 s₃) E2 s₂) E3 s₁) E4 s:=by
 obtain⟨q1,q2⟩:=zZ hk.1 hk.2
 refine aB (call_range_1 ?_)
 have R3:=R.keepAll (fun b o e=>Heap.get?_push_of_some (Iq s.toks k t1) e)
 refine aB (wpAny_pyIter_range (IsRange.new ..) q1 ?_)
 rw[q2]
 have R4:=R3.push (ob:=Ir k) (o:=.riter 0 k) rfl rfl
 generalize hH2:(s.heap.push (Iq s.toks k t1))=H2 at R4
 refine aB (show wpAny _ _ (newList []) _ _ _ from wpAny_newObj_type ?_ (zero_le _))
 have R5:=R4.push (ob:=It) (o:=.list []) rfl ⟨[],0,rfl,.nil⟩
 generalize hH4:H2.push (Ir k)=H4 at R5
 have R6:=R5.push (ob:={ cls:=.type "dict",data:=.dict #[] }) (o:=.space) rfl ⟨#[],_,rfl,fun e he=>absurd he (by simp)⟩
 generalize hH5:H4.push It=H5 at R6
 refine aB (wpAny_newFunctionEnv e.cell (by intro y hy;simp at hy) (fun h₃ hns hsb=>?_) e.kind)
 dsimp only at hns hsb⊢
 have L2:=R.len
 generalize hA:as2++[(H2.objs.size,H2.objs.size)]++[(H4.objs.size,H4.objs.size)]++[(H5.objs.size,H5.objs.size)]=A3 at R6
 have ha3:as2 <+: A3:=by rw[←hA,append_assoc,append_assoc];exact prefix_append _ _
 have gj:A3[σ1.hp.length]? =some (H2.objs.size,H2.objs.size):=by rw[←L2,←hA];simp
 have gj1:A3[σ1.hp.length+1]? =some (H4.objs.size,H4.objs.size):=by rw[←L2,←hA];simp
 have gj2:A3[σ1.hp.length+2]? =some (H5.objs.size,H5.objs.size):=by rw[←L2,←hA];simp
 have sp0:(σ1.hp++[.riter 0 k]++[.list []]++[.space])[σ1.hp.length+2]? =some O.space:=by simp
 have hrt:(σ1.hp++[O.riter 0 k]++[.list []]++[.space])[σ1.hp.length]? =some (O.riter 0 k):=by simp
 have R7:aE G x ⟨σ1.vars,σ1.hp++[.riter 0 k]++[.list []]++[.space]⟩ A3 h₃:=by
  have:=R6.turnAt (o:=.space) gj2 (.inl rfl) hsb.extBut (by
   refine gR hns fun o es ep q1 q2 q3 q4=>?_
   exact⟨o,q1,fun z z=>⟨es,ep,q2,q3⟩⟩)
  rwa [pG sp0] at this
 have hit:IsRangeIter h₃ H2.objs.size 0 k 1:=by
  refine gR (R7.get hrt) fun p' o1 o2 a1 a2 a3 a4=>?_
  rw[gj] at a1;cases a1
  obtain rfl:=a4
  exact a2
 have I:=zY (ip:=ip) (p7:=p7) (iter:=iter) e.ok e.kind e.k4 (hel H5.objs.size) N _ ⟨σ1.vars,σ1.hp++[.riter 0 k]++[.list []]++[.space]⟩ R7.sep (cV ha3 hc) gj gj1 gj2
 rw[hl] at I
 refine(fun fin=>rY fin (wpAny_pyIter_rangeiter hit fin)) (I { s with heap:=h₃,toks:=_ } _ R7 fun as' h' tk' ha' R8 hm=>?_)
 obtain⟨m8,hm⟩:=hm
 refine⟨m8,hm,fun h9 m9 hn9 hs9=>?_⟩
 have R9:aE G x σ2 as' h9:=by
  have:=R8.turnAt (o:=.space) (cV ha' gj2) (.inl rfl) hs9.extBut (by
   refine gR hn9 fun o es ep q1 q2 q3 q4=>?_
   exact⟨o,q1,fun z z=>⟨es,ep,q2,q3⟩⟩)
  rwa [pG e2] at this
 exact hq _ as' h9 tk' (ha3.trans ha') R9 ⟨_,cV ha' gj1,rfl⟩
theorem Hc{cs:Scope}{tu rg:Str}{el a:Expr}{prim:List V→St→af V}{pieces:List V}{c N:Nat}{pcl:Addr×Addr}{most:V}{p7 p8 p13 ip:Pos}(e:xr G x cs tu)(hel:∀C,xp G x el (mz x cs C) prim pieces c pcl)
  (ha:ck a=false) (hin:∀as',as <+: as'→∀tv,σ.hp[c]? =some (.cell tv)→ah G x as' σ (eval a x.env) VR (prim [tv,most] σ)) (hxr:x.cs.names.lookup rg=some .globalImplicit) (hrd:(rg==("__debug__":Str))=false) (hr:ce G rg (.sta (.type "range"))) (hc:as[c]? =some pcl):
  ah G x as σ (eval (.ListComp el [⟨.Name tu p7,.Call (.Name rg p8) [a] [] p13,[],0⟩] cs ip) x.env) VR (D6 prim pieces c N most σ):=by
 unfold D6
 generalize hR:(EK σ.hp[c]? _:af V)=r
 cases r with
 |stuck=>trivial
 |exc H=>trivial
 |ok v τ=>
  refine Bb hR fun tv e1 hR=>xq hR fun v σ1 hv hR=>EM hR fun k ek hR=>t6 hR fun hk hR=>xq hR fun u σ2 hl hR=>Ba hR fun e2 hR=>?_
  cases hR
  intro s Q E R hq
  refine EG (fun x=>rfl) e.clos e.kind e.names ?_
  show aJ _ _ (eval (.Name rg p8) x.env>>=fun f=>callWith p13 f [] (backTo p13 (starEach [a] x.env)) []) _ _ _
  refine ae (n6 (as:=as) (σ:=σ) (env:=x.env) (y:=rg) (pos:=p8) e.ok rfl rfl e.ok.hk hxr hrd hr s _ _ R fun fv as1 h1 tk1 ha1 R1 hfv=>?_)
  obtain rfl:fv=.type "range":=hfv
  refine bZ (by rw[jo fun z hz=>by obtain rfl:=mem_singleton.mp hz;exact ha];rfl) (fun h (_:True)=>⟨.machine,.inr (.inl rfl),.now⟩) ?_
  have args:∀s (Q:Args→Shared→Prop) E,aJ (model G.prog G.w) x.A (spliced (backTo p13 (starEach [a] x.env))) (fun vs s'=>Q { pos:=vs } s') E s→aJ (model G.prog G.w) x.A (evalArgs (.type "range") true (backTo p13 (starEach [a] x.env)) []) Q E s:=by
   intro s Q E h
   rw[aG ha] at h⊢
   exact bK h
  have TC:=hin as1 ha1 tv e1
  rw[hv,ek] at TC
  refine args _ _ _ (ig (G:=G) (x:=x) (σ:=σ) (as:=as1) (cp:=p13) (env:=x.env) (a:=a) ha TC { s with heap:=h1,toks:=tk1 } _ _ R1 fun us as2 h2 tk2 ha2 R2 hus=>⟨trivial,?_⟩)
  cases hus with
  |cons hu hnil=>
  cases hnil
  obtain⟨tu1,rfl⟩:=hu
  exact z0 (s:={ s with heap:=h2,toks:=tk2 }) e hel (cV (ha1.trans ha2) hc) hl e2 hk R2 fun z as' h' tk' ha' R' hz=>hq z as' h' tk' ((ha1.trans ha2).trans ha') R' hz
end
section
open Builtin
section
variable {prog:Program}{w:World}{A:Around}{E:Value→Shared→Prop}{s:Shared}{b:Bs}{a:Addr}
theorem lz{id:String}{args:Args}{B:Builtin}{R:Result→Shared→Prop}(hq:plainId id=true)(hb:entryFor table id=some B)(hcl:bQ (.builtin id args)=true)
  (h:wpAny (model prog w) A.in1 (checkBuiltinCall id args) (fun z s₁=>aJ (model prog w) A.in1 (B args)
   (fun fin s'=>match fin with | .done f=>R (.ok f) s'| .again c'=>c'.quiet=true∧bQ c'=true∧bf (model prog w) A c' R s') (fun e s'=>R (.error e) s') s₁)
   (fun e s'=>R (.error e) s') s):bf (model prog w) A (.call (.builtin id) args) R s:=by
 refine am (aB ?_)
 show wpAny _ A.in1 (do checkBuiltinCall id args;again (.builtin id args)) _ _ s
 refine wpAny_bind (wpAny_mono h (fun z s₁ h₁=>wpAny_pure (And.intro (plainId_quiet hq args) (And.intro hcl (am ?_)))) fun z z h'=>h')
 show aJ _ _ (match entryFor table id with |some b=>b args|none=>unsupported ((withoutEnding? id "#data").getD id)) _ _ s₁
 rw[hb,Around.under_plainId hq args];exact h₁
theorem j5{T:String}{name:Str}{id:String}{B:Builtin}{self:Value}{rest:List Value}{Q:Value→Shared→Prop}(h:Slot T name id)(hT:s.TypeIs self T)
  (hb:entryFor table id=some B) (hcl:bQ (.builtin id ⟨self::rest,[]⟩)=true)
  (hc:aJ (model prog w) A.in1 (B ⟨self::rest,[]⟩) (fun fin s'=>∃v,fin=.done (.ret v)∧Q v s') E s)
  (ha:argsOk id ⟨self::rest,[]⟩):aJ (model prog w) A (call (.builtin id) (self::rest)) Q E s:=by
 refine bJ (lz h.plain hb hcl (h.check _ _ _ _ _ _ _ _ hT ha (av hc (fun fin s' h'=>?_) fun z z h'=>h')))
 obtain⟨v,rfl,hv⟩:=h';exact hv
noncomputable def xt(self:Value)(c:Code×Pos):Bool:=match c with
  |(.builtin "bytearray.__contains__" ⟨v::_,_⟩,_)|(.builtin "bytearray.__mod__" ⟨v::_,_⟩,_)
  |(.builtin "bytearray.__rmod__" ⟨_::v::_,_⟩,_)|(.builtin "_struct.pack_into.held" ⟨v::_,_⟩,_)=>Bytes.sameRef v self
  |(.builtin "bytearray.find.held" ⟨_::_::held,_⟩,_)=>held.any (Bytes.sameRef self)
  |(.builtin nm ⟨v::_,_⟩,_)=>Bytes.sameRef v self&&Bytes.decodersThatHold.contains nm
  |_=>false
theorem pH(self:Value):Bytes.exported self=(stack>>=fun st=>pure (st.any (xt self))):=rfl
theorem iL{nm id:String}(h:guardIds.contains nm=false)(k:guardIds.contains id=true):¬nm=id:=fun e=>by rw[e,k] at h;cases h
theorem pI{self:Value}{c:Code×Pos}(h1:bQ c.1=true)(h2:c.1.isGuard=false):xt self c=false:=by
 obtain⟨c,p⟩:=c
 delta xt xt.match_1
 cases c with
 |builtin nm args=>
  obtain⟨l,kw⟩:=args
  replace h2:guardIds.contains nm=false:=h2
  refine(dif_neg (iL h2 (by decide +kernel))).trans ((dif_neg (iL h2 (by decide +kernel))).trans ((dif_neg (iL h2 (by decide +kernel))).trans ((dif_neg (iL h2 (by decide +kernel))).trans ((dif_neg (iL h2 (by decide +kernel))).trans ?_))))
  cases l with
  |nil=>rfl
  |cons v l=>
   show(Bytes.sameRef v self&&Bytes.decodersThatHold.contains nm)=false
   rw[show Bytes.decodersThatHold.contains nm=false from(not_eq_true' _).mp h1,Bool.and_false]
 |_=>rfl
theorem iM{M:Model}{self:Value}{Q:Bool→Shared→Prop}(hg:A.guards=some [])(h:Q false s):aJ M A (Bytes.exported self) Q E s:=by
 rw[pH]
 refine ae (u8 fun st hc hgs=>?_)
 have:st.any (xt self)=false:=by
  rw[List.any_eq_false]
  intro c hm
  have hng:c.1.isGuard=false:=by
   cases q:c.1.isGuard with
   |false=>rfl
   |true=>
    have:c.1∈guardsOf st:=mem_filter.mpr ⟨List.mem_map_of_mem hm,q⟩
    rw[hgs _ hg] at this;cases this
  rw[pI (hc c hm) hng]
  exact Bool.false_ne_true
 rw[this]
 exact au h
theorem kD{M:Model}{Q:Unit→Shared→Prop}(hg:A.guards=some [])(ho:s.heap.get? a=some (bF b))(h:Q () s):aJ M A (Bytes.checkResize (.ref a)) Q E s:=by
 unfold Bytes.checkResize
 have key:∀(QQ:Bool→Shared→Prop),QQ false s→aJ M A (Bytes.exported (.ref a) <||> (do return (←Bytes.exportsOf (.ref a)) > 0)) QQ E s:=by
  intro QQ hQ
  unfold orM
  refine ae (iM hg ?_)
  refine aB ?_
  show wpAny M A ((load a>>=fun o=>match o.data with | .bytearray _ n=>pure n|_=>pure 0)>>=fun n=>pure (decide (n > 0))) QQ E s
  exact wpAny_bind (wpAny_bind (wpAny_load ho (wpAny_pure (wpAny_pure hQ))))
 refine ae (key _ ?_)
 exact au h
theorem EO(f:Array UInt8→Array UInt8)(b:Bs):Obj.mapBytearray f (bF b)=({ cls:=.type "bytearray",data:=.bytearray (f b.toArray) 0 }:Obj):=rfl
theorem j6{M:Model}{f:Array UInt8→Array UInt8}{b':Bs}{Q:Unit→Shared→Prop}(ho:s.heap.get? a=some (bF b))(hf:f b.toArray=b'.toArray)(hz:b'.length≤2000000)
  (h:∀h',Heap.SameBut a s.heap h'→h'.get? a=some (bF b')→Q () { s with heap:=h' }):wpAny M A (updateBytearray a f) Q E s:=by
 unfold updateBytearray
 refine wpAny_bind (wpAny_load ho ?_)
 refine wpAny_bind (wpAny_update ho ?_)
 have hg:(s.heap.update a (Obj.mapBytearray f)).get? a=some (bF b'):=by
  rw[Heap.get?_update_self _ ho rfl,EO,hf]
 refine wpAny_lookBehind hg ?_ (h _ (Heap.SameBut.update ..) hg)
 show(if b'.toArray.size > sizeLine then some "bytearray:memory" else none)=none
 rw[if_neg (by simp[sizeLine_eq];exact bA hz rfl)]
theorem vz{Q:Value→Shared→Prop}{i:Int}{t:Tok}(hg:A.guards=some [])(ho:s.heap.get? a=some (bF b))(h0:0≤i)(h1:i < 256)(hz:b.length≤1000000)
  (h:∀h',Heap.SameBut a s.heap h'→h'.get? a=some (bF (b++[UInt8.ofNat i.toNat]))→Q .none { s with heap:=h' }):aJ (model prog w) A (call (.builtin "bytearray.append") [.ref a,.int i t]) Q E s:=by
 refine j5 fX (b7 ho) kx rfl ?_ (lr _ _)
 show aJ _ _ (Bytes.byteValue (.int i t)>>=fun c=>Bytes.checkResize (.ref a)>>=fun z=>Bytes.write (.ref a) (·.push c)>>=fun z=>ret .none) _ _ _
 refine aq (m:=Bytes.byteValue (.int i t)) ?_
 unfold Bytes.byteValue
 refine wpAny_bind (wpAny_of_eq (a:=i) rfl ?_)
 rw[if_neg (by simp;lia)]
 refine wpAny_pure ?_
 refine ae (kD hg ho ?_)
 refine aq (m:=updateBytearray a _) (j6 (b':=b++[UInt8.ofNat i.toNat]) ho ?_ (by simp;exact bA hz rfl) fun h' hs hg'=>?_)
 ·simp
 ·exact au ⟨.none,rfl,h h' hs hg'⟩
end
section
variable {G:bB}{x:Fx}{as:As}{σ:St}{h h':Heap}
theorem aE.baAt(R:aE G x σ as h){i:Nat}{b:Bs}(e:σ.hp[i]? =some (.ba b)):∃p,as[i]? =some p∧h.get? p.1=some (bF b):=by
 refine gR (R.get e) fun p o1 o2 a b1 c d=>?_
 exact⟨p,a,by rw[b1,d]⟩
theorem r9(ok:x.Ok G){i:Nat}{p:Addr×Addr}{b:Bs}{k:Int}{u:Value}(hi:σ.hp[i]? =some (.ba b))(hp:as[i]? =some p)(hv:VR as (.int k) u)(h0:0≤k)(h1:k < 256)(hl:b.length≤1000000):
  ah G x as σ (call (.builtin "bytearray.append") [.ref p.1,u]) VR (.ok .none ⟨σ.vars,σ.hp.set i (.ba (b++[UInt8.ofNat k.toNat]))⟩):=by
 intro s Q E hr kk
 obtain⟨t,rfl⟩:=hv
 refine ak (hr.baAt hi) fun p' a1 a2=>?_
 rw[hp] at a1;cases a1
 refine vz ok.hg a2 h0 h1 hl fun h' hs hg=>?_
 exact kk _ as h' s.toks (prefix_refl _) (hr.turnAt hp (iI hr hi hp hs.extBut) hs.extBut ⟨_,hg,fun z z=>rfl⟩) rfl
end
end
section
open Builtin
theorem xu:mroOf (.type "bytearray")=pure [.type "bytearray",.type "object"]:=by rw[mroOf_type];kernel_rfl
theorem mB:typeLookup (.type "bytearray") "__new__"=pure (some (.builtin "bytearray.__new__")):=by rw[typeLookup_type,builtinLookup_eq_fast];kernel_rfl
theorem xv:typeLookup (.type "bytearray") "__release_buffer__"=pure (some (.builtin "bytearray.__release_buffer__")):=by rw[typeLookup_type,builtinLookup_eq_fast];kernel_rfl
theorem pJ:checkTypeCall "bytearray" ⟨[],[]⟩=pure ():=by kernel_rfl
theorem sa:checkBuiltinCall "bytearray.__new__" ⟨[.type "bytearray"],[]⟩=pure ():=by kernel_rfl
theorem sb:Builtin.Bytes.bindOptional "bytearray.__init__" "bytearray" ["source","encoding","errors"] [] []=pure [none,none,none]:=by kernel_rfl
theorem n9:isSubtype (.type "bytearray") (.type "bytearray")=pure true:=by rw[isSubtype_type];kernel_rfl
theorem fp:Slot "bytearray" "__init__" "bytearray.__init__":=
 .of (owner:="bytearray") (n:="__init__") (by rw[typeLookup_type,builtinLookup_eq_fast];kernel_rfl) (by decide +kernel) (by decide +kernel) (by decide +kernel)
  (by first|exact .inl (by decide +kernel)|exact .inr (by decide +kernel)) (by rw[isSubtype_type];kernel_rfl)
theorem mC:entryFor table "bytearray.__init__"=some Builtin.«bytearray.__init__»:=entryFor_of_tree (by kernel_rfl)
theorem oa(a:Value):argsOk "bytearray.__init__" ⟨[a],[]⟩:=by unfold argsOk;kernel_rfl
theorem og:entryFor table "bytearray.__new__"=some Builtin.«list.__new__»:=
 entryFor_alias (id':="list.__new__") (by kernel_rfl) (by first|rfl|decide +kernel) (by decide +kernel) (by kernel_rfl)
theorem iN:plainId "bytearray.__new__"=true:=by decide +kernel
theorem oh:("bytearray.__new__".splitOn ".__new__").headD ""="bytearray":=by simp +decide [String.splitOn,String.splitOnAux]
section
variable {prog:Program}{w:World}{A:Around}{E:Value→Shared→Prop}{s:Shared}{b:Bs}{a:Addr}
theorem pK{Q₁:Value→Shared→Prop}(h:Q₁ (.ref s.heap.objs.size) { s with heap:=s.heap.push (bF []) }):
  codeAny (model prog w) A (.call (.builtin "bytearray.__new__") ⟨[.type "bytearray"],[]⟩) (wants Q₁ E) s:=by
 refine codeAny_of_tree ?_
 show wpAny _ A.in1 (do checkBuiltinCall "bytearray.__new__" ⟨[.type "bytearray"],[]⟩;again (.builtin "bytearray.__new__" ⟨[.type "bytearray"],[]⟩)) _ _ s
 refine wpAny_bind (wpAny_of_eq sa (wpAny_pure ⟨plainId_quiet iN _,codeAny_builtin_stack og rfl fun p st=>?_⟩))
 rw[Around.under_plainId iN _]
 have hsub:=n9
 have hown:=oh
 obtain⟨hp,g,d,tk,os⟩:=s
 simp only[hown]
 wp_walk
 exact h
theorem z4{Q:Value→Shared→Prop}(hg:A.guards=some [])(ho:s.heap.get? a=some (bF b))
  (h:∀h',Heap.SameBut a s.heap h'→h'.get? a=some (bF [])→Q .none { s with heap:=h' }):aJ (model prog w) A (call (.builtin "bytearray.__init__") [.ref a]) Q E s:=by
 refine j5 fp (b7 ho) mC rfl ?_ (oa _)
 unfold Builtin.«bytearray.__init__»
 have hrel:∀(QQ:Bool→Shared→Prop),QQ false s→wpAny (model prog w) A.in1 (Bytes.ownRelease (.ref a)) QQ (fun e s'=>E e s') s:=by
  intro QQ hQ
  unfold Bytes.ownRelease Bytes.slotIsOwn
  refine wpAny_bind (wpAny_bind (wpAny_specialOf (b7 ho) xv ?_))
  show wpAny _ _ (if(!("bytearray.__release_buffer__".endsWith ("."++"__release_buffer__")))=true then _ else _) _ _ _
  rw[if_neg (by decide +kernel)]
  show wpAny _ _ (isInstance (.ref a) (.type ("bytearray.__release_buffer__".dropRight ("__release_buffer__".length+1)))) _ _ _
  have hd:"bytearray.__release_buffer__".dropRight ("__release_buffer__".length+1)="bytearray":=by decide +kernel
  rw[hd]
  exact wpAny_isInstance (b7 ho) n9 (wpAny_pure hQ)
 refine aq (m:=Bytes.ownRelease (.ref a)) (hrel _ ?_)
 refine aq (m:=Builtin.Bytes.bindOptional "bytearray.__init__" "bytearray" ["source","encoding","errors"] [] []) (wpAny_of_eq sb ?_)
 refine aq (m:=Builtin.Bytes.checkCodecArg "bytearray.__init__" "bytearray" "encoding" none) (wpAny_pure ?_)
 refine aq (m:=Builtin.Bytes.checkCodecArg "bytearray.__init__" "bytearray" "errors" none) (wpAny_pure ?_)
 refine ae (m:=Bytes.exported (.ref a) <||> (do return (←Bytes.exportsOf (.ref a)) > 0)) ?_
 unfold orM
 refine ae (iM hg ?_)
 refine aB ?_
 show wpAny _ _ ((load a>>=fun o=>match o.data with | .bytearray _ n=>pure n|_=>pure 0)>>=fun n=>pure (decide (n > 0))) _ _ s
 refine wpAny_bind (wpAny_bind (wpAny_load ho (wpAny_pure (wpAny_pure ?_))))
 refine aq (m:=updateBytearray a _) (j6 (b':=[]) ho rfl (by simp) fun h' hs hg'=>?_)
 exact au ⟨.none,rfl,h h' hs hg'⟩
theorem z5{Q:Value→Shared→Prop}(hg:A.guards=some [])
  (h:∀h',(∀c o,s.heap.get? c=some o→h'.get? c=some o)→s.heap.objs.size≤h'.objs.size→h'.get? s.heap.objs.size=some (bF [])→Q (.ref s.heap.objs.size) { s with heap:=h' }):
  aJ (model prog w) A (call (.type "bytearray") []) Q E s:=by
 refine bJ (am (aB ?_))
 show wpAny _ _ (callAny (.type "bytearray") _) _ _ _
 refine wpAny_pure (a:=Fin.again (.builtin "type.__call__" ⟨[.type "bytearray"],[]⟩)) (And.intro (Code.quiet_builtin _ (by decide +kernel)) (And.intro (fW (by decide +kernel)) (gW entry_typeCall ?_)))
 unfold Builtin.«type.__call__»
 show aJ _ _ (if(Value.type "bytearray"==Value.type "type")=true then _ else _) _ _ _
 rw[if_neg (by decide +kernel)]
 show aJ _ _ (if(((Manifest.find? "bytearray").bind (·.mro.findSome? fun t=>(Manifest.find? t).bind fun b=>if b.noNew then some true else if b.attrs.any (·.1=="__new__") then some false else none)).getD false)=true then _ else _) _ _ _
 rw[if_neg (by decide +kernel)]
 refine aq (wpAny_of_eq pJ ?_)
 refine aq (m:=mroOf (.type "bytearray")) (wpAny_of_eq xu ?_)
 refine aq (m:=Bind.madeBy (.type "bytearray")) (wpAny_of_eq (madeBy_type xu mB (by decide +kernel)) ?_)
 refine aq (m:=pure (Value.builtin "bytearray.__new__")) (wpAny_pure ?_)
 refine aq (wpAny_holding (wpAny_call (codeAny_mono (pK (Q₁:=fun v s'=>v=.ref s.heap.objs.size∧s'={ s with heap:=s.heap.push (bF []) }) (E:=fun z z=>False) ⟨rfl,rfl⟩) fun r s' hr=>?_)))
 rcases r with e|(v|_|_|_)<;>first|exact hr.elim|skip
 obtain⟨rfl,rfl⟩:=hr
 have ho:(s.heap.push (bF [])).get? s.heap.objs.size=some (bF []):=Heap.get?_push_size _ rfl
 refine aq (m:=isInstance (.ref s.heap.objs.size) (.type "bytearray")) (wpAny_isInstance (T:="bytearray") ⟨_,ho,rfl⟩ n9 ?_)
 simp only[Bool.not_true,false_eq_true,if_false]
 refine ae (a8 ?_)
 show aJ _ _ (specialOf (.ref s.heap.objs.size) "__init__">>=_) _ _ _
 refine aq (wpAny_specialOf (T:="bytearray") ⟨_,ho,rfl⟩ fp.lookup ?_)
 dsimp only
 refine a8 (aq (m:=bindSpecial _ _) (wpAny_of_eq (fp.bind _) ?_))
 refine ae (z4 (s:={ s with heap:=s.heap.push (bF []) }) (b:=[]) ?_ ho fun h' hs hg'=>?_)
 ·exact hg
 ·refine au ?_
  dsimp only
  refine au (h h' (fun c o e=>?_) ?_ hg')
  ·rw[hs.2 c (ne_of_lt (Heap.lt_size e))];exact Heap.get?_push_of_some _ e
  ·exact le_of_lt (Heap.lt_size hg')
end
section
variable {G:bB}{x:Fx}{as:As}{σ:St}
theorem z6(ok:x.Ok G):ah G x as σ (call (.type "bytearray") []) VR (.ok (.ref σ.hp.length) ⟨σ.vars,σ.hp++[.ba []]⟩):=by
 intro s Q E hr k
 refine z5 ok.hg fun h' hk hs hg=>?_
 refine k _ _ h' s.toks (prefix_append as [(s.heap.objs.size,s.heap.objs.size)]) (hr.add hk hs (le_refl _) (le_refl _) hg hg rfl) ⟨(s.heap.objs.size,s.heap.objs.size),by rw[←hr.len];simp,rfl⟩
end
end
section
open Builtin
theorem pL:typeLookup (.type "bytearray") "__bytes__"=pure none:=by rw[typeLookup_type,builtinLookup_eq_fast];kernel_rfl
theorem pM:typeLookup (.type "bytearray") "__index__"=pure none:=by rw[typeLookup_type,builtinLookup_eq_fast];kernel_rfl
theorem jw:typeLookup (.type "bytearray") "__buffer__"=pure (some (.builtin "bytearray.__buffer__")):=by rw[typeLookup_type,builtinLookup_eq_fast];kernel_rfl
section
variable {prog:Program}{w:World}{A:Around}{E:Value→Shared→Prop}{s:Shared}{b:Bs}{a:Addr}
theorem iO{M:Model}{nm id:String}{Q:Bool→Shared→Prop}(ho:s.heap.get? a=some (bF b))(hl:typeLookup (.type "bytearray") (nm:Str)=pure (some (.builtin id)))(h1:(!(id.endsWith ("."++nm)))=false)
  (h2:id.dropRight (nm.length+1)="bytearray") (h:Q true s):wpAny M A (Bytes.slotIsOwn (.ref a) nm) Q E s:=by
 unfold Bytes.slotIsOwn
 refine wpAny_bind (wpAny_specialOf (b7 ho) hl ?_)
 show wpAny _ _ (if(!(id.endsWith ("."++nm)))=true then _ else _) _ _ _
 rw[h1,if_neg Bool.false_ne_true]
 show wpAny _ _ (isInstance (.ref a) (.type (id.dropRight (nm.length+1)))) _ _ _
 rw[h2]
 exact wpAny_isInstance (b7 ho) n9 h
theorem mD{M:Model}{Q:Bool→Shared→Prop}(ho:s.heap.get? a=some (bF b))(h:Q false s):wpAny M A (Bytes.ownRelease (.ref a)) Q E s:=by
 unfold Bytes.ownRelease
 exact wpAny_bind (iO ho xv (by decide +kernel) (by decide +kernel) (wpAny_pure h))
theorem pN{Q:Value→Shared→Prop}(ho:s.heap.get? a=some (bF b))(hz:b.length≤1000000)(hQ:∀t k,Q (.bytes b.toArray t) { s with toks:=k }):
  wpAny (model prog w) A (call (.type "bytes") [.ref a]) Q E s:=by
 have new:codeAny (model prog w) A.in1 (.call (.builtin "bytes.__new__") ⟨[.type "bytes",.ref a],[]⟩) (wants (fun obj s₁=>s₁.TypeIs obj "bytes"∧Q obj s₁) E) s:=by
  refine codeAny_of_tree ?_
  show wpAny _ A.in1.in1 (do checkBuiltinCall "bytes.__new__" ⟨[.type "bytes",.ref a],[]⟩;again (.builtin "bytes.__new__" ⟨[.type "bytes",.ref a],[]⟩)) _ _ s
  refine wpAny_bind (wpAny_of_eq (PySem.F.bm_newCall _) (wpAny_pure ⟨plainId_quiet PySem.F.bm_plain _,codeAny_builtin PySem.F.bm_entry ?_⟩))
  rw[Around.under_plainId PySem.F.bm_plain _]
  have hT:=b7 ho
  unfold Builtin.«bytes.__new__»
  refine wpAny_bind (wpAny_of_eq (a:=true) rfl ?_)
  refine bm_if_false rfl ?_
  refine wpAny_bind (wpAny_of_eq PySem.F.bm_sub ?_)
  refine bm_if_false rfl ?_
  refine wpAny_bind (wpAny_of_eq (PySem.F.bm_bind _) ?_)
  refine wpAny_bind (wpAny_of_eq (a:=()) rfl ?_)
  refine wpAny_bind (wpAny_of_eq (a:=()) rfl ?_)
  refine bm_if_false rfl ?_
  refine wpAny_bind (wpAny_specialOf hT pL ?_)
  refine wpAny_bind (wpAny_bind ?_)
  show wpAny _ _ (load a>>=_) _ _ _
  refine wpAny_bind (wpAny_load ho ?_)
  refine wpAny_pure (wpAny_pure ?_)
  refine bm_if_false rfl ?_
  refine wpAny_bind (wpAny_specialOf hT pM ?_)
  refine bm_if_true rfl ?_
  first
   |show wpAny _ _ (Builtin.Bytes.buffer? "bytes.__new__" (.ref a) true>>=_) _ _ _
   |(refine wpAny_bind ?_;show wpAny _ _ (Builtin.Bytes.buffer? "bytes.__new__" (.ref a) true>>=_) _ _ _)
  refine wpAny_bind ?_
  unfold Builtin.Bytes.buffer?
  refine wpAny_bind (wpAny_specialOf hT jw ?_)
  refine wpAny_bind (iO ho jw (by decide +kernel) (by decide +kernel) ?_)
  refine bm_if_false rfl ?_
  refine wpAny_bind (wpAny_specialOf hT jw ?_)
  refine wpAny_bind (mD ho ?_)
  refine bm_if_false rfl ?_
  refine wpAny_bind (eI ho ?_)
  refine wpAny_pure ?_
  refine wpAny_bind (wpAny_rule ?_)
  refine wpAny_bind (wpAny_mkBytes ?_ (by simp[sizeLine_eq];exact bA hz rfl))
  first
   |exact wpAny_pure ⟨W.typeIs_bytes _ _ _,hQ _ _⟩
   |exact wpAny_pure (wpAny_pure ⟨W.typeIs_bytes _ _ _,hQ _ _⟩)
 refine callType_codes (Q₁:=fun obj s₁=>s₁.TypeIs obj "bytes"∧Q obj s₁) PySem.F.bm_called (PySem.F.bm_typeCall _) PySem.F.entry_object_init new fun obj s₁ h₁=>?_
 exact⟨h₁.1,PySem.F.args_object_init_2 obj _,object_init_meets PySem.F.bm_called.init.lookup PySem.F.bm_called.made (by decide) prog w A.in1 _ s₁ ⟨h₁.1,rfl,h₁.2⟩⟩
end
section
variable {G:bB}{x:Fx}{as:As}{σ:St}
theorem z7(ok:x.Ok G){v:V}{u:Value}(hv:VR as v u):ah G x as σ (call (.type "bytes") [u]) VR (rZ v σ):=by
 refine .vR fun i ei=>?_
 subst ei
 refine ak hv fun p hp q92=>?_;obtain rfl:=q92
 refine .seqK (fun l e=>.ifS fun hz=>.oO fun ns hn=>.of_any fun s Q E hr k=>ak (hr.listIn e hp) fun vs L a3=>?_) fun b e=>.ifS fun hz=>.of_wp fun s Q E hr k=>ak (hr.baAt e) fun p' a1 a2=>?_
 ·refine(r7 a3 hn).elim fun h1 h2=>call_bytes_ints L h1 h2 (by rw[sizeLine_eq,←a3.length];exact bA hz rfl) ok.hh fun h' t k' hk=>?_
  exact k _ as h' k' (prefix_refl _) (hr.keepAll hk) ⟨t,rfl⟩
 ·exact pN (fm (M:=fun p=>s.heap.get? p.1=some (bF b)) hp a1 a2) hz fun t k'=>k _ _ ⟨t,rfl⟩
end
end
section
open Builtin
noncomputable def se:List UInt8→List Value→Prop:=aj fun c v=>∃t,v=.int (c.toNat:Int) t
section
variable {prog:Program}{w:World}{A:Around}{E:Value→Shared→Prop}
theorem xw{R:Result→Shared→Prop}{S I:Addr}{b:Bs}{t:Tok}{res:Value}(hh:A.handled=none)(hSI:S≠I):∀(rest:Bs) (k:Nat) (s:Shared) (acc:List Value) (n:Nat),rest=b.drop k→KBw.IsBytesIter s.heap I b.toArray t k→s.heap.get? S=some (W.listOf acc.toArray n)→acc.length+rest.length≤2000000→
  (∀h' tk vs n',se rest vs→(∀c o,c≠S→c≠I→s.heap.get? c=some o→h'.get? c=some o)→h'.get? S=some (W.listOf (acc++vs).toArray n')→R (.ok (.ret res)) { s with heap:=h',toks:=tk })→
  codeAny (model prog w) A (.builtin "list.extend.loop" ⟨[.ref S,.ref I,res],[]⟩) R s:=by
 intro rest
 induction rest with
 |nil=>
  intro k s acc n hr hit hS hz hR
  refine codeAny_builtin PySem.F.entry_extend_loop ?_
  rw[Around.under_plainId PySem.F.plain_extend_loop _]
  show wpAny _ A.in1 (pyNext (.ref I)>>=_) _ _ s
  have hx:(b.toArray)[k]? =none:=by
   simp only[getElem?_toArray,List.getElem?_eq_none_iff]
   have:=congrArg List.length hr
   simp at this;lia
  refine wpAny_bind (KBw.next_end hh hit hx fun h' he=>?_)
  exact wpAny_pure (hR h' s.toks [] n .nil (fun c o h1 h2 e=>he c o h2 e) (by simpa using he S _ hSI hS))
 |cons c rest ih=>
  intro k s acc n hr hit hS hz hR
  refine codeAny_builtin PySem.F.entry_extend_loop ?_
  rw[Around.under_plainId PySem.F.plain_extend_loop _]
  show wpAny _ A.in1 (pyNext (.ref I)>>=_) _ _ s
  have hx:(b.toArray)[k]? =some c:=by
   simp only[getElem?_toArray]
   have:=congrArg (·[0]?) hr
   simp at this
   exact this.symm
  have hrest:rest=b.drop (k+1):=by
   have:=congrArg List.tail hr
   simpa [List.tail_drop] using this
  refine wpAny_bind (KBw.next_item hit hx fun h' hit' hs=>?_)
  have hS':h'.get? S=some (W.listOf acc.toArray n):=(hs.2 S hSI).trans hS
  show wpAny _ A.in1 (updateSeq S (·.push (.int (c.toNat:Int) s.toks))>>=_) _ _ _
  simp only[length_cons] at hz
  obtain⟨n',hd'⟩:=ee (·.push (Value.int (c.toNat:Int) s.toks)) acc.toArray n
  have hS2:(h'.update S (Obj.mapSeq (·.push (Value.int (c.toNat:Int) s.toks)))).get? S=some (W.listOf (acc++[Value.int (c.toNat:Int) s.toks]).toArray n'):=by
   rw[Heap.get?_update_self _ hS' (by rw[hd'];rfl),hd'];simp
  refine wpAny_bind (wpAny_updateSeq hS' rfl (wpAny_pure ⟨plainId_quiet PySem.F.plain_extend_loop _,ih (k+1) _ (acc++[Value.int (c.toNat:Int) s.toks]) n' hrest (hit'.elim fun o ho=>⟨o,(Heap.get?_update_other _ _ hSI).trans ho.1,ho.2⟩) hS2 (by simp;exact u7 hz rfl) fun h2 tk vs n2 hv hk hg=>?_⟩) (by simp[sizeLine_eq];exact iC hz rfl) (by simp[sizeLine_eq];exact iC hz rfl))
  refine hR h2 tk (.int (c.toNat:Int) s.toks::vs) n2 (.cons ⟨_,rfl⟩ hv) (fun d o h1 h2' e=>hk d o h1 h2' ?_) (by rw[hg];simp)
  show(h'.update S _).get? d=some o
  rw[Heap.get?_update_other _ _ (Ne.symm h1),hs.2 d h2',e]
theorem oj{s:Shared}{S:Addr}{acc:List Value}{n:Nat}{b:Bs}{t:Tok}{Q:Value→Shared→Prop}(hh:A.handled=none)(hS:s.heap.get? S=some (W.listOf acc.toArray n))(hz:acc.length+b.length≤2000000)
  (hQ:∀h' tk vs n',se b vs→(∀c o,c≠S→s.heap.get? c=some o→h'.get? c=some o)→h'.get? S=some (W.listOf (acc++vs).toArray n')→Q .none { s with heap:=h',toks:=tk }):
  wpAny (model prog w) A (call (.builtin "list.extend") [.ref S,.bytes b.toArray t]) Q E s:=by
 refine wpAny_call (codeAny_call_builtin PySem.F.slot_list_extend.plain PySem.F.entry_list_extend (PySem.F.slot_list_extend.check _ _ _ _ _ _ _ _ (show s.TypeIs (.ref S) "list" from⟨_,hS,rfl⟩) (PySem.F.args_list_extend_2 _ _) ?_))
 show wpAny _ _ (Builtin.List.listExtendWith (.ref S) (.bytes b.toArray t) .none) _ _ s
 unfold Builtin.List.listExtendWith
 refine wpAny_bind (wpAny_typeOf (T:="bytes") (v:=.bytes b.toArray t) rfl ?_)
 have h1:Builtin.List.listSameRef (.ref S) (.bytes b.toArray t)=false:=rfl
 have h2:(Value.type "bytes"==Value.type "list")=false:=by decide
 have h3:(Value.type "bytes"==Value.type "tuple")=false:=by decide
 simp only[h1,h2,h3,Bool.or_false,false_eq_true,if_false]
 refine wpAny_bind (KBw.pyIter_bytes ?_)
 refine wpAny_bind (wpAny_holding ?_)
 unfold Builtin.List.listLengthHint
 refine wpAny_bind (wpAny_specialOf (T:="bytes") (v:=.bytes b.toArray t) rfl FB.slot_bytes_len.lookup ?_)
 wp_delta
 refine wpAny_bind (wpAny_isInstance (T:="bytes") (v:=.bytes b.toArray t) (b:=true) rfl (by rw[isSubtype_type];kernel_rfl) ?_)
 show wpAny _ _ (typeOf (Value.bytes b.toArray t)>>=_) _ _ _
 refine wpAny_bind (wpAny_typeOf (T:="bytes") (v:=.bytes b.toArray t) rfl ?_)
 refine wpAny_pure ?_
 rw[if_neg (by decide)]
 have hlt:=Heap.lt_size hS
 refine wpAny_pure ⟨plainId_quiet PySem.F.plain_extend_loop _,xw (b:=b) (t:=t) hh (ne_of_lt hlt) b 0 _ acc n (by simp) ⟨_,Heap.get?_push_size _ rfl,rfl,rfl⟩ (Heap.get?_push_of_some _ hS) hz fun h' tk vs n' hv hk hg=>?_⟩
 exact hQ h' tk vs n' hv (fun c o hc e=>hk c o hc (ne_of_lt (Heap.lt_size e)) (Heap.get?_push_of_some _ e)) hg
end
section
variable {G:bB}{x:Fx}{as:As}{σ:St}
theorem CL{b:Bs}{vs:List Value}(z:se b vs):aj (VR as) (b.map fun c=>V.int c.toNat) vs:=by
 induction z with
 |nil=>exact .nil
 |cons h _ r=>exact .cons h r
theorem vA(ok:x.Ok G){i:Nat}{p:Addr×Addr}{l:List V}{b:Bs}{u:Value}(hi:σ.hp[i]? =some (.list l))(hp:as[i]? =some p)(hv:VR as (.bytes b) u)(hl:l.length+b.length≤1000000):
  ah G x as σ (call (.builtin "list.extend") [.ref p.1,u]) VR (.ok .none ⟨σ.vars,σ.hp.set i (.list (l++b.map fun c=>V.int c.toNat))⟩):=by
 refine .of_any fun s Q E hr k=>?_
 obtain⟨t,rfl⟩:=hv
 refine fh (hr.listAt hi) fun p' vs n a1 a2 a3=>?_
 rw[hp] at a1;cases a1
 have ln:=a3.length
 refine oj ok.hh a2 (by lia) fun h' tk ws n' hw hk hg=>?_
 have hs:Heap.ExtBut p.1 s.heap h':=fun c o hc e=>hk c o hc e
 exact k _ as h' tk (prefix_refl _) (hr.turnAt hp (iI hr hi hp hs) hs ⟨_,hg,fun z z=>⟨vs++ws,n',rfl,a3.append (CL hw)⟩⟩) rfl
end
end
section
open Builtin
noncomputable def om(l:List (Bs×Int))(k:Bs):V:=match l.lookup k with
 |some i=>.int i
 |none=>.none
section
variable {G:bB}{x:Fx}{as:As}{σ:St}{h:Heap}
theorem aE.dictAt(R:aE G x σ as h){i:Nat}{l:List (Bs×Int)}(e:σ.hp[i]? =some (.dict l)):∃p kvs,as[i]? =some p∧h.DictOf (bytesKind G.prog G.w) p.1 kvs∧aj BR l kvs:=by
 obtain⟨p,o1,o2,a,b1,c,kvs,d,e2⟩:=R.get e
 exact⟨p,kvs,a,Heap.dictOf_iff.mpr ⟨o1,b1,d⟩,e2⟩
set_option tactic.hygienic true in
theorem sf:∀{l:List (Bs×Int)} {kvs:List (Bs×Value)} (k:Bs),aj BR l kvs→VR as (om l k) ((valueAt kvs k).getD .none):=by
 intro l kvs k h
 induction h with
 |nil=>exact rfl
 |cons hx hr ih=>
  rename_i a b l m
  obtain⟨a1,a2⟩:=a
  obtain⟨b1,b2⟩:=b
  obtain⟨hx1,t,hx2⟩:=hx
  simp only at hx1 hx2
  subst hx1 hx2
  unfold om valueAt at ih⊢
  rw[lookup_cons,List.find?_cons]
  by_cases q:a1=k
  ·subst q
   simp only[beq_self_eq_true,decide_true,map_some,Option.getD_some]
   exact⟨t,rfl⟩
  ·rw[beq_false_of_ne (Ne.symm q)]
   simp only[q,decide_false]
   exact ih
theorem vC{i:Nat}{p:Addr×Addr}{l:List (Bs×Int)}{k:Bs}{u:Value}(hi:σ.hp[i]? =some (.dict l))(hp:as[i]? =some p)(hk:VR as (.bytes k) u):
  ah G x as σ (call (.builtin "dict.get") [.ref p.1,u]) VR (.ok (om l k) σ):=by
 refine .of_wp fun s Q E hr kk=>?_
 obtain⟨t,rfl⟩:=hk
 refine bC (hr.dictAt hi) fun p' kvs a1 hD a3=>?_
 rw[hp] at a1;cases a1
 have lo:(p.1==sysModules)=false:=beq_false_of_ne (hr.low.2 p (mem_of_getElem? hp))
 exact call_meetsIn PySem.F.slot_dict_get hD.typeIs PySem.F.entry_dict_get (PySem.F.args_dict_get_2 _ _) (meets_dict_get (bytesKind G.prog G.w) p.1 (k:=k) (by simp[bytesKind,isBytes]) lo) ⟨_,hD.mapOf,kk _ _ (sf k a3)⟩
end
end
section
open Builtin
noncomputable def lA(b c:Bs):Int:=match (if(b.length:Int) - 0 < (c.length:Int) then none else some ((0:Nat),b.length)).bind (fun(lo,hi)=>Bytes.find? b.toArray c.toArray lo hi) with
 |some i=>(i:Int)
 |none=> -1
section
variable {prog:Program}{w:World}{A:Around}{E:Value→Shared→Prop}{s:Shared}
theorem sh{b c:Bs}{t u:Tok}{Q:Value→Shared→Prop}(hq:∀t' k,Q (.int (lA b c) t') { s with toks:=k }):wpAny (model prog w) A (call (.builtin "bytes.find") [.bytes b.toArray t,.bytes c.toArray u]) Q E s:=by
 refine wpAny_call_entry fN (W.typeIs_bytes _ _ _) jq ?_ (kz _ _)
 show wpAny _ _ (Bytes.searchArgs .bytes "find" ⟨[.bytes b.toArray t,.bytes c.toArray u],[]⟩>>=_) _ _ s
 have args:∀(QQ:Array UInt8×Array UInt8×Option (Nat×Nat)→Shared→Prop),QQ (b.toArray,c.toArray,if(b.length:Int) - 0 < (c.length:Int) then none else some (0,b.length)) s→
   wpAny (model prog w) A.in1 (Bytes.searchArgs .bytes "find" ⟨[.bytes b.toArray t,.bytes c.toArray u],[]⟩) QQ E s:=by
  intro QQ hQ
  unfold Bytes.searchArgs
  refine wpAny_bind (wpAny_pure ?_)
  refine wpAny_bind (wpAny_pure ?_)
  refine wpAny_bind (wpAny_pure ?_)
  show wpAny _ _ (Bytes.buffer? _ (.bytes c.toArray u)>>=_) _ _ s
  rw[KBy.buffer_eq]
  refine wpAny_bind (wpAny_pure ?_)
  refine wpAny_bind (wpAny_pure ?_)
  refine wpAny_bind (m:=Bytes.payload (.bytes b.toArray t)) (wpAny_of_eq (a:=b.toArray) rfl ?_)
  refine wpAny_pure ?_
  have e1:Bytes.window b.toArray.size none none=(0,(b.length:Int)):=by
   unfold Bytes.window
   simp
   lia
  show QQ (b.toArray,c.toArray,if(Bytes.window b.toArray.size none none).2 - (Bytes.window b.toArray.size none none).1 < (c.toArray.size:Int) then none else some ((Bytes.window b.toArray.size none none).1.toNat,(Bytes.window b.toArray.size none none).2.toNat)) s
  rw[e1]
  simpa using hQ
 refine wpAny_bind (args _ ?_)
 show wpAny _ _ (match (if(b.length:Int) - 0 < (c.length:Int) then none else some ((0:Nat),b.length)).bind (fun(lo,hi)=>if false=true then Bytes.rfind? b.toArray c.toArray lo hi else Bytes.find? b.toArray c.toArray lo hi) with |some i=>retInt i|none=>_) _ _ s
 have e2:(fun(p:Nat×Nat)=>if false=true then Bytes.rfind? b.toArray c.toArray p.1 p.2 else Bytes.find? b.toArray c.toArray p.1 p.2)=fun p=>Bytes.find? b.toArray c.toArray p.1 p.2:=by
  funext p;rw[if_neg Bool.false_ne_true]
 unfold lA at hq
 simp only[false_eq_true,if_false]
 cases hb:(if(b.length:Int) - 0 < (c.length:Int) then none else some ((0:Nat),b.length)).bind (fun(lo,hi)=>Bytes.find? b.toArray c.toArray lo hi) with
 |some i=>
  rw[hb] at hq
  exact wpAny_bind (wpAny_mkInt (wpAny_pure ⟨_,rfl,hq _ _⟩))
 |none=>
  rw[hb] at hq
  refine wpAny_bind (wpAny_rule ?_)
  exact wpAny_bind (wpAny_mkInt (wpAny_pure ⟨_,rfl,hq _ _⟩))
end
section
variable {G:bB}{x:Fx}{as:As}{σ:St}
theorem CM{b c:Bs}{u v:Value}(hb:VR as (.bytes b) u)(hc:VR as (.bytes c) v):ah G x as σ (call (.builtin "bytes.find") [u,v]) VR (.ok (.int (lA b c)) σ):=by
 obtain⟨t,rfl⟩:=hb
 obtain⟨t',rfl⟩:=hc
 exact .of_wp fun s Q E hr k=>sh fun t' k'=>k _ _ ⟨t',rfl⟩
end
end
section
open Builtin
noncomputable def cP(sep:Bs):List Bs→Bs
 | []=>[]
 |p::ps=>p++ps.flatMap (sep++·)
theorem vD(sep:Bs)(ps:List Bs):Bytes.joined sep.toArray (ps.map toArray)=(cP sep ps).toArray:=by
 have key:∀(ps:List Bs) (k:Nat) (out:Bs),0 < k→((ps.map toArray).zipIdx k).foldl (fun out (p,i)=>(if i > 0 then out++sep.toArray else out)++p) out.toArray=(out++ps.flatMap (sep++·)).toArray:=by
  intro ps
  induction ps with
  |nil=>intro k out _;simp
  |cons p ps ih=>
   intro k out hk
   simp only[map_cons,List.zipIdx_cons,foldl_cons,gt_iff_lt,hk,if_true]
   have:out.toArray++sep.toArray++p.toArray=(out++sep++p).toArray:=by simp
   rw[this,ih (k+1) _ (succ_pos _)]
   simp
 cases ps with
 |nil=>rfl
 |cons p ps=>
  unfold Bytes.joined cP
  simp only[map_cons,List.zipIdx_cons,foldl_cons]
  have:(if 0 > 0 then(#[]:Array UInt8)++sep.toArray else #[])++p.toArray=p.toArray:=by simp
  rw[this,key ps _ _ (succ_pos _)]
noncomputable def fq:List V→Option (List Bs)
 | []=>some []
 | .bytes b::r=>(fq r).map (b::·)
 |_::_=>none
set_option tactic.hygienic true in
theorem vE{as:As}{l:List V}{vs:List Value}{ps:List Bs}(z:aj (VR as) l vs)(h:fq l=some ps):aj (fun p v=>∃t,v=.bytes (toArray p) t) ps vs:=by
 induction z generalizing ps with
 |nil=>cases h;exact .nil
 |cons hv _ ih=>
  rename_i a b l m hr
  cases a with
  |bytes b=>
   obtain⟨t,rfl⟩:=hv
   refine ak (map_eq_some_iff.mp (show(fq l).map (b::·)=some ps from h)) fun qs g q92=>?_;obtain rfl:=q92
   exact .cons ⟨t,rfl⟩ (ih g)
  |_=>exact absurd h nofun
theorem on{id:String}{b:Array UInt8}{t:Tok}:Bytes.takeBufferQuiet? id (.bytes b t) 0=pure (some (b,none)):=by
 unfold Bytes.takeBufferQuiet? Bytes.takeBuffer?
 have h0:((0:Int)==Bytes.fullReadOnly)=false:=by decide
 rw[W.KBy.special_eq W.KBy.look_buffer,W.KBy.own_buffer,h0]
 have e:=W.KBy.buffer_eq (b:=b) (t:=t) (id:=id)
 simp only[e]
 rfl
theorem pO{M:Model}{A:Around}{E:Value→Shared→Prop}{s:Shared}{keep:List Value}{Q:Unit→Shared→Prop}:∀{l:List Value},Q () s→wpAny M A (Bytes.joinLetGo (l.map (·,none)) keep) Q E s
 | [],h=>wpAny_pure h
 |x::l,h=>by
  show wpAny M A (letGo _ _>>=fun z=>Bytes.joinLetGo (l.map (·,none)) keep) Q E s
  exact wpAny_bind (wpAny_letGo (pO h))
theorem CN{ps:List Bs}{vs:List Value}(hv:aj (fun p v=>∃t,v=.bytes (toArray p) t) ps vs):(vs.map (fun v=>(v,(none:Option Value)))).any (·.1.onHeap)=false:=by
 induction hv with
 |nil=>rfl
 |cons h _ ih=>
  obtain⟨t,rfl⟩:=h
  rw[map_cons,any_cons,ih];rfl
section
variable {prog:Program}{w:World}{A:Around}{E:Value→Shared→Prop}{s:Shared}
noncomputable def Hd(v:Value):Tok:=match v with
 | .bytes _ t=>t
 |_=>0
structure mE(vs:List Value)(ps:List Bs)(s:Shared)(rest:List Nat)(st:Array (Array UInt8)×List (Value×Option Value))(s':Shared)(k:Nat):Prop where
 rest:rest=range' k (vs.length - k)
 le:k≤vs.length
 st:st=((ps.take k).map toArray |>.toArray,(vs.take k).map (·,none))
 s:s'=s
theorem mE.lt{vs:List Value}{ps:List Bs}{s s':Shared}{i k:Nat}{rest:List Nat}{st}(h:mE vs ps s (i::rest) st s' k):k < vs.length∧i=k∧rest=range' (k+1) (vs.length - (k+1)):=by
 have hr:=h.rest
 have hkl:k < vs.length:=by
  rcases Nat.lt_or_ge k vs.length with q|q
  ·exact q
  ·rw[Nat.sub_eq_zero_of_le q] at hr;cases hr
 rw[show vs.length - k=(vs.length - (k+1))+1 by lia,List.range'_succ] at hr
 injection hr with h1 h2
 exact⟨hkl,h1,h2⟩
theorem mE.next{vs:List Value}{ps:List Bs}{s s':Shared}{i k:Nat}{rest:List Nat}{st}(hlen:ps.length=vs.length)(h:mE vs ps s (i::rest) st s' k)(hv:aj (fun p v=>∃t,v=.bytes (toArray p) t) ps vs):
  ∃p,(vs.toArray).getD i Value.none=Value.bytes p (Hd ((vs.toArray).getD i Value.none))∧mE vs ps s rest (st.1.push p,st.2++[((vs.toArray).getD i Value.none,none)]) s (k+1):=by
 refine jj h.lt fun hkl q91 hrest=>?_;obtain rfl:=q91
 have hpl:i < ps.length:=hlen ▸ hkl
 obtain⟨v0,hv0,t0,hvt⟩:=hv.get (getElem?_eq_getElem hpl)
 have hv1:vs[i]=Value.bytes (ps[i]).toArray t0:=by
  have:=getElem?_eq_getElem hkl
  rw[this] at hv0;cases hv0;exact hvt
 have hx:(vs.toArray).getD i Value.none=vs[i]:=by simp[Array.getD,hkl]
 refine⟨(ps[i]).toArray,?_,hrest,hkl,?_,rfl⟩
 ·rw[hx,hv1];rfl
 ·have e1:ps.take (i+1)=ps.take i++[ps[i]]:=by rw[List.take_add_one,getElem?_eq_getElem hpl];rfl
  have e2:vs.take (i+1)=vs.take i++[vs[i]]:=by rw[List.take_add_one,getElem?_eq_getElem hkl];rfl
  rw[h.st,hx,e1,e2,List.map_append,List.map_append]
  simp
theorem mE.free{vs:List Value}{ps:List Bs}{s s':Shared}{k:Nat}{rest:List Nat}{st}(h:mE vs ps s rest st s' k)(hv:aj (fun p v=>∃t,v=.bytes (toArray p) t) ps vs):
  (Bytes.Kind.bytes==Bytes.Kind.bytearray||st.2.any fun x=>x.1.onHeap)=false:=by
 rw[h.st]
 show(false||List.any _ _)=false
 rw[CN (hv.take k)];rfl
theorem mE.done{vs:List Value}{ps:List Bs}{s s':Shared}{k:Nat}{st}(hlen:ps.length=vs.length)(h:mE vs ps s [] st s' k):st=((ps.map toArray).toArray,vs.map (·,none)):=by
 have hke:k=vs.length:=by
  have:=congrArg List.length h.rest
  have l:=h.le
  simp at this;lia
 rw[h.st,hke,List.take_length,←hlen,List.take_length]
theorem vF{b:Bs}{ps:List Bs}(hz:ps.foldl (fun n p=>n+p.length) (b.length * (ps.length - 1))≤1000000):
  Bytes.tooLong (Array.foldl (fun x1 x2=>x1+x2.size) (b.toArray.size * ((ps.map toArray).toArray.size - 1)) (ps.map toArray).toArray)=false:=by
 refine W.KBy.tooLong_not ?_
 have:Array.foldl (fun x1 x2=>x1+x2.size) (b.toArray.size * ((ps.map toArray).toArray.size - 1)) (ps.map toArray).toArray=ps.foldl (fun n p=>n+p.length) (b.length * (ps.length - 1)):=by
  simp[List.foldl_map]
 rw[this];exact bA hz rfl
noncomputable def si(prog:Program)(w:World)(A:Around)(E:Value→Shared→Prop)(s:Shared)(b:Bs)(t:Tok)(l:Addr)(r:Bs)(Q:Value→Shared→Prop):Prop:=(∀t' k,Q (.bytes r.toArray t') { s with toks:=k })→wpAny (model prog w) A (Bytes.joinM .bytes ⟨[.bytes b.toArray t,.ref l],[]⟩) (fun fin s'=>∃v,fin=.done (.ret v)∧Q v s') E s
theorem xx{b:Bs}{t:Tok}{l:Addr}{v1:Value}{p:Bs}{Q:Value→Shared→Prop}(hl:s.heap.IsList l #[v1])(h:∃t,v1=.bytes (toArray p) t):si prog w A E s b t l (cP b [p]) Q:=by
 obtain⟨t0,rfl⟩:=h
 obtain⟨o,ho,hc,n,hd⟩:=id hl
 intro hq
 unfold Bytes.joinM
 refine wpAny_bind (wpAny_pure (wpAny_bind (m:=Bytes.joinItems (.ref l)) ?_))
 unfold Bytes.joinItems
 refine wpAny_bind (wpAny_typeOf hl.typeIs (wpAny_pure (wpAny_bind (wpAny_seqItems ho hd ?_))))
 dsimp only
 rw[if_pos (by decide)]
 show wpAny _ _ (typeOf (Value.bytes _ t0)>>=_) _ _ _
 refine wpAny_bind (wpAny_typeOf (T:="bytes") rfl ?_)
 rw[if_pos (by decide)]
 refine wpAny_bind (wpAny_rule (wpAny_pure ⟨_,rfl,?_⟩))
 show Q (Value.bytes _ t0) s
 have:=hq t0 s.toks
 simpa [cP] using this
theorem xy{b:Bs}{t:Tok}{l:Addr}{Q:Value→Shared→Prop}(hl:s.heap.IsList l #[]):si prog w A E s b t l (cP b []) Q:=by
 obtain⟨o,ho,hc,n,hd⟩:=id hl
 intro hq
 unfold Bytes.joinM
 refine wpAny_bind (wpAny_pure (wpAny_bind (m:=Bytes.joinItems (.ref l)) ?_))
 unfold Bytes.joinItems
 refine wpAny_bind (wpAny_typeOf hl.typeIs (wpAny_pure (wpAny_bind (wpAny_seqItems ho hd ?_))))
 dsimp only
 rw[if_pos (by decide)]
 show wpAny _ _ (forIn [:0] _ _>>=_) _ _ _
 rw[Std.Legacy.Range.forIn_eq_forIn_range']
 refine wpAny_bind (wpAny_pure (wpAny_bind (m:=Bytes.payload (.bytes b.toArray t)) (wpAny_of_eq (a:=b.toArray) rfl ?_)))
 rw[show Bytes.tooLong (Array.foldl (fun x1 x2=>x1+x2.size) (b.toArray.size * ((#[]:Array (Array UInt8)).size - 1)) (#[]:Array (Array UInt8)))=false by simp[Bytes.tooLong],if_neg Bool.false_ne_true]
 refine wpAny_bind (m:=mkBytes _) (wpAny_mkBytes (wpAny_bind (wpAny_holding (wpAny_point (wpAny_bind (wpAny_pure (wpAny_pure ⟨_,rfl,hq _ _⟩)))))) (by simp[Bytes.joined]))
theorem vG{b:Bs}{t:Tok}{l:Addr}{v1 v2:Value}{r:List Value}{ps:List Bs}{Q:Value→Shared→Prop}(hl:s.heap.IsList l (v1::v2::r).toArray)(hv:aj (fun p v=>∃t,v=.bytes (toArray p) t) ps (v1::v2::r))
  (hz:ps.foldl (fun n p=>n+p.length) (b.length * (ps.length - 1))≤1000000) (hz2:(cP b ps).length≤1000000):si prog w A E s b t l (cP b ps) Q:=by
 obtain⟨o,ho,hc,n,hd⟩:=id hl
 intro hq
 have hlen:=hv.length
 have hs:=vF hz
 have hj:=vD b ps
 unfold Bytes.joinM
 refine wpAny_bind (wpAny_pure (wpAny_bind (m:=Bytes.joinItems (.ref l)) ?_))
 unfold Bytes.joinItems
 refine wpAny_bind (wpAny_typeOf hl.typeIs (wpAny_pure (wpAny_bind (wpAny_seqItems ho hd ?_))))
 dsimp only
 rw[if_pos (by decide)]
 show wpAny _ _ (forIn [:(v1::v2::r).toArray.size] _ _>>=_) _ _ _
 generalize v1::v2::r=vs at ho hd hv hlen
 rw[Std.Legacy.Range.forIn_eq_forIn_range']
 refine wpAny_bind (wpAny_forIn_list _ (fun rest st s'=>∃k,mE vs ps s rest st s' k) _ ?_ ?_ _ _ ⟨0,by simp[Std.Legacy.Range.size],zero_le _,by simp,rfl⟩)
 ·rintro i rest st s' ⟨k,h⟩
  have hf:=h.free hv
  obtain rfl:=h.lt.2.1
  refine ak (h.next hlen hv) fun p hx hn=>?_
  obtain rfl:=h.s
  refine wpAny_bind (wpAny_seqItems ho hd ?_)
  dsimp only
  rw[hx,hf,if_neg Bool.false_ne_true]
  refine wpAny_bind (wpAny_holding (wpAny_of_eq on ?_))
  dsimp only
  refine wpAny_bind (wpAny_seqItems ho hd ?_)
  dsimp only
  rw[if_neg (by simp)]
  exact wpAny_pure ⟨i+1,hx ▸ hn⟩
 ·rintro st s' ⟨k,h⟩
  obtain rfl:=h.done hlen
  obtain rfl:=h.s
  refine wpAny_bind (m:=Bytes.payload (.bytes b.toArray t)) (wpAny_of_eq (a:=b.toArray) rfl ?_)
  rw[hs,if_neg Bool.false_ne_true]
  dsimp only
  rw[hj]
  refine wpAny_bind (m:=mkBytes _) (wpAny_mkBytes (wpAny_bind (wpAny_holding (wpAny_point (wpAny_bind (pO (wpAny_pure ⟨_,rfl,hq _ _⟩)))))) (by simp[sizeLine_eq];exact bA hz2 rfl))
theorem sj{b:Bs}{t:Tok}{l:Addr}{vs:List Value}{ps:List Bs}{Q:Value→Shared→Prop}(hl:s.heap.IsList l vs.toArray)(hv:aj (fun p v=>∃t,v=.bytes (toArray p) t) ps vs)(hz:ps.foldl (fun n p=>n+p.length) (b.length * (ps.length - 1))≤1000000)
  (hz2:(cP b ps).length≤1000000) (hq:∀t' k,Q (.bytes (cP b ps).toArray t') { s with toks:=k }):wpAny (model prog w) A (call (.builtin "bytes.join") [.bytes b.toArray t,.ref l]) Q E s:=by
 refine wpAny_call_entry dj (W.typeIs_bytes _ _ _) jr ?_ (kA _ _)
 show wpAny _ _ (Bytes.joinM .bytes ⟨[.bytes b.toArray t,.ref l],[]⟩) _ _ s
 cases hv with
 |nil=>exact xy hl hq
 |cons h hr=>
  cases hr with
  |nil=>exact xx hl h hq
  |cons h2 hr=>exact vG hl (.cons h (.cons h2 hr)) hz hz2 hq
end
section
variable {G:bB}{x:Fx}{as:As}{σ:St}
theorem CO{i:Nat}{p:Addr×Addr}{l:List V}{b:Bs}{ps:List Bs}{u:Value}(hi:σ.hp[i]? =some (.list l))(hp:as[i]? =some p)(hb:VR as (.bytes b) u)(hps:fq l=some ps)(hz:ps.foldl (fun n p=>n+p.length) (b.length * (ps.length - 1))≤1000000)(hz2:(cP b ps).length≤1000000):
  ah G x as σ (call (.builtin "bytes.join") [u,.ref p.1]) VR (.ok (.bytes (cP b ps)) σ):=by
 refine .of_wp fun s Q E hr k=>?_
 obtain⟨t,rfl⟩:=hb
 refine bC (hr.listOf' hi) fun p' vs a1 L a3=>?_
 rw[hp] at a1;cases a1
 exact sj L (vE a3 hps) hz hz2 fun t' k'=>k _ _ ⟨t',rfl⟩
end
end
section
set_option backward.match.sparseCases false
structure bY where
 addr:Addr
 np:Nat
 names:List Str
 body:Ss
noncomputable def j7:bY:=⟨96,1,[("value":Str)],(.cons (.ret (.and (.call (.con (.sta (.builtin "isinstance"))) (.cons (.loc 0) (.cons (.con (.sta (.type "int"))) .nil))) (.not (.call (.con (.sta (.builtin "isinstance"))) (.cons (.loc 0) (.cons (.con (.sta (.type "bool"))) .nil))))))
 .nil)⟩
noncomputable def sm:bY:=⟨103,2,[("n":Str),("width":Str),("low":Str)],(.cons (.asg 2 (.bin .BitAnd (.loc 0) (.bin .Sub (.bin .LShift (.con (.int 1)) (.loc 1)) (.con (.int 1)))))
 (.cons (.ite (.cmp .GtE (.loc 2) (.bin .LShift (.con (.int 1)) (.bin .Sub (.loc 1) (.con (.int 1))))) (.cons (.ret (.bin .Sub (.loc 2) (.bin .LShift (.con (.int 1)) (.loc 1))))
 .nil) .nil)
 (.cons (.ret (.loc 2))
 .nil)))⟩
noncomputable def er:bY:=⟨110,1,[("octet":Str)],(.cons (.ret (.cmp .In (.loc 0) (.con (.bytes [32,9,10,11,12,13]))))
 .nil)⟩
noncomputable def dM:bY:=⟨117,1,[("octet":Str)],(.cons (.ite (.cmp2 .LtE .LtE (.con (.int 48)) (.loc 0) (.con (.int 57))) (.cons (.ret (.bin .Sub (.loc 0) (.con (.int 48))))
 .nil) .nil)
 (.cons (.ite (.cmp2 .LtE .LtE (.con (.int 97)) (.loc 0) (.con (.int 122))) (.cons (.ret (.bin .Sub (.loc 0) (.con (.int 87))))
 .nil) .nil)
 (.cons (.ite (.cmp2 .LtE .LtE (.con (.int 65)) (.loc 0) (.con (.int 90))) (.cons (.ret (.bin .Sub (.loc 0) (.con (.int 55))))
 .nil) .nil)
 (.cons (.ret (.neg (.con (.int 1))))
 .nil))))⟩
noncomputable def gZ:bY:=⟨124,4,[("text":Str),("at":Str),("base":Str),("width":Str),("found":Str),("most":Str),("digit":Str)],(.cons (.unpk true [4,5] (.tup (.cons (.con (.int 0)) (.cons (.bin .Sub (.bin .LShift (.con (.int 1)) (.loc 3)) (.con (.int 1))) .nil))))
 (.cons (.whl (.cmp .Lt (.loc 1) (.call (.con (.sta (.builtin "len"))) (.cons (.loc 0) .nil))) (.cons (.asg 6 (.call (.con (.sta (.ref 117))) (.cons (.sub (.loc 0) (.loc 1)) .nil)))
 (.cons (.ite (.or (.cmp .Lt (.loc 6) (.con (.int 0))) (.cmp .GtE (.loc 6) (.loc 2))) (.cons .brk
 .nil) .nil)
 (.cons (.asg 4 (.bin .BitAnd (.bin .Add (.bin .Mult (.loc 4) (.loc 2)) (.loc 6)) (.loc 5)))
 (.cons (.asg 1 (.bin .Add (.loc 1) (.con (.int 1))))
 .nil)))))
 (.cons (.ret (.tup (.cons (.loc 4) (.cons (.loc 1) .nil))))
 .nil)))⟩
noncomputable def g5:bY:=⟨131,2,[("text":Str),("at":Str)],(.cons (.whl (.and (.cmp .Lt (.loc 1) (.call (.con (.sta (.builtin "len"))) (.cons (.loc 0) .nil))) (.call (.con (.sta (.ref 110))) (.cons (.sub (.loc 0) (.loc 1)) .nil))) (.cons (.asg 1 (.bin .Add (.loc 1) (.con (.int 1))))
 .nil))
 (.cons (.ret (.loc 1))
 .nil))⟩
noncomputable def fQ:bY:=⟨138,2,[("text":Str),("limits":Str)],(.cons (.ret (.call (.con (.sta (.ref 145))) (.cons (.loc 0) (.cons (.con (.int 0)) (.cons (.loc 1) .nil)))))
 .nil)⟩
noncomputable def dN:bY:=⟨145,3,[("text":Str),("base":Str),("limits":Str),("is_marked":Str),("at":Str),("is_below":Str),("found":Str),("end":Str)],(.cons (.unpk true [4,5] (.tup (.cons (.call (.con (.sta (.ref 131))) (.cons (.loc 0) (.cons (.con (.int 0)) .nil))) (.cons (.con (.bool false)) .nil))))
 (.cons (.ite (.and (.cmp .Lt (.loc 4) (.call (.con (.sta (.builtin "len"))) (.cons (.loc 0) .nil))) (.cmp .In (.sub (.loc 0) (.loc 4)) (.con (.bytes [43,45])))) (.cons (.asg 5 (.cmp .Eq (.sub (.loc 0) (.loc 4)) (.con (.int 45))))
 (.cons (.asg 4 (.bin .Add (.loc 4) (.con (.int 1))))
 .nil)) .nil)
 (.cons (.asg 3 (.and (.cmp .Lt (.bin .Add (.loc 4) (.con (.int 2))) (.call (.con (.sta (.builtin "len"))) (.cons (.loc 0) .nil))) (.and (.cmp .Eq (.sub (.loc 0) (.loc 4)) (.con (.int 48))) (.and (.cmp .In (.sub (.loc 0) (.bin .Add (.loc 4) (.con (.int 1)))) (.con (.bytes [120,88]))) (.cmp .In (.loc 1) (.tup (.cons (.con (.int 0)) (.cons (.con (.int 16)) .nil))))))))
 (.cons (.ite (.and (.loc 3) (.cmp2 .LtE .Lt (.con (.int 0)) (.call (.con (.sta (.ref 117))) (.cons (.sub (.loc 0) (.bin .Add (.loc 4) (.con (.int 2)))) .nil)) (.con (.int 16)))) (.cons (.unpk true [4,1] (.tup (.cons (.bin .Add (.loc 4) (.con (.int 2))) (.cons (.con (.int 16)) .nil))))
 .nil) .nil)
 (.cons (.unpk false [6,7] (.call (.con (.sta (.ref 124))) (.cons (.loc 0) (.cons (.loc 4) (.cons (.ite (.cmp .Eq (.loc 1) (.con (.int 0))) (.con (.int 10)) (.loc 1)) (.cons (.attr (.loc 2) 0) .nil))))))
 (.cons (.ite (.or (.cmp .Eq (.loc 7) (.loc 4)) (.cmp .NotEq (.call (.con (.sta (.ref 131))) (.cons (.loc 0) (.cons (.loc 7) .nil))) (.call (.con (.sta (.builtin "len"))) (.cons (.loc 0) .nil)))) (.cons (.ret (.con .none))
 .nil) .nil)
 (.cons (.ret (.call (.con (.sta (.ref 103))) (.cons (.ite (.loc 5) (.neg (.loc 6)) (.loc 6)) (.cons (.attr (.loc 2) 0) .nil))))
 .nil)))))))⟩
noncomputable def g6:bY:=⟨152,1,[("n":Str),("left":Str),("found":Str)],(.cons (.unpk true [1,2] (.tup (.cons (.call (.con (.sta (.builtin "abs"))) (.cons (.loc 0) .nil)) (.cons (.list .nil) .nil))))
 (.cons (.whl (.cmp .Gt (.loc 1) (.con (.int 9))) (.cons (.expr (.meth (.loc 2) 2 (.cons (.bin .Add (.con (.int 48)) (.bin .Mod (.loc 1) (.con (.int 10)))) .nil)))
 (.cons (.asg 1 (.bin .FloorDiv (.loc 1) (.con (.int 10))))
 .nil)))
 (.cons (.expr (.meth (.loc 2) 2 (.cons (.bin .Add (.con (.int 48)) (.loc 1)) .nil)))
 (.cons (.ite (.cmp .Lt (.loc 0) (.con (.int 0))) (.cons (.expr (.meth (.loc 2) 2 (.cons (.con (.int 45)) .nil)))
 .nil) .nil)
 (.cons (.expr (.meth (.loc 2) 1 .nil))
 (.cons (.ret (.call (.con (.sta (.type "bytes"))) (.cons (.loc 2) .nil)))
 .nil))))))⟩
noncomputable def mV:bY:=⟨159,1,[("value":Str)],(.cons (.ite (.call (.con (.sta (.builtin "isinstance"))) (.cons (.loc 0) (.cons (.con (.sta (.type "bytes"))) .nil))) (.cons (.ret (.loc 0))
 .nil) .nil)
 (.cons (.ite (.call (.con (.sta (.ref 96))) (.cons (.loc 0) .nil)) (.cons (.ret (.call (.con (.sta (.ref 152))) (.cons (.loc 0) .nil)))
 .nil) .nil)
 (.cons (.ret (.con .none))
 .nil)))⟩
noncomputable def pP:bY:=⟨166,1,[("text":Str),("at":Str)],(.cons (.asg 1 (.con (.int 0)))
 (.cons (.whl (.and (.cmp .Lt (.loc 1) (.call (.con (.sta (.builtin "len"))) (.cons (.loc 0) .nil))) (.cmp .NotEq (.sub (.loc 0) (.loc 1)) (.con (.int 0)))) (.cons (.asg 1 (.bin .Add (.loc 1) (.con (.int 1))))
 .nil))
 (.cons (.ret (.slc (.loc 0) (.con .none) (.loc 1)))
 .nil)))⟩
noncomputable def oq:bY:=⟨173,1,[("text":Str),("at":Str)],(.cons (.asg 1 (.con (.int 0)))
 (.cons (.whl (.and (.cmp .Lt (.loc 1) (.call (.con (.sta (.builtin "len"))) (.cons (.loc 0) .nil))) (.and (.cmp .NotEq (.sub (.loc 0) (.loc 1)) (.con (.int 10))) (.cmp .NotEq (.sub (.loc 0) (.loc 1)) (.con (.int 13))))) (.cons (.asg 1 (.bin .Add (.loc 1) (.con (.int 1))))
 .nil))
 (.cons (.ret (.slc (.loc 0) (.con .none) (.loc 1)))
 .nil)))⟩
noncomputable def lB:bY:=⟨180,2,[("source":Str),("size":Str),("line":Str),("room":Str),("name":Str)],(.cons (.asg 0 (.call (.con (.sta (.ref 166))) (.cons (.loc 0) .nil)))
 (.cons (.ite (.cmp .Eq (.slc (.loc 0) (.con .none) (.con (.int 1))) (.con (.bytes [61]))) (.cons (.ret (.slc (.loc 0) (.con (.int 1)) (.loc 1)))
 .nil) .nil)
 (.cons (.ite (.cmp .Eq (.slc (.loc 0) (.con .none) (.con (.int 1))) (.con (.bytes [64]))) (.cons (.unpk true [3,4] (.tup (.cons (.call (.con (.sta (.builtin "max"))) (.cons (.bin .Sub (.loc 1) (.con (.int 8))) (.cons (.con (.int 0)) .nil))) (.cons (.slc (.loc 0) (.con (.int 1)) (.con .none)) .nil))))
 (.cons (.ret (.ite (.cmp .Gt (.call (.con (.sta (.builtin "len"))) (.cons (.loc 4) .nil)) (.loc 3)) (.bin .Add (.con (.bytes [46,46,46])) (.slc (.loc 4) (.bin .Sub (.call (.con (.sta (.builtin "len"))) (.cons (.loc 4) .nil)) (.loc 3)) (.con .none))) (.loc 4)))
 .nil)) .nil)
 (.cons (.unpk true [2,3] (.tup (.cons (.call (.con (.sta (.ref 173))) (.cons (.loc 0) .nil)) (.cons (.call (.con (.sta (.builtin "max"))) (.cons (.bin .Sub (.loc 1) (.con (.int 17))) (.cons (.con (.int 0)) .nil))) .nil))))
 (.cons (.ite (.cmp .Gt (.call (.con (.sta (.builtin "len"))) (.cons (.loc 2) .nil)) (.loc 3)) (.cons (.asg 2 (.slc (.loc 2) (.con .none) (.loc 3)))
 .nil) .nil)
 (.cons (.ite (.cmp .Lt (.call (.con (.sta (.builtin "len"))) (.cons (.loc 2) .nil)) (.call (.con (.sta (.builtin "len"))) (.cons (.loc 0) .nil))) (.cons (.asg 2 (.bin .Add (.loc 2) (.con (.bytes [46,46,46]))))
 .nil) .nil)
 (.cons (.ret (.bin .Add (.bin .Add (.con (.bytes [91,115,116,114,105,110,103,32,34])) (.loc 2)) (.con (.bytes [34,93]))))
 .nil)))))))⟩
noncomputable def t8:bY:=⟨187,1,[("text":Str),("found":Str),("octet":Str)],(.cons (.asg 1 (.list (.cons (.con (.int 34)) .nil)))
 (.cons (.forB 2 (.loc 0) (.cons (.ite (.cmp .In (.loc 2) (.con (.bytes [34,92,10]))) (.cons (.expr (.meth (.loc 1) 3 (.cons (.list (.cons (.con (.int 92)) (.cons (.loc 2) .nil))) .nil)))
 .nil) (.cons (.ite (.cmp .Eq (.loc 2) (.con (.int 13))) (.cons (.expr (.meth (.loc 1) 3 (.cons (.con (.bytes [92,114])) .nil)))
 .nil) (.cons (.ite (.cmp .Eq (.loc 2) (.con (.int 0))) (.cons (.expr (.meth (.loc 1) 3 (.cons (.con (.bytes [92,48,48,48])) .nil)))
 .nil) (.cons (.expr (.meth (.loc 1) 2 (.cons (.loc 2) .nil)))
 .nil))
 .nil))
 .nil))
 .nil))
 (.cons (.expr (.meth (.loc 1) 2 (.cons (.con (.int 34)) .nil)))
 (.cons (.ret (.call (.con (.sta (.type "bytes"))) (.cons (.loc 1) .nil)))
 .nil))))⟩
noncomputable def lC:bY:=⟨196,1,[("sign":Str)],(.cons (.ret (.cmp2 .LtE .LtE (.con (.int 48)) (.loc 0) (.con (.int 57))))
 .nil)⟩
noncomputable def j8:bY:=⟨203,1,[("sign":Str)],(.cons (.ret (.or (.cmp2 .LtE .LtE (.con (.int 65)) (.loc 0) (.con (.int 90))) (.or (.cmp2 .LtE .LtE (.con (.int 97)) (.loc 0) (.con (.int 122))) (.cmp .Eq (.loc 0) (.con (.int 95))))))
 .nil)⟩
noncomputable def f0:bY:=⟨210,1,[("sign":Str)],(.cons (.ret (.or (.call (.con (.sta (.ref 203))) (.cons (.loc 0) .nil)) (.call (.con (.sta (.ref 196))) (.cons (.loc 0) .nil))))
 .nil)⟩
noncomputable def eU:bY:=⟨217,1,[("sign":Str)],(.cons (.ret (.or (.cmp .Eq (.loc 0) (.con (.int 32))) (.cmp2 .LtE .LtE (.con (.int 9)) (.loc 0) (.con (.int 13)))))
 .nil)⟩
noncomputable def iP:bY:=⟨224,1,[("sign":Str)],(.cons (.ret (.or (.cmp2 .LtE .Lt (.con (.int 0)) (.loc 0) (.con (.int 32))) (.cmp .Eq (.loc 0) (.con (.int 127)))))
 .nil)⟩
noncomputable def iQ:bY:=⟨231,1,[("sign":Str)],(.cons (.ret (.cmp .In (.loc 0) (.tup (.cons (.con (.int 10)) (.cons (.con (.int 13)) .nil)))))
 .nil)⟩
noncomputable def dO:bY:=⟨238,1,[("sign":Str),("at":Str)],(.cons (.asg 1 (.meth (.con (.bytes [97,98,102,110,114,116,118])) 4 (.cons (.call (.con (.sta (.type "bytes"))) (.cons (.list (.cons (.loc 0) .nil)) .nil)) .nil)))
 (.cons (.ret (.ite (.cmp .Lt (.loc 1) (.con (.int 0))) (.con .none) (.sub (.con (.bytes [7,8,12,10,13,9,11])) (.loc 1))))
 .nil))⟩
noncomputable def dC:bY:=⟨252,1,[("kind":Str),("at":Str)],(.cons (.ite (.cmp .Lt (.loc 0) (.con (.int 257))) (.cons (.ite (.call (.con (.sta (.ref 224))) (.cons (.loc 0) .nil)) (.cons (.ret (.bin .Add (.bin .Add (.con (.bytes [99,104,97,114,40])) (.call (.con (.sta (.ref 159))) (.cons (.loc 0) .nil))) (.con (.bytes [41]))))
 .nil) .nil)
 (.cons (.ret (.call (.con (.sta (.type "bytes"))) (.cons (.list (.cons (.loc 0) .nil)) .nil)))
 .nil)) .nil)
 (.cons (.asg 1 (.bin .Sub (.loc 0) (.con (.int 257))))
 (.cons (.ret (.ite (.cmp .Lt (.loc 1) (.call (.con (.sta (.builtin "len"))) (.cons (.con (.sta (.ref 188))) .nil))) (.sub (.con (.sta (.ref 188))) (.loc 1)) (.sub (.con (.sta (.ref 189))) (.bin .Sub (.loc 1) (.call (.con (.sta (.builtin "len"))) (.cons (.con (.sta (.ref 188))) .nil))))))
 .nil)))⟩
noncomputable def b8:bY:=⟨266,3,[("self":Str),("kind":Str),("value":Str)],(.cons (.setA (.loc 0) 6 (.loc 1))
 (.cons (.setA (.loc 0) 5 (.loc 2))
 .nil))⟩
noncomputable def b9:bY:=⟨287,4,[("self":Str),("text":Str),("chunk":Str),("limits":Str)],(.cons (.setA (.loc 0) 18 (.loc 1))
 (.cons (.setA (.loc 0) 17 (.loc 2))
 (.cons (.setA (.loc 0) 16 (.call (.con (.sta (.ref 180))) (.cons (.loc 2) (.cons (.con (.int 80)) .nil))))
 (.cons (.setA (.loc 0) 15 (.loc 3))
 (.cons (.setA (.loc 0) 14 (.call (.con (.sta (.ref 245))) .nil))
 (.cons (.setA (.loc 0) 13 (.con (.int 0)))
 (.cons (.setA (.loc 0) 12 (.ite (.cmp .Gt (.call (.con (.sta (.builtin "len"))) (.cons (.loc 1) .nil)) (.con (.int 0))) (.sub (.loc 1) (.con (.int 0))) (.con (.int (-1)))))
 (.cons (.setA (.loc 0) 11 (.con (.int 1)))
 (.cons (.setA (.loc 0) 10 (.con (.int 1)))
 (.cons (.setA (.loc 0) 9 (.call (.con (.sta (.type "bytearray"))) .nil))
 (.cons (.setA (.loc 0) 8 (.call (.con (.sta (.ref 269))) (.cons (.con (.int 287)) (.cons (.con .none) .nil))))
 (.cons (.setA (.loc 0) 7 (.con .none))
 .nil))))))))))))⟩
noncomputable def ft:bY:=⟨294,1,[("self":Str)],(.cons (.setA (.loc 0) 10 (.attr (.loc 0) 11))
 (.cons (.ite (.cmp .IsNot (.attr (.loc 0) 7) (.con .none)) (.cons (.setA (.loc 0) 8 (.attr (.loc 0) 7))
 (.cons (.setA (.loc 0) 7 (.con .none))
 .nil)) (.cons (.setA (.loc 0) 8 (.meth (.loc 0) 19 .nil))
 .nil))
 (.cons (.ret (.attr (.loc 0) 8))
 .nil)))⟩
noncomputable def g7:bY:=⟨308,3,[("self":Str),("text":Str),("kind":Str),("message":Str)],(.cons (.asg 3 (.bin .Add (.bin .Add (.bin .Add (.bin .Add (.attr (.loc 0) 16) (.con (.bytes [58]))) (.call (.con (.sta (.ref 159))) (.cons (.attr (.loc 0) 11) .nil))) (.con (.bytes [58,32]))) (.loc 1)))
 (.cons (.ite (.and (.cmp .IsNot (.loc 2) (.con .none)) (.cmp .NotEq (.loc 2) (.con (.int 0)))) (.cons (.asg 3 (.bin .Add (.bin .Add (.bin .Add (.loc 3) (.con (.bytes [32,110,101,97,114,32,39]))) (.meth (.loc 0) 20 (.cons (.loc 2) .nil))) (.con (.bytes [39]))))
 .nil) .nil)
 (.cons (.rais (.loc 3))
 .nil)))⟩
noncomputable def ga:bY:=⟨315,2,[("self":Str),("text":Str)],(.cons (.expr (.meth (.loc 0) 21 (.cons (.loc 1) (.cons (.attr (.attr (.loc 0) 8) 6) .nil))))
 .nil)⟩
noncomputable def cH:bY:=⟨322,2,[("self":Str),("kind":Str)],(.cons (.ite (.cmp .In (.loc 1) (.tup (.cons (.con (.int 285)) (.cons (.con (.int 286)) (.cons (.con (.int 284)) .nil))))) (.cons (.ret (.call (.con (.sta (.ref 166))) (.cons (.call (.con (.sta (.type "bytes"))) (.cons (.attr (.loc 0) 9) .nil)) .nil)))
 .nil) .nil)
 (.cons (.ret (.call (.con (.sta (.ref 252))) (.cons (.loc 1) .nil)))
 .nil))⟩
noncomputable def iR:bY:=⟨329,1,[("self":Str)],(.cons (.augA (.loc 0) 13 .Add (.con (.int 1)))
 (.cons (.setA (.loc 0) 12 (.ite (.cmp .Lt (.attr (.loc 0) 13) (.call (.con (.sta (.builtin "len"))) (.cons (.attr (.loc 0) 18) .nil))) (.sub (.attr (.loc 0) 18) (.attr (.loc 0) 13)) (.con (.int (-1)))))
 .nil))⟩
noncomputable def iS:bY:=⟨336,2,[("self":Str),("sign":Str)],(.cons (.ite (.cmp .GtE (.call (.con (.sta (.builtin "len"))) (.cons (.attr (.loc 0) 9) .nil)) (.attr (.attr (.loc 0) 15) 18)) (.cons (.expr (.meth (.loc 0) 21 (.cons (.con (.bytes [108,101,120,105,99,97,108,32,101,108,101,109,101,110,116,32,116,111,111,32,108,111,110,103])) (.cons (.con .none) .nil))))
 .nil) .nil)
 (.cons (.expr (.meth (.attr (.loc 0) 9) 2 (.cons (.loc 1) .nil)))
 .nil))⟩
noncomputable def cQ:bY:=⟨343,1,[("self":Str)],(.cons (.expr (.meth (.loc 0) 23 (.cons (.attr (.loc 0) 12) .nil)))
 (.cons (.expr (.meth (.loc 0) 22 .nil))
 .nil))⟩
noncomputable def dk:bY:=⟨350,2,[("self":Str),("signs":Str)],(.cons (.ite (.cmp .NotIn (.attr (.loc 0) 12) (.loc 1)) (.cons (.ret (.con (.bool false)))
 .nil) .nil)
 (.cons (.expr (.meth (.loc 0) 24 .nil))
 (.cons (.ret (.con (.bool true)))
 .nil)))⟩
noncomputable def g8:bY:=⟨357,1,[("self":Str)],(.cons (.setA (.loc 0) 9 (.call (.con (.sta (.type "bytearray"))) .nil))
 .nil)⟩
noncomputable def cW:bY:=⟨364,1,[("self":Str),("first":Str)],(.cons (.asg 1 (.attr (.loc 0) 12))
 (.cons (.expr (.meth (.loc 0) 22 .nil))
 (.cons (.ite (.and (.call (.con (.sta (.ref 231))) (.cons (.attr (.loc 0) 12) .nil)) (.cmp .NotEq (.attr (.loc 0) 12) (.loc 1))) (.cons (.expr (.meth (.loc 0) 22 .nil))
 .nil) .nil)
 (.cons (.augA (.loc 0) 11 .Add (.con (.int 1)))
 (.cons (.ite (.cmp .GtE (.attr (.loc 0) 11) (.con (.int 2147483645))) (.cons (.expr (.meth (.loc 0) 25 (.cons (.con (.bytes [99,104,117,110,107,32,104,97,115,32,116,111,111,32,109,97,110,121,32,108,105,110,101,115])) .nil)))
 .nil) .nil)
 .nil)))))⟩
noncomputable def dD:bY:=⟨371,1,[("self":Str),("sign":Str)],(.cons (.expr (.meth (.loc 0) 33 .nil))
 (.cons (.whl (.meth (.loc 0) 32 .nil) (.cons .pass
 .nil))
 (.cons (.asg 1 (.attr (.loc 0) 12))
 (.cons (.ite (.cmp .Eq (.loc 1) (.con (.int (-1)))) (.cons (.ret (.call (.con (.sta (.ref 269))) (.cons (.con (.int 287)) (.cons (.con .none) .nil))))
 .nil) .nil)
 (.cons (.ite (.cmp .In (.loc 1) (.tup (.cons (.con (.int 34)) (.cons (.con (.int 39)) .nil)))) (.cons (.ret (.meth (.loc 0) 31 (.cons (.loc 1) .nil)))
 .nil) .nil)
 (.cons (.ite (.cmp .Eq (.loc 1) (.con (.int 91))) (.cons (.ret (.meth (.loc 0) 30 .nil))
 .nil) .nil)
 (.cons (.ite (.cmp .Eq (.loc 1) (.con (.int 46))) (.cons (.ret (.meth (.loc 0) 29 .nil))
 .nil) .nil)
 (.cons (.ite (.call (.con (.sta (.ref 196))) (.cons (.loc 1) .nil)) (.cons (.ret (.meth (.loc 0) 28 .nil))
 .nil) .nil)
 (.cons (.ite (.call (.con (.sta (.ref 203))) (.cons (.loc 1) .nil)) (.cons (.ret (.meth (.loc 0) 27 .nil))
 .nil) .nil)
 (.cons (.ite (.cmp .Eq (.loc 1) (.con (.int 45))) (.cons (.expr (.meth (.loc 0) 22 .nil))
 (.cons (.ret (.call (.con (.sta (.ref 269))) (.cons (.con (.int 45)) (.cons (.con .none) .nil))))
 .nil)) .nil)
 (.cons (.ite (.cmp .In (.loc 1) (.tup (.cons (.con (.int 61)) (.cons (.con (.int 60)) (.cons (.con (.int 62)) (.cons (.con (.int 126)) .nil)))))) (.cons (.ret (.meth (.loc 0) 26 (.cons (.loc 1) .nil)))
 .nil) .nil)
 (.cons (.expr (.meth (.loc 0) 22 .nil))
 (.cons (.ret (.call (.con (.sta (.ref 269))) (.cons (.loc 1) (.cons (.con .none) .nil))))
 .nil)))))))))))))⟩
noncomputable def aH:bY:=⟨378,1,[("self":Str)],(.cons (.ite (.call (.con (.sta (.ref 231))) (.cons (.attr (.loc 0) 12) .nil)) (.cons (.expr (.meth (.loc 0) 36 .nil))
 (.cons (.ret (.con (.bool true)))
 .nil)) .nil)
 (.cons (.ite (.call (.con (.sta (.ref 217))) (.cons (.attr (.loc 0) 12) .nil)) (.cons (.expr (.meth (.loc 0) 22 .nil))
 (.cons (.ret (.con (.bool true)))
 .nil)) .nil)
 (.cons (.ite (.and (.cmp .Eq (.attr (.loc 0) 12) (.con (.int 45))) (.cmp .Eq (.meth (.loc 0) 34 .nil) (.con (.int 45)))) (.cons (.expr (.meth (.loc 0) 35 .nil))
 (.cons (.ret (.con (.bool true)))
 .nil)) .nil)
 (.cons (.ret (.con (.bool false)))
 .nil))))⟩
noncomputable def cg:bY:=⟨385,1,[("self":Str)],(.cons (.ret (.ite (.cmp .Lt (.bin .Add (.attr (.loc 0) 13) (.con (.int 1))) (.call (.con (.sta (.builtin "len"))) (.cons (.attr (.loc 0) 18) .nil))) (.sub (.attr (.loc 0) 18) (.bin .Add (.attr (.loc 0) 13) (.con (.int 1)))) (.con (.int (-1)))))
 .nil)⟩
noncomputable def a9:bY:=⟨392,1,[("self":Str),("level":Str)],(.cons (.expr (.meth (.loc 0) 22 .nil))
 (.cons (.expr (.meth (.loc 0) 22 .nil))
 (.cons (.ite (.cmp .Eq (.attr (.loc 0) 12) (.con (.int 91))) (.cons (.asg 1 (.meth (.loc 0) 38 .nil))
 (.cons (.expr (.meth (.loc 0) 33 .nil))
 (.cons (.ite (.cmp .GtE (.loc 1) (.con (.int 0))) (.cons (.expr (.meth (.loc 0) 37 (.cons (.loc 1) (.cons (.con (.bool false)) .nil))))
 (.cons (.expr (.meth (.loc 0) 33 .nil))
 (.cons .ret0
 .nil))) .nil)
 .nil))) .nil)
 (.cons (.whl (.and (.not (.call (.con (.sta (.ref 231))) (.cons (.attr (.loc 0) 12) .nil))) (.cmp .NotEq (.attr (.loc 0) 12) (.con (.int (-1))))) (.cons (.expr (.meth (.loc 0) 22 .nil))
 .nil))
 .nil))))⟩
noncomputable def aN:bY:=⟨399,2,[("self":Str),("sign":Str)],(.cons (.expr (.meth (.loc 0) 22 .nil))
 (.cons (.ite (.cmp .NotEq (.attr (.loc 0) 12) (.con (.int 61))) (.cons (.ret (.call (.con (.sta (.ref 269))) (.cons (.loc 1) (.cons (.con .none) .nil))))
 .nil) .nil)
 (.cons (.expr (.meth (.loc 0) 22 .nil))
 (.cons (.ite (.cmp .Eq (.loc 1) (.con (.int 61))) (.cons (.ret (.call (.con (.sta (.ref 269))) (.cons (.con (.int 280)) (.cons (.con .none) .nil))))
 .nil) .nil)
 (.cons (.ite (.cmp .Eq (.loc 1) (.con (.int 60))) (.cons (.ret (.call (.con (.sta (.ref 269))) (.cons (.con (.int 282)) (.cons (.con .none) .nil))))
 .nil) .nil)
 (.cons (.ret (.call (.con (.sta (.ref 269))) (.cons (.ite (.cmp .Eq (.loc 1) (.con (.int 62))) (.con (.int 281)) (.con (.int 283))) (.cons (.con .none) .nil))))
 .nil))))))⟩
noncomputable def bw:bY:=⟨406,1,[("self":Str)],(.cons (.expr (.meth (.loc 0) 24 .nil))
 (.cons (.ite (.meth (.loc 0) 39 (.cons (.tup (.cons (.con (.int 46)) .nil)) .nil)) (.cons (.ite (.meth (.loc 0) 39 (.cons (.tup (.cons (.con (.int 46)) .nil)) .nil)) (.cons (.ret (.call (.con (.sta (.ref 269))) (.cons (.con (.int 279)) (.cons (.con .none) .nil))))
 .nil) .nil)
 (.cons (.ret (.call (.con (.sta (.ref 269))) (.cons (.con (.int 278)) (.cons (.con .none) .nil))))
 .nil)) .nil)
 (.cons (.ite (.call (.con (.sta (.ref 196))) (.cons (.attr (.loc 0) 12) .nil)) (.cons (.ret (.meth (.loc 0) 28 .nil))
 .nil) .nil)
 (.cons (.ret (.call (.con (.sta (.ref 269))) (.cons (.con (.int 46)) (.cons (.con .none) .nil))))
 .nil))))⟩
noncomputable def cI:bY:=⟨413,1,[("self":Str),("word":Str),("kind":Str)],(.cons (.whl (.call (.con (.sta (.ref 210))) (.cons (.attr (.loc 0) 12) .nil)) (.cons (.expr (.meth (.loc 0) 24 .nil))
 .nil))
 (.cons (.asg 1 (.call (.con (.sta (.type "bytes"))) (.cons (.attr (.loc 0) 9) .nil)))
 (.cons (.asg 2 (.meth (.attr (.loc 0) 14) 40 (.cons (.loc 1) .nil)))
 (.cons (.ret (.ite (.cmp .Is (.loc 2) (.con .none)) (.call (.con (.sta (.ref 269))) (.cons (.con (.int 285)) (.cons (.loc 1) .nil))) (.call (.con (.sta (.ref 269))) (.cons (.loc 2) (.cons (.con .none) .nil)))))
 .nil))))⟩
noncomputable def bV:bY:=⟨420,1,[("self":Str),("value":Str)],(.cons (.whl (.or (.call (.con (.sta (.ref 196))) (.cons (.attr (.loc 0) 12) .nil)) (.cmp .Eq (.attr (.loc 0) 12) (.con (.int 46)))) (.cons (.expr (.meth (.loc 0) 24 .nil))
 .nil))
 (.cons (.ite (.meth (.loc 0) 39 (.cons (.tup (.cons (.con (.int 69)) (.cons (.con (.int 101)) .nil))) .nil)) (.cons (.expr (.meth (.loc 0) 39 (.cons (.tup (.cons (.con (.int 43)) (.cons (.con (.int 45)) .nil))) .nil)))
 .nil) .nil)
 (.cons (.whl (.call (.con (.sta (.ref 210))) (.cons (.attr (.loc 0) 12) .nil)) (.cons (.expr (.meth (.loc 0) 24 .nil))
 .nil))
 (.cons (.asg 1 (.call (.con (.sta (.ref 138))) (.cons (.call (.con (.sta (.type "bytes"))) (.cons (.attr (.loc 0) 9) .nil)) (.cons (.attr (.loc 0) 15) .nil))))
 (.cons (.ite (.cmp .Is (.loc 1) (.con .none)) (.cons (.expr (.meth (.loc 0) 21 (.cons (.con (.bytes [109,97,108,102,111,114,109,101,100,32,110,117,109,98,101,114])) (.cons (.con (.int 284)) .nil))))
 .nil) .nil)
 (.cons (.ret (.call (.con (.sta (.ref 269))) (.cons (.con (.int 284)) (.cons (.loc 1) .nil))))
 .nil))))))⟩
noncomputable def bc:bY:=⟨427,1,[("self":Str),("level":Str)],(.cons (.asg 1 (.meth (.loc 0) 38 .nil))
 (.cons (.ite (.cmp .GtE (.loc 1) (.con (.int 0))) (.cons (.ret (.call (.con (.sta (.ref 269))) (.cons (.con (.int 286)) (.cons (.meth (.loc 0) 37 (.cons (.loc 1) (.cons (.con (.bool true)) .nil))) .nil))))
 .nil) .nil)
 (.cons (.ite (.cmp .Lt (.loc 1) (.neg (.con (.int 1)))) (.cons (.expr (.meth (.loc 0) 21 (.cons (.con (.bytes [105,110,118,97,108,105,100,32,108,111,110,103,32,115,116,114,105,110,103,32,100,101,108,105,109,105,116,101,114])) (.cons (.con (.int 286)) .nil))))
 .nil) .nil)
 (.cons (.ret (.call (.con (.sta (.ref 269))) (.cons (.con (.int 91)) (.cons (.con .none) .nil))))
 .nil))))⟩
noncomputable def dP:bY:=⟨434,1,[("self":Str),("bracket":Str),("many":Str)],(.cons (.asg 1 (.attr (.loc 0) 12))
 (.cons (.asg 2 (.con (.int 0)))
 (.cons (.expr (.meth (.loc 0) 24 .nil))
 (.cons (.whl (.cmp .Eq (.attr (.loc 0) 12) (.con (.int 61))) (.cons (.expr (.meth (.loc 0) 24 .nil))
 (.cons (.aug 2 .Add (.con (.int 1)))
 .nil)))
 (.cons (.ret (.ite (.cmp .Eq (.attr (.loc 0) 12) (.loc 1)) (.loc 2) (.bin .Sub (.neg (.loc 2)) (.con (.int 1)))))
 .nil)))))⟩
noncomputable def bx:bY:=⟨441,3,[("self":Str),("level":Str),("is_text":Str),("begin":Str)],(.cons (.expr (.meth (.loc 0) 24 .nil))
 (.cons (.ite (.call (.con (.sta (.ref 231))) (.cons (.attr (.loc 0) 12) .nil)) (.cons (.expr (.meth (.loc 0) 36 .nil))
 .nil) .nil)
 (.cons (.asg 3 (.call (.con (.sta (.builtin "len"))) (.cons (.attr (.loc 0) 9) .nil)))
 (.cons (.whl (.con (.bool true)) (.cons (.ite (.cmp .Eq (.attr (.loc 0) 12) (.con (.int (-1)))) (.cons (.expr (.meth (.loc 0) 21 (.cons (.ite (.loc 2) (.con (.bytes [117,110,102,105,110,105,115,104,101,100,32,108,111,110,103,32,115,116,114,105,110,103])) (.con (.bytes [117,110,102,105,110,105,115,104,101,100,32,108,111,110,103,32,99,111,109,109,101,110,116]))) (.cons (.con (.int 287)) .nil))))
 .nil) (.cons (.ite (.cmp .Eq (.attr (.loc 0) 12) (.con (.int 91))) (.cons (.expr (.meth (.loc 0) 41 (.cons (.loc 1) .nil)))
 .nil) (.cons (.ite (.cmp .Eq (.attr (.loc 0) 12) (.con (.int 93))) (.cons (.ite (.cmp .Eq (.meth (.loc 0) 38 .nil) (.loc 1)) (.cons (.expr (.meth (.loc 0) 24 .nil))
 (.cons (.ret (.call (.con (.sta (.type "bytes"))) (.cons (.slc (.attr (.loc 0) 9) (.loc 3) (.bin .Sub (.bin .Sub (.call (.con (.sta (.builtin "len"))) (.cons (.attr (.loc 0) 9) .nil)) (.loc 1)) (.con (.int 2)))) .nil)))
 .nil)) .nil)
 .nil) (.cons (.ite (.call (.con (.sta (.ref 231))) (.cons (.attr (.loc 0) 12) .nil)) (.cons (.expr (.meth (.loc 0) 23 (.cons (.con (.int 10)) .nil)))
 (.cons (.expr (.meth (.loc 0) 36 .nil))
 (.cons (.ite (.not (.loc 2)) (.cons (.setA (.loc 0) 9 (.slc (.attr (.loc 0) 9) (.con .none) (.loc 3)))
 .nil) .nil)
 .nil))) (.cons (.ite (.loc 2) (.cons (.expr (.meth (.loc 0) 24 .nil))
 .nil) (.cons (.expr (.meth (.loc 0) 22 .nil))
 .nil))
 .nil))
 .nil))
 .nil))
 .nil))
 .nil))
 .nil))))⟩
noncomputable def bG:bY:=⟨448,2,[("self":Str),("level":Str)],(.cons (.ite (.cmp .Eq (.meth (.loc 0) 38 .nil) (.loc 1)) (.cons (.expr (.meth (.loc 0) 24 .nil))
 (.cons (.ite (.cmp .Eq (.loc 1) (.con (.int 0))) (.cons (.expr (.meth (.loc 0) 21 (.cons (.con (.bytes [110,101,115,116,105,110,103,32,111,102,32,91,91,46,46,46,93,93,32,105,115,32,100,101,112,114,101,99,97,116,101,100])) (.cons (.con (.int 91)) .nil))))
 .nil) .nil)
 .nil)) .nil)
 .nil)⟩
noncomputable def ch:bY:=⟨455,2,[("self":Str),("quote":Str)],(.cons (.expr (.meth (.loc 0) 24 .nil))
 (.cons (.whl (.cmp .NotEq (.attr (.loc 0) 12) (.loc 1)) (.cons (.ite (.cmp .Eq (.attr (.loc 0) 12) (.con (.int (-1)))) (.cons (.expr (.meth (.loc 0) 21 (.cons (.con (.bytes [117,110,102,105,110,105,115,104,101,100,32,115,116,114,105,110,103])) (.cons (.con (.int 287)) .nil))))
 .nil) (.cons (.ite (.call (.con (.sta (.ref 231))) (.cons (.attr (.loc 0) 12) .nil)) (.cons (.expr (.meth (.loc 0) 21 (.cons (.con (.bytes [117,110,102,105,110,105,115,104,101,100,32,115,116,114,105,110,103])) (.cons (.con (.int 286)) .nil))))
 .nil) (.cons (.ite (.cmp .Eq (.attr (.loc 0) 12) (.con (.int 92))) (.cons (.expr (.meth (.loc 0) 22 .nil))
 (.cons (.expr (.meth (.loc 0) 42 .nil))
 .nil)) (.cons (.expr (.meth (.loc 0) 24 .nil))
 .nil))
 .nil))
 .nil))
 .nil))
 (.cons (.expr (.meth (.loc 0) 24 .nil))
 (.cons (.ret (.call (.con (.sta (.ref 269))) (.cons (.con (.int 286)) (.cons (.call (.con (.sta (.type "bytes"))) (.cons (.slc (.attr (.loc 0) 9) (.con (.int 1)) (.bin .Sub (.call (.con (.sta (.builtin "len"))) (.cons (.attr (.loc 0) 9) .nil)) (.con (.int 1)))) .nil)) .nil))))
 .nil))))⟩
noncomputable def aL:bY:=⟨462,1,[("self":Str),("told":Str)],(.cons (.ite (.cmp .Eq (.attr (.loc 0) 12) (.con (.int (-1)))) (.cons .ret0
 .nil) .nil)
 (.cons (.ite (.call (.con (.sta (.ref 231))) (.cons (.attr (.loc 0) 12) .nil)) (.cons (.expr (.meth (.loc 0) 23 (.cons (.con (.int 10)) .nil)))
 (.cons (.expr (.meth (.loc 0) 36 .nil))
 (.cons .ret0
 .nil))) .nil)
 (.cons (.ite (.call (.con (.sta (.ref 196))) (.cons (.attr (.loc 0) 12) .nil)) (.cons (.expr (.meth (.loc 0) 43 .nil))
 (.cons .ret0
 .nil)) .nil)
 (.cons (.asg 1 (.call (.con (.sta (.ref 238))) (.cons (.attr (.loc 0) 12) .nil)))
 (.cons (.expr (.meth (.loc 0) 23 (.cons (.ite (.cmp .Is (.loc 1) (.con .none)) (.attr (.loc 0) 12) (.loc 1)) .nil)))
 (.cons (.expr (.meth (.loc 0) 22 .nil))
 .nil))))))⟩
noncomputable def ci:bY:=⟨469,1,[("self":Str),("value":Str),("many":Str)],(.cons (.unpk false [1,2] (.tup (.cons (.con (.int 0)) (.cons (.con (.int 0)) .nil))))
 (.cons (.whl (.and (.cmp .Lt (.loc 2) (.con (.int 3))) (.call (.con (.sta (.ref 196))) (.cons (.attr (.loc 0) 12) .nil))) (.cons (.asg 1 (.bin .Sub (.bin .Add (.bin .Mult (.con (.int 10)) (.loc 1)) (.attr (.loc 0) 12)) (.con (.int 48))))
 (.cons (.aug 2 .Add (.con (.int 1)))
 (.cons (.expr (.meth (.loc 0) 22 .nil))
 .nil))))
 (.cons (.ite (.cmp .Gt (.loc 1) (.con (.int 255))) (.cons (.expr (.meth (.loc 0) 21 (.cons (.con (.bytes [101,115,99,97,112,101,32,115,101,113,117,101,110,99,101,32,116,111,111,32,108,97,114,103,101])) (.cons (.con (.int 286)) .nil))))
 .nil) .nil)
 (.cons (.expr (.meth (.loc 0) 23 (.cons (.loc 1) .nil)))
 .nil))))⟩
noncomputable def aT:bY:=⟨483,3,[("text":Str),("chunk":Str),("limits":Str),("token":Str),("lexer":Str),("found":Str)],(.cons (.unpk true [4,5] (.tup (.cons (.call (.con (.sta (.ref 472))) (.cons (.loc 0) (.cons (.loc 1) (.cons (.loc 2) .nil)))) (.cons (.list .nil) .nil))))
 (.cons (.asg 3 (.meth (.loc 4) 44 .nil))
 (.cons (.whl (.cmp .NotEq (.attr (.loc 3) 6) (.con (.int 287))) (.cons (.expr (.meth (.loc 5) 2 (.cons (.tup (.cons (.attr (.loc 3) 6) (.cons (.attr (.loc 3) 5) .nil))) .nil)))
 (.cons (.asg 3 (.meth (.loc 4) 44 .nil))
 .nil)))
 (.cons (.ret (.loc 5))
 .nil))))⟩
noncomputable def eK:bY:=⟨491,2,[("tray":Str),("many":Str),("cells":Str),("turn":Str)],(.cons (.unpk false [2,3] (.loc 0))
 (.cons (.setI (.loc 0) (.con (.int 1)) (.bin .Add (.loc 3) (.con (.int 1))))
 (.cons (.ret (.ite (.cmp .Lt (.loc 3) (.call (.con (.sta (.builtin "len"))) (.cons (.loc 2) .nil))) (.bin .Mod (.call (.con (.sta (.builtin "abs"))) (.cons (.call (.con (.sta (.type "int"))) (.cons (.sub (.loc 2) (.loc 3)) .nil)) .nil)) (.loc 1)) (.bin .Mod (.bin .Add (.bin .Add (.bin .Mult (.con (.int 5)) (.loc 3)) (.bin .FloorDiv (.loc 3) (.con (.int 2)))) (.con (.int 3))) (.loc 1))))
 .nil)))⟩
noncomputable def gb:bY:=⟨510,2,[("tokens":Str),("gap":Str),("found":Str),("kind":Str),("value":Str)],(.cons (.asg 2 (.list .nil))
 (.cons (.for2 3 4 (.loc 0) (.cons (.ite (.cmp .Eq (.loc 3) (.con (.int 286))) (.cons (.expr (.meth (.loc 2) 2 (.cons (.call (.con (.sta (.ref 187))) (.cons (.loc 4) .nil)) .nil)))
 .nil) (.cons (.ite (.cmp .Eq (.loc 3) (.con (.int 284))) (.cons (.expr (.meth (.loc 2) 2 (.cons (.call (.con (.sta (.ref 152))) (.cons (.loc 4) .nil)) .nil)))
 .nil) (.cons (.ite (.cmp .Eq (.loc 3) (.con (.int 285))) (.cons (.expr (.meth (.loc 2) 2 (.cons (.loc 4) .nil)))
 .nil) (.cons (.expr (.meth (.loc 2) 2 (.cons (.ite (.cmp .Gt (.loc 3) (.con (.int 256))) (.call (.con (.sta (.ref 252))) (.cons (.loc 3) .nil)) (.call (.con (.sta (.type "bytes"))) (.cons (.list (.cons (.loc 3) .nil)) .nil))) .nil)))
 .nil))
 .nil))
 .nil))
 .nil))
 (.cons (.ret (.meth (.loc 1) 45 (.cons (.loc 2) .nil)))
 .nil)))⟩
noncomputable def g9:bY:=⟨517,1,[("script":Str),("tray":Str),("due":Str),("both":Str),("gap":Str),("laid":Str),("at":Str),("parts":Str),("text":Str),("other":Str),("tokens":Str),("more":Str)],(.cons (.asg 1 (.list (.cons (.slc (.loc 0) (.con .none) (.con (.int 24))) (.cons (.con (.int 0)) .nil))))
 (.cons (.unpk true [8,9] (.tup (.cons (.call (.con (.sta (.ref 496))) (.cons (.loc 1) (.cons (.con (.int 7)) .nil))) (.cons (.call (.con (.sta (.ref 496))) (.cons (.loc 1) (.cons (.con (.int 5)) .nil))) .nil))))
 (.cons (.unpk true [10,11] (.tup (.cons (.call (.con (.sta (.ref 503))) (.cons (.loc 8) .nil)) (.cons (.call (.con (.sta (.ref 503))) (.cons (.loc 9) .nil)) .nil))))
 (.cons (.ite (.cmp .Is (.loc 10) (.con .none)) (.cons (.ret (.con (.bool true)))
 .nil) .nil)
 (.cons (.asg 2 (.ite (.cmp .Is (.loc 11) (.con .none)) (.con .none) (.call (.con (.sta (.builtin "repr"))) (.cons (.bin .Add (.loc 10) (.loc 11)) .nil))))
 (.cons (.asg 3 (.call (.con (.sta (.ref 503))) (.cons (.bin .Add (.bin .Add (.loc 8) (.con (.bytes [10]))) (.loc 9)) .nil)))
 (.cons (.ite (.cmp .NotEq (.ite (.cmp .Is (.loc 3) (.con .none)) (.con .none) (.call (.con (.sta (.builtin "repr"))) (.cons (.loc 3) .nil))) (.loc 2)) (.cons (.ret (.con (.bool false)))
 .nil) .nil)
 (.cons (.asg 4 (.sub (.list (.cons (.con (.bytes [32])) (.cons (.con (.bytes [10])) (.cons (.con (.bytes [9,45,45,10])) (.cons (.con (.bytes [32,45,45,91,61,61,91,32,93,93,32,93,61,61,93])) .nil))))) (.call (.con (.sta (.ref 491))) (.cons (.loc 1) (.cons (.con (.int 4)) .nil)))))
 (.cons (.asg 5 (.call (.con (.sta (.ref 510))) (.cons (.loc 10) (.cons (.loc 4) .nil))))
 (.cons (.ite (.or (.cmp .NotEq (.call (.con (.sta (.builtin "repr"))) (.cons (.call (.con (.sta (.ref 503))) (.cons (.loc 5) .nil)) .nil)) (.call (.con (.sta (.builtin "repr"))) (.cons (.loc 10) .nil))) (.cmp .NotEq (.call (.con (.sta (.ref 510))) (.cons (.call (.con (.sta (.ref 503))) (.cons (.loc 5) .nil)) (.cons (.loc 4) .nil))) (.loc 5))) (.cons (.ret (.con (.bool false)))
 .nil) .nil)
 (.cons (.asg 6 (.call (.con (.sta (.ref 491))) (.cons (.loc 1) (.cons (.bin .Add (.call (.con (.sta (.builtin "len"))) (.cons (.loc 10) .nil)) (.con (.int 1))) .nil))))
 (.cons (.asg 7 (.tup (.cons (.call (.con (.sta (.ref 503))) (.cons (.call (.con (.sta (.ref 510))) (.cons (.slc (.loc 10) (.con .none) (.loc 6)) (.cons (.con (.bytes [32])) .nil))) .nil)) (.cons (.call (.con (.sta (.ref 503))) (.cons (.call (.con (.sta (.ref 510))) (.cons (.slc (.loc 10) (.loc 6) (.con .none)) (.cons (.con (.bytes [32])) .nil))) .nil)) .nil))))
 (.cons (.ret (.cmp .Eq (.call (.con (.sta (.builtin "repr"))) (.cons (.loc 7) .nil)) (.call (.con (.sta (.builtin "repr"))) (.cons (.tup (.cons (.slc (.loc 10) (.con .none) (.loc 6)) (.cons (.slc (.loc 10) (.loc 6) (.con .none)) .nil))) .nil))))
 .nil)))))))))))))⟩
noncomputable def aM:List bY:=[j7,sm,er,dM,gZ,g5,fQ,dN,g6,mV,pP,oq,lB,t8,lC,j8,f0,eU,iP,iQ,dO,dC,b8,b9,ft,g7,ga,cH,iR,iS,cQ,dk,g8,cW,dD,aH,cg,a9,aN,bw,cI,bV,bc,dP,bx,bG,ch,aL,ci,aT,eK,gb,g9]
noncomputable def aO:List Str:=[("width":Str),("reverse":Str),("append":Str),("extend":Str),("find":Str),("value":Str),("kind":Str),("ahead":Str),("current":Str),("buffer":Str),("last_line":Str),("line":Str),("sign":Str),("at":Str),("kinds":Str),("limits":Str),("chunk":Str),("source":Str),("text":Str),("read":Str),("near_text":Str),("error":Str),("move":Str),("keep":Str),("keep_and_move":Str),("syntax_error":Str),("read_compared":Str),("read_word":Str),("read_numeral":Str),("read_dots":Str),("read_bracket":Str),("read_string":Str),("skip_blank":Str),("clear":Str),("sign_behind":Str),("skip_comment":Str),("end_line":Str),("read_long":Str),("read_level":Str),("keep_if":Str),("get":Str),("read_inner":Str),("read_escape":Str),("read_digits":Str),("next":Str),("join":Str),("registers":Str),("upvalues":Str),("local_names":Str),("ccalls":Str),("frames":Str),("stack":Str),("flush":Str),("steps":Str)]
noncomputable def cX:List (Str×V):=[(("isinstance":Str),((.sta (.builtin "isinstance")):V)),(("bool":Str),((.sta (.type "bool")):V)),(("int":Str),((.sta (.type "int")):V)),(("BLANKS":Str),((.bytes [32,9,10,11,12,13]):V)),(("len":Str),((.sta (.builtin "len")):V)),(("digit_of":Str),((.sta (.ref 117)):V)),(("is_blank_values":Str),((.sta (.ref 110)):V)),(("text_in_base":Str),((.sta (.ref 145)):V)),(("wrap":Str),((.sta (.ref 103)):V)),(("skip_blanks":Str),((.sta (.ref 131)):V)),(("read_digits":Str),((.sta (.ref 124)):V)),(("bytes":Str),((.sta (.type "bytes")):V)),(("abs":Str),((.sta (.builtin "abs")):V)),(("is_number":Str),((.sta (.ref 96)):V)),(("number_text":Str),((.sta (.ref 152)):V)),(("max":Str),((.sta (.builtin "max")):V)),(("first_line":Str),((.sta (.ref 173)):V)),(("c_text":Str),((.sta (.ref 166)):V)),(("UNDERSCORE":Str),((.int 95):V)),(("is_digit":Str),((.sta (.ref 196)):V)),(("is_letter":Str),((.sta (.ref 203)):V)),(("RETURN":Str),((.int 13):V)),(("NEWLINE":Str),((.int 10):V)),(("RESERVED":Str),((.sta (.ref 188)):V)),(("OTHER_TEXTS":Str),((.sta (.ref 189)):V)),(("FIRST_RESERVED":Str),((.int 257):V)),(("is_control":Str),((.sta (.ref 224)):V)),(("to_text":Str),((.sta (.ref 159)):V)),(("Token":Str),((.sta (.ref 269)):V)),(("TK_EOS":Str),((.int 287):V)),(("bytearray":Str),((.sta (.type "bytearray")):V)),(("END_OF_TEXT":Str),((.int (-1)):V)),(("reserved_kinds":Str),((.sta (.ref 245)):V)),(("chunk_id":Str),((.sta (.ref 180)):V)),(("SOURCE_SIZE":Str),((.int 80):V)),(("token_text":Str),((.sta (.ref 252)):V)),(("TK_NUMBER":Str),((.int 284):V)),(("TK_STRING":Str),((.int 286):V)),(("TK_NAME":Str),((.int 285):V)),(("MOST_LINES":Str),((.int 2147483645):V)),(("is_newline":Str),((.sta (.ref 231)):V)),(("TILDE":Str),((.int 126):V)),(("GREATER":Str),((.int 62):V)),(("LESS":Str),((.int 60):V)),(("EQUALS":Str),((.int 61):V)),(("MINUS":Str),((.int 45):V)),(("DOT":Str),((.int 46):V)),(("BRACKET_OPEN":Str),((.int 91):V)),(("QUOTE_SINGLE":Str),((.int 39):V)),(("QUOTE_DOUBLE":Str),((.int 34):V)),(("is_blank_lexer":Str),((.sta (.ref 217)):V)),(("TK_GE":Str),((.int 281):V)),(("TK_NE":Str),((.int 283):V)),(("TK_LE":Str),((.int 282):V)),(("TK_EQ":Str),((.int 280):V)),(("TK_CONCAT":Str),((.int 278):V)),(("TK_DOTS":Str),((.int 279):V)),(("is_name_sign":Str),((.sta (.ref 210)):V)),(("str_to_number":Str),((.sta (.ref 138)):V)),(("PLUS":Str),((.int 43):V)),(("BRACKET_CLOSE":Str),((.int 93):V)),(("BACKSLASH":Str),((.int 92):V)),(("escaped_sign":Str),((.sta (.ref 238)):V)),(("Lexer":Str),((.sta (.ref 472)):V)),(("quote":Str),((.sta (.ref 187)):V)),(("repr":Str),((.sta (.builtin "repr")):V)),(("_law_heard":Str),((.sta (.ref 503)):V)),(("_law_written":Str),((.sta (.ref 510)):V)),(("_law_strewn":Str),((.sta (.ref 491)):V)),(("_law_row":Str),((.sta (.ref 496)):V))]
noncomputable def eV:List (Nat×Addr):=[(44,294),(21,308),(25,315),(20,322),(22,329),(23,336),(24,343),(39,350),(33,357),(36,364),(19,371),(32,378),(34,385),(35,392),(26,399),(29,406),(27,413),(28,420),(30,427),(38,434),(37,441),(41,448),(31,455),(42,462),(43,469)]
noncomputable def gH:List Nat:=[18,17,16,15,14,13,12,11,10,9,8,7]
noncomputable def iT:List Nat:=[6,5]
noncomputable def fu:List Nat:=[0,46,47,48,49,50,51,52,53,18]
noncomputable def pQ(atts:List Str)(glob:List (Str×V))(d:bY)(sc:Scope):Cx:={ names:=d.names,kinds:=sc.names,atts:=atts,glob:=glob,exn:="LuaSyntaxError" }
noncomputable def ua(v:Value):Bool:=match v with
 | .none=>true
 |_=>false
noncomputable def xz(K:Frag)(fd:FuncData):Bool:=fd.globals==mainGlobals&&fd.closure.isEmpty&&fd.builtins==builtinsNs&&codeIn K fd.code fd.qualname
noncomputable def xA(ps:List Str)(sc:Scope):Bool:=!sc.isCoroutine&&!sc.isGenerator&&sc.kind== .function&&sc.names.all (fun y=>y.2 != .cell)&&ps.all (fun y=>sc.names.lookup y==some .local)
noncomputable def lD(ps:List Str)(fd:FuncData):Bool:=fd.params.posonlyargs.isEmpty&&fd.params.args.map (·.arg)==ps&&fd.params.vararg.isNone&&fd.params.kwonlyargs.isEmpty&&fd.params.kwarg.isNone&&ua fd.defaults
noncomputable def iU(K:Frag)(names:List Str)(np:Nat)(fd:FuncData):Bool:=xz K fd&&xA (names.take np) fd.scope&&lD (names.take np) fd&&decide names.Nodup&&decide (np≤names.length)
noncomputable def ot{β:Type}(fd:FuncData)(d:β)(f:List Stmt→β):β:=match fd.body with
 | .stmts b=>f b
 |_=>d
noncomputable def vH{β:Type}(K:Frag)(a:Addr)(d:β)(f:FuncData→β):β:=match K.lookup a with
 |some ⟨_,_,.func fd,_⟩=>f fd
 |_=>d
noncomputable def mF{β:Type}(K:Frag)(a:Addr)(d:β)(f:FuncData→List Stmt→β):β:=vH K a d fun fd=>ot fd d (f fd)
noncomputable def ub(K:Frag)(glob:List (Str×V))(d:bY):Bool:=mF K d.addr false fun fd b=>fP (pQ aO glob d fd.scope) d.body b&&iU K d.names d.np fd
theorem so{α:Type}:∀{ps:List Str} {us:List α},ps.Nodup→us.length=ps.length→(ps.filterMap fun n=>((ps.zip us).lookup n).map (n,·))=ps.zip us:=by
 intro ps us nd hl
 have key:∀(l:List (Str×α)),(l.map (·.1)).Nodup→∀(m:List (Str×α)),(∀p∈m,p∈l)→(m.map (·.1)).filterMap (fun n=>(l.lookup n).map (n,·))=m:=by
  intro l ndl m
  induction m with
  |nil=>intro _;rfl
  |cons p m ih=>
   intro hm
   obtain⟨k,v⟩:=p
   rw[map_cons,List.filterMap_cons,gE ndl (hm _ (.head _))]
   simp only[map_some]
   rw[ih fun q hq=>hm q (.tail _ hq)]
 have e:(ps.zip us).map (·.1)=ps:=map_fst_zip (by lia)
 have:=key (ps.zip us) (by rw[e];exact nd) (ps.zip us) fun z h=>h
 rwa [e] at this
theorem pR{fd:FuncData}{ps:List Str}(h1:fd.params.posonlyargs=[])(h2:fd.params.args.map (·.arg)=ps)(h3:fd.params.vararg=none)(h4:fd.params.kwonlyargs=[])(h5:fd.params.kwarg=none)(h6:fd.defaults=.none)
  (nd:ps.Nodup) {us:List Value} (hl:us.length=ps.length):bindArgs fd ⟨us,[]⟩=pure (ps.zip us):=by
 have hm:ps.filter (fun n=>((ps.zip us).lookup n).isNone)=[]:=by
  rw[List.filter_eq_nil_iff]
  intro y hy
  have:y∈(ps.zip us).map (·.1):=by rw[map_fst_zip (by lia)];exact hy
  obtain⟨⟨k,v⟩,hv,rfl⟩:=mem_map.mp this
  rw[gE (by rw[map_fst_zip (by lia)];exact nd) hv]
  simp
 obtain⟨name,qual,params,body,scope,globals,closure,defaults,kwd,doc,pm,an,cd,ct,bl⟩:=fd
 obtain⟨po,args,va,ko,kd,kwa,df⟩:=params
 simp only at h1 h2 h3 h4 h5 h6
 subst h1 h3 h4 h5 h6
 subst h2
 show(if(decide (us.length > (args.map (·.arg)).length)&&true)=true then _ else _)=_
 refine(if_neg (by simp only[Bool.and_true,decide_eq_true_eq];lia)).trans ?_
 show(if(!(List.filter (fun n=>(((args.map (·.arg)).zip us).lookup n).isNone) ((args.map (·.arg)).take ((args.map (·.arg)).length - (List.drop (0 - (args.map (·.arg)).length) ([]:List Value)).length))).isEmpty)=true then _ else _)=_
 refine(if_neg (by rw[List.drop_nil,length_nil,Nat.sub_zero,List.take_length,hm];decide)).trans ?_
 show(forIn ((List.drop ((args.map (·.arg)).length - (List.drop (0 - (args.map (·.arg)).length) ([]:List Value)).length) (args.map (·.arg))).zip (List.drop (0 - (args.map (·.arg)).length) ([]:List Value))) _ _>>=_)=_
 rw[List.drop_nil,List.zip_nil_right]
 show(pure (List.filterMap (fun n=>(((args.map (·.arg)).zip us).lookup n).map (n,·)) (args.map (·.arg)++[])):Sem _)=_
 rw[append_nil,so nd hl]
theorem vJ{v:Value}(h:ua v=true):v=.none:=by cases v<;>first|rfl|cases h
theorem xB{α:Type}{o:Option α}(h:o.isNone=true):o=none:=by cases o<;>first|rfl|cases h
theorem pS{fd:FuncData}{b:List Stmt}(hb:fd.body=.stmts b)(h1:(fd.globals==mainGlobals)=true)(h2:fd.closure.isEmpty=true)(h3:(fd.builtins==builtinsNs)=true):
  fd=fnX fd.name fd.qualname fd.params b fd.scope [] fd.defaults fd.kwdefaults fd.doc fd.pyModule fd.annotations fd.code fd.closureTuple:=by
 show FuncData.mk fd.name fd.qualname fd.params fd.body fd.scope fd.globals fd.closure fd.defaults fd.kwdefaults fd.doc fd.pyModule fd.annotations fd.code fd.closureTuple fd.builtins=_
 rw[hb,beq_iff_eq.mp h1,beq_iff_eq.mp h3,isEmpty_iff.mp h2]
theorem j9{ps:List Str}{fd:FuncData}(h:lD ps fd=true)(nd:ps.Nodup)(us:List Value)(hl:us.length=ps.length):bindArgs fd ⟨us,[]⟩=pure (ps.zip us):=
 Eo h fun c1 c2 c3 c4 c5 c6=>pR (isEmpty_iff.mp c1) (beq_iff_eq.mp c2) (xB c3) (isEmpty_iff.mp c4) (xB c5) (vJ c6) nd hl
theorem dQ{G:bB}{f:Addr}{names:List Str}{np:Nat}{oc:Value}{od:Option Addr}{fd:FuncData}{osl:Array (Option Value)}{b:List Stmt}(ho:G.K.lookup f=some ⟨oc,od,.func fd,osl⟩)(hb:fd.body=.stmts b)(h:iU G.K names np fd=true):
  lm G f fd.qualname fd.scope b (names.take np) names∧(names.take np).length=np:=D1 h fun o s p n l=>by
 have nd:(names.take np).Nodup:=(km n).sublist (List.take_sublist _ _)
 refine⟨D1 s fun s1 s2 s3 s4 s5=>⟨?_,(not_eq_true' _).mp s1,(not_eq_true' _).mp s2,beq_iff_eq.mp s3,fun y hy=>bne_iff_ne.mp (all_eq_true.mp s4 y hy),km n,List.take_prefix _ _,fun y hy=>beq_iff_eq.mp (all_eq_true.mp s5 y hy)⟩,by rw[length_take];exact Nat.min_eq_left (km l)⟩
 exact vl o fun o1 o2 o3 o4=>fun P k=>k oc od osl fd.name fd.params fd.defaults fd.kwdefaults fd.doc fd.pyModule fd.annotations fd.code fd.closureTuple (pS hb o1 o2 o3 ▸ ho) o4 fun us hus=>pS hb o1 o2 o3 ▸ j9 p nd us hus
theorem oy{β:Type}{K:Frag}{a:Addr}{d:β}{f:FuncData→β}{oc od fd osl}(h:K.lookup a=some ⟨oc,od,.func fd,osl⟩):vH K a d f=f fd:=by unfold vH;rw[h]
theorem mW{β:Type}{fd:FuncData}{d:β}{f:List Stmt→β}{b:List Stmt}(h:fd.body=.stmts b):ot fd d f=f b:=by unfold ot;rw[h]
theorem vK{K:Frag}{a:Addr}{f:FuncData→List Stmt→Bool}{P:Prop}(h:mF K a false f=true)(k:∀oc od fd osl b,K.lookup a=some ⟨oc,od,.func fd,osl⟩→fd.body=.stmts b→f fd b=true→P):P:=by
 cases ho:K.lookup a with
 |none=>unfold mF vH at h;rw[ho] at h;cases h
 |some o=>
  obtain⟨oc,od,dt,osl⟩:=o
  cases dt with
  |func fd=>
   replace h:=(oy ho).symm.trans h
   cases hb:fd.body with
   |stmts b=>exact k oc od fd osl b ho hb ((mW hb).symm.trans h)
   |_=>unfold ot at h;rw[hb] at h;cases h
  |_=>unfold mF vH at h;rw[ho] at h;cases h
theorem lE{G:bB}{glob:List (Str×V)}{d:bY}(h:ub G.K glob d=true):∃qual scope body,lm G d.addr qual scope body (d.names.take d.np) d.names∧fP (pQ aO glob d scope) d.body body=true∧(d.names.take d.np).length=d.np:=
 vK h fun oc od fd osl b ho hb h=>⟨fd.qualname,fd.scope,b,(dQ ho hb (an h).2).1,(an h).1,(dQ ho hb (an h).2).2⟩
end
section
open Builtin
theorem iV:typeOf (.builtin "list.append")=pure (.type "method_descriptor"):=type_list_append
section
variable {G:bB}{x:Fx}{as:As}{σ:St}
theorem z8{v:V}{u:Value}{T:String}{y:Str}{id:String}{pl:Sem Bool}(hv:VR as v u)(hT:∀s:Shared,aE G x σ as s.heap→s.TypeIs u T)(pa:PlainAttrs T)(slot:Slot T y id)(ty:typeOf (.builtin id)=pure (.type "method_descriptor"))
  (hd:∀s:Shared,aE G x σ as s.heap→∀a,u=.ref a→∃o,s.heap.get? a=some o∧o.dict=none):ah G x as σ (getMethod u y pl) (fun _ (_:Unit) r=>r=(.builtin id,[u])) (.ok () σ):=
 .of_wp fun s Q E hr k=>getMethod_builtin (hT s hr) pa slot ty (hd s hr) (k _ s.toks rfl)
noncomputable def xC(o:O)(m:Nat):Option String:=match o with
 | .list _=>if m=2 then some "list.append" else if m=3 then some "list.extend" else if m=1 then some "list.reverse" else none
 | .ba _=>if m=2 then some "bytearray.append" else none
 | .dict _=>if m=40 then some "dict.get" else none
 |_=>none
noncomputable def Bc(v:V)(m:Nat)(H:Hp):Option String:=match v with
 | .bytes _=>if m=4 then some "bytes.find" else if m=45 then some "bytes.join" else none
 | .ref i=>H[i]?.bind (xC · m)
 |_=>none
noncomputable def xD(v:V)(m:Nat)(H:Hp):Option vk:=(Bc v m H).map (.prim · v)
theorem ij{m k:Nat}{r:Option String}{a id:String}{P:Prop}(h:(if m=k then some a else r)=some id)(h1:m=k→a=id→P)(h2:r=some id→P):P:=by
 by_cases e:m=k
 ·rw[if_pos e] at h;exact h1 e (Option.some.inj h)
 ·rw[if_neg e] at h;exact h2 h
theorem z9{n:Nat}{y z:Str}(h:aO[n]? =some y)(e:aO[n]? =some z):y=z:=by rw[h] at e;exact Option.some.inj e
noncomputable def sq(G:bB)(x:Fx)(as:As)(σ:St)(v:V)(y:Str)(id:String):Prop:=∀{u:Value} {pl:Sem Bool},VR as v u→ah G x as σ (getMethod u y pl) (fun _ (_:Unit) r=>r=(.builtin id,[u])) (.ok () σ)
theorem fw{v:V}{y z:Str}{n m:Nat}{id id':String}(hy:aO[m]? =some y)(e:m=n)(i:id'=id)(hz:aO[n]? =some z)(h:sq G x as σ v z id'):sq G x as σ v y id:=by
 subst e i
 exact z9 hy hz ▸ h
theorem pT{b:Bs}{y:Str}{id:String}(slot:Slot "bytes" y id)(ty:typeOf (.builtin id)=pure (.type "method_descriptor")):sq G x as σ (.bytes b) y id:=fun {u pl} hv=>by
 have hv0:=hv
 obtain⟨t,rfl⟩:=hv
 exact z8 hv0 (fun s z=>W.typeIs_bytes s _ _) FB.plainAttrs_bytes slot ty fun z z a e=>nomatch e
theorem xE{i:Nat}{o:O}{T:String}{y:Str}{id:String}(ho:σ.hp[i]? =some o)(pa:PlainAttrs T)(slot:Slot T y id)(ty:typeOf (.builtin id)=pure (.type "method_descriptor"))
  (hd:∀d o1 o2,OK G as o d o1 o2→o1.cls=.type T∧o1.dict=none):sq G x as σ (.ref i) y id:=fun {u pl} hv=>by
 have hv0:=hv
 refine ak hv fun p hp q92=>?_;obtain rfl:=q92
 have at_:∀s:Shared,aE G x σ as s.heap→∃o1,s.heap.get? p.1=some o1∧o1.cls=.type T∧o1.dict=none:=fun s R=>by
  refine gR (R.get ho) fun p' o1 o2 a1 a2 a3 k=>?_
  rw[hp] at a1;cases a1
  exact⟨o1,a2,hd _ _ _ k⟩
 exact z8 hv0 (fun s R=>(at_ s R).elim fun o1 k=>⟨o1,k.1,k.2.1⟩) pa slot ty fun s R a e=>by cases e;exact(at_ s R).elim fun o1 k=>⟨o1,k.1,k.2.2⟩
theorem oz{i:Nat}{l:List V}{y:Str}{id:String}(ho:σ.hp[i]? =some (.list l))(slot:Slot "list" y id)(ty:typeOf (.builtin id)=pure (.type "method_descriptor")):sq G x as σ (.ref i) y id:=
 xE ho PySem.F.plainAttrs_list slot ty fun d o1 o2 k=>by obtain⟨vs,n,rfl,_⟩:=k;exact⟨rfl,rfl⟩
theorem Aa{i m:Nat}{o:O}{y:Str}{id:String}(ho:σ.hp[i]? =some o)(hy:aO[m]? =some y)(h:xC o m=some id):sq G x as σ (.ref i) y id:=by
 cases o with
 |list l=>
  exact ij h (fun e k=>fw (z:="append") hy e k rfl (oz ho PySem.F.slot_list_append iV)) fun h=>ij h (fun e k=>fw (z:="extend") hy e k rfl (oz ho PySem.F.slot_list_extend PySem.F.type_list_extend)) fun h=>
   ij h (fun e k=>fw (z:="reverse") hy e k rfl (oz ho PySem.F.slot_list_reverse PySem.F.type_list_reverse)) fun h=>nomatch h
 |ba b=>
  exact ij h (fun e k=>fw (z:="append") hy e k rfl (xE ho mx fX lq fun d o1 o2 k=>by cases k;exact⟨rfl,rfl⟩)) fun h=>nomatch h
 |dict d=>
  exact ij h (fun e k=>fw (z:="get") hy e k rfl fun {u pl} hv=>by
   have hv0:=hv
   refine ak hv fun p hp q92=>?_;obtain rfl:=q92
   refine z8 hv0 (T:="dict") (fun s R=>?_) PySem.F.plainAttrs_dict PySem.F.slot_dict_get PySem.F.type_dict_get fun s R a ea=>?_
   ·refine bC (R.dictAt ho) fun p' kvs a1 a2 w=>?_
    rw[hp] at a1;cases a1
    exact a2.typeIs
   ·refine bC (R.dictAt ho) fun p' kvs a1 a2 w=>?_
    rw[hp] at a1;cases a1
    exact a2.mapOf.noDict a ea) fun h=>nomatch h
 |_=>cases h
theorem xF{v:V}{m:Nat}{y:Str}{id:String}(hy:aO[m]? =some y)(h:Bc v m σ.hp=some id):sq G x as σ v y id:=by
 cases v with
 |bytes b=>exact ij h (fun e k=>fw (z:="find") hy e k rfl (pT fN ky)) fun h=>ij h (fun e k=>fw (z:="join") hy e k rfl (pT dj fO)) fun h=>nomatch h
 |ref i=>exact(bind_eq_some_iff.mp h).elim fun o k=>Aa k.1 hy k.2
 |_=>cases h
theorem xG(hatts:G.atts=aO){v:V}{m:Nat}{u:Value}{y:Str}{pl:Sem Bool}{sel:vk}(hv:VR as v u)(hy:G.atts[m]? =some y)(h:xD v m σ.hp=some sel):
  ∃id,sel=.prim id v∧ah G x as σ (getMethod u y pl) (fun _ (_:Unit) r=>r=(.builtin id,[u])) (.ok () σ):=
 (map_eq_some_iff.mp h).elim fun id k=>⟨id,k.2.symm,xF (hatts ▸ hy) k.1 hv⟩
noncomputable def xH(v:V)(vs:List V)(σ:St):af V:=vB v fun b=>l1 vs fun w=>vB w fun c=>.ok (.int (lA b c)) σ
noncomputable def xI(v:V)(vs:List V)(σ:St):af V:=vB v fun b=>l1 vs fun w=>vR w fun i=>oL σ.hp[i]? fun l=>oO (fq l) fun ps=>if ps.foldl (fun n p=>n+p.length) (b.length * (ps.length - 1))≤1000000∧(cP b ps).length≤1000000 then .ok (.bytes (cP b ps)) σ else .stuck
noncomputable def pU(v:V)(vs:List V)(σ:St):af V:=vR v fun i=>l1 vs fun u=>oL σ.hp[i]? fun l=>if l.length≤1000000 then .ok .none ⟨σ.vars,σ.hp.set i (.list (l++[u]))⟩ else .stuck
noncomputable def pV(v:V)(vs:List V)(σ:St):af V:=vR v fun i=>l1 vs fun u=>oL σ.hp[i]? fun l=>@V.casesOn (fun z=>af V) u .stuck (fun z=>.stuck) (fun z=>.stuck) (fun b=>if l.length+b.length≤1000000 then .ok .none ⟨σ.vars,σ.hp.set i (.list (l++b.map fun c=>V.int c.toNat))⟩ else .stuck) (fun z=>.stuck)
 (fun j=>oL σ.hp[j]? fun m=>if l.length+m.length≤1000000 then .ok .none ⟨σ.vars,σ.hp.set i (.list (l++m))⟩ else .stuck) (fun z=>.stuck)
noncomputable def mX(v:V)(vs:List V)(σ:St):af V:=vR v fun i=>l0 vs (oL σ.hp[i]? fun l=>if l.length≤1000000 then .ok .none ⟨σ.vars,σ.hp.set i (.list l.reverse)⟩ else .stuck)
noncomputable def xJ(v:V)(vs:List V)(σ:St):af V:=vR v fun i=>l1 vs fun w=>vI w fun k=>oB σ.hp[i]? fun b=>if 0≤k∧k < 256∧b.length≤1000000 then .ok .none ⟨σ.vars,σ.hp.set i (.ba (b++[UInt8.ofNat k.toNat]))⟩ else .stuck
noncomputable def Bd(v:V)(vs:List V)(σ:St):af V:=vR v fun i=>l1 vs fun w=>vB w fun k=>oD σ.hp[i]? fun l=>.ok (om l k) σ
noncomputable def aD(id:String)(v:V)(vs:List V)(σ:St):af V:=
 if id="bytes.find" then xH v vs σ else if id="bytes.join" then xI v vs σ else if id="list.append" then pU v vs σ else if id="list.extend" then pV v vs σ
 else if id="list.reverse" then mX v vs σ else if id="bytearray.append" then xJ v vs σ else if id="dict.get" then Bd v vs σ else .stuck
theorem Ab{v:V}{vs:List V}{σ:St}:aD "bytes.find" v vs σ=xH v vs σ:=by kernel_rfl
theorem Ac{v:V}{vs:List V}{σ:St}:aD "bytes.join" v vs σ=xI v vs σ:=by kernel_rfl
theorem vL{v:V}{vs:List V}{σ:St}:aD "list.append" v vs σ=pU v vs σ:=by kernel_rfl
theorem mY{v:V}{vs:List V}{σ:St}:aD "list.extend" v vs σ=pV v vs σ:=by kernel_rfl
theorem sr{v:V}{vs:List V}{σ:St}:aD "list.reverse" v vs σ=mX v vs σ:=by kernel_rfl
theorem Ad{v:V}{vs:List V}{σ:St}:aD "bytearray.append" v vs σ=xJ v vs σ:=by kernel_rfl
theorem CP{v:V}{vs:List V}{σ:St}:aD "dict.get" v vs σ=Bd v vs σ:=by kernel_rfl
theorem jx{w k:Value}{us:List Value}{r1 r2:af V}(h1:ah G x as σ (call k us) VR r1)(h2:ah G x as σ (call w us) VR r2):ah G x as σ (call w us) VR (if w=k then r1 else r2):=by
 by_cases e:w=k
 ·rw[if_pos e,e];exact h1
 ·rw[if_neg e];exact h2
theorem ss{id k:String}{us:List Value}{r1 r2:af V}(h1:ah G x as σ (call (.builtin k) us) VR r1)(h2:ah G x as σ (call (.builtin id) us) VR r2):ah G x as σ (call (.builtin id) us) VR (if id=k then r1 else r2):=by
 by_cases e:id=k
 ·rw[if_pos e,e];exact h1
 ·rw[if_neg e];exact h2
@[elab_as_elim] theorem refV{v:V}{u:Value}{i:Nat}{P:Value→Prop}(h:VR as v u)(e:v=.ref i)(k:∀p:Addr×Addr,as[i]? =some p→P (.ref p.1)):P u:=by
 subst e
 refine ak h fun p hp q92=>?_;obtain rfl:=q92
 exact k p hp
theorem mZ(ok:x.Ok G){id:String}{v:V}{vs:List V}{u:Value}{us:List Value}(hv:VR as v u)(hvs:aj (VR as) vs us):ah G x as σ (call (.builtin id) (u::us)) VR (aD id v vs σ):=by
 refine ss (.vB fun b e=>.l1 (t:=fun us=>call _ (u::us)) hvs fun w z hw=>.vB fun c e2=>CM (e ▸ hv) (e2 ▸ hw)) (ss (.vB fun b e=>.l1 (t:=fun us=>call _ (u::us)) hvs fun w z hw=>.vR fun i e2=>?_) (ss (.vR fun i e=>?_) (ss (.vR fun i e=>?_) (ss (.vR fun i e=>?_) (ss (.vR fun i e=>?_) (ss (.vR fun i e=>?_) trivial))))))
 ·exact refV hw e2 fun p hp=>.oL fun l hl=>.oO fun ps hps=>.ifS fun q=>CO hl hp (e ▸ hv) hps q.1 q.2
 ·exact refV hv e fun p hp=>.l1 (t:=fun us=>call _ (_::us)) hvs fun w z hw=>.oL fun l hl=>.ifS fun q=>pE hl hp hw q
 ·refine refV hv e fun p hp=>.l1 (t:=fun us=>call _ (_::us)) hvs fun w z hw=>.oL fun l hl=>?_
  cases w with
  |bytes b=>exact .ifS fun q=>vA ok hl hp hw q
  |ref j=>exact refV hw rfl fun p2 hp2=>.oL fun m hm=>.ifS fun q=>vy hl hp hm hp2 q
  |_=>trivial
 ·exact refV hv e fun p hp=>.l0 (t:=fun us=>call _ (_::us)) hvs (.oL fun l hl=>.ifS fun q=>vx hl hp q)
 ·exact refV hv e fun p hp=>.l1 (t:=fun us=>call _ (_::us)) hvs fun w z hw=>.vI fun k e2=>.oB fun b hb=>.ifS fun q=>r9 ok hb hp (e2 ▸ hw) q.1 q.2.1 q.2.2
 ·exact refV hv e fun p hp=>.l1 (t:=fun us=>call _ (_::us)) hvs fun w z hw=>.vB fun k e2=>.oD fun d hd=>vC hd hp (e2 ▸ hw)
end
end
noncomputable def xK(st:List V→St→af V)(pieces:List V)(N:Nat)(vs:List V)(σ:St):af V:=l2 vs fun tr most=>(((D6 st pieces σ.hp.length N most ⟨[some most],σ.hp++[.cell tr]⟩).bind fun v σ1=>.ok [v] σ1).bind fun ws σ1=>aD "bytes.join" (.bytes []) ws σ1).only.bind fun v σ1=>.ok v ⟨σ.vars,σ1.hp⟩
noncomputable abbrev bP:Str:="tray"
noncomputable abbrev eW:Str:="most"
noncomputable abbrev m5:Str:="turn"
noncomputable abbrev jy:Str:="range"
noncomputable abbrev cm:Str:="_law_strewn"
noncomputable abbrev fx:Str:="_law_pieces"
noncomputable def gc:List (Str×NameKind):=[(bP,.cell),(eW,.local),(jy,.globalImplicit),(cm,.globalImplicit)]
noncomputable def cw:List (Str×NameKind):=[((".0":Str),.local),(m5,.local),(fx,.globalImplicit),(cm,.globalImplicit),(bP,.free)]
noncomputable def iW(b:List Stmt):Prop:=∀P:Prop,(∀(k0:Nat) (p0 ap p1 p2 p3:Pos) (k1:Nat) (p4 p5 p6 p7 p8 p9 p10 p11 p12 p13:Pos) (cs:Scope) (p14 p15 p16:Pos),
 b=[.Return (some (.Call (.Attribute (.Constant (.bytes []) k0 p0) ("join":Str) ap) [.ListComp (.Subscript (.Name fx p1) (.Call (.Name cm p2) [.Name bP p3,.Constant (.int 28) k1 p4] [] p5) p6) [⟨.Name m5 p7,.Call (.Name jy p8) [.Call (.Name cm p9) [.Name bP p10,.Name eW p11] [] p12] [] p13,[],0⟩] cs p14] [] p15)) p16]→
 cs.names=cw→cs.kind=.function→ap.endLine=p15.line→P)→P
structure Be(G:bB)(pa:Addr):Prop where
 fn:∀P:Prop,(∀oc od osl name qual params body scope dV kV doc pm an cdv ct,G.K.lookup 496=some ⟨oc,od,.func (fnX name qual params body scope [] dV kV doc pm an cdv ct),osl⟩→codeIn G.K cdv qual=true→
  (∀us:List Value,us.length=2→bindArgs (fnX name qual params body scope [] dV kV doc pm an cdv ct) ⟨us,[]⟩=pure ([bP,eW].zip us))→iW body→scope.names=gc→scope.isCoroutine=false→scope.isGenerator=false→scope.kind=.function→P)→P
 g1:ce G fx (.sta (.ref pa))
 g2:ce G cm (.sta (.ref 491))
 g3:ce G jy (.sta (.type "range"))
 keep:fi G.K (.ref 491)
theorem pW{cs:Scope}{env:Env}{c:Addr}(h:cs.names=cw)(hc:env.cells.lookup bP=some c):closureFor cs env=pure [(bP,c)]:=by
 unfold closureFor
 rw[h]
 unfold cw
 have e:cellOf env bP=pure c:=by unfold cellOf;rw[hc]
 simp only[List.forIn_cons,List.forIn_nil,e]
 rfl
section
variable {G:bB}{x:Fx}{as:As}{σ:St}
noncomputable def hH(x:Fx)(qual:Str)(scope:Scope)(cdv:Value)(h:Heap)(as:As):Fx:=
 { A:=x.A.deeper (envX qual scope h.objs.size 496 cdv [(bP,h.objs.size+1)]),cn:=qual,cs:=scope,L:=h.objs.size,a:=496,ccd:=cdv,cl:=[(bP,h.objs.size+1)],outer:=x.env::x.outer,base:=x.base,h₀:=aW h as,lv:=x.lv - 1,names:=[eW] }
theorem xL{qual:Str}{scope:Scope}{cdv:Value}{h:Heap}(ok:x.Ok G)(hlv:1≤x.lv)(hk:scope.kind=.function)(R:aE G x σ as h):(hH x qual scope cdv h as).Ok G:=by
 obtain⟨st,⟨m,F,Vr⟩,own,sz⟩:=R.ground
 have B₁:=bS ok R
 refine⟨⟨x.A,B₁⟩,ok.X.keeps st,ok.T.keeps st,ok.XB,ok.TB,ok.nolim.keeps st,hk,ok.hh,?_,ok.hg,?_,?_,by simp[hH],?_,fun h=>?_⟩
 ·show(x.A.frames.map _)=_
  rw[ok.hf];rfl
 ·have:=ok.dep
  show x.A.depth+1+4 * (x.lv - 1)+8 < _
  exact BD hlv this rfl
 ·have:=ok.uni
  show x.A.units+3+16 * (x.lv - 1)+40 < _
  exact BD hlv this rfl
 ·have:=ok.most;show x.lv - 1≤40;exact GD this
 ·have:=ok.most;have h:x.lv - 1=40:=h;lia
theorem pX{qual:Str}{scope:Scope}{cdv:Value}{h h₁:Heap}{tr most:V}{ut um:Value}(R:aE G x σ as h)(ht:VR as tr ut)(hm:VR as most um){m:Str→Option Value}(hns:h₁.Ns h.objs.size m)(hmm:m eW=some um)
  (hk₁:∀b o,h.get? b=some o→h₁.get? b=some o) (hcell:h₁.IsCell (h.objs.size+1) (some ut)):
  aE G (hH x qual scope cdv h as) ⟨[some most],σ.hp++[.cell tr]⟩ (as++[(h.objs.size+1,h.objs.size+1)]) h₁:=by
 obtain⟨st,⟨m0,F,Vr⟩,own,sz⟩:=R.ground
 have hp:=prefix_append as [(h.objs.size+1,h.objs.size+1)]
 refine⟨⟨m,⟨hns,fun b o e=>hk₁ b o (of_hideAll _ e),le_of_eq sz⟩,fun i v hv=>?_⟩,fun p hp=>?_,?_,by simp[R.len],fun i o p e1 e2=>?_,?_,fun p hp=>?_⟩
 ·cases i with
  |zero=>
   simp at hv;subst hv
   exact⟨eW,um,rfl,hmm,hm.mono hp⟩
  |succ n=>simp at hv
 ·rcases mem_append.mp hp with hp|hp
  ·obtain⟨i,hi⟩:=getElem?_of_mem hp
   have:=R.lt hi
   exact⟨⟨ne_of_lt this.1,(own p hp).1⟩,ne_of_lt this.2,(own p hp).2⟩
  ·obtain rfl:=mem_singleton.mp hp
   have:(aW h as).get? (h.objs.size+1)=none:=Heap.get?_none_of_le (by rw[sz];exact le_succ _)
   exact⟨⟨ne_of_gt (lt_succ_self _),this⟩,ne_of_gt (lt_succ_self _),this⟩
 ·refine R.sep.snoc fun i p e=>?_
  have:=R.lt e
  exact⟨⟨lt_succ_of_lt this.1,lt_succ_of_lt this.1⟩,lt_succ_of_lt this.2,lt_succ_of_lt this.2⟩
 ·rcases getElem?_snoc e1 with ⟨li,ei⟩|⟨li,rfl⟩<;>rcases getElem?_snoc e2 with ⟨lj,ej⟩|⟨lj,rfl⟩
  ·refine bC (R.obj i o p ei ej) fun u1 u2 a b c=>?_
   exact⟨u1,u2,hk₁ _ _ a,hk₁ _ _ b,c.mono hp⟩
  ·rw[lj,R.len] at li;exact absurd li (lt_irrefl _)
  ·rw[li,R.len] at lj;exact absurd lj (lt_irrefl _)
  ·refine ak hcell fun o ho hd=>?_
   exact⟨o,o,ho,ho,ut,hd,ht.mono hp⟩
 ·refine ak R.fr fun m0 F0 z=>?_
  exact lt_trans R.low.1 F0.ns.lt
 ·rcases mem_append.mp hp with hp|hp
  ·exact R.low.2 p hp
  ·obtain rfl:=mem_singleton.mp hp
   refine ak R.fr fun m0 F0 z=>?_
   have:=R.low.1
   have h2:=F0.ns.lt
   exact ne_of_gt (lt_succ_of_lt (lt_trans this h2))
theorem pY{cs:Scope}{env:Env}(hc:cs.names=cw)(hk:env.scope.kind=.function)(hn:env.scope.names=gc):
  (relabel cs env).names=[((".0":Str),.local),(m5,.local),(fx,.globalImplicit),(cm,.globalImplicit),(bP,.cell)]:=by
 have e:env.kindOf=fun n=>gc.lookup n:=by
  funext n
  show env.scope.names.lookup n=_
  rw[hn]
 unfold relabel
 dsimp only
 rw[hc,e,hk]
 rfl
theorem vM(ok:x.Ok G){b:Bs}{k0:Nat}{p0 ap p15 p16:Pos}{lc:Expr}{r:af V}(hlc:ck lc=false)(hl:ap.endLine=p15.line)(T:∀as',as <+: as'→ah G x as' σ (eval lc x.env) VR r):
  ah G x as σ (execs [.Return (some (.Call (.Attribute (.Constant (.bytes b) k0 p0) ("join":Str) ap) [lc] [] p15)) p16] x.env) eG (((r.bind fun v σ1=>.ok [v] σ1).bind fun ws σ1=>aD "bytes.join" (.bytes b) ws σ1).bind fun v σ1=>.ok (.ret v) σ1):=by
 rw[execs_cons,exec_Return_some]
 have e0:eval (.Call (.Attribute (.Constant (.bytes b) k0 p0) ("join":Str) ap) [lc] [] p15) x.env=(do
   let ov ←attributeBase (.Constant (.bytes b) k0 p0) ("join":Str) x.env (eval (.Constant (.bytes b) k0 p0) x.env)
   PySem.standAt ap.atName
   methodCall (.Constant (.bytes b) k0 p0) ("join":Str) ap p15 x.env ov (([lc]:List Expr).length+([]:List Keyword).length) (backTo p15 (starEach [lc] x.env)) (backToKw p15 (keywordEach [] x.env))):=rfl
 have main:ah G x as σ (eval (.Call (.Attribute (.Constant (.bytes b) k0 p0) ("join":Str) ap) [lc] [] p15) x.env) VR ((r.bind fun v σ1=>.ok [v] σ1).bind fun ws σ1=>aD "bytes.join" (.bytes b) ws σ1):=by
  rw[e0,cT rfl]
  refine ah.bind (tO (v:=.bytes b) (decide_eq_true rfl)) fun u as1 ha1 hu1=>.standAt ?_
  have hform:methodCallForm (([lc]:List Expr).length+([]:List Keyword).length) (backTo p15 (starEach [lc] x.env)) (backToKw p15 (keywordEach [] x.env))=true:=by
   unfold methodCallForm
   rw[aG hlc]
   rfl
  have hpos:methodCallPos true (.Constant (.bytes b) k0 p0) x.env ap p15=Pure.pure p15:=by
   unfold methodCallPos
   rw[if_pos (by simp[hl])]
  unfold methodCall PySem.calleeOf
  rw[hform,hpos,if_pos rfl]
  have hv0:=hu1
  obtain⟨tk,rfl⟩:=hu1
  have nd:∀s:Shared,aE G x σ as1 s.heap→∀a,(Value.bytes b.toArray tk)=.ref a→∃o,s.heap.get? a=some o∧o.dict=none:=fun y y a e=>nomatch e
  have hm:=z8 (G:=G) (x:=x) (σ:=σ) (as:=as1) (pl:=(do return (←importBound (.Constant (.bytes b) k0 p0) x.env).getD true)) hv0 (fun s y=>W.typeIs_bytes s _ _) FB.plainAttrs_bytes dj fO nd
  refine hm.holding.bind fun r2 as2 ha2 e2=>?_
  subst e2
  refine ah.bind (b:=()) (R:=fun _ (_:Unit) l=>l=p15) (σ':=σ) (.pure rfl) fun cp as3 ha3 e3=>?_
  subst e3
  exact nP ok (.inr (.inr ⟨_,rfl⟩)) (fun z hz=>by obtain rfl:=mem_singleton.mp hz;exact hlc) (ig hlc (T as3 ((ha1.trans ha2).trans ha3))) fun us vs σ' as' ha' hu=>mZ ok ((hv0.mono (ha2.trans ha3)).mono ha') hu
 have fin:ah G x as σ (PySem.standAt p16>>=fun y=>eval (.Call (.Attribute (.Constant (.bytes b) k0 p0) ("join":Str) ap) [lc] [] p15) x.env>>=fun v=>(Pure.pure (Flow.ret v):Sem Flow)) eG (((r.bind fun v σ1=>.ok [v] σ1).bind fun ws σ1=>aD "bytes.join" (.bytes b) ws σ1).bind fun v σ1=>.ok (.ret v) σ1):=
  .standAt (main.bindR fun u v σ1 as1 y y hr=>.pure ⟨u,rfl,hr⟩)
 have e2:∀rr:af V,(rr.bind fun v σ1=>(.ok (.ret v) σ1:af Fl))=((rr.bind fun v σ1=>(.ok (.ret v) σ1:af Fl)).bind fun f σ1=>match f with | .next=>.stuck|f=>.ok f σ1):=fun rr=>by cases rr<;>rfl
 rw[e2]
 refine fin.bindR fun f fl σ1 as1 y y hf=>?_
 cases fl with
 |next=>trivial
 |brk=>obtain rfl:=hf;exact .pure rfl
 |ret v=>obtain⟨w,rfl,hw⟩:=hf;exact .pure ⟨w,rfl,hw⟩
theorem Ae{cs:Scope}{y:Str×NameKind}(hcn:cs.names=cw)(hy:y∈cs.names)(hl:y.2=.local):cs.names.lookup y.1=some .local:=by
 rw[hcn] at hy⊢
 simp only[cw,mem_cons,not_mem_nil,or_false] at hy
 rcases hy with rfl|rfl|rfl|rfl|rfl<;>first|rfl|cases hl
theorem xM{cs:Scope}{y:Str×NameKind}(hcn:cs.names=cw)(hy:y∈cs.names):y.2≠.cell:=by
 rw[hcn] at hy
 simp only[cw,mem_cons,not_mem_nil,or_false] at hy
 rcases hy with rfl|rfl|rfl|rfl|rfl<;>exact fun h=>nomatch h
set_option tactic.hygienic true in
theorem EP{pa:Addr}{N:Nat}{prim:List V→St→af V}{pieces:List V}(ro:Be G pa)(ok:x.Ok G)(hlv:1≤x.lv)
  (hprim:∀x':Fx,x'.Ok G→x.lv≤x'.lv+1→∀as σ vs us,aj (VR as) vs us→ah G x' as σ (call (.ref 491) us) VR (prim vs σ))
  (hpieces:∃vs n,G.K.lookup pa=some (listOf vs.toArray n)∧aj (VR []) pieces vs) {vs:List V} {us:List Value} (hu:aj (VR as) vs us):
  ah G x as σ (call (.ref 496) us) VR (xK prim pieces N vs σ):=by
 cases hu with
 |nil=>trivial
 |cons ht hu=>
 cases hu with
 |nil=>trivial
 |cons hm hu=>
 cases hu with
 |cons _ _=>trivial
 |nil=>
 rename_i tr ut most um
 unfold xK
 dsimp only[l2,l1,l0]
 generalize hr:(((D6 prim pieces σ.hp.length N most ⟨[some most],σ.hp++[.cell tr]⟩).bind fun v σ1=>(.ok [v] σ1:af (List V))).bind fun ws σ1=>aD "bytes.join" (.bytes []) ws σ1)=r
 cases r with
 |stuck=>trivial
 |exc H=>trivial
 |ok v σ1=>
  show ah G x as σ _ VR (.ok v ⟨σ.vars,σ1.hp⟩)
  intro s Q E R hq
  refine ro.fn _ fun oc od osl name qual params body scope dV kV doc pm an cdv ct ho hcd hbind hb hnm hco hgen hkind=>?_
  refine hb _ fun k0 p0 ap p1 p2 p3 k1 p4 p5 p6 p7 p8 p9 p10 p11 p12 p13 cs p14 p15 p16 hb hcn hck hline=>?_;subst hb
  refine ak R.fr fun m F Vr=>?_
  have X:=ok.X.keeps F.keep
  refine bJ (aK (fd:=fnX name qual params _ scope [] dV kV doc pm an cdv ct) (by have:=ok.dep;omega) (X _ _ ho) rfl hco hgen rfl (codeRec_of X hcd) ?_)
  refine BindsTo.of_eq (hbind [ut,um] rfl) _ _ _ _ ?_
  have hcf:∀n,cellsFrom n scope.names []=[(bP,n)]:=fun n=>by rw[hnm];rfl
  refine wpAny_newFunctionEnv_cells hkind (fun y hy=>?_) fun env' he s' xc=>?_
  ·rcases mem_cons.mp hy with rfl|hy
   ·exact .inr ⟨by rw[hnm];rfl,by rw[hcf];rfl⟩
   ·obtain rfl:=mem_singleton.mp hy
    exact .inl (by rw[hnm];rfl)
  ·rw[hcf] at he
   have he2:env'=envX qual scope s.heap.objs.size 496 cdv [(bP,s.heap.objs.size+1)]:=he
   subst he2
   refine⟨(ok.nolim.keeps F.keep).keeps xc.toInCall.keep,cq ?_⟩
   refine dc xc.done fun h₁ tk q92 _=>?_;obtain rfl:=q92
   have hk₁:=xc.toInCall.keep
   have hcell:=xc.cell bP (s.heap.objs.size+1) (by rfl)
   have ekt:(envX qual scope s.heap.objs.size 496 cdv [(bP,s.heap.objs.size+1)]).kindOf bP=some .cell:=by show scope.names.lookup bP=_;rw[hnm];rfl
   have ekm:(envX qual scope s.heap.objs.size 496 cdv [(bP,s.heap.objs.size+1)]).kindOf eW=some .local:=by show scope.names.lookup eW=_;rw[hnm];rfl
   have hcv:h₁.IsCell (s.heap.objs.size+1) (some ut):=by
    have:=hcell
    simp only[bindC,zip_cons_cons,List.zip_nil_right,ekt,ekm] at this
    exact this
   have R₁:=pX (qual:=qual) (scope:=scope) (cdv:=cdv) (h₁:=h₁) R ht hm xc.toInCall.ns (by
    simp only[bindL,zip_cons_cons,List.zip_nil_right,ekt,ekm]
    rfl) hk₁ hcv
   have ok':=xL (qual:=qual) (scope:=scope) (cdv:=cdv) ok hlv hkind R
   have re:xn G (hH x qual scope cdv s.heap as) cs bP fx cm m5 pa (s.heap.objs.size+1):=by
    have hrl:=pY (cs:=cs) (env:=(hH x qual scope cdv s.heap as).env) hcn hkind hnm
    exact⟨ok',rfl,hck,by rw[hrl];rfl,by rw[hrl];rfl,by rw[hrl];rfl,by rw[hrl];rfl,by decide,by decide,by decide,ro.g1,ro.g2⟩
   have e:xr G (hH x qual scope cdv s.heap as) cs m5:=⟨ok',hck,pW hcn rfl,fun y hy hl=>Ae hcn hy hl,fun y hy=>xM hcn hy,re.k4⟩
   have kn:∀y k,gc.lookup y=some k→scope.names.lookup y=some k:=fun y k h=>by rw[hnm];exact h
   have hp':=fun as σ vs us h=>hprim _ ok' (by show x.lv≤x.lv - 1+1;omega) as σ vs us h
   have T:∀as',as++[(s.heap.objs.size+1,s.heap.objs.size+1)] <+: as'→ah G (hH x qual scope cdv s.heap as) as' ⟨[some most],σ.hp++[.cell tr]⟩ (eval (.ListComp (.Subscript (.Name fx p1) (.Call (.Name cm p2) [.Name bP p3,.Constant (.int 28) k1 p4] [] p5) p6) [⟨.Name m5 p7,.Call (.Name jy p8) [.Call (.Name cm p9) [.Name bP p10,.Name eW p11] [] p12] [] p13,[],0⟩] cs p14) (hH x qual scope cdv s.heap as).env) VR (D6 prim pieces σ.hp.length N most ⟨[some most],σ.hp++[.cell tr]⟩):=by
    intro as' ha'
    have hc:as'[σ.hp.length]? =some (s.heap.objs.size+1,s.heap.objs.size+1):=cV ha' (by rw[←R.len];simp)
    exact Hc (a:=.Call (.Name cm p9) [.Name bP p10,.Name eW p11] [] p12) e (fun C=>EN hp' ro.keep hpieces re) rfl (fun as2 h2 tv htv=>pF (env:=(hH x qual scope cdv s.heap as).env) (a:=.Name eW p11) (ra:=fun σ'=>match σ'.vars[0]? with |some (some z)=>.ok z σ'|_=>.stuck) ok' hp' ro.keep
     (n6 ok' rfl rfl hkind (kn cm .globalImplicit rfl) (by decide) ro.g2) rfl (cV h2 hc) (fun as hc=>t4 hkind (kn bP .cell rfl) (by decide) rfl htv hc) (fun as σ'=>by
      cases hv:σ'.vars[0]? with
      |none=>trivial
      |some o=>cases o with
       |none=>trivial
       |some z=>exact AX ok' (i:=0) rfl (kn eW .local rfl) (by decide) hv) rfl) (kn jy .globalImplicit rfl) (by decide) ro.g3 hc
   have TT:=vM (G:=G) (σ:=⟨[some most],σ.hp++[.cell tr]⟩) (as:=as++[(s.heap.objs.size+1,s.heap.objs.size+1)]) ok' (b:=[]) (k0:=k0) (p0:=p0) (p16:=p16) (ap:=ap) (p15:=p15) rfl hline T
   rw[hr] at TT
   refine TT { s with heap:=h₁,toks:=tk } _ _ R₁ fun a as' h' tk' ha R' hrv=>?_
   refine ak hrv fun w q91 hw=>?_;obtain rfl:=q91
   have hpre:as <+: as':=(prefix_append _ _).trans ha
   exact hq w as' h' tk' hpre (R.back (x':=hH x qual scope cdv s.heap as) rfl hpre R') hw
end
section
open Builtin Builtin.ObjectAttr
section
variable {G:bB}{C f:Addr}{bm:List Value}{lv:Nat}
theorem xN{K:Frag}{w:Value}(hk:keepIn K w=true){M:Model}:∀h:Heap,K.In h→∃k,(k=Keeper.frame∨k=Keeper.machine∨k=Keeper.boundFrame)∧Looks M h (keeperOf w) k:=fun h X=>keeps_K hk h X
set_option tactic.hygienic true in
theorem xO(io:rX G f C)(xo:kZ G.K C f bm)(hxc:G.xc=C):nW G lv:=by
 intro x as σ y np a cp pos r ok hl hd hk hn hs T
 rw[arm_exec_Raise]
 refine .standAt ?_
 have TS:=ig (cp:=cp) hs T
 have hplain:((backTo cp (starEach [a] x.env)).any (·.1)||([]:List (Option Str×Sem Value)).any (·.1.isNone))=false:=by rw[aG hs];rfl
 have hd':(y==("__debug__":Str))=false:=by simpa [dL] using hd
 -- the name and the argument
 have args:∀s (Q:Args→Shared→Prop) E,aJ (model G.prog G.w) x.A (spliced (backTo cp (starEach [a] x.env))) (fun vs s'=>Q { pos:=vs } s') E s→aJ (model G.prog G.w) x.A (evalArgs (.ref C) true (backTo cp (starEach [a] x.env)) []) Q E s:=by
  intro s Q E h
  rw[aG hs] at h⊢
  exact bK h
 have start:∀{s:Shared} {Q:Flow→Shared→Prop} {E:Value→Shared→Prop} (R:aE G x σ as s.heap),
   aJ (model G.prog G.w) x.A (spliced (backTo cp (starEach [a] x.env))) (fun vs s'=>G.K.In s'.heap∧aJ (model G.prog G.w) x.A (call (.ref C) vs) (fun v s''=>
     aJ (model G.prog G.w) x.A (holding ([]:List Value) (excFromValue v "exceptions must derive from BaseException")>>=fun e=>(do
      let e ←if←isType v then holding [e] (raisedFor v e) else raisedInstance e
      setFlight e none
      raiseNew e)) Q E s'') E s') E s→
   aJ (model G.prog G.w) x.A (raiseStmt x.env ((evalOpt (some (.Call (.Name y np) [a] [] cp)) x.env).map fun z=>do let v ←z;PySem.standAt pos;pure v) ((evalOpt none x.env).map fun c=>do let v ←c;PySem.standAt pos;pure v)) Q E s:=by
  intro s Q E R h
  show aJ _ _ (raiseStmt x.env (some (eval (.Call (.Name y np) [a] [] cp) x.env>>=fun v=>PySem.standAt pos>>=fun _=>Pure.pure v)) none) Q E s
  unfold raiseStmt
  refine ae (ae ?_)
  show aJ _ _ (eval (.Name y np) x.env>>=fun f=>callWith cp f [] (backTo cp (starEach [a] x.env)) []) _ _ _
  have TN:=AY (as:=as) (σ:=σ) (pos:=np) ok hn hk hd'
  refine ak R.fr fun m0 F0 _=>?_
  refine ae (aB ?_)
  have hcont:aJ (model G.prog G.w) x.A (callWith cp (.ref C) [] (backTo cp (starEach [a] x.env)) []) (fun v s'=>aJ (model G.prog G.w) x.A (PySem.standAt pos>>=fun _=>Pure.pure v) (fun v s'=>aJ (model G.prog G.w) x.A ((match (none:Option (Sem Value)) with
    |some c=>do pure (some (←holding [v] c))
    |none=>pure none)>>=fun cv=>(do
     let e ←holding cv.toList (excFromValue v "exceptions must derive from BaseException")
     if let some cv:=cv then
      let c ←if cv== .none then pure .none else holding [e] (excFromValue cv "exception causes must derive from BaseException")
      setField e 3 c
      setField e 4 (.bool true)
     let e ←if←isType v then holding [e] (raisedFor v e) else raisedInstance e
     setFlight e none
     raiseNew e)) Q E s') E s') E s:=by
   refine bZ hplain (xN xo.keep) (args _ _ _ (av h (fun vs s' h'=>⟨h'.1,av h'.2 (fun v s'' h''=>?_) fun _ _ z=>z⟩) fun _ _ z=>z))
   exact aF (au (aq (wpAny_pure h'')))
  have goal:∀v,v=Value.ref C→aJ (model G.prog G.w) x.A (callWith cp v [] (backTo cp (starEach [a] x.env)) []) (fun v s'=>aJ (model G.prog G.w) x.A (PySem.standAt pos>>=fun _=>Pure.pure v) (fun v s'=>aJ (model G.prog G.w) x.A ((match (none:Option (Sem Value)) with
    |some c=>do pure (some (←holding [v] c))
    |none=>pure none)>>=fun cv=>(do
     let e ←holding cv.toList (excFromValue v "exceptions must derive from BaseException")
     if let some cv:=cv then
      let c ←if cv== .none then pure .none else holding [e] (excFromValue cv "exception causes must derive from BaseException")
      setField e 3 c
      setField e 4 (.bool true)
     let e ←if←isType v then holding [e] (raisedFor v e) else raisedInstance e
     setFlight e none
     raiseNew e)) Q E s') E s') E s:=fun v e=>e ▸ hcont
  rcases hn with ⟨u,q1,q2⟩|⟨q1,q3,u,q4,q2⟩
  ·exact nameX_K F0 ok.X ok.T q1 (goal u (by rw[←hxc];exact q2)) ok.hk hk hd'
  ·exact nameX_B F0 ok.X ok.T q1 q4 q3 (goal u (by rw[←hxc];exact q2)) ok.hk hk hd'
 cases r with
 |stuck=>trivial
 |exc H=>exact fun s Q E R hp hq=>start R (TS s _ E R hp hq)
 |ok v σ1=>
  cases v<;>try trivial
  rename_i b
  show ah G x as σ _ eG (.exc σ1.hp)
  intro s Q E R hp hq
  refine start R (TS s _ E R fun us as' h' tk' ha R' hu=>?_)
  cases hu with
  |cons hu hr=>
   cases hr
   rename_i u
   refine ak R'.fr fun m1 F1 V1=>?_
   have X':=ok.X.keeps F1.keep
   refine⟨X',aB ?_⟩
   have hroom:=ok.dep
   refine BJ xo X' (by show 1≤sizeLine;rw[sizeLine_eq];decide) (CF io xo X' (ok.nolim.keeps F1.keep) (by show x.A.depth+1 < _;exact GU hroom rfl) fun h2 tk2 o kk q1 q2 q3 q4=>⟨rfl,aB ?_⟩)
   refine xj (env:=x.env) (s:={ s with heap:=h2,toks:=tk2 }) xo (X'.keeps kk) ok.hh q1 q2 q3 ?_
   exact hq _ as' h2 tk2 ha (.inr ⟨_,_,_,h',_,o,rfl,R',kk,Heap.get?_none_of_le (le_succ _),Heap.get?_none_of_le (le_refl _),q1,hxc ▸ q2,q3,q4⟩)
end
end
noncomputable def uI(u:Value)(f:Int→Bool):Bool:=@Value.casesOn (fun z=>Bool) u false false false (fun z=>false) (fun j z=>f j) (fun z z=>false) (fun z z=>false) (fun z z=>false) (fun z=>false) (fun z=>false) fun z=>false
noncomputable def uB(u:Value)(f:Array UInt8→Bool):Bool:=@Value.casesOn (fun z=>Bool) u false false false (fun z=>false) (fun z z=>false) (fun z z=>false) (fun z z=>false) (fun j z=>f j) (fun z=>false) (fun z=>false) fun z=>false
noncomputable def CQ(v:V)(u:Value):Bool:=@V.casesOn (fun z=>Bool) v (decide (u=.none)) (fun b=>decide (u=.bool b)) (fun i=>uI u fun j=>decide (i=j)) (fun b=>uB u fun c=>b==c.toList) (fun z=>false) (fun z=>false) fun w=>decide (u=w)
theorem su{v:V}{u:Value}(h:CQ v u=true):VR [] v u:=by
 cases v with
 |none=>exact of_decide_eq_true (p:=u=.none) h
 |bool b=>exact of_decide_eq_true (p:=u=.bool b) h
 |int i=>cases u<;>first|exact⟨_,congrArg (Value.int · _) (of_decide_eq_true h).symm⟩|exact Bool.noConfusion h
 |bytes b=>cases u<;>first|exact⟨_,congrArg (Value.bytes · _) (beq_iff_eq.mp h ▸ rfl)⟩|exact Bool.noConfusion h
 |sta w=>exact of_decide_eq_true (p:=u=w) h
 |_=>exact Bool.noConfusion h
noncomputable def cJ(K:Frag)(f:Str×V):Bool:=match nsIn K mainGlobals f.1 with
 |some (some u)=>CQ f.2 u
 |some none=>f.1 != "__name__"&&(match bootBuiltins f.1 with |some u=>CQ f.2 u|none=>false)
 |none=>false
set_option tactic.hygienic true in
theorem cy{G:bB}{f:Str×V}(h:cJ G.K f=true):ce G f.1 f.2:=by
 unfold cJ at h
 split at h
 ·rename_i u e;exact .inl ⟨u,e,su h⟩
 ·rename_i e
  simp only[and_eq_true,bne_iff_ne,ne_eq] at h
  obtain⟨h1,h2⟩:=h
  split at h2
  ·rename_i u e2;exact .inr ⟨e,h1,u,e2,su h2⟩
  ·cases h2
 ·cases h
theorem ik{α:Type}{y:Str}{v:α}:∀{l:List (Str×α)},l.lookup y=some v→(y,v)∈l
 |(z,w)::l,h=>by
  rw[lookup_cons] at h
  by_cases e:y=z
  ·subst e;simp at h;subst h;exact .head _
  ·rw[beq_false_of_ne e] at h;exact .tail _ (ik h)
noncomputable def gf(K:Frag)(C:Addr)(flds:List Nat):Bool:=
 findIn K (.ref C) "__getattribute__"==some (some (.builtin "object.__getattribute__"))&&(findIn K (.ref C) "__getattr__"==some none&&(hasDictIn K C&&(plainOver K C&&
  (findIn K (.ref C) "__setattr__"==some (some (.builtin "object.__setattr__"))&&((clsIn K C).any (·.hasDict)&&flds.all fun n=>match aO[n]? with |some y=>findIn K (.ref C) y==some none&&takerIn K C y==some none|none=>true)))))
theorem gI{K:Frag}{C:Addr}{flds:List Nat}(h:gf K C flds=true):lb K C∧∀n∈flds,∀y,aO[n]? =some y→o9 K C y:=by
 simp only[gf,and_eq_true,all_eq_true,beq_iff_eq] at h
 refine zg h fun a b c d e f g=>?_
 refine⟨⟨fun n=>by simp only[plainGet,a,b,beq_self_eq_true,Bool.and_self],c,d,e,f⟩,fun n hn y hy=>?_⟩
 have:=g n hn
 rw[hy] at this
 simp only[and_eq_true,beq_iff_eq] at this
 exact⟨this.1,this.2⟩
noncomputable def uc(K:Frag)(C:Addr)(ms:List (Nat×Addr)):Bool:=ms.all fun m=>(match aO[m.1]? with |some y=>findIn K (.ref C) y==some (some (.ref m.2))|none=>true)&&(isFn K (.ref m.2)&&keepIn K (.ref m.2))
noncomputable def dF(K:Frag)(a:Addr)(l:List V):Bool:=match K.lookup a with
 |some ⟨c,d,.seq vs _,sl⟩=>decide (c=.type "list")&&(d.isNone&&(sl.toList.isEmpty&&(vs.size==l.length&&(l.zip vs.toList).all fun p=>CQ p.1 p.2)))
 |_=>false
theorem lF:∀{l:List V} {vs:List Value},vs.length=l.length→(l.zip vs).all (fun p=>CQ p.1 p.2)=true→aj (VR []) l vs
 | [],[],_,_=>.nil
 | [],_::_,h,_=>by cases h
 |_::_,[],h,_=>by cases h
 |a::l,b::m,h,q=>by
  simp only[zip_cons_cons,all_cons,and_eq_true] at q
  exact .cons (su q.1) (lF (by simpa using h) q.2)
set_option tactic.hygienic true in
theorem dR{K:Frag}{a:Addr}{l:List V}(h:dF K a l=true):∃vs n,K.lookup a=some (listOf vs.toArray n)∧aj (VR []) l vs:=by
 unfold dF at h
 cases e:K.lookup a with
 |none=>rw[e] at h;exact Bool.noConfusion h
 |some o=>
  rw[e] at h
  obtain⟨c,d,dt,sl⟩:=o
  cases dt<;>first|exact Bool.noConfusion h|skip
  rename_i vs n
  have h:(decide (c=.type "list")&&(d.isNone&&(sl.toList.isEmpty&&(vs.size==l.length&&(l.zip vs.toList).all fun p=>CQ p.1 p.2))))=true:=h
  simp only[and_eq_true,beq_iff_eq,decide_eq_true_eq,Option.isNone_iff_eq_none,isEmpty_iff] at h
  refine wA h fun q90 q91 h3 h4 h5=>⟨vs.toList,n,?_,lF (by simpa using h4) h5⟩
  rw[q90,q91,show sl=#[] from Array.toList_inj.mp h3]
noncomputable def ao:List Bs:=[[97,110,100],[98,114,101,97,107],[100,111],[101,108,115,101],[101,108,115,101,105,102],[101,110,100],[102,97,108,115,101],[102,111,114],[102,117,110,99,116,105,111,110],[105,102],[105,110],[108,111,99,97,108],[110,105,108],[110,111,116],[111,114],[114,101,112,101,97,116],[114,101,116,117,114,110],[116,104,101,110],[116,114,117,101],[117,110,116,105,108],[119,104,105,108,101]]
noncomputable def cY:List Bs:=[[46,46],[46,46,46],[61,61],[62,61],[60,61],[126,61],[60,110,117,109,98,101,114,62],[60,110,97,109,101,62],[60,115,116,114,105,110,103,62],[60,101,111,102,62]]
noncomputable def fy(K:Frag)(a:Addr):Option (List Stmt):=mF K a none fun z b=>some b
theorem jz{K:Frag}{a:Addr}{c d fd sl b}(h:K.lookup a=some ⟨c,d,.func fd,sl⟩)(hb:fd.body=.stmts b):fy K a=some b:=(oy h).trans (mW hb)
theorem sx:aO.Nodup:=by decide +kernel
section
open Builtin Builtin.ObjectAttr
noncomputable def oA(K:Frag)(f C:Addr):Bool:=mF K f false fun fd b=>iU K [("self":Str),("value":Str)] 2 fd&&(decide (b.length≤90)&&b.all (t3 K C))
theorem sy{G:bB}{f C:Addr}(h:oA G.K f C=true):rX G f C:=
 vK h fun oc od fd osl b ho hb h=>by
  obtain⟨h1,h⟩:=an h
  obtain⟨h2,h3⟩:=an h
  exact⟨fd.qualname,fd.scope,b,(dQ ho hb h1).1,all_eq_true.mp h3,km h2⟩
noncomputable abbrev ud:List Value:=[.ref 74,.type "Exception",.type "BaseException",.type "object"]
noncomputable def EQ(K:Frag)(C f:Addr)(bm:List Value)(cd:ClassData):Bool:=cd.mro== .ref C::bm&&cd.hasDict&&!cd.hasDel&&findIn K (.ref C) "__init__"==some (some (.ref f))&&typeIn K (.ref f)==some (.type "function")&&
   findIn K (.ref C) "__setattr__"==some (some (.builtin "object.__setattr__"))&&keepIn K (.ref C)
noncomputable def ES(n:String)(v:Option Value):Bool:=match v with
 |some (.builtin m)=>m==n
 |_=>false
noncomputable def pZ(n:String)(l:List (Option Value)):Bool:=decide (l.length=6)&&ES n ((l[4]?).getD none)
noncomputable def xP(v:Value):Bool:=match v with
 | .type n=>n=="type"
 |_=>false
noncomputable def ue(K:Frag)(C f:Addr)(bm:List Value):Bool:=match K.lookup C with
 |some ⟨t,_,.cls cd,⟨l⟩⟩=>xP t&&pZ "Exception.__new__" l&&EQ K C f bm cd
 |_=>false
theorem CR{n:String}{v:Option Value}(h:ES n v=true):v=some (.builtin n):=by
 cases v with
 |none=>cases h
 |some v=>cases v<;>first|cases h|exact congrArg (some <|Value.builtin ·) (beq_iff_eq.mp h)
theorem sA{n:String}{l:List (Option Value)}(h:pZ n l=true):∃k0 k1 k2 k3 k5,l=[k0,k1,k2,k3,some (.builtin n),k5]:=by
 obtain⟨h1,h2⟩:=an h
 have h1:=km h1
 rcases l with _|⟨a,_|⟨b,_|⟨c,_|⟨d,_|⟨e,_|⟨f,_|⟨g,l⟩⟩⟩⟩⟩⟩⟩<;>first|exact⟨_,_,_,_,_,by rw[←CR h2];rfl⟩|exact absurd h1 (by simp)
theorem xQ{v:Value}(h:xP v=true):v=.type "type":=by
 cases v<;>first|cases h|exact congrArg Value.type (beq_iff_eq.mp h)
theorem ET{cd:ClassData}{m:List Value}(h1:(cd.mro==m)=true)(h2:cd.hasDict=true)(h3:(!cd.hasDel)=true):cd=⟨cd.name,cd.bases,m,cd.ns,cd.qualname,true,cd.slotNames,cd.subclasses,cd.abstract,cd.collection,false⟩:=by
 obtain⟨nm,bs,mro,ns,qn,hd,sn,sub,ab,col,del⟩:=cd
 cases beq_iff_eq.mp h1
 cases h2
 cases (not_eq_true' _).mp h3
 rfl
theorem xR{K:Frag}{C f:Addr}(h:ue K C f ud=true):kZ K C f ud:=by
 unfold ue at h
 cases ho:K.lookup C with
 |none=>rw[ho] at h;cases h
 |some o=>
  rw[ho] at h
  obtain⟨t,dd,dt,⟨l⟩⟩:=o
  cases dt with
  |cls cd=>
   refine rJ h fun h0 h1 h=>IV h fun h2 h3 h4 h5 h6 h7 h8=>?_
   refine GR (sA h1) fun k0 k1 k2 k3 k5 q95=>?_;obtain rfl:=q95
   rw[xQ h0,ET h2 h3 h4] at ho
   refine⟨fun P k=>k _ _ _ _ _ _ _ _ dd k0 k1 k2 k3 k5 ho,by decide,by decide,by decide,by decide,by decide,beq_iff_eq.mp h5,beq_iff_eq.mp h6,beq_iff_eq.mp h7,fun self=>?_,h8⟩
   rw[refuseLoop_ref,refuseLoop_ref]
   exact PySem.F.store_Exception.passes self
  |_=>cases h
end
noncomputable def pieces:List Bs:=[[120],[97,110,100,32],[32],[49,50],[48,120,49,70],[34,97,92,110,92,48,54,53,92,122,34],[34,92,92,34],[39,92,39,39],[91,91,107,13,93,93],[91,61,61,91,93,93,10,93,61,61,93],[45,45,122,10],[45,45,91,91,32,93,93],[46,46],[46],[61],[126],[60],[45],[10],[1],[34],[91],[93],[92],[0],[39,0,9,255,39],[45,45,91,61],[95,101,49]]
noncomputable def xS(sc:Scope):Bool:=!sc.isCoroutine&&!sc.isGenerator&&sc.kind== .function&&sc.names==gc
noncomputable def sB(K:Frag):Bool:=mF K 496 false fun fd b=>xz K fd&&xS fd.scope&&lD [bP,eW] fd
noncomputable def oC(K:Frag):Bool:=(cJ K (fx,.sta (.ref 484))&&(cJ K (cm,.sta (.ref 491))&&(cJ K (jy,.sta (.type "range"))&&keepIn K (.ref 491))))
theorem CS{G:bB}(hs:∀b,fy G.K 496=some b→iW b)(h:sB G.K=true)(hg:oC G.K=true):Be G 484:=by
 unfold oC at hg
 simp only[and_eq_true] at hg
 refine⟨?_,cy hg.1,cy hg.2.1,cy hg.2.2.1,.inl hg.2.2.2⟩
 exact vK h fun oc od fd osl b ho hb h=>rJ h fun o s p=>vl o fun o1 o2 o3 o4=>vl s fun s1 s2 s3 s4=>
  fun P k=>k oc od osl fd.name fd.qualname fd.params b fd.scope fd.defaults fd.kwdefaults fd.doc fd.pyModule fd.annotations fd.code fd.closureTuple (pS hb o1 o2 o3 ▸ ho) o4 (fun us hus=>pS hb o1 o2 o3 ▸ j9 p (by decide) us hus) (hs b (jz ho hb)) (beq_iff_eq.mp s4) ((not_eq_true' _).mp s1) ((not_eq_true' _).mp s2) (beq_iff_eq.mp s3)
noncomputable def ax:List (Bs×Int):=ao.zipIdx.map fun q=>(q.1,257+(q.2:Int))
theorem xT{i:Nat}(h:i < 21):ax[i]? =some (ao.getD i [],257+(i:Int)):=by
 have:i < ao.length:=h
 unfold ax
 rw[getElem?_map,List.getElem?_zipIdx]
 simp[List.getD,getElem?_eq_getElem this]
theorem lG:ao.Nodup:=by decide +kernel
theorem fz:ao.length=21:=by decide +kernel
theorem vN:ax.map (·.1)=ao:=by decide +kernel
noncomputable abbrev bH:Str:="kinds"
noncomputable abbrev ru:Str:="at"
noncomputable abbrev dv:Str:="word"
noncomputable def fA(b:List Stmt):Prop:=∀P:Prop,(∀(p1 p2 p3 p4 p5:Pos) (n5:Nat) (p6 p7 p8 p9 p10 p11 p12 p13 p14 p15 p16 p17 p18 p19:Pos),
 b=[.Assign [.Name bH p1] (.Dict [] [] p2) p3,.For (.Tuple [.Name ru p4,.Name dv p5] n5 p6) (.Call (.Name ("enumerate":Str) p7) [.Name ("RESERVED":Str) p8] [] p9) [.Assign [.Subscript (.Name bH p10) (.Name dv p11) p12] (.BinOp (.Name ("FIRST_RESERVED":Str) p13) .Add (.Name ru p14) p15) p16] [] p17,.Return (some (.Name bH p18)) p19]→P)→P
structure kM(G:bB):Prop where
 fn:∃(qual:Str) (scope:Scope) (body:List Stmt),lm G 245 qual scope body [] [bH,ru,dv]∧fA body∧scope.names.lookup bH=some .local∧scope.names.lookup ru=some .local∧scope.names.lookup dv=some .local∧
  scope.names.lookup ("enumerate":Str)=some .globalImplicit∧scope.names.lookup ("RESERVED":Str)=some .globalImplicit∧scope.names.lookup ("FIRST_RESERVED":Str)=some .globalImplicit
 enum:nsIn G.K mainGlobals ("enumerate":Str)=some none∧bootBuiltins ("enumerate":Str)=some (.type "enumerate")
 res:nsIn G.K mainGlobals ("RESERVED":Str)=some (some (.ref 188))
 first:∃t,nsIn G.K mainGlobals ("FIRST_RESERVED":Str)=some (some (.int 257 t))
 list:∃vs n,G.K.lookup 188=some (listOf vs.toArray n)∧aj (VR []) (ao.map .bytes) vs
section
variable {G:bB}{x:Fx}{as:As}{σ:St}
theorem oE{i:Nat}{kvs:List (Bs×Value)}(hi:i < 21)(h:aj BR (ax.take i) kvs):stored kvs (ao.getD i [])=fun v=>kvs++[(ao.getD i [],v)]:=by
 funext v
 have hk:∀{l:List (Bs×Int)} {m:List (Bs×Value)},aj BR l m→m.map (·.1)=l.map (·.1):=by
  intro l m h
  induction h with
  |nil=>rfl
  |cons h1 _ ih=>simp only[map_cons];rw[ih,h1.1]
 have hk':kvs.map (·.1)=ao.take i:=by rw[hk h,List.map_take,vN]
 unfold stored
 rw[if_neg]
 intro q
 obtain⟨kv,h1,h2⟩:=List.any_eq_true.mp q
 have hm:ao.getD i []∈ao.take i:=by
  rw[←hk',←(of_decide_eq_true h2:kv.1=_)]
  exact List.mem_map_of_mem h1
 have hlt:i < ao.length:=by rw[fz];exact hi
 have e:ao.getD i []=ao[i]:=by simp[List.getD,getElem?_eq_getElem hlt]
 rw[e] at hm
 obtain⟨j,hj,hj2⟩:=List.getElem_of_mem hm
 rw[List.getElem_take] at hj2
 have hji:j < i:=by simp at hj;lia
 have hjl:j < ao.length:=lt_trans hji hlt
 exact absurd ((List.getElem_inj lG).mp hj2) (ne_of_lt hji)
theorem sC(ko:kM G){A:Around}{E:Value→Shared→Prop}{qual:Str}{scope:Scope}{L f:Addr}{cdv:Value}{g h:Heap}{d:Addr}{body:List Stmt}{m:Str→Option Value}{i:Nat}{tk ti tv:Tok}{s:Shared}{kvs:List (Bs×Value)}{Q:Flow→Shared→Prop}
  (hb:∃pk pw2 ps pf Ef pb pst:Pos,body=[.Assign [.Subscript (.Name bH pk) (.Name dv pw2) ps] (.BinOp (.Name "FIRST_RESERVED" pf) .Add (.Name ru Ef) pb) pst]) (hk:scope.kind=.function)
  (l1:scope.names.lookup bH=some .local) (l2:scope.names.lookup ru=some .local) (l3:scope.names.lookup dv=some .local) (g3:scope.names.lookup ("FIRST_RESERVED":Str)=some .globalImplicit)
  (X:G.K.In g) (T:TopRead G.p G.loose G.mg G.mb g) (F:Fr g L h m) (mi:m ru=some (.int i ti)) (mw:m dv=some (.bytes (ao.getD i []).toArray tv)) (md:m bH=some (.ref d))
  (hD:h.DictOf (bytesKind G.prog G.w) d kvs) (hkv:aj BR (ax.take i) kvs) (hlt:i < 21)
  (hQ:∀h' t t',h'.DictOf (bytesKind G.prog G.w) d (kvs++[(ao.getD i [],.int (257+i) t)])→Heap.SameBut d h h'→Q .next { s with heap:=h',toks:=t' }):
  wpAny (model G.prog G.w) A (execs body (envOf qual scope L f cdv)) Q E { s with heap:=h,toks:=tk }:=by
 obtain⟨pk,pw2,ps,pf,Ef,pb,pst,rfl⟩:=hb
 obtain⟨tf,hfirst⟩:=ko.first
 have hkl:kvs.length=i:=by
  rw[←hkv.length,length_take]
  have:ax.length=21:=by decide +kernel
  lia
 refine wpAny_noRaise ?_
 rw[execs_cons]
 refine wpAny_bind (wpAny_Assign_Subscript ?_)
 rw[arm_eval_BinOp]
 refine wpAny_bind (nameX_K (cl:=[]) F X T hfirst ?_ hk g3 (by decide))
 refine wpAny_bind (wpAny_holding (nameX_L (cl:=[]) (v:=.int i ti) F mi ?_ hk l2 (by decide)))
 refine wpAny_bind (wpAny_standAt ?_)
 unfold PySem.operate
 refine wpAny_bind (wpAny_holding (add_int (wpAny_bind (wpAny_release (wpAny_pure ?_)))))
 refine nameX_L (cl:=[]) (v:=.ref d) F md ?_ hk l1 (by decide)
 refine nameX_L (cl:=[]) (v:=.bytes (ao.getD i []).toArray tv) F mw ?_ hk l3 (by decide)
 refine wpAny_setItem_pairs (knd:=bytesKind G.prog G.w) (k:=ao.getD i []) (by simp[bytesKind,isBytes]) hD (fun h₆ hD₆ hs₆=>wpAny_execs_nil (hQ h₆ tk _ ?_ hs₆)) (by rw[hkl,sizeLine_eq];exact IR hlt rfl)
 rw[oE hlt hkv] at hD₆
 exact hD₆
structure EU(G:bB)(L d e it:Addr)(g:Heap)(s:Shared)(k:Nat)(s':Shared)(h':Heap)(tk:Nat)(m':Str→Option Value)(i:Nat)(old:Value)(kvs:List (Bs×Value)):Prop where
 s:s'={ s with heap:=h',toks:=tk }
 e:IsEnum h' e it ((i:Nat):Int) old
 it:h'.IsListIter it 188 i
 n:h'.Ns L m'
 m:m' bH=some (.ref d)
 d:h'.DictOf (bytesKind G.prog G.w) d kvs
 kv:aj BR (ax.take i) kvs
 le:i≤21
 k:k=22 - i
 kp:∀b o,g.get? b=some o→h'.get? b=some o
noncomputable def He(G:bB)(L d e it:Addr)(g:Heap)(s:Shared)(k:Nat)(s':Shared):Prop:=∃h' tk m' i old kvs,EU G L d e it g s k s' h' tk m' i old kvs
theorem sD(ko:kM G)(hh:x.A.handled=none){qual:Str}{scope:Scope}{L f:Addr}{cdv:Value}{g:Heap}{d e it:Addr}{tgt:Expr}{body:List Stmt}(ht:∃(pa pw pt:Pos) (x1:Nat),tgt=.Tuple [.Name ru pa,.Name dv pw] x1 pt)(hb:∃pk pw2 ps pf Ef pb pst:Pos,body=[.Assign [.Subscript (.Name bH pk) (.Name dv pw2) ps] (.BinOp (.Name "FIRST_RESERVED" pf) .Add (.Name ru Ef) pb) pst])(hk:scope.kind=.function)
  (l1:scope.names.lookup bH=some .local) (l2:scope.names.lookup ru=some .local) (l3:scope.names.lookup dv=some .local) (g3:scope.names.lookup ("FIRST_RESERVED":Str)=some .globalImplicit)
  (X:G.K.In g) (T:TopRead G.p G.loose G.mg G.mb g) (hgL:g.objs.size≤L) (hdL:d≠L) (heL:e≠L) (hiL:it≠L) (hei:e≠it) (hde:d≠e) (hdi:d≠it) (ge:g.get? e=none) (gi:g.get? it=none) (gd:g.get? d=none) (gL:g.get? L=none)
  {s:Shared} {m:Str→Option Value} (hm:m bH=some (.ref d)) (hn:s.heap.Ns L m) (hE:IsEnum s.heap e it 0 .none) (hI:s.heap.IsListIter it 188 0) (hD:s.heap.DictOf (bytesKind G.prog G.w) d []) (keep:∀b o,g.get? b=some o→s.heap.get? b=some o)
  {R:Result→Shared→Prop} (hR:∀h' tk m' kvs,h'.Ns L m'→m' bH=some (.ref d)→h'.DictOf (bytesKind G.prog G.w) d kvs→aj BR ax kvs→(∀b o,g.get? b=some o→h'.get? b=some o)→R (.ok .next) { s with heap:=h',toks:=tk }):
  codeAny (model G.prog G.w) (x.A.deeper (envOf qual scope L f cdv)) (.forLoop tgt (.ref e) body [] (envOf qual scope L f cdv)) R s:=by
 obtain⟨vs,nl,hl188,hvs⟩:=ko.list
 have hlen:vs.length=21:=by rw[←hvs.length];exact fz
 have hp:((envOf qual scope L f cdv).scope.kind== .class||((envOf qual scope L f cdv).scope.kind== .module&&(envOf qual scope L f cdv).locals != (envOf qual scope L f cdv).globals))=false:=by show(scope.kind== .class||(scope.kind== .module&&_))=false;rw[hk];rfl
 refine codeAny_forLoop_any (He G L d e it g s) ?_ 22
  ⟨s.heap,s.toks,m,0,.none,[],rfl,hE,hI,hn,hm,hD,.nil,zero_le _,rfl,keep⟩
 rintro k s' ⟨H,tk,m',i,old,kvs,K⟩
 obtain rfl:=K.s
 have he':=K.e
 have hit':=K.it
 have hn':=K.n
 have hm':=K.m
 have hD':=K.d
 have hkv:=K.kv
 have hkp:=K.kp
 have hl':H.IsList 188 vs.toArray:=⟨_,hkp _ _ (X _ _ hl188),rfl,⟨_,rfl⟩⟩
 by_cases hi21:i=21
 ·subst hi21
  refine wpAny_pyNext_enum_end (show(x.A.deeper _).handled=none from hh) he' hit' hl' (by simp[hlen]) fun h₁ he₁=>wpAny_execs_nil ?_
  rw[take_of_length_le (by decide +kernel)] at hkv
  obtain⟨od,hod,rd⟩:=Heap.dictOf_iff.mp hD'
  refine hR h₁ tk m' kvs (hn'.extBut he₁ (Ne.symm hiL)) hm' (Heap.dictOf_iff.mpr ⟨od,he₁ _ _ hdi hod,rd⟩) hkv fun b o hb=>he₁ b o (fun q=>by rw[q,gi] at hb;cases hb) (hkp b o hb)
 ·have hlt:i < 21:=by have:=K.le;lia
  have hvi:∃t,vs[i]? =some (.bytes (ao.getD i []).toArray t):=by
   have hr:(ao.map V.bytes)[i]? =some (.bytes (ao.getD i [])):=by
    have:i < ao.length:=by rw[fz];exact hlt
    simp[getElem?_map,List.getD,getElem?_eq_getElem this]
   obtain⟨u,hu,t,rfl⟩:=hvs.get hr
   exact⟨t,hu⟩
  obtain⟨tv,hvi⟩:=hvi
  have heH:e < H.objs.size:=Heap.lt_size he'
  have hLH:L < H.objs.size:=hn'.lt
  obtain⟨oi,hoi,_⟩:=id hit'
  have hiH:it < H.objs.size:=Heap.lt_size hoi
  obtain⟨od,hod,rd⟩:=Heap.dictOf_iff.mp hD'
  have hdH:d < H.objs.size:=Heap.lt_size hod
  refine wpAny_pyNext_enum_item he' hit' hl' (x:=.bytes (ao.getD i []).toArray tv) (by simpa using hvi) hei fun h₁ heo hit₁ ht₁ hz₁ hk₁=>?_
  obtain⟨pa,pw,pt,x1,rfl⟩:=ht
  refine wpAny_letOwnedTupleGo_enum heo fun h₂ he₂ hs₂=>?_
  replace hs₂:Heap.SameBut e h₁ h₂:=hs₂
  have ht₂:h₂.IsTuple H.objs.size #[.int i tk,.bytes (ao.getD i []).toArray tv]:=⟨_,(hs₂.2 _ (ne_of_gt heH)).trans ht₁,rfl,_,rfl⟩
  have hz₂:h₂.objs.size=H.objs.size+1:=hs₂.1.trans hz₁
  refine wpAny_assign_Tuple (show(x.A.deeper _).handled=none from hh) ht₂ rfl rfl fun h₃ hx₃=>?_
  replace hx₃:Heap.ExtBut h₂.objs.size h₂ h₃:=hx₃
  have old₃:∀b o,b < H.objs.size→h₂.get? b=some o→h₃.get? b=some o:=fun b o hb x=>hx₃ b o (by rw[hz₂];exact ne_of_lt (lt_succ_of_lt hb)) x
  have hn₃:h₃.Ns L m':=(hn'.at fun o x=>hk₁ _ o (Ne.symm heL) (Ne.symm hiL) x).sameBut hs₂ (Ne.symm heL) |>.at fun o x=>old₃ _ o hLH x
  show wpAny _ _ (do holding [.bytes (ao.getD i []).toArray tv] (assign (.Name ru pa) (envOf qual scope L f cdv) (.int i tk));do holding [] (assign (.Name dv pw) (envOf qual scope L f cdv) (.bytes (ao.getD i []).toArray tv));pure ()) _ _ _
  refine wpAny_bind (wpAny_holding (wpAny_assign_Name (wpAny_storeName_local (env:=envOf qual scope L f cdv) (name:=ru) l2 hn₃ (fun h₄ hn₄ hs₄=>?_) hp)))
  replace hs₄:Heap.SameBut L h₃ h₄:=hs₄
  refine wpAny_bind (wpAny_holding (wpAny_assign_Name (wpAny_storeName_local (env:=envOf qual scope L f cdv) (name:=dv) l3 hn₄ (fun h₅ hn₅ hs₅=>wpAny_pure ?_) hp)))
  replace hs₅:Heap.SameBut L h₄ h₅:=hs₅
  have up:∀b o,b≠L→b < H.objs.size→h₂.get? b=some o→h₅.get? b=some o:=fun b o hbL hb x=>
   hs₅.extBut b o hbL (hs₄.extBut b o hbL (old₃ b o hb x))
  have up2:∀b o,b≠L→b≠e→b≠it→H.get? b=some o→h₅.get? b=some o:=fun b o h1 h2 h3 h4=>up b o h1 (Heap.lt_size h4) (hs₂.extBut b o h2 (hk₁ b o h2 h3 h4))
  have kp₅:∀b o,g.get? b=some o→h₅.get? b=some o:=fun b o hb=>up2 b o (fun q=>by rw[q,gL] at hb;cases hb) (fun q=>by rw[q,ge] at hb;cases hb) (fun q=>by rw[q,gi] at hb;cases hb) (hkp b o hb)
  have hD₅:h₅.DictOf (bytesKind G.prog G.w) d kvs:=Heap.dictOf_iff.mpr ⟨od,up2 d od hdL hde hdi hod,rd⟩
  have md₅:(fun y=>if y=dv then some (Value.bytes (ao.getD i []).toArray tv) else if y=ru then some (.int i tk) else m' y) bH=some (.ref d):=hm'
  refine sC (m:=fun y=>if y=dv then some (Value.bytes (ao.getD i []).toArray tv) else if y=ru then some (.int i tk) else m' y) ko hb hk l1 l2 l3 g3 X T ⟨hn₅,kp₅,hgL⟩ rfl rfl md₅ hD₅ hkv hlt fun h₆ t t' hD₆ hs₆=>?_
  replace hs₆:Heap.SameBut d h₅ h₆:=hs₆
  have up6:∀b o,b≠d→h₅.get? b=some o→h₆.get? b=some o:=fun b o hb x=>hs₆.extBut b o hb x
  refine⟨22 - (i+1),by have:=K.k;lia,h₆,_,_,i+1,.bytes (ao.getD i []).toArray tv,_,rfl,?_,?_,hn₅.sameBut hs₆ (Ne.symm hdL),md₅,hD₆,?_,hlt,rfl,fun b o hb=>up6 b o (fun q=>by rw[q,gd] at hb;cases hb) (kp₅ b o hb)⟩
  ·have:((i+1:Nat):Int)=(i:Int)+1:=by push_cast;rfl
   rw[this];exact up6 e _ (Ne.symm hde) (up e _ heL heH he₂)
  ·exact(hit₁.extBut hs₂.extBut (Ne.symm hei)).at fun o x=>up6 it o (Ne.symm hdi) (up it o hiL hiH x)
  ·rw[List.take_add_one,xT hlt]
   exact hkv.append (.cons ⟨rfl,_,rfl⟩ .nil)
theorem Af(ok:x.Ok G)(ko:kM G):ah G x as σ (call (.ref 245) []) VR (.ok (.ref σ.hp.length) ⟨σ.vars,σ.hp++[.dict ax]⟩):=by
 intro s Q E R hq
 refine GP ko.fn fun qual scope body fo hb l1 l2 l3 g1 g2 g3=>?_
 refine fo.at_ _ fun oc od osl name params dV kV doc pm an cdv ct ho hcd hbind=>?_
 refine ak R.fr fun m0 F0 Vr=>?_
 have X:=ok.X.keeps F0.keep
 have T:=ok.T.keeps F0.keep
 refine hb _ fun p1 p2 p3 p4 p5 n5 p6 p7 p8 p9 p10 p11 p12 p13 p14 p15 p16 p17 p18 p19 q91=>?_;obtain rfl:=q91
 refine bJ ?_
 refine aK (fd:=fnX name qual params _ scope [] dV kV doc pm an cdv ct) (by have:=ok.dep;exact GE this) (X _ _ ho) rfl fo.co fo.gen rfl (codeRec_of X hcd) ?_
 refine BindsTo.of_eq (hbind [] rfl) _ _ _ _ ?_
 refine wpAny_newFunctionEnv fo.cell (fun y hy=>nomatch hy) (fun h₁ hns hsb=>⟨(ok.nolim.keeps F0.keep).fresh _ hsb,cq ?_⟩) fo.kind
 have hk₁:∀b o,s.heap.get? b=some o→h₁.get? b=some o:=fun b o e=>hsb.extBut b o (ne_of_lt (Heap.lt_size e)) (Heap.get?_push_of_some _ e)
 show aJ _ (x.A.deeper (envOf qual scope s.heap.objs.size 245 cdv)) (execs _ (envOf qual scope s.heap.objs.size 245 cdv)) _ _ { s with heap:=h₁,toks:=_ }
 refine av (E:=fun v v=>False) ?_ (fun v v z=>z) (fun v v z=>z.elim)
 rw[execs_cons]
 rw[exec_Assign_Name _ _ _ _ _ rfl]
 refine ae (aF (ae (aB (wpAny_Dict_empty ?_))))
 have hLlt:s.heap.objs.size < h₁.objs.size:=hns.lt
 refine aF ?_
 unfold bindName
 have hp:((envOf qual scope s.heap.objs.size 245 cdv).scope.kind== .class||((envOf qual scope s.heap.objs.size 245 cdv).scope.kind== .module&&(envOf qual scope s.heap.objs.size 245 cdv).locals != (envOf qual scope s.heap.objs.size 245 cdv).globals))=false:=by show(scope.kind== .class||(scope.kind== .module&&_))=false;rw[fo.kind];rfl
 have hns1:(h₁.push emptyDict).Ns s.heap.objs.size (fun y=>([]:List (Str×Value)).reverse.lookup y):=hns.push _
 refine ae (aB (wpAny_bind (wpAny_holding (wpAny_point (wpAny_bind (wpAny_storeName_local (env:=envOf qual scope s.heap.objs.size 245 cdv) (name:=bH) l1 hns1 (fun h₂ hn₂ hs₂=>wpAny_point ?_) hp))))))
 replace hs₂:Heap.SameBut s.heap.objs.size (h₁.push emptyDict) h₂:=hs₂
 refine au ?_
 have hd0:(h₁.push emptyDict).get? h₁.objs.size=some emptyDict:=Heap.get?_push_size _ rfl
 have hd2:h₂.get? h₁.objs.size=some emptyDict:=(hs₂.2 _ (ne_of_gt hLlt)).trans hd0
 have kp₂:∀b o,s.heap.get? b=some o→h₂.get? b=some o:=fun b o hb=>(hs₂.2 b (ne_of_lt (Heap.lt_size hb))).trans (Heap.get?_push_of_some _ (hk₁ b o hb))
 have hz₂:h₂.objs.size=h₁.objs.size+1:=hs₂.1.trans (Heap.size_push ..)
 have F₂:Fr s.heap s.heap.objs.size h₂ _:=⟨hn₂,kp₂,le_refl _⟩
 have X₂:G.K.In h₂:=X.keeps kp₂
 refine dc ko.list fun vs nl hl188 hvs=>?_
 -- the for
 show aJ _ _ (execs _ _) _ _ _
 rw[execs_cons]
 rw[exec_For]
 refine ae (aF (ae ?_))
 show aJ _ _ (eval (.Name ("enumerate":Str) p7) (envX qual scope s.heap.objs.size 245 cdv [])>>=fun f=>callWith p9 f [] (backTo p9 (starEach [.Name ("RESERVED":Str) p8] (envOf qual scope s.heap.objs.size 245 cdv))) []) _ _ _
 refine ae (aB (nameX_B F₂ X T ko.enum.1 ko.enum.2 (by decide) ?_ fo.kind g1 (by decide)))
 refine bZ (by rfl) (fun h (_:True)=>⟨.machine,.inr (.inl rfl),.now⟩) ?_
 refine bK (rest:=backTo p9 (starEach [] _)) ?_
 rw[spliced]
 refine ae (aB ?_)
 show wpAny _ _ (eval (.Name ("RESERVED":Str) p8) (envX qual scope s.heap.objs.size 245 cdv [])) _ _ _
 refine nameX_K F₂ X T ko.res ?_ fo.kind g2 (by decide)
 refine au ⟨trivial,?_⟩
 have hL:h₂.IsList 188 vs.toArray:=⟨_,X₂ _ _ hl188,rfl,⟨_,rfl⟩⟩
 show aJ _ _ (call (.type "enumerate") [.ref 188]) _ _ _
 refine aB (call_enumerate_list hL fun h₃ he hit hz₃ hk₃=>?_)
 have hgl:∀b,s.heap.objs.size≤b→s.heap.get? b=none:=fun b hb=>Heap.get?_none_of_le hb
 have hL2:s.heap.objs.size < h₂.objs.size:=hn₂.lt
 refine aq (m:=pure _) (wpAny_pure (aF ?_))
 refine ae (a8 (aB (wpAny_pyIter_enum he ?_)))
 unfold runOwn
 refine bE (kH ?_ rfl)
 have e1:s.heap.objs.size≤h₁.objs.size:=le_of_lt hLlt
 have e2:h₁.objs.size < h₂.objs.size:=by rw[hz₂];exact lt_succ_self _
 have e3:s.heap.objs.size < h₂.objs.size:=Nat.lt_of_le_of_lt e1 e2
 have hD:h₃.DictOf (bytesKind G.prog G.w) h₁.objs.size []:=Heap.dictOf_iff.mpr ⟨emptyDict,hk₃ _ _ hd2,#[],0,⟨rfl,rfl,rfl⟩,rfl,fun e he=>absurd he (by simp),.nil,List.nodup_nil⟩
 have kp₃:∀b o,s.heap.get? b=some o→h₃.get? b=some o:=fun b o hb=>hk₃ b o (kp₂ b o hb)
 refine kX (sD (G:=G) (x:=x) (qual:=qual) (scope:=scope) (L:=s.heap.objs.size) (f:=245) (cdv:=cdv) (g:=s.heap) (d:=h₁.objs.size) (e:=h₂.objs.size+1) (it:=h₂.objs.size) (hb:=⟨p10,p11,p12,p13,p14,p15,p16,rfl⟩) (ht:=⟨p4,p5,p6,n5,rfl⟩) ko ok.hh fo.kind l1 l2 l3 g3 X T (le_refl _)
  (ne_of_gt hLlt) (ne_of_gt (lt_succ_of_lt e3)) (ne_of_gt e3) (Nat.succ_ne_self _) (ne_of_lt (lt_succ_of_lt e2)) (ne_of_lt e2) (hgl _ (le_of_lt (lt_succ_of_lt e3))) (hgl _ (le_of_lt e3)) (hgl _ e1) (hgl _ (le_refl _))
  (s:={ s with heap:=h₃,toks:=_ }) (m:=fun y=>if y=bH then some (.ref h₁.objs.size) else([]:List (Str×Value)).reverse.lookup y) (by rfl) (hn₂.keeps hk₃) he hit hD kp₃ fun h₄ tk₄ m₄ kvs hn₄ hm₄ hD₄ hkv kp₄=>?_)
 dsimp only
 rw[execs_cons,arm_exec_Return]
 refine ae (aF (ae (aB ?_)))
 have F₄:Fr s.heap s.heap.objs.size h₄ m₄:=⟨hn₄,kp₄,le_refl _⟩
 show wpAny _ _ (eval (.Name bH p18) (envX qual scope s.heap.objs.size 245 cdv [])) _ _ _
 refine nameX_L F₄ hm₄ ?_ fo.kind l1 (by decide)
 refine au (au ?_)
 refine ak (Heap.dictOf_iff.mp hD₄) fun od hod rd=>?_
 refine hq _ (as++[(h₁.objs.size,h₁.objs.size)]) h₄ _ (prefix_append _ _) (R.add kp₄ ?_ e1 e1 hod hod ⟨kvs,rd,hkv⟩) ⟨(h₁.objs.size,h₁.objs.size),by rw[←R.len];simp,rfl⟩
 exact le_of_lt (Nat.lt_of_le_of_lt e1 (Heap.lt_size hod))
noncomputable def lH(K:Frag):Bool:=mF K 245 false fun fd b=>iU K [bH,ru,dv] 0 fd&&((fd.scope.names.lookup bH==some .local&&(fd.scope.names.lookup ru==some .local&&(fd.scope.names.lookup dv==some .local&&
    (fd.scope.names.lookup ("enumerate":Str)==some .globalImplicit&&(fd.scope.names.lookup ("RESERVED":Str)==some .globalImplicit&&fd.scope.names.lookup ("FIRST_RESERVED":Str)==some .globalImplicit))))))
noncomputable def Bf(o:Option (Option Value)):Bool:=@Option.casesOn _ (fun z=>Bool) o false fun o=>@Option.casesOn _ (fun z=>Bool) o false fun v=>uI v fun j=>decide (j=257)
theorem Ag{o:Option (Option Value)}(h:Bf o=true):∃t,o=some (some (.int 257 t)):=by
 cases o with
 |none=>exact Bool.noConfusion h
 |some o=>cases o with
  |none=>exact Bool.noConfusion h
  |some v=>cases v<;>first|exact Bool.noConfusion h|exact⟨_,congrArg (fun i=>some (some (Value.int i _))) (of_decide_eq_true h)⟩
noncomputable def iX(K:Frag):Bool:=nsIn K mainGlobals ("enumerate":Str)==some none&&(nsIn K mainGlobals ("RESERVED":Str)==some (some (.ref 188))&&Bf (nsIn K mainGlobals ("FIRST_RESERVED":Str)))
theorem vO:bootBuiltins ("enumerate":Str)=some (.type "enumerate"):=by kernel_rfl
theorem xU{G:bB}(hs:∀b,fy G.K 245=some b→fA b)(h:lH G.K=true)(hg:iX G.K=true)(hl:dF G.K 188 (ao.map .bytes)=true):kM G:=by
 unfold iX at hg
 simp only[and_eq_true,beq_iff_eq] at hg
 refine jj hg fun q1 q2 q3=>?_
 refine⟨?_,⟨q1,vO⟩,q2,?_,dR hl⟩
 ·refine vK h fun oc od fd osl b ho hb h=>?_
  simp only[and_eq_true,beq_iff_eq] at h
  refine zg h fun h0 h2 h3 h4 h5 h6 h7=>?_
  exact⟨fd.qualname,fd.scope,b,(dQ ho hb h0).1,hs b (jz ho hb),h2,h3,h4,h5,h6,h7⟩
 ·exact Ag q3
structure CT(G:bB)(f:Addr)(qual:Str)(scope:Scope)(body:List Stmt)(ps names:List Str)(dvs:List V):Prop where
 at_:∀P:Prop,(∀oc od osl name params dV kV doc pm an cdv ct,G.K.lookup f=some ⟨oc,od,.func (fnX name qual params body scope [] dV kV doc pm an cdv ct),osl⟩→codeIn G.K cdv qual=true→
  ∀ds:List Value,aj (VR []) dvs ds→(∀(S:Setting) (v:Value),peek G.K S (bindArgs (fnX name qual params body scope [] dV kV doc pm an cdv ct) ⟨[v],[]⟩)=some (ps.zip (v::ds)))→P)→P
 len:ps.length=dvs.length+1
 co:scope.isCoroutine=false
 gen:scope.isGenerator=false
 kind:scope.kind=.function
 cell:∀y∈scope.names,y.2≠.cell
 nodup:names.Nodup
 pre:ps <+: names
 loc:∀y∈ps,scope.names.lookup y=some .local
theorem mG{f:Addr}{qual:Str}{scope:Scope}{ps names:List Str}{vs:List V}{us:List Value}{cdv:Value}{h h₁:Heap}{ob:Obj}(R:aE G x σ as h)(nd:names.Nodup)(hp:ps <+: names)
  (hl:vs.length=ps.length) (hu:aj (VR as) vs us) (hns:h₁.Ns h.objs.size (fun y=>(ps.zip us).reverse.lookup y)) (hsb:Heap.SameBut h.objs.size (h.push ob) h₁):
  aE G (calleeOf x f qual scope names cdv h as) ⟨ar names vs,σ.hp⟩ as h₁:=by
 obtain⟨st,⟨m,F,Vr⟩,own,sz⟩:=R.ground
 have hk₁:∀b o,h.get? b=some o→h₁.get? b=some o:=fun b o e=>hsb.extBut b o (ne_of_lt (Heap.lt_size e)) (Heap.get?_push_of_some _ e)
 refine⟨⟨_,⟨hns,fun b o e=>hk₁ b o (of_hideAll _ e),le_of_eq sz⟩,eH nd hp hl hu⟩,fun p hp=>?_,R.sep,R.len,fun i o p e1 e2=>?_,?_,R.low.2⟩
 ·obtain⟨i,hi⟩:=getElem?_of_mem hp
  have:=R.lt hi
  exact⟨⟨ne_of_lt this.1,(own p hp).1⟩,ne_of_lt this.2,(own p hp).2⟩
 ·refine bC (R.obj i o p e1 e2) fun o1 o2 a b c=>?_
  exact⟨o1,o2,hk₁ _ _ a,hk₁ _ _ b,c⟩
 ·refine ak R.fr fun m0 F0 z=>?_
  exact lt_trans R.low.1 F0.ns.lt
theorem sE{f:Addr}{qual:Str}{scope:Scope}{body:List Stmt}{ps names:List Str}{v:V}{u:Value}{dvs:List V}(ok:x.Ok G)(hlv:1≤x.lv)(fo:CT G f qual scope body ps names dvs)
  (hu:VR as v u) {fl:Fl} {σ':St}
  (hb:∀x':Fx,x'.Ok G→x'.cs=scope→x'.names=names→x.lv≤x'.lv+1→ah G x' as ⟨ar names (v::dvs),σ.hp⟩ (execs body x'.env) eG (.ok fl σ'))
  {s:Shared} (R:aE G x σ as s.heap) {RR:Result→Shared→Prop} (hq:∀a as' h' tk',as <+: as'→aE G x ⟨σ.vars,σ'.hp⟩ as' h'→VR as' fl.back a→RR (.ok (.ret a)) { s with heap:=h',toks:=tk' }):
  bf (model G.prog G.w) x.A (.call (.ref f) ⟨[u],[]⟩) RR s:=by
 refine fo.at_ _ fun oc od osl name params dV kV doc pm an cdv ct ho hcd ds hds hbind=>?_
 refine ak R.fr fun m F Vr=>?_
 have X:=ok.X.keeps F.keep
 refine aK (fd:=fnX name qual params body scope [] dV kV doc pm an cdv ct) (body:=body) (by have:=ok.dep;exact GE this) (X _ _ ho) rfl fo.co fo.gen rfl (codeRec_of X hcd) ?_
 refine(Looks.of_peek (M:=model G.prog G.w) X (hbind _ u)).here ?_
 have hl:(v::dvs).length=ps.length:=by rw[fo.len];rfl
 refine wpAny_newFunctionEnv fo.cell (fun y hy=>fo.loc _ (of_mem_zip hy).1) (fun h₁ hns hsb=>⟨(ok.nolim.keeps F.keep).fresh _ hsb,cq ?_⟩) fo.kind
 have R₁:=mG (f:=f) (qual:=qual) (scope:=scope) (cdv:=cdv) R fo.nodup fo.pre hl (.cons hu (hds.mono fun t t z=>z.mono nil_prefix)) hns hsb
 have ok':=d6 (f:=f) (qual:=qual) (cdv:=cdv) ok hlv fo.kind fo.nodup R
 refine hb _ ok' rfl rfl (by show x.lv≤x.lv - 1+1;lia) { s with heap:=h₁,toks:=_ } _ _ R₁ fun a as' h' tk' ha R' hr=>?_
 exact hq _ as' h' tk' ha (R.back rfl ha R') hr.back
theorem CU{C f:Addr}{qual:Str}{scope:Scope}{body:List Stmt}{ps names:List Str}{dvs:List V}{r:af Fl}(ok:x.Ok G)(hlv:2≤x.lv)(hm:makesIn G.K C=true)
  (hi:findIn G.K (.ref C) "__init__"=some (some (.ref f))) (hf:typeIn G.K (.ref f)=some (.type "function")) (fo:CT G f qual scope body ps names dvs)
  (hb:∀(x':Fx) as',x'.Ok G→x'.cs=scope→x'.names=names→x.lv≤x'.lv+2→ah G x' as' ⟨ar names (.ref σ.hp.length::dvs),σ.hp++[.inst C []]⟩ (execs body x'.env) eG r):
  ah G x as σ (call (.ref C) []) VR (r.mk σ.vars σ.hp.length):=by
 cases r with
 |stuck=>trivial
 |exc H=>trivial
 |ok fl σ'=>
  cases fl with
  |brk=>trivial
  |ret v=>trivial
  |next=>
   intro s Q E R hq
   refine ak R.fr fun m F Vr=>?_
   have X:=ok.X.keeps F.keep
   obtain⟨hh,g,d,t,os⟩:=s
   refine bJ (A5 (makes_of X hm) (looks_findIn X hi) (fun self=>bind_fn X self hf) rfl ?_)
   have R1:aE G x ⟨σ.vars,σ.hp++[.inst C []]⟩ (as++[(hh.objs.size+1,hh.objs.size)]) ((hh.push emptyDict).push (instObj C hh.objs.size)):=by
    refine R.add (fun b o e=>Heap.get?_push_of_some _ (Heap.get?_push_of_some _ e)) (by simp;lia) (le_succ _) (le_refl _) (o1:=instObj C hh.objs.size) (o2:=emptyDict) ?_ ?_ ⟨rfl,[],0,rfl,.nil⟩
    ·heap_get
    ·exact Heap.get?_push_of_some _ (Heap.get?_push_size _ rfl)
   have hu1:VR (as++[(hh.objs.size+1,hh.objs.size)]) (.ref σ.hp.length) (.ref (hh.objs.size+1)):=⟨(hh.objs.size+1,hh.objs.size),by rw[←R.len];simp,rfl⟩
   refine sE (x:=eQ x C []) (as:=as++[(hh.objs.size+1,hh.objs.size)]) (σ:=⟨σ.vars,σ.hp++[.inst C []]⟩) (v:=.ref σ.hp.length) (u:=.ref (hh.objs.size+1)) (fl:=.next) (σ':=σ') (s:=⟨(hh.push emptyDict).push (instObj C hh.objs.size),g,d,t,os⟩) (iF ok (le_of_succ_le hlv)) (by show 1≤x.lv - 1;lia) fo hu1
    (fun x' o1 o2 o3 o4=>hb x' _ o1 o2 o3 (by have:x.lv - 1≤x'.lv+1:=o4;lia)) R1.under fun a as' h' tk' ha R' hv=>⟨hv,hq _ as' h' tk' ((prefix_append _ _).trans ha) R'.ofUnder ⟨(hh.objs.size+1,hh.objs.size),?_,rfl⟩⟩
   obtain⟨tl,rfl⟩:=ha
   have hL:=R.len
   rw[getElem?_append_left (by simp;lia),←hL];simp
noncomputable def bL:List Str:=[("self":Str),("width":Str),("registers":Str),("upvalues":Str),("local_names":Str),("ccalls":Str),("frames":Str),("stack":Str),("flush":Str),("steps":Str),("text":Str)]
noncomputable def kN:List V:=[.int 64,.int 250,.int 60,.int 200,.int 40,.int 200,.int 2000,.int 50,.int 1000000000,.int 1000000]
noncomputable def fB:Ss:=.cons (.setA (.loc 0) 0 (.loc 1)) (.cons (.setA (.loc 0) 46 (.loc 2)) (.cons (.setA (.loc 0) 47 (.loc 3)) (.cons (.setA (.loc 0) 48 (.loc 4)) (.cons (.setA (.loc 0) 49 (.loc 5)) (.cons (.setA (.loc 0) 50 (.loc 6)) (.cons (.setA (.loc 0) 51 (.loc 7)) (.cons (.setA (.loc 0) 52 (.loc 8)) (.cons (.setA (.loc 0) 53 (.loc 9)) (.cons (.setA (.loc 0) 18 (.loc 10)) .nil)))))))))
noncomputable def eL:bY:={ addr:=36,np:=11,names:=bL,body:=fB }
noncomputable def fC(K:Frag)(S:Setting)(v:Value):Option (List (Str×Value)):=vH K 36 none fun fd=>peek K S (bindArgs fd ⟨[v],[]⟩)
noncomputable def dG:List Value:=[.int 64 210,.int 250 211,.int 60 212,.int 200 213,.int 40 214,.int 200 215,.int 2000 216,.int 50 217,.int 1000000000 218,.int 1000000 219]
theorem CV:(dG.length==kN.length&&(kN.zip dG).all fun q=>CQ q.1 q.2)=true:=by decide +kernel
noncomputable def sF(K:Frag):Bool:=mF K 36 false fun fd b=>fP (pQ aO cX eL fd.scope) fB b&&(fd.globals==mainGlobals&&(fd.closure.isEmpty&&(fd.builtins==builtinsNs&&(codeIn K fd.code fd.qualname&&
    (!fd.scope.isCoroutine&&(!fd.scope.isGenerator&&(fd.scope.kind== .function&&(fd.scope.names.all (fun y=>y.2 != .cell)&&(decide bL.Nodup&&bL.all (fun y=>fd.scope.names.lookup y==some .local))))))))))
theorem CW{G:bB}(h:sF G.K=true)(hb:∀S v,fC G.K S v=some (bL.zip (v::dG))):∃qual scope body,CT G 36 qual scope body bL bL kN∧fP (pQ aO cX eL scope) fB body=true:=by
 have hd:=an CV
 refine vK h fun oc od fd osl b ho hbd h=>?_
 obtain⟨c0,h⟩:=an h
 obtain⟨c1,h⟩:=an h
 obtain⟨c2,h⟩:=an h
 obtain⟨c3,h⟩:=an h
 obtain⟨c4,h⟩:=an h
 obtain⟨c5,h⟩:=an h
 obtain⟨c6,h⟩:=an h
 obtain⟨c7,h⟩:=an h
 obtain⟨c8,h⟩:=an h
 obtain⟨c9,c10⟩:=an h
 have e:=pS hbd c1 c2 c3
 exact⟨fd.qualname,fd.scope,b,⟨fun P k=>k oc od osl fd.name fd.params fd.defaults fd.kwdefaults fd.doc fd.pyModule fd.annotations fd.code fd.closureTuple (e ▸ ho) c4 dG (lF (beq_iff_eq.mp hd.1) hd.2) (fun S v=>e ▸ (congrArg (peek G.K S) rfl).trans ((oy ho).symm.trans (hb S v))),rfl,(not_eq_true' _).mp c5,(not_eq_true' _).mp c6,beq_iff_eq.mp c7,fun y hy=>bne_iff_ne.mp (all_eq_true.mp c8 y hy),km c9,prefix_refl _,fun y hy=>beq_iff_eq.mp (all_eq_true.mp c10 y hy)⟩,c0⟩
noncomputable def jA(vars:aC):af Fl→af V
 | .ok (.ret v) σ=>.ok v ⟨vars,σ.hp⟩
 | .exc H=>.ok .none ⟨vars,H⟩
 |_=>.stuck
theorem qa{f:Addr}{qual:Str}{scope:Scope}{body:List Stmt}{ps names:List Str}{vs:List V}{us:List Value}(ok:x.Ok G)(hlv:1≤x.lv)(fo:lm G f qual scope body ps names)
  (hl:vs.length=ps.length) (hu:aj (VR as) vs us) {s:Shared} (R:aE G x σ as s.heap) {RR:Result→Shared→Prop}
  (h:∀cdv h₁ tk₁,(calleeOf x f qual scope names cdv s.heap as).Ok G→aE G (calleeOf x f qual scope names cdv s.heap as) ⟨ar names vs,σ.hp⟩ as h₁→
   aJ (model G.prog G.w) (calleeOf x f qual scope names cdv s.heap as).A (execs body (calleeOf x f qual scope names cdv s.heap as).env) (fun fl s'=>RR (.ok (.ret (match fl with | .ret v=>v|_=>.none))) s')
    (fun e s'=>wpAny (model G.prog G.w) (calleeOf x f qual scope names cdv s.heap as).A (leaving (calleeOf x f qual scope names cdv s.heap as).env e) (fun z s''=>RR (.error e) s'') (fun e' s''=>RR (.error e') s'') s') { s with heap:=h₁,toks:=tk₁ }):
  bf (model G.prog G.w) x.A (.call (.ref f) ⟨us,[]⟩) RR s:=by
 refine fo.at_ _ fun oc od osl name params dV kV doc pm an cdv ct ho hcd hbind=>?_
 refine ak R.fr fun m F Vr=>?_
 have X:=ok.X.keeps F.keep
 refine aK (fd:=fnX name qual params body scope [] dV kV doc pm an cdv ct) (body:=body) (by have:=ok.dep;omega) (X _ _ ho) rfl fo.co fo.gen rfl (codeRec_of X hcd) ?_
 refine BindsTo.of_eq (hbind us (by rw[←hu.length,hl])) _ _ _ _ ?_
 refine wpAny_newFunctionEnv fo.cell (fun y hy=>fo.loc _ (of_mem_zip hy).1) (fun h₁ hns hsb=>⟨(ok.nolim.keeps F.keep).fresh _ hsb,cq ?_⟩) fo.kind
 have R₁:=fk (f:=f) (qual:=qual) (cdv:=cdv) R fo hl hu hns hsb
 have ok':=d6 (f:=f) (qual:=qual) (cdv:=cdv) ok hlv fo.kind fo.nodup R
 exact h cdv h₁ _ ok' R₁
theorem uf{M:Model}{A:Around}{E:Value→Shared→Prop}{s:Shared}{b:List Stmt}{hs:ExceptHandler}{tp:Pos}{env:Env}{Q:Flow→Shared→Prop}
  (h:aJ M A (execs b env) (fun f s'=>∃w,f=.ret w∧Q (.ret w) s') (fun e s'=>aJ M A (noteFrame e env) (fun y s₂=>aJ M A (setFlight e none) (fun y s₃=>aJ M A (handleBy e env [hs]) (fun f s'=>∃w,f=.ret w∧Q (.ret w) s') E s₃) E s₂) E s') s):
  aJ M A (execs [.Try b [hs] [] [] tp] env) Q E s:=by
 rw[execs_cons]
 refine ae ?_
 rw[arm_exec_Try]
 refine aF ?_
 have fin:∀(m:Sem Flow) s,aJ M A m (fun f s'=>∃w,f=.ret w∧Q (.ret w) s') E s→aJ M A m (fun f s'=>aJ M A (match f with | .next=>execs [] env|f=>pure f) Q E s') E s:=fun m s h=>av h (fun f s' hf=>by
  refine ak hf fun w q91 hq=>?_;obtain rfl:=q91
  exact au hq) fun y y z=>z
 refine fin _ _ ?_
 show aJ M A ((execs b env).attempt>>=_) _ _ _
 refine ae (jW (av h (fun f s' hf=>?_) fun e s' he=>?_))
 ·refine ak hf fun w q91 hq=>?_;obtain rfl:=q91
  exact au ⟨w,rfl,hq⟩
 ·refine ae (av he (fun y s₂ h₂=>?_) fun y y z=>z)
  show aJ M A (setFlight e none>>=_) _ _ _
  exact ae (av h₂ (fun y s₃ h₃=>h₃) fun y y z=>z)
theorem xV{M:Model}{A:Around}{E:Value→Shared→Prop}{s:Shared}{kk:Nat}{kp sp:Pos}{env:Env}{Q:Flow→Shared→Prop}(hq:Q (.ret .none) s):wpAny M A (execs [.Return (some (.Constant .none kk kp)) sp] env) Q E s:=by
 rw[execs_cons]
 refine wpAny_bind ?_
 rw[arm_exec_Return]
 refine wpAny_bind (wpAny_standAt ?_)
 show wpAny M A (eval (.Constant .none kk kp) env>>=fun v=>pure (Flow.ret v)) _ E s
 have e:∀(Q':Value→Shared→Prop),Q' .none s→wpAny M A (eval (.Constant .none kk kp) env) Q' E s:=fun Q' h=>fun z z z=>h
 exact wpAny_bind (e _ (wpAny_pure (wpAny_pure hq)))
theorem Ah{f:Addr}{qual:Str}{scope:Scope}{b:List Stmt}{z:Str}{zp kp sp hp tp:Pos}{kk:Nat}{ps names:List Str}{vs:List V}{us:List Value}{r:af Fl}(ok:x.Ok G)(hout:x.outer=[])(hlv:1≤x.lv)
  (fo:lm G f qual scope [.Try b [.ExceptHandler (some (.Name z zp)) none [.Return (some (.Constant .none kk kp)) sp] hp] [] [] tp] ps names)
  (hl:vs.length=ps.length) (hu:aj (VR as) vs us) (hzd:(z==("__debug__":Str))=false) (hzk:scope.names.lookup z=some .globalImplicit) (hzg:nsIn G.K mainGlobals z=some (some (.ref G.xc))) (hkts:ktsIn G.K G.xc "BaseException"=true)
  (hb:∀x':Fx,x'.Ok G→x'.cs=scope→x'.names=names→x.lv≤x'.lv+1→kj G x' as ⟨ar names vs,σ.hp⟩ (execs b x'.env) eG r):
  ah G x as σ (call (.ref f) us) VR (jA σ.vars r):=by
 cases r with
 |stuck=>trivial
 |ok fl σ'=>
  cases fl with
  |next=>trivial
  |brk=>trivial
  |ret v=>
   intro s Q E R hq
   refine bJ (qa ok hlv fo hl hu R fun cdv h₁ tk₁ ok' R₁=>uf ?_)
   refine hb _ ok' rfl rfl (by show x.lv≤x.lv - 1+1;omega) { s with heap:=h₁,toks:=tk₁ } _ _ R₁ fun a as' h' tk' ha R' hr=>?_
   refine ak hr fun w q91 hw=>?_;obtain rfl:=q91
   exact⟨w,rfl,hq _ as' h' tk' ha (R.back rfl ha R') hw⟩
 |exc H=>
  intro s Q E R hq
  refine bJ (qa ok hlv fo hl hu R fun cdv h₁ tk₁ ok' R₁=>uf ?_)
  refine hb _ ok' rfl rfl (by show x.lv≤x.lv - 1+1;omega) { s with heap:=h₁,toks:=tk₁ } _ _ R₁ fun e as' h' tk' ha XS=>?_
  refine Ed XS fun a t ws m g₂ news q96 F hsm RS sep len low obj=>?_;obtain rfl:=q96
  have B:=bS (G:=G) (as:=as) (σ:=σ) ok R
  obtain⟨st,⟨m0,F0,V0⟩,own0,sz0⟩:=R.ground
  refine fh F0.ns fun oL es ep hLg hLd hLr=>?_
  have D:KtsDicts ((x.env::x.outer).filterMap (·.frame)) (aW s.heap as):=fun b hb=>by
   rw[hout] at hb
   obtain rfl:b=x.L:=by
    refine ak (mem_filterMap.mp hb) fun env he hf=>?_
    obtain rfl:=mem_singleton.mp he
    exact(Option.some.inj hf).symm
   exact⟨oL,es,ep,hLg,hLd⟩
  obtain⟨mean,TB⟩:=ok.TB
  have key:=caught_SO0 (E:=fun y y=>False) (prog:=G.prog) (w:=G.w) (A₀:=x.A) (base:=x.base) (outer:=x.env::x.outer) (name:=qual) (scope:=scope) (L:=s.heap.objs.size) (a:=f) (cd:=cdv) (g:=aW s.heap as) (s':={ s with heap:=h',toks:=tk' })
   (b₀:=.Return (some (.Constant .none kk kp)) sp) (suite:=[]) (pos:=hp) (np:=zp) (rest:=[]) (x:=z) (Q:=fun fl s'=>∃w,fl=.ret w∧Q w s')
   RS F B hsm ok.XB TB D KtsTurn.refl hzg hkts (fun h₂ g' news₂ T F' N₂ got N' B' X' P' D'=>?_) fo.kind hzk hzd (PassesOwnAt.never)
  ·refine aB (wpAny_mono key (fun y s₂ h₂=>aB (wpAny_mono h₂ (fun y s₃ h₃=>aB (wpAny_mono h₃ (fun fl s₄ h₄=>?_) fun y y z=>z.elim)) fun y y z=>z.elim)) fun y y z=>z.elim)
   refine ak h₄ fun w q91 hw=>?_;obtain rfl:=q91
   exact⟨w,rfl,hw⟩
  ·refine xV ⟨_,rfl,?_⟩
   have nL:x.h₀.get? x.L=none:=kts_self F0
   have gL:∃sl,h₂.get? x.L=some { oL with slots:=sl }:=by
    obtain⟨sl,hs⟩:=T.up hLg
    exact⟨sl,F'.keep _ _ hs⟩
   obtain⟨sl,hsl⟩:=gL
   refine hq .none as' h₂ tk' ha ⟨⟨m0,⟨⟨_,es,ep,hsl,hLd,hLr⟩,fun b o e=>F'.keep b o (T.other b o (st b o e) fun hb=>?_),F0.above⟩,V0.mono ha⟩,fun p hp=>?_,sep,len,fun i o p e1 e2=>?_,R.low.1,low⟩ rfl
   ·rw[hout] at hb
    refine ak (mem_filterMap.mp hb) fun env he hf=>?_
    obtain rfl:=mem_singleton.mp he
    obtain rfl:=Option.some.inj hf
    rw[show x.env.frame=some x.L from rfl] at *
    rw[nL] at e;cases e
   ·obtain⟨i,hi⟩:=getElem?_of_mem hp
    have hlt:i < H.length:=by rw[←len];exact(List.getElem?_eq_some_iff.mp hi).1
    refine bC (obj i _ p (getElem?_eq_getElem hlt) hi) fun o1 o2 n1 n2 y=>?_
    have key2:∀q:Addr×Obj,q∈news→q.1≠x.L∧x.h₀.get? q.1=none:=fun q hq'=>by
     have nn:=(N' q hq').2.2
     refine⟨fun e=>?_,?_⟩
     ·obtain⟨sl2,hs2⟩:=T.up hLg
      rw[e,hs2] at nn;cases nn
     ·cases c:x.h₀.get? q.1 with
      |none=>rfl
      |some o=>
       obtain⟨sl2,hs2⟩:=T.up (st _ _ c)
       rw[hs2] at nn;cases nn
    exact⟨key2 _ n1,key2 _ n2⟩
   ·refine bC (obj i o p e1 e2) fun o1 o2 n1 n2 ok2=>?_
    exact⟨o1,o2,(N' _ n1).1,(N' _ n2).1,ok2⟩
end
section
variable {G:bB}{x:Fx}{c:Cx}{t:Tb}{lv:Nat}
theorem sG(co:kq G c x)(to:fU G t lv)(hl:lv≤x.lv){y:Str}{np cp rp:Pos}{l:List Expr}{es:Es}{f:Value}{g:List V→St→af V}{as:As}{σ:St}
  (hf:chk c (.con (.sta f)) (.Name y np)=true) (hc:fT c es l=true) (hne:l≠[]) (hk:fi G.K f) (hx:∀H,fL t es σ≠.exc H)
  (hg:∀as' vs us σ',aj (VR as') vs us→kj G x as' σ' (call f us) VR (g vs σ')):
  kj G x as σ (execs [.Return (some (.Call (.Name y np) l [] cp)) rp] x.env) eG ((fL t es σ).bind fun vs σ=>(g vs σ).bind fun v σ=>.ok (.ret v) σ):=by
 have hplain:((backTo cp (starEach l x.env)).any (·.1)||([]:List (Option Str×Sem Value)).any (·.1.isNone))=false:=by rw[fj hc];rfl
 have keep:∀h:Heap,G.K.In h→∃k,(k=Keeper.frame∨k=Keeper.machine∨k=Keeper.boundFrame)∧Looks (model G.prog G.w) h (keeperOf f) k:=by
  intro h X
  rcases hk with hf|⟨n,rfl⟩|⟨n,rfl⟩
  ·exact keeps_K hf h X
  ·exact⟨.machine,.inr (.inl rfl),.now⟩
  ·exact⟨.machine,.inr (.inl rfl),.now⟩
 have inK:∀{as' σ' s},aE G x σ' as' s→G.K.In s:=fun R=>let ⟨m,F,_⟩:=R.fr;co.ok.X.keeps F.keep
 have args:∀s (Q:Args→Shared→Prop) E,aJ (model G.prog G.w) x.A (spliced (backTo cp (starEach l x.env))) (fun vs s'=>Q { pos:=vs } s') E s→aJ (model G.prog G.w) x.A (evalArgs f true (backTo cp (starEach l x.env)) []) Q E s:=by
  intro s Q E h
  cases l with
  |nil=>exact absurd rfl hne
  |cons e l=>
   cases es with
   |nil=>simp[fT] at hc
   |cons a r=>
    have hpl:starEach (e::l) x.env=(false,eval e x.env)::starEach l x.env:=by
     simp only[fT,and_eq_true,not_eq_true'] at hc
     exact aG hc.1.2
    rw[hpl] at h⊢
    exact bK h
 have start:∀{s:Shared} {Q:Flow→Shared→Prop} {E:Value→Shared→Prop} (R:aE G x σ as s.heap),
   (∀as1 h1 tk1,as <+: as1→aE G x σ as1 h1→aJ (model G.prog G.w) x.A (spliced (backTo cp (starEach l x.env))) (fun vs s'=>G.K.In s'.heap∧aJ (model G.prog G.w) x.A (call f vs) (fun v s''=>Q (.ret v) s'') E s') E { s with heap:=h1,toks:=tk1 })→
   aJ (model G.prog G.w) x.A (execs [.Return (some (.Call (.Name y np) l [] cp)) rp] x.env) Q E s:=by
  intro s Q E R h
  rw[execs_cons]
  refine ae ?_
  rw[arm_exec_Return]
  refine aF ?_
  show aJ _ _ ((eval (.Name y np) x.env>>=fun f=>callWith cp f [] (backTo cp (starEach l x.env)) [])>>=fun v=>Pure.pure (Flow.ret v)) _ _ _
  refine ae (ae ?_)
  refine(du co to hl _ _ hf as σ:ah G x as σ _ VR (.ok (.sta f) σ)) s _ _ R fun fv as1 h1 tk1 ha R1 hv=>?_
  obtain rfl:fv=f:=hv
  refine bZ hplain keep (args _ _ _ (av (h as1 h1 tk1 ha R1) (fun vs s' h'=>⟨h'.1,av h'.2 (fun v s'' h''=>au (au h'')) fun u u z=>z⟩) fun u u z=>z))
 cases hr:fL t es σ with
 |stuck=>trivial
 |exc H=>exact absurd hr (hx H)
 |ok vs σ1=>
  show kj _ _ _ _ _ _ ((g vs σ1).bind _)
  cases hg':g vs σ1 with
  |stuck=>trivial
  |exc H=>
   intro s Q E R hq
   refine start R fun as1 h1 tk1 ha R1=>?_
   have T:=w6 co to hl es l cp hc as1 σ
   rw[hr] at T
   refine T { s with heap:=h1,toks:=tk1 } _ _ R1 fun us as2 h2 tk2 ha2 R2 hu=>⟨inK R2,?_⟩
   have T2:=hg as2 vs us σ1 hu
   rw[hg'] at T2
   exact T2 { s with heap:=h2,toks:=tk2 } _ _ R2 fun e as3 h3 tk3 ha3=>hq e as3 h3 tk3 ((ha.trans ha2).trans ha3)
  |ok v σ2=>
   intro s Q E R hq
   refine start R fun as1 h1 tk1 ha R1=>?_
   have T:=w6 co to hl es l cp hc as1 σ
   rw[hr] at T
   refine T { s with heap:=h1,toks:=tk1 } _ _ R1 fun us as2 h2 tk2 ha2 R2 hu=>⟨inK R2,?_⟩
   have T2:=hg as2 vs us σ1 hu
   rw[hg'] at T2
   exact T2 { s with heap:=h2,toks:=tk2 } _ _ R2 fun w as3 h3 tk3 ha3 R3 hw=>hq _ as3 h3 tk3 ((ha.trans ha2).trans ha3) R3 ⟨w,rfl,hw⟩
end
section
open Builtin
noncomputable def Hf(v:V)(w:Value):Option Bool:=match w with
 | .type T=>Ip v T
 |_=>none
noncomputable def gh(lists:List (Addr×List V))(w:Value)(vs:List V)(σ:St):af V:=
 if w=.builtin "len" then l1 vs fun v=>CH lists v σ
 else if w=.builtin "abs" then l1 vs fun v=>vI v fun i=>.ok (.int (if i < 0 then -i else i)) σ
 else if w=.builtin "isinstance" then l2 vs fun v k=>vS k fun T=>oO (Hf v T) fun r=>.ok (.bool r) σ
 else if w=.type "int" then l1 vs fun v=>vI v fun i=>.ok (.int i) σ
 else if w=.type "bytes" then l1 vs fun v=>rZ v σ
 else if w=.type "bytearray" then l0 vs (.ok (.ref σ.hp.length) ⟨σ.vars,σ.hp++[.ba []]⟩)
 else .stuck
section
variable {G:bB}{x:Fx}{as:As}{σ:St}{lists:List (Addr×List V)}{vs:List V}
theorem xW:gh lists (.builtin "len") vs σ=l1 vs fun v=>CH lists v σ:=if_pos rfl
theorem Bg:gh lists (.builtin "abs") vs σ=l1 vs fun v=>vI v fun i=>.ok (.int (if i < 0 then -i else i)) σ:=(if_neg (by decide)).trans (if_pos rfl)
theorem xX:gh lists (.builtin "isinstance") vs σ=l2 vs fun v k=>vS k fun T=>oO (Hf v T) fun r=>.ok (.bool r) σ:=(if_neg (by decide)).trans ((if_neg (by decide)).trans (if_pos rfl))
theorem EV:gh lists (.type "int") vs σ=l1 vs fun v=>vI v fun i=>.ok (.int i) σ:=(if_neg (by decide)).trans ((if_neg (by decide)).trans ((if_neg (by decide)).trans (if_pos rfl)))
theorem ug:gh lists (.type "bytes") vs σ=l1 vs fun v=>rZ v σ:=(if_neg (by decide)).trans ((if_neg (by decide)).trans ((if_neg (by decide)).trans ((if_neg (by decide)).trans (if_pos rfl))))
theorem Hg:gh lists (.type "bytearray") vs σ=l0 vs (.ok (.ref σ.hp.length) ⟨σ.vars,σ.hp++[.ba []]⟩):=(if_neg (by decide)).trans ((if_neg (by decide)).trans ((if_neg (by decide)).trans ((if_neg (by decide)).trans ((if_neg (by decide)).trans (if_pos rfl)))))
theorem CX(ok:x.Ok G){v:V}{u T:Value}{r:Bool}(hv:VR as v u)(h:Hf v T=some r):ah G x as σ (call (.builtin "isinstance") [u,T]) VR (.ok (.bool r) σ):=by
 cases T with
 |type T=>exact n7 ok hv h
 |_=>cases h
theorem xY(hL:∀a l,lists.lookup a=some l→∃vs n,G.K.lookup a=some (listOf vs.toArray n)∧aj (VR []) l vs)(ok:x.Ok G){w:Value}{us:List Value}
  (hvs:aj (VR as) vs us):ah G x as σ (call w us) VR (gh lists w vs σ):=by
 refine jx (.l1 (t:=fun us=>call _ us) hvs fun v u hv=>EH ok hL hv) (jx (.l1 (t:=fun us=>call _ us) hvs fun v u hv=>.vI fun i e=>EI (e ▸ hv)) (jx (.l2 (t:=fun us=>call _ us) hvs fun v u k z hv hk=>.vS fun T e=>.oO fun r hr=>?_)
  (jx (.l1 (t:=fun us=>call _ us) hvs fun v u hv=>.vI fun i e=>EJ (e ▸ hv)) (jx (.l1 (t:=fun us=>call _ us) hvs fun v u hv=>z7 ok hv) (jx (.l0 (t:=fun us=>call _ us) hvs (z6 ok)) trivial)))))
 subst e
 obtain rfl:=hk
 exact CX ok hv hr
end
end
section
open Builtin
theorem kE:Slot "bytes" "__repr__" "bytes.__repr__":=
 .of (owner:="bytes") (n:="__repr__") (by rw[typeLookup_type,builtinLookup_eq_fast];kernel_rfl) (by decide +kernel) (by decide +kernel) (by decide +kernel)
  (by first|exact .inl (by decide +kernel)|exact .inr (by decide +kernel)) (by rw[isSubtype_type];kernel_rfl)
theorem jB:entryFor table "bytes.__repr__"=some Builtin.«bytes.__repr__»:=entryFor_of_tree (by kernel_rfl)
theorem kF(a:Value):argsOk "bytes.__repr__" ⟨[a],[]⟩:=by
 unfold argsOk;rw[signature?_of (id:="bytes.__repr__") (n:=['_','_','r','p','e','r','_','_']) (o:=['s','e','t','y','b']) (by kernel_rfl) FB.owner_bytes];kernel_rfl
theorem CY{p:Prop}{_:Decidable p}{a b:Array Nat}(ha:a.size≤4)(hb:b.size≤4):(if p then a else b).size≤4:=by split<;>assumption
theorem uh(b:Array UInt8):(Bytes.literal b).length≤4 * b.size+3:=by
 obtain⟨l⟩:=b
 unfold Bytes.literal
 show Array.size (Array.push _ _)≤_
 rw[Array.size_push]
 have key:∀(f:UInt8→Array Nat),(∀c,(f c).size≤4)→∀(l:List UInt8) (acc:Array Nat),(l.foldl (fun acc c=>acc++f c) acc).size≤acc.size+4 * l.length:=by
  intro f hf l
  induction l with
  |nil=>intro acc;simp
  |cons c r ih=>
   intro acc
   rw[foldl_cons]
   have:=ih (acc++f c)
   rw[Array.size_append] at this
   have:=hf c
   simp only[length_cons]
   lia
 rw[←Array.foldl_toList]
 refine le_trans (Nat.add_le_add_right (key _ ?_ l _) 1) ?_
 rotate_left
 ·show 2+4 * l.length+1≤4 * l.length+3
  lia
 ·intro c
  dsimp only
  repeat' first|apply CY|exact le_of_ble_eq_true rfl
theorem sH{n:Nat}(h:n≤16000000):Builtin.Bytes.tooLong n=false:=by
 unfold Builtin.Bytes.tooLong sizeLine
 simp
 exact bA h rfl
theorem jC(b:Array UInt8)(t:Tok)(h:b.size≤1000000):Gives («bytes.__repr__» ⟨[.bytes b t],[]⟩) (.str (Bytes.literal b)):=by
 refine .of_eq ?_
 unfold «bytes.__repr__»
 show(do retStr (←Bytes.literalAsked b))=_
 unfold Bytes.literalAsked
 rw[sH (by lia)]
 rfl
section
variable {prog:Program}{w:World}{A:Around}{E:Value→Shared→Prop}{s:Shared}
theorem ReprIs.bytes(b:Array UInt8)(t:Tok)(h:b.size≤1000000):ReprIs prog w (.bytes b t) (Bytes.literal b):=fun n hn A E s Q hq=>by
 have hn':n≤sizeLine:=iC hn rfl
 rw[pyReprUnder_leaf (v:=.bytes b t) hn' (fun z e=>nomatch e)]
 unfold pyRepr
 refine wpAny_bind (wpAny_pyReprObj_gives (W.typeIs_bytes s b t) kE jB (kF _) (jC b t h) (wpAny_pure (hq _)) (hx:=?_))
 have:=uh b
 unfold sizeLine
 exact IM hn rfl
end
end
section
open Builtin
set_option backward.match.sparseCases false
noncomputable def iY{α β:Type}(f:α→Option β):List α→Option (List β)
 | []=>some []
 |a::r=>(f a).bind fun b=>(iY f r).map (b::·)
noncomputable def gk(v:V):Option Str:=@V.casesOn (fun z=>Option Str) v (some "None") (fun z=>none) (fun i=>if i.natAbs < 2 ^ 64 then some (toString i) else none) (fun b=>if b.length≤1000000 then some (Bytes.literal b.toArray) else none) (fun z=>none) (fun z=>none) fun z=>none
noncomputable def oF(H:Hp)(f:List Nat→V→Option Str)(p:List Nat)(i:Nat):Option Str:=if i∈p then none else H[i]?.bind fun o=>@O.casesOn (fun z=>Option Str) o (fun z z=>none) (fun l=>(iY (f (i::p)) l).map listText) (fun l=>(iY (f (i::p)) l).map tupleText) (fun z=>none) (fun z=>none) (fun z z=>none) (fun z z=>none) none (fun z=>none) none (fun z z=>none) fun z=>none
theorem ui{H:Hp}{f:List Nat→V→Option Str}{p:List Nat}{i:Nat}{t:Str}{P:Prop}(h:oF H f p i=some t)(kl:∀l ts,H[i]? =some (.list l)→iY (f (i::p)) l=some ts→t=listText ts→P)
  (kt:∀l ts,H[i]? =some (.tup l)→iY (f (i::p)) l=some ts→t=tupleText ts→P):P:=by
 unfold oF at h
 by_cases hi:i∈p
 ·exact bt ((if_pos hi).symm.trans h)
 ·refine(bind_eq_some_iff.mp ((if_neg hi).symm.trans h)).elim fun o z=>z.elim fun e q=>?_
  cases o<;>first|exact bt q|skip
  ·exact(map_eq_some_iff.mp q).elim fun ts y=>kl _ ts e y.1 y.2.symm
  ·exact(map_eq_some_iff.mp q).elim fun ts y=>kt _ ts e y.1 y.2.symm
theorem Iu{H:Hp}{f:List Nat→V→Option Str}{p:List Nat}{i:Nat}{t:Str}(h:oF H f p i=some t):i∉p:=fun hi=>bt ((if_pos hi).symm.trans h)
noncomputable def cZ(H:Hp):Nat→List Nat→V→Option Str
 |0,_,v=>gk v
 |n+1,p,v=>@V.casesOn (fun z=>Option Str) v (gk v) (fun z=>gk v) (fun z=>gk v) (fun z=>gk v) (fun z=>gk v) (fun i=>oF H (cZ H n) p i) fun z=>gk v
noncomputable def vP(as:As)(p:List Nat):List Addr:=(as.zipIdx.filter fun q=>decide (q.2∉p)).map (·.1.1)
theorem iZ{as:As}{p:List Nat}{a:Addr}:a∈vP as p↔∃i q,as[i]? =some q∧i∉p∧q.1=a:=by
 unfold vP
 constructor
 ·intro h
  obtain⟨⟨q,i⟩,h1,h2⟩:=mem_map.mp h
  obtain⟨h3,h4⟩:=mem_filter.mp h1
  exact⟨i,q,by simpa [List.mem_zipIdx_iff_getElem?] using h3,by simpa using h4,h2⟩
 ·rintro⟨i,q,h1,h2,h3⟩
  exact mem_map.mpr ⟨(q,i),mem_filter.mpr ⟨by simpa [List.mem_zipIdx_iff_getElem?] using h1,by simpa using h2⟩,h3⟩
theorem Ai{a:Int}(h:a.natAbs < 2 ^ 64):a.natAbs.log2 < 1920:=by
 by_cases q:a.natAbs=0
 ·rw[q];decide
 ·have:=(Nat.log2_lt q (k:=64)).mpr h
  exact GV this rfl
section
variable {G:bB}{x:Fx}{as:As}{σ:St}
theorem uj{h:Heap}{ad:List Addr}{d:Nat}{v:V}{u:Value}{t:Str}(hv:VR as v u)(hs:gk v=some t):ReprK G.prog G.w ad h d u t:=by
 cases v with
 |none=>obtain rfl:=hv;cases hs;exact .of_is ReprIs.none _ _ _
 |int i=>
  obtain⟨k,rfl⟩:=hv
  have hs:(if i.natAbs < 2 ^ 64 then some (toString i:Str) else none)=some t:=hs
  by_cases q:i.natAbs < 2 ^ 64
  ·cases (if_pos q).symm.trans hs
   exact .of_is (ReprIs.int k (Ai q)) _ _ _
  ·exact bt ((if_neg q).symm.trans hs)
 |bytes b=>
  obtain⟨k,rfl⟩:=hv
  have hs:(if b.length≤1000000 then some (Bytes.literal b.toArray) else none)=some t:=hs
  by_cases q:b.length≤1000000
  ·cases (if_pos q).symm.trans hs
   exact .of_is (ReprIs.bytes _ k q) _ _ _
  ·exact bt ((if_neg q).symm.trans hs)
 |_=>exact bt hs
set_option tactic.hygienic true in
theorem gJ{h:Heap}{ad:List Addr}{d:Nat}{f:V→Option Str}(ih:∀v u t,VR as v u→f v=some t→ReprK G.prog G.w ad h d u t):∀{l:List V} {us:List Value} {ts:List Str},aj (VR as) l us→iY f l=some ts→ReprAllK G.prog G.w ad h d us ts:=by
 intro l us ts z e
 induction z generalizing ts with
 |nil=>cases e;exact .nil
 |cons hv _ ihr=>
  rename_i v w r m hr
  refine ak (bind_eq_some_iff.mp (show((f v).bind fun b=>(iY f r).map (b::·))=_ from e)) fun b q e=>?_
  refine ak (map_eq_some_iff.mp e) fun bs q2 q92=>?_;obtain rfl:=q92
  exact .cons (ih _ _ _ hv q) (ihr q2)
theorem uk{p:List Nat}{i:Nat}{q:Addr×Addr}(hq:as[i]? =some q)(hi:i∉p):∀b∈q.1::vP as (i::p),b∈vP as p:=by
 intro b hb
 rcases mem_cons.mp hb with rfl|hb
 ·exact iZ.mpr ⟨i,q,hq,hi,rfl⟩
 ·refine bC (iZ.mp hb) fun j r h1 h2 h3=>?_
  exact iZ.mpr ⟨j,r,h1,fun hm=>h2 (.tail _ hm),h3⟩
theorem i4{p:List Nat}{i:Nat}{q:Addr×Addr}(sep:AW as)(hq:as[i]? =some q):q.1∉vP as (i::p):=by
 intro hb
 refine bC (iZ.mp hb) fun j r h1 h2 h3=>?_
 exact(sep j i r q (fun e=>h2 (e ▸ .head _)) h1 hq).1 h3
theorem aE.listOn{h:Heap}(R:aE G x σ as h){i:Nat}{l:List V}{p:Addr×Addr}(e:σ.hp[i]? =some (.list l))(hp:as[i]? =some p):∃vs n,h.get? p.1=some (listOf vs.toArray n)∧aj (VR as) l vs:=
 (R.listAt e).elim fun q k=>k.elim fun vs k=>k.elim fun n k=>⟨vs,n,fm (M:=fun p=>h.get? p.1=some (listOf vs.toArray n)) hp k.1 k.2.1,k.2.2⟩
theorem qd{h:Heap}(R:aE G x σ as h)(n:Nat):∀(p:List Nat) v u t,VR as v u→cZ σ.hp n p v=some t→ReprK G.prog G.w (vP as p) h n u t:=by
 induction n with
 |zero=>exact fun p v u t hv hs=>uj hv hs
 |succ n ih=>
  intro p v u t hv hs
  cases v with
  |ref i=>
   refine ak hv fun q hq q92=>?_;obtain rfl:=q92
   refine ui hs (fun l ts e es et=>dc (R.listOn e hq) fun vs m a2 a3=>?_) fun l ts e es et=>ak (R.tupOf e hq) fun vs a2 a3=>?_
   ·have hk:=gJ (fun v u t=>ih (i::p) v u t) a3 es
    rw[et]
    cases vs with
    |nil=>
     cases hk
     rw[listText_nil]
     exact ReprK.listEmpty a2 rfl rfl
    |cons y ys=>exact(ReprK.list a2 rfl rfl (i4 R.sep hq) hk.length_eq (fun i y e=>hk.item i y (getElem?_toArray.symm.trans e))).more (uk hq (Iu hs))
   ·have hk:=gJ (fun v u t=>ih (i::p) v u t) a3 es
    rw[et]
    refine eP a2 fun o b1 b2 b3=>b3.elim fun m b3=>?_
    exact(ReprK.tuple b1 b2 b3 (i4 R.sep hq) hk).more (uk hq (Iu hs))
  |_=>exact uj hv hs
theorem aE.grow'{h h':Heap}(R:aE G x σ as h)(k:∀b o,h.get? b=some o→h'.get? b=some o):aE G x σ as h':=by
 obtain⟨⟨m,F,Vr⟩,own,sep,len,obj,low⟩:=R
 refine⟨⟨m,⟨F.ns.keeps k,fun b o e=>k _ _ (F.keep b o e),F.above⟩,Vr⟩,own,sep,len,fun i o p e1 e2=>?_,low⟩
 refine bC (obj i o p e1 e2) fun o1 o2 a b c=>?_
 exact⟨o1,o2,k _ _ a,k _ _ b,c⟩
noncomputable def qe(v:V)(σ:St):af V:=vR v fun i=>oO (cZ σ.hp 6 [] v) fun t=>if t.length≤1000000 then .ok (.str t) σ else .stuck
theorem CZ(ok:x.Ok G){v:V}{u:Value}(hv:VR as v u):ah G x as σ (call (.builtin "repr") [u]) VR (qe v σ):=by
 refine .vR fun i ei=>?_
 subst ei
 refine .oO fun t ht=>.ifS fun hl=>.of_any fun s Q E R k=>?_
 have hsz:t.length≤sizeLine:=le_trans hl (le_of_ble_eq_true rfl)
 have hu:=ok.uni
 refine ak hv fun q hq q92=>?_;obtain rfl:=q92
 refine ui ht (fun l ts e es et=>dc (R.listOn e hq) fun vs m a2 a3=>?_) fun l ts e es et=>ak (R.tupOf e hq) fun vs a2 a3=>?_
 ·have hk:=gJ (fun v u t=>qd R 5 [i] v u t) a3 es
  refine call_repr_slot (GU hu rfl) ⟨_,a2,rfl⟩ PySem.F.slot_list_repr.toG ?_
  cases vs with
  |nil=>
   cases hk
   rw[et,listText_nil] at k
   exact call_list_repr_empty ⟨_,a2,rfl⟩ a2 rfl ⟨_,_,rfl,k _ as _ _ (prefix_refl _) R ⟨_,rfl⟩⟩
  |cons y ys=>
   subst et
   exact call_list_reprK a2 rfl rfl (i4 R.sep hq) hk.length_eq (fun i y e=>hk.item i y (getElem?_toArray.symm.trans e)) (show(x.A.in1).guards=_ from ok.hg) (fun b z=>Clear.nil b) (by show x.A.units+1+(5+1) < cLine;lia) (fun z z e=>e)
    (fun h' u tk hkp=>⟨_,_,rfl,k _ as h' tk (prefix_refl _) (R.grow' hkp) ⟨_,rfl⟩⟩) hsz
 ·have hk:=gJ (fun v u t=>qd R 5 [i] v u t) a3 es
  subst et
  refine eP a2 fun o b1 b2 b3=>b3.elim fun m b3=>?_
  refine call_repr_slot (GU hu rfl) ⟨_,b1,b2⟩ PySem.F.slot_tuple_repr ?_
  exact call_tuple_reprK b1 b2 b3 (i4 R.sep hq) hk (show(x.A.in1).guards=_ from ok.hg) (fun b z=>Clear.nil b) (by show x.A.units+1+(5+1) < cLine;lia) (fun z z e=>e)
   (fun h' u tk hkp=>⟨_,_,rfl,k _ as h' tk (prefix_refl _) (R.grow' hkp) ⟨_,rfl⟩⟩) hsz
end
end
noncomputable def dg:List (Addr×List V):=[(188,ao.map .bytes),(189,cY.map .bytes),(484,pieces.map .bytes)]
noncomputable def jD:List Addr:=aM.map (·.addr)++[472,269,53,245,496,503]
noncomputable def sI(w:Value):Bool:=@Value.casesOn (fun z=>Bool) w false false false (fun z=>false) (fun z z=>false) (fun z z=>false) (fun z z=>false) (fun z z=>false) (fun z=>true) (fun z=>true) fun a=>jD.contains a
noncomputable def da:List (Str×V):=(("all_tokens":Str),.sta (.ref 483))::(("Limits":Str),.sta (.ref 53))::cX
noncomputable def dH:Es:=.cons (.loc 0) (.cons (.con (.bytes [61,108,97,119])) (.cons (.call (.con (.sta (.ref 53))) .nil) .nil))
noncomputable abbrev ka:Str:="text"
noncomputable def kb(N:Nat)(top:Bool)(t:Tb)(vs:List V)(σ:St)(a:Addr):af V:=
  if a=245 then l0 vs (.ok (.ref σ.hp.length) ⟨σ.vars,σ.hp++[.dict ax]⟩)
  else if a=53 then l0 vs ((bj t N fB ⟨ar bL (.ref σ.hp.length::kN),σ.hp++[.inst 53 []]⟩).mk σ.vars σ.hp.length)
  else if a=472 then(if vs.length+1=b9.np then(bj t N b9.body ⟨ar b9.names (.ref σ.hp.length::vs),σ.hp++[.inst 472 []]⟩).mk σ.vars σ.hp.length else .stuck)
  else if a=269 then(if vs.length+1=b8.np then(bj t N b8.body ⟨ar b8.names (.ref σ.hp.length::vs),σ.hp++[.inst 269 []]⟩).mk σ.vars σ.hp.length else .stuck)
  else if a=496 then xK (fun vs σ=>t.prim (.ref 491) vs σ) (pieces.map .bytes) N vs σ
  else if a=503 then(if top=true∧vs.length=1 then jA σ.vars ((fL t dH ⟨ar [ka] vs,σ.hp⟩).only.bind fun ws σ1=>(t.prim (.ref 483) ws σ1).bind fun v σ2=>.ok (.ret v) σ2) else .stuck)
  else oO (aM.find? fun d=>d.addr==a) fun d=>if vs.length=d.np then(bj t N d.body ⟨ar d.names vs,σ.hp⟩).fn σ.vars else .stuck
noncomputable def fD(N:Nat)(top:Bool)(t:Tb)(w:Value)(vs:List V)(σ:St):af V:=if w=.builtin "repr" then l1 vs fun v=>qe v σ else G5 w (kb N top t vs σ) (gh dg w vs σ)
theorem lI{N:Nat}{top:Bool}{t:Tb}{a:Addr}{vs:List V}{σ:St}:fD N top t (.ref a) vs σ=kb N top t vs σ a:=by
 unfold fD
 exact if_neg nofun
theorem xZ{N:Nat}{top:Bool}{t:Tb}{w:Value}{vs:List V}{σ:St}(h:w≠.builtin "repr"):fD N top t w vs σ=G5 w (kb N top t vs σ) (gh dg w vs σ):=by
 unfold fD
 exact if_neg h
noncomputable def Aj(prim:Value→List V→St→af V):Tb:={ meths:=[(472,eV)],flds:=[(472,gH),(269,iT),(53,fu)],lists:=dg,isC:=sI,prim:=prim,msel:=xD,mprim:=aD }
noncomputable def aa(N:Nat):Nat→Tb
 |0=>Aj fun z z z=>.stuck
 |n+1=>Aj (fD N false (aa N n))
noncomputable def aP(N:Nat):Tb:=Aj (fD N true (aa N 19))
noncomputable def lJ(b:List Stmt):Prop:=∀P:Prop,(∀(np:Pos) (l:List Expr) (cp rp zp:Pos) (kk:Nat) (kp sp hp tp:Pos),
 b=[.Try [.Return (some (.Call (.Name ("all_tokens":Str) np) l [] cp)) rp] [.ExceptHandler (some (.Name ("LuaSyntaxError":Str) zp)) none [.Return (some (.Constant .none kk kp)) sp] hp] [] [] tp]→l≠[]→P)→P
noncomputable def Hh(s:Stmt):List Stmt:=@Stmt.casesOn (fun z=>List Stmt) s (fun z z z z z z z z z z=>[]) (fun z z z z z z z z z z=>[]) (fun z z z z z z z z z z z=>[]) (fun z z=>[]) (fun z z=>[]) (fun z z z=>[]) (fun z z z z z z z=>[]) (fun z z z z=>[]) (fun z z z z z=>[]) (fun z z z z z=>[]) (fun z z z z z=>[]) (fun z z z z=>[]) (fun z z z z=>[]) (fun z z z=>[]) (fun z z z=>[]) (fun z z z=>[]) (fun z z z=>[]) (fun a z z z z=>a) (fun z z z z z=>[]) (fun z z z=>[]) (fun z z=>[]) (fun z z z z=>[]) (fun z z=>[]) (fun z z=>[]) (fun z z=>[]) (fun z=>[]) (fun z=>[]) (fun z=>[])
noncomputable def Hi(s:Stmt):Option Expr:=@Stmt.casesOn (fun z=>Option Expr) s (fun z z z z z z z z z z=>none) (fun z z z z z z z z z z=>none) (fun z z z z z z z z z z z=>none) (fun a z=>a) (fun z z=>none) (fun z z z=>none) (fun z z z z z z z=>none) (fun z z z z=>none) (fun z z z z z=>none) (fun z z z z z=>none) (fun z z z z z=>none) (fun z z z z=>none) (fun z z z z=>none) (fun z z z=>none) (fun z z z=>none) (fun z z z=>none) (fun z z z=>none) (fun z z z z z=>none) (fun z z z z z=>none) (fun z z z=>none) (fun z z=>none) (fun z z z z=>none) (fun z z=>none) (fun z z=>none) (fun z z=>none) (fun z=>none) (fun z=>none) (fun z=>none)
noncomputable def ya(l:List Stmt):List Expr:=(l.head?.bind fun s=>(Hh s).head?.bind fun r=>(Hi r).map el).getD []
noncomputable def qf(K:Frag):Bool:=mF K 503 false fun fd b=>iU K [ka] 1 fd&&(chk (pQ aO da ⟨503,1,[ka],.nil⟩ fd.scope) (.con (.sta (.ref 483))) (.Name ("all_tokens":Str) default)&&(fT (pQ aO da ⟨503,1,[ka],.nil⟩ fd.scope) dH (ya b)&&fd.scope.names.lookup ("LuaSyntaxError":Str)==some .globalImplicit))
noncomputable def lK(K:Frag):Bool:=(nsIn K mainGlobals ("LuaSyntaxError":Str)==some (some (.ref 87))&&(ktsIn K 87 "BaseException"&&keepIn K (.ref 483)))
structure bz(G:bB):Prop where
 atts:G.atts=aO
 xc:G.xc=87
 fns:aM.all (ub G.K cX)=true
 globs:da.all (cJ G.K)=true
 exc:cJ G.K ("LuaSyntaxError",.sta (.ref 87))=true
 cls:(gf G.K 472 gH&&(gf G.K 269 iT&&(gf G.K 53 fu&&uc G.K 472 eV)))=true
 lst:(dF G.K 188 (ao.map .bytes)&&(dF G.K 189 (cY.map .bytes)&&dF G.K 484 (pieces.map .bytes)))=true
 makes:(makesIn G.K 472&&(makesIn G.K 269&&(findIn G.K (.ref 472) "__init__"==some (some (.ref 287))&&(findIn G.K (.ref 269) "__init__"==some (some (.ref 266))&&
  (typeIn G.K (.ref 287)==some (.type "function")&&typeIn G.K (.ref 266)==some (.type "function"))))))=true
 makesL:(makesIn G.K 53&&(findIn G.K (.ref 53) "__init__"==some (some (.ref 36))&&typeIn G.K (.ref 36)==some (.type "function")))=true
 kps:(aM.all (fun d=>keepIn G.K (.ref d.addr))&&(keepIn G.K (.ref 472)&&(keepIn G.K (.ref 269)&&(keepIn G.K (.ref 53)&&(keepIn G.K (.ref 245)&&(keepIn G.K (.ref 496)&&keepIn G.K (.ref 503)))))))=true
 init:oA G.K 71 87=true
 xcs:ue G.K 87 71 ud=true
 lim:sF G.K=true
 limb:∀S v,fC G.K S v=some (bL.zip (v::dG))
 kinds:(lH G.K&&iX G.K)=true
 row:(sB G.K&&oC G.K)=true
 rowS:∀b,fy G.K 496=some b→iW b
 kindsS:∀b,fy G.K 245=some b→fA b
 heardS:∀b,fy G.K 503=some b→lJ b
 heard:(qf G.K&&lK G.K)=true
section
variable {G:bB}{x:Fx}{as:As}{σ:St}{t:Tb}{lv N:Nat}
theorem bz.glob2(g:bz G):∀y v,da.lookup y=some v→ce G y v:=fun y v h=>cy (f:=(y,v)) (all_eq_true.mp g.globs _ (ik h))
theorem bz.glob(g:bz G):∀y v,cX.lookup y=some v→ce G y v:=fun y v h=>
 cy (f:=(y,v)) (all_eq_true.mp g.globs _ (.tail _ (.tail _ (ik h))))
theorem bz.fn(g:bz G){d:bY}(h:d∈aM):ub G.K cX d=true:=all_eq_true.mp g.fns _ h
theorem bz.exn(g:bz G):ce G "LuaSyntaxError" (.sta (.ref G.xc)):=by rw[g.xc];exact cy (f:=("LuaSyntaxError",.sta (.ref 87))) g.exc
theorem bz.raise(g:bz G):nW G lv:=xO (sy g.init) (xR g.xcs) g.xc
theorem bz.cx(g:bz G){d:bY}{scope:Scope}{glob:List (Str×V)}(hg:∀y v,glob.lookup y=some v→ce G y v)(ok:x.Ok G)(hn:x.names=d.names)(hs:x.cs=scope):kq G (pQ aO glob d scope) x:=
 ⟨ok,hn.symm,by rw[hs];rfl,g.atts.symm,hg,g.exn⟩
set_option tactic.hygienic true in
theorem ul(g:bz G)(to:fU G t lv){d:bY}(hd':d∈aM){vs:List V}{us:List Value}(ok:x.Ok G)(hl:lv+1≤x.lv)(hu:aj (VR as) vs us):
  kj G x as σ (call (.ref d.addr) us) VR (if vs.length=d.np then(bj t N d.body ⟨ar d.names vs,σ.hp⟩).fn σ.vars else .stuck):=by
 split
 ·rename_i hlen
  refine fh (lE (G:=G) (g.fn hd')) fun qual scope body fo hc hnp=>?_
  exact A4 ok (by lia) fo (by rw[hnp];exact hlen) hu fun x' ok' hcs hnm hlv'=>nY (g.cx g.glob ok' hnm hcs) to g.raise (by lia) N d.body body hc as _
 ·trivial
theorem C0{a:Addr}{d:bY}(h:aM.find? (fun d=>d.addr==a)=some d):d∈aM∧d.addr=a:=⟨List.mem_of_find?_eq_some h,by have:=List.find?_some (p:=fun d:bY=>d.addr==a) h;exact beq_iff_eq.mp this⟩
theorem vQ(g:bz G)(to:fU G t lv)(hprim:∀(x:Fx) as σ vs us,x.Ok G→lv≤x.lv→aj (VR as) vs us→kj G x as σ (call (.ref 483) us) VR (t.prim (.ref 483) vs σ)){vs:List V}{us:List Value}(ok:x.Ok G)(ht:x.lv=40)(hl:lv+1≤x.lv)(hu:aj (VR as) vs us)(hlen:vs.length=1):
  ah G x as σ (call (.ref 503) us) VR (jA σ.vars ((fL t dH ⟨ar [ka] vs,σ.hp⟩).only.bind fun ws σ1=>(t.prim (.ref 483) ws σ1).bind fun v σ2=>.ok (.ret v) σ2)):=by
 obtain⟨h,hg⟩:=and_eq_true_iff.mp g.heard
 unfold lK at hg
 simp only[and_eq_true,beq_iff_eq] at hg
 refine vK h fun oc od fd osl b ho hb h=>?_
 simp only[and_eq_true,beq_iff_eq] at h
 refine kW h fun h0 c1 c2 c4=>?_
 refine g.heardS b (jz ho hb) _ fun np l cp rp zp kk kp sp hp tp q91 c3=>?_;obtain rfl:=q91
 obtain⟨fo,hnp⟩:=dQ ho hb h0
 cases hev:fL t dH ⟨ar [ka] vs,σ.hp⟩ with
 |stuck=>trivial
 |exc H=>trivial
 |ok ws σ1=>
  refine Ah ok (ok.top ht) (by lia) fo (by rw[hnp];exact hlen) hu (by decide) c4 (by rw[g.xc];exact hg.1) (by rw[g.xc];exact hg.2.1) fun x' ok' hcs hnm hlv'=>?_
  have co:kq G (pQ aO da ⟨503,1,[ka],.nil⟩ fd.scope) x':=g.cx g.glob2 ok' hnm hcs
  have T:=sG (as:=as) (σ:=⟨ar [ka] vs,σ.hp⟩) (np:=np) (cp:=cp) (rp:=rp) (g:=fun ws σ1=>t.prim (.ref 483) ws σ1) co to (by lia) c1 c2 c3 (.inl hg.2.2) (fun H q=>by rw[hev] at q;cases q) fun as' vs us σ' hu'=>hprim x' as' σ' vs us ok' (by lia) hu'
  rw[hev] at T
  exact T
set_option tactic.hygienic true
theorem lookup3{α:Type}{a b c:Addr}{u v w:α}{C:Addr}{z:α}(h:([(a,u),(b,v),(c,w)]:List (Addr×α)).lookup C=some z):(C=a∧z=u)∨(C=b∧z=v)∨(C=c∧z=w):=by
 rw[lookup_cons] at h
 split at h
 ·rename_i e;cases h;exact .inl ⟨beq_iff_eq.mp e,rfl⟩
 ·rw[lookup_cons] at h
  split at h
  ·rename_i e;cases h;exact .inr (.inl ⟨beq_iff_eq.mp e,rfl⟩)
  ·rw[lookup_cons] at h
   split at h
   ·rename_i e;cases h;exact .inr (.inr ⟨beq_iff_eq.mp e,rfl⟩)
   ·cases h
theorem bz.lists(g:bz G):∀a l,dg.lookup a=some l→∃vs n,G.K.lookup a=some (listOf vs.toArray n)∧aj (VR []) l vs:=fun a l h=>by
 rcases lookup3 h with ⟨rfl,rfl⟩|⟨rfl,rfl⟩|⟨rfl,rfl⟩
 ·exact dR (and_eq_true_iff.mp g.lst).1
 ·exact dR (and_eq_true_iff.mp (and_eq_true_iff.mp g.lst).2).1
 ·exact dR (and_eq_true_iff.mp (and_eq_true_iff.mp g.lst).2).2
theorem bz.keeps(g:bz G){a:Addr}(h:jD.contains a=true):keepIn G.K (.ref a)=true:=by
 have hk:=g.kps
 simp only[and_eq_true,all_eq_true] at hk
 refine zg hk fun h0 h1 h2 h3 h4 h5 h6=>?_
 unfold jD at h
 rw[List.contains_iff_mem] at h
 rcases mem_append.mp h with h|h
 ·refine ak (mem_map.mp h) fun d hd' q92=>?_;obtain rfl:=q92
  exact h0 d hd'
 ·simp only[mem_cons,not_mem_nil,or_false] at h
  rcases h with rfl|rfl|rfl|rfl|rfl|rfl<;>assumption
theorem oG(g:bz G){prim:Value→List V→St→af V}(hp:∀(x:Fx) as σ w vs us,x.Ok G→lv≤x.lv→aj (VR as) vs us→ah G x as σ (call w us) VR (prim w vs σ)):fU G (Aj prim) lv where
 nd:=by rw[g.atts];exact sx
 cls C ns h:=by
  rcases lookup3 h with ⟨rfl,rfl⟩|⟨rfl,rfl⟩|⟨rfl,rfl⟩
  ·rw[g.atts];exact gI (and_eq_true_iff.mp g.cls).1
  ·rw[g.atts];exact gI (and_eq_true_iff.mp (and_eq_true_iff.mp g.cls).2).1
  ·rw[g.atts];exact gI (and_eq_true_iff.mp (and_eq_true_iff.mp (and_eq_true_iff.mp g.cls).2).2).1
 mth C ms m f h h2:=by
  have h':([(472,eV)]:List (Addr×List (Nat×Addr))).lookup C=some ms:=h
  rw[lookup_cons] at h'
  split at h'
  rotate_left
  ·cases h'
  rename_i e
  cases h'
  obtain rfl:=beq_iff_eq.mp e
  have hc:=gI (and_eq_true_iff.mp g.cls).1
  have hm:=all_eq_true.mp (and_eq_true_iff.mp (and_eq_true_iff.mp (and_eq_true_iff.mp g.cls).2).2).2 (m,f) (by
   have:∀{l:List (Nat×Addr)},l.lookup m=some f→(m,f)∈l:=fun {l} h=>by
    induction l with
    |nil=>cases h
    |cons q l ih=>
     obtain⟨a,b⟩:=q
     rw[lookup_cons] at h
     split at h
     ·rename_i e2;cases h;rw[beq_iff_eq.mp e2];exact .head _
     ·exact .tail _ (ih h)
   exact this h2)
  simp only[and_eq_true] at hm
  refine⟨hc.1,fun y hy=>?_,hm.2.1,hm.2.2⟩
  rw[g.atts] at hy
  have h1:=hm.1
  rw[hy] at h1
  exact beq_iff_eq.mp h1
 prim:=hp
 lists:=g.lists
 isC w h:=by
  cases w<;>first|exact .inr (.inl ⟨_,rfl⟩)|exact .inr (.inr ⟨_,rfl⟩)|exact .inl (g.keeps h)|exact Bool.noConfusion h
 msel x as σ v m u y pl s ok hv hy h:=xG g.atts hv hy h
 mprim x as σ id v vs u us ok hl hv hvs:=mZ ok hv hvs
theorem qg(g:bz G):makesIn G.K 472=true∧makesIn G.K 269=true∧findIn G.K (.ref 472) "__init__"=some (some (.ref 287))∧findIn G.K (.ref 269) "__init__"=some (some (.ref 266))∧typeIn G.K (.ref 287)=some (.type "function")∧typeIn G.K (.ref 266)=some (.type "function"):=by
 have h:=g.makes
 simp only[and_eq_true,beq_iff_eq] at h
 exact h
theorem vT(g:bz G):makesIn G.K 53=true∧findIn G.K (.ref 53) "__init__"=some (some (.ref 36))∧typeIn G.K (.ref 36)=some (.type "function"):=by
 have h:=g.makesL
 simp only[and_eq_true,beq_iff_eq] at h
 exact h
theorem vU:b9∈aM:=by unfold aM;simp
theorem vV:b8∈aM:=by unfold aM;simp
theorem Iv(g:bz G)(to:fU G t lv){d:bY}(hd':d∈aM){C:Addr}(hm:makesIn G.K C=true)(hi:findIn G.K (.ref C) "__init__"=some (some (.ref d.addr)))(hf:typeIn G.K (.ref d.addr)=some (.type "function")){vs:List V}{us:List Value}(ok:x.Ok G)(hl:lv+2≤x.lv)(hu:aj (VR as) vs us):
  ah G x as σ (call (.ref C) us) VR (if vs.length+1=d.np then(bj t N d.body ⟨ar d.names (.ref σ.hp.length::vs),σ.hp++[.inst C []]⟩).mk σ.vars σ.hp.length else .stuck):=by
 split
 ·rename_i hlen
  refine fh (lE (G:=G) (g.fn hd')) fun qual scope body fo hc hnp=>?_
  exact Er ok (by lia) hm hi hf fo (by rw[hnp];exact hlen) hu fun x' as' ok' hcs hnm hlv'=>nY (g.cx g.glob ok' hnm hcs) to g.raise (by lia) N d.body body hc as' _
 ·trivial
set_option tactic.hygienic false
theorem yb(g:bz G)(to:fU G t lv)(hS:∀(x:Fx) as σ vs us,x.Ok G→lv≤x.lv→aj (VR as) vs us→kj G x as σ (call (.ref 483) us) VR (t.prim (.ref 483) vs σ)){top:Bool}(htop:top=true→∀x:Fx,x.Ok G→lv+2≤x.lv→x.lv=40) {vs:List V}{us:List Value}(ok:x.Ok G)(hl:lv+2≤x.lv)(hu:aj (VR as) vs us)(a:Addr):
  ah G x as σ (call (.ref a) us) VR (kb N top t vs σ a):=by
 unfold kb
 by_cases e:a=245
 ·subst e;rw[if_pos rfl]
  cases hu with
  |nil=>exact Af ok (xU g.kindsS (and_eq_true_iff.mp g.kinds).1 (and_eq_true_iff.mp g.kinds).2 (and_eq_true_iff.mp g.lst).1)
  |cons _ _=>trivial
 rw[if_neg e]
 by_cases e:a=53
 ·subst e;rw[if_pos rfl]
  cases hu with
  |nil=>
   refine jj (vT g) fun q1 q2 q3=>?_
   refine BA (CW g.lim g.limb) fun qual scope body fo hc=>?_
   exact CU ok (by lia) q1 q2 q3 fo fun x' as' ok' hcs hnm hlv'=>nY (g.cx (d:=eL) g.glob ok' hnm hcs) to g.raise (by lia) N fB body hc as' _
  |cons _ _=>trivial
 rw[if_neg e]
 by_cases e:a=472
 ·subst e;rw[if_pos rfl]
  exact Ec (qg g) fun q1 q2 q3 q4 q5 q6=>Iv g to vU q1 q3 q5 ok hl hu
 rw[if_neg e]
 by_cases e:a=269
 ·subst e;rw[if_pos rfl]
  exact Ec (qg g) fun q1 q2 q3 q4 q5 q6=>Iv g to vV q2 q4 q6 ok hl hu
 rw[if_neg e]
 by_cases e:a=496
 ·subst e;rw[if_pos rfl]
  exact EP (CS g.rowS (and_eq_true_iff.mp g.row).1 (and_eq_true_iff.mp g.row).2) ok (by lia) (fun x' ok' hlv' as σ vs us hu=>to.prim x' as σ (.ref 491) vs us ok' (by lia) hu) (dR (and_eq_true_iff.mp (and_eq_true_iff.mp g.lst).2).2) hu
 rw[if_neg e]
 by_cases e:a=503
 ·subst e;rw[if_pos rfl]
  exact .ifS fun h=>vQ g to hS ok (htop h.1 x ok hl) (le_of_succ_le hl) hu h.2
 rw[if_neg e]
 refine .oO fun d hf=>?_
 refine(C0 hf).elim fun h1 e=>?_
 subst e
 exact(ul g to h1 ok (le_of_succ_le hl) hu).tri
theorem m6(g:bz G)(to:fU G t lv)(hS:∀(x:Fx) as σ vs us,x.Ok G→lv≤x.lv→aj (VR as) vs us→kj G x as σ (call (.ref 483) us) VR (t.prim (.ref 483) vs σ)){top:Bool}(htop:top=true→∀x:Fx,x.Ok G→lv+2≤x.lv→x.lv=40){w:Value}{vs:List V}{us:List Value}(ok:x.Ok G)(hl:lv+2≤x.lv)(hu:aj (VR as) vs us):
  ah G x as σ (call w us) VR (fD N top t w vs σ):=by
 show ah G x as σ (call w us) VR (if w=.builtin "repr" then _ else _)
 by_cases e:w=.builtin "repr"
 ·rw[if_pos e];subst e
  cases hu with
  |nil=>trivial
  |cons h hr=>cases hr with
   |nil=>exact CZ ok h
   |cons _ _=>trivial
 ·rw[if_neg e]
  cases w with
  |ref a=>exact yb g to hS htop ok hl hu a
  |_=>exact xY g.lists ok hu
theorem Ak:aM.find? (fun d=>d.addr==483)=some aT:=by rfl
theorem Al(n:Nat)(vs:List V)(σ:St):(aa N (n+1)).prim (.ref 483) vs σ=if vs.length=aT.np then(bj (aa N n) N aT.body ⟨ar aT.names vs,σ.hp⟩).fn σ.vars else .stuck:=by
 refine(lI:fD N false (aa N n) (.ref 483) vs σ=_).trans ?_
 unfold kb
 simp only[show¬((483:Nat)=245) by decide,show¬((483:Nat)=53) by decide,show¬((483:Nat)=472) by decide,show¬((483:Nat)=269) by decide,show¬((483:Nat)=496) by decide,show¬((483:Nat)=503) by decide,if_false]
 rw[show aM.find? (fun d=>d.addr==(483:Nat))=some aT from Ak]
 rfl
theorem Am:aT∈aM:=by unfold aM;simp
theorem Bh(g:bz G):∀n,fU G (aa N n) (2 * n)∧∀(x:Fx) as σ vs us,x.Ok G→2 * n≤x.lv→aj (VR as) vs us→kj G x as σ (call (.ref 483) us) VR ((aa N n).prim (.ref 483) vs σ)
 |0=>⟨oG g fun x as σ w vs us ok hl hu=>trivial,fun x as σ vs us ok hl hu=>trivial⟩
 |n+1=>by
  obtain⟨h1,h2⟩:=Bh g n
  refine⟨oG g fun x as σ w vs us ok hl hu=>m6 (top:=false) g h1 h2 (fun q=>by cases q) ok hl hu,fun x as σ vs us ok hl hu=>?_⟩
  rw[Al]
  exact ul g h1 Am ok (le_of_succ_le hl) hu
theorem yc(g:bz G):fU G (aP N) 40:=by
 obtain⟨h1,h2⟩:=Bh (N:=N) g 19
 exact oG g fun x as σ w vs us ok hl hu=>m6 g h1 h2 (fun z x ok hl=>by have:=ok.most;exact Nat.le_antisymm this hl) ok hl hu
end
noncomputable def qh(v:Value):Bool:=match v with
 | .type n=>n=="list"
 |_=>false
noncomputable def jE(o:Obj):Bool:=match o.data with
 | .seq items _=>!(qh o.cls)||(match items.toList with
  | .int _ _::_=>false
  | []=>false
  |_=>true)
 |_=>true
theorem qi{h:Heap}{a b:Addr}{o:Obj}{items:Array Value}(hL:h.IsList a items)(e:h.get? b=some o)(hn:o.cls=.type "list"→∀n,o.data≠.seq items n):(hideAll h [a]).get? b=some o:=by
 refine hideAll_get _ e fun q=>?_
 obtain rfl:=mem_singleton.mp q
 obtain⟨o',ho',hc,n,hd'⟩:=hL
 rw[e] at ho';cases ho'
 exact hn hc n hd'
set_option tactic.hygienic true in
theorem iu{α:Type}:∀{l:List (Addr×α)} {a:Addr} {o:α},l.lookup a=some o→(a,o)∈l
 |(b,u)::l,a,o,h=>by
  rw[lookup_cons] at h
  split at h
  ·rename_i e;cases h;rw[beq_iff_eq.mp e];exact .head _
  ·exact .tail _ (iu h)
theorem C1{K:Frag}(hK:(K.all fun q=>jE q.2)=true){h:Heap}(KX:K.In h){a:Addr}{vs:List Value}{ns:List Int}(hL:h.IsList a vs.toArray)(hI:IntsAre vs ns):K.In (hideAll h [a]):=by
 intro b o e
 refine qi hL (KX b o e) fun hc n hd'=>?_
 have:=all_eq_true.mp hK (b,o) (iu e)
 unfold jE qh at this
 dsimp only at this
 rw[hd',hc] at this
 cases hI with
 |nil=>simp at this
 |cons k t _=>simp at this
noncomputable def go(h h':Heap):Prop:=∀b o,h.get? b=some o→(o.cls=.type "list"→∀items n,o.data≠.seq items n)→h'.get? b=some o
theorem vW{h:Heap}{a:Addr}{items:Array Value}(hL:h.IsList a items):go h (hideAll h [a]):=fun b o e hn=>qi hL e fun hc n=>hn hc items n
theorem go.ns{h h':Heap}(k:go h h'){a m}(x:h.Ns a m):h'.Ns a m:=by
 refine fh x fun o es ep e d r=>?_
 exact⟨o,es,ep,k _ _ e (fun z z z q=>by rw[d] at q;cases q),d,r⟩
theorem go.code{h h':Heap}(k:go h h'){c q}(x:h.CodeRec c q):h'.CodeRec c q:=by
 refine BC x fun c o vs t e g d r=>?_
 exact⟨c,o,vs,t,e,k _ _ g (fun z z z q=>by rw[d] at q;cases q),d,r⟩
theorem go.isCode{h h':Heap}(k:go h h'){c P ps}(x:h.IsCode c P ps):h'.IsCode c P ps:=by
 obtain⟨o,vs,file,tf,flags,tg,inF,text,tt,op,a,d,r2,r3,r4,r5,r6,b,d2,r⟩:=x
 exact⟨o,vs,file,tf,flags,tg,inF,text,tt,op,k _ _ a (fun z z z q=>by rw[d] at q;cases q),d,r2,r3,r4,r5,r6,k _ _ b (fun z z z q=>by rw[d2] at q;cases q),d2,r⟩
theorem go.table{h h':Heap}(k:go h h'){c P ps}(x:h.TableAt c P ps):h'.TableAt c P ps:=by
 obtain⟨⟨o,vs,a,hc,r⟩,t⟩:=x
 exact⟨⟨o,vs,k _ _ a (fun q=>by rw[hc] at q;exact absurd (Value.type.inj q) (by decide)),hc,r⟩,k _ _ t (fun q=>by cases q)⟩
theorem go.seer{h h':Heap}(k:go h h')(x:h.NoSeer):h'.NoSeer where
 statics:=by obtain⟨mc,a,b⟩:=x.statics;exact⟨mc,k.ns a,b⟩
 mods:=by obtain⟨mc,a,b⟩:=x.mods;exact⟨mc,k.ns a,b⟩
 imp:=by obtain⟨mc,a,b⟩:=x.imp;exact⟨mc,k.ns a,b⟩
 main:=by obtain⟨mg,bm,ob,a,b,c,d,e⟩:=x.main;exact⟨mg,bm,ob,k.ns a,b,k _ _ c (fun q=>by rw[d] at q;exact absurd (Value.type.inj q) (by decide)),d,e⟩
theorem go.tailQ{h h':Heap}(k:go h h'){bmB tl:List Value}(T:OwnTailQ h bmB tl):OwnTailQ h' bmB tl:=by
 induction T with
 |base=>exact .base
 |own hA hN hq _ ih=>exact .own (k _ _ hA (fun z z z q=>by cases q)) (k.ns hN) hq ih
theorem go.own{h h':Heap}(k:go h h'){x:Str}{C:Addr}{bmB:List Value}{newId:String}{mg:Str→Option Value}(O:OwnClsQ x C bmB newId mg h):OwnClsQ x C bmB newId mg h':=by
 obtain⟨b,bm,N,nm,q,bs,hdct,sn,sub,ab,col,dd,k0,k1,k2,k3,k5,mN,hC,hN,hq,T⟩:=O
 exact⟨b,bm,N,nm,q,bs,hdct,sn,sub,ab,col,dd,k0,k1,k2,k3,k5,mN,k _ _ hC (fun z z z q=>by cases q),k.ns hN,hq,k.tailQ T⟩
theorem go.top{p:Program}{loose:List Str}{mean:ExcName→Option Value}{mg mb:Str→Option Value}{h h':Heap}(k:go h h')(T:Top p loose mean mg mb h):Top p loose mean mg mb h' where
 g:=k.ns T.g
 b:=k.ns T.b
 nolimit:=by obtain⟨mc,a,b⟩:=T.nolimit;exact⟨mc,k.ns a,b⟩
 nodigits:=by obtain⟨mc,h1,h2⟩:=T.nodigits;exact⟨mc,k.ns h1,h2⟩
 fn:=fun d hd=>by obtain⟨a,o,pm,code,doc,h1,h2,h3,h4⟩:=T.fn d hd;exact⟨a,o,pm,code,doc,h1,k _ _ h2 (fun z z z q=>by rw[h3] at q;cases q),h3,k.code h4⟩
 own:=fun o ho=>by obtain⟨C,O,hm⟩:=T.own o ho;exact⟨C,k.own O,hm⟩
 const:=T.const
 free:=T.free
 builtins:=T.builtins
 tab:=fun d hd=>by obtain⟨a,o,fd,c,P,h1,h2,h3,h4,h5,h6⟩:=T.tab d hd;exact⟨a,o,fd,c,P,h1,k _ _ h2 (fun z z z q=>by rw[h3] at q;cases q),h3,h4,k.isCode h5,k.table h6⟩
 bmain:=by obtain⟨bm,ob,h1,h2,h3,h4,r⟩:=T.bmain;exact⟨bm,ob,h1,h2,k _ _ h3 (fun q=>by rw[h4] at q;exact absurd (Value.type.inj q) (by decide)),h4,r⟩
 seer:=fun hi=>k.seer (T.seer hi)
noncomputable def dl(h:Heap):Frag:=(h.objs.toList.zipIdx.map fun x=>(x.2,x.1)).filter fun q=>jE q.2&&(match q.2.data with | .freed=>false|_=>true)
noncomputable def IX{β:Type}(s:SharedT)(f:Frag→β):β:=D0 s fun s=>kY (dl s.heap) f
theorem Hj{β:Type}(s:SharedT)(f:Frag→β):IX s f=f (dl s.abs.heap):=(wF _ _).trans (jk _ _)
noncomputable def EW(K:Frag):Bool:=da.all (cJ K)&&(cJ K ("LuaSyntaxError",.sta (.ref 87))&&((gf K 472 gH&&(gf K 269 iT&&(gf K 53 fu&&uc K 472 eV)))&&
 ((dF K 188 (ao.map .bytes)&&(dF K 189 (cY.map .bytes)&&dF K 484 (pieces.map .bytes)))&&
 ((makesIn K 472&&(makesIn K 269&&(findIn K (.ref 472) "__init__"==some (some (.ref 287))&&(findIn K (.ref 269) "__init__"==some (some (.ref 266))&&
  (typeIn K (.ref 287)==some (.type "function")&&typeIn K (.ref 266)==some (.type "function"))))))&&
 (makesIn K 53&&(findIn K (.ref 53) "__init__"==some (some (.ref 36))&&typeIn K (.ref 36)==some (.type "function")))))))
noncomputable def EX(K:Frag):Bool:=(aM.all (fun d=>keepIn K (.ref d.addr))&&(keepIn K (.ref 472)&&(keepIn K (.ref 269)&&(keepIn K (.ref 53)&&(keepIn K (.ref 245)&&(keepIn K (.ref 496)&&keepIn K (.ref 503)))))))&&
 (oA K 71 87&&(ue K 87 71 ud&&(sF K&&((lH K&&iX K)&&((sB K&&oC K)&&((qf K&&lK K)&&
 (nsIn K mainGlobals "law"==some (some (.ref 517))&&(K.lookup 517).isSome)))))))
noncomputable def jF(K:Frag):Bool:=aM.all (ub K cX)&&(EW K&&EX K)
noncomputable def IY(s:Stmt):List Stmt:=@Stmt.casesOn (fun z=>List Stmt) s (fun z z b z z z z z z z=>b) (fun z z z z z z z z z z=>[]) (fun z z z z z z z z z z z=>[]) (fun z z=>[]) (fun z z=>[]) (fun z z z=>[]) (fun z z z z z z z=>[]) (fun z z z z=>[]) (fun z z z z z=>[]) (fun z z z z z=>[]) (fun z z z z z=>[]) (fun z z z z=>[]) (fun z z z z=>[]) (fun z z z=>[]) (fun z z z=>[]) (fun z z z=>[]) (fun z z z=>[]) (fun z z z z z=>[]) (fun z z z z z=>[]) (fun z z z=>[]) (fun z z=>[]) (fun z z z z=>[]) (fun z z=>[]) (fun z z=>[]) (fun z z=>[]) (fun z=>[]) (fun z=>[]) (fun z=>[])
noncomputable def jG(i:Nat):List Stmt:=(pw.main.body[i]?.map IY).getD []
noncomputable def lL(K:Frag):List (Option (List Stmt)):=[fy K 496,fy K 245,fy K 503]
noncomputable def gK:List (Option (List Stmt)):=[some (jG 69),some (jG 61),some (jG 70)]
theorem vX:iW (jG 69):=fun P k=>k _ _ _ _ _ _ _ _ _ _ _ _ _ _ _ _ _ _ _ _ _ rfl rfl rfl rfl
theorem qj:fA (jG 61):=fun P k=>k _ _ _ _ _ _ _ _ _ _ _ _ _ _ _ _ _ _ _ _ rfl
theorem qk:lJ (jG 70):=fun P k=>k _ _ _ _ _ _ _ _ _ _ rfl (by intro h;cases h)
theorem Hk(w:World)(os:OsState):(fin w os).map (fun s=>D0 s fun s=>((staticsOk (importedModules pw.main.body) (boot_heap w.params) s.heap&&namesBound pw s.heap&&gensDone s&&laidKept (boot_heap w.params) s.heap),
  kY (dl s.heap) fun K=>(jF K,(fun(S:Setting) (v:Value)=>fC K S v,lL K))))=some (true,(true,(fun z v=>some (bL.zip (v::dG)),gK))):=by
 rw[AV];kernel_rfl
theorem ql{h:Heap}{a:Addr}{o:Obj}(m:(a,o)∈dl h):h.get? a=some o∧jE o=true:=by
 unfold dl at m
 obtain⟨m1,m2⟩:=mem_filter.mp m
 obtain⟨⟨u,i⟩,m3,e⟩:=mem_map.mp m1
 obtain⟨rfl,rfl⟩:i=a∧u=o:=Prod.mk.inj e
 obtain⟨_,_,m4⟩:=List.mem_zipIdx m3
 simp only[and_eq_true] at m2
 refine⟨?_,m2.1⟩
 unfold Heap.get?
 rw[show h.objs[i]? =some u by rw[m4];simp]
 obtain⟨c,d,dt,sl⟩:=u
 cases dt<;>first|rfl|cases m2.2
noncomputable def YP(w:World)(h:Heap):Prop:=∃K:Frag,K.In h∧jF K=true∧(∀S v,fC K S v=some (bL.zip (v::dG)))∧lL K=gK∧K.all (fun q=>jE q.2)=true
theorem An{p q:Program}{loose:List Str}{β:Type}{cA:Frag→Bool}{cB:Frag→β}{b:β}{N m₀:Nat}{H₀:Params→Heap}{gs₀:Array GenState}{d₀:Drawn}{k₀:Nat}{fin:World→OsState→Option SharedT}
  (open_:∀w:World,(fencedOpening treeTable p w N).map (fun s=>(s.heap,s.gens,s.drawn,s.toks))=some (H₀ w.params,gs₀,d₀,k₀))
  (size:∀P,((H₀ P).isNs mainGlobals&&gs₀.size==0,(H₀ P).objs.size)=(true,m₀))
  (run:∀w os s,fin w os=some s→topRun treeTable p w m₀ ((H₀ w.params).nsMap mainGlobals "__annotations__") N ⟨H₀ w.params,gs₀,d₀,k₀,os⟩ (topStub p)=some s.abs)
  (t1:∀w os,(fin w os).map (fun s=>D0 s fun s=>((staticsOk (importedModules p.main.body) (H₀ w.params) s.heap&&namesBound p s.heap&&gensDone s&&laidKept (H₀ w.params) s.heap),kY (dl s.heap) fun K=>(cA K,cB K)))=some (true,(true,b)))
  (t2:∀w os,(fin w os).map (fun s=>D0 s fun s=>openSeen q loose (importedModules p.main.body) (fun z=>true) true s)=some (openGood q loose)):
  LeftO p q loose (fun z=>true) (fun s=>(cA (dl s.heap),cB (dl s.heap))) (fun z=>(true,b)) N:=fun w=>by
 obtain⟨⟨h,gs,d,k,os⟩,e,e'⟩:=map_eq_some_iff.mp (open_ w)
 obtain⟨rfl,rfl,rfl,rfl⟩:h=H₀ w.params∧gs=gs₀∧d=d₀∧k=k₀:=by simpa using e'
 obtain⟨s,hs,h1⟩:=map_eq_some_iff.mp (t1 w os)
 obtain⟨s',hs',h2⟩:=map_eq_some_iff.mp (t2 w os)
 obtain rfl:s=s':=Option.some.inj (hs.symm.trans hs')
 rw[wF] at h1 h2
 rw[jk] at h1
 obtain⟨l1,l3⟩:=Prod.mk.inj h1
 obtain⟨z1,z2⟩:=Prod.mk.inj (size w.params)
 have t:topFrom treeTable p w N ⟨H₀ w.params,gs,d,k,os⟩=some s.abs:=by
  unfold topFrom
  dsimp only
  rw[z1,z2]
  dsimp only
  rw[run w os s hs]
  show(match staticsOk (importedModules p.main.body) (H₀ w.params) s.abs.heap&&namesBound p s.abs.heap&&gensDone s.abs&&laidKept (H₀ w.params) s.abs.heap with |true=>_|false=>_)=_
  rw[l1]
 unfold openEnds
 rw[e]
 show(topFrom treeTable p w N _).map _=_
 rw[t]
 exact congrArg some (Prod.ext h2 l3)
theorem left:LeftO pw q loose (fun z=>true) (fun s=>(jF (dl s.heap),(fun(S:Setting) (v:Value)=>fC (dl s.heap) S v,lL (dl s.heap)))) (fun z=>(true,(fun z v=>some (bL.zip (v::dG)),gK))) 6400:=
 An (cA:=jF) (cB:=fun K=>(fun(S:Setting) (v:Value)=>fC K S v,lL K)) (boot_open (N:=6400) zk (by decide) zl) vd zm Hk G2
theorem hd(call:AU q loose (fun z z=>True) YP PySem.Challenge.rw_sa0473_01.row.toRowW mv.1 mv.2 fun f vs=>PySem.call f vs):PySem.Challenge.rw_sa0473_01.Holds:=
 holds_law G3 fun k1=>Mine.PySem.W.holds_open left
  (fun w s e=>⟨dl s.heap,fun a o h=>(ql (iu h)).1,(Prod.mk.inj e).1,fun S v=>congrFun (congrFun (Prod.mk.inj (Prod.mk.inj e).2).1 S) v,(Prod.mk.inj (Prod.mk.inj e).2).2,all_eq_true.mpr fun x hx=>(ql (a:=x.1) (o:=x.2) hx).2⟩)
  (fun w h h' y k=>let ⟨K,a,b⟩:=y;⟨K,fun x o e=>k _ _ (a x o e),b⟩) (fun z z=>trivial) (fun z z z z z=>trivial) zn zo BH (fun s z=>recFacts_nil rfl) (by decide +kernel) k1 BI ⟨rfl,rfl,rfl,rfl,rfl,by decide +kernel⟩ zq call
end
section
section
set_option backward.match.sparseCases false
namespace P
noncomputable abbrev B:=List UInt8
inductive TV where
 |non|num (i:Int)|txt (b:B)
 deriving DecidableEq
noncomputable abbrev Tok:=Int×TV
noncomputable def isNl(c:UInt8):Bool:=c==10||c==13
noncomputable def isBl(c:UInt8):Bool:=c==32||(decide (9≤c)&&decide (c≤13))
noncomputable def isDig(c:UInt8):Bool:=decide (48≤c)&&decide (c≤57)
noncomputable def isLet(c:UInt8):Bool:=(decide (65≤c)&&decide (c≤90))||((decide (97≤c)&&decide (c≤122))||c==95)
noncomputable def isNam(c:UInt8):Bool:=isLet c||isDig c
noncomputable def digOf(c:UInt8):Int:=if 48≤c∧c≤57 then(c.toNat:Int) - 48 else if 97≤c∧c≤122 then(c.toNat:Int) - 87 else if 65≤c∧c≤90 then(c.toNat:Int) - 55 else -1
noncomputable def isBase(b:Int)(c:UInt8):Bool:=decide (0≤digOf c)&&decide (digOf c < b)
noncomputable def endLine:B→B
 | []=>[]
 | [_]=>[]
 |c::d::r=>if isNl d&&d != c then r else d::r
theorem endLine_le:∀r:B,(endLine r).length≤r.length - 1
 | []=>le_refl _
 | [_]=>le_refl _
 |c::d::r=>by
  show List.length (if(isNl d&&d != c)=true then r else d::r)≤(c::d::r).length - 1
  split<;>simp<;>lia
noncomputable def eqs:B→Nat
 | []=>0
 |c::r=>if c==61 then eqs r+1 else 0
noncomputable def eqRest:B→B
 | []=>[]
 |c::r=>if c==61 then eqRest r else c::r
theorem cz:∀r:B,(eqRest r).length≤r.length
 | []=>le_refl _
 |c::r=>by
  unfold eqRest;split
  ·exact le_trans (cz r) (le_succ _)
  ·exact le_refl _
theorem eqs_len:∀r:B,eqs r+(eqRest r).length=r.length
 | []=>rfl
 |c::r=>by
  unfold eqs eqRest
  split
  ·have:=eqs_len r;simp;lia
  ·simp
noncomputable def hd?(c:UInt8):B→Bool
 | []=>false
 |d::_=>d==c
noncomputable def gp(lv:Nat):Nat→B→B→Option (B×B)
 |0,_,_=>none
 |f+1,r,acc=>match r with
  | []=>none
  |c::t=>
   if c=91 then
    (if(hd? 91 (eqRest t)&&eqs t==lv)=true then
     (if lv=0 then none else gp lv f (eqRest t).tail (acc++(91::replicate lv 61)++[91]))
    else gp lv f (eqRest t) (acc++(91::replicate (eqs t) 61)))
   else if c=93 then
    (if(hd? 93 (eqRest t)&&eqs t==lv)=true then some (acc,(eqRest t).tail)
    else gp lv f (eqRest t) (acc++(93::replicate (eqs t) 61)))
   else if isNl c=true then gp lv f (endLine (c::t)) (acc++[10])
   else gp lv f t (acc++[c])
noncomputable def longGo(lv:Nat)(r acc:B):Option (B×B):=gp lv (r.length+1) r acc
theorem cK(r:B):r.tail.length≤r.length:=by cases r<;>simp
theorem qm(lv:Nat):∀(f g:Nat) (r acc:B),r.length < f→r.length < g→gp lv f r acc=gp lv g r acc
 |0,_,_,_,h,_=>dI h
 |_+1,0,_,_,_,h=>dI h
 |f+1,g+1,[],acc,h,k=>rfl
 |f+1,g+1,c::t,acc,h,k=>by
  have e:∀r acc,r.length≤t.length→gp lv f r acc=gp lv g r acc:=fun r acc q=>qm lv f g r acc (Nat.lt_of_le_of_lt q (lt_of_succ_lt_succ h)) (Nat.lt_of_le_of_lt q (lt_of_succ_lt_succ k))
  have e1:=cz t
  show(if c=91 then _ else _)=if c=91 then _ else _
  rw[e (eqRest t).tail _ (le_trans (cK _) e1),e (eqRest t) _ e1,e (eqRest t) _ e1,e (endLine (c::t)) _ (endLine_le (c::t)),e t _ (le_refl _)]
theorem eX(lv:Nat)(c:UInt8)(t acc:B):longGo lv (c::t) acc=if c=91 then
    (if(hd? 91 (eqRest t)&&eqs t==lv)=true then
     (if lv=0 then none else longGo lv (eqRest t).tail (acc++(91::replicate lv 61)++[91]))
    else longGo lv (eqRest t) (acc++(91::replicate (eqs t) 61)))
   else if c=93 then
    (if(hd? 93 (eqRest t)&&eqs t==lv)=true then some (acc,(eqRest t).tail)
    else longGo lv (eqRest t) (acc++(93::replicate (eqs t) 61)))
   else if isNl c=true then longGo lv (endLine (c::t)) (acc++[10])
   else longGo lv t (acc++[c]):=by
 have e:∀r acc,r.length≤t.length→gp lv (t.length+1) r acc=longGo lv r acc:=fun r acc q=>qm lv _ _ r acc (lt_succ_of_le q) (lt_succ_self _)
 have e1:=cz t
 rw[←e (eqRest t).tail _ (le_trans (cK _) e1),←e (eqRest t) _ e1,←e (eqRest t) _ e1,←e (endLine (c::t)) _ (endLine_le (c::t)),←e t _ (le_refl _)]
 rfl
@[elab_as_elim] theorem longGo_ind{lv:Nat}{M:B→B→Option (B×B)→Prop}(case1:∀acc,M [] acc none)(case2:∀acc t,(hd? 91 (eqRest t)&&eqs t==lv)=true→lv=0→M (91::t) acc none)
  (case3:∀acc t,(hd? 91 (eqRest t)&&eqs t==lv)=true→¬lv=0→M (eqRest t).tail (acc++(91::replicate lv 61)++[91]) (longGo lv (eqRest t).tail (acc++(91::replicate lv 61)++[91]))→M (91::t) acc (longGo lv (eqRest t).tail (acc++(91::replicate lv 61)++[91])))
  (case4:∀acc t,¬(hd? 91 (eqRest t)&&eqs t==lv)=true→M (eqRest t) (acc++(91::replicate (eqs t) 61)) (longGo lv (eqRest t) (acc++(91::replicate (eqs t) 61)))→M (91::t) acc (longGo lv (eqRest t) (acc++(91::replicate (eqs t) 61))))
  (case5:∀acc t,(hd? 93 (eqRest t)&&eqs t==lv)=true→M (93::t) acc (some (acc,(eqRest t).tail)))
  (case6:∀acc t,¬(hd? 93 (eqRest t)&&eqs t==lv)=true→M (eqRest t) (acc++(93::replicate (eqs t) 61)) (longGo lv (eqRest t) (acc++(93::replicate (eqs t) 61)))→M (93::t) acc (longGo lv (eqRest t) (acc++(93::replicate (eqs t) 61))))
  (case7:∀acc c t,¬c=91→¬c=93→isNl c=true→M (endLine (c::t)) (acc++[10]) (longGo lv (endLine (c::t)) (acc++[10]))→M (c::t) acc (longGo lv (endLine (c::t)) (acc++[10])))
  (case8:∀acc c t,¬c=91→¬c=93→¬isNl c=true→M t (acc++[c]) (longGo lv t (acc++[c]))→M (c::t) acc (longGo lv t (acc++[c]))) (r acc:B):M r acc (longGo lv r acc):=by
 have key:∀(n:Nat) (r acc:B),r.length≤n→M r acc (longGo lv r acc):=by
  intro n
  induction n with
  |zero=>intro r acc h;obtain rfl:=List.eq_nil_of_length_eq_zero (le_zero.mp h);exact case1 acc
  |succ n ih=>
   intro r acc h
   cases r with
   |nil=>exact case1 acc
   |cons c t=>
    have h:=Nat.le_of_succ_le_succ h
    have e1:=le_trans (cz t) h
    rw[eX]
    by_cases h1:c=91
    ·subst h1
     rw[if_pos rfl]
     by_cases h2:(hd? 91 (eqRest t)&&eqs t==lv)=true
     ·rw[if_pos h2]
      by_cases h3:lv=0
      ·rw[if_pos h3];exact case2 acc t h2 h3
      ·rw[if_neg h3];exact case3 acc t h2 h3 (ih _ _ (le_trans (cK _) e1))
     ·rw[if_neg h2];exact case4 acc t h2 (ih _ _ e1)
    ·rw[if_neg h1]
     by_cases h2:c=93
     ·subst h2
      rw[if_pos rfl]
      by_cases h2:(hd? 93 (eqRest t)&&eqs t==lv)=true
      ·rw[if_pos h2];exact case5 acc t h2
      ·rw[if_neg h2];exact case6 acc t h2 (ih _ _ e1)
     ·rw[if_neg h2]
      by_cases h3:isNl c=true
      ·rw[if_pos h3];exact case7 acc c t h1 h2 h3 (ih _ _ (le_trans (endLine_le (c::t)) h))
      ·rw[if_neg h3];exact case8 acc c t h1 h2 h3 (ih _ _ h)
 exact key _ r acc (le_refl _)
noncomputable def escSign(c:UInt8):UInt8:=if c=97 then 7 else if c=98 then 8 else if c=102 then 12 else if c=110 then 10 else if c=114 then 13 else if c=116 then 9 else if c=118 then 11 else c
noncomputable def digs3:Nat→Int→B→Int×B
 |0,v,r=>(v,r)
 |_+1,v,[]=>(v,[])
 |n+1,v,c::r=>if isDig c then digs3 n (10 * v+c.toNat - 48) r else(v,c::r)
theorem digs3_le:∀n v (r:B),(digs3 n v r).2.length≤r.length
 |0,_,_=>le_refl _
 |_+1,_,[]=>le_refl _
 |n+1,v,c::r=>by
  unfold digs3;split
  ·exact le_trans (digs3_le n _ r) (le_succ _)
  ·exact le_refl _
noncomputable def mH(q:UInt8):Nat→B→B→Option (B×B)
 |0,_,_=>none
 |f+1,r,acc=>match r with
 | []=>none
 |c::t=>
  if c=q then some (acc,t)
  else if isNl c=true then none
  else if c=92 then(match t with
   | []=>none
   |d::u=>
    if isNl d=true then mH q f (endLine (d::u)) (acc++[10])
    else if isDig d=true then(if(digs3 2 (d.toNat - 48) u).1 > 255 then none else mH q f (digs3 2 (d.toNat - 48) u).2 (acc++[UInt8.ofNat (digs3 2 (d.toNat - 48) u).1.toNat]))
    else mH q f u (acc++[escSign d]))
  else mH q f t (acc++[c])
noncomputable def strGo(q:UInt8)(r acc:B):Option (B×B):=mH q (r.length+1) r acc
theorem un(q:UInt8):∀(f g:Nat) (r acc:B),r.length < f→r.length < g→mH q f r acc=mH q g r acc
 |0,_,_,_,h,_=>dI h
 |_+1,0,_,_,_,h=>dI h
 |f+1,g+1,[],acc,h,k=>rfl
 |f+1,g+1,c::t,acc,h,k=>by
  have e:∀r acc,r.length≤t.length→mH q f r acc=mH q g r acc:=fun r acc z=>un q f g r acc (Nat.lt_of_le_of_lt z (lt_of_succ_lt_succ h)) (Nat.lt_of_le_of_lt z (lt_of_succ_lt_succ k))
  show(if c=q then _ else _)=if c=q then _ else _
  rw[e t _ (le_refl _)]
  cases t with
  |nil=>rfl
  |cons d u=>
   dsimp only
   have l:=le_succ u.length
   rw[e (endLine (d::u)) _ (le_trans (endLine_le (d::u)) l),e _ _ (le_trans (digs3_le 2 (d.toNat - 48) u) l),e u _ l]
theorem dh(q c:UInt8)(t acc:B):strGo q (c::t) acc=if c=q then some (acc,t)
  else if isNl c=true then none
  else if c=92 then(match t with
   | []=>none
   |d::u=>
    if isNl d=true then strGo q (endLine (d::u)) (acc++[10])
    else if isDig d=true then(if(digs3 2 (d.toNat - 48) u).1 > 255 then none else strGo q (digs3 2 (d.toNat - 48) u).2 (acc++[UInt8.ofNat (digs3 2 (d.toNat - 48) u).1.toNat]))
    else strGo q u (acc++[escSign d]))
  else strGo q t (acc++[c]):=by
 have e:∀r acc,r.length≤t.length→mH q (t.length+1) r acc=strGo q r acc:=fun r acc z=>un q _ _ r acc (lt_succ_of_le z) (lt_succ_self _)
 rw[←e t _ (le_refl _)]
 cases t with
 |nil=>rfl
 |cons d u=>
  dsimp only
  have l:=le_succ u.length
  rw[←e (endLine (d::u)) _ (le_trans (endLine_le (d::u)) l),←e _ _ (le_trans (digs3_le 2 (d.toNat - 48) u) l),←e u _ l]
  rfl
@[elab_as_elim] theorem strGo_ind{q:UInt8}{M:B→B→Option (B×B)→Prop}(case1:∀acc,M [] acc none)(case2:∀acc t,M (q::t) acc (some (acc,t)))(case3:∀acc c t,¬c=q→isNl c=true→M (c::t) acc none)
  (case4:∀acc,¬(92:UInt8)=q→M [92] acc none) (case5:∀acc d u,isNl d=true→¬(92:UInt8)=q→M (endLine (d::u)) (acc++[10]) (strGo q (endLine (d::u)) (acc++[10]))→M (92::d::u) acc (strGo q (endLine (d::u)) (acc++[10])))
  (case6:∀acc d u,¬isNl d=true→isDig d=true→(digs3 2 (d.toNat - 48) u).1 > 255→¬(92:UInt8)=q→M (92::d::u) acc none)
  (case7:∀acc d u,¬isNl d=true→isDig d=true→¬(digs3 2 (d.toNat - 48) u).1 > 255→¬(92:UInt8)=q→M (digs3 2 (d.toNat - 48) u).2 (acc++[UInt8.ofNat (digs3 2 (d.toNat - 48) u).1.toNat]) (strGo q (digs3 2 (d.toNat - 48) u).2 (acc++[UInt8.ofNat (digs3 2 (d.toNat - 48) u).1.toNat]))→M (92::d::u) acc (strGo q (digs3 2 (d.toNat - 48) u).2 (acc++[UInt8.ofNat (digs3 2 (d.toNat - 48) u).1.toNat])))
  (case8:∀acc d u,¬isNl d=true→¬isDig d=true→¬(92:UInt8)=q→M u (acc++[escSign d]) (strGo q u (acc++[escSign d]))→M (92::d::u) acc (strGo q u (acc++[escSign d])))
  (case9:∀acc c t,¬c=q→¬isNl c=true→¬c=92→M t (acc++[c]) (strGo q t (acc++[c]))→M (c::t) acc (strGo q t (acc++[c]))) (r acc:B):M r acc (strGo q r acc):=by
 have key:∀(n:Nat) (r acc:B),r.length≤n→M r acc (strGo q r acc):=by
  intro n
  induction n with
  |zero=>intro r acc h;obtain rfl:=List.eq_nil_of_length_eq_zero (le_zero.mp h);exact case1 acc
  |succ n ih=>
   intro r acc h
   cases r with
   |nil=>exact case1 acc
   |cons c t=>
    have z:=Nat.le_of_succ_le_succ h
    rw[dh]
    by_cases h1:c=q
    ·subst h1;rw[if_pos rfl];exact case2 acc t
    ·rw[if_neg h1]
     by_cases h2:isNl c=true
     ·rw[if_pos h2];exact case3 acc c t h1 h2
     ·rw[if_neg h2]
      by_cases h3:c=92
      ·subst h3
       rw[if_pos rfl]
       cases t with
       |nil=>exact case4 acc h1
       |cons d u=>
        have l:=le_of_succ_le z
        dsimp only
        by_cases h4:isNl d=true
        ·rw[if_pos h4];exact case5 acc d u h4 h1 (ih _ _ (le_trans (endLine_le (d::u)) l))
        ·rw[if_neg h4]
         by_cases h5:isDig d=true
         ·rw[if_pos h5]
          by_cases h6:(digs3 2 (d.toNat - 48) u).1 > 255
          ·rw[if_pos h6];exact case6 acc d u h4 h5 h6 h1
          ·rw[if_neg h6];exact case7 acc d u h4 h5 h6 h1 (ih _ _ (le_trans (digs3_le 2 (d.toNat - 48) u) l))
         ·rw[if_neg h5];exact case8 acc d u h4 h5 h1 (ih _ _ l)
      ·rw[if_neg h3];exact case9 acc c t h1 h2 h3 (ih _ _ z)
 exact key _ r acc (le_refl _)
noncomputable def toEol:B→B
 | []=>[]
 |c::r=>if isNl c then c::r else toEol r
theorem lM:∀r:B,(toEol r).length≤r.length
 | []=>le_refl _
 |c::r=>by
  unfold toEol;split
  ·exact le_refl _
  ·exact le_trans (lM r) (le_succ _)
noncomputable def nlOff:B→B
 | []=>[]
 |c::r=>if isNl c then endLine (c::r) else c::r
theorem nlOff_le(r:B):(nlOff r).length≤r.length:=by
 unfold nlOff;split
 ·exact le_refl _
 ·split
  ·have:=endLine_le;exact le_trans (this _) (sub_le _ _)
  ·exact le_refl _
theorem jH(lv:Nat)(r acc:B):∀(x y:B),longGo lv r acc=some (x,y)→y.length+1≤r.length∧x.length+y.length≤acc.length+r.length:=by
 refine longGo_ind ?case1 ?case2 ?case3 ?case4 ?case5 ?case6 ?case7 ?case8 r acc
 case case1=>intro _ x y h;cases h
 case case2=>intro _ _ _ _ x y h;cases h
 case case3=>
  intro acc t h1 h2 ih
  intro x y h
  have:=ih _ _ h
  have e1:=cz t
  have e2:eqs t+(eqRest t).length=t.length:=eqs_len t
  have e3:(eqRest t).tail.length+1=(eqRest t).length:=by
   simp only[and_eq_true] at h1
   cases q:eqRest t with
   |nil=>rw[q] at h1;cases h1.1
   |cons a b=>simp
  simp only[and_eq_true,beq_iff_eq] at h1
  simp at this⊢;lia
 case case4=>
  intro acc t h1 ih
  intro x y h
  have:=ih _ _ h
  have e2:eqs t+(eqRest t).length=t.length:=eqs_len t
  simp at this⊢;lia
 case case5=>
  intro acc t h1
  intro x y h
  cases h
  have e2:eqs t+(eqRest t).length=t.length:=eqs_len t
  simp;lia
 case case6=>
  intro acc t h1 ih
  intro x y h
  have:=ih _ _ h
  have e2:eqs t+(eqRest t).length=t.length:=eqs_len t
  simp at this⊢;lia
 case case7=>
  intro acc c t h1 h2 h3 ih
  intro x y h
  have:=ih _ _ h
  have e:=endLine_le (c::t)
  simp at this e⊢;lia
 case case8=>
  intro acc c t h1 h2 h3 ih
  intro x y h
  have:=ih _ _ h
  simp at this⊢;lia
theorem qo(q:UInt8)(r acc:B):∀(x y:B),strGo q r acc=some (x,y)→y.length+1≤r.length∧x.length+y.length≤acc.length+r.length:=by
 refine strGo_ind ?case1 ?case2 ?case3 ?case4 ?case5 ?case6 ?case7 ?case8 ?case9 r acc
 case case1=>intro _ x y h;cases h
 case case2=>intro _ _ x y h;cases h;simp
 case case3=>intro _ _ _ _ _ x y h;cases h
 case case4=>intro _ _ x y h;cases h
 case case5=>
  intro acc d u h1 h2 ih
  intro x y h
  have:=ih _ _ h
  have e:=endLine_le (d::u)
  simp at this e⊢;lia
 case case6=>intro _ _ _ _ _ _ _ x y h;cases h
 case case7=>
  intro acc d u h1 h2 h3 h4 ih
  intro x y h
  have:=ih _ _ h
  have e:=digs3_le 2 (d.toNat - 48) u
  simp at this⊢;lia
 case case8=>
  intro acc d u h1 h2 h3 ih
  intro x y h
  have:=ih _ _ h
  simp at this⊢;lia
 case case9=>
  intro acc c t h1 h2 h3 ih
  intro x y h
  have:=ih _ _ h
  simp at this⊢;lia
noncomputable def comEnd(t:B):Option B:=match t with
 | []=>some []
 |c::u=>if c=91 then(if hd? 91 (eqRest u) then(longGo (eqs u) (nlOff (eqRest u).tail) []).map (·.2) else some (toEol u)) else some (toEol (c::u))
set_option tactic.hygienic true in
theorem comEnd_le{t v:B}(h:comEnd t=some v):v.length≤t.length:=by
 unfold comEnd at h
 split at h
 ·cases h;exact le_refl _
 ·rename_i c u
  split at h
  ·split at h
   ·obtain⟨p,h1,rfl⟩:=map_eq_some_iff.mp h
    have e1:=(jH _ _ _ _ _ h1).1
    have e2:=nlOff_le (eqRest u).tail
    have e3:=cz u
    simp at e1 e2 e3⊢;lia
   ·cases h
    have:=lM u
    simp;exact le_succ_of_le this
  ·cases h
   exact lM _
noncomputable def hJ:Nat→B→Option B
 |0,_=>none
 |f+1,r=>match r with
  | []=>some []
  |c::t=>if isBl c=true then hJ f t else if(c==45&&hd? 45 t)=true then(comEnd t.tail).bind (hJ f) else some (c::t)
noncomputable def skip(r:B):Option B:=hJ (r.length+1) r
theorem qp:∀(f g:Nat) (r:B),r.length < f→r.length < g→hJ f r=hJ g r
 |0,_,_,h,_=>dI h
 |_+1,0,_,_,h=>dI h
 |f+1,g+1,[],h,k=>rfl
 |f+1,g+1,c::t,h,k=>by
  have e:∀r,r.length≤t.length→hJ f r=hJ g r:=fun r q=>qp f g r (Nat.lt_of_le_of_lt q (lt_of_succ_lt_succ h)) (Nat.lt_of_le_of_lt q (lt_of_succ_lt_succ k))
  show(if isBl c=true then _ else if(c==45&&hd? 45 t)=true then(comEnd t.tail).bind _ else _)=if isBl c=true then _ else if(c==45&&hd? 45 t)=true then(comEnd t.tail).bind _ else _
  rw[e t (le_refl _)]
  cases hc:comEnd t.tail with
  |none=>rfl
  |some v=>rw[bind_some,bind_some,e v (le_trans (comEnd_le hc) (cK t))]
theorem kO(c:UInt8)(t:B):skip (c::t)=if isBl c=true then skip t else if(c==45&&hd? 45 t)=true then(comEnd t.tail).bind skip else some (c::t):=by
 have e:∀r,r.length≤t.length→hJ (t.length+1) r=skip r:=fun r q=>qp _ _ r (lt_succ_of_le q) (lt_succ_self _)
 show(if isBl c=true then hJ (t.length+1) t else if(c==45&&hd? 45 t)=true then(comEnd t.tail).bind (hJ (t.length+1)) else _)=_
 rw[e t (le_refl _)]
 cases hc:comEnd t.tail with
 |none=>rfl
 |some v=>rw[bind_some,bind_some,e v (le_trans (comEnd_le hc) (cK t))]
noncomputable def span(p:UInt8→Bool):B→B×B
 | []=>([],[])
 |c::r=>if p c then((c::(span p r).1),(span p r).2) else([],c::r)
theorem span_eq(p:UInt8→Bool):∀r:B,(span p r).1++(span p r).2=r
 | []=>rfl
 |c::r=>by
  unfold span;split
  ·simp[span_eq p r]
  ·rfl
noncomputable def expo:B→B×B
 | []=>([],[])
 |c::r=>if c==69||c==101 then(match r with
  | []=>([c],[])
  |d::u=>if d==43||d==45 then([c,d],u) else([c],d::u)) else([],c::r)
theorem expo_eq:∀r:B,(expo r).1++(expo r).2=r
 | []=>rfl
 | [c]=>by
  unfold expo
  by_cases h:(c==69||c==101)=true
  ·simp only[h,if_true];rfl
  ·simp only[h];rfl
 |c::d::u=>by
  unfold expo
  by_cases h:(c==69||c==101)=true
  ·simp only[h,if_true]
   by_cases h2:(d==43||d==45)=true
   ·simp only[h2,if_true];rfl
   ·simp only[h2];rfl
  ·simp only[h];rfl
noncomputable def numSpan(r:B):B×B:=
 let a:=span (fun c=>isDig c||c==46) r
 let b:=expo a.2
 let e:=span isNam b.2
 (a.1++b.1++e.1,e.2)
theorem numSpan_eq(r:B):(numSpan r).1++(numSpan r).2=r:=by
 unfold numSpan
 simp only[append_assoc]
 rw[span_eq,expo_eq,span_eq]
noncomputable def kP(base:Int)(ds:B):Int:=ds.foldl (fun n c=>(n * base+digOf c) % 2 ^ 64) 0
noncomputable def wrap64(n:Int):Int:=if n≥2 ^ 63 then n - 2 ^ 64 else n
noncomputable def numBase(base:Int)(t:B):Option Int:=if t.all (isBase base)&&!t.isEmpty then some (wrap64 (kP base t)) else none
noncomputable def numVal(t:B):Option Int:=match t with
 |48::x::d::r=>if(x==120||x==88)&&isBase 16 d then numBase 16 (d::r) else numBase 10 t
 |_=>numBase 10 t
noncomputable def qq:List B:=ao
noncomputable def resKinds:List (B×Int):=qq.zipIdx.map fun q=>(q.1,257+(q.2:Int))
noncomputable def wordTok(w:B):Tok:=match resKinds.lookup w with
 |some k=>(k,.non)
 |none=>(285,.txt w)
noncomputable def cmpKind(c:UInt8):Int:=if c=61 then 280 else if c=60 then 282 else if c=62 then 281 else 283
noncomputable def readTok(r:B):Option (Tok×B):=match r with
 | []=>none
 |c::t=>
  if c=34∨c=39 then(strGo c t []).map fun p=>((286,.txt p.1),p.2)
  else if c=91 then
   (if hd? 91 (eqRest t) then(longGo (eqs t) (nlOff (eqRest t).tail) []).map fun p=>((286,.txt p.1),p.2)
   else if 0 < eqs t then none else some ((91,.non),t))
  else if c=46 then
   (if hd? 46 t then(if hd? 46 t.tail then some ((279,.non),t.tail.tail) else some ((278,.non),t.tail))
   else(match t with
    |d::_=>if isDig d then(numVal (46::(numSpan t).1)).map fun n=>((284,.num n),(numSpan t).2) else some ((46,.non),t)
    | []=>some ((46,.non),t)))
  else if isDig c then(numVal (numSpan (c::t)).1).map fun n=>((284,.num n),(numSpan (c::t)).2)
  else if isLet c then some (wordTok (span isNam (c::t)).1,(span isNam (c::t)).2)
  else if c=45 then some ((45,.non),t)
  else if c=61∨c=60∨c=62∨c=126 then(if hd? 61 t then some ((cmpKind c,.non),t.tail) else some (((c.toNat:Int),.non),t))
  else some (((c.toNat:Int),.non),t)
end P
end
namespace P
theorem skip_le(r:B){v:B}(h:skip r=some v):v.length≤r.length:=by
 have key:∀(n:Nat) (r v:B),r.length≤n→skip r=some v→v.length≤r.length:=by
  intro n
  induction n with
  |zero=>intro r v l h;obtain rfl:=List.eq_nil_of_length_eq_zero (le_zero.mp l);cases h;exact le_refl _
  |succ n ih=>
   intro r v l h
   cases r with
   |nil=>cases h;exact le_refl _
   |cons c t=>
    have l':=Nat.le_of_succ_le_succ l
    rw[kO] at h
    split at h
    ·exact le_succ_of_le (ih t v l' h)
    ·split at h
     ·refine ak (bind_eq_some_iff.mp h) fun w h1 h2=>?_
      have q:=le_trans (comEnd_le h1) (cK t)
      exact le_succ_of_le (le_trans (ih w v (le_trans q l') h2) q)
     ·cases h;exact le_refl _
 exact key _ r v (le_refl _) h
theorem uq(p:UInt8→Bool)(r:B):(span p r).2.length≤r.length:=by
 have:=congrArg List.length (span_eq p r)
 simp at this;exact GW this
theorem qr{p:UInt8→Bool}{c:UInt8}{t:B}(h:p c=true):(span p (c::t)).2.length≤t.length:=by
 unfold span;rw[if_pos h];exact uq p t
theorem Ao(r:B):(expo r).2.length≤r.length:=by
 have:=congrArg List.length (expo_eq r)
 simp at this;exact GW this
theorem sJ(r:B):(numSpan r).2.length≤r.length:=by
 have:=congrArg List.length (numSpan_eq r)
 simp at this;exact GW this
theorem qt{c:UInt8}{t:B}(h:isDig c=true):(numSpan (c::t)).2.length≤t.length:=by
 unfold numSpan
 dsimp only
 have h1:=qr (p:=fun c=>isDig c||c==46) (t:=t) (c:=c) (by simp[h])
 have h2:=Ao (span (fun c=>isDig c||c==46) (c::t)).2
 have h3:=uq isNam (expo (span (fun c=>isDig c||c==46) (c::t)).2).2
 lia
theorem lN(c:UInt8):257≤cmpKind c∧cmpKind c < 284:=by
 unfold cmpKind
 refine⟨?_,?_⟩<;>repeat' split
 all_goals decide
section
variable {α β:Type}{p:Prop}{_:Decidable p}{a b a' b':Option α}{r r':α}{P:Prop}
theorem eY(h:(if p then a else b)=some r)(k:p→a=some r→P)(l:¬p→b=some r→P):P:=by
 by_cases q:p
 ·rw[if_pos q] at h;exact k q h
 ·rw[if_neg q] at h;exact l q h
theorem eZ(h:(if p then a else b)=some r)(k:p→a=some r→a'=some r')(l:¬p→b=some r→b'=some r'):(if p then a' else b')=some r':=by
 by_cases q:p
 ·rw[if_pos q] at h⊢;exact k q h
 ·rw[if_neg q] at h⊢;exact l q h
theorem kc{o:Option β}{f:β→α}(h:o.map f=some r)(k:∀p,o=some p→f p=r→P):P:=by
 refine ak (map_eq_some_iff.mp h) fun p h1 h2=>?_
 exact k p h1 h2
@[elab_as_elim] theorem some_i{w:α}{M:α→Prop}(h:some w=some r)(k:M w):M r:=Option.some.inj h ▸ k
end
noncomputable def EY(t:B):Option (Tok×B):=if hd? 91 (eqRest t) then(longGo (eqs t) (nlOff (eqRest t).tail) []).map fun p=>((286,.txt p.1),p.2) else if 0 < eqs t then none else some ((91,.non),t)
noncomputable def Hl(t:B):Option (Tok×B):=match t with
 |d::_=>if isDig d then(numVal (46::(numSpan t).1)).map fun n=>((284,.num n),(numSpan t).2) else some ((46,.non),t)
 | []=>some ((46,.non),t)
noncomputable def yd(t:B):Option (Tok×B):=if hd? 46 t then(if hd? 46 t.tail then some ((279,.non),t.tail.tail) else some ((278,.non),t.tail)) else Hl t
noncomputable def ye(c:UInt8)(t:B):Option (Tok×B):=if c=45 then some ((45,.non),t) else if c=61∨c=60∨c=62∨c=126 then(if hd? 61 t then some ((cmpKind c,.non),t.tail) else some (((c.toNat:Int),.non),t)) else some (((c.toNat:Int),.non),t)
noncomputable def Ap(c:UInt8)(t:B):Option (Tok×B):=if c=34∨c=39 then(strGo c t []).map fun p=>((286,.txt p.1),p.2) else if c=91 then EY t else if c=46 then yd t
 else if isDig c then(numVal (numSpan (c::t)).1).map fun n=>((284,.num n),(numSpan (c::t)).2) else if isLet c then some (wordTok (span isNam (c::t)).1,(span isNam (c::t)).2) else ye c t
theorem GM(c:UInt8)(t:B):readTok (c::t)=Ap c t:=rfl
section
variable {M:B→Tok×B→Prop}{c:UInt8}{t r:B}{p:Tok×B}
theorem EZ(h:EY t=some p)(long:∀p,longGo (eqs t) (nlOff (eqRest t).tail) []=some p→M (91::t) ((286,.txt p.1),p.2))(one:M (91::t) ((91,.non),t)):M (91::t) p:=
 eY h (fun z h=>kc h fun q h1 e=>e ▸ long q h1) fun z h=>eY h (fun z h=>nomatch h) fun z h=>some_i h one
theorem C2(h:yd t=some p)(one:M (46::t) ((46,.non),t))(two:M (46::t) ((278,.non),t.tail))(three:M (46::t) ((279,.non),t.tail.tail))(dnum:∀n,numVal (46::(numSpan t).1)=some n→M (46::t) ((284,.num n),(numSpan t).2)):M (46::t) p:=by
 refine eY h (fun z h=>eY h (fun z h=>some_i h three) fun z h=>some_i h two) fun z h=>?_
 cases t with
 |nil=>exact some_i h one
 |cons d u=>exact eY (p:=isDig d=true) h (fun z h=>kc h fun q h1 e=>e ▸ dnum q h1) fun z h=>some_i h one
theorem C3{Q:Tok×B→Prop}(h:ye c t=some p)(one:Q (((c.toNat:Int),.non),t))(two:Q ((cmpKind c,.non),t.tail)):Q p:=
 eY h (fun e h=>some_i h (by rw[e] at one;exact one)) fun z h=>eY h (fun z h=>eY h (fun z h=>some_i h two) fun z h=>some_i h one) fun z h=>some_i h one
theorem readTok_i(h:readTok r=some p)(str:∀c t p,strGo c t []=some p→M (c::t) ((286,.txt p.1),p.2))(long:∀t p,longGo (eqs t) (nlOff (eqRest t).tail) []=some p→M (91::t) ((286,.txt p.1),p.2))
  (one:∀(c:UInt8) t,¬(c=34∨c=39)→¬isDig c=true→¬isLet c=true→M (c::t) (((c.toNat:Int),.non),t)) (two:∀c t n,257≤n→n < 284→M (c::t) ((n,.non),t.tail)) (three:∀c t,M (c::t) ((279,.non),t.tail.tail))
  (dnum:∀t n,numVal (46::(numSpan t).1)=some n→M (46::t) ((284,.num n),(numSpan t).2)) (num:∀c t n,isDig c=true→numVal (numSpan (c::t)).1=some n→M (c::t) ((284,.num n),(numSpan (c::t)).2))
  (word:∀c t,isLet c=true→M (c::t) (wordTok (span isNam (c::t)).1,(span isNam (c::t)).2)):M r p:=by
 cases r with
 |nil=>cases h
 |cons c t=>
  exact eY (show Ap c t=some p from h) (fun z h=>kc h fun q h1 e=>e ▸ str c t q h1) fun c0 h=>eY h (fun e h=>e ▸ EZ h (long t) (one 91 t (by decide) (by decide) (by decide))) fun z h=>eY h (fun e h=>e ▸ C2 h (one 46 t (by decide) (by decide) (by decide)) (two 46 t 278 (by decide) (by decide)) (three 46 t) (dnum t)) fun z h=>
   eY h (fun c3 h=>kc h fun q h1 e=>e ▸ num c t q c3 h1) fun c3 h=>eY h (fun c4 h=>some_i h (word c t c4)) fun c4 h=>C3 h (one c t c0 c3 c4) (two c t _ (lN c).1 (lN c).2)
end
theorem readTok_le{r v:B}{k:Tok}(h:readTok r=some (k,v)):v.length+1≤r.length:=by
 refine readTok_i (M:=fun r p=>p.2.length+1≤r.length) h (fun c t p h=>?_) (fun t p h=>?_) (fun z z z z z=>le_refl _) (fun c t z z z=>succ_le_succ (cK t)) (fun c t=>succ_le_succ (le_trans (cK _) (cK t))) (fun t n z=>succ_le_succ (sJ t)) (fun c t n h z=>succ_le_succ (qt h)) fun c t h=>succ_le_succ (qr (by unfold isNam;rw[h];rfl))
 ·exact succ_le_succ (le_of_succ_le (qo _ _ _ _ _ h).1)
 ·exact succ_le_succ (le_trans (le_of_succ_le (jH _ _ _ _ _ h).1) (le_trans (nlOff_le _) (le_trans (cK _) (cz t))))
noncomputable def sK:Nat→B→Option (List Tok)
 |0,_=>none
 |f+1,r=>match skip r with
  |none=>none
  |some []=>some []
  |some (c::t)=>match readTok (c::t) with
   |none=>none
   |some (k,v)=>(sK f v).map (k::·)
noncomputable def lexAll(r:B):Option (List Tok):=sK (r.length+1) r
theorem ur:∀(f g:Nat) (r:B),r.length < f→r.length < g→sK f r=sK g r
 |0,_,_,h,_=>dI h
 |_+1,0,_,_,h=>dI h
 |f+1,g+1,r,h,k=>by
  unfold sK
  cases hs:skip r with
  |none=>rfl
  |some w=>
   cases w with
   |nil=>rfl
   |cons c t=>
    dsimp only
    cases hr:readTok (c::t) with
    |none=>rfl
    |some p=>
     obtain⟨k',v⟩:=p
     have e1:=skip_le _ hs
     have e2:=readTok_le hr
     have q:v.length < r.length:=Nat.lt_of_lt_of_le e2 e1
     dsimp only
     rw[ur f g v (Nat.lt_of_lt_of_le q (le_of_lt_succ h)) (Nat.lt_of_lt_of_le q (le_of_lt_succ k))]
theorem vY(r:B):lexAll r=match skip r with
 |none=>none
 |some []=>some []
 |some (c::t)=>match readTok (c::t) with
  |none=>none
  |some (k,v)=>(lexAll v).map (k::·):=by
 show sK (r.length+1) r=_
 unfold sK
 cases hs:skip r with
 |none=>rfl
 |some w=>
  cases w with
  |nil=>rfl
  |cons c t=>
   dsimp only
   cases hr:readTok (c::t) with
   |none=>rfl
   |some p=>
    obtain⟨k',v⟩:=p
    have e1:=skip_le _ hs
    have e2:=readTok_le hr
    have q:v.length < r.length:=Nat.lt_of_lt_of_le e2 e1
    dsimp only
    rw[ur r.length (v.length+1) v q (lt_succ_self _)]
    rfl
theorem m7{lv:Nat}{t acc:B}:longGo lv (91::t) acc=if(hd? 91 (eqRest t)&&eqs t==lv)=true then(if lv=0 then none else longGo lv (eqRest t).tail (acc++(91::replicate lv 61)++[91])) else longGo lv (eqRest t) (acc++(91::replicate (eqs t) 61)):=by
 rw[eX,if_pos rfl]
theorem fb{lv:Nat}{t acc:B}:longGo lv (93::t) acc=if(hd? 93 (eqRest t)&&eqs t==lv)=true then some (acc,(eqRest t).tail) else longGo lv (eqRest t) (acc++(93::replicate (eqs t) 61)):=by
 rw[eX,if_neg (by decide),if_pos rfl]
theorem vZ{lv:Nat}{c:UInt8}{t acc:B}(h1:c≠91)(h2:c≠93)(h3:isNl c=true):longGo lv (c::t) acc=longGo lv (endLine (c::t)) (acc++[10]):=by
 rw[eX,if_neg h1,if_neg h2,if_pos h3]
theorem jI{lv:Nat}{c:UInt8}{t acc:B}(h1:c≠91)(h2:c≠93)(h3:¬isNl c=true):longGo lv (c::t) acc=longGo lv t (acc++[c]):=by
 rw[eX,if_neg h1,if_neg h2,if_neg h3]
theorem iw{lv:Nat}{acc:B}:longGo lv [] acc=none:=rfl
theorem v3{q:UInt8}{acc:B}:strGo q [] acc=none:=rfl
theorem uu{q:UInt8}{t acc:B}:strGo q (q::t) acc=some (acc,t):=by rw[dh];simp only[if_true]
theorem E0{q c:UInt8}{t acc:B}(h1:c≠q)(h2:isNl c=true):strGo q (c::t) acc=none:=by rw[dh];simp only[h1,if_false,h2,if_true]
theorem qu{q c:UInt8}{t acc:B}(h1:c≠q)(h2:¬isNl c=true)(h3:c≠92):strGo q (c::t) acc=strGo q t (acc++[c]):=by rw[dh];simp only[h1,if_false,h2,h3];rfl
theorem D7{q:UInt8}{acc:B}(h1:(92:UInt8)≠q):strGo q [92] acc=none:=by rw[dh];simp only[h1,if_false];rfl
theorem nb{q d:UInt8}{u acc:B}(h1:(92:UInt8)≠q)(h:isNl d=true):strGo q (92::d::u) acc=strGo q (endLine (d::u)) (acc++[10]):=by rw[dh];simp only[h1,if_false,h,if_true];rfl
theorem nc{q d:UInt8}{u acc:B}(h1:(92:UInt8)≠q)(h:¬isNl d=true)(h2:isDig d=true):strGo q (92::d::u) acc=if(digs3 2 (d.toNat - 48) u).1 > 255 then none else strGo q (digs3 2 (d.toNat - 48) u).2 (acc++[UInt8.ofNat (digs3 2 (d.toNat - 48) u).1.toNat]):=by
 rw[dh];simp only[h1,if_false,h,h2,if_true];rfl
theorem gM{q d:UInt8}{u acc:B}(h1:(92:UInt8)≠q)(h:¬isNl d=true)(h2:¬isDig d=true):strGo q (92::d::u) acc=strGo q u (acc++[escSign d]):=by
 rw[dh];simp only[h1,if_false,h,h2];rfl
theorem sL{p:UInt8→Bool}(h:((List.range 256).all fun n=>p (UInt8.ofNat n))=true)(b:UInt8):p b=true:=by
 have:=all_eq_true.mp h b.toNat (mem_range.mpr b.toNat_lt)
 rwa [UInt8.ofNat_toNat] at this
noncomputable def Iw(b:UInt8):Bool:=!isBl b||((b != 61)&&((b != 91)&&((b != 93)&&((b != 45)&&((b != 46)&&((b != 43)&&(!isNam b&&(!isDig b&&((b != 69)&&((b != 101)&&!isLet b))))))))))
theorem bM(b:UInt8)(h:isBl b=true):(b==61)=false∧(b==91)=false∧(b==93)=false∧(b==45)=false∧(b==46)=false∧(b==43)=false∧isNam b=false∧isDig b=false∧(b==69)=false∧(b==101)=false∧isLet b=false:=by
 have:=sL (p:=Iw) (by decide +kernel) b
 unfold Iw at this
 rw[h] at this
 simp only[Bool.not_true,Bool.false_or,and_eq_true,bne,not_eq_true'] at this
 exact this
section
variable {b:UInt8}{u:B}
theorem dS(hb:isBl b=true):∀t:B,eqRest (t++b::u)=eqRest t++b::u
 | []=>by show(if(b==61)=true then _ else _)=_;rw[(bM b hb).1];rfl
 |c::t=>by
  show(if(c==61)=true then eqRest (t++b::u) else c::(t++b::u))=(if(c==61)=true then eqRest t else c::t)++b::u
  split
  ·exact dS hb t
  ·rfl
theorem lO(hb:isBl b=true):∀t:B,eqs (t++b::u)=eqs t
 | []=>by show(if(b==61)=true then _ else _)=_;rw[(bM b hb).1];rfl
 |c::t=>by
  show(if(c==61)=true then eqs (t++b::u)+1 else 0)=(if(c==61)=true then eqs t+1 else 0)
  rw[lO hb t]
theorem lP{x:UInt8}(hx:(b==x)=false):∀t:B,hd? x (t++b::u)=hd? x t
 | []=>hx
 |_::_=>rfl
theorem gq{x:UInt8}{t:B}(h:hd? x t=true):(t++b::u).tail=t.tail++b::u:=by
 cases t with
 |nil=>cases h
 |cons _ _=>rfl
theorem jJ{c d:UInt8}{t:B}:endLine (c::d::t++b::u)=endLine (c::d::t)++b::u:=by
 show(if(isNl d&&d != c)=true then t++b::u else d::(t++b::u))=(if(isNl d&&d != c)=true then t else d::t)++b::u
 split<;>rfl
theorem qv(hb:isBl b=true)(lv:Nat)(r acc:B):∀(x y:B),longGo lv r acc=some (x,y)→longGo lv (r++b::u) acc=some (x,y++b::u):=by
 refine kW (bM b hb) fun f1 f2 f3 z=>?_
 refine longGo_ind ?case1 ?case2 ?case3 ?case4 ?case5 ?case6 ?case7 ?case8 r acc
 case case1=>intro _ x y h;cases h
 case case2=>intro _ _ _ _ x y h;cases h
 case case3=>
  intro acc t h1 h2 ih
  intro x y h
  have h1':=h1
  simp only[and_eq_true] at h1'
  rw[cons_append,m7,dS hb,lO hb,lP f2,if_pos h1,if_neg h2,gq h1'.1]
  exact ih _ _ h
 case case4=>
  intro acc t h1 ih
  intro x y h
  rw[cons_append,m7,dS hb,lO hb,lP f2,if_neg h1]
  exact ih _ _ h
 case case5=>
  intro acc t h2
  intro x y h
  cases h
  have h1':=h2
  simp only[and_eq_true] at h1'
  rw[cons_append,fb,dS hb,lO hb,lP f3,if_pos h2,gq h1'.1]
 case case6=>
  intro acc t h2 ih
  intro x y h
  rw[cons_append,fb,dS hb,lO hb,lP f3,if_neg h2]
  exact ih _ _ h
 case case7=>
  intro acc c t h1 h2 h3 ih
  intro x y h
  rw[cons_append,vZ h1 h2 h3]
  cases t with
  |nil=>rw[show endLine [c]=[] from rfl,iw] at h;cases h
  |cons d t=>rw[show c::(d::t++b::u)=c::d::t++b::u from rfl,jJ];exact ih _ _ h
 case case8=>
  intro acc c t h1 h2 h3 ih
  intro x y h
  rw[cons_append,jI h1 h2 h3]
  exact ih _ _ h
theorem uw(hb:isBl b=true):∀n v (r:B),digs3 n v (r++b::u)=((digs3 n v r).1,(digs3 n v r).2++b::u)
 |0,_,_=>rfl
 |n+1,v,[]=>by show(if isDig b=true then _ else _)=_;rw[(bM b hb).2.2.2.2.2.2.2.1];rfl
 |n+1,v,c::r=>by
  show(if isDig c=true then digs3 n (10 * v+c.toNat - 48) (r++b::u) else(v,c::(r++b::u)))=((if isDig c=true then digs3 n (10 * v+c.toNat - 48) r else(v,c::r)).1,(if isDig c=true then digs3 n (10 * v+c.toNat - 48) r else(v,c::r)).2++b::u)
  split
  ·exact uw hb n _ r
  ·rfl
theorem Aq(hb:isBl b=true)(q:UInt8)(r acc:B):∀(x y:B),strGo q r acc=some (x,y)→strGo q (r++b::u) acc=some (x,y++b::u):=by
 refine strGo_ind ?case1 ?case2 ?case3 ?case4 ?case5 ?case6 ?case7 ?case8 ?case9 r acc
 case case1=>intro _ x y h;cases h
 case case2=>intro acc t x y h;cases h;rw[cons_append,uu]
 case case3=>intro _ _ _ _ _ x y h;cases h
 case case4=>intro _ _ x y h;cases h
 case case5=>
  intro acc d w h1 h2 ih
  intro x y h
  rw[cons_append,cons_append,nb h2 h1]
  cases w with
  |nil=>rw[show endLine [d]=[] from rfl,v3] at h;cases h
  |cons e w=>rw[show d::(e::w++b::u)=d::e::w++b::u from rfl,jJ];exact ih _ _ h
 case case6=>intro _ _ _ _ _ _ _ x y h;cases h
 case case7=>
  intro acc d w h1 h2 h3 h4 ih
  intro x y h
  rw[cons_append,cons_append,nc h4 h1 h2,uw hb,if_neg h3]
  exact ih _ _ h
 case case8=>
  intro acc d w h1 h2 h3 ih
  intro x y h
  rw[cons_append,cons_append,gM h3 h1 h2]
  exact ih _ _ h
 case case9=>
  intro acc c t h1 h2 h3 ih
  intro x y h
  rw[cons_append,qu h1 h2 h3]
  exact ih _ _ h
set_option tactic.hygienic true in
theorem ux{c:UInt8}{r:B}{lv:Nat}{acc x y:B}(hr:longGo lv (nlOff r) acc=some (x,y)):nlOff (r++b::u)=nlOff r++b::u:=by
 cases r with
 |nil=>rw[show nlOff []=[] from rfl,iw] at hr;cases hr
 |cons c t=>
  show(if isNl c=true then endLine (c::(t++b::u)) else c::(t++b::u))=(if isNl c=true then endLine (c::t) else c::t)++b::u
  unfold nlOff at hr
  dsimp only at hr
  split
  ·rename_i hc
   rw[if_pos hc] at hr
   cases t with
   |nil=>rw[show endLine [c]=[] from rfl,iw] at hr;cases hr
   |cons d t=>exact jJ
  ·rfl
theorem oH{p:UInt8→Bool}(hp:p b=false):∀r:B,span p (r++b::u)=((span p r).1,(span p r).2++b::u)
 | []=>by show(if p b=true then _ else _)=_;rw[hp];rfl
 |c::r=>by
  show(if p c=true then(c::(span p (r++b::u)).1,(span p (r++b::u)).2) else([],c::(r++b::u)))=((if p c=true then(c::(span p r).1,(span p r).2) else([],c::r)).1,(if p c=true then(c::(span p r).1,(span p r).2) else([],c::r)).2++b::u)
  split
  ·rw[oH hp r]
  ·rfl
theorem C4(hb:isBl b=true)(r:B):expo (r++b::u)=((expo r).1,(expo r).2++b::u):=by
 obtain⟨f1,f2,f3,f4,f5,f6,f7,f8,f9,f10,f11⟩:=bM b hb
 match r with
 | []=>show(if(b==69||b==101)=true then _ else _)=_;rw[f9,f10];rfl
 | [c]=>
  unfold expo
  by_cases h:(c==69||c==101)=true
  ·simp[h,f4,f6]
  ·simp[h]
 |c::d::w=>
  unfold expo
  by_cases h:(c==69||c==101)=true
  ·by_cases h2:(d==43||d==45)=true
   ·simp[h,h2]
   ·simp[h,h2]
  ·simp[h]
theorem ng(hb:isBl b=true)(r:B):numSpan (r++b::u)=((numSpan r).1,(numSpan r).2++b::u):=by
 obtain⟨f1,f2,f3,f4,f5,f6,f7,f8,f9,f10,f11⟩:=bM b hb
 unfold numSpan
 dsimp only
 rw[oH (by simp[f8,f5]),C4 hb,oH f7]
section
variable {c:UInt8}{t:B}{p:Tok×B}
theorem E5(hb:isBl b=true)(h:EY t=some p):EY (t++b::u)=some (p.1,p.2++b::u):=by
 obtain⟨f1,f2,f3,f4,f5,f6,f7,f8,f9,f10,f11⟩:=bM b hb
 unfold EY
 rw[dS hb,lO hb,lP f2]
 refine eZ h (fun c2 h=>kc h fun q h1 e=>?_) fun z h=>eZ h (fun z h=>nomatch h) fun z h=>some_i h rfl
 rw[gq c2,ux (c:=0) h1,qv hb _ _ _ _ _ h1]
 exact e ▸ rfl
theorem E6(hb:isBl b=true)(h:Hl t=some p):Hl (t++b::u)=some (p.1,p.2++b::u):=by
 obtain⟨f1,f2,f3,f4,f5,f6,f7,f8,f9,f10,f11⟩:=bM b hb
 cases t with
 |nil=>exact some_i h (if_neg (by rw[f8];decide))
 |cons d w=>
  show(if isDig d=true then(numVal (46::(numSpan ((d::w)++b::u)).1)).map _ else _)=_
  rw[ng hb]
  exact eZ h (fun z h=>kc h fun q h1 e=>by rw[h1];exact e ▸ rfl) fun z h=>some_i h rfl
theorem C5(hb:isBl b=true)(h:yd t=some p):yd (t++b::u)=some (p.1,p.2++b::u):=by
 obtain⟨f1,f2,f3,f4,f5,f6,f7,f8,f9,f10,f11⟩:=bM b hb
 unfold yd
 rw[lP f5]
 refine eZ h (fun c2 h=>?_) fun z h=>E6 hb h
 rw[gq c2,lP f5]
 exact eZ h (fun c3 h=>some_i h (by rw[gq c3])) fun z h=>some_i h rfl
theorem C6(hb:isBl b=true)(h:ye c t=some p):ye c (t++b::u)=some (p.1,p.2++b::u):=by
 obtain⟨f1,f2,f3,f4,f5,f6,f7,f8,f9,f10,f11⟩:=bM b hb
 unfold ye
 rw[lP f1]
 exact eZ h (fun z h=>some_i h rfl) fun z h=>eZ h (fun z h=>eZ h (fun c6 h=>some_i h (by rw[gq c6])) fun z h=>some_i h rfl) fun z h=>some_i h rfl
end
theorem C7(hb:isBl b=true){c:UInt8}{t:B}{p:Tok×B}(h:Ap c t=some p):Ap c (t++b::u)=some (p.1,p.2++b::u):=by
 obtain⟨f1,f2,f3,f4,f5,f6,f7,f8,f9,f10,f11⟩:=bM b hb
 exact eZ h (fun z h=>kc h fun q h1 e=>by rw[Aq hb c t [] _ _ h1];exact e ▸ rfl) fun z h=>eZ h (fun z h=>E5 hb h) fun z h=>eZ h (fun z h=>C5 hb h) fun z h=>
  eZ h (fun z h=>kc h fun q h1 e=>by rw[←cons_append,ng hb,h1];exact e ▸ rfl) fun z h=>eZ h (fun z h=>some_i h (by rw[←cons_append,oH f7])) fun z h=>C6 hb h
theorem nh(hb:isBl b=true){r v:B}{k:Tok}(h:readTok r=some (k,v)):readTok (r++b::u)=some (k,v++b::u):=by
 cases r with
 |nil=>cases h
 |cons c t=>exact C7 hb h
end
end P
namespace P
theorem skip_bl{c:UInt8}{t:B}(h:isBl c=true):skip (c::t)=skip t:=(kO c t).trans (if_pos h)
theorem skip_com{t:B}(h:hd? 45 t=true):skip (45::t)=(comEnd t.tail).bind skip:=(kO 45 t).trans ((if_neg (by decide)).trans (if_pos (by simp[h])))
theorem skip_stop{c:UInt8}{t:B}(h:¬isBl c=true)(h2:¬(c==45&&hd? 45 t)=true):skip (c::t)=some (c::t):=(kO c t).trans ((if_neg h).trans (if_neg h2))
theorem skip_nil:skip []=some []:=rfl
theorem oJ{u:B}:∀r:B,toEol (r++10::u)=toEol r++10::u
 | []=>rfl
 |c::r=>by
  show(if isNl c=true then c::(r++10::u) else toEol (r++10::u))=(if isNl c=true then c::r else toEol r)++10::u
  split
  ·rfl
  ·exact oJ r
set_option tactic.hygienic true in
theorem yf{u t v:B}(h:comEnd t=some v):comEnd (t++10::u)=some (v++10::u):=by
 have hb:isBl 10=true:=by decide
 unfold comEnd at h
 split at h
 ·cases h;rfl
 ·rename_i c w
  rw[cons_append]
  unfold comEnd
  dsimp only
  split at h
  ·rename_i hc
   rw[if_pos hc,dS hb,lP (by decide)]
   split at h
   ·rename_i hc2
    refine ak (map_eq_some_iff.mp h) fun p h1 q92=>?_;obtain rfl:=q92
    rw[if_pos hc2,gq hc2,ux (c:=0) h1,lO hb,qv hb _ _ _ _ _ h1];rfl
   ·rename_i hc2
    cases h
    rw[if_neg hc2,oJ]
  ·rename_i hc
   cases h
   rw[if_neg hc,←cons_append,oJ]
theorem sM{u:B}:∀(n:Nat) (r:B),r.length≤n→∀{v:B},skip r=some v→skip (r++10::u)=match v with | []=>skip u|c::t=>some (c::t++10::u)
 |n,[],_,v,h=>by
  rw[skip_nil] at h;cases h
  exact skip_bl (by decide)
 |0,c::t,hn,v,h=>by simp at hn
 |n+1,c::t,hn,v,h=>by
  simp only[length_cons,Nat.add_le_add_iff_right] at hn
  rw[cons_append]
  by_cases h1:isBl c=true
  ·rw[skip_bl h1] at h⊢
   exact sM n t hn h
  ·by_cases h2:(c==45&&hd? 45 t)=true
   ·have h2':=h2
    simp only[and_eq_true,beq_iff_eq] at h2'
    obtain⟨rfl,h3⟩:=h2'
    have h3':hd? 45 (t++10::u)=true:=by rw[lP (by decide)];exact h3
    rw[skip_com h3] at h
    rw[skip_com h3',gq h3]
    cases hc:comEnd t.tail with
    |none=>rw[hc] at h;cases h
    |some w=>
     rw[hc] at h
     rw[yf hc]
     have:=comEnd_le hc
     exact sM n w (by simp at this;exact Ii this hn) h
   ·rw[skip_stop h1 h2] at h
    cases h
    exact skip_stop h1 (by rw[lP (by decide)];exact h2)
theorem az(c:UInt8)(t:B):t <:+ c::t:=⟨[c],rfl⟩
theorem cj(t:B):t.tail <:+ t:=List.tail_suffix t
theorem gr:∀r:B,endLine r <:+ r
 | []=>suffix_refl _
 | [c]=>⟨[c],rfl⟩
 |c::d::r=>by
  show(if(isNl d&&d != c)=true then r else d::r) <:+ _
  split
  ·exact(az d r).trans (az c _)
  ·exact az c _
theorem cr:∀r:B,eqRest r <:+ r
 | []=>suffix_refl _
 |c::r=>by
  show(if(c==61)=true then eqRest r else c::r) <:+ _
  split
  ·exact(cr r).trans (az c r)
  ·exact suffix_refl _
theorem jK:∀r:B,toEol r <:+ r
 | []=>suffix_refl _
 |c::r=>by
  show(if isNl c=true then c::r else toEol r) <:+ _
  split
  ·exact suffix_refl _
  ·exact(jK r).trans (az c r)
theorem ni(r:B):nlOff r <:+ r:=by
 unfold nlOff
 split
 ·exact suffix_refl _
 ·split
  ·exact gr _
  ·exact suffix_refl _
theorem nj:∀n v (r:B),(digs3 n v r).2 <:+ r
 |0,_,r=>suffix_refl _
 |_+1,_,[]=>suffix_refl _
 |n+1,v,c::r=>by
  show(if isDig c=true then digs3 n (10 * v+c.toNat - 48) r else(v,c::r)).2 <:+ _
  split
  ·exact(nj n _ r).trans (az c r)
  ·exact suffix_refl _
theorem lQ(lv:Nat)(r acc:B):∀(x y:B),longGo lv r acc=some (x,y)→y <:+ r:=by
 refine longGo_ind ?case1 ?case2 ?case3 ?case4 ?case5 ?case6 ?case7 ?case8 r acc
 case case1=>intro _ x y h;cases h
 case case2=>intro _ _ _ _ x y h;cases h
 case case3=>intro acc t h1 h2 ih x y h;exact((ih _ _ h).trans (cj _)).trans ((cr t).trans (az _ t))
 case case4=>intro acc t h1 ih x y h;exact(ih _ _ h).trans ((cr t).trans (az _ t))
 case case5=>intro acc t h1 x y h;cases h;exact(cj _).trans ((cr t).trans (az _ t))
 case case6=>intro acc t h1 ih x y h;exact(ih _ _ h).trans ((cr t).trans (az _ t))
 case case7=>intro acc c t h1 h2 h3 ih x y h;exact(ih _ _ h).trans (gr _)
 case case8=>intro acc c t h1 h2 h3 ih x y h;exact(ih _ _ h).trans (az c t)
theorem v4(q:UInt8)(r acc:B):∀(x y:B),strGo q r acc=some (x,y)→y <:+ r:=by
 refine strGo_ind ?case1 ?case2 ?case3 ?case4 ?case5 ?case6 ?case7 ?case8 ?case9 r acc
 case case1=>intro _ x y h;cases h
 case case2=>intro acc t x y h;cases h;exact az _ _
 case case3=>intro _ _ _ _ _ x y h;cases h
 case case4=>intro _ _ x y h;cases h
 case case5=>intro acc d w h1 h2 ih x y h;exact((ih _ _ h).trans (gr _)).trans (az _ _)
 case case6=>intro _ _ _ _ _ _ _ x y h;cases h
 case case7=>intro acc d w h1 h2 h3 h4 ih x y h;exact(((ih _ _ h).trans (nj _ _ w)).trans (az d w)).trans (az _ _)
 case case8=>intro acc d w h1 h2 h3 ih x y h;exact((ih _ _ h).trans (az d w)).trans (az _ _)
 case case9=>intro acc c t h1 h2 h3 ih x y h;exact(ih _ _ h).trans (az c t)
theorem yg(p:UInt8→Bool)(r:B):(span p r).2 <:+ r:=⟨_,span_eq p r⟩
theorem ke(r:B):(numSpan r).2 <:+ r:=⟨_,numSpan_eq r⟩
set_option tactic.hygienic true in
theorem sN{t v:B}(h:comEnd t=some v):v <:+ t:=by
 unfold comEnd at h
 split at h
 ·cases h;exact suffix_refl _
 ·rename_i c u
  split at h
  ·split at h
   ·refine ak (map_eq_some_iff.mp h) fun p h1 q92=>?_;obtain rfl:=q92
    exact(((lQ _ _ _ _ _ h1).trans (ni _)).trans (cj _)).trans ((cr u).trans (az c u))
   ·cases h;exact(jK u).trans (az c u)
  ·cases h;exact jK _
theorem lR:∀(n:Nat) (r:B),r.length≤n→∀{v:B},skip r=some v→v <:+ r∧∀c t,v=c::t→isBl c=false
 |n,[],_,v,h=>by rw[skip_nil] at h;cases h;exact⟨suffix_refl _,fun z z h=>nomatch h⟩
 |0,c::t,hn,_,h=>by simp at hn
 |n+1,c::t,hn,v,h=>by
  simp only[length_cons,Nat.add_le_add_iff_right] at hn
  by_cases h1:isBl c=true
  ·rw[skip_bl h1] at h
   obtain⟨q1,q2⟩:=lR n t hn h
   exact⟨q1.trans (az c t),q2⟩
  ·by_cases h2:(c==45&&hd? 45 t)=true
   ·have h2':=h2
    simp only[and_eq_true,beq_iff_eq] at h2'
    obtain⟨rfl,h3⟩:=h2'
    rw[skip_com h3] at h
    cases hc:comEnd t.tail with
    |none=>rw[hc] at h;cases h
    |some w=>
     rw[hc] at h
     have:=comEnd_le hc
     obtain⟨q1,q2⟩:=lR n w (by simp at this;exact Ii this hn) h
     exact⟨((q1.trans (sN hc)).trans (cj t)).trans (az _ t),q2⟩
   ·rw[skip_stop h1 h2] at h
    cases h
    exact⟨suffix_refl _,fun c' t' e=>by cases e;simpa using h1⟩
theorem qw{r v:B}{k:Tok}(h:readTok r=some (k,v)):v <:+ r:=
 readTok_i (M:=fun r p=>p.2 <:+ r) h (fun c t p h=>(v4 _ _ _ _ _ h).trans (az c t)) (fun t p h=>(((lQ _ _ _ _ _ h).trans (ni _)).trans (cj _)).trans ((cr t).trans (az _ t))) (fun c t z z z=>az c t) (fun c t z z z=>(cj t).trans (az c t)) (fun c t=>((cj _).trans (cj t)).trans (az c t))
  (fun t n z=>(ke t).trans (az _ t)) (fun c t n z z=>ke _) fun c t z=>yg _ _
noncomputable def lexStep(v:B):Option (List Tok):=match v with
 | []=>some []
 |c::t=>(readTok (c::t)).bind fun p=>(lexAll p.2).map (p.1::·)
theorem lexAll_step(r:B):lexAll r=(skip r).bind lexStep:=by
 rw[vY]
 cases skip r with
 |none=>rfl
 |some v=>
  cases v with
  |nil=>rfl
  |cons c t=>
   show(match readTok (c::t) with |none=>none|some (k,v)=>(lexAll v).map (k::·))=(readTok (c::t)).bind _
   cases readTok (c::t) with
   |none=>rfl
   |some p=>rfl
theorem lexAll_app(u:B):∀(n:Nat) (r:B),r.length≤n→∀{a:List Tok},lexAll r=some a→lexAll (r++10::u)=(lexAll u).map (a++·):=by
 intro n
 induction n with
 |zero=>
  intro r hn a h
  obtain rfl:r=[]:=List.length_eq_zero_iff.mp (by lia)
  rw[lexAll_step,skip_nil] at h
  cases h
  rw[lexAll_step,nil_append,skip_bl (by decide),←lexAll_step]
  cases lexAll u<;>rfl
 |succ n ih=>
  intro r hn a h
  rw[lexAll_step] at h
  rw[lexAll_step]
  cases hs:skip r with
  |none=>rw[hs] at h;cases h
  |some v=>
   have hw:=sM (u:=u) r.length r (le_refl _) hs
   have hle:=skip_le r hs
   rw[hs] at h
   rw[hw]
   cases v with
   |nil=>
    cases h
    show(skip u).bind lexStep=_
    rw[←lexAll_step]
    cases lexAll u<;>rfl
   |cons c t=>
    replace h:(readTok (c::t)).bind (fun p=>(lexAll p.2).map (p.1::·))=some a:=h
    show(readTok ((c::t)++10::u)).bind (fun p=>(lexAll p.2).map (p.1::·))=_
    cases hr:readTok (c::t) with
    |none=>rw[hr] at h;cases h
    |some p=>
     obtain⟨k,w⟩:=p
     rw[hr] at h
     have hlw:=readTok_le hr
     rw[nh (by decide) hr]
     refine ak (map_eq_some_iff.mp h) fun b h1 q92=>?_;obtain rfl:=q92
     show(lexAll (w++10::u)).map (k::·)=_
     rw[ih w (by simp at hlw hle;lia) h1]
     cases lexAll u<;>rfl
end P
namespace P
noncomputable def qc(c:UInt8):B:=if c=34∨c=92∨c=10 then[92,c] else if c=13 then[92,114] else if c=0 then[92,48,48,48] else[c]
noncomputable def quoteB(b:B):B:=34::(b.flatMap qc++[34])
noncomputable def v5:Nat→Nat→B
 |0,_=>[]
 |f+1,n=>if n≤9 then[UInt8.ofNat (48+n)] else v5 f (n / 10)++[UInt8.ofNat (48+n % 10)]
theorem uy:∀f g n,n < f→n < g→v5 f n=v5 g n
 |0,_,_,h,_=>dI h
 |_+1,0,_,_,h=>dI h
 |f+1,g+1,n,h,k=>by
  show(if n≤9 then _ else v5 f (n / 10)++_)=if n≤9 then _ else v5 g (n / 10)++_
  by_cases q:n≤9
  ·rw[if_pos q,if_pos q]
  ·have:n / 10 < n:=Nat.div_lt_self (Nat.lt_of_lt_of_le (by decide) (Nat.not_le.mp q)) (by decide)
   rw[uy f g (n / 10) (Nat.lt_of_lt_of_le this (le_of_lt_succ h)) (Nat.lt_of_lt_of_le this (le_of_lt_succ k))]
noncomputable def natDigits(n:Nat):B:=v5 (n+1) n
noncomputable def v6:List B:=[[46,46],[46,46,46],[61,61],[62,61],[60,61],[126,61]]
noncomputable def kindText(k:Int):B:=if k > 256 then((qq++v6)[(k - 257).toNat]?).getD [] else[UInt8.ofNat k.toNat]
noncomputable def written(t:Tok):B:=match t.2 with
 | .txt b=>if t.1=286 then quoteB b else b
 | .num n=>natDigits n.toNat
 | .non=>kindText t.1
noncomputable def qx(c:UInt8):Bool:=!isBl c&&((c != 34)&&((c != 39)&&(!isDig c&&!isLet c)))
inductive Good:Tok→Prop
 |str (b:B):Good (286,.txt b)
 |num (n:Int):0≤n→n < 2 ^ 63→Good (284,.num n)
 |name (w:B):resKinds.lookup w=none→w.all isNam=true→(∃c t,w=c::t∧isLet c=true)→Good (285,.txt w)
 |word (k:Int):257≤k→k < 284→Good (k,.non)
 |sgn (c:UInt8):qx c=true→Good ((c.toNat:Int),.non)
theorem isNl_cases{c:UInt8}(h:isNl c=true):c=10∨c=13:=by simpa [isNl] using h
theorem qy(c:UInt8):(qc c=[92,c]∧(c=34∨c=92∨c=10))∨(c=13∧qc c=[92,114])∨(c=0∧qc c=[92,48,48,48])∨(qc c=[c]∧c≠34∧c≠92∧isNl c=false):=by
 unfold qc
 by_cases h:c=34∨c=92∨c=10
 ·exact .inl ⟨if_pos h,h⟩
 ·rw[if_neg h]
  by_cases h2:c=13
  ·exact .inr (.inl ⟨h2,if_pos h2⟩)
  ·rw[if_neg h2]
   by_cases h3:c=0
   ·exact .inr (.inr (.inl ⟨h3,if_pos h3⟩))
   ·rw[if_neg h3]
    refine .inr (.inr (.inr ⟨rfl,fun q=>h (.inl q),fun q=>h (.inr (.inl q)),?_⟩))
    cases q:isNl c with
    |false=>rfl
    |true=>rcases isNl_cases q with rfl|rfl<;>simp at h h2
theorem Ar(b:B):∀d t,b.flatMap qc++[34]=d::t→isNl d=false:=by
 intro d t h
 cases b with
 |nil=>cases h;decide
 |cons c b=>
  rw[flatMap_cons] at h
  rcases qy c with ⟨e,_⟩|⟨_,e⟩|⟨_,e⟩|⟨e,_,_,q⟩<;>rw[e] at h<;>cases h
  ·decide
  ·decide
  ·decide
  ·exact q
theorem oK{c:UInt8}{t:B}(h:∀d u,t=d::u→isNl d=false):endLine (c::t)=t:=by
 cases t with
 |nil=>rfl
 |cons d u=>
  show(if(isNl d&&d != c)=true then u else d::u)=_
  rw[h d u rfl];rfl
theorem kf:∀(b acc:B),strGo 34 (b.flatMap qc++[34]) acc=some (acc++b,[])
 | [],acc=>by simp[uu]
 |c::b,acc=>by
  have ih:=kf b
  have hq:=Ar b
  rw[flatMap_cons,append_assoc]
  rcases qy c with ⟨e,h⟩|⟨rfl,e⟩|⟨rfl,e⟩|⟨e,h1,h2,h3⟩<;>rw[e]
  ·show strGo 34 (92::c::(b.flatMap qc++[34])) acc=_
   rcases h with rfl|rfl|rfl
   ·rw[gM (by decide) (by decide) (by decide),ih];simp[escSign]
   ·rw[gM (by decide) (by decide) (by decide),ih];simp[escSign]
   ·rw[nb (by decide) (by decide),oK hq,ih];simp
  ·show strGo 34 (92::114::(b.flatMap qc++[34])) acc=_
   rw[gM (by decide) (by decide) (by decide),ih];simp[escSign]
  ·show strGo 34 (92::48::48::48::(b.flatMap qc++[34])) acc=_
   have e:digs3 2 ((48:UInt8).toNat - 48) (48::48::(b.flatMap qc++[34]))=(0,b.flatMap qc++[34]):=by
    show(if isDig 48=true then(if isDig 48=true then digs3 0 (10 * (10 * ((48:UInt8).toNat - 48)+(48:UInt8).toNat - 48)+(48:UInt8).toNat - 48) (b.flatMap qc++[34]) else _) else _)=_
    rw[if_pos (by decide),if_pos (by decide)]
    show((10 * (10 * (((48:UInt8).toNat:Int) - 48)+(48:UInt8).toNat - 48)+(48:UInt8).toNat - 48:Int),_)=_
    rfl
   rw[nc (by decide) (by decide) (by decide),e,if_neg (show¬((0:Int) > 255) by decide),ih];simp
  ·show strGo 34 (c::(b.flatMap qc++[34])) acc=_
   rw[qu h1 (by simp[h3]) h2,ih];simp
theorem natDigits_lt{n:Nat}(h:n≤9):natDigits n=[UInt8.ofNat (48+n)]:=if_pos h
theorem natDigits_ge{n:Nat}(h:¬n≤9):natDigits n=natDigits (n / 10)++[UInt8.ofNat (48+n % 10)]:=(if_neg h).trans (congrArg (·++_) (uy _ _ _ (Nat.div_lt_self (Nat.lt_of_lt_of_le (by decide) (Nat.not_le.mp h)) (by decide)) (lt_succ_self _)))
theorem At:∀n,n < 10→isDig (UInt8.ofNat (48+n))=true∧digOf (UInt8.ofNat (48+n))=n∧isBase 10 (UInt8.ofNat (48+n))=true∧(UInt8.ofNat (48+n)==120)=false∧(UInt8.ofNat (48+n)==88)=false:=by decide +kernel
theorem gN{n:Nat}(h:n≤9):isDig (UInt8.ofNat (48+n))=true∧digOf (UInt8.ofNat (48+n))=n∧isBase 10 (UInt8.ofNat (48+n))=true∧(UInt8.ofNat (48+n)==120)=false∧(UInt8.ofNat (48+n)==88)=false:=At n (lt_succ_of_le h)
theorem eM:∀(n:Nat),(natDigits n).all isDig=true∧(natDigits n).all (isBase 10)=true∧∃c t,natDigits n=c::t∧isDig c=true:=by
 intro n
 induction n using strongRecOn with
 |ind n ih=>
  by_cases h:n≤9
  ·rw[natDigits_lt h]
   refine kW (gN h) fun f1 f2 f3 z=>?_
   exact⟨by rw[all_cons,f1];rfl,by rw[all_cons,f3];rfl,_,_,rfl,f1⟩
  ·obtain⟨g1,g2,c,t,g3,g4⟩:=ih (n / 10) (by lia)
   refine kW (gN (n:=n % 10) (by lia)) fun f1 f2 f3 z=>?_
   rw[natDigits_ge h]
   refine⟨by rw[List.all_append,g1,all_cons,f1];rfl,by rw[List.all_append,g2,all_cons,f3];rfl,c,t++[UInt8.ofNat (48+n % 10)],by rw[g3];rfl,g4⟩
theorem lS:∀(n:Nat),n < 2 ^ 64→kP 10 (natDigits n)=n:=by
 intro n
 induction n using strongRecOn with
 |ind n ih=>
  intro hn
  by_cases h:n≤9
  ·rw[natDigits_lt h]
   refine kW (gN h) fun f1 f2 f3 z=>?_
   show(0 * 10+digOf _) % 2 ^ 64=_
   rw[f2];lia
  ·refine kW (gN (n:=n % 10) (by lia)) fun f1 f2 f3 z=>?_
   have:=ih (n / 10) (by lia) (by lia)
   rw[natDigits_ge h]
   unfold kP at this⊢
   rw[List.foldl_append,this]
   show(((n / 10:Nat):Int) * 10+digOf _) % 2 ^ 64=_
   rw[f2];lia
theorem dT{p:UInt8→Bool}:∀{w:B},w.all p=true→span p w=(w,[])
 | [],_=>rfl
 |c::w,h=>by
  simp only[all_cons,and_eq_true] at h
  show(if p c=true then(c::(span p w).1,(span p w).2) else([],c::w))=_
  rw[if_pos h.1,dT h.2]
theorem lT{w:B}(h:w.all isDig=true):numSpan w=(w,[]):=by
 have h2:w.all (fun c=>isDig c||c==46)=true:=by
  rw[all_eq_true] at h⊢
  intro c hc;rw[h c hc];rfl
 unfold numSpan
 rw[dT h2]
 show(w++[]++[],([]:B))=_
 simp
set_option tactic.hygienic true in
theorem mI{n:Nat}(h:n < 2 ^ 63):numVal (natDigits n)=some (n:Int):=by
 obtain⟨g1,g2,c,t,g3,g4⟩:=eM n
 have base:numBase 10 (natDigits n)=some (n:Int):=by
  unfold numBase
  rw[g2,lS n (GV h rfl)]
  rw[if_pos (by rw[g3];rfl)]
  unfold wrap64
  rw[if_neg (by lia)]
 unfold numVal
 split
 ·rename_i x d r e
  have hx:isDig x=true:=by
   rw[e] at g1
   simp only[all_cons,and_eq_true] at g1
   exact g1.2.1
  have:(x==120||x==88)=false:=by
   have:=sL (p:=fun x=>!isDig x||!(x==120||x==88)) (by decide +kernel) x
   rw[hx] at this
   simpa using this
  rw[this,Bool.false_and,if_neg (by decide)]
  exact base
 ·exact base
end P
namespace P
noncomputable def joinS(sep:B):List B→B
 | []=>[]
 |p::ps=>p++ps.flatMap (sep++·)
theorem qz{c:UInt8}(h:qx c=true):readTok [c]=some (((c.toNat:Int),.non),[]):=by
 unfold qx at h
 simp only[and_eq_true,bne_iff_ne,ne_eq,not_eq_true'] at h
 refine wA h fun h0 h1 h2 h3 h4=>?_
 unfold readTok
 dsimp only
 rw[if_neg (by simp[h1,h2])]
 by_cases q1:c=91
 ·subst q1;rfl
 rw[if_neg q1]
 by_cases q2:c=46
 ·subst q2;rfl
 rw[if_neg q2,if_neg (by simp[h3]),if_neg (by simp[h4])]
 by_cases q3:c=45
 ·subst q3;rfl
 rw[if_neg q3]
 by_cases q4:c=61∨c=60∨c=62∨c=126
 ·rw[if_pos q4];rfl
 ·rw[if_neg q4]
theorem yh:((List.range 27).all fun i=>decide (readTok (kindText (257+(i:Int)))=some ((257+(i:Int),.non),[]))&&(match kindText (257+(i:Int)) with |c::t=>!isBl c&&!(c==45)| []=>false))=true:=by decide +kernel
set_option tactic.hygienic true in
theorem kQ{k:Int}(h1:257≤k)(h2:k < 284):readTok (kindText k)=some ((k,.non),[])∧∃c t,kindText k=c::t∧isBl c=false∧(c==45)=false:=by
 have:=all_eq_true.mp yh (k - 257).toNat (mem_range.mpr (by omega))
 rw[show 257+(((k - 257).toNat:Nat):Int)=k by omega] at this
 simp only[and_eq_true,decide_eq_true_eq] at this
 refine⟨this.1,?_⟩
 have h3:=this.2
 split at h3
 ·rename_i c t e
  simp only[and_eq_true,not_eq_true'] at h3
  exact⟨c,t,e,h3.1,h3.2⟩
 ·cases h3
theorem fR{t:Tok}(h:Good t):readTok (written t)=some (t,[]):=by
 cases h with
 |str b=>
  show readTok (34::(b.flatMap qc++[34]))=_
  unfold readTok
  dsimp only
  rw[if_pos (.inl rfl),kf];rfl
 |num n h0 h1=>
  obtain⟨m,rfl⟩:=Int.eq_ofNat_of_zero_le h0
  show readTok (natDigits m)=_
  obtain⟨g1,g2,c,t,g3,g4⟩:=eM m
  have hv:=mI (n:=m) (by omega)
  have hs:=lT g1
  rw[g3] at hv hs⊢
  have nf:=sL (p:=fun c=>!isDig c||((c != 34)&&((c != 39)&&((c != 91)&&(c != 46))))) (by decide +kernel) c
  rw[g4] at nf
  simp only[Bool.not_true,Bool.false_or,and_eq_true,bne_iff_ne,ne_eq] at nf
  refine kW nf fun n1 n2 n3 n4=>?_
  unfold readTok
  dsimp only
  rw[if_neg (by simp[n1,n2]),if_neg n3,if_neg n4,if_pos g4,hs]
  dsimp only
  rw[hv];rfl
 |name w h0 h1 h2=>
  refine dc h2 fun c t q92 hc=>?_;obtain rfl:=q92
  show readTok (c::t)=_
  have nf:=sL (p:=fun c=>!isLet c||((c != 34)&&((c != 39)&&((c != 91)&&((c != 46)&&!isDig c))))) (by decide +kernel) c
  rw[hc] at nf
  simp only[Bool.not_true,Bool.false_or,and_eq_true,bne_iff_ne,ne_eq,not_eq_true'] at nf
  refine wA nf fun n1 n2 n3 n4 n5=>?_
  unfold readTok
  dsimp only
  rw[if_neg (by simp[n1,n2]),if_neg n3,if_neg n4,if_neg (by simp[n5]),if_pos hc,dT h1]
  dsimp only
  unfold wordTok
  rw[h0]
 |word k h0 h1=>exact(kQ h0 h1).1
 |sgn c h0=>
  have e:written ((c.toNat:Int),.non)=[c]:=by
   show kindText (c.toNat:Int)=_
   unfold kindText
   rw[if_neg (by have:=c.toNat_lt;omega)]
   simp
  rw[e]
  exact qz h0
theorem oM{t:Tok}(h:Good t){s:B}(hs:s=[]∨∃b u,s=b::u∧isBl b=true):skip (written t++s)=some (written t++s):=by
 have key:∀{c:UInt8} {w:B},written t=c::w→isBl c=false→(c==45)=false→skip (written t++s)=some (written t++s):=fun {c w} e h1 h2=>by
  rw[e,cons_append]
  exact skip_stop (by simp[h1]) (by rw[h2];simp)
 cases h with
 |str b=>exact key (c:=34) rfl (by decide) (by decide)
 |num n h0 h1=>
  obtain⟨g1,g2,c,t,g3,g4⟩:=eM n.toNat
  have nf:=sL (p:=fun c=>!isDig c||(!isBl c&&!(c==45))) (by decide +kernel) c
  rw[g4] at nf
  simp only[Bool.not_true,Bool.false_or,and_eq_true,not_eq_true'] at nf
  exact key g3 nf.1 nf.2
 |name w h0 h1 h2=>
  refine dc h2 fun c t q92 hc=>?_;obtain rfl:=q92
  have nf:=sL (p:=fun c=>!isLet c||(!isBl c&&!(c==45))) (by decide +kernel) c
  rw[hc] at nf
  simp only[Bool.not_true,Bool.false_or,and_eq_true,not_eq_true'] at nf
  exact key rfl nf.1 nf.2
 |word k h0 h1=>
  obtain⟨_,c,t,e,q1,q2⟩:=kQ h0 h1
  exact key e q1 q2
 |sgn c h0=>
  have e:written ((c.toNat:Int),.non)=[c]:=by
   show kindText (c.toNat:Int)=_
   unfold kindText
   rw[if_neg (by have:=c.toNat_lt;omega)]
   simp
  rw[e]
  unfold qx at h0
  simp only[and_eq_true,bne_iff_ne,ne_eq,not_eq_true'] at h0
  refine skip_stop (by simp[h0.1]) ?_
  rcases hs with rfl|⟨b,u,rfl,hb⟩
  ·simp[hd?]
  ·show¬(c==45&&b==45)=true
   rw[(bM b hb).2.2.2.1];simp
noncomputable def GapOk(g:B):Prop:=(∃b u,g=b::u∧isBl b=true)∧∀r,skip (g++r)=skip r
set_option tactic.hygienic true in
theorem lexAll_join{g:B}(hg:GapOk g):∀(ts:List Tok),(∀t∈ts,Good t)→lexAll (joinS g (ts.map written))=some ts
 | [],_=>by show lexAll []=_;rw[lexAll_step,skip_nil];rfl
 |t::ts,h=>by
  have ht:=h t (.head _)
  have ih:=lexAll_join hg ts fun x hx=>h x (.tail _ hx)
  have rest:lexAll ((ts.map written).flatMap (g++·))=some ts:=by
   cases ts with
   |nil=>rw[List.map_nil,List.flatMap_nil,lexAll_step,skip_nil];rfl
   |cons t2 ts=>
    rw[map_cons,flatMap_cons,append_assoc,lexAll_step,hg.2,←lexAll_step]
    exact ih
  have hsep:(ts.map written).flatMap (g++·)=[]∨∃b u,(ts.map written).flatMap (g++·)=b::u∧isBl b=true:=by
   cases ts with
   |nil=>exact .inl rfl
   |cons t2 ts=>
    refine dc hg.1 fun b u e hb=>?_
    exact .inr ⟨b,_,by rw[map_cons,flatMap_cons,e];rfl,hb⟩
  show lexAll (written t++(ts.map written).flatMap (g++·))=_
  rw[lexAll_step,oM ht hsep]
  have hr:readTok (written t++(ts.map written).flatMap (g++·))=some (t,(ts.map written).flatMap (g++·)):=by
   rcases hsep with e|⟨b,u,e,hb⟩
   ·rw[e,append_nil];exact fR ht
   ·rw[e,nh hb (fR ht)];rfl
  show lexStep _=_
  unfold lexStep
  split
  ·rename_i e
   rw[e] at hr;cases hr
  ·rename_i c w e
   rw[←e,hr]
   show(lexAll _).map (t::·)=_
   rw[rest];rfl
theorem gap1:GapOk [32]:=⟨⟨32,[],rfl,by decide⟩,fun r=>skip_bl (by decide)⟩
theorem gap2:GapOk [10]:=⟨⟨10,[],rfl,by decide⟩,fun r=>skip_bl (by decide)⟩
theorem gap3:GapOk [9,45,45,10]:=⟨⟨9,[45,45,10],rfl,by decide⟩,fun r=>by
 show skip (9::45::45::10::r)=_
 rw[skip_bl (by decide),skip_com (by rfl)]
 show skip (10::r)=_
 exact skip_bl (by decide)⟩
theorem gap4:GapOk [32,45,45,91,61,61,91,32,93,93,32,93,61,61,93]:=⟨⟨32,_,rfl,by decide⟩,fun r=>by
 show skip (32::45::45::91::61::61::91::32::93::93::32::93::61::61::93::r)=_
 rw[skip_bl (by decide),skip_com (by rfl)]
 have e:comEnd (91::61::61::91::32::93::93::32::93::61::61::93::r)=some r:=by
  show(longGo 2 (32::93::93::32::93::61::61::93::r) []).map (·.2)=_
  rw[jI (by decide) (by decide) (by decide),fb]
  show Option.map _ (longGo 2 (93::32::93::61::61::93::r) _)=_
  rw[fb]
  show Option.map _ (longGo 2 (32::93::61::61::93::r) _)=_
  rw[jI (by decide) (by decide) (by decide),fb]
  rfl
 show(comEnd (91::61::61::91::32::93::93::32::93::61::61::93::r)).bind skip=_
 rw[e];rfl⟩
end P
namespace P
noncomputable def gt(c:UInt8):Bool:=isBase 16 c
noncomputable def fE:B→Nat
 | []=>0
 |c::r=>if gt c then fE r+1 else 0
noncomputable def hO(r:B):Prop:=∀s,s <:+ r→fE s≤15
theorem hO.suf{r s:B}(h:hO r)(hs:s <:+ r):hO s:=fun t ht=>h t (ht.trans hs)
theorem ix:∀{a b:B},a.all gt=true→a.length≤fE (a++b)
 | [],_,_=>zero_le _
 |c::a,b,h=>by
  simp only[all_cons,and_eq_true] at h
  show a.length+1≤(if gt c=true then fE (a++b)+1 else 0)
  rw[if_pos h.1]
  exact succ_le_succ (ix h.2)
theorem yi{c:UInt8}(h:isBase 10 c=true):gt c=true:=by
 have:=sL (p:=fun c=>!isBase 10 c||gt c) (by decide +kernel) c
 rw[h] at this
 simpa using this
theorem lU{base:Int}(hb:0≤base)(hb2:base≤16):∀(ds:B) (k:Nat) (n:Int),ds.all (isBase base)=true→0≤n→n < 16 ^ k→k+ds.length≤15→0≤ds.foldl (fun n c=>(n * base+digOf c) % 2 ^ 64) n∧ds.foldl (fun n c=>(n * base+digOf c) % 2 ^ 64) n < 16 ^ 15
 | [],k,n,_,h0,h1,hk=>by
  refine⟨h0,Int.lt_of_lt_of_le h1 ?_⟩
  have:(16:Nat) ^ k≤16 ^ 15:=Nat.pow_le_pow_right (by decide) (by simpa using hk)
  exact_mod_cast this
 |c::ds,k,n,h,h0,h1,hk=>by
  simp only[all_cons,and_eq_true] at h
  obtain⟨hc,hr⟩:=h
  unfold isBase at hc
  simp only[and_eq_true,decide_eq_true_eq] at hc
  have hm:n * base≤n * 16:=Int.mul_le_mul_of_nonneg_left hb2 h0
  have hm0:0≤n * base:=Int.mul_nonneg h0 hb
  have hx0:0≤n * base+digOf c:=by lia
  have e16:(16:Int) ^ (k+1)=16 ^ k * 16:=by rw[Int.pow_succ]
  have hx1:n * base+digOf c < 16 ^ (k+1):=by rw[e16];lia
  rw[foldl_cons]
  refine lU hb hb2 ds (k+1) _ hr (Int.emod_nonneg _ (by decide)) (Int.lt_of_le_of_lt (by lia) hx1) (by simp only[length_cons] at hk;exact u7 hk rfl)
set_option tactic.hygienic true
theorem i5{base n:Int}(hb:0≤base)(hb2:base≤16){t:B}(h:numBase base t=some n)(hl:t.length≤15):0≤n∧n < 2 ^ 63:=by
 unfold numBase at h
 split at h
 ·rename_i hc
  cases h
  simp only[and_eq_true] at hc
  have:=lU hb hb2 t 0 0 hc.1 (by decide) (by decide) (by lia)
  have e:kP base t=t.foldl (fun n c=>(n * base+digOf c) % 2 ^ 64) 0:=rfl
  rw[←e] at this
  unfold wrap64
  rw[if_neg (by lia)]
  lia
 ·cases h
theorem kg{base n:Int}{t:B}(h:numBase base t=some n):t.all (isBase base)=true:=by
 unfold numBase at h
 split at h
 ·rename_i hc
  simp only[and_eq_true] at hc
  exact hc.1
 ·cases h
theorem qA{t v r:B}{n:Int}(hr:hO r)(e:t++v=r)(h:numVal t=some n):0≤n∧n < 2 ^ 63:=by
 have b10:∀{m:Int},numBase 10 t=some m→0≤m∧m < 2 ^ 63:=fun {m} h=>by
  have ha:=kg h
  have hh:t.all gt=true:=by
   rw[all_eq_true] at ha⊢
   exact fun c hc=>yi (ha c hc)
  exact i5 (by decide) (by decide) h (le_trans (ix (b:=v) hh) (hr _ (by rw[e];exact suffix_refl _)))
 unfold numVal at h
 split at h
 ·rename_i x d w
  split at h
  ·have ha:=kg h
   exact i5 (by decide) (by decide) h (le_trans (ix (b:=v) ha) (hr _ ⟨[48,x],by rw[←e];rfl⟩))
  ·exact b10 h
 ·exact b10 h
theorem i6:∀{l:List (B×Int)} {w:B} {k:Int},l.lookup w=some k→∃b,(b,k)∈l
 |(b,j)::l,w,k,h=>by
  rw[lookup_cons] at h
  split at h
  ·cases h;exact⟨b,.head _⟩
  ·obtain⟨c,hc⟩:=i6 h
   exact⟨c,.tail _ hc⟩
theorem lV:(resKinds.all fun q=>decide (257≤q.2)&&decide (q.2 < 284))=true:=by decide +kernel
theorem lW{p:UInt8→Bool}:∀r:B,(span p r).1.all p=true
 | []=>rfl
 |c::r=>by
  unfold span
  split
  ·rename_i h
   rw[all_cons,h,lW r];rfl
  ·rfl
theorem yj(l:B):numVal (46::l)=none:=by
 show numBase 10 (46::l)=none
 unfold numBase
 rw[all_cons,show isBase 10 46=false by decide]
 rfl
theorem oN{r v:B}{k:Tok}(hr:hO r)(hb:∀c t,r=c::t→isBl c=false)(h:readTok r=some (k,v)):Good k:=by
 refine(readTok_i (M:=fun r p=>hO r→(∀c t,r=c::t→isBl c=false)→Good p.1) h (fun z z z z z z=>.str _) (fun z z z z z=>.str _) (fun c t n0 n3 n4 z hb=>.sgn c ?_) (fun z z n h1 h2 z z=>.word n h1 h2) (fun z z z z=>.word _ (by decide) (by decide)) (fun t n h z z=>nomatch (yj _).symm.trans h) (fun c t n z h hr z=>?_) fun c t hl z z=>?_) hr hb
 ·unfold qx
  simp only[hb c t rfl,Bool.not_false,Bool.true_and,and_eq_true,bne_iff_ne,ne_eq,not_eq_true']
  exact⟨fun q=>n0 (.inl q),fun q=>n0 (.inr q),by simpa using n3,by simpa using n4⟩
 ·obtain⟨q1,q2⟩:=qA hr (numSpan_eq (c::t)) h
  exact .num _ q1 q2
 ·unfold wordTok
  cases hk:resKinds.lookup (span isNam (c::t)).1 with
  |some k=>
   obtain⟨b,hm⟩:=i6 hk
   have:=all_eq_true.mp lV _ hm
   simp only[and_eq_true,decide_eq_true_eq] at this
   exact .word k this.1 this.2
  |none=>
   refine .name _ hk (lW _) ⟨c,(span isNam t).1,?_,hl⟩
   show(if isNam c=true then(c::(span isNam t).1,(span isNam t).2) else([],c::t)).1=_
   rw[if_pos (by unfold isNam;rw[hl];rfl)]
noncomputable def tvLen(t:Tok):Nat:=match t.2 with
 | .txt b=>b.length
 |_=>0
theorem qC{r v:B}{k:Tok}(h:readTok r=some (k,v)):tvLen k≤r.length:=by
 refine readTok_i (M:=fun r p=>tvLen p.1≤r.length) h (fun c t p h=>?_) (fun t p h=>?_) (fun z z z z z=>zero_le _) (fun z z z z z=>zero_le _) (fun z z=>zero_le _) (fun z z z=>zero_le _) (fun z z z z z=>zero_le _) fun c t z=>?_
 ·have:=(qo _ _ _ _ _ h).2
  show p.1.length≤t.length+1
  rw[length_nil] at this;lia
 ·have e1:=(jH _ _ _ _ _ h).2
  have e2:=le_trans (nlOff_le (eqRest t).tail) (le_trans (cK _) (cz t))
  show p.1.length≤t.length+1
  rw[length_nil] at e1;lia
 ·have e:=congrArg List.length (span_eq isNam (c::t))
  unfold wordTok
  split
  ·exact zero_le _
  ·show(span isNam (c::t)).1.length≤_
   rw[length_append] at e;exact Ig e
theorem lexAll_good:∀(n:Nat) (r:B),r.length≤n→hO r→∀{a:List Tok},lexAll r=some a→(∀t∈a,Good t)∧a.length≤r.length∧∀t∈a,tvLen t≤r.length:=by
 intro n
 induction n with
 |zero=>
  intro r hn hr a h
  obtain rfl:r=[]:=List.length_eq_zero_iff.mp (by lia)
  rw[lexAll_step,skip_nil] at h
  cases h
  exact⟨fun z h=>(nomatch h),le_refl _,fun z h=>(nomatch h)⟩
 |succ n ih=>
  intro r hn hr a h
  rw[lexAll_step] at h
  cases hs:skip r with
  |none=>rw[hs] at h;cases h
  |some v=>
   obtain⟨s1,s2⟩:=lR r.length r (le_refl _) hs
   have hle:=s1.length_le
   rw[hs] at h
   cases v with
   |nil=>cases h;exact⟨fun z h=>(nomatch h),zero_le _,fun z h=>(nomatch h)⟩
   |cons c t=>
    replace h:(readTok (c::t)).bind (fun p=>(lexAll p.2).map (p.1::·))=some a:=h
    cases hr2:readTok (c::t) with
    |none=>rw[hr2] at h;cases h
    |some p=>
     obtain⟨k,w⟩:=p
     rw[hr2] at h
     refine ak (map_eq_some_iff.mp h) fun b h1 q92=>?_;obtain rfl:=q92
     have hlw:=readTok_le hr2
     have hlk:=qC hr2
     obtain⟨i1,i2,i3⟩:=ih w (by simp at hlw hle;lia) ((hr.suf s1).suf (qw hr2)) h1
     refine⟨fun x hx=>?_,by simp at hlw hle⊢;lia,fun x hx=>?_⟩
     ·rcases mem_cons.mp hx with rfl|hx
      ·exact oN (hr.suf s1) s2 hr2
      ·exact i1 x hx
     ·rcases mem_cons.mp hx with rfl|hx
      ·exact le_trans hlk hle
      ·have:=i3 x hx;simp at hlw hle;lia
noncomputable def gS:Nat→B→Option Nat
 |c,[]=>some c
 |c,b::r=>if gt b then(if c+1≤15 then gS (c+1) r else none) else gS 0 r
theorem lX:∀(a b:B) (c:Nat),gS c (a++b)=(gS c a).bind (gS · b)
 | [],b,c=>rfl
 |x::a,b,c=>by
  show(if gt x=true then(if c+1≤15 then gS (c+1) (a++b) else none) else gS 0 (a++b))=(if gt x=true then(if c+1≤15 then gS (c+1) a else none) else gS 0 a).bind (gS · b)
  split
  ·split
   ·exact lX a b (c+1)
   ·rfl
  ·exact lX a b 0
theorem oP:∀(r:B) (c d:Nat),c≤15→gS c r=some d→hO r∧fE r+c≤15
 | [],c,d,hc,h=>⟨fun s hs=>by rw[List.suffix_nil.mp hs];exact zero_le _,by simpa [fE] using hc⟩
 |x::r,c,d,hc,h=>by
  replace h:(if gt x=true then(if c+1≤15 then gS (c+1) r else none) else gS 0 r)=some d:=h
  have key:∀{c':Nat},c'≤15→gS c' r=some d→fE (x::r)≤15→hO (x::r):=fun {c'} h1 h2 h3 s hs=>by
   rcases List.suffix_cons_iff.mp hs with rfl|hs
   ·exact h3
   ·exact(oP r c' d h1 h2).1 s hs
  have e:fE (x::r)=if gt x=true then fE r+1 else 0:=rfl
  split at h
  ·rename_i hx
   split at h
   ·rename_i hc2
    have:=oP r (c+1) d hc2 h
    rw[if_pos hx] at e
    exact⟨key hc2 h (by lia),by lia⟩
   ·cases h
  ·rename_i hx
   rw[if_neg hx] at e
   exact⟨key (zero_le _) h (by lia),by lia⟩
noncomputable def piecesP:List B:=pieces
theorem sO:((List.range 13).all fun c=>piecesP.all fun p=>match gS c p with |some d=>decide (d≤c+2)|none=>false)=true:=by decide +kernel
theorem sP:(piecesP.all fun p=>decide (p.length≤11))=true:=by decide +kernel
theorem qD:∀(ps:List B) (c:Nat),(∀p∈ps,p∈piecesP)→c+2 * ps.length≤12→∃d,gS c ps.flatten=some d∧d≤c+2 * ps.length
 | [],c,_,_=>⟨c,rfl,le_refl _⟩
 |p::ps,c,h,hc=>by
  simp only[length_cons] at hc⊢
  have h1:=all_eq_true.mp (all_eq_true.mp sO c (mem_range.mpr (by lia))) p (h p (.head _))
  split at h1
  ·rename_i d hd
   have h1:=of_decide_eq_true h1
   refine ak (qD ps d (fun q hq=>h q (.tail _ hq)) (by lia)) fun e he hle=>?_
   exact⟨e,by rw[flatten_cons,lX,hd];exact he,by lia⟩
  ·cases h1
set_option tactic.hygienic false
theorem qE:∀(ps:List B),(∀p∈ps,p∈piecesP)→ps.flatten.length≤11 * ps.length
 | [],_=>le_refl _
 |p::ps,h=>by
  have h1:=of_decide_eq_true (all_eq_true.mp sP p (h p (.head _)))
  have:=qE ps fun q hq=>h q (.tail _ hq)
  simp only[flatten_cons,length_append,length_cons]
  lia
theorem rows_ok{ps:List B}(h:∀p∈ps,p∈piecesP)(hl:ps.length≤6):hO ps.flatten∧ps.flatten.length≤66:=by
 refine ak (qD ps 0 h (by lia)) fun d h1 z=>?_
 exact⟨(oP _ 0 d (by decide) h1).1,le_trans (qE ps h) (by lia)⟩
end P
end
section
open _root_.PySem _root_.PySem.W _root_.PyProof.Rows _root_.PySem.Calls
section
theorem bind_ok{β γ:Type}{b:β}{σ:St}{f:β→St→af γ}:(af.ok b σ).bind f=f b σ:=rfl
theorem E7{β γ:Type}{H:Hp}{f:β→St→af γ}:(af.exc H).bind f=.exc H:=rfl
theorem C8{β γ:Type}{f:β→St→af γ}:(af.stuck:af β).bind f=.stuck:=rfl
theorem getElem?_c0{α:Type}{a:α}{l:List α}:(a::l)[0]? =some a:=rfl
theorem getElem?_cS{α:Type}{a:α}{l:List α}{n:Nat}:(a::l)[n+1]? =l[n]? :=rfl
theorem Ix{f:Fl}{σ:St}{vs:aC}:(af.ok f σ).fn vs=.ok f.back ⟨vs,σ.hp⟩:=rfl
theorem Hm{H:Hp}{vs:aC}:(af.exc H:af Fl).fn vs=.exc H:=rfl
theorem D8:Fl.next.back=V.none:=rfl
theorem E8{v:V}:(Fl.ret v).back=v:=rfl
noncomputable def gO(a:Addr):Bool:=[245,53,472,269,496,503].contains a
theorem yk{N n:Nat}{a:Addr}{vs:List V}{σ:St}:(aa N (n+1)).prim (.ref a) vs σ=kb N false (aa N n) vs σ a:=lI
theorem oQ{N n:Nat}{vs:List V}{σ:St}(d:bY)(hf:aM.find? (fun e=>e.addr==d.addr)=some d)(hs:gO d.addr=false)(hl:vs.length=d.np):
  (aa N (n+1)).prim (.ref d.addr) vs σ=(bj (aa N n) N d.body ⟨ar d.names vs,σ.hp⟩).fn σ.vars:=by
 rw[yk]
 unfold kb
 unfold gO at hs
 simp only[contains_cons,or_eq_false_iff,beq_eq_false_iff_ne,ne_eq] at hs
 refine zg hs fun h1 h2 h3 h4 h5 h6 z=>?_
 simp only[if_neg h1,if_neg h2,if_neg h3,if_neg h4,if_neg h5,if_neg h6]
 exact(ef hf).trans (if_pos hl)
theorem C9{N n:Nat}:(aa N n).isC=sI:=by cases n<;>rfl
theorem yl{N n:Nat}:(aa N n).mprim=aD:=by cases n<;>rfl
theorem ym{N n:Nat}:(aa N n).lists=dg:=by cases n<;>rfl
theorem i7{N n:Nat}:(aa N n).msel=xD:=by cases n<;>rfl
theorem yn{N n:Nat}:(aa N n).meths=[(472,eV)]:=by cases n<;>rfl
theorem Au{N n:Nat}:(aa N n).flds=[(472,gH),(269,iT),(53,fu)]:=by cases n<;>rfl
theorem uz{N n:Nat}{w:Value}{as:Es}{σ:St}(h:sI w=true):ev (aa N n) (.call (.con (.sta w)) as) σ=(fL (aa N n) as σ).bind fun vs σ=>(aa N n).prim w vs σ:=by
 show(if(aa N n).isC w=true then _ else _)=_
 rw[C9,if_pos h]
theorem gu{N n:Nat}{w:String}{vs:List V}{σ:St}(h:w≠"repr"):(aa N (n+1)).prim (.builtin w) vs σ=gh dg (.builtin w) vs σ:=by
 exact if_neg fun e=>h (Value.builtin.inj e)
theorem oR{N n:Nat}{w:String}{vs:List V}{σ:St}:(aa N (n+1)).prim (.type w) vs σ=gh dg (.type w) vs σ:=(xZ nofun:fD N false (aa N n) (.type w) vs σ=_)
theorem len_bytes{N n:Nat}{b:Bs}{σ:St}(h:b.length≤1000000):(aa N (n+1)).prim (.builtin "len") [.bytes b] σ=.ok (.int b.length) σ:=by
 rw[gu (by decide),xW]
 exact if_pos h
theorem dU{N n i:Nat}{b:Bs}{vs:aC}{H:Hp}(e:H[i]? =some (.ba b))(h:b.length≤1000000):(aa N (n+1)).prim (.builtin "len") [.ref i] ⟨vs,H⟩=.ok (.int b.length) ⟨vs,H⟩:=by
 rw[gu (by decide),xW]
 exact(ef e:seqK H[i]? _ _=_).trans (if_pos h)
theorem qF{N n i:Nat}{b:List V}{vs:aC}{H:Hp}(e:H[i]? =some (.list b))(h:b.length≤1000000):(aa N (n+1)).prim (.builtin "len") [.ref i] ⟨vs,H⟩=.ok (.int b.length) ⟨vs,H⟩:=by
 rw[gu (by decide),xW]
 exact(ef e:seqK H[i]? _ _=_).trans (if_pos h)
theorem dW{N n i:Nat}{b:Bs}{vs:aC}{H:Hp}(e:H[i]? =some (.ba b))(h:b.length≤1000000):(aa N (n+1)).prim (.type "bytes") [.ref i] ⟨vs,H⟩=.ok (.bytes b) ⟨vs,H⟩:=by
 rw[oR,ug]
 exact(ef e:seqK H[i]? _ _=_).trans (if_pos h)
theorem nk:∀b:Bs,jv (b.map fun c=>V.int c.toNat)=some (b.map fun c=>(c.toNat:Int))
 | []=>rfl
 |c::r=>by
  have:=c.toNat_lt
  rw[map_cons,jv,if_pos (by lia),nk r]
  rfl
theorem uA:∀b:Bs,CI (b.map fun c=>(c.toNat:Int))=b
 | []=>rfl
 |c::r=>by
  have:=uA r
  unfold CI at this⊢
  simp at this⊢
  exact this
theorem dX{N n i:Nat}{b:Bs}{vs:aC}{H:Hp}(e:H[i]? =some (.list (b.map fun c=>V.int c.toNat)))(h:b.length≤1000000):(aa N (n+1)).prim (.type "bytes") [.ref i] ⟨vs,H⟩=.ok (.bytes b) ⟨vs,H⟩:=by
 rw[oR,ug]
 exact(ef e:seqK H[i]? _ _=_).trans ((if_pos (by rw[List.length_map];exact h)).trans ((ef (nk b)).trans (by rw[uA])))
theorem yo{N n:Nat}{vs:aC}{H:Hp}:(aa N (n+1)).prim (.type "bytearray") [] ⟨vs,H⟩=.ok (.ref H.length) ⟨vs,H++[.ba []]⟩:=by
 rw[oR,Hg];rfl
theorem fS{γ:Type}{o:Option O}{l:List V}{f:List V→af γ}(h:o=some (.list l)):oL o f=f l:=by rw[h];rfl
theorem E9{γ:Type}{o:Option O}{l:Bs}{f:Bs→af γ}(h:o=some (.ba l)):oB o f=f l:=by rw[h];rfl
theorem Fa{γ:Type}{o:Option O}{l:List (Bs×Int)}{f:List (Bs×Int)→af γ}(h:o=some (.dict l)):oD o f=f l:=by rw[h];rfl
theorem Bi{γ:Type}{o:Option O}{C:Addr}{fs:List (Nat×V)}{f:Addr→List (Nat×V)→af γ}(h:o=some (.inst C fs)):oI o f=f C fs:=by rw[h];rfl
theorem jL{N n i m:Nat}{H:Hp}{l:List V}(h:H[i]? =some (.list l)):ay (aa N n) (.ref i) m H=(xC (.list l) m).map (.prim · (.ref i)):=by
 exact(dz (by rintro⟨j,C,fs,e,k⟩;cases e;rw[h] at k;cases k)).trans (by rw[i7];show Option.map _ (H[i]?.bind _)=_;rw[h];rfl)
theorem Av{N n i m:Nat}{H:Hp}{l:Bs}(h:H[i]? =some (.ba l)):ay (aa N n) (.ref i) m H=(xC (.ba l) m).map (.prim · (.ref i)):=by
 exact(dz (by rintro⟨j,C,fs,e,k⟩;cases e;rw[h] at k;cases k)).trans (by rw[i7];show Option.map _ (H[i]?.bind _)=_;rw[h];rfl)
theorem yp{N n i m:Nat}{H:Hp}{l:List (Bs×Int)}(h:H[i]? =some (.dict l)):ay (aa N n) (.ref i) m H=(xC (.dict l) m).map (.prim · (.ref i)):=by
 exact(dz (by rintro⟨j,C,fs,e,k⟩;cases e;rw[h] at k;cases k)).trans (by rw[i7];show Option.map _ (H[i]?.bind _)=_;rw[h];rfl)
theorem Da{t:Tb}{a:Addr}{k:Int}{σ:St}:cf t (.sta (.ref a)) (.int k) σ=oO (t.lists.lookup a) fun l=>if 0≤k∧k < 1000000 then ofOpt σ l[k.toNat]? else .stuck:=rfl
theorem oS{lo hi:V}{lo' hi':Option Int}{o:O}{i:Nat}{vs:aC}{H:Hp}(h:H[i]? =some o)(h1:dK lo=some lo')(h2:dK hi=some hi'):aZ (.ref i) lo hi ⟨vs,H⟩=rD i o lo' hi' ⟨vs,H⟩:=by
 unfold aZ;rw[h1,h2];show oO H[i]? _=_;rw[h];rfl
theorem lY{lo hi:V}{lo' hi':Option Int}{b:Bs}{i:Nat}{vs:aC}{H:Hp}(h:H[i]? =some (.ba b))(hz:b.length≤1000000)(h1:dK lo=some lo')(h2:dK hi=some hi'):aZ (.ref i) lo hi ⟨vs,H⟩=.ok (.ref H.length) ⟨vs,H++[.ba (gU b lo' hi')]⟩:=(oS h h1 h2).trans (if_pos hz)
theorem uC{lo hi:V}{lo' hi':Option Int}{b:List V}{i:Nat}{vs:aC}{H:Hp}(h:H[i]? =some (.list b))(hz:b.length≤1000000)(h1:dK lo=some lo')(h2:dK hi=some hi'):aZ (.ref i) lo hi ⟨vs,H⟩=.ok (.ref H.length) ⟨vs,H++[.list (gU b lo' hi')]⟩:=(oS h h1 h2).trans (if_pos hz)
theorem yq{lo hi:V}{lo' hi':Option Int}{b:List V}{i:Nat}{vs:aC}{H:Hp}(h:H[i]? =some (.flist b))(hz:b.length≤1000000)(h1:dK lo=some lo')(h2:dK hi=some hi'):aZ (.ref i) lo hi ⟨vs,H⟩=.ok (.ref H.length) ⟨vs,H++[.list (gU b lo' hi')]⟩:=(oS h h1 h2).trans (if_pos hz)
noncomputable def Db(C:Addr)(m:Nat):Bool:=((([(472,gH),(269,iT),(53,fu)]:List (Addr×List Nat)).lookup C).getD []).contains m
theorem Bj{N n:Nat}{C:Addr}{m:Nat}:mL (aa N n) C m=Db C m:=by unfold mL;rw[Au];rfl
theorem eA{N n i m:Nat}{H:Hp}{vs:aC}{C:Addr}{fs:List (Nat×V)}{u:V}(h:H[i]? =some (.inst C fs))(hf:Db C m=true)(hl:fs.lookup m=some u)(hs:wN u=false):aX (aa N n) (.ref i) m ⟨vs,H⟩=.ok u ⟨vs,H⟩:=
 (Bi h).trans ((if_pos (Bj.trans hf)).trans ((congrArg (fun o=>oO o _) hl).trans (if_pos hs)))
theorem i8{N n i m:Nat}{H:Hp}{vs:aC}{C:Addr}{fs:List (Nat×V)}{u:V}(h:H[i]? =some (.inst C fs))(hf:Db C m=true)(hl:fs.length≤100):aY (aa N n) (.ref i) m u ⟨vs,H⟩=.ok () ⟨vs,H.set i (.inst C (jl m u fs))⟩:=
 (Bi h).trans (if_pos ⟨Bj.trans hf,hl⟩)
theorem al{H:Hp}{o:O}:(H++[o])[H.length]? =some o:=by simp
theorem uD{H:Hp}{o o':O}:(H++[o]++[o'])[H.length]? =some o:=by simp
theorem Hn{H:Hp}{o o':O}{i:Nat}(h:H[i]? =some o):(H++[o'])[i]? =some o:=by
 rw[getElem?_append_left (List.getElem?_eq_some_iff.mp h).1,h]
noncomputable def oT(t:Tb):vk→List V→St→af V
 | .fn f self,ws,σ=>t.prim (.ref f) (self::ws) σ
 | .prim id self,ws,σ=>t.mprim id self ws σ
noncomputable def qG(t:Tb)(N:Nat)(r:Ss):af Fl→af Fl
 | .ok .next σ=>bj t N r σ
 | .ok f σ=>.ok f σ
 | .exc H=>.exc H
 | .stuck=>.stuck
noncomputable def nq:af V→af Fl
 | .ok (.ref _) _=>.stuck
 | .ok (.sta _) _=>.stuck
 | .ok _ σ=>.ok .next σ
 | .exc H=>.exc H
 | .stuck=>.stuck
noncomputable def yr(i:Nat):af V→af Fl
 | .ok v σ=>.ok .next ⟨σ.vars.set i (some v),σ.hp⟩
 | .exc H=>.exc H
 | .stuck=>.stuck
noncomputable def qH:af V→af Fl
 | .ok v σ=>.ok (.ret v) σ
 | .exc H=>.exc H
 | .stuck=>.stuck
section
variable {t:Tb}{N n m i:Nat}{σ σ1 σ2:St}{vs vs1 vs2 vs3:aC}{H H1 H2 H3:Hp}{R:af V}{Q:af Fl}{v w u a b:V}{e l r o c:E}{as es:Es}{ws us:List V}{p q:Bool}{A B:Ss}
theorem Fb:ev t (.con v) σ=.ok v σ:=rfl
theorem Fc(h:vs[i]? =some (some v)):ev t (.loc i) ⟨vs,H⟩=.ok v ⟨vs,H⟩:=by rw[BV,h]
theorem Dc(x:ev t e σ=.ok w σ1)(y:aX t w n σ1=R):ev t (.attr e n) σ=R:=by rw[zy,x];exact y
theorem Fd{op:Operator}(x:ev t l σ=.ok a σ1)(y:ev t r σ1=.ok b σ2)(z:dy op a b σ2=R):ev t (.bin op l r) σ=R:=by rw[BW,x,bind_ok,y];exact z
theorem Fe{k:Int}(x:ev t e σ=.ok (.int k) σ1):ev t (.neg e) σ=.ok (.int (-k)) σ1:=by rw[BX,x];rfl
theorem Ff(x:ev t e σ=.ok (.bool p) σ1):ev t (.not e) σ=.ok (.bool (!p)) σ1:=by rw[BY,x];rfl
theorem Fg(x:ev t l σ=.ok (.bool p) σ1)(y:(bif p then ev t r σ1 else .ok (.bool false) σ1)=R):ev t (.and l r) σ=R:=by rw[wT,x];cases p<;>exact y
theorem Ho(x:ev t l σ=.ok (.bool p) σ1)(y:(bif p then .ok (.bool true) σ1 else ev t r σ1)=R):ev t (.or l r) σ=R:=by rw[A2,x];cases p<;>exact y
theorem Fh{op:CmpOp}(x:ev t l σ=.ok a σ1)(y:ev t r σ1=.ok b ⟨vs2,H2⟩)(z:aQ H2 op a b=some p):ev t (.cmp op l r) σ=.ok (.bool p) ⟨vs2,H2⟩:=by rw[BZ,x,bind_ok,y,bind_ok,z];rfl
theorem Dd{o1 o2:CmpOp}{l r c:E}(x:ev t l σ=.ok u σ1)(y:ev t r σ1=.ok v ⟨vs2,H2⟩)(y2:ev t c ⟨vs2,H2⟩=.ok w ⟨vs2,H2⟩)(z:aQ H2 o1 u v=some p)(z2:aQ H2 o2 v w=some q):ev t (.cmp2 o1 o2 l r c) σ=.ok (.bool (p&&q)) ⟨vs2,H2⟩:=by
 rw[zz,x,bind_ok,y,bind_ok,z]
 cases p with
 |false=>rfl
 |true=>dsimp only;rw[y2,bind_ok,z2];rfl
theorem Fi{l r c:E}(x:ev t c σ=.ok (.bool p) σ1)(y:(bif p then ev t l σ1 else ev t r σ1)=R):ev t (.ite c l r) σ=R:=by rw[wU,x];cases p<;>exact y
theorem De{s:vk}(x:ev t o σ=.ok w ⟨vs1,H1⟩)(y:ay t w m H1=some s)(z:fL t as ⟨vs1,H1⟩=.ok ws σ2)(k:oT t s ws σ2=R):ev t (.meth o m as) σ=R:=by
 rw[tN,x,bind_ok,y]
 cases s<;>(dsimp only;rw[z];exact k)
theorem Hq{f:Addr}(k:t.prim (.ref f) (w::ws) σ=R):oT t (.fn f w) ws σ=R:=k
theorem Hr{id:String}(k:aD id w ws σ=R):oT (aa N n) (.prim id w) ws σ=R:=by rw[←yl (N:=N) (n:=n)] at k;exact k
theorem Df(x:fL t es σ=.ok ws ⟨vs1,H1⟩)(y:ws.length≤1000):ev t (.list es) σ=.ok (.ref H1.length) ⟨vs1,H1++[.list ws]⟩:=by rw[zA,x,bind_ok,if_pos y]
theorem Fj(x:fL t es σ=.ok ws ⟨vs1,H1⟩)(y:ws.length≤1000):ev t (.tup es) σ=.ok (.ref H1.length) ⟨vs1,H1++[.tup ws]⟩:=by rw[B0,x,bind_ok,if_pos y]
theorem Fk(x:ev t l σ=.ok a σ1)(y:ev t r σ1=.ok b σ2)(z:cf t a b σ2=R):ev t (.sub l r) σ=R:=by rw[B1,x,bind_ok,y];exact z
theorem Fm{σ3:St}(x:ev t e σ=.ok a σ1)(y:ev t l σ1=.ok b σ2)(z:ev t r σ2=.ok u σ3)(k:aZ a b u σ3=R):ev t (.slc e l r) σ=R:=by rw[B2,x,bind_ok,y,bind_ok,z];exact k
theorem Dg{w:Value}(h:sI w=true)(x:fL (aa N n) as σ=.ok ws σ1)(y:(aa N n).prim w ws σ1=R):ev (aa N n) (.call (.con (.sta w)) as) σ=R:=by rw[uz h,x];exact y
theorem Fn:fL t .nil σ=.ok [] σ:=rfl
theorem Dh(x:ev t e σ=.ok v σ1)(y:fL t es σ1=.ok ws σ2):fL t (.cons e es) σ=.ok (v::ws) σ2:=by rw[lg,x,bind_ok,y];rfl
theorem aS{α:Type}{x y z:α}(h:p=true)(k:x=z):(bif p then x else y)=z:=by rw[h];exact k
theorem aA{α:Type}{x y z:α}(h:p=false)(k:y=z):(bif p then x else y)=z:=by rw[h];exact k
theorem Fo:bj t N .nil σ=.ok .next σ:=rfl
theorem yt{s:S}{x:af Fl}(h:ex t N s σ=x)(k:qG t N A x=Q):bj t N (.cons s A) σ=Q:=by
 rw[xa,h]
 cases x with
 |ok f σ=>cases f<;>exact k
 |_=>exact k
theorem IZ(k:bj t N A σ=Q):qG t N A (.ok .next σ)=Q:=k
theorem I0:qG t N A (.ok (.ret v) σ)=.ok (.ret v) σ:=rfl
theorem I2:qG t N A (.ok .brk σ)=.ok .brk σ:=rfl
theorem I3:qG t N A (.exc H)=.exc H:=rfl
theorem Di{y:af V}(h:ev t e σ=y)(k:nq y=Q):ex t N (.expr e) σ=Q:=by
 rw[zL,h]
 cases y with
 |ok v σ=>cases v<;>exact k
 |_=>exact k
theorem Fp{y:af V}(h:ev t e σ=y)(k:yr i y=Q):ex t N (.asg i e) σ=Q:=by rw[Ck,h];cases y<;>exact k
theorem Fq{y:af V}(h:ev t e σ=y)(k:qH y=Q):ex t N (.ret e) σ=Q:=by rw[Cn,h];cases y<;>exact k
theorem Dj{b:Bs}(h:ev t e σ=.ok (.bytes b) ⟨vs1,H1⟩):ex t N (.rais e) σ=.exc H1:=by rw[zP,h];rfl
theorem Hs{k:Int}:nq (.ok (.int k) σ)=.ok .next σ:=rfl
theorem Ht:nq (.ok .none σ)=.ok .next σ:=rfl
theorem Hu:nq (.ok (.bool p) σ)=.ok .next σ:=rfl
theorem Hv{b:Bs}:nq (.ok (.bytes b) σ)=.ok .next σ:=rfl
theorem Hw:nq (.exc H)=.exc H:=rfl
theorem I4:yr i (.ok v ⟨vs,H⟩)=.ok .next ⟨vs.set i (some v),H⟩:=rfl
theorem Hx:yr i (.exc H)=.exc H:=rfl
theorem I5:qH (.ok v σ)=.ok (.ret v) σ:=rfl
theorem Hy:qH (.exc H)=.exc H:=rfl
theorem Fs(h:(af.exc H:af Fl)=Q):(af.exc H:af Fl)=Q:=h
theorem Dk{σ3:St}(x:ev t e σ=.ok v σ1)(y:ev t o σ1=.ok w σ2)(z:aY t w n v σ2=.ok () σ3):ex t N (.setA o n e) σ=.ok .next σ3:=by rw[tS,x,bind_ok,y,bind_ok,z];rfl
theorem Dl{σ3 σ4:St}{i:E}(x:ev t e σ=.ok v σ1)(y:ev t o σ1=.ok w σ2)(z:ev t i σ2=.ok u σ3)(k:cU w u v σ3=.ok () σ4):ex t N (.setI o i e) σ=.ok .next σ4:=by rw[zM,x,bind_ok,y,bind_ok,z,bind_ok,k];rfl
theorem Dm{rev:Bool}{is:List Nat}(x:ev t e σ=.ok v σ1)(y:cG rev is v σ1=Q):ex t N (.unpk rev is e) σ=Q:=by rw[zN,x];exact y
theorem Ft{op:Operator}(h:vs[i]? =some (some a))(x:ev t e ⟨vs,H⟩=.ok v ⟨vs1,H1⟩)(y:eR op a v=some w):ex t N (.aug i op e) ⟨vs,H⟩=.ok .next ⟨vs1.set i (some w),H1⟩:=by rw[Cl,h];dsimp only;rw[x,bind_ok,y];rfl
theorem Dn{op:Operator}{σ3 σ4:St}(x:ev t o σ=.ok w σ1)(y:aX t w n σ1=.ok a σ2)(z:ev t e σ2=.ok v σ3)(k:eR op a v=some u)(k2:aY t w n u σ3=.ok () σ4):ex t N (.augA o n op e) σ=.ok .next σ4:=by
 rw[zO,x,bind_ok,y,bind_ok,z,bind_ok,k];show(aY t w n u σ3).bind _=_;rw[k2];rfl
theorem Fu(x:ev t c σ=.ok (.bool p) σ1)(y:(bif p then bj t N A σ1 else bj t N B σ1)=Q):ex t N (.ite c A B) σ=Q:=by rw[Cm,x];cases p<;>exact y
theorem Fv(x:Wh t N c A N σ=Q):ex t N (.whl c A) σ=Q:=x
theorem Do:ex t N .ret0 σ=.ok (.ret .none) σ:=rfl
theorem Fw:ex t N .brk σ=.ok .brk σ:=rfl
theorem Dp:ex t N .pass σ=.ok .next σ:=rfl
theorem dY{k:Nat}(x:ev t c σ=.ok (.bool p) σ1)(hp:p=true)(y:bj t N A σ1=.ok .next σ2)(z:Wh t N c A k σ2=Q):Wh t N c A (k+1) σ=Q:=by rw[gG,x,hp];dsimp only[af.bind];rw[y];exact z
theorem bW{k:Nat}(x:ev t c σ=.ok (.bool p) σ1)(hp:p=false):Wh t N c A (k+1) σ=.ok .next σ1:=by rw[gG,x,hp];rfl
theorem Bk{k:Nat}(x:ev t c σ=.ok (.bool p) σ1)(hp:p=true)(y:bj t N A σ1=.ok .brk σ2):Wh t N c A (k+1) σ=.ok .next σ2:=by rw[gG,x,hp];dsimp only[af.bind];rw[y]
theorem Fy{k:Nat}(x:ev t c σ=.ok (.bool p) σ1)(hp:p=true)(y:bj t N A σ1=.ok (.ret v) σ2):Wh t N c A (k+1) σ=.ok (.ret v) σ2:=by rw[gG,x,hp];dsimp only[af.bind];rw[y]
theorem kh{k:Nat}(x:ev t c σ=.ok (.bool p) σ1)(hp:p=true)(y:bj t N A σ1=.exc H):Wh t N c A (k+1) σ=.exc H:=by rw[gG,x,hp];dsimp only[af.bind];rw[y]
theorem aw(d:bY)(hf:aM.find? (fun e=>e.addr==d.addr)=some d)(hs:gO d.addr=false)(hl:ws.length=d.np)(x:bj (aa N n) N d.body ⟨ar d.names ws,H⟩=.ok (.ret v) ⟨vs1,H1⟩):
  (aa N (n+1)).prim (.ref d.addr) ws ⟨vs,H⟩=.ok v ⟨vs,H1⟩:=by rw[oQ d hf hs hl,x];rfl
theorem fc(d:bY)(hf:aM.find? (fun e=>e.addr==d.addr)=some d)(hs:gO d.addr=false)(hl:ws.length=d.np)(x:bj (aa N n) N d.body ⟨ar d.names ws,H⟩=.ok .next ⟨vs1,H1⟩):
  (aa N (n+1)).prim (.ref d.addr) ws ⟨vs,H⟩=.ok .none ⟨vs,H1⟩:=by rw[oQ d hf hs hl,x];rfl
theorem dw(d:bY)(hf:aM.find? (fun e=>e.addr==d.addr)=some d)(hs:gO d.addr=false)(hl:ws.length=d.np)(x:bj (aa N n) N d.body ⟨ar d.names ws,H⟩=.exc H1):
  (aa N (n+1)).prim (.ref d.addr) ws ⟨vs,H⟩=.exc H1:=by rw[oQ d hf hs hl,x];rfl
theorem Fz{op:CmpOp}(h:aQ H op a b=some p):aQ H op a b=some p:=h
theorem FA{op:Operator}(h:eR op a b=some u):eR op a b=some u:=h
theorem FC{op:Operator}(h:dy op a b σ=.ok u σ1):dy op a b σ=.ok u σ1:=h
theorem FD(h:(af.ok v σ:af V)=R):(af.ok v σ:af V)=R:=h
theorem FE{f:Fl}(h:(af.ok f σ:af Fl)=Q):(af.ok f σ:af Fl)=Q:=h
theorem FF(h:(af.ok ws σ:af (List V))=.ok us σ1):(af.ok ws σ:af (List V))=.ok us σ1:=h
theorem FG{x y:Unit}(h:(af.ok x σ:af Unit)=.ok y σ1):(af.ok x σ:af Unit)=.ok y σ1:=h
theorem FH(h:(af.exc H:af V)=R):(af.exc H:af V)=R:=h
theorem FI(h:(af.ok Fl.next σ:af Fl)=Q):bj t N .nil σ=Q:=h
theorem lZ{σ':St}(h:bj t N A σ=bj t N A σ'):bj t N A σ=bj t N A σ':=h
theorem sQ{f:Addr}:(aa N n).prim (.ref f) ws σ=(aa N n).prim (.ref f) ws σ:=rfl
theorem sR{y:af V}:qH y=qH y:=rfl
theorem sS{y:af V}:qG t N A (qH y)=qH y:=by cases y<;>rfl
theorem yu{rev:Bool}{is:List Nat}(h:cG rev is v σ=Q):cG rev is v σ=Q:=h
theorem FJ{x:af Fl}(h:qG t N A x=Q):qG t N A x=Q:=h
theorem Dq{d:bY}(h:bj t N d.body σ=Q):bj t N d.body σ=Q:=h
theorem Dr{α:Type}{x y:α}(h:some x=some y):some x=some y:=h
theorem I6:true=true:=rfl
theorem I7:false=false:=rfl
theorem jM(h:p=false):(!p)=true:=by rw[h];rfl
theorem sT(h:p=true):(!p)=false:=by rw[h];rfl
theorem FK:(!false)=true:=rfl
theorem Hz:(!true)=false:=rfl
theorem FL(h:ws.length≤1000):ws.length≤1000:=h
theorem HA{i j:Int}:aQ H .Lt (.int i) (.int j)=some (decide (i < j)):=rfl
theorem HB{i j:Int}:aQ H .LtE (.int i) (.int j)=some (decide (i≤j)):=rfl
theorem HC{i j:Int}:aQ H .Gt (.int i) (.int j)=some (decide (j < i)):=rfl
theorem HD{i j:Int}:aQ H .GtE (.int i) (.int j)=some (decide (j≤i)):=rfl
theorem HE{i j:Int}:aQ H .Eq (.int i) (.int j)=some (decide (i=j)):=rfl
theorem HF{i j:Int}:aQ H .NotEq (.int i) (.int j)=some (!decide (i=j)):=rfl
theorem FM{i j:Int}:dy .Add (.int i) (.int j) σ=.ok (.int (i+j)) σ:=rfl
theorem FN{i j:Int}:dy .Sub (.int i) (.int j) σ=.ok (.int (i - j)) σ:=rfl
theorem FO{i j:Int}:eR .Add (.int i) (.int j)=some (.int (i+j)):=rfl
theorem bp{k:Nat}(h:Wh t N c A k σ=Q):Wh t N c A k σ=Q:=h
theorem qI(h:H[i]? =some (.tup ws)):jX H i=cF ws:=by unfold jX;rw[h]
theorem eN{ns:List Int}{k:Int}(h:H[i]? =some (.tup ws))(hl:cF ws=some ns)(hn:ns.any (·==k)=p):aQ H .In (.int k) (.ref i)=some p:=by
 show(jX H i).map _=_
 rw[qI h,hl];exact congrArg some hn
theorem uE{ns:List Int}{k:Int}(h:H[i]? =some (.tup ws))(hl:cF ws=some ns)(hn:ns.any (·==k)=p):aQ H .NotIn (.int k) (.ref i)=some (!p):=by
 show(jX H i).map _=_
 rw[qI h,hl];exact congrArg (fun b=>some (!b)) hn
theorem yv{k j:Nat}(h:H[i]? =some (.tup [a,b])):cG true [k,j] (.ref i) ⟨vs,H⟩=.ok .next ⟨(vs.set j (some b)).set k (some a),H⟩:=by
 exact ef ((congrArg (Option.bind · nS) h).trans rfl)
theorem FP{k j:Nat}(h:H[i]? =some (.tup [a,b])):cG false [k,j] (.ref i) ⟨vs,H⟩=.ok .next ⟨(vs.set k (some a)).set j (some b),H⟩:=by
 exact ef ((congrArg (Option.bind · nS) h).trans rfl)
theorem FQ{k:Nat}:dy .Mod (.int k) (.int 10) σ=.ok (.int ((k % 10:Nat):Int)) σ:=by
 show af.ok (V.int ((k:Int).fmod 10)) σ=_
 rw[Int.fmod_eq_emod_of_nonneg _ (by decide)];rfl
theorem FS{k:Nat}:dy .FloorDiv (.int k) (.int 10) σ=.ok (.int ((k / 10:Nat):Int)) σ:=by
 show af.ok (V.int ((k:Int).fdiv 10)) σ=_
 rw[Int.fdiv_eq_ediv_of_nonneg _ (by decide)];rfl
end
end
local macro_rules | `(tactic| wtm_at "e") => `(tactic| first
 |apply_rules (maxDepth:=1) (transparency:=.reducible) (symm:=false) (exfalso:=false) only[Fb,Fn,Dc,Dh,IZ,Fo,yt,Fp,Dk,Di,Fu,Fq,Fd,Fh,De,Hq,Hr,Fg,Ho,Ff,Fk,Df,Fj,Dd,Fe,Fm,Fi,I0,I2,I3,Dn,Fv,Fw,Do,Dp,Dl,Dm,HE,HF,HA,HB,HC,HD,Ht,I4,I5,Hu,Hs,Hv,Hw,Hx,Hy,Dj,FM,FN,FO,(aS rfl),(aA rfl),(aS FK),(aA Hz),I6,I7]
 |((with_reducible apply Fc);exact rfl)|((with_reducible apply Dg);exact rfl)|((with_reducible apply Ft);exact rfl)
 |((with_reducible (first|apply FI|apply FD|apply FE|apply FF|apply FG|apply FH|apply Fs|apply FJ|apply Fz|apply FA|apply FC|apply Dr));exact rfl)|((with_reducible apply FL);exact le_of_ble_eq_true rfl)|((with_reducible apply Dq);apply yt))
local macro_rules | `(tactic| wtm_at "t") => `(tactic| first | ((with_reducible apply AQ); exact rfl) | wtm_at "e" | ((with_reducible apply Gu); exact rfl))
section
theorem sU{N n:Nat}{i:Int}{vs:aC}{H:Hp}:(aa N (n+1)).prim (.ref 196) [.int i] ⟨vs,H⟩=.ok (.bool (decide (48≤i)&&decide (i≤57))) ⟨vs,H⟩:=by
 apply aw lC rfl rfl rfl
 repeat first|wtm_at "e"
theorem qJ{N n:Nat}{i:Int}{vs:aC}{H:Hp}:(aa N (n+1)).prim (.ref 203) [.int i] ⟨vs,H⟩=.ok (.bool ((decide (65≤i)&&decide (i≤90))||((decide (97≤i)&&decide (i≤122))||decide (i=95)))) ⟨vs,H⟩:=by
 apply aw j8 rfl rfl rfl
 cases h:(decide (65≤i)&&decide (i≤90))<;>cases h2:(decide (97≤i)&&decide (i≤122))<;>(repeat first|with_reducible apply aS h|with_reducible apply aA h|with_reducible apply aS h2|with_reducible apply aA h2|wtm_at "e")
end
structure LC where
 T:Bs
 src:Bs
 chunk:Bs
 lim:Nat
 kd:Nat
 L:Nat
 keep:Nat→Option O
structure LX where
 r:Bs
 buf:Bs
 line:Int
 ll:V
 cur:V
 bi:Nat
noncomputable def sgn:Bs→Int
 | []=> -1
 |c::_=>c.toNat
noncomputable def LF(c:LC)(a sg:Int)(x:LX):O:=.inst 472 [(18,.bytes c.T),(17,.bytes c.src),(16,.bytes c.chunk),(15,.ref c.lim),(14,.ref c.kd),(13,.int a),(12,.int sg),(11,.int x.line),(10,x.ll),(9,.ref x.bi),(8,x.cur),(7,.none)]
noncomputable def gv:O:=.inst 53 [(0,.int 64),(46,.int 250),(47,.int 60),(48,.int 200),(49,.int 40),(50,.int 200),(51,.int 2000),(52,.int 50),(53,.int 1000000000),(18,.int 1000000)]
structure LS(c:LC)(x:LX)(H:Hp):Prop where
 obj:H[c.L]? =some (LF c (c.T.length - x.r.length) (sgn x.r) x)
 buf:H[x.bi]? =some (.ba x.buf)
 ne:x.bi≠c.L
 keep:∀i o,c.keep i=some o→H[i]? =some o∧i≠c.L∧i≠x.bi
 suf:∃u,c.T=u++x.r
 len:c.T.length≤500000
 line:1≤x.line∧x.line+x.r.length≤c.T.length+1
 lim:c.keep c.lim=some gv
 kd:c.keep c.kd=some (.dict ax)
 chk:c.chunk.length≤1000
noncomputable def Kp(c:LC)(H:Hp):Prop:=∀i o,c.keep i=some o→H[i]? =some o
inductive Go (c:LC) (x:LX) (v:V) (f:aC→af V):Prop
 |mk (H':Hp) (e:∀vs,f vs=.ok v ⟨vs,H'⟩) (l:LS c x H')
inductive Ds (c:LC) (f:aC→af V):Prop
 |mk (H':Hp) (e:∀vs,f vs=.exc H') (k:Kp c H')
inductive HG (c:LC) (x:LX) (r:af Fl) (ws:aC):Prop
 |mk (H':Hp) (e:r=.ok .next ⟨ws,H'⟩) (l:LS c x H')
inductive Aw (c:LC) (r:af Fl):Prop
 |mk (H':Hp) (e:r=.exc H') (k:Kp c H')
theorem be{c:LC}{x:LX}{v:V}{f:aC→af V}{P:Prop}(h:Go c x v f)(k:∀H',(∀vs,f vs=.ok v ⟨vs,H'⟩)→LS c x H'→P):P:=h.rec k
theorem dx{c:LC}{f:aC→af V}{P:Prop}(h:Ds c f)(k:∀H',(∀vs,f vs=.exc H')→Kp c H'→P):P:=h.rec k
theorem yw{c:LC}{x:LX}{r:af Fl}{ws:aC}{P:Prop}(h:HG c x r ws)(k:∀H',r=.ok .next ⟨ws,H'⟩→LS c x H'→P):P:=h.rec k
theorem sV{c:LC}{r:af Fl}{P:Prop}(h:Aw c r)(k:∀H',r=.exc H'→Kp c H'→P):P:=h.rec k
section
variable {N n:Nat}{c:LC}{x:LX}{H:Hp}{vs:aC}{a sg:Int}
theorem LS.kp(h:LS c x H):Kp c H:=fun i o e=>(h.keep i o e).1
theorem LS.limAt(h:LS c x H):H[c.lim]? =some gv:=(h.keep _ _ h.lim).1
theorem LS.kdAt(h:LS c x H):H[c.kd]? =some (.dict ax):=(h.keep _ _ h.kd).1
theorem ai{α:Type}{l:List α}{i:Nat}{o:α}(h:l[i]? =some o):i < l.length:=(List.getElem?_eq_some_iff.mp h).1
theorem LS.app(h:LS c x H)(M:Hp):LS c x (H++M):=by
 have key:∀{i:Nat} {o:O},H[i]? =some o→(H++M)[i]? =some o:=fun {i o} e=>by rw[getElem?_append_left (ai e),e]
 exact⟨key h.obj,key h.buf,h.ne,fun i o e=>⟨key (h.keep i o e).1,(h.keep i o e).2⟩,h.suf,h.len,h.line,h.lim,h.kd,h.chk⟩
theorem LS.app_inv{M:Hp}{i:Nat}{o:O}(e:H[i]? =some o):(H++M)[i]? =some o:=by rw[getElem?_append_left (ai e),e]
theorem LS.setBuf(h:LS c x H)(b:Bs):LS c { x with buf:=b } (H.set x.bi (.ba b)):=by
 refine⟨?_,?_,h.ne,fun i o e=>?_,h.suf,h.len,h.line,h.lim,h.kd,h.chk⟩
 ·rw[getElem?_set_ne h.ne];exact h.obj
 ·simp[ai h.buf]
 ·refine jj (h.keep i o e) fun e1 e2 e3=>?_
  exact⟨by rw[getElem?_set_ne (Ne.symm e3)];exact e1,e2,e3⟩
theorem LS.setObj(h:LS c x H){x':LX}(hb:x'.bi=x.bi)(hbuf:x'.buf=x.buf)(hs:∃u,c.T=u++x'.r)(hl:1≤x'.line∧x'.line+x'.r.length≤c.T.length+1):LS c x' (H.set c.L (LF c (c.T.length - x'.r.length) (sgn x'.r) x')):=by
 refine⟨by simp[ai h.obj],?_,by rw[hb];exact h.ne,fun i o e=>?_,hs,h.len,hl,h.lim,h.kd,h.chk⟩
 ·rw[hb,hbuf,getElem?_set_ne (Ne.symm h.ne)];exact h.buf
 ·refine jj (h.keep i o e) fun e1 e2 e3=>?_
  exact⟨by rw[getElem?_set_ne (Ne.symm e2)];exact e1,e2,by rw[hb];exact e3⟩
theorem LS.newBuf(h:LS c x H){x':LX}(hb:x'.bi=H.length)(hbuf:x'.buf=[])(hr:x'.r=x.r)(hl:x'.line=x.line):LS c x' ((H++[O.ba []]).set c.L (LF c (c.T.length - x'.r.length) (sgn x'.r) x')):=by
 have hlt:=ai h.obj
 refine⟨by rw[getElem?_set_self (by rw[length_append];lia)],?_,by rw[hb];exact ne_of_gt hlt,fun i o e=>?_,by rw[hr];exact h.suf,h.len,by rw[hl,hr];exact h.line,h.lim,h.kd,h.chk⟩
 ·rw[hb,hbuf,getElem?_set_ne (ne_of_lt hlt)];simp
 ·refine jj (h.keep i o e) fun e1 e2 e3=>?_
  have:=ai e1
  refine⟨by rw[getElem?_set_ne (Ne.symm e2),getElem?_append_left this];exact e1,e2,by rw[hb];exact ne_of_lt this⟩
theorem oU(h:H[c.L]? =some (LF c a sg x)):aX (aa N n) (.ref c.L) 18 ⟨vs,H⟩=.ok (.bytes c.T) ⟨vs,H⟩:=eA h rfl rfl rfl
theorem Dt(h:H[c.L]? =some (LF c a sg x)):aX (aa N n) (.ref c.L) 16 ⟨vs,H⟩=.ok (.bytes c.chunk) ⟨vs,H⟩:=eA h rfl rfl rfl
theorem sW(h:H[c.L]? =some (LF c a sg x)):aX (aa N n) (.ref c.L) 15 ⟨vs,H⟩=.ok (.ref c.lim) ⟨vs,H⟩:=eA h rfl rfl rfl
theorem yx(h:H[c.L]? =some (LF c a sg x)):aX (aa N n) (.ref c.L) 14 ⟨vs,H⟩=.ok (.ref c.kd) ⟨vs,H⟩:=eA h rfl rfl rfl
theorem jN(h:H[c.L]? =some (LF c a sg x)):aX (aa N n) (.ref c.L) 13 ⟨vs,H⟩=.ok (.int a) ⟨vs,H⟩:=eA h rfl rfl rfl
theorem aV(h:H[c.L]? =some (LF c a sg x)):aX (aa N n) (.ref c.L) 12 ⟨vs,H⟩=.ok (.int sg) ⟨vs,H⟩:=eA h rfl rfl rfl
theorem ag{k:Int}(h:H[c.L]? =some (LF c a sg x))(e:sg=k):aX (aa N n) (.ref c.L) 12 ⟨vs,H⟩=.ok (.int k) ⟨vs,H⟩:=e ▸ aV h
theorem fF(h:H[c.L]? =some (LF c a sg x)):aX (aa N n) (.ref c.L) 11 ⟨vs,H⟩=.ok (.int x.line) ⟨vs,H⟩:=eA h rfl rfl rfl
theorem fe(h:H[c.L]? =some (LF c a sg x)):aX (aa N n) (.ref c.L) 9 ⟨vs,H⟩=.ok (.ref x.bi) ⟨vs,H⟩:=eA h rfl rfl rfl
theorem Bl(h:H[c.L]? =some (LF c a sg x)):aX (aa N n) (.ref c.L) 7 ⟨vs,H⟩=.ok .none ⟨vs,H⟩:=eA h rfl rfl rfl
theorem yy{b:Int}(h:H[c.L]? =some (LF c a sg x)):aY (aa N n) (.ref c.L) 13 (.int b) ⟨vs,H⟩=.ok () ⟨vs,H.set c.L (LF c b sg x)⟩:=i8 h rfl (le_of_ble_eq_true rfl)
theorem yz{b:Int}(h:H[c.L]? =some (LF c a sg x)):aY (aa N n) (.ref c.L) 12 (.int b) ⟨vs,H⟩=.ok () ⟨vs,H.set c.L (LF c a b x)⟩:=i8 h rfl (le_of_ble_eq_true rfl)
theorem sX{b:Int}(h:H[c.L]? =some (LF c a sg x)):aY (aa N n) (.ref c.L) 11 (.int b) ⟨vs,H⟩=.ok () ⟨vs,H.set c.L (LF c a sg { x with line:=b })⟩:=i8 h rfl (le_of_ble_eq_true rfl)
theorem Du{b:V}(h:H[c.L]? =some (LF c a sg x)):aY (aa N n) (.ref c.L) 10 b ⟨vs,H⟩=.ok () ⟨vs,H.set c.L (LF c a sg { x with ll:=b })⟩:=i8 h rfl (le_of_ble_eq_true rfl)
theorem Bm{b:Nat}(h:H[c.L]? =some (LF c a sg x)):aY (aa N n) (.ref c.L) 9 (.ref b) ⟨vs,H⟩=.ok () ⟨vs,H.set c.L (LF c a sg { x with bi:=b })⟩:=i8 h rfl (le_of_ble_eq_true rfl)
theorem FT{b:V}(h:H[c.L]? =some (LF c a sg x)):aY (aa N n) (.ref c.L) 8 b ⟨vs,H⟩=.ok () ⟨vs,H.set c.L (LF c a sg { x with cur:=b })⟩:=i8 h rfl (le_of_ble_eq_true rfl)
theorem bX{o:O}{i:Nat}(h:i < H.length):(H.set i o)[i]? =some o:=by simp[h]
theorem Dv(h:H[c.lim]? =some gv):aX (aa N n) (.ref c.lim) 18 ⟨vs,H⟩=.ok (.int 1000000) ⟨vs,H⟩:=eA h rfl rfl rfl
theorem uF{i:Nat}(h:H[i]? =some gv):aX (aa N n) (.ref i) 0 ⟨vs,H⟩=.ok (.int 64) ⟨vs,H⟩:=eA h rfl rfl rfl
theorem aR{m:Nat}{f:Addr}(h:H[c.L]? =some (LF c a sg x))(hm:(eV.lookup m)=some f)(hf:([(18,V.none),(17,.none),(16,.none),(15,.none),(14,.none),(13,.none),(12,.none),(11,.none),(10,.none),(9,.none),(8,.none),(7,.none)]:List (Nat×V)).lookup m=none):ay (aa N n) (.ref c.L) m H=some (.fn f (.ref c.L)):=by
 have e:((aa N n).meths.lookup 472).bind (·.lookup m)=some f:=by rw[yn];exact hm
 refine(j3 h).trans ?_
 rw[e]
 show(bif Option.isNone (List.lookup m _) then _ else _)=_
 have e2:([(18,.bytes c.T),(17,.bytes c.src),(16,.bytes c.chunk),(15,.ref c.lim),(14,.ref c.kd),(13,.int a),(12,.int sg),(11,.int x.line),(10,x.ll),(9,.ref x.bi),(8,x.cur),(7,.none)]:List (Nat×V)).lookup m=none:=by
  rw[List.lookup_eq_none_iff] at hf⊢
  simpa using hf
 rw[e2]
 rfl
theorem yA(h:H[c.L]? =some (LF c a sg x)):ay (aa N n) (.ref c.L) 19 H=some (.fn 371 (.ref c.L)):=aR h rfl rfl
theorem fG(h:H[c.L]? =some (LF c a sg x)):ay (aa N n) (.ref c.L) 21 H=some (.fn 308 (.ref c.L)):=aR h rfl rfl
theorem Dw(h:H[c.L]? =some (LF c a sg x)):ay (aa N n) (.ref c.L) 20 H=some (.fn 322 (.ref c.L)):=aR h rfl rfl
theorem aI(h:H[c.L]? =some (LF c a sg x)):ay (aa N n) (.ref c.L) 22 H=some (.fn 329 (.ref c.L)):=aR h rfl rfl
theorem iy(h:H[c.L]? =some (LF c a sg x)):ay (aa N n) (.ref c.L) 23 H=some (.fn 336 (.ref c.L)):=aR h rfl rfl
theorem bI(h:H[c.L]? =some (LF c a sg x)):ay (aa N n) (.ref c.L) 24 H=some (.fn 343 (.ref c.L)):=aR h rfl rfl
theorem Dx(h:H[c.L]? =some (LF c a sg x)):ay (aa N n) (.ref c.L) 26 H=some (.fn 399 (.ref c.L)):=aR h rfl rfl
theorem Dy(h:H[c.L]? =some (LF c a sg x)):ay (aa N n) (.ref c.L) 27 H=some (.fn 413 (.ref c.L)):=aR h rfl rfl
theorem yB(h:H[c.L]? =some (LF c a sg x)):ay (aa N n) (.ref c.L) 28 H=some (.fn 420 (.ref c.L)):=aR h rfl rfl
theorem Dz(h:H[c.L]? =some (LF c a sg x)):ay (aa N n) (.ref c.L) 29 H=some (.fn 406 (.ref c.L)):=aR h rfl rfl
theorem DA(h:H[c.L]? =some (LF c a sg x)):ay (aa N n) (.ref c.L) 30 H=some (.fn 427 (.ref c.L)):=aR h rfl rfl
theorem DB(h:H[c.L]? =some (LF c a sg x)):ay (aa N n) (.ref c.L) 31 H=some (.fn 455 (.ref c.L)):=aR h rfl rfl
theorem jO(h:H[c.L]? =some (LF c a sg x)):ay (aa N n) (.ref c.L) 33 H=some (.fn 357 (.ref c.L)):=aR h rfl rfl
theorem sY(h:H[c.L]? =some (LF c a sg x)):ay (aa N n) (.ref c.L) 34 H=some (.fn 385 (.ref c.L)):=aR h rfl rfl
theorem yC(h:H[c.L]? =some (LF c a sg x)):ay (aa N n) (.ref c.L) 35 H=some (.fn 392 (.ref c.L)):=aR h rfl rfl
theorem jP(h:H[c.L]? =some (LF c a sg x)):ay (aa N n) (.ref c.L) 36 H=some (.fn 364 (.ref c.L)):=aR h rfl rfl
theorem oV(h:H[c.L]? =some (LF c a sg x)):ay (aa N n) (.ref c.L) 37 H=some (.fn 441 (.ref c.L)):=aR h rfl rfl
theorem dm(h:H[c.L]? =some (LF c a sg x)):ay (aa N n) (.ref c.L) 38 H=some (.fn 434 (.ref c.L)):=aR h rfl rfl
theorem sZ(h:H[c.L]? =some (LF c a sg x)):ay (aa N n) (.ref c.L) 41 H=some (.fn 448 (.ref c.L)):=aR h rfl rfl
theorem l7(h:H[c.L]? =some (LF c a sg x)):ay (aa N n) (.ref c.L) 42 H=some (.fn 462 (.ref c.L)):=aR h rfl rfl
theorem yD(h:H[c.L]? =some (LF c a sg x)):ay (aa N n) (.ref c.L) 43 H=some (.fn 469 (.ref c.L)):=aR h rfl rfl
theorem DC(h:H[c.L]? =some (LF c a sg x)):ay (aa N n) (.ref c.L) 44 H=some (.fn 294 (.ref c.L)):=aR h rfl rfl
theorem Ax{i:Nat}{b:Bs}(h:H[i]? =some (.ba b)):ay (aa N n) (.ref i) 2 H=some (.prim "bytearray.append" (.ref i)):=by
 exact Av h
theorem DD{i:Nat}{b:Bs}{k:UInt8}(h:H[i]? =some (.ba b))(hl:b.length≤1000000):aD "bytearray.append" (.ref i) [.int k.toNat] ⟨vs,H⟩=.ok .none ⟨vs,H.set i (.ba (b++[k]))⟩:=by
 have:=k.toNat_lt
 rw[Ad]
 refine(E9 h).trans ((if_pos ⟨natCast_nonneg _,zh this,hl⟩).trans ?_)
 rw[toNat_natCast,UInt8.ofNat_toNat]
theorem gw{t:Tb}{b:Bs}{k:Int}{σ:St}(h:0≤k∧k < b.length∧b.length≤1000000):cf t (.bytes b) (.int k) σ=.ok (.int (b.getD k.toNat 0).toNat) σ:=if_pos h
theorem kR{t:Tb}{b:Bs}{k:Int}{σ:St}{d:UInt8}(h:0≤k∧k < b.length∧b.length≤1000000)(e:b.getD k.toNat 0=d):cf t (.bytes b) (.int k) σ=.ok (.int d.toNat) σ:=e ▸ gw h
theorem cj{T u r t:Bs}{d:UInt8}(h:T=u++r)(hr:r=d::t):∃u,T=u++t:=⟨u++[d],by rw[h,hr];simp⟩
theorem i9{T u t:Bs}{d:UInt8}(h:T=u++d::t){k:Int}(hk:k=T.length - (t.length+1:Nat)):T.getD k.toNat 0=d:=by
 have:k.toNat=u.length:=by rw[h] at hk;simp at hk;lia
 rw[this,h];simp
theorem bn(h:LS c x H){d:UInt8}{t:Bs}(hr:x.r=d::t):Go c { x with r:=t } .none (fun vs=>(aa N (n+2)).prim (.ref 329) [.ref c.L] ⟨vs,H⟩):=by
 have hS:LS c { x with r:=t } (H.set c.L (LF c (c.T.length - t.length) (sgn t) { x with r:=t })):=by
  refine h.setObj (x':={ x with r:=t }) rfl rfl ?_ ?_
  ·obtain⟨u,hu⟩:=h.suf;exact cj hu hr
  ·have:=h.line;rw[hr] at this;simp at this⊢;lia
 have hs:=@bX H (LF c (c.T.length - x.r.length+1) (sgn x.r) x) c.L (ai h.obj)
 obtain⟨u,hu⟩:=h.suf
 have hT:(c.T.length:Int)=u.length+x.r.length:=by rw[hu];simp
 have hrl:(x.r.length:Int)=t.length+1:=by rw[hr];simp
 have hlen:=h.len
 have hl6:c.T.length≤1000000:=bA hlen rfl
 have e2:(c.T.length:Int) - x.r.length+1=c.T.length - t.length:=by lia
 refine⟨(H.set c.L (LF c (c.T.length - x.r.length+1) (sgn x.r) x)).set c.L (LF c (c.T.length - x.r.length+1) (sgn t) x),fun vs=>?_,?_⟩
 ·apply fc iR rfl rfl rfl
  cases t with
  |nil=>
   have e1:decide ((c.T.length:Int) - x.r.length+1 < c.T.length)=false:=decide_eq_false (by simp at hrl;lia)
   repeat first|with_reducible (first|exact jN h.obj|exact yy h.obj|exact jN hs|exact oU hs|exact len_bytes hl6|apply aA e1)|exact yz hs|wtm_at "e"
  |cons d2 t=>
   have e1:((c.T.length:Int) - x.r.length+1 < c.T.length):=by simp at hrl;lia
   have e1':=decide_eq_true e1
   have e3:0≤(c.T.length:Int) - x.r.length+1∧(c.T.length:Int) - x.r.length+1 < c.T.length∧c.T.length≤1000000:=⟨by simp at hrl;lia,e1,hl6⟩
   have hg:c.T.getD ((c.T.length:Int) - x.r.length+1).toNat 0=d2:=i9 (u:=u++[d]) (t:=t) (by rw[hu,hr];simp) (by simp at hrl⊢;lia)
   repeat first|with_reducible (first|exact jN h.obj|exact yy h.obj|exact jN hs|exact oU hs|exact len_bytes hl6|apply aS e1'|exact kR e3 hg)|exact yz hs|wtm_at "e"
 ·rw[List.set_set,e2];exact hS
theorem ja(h:LS c x H){k:UInt8}(hb:x.buf.length≤999998):Go c { x with buf:=x.buf++[k] } .none (fun vs=>(aa N (n+2)).prim (.ref 336) [.ref c.L,.int k.toNat] ⟨vs,H⟩):=by
 refine⟨_,fun vs=>?_,h.setBuf _⟩
 apply fc iS rfl rfl rfl
 have e1:decide ((1000000:Int)≤x.buf.length)=false:=decide_eq_false (by lia)
 have hl:x.buf.length≤1000000:=bA hb rfl
 repeat first|with_reducible (first|exact fe h.obj|exact sW h.obj|exact Dv h.limAt|exact dU h.buf hl|apply aA e1|exact Ax h.buf|exact DD h.buf hl)|wtm_at "e"
noncomputable def jb(p:UInt8→Bool):Bs→Bool
 | []=>false
 |c::_=>p c
noncomputable def aU:O:=.tup [.int 10,.int 13]
theorem jQ{d:UInt8}(k:UInt8):(decide ((d.toNat:Int)=(k.toNat:Int)))=(d==k):=by
 rw[Bool.eq_iff_iff,decide_eq_true_eq,beq_iff_eq]
 constructor
 ·intro h
  exact UInt8.toNat_inj.mp (by lia)
 ·rintro rfl;rfl
theorem yE{d:UInt8}(k:UInt8):(decide ((k.toNat:Int)≤(d.toNat:Int)))=decide (k≤d):=by
 rw[Bool.eq_iff_iff,decide_eq_true_eq,decide_eq_true_eq,UInt8.le_iff_toNat_le]
 lia
theorem qK{d:UInt8}(k:UInt8):(decide ((d.toNat:Int)≤(k.toNat:Int)))=decide (d≤k):=by
 rw[Bool.eq_iff_iff,decide_eq_true_eq,decide_eq_true_eq,UInt8.le_iff_toNat_le]
 lia
theorem v7{i:Int}:(aa N (n+1)).prim (.ref 231) [.int i] ⟨vs,H⟩=.ok (.bool ((10:Int)==i||(13:Int)==i)) ⟨vs,H++[aU]⟩:=by
 apply aw iQ rfl rfl rfl
 have hi:cF [.int 10,.int 13]=some [10,13]:=rfl
 have hn:([10,13]:List Int).any (·==i)=((10:Int)==i||(13:Int)==i):=by simp
 repeat first|with_reducible exact eN al hi hn|wtm_at "e"
theorem br{r:Bs}:(aa N (n+1)).prim (.ref 231) [.int (sgn r)] ⟨vs,H⟩=.ok (.bool (jb P.isNl r)) ⟨vs,H++[aU]⟩:=by
 rw[v7]
 cases r with
 |nil=>rfl
 |cons d t=>
  have e1:=jQ (d:=d) 10
  have e2:=jQ (d:=d) 13
  have e:((10:Int)==sgn (d::t)||(13:Int)==sgn (d::t))=P.isNl d:=by
   unfold P.isNl sgn
   rw[←e1,←e2]
   show((10:Int)==(d.toNat:Int)||(13:Int)==(d.toNat:Int))=(decide ((d.toNat:Int)=(10:Int))||decide ((d.toNat:Int)=(13:Int)))
   rw[Bool.eq_iff_iff];simp only[or_eq_true,beq_iff_eq,decide_eq_true_eq];lia
  rw[e];rfl
theorem fH{r:Bs}:(aa N (n+1)).prim (.ref 196) [.int (sgn r)] ⟨vs,H⟩=.ok (.bool (jb P.isDig r)) ⟨vs,H⟩:=by
 rw[sU]
 cases r with
 |nil=>rfl
 |cons d t=>
  have e1:=yE (d:=d) 48
  have e2:=qK (d:=d) 57
  show _=af.ok (V.bool (decide (48≤d)&&decide (d≤57))) _
  rw[←e1,←e2];rfl
theorem qL{r:Bs}:(aa N (n+1)).prim (.ref 203) [.int (sgn r)] ⟨vs,H⟩=.ok (.bool (jb P.isLet r)) ⟨vs,H⟩:=by
 rw[qJ]
 cases r with
 |nil=>rfl
 |cons d t=>
  have e1:=yE (d:=d) 65
  have e2:=qK (d:=d) 90
  have e3:=yE (d:=d) 97
  have e4:=qK (d:=d) 122
  have e5:=jQ (d:=d) 95
  show _=af.ok (V.bool ((decide (65≤d)&&decide (d≤90))||((decide (97≤d)&&decide (d≤122))||d==95))) _
  rw[←e1,←e2,←e3,←e4,←e5];rfl
theorem yF{r:Bs}:(aa N (n+2)).prim (.ref 210) [.int (sgn r)] ⟨vs,H⟩=.ok (.bool (jb P.isNam r)) ⟨vs,H⟩:=by
 have e:jb P.isNam r=(jb P.isLet r||jb P.isDig r):=by cases r<;>rfl
 rw[e]
 apply aw f0 rfl rfl rfl
 cases hL:jb P.isLet r<;>(repeat first|with_reducible exact qL|with_reducible exact fH|with_reducible apply aS hL|with_reducible apply aA hL|wtm_at "e")
theorem Ay{i:Int}:(aa N (n+1)).prim (.ref 217) [.int i] ⟨vs,H⟩=.ok (.bool (decide (i=32)||(decide (9≤i)&&decide (i≤13)))) ⟨vs,H⟩:=by
 apply aw eU rfl rfl rfl
 cases h:decide (i=32)<;>(repeat first|with_reducible apply aS h|with_reducible apply aA h|wtm_at "e")
theorem uG{r:Bs}:(aa N (n+1)).prim (.ref 217) [.int (sgn r)] ⟨vs,H⟩=.ok (.bool (jb P.isBl r)) ⟨vs,H⟩:=by
 rw[Ay]
 cases r with
 |nil=>rfl
 |cons d t=>
  have e1:=yE (d:=d) 9
  have e2:=qK (d:=d) 13
  have e5:=jQ (d:=d) 32
  show _=af.ok (V.bool (d==32||(decide (9≤d)&&decide (d≤13)))) _
  rw[←e1,←e2,←e5];rfl
theorem ff(h:LS c x H){d:UInt8}{t:Bs}(hr:x.r=d::t)(hb:x.buf.length≤999998):Go c { x with r:=t,buf:=x.buf++[d] } .none (fun vs=>(aa N (n+3)).prim (.ref 343) [.ref c.L] ⟨vs,H⟩):=by
 refine be (ja (N:=N) (n:=n) h (k:=d) hb) fun H1 e1 l1=>?_
 refine be (bn (N:=N) (n:=n) l1 (d:=d) (t:=t) hr) fun H2 e2 l2=>?_
 refine⟨H2,fun vs=>?_,l2⟩
 apply fc cQ rfl rfl rfl
 have hs:sgn x.r=d.toNat:=by rw[hr];rfl
 repeat first|with_reducible (first|exact iy h.obj|exact ag h.obj hs|exact e1 _|exact aI l1.obj|exact e2 _)|wtm_at "e"
theorem l9(h:LS c x H):∃H' bi,(∀vs,(aa N (n+2)).prim (.ref 357) [.ref c.L] ⟨vs,H⟩=.ok .none ⟨vs,H'⟩)∧LS c { x with buf:=[],bi:=bi } H':=by
 refine⟨_,_,fun vs=>?_,h.newBuf (x':={ x with buf:=[],bi:=H.length }) rfl rfl rfl rfl⟩
 apply fc g8 rfl rfl rfl
 have ho:=LS.app_inv (M:=[.ba []]) h.obj
 repeat first|with_reducible exact yo|exact Bm ho|wtm_at "e"
theorem kS(h:LS c x H){d:UInt8}{t:Bs}(hr:x.r=d::t):Go c { x with r:=P.endLine (d::t),line:=x.line+1 } .none (fun vs=>(aa N (n+3)).prim (.ref 364) [.ref c.L] ⟨vs,H⟩):=by
 refine be (bn (N:=N) (n:=n) h (d:=d) (t:=t) hr) fun H1 e1 l1=>?_
 have l1':=l1.app [aU]
 have hs:sgn x.r=d.toNat:=by rw[hr];rfl
 have hl:=h.line
 have hlen:=h.len
 rw[hr] at hl
 simp only[length_cons] at hl
 have fin:∀{x2:LX} {H2:Hp},LS c x2 H2→x2.line=x.line→x2.r=P.endLine (d::t)→{ x with r:=P.endLine (d::t),line:=x.line+1 }={ x2 with line:=x2.line+1 }→¬(2147483645≤x2.line+1)∧LS c { x with r:=P.endLine (d::t),line:=x.line+1 } (H2.set c.L (LF c (c.T.length - x2.r.length) (sgn x2.r) { x2 with line:=x2.line+1 })):=by
  intro x2 H2 l2 a1 a2 a3
  have hle:=P.endLine_le (d::t)
  simp only[length_cons] at hle
  refine⟨by lia,?_⟩
  rw[a3]
  exact l2.setObj (x':={ x2 with line:=x2.line+1 }) rfl rfl l2.suf (by simp only[];rw[a1,a2];lia)
 by_cases hb:jb P.isNl t=true∧¬(sgn t=d.toNat)
 ·obtain⟨b1,b2⟩:=hb
  cases t with
  |nil=>cases b1
  |cons d2 u=>
   refine be (bn (N:=N) (n:=n) l1' (d:=d2) (t:=u) rfl) fun H2 e2 l2=>?_
   have eE:P.endLine (d::d2::u)=u:=by
    show(if(P.isNl d2&&d2 != d)=true then u else d2::u)=u
    rw[if_pos]
    simp only[and_eq_true,bne_iff_ne,ne_eq]
    exact⟨b1,fun q=>b2 (by rw[q];rfl)⟩
   obtain⟨f1,f2⟩:=fin l2 rfl eE.symm (by rw[eE])
   refine⟨_,fun vs=>?_,f2⟩
   apply fc cW rfl rfl rfl
   have hset:=@bX H2 (LF c (c.T.length - u.length) (sgn u) { x with r:=u,line:=x.line+1 }) c.L (ai l2.obj)
   have b2':(!decide (sgn (d2::u)=(d.toNat:Int)))=true:=by rw[decide_eq_false b2];rfl
   have f1':=decide_eq_false f1
   repeat first|with_reducible (first|exact ag h.obj hs|exact aI h.obj|exact e1 _|exact aV l1.obj|exact br|apply aS b1|apply aA b1|exact aV l1'.obj|apply aS b2'|apply aA b2'|exact aI l1'.obj|exact e2 _|exact fF l2.obj|exact sX l2.obj|exact fF hset|apply aA f1')|wtm_at "e"
 ·have eE:P.endLine (d::t)=t:=by
   cases t with
   |nil=>rfl
   |cons d2 u=>
    show(if(P.isNl d2&&d2 != d)=true then u else d2::u)=d2::u
    rw[if_neg]
    simp only[and_eq_true,bne_iff_ne,ne_eq]
    exact fun q=>hb ⟨q.1,fun q2=>q.2 (UInt8.toNat_inj.mp (by have q3:(d2.toNat:Int)=d.toNat:=q2;lia))⟩
  obtain⟨f1,f2⟩:=fin l1' rfl eE.symm (by rw[eE])
  refine⟨_,fun vs=>?_,f2⟩
  apply fc cW rfl rfl rfl
  have hset:=@bX (H1++[aU]) (LF c (c.T.length - t.length) (sgn t) { x with r:=t,line:=x.line+1 }) c.L (ai l1'.obj)
  have f1':=decide_eq_false f1
  cases b1:jb P.isNl t with
  |true=>
   have b2:sgn t=d.toNat:=Decidable.byContradiction fun q=>hb ⟨b1,q⟩
   have b3:(!decide (sgn t=(d.toNat:Int)))=false:=by rw[decide_eq_true b2];rfl
   repeat first|with_reducible (first|exact ag h.obj hs|exact aI h.obj|exact e1 _|exact aV l1.obj|exact br|apply aS b1|exact aV l1'.obj|apply aA b3|exact fF l1'.obj|exact sX l1'.obj|exact fF hset|apply aA f1')|wtm_at "e"
  |false=>repeat first|with_reducible (first|exact ag h.obj hs|exact aI h.obj|exact e1 _|exact aV l1.obj|exact br|apply aA b1|exact fF l1'.obj|exact sX l1'.obj|exact fF hset|apply aA f1')|wtm_at "e"
noncomputable def cO(k v:V):O:=.inst 269 [(6,k),(5,v)]
theorem jc{i:Nat}{k:Int}{v:V}(h:H[i]? =some (cO (.int k) v)):aX (aa N n) (.ref i) 6 ⟨vs,H⟩=.ok (.int k) ⟨vs,H⟩:=by
 exact eA h rfl rfl rfl
theorem uH{i:Nat}{k:V}{m:Nat}{fs:List (Nat×V)}(h:H[i]? =some (.inst 269 fs))(hm:m=6∨m=5)(hl:fs.length≤100):aY (aa N n) (.ref i) m k ⟨vs,H⟩=.ok () ⟨vs,H.set i (.inst 269 (jl m k fs))⟩:=by
 exact i8 h (by rcases hm with rfl|rfl<;>rfl) hl
theorem DE{i:Nat}{t:Tb}{H1:Hp}{vs1:aC}{A:Ss}{σ:St}(x:bj t N A σ=.ok .next ⟨vs1,H1⟩):(bj t N A σ).mk vs i=.ok (.ref i) ⟨vs,H1⟩:=by rw[x];rfl
theorem bu{k v:V}:(aa N (n+1)).prim (.ref 269) [k,v] ⟨vs,H⟩=.ok (.ref H.length) ⟨vs,H++[cO k v]⟩:=by
 show((bj (aa N n) N b8.body ⟨[some (.ref H.length),some k,some v],H++[.inst 269 []]⟩).mk vs H.length)=_
 have hs:((H++[O.inst 269 []]).set H.length (O.inst 269 [(6,k)])).set H.length (.inst 269 [(6,k),(5,v)])=H++[cO k v]:=by simp[cO]
 rw[←hs]
 have h0:(H++[O.inst 269 []])[H.length]? =some (O.inst 269 []):=al
 have h1:((H++[O.inst 269 []]).set H.length (O.inst 269 [(6,k)]))[H.length]? =some (O.inst 269 [(6,k)]):=by simp
 have p0:=fun vs=>uH (N:=N) (n:=n) (vs:=vs) (k:=k) (m:=6) h0 (.inl rfl) (by decide:([]:List (Nat×V)).length≤100)
 have p1:=fun vs=>uH (N:=N) (n:=n) (vs:=vs) (k:=v) (m:=5) h1 (.inr rfl) (by show(1:Nat)≤100;decide)
 apply DE
 repeat first|exact p0 _|exact p1 _|wtm_at "e"
theorem gP(h:LS c x H){j:Nat}{l:List V}{ns:List Int}(ht:H[j]? =some (.tup l))(hl:cF l=some ns)(hn:ns.any (·==sgn x.r)=false):(aa N (n+1)).prim (.ref 350) [.ref c.L,.ref j] ⟨vs,H⟩=.ok (.bool false) ⟨vs,H⟩:=by
 apply aw dk rfl rfl rfl
 repeat first|with_reducible (first|exact aV h.obj|exact uE ht hl hn)|wtm_at "e"
theorem fI(h:LS c x H){j:Nat}{l:List V}{ns:List Int}{d:UInt8}{t:Bs}(hr:x.r=d::t)(hb:x.buf.length≤999998)(ht:H[j]? =some (.tup l))(hl:cF l=some ns)(hn:ns.any (·==sgn x.r)=true):Go c { x with r:=t,buf:=x.buf++[d] } (.bool true) (fun vs=>(aa N (n+4)).prim (.ref 350) [.ref c.L,.ref j] ⟨vs,H⟩):=by
 refine be (ff (N:=N) (n:=n) h hr hb) fun H1 e1 l1=>?_
 refine⟨H1,fun vs=>?_,l1⟩
 apply aw dk rfl rfl rfl
 repeat first|with_reducible (first|exact aV h.obj|exact uE ht hl hn|exact bI h.obj|exact e1 _)|wtm_at "e"
theorem v8(h:LS c x H):(aa N (n+2)).prim (.ref 385) [.ref c.L] ⟨vs,H⟩=.ok (.int (sgn x.r.tail)) ⟨vs,H⟩:=by
 have hlen:=h.len
 have hl6:c.T.length≤1000000:=bA hlen rfl
 obtain⟨u,hu⟩:=h.suf
 have hT:(c.T.length:Int)=u.length+x.r.length:=by rw[hu];simp
 have no:x.r.tail=[]→(aa N (n+2)).prim (.ref 385) [.ref c.L] ⟨vs,H⟩=.ok (.int (-1)) ⟨vs,H⟩:=fun hr=>by
  have e1:decide ((c.T.length:Int) - x.r.length+1 < c.T.length)=false:=decide_eq_false (by
   have:x.r.length≤1:=by
    cases q:x.r with
    |nil=>simp
    |cons d t=>rw[q] at hr;have:t=[]:=hr;rw[this];simp
   lia)
  apply aw cg rfl rfl rfl
  repeat first|with_reducible (first|exact jN h.obj|exact oU h.obj|exact len_bytes hl6|apply aA e1)|wtm_at "e"
 cases ht:x.r.tail with
 |nil=>exact no ht
 |cons d2 t=>
  cases hr:x.r with
  |nil=>rw[hr] at ht;cases ht
  |cons d t'=>
   obtain rfl:t'=d2::t:=by rw[hr] at ht;exact ht
   have hrl:(x.r.length:Int)=t.length+2:=by rw[hr];simp;lia
   have e1:((c.T.length:Int) - x.r.length+1 < c.T.length):=by lia
   have e3:0≤(c.T.length:Int) - x.r.length+1∧(c.T.length:Int) - x.r.length+1 < c.T.length∧c.T.length≤1000000:=⟨by lia,e1,hl6⟩
   have hg:c.T.getD ((c.T.length:Int) - x.r.length+1).toNat 0=d2:=i9 (u:=u++[d]) (t:=t) (by rw[hu,hr];simp) (by lia)
   have e1':=decide_eq_true e1
   apply aw cg rfl rfl rfl
   repeat first|with_reducible (first|exact jN h.obj|exact oU h.obj|exact len_bytes hl6|apply aS e1'|exact kR e3 hg)|wtm_at "e"
theorem s6{d:UInt8}{t:Bs}(hd:d≠61):P.eqs (d::t)=0∧P.eqRest (d::t)=d::t:=by
 have hb:(d==61)=false:=by simpa using hd
 constructor
 ·show(if(d==61)=true then _ else _)=_
  rw[hb];rfl
 ·show(if(d==61)=true then _ else _)=_
  rw[hb];rfl
theorem oW{t:Bs}:P.eqs (61::t)=P.eqs t+1∧P.eqRest (61::t)=P.eqRest t:=⟨rfl,rfl⟩
theorem yG(r:Bs):∀(m:Nat) (x:LX) (H:Hp) (b:V) (k:Int),x.r=r→r.length < m→x.buf.length+r.length≤999998→LS c x H→
  ∃H',Wh (aa N (n+3)) N  (.cmp .Eq (.attr (.loc 0) 12) (.con (.int 61))) (.cons (.expr (.meth (.loc 0) 24 .nil)) (.cons (.aug 2 .Add (.con (.int 1))) .nil)) m ⟨[some (.ref c.L),some b,some (.int k)],H⟩=.ok .next ⟨[some (.ref c.L),some b,some (.int (k+P.eqs r))],H'⟩∧LS c { x with r:=P.eqRest r,buf:=x.buf++replicate (P.eqs r) 61 } H':=by
 induction r with
 |nil=>
  intro m x H b k hr hm hb h
  cases m with
  |zero=>exact dI hm
  |succ m=>
  have hs:sgn x.r= -1:=by rw[hr];rfl
  have:{ x with r:=P.eqRest [],buf:=x.buf++replicate (P.eqs []) 61 }=x:=by
   rw[show P.eqRest []=x.r from hr.symm,show P.eqs []=0 from rfl,List.replicate_zero,append_nil]
  rw[this]
  refine⟨H,?_,h⟩
  have e:decide ((-1:Int)=61)=false:=by decide
  rw[show k+(P.eqs []:Int)=k from Int.add_zero k]
  apply bW
  repeat first|with_reducible (first|exact ag h.obj hs|exact e)|wtm_at "e"
 |cons d t ih=>
  intro m x H b k hr hm hb h
  cases m with
  |zero=>exact dI hm
  |succ m=>
  have hs:sgn x.r=d.toNat:=by rw[hr];rfl
  simp only[length_cons] at hm hb
  by_cases hd:d=61
  ·subst hd
   obtain⟨q1,q2⟩:=@oW t
   refine be (ff (N:=N) (n:=n) h hr (iC hb rfl)) fun H1 e1 l1=>?_
   obtain⟨H2,e2,l2⟩:=ih m { x with r:=t,buf:=x.buf++[61] } H1 b (k+1) rfl (lt_of_succ_lt_succ hm) (by simp only[length_append,length_cons,length_nil];exact u7 hb rfl) l1
   refine⟨H2,?_,?_⟩
   ·have e:decide (((61:UInt8).toNat:Int)=61)=true:=by decide
    have hk:k+((P.eqs t+1:Nat):Int)=k+1+(P.eqs t:Int):=by lia
    rw[q1,hk]
    apply dY
    repeat first|with_reducible (first|exact ag h.obj hs|exact e|exact bI h.obj|exact e1 _)|((with_reducible apply bp);exact e2)|wtm_at "e"
   ·rw[q1,q2]
    have:x.buf++replicate (P.eqs t+1) 61=x.buf++[61]++replicate (P.eqs t) 61:=by rw[List.replicate_succ,append_assoc];rfl
    rw[this]
    exact l2
  ·obtain⟨q1,q2⟩:=@s6 d t hd
   have:{ x with r:=P.eqRest (d::t),buf:=x.buf++replicate (P.eqs (d::t)) 61 }=x:=by rw[q1,q2,←hr,List.replicate_zero,append_nil]
   rw[this]
   refine⟨H,?_,h⟩
   have e:decide ((d.toNat:Int)=61)=false:=by rw[decide_eq_false_iff_not];exact fun q=>hd (UInt8.toNat_inj.mp (by show d.toNat=61;lia))
   rw[q1,show k+((0:Nat):Int)=k from Int.add_zero k]
   apply bW
   repeat first|with_reducible (first|exact ag h.obj hs|exact e)|wtm_at "e"
noncomputable def cC(d:UInt8)(t:Bs):Int:=if P.hd? d (P.eqRest t) then(P.eqs t:Int) else -(P.eqs t:Int) - 1
theorem gx(hN:1000000≤N)(h:LS c x H){d:UInt8}{t:Bs}(hr:x.r=d::t)(hb:x.buf.length+x.r.length≤999998):Go c { x with r:=P.eqRest t,buf:=x.buf++d::replicate (P.eqs t) 61 } (.int (cC d t)) (fun vs=>(aa N (n+4)).prim (.ref 434) [.ref c.L] ⟨vs,H⟩):=by
 rw[hr,length_cons] at hb
 refine be (ff (N:=N) (n:=n) h hr (iC hb rfl)) fun H1 e1 l1=>?_
 obtain⟨H2,e2,l2⟩:=yG (N:=N) (n:=n) t N _ H1 (.int d.toNat) 0 rfl (by lia) (by simp;exact u7 hb rfl) l1
 have hs:sgn x.r=d.toNat:=by rw[hr];rfl
 refine⟨H2,fun vs=>?_,?_⟩
 ·have e:decide (sgn (P.eqRest t)=(d.toNat:Int))=P.hd? d (P.eqRest t):=by
   cases P.eqRest t with
   |nil=>
    have:=d.toNat_lt
    show decide ((-1:Int)=(d.toNat:Int))=false
    rw[decide_eq_false_iff_not];lia
   |cons q u=>exact jQ d
  have e0:(0:Int)+(P.eqs t:Int)=P.eqs t:=Int.zero_add _
  rw[e0] at e2
  unfold cC
  apply aw dP rfl rfl rfl
  cases hh:P.hd? d (P.eqRest t) with
  |true=>rw[hh] at e;repeat first|with_reducible exact ag h.obj hs|with_reducible exact bI h.obj|with_reducible exact e1 _|((with_reducible apply bp);exact e2)|with_reducible exact aV l2.obj|with_reducible apply aS e|wtm_at "e"
  |false=>rw[hh] at e;repeat first|with_reducible exact ag h.obj hs|with_reducible exact bI h.obj|with_reducible exact e1 _|((with_reducible apply bp);exact e2)|with_reducible exact aV l2.obj|with_reducible apply aA e|wtm_at "e"
 ·have:x.buf++d::replicate (P.eqs t) 61=x.buf++[d]++replicate (P.eqs t) 61:=by simp
  rw[this]
  exact l2
noncomputable def lv(b:Bs):List V:=b.map fun c=>V.int c.toNat
theorem gy(b:Bs):(lv b).length=b.length:=by unfold lv;simp
theorem fJ{i:Nat}{l:List V}(h:H[i]? =some (.list l)):ay (aa N n) (.ref i) 2 H=some (.prim "list.append" (.ref i)):=by
 exact jL h
theorem oX{i:Nat}{l:List V}(h:H[i]? =some (.list l)):ay (aa N n) (.ref i) 3 H=some (.prim "list.extend" (.ref i)):=by
 exact jL h
theorem Az{i:Nat}{l:List V}(h:H[i]? =some (.list l)):ay (aa N n) (.ref i) 1 H=some (.prim "list.reverse" (.ref i)):=by
 exact jL h
theorem gz{i:Nat}{l:List V}{u:V}(h:H[i]? =some (.list l))(hl:l.length≤1000000):aD "list.append" (.ref i) [u] ⟨vs,H⟩=.ok .none ⟨vs,H.set i (.list (l++[u]))⟩:=by
 rw[vL];exact(fS h).trans (if_pos hl)
theorem FU{i:Nat}{l:List V}(h:H[i]? =some (.list l))(hl:l.length≤1000000):aD "list.reverse" (.ref i) [] ⟨vs,H⟩=.ok .none ⟨vs,H.set i (.list l.reverse)⟩:=by
 rw[sr];exact(fS h).trans (if_pos hl)
theorem s7{i:Int}{σ:St}:(aa N (n+1)).prim (.builtin "isinstance") [.int i,.sta (.type "bytes")] σ=.ok (.bool false) σ:=by
 rw[gu (by decide),xX];kernel_rfl
theorem qM{i:Int}{σ:St}:(aa N (n+1)).prim (.builtin "isinstance") [.int i,.sta (.type "int")] σ=.ok (.bool true) σ:=by
 rw[gu (by decide),xX];kernel_rfl
theorem qN{i:Int}{σ:St}:(aa N (n+1)).prim (.builtin "isinstance") [.int i,.sta (.type "bool")] σ=.ok (.bool false) σ:=by
 rw[gu (by decide),xX];kernel_rfl
theorem FV{k:Nat}{σ:St}:(aa N (n+1)).prim (.builtin "abs") [.int k] σ=.ok (.int k) σ:=by
 rw[gu (by decide),Bg]
 show af.ok (V.int (if(k:Int) < 0 then _ else _)) σ=_
 rw[if_neg (by lia)]
theorem qO{i:Int}:(aa N (n+2)).prim (.ref 96) [.int i] ⟨vs,H⟩=.ok (.bool true) ⟨vs,H⟩:=by
 apply aw j7 rfl rfl rfl
 repeat first|with_reducible (first|exact qM|exact qN)|wtm_at "e"
theorem uJ(k:Nat)(h:k≤9):(48+(k:Int))=((UInt8.ofNat (48+k)).toNat:Int):=by
 have:k=0∨k=1∨k=2∨k=3∨k=4∨k=5∨k=6∨k=7∨k=8∨k=9:=by lia
 rcases this with rfl|rfl|rfl|rfl|rfl|rfl|rfl|rfl|rfl|rfl<;>decide
theorem yH(m:Nat):∀(f left:Nat) (b:Bs) (i:Nat) (k:V) (H:Hp),left < 10 ^ (m+1)→m < f→b.length+m≤1000→H[i]? =some (.list (lv b))→
  ∃b' left',Wh (aa N n) N  (.cmp .Gt (.loc 1) (.con (.int 9))) (.cons (.expr (.meth (.loc 2) 2 (.cons (.bin .Add (.con (.int 48)) (.bin .Mod (.loc 1) (.con (.int 10)))) .nil))) (.cons (.asg 1 (.bin .FloorDiv (.loc 1) (.con (.int 10)))) .nil)) f ⟨[some k,some (.int left),some (.ref i)],H⟩=.ok .next ⟨[some k,some (.int (left':Nat)),some (.ref i)],H.set i (.list (lv b'))⟩∧left'≤9∧b'.length≤b.length+m∧b'++[UInt8.ofNat (48+left')]=b++(P.natDigits left).reverse:=by
 induction m with
 |zero=>
  intro f left b i k H hl hf hb h
  cases f with
  |zero=>exact dI hf
  |succ f=>
  have h9:left≤9:=by simp at hl;exact le_of_lt_succ hl
  refine⟨b,left,?_,h9,le_refl _,by rw[P.natDigits_lt h9];rfl⟩
  have e:decide ((9:Int) < (left:Int))=false:=by rw[decide_eq_false_iff_not];exact Ih h9 rfl
  have hs:H.set i (.list (lv b))=H:=by
   apply List.ext_getElem?
   intro j
   by_cases q:i=j
   ·subst q;rw[getElem?_set_self (ai h),h]
   ·rw[getElem?_set_ne q]
  rw[hs]
  apply bW
  repeat first|with_reducible exact e|wtm_at "e"
 |succ m ih=>
  intro f left b i k H hl hf hb h
  cases f with
  |zero=>exact dI hf
  |succ f=>
  by_cases h9:left≤9
  ·refine⟨b,left,?_,h9,le_add_right _ _,by rw[P.natDigits_lt h9];rfl⟩
   have e:decide ((9:Int) < (left:Int))=false:=by rw[decide_eq_false_iff_not];exact Ih h9 rfl
   have hs:H.set i (.list (lv b))=H:=by
    apply List.ext_getElem?
    intro j
    by_cases q:i=j
    ·subst q;rw[getElem?_set_self (ai h),h]
    ·rw[getElem?_set_ne q]
   rw[hs]
   apply bW
   repeat first|with_reducible exact e|wtm_at "e"
  ·have hd:=uJ (left % 10) (by lia)
   have hset:=@bX H (.list (lv (b++[UInt8.ofNat (48+left % 10)]))) i (ai h)
   have hle:left / 10 < 10 ^ (m+1):=by rw[Nat.pow_succ] at hl;lia
   obtain⟨b',left',e1,e2,e3,e4⟩:=ih f (left / 10) (b++[UInt8.ofNat (48+left % 10)]) i k _ hle (lt_of_succ_lt_succ hf) (by simp only[length_append,length_cons,length_nil];exact u7 hb rfl) hset
   refine⟨b',left',?_,e2,by simp only[length_append,length_cons,length_nil] at e3;lia,?_⟩
   ·have e:decide ((9:Int) < (left:Int))=true:=by rw[decide_eq_true_eq];exact IQ h9
    have ha:∀vs,aD "list.append" (.ref i) [.int (48+((left % 10:Nat):Int))] ⟨vs,H⟩=.ok .none ⟨vs,H.set i (.list (lv (b++[UInt8.ofNat (48+left % 10)])))⟩:=fun vs=>by
     rw[hd,gz h (by rw[gy];exact iC hb rfl)]
     unfold lv;simp
    rw[List.set_set] at e1
    apply dY
    repeat first|with_reducible (first|exact e|exact fJ h|exact FQ|exact FS|exact ha _)|((with_reducible apply bp);exact e1)|wtm_at "e"
   ·rw[e4,P.natDigits_ge h9]
    simp
theorem ma{k:Nat}(hk:k < 10 ^ 20)(hN:1000000≤N):∃M,(∀vs,(aa N (n+2)).prim (.ref 152) [.int k] ⟨vs,H⟩=.ok (.bytes (P.natDigits k)) ⟨vs,H++M⟩)∧(P.natDigits k).length≤30:=by
 have h0:(H++[O.list []]++[O.tup [.int k,.ref H.length]])[H.length]? =some (.list (lv [])):=by simp[lv]
 refine Bz (yH (N:=N) (n:=n+1) 19 N k [] H.length (.int k) _ hk (GT hN rfl) (by simp) h0) fun b' left' e1 e2 e3 e4=>?_
 have hlen:(P.natDigits k).length≤30:=by
  have:=congrArg List.length e4
  simp at this e3
  lia
 have hd:=uJ left' e2
 have hfin:((((H++[O.list []]++[O.tup [.int k,.ref H.length]]).set H.length (.list (lv b'))).set H.length (.list (lv (b'++[UInt8.ofNat (48+left')])))).set H.length (.list (lv (P.natDigits k))))=H++[.list (lv (P.natDigits k)),O.tup [.int k,.ref H.length]]:=by
  simp[List.set_append]
 refine⟨[.list (lv (P.natDigits k)),O.tup [.int k,.ref H.length]],fun vs=>?_,hlen⟩
 rw[←hfin]
 have h1:=@bX (H++[O.list []]++[O.tup [.int k,.ref H.length]]) (.list (lv b')) H.length (ai h0)
 have h2:=@bX ((H++[O.list []]++[O.tup [.int k,.ref H.length]]).set H.length (.list (lv b'))) (.list (lv (b'++[UInt8.ofNat (48+left')]))) H.length (ai h1)
 have h4:=@bX (((H++[O.list []]++[O.tup [.int k,.ref H.length]]).set H.length (.list (lv b'))).set H.length (.list (lv (b'++[UInt8.ofNat (48+left')])))) (.list (lv (P.natDigits k))) H.length (ai h2)
 have ha:∀vs,aD "list.append" (.ref H.length) [.int (48+(left':Int))] ⟨vs,(H++[O.list []]++[O.tup [.int k,.ref H.length]]).set H.length (.list (lv b'))⟩=.ok .none ⟨vs,((H++[O.list []]++[O.tup [.int k,.ref H.length]]).set H.length (.list (lv b'))).set H.length (.list (lv (b'++[UInt8.ofNat (48+left')])))⟩:=fun vs=>by
  rw[hd,gz h1 (by rw[gy];simp at e3;exact bA e3 rfl)]
  unfold lv;simp
 have hr:(lv (b'++[UInt8.ofNat (48+left')])).reverse=lv (P.natDigits k):=by
  rw[e4];unfold lv;simp
 have hv:∀vs,aD "list.reverse" (.ref H.length) [] ⟨vs,((H++[O.list []]++[O.tup [.int k,.ref H.length]]).set H.length (.list (lv b'))).set H.length (.list (lv (b'++[UInt8.ofNat (48+left')])))⟩=_:=fun vs=>FU h2 (by rw[gy];simp at e3⊢;exact bA e3 rfl)
 rw[hr] at hv
 have hneg:decide ((k:Int) < 0)=false:=by rw[decide_eq_false_iff_not];lia
 have hl:(P.natDigits k).length≤1000000:=bA hlen rfl
 have hB:=fun vs=>dX (N:=N) (n:=n) (vs:=vs) (b:=P.natDigits k) h4 hl
 apply aw g6 rfl rfl rfl
 repeat first|with_reducible (first|exact FV|exact yv al)|((with_reducible apply bp);exact e1)|with_reducible (first|exact fJ h1|exact ha _|apply aA hneg|exact Az h2|exact hv _|exact hB _)|wtm_at "e"
theorem v9{k:Nat}(hk:k < 10 ^ 20)(hN:1000000≤N):∃M,(∀vs,(aa N (n+3)).prim (.ref 159) [.int k] ⟨vs,H⟩=.ok (.bytes (P.natDigits k)) ⟨vs,H++M⟩)∧(P.natDigits k).length≤30:=by
 refine ak (ma (N:=N) (n:=n) (H:=H) hk hN) fun M e1 e2=>?_
 refine⟨M,fun vs=>?_,e2⟩
 apply aw mV rfl rfl rfl
 repeat first|with_reducible (first|exact s7|exact qO|exact e1 _)|wtm_at "e"
theorem AA(r:Bs):∀(f:Nat) (u:Bs) (b:Bs) (H:Hp),b=u++r→r.length < f→b.length≤1000000→
  ∃k:Nat,Wh (aa N (n+1)) N  (.and (.cmp .Lt (.loc 1) (.call (.con (.sta (.builtin "len"))) (.cons (.loc 0) .nil))) (.cmp .NotEq (.sub (.loc 0) (.loc 1)) (.con (.int 0)))) (.cons (.asg 1 (.bin .Add (.loc 1) (.con (.int 1)))) .nil) f ⟨[some (.bytes b),some (.int u.length)],H⟩=.ok .next ⟨[some (.bytes b),some (.int k)],H⟩:=by
 induction r with
 |nil=>
  intro f u b H hb hf hl
  cases f with
  |zero=>exact dI hf
  |succ f=>
  refine⟨u.length,?_⟩
  have e:decide ((u.length:Int) < (b.length:Int))=false:=by rw[hb];simp
  apply bW
  repeat first|with_reducible (first|exact len_bytes hl|apply aA e)|wtm_at "e"
 |cons d r ih=>
  intro f u b H hb hf hl
  cases f with
  |zero=>exact dI hf
  |succ f=>
  have hbl:b.length=u.length+(r.length+1):=by rw[hb];simp
  have e:decide ((u.length:Int) < (b.length:Int))=true:=by rw[decide_eq_true_eq];exact GC hbl
  have e3:0≤(u.length:Int)∧(u.length:Int) < b.length∧b.length≤1000000:=⟨natCast_nonneg _,GC hbl,hl⟩
  have hg:b.getD (u.length:Int).toNat 0=d:=i9 (u:=u) (t:=r) hb (by rw[hbl];lia)
  by_cases hd:d=0
  ·refine⟨u.length,?_⟩
   have ed:(!decide ((d.toNat:Int)=0))=false:=by rw[hd];rfl
   apply bW
   repeat first|with_reducible (first|exact len_bytes hl|apply aS e|exact kR e3 hg|exact ed)|wtm_at "e"
  ·obtain⟨k,e1⟩:=ih f (u++[d]) b H (by rw[hb];simp) (by simp only[length_cons] at hf;exact lt_of_succ_lt_succ hf) hl
   refine⟨k,?_⟩
   have ed:(!decide ((d.toNat:Int)=0))=true:=by rw[decide_eq_false fun q=>hd (UInt8.toNat_inj.mp (by show d.toNat=0;lia))];rfl
   have el:((u++[d]).length:Int)=u.length+1:=by simp
   rw[el] at e1
   apply dY
   repeat first|with_reducible (first|exact len_bytes hl|apply aS e|exact kR e3 hg|exact ed)|((with_reducible apply bp);exact e1)|wtm_at "e"
theorem DF{b:Bs}{lo hi:Option Int}:(gU b lo hi).length≤b.length:=by
 exact le_trans (List.length_take_le' _ _) (by rw[List.length_drop];exact sub_le _ _)
theorem yI{b:Bs}(hl:b.length≤900000)(hN:1000000≤N):∃b':Bs,(∀vs,(aa N (n+2)).prim (.ref 166) [.bytes b] ⟨vs,H⟩=.ok (.bytes b') ⟨vs,H⟩)∧b'.length≤b.length:=by
 obtain⟨k,e1⟩:=AA (N:=N) (n:=n) b N [] b H rfl (IN hl hN rfl) (bA hl rfl)
 refine⟨gU b none (some k),fun vs=>?_,DF⟩
 have e0:(([]:Bs).length:Int)=0:=rfl
 rw[e0] at e1
 have hs:∀vs,aZ (.bytes b) .none (.int k) ⟨vs,H⟩=.ok (.bytes (gU b none (some k))) ⟨vs,H⟩:=fun vs=>by
  show(if b.length≤1000000 then _ else _)=_
  rw[if_pos (bA hl rfl)]
 apply aw pP rfl rfl rfl
 repeat first|((with_reducible apply bp);exact e1)|with_reducible exact hs _|wtm_at "e"
noncomputable def dZ:List Bs:=ao++cY
theorem qP{a:Addr}{l:List Bs}{m:Nat}{σ:St}(ha:dg.lookup a=some (l.map .bytes))(hm:m < l.length)(hl:(m:Int) < 1000000):cf (aa N n) (.sta (.ref a)) (.int m) σ=.ok (.bytes l[m]) σ:=by
 have hc:0≤(m:Int)∧(m:Int) < 1000000:=⟨natCast_nonneg m,hl⟩
 have e5:(l.map V.bytes)[(m:Int).toNat]? =some (.bytes l[m]):=by
  rw[toNat_natCast,getElem?_map,getElem?_eq_getElem hm];rfl
 rw[Da,ym]
 refine(ef ha).trans ?_
 refine(if_pos hc).trans ?_
 rw[e5]
 rfl
theorem jd{k:Nat}(h1:257≤k)(h2:k≤287):(aa N (n+2)).prim (.ref 252) [.int k] ⟨vs,H⟩=.ok (.bytes (dZ.getD (k - 257) [])) ⟨vs,H⟩:=by
 obtain⟨m,rfl⟩:∃m,k=257+m:=⟨k - 257,(Nat.add_sub_cancel' h1).symm⟩
 have e1:decide (((257+m:Nat):Int) < 257)=false:=decide_eq_false (Int.not_lt.mpr (ofNat_le.mpr h1))
 have hlen:∀σ,(aa N (n+1)).prim (.builtin "len") [.sta (.ref 188)] σ=.ok (.int 21) σ:=fun σ=>rfl
 have ez:((257+m:Nat):Int) - 257=m:=by rw[add_comm,Int.natCast_add];exact Int.add_sub_cancel ..
 have hm:m≤30:=Nat.le_of_add_le_add_left (a:=257) h2
 rw[Nat.add_sub_cancel_left]
 by_cases hk:m < 21
 ·have e2:decide (((257+m:Nat):Int) - 257 < 21)=true:=by rw[ez];exact decide_eq_true (ofNat_lt.mpr hk)
  have hi:∀σ,cf (aa N (n+1)) (.sta (.ref 188)) (.int (((257+m:Nat):Int) - 257)) σ=.ok (.bytes (dZ.getD m [])) σ:=fun σ=>by
   rw[ez,qP (l:=ao) rfl hk (by lia)]
   unfold dZ
   rw[List.getD_eq_getElem?_getD,getElem?_append_left hk,getElem?_eq_getElem hk]
   rfl
  apply aw dC rfl rfl rfl
  repeat first|with_reducible (first|apply aA e1|exact hlen _|apply aS e2|apply aA e2|exact hi _)|wtm_at "e"
 ·obtain⟨j,rfl⟩:∃j,m=21+j:=⟨m - 21,(Nat.add_sub_cancel' (Nat.le_of_not_lt hk)).symm⟩
  have e2:decide (((257+(21+j):Nat):Int) - 257 < 21)=false:=by rw[ez];exact decide_eq_false (fun q=>hk (ofNat_lt.mp q))
  have hj:j < cY.length:=lt_succ_of_le (Nat.le_of_add_le_add_left (a:=21) hm)
  have hi:∀σ,cf (aa N (n+1)) (.sta (.ref 189)) (.int (((257+(21+j):Nat):Int) - 257 - 21)) σ=.ok (.bytes (dZ.getD (21+j) [])) σ:=fun σ=>by
   rw[ez,show((21+j:Nat):Int) - 21=j by rw[add_comm,Int.natCast_add];exact Int.add_sub_cancel ..,qP (l:=cY) rfl hj (by have:j < 10:=hj;lia)]
   unfold dZ
   rw[List.getD_eq_getElem?_getD,List.getElem?_append_right (le_add_right 21 j:ao.length≤21+j),show 21+j - ao.length=j from Nat.add_sub_cancel_left ..,getElem?_eq_getElem hj]
   rfl
  apply aw dC rfl rfl rfl
  repeat first|with_reducible (first|apply aA e1|exact hlen _|apply aS e2|apply aA e2|exact hi _)|wtm_at "e"
theorem nr(k:Nat):(dZ.getD k []).length≤20:=by
 have h:∀b∈dZ,b.length≤20:=by decide
 rw[List.getD_eq_getElem?_getD]
 cases q:dZ[k]? with
 |none=>exact zero_le _
 |some b=>exact h b (mem_of_getElem? q)
theorem wa{i:Int}(h1:32≤i)(h2:i < 127):(aa N (n+1)).prim (.ref 224) [.int i] ⟨vs,H⟩=.ok (.bool false) ⟨vs,H⟩:=by
 have e1:(decide ((0:Int)≤i)&&decide (i < (32:Int)))=false:=by rw[decide_eq_false (by lia:¬i < 32),Bool.and_false]
 have e3:decide (i=(127:Int))=false:=by rw[decide_eq_false_iff_not];lia
 rw[←e3]
 apply aw iP rfl rfl rfl
 repeat first|with_reducible apply aA e1|wtm_at "e"
theorem kG:(aa N (n+2)).prim (.ref 252) [.int 91] ⟨vs,H⟩=.ok (.bytes [91]) ⟨vs,H++[.list [.int 91]]⟩:=by
 have e1:decide ((91:Int) < 257)=true:=by decide
 have hl:(H++[O.list [.int 91]])[H.length]? =some (.list (([91]:Bs).map fun c=>V.int c.toNat)):=al
 have hc:∀vs,(aa N (n+1)).prim (.ref 224) [.int 91] ⟨vs,H⟩=.ok (.bool false) ⟨vs,H⟩:=fun vs=>wa (by decide) (by decide)
 have hb:∀vs,(aa N (n+1)).prim (.type "bytes") [.ref H.length] ⟨vs,H++[.list [.int 91]]⟩=.ok (.bytes [91]) ⟨vs,H++[.list [.int 91]]⟩:=fun vs=>dX hl (by decide)
 apply aw dC rfl rfl rfl
 repeat first|with_reducible (first|apply aS e1|exact hc _|exact hb _)|wtm_at "e"
noncomputable def s8(k:Nat):Prop:=k=284∨k=285∨k=286∨k=287∨k=91
theorem FW:s8 284:=.inl rfl
theorem yJ:s8 286:=.inr (.inr (.inl rfl))
theorem uK:s8 287:=.inr (.inr (.inr (.inl rfl)))
theorem HH:s8 91:=.inr (.inr (.inr (.inr rfl)))
theorem AB(h:LS c x H){k:Nat}(hk:s8 k)(hb:x.buf.length≤900000)(hN:1000000≤N):∃b M,(∀vs,(aa N (n+3)).prim (.ref 322) [.ref c.L,.int k] ⟨vs,H⟩=.ok (.bytes b) ⟨vs,H++M⟩)∧b.length≤900000:=by
 have l1:=h.app [O.tup [.int 285,.int 286,.int 284]]
 have hi:cF [.int 285,.int 286,.int 284]=some [285,286,284]:=rfl
 have tok:∀(b:Bs) (M:Hp),([285,286,284]:List Int).any (·==(k:Int))=false→(∀vs,(aa N (n+2)).prim (.ref 252) [.int k] ⟨vs,H++[O.tup [.int 285,.int 286,.int 284]]⟩=.ok (.bytes b) ⟨vs,H++[O.tup [.int 285,.int 286,.int 284]]++M⟩)→b.length≤900000→∃b M,(∀vs,(aa N (n+3)).prim (.ref 322) [.ref c.L,.int k] ⟨vs,H⟩=.ok (.bytes b) ⟨vs,H++M⟩)∧b.length≤900000:=by
  intro b M e0 e1 e2
  refine⟨b,[O.tup [.int 285,.int 286,.int 284]]++M,fun vs=>?_,e2⟩
  rw[←append_assoc]
  apply aw cH rfl rfl rfl
  repeat first|with_reducible (first|exact eN al hi e0|exact e1 _)|wtm_at "e"
 have buf:([285,286,284]:List Int).any (·==(k:Int))=true→∃b M,(∀vs,(aa N (n+3)).prim (.ref 322) [.ref c.L,.int k] ⟨vs,H⟩=.ok (.bytes b) ⟨vs,H++M⟩)∧b.length≤900000:=by
  intro e0
  refine ak (yI (N:=N) (n:=n) (H:=H++[O.tup [.int 285,.int 286,.int 284]]) hb hN) fun b' e1 e2=>?_
  refine⟨b',[O.tup [.int 285,.int 286,.int 284]],fun vs=>?_,le_trans e2 hb⟩
  have hl:x.buf.length≤1000000:=bA hb rfl
  apply aw cH rfl rfl rfl
  repeat first|with_reducible (first|exact eN al hi e0|exact fe l1.obj|exact dW l1.buf hl|exact e1 _)|wtm_at "e"
 rcases hk with rfl|rfl|rfl|rfl|rfl
 ·exact buf (by decide)
 ·exact buf (by decide)
 ·exact buf (by decide)
 ·exact tok _ [] (by decide) (fun vs=>by rw[append_nil];exact jd (k:=287) (by decide) (by decide)) (le_trans (nr _) (by decide))
 ·exact tok [91] [.list [.int 91]] (by decide) (fun vs=>kG) (by decide)
theorem DG{a b:Bs}{σ:St}(h:a.length+b.length≤16777216):dy .Add (.bytes a) (.bytes b) σ=.ok (.bytes (a++b)) σ:=by
 show ofOpt σ (if _ then _ else _)=_
 rw[if_pos h];rfl
theorem cL(hN:1000000≤N)(h:LS c x H){k:Nat}(hk:s8 k)(hb:x.buf.length≤900000){msg:Bs}(hm:msg.length≤1000):Ds c (fun vs=>(aa N (n+4)).prim (.ref 308) [.ref c.L,.bytes msg,.int k] ⟨vs,H⟩):=by
 have hl:=h.line
 have hlen:=h.len
 have hck:=h.chk
 obtain⟨ln,hln⟩:∃ln:Nat,x.line=ln:=⟨x.line.toNat,by lia⟩
 refine ak (v9 (N:=N) (n:=n) (H:=H) (k:=ln) (by lia) hN) fun M1 e1 e2=>?_
 refine dc (AB (N:=N) (n:=n) (h.app M1) hk hb hN) fun b M2 e3 e4=>?_
 refine⟨H++M1++M2,fun vs=>?_,((h.app M1).app M2).kp⟩
 have ek:(!decide ((k:Int)=0))=true:=by rw[decide_eq_false (by unfold s8 at hk;lia)];rfl
 have g11:∀vs,aX (aa N (n+3)) (.ref c.L) 11 ⟨vs,H⟩=.ok (.int (ln:Int)) ⟨vs,H⟩:=fun vs=>hln ▸ fF h.obj
 have hn:aQ (H++M1) .IsNot (.int (k:Int)) .none=some true:=rfl
 apply dw g7 rfl rfl rfl
 repeat first|with_reducible exact Dt h.obj|with_reducible exact g11 _|with_reducible exact e1 _|with_reducible exact hn|with_reducible apply aS ek|with_reducible exact Dw (h.app M1).obj|with_reducible exact e3 _|(((with_reducible apply DG)<;>((simp only[length_append,length_cons,length_nil])<;>lia)))|wtm_at "e"
set_option tactic.hygienic true in
theorem mf(hN:1000000≤N)(h:LS c x H){t:Bs}{lv:Nat}(hr:x.r=91::t)(hb:x.buf.length+x.r.length≤900000):
  (P.hd? 91 (P.eqRest t)=true∧P.eqs t=lv→(lv=0→Ds c (fun vs=>(aa N (n+5)).prim (.ref 448) [.ref c.L,.int lv] ⟨vs,H⟩))∧
   (lv≠0→Go c { x with r:=(P.eqRest t).tail,buf:=x.buf++(91::replicate lv 61)++[91] } .none (fun vs=>(aa N (n+5)).prim (.ref 448) [.ref c.L,.int lv] ⟨vs,H⟩)))∧
  (¬(P.hd? 91 (P.eqRest t)=true∧P.eqs t=lv)→Go c { x with r:=P.eqRest t,buf:=x.buf++(91::replicate (P.eqs t) 61) } .none (fun vs=>(aa N (n+5)).prim (.ref 448) [.ref c.L,.int lv] ⟨vs,H⟩)):=by
 refine be (gx (n:=n) hN h hr (bA hb rfl)) fun H1 e1 l1=>?_
 have hq:=P.eqs_len t
 rw[hr,length_cons] at hb
 constructor
 ·rintro⟨q1,q2⟩
  have el:cC 91 t=lv:=by unfold cC;rw[if_pos q1,q2]
  have ed:decide (cC 91 t=(lv:Int))=true:=decide_eq_true el
  obtain⟨w,hw⟩:∃w,P.eqRest t=91::w:=by
   cases hw:P.eqRest t with
   |nil=>rw[hw] at q1;cases q1
   |cons a w=>rw[hw] at q1;exact⟨w,by rw[show a=91 from beq_iff_eq.mp q1]⟩
  rw[hw,length_cons] at hq
  refine be (ff (N:=N) (n:=n+1) l1 (d:=91) (t:=w) hw (by simp only[length_append,length_cons,length_replicate];lia)) fun H2 e2 l2=>?_
  constructor
  ·intro h0
   refine dx (cL (n:=n) hN l2 HH (by simp only[length_append,length_cons,length_replicate,length_nil];lia) (msg:=[110,101,115,116,105,110,103,32,111,102,32,91,91,46,46,46,93,93,32,105,115,32,100,101,112,114,101,99,97,116,101,100]) (by decide)) fun H3 e3 k3=>?_
   have e3':∀vs,(aa N (n+4)).prim (.ref 308) [.ref c.L,.bytes _,.int 91] ⟨vs,H2⟩=.exc H3:=e3
   refine⟨H3,fun vs=>?_,k3⟩
   have e0:decide ((lv:Int)=0)=true:=by rw[decide_eq_true_eq];lia
   apply dw bG rfl rfl rfl
   repeat first|with_reducible (first|exact dm h.obj|exact e1 _|apply aS ed|exact bI l1.obj|exact e2 _|apply aS e0|exact fG l2.obj|exact e3' _)|wtm_at "e"
  ·intro h0
   rw[hw,tail_cons]
   refine⟨H2,fun vs=>?_,q2 ▸ l2⟩
   have e0:decide ((lv:Int)=0)=false:=by rw[decide_eq_false_iff_not];lia
   apply fc bG rfl rfl rfl
   repeat first|with_reducible (first|exact dm h.obj|exact e1 _|apply aS ed|exact bI l1.obj|exact e2 _|apply aA e0)|wtm_at "e"
 ·intro hn
  refine⟨H1,fun vs=>?_,l1⟩
  have ed:decide (cC 91 t=(lv:Int))=false:=by
   rw[decide_eq_false_iff_not]
   intro q
   unfold cC at q
   split at q
   ·rename_i q1;exact hn ⟨q1,by lia⟩
   ·lia
  apply fc bG rfl rfl rfl
  repeat first|with_reducible (first|exact dm h.obj|exact e1 _|apply aA ed)|wtm_at "e"
theorem je(n k:Nat):clipAt n (k:Int)=min k n:=by
 unfold clipAt
 rw[if_neg (Int.not_lt.mpr (natCast_nonneg k))]
 rcases Nat.le_total k n with h|h
 ·rw[Int.min_eq_left (ofNat_le.mpr h),Int.max_eq_right (natCast_nonneg k),Nat.min_eq_left h];rfl
 ·rw[Int.min_eq_right (ofNat_le.mpr h),Int.max_eq_right (natCast_nonneg n),Nat.min_eq_right h];rfl
theorem DH{α:Type}{b:List α}{k:Nat}(h:k≤b.length):gU b none (some (k:Int))=b.take k:=by
 unfold gU
 simp only[elim_none,elim_some,drop_zero,Nat.sub_zero,je]
 rw[Nat.min_eq_left h]
theorem uL{α:Type}{b:List α}{i k:Nat}(h:k≤b.length)(hi:i≤b.length):gU b (some (i:Int)) (some (k:Int))=(b.drop i).take (k - i):=by
 unfold gU
 simp only[elim_some,je]
 rw[Nat.min_eq_left h,Nat.min_eq_left hi]
theorem LS.newBuf2(h:LS c x H){x':LX}{b0:Bs}(hb:x'.bi=H.length)(hbuf:x'.buf=b0)(hr:x'.r=x.r)(hl:x'.line=x.line):LS c x' ((H++[O.ba b0]).set c.L (LF c (c.T.length - x'.r.length) (sgn x'.r) x')):=by
 have hlt:=ai h.obj
 refine⟨by rw[getElem?_set_self (by rw[length_append];lia)],?_,by rw[hb];exact ne_of_gt hlt,fun i o e=>?_,by rw[hr];exact h.suf,h.len,by rw[hl,hr];exact h.line,h.lim,h.kd,h.chk⟩
 ·rw[hb,hbuf,getElem?_set_ne (ne_of_lt hlt)];simp
 ·refine jj (h.keep i o e) fun e1 e2 e3=>?_
  have:=ai e1
  refine⟨by rw[getElem?_set_ne (Ne.symm e2),getElem?_append_left this];exact e1,e2,by rw[hb];exact ne_of_lt this⟩
theorem eO{d:UInt8}{k:UInt8}(h:d≠k):decide ((d.toNat:Int)=(k.toNat:Int))=false:=by
 rw[decide_eq_false_iff_not];exact fun q=>h (UInt8.toNat_inj.mp (by lia))
inductive Bn (c:LC) (vs:aC) (it:Bool) (p:Bs×Bs) (r:af Fl):Prop
 |mk (H':Hp) (x':LX) (b:Bs) (e:r=.ok (.ret (.bytes b)) ⟨vs,H'⟩) (l:LS c x' H') (q:x'.r=p.2) (t:it=true→b=p.1)
theorem yK{c:LC}{vs:aC}{it:Bool}{p:Bs×Bs}{r:af Fl}{P:Prop}(h:Bn c vs it p r)(k:∀H' x' b,r=.ok (.ret (.bytes b)) ⟨vs,H'⟩→LS c x' H'→x'.r=p.2→(it=true→b=p.1)→P):P:=h.rec k
noncomputable def kT(c:LC)(vs:aC)(it:Bool)(o:Option (Bs×Bs))(r:af Fl):Prop:=match o with
 |some p=>Bn c vs it p r
 |none=>Aw c r
theorem eB{d:UInt8}{r:Bs}(h:P.hd? d r=true):∃w,r=d::w:=by
 cases r with
 |nil=>cases h
 |cons a w=>exact⟨w,by rw[beq_iff_eq.mp h]⟩
theorem bo{d:UInt8}:decide ((d.toNat:Int)= -1)=false:=by rw[decide_eq_false_iff_not];lia
theorem kT.of{vs:aC}{it:Bool}{o:Option (Bs×Bs)}{r r':af Fl}(k:kT c vs it o r')(h:r=r'):kT c vs it o r:=h ▸ k
set_option tactic.hygienic true in
theorem nw(hN:1000000≤N)(lvl:Nat)(r acc:Bs):∀(f:Nat) (x:LX) (H:Hp) (it:Bool) (bg:Nat),x.r=r→r.length < f→x.buf.length+r.length≤800000→LS c x H→bg≤x.buf.length→(it=true→∃pre:Bs,pre.length=bg∧x.buf=pre++acc)→
  kT c [some (.ref c.L),some (.int lvl),some (.bool it),some (.int bg)] it (P.longGo lvl r acc) (Wh (aa N (n+5)) N  (.con (.bool true)) (.cons (.ite (.cmp .Eq (.attr (.loc 0) 12) (.con (.int (-1)))) (.cons (.expr (.meth (.loc 0) 21 (.cons (.ite (.loc 2) (.con (.bytes [117,110,102,105,110,105,115,104,101,100,32,108,111,110,103,32,115,116,114,105,110,103])) (.con (.bytes [117,110,102,105,110,105,115,104,101,100,32,108,111,110,103,32,99,111,109,109,101,110,116]))) (.cons (.con (.int 287)) .nil)))) .nil) (.cons (.ite (.cmp .Eq (.attr (.loc 0) 12) (.con (.int 91))) (.cons (.expr (.meth (.loc 0) 41 (.cons (.loc 1) .nil))) .nil) (.cons (.ite (.cmp .Eq (.attr (.loc 0) 12) (.con (.int 93))) (.cons (.ite (.cmp .Eq (.meth (.loc 0) 38 .nil) (.loc 1)) (.cons (.expr (.meth (.loc 0) 24 .nil)) (.cons (.ret (.call (.con (.sta (.type "bytes"))) (.cons (.slc (.attr (.loc 0) 9) (.loc 3) (.bin .Sub (.bin .Sub (.call (.con (.sta (.builtin "len"))) (.cons (.attr (.loc 0) 9) .nil)) (.loc 1)) (.con (.int 2)))) .nil))) .nil)) .nil) .nil) (.cons (.ite (.call (.con (.sta (.ref 231))) (.cons (.attr (.loc 0) 12) .nil)) (.cons (.expr (.meth (.loc 0) 23 (.cons (.con (.int 10)) .nil))) (.cons (.expr (.meth (.loc 0) 36 .nil)) (.cons (.ite (.not (.loc 2)) (.cons (.setA (.loc 0) 9 (.slc (.attr (.loc 0) 9) (.con .none) (.loc 3))) .nil) .nil) .nil))) (.cons (.ite (.loc 2) (.cons (.expr (.meth (.loc 0) 24 .nil)) .nil) (.cons (.expr (.meth (.loc 0) 22 .nil)) .nil)) .nil)) .nil)) .nil)) .nil)) .nil) f ⟨[some (.ref c.L),some (.int lvl),some (.bool it),some (.int bg)],H⟩):=by
 refine P.longGo_ind ?case1 ?case2 ?case3 ?case4 ?case5 ?case6 ?case7 ?case8 r acc
 case case1=>
  intro acc
  intro f x H it bg hr hf hb h hg hi
  cases f with
  |zero=>exact dI hf
  |succ f=>
  have hs:sgn x.r= -1:=by rw[hr];rfl
  have e:decide ((-1:Int)= -1)=true:=by decide
  have e287:((287:Nat):Int)=287:=rfl
  cases it with
  |true=>
   refine dx (cL (n:=n+1) hN h uK (bA hb rfl) (msg:=[117,110,102,105,110,105,115,104,101,100,32,108,111,110,103,32,115,116,114,105,110,103]) (by decide)) fun H3 e3 k3=>?_
   have e3':∀vs,(aa N (n+5)).prim (.ref 308) [.ref c.L,.bytes _,.int 287] ⟨vs,H⟩=.exc H3:=e3
   refine⟨H3,?_,k3⟩
   apply kh
   repeat first|with_reducible (first|exact ag h.obj hs|apply aS e|exact fG h.obj|exact e3' _)|wtm_at "e"
  |false=>
   refine dx (cL (n:=n+1) hN h uK (bA hb rfl) (msg:=[117,110,102,105,110,105,115,104,101,100,32,108,111,110,103,32,99,111,109,109,101,110,116]) (by decide)) fun H3 e3 k3=>?_
   have e3':∀vs,(aa N (n+5)).prim (.ref 308) [.ref c.L,.bytes _,.int 287] ⟨vs,H⟩=.exc H3:=e3
   refine⟨H3,?_,k3⟩
   apply kh
   repeat first|with_reducible (first|exact ag h.obj hs|apply aS e|exact fG h.obj|exact e3' _)|wtm_at "e"
 case case2=>
  intro acc t h1 h2
  intro f x H it bg hr hf hb h hg hi
  cases f with
  |zero=>exact dI hf
  |succ f=>
  have hs:sgn x.r=((91:UInt8).toNat:Int):=by rw[hr];rfl
  simp only[and_eq_true,beq_iff_eq] at h1
  obtain⟨H3,e3,k3⟩:=((mf (n:=n) hN h hr (by rw[hr];exact bA hb rfl)).1 h1).1 h2
  refine⟨H3,?_,k3⟩
  have e:decide (((91:UInt8).toNat:Int)=91)=true:=by decide
  apply kh
  repeat first|with_reducible (first|exact ag h.obj hs|apply aA bo|apply aS e|exact sZ h.obj|exact e3 _)|wtm_at "e"
 case case3=>
  intro acc t h1 h2 ih
  intro f x H it bg hr hf hb h hg hi
  cases f with
  |zero=>exact dI hf
  |succ f=>
  have hs:sgn x.r=((91:UInt8).toNat:Int):=by rw[hr];rfl
  simp only[and_eq_true,beq_iff_eq] at h1
  obtain⟨H3,e3,l3⟩:=((mf (n:=n) hN h hr (by rw[hr];exact bA hb rfl)).1 h1).2 h2
  have e:decide (((91:UInt8).toNat:Int)=91)=true:=by decide
  have hq:=P.eqs_len t
  obtain⟨w,hw⟩:=eB h1.1
  rw[hw,length_cons] at hq
  simp only[length_cons] at hf hb
  have IH:=ih f _ H3 it bg rfl (by rw[hw,tail_cons];lia) (by rw[hw,tail_cons];simp only[length_append,length_cons,length_replicate,length_nil];lia) l3 (by simp only[length_append];lia) (fun q=>by
   refine ak (hi q) fun pre p1 p2=>?_
   exact⟨pre,p1,by simp only[p2,append_assoc]⟩)
  apply IH.of
  apply dY
  repeat first|with_reducible (first|exact ag h.obj hs|apply aA bo|apply aS e|exact sZ h.obj|exact e3 _)|((with_reducible apply bp);exact rfl)|wtm_at "e"
 case case4=>
  intro acc t h1 ih
  intro f x H it bg hr hf hb h hg hi
  cases f with
  |zero=>exact dI hf
  |succ f=>
  have hs:sgn x.r=((91:UInt8).toNat:Int):=by rw[hr];rfl
  simp only[and_eq_true,beq_iff_eq] at h1
  obtain⟨H3,e3,l3⟩:=(mf (n:=n) hN h hr (by rw[hr];exact bA hb rfl)).2 h1
  have e:decide (((91:UInt8).toNat:Int)=91)=true:=by decide
  have hq:=P.eqs_len t
  simp only[length_cons] at hf hb
  have IH:=ih f _ H3 it bg rfl (by lia) (by simp only[length_append,length_cons,length_replicate,length_nil];lia) l3 (by simp only[length_append];lia) (fun q=>by
   refine ak (hi q) fun pre p1 p2=>?_
   exact⟨pre,p1,by simp only[p2,append_assoc]⟩)
  apply IH.of
  apply dY
  repeat first|with_reducible (first|exact ag h.obj hs|apply aA bo|apply aS e|exact sZ h.obj|exact e3 _)|((with_reducible apply bp);exact rfl)|wtm_at "e"
 case case5=>
  intro acc t h2
  intro f x H it bg hr hf hb h hg hi
  cases f with
  |zero=>exact dI hf
  |succ f=>
  have hs:sgn x.r=((93:UInt8).toNat:Int):=by rw[hr];rfl
  simp only[and_eq_true,beq_iff_eq] at h2
  refine be (gx (n:=n+1) hN h hr (by rw[hr];exact bA hb rfl)) fun H1 e1 l1=>?_
  have hq:=P.eqs_len t
  obtain⟨w,hw⟩:=eB h2.1
  rw[hw,length_cons] at hq
  simp only[length_cons] at hf hb
  refine be (ff (N:=N) (n:=n+2) l1 (d:=93) (t:=w) hw (by simp only[length_append,length_cons,length_replicate];lia)) fun H2 e2 l2=>?_
  have el:cC 93 t=lvl:=by unfold cC;rw[if_pos h2.1,h2.2]
  have ed:decide (cC 93 t=(lvl:Int))=true:=decide_eq_true el
  have f1:decide (((93:UInt8).toNat:Int)=91)=false:=by decide
  have f2:decide (((93:UInt8).toNat:Int)=93)=true:=by decide
  have f3:(P.eqRest t).tail=w:=by rw[hw];rfl
  have hbl:(x.buf++93::replicate (P.eqs t) 61++[93]).length=x.buf.length+lvl+2:=by simp only[length_append,length_cons,length_replicate,length_nil,h2.2];lia
  have hb2:H2[x.bi]? =some (.ba (x.buf++93::replicate (P.eqs t) 61++[93])):=l2.buf
  have hsl:∀vs,aZ (.ref x.bi) (.int bg) (.int (((x.buf++93::replicate (P.eqs t) 61++[93]).length:Int) - lvl - 2)) ⟨vs,H2⟩=.ok (.ref H2.length) ⟨vs,H2++[.ba ((x.buf.drop bg))]⟩:=by
   intro vs
   refine(lY hb2 (by lia) rfl rfl).trans ?_
   rw[hbl]
   have:(((x.buf.length+lvl+2:Nat):Int) - lvl - 2)=((x.buf.length:Nat):Int):=by lia
   rw[this,uL (by lia) (by lia)]
   congr 5
   rw[append_assoc,List.drop_append_of_le_length hg,List.take_append_of_le_length (by simp),take_of_length_le (by simp)]
  refine⟨H2++[.ba (x.buf.drop bg)],_,x.buf.drop bg,?_,l2.app _,f3.symm,fun q=>?_⟩
  ·have ho:(H2++[O.ba (x.buf.drop bg)])[H2.length]? =some (.ba (x.buf.drop bg)):=al
   have hdl:(x.buf.drop bg).length≤1000000:=by simp;lia
   have hl6:(x.buf++93::replicate (P.eqs t) 61++[93]).length≤1000000:=by rw[hbl];lia
   apply Fy
   repeat first|with_reducible (first|exact ag h.obj hs|apply aA bo|apply aA f1|apply aS f2|exact dm h.obj|exact e1 _|apply aS ed|exact bI l1.obj|exact e2 _|exact fe l2.obj|exact dU hb2 hl6|exact hsl _|exact dW ho hdl)|wtm_at "e"
  ·refine ak (hi q) fun pre p1 p2=>?_
   show _=acc
   rw[p2,←p1,List.drop_left]
 case case6=>
  intro acc t h2 ih
  intro f x H it bg hr hf hb h hg hi
  cases f with
  |zero=>exact dI hf
  |succ f=>
  have hs:sgn x.r=((93:UInt8).toNat:Int):=by rw[hr];rfl
  simp only[and_eq_true,beq_iff_eq] at h2
  refine be (gx (n:=n+1) hN h hr (by rw[hr];exact bA hb rfl)) fun H1 e1 l1=>?_
  have hq:=P.eqs_len t
  simp only[length_cons] at hf hb
  have ed:decide (cC 93 t=(lvl:Int))=false:=by
   rw[decide_eq_false_iff_not]
   intro q
   unfold cC at q
   split at q
   ·rename_i q1;exact h2 ⟨q1,by lia⟩
   ·lia
  have f1:decide (((93:UInt8).toNat:Int)=91)=false:=by decide
  have f2:decide (((93:UInt8).toNat:Int)=93)=true:=by decide
  have IH:=ih f _ H1 it bg rfl (by lia) (by simp only[length_append,length_cons,length_replicate,length_nil];lia) l1 (by simp only[length_append];lia) (fun q=>by
   refine ak (hi q) fun pre p1 p2=>?_
   exact⟨pre,p1,by simp only[p2,append_assoc]⟩)
  apply IH.of
  apply dY
  repeat first|with_reducible (first|exact ag h.obj hs|apply aA bo|apply aA f1|apply aS f2|exact dm h.obj|exact e1 _|apply aA ed)|((with_reducible apply bp);exact rfl)|wtm_at "e"
 case case7=>
  intro acc d t h1 h2 h3 ih
  intro f x H it bg hr hf hb h hg hi
  cases f with
  |zero=>exact dI hf
  |succ f=>
  have hs:sgn x.r=(d.toNat:Int):=by rw[hr];rfl
  have f1:decide ((d.toNat:Int)=91)=false:=eO (k:=91) h1
  have f2:decide ((d.toNat:Int)=93)=false:=eO (k:=93) h2
  have hnl:jb P.isNl x.r=true:=by rw[hr];exact h3
  have hd:∀vs,(aa N (n+5)).prim (.ref 231) [.int d.toNat] ⟨vs,H⟩=.ok (.bool true) ⟨vs,H++[aU]⟩:=fun vs=>by
   have:=br (N:=N) (n:=n+4) (r:=x.r) (vs:=vs) (H:=H)
   rw[hnl,hs] at this
   exact this
  have l0:=h.app [aU]
  have hle:=P.endLine_le (d::t)
  simp only[length_cons] at hf hb hle
  refine be (ja (N:=N) (n:=n+3) l0 (k:=10) (iC hb rfl)) fun H1 e1 l1=>?_
  refine be (kS (N:=N) (n:=n+2) l1 (d:=d) (t:=t) hr) fun H2 e2 l2=>?_
  have e1':∀vs,(aa N (n+5)).prim (.ref 336) [.ref c.L,.int 10] ⟨vs,_⟩=.ok .none ⟨vs,H1⟩:=e1
  cases it with
  |true=>
   have IH:=ih f _ H2 true bg rfl (by lia) (by simp only[length_append,length_cons,length_replicate,length_nil];lia) l2 (by simp only[length_append];exact le_succ_of_le hg) (fun q=>by
    refine ak (hi q) fun pre p1 p2=>?_
    exact⟨pre,p1,by simp only[p2,append_assoc]⟩)
   apply IH.of
   apply dY
   repeat first|with_reducible (first|exact ag h.obj hs|apply aA bo|apply aA f1|apply aA f2|exact hd _|exact iy l0.obj|exact e1' _|exact jP l1.obj|exact e2 _)|((with_reducible apply bp);exact rfl)|wtm_at "e"
  |false=>
   have hcut:gU (x.buf++[10]) none (some (bg:Int))=x.buf.take bg:=by
    rw[DH (by simp;exact le_succ_of_le hg),List.take_append_of_le_length hg]
   have hb2:H2[x.bi]? =some (.ba (x.buf++[10])):=l2.buf
   have hsl:∀vs,aZ (.ref x.bi) .none (.int bg) ⟨vs,H2⟩=.ok (.ref H2.length) ⟨vs,H2++[.ba (x.buf.take bg)]⟩:=by
    intro vs
    refine(lY hb2 (by simp;exact iC hb rfl) rfl rfl).trans ?_
    rw[hcut]
   have ho:=LS.app_inv (M:=[O.ba (x.buf.take bg)]) l2.obj
   have l3:=l2.newBuf2 (x':={ x with r:=P.endLine (d::t),line:=x.line+1,buf:=x.buf.take bg,bi:=H2.length }) rfl rfl rfl rfl
   have IH:=ih f _ _ false bg rfl (by lia) (by simp only[length_take];lia) l3 (by simp only[length_take];lia) (fun q=>by cases q)
   apply IH.of
   apply dY
   repeat first|with_reducible (first|exact ag h.obj hs|apply aA bo|apply aA f1|apply aA f2|exact hd _|exact iy l0.obj|exact e1' _|exact jP l1.obj|exact e2 _|exact fe l2.obj|exact hsl _)|exact Bm ho|((with_reducible apply bp);exact rfl)|wtm_at "e"
 case case8=>
  intro acc d t h1 h2 h3 ih
  intro f x H it bg hr hf hb h hg hi
  cases f with
  |zero=>exact dI hf
  |succ f=>
  have hs:sgn x.r=(d.toNat:Int):=by rw[hr];rfl
  have f1:decide ((d.toNat:Int)=91)=false:=eO (k:=91) h1
  have f2:decide ((d.toNat:Int)=93)=false:=eO (k:=93) h2
  have hnl:jb P.isNl x.r=false:=by rw[hr];show P.isNl d=false;simpa using h3
  have hd:∀vs,(aa N (n+5)).prim (.ref 231) [.int d.toNat] ⟨vs,H⟩=.ok (.bool false) ⟨vs,H++[aU]⟩:=fun vs=>by
   have:=br (N:=N) (n:=n+4) (r:=x.r) (vs:=vs) (H:=H)
   rw[hnl,hs] at this
   exact this
  have l0:=h.app [aU]
  simp only[length_cons] at hf hb
  cases it with
  |true=>
   refine be (ff (N:=N) (n:=n+2) l0 hr (iC hb rfl)) fun H1 e1 l1=>?_
   have IH:=ih f _ H1 true bg rfl (lt_of_succ_lt_succ hf) (by simp only[length_append,length_cons,length_replicate,length_nil];exact u7 hb rfl) l1 (by simp only[length_append];exact le_succ_of_le hg) (fun q=>by
    refine ak (hi q) fun pre p1 p2=>?_
    exact⟨pre,p1,by simp only[p2,append_assoc]⟩)
   apply IH.of
   apply dY
   repeat first|with_reducible (first|exact ag h.obj hs|apply aA bo|apply aA f1|apply aA f2|exact hd _|exact ag l0.obj hs|exact bI l0.obj|exact e1 _)|((with_reducible apply bp);exact rfl)|wtm_at "e"
  |false=>
   refine be (bn (N:=N) (n:=n+3) l0 hr) fun H1 e1 l1=>?_
   have IH:=ih f _ H1 false bg rfl (lt_of_succ_lt_succ hf) (by simp only[];exact le_of_succ_le hb) l1 hg (fun q=>by cases q)
   apply IH.of
   apply dY
   repeat first|with_reducible (first|exact ag h.obj hs|apply aA bo|apply aA f1|apply aA f2|exact hd _|exact aI l0.obj|exact e1 _)|((with_reducible apply bp);exact rfl)|wtm_at "e"
inductive Iy {α:Type} (c:LC) (p:α×Bs) (r:aC→af V) (R:α→V→Hp→Prop):Prop
 |mk (H':Hp) (x':LX) (v:V) (e:∀vs,r vs=.ok v ⟨vs,H'⟩) (l:LS c x' H') (q:x'.r=p.2) (t:R p.1 v H')
noncomputable def MR{α:Type}(c:LC)(o:Option (α×Bs))(r:aC→af V)(R:α→V→Hp→Prop):Prop:=match o with
 |some p=>Iy c p r R
 |none=>Ds c r
theorem I8{α:Type}{c:LC}{p:α×Bs}{r:aC→af V}{R:α→V→Hp→Prop}{P:Prop}(h:Iy c p r R)(k:∀H' x' v,(∀vs,r vs=.ok v ⟨vs,H'⟩)→LS c x' H'→x'.r=p.2→R p.1 v H'→P):P:=h.rec k
theorem qQ(hN:1000000≤N)(h:LS c x H){d:UInt8}{t:Bs}{lvl:Nat}{it:Bool}(hr:x.r=d::t)(hb:x.buf.length+x.r.length≤800000):
  MR c (P.longGo lvl (P.nlOff t) []) (fun vs=>(aa N (n+6)).prim (.ref 441) [.ref c.L,.int lvl,.bool it] ⟨vs,H⟩) (fun b v z=>∃b',v=.bytes b'∧(it=true→b'=b)):=by
 rw[hr,length_cons] at hb
 have hlen:=h.len
 refine be (ff (N:=N) (n:=n+2) h hr (iC hb rfl)) fun H1 e1 l1=>?_
 have l1':=l1.app [aU]
 have hnn:=P.nlOff_le t
 have hrT:t.length+1≤c.T.length:=by
  obtain⟨u,hu⟩:=h.suf
  rw[hu,hr];simp
 by_cases hnl:jb P.isNl t=true
 ·cases t with
  |nil=>cases hnl
  |cons d2 u=>
   refine be (kS (N:=N) (n:=n+2) l1' (d:=d2) (t:=u) rfl) fun H2 e2 l2=>?_
   have eq:P.nlOff (d2::u)=P.endLine (d2::u):=by
    unfold P.nlOff
    exact if_pos hnl
   rw[eq] at hnn⊢
   have L:=nw (n:=n) (c:=c) hN lvl (P.endLine (d2::u)) [] N _ H2 it (x.buf++[d]).length rfl (by lia) (by simp only[length_append,length_cons,length_nil] at hb hnn⊢;lia) l2 (le_refl _) (fun z=>⟨x.buf++[d],rfl,by simp⟩)
   have hb1:H2[x.bi]? =some (.ba (x.buf++[d])):=l2.buf
   have hl6:(x.buf++[d]).length≤1000000:=by simp;exact iC hb rfl
   cases hlg:P.longGo lvl (P.endLine (d2::u)) [] with
   |none=>
    rw[hlg] at L
    refine sV L fun H' e3 k3=>?_
    refine⟨H',fun vs=>?_,k3⟩
    apply dw bx rfl rfl rfl
    repeat first|with_reducible (first|exact bI h.obj|exact e1 _|exact aV l1.obj|exact br|apply aS hnl|exact jP l1'.obj|exact e2 _|exact fe l2.obj|exact dU hb1 hl6)|((with_reducible apply bp);exact e3)|wtm_at "e"
   |some p=>
    rw[hlg] at L
    refine yK L fun H' x' b e3 l3 g3 g4=>?_
    refine⟨H',x',.bytes b,fun vs=>?_,l3,g3,b,rfl,g4⟩
    apply aw bx rfl rfl rfl
    repeat first|with_reducible (first|exact bI h.obj|exact e1 _|exact aV l1.obj|exact br|apply aS hnl|exact jP l1'.obj|exact e2 _|exact fe l2.obj|exact dU hb1 hl6)|((with_reducible apply bp);exact e3)|wtm_at "e"
 ·simp only[Bool.not_eq_true] at hnl
  have eq:P.nlOff t=t:=by
   cases t with
   |nil=>rfl
   |cons d2 u=>
    unfold P.nlOff
    exact if_neg (by rw[show P.isNl d2=false from hnl];decide)
  rw[eq] at hnn⊢
  have L:=nw (n:=n) (c:=c) hN lvl t [] N _ _ it (x.buf++[d]).length rfl (by lia) (by simp only[length_append,length_cons,length_nil] at hb hnn⊢;exact u7 hb rfl) l1' (le_refl _) (fun z=>⟨x.buf++[d],rfl,by simp⟩)
  have hb1:(H1++[aU])[x.bi]? =some (.ba (x.buf++[d])):=l1'.buf
  have hl6:(x.buf++[d]).length≤1000000:=by simp;exact iC hb rfl
  cases hlg:P.longGo lvl t [] with
  |none=>
   rw[hlg] at L
   refine sV L fun H' e3 k3=>?_
   refine⟨H',fun vs=>?_,k3⟩
   apply dw bx rfl rfl rfl
   repeat first|with_reducible (first|exact bI h.obj|exact e1 _|exact aV l1.obj|exact br|apply aA hnl|exact fe l1'.obj|exact dU hb1 hl6)|((with_reducible apply bp);exact e3)|wtm_at "e"
  |some p=>
   rw[hlg] at L
   refine yK L fun H' x' b e3 l3 g3 g4=>?_
   refine⟨H',x',.bytes b,fun vs=>?_,l3,g3,b,rfl,g4⟩
   apply aw bx rfl rfl rfl
   repeat first|with_reducible (first|exact bI h.obj|exact e1 _|exact aV l1.obj|exact br|apply aA hnl|exact fe l1'.obj|exact dU hb1 hl6)|((with_reducible apply bp);exact e3)|wtm_at "e"
theorem mh{k:Nat}{v:Int}{d:UInt8}{t:Bs}(hd:P.isDig d=true):P.digs3 (k+1) v (d::t)=P.digs3 k (10 * v+d.toNat - 48) t:=by
 show(if _ then _ else _)=_
 rw[if_pos hd]
theorem uM{k:Nat}{v:Int}{d:UInt8}{t:Bs}(hd:P.isDig d=false):P.digs3 (k+1) v (d::t)=(v,d::t):=by
 show(if _ then _ else _)=_
 rw[if_neg (by rw[hd];decide)]
theorem s9{d:UInt8}(h:P.isDig d=true):48≤d.toNat∧d.toNat≤57:=by
 unfold P.isDig at h
 simp only[and_eq_true,decide_eq_true_eq,UInt8.le_iff_toNat_le] at h
 exact h
theorem uN:∀(k:Nat) (v:Int) (r:Bs),0≤v→0≤(P.digs3 k v r).1
 |0,v,r,h=>by cases r<;>exact h
 |k+1,v,[],h=>h
 |k+1,v,d::t,h=>by
  cases hd:P.isDig d with
  |true=>rw[mh hd];exact uN k _ t (by have:=s9 hd;lia)
  |false=>rw[uM hd];exact h
inductive Iz (c:LC) (x:LX) (p:Int×Bs) (r:af Fl):Prop
 |mk (H':Hp) (w:V) (e:r=.ok .next ⟨[some (.ref c.L),some (.int p.1),some w],H'⟩) (l:LS c { x with r:=p.2 } H')
theorem Bo{c:LC}{x:LX}{p:Int×Bs}{r:af Fl}{P:Prop}(h:Iz c x p r)(k:∀H' w,r=.ok .next ⟨[some (.ref c.L),some (.int p.1),some w],H'⟩→LS c { x with r:=p.2 } H'→P):P:=h.rec k
theorem wb(k:Nat):∀(f:Nat) (x:LX) (H:Hp) (v:Int),k < f→k≤3→LS c x H→
  Iz c x (P.digs3 k v x.r) (Wh (aa N (n+2)) N  (.and (.cmp .Lt (.loc 2) (.con (.int 3))) (.call (.con (.sta (.ref 196))) (.cons (.attr (.loc 0) 12) .nil))) (.cons (.asg 1 (.bin .Sub (.bin .Add (.bin .Mult (.con (.int 10)) (.loc 1)) (.attr (.loc 0) 12)) (.con (.int 48)))) (.cons (.aug 2 .Add (.con (.int 1))) (.cons (.expr (.meth (.loc 0) 22 .nil)) .nil))) f ⟨[some (.ref c.L),some (.int v),some (.int ((3:Int) - k))],H⟩):=by
 induction k with
 |zero=>
  intro f x H v hf hk h
  cases f with
  |zero=>exact dI hf
  |succ f=>
  have e0:P.digs3 0 v x.r=(v,x.r):=by cases x.r<;>rfl
  rw[e0]
  refine⟨H,.int ((3:Int) - ((0:Nat):Int)),?_,h⟩
  have e:decide ((3:Int) - ((0:Nat):Int) < 3)=false:=by decide
  apply bW
  repeat first|with_reducible apply aA e|wtm_at "e"
 |succ k ih=>
  intro f x H v hf hk h
  cases f with
  |zero=>exact dI hf
  |succ f=>
  have e:decide ((3:Int) - ((k+1:Nat):Int) < 3)=true:=by rw[decide_eq_true_eq];lia
  cases hr:x.r with
  |nil=>
   have e0:P.digs3 (k+1) v []=(v,[]):=rfl
   rw[e0]
   refine⟨H,.int ((3:Int) - ((k+1:Nat):Int)),?_,by rw[←hr];exact h⟩
   have hd:jb P.isDig x.r=false:=by rw[hr];rfl
   apply bW
   repeat first|with_reducible (first|apply aS e|exact aV h.obj|exact fH|exact hd)|wtm_at "e"
  |cons d t=>
   cases hd:P.isDig d with
   |true=>
    rw[mh hd]
    have hd':jb P.isDig x.r=true:=by rw[hr];exact hd
    have hs:sgn x.r=d.toNat:=by rw[hr];rfl
    have hk1:(3:Int) - ((k+1:Nat):Int)+1=3 - (k:Int):=by lia
    refine be (bn (N:=N) (n:=n) h hr) fun H1 e1 l1=>?_
    refine Bo (ih f _ H1 (10 * v+d.toNat - 48) (lt_of_succ_lt_succ hf) (le_of_succ_le hk) l1) fun H2 w e2 l2=>?_
    refine⟨H2,w,?_,l2⟩
    have e3:∀vs,(aa N (n+2)).prim (.ref 196) [.int d.toNat] ⟨vs,H⟩=.ok (.bool true) ⟨vs,H⟩:=fun vs=>by
     have:=fH (N:=N) (n:=n+1) (r:=x.r) (vs:=vs) (H:=H)
     rwa [hd',hs] at this
    have em:∀σ,dy .Mult (.int 10) (.int v) σ=.ok (.int (10 * v)) σ:=fun σ=>rfl
    rw[←hk1] at e2
    apply dY
    repeat first|with_reducible (first|apply aS e|exact ag h.obj hs|exact e3 _|exact em _|exact aI h.obj|exact e1 _)|((with_reducible apply bp);exact e2)|wtm_at "e"
   |false=>
    rw[uM hd]
    have hd':jb P.isDig x.r=false:=by rw[hr];exact hd
    refine⟨H,.int ((3:Int) - ((k+1:Nat):Int)),?_,by rw[←hr];exact h⟩
    apply bW
    repeat first|with_reducible (first|apply aS e|exact aV h.obj|exact fH|exact hd')|wtm_at "e"
set_option tactic.hygienic true in
theorem wc(hN:1000000≤N)(h:LS c x H){d:UInt8}{t:Bs}(hr:x.r=d::t)(hd:P.isDig d=true)(hb:x.buf.length≤800000):
  if(P.digs3 2 (d.toNat - 48) t).1 > 255 then Ds c (fun vs=>(aa N (n+5)).prim (.ref 469) [.ref c.L] ⟨vs,H⟩)
  else Go c { x with r:=(P.digs3 2 (d.toNat - 48) t).2,buf:=x.buf++[UInt8.ofNat (P.digs3 2 (d.toNat - 48) t).1.toNat] } .none (fun vs=>(aa N (n+5)).prim (.ref 469) [.ref c.L] ⟨vs,H⟩):=by
 have l0:=h.app [.tup [.int 0,.int 0]]
 have ht:(H++[O.tup [.int 0,.int 0]])[H.length]? =some (.tup [.int 0,.int 0]):=al
 refine Bo (wb (N:=N) (n:=n+2) 3 N x _ 0 (GT hN rfl) (le_of_ble_eq_true rfl) l0) fun H1 w e1 l1=>?_
 have q:P.digs3 3 0 x.r=P.digs3 2 (d.toNat - 48) t:=by
  rw[hr,mh hd]
  congr 1
  lia
 rw[q] at e1 l1
 have z:(3:Int) - ((3:Nat):Int)=0:=rfl
 rw[z] at e1
 split
 ·rename_i hg
  refine dx (cL (n:=n) hN l1 yJ (by show x.buf.length≤900000;exact bA hb rfl) (msg:=[101,115,99,97,112,101,32,115,101,113,117,101,110,99,101,32,116,111,111,32,108,97,114,103,101]) (by decide)) fun H2 e2 k2=>?_
  refine⟨H2,fun vs=>?_,k2⟩
  have e2':∀vs,(aa N (n+4)).prim (.ref 308) [.ref c.L,.bytes _,.int 286] ⟨vs,H1⟩=.exc H2:=e2
  have eg:decide ((255:Int) < (P.digs3 2 (d.toNat - 48) t).1)=true:=decide_eq_true hg
  apply dw ci rfl rfl rfl
  repeat first|with_reducible exact FP al|((with_reducible apply bp);exact e1)|with_reducible (first|apply aS eg|exact fG l1.obj|exact e2' _)|wtm_at "e"
 ·rename_i hg
  have nn:=uN 2 ((d.toNat:Int) - 48) t (by have:=s9 hd;lia)
  have ek:(P.digs3 2 (d.toNat - 48) t).1=((UInt8.ofNat (P.digs3 2 (d.toNat - 48) t).1.toNat).toNat:Int):=by
   rw[UInt8.toNat_ofNat_of_lt' (by show _ < 256;lia)]
   lia
  refine be (ja (N:=N) (n:=n+2) l1 (k:=UInt8.ofNat (P.digs3 2 (d.toNat - 48) t).1.toNat) (by show x.buf.length≤999998;exact bA hb rfl)) fun H2 e2 l2=>?_
  rw[←ek] at e2
  refine⟨H2,fun vs=>?_,l2⟩
  have eg:decide ((255:Int) < (P.digs3 2 (d.toNat - 48) t).1)=false:=decide_eq_false hg
  apply fc ci rfl rfl rfl
  repeat first|with_reducible exact FP al|((with_reducible apply bp);exact e1)|with_reducible (first|apply aA eg|exact iy l1.obj|exact e2 _)|wtm_at "e"
noncomputable def cR(d:UInt8):Int:=if d=97 then 0 else if d=98 then 1 else if d=102 then 2 else if d=110 then 3 else if d=114 then 4 else if d=116 then 5 else if d=118 then 6 else -1
theorem wd:∀k,k < 256→lA [97,98,102,110,114,116,118] [UInt8.ofNat k]=cR (UInt8.ofNat k):=by decide +kernel
theorem yL(d:UInt8):lA [97,98,102,110,114,116,118] [d]=cR d:=by
 have:=wd d.toNat d.toNat_lt
 rwa [UInt8.ofNat_toNat] at this
theorem ta:∀k,k < 256→(cR (UInt8.ofNat k) < 0→P.escSign (UInt8.ofNat k)=UInt8.ofNat k)∧(¬cR (UInt8.ofNat k) < 0→cR (UInt8.ofNat k) < 7∧([7,8,12,10,13,9,11]:Bs).getD (cR (UInt8.ofNat k)).toNat 0=P.escSign (UInt8.ofNat k)):=by decide +kernel
theorem mj(d:UInt8):(cR d < 0→P.escSign d=d)∧(¬cR d < 0→cR d < 7∧([7,8,12,10,13,9,11]:Bs).getD (cR d).toNat 0=P.escSign d):=by
 have:=ta d.toNat d.toNat_lt
 rwa [UInt8.ofNat_toNat] at this
theorem nx{b:Bs}:ay (aa N n) (.bytes b) 4 H=some (.prim "bytes.find" (.bytes b)):=by
 unfold ay;rw[i7];rfl
theorem DI{b k:Bs}{σ:St}:aD "bytes.find" (.bytes b) [.bytes k] σ=.ok (.int (lA b k)) σ:=Ab
noncomputable def we(d:UInt8):V:=if cR d < 0 then .none else .int (P.escSign d).toNat
theorem uO{d:UInt8}{σ:St}:aD "bytes.find" (.bytes [97,98,102,110,114,116,118]) [.bytes [d]] σ=.ok (.int (cR d)) σ:=by rw[DI,yL]
theorem FX{d:UInt8}:(aa N (n+2)).prim (.ref 238) [.int d.toNat] ⟨vs,H⟩=.ok (we d) ⟨vs,H++[.list [.int d.toNat]]⟩:=by
 have hl:(H++[O.list [.int d.toNat]])[H.length]? =some (.list (([d]:Bs).map fun c=>V.int c.toNat)):=al
 have hB:∀vs,(aa N (n+1)).prim (.type "bytes") [.ref H.length] ⟨vs,H++[O.list [.int d.toNat]]⟩=.ok (.bytes [d]) ⟨vs,H++[O.list [.int d.toNat]]⟩:=fun vs=>dX hl (by simp)
 obtain⟨g1,g2⟩:=mj d
 by_cases hx:cR d < 0
 ·have e:decide (cR d < 0)=true:=decide_eq_true hx
  rw[show we d=.none from if_pos hx]
  apply aw dO rfl rfl rfl
  repeat first|with_reducible (first|exact hB _|exact nx|exact uO|apply aS e)|wtm_at "e"
 ·obtain⟨g3,g4⟩:=g2 hx
  have e:decide (cR d < 0)=false:=decide_eq_false hx
  rw[show we d=.int (P.escSign d).toNat from if_neg hx]
  have hit:∀(t:Tb) (σ:St),cf t (.bytes [7,8,12,10,13,9,11]) (.int (cR d)) σ=.ok (.int (P.escSign d).toNat) σ:=fun t σ=>by
   rw[gw ⟨by lia,by show cR d < 7;exact g3,by decide⟩,g4]
  apply aw dO rfl rfl rfl
  repeat first|with_reducible (first|exact hB _|exact nx|exact uO|apply aA e|exact hit _ _)|wtm_at "e"
theorem kU{d:UInt8}(h:P.isNl d=true):(aa N (n+1)).prim (.ref 231) [.int d.toNat] ⟨vs,H⟩=.ok (.bool true) ⟨vs,H++[aU]⟩:=by
 have:=br (N:=N) (n:=n) (r:=[d]) (vs:=vs) (H:=H)
 rw[show jb P.isNl [d]=true from h] at this
 exact this
theorem bk{d:UInt8}(h:P.isNl d=false):(aa N (n+1)).prim (.ref 231) [.int d.toNat] ⟨vs,H⟩=.ok (.bool false) ⟨vs,H++[aU]⟩:=by
 have:=br (N:=N) (n:=n) (r:=[d]) (vs:=vs) (H:=H)
 rw[show jb P.isNl [d]=false from h] at this
 exact this
theorem mJ{d:UInt8}{b:Bool}(h:P.isDig d=b):(aa N (n+1)).prim (.ref 196) [.int d.toNat] ⟨vs,H⟩=.ok (.bool b) ⟨vs,H⟩:=by
 have:=fH (N:=N) (n:=n) (r:=[d]) (vs:=vs) (H:=H)
 rw[show jb P.isDig [d]=b from h] at this
 exact this
theorem AC(h:LS c x H)(hr:x.r=[]):(aa N (n+1)).prim (.ref 462) [.ref c.L] ⟨vs,H⟩=.ok .none ⟨vs,H⟩:=by
 have hs:sgn x.r= -1:=by rw[hr];rfl
 have e:decide ((-1:Int)= -1)=true:=by decide
 apply aw aL rfl rfl rfl
 repeat first|with_reducible (first|exact ag h.obj hs|apply aS e)|wtm_at "e"
theorem DJ(h:LS c x H){d:UInt8}{t:Bs}(hr:x.r=d::t)(hd:P.isNl d=true)(hb:x.buf.length≤800000):Go c { x with r:=P.endLine (d::t),buf:=x.buf++[10],line:=x.line+1 } .none (fun vs=>(aa N (n+6)).prim (.ref 462) [.ref c.L] ⟨vs,H⟩):=by
 have hs:sgn x.r=d.toNat:=by rw[hr];rfl
 have l0:=h.app [aU]
 refine be (ja (N:=N) (n:=n+3) l0 (k:=10) (bA hb rfl)) fun H1 e1 l1=>?_
 refine be (kS (N:=N) (n:=n+2) l1 (d:=d) (t:=t) hr) fun H2 e2 l2=>?_
 have e1':∀vs,(aa N (n+5)).prim (.ref 336) [.ref c.L,.int 10] ⟨vs,_⟩=.ok .none ⟨vs,H1⟩:=e1
 refine⟨H2,fun vs=>?_,l2⟩
 apply aw aL rfl rfl rfl
 repeat first|with_reducible (first|exact ag h.obj hs|apply aA bo|exact kU hd|exact iy l0.obj|exact e1' _|exact jP l1.obj|exact e2 _)|wtm_at "e"
theorem uP(hN:1000000≤N)(h:LS c x H){d:UInt8}{t:Bs}(hr:x.r=d::t)(hn:P.isNl d=false)(hd:P.isDig d=true)(hb:x.buf.length≤800000):
  ((P.digs3 2 (d.toNat - 48) t).1 > 255→Ds c (fun vs=>(aa N (n+6)).prim (.ref 462) [.ref c.L] ⟨vs,H⟩))∧
  (¬(P.digs3 2 (d.toNat - 48) t).1 > 255→Go c { x with r:=(P.digs3 2 (d.toNat - 48) t).2,buf:=x.buf++[UInt8.ofNat (P.digs3 2 (d.toNat - 48) t).1.toNat] } .none (fun vs=>(aa N (n+6)).prim (.ref 462) [.ref c.L] ⟨vs,H⟩)):=by
 have hs:sgn x.r=d.toNat:=by rw[hr];rfl
 have l0:=h.app [aU]
 have D:=wc (n:=n) hN l0 hr hd hb
 constructor
 ·intro hg
  rw[if_pos hg] at D
  refine dx D fun H1 e1 k1=>?_
  refine⟨H1,fun vs=>?_,k1⟩
  apply dw aL rfl rfl rfl
  repeat first|with_reducible (first|exact ag h.obj hs|apply aA bo|exact bk hn|exact ag l0.obj hs|exact mJ hd|exact yD l0.obj|exact e1 _)|wtm_at "e"
 ·intro hg
  rw[if_neg hg] at D
  refine be D fun H1 e1 k1=>?_
  refine⟨H1,fun vs=>?_,k1⟩
  apply aw aL rfl rfl rfl
  repeat first|with_reducible (first|exact ag h.obj hs|apply aA bo|exact bk hn|exact ag l0.obj hs|exact mJ hd|exact yD l0.obj|exact e1 _)|wtm_at "e"
theorem DK(h:LS c x H){d:UInt8}{t:Bs}(hr:x.r=d::t)(hn:P.isNl d=false)(hd:P.isDig d=false)(hb:x.buf.length≤800000):
  Go c { x with r:=t,buf:=x.buf++[P.escSign d] } .none (fun vs=>(aa N (n+6)).prim (.ref 462) [.ref c.L] ⟨vs,H⟩):=by
 have hs:sgn x.r=d.toNat:=by rw[hr];rfl
 have l0:=h.app [aU]
 have l1:=l0.app [.list [.int d.toNat]]
 refine be (ja (N:=N) (n:=n+3) l1 (k:=P.escSign d) (bA hb rfl)) fun H1 e1 l2=>?_
 refine be (bn (N:=N) (n:=n+3) l2 (d:=d) (t:=t) hr) fun H2 e2 l3=>?_
 refine⟨H2,fun vs=>?_,l3⟩
 obtain⟨g1,g2⟩:=mj d
 have pe:∀vs,(aa N (n+5)).prim (.ref 238) [.int d.toNat] ⟨vs,H++[aU]⟩=.ok (we d) ⟨vs,H++[aU]++[.list [.int d.toNat]]⟩:=fun vs=>FX
 by_cases hx:cR d < 0
 ·have hsg:((P.escSign d).toNat:Int)=(d.toNat:Int):=by rw[g1 hx]
  rw[show we d=.none from if_pos hx] at pe
  rw[hsg] at e1
  apply fc aL rfl rfl rfl
  repeat first|with_reducible (first|exact ag h.obj hs|apply aA bo|exact bk hn|exact ag l0.obj hs|exact mJ hd|exact pe _|exact ag l1.obj hs|exact iy l1.obj|exact e1 _|exact aI l2.obj|exact e2 _)|wtm_at "e"
 ·rw[show we d=.int (P.escSign d).toNat from if_neg hx] at pe
  apply fc aL rfl rfl rfl
  repeat first|with_reducible (first|exact ag h.obj hs|apply aA bo|exact bk hn|exact ag l0.obj hs|exact mJ hd|exact pe _|exact ag l1.obj hs|exact iy l1.obj|exact e1 _|exact aI l2.obj|exact e2 _)|wtm_at "e"
inductive FY (c:LC) (q:UInt8) (vs:aC) (p:Bs×Bs) (r:af Fl):Prop
 |mk (H':Hp) (x':LX) (e:r=.ok .next ⟨vs,H'⟩) (l:LS c x' H') (g:x'.r=q::p.2) (b:x'.buf=q::p.1) (k:x'.buf.length≤700000)
theorem FZ{c:LC}{q:UInt8}{vs:aC}{p:Bs×Bs}{r:af Fl}{P:Prop}(h:FY c q vs p r)(k:∀H' x',r=.ok .next ⟨vs,H'⟩→LS c x' H'→x'.r=q::p.2→x'.buf=q::p.1→x'.buf.length≤700000→P):P:=h.rec k
noncomputable def oY(c:LC)(q:UInt8)(vs:aC)(o:Option (Bs×Bs))(r:af Fl):Prop:=match o with
 |some p=>FY c q vs p r
 |none=>Aw c r
theorem oY.of{q:UInt8}{vs:aC}{o:Option (Bs×Bs)}{r r':af Fl}(k:oY c q vs o r')(h:r=r'):oY c q vs o r:=h ▸ k
theorem yM(hN:1000000≤N)(q:UInt8)(r acc:Bs):∀(f:Nat) (x:LX) (H:Hp),x.r=r→r.length < f→x.buf.length+r.length≤700000→LS c x H→x.buf=q::acc→
  oY c q [some (.ref c.L),some (.int q.toNat)] (P.strGo q r acc) (Wh (aa N (n+6)) N  (.cmp .NotEq (.attr (.loc 0) 12) (.loc 1)) (.cons (.ite (.cmp .Eq (.attr (.loc 0) 12) (.con (.int (-1)))) (.cons (.expr (.meth (.loc 0) 21 (.cons (.con (.bytes [117,110,102,105,110,105,115,104,101,100,32,115,116,114,105,110,103])) (.cons (.con (.int 287)) .nil)))) .nil) (.cons (.ite (.call (.con (.sta (.ref 231))) (.cons (.attr (.loc 0) 12) .nil)) (.cons (.expr (.meth (.loc 0) 21 (.cons (.con (.bytes [117,110,102,105,110,105,115,104,101,100,32,115,116,114,105,110,103])) (.cons (.con (.int 286)) .nil)))) .nil) (.cons (.ite (.cmp .Eq (.attr (.loc 0) 12) (.con (.int 92))) (.cons (.expr (.meth (.loc 0) 22 .nil)) (.cons (.expr (.meth (.loc 0) 42 .nil)) .nil)) (.cons (.expr (.meth (.loc 0) 24 .nil)) .nil)) .nil)) .nil)) .nil) f ⟨[some (.ref c.L),some (.int q.toNat)],H⟩):=by
 refine P.strGo_ind ?case1 ?case2 ?case3 ?case4 ?case5 ?case6 ?case7 ?case8 ?case9 r acc
 case case1=>
  intro acc
  intro f x H hr hf hb h hg
  cases f with
  |zero=>exact dI hf
  |succ f=>
  have hs:sgn x.r= -1:=by rw[hr];rfl
  refine dx (cL (n:=n+2) hN h uK (bA hb rfl) (msg:=[117,110,102,105,110,105,115,104,101,100,32,115,116,114,105,110,103]) (by decide)) fun H3 e3 k3=>?_
  have e3':∀vs,(aa N (n+6)).prim (.ref 308) [.ref c.L,.bytes _,.int 287] ⟨vs,_⟩=.exc H3:=e3
  refine⟨H3,?_,k3⟩
  have e:decide ((-1:Int)= -1)=true:=by decide
  have e2:decide ((-1:Int)=(q.toNat:Int))=false:=by rw[decide_eq_false_iff_not];lia
  apply kh
  repeat first|with_reducible (first|exact ag h.obj hs|exact jM e2|apply aS e|exact fG h.obj|exact e3' _)|wtm_at "e"
 case case2=>
  intro acc t
  intro f x H hr hf hb h hg
  cases f with
  |zero=>exact dI hf
  |succ f=>
  have hs:sgn x.r=(q.toNat:Int):=by rw[hr];rfl
  refine⟨H,x,?_,h,hr,hg,iC hb rfl⟩
  have e2:decide ((q.toNat:Int)=(q.toNat:Int))=true:=decide_eq_true rfl
  apply bW
  repeat first|with_reducible (first|exact ag h.obj hs|exact sT e2)|wtm_at "e"
 case case3=>
  intro acc d t h1 h2
  intro f x H hr hf hb h hg
  cases f with
  |zero=>exact dI hf
  |succ f=>
  have hs:sgn x.r=(d.toNat:Int):=by rw[hr];rfl
  refine dx (cL (n:=n+2) hN (h.app [aU]) yJ (iC hb rfl) (msg:=[117,110,102,105,110,105,115,104,101,100,32,115,116,114,105,110,103]) (by decide)) fun H3 e3 k3=>?_
  have e3':∀vs,(aa N (n+6)).prim (.ref 308) [.ref c.L,.bytes _,.int 286] ⟨vs,_⟩=.exc H3:=e3
  refine⟨H3,?_,k3⟩
  have e2:=eO h1
  apply kh
  repeat first|with_reducible (first|exact ag h.obj hs|exact jM e2|apply aA bo|exact kU h2|exact fG (h.app [aU]).obj|exact e3' _)|wtm_at "e"
 case case4=>
  intro acc h1
  intro f x H hr hf hb h hg
  cases f with
  |zero=>exact dI hf
  |succ f=>
  cases f with
  |zero=>simp at hf
  |succ f=>
  have hs:sgn x.r=((92:UInt8).toNat:Int):=by rw[hr];rfl
  have l0:=h.app [aU]
  refine be (bn (N:=N) (n:=n+4) l0 hr) fun H1 e1 l1=>?_
  have e4:=fun vs=>AC (N:=N) (n:=n+5) (vs:=vs) l1 rfl
  refine dx (cL (n:=n+2) hN l1 uK (by show x.buf.length≤_;exact iC hb rfl) (msg:=[117,110,102,105,110,105,115,104,101,100,32,115,116,114,105,110,103]) (by decide)) fun H3 e3 k3=>?_
  have e3':∀vs,(aa N (n+6)).prim (.ref 308) [.ref c.L,.bytes _,.int 287] ⟨vs,_⟩=.exc H3:=e3
  refine⟨H3,?_,k3⟩
  have e2:=eO h1
  have f92:decide (((92:UInt8).toNat:Int)=92)=true:=by decide
  have n92:P.isNl 92=false:=by decide
  apply dY
  repeat first|with_reducible (first|exact ag h.obj hs|exact jM e2|apply aA bo|exact bk n92|exact ag l0.obj hs|apply aS f92|exact aI l0.obj|exact e1 _|exact l7 l1.obj|exact e4 _)|wtm_at "e"
  have e:decide ((-1:Int)= -1)=true:=by decide
  have e5:decide ((-1:Int)=(q.toNat:Int))=false:=by rw[decide_eq_false_iff_not];lia
  have hs1:sgn ([]:Bs)= -1:=rfl
  apply kh
  repeat first|with_reducible (first|exact ag l1.obj hs1|exact jM e5|apply aS e|exact fG l1.obj|exact e3' _)|wtm_at "e"
 case case5=>
  intro acc d u h3 h1 ih
  intro f x H hr hf hb h hg
  cases f with
  |zero=>exact dI hf
  |succ f=>
  have hs:sgn x.r=((92:UInt8).toNat:Int):=by rw[hr];rfl
  have l0:=h.app [aU]
  simp only[length_cons] at hf hb
  have hle:=P.endLine_le (d::u)
  simp only[length_cons] at hle
  refine be (bn (N:=N) (n:=n+4) l0 hr) fun H1 e1 l1=>?_
  refine be (DJ (N:=N) (n:=n) l1 (d:=d) (t:=u) rfl h3 (by show x.buf.length≤_;exact iC hb rfl)) fun H2 e4 l2=>?_
  have IH:=ih f _ H2 rfl (by lia) (by simp only[length_append,length_cons,length_nil];lia) l2 (by simp only[hg,cons_append])
  have e2:=eO h1
  have f92:decide (((92:UInt8).toNat:Int)=92)=true:=by decide
  have n92:P.isNl 92=false:=by decide
  apply IH.of
  apply dY
  repeat first|with_reducible (first|exact ag h.obj hs|exact jM e2|apply aA bo|exact bk n92|exact ag l0.obj hs|apply aS f92|exact aI l0.obj|exact e1 _|exact l7 l1.obj|exact e4 _)|((with_reducible apply bp);exact rfl)|wtm_at "e"
 case case6=>
  intro acc d u h3 h4 h5 h1
  intro f x H hr hf hb h hg
  cases f with
  |zero=>exact dI hf
  |succ f=>
  have hs:sgn x.r=((92:UInt8).toNat:Int):=by rw[hr];rfl
  have l0:=h.app [aU]
  simp only[length_cons] at hf hb
  refine be (bn (N:=N) (n:=n+4) l0 hr) fun H1 e1 l1=>?_
  obtain⟨H2,e4,k2⟩:=(uP (n:=n) hN l1 (d:=d) (t:=u) rfl (by simpa using h3) h4 (by show x.buf.length≤_;exact iC hb rfl)).1 h5
  refine⟨H2,?_,k2⟩
  have e2:=eO h1
  have f92:decide (((92:UInt8).toNat:Int)=92)=true:=by decide
  have n92:P.isNl 92=false:=by decide
  apply kh
  repeat first|with_reducible (first|exact ag h.obj hs|exact jM e2|apply aA bo|exact bk n92|exact ag l0.obj hs|apply aS f92|exact aI l0.obj|exact e1 _|exact l7 l1.obj|exact e4 _)|wtm_at "e"
 case case7=>
  intro acc d u h3 h4 h5 h1 ih
  intro f x H hr hf hb h hg
  cases f with
  |zero=>exact dI hf
  |succ f=>
  have hs:sgn x.r=((92:UInt8).toNat:Int):=by rw[hr];rfl
  have l0:=h.app [aU]
  simp only[length_cons] at hf hb
  have hle:=P.digs3_le 2 (d.toNat - 48) u
  refine be (bn (N:=N) (n:=n+4) l0 hr) fun H1 e1 l1=>?_
  obtain⟨H2,e4,l2⟩:=(uP (n:=n) hN l1 (d:=d) (t:=u) rfl (by simpa using h3) h4 (by show x.buf.length≤_;exact iC hb rfl)).2 h5
  have IH:=ih f _ H2 rfl (by lia) (by simp only[length_append,length_cons,length_nil];lia) l2 (by simp only[hg,cons_append])
  have e2:=eO h1
  have f92:decide (((92:UInt8).toNat:Int)=92)=true:=by decide
  have n92:P.isNl 92=false:=by decide
  apply IH.of
  apply dY
  repeat first|with_reducible (first|exact ag h.obj hs|exact jM e2|apply aA bo|exact bk n92|exact ag l0.obj hs|apply aS f92|exact aI l0.obj|exact e1 _|exact l7 l1.obj|exact e4 _)|((with_reducible apply bp);exact rfl)|wtm_at "e"
 case case8=>
  intro acc d u h3 h4 h1 ih
  intro f x H hr hf hb h hg
  cases f with
  |zero=>exact dI hf
  |succ f=>
  have hs:sgn x.r=((92:UInt8).toNat:Int):=by rw[hr];rfl
  have l0:=h.app [aU]
  simp only[length_cons] at hf hb
  refine be (bn (N:=N) (n:=n+4) l0 hr) fun H1 e1 l1=>?_
  refine be (DK (N:=N) (n:=n) l1 (d:=d) (t:=u) rfl (by simpa using h3) (by simpa using h4) (by show x.buf.length≤_;exact iC hb rfl)) fun H2 e4 l2=>?_
  have IH:=ih f _ H2 rfl (by lia) (by simp only[length_append,length_cons,length_nil];lia) l2 (by simp only[hg,cons_append])
  have e2:=eO h1
  have f92:decide (((92:UInt8).toNat:Int)=92)=true:=by decide
  have n92:P.isNl 92=false:=by decide
  apply IH.of
  apply dY
  repeat first|with_reducible (first|exact ag h.obj hs|exact jM e2|apply aA bo|exact bk n92|exact ag l0.obj hs|apply aS f92|exact aI l0.obj|exact e1 _|exact l7 l1.obj|exact e4 _)|((with_reducible apply bp);exact rfl)|wtm_at "e"
 case case9=>
  intro acc d t h1 h2 h3 ih
  intro f x H hr hf hb h hg
  cases f with
  |zero=>exact dI hf
  |succ f=>
  have hs:sgn x.r=(d.toNat:Int):=by rw[hr];rfl
  have l0:=h.app [aU]
  simp only[length_cons] at hf hb
  refine be (ff (N:=N) (n:=n+3) l0 hr (iC hb rfl)) fun H1 e1 l1=>?_
  have IH:=ih f _ H1 rfl (lt_of_succ_lt_succ hf) (by simp only[length_append,length_cons,length_nil];exact u7 hb rfl) l1 (by simp only[hg,cons_append])
  have e2:=eO h1
  have f92:decide ((d.toNat:Int)=92)=false:=eO (k:=92) h3
  have h2':P.isNl d=false:=by simpa using h2
  apply IH.of
  apply dY
  repeat first|with_reducible (first|exact ag h.obj hs|exact jM e2|apply aA bo|exact bk h2'|exact ag l0.obj hs|apply aA f92|exact bI l0.obj|exact e1 _)|((with_reducible apply bp);exact rfl)|wtm_at "e"
noncomputable def ny:P.TV→V
 | .non=>.none
 | .num i=>.int i
 | .txt b=>.bytes b
noncomputable def cS(t:P.Tok)(v:V)(H:Hp):Prop:=∃i,v=.ref i∧H[i]? =some (cO (.int t.1) (ny t.2))
theorem AD{e2:E}{v:V}{σ:St}(h:ev (aa N n) e2 σ=.exc H):ev (aa N n) (.call (.con (.sta (.ref 269))) (.cons (.con v) (.cons e2 .nil))) σ=.exc H:=by
 rw[uz rfl,lg,BU,bind_ok,lg,h];rfl
theorem wf(hN:1000000≤N)(h:LS c x H){q:UInt8}{t:Bs}(hr:x.r=q::t)(hb:x.buf=[]):
  MR c ((P.strGo q t []).map fun p=>(((286,.txt p.1):P.Tok),p.2)) (fun vs=>(aa N (n+7)).prim (.ref 455) [.ref c.L,.int q.toNat] ⟨vs,H⟩) cS:=by
 have hlen:=h.len
 have hrT:t.length+1≤c.T.length:=by
  obtain⟨u,hu⟩:=h.suf
  rw[hu,hr];simp
 refine be (ff (N:=N) (n:=n+3) h hr (by rw[hb];simp)) fun H1 e1 l1=>?_
 have L:=yM (n:=n) hN q t [] N _ H1 rfl (by lia) (by simp only[hb,length_append,length_cons,length_nil];lia) l1 (by simp only[hb,nil_append])
 cases hlg:P.strGo q t [] with
 |none=>
  rw[hlg] at L
  refine sV L fun H' e3 k3=>?_
  refine⟨H',fun vs=>?_,k3⟩
  apply dw ch rfl rfl rfl
  repeat first|with_reducible (first|exact bI h.obj|exact e1 _)|((with_reducible apply bp);exact e3)|wtm_at "e"
 |some p=>
  rw[hlg] at L
  refine FZ L fun H2 x2 e3 l2 g1 g2 g3=>?_
  refine be (ff (N:=N) (n:=n+3) l2 g1 (bA g3 rfl)) fun H3 e4 l3=>?_
  have hb2:H3[x2.bi]? =some (.ba (q::p.1++[q])):=by rw[←g2];exact l3.buf
  have hbl:(q::p.1++[q]).length=p.1.length+2:=by simp
  have g3':p.1.length+1≤700000:=by rw[g2] at g3;simpa using g3
  have hsl:∀vs,aZ (.ref x2.bi) (.int 1) (.int (((q::p.1++[q]).length:Int) - 1)) ⟨vs,H3⟩=.ok (.ref H3.length) ⟨vs,H3++[.ba p.1]⟩:=by
   intro vs
   refine(lY hb2 (by lia) rfl rfl).trans ?_
   rw[hbl]
   have:(((p.1.length+2:Nat):Int) - 1)=((p.1.length+1:Nat):Int):=by lia
   rw[this,show(1:Int)=((1:Nat):Int) from rfl,uL (by lia) (by lia)]
   congr 5
   simp
  have ho:(H3++[O.ba p.1])[H3.length]? =some (.ba p.1):=al
  have hl6:(q::p.1++[q]).length≤1000000:=by rw[hbl];lia
  have hp6:p.1.length≤1000000:=iC g3' rfl
  refine⟨H3++[.ba p.1]++[cO (.int 286) (.bytes p.1)],_,.ref (H3++[O.ba p.1]).length,fun vs=>?_,(l3.app _).app _,rfl,(H3++[O.ba p.1]).length,rfl,al⟩
  apply aw ch rfl rfl rfl
  repeat first|with_reducible (first|exact bI h.obj|exact e1 _)|((with_reducible apply bp);exact e3)|with_reducible (first|exact bI l2.obj|exact e4 _|exact fe l3.obj|exact dU hb2 hl6|exact hsl _|exact dW ho hp6|exact bu)|wtm_at "e"
set_option tactic.hygienic true in
theorem td(hN:1000000≤N)(h:LS c x H){t:Bs}(hr:x.r=91::t)(hb:x.buf=[]):
  MR c (if P.hd? 91 (P.eqRest t) then(P.longGo (P.eqs t) (P.nlOff (P.eqRest t).tail) []).map fun p=>(((286,.txt p.1):P.Tok),p.2) else if 0 < P.eqs t then none else some ((91,.non),t))
   (fun vs=>(aa N (n+7)).prim (.ref 427) [.ref c.L] ⟨vs,H⟩) cS:=by
 have hlen:=h.len
 have hq:=P.eqs_len t
 have hrT:t.length+1≤c.T.length:=by
  obtain⟨u,hu⟩:=h.suf
  rw[hu,hr];simp
 refine be (gx (n:=n+2) hN h hr (by rw[hb,hr];simp;lia)) fun H1 e1 l1=>?_
 have hbl:(x.buf++91::replicate (P.eqs t) 61).length=P.eqs t+1:=by rw[hb];simp
 split
 ·rename_i hh
  obtain⟨w,hw⟩:=eB hh
  have el:cC 91 t=P.eqs t:=by unfold cC;rw[if_pos hh]
  have ege:decide ((0:Int)≤(P.eqs t:Int))=true:=by rw[decide_eq_true_eq];exact natCast_nonneg _
  rw[el] at e1
  rw[hw,length_cons] at hq
  have L:=qQ (n:=n) (lvl:=P.eqs t) (it:=true) hN l1 (d:=91) (t:=w) hw (by simp only[hbl,hw,length_cons];lia)
  rw[hw,tail_cons]
  cases hlg:P.longGo (P.eqs t) (P.nlOff w) [] with
  |none=>
   rw[hlg] at L
   refine dx L fun H' e3 k3=>?_
   refine⟨H',fun vs=>?_,k3⟩
   apply dw bc rfl rfl rfl
   repeat first|with_reducible (first|apply AD|exact dm h.obj|exact e1 _|apply aS ege|exact oV l1.obj|exact e3 _)|wtm_at "e"
  |some p=>
   rw[hlg] at L
   obtain⟨H2,x2,v,e3,l2,g1,b',rfl,g2⟩:=L
   obtain rfl:=g2 rfl
   refine⟨H2++[cO (.int 286) (.bytes p.1)],x2,.ref H2.length,fun vs=>?_,l2.app _,g1,H2.length,rfl,al⟩
   apply aw bc rfl rfl rfl
   repeat first|with_reducible (first|exact dm h.obj|exact e1 _|apply aS ege|exact oV l1.obj|exact e3 _|exact bu)|wtm_at "e"
 ·rename_i hh
  have el:cC 91 t= -(P.eqs t:Int) - 1:=by unfold cC;rw[if_neg hh]
  have ege:decide ((0:Int)≤ -(P.eqs t:Int) - 1)=false:=by rw[decide_eq_false_iff_not];lia
  rw[el] at e1
  split
  ·rename_i h0
   have elt:decide (-(P.eqs t:Int) - 1 < -1)=true:=by rw[decide_eq_true_eq];lia
   refine dx (cL (n:=n+2) hN l1 yJ (by show List.length (x.buf++91::replicate (P.eqs t) 61)≤_;rw[hbl];lia) (msg:=[105,110,118,97,108,105,100,32,108,111,110,103,32,115,116,114,105,110,103,32,100,101,108,105,109,105,116,101,114]) (by decide)) fun H3 e3 k3=>?_
   have e3':∀vs,(aa N (n+6)).prim (.ref 308) [.ref c.L,.bytes _,.int 286] ⟨vs,_⟩=.exc H3:=e3
   refine⟨H3,fun vs=>?_,k3⟩
   apply dw bc rfl rfl rfl
   repeat first|with_reducible (first|exact dm h.obj|exact e1 _|apply aA ege|apply aS elt|exact fG l1.obj|exact e3' _)|wtm_at "e"
  ·rename_i h0
   have elt:decide (-(P.eqs t:Int) - 1 < -1)=false:=by rw[decide_eq_false_iff_not];lia
   have hz:P.eqRest t=t:=by
    cases t with
    |nil=>rfl
    |cons d u=>
     by_cases hd:d=61
     ·subst hd;rw[(@oW u).1] at h0;lia
     ·exact(s6 hd).2
   refine⟨H1++[cO (.int 91) .none],_,.ref H1.length,fun vs=>?_,l1.app _,hz,H1.length,rfl,al⟩
   apply aw bc rfl rfl rfl
   repeat first|with_reducible (first|exact dm h.obj|exact e1 _|apply aA ege|apply aA elt|exact bu)|wtm_at "e"
set_option tactic.hygienic true in
theorem qR(h:LS c x H){d:UInt8}{t:Bs}(hr:x.r=d::t):
  MR c (some (if P.hd? 61 t then(((P.cmpKind d,.non):P.Tok),t.tail) else(((d.toNat:Int),.non),t))) (fun vs=>(aa N (n+3)).prim (.ref 399) [.ref c.L,.int d.toNat] ⟨vs,H⟩) cS:=by
 refine be (bn (N:=N) (n:=n) h hr) fun H1 e1 l1=>?_
 have hs:decide (sgn t=61)=P.hd? 61 t:=by
  cases t with
  |nil=>rfl
  |cons q u=>exact jQ 61
 split
 ·rename_i hh
  rw[hh] at hs
  obtain⟨w,rfl⟩:=eB hh
  refine be (bn (N:=N) (n:=n) l1 (d:=61) (t:=w) rfl) fun H2 e2 l2=>?_
  refine⟨H2++[cO (.int (P.cmpKind d)) .none],_,.ref H2.length,fun vs=>?_,l2.app _,rfl,H2.length,rfl,al⟩
  by_cases q1:d=61
  ·have w1:decide ((d.toNat:Int)=61)=true:=(jQ 61).trans (by simpa using q1)
   have hk:P.cmpKind d=280:=if_pos q1
   rw[hk]
   apply aw aN rfl rfl rfl
   repeat first|with_reducible (first|exact aI h.obj|exact e1 _|exact aV l1.obj|apply aA (sT hs)|exact aI l1.obj|exact e2 _|apply aS w1|exact bu)|wtm_at "e"
  ·have w1:decide ((d.toNat:Int)=61)=false:=(jQ 61).trans (by simpa using q1)
   by_cases q2:d=60
   ·have w2:decide ((d.toNat:Int)=60)=true:=(jQ 60).trans (by simpa using q2)
    have hk:P.cmpKind d=282:=by unfold P.cmpKind;rw[if_neg q1,if_pos q2]
    rw[hk]
    apply aw aN rfl rfl rfl
    repeat first|with_reducible (first|exact aI h.obj|exact e1 _|exact aV l1.obj|apply aA (sT hs)|exact aI l1.obj|exact e2 _|apply aA w1|apply aS w2|exact bu)|wtm_at "e"
   ·have w2:decide ((d.toNat:Int)=60)=false:=(jQ 60).trans (by simpa using q2)
    by_cases q3:d=62
    ·have w3:decide ((d.toNat:Int)=62)=true:=(jQ 62).trans (by simpa using q3)
     have hk:P.cmpKind d=281:=by unfold P.cmpKind;rw[if_neg q1,if_neg q2,if_pos q3]
     rw[hk]
     apply aw aN rfl rfl rfl
     repeat first|with_reducible (first|exact aI h.obj|exact e1 _|exact aV l1.obj|apply aA (sT hs)|exact aI l1.obj|exact e2 _|apply aA w1|apply aA w2|apply aS w3|exact bu)|wtm_at "e"
    ·have w3:decide ((d.toNat:Int)=62)=false:=(jQ 62).trans (by simpa using q3)
     have hk:P.cmpKind d=283:=by unfold P.cmpKind;rw[if_neg q1,if_neg q2,if_neg q3]
     rw[hk]
     apply aw aN rfl rfl rfl
     repeat first|with_reducible (first|exact aI h.obj|exact e1 _|exact aV l1.obj|apply aA (sT hs)|exact aI l1.obj|exact e2 _|apply aA w1|apply aA w2|apply aA w3|exact bu)|wtm_at "e"
 ·rename_i hh
  simp only[Bool.not_eq_true] at hh
  rw[hh] at hs
  refine⟨H1++[cO (.int d.toNat) .none],_,.ref H1.length,fun vs=>?_,l1.app _,rfl,H1.length,rfl,al⟩
  apply aw aN rfl rfl rfl
  repeat first|with_reducible (first|exact aI h.obj|exact e1 _|exact aV l1.obj|apply aS (jM hs)|exact bu)|wtm_at "e"
theorem qT{d:UInt8}{t:Bs}(h:P.isNl d=false):P.toEol (d::t)=P.toEol t:=by
 show(if _ then _ else _)=_
 rw[if_neg (by rw[h];decide)]
theorem wg{d:UInt8}{t:Bs}(h:P.isNl d=true):P.toEol (d::t)=d::t:=by
 show(if _ then _ else _)=_
 rw[if_pos h]
theorem nz:∀r:Bs,P.toEol (P.eqRest r)=P.toEol r
 | []=>rfl
 |d::t=>by
  by_cases hd:d=61
  ·subst hd
   rw[(@oW t).2,nz t,qT (by decide)]
  ·rw[(s6 hd).2]
theorem qU(r:Bs):∀(f:Nat) (x:LX) (H:Hp) (w:Option V),x.r=r→r.length < f→LS c x H→
  HG c { x with r:=P.toEol r } (Wh (aa N (n+2)) N  (.and (.not (.call (.con (.sta (.ref 231))) (.cons (.attr (.loc 0) 12) .nil))) (.cmp .NotEq (.attr (.loc 0) 12) (.con (.int (-1))))) (.cons (.expr (.meth (.loc 0) 22 .nil)) .nil) f ⟨[some (.ref c.L),w],H⟩) [some (.ref c.L),w]:=by
 induction r with
 |nil=>
  intro f x H w hr hf h
  cases f with
  |zero=>exact dI hf
  |succ f=>
  have hs:sgn x.r= -1:=by rw[hr];rfl
  have l0:=h.app [aU]
  refine⟨H++[aU],?_,by rw[show P.toEol []=x.r from hr.symm];exact l0⟩
  have e:decide ((-1:Int)= -1)=true:=by decide
  have hnl:jb P.isNl x.r=false:=by rw[hr];rfl
  have e1:∀vs,(aa N (n+2)).prim (.ref 231) [.int (-1)] ⟨vs,H⟩=.ok (.bool false) ⟨vs,H++[aU]⟩:=fun vs=>by
   have:=br (N:=N) (n:=n+1) (r:=x.r) (vs:=vs) (H:=H)
   rw[hnl,hs] at this
   exact this
  apply bW
  repeat first|with_reducible (first|exact ag h.obj hs|exact e1 _|apply aS FK|exact ag l0.obj hs|exact sT e)|wtm_at "e"
 |cons d t ih=>
  intro f x H w hr hf h
  cases f with
  |zero=>exact dI hf
  |succ f=>
  have hs:sgn x.r=d.toNat:=by rw[hr];rfl
  have l0:=h.app [aU]
  cases hd:P.isNl d with
  |true=>
   refine⟨H++[aU],?_,by rw[wg hd,←hr];exact l0⟩
   apply bW
   repeat first|with_reducible (first|exact ag h.obj hs|exact kU hd)|wtm_at "e"
  |false=>
   refine be (bn (N:=N) (n:=n) l0 hr) fun H1 e1 l1=>?_
   obtain⟨H2,e2,l2⟩:=ih f _ H1 w rfl (by simp only[length_cons] at hf;exact lt_of_succ_lt_succ hf) l1
   refine⟨H2,?_,by rw[qT hd];exact l2⟩
   apply dY
   repeat first|with_reducible (first|exact ag h.obj hs|exact bk hd|exact ag l0.obj hs|exact jM bo|exact aI l0.obj|exact e1 _)|((with_reducible apply bp);exact e2)|wtm_at "e"
inductive F2 (c:LC) (v:Bs) (r:aC→af V):Prop
 |mk (H':Hp) (x':LX) (e:∀vs,r vs=.ok .none ⟨vs,H'⟩) (l:LS c x' H') (q:x'.r=v) (b:x'.buf=[])
theorem F3{c:LC}{v:Bs}{r:aC→af V}{P:Prop}(h:F2 c v r)(k:∀H' x',(∀vs,r vs=.ok .none ⟨vs,H'⟩)→LS c x' H'→x'.r=v→x'.buf=[]→P):P:=h.rec k
noncomputable def DL(c:LC)(o:Option Bs)(r:aC→af V):Prop:=match o with
 |some v=>F2 c v r
 |none=>Ds c r
theorem te(hN:1000000≤N)(h:LS c x H){t:Bs}(hr:x.r=45::45::t)(hb:x.buf=[]):DL c (P.comEnd t) (fun vs=>(aa N (n+7)).prim (.ref 392) [.ref c.L] ⟨vs,H⟩):=by
 have hlen:=h.len
 have hrT:t.length+2≤c.T.length:=by
  obtain⟨u,hu⟩:=h.suf
  rw[hu,hr];simp
 refine be (bn (N:=N) (n:=n+4) h hr) fun H1 e1 l1=>?_
 refine be (bn (N:=N) (n:=n+4) l1 (d:=45) (t:=t) rfl) fun H2 e2 l2=>?_
 by_cases hh:∃u,t=91::u
 ·obtain⟨u,rfl⟩:=hh
  have hq:=P.eqs_len u
  have hs:decide (sgn ((91:UInt8)::u)=91)=true:=decide_eq_true rfl
  simp only[length_cons] at hrT
  refine be (gx (n:=n+2) hN l2 (d:=91) (t:=u) rfl (by simp only[hb,length_nil,length_cons];lia)) fun H3 e3 l3=>?_
  refine dc (l9 (N:=N) (n:=n+4) l3) fun H4 bi4 e4 l4=>?_
  by_cases hb1:P.hd? 91 (P.eqRest u)=true
  ·obtain⟨w,hw⟩:=eB hb1
   have el:cC 91 u=P.eqs u:=by unfold cC;rw[if_pos hb1]
   rw[el] at e3
   rw[hw,length_cons] at hq
   have ege:decide ((0:Int)≤(P.eqs u:Int))=true:=by rw[decide_eq_true_eq];exact natCast_nonneg _
   have L:=qQ (n:=n) (lvl:=P.eqs u) (it:=false) hN l4 (d:=91) (t:=w) hw (by simp only[hw,length_cons,length_nil];lia)
   have ec:P.comEnd (91::u)=(P.longGo (P.eqs u) (P.nlOff w) []).map (·.2):=by
    unfold P.comEnd
    dsimp only
    rw[if_pos rfl,if_pos hb1,hw,tail_cons]
   rw[ec]
   cases hlg:P.longGo (P.eqs u) (P.nlOff w) [] with
   |none=>
    rw[hlg] at L
    refine dx L fun H' e5 k5=>?_
    refine⟨H',fun vs=>?_,k5⟩
    apply dw a9 rfl rfl rfl
    repeat first|with_reducible (first|exact aI h.obj|exact e1 _|exact aI l1.obj|exact e2 _|exact aV l2.obj|apply aS hs|apply aA hs|exact dm l2.obj|exact e3 _|exact jO l3.obj|exact e4 _|apply aS ege|apply aA ege|exact oV l4.obj|exact e5 _)|wtm_at "e"
   |some p=>
    rw[hlg] at L
    obtain⟨H5,x5,v,e5,l5,g1,b',rfl,g2⟩:=L
    refine dc (l9 (N:=N) (n:=n+4) l5) fun H6 bi6 e6 l6=>?_
    refine⟨H6,_,fun vs=>?_,l6,g1,rfl⟩
    apply aw a9 rfl rfl rfl
    repeat first|with_reducible (first|exact aI h.obj|exact e1 _|exact aI l1.obj|exact e2 _|exact aV l2.obj|apply aS hs|apply aA hs|exact dm l2.obj|exact e3 _|exact jO l3.obj|exact e4 _|apply aS ege|apply aA ege|exact oV l4.obj|exact e5 _|exact jO l5.obj|exact e6 _)|wtm_at "e"
  ·have el:cC 91 u= -(P.eqs u:Int) - 1:=by unfold cC;rw[if_neg hb1]
   have ege:decide ((0:Int)≤ -(P.eqs u:Int) - 1)=false:=by rw[decide_eq_false_iff_not];lia
   rw[el] at e3
   refine yw (qU (N:=N) (n:=n+4) (P.eqRest u) N _ H4 (some (.int (-(P.eqs u:Int) - 1))) rfl (by lia) l4) fun H5 e5 l5=>?_
   have ec:P.comEnd (91::u)=some (P.toEol u):=by
    unfold P.comEnd
    dsimp only
    rw[if_pos rfl,if_neg hb1]
   rw[ec]
   refine⟨H5,_,fun vs=>?_,l5,nz u,rfl⟩
   apply fc a9 rfl rfl rfl
   repeat first|with_reducible (first|exact aI h.obj|exact e1 _|exact aI l1.obj|exact e2 _|exact aV l2.obj|apply aS hs|apply aA hs|exact dm l2.obj|exact e3 _|exact jO l3.obj|exact e4 _|apply aS ege|apply aA ege)|((with_reducible apply bp);exact e5)|wtm_at "e"
 ·have hs:decide (sgn t=91)=false:=by
   cases t with
   |nil=>rfl
   |cons d u=>exact eO (k:=91) (fun q=>hh ⟨u,by rw[q]⟩)
  refine yw (qU (N:=N) (n:=n+4) t N _ H2 none rfl (by lia) l2) fun H5 e5 l5=>?_
  have ec:P.comEnd t=some (P.toEol t):=by
   cases t with
   |nil=>rfl
   |cons d u=>
    unfold P.comEnd
    dsimp only
    rw[if_neg (fun q=>hh ⟨u,by rw[q]⟩)]
  rw[ec]
  refine⟨H5,_,fun vs=>?_,l5,rfl,hb⟩
  apply fc a9 rfl rfl rfl
  repeat first|with_reducible (first|exact aI h.obj|exact e1 _|exact aI l1.obj|exact e2 _|exact aV l2.obj|apply aS hs|apply aA hs)|((with_reducible apply bp);exact e5)|wtm_at "e"
theorem yN{d:UInt8}{b:Bool}(h:P.isBl d=b):(aa N (n+1)).prim (.ref 217) [.int d.toNat] ⟨vs,H⟩=.ok (.bool b) ⟨vs,H⟩:=by
 have:=uG (N:=N) (n:=n) (r:=[d]) (vs:=vs) (H:=H)
 rw[show jb P.isBl [d]=b from h] at this
 exact this
theorem Bp{d:UInt8}(h:P.isNl d=true):P.isBl d=true:=by
 rcases P.isNl_cases h with rfl|rfl<;>decide
set_option tactic.hygienic true in
theorem wh{d:UInt8}{t:Bs}(h:P.isNl d=true):P.skip (P.endLine (d::t))=P.skip (d::t):=by
 rw[P.skip_bl (Bp h)]
 cases t with
 |nil=>rfl
 |cons e u=>
  show P.skip (if(P.isNl e&&e != d)=true then u else e::u)=_
  split
  ·rename_i q
   simp only[and_eq_true] at q
   rw[P.skip_bl (Bp q.1)]
  ·rfl
inductive F4 (c:LC) (x:LX) (r:Bs) (f:aC→af V):Prop
 |no (H':Hp) (e:∀vs,f vs=.ok (.bool false) ⟨vs,H'⟩) (l:LS c x H') (q:P.skip r=some r)
 |yes (H':Hp) (x':LX) (e:∀vs,f vs=.ok (.bool true) ⟨vs,H'⟩) (l:LS c x' H') (g:x'.r.length < r.length) (q:P.skip x'.r=P.skip r) (b:x'.buf=[])
 |bad (H':Hp) (e:∀vs,f vs=.exc H') (k:Kp c H') (q:P.skip r=none)
theorem qV(hN:1000000≤N)(h:LS c x H)(hb:x.buf=[]):
  F4 c x x.r (fun vs=>(aa N (n+8)).prim (.ref 378) [.ref c.L] ⟨vs,H⟩):=by
 have l0:=h.app [aU]
 cases hr:x.r with
 |nil=>
  refine .no (H++[aU]) (fun vs=>?_) l0 P.skip_nil
  have hs:sgn x.r= -1:=by rw[hr];rfl
  have hnl:jb P.isNl x.r=false:=by rw[hr];rfl
  have hbl:jb P.isBl x.r=false:=by rw[hr];rfl
  have e1:∀vs,(aa N (n+7)).prim (.ref 231) [.int (-1)] ⟨vs,H⟩=.ok (.bool false) ⟨vs,H++[aU]⟩:=fun vs=>by
   have:=br (N:=N) (n:=n+6) (r:=x.r) (vs:=vs) (H:=H)
   rw[hnl,hs] at this
   exact this
  have e2:∀vs,(aa N (n+7)).prim (.ref 217) [.int (-1)] ⟨vs,H++[aU]⟩=.ok (.bool false) ⟨vs,H++[aU]⟩:=fun vs=>by
   have:=uG (N:=N) (n:=n+6) (r:=x.r) (vs:=vs) (H:=H++[aU])
   rw[hbl,hs] at this
   exact this
  have e:decide ((-1:Int)=45)=false:=by decide
  apply aw aH rfl rfl rfl
  repeat first|with_reducible (first|exact ag h.obj hs|exact e1 _|exact ag l0.obj hs|exact e2 _|apply aS e|apply aA e)|wtm_at "e"
 |cons d t=>
  have hs:sgn x.r=d.toNat:=by rw[hr];rfl
  cases hn:P.isNl d with
  |true=>
   refine be (kS (N:=N) (n:=n+4) l0 hr) fun H1 e1 l1=>?_
   have hle:=P.endLine_le (d::t)
   simp only[length_cons] at hle
   refine .yes H1 _ (fun vs=>?_) l1 (by show(P.endLine (d::t)).length < (d::t).length;rw[length_cons];lia) (wh hn) hb
   apply aw aH rfl rfl rfl
   repeat first|with_reducible (first|exact ag h.obj hs|exact kU hn|exact jP l0.obj|exact e1 _)|wtm_at "e"
  |false=>
   cases hbl:P.isBl d with
   |true=>
    refine be (bn (N:=N) (n:=n+5) l0 hr) fun H1 e1 l1=>?_
    refine .yes H1 _ (fun vs=>?_) l1 (by simp) (by rw[P.skip_bl hbl]) hb
    apply aw aH rfl rfl rfl
    repeat first|with_reducible (first|exact ag h.obj hs|exact bk hn|exact ag l0.obj hs|exact yN hbl|exact aI l0.obj|exact e1 _)|wtm_at "e"
   |false=>
    have hbe:=fun vs=>v8 (N:=N) (n:=n+5) (vs:=vs) l0
    by_cases hc:d=45
    ·subst hc
     by_cases hh:P.hd? 45 t=true
     ·obtain⟨u,rfl⟩:=eB hh
      have C:=te (n:=n) hN l0 hr hb
      have hsk:P.skip (45::45::u)=(P.comEnd u).bind P.skip:=P.skip_com hh
      have hst:sgn x.r.tail=((45:UInt8).toNat:Int):=by rw[hr];rfl
      rw[hst] at hbe
      have f1:decide (((45:UInt8).toNat:Int)=45)=true:=by decide
      cases hce:P.comEnd u with
      |none=>
       rw[hce] at C hsk
       refine dx C fun H' e3 k3=>?_
       refine .bad H' (fun vs=>?_) k3 hsk
       apply dw aH rfl rfl rfl
       repeat first|with_reducible (first|exact ag h.obj hs|exact bk hn|exact ag l0.obj hs|exact yN hbl|apply aS f1|apply aA f1|exact sY l0.obj|exact hbe _|exact yC l0.obj|exact e3 _)|wtm_at "e"
      |some v=>
       rw[hce] at C hsk
       refine F3 C fun H' x' e3 l3 g1 g2=>?_
       have:=P.comEnd_le hce
       refine .yes H' x' (fun vs=>?_) l3 (by rw[g1];simp only[length_cons];lia) (by rw[g1,hsk];rfl) g2
       apply aw aH rfl rfl rfl
       repeat first|with_reducible (first|exact ag h.obj hs|exact bk hn|exact ag l0.obj hs|exact yN hbl|apply aS f1|apply aA f1|exact sY l0.obj|exact hbe _|exact yC l0.obj|exact e3 _)|wtm_at "e"
     ·have hst:decide (sgn x.r.tail=45)=false:=by
       rw[hr,tail_cons]
       cases t with
       |nil=>rfl
       |cons e u=>exact eO (k:=45) (fun q=>hh (by rw[q];rfl))
      have f1:decide (((45:UInt8).toNat:Int)=45)=true:=by decide
      refine .no (H++[aU]) (fun vs=>?_) l0 (P.skip_stop (by rw[hbl];decide) (by simpa using hh))
      apply aw aH rfl rfl rfl
      repeat first|with_reducible (first|exact ag h.obj hs|exact bk hn|exact ag l0.obj hs|exact yN hbl|apply aS f1|apply aA f1|exact sY l0.obj|exact hbe _|apply aS hst|apply aA hst)|wtm_at "e"
    ·have f1:decide ((d.toNat:Int)=45)=false:=eO (k:=45) hc
     refine .no (H++[aU]) (fun vs=>?_) l0 (P.skip_stop (by rw[hbl];decide) (by simp[hc]))
     apply aw aH rfl rfl rfl
     repeat first|with_reducible (first|exact ag h.obj hs|exact bk hn|exact ag l0.obj hs|exact yN hbl|apply aS f1|apply aA f1)|wtm_at "e"
theorem F5{i j:Int}{σ:St}(h:j.natAbs≤16):dy .Mult (.int i) (.int j) σ=.ok (.int (i * j)) σ:=by
 show ofOpt σ (if _ then _ else _)=_
 rw[if_pos (.inr h)];rfl
theorem tj{σ:St}:dy .LShift (.int 1) (.int 64) σ=.ok (.int 18446744073709551616) σ:=rfl
theorem yO{σ:St}:dy .LShift (.int 1) (.int (64 - 1)) σ=.ok (.int 9223372036854775808) σ:=rfl
theorem Bq{i:Int}(h:0≤i):Builtin.bitAnd i (18446744073709551616 - 1)=i % 2 ^ 64:=by
 unfold Builtin.bitAnd
 rw[decide_eq_true h]
 show((i.toNat&&& 18446744073709551615:Nat):Int)=_
 have:=Nat.and_two_pow_sub_one_eq_mod i.toNat 64
 rw[show(2:Nat) ^ 64 - 1=18446744073709551615 from rfl] at this
 rw[this]
 lia
theorem F6{b:Bs}{d:UInt8}:(if 0≤(d.toNat:Int)∧(d.toNat:Int) < 256 then some (List.contains b (d.toNat:Int).toNat.toUInt8) else none)=some (b.contains d):=by
 have:=d.toNat_lt
 rw[if_pos ⟨natCast_nonneg _,zh this⟩]
 congr 2
 show UInt8.ofNat (d.toNat:Int).toNat=d
 rw[toNat_natCast,UInt8.ofNat_toNat]
theorem d0{b:Bs}{d:UInt8}{H:Hp}:aQ H .In (.int d.toNat) (.bytes b)=some (b.contains d):=by
 show(if _ then _ else _)=_
 exact F6
theorem yP{d:UInt8}:(aa N (n+1)).prim (.ref 110) [.int d.toNat] ⟨vs,H⟩=.ok (.bool (([32,9,10,11,12,13]:Bs).contains d)) ⟨vs,H⟩:=by
 apply aw er rfl rfl rfl
 repeat first|with_reducible exact d0|wtm_at "e"
theorem rng{d:UInt8}(k1 k2:UInt8):(decide ((k1.toNat:Int)≤(d.toNat:Int))&&decide ((d.toNat:Int)≤(k2.toNat:Int)))=decide (k1≤d∧d≤k2):=by
 rw[yE,qK,Bool.eq_iff_iff,and_eq_true,decide_eq_true_eq,decide_eq_true_eq,decide_eq_true_eq]
theorem db{d:UInt8}:(aa N (n+1)).prim (.ref 117) [.int d.toNat] ⟨vs,H⟩=.ok (.int (P.digOf d)) ⟨vs,H⟩:=by
 have a1:(decide ((48:Int)≤(d.toNat:Int))&&decide ((d.toNat:Int)≤(57:Int)))=decide (48≤d∧d≤57):=rng 48 57
 have a2:(decide ((97:Int)≤(d.toNat:Int))&&decide ((d.toNat:Int)≤(122:Int)))=decide (97≤d∧d≤122):=rng 97 122
 have a3:(decide ((65:Int)≤(d.toNat:Int))&&decide ((d.toNat:Int)≤(90:Int)))=decide (65≤d∧d≤90):=rng 65 90
 unfold P.digOf
 by_cases h1:48≤d∧d≤57
 ·rw[if_pos h1]
  rw[decide_eq_true h1] at a1
  apply aw dM rfl rfl rfl
  repeat first|with_reducible (first|apply aS a1|apply aA a1)|wtm_at "e"
 ·rw[if_neg h1]
  rw[decide_eq_false h1] at a1
  by_cases h2:97≤d∧d≤122
  ·rw[if_pos h2]
   rw[decide_eq_true h2] at a2
   apply aw dM rfl rfl rfl
   repeat first|with_reducible (first|apply aS a1|apply aA a1|apply aS a2|apply aA a2)|wtm_at "e"
  ·rw[if_neg h2]
   rw[decide_eq_false h2] at a2
   by_cases h3:65≤d∧d≤90
   ·rw[if_pos h3]
    rw[decide_eq_true h3] at a3
    apply aw dM rfl rfl rfl
    repeat first|with_reducible (first|apply aS a1|apply aA a1|apply aS a2|apply aA a2|apply aS a3|apply aA a3)|wtm_at "e"
   ·rw[if_neg h3]
    rw[decide_eq_false h3] at a3
    apply aw dM rfl rfl rfl
    repeat first|with_reducible (first|apply aS a1|apply aA a1|apply aS a2|apply aA a2|apply aS a3|apply aA a3)|wtm_at "e"
theorem uQ{t:Bs}{k:Nat}(hN:1000000≤N)(hl:t.length≤900000)(hk:k≤t.length)(hb:∀d∈t,([32,9,10,11,12,13]:Bs).contains d=false):(aa N (n+2)).prim (.ref 131) [.bytes t,.int k] ⟨vs,H⟩=.ok (.int k) ⟨vs,H⟩:=by
 have hl6:t.length≤1000000:=bA hl rfl
 have key:Wh (aa N (n+1)) N  (.and (.cmp .Lt (.loc 1) (.call (.con (.sta (.builtin "len"))) (.cons (.loc 0) .nil))) (.call (.con (.sta (.ref 110))) (.cons (.sub (.loc 0) (.loc 1)) .nil))) (.cons (.asg 1 (.bin .Add (.loc 1) (.con (.int 1)))) .nil) N ⟨[some (.bytes t),some (.int k)],H⟩=.ok .next ⟨[some (.bytes t),some (.int k)],H⟩:=by
  obtain⟨m,rfl⟩:∃m,N=m+1:=⟨N - 1,by lia⟩
  by_cases hlt:k < t.length
  ·have e:decide ((k:Int) < (t.length:Int))=true:=by rw[decide_eq_true_eq];exact zh hlt
   have hi:=fun σ=>gw (t:=aa (m+1) (n+1)) (b:=t) (k:=k) (σ:=σ) ⟨natCast_nonneg _,zh hlt,hl6⟩
   have hg:t.getD (k:Int).toNat 0∈t:=by
    rw[toNat_natCast,List.getD_eq_getElem?_getD,getElem?_eq_getElem hlt]
    exact List.getElem_mem hlt
   have hbg:=hb _ hg
   apply bW
   repeat first|with_reducible (first|exact len_bytes hl6|apply aS e|exact hi _|exact yP|exact hbg)|wtm_at "e"
  ·have e:decide ((k:Int) < (t.length:Int))=false:=by rw[decide_eq_false_iff_not];lia
   apply bW
   repeat first|with_reducible (first|exact len_bytes hl6|apply aA e)|wtm_at "e"
 apply aw g5 rfl rfl rfl
 repeat first|((with_reducible apply bp);exact key)|wtm_at "e"
noncomputable def ki(base:Int)(v:Int)(ds:Bs):Int:=ds.foldl (fun n c=>(n * base+P.digOf c) % 2 ^ 64) v
theorem AE(base:Int)(hba:base.natAbs≤16)(hb0:0≤base)(r:Bs):∀(f:Nat) (u t:Bs) (v:Int) (w:Option V),t=u++r→r.length < f→t.length≤900000→0≤v→
  ∃w',Wh (aa N (n+2)) N  (.cmp .Lt (.loc 1) (.call (.con (.sta (.builtin "len"))) (.cons (.loc 0) .nil))) (.cons (.asg 6 (.call (.con (.sta (.ref 117))) (.cons (.sub (.loc 0) (.loc 1)) .nil))) (.cons (.ite (.or (.cmp .Lt (.loc 6) (.con (.int 0))) (.cmp .GtE (.loc 6) (.loc 2))) (.cons .brk .nil) .nil) (.cons (.asg 4 (.bin .BitAnd (.bin .Add (.bin .Mult (.loc 4) (.loc 2)) (.loc 6)) (.loc 5))) (.cons (.asg 1 (.bin .Add (.loc 1) (.con (.int 1)))) .nil)))) f ⟨[some (.bytes t),some (.int u.length),some (.int base),some (.int 64),some (.int v),some (.int (18446744073709551616 - 1)),w],H⟩=
   .ok .next ⟨[some (.bytes t),some (.int (u.length+(r.takeWhile (P.isBase base)).length:Nat)),some (.int base),some (.int 64),some (.int (ki base v (r.takeWhile (P.isBase base)))),some (.int (18446744073709551616 - 1)),w'],H⟩:=by
 induction r with
 |nil=>
  intro f u t v w ht hf hl hv
  cases f with
  |zero=>exact dI hf
  |succ f=>
  refine⟨w,?_⟩
  have e:decide ((u.length:Int) < (t.length:Int))=false:=by rw[ht];simp
  have hl6:t.length≤1000000:=bA hl rfl
  show Wh _ _ _ _ _ _=af.ok .next ⟨[some (.bytes t),some (.int u.length),some (.int base),some (.int 64),some (.int v),some (.int (18446744073709551616 - 1)),w],H⟩
  apply bW
  repeat first|with_reducible (first|exact len_bytes hl6|exact e)|wtm_at "e"
 |cons d r ih=>
  intro f u t v w ht hf hl hv
  cases f with
  |zero=>exact dI hf
  |succ f=>
  have hl6:t.length≤1000000:=bA hl rfl
  have htl:t.length=u.length+(r.length+1):=by rw[ht];simp
  have e:decide ((u.length:Int) < (t.length:Int))=true:=by rw[decide_eq_true_eq];exact GC htl
  have hi:=fun σ=>gw (t:=aa N (n+2)) (b:=t) (k:=(u.length:Int)) (σ:=σ) ⟨natCast_nonneg _,GC htl,hl6⟩
  have hg:t.getD (u.length:Int).toNat 0=d:=i9 (u:=u) (t:=r) ht (by rw[htl];lia)
  rw[hg] at hi
  cases hd:P.isBase base d with
  |false=>
   refine⟨some (.int (P.digOf d)),?_⟩
   have htw:(d::r).takeWhile (P.isBase base)=[]:=by rw[takeWhile_cons,hd];rfl
   rw[htw]
   unfold P.isBase at hd
   by_cases h0:P.digOf d < 0
   ·have e0:decide (P.digOf d < 0)=true:=decide_eq_true h0
    apply Bk
    repeat first|with_reducible (first|exact len_bytes hl6|exact e|exact hi _|exact db|apply aS e0|apply aA e0)|wtm_at "e"
   ·have e0:decide (P.digOf d < 0)=false:=decide_eq_false h0
    have e1:decide (base≤P.digOf d)=true:=by
     rw[decide_eq_true_eq]
     simp only[Bool.and_eq_false_iff,decide_eq_false_iff_not] at hd
     lia
    apply Bk
    repeat first|with_reducible (first|exact len_bytes hl6|exact e|exact hi _|exact db|apply aS e0|apply aA e0|apply aS e1|apply aA e1)|wtm_at "e"
  |true=>
   have htw:(d::r).takeWhile (P.isBase base)=d::r.takeWhile (P.isBase base):=by rw[takeWhile_cons,hd];rfl
   have hd2:=hd
   unfold P.isBase at hd2
   simp only[and_eq_true,decide_eq_true_eq] at hd2
   have hv':0≤v * base+P.digOf d:=by
    have:=Int.mul_nonneg hv hb0
    lia
   obtain⟨w',e2⟩:=ih f (u++[d]) t ((v * base+P.digOf d) % 2 ^ 64) (some (.int (P.digOf d))) (by rw[ht];simp) (by simp only[length_cons] at hf;exact lt_of_succ_lt_succ hf) hl (Int.emod_nonneg _ (by decide))
   refine⟨w',?_⟩
   have e0:decide (P.digOf d < 0)=false:=by rw[decide_eq_false_iff_not];lia
   have e1:decide (base≤P.digOf d)=false:=by rw[decide_eq_false_iff_not];lia
   have el:((u++[d]).length:Int)=u.length+1:=by simp
   rw[el] at e2
   have hand:∀σ,dy .BitAnd (.int (v * base+P.digOf d)) (.int (18446744073709551616 - 1)) σ=.ok (.int ((v * base+P.digOf d) % 2 ^ 64)) σ:=fun σ=>by
    show af.ok (V.int (Builtin.bitAnd _ _)) σ=_
    rw[Bq hv']
   have hc:(u++[d]).length+(r.takeWhile (P.isBase base)).length=u.length+(d::r.takeWhile (P.isBase base)).length:=by simp;lia
   rw[htw,←hc]
   apply dY
   repeat first|with_reducible (first|exact len_bytes hl6|exact e|exact hi _|exact db|apply aS e0|apply aA e0|apply aS e1|apply aA e1|exact F5 hba|exact hand _)|((with_reducible apply bp);exact e2)|wtm_at "e"
theorem HI(hN:1000000≤N){base:Int}(hba:base.natAbs≤16)(hb0:0≤base){u r:Bs}(hl:(u++r).length≤900000):(aa N (n+3)).prim (.ref 124) [.bytes (u++r),.int u.length,.int base,.int 64] ⟨vs,H⟩=
  .ok (.ref (H++[O.tup [.int 0,.int (18446744073709551616 - 1)]]).length) ⟨vs,H++[.tup [.int 0,.int (18446744073709551616 - 1)]]++[.tup [.int (ki base 0 (r.takeWhile (P.isBase base))),.int (u.length+(r.takeWhile (P.isBase base)).length:Nat)]]⟩:=by
 have ht:(H++[O.tup [.int 0,.int (18446744073709551616 - 1)]])[H.length]? =some (.tup [.int 0,.int (18446744073709551616 - 1)]):=al
 obtain⟨w,e1⟩:=AE (N:=N) (n:=n) (H:=H++[O.tup [.int 0,.int (18446744073709551616 - 1)]]) base hba hb0 r N u (u++r) 0 none rfl (by simp at hl;lia) hl (by decide)
 apply aw gZ rfl rfl rfl
 repeat first|with_reducible (first|exact tj|exact yv al)|((with_reducible apply bp);exact e1)|wtm_at "e"
theorem DM{v:Int}(h0:0≤v)(h1:v < 2 ^ 64):(aa N (n+1)).prim (.ref 103) [.int v,.int 64] ⟨vs,H⟩=.ok (.int (P.wrap64 v)) ⟨vs,H⟩:=by
 have hm:v % 2 ^ 64=v:=Int.emod_eq_of_lt h0 h1
 have hand:∀σ,dy .BitAnd (.int v) (.int (18446744073709551616 - 1)) σ=.ok (.int v) σ:=fun σ=>by
  show af.ok (V.int (Builtin.bitAnd _ _)) σ=_
  rw[Bq h0,hm]
 unfold P.wrap64
 by_cases h:v≥2 ^ 63
 ·rw[if_pos h]
  have e:decide ((9223372036854775808:Int)≤v)=true:=decide_eq_true (by lia)
  apply aw sm rfl rfl rfl
  repeat first|with_reducible (first|exact tj|exact hand _|exact yO|apply aS e|apply aA e)|wtm_at "e"
 ·rw[if_neg h]
  have e:decide ((9223372036854775808:Int)≤v)=false:=decide_eq_false (by lia)
  apply aw sm rfl rfl rfl
  repeat first|with_reducible (first|exact tj|exact hand _|exact yO|apply aS e|apply aA e)|wtm_at "e"
noncomputable abbrev F7:Ss:=(.cons (.unpk false [6,7] (.call (.con (.sta (.ref 124))) (.cons (.loc 0) (.cons (.loc 4) (.cons (.ite (.cmp .Eq (.loc 1) (.con (.int 0))) (.con (.int 10)) (.loc 1)) (.cons (.attr (.loc 2) 0) .nil)))))) (.cons (.ite (.or (.cmp .Eq (.loc 7) (.loc 4)) (.cmp .NotEq (.call (.con (.sta (.ref 131))) (.cons (.loc 0) (.cons (.loc 7) .nil))) (.call (.con (.sta (.builtin "len"))) (.cons (.loc 0) .nil)))) (.cons (.ret (.con .none)) .nil) .nil) (.cons (.ret (.call (.con (.sta (.ref 103))) (.cons (.ite (.loc 5) (.neg (.loc 6)) (.loc 6)) (.cons (.attr (.loc 2) 0) .nil)))) .nil)))
noncomputable def DN:Option Int→V
 |some i=>.int i
 |none=>.none
theorem tm{p:UInt8→Bool}:∀{r:Bs},(r.takeWhile p).length=r.length↔r.all p=true
 | []=>by simp
 |d::r=>by
  rw[takeWhile_cons,all_cons]
  cases hd:p d with
  |true=>simp[tm]
  |false=>simp
theorem qW{p:UInt8→Bool}:∀{r:Bs},r.all p=true→r.takeWhile p=r
 | [],_=>rfl
 |d::r,h=>by
  rw[all_cons,and_eq_true] at h
  rw[takeWhile_cons,h.1,qW h.2];rfl
theorem nA(base:Int):∀(ds:Bs) (v:Int),0≤v→v < 2 ^ 64→0≤ki base v ds∧ki base v ds < 2 ^ 64
 | [],v,h0,h1=>⟨h0,h1⟩
 |d::ds,v,h0,h1=>nA base ds _ (Int.emod_nonneg _ (by decide)) (Int.emod_lt_of_pos _ (by decide))
theorem qX(hN:1000000≤N){u r:Bs}{base0 b:Int}{lim:Nat}{w3:V}(hb:(base0=0∧b=10)∨(base0=16∧b=16))(hl:(u++r).length≤900000)(hnb:∀d∈u++r,([32,9,10,11,12,13]:Bs).contains d=false)(hlim:H[lim]? =some gv):
  ∃vs' M,bj (aa N (n+3)) N F7 ⟨[some (.bytes (u++r)),some (.int base0),some (.ref lim),some w3,some (.int u.length),some (.bool false),none,none],H⟩=.ok (.ret (DN (P.numBase b r))) ⟨vs',H++M⟩:=by
 have hba:b.natAbs≤16:=by rcases hb with ⟨_,rfl⟩|⟨_,rfl⟩<;>decide
 have hb0:0≤b:=by rcases hb with ⟨_,rfl⟩|⟨_,rfl⟩<;>decide
 let tw:=r.takeWhile (P.isBase b)
 let M:Hp:=[.tup [.int 0,.int (18446744073709551616 - 1)],.tup [.int (ki b 0 tw),.int (u.length+tw.length:Nat)]]
 have hM:H++[O.tup [.int 0,.int (18446744073709551616 - 1)]]++[.tup [.int (ki b 0 tw),.int (u.length+tw.length:Nat)]]=H++M:=by simp[M]
 have e1:∀vs,(aa N (n+3)).prim (.ref 124) [.bytes (u++r),.int u.length,.int b,.int 64] ⟨vs,H⟩=.ok (.ref (H.length+1)) ⟨vs,H++M⟩:=fun vs=>by
  rw[HI (vs:=vs) hN hba hb0 hl,hM]
  rw[length_append];rfl
 have ht:(H++M)[H.length+1]? =some (.tup [.int (ki b 0 tw),.int (u.length+tw.length:Nat)]):=by simp[M]
 have hl2:(H++M)[lim]? =some gv:=LS.app_inv hlim
 have htl:tw.length≤r.length:=by simp only[tw];exact(List.takeWhile_prefix _).length_le
 have hlen:(u++r).length=u.length+r.length:=length_append
 have hbq:(decide (base0=0)=true∧b=10)∨(decide (base0=0)=false∧b=base0):=by
  rcases hb with ⟨rfl,rfl⟩|⟨rfl,rfl⟩
  ·exact .inl ⟨by decide,rfl⟩
  ·exact .inr ⟨by decide,rfl⟩
 have hl6:(u++r).length≤1000000:=bA hl rfl
 have sk:=fun vs=>uQ (n:=n+1) (vs:=vs) (H:=H++M) (t:=u++r) (k:=u.length+tw.length) hN hl (by lia) hnb
 by_cases h0:tw.length=0
 ·have hnum:P.numBase b r=none:=by
   unfold P.numBase
   rw[if_neg]
   simp only[and_eq_true,not_eq_true']
   rintro⟨q1,q2⟩
   rw[←tm] at q1
   have:r.length=0:=by rw[←q1];exact h0
   rw[List.length_eq_zero_iff.mp this] at q2
   cases q2
  have e:decide (((u.length+tw.length:Nat):Int)=u.length)=true:=by rw[decide_eq_true_eq];lia
  rw[hnum]
  refine⟨?w,M,?h⟩
  rotate_left
  rcases hbq with ⟨q,hq⟩|⟨q,hq⟩<;>(rw[hq] at e1;repeat first|with_reducible exact uF hlim|with_reducible exact e1 _|with_reducible apply aS q|with_reducible apply aA q|with_reducible exact FP ht|with_reducible apply aS e|wtm_at "e")
 ·have e:decide (((u.length+tw.length:Nat):Int)=u.length)=false:=by rw[decide_eq_false_iff_not];lia
  by_cases hall:r.all (P.isBase b)=true
  ·have htr:tw=r:=qW hall
   have hnum:P.numBase b r=some (P.wrap64 (ki b 0 tw)):=by
    unfold P.numBase
    rw[if_pos]
    ·rw[htr];rfl
    ·simp only[and_eq_true,not_eq_true']
     refine⟨hall,?_⟩
     cases r with
     |nil=>exact absurd (by rw[htr];rfl) h0
     |cons d r=>rfl
   have e2:decide (((u.length+tw.length:Nat):Int)=((u++r).length:Int))=true:=by rw[decide_eq_true_eq,hlen,htr]
   obtain⟨g1,g2⟩:=nA b tw 0 (by decide) (by decide)
   rw[hnum]
   apply Exists.intro
   refine⟨M,?_⟩
   rcases hbq with ⟨q,hq⟩|⟨q,hq⟩<;>(rw[hq] at e1;repeat first|with_reducible exact uF hlim|with_reducible exact e1 _|with_reducible apply aS q|with_reducible apply aA q|with_reducible exact FP ht|with_reducible apply aA e|with_reducible exact sk _|with_reducible exact len_bytes hl6|with_reducible apply aA (sT e2)|with_reducible exact uF hl2|with_reducible exact DM g1 g2|wtm_at "e")
  ·have hnum:P.numBase b r=none:=by
    unfold P.numBase
    rw[if_neg]
    simp only[and_eq_true,not_eq_true']
    rintro⟨q1,q2⟩
    exact hall q1
   have hne:tw.length≠r.length:=fun q=>hall (tm.mp q)
   have e2:decide (((u.length+tw.length:Nat):Int)=((u++r).length:Int))=false:=by rw[decide_eq_false_iff_not,hlen];lia
   rw[hnum]
   apply Exists.intro
   refine⟨M,?_⟩
   rcases hbq with ⟨q,hq⟩|⟨q,hq⟩<;>(rw[hq] at e1;repeat first|with_reducible exact uF hlim|with_reducible exact e1 _|with_reducible apply aS q|with_reducible apply aA q|with_reducible exact FP ht|with_reducible apply aA e|with_reducible exact sk _|with_reducible exact len_bytes hl6|with_reducible apply aS (jM e2)|wtm_at "e")
theorem jR{y d:UInt8}{r:Bs}:P.numVal (48::y::d::r)=if(y==120||y==88)&&P.isBase 16 d then P.numBase 16 (d::r) else P.numBase 10 (48::y::d::r):=rfl
inductive HJ (N n lim:Nat) (t:Bs) (H:Hp) (Tl:Ss) (X:af Fl):Prop
 |a (M:Hp) (m:Bool) (e:X=bj (aa N (n+3)) N Tl ⟨[some (.bytes t),some (.int 0),some (.ref lim),some (.bool m),some (.int ((([]:Bs)).length:Int)),some (.bool false),none,none],H++M⟩) (q:P.numVal t=P.numBase 10 t)
 |b (M:Hp) (y d:UInt8) (r:Bs) (h:t=[48,y]++(d::r)) (e:X=bj (aa N (n+3)) N Tl ⟨[some (.bytes t),some (.int 16),some (.ref lim),some (.bool true),some (.int ((([48,y]:Bs)).length:Int)),some (.bool false),none,none],H++M⟩) (q:P.numVal t=P.numBase 16 (d::r))
set_option tactic.hygienic true in
theorem yQ(hN:1000000≤N){t:Bs}{c0:UInt8}{t':Bs}(ht:t=c0::t'){lim:Nat}(hl:t.length≤900000)(hnb:∀d∈t,([32,9,10,11,12,13]:Bs).contains d=false)(hsg:([43,45]:Bs).contains c0=false)(Tl:Ss):
  HJ N n lim t H Tl (bj (aa N (n+3)) N (.cons (.unpk true [4,5] (.tup (.cons (.call (.con (.sta (.ref 131))) (.cons (.loc 0) (.cons (.con (.int 0)) .nil))) (.cons (.con (.bool false)) .nil)))) (.cons (.ite (.and (.cmp .Lt (.loc 4) (.call (.con (.sta (.builtin "len"))) (.cons (.loc 0) .nil))) (.cmp .In (.sub (.loc 0) (.loc 4)) (.con (.bytes [43,45])))) (.cons (.asg 5 (.cmp .Eq (.sub (.loc 0) (.loc 4)) (.con (.int 45)))) (.cons (.asg 4 (.bin .Add (.loc 4) (.con (.int 1)))) .nil)) .nil) (.cons (.asg 3 (.and (.cmp .Lt (.bin .Add (.loc 4) (.con (.int 2))) (.call (.con (.sta (.builtin "len"))) (.cons (.loc 0) .nil))) (.and (.cmp .Eq (.sub (.loc 0) (.loc 4)) (.con (.int 48))) (.and (.cmp .In (.sub (.loc 0) (.bin .Add (.loc 4) (.con (.int 1)))) (.con (.bytes [120,88]))) (.cmp .In (.loc 1) (.tup (.cons (.con (.int 0)) (.cons (.con (.int 16)) .nil)))))))) (.cons (.ite (.and (.loc 3) (.cmp2 .LtE .Lt (.con (.int 0)) (.call (.con (.sta (.ref 117))) (.cons (.sub (.loc 0) (.bin .Add (.loc 4) (.con (.int 2)))) .nil)) (.con (.int 16)))) (.cons (.unpk true [4,1] (.tup (.cons (.bin .Add (.loc 4) (.con (.int 2))) (.cons (.con (.int 16)) .nil)))) .nil) .nil) Tl)))) ⟨[some (.bytes t),some (.int 0),some (.ref lim),none,none,none,none,none],H⟩):=by
 have hlt:0 < t.length:=by rw[ht];simp
 have sk:=fun vs H=>uQ (n:=n+1) (vs:=vs) (H:=H) (t:=t) (k:=0) hN hl (le_add_left _ _) hnb
 have z:((0:Nat):Int)=0:=rfl
 simp only[z] at sk
 have h1:(H++[O.tup [.int 0,.bool false]])[H.length]? =some (.tup [.int 0,.bool false]):=al
 have e0:decide ((0:Int) < (t.length:Int))=true:=by rw[decide_eq_true_eq];exact zh hlt
 have i0:=fun σ=>gw (t:=aa N (n+3)) (b:=t) (k:=(0:Int)) (σ:=σ) ⟨natCast_nonneg _,zh hlt,bA hl rfl⟩
 have g0:t.getD (0:Int).toNat 0=c0:=by rw[ht];rfl
 rw[g0] at i0
 have hL:=fun σ=>len_bytes (N:=N) (n:=n+2) (b:=t) (σ:=σ) (bA hl rfl)
 have hi:cF [.int 0,.int 16]=some [0,16]:=rfl
 have hn:([0,16]:List Int).any (·==0)=true:=by decide
 by_cases h2:2 < t.length
 ·obtain⟨y,d,r,rfl⟩:∃y d r,t'=y::d::r:=by
   cases t' with
   |nil=>rw[ht] at h2;simp at h2
   |cons y t'=>cases t' with
    |nil=>rw[ht] at h2;simp at h2
    |cons d r=>exact⟨y,d,r,rfl⟩
  have e2:decide ((0:Int)+2 < (t.length:Int))=true:=by rw[decide_eq_true_eq];lia
  have i1:=fun σ=>gw (t:=aa N (n+3)) (b:=t) (k:=(0:Int)+1) (σ:=σ) ⟨by lia,by lia,bA hl rfl⟩
  have g1:t.getD ((0:Int)+1).toNat 0=y:=by rw[ht];rfl
  rw[g1] at i1
  have i2:=fun σ=>gw (t:=aa N (n+3)) (b:=t) (k:=(0:Int)+2) (σ:=σ) ⟨by lia,by lia,bA hl rfl⟩
  have g2:t.getD ((0:Int)+2).toNat 0=d:=by rw[ht];rfl
  rw[g2] at i2
  by_cases hc:c0=48
  ·subst hc
   have f1:decide (((48:UInt8).toNat:Int)=48)=true:=by decide
   cases hy:([120,88]:Bs).contains y with
   |false=>
    refine .a [.tup [.int 0,.bool false]] false ?_ ?_
    ·have hy':aQ (H++[O.tup [.int 0,.bool false]]) .In (.int y.toNat) (.bytes [120,88])=some false:=hy ▸ d0
     repeat first|with_reducible exact sk _ _|with_reducible exact hy'|with_reducible exact yv al|with_reducible exact hL _|with_reducible apply aS e0|with_reducible apply aA e0|with_reducible exact i0 _|with_reducible apply aA hsg|with_reducible apply aS e2|with_reducible apply aA e2|with_reducible apply aS f1|with_reducible apply aA f1|with_reducible exact i1 _|with_reducible exact hy'|with_reducible exact d0|((with_reducible apply lZ (A:=Tl))<;>exact rfl)|wtm_at "e"
    ·rw[ht]
     rw[jR]
     rw[if_neg]
     simp only[and_eq_true,or_eq_true,beq_iff_eq]
     rintro⟨q|q,_⟩<;>(rw[q] at hy;revert hy;decide)
   |true=>
    have hyx:((y==120||y==88)=true):=by
     simp only[contains_cons,List.contains_nil,Bool.or_false] at hy
     exact hy
    have h3:(H++[O.tup [.int 0,.bool false]]++[O.tup [.int 0,.int 16]])[(H++[O.tup [.int 0,.bool false]]).length]? =some (.tup [.int 0,.int 16]):=al
    have f2:((0:Int)==0||(16:Int)==0)=true:=by decide
    have f20:((0:Int)==0)=true:=by decide
    by_cases hd:0≤P.digOf d∧P.digOf d < 16
    ·have hib:P.isBase 16 d=true:=by unfold P.isBase;rw[decide_eq_true hd.1,decide_eq_true hd.2];rfl
     have d1:decide (0≤P.digOf d)=true:=decide_eq_true hd.1
     have d2:decide (P.digOf d < 16)=true:=decide_eq_true hd.2
     have h4:(H++[O.tup [.int 0,.bool false]]++[O.tup [.int 0,.int 16]]++[O.tup [.int (0+2),.int 16]])[(H++[O.tup [.int 0,.bool false]]++[O.tup [.int 0,.int 16]]).length]? =some (.tup [.int (0+2),.int 16]):=al
     refine .b [.tup [.int 0,.bool false],.tup [.int 0,.int 16],.tup [.int (0+2),.int 16]] y d r ht ?_ ?_
     ·rw[show H++[O.tup [.int 0,.bool false],.tup [.int 0,.int 16],.tup [.int (0+2),.int 16]]=H++[O.tup [.int 0,.bool false]]++[.tup [.int 0,.int 16]]++[.tup [.int (0+2),.int 16]] by simp]
      have d12:(decide (0≤P.digOf d)&&decide (P.digOf d < 16))=true:=by rw[d1,d2];rfl
      have hy':aQ (H++[O.tup [.int 0,.bool false]]) .In (.int y.toNat) (.bytes [120,88])=some true:=hy ▸ d0
      repeat first|with_reducible exact sk _ _|with_reducible exact hy'|with_reducible exact yv al|with_reducible exact hL _|with_reducible apply aS e0|with_reducible apply aA e0|with_reducible exact i0 _|with_reducible apply aA hsg|with_reducible apply aS e2|with_reducible apply aA e2|with_reducible apply aS f1|with_reducible apply aA f1|with_reducible exact i1 _|with_reducible exact hy'|with_reducible exact eN al hi hn|with_reducible exact i2 _|with_reducible exact db|with_reducible apply aS d12|with_reducible apply aA d12|with_reducible exact d0|((with_reducible apply lZ (A:=Tl))<;>exact rfl)|wtm_at "e"
     ·rw[ht]
      rw[jR]
      rw[if_pos (by rw[hyx,hib];rfl)]
    ·have hib:P.isBase 16 d=false:=by
      unfold P.isBase
      rw[Bool.and_eq_false_iff,decide_eq_false_iff_not,decide_eq_false_iff_not]
      lia
     refine .a [.tup [.int 0,.bool false],.tup [.int 0,.int 16]] true ?_ ?_
     ·by_cases d1:0≤P.digOf d
      ·have d1':decide (0≤P.digOf d)=true:=decide_eq_true d1
       have d2':decide (P.digOf d < 16)=false:=decide_eq_false fun q=>hd ⟨d1,q⟩
       rw[show H++[O.tup [.int 0,.bool false],.tup [.int 0,.int 16]]=H++[O.tup [.int 0,.bool false]]++[.tup [.int 0,.int 16]] by simp]
       have d12:(decide (0≤P.digOf d)&&decide (P.digOf d < 16))=false:=by rw[d2',Bool.and_false]
       have hy':aQ (H++[O.tup [.int 0,.bool false]]) .In (.int y.toNat) (.bytes [120,88])=some true:=hy ▸ d0
       repeat first|with_reducible exact sk _ _|with_reducible exact hy'|with_reducible exact yv al|with_reducible exact hL _|with_reducible apply aS e0|with_reducible apply aA e0|with_reducible exact i0 _|with_reducible apply aA hsg|with_reducible apply aS e2|with_reducible apply aA e2|with_reducible apply aS f1|with_reducible apply aA f1|with_reducible exact i1 _|with_reducible exact hy'|with_reducible exact eN al hi hn|with_reducible exact i2 _|with_reducible exact db|with_reducible apply aS d12|with_reducible apply aA d12|with_reducible exact d0|((with_reducible apply lZ (A:=Tl))<;>exact rfl)|wtm_at "e"
      ·have d1':decide (0≤P.digOf d)=false:=decide_eq_false d1
       rw[show H++[O.tup [.int 0,.bool false],.tup [.int 0,.int 16]]=H++[O.tup [.int 0,.bool false]]++[.tup [.int 0,.int 16]] by simp]
       have d12:(decide (0≤P.digOf d)&&decide (P.digOf d < 16))=false:=by rw[d1',Bool.false_and]
       have hy':aQ (H++[O.tup [.int 0,.bool false]]) .In (.int y.toNat) (.bytes [120,88])=some true:=hy ▸ d0
       repeat first|with_reducible exact sk _ _|with_reducible exact hy'|with_reducible exact yv al|with_reducible exact hL _|with_reducible apply aS e0|with_reducible apply aA e0|with_reducible exact i0 _|with_reducible apply aA hsg|with_reducible apply aS e2|with_reducible apply aA e2|with_reducible apply aS f1|with_reducible apply aA f1|with_reducible exact i1 _|with_reducible exact hy'|with_reducible exact eN al hi hn|with_reducible exact i2 _|with_reducible exact db|with_reducible apply aS d12|with_reducible apply aA d12|with_reducible exact d0|((with_reducible apply lZ (A:=Tl))<;>exact rfl)|wtm_at "e"
     ·rw[ht]
      rw[jR]
      rw[if_neg (by rw[hib];simp)]
  ·have f1:decide ((c0.toNat:Int)=48)=false:=eO (k:=48) hc
   refine .a [.tup [.int 0,.bool false]] false ?_ ?_
   ·repeat first|with_reducible exact sk _ _|with_reducible exact yv al|with_reducible exact hL _|with_reducible apply aS e0|with_reducible apply aA e0|with_reducible exact i0 _|with_reducible apply aA hsg|with_reducible apply aS e2|with_reducible apply aA e2|with_reducible apply aS f1|with_reducible apply aA f1|with_reducible exact d0|((with_reducible apply lZ (A:=Tl))<;>exact rfl)|wtm_at "e"
   ·rw[ht]
    unfold P.numVal
    split
    ·rename_i q;cases q;exact absurd rfl hc
    ·rfl
 ·have e2:decide ((0:Int)+2 < (t.length:Int))=false:=by rw[decide_eq_false_iff_not];lia
  refine .a [.tup [.int 0,.bool false]] false ?_ ?_
  ·repeat first|with_reducible exact sk _ _|with_reducible exact yv al|with_reducible exact hL _|with_reducible apply aS e0|with_reducible apply aA e0|with_reducible exact i0 _|with_reducible apply aA hsg|with_reducible apply aS e2|with_reducible apply aA e2|with_reducible exact d0|((with_reducible apply lZ (A:=Tl))<;>exact rfl)|wtm_at "e"
  ·unfold P.numVal
   split
   ·simp at h2
   ·rfl
theorem F8(hN:1000000≤N){t:Bs}{c0:UInt8}{t':Bs}(ht:t=c0::t'){lim:Nat}(hl:t.length≤900000)(hnb:∀d∈t,([32,9,10,11,12,13]:Bs).contains d=false)(hsg:([43,45]:Bs).contains c0=false)(hlim:H[lim]? =some gv):
  ∃M,(∀vs,(aa N (n+5)).prim (.ref 138) [.bytes t,.ref lim] ⟨vs,H⟩=.ok (DN (P.numVal t)) ⟨vs,H++M⟩):=by
 have main:∃M,∀vs,(aa N (n+4)).prim (.ref 145) [.bytes t,.int 0,.ref lim] ⟨vs,H⟩=.ok (DN (P.numVal t)) ⟨vs,H++M⟩:=by
  rcases yQ (n:=n) (H:=H) hN ht (lim:=lim) hl hnb hsg F7 with ⟨M,m,e1,e2⟩|⟨M,y,d,r,e0,e1,e2⟩
  ·obtain⟨vs',M',e3⟩:=qX (n:=n) (H:=H++M) hN (u:=[]) (r:=t) (base0:=0) (b:=10) (lim:=lim) (w3:=.bool m) (.inl ⟨rfl,rfl⟩) hl hnb (LS.app_inv hlim)
   refine⟨M++M',fun vs=>?_⟩
   rw[e2,←append_assoc]
   exact aw (vs:=vs) dN rfl rfl rfl (e1.trans e3)
  ·obtain⟨vs',M',e3⟩:=qX (n:=n) (H:=H++M) hN (u:=[48,y]) (r:=d::r) (base0:=16) (b:=16) (lim:=lim) (w3:=.bool true) (.inr ⟨rfl,rfl⟩) (by rw[←e0];exact hl) (by rw[←e0];exact hnb) (LS.app_inv hlim)
   refine⟨M++M',fun vs=>?_⟩
   rw[←e0] at e3
   rw[e2,←append_assoc]
   exact aw (vs:=vs) dN rfl rfl rfl (e1.trans e3)
 obtain⟨M,e1⟩:=main
 refine⟨M,fun vs=>?_⟩
 apply aw fQ rfl rfl rfl
 repeat first|with_reducible exact e1 _|wtm_at "e"
theorem yR:ax=P.resKinds:=rfl
theorem jf{p:UInt8→Bool}{d:UInt8}{t:Bs}(h:p d=true):P.span p (d::t)=(d::(P.span p t).1,(P.span p t).2):=by
 show(if _ then _ else _)=_
 rw[if_pos h]
theorem oZ{p:UInt8→Bool}{d:UInt8}{t:Bs}(h:p d=false):P.span p (d::t)=([],d::t):=by
 show(if _ then _ else _)=_
 rw[if_neg (by rw[h];decide)]
theorem qY(p:UInt8→Bool)(r:Bs):(P.span p r).1.length+(P.span p r).2.length=r.length:=by
 have:=congrArg List.length (P.span_eq p r)
 simpa using this
theorem dT(p:UInt8→Bool):∀r:Bs,∀d∈(P.span p r).1,p d=true
 | [],d,h=>by cases h
 |e::r,d,h=>by
  cases he:p e with
  |true=>
   rw[jf he] at h
   rcases mem_cons.mp h with rfl|h
   ·exact he
   ·exact dT p r d h
  |false=>rw[oZ he] at h;cases h
theorem wi:∀k,k < 256→(P.isNam (UInt8.ofNat k)||(UInt8.ofNat k==46||(UInt8.ofNat k==43||UInt8.ofNat k==45)))=true→([32,9,10,11,12,13]:Bs).contains (UInt8.ofNat k)=false:=by decide +kernel
theorem F9{d:UInt8}(h:(P.isNam d||(d==46||(d==43||d==45)))=true):([32,9,10,11,12,13]:Bs).contains d=false:=by
 have:=wi d.toNat d.toNat_lt
 rw[UInt8.ofNat_toNat] at this
 exact this h
theorem uR{e:UInt8}{r:Bs}(h:(e==69||e==101)=false):P.expo (e::r)=([],e::r):=by
 unfold P.expo
 simp only[h]
 rfl
theorem qZ{e:UInt8}(h:(e==69||e==101)=true):P.expo [e]=([e],[]):=by
 unfold P.expo
 simp only[h,if_true]
theorem q0{e d:UInt8}{u:Bs}(h:(e==69||e==101)=true)(h2:(d==43||d==45)=true):P.expo (e::d::u)=([e,d],u):=by
 unfold P.expo
 simp only[h,h2,if_true]
theorem rb{e d:UInt8}{u:Bs}(h:(e==69||e==101)=true)(h2:(d==43||d==45)=false):P.expo (e::d::u)=([e],d::u):=by
 unfold P.expo
 simp only[h,h2,if_true]
 rfl
theorem yS(r:Bs):∀d∈(P.expo r).1,(P.isNam d||(d==46||(d==43||d==45)))=true:=by
 cases r with
 |nil=>intro d h;cases h
 |cons e r=>
  intro d h
  cases he:(e==69||e==101) with
  |false=>rw[uR he] at h;cases h
  |true=>
   have he':P.isNam e=true:=by
    simp only[or_eq_true,beq_iff_eq] at he
    rcases he with rfl|rfl<;>decide
   cases r with
   |nil=>
    rw[qZ he] at h
    simp only[mem_singleton] at h
    subst h;rw[he'];rfl
   |cons q u=>
    cases hq:(q==43||q==45) with
    |true=>
     rw[q0 he hq] at h
     simp only[mem_cons,not_mem_nil,or_false] at h
     rcases h with rfl|rfl
     ·rw[he'];rfl
     ·rw[hq];simp
    |false=>
     rw[rb he hq] at h
     simp only[mem_singleton] at h
     subst h;rw[he'];rfl
theorem AF(r:Bs):∀d∈(P.numSpan r).1,(P.isNam d||(d==46||(d==43||d==45)))=true:=by
 intro d h
 unfold P.numSpan at h
 simp only[mem_append] at h
 rcases h with (h|h)|h
 ·have:=dT _ _ d h
  simp only[or_eq_true,beq_iff_eq] at this
  rcases this with q|rfl
  ·have:P.isNam d=true:=by unfold P.isNam;rw[q,Bool.or_true]
   rw[this];rfl
  ·decide
 ·exact yS _ d h
 ·rw[dT _ _ d h];rfl
theorem Ga{d:UInt8}{b:Bool}(h:P.isNam d=b):(aa N (n+2)).prim (.ref 210) [.int d.toNat] ⟨vs,H⟩=.ok (.bool b) ⟨vs,H⟩:=by
 have:=yF (N:=N) (n:=n) (r:=[d]) (vs:=vs) (H:=H)
 rw[show jb P.isNam [d]=b from h] at this
 exact this
theorem nC(r:Bs):∀(f:Nat) (x:LX) (H:Hp) (ws:aC),x.r=r→r.length < f→x.buf.length+r.length≤900000→LS c x H→
  ∃H',Wh (aa N (n+3)) N  (.call (.con (.sta (.ref 210))) (.cons (.attr (.loc 0) 12) .nil)) (.cons (.expr (.meth (.loc 0) 24 .nil)) .nil) f ⟨some (.ref c.L)::ws,H⟩=.ok .next ⟨some (.ref c.L)::ws,H'⟩∧LS c { x with r:=(P.span P.isNam r).2,buf:=x.buf++(P.span P.isNam r).1 } H':=by
 induction r with
 |nil=>
  intro f x H ws hr hf hb h
  cases f with
  |zero=>exact dI hf
  |succ f=>
  refine⟨H,?_,by rw[show P.span P.isNam []=([],x.r) by rw[hr];rfl,append_nil];exact h⟩
  have hn:jb P.isNam x.r=false:=by rw[hr];rfl
  apply bW
  repeat first|with_reducible (first|exact aV h.obj|exact yF|exact hn)|wtm_at "e"
 |cons d t ih=>
  intro f x H ws hr hf hb h
  cases f with
  |zero=>exact dI hf
  |succ f=>
  simp only[length_cons] at hf hb
  have hs:sgn x.r=d.toNat:=by rw[hr];rfl
  cases hd:P.isNam d with
  |true=>
   refine be (ff (N:=N) (n:=n) h hr (iC hb rfl)) fun H1 e1 l1=>?_
   obtain⟨H2,e2,l2⟩:=ih f _ H1 ws rfl (lt_of_succ_lt_succ hf) (by simp only[length_append,length_cons,length_nil];exact u7 hb rfl) l1
   rw[jf hd]
   refine⟨H2,?_,by simpa only[append_assoc,cons_append,nil_append] using l2⟩
   apply dY
   repeat first|with_reducible (first|exact ag h.obj hs|exact Ga hd|exact bI h.obj|exact e1 _)|((with_reducible apply bp);exact e2)|wtm_at "e"
  |false=>
   rw[oZ hd]
   refine⟨H,?_,by rw[←hr,append_nil];exact h⟩
   apply bW
   repeat first|with_reducible (first|exact ag h.obj hs|exact Ga hd)|wtm_at "e"
theorem AG(r:Bs):∀(f:Nat) (x:LX) (H:Hp) (ws:aC),x.r=r→r.length < f→x.buf.length+r.length≤900000→LS c x H→
  HG c { x with r:=(P.span (fun c=>P.isDig c||c==46) r).2,buf:=x.buf++(P.span (fun c=>P.isDig c||c==46) r).1 } (Wh (aa N (n+3)) N  (.or (.call (.con (.sta (.ref 196))) (.cons (.attr (.loc 0) 12) .nil)) (.cmp .Eq (.attr (.loc 0) 12) (.con (.int 46)))) (.cons (.expr (.meth (.loc 0) 24 .nil)) .nil) f ⟨some (.ref c.L)::ws,H⟩) (some (.ref c.L)::ws):=by
 induction r with
 |nil=>
  intro f x H ws hr hf hb h
  cases f with
  |zero=>exact dI hf
  |succ f=>
  refine⟨H,?_,by rw[show P.span (fun c=>P.isDig c||c==46) []=([],x.r) by rw[hr];rfl,append_nil];exact h⟩
  have hs:sgn x.r= -1:=by rw[hr];rfl
  have hn:∀vs,(aa N (n+3)).prim (.ref 196) [.int (-1)] ⟨vs,H⟩=.ok (.bool false) ⟨vs,H⟩:=fun vs=>fH (N:=N) (n:=n+2) (r:=[]) (vs:=vs) (H:=H)
  have e:decide ((-1:Int)=46)=false:=by decide
  apply bW
  repeat first|with_reducible (first|exact ag h.obj hs|exact hn _|exact e)|wtm_at "e"
 |cons d t ih=>
  intro f x H ws hr hf hb h
  cases f with
  |zero=>exact dI hf
  |succ f=>
  simp only[length_cons] at hf hb
  have hs:sgn x.r=d.toNat:=by rw[hr];rfl
  have h46:decide ((d.toNat:Int)=46)=(d==46):=jQ 46
  cases hd:(P.isDig d||d==46) with
  |true=>
   refine be (ff (N:=N) (n:=n) h hr (iC hb rfl)) fun H1 e1 l1=>?_
   obtain⟨H2,e2,l2⟩:=ih f _ H1 ws rfl (lt_of_succ_lt_succ hf) (by simp only[length_append,length_cons,length_nil];exact u7 hb rfl) l1
   rw[jf (p:=fun c=>P.isDig c||c==46) hd]
   refine⟨H2,?_,by simpa only[append_assoc,cons_append,nil_append] using l2⟩
   cases hg:P.isDig d with
   |true=>
    apply dY
    repeat first|with_reducible (first|exact ag h.obj hs|exact mJ hg|exact bI h.obj|exact e1 _)|((with_reducible apply bp);exact e2)|wtm_at "e"
   |false=>
    rw[hg,Bool.false_or] at hd
    rw[hd] at h46
    apply dY
    repeat first|with_reducible (first|exact ag h.obj hs|exact mJ hg|exact h46|exact bI h.obj|exact e1 _)|((with_reducible apply bp);exact e2)|wtm_at "e"
  |false=>
   rw[oZ (p:=fun c=>P.isDig c||c==46) hd]
   refine⟨H,?_,by rw[←hr,append_nil];exact h⟩
   rw[or_eq_false_iff] at hd
   rw[hd.2] at h46
   apply bW
   repeat first|with_reducible (first|exact ag h.obj hs|exact mJ hd.1|exact h46)|wtm_at "e"
theorem rc{i:Nat}{l:List (Bs×Int)}(h:H[i]? =some (.dict l)):ay (aa N n) (.ref i) 40 H=some (.prim "dict.get" (.ref i)):=by
 exact yp h
theorem Br{i:Nat}{l:List (Bs×Int)}{k:Bs}(h:H[i]? =some (.dict l)):aD "dict.get" (.ref i) [.bytes k] ⟨vs,H⟩=.ok (om l k) ⟨vs,H⟩:=by
 rw[CP];exact Fa h
theorem kQ(hN:1000000≤N)(h:LS c x H)(hb:x.buf=[]):MR c (some (P.wordTok (P.span P.isNam x.r).1,(P.span P.isNam x.r).2)) (fun vs=>(aa N (n+4)).prim (.ref 413) [.ref c.L] ⟨vs,H⟩) cS:=by
 have hlen:=h.len
 have hrT:x.r.length≤c.T.length:=by
  obtain⟨u,hu⟩:=h.suf
  rw[hu];simp
 obtain⟨H1,e1,l1⟩:=nC (N:=N) (n:=n) x.r N x H [none,none] rfl (by lia) (by rw[hb];simp;exact Ee hrT hlen rfl) h
 have hsl:=qY P.isNam x.r
 have hb1:H1[x.bi]? =some (.ba (P.span P.isNam x.r).1):=by have:=l1.buf;rw[hb] at this;exact this
 have hl6:(P.span P.isNam x.r).1.length≤1000000:=by lia
 unfold P.wordTok
 rw[←yR]
 cases hk:ax.lookup (P.span P.isNam x.r).1 with
 |some k=>
  have hg:om ax (P.span P.isNam x.r).1=.int k:=by unfold om;rw[hk]
  refine⟨H1++[cO (.int k) .none],_,.ref H1.length,fun vs=>?_,l1.app _,rfl,H1.length,rfl,al⟩
  have hget:=fun vs=>Br (vs:=vs) (k:=(P.span P.isNam x.r).1) l1.kdAt
  rw[hg] at hget
  apply aw cI rfl rfl rfl
  repeat first|((with_reducible apply bp);exact e1)|with_reducible (first|exact fe l1.obj|exact dW hb1 hl6|exact yx l1.obj|exact rc l1.kdAt|exact hget _|exact bu)|wtm_at "e"
 |none=>
  have hg:om ax (P.span P.isNam x.r).1=.none:=by unfold om;rw[hk]
  refine⟨H1++[cO (.int 285) (.bytes (P.span P.isNam x.r).1)],_,.ref H1.length,fun vs=>?_,l1.app _,rfl,H1.length,rfl,al⟩
  have hget:=fun vs=>Br (vs:=vs) (k:=(P.span P.isNam x.r).1) l1.kdAt
  rw[hg] at hget
  apply aw cI rfl rfl rfl
  repeat first|((with_reducible apply bp);exact e1)|with_reducible (first|exact fe l1.obj|exact dW hb1 hl6|exact yx l1.obj|exact rc l1.kdAt|exact hget _|exact bu)|wtm_at "e"
noncomputable abbrev HK:S:=(.ite (.meth (.loc 0) 39 (.cons (.tup (.cons (.con (.int 69)) (.cons (.con (.int 101)) .nil))) .nil)) (.cons (.expr (.meth (.loc 0) 39 (.cons (.tup (.cons (.con (.int 43)) (.cons (.con (.int 45)) .nil))) .nil))) .nil) .nil)
theorem bq{d k:UInt8}(h:d≠k):((k.toNat:Int)==(d.toNat:Int))=false:=by
 rw[beq_eq_false_iff_ne]
 intro q
 exact h (UInt8.toNat_inj.mp (by lia))
theorem tn(h:LS c x H)(hb:x.buf.length+x.r.length≤900000):
  ∃H',(∀vs,ex (aa N (n+5)) N HK ⟨some (.ref c.L)::vs,H⟩=.ok .next ⟨some (.ref c.L)::vs,H'⟩)∧LS c { x with r:=(P.expo x.r).2,buf:=x.buf++(P.expo x.r).1 } H':=by
 have l0:=h.app [.tup [.int 69,.int 101]]
 have t0:(H++[O.tup [.int 69,.int 101]])[H.length]? =some (.tup [.int 69,.int 101]):=al
 have hm:=aR (N:=N) (n:=n+5) h.obj (m:=39) (f:=350) rfl rfl
 have no:(([69,101]:List Int).any (·==sgn x.r))=false→P.expo x.r=([],x.r)→∃H',(∀vs,ex (aa N (n+5)) N HK ⟨some (.ref c.L)::vs,H⟩=.ok .next ⟨some (.ref c.L)::vs,H'⟩)∧LS c { x with r:=(P.expo x.r).2,buf:=x.buf++(P.expo x.r).1 } H':=by
  intro q1 q2
  have e1:=fun vs=>gP (N:=N) (n:=n+4) (vs:=vs) l0 t0 rfl q1
  refine⟨_,fun vs=>?_,by rw[q2,append_nil];exact l0⟩
  repeat first|with_reducible (first|exact hm|exact e1 _)|wtm_at "e"
 cases hr:x.r with
 |nil=>
  rw[←hr]
  exact no (by rw[hr];decide) (by rw[hr];rfl)
 |cons e u=>
  cases he:(e==69||e==101) with
  |false=>
   rw[←hr]
   refine no ?_ (by rw[hr];exact uR he)
   rw[or_eq_false_iff,beq_eq_false_iff_ne,beq_eq_false_iff_ne] at he
   rw[hr]
   show((69:Int)==(e.toNat:Int)||((101:Int)==(e.toNat:Int)||false))=false
   rw[show((69:Int)==(e.toNat:Int))=false from bq (k:=69) he.1,show((101:Int)==(e.toNat:Int))=false from bq (k:=101) he.2]
   rfl
  |true=>
   have hy:(([69,101]:List Int).any (·==sgn x.r))=true:=by
    rw[hr]
    simp only[or_eq_true,beq_iff_eq] at he
    rcases he with rfl|rfl<;>rfl
   refine be (fI (N:=N) (n:=n+1) l0 hr (iC hb rfl) t0 rfl hy) fun H1 e1 l1=>?_
   have l1':=l1.app [.tup [.int 43,.int 45]]
   have t1:(H1++[O.tup [.int 43,.int 45]])[H1.length]? =some (.tup [.int 43,.int 45]):=al
   have hm1:=aR (N:=N) (n:=n+5) l1.obj (m:=39) (f:=350) rfl rfl
   have no2:(([43,45]:List Int).any (·==sgn u))=false→P.expo (e::u)=([e],u)→∃H',(∀vs,ex (aa N (n+5)) N HK ⟨some (.ref c.L)::vs,H⟩=.ok .next ⟨some (.ref c.L)::vs,H'⟩)∧LS c { x with r:=(P.expo (e::u)).2,buf:=x.buf++(P.expo (e::u)).1 } H':=by
    intro q1 q2
    have e2:=fun vs=>gP (N:=N) (n:=n+4) (vs:=vs) l1' t1 rfl q1
    refine⟨_,fun vs=>?_,by rw[q2];exact l1'⟩
    repeat first|with_reducible (first|exact hm|exact hm1|exact e1 _|exact e2 _)|wtm_at "e"
   cases u with
   |nil=>exact no2 (by decide) (qZ he)
   |cons q w=>
    cases hq:(q==43||q==45) with
    |false=>
     refine no2 ?_ (rb he hq)
     rw[or_eq_false_iff,beq_eq_false_iff_ne,beq_eq_false_iff_ne] at hq
     show((43:Int)==(q.toNat:Int)||((45:Int)==(q.toNat:Int)||false))=false
     rw[show((43:Int)==(q.toNat:Int))=false from bq (k:=43) hq.1,show((45:Int)==(q.toNat:Int))=false from bq (k:=45) hq.2]
     rfl
    |true=>
     have hy2:(([43,45]:List Int).any (·==sgn (q::w)))=true:=by
      simp only[or_eq_true,beq_iff_eq] at hq
      rcases hq with rfl|rfl<;>rfl
     rw[hr] at hb
     simp only[length_cons] at hb
     refine be (fI (N:=N) (n:=n+1) l1' (d:=q) (t:=w) rfl (by simp only[length_append,length_cons,length_nil];lia) t1 rfl hy2) fun H2 e2 l2=>?_
     rw[q0 he hq]
     refine⟨H2,fun vs=>?_,by simpa only[append_assoc,cons_append,nil_append] using l2⟩
     repeat first|with_reducible (first|exact hm|exact hm1|exact e1 _|exact e2 _)|wtm_at "e"
theorem ml(hN:1000000≤N)(h:LS c x H)(hb:x.buf.length≤1)(hbm:∀d∈x.buf,d=46){c0:UInt8}{t0:Bs}(h0:x.buf++(P.numSpan x.r).1=c0::t0)(h1:([43,45]:Bs).contains c0=false):
  MR c ((P.numVal (x.buf++(P.numSpan x.r).1)).map fun n=>(((284,.num n):P.Tok),(P.numSpan x.r).2)) (fun vs=>(aa N (n+6)).prim (.ref 420) [.ref c.L] ⟨vs,H⟩) cS:=by
 have hlen:=h.len
 have hrT:x.r.length≤c.T.length:=by
  obtain⟨u,hu⟩:=h.suf
  rw[hu];simp
 refine yw (AG (N:=N) (n:=n+2) x.r N x H [none] rfl (by lia) (by lia) h) fun H1 e1 l1=>?_
 have s1:=qY (fun c=>P.isDig c||c==46) x.r
 obtain⟨H2,e2,l2⟩:=tn (N:=N) (n:=n) l1 (by simp only[length_append];lia)
 have s2:(P.expo (P.span (fun c=>P.isDig c||c==46) x.r).2).1.length+(P.expo (P.span (fun c=>P.isDig c||c==46) x.r).2).2.length=(P.span (fun c=>P.isDig c||c==46) x.r).2.length:=by
  have:=congrArg List.length (P.expo_eq (P.span (fun c=>P.isDig c||c==46) x.r).2)
  simpa using this
 obtain⟨H3,e3,l3⟩:=nC (N:=N) (n:=n+2) _ N _ H2 [none] rfl (by show(P.expo (P.span (fun c=>P.isDig c||c==46) x.r).2).2.length < N;lia) (by simp only[length_append];lia) l2
 have hbuf:x.buf++(P.span (fun c=>P.isDig c||c==46) x.r).1++(P.expo (P.span (fun c=>P.isDig c||c==46) x.r).2).1++(P.span P.isNam (P.expo (P.span (fun c=>P.isDig c||c==46) x.r).2).2).1=x.buf++(P.numSpan x.r).1:=by
  unfold P.numSpan
  simp only[append_assoc]
 have hb3:H3[x.bi]? =some (.ba (x.buf++(P.numSpan x.r).1)):=by rw[←hbuf];exact l3.buf
 have hnl:(P.numSpan x.r).1.length≤x.r.length:=by
  have:=congrArg List.length (P.numSpan_eq x.r)
  simp only[length_append] at this
  exact Ig this
 have hbl:(x.buf++(P.numSpan x.r).1).length≤900000:=by simp only[length_append];lia
 have hnb:∀d∈x.buf++(P.numSpan x.r).1,([32,9,10,11,12,13]:Bs).contains d=false:=by
  intro d hd
  rcases mem_append.mp hd with hd|hd
  ·rw[hbm d hd];decide
  ·exact F9 (AF _ d hd)
 obtain⟨M,e4⟩:=F8 (n:=n) (H:=H3) hN h0 (lim:=c.lim) hbl hnb h1 l3.limAt
 have l4:=l3.app M
 have hl6:(x.buf++(P.numSpan x.r).1).length≤1000000:=bA hbl rfl
 cases hv:P.numVal (x.buf++(P.numSpan x.r).1) with
 |none=>
  rw[hv] at e4
  have e4':∀vs,(aa N (n+5)).prim (.ref 138) [.bytes (x.buf++(P.numSpan x.r).1),.ref c.lim] ⟨vs,H3⟩=.ok .none ⟨vs,H3++M⟩:=e4
  refine dx (cL (n:=n+1) hN l4 FW (by show List.length _≤_;rw[hbuf];exact hbl) (msg:=[109,97,108,102,111,114,109,101,100,32,110,117,109,98,101,114]) (by decide)) fun H5 e5 k5=>?_
  have e5':∀vs,(aa N (n+5)).prim (.ref 308) [.ref c.L,.bytes _,.int 284] ⟨vs,_⟩=.exc H5:=e5
  refine⟨H5,fun vs=>?_,k5⟩
  apply dw bV rfl rfl rfl
  repeat first|((with_reducible apply bp);exact e1)|with_reducible exact e2 _|((with_reducible apply bp);exact e3)|with_reducible (first|exact fe l3.obj|exact dW hb3 hl6|exact sW l3.obj|exact e4' _|exact fG l4.obj|exact e5' _)|wtm_at "e"
 |some v=>
  rw[hv] at e4
  have e4':∀vs,(aa N (n+5)).prim (.ref 138) [.bytes (x.buf++(P.numSpan x.r).1),.ref c.lim] ⟨vs,H3⟩=.ok (.int v) ⟨vs,H3++M⟩:=e4
  refine⟨H3++M++[cO (.int 284) (.int v)],_,.ref (H3++M).length,fun vs=>?_,l4.app _,rfl,(H3++M).length,rfl,al⟩
  apply aw bV rfl rfl rfl
  repeat first|((with_reducible apply bp);exact e1)|with_reducible exact e2 _|((with_reducible apply bp);exact e3)|with_reducible (first|exact fe l3.obj|exact dW hb3 hl6|exact sW l3.obj|exact e4' _|exact bu)|wtm_at "e"
inductive I9 {α:Type} (c:LC) (p:α×Bs) (r:af Fl) (R:α→V→Hp→Prop):Prop
 |mk (H':Hp) (x':LX) (v:V) (ws:aC) (e:r=.ok (.ret v) ⟨ws,H'⟩) (l:LS c x' H') (q:x'.r=p.2) (t:R p.1 v H')
noncomputable def FR{α:Type}(c:LC)(o:Option (α×Bs))(r:af Fl)(R:α→V→Hp→Prop):Prop:=match o with
 |some p=>I9 c p r R
 |none=>Aw c r
theorem FR.tail{α:Type}{o:Option (α×Bs)}{r:aC→af V}{X:af Fl}{T:α→V→Hp→Prop}{ws:aC}(M:MR c o r T)(h:X=qH (r ws)):FR c o X T:=by
 subst h
 cases o with
 |none=>obtain⟨H',e,k⟩:=M;exact⟨H',by rw[e];rfl,k⟩
 |some p=>obtain⟨H',x',v,e,k,g,t⟩:=M;exact⟨H',x',v,ws,by rw[e];rfl,k,g,t⟩
theorem FR.mr{α:Type}{o:Option (α×Bs)}{T:α→V→Hp→Prop}{ws:List V}(d:bY)(hf:aM.find? (fun e=>e.addr==d.addr)=some d)(hs:gO d.addr=false)(hl:ws.length=d.np)(M:FR c o (bj (aa N n) N d.body ⟨ar d.names ws,H⟩) T):
  MR c o (fun vs=>(aa N (n+1)).prim (.ref d.addr) ws ⟨vs,H⟩) T:=by
 cases o with
 |none=>obtain⟨H',e,k⟩:=M;exact⟨H',fun vs=>dw d hf hs hl e,k⟩
 |some p=>obtain⟨H',x',v,ws',e,k,g,t⟩:=M;exact⟨H',x',v,fun vs=>aw d hf hs hl e,k,g,t⟩
theorem tx(t:Bs):P.readTok (46::t)=(if P.hd? 46 t then(if P.hd? 46 t.tail then some (((279,.non):P.Tok),t.tail.tail) else some ((278,.non),t.tail))
   else(match t with
    |d::_=>if P.isDig d then(P.numVal (46::(P.numSpan t).1)).map fun n=>((284,.num n),(P.numSpan t).2) else some ((46,.non),t)
    | []=>some ((46,.non),t))):=rfl
theorem AH(hN:1000000≤N)(h:LS c x H){t:Bs}(hr:x.r=46::t)(hb:x.buf=[]):MR c (P.readTok (46::t)) (fun vs=>(aa N (n+7)).prim (.ref 406) [.ref c.L] ⟨vs,H⟩) cS:=by
 refine be (ff (N:=N) (n:=n+3) h hr (by rw[hb];simp)) fun H1 e1 l1=>?_
 have l1':=l1.app [.tup [.int 46]]
 have t1:(H1++[O.tup [.int 46]])[H1.length]? =some (.tup [.int 46]):=al
 have hm:=aR (N:=N) (n:=n+6) h.obj (m:=24) (f:=343) rfl rfl
 have hm1:=aR (N:=N) (n:=n+6) l1.obj (m:=39) (f:=350) rfl rfl
 have hrt:=tx t
 rw[hrt]
 by_cases hh:P.hd? 46 t=true
 ·rw[if_pos hh]
  obtain⟨w,rfl⟩:=eB hh
  refine be (fI (N:=N) (n:=n+2) l1' (d:=46) (t:=w) rfl (by simp[hb]) t1 rfl rfl) fun H2 e2 l2=>?_
  have l2':=l2.app [.tup [.int 46]]
  have t2:(H2++[O.tup [.int 46]])[H2.length]? =some (.tup [.int 46]):=al
  have hm2:=aR (N:=N) (n:=n+6) l2.obj (m:=39) (f:=350) rfl rfl
  rw[tail_cons]
  by_cases hh2:P.hd? 46 w=true
  ·rw[if_pos hh2]
   obtain⟨w2,rfl⟩:=eB hh2
   refine be (fI (N:=N) (n:=n+2) l2' (d:=46) (t:=w2) rfl (by simp[hb]) t2 rfl rfl) fun H3 e3 l3=>?_
   refine⟨H3++[cO (.int 279) .none],_,.ref H3.length,fun vs=>?_,l3.app _,rfl,H3.length,rfl,al⟩
   apply aw bw rfl rfl rfl
   repeat first|with_reducible (first|exact hm|exact e1 _|exact hm1|exact e2 _|exact hm2|exact e3 _|exact bu)|wtm_at "e"
  ·rw[if_neg hh2]
   have hn:(([46]:List Int).any (·==sgn w))=false:=by
    cases w with
    |nil=>rfl
    |cons q u=>
     show((46:Int)==(q.toNat:Int)||false)=false
     rw[show((46:Int)==(q.toNat:Int))=false from bq (k:=46) (fun z=>hh2 (by rw[z];rfl))];rfl
   have e3:=fun vs=>gP (N:=N) (n:=n+5) (vs:=vs) l2' t2 rfl hn
   refine⟨H2++[O.tup [.int 46]]++[cO (.int 278) .none],_,.ref (H2++[O.tup [.int 46]]).length,fun vs=>?_,l2'.app _,rfl,(H2++[O.tup [.int 46]]).length,rfl,al⟩
   apply aw bw rfl rfl rfl
   repeat first|with_reducible (first|exact hm|exact e1 _|exact hm1|exact e2 _|exact hm2|exact e3 _|exact bu)|wtm_at "e"
 ·rw[if_neg hh]
  have hn:(([46]:List Int).any (·==sgn t))=false:=by
   cases t with
   |nil=>rfl
   |cons q u=>
    show((46:Int)==(q.toNat:Int)||false)=false
    rw[show((46:Int)==(q.toNat:Int))=false from bq (k:=46) (fun z=>hh (by rw[z];rfl))];rfl
  have e2:=fun vs=>gP (N:=N) (n:=n+5) (vs:=vs) l1' t1 rfl hn
  have sd:=fun vs=>fH (N:=N) (n:=n+5) (r:=t) (vs:=vs) (H:=H1++[O.tup [.int 46]])
  have plain:jb P.isDig t=false→MR c (some (((46,.non):P.Tok),t)) (fun vs=>(aa N (n+7)).prim (.ref 406) [.ref c.L] ⟨vs,H⟩) cS:=by
   intro hd
   rw[hd] at sd
   refine⟨H1++[O.tup [.int 46]]++[cO (.int 46) .none],_,.ref (H1++[O.tup [.int 46]]).length,fun vs=>?_,l1'.app _,rfl,(H1++[O.tup [.int 46]]).length,rfl,al⟩
   apply aw bw rfl rfl rfl
   repeat first|with_reducible (first|exact hm|exact e1 _|exact hm1|exact e2 _|exact aV l1'.obj|exact sd _|exact bu)|wtm_at "e"
  cases t with
  |nil=>exact plain rfl
  |cons d u=>
   dsimp only
   cases hd:P.isDig d with
   |false=>exact plain hd
   |true=>
    rw[show jb P.isDig (d::u)=true from hd] at sd
    rw[if_pos rfl]
    have M:=ml (n:=n) hN l1' (by show(x.buf++[46]).length≤1;rw[hb];decide) (by intro q hq;rw[show x.buf++[46]=[46] by rw[hb];rfl] at hq;simpa using hq) (c0:=46) (t0:=(P.numSpan (d::u)).1) (by show x.buf++[46]++_=_;rw[hb];rfl) (by decide)
    have hbe:x.buf++[46]++(P.numSpan (d::u)).1=46::(P.numSpan (d::u)).1:=by rw[hb];rfl
    simp only[hbe] at M
    apply FR.mr bw rfl rfl rfl
    apply FR.tail M
    repeat first|with_reducible (first|exact hm|exact e1 _|exact hm1|exact e2 _|exact aV l1'.obj|exact sd _|exact yB l1'.obj|exact sQ (f:=420)|exact sR|exact sS)|wtm_at "e"
theorem Gb{t:Tb}{E1:E}{A:Ss}{k:Nat}{σ:St}(x:ev t E1 σ=.exc H):Wh t N E1 A (k+1) σ=.exc H:=by rw[gG,x];rfl
noncomputable def ahead(r:Bs):Option (P.Tok×Bs):=(P.skip r).bind fun s=>match s with
 | []=>some ((287,.non),[])
 |c::t=>P.readTok (c::t)
theorem tz(hN:1000000≤N)(k:Nat):∀(f:Nat) (x:LX) (H:Hp),x.r.length≤k→k < f→x.buf=[]→LS c x H→
  match P.skip x.r with
  |some s=>∃H' x',Wh (aa N (n+8)) N  (.meth (.loc 0) 32 .nil) (.cons .pass .nil) f ⟨[some (.ref c.L),none],H⟩=.ok .next ⟨[some (.ref c.L),none],H'⟩∧LS c x' H'∧x'.r=s∧x'.buf=[]
  |none=>∃H',Wh (aa N (n+8)) N  (.meth (.loc 0) 32 .nil) (.cons .pass .nil) f ⟨[some (.ref c.L),none],H⟩=.exc H'∧Kp c H':=by
 induction k with
 |zero=>
  intro f x H hk hf hb h
  cases f with
  |zero=>exact dI hf
  |succ f=>
  have hm:=aR (N:=N) (n:=n+8) h.obj (m:=32) (f:=378) rfl rfl
  rcases qV (n:=n) hN h hb with ⟨H1,e1,l1,s1⟩|⟨H1,x1,e1,l1,s1,s2,s3⟩|⟨H1,e1,k1,s1⟩
  ·rw[s1]
   refine⟨H1,x,?_,l1,rfl,hb⟩
   apply bW
   repeat first|with_reducible (first|exact hm|exact e1 _)|wtm_at "e"
  ·omega
  ·rw[s1]
   refine⟨H1,?_,k1⟩
   apply Gb
   repeat first|with_reducible (first|exact hm|exact e1 _)|wtm_at "e"
 |succ k ih=>
  intro f x H hk hf hb h
  cases f with
  |zero=>exact dI hf
  |succ f=>
  have hm:=aR (N:=N) (n:=n+8) h.obj (m:=32) (f:=378) rfl rfl
  rcases qV (n:=n) hN h hb with ⟨H1,e1,l1,s1⟩|⟨H1,x1,e1,l1,s1,s2,s3⟩|⟨H1,e1,k1,s1⟩
  ·rw[s1]
   refine⟨H1,x,?_,l1,rfl,hb⟩
   apply bW
   repeat first|with_reducible (first|exact hm|exact e1 _)|wtm_at "e"
  ·have IH:=ih f x1 H1 (by omega) (by omega) s3 l1
   have hw:Wh (aa N (n+8)) N  (.meth (.loc 0) 32 .nil) (.cons .pass .nil) (f+1) ⟨[some (.ref c.L),none],H⟩=Wh (aa N (n+8)) N  (.meth (.loc 0) 32 .nil) (.cons .pass .nil) f ⟨[some (.ref c.L),none],H1⟩:=by
    apply dY
    repeat first|with_reducible (first|exact hm|exact e1 _)|((with_reducible apply bp);exact rfl)|wtm_at "e"
   rw[hw,←s2]
   exact IH
  ·rw[s1]
   refine⟨H1,?_,k1⟩
   apply Gb
   repeat first|with_reducible (first|exact hm|exact e1 _)|wtm_at "e"
noncomputable abbrev Gc:Ss:=(.cons (.ite (.cmp .In (.loc 1) (.tup (.cons (.con (.int 61)) (.cons (.con (.int 60)) (.cons (.con (.int 62)) (.cons (.con (.int 126)) .nil)))))) (.cons (.ret (.meth (.loc 0) 26 (.cons (.loc 1) .nil))) .nil) .nil) (.cons (.expr (.meth (.loc 0) 22 .nil)) (.cons (.ret (.call (.con (.sta (.ref 269))) (.cons (.loc 1) (.cons (.con .none) .nil)))) .nil)))
noncomputable abbrev Gd:Ss:=(.cons (.ite (.cmp .Eq (.loc 1) (.con (.int 45))) (.cons (.expr (.meth (.loc 0) 22 .nil)) (.cons (.ret (.call (.con (.sta (.ref 269))) (.cons (.con (.int 45)) (.cons (.con .none) .nil)))) .nil)) .nil) Gc)
noncomputable abbrev D9:Ss:=(.cons (.ite (.call (.con (.sta (.ref 196))) (.cons (.loc 1) .nil)) (.cons (.ret (.meth (.loc 0) 28 .nil)) .nil) .nil) (.cons (.ite (.call (.con (.sta (.ref 203))) (.cons (.loc 1) .nil)) (.cons (.ret (.meth (.loc 0) 27 .nil)) .nil) .nil) Gd))
noncomputable abbrev Ea:Ss:=(.cons (.ite (.cmp .Eq (.loc 1) (.con (.int 91))) (.cons (.ret (.meth (.loc 0) 30 .nil)) .nil) .nil) (.cons (.ite (.cmp .Eq (.loc 1) (.con (.int 46))) (.cons (.ret (.meth (.loc 0) 29 .nil)) .nil) .nil) D9))
noncomputable abbrev Ge:Ss:=(.cons (.asg 1 (.attr (.loc 0) 12)) (.cons (.ite (.cmp .Eq (.loc 1) (.con (.int (-1)))) (.cons (.ret (.call (.con (.sta (.ref 269))) (.cons (.con (.int 287)) (.cons (.con .none) .nil)))) .nil) .nil) (.cons (.ite (.cmp .In (.loc 1) (.tup (.cons (.con (.int 34)) (.cons (.con (.int 39)) .nil)))) (.cons (.ret (.meth (.loc 0) 31 (.cons (.loc 1) .nil))) .nil) .nil) Ea)))
theorem Gf{d:UInt8}{b:Bool}(h:P.isLet d=b):(aa N (n+1)).prim (.ref 203) [.int d.toNat] ⟨vs,H⟩=.ok (.bool b) ⟨vs,H⟩:=by
 have:=qL (N:=N) (n:=n) (r:=[d]) (vs:=vs) (H:=H)
 rw[show jb P.isLet [d]=b from h] at this
 exact this
theorem hi2:cF [.int 34,.int 39]=some [34,39]:=rfl
theorem IA:cF [.int 61,.int 60,.int 62,.int 126]=some [61,60,62,126]:=rfl
theorem Ja(h:LS c x H){d:UInt8}{t:Bs}(hr:x.r=d::t)(n34:d≠34)(n39:d≠39):bj (aa N (n+8)) N Ge ⟨[some (.ref c.L),none],H⟩=bj (aa N (n+8)) N Ea ⟨[some (.ref c.L),some (.int d.toNat)],H++[O.tup [.int 34,.int 39]]⟩:=by
 have hs:sgn x.r=(d.toNat:Int):=by rw[hr];rfl
 have hn:([34,39]:List Int).any (·==(d.toNat:Int))=false:=by
  show((34:Int)==(d.toNat:Int)||((39:Int)==(d.toNat:Int)||false))=false
  rw[show((34:Int)==(d.toNat:Int))=false from bq (k:=34) n34,show((39:Int)==(d.toNat:Int))=false from bq (k:=39) n39];rfl
 repeat first|with_reducible exact ag h.obj hs|with_reducible apply aA bo|with_reducible exact eN al hi2 hn|((with_reducible apply lZ (A:=Ea))<;>exact rfl)|wtm_at "e"
theorem Jb{d:UInt8}(n91:d≠91)(n46:d≠46):bj (aa N (n+8)) N Ea ⟨[some (.ref c.L),some (.int d.toNat)],H⟩=bj (aa N (n+8)) N D9 ⟨[some (.ref c.L),some (.int d.toNat)],H⟩:=by
 have q3:decide ((d.toNat:Int)=91)=false:=eO (k:=91) n91
 have q4:decide ((d.toNat:Int)=46)=false:=eO (k:=46) n46
 repeat first|with_reducible apply aA q3|with_reducible apply aA q4|((with_reducible apply lZ (A:=D9))<;>exact rfl)|wtm_at "e"
theorem Jc{d:UInt8}(hd:P.isDig d=false)(hl:P.isLet d=false):bj (aa N (n+8)) N D9 ⟨[some (.ref c.L),some (.int d.toNat)],H⟩=bj (aa N (n+8)) N Gd ⟨[some (.ref c.L),some (.int d.toNat)],H⟩:=by
 repeat first|with_reducible exact mJ hd|with_reducible exact Gf hl|((with_reducible apply lZ (A:=Gd))<;>exact rfl)|wtm_at "e"
theorem Jd{d:UInt8}(n45:d≠45):bj (aa N (n+8)) N Gd ⟨[some (.ref c.L),some (.int d.toNat)],H⟩=bj (aa N (n+8)) N Gc ⟨[some (.ref c.L),some (.int d.toNat)],H⟩:=by
 have q5:decide ((d.toNat:Int)=45)=false:=eO (k:=45) n45
 repeat first|with_reducible apply aA q5|((with_reducible apply lZ (A:=Gc))<;>exact rfl)|wtm_at "e"
theorem IB(hN:1000000≤N)(h:LS c x H){d:UInt8}{t:Bs}(hr:x.r=d::t)(hq:d=34∨d=39)(hb:x.buf=[]):FR c ((P.strGo d t []).map fun p=>(((286,.txt p.1):P.Tok),p.2)) (bj (aa N (n+8)) N Ge ⟨[some (.ref c.L),none],H⟩) cS:=by
 have l1:=h.app [O.tup [.int 34,.int 39]]
 have hs:sgn x.r=(d.toNat:Int):=by rw[hr];rfl
 have hn:([34,39]:List Int).any (·==(d.toNat:Int))=true:=by rcases hq with rfl|rfl<;>decide
 apply FR.tail (wf (n:=n+1) hN l1 (q:=d) hr hb)
 repeat first|with_reducible (first|exact ag h.obj hs|apply aA bo|exact eN al hi2 hn|exact DB l1.obj|exact sQ (f:=455)|exact sR|exact sS)|wtm_at "e"
theorem HL(hN:1000000≤N)(h:LS c x H){t:Bs}(hr:x.r=91::t)(hb:x.buf=[]):FR c (if P.hd? 91 (P.eqRest t) then(P.longGo (P.eqs t) (P.nlOff (P.eqRest t).tail) []).map fun p=>(((286,.txt p.1):P.Tok),p.2) else if 0 < P.eqs t then none else some ((91,.non),t)) (bj (aa N (n+8)) N Ea ⟨[some (.ref c.L),some (.int (91:UInt8).toNat)],H⟩) cS:=by
 have q3:decide (((91:UInt8).toNat:Int)=91)=true:=by decide
 apply FR.tail (td (n:=n+1) hN h hr hb)
 repeat first|with_reducible (first|apply aS q3|exact DA h.obj|exact sQ (f:=427)|exact sR|exact sS)|wtm_at "e"
theorem HM(hN:1000000≤N)(h:LS c x H){t:Bs}(hr:x.r=46::t)(hb:x.buf=[]):FR c (P.readTok (46::t)) (bj (aa N (n+8)) N Ea ⟨[some (.ref c.L),some (.int (46:UInt8).toNat)],H⟩) cS:=by
 have q3:decide (((46:UInt8).toNat:Int)=91)=false:=by decide
 have q4:decide (((46:UInt8).toNat:Int)=46)=true:=by decide
 apply FR.tail (AH (n:=n+1) hN h hr hb)
 repeat first|with_reducible (first|apply aA q3|apply aS q4|exact Dz h.obj|exact sQ (f:=406)|exact sR|exact sS)|wtm_at "e"
theorem Gg(hN:1000000≤N)(h:LS c x H){d:UInt8}{t:Bs}(hr:x.r=d::t)(hd:P.isDig d=true)(hb:x.buf=[]):FR c ((P.numVal (P.numSpan x.r).1).map fun n=>(((284,.num n):P.Tok),(P.numSpan x.r).2)) (bj (aa N (n+8)) N D9 ⟨[some (.ref c.L),some (.int d.toNat)],H⟩) cS:=by
 have hc:∃t0,x.buf++(P.numSpan x.r).1=d::t0:=by
  rw[hb,hr,nil_append]
  unfold P.numSpan
  rw[jf (p:=fun c=>P.isDig c||c==46) (by show(P.isDig d||d==46)=true;rw[hd];rfl)]
  exact⟨_,rfl⟩
 obtain⟨t0,hc⟩:=hc
 have hsg:([43,45]:Bs).contains d=false:=by
  have:=s9 hd
  have a1:d≠43:=fun q=>by rw[q] at this;revert this;decide
  have a2:d≠45:=fun q=>by rw[q] at this;revert this;decide
  simp[a1,a2]
 have M:=ml (n:=n+2) hN h (by rw[hb];decide) (by rw[hb];intro q hq;cases hq) hc hsg
 rw[hb,nil_append] at M
 apply FR.tail M
 repeat first|with_reducible (first|exact mJ hd|exact yB h.obj|exact sQ (f:=420)|exact sR|exact sS)|wtm_at "e"
theorem Gh(hN:1000000≤N)(h:LS c x H){d:UInt8}(hd:P.isDig d=false)(hl:P.isLet d=true)(hb:x.buf=[]):FR c (some (P.wordTok (P.span P.isNam x.r).1,(P.span P.isNam x.r).2)) (bj (aa N (n+8)) N D9 ⟨[some (.ref c.L),some (.int d.toNat)],H⟩) cS:=by
 apply FR.tail (kQ (n:=n+4) hN h hb)
 repeat first|with_reducible (first|exact mJ hd|exact Gf hl|exact Dy h.obj|exact sQ (f:=413)|exact sR|exact sS)|wtm_at "e"
theorem HN(h:LS c x H){t:Bs}(hr:x.r=45::t):FR c (some (((45,.non):P.Tok),t)) (bj (aa N (n+8)) N Gd ⟨[some (.ref c.L),some (.int (45:UInt8).toNat)],H⟩) cS:=by
 have q5:decide (((45:UInt8).toNat:Int)=45)=true:=by decide
 refine be (bn (N:=N) (n:=n+6) h hr) fun H1 e1 l3=>?_
 refine⟨H1++[cO (.int 45) .none],_,.ref H1.length,?w,?e,l3.app _,rfl,H1.length,rfl,al⟩
 rotate_left
 repeat first|with_reducible (first|apply aS q5|exact aI h.obj|exact e1 _|exact bu)|wtm_at "e"
theorem uS(h:LS c x H){d:UInt8}{t:Bs}(hr:x.r=d::t)(hn:([61,60,62,126]:List Int).any (·==(d.toNat:Int))=true):FR c (some (if P.hd? 61 t then(((P.cmpKind d,.non):P.Tok),t.tail) else(((d.toNat:Int),.non),t))) (bj (aa N (n+8)) N Gc ⟨[some (.ref c.L),some (.int d.toNat)],H⟩) cS:=by
 have l2:=h.app [O.tup [.int 61,.int 60,.int 62,.int 126]]
 apply FR.tail (qR (N:=N) (n:=n+5) l2 hr)
 repeat first|with_reducible (first|exact eN al IA hn|exact Dx l2.obj|exact sQ (f:=399)|exact sR|exact sS)|wtm_at "e"
theorem Gi(h:LS c x H){d:UInt8}{t:Bs}(hr:x.r=d::t)(hn:([61,60,62,126]:List Int).any (·==(d.toNat:Int))=false):FR c (some ((((d.toNat:Int),.non):P.Tok),t)) (bj (aa N (n+8)) N Gc ⟨[some (.ref c.L),some (.int d.toNat)],H⟩) cS:=by
 have l2:=h.app [O.tup [.int 61,.int 60,.int 62,.int 126]]
 refine be (bn (N:=N) (n:=n+6) l2 hr) fun H1 e1 l3=>?_
 refine⟨H1++[cO (.int d.toNat) .none],_,.ref H1.length,?w,?e,l3.app _,rfl,H1.length,rfl,al⟩
 rotate_left
 repeat first|with_reducible (first|exact eN al IA hn|exact aI l2.obj|exact e1 _|exact bu)|wtm_at "e"
theorem AI(hN:1000000≤N)(h:LS c x H){d:UInt8}{t:Bs}(hr:x.r=d::t)(hb:x.buf=[]):
  FR c (P.readTok (d::t)) (bj (aa N (n+8)) N Ge ⟨[some (.ref c.L),none],H⟩) cS:=by
 by_cases q1:d=34
 ·subst q1;exact IB hN h hr (.inl rfl) hb
 by_cases q2:d=39
 ·subst q2;exact IB hN h hr (.inr rfl) hb
 rw[Ja h hr q1 q2]
 have l1:=h.app [O.tup [.int 34,.int 39]]
 by_cases q3:d=91
 ·subst q3;exact HL hN l1 hr hb
 by_cases q4:d=46
 ·subst q4;exact HM hN l1 hr hb
 rw[Jb q3 q4]
 unfold P.readTok
 dsimp only
 rw[if_neg (by simp[q1,q2]),if_neg q3,if_neg q4]
 cases hd:P.isDig d with
 |true=>
  rw[if_pos rfl,←hr]
  exact Gg hN l1 hr hd hb
 |false=>
  rw[if_neg (by decide)]
  cases hl:P.isLet d with
  |true=>
   rw[if_pos rfl,←hr]
   exact Gh hN l1 hd hl hb
  |false=>
   rw[if_neg (by decide),Jc hd hl]
   by_cases q5:d=45
   ·subst q5;rw[if_pos rfl];exact HN l1 hr
   rw[if_neg q5,Jd q5]
   have ifo:∀(b:Bool) (u v:P.Tok×Bs),(if b=true then some u else some v)=some (if b=true then u else v):=fun b u v=>by cases b<;>rfl
   rw[ifo]
   by_cases q6:d=61
   ·subst q6;rw[if_pos (by simp)];exact uS l1 hr (by decide)
   by_cases q7:d=60
   ·subst q7;rw[if_pos (by simp)];exact uS l1 hr (by decide)
   by_cases q8:d=62
   ·subst q8;rw[if_pos (by simp)];exact uS l1 hr (by decide)
   by_cases q9:d=126
   ·subst q9;rw[if_pos (by simp)];exact uS l1 hr (by decide)
   rw[if_neg (by simp[q6,q7,q8,q9])]
   refine Gi l1 hr ?_
   show((61:Int)==(d.toNat:Int)||((60:Int)==(d.toNat:Int)||((62:Int)==(d.toNat:Int)||((126:Int)==(d.toNat:Int)||false))))=false
   rw[show((61:Int)==(d.toNat:Int))=false from bq (k:=61) q6,show((60:Int)==(d.toNat:Int))=false from bq (k:=60) q7,show((62:Int)==(d.toNat:Int))=false from bq (k:=62) q8,show((126:Int)==(d.toNat:Int))=false from bq (k:=126) q9]
   rfl
theorem AJ(hN:1000000≤N)(h:LS c x H):MR c (ahead x.r) (fun vs=>(aa N (n+9)).prim (.ref 371) [.ref c.L] ⟨vs,H⟩) cS:=by
 have hlen:=h.len
 have hrT:x.r.length≤c.T.length:=by
  obtain⟨u,hu⟩:=h.suf
  rw[hu];simp
 refine dc (l9 (N:=N) (n:=n+6) h) fun H1 bi e1 l1=>?_
 have B:=tz (n:=n) hN x.r.length N { x with buf:=[],bi:=bi } H1 (le_refl _) (by lia) rfl l1
 apply FR.mr dD rfl rfl rfl
 unfold ahead
 cases hs:P.skip x.r with
 |none=>
  rw[hs] at B
  refine ak B fun H' e2 k2=>?_
  show FR c (none:Option (P.Tok×Bs)) _ _
  refine⟨H',?_,k2⟩
  repeat first|with_reducible (first|exact jO h.obj|exact e1 _)|((with_reducible apply bp);exact e2)|wtm_at "e"
 |some s=>
  rw[hs] at B
  refine Bz B fun H2 x2 e2 l2 g1 g2=>?_
  have hb:bj (aa N (n+8)) N dD.body ⟨ar dD.names [.ref c.L],H⟩=bj (aa N (n+8)) N Ge ⟨[some (.ref c.L),none],H2⟩:=by
   repeat first|with_reducible exact jO h.obj|with_reducible exact e1 _|((with_reducible apply bp);exact e2)|((with_reducible apply lZ (A:=Ge))<;>exact rfl)|wtm_at "e"
  rw[hb]
  cases s with
  |nil=>
   have hsg:sgn x2.r= -1:=by rw[g1];rfl
   have e:decide ((-1:Int)= -1)=true:=by decide
   show FR c (some (((287,.non):P.Tok),([]:Bs))) _ _
   refine⟨H2++[cO (.int 287) .none],x2,.ref H2.length,[some (.ref c.L),none].set 1 (some (.int (-1))),?_,l2.app _,g1,⟨H2.length,rfl,al⟩⟩
   repeat first|with_reducible (first|exact ag l2.obj hsg|apply aS e|exact bu)|wtm_at "e"
  |cons d t=>exact AI hN l2 g1 g2
theorem AK{t:Tb}{o e:E}{m:Nat}{σ:St}(x:ev t e σ=.exc H):ex t N (.setA o m e) σ=.exc H:=by rw[tS,x];rfl
theorem Gj{i:Nat}(h:H[c.L]? =some (LF c a sg x))(hc:x.cur=.ref i):aX (aa N n) (.ref c.L) 8 ⟨vs,H⟩=.ok (.ref i) ⟨vs,H⟩:=by
 exact(eA h rfl rfl (by rw[hc];rfl)).trans (by rw[hc])
theorem uT(hN:1000000≤N)(h:LS c x H):MR c (ahead x.r) (fun vs=>(aa N (n+10)).prim (.ref 294) [.ref c.L] ⟨vs,H⟩) cS:=by
 have l1:=h.setObj (x':={ x with ll:=.int x.line }) rfl rfl h.suf h.line
 have R:=AJ (n:=n) hN l1
 have hp10:∀vs,aY (aa N (n+9)) (.ref c.L) 10 (.int x.line) ⟨vs,H⟩=.ok () ⟨vs,H.set c.L (LF c (c.T.length - x.r.length) (sgn x.r) { x with ll:=.int x.line })⟩:=fun vs=>Du h.obj
 cases ho:ahead x.r with
 |none=>
  rw[show ahead ({ x with ll:=.int x.line }:LX).r=none from ho] at R
  refine dx R fun H' e2 k2=>?_
  refine⟨H',fun vs=>?_,k2⟩
  apply dw ft rfl rfl rfl
  repeat first|with_reducible (first|exact fF h.obj|exact hp10 _|exact Bl l1.obj|apply AK (m:=8)|exact yA l1.obj|exact e2 _)|wtm_at "e"
 |some p=>
  rw[show ahead ({ x with ll:=.int x.line }:LX).r=some p from ho] at R
  obtain⟨H',x',v,e2,l2,g1,i,rfl,g2⟩:=R
  have l3:=l2.setObj (x':={ x' with cur:=.ref i }) rfl rfl l2.suf l2.line
  have hi:i≠c.L:=by
   rintro rfl
   rw[l2.obj] at g2
   injection g2 with g2
   injection g2 with g3
   exact absurd g3 (by decide)
  have hg8:=fun vs=>Gj (N:=N) (n:=n+9) (vs:=vs) l3.obj rfl
  have hp8:∀vs,aY (aa N (n+9)) (.ref c.L) 8 (.ref i) ⟨vs,H'⟩=.ok () ⟨vs,H'.set c.L (LF c (c.T.length - x'.r.length) (sgn x'.r) { x' with cur:=.ref i })⟩:=fun vs=>FT l2.obj
  refine⟨_,_,.ref i,fun vs=>?_,l3,g1,i,rfl,by rw[getElem?_set_ne (Ne.symm hi)];exact g2⟩
  apply aw ft rfl rfl rfl
  repeat first|with_reducible (first|exact fF h.obj|exact hp10 _|exact Bl l1.obj|exact yA l1.obj|exact e2 _|exact hp8 _|exact hg8 _)|wtm_at "e"
noncomputable def bO(H H':Hp):Prop:=∀(j:Nat) o,H[j]? =some o→H'[j]? =some o
theorem bO.refl(H:Hp):bO H H:=fun z z e=>e
theorem bO.trans{A B C:Hp}(h:bO A B)(g:bO B C):bO A C:=fun j o e=>g j o (h j o e)
theorem bO.app(H M:Hp):bO H (H++M):=fun j o e=>LS.app_inv e
theorem yT{m:Nat}{u:V}{fs:List (Nat×V)}{M:Hp}(hm:gH.contains m=true)(hl:fs.length≤100):aY (aa N n) (.ref H.length) m u ⟨vs,H++(.inst 472 fs::M)⟩=.ok () ⟨vs,H++(.inst 472 (jl m u fs)::M)⟩:=by
 have h:(H++(O.inst 472 fs::M))[H.length]? =some (.inst 472 fs):=by simp
 refine(i8 h hm hl).trans ?_
 congr 2
 simp[List.set_append]
theorem DO(hN:1000000≤N):(aa N (n+2)).prim (.ref 166) [.bytes [61,108,97,119]] ⟨vs,H⟩=.ok (.bytes [61,108,97,119]) ⟨vs,H⟩:=by
 obtain⟨m,rfl⟩:∃m,N=m+5:=⟨N - 5,by lia⟩
 rfl
theorem yU(hN:1000000≤N):(aa N (n+3)).prim (.ref 180) [.bytes [61,108,97,119],.int 80] ⟨vs,H⟩=.ok (.bytes [108,97,119]) ⟨vs,H⟩:=by
 have s1:∀σ:St,aZ (.bytes [61,108,97,119]) .none (.int 1) σ=.ok (.bytes [61]) σ:=fun σ=>rfl
 have s2:∀σ:St,aZ (.bytes [61,108,97,119]) (.int 1) (.int 80) σ=.ok (.bytes [108,97,119]) σ:=fun σ=>rfl
 have e:(([61]:Bs)==[61])=true:=rfl
 apply aw lB rfl rfl rfl
 repeat first|with_reducible (first|exact DO hN|exact s1 _|apply aS e|apply aA e|exact s2 _)|wtm_at "e"
theorem uU{fs:List (Nat×V)}:(aa N (n+1)).prim (.ref 245) [] ⟨vs,H++[.inst 472 fs]⟩=.ok (.ref (H.length+1)) ⟨vs,H++[.inst 472 fs,.dict ax]⟩:=by
 show af.ok (V.ref (H++[O.inst 472 fs]).length) ⟨vs,H++[O.inst 472 fs]++[.dict ax]⟩=_
 simp
theorem Gk{fs:List (Nat×V)}{o:O}:(aa N (n+1)).prim (.type "bytearray") [] ⟨vs,H++[.inst 472 fs,o]⟩=.ok (.ref (H.length+2)) ⟨vs,H++[.inst 472 fs,o,.ba []]⟩:=by
 rw[yo];simp
theorem Bt{fs:List (Nat×V)}{o o2:O}{k v:V}:(aa N (n+1)).prim (.ref 269) [k,v] ⟨vs,H++[.inst 472 fs,o,o2]⟩=.ok (.ref (H.length+3)) ⟨vs,H++[.inst 472 fs,o,o2,cO k v]⟩:=by
 rw[bu];simp
theorem AL(hN:1000000≤N){T:Bs}{lim:Nat}(hT:T.length≤500000):(aa N (n+4)).prim (.ref 472) [.bytes T,.bytes [61,108,97,119],.ref lim] ⟨vs,H⟩=
  .ok (.ref H.length) ⟨vs,H++[LF ⟨T,[61,108,97,119],[108,97,119],lim,H.length+1,H.length,fun z=>none⟩ ((T.length:Int) - T.length) (sgn T) ⟨T,[],1,.int 1,.ref (H.length+3),H.length+2⟩,.dict ax,.ba [],cO (.int 287) .none]⟩:=by
 show((bj (aa N (n+3)) N b9.body ⟨[some (.ref H.length),some (.bytes T),some (.bytes [61,108,97,119]),some (.ref lim)],H++[.inst 472 []]⟩).mk vs H.length)=_
 have hz:((T.length:Int) - T.length)=0:=by lia
 rw[hz]
 have hl6:T.length≤1000000:=bA hT rfl
 cases T with
 |nil=>
  apply DE
  have e:decide ((0:Int) < (([]:Bs).length:Int))=false:=by decide
  repeat first|with_reducible exact yU hN|with_reducible exact uU|with_reducible exact Gk|with_reducible exact Bt|with_reducible exact len_bytes hl6|with_reducible apply aA e|((with_reducible apply yT)<;>first|rfl|exact le_of_ble_eq_true rfl)|wtm_at "e"
 |cons d t=>
  apply DE
  have e:decide ((0:Int) < ((d::t:Bs).length:Int))=true:=by rw[decide_eq_true_eq,length_cons];lia
  have hi:=fun σ=>gw (t:=aa N (n+3)) (b:=d::t) (k:=(0:Int)) (σ:=σ) ⟨natCast_nonneg _,by simp only[length_cons];lia,hl6⟩
  have hg:(d::t).getD (0:Int).toNat 0=d:=rfl
  rw[hg] at hi
  repeat first|with_reducible exact yU hN|with_reducible exact uU|with_reducible exact Gk|with_reducible exact Bt|with_reducible exact len_bytes hl6|with_reducible apply aS e|with_reducible exact hi _|((with_reducible apply yT)<;>first|rfl|exact le_of_ble_eq_true rfl)|wtm_at "e"
noncomputable def upd(k:Nat→Option O)(j:Nat)(o:O):Nat→Option O:=fun i=>if i=j then some o else k i
theorem gA{k:Nat→Option O}{j:Nat}{o:O}:upd k j o j=some o:=if_pos rfl
theorem cu{k:Nat→Option O}{i j:Nat}{o:O}(h:i≠j):upd k j o i=k i:=if_neg h
theorem rf:(P.resKinds.all fun q=>decide (q.2≤277))=true:=by decide +kernel
theorem wj(w:Bs):(P.wordTok w).1≠287:=by
 unfold P.wordTok
 cases h:P.resKinds.lookup w with
 |none=>show(285:Int)≠287;decide
 |some k=>
  show k≠287
  have hm:∀{l:List (Bs×Int)},l.lookup w=some k→∃q∈l,q.2=k:=by
   intro l
   induction l with
   |nil=>intro h;cases h
   |cons q l ih=>
    obtain⟨a,b⟩:=q
    intro h
    rw[lookup_cons] at h
    split at h
    ·cases h;exact⟨(a,k),.head _,rfl⟩
    ·refine ak (ih h) fun q h1 h2=>?_
     exact⟨q,.tail _ h1,h2⟩
  refine ak (hm h) fun q h1 h2=>?_
  have:=all_eq_true.mp rf q h1
  rw[decide_eq_true_eq] at this
  lia
theorem Gl(d:UInt8):P.cmpKind d≠287:=by
 unfold P.cmpKind
 split
 ·decide
 ·split
  ·decide
  ·split<;>decide
theorem jg{r:Bs}{k:P.Tok}{v:Bs}(h:P.readTok r=some (k,v)):k.1≠287:=
 P.readTok_i (M:=fun r p=>p.1.1≠287) h (fun z z z z=>(by decide:(286:Int)≠287)) (fun z z z=>(by decide:(286:Int)≠287)) (fun c z z z z=>by show(c.toNat:Int)≠287;have:=c.toNat_lt;lia) (fun z z n h1 h2=>by show n≠287;lia) (fun z z=>(by decide:(279:Int)≠287)) (fun z z z=>(by decide:(284:Int)≠287)) (fun z z z z z=>(by decide:(284:Int)≠287)) fun z z z=>wj _
theorem LS.setF(h:LS c x H){F:Nat}{l:List V}(hF:c.keep F=some (.list l))(l':List V):LS { c with keep:=upd c.keep F (.list l') } x (H.set F (.list l')):=by
 refine jj (h.keep F _ hF) fun f1 f2 f3=>?_
 have hl:c.lim≠F:=by rintro q;have:=h.lim;rw[q,hF] at this;cases this
 have hk:c.kd≠F:=by rintro q;have:=h.kd;rw[q,hF] at this;cases this
 refine⟨by rw[getElem?_set_ne f2];exact h.obj,by rw[getElem?_set_ne f3];exact h.buf,h.ne,fun i o e=>?_,h.suf,h.len,h.line,(cu hl).trans h.lim,(cu hk).trans h.kd,h.chk⟩
 by_cases hi:i=F
 ·subst hi
  have e':upd c.keep i (.list l') i=some o:=e
  rw[gA] at e'
  cases e'
  exact⟨bX (ai f1),f2,f3⟩
 ·have e':upd c.keep F (.list l') i=some o:=e
  rw[cu hi] at e'
  refine jj (h.keep i o e') fun g1 g2 g3=>?_
  exact⟨by rw[getElem?_set_ne (Ne.symm hi)];exact g1,g2,g3⟩
theorem LS.addK(h:LS c x H){j:Nat}{o:O}(hj:H[j]? =some o)(h1:j≠c.L)(h2:j≠x.bi):LS { c with keep:=upd c.keep j o } x H:=by
 refine⟨h.obj,h.buf,h.ne,fun i o' e=>?_,h.suf,h.len,h.line,?_,?_,h.chk⟩
 ·have e':upd c.keep j o i=some o':=e
  by_cases hi:i=j
  ·subst hi
   rw[gA] at e';cases e'
   exact⟨hj,h1,h2⟩
  ·rw[cu hi] at e'
   exact h.keep i o' e'
 ·show upd c.keep j o c.lim=_
  by_cases q:c.lim=j
  ·rw[q,gA];rw[←q,h.limAt] at hj;exact hj.symm
  ·rw[cu q];exact h.lim
 ·show upd c.keep j o c.kd=_
  by_cases q:c.kd=j
  ·rw[q,gA];rw[←q,h.kdAt] at hj;exact hj.symm
  ·rw[cu q];exact h.kd
noncomputable def cM(H:Hp)(v:V)(t:P.Tok):Prop:=∃i,v=.ref i∧H[i]? =some (.tup [.int t.1,ny t.2])
theorem rh{i:Nat}{k:Int}{v:P.TV}(h:H[i]? =some (cO (.int k) (ny v))):aX (aa N n) (.ref i) 5 ⟨vs,H⟩=.ok (ny v) ⟨vs,H⟩:=by
 exact eA h rfl rfl (by cases v<;>rfl)
inductive Gm (c:LC) (F:Nat) (l:List V) (vs:Nat→aC) (tok:P.Tok) (ts:List P.Tok) (r:af Fl):Prop
 |mk (H':Hp) (l':List V) (i:Nat) (e:r=.ok .next ⟨vs i,H'⟩) (k:∀j o,j≠F→c.keep j=some o→H'[j]? =some o) (f:H'[F]? =some (.list (l++l'))) (a:aj (cM H') l' (tok::ts))
theorem Bu{c:LC}{F:Nat}{l:List V}{vs:Nat→aC}{tok:P.Tok}{ts:List P.Tok}{r:af Fl}{P:Prop}(h:Gm c F l vs tok ts r)(k:∀H' l' i,r=.ok .next ⟨vs i,H'⟩→(∀j o,j≠F→c.keep j=some o→H'[j]? =some o)→H'[F]? =some (.list (l++l'))→aj (cM H') l' (tok::ts)→P):P:=h.rec k
noncomputable def DP(c:LC)(F:Nat)(l:List V)(vs:Nat→aC)(tok:P.Tok)(o:Option (List P.Tok))(r:af Fl):Prop:=match o with
 |some ts=>Gm c F l vs tok ts r
 |none=>∃H',r=.exc H'∧(∀j o,j≠F→c.keep j=some o→H'[j]? =some o)
theorem wk(hN:1000000≤N)(k:Nat):∀(f:Nat) (c:LC) (x:LX) (H:Hp) (F:Nat) (l:List V) (tok:P.Tok) (i:Nat) (w0 w1 w2:V),x.r.length≤k→k+1 < f→LS c x H→c.keep F=some (.list l)→l.length+x.r.length≤900000→H[i]? =some (cO (.int tok.1) (ny tok.2))→tok.1≠287→
  DP c F l (fun i=>[some w0,some w1,some w2,some (.ref i),some (.ref c.L),some (.ref F)]) tok (P.lexAll x.r) (Wh (aa N (n+10)) N  (.cmp .NotEq (.attr (.loc 3) 6) (.con (.int 287))) (.cons (.expr (.meth (.loc 5) 2 (.cons (.tup (.cons (.attr (.loc 3) 6) (.cons (.attr (.loc 3) 5) .nil))) .nil))) (.cons (.asg 3 (.meth (.loc 4) 44 .nil)) .nil)) f ⟨[some w0,some w1,some w2,some (.ref i),some (.ref c.L),some (.ref F)],H⟩):=by
 induction k using strongRecOn with
 |ind k ih=>
 intro f c x H F l tok i w0 w1 w2 hk hf h hF hl hi ht
 obtain⟨f,rfl⟩:∃g,f=g+2:=⟨f - 2,by lia⟩
 let tp:O:=.tup [.int tok.1,ny tok.2]
 refine jj (h.keep F _ hF) fun f1 f2 f3=>?_
 have hFl:F≠H.length:=by have:=ai f1;exact ne_of_lt this
 have h1:=h.app [tp]
 have hj:(H++[tp])[H.length]? =some tp:=al
 have hjL:H.length≠c.L:=by have:=ai h.obj;exact ne_of_gt this
 have hjb:H.length≠x.bi:=by have:=ai h.buf;exact ne_of_gt this
 have l2:=(h1.addK hj hjL hjb).setF (F:=F) (l:=l) ((cu hFl).trans hF) (l++[.ref H.length])
 have hF1:(H++[tp])[F]? =some (.list l):=LS.app_inv f1
 have NX:=uT (n:=n) hN l2
 have e0:decide (tok.1=287)=false:=decide_eq_false ht
 have base:∀{H':Hp},Kp { c with keep:=upd (upd c.keep H.length tp) F (.list (l++[.ref H.length])) } H'→∀j o,j≠F→c.keep j=some o→H'[j]? =some o:=by
  intro H' kp j o hjF e
  refine kp j o ?_
  show upd (upd c.keep H.length tp) F _ j=some o
  have:j≠H.length:=by have:=ai (h.keep j o e).1;exact ne_of_lt this
  rw[cu hjF,cu this];exact e
 have hl6:l.length≤1000000:=iC hl rfl
 have e0':=jM e0
 have hmm:ay (aa N (n+10)) (.ref c.L) 44 ((H++[tp]).set F (.list (l++[.ref H.length])))=some (.fn 294 (.ref c.L)):=aR l2.obj (m:=44) (f:=294) rfl rfl
 rw[P.lexAll_step]
 have exc:ahead x.r=none→∃H',Wh (aa N (n+10)) N  (.cmp .NotEq (.attr (.loc 3) 6) (.con (.int 287))) (.cons (.expr (.meth (.loc 5) 2 (.cons (.tup (.cons (.attr (.loc 3) 6) (.cons (.attr (.loc 3) 5) .nil))) .nil))) (.cons (.asg 3 (.meth (.loc 4) 44 .nil)) .nil)) (f+2) ⟨[some w0,some w1,some w2,some (.ref i),some (.ref c.L),some (.ref F)],H⟩=.exc H'∧(∀j o,j≠F→c.keep j=some o→H'[j]? =some o):=by
  intro ha
  rw[show ahead x.r=none from ha] at NX
  refine dx NX fun H' e1 kp=>?_
  refine⟨H',?_,base kp⟩
  apply kh
  repeat first|with_reducible (first|exact jc hi|exact rh hi|exact e0'|exact fJ f1|exact gz hF1 hl6|exact hmm|exact e1 _)|wtm_at "e"
 have okk:∀t2 w,ahead x.r=some (t2,w)→∃H' x' i2,Wh (aa N (n+10)) N  (.cmp .NotEq (.attr (.loc 3) 6) (.con (.int 287))) (.cons (.expr (.meth (.loc 5) 2 (.cons (.tup (.cons (.attr (.loc 3) 6) (.cons (.attr (.loc 3) 5) .nil))) .nil))) (.cons (.asg 3 (.meth (.loc 4) 44 .nil)) .nil)) (f+2) ⟨[some w0,some w1,some w2,some (.ref i),some (.ref c.L),some (.ref F)],H⟩=Wh (aa N (n+10)) N  (.cmp .NotEq (.attr (.loc 3) 6) (.con (.int 287))) (.cons (.expr (.meth (.loc 5) 2 (.cons (.tup (.cons (.attr (.loc 3) 6) (.cons (.attr (.loc 3) 5) .nil))) .nil))) (.cons (.asg 3 (.meth (.loc 4) 44 .nil)) .nil)) (f+1) ⟨[some w0,some w1,some w2,some (.ref i2),some (.ref c.L),some (.ref F)],H'⟩∧LS { c with keep:=upd (upd c.keep H.length tp) F (.list (l++[.ref H.length])) } x' H'∧x'.r=w∧H'[i2]? =some (cO (.int t2.1) (ny t2.2)):=by
  intro t2 w ha
  rw[show ahead x.r=some (t2,w) from ha] at NX
  obtain⟨H',x',v,e1,l3,g1,i2,rfl,g2⟩:=NX
  refine⟨H',x',i2,?_,l3,g1,g2⟩
  apply dY
  repeat first|with_reducible (first|exact jc hi|exact rh hi|exact e0'|exact fJ f1|exact gz hF1 hl6|exact hmm|exact e1 _)|((with_reducible apply bp);exact rfl)|wtm_at "e"
 cases hs:P.skip x.r with
 |none=>
  obtain⟨H',e1,kp⟩:=exc (by unfold ahead;rw[hs];rfl)
  exact⟨H',e1,kp⟩
 |some s=>
  cases s with
  |nil=>
   obtain⟨H',x',i2,e1,l3,g1,g2⟩:=okk (287,.non) [] (by unfold ahead;rw[hs];rfl)
   refine⟨H',[.ref H.length],i2,?_,base l3.kp,l3.kp F _ gA,.cons ⟨H.length,rfl,l3.kp H.length _ ((cu (Ne.symm hFl)).trans gA)⟩ .nil⟩
   rw[e1]
   have e3:(!decide ((287:Int)=287))=false:=by decide
   apply bW
   repeat first|with_reducible (first|exact jc g2|exact e3)|wtm_at "e"
  |cons d t=>
   cases hr:P.readTok (d::t) with
   |none=>
    obtain⟨H',e1,kp⟩:=exc (by unfold ahead;rw[hs];exact hr)
    have:(some (d::t)).bind P.lexStep=none:=by
     show(P.readTok (d::t)).bind _=none
     rw[hr];rfl
    rw[this]
    exact⟨H',e1,kp⟩
   |some p=>
    obtain⟨t2,w⟩:=p
    obtain⟨H',x',i2,e1,l3,g1,g2⟩:=okk t2 w (by unfold ahead;rw[hs];exact hr)
    have hw:=P.readTok_le hr
    have hsk:=P.skip_le _ hs
    have IH:=ih x'.r.length (by rw[g1];lia) (f+1) _ x' H' F (l++[.ref H.length]) t2 i2 w0 w1 w2 (le_refl _) (by rw[g1];lia) l3 gA (by rw[g1];simp only[length_append,length_cons,length_nil];lia) g2 (jg hr)
    have:(some (d::t)).bind P.lexStep=(P.lexAll x'.r).map (t2::·):=by
     show(P.readTok (d::t)).bind _=_
     rw[hr,g1];rfl
    rw[this,e1]
    cases hla:P.lexAll x'.r with
    |none=>
     rw[hla] at IH
     refine ak IH fun H3 e4 k4=>?_
     refine⟨H3,e4,fun j o hjF e=>k4 j o hjF ?_⟩
     show upd (upd c.keep H.length tp) F _ j=some o
     have:j≠H.length:=by have:=ai (h.keep j o e).1;exact ne_of_lt this
     rw[cu hjF,cu this];exact e
    |some ts=>
     rw[hla] at IH
     refine Bu IH fun H3 l' i3 e4 k4 k5 k6=>?_
     refine⟨H3,.ref H.length::l',i3,e4,fun j o hjF e=>k4 j o hjF ?_,?_,.cons ⟨H.length,rfl,k4 H.length _ (Ne.symm hFl) ((cu (Ne.symm hFl)).trans gA)⟩ k6⟩
     ·show upd (upd c.keep H.length tp) F _ j=some o
      have:j≠H.length:=by have:=ai (h.keep j o e).1;exact ne_of_lt this
      rw[cu hjF,cu this];exact e
     ·rw[k5,append_assoc];rfl
end
noncomputable abbrev gT:Bs:=[61,108,97,119]
section
variable {N n:Nat}{H:Hp}{vs:aC}
noncomputable def d4(H:Hp):Nat→Option O:=fun i=>if i < H.length then H[i]? else if i=H.length+1 then some (.dict ax) else if i=H.length+4 then some (.list []) else none
noncomputable def AM(T:Bs)(lim:Nat)(H:Hp):LC:=⟨T,gT,[108,97,119],lim,H.length+1,H.length,d4 H⟩
noncomputable def zf(T:Bs)(H:Hp):LX:=⟨T,[],1,.int 1,.ref (H.length+3),H.length+2⟩
noncomputable def dq(T:Bs)(lim:Nat)(H:Hp):Hp:=H++[LF (AM T lim H) ((T.length:Int) - T.length) (sgn T) (zf T H),.dict ax,.ba [],cO (.int 287) .none,.list [],.tup [.ref H.length,.ref (H.length+4)]]
set_option tactic.hygienic true in
theorem Gn{T:Bs}{lim:Nat}(hT:T.length≤500000)(hlim:H[lim]? =some gv):LS (AM T lim H) (zf T H) (dq T lim H):=by
 have hl:=ai hlim
 refine⟨by simp[dq,AM,zf],by simp[dq,zf],by simp[zf,AM],fun i o e=>?_,⟨[],rfl⟩,hT,⟨by simp[zf],by simp[zf,AM];lia⟩,?_,?_,by simp[AM]⟩
 ·have e':d4 H i=some o:=e
  unfold d4 at e'
  split at e'
  ·rename_i h
   refine⟨by unfold dq;rw[getElem?_append_left h];exact e',by show i≠H.length;exact ne_of_lt h,by show i≠H.length+2;lia⟩
  ·split at e'
   ·rename_i h;subst h;cases e'
    exact⟨by simp[dq],by show H.length+1≠H.length;lia,by show H.length+1≠H.length+2;lia⟩
   ·split at e'
    ·rename_i h;subst h;cases e'
     exact⟨by simp[dq],by show H.length+4≠H.length;lia,by show H.length+4≠H.length+2;lia⟩
    ·cases e'
 ·show d4 H lim=_
  unfold d4
  rw[if_pos hl];exact hlim
 ·show d4 H (H.length+1)=_
  unfold d4
  rw[if_neg (by lia),if_pos rfl]
theorem gQ{j:Nat}{o:O}(e:H[j]? =some o):d4 H j=some o:=by
 unfold d4
 rw[if_pos (ai e)];exact e
theorem mn:d4 H (H.length+4)=some (.list []):=by
 unfold d4
 rw[if_neg (by lia),if_neg (by lia),if_pos rfl]
theorem DQ(hN:1000000≤N){T:Bs}{lim:Nat}(hT:T.length≤500000)(hlim:H[lim]? =some gv):
  match P.lexAll T with
  |none=>∃H',(∀vs,(aa N (n+11)).prim (.ref 483) [.bytes T,.bytes gT,.ref lim] ⟨vs,H⟩=.exc H')∧bO H H'
  |some ts=>∃H' F l,(∀vs,(aa N (n+11)).prim (.ref 483) [.bytes T,.bytes gT,.ref lim] ⟨vs,H⟩=.ok (.ref F) ⟨vs,H'⟩)∧bO H H'∧H'[F]? =some (.list l)∧aj (cM H') l ts:=by
 have LX:=fun vs=>AL (n:=n+6) (vs:=vs) (H:=H) (lim:=lim) hN hT
 have l0:=Gn (H:=H) hT hlim
 have s0:ex (aa N (n+10)) N (.unpk true [4,5] (.tup (.cons (.call (.con (.sta (.ref 472))) (.cons (.loc 0) (.cons (.loc 1) (.cons (.loc 2) .nil)))) (.cons (.list .nil) .nil)))) ⟨[some (.bytes T),some (.bytes gT),some (.ref lim),none,none,none],H⟩=.ok .next ⟨[some (.bytes T),some (.bytes gT),some (.ref lim),none,some (.ref H.length),some (.ref (H.length+4))],dq T lim H⟩:=by
  have e:dq T lim H=H++[LF ⟨T,[61,108,97,119],[108,97,119],lim,H.length+1,H.length,fun z=>none⟩ ((T.length:Int) - T.length) (sgn T) ⟨T,[],1,.int 1,.ref (H.length+3),H.length+2⟩,.dict ax,.ba [],cO (.int 287) .none]++[.list []]++[.tup [.ref H.length,.ref (H.length+4)]]:=by simp[dq,LF,AM,zf]
  have hl:H.length+4=(H++[LF ⟨T,[61,108,97,119],[108,97,119],lim,H.length+1,H.length,fun z=>none⟩ ((T.length:Int) - T.length) (sgn T) ⟨T,[],1,.int 1,.ref (H.length+3),H.length+2⟩,.dict ax,.ba [],cO (.int 287) .none]).length:=by simp
  rw[e,hl]
  repeat first|with_reducible exact LX _|((with_reducible apply yu)<;>exact yv al)|wtm_at "e"
 have hm':ay (aa N (n+10)) (.ref H.length) 44 (dq T lim H)=some (.fn 294 (.ref H.length)):=DC l0.obj
 have NX:=uT (n:=n) hN l0
 have exc:ahead T=none→∃H',(∀vs,(aa N (n+11)).prim (.ref 483) [.bytes T,.bytes gT,.ref lim] ⟨vs,H⟩=.exc H')∧bO H H':=by
  intro ha
  rw[show ahead (zf T H).r=none from ha] at NX
  refine dx NX fun H' e1 kp=>?_
  have e1':∀vs,(aa N (n+10)).prim (.ref 294) [.ref H.length] ⟨vs,dq T lim H⟩=.exc H':=e1
  refine⟨H',fun vs=>?_,fun j o e=>kp j o (gQ e)⟩
  apply dw aT rfl rfl rfl
  show bj _ _ (.cons _ _) ⟨[some (.bytes T),some (.bytes gT),some (.ref lim),none,none,none],H⟩=_
  repeat first|with_reducible (first|exact s0|exact hm'|exact e1' _)|wtm_at "e"
 have okk:∀t2 w,ahead T=some (t2,w)→∃H' x' i2,(∀vs,(aa N (n+10)).prim (.ref 294) [.ref H.length] ⟨vs,dq T lim H⟩=.ok (.ref i2) ⟨vs,H'⟩)∧LS (AM T lim H) x' H'∧x'.r=w∧H'[i2]? =some (cO (.int t2.1) (ny t2.2)):=by
  intro t2 w ha
  rw[show ahead (zf T H).r=some (t2,w) from ha] at NX
  obtain⟨H',x',v,e1,l3,g1,i2,rfl,g2⟩:=NX
  exact⟨H',x',i2,e1,l3,g1,g2⟩
 rw[P.lexAll_step]
 cases hs:P.skip T with
 |none=>exact exc (by unfold ahead;rw[hs];rfl)
 |some s=>
  cases s with
  |nil=>
   obtain⟨H',x',i2,e1,l3,g1,g2⟩:=okk (287,.non) [] (by unfold ahead;rw[hs];rfl)
   refine⟨H',H.length+4,[],fun vs=>?_,fun j o e=>l3.kp j o (gQ e),l3.kp _ _ mn,.nil⟩
   obtain⟨m,rfl⟩:∃m,N=m+1:=⟨N - 1,by lia⟩
   have e3:(!decide ((287:Int)=287))=false:=by decide
   apply aw aT rfl rfl rfl
   show bj _ _ (.cons _ _) ⟨[some (.bytes T),some (.bytes gT),some (.ref lim),none,none,none],H⟩=_
   repeat first|with_reducible (first|exact s0|exact hm'|exact e1 _|apply bW|exact jc g2|exact e3)|wtm_at "e"
  |cons d t=>
   cases hr:P.readTok (d::t) with
   |none=>
    have:(some (d::t)).bind P.lexStep=none:=by
     show(P.readTok (d::t)).bind _=none
     rw[hr];rfl
    rw[this]
    exact exc (by unfold ahead;rw[hs];exact hr)
   |some p=>
    obtain⟨t2,w⟩:=p
    obtain⟨H',x',i2,e1,l3,g1,g2⟩:=okk t2 w (by unfold ahead;rw[hs];exact hr)
    have hw:=P.readTok_le hr
    have hsk:=P.skip_le _ hs
    have IH:=wk (n:=n) hN x'.r.length N (AM T lim H) x' H' (H.length+4) [] t2 i2 (.bytes T) (.bytes gT) (.ref lim) (le_refl _) (by rw[g1];lia) l3 mn (by rw[g1];simp only[length_nil];lia) g2 (jg hr)
    have:(some (d::t)).bind P.lexStep=(P.lexAll x'.r).map (t2::·):=by
     show(P.readTok (d::t)).bind _=_
     rw[hr,g1];rfl
    rw[this]
    cases hla:P.lexAll x'.r with
    |none=>
     rw[hla] at IH
     refine ak IH fun H3 e4 k4=>?_
     refine⟨H3,fun vs=>?_,fun j o e=>k4 j o (by have:=ai e;lia) (gQ e)⟩
     apply dw aT rfl rfl rfl
     show bj _ _ (.cons _ _) ⟨[some (.bytes T),some (.bytes gT),some (.ref lim),none,none,none],H⟩=_
     repeat first|with_reducible (first|exact s0|exact hm'|exact e1 _)|((with_reducible apply bp);exact e4)|wtm_at "e"
    |some ts=>
     rw[hla] at IH
     refine Bu IH fun H3 l' i3 e4 k4 k5 k6=>?_
     refine⟨H3,H.length+4,l',fun vs=>?_,fun j o e=>k4 j o (by have:=ai e;lia) (gQ e),by simpa using k5,k6⟩
     apply aw aT rfl rfl rfl
     show bj _ _ (.cons _ _) ⟨[some (.bytes T),some (.bytes gT),some (.ref lim),none,none,none],H⟩=_
     repeat first|with_reducible (first|exact s0|exact hm'|exact e1 _)|((with_reducible apply bp);exact e4)|wtm_at "e"
end
structure TS(tr cl:Nat)(ns:List Int)(k:Nat)(H:Hp):Prop where
 tray:H[tr]? =some (.list [.ref cl,.int k])
 cells:H[cl]? =some (.list (ns.map .int))
 ne:cl≠tr
 len:ns.length≤100
noncomputable def jS(tr:Nat)(H H':Hp):Prop:=∀(j:Nat) o,j≠tr→H[j]? =some o→H'[j]? =some o
theorem jS.refl(tr:Nat)(H:Hp):jS tr H H:=fun z z z e=>e
theorem jS.trans{tr:Nat}{A B C:Hp}(h:jS tr A B)(g:jS tr B C):jS tr A C:=fun j o q e=>g j o q (h j o q e)
theorem bO.t{tr:Nat}{A B:Hp}(h:bO A B):jS tr A B:=fun j o z e=>h j o e
theorem TS.ext{tr cl:Nat}{ns:List Int}{k:Nat}{H H':Hp}(h:TS tr cl ns k H)(e:bO H H'):TS tr cl ns k H':=⟨e _ _ h.tray,e _ _ h.cells,h.ne,h.len⟩
section
variable {N n:Nat}{H:Hp}{vs:aC}{tr cl k:Nat}{ns:List Int}
theorem Gp{i:Int}{σ:St}:(aa N (n+1)).prim (.type "int") [.int i] σ=.ok (.int i) σ:=by
 rw[oR,EV];rfl
theorem DR{i:Int}{σ:St}:(aa N (n+1)).prim (.builtin "abs") [.int i] σ=.ok (.int (if i < 0 then -i else i)) σ:=by
 rw[gu (by decide),Bg];rfl
theorem Bv{i j:Int}{σ:St}(h:j≠0):dy .Mod (.int i) (.int j) σ=.ok (.int (i.fmod j)) σ:=by
 show ofOpt σ (if _ then _ else _)=_
 rw[if_pos h];rfl
theorem DS{i:Int}{σ:St}:dy .FloorDiv (.int i) (.int 2) σ=.ok (.int (i.fdiv 2)) σ:=by
 have h:(2:Int)=2∨(2:Int)=10:=.inl rfl
 show ofOpt σ (if(2:Int)=2∨(2:Int)=10 then some (V.int (i.fdiv 2)) else none)=_
 rw[if_pos h];rfl
theorem DT{j:Int}{σ:St}:dy .Mult (.int 5) (.int j) σ=.ok (.int (5 * j)) σ:=by
 have h:(5:Int).natAbs≤16∨j.natAbs≤16:=.inl (by decide)
 show ofOpt σ (if(5:Int).natAbs≤16∨j.natAbs≤16 then some (V.int (5 * j)) else none)=_
 rw[if_pos h];rfl
theorem Gq{k j i:Nat}{a b:V}(h:H[i]? =some (.list [a,b])):cG false [k,j] (.ref i) ⟨vs,H⟩=.ok .next ⟨(vs.set k (some a)).set j (some b),H⟩:=by
 exact ef ((congrArg (Option.bind · nS) h).trans rfl)
theorem jT(h:TS tr cl ns k H){many:Nat}(hm:0 < many):∃r:Nat,r < many∧(∀vs,(aa N (n+2)).prim (.ref 491) [.ref tr,.int many] ⟨vs,H⟩=.ok (.int r) ⟨vs,H.set tr (.list [.ref cl,.int (k+1:Nat)])⟩)∧TS tr cl ns (k+1) (H.set tr (.list [.ref cl,.int (k+1:Nat)])):=by
 have hlt:=ai h.tray
 have hs:=@bX H (.list [.ref cl,.int (k+1:Nat)]) tr hlt
 have hc:(H.set tr (.list [.ref cl,.int (k+1:Nat)]))[cl]? =some (.list (ns.map .int)):=by rw[getElem?_set_ne (Ne.symm h.ne)];exact h.cells
 have hlen:=h.len
 have hT:TS tr cl ns (k+1) (H.set tr (.list [.ref cl,.int (k+1:Nat)])):=⟨hs,hc,h.ne,h.len⟩
 have hn0:((many:Int)≠0):=by lia
 have hst:∀vs,cU (.ref tr) (.int 1) (.int ((k:Int)+1)) ⟨vs,H⟩=.ok () ⟨vs,H.set tr (.list [.ref cl,.int (k+1:Nat)])⟩:=fun vs=>by
  exact(fS h.tray).trans (if_pos ⟨by decide,by simp,by simp⟩)
 have rng:∀i:Int,0≤i.fmod many∧i.fmod many < many:=fun i=>⟨Int.fmod_nonneg_of_pos _ (zh hm),Int.fmod_lt_of_pos _ (zh hm)⟩
 have hl:∀vs,(aa N (n+1)).prim (.builtin "len") [.ref cl] ⟨vs,H.set tr (.list [.ref cl,.int (k+1:Nat)])⟩=.ok (.int ns.length) ⟨vs,H.set tr (.list [.ref cl,.int (k+1:Nat)])⟩:=fun vs=>by
  rw[qF hc (by simp;exact bA hlen rfl)];simp
 by_cases hk:k < ns.length
 ·have e:decide ((k:Int) < (ns.length:Int))=true:=by rw[decide_eq_true_eq];exact zh hk
  have hi:∀vs,cf (aa N (n+1)) (.ref cl) (.int k) ⟨vs,H.set tr (.list [.ref cl,.int (k+1:Nat)])⟩=.ok (.int ns[k]) ⟨vs,H.set tr (.list [.ref cl,.int (k+1:Nat)])⟩:=fun vs=>by
   refine(fS hc).trans ?_
   rw[if_pos (by lia),toNat_natCast,getElem?_map,getElem?_eq_getElem hk]
   rfl
  obtain⟨g1,g2⟩:=rng (if ns[k] < 0 then -ns[k] else ns[k])
  refine⟨((if ns[k] < 0 then -ns[k] else ns[k]).fmod many).toNat,by lia,fun vs=>?_,hT⟩
  rw[Int.toNat_of_nonneg g1]
  apply aw eK rfl rfl rfl
  repeat first|((with_reducible apply yu)<;>exact Gq h.tray)|with_reducible exact hst _|with_reducible exact hl _|with_reducible apply aS e|with_reducible exact hi _|with_reducible exact Gp|with_reducible exact DR|with_reducible exact Bv hn0|wtm_at "e"
 ·have e:decide ((k:Int) < (ns.length:Int))=false:=by rw[decide_eq_false_iff_not];lia
  obtain⟨g1,g2⟩:=rng (5 * (k:Int)+(k:Int).fdiv 2+3)
  refine⟨((5 * (k:Int)+(k:Int).fdiv 2+3).fmod many).toNat,by lia,fun vs=>?_,hT⟩
  rw[Int.toNat_of_nonneg g1]
  apply aw eK rfl rfl rfl
  repeat first|((with_reducible apply yu)<;>exact Gq h.tray)|with_reducible exact hst _|with_reducible exact hl _|with_reducible apply aA e|with_reducible exact DT|with_reducible exact DS|with_reducible exact Bv hn0|wtm_at "e"
theorem wl:pieces=P.piecesP:=rfl
theorem wm:pieces.length=28:=rfl
theorem yV(left:Nat):∀(f k j cc:Nat) (cur:Int) (H:Hp) (ps:List Bs),left < f→TS tr cl ns k H→tr < j→cl < j→cc < j→cc≠tr→H[cc]? =some (.cell (.ref tr))→H[j]? =some (.riter cur left)→H[j+1]? =some (.list (ps.map .bytes))→H[j+2]? =some .space→ps.length+left≤1000→
  ∃H' qs k',dB (fun vs σ=>(aa N (n+2)).prim (.ref 491) vs σ) (pieces.map .bytes) cc j f ⟨vs,H⟩=.ok () ⟨vs,H'⟩∧TS tr cl ns k' H'∧(∀i o,i < j→i≠tr→H[i]? =some o→H'[i]? =some o)∧H'[j+1]? =some (.list ((ps++qs).map .bytes))∧H'[j+2]? =some .space∧qs.length=left∧(∀q∈qs,q∈pieces):=by
 induction left with
 |zero=>
  intro f k j cc cur H ps hf h ht hcl hcc hct h1 h2 h3 h4 hl
  cases f with
  |zero=>exact dI hf
  |succ f=>
  refine⟨H,[],k,?_,h,fun i o z z e=>e,by simpa using h3,h4,rfl,fun q hq=>by cases hq⟩
  unfold dB
  dsimp only
  rw[xl h2,r8 h4]
  rfl
 |succ left ih=>
  intro f k j cc cur H ps hf h ht hcl hcc hct h1 h2 h3 h4 hl
  cases f with
  |zero=>exact dI hf
  |succ f=>
  let H0:Hp:=(H.set j (.riter (cur+1) ((left+1:Nat) - 1))).set (j+2) .space
  have k0:∀i o,i < j→H[i]? =some o→H0[i]? =some o:=fun i o hi e=>by
   simp only[H0]
   rw[getElem?_set_ne (by lia),getElem?_set_ne (ne_of_gt hi)];exact e
  have t0:TS tr cl ns k H0:=⟨k0 _ _ ht h.tray,k0 _ _ hcl h.cells,h.ne,h.len⟩
  refine eP (jT (N:=N) (n:=n) t0 (many:=28) (by decide)) fun r r1 r2 r3=>?_
  let H1:Hp:=H0.set tr (.list [.ref cl,.int (k+1:Nat)])
  have j1:H1[j+1]? =some (.list (ps.map .bytes)):=by
   simp only[H1,H0]
   rw[getElem?_set_ne (by lia),getElem?_set_ne (by lia),getElem?_set_ne (by lia)];exact h3
  have j0:H1[j]? =some (.riter (cur+1) left):=by
   simp only[H1,H0]
   rw[getElem?_set_ne (ne_of_lt ht),getElem?_set_ne (by lia),bX (ai h2)]
   simp
  have j2:H1[j+2]? =some .space:=by
   simp only[H1,H0]
   rw[getElem?_set_ne (by lia),bX (by rw[List.length_set];exact ai h4)]
  have hr:r < pieces.length:=by rw[wm];exact r1
  have hp:(pieces.map V.bytes)[r]? =some (.bytes pieces[r]):=by rw[getElem?_map,getElem?_eq_getElem hr];rfl
  let H2:Hp:=H1.set (j+1) (.list (ps.map .bytes++[.bytes pieces[r]]))
  have kk:∀i o,i < j→i≠tr→H[i]? =some o→H2[i]? =some o:=fun i o hi ht' e=>by
   simp only[H2,H1]
   rw[getElem?_set_ne (by lia),getElem?_set_ne (Ne.symm ht')];exact k0 i o hi e
  have t2:TS tr cl ns (k+1) H2:=⟨by simp only[H2];rw[getElem?_set_ne (by lia)];exact r3.tray,by simp only[H2];rw[getElem?_set_ne (by lia)];exact r3.cells,h.ne,h.len⟩
  obtain⟨H',qs,k',a1,a2,a3,a4,a5,a6,a7⟩:=ih f (k+1) j cc (cur+1) H2 (ps++[pieces[r]]) (lt_of_succ_lt_succ hf) t2 ht hcl hcc hct (kk cc _ hcc hct h1) (by simp only[H2];rw[getElem?_set_ne (by lia)];exact j0) (by simp only[H2];rw[bX (ai j1)];simp) (by simp only[H2];rw[getElem?_set_ne (by lia)];exact j2) (by simp;exact u7 hl rfl)
  refine⟨H',pieces[r]::qs,k',?_,a2,fun i o hi ht' e=>a3 i o hi ht' (kk i o hi ht' e),by rw[a4];simp,a5,by simp[a6],fun q hq=>?_⟩
  ·have hle:¬(((left+1:Nat):Int)≤0):=by lia
   have r2':(aa N (n+2)).prim (.ref 491) [.ref tr,.int 28] ⟨vs,(H.set j (.riter (cur+1) ((left+1:Nat) - 1))).set (j+2) .space⟩=.ok (.int r) ⟨vs,H1⟩:=r2 vs
   unfold dB
   dsimp only
   rw[xl h2,r8 h4,if_neg hle,xm h1,if_pos ⟨ne_of_lt hcc,by lia⟩,r2',bind_ok]
   rw[A9,if_pos (by lia),toNat_natCast,ef hp,fS j1,if_pos (by simp;exact iC hl rfl)]
   exact a1
  ·rcases mem_cons.mp hq with rfl|hq
   ·exact List.getElem_mem hr
   ·exact a7 q hq
theorem hV:∀ps:List Bs,fq (ps.map .bytes)=some ps
 | []=>rfl
 |p::ps=>by
  show(fq (ps.map .bytes)).map (p::·)=_
  rw[hV ps];rfl
theorem nD:∀ps:List Bs,cP [] ps=ps.flatten
 | []=>rfl
 |p::ps=>by
  show p++ps.flatMap ([]++·)=_
  rw[flatten_cons]
  congr 1
  rw[List.flatMap_def]
  congr 1
  exact(List.map_congr_left (g:=id) (fun z z=>nil_append _)).trans (List.map_id _)
theorem ri(f:Bs→Nat):∀(ps:List Bs) (m:Nat),ps.foldl (fun n p=>n+p.length) m=m+ps.flatten.length
 | [],m=>by simp
 |p::ps,m=>by rw[foldl_cons,ri f ps];simp;lia
theorem yW{i:Nat}{ps:List Bs}{sep:Bs}(h:H[i]? =some (.list (ps.map .bytes)))(h1:sep.length * (ps.length - 1)+ps.flatten.length≤1000000)(h2:(cP sep ps).length≤1000000):aD "bytes.join" (.bytes sep) [.ref i] ⟨vs,H⟩=.ok (.bytes (cP sep ps)) ⟨vs,H⟩:=by
 rw[Ac]
 refine(fS h).trans ?_
 rw[hV]
 exact if_pos ⟨by rw[ri (fun b=>b.length)];exact h1,h2⟩
theorem yX(vs:List V)(σ:St):(aP N).prim (.ref 496) vs σ=xK (fun vs σ=>(aa N 19).prim (.ref 491) vs σ) (pieces.map .bytes) N vs σ:=rfl
theorem rj(hN:1000000≤N)(h:TS tr cl ns k H){most:Nat}(hm:0 < most)(hm2:most≤7):∃(H':Hp) (qs:List Bs) (k':Nat),(∀vs,(aP N).prim (.ref 496) [.ref tr,.int most] ⟨vs,H⟩=.ok (.bytes qs.flatten) ⟨vs,H'⟩)∧TS tr cl ns k' H'∧jS tr H H'∧qs.length < most∧∀q∈qs,q∈P.piecesP:=by
 have htr:=ai h.tray
 have hcl:=ai h.cells
 have t0:TS tr cl ns k (H++[.cell (.ref tr)]):=h.ext (bO.app _ _)
 refine eP (jT (N:=N) (n:=17) t0 hm) fun r r1 r2 r3=>?_
 let H1:Hp:=(H++[O.cell (.ref tr)]).set tr (.list [.ref cl,.int (k+1:Nat)])
 have hL1:H1.length=H.length+1:=by simp[H1]
 have c1:H1[H.length]? =some (.cell (.ref tr)):=by
  simp only[H1]
  rw[getElem?_set_ne (ne_of_lt htr)];simp
 let H2:Hp:=H1++[.riter 0 r]++[.list []]++[.space]
 have up:∀i o,H1[i]? =some o→H2[i]? =some o:=fun i o e=>by
  simp only[H2]
  exact LS.app_inv (LS.app_inv (LS.app_inv e))
 have i0:H2[H1.length]? =some (.riter 0 r):=by simp[H2]
 have i1:H2[H1.length+1]? =some (.list (([]:List Bs).map .bytes)):=by simp[H2]
 have i2:H2[H1.length+2]? =some .space:=by simp[H2]
 have t2:TS tr cl ns (k+1) H2:=⟨up _ _ r3.tray,up _ _ r3.cells,h.ne,h.len⟩
 obtain⟨H3,qs,k',a1,a2,a3,a4,a5,a6,a7⟩:=yV (N:=N) (n:=17) (vs:=[some (.int most)]) (tr:=tr) (cl:=cl) (ns:=ns) r N (k+1) H1.length H.length 0 H2 [] (by lia) t2 (by lia) (by lia) (Ie hL1) (ne_of_gt htr) (up _ _ c1) i0 i1 i2 (by simp;lia)
 have hq:∀q∈qs,q∈P.piecesP:=fun q hq=>by rw[←wl];exact a7 q hq
 have hlen:=(P.rows_ok hq (by lia)).2
 have hj:aD "bytes.join" (.bytes []) [.ref (H1.length+1)] ⟨[some (.int most)],H3⟩=.ok (.bytes qs.flatten) ⟨[some (.int most)],H3⟩:=by
  rw[yW (by simpa using a4) (by rw[length_nil,Nat.zero_mul];lia) (by rw[nD];exact bA hlen rfl),nD]
 refine⟨H3,qs,k',fun vs=>?_,a2,fun j o hj' e=>?_,IU a6 r1,hq⟩
 ·rw[yX]
  unfold xK
  dsimp only[l2,l1,l0]
  have hlc:D6 (fun vs σ=>(aa N 19).prim (.ref 491) vs σ) (pieces.map .bytes) H.length N (.int most) ⟨[some (.int most)],H++[O.cell (.ref tr)]⟩=.ok (.ref (H1.length+1)) ⟨[some (.int most)],H3⟩:=by
   have r2':(aa N 19).prim (.ref 491) [.ref tr,.int most] ⟨[some (.int most)],H++[O.cell (.ref tr)]⟩=.ok (.int r) ⟨[some (.int most)],H1⟩:=r2 _
   have a1':dB (fun vs σ=>(aa N 19).prim (.ref 491) vs σ) (pieces.map .bytes) H.length H1.length N ⟨[some (.int most)],H1++[.riter 0 r]++[.list []]++[.space]⟩=.ok () ⟨[some (.int most)],H3⟩:=a1
   refine(congrArg af.only ((xm al).trans ?_)).trans n8
   dsimp only
   rw[r2',n8,bind_ok,A9,if_pos (by lia),a1',n8,bind_ok,r8 a5]
  rw[hlc,bind_ok,bind_ok,hj]
  rfl
 ·have hjl:=ai e
  have e1:H1[j]? =some o:=by
   simp only[H1]
   rw[getElem?_set_ne (Ne.symm hj')]
   exact LS.app_inv e
  exact a3 j o (by lia) hj' (up _ _ e1)
theorem yY{i m:Nat}{u:V}{fs:List (Nat×V)}(h:H[i]? =some (.inst 53 fs))(hm:fu.contains m=true)(hl:fs.length≤100):aY (aa N n) (.ref i) m u ⟨vs,H⟩=.ok () ⟨vs,H.set i (.inst 53 (jl m u fs))⟩:=by
 exact i8 h hm hl
theorem DU{m:Nat}{u:V}{fs:List (Nat×V)}(hm:fu.contains m=true)(hl:fs.length≤100):aY (aa N n) (.ref H.length) m u ⟨vs,H++[.inst 53 fs]⟩=.ok () ⟨vs,H++[.inst 53 (jl m u fs)]⟩:=by
 rw[yY al hm hl]
 congr 2
 simp
theorem Gr{m:Nat}{w u:V}{σ σ1:St}{t:Tb}(h:aY t w m u σ=.ok () σ1):aY t w m u σ=.ok () σ1:=h
theorem yZ:(aa N (n+1)).prim (.ref 53) [] ⟨vs,H⟩=.ok (.ref H.length) ⟨vs,H++[gv]⟩:=by
 show((bj (aa N n) N fB ⟨[some (.ref H.length),some (.int 64),some (.int 250),some (.int 60),some (.int 200),some (.int 40),some (.int 200),some (.int 2000),some (.int 50),some (.int 1000000000),some (.int 1000000)],H++[.inst 53 []]⟩).mk vs H.length)=_
 have e:bj (aa N n) N fB ⟨[some (.ref H.length),some (.int 64),some (.int 250),some (.int 60),some (.int 200),some (.int 40),some (.int 200),some (.int 2000),some (.int 50),some (.int 1000000000),some (.int 1000000)],H++[.inst 53 []]⟩=.ok .next ⟨[some (.ref H.length),some (.int 64),some (.int 250),some (.int 60),some (.int 200),some (.int 40),some (.int 200),some (.int 2000),some (.int 50),some (.int 1000000000),some (.int 1000000)],H++[gv]⟩:=by
  show bj _ _ (.cons _ _) _=_
  repeat first|((with_reducible apply Gr)<;>(apply DU)<;>first|exact rfl|decide)|wtm_at "e"
 rw[e];rfl
theorem y0(hN:1000000≤N){T:Bs}(hT:T.length≤500000):
  match P.lexAll T with
  |none=>∃H',(∀vs,(aP N).prim (.ref 503) [.bytes T] ⟨vs,H⟩=.ok .none ⟨vs,H'⟩)∧bO H H'
  |some ts=>∃H' F l,(∀vs,(aP N).prim (.ref 503) [.bytes T] ⟨vs,H⟩=.ok (.ref F) ⟨vs,H'⟩)∧bO H H'∧H'[F]? =some (.list l)∧aj (cM H') l ts:=by
 have hp:∀vs0,(aP N).prim (.ref 503) [.bytes T] ⟨vs0,H⟩=jA vs0 ((fL (aa N 19) dH ⟨[some (.bytes T)],H⟩).only.bind fun ws σ1=>((aa N 19).prim (.ref 483) ws σ1).bind fun v σ2=>.ok (.ret v) σ2):=fun z=>rfl
 have ha:fL (aa N 19) dH ⟨[some (.bytes T)],H⟩=.ok [.bytes T,.bytes gT,.ref H.length] ⟨[some (.bytes T)],H++[gv]⟩:=by
  show fL _ (.cons _ _) _=_
  repeat first|with_reducible exact yZ (n:=18)|wtm_at "e"
 have A:=DQ (n:=8) (H:=H++[gv]) hN hT (lim:=H.length) al
 cases hl:P.lexAll T with
 |none=>
  rw[hl] at A
  refine ak A fun H' e1 e2=>?_
  refine⟨H',fun vs=>?_,fun j o e=>e2 j o (LS.app_inv e)⟩
  rw[hp,ha]
  show jA vs (((aa N 19).prim (.ref 483) [.bytes T,.bytes gT,.ref H.length] ⟨[some (.bytes T)],H++[gv]⟩).bind fun v σ2=>.ok (.ret v) σ2)=_
  have e1':(aa N 19).prim (.ref 483) [.bytes T,.bytes gT,.ref H.length] ⟨[some (.bytes T)],H++[gv]⟩=.exc H':=e1 _
  rw[e1']
  rfl
 |some ts=>
  rw[hl] at A
  refine gR A fun H' F l e1 e2 e3 e4=>?_
  refine⟨H',F,l,fun vs=>?_,fun j o e=>e2 j o (LS.app_inv e),e3,e4⟩
  rw[hp,ha]
  show jA vs (((aa N 19).prim (.ref 483) [.bytes T,.bytes gT,.ref H.length] ⟨[some (.bytes T)],H++[gv]⟩).bind fun v σ2=>.ok (.ret v) σ2)=_
  have e1':(aa N 19).prim (.ref 483) [.bytes T,.bytes gT,.ref H.length] ⟨[some (.bytes T)],H++[gv]⟩=.ok (.ref F) ⟨[some (.bytes T)],H'⟩:=e1 _
  rw[e1']
  rfl
end
noncomputable abbrev qS:S:=(.forB 2 (.loc 0) (.cons (.ite (.cmp .In (.loc 2) (.con (.bytes [34,92,10]))) (.cons (.expr (.meth (.loc 1) 3 (.cons (.list (.cons (.con (.int 92)) (.cons (.loc 2) .nil))) .nil))) .nil) (.cons (.ite (.cmp .Eq (.loc 2) (.con (.int 13))) (.cons (.expr (.meth (.loc 1) 3 (.cons (.con (.bytes [92,114])) .nil))) .nil) (.cons (.ite (.cmp .Eq (.loc 2) (.con (.int 0))) (.cons (.expr (.meth (.loc 1) 3 (.cons (.con (.bytes [92,48,48,48])) .nil))) .nil) (.cons (.expr (.meth (.loc 1) 2 (.cons (.loc 2) .nil))) .nil)) .nil)) .nil)) .nil))
noncomputable abbrev qB:Ss:=(.cons (.ite (.cmp .In (.loc 2) (.con (.bytes [34,92,10]))) (.cons (.expr (.meth (.loc 1) 3 (.cons (.list (.cons (.con (.int 92)) (.cons (.loc 2) .nil))) .nil))) .nil) (.cons (.ite (.cmp .Eq (.loc 2) (.con (.int 13))) (.cons (.expr (.meth (.loc 1) 3 (.cons (.con (.bytes [92,114])) .nil))) .nil) (.cons (.ite (.cmp .Eq (.loc 2) (.con (.int 0))) (.cons (.expr (.meth (.loc 1) 3 (.cons (.con (.bytes [92,48,48,48])) .nil))) .nil) (.cons (.expr (.meth (.loc 1) 2 (.cons (.loc 2) .nil))) .nil)) .nil)) .nil)) .nil)
section
variable {N n:Nat}{H:Hp}{vs:aC}
theorem Gs{i j:Nat}{l m:List V}(h:H[i]? =some (.list l))(h2:H[j]? =some (.list m))(hl:l.length+m.length≤1000000):aD "list.extend" (.ref i) [.ref j] ⟨vs,H⟩=.ok .none ⟨vs,H.set i (.list (l++m))⟩:=by
 rw[mY];exact(fS h).trans ((fS h2).trans (if_pos hl))
theorem Bw{i:Nat}{l:List V}{b:Bs}(h:H[i]? =some (.list l))(hl:l.length+b.length≤1000000):aD "list.extend" (.ref i) [.bytes b] ⟨vs,H⟩=.ok .none ⟨vs,H.set i (.list (l++lv b))⟩:=by
 rw[mY];exact(fS h).trans (if_pos hl)
theorem mo(a b:Bs):lv a++lv b=lv (a++b):=by unfold lv;simp
inductive HO (i:Nat) (H:Hp) (l:List V) (vs:aC) (r:af Fl):Prop
 |mk (H':Hp) (e:r=.ok .next ⟨vs,H'⟩) (g:H'[i]? =some (.list l)) (k:∀j o,j≠i→H[j]? =some o→H'[j]? =some o)
theorem Bx{i:Nat}{H:Hp}{l:List V}{vs:aC}{r:af Fl}{P:Prop}(h:HO i H l vs r)(k:∀H',r=.ok .next ⟨vs,H'⟩→H'[i]? =some (.list l)→(∀j o,j≠i→H[j]? =some o→H'[j]? =some o)→P):P:=h.rec k
theorem DV{i:Nat}{acc:Bs}{d:UInt8}{w0:V}(h:H[i]? =some (.list (lv acc)))(hl:acc.length≤900000):
  HO i H (lv (acc++P.qc d)) [some w0,some (.ref i),some (.int d.toNat)] (bj (aa N (n+1)) N qB ⟨[some w0,some (.ref i),some (.int d.toNat)],H⟩):=by
 have hlt:=ai h
 have fin:∀(M:Hp) (q:Bs),(((H++M).set i (.list (lv (acc++q))))[i]? =some (.list (lv (acc++q))))∧∀j o,j≠i→H[j]? =some o→((H++M).set i (.list (lv (acc++q))))[j]? =some o:=fun M q=>
  ⟨bX (by rw[length_append];lia),fun j o hj e=>by rw[getElem?_set_ne (Ne.symm hj)];exact LS.app_inv e⟩
 by_cases h1:d=34∨d=92∨d=10
 ·have hq:P.qc d=[92,d]:=by unfold P.qc;rw[if_pos h1]
  have hc:([34,92,10]:Bs).contains d=true:=by rcases h1 with rfl|rfl|rfl<;>decide
  have hj:(H++[O.list [.int 92,.int d.toNat]])[H.length]? =some (.list [.int 92,.int d.toNat]):=al
  have hi:(H++[O.list [.int 92,.int d.toNat]])[i]? =some (.list (lv acc)):=LS.app_inv h
  have he:lv acc++[.int 92,.int d.toNat]=lv (acc++[92,d]):=by rw[←mo];rfl
  rw[hq]
  refine⟨_,?_,(fin [O.list [.int 92,.int d.toNat]] [92,d]).1,(fin [O.list [.int 92,.int d.toNat]] [92,d]).2⟩
  have x:∀vs,aD "list.extend" (.ref i) [.ref H.length] ⟨vs,H++[O.list [.int 92,.int d.toNat]]⟩=.ok .none ⟨vs,(H++[O.list [.int 92,.int d.toNat]]).set i (.list (lv (acc++[92,d])))⟩:=fun vs=>by
   rw[Gs hi hj (by rw[gy];simp;exact bA hl rfl),he]
  show bj _ _ (.cons _ _) _=_
  repeat first|with_reducible (first|exact d0|apply aS hc|exact oX h|exact x _)|wtm_at "e"
 ·have hc:([34,92,10]:Bs).contains d=false:=by
   simp only[not_or] at h1
   simp[h1]
  by_cases h2:d=13
  ·have hq:P.qc d=[92,114]:=by unfold P.qc;rw[if_neg h1,if_pos h2]
   rw[hq]
   have e13:decide ((d.toNat:Int)=13)=true:=by rw[h2];rfl
   have:=fin [] [92,114]
   rw[append_nil] at this
   refine⟨_,?_,this.1,this.2⟩
   have x:∀vs,aD "list.extend" (.ref i) [.bytes [92,114]] ⟨vs,H⟩=.ok .none ⟨vs,H.set i (.list (lv (acc++[92,114])))⟩:=fun vs=>by
    rw[Bw h (by rw[gy];simp;exact bA hl rfl:(lv acc).length+([92,114]:Bs).length≤1000000),mo]
   show bj _ _ (.cons _ _) _=_
   repeat first|with_reducible (first|exact d0|apply aA hc|apply aS e13|exact oX h|exact x _)|wtm_at "e"
  ·have e13:decide ((d.toNat:Int)=13)=false:=eO (k:=13) h2
   by_cases h3:d=0
   ·have hq:P.qc d=[92,48,48,48]:=by unfold P.qc;rw[if_neg h1,if_neg h2,if_pos h3]
    rw[hq]
    have e0:decide ((d.toNat:Int)=0)=true:=by rw[h3];rfl
    have:=fin [] [92,48,48,48]
    rw[append_nil] at this
    refine⟨_,?_,this.1,this.2⟩
    have x:∀vs,aD "list.extend" (.ref i) [.bytes [92,48,48,48]] ⟨vs,H⟩=.ok .none ⟨vs,H.set i (.list (lv (acc++[92,48,48,48])))⟩:=fun vs=>by
     rw[Bw h (by rw[gy];simp;exact bA hl rfl:(lv acc).length+([92,48,48,48]:Bs).length≤1000000),mo]
    show bj _ _ (.cons _ _) _=_
    repeat first|with_reducible (first|exact d0|apply aA hc|apply aA e13|apply aS e0|exact oX h|exact x _)|wtm_at "e"
   ·have hq:P.qc d=[d]:=by unfold P.qc;rw[if_neg h1,if_neg h2,if_neg h3]
    rw[hq]
    have e0:decide ((d.toNat:Int)=0)=false:=eO (k:=0) h3
    have:=fin [] [d]
    rw[append_nil] at this
    have he:lv acc++[.int d.toNat]=lv (acc++[d]):=by rw[←mo];rfl
    refine⟨_,?_,this.1,this.2⟩
    have x:∀vs,aD "list.append" (.ref i) [.int d.toNat] ⟨vs,H⟩=.ok .none ⟨vs,H.set i (.list (lv (acc++[d])))⟩:=fun vs=>by
     rw[gz h (by rw[gy];exact bA hl rfl:(lv acc).length≤1000000),he]
    show bj _ _ (.cons _ _) _=_
    repeat first|with_reducible (first|exact d0|apply aA hc|apply aA e13|apply aA e0|exact fJ h|exact x _)|wtm_at "e"
theorem tA(d:UInt8):(P.qc d).length≤4:=by
 unfold P.qc
 split
 ·simp
 ·split
  ·simp
  ·split<;>simp
theorem DW(b:Bs)(it:Nat)(w0:V)(i:Nat)(hii:it≠i)(r:Bs):∀(k:Nat) (acc:Bs) (H:Hp) (w:Option V),acc.length+4 * r.length≤900000→H[i]? =some (.list (lv acc))→H[it]? =some (.biter b k)→
  ∃H' w',eS it b 2 (fun σ=>bj (aa N (n+1)) N qB σ) r k ⟨[some w0,some (.ref i),w],H⟩=.ok .next ⟨[some w0,some (.ref i),w'],H'⟩∧H'[i]? =some (.list (lv (acc++r.flatMap P.qc)))∧∀j o,j≠i→j≠it→H[j]? =some o→H'[j]? =some o:=by
 induction r with
 |nil=>
  intro k acc H w hl h hit
  refine⟨H.set it .gone,w,?_,?_,fun j o h1 h2 e=>by rw[getElem?_set_ne (Ne.symm h2)];exact e⟩
  ·exact tY hit
  ·rw[getElem?_set_ne hii];simpa using h
 |cons d r ih=>
  intro k acc H w hl h hit
  have hi1:(H.set it (.biter b (k+1)))[i]? =some (.list (lv acc)):=by rw[getElem?_set_ne hii];exact h
  simp only[length_cons] at hl
  refine Bx (DV (N:=N) (n:=n) (d:=d) (w0:=w0) hi1 (iC hl rfl)) fun H1 e1 h1 k1=>?_
  have hq:=tA d
  obtain⟨H2,w',e2,h2,k2⟩:=ih (k+1) (acc++P.qc d) H1 (some (.int d.toNat)) (by rw[length_append];lia) h1 (k1 it _ hii (bX (ai hit)))
  refine⟨H2,w',?_,by rw[h2,flatMap_cons,append_assoc],fun j o j1 j2 e=>k2 j o j1 j2 (k1 j o j1 (by rw[getElem?_set_ne (Ne.symm j2)];exact e))⟩
  exact(tY hit).trans ((xf e1).trans e2)
theorem AN{b:Bs}(hl:b.length≤200000):∃H',(∀vs,(aa N (n+2)).prim (.ref 187) [.bytes b] ⟨vs,H⟩=.ok (.bytes (P.quoteB b)) ⟨vs,H'⟩)∧bO H H':=by
 have h0:(H++[O.list [.int 34]]++[O.biter b 0])[H.length]? =some (.list (lv [34])):=uD
 have h1:(H++[O.list [.int 34]]++[O.biter b 0])[(H++[O.list [.int 34]]).length]? =some (.biter b 0):=al
 obtain⟨H1,w',e1,g1,g2⟩:=DW (N:=N) (n:=n) b (H++[O.list [.int 34]]).length (.bytes b) H.length (by simp) b 0 [34] _ none (by simp;lia) h0 h1
 have hfl:(b.flatMap P.qc).length≤4 * b.length:=by
  have:∀r:Bs,(r.flatMap P.qc).length≤4 * r.length:=by
   intro r
   induction r with
   |nil=>simp
   |cons d r ih=>rw[flatMap_cons,length_append,length_cons];have:=tA d;lia
  exact this b
 have hfin:=@bX H1 (.list (lv ([34]++b.flatMap P.qc++[34]))) H.length (ai g1)
 have he:lv ([34]++b.flatMap P.qc)++[.int 34]=lv ([34]++b.flatMap P.qc++[34]):=by rw[←mo _ [34]];rfl
 refine⟨H1.set H.length (.list (lv ([34]++b.flatMap P.qc++[34]))),fun vs=>?_,fun j o e=>?_⟩
 ·have s1:ex (aa N (n+1)) N qS ⟨[some (.bytes b),some (.ref H.length),none],H++[.list [.int 34]]⟩=.ok .next ⟨[some (.bytes b),some (.ref H.length),w'],H1⟩:=by
   show(if b.length≤1000000 then eS _ b 2 _ b 0 _ else _)=_
   rw[if_pos (bA hl rfl)]
   exact e1
  have x:∀vs,aD "list.append" (.ref H.length) [.int 34] ⟨vs,H1⟩=.ok .none ⟨vs,H1.set H.length (.list (lv ([34]++b.flatMap P.qc++[34])))⟩:=fun vs=>by
   rw[gz g1 (by rw[gy,length_append];show 1+_≤_;lia),he]
  have y:∀vs,(aa N (n+1)).prim (.type "bytes") [.ref H.length] ⟨vs,H1.set H.length (.list (lv ([34]++b.flatMap P.qc++[34])))⟩=.ok (.bytes (P.quoteB b)) ⟨vs,H1.set H.length (.list (lv ([34]++b.flatMap P.qc++[34])))⟩:=fun vs=>by
   rw[dX hfin (by rw[length_append,length_append];show 1+_+1≤_;lia)];rfl
  apply aw t8 rfl rfl rfl
  show bj _ _ (.cons _ (.cons qS _)) ⟨[some (.bytes b),none,none],H⟩=_
  repeat first|exact s1|with_reducible (first|exact fJ g1|exact x _|exact y _)|wtm_at "e"
 ·have hj:=ai e
  rw[getElem?_set_ne (ne_of_gt hj)]
  exact g2 j o (ne_of_lt hj) (by simp;lia) (LS.app_inv (LS.app_inv e))
noncomputable abbrev wB:Ss:=(.cons (.ite (.cmp .Eq (.loc 3) (.con (.int 286))) (.cons (.expr (.meth (.loc 2) 2 (.cons (.call (.con (.sta (.ref 187))) (.cons (.loc 4) .nil)) .nil))) .nil) (.cons (.ite (.cmp .Eq (.loc 3) (.con (.int 284))) (.cons (.expr (.meth (.loc 2) 2 (.cons (.call (.con (.sta (.ref 152))) (.cons (.loc 4) .nil)) .nil))) .nil) (.cons (.ite (.cmp .Eq (.loc 3) (.con (.int 285))) (.cons (.expr (.meth (.loc 2) 2 (.cons (.loc 4) .nil))) .nil) (.cons (.expr (.meth (.loc 2) 2 (.cons (.ite (.cmp .Gt (.loc 3) (.con (.int 256))) (.call (.con (.sta (.ref 252))) (.cons (.loc 3) .nil)) (.call (.con (.sta (.type "bytes"))) (.cons (.list (.cons (.loc 3) .nil)) .nil))) .nil))) .nil)) .nil)) .nil)) .nil)
theorem jh:∀m,m < 27→P.kindText ((257+m:Nat):Int)=dZ.getD m []:=by decide +kernel
theorem DX{F:Nat}{l:List V}{w0 w1:V}{tok:P.Tok}(hN:1000000≤N)(g:P.Good tok)(ht:P.tvLen tok≤200000)(h:H[F]? =some (.list l))(hl:l.length≤900000):
  HO F H (l++[.bytes (P.written tok)]) [some w0,some w1,some (.ref F),some (.int tok.1),some (ny tok.2)] (bj (aa N (n+2)) N wB ⟨[some w0,some w1,some (.ref F),some (.int tok.1),some (ny tok.2)],H⟩):=by
 have hlt:=ai h
 have fin:∀(H1:Hp) (b:Bs),bO H H1→((H1.set F (.list (l++[.bytes b])))[F]? =some (.list (l++[.bytes b])))∧∀j o,j≠F→H[j]? =some o→(H1.set F (.list (l++[.bytes b])))[j]? =some o:=fun H1 b e=>
  ⟨bX (ai (e _ _ h)),fun j o hj q=>by rw[getElem?_set_ne (Ne.symm hj)];exact e _ _ q⟩
 have hm:=fJ (N:=N) (n:=n+2) h
 cases g with
 |str b=>
  refine ak (AN (N:=N) (n:=n) (H:=H) (b:=b) ht) fun H1 e1 x1=>?_
  refine⟨_,?_,(fin H1 (P.quoteB b) x1).1,(fin H1 (P.quoteB b) x1).2⟩
  have e1':∀vs,(aa N (n+2)).prim (.ref 187) [ny (.txt b)] ⟨vs,H⟩=.ok (.bytes (P.quoteB b)) ⟨vs,H1⟩:=e1
  dsimp only
  show bj _ _ (.cons _ _) _=_
  have hx:=x1 _ _ h
  have e:decide ((286:Int)=286)=true:=by decide
  repeat first|with_reducible (first|apply aS e|exact hm|exact e1' _|exact gz hx ((bA hl rfl):l.length≤1000000))|wtm_at "e"
 |num m h0 h1=>
  obtain⟨k,rfl⟩:∃k:Nat,m=k:=⟨m.toNat,by lia⟩
  refine ak (ma (N:=N) (n:=n) (H:=H) (k:=k) (by lia) hN) fun M e1 y=>?_
  have ew:P.written (284,.num (k:Int))=P.natDigits k:=by show P.natDigits (k:Int).toNat=_;rw[toNat_natCast]
  rw[ew]
  refine⟨_,?_,(fin (H++M) (P.natDigits k) (bO.app _ _)).1,(fin (H++M) (P.natDigits k) (bO.app _ _)).2⟩
  have e1':∀vs,(aa N (n+2)).prim (.ref 152) [ny (.num k)] ⟨vs,H⟩=.ok (.bytes (P.natDigits k)) ⟨vs,H++M⟩:=e1
  dsimp only
  show bj _ _ (.cons _ _) _=_
  have hx:=bO.app H M _ _ h
  have e:decide ((284:Int)=286)=false:=by decide
  have e2:decide ((284:Int)=284)=true:=by decide
  repeat first|with_reducible (first|apply aA e|apply aS e2|exact hm|exact e1' _|exact gz hx ((bA hl rfl):l.length≤1000000))|wtm_at "e"
 |name b q1 q2 q3=>
  have ew:P.written (285,.txt b)=b:=rfl
  rw[ew]
  refine⟨_,?_,(fin H b (bO.refl _)).1,(fin H b (bO.refl _)).2⟩
  have e1':∀vs,aD "list.append" (.ref F) [ny (.txt b)] ⟨vs,H⟩=.ok .none ⟨vs,H.set F (.list (l++[.bytes b]))⟩:=fun vs=>gz h ((bA hl rfl):l.length≤1000000)
  dsimp only
  show bj _ _ (.cons _ _) _=_
  have e:decide ((285:Int)=286)=false:=by decide
  have e2:decide ((285:Int)=284)=false:=by decide
  have e3:decide ((285:Int)=285)=true:=by decide
  repeat first|with_reducible (first|apply aA e|apply aA e2|apply aS e3|exact hm|exact e1' _)|wtm_at "e"
 |word k h1 h2=>
  obtain⟨m,rfl⟩:∃m:Nat,k=((257+m:Nat):Int):=⟨(k - 257).toNat,by lia⟩
  have ew:P.written (((257+m:Nat):Int),.non)=dZ.getD m []:=jh m (by lia)
  have e1:=fun vs=>jd (N:=N) (n:=n) (vs:=vs) (H:=H) (k:=257+m) (le_add_right _ _) (by lia)
  rw[show 257+m - 257=m by lia] at e1
  rw[ew]
  refine⟨_,?_,(fin H _ (bO.refl _)).1,(fin H _ (bO.refl _)).2⟩
  generalize ((257+m:Nat):Int)=z at *
  have e:decide (z=286)=false:=by rw[decide_eq_false_iff_not];lia
  have e2:decide (z=284)=false:=by rw[decide_eq_false_iff_not];lia
  have e3:decide (z=285)=false:=by rw[decide_eq_false_iff_not];lia
  have e4:decide ((256:Int) < z)=true:=by rw[decide_eq_true_eq];lia
  dsimp only
  show bj _ _ (.cons _ _) _=_
  repeat first|with_reducible (first|apply aA e|apply aA e2|apply aA e3|apply aS e4|exact hm|exact e1 _|exact gz h ((bA hl rfl):l.length≤1000000))|wtm_at "e"
 |sgn d hd=>
  have:=d.toNat_lt
  have ew:P.written ((d.toNat:Int),.non)=[d]:=by
   show P.kindText (d.toNat:Int)=_
   unfold P.kindText
   rw[if_neg (by lia),toNat_natCast,UInt8.ofNat_toNat]
  rw[ew]
  have x1:bO H (H++[O.list [.int d.toNat]]):=bO.app _ _
  have hb:(H++[O.list [.int d.toNat]])[H.length]? =some (.list (([d]:Bs).map fun c=>V.int c.toNat)):=al
  refine⟨_,?_,(fin (H++[O.list [.int d.toNat]]) [d] x1).1,(fin (H++[O.list [.int d.toNat]]) [d] x1).2⟩
  have e:decide (((d.toNat:Int))=286)=false:=by rw[decide_eq_false_iff_not];lia
  have e2:decide (((d.toNat:Int))=284)=false:=by rw[decide_eq_false_iff_not];lia
  have e3:decide (((d.toNat:Int))=285)=false:=by rw[decide_eq_false_iff_not];lia
  have e4:decide ((256:Int) < ((d.toNat:Int)))=false:=by rw[decide_eq_false_iff_not];lia
  dsimp only
  show bj _ _ (.cons _ _) _=_
  have hx:=x1 _ _ h
  repeat first|with_reducible (first|apply aA e|apply aA e2|apply aA e3|apply aA e4|exact hm|exact dX hb (by simp:([d]:Bs).length≤1000000)|exact gz hx ((bA hl rfl):l.length≤1000000))|wtm_at "e"
theorem AO{H:Hp}{l:List V}{ts:List P.Tok}(z:aj (cM H) l ts):((l.zip l).all fun p=>wM p.1 p.2)=true:=by
 induction z with
 |nil=>rfl
 |cons h _ ih=>
  refine ak h fun i q91 _=>?_;obtain rfl:=q91
  rw[zip_cons_cons,all_cons,ih]
  exact(Bool.and_true _).trans (decide_eq_true (rfl:i=i))
set_option tactic.hygienic true in
theorem DY(hN:1000000≤N)(a it F:Nat)(h1:it≠F)(h2:a≠F)(h3:a≠it)(w0 w1:V)(L:List V)(hL:((L.zip L).all fun p=>wM p.1 p.2)=true):∀(r:List V) (ts:List P.Tok) (k:Nat) (acc:List Bs) (H:Hp) (u1 u2:Option V),aj (fun v t=>cM H v t∧∀i,v=.ref i→i≠F∧i≠it) r ts→(∀t∈ts,P.Good t∧P.tvLen t≤200000)→acc.length+ts.length≤900000→H[F]? =some (.list (acc.map .bytes))→H[it]? =some (.liter a k)→H[a]? =some (.list L)→
  ∃H' v1 v2,eT it a 3 4 L (fun σ=>bj (aa N (n+2)) N wB σ) r k ⟨[some w0,some w1,some (.ref F),u1,u2],H⟩=.ok .next ⟨[some w0,some w1,some (.ref F),v1,v2],H'⟩∧H'[F]? =some (.list ((acc++ts.map P.written).map .bytes))∧∀j o,j≠F→j≠it→H[j]? =some o→H'[j]? =some o:=by
 intro r
 induction r with
 |nil=>
  intro ts k acc H u1 u2 hr hg hl hF hit ha
  cases hr
  refine⟨H.set it .gone,u1,u2,?_,by rw[getElem?_set_ne h1];simpa using hF,fun j o _ j2 e=>by rw[getElem?_set_ne (Ne.symm j2)];exact e⟩
  exact tZ hit ha hL
 |cons v r ih=>
  intro ts k acc H u1 u2 hr hg hl hF hit ha
  cases hr with
  |cons hv hr=>
  rename_i t ts
  obtain⟨⟨i,rfl,hi⟩,hne⟩:=hv
  obtain⟨i1,i2⟩:=hne i rfl
  have hF1:(H.set it (.liter a (k+1)))[F]? =some (.list (acc.map .bytes)):=by rw[getElem?_set_ne h1];exact hF
  simp only[length_cons] at hl
  obtain⟨g1,g2⟩:=hg t (.head _)
  refine Bx (DX (n:=n) (w0:=w0) (w1:=w1) hN g1 g2 hF1 (by simp;exact iC hl rfl)) fun H1 e1 f1 k1=>?_
  have kk:∀j o,j≠F→j≠it→H[j]? =some o→H1[j]? =some o:=fun j o j1 j2 e=>k1 j o j1 (by rw[getElem?_set_ne (Ne.symm j2)];exact e)
  have mono:∀{r ts},aj (fun v t=>cM H v t∧∀i,v=.ref i→i≠F∧i≠it) r ts→aj (fun v t=>cM H1 v t∧∀i,v=.ref i→i≠F∧i≠it) r ts:=by
   intro r ts h
   induction h with
   |nil=>exact .nil
   |cons h _ ih=>
    obtain⟨⟨i,rfl,hi⟩,hn⟩:=h
    exact .cons ⟨⟨i,rfl,kk i _ (hn i rfl).1 (hn i rfl).2 hi⟩,hn⟩ ih
  obtain⟨H2,v1,v2,e2,f2,k2⟩:=ih ts (k+1) (acc++[P.written t]) H1 (some (.int t.1)) (some (ny t.2)) (mono hr) (fun t' ht'=>hg t' (.tail _ ht')) (by simp;exact u7 hl rfl) (by simpa using f1) (k1 it _ h1 (bX (ai hit))) (kk a _ h2 h3 ha)
  refine⟨H2,v1,v2,?_,by rw[f2];simp,fun j o j1 j2 e=>k2 j o j1 j2 (kk j o j1 j2 e)⟩
  refine(tZ hit ha hL).trans ((ef (a:=[.int t.1,ny t.2]) ((congrArg (Option.bind · nS) hi).trans rfl)).trans ?_)
  show Ev (bj (aa N (n+2)) N wB _) _=_
  exact(xf e1).trans e2
noncomputable abbrev wS:S:=(.for2 3 4 (.loc 0) (.cons (.ite (.cmp .Eq (.loc 3) (.con (.int 286))) (.cons (.expr (.meth (.loc 2) 2 (.cons (.call (.con (.sta (.ref 187))) (.cons (.loc 4) .nil)) .nil))) .nil) (.cons (.ite (.cmp .Eq (.loc 3) (.con (.int 284))) (.cons (.expr (.meth (.loc 2) 2 (.cons (.call (.con (.sta (.ref 152))) (.cons (.loc 4) .nil)) .nil))) .nil) (.cons (.ite (.cmp .Eq (.loc 3) (.con (.int 285))) (.cons (.expr (.meth (.loc 2) 2 (.cons (.loc 4) .nil))) .nil) (.cons (.expr (.meth (.loc 2) 2 (.cons (.ite (.cmp .Gt (.loc 3) (.con (.int 256))) (.call (.con (.sta (.ref 252))) (.cons (.loc 3) .nil)) (.call (.con (.sta (.type "bytes"))) (.cons (.list (.cons (.loc 3) .nil)) .nil))) .nil))) .nil)) .nil)) .nil)) .nil))
theorem uV:∀(sep:Bs) (ps:List Bs),cP sep ps=P.joinS sep ps:=fun sep ps=>by cases ps<;>rfl
theorem wn(sep:Bs):∀ps:List Bs,(cP sep ps).length≤ps.flatten.length+sep.length * ps.length
 | []=>zero_le _
 |p::ps=>by
  have key:∀ps:List Bs,(ps.flatMap (sep++·)).length=ps.flatten.length+sep.length * ps.length:=by
   intro ps
   induction ps with
   |nil=>rfl
   |cons q ps ih=>
    rw[flatMap_cons,length_append,ih,flatten_cons,length_append,length_append,length_cons,Nat.mul_succ]
    lia
  show(p++ps.flatMap (sep++·)).length≤_
  rw[length_append,key,flatten_cons,length_append,length_cons,Nat.mul_succ]
  lia
theorem rk(m:Nat):∀ps:List Bs,(∀p∈ps,p.length≤m)→ps.flatten.length≤ps.length * m
 | [],_=>zero_le _
 |p::ps,h=>by
  have h1:=h p (.head _)
  have h2:=rk m ps fun q hq=>h q (.tail _ hq)
  rw[flatten_cons,length_append,length_cons,Nat.succ_mul]
  lia
theorem wo(b:Bs):(P.quoteB b).length≤4 * b.length+2:=by
 have:∀r:Bs,(r.flatMap P.qc).length≤4 * r.length:=by
  intro r
  induction r with
  |nil=>simp
  |cons d r ih=>rw[flatMap_cons,length_append,length_cons];have:=tA d;lia
 have h:=this b
 unfold P.quoteB
 rw[length_cons,length_append]
 show(b.flatMap P.qc).length+1+1≤_
 lia
theorem rl{t:P.Tok}(g:P.Good t):(P.written t).length≤4 * P.tvLen t+30:=by
 cases g with
 |str b=>
  have:=wo b
  show(P.quoteB b).length≤4 * b.length+30
  lia
 |num m h0 h1=>
  refine ak (ma (N:=1000000) (n:=0) (H:=[]) (k:=m.toNat) (by lia) (le_refl _)) fun M z e=>?_
  show(P.natDigits m.toNat).length≤_
  lia
 |name b q1 q2 q3=>
  show b.length≤4 * b.length+30
  lia
 |word k h1 h2=>
  obtain⟨m,rfl⟩:∃m:Nat,k=((257+m:Nat):Int):=⟨(k - 257).toNat,by lia⟩
  have ew:P.written (((257+m:Nat):Int),.non)=dZ.getD m []:=jh m (by lia)
  rw[ew]
  have:=nr m
  lia
 |sgn d hd=>
  have:=d.toNat_lt
  show(P.kindText (d.toNat:Int)).length≤_
  unfold P.kindText
  rw[if_neg (by lia)]
  show 1≤_
  exact le_add_left _ _
theorem wq{b:Bs}:ay (aa N n) (.bytes b) 45 H=some (.prim "bytes.join" (.bytes b)):=by
 unfold ay;rw[i7];rfl
theorem gB{α β:Type}{R:α→β→Prop}{l:List α}{m:List β}(h:aj R l m):l.length=m.length:=by
 induction h with
 |nil=>rfl
 |cons _ _ ih=>simp[ih]
theorem tB(hN:1000000≤N){a:Nat}{L:List V}{ts:List P.Tok}{gap:Bs}(ha:H[a]? =some (.list L))(hL:aj (cM H) L ts)(hg:∀t∈ts,P.Good t∧P.tvLen t≤100)(hn:ts.length≤200)(hgap:gap.length≤20):
  ∃H',(∀vs,(aa N (n+3)).prim (.ref 510) [.ref a,.bytes gap] ⟨vs,H⟩=.ok (.bytes (P.joinS gap (ts.map P.written))) ⟨vs,H'⟩)∧bO H H'∧(P.joinS gap (ts.map P.written)).length≤500000:=by
 have hal:=ai ha
 have x0:bO H (H++[O.list []]++[O.liter a 0]):=(bO.app _ _).trans (bO.app _ _)
 have h0:(H++[O.list []]++[O.liter a 0])[H.length]? =some (.list (([]:List Bs).map .bytes)):=uD
 have h1:(H++[O.list []]++[O.liter a 0])[(H++[O.list []]).length]? =some (.liter a 0):=al
 have mono:∀{r ts},aj (cM H) r ts→aj (fun v t=>cM (H++[O.list []]++[O.liter a 0]) v t∧∀i,v=.ref i→i≠H.length∧i≠(H++[O.list []]).length) r ts:=by
  intro r ts h
  induction h with
  |nil=>exact .nil
  |cons h _ ih=>
   refine ak h fun i q91 hi=>?_;obtain rfl:=q91
   have:=ai hi
   exact .cons ⟨⟨i,rfl,x0 _ _ hi⟩,fun j q=>by cases q;exact⟨ne_of_lt this,by simp;lia⟩⟩ ih
 obtain⟨H1,v1,v2,e1,f1,k1⟩:=DY (n:=n) hN a (H++[O.list []]).length H.length (by simp) (ne_of_lt hal) (by simp;lia) (.ref a) (.bytes gap) L (AO hL) L ts 0 [] _ none none (mono hL) (fun t ht=>⟨(hg t ht).1,by have:=(hg t ht).2;exact bA this rfl⟩) (by simp;exact bA hn rfl) h0 h1 (x0 _ _ ha)
 have hml:(ts.map P.written).length=ts.length:=by simp
 have hfl:=rk 430 (ts.map P.written) (fun p hp=>by
  refine ak (mem_map.mp hp) fun t ht q92=>?_;obtain rfl:=q92
  have:=rl (hg t ht).1
  have:=(hg t ht).2
  lia)
 rw[hml] at hfl
 have hjl:=wn gap (ts.map P.written)
 rw[hml] at hjl
 have hmul:gap.length * ts.length≤20 * 200:=Nat.mul_le_mul hgap hn
 have hmul2:ts.length * 430≤200 * 430:=Nat.mul_le_mul_right _ hn
 have hmul3:gap.length * ((ts.map P.written).length - 1)≤20 * 200:=Nat.mul_le_mul hgap (by lia)
 have hj:∀ws,aD "bytes.join" (.bytes gap) [.ref H.length] ⟨ws,H1⟩=.ok (.bytes (P.joinS gap (ts.map P.written))) ⟨ws,H1⟩:=fun ws=>by
  rw[yW (ps:=ts.map P.written) f1 (by lia) (by lia),uV]
 refine⟨H1,fun vs=>?_,fun j o e=>?_,?_⟩
 ·have s1:ex (aa N (n+2)) N wS ⟨[some (.ref a),some (.bytes gap),some (.ref H.length),none,none],H++[.list []]⟩=.ok .next ⟨[some (.ref a),some (.bytes gap),some (.ref H.length),v1,v2],H1⟩:=by
   have ha1:(H++[O.list []])[a]? =some (.list L):=LS.app_inv ha
   show(match (H++[O.list []])[a]? with
    |some (.list l)=>eT _ a 3 4 l _ l 0 _
    |_=>.stuck:af Fl)=_
   rw[ha1]
   exact e1
  apply aw gb rfl rfl rfl
  show bj _ _ (.cons _ (.cons wS _)) ⟨[some (.ref a),some (.bytes gap),none,none,none],H⟩=_
  repeat first|exact s1|with_reducible (first|exact wq|exact hj _)|wtm_at "e"
 ·have hj:=ai e
  exact k1 j o (ne_of_lt hj) (by simp;lia) (x0 _ _ e)
 ·rw[←uV]
  lia
end
section
open Builtin
noncomputable def nE:P.TV→Str
 | .non=>"None"
 | .num i=>toString i
 | .txt b=>Bytes.literal b.toArray
noncomputable def tC(t:P.Tok):Str:=tupleText [(toString t.1:Str),nE t.2]
noncomputable def fg(ts:List P.Tok):Str:=listText (ts.map tC)
noncomputable def cb(t:P.Tok):Prop:=0≤t.1∧t.1 < 1000∧(∀i,t.2=.num i→0≤i∧i < 2 ^ 63)∧P.tvLen t≤1000
theorem iz{t:P.Tok}(g:P.Good t)(h:P.tvLen t≤1000):cb t:=by
 cases g with
 |str b=>exact⟨(by decide:(0:Int)≤286),(by decide:(286:Int) < 1000),fun i q=>(by cases q),h⟩
 |num m h0 h1=>exact⟨(by decide:(0:Int)≤284),(by decide:(284:Int) < 1000),fun i q=>(by cases q;exact⟨h0,h1⟩),h⟩
 |name b q1 q2 q3=>exact⟨(by decide:(0:Int)≤285),(by decide:(285:Int) < 1000),fun i q=>(by cases q),h⟩
 |word k h1 h2=>exact⟨by show 0≤k;lia,by show k < 1000;lia,fun i q=>(by cases q),h⟩
 |sgn d hd=>exact⟨by show(0:Int)≤d.toNat;exact natCast_nonneg _,by have:=d.toNat_lt;show(d.toNat:Int) < 1000;lia,fun i q=>(by cases q),h⟩
theorem AP{v:P.TV}(h:∀i,v=.num i→0≤i∧i < 2 ^ 63)(hl:P.tvLen (0,v)≤1000):gk (ny v)=some (nE v):=by
 cases v with
 |non=>rfl
 |num i=>
  obtain⟨h0,h1⟩:=h i rfl
  show(if i.natAbs < 2 ^ 64 then some (toString i:Str) else none)=_
  rw[if_pos (by lia)];rfl
 |txt b=>
  have hb:b.length≤1000:=hl
  show(if b.length≤1000000 then some (Bytes.literal b.toArray) else none)=_
  rw[if_pos (bA hb rfl)];rfl
theorem wr{k:Int}(h0:0≤k)(h1:k < 1000):gk (.int k)=some (toString k:Str):=by
 show(if k.natAbs < 2 ^ 64 then some (toString k:Str) else none)=_
 rw[if_pos (by lia)]
theorem mq{H:Hp}{n:Nat}{p:List Nat}{v:V}(h:∀i,v≠.ref i):cZ H n p v=gk v:=by
 cases n with
 |zero=>rfl
 |succ n=>cases v<;>first|rfl|exact absurd rfl (h _)
theorem y1(v:P.TV):∀i,ny v≠.ref i:=by cases v<;>intro i q<;>cases q
theorem wt{H:Hp}{n:Nat}{p:List Nat}{i:Nat}{t:P.Tok}(h:H[i]? =some (.tup [.int t.1,ny t.2]))(hp:i∉p)(hs:cb t):cZ H (n+1) p (.ref i)=some (tC t):=by
 refine kW hs fun h0 h1 h2 h3=>?_
 show(if i∈p then none else _)=_
 rw[if_neg hp,h]
 show Option.map tupleText (iY (cZ H n (i::p)) [.int t.1,ny t.2])=_
 have e1:cZ H n (i::p) (.int t.1)=some (toString t.1:Str):=by rw[mq (fun i q=>by cases q),wr h0 h1]
 have e2:cZ H n (i::p) (ny t.2)=some (nE t.2):=by rw[mq (y1 _),AP h2 h3]
 simp only[iY,e1,e2,bind_some,map_some]
 rfl
theorem tD{H:Hp}{n:Nat}{p:List Nat}{l:List V}{ts:List P.Tok}(h:aj (cM H) l ts)(hp:∀i∈p,∀a b,H[i]? ≠some (.tup [.int a,b]))(hs:∀t∈ts,cb t):iY (cZ H (n+1) p) l=some (ts.map tC):=by
 induction h with
 |nil=>rfl
 |cons hv _ ih=>
  refine ak hv fun i q91 hi=>?_;obtain rfl:=q91
  have e1:=wt (n:=n) hi (fun q=>hp i q _ _ hi) (hs _ (.head _))
  simp only[iY,e1,ih fun t ht=>hs t (.tail _ ht),bind_some,map_some,map_cons]
theorem iA{H:Hp}{n:Nat}{p:List Nat}{F:Nat}{l:List V}{ts:List P.Tok}(hF:H[F]? =some (.list l))(hFp:F∉p)(h:aj (cM H) l ts)(hp:∀i∈p,∀a b,H[i]? ≠some (.tup [.int a,b]))(hs:∀t∈ts,cb t):cZ H (n+2) p (.ref F)=some (fg ts):=by
 show(if F∈p then none else _)=_
 rw[if_neg hFp,hF]
 show Option.map listText (iY (cZ H (n+1) (F::p)) l)=_
 rw[tD h (fun i hi a b=>by
  rcases mem_cons.mp hi with rfl|hi
  ·rw[hF];intro q;cases q
  ·exact hp i hi a b) hs]
 rfl
theorem uW{k:Int}(h0:0≤k)(h1:k < 10 ^ 20):((toString k:Str)).length≤20:=toString_length_le h0 (by decide) h1
theorem wu{t:P.Tok}(hs:cb t):(nE t.2).length≤4003:=by
 refine kW hs fun h0 h1 h2 h3=>?_
 obtain⟨k,v⟩:=t
 cases v with
 |non=>exact(by decide:4≤4003)
 |num i=>
  obtain⟨g0,g1⟩:=h2 i rfl
  have:=uW g0 (by lia)
  show((toString i:Str)).length≤_
  exact bA this rfl
 |txt b=>
  have hb:b.length≤1000:=h3
  have:=uh b.toArray
  rw[size_toArray] at this
  show(Bytes.literal b.toArray).length≤_
  lia
theorem y3{t:P.Tok}(hs:cb t):(tC t).length≤4100:=by
 have h1:=wu hs
 refine kW hs fun h0 hk z z=>?_
 have h2:=uW h0 (by lia:t.1 < 10 ^ 20)
 have h3:=join_length_add [(toString t.1:Str),nE t.2] (by simp)
 rw[piled_cons,piled_cons,piled_nil] at h3
 unfold tC tupleText
 rw[strLen_append,strLen_append]
 have e1:(("(":Str)).length=1:=rfl
 have e2:(((if([(toString t.1:Str),nE t.2].length==1)=true then ",)" else ")":String)):Str).length=1:=rfl
 rw[e1,e2]
 lia
theorem rm(m:Nat):∀ts:List Str,(∀t∈ts,t.length≤m)→piled ts≤ts.length * (m+2)
 | [],_=>by rw[piled_nil];exact zero_le _
 |t::ts,h=>by
  have h1:=h t (.head _)
  have h2:=rm m ts fun q hq=>h q (.tail _ hq)
  rw[piled_cons,length_cons,Nat.succ_mul]
  lia
theorem o0:∀ts:List Str,(listText ts).length≤piled ts+2
 | []=>by show 2≤_;exact le_of_ble_eq_true rfl
 |t::r=>by
  have h:=textFrom_length_pos r 1 (("[":Str)++(if(0:Nat) > 0 then ", " else "":String)++t) (succ_pos 0)
  have e:(listText (t::r))=textFrom 1 (("[":Str)++(if(0:Nat) > 0 then ", " else "":String)++t) r++"]":=rfl
  rw[e,strLen_append,h,strLen_append,strLen_append,piled_cons]
  have e1:(("[":Str)).length=1:=rfl
  have e2:(((if(0:Nat) > 0 then ", " else "":String)):Str).length=0:=rfl
  have e3:(("]":Str)).length=1:=rfl
  rw[e1,e2,e3]
  lia
theorem jU{ts:List P.Tok}(hs:∀t∈ts,cb t):(fg ts).length≤ts.length * 4102+2:=by
 have h1:=o0 (ts.map tC)
 have h2:=rm 4100 (ts.map tC) fun p hp=>by
  refine ak (mem_map.mp hp) fun t ht q92=>?_;obtain rfl:=q92
  exact y3 (hs t ht)
 rw[List.length_map] at h2
 unfold fg
 lia
theorem wv{H:Hp}{vs:aC}{F:Nat}{l:List V}{ts:List P.Tok}(hF:H[F]? =some (.list l))(h:aj (cM H) l ts)(hs:∀t∈ts,cb t)(hn:ts.length≤200):qe (.ref F) ⟨vs,H⟩=.ok (.str (fg ts)) ⟨vs,H⟩:=by
 have e:=iA (n:=4) (p:=[]) hF (by simp) h (fun i hi=>by cases hi) hs
 have hl:=jU hs
 have hm:ts.length * 4102≤200 * 4102:=Nat.mul_le_mul_right _ hn
 exact(ef e).trans (if_pos (by lia))
noncomputable def mt(ts us:List P.Tok):Str:=tupleText [fg ts,fg us]
theorem ww{H:Hp}{vs:aC}{Pr F G:Nat}{l m:List V}{ts us:List P.Tok}(hP:H[Pr]? =some (.tup [.ref F,.ref G]))(hF:H[F]? =some (.list l))(hG:H[G]? =some (.list m))(h:aj (cM H) l ts)(g:aj (cM H) m us)(hs:∀t∈ts,cb t)(gs:∀t∈us,cb t)(hn:ts.length≤100)(gn:us.length≤100):qe (.ref Pr) ⟨vs,H⟩=.ok (.str (mt ts us)) ⟨vs,H⟩:=by
 have hp:∀i∈[Pr],∀a b,H[i]? ≠some (.tup [.int a,b]):=by
  intro i hi a b
  rw[mem_singleton.mp hi,hP]
  intro q;cases q
 have nF:F∉[Pr]:=by
  intro q
  rw[mem_singleton.mp q,hP] at hF;cases hF
 have nG:G∉[Pr]:=by
  intro q
  rw[mem_singleton.mp q,hP] at hG;cases hG
 have e1:=iA (n:=3) (p:=[Pr]) hF nF h hp hs
 have e2:=iA (n:=3) (p:=[Pr]) hG nG g hp gs
 have e:cZ H 6 [] (.ref Pr)=some (mt ts us):=by
  show(if Pr∈[] then none else H[Pr]?.bind _)=_
  rw[if_neg (by simp),hP]
  show Option.map tupleText (iY (cZ H 5 [Pr]) [.ref F,.ref G])=_
  simp only[iY,e1,e2,bind_some,map_some]
  rfl
 have hl1:=jU hs
 have hl2:=jU gs
 have h3:=join_length_add [fg ts,fg us] (by simp)
 rw[piled_cons,piled_cons,piled_nil] at h3
 have hm:ts.length * 4102≤100 * 4102:=Nat.mul_le_mul_right _ hn
 have gm:us.length * 4102≤100 * 4102:=Nat.mul_le_mul_right _ gn
 have hlen:(mt ts us).length≤1000000:=by
  unfold mt tupleText
  rw[strLen_append,strLen_append]
  have e1:(("(":Str)).length=1:=rfl
  have e2:(((if([fg ts,fg us].length==1)=true then ",)" else ")":String)):Str).length=1:=rfl
  rw[e1,e2]
  lia
 exact(ef e).trans (if_pos hlen)
end
section
open Builtin
section
variable {N n:Nat}{H:Hp}{vs:aC}{tr cl k:Nat}{ns:List Int}
theorem Eb:(aP N).mprim=aD:=rfl
theorem y4{w:Value}{as:Es}{σ:St}(h:sI w=true):ev (aP N) (.call (.con (.sta w)) as) σ=(fL (aP N) as σ).bind fun vs σ=>(aP N).prim w vs σ:=by
 show(if sI w=true then _ else _)=_
 rw[if_pos h]
theorem AQ{w:Value}{as:Es}{ws:List V}{σ σ1:St}{R:af V}(h:sI w=true)(x:fL (aP N) as σ=.ok ws σ1)(y:(aP N).prim w ws σ1=R):ev (aP N) (.call (.con (.sta w)) as) σ=R:=by rw[y4 h,x];exact y
theorem Gu{i:Nat}{y:af V}{Q:af Fl}(h:yr i y=Q):yr i y=Q:=h
theorem HP{t:Tb}{a b:V}{σ:St}{R:af V}(h:cf t a b σ=R):cf t a b σ=R:=h
theorem Je{a b c:V}{σ:St}{R:af V}(h:aZ a b c σ=R):aZ a b c σ=R:=h
noncomputable abbrev HQ:S:=(.asg 1 (.list (.cons (.slc (.loc 0) (.con .none) (.con (.int 24))) (.cons (.con (.int 0)) .nil))))
noncomputable abbrev HR:S:=(.unpk true [8,9] (.tup (.cons (.call (.con (.sta (.ref 496))) (.cons (.loc 1) (.cons (.con (.int 7)) .nil))) (.cons (.call (.con (.sta (.ref 496))) (.cons (.loc 1) (.cons (.con (.int 5)) .nil))) .nil))))
noncomputable def W(sc tr:Nat)(due both gap laid at' parts:Option V)(T U:Bs)(tok more:Option V):aC:=[some (.ref sc),some (.ref tr),due,both,gap,laid,at',parts,some (.bytes T),some (.bytes U),tok,more]
theorem HS{vs:List V}{σ:St}:(aP N).prim (.ref 491) vs σ=(aa N 20).prim (.ref 491) vs σ:=rfl
theorem HT{vs:List V}{σ:St}:(aP N).prim (.ref 510) vs σ=(aa N 20).prim (.ref 510) vs σ:=rfl
theorem uX{v:V}{σ:St}:(aP N).prim (.builtin "repr") [v] σ=qe v σ:=rfl
theorem DZ{i:Nat}{b:List V}{vs:aC}(e:H[i]? =some (.list b))(h:b.length≤1000000):(aP N).prim (.builtin "len") [.ref i] ⟨vs,H⟩=.ok (.int b.length) ⟨vs,H⟩:=qF (N:=N) (n:=19) e h
theorem rn{α:Type}{b:List α}{k:Nat}:gU b none (some (k:Int))=b.take k:=by
 unfold gU
 simp only[elim_none,elim_some,drop_zero,Nat.sub_zero,je]
 by_cases h:k≤b.length
 ·rw[Nat.min_eq_left h]
 ·rw[Nat.min_eq_right (Nat.le_of_not_le h),take_of_length_le (le_refl _),take_of_length_le (Nat.le_of_not_le h)]
theorem y5{α:Type}{b:List α}{k:Nat}(h:k≤b.length):gU b (some (k:Int)) none=b.drop k:=by
 unfold gU
 simp only[elim_none,elim_some,je]
 rw[Nat.min_eq_left h,take_of_length_le (by simp)]
theorem HU{sc:Nat}(h:H[sc]? =some (.flist (ns.map .int)))(hl:ns.length≤100)(ws:aC)(w1:Option V):∃H',ex (aP N) N HQ ⟨some (.ref sc)::w1::ws,H⟩=.ok .next ⟨some (.ref sc)::some (.ref (H.length+1))::ws,H'⟩∧TS (H.length+1) H.length (ns.take 24) 0 H'∧bO H H':=by
 have hs:∀vs,aZ (.ref sc) .none (.int 24) ⟨vs,H⟩=.ok (.ref H.length) ⟨vs,H++[.list ((ns.take 24).map .int)]⟩:=fun vs=>by
  refine(yq h (by simp;exact bA hl rfl) rfl rfl).trans ?_
  rw[show(24:Int)=((24:Nat):Int) from rfl,rn,←List.map_take]
 refine⟨H++[.list ((ns.take 24).map .int)]++[.list [.ref H.length,.int 0]],?_,⟨?_,?_,by lia,by simp;lia⟩,(bO.app _ _).trans (bO.app _ _)⟩
 ·rw[show H.length+1=(H++[O.list ((ns.take 24).map .int)]).length by simp]
  repeat first|with_reducible exact hs _|wtm_at "t"
 ·simp
 ·simp
theorem HV(hN:1000000≤N){sc:Nat}(h:TS tr cl ns k H):∃(H':Hp) (qs us:List Bs) (k':Nat),ex (aP N) N HR ⟨[some (.ref sc),some (.ref tr),none,none,none,none,none,none,none,none,none,none],H⟩=.ok .next ⟨W sc tr none none none none none none qs.flatten us.flatten none none,H'⟩∧TS tr cl ns k' H'∧jS tr H H'∧qs.length≤6∧us.length≤4∧(∀q∈qs,q∈P.piecesP)∧∀q∈us,q∈P.piecesP:=by
 refine BB (rj (N:=N) hN h (most:=7) (by decide) (by decide)) fun H1 qs k1 e1 t1 x1 l1 m1=>?_
 refine BB (rj (N:=N) hN t1 (most:=5) (by decide) (by decide)) fun H2 us k2 e2 t2 x2 l2 m2=>?_
 refine⟨H2++[.tup [.bytes qs.flatten,.bytes us.flatten]],qs,us,k2,?_,t2.ext (bO.app _ _),(x1.trans x2).trans (bO.app _ _).t,le_of_lt_succ l1,le_of_lt_succ l2,m1,m2⟩
 have e1':∀vs,(aP N).prim (.ref 496) [.ref tr,.int 7] ⟨vs,H⟩=.ok (.bytes qs.flatten) ⟨vs,H1⟩:=e1
 have e2':∀vs,(aP N).prim (.ref 496) [.ref tr,.int 5] ⟨vs,H1⟩=.ok (.bytes us.flatten) ⟨vs,H2⟩:=e2
 repeat first|with_reducible exact e1' _|with_reducible exact e2' _|((with_reducible apply yu)<;>exact yv al)|wtm_at "t"
end
end
section
open Builtin
noncomputable abbrev HW:S:=(.unpk true [10,11] (.tup (.cons (.call (.con (.sta (.ref 503))) (.cons (.loc 8) .nil)) (.cons (.call (.con (.sta (.ref 503))) (.cons (.loc 9) .nil)) .nil))))
noncomputable abbrev IC:S:=(.asg 2 (.ite (.cmp .Is (.loc 11) (.con .none)) (.con .none) (.call (.con (.sta (.builtin "repr"))) (.cons (.bin .Add (.loc 10) (.loc 11)) .nil))))
noncomputable abbrev ID:S:=(.asg 3 (.call (.con (.sta (.ref 503))) (.cons (.bin .Add (.bin .Add (.loc 8) (.con (.bytes [10]))) (.loc 9)) .nil)))
noncomputable abbrev IE:S:=(.ite (.cmp .NotEq (.ite (.cmp .Is (.loc 3) (.con .none)) (.con .none) (.call (.con (.sta (.builtin "repr"))) (.cons (.loc 3) .nil))) (.loc 2)) (.cons (.ret (.con (.bool false))) .nil) .nil)
theorem cD{α β:Type}{R S:α→β→Prop}{l:List α}{m:List β}(h:aj R l m)(k:∀a b,R a b→S a b):aj S l m:=by
 induction h with
 |nil=>exact .nil
 |cons h _ ih=>exact .cons (k _ _ h) ih
theorem y6{α β:Type}{R:α→β→Prop}{l l':List α}{m m':List β}(h:aj R l m)(g:aj R l' m'):aj R (l++l') (m++m'):=by
 induction h with
 |nil=>exact g
 |cons h _ ih=>exact .cons h ih
theorem wx{α β:Type}{R:α→β→Prop}{l:List α}{m:List β}(h:aj R l m):∀n,aj R (l.take n) (m.take n):=by
 induction h with
 |nil=>intro n;cases n<;>exact .nil
 |cons h _ ih=>intro n;cases n with
  |zero=>exact .nil
  |succ n=>exact .cons h (ih n)
theorem wy{α β:Type}{R:α→β→Prop}{l:List α}{m:List β}(h:aj R l m):∀n,aj R (l.drop n) (m.drop n):=by
 induction h with
 |nil=>intro n;cases n<;>exact .nil
 |cons h hr ih=>intro n;cases n with
  |zero=>exact .cons h hr
  |succ n=>exact ih n
noncomputable def bv(H:Hp)(ts:List P.Tok)(v:V):Prop:=∃F l,v=.ref F∧H[F]? =some (.list l)∧aj (cM H) l ts
noncomputable def fK(H:Hp)(o:Option (List P.Tok))(v:V):Prop:=match o with
 |none=>v=.none
 |some ts=>bv H ts v
theorem cM.ext{H H':Hp}(e:bO H H'){v:V}{t:P.Tok}(h:cM H v t):cM H' v t:=by
 obtain⟨i,rfl,hi⟩:=h
 exact⟨i,rfl,e _ _ hi⟩
theorem bv.ext{H H':Hp}{ts:List P.Tok}{v:V}(h:bv H ts v)(e:bO H H'):bv H' ts v:=by
 obtain⟨F,l,rfl,hF,ha⟩:=h
 exact⟨F,l,rfl,e _ _ hF,cD ha fun a b=>cM.ext e⟩
theorem fK.ext{H H':Hp}{o:Option (List P.Tok)}{v:V}(h:fK H o v)(e:bO H H'):fK H' o v:=by
 cases o with
 |none=>exact h
 |some ts=>exact bv.ext h e
theorem bv.extT{tr cl k:Nat}{ns:List Int}{H H':Hp}{ts:List P.Tok}{v:V}(h:bv H ts v)(t:TS tr cl ns k H)(e:jS tr H H'):bv H' ts v:=by
 obtain⟨F,l,rfl,hF,ha⟩:=h
 have hne:F≠tr:=by
  rintro rfl
  rw[t.tray] at hF
  cases hF
  cases ha with
  |cons _ hr=>
   cases hr with
   |cons h _=>obtain⟨i,q,_⟩:=h;cases q
 refine⟨F,l,rfl,e _ _ hne hF,cD ha fun a b h=>?_⟩
 obtain⟨i,rfl,hi⟩:=h
 refine⟨i,rfl,e _ _ ?_ hi⟩
 rintro rfl
 rw[t.tray] at hi;cases hi
section
variable {N n:Nat}{H:Hp}{vs:aC}{tr cl k:Nat}{ns:List Int}
theorem iB(hN:1000000≤N){T:Bs}(hT:T.length≤500000)(H:Hp):∃H' v,(∀vs,(aP N).prim (.ref 503) [.bytes T] ⟨vs,H⟩=.ok v ⟨vs,H'⟩)∧bO H H'∧fK H' (P.lexAll T) v:=by
 have h:=y0 (H:=H) hN hT
 cases ho:P.lexAll T with
 |none=>
  rw[ho] at h
  obtain⟨H',e1,e2⟩:=h
  exact⟨H',.none,e1,e2,rfl⟩
 |some ts=>
  rw[ho] at h
  obtain⟨H',F,l,e1,e2,e3,e4⟩:=h
  exact⟨H',.ref F,e1,e2,F,l,rfl,e3,e4⟩
theorem HX(hN:1000000≤N){sc:Nat}{T U:Bs}(hT:T.length≤500000)(hU:U.length≤500000)(H:Hp):∃H' v w,ex (aP N) N HW ⟨W sc tr none none none none none none T U none none,H⟩=.ok .next ⟨W sc tr none none none none none none T U (some v) (some w),H'⟩∧bO H H'∧fK H' (P.lexAll T) v∧fK H' (P.lexAll U) w:=by
 obtain⟨H1,v,e1,x1,h1⟩:=iB hN hT H
 obtain⟨H2,w,e2,x2,h2⟩:=iB hN hU H1
 refine⟨H2++[.tup [v,w]],v,w,?_,(x1.trans x2).trans (bO.app _ _),(h1.ext x2).ext (bO.app _ _),h2.ext (bO.app _ _)⟩
 repeat first|with_reducible exact e1 _|with_reducible exact e2 _|((with_reducible apply yu)<;>exact yv al)|wtm_at "t"
noncomputable def jV(o:Option (List P.Tok)):V:=match o with
 |none=>.none
 |some ts=>.str (fg ts)
theorem uY{ts:List P.Tok}{v:V}(h:bv H ts v)(hs:∀t∈ts,cb t)(hn:ts.length≤200)(vs:aC):(aP N).prim (.builtin "repr") [v] ⟨vs,H⟩=.ok (.str (fg ts)) ⟨vs,H⟩:=by
 obtain⟨F,l,rfl,hF,ha⟩:=h
 rw[uX]
 exact wv hF ha hs hn
theorem HY{sc:Nat}{T U:Bs}{ts:List P.Tok}{o:Option (List P.Tok)}{v w:V}(hv:bv H ts v)(hw:fK H o w)(hs:∀t∈ts,cb t)(ho:∀us,o=some us→(∀t∈us,cb t)∧us.length≤100)(hn:ts.length≤100):
  ∃H',ex (aP N) N IC ⟨W sc tr none none none none none none T U (some v) (some w),H⟩=.ok .next ⟨W sc tr (some (jV (o.map (ts++·)))) none none none none none T U (some v) (some w),H'⟩∧bO H H':=by
 cases o with
 |none=>
  obtain rfl:w=.none:=hw
  refine⟨H,?_,bO.refl _⟩
  repeat first|wtm_at "t"
 |some us=>
  obtain⟨u1,u2⟩:=ho us rfl
  obtain⟨F,l,rfl,hF,ha⟩:=hv
  obtain⟨G,m,rfl,hG,hb⟩:=hw
  have l1:=gB ha
  have l2:=gB hb
  have hadd:∀ws,dy .Add (.ref F) (.ref G) ⟨ws,H⟩=.ok (.ref H.length) ⟨ws,H++[.list (l++m)]⟩:=fun ws=>by
   show lf (.ref F) (.ref G) ⟨ws,H⟩=_
   exact(fS hF).trans ((fS hG).trans (if_pos (by lia)))
  have hr:=fun ws=>uY (N:=N) (H:=H++[.list (l++m)]) (ts:=ts++us) (v:=.ref H.length) ⟨H.length,l++m,rfl,al,y6 (cD ha fun z z=>cM.ext (bO.app _ _)) (cD hb fun z z=>cM.ext (bO.app _ _))⟩ (fun t ht=>(mem_append.mp ht).elim (hs t) (u1 t)) (by rw[length_append];lia) ws
  refine⟨H++[.list (l++m)],?_,bO.app _ _⟩
  repeat first|with_reducible (first|exact hadd _|exact hr _)|wtm_at "t"
theorem HZ(hN:1000000≤N){sc:Nat}{T U:Bs}(hT:T.length≤1000)(hU:U.length≤1000)(d:V)(v w:Option V)(H:Hp):∃H' b,ex (aP N) N ID ⟨W sc tr (some d) none none none none none T U v w,H⟩=.ok .next ⟨W sc tr (some d) (some b) none none none none T U v w,H'⟩∧bO H H'∧fK H' (P.lexAll (T++10::U)) b:=by
 have e:T++[10]++U=T++10::U:=by simp
 obtain⟨H1,b,e1,x1,h1⟩:=iB hN (T:=T++[10]++U) (by simp;lia) H
 refine⟨H1,b,?_,x1,e ▸ h1⟩
 have b1:∀σ,dy .Add (.bytes T) (.bytes [10]) σ=.ok (.bytes (T++[10])) σ:=fun σ=>DG (by simp;exact bA hT rfl)
 have b2:∀σ,dy .Add (.bytes (T++[10])) (.bytes U) σ=.ok (.bytes (T++[10]++U)) σ:=fun σ=>DG (by simp;lia)
 repeat first|with_reducible (first|exact b1 _|exact b2 _|exact e1 _)|wtm_at "t"
theorem y7(s:Str):(s==s)=true:=by simp
theorem y8(s:Str):aQ H .NotEq (.str s) (.str s)=some false:=by
 show some (!(s==s))=_
 rw[y7];rfl
theorem Ia{sc:Nat}{T U:Bs}{o:Option (List P.Tok)}{b:V}(hb:fK H o b)(ho:∀us,o=some us→(∀t∈us,cb t)∧us.length≤200)(v w:Option V):ex (aP N) N IE ⟨W sc tr (some (jV o)) (some b) none none none none T U v w,H⟩=.ok .next ⟨W sc tr (some (jV o)) (some b) none none none none T U v w,H⟩:=by
 cases o with
 |none=>
  obtain rfl:b=.none:=hb
  have hd:jV none=.none:=rfl
  rw[hd]
  repeat first|wtm_at "t"
 |some us=>
  obtain⟨u1,u2⟩:=ho us rfl
  have hr:=fun ws=>uY (N:=N) (H:=H) (ts:=us) hb u1 u2 ws
  obtain⟨F,l,rfl,hF,ha⟩:=hb
  have hd:jV (some us)=.str (fg us):=rfl
  rw[hd]
  repeat first|with_reducible (first|exact hr _|exact y8 _)|wtm_at "t"
end
end
section
open Builtin
noncomputable abbrev IF:S:=(.asg 4 (.sub (.list (.cons (.con (.bytes [32])) (.cons (.con (.bytes [10])) (.cons (.con (.bytes [9,45,45,10])) (.cons (.con (.bytes [32,45,45,91,61,61,91,32,93,93,32,93,61,61,93])) .nil))))) (.call (.con (.sta (.ref 491))) (.cons (.loc 1) (.cons (.con (.int 4)) .nil)))))
noncomputable abbrev IG:S:=(.asg 5 (.call (.con (.sta (.ref 510))) (.cons (.loc 10) (.cons (.loc 4) .nil))))
noncomputable abbrev IJ:S:=(.ite (.or (.cmp .NotEq (.call (.con (.sta (.builtin "repr"))) (.cons (.call (.con (.sta (.ref 503))) (.cons (.loc 5) .nil)) .nil)) (.call (.con (.sta (.builtin "repr"))) (.cons (.loc 10) .nil))) (.cmp .NotEq (.call (.con (.sta (.ref 510))) (.cons (.call (.con (.sta (.ref 503))) (.cons (.loc 5) .nil)) (.cons (.loc 4) .nil))) (.loc 5))) (.cons (.ret (.con (.bool false))) .nil) .nil)
noncomputable abbrev Gv:S:=(.asg 6 (.call (.con (.sta (.ref 491))) (.cons (.loc 1) (.cons (.bin .Add (.call (.con (.sta (.builtin "len"))) (.cons (.loc 10) .nil)) (.con (.int 1))) .nil))))
noncomputable abbrev Gw:S:=(.asg 7 (.tup (.cons (.call (.con (.sta (.ref 503))) (.cons (.call (.con (.sta (.ref 510))) (.cons (.slc (.loc 10) (.con .none) (.loc 6)) (.cons (.con (.bytes [32])) .nil))) .nil)) (.cons (.call (.con (.sta (.ref 503))) (.cons (.call (.con (.sta (.ref 510))) (.cons (.slc (.loc 10) (.loc 6) (.con .none)) (.cons (.con (.bytes [32])) .nil))) .nil)) .nil))))
section
variable {N n:Nat}{H:Hp}{vs:aC}{tr cl k:Nat}{ns:List Int}
theorem uZ(h:TS tr cl ns k H){many:Nat}(hm:0 < many):∃r:Nat,r < many∧(∀vs,(aP N).prim (.ref 491) [.ref tr,.int many] ⟨vs,H⟩=.ok (.int r) ⟨vs,H.set tr (.list [.ref cl,.int (k+1:Nat)])⟩)∧TS tr cl ns (k+1) (H.set tr (.list [.ref cl,.int (k+1:Nat)])):=jT (N:=N) (n:=18) h hm
theorem rq(o:O):jS tr H (H.set tr o):=fun j o' hj e=>by rw[getElem?_set_ne (Ne.symm hj)];exact e
noncomputable def tE:List Bs:=[[32],[10],[9,45,45,10],[32,45,45,91,61,61,91,32,93,93,32,93,61,61,93]]
theorem AR(r:Nat)(h:r < 4):∃g,(tE.map V.bytes)[r]? =some (.bytes g)∧P.GapOk g∧g.length≤20:=by
 have:r=0∨r=1∨r=2∨r=3:=by lia
 rcases this with rfl|rfl|rfl|rfl
 ·exact⟨_,rfl,P.gap1,by decide⟩
 ·exact⟨_,rfl,P.gap2,by decide⟩
 ·exact⟨_,rfl,P.gap3,by decide⟩
 ·exact⟨_,rfl,P.gap4,by decide⟩
theorem Ib{sc:Nat}{T U:Bs}(h:TS tr cl ns k H)(d b v w:Option V):∃H' g k',ex (aP N) N IF ⟨W sc tr d b none none none none T U v w,H⟩=.ok .next ⟨W sc tr d b (some (.bytes g)) none none none T U v w,H'⟩∧TS tr cl ns k' H'∧jS tr H H'∧P.GapOk g∧g.length≤20:=by
 have htr:=ai h.tray
 have t1:TS tr cl ns k (H++[.list (tE.map V.bytes)]):=h.ext (bO.app _ _)
 refine eP (uZ (N:=N) t1 (many:=4) (by decide)) fun r r1 r2 r3=>?_
 refine eP (AR r r1) fun g g1 g2 g3=>?_
 have hl:((H++[O.list (tE.map V.bytes)]).set tr (.list [.ref cl,.int (k+1:Nat)]))[H.length]? =some (.list (tE.map V.bytes)):=by
  rw[getElem?_set_ne (ne_of_lt htr)];exact al
 have hi:∀ws,cf (aP N) (.ref H.length) (.int r) ⟨ws,(H++[O.list (tE.map V.bytes)]).set tr (.list [.ref cl,.int (k+1:Nat)])⟩=.ok (.bytes g) ⟨ws,(H++[O.list (tE.map V.bytes)]).set tr (.list [.ref cl,.int (k+1:Nat)])⟩:=fun ws=>by
  refine(fS hl).trans ?_
  rw[if_pos (by lia),toNat_natCast,g1]
  rfl
 refine⟨_,g,k+1,?_,r3,(bO.app _ _).t.trans (rq _),g2,g3⟩
 have r2':∀vs,(aP N).prim (.ref 491) [.ref tr,.int 4] ⟨vs,H++[O.list [.bytes [32],.bytes [10],.bytes [9,45,45,10],.bytes [32,45,45,91,61,61,91,32,93,93,32,93,61,61,93]]]⟩=.ok (.int r) ⟨vs,(H++[O.list (tE.map V.bytes)]).set tr (.list [.ref cl,.int (k+1:Nat)])⟩:=r2
 repeat first|with_reducible (first|exact r2' _|exact hi _)|wtm_at "t"
theorem ji(hN:1000000≤N){ts:List P.Tok}{v:V}{g:Bs}(h:bv H ts v)(hg:∀t∈ts,P.Good t∧P.tvLen t≤100)(hn:ts.length≤200)(hgl:g.length≤20):∃H',(∀vs,(aP N).prim (.ref 510) [v,.bytes g] ⟨vs,H⟩=.ok (.bytes (P.joinS g (ts.map P.written))) ⟨vs,H'⟩)∧bO H H'∧(P.joinS g (ts.map P.written)).length≤500000:=by
 refine bC h fun F l q92 hF ha=>?_;obtain rfl:=q92
 exact tB (n:=17) hN hF ha hg hn hgl
theorem Ic(hN:1000000≤N){sc:Nat}{T U:Bs}{ts:List P.Tok}{v:V}{g:Bs}(h:bv H ts v)(hg:∀t∈ts,P.Good t∧P.tvLen t≤100)(hn:ts.length≤200)(hgl:g.length≤20)(d b w:Option V):∃H',ex (aP N) N IG ⟨W sc tr d b (some (.bytes g)) none none none T U (some v) w,H⟩=.ok .next ⟨W sc tr d b (some (.bytes g)) (some (.bytes (P.joinS g (ts.map P.written)))) none none T U (some v) w,H'⟩∧bO H H'∧(P.joinS g (ts.map P.written)).length≤500000:=by
 refine eP (ji hN h hg hn hgl) fun H1 e1 x1 l1=>?_
 refine⟨H1,?_,x1,l1⟩
 repeat first|with_reducible exact e1 _|wtm_at "t"
theorem Id(hN:1000000≤N){sc:Nat}{T U:Bs}{ts:List P.Tok}{v:V}{g:Bs}(h:bv H ts v)(hg:∀t∈ts,P.Good t∧P.tvLen t≤100)(hn:ts.length≤200)(hgl:g.length≤20)(hgap:P.GapOk g)(hlen:(P.joinS g (ts.map P.written)).length≤500000)(d b w:Option V):∃H',ex (aP N) N IJ ⟨W sc tr d b (some (.bytes g)) (some (.bytes (P.joinS g (ts.map P.written)))) none none T U (some v) w,H⟩=.ok .next ⟨W sc tr d b (some (.bytes g)) (some (.bytes (P.joinS g (ts.map P.written)))) none none T U (some v) w,H'⟩∧bO H H':=by
 have hs:∀t∈ts,cb t:=fun t ht=>iz (hg t ht).1 (by have:=(hg t ht).2;exact bA this rfl)
 have hla:=P.lexAll_join hgap ts fun t ht=>(hg t ht).1
 refine bC (iB hN hlen H) fun H1 v1 e1 x1 h1=>?_
 rw[hla] at h1
 have r1:=fun ws=>uY (N:=N) (ts:=ts) h1 hs hn ws
 have r2:=fun ws=>uY (N:=N) (ts:=ts) (h.ext x1) hs hn ws
 refine bC (iB hN hlen H1) fun H2 v2 e2 x2 h2=>?_
 rw[hla] at h2
 refine eP (ji hN h2 hg hn hgl) fun H3 e3 x3 z=>?_
 refine⟨H3,?_,(x1.trans x2).trans x3⟩
 have hbb:∀H,aQ H .NotEq (.bytes (P.joinS g (ts.map P.written))) (.bytes (P.joinS g (ts.map P.written)))=some false:=fun H=>by
  show some (!(_==_))=_
  simp
 repeat first|with_reducible (first|exact e1 _|exact r1 _|exact r2 _|exact y8 _|exact e2 _|exact e3 _|exact hbb _)|wtm_at "t"
theorem Gx{sc:Nat}{T U:Bs}{ts:List P.Tok}{v:V}(t:TS tr cl ns k H)(h:bv H ts v)(hn:ts.length≤200)(d b g l w:Option V):∃H' k' r,ex (aP N) N Gv ⟨W sc tr d b g l none none T U (some v) w,H⟩=.ok .next ⟨W sc tr d b g l (some (.int (r:Nat))) none T U (some v) w,H'⟩∧TS tr cl ns k' H'∧jS tr H H'∧r≤ts.length:=by
 refine bC h fun F L q92 hF ha=>?_;obtain rfl:=q92
 have hl:=gB ha
 refine eP (uZ (N:=N) t (many:=L.length+1) (succ_pos _)) fun r r1 r2 r3=>?_
 have hp:=fun ws=>DZ (N:=N) (vs:=ws) hF (GX hn hl rfl)
 refine⟨_,k+1,r,?_,r3,rq _,by lia⟩
 have r2':∀vs,(aP N).prim (.ref 491) [.ref tr,.int ((L.length:Int)+1)] ⟨vs,H⟩=.ok (.int r) ⟨vs,H.set tr (.list [.ref cl,.int (k+1:Nat)])⟩:=r2
 repeat first|with_reducible (first|exact hp _|exact r2' _)|wtm_at "t"
theorem y9{F:Nat}{L:List V}{ts:List P.Tok}(hF:H[F]? =some (.list L))(ha:aj (cM H) L ts)(hn:ts.length≤200)(r:Nat):(∀ws,aZ (.ref F) .none (.int r) ⟨ws,H⟩=.ok (.ref H.length) ⟨ws,H++[.list (L.take r)]⟩)∧bv (H++[.list (L.take r)]) (ts.take r) (.ref H.length):=by
 have hl:=gB ha
 constructor
 ·intro ws
  refine(uC hF (GX hn hl rfl) rfl rfl).trans ?_
  rw[rn]
 ·exact⟨H.length,L.take r,rfl,al,cD (wx ha r) fun z z=>cM.ext (bO.app _ _)⟩
theorem za{F:Nat}{L:List V}{ts:List P.Tok}(hF:H[F]? =some (.list L))(ha:aj (cM H) L ts)(hn:ts.length≤200){r:Nat}(hr:r≤ts.length):(∀ws,aZ (.ref F) (.int r) .none ⟨ws,H⟩=.ok (.ref H.length) ⟨ws,H++[.list (L.drop r)]⟩)∧bv (H++[.list (L.drop r)]) (ts.drop r) (.ref H.length):=by
 have hl:=gB ha
 constructor
 ·intro ws
  refine(uC hF (GX hn hl rfl) rfl rfl).trans ?_
  rw[y5 (IS hr hl)]
 ·exact⟨H.length,L.drop r,rfl,al,cD (wy ha r) fun z z=>cM.ext (bO.app _ _)⟩
noncomputable def mu(H:Hp)(ts us:List P.Tok)(v:V):Prop:=∃Pr F G,v=.ref Pr∧H[Pr]? =some (.tup [.ref F,.ref G])∧bv H ts (.ref F)∧bv H us (.ref G)
theorem By{ts us:List P.Tok}{v:V}(h:mu H ts us v)(hs:∀t∈ts,cb t)(gs:∀t∈us,cb t)(hn:ts.length≤100)(gn:us.length≤100)(ws:aC):(aP N).prim (.builtin "repr") [v] ⟨ws,H⟩=.ok (.str (mt ts us)) ⟨ws,H⟩:=by
 obtain⟨Pr,F,G,rfl,hP,⟨F',l,q1,hF,ha⟩,⟨G',m,q2,hG,hb⟩⟩:=h
 cases q1;cases q2
 rw[uX]
 exact ww hP hF hG ha hb hs gs hn gn
theorem mu.ext{H H':Hp}{ts us:List P.Tok}{v:V}(h:mu H ts us v)(e:bO H H'):mu H' ts us v:=by
 refine gR h fun Pr F G q93 hP h1 h2=>?_;obtain rfl:=q93
 exact⟨Pr,F,G,rfl,e _ _ hP,h1.ext e,h2.ext e⟩
theorem Gz(hN:1000000≤N){sc:Nat}{T U:Bs}{ts:List P.Tok}{v:V}(h:bv H ts v)(hg:∀t∈ts,P.Good t∧P.tvLen t≤100)(hn:ts.length≤100){r:Nat}(hr:r≤ts.length)(d b g l w:Option V):∃H' p,ex (aP N) N Gw ⟨W sc tr d b g l (some (.int r)) none T U (some v) w,H⟩=.ok .next ⟨W sc tr d b g l (some (.int r)) (some p) T U (some v) w,H'⟩∧bO H H'∧mu H' (ts.take r) (ts.drop r) p:=by
 have g1:∀t∈ts.take r,P.Good t∧P.tvLen t≤100:=fun t ht=>hg t (List.mem_of_mem_take ht)
 have g2:∀t∈ts.drop r,P.Good t∧P.tvLen t≤100:=fun t ht=>hg t (List.mem_of_mem_drop ht)
 have n1:(ts.take r).length≤200:=by rw[length_take];lia
 have n2:(ts.drop r).length≤200:=by rw[List.length_drop];exact IT hn rfl
 have hv0:=h
 refine bC h fun F L q92 hF ha=>?_;obtain rfl:=q92
 obtain⟨a1,a2⟩:=y9 hF ha (bA hn rfl) r
 refine eP (ji hN a2 g1 n1 (g:=[32]) (by decide)) fun H2 b1 b2 b3=>?_
 refine bC (iB hN b3 H2) fun H3 p1 c1 c2 c3=>?_
 rw[P.lexAll_join P.gap1 _ fun t ht=>(g1 t ht).1] at c3
 have x3:bO H H3:=((bO.app _ _).trans b2).trans c2
 obtain⟨d1,d2⟩:=za (x3 _ _ hF) (cD ha fun z z=>cM.ext x3) (bA hn rfl) hr
 refine eP (ji hN d2 g2 n2 (g:=[32]) (by decide)) fun H5 e1 e2 e3=>?_
 refine bC (iB hN e3 H5) fun H6 p2 f1 f2 f3=>?_
 rw[P.lexAll_join P.gap1 _ fun t ht=>(g2 t ht).1] at f3
 have x6:bO H3 H6:=((bO.app _ _).trans e2).trans f2
 have c4:bv H6 (ts.take r) p1:=bv.ext c3 x6
 have f4:bv H6 (ts.drop r) p2:=f3
 refine dc c4 fun F1 l1 q1 rest1=>?_
 refine dc f4 fun G1 m1 q2 rest2=>?_
 subst q1 q2
 refine⟨H6++[.tup [.ref F1,.ref G1]],.ref H6.length,?_,(x3.trans x6).trans (bO.app _ _),H6.length,F1,G1,rfl,al,bv.ext ⟨F1,l1,rfl,rest1⟩ (bO.app _ _),bv.ext ⟨G1,m1,rfl,rest2⟩ (bO.app _ _)⟩
 repeat first|with_reducible (first|exact a1 _|exact b1 _|exact c1 _|exact d1 _|exact e1 _|exact f1 _)|wtm_at "t"
end
end
section
open Builtin
noncomputable abbrev IK:S:=(.ite (.cmp .Is (.loc 10) (.con .none)) (.cons (.ret (.con (.bool true))) .nil) .nil)
noncomputable abbrev GA:S:=(.ret (.cmp .Eq (.call (.con (.sta (.builtin "repr"))) (.cons (.loc 7) .nil)) (.call (.con (.sta (.builtin "repr"))) (.cons (.tup (.cons (.slc (.loc 10) (.con .none) (.loc 6)) (.cons (.slc (.loc 10) (.loc 6) (.con .none)) .nil))) .nil))))
section
variable {N n:Nat}{H:Hp}{vs:aC}{tr cl k:Nat}{ns:List Int}
theorem GB{sc:Nat}{T U:Bs}{ts:List P.Tok}{v p:V}{r:Nat}(h:bv H ts v)(hp:mu H (ts.take r) (ts.drop r) p)(hs:∀t∈ts,cb t)(hn:ts.length≤100)(hr:r≤ts.length)(d b g l w:Option V):∃H',ex (aP N) N GA ⟨W sc tr d b g l (some (.int r)) (some p) T U (some v) w,H⟩=.ok (.ret (.bool true)) ⟨W sc tr d b g l (some (.int r)) (some p) T U (some v) w,H'⟩∧bO H H':=by
 have s1:∀t∈ts.take r,cb t:=fun t ht=>hs t (List.mem_of_mem_take ht)
 have s2:∀t∈ts.drop r,cb t:=fun t ht=>hs t (List.mem_of_mem_drop ht)
 have n1:(ts.take r).length≤100:=by rw[length_take];lia
 have n2:(ts.drop r).length≤100:=by rw[List.length_drop];exact GD hn
 refine bC h fun F L q92 hF ha=>?_;obtain rfl:=q92
 have r1:=fun ws=>By (N:=N) hp s1 s2 n1 n2 ws
 obtain⟨a1,a2⟩:=y9 hF ha (bA hn rfl) r
 have x1:bO H (H++[O.list (L.take r)]):=bO.app _ _
 obtain⟨d1,d2⟩:=za (x1 _ _ hF) (cD ha fun z z=>cM.ext x1) (bA hn rfl) hr
 have x2:bO (H++[O.list (L.take r)]) (H++[O.list (L.take r)]++[O.list (L.drop r)]):=bO.app _ _
 have hP:mu (H++[O.list (L.take r)]++[O.list (L.drop r)]++[O.tup [.ref H.length,.ref (H++[O.list (L.take r)]).length]]) (ts.take r) (ts.drop r) (.ref (H++[O.list (L.take r)]++[O.list (L.drop r)]).length):=
  ⟨_,H.length,(H++[O.list (L.take r)]).length,rfl,al,(a2.ext x2).ext (bO.app _ _),d2.ext (bO.app _ _)⟩
 have r2:=fun ws=>By (N:=N) hP s1 s2 n1 n2 ws
 refine⟨H++[O.list (L.take r)]++[O.list (L.drop r)]++[O.tup [.ref H.length,.ref (H++[O.list (L.take r)]).length]],?_,(x1.trans x2).trans (bO.app _ _)⟩
 have q:∀H,aQ H .Eq (.str (mt (ts.take r) (ts.drop r))) (.str (mt (ts.take r) (ts.drop r)))=some true:=fun H=>by
  show some (_==_)=_
  rw[y7]
 repeat first|with_reducible (first|exact r1 _|exact a1 _|exact d1 _|exact r2 _|exact q _)|wtm_at "t"
theorem AS(hN:1000000≤N){sc:Nat}(h:H[sc]? =some (.flist (ns.map .int)))(hl:ns.length≤100):∃H' vs',bj (aP N) N g9.body ⟨[some (.ref sc),none,none,none,none,none,none,none,none,none,none,none],H⟩=.ok (.ret (.bool true)) ⟨vs',H'⟩∧H'[sc]? =some (.flist (ns.map .int)):=by
 have hsc:sc≠H.length+1:=by have:=ai h;lia
 refine eP (HU (N:=N) h hl [none,none,none,none,none,none,none,none,none,none] none) fun H0 e0 t0 x0=>?_
 refine GQ (HV hN (sc:=sc) t0) fun H1 qs us k1 e1 t1 x1 q1 q2 q3 q4=>?_
 obtain⟨o1,o2⟩:=P.rows_ok q3 q1
 obtain⟨o3,o4⟩:=P.rows_ok q4 (bA q2 rfl)
 refine gR (HX hN (sc:=sc) (tr:=H.length+1) (T:=qs.flatten) (U:=us.flatten) (bA o2 rfl) (bA o4 rfl) H1) fun H2 v w e2 x2 h2 g2=>?_
 cases hT:P.lexAll qs.flatten with
 |none=>
  rw[hT] at h2
  obtain rfl:v=.none:=h2
  refine⟨H2,W sc (H.length+1) none none none none none none qs.flatten us.flatten (some .none) (some w),?_,x2 _ _ (x1 _ _ hsc (x0 _ _ h))⟩
  show bj _ _ (.cons HQ (.cons HR (.cons HW (.cons _ _)))) _=_
  repeat first|with_reducible (first|exact e0|exact e1|exact e2)|wtm_at "t"
 |some ts=>
  rw[hT] at h2
  have h2':bv H2 ts v:=h2
  refine jj (P.lexAll_good _ _ (le_refl _) o1 hT) fun p1 p2 p3=>?_
  have hg:∀t∈ts,P.Good t∧P.tvLen t≤100:=fun t ht=>⟨p1 t ht,by have:=p3 t ht;exact Ee this o2 rfl⟩
  have hs:∀t∈ts,cb t:=fun t ht=>iz (p1 t ht) (by have:=p3 t ht;exact Ee this o2 rfl)
  have hn:ts.length≤66:=le_trans p2 o2
  have ho:∀us',P.lexAll us.flatten=some us'→(∀t∈us',cb t)∧us'.length≤100:=fun us' hu=>by
   refine jj (P.lexAll_good _ _ (le_refl _) o3 hu) fun z1 z2 z3=>?_
   exact⟨fun t ht=>iz (z1 t ht) (by have:=z3 t ht;exact Ee this o4 rfl),Ee z2 o4 rfl⟩
  have t2:TS (H.length+1) H.length (ns.take 24) k1 H2:=t1.ext x2
  have s3:ex (aP N) N IK ⟨W sc (H.length+1) none none none none none none qs.flatten us.flatten (some v) (some w),H2⟩=.ok .next ⟨W sc (H.length+1) none none none none none none qs.flatten us.flatten (some v) (some w),H2⟩:=by
   refine dc h2' fun F l q92 z=>?_;obtain rfl:=q92
   repeat first|wtm_at "t"
  refine ak (HY (N:=N) (sc:=sc) (tr:=H.length+1) (T:=qs.flatten) (U:=us.flatten) h2' g2 hs ho (bA hn rfl)) fun H4 e4 x4=>?_
  refine bC (HZ hN (sc:=sc) (tr:=H.length+1) (T:=qs.flatten) (U:=us.flatten) (bA o2 rfl) (bA o4 rfl) (jV ((P.lexAll us.flatten).map (ts++·))) (some v) (some w) H4) fun H5 b e5 x5 h5=>?_
  rw[P.lexAll_app us.flatten _ _ (le_refl _) hT] at h5
  have e6:=Ia (N:=N) (sc:=sc) (tr:=H.length+1) (T:=qs.flatten) (U:=us.flatten) h5 (fun zs hz=>by
   refine ak (map_eq_some_iff.mp hz) fun us' hu q92=>?_;obtain rfl:=q92
   obtain⟨z1,z2⟩:=ho us' hu
   exact⟨fun t ht=>(mem_append.mp ht).elim (hs t) (z1 t),by rw[length_append];lia⟩) (some v) (some w)
  have t5:TS (H.length+1) H.length (ns.take 24) k1 H5:=(t2.ext x4).ext x5
  have h5':bv H5 ts v:=(h2'.ext x4).ext x5
  refine BB (Ib (N:=N) (sc:=sc) (T:=qs.flatten) (U:=us.flatten) t5 (some (jV ((P.lexAll us.flatten).map (ts++·)))) (some b) (some v) (some w)) fun H7 g k7 e7 t7 x7 gg gl=>?_
  have h7:bv H7 ts v:=h5'.extT t5 x7
  refine eP (Ic hN (sc:=sc) (tr:=H.length+1) (T:=qs.flatten) (U:=us.flatten) h7 hg (bA hn rfl) gl (some (jV ((P.lexAll us.flatten).map (ts++·)))) (some b) (some w)) fun H8 e8 x8 l8=>?_
  refine ak (Id hN (sc:=sc) (tr:=H.length+1) (T:=qs.flatten) (U:=us.flatten) (h7.ext x8) hg (bA hn rfl) gl gg l8 (some (jV ((P.lexAll us.flatten).map (ts++·)))) (some b) (some w)) fun H9 e9 x9=>?_
  have t9:TS (H.length+1) H.length (ns.take 24) k7 H9:=(t7.ext x8).ext x9
  have h9:bv H9 ts v:=(h7.ext x8).ext x9
  refine gR (Gx (N:=N) (sc:=sc) (T:=qs.flatten) (U:=us.flatten) t9 h9 (bA hn rfl) (some (jV ((P.lexAll us.flatten).map (ts++·)))) (some b) (some (.bytes g)) (some (.bytes (P.joinS g (ts.map P.written)))) (some w)) fun H10 k10 r e10 t10 x10 hr=>?_
  have h10:bv H10 ts v:=h9.extT t9 x10
  refine bC (Gz hN (sc:=sc) (tr:=H.length+1) (T:=qs.flatten) (U:=us.flatten) h10 hg (bA hn rfl) hr (some (jV ((P.lexAll us.flatten).map (ts++·)))) (some b) (some (.bytes g)) (some (.bytes (P.joinS g (ts.map P.written)))) (some w)) fun H11 p e11 x11 hp=>?_
  refine ak (GB (N:=N) (sc:=sc) (tr:=H.length+1) (T:=qs.flatten) (U:=us.flatten) (h10.ext x11) hp hs (bA hn rfl) hr (some (jV ((P.lexAll us.flatten).map (ts++·)))) (some b) (some (.bytes g)) (some (.bytes (P.joinS g (ts.map P.written)))) (some w)) fun H12 e12 x12=>?_
  refine⟨H12,W sc (H.length+1) (some (jV ((P.lexAll us.flatten).map (ts++·)))) (some b) (some (.bytes g)) (some (.bytes (P.joinS g (ts.map P.written)))) (some (.int r)) (some p) qs.flatten us.flatten (some v) (some w),?_,x12 _ _ (x11 _ _ (x10 _ _ hsc (x9 _ _ (x8 _ _ (x7 _ _ hsc (x5 _ _ (x4 _ _ (x2 _ _ (x1 _ _ hsc (x0 _ _ h))))))))))⟩
  show bj _ _ (.cons HQ (.cons HR (.cons HW (.cons IK (.cons IC (.cons ID (.cons IE (.cons IF (.cons IG (.cons IJ (.cons Gv (.cons Gw (.cons GA _))))))))))))) _=_
  repeat first|with_reducible (first|exact e0|exact e1|exact e2|exact s3|exact e4|exact e5|exact e6|exact e7|exact e8|exact e9|exact e10|exact e11|exact e12)|wtm_at "t"
end
end
theorem AT:g9∈aM:=by unfold aM;simp
theorem zb{as:As}{vs:List Value}{ns:List Int}(z:IntsAre vs ns):aj (VR as) (ns.map V.int) vs:=by
 induction z with
 |nil=>exact .nil
 |cons n t _ h=>exact .cons ⟨t,rfl⟩ h
theorem wz{G:bB}(g:bz G)(hK:(G.K.all fun q=>jE q.2)=true){s:Shared}{a:Addr}{vs:List Value}{ns:List Int}{n:Nat}(ha:s.heap.get? a=some G.scr)(hc:G.scr.cls=.type "list")(hd':G.scr.data=.seq vs.toArray n)(hI:IntsAre vs ns)(hl:ns.length≤100)
  (KX:G.K.In s.heap) {mean:ExcName→Option Value} (T:Top G.p G.loose mean G.mg G.mb s.heap) (h1:a≠1) (h1s:1 < s.heap.objs.size) {Q E}
  (hq:∀h' tk',(∀b o,s.heap.get? b=some o→h'.get? b=some o)→Q (.bool true) { s with heap:=h',toks:=tk' }):aJ (model G.prog G.w) callerA (call (.ref 517) [.ref a]) Q E s:=by
 have hL:s.heap.IsList a vs.toArray:=⟨_,ha,hc,n,hd'⟩
 refine fh (lE (G:=G) (d:=g9) (g.fn AT)) fun qual scope body fo hchk hnp=>?_
 refine fo.at_ _ fun oc od osl name params dV kV doc pm an cdv ct ho hcd hbind=>?_
 refine bJ ?_
 refine aK (fd:=fnX name qual params body scope [] dV kV doc pm an cdv ct) (body:=body) (by decide +kernel) (KX _ _ ho) rfl fo.co fo.gen rfl (codeRec_of KX hcd) ?_
 refine BindsTo.of_eq (hbind [.ref a] rfl) _ _ _ _ ?_
 refine wpAny_newFunctionEnv fo.cell (fun y hy=>fo.loc _ (of_mem_zip hy).1) (fun h₁ hns hsb=>⟨T.nolimit.fresh _ hsb,cq ?_⟩) fo.kind
 let x:Fx:={ A:=callerA.deeper (envX qual scope s.heap.objs.size 517 cdv []),cn:=qual,cs:=scope,L:=s.heap.objs.size,a:=517,ccd:=cdv,cl:=[],outer:=[],base:=hideAll s.heap [a],h₀:=hideAll s.heap [a],lv:=40,names:=g9.names }
 have KH:G.K.In (hideAll s.heap [a]):=C1 hK KX hL hI
 have TH:=(vW hL).top T
 have ok:x.Ok G:=⟨⟨callerA,below_caller _⟩,KH,topRead_of TH,KH,⟨mean,TH⟩,TH.nolimit,fo.kind,rfl,rfl,rfl,by show callerA.depth+1+4 * 40+8 < _;decide +kernel,by show callerA.units+3+16 * 40+40 < _;decide +kernel,fo.nodup,le_refl _,fun z=>rfl⟩
 have hk₁:∀b o,s.heap.get? b=some o→h₁.get? b=some o:=fun b o e=>hsb.extBut b o (ne_of_lt (Heap.lt_size e)) (Heap.get?_push_of_some _ e)
 have hal:=Heap.lt_size ha
 have R:aE G x ⟨ar g9.names [.ref 0],[.flist (ns.map .int)]⟩ [(a,a)] h₁:=by
  refine⟨⟨_,⟨hns,fun b o e=>hk₁ b o (of_hideAll _ e),le_of_eq (hideAll_size _ _)⟩,eH (vs:=[.ref 0]) (us:=[.ref a]) fo.nodup fo.pre rfl (.cons ⟨(a,a),rfl,rfl⟩ .nil)⟩,fun p hp=>?_,?_,rfl,fun i o p e1 e2=>?_,h1s,fun p hp=>?_⟩
  ·obtain rfl:=mem_singleton.mp hp
   exact⟨⟨ne_of_lt hal,hideAll_none _ (.head _)⟩,ne_of_lt hal,hideAll_none _ (.head _)⟩
  ·intro i j p q hij e1 e2
   have l1:=(List.getElem?_eq_some_iff.mp e1).1
   have l2:=(List.getElem?_eq_some_iff.mp e2).1
   simp at l1 l2
   lia
  ·have l1:=(List.getElem?_eq_some_iff.mp e1).1
   have:i=0:=by simp at l1;exact l1
   subst this
   cases e1;cases e2
   exact⟨G.scr,G.scr,hk₁ _ _ ha,hk₁ _ _ ha,rfl,hc,vs,⟨n,hd'⟩,zb hI⟩
  ·obtain rfl:=mem_singleton.mp hp
   exact h1
 refine dc (AS (N:=1000000) (sc:=0) (H:=[.flist (ns.map .int)]) (le_refl _) rfl hl) fun H' vs' hlaw hkeep=>?_
 have tri:=nY (g.cx g.glob ok rfl rfl) (yc (N:=1000000) g) g.raise (le_refl 40) 1000000 g9.body body hchk [(a,a)] ⟨ar g9.names [.ref 0],[.flist (ns.map .int)]⟩
 have hlaw':bj (aP 1000000) 1000000 g9.body ⟨ar g9.names [.ref 0],[.flist (ns.map .int)]⟩=.ok (.ret (.bool true)) ⟨vs',H'⟩:=hlaw
 rw[hlaw'] at tri
 refine tri { s with heap:=h₁,toks:=_ } _ _ R fun fl as' h' tk' has R' hr=>?_
 refine ak hr fun u q91 hu=>?_;obtain rfl:=q91
 obtain rfl:u=.bool true:=hu
 refine hq h' tk' fun b o e=>?_
 refine ak R'.fr fun m F z=>?_
 by_cases hb:b=a
 ·subst hb
  obtain⟨rest,rfl⟩:=has
  refine bC (R'.obj 0 _ (b,b) hkeep rfl) fun o1 o2 q1 q2 q3=>?_
  obtain⟨z1,_⟩:=q3
  rw[ha] at e
  cases e
  rw[←z1];exact q1
 ·exact F.keep b o (hideAll_get _ e (by simpa using hb))
theorem rt{p q:Program}{w:World}{K:Frag}{loose:List Str}{mg mb:Str→Option Value}{ob:Obj}(hc:jF K=true)(hb:∀S v,fC K S v=some (bL.zip (v::dG)))(hd:lL K=gK):
  bz { prog:=p,w:=w,K:=K,p:=q,loose:=loose,mg:=mg,mb:=mb,xc:=87,atts:=aO,scr:=ob }∧nsIn K mainGlobals "law"=some (some (.ref 517))∧∃o,K.lookup 517=some o:=by
 unfold jF EW EX at hc
 obtain⟨a1,h⟩:=and_eq_true_iff.mp hc
 obtain⟨h1,h⟩:=and_eq_true_iff.mp h
 obtain⟨b1,h1⟩:=and_eq_true_iff.mp h1
 obtain⟨b2,h1⟩:=and_eq_true_iff.mp h1
 obtain⟨b3,h1⟩:=and_eq_true_iff.mp h1
 obtain⟨b4,h1⟩:=and_eq_true_iff.mp h1
 obtain⟨b5,b6⟩:=and_eq_true_iff.mp h1
 obtain⟨c1,h⟩:=and_eq_true_iff.mp h
 obtain⟨c2,h⟩:=and_eq_true_iff.mp h
 obtain⟨c3,h⟩:=and_eq_true_iff.mp h
 obtain⟨c4,h⟩:=and_eq_true_iff.mp h
 obtain⟨c5,h⟩:=and_eq_true_iff.mp h
 obtain⟨c6,h⟩:=and_eq_true_iff.mp h
 obtain⟨c7,h⟩:=and_eq_true_iff.mp h
 obtain⟨c8,c9⟩:=and_eq_true_iff.mp h
 obtain⟨d1,hd⟩:=List.cons.inj hd
 obtain⟨d2,hd⟩:=List.cons.inj hd
 obtain⟨d3,_⟩:=List.cons.inj hd
 exact⟨⟨rfl,rfl,a1,b1,b2,b3,b4,b5,b6,c1,c2,c3,c4,hb,c5,c6,fun b e=>Option.some.inj (d1.symm.trans e) ▸ vX,fun b e=>Option.some.inj (d2.symm.trans e) ▸ qj,fun b e=>Option.some.inj (d3.symm.trans e) ▸ qk,c7⟩,beq_iff_eq.mp c8,Option.isSome_iff_exists.mp c9⟩
set_option tactic.hygienic true in
theorem entry:PySem.Challenge.rw_sa0473_01.Holds:=by
 refine hd ?_
 intro w s₀ s₁ mg mb G Y fa o pm cd doc dV kV ho hd' hcd hD hmg hg args vals as hpre hlay hrd hwl hlo
 refine wC Y fun K KX hck hlb hbd hno=>?_
 obtain⟨_,hlaw,o5,hlk⟩:=rt (p:=PySem.Challenge.rw_sa0473_01.row.prog) (q:=q) (w:=w) (loose:=looseW q loose) (mg:=mg) (mb:=mb) (ob:=o) hck hlb hbd
 have hfa:fa=517:=by
  have e:=mg_of KX G.T.g hlaw
  have e2:mg "law"=some (.ref fa):=hmg
  rw[e] at e2
  cases e2;rfl
 clear hd' hD hmg ho hcd
 subst hfa
 have hlo':=hlo
 wrow_args hpre hlay hrd hwl hlo
 rename_i ns _ _ _ _ _ as4 as3 a vs as1 hL ra w1 r0 hI hr hn _
 have h1:a≠1:=by
  rintro rfl
  have hm:(1:Addr)∈as4:=by
   cases r0
   simp
  have:=hlo' 1 (mem_append_left _ hm)
  simp[sysModules] at this
 obtain⟨ob,ha,hc,n,hd'⟩:=hL
 obtain⟨g,_⟩:=rt (p:=PySem.Challenge.rw_sa0473_01.row.prog) (q:=q) (w:=w) (loose:=looseW q loose) (mg:=mg) (mb:=mb) (ob:=ob) hck hlb hbd
 refine wz g hno (vs:=vs) (ns:=ns) (n:=n) ha hc hd' hI (by omega) KX G.T h1 ?_ ?_
 ·exact Nat.lt_of_le_of_lt (by decide:1≤517) (Heap.lt_size (KX 517 _ hlk))
 ·intro h' tk' keep
  refine GoodW.toG ⟨.inl ⟨.bool true,.bool true,[],rfl,raisesW_false ?_,.bool true,?_,unshared_nil⟩,keep,rfl,hg⟩
  ·wrow_none_raised
  ·wrow_post
end
end Mine
theorem PySem.Challenge.cw_sa0473_01_holds : PySem.Challenge.rw_sa0473_01.Holds :=
 Mine.entry
