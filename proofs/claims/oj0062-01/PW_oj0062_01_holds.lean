import PyProof.Rows.All
import Wide.All
import OpenK.AllK
import Wide.FinOn
import PySem.Challenge.RW_oj0062_01
set_option Elab.async false
set_option linter.all false
set_option genCtorIdx false
set_option genInjectivity false
set_option genSizeOf false
set_option tactic.hygienic false
section
open PySem PySem.W PyProof.Rows
namespace Mine
theorem hid {P:Prop} (h:∀ G:Prop,(P→G)→G):P:=h P id
structure Ev (fs:List Addr) (h h':Heap):Prop where
 keep:∀ b o,h.get? b=some o→b ∉ fs→h'.get? b=some o
 fr:∀ b ∈ fs,∀ m,h.Ns b m→h'.Ns b m
theorem Ev.refl (fs:List Addr) (h:Heap):Ev fs h h:=⟨fun _ _ e _=>e,fun _ _ _ e=>e⟩
theorem Ev.trans {fs:List Addr} {h₁ h₂ h₃:Heap} (x:Ev fs h₁ h₂) (y:Ev fs h₂ h₃):Ev fs h₁ h₃:=
 ⟨fun b o e n=>y.keep b o (x.keep b o e n) n,fun b hb m e=>y.fr b hb m (x.fr b hb m e)⟩
theorem Ev.push (fs:List Addr) (h:Heap) (o:Obj):Ev fs h (h.push o):=
 ⟨fun b o' e _=>Heap.get?_push_of_some _ e,fun b _ m e=>e.keeps fun _ _ q=>Heap.get?_push_of_some _ q⟩
theorem Ev.of_keeps {fs:List Addr} {h h':Heap} (k:∀ b o,h.get? b=some o→h'.get? b=some o):Ev fs h h':=
 ⟨fun b o e _=>k b o e,fun _ _ _ e=>e.keeps k⟩
theorem Ev.update {fs:List Addr} {h₀ h:Heap} (x:Ev fs h₀ h) {a:Addr} {f:Obj→Obj} (hn:h₀.get? a=none) (hf:a ∉ fs):Ev fs h₀ (h.update a f):=by
 have other:∀ b,b≠a→(h.update a f).get? b=h.get? b:=fun b hb=>Heap.get?_update_other _ _ (Ne.symm hb)
 refine ⟨fun b o e n=>?_,fun b hb m e=>?_⟩
 ·rw [other b (fun q=>by rw [q,hn] at e;cases e)];exact x.keep b o e n
 ·obtain ⟨o,es,ep,ho,r⟩:=x.fr b hb m e
  exact ⟨o,es,ep,(other b fun q=>hf (q▸hb)).trans ho,r⟩
theorem Ev.none {fs:List Addr} {h h':Heap} (x:Ev fs h h') {b:Addr} (n:b ∉ fs) (e:h'.get? b=none):h.get? b=none:=by
 cases q:h.get? b with
 |none=>rfl
 |some o=>rw [x.keep b o q n] at e;cases e
mutual
inductive Rd (H:Addr→Prop) (h:Heap):Value→PyData→Prop
 |none:Rd H h .none .none
 |bool (b):Rd H h (.bool b) (.bool b)
 |int (i t):Rd H h (.int i t) (.int i)
 |str (x t):Rd H h (.str x t) (.str x)
 |list {a dd vs n xs sl}:h.get? a=some ⟨.type "list",dd,.seq vs n,sl⟩→¬ H a→RdAll H h vs.toList xs→Rd H h (.ref a) (.list xs)
 |tuple {a dd vs n xs sl}:h.get? a=some ⟨.type "tuple",dd,.seq vs n,sl⟩→¬ H a→RdAll H h vs.toList xs→Rd H h (.ref a) (.tuple xs)
inductive RdAll (H:Addr→Prop) (h:Heap):List Value→List PyData→Prop
 |nil:RdAll H h [] []
 |cons {v vs d ds}:Rd H h v d→RdAll H h vs ds→RdAll H h (v::vs) (d::ds)
end
section
variable {H H':Addr→Prop} {h h':Heap} (hk:∀ b o,h.get? b=some o→¬ H b→h'.get? b=some o) (hs:∀ b o,h.get? b=some o→H' b→H b)
include hk hs
theorem Rd.mono {v d} (r:Rd H h v d):Rd H' h' v d:=
 Rd.rec (motive_1:=fun v d _=>Rd H' h' v d) (motive_2:=fun v d _=>RdAll H' h' v d) .none .bool .int .str (fun a b _ c => .list (hk _ _ a b) (fun q=>b (hs _ _ a q)) c) (fun a b _ c => .tuple (hk _ _ a b) (fun q=>b (hs _ _ a q)) c) .nil (fun _ _ a b => .cons a b) r
theorem RdAll.mono {v d} (r:RdAll H h v d):RdAll H' h' v d:=
 RdAll.rec (motive_1:=fun v d _=>Rd H' h' v d) (motive_2:=fun v d _=>RdAll H' h' v d) .none .bool .int .str (fun a b _ c => .list (hk _ _ a b) (fun q=>b (hs _ _ a q)) c) (fun a b _ c => .tuple (hk _ _ a b) (fun q=>b (hs _ _ a q)) c) .nil (fun _ _ a b => .cons a b) r
end
section
variable {H:Addr→Prop} {h:Heap} {v:Value}
theorem rnone (r:Rd H h v .none):v = .none:=by cases r;rfl
theorem rbool {i:Bool} (r:Rd H h v (.bool i)):v = .bool i:=by cases r;rfl
theorem rint {i:Int} (r:Rd H h v (.int i)):∃ t,v = .int i t:=by cases r;exact ⟨_,rfl⟩
theorem rstr {i:Str} (r:Rd H h v (.str i)):∃ t,v = .str i t:=by cases r;exact ⟨_,rfl⟩
theorem rtup {ds:List PyData} (r:Rd H h v (.tuple ds)):∃ a dd vs n sl,v = .ref a∧h.get? a=some ⟨.type "tuple",dd,.seq vs n,sl⟩∧¬ H a∧RdAll H h vs.toList ds:=by
 cases r with
 |tuple a b c=>exact ⟨_,_,_,_,_,rfl,a,b,c⟩
theorem rlist {ds:List PyData} (r:Rd H h v (.list ds)):∃ a dd vs n sl,v = .ref a∧h.get? a=some ⟨.type "list",dd,.seq vs n,sl⟩∧¬ H a∧RdAll H h vs.toList ds:=by
 cases r with
 |list a b c=>exact ⟨_,_,_,_,_,rfl,a,b,c⟩
theorem rnil {vs:List Value} (r:RdAll H h vs []):vs=[]:=by cases r;rfl
theorem rcons {vs:List Value} {d:PyData} {ds:List PyData} (r:RdAll H h vs (d::ds)):∃ v vs',vs=v::vs'∧Rd H h v d∧RdAll H h vs' ds:=by
 cases r with
 |cons a b=>exact ⟨_,_,rfl,a,b⟩
end
theorem Rd.ev {H:Addr→Prop} {fs:List Addr} {h h':Heap} (x:Ev fs h h') (hf:∀ b ∈ fs,H b) {v d} (r:Rd H h v d):Rd H h' v d:=
 r.mono (fun b o e n=>x.keep b o e fun q=>n (hf b q)) fun _ _ _ q=>q
theorem RdAll.ev {H:Addr→Prop} {fs:List Addr} {h h':Heap} (x:Ev fs h h') (hf:∀ b ∈ fs,H b) {v d} (r:RdAll H h v d):RdAll H h' v d:=
 r.mono (fun b o e n=>x.keep b o e fun q=>n (hf b q)) fun _ _ _ q=>q
theorem Rd.reads {H:Addr→Prop} {h:Heap} {v d} (r:Rd H h v d):∃ as,Reads h v d as:=
 Rd.rec (motive_1:=fun v d _=>∃ as,Reads h v d as) (motive_2:=fun v d _=>∃ as,ReadsAll h v d as) ⟨_,.none⟩ (fun _=>⟨_,.bool _⟩) (fun _ _=>⟨_,.int _ _⟩) (fun _ _=>⟨_,.str _ _⟩)
  (fun a _ _ c=>c.elim fun _ q=>⟨_,.list a rfl rfl q⟩) (fun a _ _ c=>c.elim fun _ q=>⟨_,.tuple a rfl rfl q⟩) ⟨_,.nil⟩ (fun _ _ a b=>a.elim fun _ p=>b.elim fun _ q=>⟨_,.cons p q⟩) r
section
variable {H:Addr→Prop} {h:Heap}
theorem RdAll.length {ds}:∀ {vs},RdAll H h vs ds→vs.length=ds.length:=by
 induction ds with
 |nil=>intro vs r;rw [rnil r];rfl
 |cons d ds ih=>
  intro vs r
  obtain ⟨v,vs',rfl,_,r2⟩:=rcons r
  exact congrArg (· + 1) (ih r2)
theorem RdAll.get {ds}:∀ {vs},RdAll H h vs ds→∀ {k:Nat} {d:PyData},ds[k]?=some d→∃ v,vs[k]?=some v∧Rd H h v d:=by
 induction ds with
 |nil=>intro vs _ k d e;cases e
 |cons d ds ih=>
  intro vs r k d' e
  obtain ⟨v,vs',rfl,r1,r2⟩:=rcons r
  cases k with
  |zero=>cases e;exact ⟨v,rfl,r1⟩
  |succ k=>exact ih r2 (k:=k) e
theorem RdAll.append {ds ds' vs'}:∀ {vs},RdAll H h vs ds→RdAll H h vs' ds'→RdAll H h (vs++vs') (ds++ds'):=by
 induction ds with
 |nil=>intro vs r k;rw [rnil r];exact k
 |cons d ds ih=>
  intro vs r k
  obtain ⟨v,vs1,rfl,r1,r2⟩:=rcons r
  exact .cons r1 (ih r2 k)
theorem RdAll.drop {ds}:∀ {vs} (n:Nat),RdAll H h vs ds→RdAll H h (vs.drop n) (ds.drop n):=by
 induction ds with
 |nil=>intro vs n r;rw [rnil r,List.drop_nil,List.drop_nil];exact .nil
 |cons d ds ih=>
  intro vs n r
  obtain ⟨v,vs1,rfl,r1,r2⟩:=rcons r
  cases n with
  |zero=>exact r
  |succ n=>exact ih n r2
theorem RdAll.take {ds}:∀ {vs} (n:Nat),RdAll H h vs ds→RdAll H h (vs.take n) (ds.take n):=by
 induction ds with
 |nil=>intro vs n r;rw [rnil r,List.take_nil,List.take_nil];exact .nil
 |cons d ds ih=>
  intro vs n r
  obtain ⟨v,vs1,rfl,r1,r2⟩:=rcons r
  cases n with
  |zero=>exact .nil
  |succ n=>exact .cons r1 (ih n r2)
end
theorem Rd.hide {H H':Addr→Prop} {h:Heap} (hs:∀ b o,h.get? b=some o→H' b→H b) {v d} (r:Rd H h v d):Rd H' h v d:=r.mono (fun _ _ e _=>e) hs
theorem RdAll.hide {H H':Addr→Prop} {h:Heap} (hs:∀ b o,h.get? b=some o→H' b→H b) {v d} (r:RdAll H h v d):RdAll H' h v d:=r.mono (fun _ _ e _=>e) hs
structure Same (s s':Shared):Prop where
 gens:s'.gens=s.gens
 drawn:s'.drawn=s.drawn
 os:s'.os=s.os
theorem Same.refl (s:Shared):Same s s:=⟨rfl,rfl,rfl⟩
theorem Same.trans {a b c:Shared} (x:Same a b) (y:Same b c):Same a c:=⟨y.1.trans x.1,y.2.trans x.2,y.3.trans x.3⟩
theorem Same.mk' (s:Shared) (h:Heap) (k:Nat):Same s { s with heap:=h,toks:=k }:=⟨rfl,rfl,rfl⟩
end Mine
end
section
namespace Mine
inductive LE where
 |v (i:Nat)
 |n (k:Nat)
 |a (x y:LE)
 |s (k:Nat) (x:LE)
noncomputable def LE.den (c:List Nat):LE→Nat
 | .v i=>(c[i]?).getD 0
 | .n k=>k
 | .a x y=>x.den c+y.den c
 | .s k x=>k * x.den c
noncomputable def LE.add:List Nat→List Nat→List Nat
 | [],l=>l
 |l,[]=>l
 |x::l,y::m=>(x+y)::LE.add l m
noncomputable def LE.unit:Nat→List Nat
 |0=>[1]
 |i+1=>0::LE.unit i
noncomputable def LE.co:LE→List Nat
 | .v i=>0::LE.unit i
 | .n k=>[k]
 | .a x y=>LE.add x.co y.co
 | .s k x=>x.co.map (k * ·)
noncomputable def LE.ev (c:List Nat):List Nat→Nat
 | []=>0
 |x::l=>x * (c.headD 0)+LE.ev c.tail l
noncomputable def LE.evc (c:List Nat):List Nat→Nat
 | []=>0
 |k::l=>k+LE.ev c l
theorem LE.ev_add (l:List Nat):∀ (m c:List Nat),LE.ev c (LE.add l m)=LE.ev c l+LE.ev c m:=by
 induction l with
 |nil=>intro m c;rw [LE.add];exact (Nat.zero_add _).symm
 |cons x l ih=>
  intro m c
  cases m with
  |nil=>rfl
  |cons y m=>
   show (x+y) * _+LE.ev _ (LE.add l m)=_
   rw [ih,Nat.add_mul]
   exact Nat.add_add_add_comm ..
theorem LE.evc_add (l m c:List Nat):LE.evc c (LE.add l m)=LE.evc c l+LE.evc c m:=by
 cases l with
 |nil=>rw [LE.add];exact (Nat.zero_add _).symm
 |cons x l=>
  cases m with
  |nil=>rfl
  |cons y m=>
   show (x+y)+LE.ev _ (LE.add l m)=_
   rw [LE.ev_add]
   exact Nat.add_add_add_comm ..
theorem LE.ev_unit (i:Nat):∀ c:List Nat,LE.ev c (LE.unit i)=(c[i]?).getD 0:=by
 induction i with
 |zero=>intro c;show 1 * c.headD 0+0=_;rw [Nat.one_mul];cases c <;> rfl
 |succ i ih=>intro c;show 0 * c.headD 0+LE.ev c.tail (LE.unit i)=_;rw [ih,Nat.zero_mul,Nat.zero_add];cases c <;> rfl
theorem LE.ev_map (k:Nat) (l:List Nat):∀ c:List Nat,LE.ev c (l.map (k * ·))=k * LE.ev c l:=by
 induction l with
 |nil=>intro c;rfl
 |cons x l ih=>
  intro c
  show (k * x) * _+LE.ev _ (l.map (k * ·))=_
  rw [ih,Nat.mul_assoc]
  exact (Nat.mul_add ..).symm
theorem LE.co_ok (c:List Nat) (e:LE):LE.evc c e.co=e.den c:=by
 induction e with
 |v i=>show 0+LE.ev c (LE.unit i)=_;rw [LE.ev_unit,Nat.zero_add];rfl
 |n k=>rfl
 |a x y ihx ihy=>exact (LE.evc_add ..).trans (by rw [ihx,ihy];rfl)
 |s k x ih=>
  show LE.evc c (x.co.map (k * ·))=k * x.den c
  rw [← ih]
  cases x.co with
  |nil=>rfl
  |cons y l=>show k * y+LE.ev c (l.map (k * ·))=_;rw [LE.ev_map];exact (Nat.mul_add ..).symm
noncomputable def LE.ge:List Nat→List Nat→Bool
 |_,[]=>true
 | [],y::m=>Nat.ble y 0 && LE.ge [] m
 |x::l,y::m=>Nat.ble y x && LE.ge l m
theorem LE.ge_ok (m:List Nat):∀ (l c:List Nat),LE.ge l m=true→LE.ev c m≤LE.ev c l:=by
 induction m with
 |nil=>intro l c _;exact Nat.zero_le _
 |cons y m ih=>
  intro l c h
  cases l with
  |nil=>
   have h':=(Bool.and_eq_true_iff.mp h)
   rw [show y=0 from Nat.le_zero.mp (Nat.le_of_ble_eq_true h'.1)]
   show 0 * _+_≤0
   rw [Nat.zero_mul,Nat.zero_add]
   exact ih [] c.tail h'.2
  |cons x l=>
   have h':=(Bool.and_eq_true_iff.mp h)
   exact Nat.add_le_add (Nat.mul_le_mul_right _ (Nat.le_of_ble_eq_true h'.1)) (ih l c.tail h'.2)
noncomputable def LE.cl (c:List Nat):List (Nat × Nat × LE × LE)→Prop
 | []=>False
 |(_,0,x,y)::r=>x.den c≤y.den c→LE.cl c r
 |(_,_,x,y)::r=>x.den c=y.den c→LE.cl c r
noncomputable def LE.sum:List (Nat × Nat × LE × LE)→List Nat × List Nat
 | []=>([],[])
 |(m,k,x,y)::r=>match k with
  |2=>(LE.add (y.co.map (m * ·)) (LE.sum r).1,LE.add (x.co.map (m * ·)) (LE.sum r).2)
  |_=>(LE.add (x.co.map (m * ·)) (LE.sum r).1,LE.add (y.co.map (m * ·)) (LE.sum r).2)
noncomputable def LE.bad (l:List (Nat × Nat × LE × LE)):Bool:=match LE.sum l with
 |(x::p,y::q)=>Nat.blt y x && LE.ge p q
 |(x::_,[])=>Nat.blt 0 x
 |_=>false
theorem LE.step {c:List Nat} {x y:LE} {m:Nat} {p q:List Nat} (h:x.den c≤y.den c) (g:LE.evc c p≤LE.evc c q):LE.evc c (LE.add (x.co.map (m * ·)) p)≤LE.evc c (LE.add (y.co.map (m * ·)) q):=by
 have e:∀ z:LE,LE.evc c (z.co.map (m * ·))=m * z.den c:=fun z=>LE.co_ok c (.s m z)
 rw [LE.evc_add,LE.evc_add,e,e]
 exact Nat.add_le_add (Nat.mul_le_mul_left m h) g
theorem LE.cl_of (c:List Nat) (l:List (Nat × Nat × LE × LE)):∀ (p q:List Nat),LE.evc c p≤LE.evc c q→(LE.evc c (LE.add (LE.sum l).1 p)≤LE.evc c (LE.add (LE.sum l).2 q)→False)→LE.cl c l:=by
 induction l with
 |nil=>intro p q h f;exact f h
 |cons t r ih=>
  obtain ⟨m,k,x,y⟩:=t
  intro p q h f
  have key:∀ u w:LE,u.den c≤w.den c→(LE.evc c (LE.add (LE.add (u.co.map (m * ·)) (LE.sum r).1) p)≤LE.evc c (LE.add (LE.add (w.co.map (m * ·)) (LE.sum r).2) q)→False)→LE.cl c r:=fun u w e f=>by
   refine ih (LE.add (u.co.map (m * ·)) p) (LE.add (w.co.map (m * ·)) q) (LE.step e h) fun g=>f ?_
   rw [LE.evc_add,LE.evc_add] at g ⊢
   rw [LE.evc_add,LE.evc_add] at g ⊢
   rw [Nat.add_assoc,Nat.add_assoc,Nat.add_left_comm,Nat.add_left_comm (LE.evc c (w.co.map (m * ·)))]
   exact g
  match k with
  |0=>exact fun e=>key x y e f
  |1=>exact fun e=>key x y (Nat.le_of_eq e) f
  |2=>exact fun e=>key y x (Nat.le_of_eq e.symm) f
  |k+3=>exact fun e=>key x y (Nat.le_of_eq e) f
theorem lin (c:List Nat) (l:List (Nat × Nat × LE × LE)) (h:LE.bad l=true):LE.cl c l:=by
 refine LE.cl_of c l [] [] (Nat.le_refl _) fun g=>?_
 rw [LE.evc_add,LE.evc_add] at g
 unfold LE.bad at h
 cases hs:LE.sum l with
 |mk u w=>
  rw [hs] at h g
  cases u with
  |nil=>cases h
  |cons x p=>
   cases w with
   |nil=>exact absurd (Nat.le_trans (Nat.le_trans (Nat.le_add_right x (LE.ev c p)) (Nat.le_add_right _ _)) g) (Nat.not_le.mpr (Nat.le_of_ble_eq_true h))
   |cons y q=>
    have h':=Bool.and_eq_true_iff.mp h
    have hb:y+1≤x:=Nat.le_of_ble_eq_true h'.1
    have hc:y+LE.ev c q<x+LE.ev c p:=Nat.add_lt_add_of_lt_of_le hb (LE.ge_ok q p c h'.2)
    exact absurd g (Nat.not_le.mpr hc)
theorem linL {a b:Nat} (h:b<a→False):a≤b:=Nat.le_of_not_lt h
theorem linT {a b:Nat} (h:b≤a→False):a<b:=Nat.lt_of_not_le h
theorem linE {a b:Nat} (h:b<a→False) (h':a<b→False):a=b:=Nat.le_antisymm (Nat.le_of_not_lt h) (Nat.le_of_not_lt h')
end Mine
end
section
open PySem PySem.W PyProof.Rows
namespace Mine
noncomputable def S (l:List Nat):Str:=⟨l.toArray⟩
@[simp] theorem S_toList (l:List Nat):(S l).cps.toList=l:=rfl
@[simp] theorem S_length (l:List Nat):(S l).length=l.length:=by simp [S,Str.length]
theorem S_of (x:Str):S x.cps.toList=x:=by cases x;rfl
@[simp] theorem S_inj {a b:List Nat}:S a=S b↔a=b:=⟨fun e=>by have:=congrArg (fun x=>x.cps.toList) e;simpa using this,fun e=>e▸rfl⟩
@[simp] theorem S_append (a b:List Nat):S a++S b=S (a++b):=by
  show Str.append _ _=_
  simp [Str.append,S]
noncomputable def pieces:List (List Nat):=[[],[123],[125],[34],[92],[32],[9],[97],[120,52],[49],[35],[42],[93],[40],[41],[58],[11],[12],[13],[117],[233],[123,42,125],[125,32],[34,32],[92,125],[92,123],[92,34],[92,92],[123,97,125,32],[34,98,34,32],[92,120],[99,32]]
noncomputable def pcOf (n:Int):List Nat:=(pieces[(n.fmod 32).toNat]?).getD []
structure Exc where
 value:Str
 ec:PyData
set_option genInjectivity true in
set_option genCtorIdx true in
inductive RR where
 |ok (d:PyData)
 |exc (x:Exc)
set_option genCtorIdx true in
inductive Val where
 |un
 |d (x:PyData)
 |own (xs:List PyData)
 |ex (x:Exc)
noncomputable abbrev Loc:=List Val
set_option genCtorIdx true in
inductive Bop where
 |add |sub |mul |fdiv |fmod
 deriving DecidableEq
inductive PE where
 |k (c:PyData)
 |v (i:Nat)
 |tup (es:List PE)
 |lst (es:List PE)
 |not (e:PE)
 |neg (e:PE)
 |and (es:List PE)
 |or (es:List PE)
 |ife (t a b:PE)
 |bin (op:Bop) (a b:PE)
 |cmp (op:CmpOp) (a b:PE)
 |cmp2 (o1 o2:CmpOp) (a b c:PE)
 |idx (a i:PE)
 |sl (a:PE) (lo hi:Option PE)
 |call (f:Nat) (args:List PE)
 |len (a:PE)
 |ord (a:PE)
 |chr (a:PE)
 |find (a b:PE)
 |join (a b:PE)
 |lenO (i:Nat)
 |joinO (a:PE) (i:Nat)
 |tupO (i:Nat)
 |idxO (i:Nat) (a:PE)
 |exA (i:Nat) (n:Nat)
 |comp (elt it:PE) (cond:Option PE)
 |pcs (e:PE)
 |cmpP (it:PE)
inductive PS where
 |asg (i:Nat) (e:PE)
 |upk (is:List Nat) (e:PE)
 |upkT (is:List Nat) (es:List PE)
 |newO (i:Nat)
 |upkO (i:Nat) (is:List Nat) (es:List PE)
 |app (i:Nat) (e:PE)
 |aug (i:Nat) (op:Bop) (e:PE)
 |ite (t:PE) (a b:List PS)
 |whl (t:PE) (b:List PS)
 |forS (i:Nat) (e:PE) (b:List PS)
 |forL (i:Nat) (e:PE) (b:List PS)
 |ret (e:PE)
 |ret0
 |rai (msg:PE) (ec:Option PE)
 |brk
 |tryR (e:PE) (i:Nat) (h:List PS)
 |tryE (e:PE) (i:Nat) (h:List PS)
 |frz (i:Nat)
 |exp (e:PE)
 |sto (t w:Nat) (e:PE)
 |forR (i:Nat) (b:List PS)
inductive Out where
 |nxt (ρ:Loc)
 |brk (ρ:Loc)
 |ret (d:PyData)
 |exc (x:Exc)
noncomputable def lim:Nat:=1048576
noncomputable def boolP (Q:Bool→Prop):PyData→Prop
 | .bool b=>Q b
 |_=>False
noncomputable def intP (Q:Int→Prop):PyData→Prop
 | .int i=>Q i
 |_=>False
noncomputable def strP (Q:Str→Prop):PyData→Prop
 | .str i=>Q i
 |_=>False
noncomputable def listP (Q:List PyData→Prop):PyData→Prop
 | .list i=>Q i
 |_=>False
noncomputable def tupP (Q:List PyData→Prop):PyData→Prop
 | .tuple i=>Q i
 |_=>False
noncomputable def noneP (G:Prop):PyData→Prop
 | .none=>G
 |_=>False
theorem boolP_inv {Q:Bool→Prop} {d:PyData} (h:boolP Q d):∃ b,d = .bool b∧Q b:=by
 cases d <;> first |exact ⟨_,rfl,h⟩ |exact h.elim
theorem intP_inv {Q:Int→Prop} {d:PyData} (h:intP Q d):∃ b,d = .int b∧Q b:=by
 cases d <;> first |exact ⟨_,rfl,h⟩ |exact h.elim
theorem strP_inv {Q:Str→Prop} {d:PyData} (h:strP Q d):∃ b,d = .str b∧Q b:=by
 cases d <;> first |exact ⟨_,rfl,h⟩ |exact h.elim
theorem listP_inv {Q:List PyData→Prop} {d:PyData} (h:listP Q d):∃ b,d = .list b∧Q b:=by
 cases d <;> first |exact ⟨_,rfl,h⟩ |exact h.elim
theorem tupP_inv {Q:List PyData→Prop} {d:PyData} (h:tupP Q d):∃ b,d = .tuple b∧Q b:=by
 cases d <;> first |exact ⟨_,rfl,h⟩ |exact h.elim
theorem noneP_inv {G:Prop} {d:PyData} (h:noneP G d):d = .none∧G:=by
 cases d <;> first |exact ⟨rfl,h⟩ |exact h.elim
noncomputable def atD (o:Option Val) (P:PyData→Prop):Prop:=match o with
 |some (.d x)=>P x
 |_=>False
noncomputable def atO (o:Option Val) (P:List PyData→Prop):Prop:=match o with
 |some (.own x)=>P x
 |_=>False
noncomputable def atE (o:Option Val) (P:Exc→Prop):Prop:=match o with
 |some (.ex x)=>P x
 |_=>False
theorem atD_inv {o:Option Val} {P:PyData→Prop} (h:atD o P):∃ x,o=some (.d x)∧P x:=by
 rcases o with _ |(_ |_ |_ |_) <;> first |exact ⟨_,rfl,h⟩ |exact h.elim
theorem atO_inv {o:Option Val} {P:List PyData→Prop} (h:atO o P):∃ x,o=some (.own x)∧P x:=by
 rcases o with _ |(_ |_ |_ |_) <;> first |exact ⟨_,rfl,h⟩ |exact h.elim
theorem atE_inv {o:Option Val} {P:Exc→Prop} (h:atE o P):∃ x,o=some (.ex x)∧P x:=by
 rcases o with _ |(_ |_ |_ |_) <;> first |exact ⟨_,rfl,h⟩ |exact h.elim
noncomputable def orI (x:PyData) (F:Int→Prop) (D:Prop):Prop:=match x with
 | .int a=>F a
 |_=>D
noncomputable def orT (x:PyData) (F:Str→Prop) (D:Prop):Prop:=match x with
 | .str a=>F a
 |_=>D
noncomputable def orTu (x:PyData) (F:List PyData→Prop) (D:Prop):Prop:=match x with
 | .tuple a=>F a
 |_=>D
noncomputable def orN (x:PyData) (F D:Prop):Prop:=match x with
 | .none=>F
 |_=>D
theorem orI_inv {x:PyData} {F:Int→Prop} {D:Prop} (h:orI x F D):(∃ a,x = .int a∧F a)∨D:=by
 cases x <;> first |exact .inl ⟨_,rfl,h⟩ |exact .inr h
theorem orT_inv {x:PyData} {F:Str→Prop} {D:Prop} (h:orT x F D):(∃ a,x = .str a∧F a)∨D:=by
 cases x <;> first |exact .inl ⟨_,rfl,h⟩ |exact .inr h
theorem orTu_inv {x:PyData} {F:List PyData→Prop} {D:Prop} (h:orTu x F D):(∃ a,x = .tuple a∧F a)∨D:=by
 cases x <;> first |exact .inl ⟨_,rfl,h⟩ |exact .inr h
theorem orN_inv {x:PyData} {F D:Prop} (h:orN x F D):(x = .none∧F)∨D:=by
 cases x <;> first |exact .inl ⟨rfl,h⟩ |exact .inr h
noncomputable def onS {α:Type} (o:Option α) (P:α→Prop):Prop:=match o with
 |some x=>P x
 |none=>False
theorem onS_inv {α:Type} {o:Option α} {P:α→Prop} (h:onS o P):∃ x,o=some x∧P x:=by
 cases o with
 |none=>exact h.elim
 |some x=>exact ⟨x,rfl,h⟩
noncomputable def one1 (l:List Nat) (P:Nat→Prop):Prop:=match l with
 | [c]=>P c
 |_=>False
theorem one1_inv {l:List Nat} {P:Nat→Prop} (h:one1 l P):∃ c,l=[c]∧P c:=by
 rcases l with _ |⟨c,_ |_⟩
 ·exact h.elim
 ·exact ⟨c,rfl,h⟩
 ·exact h.elim
noncomputable def natP (i:Int) (P:Nat→Prop):Prop:=match i with
 | .ofNat n=>P n
 |_=>False
theorem natP_inv {i:Int} {P:Nat→Prop} (h:natP i P):∃ n:Nat,i=n∧P n:=by
 cases i with
 |ofNat n=>exact ⟨n,rfl,h⟩
 |negSucc n=>exact h.elim
noncomputable def strsP:List PyData→(List Str→Prop)→Prop
 | [],P=>P []
 |d::ds,P=>strP (fun a=>strsP ds fun xs=>P (a::xs)) d
theorem strsP_inv:∀ {ds:List PyData} {P:List Str→Prop},strsP ds P→∃ xs:List Str,ds=xs.map PyData.str∧P xs
 | [],_,h=>⟨[],rfl,h⟩
 |_::_,_,h=>
  let ⟨a,e,h⟩:=strP_inv h
  let ⟨xs,e',h⟩:=strsP_inv h
  ⟨a::xs,by rw [e,e'];rfl,h⟩
noncomputable def eqW (x y:PyData) (I:Int→Int→Prop) (T:Str→Str→Prop) (D:Prop):Prop:=orI x (fun a=>orI y (I a) D) (orT x (fun a=>orT y (T a) D) D)
theorem eqW_inv {x y:PyData} {I:Int→Int→Prop} {T:Str→Str→Prop} {D:Prop} (h:eqW x y I T D):(∃ a b,x = .int a∧y = .int b∧I a b)∨(∃ a b,x = .str a∧y = .str b∧T a b)∨D:=by
 rcases orI_inv h with ⟨a,e,h⟩ |h
 ·rcases orI_inv h with ⟨b,e',h⟩ |h
  ·exact .inl ⟨a,b,e,e',h⟩
  ·exact .inr (.inr h)
 ·rcases orT_inv h with ⟨a,e,h⟩ |h
  ·rcases orT_inv h with ⟨b,e',h⟩ |h
   ·exact .inr (.inl ⟨a,b,e,e',h⟩)
   ·exact .inr (.inr h)
  ·exact .inr (.inr h)
noncomputable def ii (x y:PyData) (F:Int→Int→Prop):Prop:=intP (fun a=>intP (F a) y) x
noncomputable def isW (x y:PyData) (F G:Prop):Prop:=noneP (orN x F (orTu x (fun _=>G) (listP (fun _=>G) x))) y
theorem isW_inv {x y:PyData} {F G:Prop} (h:isW x y F G):y = .none∧((x = .none∧F)∨(∃ a,x = .tuple a∧G)∨∃ a,x = .list a∧G):=
 let ⟨e,h⟩:=noneP_inv h
 ⟨e,(orN_inv h).imp id fun h=>(orTu_inv h).imp id listP_inv⟩
noncomputable def inW (x y:PyData) (T:Str→List Str→Prop) (C:Nat→Str→Prop):Prop:=strP (fun a=>orT y (fun b=>one1 a.cps.toList fun c=>C c b) (tupP (fun ds=>strsP ds (T a)) y)) x
theorem inW_inv {x y:PyData} {T:Str→List Str→Prop} {C:Nat→Str→Prop} (h:inW x y T C):(∃ c b,x = .str (S [c])∧y = .str b∧C c b)∨∃ a xs,x = .str a∧y = .tuple (xs.map PyData.str)∧T a xs:=by
 obtain ⟨a,rfl,h⟩:=strP_inv h
 rcases orT_inv h with ⟨b,e,h⟩ |h
 ·obtain ⟨c,e',h⟩:=one1_inv h
  exact .inl ⟨c,b,by rw [← S_of a,e'],e,h⟩
 ·obtain ⟨ds,e,h⟩:=tupP_inv h
  obtain ⟨xs,e',h⟩:=strsP_inv h
  exact .inr ⟨a,xs,rfl,by rw [e,e'],h⟩
noncomputable def cmpW (op:CmpOp) (x y:PyData) (Q:PyData→Prop):Prop:=match op with
 | .Eq=>eqW x y (fun a b=>Q (.bool (decide (a=b)))) (fun a b=>Q (.bool (decide (a.cps.toList=b.cps.toList)))) (SeqAt.shaped x=true∧SeqAt.shaped y=true∧Q (.bool (PyData.eqv x y)))
 | .NotEq=>eqW x y (fun a b=>Q (.bool (decide (a≠b)))) (fun a b=>Q (.bool (decide (a.cps.toList≠b.cps.toList)))) (SeqAt.shaped x=true∧SeqAt.shaped y=true∧Q (.bool (!PyData.eqv x y)))
 | .Lt=>ii x y fun a b=>Q (.bool (decide (a<b)))
 | .LtE=>ii x y fun a b=>Q (.bool (decide (a≤b)))
 | .Gt=>ii x y fun a b=>Q (.bool (decide (b<a)))
 | .GtE=>ii x y fun a b=>Q (.bool (decide (b≤a)))
 | .Is=>isW x y (Q (.bool true)) (Q (.bool false))
 | .IsNot=>isW x y (Q (.bool false)) (Q (.bool true))
 | .In=>inW x y (fun a xs=>Q (.bool (decide (a ∈ xs)))) fun c b=>Q (.bool (decide (c ∈ b.cps.toList)))
 | .NotIn=>inW x y (fun a xs=>Q (.bool (decide (a ∉ xs)))) fun c b=>Q (.bool (decide (c ∉ b.cps.toList)))
noncomputable def binW (op:Bop) (x y:PyData) (Q:PyData→Prop):Prop:=match op with
 | .add=>orI x (fun a=>intP (fun b=>Q (.int (a+b))) y) (orT x (fun a=>strP (fun b=>a.cps.toList.length+b.cps.toList.length≤lim∧Q (.str (S (a.cps.toList++b.cps.toList)))) y) (listP (fun a=>listP (fun b=>a.length+b.length≤lim∧Q (.list (a++b))) y) x))
 | .sub=>ii x y fun a b=>Q (.int (a - b))
 | .mul=>ii x y fun a b=>0≤a∧a≤2 ^ 30∧0≤b∧b≤2 ^ 30∧Q (.int (a * b))
 | .fdiv=>ii x y fun a b=>0<b∧b≤2 ^ 20∧Q (.int (a.fdiv b))
 | .fmod=>ii x y fun a b=>0<b∧b≤2 ^ 21∧Q (.int (a.fmod b))
noncomputable def idxW (x y:PyData) (Q:PyData→Prop):Prop:=intP (fun i=>natP i fun n=>n<lim∧orT x (fun a=>onS a.cps.toList[n]? fun c=>Q (.str (S [c]))) (orTu x (fun a=>onS a[n]? Q) (listP (fun a=>onS a[n]? Q) x))) y
noncomputable def optP:Option PyData→(Option Nat→Prop)→Prop
 |none,F=>F none
 |some d,F=>intP (fun i=>natP i fun n=>F (some n)) d
noncomputable def cut {α:Type} (l:List α) (lo hi:Option Nat):List α:=match hi with
 |none=>l.drop (lo.getD 0)
 |some b=>(l.drop (lo.getD 0)).take (b - lo.getD 0)
noncomputable def slW (x:PyData) (lo hi:Option PyData) (Q:PyData→Prop):Prop:=optP lo fun l=>optP hi fun h=>
 orT x (fun a=>a.cps.toList.length≤lim∧Q (.str (S (cut a.cps.toList l h)))) (orTu x (fun a=>h=none∧onS l fun n=>1≤n∧n≤a.length∧a.length≤lim∧Q (.tuple (a.drop n))) (listP (fun a=>a.length≤lim∧Q (.list (cut a l h))) x))
noncomputable def lenW (x:PyData) (Q:PyData→Prop):Prop:=orT x (fun a=>a.cps.toList.length≤lim∧Q (.int a.cps.toList.length)) (orTu x (fun a=>a.length≤lim∧Q (.int a.length)) (listP (fun a=>a.length≤lim∧Q (.int a.length)) x))
noncomputable def findFirst (l:List Nat) (c:Nat):Int:=match l.findIdx? (· == c) with
 |some i=>i
 |none => -1
noncomputable def joinL (sep:List Nat):List (List Nat)→List Nat
 | []=>[]
 | [x]=>x
 |x::r=>x++sep++joinL sep r
noncomputable def joinW (a:Str) (ds:List PyData) (Q:PyData→Prop):Prop:=strsP ds fun xs=>a.cps.toList.length≤1∧(joinL a.cps.toList (xs.map (·.cps.toList))).length≤lim∧xs.length≤lim∧Q (.str (S (joinL a.cps.toList (xs.map (·.cps.toList)))))
noncomputable def rr (P:PyData→Prop) (E:Exc→Prop):RR→Prop
 | .ok d=>P d
 | .exc X=>E X
noncomputable def exV:Nat→Exc→PyData
 |0,_ => .int 1
 |1,x => .str x.value
 |_,x=>x.ec
noncomputable def notL (x:PyData) (P:Prop):Prop:=match x with
 | .list _=>False
 |_=>P
theorem notL_inv {x:PyData} {P:Prop} (h:notL x P):(∀ l,x ≠ .list l)∧P:=by
 cases x <;> first |exact h.elim |exact ⟨fun _ q=>(by cases q),h⟩
noncomputable def compW (elt:PyData→(PyData→Prop)→Prop) (cond:PyData→(Bool→Prop)→Prop):List PyData→List PyData→(PyData→Prop)→Prop
 | [],acc,Q=>acc.length≤lim∧Q (.list acc)
 |x::r,acc,Q=>acc.length≤lim∧cond x fun b=>if b=true then elt x fun y=>compW elt cond r (acc++[y]) Q else compW elt cond r acc Q
section
variable (Φ:Nat→List PyData→RR→Prop) (req:Nat→Nat) (k:Nat)
mutual
noncomputable def PE.wp (lv:Nat):PE→Loc→(PyData→Prop)→(Exc→Prop)→Prop
 | .k c,_,Q,_=>Q c
 | .v i,ρ,Q,_=>atD ρ[i]? Q
 | .tup es,ρ,Q,E=>PE.wps lv es ρ (fun ds=>Q (.tuple ds)) E
 | .lst es,ρ,Q,E=>PE.wps lv es ρ (fun ds=>Q (.list ds)) E
 | .not e,ρ,Q,E=>PE.wp lv e ρ (boolP fun b=>Q (.bool !b)) E
 | .neg e,ρ,Q,E=>PE.wp lv e ρ (intP fun i=>Q (.int (-i))) E
 | .and es,ρ,Q,E=>PE.wpA lv es ρ Q E
 | .or es,ρ,Q,E=>PE.wpO lv es ρ Q E
 | .ife t a b,ρ,Q,E=>PE.wp lv t ρ (boolP fun c=>if c=true then PE.wp lv a ρ Q E else PE.wp lv b ρ Q E) E
 | .bin op a b,ρ,Q,E=>PE.wp lv a ρ (fun x=>PE.wp lv b ρ (fun y=>binW op x y Q) E) E
 | .cmp op a b,ρ,Q,E=>PE.wp lv a ρ (fun x=>PE.wp lv b ρ (fun y=>cmpW op x y Q) E) E
 | .cmp2 o1 o2 a b c,ρ,Q,E=>PE.wp lv a ρ (fun x=>PE.wp lv b ρ (fun y=>cmpW o1 x y (boolP fun t=>if t=true then PE.wp lv c ρ (fun z=>cmpW o2 y z Q) E else Q (.bool false))) E) E
 | .idx a i,ρ,Q,E=>PE.wp lv a ρ (fun x=>PE.wp lv i ρ (fun y=>idxW x y Q) E) E
 | .sl a lo hi,ρ,Q,E=>PE.wp lv a ρ (fun x=>PE.wpo lv lo ρ (fun l=>PE.wpo lv hi ρ (fun h=>slW x l h Q) E) E) E
 | .call f args,ρ,Q,E=>PE.wps lv args ρ (fun ds=>f<k∧req f≤lv∧∃ r,Φ f ds r∧rr Q E r) E
 | .len a,ρ,Q,E=>PE.wp lv a ρ (fun x=>lenW x Q) E
 | .ord a,ρ,Q,E=>PE.wp lv a ρ (strP fun s=>one1 s.cps.toList fun c=>Q (.int c)) E
 | .chr a,ρ,Q,E=>PE.wp lv a ρ (intP fun i=>natP i fun n=>n≤1114111∧Q (.str (S [n]))) E
 | .find a b,ρ,Q,E=>PE.wp lv a ρ (strP fun s=>PE.wp lv b ρ (strP fun t=>one1 t.cps.toList fun c=>Q (.int (findFirst s.cps.toList c))) E) E
 | .join a b,ρ,Q,E=>PE.wp lv a ρ (strP fun x=>PE.wp lv b ρ (listP fun ds=>joinW x ds Q) E) E
 | .lenO i,ρ,Q,_=>atO ρ[i]? fun ds=>ds.length≤lim∧Q (.int ds.length)
 | .joinO a i,ρ,Q,E=>PE.wp lv a ρ (strP fun x=>atO ρ[i]? fun ds=>joinW x ds Q) E
 | .tupO i,ρ,Q,_=>atO ρ[i]? fun ds=>ds.length≤lim∧Q (.tuple ds)
 | .idxO i a,ρ,Q,E=>atO ρ[i]? fun ds=>PE.wp lv a ρ (fun y=>idxW (.list ds) y Q) E
 | .exA i n,ρ,Q,_=>atE ρ[i]? fun x=>Q (exV n x)
 | .comp elt it cond,ρ,Q,E=>1≤lv∧PE.wp lv it ρ (tupP fun xs=>xs.length≤lim∧compW (fun x Q=>PE.wp lv elt [.d x] Q fun _=>False) (fun x Q=>PE.wpc lv cond [.d x] Q) xs [] Q) E
 | .pcs e,ρ,Q,E=>PE.wp lv e ρ (intP fun i=>natP i fun n=>onS pieces[n]? fun t=>Q (.str (S t))) E
 | .cmpP it,ρ,Q,E=>lv=2∧PE.wp lv it ρ (listP fun xs=>xs.length≤lim∧∃ ns:List Int,xs=ns.map PyData.int∧Q (.list (ns.map fun n => .str (S (pcOf n))))) E
noncomputable def PE.wps (lv:Nat):List PE→Loc→(List PyData→Prop)→(Exc→Prop)→Prop
 | [],_,Q,_=>Q []
 |e::es,ρ,Q,E=>PE.wp lv e ρ (fun d=>PE.wps lv es ρ (fun ds=>Q (d::ds)) E) E
noncomputable def PE.wpo (lv:Nat):Option PE→Loc→(Option PyData→Prop)→(Exc→Prop)→Prop
 |none,_,Q,_=>Q none
 |some e,ρ,Q,E=>PE.wp lv e ρ (fun d=>Q (some d)) E
noncomputable def PE.wpc (lv:Nat):Option PE→Loc→(Bool→Prop)→Prop
 |none,_,Q=>Q true
 |some e,ρ,Q=>PE.wp lv e ρ (boolP Q) fun _=>False
noncomputable def PE.wpA (lv:Nat):List PE→Loc→(PyData→Prop)→(Exc→Prop)→Prop
 | [],_,_,_=>False
 | [e],ρ,Q,E=>PE.wp lv e ρ Q E
 |e::es,ρ,Q,E=>PE.wp lv e ρ (boolP fun c=>if c=true then PE.wpA lv es ρ Q E else Q (.bool false)) E
noncomputable def PE.wpO (lv:Nat):List PE→Loc→(PyData→Prop)→(Exc→Prop)→Prop
 | [],_,_,_=>False
 | [e],ρ,Q,E=>PE.wp lv e ρ Q E
 |e::es,ρ,Q,E=>PE.wp lv e ρ (boolP fun c=>if c=true then Q (.bool true) else PE.wpO lv es ρ Q E) E
end
noncomputable def setAll:Loc→List Nat→List PyData→Loc
 |ρ,i::is,d::ds=>setAll (ρ.set i (.d d)) is ds
 |ρ,_,_=>ρ
noncomputable def sq (f:Loc→Prop) (Q:Out→Prop):Out→Prop
 | .nxt ρ=>f ρ
 | .brk ρ=>Q (.brk ρ)
 | .ret d=>Q (.ret d)
 | .exc x=>Q (.exc x)
noncomputable def lq (f:Loc→Prop) (Q:Out→Prop):Out→Prop
 | .nxt ρ=>f ρ
 | .brk ρ=>Q (.nxt ρ)
 | .ret d=>Q (.ret d)
 | .exc x=>Q (.exc x)
noncomputable def fq (f:Loc→Prop) (Q:Out→Prop):Out→Prop
 | .nxt ρ=>f ρ
 | .brk ρ=>Q (.nxt ρ)
 | .ret d=>Q (.ret d)
 | .exc _=>False
noncomputable def rq (Q:Out→Prop):Out→Prop
 | .ret d=>Q (.ret d)
 |_=>False
noncomputable def loopW (test:Loc→(PyData→Prop)→(Exc→Prop)→Prop) (body:Loc→(Out→Prop)→Prop) (Q:Out→Prop):Nat→Loc→Prop
 |0,_=>False
 |n+1,ρ=>test ρ (boolP fun c=>if c=true then body ρ (lq (loopW test body Q n) Q) else Q (.nxt ρ)) fun x=>Q (.exc x)
noncomputable def forW (i:Nat) (body:Loc→(Out→Prop)→Prop) (Q:Out→Prop):List PyData→Loc→Prop
 | [],ρ=>Q (.nxt ρ)
 |x::r,ρ=>body (ρ.set i (.d x)) (fq (forW i body Q r) Q)
mutual
noncomputable def PS.wp (lv:Nat):PS→Loc→(Out→Prop)→Prop
 | .asg i e,ρ,Q=>PE.wp Φ req k lv e ρ (fun d=>Q (.nxt (ρ.set i (.d d)))) fun x=>Q (.exc x)
 | .upk is e,ρ,Q=>1≤lv∧PE.wp Φ req k lv e ρ (tupP fun ds=>ds.length=is.length∧Q (.nxt (setAll ρ is ds))) fun x=>Q (.exc x)
 | .upkT is es,ρ,Q=>1≤lv∧PE.wps Φ req k lv es ρ (fun ds=>Q (.nxt (setAll ρ is ds))) fun x=>Q (.exc x)
 | .newO i,ρ,Q=>Q (.nxt (ρ.set i (.own [])))
 | .upkO i is es,ρ,Q=>1≤lv∧PE.wps Φ req k lv es ρ (fun ds=>Q (.nxt ((setAll ρ is ds).set i (.own [])))) fun x=>Q (.exc x)
 | .app i e,ρ,Q=>atO ρ[i]? fun xs=>PE.wp Φ req k lv e ρ (fun d=>xs.length≤lim∧Q (.nxt (ρ.set i (.own (xs++[d]))))) fun x=>Q (.exc x)
 | .aug i op e,ρ,Q=>atD ρ[i]? fun x=>notL x (PE.wp Φ req k lv e ρ (fun y=>binW op x y fun d=>Q (.nxt (ρ.set i (.d d)))) fun x=>Q (.exc x))
 | .ite t a b,ρ,Q=>PE.wp Φ req k lv t ρ (boolP fun c=>if c=true then PS.wps lv a ρ Q else PS.wps lv b ρ Q) fun x=>Q (.exc x)
 | .whl t b,ρ,Q=>∃ n,loopW (PE.wp Φ req k lv t) (fun ρ Q=>PS.wps lv b ρ Q) Q n ρ
 | .forS i e b,ρ,Q=>lv=2∧PE.wp Φ req k lv e ρ (strP fun x=>x.length≤lim∧forW i (fun ρ Q=>PS.wps lv b ρ Q) Q (x.cps.toList.map fun c => .str (S [c])) ρ) fun x=>Q (.exc x)
 | .forL i e b,ρ,Q=>lv=2∧PE.wp Φ req k lv e ρ (listP fun xs=>xs.length≤lim∧forW i (fun ρ Q=>PS.wps lv b ρ Q) Q xs ρ) fun x=>Q (.exc x)
 | .ret e,ρ,Q=>PE.wp Φ req k lv e ρ (fun d=>Q (.ret d)) fun x=>Q (.exc x)
 | .ret0,_,Q=>Q (.ret .none)
 | .rai m ec,ρ,Q=>1≤lv∧PE.wp Φ req k lv m ρ (strP fun x=>PE.wpo Φ req k lv ec ρ (fun c=>Q (.exc ⟨x,c.getD (.tuple [.str (S [78,79,78,69])])⟩)) fun x=>Q (.exc x)) fun x=>Q (.exc x)
 | .brk,ρ,Q=>Q (.brk ρ)
 | .tryR e i h,ρ,Q=>lv≤2∧PE.wp Φ req k lv e ρ (fun d=>Q (.ret d)) fun x=>PS.wps (lv - 1) h (ρ.set i (.ex x)) (rq Q)
 | .tryE e i h,ρ,Q=>lv≤2∧PE.wp Φ req k lv e ρ (fun _=>Q (.nxt ρ)) fun x=>PS.wps (lv - 1) h (ρ.set i (.ex x)) (rq Q)
 | .exp e,ρ,Q=>PE.wp Φ req k lv e ρ (noneP (Q (.nxt ρ))) fun x=>Q (.exc x)
 | .frz i,ρ,Q=>atO ρ[i]? fun xs=>Q (.nxt (ρ.set i (.d (.list xs))))
 | .sto t w e,ρ,Q=>atO ρ[t]? fun xs=>atD ρ[w]? (intP fun i=>natP i fun n=>PE.wp Φ req k lv e ρ (fun d=>n<xs.length∧xs.length≤lim∧Q (.nxt (ρ.set t (.own (xs.set n d))))) fun x=>Q (.exc x))
 | .forR i b,ρ,Q=>lv=2∧forW i (fun ρ Q=>PS.wps lv b ρ Q) Q [.int 7,.int 21,.int 35,.int 49] ρ
noncomputable def PS.wps (lv:Nat):List PS→Loc→(Out→Prop)→Prop
 | [],ρ,Q=>Q (.nxt ρ)
 |s::r,ρ,Q=>PS.wp lv s ρ (sq (fun ρ'=>PS.wps lv r ρ' Q) Q)
end
end
end Mine
end
section
open PySem PySem.W PyProof.Rows
namespace Mine
noncomputable abbrev Orc:=List Nat
noncomputable def kB (F:Bool→Prop):PyData→Prop
 | .bool b=>F b
 |_=>True
noncomputable def kI (F:Int→Prop):PyData→Prop
 | .int b=>F b
 |_=>True
noncomputable def kS (F:Str→Prop):PyData→Prop
 | .str b=>F b
 |_=>True
noncomputable def kL (F:List PyData→Prop):PyData→Prop
 | .list b=>F b
 |_=>True
noncomputable def kT (F:List PyData→Prop):PyData→Prop
 | .tuple b=>F b
 |_=>True
noncomputable def kN (G:Prop):PyData→Prop
 | .none=>G
 |_=>True
noncomputable def kD (o:Option Val) (F:PyData→Prop):Prop:=match o with
 |some (.d x)=>F x
 |_=>True
noncomputable def kO (o:Option Val) (F:List PyData→Prop):Prop:=match o with
 |some (.own x)=>F x
 |_=>True
noncomputable def kE (o:Option Val) (F:Exc→Prop):Prop:=match o with
 |some (.ex x)=>F x
 |_=>True
noncomputable def kX (x:PyData) (G:Prop):Prop:=match x with
 | .list _=>True
 |_=>G
noncomputable def kV {α:Type} (o:Option α) (F:α→Prop):Prop:=∀ c,o=some c→F c
noncomputable def kC1 (l:List Nat) (F:Nat→Prop):Prop:=match l with
 | [c]=>F c
 |_=>True
noncomputable def kNat (i:Int) (F:Nat→Prop):Prop:=match i with
 | .ofNat n=>F n
 |_=>True
noncomputable def kStrs:List PyData→(List Str→Prop)→Prop
 | [],F=>F []
 |d::ds,F=>kS (fun a=>kStrs ds fun xs=>F (a::xs)) d
noncomputable def kTest (o:Orc) (b:Bool) (A B:Orc→Prop):Prop:=match o with
 |0::o=>b=false→B o
 |1::o=>b=true→A o
 |_::o=>match b with
  |true=>A o
  |false=>B o
 | []=>True
section
variable {R:Prop}
theorem kB_ok {F F':Bool→Prop} {d:PyData} (h:boolP F d→R) (g:∀ b,(F b→R)→F' b):kB F' d:=by cases d <;> first |exact g _ h |trivial
theorem kI_ok {F F':Int→Prop} {d:PyData} (h:intP F d→R) (g:∀ b,(F b→R)→F' b):kI F' d:=by cases d <;> first |exact g _ h |trivial
theorem kS_ok {F F':Str→Prop} {d:PyData} (h:strP F d→R) (g:∀ b,(F b→R)→F' b):kS F' d:=by cases d <;> first |exact g _ h |trivial
theorem kL_ok {F F':List PyData→Prop} {d:PyData} (h:listP F d→R) (g:∀ b,(F b→R)→F' b):kL F' d:=by cases d <;> first |exact g _ h |trivial
theorem kT_ok {F F':List PyData→Prop} {d:PyData} (h:tupP F d→R) (g:∀ b,(F b→R)→F' b):kT F' d:=by cases d <;> first |exact g _ h |trivial
theorem kN_ok {G G':Prop} {d:PyData} (h:noneP G d→R) (g:(G→R)→G'):kN G' d:=by cases d <;> first |exact g h |trivial
theorem kD_ok {o:Option Val} {F F':PyData→Prop} (h:atD o F→R) (g:∀ b,(F b→R)→F' b):kD o F':=by
 rcases o with _ |(_ |_ |_ |_) <;> first |exact g _ h |trivial
theorem kO_ok {o:Option Val} {F F':List PyData→Prop} (h:atO o F→R) (g:∀ b,(F b→R)→F' b):kO o F':=by
 rcases o with _ |(_ |_ |_ |_) <;> first |exact g _ h |trivial
theorem kE_ok {o:Option Val} {F F':Exc→Prop} (h:atE o F→R) (g:∀ b,(F b→R)→F' b):kE o F':=by
 rcases o with _ |(_ |_ |_ |_) <;> first |exact g _ h |trivial
theorem kX_ok {x:PyData} {G G':Prop} (h:notL x G→R) (g:(G→R)→G'):kX x G':=by cases x <;> first |exact g h |trivial
theorem kV_ok {α:Type} {o:Option α} {F F':α→Prop} (h:onS o F→R) (g:∀ b,(F b→R)→F' b):kV o F':=fun c e=>g c fun f=>h (by rw [e];exact f)
theorem kC1_ok {l:List Nat} {F F':Nat→Prop} (h:one1 l F→R) (g:∀ b,(F b→R)→F' b):kC1 l F':=by
 rcases l with _ |⟨c,_ |_⟩ <;> first |exact g _ h |trivial
theorem kNat_ok {i:Int} {F F':Nat→Prop} (h:natP i F→R) (g:∀ b,(F b→R)→F' b):kNat i F':=by cases i <;> first |exact g _ h |trivial
theorem kStrs_ok {ds:List PyData}:∀ {F F':List Str→Prop},(strsP ds F→R)→(∀ b,(F b→R)→F' b)→kStrs ds F':=by
 induction ds with
 |nil=>intro F F' h g;exact g _ h
 |cons d ds ih=>intro F F' h g;exact kS_ok h fun a h=>ih h fun xs h=>g _ h
theorem kTest_ok {A B:Prop} {A' B':Orc→Prop} {o:Orc} {b:Bool} (h:(if b=true then A else B)→R) (g:∀ o,(A→R)→A' o) (g':∀ o,(B→R)→B' o):kTest o b A' B':=by
 have ht:b=true→A→R:=fun e a=>h (by rw [if_pos e];exact a)
 have hf:b=false→B→R:=fun e a=>h (by rw [if_neg (by rw [e];exact Bool.false_ne_true)];exact a)
 match o with
 | []=>trivial
 |0::o=>exact fun e=>g' o (hf e)
 |1::o=>exact fun e=>g o (ht e)
 |(n+2)::o=>cases b with
  |true=>exact g o (ht rfl)
  |false=>exact g' o (hf rfl)
theorem orI_ok {x:PyData} {F F':Int→Prop} {D D':Prop} (h:orI x F D→R) (g:∀ b,(F b→R)→F' b) (g':(D→R)→D'):orI x F' D':=by cases x <;> first |exact g _ h |exact g' h
theorem orT_ok {x:PyData} {F F':Str→Prop} {D D':Prop} (h:orT x F D→R) (g:∀ b,(F b→R)→F' b) (g':(D→R)→D'):orT x F' D':=by cases x <;> first |exact g _ h |exact g' h
theorem orTu_ok {x:PyData} {F F':List PyData→Prop} {D D':Prop} (h:orTu x F D→R) (g:∀ b,(F b→R)→F' b) (g':(D→R)→D'):orTu x F' D':=by cases x <;> first |exact g _ h |exact g' h
theorem orN_ok {x:PyData} {F F' D D':Prop} (h:orN x F D→R) (g:(F→R)→F') (g':(D→R)→D'):orN x F' D':=by cases x <;> first |exact g h |exact g' h
theorem eqW_ok {x y:PyData} {I I':Int→Int→Prop} {T T':Str→Str→Prop} {D D':Prop} (h:eqW x y I T D→R) (g:∀ a b,(I a b→R)→I' a b) (g':∀ a b,(T a b→R)→T' a b) (g'':(D→R)→D'):eqW x y I' T' D':=
 orI_ok h (fun a h=>orI_ok h (g a) g'') fun h=>orT_ok h (fun a h=>orT_ok h (g' a) g'') g''
end
noncomputable def kii (x y:PyData) (F:Int→Int→Prop):Prop:=kI (fun a=>kI (F a) y) x
theorem kii_ok {R:Prop} {x y:PyData} {F F':Int→Int→Prop} (h:ii x y F→R) (g:∀ a b,(F a b→R)→F' a b):kii x y F':=kI_ok h fun a h=>kI_ok h (g a)
noncomputable def cmpK (op:CmpOp) (x y:PyData) (Q:PyData→Prop):Prop:=match op with
 | .Eq=>eqW x y (fun a b=>Q (.bool (decide (a=b)))) (fun a b=>Q (.bool (decide (a.cps.toList=b.cps.toList)))) (SeqAt.shaped x=true→SeqAt.shaped y=true→Q (.bool (PyData.eqv x y)))
 | .NotEq=>eqW x y (fun a b=>Q (.bool (decide (a≠b)))) (fun a b=>Q (.bool (decide (a.cps.toList≠b.cps.toList)))) (SeqAt.shaped x=true→SeqAt.shaped y=true→Q (.bool (!PyData.eqv x y)))
 | .Lt=>kii x y fun a b=>Q (.bool (decide (a<b)))
 | .LtE=>kii x y fun a b=>Q (.bool (decide (a≤b)))
 | .Gt=>kii x y fun a b=>Q (.bool (decide (b<a)))
 | .GtE=>kii x y fun a b=>Q (.bool (decide (b≤a)))
 | .Is=>kN (orN x (Q (.bool true)) (orTu x (fun _=>Q (.bool false)) (kL (fun _=>Q (.bool false)) x))) y
 | .IsNot=>kN (orN x (Q (.bool false)) (orTu x (fun _=>Q (.bool true)) (kL (fun _=>Q (.bool true)) x))) y
 | .In=>kS (fun a=>orT y (fun b=>kC1 a.cps.toList fun c=>Q (.bool (decide (c ∈ b.cps.toList)))) (kT (fun ds=>kStrs ds fun xs=>Q (.bool (decide (a ∈ xs)))) y)) x
 | .NotIn=>kS (fun a=>orT y (fun b=>kC1 a.cps.toList fun c=>Q (.bool (decide (c ∉ b.cps.toList)))) (kT (fun ds=>kStrs ds fun xs=>Q (.bool (decide (a ∉ xs)))) y)) x
theorem cmpK_ok {R:Prop} {op:CmpOp} {x y:PyData} {Q Q':PyData→Prop} (h:cmpW op x y Q→R) (g:∀ b,(Q b→R)→Q' b):cmpK op x y Q':=by
 cases op with
 |Eq=>exact eqW_ok h (fun _ _ h=>g _ h) (fun _ _ h=>g _ h) fun h e e'=>g _ fun q=>h ⟨e,e',q⟩
 |NotEq=>exact eqW_ok h (fun _ _ h=>g _ h) (fun _ _ h=>g _ h) fun h e e'=>g _ fun q=>h ⟨e,e',q⟩
 |Lt=>exact kii_ok h fun _ _ h=>g _ h
 |LtE=>exact kii_ok h fun _ _ h=>g _ h
 |Gt=>exact kii_ok h fun _ _ h=>g _ h
 |GtE=>exact kii_ok h fun _ _ h=>g _ h
 |Is=>exact kN_ok h fun h=>orN_ok h (g _) fun h=>orTu_ok h (fun _=>g _) fun h=>kL_ok h fun _=>g _
 |IsNot=>exact kN_ok h fun h=>orN_ok h (g _) fun h=>orTu_ok h (fun _=>g _) fun h=>kL_ok h fun _=>g _
 |In=>exact kS_ok h fun _ h=>orT_ok h (fun _ h=>kC1_ok h fun _=>g _) fun h=>kT_ok h fun _ h=>kStrs_ok h fun _=>g _
 |NotIn=>exact kS_ok h fun _ h=>orT_ok h (fun _ h=>kC1_ok h fun _=>g _) fun h=>kT_ok h fun _ h=>kStrs_ok h fun _=>g _
noncomputable def binK (op:Bop) (x y:PyData) (Q:PyData→Prop):Prop:=match op with
 | .add=>orI x (fun a=>kI (fun b=>Q (.int (a+b))) y) (orT x (fun a=>kS (fun b=>a.cps.toList.length+b.cps.toList.length≤lim→Q (.str (S (a.cps.toList++b.cps.toList)))) y) (kL (fun a=>kL (fun b=>a.length+b.length≤lim→Q (.list (a++b))) y) x))
 | .sub=>kii x y fun a b=>Q (.int (a - b))
 | .mul=>kii x y fun a b=>0≤a→a≤2 ^ 30→0≤b→b≤2 ^ 30→Q (.int (a * b))
 | .fdiv=>kii x y fun a b=>0<b→b≤2 ^ 20→Q (.int (a.fdiv b))
 | .fmod=>kii x y fun a b=>0<b→b≤2 ^ 21→Q (.int (a.fmod b))
theorem binK_ok {R:Prop} {op:Bop} {x y:PyData} {Q Q':PyData→Prop} (h:binW op x y Q→R) (g:∀ b,(Q b→R)→Q' b):binK op x y Q':=by
 cases op with
 |add=>exact orI_ok h (fun _ h=>kI_ok h fun _=>g _) fun h=>orT_ok h (fun _ h=>kS_ok h fun _ h e=>g _ fun q=>h ⟨e,q⟩) fun h=>kL_ok h fun _ h=>kL_ok h fun _ h e=>g _ fun q=>h ⟨e,q⟩
 |sub=>exact kii_ok h fun _ _=>g _
 |mul=>exact kii_ok h fun _ _ h e1 e2 e3 e4=>g _ fun q=>h ⟨e1,e2,e3,e4,q⟩
 |fdiv=>exact kii_ok h fun _ _ h e1 e2=>g _ fun q=>h ⟨e1,e2,q⟩
 |fmod=>exact kii_ok h fun _ _ h e1 e2=>g _ fun q=>h ⟨e1,e2,q⟩
noncomputable def idxK (x y:PyData) (Q:PyData→Prop):Prop:=kI (fun i=>kNat i fun n=>n<lim→orT x (fun a=>kV a.cps.toList[n]? fun c=>Q (.str (S [c]))) (orTu x (fun a=>kV a[n]? Q) (kL (fun a=>kV a[n]? Q) x))) y
theorem idxK_ok {R:Prop} {x y:PyData} {Q Q':PyData→Prop} (h:idxW x y Q→R) (g:∀ b,(Q b→R)→Q' b):idxK x y Q':=
 kI_ok h fun _ h=>kNat_ok h fun _ h e=>orT_ok (fun q=>h ⟨e,q⟩) (fun _ h=>kV_ok h fun _=>g _) fun h=>orTu_ok h (fun _ h=>kV_ok h g) fun h=>kL_ok h fun _ h=>kV_ok h g
noncomputable def kOpt:Option PyData→(Option Nat→Prop)→Prop
 |none,F=>F none
 |some d,F=>kI (fun i=>kNat i fun n=>F (some n)) d
theorem kOpt_ok {R:Prop} {o:Option PyData} {F F':Option Nat→Prop} (h:optP o F→R) (g:∀ b,(F b→R)→F' b):kOpt o F':=by
 cases o with
 |none=>exact g _ h
 |some d=>exact kI_ok h fun _ h=>kNat_ok h fun _=>g _
noncomputable def slK (x:PyData) (lo hi:Option PyData) (Q:PyData→Prop):Prop:=kOpt lo fun l=>kOpt hi fun h=>
 orT x (fun a=>a.cps.toList.length≤lim→Q (.str (S (cut a.cps.toList l h)))) (orTu x (fun a=>h=none→kV l fun n=>1≤n→n≤a.length→a.length≤lim→Q (.tuple (a.drop n))) (kL (fun a=>a.length≤lim→Q (.list (cut a l h))) x))
theorem slK_ok {R:Prop} {x:PyData} {lo hi:Option PyData} {Q Q':PyData→Prop} (h:slW x lo hi Q→R) (g:∀ b,(Q b→R)→Q' b):slK x lo hi Q':=
 kOpt_ok h fun _ h=>kOpt_ok h fun _ h=>orT_ok h (fun _ h e=>g _ fun q=>h ⟨e,q⟩) fun h=>orTu_ok h (fun _ h e=>kV_ok (fun q=>h ⟨e,q⟩) fun _ h e1 e2 e3=>g _ fun q=>h ⟨e1,e2,e3,q⟩) fun h=>kL_ok h fun _ h e=>g _ fun q=>h ⟨e,q⟩
noncomputable def lenK (x:PyData) (Q:PyData→Prop):Prop:=orT x (fun a=>a.cps.toList.length≤lim→Q (.int a.cps.toList.length)) (orTu x (fun a=>a.length≤lim→Q (.int a.length)) (kL (fun a=>a.length≤lim→Q (.int a.length)) x))
theorem lenK_ok {R:Prop} {x:PyData} {Q Q':PyData→Prop} (h:lenW x Q→R) (g:∀ b,(Q b→R)→Q' b):lenK x Q':=
 orT_ok h (fun _ h e=>g _ fun q=>h ⟨e,q⟩) fun h=>orTu_ok h (fun _ h e=>g _ fun q=>h ⟨e,q⟩) fun h=>kL_ok h fun _ h e=>g _ fun q=>h ⟨e,q⟩
noncomputable def joinK (a:Str) (ds:List PyData) (Q:PyData→Prop):Prop:=∀ xs:List (List Nat),ds=xs.map (fun x=>PyData.str (S x))→a.cps.toList.length≤1→(joinL a.cps.toList xs).length≤lim→xs.length≤lim→Q (.str (S (joinL a.cps.toList xs)))
theorem joinK_ok {R:Prop} {a:Str} {ds:List PyData} {Q Q':PyData→Prop} (h:joinW a ds Q→R) (g:∀ b,(Q b→R)→Q' b):joinK a ds Q':=fun xs e e1 e2 e3=>g _ fun q=>h (by
 have go:∀ (xs:List (List Nat)) (F:List Str→Prop),F (xs.map S)→strsP (xs.map fun x=>PyData.str (S x)) F:=by
  intro xs
  induction xs with
  |nil=>exact fun F q=>q
  |cons x xs ih=>exact fun F q=>ih (fun ys=>F (S x::ys)) q
 rw [e]
 refine go xs _ ?_
 have e':(xs.map S).map (·.cps.toList)=xs:=by rw [List.map_map];exact (List.map_congr_left (g:=id) fun x _=>rfl).trans (List.map_id _)
 rw [e',List.length_map]
 exact ⟨e1,e2,e3,q⟩)
noncomputable def kRen (o:Orc) (Q:Orc→PyData→Prop) (d:PyData):Prop:=match o with
 |3::o=>kI (fun i=>∀ j,i=j→Q o (.int j)) d
 |o=>Q o d
theorem kRen_ok {R:Prop} {o:Orc} {d:PyData} {P:PyData→Prop} {Q:Orc→PyData→Prop} (h:P d→R) (g:∀ o b,(P b→R)→Q o b):kRen o Q d:=by
 unfold kRen
 split
 ·cases d <;> first |trivial |exact fun j e=>e▸g _ _ h
 ·exact g _ _ h
noncomputable def kCmp (o:Orc) (op:CmpOp) (x y:PyData) (Q:Orc→PyData→Prop):Prop:=match o with
 |4::o=>∀ b:Bool,(∀ P,cmpW op x y P=P (.bool b))→Q o (.bool b)
 |o=>cmpK op x y (Q o)
theorem kCmp_ok {R:Prop} {o:Orc} {op:CmpOp} {x y:PyData} {P:PyData→Prop} {Q:Orc→PyData→Prop} (h:cmpW op x y P→R) (g:∀ o b,(P b→R)→Q o b):kCmp o op x y Q:=by
 unfold kCmp
 split
 ·exact fun b e=>g _ _ fun q=>h (by rw [e];exact q)
 ·exact cmpK_ok h (g _)
noncomputable def kR (P:PyData→Prop) (E:Exc→Prop):RR→Prop
 | .ok d=>P d
 | .exc X=>E X
section
variable (Φ:Nat→List PyData→RR→Prop) (req:Nat→Nat) (k:Nat)
mutual
noncomputable def PE.wk (lv:Nat):PE→Loc→(Orc→PyData→Prop)→(Orc→Exc→Prop)→Orc→Prop
 | .k c,_,Q,_,o=>Q o c
 | .v i,ρ,Q,_,o=>kD ρ[i]? (Q o)
 | .tup es,ρ,Q,E,o=>PE.wks lv es ρ (fun o ds=>Q o (.tuple ds)) E o
 | .lst es,ρ,Q,E,o=>PE.wks lv es ρ (fun o ds=>Q o (.list ds)) E o
 | .not e,ρ,Q,E,o=>PE.wk lv e ρ (fun o=>kB fun b=>Q o (.bool !b)) E o
 | .neg e,ρ,Q,E,o=>PE.wk lv e ρ (fun o=>kI fun i=>Q o (.int (-i))) E o
 | .and es,ρ,Q,E,o=>PE.wkA lv es ρ Q E o
 | .or es,ρ,Q,E,o=>PE.wkO lv es ρ Q E o
 | .ife t a b,ρ,Q,E,o=>PE.wk lv t ρ (fun o=>kB fun c=>kTest o c (fun o=>PE.wk lv a ρ Q E o) fun o=>PE.wk lv b ρ Q E o) E o
 | .bin op a b,ρ,Q,E,o=>PE.wk lv a ρ (fun o x=>PE.wk lv b ρ (fun o y=>binK op x y (kRen o Q)) E o) E o
 | .cmp op a b,ρ,Q,E,o=>PE.wk lv a ρ (fun o x=>PE.wk lv b ρ (fun o y=>kCmp o op x y Q) E o) E o
 | .cmp2 o1 o2 a b c,ρ,Q,E,o=>PE.wk lv a ρ (fun o x=>PE.wk lv b ρ (fun o y=>cmpK o1 x y (kB fun t=>kTest o t (fun o=>PE.wk lv c ρ (fun o z=>cmpK o2 y z (Q o)) E o) fun o=>Q o (.bool false))) E o) E o
 | .idx a i,ρ,Q,E,o=>PE.wk lv a ρ (fun o x=>PE.wk lv i ρ (fun o y=>idxK x y (Q o)) E o) E o
 | .sl a lo hi,ρ,Q,E,o=>PE.wk lv a ρ (fun o x=>PE.wko lv lo ρ (fun o l=>PE.wko lv hi ρ (fun o h=>slK x l h (Q o)) E o) E o) E o
 | .call f args,ρ,Q,E,o=>PE.wks lv args ρ (fun o ds=>f<k→req f≤lv→∀ r,Φ f ds r→kR (Q o) (E o) r) E o
 | .len a,ρ,Q,E,o=>PE.wk lv a ρ (fun o x=>lenK x (Q o)) E o
 | .ord a,ρ,Q,E,o=>PE.wk lv a ρ (fun o=>kS fun s=>kC1 s.cps.toList fun c=>Q o (.int c)) E o
 | .chr a,ρ,Q,E,o=>PE.wk lv a ρ (fun o=>kI fun i=>kNat i fun n=>n≤1114111→Q o (.str (S [n]))) E o
 | .find a b,ρ,Q,E,o=>PE.wk lv a ρ (fun o=>kS fun s=>PE.wk lv b ρ (fun o=>kS fun t=>kC1 t.cps.toList fun c=>Q o (.int (findFirst s.cps.toList c))) E o) E o
 | .join a b,ρ,Q,E,o=>PE.wk lv a ρ (fun o=>kS fun x=>PE.wk lv b ρ (fun o=>kL fun ds=>joinK x ds (Q o)) E o) E o
 | .lenO i,ρ,Q,_,o=>kO ρ[i]? fun ds=>ds.length≤lim→Q o (.int ds.length)
 | .joinO a i,ρ,Q,E,o=>PE.wk lv a ρ (fun o=>kS fun x=>kO ρ[i]? fun ds=>joinK x ds (Q o)) E o
 | .tupO i,ρ,Q,_,o=>kO ρ[i]? fun ds=>ds.length≤lim→Q o (.tuple ds)
 | .idxO i a,ρ,Q,E,o=>kO ρ[i]? fun ds=>PE.wk lv a ρ (fun o y=>idxK (.list ds) y (Q o)) E o
 | .exA i n,ρ,Q,_,o=>kE ρ[i]? fun x=>Q o (exV n x)
 | .comp elt it cond,ρ,Q,E,o=>1≤lv→PE.wk lv it ρ (fun o=>kT fun xs=>xs.length≤lim→∀ d,(∀ P:PyData→Prop,P d→compW (fun x Q=>PE.wp Φ req k lv elt [.d x] Q fun _=>False) (fun x Q=>PE.wpc Φ req k lv cond [.d x] Q) xs [] P)→Q o d) E o
 | .pcs e,ρ,Q,E,o=>PE.wk lv e ρ (fun o=>kI fun i=>kNat i fun n=>kV pieces[n]? fun t=>Q o (.str (S t))) E o
 | .cmpP it,ρ,Q,E,o=>lv=2→PE.wk lv it ρ (fun o=>kL fun xs=>xs.length≤lim→∀ ns:List Int,xs=ns.map PyData.int→Q o (.list (ns.map fun n => .str (S (pcOf n))))) E o
noncomputable def PE.wks (lv:Nat):List PE→Loc→(Orc→List PyData→Prop)→(Orc→Exc→Prop)→Orc→Prop
 | [],_,Q,_,o=>Q o []
 |e::es,ρ,Q,E,o=>PE.wk lv e ρ (fun o d=>PE.wks lv es ρ (fun o ds=>Q o (d::ds)) E o) E o
noncomputable def PE.wko (lv:Nat):Option PE→Loc→(Orc→Option PyData→Prop)→(Orc→Exc→Prop)→Orc→Prop
 |none,_,Q,_,o=>Q o none
 |some e,ρ,Q,E,o=>PE.wk lv e ρ (fun o d=>Q o (some d)) E o
noncomputable def PE.wkA (lv:Nat):List PE→Loc→(Orc→PyData→Prop)→(Orc→Exc→Prop)→Orc→Prop
 | [],_,_,_,_=>True
 | [e],ρ,Q,E,o=>PE.wk lv e ρ Q E o
 |e::es,ρ,Q,E,o=>PE.wk lv e ρ (fun o=>kB fun c=>kTest o c (fun o=>PE.wkA lv es ρ Q E o) fun o=>Q o (.bool false)) E o
noncomputable def PE.wkO (lv:Nat):List PE→Loc→(Orc→PyData→Prop)→(Orc→Exc→Prop)→Orc→Prop
 | [],_,_,_,_=>True
 | [e],ρ,Q,E,o=>PE.wk lv e ρ Q E o
 |e::es,ρ,Q,E,o=>PE.wk lv e ρ (fun o=>kB fun c=>kTest o c (fun o=>Q o (.bool true)) fun o=>PE.wkO lv es ρ Q E o) E o
end
end
end Mine
end
section
open PySem PySem.W PyProof.Rows
namespace Mine
section
variable {Φ:Nat→List PyData→RR→Prop} {req:Nat→Nat} {k lv:Nat} {R:Prop}
theorem kR_ok {P:PyData→Prop} {E:Exc→Prop} {P':PyData→Prop} {E':Exc→Prop} {r:RR} (h:rr P E r→R) (g:∀ d,(P d→R)→P' d) (g':∀ x,(E x→R)→E' x):kR P' E' r:=by
 cases r with
 |ok d=>exact g d h
 |exc x=>exact g' x h
mutual
theorem PE.wk_ok:∀ (e:PE) {ρ:Loc} {P:PyData→Prop} {E:Exc→Prop} {P':Orc→PyData→Prop} {E':Orc→Exc→Prop} {o:Orc},(PE.wp Φ req k lv e ρ P E→R)→(∀ o d,(P d→R)→P' o d)→(∀ o x,(E x→R)→E' o x)→PE.wk Φ req k lv e ρ P' E' o
 | .k c,_,_,_,_,_,_,h,g,_=>g _ _ h
 | .v i,_,_,_,_,_,_,h,g,_=>kD_ok h (g _)
 | .tup es,_,_,_,_,_,_,h,g,g'=>PE.wks_ok es h (fun _ _=>g _ _) g'
 | .lst es,_,_,_,_,_,_,h,g,g'=>PE.wks_ok es h (fun _ _=>g _ _) g'
 | .not e,_,_,_,_,_,_,h,g,g'=>PE.wk_ok e h (fun _ _ h=>kB_ok h fun _=>g _ _) g'
 | .neg e,_,_,_,_,_,_,h,g,g'=>PE.wk_ok e h (fun _ _ h=>kI_ok h fun _=>g _ _) g'
 | .and es,_,_,_,_,_,_,h,g,g'=>PE.wkA_ok es h g g'
 | .or es,_,_,_,_,_,_,h,g,g'=>PE.wkO_ok es h g g'
 | .ife t a b,_,_,_,_,_,_,h,g,g'=>PE.wk_ok t h (fun _ _ h=>kB_ok h fun _ h=>kTest_ok h (fun _ h=>PE.wk_ok a h g g') fun _ h=>PE.wk_ok b h g g') g'
 | .bin op a b,_,_,_,_,_,_,h,g,g'=>PE.wk_ok a h (fun _ _ h=>PE.wk_ok b h (fun _ _ h=>binK_ok h fun _ h=>kRen_ok h g) g') g'
 | .cmp op a b,_,_,_,_,_,_,h,g,g'=>PE.wk_ok a h (fun _ _ h=>PE.wk_ok b h (fun _ _ h=>kCmp_ok h g) g') g'
 | .cmp2 o1 o2 a b c,_,_,_,_,_,_,h,g,g'=>PE.wk_ok a h (fun _ _ h=>PE.wk_ok b h (fun _ _ h=>cmpK_ok h fun _ h=>kB_ok h fun _ h=>kTest_ok h (fun _ h=>PE.wk_ok c h (fun _ _ h=>cmpK_ok h (g _)) g') fun _=>g _ _) g') g'
 | .idx a i,_,_,_,_,_,_,h,g,g'=>PE.wk_ok a h (fun _ _ h=>PE.wk_ok i h (fun _ _ h=>idxK_ok h (g _)) g') g'
 | .sl a lo hi,_,_,_,_,_,_,h,g,g'=>PE.wk_ok a h (fun _ _ h=>PE.wko_ok lo h (fun _ _ h=>PE.wko_ok hi h (fun _ _ h=>slK_ok h (g _)) g') g') g'
 | .call f args,_,_,_,_,_,_,h,g,g'=>PE.wks_ok args h (fun _ _ h e1 e2 r e3=>kR_ok (fun q=>h ⟨e1,e2,r,e3,q⟩) (g _) (g' _)) g'
 | .len a,_,_,_,_,_,_,h,g,g'=>PE.wk_ok a h (fun _ _ h=>lenK_ok h (g _)) g'
 | .ord a,_,_,_,_,_,_,h,g,g'=>PE.wk_ok a h (fun _ _ h=>kS_ok h fun _ h=>kC1_ok h fun _=>g _ _) g'
 | .chr a,_,_,_,_,_,_,h,g,g'=>PE.wk_ok a h (fun _ _ h=>kI_ok h fun _ h=>kNat_ok h fun _ h e=>g _ _ fun q=>h ⟨e,q⟩) g'
 | .find a b,_,_,_,_,_,_,h,g,g'=>PE.wk_ok a h (fun _ _ h=>kS_ok h fun _ h=>PE.wk_ok b h (fun _ _ h=>kS_ok h fun _ h=>kC1_ok h fun _=>g _ _) g') g'
 | .join a b,_,_,_,_,_,_,h,g,g'=>PE.wk_ok a h (fun _ _ h=>kS_ok h fun _ h=>PE.wk_ok b h (fun _ _ h=>kL_ok h fun _ h=>joinK_ok h (g _)) g') g'
 | .lenO i,_,_,_,_,_,_,h,g,_=>kO_ok h fun _ h e=>g _ _ fun q=>h ⟨e,q⟩
 | .joinO a i,_,_,_,_,_,_,h,g,g'=>PE.wk_ok a h (fun _ _ h=>kS_ok h fun _ h=>kO_ok h fun _ h=>joinK_ok h (g _)) g'
 | .tupO i,_,_,_,_,_,_,h,g,_=>kO_ok h fun _ h e=>g _ _ fun q=>h ⟨e,q⟩
 | .idxO i a,_,_,_,_,_,_,h,g,g'=>kO_ok h fun _ h=>PE.wk_ok a h (fun _ _ h=>idxK_ok h (g _)) g'
 | .exA i n,_,_,_,_,_,_,h,g,_=>kE_ok h fun _=>g _ _
 | .comp elt it c,_,_,_,_,_,_,h,g,g'=>fun e=>PE.wk_ok it (fun q=>h ⟨e,q⟩) (fun _ _ h=>kT_ok h fun _ h e d f=>g _ _ fun q=>h ⟨e,f _ q⟩) g'
 | .pcs e,_,_,_,_,_,_,h,g,g'=>PE.wk_ok e h (fun _ _ h=>kI_ok h fun _ h=>kNat_ok h fun _ h=>kV_ok h fun _=>g _ _) g'
 | .cmpP it,_,_,_,_,_,_,h,g,g'=>fun e=>PE.wk_ok it (fun q=>h ⟨e,q⟩) (fun _ _ h=>kL_ok h fun _ h e ns f=>g _ _ fun q=>h ⟨e,ns,f,q⟩) g'
theorem PE.wks_ok:∀ (e:List PE) {ρ:Loc} {P:List PyData→Prop} {E:Exc→Prop} {P':Orc→List PyData→Prop} {E':Orc→Exc→Prop} {o:Orc},(PE.wps Φ req k lv e ρ P E→R)→(∀ o d,(P d→R)→P' o d)→(∀ o x,(E x→R)→E' o x)→PE.wks Φ req k lv e ρ P' E' o
 | [],_,_,_,_,_,_,h,g,_=>g _ _ h
 |e::es,_,_,_,_,_,_,h,g,g'=>PE.wk_ok e h (fun _ _ h=>PE.wks_ok es h (fun _ _=>g _ _) g') g'
theorem PE.wko_ok:∀ (e:Option PE) {ρ:Loc} {P:Option PyData→Prop} {E:Exc→Prop} {P':Orc→Option PyData→Prop} {E':Orc→Exc→Prop} {o:Orc},(PE.wpo Φ req k lv e ρ P E→R)→(∀ o d,(P d→R)→P' o d)→(∀ o x,(E x→R)→E' o x)→PE.wko Φ req k lv e ρ P' E' o
 |none,_,_,_,_,_,_,h,g,_=>g _ _ h
 |some e,_,_,_,_,_,_,h,g,g'=>PE.wk_ok e h (fun _ _=>g _ _) g'
theorem PE.wkA_ok:∀ (e:List PE) {ρ:Loc} {P:PyData→Prop} {E:Exc→Prop} {P':Orc→PyData→Prop} {E':Orc→Exc→Prop} {o:Orc},(PE.wpA Φ req k lv e ρ P E→R)→(∀ o d,(P d→R)→P' o d)→(∀ o x,(E x→R)→E' o x)→PE.wkA Φ req k lv e ρ P' E' o
 | [],_,_,_,_,_,_,_,_,_=>trivial
 | [e],_,_,_,_,_,_,h,g,g'=>PE.wk_ok e h g g'
 |e::e'::es,_,_,_,_,_,_,h,g,g'=>PE.wk_ok e h (fun _ _ h=>kB_ok h fun _ h=>kTest_ok h (fun _ h=>PE.wkA_ok (e'::es) h g g') fun _=>g _ _) g'
theorem PE.wkO_ok:∀ (e:List PE) {ρ:Loc} {P:PyData→Prop} {E:Exc→Prop} {P':Orc→PyData→Prop} {E':Orc→Exc→Prop} {o:Orc},(PE.wpO Φ req k lv e ρ P E→R)→(∀ o d,(P d→R)→P' o d)→(∀ o x,(E x→R)→E' o x)→PE.wkO Φ req k lv e ρ P' E' o
 | [],_,_,_,_,_,_,_,_,_=>trivial
 | [e],_,_,_,_,_,_,h,g,g'=>PE.wk_ok e h g g'
 |e::e'::es,_,_,_,_,_,_,h,g,g'=>PE.wk_ok e h (fun _ _ h=>kB_ok h fun _ h=>kTest_ok h (fun _=>g _ _) fun _ h=>PE.wkO_ok (e'::es) h g g') g'
end
end
section
variable (Φ:Nat→List PyData→RR→Prop) (req:Nat→Nat) (k:Nat) (R:Prop)
noncomputable def sqK (f:Orc→Loc→Prop) (Q':Orc→Out→Prop) (o:Orc):Out→Prop
 | .nxt ρ=>f o ρ
 | .brk ρ=>Q' o (.brk ρ)
 | .ret d=>Q' o (.ret d)
 | .exc x=>Q' o (.exc x)
noncomputable def rqK (Q':Orc→Out→Prop) (o:Orc):Out→Prop
 | .ret d=>Q' o (.ret d)
 |_=>True
mutual
noncomputable def PS.wk (lv:Nat):PS→Loc→(Out→Prop)→(Orc→Out→Prop)→Orc→Prop
 | .asg i e,ρ,_,Q,o=>PE.wk Φ req k lv e ρ (fun o d=>Q o (.nxt (ρ.set i (.d d)))) (fun o x=>Q o (.exc x)) o
 | .upk is e,ρ,_,Q,o=>1≤lv→PE.wk Φ req k lv e ρ (fun o=>kT fun ds=>ds.length=is.length→Q o (.nxt (setAll ρ is ds))) (fun o x=>Q o (.exc x)) o
 | .upkT is es,ρ,_,Q,o=>1≤lv→PE.wks Φ req k lv es ρ (fun o ds=>Q o (.nxt (setAll ρ is ds))) (fun o x=>Q o (.exc x)) o
 | .newO i,ρ,_,Q,o=>Q o (.nxt (ρ.set i (.own [])))
 | .upkO i is es,ρ,_,Q,o=>1≤lv→PE.wks Φ req k lv es ρ (fun o ds=>Q o (.nxt ((setAll ρ is ds).set i (.own [])))) (fun o x=>Q o (.exc x)) o
 | .app i e,ρ,_,Q,o=>kO ρ[i]? fun xs=>PE.wk Φ req k lv e ρ (fun o d=>xs.length≤lim→Q o (.nxt (ρ.set i (.own (xs++[d]))))) (fun o x=>Q o (.exc x)) o
 | .aug i op e,ρ,_,Q,o=>kD ρ[i]? fun x=>kX x (PE.wk Φ req k lv e ρ (fun o y=>binK op x y (kRen o fun o d=>Q o (.nxt (ρ.set i (.d d))))) (fun o x=>Q o (.exc x)) o)
 | .ite t a b,ρ,P,Q,o=>PE.wk Φ req k lv t ρ (fun o=>kB fun c=>kTest o c (fun o=>PS.wks lv a ρ P Q o) fun o=>PS.wks lv b ρ P Q o) (fun o x=>Q o (.exc x)) o
 | .ret e,ρ,_,Q,o=>PE.wk Φ req k lv e ρ (fun o d=>Q o (.ret d)) (fun o x=>Q o (.exc x)) o
 | .ret0,_,_,Q,o=>Q o (.ret .none)
 | .rai m ec,ρ,_,Q,o=>1≤lv→PE.wk Φ req k lv m ρ (fun o=>kS fun x=>PE.wko Φ req k lv ec ρ (fun o c=>Q o (.exc ⟨x,c.getD (.tuple [.str (S [78,79,78,69])])⟩)) (fun o x=>Q o (.exc x)) o) (fun o x=>Q o (.exc x)) o
 | .brk,ρ,_,Q,o=>Q o (.brk ρ)
 | .tryR e i h,ρ,P,Q,o=>lv≤2→PE.wk Φ req k lv e ρ (fun o d=>Q o (.ret d)) (fun o x=>PS.wks (lv - 1) h (ρ.set i (.ex x)) (rq P) (rqK Q) o) o
 | .tryE e i h,ρ,P,Q,o=>lv≤2→PE.wk Φ req k lv e ρ (fun o _=>Q o (.nxt ρ)) (fun o x=>PS.wks (lv - 1) h (ρ.set i (.ex x)) (rq P) (rqK Q) o) o
 | .exp e,ρ,_,Q,o=>PE.wk Φ req k lv e ρ (fun o=>kN (Q o (.nxt ρ))) (fun o x=>Q o (.exc x)) o
 | .frz i,ρ,_,Q,o=>kO ρ[i]? fun xs=>Q o (.nxt (ρ.set i (.d (.list xs))))
 | .sto t w e,ρ,_,Q,o=>kO ρ[t]? fun xs=>kD ρ[w]? (kI fun i=>kNat i fun n=>PE.wk Φ req k lv e ρ (fun o d=>n<xs.length→xs.length≤lim→Q o (.nxt (ρ.set t (.own (xs.set n d))))) (fun o x=>Q o (.exc x)) o)
 |s,ρ,P,_,_=>PS.wp Φ req k lv s ρ P→R
noncomputable def PS.wks (lv:Nat):List PS→Loc→(Out→Prop)→(Orc→Out→Prop)→Orc→Prop
 | [],ρ,_,Q,o=>Q o (.nxt ρ)
 |s::r,ρ,P,Q,o=>PS.wk lv s ρ (sq (fun ρ'=>PS.wps Φ req k lv r ρ' P) P) (sqK (fun o ρ'=>PS.wks lv r ρ' P Q o) Q) o
end
end
section
variable {Φ:Nat→List PyData→RR→Prop} {req:Nat→Nat} {k:Nat} {R:Prop}
theorem rqK_ok {P:Out→Prop} {Q:Orc→Out→Prop} {o:Orc} {x:Out} (h:rq P x→R) (g:∀ o x,(P x→R)→Q o x):rqK Q o x:=by cases x <;> first |exact g _ _ h |trivial
theorem sqK_ok {f:Loc→Prop} {f':Orc→Loc→Prop} {P:Out→Prop} {Q:Orc→Out→Prop} {o:Orc} {x:Out} (h:sq f P x→R) (g:∀ o x,(P x→R)→Q o x) (g':∀ ρ,(f ρ→R)→f' o ρ):sqK f' Q o x:=by cases x <;> first |exact g _ _ h |exact g' _ h
mutual
theorem PS.wk_ok:∀ (s:PS) {lv:Nat} {ρ:Loc} {P:Out→Prop} {Q:Orc→Out→Prop} {o:Orc},(PS.wp Φ req k lv s ρ P→R)→(∀ o x,(P x→R)→Q o x)→PS.wk Φ req k R lv s ρ P Q o
 | .asg _ e,_,_,_,_,_,h,g=>PE.wk_ok e h (fun _ _=>g _ _) fun _ _=>g _ _
 | .upk _ e,_,_,_,_,_,h,g=>fun q=>PE.wk_ok e (fun z=>h ⟨q,z⟩) (fun _ _ h=>kT_ok h fun _ h e=>g _ _ fun z=>h ⟨e,z⟩) fun _ _=>g _ _
 | .upkT _ es,_,_,_,_,_,h,g=>fun q=>PE.wks_ok es (fun z=>h ⟨q,z⟩) (fun _ _=>g _ _) fun _ _=>g _ _
 | .newO _,_,_,_,_,_,h,g=>g _ _ h
 | .upkO _ _ es,_,_,_,_,_,h,g=>fun q=>PE.wks_ok es (fun z=>h ⟨q,z⟩) (fun _ _=>g _ _) fun _ _=>g _ _
 | .app _ e,_,_,_,_,_,h,g=>kO_ok h fun _ h=>PE.wk_ok e h (fun _ _ h e=>g _ _ fun z=>h ⟨e,z⟩) fun _ _=>g _ _
 | .aug _ _ e,_,_,_,_,_,h,g=>kD_ok h fun _ h=>kX_ok h fun h=>PE.wk_ok e h (fun _ _ h=>binK_ok h fun _ h=>kRen_ok h fun _ _=>g _ _) fun _ _=>g _ _
 | .ite t a b,_,_,_,_,_,h,g=>PE.wk_ok t h (fun _ _ h=>kB_ok h fun _ h=>kTest_ok h (fun _ h=>PS.wks_ok a h g) fun _ h=>PS.wks_ok b h g) fun _ _=>g _ _
 | .whl _ _,_,_,_,_,_,h,_=>h
 | .forS _ _ _,_,_,_,_,_,h,_=>h
 | .forL _ _ _,_,_,_,_,_,h,_=>h
 | .forR _ _,_,_,_,_,_,h,_=>h
 | .ret e,_,_,_,_,_,h,g=>PE.wk_ok e h (fun _ _=>g _ _) fun _ _=>g _ _
 | .ret0,_,_,_,_,_,h,g=>g _ _ h
 | .rai m ec,_,_,_,_,_,h,g=>fun q=>PE.wk_ok m (fun z=>h ⟨q,z⟩) (fun _ _ h=>kS_ok h fun _ h=>PE.wko_ok ec h (fun _ _=>g _ _) fun _ _=>g _ _) fun _ _=>g _ _
 | .brk,_,_,_,_,_,h,g=>g _ _ h
 | .tryR e _ b,_,_,_,_,_,h,g=>fun q=>PE.wk_ok e (fun z=>h ⟨q,z⟩) (fun _ _=>g _ _) fun _ _ h=>PS.wks_ok b h fun _ _ h=>rqK_ok h g
 | .tryE e _ b,_,_,_,_,_,h,g=>fun q=>PE.wk_ok e (fun z=>h ⟨q,z⟩) (fun _ _=>g _ _) fun _ _ h=>PS.wks_ok b h fun _ _ h=>rqK_ok h g
 | .exp e,_,_,_,_,_,h,g=>PE.wk_ok e h (fun _ _ h=>kN_ok h (g _ _)) fun _ _=>g _ _
 | .frz _,_,_,_,_,_,h,g=>kO_ok h fun _=>g _ _
 | .sto _ _ e,_,_,_,_,_,h,g=>kO_ok h fun _ h=>kD_ok h fun _ h=>kI_ok h fun _ h=>kNat_ok h fun _ h=>PE.wk_ok e h (fun _ _ h e1 e2=>g _ _ fun z=>h ⟨e1,e2,z⟩) fun _ _=>g _ _
theorem PS.wks_ok:∀ (s:List PS) {lv:Nat} {ρ:Loc} {P:Out→Prop} {Q:Orc→Out→Prop} {o:Orc},(PS.wps Φ req k lv s ρ P→R)→(∀ o x,(P x→R)→Q o x)→PS.wks Φ req k R lv s ρ P Q o
 | [],_,_,_,_,_,h,g=>g _ _ h
 |s::r,_,_,_,_,_,h,g=>PS.wk_ok s h fun _ _ h=>sqK_ok h g fun _ h=>PS.wks_ok r h g
end
section
variable (Φ:Nat→List PyData→RR→Prop) (req:Nat→Nat) (k lv:Nat)
noncomputable def RunT (s:List PS) (ρ:Loc) (Q:Out→Prop) (o:Orc):Prop:=PS.wks Φ req k (PS.wps Φ req k lv s ρ Q) lv s ρ Q (fun _ x=>Q x→PS.wps Φ req k lv s ρ Q) o
noncomputable def TurnT (n:Nat) (t:PE) (b:List PS) (ρ:Loc) (Q:Out→Prop) (T:Loc→(PyData→Prop)→(Exc→Prop)→Prop) (BB:Loc→(Out→Prop)→Prop) (o:Orc):Prop:=
 PE.wk Φ req k lv t ρ (fun o=>kB fun c=>kTest o c (fun o=>PS.wks Φ req k (loopW T BB Q (n+1) ρ) lv b ρ (lq (loopW T BB Q n) Q) (fun _ x=>lq (loopW T BB Q n) Q x→loopW T BB Q (n+1) ρ) o) fun _=>Q (.nxt ρ)→loopW T BB Q (n+1) ρ) (fun _ x=>Q (.exc x)→loopW T BB Q (n+1) ρ) o
end
theorem byR (o:Orc) {lv:Nat} {s:List PS} {ρ:Loc} {Q:Out→Prop} (f:RunT Φ req k lv s ρ Q o→PS.wps Φ req k lv s ρ Q):PS.wps Φ req k lv s ρ Q:=f (PS.wks_ok s id fun _ _=>id)
theorem byT {lv n:Nat} {t:PE} {b:List PS} {ρ:Loc} {Q:Out→Prop} {T:Loc→(PyData→Prop)→(Exc→Prop)→Prop} {BB:Loc→(Out→Prop)→Prop} (eT:∀ ρ P E,T ρ P E=PE.wp Φ req k lv t ρ P E) (eB:∀ ρ Q,BB ρ Q=PS.wps Φ req k lv b ρ Q) (o:Orc)
  (f:TurnT Φ req k lv n t b ρ Q T BB o→loopW T BB Q (n+1) ρ):loopW T BB Q (n+1) ρ:=by
 refine f (PE.wk_ok t (P:=boolP fun c=>if c=true then PS.wps Φ req k lv b ρ (lq (loopW T BB Q n) Q) else Q (.nxt ρ)) (E:=fun x=>Q (.exc x)) (fun h=>?_) (fun _ _ h=>kB_ok h fun _ h=>kTest_ok h (fun _ h=>PS.wks_ok b h fun _ _=>id) fun _=>id) fun _ _=>id)
 show T ρ (boolP fun c=>if c=true then BB ρ (lq (loopW T BB Q n) Q) else Q (.nxt ρ)) fun x=>Q (.exc x)
 rw [eT]
 have e:(fun c:Bool=>if c=true then BB ρ (lq (loopW T BB Q n) Q) else Q (.nxt ρ))=fun c:Bool=>if c=true then PS.wps Φ req k lv b ρ (lq (loopW T BB Q n) Q) else Q (.nxt ρ):=funext fun c=>by rw [eB]
 rw [e]
 exact h
end
end Mine
end
section
open PySem PySem.W PyProof.Rows
namespace Mine
noncomputable def bopOp:Bop→Operator
 | .add => .Add
 | .sub => .Sub
 | .mul => .Mult
 | .fdiv => .FloorDiv
 | .fmod => .Mod
noncomputable def chkB (op:Bop) (o:Operator):Bool:=o == bopOp op
noncomputable def okN (x:Str):Bool:=!(x == ("__debug__":Str))
noncomputable abbrev Sc:=List (Str × NameKind)
noncomputable def isG (sc:Sc) (x:Str) (y:Str):Bool:=x == y && sc.lookup x == some .globalImplicit && okN x
noncomputable def isL (sc:Sc) (nm:List Str) (i:Nat) (x:Str):Bool:=nm[i]? == some x && sc.lookup x == some .local && okN x
noncomputable def plainE (e:Expr):Bool:=!(e.ctorIdx == 22)
noncomputable def simpleO (e:Expr):Bool:=e.ctorIdx == 23 || e.ctorIdx == 19
noncomputable def unmarked (e:Expr):Bool:=!(e.ctorIdx == 7)
noncomputable def cOf:PyData→Const
 | .none => .none
 | .bool b => .bool b
 | .int i => .int i
 | .str x => .str x
 |_ => .ellipsis
noncomputable def chkC (d:PyData) (c:Const):Bool:=!(c == .ellipsis) && c == cOf d
noncomputable def onBool (F:BoolOp→List Expr→Pos→Bool) (ee:Expr):Bool:=if h:ee.ctorIdx=0 then Expr.BoolOp.elim (motive_1:=fun _=>Bool) ee h F else false
theorem onBool_inv {F:BoolOp→List Expr→Pos→Bool} {ee:Expr} (h:onBool F ee=true):∃ (a:BoolOp) (b:List Expr) (c:Pos),ee = .BoolOp a b c∧F a b c=true:=by
 by_cases q:ee.ctorIdx=0
 ·exact Expr.BoolOp.elim (motive_1:=fun ee=>onBool F ee=true→∃ (a:BoolOp) (b:List Expr) (c:Pos),ee = .BoolOp a b c∧F a b c=true) ee q (fun a b c h=>⟨a,b,c,rfl,h⟩) h
 ·unfold onBool at h
  rw [dif_neg q] at h
  cases h
noncomputable def onBin (F:Expr→Operator→Expr→Pos→Bool) (ee:Expr):Bool:=if h:ee.ctorIdx=2 then Expr.BinOp.elim (motive_1:=fun _=>Bool) ee h F else false
theorem onBin_inv {F:Expr→Operator→Expr→Pos→Bool} {ee:Expr} (h:onBin F ee=true):∃ (a:Expr) (b:Operator) (c:Expr) (d:Pos),ee = .BinOp a b c d∧F a b c d=true:=by
 by_cases q:ee.ctorIdx=2
 ·exact Expr.BinOp.elim (motive_1:=fun ee=>onBin F ee=true→∃ (a:Expr) (b:Operator) (c:Expr) (d:Pos),ee = .BinOp a b c d∧F a b c d=true) ee q (fun a b c d h=>⟨a,b,c,d,rfl,h⟩) h
 ·unfold onBin at h
  rw [dif_neg q] at h
  cases h
noncomputable def onUn (F:UnaryOp→Expr→Pos→Bool) (ee:Expr):Bool:=if h:ee.ctorIdx=3 then Expr.UnaryOp.elim (motive_1:=fun _=>Bool) ee h F else false
theorem onUn_inv {F:UnaryOp→Expr→Pos→Bool} {ee:Expr} (h:onUn F ee=true):∃ (a:UnaryOp) (b:Expr) (c:Pos),ee = .UnaryOp a b c∧F a b c=true:=by
 by_cases q:ee.ctorIdx=3
 ·exact Expr.UnaryOp.elim (motive_1:=fun ee=>onUn F ee=true→∃ (a:UnaryOp) (b:Expr) (c:Pos),ee = .UnaryOp a b c∧F a b c=true) ee q (fun a b c h=>⟨a,b,c,rfl,h⟩) h
 ·unfold onUn at h
  rw [dif_neg q] at h
  cases h
noncomputable def onIf (F:Expr→Expr→Expr→Pos→Bool) (ee:Expr):Bool:=if h:ee.ctorIdx=5 then Expr.IfExp.elim (motive_1:=fun _=>Bool) ee h F else false
theorem onIf_inv {F:Expr→Expr→Expr→Pos→Bool} {ee:Expr} (h:onIf F ee=true):∃ (a:Expr) (b:Expr) (c:Expr) (d:Pos),ee = .IfExp a b c d∧F a b c d=true:=by
 by_cases q:ee.ctorIdx=5
 ·exact Expr.IfExp.elim (motive_1:=fun ee=>onIf F ee=true→∃ (a:Expr) (b:Expr) (c:Expr) (d:Pos),ee = .IfExp a b c d∧F a b c d=true) ee q (fun a b c d h=>⟨a,b,c,d,rfl,h⟩) h
 ·unfold onIf at h
  rw [dif_neg q] at h
  cases h
noncomputable def onLC (F:Expr→List Comprehension→Scope→Pos→Bool) (ee:Expr):Bool:=if h:ee.ctorIdx=8 then Expr.ListComp.elim (motive_1:=fun _=>Bool) ee h F else false
theorem onLC_inv {F:Expr→List Comprehension→Scope→Pos→Bool} {ee:Expr} (h:onLC F ee=true):∃ (a:Expr) (b:List Comprehension) (c:Scope) (d:Pos),ee = .ListComp a b c d∧F a b c d=true:=by
 by_cases q:ee.ctorIdx=8
 ·exact Expr.ListComp.elim (motive_1:=fun ee=>onLC F ee=true→∃ (a:Expr) (b:List Comprehension) (c:Scope) (d:Pos),ee = .ListComp a b c d∧F a b c d=true) ee q (fun a b c d h=>⟨a,b,c,d,rfl,h⟩) h
 ·unfold onLC at h
  rw [dif_neg q] at h
  cases h
noncomputable def onCmp (F:Expr→List CmpOp→List Expr→Pos→Bool) (ee:Expr):Bool:=if h:ee.ctorIdx=15 then Expr.Compare.elim (motive_1:=fun _=>Bool) ee h F else false
theorem onCmp_inv {F:Expr→List CmpOp→List Expr→Pos→Bool} {ee:Expr} (h:onCmp F ee=true):∃ (a:Expr) (b:List CmpOp) (c:List Expr) (d:Pos),ee = .Compare a b c d∧F a b c d=true:=by
 by_cases q:ee.ctorIdx=15
 ·exact Expr.Compare.elim (motive_1:=fun ee=>onCmp F ee=true→∃ (a:Expr) (b:List CmpOp) (c:List Expr) (d:Pos),ee = .Compare a b c d∧F a b c d=true) ee q (fun a b c d h=>⟨a,b,c,d,rfl,h⟩) h
 ·unfold onCmp at h
  rw [dif_neg q] at h
  cases h
noncomputable def onCall (F:Expr→List Expr→List Keyword→Pos→Bool) (ee:Expr):Bool:=if h:ee.ctorIdx=16 then Expr.Call.elim (motive_1:=fun _=>Bool) ee h F else false
theorem onCall_inv {F:Expr→List Expr→List Keyword→Pos→Bool} {ee:Expr} (h:onCall F ee=true):∃ (a:Expr) (b:List Expr) (c:List Keyword) (d:Pos),ee = .Call a b c d∧F a b c d=true:=by
 by_cases q:ee.ctorIdx=16
 ·exact Expr.Call.elim (motive_1:=fun ee=>onCall F ee=true→∃ (a:Expr) (b:List Expr) (c:List Keyword) (d:Pos),ee = .Call a b c d∧F a b c d=true) ee q (fun a b c d h=>⟨a,b,c,d,rfl,h⟩) h
 ·unfold onCall at h
  rw [dif_neg q] at h
  cases h
noncomputable def onConst (F:Const→Nat→Pos→Bool) (ee:Expr):Bool:=if h:ee.ctorIdx=19 then Expr.Constant.elim (motive_1:=fun _=>Bool) ee h F else false
theorem onConst_inv {F:Const→Nat→Pos→Bool} {ee:Expr} (h:onConst F ee=true):∃ (a:Const) (b:Nat) (c:Pos),ee = .Constant a b c∧F a b c=true:=by
 by_cases q:ee.ctorIdx=19
 ·exact Expr.Constant.elim (motive_1:=fun ee=>onConst F ee=true→∃ (a:Const) (b:Nat) (c:Pos),ee = .Constant a b c∧F a b c=true) ee q (fun a b c h=>⟨a,b,c,rfl,h⟩) h
 ·unfold onConst at h
  rw [dif_neg q] at h
  cases h
noncomputable def onAttr (F:Expr→Str→Pos→Bool) (ee:Expr):Bool:=if h:ee.ctorIdx=20 then Expr.Attribute.elim (motive_1:=fun _=>Bool) ee h F else false
theorem onAttr_inv {F:Expr→Str→Pos→Bool} {ee:Expr} (h:onAttr F ee=true):∃ (a:Expr) (b:Str) (c:Pos),ee = .Attribute a b c∧F a b c=true:=by
 by_cases q:ee.ctorIdx=20
 ·exact Expr.Attribute.elim (motive_1:=fun ee=>onAttr F ee=true→∃ (a:Expr) (b:Str) (c:Pos),ee = .Attribute a b c∧F a b c=true) ee q (fun a b c h=>⟨a,b,c,rfl,h⟩) h
 ·unfold onAttr at h
  rw [dif_neg q] at h
  cases h
noncomputable def onSub (F:Expr→Expr→Pos→Bool) (ee:Expr):Bool:=if h:ee.ctorIdx=21 then Expr.Subscript.elim (motive_1:=fun _=>Bool) ee h F else false
theorem onSub_inv {F:Expr→Expr→Pos→Bool} {ee:Expr} (h:onSub F ee=true):∃ (a:Expr) (b:Expr) (c:Pos),ee = .Subscript a b c∧F a b c=true:=by
 by_cases q:ee.ctorIdx=21
 ·exact Expr.Subscript.elim (motive_1:=fun ee=>onSub F ee=true→∃ (a:Expr) (b:Expr) (c:Pos),ee = .Subscript a b c∧F a b c=true) ee q (fun a b c h=>⟨a,b,c,rfl,h⟩) h
 ·unfold onSub at h
  rw [dif_neg q] at h
  cases h
noncomputable def onName (F:Str→Pos→Bool) (ee:Expr):Bool:=if h:ee.ctorIdx=23 then Expr.Name.elim (motive_1:=fun _=>Bool) ee h F else false
theorem onName_inv {F:Str→Pos→Bool} {ee:Expr} (h:onName F ee=true):∃ (a:Str) (b:Pos),ee = .Name a b∧F a b=true:=by
 by_cases q:ee.ctorIdx=23
 ·exact Expr.Name.elim (motive_1:=fun ee=>onName F ee=true→∃ (a:Str) (b:Pos),ee = .Name a b∧F a b=true) ee q (fun a b h=>⟨a,b,rfl,h⟩) h
 ·unfold onName at h
  rw [dif_neg q] at h
  cases h
noncomputable def onList (F:List Expr→Pos→Bool) (ee:Expr):Bool:=if h:ee.ctorIdx=24 then Expr.List.elim (motive_1:=fun _=>Bool) ee h F else false
theorem onList_inv {F:List Expr→Pos→Bool} {ee:Expr} (h:onList F ee=true):∃ (a:List Expr) (b:Pos),ee = .List a b∧F a b=true:=by
 by_cases q:ee.ctorIdx=24
 ·exact Expr.List.elim (motive_1:=fun ee=>onList F ee=true→∃ (a:List Expr) (b:Pos),ee = .List a b∧F a b=true) ee q (fun a b h=>⟨a,b,rfl,h⟩) h
 ·unfold onList at h
  rw [dif_neg q] at h
  cases h
noncomputable def onTup (F:List Expr→Nat→Pos→Bool) (ee:Expr):Bool:=if h:ee.ctorIdx=25 then Expr.Tuple.elim (motive_1:=fun _=>Bool) ee h F else false
theorem onTup_inv {F:List Expr→Nat→Pos→Bool} {ee:Expr} (h:onTup F ee=true):∃ (a:List Expr) (b:Nat) (c:Pos),ee = .Tuple a b c∧F a b c=true:=by
 by_cases q:ee.ctorIdx=25
 ·exact Expr.Tuple.elim (motive_1:=fun ee=>onTup F ee=true→∃ (a:List Expr) (b:Nat) (c:Pos),ee = .Tuple a b c∧F a b c=true) ee q (fun a b c h=>⟨a,b,c,rfl,h⟩) h
 ·unfold onTup at h
  rw [dif_neg q] at h
  cases h
noncomputable def onSlice (F:Option Expr→Option Expr→Option Expr→Pos→Bool) (ee:Expr):Bool:=if h:ee.ctorIdx=26 then Expr.Slice.elim (motive_1:=fun _=>Bool) ee h F else false
theorem onSlice_inv {F:Option Expr→Option Expr→Option Expr→Pos→Bool} {ee:Expr} (h:onSlice F ee=true):∃ (a:Option Expr) (b:Option Expr) (c:Option Expr) (d:Pos),ee = .Slice a b c d∧F a b c d=true:=by
 by_cases q:ee.ctorIdx=26
 ·exact Expr.Slice.elim (motive_1:=fun ee=>onSlice F ee=true→∃ (a:Option Expr) (b:Option Expr) (c:Option Expr) (d:Pos),ee = .Slice a b c d∧F a b c d=true) ee q (fun a b c d h=>⟨a,b,c,d,rfl,h⟩) h
 ·unfold onSlice at h
  rw [dif_neg q] at h
  cases h
noncomputable def onRet (F:Option Expr→Pos→Bool) (ee:Stmt):Bool:=if h:ee.ctorIdx=3 then Stmt.Return.elim (motive_2:=fun _=>Bool) ee h F else false
theorem onRet_inv {F:Option Expr→Pos→Bool} {ee:Stmt} (h:onRet F ee=true):∃ (a:Option Expr) (b:Pos),ee = .Return a b∧F a b=true:=by
 by_cases q:ee.ctorIdx=3
 ·exact Stmt.Return.elim (motive_2:=fun ee=>onRet F ee=true→∃ (a:Option Expr) (b:Pos),ee = .Return a b∧F a b=true) ee q (fun a b h=>⟨a,b,rfl,h⟩) h
 ·unfold onRet at h
  rw [dif_neg q] at h
  cases h
noncomputable def onAsg (F:List Expr→Expr→Pos→Bool) (ee:Stmt):Bool:=if h:ee.ctorIdx=5 then Stmt.Assign.elim (motive_2:=fun _=>Bool) ee h F else false
theorem onAsg_inv {F:List Expr→Expr→Pos→Bool} {ee:Stmt} (h:onAsg F ee=true):∃ (a:List Expr) (b:Expr) (c:Pos),ee = .Assign a b c∧F a b c=true:=by
 by_cases q:ee.ctorIdx=5
 ·exact Stmt.Assign.elim (motive_2:=fun ee=>onAsg F ee=true→∃ (a:List Expr) (b:Expr) (c:Pos),ee = .Assign a b c∧F a b c=true) ee q (fun a b c h=>⟨a,b,c,rfl,h⟩) h
 ·unfold onAsg at h
  rw [dif_neg q] at h
  cases h
noncomputable def onAug (F:Expr→Operator→Expr→Pos→Bool) (ee:Stmt):Bool:=if h:ee.ctorIdx=7 then Stmt.AugAssign.elim (motive_2:=fun _=>Bool) ee h F else false
theorem onAug_inv {F:Expr→Operator→Expr→Pos→Bool} {ee:Stmt} (h:onAug F ee=true):∃ (a:Expr) (b:Operator) (c:Expr) (d:Pos),ee = .AugAssign a b c d∧F a b c d=true:=by
 by_cases q:ee.ctorIdx=7
 ·exact Stmt.AugAssign.elim (motive_2:=fun ee=>onAug F ee=true→∃ (a:Expr) (b:Operator) (c:Expr) (d:Pos),ee = .AugAssign a b c d∧F a b c d=true) ee q (fun a b c d h=>⟨a,b,c,d,rfl,h⟩) h
 ·unfold onAug at h
  rw [dif_neg q] at h
  cases h
noncomputable def onFor (F:Expr→Expr→List Stmt→List Stmt→Pos→Bool) (ee:Stmt):Bool:=if h:ee.ctorIdx=9 then Stmt.For.elim (motive_2:=fun _=>Bool) ee h F else false
theorem onFor_inv {F:Expr→Expr→List Stmt→List Stmt→Pos→Bool} {ee:Stmt} (h:onFor F ee=true):∃ (a:Expr) (b:Expr) (c:List Stmt) (d:List Stmt) (e:Pos),ee = .For a b c d e∧F a b c d e=true:=by
 by_cases q:ee.ctorIdx=9
 ·exact Stmt.For.elim (motive_2:=fun ee=>onFor F ee=true→∃ (a:Expr) (b:Expr) (c:List Stmt) (d:List Stmt) (e:Pos),ee = .For a b c d e∧F a b c d e=true) ee q (fun a b c d e h=>⟨a,b,c,d,e,rfl,h⟩) h
 ·unfold onFor at h
  rw [dif_neg q] at h
  cases h
noncomputable def onWhl (F:Expr→List Stmt→List Stmt→Pos→Bool) (ee:Stmt):Bool:=if h:ee.ctorIdx=11 then Stmt.While.elim (motive_2:=fun _=>Bool) ee h F else false
theorem onWhl_inv {F:Expr→List Stmt→List Stmt→Pos→Bool} {ee:Stmt} (h:onWhl F ee=true):∃ (a:Expr) (b:List Stmt) (c:List Stmt) (d:Pos),ee = .While a b c d∧F a b c d=true:=by
 by_cases q:ee.ctorIdx=11
 ·exact Stmt.While.elim (motive_2:=fun ee=>onWhl F ee=true→∃ (a:Expr) (b:List Stmt) (c:List Stmt) (d:Pos),ee = .While a b c d∧F a b c d=true) ee q (fun a b c d h=>⟨a,b,c,d,rfl,h⟩) h
 ·unfold onWhl at h
  rw [dif_neg q] at h
  cases h
noncomputable def onIte (F:Expr→List Stmt→List Stmt→Pos→Bool) (ee:Stmt):Bool:=if h:ee.ctorIdx=12 then Stmt.If.elim (motive_2:=fun _=>Bool) ee h F else false
theorem onIte_inv {F:Expr→List Stmt→List Stmt→Pos→Bool} {ee:Stmt} (h:onIte F ee=true):∃ (a:Expr) (b:List Stmt) (c:List Stmt) (d:Pos),ee = .If a b c d∧F a b c d=true:=by
 by_cases q:ee.ctorIdx=12
 ·exact Stmt.If.elim (motive_2:=fun ee=>onIte F ee=true→∃ (a:Expr) (b:List Stmt) (c:List Stmt) (d:Pos),ee = .If a b c d∧F a b c d=true) ee q (fun a b c d h=>⟨a,b,c,d,rfl,h⟩) h
 ·unfold onIte at h
  rw [dif_neg q] at h
  cases h
noncomputable def onRai (F:Option Expr→Option Expr→Pos→Bool) (ee:Stmt):Bool:=if h:ee.ctorIdx=16 then Stmt.Raise.elim (motive_2:=fun _=>Bool) ee h F else false
theorem onRai_inv {F:Option Expr→Option Expr→Pos→Bool} {ee:Stmt} (h:onRai F ee=true):∃ (a:Option Expr) (b:Option Expr) (c:Pos),ee = .Raise a b c∧F a b c=true:=by
 by_cases q:ee.ctorIdx=16
 ·exact Stmt.Raise.elim (motive_2:=fun ee=>onRai F ee=true→∃ (a:Option Expr) (b:Option Expr) (c:Pos),ee = .Raise a b c∧F a b c=true) ee q (fun a b c h=>⟨a,b,c,rfl,h⟩) h
 ·unfold onRai at h
  rw [dif_neg q] at h
  cases h
noncomputable def onTry (F:List Stmt→List ExceptHandler→List Stmt→List Stmt→Pos→Bool) (ee:Stmt):Bool:=if h:ee.ctorIdx=17 then Stmt.Try.elim (motive_2:=fun _=>Bool) ee h F else false
theorem onTry_inv {F:List Stmt→List ExceptHandler→List Stmt→List Stmt→Pos→Bool} {ee:Stmt} (h:onTry F ee=true):∃ (a:List Stmt) (b:List ExceptHandler) (c:List Stmt) (d:List Stmt) (e:Pos),ee = .Try a b c d e∧F a b c d e=true:=by
 by_cases q:ee.ctorIdx=17
 ·exact Stmt.Try.elim (motive_2:=fun ee=>onTry F ee=true→∃ (a:List Stmt) (b:List ExceptHandler) (c:List Stmt) (d:List Stmt) (e:Pos),ee = .Try a b c d e∧F a b c d e=true) ee q (fun a b c d e h=>⟨a,b,c,d,e,rfl,h⟩) h
 ·unfold onTry at h
  rw [dif_neg q] at h
  cases h
noncomputable def onEx (F:Expr→Pos→Bool) (ee:Stmt):Bool:=if h:ee.ctorIdx=24 then Stmt.Expr.elim (motive_2:=fun _=>Bool) ee h F else false
theorem onEx_inv {F:Expr→Pos→Bool} {ee:Stmt} (h:onEx F ee=true):∃ (a:Expr) (b:Pos),ee = .Expr a b∧F a b=true:=by
 by_cases q:ee.ctorIdx=24
 ·exact Stmt.Expr.elim (motive_2:=fun ee=>onEx F ee=true→∃ (a:Expr) (b:Pos),ee = .Expr a b∧F a b=true) ee q (fun a b h=>⟨a,b,rfl,h⟩) h
 ·unfold onEx at h
  rw [dif_neg q] at h
  cases h
noncomputable def onBrk (F:Pos→Bool) (ee:Stmt):Bool:=if h:ee.ctorIdx=26 then Stmt.Break.elim (motive_2:=fun _=>Bool) ee h F else false
theorem onBrk_inv {F:Pos→Bool} {ee:Stmt} (h:onBrk F ee=true):∃ (a:Pos),ee = .Break a∧F a=true:=by
 by_cases q:ee.ctorIdx=26
 ·exact Stmt.Break.elim (motive_2:=fun ee=>onBrk F ee=true→∃ (a:Pos),ee = .Break a∧F a=true) ee q (fun a h=>⟨a,rfl,h⟩) h
 ·unfold onBrk at h
  rw [dif_neg q] at h
  cases h
theorem and2 {a b:Bool} (h:(a && b)=true):a=true∧b=true:=by cases a <;> cases b <;> first |exact ⟨rfl,rfl⟩ |cases h
section
variable {α:Type} {β:Type}
noncomputable def onC (F:α→List α→Bool):List α→Bool
 | []=>false
 |x::r=>F x r
theorem onC_inv {F:α→List α→Bool} {l:List α} (h:onC F l=true):∃ x r,l=x::r∧F x r=true:=by
 cases l with
 |nil=>cases h
 |cons x r=>exact ⟨x,r,rfl,h⟩
theorem nil_of {l:List α} (h:l.isEmpty=true):l=[]:=by cases l with
 |nil=>rfl
 |cons x r=>cases h
noncomputable def on1 (F:α→Bool):List α→Bool:=onC fun x r=>r.isEmpty && F x
theorem on1_inv {F:α→Bool} {l:List α} (h:on1 F l=true):∃ x,l=[x]∧F x=true:=
 let ⟨x,_,e,h⟩:=onC_inv h
 ⟨x,by rw [e,nil_of (and2 h).1],(and2 h).2⟩
noncomputable def on2 (F:α→α→Bool):List α→Bool:=onC fun x r=>on1 (F x) r
theorem on2_inv {F:α→α→Bool} {l:List α} (h:on2 F l=true):∃ x y,l=[x,y]∧F x y=true:=
 let ⟨x,_,e,h⟩:=onC_inv h
 let ⟨y,e',h⟩:=on1_inv h
 ⟨x,y,by rw [e,e'],h⟩
noncomputable def onO (F:α→Bool):Option α→Bool
 |none=>false
 |some x=>F x
theorem onO_inv {F:α→Bool} {l:Option α} (h:onO F l=true):∃ x,l=some x∧F x=true:=by
 cases l with
 |none=>cases h
 |some x=>exact ⟨x,rfl,h⟩
theorem none_of {l:Option α} (h:l.isNone=true):l=none:=by cases l with
 |none=>rfl
 |some x=>cases h
end
noncomputable def onCallN (F:Str→List Expr→Bool):Expr→Bool:=onCall fun f xs ks _=>ks.isEmpty && onName (fun g _=>F g xs) f
theorem onCallN_inv {F:Str→List Expr→Bool} {e:Expr} (h:onCallN F e=true):∃ g np xs pos,e = .Call (.Name g np) xs [] pos∧F g xs=true:=
 let ⟨_,xs,_,pos,e1,h⟩:=onCall_inv h
 let ⟨g,np,e2,h'⟩:=onName_inv (and2 h).2
 ⟨g,np,xs,pos,by rw [e1,e2,nil_of (and2 h).1],h'⟩
noncomputable def onCall1 (F:Str→Expr→Bool):Expr→Bool:=onCallN fun g xs=>on1 (F g) xs
theorem onCall1_inv {F:Str→Expr→Bool} {e:Expr} (h:onCall1 F e=true):∃ g np x pos,e = .Call (.Name g np) [x] [] pos∧F g x=true:=
 let ⟨g,np,_,pos,e1,h⟩:=onCallN_inv h
 let ⟨x,e2,h'⟩:=on1_inv h
 ⟨g,np,x,pos,by rw [e1,e2],h'⟩
noncomputable def onMeth (F:Expr→Str→Expr→Bool):Expr→Bool:=onCall fun f xs ks ps=>ks.isEmpty && onAttr (fun v a ap=>ap.endLine == ps.line && on1 (F v a) xs) f
theorem onMeth_inv {F:Expr→Str→Expr→Bool} {e:Expr} (h:onMeth F e=true):∃ v a ap x ps,e = .Call (.Attribute v a ap) [x] [] ps∧(ap.endLine == ps.line)=true∧F v a x=true:=
 let ⟨_,_,_,ps,e1,h⟩:=onCall_inv h
 let ⟨v,a,ap,e2,h'⟩:=onAttr_inv (and2 h).2
 let ⟨x,e3,h''⟩:=on1_inv (and2 h').2
 ⟨v,a,ap,x,ps,by rw [e1,e2,e3,nil_of (and2 h).1],(and2 h').1,h''⟩
noncomputable def onSubN (F:Str→Expr→Bool):Expr→Bool:=onSub fun v s _=>onName (fun x _=>F x s) v
theorem onSubN_inv {F:Str→Expr→Bool} {e:Expr} (h:onSubN F e=true):∃ x p s ps,e = .Subscript (.Name x p) s ps∧F x s=true:=
 let ⟨_,s,ps,e1,h⟩:=onSub_inv h
 let ⟨x,p,e2,h'⟩:=onName_inv h
 ⟨x,p,s,ps,by rw [e1,e2],h'⟩
noncomputable def onFor1 (F:Str→Expr→List Stmt→Bool):Stmt→Bool:=onFor fun t e b el _=>el.isEmpty && onName (fun x _=>F x e b) t
theorem onFor1_inv {F:Str→Expr→List Stmt→Bool} {e:Stmt} (h:onFor1 F e=true):∃ x px it b pos,e = .For (.Name x px) it b [] pos∧F x it b=true:=
 let ⟨_,it,b,_,pos,e1,h⟩:=onFor_inv h
 let ⟨x,px,e2,h'⟩:=onName_inv (and2 h).2
 ⟨x,px,it,b,pos,by rw [e1,e2,nil_of (and2 h).1],h'⟩
noncomputable def onAsg1 (F:Str→Expr→Bool):Stmt→Bool:=onAsg fun ts e _=>on1 (onName fun x _=>F x e) ts
theorem onAsg1_inv {F:Str→Expr→Bool} {e:Stmt} (h:onAsg1 F e=true):∃ x px v pos,e = .Assign [.Name x px] v pos∧F x v=true:=
 let ⟨_,v,pos,e1,h⟩:=onAsg_inv h
 let ⟨_,e2,h'⟩:=on1_inv h
 let ⟨x,px,e3,h''⟩:=onName_inv h'
 ⟨x,px,v,pos,by rw [e1,e2,e3],h''⟩
noncomputable def onAsgT (F:List Expr→Expr→Bool):Stmt→Bool:=onAsg fun ts e _=>on1 (onTup fun xs _ _=>F xs e) ts
theorem onAsgT_inv {F:List Expr→Expr→Bool} {e:Stmt} (h:onAsgT F e=true):∃ xs k p v pos,e = .Assign [.Tuple xs k p] v pos∧F xs v=true:=
 let ⟨_,v,pos,e1,h⟩:=onAsg_inv h
 let ⟨_,e2,h'⟩:=on1_inv h
 let ⟨xs,k,p,e3,h''⟩:=onTup_inv h'
 ⟨xs,k,p,v,pos,by rw [e1,e2,e3],h''⟩
noncomputable def onHand (F:Option Expr→Option Str→List Stmt→Bool):ExceptHandler→Bool
 | .ExceptHandler t n b _=>F t n b
noncomputable def onTry1 (F:Stmt→Str→Str→List Stmt→Bool):Stmt→Bool:=onTry fun body hs el fi _=>el.isEmpty && (fi.isEmpty && on1 (fun b=>on1 (onHand fun t n hb=>onO (onName fun g _=>onO (fun x=>!hb.isEmpty && F b g x hb) n) t) hs) body)
theorem onTry1_inv {F:Stmt→Str→Str→List Stmt→Bool} {e:Stmt} (h:onTry1 F e=true):∃ st g gp x b bs hp pos,e = .Try [st] [.ExceptHandler (some (.Name g gp)) (some x) (b::bs) hp] [] [] pos∧F st g x (b::bs)=true:=
 let ⟨_,_,_,_,pos,e1,h⟩:=onTry_inv h
 let ⟨h1,h⟩:=and2 h
 let ⟨h2,h⟩:=and2 h
 let ⟨st,e2,h⟩:=on1_inv h
 let ⟨⟨_,_,hb,hp⟩,e3,h⟩:=on1_inv h
 let ⟨_,e4,h⟩:=onO_inv h
 let ⟨g,gp,e5,h⟩:=onName_inv h
 let ⟨x,e6,h⟩:=onO_inv h
 match hb,and2 h with
 |b::bs,h'=>⟨st,g,gp,x,b,bs,hp,pos,by rw [e1,e2,e3,e4,e5,e6,nil_of h1,nil_of h2],h'.2⟩
noncomputable def isNotO (o:UnaryOp):Bool:=o == .Not
noncomputable def isNegO (o:UnaryOp):Bool:=o == .USub
noncomputable def isAndO (o:BoolOp):Bool:=o == .And
theorem isNotO_eq {o:UnaryOp} (h:isNotO o=true):o = .Not:=eq_of_beq h
theorem isNegO_eq {o:UnaryOp} (h:isNegO o=true):o = .USub:=eq_of_beq h
theorem isAndO_eq {o:BoolOp} (h:isAndO o=true):o = .And:=eq_of_beq h
theorem isOrO_eq {o:BoolOp} (h:(!isAndO o)=true):o = .Or:=by cases o <;> first |rfl |cases h
noncomputable def notSlice (e:Expr):Bool:=!(e.ctorIdx == 26)
noncomputable def notComp (e:Expr):Bool:=!(e.ctorIdx == 8 || e.ctorIdx == 9 || e.ctorIdx == 10)
noncomputable def notCompT (e:Expr):Bool:=notComp e && !(e.ctorIdx == 25)
noncomputable def exAt:Nat→Str→Bool
 |0,a=>a == "code"
 |1,a=>a == "value"
 |2,a=>a == "errorcode"
 |_,_=>false
noncomputable def okSc (sc':Scope):Bool:=sc'.kind == .function && (!sc'.isGenerator && (!sc'.isCoroutine && (sc'.names.all (fun y=>y.2 != .cell && y.2 != .free) && sc'.names.all (fun y=>y.2 != .local || sc'.names.lookup y.1 == some .local))))
noncomputable def okP (sc:Sc) (q:Str):Bool:=q == ("pieces":Str) && (sc.lookup q == some .cell && okN q)
section
variable (fn:List Str)
mutual
noncomputable def chkE (sc:Sc) (nm:List Str):PE→Expr→Bool
 | .k c=>onConst fun c' _ _=>chkC c c'
 | .v i=>onName fun x _=>isL sc nm i x
 | .tup es=>onTup fun xs _ _=>decide (es.length≤64) && chkEs sc nm es xs
 | .lst es=>onList fun xs _=>decide (es.length≤64) && chkEs sc nm es xs
 | .not p=>onUn fun o x _=>isNotO o && chkE sc nm p x
 | .neg p=>onUn fun o x _=>isNegO o && chkE sc nm p x
 | .and ps=>onBool fun o xs _=>isAndO o && chkEs sc nm ps xs
 | .or ps=>onBool fun o xs _=>!isAndO o && chkEs sc nm ps xs
 | .ife t a b=>onIf fun t' a' b' _=>chkE sc nm t t' && (chkE sc nm a a' && chkE sc nm b b')
 | .bin op a b=>onBin fun l o r _=>chkB op o && (chkE sc nm a l && chkE sc nm b r)
 | .cmp op a b=>onCmp fun l os rs _=>on1 (fun o=>on1 (fun r=>op == o && (unmarked r && (chkE sc nm a l && chkE sc nm b r))) rs) os
 | .cmp2 o1 o2 a b c=>onCmp fun l os rs _=>on2 (fun p1 p2=>on2 (fun r1 r2=>o1 == p1 && (o2 == p2 && (unmarked r2 && (chkE sc nm a l && (chkE sc nm b r1 && chkE sc nm c r2))))) rs) os
 | .idx a i=>onSub fun v s _=>notSlice s && (chkE sc nm a v && chkE sc nm i s)
 | .sl a lo hi=>onSub fun v s _=>onSlice (fun l u st _=>st.isNone && (chkE sc nm a v && (chkO sc nm lo l && chkO sc nm hi u))) s
 | .call f args=>onCallN fun g xs=>onO (isG sc g) fn[f]? && (!xs.isEmpty && chkEs sc nm args xs)
 | .len a=>onCall1 fun g x=>isG sc g "len" && (plainE x && chkE sc nm a x)
 | .ord a=>onCall1 fun g x=>isG sc g "ord" && (plainE x && chkE sc nm a x)
 | .chr a=>onCall1 fun g x=>isG sc g "chr" && (plainE x && chkE sc nm a x)
 | .find a b=>onMeth fun v t x=>t == "find" && (simpleO v && (plainE x && (chkE sc nm a v && chkE sc nm b x)))
 | .join a b=>onMeth fun v t x=>t == "join" && (simpleO v && (plainE x && (chkE sc nm a v && chkE sc nm b x)))
 | .lenO i=>onCall1 fun g x=>isG sc g "len" && onName (fun y _=>isL sc nm i y) x
 | .joinO a i=>onMeth fun v t x=>t == "join" && (simpleO v && (chkE sc nm a v && onName (fun y _=>isL sc nm i y) x))
 | .tupO i=>onCall1 fun g x=>isG sc g "tuple" && onName (fun y _=>isL sc nm i y) x
 | .idxO i a=>onSubN fun x s=>notSlice s && (isL sc nm i x && chkE sc nm a s)
 | .exA i n=>onAttr fun v t _=>exAt n t && onName (fun x _=>isL sc nm i x) v
 | .comp elt it c=>onLC fun e' gs sc' _=>on1 (fun g=>g.is_async == 0 && onName (fun x _=>chkE sc nm it g.iter && (unmarked g.iter && (isL sc'.names [x] 0 x && (chkE sc'.names [x] elt e' && (chkF sc'.names [x] c g.ifs && okSc sc'))))) g.target) gs
 | .pcs p=>onSubN fun x s=>notSlice s && (okP sc x && chkE sc nm p s)
 | .cmpP it=>onLC fun e' gs sc' _=>onSubN (fun q s=>onBin (fun l o r _=>onName (fun x' _=>onConst (fun m _ _=>on1 (fun g=>g.is_async == 0 && (g.ifs.isEmpty && onName (fun x _=>chkB .fmod o && (chkC (.int 32) m && (okP sc q && (x == x' && (okN x && (!(x == q) && (chkE sc nm it g.iter && (unmarked g.iter && (sc'.kind == .function && (!(x == (".0":Str)) && sc'.names == [((".0":Str),.local),(x,.local),(q,.free)])))))))))) g.target)) gs) r) l) s) e'
noncomputable def chkEs (sc:Sc) (nm:List Str):List PE→List Expr→Bool
 | []=>fun xs=>xs.isEmpty
 |p::ps=>onC fun x r=>plainE x && (chkE sc nm p x && chkEs sc nm ps r)
noncomputable def chkO (sc:Sc) (nm:List Str):Option PE→Option Expr→Bool
 |none=>fun x=>x.isNone
 |some p=>onO fun e=>chkE sc nm p e
noncomputable def chkF (sc:Sc) (nm:List Str):Option PE→List Expr→Bool
 |none=>fun xs=>xs.isEmpty
 |some p=>on1 fun e=>chkE sc nm p e
end
noncomputable def isNames (sc:Sc) (nm:List Str):List Nat→List Expr→Bool
 | []=>fun xs=>xs.isEmpty
 |i::is=>onC fun t r=>onName (fun x _=>isL sc nm i x) t && isNames sc nm is r
noncomputable def noDup:List Nat→Bool
 | []=>true
 |i::is=>!is.contains i && noDup is
mutual
noncomputable def chkS (sc:Sc) (nm:List Str):PS→Stmt→Bool
 | .asg i p=>onAsg1 fun x e=>isL sc nm i x && (notComp e && chkE fn sc nm p e)
 | .upk is p=>onAsgT fun ts e=>isNames sc nm is ts && (noDup is && (notCompT e && chkE fn sc nm p e))
 | .upkT is ps=>onAsgT fun ts e=>onTup (fun es _ _=>isNames sc nm is ts && (noDup is && (is.length == ps.length && (decide (ps.length≤60) && ((es.all (foldedForSure 8) || !es.all (constantsAlone 8)) && chkEs fn sc nm ps es))))) e
 | .newO i=>onAsg1 fun x e=>isL sc nm i x && onList (fun l _=>l.isEmpty) e
 | .upkO i is ps=>onAsgT fun ts e=>onTup (fun es _ _=>onC (fun t ts=>onC (fun l es=>onName (fun x _=>isL sc nm i x) t && (onList (fun l _=>l.isEmpty) l && (isNames sc nm is ts && (noDup (i::is) && (is.length == ps.length && (decide (ps.length≤60) && chkEs fn sc nm ps es)))))) es) ts) e
 | .app i p=>onEx fun e _=>onMeth (fun v t x=>t == "append" && (onName (fun y _=>isL sc nm i y) v && (plainE x && chkE fn sc nm p x))) e
 | .aug i op p=>onAug fun t o e _=>onName (fun x _=>decide (op ≠ .mul) && (chkB op o && (isL sc nm i x && chkE fn sc nm p e))) t
 | .ite t a b=>onIte fun t' a' b' _=>chkE fn sc nm t t' && (chkSs sc nm a a' && chkSs sc nm b b')
 | .whl t b=>onWhl fun t' b' el _=>el.isEmpty && (chkE fn sc nm t t' && chkSs sc nm b b')
 | .forS i p b=>onFor1 fun x e b'=>isL sc nm i x && (unmarked e && (chkE fn sc nm p e && chkSs sc nm b b'))
 | .forL i p b=>onFor1 fun x e b'=>isL sc nm i x && (unmarked e && (chkE fn sc nm p e && chkSs sc nm b b'))
 | .ret p=>onRet fun e _=>onO (fun e=>chkE fn sc nm p e) e
 | .ret0=>onRet fun e _=>e.isNone
 | .rai m ec=>onRai fun e c _=>c.isNone && onO (onCallN fun g xs=>onO (isG sc g) fn[0]? && onC (fun e r=>plainE e && (chkE fn sc nm m e && (r.all plainE && chkF fn sc nm ec r))) xs) e
 | .brk=>onBrk fun _=>true
 | .tryR p i h=>onTry1 fun st g x hb=>isG sc g "Raised" && (isL sc nm i x && (onRet (fun e _=>onO (fun e=>chkE fn sc nm p e) e) st && chkSs sc nm h hb))
 | .tryE p i h=>onTry1 fun st g x hb=>isG sc g "Raised" && (isL sc nm i x && (onEx (fun e _=>notComp e && chkE fn sc nm p e) st && chkSs sc nm h hb))
 | .exp p=>onEx fun e _=>onCall (fun f _ _ _=>onName (fun _ _=>true) f) e && chkE fn sc nm p e
 | .frz _=>fun _=>false
 | .sto t w p=>onAsg fun ts e _=>on1 (onSubN fun x s=>onName (fun y _=>isL sc nm t x && (isL sc nm w y && (onBin (fun _ _ _ _=>true) e && chkE fn sc nm p e))) s) ts
 | .forR i b=>onFor1 fun x e b'=>isL sc nm i x && (onCallN (fun g xs=>isG sc g "range" && onC (fun a r=>on2 (fun z c=>onConst (fun v _ _=>chkC (.int 7) v) a && (onConst (fun v _ _=>chkC (.int 63) v) z && onConst (fun v _ _=>chkC (.int 14) v) c)) r) xs) e && chkSs sc nm b b')
noncomputable def chkSs (sc:Sc) (nm:List Str):List PS→List Stmt→Bool
 | []=>fun xs=>xs.isEmpty
 |p::ps=>match p with
   | .frz _=>chkSs sc nm ps
   |_=>onC fun x r=>chkS sc nm p x && chkSs sc nm ps r
end
end
end Mine
end
section
open PySem PySem.W PyProof.Rows
namespace Mine
noncomputable def b_is_blank:List PS:=
 [.ret (.cmp .In (.v 0) (.tup [.k (.str (S [32])),.k (.str (S [9])),.k (.str (S [10])),.k (.str (S [11])),.k (.str (S [12])),.k (.str (S [13]))]))]
noncomputable def n_is_blank:List String:=["c"]
noncomputable def b_digit:List PS:=
 [.ite (.cmp .NotEq (.len (.v 0)) (.k (.int 1)))
    [.ret (.neg (.k (.int 1)))]
    [],
  .asg 1 (.ord (.v 0)),
  .ite (.cmp2 .LtE .LtE (.k (.int 48)) (.v 1) (.k (.int 57)))
    [.ret (.bin .sub (.v 1) (.k (.int 48)))]
    [],
  .ite (.cmp2 .LtE .LtE (.k (.int 97)) (.v 1) (.k (.int 122)))
    [.ret (.bin .sub (.v 1) (.k (.int 87)))]
    [],
  .ite (.cmp2 .LtE .LtE (.k (.int 65)) (.v 1) (.k (.int 90)))
    [.ret (.bin .sub (.v 1) (.k (.int 55)))]
    [],
  .ret (.neg (.k (.int 1)))]
noncomputable def n_digit:List String:=["c","n"]
noncomputable def b_hex_sign:List PS:=
 [.asg 2 (.bin .add (.v 1) (.k (.int 3))),
  .ite (.cmp .Eq (.idx (.v 0) (.v 1)) (.k (.str (S [117]))))
    [.asg 2 (.bin .add (.v 1) (.k (.int 5)))]
    [.ite (.cmp .Eq (.idx (.v 0) (.v 1)) (.k (.str (S [85]))))
       [.asg 2 (.bin .add (.v 1) (.k (.int 9)))]
       []],
  .asg 3 (.bin .add (.v 1) (.k (.int 1))),
  .asg 4 (.k (.int 0)),
  .whl (.and [.cmp .Lt (.v 3) (.v 2),.cmp .Lt (.v 3) (.len (.v 0)),.cmp .LtE (.v 4) (.k (.int 69631))])
    [.asg 5 (.call 2 [.idx (.v 0) (.v 3)]),
     .ite (.or [.cmp .Lt (.v 5) (.k (.int 0)),.cmp .Gt (.v 5) (.k (.int 15))])
       [.brk]
       [],
     .asg 4 (.bin .add (.bin .mul (.v 4) (.k (.int 16))) (.v 5)),
     .aug 3 .add (.k (.int 1))],
  .ite (.cmp .Eq (.v 3) (.bin .add (.v 1) (.k (.int 1))))
    [.ret (.tup [.idx (.v 0) (.v 1),.v 3])]
    [],
  .ret (.tup [.chr (.v 4),.v 3])]
noncomputable def n_hex_sign:List String:=["text","at","most","place","value","step"]
noncomputable def b_octal_sign:List PS:=
 [.asg 2 (.v 1),
  .asg 3 (.k (.int 0)),
  .whl (.and [.cmp .Lt (.v 2) (.bin .add (.v 1) (.k (.int 3))),.cmp .Lt (.v 2) (.len (.v 0)),.cmp .Lt (.v 3) (.k (.int 32))])
    [.asg 4 (.call 2 [.idx (.v 0) (.v 2)]),
     .ite (.or [.cmp .Lt (.v 4) (.k (.int 0)),.cmp .Gt (.v 4) (.k (.int 7))])
       [.brk]
       [],
     .asg 3 (.bin .add (.bin .mul (.v 3) (.k (.int 8))) (.v 4)),
     .aug 2 .add (.k (.int 1))],
  .ret (.tup [.chr (.v 3),.v 2])]
noncomputable def n_octal_sign:List String:=["text","at","place","value","step"]
noncomputable def b_backslash:List PS:=
 [.asg 2 (.sl (.v 0) (some (.bin .add (.v 1) (.k (.int 1)))) (some (.bin .add (.v 1) (.k (.int 2))))),
  .ite (.cmp .Eq (.v 2) (.k (.str (S []))))
    [.ret (.tup [.k (.str (S [92])),.bin .add (.v 1) (.k (.int 1))])]
    [],
  .asg 3 (.find (.k (.str (S [97,98,102,110,114,116,118]))) (.v 2)),
  .ite (.cmp .GtE (.v 3) (.k (.int 0)))
    [.ret (.tup [.idx (.k (.str (S [7,8,12,10,13,9,11]))) (.v 3),.bin .add (.v 1) (.k (.int 2))])]
    [],
  .ite (.cmp .Eq (.v 2) (.k (.str (S [10]))))
    [.asg 4 (.bin .add (.v 1) (.k (.int 2))),
     .whl (.cmp .In (.sl (.v 0) (some (.v 4)) (some (.bin .add (.v 4) (.k (.int 1))))) (.tup [.k (.str (S [32])),.k (.str (S [9]))]))
       [.aug 4 .add (.k (.int 1))],
     .ret (.tup [.k (.str (S [32])),.v 4])]
    [],
  .ite (.cmp .In (.v 2) (.tup [.k (.str (S [120])),.k (.str (S [117])),.k (.str (S [85]))]))
    [.ret (.call 3 [.v 0,.bin .add (.v 1) (.k (.int 1))])]
    [],
  .ite (.cmp .In (.v 2) (.tup [.k (.str (S [48])),.k (.str (S [49])),.k (.str (S [50])),.k (.str (S [51])),.k (.str (S [52])),.k (.str (S [53])),.k (.str (S [54])),.k (.str (S [55]))]))
    [.ret (.call 4 [.v 0,.bin .add (.v 1) (.k (.int 1))])]
    [],
  .ret (.tup [.v 2,.bin .add (.v 1) (.k (.int 2))])]
noncomputable def n_backslash:List String:=["text","at","sign","known","behind"]
noncomputable def b_is_gap:List PS:=
 [.ret (.cmp .In (.v 0) (.tup [.k (.str (S [32])),.k (.str (S [9])),.k (.str (S [11])),.k (.str (S [12])),.k (.str (S [13]))]))]
noncomputable def n_is_gap:List String:=["c"]
noncomputable def b_skip_gaps:List PS:=
 [.whl (.cmp .Lt (.v 1) (.len (.v 0)))
    [.ite (.call 6 [.idx (.v 0) (.v 1)])
       [.aug 1 .add (.k (.int 1))]
       [.ite (.cmp .Eq (.sl (.v 0) (some (.v 1)) (some (.bin .add (.v 1) (.k (.int 2))))) (.k (.str (S [92,10]))))
          [.aug 1 .add (.k (.int 2))]
          [.ret (.v 1)]]],
  .ret (.v 1)]
noncomputable def n_skip_gaps:List String:=["text","at"]
noncomputable def b_skip_to_command:List PS:=
 [.asg 1 (.call 7 [.v 0,.v 1]),
  .whl (.cmp .In (.sl (.v 0) (some (.v 1)) (some (.bin .add (.v 1) (.k (.int 1))))) (.tup [.k (.str (S [10])),.k (.str (S [59])),.k (.str (S [35]))]))
    [.ite (.cmp .Eq (.idx (.v 0) (.v 1)) (.k (.str (S [35]))))
       [.asg 1 (.call 8 [.v 0,.v 1])]
       [.aug 1 .add (.k (.int 1))],
     .asg 1 (.call 7 [.v 0,.v 1])],
  .ret (.v 1)]
noncomputable def n_skip_to_command:List String:=["text","at"]
noncomputable def b_braces:List PS:=
 [.asg 2 (.len (.v 0)),
  .asg 3 (.bin .add (.v 1) (.k (.int 1))),
  .asg 4 (.v 3),
  .asg 5 (.k (.str (S []))),
  .asg 6 (.k (.int 1)),
  .whl (.cmp .Lt (.v 4) (.v 2))
    [.ite (.cmp .Eq (.idx (.v 0) (.v 4)) (.k (.str (S [123]))))
       [.aug 6 .add (.k (.int 1)),
        .aug 4 .add (.k (.int 1))]
       [.ite (.cmp .Eq (.idx (.v 0) (.v 4)) (.k (.str (S [125]))))
          [.aug 6 .sub (.k (.int 1)),
           .aug 4 .add (.k (.int 1)),
           .ite (.cmp .Eq (.v 6) (.k (.int 0)))
             [.ret (.tup [.bin .add (.v 5) (.sl (.v 0) (some (.v 3)) (some (.bin .sub (.v 4) (.k (.int 1))))),.v 4])]
             []]
          [.ite (.cmp .Eq (.sl (.v 0) (some (.v 4)) (some (.bin .add (.v 4) (.k (.int 2))))) (.k (.str (S [92,10]))))
             [.upk [7,8] (.call 5 [.v 0,.v 4]),
              .aug 5 .add (.bin .add (.sl (.v 0) (some (.v 3)) (some (.v 4))) (.v 7)),
              .asg 4 (.v 8),
              .asg 3 (.v 8)]
             [.ite (.cmp .Eq (.idx (.v 0) (.v 4)) (.k (.str (S [92]))))
                [.aug 4 .add (.k (.int 2))]
                [.whl (.and [.cmp .Lt (.v 4) (.v 2),.cmp .NotIn (.idx (.v 0) (.v 4)) (.k (.str (S [123,125,92])))])
                   [.aug 4 .add (.k (.int 1))]]]]]],
  .rai (.k (.str (S [109,105,115,115,105,110,103,32,99,108,111,115,101,45,98,114,97,99,101]))) none]
noncomputable def n_braces:List String:=["text","at","size","begin","place","made","depth","blank","behind"]
noncomputable def b_parts_until:List PS:=
 [.newO 3,
  .asg 4 (.k (.str (S []))),
  .asg 5 (.len (.v 0)),
  .whl (.and [.cmp .Lt (.v 1) (.v 5),.cmp .NotIn (.idx (.v 0) (.v 1)) (.v 2)])
    [.ite (.cmp .Eq (.idx (.v 0) (.v 1)) (.k (.str (S [36]))))
       [.upk [6,1] (.call 11 [.v 0,.v 1])]
       [.ite (.cmp .Eq (.idx (.v 0) (.v 1)) (.k (.str (S [91]))))
          [.upk [7,1] (.call 12 [.v 0,.v 1]),
           .asg 6 (.tup [.k (.str (S [99,109,100])),.v 7])]
          [.ite (.cmp .Eq (.idx (.v 0) (.v 1)) (.k (.str (S [92]))))
             [.ite (.and [.cmp .In (.k (.str (S [32]))) (.v 2),.cmp .Eq (.sl (.v 0) (some (.bin .add (.v 1) (.k (.int 1)))) (some (.bin .add (.v 1) (.k (.int 2))))) (.k (.str (S [10])))])
                [.brk]
                [],
              .upk [8,1] (.call 5 [.v 0,.v 1]),
              .asg 6 (.tup [.k (.str (S [116,101,120,116])),.v 8])]
             [.asg 9 (.v 1),
              .whl (.and [.cmp .Lt (.v 1) (.v 5),.cmp .NotIn (.idx (.v 0) (.v 1)) (.k (.str (S [36,91,92]))),.cmp .NotIn (.idx (.v 0) (.v 1)) (.v 2)])
                [.aug 1 .add (.k (.int 1))],
              .asg 6 (.tup [.k (.str (S [116,101,120,116])),.sl (.v 0) (some (.v 9)) (some (.v 1))])]]],
     .ite (.cmp .Eq (.idx (.v 6) (.k (.int 0))) (.k (.str (S [116,101,120,116]))))
       [.aug 4 .add (.idx (.v 6) (.k (.int 1)))]
       [.ite (.cmp .NotEq (.v 4) (.k (.str (S []))))
          [.app 3 (.tup [.k (.str (S [116,101,120,116])),.v 4]),
           .asg 4 (.k (.str (S [])))]
          [],
        .app 3 (.v 6)]],
  .ite (.cmp .NotEq (.v 4) (.k (.str (S []))))
    [.app 3 (.tup [.k (.str (S [116,101,120,116])),.v 4])]
    [],
  .ret (.tup [.tupO 3,.v 1])]
noncomputable def n_parts_until:List String:=["text","at","stops","parts","run","size","part","script","piece","begin"]
noncomputable def b_bare_stops:List PS:=
 [.ite (.v 0)
    [.ret (.tup [.k (.str (S [32])),.k (.str (S [9])),.k (.str (S [11])),.k (.str (S [12])),.k (.str (S [13])),.k (.str (S [10])),.k (.str (S [59])),.k (.str (S [93]))])]
    [],
  .ret (.tup [.k (.str (S [32])),.k (.str (S [9])),.k (.str (S [11])),.k (.str (S [12])),.k (.str (S [13])),.k (.str (S [10])),.k (.str (S [59]))])]
noncomputable def n_bare_stops:List String:=["is_nested"]
noncomputable def b_is_expanded:List PS:=
 [.ite (.cmp .NotEq (.sl (.v 0) (some (.v 1)) (some (.bin .add (.v 1) (.k (.int 3))))) (.k (.str (S [123,42,125]))))
    [.ret (.k (.bool false))]
    [],
  .asg 2 (.bin .add (.v 1) (.k (.int 3))),
  .ite (.cmp .In (.sl (.v 0) (some (.v 2)) (some (.bin .add (.v 2) (.k (.int 1))))) (.tup [.k (.str (S [])),.k (.str (S [10])),.k (.str (S [59]))]))
    [.ret (.k (.bool false))]
    [],
  .ret (.cmp .Eq (.call 7 [.v 0,.v 2]) (.v 2))]
noncomputable def n_is_expanded:List String:=["text","at","behind"]
noncomputable def b_word:List PS:=
 [.asg 3 (.call 16 [.v 0,.v 1]),
  .ite (.v 3)
    [.aug 1 .add (.k (.int 3))]
    [],
  .asg 4 (.sl (.v 0) (some (.v 1)) (some (.bin .add (.v 1) (.k (.int 1))))),
  .ite (.cmp .Eq (.v 4) (.k (.str (S [123]))))
    [.upk [5,6] (.call 13 [.v 0,.v 1]),
     .ite (.cmp .Eq (.v 5) (.k (.str (S []))))
       [.ret (.tup [.tup [.v 3,.tup []],.v 6])]
       [],
     .ret (.tup [.tup [.v 3,.tup [.tup [.k (.str (S [116,101,120,116])),.v 5]]],.v 6])]
    [],
  .ite (.cmp .Eq (.v 4) (.k (.str (S [34]))))
    [.upk [7,8] (.call 14 [.v 0,.bin .add (.v 1) (.k (.int 1)),.tup [.k (.str (S [34]))]]),
     .ite (.cmp .GtE (.v 8) (.len (.v 0)))
       [.rai (.k (.str (S [109,105,115,115,105,110,103,32,34]))) none]
       [],
     .ret (.tup [.tup [.v 3,.v 7],.bin .add (.v 8) (.k (.int 1))])]
    [],
  .upk [7,6] (.call 14 [.v 0,.v 1,.call 15 [.v 2]]),
  .ret (.tup [.tup [.v 3,.v 7],.v 6])]
noncomputable def n_word:List String:=["text","at","is_nested","is_expand","sign","inner","behind","parts","close"]
noncomputable def b_command_at:List PS:=
 [.asg 3 (.call 9 [.v 0,.v 1]),
  .asg 4 (.len (.v 0)),
  .ite (.or [.cmp .GtE (.v 3) (.v 4),.and [.v 2,.cmp .Eq (.idx (.v 0) (.v 3)) (.k (.str (S [93])))]])
    [.ret (.k .none)]
    [],
  .newO 5,
  .asg 6 (.v 3),
  .whl (.k (.bool true))
    [.upk [7,8] (.call 17 [.v 0,.v 6,.v 2]),
     .app 5 (.v 7),
     .asg 6 (.call 7 [.v 0,.v 8]),
     .ite (.cmp .GtE (.v 6) (.v 4))
       [.ret (.tup [.tupO 5,.v 3,.v 8,.v 4])]
       [],
     .ite (.cmp .In (.idx (.v 0) (.v 6)) (.tup [.k (.str (S [10])),.k (.str (S [59]))]))
       [.ret (.tup [.tupO 5,.v 3,.v 8,.bin .add (.v 6) (.k (.int 1))])]
       [],
     .ite (.and [.v 2,.cmp .Eq (.idx (.v 0) (.v 6)) (.k (.str (S [93])))])
       [.ret (.tup [.tupO 5,.v 3,.v 8,.v 6])]
       [],
     .ite (.cmp .Eq (.v 6) (.v 8))
       [.ite (.cmp .Eq (.idx (.v 0) (.bin .sub (.v 8) (.k (.int 1)))) (.k (.str (S [34]))))
          [.rai (.k (.str (S [101,120,116,114,97,32,99,104,97,114,97,99,116,101,114,115,32,97,102,116,101,114,32,99,108,111,115,101,45,113,117,111,116,101]))) none]
          [],
        .rai (.k (.str (S [101,120,116,114,97,32,99,104,97,114,97,99,116,101,114,115,32,97,102,116,101,114,32,99,108,111,115,101,45,98,114,97,99,101]))) none]
       []]]
noncomputable def n_command_at:List String:=["text","at","is_nested","begin","size","words","place","found","end"]
noncomputable def b_commands_of:List PS:=
 [.newO 1,
  .asg 2 (.call 18 [.v 0,.k (.int 0)]),
  .whl (.cmp .IsNot (.v 2) (.k .none))
    [.app 1 (.v 2),
     .asg 2 (.call 18 [.v 0,.idx (.v 2) (.k (.int 3))])],
  .frz 1,
  .ret (.v 1)]
noncomputable def n_commands_of:List String:=["text","found","command"]
noncomputable def b_plain_of:List PS:=
 [.upk [1,2] (.v 0),
  .ite (.or [.v 1,.cmp .Gt (.len (.v 2)) (.k (.int 1))])
    [.ret (.k .none)]
    [],
  .ite (.cmp .Eq (.len (.v 2)) (.k (.int 0)))
    [.ret (.k (.str (S [])))]
    [],
  .ite (.cmp .Eq (.idx (.idx (.v 2) (.k (.int 0))) (.k (.int 0))) (.k (.str (S [116,101,120,116]))))
    [.ret (.idx (.idx (.v 2) (.k (.int 0))) (.k (.int 1)))]
    [],
  .ret (.k .none)]
noncomputable def n_plain_of:List String:=["found","is_expand","parts"]
noncomputable def b_check_behind:List PS:=
 [.ite (.or [.cmp .GtE (.v 1) (.len (.v 0)),.call 1 [.idx (.v 0) (.v 1)]])
    [.ret0]
    [],
  .asg 3 (.v 1),
  .whl (.and [.cmp .Lt (.v 3) (.len (.v 0)),.cmp .Lt (.v 3) (.bin .add (.v 1) (.k (.int 20))),.not (.call 1 [.idx (.v 0) (.v 3)])])
    [.aug 3 .add (.k (.int 1))],
  .rai (.bin .add (.bin .add (.bin .add (.bin .add (.k (.str (S [108,105,115,116,32,101,108,101,109,101,110,116,32,105,110,32]))) (.v 2)) (.k (.str (S [32,102,111,108,108,111,119,101,100,32,98,121,32,34])))) (.sl (.v 0) (some (.v 1)) (some (.v 3)))) (.k (.str (S [34,32,105,110,115,116,101,97,100,32,111,102,32,115,112,97,99,101])))) (some (.tup [.k (.str (S [84,67,76])),.k (.str (S [86,65,76,85,69])),.k (.str (S [76,73,83,84])),.k (.str (S [74,85,78,75]))]))]
noncomputable def n_check_behind:List String:=["text","at","what","end"]
noncomputable def b_braced_element:List PS:=
 [.upkT [2,3] [.k (.int 1),.v 1],
  .whl (.cmp .Lt (.v 3) (.len (.v 0)))
    [.asg 4 (.idx (.v 0) (.v 3)),
     .ite (.cmp .Eq (.v 4) (.k (.str (S [92]))))
       [.aug 3 .add (.k (.int 1))]
       [.ite (.cmp .Eq (.v 4) (.k (.str (S [123]))))
          [.aug 2 .add (.k (.int 1))]
          [.ite (.cmp .Eq (.v 4) (.k (.str (S [125]))))
             [.aug 2 .sub (.k (.int 1)),
              .ite (.cmp .Eq (.v 2) (.k (.int 0)))
                [.exp (.call 21 [.v 0,.bin .add (.v 3) (.k (.int 1)),.k (.str (S [98,114,97,99,101,115]))]),
                 .ret (.tup [.sl (.v 0) (some (.v 1)) (some (.v 3)),.bin .add (.v 3) (.k (.int 1))])]
                []]
             []]],
     .aug 3 .add (.k (.int 1))],
  .rai (.k (.str (S [117,110,109,97,116,99,104,101,100,32,111,112,101,110,32,98,114,97,99,101,32,105,110,32,108,105,115,116]))) (some (.tup [.k (.str (S [84,67,76])),.k (.str (S [86,65,76,85,69])),.k (.str (S [76,73,83,84])),.k (.str (S [66,82,65,67,69]))]))]
noncomputable def n_braced_element:List String:=["text","first","depth","at","c"]
noncomputable def b_quoted_element:List PS:=
 [.newO 2,
  .whl (.cmp .Lt (.v 1) (.len (.v 0)))
    [.asg 3 (.idx (.v 0) (.v 1)),
     .ite (.cmp .Eq (.v 3) (.k (.str (S [92]))))
       [.upk [3,1] (.call 5 [.v 0,.v 1])]
       [.ite (.cmp .Eq (.v 3) (.k (.str (S [34]))))
          [.exp (.call 21 [.v 0,.bin .add (.v 1) (.k (.int 1)),.k (.str (S [113,117,111,116,101,115]))]),
           .ret (.tup [.joinO (.k (.str (S []))) 2,.bin .add (.v 1) (.k (.int 1))])]
          [.aug 1 .add (.k (.int 1))]],
     .app 2 (.v 3)],
  .rai (.k (.str (S [117,110,109,97,116,99,104,101,100,32,111,112,101,110,32,113,117,111,116,101,32,105,110,32,108,105,115,116]))) (some (.tup [.k (.str (S [84,67,76])),.k (.str (S [86,65,76,85,69])),.k (.str (S [76,73,83,84])),.k (.str (S [81,85,79,84,69]))]))]
noncomputable def n_quoted_element:List String:=["text","at","out","c"]
noncomputable def b_bare_element:List PS:=
 [.newO 2,
  .whl (.and [.cmp .Lt (.v 1) (.len (.v 0)),.not (.call 1 [.idx (.v 0) (.v 1)])])
    [.asg 3 (.idx (.v 0) (.v 1)),
     .ite (.cmp .Eq (.v 3) (.k (.str (S [92]))))
       [.upk [3,1] (.call 5 [.v 0,.v 1])]
       [.aug 1 .add (.k (.int 1))],
     .app 2 (.v 3)],
  .ret (.tup [.joinO (.k (.str (S []))) 2,.v 1])]
noncomputable def n_bare_element:List String:=["text","at","out","c"]
noncomputable def b_find_element:List PS:=
 [.whl (.and [.cmp .Lt (.v 1) (.len (.v 0)),.call 1 [.idx (.v 0) (.v 1)]])
    [.aug 1 .add (.k (.int 1))],
  .ite (.cmp .GtE (.v 1) (.len (.v 0)))
    [.ret (.k .none)]
    [],
  .ite (.cmp .Eq (.idx (.v 0) (.v 1)) (.k (.str (S [123]))))
    [.ret (.call 22 [.v 0,.bin .add (.v 1) (.k (.int 1))])]
    [],
  .ite (.cmp .Eq (.idx (.v 0) (.v 1)) (.k (.str (S [34]))))
    [.ret (.call 23 [.v 0,.bin .add (.v 1) (.k (.int 1))])]
    [],
  .ret (.call 24 [.v 0,.v 1])]
noncomputable def n_find_element:List String:=["text","at"]
noncomputable def b_split_list:List PS:=
 [.newO 1,
  .asg 2 (.call 25 [.v 0,.k (.int 0)]),
  .whl (.cmp .IsNot (.v 2) (.k .none))
    [.app 1 (.idx (.v 2) (.k (.int 0))),
     .asg 2 (.call 25 [.v 0,.idx (.v 2) (.k (.int 1))])],
  .frz 1,
  .ret (.v 1)]
noncomputable def n_split_list:List String:=["text","items","found"]
noncomputable def b_mode_of:List PS:=
 [.ite (.cmp .Eq (.v 0) (.k (.str (S []))))
    [.ret (.k (.str (S [98,114,97,99,101])))]
    [],
  .asg 2 (.idx (.v 0) (.k (.int 0))),
  .asg 3 (.cmp .In (.v 2) (.tup [.k (.str (S [123])),.k (.str (S [34]))])),
  .asg 4 (.and [.v 1,.cmp .Eq (.v 2) (.k (.str (S [35])))]),
  .asg 5 (.or [.v 3,.v 4]),
  .asg 6 (.k (.bool false)),
  .upkT [7,8] [.k (.int 0),.k (.int 0)],
  .whl (.cmp .Lt (.v 8) (.len (.v 0)))
    [.asg 9 (.idx (.v 0) (.v 8)),
     .aug 8 .add (.k (.int 1)),
     .ite (.cmp .Eq (.v 9) (.k (.str (S [123]))))
       [.aug 7 .add (.k (.int 1))]
       [.ite (.cmp .Eq (.v 9) (.k (.str (S [125]))))
          [.aug 7 .sub (.k (.int 1)),
           .ite (.cmp .Lt (.v 7) (.k (.int 0)))
             [.ret (.k (.str (S [101,115,99,97,112,101])))]
             []]
          [.ite (.cmp .In (.v 9) (.tup [.k (.str (S [93])),.k (.str (S [34]))]))
             [.asg 3 (.k (.bool true)),
              .asg 6 (.k (.bool true))]
             [.ite (.or [.cmp .In (.v 9) (.tup [.k (.str (S [91])),.k (.str (S [36])),.k (.str (S [59])),.k (.str (S [92]))]),.call 1 [.v 9]])
                [.asg 3 (.k (.bool true)),
                 .asg 5 (.k (.bool true)),
                 .ite (.cmp .Eq (.v 9) (.k (.str (S [92]))))
                   [.ite (.or [.cmp .Eq (.v 8) (.len (.v 0)),.cmp .Eq (.idx (.v 0) (.v 8)) (.k (.str (S [10])))])
                      [.ret (.k (.str (S [101,115,99,97,112,101])))]
                      [],
                    .ite (.cmp .In (.idx (.v 0) (.v 8)) (.tup [.k (.str (S [123])),.k (.str (S [125])),.k (.str (S [92]))]))
                      [.aug 8 .add (.k (.int 1))]
                      []]
                   []]
                []]]]],
  .ite (.cmp .Gt (.v 7) (.k (.int 0)))
    [.ret (.k (.str (S [101,115,99,97,112,101])))]
    [],
  .ite (.v 3)
    [.ret (.ife (.and [.v 6,.not (.v 5)]) (.k (.str (S [109,97,115,107]))) (.k (.str (S [98,114,97,99,101]))))]
    [],
  .ret (.ife (.v 4) (.k (.str (S [98,114,97,99,101]))) (.k (.str (S [110,111,110,101]))))]
noncomputable def n_mode_of:List String:=["element","is_hash","begins","is_bound","is_hashed","wants_brace","wants_escape","depth","at","c"]
noncomputable def b_escaped:List PS:=
 [.asg 2 (.find (.k (.str (S [12,10,13,9,11]))) (.v 0)),
  .ite (.cmp .GtE (.v 2) (.k (.int 0)))
    [.ret (.bin .add (.k (.str (S [92]))) (.idx (.k (.str (S [102,110,114,116,118]))) (.v 2)))]
    [],
  .ite (.or [.cmp .In (.v 0) (.tup [.k (.str (S [93])),.k (.str (S [91])),.k (.str (S [36])),.k (.str (S [59])),.k (.str (S [32])),.k (.str (S [92])),.k (.str (S [34]))]),.and [.v 1,.cmp .In (.v 0) (.tup [.k (.str (S [123])),.k (.str (S [125]))])]])
    [.ret (.bin .add (.k (.str (S [92]))) (.v 0))]
    [],
  .ret (.v 0)]
noncomputable def n_escaped:List String:=["c","is_deep","place"]
noncomputable def b_quote:List PS:=
 [.asg 2 (.call 27 [.v 0,.v 1]),
  .ite (.cmp .Eq (.v 2) (.k (.str (S [110,111,110,101]))))
    [.ret (.v 0)]
    [],
  .ite (.cmp .Eq (.v 2) (.k (.str (S [98,114,97,99,101]))))
    [.ret (.bin .add (.bin .add (.k (.str (S [123]))) (.v 0)) (.k (.str (S [125]))))]
    [],
  .newO 3,
  .ite (.and [.v 1,.cmp .Eq (.idx (.v 0) (.k (.int 0))) (.k (.str (S [35])))])
    [.app 3 (.k (.str (S [92])))]
    [],
  .forS 4 (.v 0)
    [.app 3 (.call 28 [.v 4,.cmp .Eq (.v 2) (.k (.str (S [101,115,99,97,112,101])))])],
  .ret (.joinO (.k (.str (S []))) 3)]
noncomputable def n_quote:List String:=["element","is_hash","mode","out","c"]
noncomputable def b_join_list:List PS:=
 [.newO 1,
  .forL 2 (.v 0)
    [.app 1 (.call 29 [.v 2,.cmp .Eq (.lenO 1) (.k (.int 0))])],
  .ret (.joinO (.k (.str (S [32]))) 1)]
noncomputable def n_join_list:List String:=["items","out","item"]
noncomputable def b_law_pieces:List PS:=
 [.ret (.lst [.k (.str (S [])),.k (.str (S [123])),.k (.str (S [125])),.k (.str (S [34])),.k (.str (S [92])),.k (.str (S [32])),.k (.str (S [9])),.k (.str (S [97])),.k (.str (S [120,52])),.k (.str (S [49])),.k (.str (S [35])),.k (.str (S [42])),.k (.str (S [93])),.k (.str (S [40])),.k (.str (S [41])),.k (.str (S [58])),.k (.str (S [11])),.k (.str (S [12])),.k (.str (S [13])),.k (.str (S [117])),.k (.str (S [233])),.k (.str (S [123,42,125])),.k (.str (S [125,32])),.k (.str (S [34,32])),.k (.str (S [92,125])),.k (.str (S [92,123])),.k (.str (S [92,34])),.k (.str (S [92,92])),.k (.str (S [123,97,125,32])),.k (.str (S [34,98,34,32])),.k (.str (S [92,120])),.k (.str (S [99,32]))])]
noncomputable def n_law_pieces:List String:=[]
noncomputable def b_law_told_texts:List PS:=
 [.ret (.lst [.k (.str (S [123,97,32,123,98,125,125,32,34,99,32,123,100,34,32,101,92,32,102,92,120,52,49,32,123,103,92,125,125,32,93,32,35,32,40,41,32,34,104,92,34,34,32,123,125,32,34,34,32,105,123,106,34,107])),.k (.str (S [9,92,92,32,92,117,48,48,101,57,92,11,123,42,125,12,123,92,92,125,13,35,58,125,123,32,34,123,34])),.k (.str (S [123,97,125,98,34,99,32,100])),.k (.str (S [97,32,34,98,34,123,99,125,100,95,101,95,102,95,103,95,104,95,105,95,106,95,107,95,108,95,109,32,110])),.k (.str (S [97,32,123,42,125,123,98,125,32,123,42,125,99])),.k (.str (S [123,42,125,32,123,97,32,123,98,125,32,99])),.k (.str (S [97,32,34,98,92,34,32,123,99,125])),.k (.str (S [123,97,125,32,123,98,92,125]))])]
noncomputable def n_law_told_texts:List String:=[]
noncomputable def b_law_element:List PS:=
 [.tryR (.tup [.call 25 [.v 0,.v 1],.k .none]) 2
    [.ret (.tup [.k .none,.tup [.exA 2 0,.exA 2 1,.exA 2 2]])]]
noncomputable def n_law_element:List String:=["text","at","raised"]
noncomputable def b_law_word:List PS:=
 [.tryR (.tup [.call 17 [.v 0,.v 1,.k (.bool false)],.k (.str (S []))]) 2
    [.ret (.tup [.k .none,.exA 2 1])]]
noncomputable def n_law_word:List String:=["text","at","raised"]
noncomputable def b_law_command:List PS:=
 [.tryR (.tup [.call 18 [.v 0,.k (.int 0)],.k (.str (S []))]) 1
    [.ret (.tup [.k .none,.exA 1 1])]]
noncomputable def n_law_command:List String:=["text","raised"]
noncomputable def b_law_list_fault:List PS:=
 [.ret (.tup [.k (.int 1),.v 0,.tup [.k (.str (S [84,67,76])),.k (.str (S [86,65,76,85,69])),.k (.str (S [76,73,83,84])),.v 1]])]
noncomputable def n_law_list_fault:List String:=["why","sort"]
noncomputable def b_law_junk:List PS:=
 [.asg 3 (.v 1),
  .whl (.and [.cmp .Lt (.v 3) (.len (.v 0)),.cmp .Lt (.v 3) (.bin .add (.v 1) (.k (.int 20))),.cmp .NotIn (.idx (.v 0) (.v 3)) (.k (.str (S [32,9,11,12,13])))])
    [.aug 3 .add (.k (.int 1))],
  .ret (.call 36 [.bin .add (.bin .add (.bin .add (.bin .add (.k (.str (S [108,105,115,116,32,101,108,101,109,101,110,116,32,105,110,32]))) (.v 2)) (.k (.str (S [32,102,111,108,108,111,119,101,100,32,98,121,32,34])))) (.sl (.v 0) (some (.v 1)) (some (.v 3)))) (.k (.str (S [34,32,105,110,115,116,101,97,100,32,111,102,32,115,112,97,99,101]))),.k (.str (S [74,85,78,75]))])]
noncomputable def n_law_junk:List String:=["text","behind","what","end"]
noncomputable def b_law_due:List PS:=
 [.upk [2,3] (.call 34 [.v 0,.v 1]),
  .ite (.and [.cmp .Eq (.sl (.v 0) (some (.v 1)) (some (.bin .add (.v 1) (.k (.int 3))))) (.k (.str (S [123,42,125]))),.cmp .NotIn (.sl (.v 0) (some (.bin .add (.v 1) (.k (.int 3)))) (some (.bin .add (.v 1) (.k (.int 4))))) (.tup [.k (.str (S [])),.k (.str (S [32])),.k (.str (S [9])),.k (.str (S [11])),.k (.str (S [12])),.k (.str (S [13]))])])
    [.ite (.and [.cmp .Eq (.v 3) (.k (.str (S []))),.not (.idx (.idx (.v 2) (.k (.int 0))) (.k (.int 0)))])
       [.ret (.tup [.tup [],.k .none])]
       [],
     .ret (.tup [.k .none,.call 37 [.v 0,.bin .add (.v 1) (.k (.int 3)),.k (.str (S [98,114,97,99,101,115]))]])]
    [],
  .ite (.cmp .Eq (.v 3) (.k (.str (S [109,105,115,115,105,110,103,32,99,108,111,115,101,45,98,114,97,99,101]))))
    [.ret (.tup [.k .none,.call 36 [.k (.str (S [117,110,109,97,116,99,104,101,100,32,111,112,101,110,32,98,114,97,99,101,32,105,110,32,108,105,115,116])),.k (.str (S [66,82,65,67,69]))]])]
    [],
  .ite (.cmp .NotEq (.v 3) (.k (.str (S []))))
    [.ret (.tup [.k .none,.call 36 [.k (.str (S [117,110,109,97,116,99,104,101,100,32,111,112,101,110,32,113,117,111,116,101,32,105,110,32,108,105,115,116])),.k (.str (S [81,85,79,84,69]))]])]
    [],
  .asg 4 (.idx (.v 2) (.k (.int 1))),
  .ite (.and [.cmp .In (.idx (.v 0) (.v 1)) (.k (.str (S [123,34]))),.cmp .Lt (.v 4) (.len (.v 0)),.cmp .NotIn (.idx (.v 0) (.v 4)) (.k (.str (S [32,9,11,12,13])))])
    [.asg 5 (.ife (.cmp .Eq (.idx (.v 0) (.v 1)) (.k (.str (S [123])))) (.k (.str (S [98,114,97,99,101,115]))) (.k (.str (S [113,117,111,116,101,115])))),
     .asg 6 (.bin .add (.k (.str (S [101,120,116,114,97,32,99,104,97,114,97,99,116,101,114,115,32,97,102,116,101,114,32,99,108,111,115,101,45]))) (.ife (.cmp .Eq (.idx (.v 0) (.v 1)) (.k (.str (S [123])))) (.k (.str (S [98,114,97,99,101]))) (.k (.str (S [113,117,111,116,101]))))),
     .ite (.cmp .NotEq (.call 35 [.sl (.v 0) (some (.v 1)) none]) (.tup [.k .none,.v 6]))
       [.ret (.tup [.tup [],.k .none])]
       [],
     .ret (.tup [.k .none,.call 37 [.v 0,.v 4,.v 5]])]
    [],
  .ret (.tup [.tup [.call 20 [.idx (.v 2) (.k (.int 0))],.v 4],.k .none])]
noncomputable def n_law_due:List String:=["text","at","found","why","behind","what","extra"]
noncomputable def b_law_walked:List PS:=
 [.upkO 1 [2,3] [.k (.int 0),.k .none],
  .whl (.cmp .Is (.v 3) (.k .none))
    [.whl (.and [.cmp .Lt (.v 2) (.len (.v 0)),.cmp .In (.idx (.v 0) (.v 2)) (.k (.str (S [32,9,11,12,13])))])
       [.aug 2 .add (.k (.int 1))],
     .asg 4 (.call 33 [.v 0,.v 2]),
     .ite (.cmp .Eq (.v 2) (.len (.v 0)))
       [.frz 1,
        .ret (.ife (.cmp .Eq (.v 4) (.tup [.k .none,.k .none])) (.tup [.v 1,.k .none]) (.k .none))]
       [],
     .upk [5,3] (.call 38 [.v 0,.v 2]),
     .ite (.cmp .NotEq (.v 4) (.tup [.v 5,.v 3]))
       [.ret (.k .none)]
       [],
     .ite (.cmp .Is (.v 3) (.k .none))
       [.app 1 (.idx (.v 5) (.k (.int 0))),
        .asg 2 (.idx (.v 5) (.k (.int 1)))]
       []],
  .frz 1,
  .ret (.tup [.v 1,.v 3])]
noncomputable def n_law_walked:List String:=["text","items","at","fault","heard","due"]
noncomputable def b_law_is_command:List PS:=
 [.asg 2 (.call 19 [.v 0]),
  .ite (.or [.cmp .NotEq (.len (.v 2)) (.k (.int 1)),.cmp .NotEq (.comp (.call 20 [.v 0]) (.idx (.idx (.v 2) (.k (.int 0))) (.k (.int 0))) none) (.v 1)])
    [.ret (.k (.bool false))]
    [],
  .ret (.cmp .Eq (.sl (.idx (.v 2) (.k (.int 0))) (some (.k (.int 1))) none) (.tup [.k (.int 0),.idx (.idx (.v 2) (.k (.int 0))) (.k (.int 2)),.len (.v 0)]))]
noncomputable def n_law_is_command:List String:=["text","items","found"]
noncomputable def b_law_text_right:List PS:=
 [.asg 1 (.call 39 [.v 0]),
  .ite (.cmp .Is (.v 1) (.k .none))
    [.ret (.k (.bool false))]
    [],
  .upk [2,3] (.v 1),
  .ite (.cmp .IsNot (.v 3) (.k .none))
    [.tryE (.call 26 [.v 0]) 4
       [.ite (.cmp .NotEq (.tup [.exA 4 0,.exA 4 1,.exA 4 2]) (.v 3))
          [.ret (.k (.bool false))]
          [],
        .upk [5,6] (.call 35 [.bin .add (.k (.str (S [120,32]))) (.v 0)]),
        .ret (.or [.cmp .Is (.v 5) (.k .none),.cmp .NotEq (.comp (.v 0) (.idx (.v 5) (.k (.int 0))) (some (.idx (.v 0) (.k (.int 0))))) (.lst [])])],
     .ret (.k (.bool false))]
    [],
  .ite (.or [.cmp .NotEq (.call 26 [.v 0]) (.v 2),.not (.call 40 [.bin .add (.k (.str (S [120,32]))) (.v 0),.bin .add (.lst [.k (.str (S [120]))]) (.v 2)])])
    [.ret (.k (.bool false))]
    [],
  .asg 7 (.call 30 [.v 2]),
  .ret (.and [.cmp .Eq (.call 26 [.v 7]) (.v 2),.call 40 [.bin .add (.k (.str (S [120,32]))) (.v 7),.bin .add (.lst [.k (.str (S [120]))]) (.v 2)]])]
noncomputable def n_law_text_right:List String:=["text","walked","items","fault","raised","found","why","again"]
end Mine
end
section
open PySem PySem.W PyProof.Rows
open PySem.Calls (callWith_builtin evalArgs_plain spliced_cons spliced_nil)
set_option maxRecDepth 100000
namespace Mine
structure Cx where
 prog:Program
 w:World
 K:Frag
 B0:Heap
 p:Program
 loose:List Str
 mg:Str→Option Value
 mb:Str→Option Value
 ki:K.In B0
 top:TopRead p loose mg mb B0
 fn:List Str
 fad:Nat→Addr
 rc:Addr
noncomputable abbrev Cx.M (X:Cx):Model:=model X.prog X.w
noncomputable def HandLv (lv:Nat) (hd:Option Value) (h:Heap):Prop:=
 (lv=2→hd=none)∧(1≤lv→∀ v,hd=some v→∃ e o vs,v = .ref e∧h.get? e=some o∧o.data = .fields vs∧vs[2]?=some .none)∧(∀ v,hd=some v→∃ e,v = .ref e)∧lv≤2
structure Amb (X:Cx) (A:Around) (FS:List Addr) (lv:Nat) (h:Heap):Prop where
 base:X.B0.StaysIn h
 frs:∃ l,A.frames=some l∧FS=l.filterMap (·.frame)∧∀ env ∈ l,env.scope.kind = .function∧∃ L,env.frame=some L∧X.B0.get? L=none∧∃ m,h.Ns L m
 hand:HandLv lv A.handled h
theorem Amb.fsNs {X:Cx} {A:Around} {FS:List Addr} {lv:Nat} {h:Heap} (a:Amb X A FS lv h) {b:Addr} (hb:b ∈ FS):X.B0.get? b=none∧∃ m,h.Ns b m:=by
 obtain ⟨l,_,rfl,hl⟩:=a.frs
 obtain ⟨env,he,hf⟩:=List.mem_filterMap.mp hb
 obtain ⟨_,L,hL,hn,m,hm⟩:=hl env he
 rw [hL] at hf
 obtain rfl:=Option.some.inj hf
 exact ⟨hn,m,hm⟩
theorem ns_notfields {h:Heap} {b:Addr} {m:Str→Option Value} (n:h.Ns b m) {o:Obj} (e:h.get? b=some o):∃ es ep,o.data = .dict es ep:=by
 obtain ⟨o',es,ep,ho,hd,_⟩:=n
 rw [ho] at e
 cases e
 exact ⟨es,ep,hd⟩
theorem Amb.notFS {X:Cx} {A:Around} {FS:List Addr} {lv:Nat} {h:Heap} (a:Amb X A FS lv h) {b:Addr} {o:Obj} (e:h.get? b=some o) (hd:∀ es ep,o.data ≠ .dict es ep):b ∉ FS:=fun hb=>by
 obtain ⟨_,m,hm⟩:=a.fsNs hb
 obtain ⟨es,ep,q⟩:=ns_notfields hm e
 exact hd es ep q
theorem Amb.ev {X:Cx} {A:Around} {FS:List Addr} {lv:Nat} {h h':Heap} (a:Amb X A FS lv h) (x:Ev FS h h'):Amb X A FS lv h':=by
 refine ⟨fun b o e=>x.keep b o (a.base b o e) fun hb=>?_,?_,a.hand.1,fun hl v hv=>?_,a.hand.2.2⟩
 ·rw [(a.fsNs hb).1] at e;cases e
 ·obtain ⟨l,hA,hfs,hl⟩:=a.frs
  refine ⟨l,hA,hfs,fun env he=>?_⟩
  obtain ⟨k,L,hL,hn,m,hm⟩:=hl env he
  exact ⟨k,L,hL,hn,m,x.fr L (hfs▸List.mem_filterMap.mpr ⟨env,he,hL⟩) m hm⟩
 ·obtain ⟨e,o,vs,rfl,he,hd,h2⟩:=a.hand.2.1 hl v hv
  exact ⟨e,o,vs,rfl,x.keep e o he (a.notFS he fun es ep q=>by rw [hd] at q;cases q),hd,h2⟩
inductive ExObj (X:Cx) (HS:Addr→Prop) (h:Heap) (e:Addr) (x:Exc):Prop
 |mk (d:Addr) (sl:Array (Option Value)) (vs:Array Value) (m:Str→Option Value) (t u:Tok) (v:Value) (a1:h.get? e=some ⟨.ref X.rc,some d,.fields vs,sl⟩) (a2:¬ HS d) (a3:h.Ns d m) (a4:m "code"=some (.int 1 t)) (a5:m "value"=some (.str x.value u)) (a6:m "errorcode"=some v) (a7:Rd HS h v x.ec):ExObj X HS h e x
inductive FlyD (HS:Addr→Prop) (h:Heap) (d:Addr) (x:Exc):Prop
 |mk (m:Str→Option Value) (t u:Tok) (v:Value) (a1:h.Ns d m) (a2:m "code"=some (.int 1 t)) (a3:m "value"=some (.str x.value u)) (a4:m "errorcode"=some v) (a5:Rd HS h v x.ec):FlyD HS h d x
inductive FlyT (FS:List Addr) (hb h:Heap) (e d:Addr) (vs:Array Value):Prop
 |mk (T:Addr) (oT:Obj) (ts:Array Value) (a1:vs[1]?=some (.ref T)) (a2:hb.get? T=none) (a3:T ∉ FS) (a4:T≠e) (a5:T≠d) (a6:h.get? T=some oT) (a7:oT.data = .fields ts) (a8:3<ts.size):FlyT FS hb h e d vs
inductive Fly (X:Cx) (FS:List Addr) (HS:Addr→Prop) (lv:Nat) (hb h:Heap) (e:Addr) (x:Exc):Prop
 |mk (a1:hb.get? e=none) (a2:e ∉ FS) (d:Addr) (sl:Array (Option Value)) (vs:Array Value) (a3:h.get? e=some ⟨.ref X.rc,some d,.fields vs,sl⟩) (a4:hb.get? d=none∧d ∉ FS∧d≠e) (a5:FlyD HS h d x) (a6:∃ a0,vs[0]?=some a0) (a7:2<vs.size) (a8:lv=2→vs[2]?=some .none) (a9:vs[1]?=some .none∨FlyT FS hb h e d vs):Fly X FS HS lv hb h e x
theorem Fly.out {X:Cx} {FS:List Addr} {HS:Addr→Prop} {lv:Nat} {hb h:Heap} {e:Addr} {x:Exc} (f:Fly X FS HS lv hb h e x):hb.get? e=none∧e ∉ FS:=by
 cases f with
 |mk a b=>exact ⟨a,b⟩
noncomputable def ValR (X:Cx) (HS:Addr→Prop) (oa:Nat→Addr) (h:Heap) (m:Str→Option Value) (i:Nat) (x:Str):Option Val→Prop
 |some (.d d)=>∃ v,m x=some v∧Rd HS h v d
 |some (.own ds)=>m x=some (.ref (oa i))∧∃ vs n,h.get? (oa i)=some { cls := .type "list",data := .seq vs n }∧RdAll HS h vs.toList ds
 |some (.ex e)=>∃ a,m x=some (.ref a)∧ExObj X HS h a e
 |_=>True
noncomputable def PcAt (X:Cx) (c:Addr):Prop:=∃ o p vs n,X.B0.get? c=some o∧o.data = .cell (some (.ref p))∧X.B0.get? p=some { cls := .type "list",data := .seq vs n }∧∀ (i:Nat) (t:List Nat),pieces[i]?=some t→∃ u:Tok,vs[i]?=some (Value.str (S t) u)
structure EnvOK (X:Cx) (env:Env) (L:Addr) (sc:Sc):Prop where
 kind:env.scope.kind = .function
 names:env.scope.names=sc
 loc:env.locals=L
 glob:env.globals=mainGlobals
 bi:env.builtins=builtinsNs
 cel:sc.lookup ("pieces":Str)=some .cell→∃ c,env.cells.lookup ("pieces":Str)=some c∧PcAt X c
structure St (X:Cx) (A:Around) (env:Env) (L:Addr) (FS:List Addr) (HS:Addr→Prop) (sc:Sc) (nm:List Str) (oa:Nat→Addr) (ρ:Loc) (k lv:Nat) (h:Heap):Prop where
 amb:Amb X A FS lv h
 env:EnvOK X env L sc
 loc:∃ m,h.Ns L m∧∀ i x,nm[i]?=some x→ValR X HS oa h m i x ρ[i]?
 len:ρ.length=nm.length
 hsf:∀ b ∈ FS,HS b
 hsb:∀ b,HS b→∃ o,h.get? b=some o
 lhs:HS L
 dep:A.depth+k≤900
 uni:A.units+8 * k+200≤9000
 hsn:∀ b,HS b→X.B0.get? b=none
theorem ValR.ev {X:Cx} {A:Around} {FS:List Addr} {HS:Addr→Prop} {lv:Nat} {oa:Nat→Addr} {h h':Heap} {m:Str→Option Value} {i:Nat} {x:Str} {o:Option Val} (a:Amb X A FS lv h) (hf:∀ b ∈ FS,HS b)
  (e:Ev FS h h') (r:ValR X HS oa h m i x o):ValR X HS oa h' m i x o:=by
 rcases o with _ |(_ |d |ds |ex)
 ·trivial
 ·trivial
 ·obtain ⟨v,hv,q⟩:=r
  exact ⟨v,hv,q.ev e hf⟩
 ·obtain ⟨hv,vs,n,ho,q⟩:=r
  exact ⟨hv,vs,n,e.keep _ _ ho (a.notFS ho fun _ _ q=>by cases q),q.ev e hf⟩
 ·obtain ⟨a',hv,d,sl,vs,m',t,u,v,ho,hd,hn,h1,h2,h3,q⟩:=r
  obtain ⟨od,es,ep,hod,r'⟩:=hn
  exact ⟨a',hv,d,sl,vs,m',t,u,v,e.keep _ _ ho (a.notFS ho fun _ _ q=>by cases q),hd,⟨od,es,ep,e.keep _ _ hod (fun q=>hd (hf _ q)),r'⟩,h1,h2,h3,q.ev e hf⟩
section
variable {X:Cx} {A:Around} {env:Env} {L:Addr} {FS:List Addr} {HS:Addr→Prop} {sc:Sc} {nm:List Str} {oa:Nat→Addr} {ρ:Loc} {k lv:Nat} {h h':Heap}
theorem ex_ev (a:Amb X A FS lv h) (x:Ev FS h h') {b:Addr} (e:∃ o,h.get? b=some o):∃ o,h'.get? b=some o:=by
 obtain ⟨o,ho⟩:=e
 by_cases hb:b ∈ FS
 ·obtain ⟨_,m,hm⟩:=a.fsNs hb
  obtain ⟨o',_,_,ho',_⟩:=x.fr b hb m hm
  exact ⟨o',ho'⟩
 ·exact ⟨o,x.keep b o ho hb⟩
theorem none_ev (a:Amb X A FS lv h) (x:Ev FS h h') {b:Addr} (e:h'.get? b=none):h.get? b=none:=by
 cases q:h.get? b with
 |none=>rfl
 |some o=>obtain ⟨o',ho'⟩:=ex_ev a x ⟨o,q⟩;rw [e] at ho';cases ho'
theorem St.ev (s:St X A env L FS HS sc nm oa ρ k lv h) (x:Ev FS h h'):St X A env L FS HS sc nm oa ρ k lv h':=by
 obtain ⟨m,hm,hl⟩:=s.loc
 have hm':h'.Ns L m:=by
  by_cases hL:L ∈ FS
  ·exact x.fr L hL m hm
  ·obtain ⟨o,es,ep,ho,r⟩:=hm
   exact ⟨o,es,ep,x.keep L o ho hL,r⟩
 exact ⟨s.amb.ev x,s.env,⟨m,hm',fun i y hy=>(hl i y hy).ev s.amb s.hsf x⟩,s.len,s.hsf,fun b hb=>ex_ev s.amb x (s.hsb b hb),s.lhs,s.dep,s.uni,s.hsn⟩
theorem St.lt (s:St X A env L FS HS sc nm oa ρ k lv h) {b:Addr} (hb:HS b):b<h.objs.size:=by
 obtain ⟨o,ho⟩:=s.hsb b hb
 exact Heap.lt_size ho
theorem St.new (s:St X A env L FS HS sc nm oa ρ k lv h) {b:Addr} (e:h.get? b=none):¬ HS b:=fun hb=>by
 obtain ⟨o,ho⟩:=s.hsb b hb
 rw [e] at ho;cases ho
theorem Fly.back {hb h₁ h₂:Heap} {e:Addr} {x:Exc} (a:Amb X A FS lv hb) (y:Ev FS hb h₁) (f:Fly X FS HS lv h₁ h₂ e x):Fly X FS HS lv hb h₂ e x:=by
 obtain ⟨f1,f2,d,sl,vs,f3,⟨f4,f5,f6⟩,f7,f8,f9,f10,f11⟩:=f
 refine ⟨none_ev a y f1,f2,d,sl,vs,f3,⟨none_ev a y f4,f5,f6⟩,f7,f8,f9,f10,f11.imp id ?_⟩
 rintro ⟨T,oT,ts,t1,t2,t3,t4,t5,t6,t7,t8⟩
 exact ⟨T,oT,ts,t1,none_ev a y t2,t3,t4,t5,t6,t7,t8⟩
inductive EP (FS:List Addr) (HS:Addr→Prop) (s:Shared) (Q:PyData→Prop) (v:Value) (s':Shared):Prop
 |mk (d:PyData) (a:Q d) (r:Rd HS s'.heap v d) (y:Ev FS s.heap s'.heap) (z:Same s s'):EP FS HS s Q v s'
inductive EX (X:Cx) (FS:List Addr) (HS:Addr→Prop) (lv:Nat) (s:Shared) (E:Exc→Prop) (v:Value) (s':Shared):Prop
 |mk (e:Addr) (x:Exc) (q:v = .ref e) (a:E x) (f:Fly X FS HS lv s.heap s'.heap e x) (y:Ev FS s.heap s'.heap) (z:Same s s'):EX X FS HS lv s E v s'
theorem EP.back {s s₁:Shared} {Q:PyData→Prop} {v:Value} {s':Shared} (y:Ev FS s.heap s₁.heap) (z:Same s s₁) (e:EP FS HS s₁ Q v s'):EP FS HS s Q v s':=by
 obtain ⟨d,hq,r,y',z'⟩:=e
 exact ⟨d,hq,r,y.trans y',z.trans z'⟩
theorem EX.back {s s₁:Shared} {E:Exc→Prop} {v:Value} {s':Shared} (a:Amb X A FS lv s.heap) (y:Ev FS s.heap s₁.heap) (z:Same s s₁) (e:EX X FS HS lv s₁ E v s'):EX X FS HS lv s E v s':=by
 obtain ⟨e,x,hv,he,f,y',z'⟩:=e
 exact ⟨e,x,hv,he,f.back a y,y.trans y',z.trans z'⟩
end
end Mine
end
section
open PySem PySem.W PyProof.Rows
set_option maxRecDepth 100000
namespace Mine
theorem range_pick {α:Type} (xs:Array α) (a b:Nat):((sliceRange (a:Int) (b:Int) 1).filterMap (xs[·]?))=(xs.toList.drop a).take (b - a):=by
 rw [sliceRange_one]
 exact pick_run xs a (b - a)
noncomputable def loN (lo:Option Nat) (n:Nat):Nat:=match lo with
 |none=>0
 |some i=>min i n
noncomputable def hiN (hi:Option Nat) (n:Nat):Nat:=match hi with
 |none=>n
 |some i=>min i n
theorem hiN_le (hi:Option Nat) (n:Nat):hiN hi n≤n:=by
 cases hi with
 |none=>exact Nat.le_refl _
 |some i=>exact Nat.min_le_right _ _
noncomputable def ci (o:Option Nat):Option Int:=o.map fun n=>(n:Int)
theorem cut_nat {α:Type} (l:List α) (lo hi:Option Nat):cut l lo hi=(l.drop (loN lo l.length)).take (hiN hi l.length - loN lo l.length):=by
 have e1:l.drop (loN lo l.length)=l.drop (lo.getD 0):=by
  cases lo with
  |none=>rfl
  |some a=>
   show l.drop (min a l.length)=l.drop a
   rcases Nat.le_total a l.length with h |h
   ·rw [Nat.min_eq_left h]
   ·rw [Nat.min_eq_right h,List.drop_length,List.drop_of_length_le h]
 have e2:loN lo l.length=min (lo.getD 0) l.length:=by
  cases lo with
  |none=>exact (Nat.zero_min _).symm
  |some a=>rfl
 rw [e1,e2]
 cases hi with
 |none=>
  show l.drop (lo.getD 0)=(l.drop (lo.getD 0)).take (l.length - min (lo.getD 0) l.length)
  rw [List.take_of_length_le]
  rw [List.length_drop]
  omega
 |some b=>
  show (l.drop (lo.getD 0)).take (b - lo.getD 0)=(l.drop (lo.getD 0)).take (min b l.length - min (lo.getD 0) l.length)
  rcases Nat.le_total b l.length with h |h
  ·rw [Nat.min_eq_left h]
   rcases Nat.le_total (lo.getD 0) l.length with h' |h'
   ·rw [Nat.min_eq_left h']
   ·rw [List.drop_of_length_le h',List.take_nil,List.take_nil]
  ·rw [Nat.min_eq_right h,List.take_of_length_le (by rw [List.length_drop];omega),List.take_of_length_le (by rw [List.length_drop];omega)]
theorem clip_of (i n:Nat):max (0:Int) (min (if (i:Int)<0 then (i:Int)+n else i) (n:Int))=(min i n:Nat):=by
 rw [if_neg (by omega)]
 omega
set_option tactic.hygienic true in
theorem ssi_eq (lo hi:Option Nat) (n:Nat):Builtin.Str.strSliceIndices (ci lo) (ci hi) 1 n=sliceRange (loN lo n:Int) (hiN hi n:Int) 1:=by
 cases lo <;> cases hi
 ·rfl
 ·rename_i i
  exact congrArg (fun z=>sliceRange 0 z 1) (clip_of i n)
 ·rename_i i
  exact congrArg (fun z=>sliceRange z n 1) (clip_of i n)
 ·rename_i i j
  exact (congrArg (fun z=>sliceRange z _ 1) (clip_of i n)).trans (congrArg (fun z=>sliceRange _ z 1) (clip_of j n))
theorem slen (x:Str):x.cps.toList.length=x.length:=by simp [Str.length]
theorem strSlice_cut (x:Str) (lo hi:Option Nat):(Builtin.Str.strSliceIndices (ci lo) (ci hi) 1 x.length).filterMap (x.cps[·]?)=cut x.cps.toList lo hi:=by
 rw [ssi_eq lo hi _,range_pick,cut_nat,slen]
set_option tactic.hygienic true in
theorem slice_cut (x:Str) (lo hi:Option Nat):Txt.slice x (ci lo) (ci hi)=S (cut x.cps.toList lo hi):=by
 unfold Txt.slice
 rw [strSlice_cut x lo hi]
 split
 ·rename_i q
  have hl:(Builtin.Str.strSliceIndices (ci lo) (ci hi) 1 x.length).length=x.length:=by simpa using q
  rw [ssi_eq lo hi _,sliceRange_one,List.length_map,List.length_range] at hl
  rw [cut_nat,slen,hl]
  have hz:(x.cps.toList.drop (loN lo x.length)).take x.length=x.cps.toList:=by
   by_cases h0:x.length=0
   ·have:x.cps.toList=[]:=List.eq_nil_of_length_eq_zero ((slen x).trans h0)
    rw [this,List.drop_nil,List.take_nil]
   ·have:loN lo x.length=0:=by
     have hb:=hiN_le hi x.length
     omega
    rw [this,List.drop_zero,List.take_of_length_le (Nat.le_of_eq (slen x))]
  rw [hz]
  exact (S_of x).symm
 ·rfl
set_option tactic.hygienic true in
theorem slicePick_cut (xs:Array Value) (lo hi:Option Nat):slicePick xs (ci lo) (ci hi) none=(cut xs.toList lo hi).toArray:=by
 unfold slicePick
 have e:sliceBounds (ci lo) (ci hi) none xs.size=((loN lo xs.size:Int),(hiN hi xs.size:Int),1):=by
  cases lo <;> cases hi
  ·rfl
  ·rename_i i
   exact congrArg (fun z=>((0:Int),z,(1:Int))) (clip_of i xs.size)
  ·rename_i i
   exact congrArg (fun z=>(z,(xs.size:Int),(1:Int))) (clip_of i xs.size)
  ·rename_i i j
   exact (congrArg (fun z=>(z,_,(1:Int))) (clip_of i xs.size)).trans (congrArg (fun z=>(_,z,(1:Int))) (clip_of j xs.size))
 rw [e]
 dsimp only
 rw [range_pick,cut_nat]
 simp
theorem RdAll.cut {H:Addr→Prop} {h:Heap} {vs ds} (r:RdAll H h vs ds) (lo hi:Option Nat):RdAll H h (Mine.cut vs lo hi) (Mine.cut ds lo hi):=by
 unfold Mine.cut
 cases hi with
 |none=>exact r.drop _
 |some b=>exact (r.drop _).take _
theorem glued_joinL (sep:Str):∀ xs:List Str,(Txt.join sep xs).cps.toList=joinL sep.cps.toList (xs.map (·.cps.toList))
 | []=>rfl
 |x::r=>by
  have key:∀ (r:List Str) (acc:Array Nat),(r.foldl (fun acc p=>acc++sep.cps++p.cps) acc).toList=acc.toList++(r.map (fun p=>sep.cps.toList++p.cps.toList)).flatten:=by
   intro r
   induction r with
   |nil=>intro acc;simp
   |cons y r ih=>intro acc;rw [List.foldl_cons,ih];simp
  have k2:∀ (x:List Nat) (r:List Str),joinL sep.cps.toList (x::r.map (·.cps.toList))=x++(r.map (fun p=>sep.cps.toList++p.cps.toList)).flatten:=by
   intro x r
   induction r generalizing x with
   |nil=>simp [joinL]
   |cons y r ih=>
    rw [List.map_cons,joinL,ih]
    ·simp
    ·intro q;cases q
  show (Builtin.Str.glued sep (x::r)).cps.toList=_
  unfold Builtin.Str.glued
  rw [List.map_cons,k2]
  simpa using key r x.cps
theorem joinL_sum (sep:List Nat):∀ xs:List (List Nat),(xs.map List.length).sum≤(joinL sep xs).length
 | []=>Nat.le_refl _
 | [x]=>by simp [joinL]
 |x::y::r=>by
  have:=joinL_sum sep (y::r)
  rw [joinL]
  ·simp only [List.map_cons,List.sum_cons,List.length_append] at this ⊢
   exact linL fun q=>lin [_,_,_,_,_] [(1,0,.a (.v 0) (.v 1),.v 2),(1,0,.a (.a (.a (.v 3) (.v 4)) (.v 2)) (.n 1),.a (.v 3) (.a (.v 0) (.v 1)))] rfl this q
  ·intro q;cases q
theorem find_first (x:Str) (c:Nat):Txt.find x (S [c])=findFirst x.cps.toList c:=by
 have key:∀ i,StrLaws.At x (S [c]) x.length i↔x.cps.toList[i]?=some c:=fun i=>StrLaws.subAt_one x c i
 unfold Txt.find findFirst
 rcases StrLaws.occ_head x (S [c]) 1 (Nat.le_refl _) with ⟨h0,hn⟩ |⟨i,r,h0,ha,hn⟩
 ·rw [h0]
  have:x.cps.toList.findIdx? (· == c)=none:=by
   rw [List.findIdx?_eq_none_iff]
   intro y hy
   obtain ⟨j,hj⟩:=List.getElem?_of_mem hy
   have:=hn j
   rw [key] at this
   cases hq:y == c with
   |false=>rfl
   |true=>rw [hj,eq_of_beq hq] at this;exact absurd rfl this
  rw [this]
 ·rw [h0]
  have:x.cps.toList.findIdx? (· == c)=some i:=by
   rw [List.findIdx?_eq_some_iff_getElem]
   have ha':=(key i).mp ha
   obtain ⟨hi,he⟩:=List.getElem?_eq_some_iff.mp ha'
   refine ⟨hi,by rw [he];simp,fun j hj=>?_⟩
   have:=hn j hj
   rw [key] at this
   intro q
   exact this (by rw [List.getElem?_eq_getElem (Nat.lt_trans hj hi),eq_of_beq q])
  rw [this]
end Mine
end
section
open PySem PySem.W PyProof.Rows
set_option maxRecDepth 100000
namespace Mine
section
variable {X:Cx} {A:Around} {E:Value→Shared→Prop} {s:Shared} {FS:List Addr} {HS:Addr→Prop} {a b:Value} {x y d:PyData} {Q:PyData→Prop} {v:Value}
theorem EP.here (hq:Q d) (r:Rd HS s.heap v d):EP FS HS s Q v s:=⟨d,hq,r,.refl _ _,.refl _⟩
theorem EP.tok {n:Nat} (hq:Q d) (r:Rd HS s.heap v d):EP FS HS s Q v { s with toks:=n }:=⟨d,hq,r,.refl _ _,⟨rfl,rfl,rfl⟩⟩
noncomputable def strEq (p:Str):Value→Bool
 | .str z _=>z == p
 |_=>false
theorem any_strs (c:Str):∀ l:List (Str × Tok),(strValues l).toArray.any (strEq c)=decide (c ∈ l.map (·.1)):=by
 intro l
 rw [← Array.any_toList]
 induction l with
 |nil=>rfl
 |cons p l ih=>
  show (p.1 == c || (strValues l).any (strEq c))=decide (c ∈ p.1::l.map (·.1))
  rw [show (strValues l).any (strEq c)=_ from ih,Bool.eq_iff_iff,Bool.or_eq_true,beq_iff_eq,decide_eq_true_eq,decide_eq_true_eq,List.mem_cons]
  exact ⟨fun h=>h.imp Eq.symm id,fun h=>h.imp Eq.symm id⟩
section
variable {h:Heap}
theorem boolP.use {Q:Bool→Prop} (r:Rd HS h v d) (q:boolP Q d):∃ b,v = .bool b∧Q b:=
 let ⟨b,e,q⟩:=boolP_inv q;⟨b,rbool (e▸r),q⟩
theorem intP.use {Q:Int→Prop} (r:Rd HS h v d) (q:intP Q d):∃ b t,v = .int b t∧Q b:=
 let ⟨b,e,q⟩:=intP_inv q;let ⟨t,e'⟩:=rint (e▸r);⟨b,t,e',q⟩
theorem strP.use {Q:Str→Prop} (r:Rd HS h v d) (q:strP Q d):∃ b t,v = .str b t∧Q b:=
 let ⟨b,e,q⟩:=strP_inv q;let ⟨t,e'⟩:=rstr (e▸r);⟨b,t,e',q⟩
noncomputable def IsL (HS:Addr→Prop) (h:Heap) (v:Value) (T:String) (ds:List PyData):Prop:=∃ a dd vs n sl,v = .ref a∧h.get? a=some ⟨.type T,dd,.seq vs n,sl⟩∧¬ HS a∧RdAll HS h vs.toList ds
theorem listP.use {Q:List PyData→Prop} (r:Rd HS h v d) (q:listP Q d):∃ ds,IsL HS h v "list" ds∧Q ds:=
 let ⟨b,e,q⟩:=listP_inv q;⟨b,rlist (e▸r),q⟩
theorem tupP.use {Q:List PyData→Prop} (r:Rd HS h v d) (q:tupP Q d):∃ ds,IsL HS h v "tuple" ds∧Q ds:=
 let ⟨b,e,q⟩:=tupP_inv q;⟨b,rtup (e▸r),q⟩
theorem orI.use {F:Int→Prop} {D:Prop} (r:Rd HS h v d) (q:orI d F D):(∃ i t,v = .int i t∧F i)∨D:=
 (orI_inv q).imp (fun ⟨i,e,q⟩=>let ⟨t,e'⟩:=rint (e▸r);⟨i,t,e',q⟩) id
theorem orT.use {F:Str→Prop} {D:Prop} (r:Rd HS h v d) (q:orT d F D):(∃ i t,v = .str i t∧F i)∨D:=
 (orT_inv q).imp (fun ⟨i,e,q⟩=>let ⟨t,e'⟩:=rstr (e▸r);⟨i,t,e',q⟩) id
theorem orTu.use {F:List PyData→Prop} {D:Prop} (r:Rd HS h v d) (q:orTu d F D):(∃ ds,IsL HS h v "tuple" ds∧F ds)∨D:=
 (orTu_inv q).imp (fun ⟨i,e,q⟩=>⟨i,rtup (e▸r),q⟩) id
end
theorem items_strs {h:Heap} {xs:List Str}:∀ {vs:List Value},RdAll HS h vs (xs.map PyData.str)→∃ l:List (Str × Tok),vs=strValues l∧l.map (·.1)=xs:=by
 induction xs with
 |nil=>exact fun r=>⟨[],rnil r,rfl⟩
 |cons x xs ih=>
  intro vs r
  obtain ⟨v,vs',rfl,r1,r2⟩:=rcons r
  obtain ⟨t,rfl⟩:=rstr r1
  obtain ⟨l,rfl,rfl⟩:=ih r2
  exact ⟨(x,t)::l,rfl,rfl⟩
theorem beq_dec {α:Type} [BEq α] [LawfulBEq α] {a b:α} {p:Prop} [Decidable p] (h:a=b↔p):(a == b)=decide p:=by
 rw [Bool.eq_iff_iff,beq_iff_eq,decide_eq_true_eq];exact h
theorem bne_dec {α:Type} [BEq α] [LawfulBEq α] {a b:α} {p:Prop} [Decidable p] (h:a=b↔p):(a !=b)=decide (¬ p):=by
 rw [bne,beq_dec h,decide_not]
theorem str_l {a b:Str}:a=b↔a.cps.toList=b.cps.toList:=⟨fun e=>e▸rfl,fun e=>by rw [← S_of a,e,S_of]⟩
theorem EP.hb {a b:Bool} (e:b=a) (hq:Q (.bool a)):EP FS HS s Q (.bool b) s := .here (e▸hq) (.bool _)
theorem cmp_eq (hu:A.units+64<cLine) (ra:Rd HS s.heap a x) (rb:Rd HS s.heap b y) (h:cmpW .Eq x y Q):wpAny X.M A (compareOp .Eq a b) (EP FS HS s Q) E s:=by
 replace h:=eqW_inv h
 rcases h with ⟨i,j,rfl,rfl,h⟩ |⟨i,j,rfl,rfl,h⟩ |h
 ·obtain ⟨_,rfl⟩:=rint ra
  obtain ⟨_,rfl⟩:=rint rb
  exact PySem.P.eq_int (.hb (beq_dec Iff.rfl) h)
 ·obtain ⟨_,rfl⟩:=rstr ra
  obtain ⟨_,rfl⟩:=rstr rb
  exact PyProof.Rows.eq_str (.hb (beq_dec str_l) h)
 ·obtain ⟨as,r1⟩:=ra.reads
  obtain ⟨bs,r2⟩:=rb.reads
  exact eq_dataH r1 r2 h.1 h.2.1 hu (.here h.2.2 (.bool _))
theorem cmp_ne (hu:A.units+64<cLine) (ra:Rd HS s.heap a x) (rb:Rd HS s.heap b y) (h:cmpW .NotEq x y Q):wpAny X.M A (compareOp .NotEq a b) (EP FS HS s Q) E s:=by
 replace h:=eqW_inv h
 rcases h with ⟨i,j,rfl,rfl,h⟩ |⟨i,j,rfl,rfl,h⟩ |h
 ·obtain ⟨_,rfl⟩:=rint ra
  obtain ⟨_,rfl⟩:=rint rb
  exact PySem.P.ne_int (.hb (bne_dec Iff.rfl) h)
 ·obtain ⟨_,rfl⟩:=rstr ra
  obtain ⟨_,rfl⟩:=rstr rb
  exact PyProof.Rows.ne_str (.hb (bne_dec str_l) h)
 ·obtain ⟨as,r1⟩:=ra.reads
  obtain ⟨bs,r2⟩:=rb.reads
  exact ne_dataH r1 r2 h.1 h.2.1 hu (.here h.2.2 (.bool _))
theorem int2 {R:Int→Int→Prop} {G:Value→Value→Prop} (ra:Rd HS s.heap a x) (rb:Rd HS s.heap b y) (h:ii x y R) (g:∀ i j t u,R i j→G (.int i t) (.int j u)):G a b:=by
 obtain ⟨i,t,e,q⟩:=intP.use ra h
 obtain ⟨j,u,e',q⟩:=intP.use rb q
 rw [e,e']
 exact g i j t u q
theorem cmp_is {op:CmpOp} {P P':Prop} (ra:Rd HS s.heap a x) (rb:Rd HS s.heap b y) (h:isW x y P P') (h1:P→wpAny X.M A (compareOp op .none .none) (EP FS HS s Q) E s) (h2:P'→∀ c,wpAny X.M A (compareOp op (.ref c) .none) (EP FS HS s Q) E s):wpAny X.M A (compareOp op a b) (EP FS HS s Q) E s:=by
 replace h:=isW_inv h
 obtain ⟨rfl,h⟩:=h
 obtain rfl:=rnone rb
 rcases h with ⟨rfl,h⟩ |⟨_,rfl,h⟩ |⟨_,rfl,h⟩
 ·obtain rfl:=rnone ra
  exact h1 h
 ·obtain ⟨_,_,_,_,_,rfl,_⟩:=rtup ra
  exact h2 h _
 ·obtain ⟨_,_,_,_,_,rfl,_⟩:=rlist ra
  exact h2 h _
theorem tup_in {p:Str} {t:Tok} {xs:List Str} (rb:Rd HS s.heap b (.tuple (xs.map PyData.str))):∃ D vs,b = .ref D∧s.heap.IsTuple D vs∧(∀ y,y ∈ vs→SeqAt.EqAt A.in1 s y (.str p t) (strEq p y))∧vs.any (strEq p)=decide (p ∈ xs):=by
 obtain ⟨D,dd,vs,n,sl,rfl,ho,hn,r⟩:=rtup rb
 obtain ⟨l,hl,rfl⟩:=items_strs r
 obtain rfl:vs=(strValues l).toArray:=by rw [← hl]
 refine ⟨D,_,rfl,⟨_,ho,rfl,_,rfl⟩,fun y hy=>?_,any_strs p l⟩
 obtain ⟨⟨z,t⟩,_,rfl⟩:=List.mem_map.mp (List.mem_toArray.mp hy)
 exact (eqGives_str z p t _).at _ _
theorem cmp_in (ra:Rd HS s.heap a x) (rb:Rd HS s.heap b y) (h:cmpW .In x y Q):wpAny X.M A (compareOp .In a b) (EP FS HS s Q) E s:=by
 replace h:=inW_inv h
 rcases h with ⟨c,q,rfl,rfl,h⟩ |⟨p,xs,rfl,rfl,h⟩
 ·obtain ⟨_,rfl⟩:=rstr ra
  obtain ⟨_,rfl⟩:=rstr rb
  exact PySem.P.in_str (.hb (StrLaws.found_one q c) h)
 ·obtain ⟨_,rfl⟩:=rstr ra
  obtain ⟨D,vs,rfl,hl,he,e⟩:=tup_in rb
  exact SeqAt.in_tupleAt (strEq p) hl he (.hb e h)
theorem cmp_notIn (ra:Rd HS s.heap a x) (rb:Rd HS s.heap b y) (h:cmpW .NotIn x y Q):wpAny X.M A (compareOp .NotIn a b) (EP FS HS s Q) E s:=by
 replace h:=inW_inv h
 rcases h with ⟨c,q,rfl,rfl,h⟩ |⟨p,xs,rfl,rfl,h⟩
 ·obtain ⟨_,rfl⟩:=rstr ra
  obtain ⟨_,rfl⟩:=rstr rb
  exact PySem.P.notIn_str (.hb ((congrArg _ (StrLaws.found_one q c)).trans decide_not.symm) h)
 ·obtain ⟨_,rfl⟩:=rstr ra
  obtain ⟨D,vs,rfl,hl,he,e⟩:=tup_in rb
  exact SeqAt.notIn_tupleAt (strEq p) hl he (.hb ((congrArg _ e).trans decide_not.symm) h)
theorem cmp_ok {op:CmpOp} (hu:A.units+64<cLine) (ra:Rd HS s.heap a x) (rb:Rd HS s.heap b y) (h:cmpW op x y Q):wpAny X.M A (compareOp op a b) (EP FS HS s Q) E s:=
 match op,h with
 | .Eq,h=>cmp_eq hu ra rb h
 | .NotEq,h=>cmp_ne hu ra rb h
 | .Lt,h=>int2 (G:=fun a b=>wpAny X.M A (compareOp .Lt a b) (EP FS HS s Q) E s) ra rb h fun _ _ _ _ h=>PySem.P.lt_int (.here h (.bool _))
 | .LtE,h=>int2 (G:=fun a b=>wpAny X.M A (compareOp .LtE a b) (EP FS HS s Q) E s) ra rb h fun _ _ _ _ h=>PySem.P.le_int (.here h (.bool _))
 | .Gt,h=>int2 (G:=fun a b=>wpAny X.M A (compareOp .Gt a b) (EP FS HS s Q) E s) ra rb h fun _ _ _ _ h=>PySem.P.gt_int (.here h (.bool _))
 | .GtE,h=>int2 (G:=fun a b=>wpAny X.M A (compareOp .GtE a b) (EP FS HS s Q) E s) ra rb h fun _ _ _ _ h=>PySem.P.ge_int (.here h (.bool _))
 | .Is,h=>cmp_is ra rb h (fun h=>is_none (.here h (.bool _))) fun h _=>is_none (.here h (.bool _))
 | .IsNot,h=>cmp_is ra rb h (fun h=>isNot_none (.here h (.bool _))) fun h _=>isNot_none (.here h (.bool _))
 | .In,h=>cmp_in ra rb h
 | .NotIn,h=>cmp_notIn ra rb h
end
end Mine
end
section
open PySem PySem.W PyProof.Rows
set_option maxRecDepth 100000
namespace Mine
theorem lim_le {n:Nat} (h:n≤lim):n≤sizeLine:=by rw [sizeLine_eq];unfold lim at h;exact linL fun q=>lin [_] [(1,0,.v 0,.n 1048576),(1,0,.a (.n 16777216) (.n 1),.v 0)] rfl h q
section
variable {X:Cx} {A:Around} {E:Value→Shared→Prop} {s:Shared} {FS:List Addr} {HS:Addr→Prop} {a b:Value} {x y d:PyData} {Q:PyData→Prop} {v:Value}
theorem EP.new {o:Obj} {n:Nat} (hq:Q d) (r:Rd HS (s.heap.push o) v d):EP FS HS s Q v { s with heap:=s.heap.push o,toks:=n }:=⟨d,hq,r,.push _ _ _,⟨rfl,rfl,rfl⟩⟩
theorem Rd.push {h:Heap} (o:Obj) (r:Rd HS h v d):Rd HS (h.push o) v d:=r.mono (fun _ _ e _=>Heap.get?_push_of_some _ e) fun _ _ _ q=>q
theorem RdAll.push {h:Heap} {vs ds} (o:Obj) (r:RdAll HS h vs ds):RdAll HS (h.push o) vs ds:=r.mono (fun _ _ e _=>Heap.get?_push_of_some _ e) fun _ _ _ q=>q
theorem mulOk {a b:Int} (h1:0≤a) (h2:a≤2 ^ 30) (h3:0≤b) (h4:b≤2 ^ 30):IntMulOk a b:=by
 exact .of_left (intBits_le_64 (by omega) (by omega))
theorem pos_ne {b:Int} (h:0<b):b≠0:=fun e=>by subst e;exact absurd h (by decide)
theorem small20 {b:Int} (h:0<b) (h':b≤2 ^ 20):b.natAbs<2 ^ 30:=by omega
theorem str_app {a b:Str}:S (a.cps.toList++b.cps.toList)=a++b:=by rw [← S_append,S_of,S_of]
theorem lim_s {a b:Str} (h:a.cps.toList.length+b.cps.toList.length≤lim):a.length+b.length≤sizeLine:=by
 rw [← slen a,← slen b]
 exact lim_le h
theorem EP.ts {a b:Str} {t:Tok} {n:Nat} (hq:Q (.str (S (a.cps.toList++b.cps.toList)))):EP FS HS s Q (.str (a++b) t) { s with toks:=n } := .tok (str_app▸hq) (.str _ _)
theorem bin_ok {op:Bop} (hsz:¬ HS s.heap.objs.size) (ra:Rd HS s.heap a x) (rb:Rd HS s.heap b y) (h:binW op x y Q):wpAny X.M A (binaryOp (bopOp op) a b) (EP FS HS s Q) E s:=by
 cases op with
 |add=>
  rcases orI.use ra h with ⟨i,_,e,q⟩ |q
  ·obtain ⟨j,_,e',q⟩:=intP.use rb q
   rw [e,e']
   exact PySem.P.add_int (.tok q (.int _ _))
  ·rcases orT.use ra q with ⟨i,_,e,q⟩ |q
   ·obtain ⟨j,_,e',q⟩:=strP.use rb q
    rw [e,e']
    exact SB.add (fun t' k => .ts q.2) (lim_s q.1)
   ·obtain ⟨i,⟨_,_,_,_,_,e,ho,hn,r⟩,q⟩:=listP.use ra q
    obtain ⟨j,⟨_,_,_,_,_,e',ho',hn',r'⟩,q⟩:=listP.use rb q
    have l1:=r.length
    have l2:=r'.length
    rw [Array.length_toList] at l1 l2
    rw [e,e']
    refine concat_meets ⟨_,ho,rfl⟩ ⟨_,ho',rfl⟩ noFill_list_add seq_list_add PySem.F.slot_list_add PySem.F.entry_list_add (PySem.F.args_list_add_2 _ _) (list_addW _ _ _ _ _ _ _ _ _ _ (by rw [l1,l2];exact lim_le q.1)) ⟨ho,ho',?_⟩
    refine .new q.2 (.list (Heap.get?_push_size _ rfl) hsz ?_)
    rw [Array.toList_append]
    exact (r.push _).append (r'.push _)
 |sub=>exact int2 (G:=fun a b=>wpAny X.M A (binaryOp .Sub a b) (EP FS HS s Q) E s) ra rb h fun _ _ _ _ h=>PySem.P.sub_int (.tok h (.int _ _))
 |mul=>exact int2 (G:=fun a b=>wpAny X.M A (binaryOp .Mult a b) (EP FS HS s Q) E s) ra rb h fun _ _ _ _ h=>PySem.P.mul_int (.tok h.2.2.2.2 (.int _ _)) (mulOk h.1 h.2.1 h.2.2.1 h.2.2.2.1)
 |fdiv=>exact int2 (G:=fun a b=>wpAny X.M A (binaryOp .FloorDiv a b) (EP FS HS s Q) E s) ra rb h fun _ _ _ _ h=>floordiv_int (pos_ne h.1) (.tok h.2.2 (.int _ _)) (.inl (PyProof.noPylong_small (small20 h.1 h.2.1)))
 |fmod=>exact int2 (G:=fun a b=>wpAny X.M A (binaryOp .Mod a b) (EP FS HS s Q) E s) ra rb h fun _ _ _ _ h=>mod_int' (pos_ne h.1) (.tok h.2.2 (.int _ _))
theorem ibin_ok {op:Bop} (ra:Rd HS s.heap a x) (rb:Rd HS s.heap b y) (h:binW op x y Q) (hop:op ≠ .mul) (hl:∀ l,x ≠ .list l):wpAny X.M A (inplaceOp (bopOp op) a b) (EP FS HS s Q) E s:=by
 cases op with
 |add=>
  rcases orI.use ra h with ⟨i,_,e,q⟩ |q
  ·obtain ⟨j,_,e',q⟩:=intP.use rb q
   rw [e,e']
   exact PySem.P.iadd_int (.tok q (.int _ _))
  ·rcases orT.use ra q with ⟨i,_,e,q⟩ |q
   ·obtain ⟨j,_,e',q⟩:=strP.use rb q
    rw [e,e']
    exact SB.iadd (fun t' k => .ts q.2) (lim_s q.1)
   ·obtain ⟨i,e,_⟩:=listP_inv q
    exact absurd e (hl i)
 |sub=>exact int2 (G:=fun a b=>wpAny X.M A (inplaceOp .Sub a b) (EP FS HS s Q) E s) ra rb h fun _ _ _ _ h=>PySem.P.isub_int (.tok h (.int _ _))
 |mul=>exact absurd rfl hop
 |fdiv=>exact int2 (G:=fun a b=>wpAny X.M A (inplaceOp .FloorDiv a b) (EP FS HS s Q) E s) ra rb h fun _ _ _ _ h=>ifloordiv_int (pos_ne h.1) (.tok h.2.2 (.int _ _)) (.inl (PyProof.noPylong_small (small20 h.1 h.2.1)))
 |fmod=>exact int2 (G:=fun a b=>wpAny X.M A (inplaceOp .Mod a b) (EP FS HS s Q) E s) ra rb h fun _ _ _ _ h=>imod_int (pos_ne h.1) (.tok h.2.2 (.int _ _))
theorem tail_go {value slice:Expr} {o i:Value} {T id:String} {Q:Value→Shared→Prop} (hT:s.TypeIs o T) (hl:typeLookup (.type T) "__getitem__"=pure (some (.builtin id))) (hg:wpAny X.M A (getItem o i) Q E s) :
  wpAny X.M A (subscriptTail value slice o i) Q E s:=by
 by_cases hsl:∃ lo hi p,slice = .Slice lo hi none p
 ·obtain ⟨lo,hi,p,rfl⟩:=hsl
  exact tail_any (ops:=[i,o]) hT hl hg rfl
 ·exact tail_any (ops:=[o,i]) hT hl hg (by unfold subscripted;split <;> first |rfl |(exfalso;simp_all;done) |simp_all)
theorem lt63 {n:Nat} (h:n<lim):(n:Int)<2 ^ 63:=by unfold lim at h;omega
theorem fit63 {n:Nat} (h:n<lim):(decide ((n:Int) < -2 ^ 63) || decide ((n:Int)≥2 ^ 63))=false:=by
 have:=lt63 h
 rw [decide_eq_false (by omega),decide_eq_false (by omega)];rfl
theorem getItem_ok (ra:Rd HS s.heap a x) (rb:Rd HS s.heap b y) (h:idxW x y Q):∃ T id,s.TypeIs a T∧typeLookup (.type T) "__getitem__"=pure (some (.builtin id))∧wpAny X.M A (getItem a b) (EP FS HS s Q) E s:=by
 obtain ⟨i,_,e,q⟩:=intP.use rb h
 obtain ⟨n,e',h2,q⟩:=natP_inv q
 rw [e,e']
 rcases orT.use ra q with ⟨z,_,e,q⟩ |q
 ·obtain ⟨c,hc,q⟩:=onS_inv q
  rw [e]
  exact ⟨"str",_,typeIs_str _ _ _,F.slot_str_getitem.lookup,PySem.P.getItem_str (fit63 h2) (StrLaws.at_nonneg (n:=c) (Int.natCast_nonneg _) ((Array.getElem?_toList).symm.trans hc)) (.tok q (.str _ _))⟩
 ·rcases orTu.use ra q with ⟨l,⟨_,_,_,_,_,e,ho,hn,r⟩,q⟩ |q
  ·obtain ⟨d,hd,q⟩:=onS_inv q
   obtain ⟨v,hv,rv⟩:=r.get hd
   have hlt:=(List.getElem?_eq_some_iff.mp hv).1
   rw [Array.length_toList] at hlt
   rw [e]
   exact ⟨"tuple",_,⟨_,ho,rfl⟩,F.slot_tuple_getitem.lookup,getItem_tuple (x:=v) (j:=n) ⟨_,ho,rfl,_,rfl⟩ (Int.le_trans (by decide) (Int.natCast_nonneg _)) (lt63 h2) (StrLaws.seqIndex_nonneg (Int.natCast_nonneg _) (Int.ofNat_lt.mpr hlt)) ((Array.getElem?_toList).symm.trans hv) (.here q rv)⟩
  ·obtain ⟨l,⟨_,_,_,_,_,e,ho,hn,r⟩,q⟩:=listP.use ra q
   obtain ⟨d,hd,q⟩:=onS_inv q
   obtain ⟨v,hv,rv⟩:=r.get hd
   rw [e]
   exact ⟨"list",_,⟨_,ho,rfl⟩,F.slot_list_getitem.lookup,wpAny_getItem_list (x:=v) ⟨_,ho,rfl,_,rfl⟩ (Int.natCast_nonneg _) (lt63 h2) ((Array.getElem?_toList).symm.trans hv) (.here q rv)⟩
end
end Mine
end
section
open PySem PySem.W PyProof.Rows
set_option maxRecDepth 100000
namespace Mine
section
variable {X:Cx} {A:Around} {E:Value→Shared→Prop} {s:Shared} {FS:List Addr} {HS:Addr→Prop} {a b:Value} {x y d:PyData} {Q:PyData→Prop} {v:Value}
theorem EP.newS {o₁ o₂:Obj} {n:Nat} (hq:Q d) (r:Rd HS ((s.heap.push o₁).push o₂) v d):EP FS HS s Q v { s with heap:=(s.heap.push o₁).push o₂,toks:=n }:=⟨d,hq,r,(Ev.push _ _ _).trans (.push _ _ _),⟨rfl,rfl,rfl⟩⟩
noncomputable def partL (l:Option (Nat × Tok)):Option (Int × Tok):=l.map fun p=>((p.1:Int),p.2)
noncomputable def partN (l:Option (Nat × Tok)):Option Nat:=l.map (·.1)
theorem partL_is (l:Option (Nat × Tok)):IsPart (partValue (partL l)) (ci (partN l)):=by
 cases l with
 |none=>exact .none
 |some p=>exact .int _ _
theorem partL_ci (l:Option (Nat × Tok)):(partL l).map (·.1)=ci (partN l):=by cases l <;> rfl
theorem sl_ok {value slice:Expr} {ll lu:Option (Nat × Tok)} (hsz:∀ b,HS b→b<s.heap.objs.size) (ra:Rd HS s.heap a x)
  (q:orT x (fun a=>a.cps.toList.length≤lim∧Q (.str (S (cut a.cps.toList (partN ll) (partN lu))))) (orTu x (fun a=>partN lu=none∧onS (partN ll) fun n=>1≤n∧n≤a.length∧a.length≤lim∧Q (.tuple (a.drop n))) (listP (fun a=>a.length≤lim∧Q (.list (cut a (partN ll) (partN lu)))) x))) :
  wpAny X.M A (subscriptTail value slice a (.ref s.heap.objs.size)) (EP FS HS s Q) E { s with heap:=s.heap.push { cls := .type "slice",data := .fields #[partValue (partL ll),partValue (partL lu),.none] } }:=by
 have new:∀ o:Obj,¬ HS (s.heap.push o).objs.size:=fun o q=>by
  have:=hsz _ q
  rw [Heap.size_push] at this
  exact absurd (Nat.lt_of_succ_lt this) (Nat.lt_irrefl _)
 rcases orT.use ra q with ⟨z,_,e,h3,q⟩ |q
 ·rw [e]
  refine tail_go (T:="str") (typeIs_str _ _ _) F.slot_str_getitem.lookup ?_
  refine wpAny_getItem_str_slice (l:=partL ll) (u:=partL lu) (st:=none) ⟨_,Heap.get?_push_size _ rfl,rfl,rfl⟩ rfl (post_val_or_str ⟨Nat.le_trans (Txt.slice_le z _ _) (lim_le (slen z▸h3)),fun t' n=>?_⟩)
  exact (show EP FS HS s Q (.str (Txt.slice z ((partL ll).map (·.1)) ((partL lu).map (·.1))) t') { s with heap:=s.heap.push { cls := .type "slice",data := .fields #[partValue (partL ll),partValue (partL lu),.none] },toks:=n } from by
   rw [partL_ci,partL_ci,slice_cut]
   exact ⟨_,q,.str _ _,.push _ _ _,⟨rfl,rfl,rfl⟩⟩)
 ·rcases orTu.use ra q with ⟨l,⟨_,_,_,_,_,e,ho,hn,r⟩,e1,w⟩ |q
  ·have hlen:=r.length
   rw [Array.length_toList] at hlen
   rw [e]
   cases lu with
   |some _=>cases e1
   |none=>
    cases ll with
    |none=>exact w.elim
    |some p=>
     obtain ⟨k,t⟩:=p
     refine tail_go (T:="tuple") ⟨_,Heap.get?_push_of_some _ ho,rfl⟩ F.slot_tuple_getitem.lookup (getItem_tuple_from (a:=k) (u:=t) ⟨_,Heap.get?_push_of_some _ ho,rfl,_,rfl⟩ ⟨_,Heap.get?_push_size _ rfl,rfl,rfl⟩ w.1 (hlen.symm▸w.2.1) ?_ (hlen.symm▸lim_le w.2.2.1))
     exact .newS w.2.2.2 (.tuple (Heap.get?_push_size _ rfl) (new _) (((r.drop k).push _).push _))
  ·obtain ⟨l,⟨_,_,_,_,_,e,ho,hn,r⟩,h3,q⟩:=listP.use ra q
   have hlen:=r.length
   rw [Array.length_toList] at hlen
   rw [e]
   refine tail_go (T:="list") ⟨_,Heap.get?_push_of_some _ ho,rfl⟩ F.slot_list_getitem.lookup (wpAny_getItem_list_slice (lo:=ci (partN ll)) (hi:=ci (partN lu)) (st:=none) ⟨_,Heap.get?_push_of_some _ ho,rfl,_,rfl⟩ ⟨_,Heap.get?_push_size _ rfl,rfl,rfl⟩ (partL_is _) (partL_is _) .none (by simp) ?_ (hlen.symm▸lim_le h3))
   refine .newS q (.list (Heap.get?_push_size _ rfl) (new _) ?_)
   rw [slicePick_cut]
   exact ((r.cut _ _).push _).push _
end
end Mine
end
section
open PySem PySem.W PyProof.Rows
set_option maxRecDepth 100000
namespace Mine
section
variable {X:Cx} {A:Around} {E:Value→Shared→Prop} {s:Shared} {FS:List Addr} {HS:Addr→Prop} {a b:Value} {x y d:PyData} {Q:PyData→Prop} {v:Value}
theorem fitI {n:Nat} (h:n≤lim):(n:Int)<2 ^ 63:=by unfold lim at h;omega
theorem len_ok (ra:Rd HS s.heap a x) (h:lenW x Q):wpAny X.M A (call (.builtin "len") [a]) (EP FS HS s Q) E s:=by
 rcases orT.use ra h with ⟨z,_,e,h3,q⟩ |q
 ·rw [e]
  rw [slen] at h3 q
  exact PySem.P.len_str (Int.not_le.mpr (fitI h3)) (.tok q (.int _ _))
 ·rcases orTu.use ra q with ⟨l,⟨_,_,_,_,_,e,ho,hn,r⟩,h3,q⟩ |q
  ·have hlen:=r.length
   rw [Array.length_toList] at hlen
   rw [← hlen] at h3 q
   rw [e]
   exact PyProof.Rows.len_tuple ⟨_,ho,rfl,_,rfl⟩ (fitI h3) (.tok q (.int _ _))
  ·obtain ⟨l,⟨_,_,_,_,_,e,ho,hn,r⟩,h3,q⟩:=listP.use ra q
   have hlen:=r.length
   rw [Array.length_toList] at hlen
   rw [← hlen] at h3 q
   rw [e]
   exact PyProof.Rows.len_list ⟨_,ho,rfl,_,rfl⟩ (fitI h3) (.tok q (.int _ _))
theorem str1 {z:Str} {c:Nat} (h:z.cps.toList=[c]):z=S [c]:=by rw [← S_of z,h]
theorem ord_ok {z:Str} {t:Tok} (h:one1 z.cps.toList fun c=>Q (.int c)):wpAny X.M A (call (.builtin "ord") [.str z t]) (EP FS HS s Q) E s:=by
 obtain ⟨c,e,h⟩:=one1_inv h
 rw [str1 e]
 exact PySem.P.ord_of_char (.tok h (.int _ _))
theorem chr_ok {i:Int} {t:Tok} (h:natP i fun n=>n≤1114111∧Q (.str (S [n]))):wpAny X.M A (call (.builtin "chr") [.int i t]) (EP FS HS s Q) E s:=by
 obtain ⟨n,e,h1,h⟩:=natP_inv h
 rw [e]
 exact chr_of_range (Int.natCast_nonneg _) (Int.ofNat_le.mpr h1) (.tok h (.str _ _))
theorem find_ok {z w:Str} {t u:Tok} (h:one1 w.cps.toList fun c=>Q (.int (findFirst z.cps.toList c))):wpAny X.M A (call (.builtin "str.find") [.str z t,.str w u]) (EP FS HS s Q) E s:=by
 obtain ⟨c,e,h⟩:=one1_inv h
 rw [str1 e]
 refine PySem.SC.find ?_
 rw [find_first]
 exact .tok h (.int _ _)
theorem sum_map_len:∀ xs:List Str,((xs.map (·.cps.toList)).map List.length).sum=(xs.map (·.length)).sum
 | []=>rfl
 |x::r=>by simp only [List.map_cons,List.sum_cons,sum_map_len r];rw [slen]
theorem join_list_ok {D:Addr} {dd sl vs n} {ds:List PyData} {t:Tok} {z:Str} (ho:s.heap.get? D=some ⟨.type "list",dd,.seq vs n,sl⟩) (r:RdAll HS s.heap vs.toList ds) (h:joinW z ds Q) :
  wpAny X.M A (call (.builtin "str.join") [.str z t,.ref D]) (EP FS HS s Q) E s:=by
 replace h:=strsP_inv h
 obtain ⟨xs,rfl,h0,h1,h2,h⟩:=h
 rw [slen] at h0
 obtain ⟨l,hl,rfl⟩:=items_strs r
 have e:vs=(strValues l).toArray:=by rw [← hl]
 subst e
 refine PySem.SC.join (l:=l) (texts:=l.map (·.1)) ⟨_,ho,rfl,_,rfl⟩ rfl ?_ fun t' k=>?_
 ·unfold JoinOk
  rw [Bool.not_eq_true',StrLaws.joinTotal]
  have a1:=joinL_sum z.cps.toList ((l.map (·.1)).map (·.cps.toList))
  rw [sum_map_len] at a1
  have a2:(l.map (·.1)).length * z.length≤(l.map (·.1)).length * 1:=Nat.mul_le_mul_left _ h0
  unfold Builtin.Str.tooLong
  rw [decide_eq_false_iff_not,sizeLine_eq]
  unfold lim at h1 h2
  omega
 ·have e:Txt.join z (l.map (·.1))=S (joinL z.cps.toList ((l.map (·.1)).map (·.cps.toList))):=by rw [← glued_joinL,S_of]
  rw [e]
  exact .tok h (.str _ _)
theorem tuple_ok {D:Addr} {dd sl vs n} {ds:List PyData} (hex:∀ b,HS b→∃ o,s.heap.get? b=some o) (ho:s.heap.get? D=some ⟨.type "list",dd,.seq vs n,sl⟩) (r:RdAll HS s.heap vs.toList ds) (hz:ds.length≤lim) (h:Q (.tuple ds)) :
  wpAny X.M A (call (.type "tuple") [.ref D]) (EP FS HS s Q) E s:=by
 have hlen:=r.length
 rw [Array.length_toList] at hlen
 refine call_tuple_list ⟨_,ho,rfl,_,rfl⟩ (fun h' hk=>?_) (by rw [hlen];exact lim_le hz)
 have hk':∀ b o,s.heap.get? b=some o→(h'.push { cls := .type "tuple",data := .seq vs }).get? b=some o:=fun b o e=>Heap.get?_push_of_some _ (hk b o e)
 refine ⟨_,h,.tuple (Heap.get?_push_size _ rfl) (fun q=>?_) (r.mono (fun b o e _=>hk' b o e) fun _ _ _ q=>q),.of_keeps hk',⟨rfl,rfl,rfl⟩⟩
 obtain ⟨o,e⟩:=hex _ q
 exact absurd (Heap.lt_size (hk _ _ e)) (Nat.lt_irrefl _)
theorem newTuple_ok {vs:List Value} {ds:List PyData} (hn:¬ HS s.heap.objs.size) (r:RdAll HS s.heap vs ds) (hz:ds.length≤lim) (h:Q (.tuple ds)):wpAny X.M A (newTuple vs) (EP FS HS s Q) E s:=by
 refine wpAny_newObj_type ?_ (by show vs.toArray.size≤sizeLine;rw [List.size_toArray,r.length];exact lim_le hz)
 exact .new h (.tuple (Heap.get?_push_size _ rfl) hn (r.push _))
theorem newList_ok {vs:List Value} {ds:List PyData} (hn:¬ HS s.heap.objs.size) (r:RdAll HS s.heap vs ds) (hz:ds.length≤lim) (h:Q (.list ds)):wpAny X.M A (newList vs) (EP FS HS s Q) E s:=by
 refine wpAny_newObj_type ?_ (by show vs.toArray.size≤sizeLine;rw [List.size_toArray,r.length];exact lim_le hz)
 exact .new h (.list (Heap.get?_push_size _ rfl) hn (r.push _))
end
end Mine
end
section
open PySem PySem.W PyProof.Rows
open PySem.Calls (Name_function_global loadGlobal_global loadGlobal_builtin)
set_option maxRecDepth 100000
namespace Mine
noncomputable def CPost (X:Cx) (FS:List Addr) (HS:Addr→Prop) (lv:Nat) (s:Shared) (r:RR) (res:Result) (s':Shared):Prop:=
 match r,res with
 | .ok d,.ok (.ret v)=>Rd HS s'.heap v d∧Ev FS s.heap s'.heap∧Same s s'
 | .exc x,.error v=>∃ e,v = .ref e∧Fly X FS HS lv s.heap s'.heap e x∧Ev FS s.heap s'.heap∧Same s s'
 |_,_=>False
noncomputable def Contract (X:Cx) (Φ:Nat→List PyData→RR→Prop) (f lv:Nat):Prop:=
 ∀ (A:Around) (FS:List Addr) (HS:Addr→Prop) (s:Shared) (vs:List Value) (ds:List PyData) (r:RR),Amb X A FS lv s.heap→(∀ b ∈ FS,HS b)→(∀ b,HS b→∃ o,s.heap.get? b=some o)→(∀ b,HS b→X.B0.get? b=none) →
   A.depth+(f+1)≤900→A.units+8 * (f+1)+200≤9000→RdAll HS s.heap vs ds→Φ f ds r→codeAny X.M A (.call (.ref (X.fad f)) ⟨vs,[]⟩) (CPost X FS HS lv s r) s
structure NamesOK (X:Cx):Prop where
 defs:∀ f y,X.fn[f]?=some y→nsIn X.K mainGlobals y=some (some (.ref (X.fad f)))∧keepIn X.K (.ref (X.fad f))=true
 len:nsIn X.K mainGlobals "len"=some none
 ord:nsIn X.K mainGlobals "ord"=some none
 chr:nsIn X.K mainGlobals "chr"=some none
 tuple:nsIn X.K mainGlobals "tuple"=some none
 range:nsIn X.K mainGlobals "range"=some none
theorem ne_len:("len":Str)≠"__name__":=by decide+kernel
theorem ne_ord:("ord":Str)≠"__name__":=by decide+kernel
theorem ne_chr:("chr":Str)≠"__name__":=by decide+kernel
theorem ne_tuple:("tuple":Str)≠"__name__":=by decide+kernel
theorem star_plain {e:Expr} {rest:List Expr} {env:Env} (h:plainE e=true):starEach (e::rest) env=(false,eval e env)::starEach rest env:=by
 cases e <;> first |rfl |cases h
theorem isL_name {sc:Sc} {nm:List Str} {i:Nat} {x:Str} (h:isL sc nm i x=true):nm[i]?=some x∧sc.lookup x=some .local∧(x == ("__debug__":Str))=false:=by
 unfold isL okN at h
 simp only [Bool.and_eq_true,beq_iff_eq,Bool.not_eq_true'] at h
 exact ⟨h.1.1,h.1.2,h.2⟩
theorem isG_name {sc:Sc} {x y:Str} (h:isG sc x y=true):x=y∧sc.lookup x=some .globalImplicit∧(x == ("__debug__":Str))=false:=by
 unfold isG okN at h
 simp only [Bool.and_eq_true,beq_iff_eq,Bool.not_eq_true'] at h
 exact ⟨h.1.1,h.1.2,h.2⟩
section
variable {X:Cx} {A:Around} {env:Env} {L:Addr} {FS:List Addr} {HS:Addr→Prop} {sc:Sc} {nm:List Str} {oa:Nat→Addr} {ρ:Loc} {k lv:Nat} {s:Shared} {E:Value→Shared→Prop}
theorem local_ok {x:Str} {i:Nat} {pos:Pos} {Q:Value→Shared→Prop} (st:St X A env L FS HS sc nm oa ρ k lv s.heap) (hx:isL sc nm i x=true) (h:∀ m v,s.heap.Ns L m→ValR X HS oa s.heap m i x ρ[i]?→m x=some v→Q v s)
  (hb:∀ m,ValR X HS oa s.heap m i x ρ[i]?→∃ v,m x=some v):wpAny X.M A (eval (.Name x pos) env) Q E s:=by
 obtain ⟨h1,h2,h3⟩:=isL_name hx
 obtain ⟨m,hm,hl⟩:=st.loc
 have r:=hl i x h1
 obtain ⟨v,hv⟩:=hb m r
 have hk:env.kindOf x=some .local:=by unfold Env.kindOf;rw [st.env.names];exact h2
 have hm':s.heap.Ns env.locals m:=by rw [st.env.loc];exact hm
 exact wpAny_Name (wpAny_loadName_local st.env.kind hk hm' hv (h m v hm r hv)) h3
theorem global_ok {x y:Str} {v:Value} {pos:Pos} {Q:Value→Shared→Prop} (st:St X A env L FS HS sc nm oa ρ k lv s.heap) (hx:isG sc x y=true) (e:nsIn X.K mainGlobals y=some (some v)) (h:Q v s) :
  wpAny X.M A (eval (.Name x pos) env) Q E s:=by
 obtain ⟨rfl,h2,h3⟩:=isG_name hx
 have hk:env.kindOf x=some .globalImplicit:=by unfold Env.kindOf;rw [st.env.names];exact h2
 refine Name_function_global st.env.kind hk (loadGlobal_global (mg:=X.mg) ?_ (mg_of X.ki X.top.g e) h) h3
 rw [st.env.glob]
 exact X.top.g.keeps st.amb.base
theorem builtin_ok {x y:Str} {v:Value} {pos:Pos} {Q:Value→Shared→Prop} (st:St X A env L FS HS sc nm oa ρ k lv s.heap) (hx:isG sc x y=true) (e:nsIn X.K mainGlobals y=some none) (hb:bootBuiltins y=some v) (hn:y≠"__name__") (h:Q v s) :
  wpAny X.M A (eval (.Name x pos) env) Q E s:=by
 obtain ⟨rfl,h2,h3⟩:=isG_name hx
 have hk:env.kindOf x=some .globalImplicit:=by unfold Env.kindOf;rw [st.env.names];exact h2
 refine Name_function_global st.env.kind hk (loadGlobal_builtin (mg:=X.mg) (mb:=X.mb) ?_ (mg_none_of X.ki X.top.g e) ?_ ((X.top.builtins x hn).trans hb) h) h3
 ·rw [st.env.glob];exact X.top.g.keeps st.amb.base
 ·rw [st.env.bi];exact X.top.b.keeps st.amb.base
theorem localD_ok {x:Str} {i:Nat} {pos:Pos} {d:PyData} {Q:PyData→Prop} (st:St X A env L FS HS sc nm oa ρ k lv s.heap) (hx:isL sc nm i x=true) (hd:ρ[i]?=some (.d d)) (h:Q d):wpAny X.M A (eval (.Name x pos) env) (EP FS HS s Q) E s:=by
 refine local_ok st hx (fun m v _ r hv=>?_) fun m r=>?_
 ·rw [hd] at r
  obtain ⟨v',hv',r⟩:=r
  rw [hv] at hv'
  cases hv'
  exact .here h r
 ·rw [hd] at r
  obtain ⟨v',hv',_⟩:=r
  exact ⟨v',hv'⟩
theorem localO_ok {x:Str} {i:Nat} {pos:Pos} {ds:List PyData} {Q:Value→Shared→Prop} (st:St X A env L FS HS sc nm oa ρ k lv s.heap) (hx:isL sc nm i x=true) (hd:ρ[i]?=some (.own ds))
  (h:∀ vs n,s.heap.get? (oa i)=some { cls := .type "list",data := .seq vs n }→RdAll HS s.heap vs.toList ds→Q (.ref (oa i)) s):wpAny X.M A (eval (.Name x pos) env) Q E s:=by
 refine local_ok st hx (fun m v _ r hv=>?_) fun m r=>?_
 ·rw [hd] at r
  obtain ⟨hv',vs,n,ho,r⟩:=r
  rw [hv] at hv'
  cases hv'
  exact h vs n ho r
 ·rw [hd] at r
  exact ⟨_,r.1⟩
theorem call1_builtin {g y:Str} {id:String} {np pos:Pos} {x:Expr} {Q:Value→Shared→Prop} (st:St X A env L FS HS sc nm oa ρ k lv s.heap) (hg:isG sc g y=true) (e:nsIn X.K mainGlobals y=some none) (hb:bootBuiltins y=some (.builtin id)) (hn:y≠"__name__") (hp:plainE x=true)
  (h:wpAny X.M A (eval x env) (fun v s₁=>wpAny X.M A (call (.builtin id) [v]) Q E s₁) E s):wpAny X.M A (eval (.Call (.Name g np) [x] [] pos) env) Q E s:=by
 refine wpAny_Call_ofName (builtin_ok st hg e hb hn ?_)
 show wpAny X.M A (callWith pos (.builtin id) [] (backTo pos (starEach [x] env)) []) Q E s
 rw [star_plain hp]
 exact _root_.PySem.callWith_builtin1 h
theorem call1_type {g y:Str} {T:String} {np pos:Pos} {x:Expr} {Q:Value→Shared→Prop} (st:St X A env L FS HS sc nm oa ρ k lv s.heap) (hg:isG sc g y=true) (e:nsIn X.K mainGlobals y=some none) (hb:bootBuiltins y=some (.type T)) (hn:y≠"__name__") (hp:plainE x=true)
  (h:wpAny X.M A (eval x env) (fun v s₁=>wpAny X.M A (call (.type T) [v]) Q E s₁) E s):wpAny X.M A (eval (.Call (.Name g np) [x] [] pos) env) Q E s:=by
 refine wpAny_Call_ofName (builtin_ok st hg e hb hn ?_)
 show wpAny X.M A (callWith pos (.type T) [] (backTo pos (starEach [x] env)) []) Q E s
 rw [star_plain hp]
 exact _root_.PySem.callWith_type1 h
end
end Mine
end
section
open PySem PySem.W PyProof.Rows
set_option maxRecDepth 100000
namespace Mine
section
variable {X:Cx} {A:Around} {env:Env} {L:Addr} {FS:List Addr} {HS:Addr→Prop} {sc:Sc} {nm:List Str} {oa:Nat→Addr} {ρ:Loc} {k lv:Nat} {s:Shared} {E:Value→Shared→Prop}
theorem mcall {o x:Expr} {name:Str} {ap pos:Pos} {Q:Value→Shared→Prop} (ho:simpleO o=true) (hl:(ap.endLine == pos.line)=true) (hp:plainE x=true)
  (h:wpAny X.M A (eval o env) (fun ov s₁=>∀ pl,wpAny X.M A (getMethod ov name pl) (fun fx s₂=>wpAny X.M A (callWith pos fx.1 fx.2 [(false,eval x env)] []) Q E s₂) E s₁) E s) :
  wpAny X.M A (eval (.Call (.Attribute o name ap) [x] [] pos) env) Q E s:=by
 rw [arm_eval_Call,star_plain hp]
 have hb:attributeBase o name env (eval o env)=eval o env:=by cases o <;> first |rfl |cases ho
 rw [hb]
 refine wpAny_bind (wpAny_mono h (fun ov s₁ h₁=>wpAny_bind (wpAny_standAt ?_)) fun _ _ x=>x)
 unfold methodCall
 have hpos:methodCallPos (methodCallForm 1 (backTo pos ((false,eval x env)::starEach [] env)) (backToKw pos (keywordEach [] env))) o env ap pos=pure pos:=by
  unfold methodCallPos
  rw [hl,Bool.or_true]
  rfl
 refine wpAny_bind (wpAny_holding (wpAny_mono (h₁ _) (fun fx s₂ h₂=>?_) fun _ _ x=>x))
 show wpAny X.M A (methodCallPos (methodCallForm 1 (backTo pos ((false,eval x env)::starEach [] env)) (backToKw pos (keywordEach [] env))) o env ap pos >>= fun callPos=>callWith callPos fx.1 fx.2 (backTo pos ((false,eval x env)::starEach [] env)) (backToKw pos (keywordEach [] env))) Q E s₂
 rw [hpos]
 exact wpAny_bind (wpAny_pure h₂)
theorem callWith_m1 {pos:Pos} {id:String} {first:List Value} {t:Sem Value} {Q:Value→Shared→Prop} (h:wpAny X.M A t (fun v s₁=>wpAny X.M A (call (.builtin id) (first++[v])) Q E s₁) E s):wpAny X.M A (callWith pos (.builtin id) first [(false,t)] []) Q E s:=
 Calls.callWith_builtin rfl (Calls.evalArgs_plain (Calls.spliced_cons (wpAny_mono h (fun _ _ h₁=>Calls.spliced_nil h₁) fun _ _ e=>e)))
theorem St.hn (st:St X A env L FS HS sc nm oa ρ k lv s.heap):¬ HS s.heap.objs.size:=fun q=>absurd (st.lt q) (Nat.lt_irrefl _)
theorem St.room (st:St X A env L FS HS sc nm oa ρ k lv s.heap):A.units+64<cLine:=by
 have:=st.uni
 unfold cLine
 exact linT fun q=>lin [_,_] [(1,0,.a (.a (.v 0) (.s 8 (.v 1))) (.n 200),.n 9000),(1,0,.n 9900,.a (.v 0) (.n 64))] rfl this q
end
end Mine
end
section
open PySem PySem.W PyProof.Rows
set_option maxRecDepth 100000
namespace Mine
inductive EPs (FS:List Addr) (HS:Addr→Prop) (s:Shared) (Q:List PyData→Prop) (vs:List Value) (s':Shared):Prop
 |mk (ds:List PyData) (a:Q ds) (r:RdAll HS s'.heap vs ds) (y:Ev FS s.heap s'.heap) (z:Same s s'):EPs FS HS s Q vs s'
noncomputable def OptV (HS:Addr→Prop) (h:Heap) (v:Value):Option PyData→Prop
 |none=>v = .none
 |some d=>Rd HS h v d
theorem OptV.ev {HS:Addr→Prop} {FS:List Addr} {h h':Heap} (y:Ev FS h h') (hf:∀ b ∈ FS,HS b) {v:Value}:∀ {p:Option PyData},OptV HS h v p→OptV HS h' v p
 |none,r=>r
 |some _,r=>Rd.ev y hf r
inductive EPo (FS:List Addr) (HS:Addr→Prop) (s:Shared) (Q:Option PyData→Prop) (v:Value) (s':Shared):Prop
 |mk (p:Option PyData) (a:Q p) (r:OptV HS s'.heap v p) (y:Ev FS s.heap s'.heap) (z:Same s s'):EPo FS HS s Q v s'
noncomputable def TP (FS:List Addr) (s:Shared) (Q:Bool→Prop) (b:Bool) (s':Shared):Prop:=Q b∧Ev FS s.heap s'.heap∧Same s s'
section
variable {X:Cx} {A:Around} {env:Env} {L:Addr} {FS:List Addr} {HS:Addr→Prop} {sc:Sc} {nm:List Str} {oa:Nat→Addr} {ρ:Loc} {k lv:Nat} {s:Shared} {Ee:Exc→Prop}
theorem seq1 {m:Sem Value} {op:Value→Sem Value} {Q1 Q':PyData→Prop} (st:St X A env L FS HS sc nm oa ρ k lv s.heap) (h1:wpAny X.M A m (EP FS HS s Q1) (EX X FS HS lv s Ee) s)
  (h2:∀ v s₁ d,Q1 d→Rd HS s₁.heap v d→St X A env L FS HS sc nm oa ρ k lv s₁.heap→wpAny X.M A (op v) (EP FS HS s₁ Q') (EX X FS HS lv s₁ Ee) s₁) :
  wpAny X.M A m (fun a s₁=>wpAny X.M A (op a) (EP FS HS s Q') (EX X FS HS lv s Ee) s₁) (EX X FS HS lv s Ee) s:=by
 refine wpAny_mono h1 ?_ fun _ _ e=>e
 rintro v s₁ ⟨d,hq,r,y,z⟩
 exact wpAny_mono (h2 v s₁ d hq r (st.ev y)) (fun _ _ e=>e.back y z) fun _ _ e=>e.back st.amb y z
theorem seq2 {m n:Sem Value} {op:Value→Value→Sem Value} {Q1:PyData→Prop} {Q2:PyData→PyData→Prop} {Q':PyData→Prop} (st:St X A env L FS HS sc nm oa ρ k lv s.heap) (h1:wpAny X.M A m (EP FS HS s Q1) (EX X FS HS lv s Ee) s)
  (h2:∀ s₁ d,Q1 d→St X A env L FS HS sc nm oa ρ k lv s₁.heap→wpAny X.M A n (EP FS HS s₁ (Q2 d)) (EX X FS HS lv s₁ Ee) s₁)
  (h3:∀ v₁ v₂ s₂ d₁ d₂,Q2 d₁ d₂→Rd HS s₂.heap v₁ d₁→Rd HS s₂.heap v₂ d₂→St X A env L FS HS sc nm oa ρ k lv s₂.heap→wpAny X.M A (op v₁ v₂) (EP FS HS s₂ Q') (EX X FS HS lv s₂ Ee) s₂) :
  wpAny X.M A m (fun a s₁=>wpAny X.M A n (fun b s₂=>wpAny X.M A (op a b) (EP FS HS s Q') (EX X FS HS lv s Ee) s₂) (EX X FS HS lv s Ee) s₁) (EX X FS HS lv s Ee) s:=by
 refine wpAny_mono h1 ?_ fun _ _ e=>e
 rintro v s₁ ⟨d,hq,r,y,z⟩
 refine wpAny_mono (h2 s₁ d hq (st.ev y)) ?_ fun _ _ e=>e.back st.amb y z
 rintro v₂ s₂ ⟨d₂,hq₂,r₂,y₂,z₂⟩
 exact wpAny_mono (h3 v v₂ s₂ d d₂ hq₂ (r.ev y₂ st.hsf) r₂ ((st.ev y).ev y₂)) (fun _ _ e=>(e.back y₂ z₂).back y z) fun _ _ e=>(e.back (st.amb.ev y) y₂ z₂).back st.amb y z
theorem compare2 {l r1 r2:Expr} {o1 o2:CmpOp} {pos:Pos} {Q:Value→Shared→Prop} {E:Value→Shared→Prop} (hm:behindInMarks o2 r2=false)
  (h:wpAny X.M A (eval l env) (fun a s₁=>wpAny X.M A (eval r1 env) (fun b s₂=>wpAny X.M A (compareOp o1 a b) (fun c s₃=>wpAny X.M A (truthy c) (fun t s₄=>
    if t=true then wpAny X.M A (eval r2 env) (fun rv s₅=>wpAny X.M A (compareOp o2 b rv) Q E s₅) E s₄ else Q c s₄) E s₃) E s₂) E s₁) E s) :
  wpAny X.M A (eval (.Compare l [o1,o2] [r1,r2] pos) env) Q E s:=by
 show wpAny X.M A (do compareChain pos (← eval l env) [o1,o2] [eval r1 env,markedBehindIn o2 r2 (eval r2 env)]) Q E s
 rw [markedBehindIn_of_false hm]
 refine wpAny_bind (wpAny_mono h (fun a s₁ h₁=>?_) fun _ _ e=>e)
 refine wpAny_bind (wpAny_holding (wpAny_mono h₁ (fun b s₂ h₂=>wpAny_bind (wpAny_standAt ?_)) fun _ _ e=>e))
 refine wpAny_bind (wpAny_holding (wpAny_mono h₂ (fun c s₃ h₃=>wpAny_bind (wpAny_release ?_)) fun _ _ e=>e))
 refine wpAny_bind (wpAny_holding (wpAny_mono h₃ (fun t s₄ h₄=>?_) fun _ _ e=>e))
 cases t
 ·exact wpAny_pure h₄
 ·exact wpAny_bind (wpAny_holding (wpAny_mono h₄ (fun rv s₅ h₅=>wpAny_bind (wpAny_standAt (wpAny_operateT h₅))) fun _ _ e=>e))
theorem isTrue2 {l r1 r2:Expr} {o1 o2:CmpOp} {pos:Pos} {whole:Sem Value} {Q:Bool→Shared→Prop} {E:Value→Shared→Prop} (hm:behindInMarks o2 r2=false)
  (h:wpAny X.M A (eval l env) (fun a s₁=>wpAny X.M A (eval r1 env) (fun b s₂=>wpAny X.M A (compareOp o1 a b) (fun c s₃=>wpAny X.M A (truthy c) (fun t s₄=>
    if t=true then wpAny X.M A (eval r2 env) (fun rv s₅=>wpAny X.M A (compareOp o2 b rv) (fun c' s₆=>wpAny X.M A (truthy c') Q E s₆) E s₅) E s₄ else Q false s₄) E s₃) E s₂) E s₁) E s) :
  wpAny X.M A (isTrue (.Compare l [o1,o2] [r1,r2] pos) env whole) Q E s:=by
 rw [arm_isTrue_Compare]
 show wpAny X.M A (do testChain pos (← eval l env) [o1,o2] [eval r1 env,markedBehindIn o2 r2 (eval r2 env)]) Q E s
 rw [markedBehindIn_of_false hm]
 refine wpAny_bind (wpAny_mono h (fun a s₁ h₁=>?_) fun _ _ e=>e)
 refine wpAny_bind (wpAny_holding (wpAny_mono h₁ (fun b s₂ h₂=>wpAny_bind (wpAny_standAt ?_)) fun _ _ e=>e))
 refine wpAny_bind (wpAny_holding (wpAny_mono h₂ (fun c s₃ h₃=>wpAny_bind (wpAny_release ?_)) fun _ _ e=>e))
 refine wpAny_bind (wpAny_holding (wpAny_mono h₃ (fun t s₄ h₄=>?_) fun _ _ e=>e))
 cases t
 ·exact wpAny_pure h₄
 ·exact wpAny_bind (wpAny_holding (wpAny_mono h₄ (fun rv s₅ h₅=>wpAny_bind (wpAny_standAt (wpAny_bind (wpAny_operateT (wpAny_mono h₅ (fun c' s₆ h₆=>wpAny_holding h₆) fun _ _ e=>e))))) fun _ _ e=>e))
theorem chkEs_cons {fn:List Str} {sc:Sc} {nm:List Str} {p:PE} {ps:List PE} {xs:List Expr} (h:chkEs fn sc nm (p::ps) xs=true):∃ x r,xs=x::r∧plainE x=true∧chkE fn sc nm p x=true∧chkEs fn sc nm ps r=true:=
 let ⟨x,r,e,h⟩:=onC_inv h
 ⟨x,r,e,(and2 h).1,and2 (and2 h).2⟩
theorem chkEs_nil {fn:List Str} {sc:Sc} {nm:List Str} {xs:List Expr} (h:chkEs fn sc nm [] xs=true):xs=[]:=nil_of h
theorem plain_back {fn:List Str} {sc:Sc} {nm:List Str} {env:Env} {pos:Pos}:∀ (ps:List PE) {xs:List Expr},chkEs fn sc nm ps xs=true→(backTo pos (starEach xs env)).any (·.1)=false
 | [],xs,h=>by
   obtain rfl:=chkEs_nil h
   rfl
 |p::ps,xs,h=>by
  obtain ⟨x,r,rfl,hp,_,h⟩:=chkEs_cons h
  rw [star_plain hp]
  show (false || (backTo pos (starEach _ env)).any (·.1))=false
  rw [plain_back ps h];rfl
theorem evalArgs_any {fn:List Str} {f:Value} {ps:List PE} {xs:List Expr} {pos:Pos} {Q:Args→Shared→Prop} {E:Value→Shared→Prop} (hc:chkEs fn sc nm ps xs=true) (hne:(!xs.isEmpty)=true)
  (h:wpAny X.M A (spliced (backTo pos (starEach xs env))) (fun vs s'=>Q ⟨vs,[]⟩ s') E s):wpAny X.M A (evalArgs f true (backTo pos (starEach xs env)) []) Q E s:=by
 cases ps with
 |nil=>
  obtain rfl:=chkEs_nil hc
  cases hne
 |cons p ps=>
  obtain ⟨x,r,rfl,hp,_,_⟩:=chkEs_cons hc
  rw [star_plain hp] at h ⊢
  exact Calls.evalArgs_plain h
theorem EP.use {G:Prop} {Q:PyData→Prop} {v:Value} {s':Shared} (h:EP FS HS s Q v s') (g:∀ d,Q d→Rd HS s'.heap v d→Ev FS s.heap s'.heap→Same s s'→G):G:=
 let ⟨d,a,b,c,e⟩:=h;g d a b c e
theorem EP.bind {m:Sem Value} {Q:PyData→Prop} {E P:Value→Shared→Prop} (h:wpAny X.M A m (EP FS HS s Q) E s) (g:∀ v s₁ d,Q d→Rd HS s₁.heap v d→Ev FS s.heap s₁.heap→Same s s₁→P v s₁):wpAny X.M A m P E s:=
 wpAny_mono h (fun v s₁ q=>q.use (g v s₁)) fun _ _ e=>e
theorem EP.bindE {m:Sem Value} {Q:PyData→Prop} {P:Value→Shared→Prop} {s₁:Shared} (am:Amb X A FS lv s.heap) (y:Ev FS s.heap s₁.heap) (z:Same s s₁) (h:wpAny X.M A m (EP FS HS s₁ Q) (EX X FS HS lv s₁ Ee) s₁)
  (g:∀ v s₂ d,Q d→Rd HS s₂.heap v d→Ev FS s₁.heap s₂.heap→Same s₁ s₂→P v s₂):wpAny X.M A m P (EX X FS HS lv s Ee) s₁:=
 wpAny_mono h (fun v s₂ q=>q.use (g v s₂)) fun _ _ e=>e.back am y z
noncomputable def Vl (e:Expr):Prop:=∀ (env:Env) (w:Sem Value),isTrue e env w=(do let v ← w;standAt e.pos;holding [v] (truthy v))
theorem onConst_vl {F:Const→Nat→Pos→Bool} {e:Expr} (h:onConst F e=true):Vl e:=let ⟨_,_,_,q,_⟩:=onConst_inv h;fun _ _=>by rw [q];rfl
theorem onName_vl {F:Str→Pos→Bool} {e:Expr} (h:onName F e=true):Vl e:=let ⟨_,_,q,_⟩:=onName_inv h;fun _ _=>by rw [q];rfl
theorem onTup_vl {F:List Expr→Nat→Pos→Bool} {e:Expr} (h:onTup F e=true):Vl e:=let ⟨_,_,_,q,_⟩:=onTup_inv h;fun _ _=>by rw [q];rfl
theorem onList_vl {F:List Expr→Pos→Bool} {e:Expr} (h:onList F e=true):Vl e:=let ⟨_,_,q,_⟩:=onList_inv h;fun _ _=>by rw [q];rfl
theorem onBin_vl {F:Expr→Operator→Expr→Pos→Bool} {e:Expr} (h:onBin F e=true):Vl e:=let ⟨_,_,_,_,q,_⟩:=onBin_inv h;fun _ _=>by rw [q];rfl
theorem onSub_vl {F:Expr→Expr→Pos→Bool} {e:Expr} (h:onSub F e=true):Vl e:=let ⟨_,_,_,q,_⟩:=onSub_inv h;fun _ _=>by rw [q];rfl
theorem onCall_vl {F:Expr→List Expr→List Keyword→Pos→Bool} {e:Expr} (h:onCall F e=true):Vl e:=let ⟨_,_,_,_,q,_⟩:=onCall_inv h;fun _ _=>by rw [q];rfl
theorem onAttr_vl {F:Expr→Str→Pos→Bool} {e:Expr} (h:onAttr F e=true):Vl e:=let ⟨_,_,_,q,_⟩:=onAttr_inv h;fun _ _=>by rw [q];rfl
theorem onLC_vl {F:Expr→List Comprehension→Scope→Pos→Bool} {e:Expr} (h:onLC F e=true):Vl e:=let ⟨_,_,_,_,q,_⟩:=onLC_inv h;fun _ _=>by rw [q];rfl
theorem optP.use {h:Heap} {p:Option PyData} {v:Value} {F:Option Nat→Prop} (r:OptV HS h v p) (q:optP p F):∃ l,v=partValue (partL l)∧F (partN l):=by
 cases p with
 |none=>exact ⟨none,r,q⟩
 |some d=>
  obtain ⟨i,t,e,q⟩:=intP.use r q
  obtain ⟨n,e',q⟩:=natP_inv q
  exact ⟨some (n,t),by rw [e,e'];rfl,q⟩
theorem truth_ok {m:Sem Value} {Q:Bool→Prop} {E:Value→Shared→Prop} (h:wpAny X.M A m (EP FS HS s (boolP Q)) E s):wpAny X.M A m (fun v s₁=>wpAny X.M A (truthy v) (TP FS s Q) E s₁) E s:=by
 refine EP.bind h fun v s₁ d hq r y z=>?_
 obtain ⟨b,e,hq⟩:=boolP.use r hq
 rw [e]
 exact wpAny_truthy_bool ⟨hq,y,z⟩
end
end Mine
end
section
open PySem PySem.W PyProof.Rows
set_option maxRecDepth 100000
namespace Mine
section
variable {X:Cx} {Φ:Nat→List PyData→RR→Prop} {req:Nat→Nat} {A:Around} {env:Env} {L:Addr} {FS:List Addr} {HS:Addr→Prop} {sc:Sc} {nm:List Str} {oa:Nat→Addr} {ρ:Loc} {k lv:Nat}
theorem bop_eq {op:Bop} {o:Operator} (h:chkB op o=true):o=bopOp op:=eq_of_beq h
theorem unmarked_ok {op:CmpOp} {e:Expr} (h:unmarked e=true):behindInMarks op e=false:=by cases e <;> first |rfl |cases h
variable (X Φ req A env L FS HS sc nm oa ρ k lv) in
structure SP (p:PE):Prop where
 e:∀ {e:Expr} {s:Shared} {Q:PyData→Prop} {Ee:Exc→Prop},chkE X.fn sc nm p e=true→St X A env L FS HS sc nm oa ρ k lv s.heap→PE.wp Φ req k lv p ρ Q Ee →
  wpAny X.M A (eval e env) (EP FS HS s Q) (EX X FS HS lv s Ee) s
 t:∀ {e:Expr} {s:Shared} {Qb:Bool→Prop} {Ee:Exc→Prop},chkE X.fn sc nm p e=true→St X A env L FS HS sc nm oa ρ k lv s.heap→PE.wp Φ req k lv p ρ (boolP Qb) Ee →
  wpAny X.M A (isTrue e env (eval e env)) (TP FS s Qb) (EX X FS HS lv s Ee) s
variable (X Φ req A env L FS HS sc nm oa ρ k lv) in
structure SL (ps:List PE):Prop where
 es:∀ {es:List Expr} {pos:Pos} {s:Shared} {Q:List PyData→Prop} {Ee:Exc→Prop},chkEs X.fn sc nm ps es=true→St X A env L FS HS sc nm oa ρ k lv s.heap→PE.wps Φ req k lv ps ρ Q Ee →
  wpAny X.M A (spliced (backTo pos (starEach es env))) (EPs FS HS s (fun ds=>Q ds∧ds.length=ps.length)) (EX X FS HS lv s Ee) s
 tA:∀ {es:List Expr} {s:Shared} {Qb:Bool→Prop} {Ee:Exc→Prop},chkEs X.fn sc nm ps es=true→St X A env L FS HS sc nm oa ρ k lv s.heap→PE.wpA Φ req k lv ps ρ (boolP Qb) Ee →
  wpAny X.M A (allTrue .And es env) (TP FS s Qb) (EX X FS HS lv s Ee) s
 tO:∀ {es:List Expr} {s:Shared} {Qb:Bool→Prop} {Ee:Exc→Prop},chkEs X.fn sc nm ps es=true→St X A env L FS HS sc nm oa ρ k lv s.heap→PE.wpO Φ req k lv ps ρ (boolP Qb) Ee →
  wpAny X.M A (allTrue .Or es env) (TP FS s Qb) (EX X FS HS lv s Ee) s
 eA:∀ {es:List Expr} {pos:Pos} {s:Shared} {Q:PyData→Prop} {Ee:Exc→Prop},chkEs X.fn sc nm ps es=true→St X A env L FS HS sc nm oa ρ k lv s.heap→PE.wpA Φ req k lv ps ρ Q Ee →
  wpAny X.M A (boolOp pos .And (evalEach es env)) (EP FS HS s Q) (EX X FS HS lv s Ee) s
 eO:∀ {es:List Expr} {pos:Pos} {s:Shared} {Q:PyData→Prop} {Ee:Exc→Prop},chkEs X.fn sc nm ps es=true→St X A env L FS HS sc nm oa ρ k lv s.heap→PE.wpO Φ req k lv ps ρ Q Ee →
  wpAny X.M A (boolOp pos .Or (evalEach es env)) (EP FS HS s Q) (EX X FS HS lv s Ee) s
variable (X Φ req A env L FS HS sc nm oa ρ k lv) in
structure SO (p:Option PE):Prop where
 o:∀ {e:Option Expr} {s:Shared} {Q:Option PyData→Prop} {Ee:Exc→Prop},chkO X.fn sc nm p e=true→St X A env L FS HS sc nm oa ρ k lv s.heap→PE.wpo Φ req k lv p ρ Q Ee →
  wpAny X.M A (evalPart e env) (EPo FS HS s Q) (EX X FS HS lv s Ee) s
variable (HN:NamesOK X) (HG:∀ f,f<k→req f≤lv→Contract X Φ f lv)
variable (X Φ req A env L FS HS sc nm oa ρ k lv) in
noncomputable def SPe (p:PE):Prop:=∀ {e:Expr} {s:Shared} {Q:PyData→Prop} {Ee:Exc→Prop},chkE X.fn sc nm p e=true→St X A env L FS HS sc nm oa ρ k lv s.heap→PE.wp Φ req k lv p ρ Q Ee →
  wpAny X.M A (eval e env) (EP FS HS s Q) (EX X FS HS lv s Ee) s
theorem sp_of {p:PE} (E:SPe X Φ req A env L FS HS sc nm oa ρ k lv p) (v:∀ e,chkE X.fn sc nm p e=true→Vl e):SP X Φ req A env L FS HS sc nm oa ρ k lv p:=
 ⟨E,fun hc st h=>wpAny_isTrue_value (truth_ok (E hc st h)) (v _ hc _ _)⟩
theorem TP.back {s s₁:Shared} {Q:Bool→Prop} {b:Bool} {s':Shared} (y:Ev FS s.heap s₁.heap) (z:Same s s₁) (e:TP FS s₁ Q b s'):TP FS s Q b s':=⟨e.1,y.trans e.2.1,z.trans e.2.2⟩
theorem truthB {s s₁:Shared} {m:Sem Value} {Q:Bool→Prop} {E:Value→Shared→Prop} (y:Ev FS s.heap s₁.heap) (z:Same s s₁) (h:wpAny X.M A m (EP FS HS s₁ (boolP Q)) E s₁):wpAny X.M A m (fun v s₂=>wpAny X.M A (truthy v) (TP FS s Q) E s₂) E s₁:=
 wpAny_mono (truth_ok h) (fun _ _ h=>wpAny_mono h (fun _ _ e=>e.back y z) fun _ _ e=>e) fun _ _ e=>e
theorem TP.if {s s₁:Shared} {P P':Prop} {b:Bool} (h:TP FS s (fun c=>if c=true then P else P') b s₁) {G:Prop} (h1:P→Ev FS s.heap s₁.heap→Same s s₁→b=true→G) (h2:P'→Ev FS s.heap s₁.heap→Same s s₁→b=false→G):G:=by
 cases b
 ·exact h2 h.1 h.2.1 h.2.2 rfl
 ·exact h1 h.1 h.2.1 h.2.2 rfl
theorem sp_k {c:PyData}:SP X Φ req A env L FS HS sc nm oa ρ k lv (.k c):=sp_of (fun hc st h=>by
 refine hid fun G hG=>?_
 obtain ⟨c',_,_,rfl,hc⟩:=onConst_inv hc
 replace hc:=and2 hc
 obtain ⟨h1,h2⟩:=hc
 refine hG ?_
 rw [eq_of_beq h2]
 cases c with
 |none=>exact wpAny_Constant_none (.here h .none)
 |bool b=>exact wpAny_Constant_bool (.here h (.bool _))
 |int b=>exact wpAny_Constant_int (.tok h (.int _ _))
 |str b=>exact wpAny_Constant_str (.tok h (.str _ _))
 |list b=>rw [eq_of_beq h2] at h1;cases h1
 |tuple b=>rw [eq_of_beq h2] at h1;cases h1
 |dict b=>rw [eq_of_beq h2] at h1;cases h1) fun _ hc=>onConst_vl hc
theorem sp_v {i:Nat}:SP X Φ req A env L FS HS sc nm oa ρ k lv (.v i):=sp_of (fun hc st h=>by
 refine hid fun G hG=>?_
 obtain ⟨x,_,rfl,hc⟩:=onName_inv hc
 obtain ⟨d,q,h⟩:=atD_inv h
 refine hG ?_
 exact localD_ok st hc q h) fun _ hc=>onName_vl hc
theorem le64 {n:Nat} (h:n≤64):n≤lim:=Nat.le_trans h (by decide)
theorem sp_tup {es:List PE} (ihes:SL X Φ req A env L FS HS sc nm oa ρ k lv es):SP X Φ req A env L FS HS sc nm oa ρ k lv (.tup es):=sp_of (fun hc st h=>by
 refine hid fun G hG=>?_
 obtain ⟨xs,_,_,rfl,hc⟩:=onTup_inv hc
 refine hG ?_
 replace hc:=and2 hc
 refine Tuple_ (wpAny_mono (ihes.es hc.2 st h) ?_ fun _ _ e=>e)
 rintro vs s₁ ⟨ds,⟨hq,hl⟩,r,y,z⟩
 exact wpAny_mono (newTuple_ok (st.ev y).hn r (hl▸le64 (of_decide_eq_true hc.1)) hq) (fun _ _ e=>e.back y z) fun _ _ e=>e) fun _ hc=>onTup_vl hc
theorem sp_lst {es:List PE} (ihes:SL X Φ req A env L FS HS sc nm oa ρ k lv es):SP X Φ req A env L FS HS sc nm oa ρ k lv (.lst es):=sp_of (fun hc st h=>by
 refine hid fun G hG=>?_
 obtain ⟨xs,_,rfl,hc⟩:=onList_inv hc
 refine hG ?_
 replace hc:=and2 hc
 refine List_ (wpAny_mono (ihes.es hc.2 st h) ?_ fun _ _ e=>e)
 rintro vs s₁ ⟨ds,⟨hq,hl⟩,r,y,z⟩
 exact wpAny_mono (newList_ok (st.ev y).hn r (hl▸le64 (of_decide_eq_true hc.1)) hq) (fun _ _ e=>e.back y z) fun _ _ e=>e) fun _ hc=>onList_vl hc
theorem sp_not {p:PE} (ihp:SP X Φ req A env L FS HS sc nm oa ρ k lv p):SP X Φ req A env L FS HS sc nm oa ρ k lv (.not p):=by
 refine ⟨fun hc st h=>?_,fun {e s Qb Ee} hc st h=>?_⟩
 ·refine hid fun G hG=>?_
  obtain ⟨o,x,_,rfl,hc⟩:=onUn_inv hc
  refine hG ?_
  replace hc:=and2 hc
  rw [isNotO_eq hc.1]
  refine wpAny_UnaryOp (seq1 st (ihp.e hc.2 st h) fun v s₁ d hq r st₁=>?_)
  obtain ⟨b,e,hq⟩:=boolP.use r hq
  rw [e]
  exact not_value (wpAny_truthy_bool (.here hq (.bool _)))
 ·refine hid fun G hG=>?_
  obtain ⟨o,x,_,rfl,hc⟩:=onUn_inv hc
  refine hG ?_
  replace hc:=and2 hc
  rw [isNotO_eq hc.1]
  exact wpAny_isTrue_Not (wpAny_mono (ihp.t (Qb:=fun b=>Qb (!b)) hc.2 st h) (fun _ _ e=>e) fun _ _ e=>e)
theorem neg_vl {F:Expr→Bool} {e:Expr} (h:onUn (fun o x _=>isNegO o && F x) e=true):Vl e:=by
 refine hid fun G hG=>?_
 obtain ⟨o,x,_,rfl,h⟩:=onUn_inv h
 refine hG ?_
 rw [isNegO_eq (and2 h).1]
 exact fun _ _=>rfl
theorem sp_neg {p:PE} (ihp:SP X Φ req A env L FS HS sc nm oa ρ k lv p):SP X Φ req A env L FS HS sc nm oa ρ k lv (.neg p):=sp_of (fun hc st h=>by
 refine hid fun G hG=>?_
 obtain ⟨o,x,_,rfl,hc⟩:=onUn_inv hc
 refine hG ?_
 replace hc:=and2 hc
 rw [isNegO_eq hc.1]
 refine wpAny_UnaryOp (seq1 st (ihp.e hc.2 st h) fun v s₁ d hq r st₁=>?_)
 refine hid fun G hG=>?_
 obtain ⟨b,t,e,hq⟩:=intP.use r hq
 refine hG ?_
 rw [e]
 exact PySem.P.neg_int (.tok hq (.int _ _))) fun _ hc=>neg_vl hc
theorem sp_and {ps:List PE} (ihps:SL X Φ req A env L FS HS sc nm oa ρ k lv ps):SP X Φ req A env L FS HS sc nm oa ρ k lv (.and ps):=by
 refine ⟨fun hc st h=>?_,fun hc st h=>?_⟩
 ·refine hid fun G hG=>?_
  obtain ⟨o,x,_,rfl,hc⟩:=onBool_inv hc
  refine hG ?_
  replace hc:=and2 hc
  rw [isAndO_eq hc.1]
  exact ihps.eA hc.2 st h
 ·refine hid fun G hG=>?_
  obtain ⟨o,x,_,rfl,hc⟩:=onBool_inv hc
  refine hG ?_
  replace hc:=and2 hc
  rw [isAndO_eq hc.1]
  exact wpAny_isTrue_BoolOp (ihps.tA hc.2 st h)
theorem sp_or {ps:List PE} (ihps:SL X Φ req A env L FS HS sc nm oa ρ k lv ps):SP X Φ req A env L FS HS sc nm oa ρ k lv (.or ps):=by
 refine ⟨fun hc st h=>?_,fun hc st h=>?_⟩
 ·refine hid fun G hG=>?_
  obtain ⟨o,x,_,rfl,hc⟩:=onBool_inv hc
  refine hG ?_
  replace hc:=and2 hc
  rw [isOrO_eq hc.1]
  exact ihps.eO hc.2 st h
 ·refine hid fun G hG=>?_
  obtain ⟨o,x,_,rfl,hc⟩:=onBool_inv hc
  refine hG ?_
  replace hc:=and2 hc
  rw [isOrO_eq hc.1]
  exact wpAny_isTrue_BoolOp (ihps.tO hc.2 st h)
theorem sp_ife {t:PE} {a:PE} {b:PE} (iht:SP X Φ req A env L FS HS sc nm oa ρ k lv t) (iha:SP X Φ req A env L FS HS sc nm oa ρ k lv a) (ihb:SP X Φ req A env L FS HS sc nm oa ρ k lv b):SP X Φ req A env L FS HS sc nm oa ρ k lv (.ife t a b):=by
 refine ⟨fun {e s Q Ee} hc st h=>?_,fun {e s Qb Ee} hc st h=>?_⟩
 ·refine hid fun G hG=>?_
  obtain ⟨t',a',b',_,rfl,hc⟩:=onIf_inv hc
  refine hG ?_
  replace hc:=and2 hc
  refine wpAny_IfExp (wpAny_mono (iht.t (Qb:=fun c=>if c=true then PE.wp Φ req k lv a ρ Q Ee else PE.wp Φ req k lv b ρ Q Ee) hc.1 st h) (fun c s₁ q=>q.if (fun hq y z e=>?_) fun hq y z e=>?_) fun _ _ e=>e)
  ·rw [e]
   exact wpAny_mono (iha.e (and2 hc.2).1 (st.ev y) hq) (fun _ _ e=>e.back y z) fun _ _ e=>e.back st.amb y z
  ·rw [e]
   exact wpAny_mono (ihb.e (and2 hc.2).2 (st.ev y) hq) (fun _ _ e=>e.back y z) fun _ _ e=>e.back st.amb y z
 ·refine hid fun G hG=>?_
  obtain ⟨t',a',b',_,rfl,hc⟩:=onIf_inv hc
  refine hG ?_
  replace hc:=and2 hc
  rw [arm_isTrue_IfExp]
  refine wpAny_bind (wpAny_mono (iht.t (Qb:=fun c=>if c=true then PE.wp Φ req k lv a ρ (boolP Qb) Ee else PE.wp Φ req k lv b ρ (boolP Qb) Ee) hc.1 st h) (fun c s₁ q=>q.if (fun hq y z e=>?_) fun hq y z e=>?_) fun _ _ e=>e)
  ·rw [e]
   exact wpAny_mono (iha.t (and2 hc.2).1 (st.ev y) hq) (fun _ _ e=>e.back y z) fun _ _ e=>e.back st.amb y z
  ·rw [e]
   exact wpAny_mono (ihb.t (and2 hc.2).2 (st.ev y) hq) (fun _ _ e=>e.back y z) fun _ _ e=>e.back st.amb y z
theorem sp_bin {op:Bop} {a:PE} {b:PE} (iha:SP X Φ req A env L FS HS sc nm oa ρ k lv a) (ihb:SP X Φ req A env L FS HS sc nm oa ρ k lv b):SP X Φ req A env L FS HS sc nm oa ρ k lv (.bin op a b):=sp_of (fun hc st h=>by
 refine hid fun G hG=>?_
 obtain ⟨l,o,r,_,rfl,hc⟩:=onBin_inv hc
 refine hG ?_
 replace hc:=and2 hc
 rw [bop_eq hc.1]
 exact wpAny_BinOp (seq2 st (iha.e (and2 hc.2).1 st h) (fun s₁ d hq st₁=>ihb.e (and2 hc.2).2 st₁ hq) fun v₁ v₂ s₂ d₁ d₂ hq r₁ r₂ st₂=>bin_ok st₂.hn r₁ r₂ hq)) fun _ hc=>onBin_vl hc
theorem cmp_inv {op:CmpOp} {a:PE} {b:PE} {e:Expr} (hc:chkE X.fn sc nm (.cmp op a b) e=true):∃ l r pos,e = .Compare l [op] [r] pos∧unmarked r=true∧chkE X.fn sc nm a l=true∧chkE X.fn sc nm b r=true:=
 let ⟨l,_,_,pos,e,hc⟩:=onCmp_inv hc
 let ⟨_,e1,hc⟩:=on1_inv hc
 let ⟨r,e2,hc⟩:=on1_inv hc
 ⟨l,r,pos,by rw [e,e1,e2,eq_of_beq (and2 hc).1],(and2 (and2 hc).2).1,and2 (and2 (and2 hc).2).2⟩
theorem sp_cmp {op:CmpOp} {a:PE} {b:PE} (iha:SP X Φ req A env L FS HS sc nm oa ρ k lv a) (ihb:SP X Φ req A env L FS HS sc nm oa ρ k lv b):SP X Φ req A env L FS HS sc nm oa ρ k lv (.cmp op a b):=by
 refine ⟨fun {e s Q Ee} hc st h=>?_,fun {e s Qb Ee} hc st h=>?_⟩
 ·refine hid fun G hG=>?_
  obtain ⟨l,r,pos,rfl,hu,ha,hb⟩:=cmp_inv hc
  refine hG ?_
  exact wpAny_Compare1 (seq2 st (iha.e ha st h) (fun s₁ d hq st₁=>ihb.e hb st₁ hq) fun v₁ v₂ s₂ d₁ d₂ hq r₁ r₂ st₂=>cmp_ok st₂.room r₁ r₂ hq) (unmarked_ok hu)
 ·refine hid fun G hG=>?_
  obtain ⟨l,r,pos,rfl,hu,ha,hb⟩:=cmp_inv hc
  refine hG ?_
  exact wpAny_isTrue_Compare1 (EP.bind (iha.e ha st h) fun v₁ s₁ d₁ h r₁ y₁ z₁=>EP.bindE st.amb y₁ z₁ (ihb.e hb (st.ev y₁) h) fun v₂ s₂ d₂ h r₂ y₂ z₂=>
   truthB (y₁.trans y₂) (z₁.trans z₂) (cmp_ok ((st.ev y₁).ev y₂).room (r₁.ev y₂ st.hsf) r₂ h)) (unmarked_ok hu)
theorem cmp2_inv {o1 o2:CmpOp} {a:PE} {b:PE} {c:PE} {e:Expr} (hc:chkE X.fn sc nm (.cmp2 o1 o2 a b c) e=true):∃ l r r' pos,e = .Compare l [o1,o2] [r,r'] pos∧unmarked r'=true∧chkE X.fn sc nm a l=true∧chkE X.fn sc nm b r=true∧chkE X.fn sc nm c r'=true:=
 let ⟨l,_,_,pos,e,hc⟩:=onCmp_inv hc
 let ⟨_,_,e1,hc⟩:=on2_inv hc
 let ⟨r,r',e2,hc⟩:=on2_inv hc
 let ⟨h1,hc⟩:=and2 hc
 let ⟨h2,hc⟩:=and2 hc
 ⟨l,r,r',pos,by rw [e,e1,e2,eq_of_beq h1,eq_of_beq h2],(and2 hc).1,(and2 (and2 hc).2).1,and2 (and2 (and2 hc).2).2⟩
theorem sp_cmp2 {o1:CmpOp} {o2:CmpOp} {a:PE} {b:PE} {c:PE} (iha:SP X Φ req A env L FS HS sc nm oa ρ k lv a) (ihb:SP X Φ req A env L FS HS sc nm oa ρ k lv b) (ihc:SP X Φ req A env L FS HS sc nm oa ρ k lv c):SP X Φ req A env L FS HS sc nm oa ρ k lv (.cmp2 o1 o2 a b c):=by
 refine ⟨fun {e s Q Ee} hc st h=>?_,fun {e s Qb Ee} hc st h=>?_⟩
 ·refine hid fun G hG=>?_
  obtain ⟨l,r,r',pos,rfl,hu,ha,hb,hcc⟩:=cmp2_inv hc
  refine hG ?_
  refine compare2 (unmarked_ok hu) (EP.bind (iha.e ha st h) fun v₁ s₁ d₁ h r₁ y₁ z₁=>EP.bindE st.amb y₁ z₁ (ihb.e hb (st.ev y₁) h) fun v₂ s₂ d₂ h r₂ y₂ z₂=>
   EP.bind (FS:=FS) (cmp_ok ((st.ev y₁).ev y₂).room (r₁.ev y₂ st.hsf) r₂ h) fun v₃ s₃ d₃ h r₃ y₃ z₃=>?_)
  have y:=y₁.trans (y₂.trans y₃)
  have z:=z₁.trans (z₂.trans z₃)
  obtain ⟨t,e,q⟩:=boolP.use r₃ h
  rw [e]
  refine wpAny_truthy_bool ?_
  cases t
  ·exact EP.back y z (.here q (.bool _))
  ·exact EP.bindE st.amb y z (ihc.e hcc (st.ev y) q) fun v₄ s₄ d₄ h r₄ y₄ z₄=>wpAny_mono (cmp_ok ((st.ev y).ev y₄).room ((r₂.ev y₃ st.hsf).ev y₄ st.hsf) r₄ h) (fun _ _ e=>EP.back (y.trans y₄) (z.trans z₄) e) fun _ _ e=>e
 ·refine hid fun G hG=>?_
  obtain ⟨l,r,r',pos,rfl,hu,ha,hb,hcc⟩:=cmp2_inv hc
  refine hG ?_
  refine isTrue2 (unmarked_ok hu) (EP.bind (iha.e ha st h) fun v₁ s₁ d₁ h r₁ y₁ z₁=>EP.bindE st.amb y₁ z₁ (ihb.e hb (st.ev y₁) h) fun v₂ s₂ d₂ h r₂ y₂ z₂=>
   EP.bind (FS:=FS) (cmp_ok ((st.ev y₁).ev y₂).room (r₁.ev y₂ st.hsf) r₂ h) fun v₃ s₃ d₃ h r₃ y₃ z₃=>?_)
  have y:=y₁.trans (y₂.trans y₃)
  have z:=z₁.trans (z₂.trans z₃)
  obtain ⟨t,e,q⟩:=boolP.use r₃ h
  rw [e]
  refine wpAny_truthy_bool ?_
  cases t
  ·exact ⟨q,y,z⟩
  ·exact EP.bindE st.amb y z (ihc.e hcc (st.ev y) q) fun v₄ s₄ d₄ h r₄ y₄ z₄=>truthB (y.trans y₄) (z.trans z₄) (cmp_ok ((st.ev y).ev y₄).room ((r₂.ev y₃ st.hsf).ev y₄ st.hsf) r₄ h)
theorem sp_idx {a:PE} {i:PE} (iha:SP X Φ req A env L FS HS sc nm oa ρ k lv a) (ihi:SP X Φ req A env L FS HS sc nm oa ρ k lv i):SP X Φ req A env L FS HS sc nm oa ρ k lv (.idx a i):=sp_of (fun hc st h=>by
 refine hid fun G hG=>?_
 obtain ⟨x,sl,_,rfl,hc⟩:=onSub_inv hc
 refine hG ?_
 replace hc:=and2 (and2 hc).2
 refine Subscript_ (seq2 st (iha.e hc.1 st h) (fun s₁ d hq st₁=>ihi.e hc.2 st₁ hq) fun v₁ v₂ s₂ d₁ d₂ hq r₁ r₂ st₂=>?_)
 refine hid fun G hG=>?_
 obtain ⟨T,id,hT,hl,hg⟩:=getItem_ok r₁ r₂ hq
 refine hG ?_
 exact tail_go hT hl hg) fun _ hc=>onSub_vl hc
theorem EPo.bindE {s s₁:Shared} {Ee:Exc→Prop} {m:Sem Value} {Q:Option PyData→Prop} {P:Value→Shared→Prop} (am:Amb X A FS lv s.heap) (y:Ev FS s.heap s₁.heap) (z:Same s s₁) (h:wpAny X.M A m (EPo FS HS s₁ Q) (EX X FS HS lv s₁ Ee) s₁)
  (g:∀ v s₂ p,Q p→OptV HS s₂.heap v p→Ev FS s₁.heap s₂.heap→Same s₁ s₂→P v s₂):wpAny X.M A m P (EX X FS HS lv s Ee) s₁:=
 wpAny_mono h (fun v s₂ q=>by cases q with |mk p a b c d=>exact g v s₂ p a b c d) fun _ _ e=>e.back am y z
theorem sp_sl {a:PE} {lo:Option PE} {hi:Option PE} (iha:SP X Φ req A env L FS HS sc nm oa ρ k lv a) (ihlo:SO X Φ req A env L FS HS sc nm oa ρ k lv lo) (ihhi:SO X Φ req A env L FS HS sc nm oa ρ k lv hi):SP X Φ req A env L FS HS sc nm oa ρ k lv (.sl a lo hi):=sp_of (fun hc st h=>by
 refine hid fun G hG=>?_
 obtain ⟨x,sl,_,rfl,hc⟩:=onSub_inv hc
 obtain ⟨l,u,step,_,rfl,hc⟩:=onSlice_inv hc
 replace hc:=and2 hc
 obtain ⟨h1,hc⟩:=hc
 obtain ⟨ha,hc⟩:=and2 hc
 refine hG ?_
 rw [none_of h1]
 refine Subscript_ (EP.bind (iha.e ha st h) fun v s₁ d hq r y z=>wpAny_Slice (EPo.bindE st.amb y z (ihlo.o (and2 hc).1 (st.ev y) hq) fun vl s₂ pl hq₂ r₂ y₂ z₂=>
  EPo.bindE st.amb (y.trans y₂) (z.trans z₂) (ihhi.o (and2 hc).2 ((st.ev y).ev y₂) hq₂) fun vu s₃ pu hq₃ r₃ y₃ z₃=>?_))
 have st₃:=((st.ev y).ev y₂).ev y₃
 rw [evalPart_none]
 refine wpAny_pure ?_
 refine hid fun G hG=>?_
 obtain ⟨ll,e,q⟩:=optP.use (r₂.ev y₃ st.hsf) hq₃
 obtain ⟨lu,e',q⟩:=optP.use r₃ q
 refine hG ?_
 rw [e,e']
 exact wpAny_mono (sl_ok (fun b hb=>st₃.lt hb) ((r.ev y₂ st.hsf).ev y₃ st.hsf) q) (fun _ _ e=>EP.back (y.trans (y₂.trans y₃)) (z.trans (z₂.trans z₃)) e) fun _ _ e=>e) fun _ hc=>onSub_vl hc
theorem CPost.ok {s:Shared} {d:PyData} {res:Result} {s':Shared} (h:CPost X FS HS lv s (.ok d) res s'):∃ v,res = .ok (.ret v)∧Rd HS s'.heap v d∧Ev FS s.heap s'.heap∧Same s s':=by
 cases res with
 |error _=>exact h.elim
 |ok fl=>cases fl <;> first |exact ⟨_,rfl,h⟩ |exact h.elim
theorem CPost.exc {s:Shared} {x:Exc} {res:Result} {s':Shared} (h:CPost X FS HS lv s (.exc x) res s'):∃ v,res = .error v∧∃ e,v = .ref e∧Fly X FS HS lv s.heap s'.heap e x∧Ev FS s.heap s'.heap∧Same s s':=by
 cases res with
 |ok _=>exact h.elim
 |error v=>exact ⟨v,rfl,h⟩
theorem uni_le {f k u:Nat} (hf:f<k) (h:u+8 * k+200≤9000):u+8 * (f+1)+200≤9000:=by exact linL fun q=>lin [_,_,_] [(8,0,.a (.v 0) (.n 1),.v 1),(1,0,.a (.a (.v 2) (.s 8 (.v 1))) (.n 200),.n 9000),(1,0,.a (.n 9000) (.n 1),.a (.a (.v 2) (.s 8 (.a (.v 0) (.n 1)))) (.n 200))] rfl hf h q
include HN HG in
theorem sp_call {f:Nat} {args:List PE} (ihargs:SL X Φ req A env L FS HS sc nm oa ρ k lv args):SP X Φ req A env L FS HS sc nm oa ρ k lv (.call f args):=sp_of (fun hc st h=>by
 refine hid fun G hG=>?_
 obtain ⟨g,np,xs,pos,rfl,hc⟩:=onCallN_inv hc
 replace hc:=and2 hc
 obtain ⟨hg,hc⟩:=hc
 obtain ⟨hne,hargs⟩:=and2 hc
 obtain ⟨y,hy,hg⟩:=onO_inv hg
 obtain ⟨hn1,hn2⟩:=HN.defs f y hy
 refine hG ?_
 refine wpAny_Call_ofName (global_ok st hg hn1 ?_)
 refine callWith_of (P:=fun h=>X.K.In h) (by rw [plain_back args hargs];rfl) (keeps_K hn2) (evalArgs_any hargs hne ?_)
 refine wpAny_mono (ihargs.es hargs st h) ?_ fun _ _ e=>e
 rintro vs s₁ ⟨ds,⟨⟨hf,hr,r,hφ,hq⟩,_⟩,rd,y,z⟩
 have st₁:=st.ev y
 refine ⟨fun b o e=>st₁.amb.base b o (X.ki b o e),wpAny_call (codeAny_mono (HG f hf hr A FS HS s₁ vs ds r st₁.amb st₁.hsf st₁.hsb st₁.hsn (Nat.le_trans (Nat.add_le_add_left hf _) st.dep) (uni_le hf st.uni) rd hφ) ?_)⟩
 intro res s₂ p
 cases r with
 |ok d=>
  obtain ⟨v,e,q⟩:=CPost.ok p
  rw [e]
  exact ⟨d,hq,q.1,y.trans q.2.1,z.trans q.2.2⟩
 |exc x=>
  refine hid fun G hG=>?_
  obtain ⟨v,e,e',e1,q⟩:=CPost.exc p
  refine hG ?_
  rw [e,e1]
  exact EX.back st.amb y z ⟨e',x,rfl,hq,q.1,q.2.1,q.2.2⟩) fun _ hc=>onCall_vl hc
include HN in
theorem sp_len {a:PE} (iha:SP X Φ req A env L FS HS sc nm oa ρ k lv a):SP X Φ req A env L FS HS sc nm oa ρ k lv (.len a):=sp_of (fun hc st h=>by
 refine hid fun G hG=>?_
 obtain ⟨g,np,x,pos,rfl,hc⟩:=onCall1_inv hc
 refine hG ?_
 replace hc:=and2 hc
 exact call1_builtin st hc.1 HN.len boot_len ne_len (and2 hc.2).1 (seq1 st (iha.e (and2 hc.2).2 st h) fun v s₁ d hq r st₁=>len_ok r hq)) fun _ hc=>onCall_vl hc
include HN in
theorem sp_ord {a:PE} (iha:SP X Φ req A env L FS HS sc nm oa ρ k lv a):SP X Φ req A env L FS HS sc nm oa ρ k lv (.ord a):=sp_of (fun hc st h=>by
 refine hid fun G hG=>?_
 obtain ⟨g,np,x,pos,rfl,hc⟩:=onCall1_inv hc
 refine hG ?_
 replace hc:=and2 hc
 refine call1_builtin st hc.1 HN.ord bootS_ord ne_ord (and2 hc.2).1 (seq1 st (iha.e (and2 hc.2).2 st h) fun v s₁ d hq r st₁=>?_)
 refine hid fun G hG=>?_
 obtain ⟨c,t,e,hq⟩:=strP.use r hq
 refine hG ?_
 rw [e]
 exact ord_ok hq) fun _ hc=>onCall_vl hc
include HN in
theorem sp_chr {a:PE} (iha:SP X Φ req A env L FS HS sc nm oa ρ k lv a):SP X Φ req A env L FS HS sc nm oa ρ k lv (.chr a):=sp_of (fun hc st h=>by
 refine hid fun G hG=>?_
 obtain ⟨g,np,x,pos,rfl,hc⟩:=onCall1_inv hc
 refine hG ?_
 replace hc:=and2 hc
 refine call1_builtin st hc.1 HN.chr bootS_chr ne_chr (and2 hc.2).1 (seq1 st (iha.e (and2 hc.2).2 st h) fun v s₁ d hq r st₁=>?_)
 refine hid fun G hG=>?_
 obtain ⟨c,t,e,hq⟩:=intP.use r hq
 refine hG ?_
 rw [e]
 exact chr_ok hq) fun _ hc=>onCall_vl hc
theorem sp_find {a:PE} {b:PE} (iha:SP X Φ req A env L FS HS sc nm oa ρ k lv a) (ihb:SP X Φ req A env L FS HS sc nm oa ρ k lv b):SP X Φ req A env L FS HS sc nm oa ρ k lv (.find a b):=sp_of (fun hc st h=>by
 refine hid fun G hG=>?_
 obtain ⟨v,m,ap,x,ps,rfl,hl,hc⟩:=onMeth_inv hc
 replace hc:=and2 hc
 obtain ⟨hm,hc⟩:=hc
 obtain ⟨ho,hc⟩:=and2 hc
 obtain ⟨hp,hc⟩:=and2 hc
 obtain ⟨ha,hb⟩:=and2 hc
 refine hG ?_
 rw [eq_of_beq hm]
 refine mcall ho hl hp (EP.bind (iha.e ha st h) fun v s₁ d hq r y z pl=>?_)
 refine hid fun G hG=>?_
 obtain ⟨c,t,e,q⟩:=strP.use r hq
 refine hG ?_
 rw [e]
 refine GM.find (callWith_m1 (EP.bindE st.amb y z (ihb.e hb (st.ev y) q) fun v₂ s₂ d₂ hq₂ r₂ y₂ z₂=>?_))
 refine hid fun G hG=>?_
 obtain ⟨c',t',e,q⟩:=strP.use r₂ hq₂
 refine hG ?_
 rw [e]
 exact wpAny_mono (find_ok q) (fun _ _ e=>EP.back (y.trans y₂) (z.trans z₂) e) fun _ _ e=>e) fun _ hc=>onCall_vl hc
theorem sp_join {a:PE} {b:PE} (iha:SP X Φ req A env L FS HS sc nm oa ρ k lv a) (ihb:SP X Φ req A env L FS HS sc nm oa ρ k lv b):SP X Φ req A env L FS HS sc nm oa ρ k lv (.join a b):=sp_of (fun hc st h=>by
 refine hid fun G hG=>?_
 obtain ⟨v,m,ap,x,ps,rfl,hl,hc⟩:=onMeth_inv hc
 replace hc:=and2 hc
 obtain ⟨hm,hc⟩:=hc
 obtain ⟨ho,hc⟩:=and2 hc
 obtain ⟨hp,hc⟩:=and2 hc
 obtain ⟨ha,hb⟩:=and2 hc
 refine hG ?_
 rw [eq_of_beq hm]
 refine mcall ho hl hp (EP.bind (iha.e ha st h) fun v s₁ d hq r y z pl=>?_)
 refine hid fun G hG=>?_
 obtain ⟨c,t,e,q⟩:=strP.use r hq
 refine hG ?_
 rw [e]
 refine GM.join (callWith_m1 (EP.bindE st.amb y z (ihb.e hb (st.ev y) q) fun v₂ s₂ d₂ hq₂ r₂ y₂ z₂=>?_))
 refine hid fun G hG=>?_
 obtain ⟨ds,⟨_,_,_,_,_,e,ho,_,hr⟩,q⟩:=listP.use r₂ hq₂
 refine hG ?_
 rw [e]
 exact wpAny_mono (join_list_ok ho hr q) (fun _ _ e=>EP.back (y.trans y₂) (z.trans z₂) e) fun _ _ e=>e) fun _ hc=>onCall_vl hc
include HN in
theorem sp_lenO {i:Nat}:SP X Φ req A env L FS HS sc nm oa ρ k lv (.lenO i):=sp_of (fun hc st h=>by
 refine hid fun G hG=>?_
 obtain ⟨g,np,x,pos,rfl,hc⟩:=onCall1_inv hc
 replace hc:=and2 hc
 obtain ⟨hg,hc⟩:=hc
 obtain ⟨x,_,rfl,hc⟩:=onName_inv hc
 obtain ⟨ds,hd,h⟩:=atO_inv h
 refine hG ?_
 refine call1_builtin st hg HN.len boot_len ne_len rfl (localO_ok st hc hd fun vs n ho r=>?_)
 have hlen:=r.length
 rw [Array.length_toList] at hlen
 rw [← hlen] at h
 exact PyProof.Rows.len_list ⟨_,ho,rfl,_,rfl⟩ (fitI h.1) (.tok h.2 (.int _ _))) fun _ hc=>onCall_vl hc
theorem sp_joinO {a:PE} {i:Nat} (iha:SP X Φ req A env L FS HS sc nm oa ρ k lv a):SP X Φ req A env L FS HS sc nm oa ρ k lv (.joinO a i):=sp_of (fun hc st h=>by
 refine hid fun G hG=>?_
 obtain ⟨v,m,ap,x,ps,rfl,hl,hc⟩:=onMeth_inv hc
 replace hc:=and2 hc
 obtain ⟨hm,hc⟩:=hc
 obtain ⟨ho,hc⟩:=and2 hc
 obtain ⟨ha,hc⟩:=and2 hc
 obtain ⟨x,_,rfl,hi⟩:=onName_inv hc
 refine hG ?_
 rw [eq_of_beq hm]
 refine mcall ho hl rfl (EP.bind (iha.e ha st h) fun v s₁ d hq r y z pl=>?_)
 refine hid fun G hG=>?_
 obtain ⟨c,t,e,q⟩:=strP.use r hq
 obtain ⟨ds,hd,q⟩:=atO_inv q
 refine hG ?_
 rw [e]
 exact GM.join (callWith_m1 (localO_ok (st.ev y) hi hd fun vs n ho r=>wpAny_mono (join_list_ok ho r q) (fun _ _ e=>EP.back y z e) fun _ _ e=>e))) fun _ hc=>onCall_vl hc
include HN in
theorem sp_tupO {i:Nat}:SP X Φ req A env L FS HS sc nm oa ρ k lv (.tupO i):=sp_of (fun hc st h=>by
 refine hid fun G hG=>?_
 obtain ⟨g,np,x,pos,rfl,hc⟩:=onCall1_inv hc
 replace hc:=and2 hc
 obtain ⟨hg,hc⟩:=hc
 obtain ⟨x,_,rfl,hc⟩:=onName_inv hc
 obtain ⟨ds,hd,h⟩:=atO_inv h
 refine hG ?_
 exact call1_type st hg HN.tuple boot_tuple ne_tuple rfl (localO_ok st hc hd fun vs n ho r=>tuple_ok st.hsb ho r h.1 h.2)) fun _ hc=>onCall_vl hc
theorem sl_nil:SL X Φ req A env L FS HS sc nm oa ρ k lv []:=by
 refine ⟨?_,?_,?_,?_,?_⟩
 ·intro es pos s Q Ee hc st h
  obtain rfl:=chkEs_nil hc
  exact wpAny_items_nil ⟨[],⟨h,rfl⟩,.nil,.refl _ _,.refl _⟩
 ·exact fun _ _ h=>False.elim h
 ·exact fun _ _ h=>False.elim h
 ·exact fun _ _ h=>False.elim h
 ·exact fun _ _ h=>False.elim h
theorem EPs.use {s:Shared} {Q:List PyData→Prop} {vs:List Value} {s':Shared} {G:Prop} (h:EPs FS HS s Q vs s') (g:∀ ds,Q ds→RdAll HS s'.heap vs ds→Ev FS s.heap s'.heap→Same s s'→G):G:=
 by cases h with |mk ds a b c d=>exact g ds a b c d
theorem sl_es {p:PE} {ps:List PE} (ihp:SP X Φ req A env L FS HS sc nm oa ρ k lv p) (ihps:SL X Φ req A env L FS HS sc nm oa ρ k lv ps):∀ {es:List Expr} {pos:Pos} {s:Shared} {Q:List PyData→Prop} {Ee:Exc→Prop},chkEs X.fn sc nm (p::ps) es=true→St X A env L FS HS sc nm oa ρ k lv s.heap→PE.wps Φ req k lv (p::ps) ρ Q Ee →
  wpAny X.M A (spliced (backTo pos (starEach es env))) (EPs FS HS s (fun ds=>Q ds∧ds.length=(p::ps).length)) (EX X FS HS lv s Ee) s:=by
 intro es pos s Q Ee hc st h
 refine hid fun G hG=>?_
 obtain ⟨x,r,rfl,hpl,hc1,hc'⟩:=chkEs_cons hc
 refine hG ?_
 refine wpAny_items_cons (EP.bind (ihp.e hc1 st h) fun v s₁ d h r y z=>wpAny_mono (ihps.es hc' (st.ev y) h) (fun vs s₂ q=>q.use fun ds h rs y₂ z₂=>?_) fun _ _ e=>EX.back st.amb y z e) (star_plain hpl)
 exact ⟨d::ds,⟨h.1,congrArg (· + 1) h.2⟩,.cons (r.ev y₂ st.hsf) rs,y.trans y₂,z.trans z₂⟩
theorem sl_At {p:PE} {ps:List PE} (ihp:SP X Φ req A env L FS HS sc nm oa ρ k lv p) (ihps:SL X Φ req A env L FS HS sc nm oa ρ k lv ps):∀ {es:List Expr} {s:Shared} {Qb:Bool→Prop} {Ee:Exc→Prop},chkEs X.fn sc nm (p::ps) es=true→St X A env L FS HS sc nm oa ρ k lv s.heap→PE.wpA Φ req k lv (p::ps) ρ (boolP Qb) Ee →
  wpAny X.M A (allTrue .And es env) (TP FS s Qb) (EX X FS HS lv s Ee) s:=by
 intro es s Qb Ee hc st h
 refine hid fun G hG=>?_
 obtain ⟨x,r,rfl,_,hc1,hc'⟩:=chkEs_cons hc
 refine hG ?_
 cases ps with
 |nil=>
  rw [chkEs_nil hc']
  refine wpAny_allTrue_And_cons (wpAny_mono (ihp.t hc1 st h) (fun b s₁ e=>?_) fun _ _ e=>e)
  cases b
  ·exact e
  ·exact wpAny_allTrue_And_nil e
 |cons p' ps=>
  refine wpAny_allTrue_And_cons (wpAny_mono (ihp.t (Qb:=fun c=>if c=true then PE.wpA Φ req k lv (p'::ps) ρ (boolP Qb) Ee else Qb false) hc1 st h) (fun b s₁ q=>q.if (fun h y z e=>?_) fun h y z e=>?_) fun _ _ e=>e)
  ·rw [e]
   exact wpAny_mono (ihps.tA hc' (st.ev y) h) (fun b s₂ q=>q.back y z) fun _ _ e=>EX.back st.amb y z e
  ·rw [e]
   exact ⟨h,y,z⟩
theorem sl_Ot {p:PE} {ps:List PE} (ihp:SP X Φ req A env L FS HS sc nm oa ρ k lv p) (ihps:SL X Φ req A env L FS HS sc nm oa ρ k lv ps):∀ {es:List Expr} {s:Shared} {Qb:Bool→Prop} {Ee:Exc→Prop},chkEs X.fn sc nm (p::ps) es=true→St X A env L FS HS sc nm oa ρ k lv s.heap→PE.wpO Φ req k lv (p::ps) ρ (boolP Qb) Ee →
  wpAny X.M A (allTrue .Or es env) (TP FS s Qb) (EX X FS HS lv s Ee) s:=by
 intro es s Qb Ee hc st h
 refine hid fun G hG=>?_
 obtain ⟨x,r,rfl,_,hc1,hc'⟩:=chkEs_cons hc
 refine hG ?_
 cases ps with
 |nil=>
  rw [chkEs_nil hc']
  refine wpAny_allTrue_Or_cons (wpAny_mono (ihp.t hc1 st h) (fun b s₁ e=>?_) fun _ _ e=>e)
  cases b
  ·exact wpAny_allTrue_Or_nil e
  ·exact e
 |cons p' ps=>
  refine wpAny_allTrue_Or_cons (wpAny_mono (ihp.t (Qb:=fun c=>if c=true then Qb true else PE.wpO Φ req k lv (p'::ps) ρ (boolP Qb) Ee) hc1 st h) (fun b s₁ q=>q.if (fun h y z e=>?_) fun h y z e=>?_) fun _ _ e=>e)
  ·rw [e]
   exact ⟨h,y,z⟩
  ·rw [e]
   exact wpAny_mono (ihps.tO hc' (st.ev y) h) (fun b s₂ q=>q.back y z) fun _ _ e=>EX.back st.amb y z e
theorem sl_A {p:PE} {ps:List PE} (ihp:SP X Φ req A env L FS HS sc nm oa ρ k lv p) (ihps:SL X Φ req A env L FS HS sc nm oa ρ k lv ps):∀ {es:List Expr} {pos:Pos} {s:Shared} {Q:PyData→Prop} {Ee:Exc→Prop},chkEs X.fn sc nm (p::ps) es=true→St X A env L FS HS sc nm oa ρ k lv s.heap→PE.wpA Φ req k lv (p::ps) ρ Q Ee →
  wpAny X.M A (boolOp pos .And (evalEach es env)) (EP FS HS s Q) (EX X FS HS lv s Ee) s:=by
 intro es pos s Q Ee hc st h
 refine hid fun G hG=>?_
 obtain ⟨x,r,rfl,_,hc1,hc'⟩:=chkEs_cons hc
 refine hG ?_
 cases ps with
 |nil=>
  rw [chkEs_nil hc']
  exact ihp.e hc1 st h
 |cons p' ps=>
  refine hid fun G hG=>?_
  obtain ⟨x',r',rfl,_⟩:=chkEs_cons hc'
  refine hG ?_
  show wpAny X.M A (boolOp pos .And (eval x env::eval x' env::evalEach r' env)) _ _ _
  refine wpAny_bind (EP.bind (ihp.e hc1 st h) fun v s₁ d h rd y z=>wpAny_bind (wpAny_standAt ?_))
  obtain ⟨b,e,q⟩:=boolP.use rd h
  rw [e]
  refine wpAny_bind (wpAny_holding (wpAny_truthy_bool ?_))
  cases b
  ·exact wpAny_pure (EP.back y z (.here q (.bool _)))
  ·exact wpAny_mono (ihps.eA hc' (st.ev y) q) (fun _ _ e=>EP.back y z e) fun _ _ e=>EX.back st.amb y z e
theorem sl_O {p:PE} {ps:List PE} (ihp:SP X Φ req A env L FS HS sc nm oa ρ k lv p) (ihps:SL X Φ req A env L FS HS sc nm oa ρ k lv ps):∀ {es:List Expr} {pos:Pos} {s:Shared} {Q:PyData→Prop} {Ee:Exc→Prop},chkEs X.fn sc nm (p::ps) es=true→St X A env L FS HS sc nm oa ρ k lv s.heap→PE.wpO Φ req k lv (p::ps) ρ Q Ee →
  wpAny X.M A (boolOp pos .Or (evalEach es env)) (EP FS HS s Q) (EX X FS HS lv s Ee) s:=by
 intro es pos s Q Ee hc st h
 refine hid fun G hG=>?_
 obtain ⟨x,r,rfl,_,hc1,hc'⟩:=chkEs_cons hc
 refine hG ?_
 cases ps with
 |nil=>
  rw [chkEs_nil hc']
  exact ihp.e hc1 st h
 |cons p' ps=>
  refine hid fun G hG=>?_
  obtain ⟨x',r',rfl,_⟩:=chkEs_cons hc'
  refine hG ?_
  show wpAny X.M A (boolOp pos .Or (eval x env::eval x' env::evalEach r' env)) _ _ _
  refine wpAny_bind (EP.bind (ihp.e hc1 st h) fun v s₁ d h rd y z=>wpAny_bind (wpAny_standAt ?_))
  obtain ⟨b,e,q⟩:=boolP.use rd h
  rw [e]
  refine wpAny_bind (wpAny_holding (wpAny_truthy_bool ?_))
  cases b
  ·exact wpAny_mono (ihps.eO hc' (st.ev y) q) (fun _ _ e=>EP.back y z e) fun _ _ e=>EX.back st.amb y z e
  ·exact wpAny_pure (EP.back y z (.here q (.bool _)))
theorem sl_cons {p:PE} {ps:List PE} (ihp:SP X Φ req A env L FS HS sc nm oa ρ k lv p) (ihps:SL X Φ req A env L FS HS sc nm oa ρ k lv ps):SL X Φ req A env L FS HS sc nm oa ρ k lv (p::ps):=⟨sl_es ihp ihps,sl_At ihp ihps,sl_Ot ihp ihps,sl_A ihp ihps,sl_O ihp ihps⟩
theorem so_none:SO X Φ req A env L FS HS sc nm oa ρ k lv none:=by
 refine ⟨fun hc st h=>?_⟩
 rw [none_of hc,evalPart_none]
 exact wpAny_pure ⟨none,h,rfl,.refl _ _,.refl _⟩
theorem so_some {p:PE} (ihp:SP X Φ req A env L FS HS sc nm oa ρ k lv p):SO X Φ req A env L FS HS sc nm oa ρ k lv (some p):=by
 refine ⟨fun hc st h=>?_⟩
 obtain ⟨e,rfl,hc⟩:=onO_inv hc
 rw [evalPart_some]
 exact EP.bind (ihp.e hc st h) fun v s₁ d h r y z=>⟨some d,h,r,y,z⟩
end
end Mine
end
section
open PySem PySem.W PyProof.Rows
set_option maxRecDepth 100000
namespace Mine
noncomputable abbrev bmE:List Value:=[.type "Exception",.type "BaseException",.type "object"]
noncomputable def quietR:List Str:=["__getattribute__","__getattr__","__setattr__","code","value","errorcode","level","ret","info","is_noted","line","extra"]
noncomputable def isStr:Value→Bool
 | .str .. => true
 |_=>false
theorem isStr_eq {v:Value} (h:isStr v=true):∃ n t,v = .str n t:=by cases v <;> first |exact ⟨_,_,rfl⟩ |cases h
noncomputable def strKeysB (es:Array DictEntry):Bool:=es.toList.all fun e=>isStr e.key
noncomputable def onCls (F:ClassData→Bool):Data→Bool
 | .cls c=>F c
 |_=>false
theorem onCls_inv {F:ClassData→Bool} {d:Data} (h:onCls F d=true):∃ c,d = .cls c∧F c=true:=by
 cases d <;> first |exact ⟨_,rfl,h⟩ |cases h
noncomputable def onDict (F:Array DictEntry→Bool):Data→Bool
 | .dict es _=>F es
 |_=>false
theorem onDict_inv {F:Array DictEntry→Bool} {d:Data} (h:onDict F d=true):∃ es ep,d = .dict es ep∧F es=true:=by
 cases d <;> first |exact ⟨_,_,rfl,h⟩ |cases h
theorem len0 {α:Type} {l:List α} (h:l.length=0):l=[]:=List.length_eq_zero_iff.mp h
theorem lenS {α:Type} {l:List α} {n:Nat} (h:l.length=n+1):∃ v r,l=v::r∧r.length=n:=by
 cases l with
 |nil=>cases h
 |cons v r=>exact ⟨v,r,rfl,Nat.succ.inj h⟩
theorem len6 {α:Type} {l:List α} {x:α} (h:l.length=6) (h4:l[4]?=some x):∃ a b c d e,l=[a,b,c,d,x,e]:=by
 refine hid fun G hG=>?_
 obtain ⟨a,l1,e1,h⟩:=lenS h
 obtain ⟨b,l2,e2,h⟩:=lenS h
 obtain ⟨c,l3,e3,h⟩:=lenS h
 obtain ⟨d,l4,e4,h⟩:=lenS h
 obtain ⟨y,l5,e5,h⟩:=lenS h
 obtain ⟨e,l6,e6,h⟩:=lenS h
 refine hG ?_
 rw [e1,e2,e3,e4,e5,e6,len0 h] at h4 ⊢
 exact ⟨a,b,c,d,e,by rw [show y=x from Option.some.inj h4]⟩
noncomputable def raisedIn (K:Frag) (C fI:Addr):Bool:=onO (fun o=>o.cls == .type "type" && (o.slots.toList.length == 6 && (o.slots.toList[4]? == some (some (.builtin "Exception.__new__")) && onCls (fun cd=>cd.mro == .ref C::bmE && (!cd.hasDel && (cd.hasDict &&
 onO (onDict (fun es=>strKeysB es && (nsFind es "__init__" == some (.ref fI) && quietR.all fun n=>(nsFind es n).isNone)) ·.data) (K.lookup cd.ns)))) o.data))) (K.lookup C)
theorem obj_eq {o:Obj} {c:Value} {d:Option Addr} {dt:Data} {sl:Array (Option Value)} (h1:o.cls=c) (h2:o.dict=d) (h3:o.data=dt) (h4:o.slots=sl):o=⟨c,d,dt,sl⟩:=by
 rw [← h1,← h2,← h3,← h4]
theorem cd_eq {cd:ClassData} {m:List Value} (h1:cd.mro=m) (h2:cd.hasDict=true) (h3:cd.hasDel=false):cd={ cd with mro:=m,hasDict:=true,hasDel:=false }:=by
 rw [← h1,← h2,← h3]
structure RD where
 nm:Str
 qn:Str
 N:Addr
 bs:List Value
 sn:List Str
 sub:List Value
 ab:Bool
 col:Option Bool
 dd:Option Addr
 k0:Option Value
 k1:Option Value
 k2:Option Value
 k3:Option Value
 k5:Option Value
 mN:Str→Option Value
structure RaisedAt (X:Cx) (fI:Addr) (r:RD):Prop where
 obj:X.B0.get? X.rc=some (excClassObj r.nm r.qn X.rc r.N r.bs bmE true r.sn r.sub r.ab r.col r.dd r.k0 r.k1 r.k2 r.k3 r.k5 "Exception.__new__")
 ns:X.B0.Ns r.N r.mN
 init:r.mN "__init__"=some (.ref fI)
 quiet:∀ n ∈ quietR,r.mN n=none
theorem raised_of {X:Cx} {fI:Addr} (q:raisedIn X.K X.rc fI=true):∃ r:RD,RaisedAt X fI r:=by
 refine hid fun G hG=>?_
 obtain ⟨o,ho,q⟩:=onO_inv q
 have q1:=and2 q
 have q2:=and2 q1.2
 have q3:=and2 q2.2
 obtain ⟨cd,hcd,q⟩:=onCls_inv q3.2
 have q4:=and2 q
 have q5:=and2 q4.2
 have q6:=and2 q5.2
 obtain ⟨on,hN,q⟩:=onO_inv q6.2
 obtain ⟨es,ep,hd,q⟩:=onDict_inv q
 have q7:=and2 q
 have q8:=and2 q7.2
 obtain ⟨k0,k1,k2,k3,k5,hs⟩:=len6 (eq_of_beq q2.1) (eq_of_beq q3.1)
 refine hG ?_
 refine ⟨⟨cd.name,cd.qualname,cd.ns,cd.bases,cd.slotNames,cd.subclasses,cd.abstract,cd.collection,o.dict,k0,k1,k2,k3,k5,nsFind es⟩,?_,⟨_,es,ep,X.ki _ _ hN,hd,fun e he=>isStr_eq (List.all_eq_true.mp q7.1 e (Array.mem_toList_iff.mpr he)),fun _=>rfl⟩,eq_of_beq q8.1,fun n hn=>none_of (List.all_eq_true.mp q8.2 n hn)⟩
 refine (X.ki _ _ ho).trans (congrArg some (obj_eq (eq_of_beq q1.1) rfl (hcd.trans (congrArg Data.cls (cd_eq (eq_of_beq q4.1) q6.1 ((Bool.not_eq_true' _).mp q5.1)))) (Array.toList_inj.mp hs)))
theorem lkn_code:typeLookup (.type "Exception") "code"=pure none:=by rw [typeLookup_type,builtinLookup_eq_fast];kernel_rfl
theorem lkn_value:typeLookup (.type "Exception") "value"=pure none:=by rw [typeLookup_type,builtinLookup_eq_fast];kernel_rfl
theorem lkn_errorcode:typeLookup (.type "Exception") "errorcode"=pure none:=by rw [typeLookup_type,builtinLookup_eq_fast];kernel_rfl
section
variable {prog:Program} {w:World} {A:Around} {E:Value→Shared→Prop} {h:Heap} {g:Array GenState} {d:Drawn} {t:Nat} {os:OsState} {a D:Addr} {vs:Array Value} {sl:Array (Option Value)}
 {nm q:Str} {C N:Addr} {bs:List Value} {sn:List Str} {sub:List Value} {ab:Bool} {col:Option Bool} {dd:Option Addr} {k0 k1 k2 k3 k5:Option Value} {newId:String} {mN mA:Str→Option Value} {name:Str} {v:Value}
theorem exc_entry {tk:Tok} {Q:Fin→Shared→Prop} (hC:h.get? C=some (excClassObj nm q C N bs bmE true sn sub ab col dd k0 k1 k2 k3 k5 newId)) (hN:h.Ns N mN)
  (hmN:mN name=none) (hB:typeLookup (.type "Exception") name=pure none) (hx:h.get? a=some ⟨.ref C,some D,.fields vs,sl⟩) (hD:h.Ns D mA) (hv:mA name=some v) (hq:Q (.done (.ret v)) ⟨h,g,d,t,os⟩) :
  wpAny (model prog w) A (Builtin.«object.__getattribute__» ⟨[.ref a,.str name tk],[]⟩) Q E ⟨h,g,d,t,os⟩:=by
 unfold Builtin.«object.__getattribute__»
 repeat (any_goals (first |assumption |(with_reducible refine wpAny_nsGet hD ?_;rw [hv]) |(with_reducible refine wpAny_loadPart_at hx ?_) |(with_reducible refine wpAny_loadPart_at hC ?_) |(with_reducible refine wpAny_typeLookup_exc hC hN PySem.F.attrBase_Exception.mro hB ?_;rw [hmN]) |wp_step))
theorem exc_call {tk:Tok} {R:Result→Shared→Prop} (hC:h.get? C=some (excClassObj nm q C N bs bmE true sn sub ab col dd k0 k1 k2 k3 k5 newId)) (hN:h.Ns N mN)
  (hmN:mN name=none) (hB:typeLookup (.type "Exception") name=pure none) (hx:h.get? a=some ⟨.ref C,some D,.fields vs,sl⟩) (hD:h.Ns D mA) (hv:mA name=some v) (hq:R (.ok (.ret v)) ⟨h,g,d,t,os⟩) :
  codeAny (model prog w) A (.call (.builtin "BaseException.__getattribute__") ⟨[.ref a,.str name tk],[]⟩) R ⟨h,g,d,t,os⟩:=
 codeAny_call_builtin PySem.F.attrBase_Exception.ga.plain PySem.F.entry_bexc_ga (wpAny_check_ga_own PySem.F.attrBase_Exception hC .base hx rfl (exc_entry hC hN hmN hB hx hD hv hq))
theorem exc_by {tk:Tok} {fill expr:Bool} {Q:Value→Shared→Prop} (hC:h.get? C=some (excClassObj nm q C N bs bmE true sn sub ab col dd k0 k1 k2 k3 k5 newId)) (hN:h.Ns N mN)
  (hmN:mN name=none) (hm1:mN "__getattribute__"=none) (hm2:mN "__getattr__"=none) (hB:typeLookup (.type "Exception") name=pure none) (hx:h.get? a=some ⟨.ref C,some D,.fields vs,sl⟩) (hD:h.Ns D mA) (hv:mA name=some v) (hh:handedOut v=pure v) (hq:Q v ⟨h,g,d,t,os⟩) :
  wpAny (model prog w) A (getAttrBy (.ref a) (.str name tk) fill expr) Q E ⟨h,g,d,t,os⟩:=by
 have f3:=PySem.F.attrBase_Exception.ga.bind (.ref a)
 have hx0:(expr && onTheHeap (Value.builtin "BaseException.__getattribute__"))=false:=by cases expr <;> rfl
 have hx2:(Value.builtin "BaseException.__getattribute__" == Value.builtin "object.__getattribute__")=false:=by decide+kernel
 have hx1:(onTheHeap (Value.ref C) && Value.builtin "BaseException.__getattribute__" == Value.builtin "object.__getattribute__")=false:=by rw [hx2];rfl
 repeat (any_goals (first |assumption |(with_reducible refine wpAny_loadPart_at hx ?_) |(with_reducible refine wpAny_typeLookup_exc hC hN PySem.F.attrBase_Exception.mro PySem.F.attrBase_Exception.ga.lookup ?_;rw [hm1]) |(with_reducible refine wpAny_typeLookup_exc hC hN PySem.F.attrBase_Exception.mro PySem.F.attrBase_Exception.noGetattr ?_;rw [hm2]) |wp_step))
 refine exc_call hC hN hmN hB hx hD hv ?_
 repeat (any_goals (first |assumption |rw [hh] |wp_step))
theorem exc_attr {expr:Bool} {Q:Value→Shared→Prop} (hC:h.get? C=some (excClassObj nm q C N bs bmE true sn sub ab col dd k0 k1 k2 k3 k5 newId)) (hN:h.Ns N mN)
  (hmN:mN name=none) (hm1:mN "__getattribute__"=none) (hm2:mN "__getattr__"=none) (hB:typeLookup (.type "Exception") name=pure none) (hx:h.get? a=some ⟨.ref C,some D,.fields vs,sl⟩) (hD:h.Ns D mA) (hv:mA name=some v) (hh:handedOut v=pure v) (hq:Q v ⟨h,g,d,t+1,os⟩) :
  wpAny (model prog w) A (getAttr (.ref a) name expr) Q E ⟨h,g,d,t,os⟩:=by
 unfold getAttr
 repeat (any_goals (first |assumption |with_reducible apply exc_by hC hN hmN hm1 hm2 hB hx hD hv hh |wp_step))
end
end Mine
end
section
open PySem PySem.W PyProof.Rows
set_option maxRecDepth 100000
namespace Mine
noncomputable def HandOK (hd:Option Value) (h:Heap):Prop:=∀ v,hd=some v→∃ e o vs,v = .ref e∧h.get? e=some o∧o.data = .fields vs∧vs[2]?=some .none
theorem HandOK.keep {hd:Option Value} {h h':Heap} (x:HandOK hd h) (k:∀ e o,hd=some (.ref e)→h.get? e=some o→h'.get? e=some o):HandOK hd h':=fun v hv=>by
 obtain ⟨e,o,vs,rfl,ho,r⟩:=x v hv
 exact ⟨e,o,vs,rfl,k e o hv ho,r⟩
theorem HandLv.ok {lv:Nat} {hd:Option Value} {h:Heap} (x:HandLv lv hd h) (hl:1≤lv):HandOK hd h:=x.2.1 hl
theorem Amb.handOK {X:Cx} {A:Around} {FS:List Addr} {lv:Nat} {h:Heap} (a:Amb X A FS lv h) (hl:1≤lv):HandOK A.handled h:=a.hand.ok hl
section
variable {prog:Program} {w:World} {A:Around} {E:Value→Shared→Prop} {s:Shared}
theorem entry_unchain:entryFor table "proto.unchain"=some Builtin.«proto.unchain» := entryFor_of_tree (by kernel_rfl)
theorem raiseNew_ok {α:Type} {a:Addr} {o:Obj} {ws:Array Value} {Q:α→Shared→Prop} (hh:HandOK A.handled s.heap) (ho:s.heap.get? a=some o) (hd:o.data = .fields ws) (hsz:2<ws.size)
  (h:(A.handled=none→E (.ref a) s)∧(A.handled≠none→∀ h',(∃ g,h'=s.heap.update a (Obj.mapFields (·.setIfInBounds 2 g)))→E (.ref a) { s with heap:=h' })) (hself:A.handled=some (.ref a)→E (.ref a) s):wpAny (model prog w) A (raiseNew (.ref a):Sem α) Q E s:=by
 unfold raiseNew
 refine wpAny_bind (wpAny_handled ?_)
 cases hA:A.handled with
 |none=>exact wpAny_bind (wpAny_pure (wpAny_throw (h.1 hA)))
 |some v=>
  obtain ⟨e,oe,vs,rfl,he,hde,h2⟩:=hh v hA
  show wpAny _ _ (do
   if (Value.ref e !=Value.ref a)=true then do
    let _ ← holding [Value.ref a] (runValue (.builtin "proto.unchain" ⟨[.ref a,.ref e,.ref e,.bool false],[]⟩))
    updateField a 2 (.ref e)
   throw (Value.ref a)) _ _ _
  by_cases hne:e=a
  ·subst hne
   rw [if_neg (by simp)]
   exact wpAny_bind (wpAny_pure (wpAny_throw (hself hA)))
  ·rw [if_pos (by simpa using hne)]
   refine wpAny_bind (wpAny_holding (wpAny_runValue (codeAny_builtin entry_unchain ?_)))
   unfold Builtin.«proto.unchain»
   show wpAny _ _ (field (.ref e) 2 >>= _) _ _ _
   refine wpAny_bind (wpAny_field he hde h2 ?_)
   rw [if_pos (by decide)]
   refine wpAny_bind (wpAny_pure (wpAny_pure ?_))
   show wpAny _ _ (do updateField a 2 (.ref e);throw (Value.ref a)) _ _ _
   unfold updateField
   refine wpAny_bind (wpAny_bind (wpAny_load ho ?_))
   rw [hd]
   dsimp only
   by_cases hlt:2<ws.size
   ·rw [if_pos hlt]
    exact wpAny_update ho (wpAny_throw (h.2 (by rw [hA];exact nofun) _ ⟨_,rfl⟩))
   ·exact absurd hsz hlt
end
theorem stopHere {α:Type} {prog:Program} {w:World} {A:Around} {E:Value→Shared→Prop} {s:Shared} {Q:α→Shared→Prop} (hh:HandOK A.handled s.heap)
  (h:∀ h' e,(∀ b o,s.heap.get? b=some o→h'.get? b=some o)→(∃ o,h'.get? e=some o∧o.cls = .type "StopIteration")→E (.ref e) { s with heap:=h' }) :
  wpAny (model prog w) A (newExc (.type "StopIteration") [] >>= fun e=>(raiseNew e:Sem α)) Q E s:=by
 refine wpAny_bind ?_
 simp only [newExc,newTuple]
 refine wpAny_bind (wpAny_newObj_type ?_ (by size_fits))
 refine wpAny_bind (m:=firstArgMember _ _) (wpAny_of_eq (a:=Value.none) (by first |rfl |(simp only [firstArgMember];rfl)) ?_)
 refine wpAny_newObj_type ?_ (by size_fits)
 have k₂:∀ b o,s.heap.get? b=some o→((s.heap.push { cls := .type "tuple",dict:=none,data := .seq ([]:List Value).toArray }).push { cls := .type "StopIteration",dict:=none,data := .fields (#[.ref s.heap.objs.size,.none,.none,.none,.bool false,.none]++ownMembersOf (.type "StopIteration") []) }).get? b=some o:=
  fun b o e=>Heap.get?_push_of_some _ (Heap.get?_push_of_some _ e)
 refine raiseNew_ok (o:=_) (ws:=_) (hh.keep fun e o _ ho=>k₂ e o ho) (Heap.get?_push_size _ rfl) rfl (Nat.lt_of_lt_of_le (by decide:2<6) (by rw [Array.size_append];exact Nat.le_add_right 6 _)) ⟨fun _=>h _ _ k₂ ⟨_,Heap.get?_push_size _ rfl,rfl⟩,?_⟩ fun _=>h _ _ k₂ ⟨_,Heap.get?_push_size _ rfl,rfl⟩
 rintro _ h' ⟨g,rfl⟩
 refine h _ _ (fun b o e=>?_) ⟨_,Heap.get?_update_self _ (Heap.get?_push_size _ rfl) rfl,rfl⟩
 rw [Heap.get?_update_other _ _ (fun q=>by
  have:=Heap.lt_size e
  rw [← q,Heap.size_push] at this
  exact absurd this (Nat.not_lt.mpr (Nat.le_succ _)))]
 exact k₂ b o e
end Mine
end
section
open PySem PySem.W PyProof.Rows
set_option maxRecDepth 100000
namespace Mine
section
variable {prog:Program} {w:World} {A:Around} {E:Value→Shared→Prop} {s:Shared}
theorem HandOK.neIter {hd:Option Value} {h:Heap} {it t:Addr} {i:Nat} (x:HandOK hd h) (hit:h.IsTupleIter it t i):∀ e,hd=some (.ref e)→e≠it:=by
 rintro e hv rfl
 obtain ⟨e',o,vs,q,ho,hd,h2⟩:=x _ hv
 cases q
 obtain ⟨o',ho',_,hd'⟩:=hit
 rw [ho] at ho'
 cases ho'
 rw [hd] at hd'
 cases hd'
 cases h2
theorem pyNext_tuple_end {it t:Addr} {i:Nat} {items} {Q:Option Value→Shared→Prop} (hh:HandOK A.handled s.heap)
  (hit:s.heap.IsTupleIter it t i) (ht:s.heap.IsTuple t items) (hx:items[i]?=none)
  (hQ:∀ h',Heap.ExtBut it s.heap h'→Q none { s with heap:=h' }):wpAny (model prog w) A (pyNext (.ref it)) Q E s:=by
 have hne:=hh.neIter hit
 obtain ⟨o,ho,hc,hd⟩:=id hit
 obtain ⟨ol,hol,_,nl,hdl⟩:=ht
 unfold pyNext
 refine wpAny_bind (wpAny_attempt (wpAny_callSpecial?_slot (name:=Str.ofString "__next__") hit.typeIs F.slot_tuple_iterator_next
  (wpAny_call_entry F.slot_tuple_iterator_next hit.typeIs F.entry_tuple_iterator_next ?_ (F.args_tuple_iterator_next_1 _))))
 show wpAny _ _ (field (.ref it) 0 >>= _) _ _ s
 refine wpAny_bind (wpAny_field ho hd (x := .ref t) rfl ?_)
 show wpAny _ _ (if (Value.ref t == Value.none)=true then _ else _) _ _ s
 rw [if_neg (show ¬ ((Value.ref t == Value.none)=true) from Bool.false_ne_true)]
 show wpAny _ _ (field (.ref it) 1 >>= _) _ _ s
 refine wpAny_bind (wpAny_field ho hd (x := .int i 0) rfl ?_)
 show wpAny _ _ (seqItems? (.ref t) >>= _) _ _ s
 refine wpAny_bind (wpAny_seqItems hol hdl ?_)
 simp only [Int.toNat_natCast,hx]
 refine wpAny_bind (wpAny_rule (wpAny_bind (wpAny_setField ho hd (by simp) ?_)))
 have hsb:Heap.ExtBut it s.heap (s.heap.update it (Obj.mapFields (·.setIfInBounds 0 Value.none))):=(Heap.SameBut.update ..).extBut
 refine stopHere (A:=A.in1) (hh.keep fun e o he ho=>hsb e o (hne e he) ho) fun h' e k he=>?_
 obtain ⟨oe,he,hec⟩:=he
 refine wpAny_bind (wpAny_isInstance (T:="StopIteration") (b:=true) ⟨_,he,hec⟩ isSubtype_stop ?_)
 exact wpAny_pure (hQ _ fun b o hb e=>k b o (hsb b o hb e))
theorem unpackItems_tuple {t:Addr} {items:Array Value} {Q:List Value→Shared→Prop} (hh:HandOK A.handled s.heap) (ht:s.heap.IsTuple t items)
  (hQ:∀ h',(∀ b o,s.heap.get? b=some o→h'.get? b=some o)→Q items.toList { s with heap:=h' }):wpAny (model prog w) A (unpackItems (.ref t) items.size none) Q E s:=by
 have hlt:t≠s.heap.objs.size:=by obtain ⟨o,ho,_⟩:=ht;exact Nat.ne_of_lt (Heap.lt_size ho)
 unfold unpackItems
 refine wpAny_bind ?_
 ·unfold notIterableAtAll
  refine wpAny_bind (wpAny_specialOf ht.typeIs F.slot_tuple_iter.lookup ?_)
  refine wpAny_pure ?_
  simp only [Bool.false_eq_true,if_false]
  refine wpAny_bind (wpAny_holding (wpAny_pyIter_tuple ht ?_))
  refine wpAny_bind (wpAny_holding (wpAny_draw_tuple hlt items.size 0 _ _ ⟨_,Heap.get?_push_size _ rfl,rfl,rfl⟩ (ht.push _) (by exact linL fun q=>lin [_] [(1,0,.a (.v 0) (.n 1),.a (.n 0) (.v 0))] rfl q) fun h₁ hit₁ hs₁=>?_))
  have hall:List.take items.size (List.drop 0 items.toList)=items.toList:=by
   rw [List.drop_zero];exact List.take_of_length_le (by simp)
  rw [hall]
  rw [if_neg (by simp)]
  have ht₁:h₁.IsTuple t items:=(ht.push _).extBut hs₁.extBut hlt
  have kk:∀ b o,s.heap.get? b=some o→h₁.get? b=some o:=fun b o e=>hs₁.extBut b o (Nat.ne_of_lt (Heap.lt_size e)) (Heap.get?_push_of_some _ e)
  refine wpAny_bind (wpAny_holding (pyNext_tuple_end (hh.keep fun e o _ ho=>kk e o ho) hit₁ ht₁ (by simp) fun h₂ he₂=>?_))
  simp only [Option.isSome_none,Bool.false_eq_true,if_false]
  exact wpAny_pure (hQ h₂ fun b o e=>he₂ b o (Nat.ne_of_lt (Heap.lt_size e)) (kk b o e))
theorem assign_Tuple {env:Env} {elts:List Expr} {x1} {pos:Pos} {t:Addr} {items:Array Value} {Q:Unit→Shared→Prop} (hh:HandOK A.handled s.heap) (ht:s.heap.IsTuple t items)
  (hn:(assignEach elts env).length=items.size) (hstar:(assignEach elts env).findIdx? (·.1)=none)
  (h:∀ h',(∀ b o,s.heap.get? b=some o→h'.get? b=some o)→wpAny (model prog w) A (assignInOrder ((assignEach elts env).map (·.2)) items.toList) Q E { s with heap:=h' }) :
  wpAny (model prog w) A (assign (.Tuple elts x1 pos) env (.ref t)) Q E s:=by
 rw [arm_assign_Tuple]
 refine wpAny_bind (wpAny_standAt ?_)
 unfold unpack
 rw [hn,hstar]
 exact wpAny_bind (wpAny_holding (unpackItems_tuple hh ht h))
noncomputable def handAt:Option Value→List Addr
 |some (.ref e)=>[e]
 |_=>[]
theorem walksTuple (I t:Addr) (hne:t≠I) (items:Array Value) :
  Walks prog w A I (I::t::handAt A.handled) [I] items.size (fun i v=>items[i]?=some v) (fun i h=>h.IsTupleIter I t i∧h.IsTuple t items∧HandOK A.handled h) where
 sub:=fun b hb=>by simp at hb;simp [hb]
 frame:=fun _ _ _ st hk=>⟨by obtain ⟨o,ho,r⟩:=st.1;exact ⟨o,hk I (by simp) o ho,r⟩,by obtain ⟨o,ho,r⟩:=st.2.1;exact ⟨o,hk t (by simp) o ho,r⟩,
  st.2.2.keep fun e o he ho=>hk e (by simp [he,handAt]) o ho⟩
 item:=fun i s Q E hi st hQ=>by
  refine wpAny_pyNext_tuple_item st.1 st.2.1 (x:=items[i]) (by simp [hi]) fun h' hit' hs'=>?_
  exact hQ _ h' s.toks (by simp [hi]) ⟨hit',st.2.1.extBut hs'.extBut hne,st.2.2.keep fun e o he ho=>hs'.extBut e o (st.2.2.neIter st.1 e he) ho⟩ fun b o hb e=>hs'.extBut b o (fun h=>hb (by simp [h])) e
 done:=fun s Q E st hQ=>pyNext_tuple_end st.2.2 st.1 st.2.1 (by simp) fun h' he'=>hQ h' s.toks fun b o hb e=>he' b o (fun h=>hb (by simp [h])) e
 self:=fun _ _ _ _ st hQ=>by
  refine wpAny_pyIter_slot st.1.typeIs F.slot_tuple_iterator_iter (wpAny_call_entry F.slot_tuple_iterator_iter st.1.typeIs F.entry_tuple_iterator_iter ?_ (F.args_tuple_iterator_iter_1 _))
  show wpAny _ _ (ret _) _ _ _
  exact wpAny_pure ⟨_,rfl,"tuple_iterator",_,st.1.typeIs,F.slot_tuple_iterator_next.lookup,hQ⟩
end
end Mine
end
section
open PySem PySem.W PyProof.Rows
set_option maxRecDepth 100000
namespace Mine
mutual
theorem Rd.monoS {H H':Addr→Prop} {h h':Heap} (hk:∀ b o vs n,h.get? b=some o→o.data = .seq vs n→¬ H b→h'.get? b=some o) (hs:∀ b o vs n,h.get? b=some o→o.data = .seq vs n→H' b→H b):∀ {v d},Rd H h v d→Rd H' h' v d
 |_,_,.none => .none
 |_,_,.bool b => .bool b
 |_,_,.int i t => .int i t
 |_,_,.str x t => .str x t
 |_,_,.list a b c => .list (hk _ _ _ _ a rfl b) (fun q=>b (hs _ _ _ _ a rfl q)) (RdAll.monoS hk hs c)
 |_,_,.tuple a b c => .tuple (hk _ _ _ _ a rfl b) (fun q=>b (hs _ _ _ _ a rfl q)) (RdAll.monoS hk hs c)
theorem RdAll.monoS {H H':Addr→Prop} {h h':Heap} (hk:∀ b o vs n,h.get? b=some o→o.data = .seq vs n→¬ H b→h'.get? b=some o) (hs:∀ b o vs n,h.get? b=some o→o.data = .seq vs n→H' b→H b):∀ {vs ds},RdAll H h vs ds→RdAll H' h' vs ds
 |_,_,.nil => .nil
 |_,_,.cons a b => .cons (Rd.monoS hk hs a) (RdAll.monoS hk hs b)
end
structure Gr (X:Cx) (A:Around) (FS:List Addr) (lv:Nat) (FS1:List Addr) (hb:Heap):Prop where
 sub:∀ b ∈ FS1,b ∈ FS
 new:∀ b ∈ FS,b ∈ FS1∨hb.get? b=none
 base:X.B0.StaysIn hb
 hand:HandLv lv A.handled hb
 rec_:∀ b o vs,hb.get? b=some o→o.data = .fields vs→b ∉ FS1
structure Fx (X:Cx) (A:Around) (FS:List Addr) (lv:Nat) (FS1:List Addr) (HS:Addr→Prop) (hb:Heap) (e:Addr) (x:Exc) (h:Heap):Prop where
 amb:Amb X A FS lv h
 fly:Fly X FS HS lv hb h e x
 ev:Ev FS1 hb h
noncomputable def Tb (h:Heap) (e:Addr):Prop:=∃ oe vs T,h.get? e=some oe∧oe.data = .fields vs∧vs[1]?=some (.ref T)
section
variable {X:Cx} {A:Around} {FS FS1:List Addr} {HS:Addr→Prop} {lv:Nat} {hb h h':Heap} {e:Addr} {x:Exc}
theorem Gr.amb (g:Gr X A FS lv FS1 hb) (a:Amb X A FS lv h) (y:Ev FS1 hb h') (hB:∀ b o,X.B0.get? b=some o→h'.get? b=some o) (hF:∀ b ∈ FS,∀ m,h.Ns b m→h'.Ns b m):Amb X A FS lv h':=by
 refine ⟨hB,?_,g.hand.1,fun hl v hv=>?_,g.hand.2.2⟩
 ·obtain ⟨l,hA,hfs,hl⟩:=a.frs
  refine ⟨l,hA,hfs,fun env he=>?_⟩
  obtain ⟨k,L,hL,hn,m,hm⟩:=hl env he
  exact ⟨k,L,hL,hn,m,hF L (hfs▸List.mem_filterMap.mpr ⟨env,he,hL⟩) m hm⟩
 ·obtain ⟨e,o,vs,rfl,he,hd,h2⟩:=g.hand.2.1 hl v hv
  exact ⟨e,o,vs,rfl,y.keep e o he (g.rec_ e o vs he hd),hd,h2⟩
theorem Fx.move (g:Gr X A FS lv FS1 hb) (f:Fx X A FS lv FS1 HS hb e x h) {oe oe':Obj} {vs vs':Array Value} (ho:h.get? e=some oe) (hd:oe.data = .fields vs) (ho':h'.get? e=some oe') (hc:oe'.cls=oe.cls) (hdi:oe'.dict=oe.dict) (hd':oe'.data = .fields vs')
  (hsz:vs'.size=vs.size) (h0:vs'[0]?=vs[0]?) (h2:vs'[2]?=vs[2]?) (hk:∀ b o,h.get? b=some o→b ∉ FS→b≠e→(∀ T,vs[1]?=some (.ref T)→b≠T)→h'.get? b=some o) (hF:∀ b ∈ FS,∀ m,h.Ns b m→h'.Ns b m)
  (h1:vs'[1]?=some .none∨∃ T oT ts,vs'[1]?=some (.ref T)∧(vs[1]?=some (.ref T)∨h.get? T=none)∧h'.get? T=some oT∧oT.data = .fields ts∧3<ts.size):Fx X A FS lv FS1 HS hb e x h':=by
 obtain ⟨a,⟨f1,f2,d,sl,vs₀,f3,⟨f4,f5,f6⟩,⟨m,t,u,v,q1,q2,q3,q4,q5⟩,f8,f9,f10,f11⟩,y⟩:=f
 rw [f3] at ho
 cases ho
 cases hd
 have hT:∀ T,vs[1]?=some (.ref T)→hb.get? T=none∧T ∉ FS∧T≠e∧T≠d∧∃ oT ts,h.get? T=some oT∧oT.data = .fields ts:=fun T hT=>by
  rcases f11 with w |⟨T',oT,ts,w1,w2,w3,w4,w5,w6,w7,_⟩
  ·rw [w] at hT;cases hT
  ·rw [w1] at hT;cases hT;exact ⟨w2,w3,w4,w5,oT,ts,w6,w7⟩
 have hke:∀ b o,hb.get? b=some o→b ∉ FS1→h'.get? b=some o:=fun b o q n=>by
  refine hk b o (y.keep b o q n) (fun hm=>?_) (fun z=>?_) fun T hT' z=>?_
  ·rcases g.new b hm with z |z
   ·exact n z
   ·rw [z] at q;cases q
  ·rw [z,f1] at q;cases q
  ·rw [z,(hT T hT').1] at q;cases q
 have y':Ev FS1 hb h':=⟨hke,fun b hb' m hm=>hF b (g.sub b hb') m (y.fr b hb' m hm)⟩
 have hBF:∀ b o,X.B0.get? b=some o→b ∉ FS1:=fun b o q hm=>by
  rw [(a.fsNs (g.sub b hm)).1] at q;cases q
 refine ⟨g.amb a y' (fun b o q=>hke b o (g.base b o q) (hBF b o q)) hF,⟨f1,f2,d,oe'.slots,vs',?_,⟨f4,f5,f6⟩,⟨m,t,u,v,?_,q2,q3,q4,?_⟩,by rw [h0];exact f8,by rw [hsz];exact f9,fun z=>by rw [h2];exact f10 z,?_⟩,y'⟩
 ·rw [ho']
  obtain ⟨c',dd',dt',sl'⟩:=oe'
  dsimp only at hc hdi hd'
  rw [hc,hdi,hd']
 ·obtain ⟨od,es,ep,hod,r⟩:=q1
  exact ⟨od,es,ep,hk d od hod f5 f6 fun T hT' z=>(hT T hT').2.2.2.1 z.symm,r⟩
 ·refine q5.monoS (fun b o ws n q hs _=>hk b o q (fun hm=>?_) (fun z=>?_) fun T hT' z=>?_) fun _ _ _ _ _ _ q=>q
  ·obtain ⟨_,m',hm'⟩:=a.fsNs hm
   obtain ⟨es,ep,w⟩:=ns_notfields hm' q
   rw [hs] at w;cases w
  ·rw [z,f3] at q;cases q;cases hs
  ·obtain ⟨_,_,_,_,oT,ts,w1,w2⟩:=hT T hT'
   rw [z,w1] at q;cases q;rw [w2] at hs;cases hs
 ·rcases h1 with w |⟨T,oT,ts,w1,w2,w3,w4,w5⟩
  ·exact .inl w
  ·refine .inr ⟨T,oT,ts,w1,?_,?_,?_,?_,w3,w4,w5⟩
   ·rcases w2 with w2 |w2
    ·exact (hT T w2).1
    ·cases q:hb.get? T with
     |none=>rfl
     |some o=>
      by_cases hm:T ∈ FS1
      ·obtain ⟨_,m',o',_,_,ho',_⟩:=a.fsNs (g.sub T hm)
       rw [w2] at ho';cases ho'
      ·rw [y.keep T o q hm] at w2;cases w2
   ·rcases w2 with w2 |w2
    ·exact (hT T w2).2.1
    ·intro hm
     obtain ⟨_,m',o',_,_,ho',_⟩:=a.fsNs hm
     rw [w2] at ho';cases ho'
   ·rcases w2 with w2 |w2
    ·exact (hT T w2).2.2.1
    ·rintro rfl;rw [w2] at f3;cases f3
   ·rcases w2 with w2 |w2
    ·exact (hT T w2).2.2.2.1
    ·rintro rfl
     obtain ⟨od,_,_,hod,_⟩:=q1
     rw [w2] at hod;cases hod
end
end Mine
end
section
open PySem PySem.W PyProof.Rows
set_option maxRecDepth 100000
namespace Mine
section
variable {X:Cx} {A:Around} {FS FS1:List Addr} {HS:Addr→Prop} {lv:Nat} {hb:Heap} {e:Addr} {x:Exc} {s:Shared} {E:Value→Shared→Prop} {env:Env} {L:Addr} {l:List Env}
theorem Amb.fun (a:Amb X A FS lv s.heap) (hA:A.frames=some l):s.heap.FunFrames X.B0 l:=by
 obtain ⟨l',hA',hfs,hl⟩:=a.frs
 rw [hA] at hA'
 cases hA'
 clear hA hfs
 induction l with
 |nil=>trivial
 |cons env r ih=>
  obtain ⟨k,L,hL,hn,m,o,es,ep,ho,hd,_⟩:=hl env (.head _)
  exact ⟨by rw [k];decide,⟨L,o,hL,hn,ho,fun vs q=>by rw [hd] at q;cases q⟩,ih fun env he=>hl env (.tail _ he)⟩
theorem Amb.fsEq (a:Amb X A FS lv s.heap) (hA:A.frames=some l):FS=l.filterMap (·.frame):=by
 obtain ⟨l',hA',h,_⟩:=a.frs
 rw [hA] at hA'
 cases hA'
 exact h
theorem Amb.notDict (a:Amb X A FS lv s.heap) {b:Addr} {o:Obj} {vs:Array Value} (ho:s.heap.get? b=some o) (hd:o.data = .fields vs):b ∉ FS:=a.notFS ho fun es ep q=>by rw [hd] at q;cases q
theorem entry_ok {head:Value} {hadNext:Bool} {Q:Unit→Shared→Prop} (g:Gr X A FS lv FS1 hb) (hA:A.frames=some (env::l)) (hL:env.frame=some L) (f:Fx X A FS lv FS1 HS hb e x s.heap)
  (h:∀ h',Fx X A FS lv FS1 HS hb e x h'→Tb h' e→Q () { s with heap:=h' }) :
  wpAny X.M A (do let a ← frameOf env;let pl ← entryPlaceOf L hadNext;let b ← EntryCells.newEntry head a .none (rawInt L) .none pl;setField (.ref e) 1 b) Q E s:=by
 obtain ⟨oe,vs,he,hd,hsz⟩:∃ oe vs,s.heap.get? e=some oe∧oe.data = .fields vs∧2<vs.size:=by
  obtain ⟨_,_,d,sl,vs,f3,_,_,_,f9,_⟩:=f.fly
  exact ⟨_,vs,f3,rfl,f9⟩
 have heF:=f.amb.notDict he hd
 have hsz1:1<vs.size:=by exact linT fun q=>lin [_] [(1,0,.a (.n 2) (.n 1),.v 0),(1,0,.v 0,.n 1)] rfl hsz q
 rw [f.amb.fsEq hA] at heF
 refine wpAny_bind (wpAny_frameOf_fun hA (f.amb.fun hA) hL fun h₁ hs₁=>?_)
 refine wpAny_bind (wpAny_entryPlaceOf fun pl hpl=>?_)
 unfold EntryCells.newEntry newFields
 refine wpAny_bind (wpAny_newObj_type ?_ (hpl.sizeOk5 _ _ _ _ _))
 have he₁:h₁.get? e=some oe:=(hs₁.2.1 e heF).trans he
 have he₂:=Heap.get?_push_of_some (h:=h₁) { cls := .type "traceback",dict:=none,data := .fields ([head,.ref L,.none,rawInt L,.none]++(if pl.isEmpty then List.replicate 6 Value.none else pl)).toArray } he₁
 refine wpAny_setField he₂ hd (by exact linT fun q=>lin [_] [(1,0,.a (.n 2) (.n 1),.v 0),(1,0,.v 0,.n 1)] rfl hsz q) (h _ ?_ ?_)
 all_goals
  have hTe:h₁.objs.size≠e:=Nat.ne_of_gt (Heap.lt_size he₁)
  have hd₃:=Obj.data_mapFields hd (·.setIfInBounds 1 (Value.ref h₁.objs.size))
  have he₃:=Heap.get?_update_self (Obj.mapFields (·.setIfInBounds 1 (Value.ref h₁.objs.size))) he₂ (Obj.isFreed_of_fields hd₃)
 ·refine f.move g he hd he₃ (Obj.cls_mapFields ..) ?_ hd₃ (by simp) (by rw [Array.getElem?_setIfInBounds_ne (by decide)]) (by rw [Array.getElem?_setIfInBounds_ne (by decide)]) ?_ ?_ (.inr ⟨h₁.objs.size,_,_,by simp [hsz1],.inr ?_,(Heap.get?_update_other _ _ (Ne.symm hTe)).trans (Heap.get?_push_size h₁ rfl),rfl,?_⟩)
  ·obtain ⟨c,dd,dt,sl⟩:=oe
   dsimp only at hd
   subst hd
   rfl
  ·intro b o q hF hbe _
   rw [Heap.get?_update_other _ _ (Ne.symm hbe)]
   exact Heap.get?_push_of_some _ ((hs₁.2.1 b (by rw [← f.amb.fsEq hA];exact hF)).trans q)
  ·rintro b hm m ⟨o,es,ep,ho,hdo,r⟩
   obtain ⟨sl,ho₁⟩:=hs₁.2.2 b o ho
   refine ⟨{ o with slots:=sl },es,ep,?_,hdo,r⟩
   rw [Heap.get?_update_other _ _ (fun z:e=b=>heF (by rw [← f.amb.fsEq hA,z];exact hm))]
   exact Heap.get?_push_of_some _ ho₁
  ·cases q:s.heap.get? h₁.objs.size with
   |none=>rfl
   |some o=>
    obtain ⟨sl,w⟩:=hs₁.2.2 _ o q
    exact absurd (Heap.lt_size w) (Nat.lt_irrefl _)
  ·simp only [List.size_toArray,List.length_append,List.length_cons,List.length_nil];exact linT fun q=>lin [_] [(1,0,.a (.a (.a (.a (.a (.a (.n 0) (.n 1)) (.n 1)) (.n 1)) (.n 1)) (.n 1)) (.v 0),.n 3)] rfl q
 ·exact ⟨_,_,h₁.objs.size,he₃,hd₃,by simp [hsz1]⟩
theorem Fx.tb_field (f:Fx X A FS lv FS1 HS hb e x s.heap):∃ oe vs,s.heap.get? e=some oe∧oe.data = .fields vs∧2<vs.size ∧
  (vs[1]?=some .none∨∃ T oT ts,vs[1]?=some (.ref T)∧s.heap.get? T=some oT∧oT.data = .fields ts∧3<ts.size∧T≠e):=by
 obtain ⟨_,_,d,sl,vs,f3,_,_,_,f9,_,f11⟩:=f.fly
 exact ⟨_,vs,f3,rfl,f9,f11.imp id fun ⟨T,oT,ts,w1,_,_,w4,_,w6,w7,w8⟩=>⟨T,oT,ts,w1,w6,w7,w8,w4⟩⟩
theorem setTb_ok {A₂:Around} {T:Addr} {oT:Obj} {ts vs:Array Value} {oe:Obj} {v:Value} {Q:Unit→Shared→Prop} (g:Gr X A FS lv FS1 hb) (f:Fx X A FS lv FS1 HS hb e x s.heap) (he:s.heap.get? e=some oe) (hd:oe.data = .fields vs)
  (h1:vs[1]?=some (.ref T)) (hT:s.heap.get? T=some oT) (hdT:oT.data = .fields ts) (h3:3<ts.size) (hTe:T≠e)
  (h:∀ h',Fx X A FS lv FS1 HS hb e x h'→Tb h' e→Q () { s with heap:=h' }):wpAny X.M A₂ (setField (.ref T) 3 v) Q E s:=by
 have he':(s.heap.update T (Obj.mapFields (·.setIfInBounds 3 v))).get? e=some oe:=(Heap.get?_update_other _ _ hTe).trans he
 refine wpAny_setField hT hdT h3 (h _ ?_ ⟨oe,vs,T,he',hd,h1⟩)
 refine f.move g he hd he' rfl rfl hd rfl rfl rfl (fun b o q _ _ n=>(Heap.get?_update_other _ _ (Ne.symm (n T h1))).trans q) (fun b hm m hn=>?_) (.inr ⟨T,_,_,h1,.inl h1,Heap.get?_update_self _ hT (Obj.isFreed_of_fields (Obj.data_mapFields hdT _)),Obj.data_mapFields hdT _,by simpa using h3⟩)
 obtain ⟨o,es,ep,ho,r⟩:=hn
 exact ⟨o,es,ep,(Heap.get?_update_other _ _ (fun z:T=b=>f.amb.notDict hT hdT (by rw [z];exact hm))).trans ho,r⟩
theorem noteFrame_ok {Q:Unit→Shared→Prop} (g:Gr X A FS lv FS1 hb) (hA:A.frames=some (env::l)) (hL:env.frame=some L) (f:Fx X A FS lv FS1 HS hb e x s.heap)
  (h:∀ h',Fx X A FS lv FS1 HS hb e x h'→Tb h' e→Q () { s with heap:=h' }):wpAny X.M A (noteFrame (.ref e) env) Q E s:=by
 obtain ⟨oe,vs,he,hd,hsz,hc⟩:=f.tb_field
 unfold noteFrame
 simp only [hL]
 rcases hc with h1 |⟨T,oT,ts,h1,hT,hdT,h3,hTe⟩
 ·refine wpAny_bind (wpAny_field he hd h1 ?_)
  rw [if_neg (by decide)]
  exact entry_ok g hA hL f h
 ·refine wpAny_bind (wpAny_field he hd h1 ?_)
  rw [if_pos (show (Value.ref T !=Value.none)=true from by simp)]
  obtain ⟨y,hy⟩:∃ y,ts[3]?=some y:=⟨ts[3],by simp [h3]⟩
  refine wpAny_bind (wpAny_field hT hdT hy ?_)
  by_cases hc:(y == rawInt L)=true
  ·rw [if_pos hc]
   exact wpAny_pure (h _ f ⟨oe,vs,T,he,hd,h1⟩)
  ·rw [if_neg hc]
   refine wpAny_bind (setTb_ok g f he hd h1 hT hdT h3 hTe fun h' f' _=>?_)
   exact entry_ok (s:={ s with heap:=h' }) g hA hL f' h
theorem setFlight_ok {A₂:Around} {fr:Option Addr} {Q:Unit→Shared→Prop} (g:Gr X A FS lv FS1 hb) (f:Fx X A FS lv FS1 HS hb e x s.heap)
  (h:∀ h',Fx X A FS lv FS1 HS hb e x h'→(Tb s.heap e→Tb h' e)→Q () { s with heap:=h' }):wpAny X.M A₂ (setFlight (.ref e) fr) Q E s:=by
 obtain ⟨oe,vs,he,hd,hsz,hc⟩:=f.tb_field
 unfold setFlight
 rcases hc with h1 |⟨T,oT,ts,h1,hT,hdT,h3,hTe⟩
 ·refine wpAny_bind (wpAny_field he hd h1 ?_)
  rw [if_neg (by decide)]
  exact wpAny_pure (h _ f id)
 ·refine wpAny_bind (wpAny_field he hd h1 ?_)
  rw [if_pos (show (Value.ref T !=Value.none)=true from by simp)]
  exact setTb_ok g f he hd h1 hT hdT h3 hTe fun h' f' t=>h h' f' fun _=>t
theorem leaving_ok {Q:Unit→Shared→Prop} (g:Gr X A FS lv FS1 hb) (hA:A.frames=some (env::l)) (hL:env.frame=some L) (f:Fx X A FS lv FS1 HS hb e x s.heap)
  (h:∀ h',Fx X A FS lv FS1 HS hb e x h'→Q () { s with heap:=h' }):wpAny X.M A (leaving env (.ref e)) Q E s:=by
 unfold leaving
 refine wpAny_bind (noteFrame_ok g hA hL f fun h' f' _=>?_)
 exact setFlight_ok (s:={ s with heap:=h' }) g f' fun h'' f'' _=>h h'' f''
theorem noted_ok (g:Gr X A FS lv FS1 hb) (hA:A.frames=some (env::l)) (hL:env.frame=some L) (f:Fx X A FS lv FS1 HS hb e x s.heap)
  (h:∀ h',Fx X A FS lv FS1 HS hb e x h'→Tb h' e→E (.ref e) { s with heap:=h' }):notedBy X.M A env E (.ref e) s:=noteFrame_ok g hA hL f h
theorem cameBack_ok (g:Gr X A FS lv FS1 hb) (f:Fx X A FS lv FS1 HS hb e x s.heap) (t:Tb s.heap e)
  (h:∀ h',Fx X A FS lv FS1 HS hb e x h'→Tb h' e→E (.ref e) { s with heap:=h' }):cameBackBy X.M A env E (.ref e) s:=by
 obtain ⟨oe,vs,T,he,hd,h1⟩:=id t
 unfold cameBackBy
 refine wpAny_bind (wpAny_field he hd h1 ?_)
 rw [if_neg (show ¬ ((Value.ref T == Value.none)=true) from by simp)]
 exact setFlight_ok g f fun h' f' k=>h h' f' (k t)
end
end Mine
end
section
open PySem PySem.W PyProof.Rows
set_option maxRecDepth 100000
namespace Mine
structure Ek (W:Addr→Prop) (fs:List Addr) (h h':Heap):Prop where
 keep:∀ b o,h.get? b=some o→¬ W b→h'.get? b=some o
 fr:∀ b ∈ fs,∀ m,h.Ns b m→h'.Ns b m
theorem Ek.refl (W:Addr→Prop) (fs:List Addr) (h:Heap):Ek W fs h h:=⟨fun _ _ e _=>e,fun _ _ _ e=>e⟩
theorem Ek.trans {W:Addr→Prop} {fs:List Addr} {h₁ h₂ h₃:Heap} (x:Ek W fs h₁ h₂) (y:Ek W fs h₂ h₃):Ek W fs h₁ h₃:=
 ⟨fun b o e n=>y.keep b o (x.keep b o e n) n,fun b hb m e=>y.fr b hb m (x.fr b hb m e)⟩
structure Sd (X:Cx) (A:Around) (env:Env) (L:Addr) (FS0:List Addr) (W:Addr→Prop) (nm:List Str) (s₀:Shared):Prop where
 frames:∃ l,A.frames=some (env::l)
 frame:env.frame=some L
 fs:∀ b ∈ FS0,W b
 new:W L∨s₀.heap.get? L=none
 off:L ∉ FS0
 nodup:nm.Nodup
 hand:∀ e,A.handled=some (.ref e)→∃ o,s₀.heap.get? e=some o∧¬ W e
structure OwnOK (X:Cx) (L:Addr) (HS0 HS W:Addr→Prop) (oa:Nat→Addr) (ρ:Loc) (s₀:Shared) (i:Nat):Prop where
 hid:HS (oa i)
 off:¬ HS0 (oa i)
 new:W (oa i)∨s₀.heap.get? (oa i)=none
 apart:∀ j ds,ρ[j]?=some (.own ds)→oa j=oa i→j=i
 base:X.B0.get? (oa i)=none
structure Sx (X:Cx) (A:Around) (env:Env) (L:Addr) (FS0:List Addr) (HS0 W:Addr→Prop) (sc:Sc) (nm:List Str) (k lv:Nat) (s₀:Shared) (HS:Addr→Prop) (oa:Nat→Addr) (ρ:Loc) (s:Shared):Prop where
 st:St X A env L (L::FS0) HS sc nm oa ρ k lv s.heap
 sub:∀ b,HS0 b→HS b
 own:∀ i ds,ρ[i]?=some (.own ds)→OwnOK X L HS0 HS W oa ρ s₀ i
 ek:Ek W FS0 s₀.heap s.heap
 same:Same s₀ s
 lim:∀ b,HS b→HS0 b∨b=L∨W b∨s₀.heap.get? b=none
noncomputable def FlowR (HS0:Addr→Prop) (h:Heap) (ρ:Loc):Out→Flow→Prop
 | .nxt ρ',.next=>ρ'=ρ
 | .brk ρ',.brk=>ρ'=ρ
 | .ret d,.ret v=>Rd HS0 h v d
 |_,_=>False
inductive FP (X:Cx) (A:Around) (env:Env) (L:Addr) (FS0:List Addr) (HS0 W:Addr→Prop) (sc:Sc) (nm:List Str) (k lv:Nat) (s₀:Shared) (Q:Out→Prop) (f:Flow) (s:Shared):Prop
 |mk (o:Out) (HS:Addr→Prop) (oa:Nat→Addr) (ρ:Loc) (a:Q o) (x:Sx X A env L FS0 HS0 W sc nm k lv s₀ HS oa ρ s) (r:FlowR HS0 s.heap ρ o f):FP X A env L FS0 HS0 W sc nm k lv s₀ Q f s
inductive XP (X:Cx) (A:Around) (L:Addr) (FS0:List Addr) (HS0:Addr→Prop) (lv:Nat) (s₀:Shared) (Q:Out→Prop) (v:Value) (s:Shared):Prop
 |mk (e:Addr) (x:Exc) (q:v = .ref e) (a:Q (.exc x)) (f:Fx X A (L::FS0) lv FS0 HS0 s₀.heap e x s.heap) (z:Same s₀ s):XP X A L FS0 HS0 lv s₀ Q v s
structure Rs (X:Cx) (A:Around) (L:Addr) (FS0:List Addr) (W:Addr→Prop) (lv:Nat) (s₀:Shared):Prop where
 gr:Gr X A (L::FS0) lv FS0 s₀.heap
 w:∀ b,W b→b ∈ FS0
 new:s₀.heap.get? L=none
section
variable {X:Cx} {A:Around} {env:Env} {L:Addr} {FS0:List Addr} {HS0 HS W:Addr→Prop} {sc:Sc} {nm:List Str} {k lv:Nat} {s₀ s s':Shared} {oa:Nat→Addr} {ρ:Loc} {Q:Out→Prop}
theorem Sx.ev (sd:Sd X A env L FS0 W nm s₀) (x:Sx X A env L FS0 HS0 W sc nm k lv s₀ HS oa ρ s) (y:Ev (L::FS0) s.heap s'.heap) (z:Same s s'):Sx X A env L FS0 HS0 W sc nm k lv s₀ HS oa ρ s':=by
 refine ⟨x.st.ev y,x.sub,x.own,⟨fun b o e n=>y.keep b o (x.ek.keep b o e n) fun hm=>?_,fun b hb m e=>y.fr b (.tail _ hb) m (x.ek.fr b hb m e)⟩,x.same.trans z,x.lim⟩
 rcases List.mem_cons.mp hm with rfl |hm
 ·rcases sd.new with w |w
  ·exact n w
  ·rw [w] at e;cases e
 ·exact n (sd.fs b hm)
theorem Sx.exc (sd:Sd X A env L FS0 W nm s₀) (hG:∀ x,Q (.exc x)→Rs X A L FS0 W lv s₀) (x:Sx X A env L FS0 HS0 W sc nm k lv s₀ HS oa ρ s) {v:Value} (e:EX X (L::FS0) HS lv s (fun x=>Q (.exc x)) v s') :
  XP X A L FS0 HS0 lv s₀ Q v s':=by
 obtain ⟨e,ex,rfl,hq,⟨f1,f2,d,sl,vs,f3,⟨f4,f5,f6⟩,⟨m,t,u,w,q1,q2,q3,q4,q5⟩,f8,f9,f10,f11⟩,y,z⟩:=e
 have g:=hG ex hq
 have none_:∀ b,s.heap.get? b=none→b ∉ L::FS0→s₀.heap.get? b=none:=fun b hb hn=>by
  cases q:s₀.heap.get? b with
  |none=>rfl
  |some o=>rw [x.ek.keep b o q fun hw=>hn (.tail _ (g.w b hw))] at hb;cases hb
 refine ⟨e,ex,rfl,hq,⟨x.st.amb.ev y,⟨none_ e f1 f2,f2,d,sl,vs,f3,⟨none_ d f4 f5,f5,f6⟩,⟨m,t,u,w,q1,q2,q3,q4,q5.hide fun b _ _ q=>x.sub b q⟩,f8,f9,f10,?_⟩,?_⟩,x.same.trans z⟩
 ·refine f11.imp id ?_
  rintro ⟨T,oT,ts,t1,t2,t3,t4,t5,t6,t7,t8⟩
  exact ⟨T,oT,ts,t1,none_ T t2 t3,t3,t4,t5,t6,t7,t8⟩
 ·have q:=(x.ev sd y z).ek
  exact ⟨fun b o e n=>q.keep b o e fun hw=>n (g.w b hw),q.fr⟩
end
end Mine
end
section
open PySem PySem.W PyProof.Rows
set_option maxRecDepth 100000
namespace Mine
section
variable {X:Cx} {A:Around} {env:Env} {L:Addr} {FS0:List Addr} {HS0 HS W:Addr→Prop} {sc:Sc} {nm:List Str} {k lv:Nat} {s₀ s s':Shared} {oa:Nat→Addr} {ρ:Loc} {Q:Out→Prop} {E:Value→Shared→Prop}
noncomputable def VR (X:Cx) (HS:Addr→Prop) (h:Heap) (v:Value):Val→Prop
 | .d d=>Rd HS h v d
 | .ex e=>∃ a,v = .ref a∧ExObj X HS h a e
 | .un=>True
 | .own _=>False
theorem ExObj.sameBut {h h':Heap} {a:Addr} {e:Exc} (hL:HS L) (hn:∃ m,h.Ns L m) (sb:Heap.SameBut L h h') (r:ExObj X HS h a e):ExObj X HS h' a e:=by
 obtain ⟨mL,hmL⟩:=hn
 obtain ⟨d,sl,vs,m',t,u,v,ho,hd,hn,h1,h2,h3,q⟩:=r
 have hne:a≠L:=by
  rintro rfl
  obtain ⟨es,ep,w⟩:=ns_notfields hmL ho
  cases w
 exact ⟨d,sl,vs,m',t,u,v,(sb.2 _ hne).trans ho,hd,hn.sameBut sb (by rintro rfl;exact hd hL),h1,h2,h3,q.mono (fun b o e n=>(sb.2 b (by rintro rfl;exact n hL)).trans e) fun _ _ _ q=>q⟩
theorem ValR.sameBut {h h':Heap} {m:Str→Option Value} {i:Nat} {x:Str} {o:Option Val} (hL:HS L) (hn:∃ m,h.Ns L m) (sb:Heap.SameBut L h h') (r:ValR X HS oa h m i x o):ValR X HS oa h' m i x o:=by
 rcases o with _ |(_ |d |ds |ex)
 ·trivial
 ·trivial
 ·obtain ⟨v,hv,q⟩:=r
  exact ⟨v,hv,q.mono (fun b o e n=>(sb.2 b (by rintro rfl;exact n hL)).trans e) fun _ _ _ q=>q⟩
 ·obtain ⟨hv,vs,n,ho,q⟩:=r
  obtain ⟨mL,hmL⟩:=hn
  have hne:oa i≠L:=by
   rintro z
   rw [z] at ho
   obtain ⟨es,ep,w⟩:=ns_notfields hmL ho
   cases w
  exact ⟨hv,vs,n,(sb.2 _ hne).trans ho,q.mono (fun b o e n=>(sb.2 b (by rintro rfl;exact n hL)).trans e) fun _ _ _ q=>q⟩
 ·obtain ⟨a',hv,r⟩:=r
  exact ⟨a',hv,r.sameBut hL hn sb⟩
theorem ValR.name {h:Heap} {m m':Str→Option Value} {i:Nat} {x:Str} {o:Option Val} (e:m' x=m x) (r:ValR X HS oa h m i x o):ValR X HS oa h m' i x o:=by
 rcases o with _ |(_ |d |ds |ex)
 ·trivial
 ·trivial
 ·obtain ⟨v,hv,q⟩:=r;exact ⟨v,e.trans hv,q⟩
 ·exact ⟨e.trans r.1,r.2⟩
 ·obtain ⟨v,hv,q⟩:=r;exact ⟨v,e.trans hv,q⟩
theorem Sx.base (x:Sx X A env L FS0 HS0 W sc nm k lv s₀ HS oa ρ s) (sd:Sd X A env L FS0 W nm s₀) {h':Heap} {m:Str→Option Value} (hn:h'.Ns L m) (sb:Heap.SameBut L s.heap h'):Amb X A (L::FS0) lv h'∧Ek W FS0 s₀.heap h':=by
 have hLn:∃ m,s.heap.Ns L m:=let ⟨m,hm,_⟩:=x.st.loc;⟨m,hm⟩
 refine ⟨⟨fun b o e=>(sb.2 b ?_).trans (x.st.amb.base b o e),?_,x.st.amb.hand.1,fun hl v hv=>?_,x.st.amb.hand.2.2⟩,⟨fun b o e n=>(sb.2 b ?_).trans (x.ek.keep b o e n),fun b hb m e=>(x.ek.fr b hb m e).sameBut sb ?_⟩⟩
 ·rintro rfl
  rw [(x.st.amb.fsNs (.head _)).1] at e;cases e
 ·obtain ⟨l,hA,hfs,hl⟩:=x.st.amb.frs
  refine ⟨l,hA,hfs,fun env he=>?_⟩
  obtain ⟨kk,L',hL',hn',m',hm'⟩:=hl env he
  refine ⟨kk,L',hL',hn',?_⟩
  by_cases z:L'=L
  ·rw [z];exact ⟨_,hn⟩
  ·exact ⟨m',hm'.sameBut sb z⟩
 ·obtain ⟨e,o,vs,rfl,he,hd,h2⟩:=x.st.amb.hand.2.1 hl v hv
  refine ⟨e,o,vs,rfl,(sb.2 e ?_).trans he,hd,h2⟩
  rintro rfl
  obtain ⟨mL,hmL⟩:=hLn
  obtain ⟨es,ep,w⟩:=ns_notfields hmL he
  rw [hd] at w;cases w
 ·rintro rfl
  rcases sd.new with w |w
  ·exact n w
  ·rw [w] at e;cases e
 ·rintro rfl
  exact sd.off hb
theorem Sx.set (sd:Sd X A env L FS0 W nm s₀) (x:Sx X A env L FS0 HS0 W sc nm k lv s₀ HS oa ρ s) {i:Nat} {y:Str} {nv:Val} {v:Value} {m:Str→Option Value} (hx:isL sc nm i y=true) (hv:VR X HS s.heap v nv)
  (hl:∀ i x,nm[i]?=some x→ValR X HS oa s.heap m i x ρ[i]?) {h':Heap} {tk:Nat} (hn:h'.Ns L (fun z=>if z=y then some v else m z)) (sb:Heap.SameBut L s.heap h') :
  Sx X A env L FS0 HS0 W sc nm k lv s₀ HS oa (ρ.set i nv) { s with heap:=h',toks:=tk }:=by
 obtain ⟨h1,h2,h3⟩:=isL_name hx
 have hHL:HS L:=x.st.hsf L (.head _)
 have hLn:∃ m,s.heap.Ns L m:=let ⟨m,hm,_⟩:=x.st.loc;⟨m,hm⟩
 have ⟨ba,be⟩:=x.base sd hn sb
 refine ⟨⟨ba,x.st.env,⟨_,hn,fun j z hz=>?_⟩,by rw [List.length_set];exact x.st.len,x.st.hsf,fun b hb=>?_,x.st.lhs,x.st.dep,x.st.uni,x.st.hsn⟩,x.sub,fun j ds hj=>?_,be,⟨x.same.1,x.same.2,x.same.3⟩,x.lim⟩
 ·by_cases hji:j=i
  ·subst hji
   rw [hz] at h1
   cases h1
   have hlt:j<ρ.length:=by rw [x.st.len];exact (List.getElem?_eq_some_iff.mp hz).1
   rw [List.getElem?_set_self hlt]
   cases nv with
   |un=>trivial
   |d dd=>exact ⟨v,by simp,hv.mono (fun b o e n=>(sb.2 b (by rintro rfl;exact n hHL)).trans e) fun _ _ _ q=>q⟩
   |own ds=>exact hv.elim
   |ex e=>obtain ⟨a,rfl,r⟩:=hv;exact ⟨a,by simp,r.sameBut hHL hLn sb⟩
  ·rw [List.getElem?_set_ne (Ne.symm hji)]
   have hzy:z≠y:=by
    rintro rfl
    obtain ⟨l1,e1⟩:=List.getElem?_eq_some_iff.mp hz
    exact hji ((List.getElem?_inj l1 sd.nodup).mp (hz.trans h1.symm))
   exact ((hl j z hz).name (by simp [hzy])).sameBut hHL hLn sb
 ·by_cases hbL:b=L
  ·subst hbL;obtain ⟨o,_,_,ho,_⟩:=hn;exact ⟨o,ho⟩
  ·obtain ⟨o,ho⟩:=x.st.hsb b hb;exact ⟨o,(sb.2 b hbL).trans ho⟩
 ·have hji:j≠i:=by
   rintro rfl
   have hlt:j<ρ.length:=by
    have:=(List.getElem?_eq_some_iff.mp hj).1
    rwa [List.length_set] at this
   rw [List.getElem?_set_self hlt] at hj
   cases hj;exact hv.elim
  rw [List.getElem?_set_ne (Ne.symm hji)] at hj
  obtain ⟨o1,o2,o3,o4,o5⟩:=x.own j ds hj
  refine ⟨o1,o2,o3,fun j' ds' hj'=>?_,o5⟩
  by_cases hj'i:j'=i
  ·subst hj'i
   have hlt:j'<ρ.length:=by
    have:=(List.getElem?_eq_some_iff.mp hj').1
    rwa [List.length_set] at this
   rw [List.getElem?_set_self hlt] at hj'
   cases hj';exact hv.elim
  ·rw [List.getElem?_set_ne (Ne.symm hj'i)] at hj'
   exact o4 j' ds' hj'
theorem St.kindF (st:St X A env L FS0 HS sc nm oa ρ k lv s.heap):(env.scope.kind == .class || (env.scope.kind == .module && env.locals !=env.globals))=false:=by rw [st.env.kind];rfl
theorem store_ok (sd:Sd X A env L FS0 W nm s₀) (x:Sx X A env L FS0 HS0 W sc nm k lv s₀ HS oa ρ s) {i:Nat} {y:Str} {nv:Val} {v:Value} {Q:Unit→Shared→Prop} (hx:isL sc nm i y=true) (hv:VR X HS s.heap v nv)
  (h:∀ s',Sx X A env L FS0 HS0 W sc nm k lv s₀ HS oa (ρ.set i nv) s'→Heap.SameBut L s.heap s'.heap→Q () s'):wpAny X.M A (storeName env y v) Q E s:=by
 obtain ⟨h1,h2,h3⟩:=isL_name hx
 obtain ⟨m,hm,hl⟩:=x.st.loc
 have hk:env.kindOf y=some .local:=by unfold Env.kindOf;rw [x.st.env.names];exact h2
 refine wpAny_storeName_local hk (by rw [x.st.env.loc];exact hm) (fun h' hn sb=>h _ (x.set sd hx hv hl (by rw [← x.st.env.loc];exact hn) (by rw [← x.st.env.loc];exact sb)) (by rw [← x.st.env.loc];exact sb)) x.st.kindF
end
end Mine
end
section
open PySem PySem.W PyProof.Rows
set_option maxRecDepth 100000
namespace Mine
section
variable {X:Cx} {Φ:Nat→List PyData→RR→Prop} {req:Nat→Nat} {A:Around} {env:Env} {L:Addr} {FS:List Addr} {HS:Addr→Prop} {sc:Sc} {nm:List Str} {oa:Nat→Addr} {ρ:Loc} {k lv:Nat}
variable (HN:NamesOK X) (HG:∀ f,f<k→req f≤lv→Contract X Φ f lv) {fI:Addr} (hR:raisedIn X.K X.rc fI=true)
theorem sp_idxO {i:Nat} {a:PE} (iha:SP X Φ req A env L FS HS sc nm oa ρ k lv a):SP X Φ req A env L FS HS sc nm oa ρ k lv (.idxO i a):=sp_of (fun hc st h=>by
 refine hid fun G hG=>?_
 obtain ⟨x,_,sl,_,rfl,hc⟩:=onSubN_inv hc
 replace hc:=and2 (and2 hc).2
 obtain ⟨ds,hd,h⟩:=atO_inv h
 refine hG ?_
 refine Subscript_ (localO_ok st hc.1 hd fun vs n ho r=>EP.bind (iha.e hc.2 st h) fun v₂ s₂ d₂ hq r₂ y₂ z₂=>?_)
 have ho₂:s₂.heap.get? (oa i)=some { cls := .type "list",data := .seq vs n }:=y₂.keep _ _ ho (st.amb.notFS ho fun _ _ q=>by cases q)
 refine hid fun G hG=>?_
 obtain ⟨_,t,e,q⟩:=intP.use r₂ hq
 obtain ⟨m,e',h2,q⟩:=natP_inv q
 obtain ⟨d,hd',q⟩:=onS_inv q
 obtain ⟨v,hv,rv⟩:=(r.ev y₂ st.hsf).get hd'
 refine hG ?_
 rw [e,e']
 exact tail_go (T:="list") ⟨_,ho₂,rfl⟩ F.slot_list_getitem.lookup (wpAny_getItem_list (x:=v) ⟨_,ho₂,rfl,_,rfl⟩ (Int.natCast_nonneg _) (lt63 h2) ((Array.getElem?_toList).symm.trans hv) (EP.back y₂ z₂ (.here q rv)))) fun _ hc=>onSub_vl hc
theorem localE_ok {x:Str} {i:Nat} {pos:Pos} {ex:Exc} {s:Shared} {Q E:Value→Shared→Prop} (st:St X A env L FS HS sc nm oa ρ k lv s.heap) (hx:isL sc nm i x=true) (hd:ρ[i]?=some (.ex ex))
  (h:∀ a,ExObj X HS s.heap a ex→Q (.ref a) s):wpAny X.M A (eval (.Name x pos) env) Q E s:=by
 refine local_ok st hx (fun m v _ r hv=>?_) fun m r=>?_
 ·rw [hd] at r
  obtain ⟨a,hv',r⟩:=r
  rw [hv] at hv'
  cases hv'
  exact h a r
 ·rw [hd] at r
  obtain ⟨a,hv',r⟩:=r
  exact ⟨_,hv'⟩
theorem handed_of {H:Addr→Prop} {h:Heap} {v:Value} {d:PyData} (r:Rd H h v d):handedOut v=pure v:=by cases r <;> rfl
theorem exAt_inv {n:Nat} {a:Str} (h:exAt n a=true):(n=0∧a="code")∨(n=1∧a="value")∨(n=2∧a="errorcode"):=by
 rcases n with _ |_ |_ |n
 ·exact .inl ⟨rfl,eq_of_beq h⟩
 ·exact .inr (.inl ⟨rfl,eq_of_beq h⟩)
 ·exact .inr (.inr ⟨rfl,eq_of_beq h⟩)
 ·cases h
include hR in
theorem sp_exA {i:Nat} {n:Nat}:SP X Φ req A env L FS HS sc nm oa ρ k lv (.exA i n):=sp_of (fun {e s Q Ee} hc st h=>by
 refine hid fun G hG=>?_
 obtain ⟨v,a,_,rfl,hc⟩:=onAttr_inv hc
 replace hc:=and2 hc
 obtain ⟨hat,hc⟩:=hc
 obtain ⟨x,_,rfl,hx⟩:=onName_inv hc
 obtain ⟨ex,hd,h⟩:=atE_inv h
 refine hG ?_
 refine Attribute_Name_ (localE_ok st hx hd fun a r=>?_)
 refine hid fun G hG=>?_
 obtain ⟨d,sl,vs,m,t,u,v,ho,hnd,hD,h1,h2,h3,q⟩:=r
 obtain ⟨rd,R⟩:=raised_of hR
 obtain ⟨hh,g,dr,tk,os⟩:=s
 refine hG ?_
 have hC:=st.amb.base _ _ R.obj
 have hN:=R.ns.keeps st.amb.base
 have q1:=R.quiet "__getattribute__" (by decide+kernel)
 have q2:=R.quiet "__getattr__" (by decide+kernel)
 rcases exAt_inv hat with ⟨e1,e2⟩ |⟨e1,e2⟩ |⟨e1,e2⟩
 ·rw [e2]
  rw [e1] at h
  exact exc_attr hC hN (R.quiet "code" (by decide+kernel)) q1 q2 lkn_code ho hD h1 rfl ⟨_,h,.int _ _,.refl _ _,⟨rfl,rfl,rfl⟩⟩
 ·rw [e2]
  rw [e1] at h
  exact exc_attr hC hN (R.quiet "value" (by decide+kernel)) q1 q2 lkn_value ho hD h2 rfl ⟨_,h,.str _ _,.refl _ _,⟨rfl,rfl,rfl⟩⟩
 ·rw [e2]
  rw [e1] at h
  exact exc_attr hC hN (R.quiet "errorcode" (by decide+kernel)) q1 q2 lkn_errorcode ho hD h3 (handed_of q) ⟨_,h,q,.refl _ _,⟨rfl,rfl,rfl⟩⟩) fun _ hc=>onAttr_vl hc
end
end Mine
end
section
open PySem PySem.W PyProof.Rows
set_option maxRecDepth 100000
namespace Mine
section
variable {X:Cx} {Φ:Nat→List PyData→RR→Prop} {req:Nat→Nat} {A:Around} {env:Env} {L:Addr} {FS:List Addr} {HS:Addr→Prop} {sc:Sc} {nm:List Str} {oa:Nat→Addr} {ρ:Loc} {k lv:Nat}
variable (HN:NamesOK X) (HG:∀ f,f<k→req f≤lv→Contract X Φ f lv) {fI:Addr} (hR:raisedIn X.K X.rc fI=true)
theorem unmarked_fold {e:Expr} (h:unmarked e=true) (env:Env) (x:Value):foldedSetIterable e env x=pure x:=by cases e <;> first |rfl |cases h
theorem Ev.but {fs:List Addr} {h₀ h h':Heap} {C:Addr} (x:Ev fs h₀ h) (sb:∀ b,b≠C→h'.get? b=h.get? b) (hn:h₀.get? C=Option.none) (hf:C ∉ fs):Ev fs h₀ h':=by
 refine ⟨fun b o e n=>(sb b fun q=>by rw [q,hn] at e;cases e).trans (x.keep b o e n),fun b hb m e=>?_⟩
 refine hid fun G hG=>?_
 obtain ⟨o,es,ep,ho,r⟩:=x.fr b hb m e
 refine hG ?_
 exact ⟨o,es,ep,(sb b fun q=>hf (q▸hb)).trans ho,r⟩
theorem tests_ok {sc':Sc} {x:Str} {cond:Option PE} {cs:List Expr} {ρ':Loc} {env':Env} {C:Addr} {HS':Addr→Prop} {s:Shared} {Qb:Bool→Prop} {E:Value→Shared→Prop} (ihc:∀ p,cond=some p→SP X Φ req A env' C FS HS' sc' [x] oa ρ' k lv p)
  (hc:chkF X.fn sc' [x] cond cs=true) (st:St X A env' C FS HS' sc' [x] oa ρ' k lv s.heap) (h:PE.wpc Φ req k lv cond ρ' Qb) :
  wpAny X.M A (forIn cs true fun c r=>if r=true then do let ok ← isTrue c env' (eval c env');pure (ForInStep.yield ok) else pure (ForInStep.yield r)) (TP FS s Qb) E s:=by
 cases cond with
 |none=>
  obtain rfl:=nil_of hc
  exact wpAny_pure ⟨h,.refl _ _,.refl _⟩
 |some p=>
  obtain ⟨e,rfl,hc⟩:=on1_inv hc
  simp only [List.forIn_cons,if_true]
  refine wpAny_bind (wpAny_bind (wpAny_mono ((ihc p rfl).t hc st h) (fun b s₁ q=>wpAny_pure (wpAny_pure q)) fun _ _ q=>?_))
  refine hid fun G hG=>?_
  obtain ⟨_,_,_,q,_⟩:=q
  refine hG ?_
  exact q.elim
theorem lookup_mem {β:Type} {l:List (Str × β)} {x:Str} {v:β} (h:l.lookup x=some v):(x,v) ∈ l:=by
 induction l with
 |nil=>cases h
 |cons p l ih=>
  rw [List.lookup_cons] at h
  cases hxy:x == p.1 with
  |true=>
   rw [hxy] at h
   rw [beq_iff_eq.mp hxy,← Option.some.inj h]
   exact .head _
  |false=>
   rw [hxy] at h
   exact .tail _ (ih h)
theorem compEnv_ok {sc':Scope} {C:Addr} {h:Heap} (st:St X A env L FS HS sc nm oa ρ k lv h) (hk:sc'.kind = .function) (hnc:∀ y ∈ sc'.names,y.2 ≠ .cell):EnvOK X (compEnv sc' C env) C sc'.names:=⟨hk,rfl,rfl,st.env.glob,st.env.bi,fun q=>absurd rfl (hnc _ (lookup_mem q))⟩
theorem comp_loop_ok {elt:PE} {cond:Option PE} {e' i':Expr} {x:Str} {px pos:Pos} {cs:List Expr} {sc':Scope} {s₁ s:Shared} {T I D C:Addr} {dd:Option Addr} {items:Array Value} {nn:Nat} {sl:Array (Option Value)} {xs:List PyData} {m:Str→Option Value} {Q:PyData→Prop} {R:Result→Shared→Prop}
  (ihelt:∀ {env L HS sc nm oa ρ},SP X Φ req A env L FS HS sc nm oa ρ k lv elt) (ihc:∀ p,cond=some p→∀ {env L HS sc nm oa ρ},SP X Φ req A env L FS HS sc nm oa ρ k lv p)
  (st₁:St X A env L FS HS sc nm oa ρ k lv s₁.heap) (hlv:1≤lv) (hx:isL sc'.names [x] 0 x=true) (he:chkE X.fn sc'.names [x] elt e'=true) (hF:chkF X.fn sc'.names [x] cond cs=true) (hkind:sc'.kind = .function) (hnc:∀ y ∈ sc'.names,y.2 ≠ .cell)
  (nI:s₁.heap.get? I=none) (nD:s₁.heap.get? D=none) (nC:s₁.heap.get? C=none) (dDI:D≠I) (dDC:D≠C) (dIC:I≠C)
  (ho:s₁.heap.get? T=some ⟨.type "tuple",dd,.seq items nn,sl⟩) (hnT:¬ HS T) (rs:RdAll HS s₁.heap items.toList xs) (hlim:xs.length≤lim)
  (hev:Ev FS s₁.heap s.heap) (hsame:Same s₁ s) (hit:s.heap.IsTupleIter I T 0) (hacc:s.heap.IsList D #[]) (hn:s.heap.Ns C m)
  (hW:compW (fun x Q=>PE.wp Φ req k lv elt [.d x] Q fun _=>False) (fun x Q=>PE.wpc Φ req k lv cond [.d x] Q) xs [] Q)
  (hR:∀ s' ys acc m,s'.heap.Ns C m→s'.heap.IsList D ys→RdAll (fun b=>HS b∨b=C∨b=D) s'.heap ys.toList acc→Ev FS s₁.heap s'.heap→Same s₁ s'→Q (.list acc)→acc.length≤lim→R (.ok .next) s') :
  codeAny X.M A (.compLoop (.ListComp e' [⟨.Name x px,i',cs,0⟩] sc' pos) 0 (.ref I) (.ref D) (compEnv sc' C env)) R s:=by
 have fresh:∀ b,s₁.heap.get? b=none→b ∉ FS∧¬ HS b:=fun b hb=>by
  refine ⟨fun hm=>?_,st₁.new hb⟩
  refine hid fun G hG=>?_
  obtain ⟨_,m,o,_,_,ho',_⟩:=st₁.amb.fsNs hm
  refine hG ?_
  rw [hb] at ho';cases ho'
 have hTI:T≠I:=fun q=>by rw [q,nI] at ho;cases ho
 have hTC:T≠C:=fun q=>by rw [q,nC] at ho;cases ho
 have hTD:T≠D:=fun q=>by rw [q,nD] at ho;cases ho
 have hlen:items.size=xs.length:=by have:=rs.length;rwa [Array.length_toList] at this
 have hx':=isL_name hx
 have hkx:(compEnv sc' C env).kindOf x=some .local:=by unfold Env.kindOf;exact hx'.2.1
 have W:=walksTuple (prog:=X.prog) (w:=X.w) (A:=A) I T hTI items
 have hTF:T ∉ FS:=st₁.amb.notFS ho fun _ _ q=>by cases q
 have inner:∀ {s₂:Shared} {v:Value} {d:PyData} {mm:Str→Option Value},Ev FS s₁.heap s₂.heap→s₂.heap.Ns C mm→mm x=some v→Rd HS s₁.heap v d→(∃ o,s₂.heap.get? D=some o) →
   St X A (compEnv sc' C env) C FS (fun b=>HS b∨b=C∨b=D) sc'.names [x] oa [.d d] k lv s₂.heap:=by
  intro s₂ v d mm y hn hm r hD
  refine ⟨st₁.amb.ev y,compEnv_ok st₁ hkind hnc,⟨mm,hn,fun i z hz=>?_⟩,rfl,fun b hb => .inl (st₁.hsf b hb),fun b hb=>?_,.inr (.inl rfl),st₁.dep,st₁.uni,fun b hb=>?_⟩
  ·cases i with
   |zero=>
    cases hz
    refine ⟨v,hm,r.monoS (fun b o _ _ e _ n=>y.keep b o e fun hm=>n (st₁.hsf b hm)) fun b o _ _ e _ q=>?_⟩
    rcases q with q |rfl |rfl
    ·exact q
    ·rw [nC] at e;cases e
    ·rw [nD] at e;cases e
   |succ i=>cases hz
  ·rcases hb with hb |rfl |rfl
   ·exact ex_ev st₁.amb y (st₁.hsb b hb)
   ·obtain ⟨o,_,_,ho,_⟩:=hn;exact ⟨o,ho⟩
   ·exact hD
  ·have nB:∀ b,s₁.heap.get? b=none→X.B0.get? b=none:=fun b q=>by
    cases q':X.B0.get? b with
    |none=>rfl
    |some o=>rw [st₁.amb.base _ _ q'] at q;cases q
   rcases hb with hb |rfl |rfl
   ·exact st₁.hsn b hb
   ·exact nB _ nC
   ·exact nB _ nD
 refine codeAny_compLoop_tests (fun n s'=>∃ i ys acc m',n=items.size+1 - i∧i≤items.size∧(s'.heap.IsTupleIter I T i∧s'.heap.IsTuple T items∧HandOK A.handled s'.heap)∧s'.heap.IsList D ys ∧
   RdAll (fun b=>HS b∨b=C∨b=D) s'.heap ys.toList acc∧s'.heap.Ns C m'∧Ev FS s₁.heap s'.heap∧Same s₁ s' ∧
   compW (fun x Q=>PE.wp Φ req k lv elt [.d x] Q fun _=>False) (fun x Q=>PE.wpc Φ req k lv cond [.d x] Q) (xs.drop i) acc Q) ?_ (items.size+1)
  ⟨0,#[],[],m,rfl,Nat.zero_le _,⟨hit,⟨_,hev.keep _ _ ho hTF,rfl,_,rfl⟩,(st₁.amb.ev hev).handOK hlv⟩,hacc,.nil,hn,hev,hsame,hW⟩
 rintro n' s' ⟨i,ys,acc,m',rfl,hi,hSt,hacc',hr',hn',y',z',hW'⟩
 by_cases hlt:i<items.size
 ·refine W.item i s' _ _ hlt hSt fun v h₂ tk₂ hv hSt₂ hk₂=>?_
  have hlt':i<xs.length:=by exact linT fun q=>lin [_,_,_] [(1,1,.v 0,.v 1),(1,0,.a (.v 2) (.n 1),.v 0),(1,0,.v 1,.v 2)] rfl hlen hlt q
  refine hid fun G hG=>?_
  obtain ⟨d,hd⟩:∃ d,xs[i]?=some d:=⟨xs[i],by simp [hlt']⟩
  obtain ⟨v',hv',rv⟩:=rs.get hd
  refine hG ?_
  have hvl:items.toList[i]?=some v:=by simpa using hv
  rw [hvl] at hv'
  cases hv'
  rw [List.drop_eq_getElem_cons hlt'] at hW'
  have hdd:xs[i]=d:=by simpa [hlt'] using hd
  rw [hdd] at hW'
  obtain ⟨hal,hW'⟩:=hW'
  have hne:∀ b,b≠I→b ∉ [I]:=fun b hb q=>hb (by simpa using q)
  have ky:Ev FS s₁.heap h₂:=⟨fun b o e n=>hk₂ b o (hne b fun q=>by rw [q,nI] at e;cases e) (y'.keep b o e n),fun b hb mm e=>by
   refine hid fun G hG=>?_
   obtain ⟨o,es,ep,ho',r⟩:=y'.fr b hb mm e
   refine hG ?_
   exact ⟨o,es,ep,hk₂ b o (hne b fun q=>(fresh I nI).1 (q▸hb)) ho',r⟩⟩
  have hn₂:h₂.Ns C m':=by obtain ⟨o,es,ep,ho',r⟩:=hn';exact ⟨o,es,ep,hk₂ C o (hne C (Ne.symm dIC)) ho',r⟩
  refine wpAny_assign_Name (wpAny_storeName_local hkx hn₂ (fun h₃ hn₃ sb₃=>?_) (by show (sc'.kind == .class || (sc'.kind == .module && _))=false;rw [hkind];rfl))
  have sb₃':∀ b,b≠C→h₃.get? b=h₂.get? b:=sb₃.2
  have ky₃:Ev FS s₁.heap h₃:=ky.but sb₃' nC (fresh C nC).1
  refine hid fun G hG=>?_
  obtain ⟨oD,hoD,hcD,nD',hdD⟩:=hacc'
  refine hG ?_
  have hoD₃:h₃.get? D=some oD:=(sb₃' D dDC).trans (hk₂ D oD (hne D dDI) hoD)
  have hr₃:RdAll (fun b=>HS b∨b=C∨b=D) h₃ ys.toList acc:=hr'.monoS (fun b o vs nn e hs hb=>(sb₃' b fun q=>hb (.inr (.inl q))).trans (hk₂ b o (hne b fun q=>by
   refine hid fun G hG=>?_
   obtain ⟨oI,hoI,_,hdI⟩:=hSt.1
   refine hG ?_
   rw [q,hoI] at e;cases e;rw [hdI] at hs;cases hs) e)) fun _ _ _ _ _ _ q=>q
  have stI:=inner (s₂:={ s' with heap:=h₃,toks:=tk₂+1 }) ky₃ hn₃ (v:=v) (d:=d) (by show (if x=x then some v else m' x)=some v;simp) rv ⟨oD,hoD₃⟩
  have facts:∀ hx:Heap,Ev FS h₃ hx→(hx.IsTupleIter I T (i+1)∧hx.IsTuple T items∧HandOK A.handled hx)∧hx.get? D=some oD∧RdAll (fun b=>HS b∨b=C∨b=D) hx ys.toList acc∧(∃ m,hx.Ns C m)∧Ev FS s₁.heap hx:=fun hx y=>by
   have yy:=ky₃.trans y
   refine hid fun G hG=>?_
   obtain ⟨oI,hoI,rI⟩:=hSt₂.1
   obtain ⟨oC,es,ep,hoC,rC⟩:=hn₃
   refine hG ?_
   exact ⟨⟨⟨oI,y.keep I oI ((sb₃' I dIC).trans hoI) (fresh I nI).1,rI⟩,⟨_,yy.keep _ _ ho hTF,rfl,_,rfl⟩,(st₁.amb.ev yy).handOK hlv⟩,y.keep D oD hoD₃ (fresh D nD).1,hr₃.ev y fun b hb => .inl (st₁.hsf b hb),
    ⟨_,oC,es,ep,y.keep C oC hoC (fresh C nC).1,rC⟩,yy⟩
  refine wpAny_mono (tests_ok (E:=notedBy (model X.prog X.w) A (compEnv sc' C env) fun e s'=>R (.error e) s') (fun p hp=>ihc p hp) hF stI hW') ?_ fun _ _ e=>e
  rintro ok s₃ ⟨hq,y₃,z₃⟩
  refine hid fun G hG=>?_
  obtain ⟨f1,f2,f3,⟨m₃,f4⟩,f5⟩:=facts _ y₃
  refine hG ?_
  have zz:Same s₁ s₃:=z'.trans ((Same.mk' s' h₃ _).trans z₃)
  cases ok with
  |false=>
   simp only [Bool.false_eq_true,if_false]
   exact ⟨_,by exact linT fun q=>lin [_,_,_,_] [(1,1,.a (.v 0) (.a (.v 1) (.n 1)),.a (.v 2) (.n 1)),(1,2,.a (.v 3) (.v 1),.a (.v 2) (.n 1)),(1,0,.v 3,.v 0)] rfl (Nat.sub_add_cancel (linL fun q=>lin [_,_] [(1,0,.a (.v 0) (.n 1),.v 1),(1,0,.a (.a (.v 1) (.n 1)) (.n 1),.a (.v 0) (.n 1))] rfl hlt q)) (Nat.sub_add_cancel (linL fun q=>lin [_,_] [(1,0,.a (.v 0) (.n 1),.v 1),(1,0,.a (.a (.v 1) (.n 1)) (.n 1),.v 0)] rfl hlt q)) q,i+1,ys,acc,m₃,rfl,by exact linL fun q=>lin [_,_] [(1,0,.a (.v 0) (.n 1),.v 1),(1,0,.a (.v 1) (.n 1),.a (.v 0) (.n 1))] rfl hlt q,f1,⟨oD,f2,hcD,nD',hdD⟩,f3,f4,f5,zz,hq⟩
  |true=>
   simp only [if_true]
   refine wpAny_mono (ihelt.e he (stI.ev y₃) hq) ?_ fun _ _ e=>?_
   ·rintro yv s₄ ⟨dy,hq₄,ry,y₄,z₄⟩
    refine hid fun G hG=>?_
    obtain ⟨g1,g2,g3,⟨m₄,g4⟩,g5⟩:=facts _ (y₃.trans y₄)
    refine hG ?_
    have hysz:ys.size≤sizeLine:=by
     have:=g3.length
     rw [Array.length_toList] at this
     unfold lim at hal
     rw [sizeLine_eq]
     exact linL fun q=>lin [_,_] [(1,0,.v 0,.n 1048576),(1,1,.v 1,.v 0),(1,0,.a (.n 16777216) (.n 1),.v 1)] rfl hal this q
    refine wpAny_list_append (hsz:=hysz) ⟨oD,g2,hcD,nD',hdD⟩ fun h₅ hl₅ sb₅=>?_
    have sb₅':∀ b,b≠D→h₅.get? b=s₄.heap.get? b:=sb₅.2
    obtain ⟨oI,hoI,rI⟩:=g1.1
    refine ⟨_,by exact linT fun q=>lin [_,_,_,_] [(1,1,.a (.v 0) (.a (.v 1) (.n 1)),.a (.v 2) (.n 1)),(1,2,.a (.v 3) (.v 1),.a (.v 2) (.n 1)),(1,0,.v 3,.v 0)] rfl (Nat.sub_add_cancel (linL fun q=>lin [_,_] [(1,0,.a (.v 0) (.n 1),.v 1),(1,0,.a (.a (.v 1) (.n 1)) (.n 1),.a (.v 0) (.n 1))] rfl hlt q)) (Nat.sub_add_cancel (linL fun q=>lin [_,_] [(1,0,.a (.v 0) (.n 1),.v 1),(1,0,.a (.a (.v 1) (.n 1)) (.n 1),.v 0)] rfl hlt q)) q,i+1,ys.push yv,acc++[dy],m₄,rfl,by exact linL fun q=>lin [_,_] [(1,0,.a (.v 0) (.n 1),.v 1),(1,0,.a (.v 1) (.n 1),.a (.v 0) (.n 1))] rfl hlt q,⟨⟨oI,(sb₅' I (Ne.symm dDI)).trans hoI,rI⟩,?_,?_⟩,hl₅,?_,?_,g5.but sb₅' nD (fresh D nD).1,(zz.trans z₄).trans (Same.mk' s₄ h₅ _),hq₄⟩
    ·obtain ⟨oT,hoT,rT⟩:=g1.2.1
     exact ⟨oT,(sb₅' T hTD).trans hoT,rT⟩
    ·exact (st₁.amb.ev (g5.but sb₅' nD (fresh D nD).1)).handOK hlv
    ·have hk5:∀ b o vs n,s₄.heap.get? b=some o→o.data = .seq vs n→¬ (HS b∨b=C∨b=D)→h₅.get? b=some o:=fun b o _ _ e _ n=>(sb₅' b fun q=>n (.inr (.inr q))).trans e
     rw [Array.toList_push]
     exact (g3.monoS hk5 fun _ _ _ _ _ _ q=>q).append (.cons (ry.monoS hk5 fun _ _ _ _ _ _ q=>q) .nil)
    ·refine hid fun G hG=>?_
     obtain ⟨oC,es,ep,hoC,rC⟩:=g4
     refine hG ?_
     exact ⟨oC,es,ep,(sb₅' C (Ne.symm dDC)).trans hoC,rC⟩
   ·refine hid fun G hG=>?_
    obtain ⟨_,_,_,q,_⟩:=e
    refine hG ?_
    exact q.elim
 ·obtain rfl:i=items.size:=by exact linE (fun q=>lin [_,_] [(1,0,.v 0,.v 1),(1,0,.a (.v 1) (.n 1),.v 0)] rfl hi q) fun q=>lin [_,_] [(1,0,.v 0,.v 1),(1,0,.a (.v 1) (.n 1),.v 0)] rfl (Nat.le_of_not_lt hlt) q
  have hdrop:xs.drop items.size=[]:=List.drop_eq_nil_of_le (by exact linL fun q=>lin [_,_] [(1,2,.v 0,.v 1),(1,0,.a (.v 0) (.n 1),.v 1)] rfl hlen q)
  rw [hdrop] at hW'
  refine W.done s' _ _ hSt fun h₂ tk₂ hk₂=>?_
  have hne:∀ b,b≠I→b ∉ [I]:=fun b hb q=>hb (by simpa using q)
  refine hid fun G hG=>?_
  obtain ⟨oD,hoD,rD⟩:=hacc'
  obtain ⟨oC,es,ep,hoC,rC⟩:=hn'
  refine hG ?_
  refine hR { s' with heap:=h₂,toks:=tk₂ } ys acc m' ⟨oC,es,ep,hk₂ C oC (hne C (Ne.symm dIC)) hoC,rC⟩ ⟨oD,hk₂ D oD (hne D dDI) hoD,rD⟩ (hr'.monoS (fun b o vs nn e hs hb=>hk₂ b o (hne b fun q=>by
   refine hid fun G hG=>?_
   obtain ⟨oI,hoI,_,hdI⟩:=hSt.1
   refine hG ?_
   rw [q,hoI] at e;cases e;rw [hdI] at hs;cases hs) e) fun _ _ _ _ _ _ q=>q) ⟨fun b o e n=>hk₂ b o (hne b fun q=>by rw [q,nI] at e;cases e) (y'.keep b o e n),fun b hb mm e=>?_⟩ (z'.trans (Same.mk' s' h₂ _)) hW'.2 hW'.1
  refine hid fun G hG=>?_
  obtain ⟨o,es,ep,ho',r⟩:=y'.fr b hb mm e
  refine hG ?_
  exact ⟨o,es,ep,hk₂ b o (hne b fun q=>(fresh I nI).1 (q▸hb)) ho',r⟩
theorem sp_comp {elt it:PE} {cond:Option PE} (ihit:SP X Φ req A env L FS HS sc nm oa ρ k lv it) (ihelt:∀ {env L HS sc nm oa ρ},SP X Φ req A env L FS HS sc nm oa ρ k lv elt)
  (ihc:∀ p,cond=some p→∀ {env L HS sc nm oa ρ},SP X Φ req A env L FS HS sc nm oa ρ k lv p):SP X Φ req A env L FS HS sc nm oa ρ k lv (.comp elt it cond):=sp_of (fun {e s Q Ee} hc st h=>by
    refine hid fun G hG=>?_
    obtain ⟨e',gs,sc',pos,rfl,hc⟩:=onLC_inv hc
    obtain ⟨⟨tg,i',cs,asy⟩,rfl,hc⟩:=on1_inv hc
    obtain ⟨ha,hc⟩:=and2 hc
    obtain rfl:=eq_of_beq ha
    obtain ⟨x,px,e₁,hc⟩:=onName_inv hc
    obtain rfl:tg=_:=e₁
    obtain ⟨hi,hc⟩:=and2 hc
    obtain ⟨hu,hc⟩:=and2 hc
    obtain ⟨hx,hc⟩:=and2 hc
    obtain ⟨he,hc⟩:=and2 hc
    obtain ⟨hF,hc⟩:=and2 hc
    obtain ⟨hkind,hc⟩:=and2 hc
    replace hkind:=eq_of_beq hkind
    obtain ⟨hgen,hc⟩:=and2 hc
    obtain ⟨hco,hc⟩:=and2 hc
    obtain ⟨hall,hloc⟩:=and2 hc
    replace hall:∀ y ∈ sc'.names,y.2 ≠ .cell∧y.2 ≠ .free:=fun y hy=>let ⟨a,b⟩:=and2 (List.all_eq_true.mp hall y hy);⟨bne_iff_ne.mp a,bne_iff_ne.mp b⟩
    replace hloc:=List.all_eq_true.mp hloc
    obtain ⟨hlv,h⟩:=h
    refine hG ?_
    have hx':=isL_name hx
    have hnames:∀ y ∈ sc'.names,y.2 = .local→sc'.names.lookup y.1=some .local:=fun y hy hl=>by
     have:=hloc y hy
     rw [hl] at this
     exact eq_of_beq this
    refine wpAny_ListComp (fun y hy=>(hall y hy).2) hkind hnames (wpAny_mono (ihit.e hi st h) ?_ fun _ _ e=>e) (unmarked_fold hu env)
    rintro v s₁ ⟨d,hq,r,y,z⟩
    refine hid fun G hG=>?_
    obtain ⟨xs,⟨T,dd,vs,nn,sl,e₂,ho,hnT,rs⟩,hlim,hq⟩:=tupP.use r hq
    refine hG ?_
    rw [e₂]
    have st₁:=st.ev y
    refine wpAny_pyIter_tuple ⟨_,ho,rfl,_,rfl⟩ (wpAny_newObj_type (hd:=by size_fits) (wpAny_newFunctionEnv (fun y hy=>(hall y hy).1) (by intro y hy;simp at hy) (fun h₁ hns₁ hsb₁=>?_) hkind))
    dsimp only at hns₁ hsb₁ ⊢
    have hT:T<s₁.heap.objs.size:=Heap.lt_size ho
    generalize hH1:s₁.heap.push { cls := .type "tuple_iterator",data := .fields #[.ref T,.int 0 0] }=H1 at hns₁ hsb₁ ⊢
    have hD:H1.objs.size=s₁.heap.objs.size+1:=by rw [← hH1,Heap.size_push]
    generalize hH2:H1.push { cls := .type "list",dict:=none,data := .seq ([]:List Value).toArray }=H2 at hns₁ hsb₁ ⊢
    have hC:H2.objs.size=s₁.heap.objs.size+2:=by rw [← hH2,Heap.size_push,hD]
    have k1:∀ b o,s₁.heap.get? b=some o→H1.get? b=some o:=fun b o e=>hH1▸Heap.get?_push_of_some _ e
    have k2:∀ b o,H1.get? b=some o→H2.get? b=some o:=fun b o e=>hH2▸Heap.get?_push_of_some _ e
    have hI1:H1.get? s₁.heap.objs.size=some { cls := .type "tuple_iterator",data := .fields #[.ref T,.int 0 0] }:=hH1▸Heap.get?_push_size _ rfl
    have hD2:H2.get? H1.objs.size=some { cls := .type "list",dict:=none,data := .seq ([]:List Value).toArray }:=hH2▸Heap.get?_push_size _ rfl
    have k3:∀ b o,H2.get? b=some o→h₁.get? b=some o:=fun b o e=>hsb₁.extBut b o (Nat.ne_of_lt (Heap.lt_size e)) (Heap.get?_push_of_some _ e)
    have nI:s₁.heap.get? s₁.heap.objs.size=Option.none:=Heap.get?_none_of_le (Nat.le_refl _)
    have nD:s₁.heap.get? H1.objs.size=Option.none:=Heap.get?_none_of_le (by rw [hD];exact Nat.le_succ _)
    have nC:s₁.heap.get? H2.objs.size=Option.none:=Heap.get?_none_of_le (by rw [hC];exact Nat.le_add_right _ _)
    have dDI:H1.objs.size≠s₁.heap.objs.size:=by rw [hD];exact Nat.succ_ne_self _
    have dDC:H1.objs.size≠H2.objs.size:=by rw [hD,hC];exact Nat.ne_of_lt (Nat.lt_succ_self _)
    have dIC:s₁.heap.objs.size≠H2.objs.size:=by rw [hC];exact Nat.ne_of_lt (Nat.lt_succ_of_lt (Nat.lt_succ_self _))
    have fresh:∀ b,s₁.heap.get? b=Option.none→b ∉ FS∧¬ HS b:=fun b hb=>by
     refine ⟨fun hm=>?_,st₁.new hb⟩
     refine hid fun G hG=>?_
     obtain ⟨_,m,o,_,_,ho',_⟩:=st₁.amb.fsNs hm
     refine hG ?_
     rw [hb] at ho';cases ho'
    have hit:h₁.IsTupleIter s₁.heap.objs.size T 0:=⟨_,k3 _ _ (k2 _ _ hI1),rfl,rfl⟩
    have hacc:h₁.IsList H1.objs.size #[]:=⟨_,k3 _ _ hD2,rfl,_,rfl⟩
    have kk:∀ b o,s₁.heap.get? b=some o→h₁.get? b=some o:=fun b o e=>k3 b o (k2 b o (k1 b o e))
    have loop:∀ s₂:Shared,s₂={ s₁ with heap:=h₁,toks:=s₁.toks+([]:List (Str × Value)).length } →
      codeAny X.M A (.compLoop (.ListComp e' [⟨.Name x px,i',cs,0⟩] sc' pos) 0 (.ref s₁.heap.objs.size) (.ref H1.objs.size) (compEnv sc' H2.objs.size env))
       (fun r s'=>∃ m,s'.heap.Ns H2.objs.size m∧∀ h',Heap.SameBut H2.objs.size s'.heap h' →
         match r with | .ok _=>EP FS HS s Q (.ref H1.objs.size) { s' with heap:=h' } | .error x=>wpAny X.M A (passOn "comprehension.variables-let-go" x (compEnv sc' H2.objs.size env)) (EP FS HS s Q) (EX X FS HS lv s Ee) { s' with heap:=h' }) s₂:=by
     rintro s₂ rfl
     refine comp_loop_ok (fun {_ _ _ _ _ _ _}=>ihelt) (fun p hp {_ _ _ _ _ _ _}=>ihc p hp) st₁ hlv hx he hF hkind (fun y hy=>(hall y hy).1) nI nD nC dDI dDC dIC ho hnT rs hlim (Ev.of_keeps kk) (Same.mk' s₁ h₁ _) hit hacc hns₁ hq fun s' ys acc m hn' hl' hr' y' z' hq' hlen=>?_
     refine ⟨m,hn',fun h' sb=>?_⟩
     have sb':∀ b,b≠H2.objs.size→h'.get? b=s'.heap.get? b:=sb.2
     refine hid fun G hG=>?_
     obtain ⟨oD,hoD,hcD,nD',hdD⟩:=hl'
     refine hG ?_
     refine ⟨.list acc,hq',?_,y.trans (y'.but sb' nC (fresh _ nC).1),z.trans (z'.trans (Same.mk' s' h' _))⟩
     refine hid fun G hG=>?_
     obtain ⟨cD,ddD,dtD,slD⟩:=oD
     refine hG ?_
     dsimp only at hcD hdD
     subst hcD hdD
     refine .list ((sb' _ dDC).trans hoD) (fresh _ nD).2 (hr'.monoS (fun b o _ _ e _ n=>(sb' b fun q=>n (.inr (.inl q))).trans e) fun _ _ _ _ _ _ q => .inl q)
    exact codeAny_compStart_list (loop _ rfl) ((walksTuple (prog:=X.prog) (w:=X.w) (A:=A) s₁.heap.objs.size T (fun q=>by rw [q,nI] at ho;cases ho) vs).self 0 _ _ _ ⟨hit,⟨_,kk _ _ ho,rfl,_,rfl⟩,(st₁.amb.ev (Ev.of_keeps kk)).handOK hlv⟩ (loop _ rfl))) fun _ hc=>onLC_vl hc
end
end Mine
end
section
open PySem PySem.W PyProof.Rows
set_option maxRecDepth 100000
namespace Mine
section
variable {X:Cx} {Φ:Nat→List PyData→RR→Prop} {req:Nat→Nat} {A:Around} {env:Env} {L:Addr} {FS:List Addr} {HS:Addr→Prop} {sc:Sc} {nm:List Str} {oa:Nat→Addr} {ρ:Loc} {k lv:Nat}
theorem cell_ok {x:Str} {pos:Pos} {s:Shared} {Q E:Value→Shared→Prop} (st:St X A env L FS HS sc nm oa ρ k lv s.heap) (hx:(x == ("pieces":Str))=true) (hc:(sc.lookup x == some .cell)=true) (ho:okN x=true)
  (h:∀ p vs n,X.B0.get? p=some { cls := .type "list",data := .seq vs n }→(∀ (i:Nat) (t:List Nat),pieces[i]?=some t→∃ u:Tok,vs[i]?=some (Value.str (S t) u))→Q (.ref p) s) :
  wpAny X.M A (eval (.Name x pos) env) Q E s:=by
 rw [beq_iff_eq] at hx hc
 subst hx
 refine hid fun G hG=>?_
 obtain ⟨c,hcl,o,p,vs,n,h1,h2,h3,h4⟩:=st.env.cel hc
 refine hG ?_
 have hk:env.kindOf ("pieces":Str)=some .cell:=by unfold Env.kindOf;rw [st.env.names];exact hc
 refine wpAny_Name (wpAny_loadName_cell st.env.kind hk hcl ⟨o,st.amb.base _ _ h1,h2⟩ (h p vs n h3 h4)) ?_
 unfold okN at ho
 simpa using ho
theorem sp_pcs {a:PE} (iha:SP X Φ req A env L FS HS sc nm oa ρ k lv a):SP X Φ req A env L FS HS sc nm oa ρ k lv (.pcs a):=sp_of (fun hc st h=>by
 refine hid fun G hG=>?_
 obtain ⟨x,_,sl,_,rfl,hc⟩:=onSubN_inv hc
 obtain ⟨hx,hc⟩:=and2 (and2 hc).2
 obtain ⟨hq,hx⟩:=and2 hx
 refine hG ?_
 refine Subscript_ (cell_ok st hq (and2 hx).1 (and2 hx).2 fun p vs n hp hv=>EP.bind (iha.e hc st h) fun v₂ s₂ d₂ hq r₂ y₂ z₂=>?_)
 have ho₂:s₂.heap.get? p=some { cls := .type "list",data := .seq vs n }:=(st.ev y₂).amb.base _ _ hp
 refine hid fun G hG=>?_
 obtain ⟨_,t,e,q⟩:=intP.use r₂ hq
 obtain ⟨m,e',q⟩:=natP_inv q
 obtain ⟨d,hd',q⟩:=onS_inv q
 obtain ⟨u,hu⟩:=hv _ _ hd'
 refine hG ?_
 have hlt:m<32:=(List.getElem?_eq_some_iff.mp hd').1
 rw [e,e']
 exact tail_go (T:="list") ⟨_,ho₂,rfl⟩ F.slot_list_getitem.lookup (wpAny_getItem_list (x := .str (S d) u) ⟨_,ho₂,rfl,_,rfl⟩ (Int.natCast_nonneg _) (by omega) hu (EP.back y₂ z₂ (.here q (.str _ _))))) fun _ hc=>onSub_vl hc
theorem closure_one {sc':Scope} {q x z:Str} {c:Addr} (hn:sc'.names=[(z,.local),(x,.local),(q,.free)]) (hcl:env.cells.lookup q=some c):closureFor sc' env=pure [(q,c)]:=by
 unfold closureFor
 have e1:cellOf env q=pure c:=by unfold cellOf;rw [hcl]
 rw [hn]
 simp only [List.forIn_cons,List.forIn_nil,e1]
 rfl
theorem ints_get {H:Addr→Prop} {h:Heap} {ns:List Int}:∀ {vs:List Value},RdAll H h vs (ns.map PyData.int)→∀ v ∈ vs,∃ n t,v = .int n t:=by
 induction ns with
 |nil=>intro vs r v hv;rw [rnil r] at hv;cases hv
 |cons n ns ih=>
  intro vs r v hv
  refine hid fun G hG=>?_
  obtain ⟨w,vs',rfl,r1,r2⟩:=rcons r
  refine hG ?_
  rcases List.mem_cons.mp hv with rfl |hv
  ·exact ⟨n,rint r1⟩
  ·exact ih r2 v hv
theorem paired_rd {H H':Addr→Prop} {h h':Heap} {ns:List Int}:∀ {vs ys:List Value},RdAll H h vs (ns.map PyData.int)→Paired (fun v y=>∃ n t u,v=Value.int n t∧y=Value.str (S (pcOf n)) u) vs ys→RdAll H' h' ys (ns.map fun n => .str (S (pcOf n))):=by
 induction ns with
 |nil=>intro vs ys r q;rw [rnil r] at q;cases q;exact .nil
 |cons n ns ih=>
  intro vs ys r q
  refine hid fun G hG=>?_
  obtain ⟨w,vs',rfl,r1,r2⟩:=rcons r
  refine hG ?_
  cases q with
  |cons q1 q2=>
   refine hid fun G hG=>?_
   obtain ⟨n',t,u,e1,rfl⟩:=q1
   obtain ⟨t',e2⟩:=rint r1
   refine hG ?_
   rw [e2] at e1
   cases e1
   exact .cons (.str _ _) (ih r2 q2)
theorem pc_some (n:Int):pieces[(n.fmod 32).toNat]?=some (pcOf n):=by
 have h1:0≤n.fmod 32:=Int.fmod_nonneg_of_pos n (by omega)
 have h2:n.fmod 32<32:=Int.fmod_lt_of_pos n (by omega)
 have h3:(n.fmod 32).toNat<pieces.length:=by
  have:pieces.length=32:=rfl
  omega
 unfold pcOf
 rw [List.getElem?_eq_getElem h3]
 rfl
theorem sp_cmpP {it:PE} (ihit:SP X Φ req A env L FS HS sc nm oa ρ k lv it):SP X Φ req A env L FS HS sc nm oa ρ k lv (.cmpP it):=sp_of (fun {e s Q Ee} hc st h=>by
   refine hid fun G hG=>?_
   replace hc:=onLC_inv hc
   obtain ⟨e',gs,sc',pos,rfl,hc⟩:=hc
   replace hc:=onSubN_inv hc
   obtain ⟨q,pq,sl,pb,rfl,hc⟩:=hc
   replace hc:=onBin_inv hc
   obtain ⟨l,o,r,_,rfl,hc⟩:=hc
   replace hc:=onName_inv hc
   obtain ⟨x',px',rfl,hc⟩:=hc
   replace hc:=onConst_inv hc
   obtain ⟨m,nk,pm,rfl,hc⟩:=hc
   replace hc:=on1_inv hc
   obtain ⟨⟨tg,i',cs,asy⟩,rfl,hc⟩:=hc
   replace hc:=and2 hc
   obtain ⟨ha,hc⟩:=hc
   obtain rfl:=eq_of_beq ha
   replace hc:=and2 hc
   obtain ⟨hcs,hc⟩:=hc
   obtain rfl:cs=_:=nil_of hcs
   replace hc:=onName_inv hc
   obtain ⟨x,px,e₁,hc⟩:=hc
   obtain rfl:tg=_:=e₁
   replace hc:=and2 hc
   obtain ⟨hB,hc⟩:=hc
   obtain rfl:=bop_eq hB
   replace hc:=and2 hc
   obtain ⟨hm,hc⟩:=hc
   obtain rfl:=eq_of_beq (and2 hm).2
   replace hc:=and2 hc
   obtain ⟨hP,hc⟩:=hc
   replace hc:=and2 hc
   obtain ⟨hxx,hc⟩:=hc
   obtain rfl:=eq_of_beq hxx
   replace hc:=and2 hc
   obtain ⟨hox,hc⟩:=hc
   replace hc:=and2 hc
   obtain ⟨hxq,hc⟩:=hc
   replace hc:=and2 hc
   obtain ⟨hit,hc⟩:=hc
   replace hc:=and2 hc
   obtain ⟨hu,hc⟩:=hc
   replace hc:=and2 hc
   obtain ⟨hkind,hc⟩:=hc
   replace hkind:=eq_of_beq hkind
   replace hc:=and2 hc
   obtain ⟨hx0,hnames⟩:=hc
   replace hnames:=eq_of_beq hnames
   obtain ⟨hq,hP⟩:=and2 hP
   obtain ⟨hcell,hoq⟩:=and2 hP
   replace hq:=eq_of_beq hq
   replace hcell:=eq_of_beq hcell
   obtain ⟨hlv,h⟩:=h
   refine hG ?_
   subst hlv
   have hh:A.handled=none:=st.amb.hand.1 rfl
   subst hq
   refine hid fun G hG=>?_
   obtain ⟨c,hcl,o,p,vs,n,h1,h2,h3,h4⟩:=st.env.cel hcell
   refine hG ?_
   have hclos:=closure_one hnames hcl
   have hk:env.kindOf ("pieces":Str)=some .cell:=by unfold Env.kindOf;rw [st.env.names];exact hcell
   have hx0':(x == (".0":Str))=false:=(Bool.not_eq_true' _).mp hx0
   replace hxq:x≠("pieces":Str):=beq_eq_false_iff_ne.mp ((Bool.not_eq_true' _).mp hxq)
   have hxl:sc'.names.lookup x=some .local:=by
    rw [hnames]
    simp [List.lookup_cons,hx0']
   have hnc:∀ y ∈ sc'.names,y.2 ≠ .cell:=by
    rw [hnames];simp
   have hnl:∀ y ∈ sc'.names,y.2 = .local→sc'.names.lookup y.1=some .local:=by
    intro y hy hl
    have hy':=hy
    rw [hnames] at hy'
    simp only [List.mem_cons,List.not_mem_nil,or_false] at hy'
    rcases hy' with rfl |rfl |rfl
    ·rw [hnames];simp [List.lookup_cons]
    ·exact hxl
    ·cases hl
   have hkc:∀ C,(compEnvC sc' [(("pieces":Str),c)] C env).kindOf ("pieces":Str)=some .cell:=fun C=>by
    show (sc'.names.map fun (n,k)=>if (k == NameKind.free && env.scope.kind == .function && env.kindOf n == some .cell) then (n,NameKind.cell) else (n,k)).lookup ("pieces":Str)=some .cell
    have hxq':(("pieces":Str) == x)=false:=beq_eq_false_iff_ne.mpr (Ne.symm hxq)
    have h0q':(("pieces":Str) == (".0":Str))=false:=by decide+kernel
    have hkx:env.scope.kind = .function:=st.env.kind
    rw [hnames]
    simp [List.lookup_cons,hk,hkx,hxq',h0q']
   have hkx:∀ C,(compEnvC sc' [(("pieces":Str),c)] C env).kindOf x=some .local:=fun C=>lookup_relabel_local hxl
   refine wpAny_ListComp_free (fun _=>true) (fun v y=>∃ n t u,v=Value.int n t∧y=Value.str (S (pcOf n)) u) hclos hnc hkind hnl hxl (wpAny_mono (ihit.e hit st h) ?_ fun _ _ e=>e) (unmarked_fold hu env)
   rintro v s₁ ⟨d,hq,r,y,z⟩
   refine hid fun G hG=>?_
   obtain ⟨xs,⟨T,dd,ws,nn,sl,e₂,ho,hnT,rs⟩,hlim,ns,e₃,hQ⟩:=listP.use r hq
   refine hG ?_
   rw [e₂]
   rw [e₃] at hlim rs
   have st₁:=st.ev y
   have hT:s₁.heap.IsList T ws:=⟨_,ho,rfl,_,rfl⟩
   have hTlt:T<s₁.heap.objs.size:=Heap.lt_size ho
   have hlen:ws.size=ns.length:=by have:=rs.length;rw [Array.length_toList,List.length_map] at this;exact this
   refine wpAny_pyIter_list hT ⟨s₁.heap.objs.size,[s₁.heap.objs.size,T],[s₁.heap.objs.size],ws.size,_,_,rfl,Walks.list hh _ _ (Nat.ne_of_lt hTlt) ws,?_,⟨⟨_,Heap.get?_push_size _ rfl,rfl,rfl⟩,⟨_,Heap.get?_push_of_some _ ho,rfl,_,rfl⟩⟩,?_,⟨?_,?_⟩,?_⟩
   ·rw [hlen];rw [List.length_map] at hlim;exact lim_le hlim
   ·intro b hb
    show b<(s₁.heap.push _).objs.size
    rw [Heap.size_push]
    rcases List.mem_cons.mp hb with rfl |hb
    ·exact Nat.lt_succ_self _
    ·rcases List.mem_cons.mp hb with rfl |hb
     ·exact Nat.lt_succ_of_lt hTlt
     ·cases hb
   ·intro C i v s₃ m₃ E' _ hP hn hm hk _
    exact wpAny_pure ⟨rfl,s₃.heap,s₃.toks,rfl,fun _ _ e=>e⟩
   ·intro C i v s₃ m₃ E' _ hP _ hn hm hk' _
    have up:∀ b o,s₁.heap.get? b=some o→s₃.heap.get? b=some o:=fun b o e=>hk' b o (fun hm=>by rcases List.mem_cons.mp hm with rfl |hm;exact Nat.lt_irrefl _ (Heap.lt_size e);cases hm) (Heap.get?_push_of_some _ e)
    have hv:v ∈ ws.toList:=Array.mem_toList_iff.mpr (Array.mem_of_getElem? hP)
    refine hid fun G hG=>?_
    obtain ⟨nv,tv,rfl⟩:=ints_get rs v hv
    obtain ⟨u,hu'⟩:=h4 _ _ (pc_some nv)
    refine hG ?_
    have hp₃:s₃.heap.get? p=some { cls := .type "list",data := .seq vs n }:=up _ _ (st₁.amb.base _ _ h3)
    have hge:0≤nv.fmod 32:=Int.fmod_nonneg_of_pos nv (by omega)
    have hlt:nv.fmod 32<32:=Int.fmod_lt_of_pos nv (by omega)
    have okq:(("pieces":Str) == ("__debug__":Str))=false:=by unfold okN at hoq;simpa using hoq
    have okx:(x == ("__debug__":Str))=false:=by unfold okN at hox;simpa using hox
    refine Subscript_ (wpAny_Name (wpAny_loadName_cell hkind (hkc C) (by show List.lookup ("pieces":Str) [(("pieces":Str),c)]=some c;simp [List.lookup_cons]) ⟨o,up _ _ (st₁.amb.base _ _ h1),h2⟩ ?_) okq)
    refine wpAny_BinOp (wpAny_Name (wpAny_loadName_local hkind (hkx C) hn hm ?_) okx)
    refine wpAny_Constant_int ?_
    refine mod_int' (by omega) ?_
    exact tail_go (T:="list") ⟨_,hp₃,rfl⟩ F.slot_list_getitem.lookup (wpAny_getItem_list (x := .str (S (pcOf nv)) u) ⟨_,hp₃,rfl,_,rfl⟩ hge (by omega) hu' ⟨⟨nv,tv,u,rfl,rfl⟩,_,_,rfl,fun _ _ e=>e⟩)
   ·intro D h' tk ys vs' hnew hlD _ hlen' hP hF hk'
    have e:vs'=ws.toList:=list_of_places hlen' fun j v hj=>hP j v hj
    subst e
    have up:∀ b o,s₁.heap.get? b=some o→h'.get? b=some o:=fun b o e=>hk' b o (fun hm=>by rcases List.mem_cons.mp hm with rfl |hm;exact Nat.lt_irrefl _ (Heap.lt_size e);cases hm) (Heap.get?_push_of_some _ e)
    refine hid fun G hG=>?_
    obtain ⟨oD,hoD,hcD,nD,hdD⟩:=hlD
    obtain ⟨cD,dD,datD,slD⟩:=oD
    refine hG ?_
    dsimp only at hcD hdD
    subst hcD hdD
    have hD0:s₁.heap.get? D=none:=by
     cases q:s₁.heap.get? D with
     |none=>rfl
     |some oo=>rw [Heap.get?_push_of_some _ q] at hnew;cases hnew
    rw [List.filter_eq_self.mpr (fun _ _=>rfl)] at hF
    exact EP.back y z ⟨_,hQ,.list hoD (fun q=>by obtain ⟨oo,ho'⟩:=st₁.hsb D q;rw [hD0] at ho';cases ho') (paired_rd rs hF),Ev.of_keeps up,⟨rfl,rfl,rfl⟩⟩) fun _ hc=>onLC_vl hc
end
end Mine
end
section
open PySem PySem.W PyProof.Rows
set_option maxRecDepth 100000
namespace Mine
section
variable {X:Cx} {Φ:Nat→List PyData→RR→Prop} {req:Nat→Nat} {A:Around} {FS:List Addr} {k lv:Nat}
variable (HN:NamesOK X) (HG:∀ f,f<k→req f≤lv→Contract X Φ f lv) {fI:Addr} (hR:raisedIn X.K X.rc fI=true)
include HN HG hR in
mutual
theorem pe_ok:∀ (p:PE) {env:Env} {L:Addr} {HS:Addr→Prop} {sc:Sc} {nm:List Str} {oa:Nat→Addr} {ρ:Loc},SP X Φ req A env L FS HS sc nm oa ρ k lv p
 | .k c,_,_,_,_,_,_,_=>sp_k
 | .v i,_,_,_,_,_,_,_=>sp_v
 | .tup es,_,_,_,_,_,_,_=>sp_tup (pes_ok es)
 | .lst es,_,_,_,_,_,_,_=>sp_lst (pes_ok es)
 | .not e,_,_,_,_,_,_,_=>sp_not (pe_ok e)
 | .neg e,_,_,_,_,_,_,_=>sp_neg (pe_ok e)
 | .and es,_,_,_,_,_,_,_=>sp_and (pes_ok es)
 | .or es,_,_,_,_,_,_,_=>sp_or (pes_ok es)
 | .ife t a b,_,_,_,_,_,_,_=>sp_ife (pe_ok t) (pe_ok a) (pe_ok b)
 | .bin op a b,_,_,_,_,_,_,_=>sp_bin (pe_ok a) (pe_ok b)
 | .cmp op a b,_,_,_,_,_,_,_=>sp_cmp (pe_ok a) (pe_ok b)
 | .cmp2 o1 o2 a b c,_,_,_,_,_,_,_=>sp_cmp2 (pe_ok a) (pe_ok b) (pe_ok c)
 | .idx a i,_,_,_,_,_,_,_=>sp_idx (pe_ok a) (pe_ok i)
 | .sl a lo hi,_,_,_,_,_,_,_=>sp_sl (pe_ok a) (peo_ok lo) (peo_ok hi)
 | .call f args,_,_,_,_,_,_,_=>sp_call HN HG (pes_ok args)
 | .len a,_,_,_,_,_,_,_=>sp_len HN (pe_ok a)
 | .ord a,_,_,_,_,_,_,_=>sp_ord HN (pe_ok a)
 | .chr a,_,_,_,_,_,_,_=>sp_chr HN (pe_ok a)
 | .find a b,_,_,_,_,_,_,_=>sp_find (pe_ok a) (pe_ok b)
 | .join a b,_,_,_,_,_,_,_=>sp_join (pe_ok a) (pe_ok b)
 | .lenO i,_,_,_,_,_,_,_=>sp_lenO HN
 | .joinO a i,_,_,_,_,_,_,_=>sp_joinO (pe_ok a)
 | .tupO i,_,_,_,_,_,_,_=>sp_tupO HN
 | .idxO i a,_,_,_,_,_,_,_=>sp_idxO (pe_ok a)
 | .exA i n,_,_,_,_,_,_,_=>sp_exA hR
 | .pcs a,_,_,_,_,_,_,_=>sp_pcs (pe_ok a)
 | .cmpP it,_,_,_,_,_,_,_=>sp_cmpP (pe_ok it)
 | .comp elt it none,_,_,_,_,_,_,_=>sp_comp (pe_ok it) (fun {_ _ _ _ _ _}=>pe_ok elt) (fun _ h=>nomatch h)
 | .comp elt it (some c),_,_,_,_,_,_,_=>sp_comp (pe_ok it) (fun {_ _ _ _ _ _}=>pe_ok elt) (fun p h {_ _ _ _ _ _}=>Option.some.inj h▸pe_ok c)
theorem pes_ok:∀ (ps:List PE) {env:Env} {L:Addr} {HS:Addr→Prop} {sc:Sc} {nm:List Str} {oa:Nat→Addr} {ρ:Loc},SL X Φ req A env L FS HS sc nm oa ρ k lv ps
 | [],_,_,_,_,_,_,_=>sl_nil
 |p::ps,_,_,_,_,_,_,_=>sl_cons (pe_ok p) (pes_ok ps)
theorem peo_ok:∀ (p:Option PE) {env:Env} {L:Addr} {HS:Addr→Prop} {sc:Sc} {nm:List Str} {oa:Nat→Addr} {ρ:Loc},SO X Φ req A env L FS HS sc nm oa ρ k lv p
 |none,_,_,_,_,_,_,_=>so_none
 |some p,_,_,_,_,_,_,_=>so_some (pe_ok p)
end
end
end Mine
end
section
open PySem PySem.W PyProof.Rows
set_option maxRecDepth 100000
namespace Mine
variable (X:Cx) (Φ:Nat→List PyData→RR→Prop) (req:Nat→Nat) (sc:Sc) (nm:List Str) (k:Nat) in
noncomputable def PSok (p:PS):Prop:=∀ {A:Around} {env:Env} {L:Addr} {FS0:List Addr} {HS0 W:Addr→Prop} {lv:Nat} {s₀:Shared} {HS:Addr→Prop} {oa:Nat→Addr} {ρ:Loc} {s:Shared} {st:Stmt} {Q:Out→Prop},
 Sd X A env L FS0 W nm s₀→(∀ x,Q (.exc x)→Rs X A L FS0 W lv s₀)→chkS X.fn sc nm p st=true→Sx X A env L FS0 HS0 W sc nm k lv s₀ HS oa ρ s→PS.wp Φ req k lv p ρ Q →
 wpAny X.M A (exec st env) (FP X A env L FS0 HS0 W sc nm k lv s₀ Q) (XP X A L FS0 HS0 lv s₀ Q) s
variable (X:Cx) (Φ:Nat→List PyData→RR→Prop) (req:Nat→Nat) (sc:Sc) (nm:List Str) (k:Nat) in
noncomputable def PSsok (ps:List PS):Prop:=∀ {A:Around} {env:Env} {L:Addr} {FS0:List Addr} {HS0 W:Addr→Prop} {lv:Nat} {s₀:Shared} {HS:Addr→Prop} {oa:Nat→Addr} {ρ:Loc} {s:Shared} {sts:List Stmt} {Q:Out→Prop},
 Sd X A env L FS0 W nm s₀→(∀ x,Q (.exc x)→Rs X A L FS0 W lv s₀)→chkSs X.fn sc nm ps sts=true→Sx X A env L FS0 HS0 W sc nm k lv s₀ HS oa ρ s→PS.wps Φ req k lv ps ρ Q →
 wpAny X.M A (execs sts env) (FP X A env L FS0 HS0 W sc nm k lv s₀ Q) (XP X A L FS0 HS0 lv s₀ Q) s
section
variable {X:Cx} {Φ:Nat→List PyData→RR→Prop} {req:Nat→Nat} {A:Around} {env:Env} {L:Addr} {FS0:List Addr} {HS0 HS W:Addr→Prop} {sc:Sc} {nm:List Str} {k lv:Nat} {s₀ s:Shared} {oa:Nat→Addr} {ρ:Loc} {Q:Out→Prop}
variable (HN:NamesOK X) (HG:∀ lv f,f<k→req f≤lv→Contract X Φ f lv) {fI:Addr} (hR:raisedIn X.K X.rc fI=true)
include HN HG hR in
theorem ex_ok {p:PE} {e:Expr} {Q1:PyData→Prop} {P:Value→Shared→Prop} (sd:Sd X A env L FS0 W nm s₀) (hG:∀ x,Q (.exc x)→Rs X A L FS0 W lv s₀) (hc:chkE X.fn sc nm p e=true) (x:Sx X A env L FS0 HS0 W sc nm k lv s₀ HS oa ρ s)
  (h:PE.wp Φ req k lv p ρ Q1 fun x=>Q (.exc x)) (hk:∀ v d s',Q1 d→Sx X A env L FS0 HS0 W sc nm k lv s₀ HS oa ρ s'→Rd HS s'.heap v d→P v s'):wpAny X.M A (eval e env) P (XP X A L FS0 HS0 lv s₀ Q) s:=by
 refine wpAny_mono ((pe_ok HN (HG lv) hR p).e hc x.st h) ?_ fun _ _ e=>x.exc sd hG e
 rintro v s₁ ⟨d,hq,r,y,z⟩
 exact hk v d s₁ hq (x.ev sd y z) r
include HN HG hR in
theorem ext_ok {p:PE} {e:Expr} {Q1:Bool→Prop} {P:Bool→Shared→Prop} (sd:Sd X A env L FS0 W nm s₀) (hG:∀ x,Q (.exc x)→Rs X A L FS0 W lv s₀) (hc:chkE X.fn sc nm p e=true) (x:Sx X A env L FS0 HS0 W sc nm k lv s₀ HS oa ρ s)
  (h:PE.wp Φ req k lv p ρ (boolP Q1) fun x=>Q (.exc x)) (hk:∀ b s',Q1 b→Sx X A env L FS0 HS0 W sc nm k lv s₀ HS oa ρ s'→P b s'):wpAny X.M A (isTrue e env (eval e env)) P (XP X A L FS0 HS0 lv s₀ Q) s:=by
 refine wpAny_mono ((pe_ok HN (HG lv) hR p).t hc x.st h) ?_ fun _ _ e=>x.exc sd hG e
 rintro b s₁ ⟨hq,y,z⟩
 exact hk b s₁ hq (x.ev sd y z)
theorem notComp_swap {e:Expr} {t:Option Expr} {l:Nat} {env:Env} (h:notComp e=true):swapsWith e t l env=pure false:=by cases e <;> first |rfl |cases h
include HN HG hR in
theorem ps_asg {i:Nat} {p:PE}:PSok X Φ req sc nm k (.asg i p):=by
 intro A env L FS0 HS0 W lv s₀ HS oa ρ s st Q sd hG hc x h
 obtain ⟨y,py,e,pos,rfl,hc⟩:=onAsg1_inv hc
 obtain ⟨hy,hc⟩:=and2 hc
 exact wpAny_Assign_Name (ex_ok HN HG hR sd hG (and2 hc).2 x h fun v d s' hq x' r=>store_ok sd x' hy (nv := .d d) r fun s'' x'' _=>⟨_,HS,oa,_,hq,x'',rfl⟩) (notComp_swap (and2 hc).1)
include HN HG hR in
theorem ps_ite {t:PE} {a b:List PS} (iha:PSsok X Φ req sc nm k a) (ihb:PSsok X Φ req sc nm k b):PSok X Φ req sc nm k (.ite t a b):=by
 intro A env L FS0 HS0 W lv s₀ HS oa ρ s st Q sd hG hc x h
 obtain ⟨t',a',b',pos,rfl,hc⟩:=onIte_inv hc
 obtain ⟨ht,hc⟩:=and2 hc
 refine wpAny_If (ext_ok (Q1:=fun c=>if c=true then PS.wps Φ req k lv a ρ Q else PS.wps Φ req k lv b ρ Q) HN HG hR sd hG ht x h fun c s' hq x'=>?_)
 cases c
 ·exact ihb sd hG (and2 hc).2 x' hq
 ·exact iha sd hG (and2 hc).1 x' hq
theorem Rd.to0 {h:Heap} {v:Value} {d:PyData} (sub:∀ b,HS0 b→HS b) (r:Rd HS h v d):Rd HS0 h v d:=r.hide fun b _ _ q=>sub b q
include HN HG hR in
theorem ps_ret {p:PE}:PSok X Φ req sc nm k (.ret p):=by
 intro A env L FS0 HS0 W lv s₀ HS oa ρ s st Q sd hG hc x h
 obtain ⟨e,pos,rfl,hc⟩:=onRet_inv hc
 obtain ⟨e,rfl,hc⟩:=onO_inv hc
 exact wpAny_Return_some (ex_ok HN HG hR sd hG hc x h fun v d s' hq x' r=>⟨_,HS,oa,_,hq,x',r.to0 x'.sub⟩)
theorem ps_ret0:PSok X Φ req sc nm k .ret0:=by
 intro A env L FS0 HS0 W lv s₀ HS oa ρ s st Q sd hG hc x h
 obtain ⟨e,pos,rfl,hc⟩:=onRet_inv hc
 rw [none_of hc]
 exact wpAny_Return_none ⟨_,HS,oa,_,h,x,.none⟩
theorem ps_brk:PSok X Φ req sc nm k .brk:=by
 intro A env L FS0 HS0 W lv s₀ HS oa ρ s st Q sd hG hc x h
 obtain ⟨pos,rfl,hc⟩:=onBrk_inv hc
 exact wpAny_Break ⟨_,HS,oa,_,h,x,rfl⟩
theorem ps_frz {i:Nat}:PSok X Φ req sc nm k (.frz i):=by
 intro A env L FS0 HS0 W lv s₀ HS oa ρ s st Q sd hG hc x h
 cases hc
theorem notInteractive {h:Heap} (st:St X A env L FS0 HS sc nm oa ρ k lv h):interactive env=false:=by unfold interactive;rw [st.env.kind];rfl
include HN HG hR in
theorem ps_exp {p:PE}:PSok X Φ req sc nm k (.exp p):=by
 intro A env L FS0 HS0 W lv s₀ HS oa ρ s st Q sd hG hc x h
 obtain ⟨e,pos,rfl,hc⟩:=onEx_inv hc
 obtain ⟨he,hc⟩:=and2 hc
 refine wpAny_Expr_any (ex_ok HN HG hR sd hG hc x h fun v d s' hq x' r=>⟨_,HS,oa,_,(noneP_inv hq).2,x',rfl⟩) (notInteractive x.st) ?_
 obtain ⟨_,_,_,_,e',_⟩:=onCall_inv he
 rw [e']
 rfl
include HN HG hR in
theorem ps_aug {i:Nat} {op:Bop} {p:PE}:PSok X Φ req sc nm k (.aug i op p):=by
 intro A env L FS0 HS0 W lv s₀ HS oa ρ s st Q sd hG hc x h
 obtain ⟨t,o,e,pos,rfl,hc⟩:=onAug_inv hc
 obtain ⟨y,py,rfl,hc⟩:=onName_inv hc
 obtain ⟨hop,hc⟩:=and2 hc
 obtain ⟨hB,hc⟩:=and2 hc
 obtain ⟨hx,hc⟩:=and2 hc
 have hop:op ≠ .mul:=of_decide_eq_true hop
 rw [bop_eq hB]
 obtain ⟨d,hd,h⟩:=atD_inv h
 obtain ⟨hl,h⟩:=notL_inv h
 obtain ⟨h1,h2,h3⟩:=isL_name hx
 obtain ⟨m,hm,hlo⟩:=x.st.loc
 have r:=hlo i y h1
 rw [hd] at r
 obtain ⟨v,hv,r⟩:=r
 have hk:env.kindOf y=some .local:=by unfold Env.kindOf;rw [x.st.env.names];exact h2
 refine wpAny_AugAssign_Name (wpAny_loadName_local x.st.env.kind hk (by rw [x.st.env.loc];exact hm) hv ?_)
 refine wpAny_mono ((pe_ok HN (HG lv) hR p).e hc x.st h) ?_ fun _ _ e=>x.exc sd hG e
 rintro v₂ s₂ ⟨d₂,hq,r₂,y₂,z₂⟩
 have x₂:=x.ev sd y₂ z₂
 refine wpAny_mono (ibin_ok (FS:=L::FS0) (r.ev y₂ x.st.hsf) r₂ hq hop hl) ?_ fun _ _ e=>e
 rintro v₃ s₃ ⟨d₃,hq₃,r₃,y₃,z₃⟩
 exact store_ok sd (x₂.ev sd y₃ z₃) hx (nv := .d d₃) r₃ fun s'' x'' _=>⟨_,HS,oa,_,hq₃,x'',rfl⟩
end
end Mine
end
section
open PySem PySem.W PyProof.Rows
set_option maxRecDepth 100000
namespace Mine
section
variable {X:Cx} {Φ:Nat→List PyData→RR→Prop} {req:Nat→Nat} {A:Around} {env:Env} {L:Addr} {FS0:List Addr} {HS0 HS W:Addr→Prop} {sc:Sc} {nm:List Str} {k lv:Nat} {s₀ s:Shared} {oa:Nat→Addr} {ρ:Loc} {Q:Out→Prop}
variable (HN:NamesOK X) (HG:∀ lv f,f<k→req f≤lv→Contract X Φ f lv) {fI:Addr} (hR:raisedIn X.K X.rc fI=true)
theorem isNames_cons {i:Nat} {is:List Nat} {ts:List Expr} (h:isNames sc nm (i::is) ts=true):∃ y p r,ts = .Name y p::r∧isL sc nm i y=true∧isNames sc nm is r=true:=
 let ⟨_,r,e,h⟩:=onC_inv h
 let ⟨y,p,e',h'⟩:=onName_inv (and2 h).1
 ⟨y,p,r,by rw [e,e'],h',(and2 h).2⟩
theorem isNames_nil {ts:List Expr} (h:isNames sc nm [] ts=true):ts=[]:=nil_of h
theorem isNames_len {is:List Nat}:∀ {ts:List Expr},isNames sc nm is ts=true→ts.length=is.length:=by
 induction is with
 |nil=>intro ts h;rw [isNames_nil h];rfl
 |cons i is ih=>
  intro ts h
  obtain ⟨y,p,r,rfl,_,h'⟩:=isNames_cons h
  exact congrArg (· + 1) (ih h')
theorem isNames_each (env:Env) {is:List Nat}:∀ {ts:List Expr},isNames sc nm is ts=true→(assignEach ts env).length=is.length∧(assignEach ts env).findIdx? (·.1)=none:=by
 induction is with
 |nil=>intro ts h;rw [isNames_nil h];exact ⟨rfl,rfl⟩
 |cons i is ih=>
  intro ts h
  obtain ⟨y,p,r,rfl,_,h'⟩:=isNames_cons h
  have:=ih h'
  refine ⟨congrArg (· + 1) this.1,?_⟩
  show ((false,assign (.Name y p) env)::assignEach r env).findIdx? (·.1)=none
  rw [List.findIdx?_cons,this.2]
  rfl
theorem noDup_nodup {is:List Nat} (h:noDup is=true):is.Nodup:=by
 induction is with
 |nil=>exact List.nodup_nil
 |cons i is ih=>
  refine List.nodup_cons.mpr ⟨fun q=>?_,ih (and2 h).2⟩
  have:=(Bool.not_eq_true' _).mp (and2 h).1
  rw [List.contains_iff_mem.mpr q] at this
  cases this
noncomputable def nameOf (env:Env) (line:Nat):Expr→Option Str
 | .Name id pos=>if env.kindOf id == some .local && pos.line == line then some id else none
 |_=>none
set_option tactic.hygienic true in
theorem swapped_pure {ts es:List Expr} {k₁ k₂:Nat} {p₁ p₂:Pos} (h:(es.all (foldedForSure 8) || !es.all (constantsAlone 8))=true) (hp:∀ e ∈ es,plainE e=true) :
  swappedStores [.Tuple ts k₁ p₁] (.Tuple es k₂ p₂) env=pure none∨∃ names line,swappedStores [.Tuple ts k₁ p₁] (.Tuple es k₂ p₂) env=pure (some names)∧names=ts.filterMap (nameOf env line)∧names.length=ts.length:=by
 unfold swappedStores
 dsimp only
 by_cases h1:(!(ts.length == 2 || ts.length == 3) || es.length !=ts.length || env.blockKind != .function)=true
 ·rw [if_pos h1];exact .inl rfl
 rw [if_neg h1]
 split
 ·exact .inl rfl
 split
 ·exact .inl rfl
 ·rename_i h3
  simp only [Bool.or_eq_true,not_or,bne_iff_ne,ne_eq,Decidable.not_not] at h3
  split
  ·exact .inl rfl
  ·rename_i h4
   rw [if_neg (by simpa [h4] using h)]
   refine .inr ⟨_,(Option.map (fun x=>x.pos.line) ts.head?).getD 0,rfl,?_,h3.1⟩
   congr 1
theorem chkEs_plain {fn:List Str} {ps:List PE}:∀ {xs:List Expr},chkEs fn sc nm ps xs=true→∀ e ∈ xs,plainE e=true:=by
 induction ps with
 |nil=>intro xs h e he;rw [chkEs_nil h] at he;cases he
 |cons p ps ih=>
  intro xs h e he
  obtain ⟨x,r,rfl,h1,_,h3⟩:=chkEs_cons h
  rcases List.mem_cons.mp he with rfl |he
  ·exact h1
  ·exact ih h3 e he
end
end Mine
end
section
open PySem PySem.W PyProof.Rows
set_option maxRecDepth 100000
namespace Mine
theorem list_append_ok {prog:Program} {w:World} {A:Around} {E:Value→Shared→Prop} {s:Shared} {l:Addr} {vs:Array Value} {n:Nat} {x:Value} {Q:Value→Shared→Prop} (ho:s.heap.get? l=some { cls := .type "list",data := .seq vs n })
  (hQ:∀ h' n',h'.get? l=some { cls := .type "list",data := .seq (vs.push x) n' }→Heap.SameBut l s.heap h'→Q .none { s with heap:=h' }) (hsz:vs.size≤sizeLine) :
  wpAny (model prog w) A (call (.builtin "list.append") [.ref l,x]) Q E s:=by
 obtain ⟨n',hd'⟩:=Obj.data_mapSeq (o:={ cls := .type "list",data := .seq vs n }) rfl (·.push x)
 refine wpAny_call_entry slot_list_append (T:="list") ⟨_,ho,rfl⟩ entry_list_append ?_ (args_list_append _ _)
 show wpAny _ _ (updateSeq l (·.push x) >>= fun _=>ret .none) _ _ s
 refine wpAny_bind ?_
 refine wpAny_updateSeq ho rfl (wpAny_pure ⟨.none,rfl,hQ _ n' ?_ (Heap.SameBut.update ..)⟩)
 refine (Heap.get?_update_self _ ho (Obj.isFreed_of_seq hd')).trans ?_
 have:Obj.mapSeq (·.push x) { cls := .type "list",data := .seq vs n }={ cls := .type "list",data := .seq (vs.push x) n' }:=by
  have h1:(Obj.mapSeq (·.push x) { cls := .type "list",data := .seq vs n }).data = .seq (vs.push x) n':=hd'
  revert h1
  cases hh:Obj.mapSeq (·.push x) { cls := .type "list",data := .seq vs n } with
  |mk c d dt sl=>
   intro h1
   dsimp only at h1
   subst h1
   unfold Obj.mapSeq at hh
   cases hh
   rfl
 rw [this]
section
variable {X:Cx} {Φ:Nat→List PyData→RR→Prop} {req:Nat→Nat} {A:Around} {env:Env} {L:Addr} {FS0:List Addr} {HS0 HS W:Addr→Prop} {sc:Sc} {nm:List Str} {k lv:Nat} {s₀ s:Shared} {oa:Nat→Addr} {ρ:Loc} {Q:Out→Prop}
variable (HN:NamesOK X) (HG:∀ lv f,f<k→req f≤lv→Contract X Φ f lv) {fI:Addr} (hR:raisedIn X.K X.rc fI=true)
theorem ValR.grow {h:Heap} {a:Addr} {m:Str→Option Value} {i:Nat} {x:Str} {o:Option Val} (hn:h.get? a=none) (r:ValR X HS oa h m i x o):ValR X (fun b=>HS b∨b=a) oa h m i x o:=by
 have hs:∀ b (o:Obj),h.get? b=some o→(HS b∨b=a)→HS b:=fun b o e q=>by
  rcases q with q |rfl
  ·exact q
  ·rw [hn] at e;cases e
 rcases o with _ |(_ |d |ds |ex)
 ·trivial
 ·trivial
 ·obtain ⟨v,hv,q⟩:=r;exact ⟨v,hv,q.hide hs⟩
 ·obtain ⟨hv,vs,n,ho,q⟩:=r;exact ⟨hv,vs,n,ho,q.hide hs⟩
 ·obtain ⟨a',hv,d,sl,vs,m',t,u,v,ho,hd,hn',h1,h2,h3,q⟩:=r
  obtain ⟨od,es,ep,hod,r'⟩:=hn'
  exact ⟨a',hv,d,sl,vs,m',t,u,v,ho,fun q=>hd (hs d od hod q),⟨od,es,ep,hod,r'⟩,h1,h2,h3,q.hide hs⟩
theorem Sx.grow (sd:Sd X A env L FS0 W nm s₀) (x:Sx X A env L FS0 HS0 W sc nm k lv s₀ HS oa ρ s) {a:Addr} {h':Heap} {tk:Nat} (hn:s.heap.get? a=none) (hk:∀ b o,s.heap.get? b=some o→h'.get? b=some o) (he:∃ o,h'.get? a=some o) :
  Sx X A env L FS0 HS0 W sc nm k lv s₀ (fun b=>HS b∨b=a) oa ρ { s with heap:=h',toks:=tk }:=by
 have x':=x.ev sd (s':={ s with heap:=h',toks:=tk }) (Ev.of_keeps hk) ⟨rfl,rfl,rfl⟩
 have e0:Ev (L::FS0) s.heap h':=Ev.of_keeps hk
 obtain ⟨m,hm,hl⟩:=x.st.loc
 refine ⟨⟨x'.st.amb,x'.st.env,⟨m,hm.keeps hk,fun i y hy=>?_⟩,x'.st.len,fun b hb => .inl (x.st.hsf b hb),fun b hb=>?_,.inl x.st.lhs,x'.st.dep,x'.st.uni,fun b hb=>?_⟩,fun b hb => .inl (x.sub b hb),fun i ds hi=>?_,x'.ek,x'.same,fun b hb=>?_⟩
 ·exact ((hl i y hy).grow hn).ev (HS:=fun b=>HS b∨b=a) x.st.amb (fun b hb => .inl (x.st.hsf b hb)) e0
 ·rcases hb with hb |rfl
  ·exact x'.st.hsb b hb
  ·exact he
 ·rcases hb with hb |rfl
  ·exact x.st.hsn b hb
  ·cases q:X.B0.get? b with
   |none=>rfl
   |some o=>rw [x.st.amb.base _ o q] at hn;cases hn
 ·obtain ⟨o1,o2,o3,o4,o5⟩:=x.own i ds hi
  exact ⟨.inl o1,o2,o3,o4,o5⟩
 ·rcases hb with hb |rfl
  ·exact x.lim b hb
  ·cases q:s₀.heap.get? b with
   |none=>exact .inr (.inr (.inr rfl))
   |some o=>
    by_cases w:W b
    ·exact .inr (.inr (.inl w))
    ·rw [x.ek.keep _ o q w] at hn;cases hn
theorem storeOwn_ok {E:Value→Shared→Prop} (sd:Sd X A env L FS0 W nm s₀) (x:Sx X A env L FS0 HS0 W sc nm k lv s₀ HS oa ρ s) {i:Nat} {y:Str} {a:Addr} {ds:List PyData} {vs:Array Value} {n:Nat} {P:Unit→Shared→Prop} (hx:isL sc nm i y=true)
  (hH:HS a) (hH0:¬ HS0 a) (hw:W a∨s₀.heap.get? a=none) (hB:X.B0.get? a=none) (ho:s.heap.get? a=some { cls := .type "list",data := .seq vs n }) (r:RdAll HS s.heap vs.toList ds) (hap:∀ j ds',ρ[j]?=some (.own ds')→oa j≠a)
  (h:∀ s',Sx X A env L FS0 HS0 W sc nm k lv s₀ HS (fun j=>if j=i then a else oa j) (ρ.set i (.own ds)) s'→Heap.SameBut L s.heap s'.heap→P () s'):wpAny X.M A (storeName env y (.ref a)) P E s:=by
 obtain ⟨h1,h2,h3⟩:=isL_name hx
 obtain ⟨m,hm,hl⟩:=x.st.loc
 have hk:env.kindOf y=some .local:=by unfold Env.kindOf;rw [x.st.env.names];exact h2
 refine wpAny_storeName_local hk (by rw [x.st.env.loc];exact hm) (fun h' hn sb=>h _ ?_ (by rw [← x.st.env.loc];exact sb)) x.st.kindF
 rw [x.st.env.loc] at hn sb
 have hHL:HS L:=x.st.hsf L (.head _)
 have ⟨ba,be⟩:=x.base sd hn sb
 have haL:a≠L:=by
  rintro rfl
  obtain ⟨es,ep,w⟩:=ns_notfields hm ho
  cases w
 refine ⟨⟨ba,x.st.env,⟨_,hn,fun j z hz=>?_⟩,by rw [List.length_set];exact x.st.len,x.st.hsf,fun b hb=>?_,x.st.lhs,x.st.dep,x.st.uni,x.st.hsn⟩,x.sub,fun j ds' hj=>?_,be,⟨x.same.1,x.same.2,x.same.3⟩,x.lim⟩
 ·by_cases hji:j=i
  ·subst hji
   rw [hz] at h1
   cases h1
   have hlt:j<ρ.length:=by rw [x.st.len];exact (List.getElem?_eq_some_iff.mp hz).1
   rw [List.getElem?_set_self hlt]
   exact ⟨by simp,vs,n,by simpa using (sb.2 a haL).trans ho,r.mono (fun b o e n=>(sb.2 b fun q=>n (q▸hHL)).trans e) fun _ _ _ q=>q⟩
  ·rw [List.getElem?_set_ne (Ne.symm hji)]
   have hzy:z≠y:=by
    rintro rfl
    obtain ⟨l1,e1⟩:=List.getElem?_eq_some_iff.mp hz
    exact hji ((List.getElem?_inj l1 sd.nodup).mp (hz.trans h1.symm))
   have:=((hl j z hz).name (m':=fun z=>if z=y then some (.ref a) else m z) (by simp [hzy])).sameBut hHL ⟨m,hm⟩ sb
   revert this
   rcases ρ[j]? with _ |(_ |d |ds' |ex)
   ·exact id
   ·exact id
   ·exact id
   ·intro q
    have e:(if j=i then a else oa j)=oa j:=if_neg hji
    show _∧_
    dsimp only
    rw [e]
    exact q
   ·exact id
 ·by_cases hbL:b=L
  ·subst hbL;obtain ⟨o,_,_,ho,_⟩:=hn;exact ⟨o,ho⟩
  ·obtain ⟨o,ho⟩:=x.st.hsb b hb;exact ⟨o,(sb.2 b hbL).trans ho⟩
 ·by_cases hji:j=i
  ·subst hji
   refine ⟨by rw [if_pos rfl];exact hH,by rw [if_pos rfl];exact hH0,by rw [if_pos rfl];exact hw,fun j' ds'' hj' q=>?_,by rw [if_pos rfl];exact hB⟩
   by_cases hj'i:j'=j
   ·exact hj'i
   ·rw [List.getElem?_set_ne (Ne.symm hj'i)] at hj'
    rw [if_neg hj'i,if_pos rfl] at q
    exact absurd q (hap j' ds'' hj')
  ·rw [List.getElem?_set_ne (Ne.symm hji)] at hj
   obtain ⟨o1,o2,o3,o4,o5⟩:=x.own j ds' hj
   refine ⟨by rw [if_neg hji];exact o1,by rw [if_neg hji];exact o2,by rw [if_neg hji];exact o3,fun j' ds'' hj' q=>?_,by rw [if_neg hji];exact o5⟩
   rw [if_neg hji] at q
   by_cases hj'i:j'=i
   ·rw [if_pos hj'i] at q
    exact absurd q.symm (hap j ds' hj)
   ·rw [if_neg hj'i] at q
    rw [List.getElem?_set_ne (Ne.symm hj'i)] at hj'
    exact o4 j' ds'' hj' q
theorem newEmpty_ok {E:Value→Shared→Prop} {pos:Pos} {P:Value→Shared→Prop} (sd:Sd X A env L FS0 W nm s₀) (x:Sx X A env L FS0 HS0 W sc nm k lv s₀ HS oa ρ s)
  (h:∀ a s' n,Sx X A env L FS0 HS0 W sc nm k lv s₀ (fun b=>HS b∨b=a) oa ρ s'→¬ HS0 a→s₀.heap.get? a=none∨W a→X.B0.get? a=none→s'.heap.get? a=some { cls := .type "list",data := .seq #[] n }→(∀ j ds',ρ[j]?=some (.own ds')→oa j≠a)→P (.ref a) s') :
  wpAny X.M A (eval (.List [] pos) env) P E s:=by
 refine wpAny_List_spliced (wpAny_items_nil ⟨Nat.zero_le _,?_⟩)
 have hn:s.heap.get? s.heap.objs.size=none:=Heap.get?_none_of_le (Nat.le_refl _)
 refine h _ _ _ (x.grow sd hn (fun b o e=>Heap.get?_push_of_some _ e) ⟨_,Heap.get?_push_size _ rfl⟩) (fun q=>?_) ?_ (by
  cases q:X.B0.get? s.heap.objs.size with
  |none=>rfl
  |some o=>rw [x.st.amb.base _ o q] at hn;cases hn) (Heap.get?_push_size _ rfl) fun j ds' hj q=>?_
 ·obtain ⟨o,ho⟩:=x.st.hsb _ (x.sub _ q)
  rw [hn] at ho;cases ho
 ·cases q:s₀.heap.get? s.heap.objs.size with
  |none=>exact .inl rfl
  |some o=>
   by_cases w:W s.heap.objs.size
   ·exact .inr w
   ·rw [x.ek.keep _ o q w] at hn;cases hn
 ·obtain ⟨o,ho⟩:=x.st.hsb _ (x.own j ds' hj).hid
  rw [q,hn] at ho;cases ho
theorem ps_newO {i:Nat}:PSok X Φ req sc nm k (.newO i):=by
 intro A env L FS0 HS0 W lv s₀ HS oa ρ s st Q sd hG hc x h
 replace hc:=onAsg1_inv hc
 obtain ⟨y,py,e,pos,rfl,hc⟩:=hc
 replace hc:=and2 hc
 obtain ⟨hy,hc⟩:=hc
 replace hc:=onList_inv hc
 obtain ⟨l,_,rfl,hc⟩:=hc
 rw [nil_of hc]
 exact wpAny_Assign_Name (newEmpty_ok sd x fun a s' n x' h0 hw hB ho hap=>storeOwn_ok sd x' hy (.inr rfl) h0 hw.symm hB ho .nil hap fun s'' x'' _=>⟨_,_,_,_,h,x'',rfl⟩) rfl
theorem Rd.but {h h':Heap} {D:Addr} {v:Value} {d:PyData} (hD:HS D) (sb:Heap.SameBut D h h') (r:Rd HS h v d):Rd HS h' v d:=r.mono (fun b o e n=>(sb.2 b fun q=>n (q▸hD)).trans e) fun _ _ _ q=>q
theorem RdAll.but {h h':Heap} {D:Addr} {v:List Value} {d:List PyData} (hD:HS D) (sb:Heap.SameBut D h h') (r:RdAll HS h v d):RdAll HS h' v d:=r.mono (fun b o e n=>(sb.2 b fun q=>n (q▸hD)).trans e) fun _ _ _ q=>q
theorem ns_notseq {h:Heap} {b:Addr} {m:Str→Option Value} {o:Obj} {vs:Array Value} {n:Nat} (hn:h.Ns b m) (ho:h.get? b=some o) (hd:o.data = .seq vs n):False:=by
 obtain ⟨es,ep,w⟩:=ns_notfields hn ho
 rw [hd] at w;cases w
theorem Sx.turn (sd:Sd X A env L FS0 W nm s₀) (x:Sx X A env L FS0 HS0 W sc nm k lv s₀ HS oa ρ s) {i:Nat} {ds ds':List PyData} {vs vs':Array Value} {n n':Nat} {h':Heap} {tk:Nat} (hρ:ρ[i]?=some (.own ds))
  (ho:s.heap.get? (oa i)=some { cls := .type "list",data := .seq vs n }) (ho':h'.get? (oa i)=some { cls := .type "list",data := .seq vs' n' }) (r:RdAll HS s.heap vs'.toList ds') (sb:Heap.SameBut (oa i) s.heap h') :
  Sx X A env L FS0 HS0 W sc nm k lv s₀ HS oa (ρ.set i (.own ds')) { s with heap:=h',toks:=tk }:=by
 obtain ⟨o1,o2,o3,o4,o5⟩:=x.own i ds hρ
 have nsk:∀ b m,s.heap.Ns b m→h'.Ns b m:=fun b m hm=>hm.sameBut sb fun q=>by
  rw [q] at hm;exact ns_notseq hm ho rfl
 obtain ⟨m,hm,hl⟩:=x.st.loc
 refine ⟨⟨⟨fun b o e=>(sb.2 b ?_).trans (x.st.amb.base b o e),?_,x.st.amb.hand.1,fun hl v hv=>?_,x.st.amb.hand.2.2⟩,x.st.env,⟨m,nsk _ _ hm,fun j y hy=>?_⟩,by rw [List.length_set];exact x.st.len,x.st.hsf,fun b hb=>?_,x.st.lhs,x.st.dep,x.st.uni,x.st.hsn⟩,x.sub,fun j ds₂ hj=>?_,⟨fun b o e n=>(sb.2 b ?_).trans (x.ek.keep b o e n),fun b hb m e=>nsk b m (x.ek.fr b hb m e)⟩,⟨x.same.1,x.same.2,x.same.3⟩,x.lim⟩
 ·rintro rfl
  rw [o5] at e;cases e
 ·obtain ⟨l,hA,hfs,hl⟩:=x.st.amb.frs
  refine ⟨l,hA,hfs,fun env he=>?_⟩
  obtain ⟨kk,L',hL',hn',m',hm'⟩:=hl env he
  exact ⟨kk,L',hL',hn',m',nsk _ _ hm'⟩
 ·obtain ⟨e,o,vs₂,rfl,he,hd,h2⟩:=x.st.amb.hand.2.1 hl v hv
  refine ⟨e,o,vs₂,rfl,(sb.2 e ?_).trans he,hd,h2⟩
  rintro rfl
  rw [ho] at he;cases he;cases hd
 ·by_cases hji:j=i
  ·subst hji
   have hlt:j<ρ.length:=by rw [x.st.len];exact (List.getElem?_eq_some_iff.mp hy).1
   rw [List.getElem?_set_self hlt]
   have:=hl j y hy
   rw [hρ] at this
   exact ⟨this.1,vs',n',ho',r.but o1 sb⟩
  ·rw [List.getElem?_set_ne (Ne.symm hji)]
   have:=hl j y hy
   revert this
   rcases hj:ρ[j]? with _ |(_ |d |ds₂ |ex)
   ·exact id
   ·exact id
   ·rintro ⟨v,hv,q⟩;exact ⟨v,hv,q.but o1 sb⟩
   ·rintro ⟨hv,vs₂,n₂,ho₂,q⟩
    exact ⟨hv,vs₂,n₂,(sb.2 _ fun z=>hji (o4 j ds₂ hj z)).trans ho₂,q.but o1 sb⟩
   ·rintro ⟨a',hv,d,sl,ws,m',t,u,v,he,hd,hn',h1,h2,h3,q⟩
    refine ⟨a',hv,d,sl,ws,m',t,u,v,(sb.2 _ ?_).trans he,hd,nsk _ _ hn',h1,h2,h3,q.but o1 sb⟩
    rintro rfl
    rw [ho] at he;cases he
 ·by_cases hbi:b=oa i
  ·rw [hbi];exact ⟨_,ho'⟩
  ·obtain ⟨o,ho⟩:=x.st.hsb b hb;exact ⟨o,(sb.2 b hbi).trans ho⟩
 ·have hset:∀ j ds₂,(ρ.set i (Val.own ds'))[j]?=some (Val.own ds₂)→∃ ds₃,ρ[j]?=some (Val.own ds₃):=fun j ds₂ hj=>by
   by_cases hji:j=i
   ·exact ⟨ds,hji▸hρ⟩
   ·rw [List.getElem?_set_ne (Ne.symm hji)] at hj;exact ⟨_,hj⟩
  obtain ⟨ds₃,hj'⟩:=hset j ds₂ hj
  obtain ⟨p1,p2,p3,p4,p5⟩:=x.own j ds₃ hj'
  exact ⟨p1,p2,p3,fun j' ds₄ hj''=>let ⟨ds₅,q⟩:=hset j' ds₄ hj'';p4 j' ds₅ q,p5⟩
 ·rintro rfl
  rcases o3 with w |w
  ·exact n w
  ·rw [w] at e;cases e
theorem Sx.frz (x:Sx X A env L FS0 HS0 W sc nm k lv s₀ HS oa ρ s) {i:Nat} {ds:List PyData} (hρ:ρ[i]?=some (.own ds)) :
  Sx X A env L FS0 HS0 W sc nm k lv s₀ (fun b=>HS b∧b≠oa i) oa (ρ.set i (.d (.list ds))) s:=by
 obtain ⟨o1,o2,o3,o4,o5⟩:=x.own i ds hρ
 obtain ⟨m,hm,hl⟩:=x.st.loc
 have hlt:i<ρ.length:=(List.getElem?_eq_some_iff.mp hρ).1
 obtain ⟨y,hy⟩:∃ y,nm[i]?=some y:=⟨nm[i]'(by rw [← x.st.len];exact hlt),by simp [← x.st.len,hlt]⟩
 have own:=hl i y hy
 rw [hρ] at own
 obtain ⟨hv0,vs,n,ho,r⟩:=own
 have hs:∀ b (o:Obj),s.heap.get? b=some o→(HS b∧b≠oa i)→HS b:=fun b o _ q=>q.1
 have nsne:∀ b m,s.heap.Ns b m→b≠oa i:=fun b m hm q=>by rw [q] at hm;exact ns_notseq hm ho rfl
 refine ⟨⟨x.st.amb,x.st.env,⟨m,hm,fun j z hz=>?_⟩,by rw [List.length_set];exact x.st.len,fun b hb=>⟨x.st.hsf b hb,let ⟨_,m',hm'⟩:=x.st.amb.fsNs hb;nsne b m' hm'⟩,fun b hb=>x.st.hsb b hb.1,⟨x.st.lhs,nsne _ _ hm⟩,x.st.dep,x.st.uni,fun b hb=>x.st.hsn b hb.1⟩,
  fun b hb=>⟨x.sub b hb,fun q=>o2 (q▸hb)⟩,fun j ds₂ hj=>?_,x.ek,x.same,fun b hb=>x.lim b hb.1⟩
 ·by_cases hji:j=i
  ·subst hji
   rw [hz] at hy;cases hy
   rw [List.getElem?_set_self hlt]
   exact ⟨_,hv0,.list ho (fun q=>q.2 rfl) (r.hide hs)⟩
  ·rw [List.getElem?_set_ne (Ne.symm hji)]
   have:=hl j z hz
   revert this
   rcases hj:ρ[j]? with _ |(_ |d |ds₂ |ex)
   ·exact id
   ·exact id
   ·rintro ⟨v,hv,q⟩;exact ⟨v,hv,q.hide hs⟩
   ·rintro ⟨hv,vs₂,n₂,ho₂,q⟩
    exact ⟨hv,vs₂,n₂,ho₂,q.hide hs⟩
   ·rintro ⟨a',hv,d,sl,ws,m',t,u,v,he,hd,hn',h1,h2,h3,q⟩
    exact ⟨a',hv,d,sl,ws,m',t,u,v,he,fun q=>hd q.1,hn',h1,h2,h3,q.hide hs⟩
 ·have hji:j≠i:=by
   rintro rfl
   rw [List.getElem?_set_self hlt] at hj;cases hj
  rw [List.getElem?_set_ne (Ne.symm hji)] at hj
  obtain ⟨p1,p2,p3,p4,p5⟩:=x.own j ds₂ hj
  refine ⟨⟨p1,fun q=>hji (o4 j ds₂ hj q)⟩,p2,p3,fun j' ds₄ hj''=>?_,p5⟩
  have hj'i:j'≠i:=by
   rintro rfl
   rw [List.getElem?_set_self hlt] at hj'';cases hj''
  rw [List.getElem?_set_ne (Ne.symm hj'i)] at hj''
  exact p4 j' ds₄ hj''
include HN HG hR in
theorem ps_app {i:Nat} {p:PE}:PSok X Φ req sc nm k (.app i p):=by
 intro A env L FS0 HS0 W lv s₀ HS oa ρ s st Q sd hG hc x h
 replace hc:=onEx_inv hc
 obtain ⟨e,pos,rfl,hc⟩:=hc
 replace hc:=onMeth_inv hc
 obtain ⟨v,at_,ap,e,ps,rfl,hap,hc⟩:=hc
 replace hc:=and2 hc
 obtain ⟨hat,hc⟩:=hc
 replace hc:=and2 hc
 obtain ⟨hy,hc⟩:=hc
 replace hy:=onName_inv hy
 obtain ⟨y,py,rfl,hy⟩:=hy
 rw [eq_of_beq hat]
 replace h:=atO_inv h
 obtain ⟨ds,hρ,h⟩:=h
 refine wpAny_Expr_any (mcall rfl hap (and2 hc).1 (localO_ok x.st hy hρ fun vs n ho r pl=>?_)) (notInteractive x.st) rfl
 refine PySem.Calls.getMethod_list_append ho rfl (by first |exact ⟨_,_,rfl⟩ |rfl) (callWith_m1 ?_)
 refine ex_ok HN HG hR sd hG (and2 hc).2 x h fun v d s' hq x' rv=>?_
 obtain ⟨m,hm,hl⟩:=x'.st.loc
 have own:=hl i y (isL_name hy).1
 rw [hρ] at own
 obtain ⟨_,vs',n',ho',r'⟩:=own
 have hsz:vs'.size≤sizeLine:=by
  have:=r'.length
  rw [Array.length_toList] at this
  rw [this]
  exact lim_le hq.1
 exact list_append_ok ho' (fun h' n₂ ho₂ sb=>⟨_,HS,oa,_,hq.2,x'.turn sd hρ ho' ho₂ (by rw [Array.toList_push];exact r'.append (.cons rv .nil)) sb,rfl⟩) hsz
end
end Mine
end
section
open PySem PySem.W PyProof.Rows
set_option maxRecDepth 100000
namespace Mine
section
variable {X:Cx} {Φ:Nat→List PyData→RR→Prop} {req:Nat→Nat} {A:Around} {env:Env} {L:Addr} {FS0:List Addr} {HS0 HS W:Addr→Prop} {sc:Sc} {nm:List Str} {k lv:Nat} {s₀ s:Shared} {oa:Nat→Addr} {ρ:Loc} {Q:Out→Prop}
variable (HN:NamesOK X) (HG:∀ lv f,f<k→req f≤lv→Contract X Φ f lv) {fI:Addr} (hR:raisedIn X.K X.rc fI=true)
theorem Sx.un (x:Sx X A env L FS0 HS0 W sc nm k lv s₀ HS oa ρ s) (i:Nat):Sx X A env L FS0 HS0 W sc nm k lv s₀ HS oa (ρ.set i .un) s:=by
 obtain ⟨m,hm,hl⟩:=x.st.loc
 have hset:∀ j ds,(ρ.set i Val.un)[j]?=some (Val.own ds)→ρ[j]?=some (Val.own ds):=fun j ds hj=>by
  by_cases hji:j=i
  ·subst hji
   rw [List.getElem?_set] at hj
   simp only [if_true] at hj
   split at hj <;> cases hj
  ·rwa [List.getElem?_set_ne (Ne.symm hji)] at hj
 refine ⟨⟨x.st.amb,x.st.env,⟨m,hm,fun j y hy=>?_⟩,by rw [List.length_set];exact x.st.len,x.st.hsf,x.st.hsb,x.st.lhs,x.st.dep,x.st.uni,x.st.hsn⟩,x.sub,fun j ds hj=>?_,x.ek,x.same,x.lim⟩
 ·by_cases hji:j=i
  ·subst hji
   have hlt:j<ρ.length:=by rw [x.st.len];exact (List.getElem?_eq_some_iff.mp hy).1
   rw [List.getElem?_set_self hlt]
   trivial
  ·rw [List.getElem?_set_ne (Ne.symm hji)];exact hl j y hy
 ·obtain ⟨p1,p2,p3,p4,p5⟩:=x.own j ds (hset j ds hj)
  exact ⟨p1,p2,p3,fun j' ds' hj'=>p4 j' ds' (hset j' ds' hj'),p5⟩
theorem Sx.reoa {oa':Nat→Addr} (x:Sx X A env L FS0 HS0 W sc nm k lv s₀ HS oa ρ s) (e:∀ j ds,ρ[j]?=some (.own ds)→oa' j=oa j):Sx X A env L FS0 HS0 W sc nm k lv s₀ HS oa' ρ s:=by
 obtain ⟨m,hm,hl⟩:=x.st.loc
 refine ⟨⟨x.st.amb,x.st.env,⟨m,hm,fun j y hy=>?_⟩,x.st.len,x.st.hsf,x.st.hsb,x.st.lhs,x.st.dep,x.st.uni,x.st.hsn⟩,x.sub,fun j ds hj=>?_,x.ek,x.same,x.lim⟩
 ·have:=hl j y hy
  revert this
  rcases hj:ρ[j]? with _ |(_ |d |ds |ex)
  ·exact id
  ·exact id
  ·exact id
  ·intro q
   show _∧_
   rw [e j ds hj]
   exact q
  ·exact id
 ·obtain ⟨p1,p2,p3,p4,p5⟩:=x.own j ds hj
  rw [← e j ds hj] at p1 p2 p3 p5
  exact ⟨p1,p2,p3,fun j' ds' hj' q=>p4 j' ds' hj' (by rw [e j ds hj,e j' ds' hj'] at q;exact q),p5⟩
variable (X HS0 HS W s₀ oa) in
noncomputable def Can (h:Heap) (i:Nat) (v:Value):Val→Prop
 | .d d=>Rd HS h v d
 | .own ds=>ds=[]∧v = .ref (oa i)∧HS (oa i)∧¬ HS0 (oa i)∧(W (oa i)∨s₀.heap.get? (oa i)=none)∧X.B0.get? (oa i)=none∧(∃ n,h.get? (oa i)=some { cls := .type "list",data := .seq #[] n })∧∀ j,j≠i→oa j≠oa i
 |_=>False
variable (X HS0 HS W s₀ oa) in
inductive AllCan (h:Heap):List Nat→List Value→List Val→Prop
 |nil:AllCan h [] [] []
 |cons {i is v vs nv nvs}:Can X HS0 HS W s₀ oa h i v nv→AllCan h is vs nvs→AllCan h (i::is) (v::vs) (nv::nvs)
theorem Can.keep {h h':Heap} {i:Nat} {v:Value} {nv:Val} (hk:∀ b o vs n,h.get? b=some o→o.data = .seq vs n→h'.get? b=some o) (c:Can X HS0 HS W s₀ oa h i v nv):Can X HS0 HS W s₀ oa h' i v nv:=by
 cases nv with
 |un=>exact c
 |d d=>exact Rd.monoS (fun b o vs n e q _=>hk b o vs n e q) (fun _ _ _ _ _ _ q=>q) c
 |own ds=>obtain ⟨c1,c2,c3,c4,c5,c6,⟨n,c7⟩,c8⟩:=c;exact ⟨c1,c2,c3,c4,c5,c6,⟨n,hk _ _ _ _ c7 rfl⟩,c8⟩
 |ex e=>exact c
theorem and2_mk {a b:Bool} (h:a=true) (h':b=true):(a && b)=true:=by rw [h,h'];rfl
theorem notCompT_swap {e:Expr} {t:Expr} {l:Nat} {env:Env} (h:notCompT e=true):swapsWithSole [t] e l env=pure false:=notComp_swap (and2 h).1
theorem notCompT_swapped {e:Expr} {ts:List Expr} {k:Nat} {p:Pos} {env:Env} (h:notCompT e=true):swappedStores [.Tuple ts k p] e env=pure none:=by cases e <;> first |rfl |cases h
theorem AllCan.keep {h h':Heap} (hk:∀ b o vs n,h.get? b=some o→o.data = .seq vs n→h'.get? b=some o) {is:List Nat} {vs:List Value} {nvs:List Val} (c:AllCan X HS0 HS W s₀ oa h is vs nvs):AllCan X HS0 HS W s₀ oa h' is vs nvs:=by
 induction c with
 |nil=>exact .nil
 |cons a _ ih=>exact .cons (a.keep hk) ih
theorem AllCan.len {h:Heap} {is:List Nat} {vs:List Value} {nvs:List Val} (c:AllCan X HS0 HS W s₀ oa h is vs nvs):vs.length=is.length:=by
 induction c with
 |nil=>rfl
 |cons a _ ih=>exact congrArg (· + 1) ih
theorem AllCan.of_rd {h:Heap} {is:List Nat}:∀ {vs:List Value} {ds:List PyData},RdAll HS h vs ds→ds.length=is.length→AllCan X HS0 HS W s₀ oa h is vs (ds.map .d):=by
 induction is with
 |nil=>
  intro vs ds r e
  cases ds with
  |nil=>rw [rnil r];exact .nil
  |cons _ _=>cases e
 |cons i is ih=>
  intro vs ds r e
  cases ds with
  |nil=>cases e
  |cons d ds=>
   obtain ⟨v,vs',rfl,a,b⟩:=rcons r
   exact .cons a (ih b (Nat.succ.inj e))
theorem storeCan_ok {E:Value→Shared→Prop} {P:Unit→Shared→Prop} (sd:Sd X A env L FS0 W nm s₀) (x:Sx X A env L FS0 HS0 W sc nm k lv s₀ HS oa ρ s) {i:Nat} {y:Str} {v:Value} {nv:Val} (hx:isL sc nm i y=true) (c:Can X HS0 HS W s₀ oa s.heap i v nv)
  (h:∀ s',Sx X A env L FS0 HS0 W sc nm k lv s₀ HS oa (ρ.set i nv) s'→(∀ b o vs n,s.heap.get? b=some o→o.data = .seq vs n→s'.heap.get? b=some o)→P () s'):wpAny X.M A (storeName env y v) P E s:=by
 obtain ⟨m,hm,hl⟩:=x.st.loc
 have hk:∀ s':Shared,Heap.SameBut L s.heap s'.heap→(∀ b o vs n,s.heap.get? b=some o→o.data = .seq vs n→s'.heap.get? b=some o):=fun s' sb b o vs n e q=>(sb.2 b fun z=>by rw [z] at e;exact ns_notseq hm e q).trans e
 cases nv with
 |un=>exact c.elim
 |ex e=>exact c.elim
 |d d=>exact store_ok sd x hx (nv := .d d) c fun s' x' sb=>h s' x' (hk s' sb)
 |own ds=>
  obtain ⟨rfl,rfl,c3,c4,c5,c6,⟨n,c7⟩,c8⟩:=c
  have hset:(ρ.set i Val.un).set i (.own [])=ρ.set i (.own []):=List.set_set ..
  refine storeOwn_ok (x:=x.un i) sd hx c3 c4 c5 c6 c7 .nil (fun j ds' hj q=>?_) fun s' x' sb=>?_
  ·by_cases hji:j=i
   ·subst hji
    rw [List.getElem?_set] at hj
    simp only [if_true] at hj
    split at hj <;> cases hj
   ·exact c8 j hji q
  ·rw [hset] at x'
   refine h s' (x'.reoa fun j ds hj=>?_) (hk s' sb)
   by_cases hji:j=i
   ·subst hji;exact (if_pos rfl).symm
   ·exact (if_neg hji).symm
noncomputable def setAllV:Loc→List Nat→List Val→Loc
 |ρ,i::is,d::ds=>setAllV (ρ.set i d) is ds
 |ρ,_,_=>ρ
theorem setAllV_d (is:List Nat):∀ (ds:List PyData) (ρ:Loc),setAllV ρ is (ds.map .d)=setAll ρ is ds:=by
 induction is with
 |nil=>intro ds ρ;cases ds <;> rfl
 |cons i is ih=>
  intro ds ρ
  cases ds with
  |nil=>rfl
  |cons d ds=>exact ih ds _
theorem assignAllV {E:Value→Shared→Prop} {P:Unit→Shared→Prop} (sd:Sd X A env L FS0 W nm s₀) (is:List Nat):∀ {ts:List Expr} {vs:List Value} {nvs:List Val} {ρ:Loc} {s:Shared},isNames sc nm is ts=true→Sx X A env L FS0 HS0 W sc nm k lv s₀ HS oa ρ s→AllCan X HS0 HS W s₀ oa s.heap is vs nvs →
  (∀ s',Sx X A env L FS0 HS0 W sc nm k lv s₀ HS oa (setAllV ρ is nvs) s'→P () s')→wpAny X.M A (assignInOrder ((assignEach ts env).map (·.2)) vs) P E s:=by
 induction is with
 |nil=>
  intro ts vs nvs ρ s h x r hk
  obtain rfl:=isNames_nil h
  cases r
  exact wpAny_pure (hk s x)
 |cons i is ih=>
  intro ts vs nvs ρ s h x r hk
  obtain ⟨y,p,ts',rfl,hy,h'⟩:=isNames_cons h
  cases r with
  |cons a b=>
   show wpAny X.M A (do holding _ (assign (.Name y p) env _);assignInOrder ((assignEach ts' env).map (·.2)) _) P E s
   exact wpAny_bind (wpAny_holding (wpAny_assign_Name (storeCan_ok sd x hy a fun s' x' kk=>ih h' x' (b.keep kk) hk)))
noncomputable abbrev LV:=List (Nat × Str × Value × Val)
noncomputable def setLV (ρ:Loc) (l:LV):Loc:=l.foldl (fun ρ q=>ρ.set q.1 q.2.2.2) ρ
theorem bindAllV {E:Value→Shared→Prop} {P:Unit→Shared→Prop} (sd:Sd X A env L FS0 W nm s₀) (l:LV):∀ {ρ:Loc} {s:Shared},(∀ q ∈ l,isL sc nm q.1 q.2.1=true)→(∀ q ∈ l,Can X HS0 HS W s₀ oa s.heap q.1 q.2.2.1 q.2.2.2)→Sx X A env L FS0 HS0 W sc nm k lv s₀ HS oa ρ s →
  (∀ s',Sx X A env L FS0 HS0 W sc nm k lv s₀ HS oa (setLV ρ l) s'→P () s')→wpAny X.M A (assignInOrder ((l.map (·.2.1)).map fun n=>bindName env n) (l.map (·.2.2.1))) P E s:=by
 induction l with
 |nil=>intro ρ s h r x hk;exact wpAny_pure (hk s x)
 |cons q l ih=>
  intro ρ s h r x hk
  show wpAny X.M A (do holding (l.map (·.2.2.1)) (bindName env q.2.1 q.2.2.1);assignInOrder ((l.map (·.2.1)).map fun n=>bindName env n) (l.map (·.2.2.1))) P E s
  exact wpAny_bind (wpAny_holding (wpAny_bindName (storeCan_ok sd x (h q (.head _)) (r q (.head _)) fun s' x' kk=>ih (fun z hz=>h z (.tail _ hz)) (fun z hz=>(r z (.tail _ hz)).keep kk) x' hk)))
theorem setLV_set {i:Nat} {a:Val} (l:LV):∀ (ρ:Loc),i ∉ l.map (·.1)→setLV (ρ.set i a) l=(setLV ρ l).set i a:=by
 induction l with
 |nil=>intro ρ h;rfl
 |cons q l ih=>
  intro ρ h
  have h':=not_or.mp (mt List.mem_cons.mpr h)
  show setLV ((ρ.set i a).set q.1 _) l=(setLV (ρ.set q.1 _) l).set i a
  rw [List.set_comm _ _ h'.1,ih _ h'.2]
theorem setLV_append (l l':LV) (ρ:Loc):setLV ρ (l++l')=setLV (setLV ρ l) l':=List.foldl_append ..
theorem setLV_reverse (l:LV):∀ (ρ:Loc),(l.map (·.1)).Nodup→setLV ρ l.reverse=setLV ρ l:=by
 induction l with
 |nil=>intro ρ h;rfl
 |cons q l ih=>
  intro ρ h
  have h':=List.nodup_cons.mp h
  rw [List.reverse_cons,setLV_append,ih ρ h'.2]
  show (setLV ρ l).set q.1 _=setLV (ρ.set q.1 _) l
  rw [setLV_set l ρ h'.1]
theorem setLV_setAllV (l:LV):∀ (ρ:Loc),setLV ρ l=setAllV ρ (l.map (·.1)) (l.map (·.2.2.2)):=by
 induction l with
 |nil=>intro ρ;rfl
 |cons q l ih=>exact fun ρ=>ih _
theorem nameOf_some {line:Nat} {y z:Str} {p:Pos} (h:nameOf env line (.Name y p)=some z):z=y:=by
 have q:nameOf env line (.Name y p)=if (env.kindOf y == some .local && p.line == line)=true then some y else none:=rfl
 rw [q] at h
 by_cases c:(env.kindOf y == some .local && p.line == line)=true
 ·rw [if_pos c] at h
  exact (Option.some.inj h).symm
 ·rw [if_neg c] at h
  cases h
structure Sw (X:Cx) (HS0 HS W:Addr→Prop) (s₀:Shared) (oa:Nat→Addr) (h:Heap) (sc:Sc) (nm:List Str) (l:LV) (is:List Nat) (ns:List Str) (vs:List Value) (nvs:List Val):Prop where
 e1:l.map (·.1)=is
 e2:l.map (·.2.1)=ns
 e3:l.map (·.2.2.1)=vs
 e4:l.map (·.2.2.2)=nvs
 e5:∀ q ∈ l,isL sc nm q.1 q.2.1=true
 e6:∀ q ∈ l,Can X HS0 HS W s₀ oa h q.1 q.2.2.1 q.2.2.2
theorem swapped_namesV {line:Nat} {h:Heap} {is:List Nat} {vs:List Value} {nvs:List Val} (r:AllCan X HS0 HS W s₀ oa h is vs nvs):∀ {ts:List Expr},isNames sc nm is ts=true→(ts.filterMap (nameOf env line)).length=ts.length →
  ∃ l:LV,Sw X HS0 HS W s₀ oa h sc nm l is (ts.filterMap (nameOf env line)) vs nvs:=by
 induction r with
 |nil=>
  intro ts h hl
  obtain rfl:=isNames_nil h
  exact ⟨[],rfl,rfl,rfl,rfl,(fun _ h=>nomatch h),(fun _ h=>nomatch h)⟩
 | @cons i is v vs nv nvs a b ih=>
   intro ts h hl
   obtain ⟨y,p,ts',rfl,hy,h'⟩:=isNames_cons h
   cases hf:nameOf env line (.Name y p) with
   |none=>
    rw [List.filterMap_cons_none hf,List.length_cons] at hl
    exact absurd (hl▸List.length_filterMap_le (nameOf env line) ts') (Nat.not_succ_le_self _)
   |some z=>
    obtain rfl:=nameOf_some hf
    rw [List.filterMap_cons_some hf] at hl ⊢
    obtain ⟨l,e⟩:=ih h' (Nat.succ.inj hl)
    refine ⟨(i,z,v,nv)::l,congrArg (i :: ·) e.e1,congrArg (z :: ·) e.e2,congrArg (v :: ·) e.e3,congrArg (nv :: ·) e.e4,fun q hq=>?_,fun q hq=>?_⟩
    ·rcases List.mem_cons.mp hq with rfl |hq
     ·exact hy
     ·exact e.e5 q hq
    ·rcases List.mem_cons.mp hq with rfl |hq
     ·exact a
     ·exact e.e6 q hq
theorem tupleStoreV {is:List Nat} {ts es:List Expr} {k₁ k₂:Nat} {p₁ p₂ pos:Pos} {E:Value→Shared→Prop} {P:Flow→Shared→Prop} (sd:Sd X A env L FS0 W nm s₀) (hlv:1≤lv) (hn:isNames sc nm is ts=true) (hd:noDup is=true)
  (hf:(es.all (foldedForSure 8) || !es.all (constantsAlone 8))=true) (hp:∀ e ∈ es,plainE e=true)
  (h:wpAny X.M A (eval (.Tuple es k₂ p₂) env) (fun v s'=>∃ HS oa ρ nvs T items,v = .ref T∧s'.heap.IsTuple T items∧AllCan X HS0 HS W s₀ oa s'.heap is items.toList nvs∧Sx X A env L FS0 HS0 W sc nm k lv s₀ HS oa ρ s' ∧
    ∀ s'',Sx X A env L FS0 HS0 W sc nm k lv s₀ HS oa (setAllV ρ is nvs) s''→P .next s'') E s) :
  wpAny X.M A (exec (.Assign [.Tuple ts k₁ p₁] (.Tuple es k₂ p₂) pos) env) P E s:=by
 rcases swapped_pure (env:=env) (ts:=ts) (k₁:=k₁) (k₂:=k₂) (p₁:=p₁) (p₂:=p₂) hf hp with hw |⟨names,line,hw,hnm,hnl⟩
 ·refine Assign_Tuple (wpAny_mono h ?_ fun _ _ e=>e) rfl hw
  rintro v s' ⟨HS,oa,ρ,nvs,T,items,rfl,hT,r,x',hk⟩
  have hi:=isNames_each env hn
  refine assign_Tuple (x'.st.amb.handOK hlv) hT (by rw [hi.1,← r.len,Array.length_toList]) hi.2 fun h' kk=>?_
  have x'':=x'.ev sd (s':={ s' with heap:=h' }) (Ev.of_keeps kk) ⟨rfl,rfl,rfl⟩
  exact assignAllV sd is hn x'' (r.keep fun b o _ _ e _=>kk b o e) hk
 ·refine Assign_Tuple_swapped (wpAny_mono h ?_ fun _ _ e=>e) rfl hw
  rintro v s' ⟨HS,oa,ρ,nvs,T,items,rfl,hT,r,x',hk⟩
  have hsz:names.length=items.size:=by rw [hnl,isNames_len hn,← r.len,Array.length_toList]
  rw [hsz]
  refine unpackItems_tuple (x'.st.amb.handOK hlv) hT fun h' kk=>?_
  have x'':=x'.ev sd (s':={ s' with heap:=h' }) (Ev.of_keeps kk) ⟨rfl,rfl,rfl⟩
  obtain ⟨l,e1,e2,e3,e4,e5,e6⟩:=swapped_namesV (env:=env) (line:=line) (r.keep (h':=h') fun b o _ _ e _=>kk b o e) hn (by rw [← hnm];exact hnl)
  have:=bindAllV (E:=E) (P:=fun _ s''=>P .next s'') sd l.reverse (fun q hq=>e5 q (List.mem_reverse.mp hq)) (fun q hq=>e6 q (List.mem_reverse.mp hq)) x'' fun s'' x₃=>by
   rw [setLV_reverse l ρ (by rw [e1];exact noDup_nodup hd),setLV_setAllV,e1,e4] at x₃
   exact hk s'' x₃
  have q1:l.reverse.map (·.2.1)=names.reverse:=by rw [List.map_reverse,e2,hnm]
  have q2:l.reverse.map (·.2.2.1)=items.toList.reverse:=by rw [List.map_reverse,e3]
  rw [q1,q2] at this
  exact this
theorem setAll_set {i:Nat} {a:Val} (is:List Nat):∀ (ds:List PyData) (ρ:Loc),i ∉ is→setAll (ρ.set i a) is ds=(setAll ρ is ds).set i a:=by
 induction is with
 |nil=>intro ds ρ h;cases ds <;> rfl
 |cons j is ih=>
  intro ds ρ h
  cases ds with
  |nil=>rfl
  |cons d ds=>
   have h':=not_or.mp (mt List.mem_cons.mpr h)
   show setAll ((ρ.set i a).set j _) is ds=(setAll (ρ.set j _) is ds).set i a
   rw [List.set_comm _ _ h'.1,ih ds _ h'.2]
include HN HG hR in
theorem ps_upk {is:List Nat} {p:PE}:PSok X Φ req sc nm k (.upk is p):=by
 intro A env L FS0 HS0 W lv s₀ HS oa ρ s st Q sd hG hc x h
 replace hc:=onAsgT_inv hc
 obtain ⟨ts,k',p',e,pos,rfl,hc⟩:=hc
 replace hc:=and2 hc
 obtain ⟨hn,hc⟩:=hc
 replace hc:=and2 hc
 obtain ⟨hd,hc⟩:=hc
 replace hc:=and2 hc
 obtain ⟨hv,hc⟩:=hc
 obtain ⟨hlv,h⟩:=h
 refine Assign_Tuple (ex_ok HN HG hR sd hG hc x h fun v d s' hq x' r=>?_) (notCompT_swap hv) (notCompT_swapped hv)
 obtain ⟨ds,⟨T,dd,vs,n,sl,e',ho,hnT,rs⟩,hlen,hq⟩:=tupP.use r hq
 rw [e']
 have hi:=isNames_each env hn
 have hvl:=rs.length
 rw [Array.length_toList] at hvl
 refine assign_Tuple (x'.st.amb.handOK hlv) ⟨_,ho,rfl,_,rfl⟩ (by rw [hi.1,hvl,hlen]) hi.2 fun h' kk=>?_
 have x'':=x'.ev sd (s':={ s' with heap:=h' }) (Ev.of_keeps kk) ⟨rfl,rfl,rfl⟩
 refine assignAllV sd is hn x'' (AllCan.of_rd (rs.mono (fun b o e _=>kk b o e) fun _ _ _ q=>q) hlen) fun s'' x₃=>?_
 rw [setAllV_d] at x₃
 exact ⟨_,HS,oa,_,hq,x₃,rfl⟩
include HN HG hR in
theorem ps_upkT {is:List Nat} {ps:List PE}:PSok X Φ req sc nm k (.upkT is ps):=by
 intro A env L FS0 HS0 W lv s₀ HS oa ρ s st Q sd hG hc x h
 replace hc:=onAsgT_inv hc
 obtain ⟨ts,k₁,p₁,e,pos,rfl,hc⟩:=hc
 replace hc:=onTup_inv hc
 obtain ⟨es,k₂,p₂,rfl,hc⟩:=hc
 replace hc:=and2 hc
 obtain ⟨hn,hc⟩:=hc
 replace hc:=and2 hc
 obtain ⟨hd,hc⟩:=hc
 replace hc:=and2 hc
 obtain ⟨hl,hc⟩:=hc
 replace hc:=and2 hc
 obtain ⟨h60,hc⟩:=hc
 replace hc:=and2 hc
 obtain ⟨hf,hc⟩:=hc
 obtain ⟨hlv,h⟩:=h
 replace hl:=eq_of_beq hl
 replace h60:=of_decide_eq_true h60
 refine tupleStoreV (k:=k) (HS0:=HS0) sd hlv hn hd hf (chkEs_plain hc) ?_
 refine Tuple_ (wpAny_mono ((pes_ok HN (HG lv) hR ps).es hc x.st h) ?_ fun _ _ e=>x.exc sd hG e)
 rintro vs s₁ ⟨ds,⟨hq,hlen⟩,r,y,z⟩
 have x₁:=x.ev sd y z
 refine wpAny_newTuple ?_ (by rw [r.length,hlen,sizeLine_eq];exact Nat.le_trans h60 (by decide))
 have kk:∀ b o,s₁.heap.get? b=some o→(s₁.heap.push { cls := .type "tuple",data := .seq vs.toArray }).get? b=some o:=fun b o e=>Heap.get?_push_of_some _ e
 refine ⟨HS,oa,ρ,ds.map .d,_,vs.toArray,rfl,⟨_,Heap.get?_push_size _ rfl,rfl,_,rfl⟩,AllCan.of_rd (r.mono (fun b o e _=>kk b o e) fun _ _ _ q=>q) (by rw [hlen,hl]),x₁.ev sd (Ev.of_keeps kk) ⟨rfl,rfl,rfl⟩,fun s'' x''=>?_⟩
 rw [setAllV_d] at x''
 exact ⟨_,HS,oa,_,hq,x'',rfl⟩
set_option tactic.hygienic true in
include HN HG hR in
theorem ps_upkO {i:Nat} {is:List Nat} {ps:List PE}:PSok X Φ req sc nm k (.upkO i is ps):=by
 intro A env L FS0 HS0 W lv s₀ HS oa ρ s st Q sd hG hc x h
 replace hc:=onAsgT_inv hc
 obtain ⟨ts,k₁,p₁,e,pos,rfl,hc⟩:=hc
 replace hc:=onTup_inv hc
 obtain ⟨es,k₂,p₂,rfl,hc⟩:=hc
 replace hc:=onC_inv hc
 obtain ⟨t,ts,rfl,hc⟩:=hc
 replace hc:=onC_inv hc
 obtain ⟨l,es,rfl,hc⟩:=hc
 replace hc:=and2 hc
 obtain ⟨hy,hc⟩:=hc
 replace hc:=and2 hc
 obtain ⟨he,hc⟩:=hc
 replace hc:=and2 hc
 obtain ⟨hn,hc⟩:=hc
 replace hc:=and2 hc
 obtain ⟨hd,hc⟩:=hc
 replace hc:=and2 hc
 obtain ⟨hl,hc⟩:=hc
 replace hc:=and2 hc
 obtain ⟨h60,hc⟩:=hc
 replace hy:=onName_inv hy
 obtain ⟨y,py,rfl,hy⟩:=hy
 replace he:=onList_inv he
 obtain ⟨l,pl,rfl,he⟩:=he
 obtain rfl:l=_:=nil_of he
 replace hl:=eq_of_beq hl
 replace h60:=of_decide_eq_true h60
 obtain ⟨hlv,h⟩:=h
 ·refine tupleStoreV (k:=k) (HS0:=HS0) (is:=i::is) sd hlv (and2_mk hy hn) hd rfl (fun e he=>by
   rcases List.mem_cons.mp he with rfl |he
   ·rfl
   ·exact chkEs_plain hc e he) ?_
  refine Tuple_ (wpAny_items_cons (newEmpty_ok sd x fun a s₁ n x₁ h0 hw hB ho hap=>?_) rfl)
  refine wpAny_mono ((pes_ok HN (HG lv) hR ps).es hc x₁.st h) ?_ fun _ _ e=>x₁.exc sd hG e
  rintro vs s₂ ⟨ds,⟨hq,hlen⟩,r,y₂,z₂⟩
  have x₂:=x₁.ev sd y₂ z₂
  have ho₂:s₂.heap.get? a=some { cls := .type "list",data := .seq #[] n }:=y₂.keep _ _ ho (x₁.st.amb.notFS ho fun _ _ q=>by cases q)
  refine wpAny_newTuple ?_ (by rw [List.length_cons,r.length,hlen,sizeLine_eq];exact linL fun q=>lin [_] [(1,0,.v 0,.n 60),(1,0,.a (.n 16777216) (.n 1),.a (.v 0) (.n 1))] rfl h60 q)
  have kk:∀ b o,s₂.heap.get? b=some o→(s₂.heap.push { cls := .type "tuple",data := .seq (.ref a::vs).toArray }).get? b=some o:=fun b o e=>Heap.get?_push_of_some _ e
  have haL:L≠a:=by
   obtain ⟨m,hm,_⟩:=x₂.st.loc
   rintro rfl
   exact ns_notseq hm ho₂ rfl
  have hi:i ∉ is:=(List.nodup_cons.mp (noDup_nodup hd)).1
  have x₃:=(((x₂.un i).reoa (oa':=fun j=>if j=i then a else match ρ[j]? with |some (.own _)=>oa j |_=>L) fun j ds hj=>by
   by_cases hji:j=i
   ·subst hji
    rw [List.getElem?_set] at hj
    simp only [if_true] at hj
    split at hj <;> cases hj
   ·rw [List.getElem?_set_ne (Ne.symm hji)] at hj
    simp [hji,hj]).ev sd (s':={ s₂ with heap:=s₂.heap.push { cls := .type "tuple",data := .seq (.ref a::vs).toArray } }) (Ev.of_keeps kk) ⟨rfl,rfl,rfl⟩)
  refine ⟨_,_,_,.own []::ds.map .d,_,(.ref a::vs).toArray,rfl,⟨_,Heap.get?_push_size _ rfl,rfl,_,rfl⟩,?_,x₃,fun s'' x''=>?_⟩
  ·refine .cons ⟨rfl,by simp,by simp,by simpa using h0,by simpa using hw.symm,by simpa using hB,⟨n,by simpa using kk _ _ ho₂⟩,fun j hj=>?_⟩ (AllCan.of_rd (r.mono (fun b o e _=>kk b o e) fun _ _ _ q=>q) (by rw [hlen,hl]))
   simp only [hj,if_false,if_true]
   split
   ·rename_i ds' hj'
    exact hap j ds' hj'
   ·exact haL
  ·have e:setAllV (ρ.set i Val.un) (i::is) (.own []::ds.map .d)=(setAll ρ is ds).set i (.own []):=by
    show setAllV ((ρ.set i Val.un).set i (.own [])) is (ds.map .d)=_
    rw [List.set_set,setAllV_d,setAll_set is ds ρ hi]
   rw [e] at x''
   exact ⟨_,_,_,_,hq,x'',rfl⟩
end
end Mine
end
section
open PySem PySem.W PyProof.Rows
set_option maxRecDepth 100000
namespace Mine
section
variable {X:Cx} {Φ:Nat→List PyData→RR→Prop} {req:Nat→Nat} {A:Around} {env:Env} {L:Addr} {FS0:List Addr} {HS0 HS W:Addr→Prop} {sc:Sc} {nm:List Str} {k lv:Nat} {s₀ s:Shared} {oa:Nat→Addr} {ρ:Loc} {Q:Out→Prop}
variable (HN:NamesOK X) (HG:∀ lv f,f<k→req f≤lv→Contract X Φ f lv) {fI:Addr} (hR:raisedIn X.K X.rc fI=true)
theorem XP.mono {Q Q':Out→Prop} (hq:∀ x,Q (.exc x)→Q' (.exc x)) {v:Value} {s:Shared} (x:XP X A L FS0 HS0 lv s₀ Q v s):XP X A L FS0 HS0 lv s₀ Q' v s:=by
 obtain ⟨e,x,r,h,f,z⟩:=x
 exact ⟨e,x,r,hq _ h,f,z⟩
theorem XP.noted (sd:Sd X A env L FS0 W nm s₀) (hG:∀ x,Q (.exc x)→Rs X A L FS0 W lv s₀) {v:Value} {s:Shared} (x:XP X A L FS0 HS0 lv s₀ Q v s) {E:Value→Shared→Prop} (h:∀ v s,XP X A L FS0 HS0 lv s₀ Q v s→E v s) :
  notedBy X.M A env (fun e s'=>cameBackBy X.M A env E e s') v s:=by
 obtain ⟨e,ex,rfl,hq,f,z⟩:=x
 obtain ⟨l,hl⟩:=sd.frames
 have g:=(hG ex hq).gr
 exact noted_ok g hl sd.frame f fun h' f' t=>cameBack_ok (s:={ s with heap:=h' }) g f' t fun h'' f'' _=>h _ _ ⟨e,ex,rfl,hq,f'',⟨z.1,z.2,z.3⟩⟩
theorem FP.use {f:Flow} {s:Shared} (h:FP X A env L FS0 HS0 W sc nm k lv s₀ Q f s) {G:Prop} (n:∀ HS oa ρ,f = .next→Q (.nxt ρ)→Sx X A env L FS0 HS0 W sc nm k lv s₀ HS oa ρ s→G) (b:∀ HS oa ρ,f = .brk→Q (.brk ρ)→Sx X A env L FS0 HS0 W sc nm k lv s₀ HS oa ρ s→G)
  (r:∀ HS oa ρ d v,f = .ret v→Q (.ret d)→Sx X A env L FS0 HS0 W sc nm k lv s₀ HS oa ρ s→Rd HS0 s.heap v d→G):G:=by
 obtain ⟨o,HS,oa,ρ,ho,x,hf⟩:=h
 cases o with
 |nxt ρ₂=>
  cases f <;> first |exact hf.elim |(obtain rfl:ρ₂=ρ:=hf;exact n _ _ _ rfl ho x)
 |brk ρ₂=>
  cases f <;> first |exact hf.elim |(obtain rfl:ρ₂=ρ:=hf;exact b _ _ _ rfl ho x)
 |ret d=>cases f <;> first |exact hf.elim |exact r _ _ _ _ _ rfl ho x hf
 |exc e=>cases f <;> exact hf.elim
theorem FP.mono {Q':Out→Prop} {f:Flow} {s:Shared} (h:FP X A env L FS0 HS0 W sc nm k lv s₀ Q f s) (g:∀ o,Q o→Q' o):FP X A env L FS0 HS0 W sc nm k lv s₀ Q' f s:=by
 cases h with
 |mk o HS oa ρ a x r=>exact ⟨o,HS,oa,ρ,g o a,x,r⟩
include HN HG hR in
theorem ps_whl {t:PE} {b:List PS} (ihb:PSsok X Φ req sc nm k b):PSok X Φ req sc nm k (.whl t b):=by
 intro A env L FS0 HS0 W lv s₀ HS oa ρ s st Q sd hG hc x h
 obtain ⟨t',b',el,pos,rfl,hc⟩:=onWhl_inv hc
 replace hc:=and2 hc
 obtain ⟨hel,hc⟩:=hc
 rw [nil_of hel]
 replace hc:=and2 hc
 obtain ⟨n,h⟩:=h
 refine wpAny_While (codeAny_whileLoop (fun n s'=>∃ HS oa ρ,Sx X A env L FS0 HS0 W sc nm k lv s₀ HS oa ρ s'∧loopW (PE.wp Φ req k lv t) (fun ρ Q=>PS.wps Φ req k lv b ρ Q) Q n ρ) ?_ n ⟨HS,oa,ρ,x,h⟩)
 rintro n s' ⟨HS,oa,ρ,x,h⟩
 cases n with
 |zero=>exact h.elim
 |succ n=>
  refine wpAny_mono (ext_ok (Q1:=fun c=>if c=true then PS.wps Φ req k lv b ρ (lq (loopW (PE.wp Φ req k lv t) (fun ρ Q=>PS.wps Φ req k lv b ρ Q) Q n) Q) else Q (.nxt ρ)) HN HG hR sd hG hc.1 x h fun c s₂ hq x₂=>?_) (fun _ _ e=>e) fun v s₂ e=>e.noted sd hG fun _ _ q=>q
  cases c with
  |false=>exact wpAny_execs_nil ⟨_,HS,oa,_,hq,x₂,rfl⟩
  |true=>
   refine wpAny_mono (ihb (Q:=lq (loopW (PE.wp Φ req k lv t) (fun ρ Q=>PS.wps Φ req k lv b ρ Q) Q n) Q) sd hG hc.2 x₂ hq) (fun f s₃ q=>q.use ?_ ?_ ?_) fun v s₂ e=>(e.mono (Q:=lq (loopW (PE.wp Φ req k lv t) (fun ρ Q=>PS.wps Φ req k lv b ρ Q) Q n) Q) (Q':=Q) fun _ q=>q).noted sd hG fun _ _ q=>q
   ·rintro HS' oa' ρ' rfl ho x₃
    exact ⟨n,Nat.lt_succ_self n,HS',oa',ρ',x₃,ho⟩
   ·rintro HS' oa' ρ' rfl ho x₃
    exact ⟨_,HS',oa',_,ho,x₃,rfl⟩
   ·rintro HS' oa' ρ' d v rfl ho x₃ hf
    exact ⟨_,HS',oa',_,ho,x₃,hf⟩
end
end Mine
end
section
open PySem PySem.W PyProof.Rows
set_option maxRecDepth 100000
namespace Mine
section
variable {X:Cx} {Φ:Nat→List PyData→RR→Prop} {req:Nat→Nat} {A A':Around} {env:Env} {L:Addr} {FS0:List Addr} {HS0 HS HS' W:Addr→Prop} {sc:Sc} {nm:List Str} {k lv lv':Nat} {s₀ s₁ s:Shared} {oa oa':Nat→Addr} {ρ ρ':Loc} {Q:Out→Prop}
variable (HN:NamesOK X) (HG:∀ lv f,f<k→req f≤lv→Contract X Φ f lv) {fI:Addr} (hR:raisedIn X.K X.rc fI=true)
noncomputable def Turn (L:Addr) (FS0:List Addr) (HS0 HS:Addr→Prop) (b:Addr):Prop:=b ∈ L::FS0∨(HS b∧¬ HS0 b)
theorem Sx.rebase {W₁:Addr→Prop} (x:Sx X A env L FS0 HS0 W sc nm k lv s₀ HS oa ρ s) (hW:∀ b,Turn L FS0 HS0 HS b→W₁ b):Sx X A env L FS0 HS0 W₁ sc nm k lv s HS oa ρ s:=
 ⟨x.st,x.sub,fun i ds hi=>let ⟨o1,o2,o3,o4,o5⟩:=x.own i ds hi;⟨o1,o2,.inl (hW _ (.inr ⟨o1,o2⟩)),o4,o5⟩,.refl _ _ _,.refl _,fun b hb=>by
   by_cases h0:HS0 b
   ·exact .inl h0
   ·exact .inr (.inr (.inl (hW _ (.inr ⟨hb,h0⟩))))⟩
theorem Sd.rebase {W₁:Addr→Prop} (sd:Sd X A env L FS0 W nm s₀) (hh:A.handled=none) (hW:∀ b,Turn L FS0 HS0 HS b→W₁ b):Sd X A env L FS0 W₁ nm s:=⟨sd.frames,sd.frame,fun b hb=>hW _ (.inl (.tail _ hb)),.inl (hW _ (.inl (.head _))),sd.off,sd.nodup,fun e q=>by rw [hh] at q;cases q⟩
theorem Sx.none_ (x:Sx X A env L FS0 HS0 W sc nm k lv s₀ HS oa ρ s) {b:Addr} (h:s.heap.get? b=none):W b∨s₀.heap.get? b=none:=by
 cases q:s₀.heap.get? b with
 |none=>exact .inr rfl
 |some o=>
  by_cases w:W b
  ·exact .inl w
  ·rw [x.ek.keep _ o q w] at h;cases h
theorem Sx.turn_ (sd:Sd X A env L FS0 W nm s₀) (x:Sx X A env L FS0 HS0 W sc nm k lv s₀ HS oa ρ s₁) {b:Addr} (w:Turn L FS0 HS0 HS b):W b∨s₀.heap.get? b=none:=by
 rcases w with w |⟨w1,w2⟩
 ·rcases List.mem_cons.mp w with rfl |w
  ·exact sd.new
  ·exact .inl (sd.fs b w)
 ·rcases x.lim b w1 with z |rfl |z |z
  ·exact absurd z w2
  ·exact sd.new
  ·exact .inl z
  ·exact .inr z
theorem Sx.unbase {W₁:Addr→Prop} (sd:Sd X A env L FS0 W nm s₀) (x:Sx X A env L FS0 HS0 W sc nm k lv s₀ HS oa ρ s₁) (hW:∀ b,W₁ b→W b∨s₀.heap.get? b=none) (x':Sx X A env L FS0 HS0 W₁ sc nm k lv s₁ HS' oa' ρ' s):Sx X A env L FS0 HS0 W sc nm k lv s₀ HS' oa' ρ' s:=by
 have ek:Ek W FS0 s₀.heap s.heap:=by
  refine ⟨fun b o e n=>x'.ek.keep b o (x.ek.keep b o e n) fun w=>?_,fun b hb m e=>x'.ek.fr b hb m (x.ek.fr b hb m e)⟩
  rcases hW b w with z |z
  ·exact n z
  ·rw [z] at e;cases e
 refine ⟨x'.st,x'.sub,fun i ds hi=>?_,ek,x.same.trans x'.same,fun b hb=>?_⟩
 ·refine hid fun G hG=>?_
  obtain ⟨o1,o2,o3,o4,o5⟩:=x'.own i ds hi
  refine hG ?_
  refine ⟨o1,o2,?_,o4,o5⟩
  rcases o3 with w |w
  ·exact hW _ w
  ·exact x.none_ w
 ·rcases x'.lim b hb with z |z |z |z
  ·exact .inl z
  ·exact .inr (.inl z)
  ·exact .inr (.inr (hW b z))
  ·exact .inr (.inr (x.none_ z))
theorem Sx.rd {W₁:Addr→Prop} (x₁:St X A env L (L::FS0) HS sc nm oa ρ k lv s₁.heap) (hs:∀ b,HS0 b→HS b) (hW:∀ b o vs n,s₁.heap.get? b=some o→o.data = .seq vs n→W₁ b→Turn L FS0 HS0 HS b)
  (x':Sx X A' env L FS0 HS0 W₁ sc nm k lv' s₁ HS' oa' ρ' s) {v:Value} {d:PyData} (r:Rd HS s₁.heap v d):Rd HS' s.heap v d:=by
 have notTurn:∀ b,¬ HS b→¬ Turn L FS0 HS0 HS b:=fun b hb w=>by
  rcases w with w |w
  ·exact hb (x₁.hsf b w)
  ·exact hb w.1
 refine r.monoS (fun b o vs n e q hb=>x'.ek.keep b o e fun w=>notTurn b hb (hW b o vs n e q w)) fun b o vs n e q w=>?_
 by_cases hb:HS b
 ·exact hb
 ·rcases x'.lim b w with z |z |z |z
  ·exact hs b z
  ·rw [z];exact x₁.lhs
  ·exact absurd (hW b o vs n e q z) (notTurn b hb)
  ·rw [e] at z;cases z
theorem Sx.but (sd:Sd X A env L FS0 W nm s₀) (x:Sx X A env L FS0 HS0 W sc nm k lv s₀ HS oa ρ s) (hh:A.handled=none) {I:Addr} {h':Heap} {tk:Nat} (hk:∀ b o,b≠I→s.heap.get? b=some o→h'.get? b=some o)
  (hI:∀ o,s.heap.get? I=some o→(∃ ws,o.data = .fields ws)∧∃ T,o.cls = .type T) (hB:X.B0.get? I=none) (hHI:¬ HS I) (hW:W I∨s₀.heap.get? I=none) :
  Sx X A env L FS0 HS0 W sc nm k lv s₀ HS oa ρ { s with heap:=h',toks:=tk }:=by
 have nsk:∀ b m,s.heap.Ns b m→h'.Ns b m:=fun b m ⟨o,es,ep,ho,hd,r⟩=>⟨o,es,ep,hk b o (fun q=>by
  rw [q] at ho
  obtain ⟨⟨ws,w⟩,_⟩:=hI o ho
  rw [hd] at w;cases w) ho,hd,r⟩
 have seqk:∀ b o vs n,s.heap.get? b=some o→o.data = .seq vs n→h'.get? b=some o:=fun b o vs n e q=>hk b o (fun z=>by
  rw [z] at e
  obtain ⟨⟨ws,w⟩,_⟩:=hI o e
  rw [q] at w;cases w) e
 have rdk:∀ v d,Rd HS s.heap v d→Rd HS h' v d:=fun v d r=>r.monoS (fun b o vs n e q _=>seqk b o vs n e q) fun _ _ _ _ _ _ q=>q
 obtain ⟨m,hm,hl⟩:=x.st.loc
 refine ⟨⟨⟨fun b o e=>hk b o (fun q=>by rw [q,hB] at e;cases e) (x.st.amb.base b o e),?_,x.st.amb.hand.1,(by intro _ v hv;rw [hh] at hv;cases hv),x.st.amb.hand.2.2⟩,x.st.env,⟨m,nsk _ _ hm,fun j y hy=>?_⟩,x.st.len,x.st.hsf,fun b hb=>?_,x.st.lhs,x.st.dep,x.st.uni,x.st.hsn⟩,x.sub,x.own,⟨fun b o e n=>hk b o (fun q=>?_) (x.ek.keep b o e n),fun b hb m e=>nsk b m (x.ek.fr b hb m e)⟩,⟨x.same.1,x.same.2,x.same.3⟩,x.lim⟩
 ·refine hid fun G hG=>?_
  obtain ⟨l,hA,hfs,hl⟩:=x.st.amb.frs
  refine hG ?_
  refine ⟨l,hA,hfs,fun env he=>?_⟩
  refine hid fun G hG=>?_
  obtain ⟨kk,L',hL',hn',m',hm'⟩:=hl env he
  refine hG ?_
  exact ⟨kk,L',hL',hn',m',nsk _ _ hm'⟩
 ·have:=hl j y hy
  revert this
  rcases hj:ρ[j]? with _ |(_ |d |ds₂ |ex)
  ·exact id
  ·exact id
  ·rintro ⟨v,hv,q⟩;exact ⟨v,hv,rdk _ _ q⟩
  ·rintro ⟨hv,vs₂,n₂,ho₂,q⟩
   exact ⟨hv,vs₂,n₂,seqk _ _ _ _ ho₂ rfl,q.monoS (fun b o vs n e q _=>seqk b o vs n e q) fun _ _ _ _ _ _ q=>q⟩
  ·rintro ⟨a',hv,d,sl,ws,m',t,u,v,he,hd,hn',h1,h2,h3,q⟩
   refine ⟨a',hv,d,sl,ws,m',t,u,v,hk _ _ ?_ he,hd,nsk _ _ hn',h1,h2,h3,rdk _ _ q⟩
   rintro rfl
   obtain ⟨_,T,w⟩:=hI _ he
   cases w
 ·obtain ⟨o,ho⟩:=x.st.hsb b hb
  exact ⟨o,hk b o (fun q=>hHI (q▸hb)) ho⟩
 ·rcases hW with w |w
  ·exact n (q▸w)
  ·rw [q,w] at e;cases e
theorem Rd.off {b:Addr} {d:PyData} {h:Heap} (r:Rd HS h (.ref b) d):¬ HS b:=by cases r <;> assumption
theorem for_ok {i:Nat} {b:List PS} {y:Str} {py:Pos} {b':List Stmt} {I:Addr} {fp:List Addr} {n:Nat} {P:Nat→Value→Prop} {St:Nat→Heap→Prop} {xs:List PyData} (ihb:PSsok X Φ req sc nm k b) (sd:Sd X A env L FS0 W nm s₀)
  (hy:isL sc nm i y=true) (hcb:chkSs X.fn sc nm b b'=true) (hh:A.handled=none) (x:Sx X A env L FS0 HS0 W sc nm k lv s₀ HS oa ρ s) (wk:Walks X.prog X.w A I fp [I] n P St) (hn:n=xs.length)
  (hfp:∀ b ∈ fp,b=I∨∃ d,Rd HS s.heap (.ref b) d) (hIn:I ∉ L::FS0) (hHI:¬ HS I) (hI0:W I∨s₀.heap.get? I=none) (hIB:X.B0.get? I=none) (hst:St 0 s.heap)
  (hIe:∀ j h,St j h→∃ o,h.get? I=some o∧(∃ ws,o.data = .fields ws)∧∃ T,o.cls = .type T)
  (hP:∀ j v HS' h d,P j v→xs[j]?=some d→(∀ v d,Rd HS s.heap v d→Rd HS' h v d)→Rd HS' h v d)
  (h:forW i (fun ρ Q=>PS.wps Φ req k lv b ρ Q) Q xs ρ) :
  codeAny X.M A (.forLoop (.Name y py) (.ref I) b' [] env) (fun r s'=>match r with
   | .ok f=>FP X A env L FS0 HS0 W sc nm k lv s₀ Q f s'
   | .error e=>cameBackBy X.M A env (XP X A L FS0 HS0 lv s₀ Q) e s') s:=by
 have hIHS0:¬ HS0 I:=fun q=>hHI (x.sub I q)
 have hIo:∀ j h,St j h→∀ o,h.get? I=some o→(∃ ws,o.data = .fields ws)∧∃ T,o.cls = .type T:=fun j h q o ho=>by
  obtain ⟨o',ho',r⟩:=hIe j h q
  rw [ho] at ho';cases ho';exact r
 let W₁:Addr→Prop:=fun b=>Turn L FS0 HS0 HS b∨b=I
 have hW₁:∀ b,W₁ b→W b∨s₀.heap.get? b=none:=fun b w=>by
  rcases w with w |rfl
  ·exact x.turn_ sd w
  ·exact hI0
 have sd₁:Sd X A env L FS0 W₁ nm s:=sd.rebase hh fun b w => .inl w
 refine codeAny_forLoop (fun nn s'=>∃ j HS' oa' ρ',nn=xs.length+1 - j∧j≤xs.length∧Sx X A env L FS0 HS0 W₁ sc nm k lv s HS' oa' ρ' s'∧¬ HS' I∧St j s'.heap∧forW i (fun ρ Q=>PS.wps Φ req k lv b ρ Q) Q (xs.drop j) ρ') ?_ (xs.length+1)
  ⟨0,HS,oa,ρ,rfl,Nat.zero_le _,x.rebase fun b w => .inl w,hHI,hst,h⟩
 rintro nn s' ⟨j,HS',oa',ρ',rfl,hj,x',hHI',hst',hf⟩
 have hIs:∀ o,s'.heap.get? I=some o→(∃ ws,o.data = .fields ws)∧∃ T,o.cls = .type T:=hIo j _ hst'
 by_cases hlt:j<xs.length
 ·refine wk.item j s' _ _ (by exact linT fun q=>lin [_,_,_] [(1,2,.v 0,.v 1),(1,0,.a (.v 2) (.n 1),.v 1),(1,0,.v 0,.v 2)] rfl hn hlt q) hst' fun v h₂ tk₂ hv hst₂ hk₂=>?_
  have x₂:=x'.but sd₁ hh (h':=h₂) (tk:=tk₂) (fun b o hb e=>hk₂ b o (by simpa using hb) e) hIs hIB hHI' (.inl (.inr rfl))
  have rdk:∀ v d,Rd HS s.heap v d→Rd HS' h₂ v d:=fun v d r=>by
   have r':Rd HS' s'.heap v d:=Sx.rd x.st x.sub (fun b o vs n e q w=>by
    rcases w with w |rfl
    ·exact w
    ·obtain ⟨⟨ws,z⟩,_⟩:=hIo 0 _ hst o e
     rw [q] at z;cases z) x' r
   refine r'.monoS (fun b o vs n e q _=>hk₂ b o (fun z=>?_) e) fun _ _ _ _ _ _ q=>q
   have z:b=I:=by simpa using z
   rw [z] at e
   obtain ⟨⟨ws,z⟩,_⟩:=hIs o e
   rw [q] at z;cases z
  obtain ⟨d,hd⟩:∃ d,xs[j]?=some d:=⟨xs[j],by simp [hlt]⟩
  have rv:Rd HS' h₂ v d:=hP j v HS' h₂ d hv hd rdk
  rw [List.drop_eq_getElem_cons hlt,show xs[j]=d from Option.some.inj ((List.getElem?_eq_getElem hlt).symm.trans hd)] at hf
  refine wpAny_assign_Name (store_ok sd₁ x₂ hy (nv := .d d) rv fun s₃ x₃ sb₃=>?_)
  have hneL:∀ b ∈ fp,b≠L:=fun b hb q=>by
   rcases hfp b hb with z |⟨d',r⟩
   ·exact hIn (by rw [← z,q];exact .head _)
   ·have r':=rdk _ _ r
    rw [q] at r'
    have hL:=x₂.st.lhs
    exact r'.off hL
  have hst₃:St (j+1) s₃.heap:=wk.frame (j+1) h₂ _ hst₂ fun b hb o e=>(sb₃.2 b (hneL b hb)).trans e
  have x₄:=x₃.rebase (W₁:=Turn L FS0 HS0 HS') fun _ w=>w
  have fin:∀ s₅ HS₅ oa₅ ρ₅,Sx X A env L FS0 HS0 (Turn L FS0 HS0 HS') sc nm k lv s₃ HS₅ oa₅ ρ₅ s₅→Sx X A env L FS0 HS0 W₁ sc nm k lv s HS₅ oa₅ ρ₅ s₅∧¬ HS₅ I∧St (j+1) s₅.heap:=fun s₅ HS₅ oa₅ ρ₅ x₅=>by
   have x₆:=x₃.unbase sd₁ (fun b w=>x₃.turn_ sd₁ w) x₅
   have nT:∀ b,b ∉ L::FS0→¬ HS' b→¬ Turn L FS0 HS0 HS' b:=fun b h1 h2 w=>by
    rcases w with w |w
    ·exact h1 w
    ·exact h2 w.1
   have hst₅:St (j+1) s₅.heap:=wk.frame (j+1) _ _ hst₃ fun b hb o e=>by
    refine x₅.ek.keep b o e ?_
    rcases hfp b hb with z |⟨d',r⟩
    ·rw [z];exact nT I hIn hHI'
    ·have r':=rdk _ _ r
     have nh:¬ HS' b:=r'.off
     exact nT b (fun hm=>nh (x₃.st.hsf b hm)) nh
   have hHI₅:¬ HS₅ I:=fun q=>by
    rcases x₅.lim I q with z |z |z |z
    ·exact hIHS0 z
    ·exact hIn (z ▸ .head _)
    ·exact nT I hIn hHI' z
    ·obtain ⟨o,ho,_⟩:=hIe _ _ hst₃
     rw [ho] at z;cases z
   exact ⟨x₆,hHI₅,hst₅⟩
  refine wpAny_mono (ihb (Q:=fq (forW i (fun ρ Q=>PS.wps Φ req k lv b ρ Q) Q (xs.drop (j+1))) Q) (sd₁.rebase hh (W₁:=Turn L FS0 HS0 HS') fun _ w=>w) (fun _ q=>q.elim) hcb x₄ hf) (fun f s₅ q=>q.use ?_ ?_ ?_) fun v s₅ e=>?_
  ·rintro HS₅ oa₅ ρ₅ rfl ho x₅
   obtain ⟨x₆,hHI₅,hst₅⟩:=fin _ _ _ _ x₅
   exact ⟨_,Nat.sub_lt_sub_left (Nat.lt_succ_of_lt hlt) (Nat.lt_succ_self j),j+1,HS₅,oa₅,ρ₅,rfl,hlt,x₆,hHI₅,hst₅,ho⟩
  ·rintro HS₅ oa₅ ρ₅ rfl ho x₅
   exact ⟨_,HS₅,oa₅,_,ho,x.unbase sd hW₁ (fin _ _ _ _ x₅).1,rfl⟩
  ·rintro HS₅ oa₅ ρ₅ d v rfl ho x₅ hfl
   exact ⟨_,HS₅,oa₅,_,ho,x.unbase sd hW₁ (fin _ _ _ _ x₅).1,hfl⟩
  ·refine hid fun G hG=>?_
   obtain ⟨_,_,_,q,_⟩:=e
   refine hG ?_
   exact q.elim
 ·obtain rfl:j=xs.length:=by exact linE (fun q=>lin [_,_] [(1,0,.v 0,.v 1),(1,0,.a (.v 1) (.n 1),.v 0)] rfl hj q) fun q=>lin [_,_] [(1,0,.v 0,.v 1),(1,0,.a (.v 1) (.n 1),.v 0)] rfl (Nat.le_of_not_lt hlt) q
  rw [List.drop_eq_nil_of_le (Nat.le_refl _)] at hf
  refine wk.done s' _ _ (by rw [hn];exact hst') fun h₂ tk₂ hk₂=>wpAny_execs_nil ?_
  have x₂:=x'.but sd₁ hh (h':=h₂) (tk:=tk₂) (fun b o hb e=>hk₂ b o (by simpa using hb) e) hIs hIB hHI' (.inl (.inr rfl))
  exact ⟨_,HS',oa',_,hf,x.unbase sd hW₁ x₂,rfl⟩
include HN HG hR in
theorem ps_forS {i:Nat} {p:PE} {b:List PS} (ihb:PSsok X Φ req sc nm k b):PSok X Φ req sc nm k (.forS i p b):=by
 intro A env L FS0 HS0 W lv s₀ HS oa ρ s st Q sd hG hc x h
 obtain ⟨y,py,e,b',pos,rfl,hc⟩:=onFor1_inv hc
 replace hc:=and2 hc
 obtain ⟨hy,hc⟩:=hc
 replace hc:=and2 hc
 obtain ⟨hu,hc⟩:=hc
 replace hc:=and2 hc
 obtain ⟨hc,hcb⟩:=hc
 obtain ⟨hlv,h⟩:=h
 ·refine wpAny_For (ex_ok HN HG hR sd hG hc x h fun v d s₁ hq x₁ r=>?_) (unmarked_fold hu env)
  refine hid fun G hG=>?_
  obtain ⟨xx,tt,e₀,hlim,hf⟩:=strP.use r hq
  refine hG ?_
  rw [e₀]
  have hh:A.handled=none:=x₁.st.amb.hand.1 hlv
  have hn:s₁.heap.get? s₁.heap.objs.size=none:=Heap.get?_none_of_le (Nat.le_refl _)
  have go:∀ (ty:String) (St:Nat→Heap→Prop),St=(fun i h=>h.IsStrIter s₁.heap.objs.size ty xx tt i)→(Walks X.prog X.w A s₁.heap.objs.size [s₁.heap.objs.size] [s₁.heap.objs.size] xx.cps.size (SignAt xx) St) →
    codeAny X.M A (.forLoop (.Name y py) (.ref s₁.heap.objs.size) b' [] env) (fun r s'=>match r with
     | .ok f=>FP X A env L FS0 HS0 W sc nm k lv s₀ Q f s'
     | .error e=>cameBackBy X.M A env (XP X A L FS0 HS0 lv s₀ Q) e s') { s₁ with heap:=s₁.heap.push { cls := .type ty,data := .fields #[.str xx tt,.int 0 0] } }:=by
   rintro ty St rfl wk
   have x₂:=x₁.ev sd (s':={ s₁ with heap:=s₁.heap.push { cls := .type ty,data := .fields #[.str xx tt,.int 0 0] } }) (Ev.push _ _ _) ⟨rfl,rfl,rfl⟩
   refine for_ok (n:=xx.cps.size) ihb sd hy hcb hh x₂ wk (by simp) (fun b hb => .inl (by simpa using hb)) (fun hm=>?_) (x₁.st.new hn) (x₁.none_ hn) ?_ ⟨_,Heap.get?_push_size _ rfl,rfl,rfl⟩ (fun j h ⟨o,ho,h1,h2⟩=>⟨o,ho,⟨_,h2⟩,⟨_,h1⟩⟩) (fun j v HS' h d hv hd _=>?_) hf
   ·refine hid fun G hG=>?_
    obtain ⟨_,m,o,_,_,ho,_⟩:=x₁.st.amb.fsNs hm
    refine hG ?_
    rw [hn] at ho;cases ho
   ·cases q:X.B0.get? s₁.heap.objs.size with
    |none=>rfl
    |some o=>rw [x₁.st.amb.base _ o q] at hn;cases hn
   ·refine hid fun G hG=>?_
    obtain ⟨c,u,hc,rfl⟩:=hv
    refine hG ?_
    rw [List.getElem?_map,Array.getElem?_toList,hc] at hd
    cases hd
    exact .str _ _
  cases ha:xx.cps.all (· < 128)
  ·exact wpAny_pyIter_wide ha (go _ _ rfl (Walks.strWide hh _ xx tt))
  ·exact wpAny_pyIter_ascii ha (go _ _ rfl (Walks.strAscii hh _ xx tt))
include HN HG hR in
theorem ps_forL {i:Nat} {p:PE} {b:List PS} (ihb:PSsok X Φ req sc nm k b):PSok X Φ req sc nm k (.forL i p b):=by
 intro A env L FS0 HS0 W lv s₀ HS oa ρ s st Q sd hG hc x h
 obtain ⟨y,py,e,b',pos,rfl,hc⟩:=onFor1_inv hc
 replace hc:=and2 hc
 obtain ⟨hy,hc⟩:=hc
 replace hc:=and2 hc
 obtain ⟨hu,hc⟩:=hc
 replace hc:=and2 hc
 obtain ⟨hc,hcb⟩:=hc
 obtain ⟨hlv,h⟩:=h
 ·refine wpAny_For (ex_ok HN HG hR sd hG hc x h fun v d s₁ hq x₁ r=>?_) (unmarked_fold hu env)
  refine hid fun G hG=>?_
  obtain ⟨xs,⟨T,dd,vs,n,sl,e₀,ho,hnT,rs⟩,hlim,hf⟩:=listP.use r hq
  refine hG ?_
  rw [e₀]
  have hh:A.handled=none:=x₁.st.amb.hand.1 hlv
  have hn:s₁.heap.get? s₁.heap.objs.size=none:=Heap.get?_none_of_le (Nat.le_refl _)
  have hT:s₁.heap.IsList T vs:=⟨_,ho,rfl,_,rfl⟩
  have hTn:T≠s₁.heap.objs.size:=Nat.ne_of_lt (Heap.lt_size ho)
  have hlen:vs.size=xs.length:=by have:=rs.length;rwa [Array.length_toList] at this
  refine wpAny_pyIter_list hT ?_
  have x₂:=x₁.ev sd (s':={ s₁ with heap:=s₁.heap.push { cls := .type "list_iterator",data := .fields #[.ref T,.int 0 0] } }) (Ev.push _ _ _) ⟨rfl,rfl,rfl⟩
  refine for_ok (n:=vs.size) ihb sd hy hcb hh x₂ (Walks.list hh _ T hTn vs) hlen (fun b hb=>?_) (fun hm=>?_) (x₁.st.new hn) (x₁.none_ hn) ?_ ⟨⟨_,Heap.get?_push_size _ rfl,rfl,rfl⟩,⟨_,Heap.get?_push_of_some _ ho,rfl,_,rfl⟩⟩ (fun j h ⟨⟨o,ho,h1,h2⟩,_⟩=>⟨o,ho,⟨_,h2⟩,⟨_,h1⟩⟩) (fun j v HS' h d hv hd hk=>?_) hf
  ·rcases List.mem_cons.mp hb with z |hb
   ·exact .inl z
   ·obtain rfl:b=T:=by simpa using hb
    exact .inr ⟨.list xs,.list (Heap.get?_push_of_some _ ho) hnT (rs.push _)⟩
  ·refine hid fun G hG=>?_
   obtain ⟨_,m,o,_,_,ho,_⟩:=x₁.st.amb.fsNs hm
   refine hG ?_
   rw [hn] at ho;cases ho
  ·cases q:X.B0.get? s₁.heap.objs.size with
   |none=>rfl
   |some o=>rw [x₁.st.amb.base _ o q] at hn;cases hn
  ·obtain ⟨v',hv',rv⟩:=rs.get hd
   have:vs.toList[j]?=some v:=by simpa using hv
   rw [this] at hv';cases hv'
   exact hk _ _ (rv.push _)
end
end Mine
end
section
open PySem PySem.W PyProof.Rows
open Builtin Builtin.ObjectAttr
set_option maxRecDepth 100000
namespace Mine
theorem lkn_level:typeLookup (.type "Exception") "level"=pure none:=by rw [typeLookup_type,builtinLookup_eq_fast];kernel_rfl
theorem lkn_ret:typeLookup (.type "Exception") "ret"=pure none:=by rw [typeLookup_type,builtinLookup_eq_fast];kernel_rfl
theorem lkn_info:typeLookup (.type "Exception") "info"=pure none:=by rw [typeLookup_type,builtinLookup_eq_fast];kernel_rfl
theorem lkn_is_noted:typeLookup (.type "Exception") "is_noted"=pure none:=by rw [typeLookup_type,builtinLookup_eq_fast];kernel_rfl
theorem lkn_line:typeLookup (.type "Exception") "line"=pure none:=by rw [typeLookup_type,builtinLookup_eq_fast];kernel_rfl
theorem lkn_extra:typeLookup (.type "Exception") "extra"=pure none:=by rw [typeLookup_type,builtinLookup_eq_fast];kernel_rfl
section
variable {prog:Program} {w:World} {A:Around} {E:Value→Shared→Prop} {h:Heap} {g:Array GenState} {d:Drawn} {t:Nat} {os:OsState} {x:Addr} {vs:Array Value} {sl:Array (Option Value)}
 {nm q:Str} {C N:Addr} {bs:List Value} {sn:List Str} {sub:List Value} {ab:Bool} {col:Option Bool} {dd:Option Addr} {k0 k1 k2 k3 k5:Option Value} {newId:String} {mN mA:Str→Option Value} {name:Str} {v:Value}
set_option tactic.hygienic true in
theorem first_entry {tk:Tok} {o:Obj} {Q:Fin→Shared→Prop} {bm:List Value} {B sa owner:String} (SF:StoreFacts B bm sa owner) (hC:h.get? C=some (excClassObj nm q C N bs bm true sn sub ab col dd k0 k1 k2 k3 k5 newId)) (hn:h.Ns N mN) (hna:mN name=none)
  (hB:typeLookup (.type B) name=pure none) (hx:h.get? x=some o) (hc:o.cls = .ref C) (hdn:o.dict=none) (hnc:∀ c,o.data ≠ .cls c) (hfr:o.isFreed=false)
  (hq:∀ h' tk',h'.get? x=some { cls:=o.cls,dict:=some h.objs.size,data:=o.data,slots:=o.slots }→h'.Ns1 h.objs.size (fun y=>if y=name then some v else none) →
    (∀ b o,b≠x→h.get? b=some o→h'.get? b=some o)→Q (.done (.ret .none)) ⟨h',g,d,tk',os⟩) :
  wpAny (model prog w) A (Builtin.«object.__setattr__» ⟨[.ref x,.str name tk,v],[]⟩) Q E ⟨h,g,d,t,os⟩:=by
 have hpass:=SF.passes (.ref x)
 unfold Builtin.«object.__setattr__»
 repeat (first |rw [refuse_eq] |(rw [refuseLoop_ref,hpass]) |(with_reducible refine wpAny_loadPart_at hx ?_;rw [hc]) |with_reducible refine wpAny_mroOf_exc hC ?_ |(with_reducible refine wpAny_typeLookup_exc hC hn SF.mro hB ?_;rw [hna]) |wp_step)
 rw [hdn,if_neg (by simp [typeHasDict])]
 split
 ·rename_i hcd
  cases hcd
 split
 ·rename_i c hcd
  exact absurd hcd (hnc c)
 ·have hx₁:(h.push { cls := .type "dict",data := .dict #[] }).get? x=some o:=Heap.get?_push_of_some _ hx
  have hxs:x≠h.objs.size:=Nat.ne_of_lt (Heap.lt_size hx)
  refine wpAny_bind (wpAny_alloc' ?_)
  refine wpAny_bind (wpAny_update' hx₁ ?_)
  refine wpAny_pure ?_
  have hgd:((h.push { cls := .type "dict",data := .dict #[] }).update x fun o=>{ cls:=o.cls,dict:=some h.objs.size,data:=o.data,slots:=o.slots }).get? h.objs.size
    = some { cls := .type "dict",data := .dict #[] }:=
   (Heap.get?_update_ne _ _ _ _ hxs.symm).trans (Heap.get?_push_at rfl rfl)
  have hnd:((h.push { cls := .type "dict",data := .dict #[] }).update x fun o=>{ cls:=o.cls,dict:=some h.objs.size,data:=o.data,slots:=o.slots }).Ns h.objs.size (fun _=>none):=
   ⟨_,#[],_,hgd,rfl,fun e he=>absurd he (by simp),fun _=>rfl⟩
  have hx₂:((h.push { cls := .type "dict",data := .dict #[] }).update x fun o=>{ cls:=o.cls,dict:=some h.objs.size,data:=o.data,slots:=o.slots }).get? x=some { cls:=o.cls,dict:=some h.objs.size,data:=o.data,slots:=o.slots }:=by
   refine Heap.get?_update_self _ hx₁ ?_
   obtain ⟨oc,od,odt,osl⟩:=o
   cases odt <;> first |rfl |exact hfr
  show wpAny _ _ (storeInDict h.objs.size (.str name tk) name v) _ _ _
  unfold storeInDict newKeyGuard
  refine wpAny_bind (wpAny_pure (wpAny_bind (wpAny_nsSet1 (Heap.Ns1.of_empty hnd) fun h' hn' hs=>?_)))
  obtain ⟨oD,esD,epD,hoD,hdD,hcD⟩:=hn'.count (Within.cons name v Within.nil)
  refine wpAny_bind (wpAny_lookBehind hoD (by rw [hdD];exact pastItsLine_dict (Nat.le_trans hcD (by rw [List.length_cons,List.length_nil,sizeLine_eq];exact linL fun q=>lin [] [(1,0,.a (.a (.n 16777216) (.n 1)) (.n 1),.a (.n 0) (.n 1))] rfl q))) ?_)
  wp_walk
  refine hq h' _ ((hs.2 x hxs).trans hx₂) hn' fun b o hb e=>?_
  exact (hs.2 b (Nat.ne_of_lt (Heap.lt_size e))).trans ((Heap.get?_update_ne _ _ _ _ hb).trans (Heap.get?_push_of_some _ e))
theorem first_call {tk:Tok} {o:Obj} {R:Result→Shared→Prop} {bm:List Value} {B sa owner:String} (SF:StoreFacts B bm sa owner) (hC:h.get? C=some (excClassObj nm q C N bs bm true sn sub ab col dd k0 k1 k2 k3 k5 newId)) (hn:h.Ns N mN) (hna:mN name=none)
  (hB:typeLookup (.type B) name=pure none) (hx:h.get? x=some o) (hc:o.cls = .ref C) (hdn:o.dict=none) (hnc:∀ c,o.data ≠ .cls c) (hfr:o.isFreed=false)
  (hq:∀ h' tk',h'.get? x=some { cls:=o.cls,dict:=some h.objs.size,data:=o.data,slots:=o.slots }→h'.Ns1 h.objs.size (fun y=>if y=name then some v else none) →
    (∀ b o,b≠x→h.get? b=some o→h'.get? b=some o)→R (.ok (.ret .none)) ⟨h',g,d,tk',os⟩) :
  codeAny (model prog w) A (.call (.builtin sa) ⟨[.ref x,.str name tk,v],[]⟩) R ⟨h,g,d,t,os⟩:=
 codeAny_call_builtin SF.slot.plain SF.entry (wpAny_check_sa SF hC hx hc (first_entry SF hC hn hna hB hx hc hdn hnc hfr hq))
theorem first_attr {o:Obj} {Q:Unit→Shared→Prop} {bm:List Value} {B sa owner:String} (SF:StoreFacts B bm sa owner) (hC:h.get? C=some (excClassObj nm q C N bs bm true sn sub ab col dd k0 k1 k2 k3 k5 newId)) (hn:h.Ns N mN) (hns:mN "__setattr__"=none) (hna:mN name=none)
  (hB:typeLookup (.type B) name=pure none) (hx:h.get? x=some o) (hc:o.cls = .ref C) (hdn:o.dict=none) (hnc:∀ c,o.data ≠ .cls c) (hfr:o.isFreed=false)
  (hq:∀ h' tk',h'.get? x=some { cls:=o.cls,dict:=some h.objs.size,data:=o.data,slots:=o.slots }→h'.Ns1 h.objs.size (fun y=>if y=name then some v else none) →
    (∀ b o,b≠x→h.get? b=some o→h'.get? b=some o)→Q () ⟨h',g,d,tk',os⟩) :
  wpAny (model prog w) A (setAttr (.ref x) name v) Q E ⟨h,g,d,t,os⟩:=by
 have f3:=SF.slot.bind (.ref x)
 unfold setAttr callSpecial? specialOf
 repeat (any_goals (first |assumption |(with_reducible refine wpAny_loadPart_at hx ?_;rw [hc]) |(with_reducible refine wpAny_typeLookup_exc hC hn SF.mro SF.slot.lookup ?_;rw [hns]) |wp_step))
 refine first_call SF hC hn hna hB hx hc hdn hnc hfr fun h' tk' h1 h2 h3=>?_
 repeat (any_goals (first |assumption |wp_step))
 exact hq h' tk' h1 h2 h3
structure ExI (h:Heap) (C e D:Addr) (vs:Array Value) (sl:Array (Option Value)) (mA:Str→Option Value):Prop where
 obj:h.get? e=some ⟨.ref C,some D,.fields vs,sl⟩
 ne:D≠e
 ns:h.Ns1 D mA
theorem more_attr {D:Addr} {ns:List Str} {Q:Unit→Shared→Prop} (hC:h.get? C=some (excClassObj nm q C N bs bmE true sn sub ab col dd k0 k1 k2 k3 k5 newId)) (hn:h.Ns N mN) (hns:mN "__setattr__"=none) (hna:mN name=none)
  (hB:typeLookup (.type "Exception") name=pure none) (hxC:x≠C) (I:ExI h C x D vs sl mA)
  (hq:∀ h' tk',ExI h' C x D vs sl (fun y=>if y=name then some v else mA y)→(∀ b o,b≠x→b≠D→h.get? b=some o→h'.get? b=some o)→Q () ⟨h',g,d,tk',os⟩) (hw:Within mA ns) (hsz:ns.length≤sizeLine) :
  wpAny (model prog w) A (setAttr (.ref x) name v) Q E ⟨h,g,d,t,os⟩:=by
 refine store_attr F.store_Exception hC hn hns hna hB hxC ⟨_,I.obj,rfl,(fun c q=>by cases q),.inr ⟨D,rfl,I.ne,I.ns⟩⟩ (fun h' tk' I' hk hsame=>?_) hw hsz
 obtain ⟨o₁,ho₁,hc₁,hd₁,hs₁,hD₁⟩:=hsame _ I.obj
 have hD₁:=hD₁ D rfl
 have ho₂:h'.get? x=some ⟨.ref C,some D,.fields vs,sl⟩:=by
  rw [ho₁]
  obtain ⟨c',d',dt',sl'⟩:=o₁
  dsimp only at hc₁ hd₁ hs₁ hD₁
  rw [hc₁,hd₁,hs₁,hD₁]
 refine hq h' tk' ⟨ho₂,I.ne,?_⟩ fun b o hbx hbD e=>hk b o hbx (fun o₀ dx h₀ hdx q=>hbD (by rw [I.obj] at h₀;cases h₀;cases hdx;exact q)) e
 obtain ⟨o,hx',_,_,hd'⟩:=I'
 rw [ho₂] at hx';cases hx'
 rcases hd' with ⟨hdn,_⟩ |⟨d',hdd,_,hns'⟩
 ·cases hdn
 ·cases hdd;exact hns'
end
end Mine
end
section
open PySem PySem.W PyProof.Rows
open PySem.Calls (loadGlobal_global loadGlobal_builtin Name_function_global)
set_option maxRecDepth 100000
namespace Mine
section
variable {prog:Program} {w:World} {A:Around} {E:Value→Shared→Prop} {s:Shared}
theorem findcls_init:findCls [] (.type "Exception") (.type "type") "__init__"=some (.val (.builtin "Exception.__init__")):=by kernel_rfl
theorem stub_exc:Manifest.isStub "Exception"=false:=by decide+kernel
theorem typeof_exc:typeOf (.type "Exception")=pure (.type "type"):=by kernel_rfl
theorem method_exc_init {pl:Sem Bool} {Q:Value × List Value→Shared→Prop} (h:Q (.builtin "Exception.__init__",[]) { s with toks:=s.toks+1 }):wpAny (model prog w) A (getMethod (.type "Exception") "__init__" pl) Q E s:=by
 have X:Frag.In [] s.heap:=fun a o e=>by cases e
 have hstub:opaqueClassAbove (.type "Exception")=pure none:=by unfold opaqueClassAbove;dsimp only;rw [stub_exc];rfl
 have L0:Looks (model prog w) s.heap (typeOf (.type "Exception")) (.type "type"):=Looks.of_pure typeof_exc
 have hg:findIn [] (.type "type") "__getattribute__"=some (some (.builtin "type.__getattribute__")):=type_tga
 unfold getMethod specialOf
 refine wpAny_bind (wpAny_bind (L0.here ((looks_findIn X hg).here ?_)))
 dsimp only
 rw [if_pos canon_tga]
 refine wpAny_bind (wpAny_mono (Q:=fun v=>Q (v,[])) (E:=E) ?_ (fun _ _ z=>wpAny_pure z) fun _ _ z=>z)
 have LO:Looks (model prog w) s.heap (opaqueClassAbove (.type "Exception")) none:=Looks.of_pure hstub
 refine cls_open X LO L0 hg (looks_hook X (r:=none) (by rfl)) (by show subIn [] _ _=_;rfl) findcls_init
  (wpAny_pure (by show wpAny _ _ (handedOut (.builtin "Exception.__init__")) _ _ _;rw [handedOut_of (by decide+kernel)];exact wpAny_pure h))
end
section
variable {prog:Program} {w:World} {A:Around} {E:Value→Shared→Prop} {h:Heap} {g:Array GenState} {d:Drawn} {t:Nat} {os:OsState} {x:Addr} {vs:Array Value} {sl:Array (Option Value)}
 {nm q:Str} {C N:Addr} {bs:List Value} {sn:List Str} {sub:List Value} {ab:Bool} {col:Option Bool} {dd:Option Addr} {k0 k1 k2 k3 k5:Option Value} {newId:String} {bm:List Value} {B initId:String}
theorem base_init (F:ExcBaseFacts B newId initId bm) {o:Obj} {t0:Addr} {rest:List Value} {Q:Value→Shared→Prop} (hC:h.get? C=some (excClassObj nm q C N bs bm true sn sub ab col dd k0 k1 k2 k3 k5 newId))
  (hx:h.get? x=some o) (hc:o.cls = .ref C) (hd:o.data = .fields vs) (h0:vs[0]?=some (.ref t0))
  (hq:Q .none ⟨(h.push { cls := .type "tuple",data := .seq rest.toArray }).update x (Obj.mapFields (·.setIfInBounds 0 (.ref h.objs.size))),g,d,t,os⟩) (hrest:rest.length≤sizeLine) :
  wpAny (model prog w) A (call (.builtin initId) (.ref x::rest)) Q E ⟨h,g,d,t,os⟩:=by
 refine wpAny_call (codeAny_call_builtin F.init.plain F.initEntry (wpAny_check_init_sub F hC hx hc ?_))
 unfold Builtin.«BaseException.__init__»
 dsimp only
 rw [if_neg (by simp)]
 unfold newTuple Builtin.BaseException.bexcPut
 have he₁:=Heap.get?_push_of_some (h:=h) { cls := .type "tuple",data := .seq rest.toArray } hx
 have hsz:0<vs.size:=(Array.getElem?_eq_some_iff.mp h0).1
 refine wpAny_bind (wpAny_newObj_type (wpAny_bind (wpAny_bind (wpAny_field he₁ hd h0 (wpAny_bind (wpAny_setField he₁ hd hsz ?_))))) (by show rest.toArray.size≤sizeLine;rw [List.size_toArray];exact hrest))
 refine wpAny_letGo ?_
 exact wpAny_pure hq
end
end Mine
end
section
open PySem PySem.W PyProof.Rows
open PySem.Calls (loadGlobal_global loadGlobal_builtin Name_function_global)
set_option maxRecDepth 100000
namespace Mine
theorem mcall2 {X:Cx} {A:Around} {env:Env} {s:Shared} {E:Value→Shared→Prop} {o x x':Expr} {name:Str} {ap pos:Pos} {Q:Value→Shared→Prop} (ho:simpleO o=true) (hl:(ap.endLine == pos.line)=true) (hp:plainE x=true) (hp':plainE x'=true)
  (h:wpAny X.M A (eval o env) (fun ov s₁=>∀ pl,wpAny X.M A (getMethod ov name pl) (fun fx s₂=>wpAny X.M A (callWith pos fx.1 fx.2 [(false,eval x env),(false,eval x' env)] []) Q E s₂) E s₁) E s) :
  wpAny X.M A (eval (.Call (.Attribute o name ap) [x,x'] [] pos) env) Q E s:=by
 rw [arm_eval_Call,star_plain hp,star_plain hp']
 have hb:attributeBase o name env (eval o env)=eval o env:=by cases o <;> first |rfl |cases ho
 rw [hb]
 refine wpAny_bind (wpAny_mono h (fun ov s₁ h₁=>wpAny_bind (wpAny_standAt ?_)) fun _ _ x=>x)
 unfold methodCall
 have hpos:methodCallPos (methodCallForm 2 (backTo pos ((false,eval x env)::(false,eval x' env)::starEach [] env)) (backToKw pos (keywordEach [] env))) o env ap pos=pure pos:=by
  unfold methodCallPos
  rw [hl,Bool.or_true]
  rfl
 refine wpAny_bind (wpAny_holding (wpAny_mono (h₁ _) (fun fx s₂ h₂=>?_) fun _ _ x=>x))
 show wpAny X.M A (methodCallPos (methodCallForm 2 (backTo pos ((false,eval x env)::(false,eval x' env)::starEach [] env)) (backToKw pos (keywordEach [] env))) o env ap pos >>= fun callPos=>callWith callPos fx.1 fx.2 (backTo pos ((false,eval x env)::(false,eval x' env)::starEach [] env)) (backToKw pos (keywordEach [] env))) Q E s₂
 rw [hpos]
 exact wpAny_bind (wpAny_pure h₂)
structure FnAt (X:Cx) (a:Addr) (fd:FuncData) (b:List Stmt):Prop where
 obj:X.B0.get? a=some ⟨.type "function",none,.func fd,#[]⟩
 code:X.B0.CodeRec fd.code fd.qualname
 body:fd.body = .stmts b
 kind:fd.scope.kind = .function
 co:fd.scope.isCoroutine=false
 gen:fd.scope.isGenerator=false
 cell:∀ x ∈ fd.scope.names,x.2 ≠ .cell
 glob:fd.globals=mainGlobals
 bi:fd.builtins=builtinsNs
theorem call_fn {X:Cx} {A:Around} {a:Addr} {fd:FuncData} {b:List Stmt} {s:Shared} {vs:List Value} {binds:List (Str × Value)} {R:Result→Shared→Prop} (F:FnAt X a fd b) (hb:BindsTo s fd ⟨vs,[]⟩ binds)
  (hloc:∀ x ∈ binds,fd.scope.names.lookup x.1=some .local) (hbase:X.B0.StaysIn s.heap) (hroom:A.depth<recursionLimit)
  (h:∀ h₀,h₀.Ns s.heap.objs.size (fun x=>binds.reverse.lookup x)→(∀ b o,s.heap.get? b=some o→h₀.get? b=some o) →
    wpAny X.M (A.deeper (callEnv fd s.heap.objs.size a)) (execs b (callEnv fd s.heap.objs.size a)) (fun f s'=>R (.ok (.ret (match f with | .ret v=>v |_ => .none))) s')
     (fun e s'=>wpAny X.M (A.deeper (callEnv fd s.heap.objs.size a)) (leaving (callEnv fd s.heap.objs.size a) e) (fun _ s''=>R (.error e) s'') (fun e' s''=>R (.error e') s'') s')
     { s with heap:=h₀,toks:=s.toks+binds.length }):codeAny X.M A (.call (.ref a) ⟨vs,[]⟩) R s:=
 codeAny_call_def hroom (hbase _ _ F.obj) rfl (X.top.nolimit.keeps hbase) (F.code.keeps hbase) F.body hb F.cell hloc h F.co F.gen F.kind
noncomputable def rest6:List Str:=["level","ret","info","is_noted","line","extra"]
noncomputable def locB (sc:Sc) (x:Str):Bool:=sc.lookup x == some .local && okN x
noncomputable def isSBI (c:Const):Bool:=match c with
 | .str _=>true
 | .bool _=>true
 | .int _=>true
 |_=>false
noncomputable def srcB (sc:Sc) (e:Expr):Bool:=onName (fun y _=>locB sc y && (y == ("level":Str) || y == ("ret":Str))) e || (onConst (fun c _ _=>isSBI c) e || onList (fun l _=>l.isEmpty) e)
noncomputable def onSelf (sc:Sc) (F:Str→Expr→Bool):Stmt→Bool:=onAsg fun ts e _=>on1 (onAttr fun v a _=>onName (fun x _=>x == ("self":Str) && (locB sc x && F a e)) v) ts
theorem onSelf_inv {sc:Sc} {F:Str→Expr→Bool} {st:Stmt} (h:onSelf sc F st=true):∃ px a pa e pos,st = .Assign [.Attribute (.Name "self" px) a pa] e pos∧locB sc "self"=true∧F a e=true:=
 let ⟨_,e,pos,e1,h⟩:=onAsg_inv h
 let ⟨_,e2,h⟩:=on1_inv h
 let ⟨_,a,pa,e3,h⟩:=onAttr_inv h
 let ⟨_,px,e4,h⟩:=onName_inv h
 let e5:=eq_of_beq (and2 h).1
 ⟨px,a,pa,e,pos,by rw [e1,e2,e3,e4,e5],e5▸(and2 (and2 h).2).1,(and2 (and2 h).2).2⟩
noncomputable def storesB (sc:Sc):List Stmt→Bool
 | []=>true
 |st::r=>onSelf sc (fun a e=>rest6.contains a && srcB sc e) st && storesB sc r
noncomputable def storeB (sc:Sc) (n:Str):Stmt→Bool:=onSelf sc fun a e=>a == n && onName (fun y _=>y == n && locB sc y) e
noncomputable def superB (sc:Sc):Stmt→Bool:=onEx fun e _=>onCall (fun f xs ks ps=>ks.isEmpty && onAttr (fun fv i ap=>onName (fun x _=>on2 (fun a b=>onName (fun y _=>onName (fun z _=>isG sc x "Exception" && (i == ("__init__":Str) && (ap.endLine == ps.line && (y == ("self":Str) && (locB sc y && (z == ("value":Str) && locB sc z)))))) b) a) xs) fv) f) e
theorem superB_inv {sc:Sc} {st:Stmt} (h:superB sc st=true):∃ x px ap py pz ps pe,st = .Expr (.Call (.Attribute (.Name x px) "__init__" ap) [.Name "self" py,.Name "value" pz] [] ps) pe∧isG sc x "Exception"=true∧(ap.endLine == ps.line)=true∧locB sc "self"=true∧locB sc "value"=true:=
 let ⟨_,pe,e1,h⟩:=onEx_inv h
 let ⟨_,_,_,ps,e2,h⟩:=onCall_inv h
 let ⟨k,h⟩:=and2 h
 let ⟨_,_,ap,e3,h⟩:=onAttr_inv h
 let ⟨x,px,e4,h⟩:=onName_inv h
 let ⟨_,_,e5,h⟩:=on2_inv h
 let ⟨_,py,e6,h⟩:=onName_inv h
 let ⟨_,pz,e7,h⟩:=onName_inv h
 let ⟨h1,h⟩:=and2 h
 let ⟨h2,h⟩:=and2 h
 let ⟨h3,h⟩:=and2 h
 let ⟨h4,h⟩:=and2 h
 let ⟨h5,h⟩:=and2 h
 let e8:=eq_of_beq h4
 let e9:=eq_of_beq (and2 h).1
 ⟨x,px,ap,py,pz,ps,pe,by rw [e1,e2,e3,e4,e5,e6,e7,nil_of k,eq_of_beq h2,e8,e9],h1,h3,e8▸h5,e9▸(and2 h).2⟩
noncomputable def initB (sc:Sc):List Stmt→Bool:=onC fun s r=>superB sc s && onC (fun c r=>storeB sc "code" c && onC (fun v r=>storeB sc "value" v && onC (fun ec r=>storeB sc "errorcode" ec && (decide (r.length≤8) && storesB sc r)) r) r) r
theorem or2 {a b:Bool} (h:(a || b)=true):a=true∨b=true:=by cases a <;> first |exact .inl rfl |exact .inr h
theorem locB_of {sc:Sc} {x:Str} (h:locB sc x=true):sc.lookup x=some .local∧(x == ("__debug__":Str))=false:=⟨eq_of_beq (and2 h).1,(Bool.not_eq_true' _).mp (and2 h).2⟩
theorem lkn_all:∀ a ∈ rest6,typeLookup (.type "Exception") a=pure none:=List.forall_mem_cons.mpr ⟨lkn_level,List.forall_mem_cons.mpr ⟨lkn_ret,List.forall_mem_cons.mpr ⟨lkn_info,List.forall_mem_cons.mpr ⟨lkn_is_noted,List.forall_mem_cons.mpr ⟨lkn_line,List.forall_mem_cons.mpr ⟨lkn_extra,fun _ h=>nomatch h⟩⟩⟩⟩⟩⟩
theorem rest6_quiet:∀ a ∈ rest6,a ∈ quietR∧a≠"code"∧a≠"value"∧a≠"errorcode":=by decide+kernel
structure InitS (X:Cx) (h₀:Heap) (e L:Addr) (m:Str→Option Value) (h:Heap):Prop where
 keep:∀ b o,b≠e→h₀.get? b=some o→h.get? b=some o
 base:X.B0.StaysIn h
 ns:h.Ns L m
section
variable {X:Cx} {A:Around} {fI:Addr} {fd:FuncData} {E:Value→Shared→Prop} {L e D:Addr} {h₀:Heap} {s:Shared} {m:Str→Option Value} {vs:Array Value} {sl:Array (Option Value)}
theorem nameI {x:Str} {pos:Pos} {v:Value} {Q:Value→Shared→Prop} (hk:fd.scope.kind = .function) (hx:locB fd.scope.names x=true) (hn:s.heap.Ns L m) (hv:m x=some v) (h:Q v s):wpAny X.M A (eval (.Name x pos) (callEnv fd L fI)) Q E s:=
 wpAny_Name (wpAny_loadName_local hk (by unfold Env.kindOf;exact (locB_of hx).1) hn hv h) (locB_of hx).2
theorem stores_ok (hR:raisedIn X.K X.rc fI=true) (hk:fd.scope.kind = .function) {rest:List Value} {c1 c2 c3:Value} (hself:m "self"=some (.ref e)) (hlev:∃ v,m "level"=some v) (hret:∃ v,m "ret"=some v) (heC:e≠X.rc):∀ (b:List Stmt) {s:Shared} {mA:Str→Option Value} {ns:List Str} {P:Flow→Shared→Prop},
  storesB fd.scope.names b=true→InitS X h₀ e L m s.heap→ExI s.heap X.rc e D vs sl mA→h₀.get? D=none→X.B0.get? D=none→L≠D→L≠e→Within mA ns→ns.length+b.length≤100→mA "code"=some c1→mA "value"=some c2→mA "errorcode"=some c3→X.B0.get? e=none →
  (∀ s' mA',InitS X h₀ e L m s'.heap→ExI s'.heap X.rc e D vs sl mA'→mA' "code"=some c1→mA' "value"=some c2→mA' "errorcode"=some c3→Same s s'→P .next s')→wpAny X.M A (execs b (callEnv fd L fI)) P E s:=by
 intro b
 induction b with
 |nil=>intro s mA ns P hb I hx hD hBD hLD hLe hw hl h1 h2 h3 hBe hP;exact wpAny_execs_nil (hP s mA I hx h1 h2 h3 (.refl _))
 |cons st r ih=>
  intro s mA ns P hb I hx hD hBD hLD hLe hw hl h1 h2 h3 hBe hP
  ·replace hb:=and2 hb
   obtain ⟨hb1,hb⟩:=hb
   replace hb1:=onSelf_inv hb1
   obtain ⟨px,a,pa,ee,pos,rfl,hxl,hb1⟩:=hb1
   obtain ⟨ha,hsrc⟩:=and2 hb1
   replace ha:=List.contains_iff_mem.mp ha
   obtain ⟨hq,n1,n2,n3⟩:=rest6_quiet a ha
   obtain ⟨rd,R⟩:=raised_of hR
   have go:∀ (v:Value) (s₁:Shared),InitS X h₀ e L m s₁.heap→ExI s₁.heap X.rc e D vs sl mA→Same s s₁ →
     wpAny X.M A (eval (.Name "self" px) (callEnv fd L fI)) (fun ov s₂=>wpAny X.M A (setAttr ov a v) (fun _ s₃=>wpAny X.M A (execs r (callEnv fd L fI)) P E s₃) E s₂) E s₁:=by
    intro v s₁ I₁ hx₁ z₁
    refine nameI hk hxl I₁.ns hself ?_
    obtain ⟨hp,g,d,tk,os⟩:=s₁
    refine more_attr (ns:=ns) (I₁.base _ _ R.obj) (R.ns.keeps I₁.base) (R.quiet "__setattr__" (by decide+kernel)) (R.quiet a hq) (lkn_all a ha) heC hx₁ (fun h' tk' hx' kk=>?_) hw (by rw [sizeLine_eq];simp only [List.length_cons] at hl;exact linL fun q=>lin [_,_] [(1,0,.a (.v 0) (.a (.v 1) (.n 1)),.n 100),(1,0,.a (.n 16777216) (.n 1),.v 0)] rfl hl q)
    have hne:∀ b o,h₀.get? b=some o→b≠D:=fun b o q z=>by rw [z,hD] at q;cases q
    refine ih (ns:=a::ns) hb ⟨fun b o hbe q=>kk b o hbe (hne b o q) (I₁.keep b o hbe q),fun b o q=>kk b o (fun z=>by rw [z,hBe] at q;cases q) (fun z=>by rw [z,hBD] at q;cases q) (I₁.base b o q),?_⟩ hx' hD hBD hLD hLe (Within.cons a v hw) (by simp only [List.length_cons] at hl ⊢;exact linL fun q=>lin [_,_] [(1,0,.a (.v 0) (.a (.v 1) (.n 1)),.n 100),(1,0,.a (.n 100) (.n 1),.a (.a (.v 0) (.n 1)) (.v 1))] rfl hl q) (by simpa [Ne.symm n1] using h1) (by simpa [Ne.symm n2] using h2) (by simpa [Ne.symm n3] using h3) hBe fun s' mA' i1 i2 i3 i4 i5 z'=>hP s' mA' i1 i2 i3 i4 i5 ((z₁.trans (Same.mk' ⟨hp,g,d,tk,os⟩ h' tk')).trans z')
    obtain ⟨o,es,ep,ho,r⟩:=I₁.ns
    exact ⟨o,es,ep,kk L o hLe hLD ho,r⟩
   have tok:∀ n,InitS X h₀ e L m ({ s with toks:=n }:Shared).heap:=fun _=>I
   have stm:∀ {ee:Expr},(wpAny X.M A (eval ee (callEnv fd L fI)) (fun v s₁=>InitS X h₀ e L m s₁.heap∧ExI s₁.heap X.rc e D vs sl mA∧Same s s₁) E s)→(swapsWith ee (some (.Attribute (.Name "self" px) a pa)) pos.line (callEnv fd L fI)=pure false) →
     wpAny X.M A (execs (.Assign [.Attribute (.Name "self" px) a pa] ee pos::r) (callEnv fd L fI)) P E s:=fun hv hs=>
    wpAny_execs_cons (plainObj_wpAny_Assign_Attribute (wpAny_mono hv (fun v s₁ q=>go v s₁ q.1 q.2.1 q.2.2) fun _ _ q=>q) hs)
   replace hsrc:=or2 hsrc
   rcases hsrc with hsrc |hsrc
   ·replace hsrc:=onName_inv hsrc
    obtain ⟨y,py,rfl,hsrc⟩:=hsrc
    obtain ⟨hyl,hy⟩:=and2 hsrc
    obtain ⟨v,hv⟩:∃ v,m y=some v:=by
     replace hy:=or2 hy
     rcases hy with hy |hy
     ·rw [eq_of_beq hy];exact hlev
     ·rw [eq_of_beq hy];exact hret
    exact stm (nameI hk hyl I.ns hv ⟨I,hx,.refl _⟩) rfl
   replace hsrc:=or2 hsrc
   rcases hsrc with hsrc |hsrc
   ·replace hsrc:=onConst_inv hsrc
    obtain ⟨c,_,_,rfl,hsrc⟩:=hsrc
    cases c with
    |str _=>exact stm (wpAny_Constant_str ⟨I,hx,⟨rfl,rfl,rfl⟩⟩) rfl
    |bool _=>exact stm (wpAny_Constant_bool ⟨I,hx,⟨rfl,rfl,rfl⟩⟩) rfl
    |int _=>exact stm (wpAny_Constant_int ⟨I,hx,⟨rfl,rfl,rfl⟩⟩) rfl
    |_=>cases hsrc
   ·replace hsrc:=onList_inv hsrc
    obtain ⟨l,_,rfl,hsrc⟩:=hsrc
    obtain rfl:l=_:=nil_of hsrc
    exact stm (wpAny_List_spliced (wpAny_items_nil ⟨Nat.zero_le _,⟨fun b o hb q=>Heap.get?_push_of_some _ (I.keep b o hb q),fun b o q=>Heap.get?_push_of_some _ (I.base b o q),I.ns.push _⟩,⟨Heap.get?_push_of_some _ hx.obj,hx.ne,hx.ns.at fun o q=>Heap.get?_push_of_some _ q⟩,⟨rfl,rfl,rfl⟩⟩)) rfl
theorem isG_of {sc:Sc} {x:Str} (h:isG sc x "Exception"=true):x="Exception"∧sc.lookup x=some .globalImplicit∧(x == ("__debug__":Str))=false:=isG_name h
theorem boot_exc:bootBuiltins "Exception"=some (.type "Exception"):=PyProof.Rows.Boot.«Exception»
theorem ne_exc:("Exception":Str)≠"__name__":=by decide+kernel
theorem ne_cv:("code":Str)≠"value":=by decide+kernel
theorem ne_ce:("code":Str)≠"errorcode":=by decide+kernel
theorem ne_ve:("value":Str)≠"errorcode":=by decide+kernel
theorem store3 {hk:fd.scope.kind = .function} {n:Str} {st:Stmt} (h:storeB fd.scope.names n st=true) {v:Value} {P:Flow→Shared→Prop} (hself:m "self"=some (.ref e)) (hn:s.heap.Ns L m) (hv:m n=some v)
  (hP:wpAny X.M A (setAttr (.ref e) n v) (fun _=>P .next) E s):wpAny X.M A (exec st (callEnv fd L fI)) P E s:=by
 replace h:=onSelf_inv h
 obtain ⟨px,a,pa,e',pos,rfl,hxl,h⟩:=h
 replace h:=and2 h
 obtain ⟨ha,h⟩:=h
 replace h:=onName_inv h
 obtain ⟨y,py,rfl,h⟩:=h
 obtain ⟨hy,hyl⟩:=and2 h
 rw [eq_of_beq ha]
 rw [eq_of_beq hy] at hyl ⊢
 exact plainObj_wpAny_Assign_Attribute (nameI hk hyl hn hv (nameI hk hxl hn hself hP)) rfl
theorem init_body (hR:raisedIn X.K X.rc fI=true) (hexc:nsIn X.K mainGlobals "Exception"=some none) (hk:fd.scope.kind = .function) (hgl:fd.globals=mainGlobals) (hbi:fd.builtins=builtinsNs) {b:List Stmt} (hb:initB fd.scope.names b=true) {c1 c2 c3:Value} {t0:Addr} {s:Shared}
  (hself:m "self"=some (.ref e)) (hcode:m "code"=some c1) (hval:m "value"=some c2) (hec:m "errorcode"=some c3) (hlev:∃ v,m "level"=some v) (hret:∃ v,m "ret"=some v)
  (hbase:X.B0.StaysIn s.heap) (hns:s.heap.Ns L m) (he:s.heap.get? e=some { cls := .ref X.rc,data := .fields #[.ref t0,.none,.none,.none,.bool false,.none] }) (hBe:X.B0.get? e=none) (hLe:L≠e) {P:Flow→Shared→Prop}
  (hP:∀ s' D t1 m',s'.heap.get? e=some ⟨.ref X.rc,some D,.fields #[.ref t1,.none,.none,.none,.bool false,.none],#[]⟩→D≠e→s.heap.get? D=none→s'.heap.Ns D m'→m' "code"=some c1→m' "value"=some c2→m' "errorcode"=some c3 →
    (∀ b o,b≠e→s.heap.get? b=some o→s'.heap.get? b=some o)→Same s s'→P .next s'):wpAny X.M A (execs b (callEnv fd L fI)) P E s:=by
 ·replace hb:=onC_inv hb
  obtain ⟨st,r,rfl,hb⟩:=hb
  replace hb:=and2 hb
  obtain ⟨hst,hb⟩:=hb
  obtain ⟨x,px,ap,py,pz,ps,pe,rfl,hx,hl,hyl,hzl⟩:=superB_inv hst
  replace hb:=onC_inv hb
  obtain ⟨c,r,rfl,hb⟩:=hb
  replace hb:=and2 hb
  obtain ⟨hc,hb⟩:=hb
  replace hb:=onC_inv hb
  obtain ⟨v,r,rfl,hb⟩:=hb
  replace hb:=and2 hb
  obtain ⟨hv,hb⟩:=hb
  replace hb:=onC_inv hb
  obtain ⟨ec,r,rfl,hb⟩:=hb
  replace hb:=and2 hb
  obtain ⟨hece,hb⟩:=hb
  obtain ⟨hlen,hrest⟩:=and2 hb
  replace hlen:=of_decide_eq_true hlen
  obtain ⟨rfl,hx2,hx3⟩:=isG_of hx
  have heC:e≠X.rc:=by
   obtain ⟨rd,R⟩:=raised_of hR
   rintro rfl
   rw [R.obj] at hBe;cases hBe
  refine wpAny_execs_cons (wpAny_Expr_any ?_ (by unfold interactive;show (fd.scope.kind == .module && _)=false;rw [hk];rfl) rfl)
  ·obtain ⟨rd,R⟩:=raised_of hR
   have kx:(callEnv fd L fI).kindOf "Exception"=some .globalImplicit:=by unfold Env.kindOf;exact hx2
   refine mcall2 rfl hl rfl rfl (Name_function_global hk kx (loadGlobal_builtin (mg:=X.mg) (mb:=X.mb) (by show s.heap.Ns fd.globals X.mg;rw [hgl];exact X.top.g.keeps hbase) (mg_none_of X.ki X.top.g hexc)
    (by show s.heap.Ns fd.builtins X.mb;rw [hbi];exact X.top.b.keeps hbase) ((X.top.builtins _ ne_exc).trans boot_exc) fun pl=>?_) hx3)
   refine method_exc_init ?_
   refine Calls.callWith_builtin rfl (Calls.evalArgs_plain (Calls.spliced_cons (nameI hk hyl hns hself (Calls.spliced_cons (nameI hk hzl hns hval (Calls.spliced_nil ?_))))))
   obtain ⟨hh,g,d,tk,os⟩:=s
   refine base_init PySem.F.excBase_Exception (vs := #[.ref t0,.none,.none,.none,.bool false,.none]) (hbase _ _ R.obj) he rfl rfl rfl ?_ (by rw [sizeLine_eq,List.length_cons,List.length_nil];exact linL fun q=>lin [] [(1,0,.a (.n 16777216) (.n 1),.a (.n 0) (.n 1))] rfl q)
   have he₁:((hh.push { cls := .type "tuple",data := .seq [c2].toArray }).update e (Obj.mapFields (·.setIfInBounds 0 (.ref hh.objs.size)))).get? e=some { cls := .ref X.rc,data := .fields #[.ref hh.objs.size,.none,.none,.none,.bool false,.none] }:=
    Heap.get?_update_self _ (Heap.get?_push_of_some _ he) rfl
   have kk:∀ b o,b≠e→hh.get? b=some o→((hh.push { cls := .type "tuple",data := .seq [c2].toArray }).update e (Obj.mapFields (·.setIfInBounds 0 (.ref hh.objs.size)))).get? b=some o:=fun b o hb q=>
    (Heap.get?_update_other _ _ (Ne.symm hb)).trans (Heap.get?_push_of_some _ q)
   generalize ((hh.push { cls := .type "tuple",data := .seq [c2].toArray }).update e (Obj.mapFields (·.setIfInBounds 0 (.ref hh.objs.size))))=h₁ at he₁ kk ⊢
   have hbase₁:X.B0.StaysIn h₁:=fun b o q=>kk b o (fun z=>by rw [z,hBe] at q;cases q) (hbase b o q)
   have hns₁:h₁.Ns L m:=by obtain ⟨o,es,ep,ho,r⟩:=hns;exact ⟨o,es,ep,kk L o hLe ho,r⟩
   refine wpAny_execs_cons (store3 (hk:=hk) hc hself hns₁ hcode ?_)
   refine first_attr PySem.F.store_Exception (hbase₁ _ _ R.obj) (R.ns.keeps hbase₁) (R.quiet "__setattr__" (by decide+kernel)) (R.quiet "code" (by decide+kernel)) lkn_code he₁ rfl rfl (fun c q=>by cases q) rfl fun h₂ tk₂ q1 q2 q3=>?_
   have hLD:L≠h₁.objs.size:=by obtain ⟨o,_,_,ho,_⟩:=hns₁;exact Nat.ne_of_lt (Heap.lt_size ho)
   have hDe:h₁.objs.size≠e:=Nat.ne_of_gt (Heap.lt_size he₁)
   have hDn:∀ b o,h₁.get? b=some o→b≠h₁.objs.size:=fun b o q=>Nat.ne_of_lt (Heap.lt_size q)
   generalize h₁.objs.size=D at *
   have hbase₂:X.B0.StaysIn h₂:=fun b o q=>q3 b o (fun z=>by rw [z,hBe] at q;cases q) (hbase₁ b o q)
   have hns₂:h₂.Ns L m:=by obtain ⟨o,es,ep,ho,r⟩:=hns₁;exact ⟨o,es,ep,q3 L o hLe ho,r⟩
   have hBD:X.B0.get? D=none:=by
    cases q:X.B0.get? D with
    |none=>rfl
    |some o=>exact absurd rfl (hDn _ _ (hbase₁ _ _ q))
   have hsD:hh.get? D=none:=by
    cases q:hh.get? D with
    |none=>rfl
    |some o=>exact absurd rfl (hDn _ _ (kk _ _ hDe q))
   have I₂:ExI h₂ X.rc e D #[.ref hh.objs.size,.none,.none,.none,.bool false,.none] #[] (fun y=>if y="code" then some c1 else none):=⟨q1,hDe,q2⟩
   refine wpAny_execs_cons (store3 (hk:=hk) hv hself hns₂ hval ?_)
   refine more_attr (ns:=["code"]) (hbase₂ _ _ R.obj) (R.ns.keeps hbase₂) (R.quiet "__setattr__" (by decide+kernel)) (R.quiet "value" (by decide+kernel)) lkn_value heC I₂ (fun h₃ tk₃ I₃ q4=>?_) (Within.cons _ _ Within.nil) (by rw [sizeLine_eq];decide)
   have hbase₃:X.B0.StaysIn h₃:=fun b o q=>q4 b o (fun z=>by rw [z,hBe] at q;cases q) (fun z=>by rw [z,hBD] at q;cases q) (hbase₂ b o q)
   have hns₃:h₃.Ns L m:=by obtain ⟨o,es,ep,ho,r⟩:=hns₂;exact ⟨o,es,ep,q4 L o hLe hLD ho,r⟩
   refine wpAny_execs_cons (store3 (hk:=hk) hece hself hns₃ hec ?_)
   refine more_attr (ns:=["value","code"]) (hbase₃ _ _ R.obj) (R.ns.keeps hbase₃) (R.quiet "__setattr__" (by decide+kernel)) (R.quiet "errorcode" (by decide+kernel)) lkn_errorcode heC I₃ (fun h₄ tk₄ I₄ q5=>?_) (Within.cons _ _ (Within.cons _ _ Within.nil)) (by rw [sizeLine_eq];decide)
   have hbase₄:X.B0.StaysIn h₄:=fun b o q=>q5 b o (fun z=>by rw [z,hBe] at q;cases q) (fun z=>by rw [z,hBD] at q;cases q) (hbase₃ b o q)
   have hns₄:h₄.Ns L m:=by obtain ⟨o,es,ep,ho,r⟩:=hns₃;exact ⟨o,es,ep,q5 L o hLe hLD ho,r⟩
   have k4:∀ b o,b≠e→hh.get? b=some o→h₄.get? b=some o:=fun b o hb q=>by
    have hbD:b≠D:=fun z=>by rw [z,hsD] at q;cases q
    exact q5 b o hb hbD (q4 b o hb hbD (q3 b o hb (kk b o hb q)))
   refine stores_ok (h₀:=hh) (rest:=[]) hR hk hself hlev hret heC r (ns:=["errorcode","value","code"]) hrest ⟨k4,hbase₄,hns₄⟩ I₄ hsD hBD hLD hLe (Within.cons _ _ (Within.cons _ _ (Within.cons _ _ Within.nil))) (by simp only [List.length_cons,List.length_nil];exact linL fun q=>lin [_] [(1,0,.v 0,.n 8),(1,0,.a (.n 100) (.n 1),.a (.a (.a (.a (.n 0) (.n 1)) (.n 1)) (.n 1)) (.v 0))] rfl hlen q)
    (by
      show (if ("code":Str)="errorcode" then some c3 else if ("code":Str)="value" then some c2 else if ("code":Str)="code" then some c1 else none)=some c1
      rw [if_neg ne_ce,if_neg ne_cv,if_pos rfl]) (by
      show (if ("value":Str)="errorcode" then some c3 else if ("value":Str)="value" then some c2 else if ("value":Str)="code" then some c1 else none)=some c2
      rw [if_neg ne_ve,if_pos rfl]) (by
      show (if ("errorcode":Str)="errorcode" then some c3 else if ("errorcode":Str)="value" then some c2 else if ("errorcode":Str)="code" then some c1 else none)=some c3
      rw [if_pos rfl]) hBe fun s' mA' i1 i2 i3 i4 i5 z=>?_
   exact hP s' D _ mA' i2.obj hDe hsD i2.ns.ns i3 i4 i5 i1.keep ((Same.mk' ⟨hh,g,d,tk,os⟩ h₄ tk₄).trans z)
end
end Mine
end
section
open PySem PySem.W PyProof.Rows
open PySem.Calls (loadGlobal_global loadGlobal_builtin Name_function_global)
set_option maxRecDepth 100000
namespace Mine
noncomputable def errB (sc:Sc):List Stmt→Bool:=on1 (onRet fun o _=>onO (onCallN fun x xs=>onC (fun u r=>onConst (fun c _ _=>chkC (.int 1) c) u && on2 (fun a b=>onName (fun y _=>onName (fun z _=>isG sc x "Raised" && (y == ("text":Str) && (locB sc y && (z == ("errorcode":Str) && locB sc z)))) b) a) r) xs) o)
theorem errB_inv {sc:Sc} {b:List Stmt} (h:errB sc b=true):∃ px k p py pz pc pr,b=[.Return (some (.Call (.Name "Raised" px) [.Constant (.int 1) k p,.Name "text" py,.Name "errorcode" pz] [] pc)) pr]∧isG sc "Raised" "Raised"=true∧locB sc "text"=true∧locB sc "errorcode"=true:=by
 refine hid fun G hG=>?_
 replace h:=on1_inv h
 obtain ⟨_,e1,h⟩:=h
 replace h:=onRet_inv h
 obtain ⟨_,pr,e2,h⟩:=h
 replace h:=onO_inv h
 obtain ⟨_,e3,h⟩:=h
 replace h:=onCallN_inv h
 obtain ⟨x,px,_,pc,e4,h⟩:=h
 replace h:=onC_inv h
 obtain ⟨_,_,e5,h⟩:=h
 replace h:=and2 h
 obtain ⟨k,h⟩:=h
 replace k:=onConst_inv k
 obtain ⟨_,kk,pk,e6,k⟩:=k
 replace h:=on2_inv h
 obtain ⟨_,_,e7,h⟩:=h
 replace h:=onName_inv h
 obtain ⟨y,py,e8,h⟩:=h
 replace h:=onName_inv h
 obtain ⟨z,pz,e9,h⟩:=h
 refine hG ?_
 have hx:=(and2 h).1
 have h':=(and2 h).2
 have e0:=eq_of_beq (and2 h').1
 have hy:=(and2 (and2 h').2).1
 have h'':=(and2 (and2 h').2).2
 have ez:=eq_of_beq (and2 h'').1
 have er:=(isG_name hx).1
 refine ⟨px,kk,pk,py,pz,pc,pr,?_,er▸hx,e0▸hy,ez▸(and2 h'').2⟩
 rw [e1,e2,e3,e4,e5,e6,e7,e8,e9,e0,ez,er,eq_of_beq (and2 k).2]
 rfl
noncomputable def initNames:List Str:=["self","code","value","errorcode","level","ret"]
structure ErrOK (X:Cx) (fI:Addr):Prop where
 raised:raisedIn X.K X.rc fI=true
 glob:nsIn X.K mainGlobals "Raised"=some (some (.ref X.rc))
 exc:nsIn X.K mainGlobals "Exception"=some none
 keep:keepIn X.K (.ref X.rc)=true
 init:∃ fd b,FnAt X fI fd b∧initB fd.scope.names b=true∧(∀ n ∈ initNames,fd.scope.names.lookup n=some .local) ∧
  ∀ s v0 v1 v2 v3,X.B0.StaysIn s.heap→∃ l r,BindsTo s fd ⟨[v0,v1,v2,v3],[]⟩ [("self",v0),("code",v1),("value",v2),("errorcode",v3),("level",l),("ret",r)]
 err:∃ fd b,FnAt X (X.fad 0) fd b∧errB fd.scope.names b=true∧(∀ s v0 v1,X.B0.StaysIn s.heap→BindsTo s fd ⟨[v0,v1],[]⟩ [("text",v0),("errorcode",v1)]) ∧
  ∀ s v0,X.B0.StaysIn s.heap→∃ T,BindsTo s fd ⟨[v0],[]⟩ [("text",v0),("errorcode",.ref T)]∧∃ dd vs n sl t,X.B0.get? T=some ⟨.type "tuple",dd,.seq vs n,sl⟩∧vs.toList=[.str (S [78,79,78,69]) t]
section
variable {X:Cx} {A:Around} {fI:Addr} {E:Value→Shared→Prop} {s:Shared}
inductive NewR (X:Cx) (hb h:Heap) (e:Addr) (c1 c2 c3:Value):Prop
 |mk (a0:hb.get? e=none) (D t1:Addr) (m:Str→Option Value) (a1:h.get? e=some ⟨.ref X.rc,some D,.fields #[.ref t1,.none,.none,.none,.bool false,.none],#[]⟩) (a2:D≠e) (a3:hb.get? D=none) (a4:h.Ns D m) (a5:m "code"=some c1) (a6:m "value"=some c2) (a7:m "errorcode"=some c3)
  (a8:∀ b o,hb.get? b=some o→h.get? b=some o):NewR X hb h e c1 c2 c3
theorem NewR.keep {X:Cx} {hb h:Heap} {e:Addr} {c1 c2 c3:Value} (n:NewR X hb h e c1 c2 c3):∀ b o,hb.get? b=some o→h.get? b=some o:=by
 cases n with
 |mk _ _ _ _ _ _ _ _ _ _ _ a=>exact a
theorem weight_tc (C:Addr) (l:List Value):(Code.builtin "type.__call__" ⟨.ref C::l,[]⟩).weight≤2:=by
 have:(Code.builtin "type.__call__" ⟨.ref C::l,[]⟩).weight=1:=by kernel_rfl
 exact linL fun q=>lin [_] [(1,1,.v 0,.n 1),(1,0,.a (.n 2) (.n 1),.v 0)] rfl this q
theorem new_raised (K:ErrOK X fI) {c1 c2 c3:Value} {Q:Value→Shared→Prop} (hbase:X.B0.StaysIn s.heap) (hroom:A.depth≤950) (h:∀ s' e,NewR X s.heap s'.heap e c1 c2 c3→Same s s'→Q (.ref e) s') :
  wpAny X.M A (call (.ref X.rc) [c1,c2,c3]) Q E s:=by
 refine hid fun G hG=>?_
 obtain ⟨rd,R⟩:=raised_of K.raised
 obtain ⟨fd,b,F,hb,hloc,hbind⟩:=K.init
 obtain ⟨hh,g,d,tk,os⟩:=s
 refine hG ?_
 refine wpAny_call_exc_init PySem.F.excBase_Exception (hbase _ _ R.obj) (R.ns.keeps hbase) R.init (hbase _ _ F.obj) rfl (fun h' e hm=>?_) (by rw [sizeLine_eq,List.length_cons,List.length_cons,List.length_cons,List.length_nil];exact linL fun q=>lin [] [(1,0,.a (.n 16777216) (.n 1),.a (.a (.a (.n 0) (.n 1)) (.n 1)) (.n 1))] rfl q)
 have hbase':X.B0.StaysIn h':=fun b o q=>hm.keeps b o (hbase b o q)
 refine hid fun G hG=>?_
 obtain ⟨l,r,hbind⟩:=hbind ⟨h',g,d,tk,os⟩ (.ref e) c1 c2 c3 hbase'
 obtain ⟨t0,he,ht0,_⟩:=hm.there
 refine hG ?_
 have hBe:X.B0.get? e=none:=by
  cases q:X.B0.get? e with
  |none=>rfl
  |some o=>rw [← hm.new,hbase _ _ q]
 refine wpAny_call (call_fn F hbind (fun x hx=>?_) hbase' ?_ fun h₀ hns hk=>?_)
 ·simp only [List.mem_cons,List.not_mem_nil,or_false] at hx
  rcases hx with rfl |rfl |rfl |rfl |rfl |rfl <;> exact hloc _ (by simp [initNames])
 ·have:=weight_tc X.rc [c1,c2,c3]
  show A.depth+_<recursionLimit
  have hr:recursionLimit=1000:=by decide+kernel
  rw [hr]
  exact linT fun q=>lin [_,_] [(1,0,.v 0,.n 950),(1,0,.v 1,.n 2),(1,0,.n 1000,.a (.v 0) (.v 1))] rfl hroom this q
 ·have hLe:h'.objs.size≠e:=Nat.ne_of_gt (Heap.lt_size he)
  refine wpAny_mono (init_body (E:=fun _ _=>False) K.raised K.exc F.kind F.glob F.bi hb (c1:=c1) (c2:=c2) (c3:=c3) (t0:=t0) (m:=fun x=>([("self",Value.ref e),("code",c1),("value",c2),("errorcode",c3),("level",l),("ret",r)]:List (Str × Value)).reverse.lookup x)
   (P:=fun f s'=>f = .next∧NewR X hh s'.heap e c1 c2 c3∧Same ⟨hh,g,d,tk,os⟩ s') ?_ ?_ ?_ ?_ ?_ ?_ (fun b o q=>hk b o (hbase' b o q)) hns (hk _ _ he) hBe hLe ?_) ?_ fun _ _ e=>e.elim
  ·kernel_rfl
  ·kernel_rfl
  ·kernel_rfl
  ·kernel_rfl
  ·exact ⟨l,by kernel_rfl⟩
  ·exact ⟨r,by kernel_rfl⟩
  ·intro s' D t1 m' q1 q2 q3 q4 q5 q6 q7 q8 q9
   refine ⟨rfl,⟨hm.new,D,t1,m',q1,q2,?_,q4,q5,q6,q7,fun b o q=>q8 b o (fun z=>by rw [z,hm.new] at q;cases q) (hk b o (hm.keeps b o q))⟩,⟨q9.1,q9.2,q9.3⟩⟩
   cases q:hh.get? D with
   |none=>rfl
   |some o=>rw [hk _ _ (hm.keeps _ _ q)] at q3;cases q3
  ·rintro f s' ⟨rfl,hn,hs⟩
   exact ⟨rfl,h s' e hn hs⟩
theorem NewR.back {hb h₁ h:Heap} {e:Addr} {c1 c2 c3:Value} (hk:∀ b o,hb.get? b=some o→h₁.get? b=some o) (n:NewR X h₁ h e c1 c2 c3):NewR X hb h e c1 c2 c3:=by
 have nn:∀ b,h₁.get? b=none→hb.get? b=none:=fun b q=>by
  cases q':hb.get? b with
  |none=>rfl
  |some o=>rw [hk _ _ q'] at q;cases q
 refine hid fun G hG=>?_
 obtain ⟨n1,D,t1,m,n2,n3,n4,n5,n6,n7,n8,n9⟩:=n
 refine hG ?_
 exact ⟨nn _ n1,D,t1,m,n2,n3,nn _ n4,n5,n6,n7,n8,fun b o q=>n9 b o (hk b o q)⟩
theorem err_run (K:ErrOK X fI) {v0 v1:Value} {fd:FuncData} {b:List Stmt} {vs:List Value} {Q:Value→Shared→Prop} (F:FnAt X (X.fad 0) fd b) (hb:errB fd.scope.names b=true) (hbind:BindsTo s fd ⟨vs,[]⟩ [("text",v0),("errorcode",v1)])
  (hbase:X.B0.StaysIn s.heap) (hroom:A.depth≤940) (h:∀ s' e t,NewR X s.heap s'.heap e (.int 1 t) v0 v1→Same s s'→Q (.ref e) s'):wpAny X.M A (call (.ref (X.fad 0)) vs) Q E s:=by
 ·refine hid fun G hG=>?_
  obtain ⟨px,k1,pc,py,pz,cp,rp,rfl,hx,hyl,hzl⟩:=errB_inv hb
  obtain ⟨_,hx2,hx3⟩:=isG_name hx
  refine hG ?_
  refine wpAny_call (call_fn F hbind (fun q hq=>?_) hbase ?_ fun h₀ hns hk=>?_)
  ·simp only [List.mem_cons,List.not_mem_nil,or_false] at hq
   rcases hq with rfl |rfl
   ·exact (locB_of hyl).1
   ·exact (locB_of hzl).1
  ·have hr:recursionLimit=1000:=by decide+kernel
   rw [hr];exact linT fun q=>lin [_] [(1,0,.v 0,.n 940),(1,0,.n 1000,.v 0)] rfl hroom q
  ·have kx:(callEnv fd s.heap.objs.size (X.fad 0)).kindOf "Raised"=some .globalImplicit:=by unfold Env.kindOf;exact hx2
   have hbase₀:X.B0.StaysIn h₀:=fun b o q=>hk b o (hbase b o q)
   refine wpAny_execs_cons (wpAny_Return_some (wpAny_Call_ofName (Name_function_global F.kind kx (loadGlobal_global (mg:=X.mg) (by show h₀.Ns fd.globals X.mg;rw [F.glob];exact X.top.g.keeps hbase₀) (mg_of X.ki X.top.g K.glob) ?_) hx3)))
   refine callWith_of (P:=fun h=>X.K.In h) rfl (keeps_K K.keep) (Calls.evalArgs_plain (Calls.spliced_cons (x:=eval (.Constant (.int 1) k1 pc) _) (wpAny_Constant_int (Calls.spliced_cons (x:=eval (.Name "text" py) _) (nameI F.kind hyl hns (v:=v0) (by kernel_rfl) (Calls.spliced_cons (x:=eval (.Name "errorcode" pz) _) (nameI F.kind hzl hns (v:=v1) (by kernel_rfl) (Calls.spliced_nil ⟨fun b o q=>hbase₀ b o (X.ki b o q),?_⟩))))))))
   refine new_raised K hbase₀ (by show A.depth+1≤950;exact linL fun q=>lin [_] [(1,0,.v 0,.n 940),(1,0,.a (.n 950) (.n 1),.a (.v 0) (.n 1))] rfl hroom q) fun s' e n z=>h s' e _ (n.back hk) ⟨z.1,z.2,z.3⟩
end
end Mine
end
section
open PySem PySem.W PyProof.Rows
set_option maxRecDepth 100000
namespace Mine
section
variable {prog:Program} {w:World} {A:Around} {E:Value→Shared→Prop} {env:Env}
variable {nm q:Str} {C N:Addr} {bs bm:List Value} {hdct:Bool} {sn:List Str} {sub:List Value} {ab:Bool} {col:Option Bool} {dd:Option Addr} {k0 k1 k2 k3 k5:Option Value} {newId:String}
theorem raiseStmt_ok {s:Shared} {x:Sem Value} {Q:Flow→Shared→Prop} (hbase:bm.contains (.type "BaseException")=true)
  (h:wpAny (model prog w) A x (fun v s₁=>∃ e D t1,v = .ref e∧s₁.heap.get? C=some (excClassObj nm q C N bs bm hdct sn sub ab col dd k0 k1 k2 k3 k5 newId) ∧
    s₁.heap.get? e=some ⟨.ref C,some D,.fields #[.ref t1,.none,.none,.none,.bool false,.none],#[]⟩∧HandOK A.handled s₁.heap∧A.handled≠some (.ref e) ∧
    ((A.handled=none→E (.ref e) s₁)∧(A.handled≠none→∀ h',(∃ g,h'=s₁.heap.update e (Obj.mapFields (·.setIfInBounds 2 g)))→E (.ref e) { s₁ with heap:=h' }))) E s) :
  wpAny (model prog w) A (raiseStmt env (some x) none) Q E s:=by
 have hcB:(Value.ref C::bm).contains (.type "BaseException")=true:=by rw [List.contains_cons,hbase,Bool.or_true]
 unfold raiseStmt
 refine wpAny_bind (wpAny_mono h (fun v s₁ h₁=>?_) fun _ _ x=>x)
 refine hid fun G hG=>?_
 obtain ⟨e,D,t1,rfl,hC,he,hh,hne,hE⟩:=h₁
 obtain ⟨hp,g,d,tk,os⟩:=s₁
 refine hG ?_
 repeat (first |with_reducible refine wpAny_loadPart_at he ?_ |with_reducible refine wpAny_loadPart_at hC ?_ |(with_reducible refine wpAny_isSubtype_exc hC ?_;rw [hcB]) |wp_step)
 exact raiseNew_ok (s:=⟨hp,g,d,tk,os⟩) hh he rfl (by show 2<6;exact linT fun q=>lin [] [(1,0,.n 6,.n 2)] rfl q) hE fun z=>absurd z hne
end
section
variable {X:Cx} {Φ:Nat→List PyData→RR→Prop} {req:Nat→Nat} {A:Around} {env:Env} {L:Addr} {FS0:List Addr} {HS0 HS W:Addr→Prop} {sc:Sc} {nm:List Str} {k lv:Nat} {s₀ s:Shared} {oa:Nat→Addr} {ρ:Loc} {Q:Out→Prop}
variable (HN:NamesOK X) (HG:∀ lv f,f<k→req f≤lv→Contract X Φ f lv) {fI:Addr} (K:ErrOK X fI)
theorem fly_new {FS:List Addr} {hb h:Heap} {e:Addr} {c2:Str} {u:Tok} {t:Tok} {c3:Value} {d3:PyData} (a:Amb X A FS lv hb) (n:NewR X hb h e (.int 1 t) (.str c2 u) c3) (r:Rd HS h c3 d3):Fly X FS HS lv hb h e ⟨c2,d3⟩:=by
 refine hid fun G hG=>?_
 obtain ⟨n1,D,t1,m,n2,n3,n4,n5,n6,n7,n8,n9⟩:=n
 refine hG ?_
 have nf:∀ b,hb.get? b=none→b ∉ FS:=fun b q hm=>by
  refine hid fun G hG=>?_
  obtain ⟨_,m',o,_,_,ho,_⟩:=a.fsNs hm
  refine hG ?_
  rw [q] at ho;cases ho
 exact ⟨n1,nf e n1,D,_,_,n2,⟨n4,nf D n4,n3⟩,⟨m,t,u,c3,n5,n6,n7,n8,r⟩,⟨_,rfl⟩,(by show 2<6;exact linT fun q=>lin [] [(1,0,.n 6,.n 2)] rfl q),fun _=>rfl,.inl rfl⟩
theorem Fly.ctx {FS:List Addr} {hb h:Heap} {e:Addr} {x:Exc} {g:Value} (f:Fly X FS HS lv hb h e x) (hlv:lv≠2) (hFS:∀ b ∈ FS,∃ m,h.Ns b m):Fly X FS HS lv hb (h.update e (Obj.mapFields (·.setIfInBounds 2 g))) e x:=by
 refine hid fun G hG=>?_
 obtain ⟨f1,f2,d,sl,vs,f3,⟨f4,f5,f6⟩,⟨m,t,u,v,q1,q2,q3,q4,q5⟩,f8,f9,f10,f11⟩:=f
 refine hG ?_
 have he:(h.update e (Obj.mapFields (·.setIfInBounds 2 g))).get? e=some ⟨.ref X.rc,some d,.fields (vs.setIfInBounds 2 g),sl⟩:=Heap.get?_update_self _ f3 rfl
 have other:∀ b,b≠e→(h.update e (Obj.mapFields (·.setIfInBounds 2 g))).get? b=h.get? b:=fun b hb=>Heap.get?_update_other _ _ (Ne.symm hb)
 refine ⟨f1,f2,d,sl,_,he,⟨f4,f5,f6⟩,⟨m,t,u,v,?_,q2,q3,q4,?_⟩,?_,?_,fun z=>absurd z hlv,?_⟩
 ·refine hid fun G hG=>?_
  obtain ⟨o,es,ep,ho,r⟩:=q1
  refine hG ?_
  exact ⟨o,es,ep,(other d f6).trans ho,r⟩
 ·exact q5.monoS (fun b o vs n q hs _=>(other b fun z=>by rw [z,f3] at q;cases q;cases hs).trans q) fun _ _ _ _ _ _ q=>q
 ·obtain ⟨a0,h0⟩:=f8
  exact ⟨a0,by rw [Array.getElem?_setIfInBounds_ne (by decide)];exact h0⟩
 ·simpa using f9
 ·rcases f11 with w |⟨T,oT,ts,w1,w2,w3,w4,w5,w6,w7,w8⟩
  ·exact .inl (by rw [Array.getElem?_setIfInBounds_ne (by decide)];exact w)
  ·exact .inr ⟨T,oT,ts,by rw [Array.getElem?_setIfInBounds_ne (by decide)];exact w1,w2,w3,w4,w5,(other T w4).trans w6,w7,w8⟩
include HN HG K in
theorem ps_rai {mp:PE} {ec:Option PE}:PSok X Φ req sc nm k (.rai mp ec):=by
 intro A env L FS0 HS0 W lv s₀ HS oa ρ s st Q sd hG hc x h
 replace hc:=onRai_inv hc
 obtain ⟨ee,cz,pos,rfl,hc⟩:=hc
 replace hc:=and2 hc
 obtain ⟨hcz,hc⟩:=hc
 rw [none_of hcz]
 replace hc:=onO_inv hc
 obtain ⟨ee,rfl,hc⟩:=hc
 replace hc:=onCallN_inv hc
 obtain ⟨gname,gp,es,cp,rfl,hc⟩:=hc
 replace hc:=and2 hc
 obtain ⟨hg,hc⟩:=hc
 replace hg:=onO_inv hg
 obtain ⟨y,hy,hg⟩:=hg
 replace hc:=onC_inv hc
 obtain ⟨e,r,rfl,hc⟩:=hc
 replace hc:=and2 hc
 obtain ⟨hpl,hc⟩:=hc
 replace hc:=and2 hc
 obtain ⟨hm,hc⟩:=hc
 replace hc:=and2 hc
 obtain ⟨hall,hr⟩:=hc
 ·· obtain ⟨hn1,hn2⟩:=HN.defs 0 y hy
    obtain ⟨hlv,h⟩:=h
    obtain ⟨fd,b,F,hb,hbind2,hbind1⟩:=K.err
    obtain ⟨rd,R⟩:=raised_of K.raised
    have fin:∀ {s₂:Shared} {v1:Value} {m:Str} {u:Tok} {d1:PyData} {vs:List Value},Sx X A env L FS0 HS0 W sc nm k lv s₀ HS oa ρ s₂→BindsTo s₂ fd ⟨vs,[]⟩ [("text",.str m u),("errorcode",v1)]→Rd HS s₂.heap v1 d1→Q (.exc ⟨m,d1⟩) →
      wpAny X.M A (call (.ref (X.fad 0)) vs) (fun v s₁=>∃ e D t1,v = .ref e∧s₁.heap.get? X.rc=some (excClassObj rd.nm rd.qn X.rc rd.N rd.bs bmE true rd.sn rd.sub rd.ab rd.col rd.dd rd.k0 rd.k1 rd.k2 rd.k3 rd.k5 "Exception.__new__") ∧
       s₁.heap.get? e=some ⟨.ref X.rc,some D,.fields #[.ref t1,.none,.none,.none,.bool false,.none],#[]⟩∧HandOK A.handled s₁.heap∧A.handled≠some (.ref e) ∧
       ((A.handled=none→XP X A L FS0 HS0 lv s₀ Q (.ref e) s₁)∧(A.handled≠none→∀ h',(∃ g,h'=s₁.heap.update e (Obj.mapFields (·.setIfInBounds 2 g)))→XP X A L FS0 HS0 lv s₀ Q (.ref e) { s₁ with heap:=h' }))) (XP X A L FS0 HS0 lv s₀ Q) s₂:=by
     intro s₂ v1 m u d1 vs x₂ hbd r1 hq
     refine err_run K F hb hbd x₂.st.amb.base (by have:=x₂.st.dep;exact linL fun q=>lin [_,_] [(1,0,.a (.v 0) (.v 1),.n 900),(1,0,.a (.n 940) (.n 1),.v 0)] rfl this q) fun s' e t n z=>?_
     have fl:=fly_new x₂.st.amb n (r1.mono (fun b o q _=>n.keep b o q) fun _ _ _ q=>q)
     obtain ⟨n1,D,t1,mm,n2,n3,n4,n5,n6,n7,n8,n9⟩:=n
     have y:Ev (L::FS0) s₂.heap s'.heap:=Ev.of_keeps n9
     have hho:=x₂.st.amb.handOK hlv
     refine ⟨e,D,t1,rfl,n9 _ _ (x₂.st.amb.base _ _ R.obj),n2,hho.keep fun e o _ ho=>n9 e o ho,fun q=>?_,fun _=>x₂.exc sd hG ⟨e,_,rfl,hq,fl,y,z⟩,fun hnn h' ⟨g,hg'⟩=>?_⟩
     ·obtain ⟨e',o,_,q',ho,_⟩:=hho _ q
      cases q'
      rw [n1] at ho;cases ho
     ·subst hg'
      have hlv2:lv≠2:=fun q=>hnn (x₂.st.amb.hand.1 q)
      refine x₂.exc sd hG ⟨e,_,rfl,hq,fl.ctx hlv2 ?_,y.update n1 fl.out.2,⟨z.1,z.2,z.3⟩⟩
      intro b hb
      obtain ⟨_,m',hm'⟩:=(x₂.st.amb.ev y).fsNs hb
      exact ⟨m',hm'⟩
    rw [arm_exec_Raise]
    refine wpAny_bind (wpAny_standAt ?_)
    show wpAny X.M A (raiseStmt env (some (do let v ← eval (.Call (.Name gname gp) (e::r) [] cp) env;standAt pos;pure v)) none) _ _ _
    refine raiseStmt_ok (C:=X.rc) (bm:=bmE) (nm:=rd.nm) (q:=rd.qn) (N:=rd.N) (bs:=rd.bs) (hdct:=true) (sn:=rd.sn) (sub:=rd.sub) (ab:=rd.ab) (col:=rd.col) (dd:=rd.dd) (k0:=rd.k0) (k1:=rd.k1) (k2:=rd.k2) (k3:=rd.k3) (k5:=rd.k5) (newId:="Exception.__new__") (by decide+kernel) (wpAny_bind (wpAny_mono ?_ (fun v s₁ q=>wpAny_bind (wpAny_standAt (wpAny_pure q))) fun _ _ e=>e))
    refine wpAny_Call_ofName (global_ok x.st hg hn1 ?_)
    cases ec with
    |none=>
     obtain rfl:r=[]:=nil_of hr
     have hce:chkEs X.fn sc nm [mp] [e]=true:=and2_mk hpl (and2_mk hm rfl)
     refine callWith_of (P:=fun h=>X.K.In h) (by rw [plain_back [mp] hce];rfl) (keeps_K hn2) (evalArgs_any hce rfl ?_)
     refine wpAny_items_cons (wpAny_mono ((pe_ok HN (HG lv) K.raised mp).e hm x.st h) ?_ fun _ _ e=>x.exc sd hG e) (star_plain hpl)
     rintro v s₁ ⟨d,hq,r,y,z⟩
     have x₁:=x.ev sd y z
     obtain ⟨m,u,e₀,hq⟩:=strP.use r hq
     rw [e₀]
     obtain ⟨T,hbd,dd',vs',n',sl',t',hT,hTl⟩:=hbind1 s₁ (.str m u) x₁.st.amb.base
     refine wpAny_items_nil ⟨fun b o q=>x₁.st.amb.base b o (X.ki b o q),fin x₁ hbd (d1 := .tuple [.str (S [78,79,78,69])]) (.tuple (x₁.st.amb.base _ _ hT) (fun q=>by have:=x₁.st.hsn T q;rw [hT] at this;cases this) (by rw [hTl];exact .cons (.str _ _) .nil)) hq⟩
    |some p=>
     obtain ⟨e',rfl,hm'⟩:=on1_inv hr
     have hpl':plainE e'=true:=(and2 hall).1
     have hce:chkEs X.fn sc nm [mp,p] [e,e']=true:=and2_mk hpl (and2_mk hm (and2_mk hpl' (and2_mk hm' rfl)))
     refine callWith_of (P:=fun h=>X.K.In h) (by rw [plain_back [mp,p] hce];rfl) (keeps_K hn2) (evalArgs_any hce rfl ?_)
     refine wpAny_items_cons (wpAny_mono ((pe_ok HN (HG lv) K.raised mp).e hm x.st h) ?_ fun _ _ e=>x.exc sd hG e) (star_plain hpl)
     rintro v s₁ ⟨d,hq,r,y,z⟩
     have x₁:=x.ev sd y z
     obtain ⟨m,u,e₀,hq⟩:=strP.use r hq
     rw [e₀]
     refine wpAny_items_cons (wpAny_mono ((pe_ok HN (HG lv) K.raised p).e hm' x₁.st hq) ?_ fun _ _ e=>x₁.exc sd hG e) (star_plain hpl')
     rintro v₂ s₂ ⟨d₂,hq₂,r₂,y₂,z₂⟩
     have x₂:=x₁.ev sd y₂ z₂
     exact wpAny_items_nil ⟨fun b o q=>x₂.st.amb.base b o (X.ki b o q),fin x₂ (hbind2 s₂ (.str m u) v₂ x₂.st.amb.base) r₂ hq₂⟩
end
end Mine
end
section
open PySem PySem.W PyProof.Rows
set_option maxRecDepth 100000
namespace Mine
section
variable {X:Cx} {Φ:Nat→List PyData→RR→Prop} {req:Nat→Nat} {A A':Around} {env:Env} {L:Addr} {FS0:List Addr} {HS0 HS HS' W:Addr→Prop} {sc:Sc} {nm:List Str} {k lv lv':Nat} {s₀ s₁ s:Shared} {oa oa':Nat→Addr} {ρ ρ':Loc} {Q:Out→Prop}
variable (HN:NamesOK X) (HG:∀ lv f,f<k→req f≤lv→Contract X Φ f lv) {fI:Addr} (K:ErrOK X fI)
theorem Sx.unbaseA {W₁:Addr→Prop} (sd:Sd X A env L FS0 W nm s₀) (x:Sx X A env L FS0 HS0 W sc nm k lv s₀ HS oa ρ s₁) (hW:∀ b,W₁ b→W b∨s₀.heap.get? b=none) (hf:A'.frames=A.frames) (hd:A'.depth=A.depth) (hu:A'.units=A.units)
  (x':Sx X A' env L FS0 HS0 W₁ sc nm k lv' s₁ HS' oa' ρ' s):Sx X A env L FS0 HS0 W sc nm k lv s₀ HS' oa' ρ' s:=by
 have ek:Ek W FS0 s₀.heap s.heap:=by
  refine ⟨fun b o e n=>x'.ek.keep b o (x.ek.keep b o e n) fun w=>?_,fun b hb m e=>x'.ek.fr b hb m (x.ek.fr b hb m e)⟩
  rcases hW b w with z |z
  ·exact n z
  ·rw [z] at e;cases e
 have st:St X A env L (L::FS0) HS' sc nm oa' ρ' k lv s.heap:=by
  refine ⟨⟨x'.st.amb.base,?_,x.st.amb.hand.1,fun hl v hv=>?_,x.st.amb.hand.2.2⟩,x'.st.env,x'.st.loc,x'.st.len,x'.st.hsf,x'.st.hsb,x'.st.lhs,by rw [← hd];exact x'.st.dep,by rw [← hu];exact x'.st.uni,x'.st.hsn⟩
  ·obtain ⟨l,hA,r⟩:=x'.st.amb.frs
   exact ⟨l,by rw [← hf];exact hA,r⟩
  ·refine hid fun G hG=>?_
   obtain ⟨e,o,vs,rfl,he,hdd,h2⟩:=x.st.amb.hand.2.1 hl v hv
   obtain ⟨o',ho',hw⟩:=sd.hand e hv
   refine hG ?_
   have q:=x.ek.keep e o' ho' hw
   rw [he] at q
   cases q
   exact ⟨e,o,vs,rfl,ek.keep e o ho' hw,hdd,h2⟩
 refine ⟨st,x'.sub,fun i ds hi=>?_,ek,x.same.trans x'.same,fun b hb=>?_⟩
 ·refine hid fun G hG=>?_
  obtain ⟨o1,o2,o3,o4,o5⟩:=x'.own i ds hi
  refine hG ?_
  refine ⟨o1,o2,?_,o4,o5⟩
  rcases o3 with w |w
  ·exact hW _ w
  ·exact x.none_ w
 ·rcases x'.lim b hb with z |z |z |z
  ·exact .inl z
  ·exact .inr (.inl z)
  ·exact .inr (.inr (hW b z))
  ·exact .inr (.inr (x.none_ z))
theorem Sx.wipe (sd:Sd X A env L FS0 W nm s₀) (x:Sx X A env L FS0 HS0 W sc nm k lv s₀ HS oa ρ s) {h':Heap} {m:Str→Option Value} {tk:Nat} (hn:h'.Ns L m) (sb:Heap.SameBut L s.heap h') :
  Sx X A env L FS0 HS0 W sc nm k lv s₀ HS oa (List.replicate nm.length .un) { s with heap:=h',toks:=tk }:=by
 have ⟨ba,be⟩:=x.base sd hn sb
 have hrep:∀ (i:Nat) (v:Val),(List.replicate nm.length Val.un)[i]?=some v→v = .un:=fun i v q=>by
  rw [List.getElem?_replicate] at q
  split at q <;> cases q
  rfl
 refine ⟨⟨ba,x.st.env,⟨_,hn,fun j z hz=>?_⟩,by simp,x.st.hsf,fun b hb=>?_,x.st.lhs,x.st.dep,x.st.uni,x.st.hsn⟩,x.sub,fun j ds hj=>?_,be,⟨x.same.1,x.same.2,x.same.3⟩,x.lim⟩
 ·cases q:(List.replicate nm.length Val.un)[j]? with
  |none=>trivial
  |some v=>rw [hrep j v q];trivial
 ·by_cases hbL:b=L
  ·subst hbL;obtain ⟨o,_,_,ho,_⟩:=hn;exact ⟨o,ho⟩
  ·obtain ⟨o,ho⟩:=x.st.hsb b hb;exact ⟨o,(sb.2 b hbL).trans ho⟩
 ·cases hrep j _ hj
theorem St.marked {h hb:Heap} {e:Addr} {ex:Exc} {FS FS1:List Addr} (st:St X A env L FS HS sc nm oa ρ k lv h) (f:Fx X A FS lv FS1 HS hb e ex h) (hl:lv≤2):St X (A.mark (some (.ref e))) env L FS HS sc nm oa ρ k (lv - 1) h:=by
 refine hid fun G hG=>?_
 obtain ⟨_,_,d,sl,vs,f3,_,_,_,_,f10,_⟩:=f.fly
 refine hG ?_
 refine ⟨⟨st.amb.base,st.amb.frs,fun q=>by omega,fun hl' v hv=>?_,fun v hv=>?_,by exact linL fun q=>lin [_,_] [(1,0,.v 0,.n 2),(1,0,.v 1,.v 0),(1,0,.a (.n 2) (.n 1),.v 1)] rfl hl (Nat.sub_le _ _) q⟩,st.env,st.loc,st.len,st.hsf,st.hsb,st.lhs,st.dep,st.uni,st.hsn⟩
 ·cases hv
  exact ⟨e,_,vs,rfl,f3,rfl,f10 (by omega)⟩
 ·cases hv
  exact ⟨e,rfl⟩
include K in
theorem catch_ok {hps:List PS} {i:Nat} {g n:Str} {gp pos:Pos} {b:Stmt} {bs:List Stmt} {e:Addr} {ex:Exc} {E:Value→Shared→Prop} (ih:PSsok X Φ req sc nm k hps) (sd:Sd X A env L FS0 W nm s₀) (x:Sx X A env L FS0 HS0 W sc nm k lv s₀ HS oa ρ s) (hl2:lv≤2)
  (hcb:chkSs X.fn sc nm hps (b::bs)=true) (hg:isG sc g "Raised"=true) (hi:isL sc nm i n=true) (fly:Fly X (L::FS0) HS lv s.heap s₁.heap e ex) (y:Ev (L::FS0) s.heap s₁.heap) (z:Same s s₁)
  (hw:PS.wps Φ req k (lv - 1) hps (ρ.set i (.ex ex)) (rq Q)) :
  wpAny X.M A (noteFrame (.ref e) env) (fun _ s₂=>wpAny X.M A (setFlight (.ref e) none) (fun _ s₃=>wpAny X.M A (handleBy (.ref e) env [.ExceptHandler (some (.Name g gp)) (some n) (b::bs) pos]) (FP X A env L FS0 HS0 W sc nm k lv s₀ Q) E s₃) E s₂) E s₁:=by
 obtain ⟨l,hl⟩:=sd.frames
 have gr:Gr X A (L::FS0) lv (L::FS0) s.heap:=⟨fun _ h=>h,fun _ h => .inl h,x.st.amb.base,x.st.amb.hand,fun b o vs ho hd hm=>x.st.amb.notFS ho (fun es ep q=>by rw [hd] at q;cases q) hm⟩
 refine noteFrame_ok gr hl sd.frame ⟨x.st.amb.ev y,fly,y⟩ fun h₂ f₂ _=>?_
 refine setFlight_ok (s:={ s₁ with heap:=h₂ }) gr f₂ fun h₃ f₃ _=>?_
 refine wpAny_handleBy_cons (codeAny_handlers_test ?_) (by intro q;cases q)
 have st₃:=(x.st.ev f₃.ev).marked f₃ hl2
 refine global_ok (s:={ s₁ with heap:=h₃ }) st₃ hg K.glob ?_
 refine hid fun G hG=>?_
 obtain ⟨rd,R⟩:=raised_of K.raised
 obtain ⟨oe,_,he,_⟩:=f₃.tb_field (s:={ s₁ with heap:=h₃ })
 obtain ⟨_,_,d,sl,vs,he3,_⟩:=f₃.fly
 obtain ⟨hh,gg,dr,tk,os⟩:=s₁
 refine hG ?_
 refine wpAny_excMatches_sub_self (f₃.amb.base _ _ R.obj) he3 rfl (by decide+kernel) ?_
 simp only [if_true]
 refine codeAny_handlers_suite_as ?_
 refine setFlight_ok (s:=⟨h₃,gg,dr,tk,os⟩) gr f₃ fun h₄ f₄ _=>?_
 have x₄:Sx X A env L FS0 HS0 W sc nm k lv s₀ HS oa ρ ⟨h₄,gg,dr,tk,os⟩:=x.ev sd f₄.ev ⟨z.1,z.2,z.3⟩
 have st₄:=x₄.st.marked f₄ hl2
 have x₄':Sx X (A.mark (some (.ref e))) env L FS0 HS0 (Turn L FS0 HS0 HS) sc nm k (lv - 1) ⟨h₄,gg,dr,tk,os⟩ HS oa ρ ⟨h₄,gg,dr,tk,os⟩:=by
  have q:=x₄.rebase (W₁:=Turn L FS0 HS0 HS) fun _ w=>w
  exact ⟨st₄,q.sub,q.own,q.ek,q.same,q.lim⟩
 refine hid fun G hG=>?_
 obtain ⟨g1,g2,d₄,sl₄,vs₄,g3,⟨g4,g5,g6⟩,⟨m,t,u,v,q1,q2,q3,q4,q5⟩,_⟩:=f₄.fly
 refine hG ?_
 have hHe:¬ HS e:=x.st.new g1
 have sd₄:Sd X (A.mark (some (.ref e))) env L FS0 (Turn L FS0 HS0 HS) nm ⟨h₄,gg,dr,tk,os⟩:=⟨⟨l,hl⟩,sd.frame,fun b hb => .inl (.tail _ hb),.inl (.inl (.head _)),sd.off,sd.nodup,fun e' q=>by
  cases q
  refine ⟨_,g3,fun w=>?_⟩
  rcases w with w |w
  ·exact g2 w
  ·exact hHe w.1⟩
 refine store_ok (s:=⟨h₄,gg,dr,tk,os⟩) sd₄ x₄' hi (nv := .ex ex) ⟨e,rfl,d₄,sl₄,vs₄,m,t,u,v,g3,x.st.new g4,q1,q2,q3,q4,q5⟩ fun s₅ x₅ sb₅=>?_
 refine wpAny_mono (ih (Q:=rq Q) sd₄ (fun _ q=>q.elim) hcb x₅ hw) (fun f s₆ q=>q.use (fun _ _ _ _ ho _=>ho.elim) (fun _ _ _ _ ho _=>ho.elim) ?_) fun v s₆ q=>?_
 ·rintro HS₆ oa₆ ρ₆ d₆ v₆ rfl ho x₆ hf
  obtain ⟨m₆,hm₆,_⟩:=x₆.st.loc
  have hi':=isL_name hi
  have hk:env.kindOf n=some .local:=by unfold Env.kindOf;rw [x₆.st.env.names];exact hi'.2.1
  refine wpAny_nameGoes (m:=m₆) hk (by rw [x₆.st.env.loc];exact hm₆) x₆.st.kindF fun h' m' hn sb=>?_
  rw [x₆.st.env.loc] at hn sb
  have x₇:=x₆.wipe sd₄ (tk:=s₆.toks+1) hn sb
  have x₈:=Sx.unbaseA (A':=A.mark (some (.ref e))) sd x₄ (fun b w=>x₄.turn_ sd w) rfl rfl rfl x₇
  refine ⟨.ret d₆,_,_,_,ho,x₈,?_⟩
  refine Rd.monoS (fun b o vs n e q _=>(sb.2 b fun z=>?_).trans e) (fun _ _ _ _ _ _ q=>q) hf
  rw [z] at e
  exact ns_notseq hm₆ e q
 ·refine hid fun G hG=>?_
  obtain ⟨_,_,_,q,_⟩:=q
  refine hG ?_
  exact q.elim
include HN HG K in
theorem ps_tryR {p:PE} {i:Nat} {hps:List PS} (ih:PSsok X Φ req sc nm k hps):PSok X Φ req sc nm k (.tryR p i hps):=by
 intro A env L FS0 HS0 W lv s₀ HS oa ρ s st Q sd hG hc x h
 refine hid fun G hG=>?_
 replace hc:=onTry1_inv hc
 obtain ⟨st,g,gp,n,b,bs,hp,pos,rfl,hc⟩:=hc
 replace hc:=and2 hc
 obtain ⟨hg,hc⟩:=hc
 replace hc:=and2 hc
 obtain ⟨hi,hc⟩:=hc
 replace hc:=and2 hc
 obtain ⟨hc,hcb⟩:=hc
 replace hc:=onRet_inv hc
 obtain ⟨oe,rp,rfl,hc⟩:=hc
 replace hc:=onO_inv hc
 obtain ⟨e,rfl,hc⟩:=hc
 obtain ⟨hl2,h⟩:=h
 refine hG ?_
 ·rw [arm_exec_Try]
  refine wpAny_bind (wpAny_standAt (wpAny_tryStmt_except ?_))
  refine wpAny_execs_cons (wpAny_Return_some (wpAny_mono ((pe_ok HN (HG lv) K.raised p).e hc x.st h) ?_ ?_))
  ·rintro v s₁ ⟨d,hq,r,y,z⟩
   have x₁:=x.ev sd y z
   exact ⟨_,HS,oa,_,hq,x₁,r.to0 x₁.sub⟩
  ·rintro v s₁ ⟨e,ex,rfl,hq,fly,y,z⟩
   exact catch_ok K ih sd x hl2 hcb hg hi fly y z hq
include HN HG K in
theorem ps_tryE {p:PE} {i:Nat} {hps:List PS} (ih:PSsok X Φ req sc nm k hps):PSok X Φ req sc nm k (.tryE p i hps):=by
 intro A env L FS0 HS0 W lv s₀ HS oa ρ s st Q sd hG hc x h
 refine hid fun G hG=>?_
 replace hc:=onTry1_inv hc
 obtain ⟨st,g,gp,n,b,bs,hp,pos,rfl,hc⟩:=hc
 replace hc:=and2 hc
 obtain ⟨hg,hc⟩:=hc
 replace hc:=and2 hc
 obtain ⟨hi,hc⟩:=hc
 replace hc:=and2 hc
 obtain ⟨hc,hcb⟩:=hc
 replace hc:=onEx_inv hc
 obtain ⟨e,rp,rfl,hc⟩:=hc
 replace hc:=and2 hc
 obtain ⟨hv,hc⟩:=hc
 obtain ⟨hl2,h⟩:=h
 refine hG ?_
 ·rw [arm_exec_Try]
  refine wpAny_bind (wpAny_standAt (wpAny_tryStmt_except ?_))
  refine wpAny_execs_cons (wpAny_Expr_any (wpAny_mono ((pe_ok HN (HG lv) K.raised p).e hc x.st h) ?_ ?_) (notInteractive x.st) (notComp_swap hv))
  ·rintro v s₁ ⟨d,hq,r,y,z⟩
   exact wpAny_execs_nil (wpAny_execs_nil ⟨_,HS,oa,_,hq,x.ev sd y z,rfl⟩)
  ·rintro v s₁ ⟨e,ex,rfl,hq,fly,y,z⟩
   exact catch_ok K ih sd x hl2 hcb hg hi fly y z hq
end
end Mine
end
section
open PySem PySem.W PyProof.Rows
set_option maxRecDepth 100000
namespace Mine
theorem list_store_ok {prog:Program} {w:World} {A:Around} {E:Value→Shared→Prop} {s:Shared} {l:Addr} {vs:Array Value} {n:Nat} {k:Int} {t:Tok} {v:Value} {Q:Unit→Shared→Prop} (ho:s.heap.get? l=some { cls := .type "list",data := .seq vs n })
  (h0:0≤k) (hfit:k<2 ^ 63) (hn:k<vs.size)
  (hQ:∀ h' n',h'.get? l=some { cls := .type "list",data := .seq (vs.setIfInBounds k.toNat v) n' }→Heap.SameBut l s.heap h'→Q () { s with heap:=h' }) :
  wpAny (model prog w) A (setItem (.ref l) (.int k t) v) Q E s:=by
 have hl:s.heap.IsList l vs:=⟨_,ho,rfl,_,rfl⟩
 have hd:({ cls := .type "list",data := .seq vs n }:Obj).data = .seq vs n:=rfl
 unfold setItem
 try with_reducible refine wpAny_holding ?_
 first |refine wpAny_bind (wpAny_pure ?_) |skip
 refine wpAny_bind (wpAny_sequenceKey hl.typeIs (by decide) ?_)
 refine wpAny_bind (wpAny_callSpecial?_slot (name:=Str.ofString "__setitem__") hl.typeIs slot_list_setitem
  (wpAny_call_entry slot_list_setitem hl.typeIs entry_list_setitem ?_ (args_list_setitem _ _ _)))
 show wpAny _ _ (Builtin.List.listSubscript? (.int k t) >>= _) _ _ s
 refine wpAny_bind (wpAny_listSubscript_int (fitsIndex_of h0 hfit) ?_)
 clear hfit
 obtain ⟨j,rfl⟩:=Int.eq_ofNat_of_zero_le h0
 have hj:j<vs.size:=by omega
 have hx':vs[j]?=some vs[j]:=Array.getElem?_eq_getElem hj
 show wpAny _ _ ((seqItemAt l j >>= fun r=>pure (r.map (j,·))) >>= _) _ _ s
 refine wpAny_bind (wpAny_bind (wpAny_seqItemAt ho hd (wpAny_pure ?_)))
 rw [hx']
 show wpAny _ _ (setSeqItemAt l j v >>= _) _ _ s
 obtain ⟨n',hd'⟩:=Obj.data_mapSeq hd (·.setIfInBounds j v)
 have hfin:(s.heap.update l (Obj.mapSeq (·.setIfInBounds j v))).get? l=some { cls := .type "list",data := .seq (vs.setIfInBounds j v) n' }:=by
  refine (Heap.get?_update_self _ ho (Obj.isFreed_of_seq hd')).trans ?_
  have:Obj.mapSeq (·.setIfInBounds j v) { cls := .type "list",data := .seq vs n }={ cls := .type "list",data := .seq (vs.setIfInBounds j v) n' }:=by
   have h1:(Obj.mapSeq (·.setIfInBounds j v) { cls := .type "list",data := .seq vs n }).data = .seq (vs.setIfInBounds j v) n':=hd'
   revert h1
   cases hh:Obj.mapSeq (·.setIfInBounds j v) { cls := .type "list",data := .seq vs n } with
   |mk c d dt sl=>
    intro h1
    dsimp only at h1
    subst h1
    unfold Obj.mapSeq at hh
    cases hh
    rfl
  rw [this]
 refine wpAny_bind (wpAny_setSeqItemAt ho hd ?_)
 first
  |exact wpAny_bind (wpAny_pure (wpAny_pure ⟨.none,rfl,wpAny_pure (hQ _ n' hfin (Heap.SameBut.update ..))⟩))
  |exact wpAny_pure ⟨.none,rfl,wpAny_pure (hQ _ n' hfin (Heap.SameBut.update ..))⟩
section
variable {X:Cx} {Φ:Nat→List PyData→RR→Prop} {req:Nat→Nat} {sc:Sc} {nm:List Str} {k:Nat}
variable (HN:NamesOK X) (HG:∀ lv f,f<k→req f≤lv→Contract X Φ f lv) {fI:Addr} (hR:raisedIn X.K X.rc fI=true)
theorem rdAll_set {H:Addr→Prop} {h:Heap} {v:Value} {d:PyData} (q:Rd H h v d) {ds:List PyData}:∀ {vs:List Value} {i:Nat},RdAll H h vs ds→RdAll H h (vs.set i v) (ds.set i d):=by
 induction ds with
 |nil=>intro vs i r;rw [rnil r];exact .nil
 |cons d' ds ih=>
  intro vs i r
  refine hid fun G hG=>?_
  obtain ⟨w,vs',rfl,r1,r2⟩:=rcons r
  refine hG ?_
  cases i with
  |zero=>exact .cons q r2
  |succ i=>exact .cons r1 (ih r2)
include HN HG hR in
theorem ps_sto {t w:Nat} {p:PE}:PSok X Φ req sc nm k (.sto t w p):=by
 intro A env L FS0 HS0 W lv s₀ HS oa ρ s st Q sd hG hc x h
 replace hc:=onAsg_inv hc
 obtain ⟨ts,e,pos,rfl,hc⟩:=hc
 replace hc:=on1_inv hc
 obtain ⟨tg,rfl,hc⟩:=hc
 replace hc:=onSubN_inv hc
 obtain ⟨y,py,sl,ps,rfl,hc⟩:=hc
 replace hc:=onName_inv hc
 obtain ⟨z,pz,rfl,hc⟩:=hc
 replace hc:=and2 hc
 obtain ⟨hy,hc⟩:=hc
 replace hc:=and2 hc
 obtain ⟨hz,hc⟩:=hc
 replace hc:=and2 hc
 obtain ⟨hb,hc⟩:=hc
 replace h:=atO_inv h
 obtain ⟨ds,hρ,h⟩:=h
 replace h:=atD_inv h
 obtain ⟨dw,hw,h⟩:=h
 replace h:=intP_inv h
 obtain ⟨ii,rfl,h⟩:=h
 replace h:=natP_inv h
 obtain ⟨n',e₂,h⟩:=h
 rw [e₂] at hw
 have hs:swapsWith e (some (.Subscript (.Name y py) (.Name z pz) ps)) pos.line env=pure false:=by
  obtain ⟨_,_,_,_,e',_⟩:=onBin_inv hb
  rw [e']
  rfl
 refine wpAny_Assign_Subscript (ex_ok HN HG hR sd hG hc x h fun v d s' hq x' rv=>?_) hs
 obtain ⟨h1,h2,hQ⟩:=hq
 refine localO_ok x'.st hy hρ fun vs n ho r=>?_
 refine local_ok x'.st hz (fun m vz hm rz hvz=>?_) fun m rz=>?_
 ·rw [hw] at rz
  obtain ⟨v',hv',q⟩:=rz
  rw [hvz] at hv'
  obtain rfl:=Option.some.inj hv'
  obtain ⟨t,rfl⟩:=rint q
  have hlen:=r.length
  rw [Array.length_toList] at hlen
  refine list_store_ok ho (Int.natCast_nonneg _) (by unfold lim at h2;omega) (by omega) fun h' n' ho' sb=>?_
  refine ⟨_,HS,oa,_,hQ,x'.turn sd hρ ho ho' ?_ sb,rfl⟩
  rw [Array.toList_setIfInBounds]
  exact rdAll_set rv r
 ·rw [hw] at rz
  obtain ⟨v',hv',_⟩:=rz
  exact ⟨v',hv'⟩
theorem ne_range:("range":Str)≠"__name__":=by decide+kernel
theorem const_int {A:Around} {env:Env} {n:Int} {kk:Nat} {pos:Pos} {s:Shared} {Q:Value→Shared→Prop} {E:Value→Shared→Prop} {M:Model} (h:∀ t tk,Q (.int n t) { s with toks:=tk }):wpAny M A (eval (.Constant (.int n) kk pos) env) Q E s:=wpAny_Constant_int (h _ _)
include HN in
theorem ps_forR {i:Nat} {b:List PS} (ihb:PSsok X Φ req sc nm k b):PSok X Φ req sc nm k (.forR i b):=by
 intro A env L FS0 HS0 W lv s₀ HS oa ρ s st Q sd hG hc x h
 refine hid fun G hG=>?_
 replace hc:=onFor1_inv hc
 obtain ⟨y,py,ee,b',pos,rfl,hc⟩:=hc
 replace hc:=and2 hc
 obtain ⟨hy,hc⟩:=hc
 obtain ⟨he,hcb⟩:=and2 hc
 replace he:=onCallN_inv he
 obtain ⟨g,pg,xs,ps,rfl,he⟩:=he
 replace he:=and2 he
 obtain ⟨hg,he⟩:=he
 replace he:=onC_inv he
 obtain ⟨a,r,rfl,he⟩:=he
 replace he:=on2_inv he
 obtain ⟨z,c,rfl,he⟩:=he
 replace he:=and2 he
 obtain ⟨h1,he⟩:=he
 obtain ⟨h2,h3⟩:=and2 he
 replace h1:=onConst_inv h1
 obtain ⟨_,ka,pa,rfl,h1⟩:=h1
 replace h2:=onConst_inv h2
 obtain ⟨_,kz,pz,rfl,h2⟩:=h2
 replace h3:=onConst_inv h3
 obtain ⟨_,kc,pc,rfl,h3⟩:=h3
 obtain ⟨hlv,hf⟩:=h
 refine hG ?_
 rw [eq_of_beq (and2 h1).2,eq_of_beq (and2 h2).2,eq_of_beq (and2 h3).2]
 ·have hh:A.handled=none:=x.st.amb.hand.1 hlv
  refine wpAny_For (wpAny_Call_ofName (builtin_ok x.st hg HN.range boot_range ne_range ?_)) (by intro _;rfl)
  refine PySem.callWith_type rfl (Calls.evalArgs_plain (Calls.spliced_cons (const_int (kk:=ka) (pos:=pa) fun t₁ k₁=>Calls.spliced_cons (const_int (kk:=kz) (pos:=pz) fun t₂ k₂=>Calls.spliced_cons (const_int (kk:=kc) (pos:=pc) fun t₃ k₃=>Calls.spliced_nil ?_)))))
  refine call_range_3 (by decide) ?_ (.inl (PyProof.noPylong_small (by decide)))
  have y₁:Ev (L::FS0) s.heap (s.heap.push { cls := .type "range",data := .fields #[.int 7 t₁,.int 63 t₂,.int 14 t₃] }):=Ev.push _ _ _
  have x₁:=x.ev sd (s':={ s with heap:=s.heap.push { cls := .type "range",data := .fields #[.int 7 t₁,.int 63 t₂,.int 14 t₃] },toks:=k₃ }) y₁ ⟨rfl,rfl,rfl⟩
  refine wpAny_pyIter_range (IsRange.new ..) (by decide+kernel) ?_
  generalize s.heap.push { cls := .type "range",data := .fields #[.int 7 t₁,.int 63 t₂,.int 14 t₃] }=h₁ at x₁ y₁ ⊢
  have hn:h₁.get? h₁.objs.size=none:=Heap.get?_none_of_le (Nat.le_refl _)
  have x₂:=x₁.ev sd (s':={ s with toks:=k₃,heap:=h₁.push { cls := .type "range_iterator",data := .fields #[rawInt 7,rawInt (Builtin.Range.rangeSize 7 63 14),rawInt 14] } }) (Ev.push _ _ _) ⟨rfl,rfl,rfl⟩
  refine for_ok (n:=4) ihb sd hy hcb hh x₂ (Walks.range hh h₁.objs.size 7 14 4) rfl (fun b hb => .inl (by simpa using hb)) (fun hm=>?_) (x₁.st.new hn) (x₁.none_ hn) ?_ ?_ (fun j h q=>⟨_,q,⟨_,rfl⟩,⟨_,rfl⟩⟩) (fun j v HS' h d hv hd _=>?_) hf
  ·refine hid fun G hG=>?_
   obtain ⟨_,m,o,_,_,ho,_⟩:=x₁.st.amb.fsNs hm
   refine hG ?_
   rw [hn] at ho;cases ho
  ·cases q:X.B0.get? h₁.objs.size with
   |none=>rfl
   |some o=>
    have:=x₁.st.amb.base _ o q
    rw [hn] at this;cases this
  ·exact Heap.get?_push_size _ rfl
  ·obtain ⟨t,rfl⟩:=hv
   have hj:j<4:=(List.getElem?_eq_some_iff.mp hd).1
   rcases j with _ |_ |_ |_ |j
   ·cases hd;exact .int _ _
   ·cases hd;exact .int _ _
   ·cases hd;exact .int _ _
   ·cases hd;exact .int _ _
   ·exact (lin [_] [(1,0,.a (.a (.a (.a (.a (.v 0) (.n 1)) (.n 1)) (.n 1)) (.n 1)) (.n 1),.n 4)] rfl hj).elim
end
end Mine
end
section
open PySem PySem.W PyProof.Rows
namespace Mine
universe u v
noncomputable def OutR (r:RR):Out→Prop
 | .ret d=>r = .ok d
 | .nxt _=>r = .ok .none
 | .exc x=>r = .exc x
 | .brk _=>False
noncomputable def ini (nm:List Str) (ds:List PyData):Loc:=(ds.map Val.d)++List.replicate (nm.length - ds.length) .un
theorem sq_nxt {f:Loc→Prop} {Q:Out→Prop} {ρ:Loc}:sq f Q (.nxt ρ)=f ρ:=rfl
theorem sq_ret {f:Loc→Prop} {Q:Out→Prop} {d:PyData}:sq f Q (.ret d)=Q (.ret d):=rfl
theorem sq_exc {f:Loc→Prop} {Q:Out→Prop} {x:Exc}:sq f Q (.exc x)=Q (.exc x):=rfl
theorem lq_nxt {f:Loc→Prop} {Q:Out→Prop} {ρ:Loc}:lq f Q (.nxt ρ)=f ρ:=rfl
theorem or_ret {r:RR} {d:PyData}:OutR r (.ret d)=(r = .ok d):=rfl
theorem or_nxt {r:RR} {ρ:Loc}:OutR r (.nxt ρ)=(r = .ok .none):=rfl
theorem or_exc {r:RR} {x:Exc}:OutR r (.exc x)=(r = .exc x):=rfl
noncomputable abbrev Dp {α:Sort u} (_:α) (β:Sort v):Sort v:=β
section
variable (Φ:Nat→List PyData→RR→Prop) (req:Nat→Nat) (k lv:Nat)
noncomputable def EW (e:PE) (ρ:Loc) (P:PyData→Prop) (E:Dp P (Exc→Prop)) (_:Dp E Unit:=()):Prop:=PE.wp Φ req k lv e ρ P E
noncomputable def EWS (e:List PE) (ρ:Loc) (P:List PyData→Prop) (E:Dp P (Exc→Prop)) (_:Dp E Unit:=()):Prop:=PE.wps Φ req k lv e ρ P E
noncomputable def S1 (s:PS) (ρ:Loc) (Q:Out→Prop) (_:Dp Q Unit:=()):Prop:=PS.wp Φ req k lv s ρ Q
noncomputable def SW (s:List PS) (ρ:Loc) (Q:Out→Prop) (_:Dp Q Unit:=()):Prop:=PS.wps Φ req k lv s ρ Q
end
noncomputable def BW (op:Bop) (x y:PyData) (P:PyData→Prop) (_:Dp P Unit:=()):Prop:=binW op x y P
noncomputable def CW (op:CmpOp) (x y:PyData) (P:PyData→Prop) (_:Dp P Unit:=()):Prop:=cmpW op x y P
noncomputable def IW (x y:PyData) (P:PyData→Prop) (_:Dp P Unit:=()):Prop:=idxW x y P
noncomputable def SLW (x:PyData) (l h:Option PyData) (P:PyData→Prop) (_:Dp P Unit:=()):Prop:=slW x l h P
noncomputable def LW (x:PyData) (P:PyData→Prop) (_:Dp P Unit:=()):Prop:=lenW x P
noncomputable def JW (x:Str) (ds:List PyData) (P:PyData→Prop) (_:Dp P Unit:=()):Prop:=joinW x ds P
noncomputable def KW (p:RR→Prop) (K:RR→Prop) (_:Dp K Unit:=()):Prop:=∃ r,p r∧K r
noncomputable def OX {α:Type} (o:Option α) (P:α→Prop) (_:Dp P Unit:=()):Prop:=onS o P
noncomputable def XS (ds:List PyData) (P:List Str→Prop) (_:Dp P Unit:=()):Prop:=strsP ds P
noncomputable def GD (p q:Prop) (_:Dp q Unit:=()):Prop:=p∧q
noncomputable def Fz {α:Type} (f:(α→Prop)→PyData→Prop) (F:α→Prop) (d:PyData) (_:Dp F Unit:=()):Prop:=f F d
noncomputable def AD (o:Option Val) (P:PyData→Prop) (_:Dp P Unit:=()):Prop:=atD o P
noncomputable def AO (o:Option Val) (P:List PyData→Prop) (_:Dp P Unit:=()):Prop:=atO o P
noncomputable def AE (o:Option Val) (P:Exc→Prop) (_:Dp P Unit:=()):Prop:=atE o P
noncomputable def NL (x:PyData) (G:Prop) (_:Dp G Unit:=()):Prop:=notL x G
noncomputable def NP (i:Int) (P:Nat→Prop) (_:Dp P Unit:=()):Prop:=natP i P
section
variable {Φ:Nat→List PyData→RR→Prop} {req:Nat→Nat} {k lv:Nat} {ρ:Loc} {Q:Out→Prop} {P:PyData→Prop} {PL:List PyData→Prop} {PB:Bool→Prop} {PI:Int→Prop} {PT:Str→Prop} {PN:Nat→Prop} {E:Exc→Prop} {p q G:Prop}
theorem gd (h:p):GD p q=q:=propext ⟨And.right,And.intro h⟩
theorem gd':GD p q=(p∧q):=rfl
theorem ite_ff:(if false=true then p else q)=q:=rfl
theorem iteT {c:Prop} [Decidable c] (h:c):(if c then p else q)=p:=if_pos h
theorem w_nil:SW Φ req k lv [] ρ Q=Q (.nxt ρ):=rfl
theorem w_cons {s:PS} {r:List PS}:SW Φ req k lv (s::r) ρ Q=S1 Φ req k lv s ρ (sq (fun ρ'=>SW Φ req k lv r ρ' Q) Q):=rfl
theorem w_asg {i:Nat} {e:PE}:S1 Φ req k lv (.asg i e) ρ Q=EW Φ req k lv e ρ (fun d=>Q (.nxt (ρ.set i (.d d)))) fun x=>Q (.exc x):=rfl
theorem w_upk {is:List Nat} {e:PE}:S1 Φ req k lv (.upk is e) ρ Q=GD (1≤lv) (EW Φ req k lv e ρ (fun d=>Fz tupP (fun ds=>GD (ds.length=is.length) (Q (.nxt (setAll ρ is ds)))) d) fun x=>Q (.exc x)):=rfl
theorem w_upkT {is:List Nat} {es:List PE}:S1 Φ req k lv (.upkT is es) ρ Q=GD (1≤lv) (EWS Φ req k lv es ρ (fun ds=>Q (.nxt (setAll ρ is ds))) fun x=>Q (.exc x)):=rfl
theorem w_newO {i:Nat}:S1 Φ req k lv (.newO i) ρ Q=Q (.nxt (ρ.set i (.own []))):=rfl
theorem w_upkO {i:Nat} {is:List Nat} {es:List PE}:S1 Φ req k lv (.upkO i is es) ρ Q=GD (1≤lv) (EWS Φ req k lv es ρ (fun ds=>Q (.nxt ((setAll ρ is ds).set i (.own [])))) fun x=>Q (.exc x)):=rfl
theorem w_app {i:Nat} {e:PE}:S1 Φ req k lv (.app i e) ρ Q=AO ρ[i]? fun xs=>EW Φ req k lv e ρ (fun d=>GD (xs.length≤lim) (Q (.nxt (ρ.set i (.own (xs++[d])))))) fun x=>Q (.exc x):=rfl
theorem w_aug {i:Nat} {op:Bop} {e:PE}:S1 Φ req k lv (.aug i op e) ρ Q=AD ρ[i]? fun x=>NL x (EW Φ req k lv e ρ (fun y=>BW op x y fun d=>Q (.nxt (ρ.set i (.d d)))) fun x=>Q (.exc x)):=rfl
theorem nl_i {i:Int}:NL (.int i) G=G:=rfl
theorem at_d {x:PyData}:AD (some (.d x)) P=P x:=rfl
theorem at_o {x:List PyData}:AO (some (.own x)) PL=PL x:=rfl
theorem at_e {x:Exc}:AE (some (.ex x)) E=E x:=rfl
theorem np_n {n:Nat}:NP n PN=PN n:=rfl
theorem w_ite {t:PE} {a b:List PS}:S1 Φ req k lv (.ite t a b) ρ Q=EW Φ req k lv t ρ (fun d=>Fz boolP (fun c=>if c=true then SW Φ req k lv a ρ Q else SW Φ req k lv b ρ Q) d) fun x=>Q (.exc x):=rfl
noncomputable def WH (Φ:Nat→List PyData→RR→Prop) (req:Nat→Nat) (k lv:Nat) (t:PE) (b:List PS) (ρ:Loc) (Q:Out→Prop) (_:Dp Q Unit:=()):Prop:=∃ n,loopW (fun ρ P E=>EW Φ req k lv t ρ P E) (fun ρ Q=>SW Φ req k lv b ρ Q) Q n ρ
noncomputable def FW (Φ:Nat→List PyData→RR→Prop) (req:Nat→Nat) (k lv:Nat) (i:Nat) (b:List PS) (Q:Out→Prop) (l:Dp Q (List PyData)) (ρ:Loc):Prop:=forW i (fun ρ Q=>SW Φ req k lv b ρ Q) Q l ρ
theorem w_whl {t:PE} {b:List PS}:S1 Φ req k lv (.whl t b) ρ Q=WH Φ req k lv t b ρ Q:=rfl
theorem w_forL {i:Nat} {e:PE} {b:List PS}:S1 Φ req k lv (.forL i e b) ρ Q=GD (lv=2) (EW Φ req k lv e ρ (fun d=>Fz listP (fun xs=>GD (xs.length≤lim) (FW Φ req k lv i b Q xs ρ)) d) fun x=>Q (.exc x)):=rfl
theorem w_ret {e:PE}:S1 Φ req k lv (.ret e) ρ Q=EW Φ req k lv e ρ (fun d=>Q (.ret d)) fun x=>Q (.exc x):=rfl
theorem w_rai0 {m:PE}:S1 Φ req k lv (.rai m none) ρ Q=GD (1≤lv) (EW Φ req k lv m ρ (fun d=>Fz strP (fun x=>Q (.exc ⟨x,.tuple [.str (S [78,79,78,69])]⟩)) d) fun x=>Q (.exc x)):=rfl
theorem w_rai1 {m p:PE}:S1 Φ req k lv (.rai m (some p)) ρ Q=GD (1≤lv) (EW Φ req k lv m ρ (fun d=>Fz strP (fun x=>EW Φ req k lv p ρ (fun c=>Q (.exc ⟨x,c⟩)) fun x=>Q (.exc x)) d) fun x=>Q (.exc x)):=rfl
theorem w_frz {i:Nat}:S1 Φ req k lv (.frz i) ρ Q=AO ρ[i]? fun xs=>Q (.nxt (ρ.set i (.d (.list xs)))):=rfl
theorem rq_ret {d:PyData}:rq Q (.ret d)=Q (.ret d):=rfl
theorem w_tryR {e:PE} {i:Nat} {h:List PS}:S1 Φ req k lv (.tryR e i h) ρ Q=GD (lv≤2) (EW Φ req k lv e ρ (fun d=>Q (.ret d)) fun x=>SW Φ req k (lv - 1) h (ρ.set i (.ex x)) (rq Q)):=rfl
theorem e_k {c:PyData}:EW Φ req k lv (.k c) ρ P E=P c:=rfl
theorem e_v {i:Nat}:EW Φ req k lv (.v i) ρ P E=AD ρ[i]? P:=rfl
theorem e_tup {es:List PE}:EW Φ req k lv (.tup es) ρ P E=EWS Φ req k lv es ρ (fun ds=>P (.tuple ds)) E:=rfl
theorem e_lst {es:List PE}:EW Φ req k lv (.lst es) ρ P E=EWS Φ req k lv es ρ (fun ds=>P (.list ds)) E:=rfl
theorem es_nil:EWS Φ req k lv [] ρ PL E=PL []:=rfl
theorem es_cons {e:PE} {es:List PE}:EWS Φ req k lv (e::es) ρ PL E=EW Φ req k lv e ρ (fun d=>EWS Φ req k lv es ρ (fun ds=>PL (d::ds)) E) E:=rfl
theorem e_not {e:PE}:EW Φ req k lv (.not e) ρ P E=EW Φ req k lv e ρ (fun d=>Fz boolP (fun b=>P (.bool !b)) d) E:=rfl
theorem e_and1 {a b:PE}:EW Φ req k lv (.and [a,b]) ρ P E=EW Φ req k lv a ρ (fun d=>Fz boolP (fun c=>if c=true then EW Φ req k lv b ρ P E else P (.bool false)) d) E:=rfl
theorem e_or1 {a b:PE}:EW Φ req k lv (.or [a,b]) ρ P E=EW Φ req k lv a ρ (fun d=>Fz boolP (fun c=>if c=true then P (.bool true) else EW Φ req k lv b ρ P E) d) E:=rfl
theorem e_ife {t a b:PE}:EW Φ req k lv (.ife t a b) ρ P E=EW Φ req k lv t ρ (fun d=>Fz boolP (fun c=>if c=true then EW Φ req k lv a ρ P E else EW Φ req k lv b ρ P E) d) E:=rfl
theorem e_bin {op:Bop} {a b:PE}:EW Φ req k lv (.bin op a b) ρ P E=EW Φ req k lv a ρ (fun x=>EW Φ req k lv b ρ (fun y=>BW op x y P) E) E:=rfl
theorem e_cmp {op:CmpOp} {a b:PE}:EW Φ req k lv (.cmp op a b) ρ P E=EW Φ req k lv a ρ (fun x=>EW Φ req k lv b ρ (fun y=>CW op x y P) E) E:=rfl
theorem e_idx {a i:PE}:EW Φ req k lv (.idx a i) ρ P E=EW Φ req k lv a ρ (fun x=>EW Φ req k lv i ρ (fun y=>IW x y P) E) E:=rfl
theorem e_sl2 {a l h:PE}:EW Φ req k lv (.sl a (some l) (some h)) ρ P E=EW Φ req k lv a ρ (fun x=>EW Φ req k lv l ρ (fun y=>EW Φ req k lv h ρ (fun z=>SLW x (some y) (some z) P) E) E) E:=rfl
theorem e_sl1 {a l:PE}:EW Φ req k lv (.sl a (some l) none) ρ P E=EW Φ req k lv a ρ (fun x=>EW Φ req k lv l ρ (fun y=>SLW x (some y) none P) E) E:=rfl
theorem e_len {a:PE}:EW Φ req k lv (.len a) ρ P E=EW Φ req k lv a ρ (fun x=>LW x P) E:=rfl
theorem np_eq {i:Int} {F:Nat→Prop}:natP i F=(0≤i∧F i.toNat):=by
 cases i with
 |ofNat n=>exact propext ⟨fun h=>⟨Int.natCast_nonneg n,h⟩,fun h=>h.2⟩
 |negSucc n=>exact propext ⟨fun h=>h.elim,fun h=>absurd h.1 (Int.not_le.mpr (Int.negSucc_lt_zero n))⟩
theorem e_chr {a:PE}:EW Φ req k lv (.chr a) ρ P E=EW Φ req k lv a ρ (fun d=>Fz intP (fun i=>0≤i∧i.toNat≤1114111∧P (.str (S [i.toNat]))) d) E:=congrArg (fun f=>PE.wp Φ req k lv a ρ (intP f) E) (funext fun _=>np_eq)
theorem e_join {a b:PE}:EW Φ req k lv (.join a b) ρ P E=EW Φ req k lv a ρ (fun d=>Fz strP (fun x=>EW Φ req k lv b ρ (fun d=>Fz listP (fun ds=>JW x ds P) d) E) d) E:=rfl
theorem e_lenO {i:Nat}:EW Φ req k lv (.lenO i) ρ P E=AO ρ[i]? fun ds=>GD (ds.length≤lim) (P (.int ds.length)):=rfl
theorem e_joinO {a:PE} {i:Nat}:EW Φ req k lv (.joinO a i) ρ P E=EW Φ req k lv a ρ (fun d=>Fz strP (fun x=>AO ρ[i]? fun ds=>JW x ds P) d) E:=rfl
theorem e_tupO {i:Nat}:EW Φ req k lv (.tupO i) ρ P E=AO ρ[i]? fun ds=>GD (ds.length≤lim) (P (.tuple ds)):=rfl
theorem e_exA0 {i:Nat}:EW Φ req k lv (.exA i 0) ρ P E=AE ρ[i]? fun _=>P (.int 1):=rfl
theorem e_exA1 {i:Nat}:EW Φ req k lv (.exA i 1) ρ P E=AE ρ[i]? fun x=>P (.str x.value):=rfl
theorem e_exA2 {i:Nat}:EW Φ req k lv (.exA i 2) ρ P E=AE ρ[i]? fun x=>P x.ec:=rfl
theorem b_bool {b:Bool}:Fz boolP PB (.bool b)=PB b:=rfl
theorem b_int {b:Int}:Fz intP PI (.int b)=PI b:=rfl
theorem b_str {b:Str}:Fz strP PT (.str b)=PT b:=rfl
theorem b_tup {b:List PyData}:Fz tupP PL (.tuple b)=PL b:=rfl
theorem b_lst {b:List PyData}:Fz listP PL (.list b)=PL b:=rfl
theorem c_eqi {a b:Int}:CW .Eq (.int a) (.int b) P=P (.bool (decide (a=b))):=rfl
theorem c_eqs {a b:List Nat}:CW .Eq (.str (S a)) (.str (S b)) P=P (.bool (decide (a=b))):=rfl
theorem c_nes {a b:List Nat}:CW .NotEq (.str (S a)) (.str (S b)) P=P (.bool (decide (a≠b))):=rfl
theorem c_gti {a b:Int}:CW .Gt (.int a) (.int b) P=P (.bool (decide (b<a))):=rfl
theorem dec_b {p':Prop} [Decidable p] [Decidable p'] (h:p↔p'):P (.bool (decide p))=P (.bool (decide p')):=by rw [decide_eq_decide.mpr h]
theorem c_ge {a b:Nat}:CW .GtE (.int a) (.int b) P=P (.bool (decide (b≤a))):=dec_b Int.ofNat_le
theorem dec_t [Decidable p] (h:p):P (.bool (decide p))=P (.bool true):=by rw [decide_eq_true h]
theorem c_geT {a b:Nat} (h:b≤a):CW .GtE (.int a) (.int b) P=P (.bool true):=dec_t (Int.ofNat_le.mpr h)
theorem one_eq {c d:Nat}:[c]=[d]↔c=d:=⟨fun h=>List.head_eq_of_cons_eq h,fun h=>h▸rfl⟩
theorem mem2 {c a1 a2:Nat}:S [c] ∈ [S [a1],S [a2]]↔c=a1∨c=a2:=by simp only [List.mem_cons,S_inj,List.cons.injEq,and_true,List.not_mem_nil,or_false]
theorem mem3 {c a1 a2 a3:Nat}:S [c] ∈ [S [a1],S [a2],S [a3]]↔c=a1∨c=a2∨c=a3:=by simp only [List.mem_cons,S_inj,List.cons.injEq,and_true,List.not_mem_nil,or_false]
theorem mem4 {c a1 a2 a3 a4:Nat}:S [c] ∈ [S [a1],S [a2],S [a3],S [a4]]↔c=a1∨c=a2∨c=a3∨c=a4:=by simp only [List.mem_cons,S_inj,List.cons.injEq,and_true,List.not_mem_nil,or_false]
theorem c_inT {a:List Nat} {ds:List PyData}:CW .In (.str (S a)) (.tuple ds) P=XS ds fun xs=>P (.bool (decide (S a ∈ xs))):=rfl
theorem c_ninT {a:List Nat} {ds:List PyData}:CW .NotIn (.str (S a)) (.tuple ds) P=XS ds fun xs=>P (.bool (decide (S a ∉ xs))):=rfl
theorem x_nil {PX:List Str→Prop}:XS [] PX=PX []:=rfl
theorem x_cons {PX:List Str→Prop} {a:Str} {ds:List PyData}:XS (.str a::ds) PX=XS ds fun xs=>PX (a::xs):=rfl
theorem x_map {ys:List Str}:∀ {PX:List Str→Prop},XS (ys.map PyData.str) PX=PX ys:=by
 induction ys with
 |nil=>exact rfl
 |cons y ys ih=>exact ih (PX:=fun xs=>_)
theorem s_mem {a:List Nat} {b:List Nat} {l:List Str}:(S a ∈ S b::l)=(a=b∨S a ∈ l):=by rw [List.mem_cons,S_inj]
theorem s_mem0 {a:List Nat}:(S a ∈ ([]:List Str))=False:=eq_false List.not_mem_nil
theorem a_1 {a:Nat}:BW .add (.int a) (.int 1) P=P (.int (a+1:Nat)):=rfl
theorem a_3 {a:Nat}:BW .add (.int a) (.int 3) P=P (.int (a+3:Nat)):=rfl
theorem a_4 {a:Nat}:BW .add (.int a) (.int 4) P=P (.int (a+4:Nat)):=rfl
theorem a_s {a b:List Nat}:BW .add (.str (S a)) (.str (S b)) P=GD (a.length+b.length≤lim) (P (.str (S (a++b)))):=rfl
theorem a_i {a b:Int}:BW .add (.int a) (.int b) P=P (.int (a+b)):=rfl
theorem l_s {a:List Nat}:LW (.str (S a)) P=GD (a.length≤lim) (P (.int a.length)):=rfl
theorem l_t {a:List PyData}:LW (.tuple a) P=GD (a.length≤lim) (P (.int a.length)):=rfl
theorem l_l {a:List PyData}:LW (.list a) P=GD (a.length≤lim) (P (.int a.length)):=rfl
theorem i_s {a:List Nat} {i:Nat}:IW (.str (S a)) (.int i) P=GD (i<lim) (OX a[i]? fun c=>P (.str (S [c]))):=rfl
theorem i_t0 {a:PyData} {l:List PyData}:IW (.tuple (a::l)) (.int 0) P=P a:=gd (by decide)
theorem i_t1 {a b:PyData} {l:List PyData}:IW (.tuple (a::b::l)) (.int 1) P=P b:=gd (by decide)
theorem i_t2 {a b c:PyData} {l:List PyData}:IW (.tuple (a::b::c::l)) (.int 2) P=P c:=gd (by decide)
theorem i_t3 {a b c d:PyData} {l:List PyData}:IW (.tuple (a::b::c::d::l)) (.int 3) P=P d:=gd (by decide)
theorem i_l0 {a:PyData} {l:List PyData}:IW (.list (a::l)) (.int 0) P=P a:=gd (by decide)
theorem sl_2 {a:List Nat} {i j:Nat}:SLW (.str (S a)) (some (.int i)) (some (.int j)) P=GD (a.length≤lim) (P (.str (S ((a.drop i).take (j - i))))):=rfl
theorem lw_step {T:Loc→(PyData→Prop)→(Exc→Prop)→Prop} {B:Loc→(Out→Prop)→Prop} {n:Nat}:loopW T B Q (n+1) ρ=T ρ (fun d=>Fz boolP (fun c=>if c=true then B ρ (lq (loopW T B Q n) Q) else Q (.nxt ρ)) d) fun x=>Q (.exc x):=rfl
theorem wh_of {t:PE} {b:List PS} (h:∃ n,∀ (T:Loc→(PyData→Prop)→(Exc→Prop)→Prop) (B:Loc→(Out→Prop)→Prop),(∀ ρ P E,T ρ P E=EW Φ req k lv t ρ P E)→(∀ ρ Q,B ρ Q=SW Φ req k lv b ρ Q)→loopW T B Q n ρ):WH Φ req k lv t b ρ Q:=
 let ⟨n,q⟩:=h;⟨n,q _ _ (fun _ _ _=>rfl) fun _ _=>rfl⟩
theorem mid {pre:List Nat} {c:Nat} {r:List Nat}:(pre++c::r)[pre.length]?=some c:=by simp
theorem ex_some {α:Type} {a:α} {PX:α→Prop}:OX (some a) PX=PX a:=rfl
theorem drop_l {pre l:List Nat}:(pre++l).drop pre.length=l:=by simp
theorem sub_a {a i:Nat}:a+i - a=i:=Nat.add_sub_cancel_left ..
theorem sub_b {a i j:Nat}:a+i - (a+j)=i - j:=Nat.add_sub_add_left ..
end
noncomputable def gap (c:Nat):Bool:=c == 32 || c == 9 || c == 11 || c == 12 || c == 13
noncomputable def blank (c:Nat):Bool:=c == 32 || c == 9 || c == 10 || c == 11 || c == 12 || c == 13
noncomputable def gaps:List Nat→Nat
 | []=>0
 |c::r=>if gap c=true then 1+gaps r else if c=92 then (match r with
  | []=>0
  |e::r'=>if e=10 then 2+gaps r' else 0) else 0
noncomputable def B:Nat:=65536
end Mine
end
section
open PySem PySem.W PyProof.Rows
namespace Mine
noncomputable def dig (c:Nat):Int:=if 48≤c∧c≤57 then (c:Int) - 48 else if 97≤c∧c≤122 then (c:Int) - 87 else if 65≤c∧c≤90 then (c:Int) - 55 else -1
noncomputable def hexRun:Nat→Nat→List Nat→Nat × Nat
 |0,v,_=>(v,0)
 |_+1,v,[]=>(v,0)
 |m+1,v,c::r=>if v≤69631∧0≤dig c∧dig c≤15 then ((hexRun m (v * 16+(dig c).toNat) r).1,(hexRun m (v * 16+(dig c).toNat) r).2+1) else (v,0)
noncomputable def octRun:Nat→Nat→List Nat→Nat × Nat
 |0,v,_=>(v,0)
 |_+1,v,[]=>(v,0)
 |m+1,v,c::r=>if v<32∧0≤dig c∧dig c≤7 then ((octRun m (v * 8+(dig c).toNat) r).1,(octRun m (v * 8+(dig c).toNat) r).2+1) else (v,0)
noncomputable def hexMost (c:Nat):Nat:=if c=117 then 4 else if c=85 then 8 else 2
noncomputable def hexM (c:Nat) (r:List Nat):List Nat × Nat:=if (hexRun (hexMost c) 0 r).2=0 then ([c],1) else ([(hexRun (hexMost c) 0 r).1],1+(hexRun (hexMost c) 0 r).2)
noncomputable def octM (l:List Nat):List Nat × Nat:=([(octRun 3 0 l).1],(octRun 3 0 l).2)
noncomputable def escOf (c:Nat):Option Nat:=if c=97 then some 7 else if c=98 then some 8 else if c=102 then some 12 else if c=110 then some 10 else if c=114 then some 13 else if c=116 then some 9 else if c=118 then some 11 else none
noncomputable def sptab:List Nat→Nat
 | []=>0
 |c::r=>if c=32∨c=9 then 1+sptab r else 0
noncomputable def bsl:List Nat→List Nat × Nat
 | []=>([92],1)
 |c::r=>match escOf c with
  |some k=>([k],2)
  |none=>if c=10 then ([32],2+sptab r) else if c=120∨c=117∨c=85 then ((hexM c r).1,1+(hexM c r).2) else if 48≤c∧c≤55 then ((octM (c::r)).1,1+(octM (c::r)).2) else ([c],2)
noncomputable def brc:Nat→Bool→List Nat→Option (List Nat × Nat)
 |_,_,[]=>none
 |d,sk,c::r=>
  if sk=true∧(c=32∨c=9) then (brc d true r).map fun p=>(p.1,p.2+1)
  else if c=123 then (brc (d+1) false r).map fun p=>(123::p.1,p.2+1)
  else if c=125 then (if d≤1 then some ([],1) else (brc (d - 1) false r).map fun p=>(125::p.1,p.2+1))
  else if c=92 then (match r with
   | []=>none
   |e::r'=>if e=10 then (brc d true r').map fun p=>(32::p.1,p.2+2) else (brc d false r').map fun p=>(92::e::p.1,p.2+2))
  else (brc d false r).map fun p=>(c::p.1,p.2+1)
noncomputable def brcL:Nat→List Nat→Option (List Nat × Nat)
 |_,[]=>none
 |d,c::r=>
  if c=123 then (brcL (d+1) r).map fun p=>(123::p.1,p.2+1)
  else if c=125 then (if d≤1 then some ([],1) else (brcL (d - 1) r).map fun p=>(125::p.1,p.2+1))
  else if c=92 then (match r with
   | []=>none
   |e::r'=>(brcL d r').map fun p=>(92::e::p.1,p.2+2))
  else (brcL d r).map fun p=>(c::p.1,p.2+1)
noncomputable def puN (stop:Nat→Bool):Nat→List Nat→List Nat × Nat
 |0,_=>([],0)
 |_,[]=>([],0)
 |n+1,c::r=>if stop c=true then ([],0) else if c=92 then ((bsl r).1++(puN stop n (r.drop ((bsl r).2 - 1))).1,(bsl r).2+(puN stop n (r.drop ((bsl r).2 - 1))).2) else (c::(puN stop n r).1,1+(puN stop n r).2)
noncomputable def pu (stop:Nat→Bool) (l:List Nat):List Nat × Nat:=puN stop l.length l
noncomputable def cleanN (stop:Nat→Bool) (sp:Bool):Nat→List Nat→Bool
 |0,_=>true
 |_,[]=>true
 |n+1,c::r=>if stop c=true then true else if c=36∨c=91 then false else if c=92 then (if sp=true∧r.head?=some 10 then false else cleanN stop sp n (r.drop ((bsl r).2 - 1))) else cleanN stop sp n r
noncomputable def clean (stop:Nat→Bool) (sp:Bool) (l:List Nat):Bool:=cleanN stop sp l.length l
noncomputable def stQ (c:Nat):Bool:=c == 34
noncomputable def stB (c:Nat):Bool:=c == 32 || c == 9 || c == 11 || c == 12 || c == 13 || c == 10 || c == 59
noncomputable def isX:List Nat→Bool
 |123::42::125::c::r=>!(gap c) && !(c == 10) && !(c == 59) && !(c == 92 && r.head? == some 10)
 |_=>false
noncomputable def msgB:List Nat:=[109,105,115,115,105,110,103,32,99,108,111,115,101,45,98,114,97,99,101]
noncomputable def msgQ:List Nat:=[109,105,115,115,105,110,103,32,34]
noncomputable def msgXQ:List Nat:=[101,120,116,114,97,32,99,104,97,114,97,99,116,101,114,115,32,97,102,116,101,114,32,99,108,111,115,101,45,113,117,111,116,101]
noncomputable def msgXB:List Nat:=[101,120,116,114,97,32,99,104,97,114,97,99,116,101,114,115,32,97,102,116,101,114,32,99,108,111,115,101,45,98,114,97,99,101]
noncomputable def wordIn (e:Bool) (off:Nat):List Nat→Option (Except (List Nat) (Bool × List Nat × Nat))
 |123::r=>(match brc 1 false r with
  |some p=>some (.ok (e,p.1,off+(1+p.2)))
  |none=>some (.error msgB))
 |34::r=>if clean stQ false r=true then (if r.drop (pu stQ r).2=[] then some (.error msgQ) else some (.ok (e,(pu stQ r).1,off+(1+(pu stQ r).2+1)))) else none
 |l=>if clean stB true l=true then some (.ok (e,(pu stB l).1,off+(pu stB l).2)) else none
noncomputable def wordM (l:List Nat):Option (Except (List Nat) (Bool × List Nat × Nat)):=if isX l=true then wordIn true 3 (l.drop 3) else wordIn false 0 l
noncomputable def prevQ (l:List Nat) (n:Nat):Bool:=l[n - 1]? == some 34
noncomputable def cmdM:Nat→List Nat→Option (Except (List Nat) (List (Bool × List Nat) × Nat))
 |0,_=>none
 |k+1,l=>match wordM l with
  |none=>none
  |some (.error m)=>some (.error m)
  |some (.ok (e,x,n))=>match (l.drop n).drop (gaps (l.drop n)) with
   | []=>some (.ok ([(e,x)],n))
   |c::r=>if c=10∨c=59 then none else if gaps (l.drop n)=0 then some (.error (if prevQ l n=true then msgXQ else msgXB)) else match cmdM k (c::r) with
    |none=>none
    |some (.error m)=>some (.error m)
    |some (.ok (ws,m))=>some (.ok ((e,x)::ws,n+gaps (l.drop n)+m))
set_option genInjectivity true in
set_option genCtorIdx true in
inductive Elt where
 |ok (x:List Nat) (n:Nat)
 |bad (m:List Nat) (code:List Nat)
noncomputable def cJUNK:List Nat:=[74,85,78,75]
noncomputable def cBRACE:List Nat:=[66,82,65,67,69]
noncomputable def cQUOTE:List Nat:=[81,85,79,84,69]
noncomputable def takeW (p:Nat→Bool):Nat→List Nat→Nat
 |0,_=>0
 |_+1,[]=>0
 |k+1,c::r=>if p c=true then 0 else 1+takeW p k r
noncomputable def wBraces:List Nat:=[98,114,97,99,101,115]
noncomputable def wQuotes:List Nat:=[113,117,111,116,101,115]
noncomputable def mJ1:List Nat:=[108,105,115,116,32,101,108,101,109,101,110,116,32,105,110,32]
noncomputable def mJ2:List Nat:=[32,102,111,108,108,111,119,101,100,32,98,121,32,34]
noncomputable def mJ3:List Nat:=[34,32,105,110,115,116,101,97,100,32,111,102,32,115,112,97,99,101]
noncomputable def junkMsg (what:List Nat) (p:Nat→Bool) (l:List Nat):List Nat:=((mJ1++what)++mJ2)++l.take (takeW p 20 l)++mJ3
noncomputable def msgUB:List Nat:=[117,110,109,97,116,99,104,101,100,32,111,112,101,110,32,98,114,97,99,101,32,105,110,32,108,105,115,116]
noncomputable def msgUQ:List Nat:=[117,110,109,97,116,99,104,101,100,32,111,112,101,110,32,113,117,111,116,101,32,105,110,32,108,105,115,116]
noncomputable def behindOK (l:List Nat):Bool:=match l with
 | []=>true
 |c::_=>blank c
noncomputable def elB (r:List Nat):Elt:=match brcL 1 r with
 |some p=>if behindOK (r.drop p.2)=true then .ok p.1 p.2 else .bad (junkMsg wBraces blank (r.drop p.2)) cJUNK
 |none => .bad msgUB cBRACE
noncomputable def elQ (r:List Nat):Elt:=match r.drop (pu stQ r).2 with
 | [] => .bad msgUQ cQUOTE
 |_::l=>if behindOK l=true then .ok (pu stQ r).1 ((pu stQ r).2+1) else .bad (junkMsg wQuotes blank l) cJUNK
noncomputable def Elt.add (k:Nat):Elt→Elt
 | .ok x n => .ok x (k+n)
 | .bad m c => .bad m c
noncomputable def elM:List Nat→Elt
 |123::r=>(elB r).add 1
 |34::r=>(elQ r).add 1
 |l => .ok (pu blank l).1 (pu blank l).2
noncomputable def blanks:List Nat→Nat
 | []=>0
 |c::r=>if blank c=true then 1+blanks r else 0
noncomputable def splM:Nat→List Nat→Except (List Nat × List Nat) (List (List Nat))
 |0,_ => .ok []
 |k+1,l=>match l.drop (blanks l) with
  | [] => .ok []
  |c::r=>match elM (c::r) with
   | .bad m q => .error (m,q)
   | .ok x n=>match splM k ((c::r).drop n) with
     | .error m => .error m
     | .ok xs => .ok (x::xs)
set_option genCtorIdx true in
inductive Mode where
 |none |brace |mask |escape
 deriving DecidableEq
structure MSt where
 depth:Nat
 bound:Bool
 wb:Bool
 we:Bool
noncomputable def scan:MSt→List Nat→Option MSt
 |s,[]=>some s
 |s,c::r=>
  if c=123 then scan { s with depth:=s.depth+1 } r
  else if c=125 then (if s.depth=0 then Option.none else scan { s with depth:=s.depth - 1 } r)
  else if c=93∨c=34 then scan { s with bound:=true,we:=true } r
  else if c=92 then (match r with
   | []=>Option.none
   |e::r'=>if e=10 then Option.none else if e=123∨e=125∨e=92 then scan { s with bound:=true,wb:=true } r' else scan { s with bound:=true,wb:=true } (e::r'))
  else if c=91∨c=36∨c=59∨blank c=true then scan { s with bound:=true,wb:=true } r
  else scan s r
noncomputable def modeM (x:List Nat) (h:Bool):Mode:=match x with
 | [] => .brace
 |b::_=>
  let bd:=b == 123 || b == 34
  let hs:=h && b == 35
  match scan ⟨0,bd,bd || hs,false⟩ x with
  |Option.none => .escape
  |some s=>if 0<s.depth then .escape else if s.bound=true then (if s.we=true∧s.wb=false then .mask else .brace) else if hs=true then .brace else .none
noncomputable def escM (deep:Bool) (c:Nat):List Nat:=
 if c=12 then [92,102] else if c=10 then [92,110] else if c=13 then [92,114] else if c=9 then [92,116] else if c=11 then [92,118]
 else if c=93∨c=91∨c=36∨c=59∨c=32∨c=92∨c=34∨(deep=true∧(c=123∨c=125)) then [92,c] else [c]
noncomputable def quoteM (x:List Nat) (h:Bool):List Nat:=match modeM x h with
 | .none=>x
 | .brace=>123::(x++[125])
 | .mask=>(x.map (escM false)).flatten
 | .escape=>(if h=true∧x.head?=some 35 then [92] else [])++(x.map (escM true)).flatten
noncomputable def joinM:Bool→List (List Nat)→List Nat
 |_,[]=>[]
 |h,[x]=>quoteM x h
 |h,x::y::r=>quoteM x h++32::joinM false (y::r)
noncomputable abbrev sD (x:List Nat):PyData := .str (S x)
noncomputable def tText:PyData := .str (S [116,101,120,116])
noncomputable def partsD (x:List Nat):PyData:=if x=[] then .tuple [] else .tuple [.tuple [tText,sD x]]
noncomputable def wordD (w:Bool × List Nat):PyData := .tuple [.bool w.1,partsD w.2]
noncomputable def dNONE:PyData := .tuple [.str (S [78,79,78,69])]
noncomputable def codeD (q:List Nat):PyData := .tuple [.str (S [84,67,76]),.str (S [86,65,76,85,69]),.str (S [76,73,83,84]),.str (S q)]
noncomputable def exN (m:List Nat):RR := .exc ⟨S m,dNONE⟩
noncomputable def exL (m q:List Nat):RR := .exc ⟨S m,codeD q⟩
noncomputable abbrev itD (a:Nat):PyData := .int (a:Nat)
noncomputable def bareD:List PyData:=[.str (S [32]),.str (S [9]),.str (S [11]),.str (S [12]),.str (S [13]),.str (S [10]),.str (S [59])]
end Mine
end
section
open PySem PySem.W PyProof.Rows
namespace Mine
noncomputable def modeD:Mode→PyData
 | .none=>sD [110,111,110,101]
 | .brace=>sD [98,114,97,99,101]
 | .mask=>sD [109,97,115,107]
 | .escape=>sD [101,115,99,97,112,101]
noncomputable def cmdR (n:Nat) (a:Nat) (l:List Nat):Option RR:=match l.drop (gaps l) with
 | []=>some (.ok .none)
 |c::r=>if c=10∨c=59∨c=35 then none else match cmdM (n+1) (c::r) with
  |some (.ok p)=>some (.ok (.tuple [.tuple (p.1.map wordD),itD (a+gaps l),itD (a+gaps l+p.2),itD n]))
  |some (.error m)=>some (exN m)
  |none=>none
noncomputable def elR (a:Nat):Elt→RR
 | .ok x n => .ok (.tuple [sD x,itD (a+n)])
 | .bad m q=>exL m q
noncomputable def findR (a:Nat) (l:List Nat):RR:=match l.drop (blanks l) with
 | [] => .ok .none
 |c::r=>elR (a+blanks l) (elM (c::r))
noncomputable def tryD:RR→PyData
 | .ok d => .tuple [d,.str (S [])]
 | .exc x => .tuple [.none,.str x.value]
noncomputable def faultD (m q:List Nat):PyData := .tuple [.int 1,sD m,codeD q]
noncomputable def tryE:RR→PyData
 | .ok d => .tuple [d,.none]
 | .exc x => .tuple [.none,.tuple [.int 1,.str x.value,x.ec]]
noncomputable def wordR (a:Nat):Except (List Nat) (Bool × List Nat × Nat)→RR
 | .ok p => .ok (.tuple [wordD (p.1,p.2.1),itD (a+p.2.2)])
 | .error m=>exN m
noncomputable def wordT (a:Nat):Except (List Nat) (Bool × List Nat × Nat)→PyData
 | .ok p => .tuple [.tuple [wordD (p.1,p.2.1),itD (a+p.2.2)],.str (S [])]
 | .error m => .tuple [.none,sD m]
noncomputable def onlyR:RR→RR
 | .ok .none => .ok (.list [])
 | .ok d => .ok (.list [d])
 | .exc e => .exc e
noncomputable def startOK (l:List Nat):Prop:=∀ c r,l.drop (gaps l)=c::r→c≠10∧c≠59∧c≠35
noncomputable def okC (c:Nat):Bool:=!(c == 36) && !(c == 91) && !(c == 59) && !(c == 10) && decide (c<1114112)
noncomputable def vl (x:List Nat):Bool:=x.all fun c=>decide (c<1114112)
noncomputable def told:List (List Nat):=[[123,97,32,123,98,125,125,32,34,99,32,123,100,34,32,101,92,32,102,92,120,52,49,32,123,103,92,125,125,32,93,32,35,32,40,41,32,34,104,92,34,34,32,123,125,32,34,34,32,105,123,106,34,107],[9,92,92,32,92,117,48,48,101,57,92,11,123,42,125,12,123,92,92,125,13,35,58,125,123,32,34,123,34],[123,97,125,98,34,99,32,100],[97,32,34,98,34,123,99,125,100,95,101,95,102,95,103,95,104,95,105,95,106,95,107,95,108,95,109,32,110],[97,32,123,42,125,123,98,125,32,123,42,125,99],[123,42,125,32,123,97,32,123,98,125,32,99],[97,32,34,98,92,34,32,123,99,125],[123,97,125,32,123,98,92,125]]
noncomputable def splW:Nat→List Nat→List (List Nat) × Option (List Nat × List Nat)
 |0,_=>([],none)
 |k+1,l=>match l.drop (blanks l) with
  | []=>([],none)
  |c::r=>match elM (c::r) with
   | .bad m q=>([],some (m,q))
   | .ok x n=>(x::(splW k ((c::r).drop n)).1,(splW k ((c::r).drop n)).2)
noncomputable def dueD (a:Nat):Elt→PyData
 | .ok x n => .tuple [.tuple [sD x,itD (a+n)],.none]
 | .bad m q => .tuple [.none,faultD m q]
noncomputable def faultO:Option (List Nat × List Nat)→PyData
 |none => .none
 |some p=>faultD p.1 p.2
noncomputable def AOK (l:List Nat):Prop:=∀ c ∈ l,okC c=true
noncomputable abbrev Rl:=List PyData→RR→Prop
inductive Sg {α:Type} (ex:α→List PyData) (v:α→Nat→RR) (ds:List PyData) (r:RR):Prop
 |mk:(∃ x c,ds = .str (S [c])::ex x∧r=v x c)→Sg ex v ds r
inductive Tx {α:Type} (ex:α→List PyData) (g:α→List Nat→RR→Prop) (ds:List PyData) (r:RR):Prop
 |mk:(∃ x t,ds = .str (S t)::ex x∧t.length≤B∧g x t r)→Tx ex g ds r
inductive Pl {α:Type} (ex:α→List PyData) (g:α→List Nat→Nat→List Nat→RR→Prop) (ds:List PyData) (r:RR):Prop
 |mk:(∃ x t a,ds = .str (S t) :: .int (a:Nat)::ex x∧t.length≤B∧a≤t.length∧g x t a (t.drop a) r)→Pl ex g ds r
noncomputable def e0:Unit→List PyData:=fun _=>[]
noncomputable def eb:Bool→List PyData:=fun h=>[.bool h]
noncomputable def ef:Unit→List PyData:=fun _=>[.bool false]
noncomputable def ew:List Nat→List PyData:=fun w=>[.str (S w)]
noncomputable def eP:Bool→List PyData:=fun b=>[.tuple (bif b then bareD else [.str (S [34])])]
noncomputable def stP (b:Bool):Nat→Bool:=bif b then stB else stQ
noncomputable def no:Rl:=fun _ _=>False
noncomputable def tblP:List Rl:=[no,
 Sg e0 fun _ c => .ok (.bool (blank c)),
 Sg e0 fun _ c => .ok (.int (dig c)),
 Pl e0 fun _ _ a l r=>∃ c k,l=c::k∧(c=120∨c=117∨c=85)∧r = .ok (.tuple [sD (hexM c k).1,itD (a+(hexM c k).2)]),
 Pl e0 fun _ _ a l r=>r = .ok (.tuple [sD (octM l).1,itD (a+(octM l).2)]),
 Pl e0 fun _ _ a l r=>∃ k,l=92::k∧r = .ok (.tuple [sD (bsl k).1,itD (a+(bsl k).2)]),
 Sg e0 fun _ c => .ok (.bool (gap c)),
 Pl e0 fun _ _ a l r=>r = .ok (itD (a+gaps l)),
 no,
 Pl e0 fun _ _ a l r=>startOK l∧r = .ok (itD (a+gaps l)),
 no,no,no,
 Pl e0 fun _ _ a l r=>∃ k,l=123::k∧r=(match brc 1 false k with
     |some p => .ok (.tuple [sD p.1,itD (a+(1+p.2))])
     |none=>exN msgB),
 Pl eP fun b _ a l r=>clean (stP b) b l=true∧r = .ok (.tuple [partsD (pu (stP b) l).1,itD (a+(pu (stP b) l).2)]),
 fun ds r=>ds=[.bool false]∧r = .ok (.tuple bareD),
 Pl e0 fun _ _ _ l r=>r = .ok (.bool (isX l)),
 Pl ef fun _ _ a l r=>∃ p,wordM l=some p∧r=wordR a p,
 Pl e0 fun _ t a l r=>cmdR t.length a l=some r,
 Tx e0 fun _ t r=>∃ v,cmdR t.length 0 t=some v∧r=onlyR v,
 fun ds r=>∃ w:Bool × List Nat,ds=[wordD w]∧r = .ok (if w.1=true then .none else sD w.2),
 Pl ew fun w _ _ l r=>w.length≤10∧r=if behindOK l=true then .ok .none else exL (junkMsg w blank l) cJUNK,
 Pl e0 fun _ _ a l r=>r=elR a (elB l),
 Pl e0 fun _ _ a l r=>r=elR a (elQ l),
 Pl e0 fun _ _ a l r=>r=elR a (.ok (pu blank l).1 (pu blank l).2),
 Pl e0 fun _ _ a l r=>r=findR a l,
 Tx e0 fun _ t r=>r=match splM (t.length+1) t with
  | .ok xs => .ok (.list (xs.map sD))
  | .error p=>exL p.1 p.2,
 Tx eb fun h t r=>r = .ok (modeD (modeM t h)),
 Sg eb fun d c => .ok (sD (escM d c)),
 Tx eb fun h t r=>r = .ok (sD (quoteM t h)),
 fun ds r=>∃ xs:List (List Nat),ds=[.list (xs.map sD)]∧xs.length≤B∧(joinM true xs).length≤B∧(∀ x ∈ xs,x.length≤B)∧r = .ok (sD (joinM true xs)),
 fun ds r=>ds=[]∧r = .ok (.list (pieces.map sD)),
 fun ds r=>ds=[]∧r = .ok (.list (told.map sD)),
 Pl e0 fun _ _ a l r=>r = .ok (tryE (findR a l)),
 Pl e0 fun _ _ a l r=>∃ p,wordM l=some p∧r = .ok (wordT a p),
 Tx e0 fun _ t r=>∃ v,cmdR t.length 0 t=some v∧r = .ok (tryD v),
 fun ds r=>∃ m q:List Nat,ds=[sD m,sD q]∧r = .ok (faultD m q),
 Pl ew fun w _ _ l r=>w.length≤10∧r = .ok (faultD (junkMsg w gap l) cJUNK),
 Pl e0 fun _ _ a l r=>∃ c k,l=c::k∧AOK (c::k)∧blank c=false∧r = .ok (dueD a (elM (c::k))),
 Tx e0 fun _ t r=>AOK t∧r = .ok (.tuple [.list ((splW (t.length+1) t).1.map sD),faultO (splW (t.length+1) t).2]),
 fun ds r=>∃ (t:List Nat) (xs:List (List Nat)) (m:Nat),ds=[sD t,.list (xs.map sD)]∧t.length≤B∧xs.length≤B∧(∀ x ∈ xs,vl x=true)∧cmdR t.length 0 t=some (.ok (.tuple [.tuple (xs.map fun x=>wordD (false,x)),itD 0,itD m,itD t.length]))∧r = .ok (.bool true),
 fun ds r=>∃ t:List Nat,ds=[sD t]∧t.length≤1000∧AOK t∧r = .ok (.bool true)]
inductive Phi (f:Nat) (ds:List PyData) (r:RR):Prop
 |mk:tblP.getD f no ds r→Phi f ds r
theorem ex_one {α:Type} {PX:α→Prop} {v:α} {PP:α→Prop} (h:∀ r,PP r↔r=v):(∃ r,PP r∧PX r)=PX v:=by
 refine propext ⟨fun ⟨r,q,w⟩=>?_,fun w=>⟨v,(h v).mpr rfl,w⟩⟩
 rw [(h r).mp q] at w
 exact w
theorem kw_of {p:RR→Prop} {v:RR} {K:RR→Prop} (h:p v) (hd:∀ r,p r→r=v):KW p K=K v:=ex_one fun r=>⟨hd r,fun e=>e▸h⟩
theorem sD_inj {a b:List Nat} (h:PyData.str (S a) = .str (S b)):a=b:=S_inj.mp (PyData.str.inj h)
section
variable {α:Type} {ex:α→List PyData} {f:Nat} {es:List PyData} {v:RR} {K:RR→Prop} {t:List Nat} {a c:Nat}
theorem sg_kw {w:α→Nat→RR} (e:tblP.getD f no=Sg ex w) (x:α) (E:ex x=es) (hi:∀ y,ex y=ex x→y=x) (hv:w x c=v):KW (Phi f (.str (S [c])::es)) K=K v:=by
 subst hv
 refine kw_of (.mk (by rw [e];exact .mk ⟨x,c,by rw [E],rfl⟩)) fun r ⟨h⟩=>?_
 rw [e] at h
 replace ⟨h⟩:=h
 obtain ⟨y,c',q,h⟩:=h
 rw [← E] at q
 injection q with q1 q2
 rw [h,hi y q2.symm,List.head_eq_of_cons_eq (sD_inj q1)]
theorem tx_kw {g:α→List Nat→RR→Prop} (e:tblP.getD f no=Tx ex g) (x:α) (E:ex x=es) (hi:∀ y,ex y=ex x→y=x) (h:t.length≤B) (hg:g x t v) (hd:∀ r,g x t r→r=v):KW (Phi f (.str (S t)::es)) K=K v:=by
 refine kw_of (.mk (by rw [e];exact .mk ⟨x,t,by rw [E],h,hg⟩)) fun r ⟨h⟩=>?_
 rw [e] at h
 replace ⟨h⟩:=h
 obtain ⟨y,t',q,_,h⟩:=h
 rw [← E] at q
 injection q with q1 q2
 rw [← sD_inj q1,hi y q2.symm] at h
 exact hd r h
theorem pl_kw {g:α→List Nat→Nat→List Nat→RR→Prop} (e:tblP.getD f no=Pl ex g) (x:α) (E:ex x=es) (hi:∀ y,ex y=ex x→y=x) (h:t.length≤B) (ha:a≤t.length) (hg:g x t a (t.drop a) v) (hd:∀ r,g x t a (t.drop a) r→r=v):KW (Phi f (.str (S t) :: .int (a:Nat)::es)) K=K v:=by
 refine kw_of (.mk (by rw [e];exact .mk ⟨x,t,a,by rw [E],h,ha,hg⟩)) fun r ⟨h⟩=>?_
 rw [e] at h
 replace ⟨h⟩:=h
 obtain ⟨y,t',a',q,_,_,h⟩:=h
 rw [← E] at q
 injection q with q1 q
 injection q with q2 q3
 rw [← sD_inj q1,hi y q3.symm,← Int.ofNat.inj (PyData.int.inj q2)] at h
 exact hd r h
end
theorem u0 {ex:Unit→List PyData}:∀ y,ex y=ex ()→y=():=fun _ _=>rfl
theorem ub {h:Bool}:∀ y,eb y=eb h→y=h:=fun _ q=>PyData.bool.inj (List.head_eq_of_cons_eq q)
theorem uw {w:List Nat}:∀ y,ew y=ew w→y=w:=fun _ q=>sD_inj (List.head_eq_of_cons_eq q)
theorem uP {b:Bool}:∀ y,eP y=eP b→y=b:=fun y q=>by
 have:=congrArg List.length (PyData.tuple.inj (List.head_eq_of_cons_eq q))
 cases y <;> cases b
 ·rfl
 ·exact absurd this (by decide)
 ·exact absurd this (by decide)
 ·rfl
theorem eq_self' {v:RR}:∀ r,r=v→r=v:=fun _ e=>e
section
variable {K:RR→Prop} {t:List Nat} {a c:Nat}
theorem k1:KW (Phi 1 [.str (S [c])]) K=K (.ok (.bool (blank c))):=sg_kw rfl () rfl u0 rfl
theorem k2:KW (Phi 2 [.str (S [c])]) K=K (.ok (.int (dig c))):=sg_kw rfl () rfl u0 rfl
theorem k3 {r:List Nat} (h:t.length≤B) (ha:a≤t.length) (hd:t.drop a=c::r) (hc:c=120∨c=117∨c=85):KW (Phi 3 [.str (S t),.int a]) K=K (.ok (.tuple [sD (hexM c r).1,itD (a+(hexM c r).2)])):=pl_kw rfl () rfl u0 h ha ⟨c,r,hd,hc,rfl⟩ fun _ ⟨_,_,q,_,e⟩=>by
 rw [hd] at q;cases q;exact e
theorem k4 (h:t.length≤B) (ha:a≤t.length):KW (Phi 4 [.str (S t),.int a]) K=K (.ok (.tuple [sD (octM (t.drop a)).1,itD (a+(octM (t.drop a)).2)])):=pl_kw rfl () rfl u0 h ha rfl eq_self'
theorem k5 {r:List Nat} (h:t.length≤B) (ha:a≤t.length) (hd:t.drop a=92::r):KW (Phi 5 [.str (S t),.int a]) K=K (.ok (.tuple [sD (bsl r).1,itD (a+(bsl r).2)])):=pl_kw rfl () rfl u0 h ha ⟨r,hd,rfl⟩ fun _ ⟨_,q,e⟩=>by
 rw [hd] at q;cases q;exact e
theorem k6:KW (Phi 6 [.str (S [c])]) K=K (.ok (.bool (gap c))):=sg_kw rfl () rfl u0 rfl
theorem k7 (h:t.length≤B) (ha:a≤t.length):KW (Phi 7 [.str (S t),.int a]) K=K (.ok (itD (a+gaps (t.drop a)))):=pl_kw rfl () rfl u0 h ha rfl eq_self'
theorem k13 {r:List Nat} (h:t.length≤B) (ha:a≤t.length) (hd:t.drop a=123::r):KW (Phi 13 [.str (S t),.int a]) K=K (match brc 1 false r with
   |some p => .ok (.tuple [sD p.1,itD (a+(1+p.2))])
   |none=>exN msgB):=pl_kw rfl () rfl u0 h ha ⟨r,hd,rfl⟩ fun _ ⟨_,q,e⟩=>by
 rw [hd] at q;cases q;exact e
theorem k15:KW (Phi 15 [.bool false]) K=K (.ok (.tuple bareD)):=kw_of ⟨rfl,rfl⟩ fun _ ⟨h⟩=>h.2
theorem k16 (h:t.length≤B) (ha:a≤t.length):KW (Phi 16 [.str (S t),.int a]) K=K (.ok (.bool (isX (t.drop a)))):=pl_kw rfl () rfl u0 h ha rfl eq_self'
theorem k21 {w:List Nat} (h:t.length≤B) (ha:a≤t.length) (hw:w.length≤10):KW (Phi 21 [.str (S t),.int a,.str (S w)]) K=K (if behindOK (t.drop a)=true then .ok .none else exL (junkMsg w blank (t.drop a)) cJUNK):=pl_kw rfl w rfl uw h ha ⟨hw,rfl⟩ fun _ q=>q.2
theorem k22 (h:t.length≤B) (ha:a≤t.length):KW (Phi 22 [.str (S t),.int a]) K=K (elR a (elB (t.drop a))):=pl_kw rfl () rfl u0 h ha rfl eq_self'
theorem k23 (h:t.length≤B) (ha:a≤t.length):KW (Phi 23 [.str (S t),.int a]) K=K (elR a (elQ (t.drop a))):=pl_kw rfl () rfl u0 h ha rfl eq_self'
theorem k24 (h:t.length≤B) (ha:a≤t.length):KW (Phi 24 [.str (S t),.int a]) K=K (elR a (.ok (pu blank (t.drop a)).1 (pu blank (t.drop a)).2)):=pl_kw rfl () rfl u0 h ha rfl eq_self'
theorem k25 (h:t.length≤B) (ha:a≤t.length):KW (Phi 25 [.str (S t),.int a]) K=K (findR a (t.drop a)):=pl_kw rfl () rfl u0 h ha rfl eq_self'
end
end Mine
end
section
open PySem PySem.W PyProof.Rows
namespace Mine
noncomputable def reqF:Nat→Nat
 |29=>2
 |30=>2
 |41=>2
 |_=>1
theorem rr_ok {P:PyData→Prop} {E:Exc→Prop} {d:PyData}:rr P E (.ok d)=P d:=rfl
theorem rr_exc {P:PyData→Prop} {E:Exc→Prop} {x:Exc}:rr P E (.exc x)=E x:=rfl
theorem e_callK {Φ:Nat→List PyData→RR→Prop} {req:Nat→Nat} {k lv f:Nat} {ρ:Loc} {P:PyData→Prop} {E:Exc→Prop} {args:List PE} (h1:f<k) (h2:req f≤lv) :
  EW Φ req k lv (.call f args) ρ P E=EWS Φ req k lv args ρ (fun ds=>KW (Φ f ds) (rr P E)) E:=by
 refine congrArg (fun z:List PyData→Prop=>(PE.wps) Φ req k lv args ρ z E) ?_
 funext ds
 exact propext ⟨fun h=>h.2.2,fun h=>⟨h1,h2,h⟩⟩
theorem phi_of {p:RR→Prop} {v:RR} (h:∀ K:RR→Prop,KW p K=K v):p v:=by
 have:=(h (fun r=>r=v)).mpr rfl
 obtain ⟨r,a,e⟩:=this
 exact e▸a
theorem lim_B {n:Nat} (h:n≤B):n≤lim:=by unfold B at h;unfold lim;exact linL fun q=>lin [_] [(1,0,.v 0,.n 65536),(1,0,.a (.n 1048576) (.n 1),.v 0)] rfl h q
theorem lt_lim {n:Nat} (h:n≤B):n<lim:=by unfold B at h;unfold lim;exact linT fun q=>lin [_] [(1,0,.v 0,.n 65536),(1,0,.n 1048576,.v 0)] rfl h q
theorem bool_eq {p:Prop} [Decidable p] {b:Bool} (h:p↔b=true):decide p=b:=by
 cases b with
 |true=>exact decide_eq_true (h.mpr rfl)
 |false=>exact decide_eq_false fun q=>Bool.noConfusion (h.mp q)
theorem gaps_gap {c:Nat} {r:List Nat} (h:gap c=true):gaps (c::r)=1+gaps r:=by
 rw [gaps.eq_def]
 exact if_pos h
theorem gaps_bn {r:List Nat}:gaps (92::10::r)=2+gaps r:=by
 rw [gaps.eq_def]
 rfl
set_option tactic.hygienic true in
theorem gaps_no {c:Nat} {r:List Nat} (h:gap c=false) (h2:¬ (c=92∧r.head?=some 10)):gaps (c::r)=0:=by
 rw [gaps.eq_def]
 refine (if_neg (by simp [h])).trans ?_
 split
 ·rename_i hc
  cases r with
  |nil=>rfl
  |cons e r=>exact if_neg fun q=>h2 ⟨hc,by rw [q];rfl⟩
 ·rfl
section
variable {lv:Nat} (hlv:1≤lv)
theorem p1 {c:Nat}:SW Phi reqF 1 lv b_is_blank [.d (.str (S [c]))] (OutR (.ok (.bool (blank c)))):=by
 unfold b_is_blank
 simp -dsimp only [↓w_cons,↓w_ret,↓e_cmp,↓e_v,List.getElem?_cons_zero,at_d,↓e_tup,↓es_cons,↓e_k,↓es_nil,c_inT,x_cons,x_nil,↓sq_ret,↓or_ret,s_mem,List.cons.injEq,and_true,s_mem0,or_false]
 refine congrArg (fun b=>RR.ok (PyData.bool b)) (bool_eq ?_).symm
 simp only [blank,Bool.or_eq_true,beq_iff_eq,or_assoc]
theorem p6 {c:Nat}:SW Phi reqF 6 lv b_is_gap [.d (.str (S [c]))] (OutR (.ok (.bool (gap c)))):=by
 unfold b_is_gap
 simp -dsimp only [↓w_cons,↓w_ret,↓e_cmp,↓e_v,List.getElem?_cons_zero,at_d,↓e_tup,↓es_cons,↓e_k,↓es_nil,c_inT,x_cons,x_nil,↓sq_ret,↓or_ret,s_mem,List.cons.injEq,and_true,s_mem0,or_false]
 refine congrArg (fun b=>RR.ok (PyData.bool b)) (bool_eq ?_).symm
 simp only [gap,Bool.or_eq_true,beq_iff_eq,or_assoc]
theorem rng {lo hi c:Nat} {s:Val} {A rest:List PS} {Q:Out→Prop}:SW Phi reqF 2 lv (.ite (.cmp2 .LtE .LtE (.k (.int (lo:Nat))) (.v 1) (.k (.int (hi:Nat)))) A []::rest) [s,.d (.int (c:Nat))] Q =
  if lo≤c∧c≤hi then SW Phi reqF 2 lv A [s,.d (.int (c:Nat))] (sq (fun ρ=>SW Phi reqF 2 lv rest ρ Q) Q) else SW Phi reqF 2 lv rest [s,.d (.int (c:Nat))] Q:=by
 show (if decide ((lo:Int)≤(c:Int))=true then (if decide ((c:Int)≤(hi:Int))=true then SW Phi reqF 2 lv A [s,.d (.int (c:Nat))] (sq (fun ρ=>SW Phi reqF 2 lv rest ρ Q) Q) else SW Phi reqF 2 lv rest [s,.d (.int (c:Nat))] Q) else SW Phi reqF 2 lv rest [s,.d (.int (c:Nat))] Q)=_
 by_cases h1:lo≤c
 ·rw [if_pos (decide_eq_true (Int.ofNat_le.mpr h1))]
  by_cases h2:c≤hi
  ·rw [if_pos (decide_eq_true (Int.ofNat_le.mpr h2)),if_pos ⟨h1,h2⟩]
  ·rw [if_neg (mt of_decide_eq_true (mt Int.ofNat_le.mp h2)),if_neg fun q=>h2 q.2]
 ·rw [if_neg (mt of_decide_eq_true (mt Int.ofNat_le.mp h1)),if_neg fun q=>h1 q.1]
theorem p2 {c:Nat}:SW Phi reqF 2 lv b_digit [.d (.str (S [c])),.un] (OutR (.ok (.int (dig c)))):=by
 refine And.intro (show (1:Nat)≤lim by decide) ?_
 show SW Phi reqF 2 lv (b_digit.drop 2) [.d (.str (S [c])),.d (.int (c:Nat))] _
 refine Eq.mpr (rng (lo:=48) (hi:=57)) ?_
 unfold dig
 by_cases h1:48≤c∧c≤57
 ·rw [if_pos h1,if_pos h1];rfl
 rw [if_neg h1,if_neg h1]
 refine Eq.mpr (rng (lo:=97) (hi:=122)) ?_
 by_cases h2:97≤c∧c≤122
 ·rw [if_pos h2,if_pos h2];rfl
 rw [if_neg h2,if_neg h2]
 refine Eq.mpr (rng (lo:=65) (hi:=90)) ?_
 by_cases h3:65≤c∧c≤90
 ·rw [if_pos h3,if_pos h3];rfl
 rw [if_neg h3,if_neg h3];rfl
theorem cut_c {t:List Nat} {a c:Nat} {r:List Nat} (h:t.drop a=c::r):cut t (some a) (some (a+2))=c::r.take 1:=by
 show (t.drop a).take (a+2 - a)=_;rw [h,Nat.add_sub_cancel_left];rfl
include hlv in
theorem l7 {T:Loc→(PyData→Prop)→(Exc→Prop)→Prop} {BB:Loc→(Out→Prop)→Prop} {Q:Out→Prop}
  (eT:∀ ρ P E,T ρ P E=EW Phi reqF 7 lv (.cmp .Lt (.v 1) (.len (.v 0))) ρ P E)
  (eB:∀ ρ Q,BB ρ Q=SW Phi reqF 7 lv [.ite (.call 6 [.idx (.v 0) (.v 1)])
     [.aug 1 .add (.k (.int 1))]
     [.ite (.cmp .Eq (.sl (.v 0) (some (.v 1)) (some (.bin .add (.v 1) (.k (.int 2))))) (.k (.str (S [92,10]))))
        [.aug 1 .add (.k (.int 2))]
        [.ret (.v 1)]]] ρ Q) (t:List Nat) (hB:t.length≤B):∀ (n:Nat) (l pre:List Nat),l.length<n→t=pre++l →
    Q (.ret (itD (pre.length+gaps l)))→Q (.nxt [.d (.str (S t)),.d (itD (pre.length+gaps l))]) →
    loopW T BB Q n [.d (.str (S t)),.d (.int pre.length)]:=by
 intro n
 induction n with
 |zero=>intro l pre h;exact (lin [_] [(1,0,.a (.v 0) (.n 1),.n 0)] rfl h).elim
 |succ n ih=>
  intro l pre h ht h1 h2
  subst ht
  have f1:=lim_B hB
  cases l with
  |nil=>
   have i1:¬ pre.length<(pre++[]).length:=by rw [List.append_nil];exact Nat.lt_irrefl _
   refine byT eT eB [0] fun W=>W f1 (decide_eq_false (mt Int.ofNat_lt.mp i1)) ?_
   exact h2
  |cons c r=>
   have f2:pre.length<(pre++c::r).length:=by rw [List.length_append];exact Nat.lt_add_of_pos_right (Nat.succ_pos _)
   have f3:pre.length<lim:=Nat.lt_of_lt_of_le f2 f1
   have g1:(pre++c::r)[pre.length]?=some c:=mid
   have hcut:cut (pre++c::r) (some pre.length) (some (pre.length+2))=c::r.take 1:=cut_c drop_l
   have step:∀ (m:Nat) (r':List Nat),r'.length<n→pre++c::r=(pre++(c::r).take m)++r'→(pre++(c::r).take m).length=pre.length+m→gaps (c::r)=m+gaps r'→loopW T BB Q n [.d (.str (S (pre++c::r))),.d (.int (pre.length+m:Nat))]:=fun m r' e1 e2 e3 e4=>by
    have q:=ih r' _ e1 e2
    rw [e3,Nat.add_assoc,← e4] at q
    exact q h1 h2
   by_cases hg:gap c=true
   ·refine byT eT eB [1,1] fun W=>W f1 (decide_eq_true (Int.ofNat_lt.mpr f2)) f3 _ g1 (by decide) hlv _ (phi_of fun _=>k6) hg ?_
    exact step 1 r (Nat.lt_of_succ_lt_succ h) (List.append_cons ..) (by rw [List.length_append];rfl) (gaps_gap hg)
   ·have hg:gap c=false:=Bool.eq_false_iff.mpr hg
    by_cases q:c=92∧r.head?=some 10
    ·obtain ⟨e1,q⟩:=q
     subst e1
     cases r with
     |nil=>cases q
     |cons e r=>
      cases q
      refine byT eT eB [1,0,1] fun W=>W f1 (decide_eq_true (Int.ofNat_lt.mpr f2)) f3 _ g1 (by decide) hlv _ (phi_of fun _=>k6) hg f1 (decide_eq_true hcut) ?_
      exact step 2 r (Nat.lt_of_succ_lt (Nat.lt_of_succ_lt_succ h)) (by rw [List.append_assoc];rfl) (by rw [List.length_append];rfl) gaps_bn
    ·have hc:¬ cut (pre++c::r) (some pre.length) (some (pre.length+2))=[92,10]:=fun w=>q (by
      rw [hcut] at w
      cases r with
      |nil=>cases w
      |cons e r=>cases w;exact ⟨rfl,rfl⟩)
     refine byT eT eB [1,0,0] fun W=>W f1 (decide_eq_true (Int.ofNat_lt.mpr f2)) f3 _ g1 (by decide) hlv _ (phi_of fun _=>k6) hg f1 (decide_eq_false hc) ?_
     rw [gaps_no hg q] at h1
     exact h1
include hlv in
theorem p7 {pre l:List Nat} (hB:(pre++l).length≤B):SW Phi reqF 7 lv b_skip_gaps [.d (.str (S (pre++l))),.d (.int pre.length)] (OutR (.ok (itD (pre.length+gaps l)))):=by
 unfold b_skip_gaps
 rw [w_cons,w_whl]
 refine wh_of ⟨l.length+1,fun T BB eT eB=>l7 hlv eT eB _ hB _ l pre (Nat.lt_succ_self _) rfl ?_ ?_⟩
 ·simp -dsimp only [↓sq_ret,↓or_ret]
 ·simp -dsimp only [↓sq_nxt,↓w_cons,↓w_ret,↓e_v,List.getElem?_cons_succ,List.getElem?_cons_zero,at_d,↓sq_ret,↓or_ret]
theorem p15:SW Phi reqF 15 lv b_bare_stops [.d (.bool false)] (OutR (.ok (.tuple bareD))):=by
 unfold b_bare_stops
 simp -dsimp only [↓w_cons,↓w_ite,↓e_v,List.getElem?_cons_zero,at_d,b_bool,↓ite_ff,↓w_nil,↓sq_nxt,↓w_ret,↓e_tup,↓es_cons,↓e_k,↓es_nil,↓sq_ret,↓or_ret,bareD]
end
end Mine
end
section
open PySem PySem.W PyProof.Rows
namespace Mine
section
variable {lv:Nat} (hlv:1≤lv)
theorem tw_nil {p:Nat→Bool} {k:Nat}:takeW p k []=0:=by cases k <;> rfl
theorem tw_st {p:Nat→Bool} {k c:Nat} {r:List Nat} (h:p c=true):takeW p k (c::r)=0:=by
 cases k with
 |zero=>rfl
 |succ k=>exact if_pos h
theorem tw_0 {p:Nat→Bool} {n k:Nat} {l:List Nat} (h:n≤k):takeW p (n - k) l=0:=by rw [Nat.sub_eq_zero_of_le h];rfl
theorem tw_go {p:Nat→Bool} {n k c:Nat} {r:List Nat} (h:k<n) (hp:p c=false):takeW p (n - k) (c::r)=1+takeW p (n - (k+1)) r:=by
 rw [show n - k=(n - (k+1))+1 from (Nat.sub_add_cancel (Nat.sub_pos_of_lt h)).symm]
 exact if_neg (by rw [hp];exact Bool.false_ne_true)
include hlv in
theorem l21 {T:Loc→(PyData→Prop)→(Exc→Prop)→Prop} {BB:Loc→(Out→Prop)→Prop} {Q:Out→Prop} {w:PyData} {a:Nat}
  (eT:∀ ρ P E,T ρ P E=EW Phi reqF 21 lv (.and [.cmp .Lt (.v 3) (.len (.v 0)),.cmp .Lt (.v 3) (.bin .add (.v 1) (.k (.int 20))),.not (.call 1 [.idx (.v 0) (.v 3)])]) ρ P E)
  (eB:∀ ρ Q,BB ρ Q=SW Phi reqF 21 lv [.aug 3 .add (.k (.int 1))] ρ Q) (t:List Nat) (hB:t.length≤B):∀ (n:Nat) (l pre:List Nat),l.length<n→t=pre++l→pre.length≤a+20 →
    Q (.nxt [.d (.str (S t)),.d (.int (a:Nat)),.d w,.d (itD (pre.length+takeW blank (a+20 - pre.length) l))]) →
    loopW T BB Q n [.d (.str (S t)),.d (.int (a:Nat)),.d w,.d (.int pre.length)]:=by
 intro n
 induction n with
 |zero=>intro l pre h;exact (lin [_] [(1,0,.a (.v 0) (.n 1),.n 0)] rfl h).elim
 |succ n ih=>
  intro l pre h ht ha h2
  subst ht
  have f1:=lim_B hB
  cases l with
  |nil=>
   have i1:¬ pre.length<(pre++[]).length:=by rw [List.append_nil];exact Nat.lt_irrefl _
   rw [tw_nil] at h2
   refine byT eT eB [0,0] fun W=>W f1 (decide_eq_false (mt Int.ofNat_lt.mp i1)) rfl ?_
   exact h2
  |cons c r=>
   have f2:pre.length<(pre++c::r).length:=by rw [List.length_append];exact Nat.lt_add_of_pos_right (Nat.succ_pos _)
   have f3:pre.length<lim:=Nat.lt_of_lt_of_le f2 f1
   have g1:(pre++c::r)[pre.length]?=some c:=mid
   by_cases hlt:pre.length<a+20
   ·have i2:(pre.length:Int)<(a:Int)+20:=Int.ofNat_lt.mpr hlt
    cases hb:blank c with
    |true=>
     rw [tw_st hb] at h2
     refine byT eT eB [1,1,0] fun W=>W f1 (decide_eq_true (Int.ofNat_lt.mpr f2)) (decide_eq_true i2) f3 _ g1 (by decide) hlv _ (phi_of fun _=>k1) (congrArg not hb) ?_
     exact h2
    |false=>
     rw [tw_go hlt hb] at h2
     refine byT eT eB [1,1,1] fun W=>W f1 (decide_eq_true (Int.ofNat_lt.mpr f2)) (decide_eq_true i2) f3 _ g1 (by decide) hlv _ (phi_of fun _=>k1) (congrArg not hb) ?_
     have q:=ih r (pre++[c]) (Nat.lt_of_succ_lt_succ h) (List.append_cons ..) (by rw [List.length_append];exact hlt)
     have e:(pre++[c]).length=pre.length+1:=List.length_append
     rw [e,Nat.add_assoc] at q
     exact q h2
   ·have i2:¬ (pre.length:Int)<(a:Int)+20:=mt Int.ofNat_lt.mp hlt
    rw [tw_0 (Nat.le_of_not_lt hlt)] at h2
    refine byT eT eB [1,0,0] fun W=>W f1 (decide_eq_true (Int.ofNat_lt.mpr f2)) (decide_eq_false i2) rfl ?_
    exact h2
theorem takeW_le {p:Nat→Bool}:∀ {k:Nat} {l:List Nat},takeW p k l≤l.length
 |0,_=>Nat.zero_le _
 |_+1,[]=>Nat.zero_le _
 |k+1,c::r=>by
  unfold takeW
  split
  ·exact linL fun q=>lin [_] [(1,0,.a (.v 0) (.n 1),.n 0)] rfl q
  ·have:=takeW_le (p:=p) (k:=k) (l:=r)
   simp only [List.length_cons];exact linL fun q=>lin [_,_] [(1,0,.v 0,.v 1),(1,0,.a (.a (.v 1) (.n 1)) (.n 1),.a (.n 1) (.v 0))] rfl this q
theorem takeW_20 {p:Nat→Bool}:∀ {k:Nat} {l:List Nat},takeW p k l≤k
 |0,_=>Nat.le_refl _
 |_+1,[]=>Nat.zero_le _
 |k+1,c::r=>by
  unfold takeW
  split
  ·exact linL fun q=>lin [_] [(1,0,.a (.a (.v 0) (.n 1)) (.n 1),.n 0)] rfl q
  ·have:=takeW_20 (p:=p) (k:=k) (l:=r);exact linL fun q=>lin [_,_] [(1,0,.v 0,.v 1),(1,0,.a (.a (.v 1) (.n 1)) (.n 1),.a (.n 1) (.v 0))] rfl this q
theorem junk_l {w x:List Nat} (hw:w.length≤10) (hx:x.length≤20):mJ1.length+w.length≤lim∧(mJ1++w).length+mJ2.length≤lim∧((mJ1++w)++mJ2).length+x.length≤lim∧(((mJ1++w)++mJ2)++x).length+mJ3.length≤lim:=by
 have h1:mJ1.length+w.length≤26:=Nat.add_le_add_left hw 16
 have h2:(mJ1++w).length+mJ2.length≤40:=by rw [List.length_append];exact Nat.add_le_add_right h1 14
 have h3:((mJ1++w)++mJ2).length+x.length≤60:=by rw [List.length_append];exact Nat.add_le_add h2 hx
 have h4:(((mJ1++w)++mJ2)++x).length+mJ3.length≤78:=by rw [List.length_append];exact Nat.add_le_add_right h3 18
 exact ⟨Nat.le_trans h1 (by decide),Nat.le_trans h2 (by decide),Nat.le_trans h3 (by decide),Nat.le_trans h4 (by decide)⟩
theorem cut_k {pre l:List Nat} {k:Nat}:cut (pre++l) (some pre.length) (some (pre.length+k))=l.take k:=by
 show ((pre++l).drop pre.length).take (pre.length+k - pre.length)=_
 rw [drop_l,Nat.add_sub_cancel_left]
theorem cut_20 {p:Nat→Bool} {pre l:List Nat}:(cut (pre++l) (some pre.length) (some (pre.length+takeW p 20 l))).length≤20:=by
 rw [cut_k,List.length_take];exact Nat.le_trans (Nat.min_le_left _ _) takeW_20
include hlv in
theorem p21 {pre l w:List Nat} (hB:(pre++l).length≤B) (hw:w.length≤10):SW Phi reqF 21 lv b_check_behind [.d (.str (S (pre++l))),.d (.int pre.length),.d (.str (S w)),.un]
  (OutR (if behindOK l=true then .ok .none else exL (junkMsg w blank l) cJUNK)):=by
 have f1:=lim_B hB
 cases l with
 |nil=>
  have i1:(pre++[]).length≤pre.length:=by rw [List.append_nil];exact Nat.le_refl _
  refine byR [1,1] fun W=>W f1 (decide_eq_true (Int.ofNat_le.mpr i1)) rfl ?_
  rfl
 |cons c r=>
  have f2:pre.length<(pre++c::r).length:=by rw [List.length_append];exact Nat.lt_add_of_pos_right (Nat.succ_pos _)
  have f3:pre.length<lim:=Nat.lt_of_lt_of_le f2 f1
  have g1:(pre++c::r)[pre.length]?=some c:=mid
  have i1:¬ (pre++c::r).length≤pre.length:=Nat.not_le.mpr f2
  cases hb:blank c with
  |true=>
   rw [if_pos (show behindOK (c::r)=true from hb)]
   refine byR [0,1] fun W=>W f1 (decide_eq_false (mt Int.ofNat_le.mp i1)) f3 _ g1 (by decide) hlv _ (phi_of fun _=>k1) hb ?_
   rfl
  |false=>
   rw [if_neg (show ¬ behindOK (c::r)=true from fun q=>Bool.false_ne_true (hb.symm.trans q))]
   refine byR [0,0] fun W=>W f1 (decide_eq_false (mt Int.ofNat_le.mp i1)) f3 _ g1 (by decide) hlv _ (phi_of fun _=>k1) hb ?_
   refine wh_of ⟨(c::r).length+1,fun T BB eT eB=>l21 hlv eT eB _ hB _ (c::r) pre (Nat.lt_succ_self _) rfl (Nat.le_add_right _ _) ?_⟩
   rw [Nat.add_sub_cancel_left]
   obtain ⟨j1,j2,j3,j4⟩:=junk_l hw (cut_20 (p:=blank) (pre:=pre) (l:=c::r))
   rw [junkMsg,← cut_k (pre:=pre)]
   show SW Phi reqF 21 lv _ _ _
   refine byR [] fun W=>W hlv j1 j2 f1 j3 j4 ?_
   rfl
end
end Mine
end
section
open PySem PySem.W PyProof.Rows
namespace Mine
theorem dr {t:List Nat} {a c:Nat} {r:List Nat} (h:t.drop a=c::r):t[a]?=some c∧a<t.length∧t.drop (a+1)=r∧t.length=a+1+r.length:=by
 have h1:(t.drop a)[0]?=some c:=by rw [h];rfl
 rw [List.getElem?_drop,Nat.add_zero] at h1
 have h2:(t.drop a).length=r.length+1:=by rw [h];rfl
 rw [List.length_drop] at h2
 have h3:(t.drop a).drop 1=r:=by rw [h];rfl
 rw [List.drop_drop] at h3
 exact ⟨h1,by omega,h3,by omega⟩
theorem dr_nil {t:List Nat} {a:Nat} (h:t.drop a=[]) (ha:a≤t.length):a=t.length:=by
 have h2:(t.drop a).length=0:=by rw [h];rfl
 rw [List.length_drop] at h2
 exact linE (fun q=>lin [_,_] [(1,0,.v 0,.v 1),(1,0,.a (.v 1) (.n 1),.v 0)] rfl ha q) fun q=>lin [_,_,_] [(1,1,.v 0,.n 0),(1,2,.a (.v 0) (.v 1),.v 2),(1,0,.a (.v 1) (.n 1),.v 2)] rfl h2 (Nat.sub_add_cancel (linL fun q=>lin [_,_] [(1,0,.v 0,.v 1),(1,0,.a (.v 1) (.n 1),.v 0)] rfl ha q)) q
theorem sptab_le:∀ (l:List Nat),sptab l≤l.length
 | []=>Nat.le_refl _
 |c::r=>by
  unfold sptab
  have:=sptab_le r
  split <;> simp only [List.length_cons] <;> (first |exact linL fun q=>lin [_,_] [(1,0,.v 0,.v 1),(1,0,.a (.a (.v 1) (.n 1)) (.n 1),.a (.n 1) (.v 0))] rfl this q |exact linL fun q=>lin [_] [(1,0,.a (.a (.v 0) (.n 1)) (.n 1),.n 0)] rfl q)
theorem hexRun_le:∀ (m v:Nat) (l:List Nat),(hexRun m v l).2≤l.length
 |0,v,l=>Nat.zero_le _
 |m+1,v,[]=>Nat.le_refl _
 |m+1,v,c::r=>by
  unfold hexRun
  have:=hexRun_le m (v * 16+(dig c).toNat) r
  split <;> simp only [List.length_cons] <;> (first |exact linL fun q=>lin [_,_] [(1,0,.v 0,.v 1),(1,0,.a (.a (.v 1) (.n 1)) (.n 1),.a (.v 0) (.n 1))] rfl this q |exact linL fun q=>lin [_] [(1,0,.a (.a (.v 0) (.n 1)) (.n 1),.n 0)] rfl q)
theorem octRun_le:∀ (m v:Nat) (l:List Nat),(octRun m v l).2≤l.length
 |0,v,l=>Nat.zero_le _
 |m+1,v,[]=>Nat.le_refl _
 |m+1,v,c::r=>by
  unfold octRun
  have:=octRun_le m (v * 8+(dig c).toNat) r
  split <;> simp only [List.length_cons] <;> (first |exact linL fun q=>lin [_,_] [(1,0,.v 0,.v 1),(1,0,.a (.a (.v 1) (.n 1)) (.n 1),.a (.v 0) (.n 1))] rfl this q |exact linL fun q=>lin [_] [(1,0,.a (.a (.v 0) (.n 1)) (.n 1),.n 0)] rfl q)
theorem bsl_fact (r:List Nat):(bsl r).1.length=1∧1≤(bsl r).2∧(bsl r).2≤r.length+1:=by
 cases r with
 |nil=>exact ⟨rfl,Nat.le_refl _,Nat.le_refl _⟩
 |cons c r=>
  unfold bsl
  have h1:=sptab_le r
  have h2:=hexRun_le (hexMost c) 0 r
  have h3:=octRun_le 3 0 (c::r)
  simp only [List.length_cons] at h3 ⊢
  split
  ·exact ⟨rfl,by simp,by simp⟩
  ·split
   ·exact ⟨rfl,by simp only;exact linL fun q=>lin [_] [(1,0,.a (.a (.n 2) (.v 0)) (.n 1),.n 1)] rfl q,by simp only;exact linL fun q=>lin [_,_] [(1,0,.v 0,.v 1),(1,0,.a (.a (.a (.v 1) (.n 1)) (.n 1)) (.n 1),.a (.n 2) (.v 0))] rfl h1 q⟩
   ·split
    ·unfold hexM
     split
     ·exact ⟨rfl,by simp,by simp⟩
     ·exact ⟨rfl,by simp,by simp only;exact linL fun q=>lin [_,_] [(1,0,.v 0,.v 1),(1,0,.a (.a (.a (.v 1) (.n 1)) (.n 1)) (.n 1),.a (.n 1) (.a (.n 1) (.v 0)))] rfl h2 q⟩
    ·split
     ·exact ⟨rfl,by simp [octM],by simp only [octM];exact linL fun q=>lin [_,_] [(1,0,.v 0,.a (.v 1) (.n 1)),(1,0,.a (.a (.a (.v 1) (.n 1)) (.n 1)) (.n 1),.a (.n 1) (.v 0))] rfl h3 q⟩
     ·exact ⟨rfl,by simp,by simp⟩
theorem drop_le {r:List Nat} {n k:Nat} (h:r.length≤n):(r.drop k).length≤n:=by rw [List.length_drop];exact Nat.le_trans (Nat.sub_le _ _) h
theorem puN_eq {st:Nat→Bool}:∀ {n m:Nat} {l:List Nat},l.length≤n→l.length≤m→puN st n l=puN st m l:=by
 intro n
 induction n with
 |zero=>intro m l h _;cases l with
  |nil=>cases m <;> rfl
  |cons c r=>exact absurd h (Nat.not_succ_le_zero _)
 |succ n ih=>intro m l h g;cases l with
  |nil=>cases m <;> rfl
  |cons c r=>cases m with
   |zero=>exact absurd g (Nat.not_succ_le_zero _)
   |succ m=>
    have e:=ih (Nat.le_of_succ_le_succ h) (Nat.le_of_succ_le_succ g)
    have e':=ih (drop_le (k:=(bsl r).2 - 1) (Nat.le_of_succ_le_succ h)) (drop_le (Nat.le_of_succ_le_succ g))
    rw [puN,e,e'];rfl
theorem pu_nil {st:Nat→Bool}:pu st []=([],0):=rfl
theorem pu_eq {st:Nat→Bool} {c:Nat} {r:List Nat}:pu st (c::r)=if st c=true then ([],0) else if c=92 then ((bsl r).1++(pu st (r.drop ((bsl r).2 - 1))).1,(bsl r).2+(pu st (r.drop ((bsl r).2 - 1))).2) else (c::(pu st r).1,1+(pu st r).2):=by
 have e:puN st r.length (r.drop ((bsl r).2 - 1))=pu st (r.drop ((bsl r).2 - 1)):=puN_eq (drop_le (Nat.le_refl _)) (Nat.le_refl _)
 rw [← e];rfl
theorem pu_stop {st:Nat→Bool} {c:Nat} {r:List Nat} (h:st c=true):pu st (c::r)=([],0):=pu_eq.trans (if_pos h)
theorem pu_bs {st:Nat→Bool} {r:List Nat} (h:st 92=false):pu st (92::r)=((bsl r).1++(pu st (r.drop ((bsl r).2 - 1))).1,(bsl r).2+(pu st (r.drop ((bsl r).2 - 1))).2):=
 pu_eq.trans ((if_neg (by rw [h];exact Bool.false_ne_true)).trans (if_pos rfl))
theorem pu_ch {st:Nat→Bool} {c:Nat} {r:List Nat} (h:st c=false) (hc:c≠92):pu st (c::r)=(c::(pu st r).1,1+(pu st r).2):=
 pu_eq.trans ((if_neg (by rw [h];exact Bool.false_ne_true)).trans (if_neg hc))
theorem pu_le (st:Nat→Bool):∀ (n:Nat) (l:List Nat),l.length≤n→(pu st l).2≤l.length∧(pu st l).1.length≤(pu st l).2
 |n,[],_=>by rw [pu_nil];exact ⟨Nat.le_refl _,Nat.le_refl _⟩
 |0,c::r,h=>by simp at h
 |n+1,c::r,h=>by
  cases hs:st c with
  |true=>rw [pu_stop hs];exact ⟨Nat.zero_le _,Nat.le_refl _⟩
  |false=>
   by_cases hc:c=92
   ·subst hc
    rw [pu_bs hs]
    have b:=bsl_fact r
    have q:=pu_le st n (r.drop ((bsl r).2 - 1)) (by rw [List.length_drop];simp only [List.length_cons] at h;exact linL fun q=>lin [_,_,_] [(1,0,.a (.v 0) (.n 1),.a (.v 1) (.n 1)),(1,0,.v 2,.v 0),(1,0,.a (.v 1) (.n 1),.v 2)] rfl h (Nat.sub_le _ _) q)
    rw [List.length_drop] at q
    simp only [List.length_cons,List.length_append]
    omega
   ·rw [pu_ch hs hc]
    have q:=pu_le st n r (by simpa using h)
    simp only [List.length_cons]
    omega
noncomputable def chD (x:List Nat):List PyData:=x.map fun c => .str (S [c])
theorem chD_len {x:List Nat}:(chD x).length=x.length:=by simp [chD]
theorem chD_snoc {x:List Nat} {c:Nat}:chD x++[.str (S [c])]=chD (x++[c]):=by simp [chD]
theorem joinL_single:∀ (x:List Nat),joinL [] (x.map fun c=>[c])=x
 | []=>rfl
 | [c]=>rfl
 |c::d::r=>by
  have:=joinL_single (d::r)
  simp only [List.map_cons] at this ⊢
  rw [joinL,this]
  ·rfl
  ·intro h;cases h
theorem j_ch {x:List Nat} {P:PyData→Prop}:JW (S []) (chD x) P=GD (x.length≤lim) (P (.str (S x))):=by
 have e:chD x=(x.map fun c=>S [c]).map PyData.str:=by simp [chD]
 unfold JW joinW
 rw [e]
 have:=x_map (PX:=fun xs=>(S []).cps.toList.length≤1∧(joinL (S []).cps.toList (xs.map (·.cps.toList))).length≤lim∧xs.length≤lim∧P (.str (S (joinL (S []).cps.toList (xs.map (·.cps.toList)))))) (ys:=x.map fun c=>S [c])
 refine Eq.trans this ?_
 have e2:(x.map fun c=>S [c]).map (·.cps.toList)=x.map fun c=>[c]:=by simp [List.map_map,Function.comp_def]
 rw [e2,S_toList,joinL_single,List.length_map]
 exact propext ⟨fun h=>⟨h.2.1,h.2.2.2⟩,fun h=>⟨Nat.zero_le _,h.1,h.1,h.2⟩⟩
section
variable {lv:Nat} (hlv:1≤lv)
include hlv in
theorem l24 {T:Loc→(PyData→Prop)→(Exc→Prop)→Prop} {BB:Loc→(Out→Prop)→Prop} {Q:Out→Prop}
  (eT:∀ ρ P E,T ρ P E=EW Phi reqF 24 lv (.and [.cmp .Lt (.v 1) (.len (.v 0)),.not (.call 1 [.idx (.v 0) (.v 1)])]) ρ P E)
  (eB:∀ ρ Q,BB ρ Q=SW Phi reqF 24 lv [.asg 3 (.idx (.v 0) (.v 1)),
    .ite (.cmp .Eq (.v 3) (.k (.str (S [92]))))
      [.upk [3,1] (.call 5 [.v 0,.v 1])]
      [.aug 1 .add (.k (.int 1))],
    .app 2 (.v 3)] ρ Q) (t:List Nat) (hB:t.length≤B):∀ (n a:Nat) (x:List Nat) (v:Val),(t.drop a).length<n→a≤t.length→x.length≤a →
    (∀ v',Q (.nxt [.d (.str (S t)),.d (itD (a+(pu blank (t.drop a)).2)),.own (chD (x++(pu blank (t.drop a)).1)),v'])) →
    loopW T BB Q n [.d (.str (S t)),.d (.int (a:Nat)),.own (chD x),v]:=by
 intro n
 induction n with
 |zero=>intro a x v h;exact (lin [_] [(1,0,.a (.v 0) (.n 1),.n 0)] rfl h).elim
 |succ n ih=>
  intro a x v h ha hx hQ
  have f1:t.length≤lim:=lim_B hB
  cases hd:t.drop a with
  |nil=>
   have e:¬ a<t.length:=by rw [dr_nil hd ha];exact Nat.lt_irrefl _
   rw [hd,pu_nil,List.append_nil] at hQ
   refine byT eT eB [0,0] fun W=>W f1 (decide_eq_false (mt Int.ofNat_lt.mp e)) rfl ?_
   exact hQ v
  |cons c r=>
   obtain ⟨g1,g2,g3,g4⟩:=dr hd
   have f3:a<lim:=lt_lim (by exact linL fun q=>lin [_,_,_] [(1,0,.v 0,.v 1),(1,0,.a (.v 2) (.n 1),.v 0),(1,0,.a (.v 1) (.n 1),.v 2)] rfl hB g2 q)
   have f4:(chD x).length≤lim:=by rw [chD_len];exact lim_B (by exact linL fun q=>lin [_,_,_,_] [(1,0,.v 0,.v 1),(1,0,.v 2,.v 3),(1,0,.a (.v 3) (.n 1),.v 0),(1,0,.a (.v 1) (.n 1),.v 2)] rfl hB hx g2 q)
   rw [hd] at hQ h
   simp only [List.length_cons] at h
   cases hb:blank c with
   |true=>
    rw [pu_stop hb,List.append_nil] at hQ
    refine byT eT eB [1,0] fun W=>W f1 (decide_eq_true (Int.ofNat_lt.mpr g2)) f3 _ g1 (by decide) hlv _ (phi_of fun _=>k1) (congrArg not hb) ?_
    exact hQ v
   |false=>
    by_cases hc:c=92
    ·subst hc
     have b:=bsl_fact r
     obtain ⟨p,hp⟩:∃ p,(bsl r).1=[p]:=List.length_eq_one_iff.mp b.1
     have k5':=fun K=>k5 (K:=K) hB ha hd
     simp only [hp] at k5'
     rw [pu_bs hb,hp] at hQ
     have e2:t.drop (a+(bsl r).2)=r.drop ((bsl r).2 - 1):=by
      rw [show a+(bsl r).2=(a+1)+((bsl r).2 - 1) by exact linE (fun q=>lin [_,_,_] [(1,2,.a (.v 0) (.n 1),.v 1),(1,0,.a (.a (.a (.v 2) (.n 1)) (.v 0)) (.n 1),.a (.v 2) (.v 1))] rfl (Nat.sub_add_cancel (linL fun q=>lin [_] [(1,0,.n 1,.v 0),(1,0,.a (.v 0) (.n 1),.n 1)] rfl b.2.1 q)) q) fun q=>lin [_,_,_] [(1,1,.a (.v 0) (.n 1),.v 1),(1,0,.a (.a (.v 2) (.v 1)) (.n 1),.a (.a (.v 2) (.n 1)) (.v 0))] rfl (Nat.sub_add_cancel (linL fun q=>lin [_] [(1,0,.n 1,.v 0),(1,0,.a (.v 0) (.n 1),.n 1)] rfl b.2.1 q)) q,← List.drop_drop,g3]
     refine byT eT eB [1,1,1] fun W=>W f1 (decide_eq_true (Int.ofNat_lt.mpr g2)) f3 _ g1 (by decide) hlv _ (phi_of fun _=>k1) (congrArg not hb) f3 _ g1 (decide_eq_true rfl) hlv (by decide) hlv _ (phi_of k5') rfl f4 ?_
     show loopW T BB Q n [_,_,.own (chD x++[.str (S [p])]),_]
     rw [chD_snoc]
     refine ih (a+(bsl r).2) (x++[p]) _ (by rw [e2,List.length_drop];exact linT fun q=>lin [_,_,_] [(1,0,.a (.a (.v 0) (.n 1)) (.n 1),.a (.v 1) (.n 1)),(1,0,.v 2,.v 0),(1,0,.v 1,.v 2)] rfl h (Nat.sub_le _ _) q) (by exact linL fun q=>lin [_,_,_,_] [(1,2,.v 0,.a (.a (.v 1) (.n 1)) (.v 2)),(1,0,.v 3,.a (.v 2) (.n 1)),(1,0,.a (.v 0) (.n 1),.a (.v 1) (.v 3))] rfl g4 b.2.2 q) (by simp;exact linL fun q=>lin [_,_,_] [(1,0,.v 0,.v 1),(1,0,.n 1,.v 2),(1,0,.a (.a (.v 1) (.v 2)) (.n 1),.a (.v 0) (.n 1))] rfl hx b.2.1 q) fun v'=>?_
     rw [e2,Nat.add_assoc,List.append_assoc]
     exact hQ v'
    ·rw [pu_ch hb hc] at hQ
     refine byT eT eB [1,1,0] fun W=>W f1 (decide_eq_true (Int.ofNat_lt.mpr g2)) f3 _ g1 (by decide) hlv _ (phi_of fun _=>k1) (congrArg not hb) f3 _ g1 (decide_eq_false (mt one_eq.mp hc)) f4 ?_
     show loopW T BB Q n [_,_,.own (chD x++[.str (S [c])]),_]
     rw [chD_snoc]
     refine ih (a+1) (x++[c]) _ (by rw [g3];exact linT fun q=>lin [_,_] [(1,0,.a (.a (.v 0) (.n 1)) (.n 1),.a (.v 1) (.n 1)),(1,0,.v 1,.v 0)] rfl h q) (by exact linL fun q=>lin [_,_] [(1,0,.a (.v 0) (.n 1),.v 1),(1,0,.a (.v 1) (.n 1),.a (.v 0) (.n 1))] rfl g2 q) (by simp;exact linL fun q=>lin [_,_] [(1,0,.v 0,.v 1),(1,0,.a (.v 1) (.n 1),.v 0)] rfl hx q) fun v'=>?_
     rw [g3,Nat.add_assoc,List.append_assoc]
     exact hQ v'
include hlv in
theorem p24 {t:List Nat} {a:Nat} (hB:t.length≤B) (ha:a≤t.length):SW Phi reqF 24 lv b_bare_element [.d (.str (S t)),.d (.int (a:Nat)),.un,.un] (OutR (elR a (.ok (pu blank (t.drop a)).1 (pu blank (t.drop a)).2))):=by
 unfold b_bare_element
 simp only [w_cons,w_newO,sq_nxt,w_whl,List.set_cons_succ,List.set_cons_zero]
 have q:=pu_le blank _ (t.drop a) (Nat.le_refl _)
 rw [List.length_drop] at q
 refine wh_of ⟨(t.drop a).length+1,fun T BB eT eB=>l24 hlv eT eB t hB _ a [] .un (Nat.lt_succ_self _) ha (Nat.zero_le _) fun v'=>?_⟩
 have f1:(pu blank (t.drop a)).1.length≤lim:=lim_B (by omega)
 simp -dsimp only [↓sq_nxt,↓w_ret,↓e_tup,↓es_cons,↓e_joinO,↓e_k,b_str,List.nil_append,List.getElem?_cons_succ,List.getElem?_cons_zero,at_o,j_ch,f1,↓gd,↓e_v,at_d,↓es_nil,↓sq_ret,↓or_ret]
 rfl
end
end Mine
end
section
open PySem PySem.W PyProof.Rows
namespace Mine
theorem c_eq0 {d:Nat} {P:PyData→Prop}:CW .Eq (.int (d:Nat)) (.int 0) P=P (.bool (decide (d=0))):=by
 show P (.bool (decide ((d:Int)=0)))=_
 rw [decide_eq_decide.mpr (by omega:(d:Int)=0↔d=0)]
theorem bf' {b:Bool} (h:b=false):¬ b=true:=by rw [h];exact Bool.false_ne_true
theorem chD_map {x:List Nat}:chD x=(x.map fun c=>[c]).map fun x=>PyData.str (S x):=by rw [List.map_map];rfl
theorem brcL_92 {d e:Nat} {r:List Nat}:brcL d (92::e::r)=(brcL d r).map fun p=>(92::e::p.1,p.2+2):=by rw [brcL.eq_def];rfl
set_option tactic.hygienic true in
theorem brcL_fact:∀ (n d:Nat) (l:List Nat) (p:List Nat × Nat),l.length≤n→brcL d l=some p→p.1=l.take (p.2 - 1)∧1≤p.2∧p.2≤l.length
 |_,_,[],p,_,h=>by simp [brcL] at h
 |0,_,c::r,p,hn,_=>by simp at hn
 |n+1,d,c::r,p,hn,h=>by
  have hr:r.length≤n:=by simpa using hn
  rw [brcL.eq_def] at h
  dsimp only at h
  have one:∀ (d':Nat) (z:List Nat),(brcL d' r).map (fun p=>(c::p.1,p.2+1))=some p→p.1=(c::r).take (p.2 - 1)∧1≤p.2∧p.2≤(c::r).length:=fun d' _ h=>by
   rw [Option.map_eq_some_iff] at h
   obtain ⟨q,hq,rfl⟩:=h
   obtain ⟨e1,e2,e3⟩:=brcL_fact n d' r q hr hq
   refine ⟨?_,by simp,by simp only [List.length_cons];exact linL fun q=>lin [_,_] [(1,0,.v 0,.v 1),(1,0,.a (.a (.v 1) (.n 1)) (.n 1),.a (.v 0) (.n 1))] rfl e3 q⟩
   obtain ⟨m,hm⟩:∃ m,q.2=m+1:=⟨q.2 - 1,by exact linE (fun q=>lin [_,_] [(1,2,.a (.v 0) (.n 1),.v 1),(1,0,.a (.a (.v 0) (.n 1)) (.n 1),.v 1)] rfl (Nat.sub_add_cancel (linL fun q=>lin [_] [(1,0,.n 1,.v 0),(1,0,.a (.v 0) (.n 1),.n 1)] rfl e2 q)) q) fun q=>lin [_,_] [(1,1,.a (.v 0) (.n 1),.v 1),(1,0,.a (.v 1) (.n 1),.a (.v 0) (.n 1))] rfl (Nat.sub_add_cancel (linL fun q=>lin [_] [(1,0,.n 1,.v 0),(1,0,.a (.v 0) (.n 1),.n 1)] rfl e2 q)) q⟩
   rw [e1,hm];simp
  split at h
  ·rename_i hc;subst hc;exact one _ [] h
  ·split at h
   ·rename_i hc;subst hc
    split at h
    ·cases h;exact ⟨rfl,Nat.le_refl _,by simp⟩
    ·exact one _ [] h
   ·split at h
    ·rename_i hc;subst hc
     cases r with
     |nil=>cases h
     |cons e r=>
      dsimp only at h
      rw [Option.map_eq_some_iff] at h
      obtain ⟨q,hq,rfl⟩:=h
      obtain ⟨e1,e2,e3⟩:=brcL_fact n d r q (by simp only [List.length_cons] at hr;exact linL fun q=>lin [_,_] [(1,0,.a (.v 0) (.n 1),.v 1),(1,0,.a (.v 1) (.n 1),.v 0)] rfl hr q) hq
      refine ⟨?_,by simp,by simp only [List.length_cons];exact linL fun q=>lin [_,_] [(1,0,.v 0,.v 1),(1,0,.a (.a (.a (.v 1) (.n 1)) (.n 1)) (.n 1),.a (.v 0) (.n 2))] rfl e3 q⟩
      obtain ⟨m,hm⟩:∃ m,q.2=m+1:=⟨q.2 - 1,by exact linE (fun q=>lin [_,_] [(1,2,.a (.v 0) (.n 1),.v 1),(1,0,.a (.a (.v 0) (.n 1)) (.n 1),.v 1)] rfl (Nat.sub_add_cancel (linL fun q=>lin [_] [(1,0,.n 1,.v 0),(1,0,.a (.v 0) (.n 1),.n 1)] rfl e2 q)) q) fun q=>lin [_,_] [(1,1,.a (.v 0) (.n 1),.v 1),(1,0,.a (.v 1) (.n 1),.a (.v 0) (.n 1))] rfl (Nat.sub_add_cancel (linL fun q=>lin [_] [(1,0,.n 1,.v 0),(1,0,.a (.v 0) (.n 1),.n 1)] rfl e2 q)) q⟩
      rw [e1,hm];simp
    ·exact one _ [] h
section
variable {lv:Nat} (hlv:1≤lv)
include hlv in
theorem l23 {T:Loc→(PyData→Prop)→(Exc→Prop)→Prop} {BB:Loc→(Out→Prop)→Prop} {Q:Out→Prop}
  (eT:∀ ρ P E,T ρ P E=EW Phi reqF 23 lv (.cmp .Lt (.v 1) (.len (.v 0))) ρ P E)
  (eB:∀ ρ Q,BB ρ Q=SW Phi reqF 23 lv [.asg 3 (.idx (.v 0) (.v 1)),
    .ite (.cmp .Eq (.v 3) (.k (.str (S [92]))))
      [.upk [3,1] (.call 5 [.v 0,.v 1])]
      [.ite (.cmp .Eq (.v 3) (.k (.str (S [34]))))
         [.exp (.call 21 [.v 0,.bin .add (.v 1) (.k (.int 1)),.k (.str (S [113,117,111,116,101,115]))]),
          .ret (.tup [.joinO (.k (.str (S []))) 2,.bin .add (.v 1) (.k (.int 1))])]
         [.aug 1 .add (.k (.int 1))]],
    .app 2 (.v 3)] ρ Q) (t:List Nat) (hB:t.length≤B):∀ (n a:Nat) (x:List Nat) (v:Val),(t.drop a).length<n→a≤t.length→x.length≤a →
    ((t.drop a).drop (pu stQ (t.drop a)).2=[]→∀ ρ',Q (.nxt ρ')) →
    (∀ c l,(t.drop a).drop (pu stQ (t.drop a)).2=c::l→if behindOK l=true then Q (.ret (.tuple [sD (x++(pu stQ (t.drop a)).1),itD (a+((pu stQ (t.drop a)).2+1))])) else Q (.exc ⟨S (junkMsg wQuotes blank l),codeD cJUNK⟩)) →
    loopW T BB Q n [.d (.str (S t)),.d (.int (a:Nat)),.own (chD x),v]:=by
 intro n
 induction n with
 |zero=>intro a x v h;exact (lin [_] [(1,0,.a (.v 0) (.n 1),.n 0)] rfl h).elim
 |succ n ih=>
  intro a x v h ha hx hQ hR
  have f1:t.length≤lim:=lim_B hB
  cases hd:t.drop a with
  |nil=>
   have i1:¬ a<t.length:=by rw [dr_nil hd ha];exact Nat.lt_irrefl _
   rw [hd,pu_nil] at hQ
   refine byT eT eB [0] fun W=>W f1 (decide_eq_false (mt Int.ofNat_lt.mp i1)) ?_
   exact hQ rfl _
  |cons c r=>
   obtain ⟨g1,g2,g3,g4⟩:=dr hd
   have f3:a<lim:=lt_lim (by exact linL fun q=>lin [_,_,_] [(1,0,.v 0,.v 1),(1,0,.a (.v 2) (.n 1),.v 0),(1,0,.a (.v 1) (.n 1),.v 2)] rfl hB g2 q)
   have f4:(chD x).length≤lim:=by rw [chD_len];exact lim_B (by exact linL fun q=>lin [_,_,_,_] [(1,0,.v 0,.v 1),(1,0,.v 2,.v 3),(1,0,.a (.v 3) (.n 1),.v 0),(1,0,.a (.v 1) (.n 1),.v 2)] rfl hB hx g2 q)
   have f5:x.length≤lim:=lim_B (by exact linL fun q=>lin [_,_,_,_] [(1,0,.v 0,.v 1),(1,0,.v 2,.v 3),(1,0,.a (.v 3) (.n 1),.v 0),(1,0,.a (.v 1) (.n 1),.v 2)] rfl hB hx g2 q)
   rw [hd] at hQ hR h
   simp only [List.length_cons] at h
   by_cases hc:c=92
   ·subst hc
    have hb:stQ 92=false:=rfl
    have b:=bsl_fact r
    obtain ⟨p,hp⟩:∃ p,(bsl r).1=[p]:=List.length_eq_one_iff.mp b.1
    have k:=fun K=>k5 (K:=K) hB ha hd
    rw [hp] at k
    refine byT eT eB [1,1] fun W=>W f1 (decide_eq_true (Int.ofNat_lt.mpr g2)) f3 _ g1 (decide_eq_true rfl) hlv (by decide) hlv _ (phi_of k) rfl f4 ?_
    show loopW T BB Q n [_,_,.own (chD x++[.str (S [p])]),_]
    rw [chD_snoc]
    rw [pu_bs hb,hp] at hQ hR
    have e2:t.drop (a+(bsl r).2)=r.drop ((bsl r).2 - 1):=by
     rw [show a+(bsl r).2=(a+1)+((bsl r).2 - 1) by exact linE (fun q=>lin [_,_,_] [(1,2,.a (.v 0) (.n 1),.v 1),(1,0,.a (.a (.a (.v 2) (.n 1)) (.v 0)) (.n 1),.a (.v 2) (.v 1))] rfl (Nat.sub_add_cancel (linL fun q=>lin [_] [(1,0,.n 1,.v 0),(1,0,.a (.v 0) (.n 1),.n 1)] rfl b.2.1 q)) q) fun q=>lin [_,_,_] [(1,1,.a (.v 0) (.n 1),.v 1),(1,0,.a (.a (.v 2) (.v 1)) (.n 1),.a (.a (.v 2) (.n 1)) (.v 0))] rfl (Nat.sub_add_cancel (linL fun q=>lin [_] [(1,0,.n 1,.v 0),(1,0,.a (.v 0) (.n 1),.n 1)] rfl b.2.1 q)) q,← List.drop_drop,g3]
    have e3:∀ k,(92::r).drop ((bsl r).2+k)=(r.drop ((bsl r).2 - 1)).drop k:=fun k=>by
     rw [List.drop_drop,show (bsl r).2+k=((bsl r).2 - 1+k)+1 by exact linE (fun q=>lin [_,_,_] [(1,2,.a (.v 0) (.n 1),.v 1),(1,0,.a (.a (.a (.v 0) (.v 2)) (.n 1)) (.n 1),.a (.v 1) (.v 2))] rfl (Nat.sub_add_cancel (linL fun q=>lin [_] [(1,0,.n 1,.v 0),(1,0,.a (.v 0) (.n 1),.n 1)] rfl b.2.1 q)) q) fun q=>lin [_,_,_] [(1,1,.a (.v 0) (.n 1),.v 1),(1,0,.a (.a (.v 1) (.v 2)) (.n 1),.a (.a (.v 0) (.v 2)) (.n 1))] rfl (Nat.sub_add_cancel (linL fun q=>lin [_] [(1,0,.n 1,.v 0),(1,0,.a (.v 0) (.n 1),.n 1)] rfl b.2.1 q)) q,List.drop_succ_cons]
    rw [e3] at hQ hR
    refine ih (a+(bsl r).2) (x++[p]) _ (by rw [e2,List.length_drop];exact linT fun q=>lin [_,_,_] [(1,0,.a (.a (.v 0) (.n 1)) (.n 1),.a (.v 1) (.n 1)),(1,0,.v 2,.v 0),(1,0,.v 1,.v 2)] rfl h (Nat.sub_le _ _) q) (by exact linL fun q=>lin [_,_,_,_] [(1,2,.v 0,.a (.a (.v 1) (.n 1)) (.v 2)),(1,0,.v 3,.a (.v 2) (.n 1)),(1,0,.a (.v 0) (.n 1),.a (.v 1) (.v 3))] rfl g4 b.2.2 q) (by simp;exact linL fun q=>lin [_,_,_] [(1,0,.v 0,.v 1),(1,0,.n 1,.v 2),(1,0,.a (.a (.v 1) (.v 2)) (.n 1),.a (.v 0) (.n 1))] rfl hx b.2.1 q) ?_ ?_
    ·rw [e2];exact hQ
    ·rw [e2]
     intro c l hl
     have:=hR c l hl
     simpa only [List.append_assoc,Nat.add_assoc,List.singleton_append,List.cons_append,List.nil_append] using this
   ·by_cases hq:c=34
    ·subst hq
     have hb:stQ 34=true:=rfl
     rw [pu_stop hb] at hQ hR
     have q:=hR 34 r rfl
     have k:=fun K=>k21 (K:=K) (t:=t) (a:=a+1) (w:=[113,117,111,116,101,115]) hB g2 (by decide)
     rw [g3] at k
     cases hbo:behindOK r with
     |true=>
      rw [if_pos hbo,List.append_nil] at q
      have k':∀ K,KW (Phi 21 [.str (S t),.int ((a:Int)+1),.str (S [113,117,111,116,101,115])]) K=K (.ok .none):=fun K=>(k K).trans (by rw [if_pos hbo])
      have j2:(joinL [] (x.map fun c=>[c])).length≤lim:=by rw [joinL_single];exact f5
      have j3:(x.map fun c=>[c]).length≤lim:=by rw [List.length_map];exact f5
      have j1:=chD_map (x:=x)
      refine byT eT eB [1,0,1] fun W=>W f1 (decide_eq_true (Int.ofNat_lt.mpr g2)) f3 _ g1 (decide_eq_false (by decide)) hb (by decide) hlv _ (phi_of k') _ j1 (by decide) j2 j3 ?_
      show Q (.ret (.tuple [.str (S (joinL [] (x.map fun c=>[c]))),_]))
      rw [joinL_single]
      exact q
     |false=>
      rw [if_neg (bf' hbo)] at q
      have k':∀ K,KW (Phi 21 [.str (S t),.int ((a:Int)+1),.str (S [113,117,111,116,101,115])]) K=K (exL (junkMsg wQuotes blank r) cJUNK):=fun K=>(k K).trans (by rw [if_neg (bf' hbo)];rfl)
      refine byT eT eB [1,0,1] fun W=>W f1 (decide_eq_true (Int.ofNat_lt.mpr g2)) f3 _ g1 (decide_eq_false (by decide)) hb (by decide) hlv _ (phi_of k') ?_
      exact q
    ·have hb:stQ c=false:=by simpa [stQ] using hq
     refine byT eT eB [1,0,0] fun W=>W f1 (decide_eq_true (Int.ofNat_lt.mpr g2)) f3 _ g1 (decide_eq_false (mt one_eq.mp hc)) (decide_eq_false (mt one_eq.mp hq)) f4 ?_
     show loopW T BB Q n [_,_,.own (chD x++[.str (S [c])]),_]
     rw [chD_snoc]
     rw [pu_ch hb hc] at hQ hR
     have e3:∀ k,(c::r).drop (1+k)=r.drop k:=fun k=>by rw [Nat.add_comm,List.drop_succ_cons]
     rw [e3] at hQ hR
     refine ih (a+1) (x++[c]) _ (by rw [g3];exact linT fun q=>lin [_,_] [(1,0,.a (.a (.v 0) (.n 1)) (.n 1),.a (.v 1) (.n 1)),(1,0,.v 1,.v 0)] rfl h q) (by exact linL fun q=>lin [_,_] [(1,0,.a (.v 0) (.n 1),.v 1),(1,0,.a (.v 1) (.n 1),.a (.v 0) (.n 1))] rfl g2 q) (by simp;exact linL fun q=>lin [_,_] [(1,0,.v 0,.v 1),(1,0,.a (.v 1) (.n 1),.v 0)] rfl hx q) ?_ ?_
     ·rw [g3];exact hQ
     ·rw [g3]
      intro c' l hl
      have:=hR c' l hl
      simpa only [List.append_assoc,Nat.add_assoc,List.singleton_append,List.cons_append,List.nil_append] using this
include hlv in
theorem p23 {t:List Nat} {a:Nat} (hB:t.length≤B) (ha:a≤t.length):SW Phi reqF 23 lv b_quoted_element [.d (.str (S t)),.d (.int (a:Nat)),.un,.un] (OutR (elR a (elQ (t.drop a)))):=by
 unfold b_quoted_element
 simp only [w_cons,w_newO,sq_nxt,w_whl,List.set_cons_succ,List.set_cons_zero]
 refine wh_of ⟨(t.drop a).length+1,fun T BB eT eB=>l23 hlv eT eB t hB _ a [] .un (Nat.lt_succ_self _) ha (Nat.zero_le _) (fun h ρ'=>?_) fun c l hl=>?_⟩
 ·simp -dsimp only [↓sq_nxt,↓w_rai1,hlv,↓gd,↓e_k,b_str,↓e_tup,↓es_cons,↓es_nil,↓sq_exc,↓or_exc,elQ,h]
  rfl
 ·simp only [elQ,hl]
  cases hbo:behindOK l with
  |true=>simp -dsimp only [↓iteT,↓sq_ret,↓or_ret,if_true];rfl
  |false=>simp -dsimp only [↓ite_ff,↓sq_exc,↓or_exc,Bool.false_eq_true,if_false];rfl
include hlv in
theorem l22 {T:Loc→(PyData→Prop)→(Exc→Prop)→Prop} {BB:Loc→(Out→Prop)→Prop} {Q:Out→Prop}
  (eT:∀ ρ P E,T ρ P E=EW Phi reqF 22 lv (.cmp .Lt (.v 3) (.len (.v 0))) ρ P E)
  (eB:∀ ρ Q,BB ρ Q=SW Phi reqF 22 lv [.asg 4 (.idx (.v 0) (.v 3)),
    .ite (.cmp .Eq (.v 4) (.k (.str (S [92]))))
      [.aug 3 .add (.k (.int 1))]
      [.ite (.cmp .Eq (.v 4) (.k (.str (S [123]))))
         [.aug 2 .add (.k (.int 1))]
         [.ite (.cmp .Eq (.v 4) (.k (.str (S [125]))))
            [.aug 2 .sub (.k (.int 1)),
             .ite (.cmp .Eq (.v 2) (.k (.int 0)))
               [.exp (.call 21 [.v 0,.bin .add (.v 3) (.k (.int 1)),.k (.str (S [98,114,97,99,101,115]))]),
                .ret (.tup [.sl (.v 0) (some (.v 1)) (some (.v 3)),.bin .add (.v 3) (.k (.int 1))])]
               []]
            []]],
    .aug 3 .add (.k (.int 1))] ρ Q) (t:List Nat) (hB:t.length≤B) (f0:Nat):∀ (n a d:Nat) (v:Val),(t.drop a).length<n →
    (brcL (d+1) (t.drop a)=none→∀ ρ',Q (.nxt ρ')) →
    (∀ p,brcL (d+1) (t.drop a)=some p→if behindOK ((t.drop a).drop p.2)=true then Q (.ret (.tuple [sD ((t.drop f0).take (a+p.2 - 1 - f0)),itD (a+p.2)])) else Q (.exc ⟨S (junkMsg wBraces blank ((t.drop a).drop p.2)),codeD cJUNK⟩)) →
    loopW T BB Q n [.d (.str (S t)),.d (.int (f0:Nat)),.d (.int (d+1:Nat)),.d (.int (a:Nat)),v]:=by
 intro n
 induction n with
 |zero=>intro a d v h;exact (lin [_] [(1,0,.a (.v 0) (.n 1),.n 0)] rfl h).elim
 |succ n ih=>
  intro a d v h hQ hR
  have f1:t.length≤lim:=lim_B hB
  cases hd:t.drop a with
  |nil=>
   have e:¬ a<t.length:=Nat.not_lt.mpr (List.drop_eq_nil_iff.mp hd)
   rw [hd] at hQ
   refine byT eT eB [0] fun W=>W f1 (decide_eq_false (mt Int.ofNat_lt.mp e)) ?_
   exact hQ rfl _
  |cons c r=>
   obtain ⟨g1,g2,g3,g4⟩:=dr hd
   have f3:a<lim:=lt_lim (by exact linL fun q=>lin [_,_,_] [(1,0,.v 0,.v 1),(1,0,.a (.v 2) (.n 1),.v 0),(1,0,.a (.v 1) (.n 1),.v 2)] rfl hB g2 q)
   rw [hd] at hQ hR h
   simp only [List.length_cons] at h
   by_cases hc:c=92
   ·subst hc
    refine byT eT eB [1,1] fun W=>W f1 (decide_eq_true (Int.ofNat_lt.mpr g2)) f3 _ g1 (decide_eq_true rfl) ?_
    have g5:t.drop (a+2)=r.drop 1:=by rw [show a+2=(a+1)+1 by exact linE (fun q=>lin [_] [(1,0,.a (.a (.a (.v 0) (.n 1)) (.n 1)) (.n 1),.a (.v 0) (.n 2))] rfl q) fun q=>lin [_] [(1,0,.a (.a (.v 0) (.n 2)) (.n 1),.a (.a (.v 0) (.n 1)) (.n 1))] rfl q,← List.drop_drop,g3]
    refine ih (a+2) d _ (by rw [g5,List.length_drop];exact linT fun q=>lin [_,_,_] [(1,0,.a (.a (.v 0) (.n 1)) (.n 1),.a (.v 1) (.n 1)),(1,0,.v 2,.v 0),(1,0,.v 1,.v 2)] rfl h (Nat.sub_le _ _) q) ?_ ?_
    ·rw [g5]
     cases r with
     |nil=>exact fun _=>hQ rfl
     |cons e r=>exact fun hn=>hQ (by rw [brcL_92];exact congrArg (Option.map _) hn)
    ·rw [g5]
     cases r with
     |nil=>exact fun p hp=>nomatch hp
     |cons e r=>
      intro p hp
      have:=hR (92::e::p.1,p.2+2) (by rw [brcL_92];exact congrArg (Option.map _) hp)
      rw [show a+(p.2+2)=a+2+p.2 by rw [Nat.add_comm p.2,Nat.add_assoc]] at this
      exact this
   ·have plain:∀ (d':Nat) (v':Val),brcL (d+1) (c::r)=(brcL (d'+1) r).map (fun p=>(c::p.1,p.2+1))→loopW T BB Q n [.d (.str (S t)),.d (.int (f0:Nat)),.d (.int (d'+1:Nat)),.d (.int (a+1:Nat)),v']:=fun d' v' e=>by
     refine ih (a+1) d' v' (by rw [g3];exact linT fun q=>lin [_,_] [(1,0,.a (.a (.v 0) (.n 1)) (.n 1),.a (.v 1) (.n 1)),(1,0,.v 1,.v 0)] rfl h q) ?_ ?_
     ·rw [g3]
      intro hn
      exact hQ (by rw [e,hn];rfl)
     ·rw [g3]
      intro p hp
      have:=hR (c::p.1,p.2+1) (by rw [e,hp];rfl)
      rw [show a+(p.2+1)=a+1+p.2 by rw [Nat.add_comm p.2,Nat.add_assoc]] at this
      exact this
    by_cases h1:c=123
    ·subst h1
     refine byT eT eB [1,0,1] fun W=>W f1 (decide_eq_true (Int.ofNat_lt.mpr g2)) f3 _ g1 (decide_eq_false (by decide)) (decide_eq_true rfl) ?_
     exact plain (d+1) _ ((brcL.eq_def ..).trans rfl)
    ·by_cases h2:c=125
     ·subst h2
      cases d with
      |zero=>
       have q:=hR ([],1) ((brcL.eq_def ..).trans rfl)
       have k:=fun K=>k21 (K:=K) (t:=t) (a:=a+1) (w:=[98,114,97,99,101,115]) hB g2 (by decide)
       rw [g3] at k
       cases hbo:behindOK r with
       |true=>
        have q:=(if_pos hbo).mp q
        have k':∀ K,KW (Phi 21 [.str (S t),.int ((a:Int)+1),.str (S [98,114,97,99,101,115])]) K=K (.ok .none):=fun K=>(k K).trans (by rw [if_pos hbo])
        refine byT eT eB [1,0,0,1,1] fun W=>W f1 (decide_eq_true (Int.ofNat_lt.mpr g2)) f3 _ g1 (decide_eq_false (by decide)) (decide_eq_false (by decide)) (decide_eq_true rfl) (decide_eq_true rfl) (by decide) hlv _ (phi_of k') f1 ?_
        exact q
       |false=>
        have q:=(if_neg (bf' hbo)).mp q
        have k':∀ K,KW (Phi 21 [.str (S t),.int ((a:Int)+1),.str (S [98,114,97,99,101,115])]) K=K (exL (junkMsg wBraces blank r) cJUNK):=fun K=>(k K).trans (by rw [if_neg (bf' hbo)];rfl)
        refine byT eT eB [1,0,0,1,1] fun W=>W f1 (decide_eq_true (Int.ofNat_lt.mpr g2)) f3 _ g1 (decide_eq_false (by decide)) (decide_eq_false (by decide)) (decide_eq_true rfl) (decide_eq_true rfl) (by decide) hlv _ (phi_of k') ?_
        exact q
      |succ d=>
       have i5:((d+1+1:Nat):Int) - 1=(d+1:Nat):=Int.add_sub_cancel ((d+1:Nat):Int) 1
       have i6:¬ ((d+1+1:Nat):Int) - 1=0:=by rw [i5];exact Int.natCast_ne_zero.mpr (Nat.succ_ne_zero d)
       refine byT eT eB [1,0,0,1,0] fun W=>W f1 (decide_eq_true (Int.ofNat_lt.mpr g2)) f3 _ g1 (decide_eq_false (by decide)) (decide_eq_false (by decide)) (decide_eq_true rfl) (decide_eq_false i6) ?_
       show loopW T BB Q n [_,_,.d (.int (((d+1+1:Nat):Int) - 1)),_,_]
       rw [i5]
       exact plain d _ ((brcL.eq_def ..).trans (if_neg (t:=some ([],1)) (Nat.not_le.mpr (Nat.succ_lt_succ (Nat.succ_pos d)))))
     ·refine byT eT eB [1,0,0,0] fun W=>W f1 (decide_eq_true (Int.ofNat_lt.mpr g2)) f3 _ g1 (decide_eq_false (mt one_eq.mp hc)) (decide_eq_false (mt one_eq.mp h1)) (decide_eq_false (mt one_eq.mp h2)) ?_
      refine plain d _ ?_
      rw [brcL.eq_def]
      exact (if_neg h1).trans ((if_neg h2).trans (if_neg hc))
include hlv in
theorem p22 {t:List Nat} {a:Nat} (hB:t.length≤B) (ha:a≤t.length):SW Phi reqF 22 lv b_braced_element [.d (.str (S t)),.d (.int (a:Nat)),.un,.un,.un] (OutR (elR a (elB (t.drop a)))):=by
 unfold b_braced_element
 simp -dsimp only [↓w_cons,↓w_upkT,hlv,↓gd,↓es_cons,↓e_k,↓e_v,List.getElem?_cons_succ,List.getElem?_cons_zero,at_d,↓es_nil,↓sq_nxt,↓w_whl,setAll,List.set_cons_succ,List.set_cons_zero]
 refine wh_of ⟨(t.drop a).length+1,fun T BB eT eB=>l22 hlv eT eB t hB a _ a 0 .un (Nat.lt_succ_self _) (fun h ρ'=>?_) fun p hp=>?_⟩
 ·simp -dsimp only [↓sq_nxt,↓w_cons,↓w_rai1,hlv,↓gd,↓e_k,b_str,↓e_tup,↓es_cons,↓es_nil,↓sq_exc,↓or_exc,elB,h]
  rfl
 ·obtain ⟨e1,e2,e3⟩:=brcL_fact _ _ _ p (Nat.le_refl _) hp
  simp only [elB,hp]
  cases hbo:behindOK ((t.drop a).drop p.2) with
  |true=>
   simp -dsimp only [↓iteT,↓sq_ret,↓or_ret,if_true]
   rw [Nat.sub_sub,Nat.add_comm 1 a,Nat.add_sub_add_left,← e1]
   rfl
  |false=>simp -dsimp only [↓ite_ff,↓sq_exc,↓or_exc,Bool.false_eq_true,if_false];rfl
end
end Mine
end
section
open PySem PySem.W PyProof.Rows
namespace Mine
theorem c_isn0 {P:PyData→Prop}:CW .IsNot .none .none P=P (.bool false):=rfl
theorem c_isnT {P:PyData→Prop} {x:List PyData}:CW .IsNot (.tuple x) .none P=P (.bool true):=rfl
theorem c_is0 {P:PyData→Prop}:CW .Is .none .none P=P (.bool true):=rfl
theorem elR_add {a k:Nat} {e:Elt}:elR (a+k) e=elR a (e.add k):=by
 cases e with
 |ok x n=>simp only [elR,Elt.add,Nat.add_assoc]
 |bad m c=>rfl
theorem elM_b {r:List Nat}:elM (123::r)=(elB r).add 1:=rfl
theorem elM_q {r:List Nat}:elM (34::r)=(elQ r).add 1:=rfl
set_option tactic.hygienic true in
theorem elM_o {c:Nat} {r:List Nat} (h1:c≠123) (h2:c≠34):elM (c::r) = .ok (pu blank (c::r)).1 (pu blank (c::r)).2:=by
 unfold elM
 split
 ·rename_i q;cases q;exact absurd rfl h1
 ·rename_i q;cases q;exact absurd rfl h2
 ·rfl
theorem blanks_le:∀ (l:List Nat),blanks l≤l.length
 | []=>Nat.le_refl _
 |c::r=>by
  unfold blanks
  have:=blanks_le r
  split <;> simp only [List.length_cons] <;> (first |exact linL fun q=>lin [_,_] [(1,0,.v 0,.v 1),(1,0,.a (.a (.v 1) (.n 1)) (.n 1),.a (.n 1) (.v 0))] rfl this q |exact linL fun q=>lin [_] [(1,0,.a (.a (.v 0) (.n 1)) (.n 1),.n 0)] rfl q)
section
variable {lv:Nat} (hlv:1≤lv)
include hlv in
theorem l25 {T:Loc→(PyData→Prop)→(Exc→Prop)→Prop} {BB:Loc→(Out→Prop)→Prop} {Q:Out→Prop}
  (eT:∀ ρ P E,T ρ P E=EW Phi reqF 25 lv (.and [.cmp .Lt (.v 1) (.len (.v 0)),.call 1 [.idx (.v 0) (.v 1)]]) ρ P E)
  (eB:∀ ρ Q,BB ρ Q=SW Phi reqF 25 lv [.aug 1 .add (.k (.int 1))] ρ Q) (t:List Nat) (hB:t.length≤B):∀ (n a:Nat),(t.drop a).length<n→a≤t.length →
    Q (.nxt [.d (.str (S t)),.d (itD (a+blanks (t.drop a)))])→loopW T BB Q n [.d (.str (S t)),.d (.int (a:Nat))]:=by
 intro n
 induction n with
 |zero=>intro a h;exact (lin [_] [(1,0,.a (.v 0) (.n 1),.n 0)] rfl h).elim
 |succ n ih=>
  intro a h ha hQ
  have f1:t.length≤lim:=lim_B hB
  cases hd:t.drop a with
  |nil=>
   have i1:¬ a<t.length:=by rw [dr_nil hd ha];exact Nat.lt_irrefl _
   rw [hd] at hQ
   refine byT eT eB [0,0] fun W=>W f1 (decide_eq_false (mt Int.ofNat_lt.mp i1)) rfl ?_
   exact hQ
  |cons c r=>
   obtain ⟨g1,g2,g3,g4⟩:=dr hd
   have f3:a<lim:=lt_lim (by exact linL fun q=>lin [_,_,_] [(1,0,.v 0,.v 1),(1,0,.a (.v 2) (.n 1),.v 0),(1,0,.a (.v 1) (.n 1),.v 2)] rfl hB g2 q)
   rw [hd] at hQ h
   simp only [List.length_cons] at h
   cases hb:blank c with
   |true=>
    refine byT eT eB [1,1] fun W=>W f1 (decide_eq_true (Int.ofNat_lt.mpr g2)) f3 _ g1 (by decide) hlv _ (phi_of fun _=>k1) hb ?_
    refine ih (a+1) (by rw [g3];exact linT fun q=>lin [_,_] [(1,0,.a (.a (.v 0) (.n 1)) (.n 1),.a (.v 1) (.n 1)),(1,0,.v 1,.v 0)] rfl h q) (by exact linL fun q=>lin [_,_] [(1,0,.a (.v 0) (.n 1),.v 1),(1,0,.a (.v 1) (.n 1),.a (.v 0) (.n 1))] rfl g2 q) ?_
    rw [g3,Nat.add_assoc]
    rw [blanks,if_pos hb] at hQ
    exact hQ
   |false=>
    refine byT eT eB [1,0] fun W=>W f1 (decide_eq_true (Int.ofNat_lt.mpr g2)) f3 _ g1 (by decide) hlv _ (phi_of fun _=>k1) hb ?_
    rw [blanks,if_neg (bf' hb)] at hQ
    exact hQ
include hlv in
theorem p25 {t:List Nat} {a:Nat} (hB:t.length≤B) (ha:a≤t.length):SW Phi reqF 25 lv b_find_element [.d (.str (S t)),.d (.int (a:Nat))] (OutR (findR a (t.drop a))):=by
 unfold b_find_element
 rw [w_cons,w_whl]
 refine wh_of ⟨(t.drop a).length+1,fun T BB eT eB=>l25 hlv eT eB t hB _ a (Nat.lt_succ_self _) ha ?_⟩
 have f1:t.length≤lim:=lim_B hB
 have hbl:=blanks_le (t.drop a)
 rw [List.length_drop] at hbl
 unfold findR
 rw [List.drop_drop]
 generalize hp:a+blanks (t.drop a)=p
 have hpl:p≤t.length:=by exact linL fun q=>lin [_,_,_,_,_] [(1,0,.v 0,.v 1),(1,2,.a (.v 2) (.v 0),.v 3),(1,1,.a (.v 1) (.v 2),.v 4),(1,0,.a (.v 4) (.n 1),.v 3)] rfl hbl hp (Nat.sub_add_cancel (linL fun q=>lin [_,_] [(1,0,.v 0,.v 1),(1,0,.a (.v 1) (.n 1),.v 0)] rfl ha q)) q
 cases hd:t.drop p with
 |nil=>
  have e:=Nat.le_of_eq (dr_nil hd hpl).symm
  show SW Phi reqF 25 lv _ _ _
  refine byR [1] fun W=>W f1 (decide_eq_true (Int.ofNat_le.mpr e)) ?_
  rfl
 |cons c r=>
  obtain ⟨g1,g2,g3,g4⟩:=dr hd
  have f3:p<lim:=lt_lim (by exact linL fun q=>lin [_,_,_] [(1,0,.v 0,.v 1),(1,0,.a (.v 2) (.n 1),.v 0),(1,0,.a (.v 1) (.n 1),.v 2)] rfl hB g2 q)
  have f4:¬ t.length≤p:=by exact fun q=>lin [_,_] [(1,0,.a (.v 0) (.n 1),.v 1),(1,0,.v 1,.v 0)] rfl g2 q
  show SW Phi reqF 25 lv _ _ (OutR (elR p (elM (c::r))))
  by_cases h1:c=123
  ·subst h1
   have k:∀ K,KW (Phi 22 [.str (S t),.int ((p:Int)+1)]) K=K (elR p ((elB r).add 1)):=fun K=>(k22 (K:=K) (t:=t) (a:=p+1) hB g2).trans (by rw [g3,elR_add])
   rw [elM_b]
   cases he:(elB r).add 1 with
   |ok x n=>rw [he] at k;refine byR [0,1] fun W=>W f1 (decide_eq_false (mt Int.ofNat_le.mp f4)) f3 _ g1 (decide_eq_true rfl) (by decide) hlv _ (phi_of k) ?_;rfl
   |bad m c=>rw [he] at k;refine byR [0,1] fun W=>W f1 (decide_eq_false (mt Int.ofNat_le.mp f4)) f3 _ g1 (decide_eq_true rfl) (by decide) hlv _ (phi_of k) ?_;rfl
  ·by_cases h2:c=34
   ·subst h2
    have k:∀ K,KW (Phi 23 [.str (S t),.int ((p:Int)+1)]) K=K (elR p ((elQ r).add 1)):=fun K=>(k23 (K:=K) (t:=t) (a:=p+1) hB g2).trans (by rw [g3,elR_add])
    rw [elM_q]
    cases he:(elQ r).add 1 with
    |ok x n=>rw [he] at k;refine byR [0,0,1] fun W=>W f1 (decide_eq_false (mt Int.ofNat_le.mp f4)) f3 _ g1 (decide_eq_false (by decide)) f3 _ g1 (decide_eq_true rfl) (by decide) hlv _ (phi_of k) ?_;rfl
    |bad m c=>rw [he] at k;refine byR [0,0,1] fun W=>W f1 (decide_eq_false (mt Int.ofNat_le.mp f4)) f3 _ g1 (decide_eq_false (by decide)) f3 _ g1 (decide_eq_true rfl) (by decide) hlv _ (phi_of k) ?_;rfl
   ·have k:=fun K=>k24 (K:=K) (t:=t) (a:=p) hB hpl
    rw [hd] at k
    rw [elM_o h1 h2]
    refine byR [0,0,0] fun W=>W f1 (decide_eq_false (mt Int.ofNat_le.mp f4)) f3 _ g1 (decide_eq_false (mt one_eq.mp h1)) f3 _ g1 (decide_eq_false (mt one_eq.mp h2)) (by decide) hlv _ (phi_of k) ?_
    rfl
set_option tactic.hygienic true in
theorem elM_pos {c:Nat} {r x:List Nat} {n:Nat} (hb:blank c=false) (h:elM (c::r) = .ok x n):1≤n∧n≤r.length+1:=by
 by_cases h1:c=123
 ·subst h1
  rw [elM_b] at h
  unfold elB at h
  split at h
  ·rename_i p hp
   have q:=brcL_fact _ _ _ p (Nat.le_refl _) hp
   split at h
   ·simp only [Elt.add,Elt.ok.injEq] at h;omega
   ·cases h
  ·cases h
 ·by_cases h2:c=34
  ·subst h2
   rw [elM_q] at h
   unfold elQ at h
   have q:=pu_le stQ _ r (Nat.le_refl _)
   split at h
   ·cases h
   ·rename_i c' l' hl
    have e:(r.drop (pu stQ r).2).length=l'.length+1:=by rw [hl];rfl
    rw [List.length_drop] at e
    split at h
    ·simp only [Elt.add,Elt.ok.injEq] at h;omega
    ·cases h
  ·rw [elM_o h1 h2] at h
   simp only [Elt.ok.injEq] at h
   have q:=pu_le blank _ (c::r) (Nat.le_refl _)
   by_cases hc:c=92
   ·subst hc
    have b:=bsl_fact r
    rw [pu_bs hb] at h q
    simp only [List.length_cons] at h q
    omega
   ·rw [pu_ch hb hc] at h q
    simp only [List.length_cons] at h q
    omega
set_option tactic.hygienic true in
theorem blanks_head {l:List Nat} {c:Nat} {r:List Nat} (h:l.drop (blanks l)=c::r):blank c=false:=by
 induction l with
 |nil=>cases h
 |cons d l ih=>
  unfold blanks at h
  split at h
  ·rename_i hb
   rw [Nat.add_comm,List.drop_succ_cons] at h
   exact ih h
  ·rename_i hb
   cases h
   simpa using hb
noncomputable def xq (Q:Out→Prop):Out→Prop
 | .exc x=>Q (.exc x)
 |_=>True
include hlv in
theorem l26 {T:Loc→(PyData→Prop)→(Exc→Prop)→Prop} {BB:Loc→(Out→Prop)→Prop} {Q:Out→Prop}
  (eT:∀ ρ P E,T ρ P E=EW Phi reqF 26 lv (.cmp .IsNot (.v 2) (.k .none)) ρ P E)
  (eB:∀ ρ Q,BB ρ Q=SW Phi reqF 26 lv [.app 1 (.idx (.v 2) (.k (.int 0))),
    .asg 2 (.call 25 [.v 0,.idx (.v 2) (.k (.int 1))])] ρ Q) (t:List Nat) (hB:t.length≤B):∀ (n a:Nat) (xs:List (List Nat)) (f:Nat),(t.drop a).length<n→(t.drop a).length<f→a≤t.length→xs.length≤a →
    (∀ ys v',splM f (t.drop a) = .ok ys→Q (.nxt [.d (.str (S t)),.own ((xs++ys).map sD),v'])) →
    (∀ m q,splM f (t.drop a) = .error (m,q)→Q (.exc ⟨S m,codeD q⟩)) →
    (∀ d,findR a (t.drop a) = .ok d→loopW T BB Q n [.d (.str (S t)),.own (xs.map sD),.d d])∧(∀ e,findR a (t.drop a) = .exc e→Q (.exc e)):=by
 intro n
 induction n with
 |zero=>intro a xs f h;exact (lin [_] [(1,0,.a (.v 0) (.n 1),.n 0)] rfl h).elim
 |succ n ih=>
  intro a xs f h hf ha hx hQ hE
  have f1:t.length≤lim:=lim_B hB
  cases f with
  |zero=>exact absurd hf (Nat.not_lt_zero _)
  |succ f=>
  cases hd:(t.drop a).drop (blanks (t.drop a)) with
  |nil=>
   refine ⟨fun d hdd=>?_,fun e he=>?_⟩
   ·unfold findR at hdd
    rw [hd] at hdd
    cases hdd
    have:=hQ [] (.d .none) (by rw [splM,hd])
    rw [List.append_nil] at this
    refine byT eT eB [0] fun W=>W rfl ?_
    exact this
   ·unfold findR at he
    rw [hd] at he
    cases he
  |cons c r=>
   have hb:=blanks_head hd
   cases he:elM (c::r) with
   |bad m q=>
    refine ⟨fun d hdd=>?_,fun e hee=>?_⟩
    ·unfold findR at hdd
     rw [hd] at hdd
     simp only [he,elR,exL,reduceCtorEq] at hdd
    ·unfold findR at hee
     rw [hd] at hee
     simp only [he,elR,exL,RR.exc.injEq] at hee
     rw [← hee]
     exact hE m q (by rw [splM,hd];simp only [he])
   |ok x k=>
    have hk:=elM_pos hb he
    refine ⟨fun d hdd=>?_,fun e hee=>?_⟩
    ·unfold findR at hdd
     rw [hd] at hdd
     simp only [he,elR,RR.ok.injEq] at hdd
     subst hdd
     have hbl:=blanks_le (t.drop a)
     have hdl:((t.drop a).drop (blanks (t.drop a))).length=r.length+1:=by rw [hd];rfl
     rw [List.length_drop,List.length_drop] at hdl
     rw [List.length_drop] at hbl h hf
     have e5:t.drop (a+blanks (t.drop a)+k)=(c::r).drop k:=by rw [← hd,List.drop_drop,List.drop_drop,Nat.add_assoc]
     have f4:(xs.map sD).length≤lim:=by rw [List.length_map];exact lim_B (by exact linL fun q=>lin [_,_,_,_,_] [(1,0,.v 0,.v 1),(1,0,.v 2,.v 3),(1,1,.a (.v 4) (.v 3),.v 0),(1,0,.a (.v 1) (.n 1),.v 2)] rfl hB hx (Nat.sub_add_cancel (linL fun q=>lin [_,_] [(1,0,.v 0,.v 1),(1,0,.a (.v 1) (.n 1),.v 0)] rfl ha q)) q)
     have hl:a+blanks (t.drop a)+k≤t.length:=by exact linL fun q=>lin [_,_,_,_,_,_,_] [(1,0,.v 0,.a (.v 1) (.n 1)),(1,2,.v 2,.a (.v 1) (.n 1)),(1,1,.a (.v 3) (.v 4),.v 5),(1,1,.a (.v 2) (.v 6),.v 3),(1,0,.a (.v 5) (.n 1),.a (.a (.v 4) (.v 6)) (.v 0))] rfl hk.2 hdl (Nat.sub_add_cancel (linL fun q=>lin [_,_] [(1,0,.v 0,.v 1),(1,0,.a (.v 1) (.n 1),.v 0)] rfl ha q)) (Nat.sub_add_cancel (linL fun q=>lin [_,_] [(1,0,.v 0,.v 1),(1,0,.a (.v 1) (.n 1),.v 0)] rfl hbl q)) q
     have k':=fun K=>k25 (K:=K) (t:=t) (a:=a+blanks (t.drop a)+k) hB hl
     have q:=ih (a+blanks (t.drop a)+k) (xs++[x]) f (by rw [List.length_drop];exact linT fun q=>lin [_,_,_,_,_,_,_] [(1,0,.a (.v 0) (.n 1),.a (.v 1) (.n 1)),(1,0,.n 1,.v 2),(1,2,.a (.v 0) (.v 3),.v 4),(1,1,.a (.v 5) (.a (.a (.v 3) (.v 6)) (.v 2)),.v 4),(1,0,.v 1,.v 5)] rfl h hk.1 (Nat.sub_add_cancel (linL fun q=>lin [_,_] [(1,0,.v 0,.v 1),(1,0,.a (.v 1) (.n 1),.v 0)] rfl ha q)) (Nat.sub_add_cancel hl) q) (by rw [List.length_drop];exact linT fun q=>lin [_,_,_,_,_,_,_] [(1,0,.a (.v 0) (.n 1),.a (.v 1) (.n 1)),(1,0,.n 1,.v 2),(1,2,.a (.v 0) (.v 3),.v 4),(1,1,.a (.v 5) (.a (.a (.v 3) (.v 6)) (.v 2)),.v 4),(1,0,.v 1,.v 5)] rfl hf hk.1 (Nat.sub_add_cancel (linL fun q=>lin [_,_] [(1,0,.v 0,.v 1),(1,0,.a (.v 1) (.n 1),.v 0)] rfl ha q)) (Nat.sub_add_cancel hl) q) hl (by simp;exact linL fun q=>lin [_,_,_,_] [(1,0,.v 0,.v 1),(1,0,.n 1,.v 2),(1,0,.a (.a (.a (.v 1) (.v 3)) (.v 2)) (.n 1),.a (.v 0) (.n 1))] rfl hx hk.1 q) (fun ys v' hy=>by
      have:=hQ (x::ys) v' (by rw [splM,hd];simp only [he];rw [← e5,hy])
      simpa only [List.append_assoc,List.singleton_append] using this) (fun m q hy=>hE m q (by rw [splM,hd];simp only [he];rw [← e5,hy]))
     have e6:List.map sD xs++[sD x]=(xs++[x]).map sD:=(List.map_append (l₁:=xs) (l₂:=[x])).symm
     cases hf2:findR (a+blanks (t.drop a)+k) (t.drop (a+blanks (t.drop a)+k)) with
     |ok d'=>
      rw [hf2] at k'
      refine byT eT eB [1] fun W=>W rfl (by decide) _ rfl f4 (by decide) _ rfl (by decide) hlv _ (phi_of k') ?_
      show loopW T BB Q n [_,.own (List.map sD xs++[sD x]),_]
      rw [e6]
      exact q.1 d' hf2
     |exc e=>
      rw [hf2] at k'
      refine byT eT eB [1] fun W=>W rfl (by decide) _ rfl f4 (by decide) _ rfl (by decide) hlv _ (phi_of k') ?_
      exact q.2 e hf2
    ·unfold findR at hee
     rw [hd] at hee
     simp only [he,elR,reduceCtorEq] at hee
include hlv in
theorem p26 {t:List Nat} (hB:t.length≤B):SW Phi reqF 26 lv b_split_list [.d (.str (S t)),.un,.un] (OutR (match splM (t.length+1) t with
  | .ok xs => .ok (.list (xs.map sD))
  | .error p=>exL p.1 p.2)):=by
 unfold b_split_list
 have k0:∀ {K:RR→Prop},KW (Phi 25 [.str (S t),.int 0]) K=K (findR 0 t):=fun {K}=>k25 (t:=t) (a:=0) hB (Nat.zero_le _)
 rw [w_cons,w_newO,sq_nxt,w_cons,w_asg]
 simp -dsimp only [List.set_cons_succ,List.set_cons_zero,↓e_callK (Φ:=Phi) (req:=reqF) (k:=26) (lv:=lv) (f:=25) (by decide) hlv,es_cons,es_nil,e_v,at_d,e_k,List.getElem?_cons_zero,k0]
 have main:∀ (Q:Out→Prop),(∀ ys v',splM (t.length+1) t = .ok ys→Q (.nxt [.d (.str (S t)),.own (ys.map sD),v']))→(∀ m q,splM (t.length+1) t = .error (m,q)→Q (.exc ⟨S m,codeD q⟩)) →
   (∀ d,findR 0 t = .ok d→WH Phi reqF 26 lv (.cmp .IsNot (.v 2) (.k .none)) [.app 1 (.idx (.v 2) (.k (.int 0))),.asg 2 (.call 25 [.v 0,.idx (.v 2) (.k (.int 1))])] [.d (.str (S t)),.own [],.d d] Q)∧(∀ e,findR 0 t = .exc e→Q (.exc e)):=fun Q h1 h2=>by
  refine ⟨fun d hd=>wh_of ⟨t.length+1,fun T BB eT eB=>?_⟩,fun e he=>?_⟩
  ·exact (l26 hlv eT eB t hB (t.length+1) 0 [] (t.length+1) (by simp) (by simp) (Nat.zero_le _) (Nat.le_refl _) (fun ys v'=>h1 ys v') h2).1 d hd
  ·exact (l26 (T:=EW Phi reqF 26 lv (.cmp .IsNot (.v 2) (.k .none))) (BB:=fun ρ Q=>SW Phi reqF 26 lv [.app 1 (.idx (.v 2) (.k (.int 0))),.asg 2 (.call 25 [.v 0,.idx (.v 2) (.k (.int 1))])] ρ Q) hlv (fun _ _ _=>rfl) (fun _ _=>rfl) t hB (t.length+1) 0 [] (t.length+1) (by simp) (by simp) (Nat.zero_le _) (Nat.le_refl _) (fun ys v'=>h1 ys v') h2).2 e he
 cases hf:findR 0 t with
 |ok d=>
  simp only [rr_ok,sq_nxt,w_cons,w_whl]
  refine (main _ (fun ys v' hy=>?_) fun m q hy=>?_).1 d hf
  ·simp -dsimp only [↓sq_nxt,↓w_frz,List.getElem?_cons_succ,List.getElem?_cons_zero,at_o,↓w_ret,↓e_v,List.set_cons_succ,List.set_cons_zero,at_d,↓sq_ret,↓or_ret,hy]
  ·simp -dsimp only [↓sq_exc,↓or_exc,hy,exL]
 |exc e=>
  simp only [rr_exc,sq_exc,or_exc]
  refine (main (xq (OutR (match splM (t.length+1) t with
   | .ok xs => .ok (.list (xs.map sD))
   | .error p=>exL p.1 p.2))) (fun ys v' hy=>trivial) fun m q hy=>?_).2 e hf
  simp -dsimp only [xq,↓or_exc,hy,exL]
end
end Mine
end
section
open PySem PySem.W PyProof.Rows
namespace Mine
theorem ff_none:∀ {l:List Nat} {c:Nat},(∀ d ∈ l,d≠c)→findFirst l c = -1:=by
 intro l c h
 unfold findFirst
 rw [List.findIdx?_eq_none_iff.mpr fun x hx=>by simpa using h x hx]
theorem c_eqn {a b:Nat} {P:PyData→Prop}:CW .Eq (.int (a:Nat)) (.int (b:Nat)) P=P (.bool (decide (a=b))):=by
 show P (.bool (decide ((a:Int)=b)))=_
 rw [decide_eq_decide.mpr (by omega:(a:Int)=b↔a=b)]
theorem two_le:1+1≤lim:=by decide
theorem esc_r {d:Bool} {c:Nat} (h1:¬ c=12) (h2:¬ c=10) (h3:¬ c=13) (h4:¬ c=9) (h5:¬ c=11):escM d c=if c=93∨c=91∨c=36∨c=59∨c=32∨c=92∨c=34∨(d=true∧(c=123∨c=125)) then [92,c] else [c]:=by
 unfold escM
 rw [if_neg h1,if_neg h2,if_neg h3,if_neg h4,if_neg h5]
theorem mem7 {c a1 a2 a3 a4 a5 a6 a7:Nat}:S [c] ∈ [S [a1],S [a2],S [a3],S [a4],S [a5],S [a6],S [a7]]↔c=a1∨c=a2∨c=a3∨c=a4∨c=a5∨c=a6∨c=a7:=by
 simp only [List.mem_cons,S_inj,List.cons.injEq,and_true,List.not_mem_nil,or_false]
section
variable {p1 p2 p3 p4 p5 p6 p7 q:Prop}
theorem esc_l (h:p1∨p2∨p3∨p4∨p5∨p6∨p7):p1∨p2∨p3∨p4∨p5∨p6∨p7∨q:=
 h.imp_right (·.imp_right (·.imp_right (·.imp_right (·.imp_right (·.imp_right .inl)))))
theorem esc_n {c:Nat} (h:c=123∨c=125):p1∨p2∨p3∨p4∨p5∨p6∨p7∨(true=true∧(c=123∨c=125)) := .inr (.inr (.inr (.inr (.inr (.inr (.inr ⟨rfl,h⟩))))))
theorem esc_o (h:¬ (p1∨p2∨p3∨p4∨p5∨p6∨p7)) (hq:¬ q):¬ (p1∨p2∨p3∨p4∨p5∨p6∨p7∨q):=fun w=>
 h (w.imp_right (·.imp_right (·.imp_right (·.imp_right (·.imp_right (·.imp_right fun w=>w.resolve_right hq))))))
end
section
variable {lv:Nat} (hlv:1≤lv)
theorem p28 {c:Nat} {d:Bool}:SW Phi reqF 28 lv b_escaped [.d (.str (S [c])),.d (.bool d),.un] (OutR (.ok (sD (escM d c)))):=by
 by_cases h1:c=12
 ·subst h1
  refine byR [1] fun W=>W (decide_eq_true (by decide)) (by decide) _ rfl (by decide) ?_
  rfl
 by_cases h2:c=10
 ·subst h2
  refine byR [1] fun W=>W (decide_eq_true (by decide)) (by decide) _ rfl (by decide) ?_
  rfl
 by_cases h3:c=13
 ·subst h3
  refine byR [1] fun W=>W (decide_eq_true (by decide)) (by decide) _ rfl (by decide) ?_
  rfl
 by_cases h4:c=9
 ·subst h4
  refine byR [1] fun W=>W (decide_eq_true (by decide)) (by decide) _ rfl (by decide) ?_
  rfl
 by_cases h5:c=11
 ·subst h5
  refine byR [1] fun W=>W (decide_eq_true (by decide)) (by decide) _ rfl (by decide) ?_
  rfl
 have hff:¬ 0≤findFirst (S [12,10,13,9,11]).cps.toList c:=by
  rw [show findFirst (S [12,10,13,9,11]).cps.toList c = -1 from ff_none fun x hx=>by
   rcases List.mem_cons.mp hx with rfl |hx
   ·exact Ne.symm h1
   rcases List.mem_cons.mp hx with rfl |hx
   ·exact Ne.symm h2
   rcases List.mem_cons.mp hx with rfl |hx
   ·exact Ne.symm h3
   rcases List.mem_cons.mp hx with rfl |hx
   ·exact Ne.symm h4
   rw [List.mem_singleton.mp hx]
   exact Ne.symm h5]
  decide
 by_cases h6:c=93∨c=91∨c=36∨c=59∨c=32∨c=92∨c=34
 ·have m7:=mem7.mpr h6
  rw [esc_r h1 h2 h3 h4 h5,if_pos (esc_l h6)]
  refine byR [0,1,1] fun W=>W (decide_eq_false hff) (decide_eq_true m7) rfl two_le ?_
  rfl
 ·have m7:=mt mem7.mp h6
  rw [esc_r h1 h2 h3 h4 h5]
  cases d with
  |true=>
   by_cases h7:c=123∨c=125
   ·rw [if_pos (esc_n h7)]
    refine byR [0,0,1,1] fun W=>W (decide_eq_false hff) (decide_eq_false m7) rfl (decide_eq_true (mem2.mpr h7)) two_le ?_
    rfl
   ·rw [if_neg (esc_o h6 fun q=>h7 q.2)]
    refine byR [0,0,1,0] fun W=>W (decide_eq_false hff) (decide_eq_false m7) rfl (decide_eq_false (mt mem2.mp h7)) ?_
    rfl
  |false=>
   rw [if_neg (esc_o h6 fun q=>Bool.noConfusion q.1)]
   refine byR [0,0,0,0] fun W=>W (decide_eq_false hff) (decide_eq_false m7) rfl rfl ?_
   rfl
theorem l27 {T:Loc→(PyData→Prop)→(Exc→Prop)→Prop} {BB:Loc→(Out→Prop)→Prop} {Q:Out→Prop} (hlv:1≤lv)
  (eT:∀ ρ P E,T ρ P E=EW Phi reqF 27 lv (.cmp .Lt (.v 8) (.len (.v 0))) ρ P E)
  (eB:∀ ρ Q,BB ρ Q=SW Phi reqF 27 lv [.asg 9 (.idx (.v 0) (.v 8)),
    .aug 8 .add (.k (.int 1)),
    .ite (.cmp .Eq (.v 9) (.k (.str (S [123]))))
      [.aug 7 .add (.k (.int 1))]
      [.ite (.cmp .Eq (.v 9) (.k (.str (S [125]))))
         [.aug 7 .sub (.k (.int 1)),
          .ite (.cmp .Lt (.v 7) (.k (.int 0)))
            [.ret (.k (.str (S [101,115,99,97,112,101])))]
            []]
         [.ite (.cmp .In (.v 9) (.tup [.k (.str (S [93])),.k (.str (S [34]))]))
            [.asg 3 (.k (.bool true)),
             .asg 6 (.k (.bool true))]
            [.ite (.or [.cmp .In (.v 9) (.tup [.k (.str (S [91])),.k (.str (S [36])),.k (.str (S [59])),.k (.str (S [92]))]),.call 1 [.v 9]])
               [.asg 3 (.k (.bool true)),
                .asg 5 (.k (.bool true)),
                .ite (.cmp .Eq (.v 9) (.k (.str (S [92]))))
                  [.ite (.or [.cmp .Eq (.v 8) (.len (.v 0)),.cmp .Eq (.idx (.v 0) (.v 8)) (.k (.str (S [10])))])
                     [.ret (.k (.str (S [101,115,99,97,112,101])))]
                     [],
                   .ite (.cmp .In (.idx (.v 0) (.v 8)) (.tup [.k (.str (S [123])),.k (.str (S [125])),.k (.str (S [92]))]))
                     [.aug 8 .add (.k (.int 1))]
                     []]
                  []]
               []]]]] ρ Q) (t:List Nat) (hB:t.length≤B) (h:Bool) (b:PyData) (hs:Bool):∀ (n a:Nat) (s:MSt) (v:Val),(t.drop a).length<n→a≤t.length →
    (scan s (t.drop a)=none→Q (.ret (modeD .escape))) →
    (∀ s' v',scan s (t.drop a)=some s'→Q (.nxt [.d (.str (S t)),.d (.bool h),.d b,.d (.bool s'.bound),.d (.bool hs),.d (.bool s'.wb),.d (.bool s'.we),.d (.int (s'.depth:Nat)),.d (itD t.length),v'])) →
    loopW T BB Q n [.d (.str (S t)),.d (.bool h),.d b,.d (.bool s.bound),.d (.bool hs),.d (.bool s.wb),.d (.bool s.we),.d (.int (s.depth:Nat)),.d (.int (a:Nat)),v]:=by
 intro n
 induction n with
 |zero=>intro a s v h;exact (lin [_] [(1,0,.a (.v 0) (.n 1),.n 0)] rfl h).elim
 |succ n ih=>
  intro a s v hl ha hQ hR
  have f1:t.length≤lim:=lim_B hB
  cases hd:t.drop a with
  |nil=>
   have e:=dr_nil hd ha
   subst e
   rw [hd] at hR
   refine byT eT eB [0] fun W=>W f1 (decide_eq_false (mt Int.ofNat_lt.mp (Nat.lt_irrefl t.length))) ?_
   exact hR s v rfl
  |cons c r=>
   obtain ⟨g1,g2,g3,g4⟩:=dr hd
   have f3:a<lim:=lt_lim (by exact linL fun q=>lin [_,_,_] [(1,0,.v 0,.v 1),(1,0,.a (.v 2) (.n 1),.v 0),(1,0,.a (.v 1) (.n 1),.v 2)] rfl hB g2 q)
   rw [hd] at hQ hR hl
   simp only [List.length_cons] at hl
   have next:∀ (s':MSt) (v':Val),scan s (c::r)=scan s' r→loopW T BB Q n [.d (.str (S t)),.d (.bool h),.d b,.d (.bool s'.bound),.d (.bool hs),.d (.bool s'.wb),.d (.bool s'.we),.d (.int (s'.depth:Nat)),.d (.int (a+1:Nat)),v']:=fun s' v' e=>by
    refine ih (a+1) s' v' (by rw [g3];exact linT fun q=>lin [_,_] [(1,0,.a (.a (.v 0) (.n 1)) (.n 1),.a (.v 1) (.n 1)),(1,0,.v 1,.v 0)] rfl hl q) (by exact linL fun q=>lin [_,_] [(1,0,.a (.v 0) (.n 1),.v 1),(1,0,.a (.v 1) (.n 1),.a (.v 0) (.n 1))] rfl g2 q) ?_ ?_
    ·rw [g3,← e];exact hQ
    ·rw [g3,← e];exact hR
   by_cases h1:c=123
   ·subst h1
    refine byT eT eB [1,1] fun W=>W f1 (decide_eq_true (Int.ofNat_lt.mpr g2)) f3 _ g1 (decide_eq_true rfl) ?_
    exact next { s with depth:=s.depth+1 } _ (by rw [scan.eq_def];rfl)
   ·by_cases h2:c=125
    ·subst h2
     obtain ⟨dp,bo,wb,we⟩:=s
     cases dp with
     |zero=>
      refine byT eT eB [1,0,1,1] fun W=>W f1 (decide_eq_true (Int.ofNat_lt.mpr g2)) f3 _ g1 (decide_eq_false (by decide)) (decide_eq_true rfl) (decide_eq_true (Int.ofNat_le.mpr (by decide))) ?_
      exact hQ (by rw [scan.eq_def];rfl)
     |succ dp=>
      have i1:((dp+1:Nat):Int) - 1=(dp:Nat):=Int.add_sub_cancel (dp:Int) 1
      have i2:¬ ((dp+1:Nat):Int) - 1<0:=by rw [i1];exact Int.not_lt.mpr (Int.natCast_nonneg _)
      refine byT eT eB [1,0,1,0] fun W=>W f1 (decide_eq_true (Int.ofNat_lt.mpr g2)) f3 _ g1 (decide_eq_false (by decide)) (decide_eq_true rfl) (decide_eq_false i2) ?_
      show loopW T BB Q n [_,_,_,_,_,_,_,.d (.int (((dp+1:Nat):Int) - 1)),_,_]
      rw [i1]
      exact next ⟨dp,bo,wb,we⟩ _ (by conv=>lhs;rw [scan.eq_def]
                                     rfl)
    ·by_cases h3:c=93∨c=34
     ·refine byT eT eB [1,0,0,1] fun W=>W f1 (decide_eq_true (Int.ofNat_lt.mpr g2)) f3 _ g1 (decide_eq_false (mt one_eq.mp h1)) (decide_eq_false (mt one_eq.mp h2)) (decide_eq_true (mem2.mpr h3)) ?_
      exact next { s with bound:=true,we:=true } _ (by conv=>lhs;rw [scan.eq_def]
                                                       simp only [h1,h2,h3,if_true,if_false])
     ·by_cases h4:c=92
      ·subst h4
       have skip:∀ (e:Nat) (r':List Nat) (v':Val),r=e::r'→scan s (92::r)=scan { s with bound:=true,wb:=true } r'→loopW T BB Q n [.d (.str (S t)),.d (.bool h),.d b,.d (.bool true),.d (.bool hs),.d (.bool true),.d (.bool s.we),.d (.int (s.depth:Nat)),.d (.int (a+2:Nat)),v']:=fun e r' v' e1 e2=>by
        have g5:t.drop (a+2)=r':=by rw [show a+2=(a+1)+1 by exact linE (fun q=>lin [_] [(1,0,.a (.a (.a (.v 0) (.n 1)) (.n 1)) (.n 1),.a (.v 0) (.n 2))] rfl q) fun q=>lin [_] [(1,0,.a (.a (.v 0) (.n 2)) (.n 1),.a (.a (.v 0) (.n 1)) (.n 1))] rfl q,← List.drop_drop,g3,e1];rfl
        have e4:r.length=r'.length+1:=by rw [e1];rfl
        refine ih (a+2) { s with bound:=true,wb:=true } v' (by rw [g5];exact linT fun q=>lin [_,_,_] [(1,0,.a (.a (.v 0) (.n 1)) (.n 1),.a (.v 1) (.n 1)),(1,2,.v 0,.a (.v 2) (.n 1)),(1,0,.v 1,.v 2)] rfl hl e4 q) (by exact linL fun q=>lin [_,_,_,_] [(1,2,.v 0,.a (.a (.v 1) (.n 1)) (.v 2)),(1,2,.v 2,.a (.v 3) (.n 1)),(1,0,.a (.v 0) (.n 1),.a (.v 1) (.n 2))] rfl g4 e4 q) ?_ ?_
        ·rw [g5,← e2];exact hQ
        ·rw [g5,← e2];exact hR
       cases r with
       |nil=>
        have e:a+1=t.length:=by simpa using g4.symm
        have i5:(a:Int)+1=(t.length:Nat):=congrArg Int.ofNat e
        refine byT eT eB [1,0,0,0,1,1,1,1,1] fun W=>W f1 (decide_eq_true (Int.ofNat_lt.mpr g2)) f3 _ g1 (decide_eq_false (by decide)) (decide_eq_false (by decide)) (decide_eq_false (by decide)) (decide_eq_true (by decide)) rfl (decide_eq_true rfl) f1 (decide_eq_true i5) rfl ?_
        exact hQ (by rw [scan.eq_def];rfl)
       |cons e r'=>
        obtain ⟨q1,q2,q3,q4⟩:=dr g3
        have f5:¬ a+1=t.length:=by exact fun q=>lin [_,_] [(1,0,.a (.a (.v 0) (.n 1)) (.n 1),.v 1),(1,2,.a (.v 0) (.n 1),.v 1)] rfl q2 q
        have f6:a+1<lim:=lt_lim (by exact linL fun q=>lin [_,_,_] [(1,0,.v 0,.v 1),(1,0,.a (.a (.v 2) (.n 1)) (.n 1),.v 0),(1,0,.a (.v 1) (.n 1),.a (.v 2) (.n 1))] rfl hB q2 q)
        have i5:¬ (a:Int)+1=(t.length:Nat):=fun q=>f5 (Int.ofNat.inj q)
        by_cases h6:e=10
        ·subst h6
         refine byT eT eB [1,0,0,0,1,1,1,0,1] fun W=>W f1 (decide_eq_true (Int.ofNat_lt.mpr g2)) f3 _ g1 (decide_eq_false (by decide)) (decide_eq_false (by decide)) (decide_eq_false (by decide)) (decide_eq_true (by decide)) rfl (decide_eq_true rfl) f1 (decide_eq_false i5) f6 _ q1 (decide_eq_true rfl) ?_
         exact hQ (by rw [scan.eq_def];rfl)
        ·by_cases h7:e=123∨e=125∨e=92
         ·refine byT eT eB [1,0,0,0,1,1,1,0,0,1] fun W=>W f1 (decide_eq_true (Int.ofNat_lt.mpr g2)) f3 _ g1 (decide_eq_false (by decide)) (decide_eq_false (by decide)) (decide_eq_false (by decide)) (decide_eq_true (by decide)) rfl (decide_eq_true rfl) f1 (decide_eq_false i5) f6 _ q1 (decide_eq_false (mt one_eq.mp h6)) f6 _ q1 (decide_eq_true (mem3.mpr h7)) ?_
          exact skip e r' _ rfl (by conv=>lhs;rw [scan.eq_def]
                                    simp only [h6,h7,if_true,if_false]
                                    rfl)
         ·refine byT eT eB [1,0,0,0,1,1,1,0,0,0] fun W=>W f1 (decide_eq_true (Int.ofNat_lt.mpr g2)) f3 _ g1 (decide_eq_false (by decide)) (decide_eq_false (by decide)) (decide_eq_false (by decide)) (decide_eq_true (by decide)) rfl (decide_eq_true rfl) f1 (decide_eq_false i5) f6 _ q1 (decide_eq_false (mt one_eq.mp h6)) f6 _ q1 (decide_eq_false (mt mem3.mp h7)) ?_
          exact next { s with bound:=true,wb:=true } _ (by conv=>lhs;rw [scan.eq_def]
                                                           simp only [h6,h7,if_true,if_false]
                                                           rfl)
      ·by_cases h5:c=91∨c=36∨c=59
       ·have h5':c=91∨c=36∨c=59∨c=92:=by rcases h5 with h |h |h <;> simp [h]
        refine byT eT eB [1,0,0,0,1,1,0] fun W=>W f1 (decide_eq_true (Int.ofNat_lt.mpr g2)) f3 _ g1 (decide_eq_false (mt one_eq.mp h1)) (decide_eq_false (mt one_eq.mp h2)) (decide_eq_false (mt mem2.mp h3)) (decide_eq_true (mem4.mpr h5')) rfl (decide_eq_false (mt one_eq.mp h4)) ?_
        exact next { s with bound:=true,wb:=true } _ (by
         conv=>lhs;rw [scan.eq_def]
         have:c=91∨c=36∨c=59∨blank c=true:=by rcases h5 with h |h |h <;> simp [h]
         simp only [h1,h2,h3,h4,this,if_true,if_false])
       ·have h5':¬ (c=91∨c=36∨c=59∨c=92):=fun q=>by
         rcases q with q |q |q |q
         ·exact h5 (.inl q)
         ·exact h5 (.inr (.inl q))
         ·exact h5 (.inr (.inr q))
         ·exact h4 q
        cases hb:blank c with
        |true=>
         refine byT eT eB [1,0,0,0,0,1,0] fun W=>W f1 (decide_eq_true (Int.ofNat_lt.mpr g2)) f3 _ g1 (decide_eq_false (mt one_eq.mp h1)) (decide_eq_false (mt one_eq.mp h2)) (decide_eq_false (mt mem2.mp h3)) (decide_eq_false (mt mem4.mp h5')) (by decide) hlv _ (phi_of fun _=>k1) hb (decide_eq_false (mt one_eq.mp h4)) ?_
         exact next { s with bound:=true,wb:=true } _ (by
          conv=>lhs;rw [scan.eq_def]
          simp only [h1,h2,h3,h4,hb,or_true,if_true,if_false])
        |false=>
         refine byT eT eB [1,0,0,0,0,0] fun W=>W f1 (decide_eq_true (Int.ofNat_lt.mpr g2)) f3 _ g1 (decide_eq_false (mt one_eq.mp h1)) (decide_eq_false (mt one_eq.mp h2)) (decide_eq_false (mt mem2.mp h3)) (decide_eq_false (mt mem4.mp h5')) (by decide) hlv _ (phi_of fun _=>k1) hb ?_
         exact next s _ (by
          conv=>lhs;rw [scan.eq_def]
          have:¬ (c=91∨c=36∨c=59∨blank c=true):=fun q=>by
           rcases q with q |q |q |q
           ·exact h5 (.inl q)
           ·exact h5 (.inr (.inl q))
           ·exact h5 (.inr (.inr q))
           ·rw [hb] at q;cases q
          simp only [h1,h2,h3,h4,this,if_false])
noncomputable def b27:List PS:=b_mode_of.drop 7
noncomputable def modeF (hs:Bool):Option MSt→Mode
 |Option.none => .escape
 |some s=>if 0<s.depth then .escape else if s.bound=true then (if s.we=true∧s.wb=false then .mask else .brace) else if hs=true then .brace else .none
theorem p27b {t:List Nat} {h:Bool} {b:PyData} {bd hs wb:Bool} (hlv:1≤lv) (hB:t.length≤B):SW Phi reqF 27 lv b27 [.d (.str (S t)),.d (.bool h),.d b,.d (.bool bd),.d (.bool hs),.d (.bool wb),.d (.bool false),.d (.int 0),.d (.int 0),.un]
  (OutR (.ok (modeD (modeF hs (scan ⟨0,bd,wb,false⟩ t))))):=by
 unfold b27 b_mode_of
 simp only [List.drop_succ_cons,List.drop_zero]
 rw [w_cons,w_whl]
 refine wh_of ⟨t.length+1,fun T BB eT eB=>l27 hlv eT eB t hB h b hs _ 0 ⟨0,bd,wb,false⟩ .un (by simp) (Nat.zero_le _) (fun hn=>?_) fun s' v' hn=>?_⟩
 ·rw [List.drop_zero] at hn
  rw [hn]
  rfl
 ·rw [List.drop_zero] at hn
  rw [hn]
  obtain ⟨dp,bo,wb',we⟩:=s'
  show SW Phi reqF 27 lv (b27.drop 1) _ (OutR _)
  cases dp with
  |succ dp=>
   have i1:(0:Int)<(dp+1:Nat):=Int.ofNat_lt.mpr (Nat.succ_pos dp)
   refine byR [1] fun W=>W (decide_eq_true i1) ?_
   rfl
  |zero=>
   cases bo with
   |false=>
    cases hs with
    |false=>
     refine byR [0,0,0] fun W=>W rfl rfl rfl ?_
     rfl
    |true=>
     refine byR [0,0,1] fun W=>W rfl rfl rfl ?_
     rfl
   |true=>
    cases we with
    |false=>
     refine byR [0,1,0,0] fun W=>W rfl rfl rfl rfl ?_
     rfl
    |true=>
     cases wb' with
     |false=>
      refine byR [0,1,1,1] fun W=>W (decide_eq_false (by decide)) rfl rfl (congrArg not rfl) ?_
      rfl
     |true=>
      refine byR [0,1,1,0] fun W=>W (decide_eq_false (by decide)) rfl rfl (congrArg not rfl) ?_
      rfl
theorem p27 {t:List Nat} {h:Bool} (hlv:1≤lv) (hB:t.length≤B):SW Phi reqF 27 lv b_mode_of [.d (.str (S t)),.d (.bool h),.un,.un,.un,.un,.un,.un,.un,.un] (OutR (.ok (modeD (modeM t h)))):=by
 cases t with
 |nil=>
  refine byR [1] fun W=>W (decide_eq_true rfl) ?_
  rfl
 |cons c r=>
  have hb:decide (S [c] ∈ [S [123],S [34]])=(c == 123 || c == 34):=bool_eq (by simp [mem2])
  have hs:decide ([c]=[35])=(c == 35):=bool_eq (by simp)
  have key:∀ bd hs wb:Bool,bd=(c == 123 || c == 34)→hs=(h && c == 35)→wb=(bd || hs)→SW Phi reqF 27 lv b27 [.d (.str (S (c::r))),.d (.bool h),.d (.str (S [c])),.d (.bool bd),.d (.bool hs),.d (.bool wb),.d (.bool false),.d (.int 0),.d (.int 0),.un] (OutR (.ok (modeD (modeM (c::r) h)))):=fun bd hs wb e1 e2 e3=>by
   rw [e3,e1,e2]
   exact p27b hlv hB
  have g0:(c::r)[0]?=some c:=rfl
  have ne:¬ S (c::r)=S []:=fun q=>nomatch S_inj.mp q
  rcases Bool.eq_false_or_eq_true (decide (S [c] ∈ [S [123],S [34]])) with hd |hd
  ·cases h with
   |true=>
    refine byR [0,1,1] fun W=>W rfl (by decide) _ g0 rfl hd hlv ?_
    show SW Phi reqF 27 lv b27 _ (OutR _)
    exact key _ _ _ hb hs (by rw [hd];rfl)
   |false=>
    refine byR [0,0,1] fun W=>W rfl (by decide) _ g0 rfl hd hlv ?_
    show SW Phi reqF 27 lv b27 _ (OutR _)
    exact key _ _ _ hb rfl (by rw [hd];rfl)
  ·cases h with
   |true=>
    refine byR [0,1,0] fun W=>W rfl (by decide) _ g0 rfl hd hlv ?_
    show SW Phi reqF 27 lv b27 _ (OutR _)
    exact key _ _ _ hb hs (by rw [hd];rfl)
   |false=>
    refine byR [0,0,0] fun W=>W rfl (by decide) _ g0 rfl hd hlv ?_
    show SW Phi reqF 27 lv b27 _ (OutR _)
    exact key _ _ _ hb rfl (by rw [hd];rfl)
end
end Mine
end
section
open PySem PySem.W PyProof.Rows
namespace Mine
theorem hexRun_val:∀ (m v:Nat) (l:List Nat),v≤1114111→(hexRun m v l).1≤1114111
 |0,v,l,h=>h
 |m+1,v,[],h=>h
 |m+1,v,c::r,h=>by
  rw [hexRun]
  by_cases hc:v≤69631∧0≤dig c∧dig c≤15
  ·rw [if_pos hc];exact hexRun_val m _ r (Nat.add_le_add (Nat.mul_le_mul_right 16 hc.1) (Int.toNat_le.mpr hc.2.2))
  ·rw [if_neg hc];exact h
theorem octRun_val:∀ (m v:Nat) (l:List Nat),v≤1114111→(octRun m v l).1≤1114111
 |0,v,l,h=>h
 |m+1,v,[],h=>h
 |m+1,v,c::r,h=>by
  rw [octRun]
  by_cases hc:v<32∧0≤dig c∧dig c≤7
  ·rw [if_pos hc];exact octRun_val m _ r (Nat.le_trans (Nat.add_le_add (Nat.mul_le_mul_right 8 (Nat.le_of_lt hc.1)) (Int.toNat_le.mpr hc.2.2)) (by decide))
  ·rw [if_neg hc];exact h
section
variable {lv:Nat} (hlv:1≤lv)
include hlv in
theorem l3 {T:Loc→(PyData→Prop)→(Exc→Prop)→Prop} {BB:Loc→(Out→Prop)→Prop} {Q:Out→Prop} {at0:PyData} {most:Nat}
  (eT:∀ ρ P E,T ρ P E=EW Phi reqF 3 lv (.and [.cmp .Lt (.v 3) (.v 2),.cmp .Lt (.v 3) (.len (.v 0)),.cmp .LtE (.v 4) (.k (.int 69631))]) ρ P E)
  (eB:∀ ρ Q,BB ρ Q=SW Phi reqF 3 lv [.asg 5 (.call 2 [.idx (.v 0) (.v 3)]),
    .ite (.or [.cmp .Lt (.v 5) (.k (.int 0)),.cmp .Gt (.v 5) (.k (.int 15))])
      [.brk]
      [],
    .asg 4 (.bin .add (.bin .mul (.v 4) (.k (.int 16))) (.v 5)),
    .aug 3 .add (.k (.int 1))] ρ Q) (t:List Nat) (hB:t.length≤B):∀ (n m a v:Nat) (w:Val),m<n→a+m=most→a≤t.length →
    (∀ w',Q (.nxt [.d (.str (S t)),.d at0,.d (itD most),.d (itD (a+(hexRun m v (t.drop a)).2)),.d (itD (hexRun m v (t.drop a)).1),w'])) →
    loopW T BB Q n [.d (.str (S t)),.d at0,.d (itD most),.d (.int (a:Nat)),.d (.int (v:Nat)),w]:=by
 intro n
 induction n with
 |zero=>intro m a v w h;exact (lin [_] [(1,0,.a (.v 0) (.n 1),.n 0)] rfl h).elim
 |succ n ih=>
  intro m a v w h hm ha hQ
  have f1:t.length≤lim:=lim_B hB
  cases m with
  |zero=>
   have f2:¬ a<most:=by exact fun q=>lin [_,_] [(1,2,.a (.v 0) (.n 0),.v 1),(1,0,.a (.v 0) (.n 1),.v 1)] rfl hm q
   refine byT eT eB [0,0] fun W=>W (decide_eq_false (mt Int.ofNat_lt.mp f2)) rfl ?_
   exact hQ w
  |succ m=>
   have f2:a<most:=by exact linT fun q=>lin [_,_,_] [(1,1,.a (.v 0) (.a (.v 1) (.n 1)),.v 2),(1,0,.v 2,.v 0)] rfl hm q
   cases hd:t.drop a with
   |nil=>
    have e:=dr_nil hd ha
    have f3:¬ a<t.length:=by exact fun q=>lin [_,_] [(1,2,.v 0,.v 1),(1,0,.a (.v 0) (.n 1),.v 1)] rfl e q
    rw [hd] at hQ
    refine byT eT eB [1,0,0] fun W=>W (decide_eq_true (Int.ofNat_lt.mpr f2)) f1 (decide_eq_false (mt Int.ofNat_lt.mp f3)) rfl ?_
    exact hQ w
   |cons c r=>
    obtain ⟨g1,g2,g3,g4⟩:=dr hd
    have f3:a<lim:=lt_lim (by exact linL fun q=>lin [_,_,_] [(1,0,.v 0,.v 1),(1,0,.a (.v 2) (.n 1),.v 0),(1,0,.a (.v 1) (.n 1),.v 2)] rfl hB g2 q)
    rw [hd] at hQ
    by_cases hv:v≤69631
    ·have i3:(v:Int)≤69631:=Int.ofNat_le.mpr hv
     by_cases hc:0≤dig c∧dig c≤15
     ·have h1:¬ dig c<0:=Int.not_lt.mpr hc.1
      have h2:¬ 15<dig c:=Int.not_lt.mpr hc.2
      have e:(v:Int) * 16+dig c=(v * 16+(dig c).toNat:Nat):=congrArg ((v:Int) * 16 + ·) (Int.toNat_of_nonneg hc.1).symm
      have i4:(0:Int)≤v:=Int.natCast_nonneg _
      have i5:(v:Int)≤2 ^ 30:=Int.le_trans i3 (by decide)
      refine byT eT eB [1,1,1,0,0] fun W=>W (decide_eq_true (Int.ofNat_lt.mpr f2)) f1 (decide_eq_true (Int.ofNat_lt.mpr g2)) (decide_eq_true i3) f3 _ g1 (by decide) hlv _ (phi_of fun _=>k2) (decide_eq_false h1) (decide_eq_false h2) i4 i5 (by decide) (by decide) ?_
      rw [show hexRun (m+1) v (c::r)=((hexRun m (v * 16+(dig c).toNat) r).1,(hexRun m (v * 16+(dig c).toNat) r).2+1) by rw [hexRun,if_pos ⟨hv,hc⟩]] at hQ
      show loopW T BB Q n [_,_,_,.d (.int (a+1:Nat)),.d (.int ((v:Int) * 16+dig c)),_]
      rw [e]
      refine ih m (a+1) _ _ (Nat.lt_of_succ_lt_succ h) ((Nat.succ_add_eq_add_succ a m).trans hm) g2 fun w'=>?_
      rw [g3,Nat.succ_add_eq_add_succ a]
      exact hQ w'
     ·rw [show hexRun (m+1) v (c::r)=(v,0) by rw [hexRun,if_neg (fun q=>hc q.2)]] at hQ
      by_cases h2:dig c<0
      ·refine byT eT eB [1,1,1,1,1] fun W=>W (decide_eq_true (Int.ofNat_lt.mpr f2)) f1 (decide_eq_true (Int.ofNat_lt.mpr g2)) (decide_eq_true i3) f3 _ g1 (by decide) hlv _ (phi_of fun _=>k2) (decide_eq_true h2) rfl ?_
       exact hQ _
      ·have h3:15<dig c:=Int.not_le.mp fun q=>hc ⟨Int.not_lt.mp h2,q⟩
       refine byT eT eB [1,1,1,0,1] fun W=>W (decide_eq_true (Int.ofNat_lt.mpr f2)) f1 (decide_eq_true (Int.ofNat_lt.mpr g2)) (decide_eq_true i3) f3 _ g1 (by decide) hlv _ (phi_of fun _=>k2) (decide_eq_false h2) (decide_eq_true h3) ?_
       exact hQ _
    ·rw [show hexRun (m+1) v (c::r)=(v,0) by rw [hexRun,if_neg (fun q=>hv q.1)]] at hQ
     have i3:¬ (v:Int)≤69631:=mt Int.ofNat_le.mp hv
     refine byT eT eB [1,1,0] fun W=>W (decide_eq_true (Int.ofNat_lt.mpr f2)) f1 (decide_eq_true (Int.ofNat_lt.mpr g2)) (decide_eq_false i3) ?_
     exact hQ w
end
end Mine
end
section
open PySem PySem.W PyProof.Rows
namespace Mine
section
variable {lv:Nat} (hlv:1≤lv)
include hlv in
theorem l4 {T:Loc→(PyData→Prop)→(Exc→Prop)→Prop} {BB:Loc→(Out→Prop)→Prop} {Q:Out→Prop} {at0:Nat}
  (eT:∀ ρ P E,T ρ P E=EW Phi reqF 4 lv (.and [.cmp .Lt (.v 2) (.bin .add (.v 1) (.k (.int 3))),.cmp .Lt (.v 2) (.len (.v 0)),.cmp .Lt (.v 3) (.k (.int 32))]) ρ P E)
  (eB:∀ ρ Q,BB ρ Q=SW Phi reqF 4 lv [.asg 4 (.call 2 [.idx (.v 0) (.v 2)]),
    .ite (.or [.cmp .Lt (.v 4) (.k (.int 0)),.cmp .Gt (.v 4) (.k (.int 7))])
      [.brk]
      [],
    .asg 3 (.bin .add (.bin .mul (.v 3) (.k (.int 8))) (.v 4)),
    .aug 2 .add (.k (.int 1))] ρ Q) (t:List Nat) (hB:t.length≤B):∀ (n m a v:Nat) (w:Val),m<n→a+m=at0+3→a≤t.length →
    (∀ w',Q (.nxt [.d (.str (S t)),.d (itD at0),.d (itD (a+(octRun m v (t.drop a)).2)),.d (itD (octRun m v (t.drop a)).1),w'])) →
    loopW T BB Q n [.d (.str (S t)),.d (itD at0),.d (.int (a:Nat)),.d (.int (v:Nat)),w]:=by
 intro n
 induction n with
 |zero=>intro m a v w h;exact (lin [_] [(1,0,.a (.v 0) (.n 1),.n 0)] rfl h).elim
 |succ n ih=>
  intro m a v w h hm ha hQ
  have f1:t.length≤lim:=lim_B hB
  cases m with
  |zero=>
   have f2:¬ a<at0+3:=by exact fun q=>lin [_,_] [(1,2,.a (.v 0) (.n 0),.a (.v 1) (.n 3)),(1,0,.a (.v 0) (.n 1),.a (.v 1) (.n 3))] rfl hm q
   have i2:¬ (a:Int)<(at0:Int)+3:=mt Int.ofNat_lt.mp f2
   refine byT eT eB [0,0] fun W=>W (decide_eq_false i2) rfl ?_
   exact hQ w
  |succ m=>
   have f2:a<at0+3:=by exact linT fun q=>lin [_,_,_] [(1,1,.a (.v 0) (.a (.v 1) (.n 1)),.a (.v 2) (.n 3)),(1,0,.a (.v 2) (.n 3),.v 0)] rfl hm q
   have i2:(a:Int)<(at0:Int)+3:=Int.ofNat_lt.mpr f2
   cases hd:t.drop a with
   |nil=>
    have e:=dr_nil hd ha
    have f3:¬ a<t.length:=by exact fun q=>lin [_,_] [(1,2,.v 0,.v 1),(1,0,.a (.v 0) (.n 1),.v 1)] rfl e q
    rw [hd] at hQ
    refine byT eT eB [1,0,0] fun W=>W (decide_eq_true i2) f1 (decide_eq_false (mt Int.ofNat_lt.mp f3)) rfl ?_
    exact hQ w
   |cons c r=>
    obtain ⟨g1,g2,g3,g4⟩:=dr hd
    have f3:a<lim:=lt_lim (by exact linL fun q=>lin [_,_,_] [(1,0,.v 0,.v 1),(1,0,.a (.v 2) (.n 1),.v 0),(1,0,.a (.v 1) (.n 1),.v 2)] rfl hB g2 q)
    rw [hd] at hQ
    by_cases hv:v<32
    ·have i3:(v:Int)<32:=Int.ofNat_lt.mpr hv
     by_cases hc:0≤dig c∧dig c≤7
     ·have h1:¬ dig c<0:=Int.not_lt.mpr hc.1
      have h2:¬ 7<dig c:=Int.not_lt.mpr hc.2
      have e:(v:Int) * 8+dig c=(v * 8+(dig c).toNat:Nat):=congrArg ((v:Int) * 8 + ·) (Int.toNat_of_nonneg hc.1).symm
      have i4:(0:Int)≤v:=Int.natCast_nonneg _
      have i5:(v:Int)≤2 ^ 30:=Int.le_of_lt (Int.lt_of_lt_of_le i3 (by decide))
      refine byT eT eB [1,1,1,0,0] fun W=>W (decide_eq_true i2) f1 (decide_eq_true (Int.ofNat_lt.mpr g2)) (decide_eq_true i3) f3 _ g1 (by decide) hlv _ (phi_of fun _=>k2) (decide_eq_false h1) (decide_eq_false h2) i4 i5 (by decide) (by decide) ?_
      rw [show octRun (m+1) v (c::r)=((octRun m (v * 8+(dig c).toNat) r).1,(octRun m (v * 8+(dig c).toNat) r).2+1) by rw [octRun,if_pos ⟨hv,hc⟩]] at hQ
      show loopW T BB Q n [_,_,.d (.int (a+1:Nat)),.d (.int ((v:Int) * 8+dig c)),_]
      rw [e]
      refine ih m (a+1) _ _ (Nat.lt_of_succ_lt_succ h) ((Nat.succ_add_eq_add_succ a m).trans hm) g2 fun w'=>?_
      rw [g3,Nat.succ_add_eq_add_succ a]
      exact hQ w'
     ·rw [show octRun (m+1) v (c::r)=(v,0) by rw [octRun,if_neg (fun q=>hc q.2)]] at hQ
      by_cases h2:dig c<0
      ·refine byT eT eB [1,1,1,1,1] fun W=>W (decide_eq_true i2) f1 (decide_eq_true (Int.ofNat_lt.mpr g2)) (decide_eq_true i3) f3 _ g1 (by decide) hlv _ (phi_of fun _=>k2) (decide_eq_true h2) rfl ?_
       exact hQ _
      ·have h3:7<dig c:=Int.not_le.mp fun q=>hc ⟨Int.not_lt.mp h2,q⟩
       refine byT eT eB [1,1,1,0,1] fun W=>W (decide_eq_true i2) f1 (decide_eq_true (Int.ofNat_lt.mpr g2)) (decide_eq_true i3) f3 _ g1 (by decide) hlv _ (phi_of fun _=>k2) (decide_eq_false h2) (decide_eq_true h3) ?_
       exact hQ _
    ·rw [show octRun (m+1) v (c::r)=(v,0) by rw [octRun,if_neg (fun q=>hv q.1)]] at hQ
     have i3:¬ (v:Int)<32:=mt Int.ofNat_lt.mp hv
     refine byT eT eB [1,1,0] fun W=>W (decide_eq_true i2) f1 (decide_eq_true (Int.ofNat_lt.mpr g2)) (decide_eq_false i3) ?_
     exact hQ w
include hlv in
theorem p4 {t:List Nat} {a:Nat} (hB:t.length≤B) (ha:a≤t.length):SW Phi reqF 4 lv b_octal_sign [.d (.str (S t)),.d (.int (a:Nat)),.un,.un,.un] (OutR (.ok (.tuple [sD (octM (t.drop a)).1,itD (a+(octM (t.drop a)).2)]))):=by
 unfold b_octal_sign
 simp -dsimp only [↓w_cons,↓w_asg,↓e_v,List.getElem?_cons_succ,List.getElem?_cons_zero,at_d,↓sq_nxt,↓e_k,↓w_whl,List.set_cons_succ,List.set_cons_zero]
 refine wh_of ⟨4,fun T BB eT eB=>l4 (at0:=a) hlv eT eB t hB 4 3 a 0 .un (by exact linT fun q=>lin [] [(1,0,.n 4,.n 3)] rfl q) (by exact linE (fun q=>lin [_] [(1,0,.a (.a (.v 0) (.n 3)) (.n 1),.a (.v 0) (.n 3))] rfl q) fun q=>lin [_] [(1,0,.a (.a (.v 0) (.n 3)) (.n 1),.a (.v 0) (.n 3))] rfl q) ha fun w'=>?_⟩
 have hv:=octRun_val 3 0 (t.drop a) (by exact linL fun q=>lin [] [(1,0,.a (.n 1114111) (.n 1),.n 0)] rfl q)
 simp -dsimp only [↓sq_nxt,↓w_cons,↓w_ret,↓e_tup,↓es_cons,↓e_chr,↓e_v,List.getElem?_cons_succ,List.getElem?_cons_zero,at_d,b_int,Int.toNat_natCast,↓es_nil,↓sq_ret,↓or_ret,octM,and_true]
 omega
theorem cut_0 {t:List Nat} {a:Nat} (h:t.drop a=[]):cut t (some a) (some (a+1))=[]:=by
 show (t.drop a).take (a+1 - a)=_;rw [h,List.take_nil]
theorem cut_1 {t:List Nat} {a c:Nat} {r:List Nat} (h:t.drop a=c::r):cut t (some a) (some (a+1))=[c]:=by
 show (t.drop a).take (a+1 - a)=_;rw [h,Nat.add_sub_cancel_left];rfl
theorem cut_2 {t:List Nat} {a c:Nat} {r:List Nat} (h:t.drop (a+1)=c::r):cut t (some (a+1)) (some (a+2))=[c]:=cut_1 h
theorem eqn1 {a b:Nat} {P:PyData→Prop}:CW .Eq (.int (a:Nat)) (.int (b:Nat)) P=P (.bool (decide (a=b))):=c_eqn
noncomputable def b3:List PS:=b_hex_sign.drop 2
theorem hex_split:b_hex_sign = .asg 2 (.bin .add (.v 1) (.k (.int 3))) ::
  .ite (.cmp .Eq (.idx (.v 0) (.v 1)) (.k (.str (S [117]))))
    [.asg 2 (.bin .add (.v 1) (.k (.int 5)))]
    [.ite (.cmp .Eq (.idx (.v 0) (.v 1)) (.k (.str (S [85]))))
       [.asg 2 (.bin .add (.v 1) (.k (.int 9)))]
       []]::b3:=rfl
include hlv in
theorem p3b {t:List Nat} {a c:Nat} {r:List Nat} (hB:t.length≤B) (hd:t.drop a=c::r):SW Phi reqF 3 lv b3 [.d (.str (S t)),.d (.int (a:Nat)),.d (.int (a+1+hexMost c:Nat)),.un,.un,.un] (OutR (.ok (.tuple [sD (hexM c r).1,itD (a+(hexM c r).2)]))):=by
 obtain ⟨g1,g2,g3,g4⟩:=dr hd
 unfold b3 b_hex_sign
 simp only [List.drop_succ_cons,List.drop_zero]
 simp -dsimp only [↓w_cons,↓w_asg,↓e_bin,↓e_v,List.getElem?_cons_succ,List.getElem?_cons_zero,at_d,↓e_k,a_1,↓sq_nxt,↓w_whl,List.set_cons_succ,List.set_cons_zero]
 refine wh_of ⟨hexMost c+1,fun T BB eT eB=>l3 (at0:=itD a) (most:=a+1+hexMost c) hlv eT eB t hB _ (hexMost c) (a+1) 0 .un (by exact linT fun q=>lin [_] [(1,0,.a (.v 0) (.n 1),.v 0)] rfl q) rfl (by exact linL fun q=>lin [_,_] [(1,0,.a (.v 0) (.n 1),.v 1),(1,0,.a (.v 1) (.n 1),.a (.v 0) (.n 1))] rfl g2 q) fun w'=>?_⟩
 rw [g3]
 have hv:=hexRun_val (hexMost c) 0 r (by exact linL fun q=>lin [] [(1,0,.a (.n 1114111) (.n 1),.n 0)] rfl q)
 have f3:a<lim:=lt_lim (by exact linL fun q=>lin [_,_,_] [(1,0,.v 0,.v 1),(1,0,.a (.v 2) (.n 1),.v 0),(1,0,.a (.v 1) (.n 1),.v 2)] rfl hB g2 q)
 by_cases h0:(hexRun (hexMost c) 0 r).2=0
 ·simp -dsimp only [↓sq_nxt,↓w_cons,↓w_ite,↓e_cmp,↓e_v,h0,Nat.add_zero,List.getElem?_cons_succ,List.getElem?_cons_zero,at_d,↓e_bin,↓e_k,a_1,eqn1,b_bool,decide_eq_true_eq,↓iteT,↓w_ret,↓e_tup,↓es_cons,↓e_idx,i_s,f3,↓gd,g1,ex_some,↓es_nil,↓sq_ret,↓or_ret,hexM,if_true]
 ·have h1:¬ a+1+(hexRun (hexMost c) 0 r).2=a+1:=fun q=>h0 (Nat.add_left_cancel (q.trans (Nat.add_zero _).symm))
  simp -dsimp only [↓sq_nxt,↓w_cons,↓w_ite,↓e_cmp,↓e_v,List.getElem?_cons_succ,List.getElem?_cons_zero,at_d,↓e_bin,↓e_k,a_1,eqn1,h1,b_bool,decide_eq_true_eq,↓w_ret,↓e_tup,↓es_cons,↓e_idx,i_s,gd',↓w_nil,↓e_chr,b_int,Int.toNat_natCast,↓es_nil,↓sq_ret,↓or_ret,hexM,h0,if_false]
  exact ⟨Int.natCast_nonneg _,by exact linL fun q=>lin [_] [(1,0,.v 0,.n 1114111),(1,0,.a (.n 1114111) (.n 1),.v 0)] rfl hv q,by rw [Nat.add_assoc]⟩
include hlv in
theorem p3 {t:List Nat} {a c:Nat} {r:List Nat} (hB:t.length≤B) (hd:t.drop a=c::r) (hc:c=120∨c=117∨c=85):SW Phi reqF 3 lv b_hex_sign [.d (.str (S t)),.d (.int (a:Nat)),.un,.un,.un,.un] (OutR (.ok (.tuple [sD (hexM c r).1,itD (a+(hexM c r).2)]))):=by
 obtain ⟨g1,g2,g3,g4⟩:=dr hd
 have f3:a<lim:=lt_lim (by exact linL fun q=>lin [_,_,_] [(1,0,.v 0,.v 1),(1,0,.a (.v 2) (.n 1),.v 0),(1,0,.a (.v 1) (.n 1),.v 2)] rfl hB g2 q)
 have q:=p3b hlv hB hd
 rw [hex_split]
 by_cases h1:c=117
 ·subst h1
  refine byR [1] fun W=>W f3 _ g1 (decide_eq_true rfl) ?_
  exact q
 ·by_cases h2:c=85
  ·subst h2
   refine byR [0,1] fun W=>W f3 _ g1 (decide_eq_false (by decide)) f3 _ g1 (decide_eq_true rfl) ?_
   exact q
  ·refine byR [0,0] fun W=>W f3 _ g1 (decide_eq_false (mt one_eq.mp h1)) f3 _ g1 (decide_eq_false (mt one_eq.mp h2)) ?_
   have e:hexMost c=2:=by unfold hexMost;rw [if_neg h1,if_neg h2]
   rw [e] at q
   exact q
theorem l5 (hlv:1≤lv) {T:Loc→(PyData→Prop)→(Exc→Prop)→Prop} {BB:Loc→(Out→Prop)→Prop} {Q:Out→Prop} {v1 v2 v3:Val}
  (eT:∀ ρ P E,T ρ P E=EW Phi reqF 5 lv (.cmp .In (.sl (.v 0) (some (.v 4)) (some (.bin .add (.v 4) (.k (.int 1))))) (.tup [.k (.str (S [32])),.k (.str (S [9]))])) ρ P E)
  (eB:∀ ρ Q,BB ρ Q=SW Phi reqF 5 lv [.aug 4 .add (.k (.int 1))] ρ Q) (t:List Nat) (hB:t.length≤B):∀ (n a:Nat),(t.drop a).length<n →
    Q (.nxt [.d (.str (S t)),v1,v2,v3,.d (itD (a+sptab (t.drop a)))])→loopW T BB Q n [.d (.str (S t)),v1,v2,v3,.d (.int (a:Nat))]:=by
 intro n
 induction n with
 |zero=>intro a h;exact (lin [_] [(1,0,.a (.v 0) (.n 1),.n 0)] rfl h).elim
 |succ n ih=>
  intro a h hQ
  have f1:t.length≤lim:=lim_B hB
  cases hd:t.drop a with
  |nil=>
   rw [hd] at hQ
   have i1:¬ S (cut t (some a) (some (a+1))) ∈ [S [32],S [9]]:=by rw [cut_0 hd];decide
   refine byT eT eB [0] fun W=>W f1 (decide_eq_false i1) ?_
   exact hQ
  |cons c r=>
   obtain ⟨g1,g2,g3,g4⟩:=dr hd
   rw [hd] at hQ h
   simp only [List.length_cons] at h
   by_cases hc:c=32∨c=9
   ·have i1:S (cut t (some a) (some (a+1))) ∈ [S [32],S [9]]:=by rw [cut_1 hd];exact mem2.mpr hc
    refine byT eT eB [1] fun W=>W f1 (decide_eq_true i1) ?_
    refine ih (a+1) (by rw [g3];exact linT fun q=>lin [_,_] [(1,0,.a (.a (.v 0) (.n 1)) (.n 1),.a (.v 1) (.n 1)),(1,0,.v 1,.v 0)] rfl h q) ?_
    rw [g3,Nat.add_assoc]
    rw [sptab,if_pos hc] at hQ
    exact hQ
   ·have i1:¬ S (cut t (some a) (some (a+1))) ∈ [S [32],S [9]]:=by rw [cut_1 hd];exact mt mem2.mp hc
    refine byT eT eB [0] fun W=>W f1 (decide_eq_false i1) ?_
    rw [sptab,if_neg hc] at hQ
    exact hQ
theorem by_asg {k i:Nat} {e:PE} {s:List PS} {ρ:Loc} {Q:Out→Prop} {d:PyData} (h:∀ (P:PyData→Prop) (E:Exc→Prop),P d→PE.wp Phi reqF k lv e ρ P E) (g:PS.wps Phi reqF k lv s (ρ.set i (.d d)) Q):PS.wps Phi reqF k lv (.asg i e::s) ρ Q:=h _ _ g
theorem p5h {t:List Nat} {a c:Nat} {r:List Nat} (f1:t.length≤lim) (hc:t.drop (a+1)=c::r) {d:Int} (h:findFirst [97,98,102,110,114,116,118] c=d) {Q:Out→Prop}
  (q:SW Phi reqF 5 lv (b_backslash.drop 3) [.d (.str (S t)),.d (.int (a:Nat)),.d (.str (S [c])),.d (.int d),.un] Q):SW Phi reqF 5 lv b_backslash [.d (.str (S t)),.d (.int (a:Nat)),.un,.un,.un] Q:=by
 rw [← h] at q
 refine by_asg (d := .str (S [c])) (fun P E p=>?_) ?_
 ·refine ⟨f1,?_⟩
  show P (.str (S (cut t (some (a+1)) (some (a+2)))))
  rw [cut_2 hc];exact p
 ·exact q
theorem oct_mem {c:Nat}:48≤c∧c≤55↔S [c] ∈ [S [48],S [49],S [50],S [51],S [52],S [53],S [54],S [55]]:=by
 have k:∀ d,d<8→48+d ∈ [48,49,50,51,52,53,54,55]:=by decide
 have e:S [c] ∈ [S [48],S [49],S [50],S [51],S [52],S [53],S [54],S [55]]↔c ∈ [48,49,50,51,52,53,54,55]:=by simp only [List.mem_cons,S_inj,List.cons.injEq,and_true,List.not_mem_nil,or_false]
 refine Iff.trans ⟨fun h=>?_,fun h=>?_⟩ e.symm
 ·exact Nat.add_sub_cancel' h.1▸k (c - 48) (Nat.sub_lt_left_of_lt_add h.1 (Nat.lt_succ_of_le h.2))
 ·have k':∀ x ∈ [48,49,50,51,52,53,54,55],48≤x∧x≤55:=by decide
  exact k' c h
set_option tactic.hygienic true in
include hlv in
theorem p5 {t:List Nat} {a:Nat} {r:List Nat} (hB:t.length≤B) (hd:t.drop a=92::r):SW Phi reqF 5 lv b_backslash [.d (.str (S t)),.d (.int (a:Nat)),.un,.un,.un] (OutR (.ok (.tuple [sD (bsl r).1,itD (a+(bsl r).2)]))):=by
 obtain ⟨g1,g2,g3,g4⟩:=dr hd
 have f1:t.length≤lim:=lim_B hB
 cases r with
 |nil=>
  refine by_asg (d := .str (S [])) (fun P E p=>?_) ?_
  ·refine ⟨f1,?_⟩
   show P (.str (S (cut t (some (a+1)) (some (a+1+1)))))
   rw [cut_0 g3];exact p
  ·refine byR [1] fun W=>W (decide_eq_true rfl) ?_
   rfl
 |cons c r=>
  obtain ⟨q1,q2,q3,q4⟩:=dr g3
  have key:∀ (k e:Nat),findFirst [97,98,102,110,114,116,118] c=((k:Nat):Int)→([7,8,12,10,13,9,11]:List Nat)[k]?=some e→k<lim→bsl (c::r)=([e],2)→SW Phi reqF 5 lv b_backslash [.d (.str (S t)),.d (.int (a:Nat)),.un,.un,.un] (OutR (.ok (.tuple [sD (bsl (c::r)).1,itD (a+(bsl (c::r)).2)]))):=fun k e h1 h2 h3 h4=>by
   refine p5h f1 g3 h1 ?_
   have i1:(0:Int)≤(k:Nat):=Int.natCast_nonneg _
   rw [h4]
   refine byR [1] fun W=>W (decide_eq_true i1) h3 _ h2 ?_
   rfl
  have fin:findFirst [97,98,102,110,114,116,118] c = -1→escOf c=none→SW Phi reqF 5 lv b_backslash [.d (.str (S t)),.d (.int (a:Nat)),.un,.un,.un] (OutR (.ok (.tuple [sD (bsl (c::r)).1,itD (a+(bsl (c::r)).2)]))):=fun hff he=>by
   refine p5h f1 g3 hff ?_
   have i1:¬ (0:Int) ≤ -1:=by decide
   rw [bsl,he]
   dsimp only
   by_cases h10:c=10
   ·subst h10
    rw [if_pos rfl]
    refine byR [0,1] fun W=>W (decide_eq_false i1) (decide_eq_true rfl) ?_
    refine wh_of ⟨(t.drop (a+2)).length+1,fun T BB eT eB=>l5 hlv eT eB t hB _ (a+2) (Nat.lt_succ_self _) ?_⟩
    rw [q3,Nat.add_assoc]
    exact rfl
   ·rw [if_neg h10]
    by_cases hx:c=120∨c=117∨c=85
    ·rw [if_pos hx]
     have k3':∀ K,KW (Phi 3 [.str (S t),.int ((a:Int)+1)]) K=K (.ok (.tuple [sD (hexM c r).1,itD (a+1+(hexM c r).2)])):=fun K=>k3 (K:=K) (t:=t) (a:=a+1) hB (Nat.le_of_lt q2) g3 hx
     refine byR [0,0,1] fun W=>W (decide_eq_false i1) (decide_eq_false (mt one_eq.mp h10)) (decide_eq_true (mem3.mpr hx)) (by decide) hlv _ (phi_of k3') ?_
     rw [Nat.add_assoc];rfl
    ·rw [if_neg hx]
     by_cases ho:48≤c∧c≤55
     ·rw [if_pos ho]
      have ho':=oct_mem.mp ho
      have k4':∀ K,KW (Phi 4 [.str (S t),.int ((a:Int)+1)]) K=K (.ok (.tuple [sD (octM (t.drop (a+1))).1,itD (a+1+(octM (t.drop (a+1))).2)])):=fun K=>k4 (K:=K) (t:=t) (a:=a+1) hB (Nat.le_of_lt q2)
      refine byR [0,0,0,1] fun W=>W (decide_eq_false i1) (decide_eq_false (mt one_eq.mp h10)) (decide_eq_false (mt mem3.mp hx)) (decide_eq_true ho') (by decide) hlv _ (phi_of k4') ?_
      rw [g3,Nat.add_assoc];rfl
     ·rw [if_neg ho]
      have ho':=mt oct_mem.mpr ho
      refine byR [0,0,0,0] fun W=>W (decide_eq_false i1) (decide_eq_false (mt one_eq.mp h10)) (decide_eq_false (mt mem3.mp hx)) (decide_eq_false ho') ?_
      rfl
  by_cases h1:c=97
  ·subst h1;exact key 0 7 rfl rfl (by decide) rfl
  by_cases h2:c=98
  ·subst h2;exact key 1 8 rfl rfl (by decide) rfl
  by_cases h3:c=102
  ·subst h3;exact key 2 12 rfl rfl (by decide) rfl
  by_cases h4:c=110
  ·subst h4;exact key 3 10 rfl rfl (by decide) rfl
  by_cases h5:c=114
  ·subst h5;exact key 4 13 rfl rfl (by decide) rfl
  by_cases h6:c=116
  ·subst h6;exact key 5 9 rfl rfl (by decide) rfl
  by_cases h7:c=118
  ·subst h7;exact key 6 11 rfl rfl (by decide) rfl
  refine fin (ff_none fun x hx=>?_) ?_
  ·simp only [List.mem_cons,List.not_mem_nil,or_false] at hx
   rcases hx with rfl |rfl |rfl |rfl |rfl |rfl |rfl <;> exact Ne.symm ‹_›
  ·rw [escOf,if_neg h1,if_neg h2,if_neg h3,if_neg h4,if_neg h5,if_neg h6,if_neg h7]
end
end Mine
end
section
open PySem PySem.W PyProof.Rows
namespace Mine
theorem seg_app {t:List Nat} {b a k:Nat} (h:b≤a) (hk:a+k≤t.length):(t.drop b).take (a+k - b)=(t.drop b).take (a - b)++(t.drop a).take k:=by
 rw [show a+k - b=(a - b)+k by exact linE (fun q=>lin [_,_,_,_,_] [(1,1,.a (.v 0) (.v 1),.a (.v 2) (.v 3)),(1,2,.a (.v 4) (.v 1),.v 2),(1,0,.a (.a (.v 4) (.v 3)) (.n 1),.v 0)] rfl (Nat.sub_add_cancel (linL fun q=>lin [_,_,_] [(1,0,.v 0,.v 1),(1,0,.a (.a (.v 1) (.v 2)) (.n 1),.v 0)] rfl h q)) (Nat.sub_add_cancel (linL fun q=>lin [_,_] [(1,0,.v 0,.v 1),(1,0,.a (.v 1) (.n 1),.v 0)] rfl h q)) q) fun q=>lin [_,_,_,_,_] [(1,2,.a (.v 0) (.v 1),.a (.v 2) (.v 3)),(1,1,.a (.v 4) (.v 1),.v 2),(1,0,.a (.v 0) (.n 1),.a (.v 4) (.v 3))] rfl (Nat.sub_add_cancel (linL fun q=>lin [_,_,_] [(1,0,.v 0,.v 1),(1,0,.a (.a (.v 1) (.v 2)) (.n 1),.v 0)] rfl h q)) (Nat.sub_add_cancel (linL fun q=>lin [_,_] [(1,0,.v 0,.v 1),(1,0,.a (.v 1) (.n 1),.v 0)] rfl h q)) q,List.take_add,List.drop_drop,show b+(a - b)=a by exact linE (fun q=>lin [_,_,_] [(1,1,.a (.v 0) (.v 1),.v 2),(1,0,.a (.v 2) (.n 1),.a (.v 1) (.v 0))] rfl (Nat.sub_add_cancel (linL fun q=>lin [_,_] [(1,0,.v 0,.v 1),(1,0,.a (.v 1) (.n 1),.v 0)] rfl h q)) q) fun q=>lin [_,_,_] [(1,2,.a (.v 0) (.v 1),.v 2),(1,0,.a (.a (.v 1) (.v 0)) (.n 1),.v 2)] rfl (Nat.sub_add_cancel (linL fun q=>lin [_,_] [(1,0,.v 0,.v 1),(1,0,.a (.v 1) (.n 1),.v 0)] rfl h q)) q]
theorem brc_sk {d:Nat}:∀ (r:List Nat),brc d true r=(brc d false (r.drop (sptab r))).map fun p=>(p.1,p.2+sptab r)
 | []=>by simp [brc]
 |c::r=>by
  by_cases hc:c=32∨c=9
  ·have e:sptab (c::r)=sptab r+1:=by rw [sptab,if_pos hc];exact linE (fun q=>lin [_] [(1,0,.a (.a (.v 0) (.n 1)) (.n 1),.a (.n 1) (.v 0))] rfl q) fun q=>lin [_] [(1,0,.a (.a (.n 1) (.v 0)) (.n 1),.a (.v 0) (.n 1))] rfl q
   rw [e,List.drop_succ_cons]
   conv=>lhs;rw [brc.eq_def]
   simp only [hc,and_self,if_true]
   rw [brc_sk r,Option.map_map]
   rfl
  ·have e:sptab (c::r)=0:=by rw [sptab,if_neg hc]
   rw [e,List.drop_zero]
   conv=>lhs;rw [brc.eq_def]
   conv=>rhs;rw [brc.eq_def]
   simp only [hc,and_false,if_false,Bool.false_eq_true,false_and,Nat.add_zero]
   simp
noncomputable def ordB (c:Nat):Bool:=!(c == 123) && !(c == 125) && !(c == 92)
noncomputable def runB:List Nat→Nat
 | []=>0
 |c::r=>if ordB c=true then 1+runB r else 0
theorem runB_le:∀ (l:List Nat),runB l≤l.length
 | []=>Nat.le_refl _
 |c::r=>by
  unfold runB
  have:=runB_le r
  split <;> simp only [List.length_cons] <;> (first |exact linL fun q=>lin [_,_] [(1,0,.v 0,.v 1),(1,0,.a (.a (.v 1) (.n 1)) (.n 1),.a (.n 1) (.v 0))] rfl this q |exact linL fun q=>lin [_] [(1,0,.a (.a (.v 0) (.n 1)) (.n 1),.n 0)] rfl q)
theorem brc_run {d:Nat}:∀ (l:List Nat),brc d false l=(brc d false (l.drop (runB l))).map fun p=>(l.take (runB l)++p.1,p.2+runB l)
 | []=>by simp [brc]
 |c::r=>by
  by_cases hc:ordB c=true
  ·have e:runB (c::r)=runB r+1:=by rw [runB,if_pos hc];exact linE (fun q=>lin [_] [(1,0,.a (.a (.v 0) (.n 1)) (.n 1),.a (.n 1) (.v 0))] rfl q) fun q=>lin [_] [(1,0,.a (.a (.n 1) (.v 0)) (.n 1),.a (.v 0) (.n 1))] rfl q
   have h1:c≠123:=fun q=>by rw [q] at hc;cases hc
   have h2:c≠125:=fun q=>by rw [q] at hc;cases hc
   have h3:c≠92:=fun q=>by rw [q] at hc;cases hc
   rw [e,List.drop_succ_cons,List.take_succ_cons]
   conv=>lhs;rw [brc.eq_def]
   simp only [h1,h2,h3,if_false,Bool.false_eq_true,false_and]
   rw [brc_run r,Option.map_map]
   rfl
  ·have e:runB (c::r)=0:=by rw [runB,if_neg hc]
   rw [e,List.drop_zero,List.take_zero]
   simp
theorem brc_fact:∀ (n d:Nat) (sk:Bool) (l:List Nat) (p:List Nat × Nat),l.length≤n→brc d sk l=some p→p.1.length+1≤p.2∧p.2≤l.length
 |_,_,_,[],p,_,h=>by simp [brc] at h
 |0,_,_,c::r,p,hn,_=>by simp at hn
 |n+1,d,sk,c::r,p,hn,h=>by
  have hr:r.length≤n:=by simpa using hn
  rw [brc.eq_def] at h
  dsimp only at h
  have one:∀ (d':Nat) (sk':Bool) (f:List Nat→List Nat),(∀ x,(f x).length≤x.length+1)→(brc d' sk' r).map (fun p=>(f p.1,p.2+1))=some p→p.1.length+1≤p.2∧p.2≤(c::r).length:=fun d' sk' f hf h=>by
   rw [Option.map_eq_some_iff] at h
   obtain ⟨q,hq,rfl⟩:=h
   have e:=brc_fact n d' sk' r q hr hq
   have:=hf q.1
   simp only [List.length_cons];exact ⟨linL fun q=>lin [_,_,_] [(1,0,.a (.v 0) (.n 1),.v 1),(1,0,.v 2,.a (.v 0) (.n 1)),(1,0,.a (.a (.v 1) (.n 1)) (.n 1),.a (.v 2) (.n 1))] rfl e.1 this q,linL fun q=>lin [_,_] [(1,0,.v 0,.v 1),(1,0,.a (.a (.v 1) (.n 1)) (.n 1),.a (.v 0) (.n 1))] rfl e.2 q⟩
  split at h
  ·exact one _ _ id (fun x=>by simp) h
  ·split at h
   ·exact one _ _ (fun x=>123::x) (fun x=>by simp) h
   ·split at h
    ·split at h
     ·cases h;simp
     ·exact one _ _ (fun x=>125::x) (fun x=>by simp) h
    ·split at h
     ·cases r with
      |nil=>cases h
      |cons e r=>
       dsimp only at h
       have hr':r.length≤n:=by simp only [List.length_cons] at hr;exact linL fun q=>lin [_,_] [(1,0,.a (.v 0) (.n 1),.v 1),(1,0,.a (.v 1) (.n 1),.v 0)] rfl hr q
       split at h
       ·rw [Option.map_eq_some_iff] at h
        obtain ⟨q,hq,rfl⟩:=h
        have e:=brc_fact n d true r q hr' hq
        simp only [List.length_cons];exact ⟨linL fun q=>lin [_,_] [(1,0,.a (.v 0) (.n 1),.v 1),(1,0,.a (.a (.v 1) (.n 2)) (.n 1),.a (.a (.v 0) (.n 1)) (.n 1))] rfl e.1 q,linL fun q=>lin [_,_] [(1,0,.v 0,.v 1),(1,0,.a (.a (.a (.v 1) (.n 1)) (.n 1)) (.n 1),.a (.v 0) (.n 2))] rfl e.2 q⟩
       ·rw [Option.map_eq_some_iff] at h
        obtain ⟨q,hq,rfl⟩:=h
        have e:=brc_fact n d false r q hr' hq
        simp only [List.length_cons];exact ⟨linL fun q=>lin [_,_] [(1,0,.a (.v 0) (.n 1),.v 1),(1,0,.a (.a (.v 1) (.n 2)) (.n 1),.a (.a (.a (.v 0) (.n 1)) (.n 1)) (.n 1))] rfl e.1 q,linL fun q=>lin [_,_] [(1,0,.v 0,.v 1),(1,0,.a (.a (.a (.v 1) (.n 1)) (.n 1)) (.n 1),.a (.v 0) (.n 2))] rfl e.2 q⟩
     ·exact one _ _ (fun x=>c::x) (fun x=>by simp) h
section
variable {lv:Nat} (hlv:1≤lv)
theorem l13i {T:Loc→(PyData→Prop)→(Exc→Prop)→Prop} {BB:Loc→(Out→Prop)→Prop} {Q:Out→Prop} {w1 w3 w5 w6 w7 w8:Val} {t:List Nat}
  (eT:∀ ρ P E,T ρ P E=EW Phi reqF 13 lv (.and [.cmp .Lt (.v 4) (.v 2),.cmp .NotIn (.idx (.v 0) (.v 4)) (.k (.str (S [123,125,92])))]) ρ P E)
  (eB:∀ ρ Q,BB ρ Q=SW Phi reqF 13 lv [.aug 4 .add (.k (.int 1))] ρ Q) (hB:t.length≤B):∀ (n a:Nat),(t.drop a).length<n→a≤t.length →
    Q (.nxt [.d (.str (S t)),w1,.d (itD t.length),w3,.d (itD (a+runB (t.drop a))),w5,w6,w7,w8])→loopW T BB Q n [.d (.str (S t)),w1,.d (itD t.length),w3,.d (.int (a:Nat)),w5,w6,w7,w8]:=by
 intro n
 induction n with
 |zero=>intro a h;exact (lin [_] [(1,0,.a (.v 0) (.n 1),.n 0)] rfl h).elim
 |succ n ih=>
  intro a h ha hQ
  cases hd:t.drop a with
  |nil=>
   have i1:¬ a<t.length:=by rw [dr_nil hd ha];exact Nat.lt_irrefl _
   rw [hd] at hQ
   refine byT eT eB [0,0] fun W=>W (decide_eq_false (mt Int.ofNat_lt.mp i1)) rfl ?_
   exact hQ
  |cons c r=>
   obtain ⟨g1,g2,g3,g4⟩:=dr hd
   have f3:a<lim:=lt_lim (by exact linL fun q=>lin [_,_,_] [(1,0,.v 0,.v 1),(1,0,.a (.v 2) (.n 1),.v 0),(1,0,.a (.v 1) (.n 1),.v 2)] rfl hB g2 q)
   rw [hd] at hQ h
   simp only [List.length_cons] at h
   by_cases hc:c ∉ ([123,125,92]:List Nat)
   ·have ho:ordB c=true:=by
     simp only [List.mem_cons,List.not_mem_nil,or_false,not_or] at hc
     simp [ordB,hc]
    refine byT eT eB [1,1] fun W=>W (decide_eq_true (Int.ofNat_lt.mpr g2)) f3 _ g1 (decide_eq_true hc) ?_
    refine ih (a+1) (by rw [g3];exact linT fun q=>lin [_,_] [(1,0,.a (.a (.v 0) (.n 1)) (.n 1),.a (.v 1) (.n 1)),(1,0,.v 1,.v 0)] rfl h q) (by exact linL fun q=>lin [_,_] [(1,0,.a (.v 0) (.n 1),.v 1),(1,0,.a (.v 1) (.n 1),.a (.v 0) (.n 1))] rfl g2 q) ?_
    rw [g3,Nat.add_assoc]
    rw [runB,if_pos ho] at hQ
    exact hQ
   ·have ho:ordB c=false:=by
     simp only [List.mem_cons,List.not_mem_nil,or_false,Decidable.not_not] at hc
     rcases hc with rfl |rfl |rfl <;> rfl
    refine byT eT eB [1,0] fun W=>W (decide_eq_true (Int.ofNat_lt.mpr g2)) f3 _ g1 (decide_eq_false hc) ?_
    rw [runB,if_neg (by rw [ho];exact Bool.false_ne_true)] at hQ
    exact hQ
include hlv in
theorem l13 {T:Loc→(PyData→Prop)→(Exc→Prop)→Prop} {BB:Loc→(Out→Prop)→Prop} {Q:Out→Prop} {w1:Val} {t:List Nat}
  (eT:∀ ρ P E,T ρ P E=EW Phi reqF 13 lv (.cmp .Lt (.v 4) (.v 2)) ρ P E)
  (eB:∀ ρ Q,BB ρ Q=SW Phi reqF 13 lv [.ite (.cmp .Eq (.idx (.v 0) (.v 4)) (.k (.str (S [123]))))
     [.aug 6 .add (.k (.int 1)),
      .aug 4 .add (.k (.int 1))]
     [.ite (.cmp .Eq (.idx (.v 0) (.v 4)) (.k (.str (S [125]))))
        [.aug 6 .sub (.k (.int 1)),
         .aug 4 .add (.k (.int 1)),
         .ite (.cmp .Eq (.v 6) (.k (.int 0)))
           [.ret (.tup [.bin .add (.v 5) (.sl (.v 0) (some (.v 3)) (some (.bin .sub (.v 4) (.k (.int 1))))),.v 4])]
           []]
        [.ite (.cmp .Eq (.sl (.v 0) (some (.v 4)) (some (.bin .add (.v 4) (.k (.int 2))))) (.k (.str (S [92,10]))))
           [.upk [7,8] (.call 5 [.v 0,.v 4]),
            .aug 5 .add (.bin .add (.sl (.v 0) (some (.v 3)) (some (.v 4))) (.v 7)),
            .asg 4 (.v 8),
            .asg 3 (.v 8)]
           [.ite (.cmp .Eq (.idx (.v 0) (.v 4)) (.k (.str (S [92]))))
              [.aug 4 .add (.k (.int 2))]
              [.whl (.and [.cmp .Lt (.v 4) (.v 2),.cmp .NotIn (.idx (.v 0) (.v 4)) (.k (.str (S [123,125,92])))])
                 [.aug 4 .add (.k (.int 1))]]]]]] ρ Q) (hB:t.length≤B):∀ (n a b d:Nat) (M:List Nat) (w7 w8:Val),(t.drop a).length<n→b≤a→M.length≤b →
    (brc (d+1) false (t.drop a)=none→∀ ρ',Q (.nxt ρ')) →
    (∀ p,brc (d+1) false (t.drop a)=some p→Q (.ret (.tuple [sD (M++(t.drop b).take (a - b)++p.1),itD (a+p.2)]))) →
    loopW T BB Q n [.d (.str (S t)),w1,.d (itD t.length),.d (.int (b:Nat)),.d (.int (a:Nat)),.d (.str (S M)),.d (.int (d+1:Nat)),w7,w8]:=by
 intro n
 induction n with
 |zero=>intro a b d M w7 w8 h;exact (lin [_] [(1,0,.a (.v 0) (.n 1),.n 0)] rfl h).elim
 |succ n ih=>
  intro a b d M w7 w8 h hba hM hQ hR
  have f1:t.length≤lim:=lim_B hB
  cases hd:t.drop a with
  |nil=>
   have e:¬ a<t.length:=Nat.not_lt.mpr (List.drop_eq_nil_iff.mp hd)
   rw [hd] at hQ
   refine byT eT eB [0] fun W=>W (decide_eq_false (mt Int.ofNat_lt.mp e)) ?_
   exact hQ rfl _
  |cons c r=>
   obtain ⟨g1,g2,g3,g4⟩:=dr hd
   have f3:a<lim:=lt_lim (by exact linL fun q=>lin [_,_,_] [(1,0,.v 0,.v 1),(1,0,.a (.v 2) (.n 1),.v 0),(1,0,.a (.v 1) (.n 1),.v 2)] rfl hB g2 q)
   rw [hd] at hQ hR h
   simp only [List.length_cons] at h
   have plain:∀ (k d':Nat),1≤k→k≤r.length+1→brc (d+1) false (c::r)=(brc (d'+1) false ((c::r).drop k)).map (fun p=>((c::r).take k++p.1,p.2+k)) →
     loopW T BB Q n [.d (.str (S t)),w1,.d (itD t.length),.d (.int (b:Nat)),.d (.int (a+k:Nat)),.d (.str (S M)),.d (.int (d'+1:Nat)),w7,w8]:=fun k d' h1 h2 e=>by
    have g5:t.drop (a+k)=(c::r).drop k:=by rw [← hd,List.drop_drop]
    refine ih (a+k) b d' M w7 w8 (by rw [g5,List.length_drop];simp only [List.length_cons];exact linT fun q=>lin [_,_,_,_] [(1,0,.a (.a (.v 0) (.n 1)) (.n 1),.a (.v 1) (.n 1)),(1,0,.n 1,.v 2),(1,1,.a (.v 3) (.v 2),.a (.v 0) (.n 1)),(1,0,.v 1,.v 3)] rfl h h1 (Nat.sub_add_cancel (linL fun q=>lin [_,_] [(1,0,.v 0,.a (.v 1) (.n 1)),(1,0,.a (.a (.v 1) (.n 1)) (.n 1),.v 0)] rfl h2 q)) q) (by exact linL fun q=>lin [_,_,_] [(1,0,.v 0,.v 1),(1,0,.a (.a (.v 1) (.v 2)) (.n 1),.v 0)] rfl hba q) hM ?_ ?_
    ·rw [g5]
     intro hn
     exact hQ (by rw [e,hn];rfl)
    ·rw [g5]
     intro p hp
     have:=hR _ (by rw [e,hp];rfl)
     rw [seg_app hba (by exact linL fun q=>lin [_,_,_,_] [(1,2,.v 0,.a (.a (.v 1) (.n 1)) (.v 2)),(1,0,.v 3,.a (.v 2) (.n 1)),(1,0,.a (.v 0) (.n 1),.a (.v 1) (.v 3))] rfl g4 h2 q),hd]
     rw [show a+(p.2+k)=a+k+p.2 by exact linE (fun q=>lin [_,_,_] [(1,0,.a (.a (.a (.v 0) (.v 1)) (.v 2)) (.n 1),.a (.v 0) (.a (.v 2) (.v 1)))] rfl q) fun q=>lin [_,_,_] [(1,0,.a (.a (.v 0) (.a (.v 1) (.v 2))) (.n 1),.a (.a (.v 0) (.v 2)) (.v 1))] rfl q] at this
     simpa only [List.append_assoc] using this
   have hcut:cut t (some a) (some (a+2))=c::r.take 1:=cut_c hd
   by_cases h1:c=123
   ·subst h1
    refine byT eT eB [1,1] fun W=>W (decide_eq_true (Int.ofNat_lt.mpr g2)) f3 _ g1 (decide_eq_true rfl) ?_
    exact plain 1 (d+1) (Nat.le_refl _) (Nat.succ_le_succ (Nat.zero_le _)) ((brc.eq_def ..).trans rfl)
   ·by_cases h2:c=125
    ·subst h2
     cases d with
     |zero=>
      have q:=hR ([],1) (by rw [brc.eq_def];rfl)
      have hs:((t.drop b).take (a - b)).length≤a - b:=by rw [List.length_take];exact linL fun q=>lin [_,_] [(1,0,.v 0,.v 1),(1,0,.a (.v 1) (.n 1),.v 0)] rfl (Nat.min_le_left _ _) q
      have f6:M.length+((t.drop b).take (a - b)).length≤lim:=lim_B (by exact linL fun q=>lin [_,_,_,_,_,_,_] [(1,0,.v 0,.v 1),(1,0,.v 2,.v 3),(1,0,.a (.v 4) (.n 1),.v 0),(1,0,.v 5,.v 6),(1,1,.a (.v 6) (.v 3),.v 4),(1,0,.a (.v 1) (.n 1),.a (.v 2) (.v 5))] rfl hB hM g2 hs (Nat.sub_add_cancel (linL fun q=>lin [_,_] [(1,0,.v 0,.v 1),(1,0,.a (.v 1) (.n 1),.v 0)] rfl hba q)) q)
      have i5:(a:Int)+1 - 1=(a:Nat):=Int.add_sub_cancel (a:Int) 1
      refine byT eT eB [1,0,1,1,3] fun W=>W (decide_eq_true (Int.ofNat_lt.mpr g2)) f3 _ g1 (decide_eq_false (by decide)) f3 _ g1 (decide_eq_true rfl) (decide_eq_true rfl) _ i5 f1 f6 ?_
      rw [List.append_nil] at q
      exact q
     |succ d=>
      have i5:((d+1+1:Nat):Int) - 1=(d+1:Nat):=Int.add_sub_cancel ((d+1:Nat):Int) 1
      have i6:¬ ((d+1+1:Nat):Int) - 1=0:=by rw [i5];exact Int.natCast_ne_zero.mpr (Nat.succ_ne_zero d)
      refine byT eT eB [1,0,1,0] fun W=>W (decide_eq_true (Int.ofNat_lt.mpr g2)) f3 _ g1 (decide_eq_false (by decide)) f3 _ g1 (decide_eq_true rfl) (decide_eq_false i6) ?_
      show loopW T BB Q n [_,_,_,_,_,_,.d (.int (((d+1+1:Nat):Int) - 1)),_,_]
      rw [i5]
      exact plain 1 d (Nat.le_refl _) (Nat.succ_le_succ (Nat.zero_le _)) ((brc.eq_def ..).trans (if_neg (t:=some ([],1)) (Nat.not_le.mpr (Nat.succ_lt_succ (Nat.succ_pos d)))))
    ·by_cases h3:c=92
     ·subst h3
      cases r with
      |nil=>
       have i1:¬ cut t (some a) (some (a+2))=[92,10]:=by rw [hcut];decide
       refine byT eT eB [1,0,0,0,1] fun W=>W (decide_eq_true (Int.ofNat_lt.mpr g2)) f3 _ g1 (decide_eq_false (by decide)) f3 _ g1 (decide_eq_false (by decide)) f1 (decide_eq_false i1) f3 _ g1 (decide_eq_true rfl) ?_
       refine ih (a+2) b d M w7 w8 (Nat.lt_of_le_of_lt (by rw [List.length_drop,g4];exact Nat.le_of_eq (Nat.sub_eq_zero_of_le (Nat.le_succ _))) (Nat.lt_of_succ_lt_succ (Nat.lt_of_le_of_lt (Nat.succ_le_succ (Nat.zero_le _)) h))) (by exact linL fun q=>lin [_,_] [(1,0,.v 0,.v 1),(1,0,.a (.a (.v 1) (.n 2)) (.n 1),.v 0)] rfl hba q) hM (fun _=>hQ (by simp [brc])) ?_
       intro p hp
       rw [List.drop_eq_nil_of_le (by simp only [List.length_nil] at g4;exact linL fun q=>lin [_,_] [(1,1,.v 0,.a (.a (.v 1) (.n 1)) (.n 0)),(1,0,.a (.a (.v 1) (.n 2)) (.n 1),.v 0)] rfl g4 q)] at hp
       simp [brc] at hp
      |cons e r=>
       by_cases h4:e=10
       ·subst h4
        have hb:bsl (10::r)=([32],2+sptab r):=rfl
        have hs:((t.drop b).take (a - b)).length≤a - b:=by rw [List.length_take];exact linL fun q=>lin [_,_] [(1,0,.v 0,.v 1),(1,0,.a (.v 1) (.n 1),.v 0)] rfl (Nat.min_le_left _ _) q
        have hsp:=sptab_le r
        simp only [List.length_cons] at g4
        have f6:((t.drop b).take (a - b)).length+1≤lim:=lim_B (by exact linL fun q=>lin [_,_,_,_,_,_,_] [(1,0,.v 0,.v 1),(1,2,.v 0,.a (.a (.v 2) (.n 1)) (.a (.v 3) (.n 1))),(1,0,.v 4,.v 5),(1,1,.a (.v 5) (.v 6),.v 2),(1,0,.a (.v 1) (.n 1),.a (.v 4) (.n 1))] rfl hB g4 hs (Nat.sub_add_cancel (linL fun q=>lin [_,_] [(1,0,.v 0,.v 1),(1,0,.a (.v 1) (.n 1),.v 0)] rfl hba q)) q)
        have f7:M.length+(((t.drop b).take (a - b)).length+1)≤lim:=lim_B (by exact linL fun q=>lin [_,_,_,_,_,_,_,_] [(1,0,.v 0,.v 1),(1,0,.v 2,.v 3),(1,2,.v 0,.a (.a (.v 4) (.n 1)) (.a (.v 5) (.n 1))),(1,0,.v 6,.v 7),(1,1,.a (.v 7) (.v 3),.v 4),(1,0,.a (.v 1) (.n 1),.a (.v 2) (.a (.v 6) (.n 1)))] rfl hB hM g4 hs (Nat.sub_add_cancel (linL fun q=>lin [_,_] [(1,0,.v 0,.v 1),(1,0,.a (.v 1) (.n 1),.v 0)] rfl hba q)) q)
        have g5:t.drop (a+(2+sptab r))=r.drop (sptab r):=by
         rw [show a+(2+sptab r)=(a+1)+(1+sptab r) by exact linE (fun q=>lin [_,_] [(1,0,.a (.a (.a (.v 0) (.n 1)) (.a (.n 1) (.v 1))) (.n 1),.a (.v 0) (.a (.n 2) (.v 1)))] rfl q) fun q=>lin [_,_] [(1,0,.a (.a (.v 0) (.a (.n 2) (.v 1))) (.n 1),.a (.a (.v 0) (.n 1)) (.a (.n 1) (.v 1)))] rfl q,← List.drop_drop,g3,Nat.add_comm 1,List.drop_succ_cons]
        have k5':=fun K=>k5 (K:=K) hB (Nat.le_of_lt g2) hd
        simp only [hb] at k5'
        have f7':M.length+((t.drop b).take (a - b)++[32]).length≤lim:=by rw [List.length_append];exact f7
        refine byT eT eB [1,0,0,1] fun W=>W (decide_eq_true (Int.ofNat_lt.mpr g2)) f3 _ g1 (decide_eq_false (by decide)) f3 _ g1 (decide_eq_false (by decide)) f1 (decide_eq_true hcut) hlv (by decide) hlv _ (phi_of k5') rfl f1 f6 f7' ?_
        refine ih (a+(2+sptab r)) (a+(2+sptab r)) d (M++((t.drop b).take (a - b)++[32])) _ _ (by rw [g5,List.length_drop];simp only [List.length_cons] at h;exact linT fun q=>lin [_,_,_,_] [(1,0,.a (.a (.a (.v 0) (.n 1)) (.n 1)) (.n 1),.a (.v 1) (.n 1)),(1,1,.a (.v 2) (.v 3),.v 0),(1,0,.v 1,.v 2)] rfl h (Nat.sub_add_cancel (linL fun q=>lin [_,_] [(1,0,.v 0,.v 1),(1,0,.a (.v 1) (.n 1),.v 0)] rfl hsp q)) q) (Nat.le_refl _) (by simp only [List.length_append,List.length_cons,List.length_nil];exact linL fun q=>lin [_,_,_,_,_,_] [(1,0,.v 0,.v 1),(1,0,.v 2,.v 3),(1,1,.a (.v 3) (.v 1),.v 4),(1,0,.a (.a (.v 4) (.a (.n 2) (.v 5))) (.n 1),.a (.v 0) (.a (.v 2) (.a (.n 0) (.n 1))))] rfl hM hs (Nat.sub_add_cancel (linL fun q=>lin [_,_] [(1,0,.v 0,.v 1),(1,0,.a (.v 1) (.n 1),.v 0)] rfl hba q)) q) ?_ ?_
        ·rw [g5]
         intro hn
         refine hQ ?_
         conv=>lhs;rw [brc.eq_def]
         simp [brc_sk,hn]
        ·rw [g5]
         intro p hp
         have:=hR (32::p.1,p.2+sptab r+2) (by
          conv=>lhs;rw [brc.eq_def]
          simp [brc_sk,hp])
         rw [show a+(p.2+sptab r+2)=a+(2+sptab r)+p.2 by exact linE (fun q=>lin [_,_,_] [(1,0,.a (.a (.a (.v 0) (.a (.n 2) (.v 1))) (.v 2)) (.n 1),.a (.v 0) (.a (.a (.v 2) (.v 1)) (.n 2)))] rfl q) fun q=>lin [_,_,_] [(1,0,.a (.a (.v 0) (.a (.a (.v 1) (.v 2)) (.n 2))) (.n 1),.a (.a (.v 0) (.a (.n 2) (.v 2))) (.v 1))] rfl q] at this
         simpa only [Nat.sub_self,List.take_zero,List.append_nil,List.append_assoc,List.singleton_append,List.cons_append,List.nil_append] using this
       ·have i1:¬ cut t (some a) (some (a+2))=[92,10]:=by rw [hcut];exact fun q=>h4 (List.cons.inj (List.cons.inj q).2).1
        refine byT eT eB [1,0,0,0,1] fun W=>W (decide_eq_true (Int.ofNat_lt.mpr g2)) f3 _ g1 (decide_eq_false (by decide)) f3 _ g1 (decide_eq_false (by decide)) f1 (decide_eq_false i1) f3 _ g1 (decide_eq_true rfl) ?_
        exact plain 2 d (by exact linL fun q=>lin [] [(1,0,.a (.n 2) (.n 1),.n 1)] rfl q) (by simp only [List.length_cons];exact linL fun q=>lin [_] [(1,0,.a (.a (.a (.v 0) (.n 1)) (.n 1)) (.n 1),.n 2)] rfl q) (by
         conv=>lhs;rw [brc.eq_def]
         simp [h4])
     ·have h5:¬ (c=92∧List.take 1 r=[10]):=fun q=>h3 q.1
      have ho:ordB c=true:=by simp [ordB,h1,h2,h3]
      have i1:¬ cut t (some a) (some (a+2))=[92,10]:=by rw [hcut];exact fun q=>h3 (List.cons.inj q).1
      refine byT eT eB [1,0,0,0,0] fun W=>W (decide_eq_true (Int.ofNat_lt.mpr g2)) f3 _ g1 (decide_eq_false (mt one_eq.mp h1)) f3 _ g1 (decide_eq_false (mt one_eq.mp h2)) f1 (decide_eq_false i1) f3 _ g1 (decide_eq_false (mt one_eq.mp h3)) ?_
      refine wh_of ⟨(t.drop a).length+1,fun T BB eT eB=>l13i eT eB hB _ a (Nat.lt_succ_self _) (by exact linL fun q=>lin [_,_] [(1,0,.a (.v 0) (.n 1),.v 1),(1,0,.a (.v 1) (.n 1),.v 0)] rfl g2 q) ?_⟩
      rw [hd]
      have hle:=runB_le (c::r)
      simp only [List.length_cons] at hle
      have hge:1≤runB (c::r):=by rw [runB,if_pos ho];exact linL fun q=>lin [_] [(1,0,.a (.a (.n 1) (.v 0)) (.n 1),.n 1)] rfl q
      exact plain (runB (c::r)) d hge hle (brc_run _)
include hlv in
theorem p13 {t:List Nat} {a:Nat} {r:List Nat} (hB:t.length≤B) (hd:t.drop a=123::r):SW Phi reqF 13 lv b_braces [.d (.str (S t)),.d (.int (a:Nat)),.un,.un,.un,.un,.un,.un,.un]
  (OutR (match brc 1 false r with
    |some p => .ok (.tuple [sD p.1,itD (a+(1+p.2))])
    |none=>exN msgB)):=by
 obtain ⟨g1,g2,g3,g4⟩:=dr hd
 have f1:t.length≤lim:=lim_B hB
 unfold b_braces
 simp -dsimp only [↓w_cons,↓w_asg,↓e_len,↓e_v,List.getElem?_cons_zero,at_d,l_s,f1,↓gd,↓sq_nxt,↓e_bin,List.set_cons_succ,List.set_cons_zero,List.getElem?_cons_succ,↓e_k,a_1,↓w_whl]
 refine wh_of ⟨(t.drop (a+1)).length+1,fun T BB eT eB=>l13 hlv eT eB hB _ (a+1) (a+1) 0 [] .un .un (Nat.lt_succ_self _) (Nat.le_refl _) (Nat.zero_le _) (fun hn ρ'=>?_) fun p hp=>?_⟩
 ·rw [g3] at hn
  simp -dsimp only [↓sq_nxt,↓w_cons,↓w_rai0,hlv,↓gd,↓e_k,b_str,↓sq_exc,↓or_exc,hn]
  rfl
 ·rw [g3] at hp
  simp -dsimp only [↓sq_ret,↓or_ret,hp,Nat.sub_self,List.take_zero,List.append_nil,List.nil_append,Nat.add_assoc]
end
end Mine
end
section
open PySem PySem.W PyProof.Rows
namespace Mine
noncomputable def ordP (stop:Nat→Bool) (c:Nat):Bool:=!(stop c) && !(c == 36) && !(c == 91) && !(c == 92)
noncomputable def runP (stop:Nat→Bool):List Nat→Nat
 | []=>0
 |c::r=>if ordP stop c=true then 1+runP stop r else 0
theorem runP_le (stop:Nat→Bool):∀ (l:List Nat),runP stop l≤l.length
 | []=>Nat.le_refl _
 |c::r=>by
  unfold runP
  have:=runP_le stop r
  split <;> simp only [List.length_cons] <;> (first |exact linL fun q=>lin [_,_] [(1,0,.v 0,.v 1),(1,0,.a (.a (.v 1) (.n 1)) (.n 1),.a (.n 1) (.v 0))] rfl this q |exact linL fun q=>lin [_] [(1,0,.a (.a (.v 0) (.n 1)) (.n 1),.n 0)] rfl q)
theorem ordP_of {stop:Nat→Bool} {c:Nat} (h:ordP stop c=true):stop c=false∧c≠36∧c≠91∧c≠92:=by
 unfold ordP at h
 simp only [Bool.and_eq_true,Bool.not_eq_true',beq_eq_false_iff_ne,ne_eq] at h
 exact ⟨h.1.1.1,h.1.1.2,h.1.2,h.2⟩
theorem cleanN_eq {st:Nat→Bool} {sp:Bool}:∀ {n m:Nat} {l:List Nat},l.length≤n→l.length≤m→cleanN st sp n l=cleanN st sp m l:=by
 intro n
 induction n with
 |zero=>intro m l h _;cases l with
  |nil=>cases m <;> rfl
  |cons c r=>exact absurd h (Nat.not_succ_le_zero _)
 |succ n ih=>intro m l h g;cases l with
  |nil=>cases m <;> rfl
  |cons c r=>cases m with
   |zero=>exact absurd g (Nat.not_succ_le_zero _)
   |succ m=>
    have e:=ih (Nat.le_of_succ_le_succ h) (Nat.le_of_succ_le_succ g)
    have e':=ih (drop_le (k:=(bsl r).2 - 1) (Nat.le_of_succ_le_succ h)) (drop_le (Nat.le_of_succ_le_succ g))
    rw [cleanN,e,e'];rfl
theorem clean_nil {stop:Nat→Bool} {sp:Bool}:clean stop sp []=true:=rfl
theorem clean_eq {stop:Nat→Bool} {sp:Bool} {c:Nat} {r:List Nat}:clean stop sp (c::r)=if stop c=true then true else if c=36∨c=91 then false else if c=92 then (if sp=true∧r.head?=some 10 then false else clean stop sp (r.drop ((bsl r).2 - 1))) else clean stop sp r:=by
 have e:cleanN stop sp r.length (r.drop ((bsl r).2 - 1))=clean stop sp (r.drop ((bsl r).2 - 1)):=cleanN_eq (drop_le (Nat.le_refl _)) (Nat.le_refl _)
 rw [← e];rfl
theorem bf {b:Bool} (h:b=false):¬ b=true:=by rw [h];exact Bool.false_ne_true
theorem clean_stop {stop:Nat→Bool} {sp:Bool} {c:Nat} {r:List Nat} (h:stop c=true):clean stop sp (c::r)=true:=clean_eq.trans (if_pos h)
theorem clean_bs {stop:Nat→Bool} {sp:Bool} {r:List Nat} (h:stop 92=false):clean stop sp (92::r)=if sp=true∧r.head?=some 10 then false else clean stop sp (r.drop ((bsl r).2 - 1)):=
 clean_eq.trans ((if_neg (bf h)).trans ((if_neg (by decide)).trans (if_pos rfl)))
theorem clean_bad {stop:Nat→Bool} {sp:Bool} {c:Nat} {r:List Nat} (h:stop c=false) (hc:c=36∨c=91):clean stop sp (c::r)=false:=
 clean_eq.trans ((if_neg (bf h)).trans (if_pos hc))
theorem clean_ch {stop:Nat→Bool} {sp:Bool} {c:Nat} {r:List Nat} (h:stop c=false) (h1:c≠36) (h2:c≠91) (hc:c≠92):clean stop sp (c::r)=clean stop sp r:=
 clean_eq.trans ((if_neg (bf h)).trans ((if_neg fun q=>q.elim h1 h2).trans (if_neg hc)))
theorem pu_run {stop:Nat→Bool}:∀ (l:List Nat),pu stop l=(l.take (runP stop l)++(pu stop (l.drop (runP stop l))).1,runP stop l+(pu stop (l.drop (runP stop l))).2)
 | []=>by simp [runP]
 |c::r=>by
  by_cases hc:ordP stop c=true
  ·have e:runP stop (c::r)=runP stop r+1:=by rw [runP,if_pos hc];exact linE (fun q=>lin [_] [(1,0,.a (.a (.v 0) (.n 1)) (.n 1),.a (.n 1) (.v 0))] rfl q) fun q=>lin [_] [(1,0,.a (.a (.n 1) (.v 0)) (.n 1),.a (.v 0) (.n 1))] rfl q
   obtain ⟨h1,h2,h3,h4⟩:=ordP_of hc
   rw [e,List.drop_succ_cons,List.take_succ_cons,pu_ch h1 h4,pu_run r]
   simp only [List.cons_append,Prod.mk.injEq,true_and]
   exact linE (fun q=>lin [_,_] [(1,0,.a (.a (.a (.v 0) (.n 1)) (.v 1)) (.n 1),.a (.n 1) (.a (.v 0) (.v 1)))] rfl q) fun q=>lin [_,_] [(1,0,.a (.a (.n 1) (.a (.v 0) (.v 1))) (.n 1),.a (.a (.v 0) (.n 1)) (.v 1))] rfl q
  ·have e:runP stop (c::r)=0:=by rw [runP,if_neg hc]
   rw [e,List.drop_zero,List.take_zero]
   simp
theorem clean_run {stop:Nat→Bool} {sp:Bool}:∀ (l:List Nat),clean stop sp l=clean stop sp (l.drop (runP stop l))
 | []=>by simp [runP]
 |c::r=>by
  by_cases hc:ordP stop c=true
  ·have e:runP stop (c::r)=runP stop r+1:=by rw [runP,if_pos hc];exact linE (fun q=>lin [_] [(1,0,.a (.a (.v 0) (.n 1)) (.n 1),.a (.n 1) (.v 0))] rfl q) fun q=>lin [_] [(1,0,.a (.a (.n 1) (.v 0)) (.n 1),.a (.v 0) (.n 1))] rfl q
   obtain ⟨h1,h2,h3,h4⟩:=ordP_of hc
   rw [e,List.drop_succ_cons,clean_ch h1 h2 h3 h4,clean_run r]
  ·have e:runP stop (c::r)=0:=by rw [runP,if_neg hc]
   rw [e,List.drop_zero]
section
variable {lv:Nat} (hlv:1≤lv) {stop:Nat→Bool} {sp:Bool} {st:List PyData}
theorem l14i {T:Loc→(PyData→Prop)→(Exc→Prop)→Prop} {BB:Loc→(Out→Prop)→Prop} {Q:Out→Prop} {w3 w4 w6 w7 w8 w9:Val} {t:List Nat}
  (hst:∀ c P,CW .NotIn (.str (S [c])) (.tuple st) P=P (.bool (!stop c)))
  (eT:∀ ρ P E,T ρ P E=EW Phi reqF 14 lv (.and [.cmp .Lt (.v 1) (.v 5),.cmp .NotIn (.idx (.v 0) (.v 1)) (.k (.str (S [36,91,92]))),.cmp .NotIn (.idx (.v 0) (.v 1)) (.v 2)]) ρ P E)
  (eB:∀ ρ Q,BB ρ Q=SW Phi reqF 14 lv [.aug 1 .add (.k (.int 1))] ρ Q) (hB:t.length≤B):∀ (n a:Nat),(t.drop a).length<n→a≤t.length →
    Q (.nxt [.d (.str (S t)),.d (itD (a+runP stop (t.drop a))),.d (.tuple st),w3,w4,.d (itD t.length),w6,w7,w8,w9])→loopW T BB Q n [.d (.str (S t)),.d (.int (a:Nat)),.d (.tuple st),w3,w4,.d (itD t.length),w6,w7,w8,w9]:=by
 intro n
 induction n with
 |zero=>intro a h;exact (lin [_] [(1,0,.a (.v 0) (.n 1),.n 0)] rfl h).elim
 |succ n ih=>
  intro a h ha hQ
  cases hd:t.drop a with
  |nil=>
   have i1:¬ a<t.length:=by rw [dr_nil hd ha];exact Nat.lt_irrefl _
   rw [hd] at hQ
   refine byT eT eB [0,0] fun W=>W (decide_eq_false (mt Int.ofNat_lt.mp i1)) rfl ?_
   exact hQ
  |cons c r=>
   obtain ⟨g1,g2,g3,g4⟩:=dr hd
   have f3:a<lim:=lt_lim (by exact linL fun q=>lin [_,_,_] [(1,0,.v 0,.v 1),(1,0,.a (.v 2) (.n 1),.v 0),(1,0,.a (.v 1) (.n 1),.v 2)] rfl hB g2 q)
   rw [hd] at hQ h
   simp only [List.length_cons] at h
   have hst':=hst c
   by_cases hc:c ∉ ([36,91,92]:List Nat)
   ·cases hs:stop c with
    |false=>
     have ho:ordP stop c=true:=by
      simp only [List.mem_cons,List.not_mem_nil,or_false,not_or] at hc
      simp [ordP,hc,hs]
     have hs':(!stop c)=true:=congrArg not hs
     refine byT eT eB [1,1,4,1] fun W=>W (decide_eq_true (Int.ofNat_lt.mpr g2)) f3 _ g1 (decide_eq_true hc) f3 _ g1 _ hst' hs' ?_
     refine ih (a+1) (by rw [g3];exact linT fun q=>lin [_,_] [(1,0,.a (.a (.v 0) (.n 1)) (.n 1),.a (.v 1) (.n 1)),(1,0,.v 1,.v 0)] rfl h q) (by exact linL fun q=>lin [_,_] [(1,0,.a (.v 0) (.n 1),.v 1),(1,0,.a (.v 1) (.n 1),.a (.v 0) (.n 1))] rfl g2 q) ?_
     rw [g3,Nat.add_assoc]
     rw [runP,if_pos ho] at hQ
     exact hQ
    |true=>
     have ho:¬ ordP stop c=true:=by rw [ordP,hs];exact Bool.false_ne_true
     have hs':(!stop c)=false:=congrArg not hs
     refine byT eT eB [1,1,4,0] fun W=>W (decide_eq_true (Int.ofNat_lt.mpr g2)) f3 _ g1 (decide_eq_true hc) f3 _ g1 _ hst' hs' ?_
     rw [runP,if_neg ho] at hQ
     exact hQ
   ·have ho:ordP stop c=false:=by
     simp only [List.mem_cons,List.not_mem_nil,or_false,Decidable.not_not] at hc
     rcases hc with rfl |rfl |rfl <;> simp [ordP]
    refine byT eT eB [1,0,0] fun W=>W (decide_eq_true (Int.ofNat_lt.mpr g2)) f3 _ g1 (decide_eq_false hc) rfl ?_
    rw [runP,if_neg (bf ho)] at hQ
    exact hQ
include hlv in
theorem l14 {T:Loc→(PyData→Prop)→(Exc→Prop)→Prop} {BB:Loc→(Out→Prop)→Prop} {Q:Out→Prop} {t:List Nat}
  (hst:∀ c P,CW .NotIn (.str (S [c])) (.tuple st) P=P (.bool (!stop c)))
  (hsp:∀ P,CW .In (.str (S [32])) (.tuple st) P=P (.bool sp)) (h92:stop 92=false)
  (eT:∀ ρ P E,T ρ P E=EW Phi reqF 14 lv (.and [.cmp .Lt (.v 1) (.v 5),.cmp .NotIn (.idx (.v 0) (.v 1)) (.v 2)]) ρ P E)
  (eB:∀ ρ Q,BB ρ Q=SW Phi reqF 14 lv [.ite (.cmp .Eq (.idx (.v 0) (.v 1)) (.k (.str (S [36]))))
     [.upk [6,1] (.call 11 [.v 0,.v 1])]
     [.ite (.cmp .Eq (.idx (.v 0) (.v 1)) (.k (.str (S [91]))))
        [.upk [7,1] (.call 12 [.v 0,.v 1]),
         .asg 6 (.tup [.k (.str (S [99,109,100])),.v 7])]
        [.ite (.cmp .Eq (.idx (.v 0) (.v 1)) (.k (.str (S [92]))))
           [.ite (.and [.cmp .In (.k (.str (S [32]))) (.v 2),.cmp .Eq (.sl (.v 0) (some (.bin .add (.v 1) (.k (.int 1)))) (some (.bin .add (.v 1) (.k (.int 2))))) (.k (.str (S [10])))])
              [.brk]
              [],
            .upk [8,1] (.call 5 [.v 0,.v 1]),
            .asg 6 (.tup [.k (.str (S [116,101,120,116])),.v 8])]
           [.asg 9 (.v 1),
            .whl (.and [.cmp .Lt (.v 1) (.v 5),.cmp .NotIn (.idx (.v 0) (.v 1)) (.k (.str (S [36,91,92]))),.cmp .NotIn (.idx (.v 0) (.v 1)) (.v 2)])
              [.aug 1 .add (.k (.int 1))],
            .asg 6 (.tup [.k (.str (S [116,101,120,116])),.sl (.v 0) (some (.v 9)) (some (.v 1))])]]],
    .ite (.cmp .Eq (.idx (.v 6) (.k (.int 0))) (.k (.str (S [116,101,120,116]))))
      [.aug 4 .add (.idx (.v 6) (.k (.int 1)))]
      [.ite (.cmp .NotEq (.v 4) (.k (.str (S []))))
         [.app 3 (.tup [.k (.str (S [116,101,120,116])),.v 4]),
          .asg 4 (.k (.str (S [])))]
         [],
       .app 3 (.v 6)]] ρ Q) (hB:t.length≤B):∀ (n a:Nat) (x:List Nat) (w6 w7 w8 w9:Val),(t.drop a).length<n→a≤t.length→x.length≤a→clean stop sp (t.drop a)=true →
    (∀ w6 w7 w8 w9,Q (.nxt [.d (.str (S t)),.d (itD (a+(pu stop (t.drop a)).2)),.d (.tuple st),.own [],.d (sD (x++(pu stop (t.drop a)).1)),.d (itD t.length),w6,w7,w8,w9])) →
    loopW T BB Q n [.d (.str (S t)),.d (.int (a:Nat)),.d (.tuple st),.own [],.d (.str (S x)),.d (itD t.length),w6,w7,w8,w9]:=by
 intro n
 induction n with
 |zero=>intro a x w6 w7 w8 w9 h;exact (lin [_] [(1,0,.a (.v 0) (.n 1),.n 0)] rfl h).elim
 |succ n ih=>
  intro a x w6 w7 w8 w9 h ha hx hcl hQ
  have f1:t.length≤lim:=lim_B hB
  cases hd:t.drop a with
  |nil=>
   have i1:¬ a<t.length:=by rw [dr_nil hd ha];exact Nat.lt_irrefl _
   rw [hd,pu_nil,List.append_nil] at hQ
   refine byT eT eB [0,0] fun W=>W (decide_eq_false (mt Int.ofNat_lt.mp i1)) rfl ?_
   exact hQ w6 w7 w8 w9
  |cons c r=>
   obtain ⟨g1,g2,g3,g4⟩:=dr hd
   have f3:a<lim:=lt_lim (by exact linL fun q=>lin [_,_,_] [(1,0,.v 0,.v 1),(1,0,.a (.v 2) (.n 1),.v 0),(1,0,.a (.v 1) (.n 1),.v 2)] rfl hB g2 q)
   rw [hd] at hQ hcl h
   simp only [List.length_cons] at h
   have hst':=hst c
   cases hs:stop c with
   |true=>
    have hs':(!stop c)=false:=congrArg not hs
    rw [pu_stop hs,List.append_nil] at hQ
    refine byT eT eB [1,4,0] fun W=>W (decide_eq_true (Int.ofNat_lt.mpr g2)) f3 _ g1 _ hst' hs' ?_
    exact hQ w6 w7 w8 w9
   |false=>
    have hs':(!stop c)=true:=congrArg not hs
    have h36:c≠36:=fun q=>by rw [clean_bad hs (.inl q)] at hcl;cases hcl
    have h91:c≠91:=fun q=>by rw [clean_bad hs (.inr q)] at hcl;cases hcl
    by_cases h9:c=92
    ·subst h9
     have b:=bsl_fact r
     obtain ⟨p,hp⟩:∃ p,(bsl r).1=[p]:=List.length_eq_one_iff.mp b.1
     have g5:t.drop (a+(bsl r).2)=r.drop ((bsl r).2 - 1):=by
      rw [show a+(bsl r).2=(a+1)+((bsl r).2 - 1) by exact linE (fun q=>lin [_,_,_] [(1,2,.a (.v 0) (.n 1),.v 1),(1,0,.a (.a (.a (.v 2) (.n 1)) (.v 0)) (.n 1),.a (.v 2) (.v 1))] rfl (Nat.sub_add_cancel (linL fun q=>lin [_] [(1,0,.n 1,.v 0),(1,0,.a (.v 0) (.n 1),.n 1)] rfl b.2.1 q)) q) fun q=>lin [_,_,_] [(1,1,.a (.v 0) (.n 1),.v 1),(1,0,.a (.a (.v 2) (.v 1)) (.n 1),.a (.a (.v 2) (.n 1)) (.v 0))] rfl (Nat.sub_add_cancel (linL fun q=>lin [_] [(1,0,.n 1,.v 0),(1,0,.a (.v 0) (.n 1),.n 1)] rfl b.2.1 q)) q,← List.drop_drop,g3]
     rw [clean_bs h92] at hcl
     have f6:x.length+1≤lim:=lim_B (by exact linL fun q=>lin [_,_,_,_] [(1,0,.v 0,.v 1),(1,0,.v 2,.v 3),(1,0,.a (.v 3) (.n 1),.v 0),(1,0,.a (.v 1) (.n 1),.a (.v 2) (.n 1))] rfl hB hx g2 q)
     have go:loopW T BB Q n [.d (.str (S t)),.d (.int (a+(bsl r).2:Nat)),.d (.tuple st),.own [],.d (.str (S (x++[p]))),.d (itD t.length),.d (.tuple [.str (S [116,101,120,116]),.str (S [p])]),w7,.d (.str (S [p])),w9]:=by
      have hcl':clean stop sp (r.drop ((bsl r).2 - 1))=true:=by
       split at hcl
       ·cases hcl
       ·exact hcl
      rw [pu_bs h92,hp] at hQ
      refine ih (a+(bsl r).2) (x++[p]) _ _ _ _ (by rw [g5,List.length_drop];exact linT fun q=>lin [_,_,_] [(1,0,.a (.a (.v 0) (.n 1)) (.n 1),.a (.v 1) (.n 1)),(1,0,.v 2,.v 0),(1,0,.v 1,.v 2)] rfl h (Nat.sub_le _ _) q) (by exact linL fun q=>lin [_,_,_,_] [(1,2,.v 0,.a (.a (.v 1) (.n 1)) (.v 2)),(1,0,.v 3,.a (.v 2) (.n 1)),(1,0,.a (.v 0) (.n 1),.a (.v 1) (.v 3))] rfl g4 b.2.2 q) (by simp;exact linL fun q=>lin [_,_,_] [(1,0,.v 0,.v 1),(1,0,.n 1,.v 2),(1,0,.a (.a (.v 1) (.v 2)) (.n 1),.a (.v 0) (.n 1))] rfl hx b.2.1 q) (by rw [g5];exact hcl') fun w6 w7 w8 w9=>?_
      rw [g5,Nat.add_assoc,List.append_assoc]
      exact hQ w6 w7 w8 w9
     have k5':=fun K=>k5 (K:=K) hB ha hd
     simp only [hp] at k5'
     cases sp with
     |false=>
      refine byT eT eB [1,4,1,0,0,1,4,0,0,1] fun W=>W (decide_eq_true (Int.ofNat_lt.mpr g2)) f3 _ g1 _ hst' hs' f3 _ g1 (decide_eq_false (by decide)) f3 _ g1 (decide_eq_false (by decide)) f3 _ g1 (decide_eq_true rfl) _ hsp rfl rfl hlv (by decide) hlv _ (phi_of k5') rfl (by decide) _ rfl (decide_eq_true rfl) (by decide) _ rfl f6 ?_
      exact go
     |true=>
      have hn:¬ (cut t (some (a+1)) (some (a+2))=[10]):=fun q=>by
       cases r with
       |nil=>rw [show cut t (some (a+1)) (some (a+2))=[] from cut_0 g3] at q;cases q
       |cons e r=>
        rw [cut_2 g3] at q
        cases q
        cases hcl
      refine byT eT eB [1,4,1,0,0,1,4,1,0,1] fun W=>W (decide_eq_true (Int.ofNat_lt.mpr g2)) f3 _ g1 _ hst' hs' f3 _ g1 (decide_eq_false (by decide)) f3 _ g1 (decide_eq_false (by decide)) f3 _ g1 (decide_eq_true rfl) _ hsp rfl f1 (decide_eq_false hn) hlv (by decide) hlv _ (phi_of k5') rfl (by decide) _ rfl (decide_eq_true rfl) (by decide) _ rfl f6 ?_
      exact go
    ·have ho:ordP stop c=true:=by simp [ordP,hs,h36,h91,h9]
     refine byT eT eB [1,4,1,0,0,0] fun W=>W (decide_eq_true (Int.ofNat_lt.mpr g2)) f3 _ g1 _ hst' hs' f3 _ g1 (decide_eq_false (mt one_eq.mp h36)) f3 _ g1 (decide_eq_false (mt one_eq.mp h91)) f3 _ g1 (decide_eq_false (mt one_eq.mp h9)) ?_
     refine wh_of ⟨(t.drop a).length+1,fun _ _ eT eB=>l14i hst eT eB hB _ a (Nat.lt_succ_self _) ha ?_⟩
     rw [hd]
     have hle:=runP_le stop (c::r)
     simp only [List.length_cons] at hle
     have hge:1≤runP stop (c::r):=by rw [runP,if_pos ho];exact linL fun q=>lin [_] [(1,0,.a (.a (.n 1) (.v 0)) (.n 1),.n 1)] rfl q
     have g5:t.drop (a+runP stop (c::r))=(c::r).drop (runP stop (c::r)):=by rw [← hd,List.drop_drop]
     have hs2:((c::r).take (runP stop (c::r))).length≤runP stop (c::r):=by rw [List.length_take];exact linL fun q=>lin [_,_] [(1,0,.v 0,.v 1),(1,0,.a (.v 1) (.n 1),.v 0)] rfl (Nat.min_le_left _ _) q
     have f6:x.length+((c::r).take (runP stop (c::r))).length≤lim:=lim_B (by exact linL fun q=>lin [_,_,_,_,_,_,_] [(1,0,.v 0,.v 1),(1,0,.v 2,.v 3),(1,2,.v 0,.a (.a (.v 3) (.n 1)) (.v 4)),(1,0,.v 5,.a (.v 4) (.n 1)),(1,0,.v 6,.v 5),(1,0,.a (.v 1) (.n 1),.a (.v 2) (.v 6))] rfl hB hx g4 hle hs2 q)
     have hcut:cut t (some a) (some (a+runP stop (c::r)))=(c::r).take (runP stop (c::r)):=by
      show (t.drop a).take (a+runP stop (c::r) - a)=_
      rw [hd,Nat.add_sub_cancel_left]
     have f6':x.length+(cut t (some a) (some (a+runP stop (c::r)))).length≤lim:=by rw [hcut];exact f6
     show PS.wps Phi reqF 14 lv _ _ _
     refine byR [] fun W=>W f1 ?_
     show PS.wps Phi reqF 14 lv [.ite _ [.aug 4 .add _] _] _ _
     refine byR [1] fun W=>W (by decide) _ rfl (decide_eq_true rfl) (by decide) _ rfl f6' ?_
     show loopW T BB Q n [_,_,_,_,.d (.str (S (x++cut t (some a) (some (a+runP stop (c::r)))))),_,_,_,_,_]
     rw [hcut]
     rw [pu_run] at hQ
     rw [clean_run] at hcl
     refine ih (a+runP stop (c::r)) (x++(c::r).take (runP stop (c::r))) _ _ _ _ (by rw [g5,List.length_drop];simp only [List.length_cons];exact linT fun q=>lin [_,_,_,_] [(1,0,.a (.a (.v 0) (.n 1)) (.n 1),.a (.v 1) (.n 1)),(1,0,.n 1,.v 2),(1,1,.a (.v 3) (.v 2),.a (.v 0) (.n 1)),(1,0,.v 1,.v 3)] rfl h hge (Nat.sub_add_cancel (linL fun q=>lin [_,_] [(1,0,.v 0,.a (.v 1) (.n 1)),(1,0,.a (.a (.v 1) (.n 1)) (.n 1),.v 0)] rfl hle q)) q) (by exact linL fun q=>lin [_,_,_,_] [(1,2,.v 0,.a (.a (.v 1) (.n 1)) (.v 2)),(1,0,.v 3,.a (.v 2) (.n 1)),(1,0,.a (.v 0) (.n 1),.a (.v 1) (.v 3))] rfl g4 hle q) (by simp only [List.length_append];exact linL fun q=>lin [_,_,_,_] [(1,0,.v 0,.v 1),(1,0,.v 2,.v 3),(1,0,.a (.a (.v 1) (.v 3)) (.n 1),.a (.v 0) (.v 2))] rfl hx hs2 q) (by rw [g5];exact hcl) fun w6 w7 w8 w9=>?_
     rw [g5,Nat.add_assoc,List.append_assoc]
     exact hQ w6 w7 w8 w9
include hlv in
theorem p14 {t:List Nat} {a:Nat} (hst:∀ c P,CW .NotIn (.str (S [c])) (.tuple st) P=P (.bool (!stop c)))
  (hsp:∀ P,CW .In (.str (S [32])) (.tuple st) P=P (.bool sp)) (h92:stop 92=false) (hB:t.length≤B) (ha:a≤t.length) (hcl:clean stop sp (t.drop a)=true) :
  SW Phi reqF 14 lv b_parts_until [.d (.str (S t)),.d (.int (a:Nat)),.d (.tuple st),.un,.un,.un,.un,.un,.un,.un] (OutR (.ok (.tuple [partsD (pu stop (t.drop a)).1,itD (a+(pu stop (t.drop a)).2)]))):=by
 have f1:t.length≤lim:=lim_B hB
 unfold b_parts_until
 simp -dsimp only [↓w_cons,↓w_newO,↓sq_nxt,↓w_asg,↓e_k,↓e_len,↓e_v,List.set_cons_succ,List.set_cons_zero,List.getElem?_cons_zero,at_d,l_s,f1,↓gd,↓w_whl]
 refine wh_of ⟨(t.drop a).length+1,fun T BB eT eB=>l14 hlv hst hsp h92 eT eB hB _ a [] .un .un .un .un (Nat.lt_succ_self _) ha (Nat.zero_le _) hcl fun w6 w7 w8 w9=>?_⟩
 rw [List.nil_append]
 by_cases hx:(pu stop (t.drop a)).1=[]
 ·simp -dsimp only [↓sq_nxt,↓w_cons,↓w_ite,↓e_cmp,↓e_v,hx,List.getElem?_cons_succ,List.getElem?_cons_zero,at_d,↓e_k,c_nes,ne_eq,not_true_eq_false,b_bool,decide_eq_true_eq,↓w_app,at_o,↓e_tup,↓es_cons,↓es_nil,List.length_nil,gd',↓w_nil,↓w_ret,↓e_tupO,List.set_cons_succ,List.set_cons_zero,List.length_append,List.length_cons,↓sq_ret,↓or_ret,partsD,if_true,and_true,if_false]
  exact Nat.zero_le _
 ·simp -dsimp only [↓sq_nxt,↓w_cons,↓w_ite,↓e_cmp,↓e_v,List.getElem?_cons_succ,List.getElem?_cons_zero,at_d,↓e_k,c_nes,ne_eq,hx,not_false_eq_true,b_bool,decide_eq_true_eq,↓iteT,↓w_app,at_o,↓e_tup,↓es_cons,↓es_nil,List.length_nil,gd',↓w_nil,↓w_ret,↓e_tupO,List.set_cons_succ,List.set_cons_zero,List.length_append,List.length_cons,↓sq_ret,↓or_ret,partsD,if_false]
  exact ⟨Nat.zero_le _,by unfold lim;exact linL fun q=>lin [] [(1,0,.a (.n 1048576) (.n 1),.a (.n 0) (.a (.n 0) (.n 1)))] rfl q,rfl⟩
theorem stQ_ok (c:Nat) (P:PyData→Prop):CW .NotIn (.str (S [c])) (.tuple [.str (S [34])]) P=P (.bool (!stQ c)):=by
 simp -dsimp only [c_ninT,x_cons,x_nil,s_mem,List.cons.injEq,and_true,s_mem0,or_false]
 refine congrArg (fun b=>P (.bool b)) (bool_eq ?_)
 simp [stQ]
theorem spQ_ok (P:PyData→Prop):CW .In (.str (S [32])) (.tuple [.str (S [34])]) P=P (.bool false):=by
 simp -dsimp only [c_inT,x_cons,x_nil,s_mem,List.cons.injEq,Nat.reduceEqDiff,and_true,s_mem0,or_false]
 rfl
theorem stB_ok (c:Nat) (P:PyData→Prop):CW .NotIn (.str (S [c])) (.tuple bareD) P=P (.bool (!stB c)):=by
 simp -dsimp only [bareD,c_ninT,x_cons,x_nil,s_mem,List.cons.injEq,and_true,s_mem0,or_false]
 refine congrArg (fun b=>P (.bool b)) (bool_eq ?_)
 simp only [stB,Bool.not_eq_true',Bool.or_eq_false_iff,beq_eq_false_iff_ne,not_or,ne_eq,and_assoc]
theorem spB_ok (P:PyData→Prop):CW .In (.str (S [32])) (.tuple bareD) P=P (.bool true):=by
 simp -dsimp only [bareD,c_inT,x_cons,x_nil,s_mem,List.cons.injEq,Nat.reduceEqDiff,and_true,s_mem0,or_false]
 rfl
end
end Mine
end
section
open PySem PySem.W PyProof.Rows
namespace Mine
section
variable {K:RR→Prop} {t:List Nat} {a c:Nat}
theorem k9 (h:t.length≤B) (ha:a≤t.length) (hs:startOK (t.drop a)):KW (Phi 9 [.str (S t),.int a]) K=K (.ok (itD (a+gaps (t.drop a)))):=pl_kw rfl () rfl u0 h ha ⟨hs,rfl⟩ fun _ q=>q.2
theorem k14q (h:t.length≤B) (ha:a≤t.length) (hc:clean stQ false (t.drop a)=true):KW (Phi 14 [.str (S t),.int a,.tuple [.str (S [34])]]) K=K (.ok (.tuple [partsD (pu stQ (t.drop a)).1,itD (a+(pu stQ (t.drop a)).2)])):=pl_kw rfl false rfl uP h ha ⟨hc,rfl⟩ fun _ q=>q.2
theorem k14b (h:t.length≤B) (ha:a≤t.length) (hc:clean stB true (t.drop a)=true):KW (Phi 14 [.str (S t),.int a,.tuple bareD]) K=K (.ok (.tuple [partsD (pu stB (t.drop a)).1,itD (a+(pu stB (t.drop a)).2)])):=pl_kw rfl true rfl uP h ha ⟨hc,rfl⟩ fun _ q=>q.2
theorem k17 {p:Except (List Nat) (Bool × List Nat × Nat)} (h:t.length≤B) (ha:a≤t.length) (hw:wordM (t.drop a)=some p):KW (Phi 17 [.str (S t),.int a,.bool false]) K=K (wordR a p):=pl_kw rfl () rfl u0 h ha ⟨p,hw,rfl⟩ fun _ ⟨_,q,e⟩=>by
 rw [hw] at q;cases q;exact e
end
theorem gaps_le:∀ (l:List Nat),gaps l≤l.length
 | []=>by simp [gaps]
 |c::r=>by
  by_cases hg:gap c=true
  ·rw [gaps_gap hg,List.length_cons];have:=gaps_le r;exact linL fun q=>lin [_,_] [(1,0,.v 0,.v 1),(1,0,.a (.a (.v 1) (.n 1)) (.n 1),.a (.n 1) (.v 0))] rfl this q
  ·by_cases q:c=92∧r.head?=some 10
   ·obtain ⟨rfl,q⟩:=q
    cases r with
    |nil=>cases q
    |cons e r=>
     obtain rfl:e=10:=by simpa using q
     rw [gaps_bn,List.length_cons,List.length_cons];have:=gaps_le r;exact linL fun q=>lin [_,_] [(1,0,.v 0,.v 1),(1,0,.a (.a (.a (.v 1) (.n 1)) (.n 1)) (.n 1),.a (.n 2) (.v 0))] rfl this q
   ·rw [gaps_no (by simpa using hg) q];exact linL fun q=>lin [_] [(1,0,.a (.v 0) (.n 1),.n 0)] rfl q
theorem p7' {lv:Nat} (hlv:1≤lv) {t:List Nat} {a:Nat} (hB:t.length≤B) (ha:a≤t.length):SW Phi reqF 7 lv b_skip_gaps [.d (.str (S t)),.d (.int (a:Nat))] (OutR (.ok (itD (a+gaps (t.drop a))))):=by
 have:=p7 hlv (pre:=t.take a) (l:=t.drop a) (by rw [List.take_append_drop];exact hB)
 rw [List.take_append_drop,List.length_take,Nat.min_eq_left ha] at this
 exact this
section
variable {lv:Nat} (hlv:1≤lv)
include hlv in
theorem p9 {t:List Nat} {a:Nat} (hB:t.length≤B) (ha:a≤t.length) (hs:startOK (t.drop a)):SW Phi reqF 9 lv b_skip_to_command [.d (.str (S t)),.d (.int (a:Nat))] (OutR (.ok (itD (a+gaps (t.drop a))))):=by
 unfold b_skip_to_command
 simp -dsimp only [↓w_cons,↓w_asg,↓e_callK (Φ:=Phi) (req:=reqF) (k:=9) (lv:=lv) (f:=7) (by decide) hlv,↓es_cons,↓e_v,List.getElem?_cons_zero,at_d,List.getElem?_cons_succ,↓es_nil,k7 hB ha,↓rr_ok,↓sq_nxt,↓w_whl,List.set_cons_succ,List.set_cons_zero]
 refine wh_of ⟨1,fun T BB eT eB=>?_⟩
 rw [lw_step,eT]
 have f1:t.length≤lim:=lim_B hB
 have hg:=gaps_le (t.drop a)
 rw [List.length_drop] at hg
 generalize hp:a+gaps (t.drop a)=p
 have hd:(t.drop a).drop (gaps (t.drop a))=t.drop p:=by rw [List.drop_drop,hp]
 cases hc:t.drop p with
 |nil=>simp -dsimp only [↓e_cmp,↓e_sl2,↓e_v,List.getElem?_cons_zero,at_d,List.getElem?_cons_succ,↓e_bin,↓e_k,a_1,sl_2,f1,↓gd,↓e_tup,↓es_cons,↓es_nil,sub_a,hc,List.take_nil,c_inT,x_cons,x_nil,s_mem,reduceCtorEq,s_mem0,or_false,decide_false,b_bool,↓ite_ff,↓sq_nxt,↓w_cons,↓w_ret,↓sq_ret,↓or_ret]
 |cons c r=>
  obtain ⟨h1,h2,h3⟩:=hs c r (by rw [hd,hc])
  simp -dsimp only [↓e_cmp,↓e_sl2,↓e_v,List.getElem?_cons_zero,at_d,List.getElem?_cons_succ,↓e_bin,↓e_k,a_1,sl_2,f1,↓gd,↓e_tup,↓es_cons,↓es_nil,sub_a,hc,List.take_succ_cons,List.take_zero,c_inT,x_cons,x_nil,s_mem,List.cons.injEq,h1,and_true,h2,h3,s_mem0,or_false,decide_false,b_bool,↓ite_ff,↓sq_nxt,↓w_cons,↓w_ret,↓sq_ret,↓or_ret]
end
end Mine
end
section
open PySem PySem.W PyProof.Rows
namespace Mine
theorem gaps_zero {c:Nat} {r:List Nat}:decide (gaps (c::r)=0)=(!(gap c) && !(c == 92 && r.head? == some 10)):=by
 cases hg:gap c with
 |true=>rw [gaps_gap hg];simp
 |false=>
  by_cases q:c=92∧r.head?=some 10
  ·obtain ⟨rfl,q⟩:=q
   cases r with
   |nil=>cases q
   |cons e r=>
    obtain rfl:e=10:=by simpa using q
    rw [gaps_bn];simp
  ·rw [gaps_no hg q]
   have:(c == 92 && r.head? == some 10)=false:=by
    rw [Bool.eq_false_iff]
    intro h
    simp only [Bool.and_eq_true,beq_iff_eq] at h
    exact q h
   rw [this];rfl
theorem isX_no {l:List Nat} (h:l.take 3≠[123,42,125]):isX l=false:=by
 unfold isX
 split
 ·exact absurd rfl h
 ·rfl
theorem isX_3:isX [123,42,125]=false:=rfl
theorem isX_c {c:Nat} {r:List Nat}:isX (123::42::125::c::r)=(!(gap c) && !(c == 10) && !(c == 59) && !(c == 92 && r.head? == some 10)):=rfl
theorem eq_self_add {a g:Nat}:((a+g:Nat):Int)=a↔g=0:=by omega
theorem take3 {l:List Nat} (h:l.take 3=[123,42,125]):∃ r,l=123::42::125::r:=by
 refine ⟨l.drop 3,?_⟩
 have:=List.take_append_drop 3 l
 rw [h] at this
 exact this.symm
section
variable {lv:Nat} (hlv:1≤lv)
include hlv in
theorem p16 {t:List Nat} {a:Nat} (hB:t.length≤B) (ha:a≤t.length):SW Phi reqF 16 lv b_is_expanded [.d (.str (S t)),.d (.int (a:Nat)),.un] (OutR (.ok (.bool (isX (t.drop a))))):=by
 unfold b_is_expanded
 have f1:t.length≤lim:=lim_B hB
 by_cases h:(t.drop a).take 3=[123,42,125]
 ·obtain ⟨r,hr⟩:=take3 h
  have e:t.drop (a+3)=r:=by rw [← List.drop_drop,hr];rfl
  have hl:(t.drop a).length=r.length+3:=by rw [hr];rfl
  rw [List.length_drop] at hl
  have k:=fun K=>k7 (t:=t) (a:=a+3) (K:=K) hB (by exact linL fun q=>lin [_,_,_,_] [(1,2,.v 0,.a (.v 1) (.n 3)),(1,1,.a (.v 0) (.v 2),.v 3),(1,0,.a (.v 3) (.n 1),.a (.v 2) (.n 3))] rfl hl (Nat.sub_add_cancel (linL fun q=>lin [_,_] [(1,0,.v 0,.v 1),(1,0,.a (.v 1) (.n 1),.v 0)] rfl ha q)) q)
  cases r with
  |nil=>
   simp -dsimp only [↓w_cons,↓w_ite,↓e_cmp,↓e_sl2,↓e_v,List.getElem?_cons_zero,at_d,List.getElem?_cons_succ,↓e_bin,↓e_k,a_3,sl_2,f1,↓gd,sub_a,hr,List.take_succ_cons,List.take_nil,c_nes,ne_eq,not_true_eq_false,decide_false,b_bool,↓ite_ff,↓w_nil,↓sq_nxt,↓w_asg,List.set_cons_succ,List.set_cons_zero,a_1,↓e_tup,↓es_cons,↓es_nil,e,c_inT,x_cons,x_nil,s_mem,reduceCtorEq,s_mem0,or_false,decide_true,↓iteT,↓w_ret,↓sq_ret,↓or_ret,isX_3]
  |cons c r=>
   rw [hr]
   rw [e] at k
   by_cases hc:c=10∨c=59
   ·have:isX (123::42::125::c::r)=false:=by
     rw [isX_c]
     rcases hc with rfl |rfl <;> rfl
    simp -dsimp only [↓w_cons,↓w_ite,↓e_cmp,↓e_sl2,↓e_v,List.getElem?_cons_zero,at_d,List.getElem?_cons_succ,↓e_bin,↓e_k,a_3,sl_2,f1,↓gd,sub_a,hr,List.take_succ_cons,List.take_zero,c_nes,ne_eq,not_true_eq_false,decide_false,b_bool,↓ite_ff,↓w_nil,↓sq_nxt,↓w_asg,List.set_cons_succ,List.set_cons_zero,a_1,↓e_tup,↓es_cons,↓es_nil,e,c_inT,x_cons,x_nil,s_mem,reduceCtorEq,List.cons.injEq,and_true,s_mem0,or_false,hc,false_or,decide_true,↓iteT,↓w_ret,↓sq_ret,↓or_ret,this]
   ·have hc2:=not_or.mp hc
    have:isX (123::42::125::c::r)=decide (gaps (c::r)=0):=by
     rw [isX_c,gaps_zero]
     simp only [beq_eq_false_iff_ne.mpr hc2.1,beq_eq_false_iff_ne.mpr hc2.2,Bool.not_false,Bool.and_true]
    simp -dsimp only [↓w_cons,↓w_ite,↓e_cmp,↓e_sl2,↓e_v,List.getElem?_cons_zero,at_d,List.getElem?_cons_succ,↓e_bin,↓e_k,a_3,sl_2,f1,↓gd,sub_a,hr,List.take_succ_cons,List.take_zero,c_nes,ne_eq,not_true_eq_false,decide_false,b_bool,↓ite_ff,↓w_nil,↓sq_nxt,↓w_asg,List.set_cons_succ,List.set_cons_zero,a_1,↓e_tup,↓es_cons,↓es_nil,e,c_inT,x_cons,x_nil,s_mem,reduceCtorEq,List.cons.injEq,and_true,s_mem0,or_false,hc,↓w_ret,↓e_callK (Φ:=Phi) (req:=reqF) (k:=16) (lv:=lv) (f:=7) (by decide) hlv,k,↓rr_ok,c_eqi,↓sq_ret,↓or_ret,this,eq_self_add]
 ·simp -dsimp only [↓w_cons,↓w_ite,↓e_cmp,↓e_sl2,↓e_v,List.getElem?_cons_zero,at_d,List.getElem?_cons_succ,↓e_bin,↓e_k,a_3,sl_2,f1,↓gd,sub_a,c_nes,ne_eq,h,not_false_eq_true,decide_true,b_bool,↓iteT,↓w_ret,↓sq_ret,↓or_ret,isX_no h]
end
end Mine
end
section
open PySem PySem.W PyProof.Rows
namespace Mine
theorem wordIn_b {e:Bool} {off:Nat} {r:List Nat}:wordIn e off (123::r)=(match brc 1 false r with
  |some p=>some (.ok (e,p.1,off+(1+p.2)))
  |none=>some (.error msgB)):=rfl
theorem wordIn_q {e:Bool} {off:Nat} {r:List Nat}:wordIn e off (34::r)=(if clean stQ false r=true then (if r.drop (pu stQ r).2=[] then some (.error msgQ) else some (.ok (e,(pu stQ r).1,off+(1+(pu stQ r).2+1)))) else none):=rfl
theorem wordIn_o {e:Bool} {off:Nat} {l:List Nat} (h1:∀ r,l≠123::r) (h2:∀ r,l≠34::r):wordIn e off l=if clean stB true l=true then some (.ok (e,(pu stB l).1,off+(pu stB l).2)) else none:=by
 unfold wordIn
 split
 ·exact absurd rfl (h1 _)
 ·exact absurd rfl (h2 _)
 ·rfl
theorem parts_nil:partsD [] = .tuple []:=rfl
theorem parts_ne {x:List Nat} (h:x≠[]):partsD x = .tuple [.tuple [.str (S [116,101,120,116]),.str (S x)]]:=if_neg h
noncomputable def b_w2:List PS:=
 [.asg 4 (.sl (.v 0) (some (.v 1)) (some (.bin .add (.v 1) (.k (.int 1))))),
  .ite (.cmp .Eq (.v 4) (.k (.str (S [123]))))
    [.upk [5,6] (.call 13 [.v 0,.v 1]),
     .ite (.cmp .Eq (.v 5) (.k (.str (S []))))
       [.ret (.tup [.tup [.v 3,.tup []],.v 6])]
       [],
     .ret (.tup [.tup [.v 3,.tup [.tup [.k (.str (S [116,101,120,116])),.v 5]]],.v 6])]
    [],
  .ite (.cmp .Eq (.v 4) (.k (.str (S [34]))))
    [.upk [7,8] (.call 14 [.v 0,.bin .add (.v 1) (.k (.int 1)),.tup [.k (.str (S [34]))]]),
     .ite (.cmp .GtE (.v 8) (.len (.v 0)))
       [.rai (.k (.str (S [109,105,115,115,105,110,103,32,34]))) none]
       [],
     .ret (.tup [.tup [.v 3,.v 7],.bin .add (.v 8) (.k (.int 1))])]
    [],
  .upk [7,6] (.call 14 [.v 0,.v 1,.call 15 [.v 2]]),
  .ret (.tup [.tup [.v 3,.v 7],.v 6])]
section
variable {lv:Nat} (hlv:1≤lv)
set_option tactic.hygienic true in
include hlv in
theorem p17r {t:List Nat} {a b:Nat} {e:Bool} {off:Nat} {p:Except (List Nat) (Bool × List Nat × Nat)} (hB:t.length≤B) (ha:b≤t.length) (hab:b=a+off) (hw:wordIn e off (t.drop b)=some p) :
  SW Phi reqF 17 lv b_w2 [.d (.str (S t)),.d (.int (b:Nat)),.d (.bool false),.d (.bool e),.un,.un,.un,.un,.un] (OutR (wordR a p)):=by
 have hab2:∀ n,a+(off+n)=b+n:=fun n=>by exact linE (fun q=>lin [_,_,_,_] [(1,2,.v 0,.a (.v 1) (.v 2)),(1,0,.a (.a (.v 0) (.v 3)) (.n 1),.a (.v 1) (.a (.v 2) (.v 3)))] rfl hab q) fun q=>lin [_,_,_,_] [(1,1,.v 0,.a (.v 1) (.v 2)),(1,0,.a (.a (.v 1) (.a (.v 2) (.v 3))) (.n 1),.a (.v 0) (.v 3))] rfl hab q
 have f1:t.length≤lim:=lim_B hB
 by_cases h1:∃ r,t.drop b=123::r
 ·obtain ⟨r,hr⟩:=h1
  rw [hr,wordIn_b] at hw
  have k:=fun K=>k13 (K:=K) hB ha hr
  refine by_asg (d := .str (S [123])) (fun P E p=>⟨f1,by show P (.str (S (cut t (some b) (some (b+1)))));rw [cut_1 hr];exact p⟩) ?_
  cases hb:brc 1 false r with
  |none=>
   rw [hb] at hw
   cases hw
   simp only [hb] at k
   refine byR [1] fun W=>W (decide_eq_true rfl) hlv (by decide) hlv _ (phi_of k) ?_
   rfl
  |some q=>
   rw [hb] at hw
   cases hw
   simp only [hb] at k
   show PS.wps Phi reqF 17 lv (b_w2.drop 1) _ (OutR (.ok (.tuple [.tuple [.bool e,partsD q.1],itD (a+(off+(1+q.2)))])))
   rw [hab2]
   by_cases hx:q.1=[]
   ·rw [hx,parts_nil]
    rw [hx] at k
    refine byR [1,1] fun W=>W (decide_eq_true rfl) hlv (by decide) hlv _ (phi_of k) rfl (decide_eq_true rfl) ?_
    rfl
   ·rw [parts_ne hx]
    refine byR [1,0] fun W=>W (decide_eq_true rfl) hlv (by decide) hlv _ (phi_of k) rfl (decide_eq_false hx) ?_
    rfl
 ·by_cases h2:∃ r,t.drop b=34::r
  ·obtain ⟨r,hr⟩:=h2
   obtain ⟨g1,g2,g3,g4⟩:=dr hr
   refine by_asg (d := .str (S [34])) (fun P E p=>⟨f1,by show P (.str (S (cut t (some b) (some (b+1)))));rw [cut_1 hr];exact p⟩) ?_
   rw [hr,wordIn_q] at hw
   split at hw
   ·rename_i hc
    have k:∀ K,KW (Phi 14 [.str (S t),.int ((b:Int)+1),.tuple [.str (S [34])]]) K=K (.ok (.tuple [partsD (pu stQ (t.drop (b+1))).1,itD (b+1+(pu stQ (t.drop (b+1))).2)])):=fun K=>k14q (t:=t) (a:=b+1) (K:=K) hB (by exact linL fun q=>lin [_,_] [(1,0,.a (.v 0) (.n 1),.v 1),(1,0,.a (.v 1) (.n 1),.a (.v 0) (.n 1))] rfl g2 q) (by rw [g3];exact hc)
    have hpl:=pu_le stQ _ r (Nat.le_refl _)
    rw [g3] at k
    have e1:t.drop (b+1+(pu stQ r).2)=r.drop (pu stQ r).2:=by rw [← List.drop_drop,g3]
    split at hw
    ·rename_i hn
     cases hw
     have e2:t.length≤b+1+(pu stQ r).2:=by
      have:=congrArg List.length hn
      rw [List.length_drop,List.length_nil] at this
      exact linL fun q=>lin [_,_,_,_,_] [(1,1,.v 0,.a (.a (.v 1) (.n 1)) (.v 2)),(1,1,.v 3,.n 0),(1,2,.a (.v 3) (.v 4),.v 2),(1,0,.a (.a (.a (.v 1) (.n 1)) (.v 4)) (.n 1),.v 0)] rfl g4 this (Nat.sub_add_cancel (linL fun q=>lin [_,_] [(1,0,.v 0,.v 1),(1,0,.a (.v 1) (.n 1),.v 0)] rfl hpl.1 q)) q
     refine byR [0,1,1] fun W=>W (decide_eq_false (by decide)) (decide_eq_true rfl) hlv (by decide) hlv _ (phi_of k) rfl f1 (decide_eq_true (Int.ofNat_le.mpr e2)) hlv ?_
     rfl
    ·rename_i hn
     cases hw
     have e2:¬ t.length≤b+1+(pu stQ r).2:=by
      intro q
      refine hn ?_
      rw [← e1];exact List.drop_eq_nil_of_le q
     refine byR [0,1,0] fun W=>W (decide_eq_false (by decide)) (decide_eq_true rfl) hlv (by decide) hlv _ (phi_of k) rfl f1 (decide_eq_false (mt Int.ofNat_le.mp e2)) ?_
     show OutR (RR.ok (.tuple [.tuple [.bool e,partsD (pu stQ r).1],itD (a+(off+(1+(pu stQ r).2+1)))])) _
     rw [hab2,← Nat.add_assoc,← Nat.add_assoc];rfl
   ·cases hw
  ·rw [wordIn_o (fun r q=>h1 ⟨r,q⟩) (fun r q=>h2 ⟨r,q⟩)] at hw
   split at hw
   ·rename_i hc
    cases hw
    have hq:∀ x,(∀ r,t.drop b≠x::r)→¬ cut t (some b) (some (b+1))=[x]:=fun x hx q=>by
     cases hd:t.drop b with
     |nil=>rw [cut_0 hd] at q;cases q
     |cons c r=>rw [cut_1 hd] at q;cases q;exact hx r hd
    have h3:=hq 123 fun r q=>h1 ⟨r,q⟩
    have h4:=hq 34 fun r q=>h2 ⟨r,q⟩
    have k:=fun K=>k14b (K:=K) hB ha hc
    have k':=phi_of k
    refine byR [0,0] fun W=>W f1 (decide_eq_false h3) (decide_eq_false h4) hlv (by decide) hlv _ (phi_of fun _=>k15) (by decide) hlv _ k' rfl ?_
    show OutR (RR.ok (.tuple [.tuple [.bool e,partsD (pu stB (t.drop b)).1],itD (a+(off+(pu stB (t.drop b)).2))])) _
    rw [hab2];rfl
   ·cases hw
include hlv in
theorem p17 {t:List Nat} {a:Nat} {p:Except (List Nat) (Bool × List Nat × Nat)} (hB:t.length≤B) (ha:a≤t.length) (hw:wordM (t.drop a)=some p) :
  SW Phi reqF 17 lv b_word [.d (.str (S t)),.d (.int (a:Nat)),.d (.bool false),.un,.un,.un,.un,.un,.un] (OutR (wordR a p)):=by
 have e0:b_word = .asg 3 (.call 16 [.v 0,.v 1]) :: .ite (.v 3) [.aug 1 .add (.k (.int 3))] []::b_w2:=rfl
 rw [e0]
 unfold wordM at hw
 cases hx:isX (t.drop a) with
 |true=>
  rw [hx] at hw
  simp only [if_true] at hw
  have hl:3≤(t.drop a).length:=by
   refine Classical.byContradiction fun q=>?_
   have:(t.drop a).take 3≠[123,42,125]:=fun w=>by
    have:=congrArg List.length w
    simp only [List.length_take,List.length_cons,List.length_nil] at this
    exact lin [_,_] [(1,0,.a (.v 0) (.n 1),.n 3),(1,2,.v 1,.a (.a (.a (.n 0) (.n 1)) (.n 1)) (.n 1)),(1,0,.v 1,.v 0)] rfl (Nat.lt_of_not_le q) this (Nat.min_le_right _ _)
   rw [isX_no this] at hx
   cases hx
  rw [List.length_drop] at hl
  rw [List.drop_drop] at hw
  have:=p17r hlv hB (by exact linL fun q=>lin [_,_,_] [(1,0,.n 3,.v 0),(1,1,.a (.v 0) (.v 1),.v 2),(1,0,.a (.v 2) (.n 1),.a (.v 1) (.n 3))] rfl hl (Nat.sub_add_cancel (linL fun q=>lin [_,_] [(1,0,.v 0,.v 1),(1,0,.a (.v 1) (.n 1),.v 0)] rfl ha q)) q) rfl hw
  simp -dsimp only [↓w_cons,↓w_asg,↓e_callK (Φ:=Phi) (req:=reqF) (k:=17) (lv:=lv) (f:=16) (by decide) hlv,↓es_cons,↓e_v,List.getElem?_cons_zero,at_d,List.getElem?_cons_succ,↓es_nil,k16 hB ha,↓rr_ok,↓sq_nxt,↓w_ite,hx,List.set_cons_succ,List.set_cons_zero,b_bool,↓iteT,↓w_aug,nl_i,↓e_k,a_3,↓w_nil]
  exact this
 |false=>
  rw [hx] at hw
  simp only [Bool.false_eq_true,if_false] at hw
  have:=p17r hlv hB ha (Nat.add_zero a).symm hw
  simp -dsimp only [↓w_cons,↓w_asg,↓e_callK (Φ:=Phi) (req:=reqF) (k:=17) (lv:=lv) (f:=16) (by decide) hlv,↓es_cons,↓e_v,List.getElem?_cons_zero,at_d,List.getElem?_cons_succ,↓es_nil,k16 hB ha,↓rr_ok,↓sq_nxt,↓w_ite,hx,List.set_cons_succ,List.set_cons_zero,b_bool,↓ite_ff,↓w_nil]
  exact this
end
end Mine
end
section
open PySem PySem.W PyProof.Rows
namespace Mine
theorem stB_iff {c:Nat} (h:stB c=true):gap c=true∨c=10∨c=59:=
 (Bool.or_eq_true .. |>.mp h).elim (fun h=>(Bool.or_eq_true .. |>.mp h).imp id fun q => .inl (beq_iff_eq.mp q)) fun q => .inr (.inr (beq_iff_eq.mp q))
set_option tactic.hygienic true in
theorem wordIn_le {e e':Bool} {off n:Nat} {l x:List Nat} (h:wordIn e off l=some (.ok (e',x,n))):off≤n∧n≤off+l.length∧x.length≤n:=by
 by_cases h1:∃ r,l=123::r
 ·obtain ⟨r,rfl⟩:=h1
  rw [wordIn_b] at h
  cases hb:brc 1 false r with
  |none=>rw [hb] at h;cases h
  |some p=>
   rw [hb] at h
   cases h
   have:=brc_fact _ _ _ _ _ (Nat.le_refl _) hb
   simp only [List.length_cons]
   exact ⟨linL fun q=>lin [_,_] [(1,0,.a (.a (.v 0) (.a (.n 1) (.v 1))) (.n 1),.v 0)] rfl q,⟨linL fun q=>lin [_,_,_] [(1,0,.v 0,.v 1),(1,0,.a (.a (.v 2) (.a (.v 1) (.n 1))) (.n 1),.a (.v 2) (.a (.n 1) (.v 0)))] rfl this.2 q,linL fun q=>lin [_,_,_] [(1,0,.a (.v 0) (.n 1),.v 1),(1,0,.a (.a (.v 2) (.a (.n 1) (.v 1))) (.n 1),.v 0)] rfl this.1 q⟩⟩
 ·by_cases h2:∃ r,l=34::r
  ·obtain ⟨r,rfl⟩:=h2
   rw [wordIn_q] at h
   have hpl:=pu_le stQ _ r (Nat.le_refl _)
   split at h
   ·split at h
    ·cases h
    ·rename_i hn
     cases h
     have:(pu stQ r).2<r.length:=Nat.lt_of_not_le fun q=>hn (List.drop_eq_nil_of_le q)
     simp only [List.length_cons]
     exact ⟨linL fun q=>lin [_,_] [(1,0,.a (.a (.v 0) (.a (.a (.n 1) (.v 1)) (.n 1))) (.n 1),.v 0)] rfl q,⟨linL fun q=>lin [_,_,_] [(1,0,.a (.v 0) (.n 1),.v 1),(1,0,.a (.a (.v 2) (.a (.v 1) (.n 1))) (.n 1),.a (.v 2) (.a (.a (.n 1) (.v 0)) (.n 1)))] rfl this q,linL fun q=>lin [_,_,_] [(1,0,.v 0,.v 1),(1,0,.a (.a (.v 2) (.a (.a (.n 1) (.v 1)) (.n 1))) (.n 1),.v 0)] rfl hpl.2 q⟩⟩
   ·cases h
  ·rw [wordIn_o (fun r q=>h1 ⟨r,q⟩) (fun r q=>h2 ⟨r,q⟩)] at h
   have hpl:=pu_le stB _ l (Nat.le_refl _)
   split at h
   ·cases h;exact ⟨linL fun q=>lin [_,_] [(1,0,.a (.a (.v 0) (.v 1)) (.n 1),.v 0)] rfl q,⟨linL fun q=>lin [_,_,_] [(1,0,.v 0,.v 1),(1,0,.a (.a (.v 2) (.v 1)) (.n 1),.a (.v 2) (.v 0))] rfl hpl.1 q,linL fun q=>lin [_,_,_] [(1,0,.v 0,.v 1),(1,0,.a (.a (.v 2) (.v 1)) (.n 1),.v 0)] rfl hpl.2 q⟩⟩
   ·cases h
theorem wordIn_pos {e e':Bool} {off n:Nat} {l x:List Nat} {c:Nat} {r:List Nat} (h:wordIn e off l=some (.ok (e',x,n))) (hl:l=c::r) (h1:gap c=false) (h2:c≠10) (h3:c≠59):off+1≤n:=by
 subst hl
 by_cases h4:c=123
 ·subst h4
  rw [wordIn_b] at h
  cases hb:brc 1 false r with
  |none=>rw [hb] at h;cases h
  |some p=>
   rw [hb] at h
   cases h
   exact linL fun q=>lin [_,_] [(1,0,.a (.a (.v 0) (.a (.n 1) (.v 1))) (.n 1),.a (.v 0) (.n 1))] rfl q
 ·by_cases h5:c=34
  ·subst h5
   rw [wordIn_q] at h
   split at h
   ·split at h
    ·cases h
    ·cases h;exact linL fun q=>lin [_,_] [(1,0,.a (.a (.v 0) (.a (.a (.n 1) (.v 1)) (.n 1))) (.n 1),.a (.v 0) (.n 1))] rfl q
   ·cases h
  ·rw [wordIn_o (fun r q=>by cases q;exact h4 rfl) (fun r q=>by cases q;exact h5 rfl)] at h
   split at h
   ·cases h
    have hs:stB c=false:=by
     cases q:stB c with
     |false=>rfl
     |true=>rcases stB_iff q with w |w |w
            ·rw [h1] at w;cases w
            ·exact absurd w h2
            ·exact absurd w h3
    by_cases h6:c=92
    ·subst h6
     have b:=bsl_fact r
     rw [pu_bs hs]
     simp only
     exact linL fun q=>lin [_,_,_] [(1,0,.n 1,.v 0),(1,0,.a (.a (.v 1) (.a (.v 0) (.v 2))) (.n 1),.a (.v 1) (.n 1))] rfl b.2.1 q
    ·rw [pu_ch hs h6]
     simp only
     exact linL fun q=>lin [_,_] [(1,0,.a (.a (.v 0) (.a (.n 1) (.v 1))) (.n 1),.a (.v 0) (.n 1))] rfl q
   ·cases h
set_option tactic.hygienic true in
theorem isX_take {l:List Nat} (h:isX l=true):∃ c r,l=123::42::125::c::r∧gap c=false∧c≠10∧c≠59:=by
 unfold isX at h
 split at h
 ·rename_i c r
  simp only [Bool.and_eq_true,Bool.not_eq_true',beq_eq_false_iff_ne] at h
  exact ⟨c,r,rfl,h.1.1.1,h.1.1.2,h.1.2⟩
 ·cases h
set_option tactic.hygienic true in
theorem wordM_le {e:Bool} {n:Nat} {l x:List Nat} (h:wordM l=some (.ok (e,x,n))):n≤l.length∧x.length≤n:=by
 unfold wordM at h
 split at h
 ·rename_i q
  obtain ⟨c,r,rfl,_⟩:=isX_take q
  have:=wordIn_le h
  simp only [List.length_cons,List.drop_succ_cons,List.drop_zero] at this ⊢
  exact ⟨linL fun q=>lin [_,_] [(1,0,.v 0,.a (.n 3) (.a (.v 1) (.n 1))),(1,0,.a (.a (.a (.a (.a (.v 1) (.n 1)) (.n 1)) (.n 1)) (.n 1)) (.n 1),.v 0)] rfl this.2.1 q,linL fun q=>lin [_,_] [(1,0,.v 0,.v 1),(1,0,.a (.v 1) (.n 1),.v 0)] rfl this.2.2 q⟩
 ·have:=wordIn_le h
  exact ⟨linL fun q=>lin [_,_] [(1,0,.v 0,.a (.n 0) (.v 1)),(1,0,.a (.v 1) (.n 1),.v 0)] rfl this.2.1 q,linL fun q=>lin [_,_] [(1,0,.v 0,.v 1),(1,0,.a (.v 1) (.n 1),.v 0)] rfl this.2.2 q⟩
theorem wordM_pos {e:Bool} {n:Nat} {l x:List Nat} {c:Nat} {r:List Nat} (h:wordM l=some (.ok (e,x,n))) (hl:l=c::r) (h1:gap c=false) (h2:c≠10) (h3:c≠59):1≤n:=by
 unfold wordM at h
 split at h
 ·have:=wordIn_le h
  exact linL fun q=>lin [_] [(1,0,.n 3,.v 0),(1,0,.a (.v 0) (.n 1),.n 1)] rfl this.1 q
 ·have:=wordIn_pos h hl h1 h2 h3
  exact linL fun q=>lin [_] [(1,0,.a (.n 0) (.n 1),.v 0),(1,0,.a (.v 0) (.n 1),.n 1)] rfl this q
noncomputable def lhead (l:List Nat):Prop:=∀ c r,l=c::r→gap c=false∧c≠10∧c≠59
theorem k17w {K:RR→Prop} {t:List Nat} {a:Nat} {p:Except (List Nat) (Bool × List Nat × Nat)} (h:t.length≤B) (ha:a≤t.length) (hw:wordM (t.drop a)=some p):KW (Phi 17 [.str (S t),.int a,.bool false]) K=K (wordR a p):=by
 rw [k17 h ha hw]
theorem cmdM_ok {k:Nat} {l x:List Nat} {e:Bool} {n:Nat} (h:wordM l=some (.ok (e,x,n))):cmdM (k+1) l=(match (l.drop n).drop (gaps (l.drop n)) with
   | []=>some (.ok ([(e,x)],n))
   |c::r=>if c=10∨c=59 then none else if gaps (l.drop n)=0 then some (.error (if prevQ l n=true then msgXQ else msgXB)) else match cmdM k (c::r) with
    |none=>none
    |some (.error m)=>some (.error m)
    |some (.ok (ws,m))=>some (.ok ((e,x)::ws,n+gaps (l.drop n)+m))):=by
 rw [cmdM,h]
 try rfl
theorem gaps_head {l:List Nat}:∀ {c:Nat} {r:List Nat},l.drop (gaps l)=c::r→gap c=false∧gaps (c::r)=0:=by
 induction hn:l.length using Nat.strongRecOn generalizing l with
 |_ n ih=>
  intro c r h
  cases l with
  |nil=>simp [gaps] at h
  |cons d l=>
   by_cases hg:gap d=true
   ·rw [gaps_gap hg,Nat.add_comm,List.drop_succ_cons] at h
    exact ih l.length (by simp only [List.length_cons] at hn;exact linT fun q=>lin [_,_] [(1,1,.a (.v 0) (.n 1),.v 1),(1,0,.v 1,.v 0)] rfl hn q) rfl h
   ·by_cases q:d=92∧l.head?=some 10
    ·obtain ⟨rfl,q⟩:=q
     cases l with
     |nil=>cases q
     |cons e l=>
      obtain rfl:e=10:=by simpa using q
      rw [gaps_bn,Nat.add_comm,List.drop_succ_cons,List.drop_succ_cons] at h
      exact ih l.length (by simp only [List.length_cons] at hn;exact linT fun q=>lin [_,_] [(1,1,.a (.a (.v 0) (.n 1)) (.n 1),.v 1),(1,0,.v 1,.v 0)] rfl hn q) rfl h
    ·have e:=gaps_no (by simpa using hg) q
     rw [e,List.drop_zero] at h
     cases h
     exact ⟨by simpa using hg,e⟩
noncomputable def cmdO (bg p sz:Nat) (ws:List (Bool × List Nat)):Except (List Nat) (List (Bool × List Nat) × Nat)→Out
 | .ok q => .ret (.tuple [.tuple ((ws++q.1).map wordD),itD bg,itD (p+q.2),itD sz])
 | .error m => .exc ⟨S m,dNONE⟩
section
variable {lv:Nat} (hlv:1≤lv)
set_option tactic.hygienic true in
include hlv in
theorem l18 {T:Loc→(PyData→Prop)→(Exc→Prop)→Prop} {BB:Loc→(Out→Prop)→Prop} {Q:Out→Prop} {w1:Val} {bg:Nat}
  (eT:∀ ρ P E,T ρ P E=EW Phi reqF 18 lv (.k (.bool true)) ρ P E)
  (eB:∀ ρ Q,BB ρ Q=SW Phi reqF 18 lv [.upk [7,8] (.call 17 [.v 0,.v 6,.v 2]),
    .app 5 (.v 7),
    .asg 6 (.call 7 [.v 0,.v 8]),
    .ite (.cmp .GtE (.v 6) (.v 4))
      [.ret (.tup [.tupO 5,.v 3,.v 8,.v 4])]
      [],
    .ite (.cmp .In (.idx (.v 0) (.v 6)) (.tup [.k (.str (S [10])),.k (.str (S [59]))]))
      [.ret (.tup [.tupO 5,.v 3,.v 8,.bin .add (.v 6) (.k (.int 1))])]
      [],
    .ite (.and [.v 2,.cmp .Eq (.idx (.v 0) (.v 6)) (.k (.str (S [93])))])
      [.ret (.tup [.tupO 5,.v 3,.v 8,.v 6])]
      [],
    .ite (.cmp .Eq (.v 6) (.v 8))
      [.ite (.cmp .Eq (.idx (.v 0) (.bin .sub (.v 8) (.k (.int 1)))) (.k (.str (S [34]))))
         [.rai (.k (.str (S [101,120,116,114,97,32,99,104,97,114,97,99,116,101,114,115,32,97,102,116,101,114,32,99,108,111,115,101,45,113,117,111,116,101]))) none]
         [],
       .rai (.k (.str (S [101,120,116,114,97,32,99,104,97,114,97,99,116,101,114,115,32,97,102,116,101,114,32,99,108,111,115,101,45,98,114,97,99,101]))) none]
      []] ρ Q) {t:List Nat} (hB:t.length≤B):∀ (n p k:Nat) (ws:List (Bool × List Nat)) (w7 w8:Val) (res:Except (List Nat) (List (Bool × List Nat) × Nat)),(t.drop p).length<n→p≤t.length→ws.length≤p→lhead (t.drop p) →
    cmdM k (t.drop p)=some res→Q (cmdO bg p t.length ws res) →
    loopW T BB Q n [.d (.str (S t)),w1,.d (.bool false),.d (itD bg),.d (itD t.length),.own (ws.map wordD),.d (.int (p:Nat)),w7,w8]:=by
 intro n
 induction n with
 |zero=>intro p k ws w7 w8 res h;exact (lin [_] [(1,0,.a (.v 0) (.n 1),.n 0)] rfl h).elim
 |succ n ih=>
  intro p k ws w7 w8 res h hp hws hh hc hQ
  cases k with
  |zero=>cases hc
  |succ kk=>
  have f1:t.length≤lim:=lim_B hB
  cases hw:wordM (t.drop p) with
  |none=>rw [cmdM,hw] at hc;cases hc
  |some q=>
   have k:=fun K=>k17w (K:=K) hB hp hw
   cases q with
   |error m=>
    rw [cmdM,hw] at hc
    cases hc
    refine byT eT eB [1] fun W=>W rfl hlv (by decide) hlv _ (phi_of k) ?_
    exact hQ
   |ok q=>
    obtain ⟨e,x,m⟩:=q
    have hle:=wordM_le hw
    rw [List.length_drop] at hle h
    have k7':=fun K=>k7 (K:=K) (t:=t) (a:=p+m) hB (by exact linL fun q=>lin [_,_,_,_] [(1,0,.v 0,.v 1),(1,1,.a (.v 1) (.v 2),.v 3),(1,0,.a (.v 3) (.n 1),.a (.v 2) (.v 0))] rfl hle.1 (Nat.sub_add_cancel (linL fun q=>lin [_,_] [(1,0,.v 0,.v 1),(1,0,.a (.v 1) (.n 1),.v 0)] rfl hp q)) q)
    have hgl:=gaps_le (t.drop (p+m))
    rw [List.length_drop] at hgl
    have f2:ws.length≤lim:=lim_B (by exact linL fun q=>lin [_,_,_,_] [(1,0,.v 0,.v 1),(1,0,.v 2,.v 0),(1,0,.v 3,.v 2),(1,0,.a (.v 1) (.n 1),.v 3)] rfl hB hp hws q)
    have f2':(ws.map wordD).length≤lim:=by rw [List.length_map];exact f2
    have f3:ws.length+1≤lim:=by unfold B at hB;unfold lim;exact linL fun q=>lin [_,_,_] [(1,0,.v 0,.n 65536),(1,0,.v 1,.v 0),(1,0,.v 2,.v 1),(1,0,.a (.n 1048576) (.n 1),.a (.v 2) (.n 1))] rfl hB hp hws q
    have f3':(ws.map wordD++[wordD (e,x)]).length≤lim:=by rw [List.length_append,List.length_map];exact f3
    have e0:(t.drop p).drop m=t.drop (p+m):=List.drop_drop ..
    rw [cmdM_ok hw,e0] at hc
    generalize hg:p+m+gaps (t.drop (p+m))=p2
    have hdd:(t.drop (p+m)).drop (gaps (t.drop (p+m)))=t.drop p2:=by rw [List.drop_drop,hg]
    rw [hdd] at hc
    have f4:p2≤t.length:=by exact linL fun q=>lin [_,_,_,_,_,_] [(1,0,.v 0,.v 1),(1,2,.a (.a (.v 2) (.v 3)) (.v 0),.v 4),(1,1,.a (.v 1) (.a (.v 2) (.v 3)),.v 5),(1,0,.a (.v 5) (.n 1),.v 4)] rfl hgl hg (Nat.sub_add_cancel (linL fun q=>lin [_,_,_,_] [(1,0,.v 0,.v 1),(1,1,.a (.v 1) (.v 2),.v 3),(1,0,.a (.v 3) (.n 1),.a (.v 2) (.v 0))] rfl hle.1 (Nat.sub_add_cancel (linL fun q=>lin [_,_] [(1,0,.v 0,.v 1),(1,0,.a (.v 1) (.n 1),.v 0)] rfl hp q)) q)) q
    rw [hg] at k7'
    have hm2:List.map wordD ws++[wordD (e,x)]=(ws++[(e,x)]).map wordD:=(List.map_append (l₁:=ws) (l₂:=[(e,x)])).symm
    cases hd:t.drop p2 with
    |nil=>
     rw [hd] at hc
     cases hc
     have e1:t.length≤p2:=Nat.le_of_eq (dr_nil hd f4).symm
     refine byT eT eB [1,1] fun W=>W rfl hlv (by decide) hlv _ (phi_of k) rfl f2' (by decide) hlv _ (phi_of k7') (decide_eq_true (Int.ofNat_le.mpr e1)) f3' ?_
     show Q (.ret (.tuple [.tuple (List.map wordD ws++[wordD (e,x)]),_,_,_]))
     rw [hm2]
     exact hQ
    |cons c r=>
     rw [hd] at hc
     obtain ⟨g1,g2,g3,g4⟩:=dr hd
     have f5:¬ t.length≤p2:=by exact fun q=>lin [_,_] [(1,0,.a (.v 0) (.n 1),.v 1),(1,0,.v 1,.v 0)] rfl g2 q
     have f6:p2<lim:=lt_lim (by exact linL fun q=>lin [_,_,_] [(1,0,.v 0,.v 1),(1,0,.a (.v 2) (.n 1),.v 0),(1,0,.a (.v 1) (.n 1),.v 2)] rfl hB g2 q)
     simp only at hc
     split at hc
     ·cases hc
     ·rename_i hne
      obtain ⟨hn1,hn2⟩:=not_or.mp hne
      have gh:=gaps_head (l:=t.drop (p+m)) (c:=c) (r:=r) (by rw [List.drop_drop,hg,hd])
      split at hc
      ·rename_i hz
       have e1:p2=p+m:=by exact linE (fun q=>lin [_,_,_,_] [(1,2,.a (.a (.v 0) (.v 1)) (.v 2),.v 3),(1,1,.v 2,.n 0),(1,0,.a (.a (.v 0) (.v 1)) (.n 1),.v 3)] rfl hg hz q) fun q=>lin [_,_,_,_] [(1,1,.a (.a (.v 0) (.v 1)) (.v 2),.v 3),(1,0,.a (.v 3) (.n 1),.a (.v 0) (.v 1))] rfl hg q
       cases hc
       have hm:1≤m:=by
        refine Classical.byContradiction fun q=>?_
        have hm0:m=0:=Nat.eq_zero_of_not_pos q
        subst hm0
        rw [Nat.add_zero] at hz hg
        rw [hz,Nat.add_zero] at hg
        subst hg
        exact absurd (wordM_pos hw hd gh.1 hn1 hn2) (by exact fun q=>lin [] [(1,0,.n 1,.n 0)] rfl q)
       have f7:p+m - 1<lim:=lt_lim (by exact linL fun q=>lin [_,_,_,_,_,_,_] [(1,0,.v 0,.v 1),(1,1,.a (.a (.v 2) (.v 3)) (.v 4),.v 5),(1,0,.a (.v 5) (.n 1),.v 0),(1,1,.a (.v 6) (.n 1),.a (.v 2) (.v 3)),(1,0,.a (.v 1) (.n 1),.v 6)] rfl hB hg g2 (Nat.sub_add_cancel (linL fun q=>lin [_,_] [(1,0,.n 1,.v 0),(1,0,.a (.a (.v 1) (.v 0)) (.n 1),.n 1)] rfl hm q)) q)
       have hi:p+m - 1<t.length:=by exact linT fun q=>lin [_,_,_,_,_,_] [(1,1,.a (.a (.v 0) (.v 1)) (.v 2),.v 3),(1,0,.a (.v 3) (.n 1),.v 4),(1,1,.a (.v 5) (.n 1),.a (.v 0) (.v 1)),(1,0,.v 4,.v 5)] rfl hg g2 (Nat.sub_add_cancel (linL fun q=>lin [_,_] [(1,0,.n 1,.v 0),(1,0,.a (.a (.v 1) (.v 0)) (.n 1),.n 1)] rfl hm q)) q
       have hget:t[p+m - 1]?=some (t[p+m - 1]):=List.getElem?_eq_getElem hi
       have hpr:prevQ (t.drop p) m=decide (t[p+m - 1]=34):=by
        unfold prevQ
        rw [List.getElem?_drop,show p+(m - 1)=p+m - 1 by exact linE (fun q=>lin [_,_,_,_] [(1,2,.a (.v 0) (.n 1),.a (.v 1) (.v 2)),(1,1,.a (.v 3) (.n 1),.v 2),(1,0,.a (.v 0) (.n 1),.a (.v 1) (.v 3))] rfl (Nat.sub_add_cancel (linL fun q=>lin [_,_] [(1,0,.n 1,.v 0),(1,0,.a (.a (.v 1) (.v 0)) (.n 1),.n 1)] rfl hm q)) (Nat.sub_add_cancel (linL fun q=>lin [_] [(1,0,.n 1,.v 0),(1,0,.a (.v 0) (.n 1),.n 1)] rfl hm q)) q) fun q=>lin [_,_,_,_] [(1,1,.a (.v 0) (.n 1),.a (.v 1) (.v 2)),(1,2,.a (.v 3) (.n 1),.v 2),(1,0,.a (.a (.v 1) (.v 3)) (.n 1),.v 0)] rfl (Nat.sub_add_cancel (linL fun q=>lin [_,_] [(1,0,.n 1,.v 0),(1,0,.a (.a (.v 1) (.v 0)) (.n 1),.n 1)] rfl hm q)) (Nat.sub_add_cancel (linL fun q=>lin [_] [(1,0,.n 1,.v 0),(1,0,.a (.v 0) (.n 1),.n 1)] rfl hm q)) q,hget]
        rw [Bool.eq_iff_iff,beq_iff_eq,decide_eq_true_eq,Option.some.injEq]
       have i7:((p+m:Nat):Int) - 1=((p+m - 1:Nat):Int):=(Int.ofNat_sub (Nat.le_trans hm (Nat.le_add_left _ _))).symm
       have i8:(p2:Int)=(p+m:Nat):=congrArg Int.ofNat e1
       rw [hpr] at hQ
       by_cases h34:t[p+m - 1]=34
       ·rw [h34] at hget
        rw [decide_eq_true h34] at hQ
        refine byT eT eB [1,0,0,0,0,1,3,1] fun W=>W rfl hlv (by decide) hlv _ (phi_of k) rfl f2' (by decide) hlv _ (phi_of k7') (decide_eq_false (mt Int.ofNat_le.mp f5)) f6 _ g1 (decide_eq_false (mt mem2.mp hne)) rfl rfl (decide_eq_true i8) _ i7 f7 _ hget (decide_eq_true rfl) hlv ?_
        exact hQ
       ·rw [decide_eq_false h34] at hQ
        refine byT eT eB [1,0,0,0,0,1,3,0] fun W=>W rfl hlv (by decide) hlv _ (phi_of k) rfl f2' (by decide) hlv _ (phi_of k7') (decide_eq_false (mt Int.ofNat_le.mp f5)) f6 _ g1 (decide_eq_false (mt mem2.mp hne)) rfl rfl (decide_eq_true i8) _ i7 f7 _ hget (decide_eq_false (mt one_eq.mp h34)) hlv ?_
        exact hQ
      ·rename_i hz
       have e1:¬ ((p2:Int)=(p+m:Nat)):=fun q=>hz (Nat.add_left_cancel ((hg.trans (Int.ofNat.inj q)).trans (Nat.add_zero _).symm))
       have hge:p+1≤p2:=by
        rcases Nat.eq_zero_or_pos m with q |q
        ·rw [q,Nat.add_zero] at hg hz
         rw [← hg];exact Nat.add_le_add_left (Nat.pos_of_ne_zero hz) _
        ·rw [← hg,Nat.add_assoc];exact Nat.add_le_add_left (Nat.le_trans q (Nat.le_add_right _ _)) _
       have hlh:lhead (t.drop p2):=fun c' r' q=>by
        rw [hd] at q
        cases q
        exact ⟨gh.1,hn1,hn2⟩
       cases hcm:cmdM kk (c::r) with
       |none=>rw [hcm] at hc;cases hc
       |some res2=>
        rw [hcm] at hc
        refine byT eT eB [1,0,0,0,0,0] fun W=>W rfl hlv (by decide) hlv _ (phi_of k) rfl f2' (by decide) hlv _ (phi_of k7') (decide_eq_false (mt Int.ofNat_le.mp f5)) f6 _ g1 (decide_eq_false (mt mem2.mp hne)) rfl rfl (decide_eq_false e1) ?_
        show loopW T BB Q n [_,_,_,_,_,.own (List.map wordD ws++[wordD (e,x)]),_,_,_]
        rw [hm2]
        refine ih p2 _ (ws++[(e,x)]) _ _ res2 (by rw [List.length_drop];omega) f4 (by rw [List.length_append];exact Nat.le_trans (Nat.succ_le_succ hws) hge) hlh (by rw [hd];exact hcm) ?_
        cases res2 with
        |error m=>cases hc;exact hQ
        |ok q=>
         cases hc
         simp only [cmdO] at hQ ⊢
         rw [List.append_assoc,show p2+q.2=p+(m+gaps (t.drop (p+m))+q.2) by exact linE (fun q=>lin [_,_,_,_,_] [(1,2,.a (.a (.v 0) (.v 1)) (.v 2),.v 3),(1,0,.a (.a (.v 0) (.a (.a (.v 1) (.v 2)) (.v 4))) (.n 1),.a (.v 3) (.v 4))] rfl hg q) fun q=>lin [_,_,_,_,_] [(1,1,.a (.a (.v 0) (.v 1)) (.v 2),.v 3),(1,0,.a (.a (.v 3) (.v 4)) (.n 1),.a (.v 0) (.a (.a (.v 1) (.v 2)) (.v 4)))] rfl hg q]
         exact hQ
end
end Mine
end
section
open PySem PySem.W PyProof.Rows
namespace Mine
section
variable {K:RR→Prop} {t:List Nat} {a:Nat}
theorem k18 {v:RR} (h:t.length≤B) (ha:a≤t.length) (hv:cmdR t.length a (t.drop a)=some v):KW (Phi 18 [.str (S t),.int a]) K=K v:=pl_kw rfl () rfl u0 h ha hv fun _ q=>Option.some.inj (q.symm.trans hv)
theorem k18_0 {v:RR} (h:t.length≤B) (hv:cmdR t.length 0 t=some v):KW (Phi 18 [.str (S t),.int 0]) K=K v:=k18 (a:=0) h (Nat.zero_le _) hv
theorem k19 {v:RR} (h:t.length≤B) (hv:cmdR t.length 0 t=some v):KW (Phi 19 [.str (S t)]) K=K (onlyR v):=tx_kw rfl () rfl u0 h ⟨v,hv,rfl⟩ fun _ ⟨_,q,e⟩=>by
 rw [hv] at q;cases q;exact e
set_option tactic.hygienic true in
theorem k20 {w:Bool × List Nat}:KW (Phi 20 [wordD w]) K=K (.ok (if w.1=true then .none else sD w.2)):=by
 refine ex_one fun r=>⟨fun ⟨⟨w',e,q⟩⟩=>?_,fun q=>⟨⟨w,rfl,q⟩⟩⟩
 have:w=w':=by
  obtain ⟨b,x⟩:=w
  obtain ⟨b',x'⟩:=w'
  simp only [wordD,List.cons.injEq,PyData.tuple.injEq,PyData.bool.injEq,and_true] at e
  obtain ⟨rfl,e⟩:=e
  congr 1
  unfold partsD at e
  split at e <;> split at e
  ·rename_i q1 q2;rw [q1,q2]
  ·cases e
  ·cases e
  ·simpa using e
 rw [this];exact q
end
theorem cmdR_nil {n a:Nat}:cmdR n a []=some (.ok .none):=by unfold cmdR;rfl
set_option tactic.hygienic true in
theorem cmdR_some {n a:Nat} {l:List Nat} {v:RR} (h:cmdR n a l=some v):(l.drop (gaps l)=[]∧v = .ok .none)∨∃ c r p,l.drop (gaps l)=c::r∧c≠10∧c≠59∧c≠35∧cmdM (n+1) (c::r)=some p∧v=(match p with
  | .ok p => .ok (.tuple [.tuple (p.1.map wordD),itD (a+gaps l),itD (a+gaps l+p.2),itD n])
  | .error m=>exN m):=by
 unfold cmdR at h
 cases hd:l.drop (gaps l) with
 |nil=>rw [hd] at h;cases h;exact .inl ⟨rfl,rfl⟩
 |cons c r=>
  rw [hd] at h
  refine .inr ⟨c,r,?_⟩
  simp only at h
  split at h
  ·cases h
  ·rename_i q
   obtain ⟨q1,q2⟩:=not_or.mp q
   obtain ⟨q2,q3⟩:=not_or.mp q2
   split at h
   ·rename_i p hp
    cases h
    exact ⟨.ok p,rfl,q1,q2,q3,hp,rfl⟩
   ·rename_i p hp
    cases h
    exact ⟨.error p,rfl,q1,q2,q3,hp,rfl⟩
   ·cases h
theorem gaps_bound {t:List Nat} {a:Nat} (ha:a≤t.length):a+gaps (t.drop a)≤t.length:=by
 have hg:=gaps_le (t.drop a)
 rw [List.length_drop] at hg
 exact linL fun q=>lin [_,_,_,_] [(1,0,.v 0,.v 1),(1,1,.a (.v 1) (.v 2),.v 3),(1,0,.a (.v 3) (.n 1),.a (.v 2) (.v 0))] rfl hg (Nat.sub_add_cancel (linL fun q=>lin [_,_] [(1,0,.v 0,.v 1),(1,0,.a (.v 1) (.n 1),.v 0)] rfl ha q)) q
section
variable {lv:Nat} (hlv:1≤lv)
include hlv in
theorem p18 {t:List Nat} {a:Nat} {v:RR} (hB:t.length≤B) (ha:a≤t.length) (hv:cmdR t.length a (t.drop a)=some v) :
  SW Phi reqF 18 lv b_command_at [.d (.str (S t)),.d (.int (a:Nat)),.d (.bool false),.un,.un,.un,.un,.un,.un] (OutR v):=by
 unfold b_command_at
 have f1:t.length≤lim:=lim_B hB
 have hgb:=gaps_bound ha
 rcases cmdR_some hv with ⟨hn,rfl⟩ |⟨c,r,p,hd,h1,h2,h3,hp,rfl⟩
 ·have hs:startOK (t.drop a):=fun c r q=>by rw [hn] at q;cases q
  have e1:t.length≤a+gaps (t.drop a):=by
   have:=congrArg List.length hn
   rw [List.length_drop,List.length_drop,List.length_nil] at this
   omega
  simp -dsimp only [↓w_cons,↓w_asg,↓e_callK (Φ:=Phi) (req:=reqF) (k:=18) (lv:=lv) (f:=9) (by decide) hlv,↓es_cons,↓e_v,List.getElem?_cons_zero,at_d,List.getElem?_cons_succ,↓es_nil,k9 hB ha hs,↓rr_ok,↓sq_nxt,↓e_len,List.set_cons_succ,List.set_cons_zero,l_s,f1,↓gd,↓w_ite,↓e_or1,↓e_cmp,e1,↓c_geT,b_bool,↓iteT,↓w_ret,↓e_k,↓sq_ret,↓or_ret]
 ·have hs:startOK (t.drop a):=fun c' r' q=>by rw [hd] at q;cases q;exact ⟨h1,h2,h3⟩
  have gh:=gaps_head hd
  rw [List.drop_drop] at hd
  obtain ⟨g1,g2,g3,g4⟩:=dr hd
  have e1:¬ t.length≤a+gaps (t.drop a):=by exact fun q=>lin [_,_,_] [(1,0,.a (.a (.v 0) (.v 1)) (.n 1),.v 2),(1,0,.v 2,.a (.v 0) (.v 1))] rfl g2 q
  simp -dsimp only [↓w_cons,↓w_asg,↓e_callK (Φ:=Phi) (req:=reqF) (k:=18) (lv:=lv) (f:=9) (by decide) hlv,↓es_cons,↓e_v,List.getElem?_cons_zero,at_d,List.getElem?_cons_succ,↓es_nil,k9 hB ha hs,↓rr_ok,↓sq_nxt,↓e_len,List.set_cons_succ,List.set_cons_zero,l_s,f1,↓gd,↓w_ite,↓e_or1,↓e_cmp,c_ge,e1,decide_false,b_bool,↓ite_ff,↓e_and1,↓w_nil,↓w_newO,↓w_whl]
  refine wh_of ⟨(t.drop (a+gaps (t.drop a))).length+1,fun T BB eT eB=>l18 hlv eT eB hB _ _ (t.length+1) [] .un .un p (Nat.lt_succ_self _) hgb (Nat.zero_le _) ?_ (by rw [hd];exact hp) ?_⟩
  ·intro c' r' q
   rw [hd] at q
   cases q
   exact ⟨gh.1,h1,h2⟩
  ·cases p with
   |ok p=>simp -dsimp only [↓w_nil,↓or_nxt,cmdO,List.nil_append,↓sq_ret,↓or_ret]
   |error m=>simp -dsimp only [↓w_nil,↓or_nxt,exN,reduceCtorEq,cmdO,↓sq_exc,↓or_exc]
include hlv in
theorem p19 {t:List Nat} {v:RR} (hB:t.length≤B) (hv:cmdR t.length 0 t=some v) :
  SW Phi reqF 19 lv b_commands_of [.d (.str (S t)),.un,.un] (OutR (onlyR v)):=by
 unfold b_commands_of
 have f1:t.length≤lim:=lim_B hB
 rcases cmdR_some hv with ⟨hn,rfl⟩ |⟨c,r,p,hd,h1,h2,h3,hp,rfl⟩
 ·simp -dsimp only [↓w_cons,↓w_newO,↓sq_nxt,↓w_asg,↓e_callK (Φ:=Phi) (req:=reqF) (k:=19) (lv:=lv) (f:=18) (by decide) hlv,↓es_cons,↓e_v,List.set_cons_succ,List.set_cons_zero,List.getElem?_cons_zero,at_d,↓e_k,↓es_nil,k18_0 hB hv,↓rr_ok,↓w_whl]
  refine wh_of ⟨1,fun T BB eT eB=>?_⟩
  rw [lw_step,eT]
  simp -dsimp only [↓e_cmp,↓e_v,List.getElem?_cons_succ,List.getElem?_cons_zero,at_d,↓e_k,c_isn0,b_bool,↓ite_ff,↓sq_nxt,↓w_cons,↓w_frz,at_o,↓w_ret,List.set_cons_succ,List.set_cons_zero,↓sq_ret,↓or_ret,onlyR]
 ·cases p with
  |error m=>simp -dsimp only [↓w_cons,↓w_newO,↓sq_nxt,↓w_asg,↓e_callK (Φ:=Phi) (req:=reqF) (k:=19) (lv:=lv) (f:=18) (by decide) hlv,↓es_cons,↓e_v,List.set_cons_succ,List.set_cons_zero,List.getElem?_cons_zero,at_d,↓e_k,↓es_nil,k18_0 hB hv,↓w_whl,↓sq_exc,↓or_exc,onlyR,exN,↓rr_exc]
  |ok p=>
   simp -dsimp only [↓w_cons,↓w_newO,↓sq_nxt,↓w_asg,↓e_callK (Φ:=Phi) (req:=reqF) (k:=19) (lv:=lv) (f:=18) (by decide) hlv,↓es_cons,↓e_v,List.set_cons_succ,List.set_cons_zero,List.getElem?_cons_zero,at_d,↓e_k,↓es_nil,k18_0 hB hv,↓rr_ok,↓w_whl]
   refine wh_of ⟨2,fun T BB eT eB=>?_⟩
   rw [lw_step,eT]
   have k:=fun K=>k18 (K:=K) (t:=t) (a:=t.length) (v := .ok .none) hB (Nat.le_refl _) (by rw [List.drop_length];exact cmdR_nil)
   simp -dsimp only [↓e_cmp,↓e_v,List.getElem?_cons_succ,List.getElem?_cons_zero,at_d,↓e_k,c_isnT,b_bool,↓iteT,↓w_cons,↓w_frz,eB,↓w_app,at_o,List.length_nil,Nat.zero_le,↓gd,↓sq_nxt,↓w_asg,↓e_callK (Φ:=Phi) (req:=reqF) (k:=19) (lv:=lv) (f:=18) (by decide) hlv,↓es_cons,List.set_cons_succ,List.set_cons_zero,↓e_idx,i_t3,↓es_nil,k,↓rr_ok,↓w_nil,↓lq_nxt]
   rw [lw_step,eT]
   simp -dsimp only [↓e_cmp,↓e_v,List.nil_append,List.getElem?_cons_succ,List.getElem?_cons_zero,at_d,↓e_k,c_isn0,b_bool,↓ite_ff,↓sq_nxt,at_o,↓w_cons,↓w_ret,List.set_cons_succ,List.set_cons_zero,↓sq_ret,↓or_ret,onlyR]
include hlv in
theorem p20 {w:Bool × List Nat}:SW Phi reqF 20 lv b_plain_of [.d (wordD w),.un,.un] (OutR (.ok (if w.1=true then .none else sD w.2))):=by
 unfold b_plain_of
 obtain ⟨b,x⟩:=w
 have l2:(2:Nat)≤lim:=by unfold lim;exact linL fun q=>lin [] [(1,0,.a (.n 1048576) (.n 1),.n 2)] rfl q
 by_cases hx:x=[]
 ·subst hx
  cases b
  ·simp -dsimp only [↓w_cons,↓w_upk,hlv,↓gd,↓e_v,wordD,parts_nil,List.getElem?_cons_zero,at_d,b_tup,List.length_cons,List.length_nil,↓sq_nxt,↓w_ite,↓e_or1,setAll,List.set_cons_succ,List.set_cons_zero,List.getElem?_cons_succ,b_bool,↓ite_ff,↓e_cmp,↓e_len,l_t,Nat.zero_le,↓e_k,c_gti,decide_eq_true_eq,↓w_ret,↓sq_ret,↓or_ret,Bool.false_eq_true,if_false,↓w_nil,c_eqi,↓e_idx]
   rw [if_neg (by decide),if_pos (by decide)]
   trivial
  ·simp -dsimp only [↓w_cons,↓w_upk,hlv,↓gd,↓e_v,wordD,parts_nil,List.getElem?_cons_zero,at_d,b_tup,List.length_cons,List.length_nil,↓sq_nxt,↓w_ite,↓e_or1,setAll,List.set_cons_succ,List.set_cons_zero,List.getElem?_cons_succ,b_bool,↓iteT,↓w_ret,↓e_k,↓sq_ret,↓or_ret,if_true]
 ·rw [wordD,parts_ne hx]
  cases b
  ·simp -dsimp only [↓w_cons,↓w_upk,hlv,↓gd,↓e_v,List.getElem?_cons_zero,at_d,b_tup,List.length_cons,List.length_nil,↓sq_nxt,↓w_ite,↓e_or1,setAll,List.set_cons_succ,List.set_cons_zero,List.getElem?_cons_succ,b_bool,↓ite_ff,↓e_cmp,↓e_len,l_t,gd',↓e_k,c_gti,decide_eq_true_eq,↓w_ret,↓sq_ret,↓or_ret,Bool.false_eq_true,if_false,↓w_nil,c_eqi,↓e_idx,i_t0,c_eqs,↓iteT,i_t1]
   exact ⟨by unfold lim;exact linL fun q=>lin [] [(1,0,.a (.n 1048576) (.n 1),.a (.n 0) (.n 1))] rfl q,by rw [if_neg (by decide)];exact ⟨by unfold lim;exact linL fun q=>lin [] [(1,0,.a (.n 1048576) (.n 1),.a (.n 0) (.n 1))] rfl q,by rw [if_neg (by decide)];trivial⟩⟩
  ·simp -dsimp only [↓w_cons,↓w_upk,hlv,↓gd,↓e_v,List.getElem?_cons_zero,at_d,b_tup,List.length_cons,List.length_nil,↓sq_nxt,↓w_ite,↓e_or1,setAll,List.set_cons_succ,List.set_cons_zero,List.getElem?_cons_succ,b_bool,↓iteT,↓w_ret,↓e_k,↓sq_ret,↓or_ret,if_true]
end
end Mine
end
section
open PySem PySem.W PyProof.Rows
namespace Mine
theorem j_gen {sep:List Nat} {xs:List (List Nat)} {P:PyData→Prop}:JW (S sep) (xs.map sD) P=GD (sep.length≤1) (GD ((joinL sep xs).length≤lim) (GD (xs.length≤lim) (P (.str (S (joinL sep xs)))))):=by
 have e:xs.map sD=(xs.map S).map PyData.str:=by simp
 unfold JW joinW
 rw [e]
 have:=x_map (PX:=fun ys=>(S sep).cps.toList.length≤1∧(joinL (S sep).cps.toList (ys.map (·.cps.toList))).length≤lim∧ys.length≤lim∧P (.str (S (joinL (S sep).cps.toList (ys.map (·.cps.toList)))))) (ys:=xs.map S)
 refine Eq.trans this ?_
 have e2:(xs.map S).map (·.cps.toList)=xs:=by rw [List.map_map];exact (List.map_congr_left (g:=id) fun x _=>rfl).trans (List.map_id _)
 rw [e2,S_toList,List.length_map];rfl
theorem joinL_flat:∀ (xs:List (List Nat)),joinL [] xs=xs.flatten
 | []=>rfl
 | [x]=>by simp [joinL]
 |x::y::r=>by
  rw [joinL,joinL_flat (y::r)]
  ·simp
  ·intro h;cases h
theorem escM_len (d:Bool) (c:Nat):(escM d c).length≤2:=by
 unfold escM
 repeat' split
 all_goals simp
theorem flat_len (d:Bool):∀ (l:List Nat),((l.map (escM d)).flatten).length≤2 * l.length
 | []=>Nat.le_refl _
 |c::r=>by
  have:=flat_len d r
  have h:=escM_len d c
  simp only [List.map_cons,List.flatten_cons,List.length_append,List.length_cons] at this ⊢
  exact linL fun q=>lin [_,_,_] [(1,0,.v 0,.s 2 (.v 1)),(1,0,.v 2,.n 2),(1,0,.a (.s 2 (.a (.v 1) (.n 1))) (.n 1),.a (.v 2) (.v 0))] rfl this h q
set_option tactic.hygienic true in
theorem scan_wb:∀ (n:Nat) (l:List Nat) (s s':MSt),l.length≤n→s.wb=true→scan s l=some s'→s'.wb=true
 |_,[],s,s',_,h,q=>by rw [scan.eq_def] at q;cases q;exact h
 |0,c::r,s,s',hn,_,_=>by simp at hn
 |n+1,c::r,s,s',hn,h,q=>by
  have hr:r.length≤n:=by simpa using hn
  rw [scan.eq_def] at q
  simp only at q
  split at q
  ·exact scan_wb n r _ _ hr (by exact h) q
  ·split at q
   ·split at q
    ·cases q
    ·exact scan_wb n r _ _ hr (by exact h) q
   ·split at q
    ·exact scan_wb n r _ _ hr (by exact h) q
    ·split at q
     ·split at q
      ·cases q
      ·split at q
       ·cases q
       ·rename_i e r' _
        have hr':r'.length≤n:=by simp only [List.length_cons] at hr;exact linL fun q=>lin [_,_] [(1,0,.a (.v 0) (.n 1),.v 1),(1,0,.a (.v 1) (.n 1),.v 0)] rfl hr q
        split at q
        ·exact scan_wb n r' _ _ hr' rfl q
        ·exact scan_wb n (e::r') _ _ hr rfl q
     ·split at q
      ·exact scan_wb n r _ _ hr rfl q
      ·exact scan_wb n r _ _ hr h q
set_option tactic.hygienic true in
theorem mask_hash {x:List Nat} {h:Bool} (q:modeM x h = .mask):¬ (h=true∧x.head?=some 35):=by
 intro ⟨h1,h2⟩
 cases x with
 |nil=>cases h2
 |cons b r=>
  obtain rfl:b=35:=by simpa using h2
  subst h1
  unfold modeM at q
  simp only at q
  split at q
  ·cases q
  ·rename_i s hs
   have:=scan_wb _ _ _ _ (Nat.le_refl _) (by rfl) hs
   split at q
   ·cases q
   ·split at q
    ·split at q
     ·rename_i w;rw [this] at w;cases w.2
     ·cases q
    ·split at q <;> cases q
theorem fq_nxt {f:Loc→Prop} {Q:Out→Prop} {ρ:Loc}:fq f Q (.nxt ρ)=f ρ:=rfl
theorem fw_nil {Φ:Nat→List PyData→RR→Prop} {req:Nat→Nat} {k lv i:Nat} {b:List PS} {Q:Out→Prop} {ρ:Loc}:FW Φ req k lv i b Q [] ρ=Q (.nxt ρ):=rfl
theorem fw_cons {Φ:Nat→List PyData→RR→Prop} {req:Nat→Nat} {k lv i:Nat} {b:List PS} {Q:Out→Prop} {ρ:Loc} {x:PyData} {r:List PyData}:FW Φ req k lv i b Q (x::r) ρ=SW Φ req k lv b (ρ.set i (.d x)) (fq (fun ρ=>FW Φ req k lv i b Q r ρ) Q):=rfl
theorem k27 {K:RR→Prop} {t:List Nat} {h:Bool} (hB:t.length≤B):KW (Phi 27 [.str (S t),.bool h]) K=K (.ok (modeD (modeM t h))):=tx_kw rfl h rfl ub hB rfl eq_self'
theorem k28 {K:RR→Prop} {c:Nat} {d:Bool}:KW (Phi 28 [.str (S [c]),.bool d]) K=K (.ok (sD (escM d c))):=sg_kw rfl d rfl ub rfl
theorem k29 {K:RR→Prop} {t:List Nat} {h:Bool} (hB:t.length≤B):KW (Phi 29 [.str (S t),.bool h]) K=K (.ok (sD (quoteM t h))):=tx_kw rfl h rfl ub hB rfl eq_self'
noncomputable def modeL:Mode→List Nat
 | .none=>[110,111,110,101]
 | .brace=>[98,114,97,99,101]
 | .mask=>[109,97,115,107]
 | .escape=>[101,115,99,97,112,101]
theorem modeD_L (m:Mode):modeD m = .str (S (modeL m)):=by cases m <;> rfl
theorem l29 {Q:Out→Prop} {w0 w1:Val} {m:Mode}:∀ (l:List Nat) (acc:List (List Nat)) (w:Val),acc.length+l.length≤lim→(∀ w,Q (.nxt [w0,w1,.d (modeD m),.own ((acc++l.map (escM (decide (m = .escape)))).map sD),w])) →
  FW Phi reqF 29 2 4 [.app 3 (.call 28 [.v 4,.cmp .Eq (.v 2) (.k (.str (S [101,115,99,97,112,101])))])] Q (l.map fun c => .str (S [c])) [w0,w1,.d (modeD m),.own (acc.map sD),w]:=by
 intro l
 induction l with
 |nil=>
  intro acc w h hQ
  rw [List.map_nil,fw_nil]
  simpa using hQ w
 |cons c r ih=>
  intro acc w h hQ
  simp only [List.length_cons] at h
  rw [List.map_cons,fw_cons]
  have e:decide (modeL m=[101,115,99,97,112,101])=decide (m = .escape):=by cases m <;> rfl
  have f1:acc.length≤lim:=by exact linL fun q=>lin [_,_,_] [(1,0,.a (.v 0) (.a (.v 1) (.n 1)),.v 2),(1,0,.a (.v 2) (.n 1),.v 0)] rfl h q
  have:=ih (acc++[escM (decide (m = .escape)) c]) (.d (.str (S [c]))) (by simp only [List.length_append,List.length_cons,List.length_nil];exact linL fun q=>lin [_,_,_] [(1,0,.a (.v 0) (.a (.v 1) (.n 1)),.v 2),(1,0,.a (.v 2) (.n 1),.a (.a (.v 0) (.a (.n 0) (.n 1))) (.v 1))] rfl h q) (fun w=>by
   have:=hQ w
   simpa only [List.map_cons,List.append_assoc,List.singleton_append] using this)
  simp -dsimp only [↓w_cons,↓w_app,modeD_L,List.set_cons_succ,List.set_cons_zero,List.getElem?_cons_succ,List.getElem?_cons_zero,at_o,↓e_callK (Φ:=Phi) (req:=reqF) (k:=29) (lv:=2) (f:=28) (by decide) (by decide),↓es_cons,↓e_v,at_d,↓e_cmp,↓e_k,c_eqs,↓es_nil,e,k28,↓rr_ok,List.length_map,f1,↓gd,↓sq_nxt,↓w_nil,fq_nxt]
  simpa only [List.map_append,List.map_cons,List.map_nil,modeD_L] using this
theorem p29 {t:List Nat} {h:Bool} (hB:t.length≤B):SW Phi reqF 29 2 b_quote [.d (.str (S t)),.d (.bool h),.un,.un,.un] (OutR (.ok (sD (quoteM t h)))):=by
 have f1:t.length≤lim:=lim_B hB
 have k:=fun K=>k27 (K:=K) (h:=h) hB
 have f2:t.length+1+1≤lim:=by unfold B at hB;unfold lim;exact linL fun q=>lin [_] [(1,0,.v 0,.n 65536),(1,0,.a (.n 1048576) (.n 1),.a (.a (.v 0) (.n 1)) (.n 1))] rfl hB q
 have f3:0+1+t.length≤lim:=by exact linL fun q=>lin [_,_] [(1,0,.a (.a (.v 0) (.n 1)) (.n 1),.v 1),(1,0,.a (.v 1) (.n 1),.a (.a (.n 0) (.n 1)) (.v 0))] rfl f2 q
 cases hm:modeM t h with
 |none=>
  rw [hm] at k
  rw [quoteM,hm]
  refine byR [1] fun W=>W (by decide) (by decide) _ (phi_of k) (decide_eq_true rfl) ?_
  rfl
 |brace=>
  rw [hm] at k
  rw [quoteM,hm]
  have f4:([123]++t).length+[125].length≤lim:=f2
  have f5:[123].length+t.length≤lim:=by rw [Nat.add_comm];exact Nat.le_of_succ_le f2
  refine byR [0,1] fun W=>W (by decide) (by decide) _ (phi_of k) (decide_eq_false (by decide)) (decide_eq_true rfl) f3 f2 ?_
  rfl
 |mask=>
  have hh:=mask_hash hm
  have hne:t≠[]:=fun q=>by rw [q] at hm;cases hm
  cases t with
  |nil=>exact absurd rfl hne
  |cons c r=>
  have hfl:=flat_len false (c::r)
  have f4:((c::r).map (escM false)).flatten.length≤lim:=by unfold B at hB;unfold lim;exact linL fun q=>lin [_,_] [(2,0,.v 0,.n 65536),(1,0,.v 1,.s 2 (.v 0)),(1,0,.a (.n 1048576) (.n 1),.v 1)] rfl hB hfl q
  have hc:¬ (h=true∧c=35):=by simpa using hh
  rw [hm] at k
  have go:∀ (w:Val),FW Phi reqF 29 2 4 [.app 3 (.call 28 [.v 4,.cmp .Eq (.v 2) (.k (.str (S [101,115,99,97,112,101])))])]
    (sq (fun ρ'=>EW Phi reqF 29 2 (.joinO (.k (.str (S []))) 3) ρ' (fun d=>RR.ok (sD (quoteM (c::r) h)) = .ok d) fun x=>RR.ok (sD (quoteM (c::r) h)) = .exc x) (OutR (.ok (sD (quoteM (c::r) h))))) ((c::r).map fun c => .str (S [c])) [.d (.str (S (c::r))),.d (.bool h),.d (modeD .mask),.own (([]:List (List Nat)).map sD),w]:=fun w=>by
   refine l29 (c::r) [] w (by simpa using f1) fun w=>?_
   have:decide (Mode.mask = .escape)=false:=rfl
   simp -dsimp only [↓sq_nxt,↓e_joinO,↓e_k,b_str,reduceCtorEq,decide_false,List.nil_append,List.getElem?_cons_succ,List.getElem?_cons_zero,at_o,j_gen,List.length_nil,Nat.zero_le,↓gd,joinL_flat,f4,List.length_map,List.length_cons,gd',quoteM,hm,and_true]
   exact lim_B (by simpa using hB)
  cases h with
  |false=>
   refine byR [0,0,0,0] fun W=>W (by decide) (by decide) _ (phi_of k) (decide_eq_false (by decide)) (decide_eq_false (by decide)) rfl rfl ?_
   exact And.intro rfl (And.intro f1 <| go .un)
  |true=>
   have hc':¬ c=35:=fun q=>hc ⟨rfl,q⟩
   refine byR [0,0,1,0] fun W=>W (by decide) (by decide) _ (phi_of k) (decide_eq_false (by decide)) (decide_eq_false (by decide)) rfl (by decide) _ rfl (decide_eq_false (mt one_eq.mp hc')) ?_
   exact And.intro rfl (And.intro f1 <| go .un)
 |escape=>
  have hne:t≠[]:=fun q=>by rw [q] at hm;cases hm
  cases t with
  |nil=>exact absurd rfl hne
  |cons c r=>
  have hfl:=flat_len true (c::r)
  have f4:∀ (p:List Nat),p.length≤1→(p++((c::r).map (escM true)).flatten).length≤lim:=fun p hp=>by rw [List.length_append];unfold B at hB;unfold lim;exact linL fun q=>lin [_,_,_] [(2,0,.v 0,.n 65536),(1,0,.v 1,.s 2 (.v 0)),(1,0,.v 2,.n 1),(1,0,.a (.n 1048576) (.n 1),.a (.v 2) (.v 1))] rfl hB hfl hp q
  rw [hm] at k
  have go:∀ (w:Val) (acc:List (List Nat)),acc.length≤1→acc.flatten=(if h=true∧(c::r).head?=some 35 then [92] else [])→FW Phi reqF 29 2 4 [.app 3 (.call 28 [.v 4,.cmp .Eq (.v 2) (.k (.str (S [101,115,99,97,112,101])))])]
    (sq (fun ρ'=>EW Phi reqF 29 2 (.joinO (.k (.str (S []))) 3) ρ' (fun d=>RR.ok (sD (quoteM (c::r) h)) = .ok d) fun x=>RR.ok (sD (quoteM (c::r) h)) = .exc x) (OutR (.ok (sD (quoteM (c::r) h))))) ((c::r).map fun c => .str (S [c])) [.d (.str (S (c::r))),.d (.bool h),.d (modeD .escape),.own (acc.map sD),w]:=fun w acc ha hac=>by
   have f5:acc.length+(c::r).length≤lim:=by unfold B at hB;unfold lim;exact linL fun q=>lin [_,_] [(1,0,.v 0,.n 65536),(1,0,.v 1,.n 1),(1,0,.a (.n 1048576) (.n 1),.a (.v 1) (.v 0))] rfl hB ha q
   refine l29 (c::r) acc w f5 fun w=>?_
   have e1:decide (Mode.escape = .escape)=true:=rfl
   have f6:=f4 acc.flatten (by rw [hac];split <;> decide)
   rw [List.length_append,hac] at f6
   simp only [List.length_cons] at f5
   simp -dsimp only [↓sq_nxt,↓e_joinO,↓e_k,b_str,decide_true,List.getElem?_cons_succ,List.getElem?_cons_zero,at_o,j_gen,List.length_nil,Nat.zero_le,↓gd,joinL_flat,List.flatten_append,hac,List.length_append,f6,List.length_map,List.length_cons,f5,quoteM,hm]
  cases h with
  |false=>
   refine byR [0,0,0,0] fun W=>W (by decide) (by decide) _ (phi_of k) (decide_eq_false (by decide)) (decide_eq_false (by decide)) rfl rfl ?_
   exact And.intro rfl (And.intro f1 <| go .un [] (Nat.zero_le _) rfl)
  |true=>
   by_cases hc:c=35
   ·subst hc
    refine byR [0,0,1,1] fun W=>W (by decide) (by decide) _ (phi_of k) (decide_eq_false (by decide)) (decide_eq_false (by decide)) rfl (by decide) _ rfl (decide_eq_true rfl) (by decide) ?_
    exact And.intro rfl (And.intro f1 <| go .un [[92]] (by decide) rfl)
   ·refine byR [0,0,1,0] fun W=>W (by decide) (by decide) _ (phi_of k) (decide_eq_false (by decide)) (decide_eq_false (by decide)) rfl (by decide) _ rfl (decide_eq_false (mt one_eq.mp hc)) ?_
    exact And.intro rfl (And.intro f1 <| go .un [] (Nat.zero_le _) (by rw [if_neg (by simpa using hc)];rfl))
end Mine
end
section
open PySem PySem.W PyProof.Rows
namespace Mine
noncomputable def qs:Bool→List (List Nat)→List (List Nat)
 |_,[]=>[]
 |h,x::r=>quoteM x h::qs false r
theorem qs_len:∀ (h:Bool) (l:List (List Nat)),(qs h l).length=l.length
 |_,[]=>rfl
 |h,x::r=>by simp only [qs,List.length_cons,qs_len false r]
theorem qs_join:∀ (h:Bool) (l:List (List Nat)),joinL [32] (qs h l)=joinM h l
 |_,[]=>rfl
 |h,[x]=>rfl
 |h,x::y::r=>by
  have:=qs_join false (y::r)
  simp only [qs] at this ⊢
  rw [joinL,this,joinM]
  ·simp
  ·intro q;cases q
section
variable {K:RR→Prop} {t:List Nat} {a:Nat}
theorem k26 (h:t.length≤B):KW (Phi 26 [.str (S t)]) K=K (match splM (t.length+1) t with
  | .ok xs => .ok (.list (xs.map sD))
  | .error p=>exL p.1 p.2):=tx_kw rfl () rfl u0 h rfl eq_self'
theorem map_sD_inj:∀ {xs ys:List (List Nat)},xs.map sD=ys.map sD→xs=ys
 | [],[],_=>rfl
 | [],_::_,h=>by cases h
 |_::_,[],h=>by cases h
 |x::xs,y::ys,h=>by
  simp only [List.map_cons,List.cons.injEq,PyData.str.injEq,S_inj] at h
  rw [h.1,map_sD_inj h.2]
theorem k30 {xs:List (List Nat)} (h1:xs.length≤B) (h2:(joinM true xs).length≤B) (h3:∀ x ∈ xs,x.length≤B):KW (Phi 30 [.list (xs.map sD)]) K=K (.ok (sD (joinM true xs))):=by
 refine ex_one fun r=>⟨fun ⟨⟨ys,e,_,_,_,q⟩⟩=>?_,fun q=>⟨⟨xs,rfl,h1,h2,h3,q⟩⟩⟩
 simp only [List.cons.injEq,PyData.list.injEq,and_true] at e
 rw [map_sD_inj e];exact q
theorem k33 (h:t.length≤B) (ha:a≤t.length):KW (Phi 33 [.str (S t),.int a]) K=K (.ok (tryE (findR a (t.drop a)))):=pl_kw rfl () rfl u0 h ha rfl eq_self'
theorem k34 {p:Except (List Nat) (Bool × List Nat × Nat)} (h:t.length≤B) (ha:a≤t.length) (hw:wordM (t.drop a)=some p):KW (Phi 34 [.str (S t),.int a]) K=K (.ok (wordT a p)):=pl_kw rfl () rfl u0 h ha ⟨p,hw,rfl⟩ fun _ ⟨_,q,e⟩=>by
 rw [hw] at q;cases q;exact e
theorem k35 {v:RR} (h:t.length≤B) (hv:cmdR t.length 0 t=some v):KW (Phi 35 [.str (S t)]) K=K (.ok (tryD v)):=tx_kw rfl () rfl u0 h ⟨v,hv,rfl⟩ fun _ ⟨_,q,e⟩=>by
 rw [hv] at q;cases q;exact e
theorem k36 {m q:List Nat}:KW (Phi 36 [.str (S m),.str (S q)]) K=K (.ok (faultD m q)):=kw_of ⟨⟨m,q,rfl,rfl⟩⟩ fun _ ⟨⟨_,_,e,h⟩⟩=>by
 injection e with e1 e2
 rw [sD_inj e1,sD_inj (List.head_eq_of_cons_eq e2)]
 exact h
theorem k37 {w:List Nat} (h:t.length≤B) (ha:a≤t.length) (hw:w.length≤10):KW (Phi 37 [.str (S t),.int a,.str (S w)]) K=K (.ok (faultD (junkMsg w gap (t.drop a)) cJUNK)):=pl_kw rfl w rfl uw h ha ⟨hw,rfl⟩ fun _ q=>q.2
end
theorem l30 {Q:Out→Prop} {w0:Val}:∀ (l acc:List (List Nat)) (w:Val),acc.length+l.length≤lim→(∀ x ∈ l,x.length≤B)→(∀ w,Q (.nxt [w0,.own ((acc++qs (decide (acc.length=0)) l).map sD),w])) →
  FW Phi reqF 30 2 2 [.app 1 (.call 29 [.v 2,.cmp .Eq (.lenO 1) (.k (.int 0))])] Q (l.map sD) [w0,.own (acc.map sD),w]:=by
 intro l
 induction l with
 |nil=>
  intro acc w h hx hQ
  rw [List.map_nil,fw_nil]
  simpa [qs] using hQ w
 |cons x r ih=>
  intro acc w h hx hQ
  simp only [List.length_cons] at h
  rw [List.map_cons,fw_cons]
  have f1:acc.length≤lim:=by exact linL fun q=>lin [_,_,_] [(1,0,.a (.v 0) (.a (.v 1) (.n 1)),.v 2),(1,0,.a (.v 2) (.n 1),.v 0)] rfl h q
  have hxl:x.length≤B:=hx x (List.mem_cons_self ..)
  have:=ih (acc++[quoteM x (decide (acc.length=0))]) (.d (sD x)) (by simp only [List.length_append,List.length_cons,List.length_nil];exact linL fun q=>lin [_,_,_] [(1,0,.a (.v 0) (.a (.v 1) (.n 1)),.v 2),(1,0,.a (.v 2) (.n 1),.a (.a (.v 0) (.a (.n 0) (.n 1))) (.v 1))] rfl h q) (fun y hy=>hx y (List.mem_cons_of_mem _ hy)) (fun w=>by
   have:=hQ w
   have e:decide ((acc++[quoteM x (decide (acc.length=0))]).length=0)=false:=by simp
   rw [e]
   simpa only [qs,List.append_assoc,List.singleton_append] using this)
  simp -dsimp only [↓w_cons,↓w_app,List.set_cons_succ,List.set_cons_zero,List.getElem?_cons_succ,List.getElem?_cons_zero,at_o,↓e_callK (Φ:=Phi) (req:=reqF) (k:=30) (lv:=2) (f:=29) (by decide) (by decide),↓es_cons,↓e_v,at_d,↓e_cmp,↓e_lenO,List.length_map,f1,↓gd,↓e_k,c_eq0,↓es_nil,k29 hxl,↓rr_ok,↓sq_nxt,↓w_nil,fq_nxt]
  simpa only [List.map_append,List.map_cons,List.map_nil] using this
theorem p30 {xs:List (List Nat)} (h1:xs.length≤B) (h2:(joinM true xs).length≤B) (h3:∀ x ∈ xs,x.length≤B):SW Phi reqF 30 2 b_join_list [.d (.list (xs.map sD)),.un,.un] (OutR (.ok (sD (joinM true xs)))):=by
 unfold b_join_list
 have f1:xs.length≤lim:=lim_B h1
 simp -dsimp only [↓w_cons,↓w_newO,↓sq_nxt,↓w_forL,↓gd,↓e_v,List.set_cons_succ,List.set_cons_zero,List.getElem?_cons_zero,at_d,b_lst,List.length_map,f1]
 refine l30 xs [] .un (by simpa using f1) h3 fun w=>?_
 have e:decide (([]:List (List Nat)).length=0)=true:=rfl
 simp -dsimp only [↓sq_nxt,↓w_cons,↓w_ret,↓e_joinO,↓e_k,b_str,List.length_nil,decide_true,List.nil_append,List.getElem?_cons_succ,List.getElem?_cons_zero,at_o,j_gen,List.length_cons,gd',qs_join,lim_B h2,↓gd,qs_len,f1,↓sq_ret,↓or_ret,and_true]
 exact Nat.le_refl _
section
variable {lv:Nat} (hlv:1≤lv)
theorem p31:SW Phi reqF 31 lv b_law_pieces [] (OutR (.ok (.list (pieces.map sD)))):=by
 unfold b_law_pieces
 simp only [w_cons,w_ret,e_lst,es_cons,es_nil,e_k]
 rfl
theorem p32:SW Phi reqF 32 lv b_law_told_texts [] (OutR (.ok (.list (told.map sD)))):=by
 unfold b_law_told_texts
 simp only [w_cons,w_ret,e_lst,es_cons,es_nil,e_k]
 rfl
theorem p36 {m q:List Nat}:SW Phi reqF 36 lv b_law_list_fault [.d (sD m),.d (sD q)] (OutR (.ok (faultD m q))):=by
 unfold b_law_list_fault
 simp -dsimp only [↓w_cons,↓w_ret,↓e_tup,↓es_cons,↓e_k,↓e_v,List.getElem?_cons_zero,at_d,List.getElem?_cons_succ,↓es_nil,↓sq_ret,↓or_ret]
 rfl
include hlv in
theorem p33 {t:List Nat} {a:Nat} (h2:lv≤2) (hB:t.length≤B) (ha:a≤t.length):SW Phi reqF 33 lv b_law_element [.d (.str (S t)),.d (.int (a:Nat)),.un] (OutR (.ok (tryE (findR a (t.drop a))))):=by
 unfold b_law_element
 cases hf:findR a (t.drop a) with
 |ok d=>simp -dsimp only [↓w_cons,↓w_tryR,h2,↓gd,↓e_tup,↓es_cons,↓e_callK (Φ:=Phi) (req:=reqF) (k:=33) (lv:=lv) (f:=25) (by decide) hlv,↓e_v,List.getElem?_cons_zero,at_d,List.getElem?_cons_succ,↓es_nil,k25 hB ha,↓e_k,↓sq_ret,↓or_ret,tryE,↓w_ret,↓e_exA0,List.set_cons_succ,List.set_cons_zero,at_e,↓e_exA1,↓e_exA2,↓rq_ret,hf,↓rr_ok]
 |exc x=>simp -dsimp only [↓w_cons,↓w_tryR,h2,↓gd,↓e_tup,↓es_cons,↓e_callK (Φ:=Phi) (req:=reqF) (k:=33) (lv:=lv) (f:=25) (by decide) hlv,↓e_v,List.getElem?_cons_zero,at_d,List.getElem?_cons_succ,↓es_nil,k25 hB ha,↓e_k,↓sq_ret,↓or_ret,tryE,↓w_ret,↓e_exA0,List.set_cons_succ,List.set_cons_zero,at_e,↓e_exA1,↓e_exA2,↓rq_ret,hf,↓rr_exc]
include hlv in
theorem p34 {t:List Nat} {a:Nat} {p:Except (List Nat) (Bool × List Nat × Nat)} (h2:lv≤2) (hB:t.length≤B) (ha:a≤t.length) (hw:wordM (t.drop a)=some p):SW Phi reqF 34 lv b_law_word [.d (.str (S t)),.d (.int (a:Nat)),.un] (OutR (.ok (wordT a p))):=by
 unfold b_law_word
 cases p with
 |ok d=>simp -dsimp only [↓w_cons,↓w_tryR,h2,↓gd,↓e_tup,↓es_cons,↓e_callK (Φ:=Phi) (req:=reqF) (k:=34) (lv:=lv) (f:=17) (by decide) hlv,↓e_v,List.getElem?_cons_zero,at_d,List.getElem?_cons_succ,↓e_k,↓es_nil,k17w hB ha hw,↓sq_ret,↓or_ret,wordT,↓w_ret,↓e_exA1,List.set_cons_succ,List.set_cons_zero,at_e,↓rq_ret,wordR,↓rr_ok]
 |error x=>simp -dsimp only [↓w_cons,↓w_tryR,h2,↓gd,↓e_tup,↓es_cons,↓e_callK (Φ:=Phi) (req:=reqF) (k:=34) (lv:=lv) (f:=17) (by decide) hlv,↓e_v,List.getElem?_cons_zero,at_d,List.getElem?_cons_succ,↓e_k,↓es_nil,k17w hB ha hw,↓sq_ret,↓or_ret,wordT,↓w_ret,↓e_exA1,List.set_cons_succ,List.set_cons_zero,at_e,↓rq_ret,wordR,exN,↓rr_exc]
include hlv in
theorem p35 {t:List Nat} {v:RR} (h2:lv≤2) (hB:t.length≤B) (hv:cmdR t.length 0 t=some v):SW Phi reqF 35 lv b_law_command [.d (.str (S t)),.un] (OutR (.ok (tryD v))):=by
 unfold b_law_command
 cases v with
 |ok d=>simp -dsimp only [↓w_cons,↓w_tryR,h2,↓gd,↓e_tup,↓es_cons,↓e_callK (Φ:=Phi) (req:=reqF) (k:=35) (lv:=lv) (f:=18) (by decide) hlv,↓e_v,List.getElem?_cons_zero,at_d,↓e_k,↓es_nil,k18_0 hB hv,↓rr_ok,↓sq_ret,↓or_ret,tryD]
 |exc x=>simp -dsimp only [↓w_cons,↓w_tryR,h2,↓gd,↓e_tup,↓es_cons,↓e_callK (Φ:=Phi) (req:=reqF) (k:=35) (lv:=lv) (f:=18) (by decide) hlv,↓e_v,List.getElem?_cons_zero,at_d,↓e_k,↓es_nil,k18_0 hB hv,↓rr_exc,↓w_ret,↓e_exA1,List.set_cons_succ,List.set_cons_zero,List.getElem?_cons_succ,at_e,↓sq_ret,↓rq_ret,↓or_ret,tryD]
theorem gap_mem {c:Nat}:(c ∉ ([32,9,11,12,13]:List Nat))↔gap c=false:=by
 unfold gap
 simp only [List.mem_cons,List.not_mem_nil,or_false,not_or,Bool.or_eq_false_iff,beq_eq_false_iff_ne,and_assoc,ne_eq]
include hlv in
theorem l37 {T:Loc→(PyData→Prop)→(Exc→Prop)→Prop} {BB:Loc→(Out→Prop)→Prop} {Q:Out→Prop} {w:PyData} {a:Nat}
  (eT:∀ ρ P E,T ρ P E=EW Phi reqF 37 lv (.and [.cmp .Lt (.v 3) (.len (.v 0)),.cmp .Lt (.v 3) (.bin .add (.v 1) (.k (.int 20))),.cmp .NotIn (.idx (.v 0) (.v 3)) (.k (.str (S [32,9,11,12,13])))]) ρ P E)
  (eB:∀ ρ Q,BB ρ Q=SW Phi reqF 37 lv [.aug 3 .add (.k (.int 1))] ρ Q) (t:List Nat) (hB:t.length≤B):∀ (n:Nat) (l pre:List Nat),l.length<n→t=pre++l→pre.length≤a+20 →
    Q (.nxt [.d (.str (S t)),.d (.int (a:Nat)),.d w,.d (itD (pre.length+takeW gap (a+20 - pre.length) l))]) →
    loopW T BB Q n [.d (.str (S t)),.d (.int (a:Nat)),.d w,.d (.int pre.length)]:=by
 intro n
 induction n with
 |zero=>intro l pre h;exact (lin [_] [(1,0,.a (.v 0) (.n 1),.n 0)] rfl h).elim
 |succ n ih=>
  intro l pre h ht ha h2
  subst ht
  have f1:=lim_B hB
  cases l with
  |nil=>
   have i1:¬ pre.length<(pre++[]).length:=by rw [List.append_nil];exact Nat.lt_irrefl _
   rw [tw_nil] at h2
   refine byT eT eB [0,0] fun W=>W f1 (decide_eq_false (mt Int.ofNat_lt.mp i1)) rfl ?_
   exact h2
  |cons c r=>
   have f2:pre.length<(pre++c::r).length:=by rw [List.length_append];exact Nat.lt_add_of_pos_right (Nat.succ_pos _)
   have f3:pre.length<lim:=Nat.lt_of_lt_of_le f2 f1
   have g1:(pre++c::r)[pre.length]?=some c:=mid
   by_cases hlt:pre.length<a+20
   ·have i2:(pre.length:Int)<(a:Int)+20:=Int.ofNat_lt.mpr hlt
    cases hb:gap c with
    |true=>
     rw [tw_st hb] at h2
     have hgm:¬ c ∉ ([32,9,11,12,13]:List Nat):=fun q=>by rw [gap_mem.mp q] at hb;cases hb
     refine byT eT eB [1,1,0] fun W=>W f1 (decide_eq_true (Int.ofNat_lt.mpr f2)) (decide_eq_true i2) f3 _ g1 (decide_eq_false hgm) ?_
     exact h2
    |false=>
     rw [tw_go hlt hb] at h2
     have hgm:=gap_mem.mpr hb
     refine byT eT eB [1,1,1] fun W=>W f1 (decide_eq_true (Int.ofNat_lt.mpr f2)) (decide_eq_true i2) f3 _ g1 (decide_eq_true hgm) ?_
     have q:=ih r (pre++[c]) (Nat.lt_of_succ_lt_succ h) (List.append_cons ..) (by rw [List.length_append];exact hlt)
     have e:(pre++[c]).length=pre.length+1:=List.length_append
     rw [e,Nat.add_assoc] at q
     exact q h2
   ·have i2:¬ (pre.length:Int)<(a:Int)+20:=mt Int.ofNat_lt.mp hlt
    rw [tw_0 (Nat.le_of_not_lt hlt)] at h2
    refine byT eT eB [1,0,0] fun W=>W f1 (decide_eq_true (Int.ofNat_lt.mpr f2)) (decide_eq_false i2) rfl ?_
    exact h2
include hlv in
theorem p37 {pre l w:List Nat} (hB:(pre++l).length≤B) (hw:w.length≤10):SW Phi reqF 37 lv b_law_junk [.d (.str (S (pre++l))),.d (.int pre.length),.d (.str (S w)),.un]
  (OutR (.ok (faultD (junkMsg w gap l) cJUNK))):=by
 have f1:=lim_B hB
 refine byR [] fun W=>W ?_
 refine wh_of ⟨l.length+1,fun T BB eT eB=>l37 hlv eT eB _ hB _ l pre (Nat.lt_succ_self _) rfl (Nat.le_add_right _ _) ?_⟩
 rw [Nat.add_sub_cancel_left]
 obtain ⟨j1,j2,j3,j4⟩:=junk_l hw (cut_20 (p:=gap) (pre:=pre) (l:=l))
 rw [junkMsg,← cut_k (pre:=pre)]
 have k:=phi_of fun K=>k36 (K:=K) (m:=(((mJ1++w)++mJ2)++cut (pre++l) (some pre.length) (some (pre.length+takeW gap 20 l)))++mJ3) (q:=[74,85,78,75])
 show SW Phi reqF 37 lv _ _ _
 refine byR [] fun W=>W j1 j2 f1 j3 j4 (by decide) hlv _ k ?_
 rfl
end
end Mine
end
section
open PySem PySem.W PyProof.Rows
namespace Mine
theorem aok_iff {l:List Nat}:l.all okC=true↔AOK l:=List.all_eq_true
theorem okC_f {c:Nat} (h:okC c=true):c≠36∧c≠91∧c≠59∧c≠10∧c<1114112:=by
 unfold okC at h
 simp only [Bool.and_eq_true,Bool.not_eq_true',beq_eq_false_iff_ne,decide_eq_true_eq,ne_eq,and_assoc] at h
 exact h
theorem AOK.tail {c:Nat} {l:List Nat} (h:AOK (c::l)):AOK l:=fun x hx=>h x (List.mem_cons_of_mem _ hx)
theorem AOK.head {c:Nat} {l:List Nat} (h:AOK (c::l)):okC c=true:=h c (List.mem_cons_self ..)
theorem AOK.drop {l:List Nat} (h:AOK l) (n:Nat):AOK (l.drop n):=fun x hx=>h x (List.mem_of_mem_drop hx)
theorem gap_blank {c:Nat} (h:c≠10):gap c=blank c:=by
 unfold gap blank
 have:(c == 10)=false:=beq_eq_false_iff_ne.mpr h
 rw [this,Bool.or_false]
theorem aok_gap {c:Nat} {l:List Nat} (h:AOK (c::l)):gap c=blank c:=gap_blank (okC_f h.head).2.2.2.1
theorem nobn {c:Nat} {l:List Nat} (h:AOK l):¬ (c=92∧l.head?=some 10):=fun ⟨_,q⟩=>by
 cases l with
 |nil=>cases q
 |cons e l=>
  obtain rfl:e=10:=by simpa using q
  exact (okC_f h.head).2.2.2.1 rfl
theorem gaps_blanks:∀ {l:List Nat},AOK l→gaps l=blanks l
 | [],_=>by simp [gaps,blanks]
 |c::r,h=>by
  rw [blanks,← aok_gap h]
  cases hg:gap c with
  |true=>rw [gaps_gap hg,gaps_blanks h.tail,if_pos rfl]
  |false=>rw [gaps_no hg (nobn h.tail)];rfl
theorem clean_ok {st:Nat→Bool} {sp:Bool}:∀ (n:Nat) (l:List Nat),l.length≤n→AOK l→clean st sp l=true
 |_,[],_,_=>clean_nil
 |0,c::r,hn,_=>by simp at hn
 |n+1,c::r,hn,h=>by
  have hr:r.length≤n:=by simpa using hn
  cases hs:st c with
  |true=>exact clean_stop hs
  |false=>
   by_cases h9:c=92
   ·subst h9
    rw [clean_bs hs,if_neg fun q=>nobn (c:=92) h.tail ⟨rfl,q.2⟩]
    exact clean_ok n _ (by rw [List.length_drop];exact linL fun q=>lin [_,_,_] [(1,0,.v 0,.v 1),(1,0,.v 2,.v 0),(1,0,.a (.v 1) (.n 1),.v 2)] rfl hr (Nat.sub_le _ _) q) (h.tail.drop _)
   ·have f:=okC_f h.head
    rw [clean_ch hs f.1 f.2.1 h9]
    exact clean_ok n r hr h.tail
theorem brcL_o {d:Nat} {r:List Nat}:brcL d (123::r)=(brcL (d+1) r).map fun p=>(123::p.1,p.2+1):=by
 rw [brcL.eq_def];exact if_pos rfl
theorem brcL_c1 {d:Nat} {r:List Nat} (h:d≤1):brcL d (125::r)=some ([],1):=by
 rw [brcL.eq_def];exact if_pos h
theorem brcL_c2 {d:Nat} {r:List Nat} (h:¬ d≤1):brcL d (125::r)=(brcL (d - 1) r).map fun p=>(125::p.1,p.2+1):=by
 rw [brcL.eq_def];exact if_neg h
theorem brcL_b {d e:Nat} {r:List Nat}:brcL d (92::e::r)=(brcL d r).map fun p=>(92::e::p.1,p.2+2):=by
 rw [brcL.eq_def];rfl
theorem brcL_b0 {d:Nat}:brcL d [92]=none:=by
 rw [brcL.eq_def];rfl
theorem brcL_ch {d c:Nat} {r:List Nat} (h1:c≠123) (h2:c≠125) (h3:c≠92):brcL d (c::r)=(brcL d r).map fun p=>(c::p.1,p.2+1):=by
 rw [brcL.eq_def]
 exact (if_neg h1).trans ((if_neg h2).trans (if_neg h3))
theorem brc_o {d:Nat} {r:List Nat}:brc d false (123::r)=(brc (d+1) false r).map fun p=>(123::p.1,p.2+1):=by
 rw [brc.eq_def];rfl
theorem brc_c1 {d:Nat} {r:List Nat} (h:d≤1):brc d false (125::r)=some ([],1):=by
 rw [brc.eq_def];exact if_pos h
theorem brc_c2 {d:Nat} {r:List Nat} (h:¬ d≤1):brc d false (125::r)=(brc (d - 1) false r).map fun p=>(125::p.1,p.2+1):=by
 rw [brc.eq_def];exact if_neg h
theorem brc_b {d e:Nat} {r:List Nat} (he:e≠10):brc d false (92::e::r)=(brc d false r).map fun p=>(92::e::p.1,p.2+2):=by
 rw [brc.eq_def];exact if_neg he
theorem brc_b0 {d:Nat}:brc d false [92]=none:=by
 rw [brc.eq_def];rfl
theorem brc_ch {d c:Nat} {r:List Nat} (h1:c≠123) (h2:c≠125) (h3:c≠92):brc d false (c::r)=(brc d false r).map fun p=>(c::p.1,p.2+1):=by
 rw [brc.eq_def]
 exact (if_neg (fun q=>by cases q.1)).trans ((if_neg h1).trans ((if_neg h2).trans (if_neg h3)))
theorem brc_L:∀ (n d:Nat) (l:List Nat),l.length≤n→AOK l→brc d false l=brcL d l
 |_,_,[],_,_=>by rw [brc.eq_def,brcL.eq_def]
 |0,_,c::r,hn,_=>by simp at hn
 |n+1,d,c::r,hn,h=>by
  have hr:r.length≤n:=by simpa using hn
  by_cases h1:c=123
  ·subst h1;rw [brc_o,brcL_o,brc_L n _ r hr h.tail]
  ·by_cases h2:c=125
   ·subst h2
    by_cases hd:d≤1
    ·rw [brc_c1 hd,brcL_c1 hd]
    ·rw [brc_c2 hd,brcL_c2 hd,brc_L n _ r hr h.tail]
   ·by_cases h3:c=92
    ·subst h3
     cases r with
     |nil=>rw [brc_b0,brcL_b0]
     |cons e r=>rw [brc_b (okC_f h.tail.head).2.2.2.1,brcL_b,brc_L n _ r (by simp only [List.length_cons] at hr;exact linL fun q=>lin [_,_] [(1,0,.a (.v 0) (.n 1),.v 1),(1,0,.a (.v 1) (.n 1),.v 0)] rfl hr q) h.tail.tail]
    ·rw [brc_ch h1 h2 h3,brcL_ch h1 h2 h3,brc_L n _ r hr h.tail]
theorem brcL_end:∀ (n d:Nat) (l:List Nat) (p:List Nat × Nat),l.length≤n→brcL d l=some p→1≤p.2∧l[p.2 - 1]?=some 125
 |_,_,[],p,_,h=>by simp [brcL] at h
 |0,_,c::r,p,hn,_=>by simp at hn
 |n+1,d,c::r,p,hn,h=>by
  have hr:r.length≤n:=by simpa using hn
  have one:∀ (d':Nat) (f:List Nat→List Nat),(brcL d' r).map (fun p=>(f p.1,p.2+1))=some p→1≤p.2∧(c::r)[p.2 - 1]?=some 125:=fun d' f h=>by
   rw [Option.map_eq_some_iff] at h
   obtain ⟨q,hq,rfl⟩:=h
   obtain ⟨e1,e2⟩:=brcL_end n d' r q hr hq
   obtain ⟨m,hm⟩:∃ m,q.2=m+1:=⟨q.2 - 1,by exact linE (fun q=>lin [_,_] [(1,2,.a (.v 0) (.n 1),.v 1),(1,0,.a (.a (.v 0) (.n 1)) (.n 1),.v 1)] rfl (Nat.sub_add_cancel (linL fun q=>lin [_] [(1,0,.n 1,.v 0),(1,0,.a (.v 0) (.n 1),.n 1)] rfl e1 q)) q) fun q=>lin [_,_] [(1,1,.a (.v 0) (.n 1),.v 1),(1,0,.a (.v 1) (.n 1),.a (.v 0) (.n 1))] rfl (Nat.sub_add_cancel (linL fun q=>lin [_] [(1,0,.n 1,.v 0),(1,0,.a (.v 0) (.n 1),.n 1)] rfl e1 q)) q⟩
   rw [hm] at e2 ⊢
   exact ⟨by simp,by simpa using e2⟩
  by_cases h1:c=123
  ·subst h1;rw [brcL_o] at h;exact one _ (fun x=>123::x) h
  ·by_cases h2:c=125
   ·subst h2
    by_cases hd:d≤1
    ·rw [brcL_c1 hd] at h;cases h;exact ⟨Nat.le_refl _,rfl⟩
    ·rw [brcL_c2 hd] at h;exact one _ (fun x=>125::x) h
   ·by_cases h3:c=92
    ·subst h3
     cases r with
     |nil=>rw [brcL_b0] at h;cases h
     |cons e r=>
      rw [brcL_b,Option.map_eq_some_iff] at h
      obtain ⟨q,hq,rfl⟩:=h
      obtain ⟨e1,e2⟩:=brcL_end n d r q (by simp only [List.length_cons] at hr;exact linL fun q=>lin [_,_] [(1,0,.a (.v 0) (.n 1),.v 1),(1,0,.a (.v 1) (.n 1),.v 0)] rfl hr q) hq
      obtain ⟨m,hm⟩:∃ m,q.2=m+1:=⟨q.2 - 1,by exact linE (fun q=>lin [_,_] [(1,2,.a (.v 0) (.n 1),.v 1),(1,0,.a (.a (.v 0) (.n 1)) (.n 1),.v 1)] rfl (Nat.sub_add_cancel (linL fun q=>lin [_] [(1,0,.n 1,.v 0),(1,0,.a (.v 0) (.n 1),.n 1)] rfl e1 q)) q) fun q=>lin [_,_] [(1,1,.a (.v 0) (.n 1),.v 1),(1,0,.a (.v 1) (.n 1),.a (.v 0) (.n 1))] rfl (Nat.sub_add_cancel (linL fun q=>lin [_] [(1,0,.n 1,.v 0),(1,0,.a (.v 0) (.n 1),.n 1)] rfl e1 q)) q⟩
      rw [hm] at e2 ⊢
      exact ⟨by simp,by simpa using e2⟩
    ·rw [brcL_ch h1 h2 h3] at h;exact one _ (fun x=>c::x) h
theorem pu_congr {st st':Nat→Bool}:∀ (n:Nat) (l:List Nat),l.length≤n→(∀ c ∈ l,st c=st' c)→pu st l=pu st' l
 |_,[],_,_=>by rw [pu_nil,pu_nil]
 |0,c::r,hn,_=>by simp at hn
 |n+1,c::r,hn,h=>by
  have hr:r.length≤n:=by simpa using hn
  have hc:=h c (List.mem_cons_self ..)
  cases hs:st c with
  |true=>rw [pu_stop hs,pu_stop (hc▸hs)]
  |false=>
   by_cases h9:c=92
   ·subst h9
    rw [pu_bs hs,pu_bs (hc▸hs),pu_congr n (r.drop ((bsl r).2 - 1)) (by rw [List.length_drop];exact linL fun q=>lin [_,_,_] [(1,0,.v 0,.v 1),(1,0,.v 2,.v 0),(1,0,.a (.v 1) (.n 1),.v 2)] rfl hr (Nat.sub_le _ _) q) fun x hx=>h x (List.mem_cons_of_mem _ (List.mem_of_mem_drop hx))]
   ·rw [pu_ch hs h9,pu_ch (hc▸hs) h9,pu_congr n r hr fun x hx=>h x (List.mem_cons_of_mem _ hx)]
theorem or6:∀ a b c d e f:Bool,(a || b || c || d || e || f)=(a || b || f || c || d || e):=by decide
theorem stB_blank {c:Nat} (h:c≠59):stB c=blank c:=
 (congrArg (gap c || c == 10 || ·) (beq_eq_false_iff_ne.mpr h)).trans ((Bool.or_false _).trans (or6 ..))
theorem pu_B {l:List Nat} (h:AOK l):pu stB l=pu blank l:=pu_congr _ l (Nat.le_refl _) fun c hc=>stB_blank (okC_f (h c hc)).2.2.1
theorem pu_end {st:Nat→Bool}:∀ (n:Nat) (l:List Nat),l.length≤n→∀ c r,l.drop (pu st l).2=c::r→st c=true
 |_,[],_,c,r,h=>by simp at h
 |0,c::r,hn,_,_,_=>by simp at hn
 |n+1,c::r,hn,c',r',h=>by
  have hr:r.length≤n:=by simpa using hn
  cases hs:st c with
  |true=>rw [pu_stop hs] at h;cases h;exact hs
  |false=>
   by_cases h9:c=92
   ·subst h9
    have b:=bsl_fact r
    rw [pu_bs hs] at h
    refine pu_end n (r.drop ((bsl r).2 - 1)) (by rw [List.length_drop];exact linL fun q=>lin [_,_,_] [(1,0,.v 0,.v 1),(1,0,.v 2,.v 0),(1,0,.a (.v 1) (.n 1),.v 2)] rfl hr (Nat.sub_le _ _) q) c' r' ?_
    rw [← h,List.drop_drop]
    simp only
    rw [show (bsl r).2+(pu st (r.drop ((bsl r).2 - 1))).2=((bsl r).2 - 1+(pu st (r.drop ((bsl r).2 - 1))).2)+1 by exact linE (fun q=>lin [_,_,_] [(1,2,.a (.v 0) (.n 1),.v 1),(1,0,.a (.a (.a (.v 0) (.v 2)) (.n 1)) (.n 1),.a (.v 1) (.v 2))] rfl (Nat.sub_add_cancel (linL fun q=>lin [_] [(1,0,.n 1,.v 0),(1,0,.a (.v 0) (.n 1),.n 1)] rfl b.2.1 q)) q) fun q=>lin [_,_,_] [(1,1,.a (.v 0) (.n 1),.v 1),(1,0,.a (.a (.v 1) (.v 2)) (.n 1),.a (.a (.v 0) (.v 2)) (.n 1))] rfl (Nat.sub_add_cancel (linL fun q=>lin [_] [(1,0,.n 1,.v 0),(1,0,.a (.v 0) (.n 1),.n 1)] rfl b.2.1 q)) q,List.drop_succ_cons]
   ·rw [pu_ch hs h9] at h
    simp only at h
    rw [Nat.add_comm,List.drop_succ_cons] at h
    exact pu_end n r hr c' r' h
theorem takeW_congr {p p':Nat→Bool}:∀ (k:Nat) (l:List Nat),(∀ c ∈ l,p c=p' c)→takeW p k l=takeW p' k l
 |0,_,_=>rfl
 |_+1,[],_=>rfl
 |k+1,c::r,h=>by
  rw [takeW,takeW,h c (List.mem_cons_self ..),takeW_congr k r fun x hx=>h x (List.mem_cons_of_mem _ hx)]
theorem junk_gap {w l:List Nat} (h:AOK l):junkMsg w gap l=junkMsg w blank l:=by
 unfold junkMsg
 rw [takeW_congr 20 l fun c hc=>gap_blank (okC_f (h c hc)).2.2.2.1]
theorem vl_iff {l:List Nat}:vl l=true↔∀ c ∈ l,c<1114112:=by
 unfold vl
 rw [List.all_eq_true]
 simp only [decide_eq_true_eq]
theorem vl_app {a b:List Nat} (ha:vl a=true) (hb:vl b=true):vl (a++b)=true:=by
 unfold vl at *
 rw [List.all_append,ha,hb];rfl
theorem vl_aok {l:List Nat} (h:AOK l):vl l=true:=vl_iff.mpr fun c hc=>(okC_f (h c hc)).2.2.2.2
theorem vl_take {l:List Nat} (h:vl l=true) (n:Nat):vl (l.take n)=true:=vl_iff.mpr fun c hc=>vl_iff.mp h c (List.mem_of_mem_take hc)
theorem vl_drop {l:List Nat} (h:vl l=true) (n:Nat):vl (l.drop n)=true:=vl_iff.mpr fun c hc=>vl_iff.mp h c (List.mem_of_mem_drop hc)
theorem vl_one {c:Nat} (h:c<1114112):vl [c]=true:=vl_iff.mpr fun x hx=>by rw [List.mem_singleton] at hx;exact linT fun q=>lin [_,_] [(1,0,.a (.v 0) (.n 1),.n 1114112),(1,1,.v 1,.v 0),(1,0,.n 1114112,.v 1)] rfl h hx q
set_option tactic.hygienic true in
theorem bsl_vl {r:List Nat} (h:vl r=true):vl (bsl r).1=true:=by
 cases r with
 |nil=>rfl
 |cons c r=>
  have hc:c<1114112:=vl_iff.mp h c (List.mem_cons_self ..)
  unfold bsl
  dsimp only
  split
  ·rename_i k hk
   refine vl_one ?_
   unfold escOf at hk
   repeat' split at hk
   all_goals first |cases hk;omega |cases hk
  ·split
   ·rfl
   ·split
    ·unfold hexM
     split
     ·exact vl_one hc
     ·have:=hexRun_val (hexMost c) 0 r (by exact linL fun q=>lin [] [(1,0,.a (.n 1114111) (.n 1),.n 0)] rfl q)
      exact vl_one (by exact linT fun q=>lin [_] [(1,0,.v 0,.n 1114111),(1,0,.n 1114112,.v 0)] rfl this q)
    ·split
     ·have:=octRun_val 3 0 (c::r) (by exact linL fun q=>lin [] [(1,0,.a (.n 1114111) (.n 1),.n 0)] rfl q)
      exact vl_one (by exact linT fun q=>lin [_] [(1,0,.v 0,.n 1114111),(1,0,.n 1114112,.v 0)] rfl this q)
     ·exact vl_one hc
theorem pu_vl {st:Nat→Bool}:∀ (n:Nat) (l:List Nat),l.length≤n→vl l=true→vl (pu st l).1=true
 |_,[],_,_=>by rw [pu_nil];rfl
 |0,c::r,hn,_=>by simp at hn
 |n+1,c::r,hn,h=>by
  have hr:r.length≤n:=by simpa using hn
  have ht:vl r=true:=vl_drop h 1
  have hc:c<1114112:=vl_iff.mp h c (List.mem_cons_self ..)
  cases hs:st c with
  |true=>rw [pu_stop hs];rfl
  |false=>
   by_cases h9:c=92
   ·subst h9
    rw [pu_bs hs]
    exact vl_app (bsl_vl ht) (pu_vl n _ (by rw [List.length_drop];exact linL fun q=>lin [_,_,_] [(1,0,.v 0,.v 1),(1,0,.v 2,.v 0),(1,0,.a (.v 1) (.n 1),.v 2)] rfl hr (Nat.sub_le _ _) q) (vl_drop ht _))
   ·rw [pu_ch hs h9]
    exact vl_app (a:=[c]) (vl_one hc) (pu_vl n r hr ht)
theorem junk_vl {w l:List Nat} (hw:vl w=true) (h:vl l=true):vl (junkMsg w blank l)=true:=by
 unfold junkMsg
 exact vl_app (vl_app (vl_app (vl_app (by decide) hw) (by decide)) (vl_take h _)) (by decide)
noncomputable def eltV:Elt→Prop
 | .ok x _=>vl x=true
 | .bad m q=>vl m=true∧vl q=true
set_option tactic.hygienic true in
theorem elB_vl {r:List Nat} (h:vl r=true):eltV (elB r):=by
 unfold elB
 split
 ·rename_i p hp
  split
  ·have:=brcL_fact _ _ _ _ (Nat.le_refl _) hp
   show vl p.1=true
   rw [this.1];exact vl_take h _
  ·exact ⟨junk_vl (by decide) (vl_drop h _),by decide⟩
 ·exact ⟨by decide,by decide⟩
set_option tactic.hygienic true in
theorem elQ_vl {r:List Nat} (h:vl r=true):eltV (elQ r):=by
 unfold elQ
 split
 ·exact ⟨by decide,by decide⟩
 ·rename_i c l hl
  split
  ·exact pu_vl _ r (Nat.le_refl _) h
  ·refine ⟨junk_vl (by decide) ?_,by decide⟩
   have:=vl_drop (vl_drop h (pu stQ r).2) 1
   rw [hl] at this
   exact this
theorem add_vl {k:Nat} {e:Elt} (h:eltV e):eltV (e.add k):=by cases e <;> exact h
theorem elM_vl {c:Nat} {r:List Nat} (h:vl (c::r)=true):eltV (elM (c::r)):=by
 by_cases h1:c=123
 ·subst h1;rw [elM_b];exact add_vl (elB_vl (vl_drop h 1))
 ·by_cases h2:c=34
  ·subst h2;rw [elM_q];exact add_vl (elQ_vl (vl_drop h 1))
  ·rw [elM_o h1 h2];exact pu_vl _ _ (Nat.le_refl _) h
end Mine
end
section
open PySem PySem.W PyProof.Rows
namespace Mine
inductive WE (c:Nat) (r:List Nat):Prop where
 |good (x:List Nat) (n:Nat):isX (c::r)=false→wordM (c::r)=some (.ok (false,x,n))→elM (c::r) = .ok x n→(∀ c2 r2,(c::r).drop n=c2::r2→blank c2=true)→WE c r
 |exp:isX (c::r)=true→elM (c::r) = .bad (junkMsg wBraces blank ((c::r).drop 3)) cJUNK→WE c r
 |brace:isX (c::r)=false→wordM (c::r)=some (.error msgB)→elM (c::r) = .bad msgUB cBRACE→WE c r
 |quote:isX (c::r)=false→wordM (c::r)=some (.error msgQ)→elM (c::r) = .bad msgUQ cQUOTE→WE c r
 |junk (x:List Nat) (n:Nat) (c2:Nat) (r2:List Nat) (q:Bool):isX (c::r)=false→wordM (c::r)=some (.ok (false,x,n))→(c::r).drop n=c2::r2→blank c2=false →
   elM (c::r) = .bad (junkMsg (if q=true then wQuotes else wBraces) blank (c2::r2)) cJUNK→c=(if q=true then 34 else 123)→prevQ (c::r) n=q→WE c r
theorem behind_f {l:List Nat} (h:behindOK l=false):∃ c r,l=c::r∧blank c=false:=by
 cases l with
 |nil=>cases h
 |cons c r=>exact ⟨c,r,rfl,h⟩
theorem behind_t {l:List Nat} (h:behindOK l=true):∀ c r,l=c::r→blank c=true:=fun c r q=>by rw [q] at h;exact h
theorem we_of {c:Nat} {r:List Nat} (h:AOK (c::r)) (hb:blank c=false):WE c r:=by
 cases hx:isX (c::r) with
 |true=>
  obtain ⟨c',r',e,hg,h10,h59⟩:=isX_take hx
  refine .exp hx ?_
  cases e
  have e1:brcL 1 (42::125::c'::r')=some ([42],2):=by
   rw [brcL_ch (by decide) (by decide) (by decide),brcL_c1 (Nat.le_refl _)];rfl
  rw [elM_b,elB,e1]
  have:behindOK (c'::r')=false:=by show blank c'=false;rw [← gap_blank h10];exact hg
  simp only [List.drop_succ_cons,List.drop_zero,this,Bool.false_eq_true,if_false,Elt.add]
 |false=>
  have hw:wordM (c::r)=wordIn false 0 (c::r):=by unfold wordM;rw [hx];exact if_neg (by decide)
  by_cases h1:c=123
  ·subst h1
   rw [wordIn_b,brc_L _ _ _ (Nat.le_refl _) h.tail] at hw
   cases hp:brcL 1 r with
   |none=>
    rw [hp] at hw
    refine .brace hx hw ?_
    rw [elM_b,elB,hp];rfl
   |some p=>
    rw [hp] at hw
    simp only [Nat.zero_add] at hw
    have e:=brcL_end _ _ _ _ (Nat.le_refl _) hp
    have ed:(123::r).drop (1+p.2)=r.drop p.2:=by rw [Nat.add_comm,List.drop_succ_cons]
    cases hk:behindOK (r.drop p.2) with
    |true=>
     refine .good p.1 (1+p.2) hx hw ?_ ?_
     ·rw [elM_b,elB,hp];simp only [hk,if_true,Elt.add]
     ·rw [ed];exact behind_t hk
    |false=>
     obtain ⟨c2,r2,e2,hb2⟩:=behind_f hk
     refine .junk p.1 (1+p.2) c2 r2 false hx hw (ed.trans e2) hb2 ?_ rfl ?_
     ·rw [elM_b,elB,hp];rw [e2] at hk;simp only [hk,Bool.false_eq_true,if_false,Elt.add,e2]
     ·unfold prevQ
      obtain ⟨m,hm⟩:∃ m,p.2=m+1:=⟨p.2 - 1,by exact linE (fun q=>lin [_,_] [(1,2,.a (.v 0) (.n 1),.v 1),(1,0,.a (.a (.v 0) (.n 1)) (.n 1),.v 1)] rfl (Nat.sub_add_cancel (linL fun q=>lin [_] [(1,0,.n 1,.v 0),(1,0,.a (.v 0) (.n 1),.n 1)] rfl e.1 q)) q) fun q=>lin [_,_] [(1,1,.a (.v 0) (.n 1),.v 1),(1,0,.a (.v 1) (.n 1),.a (.v 0) (.n 1))] rfl (Nat.sub_add_cancel (linL fun q=>lin [_] [(1,0,.n 1,.v 0),(1,0,.a (.v 0) (.n 1),.n 1)] rfl e.1 q)) q⟩
      rw [hm] at e ⊢
      have:(123::r)[1+(m+1) - 1]?=some 125:=by
       rw [show 1+(m+1) - 1=m+1 by exact linE (fun q=>lin [_,_] [(1,1,.a (.v 0) (.n 1),.a (.n 1) (.a (.v 1) (.n 1))),(1,0,.a (.a (.v 1) (.n 1)) (.n 1),.v 0)] rfl (Nat.sub_add_cancel (linL fun q=>lin [_] [(1,0,.a (.a (.n 1) (.a (.v 0) (.n 1))) (.n 1),.n 1)] rfl q)) q) fun q=>lin [_,_] [(1,2,.a (.v 0) (.n 1),.a (.n 1) (.a (.v 1) (.n 1))),(1,0,.a (.v 0) (.n 1),.a (.v 1) (.n 1))] rfl (Nat.sub_add_cancel (linL fun q=>lin [_] [(1,0,.a (.a (.n 1) (.a (.v 0) (.n 1))) (.n 1),.n 1)] rfl q)) q,List.getElem?_cons_succ];exact e.2
      rw [this];rfl
  ·by_cases h2:c=34
   ·subst h2
    rw [wordIn_q,if_pos (clean_ok _ _ (Nat.le_refl _) h.tail)] at hw
    cases hd:r.drop (pu stQ r).2 with
    |nil=>
     rw [hd,if_pos rfl] at hw
     refine .quote hx hw ?_
     rw [elM_q,elQ,hd];rfl
    |cons c3 r3=>
     rw [hd,if_neg (by simp),Nat.zero_add] at hw
     have hs:=pu_end _ r (Nat.le_refl _) c3 r3 hd
     have h3:c3=34:=by unfold stQ at hs;simpa using hs
     have hd2:r.drop ((pu stQ r).2+1)=r3:=by rw [← List.drop_drop,hd];rfl
     have ed:(34::r).drop (1+(pu stQ r).2+1)=r3:=by rw [show 1+(pu stQ r).2+1=((pu stQ r).2+1)+1 by exact linE (fun q=>lin [_] [(1,0,.a (.a (.a (.v 0) (.n 1)) (.n 1)) (.n 1),.a (.a (.n 1) (.v 0)) (.n 1))] rfl q) fun q=>lin [_] [(1,0,.a (.a (.a (.n 1) (.v 0)) (.n 1)) (.n 1),.a (.a (.v 0) (.n 1)) (.n 1))] rfl q,List.drop_succ_cons,hd2]
     cases hk:behindOK r3 with
     |true=>
      refine .good _ _ hx hw ?_ ?_
      ·rw [elM_q,elQ,hd];simp only [hk,if_true,Elt.add,Nat.add_assoc]
      ·rw [ed];exact behind_t hk
     |false=>
      obtain ⟨c2,r2,e2,hb2⟩:=behind_f hk
      refine .junk _ _ c2 r2 true hx hw (ed.trans e2) hb2 ?_ rfl ?_
      ·rw [elM_q,elQ,hd];rw [e2] at hk;simp only [hk,Bool.false_eq_true,if_false,if_true,Elt.add,e2]
      ·unfold prevQ
       have:(34::r)[1+(pu stQ r).2+1 - 1]?=some 34:=by
        rw [show 1+(pu stQ r).2+1 - 1=(pu stQ r).2+1 by exact linE (fun q=>lin [_,_] [(1,1,.a (.v 0) (.n 1),.a (.a (.n 1) (.v 1)) (.n 1)),(1,0,.a (.a (.v 1) (.n 1)) (.n 1),.v 0)] rfl (Nat.sub_add_cancel (linL fun q=>lin [_] [(1,0,.a (.a (.a (.n 1) (.v 0)) (.n 1)) (.n 1),.n 1)] rfl q)) q) fun q=>lin [_,_] [(1,2,.a (.v 0) (.n 1),.a (.a (.n 1) (.v 1)) (.n 1)),(1,0,.a (.v 0) (.n 1),.a (.v 1) (.n 1))] rfl (Nat.sub_add_cancel (linL fun q=>lin [_] [(1,0,.a (.a (.a (.n 1) (.v 0)) (.n 1)) (.n 1),.n 1)] rfl q)) q,List.getElem?_cons_succ]
        have e0:(r.drop (pu stQ r).2)[0]?=some c3:=by rw [hd];rfl
        rw [List.getElem?_drop,Nat.add_zero,h3] at e0
        exact e0
       rw [this];rfl
   ·rw [wordIn_o (fun r q=>by cases q;exact h1 rfl) (fun r q=>by cases q;exact h2 rfl),if_pos (clean_ok _ _ (Nat.le_refl _) h),pu_B h,Nat.zero_add] at hw
    exact .good _ _ hx hw (elM_o h1 h2) (fun c2 r2 e=>pu_end _ _ (Nat.le_refl _) c2 r2 e)
theorem gaps0 {c:Nat} {r:List Nat} (h:AOK (c::r)) (hb:blank c=false):gaps (c::r)=0:=gaps_no (by rw [aok_gap h];exact hb) (nobn h.tail)
theorem blanks0 {c:Nat} {r:List Nat} (hb:blank c=false):blanks (c::r)=0:=by rw [blanks,hb];rfl
theorem cmd_junk {k c n c2:Nat} {r x r2:List Nat} (h:AOK (c::r)) (hw:wordM (c::r)=some (.ok (false,x,n))) (hd:(c::r).drop n=c2::r2) (hb:blank c2=false) :
  cmdM (k+1) (c::r)=some (.error (if prevQ (c::r) n=true then msgXQ else msgXB)):=by
 have ha:AOK (c2::r2):=hd▸h.drop n
 have f:=okC_f ha.head
 rw [cmdM_ok hw,hd,gaps0 ha hb,List.drop_zero]
 exact (if_neg (fun q=>q.elim f.2.2.2.1 f.2.2.1)).trans (if_pos rfl)
theorem wordIn_some {e:Bool} {off:Nat} {l:List Nat} (h:AOK l):(∃ x n,wordIn e off l=some (.ok (e,x,n)))∨∃ m,wordIn e off l=some (.error m):=by
 by_cases h1:∃ r,l=123::r
 ·obtain ⟨r,rfl⟩:=h1
  rw [wordIn_b]
  cases brc 1 false r with
  |none=>exact .inr ⟨_,rfl⟩
  |some p=>exact .inl ⟨_,_,rfl⟩
 ·by_cases h2:∃ r,l=34::r
  ·obtain ⟨r,rfl⟩:=h2
   rw [wordIn_q,if_pos (clean_ok _ _ (Nat.le_refl _) h.tail)]
   split
   ·exact .inr ⟨_,rfl⟩
   ·exact .inl ⟨_,_,rfl⟩
  ·rw [wordIn_o (fun r q=>h1 ⟨r,q⟩) (fun r q=>h2 ⟨r,q⟩),if_pos (clean_ok _ _ (Nat.le_refl _) h)]
   exact .inl ⟨_,_,rfl⟩
theorem wordM_some {l:List Nat} (h:AOK l):(∃ x n,wordM l=some (.ok (isX l,x,n)))∨∃ m,wordM l=some (.error m):=by
 unfold wordM
 cases isX l with
 |true=>exact wordIn_some (h.drop 3)
 |false=>exact wordIn_some h
theorem aok_head {l:List Nat} {c:Nat} {r:List Nat} (h:AOK l) (hd:l.drop (gaps l)=c::r):AOK (c::r)∧blank c=false:=by
 have ha:AOK (c::r):=hd▸h.drop _
 exact ⟨ha,by rw [← aok_gap ha];exact (gaps_head hd).1⟩
set_option tactic.hygienic true in
theorem cmdM_all:∀ (k:Nat) (l:List Nat),AOK l→l.length<k→∃ p,cmdM k l=some p
 |0,l,_,h=>by exact (lin [_] [(1,0,.a (.v 0) (.n 1),.n 0)] rfl h).elim
 |k+1,l,ha,h=>by
  rcases wordM_some ha with ⟨x,n,hw⟩ |⟨m,hw⟩
  ·rw [cmdM_ok hw]
   cases hd:(l.drop n).drop (gaps (l.drop n)) with
   |nil=>exact ⟨_,rfl⟩
   |cons c r=>
    have a2:=(aok_head (ha.drop n) hd).1
    have f:=okC_f a2.head
    dsimp only
    rw [if_neg (fun q=>q.elim f.2.2.2.1 f.2.2.1)]
    split
    ·exact ⟨_,rfl⟩
    ·rename_i hz
     have hl:r.length+1=l.length - n - gaps (l.drop n):=by
      have:=congrArg List.length hd
      rw [List.length_drop,List.length_drop] at this
      simp only [List.length_cons] at this
      exact linE (fun q=>lin [_,_] [(1,2,.v 0,.a (.v 1) (.n 1)),(1,0,.a (.v 0) (.n 1),.a (.v 1) (.n 1))] rfl this q) fun q=>lin [_,_] [(1,1,.v 0,.a (.v 1) (.n 1)),(1,0,.a (.a (.v 1) (.n 1)) (.n 1),.v 0)] rfl this q
     obtain ⟨p,hp⟩:=cmdM_all k (c::r) a2 (by simp only [List.length_cons];omega)
     rw [hp]
     cases p with
     |error m=>exact ⟨_,rfl⟩
     |ok p=>exact ⟨_,rfl⟩
  ·exact ⟨.error m,by rw [cmdM,hw]⟩
theorem cmdM_first {k:Nat} {l x:List Nat} {e:Bool} {n m:Nat} {ws:List (Bool × List Nat)} (hw:wordM l=some (.ok (e,x,n))) (h:cmdM (k+1) l=some (.ok (ws,m))):(e,x) ∈ ws:=by
 rw [cmdM_ok hw] at h
 split at h
 ·cases h;exact List.mem_cons_self ..
 ·split at h
  ·cases h
  ·split at h
   ·cases h
   ·split at h
    ·cases h
    ·cases h
    ·cases h;exact List.mem_cons_self ..
theorem splW_nil {f:Nat} {l:List Nat} (h:l.drop (blanks l)=[]):splW f l=([],none):=by
 cases f with
 |zero=>rfl
 |succ f=>rw [splW,h]
theorem splW_c {f:Nat} {l:List Nat} {c:Nat} {r:List Nat} (h:l.drop (blanks l)=c::r):splW f l=splW f (c::r):=by
 have hb:=blanks_head h
 cases f with
 |zero=>rfl
 |succ f=>
  have e:(c::r).drop (blanks (c::r))=c::r:=by rw [blanks0 hb];rfl
  rw [splW,splW,h,e]
theorem splW_ok {f c:Nat} {r x:List Nat} {n:Nat} (hb:blank c=false) (h:elM (c::r) = .ok x n):splW (f+1) (c::r)=(x::(splW f ((c::r).drop n)).1,(splW f ((c::r).drop n)).2):=by
 have e:(c::r).drop (blanks (c::r))=c::r:=by rw [blanks0 hb];rfl
 rw [splW,e]
 simp only [h]
theorem splW_bad {f c:Nat} {r m q:List Nat} (hb:blank c=false) (h:elM (c::r) = .bad m q):splW (f+1) (c::r)=([],some (m,q)):=by
 have e:(c::r).drop (blanks (c::r))=c::r:=by rw [blanks0 hb];rfl
 rw [splW,e]
 simp only [h]
theorem splM_W:∀ (f:Nat) (l:List Nat),splM f l=match (splW f l).2 with
  |none => .ok (splW f l).1
  |some p => .error p
 |0,_=>rfl
 |f+1,l=>by
  rw [splM,splW]
  cases hd:l.drop (blanks l) with
  |nil=>rfl
  |cons c r=>
   simp only
   cases he:elM (c::r) with
   |bad m q=>rfl
   |ok x n=>
    simp only
    rw [splM_W f]
    cases (splW f ((c::r).drop n)).2 <;> rfl
noncomputable def Bad (k:Nat) (l:List Nat):Prop:=(∃ m,cmdM k l=some (.error m))∨∃ ws n,cmdM k l=some (.ok (ws,n))∧∃ x,(true,x) ∈ ws
theorem cmd_spl:∀ (k f:Nat) (c:Nat) (r:List Nat),AOK (c::r)→blank c=false→(c::r).length<k→(c::r).length<f →
  ((splW f (c::r)).2=none→∃ n,cmdM k (c::r)=some (.ok ((splW f (c::r)).1.map fun x=>(false,x),n)))∧((splW f (c::r)).2≠none→Bad k (c::r))
 |0,_,c,r,_,_,h,_=>by simp at h
 |_,0,c,r,_,_,_,h=>by simp at h
 |k+1,f+1,c,r,ha,hb,hk,hf=>by
  rcases we_of ha hb with ⟨x,n,hx,hw,he,hn⟩ |⟨hx,he⟩ |⟨hx,hw,he⟩ |⟨hx,hw,he⟩ |⟨x,n,c2,r2,q,hx,hw,hd,hb2,he,hc,hq⟩
  ·rw [splW_ok hb he]
   have ab:=ha.drop n
   have eg:=gaps_blanks ab
   cases hd:((c::r).drop n).drop (gaps ((c::r).drop n)) with
   |nil=>
    have e0:splW f ((c::r).drop n)=([],none):=splW_nil (by rw [← eg];exact hd)
    refine ⟨fun _=>⟨n,?_⟩,fun q=>absurd (by rw [e0]) q⟩
    rw [cmdM_ok hw,hd,e0];rfl
   |cons c2 r2=>
    have h2:=aok_head ab hd
    have f2:=okC_f h2.1.head
    have e0:splW f ((c::r).drop n)=splW f (c2::r2):=splW_c (by rw [← eg];exact hd)
    have hpos:=elM_pos hb he
    have hl:r2.length+1=(c::r).length - n - gaps ((c::r).drop n):=by
     have:=congrArg List.length hd
     rw [List.length_drop,List.length_drop] at this
     simp only [List.length_cons] at this ⊢
     exact linE (fun q=>lin [_,_] [(1,2,.v 0,.a (.v 1) (.n 1)),(1,0,.a (.v 0) (.n 1),.a (.v 1) (.n 1))] rfl this q) fun q=>lin [_,_] [(1,1,.v 0,.a (.v 1) (.n 1)),(1,0,.a (.a (.v 1) (.n 1)) (.n 1),.v 0)] rfl this q
    have hg:gaps ((c::r).drop n)≠0:=fun hz=>by
     rw [hz,List.drop_zero] at hd
     have:=hn c2 r2 hd
     rw [h2.2] at this
     cases this
    have hc:cmdM (k+1) (c::r)=(match cmdM k (c2::r2) with
      |none=>none
      |some (.error m)=>some (.error m)
      |some (.ok (ws,m))=>some (.ok ((false,x)::ws,n+gaps ((c::r).drop n)+m))):=by
     rw [cmdM_ok hw,hd]
     exact (if_neg (fun q=>q.elim f2.2.2.2.1 f2.2.2.1)).trans (if_neg hg)
    obtain ⟨i1,i2⟩:=cmd_spl k f c2 r2 h2.1 h2.2 (by simp only [List.length_cons] at *;omega) (by simp only [List.length_cons] at *;omega)
    rw [e0]
    refine ⟨fun q=>?_,fun q=>?_⟩
    ·obtain ⟨n',h'⟩:=i1 q
     exact ⟨_,by rw [hc,h'];rfl⟩
    ·rcases i2 q with ⟨m,h'⟩ |⟨ws,n',h',y,hy⟩
     ·exact .inl ⟨m,by rw [hc,h']⟩
     ·exact .inr ⟨_,_,by rw [hc,h'],y,List.mem_cons_of_mem _ hy⟩
  ·rw [splW_bad hb he]
   refine ⟨(fun q=>nomatch q),fun _=>?_⟩
   obtain ⟨p,hp⟩:=cmdM_all (k+1) (c::r) ha hk
   cases p with
   |error m=>exact .inl ⟨m,hp⟩
   |ok p=>
    refine .inr ⟨p.1,p.2,hp,?_⟩
    rcases wordM_some ha with ⟨x,n,hw⟩ |⟨m,hw⟩
    ·rw [hx] at hw
     exact ⟨x,cmdM_first hw hp⟩
    ·rw [cmdM,hw] at hp;cases hp
  ·rw [splW_bad hb he]
   exact ⟨(fun q=>nomatch q),fun _ => .inl ⟨msgB,by rw [cmdM,hw]⟩⟩
  ·rw [splW_bad hb he]
   exact ⟨(fun q=>nomatch q),fun _ => .inl ⟨msgQ,by rw [cmdM,hw]⟩⟩
  ·rw [splW_bad hb he]
   exact ⟨(fun q=>nomatch q),fun _ => .inl ⟨_,cmd_junk ha hw hd hb2⟩⟩
end Mine
end
section
open PySem PySem.W PyProof.Rows
namespace Mine
noncomputable def tailOK (l:List Nat):Prop:=l=[]∨∃ y,l=32::y
theorem tail_behind {l:List Nat} (h:tailOK l):behindOK l=true:=by
 rcases h with rfl |⟨y,rfl⟩ <;> rfl
theorem scan_skip {s:MSt} {e:Nat} {r:List Nat} (h:¬ (e=123∨e=125∨e=92)):∃ s2:MSt,s2.depth=s.depth∧scan s (e::r)=scan s2 r:=by
 obtain ⟨h1,h⟩:=not_or.mp h
 obtain ⟨h2,h3⟩:=not_or.mp h
 rw [scan.eq_def]
 dsimp only
 rw [if_neg h1,if_neg h2,if_neg h3]
 split
 ·exact ⟨{ s with bound:=true,we:=true },rfl,rfl⟩
 ·split
  ·exact ⟨{ s with bound:=true,wb:=true },rfl,rfl⟩
  ·exact ⟨s,rfl,rfl⟩
set_option tactic.hygienic true in
theorem scan_brc:∀ (n:Nat) (x:List Nat) (s s':MSt),x.length≤n→scan s x=some s'→∀ y,brcL (s.depth+1) (x++y)=(brcL (s'.depth+1) y).map (fun p=>(x++p.1,x.length+p.2))∧brc (s.depth+1) false (x++y)=(brc (s'.depth+1) false y).map (fun p=>(x++p.1,x.length+p.2))
 |_,[],s,s',_,h,y=>by
  rw [scan.eq_def] at h;cases h
  simp
 |0,c::r,s,s',hn,_,_=>by simp at hn
 |n+1,c::r,s,s',hn,h,y=>by
  have hr:r.length≤n:=by simpa using hn
  have one:∀ (s1:MSt),s1.depth=s.depth→c≠123→c≠125→c≠92→scan s1 r=some s'→brcL (s.depth+1) (c::r++y)=(brcL (s'.depth+1) y).map (fun p=>(c::r++p.1,(c::r).length+p.2))∧brc (s.depth+1) false (c::r++y)=(brc (s'.depth+1) false y).map (fun p=>(c::r++p.1,(c::r).length+p.2)):=fun s1 e h1 h2 h3 hs=>by
   obtain ⟨i1,i2⟩:=scan_brc n r s1 s' hr hs y
   rw [e] at i1 i2
   rw [List.cons_append,brcL_ch h1 h2 h3,brc_ch h1 h2 h3,i1,i2,Option.map_map,Option.map_map]
   refine ⟨congrArg (fun f=>Option.map f _) (funext fun p=>?_),congrArg (fun f=>Option.map f _) (funext fun p=>?_)⟩ <;>
   ·simp only [Function.comp,List.length_cons,Prod.mk.injEq,List.cons_append,true_and];exact linE (fun q=>lin [_,_] [(1,0,.a (.a (.a (.v 0) (.n 1)) (.v 1)) (.n 1),.a (.a (.v 0) (.v 1)) (.n 1))] rfl q) fun q=>lin [_,_] [(1,0,.a (.a (.a (.v 0) (.v 1)) (.n 1)) (.n 1),.a (.a (.v 0) (.n 1)) (.v 1))] rfl q
  rw [scan.eq_def] at h
  dsimp only at h
  split at h
  ·rename_i hc;subst hc
   obtain ⟨i1,i2⟩:=scan_brc n r _ s' hr h y
   rw [List.cons_append,brcL_o,brc_o]
   dsimp only at i1 i2
   rw [i1,i2,Option.map_map,Option.map_map]
   refine ⟨congrArg (fun f=>Option.map f _) (funext fun p=>?_),congrArg (fun f=>Option.map f _) (funext fun p=>?_)⟩ <;>
   ·simp only [Function.comp,List.length_cons,Prod.mk.injEq,List.cons_append,true_and];exact linE (fun q=>lin [_,_] [(1,0,.a (.a (.a (.v 0) (.n 1)) (.v 1)) (.n 1),.a (.a (.v 0) (.v 1)) (.n 1))] rfl q) fun q=>lin [_,_] [(1,0,.a (.a (.a (.v 0) (.v 1)) (.n 1)) (.n 1),.a (.a (.v 0) (.n 1)) (.v 1))] rfl q
  ·rename_i hc1
   split at h
   ·rename_i hc;subst hc
    split at h
    ·cases h
    ·rename_i hd
     obtain ⟨i1,i2⟩:=scan_brc n r _ s' hr h y
     dsimp only at i1 i2
     have e:s.depth - 1+1=s.depth:=Nat.sub_add_cancel (Nat.pos_of_ne_zero hd)
     rw [e] at i1 i2
     rw [List.cons_append,brcL_c2 (by exact fun q=>lin [_,_] [(1,1,.a (.v 0) (.n 1),.v 1),(1,0,.a (.v 1) (.n 1),.n 1)] rfl e q),brc_c2 (by exact fun q=>lin [_,_] [(1,1,.a (.v 0) (.n 1),.v 1),(1,0,.a (.v 1) (.n 1),.n 1)] rfl e q),Nat.add_sub_cancel,i1,i2,Option.map_map,Option.map_map]
     refine ⟨congrArg (fun f=>Option.map f _) (funext fun p=>?_),congrArg (fun f=>Option.map f _) (funext fun p=>?_)⟩ <;>
     ·simp only [Function.comp,List.length_cons,Prod.mk.injEq,List.cons_append,true_and];exact linE (fun q=>lin [_,_] [(1,0,.a (.a (.a (.v 0) (.n 1)) (.v 1)) (.n 1),.a (.a (.v 0) (.v 1)) (.n 1))] rfl q) fun q=>lin [_,_] [(1,0,.a (.a (.a (.v 0) (.v 1)) (.n 1)) (.n 1),.a (.a (.v 0) (.n 1)) (.v 1))] rfl q
   ·rename_i hc2
    split at h
    ·rename_i hc3
     exact one { s with bound:=true,we:=true } rfl hc1 hc2 (fun q=>by subst q;exact absurd hc3 (by decide)) h
    ·split at h
     ·rename_i hc4;subst hc4
      split at h
      ·cases h
      ·rename_i e r'
       split at h
       ·cases h
       ·rename_i he
        have hr':r'.length≤n:=by simp only [List.length_cons] at hr;exact linL fun q=>lin [_,_] [(1,0,.a (.v 0) (.n 1),.v 1),(1,0,.a (.v 1) (.n 1),.v 0)] rfl hr q
        have two:∀ (s1:MSt),s1.depth=s.depth→scan s1 r'=some s'→brcL (s.depth+1) (92::e::r'++y)=(brcL (s'.depth+1) y).map (fun p=>(92::e::r'++p.1,(92::e::r').length+p.2))∧brc (s.depth+1) false (92::e::r'++y)=(brc (s'.depth+1) false y).map (fun p=>(92::e::r'++p.1,(92::e::r').length+p.2)):=fun s1 e1 hs=>by
         obtain ⟨i1,i2⟩:=scan_brc n r' s1 s' hr' hs y
         rw [e1] at i1 i2
         rw [List.cons_append,List.cons_append,brcL_b,brc_b he,i1,i2,Option.map_map,Option.map_map]
         refine ⟨congrArg (fun f=>Option.map f _) (funext fun p=>?_),congrArg (fun f=>Option.map f _) (funext fun p=>?_)⟩ <;>
         ·simp only [Function.comp,List.length_cons,Prod.mk.injEq,List.cons_append,true_and];exact linE (fun q=>lin [_,_] [(1,0,.a (.a (.a (.a (.v 0) (.n 1)) (.n 1)) (.v 1)) (.n 1),.a (.a (.v 0) (.v 1)) (.n 2))] rfl q) fun q=>lin [_,_] [(1,0,.a (.a (.a (.v 0) (.v 1)) (.n 2)) (.n 1),.a (.a (.a (.v 0) (.n 1)) (.n 1)) (.v 1))] rfl q
        split at h
        ·exact two { s with bound:=true,wb:=true } rfl h
        ·rename_i hne
         obtain ⟨s2,e2,e3⟩:=scan_skip (s:={ s with bound:=true,wb:=true }) (r:=r') hne
         rw [e3] at h
         exact two s2 e2 h
     ·rename_i hc4
      split at h
      ·exact one { s with bound:=true,wb:=true } rfl hc1 hc2 hc4 h
      ·exact one s rfl hc1 hc2 hc4 h
noncomputable def plainC (c:Nat):Prop:=stB c=false∧c≠36∧c≠91∧c≠92∧blank c=false
theorem plainC_of {c:Nat} (h1:c≠91) (h2:c≠36) (h3:c≠59) (h4:blank c=false) (h5:c≠92):plainC c:=⟨by rw [stB_blank h3];exact h4,h2,h1,h5,h4⟩
set_option tactic.hygienic true in
theorem scan_bound:∀ (n:Nat) (x:List Nat) (s s':MSt),x.length≤n→scan s x=some s'→s'.bound=false→s.bound=false∧∀ c ∈ x,plainC c∧c≠34
 |_,[],s,s',_,h,hb=>by
  rw [scan.eq_def] at h;cases h
  exact ⟨hb,fun c hc=>nomatch hc⟩
 |0,c::r,s,s',hn,_,_=>by simp at hn
 |n+1,c::r,s,s',hn,h,hb=>by
  have hr:r.length≤n:=by simpa using hn
  have one:∀ (s1:MSt),s1.bound=s.bound→(plainC c∧c≠34)→scan s1 r=some s'→s.bound=false∧∀ d ∈ c::r,plainC d∧d≠34:=fun s1 e hc hs=>by
   obtain ⟨i1,i2⟩:=scan_bound n r s1 s' hr hs hb
   refine ⟨e▸i1,fun d hd=>?_⟩
   rcases List.mem_cons.mp hd with rfl |hd
   ·exact hc
   ·exact i2 d hd
  rw [scan.eq_def] at h
  dsimp only at h
  split at h
  ·rename_i hc;subst hc
   exact one { s with depth:=s.depth+1 } rfl ⟨plainC_of (by decide) (by decide) (by decide) (by decide) (by decide),by decide⟩ h
  ·split at h
   ·rename_i hc;subst hc
    split at h
    ·cases h
    ·exact one { s with depth:=s.depth - 1 } rfl ⟨plainC_of (by decide) (by decide) (by decide) (by decide) (by decide),by decide⟩ h
   ·split at h
    ·have:=(scan_bound n r _ s' hr h hb).1
     cases this
    ·rename_i hc3
     split at h
     ·split at h
      ·cases h
      ·rename_i e r'
       split at h
       ·cases h
       ·split at h
        ·have:=(scan_bound n r' _ s' (by simp only [List.length_cons] at hr;exact linL fun q=>lin [_,_] [(1,0,.a (.v 0) (.n 1),.v 1),(1,0,.a (.v 1) (.n 1),.v 0)] rfl hr q) h hb).1
         cases this
        ·have:=(scan_bound n (e::r') _ s' hr h hb).1
         cases this
     ·rename_i hc4
      split at h
      ·have:=(scan_bound n r _ s' hr h hb).1
       cases this
      ·rename_i hc5
       have hbl:blank c=false:=by
        cases q:blank c with
        |false=>rfl
        |true=>exact absurd (.inr (.inr (.inr q))) hc5
       exact one s rfl ⟨plainC_of (fun q=>hc5 (.inl q)) (fun q=>hc5 (.inr (.inl q))) (fun q=>hc5 (.inr (.inr (.inl q)))) hbl hc4,fun q=>hc3 (.inr q)⟩ h
noncomputable def BareOK (Z x rest:List Nat):Prop:=pu blank (Z++rest)=(x,Z.length)∧pu stB (Z++rest)=(x,Z.length)∧clean stB true (Z++rest)=true
theorem bare_nil {rest:List Nat} (h:tailOK rest):BareOK [] [] rest:=by
 rcases h with rfl |⟨y,rfl⟩
 ·exact ⟨pu_nil,pu_nil,clean_nil⟩
 ·exact ⟨pu_stop rfl,pu_stop rfl,clean_stop rfl⟩
theorem bare_ch {c:Nat} {Z x rest:List Nat} (hc:plainC c) (h:BareOK Z x rest):BareOK (c::Z) (c::x) rest:=by
 obtain ⟨h1,h2,h3⟩:=h
 obtain ⟨c1,c2,c3,c4,c5⟩:=hc
 refine ⟨?_,?_,?_⟩
 ·rw [List.cons_append,pu_ch c5 c4,h1,List.length_cons,Nat.add_comm]
 ·rw [List.cons_append,pu_ch c1 c4,h2,List.length_cons,Nat.add_comm]
 ·rw [List.cons_append,clean_ch c1 c2 c3 c4];exact h3
theorem bare_esc {c e:Nat} {Z x rest:List Nat} (he:e≠10) (hb:∀ z,bsl (e::z)=([c],2)) (h:BareOK Z x rest):BareOK (92::e::Z) (c::x) rest:=by
 obtain ⟨h1,h2,h3⟩:=h
 have hb:=hb (Z++rest)
 refine ⟨?_,?_,?_⟩
 ·rw [List.cons_append,List.cons_append,pu_bs rfl,hb]
  simp only [Nat.add_one_sub_one,List.drop_succ_cons,List.drop_zero,h1,List.length_cons,List.singleton_append,Prod.mk.injEq,true_and]
  exact linE (fun q=>lin [_] [(1,0,.a (.a (.a (.v 0) (.n 1)) (.n 1)) (.n 1),.a (.n 2) (.v 0))] rfl q) fun q=>lin [_] [(1,0,.a (.a (.n 2) (.v 0)) (.n 1),.a (.a (.v 0) (.n 1)) (.n 1))] rfl q
 ·rw [List.cons_append,List.cons_append,pu_bs rfl,hb]
  simp only [Nat.add_one_sub_one,List.drop_succ_cons,List.drop_zero,h2,List.length_cons,List.singleton_append,Prod.mk.injEq,true_and]
  exact linE (fun q=>lin [_] [(1,0,.a (.a (.a (.v 0) (.n 1)) (.n 1)) (.n 1),.a (.n 2) (.v 0))] rfl q) fun q=>lin [_] [(1,0,.a (.a (.n 2) (.v 0)) (.n 1),.a (.a (.v 0) (.n 1)) (.n 1))] rfl q
 ·rw [List.cons_append,List.cons_append,clean_bs rfl,if_neg (fun q=>he (by simpa using q.2)),hb]
  simpa only [Nat.add_one_sub_one,List.drop_succ_cons,List.drop_zero] using h3
theorem bsl_known {e k:Nat} (h:escOf e=some k) (z:List Nat):bsl (e::z)=([k],2):=by
 unfold bsl
 dsimp only
 rw [h]
theorem bsl_self {e:Nat} (h:escOf e=none∧e≠10∧¬ (e=120∨e=117∨e=85)∧¬ (48≤e∧e≤55)) (z:List Nat):bsl (e::z)=([e],2):=by
 unfold bsl
 dsimp only
 rw [h.1]
 dsimp only
 rw [if_neg h.2.1,if_neg h.2.2.1,if_neg h.2.2.2]
set_option tactic.hygienic true in
theorem esc_cases (d:Bool) (c:Nat):(∃ e,escM d c=[92,e]∧e≠10∧∀ z,bsl (e::z)=([c],2))∨(escM d c=[c]∧plainC c∧c≠34∧(d=true→c≠123)):=by
 unfold escM
 split
 ·rename_i h;subst h;exact .inl ⟨_,rfl,by decide,bsl_known rfl⟩
 ·split
  ·rename_i h;subst h;exact .inl ⟨_,rfl,by decide,bsl_known rfl⟩
  ·split
   ·rename_i h;subst h;exact .inl ⟨_,rfl,by decide,bsl_known rfl⟩
   ·split
    ·rename_i h;subst h;exact .inl ⟨_,rfl,by decide,bsl_known rfl⟩
    ·split
     ·rename_i h;subst h;exact .inl ⟨_,rfl,by decide,bsl_known rfl⟩
     ·rename_i n1 n2 n3 n4 n5
      split
      ·rename_i h
       refine .inl ⟨c,rfl,n2,?_⟩
       have hs:∀ x ∈ [93,91,36,59,32,92,34,123,125],escOf x=none∧x≠10∧¬ (x=120∨x=117∨x=85)∧¬ (48≤x∧x≤55):=by decide
       have hm:c ∈ [93,91,36,59,32,92,34,123,125]:=by
        simp only [List.mem_cons,List.not_mem_nil,or_false]
        exact h.imp id fun h=>h.imp id fun h=>h.imp id fun h=>h.imp id fun h=>h.imp id fun h=>h.imp id fun h=>h.imp id fun h=>h.2
       exact bsl_self (hs c hm)
      ·rename_i h
       obtain ⟨h1,h2,h3,h4,h5,h6,h7,h8⟩:=(not_or.mp h).imp id fun h=>(not_or.mp h).imp id fun h=>(not_or.mp h).imp id fun h=>(not_or.mp h).imp id fun h=>(not_or.mp h).imp id fun h=>(not_or.mp h).imp id fun h=>not_or.mp h
       refine .inr ⟨rfl,plainC_of h2 h3 h4 ?_ h6,h7,fun q1 q2=>h8 ⟨q1,.inl q2⟩⟩
       unfold blank
       simp only [Bool.or_eq_false_iff,beq_eq_false_iff_ne]
       exact ⟨⟨⟨⟨⟨h5,n4⟩,n2⟩,n5⟩,n1⟩,n3⟩
theorem bare_map {d:Bool} {rest:List Nat} (h:tailOK rest):∀ (x:List Nat),BareOK (x.map (escM d)).flatten x rest
 | []=>bare_nil h
 |c::r=>by
  have ih:=bare_map (d:=d) h r
  rw [List.map_cons,List.flatten_cons]
  rcases esc_cases d c with ⟨e,he,h10,hb⟩ |⟨he,hp,_⟩
  ·rw [he];exact bare_esc h10 hb ih
  ·rw [he];exact bare_ch hp ih
theorem bare_self {rest:List Nat} (h:tailOK rest):∀ (x:List Nat),(∀ c ∈ x,plainC c)→BareOK x x rest
 | [],_=>bare_nil h
 |c::r,hx=>bare_ch (hx c (List.mem_cons_self ..)) (bare_self h r fun d hd=>hx d (List.mem_cons_of_mem _ hd))
structure QOK (Z x:List Nat):Prop where
 head:∃ c r,Z=c::r∧blank c=false∧c≠59∧(c=92→∃ e r',r=e::r'∧e≠10)
 el:∀ rest,tailOK rest→elM (Z++rest) = .ok x Z.length
 wd:∀ rest,tailOK rest→wordM (Z++rest)=some (.ok (false,x,Z.length))
theorem qok_bare {Z x:List Nat} {c:Nat} {r:List Nat} (hz:Z=c::r) (h1:c≠123) (h2:c≠34) (h3:blank c=false) (h4:c≠59) (h5:c=92→∃ e r',r=e::r'∧e≠10) (hb:∀ rest,tailOK rest→BareOK Z x rest):QOK Z x where
 head:=⟨c,r,hz,h3,h4,h5⟩
 el:=fun rest hr=>by
  obtain ⟨b1,b2,b3⟩:=hb rest hr
  subst hz
  rw [List.cons_append,elM_o h1 h2,← List.cons_append,b1]
 wd:=fun rest hr=>by
  obtain ⟨b1,b2,b3⟩:=hb rest hr
  subst hz
  have hx:isX (c::r++rest)=false:=by
   cases q:isX (c::r++rest) with
   |false=>rfl
   |true=>
    obtain ⟨c',r',e,_⟩:=isX_take q
    rw [List.cons_append] at e
    exact absurd (List.cons.inj e).1 h1
  unfold wordM
  rw [hx,if_neg (by decide),wordIn_o (fun r q=>by cases q;exact h1 rfl) (fun r q=>by cases q;exact h2 rfl),if_pos b3,b2,Nat.zero_add]
theorem qok_brace {x:List Nat} (h1:∀ y,brcL 1 (x++125::y)=some (x,x.length+1)) (h2:∀ y,brc 1 false (x++125::y)=some (x,x.length+1)) (h3:∀ z,x≠42::125::z):QOK (123::(x++[125])) x where
 head:=⟨123,_,rfl,rfl,by decide,fun q=>absurd q (by decide)⟩
 el:=fun rest hr=>by
  rw [List.cons_append,List.append_assoc,List.singleton_append,elM_b,elB,h1 rest]
  have:(x++125::rest).drop (x.length+1)=rest:=by simp
  simp only [this,tail_behind hr,if_true,Elt.add,List.length_cons,List.length_append,List.length_nil,Elt.ok.injEq,true_and]
  exact linE (fun q=>lin [_] [(1,0,.a (.a (.a (.v 0) (.a (.n 0) (.n 1))) (.n 1)) (.n 1),.a (.n 1) (.a (.v 0) (.n 1)))] rfl q) fun q=>lin [_] [(1,0,.a (.a (.n 1) (.a (.v 0) (.n 1))) (.n 1),.a (.a (.v 0) (.a (.n 0) (.n 1))) (.n 1))] rfl q
 wd:=fun rest hr=>by
  rw [List.cons_append,List.append_assoc,List.singleton_append]
  have hx:isX (123::(x++125::rest))=false:=by
   cases q:isX (123::(x++125::rest)) with
   |false=>rfl
   |true=>
    obtain ⟨c',r',e,hg,_⟩:=isX_take q
    simp only [List.cons.injEq,true_and] at e
    cases x with
    |nil=>simp at e
    |cons a x=>
     simp only [List.cons_append,List.cons.injEq] at e
     obtain ⟨rfl,e⟩:=e
     cases x with
     |nil=>
      simp only [List.nil_append,List.cons.injEq,true_and] at e
      rcases hr with rfl |⟨y,rfl⟩
      ·cases e
      ·cases e;cases hg
     |cons b x=>
      simp only [List.cons_append,List.cons.injEq] at e
      obtain ⟨rfl,e⟩:=e
      exact absurd rfl (h3 x)
  unfold wordM
  rw [hx,if_neg (by decide),wordIn_b,h2 rest]
  simp only [Nat.zero_add,List.length_cons,List.length_append,List.length_nil,Option.some.injEq,Except.ok.injEq,Prod.mk.injEq,true_and]
  exact linE (fun q=>lin [_] [(1,0,.a (.a (.a (.v 0) (.n 1)) (.n 1)) (.n 1),.a (.n 1) (.a (.v 0) (.n 1)))] rfl q) fun q=>lin [_] [(1,0,.a (.a (.n 1) (.a (.v 0) (.n 1))) (.n 1),.a (.a (.v 0) (.n 1)) (.n 1))] rfl q
theorem scan_42 {s:MSt} {z:List Nat} (h:s.depth=0):scan s (42::125::z)=none:=by
 rw [scan.eq_def]
 dsimp only
 rw [if_neg (by decide),if_neg (by decide),if_neg (by decide),if_neg (by decide),if_neg (by decide),scan.eq_def]
 dsimp only
 rw [if_neg (by decide),if_pos rfl,if_pos h]
set_option tactic.hygienic true in
theorem qok (x:List Nat) (h:Bool):QOK (quoteM x h) x:=by
 cases x with
 |nil=>
  refine qok_brace (x:=[]) (fun y=>?_) (fun y=>?_) (fun z q=>by cases q)
  ·exact brcL_c1 (Nat.le_refl _)
  ·exact brc_c1 (Nat.le_refl _)
 |cons b r=>
  have hm:modeM (b::r) h=(match scan ⟨0,b == 123 || b == 34,(b == 123 || b == 34) || (h && b == 35),false⟩ (b::r) with
   |Option.none=>Mode.escape
   |some s=>if 0<s.depth then .escape else if s.bound=true then (if s.we=true∧s.wb=false then .mask else .brace) else if (h && b == 35)=true then .brace else .none):=rfl
  have hesc:∀ (p:List Nat),(p=[]∨(p=[92]∧b=35))→QOK (p++((b::r).map (escM true)).flatten) (b::r):=fun p hp=>by
   rcases hp with rfl |⟨rfl,rfl⟩
   ·rw [List.nil_append]
    rcases esc_cases true b with ⟨e,he,h10,hb⟩ |⟨he,hp,h34,h123⟩
    ·refine qok_bare (c:=92) (r:=e::(r.map (escM true)).flatten) (by rw [List.map_cons,List.flatten_cons,he];rfl) (by decide) (by decide) rfl (by decide) (fun _=>⟨_,_,rfl,h10⟩) fun rest hr=>bare_map hr _
    ·refine qok_bare (c:=b) (r:=(r.map (escM true)).flatten) (by rw [List.map_cons,List.flatten_cons,he];rfl) (h123 rfl) h34 hp.2.2.2.2 (fun q=>by rw [q] at hp;cases hp.1) (fun q=>absurd q hp.2.2.2.1) fun rest hr=>bare_map hr _
   ·refine qok_bare (c:=92) (r:=35::(r.map (escM true)).flatten) rfl (by decide) (by decide) rfl (by decide) (fun _=>⟨_,_,rfl,by decide⟩) fun rest hr=>?_
    exact bare_esc (by decide) (bsl_self (by decide)) (bare_map hr r)
  have hbr:∀ s,scan ⟨0,b == 123 || b == 34,(b == 123 || b == 34) || (h && b == 35),false⟩ (b::r)=some s→¬ 0<s.depth→QOK (123::(b::r++[125])) (b::r):=fun s hs hd=>by
   have e0:s.depth=0:=by exact linE (fun q=>lin [_] [(1,0,.v 0,.n 0),(1,0,.a (.n 0) (.n 1),.v 0)] rfl (Nat.le_of_not_lt hd) q) fun q=>lin [_] [(1,0,.a (.v 0) (.n 1),.n 0)] rfl q
   refine qok_brace (fun y=>?_) (fun y=>?_) (fun z q=>?_)
   ·rw [(scan_brc _ _ _ _ (Nat.le_refl _) hs (125::y)).1,e0,brcL_c1 (Nat.le_refl _)];simp
   ·rw [(scan_brc _ _ _ _ (Nat.le_refl _) hs (125::y)).2,e0,brc_c1 (Nat.le_refl _)];simp
   ·rw [q,scan_42 rfl] at hs;cases hs
  unfold quoteM
  cases hs:scan ⟨0,b == 123 || b == 34,(b == 123 || b == 34) || (h && b == 35),false⟩ (b::r) with
  |none=>
   rw [hs] at hm
   rw [hm]
   refine hesc _ ?_
   split
   ·rename_i q;exact .inr ⟨rfl,by simpa using q.2⟩
   ·exact .inl rfl
  |some s=>
   rw [hs] at hm
   dsimp only at hm
   split at hm
   ·rw [hm]
    refine hesc _ ?_
    split
    ·rename_i q;exact .inr ⟨rfl,by simpa using q.2⟩
    ·exact .inl rfl
   ·rename_i hd
    split at hm
    ·rename_i hb
     split at hm
     ·rename_i hw
      rw [hm]
      have hwb:((b == 123 || b == 34) || (h && b == 35))=false:=by
       cases q:((b == 123 || b == 34) || (h && b == 35)) with
       |false=>rfl
       |true=>
        rw [q] at hs
        have:=scan_wb _ _ _ _ (Nat.le_refl _) rfl hs
        rw [hw.2] at this;cases this
      have h123:b≠123:=fun q=>by rw [q] at hwb;cases hwb
      rcases esc_cases false b with ⟨e,he,h10,hb⟩ |⟨he,hp,h34,_⟩
      ·refine qok_bare (c:=92) (r:=e::(r.map (escM false)).flatten) (by rw [List.map_cons,List.flatten_cons,he];rfl) (by decide) (by decide) rfl (by decide) (fun _=>⟨_,_,rfl,h10⟩) fun rest hr=>bare_map hr _
      ·refine qok_bare (c:=b) (r:=(r.map (escM false)).flatten) (by rw [List.map_cons,List.flatten_cons,he];rfl) h123 h34 hp.2.2.2.2 (fun q=>by rw [q] at hp;cases hp.1) (fun q=>absurd q hp.2.2.2.1) fun rest hr=>bare_map hr _
     ·rw [hm];exact hbr s hs hd
    ·rename_i hb
     split at hm
     ·rw [hm];exact hbr s hs hd
     ·rw [hm]
      have hb':s.bound=false:=by simpa using hb
      obtain ⟨i1,i2⟩:=scan_bound _ _ _ _ (Nat.le_refl _) hs hb'
      have hbc:=i2 b (List.mem_cons_self ..)
      have h123:b≠123:=fun q=>by rw [q] at i1;cases i1
      exact qok_bare rfl h123 hbc.2 hbc.1.2.2.2.2 (fun q=>by rw [q] at hbc;cases hbc.1.1) (fun q=>absurd q hbc.1.2.2.2.1) fun rest hr=>bare_self hr _ fun c hc=>(i2 c hc).1
end Mine
end
section
open PySem PySem.W PyProof.Rows
namespace Mine
theorem q_head {x:List Nat} {h:Bool} (rest:List Nat):∃ c r,quoteM x h++rest=c::r∧blank c=false∧c≠59∧gaps (c::r)=0:=by
 obtain ⟨c,r,e,h1,h2,h3⟩:=(qok x h).head
 refine ⟨c,r++rest,by rw [e];rfl,h1,h2,?_⟩
 have h10:c≠10:=fun q=>by rw [q] at h1;cases h1
 refine gaps_no (by rw [gap_blank h10];exact h1) fun ⟨q1,q2⟩=>?_
 obtain ⟨e',r',rfl,he⟩:=h3 q1
 simp at q2
 exact he q2
theorem j_head {xs:List (List Nat)} {h:Bool} (hx:xs≠[]):∃ c r,joinM h xs=c::r∧blank c=false∧c≠59∧gaps (c::r)=0:=by
 cases xs with
 |nil=>exact absurd rfl hx
 |cons x r=>
  cases r with
  |nil=>simpa only [joinM,List.append_nil] using q_head (x:=x) (h:=h) []
  |cons y r=>simpa only [joinM] using q_head (x:=x) (h:=h) (32::joinM false (y::r))
theorem drop_len {a b:List Nat}:(a++b).drop a.length=b:=by simp
theorem join_spl:∀ (xs:List (List Nat)) (h:Bool) (f:Nat),(joinM h xs).length<f→splW f (joinM h xs)=(xs,none)
 | [],h,f,hf=>splW_nil rfl
 | [x],h,0,hf=>by exact (lin [_] [(1,0,.a (.v 0) (.n 1),.n 0)] rfl hf).elim
 | [x],h,f+1,hf=>by
   obtain ⟨c,r,e,h1,h2,h3⟩:=q_head (x:=x) (h:=h) []
   have he:=(qok x h).el [] (.inl rfl)
   have hd:((quoteM x h)++[]).drop (quoteM x h).length=[]:=drop_len
   rw [e] at he hd
   simp only [joinM]
   rw [← List.append_nil (quoteM x h),e,splW_ok h1 he,hd,splW_nil rfl]
 |x::y::r,h,0,hf=>by exact (lin [_] [(1,0,.a (.v 0) (.n 1),.n 0)] rfl hf).elim
 |x::y::r,h,f+1,hf=>by
  obtain ⟨c,r',e,h1,h2,h3⟩:=q_head (x:=x) (h:=h) (32::joinM false (y::r))
  have he:=(qok x h).el (32::joinM false (y::r)) (.inr ⟨_,rfl⟩)
  have hd:((quoteM x h)++32::joinM false (y::r)).drop (quoteM x h).length=32::joinM false (y::r):=drop_len
  obtain ⟨c2,r2,e2,b1,b2,b3⟩:=j_head (xs:=y::r) (h:=false) (by simp)
  have hb:(32::joinM false (y::r)).drop (blanks (32::joinM false (y::r)))=c2::r2:=by
   rw [e2]
   show (32::c2::r2).drop (1+blanks (c2::r2))=_
   rw [blanks0 b1];rfl
  have ih:=join_spl (y::r) false f (by simp only [joinM,List.length_append,List.length_cons] at hf;exact linT fun q=>lin [_,_,_] [(1,0,.a (.a (.v 0) (.a (.v 1) (.n 1))) (.n 1),.a (.v 2) (.n 1)),(1,0,.v 2,.v 1)] rfl hf q)
  simp only [joinM] at hf ⊢
  rw [e] at he hd ⊢
  rw [splW_ok h1 he,hd,splW_c hb,← e2,ih]
theorem join_cmd:∀ (xs:List (List Nat)) (h:Bool) (k:Nat),xs≠[]→(joinM h xs).length<k→∃ n,cmdM k (joinM h xs)=some (.ok (xs.map fun x=>(false,x),n))
 | [],h,k,hx,hf=>absurd rfl hx
 | [x],h,0,_,hf=>by exact (lin [_] [(1,0,.a (.v 0) (.n 1),.n 0)] rfl hf).elim
 | [x],h,k+1,_,hf=>by
   have hw:=(qok x h).wd [] (.inl rfl)
   have hd:((quoteM x h)++[]).drop (quoteM x h).length=[]:=drop_len
   refine ⟨(quoteM x h).length,?_⟩
   simp only [joinM]
   have e:quoteM x h=quoteM x h++[]:=(List.append_nil _).symm
   have hw2:=hw
   rw [List.append_nil] at hw2 hd
   have e0:([]:List Nat).drop (gaps [])=[]:=List.drop_nil
   rw [cmdM_ok hw2,hd,e0];rfl
 |x::y::r,h,0,_,hf=>by exact (lin [_] [(1,0,.a (.v 0) (.n 1),.n 0)] rfl hf).elim
 |x::y::r,h,k+1,_,hf=>by
  have hw:=(qok x h).wd (32::joinM false (y::r)) (.inr ⟨_,rfl⟩)
  have hd:((quoteM x h)++32::joinM false (y::r)).drop (quoteM x h).length=32::joinM false (y::r):=drop_len
  obtain ⟨c2,r2,e2,b1,b2,b3⟩:=j_head (xs:=y::r) (h:=false) (by simp)
  have b10:c2≠10:=fun q=>by rw [q] at b1;cases b1
  obtain ⟨n,ih⟩:=join_cmd (y::r) false k (by simp) (by simp only [joinM,List.length_append,List.length_cons] at hf;exact linT fun q=>lin [_,_,_] [(1,0,.a (.a (.v 0) (.a (.v 1) (.n 1))) (.n 1),.a (.v 2) (.n 1)),(1,0,.v 2,.v 1)] rfl hf q)
  have hg:gaps (32::c2::r2)=1:=by rw [gaps_gap rfl,b3]
  rw [e2] at hd ih hw
  refine ⟨(quoteM x h).length+1+n,?_⟩
  simp only [joinM]
  rw [e2,cmdM_ok hw,hd,hg]
  show (if c2=10∨c2=59 then none else _)=_
  rw [if_neg (fun q=>q.elim b10 b2),if_neg (by decide),ih]
  rfl
theorem x_word {l:List Nat}:wordM (120::32::l)=some (.ok (false,[120],1)):=by
 unfold wordM
 have hx:isX (120::32::l)=false:=by
  cases q:isX (120::32::l) with
  |false=>rfl
  |true=>obtain ⟨c',r',e,_⟩:=isX_take q;cases e
 rw [hx,if_neg (by decide),wordIn_o (fun r q=>by cases q) (fun r q=>by cases q)]
 have e1:pu stB (120::32::l)=([120],1):=by rw [pu_ch rfl (by decide),pu_stop rfl];rfl
 have e2:clean stB true (120::32::l)=true:=by rw [clean_ch rfl (by decide) (by decide) (by decide),clean_stop rfl]
 rw [if_pos e2,e1];rfl
theorem x_cmdR {n:Nat} {l:List Nat}:cmdR n 0 (120::32::l)=(match cmdM (n+1) (120::32::l) with
  |some (.ok p)=>some (.ok (.tuple [.tuple (p.1.map wordD),itD 0,itD (0+p.2),itD n]))
  |some (.error m)=>some (exN m)
  |none=>none):=by
 have g0:gaps (120::32::l)=0:=gaps_no rfl (fun q=>absurd q.1 (by decide))
 unfold cmdR
 rw [g0,List.drop_zero]
 dsimp only
 rw [if_neg (by decide)]
 try rfl
theorem x_nil' {k:Nat} {l:List Nat} (h:l.drop (gaps l)=[]):cmdM (k+1) (120::32::l)=some (.ok ([(false,[120])],1)):=by
 rw [cmdM_ok x_word]
 have:(32::l).drop (gaps (32::l))=[]:=by rw [gaps_gap rfl,Nat.add_comm,List.drop_succ_cons];exact h
 rw [List.drop_succ_cons,List.drop_zero,this]
theorem x_cons' {k c:Nat} {l r:List Nat} (h:l.drop (gaps l)=c::r) (h1:c≠10) (h2:c≠59):cmdM (k+1) (120::32::l)=(match cmdM k (c::r) with
  |none=>none
  |some (.error m)=>some (.error m)
  |some (.ok (ws,m))=>some (.ok ((false,[120])::ws,1+(1+gaps l)+m))):=by
 rw [cmdM_ok x_word]
 have:(32::l).drop (gaps (32::l))=c::r:=by rw [gaps_gap rfl,Nat.add_comm,List.drop_succ_cons];exact h
 rw [List.drop_succ_cons,List.drop_zero,this,gaps_gap rfl]
 show (if c=10∨c=59 then none else _)=_
 rw [if_neg (fun q=>q.elim h1 h2),if_neg (by exact fun q=>lin [_] [(1,1,.a (.n 1) (.v 0),.n 0)] rfl q)]
 try rfl
noncomputable def cmdD (ws:List (Bool × List Nat)) (m n:Nat):RR := .ok (.tuple [.tuple (ws.map wordD),itD 0,itD m,itD n])
theorem x_aok {n f:Nat} {l:List Nat} (h:AOK l) (hn:l.length<n) (hf:l.length<f) :
  ((splW f l).2=none→∃ m,cmdR n 0 (120::32::l)=some (cmdD ((false,[120])::(splW f l).1.map fun x=>(false,x)) m n)) ∧
  ((splW f l).2≠none→(∃ m,cmdR n 0 (120::32::l)=some (exN m))∨∃ ws m m',cmdR n 0 (120::32::l)=some (cmdD ws m n)∧cmdM (n+1) (120::32::l)=some (.ok (ws,m'))∧∃ x,(true,x) ∈ ws):=by
 have eg:=gaps_blanks h
 cases hd:l.drop (gaps l) with
 |nil=>
  have e0:splW f l=([],none):=splW_nil (by rw [← eg];exact hd)
  rw [e0,x_cmdR,x_nil' hd]
  exact ⟨fun _=>⟨_,rfl⟩,fun q=>absurd rfl q⟩
 |cons c r=>
  have h2:=aok_head h hd
  have f2:=okC_f h2.1.head
  have e0:splW f l=splW f (c::r):=splW_c (by rw [← eg];exact hd)
  have hl:r.length+1=l.length - gaps l:=by
   have:=congrArg List.length hd
   rw [List.length_drop] at this
   simp only [List.length_cons] at this
   exact linE (fun q=>lin [_,_] [(1,2,.v 0,.a (.v 1) (.n 1)),(1,0,.a (.v 0) (.n 1),.a (.v 1) (.n 1))] rfl this q) fun q=>lin [_,_] [(1,1,.v 0,.a (.v 1) (.n 1)),(1,0,.a (.a (.v 1) (.n 1)) (.n 1),.v 0)] rfl this q
  obtain ⟨i1,i2⟩:=cmd_spl n f c r h2.1 h2.2 (by simp only [List.length_cons];exact linT fun q=>lin [_,_,_,_] [(1,0,.a (.v 0) (.n 1),.v 1),(1,1,.a (.v 2) (.n 1),.v 3),(1,0,.v 3,.v 0),(1,0,.v 1,.a (.v 2) (.n 1))] rfl hn hl (Nat.sub_le _ _) q) (by simp only [List.length_cons];exact linT fun q=>lin [_,_,_,_] [(1,0,.a (.v 0) (.n 1),.v 1),(1,1,.a (.v 2) (.n 1),.v 3),(1,0,.v 3,.v 0),(1,0,.v 1,.a (.v 2) (.n 1))] rfl hf hl (Nat.sub_le _ _) q)
  have hx:=x_cons' (k:=n) hd f2.2.2.2.1 f2.2.2.1
  rw [e0]
  refine ⟨fun q=>?_,fun q=>?_⟩
  ·obtain ⟨m,hm⟩:=i1 q
   rw [x_cmdR,hx,hm]
   exact ⟨_,rfl⟩
  ·rcases i2 q with ⟨m,hm⟩ |⟨ws,m,hm,x,hx2⟩
   ·rw [x_cmdR,hx,hm];exact .inl ⟨m,rfl⟩
   ·rw [hm] at hx
    exact .inr ⟨_,_,_,by rw [x_cmdR,hx];rfl,hx,x,List.mem_cons_of_mem _ hx2⟩
theorem wordIn_vl {e e':Bool} {off n:Nat} {l x:List Nat} (ha:AOK l) (h:wordIn e off l=some (.ok (e',x,n))):vl x=true:=by
 by_cases h1:∃ r,l=123::r
 ·obtain ⟨r,rfl⟩:=h1
  rw [wordIn_b,brc_L _ _ _ (Nat.le_refl _) ha.tail] at h
  cases hb:brcL 1 r with
  |none=>rw [hb] at h;cases h
  |some p=>
   rw [hb] at h
   cases h
   rw [(brcL_fact _ _ _ _ (Nat.le_refl _) hb).1]
   exact vl_take (vl_aok ha.tail) _
 ·by_cases h2:∃ r,l=34::r
  ·obtain ⟨r,rfl⟩:=h2
   rw [wordIn_q] at h
   split at h
   ·split at h
    ·cases h
    ·cases h;exact pu_vl _ _ (Nat.le_refl _) (vl_aok ha.tail)
   ·cases h
  ·rw [wordIn_o (fun r q=>h1 ⟨r,q⟩) (fun r q=>h2 ⟨r,q⟩)] at h
   split at h
   ·cases h;exact pu_vl _ _ (Nat.le_refl _) (vl_aok ha)
   ·cases h
theorem wordM_vl {e:Bool} {n:Nat} {l x:List Nat} (ha:AOK l) (h:wordM l=some (.ok (e,x,n))):vl x=true:=by
 unfold wordM at h
 split at h
 ·exact wordIn_vl (ha.drop 3) h
 ·exact wordIn_vl ha h
set_option tactic.hygienic true in
theorem cmdM_vl:∀ (k:Nat) (l:List Nat) (ws:List (Bool × List Nat)) (m:Nat),AOK l→cmdM k l=some (.ok (ws,m))→(∀ w ∈ ws,vl w.2=true)∧ws.length≤l.length+1
 |0,l,ws,m,_,h=>by cases h
 |k+1,l,ws,m,ha,h=>by
  rcases wordM_some ha with ⟨x,n,hw⟩ |⟨m,hw⟩
  ·have hv:=wordM_vl ha hw
   rw [cmdM_ok hw] at h
   cases hd:(l.drop n).drop (gaps (l.drop n)) with
   |nil=>
    rw [hd] at h
    cases h
    exact ⟨fun w hw=>by rw [List.mem_singleton] at hw;rw [hw];exact hv,by simp⟩
   |cons c r=>
    rw [hd] at h
    have a2:=(aok_head (ha.drop n) hd).1
    dsimp only at h
    split at h
    ·cases h
    ·split at h
     ·cases h
     ·rename_i hz
      have hl:r.length+1=l.length - n - gaps (l.drop n):=by
       have:=congrArg List.length hd
       rw [List.length_drop,List.length_drop] at this
       simp only [List.length_cons] at this
       exact linE (fun q=>lin [_,_] [(1,2,.v 0,.a (.v 1) (.n 1)),(1,0,.a (.v 0) (.n 1),.a (.v 1) (.n 1))] rfl this q) fun q=>lin [_,_] [(1,1,.v 0,.a (.v 1) (.n 1)),(1,0,.a (.a (.v 1) (.n 1)) (.n 1),.v 0)] rfl this q
      split at h
      ·cases h
      ·cases h
      ·rename_i ws2 m2 h2
       cases h
       obtain ⟨i1,i2⟩:=cmdM_vl k (c::r) ws2 m2 a2 h2
       refine ⟨fun w hw=>?_,by simp only [List.length_cons] at i2 ⊢;omega⟩
       rcases List.mem_cons.mp hw with rfl |hw
       ·exact hv
       ·exact i1 w hw
  ·rw [cmdM,hw] at h;cases h
theorem x_join {n:Nat} {xs:List (List Nat)} (hn:(joinM true xs).length<n):∃ m,cmdR n 0 (120::32::joinM true xs)=some (cmdD ((false,[120])::xs.map fun x=>(false,x)) m n):=by
 rw [x_cmdR]
 by_cases hx:xs=[]
 ·subst hx
  rw [x_nil' rfl]
  exact ⟨_,rfl⟩
 ·obtain ⟨c2,r2,e2,b1,b2,b3⟩:=j_head (xs:=xs) (h:=true) hx
  have b10:c2≠10:=fun q=>by rw [q] at b1;cases b1
  obtain ⟨m,hm⟩:=join_cmd xs true n hx hn
  rw [e2] at hm ⊢
  rw [x_cons' (c:=c2) (r:=r2) (by rw [b3];rfl) b10 b2,hm]
  exact ⟨_,rfl⟩
noncomputable def wsum:List (List Nat)→Nat
 | []=>0
 |x::r=>x.length+1+wsum r
set_option tactic.hygienic true in
theorem quoteM_len (x:List Nat) (h:Bool):(quoteM x h).length≤2 * x.length+2:=by
 unfold quoteM
 split
 ·exact linL fun q=>lin [_] [(1,0,.a (.a (.s 2 (.v 0)) (.n 2)) (.n 1),.v 0)] rfl q
 ·simp only [List.length_cons,List.length_append,List.length_nil];exact linL fun q=>lin [_] [(1,0,.a (.a (.s 2 (.v 0)) (.n 2)) (.n 1),.a (.a (.v 0) (.a (.n 0) (.n 1))) (.n 1))] rfl q
 ·have:=flat_len false x;exact linL fun q=>lin [_,_] [(1,0,.v 0,.s 2 (.v 1)),(1,0,.a (.a (.s 2 (.v 1)) (.n 2)) (.n 1),.v 0)] rfl this q
 ·rename_i hm
  have:=flat_len true x
  rw [List.length_append]
  have:(if h=true∧x.head?=some 35 then [92] else ([]:List Nat)).length≤1:=by split <;> simp
  omega
theorem joinM_len:∀ (xs:List (List Nat)) (h:Bool),(joinM h xs).length≤4 * wsum xs
 | [],_=>Nat.le_refl _
 | [x],h=>by
   have:=quoteM_len x h
   simp only [joinM,wsum];exact linL fun q=>lin [_,_] [(1,0,.v 0,.a (.s 2 (.v 1)) (.n 2)),(1,0,.a (.s 4 (.a (.a (.v 1) (.n 1)) (.n 0))) (.n 1),.v 0)] rfl this q
 |x::y::r,h=>by
  have i:=joinM_len (y::r) false
  have:=quoteM_len x h
  simp only [joinM,wsum,List.length_append,List.length_cons] at i ⊢;exact linL fun q=>lin [_,_,_,_,_] [(1,0,.v 0,.s 4 (.a (.a (.v 1) (.n 1)) (.v 2))),(1,0,.v 3,.a (.s 2 (.v 4)) (.n 2)),(1,0,.a (.s 4 (.a (.a (.v 4) (.n 1)) (.a (.a (.v 1) (.n 1)) (.v 2)))) (.n 1),.a (.v 3) (.a (.v 0) (.n 1)))] rfl i this q
set_option tactic.hygienic true in
theorem elM_len {c:Nat} {r x:List Nat} {n:Nat} (hb:blank c=false) (h:elM (c::r) = .ok x n):x.length≤n:=by
 by_cases h1:c=123
 ·subst h1
  rw [elM_b] at h
  unfold elB at h
  split at h
  ·rename_i p hp
   have q:=brcL_fact _ _ _ p (Nat.le_refl _) hp
   split at h
   ·simp only [Elt.add,Elt.ok.injEq] at h
    have:p.1.length≤p.2:=by rw [q.1,List.length_take];omega
    rw [← h.1];exact linL fun q=>lin [_,_,_] [(1,1,.a (.n 1) (.v 0),.v 1),(1,0,.v 2,.v 0),(1,0,.a (.v 1) (.n 1),.v 2)] rfl h.2 this q
   ·cases h
  ·cases h
 ·by_cases h2:c=34
  ·subst h2
   rw [elM_q] at h
   unfold elQ at h
   have q:=pu_le stQ _ r (Nat.le_refl _)
   split at h
   ·cases h
   ·split at h
    ·simp only [Elt.add,Elt.ok.injEq] at h
     rw [← h.1];omega
    ·cases h
  ·rw [elM_o h1 h2] at h
   simp only [Elt.ok.injEq] at h
   have q:=pu_le blank _ (c::r) (Nat.le_refl _)
   rw [← h.1];omega
theorem splW_sum:∀ (f:Nat) (l:List Nat),wsum (splW f l).1≤2 * l.length
 |0,_=>Nat.zero_le _
 |f+1,l=>by
  cases hd:l.drop (blanks l) with
  |nil=>rw [splW_nil hd];exact Nat.zero_le _
  |cons c r=>
   have hb:=blanks_head hd
   rw [splW_c hd]
   have hl:(c::r).length=l.length - blanks l:=by rw [← hd,List.length_drop]
   cases he:elM (c::r) with
   |bad m q=>rw [splW_bad hb he];exact Nat.zero_le _
   |ok x n=>
    rw [splW_ok hb he]
    have i:=splW_sum f ((c::r).drop n)
    have h1:=elM_len hb he
    have h2:=elM_pos hb he
    rw [List.length_drop] at i
    simp only [List.length_cons] at i hl
    simp only [wsum]
    exact linL fun q=>lin [_,_,_,_,_,_,_] [(2,1,.a (.v 0) (.n 1),.v 1),(1,0,.v 2,.s 2 (.v 3)),(1,0,.v 4,.v 5),(1,0,.n 1,.v 5),(2,0,.v 1,.v 6),(2,1,.a (.v 3) (.v 5),.a (.v 0) (.n 1)),(1,0,.a (.s 2 (.v 6)) (.n 1),.a (.a (.v 4) (.n 1)) (.v 2))] rfl hl i h1 h2.1 (Nat.sub_le _ _) (Nat.sub_add_cancel (linL fun q=>lin [_,_] [(1,0,.v 0,.a (.v 1) (.n 1)),(1,0,.a (.a (.v 1) (.n 1)) (.n 1),.v 0)] rfl h2.2 q)) q
theorem wsum_len:∀ (xs:List (List Nat)),xs.length≤wsum xs∧∀ x ∈ xs,x.length≤wsum xs
 | []=>⟨Nat.le_refl _,fun x hx=>nomatch hx⟩
 |x::r=>by
  obtain ⟨i1,i2⟩:=wsum_len r
  refine ⟨by simp only [wsum,List.length_cons];exact linL fun q=>lin [_,_,_] [(1,0,.v 0,.v 1),(1,0,.a (.a (.a (.v 2) (.n 1)) (.v 1)) (.n 1),.a (.v 0) (.n 1))] rfl i1 q,fun y hy=>?_⟩
  simp only [wsum]
  rcases List.mem_cons.mp hy with rfl |hy
  ·exact linL fun q=>lin [_,_] [(1,0,.a (.a (.a (.v 0) (.n 1)) (.v 1)) (.n 1),.v 0)] rfl q
  ·have:=i2 y hy;exact linL fun q=>lin [_,_,_] [(1,0,.v 0,.v 1),(1,0,.a (.a (.a (.v 2) (.n 1)) (.v 1)) (.n 1),.v 0)] rfl this q
theorem splW_vl:∀ (f:Nat) (l:List Nat),vl l=true→(∀ x ∈ (splW f l).1,vl x=true)∧∀ m q,(splW f l).2=some (m,q)→vl m=true∧vl q=true
 |0,_,_=>⟨(fun x hx=>nomatch hx),fun m q h=>nomatch h⟩
 |f+1,l,h=>by
  cases hd:l.drop (blanks l) with
  |nil=>rw [splW_nil hd];exact ⟨(fun x hx=>nomatch hx),fun m q h=>nomatch h⟩
  |cons c r=>
   have hb:=blanks_head hd
   have hv:vl (c::r)=true:=hd▸vl_drop h _
   have hv2:=elM_vl hv
   rw [splW_c hd]
   cases he:elM (c::r) with
   |bad m q=>
    rw [he] at hv2
    rw [splW_bad hb he]
    exact ⟨(fun x hx=>nomatch hx),fun m q h=>by cases h;exact hv2⟩
   |ok x n=>
    rw [he] at hv2
    rw [splW_ok hb he]
    obtain ⟨i1,i2⟩:=splW_vl f ((c::r).drop n) (vl_drop hv _)
    refine ⟨fun y hy=>?_,i2⟩
    rcases List.mem_cons.mp hy with rfl |hy
    ·exact hv2
    ·exact i1 y hy
end Mine
end
section
open PySem PySem.W PyProof.Rows
namespace Mine
theorem str_ok {x:List Nat}:PyData.canLay0 (sD x)=vl x:=by
 show (S x).cps.all (· < 0x110000)=_
 unfold S vl
 rw [List.all_toArray]
theorem ok_S {x:List Nat}:PyData.strOk (S x)=vl x:=str_ok
theorem lay_all:∀ {xs:List (List Nat)},(∀ x ∈ xs,vl x=true)→PyData.canLayAll0 (xs.map sD)=true
 | [],_=>rfl
 |x::r,h=>by
  rw [List.map_cons,PyData.canLayAll0,str_ok,h x (List.mem_cons_self ..),lay_all fun y hy=>h y (List.mem_cons_of_mem _ hy)];rfl
theorem dep_all:∀ (xs:List (List Nat)),PyData.depthAll (xs.map sD)=0
 | []=>rfl
 |x::r=>by rw [List.map_cons,PyData.depthAll,dep_all r];rfl
theorem sh_list {xs:List (List Nat)} (h:∀ x ∈ xs,vl x=true):SeqAt.shaped (.list (xs.map sD))=true:=by
 unfold SeqAt.shaped
 rw [PyData.canLay0,lay_all h,PyData.depth,dep_all];rfl
theorem sh_err {m:List Nat} (h:vl m=true):SeqAt.shaped (.tuple [.none,sD m])=true:=by
 unfold SeqAt.shaped
 rw [PyData.canLay0,PyData.canLayAll0,PyData.canLayAll0,str_ok,h];rfl
theorem sh_good {x:List Nat} {a:Nat} (h:vl x=true):SeqAt.shaped (.tuple [.tuple [sD x,itD a],.none])=true:=by
 unfold SeqAt.shaped
 simp only [PyData.canLay0,PyData.canLayAll0,ok_S,h]
 rfl
theorem sh_code {q:List Nat} (h:vl q=true):PyData.canLay0 (codeD q)=true:=by
 unfold codeD
 simp only [PyData.canLay0,PyData.canLayAll0,ok_S,h]
 decide
theorem sh_fault0 {m q:List Nat} (h:vl m=true) (h2:vl q=true):PyData.canLay0 (faultD m q)=true:=by
 have e:=sh_code h2
 have:=str_ok (x:=m)
 rw [h] at this
 unfold faultD
 rw [PyData.canLay0,PyData.canLayAll0,PyData.canLayAll0,PyData.canLayAll0,e,this];rfl
theorem sh_fault {m q:List Nat} (h:vl m=true) (h2:vl q=true):SeqAt.shaped (faultD m q)=true:=by
 unfold SeqAt.shaped
 rw [sh_fault0 h h2];rfl
theorem sh_bad {m q:List Nat} (h:vl m=true) (h2:vl q=true):SeqAt.shaped (.tuple [.none,faultD m q])=true:=by
 unfold SeqAt.shaped
 rw [PyData.canLay0,PyData.canLayAll0,PyData.canLayAll0,sh_fault0 h h2];rfl
section
variable {P:PyData→Prop}
theorem lay_of {d:PyData} (h:SeqAt.shaped d=true):d.canLay0=true:=SeqAt.canLay_of_shaped h
theorem c_eqT {x:List PyData} (h:SeqAt.shaped (.tuple x)=true):CW .Eq (.tuple x) (.tuple x) P=P (.bool true):=by
 show (SeqAt.shaped (.tuple x)=true∧SeqAt.shaped (.tuple x)=true∧P (.bool (PyData.eqv (.tuple x) (.tuple x))))=_
 rw [SeqAt.eqv_refl _ (lay_of h),h];simp
theorem c_neL {x:List PyData} (h:SeqAt.shaped (.list x)=true):CW .NotEq (.list x) (.list x) P=P (.bool false):=by
 show (SeqAt.shaped (.list x)=true∧SeqAt.shaped (.list x)=true∧P (.bool (!PyData.eqv (.list x) (.list x))))=_
 rw [SeqAt.eqv_refl _ (lay_of h),h];simp
end
theorem gap6 {c:Nat}:([c]=([]:List Nat)∨[c]=[32]∨[c]=[9]∨[c]=[11]∨[c]=[12]∨[c]=[13])↔gap c=true:=by
 unfold gap
 simp [or_assoc]
theorem wordIn_err {e:Bool} {off:Nat} {l m:List Nat} (h:wordIn e off l=some (.error m)):m≠[]:=by
 by_cases h1:∃ r,l=123::r
 ·obtain ⟨r,rfl⟩:=h1
  rw [wordIn_b] at h
  split at h
  ·cases h
  ·cases h;decide
 ·by_cases h2:∃ r,l=34::r
  ·obtain ⟨r,rfl⟩:=h2
   rw [wordIn_q] at h
   split at h
   ·split at h
    ·cases h;decide
    ·cases h
   ·cases h
  ·rw [wordIn_o (fun r q=>h1 ⟨r,q⟩) (fun r q=>h2 ⟨r,q⟩)] at h
   split at h
   ·cases h
   ·cases h
theorem wordM_err {l m:List Nat} (h:wordM l=some (.error m)):m≠[]:=by
 unfold wordM at h
 split at h
 ·exact wordIn_err h
 ·exact wordIn_err h
theorem k38 {K:RR→Prop} {t:List Nat} {a c:Nat} {r:List Nat} (h:t.length≤B) (ha:a≤t.length) (hd:t.drop a=c::r) (hok:AOK (c::r)) (hb:blank c=false):KW (Phi 38 [.str (S t),.int a]) K=K (.ok (dueD a (elM (c::r)))):=pl_kw rfl () rfl u0 h ha ⟨c,r,hd,hok,hb,rfl⟩ fun _ ⟨_,_,q,_,_,e⟩=>by
 rw [hd] at q;cases q;exact e
theorem cmdR_junk {n c x0 c2:Nat} {r x r2:List Nat} (h:AOK (c::r)) (hb:blank c=false) (h35:c≠35) (hw:wordM (c::r)=some (.ok (false,x,x0))) (hd:(c::r).drop x0=c2::r2) (hb2:blank c2=false) :
  cmdR n 0 (c::r)=some (exN (if prevQ (c::r) x0=true then msgXQ else msgXB)):=by
 have f:=okC_f h.head
 unfold cmdR
 rw [gaps0 h hb,List.drop_zero]
 dsimp only
 rw [if_neg (fun q=>by rcases q with q |q |q;exact f.2.2.2.1 q;exact f.2.2.1 q;exact h35 q),cmd_junk h hw hd hb2]
noncomputable def dueT1:PE := .and [.cmp .Eq (.sl (.v 0) (some (.v 1)) (some (.bin .add (.v 1) (.k (.int 3))))) (.k (.str (S [123,42,125]))),.cmp .NotIn (.sl (.v 0) (some (.bin .add (.v 1) (.k (.int 3)))) (some (.bin .add (.v 1) (.k (.int 4))))) (.tup [.k (.str (S [])),.k (.str (S [32])),.k (.str (S [9])),.k (.str (S [11])),.k (.str (S [12])),.k (.str (S [13]))])]
noncomputable def b_due2:List PS:=
 [.ite (.cmp .Eq (.v 3) (.k (.str (S [109,105,115,115,105,110,103,32,99,108,111,115,101,45,98,114,97,99,101]))))
    [.ret (.tup [.k .none,.call 36 [.k (.str (S [117,110,109,97,116,99,104,101,100,32,111,112,101,110,32,98,114,97,99,101,32,105,110,32,108,105,115,116])),.k (.str (S [66,82,65,67,69]))]])]
    [],
  .ite (.cmp .NotEq (.v 3) (.k (.str (S []))))
    [.ret (.tup [.k .none,.call 36 [.k (.str (S [117,110,109,97,116,99,104,101,100,32,111,112,101,110,32,113,117,111,116,101,32,105,110,32,108,105,115,116])),.k (.str (S [81,85,79,84,69]))]])]
    [],
  .asg 4 (.idx (.v 2) (.k (.int 1))),
  .ite (.and [.cmp .In (.idx (.v 0) (.v 1)) (.k (.str (S [123,34]))),.cmp .Lt (.v 4) (.len (.v 0)),.cmp .NotIn (.idx (.v 0) (.v 4)) (.k (.str (S [32,9,11,12,13])))])
    [.asg 5 (.ife (.cmp .Eq (.idx (.v 0) (.v 1)) (.k (.str (S [123])))) (.k (.str (S [98,114,97,99,101,115]))) (.k (.str (S [113,117,111,116,101,115])))),
     .asg 6 (.bin .add (.k (.str (S [101,120,116,114,97,32,99,104,97,114,97,99,116,101,114,115,32,97,102,116,101,114,32,99,108,111,115,101,45]))) (.ife (.cmp .Eq (.idx (.v 0) (.v 1)) (.k (.str (S [123])))) (.k (.str (S [98,114,97,99,101]))) (.k (.str (S [113,117,111,116,101]))))),
     .ite (.cmp .NotEq (.call 35 [.sl (.v 0) (some (.v 1)) none]) (.tup [.k .none,.v 6]))
       [.ret (.tup [.tup [],.k .none])]
       [],
     .ret (.tup [.k .none,.call 37 [.v 0,.v 4,.v 5]])]
    [],
  .ret (.tup [.tup [.call 20 [.idx (.v 2) (.k (.int 0))],.v 4],.k .none])]
theorem due_split:b_law_due = .upk [2,3] (.call 34 [.v 0,.v 1]) :: .ite dueT1 [.ite (.and [.cmp .Eq (.v 3) (.k (.str (S []))),.not (.idx (.idx (.v 2) (.k (.int 0))) (.k (.int 0)))])
        [.ret (.tup [.tup [],.k .none])]
        [],
   .ret (.tup [.k .none,.call 37 [.v 0,.bin .add (.v 1) (.k (.int 3)),.k (.str (S [98,114,97,99,101,115]))]])] []::b_due2:=rfl
theorem due_t1 {lv:Nat} {t:List Nat} {a c:Nat} {r:List Nat} {ρ:Loc} {P:PyData→Prop} {E:Exc→Prop} (hB:t.length≤B) (hd:t.drop a=c::r) (hok:AOK (c::r)) :
  EW Phi reqF 38 lv dueT1 (.d (.str (S t)) :: .d (.int (a:Nat))::ρ) P E=P (.bool (isX (c::r))):=by
 have f1:t.length≤lim:=lim_B hB
 have d3:t.drop (a+3)=(c::r).drop 3:=by rw [← List.drop_drop,hd]
 unfold dueT1
 by_cases h3:(c::r).take 3=[123,42,125]
 ·obtain ⟨r',e⟩:=take3 h3
  have ad:AOK ((c::r).drop 3):=hok.drop 3
  have key:isX (c::r)=decide ¬ ((t.drop (a+3)).take 1=[]∨(t.drop (a+3)).take 1=[32]∨(t.drop (a+3)).take 1=[9]∨(t.drop (a+3)).take 1=[11]∨(t.drop (a+3)).take 1=[12]∨(t.drop (a+3)).take 1=[13]):=by
   rw [d3]
   rw [e] at ad ⊢
   cases r' with
   |nil=>rfl
   |cons c' r'=>
    have ad:AOK (c'::r'):=ad
    have f:=okC_f ad.head
    rw [isX_c]
    have e10:(c' == 10)=false:=beq_eq_false_iff_ne.mpr f.2.2.2.1
    have e59:(c' == 59)=false:=beq_eq_false_iff_ne.mpr f.2.2.1
    have ebn:(c' == 92 && r'.head? == some 10)=false:=by
     rw [Bool.eq_false_iff]
     intro q
     simp only [Bool.and_eq_true,beq_iff_eq] at q
     exact nobn ad.tail q
    rw [e10,e59,ebn]
    refine (bool_eq ((not_congr gap6).trans ?_)).symm
    cases gap c' <;> simp
  rw [key]
  rw [← hd] at h3
  simp -dsimp only [↓e_and1,↓e_cmp,↓e_sl2,↓e_v,List.getElem?_cons_zero,at_d,List.getElem?_cons_succ,↓e_bin,↓e_k,a_3,sl_2,f1,↓gd,sub_a,h3,c_eqs,decide_true,b_bool,↓iteT,a_4,↓e_tup,↓es_cons,↓es_nil,sub_b,Nat.reduceSub,c_ninT,x_cons,x_nil,s_mem,s_mem0,or_false]
 ·have key:isX (c::r)=false:=isX_no h3
  rw [← hd] at h3
  simp -dsimp only [↓e_and1,↓e_cmp,↓e_sl2,↓e_v,List.getElem?_cons_zero,at_d,List.getElem?_cons_succ,↓e_bin,↓e_k,a_3,sl_2,f1,↓gd,sub_a,c_eqs,h3,decide_false,b_bool,↓ite_ff,key]
section
variable {lv:Nat} (hlv:1≤lv)
theorem gap_in5 {c:Nat}:(c ∈ ([32,9,11,12,13]:List Nat))↔gap c=true:=by
 unfold gap
 simp only [List.mem_cons,List.not_mem_nil,or_false,Bool.or_eq_true,beq_iff_eq,or_assoc]
noncomputable def dueA:List PS:=[.ite (.and [.cmp .Eq (.v 3) (.k (.str (S []))),.not (.idx (.idx (.v 2) (.k (.int 0))) (.k (.int 0)))])
    [.ret (.tup [.tup [],.k .none])]
    [],
   .ret (.tup [.k .none,.call 37 [.v 0,.bin .add (.v 1) (.k (.int 3)),.k (.str (S [98,114,97,99,101,115]))]])]
include hlv in
theorem due_h {t:List Nat} {a c:Nat} {r:List Nat} {F W:PyData} {Q:Out→Prop} (hB:t.length≤B) (hd:t.drop a=c::r) (hok:AOK (c::r)) (k:∀ K,KW (Phi 34 [.str (S t),.int (a:Nat)]) K=K (.ok (.tuple [F,W])))
  (g:if isX (c::r)=true then SW Phi reqF 38 lv dueA [.d (.str (S t)),.d (.int (a:Nat)),.d F,.d W,.un,.un,.un] (sq (fun ρ=>SW Phi reqF 38 lv b_due2 ρ Q) Q) else SW Phi reqF 38 lv b_due2 [.d (.str (S t)),.d (.int (a:Nat)),.d F,.d W,.un,.un,.un] Q) :
  SW Phi reqF 38 lv b_law_due [.d (.str (S t)),.d (.int (a:Nat)),.un,.un,.un,.un,.un] Q:=by
 rw [due_split]
 refine And.intro hlv (And.intro (by decide:(34:Nat)<38) (And.intro hlv (Exists.intro _ (And.intro (phi_of k) (And.intro rfl ?_)))))
 show EW Phi reqF 38 lv dueT1 (.d (.str (S t)) :: .d (.int (a:Nat))::_) _ _
 rw [due_t1 hB hd hok]
 exact g
include hlv in
theorem p38 {t:List Nat} {a c:Nat} {r:List Nat} (hB:t.length≤B) (hd:t.drop a=c::r) (hok:AOK (c::r)) (hb:blank c=false) :
  SW Phi reqF 38 lv b_law_due [.d (.str (S t)),.d (.int (a:Nat)),.un,.un,.un,.un,.un] (OutR (.ok (dueD a (elM (c::r))))):=by
 obtain ⟨g1,g2,g3,g4⟩:=dr hd
 have f1:t.length≤lim:=lim_B hB
 have ha:a≤t.length:=by exact linL fun q=>lin [_,_] [(1,0,.a (.v 0) (.n 1),.v 1),(1,0,.a (.v 1) (.n 1),.v 0)] rfl g2 q
 have fa:a<lim:=lt_lim (by exact linL fun q=>lin [_,_,_] [(1,0,.v 0,.v 1),(1,0,.a (.v 2) (.n 1),.v 0),(1,0,.a (.v 1) (.n 1),.v 2)] rfl hB g2 q)
 have d3:t.drop (a+3)=(c::r).drop 3:=by rw [← List.drop_drop,hd]
 rcases we_of hok hb with ⟨x,n,hx,hw,he,hn⟩ |⟨hx,he⟩ |⟨hx,hw,he⟩ |⟨hx,hw,he⟩ |⟨x,n,c2,r2,q,hx,hw,hdn,hb2,he,hc,hq⟩
 ·have k:=fun K=>k34 (K:=K) (t:=t) (a:=a) hB ha (by rw [hd];exact hw)
  have hn2:=elM_pos hb he
  have hal:a+n≤t.length:=by exact linL fun q=>lin [_,_,_,_] [(1,2,.v 0,.a (.a (.v 1) (.n 1)) (.v 2)),(1,0,.v 3,.a (.v 2) (.n 1)),(1,0,.a (.v 0) (.n 1),.a (.v 1) (.v 3))] rfl g4 hn2.2 q
  rw [he]
  refine due_h hlv hB hd hok k (Eq.mpr (if_neg (bf hx)) ?_)
  by_cases hc:c ∈ ([123,34]:List Nat)
  ·by_cases hlt:a+n<t.length
   ·cases hdd:t.drop (a+n) with
    |nil=>have:=dr_nil hdd (by exact linL fun q=>lin [_,_,_] [(1,0,.a (.a (.v 0) (.v 1)) (.n 1),.v 2),(1,0,.a (.v 2) (.n 1),.a (.v 0) (.v 1))] rfl hlt q);exact (lin [_,_,_] [(1,0,.a (.a (.v 0) (.v 1)) (.n 1),.v 2),(1,2,.a (.v 0) (.v 1),.v 2)] rfl hlt this).elim
    |cons c2 r2=>
     have hbl:=hn c2 r2 (by rw [← hd,List.drop_drop];exact hdd)
     obtain ⟨g5,g6,g7,g8⟩:=dr hdd
     have fb:a+n<lim:=lt_lim (by exact linL fun q=>lin [_,_,_,_] [(1,0,.v 0,.v 1),(1,0,.a (.a (.v 2) (.v 3)) (.n 1),.v 0),(1,0,.a (.v 1) (.n 1),.a (.v 2) (.v 3))] rfl hB hlt q)
     have hg:gap c2=true:=by
      have ad:AOK (c2::r2):=by
       have:=hok.drop n
       rw [← hd,List.drop_drop,hdd] at this
       exact this
      rw [aok_gap ad];exact hbl
     have hgn:¬ c2 ∉ ([32,9,11,12,13]:List Nat):=fun q=>q (gap_in5.mpr hg)
     refine byR [0,0,1,1,0] fun W=>W (decide_eq_false (by decide)) (decide_eq_false (by decide)) (by decide) _ rfl fa _ g1 (decide_eq_true hc) f1 (decide_eq_true (Int.ofNat_lt.mpr hlt)) fb _ g5 (decide_eq_false hgn) (by decide) _ rfl (by decide) hlv _ (phi_of fun _=>k20) ?_
     rfl
   ·refine byR [0,0,1,0,0] fun W=>W (decide_eq_false (by decide)) (decide_eq_false (by decide)) (by decide) _ rfl fa _ g1 (decide_eq_true hc) f1 (decide_eq_false (mt Int.ofNat_lt.mp hlt)) rfl (by decide) _ rfl (by decide) hlv _ (phi_of fun _=>k20) ?_
    rfl
  ·refine byR [0,0,0,0] fun W=>W (decide_eq_false (by decide)) (decide_eq_false (by decide)) (by decide) _ rfl fa _ g1 (decide_eq_false hc) rfl (by decide) _ rfl (by decide) hlv _ (phi_of fun _=>k20) ?_
   rfl
 ·have hl3:a+3≤t.length:=by
   obtain ⟨c',r',e,_⟩:=isX_take hx
   have:=congrArg List.length e
   simp only [List.length_cons] at this
   exact linL fun q=>lin [_,_,_,_] [(1,2,.v 0,.a (.a (.v 1) (.n 1)) (.v 2)),(1,2,.a (.v 2) (.n 1),.a (.a (.a (.a (.v 3) (.n 1)) (.n 1)) (.n 1)) (.n 1)),(1,0,.a (.v 0) (.n 1),.a (.v 1) (.n 3))] rfl g4 this q
  rw [he,dueD]
  have ej:junkMsg [98,114,97,99,101,115] gap (r.drop 2)=junkMsg wBraces blank (r.drop 2):=junk_gap (hok.drop 3)
  have kj':∀ K,KW (Phi 37 [.str (S t),.int ((a:Int)+3),.str (S [98,114,97,99,101,115])]) K=K (.ok (faultD (junkMsg wBraces blank (r.drop 2)) cJUNK)):=fun K=>(k37 (K:=K) (t:=t) (a:=a+3) (w:=[98,114,97,99,101,115]) hB hl3 (by decide)).trans (by rw [d3,show (c::r).drop 3=r.drop 2 from rfl,ej])
  rcases wordM_some hok with ⟨x,n,hw⟩ |⟨m,hw⟩
  ·have k:=fun K=>k34 (K:=K) (t:=t) (a:=a) hB ha (by rw [hd];exact hw)
   refine due_h hlv hB hd hok k (Eq.mpr (if_pos hx) ?_)
   refine byR [1,0] fun W=>W (decide_eq_true rfl) (by decide) _ rfl (by decide) _ rfl (congrArg not hx) (by decide) hlv _ (phi_of kj') ?_
   rfl
  ·have k:=fun K=>k34 (K:=K) (t:=t) (a:=a) hB ha (by rw [hd];exact hw)
   have hm:=wordM_err hw
   refine due_h hlv hB hd hok k (Eq.mpr (if_pos hx) ?_)
   refine byR [0,0] fun W=>W (decide_eq_false hm) rfl (by decide) hlv _ (phi_of kj') ?_
   rfl
 ·have k:=fun K=>k34 (K:=K) (t:=t) (a:=a) hB ha (by rw [hd];exact hw)
  rw [he,dueD]
  refine due_h hlv hB hd hok k (Eq.mpr (if_neg (bf hx)) ?_)
  refine byR [1] fun W=>W (decide_eq_true rfl) (by decide) hlv _ (phi_of fun _=>k36) ?_
  rfl
 ·have k:=fun K=>k34 (K:=K) (t:=t) (a:=a) hB ha (by rw [hd];exact hw)
  rw [he,dueD]
  refine due_h hlv hB hd hok k (Eq.mpr (if_neg (bf hx)) ?_)
  refine byR [0,1] fun W=>W (decide_eq_false (by decide)) (decide_eq_true (by decide)) (by decide) hlv _ (phi_of fun _=>k36) ?_
  rfl
 ·have k:=fun K=>k34 (K:=K) (t:=t) (a:=a) hB ha (by rw [hd];exact hw)
  have hdd:t.drop (a+n)=c2::r2:=by rw [← List.drop_drop,hd];exact hdn
  obtain ⟨g5,g6,g7,g8⟩:=dr hdd
  have fb:a+n<lim:=lt_lim (by exact linL fun q=>lin [_,_,_,_] [(1,0,.v 0,.v 1),(1,0,.a (.a (.v 2) (.v 3)) (.n 1),.v 0),(1,0,.a (.v 1) (.n 1),.a (.v 2) (.v 3))] rfl hB g6 q)
  have ad:AOK (c2::r2):=by
   have:=hok.drop n
   rw [hdn] at this
   exact this
  have hg:gap c2=false:=by rw [aok_gap ad];exact hb2
  have hgn:c2 ∉ ([32,9,11,12,13]:List Nat):=mt gap_in5.mp (bf hg)
  have hlc:(c::r).length≤B:=by
   have:=congrArg List.length hd
   rw [List.length_drop] at this
   exact linL fun q=>lin [_,_,_,_,_] [(1,0,.v 0,.v 1),(1,2,.v 2,.v 3),(1,1,.a (.v 2) (.v 4),.v 0),(1,0,.a (.v 1) (.n 1),.v 3)] rfl hB this (Nat.sub_add_cancel (linL fun q=>lin [_,_] [(1,0,.a (.v 0) (.n 1),.v 1),(1,0,.a (.v 1) (.n 1),.v 0)] rfl g2 q)) q
  have h35:c≠35:=by rw [hc];split <;> decide
  have kc:=fun K=>k35 (K:=K) hlc (cmdR_junk (n:=(c::r).length) hok hb h35 hw hdn hb2)
  have kj:=fun K w h=>k37 (K:=K) (t:=t) (a:=a+n) (w:=w) hB (by exact linL fun q=>lin [_,_,_] [(1,0,.a (.a (.v 0) (.v 1)) (.n 1),.v 2),(1,0,.a (.v 2) (.n 1),.a (.v 0) (.v 1))] rfl g6 q) h
  rw [hq] at kc
  rw [he,dueD]
  refine due_h hlv hB hd hok k (Eq.mpr (if_neg (bf hx)) ?_)
  have hcut:cut t (some a) none=c::r:=hd
  have kd:∀ K,KW (Phi 35 [.str (S (cut t (some a) none))]) K=K (.ok (.tuple [.none,sD (if q=true then msgXQ else msgXB)])):=fun K=>by rw [hcut];exact kc K
  cases q with
  |false=>
   have hc1:c=123:=hc
   subst hc1
   have ej:junkMsg [98,114,97,99,101,115] gap (c2::r2)=junkMsg wBraces blank (c2::r2):=junk_gap ad
   have kj':∀ K,KW (Phi 37 [.str (S t),.int (a+n:Nat),.str (S [98,114,97,99,101,115])]) K=K (.ok (faultD (junkMsg wBraces blank (c2::r2)) cJUNK)):=fun K=>(kj K [98,114,97,99,101,115] (by decide)).trans (by rw [hdd,ej])
   have kc':=phi_of (v := .ok (.tuple [.none,sD msgXB])) kd
   have hs:=sh_err (m:=msgXB) (by decide)
   have he2:=SeqAt.eqv_refl _ (lay_of hs)
   refine byR [0,0,1,1,1,1,1,0] fun W=>W hb hb (by decide) _ rfl fa _ g1 he2 f1 (decide_eq_true (Int.ofNat_lt.mpr g6)) fb _ g5 (decide_eq_true hgn) fa _ g1 he2 fa _ g1 he2 (by decide) f1 (by decide) hlv _ kc' hs hs hb (by decide) hlv _ (phi_of kj') ?_
   rfl
  |true=>
   have hc1:c=34:=hc
   subst hc1
   have ej:junkMsg [113,117,111,116,101,115] gap (c2::r2)=junkMsg wQuotes blank (c2::r2):=junk_gap ad
   have kj':∀ K,KW (Phi 37 [.str (S t),.int (a+n:Nat),.str (S [113,117,111,116,101,115])]) K=K (.ok (faultD (junkMsg wQuotes blank (c2::r2)) cJUNK)):=fun K=>(kj K [113,117,111,116,101,115] (by decide)).trans (by rw [hdd,ej])
   have kc':=phi_of (v := .ok (.tuple [.none,sD msgXQ])) kd
   have hs:=sh_err (m:=msgXQ) (by decide)
   have he2:=SeqAt.eqv_refl _ (lay_of hs)
   refine byR [0,0,1,1,1,0,0,0] fun W=>W hb hb (by decide) _ rfl fa _ g1 he2 f1 (decide_eq_true (Int.ofNat_lt.mpr g6)) fb _ g5 (decide_eq_true hgn) fa _ g1 hb fa _ g1 hb (by decide) f1 (by decide) hlv _ kc' hs hs hb (by decide) hlv _ (phi_of kj') ?_
   rfl
end
end Mine
end
section
open PySem PySem.W PyProof.Rows
namespace Mine
theorem k39 {K:RR→Prop} {t:List Nat} (h:t.length≤B) (hok:AOK t):KW (Phi 39 [.str (S t)]) K=K (.ok (.tuple [.list ((splW (t.length+1) t).1.map sD),faultO (splW (t.length+1) t).2])):=tx_kw rfl () rfl u0 h ⟨hok,rfl⟩ fun _ q=>q.2
section
variable {lv:Nat} (hlv:1≤lv)
theorem l39i {T:Loc→(PyData→Prop)→(Exc→Prop)→Prop} {BB:Loc→(Out→Prop)→Prop} {Q:Out→Prop} {w1 w3 w4 w5:Val}
  (eT:∀ ρ P E,T ρ P E=EW Phi reqF 39 lv (.and [.cmp .Lt (.v 2) (.len (.v 0)),.cmp .In (.idx (.v 0) (.v 2)) (.k (.str (S [32,9,11,12,13])))]) ρ P E)
  (eB:∀ ρ Q,BB ρ Q=SW Phi reqF 39 lv [.aug 2 .add (.k (.int 1))] ρ Q) (t:List Nat) (hB:t.length≤B) (hok:AOK t):∀ (n a:Nat),(t.drop a).length<n→a≤t.length →
    Q (.nxt [.d (.str (S t)),w1,.d (itD (a+blanks (t.drop a))),w3,w4,w5])→loopW T BB Q n [.d (.str (S t)),w1,.d (.int (a:Nat)),w3,w4,w5]:=by
 intro n
 induction n with
 |zero=>intro a h;exact (lin [_] [(1,0,.a (.v 0) (.n 1),.n 0)] rfl h).elim
 |succ n ih=>
  intro a h ha hQ
  have f1:t.length≤lim:=lim_B hB
  cases hd:t.drop a with
  |nil=>
   have i1:¬ a<t.length:=by rw [dr_nil hd ha];exact Nat.lt_irrefl _
   rw [hd] at hQ
   refine byT eT eB [0,0] fun W=>W f1 (decide_eq_false (mt Int.ofNat_lt.mp i1)) rfl ?_
   exact hQ
  |cons c r=>
   obtain ⟨g1,g2,g3,g4⟩:=dr hd
   have f3:a<lim:=lt_lim (by exact linL fun q=>lin [_,_,_] [(1,0,.v 0,.v 1),(1,0,.a (.v 2) (.n 1),.v 0),(1,0,.a (.v 1) (.n 1),.v 2)] rfl hB g2 q)
   have hcr:AOK (c::r):=hd▸hok.drop a
   have hgb:=aok_gap hcr
   rw [hd] at hQ h
   simp only [List.length_cons] at h
   cases hb:gap c with
   |true=>
    have hgm:=gap_in5.mpr hb
    rw [hgb] at hb
    refine byT eT eB [1,1] fun W=>W f1 (decide_eq_true (Int.ofNat_lt.mpr g2)) f3 _ g1 (decide_eq_true hgm) ?_
    refine ih (a+1) (by rw [g3];exact linT fun q=>lin [_,_] [(1,0,.a (.a (.v 0) (.n 1)) (.n 1),.a (.v 1) (.n 1)),(1,0,.v 1,.v 0)] rfl h q) (by exact linL fun q=>lin [_,_] [(1,0,.a (.v 0) (.n 1),.v 1),(1,0,.a (.v 1) (.n 1),.a (.v 0) (.n 1))] rfl g2 q) ?_
    rw [g3,Nat.add_assoc]
    rw [blanks,if_pos hb] at hQ
    exact hQ
   |false=>
    have hgm:=mt gap_in5.mp (bf hb)
    rw [hgb] at hb
    refine byT eT eB [1,0] fun W=>W f1 (decide_eq_true (Int.ofNat_lt.mpr g2)) f3 _ g1 (decide_eq_false hgm) ?_
    rw [blanks,if_neg (bf hb)] at hQ
    exact hQ
theorem find_c {p c:Nat} {r:List Nat} (hb:blank c=false):findR p (c::r)=elR p (elM (c::r)):=by
 unfold findR
 rw [blanks0 hb];rfl
include hlv in
theorem l39 {T:Loc→(PyData→Prop)→(Exc→Prop)→Prop} {BB:Loc→(Out→Prop)→Prop} {Q:Out→Prop}
  (eT:∀ ρ P E,T ρ P E=EW Phi reqF 39 lv (.cmp .Is (.v 3) (.k .none)) ρ P E)
  (eB:∀ ρ Q,BB ρ Q=SW Phi reqF 39 lv [.whl (.and [.cmp .Lt (.v 2) (.len (.v 0)),.cmp .In (.idx (.v 0) (.v 2)) (.k (.str (S [32,9,11,12,13])))])
     [.aug 2 .add (.k (.int 1))],
    .asg 4 (.call 33 [.v 0,.v 2]),
    .ite (.cmp .Eq (.v 2) (.len (.v 0)))
      [.frz 1,
       .ret (.ife (.cmp .Eq (.v 4) (.tup [.k .none,.k .none])) (.tup [.v 1,.k .none]) (.k .none))]
      [],
    .upk [5,3] (.call 38 [.v 0,.v 2]),
    .ite (.cmp .NotEq (.v 4) (.tup [.v 5,.v 3]))
      [.ret (.k .none)]
      [],
    .ite (.cmp .Is (.v 3) (.k .none))
      [.app 1 (.idx (.v 5) (.k (.int 0))),
       .asg 2 (.idx (.v 5) (.k (.int 1)))]
      []] ρ Q) (t:List Nat) (hB:t.length≤B) (hok:AOK t):∀ (n a f:Nat) (xs:List (List Nat)) (w4 w5:Val),(t.drop a).length+2≤n→(t.drop a).length<f→a≤t.length→xs.length≤a →
    (∀ ys,splW f (t.drop a)=(ys,none)→Q (.ret (.tuple [.list ((xs++ys).map sD),.none]))) →
    (∀ ys m q w2 w4 w5,splW f (t.drop a)=(ys,some (m,q))→Q (.nxt [.d (.str (S t)),.own ((xs++ys).map sD),w2,.d (faultD m q),w4,w5])) →
    loopW T BB Q n [.d (.str (S t)),.own (xs.map sD),.d (.int (a:Nat)),.d .none,w4,w5]:=by
 intro n
 induction n with
 |zero=>intro a f xs w4 w5 h;exact (lin [_] [(1,0,.a (.v 0) (.n 2),.n 0)] rfl h).elim
 |succ n ih=>
  intro a f xs w4 w5 h hf ha hx hQ hE
  cases f with
  |zero=>exact absurd hf (Nat.not_lt_zero _)
  |succ f=>
  rw [lw_step,eT]
  have f1:t.length≤lim:=lim_B hB
  simp only [e_cmp,e_v,at_d,e_k,List.getElem?_cons_succ,List.getElem?_cons_zero,c_is0,b_bool,if_true]
  rw [eB,w_cons,w_whl]
  refine wh_of ⟨(t.drop a).length+1,fun T2 BB2 eT2 eB2=>l39i eT2 eB2 t hB hok _ a (Nat.lt_succ_self _) ha ?_⟩
  have hbl:=blanks_le (t.drop a)
  rw [List.length_drop] at hbl
  generalize hp:a+blanks (t.drop a)=p
  have hpl:p≤t.length:=by exact linL fun q=>lin [_,_,_,_,_] [(1,0,.v 0,.v 1),(1,2,.a (.v 2) (.v 0),.v 3),(1,1,.a (.v 1) (.v 2),.v 4),(1,0,.a (.v 4) (.n 1),.v 3)] rfl hbl hp (Nat.sub_add_cancel (linL fun q=>lin [_,_] [(1,0,.v 0,.v 1),(1,0,.a (.v 1) (.n 1),.v 0)] rfl ha q)) q
  have hdd:(t.drop a).drop (blanks (t.drop a))=t.drop p:=by rw [List.drop_drop,hp]
  have k:=fun K=>k33 (K:=K) hB hpl
  have hxl:(xs.map sD).length≤lim:=by rw [List.length_map];exact lim_B (by exact linL fun q=>lin [_,_,_,_] [(1,0,.v 0,.v 1),(1,0,.v 2,.v 0),(1,0,.v 3,.v 2),(1,0,.a (.v 1) (.n 1),.v 3)] rfl hB ha hx q)
  have hpt:(p<t.length)↔t.drop p≠[]:=by
   rw [ne_eq,List.drop_eq_nil_iff];exact Nat.not_le.symm
  cases hd:t.drop p with
  |nil=>
   have e:=dr_nil hd hpl
   rw [hd] at k hdd
   have q:=hQ [] (splW_nil hdd)
   rw [List.append_nil] at q
   have i2:(p:Int)=(t.length:Nat):=congrArg Int.ofNat e
   show SW Phi reqF 39 lv _ _ _
   refine byR [1,1] fun W=>W (by decide) hlv _ (phi_of k) f1 (decide_eq_true i2) rfl rfl rfl ?_
   exact q
  |cons c r=>
   have hb:=blanks_head (hdd.trans hd)
   obtain ⟨g1,g2,g3,g4⟩:=dr hd
   have hcr:AOK (c::r):=hd▸hok.drop p
   have hv:=elM_vl (vl_aok hcr)
   have hne:¬ p=t.length:=by exact fun q=>lin [_,_] [(1,0,.a (.v 0) (.n 1),.v 1),(1,2,.v 0,.v 1)] rfl g2 q
   have i2:¬ (p:Int)=(t.length:Nat):=fun q=>hne (Int.ofNat.inj q)
   have k2:=fun K=>k38 (K:=K) hB hpl hd hcr hb
   have hsp:splW (f+1) (t.drop a)=splW (f+1) (c::r):=splW_c (hdd.trans hd)
   rw [hd] at k
   cases he:elM (c::r) with
   |ok x m=>
    rw [he] at hv k2
    have hpos:=elM_pos hb he
    rw [hsp,splW_ok hb he] at hQ hE
    have hs:=sh_good (x:=x) (a:=p+m) hv
    have hs2:=SeqAt.eqv_refl _ (lay_of hs)
    have ed:(c::r).drop m=t.drop (p+m):=by rw [← hd,List.drop_drop]
    have el:(t.drop (p+m)).length=(c::r).length - m:=by rw [← ed,List.length_drop]
    simp only [List.length_cons] at el
    have e6:List.map sD xs++[sD x]=(xs++[x]).map sD:=(List.map_append (l₁:=xs) (l₂:=[x])).symm
    rw [List.length_drop] at h hf
    have go:=ih (p+m) f (xs++[x]) (.d (.tuple [.tuple [sD x,itD (p+m)],.none])) (.d (.tuple [sD x,itD (p+m)])) (by rw [el];exact linL fun q=>lin [_,_,_,_,_,_,_,_,_] [(1,0,.a (.v 0) (.n 2),.a (.v 1) (.n 1)),(1,1,.a (.v 2) (.v 3),.v 4),(1,2,.v 5,.a (.a (.v 4) (.n 1)) (.v 6)),(1,0,.n 1,.v 7),(1,2,.a (.v 0) (.v 2),.v 5),(1,1,.a (.v 8) (.v 7),.a (.v 6) (.n 1)),(1,0,.a (.v 1) (.n 1),.a (.v 8) (.n 2))] rfl h hp g4 hpos.1 (Nat.sub_add_cancel (linL fun q=>lin [_,_] [(1,0,.v 0,.v 1),(1,0,.a (.v 1) (.n 1),.v 0)] rfl ha q)) (Nat.sub_add_cancel (linL fun q=>lin [_,_] [(1,0,.v 0,.a (.v 1) (.n 1)),(1,0,.a (.a (.v 1) (.n 1)) (.n 1),.v 0)] rfl hpos.2 q)) q) (by rw [el];exact linT fun q=>lin [_,_,_,_,_,_,_,_,_] [(1,0,.a (.v 0) (.n 1),.a (.v 1) (.n 1)),(1,1,.a (.v 2) (.v 3),.v 4),(1,2,.v 5,.a (.a (.v 4) (.n 1)) (.v 6)),(1,0,.n 1,.v 7),(1,2,.a (.v 0) (.v 2),.v 5),(1,1,.a (.v 8) (.v 7),.a (.v 6) (.n 1)),(1,0,.v 1,.v 8)] rfl hf hp g4 hpos.1 (Nat.sub_add_cancel (linL fun q=>lin [_,_] [(1,0,.v 0,.v 1),(1,0,.a (.v 1) (.n 1),.v 0)] rfl ha q)) (Nat.sub_add_cancel (linL fun q=>lin [_,_] [(1,0,.v 0,.a (.v 1) (.n 1)),(1,0,.a (.a (.v 1) (.n 1)) (.n 1),.v 0)] rfl hpos.2 q)) q) (by exact linL fun q=>lin [_,_,_,_] [(1,2,.v 0,.a (.a (.v 1) (.n 1)) (.v 2)),(1,0,.v 3,.a (.v 2) (.n 1)),(1,0,.a (.v 0) (.n 1),.a (.v 1) (.v 3))] rfl g4 hpos.2 q) (by simp only [List.length_append,List.length_cons,List.length_nil];exact linL fun q=>lin [_,_,_,_,_] [(1,0,.v 0,.v 1),(1,1,.a (.v 1) (.v 2),.v 3),(1,0,.n 1,.v 4),(1,0,.a (.a (.v 3) (.v 4)) (.n 1),.a (.v 0) (.a (.n 0) (.n 1)))] rfl hx hp hpos.1 q)
     (fun ys hy=>by
       have:=hQ (x::ys) (by rw [ed,hy])
       simpa only [List.append_assoc,List.singleton_append] using this)
     (fun ys m' q w2 w4 w5 hy=>by
       have:=hE (x::ys) m' q w2 w4 w5 (by rw [ed,hy])
       simpa only [List.append_assoc,List.singleton_append] using this)
    rw [← e6] at go
    have kf:∀ K,KW (Phi 33 [.str (S t),.int (p:Nat)]) K=K (.ok (.tuple [.tuple [sD x,itD (p+m)],.none])):=fun K=>(k K).trans (by rw [find_c hb,he];rfl)
    show SW Phi reqF 39 lv _ _ _
    refine byR [0,0,1] fun W=>W (by decide) hlv _ (phi_of kf) f1 (decide_eq_false i2) hlv (by decide) hlv _ (phi_of k2) rfl hs hs (congrArg not hs2) rfl (by decide) _ rfl hxl (by decide) _ rfl ?_
    exact go
   |bad m q=>
    rw [he] at hv k2
    rw [hsp,splW_bad hb he] at hE
    have hs:SeqAt.shaped (.tuple [.none,.tuple [.int 1,sD m,codeD q]])=true:=sh_bad hv.1 hv.2
    have hs2:=SeqAt.eqv_refl _ (lay_of hs)
    cases n with
    |zero=>exact absurd (Nat.le_of_succ_le_succ h) (Nat.not_succ_le_zero _)
    |succ n=>
    have go:=hE [] m q (.d (itD p)) (.d (.tuple [.none,faultD m q])) (.d .none) rfl
    rw [List.append_nil] at go
    have kf:∀ K,KW (Phi 33 [.str (S t),.int (p:Nat)]) K=K (.ok (.tuple [.none,.tuple [.int 1,sD m,codeD q]])):=fun K=>(k K).trans (by rw [find_c hb,he];rfl)
    show SW Phi reqF 39 lv _ _ _
    refine byR [0,0,0] fun W=>W (by decide) hlv _ (phi_of kf) f1 (decide_eq_false i2) hlv (by decide) hlv _ (phi_of k2) rfl hs hs (congrArg not hs2) rfl ?_
    refine byT eT eB [0] fun W=>W rfl ?_
    exact go
include hlv in
theorem p39 {t:List Nat} (hB:t.length≤B) (hok:AOK t):SW Phi reqF 39 lv b_law_walked [.d (.str (S t)),.un,.un,.un,.un,.un] (OutR (.ok (.tuple [.list ((splW (t.length+1) t).1.map sD),faultO (splW (t.length+1) t).2]))):=by
 unfold b_law_walked
 simp -dsimp only [↓w_cons,↓w_upkO,hlv,↓gd,↓es_cons,↓e_k,↓es_nil,↓sq_nxt,↓w_whl,setAll,List.set_cons_succ,List.set_cons_zero]
 refine wh_of ⟨t.length+2,fun T BB eT eB=>?_⟩
 refine l39 hlv eT eB t hB hok (t.length+2) 0 (t.length+1) [] .un .un (by simp) (by simp) (Nat.zero_le _) (Nat.le_refl _) (fun ys hy=>?_) (fun ys m q w2 w4 w5 hy=>?_)
 ·rw [List.drop_zero] at hy
  simp -dsimp only [↓sq_ret,↓or_ret,hy,faultO,List.nil_append]
 ·rw [List.drop_zero] at hy
  simp -dsimp only [↓sq_nxt,↓w_cons,↓w_frz,List.nil_append,List.getElem?_cons_succ,List.getElem?_cons_zero,at_o,↓w_ret,↓e_tup,↓es_cons,↓e_v,List.set_cons_succ,List.set_cons_zero,at_d,↓es_nil,↓sq_ret,↓or_ret,hy,faultO]
end
end Mine
end
section
open PySem PySem.W PyProof.Rows
namespace Mine
section
variable {Φ:Nat→List PyData→RR→Prop} {req:Nat→Nat} {k lv:Nat} {ρ:Loc} {P:PyData→Prop} {E:Exc→Prop}
theorem e_comp {elt it:PE} {cond:Option PE}:EW Φ req k lv (.comp elt it cond) ρ P E=GD (1≤lv) (EW Φ req k lv it ρ (fun d=>Fz tupP (fun xs=>GD (xs.length≤lim) (compW (fun x Q=>EW Φ req k lv elt [.d x] Q fun _=>False) (fun x Q=>PE.wpc Φ req k lv cond [.d x] Q) xs [] P)) d) E):=rfl
theorem comp_all {elt:PyData→(PyData→Prop)→Prop} {cond:PyData→(Bool→Prop)→Prop} (hc:∀ x Q,cond x Q=Q true) (he:∀ x Q,elt (wordD (false,x)) Q=Q (sD x)):∀ (l acc:List (List Nat)),acc.length+l.length≤lim→compW elt cond (l.map fun x=>wordD (false,x)) (acc.map sD) P=P (.list ((acc++l).map sD))
 | [],acc,h=>by
   simp only [List.map_nil,compW,List.length_map,List.append_nil]
   simp only [List.length_nil,Nat.add_zero] at h
   simp only [h,true_and]
 |x::r,acc,h=>by
  simp only [List.length_cons] at h
  have hl:acc.length≤lim:=by exact linL fun q=>lin [_,_,_] [(1,0,.a (.v 0) (.a (.v 1) (.n 1)),.v 2),(1,0,.a (.v 2) (.n 1),.v 0)] rfl h q
  have e6:List.map sD acc++[sD x]=(acc++[x]).map sD:=by simp
  simp only [List.map_cons,compW,hc,he,List.length_map,hl,true_and,e6]
  rw [comp_all hc he r (acc++[x]) (by simp only [List.length_append,List.length_cons,List.length_nil];exact linL fun q=>lin [_,_,_] [(1,0,.a (.v 0) (.a (.v 1) (.n 1)),.v 2),(1,0,.a (.v 2) (.n 1),.a (.a (.v 0) (.a (.n 0) (.n 1))) (.v 1))] rfl h q),List.append_assoc]
  rfl
theorem comp_fil {elt:PyData→(PyData→Prop)→Prop} {cond:PyData→(Bool→Prop)→Prop} (hc:∀ w Q,cond (wordD w) Q=Q w.1) (he:∀ x Q,elt x Q=Q x):∀ (l acc:List (Bool × List Nat)),acc.length+l.length≤lim→compW elt cond (l.map wordD) (acc.map wordD) P=P (.list ((acc++l.filter (·.1)).map wordD))
 | [],acc,h=>by
   simp only [List.map_nil,compW,List.length_map,List.append_nil,List.filter_nil]
   simp only [List.length_nil,Nat.add_zero] at h
   simp only [h,true_and]
 |w::r,acc,h=>by
  simp only [List.length_cons] at h
  have hl:acc.length≤lim:=by exact linL fun q=>lin [_,_,_] [(1,0,.a (.v 0) (.a (.v 1) (.n 1)),.v 2),(1,0,.a (.v 2) (.n 1),.v 0)] rfl h q
  have e6:List.map wordD acc++[wordD w]=(acc++[w]).map wordD:=by simp
  simp only [List.map_cons,compW,hc,he,List.length_map,hl,true_and,e6]
  cases hw:w.1 with
  |true=>
   simp only [if_true]
   rw [comp_fil hc he r (acc++[w]) (by simp only [List.length_append,List.length_cons,List.length_nil];exact linL fun q=>lin [_,_,_] [(1,0,.a (.v 0) (.a (.v 1) (.n 1)),.v 2),(1,0,.a (.v 2) (.n 1),.a (.a (.v 0) (.a (.n 0) (.n 1))) (.v 1))] rfl h q),List.filter_cons_of_pos hw,List.append_assoc]
   rfl
  |false=>
   simp only [Bool.false_eq_true,if_false]
   rw [comp_fil hc he r acc (by exact linL fun q=>lin [_,_,_] [(1,0,.a (.v 0) (.a (.v 1) (.n 1)),.v 2),(1,0,.a (.v 2) (.n 1),.a (.v 0) (.v 1))] rfl h q),List.filter_cons_of_neg (by simp [hw])]
end
theorem sl_t1 {a:PyData} {l:List PyData} {P:PyData→Prop}:SLW (.tuple (a::l)) (some (.int 1)) none P=GD ((a::l).length≤lim) (P (.tuple l)):=by
 refine propext ⟨fun h=>h.2.2.2,fun h=>⟨rfl,Nat.le_refl 1,Nat.succ_le_succ (Nat.zero_le _),h⟩⟩
theorem sh_int3 {a b c:Nat}:SeqAt.shaped (.tuple [itD a,itD b,itD c])=true:=rfl
theorem nn1 {P:PyData→Prop}:CW .NotEq (.int (1:Nat)) (.int 1) P=P (.bool false):=rfl
section
variable {lv:Nat} (hlv:1≤lv)
include hlv in
theorem p40 {t:List Nat} {xs:List (List Nat)} {m:Nat} (hB:t.length≤B) (hx:xs.length≤B) (hv:∀ x ∈ xs,vl x=true) (hc:cmdR t.length 0 t=some (.ok (.tuple [.tuple (xs.map fun x=>wordD (false,x)),itD 0,itD m,itD t.length]))) :
  SW Phi reqF 40 lv b_law_is_command [.d (sD t),.d (.list (xs.map sD)),.un] (OutR (.ok (.bool true))):=by
 unfold b_law_is_command
 have f1:t.length≤lim:=lim_B hB
 have fx:xs.length≤lim:=lim_B hx
 have k:=fun K=>k19 (K:=K) hB hc
 have l1:(1:Nat)≤lim:=by unfold lim;exact linL fun q=>lin [] [(1,0,.a (.n 1048576) (.n 1),.n 1)] rfl q
 have l4:(0+1+1+1+1:Nat)≤lim:=by unfold lim;exact linL fun q=>lin [] [(1,0,.a (.n 1048576) (.n 1),.a (.a (.a (.a (.n 0) (.n 1)) (.n 1)) (.n 1)) (.n 1))] rfl q
 have ca:=fun P=>comp_all (P:=P) (elt:=fun x Q=>EW Phi reqF 40 lv (.call 20 [.v 0]) [.d x] Q fun _=>False) (cond:=fun x Q=>PE.wpc Phi reqF 40 lv none [.d x] Q) (fun x Q=>rfl) (fun x Q=>by simp -dsimp only [↓e_callK (Φ:=Phi) (req:=reqF) (k:=40) (lv:=lv) (f:=20) (by decide) hlv,↓es_cons,↓e_v,List.getElem?_cons_zero,at_d,↓es_nil,k20,↓rr_ok,Bool.false_eq_true,if_false]) xs [] (by simpa using fx)
 simp only [List.map_nil,List.nil_append] at ca
 have hne:=fun P=>c_neL (P:=P) (sh_list hv)
 have hin:=fun P=>c_eqT (P:=P) (sh_int3 (a:=0) (b:=m) (c:=t.length))
 have z0:(PyData.int 0)=itD 0:=rfl
 simp -dsimp only [↓w_cons,↓w_asg,↓e_callK (Φ:=Phi) (req:=reqF) (k:=40) (lv:=lv) (f:=19) (by decide) hlv,↓es_cons,↓e_v,List.getElem?_cons_zero,at_d,↓es_nil,k,↓sq_nxt,↓w_ite,↓e_or1,↓e_cmp,↓e_len,List.set_cons_succ,List.set_cons_zero,List.getElem?_cons_succ,↓sq_exc,↓or_exc,reduceCtorEq,onlyR,↓rr_ok,l_l,List.length_cons,List.length_nil,Nat.zero_add,l1,↓gd,↓e_k,nn1,b_bool,↓ite_ff,e_comp,hlv,↓e_idx,i_l0,i_t0,b_tup,List.length_map,fx,ca,hne,↓w_nil,↓w_ret,↓e_sl1,sl_t1,l4,↓e_tup,i_t2,l_s,f1]
 rw [z0,hin]
 exact (rfl:RR.ok (PyData.bool true)=RR.ok (PyData.bool true))
end
end Mine
end
section
open PySem PySem.W PyProof.Rows
namespace Mine
theorem k40 {K:RR→Prop} {l:List Nat} {xs:List (List Nat)} {m:Nat} (hl:l.length+2≤B) (hx:xs.length+1≤B) (hv:∀ x ∈ xs,vl x=true) (hc:cmdR (l.length+2) 0 (120::32::l)=some (cmdD ((false,[120])::xs.map fun x=>(false,x)) m (l.length+2))) :
  KW (Phi 40 [.str (S (120::32::l)),.list (.str (S [120])::xs.map sD)]) K=K (.ok (.bool true)):=by
 refine ex_one fun r=>⟨fun ⟨⟨_,_,_,_,_,_,_,_,q⟩⟩=>q,fun q=>⟨⟨120::32::l,[120]::xs,m,rfl,by simpa using hl,by simpa using hx,fun x h=>?_,?_,q⟩⟩⟩
 ·rcases List.mem_cons.mp h with rfl |h
  ·rfl
  ·exact hv x h
 ·have e:(120::32::l).length=l.length+2:=rfl
  rw [e,hc]
  unfold cmdD
  simp only [List.map_cons,List.map_map]
  rfl
theorem w_lay {w:Bool × List Nat} (h:vl w.2=true):PyData.canLay0 (wordD w)=true∧PyData.depth (wordD w)≤3:=by
 unfold wordD partsD
 split
 ·exact ⟨rfl,by simp only [PyData.depth,PyData.depthAll];decide⟩
 ·refine ⟨?_,by simp only [PyData.depth,PyData.depthAll,tText];decide⟩
  simp only [PyData.canLay0,PyData.canLayAll0,tText,ok_S,h]
  decide
theorem ws_lay:∀ {ws:List (Bool × List Nat)},(∀ w ∈ ws,vl w.2=true)→PyData.canLayAll0 (ws.map wordD)=true∧PyData.depthAll (ws.map wordD)≤3
 | [],_=>⟨rfl,Nat.zero_le _⟩
 |w::r,h=>by
  obtain ⟨i1,i2⟩:=ws_lay (ws:=r) fun y hy=>h y (List.mem_cons_of_mem _ hy)
  obtain ⟨j1,j2⟩:=w_lay (h w (List.mem_cons_self ..))
  rw [List.map_cons,PyData.canLayAll0,PyData.depthAll,i1,j1]
  exact ⟨rfl,Nat.max_le.mpr ⟨j2,i2⟩⟩
theorem sh_ws {ws:List (Bool × List Nat)} (h:∀ w ∈ ws,vl w.2=true):SeqAt.shaped (.list (ws.map wordD))=true:=by
 obtain ⟨h1,h2⟩:=ws_lay h
 unfold SeqAt.shaped
 rw [PyData.canLay0,PyData.depth,h1,Bool.true_and]
 exact decide_eq_true (by exact linL fun q=>lin [_] [(1,0,.v 0,.n 3),(1,0,.a (.n 64) (.n 1),.a (.v 0) (.n 1))] rfl h2 q)
theorem aok_x {l:List Nat} (h:AOK l):AOK (120::32::l):=fun c hc=>by
 rcases List.mem_cons.mp hc with rfl |hc
 ·rfl
 ·rcases List.mem_cons.mp hc with rfl |hc
  ·rfl
  ·exact h c hc
theorem p41 {t:List Nat} (hl:t.length≤1000) (hok:AOK t):SW Phi reqF 41 2 b_law_text_right [.d (.str (S t)),.un,.un,.un,.un,.un,.un,.un] (OutR (.ok (.bool true))):=by
 have hB:t.length≤B:=by unfold B;exact linL fun q=>lin [_] [(1,0,.v 0,.n 1000),(1,0,.a (.n 65536) (.n 1),.v 0)] rfl hl q
 have f1:t.length≤lim:=lim_B hB
 have f2:[120,32].length+t.length≤lim:=by unfold lim;exact linL fun q=>lin [_] [(1,0,.v 0,.n 1000),(1,0,.a (.n 1048576) (.n 1),.a (.n 2) (.v 0))] rfl hl q
 have hB2:t.length+2≤B:=by unfold B;exact linL fun q=>lin [_] [(1,0,.v 0,.n 1000),(1,0,.a (.n 65536) (.n 1),.a (.v 0) (.n 2))] rfl hl q
 have kw:=fun K=>k39 (K:=K) hB hok
 have ks:=fun K=>k26 (K:=K) hB
 rw [splM_W] at ks
 obtain ⟨x1,x2⟩:=x_aok (n:=t.length+2) (f:=t.length+1) hok (by exact linT fun q=>lin [_] [(1,0,.a (.v 0) (.n 2),.v 0)] rfl q) (by exact linT fun q=>lin [_] [(1,0,.a (.v 0) (.n 1),.v 0)] rfl q)
 have hsum:=splW_sum (t.length+1) t
 obtain ⟨v1,v2⟩:=splW_vl (t.length+1) t (vl_aok hok)
 generalize hxs:(splW (t.length+1) t).1=xs at *
 generalize hfo:(splW (t.length+1) t).2=fo at *
 obtain ⟨n1,n2⟩:=wsum_len xs
 cases fo with
 |some p=>
  obtain ⟨m,q⟩:=p
  obtain ⟨vm,vq⟩:=v2 m q rfl
  have hs:SeqAt.shaped (.tuple [.int 1,sD m,codeD q])=true:=sh_fault vm vq
  have hs2:=SeqAt.eqv_refl _ (lay_of hs)
  rcases x2 (by simp) with ⟨m',hm⟩ |⟨ws,m',m2,hm,hcm,y,hy⟩
  ·have k5:=fun K=>k35 (K:=K) (t:=120::32::t) hB2 hm
   have k5':∀ K,KW (Phi 35 [.str (S ([120,32]++t))]) K=K (.ok (tryD (exN m'))):=k5
   have k6:=phi_of k5'
   refine byR [0,1,0,1] fun W=>W (by decide) (by decide) _ (phi_of kw) rfl (by decide) rfl rfl (by decide) (by decide) (by decide) _ (phi_of ks) hs hs (congrArg not hs2) (by decide) f2 (by decide) (by decide) _ k6 rfl rfl ?_
   rfl
  ·have k5:=fun K=>k35 (K:=K) (t:=120::32::t) hB2 hm
   obtain ⟨c1,c2⟩:=cmdM_vl _ _ _ _ (aok_x hok) hcm
   simp only [List.length_cons] at c2
   have fw:ws.length≤lim:=lim_B (by unfold B;exact linL fun q=>lin [_,_] [(1,0,.v 0,.n 1000),(1,0,.v 1,.a (.a (.a (.v 0) (.n 1)) (.n 1)) (.n 1)),(1,0,.a (.n 65536) (.n 1),.v 1)] rfl hl c2 q)
   have cf:∀ P:PyData→Prop,P (.list ((ws.filter (·.1)).map wordD))→compW (fun x Q=>PE.wp Phi reqF 41 1 (.v 0) [.d x] Q fun _=>False) (fun x Q=>PE.wpc Phi reqF 41 1 (some (.idx (.v 0) (.k (.int 0)))) [.d x] Q) (ws.map wordD) [] P:=fun P h=>
    (comp_fil (P:=P) (elt:=fun x Q=>PE.wp Phi reqF 41 1 (.v 0) [.d x] Q fun _=>False) (cond:=fun x Q=>PE.wpc Phi reqF 41 1 (some (.idx (.v 0) (.k (.int 0)))) [.d x] Q) (fun w Q=>propext ⟨fun h=>h.2,fun h=>⟨by decide,h⟩⟩) (fun x Q=>rfl) ws [] (by rw [List.length_nil,Nat.zero_add];exact fw)).mpr h
   have s1:=sh_ws (ws:=ws.filter (·.1)) fun w hw=>c1 w (List.mem_filter.mp hw).1
   have s2:SeqAt.shaped (.list [])=true:=rfl
   have s3:PyData.eqv (.list ((ws.filter (·.1)).map wordD)) (.list [])=false:=by
    have:(true,y) ∈ ws.filter (·.1):=List.mem_filter.mpr ⟨hy,rfl⟩
    cases hf:ws.filter (·.1) with
    |nil=>rw [hf] at this;cases this
    |cons w r=>rw [List.map_cons,PyData.eqv,PyData.eqvAll]
   have k5':∀ K,KW (Phi 35 [.str (S ([120,32]++t))]) K=K (.ok (tryD (cmdD ws m' (t.length+2)))):=k5
   have k6:=phi_of k5'
   have fw':(ws.map wordD).length≤lim:=by rw [List.length_map];exact fw
   refine byR [0,1,0,0] fun W=>W (by decide) (by decide) _ (phi_of kw) rfl (by decide) rfl s2 (by decide) (by decide) (by decide) _ (phi_of ks) hs hs (congrArg not hs2) (by decide) f2 (by decide) (by decide) _ k6 rfl rfl (by decide) (by decide) _ rfl fw' _ cf s1 s2 ?_
   show OutR _ (.ret (.bool (!PyData.eqv (.list ((ws.filter (·.1)).map wordD)) (.list []))))
   rw [s3];rfl
 |none=>
  obtain ⟨m,hm⟩:=x1 rfl
  have hj:=joinM_len xs true
  have hjl:(joinM true xs).length≤8000:=by exact linL fun q=>lin [_,_,_] [(8,0,.v 0,.n 1000),(4,0,.v 1,.s 2 (.v 0)),(1,0,.v 2,.s 4 (.v 1)),(1,0,.a (.n 8000) (.n 1),.v 2)] rfl hl hsum hj q
  have hjB:(joinM true xs).length≤B:=by unfold B;exact linL fun q=>lin [_,_,_] [(8,0,.v 0,.n 1000),(4,0,.v 1,.s 2 (.v 0)),(1,0,.v 2,.s 4 (.v 1)),(1,0,.a (.n 65536) (.n 1),.v 2)] rfl hl hsum hj q
  have hxB:xs.length+1≤B:=by unfold B;exact linL fun q=>lin [_,_,_] [(2,0,.v 0,.n 1000),(1,0,.v 1,.s 2 (.v 0)),(1,0,.v 2,.v 1),(1,0,.a (.n 65536) (.n 1),.a (.v 2) (.n 1))] rfl hl hsum n1 q
  obtain ⟨m2,hm2⟩:=x_join (n:=(joinM true xs).length+2) (xs:=xs) (by exact linT fun q=>lin [_] [(1,0,.a (.v 0) (.n 2),.v 0)] rfl q)
  have ka:=fun K=>k40 (K:=K) hB2 hxB v1 hm
  have kb:=fun K=>k40 (K:=K) (l:=joinM true xs) (by unfold B;exact linL fun q=>lin [_,_,_] [(8,0,.v 0,.n 1000),(4,0,.v 1,.s 2 (.v 0)),(1,0,.v 2,.s 4 (.v 1)),(1,0,.a (.n 65536) (.n 1),.a (.v 2) (.n 2))] rfl hl hsum hj q) hxB v1 hm2
  have kj:=fun K=>k30 (K:=K) (xs:=xs) (by exact linL fun q=>lin [_,_] [(1,0,.a (.v 0) (.n 1),.v 1),(1,0,.a (.v 1) (.n 1),.v 0)] rfl hxB q) hjB (fun x hx=>by have:=n2 x hx;unfold B;exact linL fun q=>lin [_,_,_] [(2,0,.v 0,.n 1000),(1,0,.v 1,.s 2 (.v 0)),(1,0,.v 2,.v 1),(1,0,.a (.n 65536) (.n 1),.v 2)] rfl hl hsum this q)
  have ks2:=fun K=>k26 (K:=K) hjB
  rw [splM_W,join_spl xs true _ (Nat.lt_succ_self _)] at ks2
  have fx0:1+xs.length≤lim:=by unfold B at hxB;unfold lim;exact linL fun q=>lin [_,_,_] [(2,0,.v 0,.n 1000),(1,0,.v 1,.s 2 (.v 0)),(1,0,.v 2,.v 1),(1,0,.a (.n 1048576) (.n 1),.a (.n 1) (.v 2))] rfl hl hsum n1 q
  have fx:[PyData.str (S [120])].length+(xs.map sD).length≤lim:=by rw [List.length_map];show 1+xs.length≤lim;exact fx0
  have fj:[120,32].length+(joinM true xs).length≤lim:=by unfold lim;exact linL fun q=>lin [_,_,_] [(8,0,.v 0,.n 1000),(4,0,.v 1,.s 2 (.v 0)),(1,0,.v 2,.s 4 (.v 1)),(1,0,.a (.n 1048576) (.n 1),.a (.n 2) (.v 2))] rfl hl hsum hj q
  have hs:=sh_list v1
  have hs2:=SeqAt.eqv_refl _ (lay_of hs)
  have ka':∀ K,KW (Phi 40 [.str (S ([120,32]++t)),.list ([.str (S [120])]++xs.map sD)]) K=K (.ok (.bool true)):=ka
  have kb':∀ K,KW (Phi 40 [.str (S ([120,32]++joinM true xs)),.list ([.str (S [120])]++xs.map sD)]) K=K (.ok (.bool true)):=kb
  have ka2:=phi_of ka'
  have kb2:=phi_of kb'
  have kj':∀ K,KW (Phi 30 [.list (xs.map sD)]) K=K (.ok (sD (joinM true xs))):=kj
  have kj2:=phi_of kj'
  refine byR [0,0,0,0,1] fun W=>W (by decide) (by decide) _ (phi_of kw) rfl (by decide) rfl rfl (by decide) (by decide) _ (phi_of ks) hs hs (congrArg not hs2) f2 fx (by decide) (by decide) _ ka2 (congrArg not rfl) (by decide) (by decide) _ kj2 (by decide) (by decide) _ (phi_of ks2) hs hs hs2 fj fx (by decide) (by decide) _ kb2 ?_
  rfl
end Mine
end
section
open PySem PySem.W PyProof.Rows
namespace Mine
noncomputable def nmS (l:List String):List Str:=l.map (Str.ofString ·)
noncomputable def WF (f lv:Nat) (nm:List String) (ps:List PS) (ar:Nat) (dfl:List PyData):Prop:=∀ ds r,Phi f ds r→ds.length=ar∧SW Phi reqF f lv ps (ini (nmS nm) (ds++dfl)) (OutR r)
section
variable {f lv:Nat} {nm:List String} {ps:List PS} {n:Nat} {dfl:List PyData} {α:Type} {ex:α→List PyData}
theorem wf_sg {w:α→Nat→RR} (e:tblP.getD f no=Sg ex w) (hn:∀ x,(ex x).length+1=n) (H:∀ x c,SW Phi reqF f lv ps (ini (nmS nm) (.str (S [c])::(ex x++dfl))) (OutR (w x c))):WF f lv nm ps n dfl:=fun ds r ⟨h⟩=>by
 rw [e] at h
 obtain ⟨x,c,h1,h2⟩:=h
 rw [h1,h2]
 exact ⟨hn x,H x c⟩
theorem wf_tx {g:α→List Nat→RR→Prop} (e:tblP.getD f no=Tx ex g) (hn:∀ x,(ex x).length+1=n) (H:∀ x t r,t.length≤B→g x t r→SW Phi reqF f lv ps (ini (nmS nm) (.str (S t)::(ex x++dfl))) (OutR r)):WF f lv nm ps n dfl:=fun ds r ⟨h⟩=>by
 rw [e] at h
 obtain ⟨x,t,h1,h2,h3⟩:=h
 rw [h1]
 exact ⟨hn x,H x t r h2 h3⟩
theorem wf_pl {g:α→List Nat→Nat→List Nat→RR→Prop} (e:tblP.getD f no=Pl ex g) (hn:∀ x,(ex x).length+2=n) (H:∀ x t a r,t.length≤B→a≤t.length→g x t a (t.drop a) r→SW Phi reqF f lv ps (ini (nmS nm) (.str (S t) :: .int (a:Nat)::(ex x++dfl))) (OutR r)):WF f lv nm ps n dfl:=fun ds r ⟨h⟩=>by
 rw [e] at h
 obtain ⟨x,t,a,h1,h2,h3,h4⟩:=h
 rw [h1]
 exact ⟨hn x,H x t a r h2 h3 h4⟩
end
theorem split_at {t:List Nat} {a:Nat} (h:a≤t.length):∃ pre:List Nat,t=pre++t.drop a∧a=pre.length:=⟨t.take a,(List.take_append_drop a t).symm,(List.length_take_of_le h).symm⟩
section
variable {lv:Nat} (hlv:1≤lv)
theorem f1:WF 1 lv n_is_blank b_is_blank 1 []:=wf_sg rfl (fun _=>rfl) fun _ _=>p1
theorem f2:WF 2 lv n_digit b_digit 1 []:=wf_sg rfl (fun _=>rfl) fun _ _=>p2
theorem f6:WF 6 lv n_is_gap b_is_gap 1 []:=wf_sg rfl (fun _=>rfl) fun _ _=>p6
include hlv in
theorem f3:WF 3 lv n_hex_sign b_hex_sign 2 []:=wf_pl rfl (fun _=>rfl) fun _ t a r h1 h2 ⟨_,_,hd,hc,e⟩=>e▸p3 hlv h1 hd hc
include hlv in
theorem f4:WF 4 lv n_octal_sign b_octal_sign 2 []:=wf_pl rfl (fun _=>rfl) fun _ t a r h1 h2 e=>e▸p4 hlv h1 h2
include hlv in
theorem f5:WF 5 lv n_backslash b_backslash 2 []:=wf_pl rfl (fun _=>rfl) fun _ t a r h1 h2 ⟨_,hd,e⟩=>e▸p5 hlv h1 hd
include hlv in
theorem f7:WF 7 lv n_skip_gaps b_skip_gaps 2 []:=wf_pl rfl (fun _=>rfl) fun _ t a r h1 h2 e=>e▸p7' hlv h1 h2
include hlv in
theorem f9:WF 9 lv n_skip_to_command b_skip_to_command 2 []:=wf_pl rfl (fun _=>rfl) fun _ t a r h1 h2 ⟨hs,e⟩=>e▸p9 hlv h1 h2 hs
include hlv in
theorem f13:WF 13 lv n_braces b_braces 2 []:=wf_pl rfl (fun _=>rfl) fun _ t a r h1 h2 ⟨_,hd,e⟩=>e▸p13 hlv h1 hd
include hlv in
theorem f14:WF 14 lv n_parts_until b_parts_until 3 []:=wf_pl rfl (fun _=>rfl) fun b t a r h1 h2 ⟨hc,e⟩=>match b with
 |false=>e▸p14 hlv stQ_ok spQ_ok rfl h1 h2 hc
 |true=>e▸p14 hlv stB_ok spB_ok rfl h1 h2 hc
theorem f15:WF 15 lv n_bare_stops b_bare_stops 1 []:=fun ds r ⟨⟨h1,h2⟩⟩=>by
 rw [h1,h2]
 exact ⟨rfl,p15⟩
include hlv in
theorem f16:WF 16 lv n_is_expanded b_is_expanded 2 []:=wf_pl rfl (fun _=>rfl) fun _ t a r h1 h2 e=>e▸p16 hlv h1 h2
include hlv in
theorem f17:WF 17 lv n_word b_word 3 []:=wf_pl rfl (fun _=>rfl) fun _ t a r h1 h2 ⟨p,hp,e⟩=>e▸p17 hlv h1 h2 hp
include hlv in
theorem f18:WF 18 lv n_command_at b_command_at 2 [.bool false]:=wf_pl rfl (fun _=>rfl) fun _ t a r h1 h2 h=>p18 hlv h1 h2 h
include hlv in
theorem f19:WF 19 lv n_commands_of b_commands_of 1 []:=wf_tx rfl (fun _=>rfl) fun _ t r h1 ⟨v,hv,e⟩=>e▸p19 hlv h1 hv
include hlv in
theorem f20:WF 20 lv n_plain_of b_plain_of 1 []:=fun ds r ⟨⟨w,h1,h2⟩⟩=>by
 rw [h1,h2]
 exact ⟨rfl,p20 hlv⟩
include hlv in
theorem f21:WF 21 lv n_check_behind b_check_behind 3 []:=wf_pl rfl (fun _=>rfl) fun w t a r h1 h2 ⟨hw,e⟩=>by
 obtain ⟨pre,e1,e2⟩:=split_at h2
 generalize t.drop a=l at e e1
 subst e1 e2 e
 exact p21 hlv (pre:=pre) (l:=l) (w:=w) h1 hw
include hlv in
theorem f22:WF 22 lv n_braced_element b_braced_element 2 []:=wf_pl rfl (fun _=>rfl) fun _ t a r h1 h2 e=>e▸p22 hlv h1 h2
include hlv in
theorem f23:WF 23 lv n_quoted_element b_quoted_element 2 []:=wf_pl rfl (fun _=>rfl) fun _ t a r h1 h2 e=>e▸p23 hlv h1 h2
include hlv in
theorem f24:WF 24 lv n_bare_element b_bare_element 2 []:=wf_pl rfl (fun _=>rfl) fun _ t a r h1 h2 e=>e▸p24 hlv h1 h2
include hlv in
theorem f25:WF 25 lv n_find_element b_find_element 2 []:=wf_pl rfl (fun _=>rfl) fun _ t a r h1 h2 e=>e▸p25 hlv h1 h2
include hlv in
theorem f26:WF 26 lv n_split_list b_split_list 1 []:=wf_tx rfl (fun _=>rfl) fun h t r h1 e=>e▸p26 hlv h1
include hlv in
theorem f27:WF 27 lv n_mode_of b_mode_of 2 []:=wf_tx rfl (fun _=>rfl) fun h t r h1 e=>e▸p27 hlv h1
theorem f28:WF 28 lv n_escaped b_escaped 2 []:=wf_sg rfl (fun _=>rfl) fun _ _=>p28
theorem f29:WF 29 2 n_quote b_quote 2 []:=wf_tx rfl (fun _=>rfl) fun h t r h1 e=>e▸p29 h1
theorem f30:WF 30 2 n_join_list b_join_list 1 []:=fun ds r ⟨⟨xs,h0,h1,h2,h3,h4⟩⟩=>by
 rw [h0,h4]
 exact ⟨rfl,p30 h1 h2 h3⟩
theorem f31:WF 31 lv n_law_pieces b_law_pieces 0 []:=fun ds r ⟨⟨h1,h2⟩⟩=>by
 rw [h1,h2]
 exact ⟨rfl,p31⟩
theorem f32:WF 32 lv n_law_told_texts b_law_told_texts 0 []:=fun ds r ⟨⟨h1,h2⟩⟩=>by
 rw [h1,h2]
 exact ⟨rfl,p32⟩
include hlv in
theorem f33 (hl2:lv≤2):WF 33 lv n_law_element b_law_element 2 []:=wf_pl rfl (fun _=>rfl) fun _ t a r h1 h2 e=>e▸p33 hlv hl2 h1 h2
include hlv in
theorem f34 (hl2:lv≤2):WF 34 lv n_law_word b_law_word 2 []:=wf_pl rfl (fun _=>rfl) fun _ t a r h1 h2 ⟨p,hp,e⟩=>e▸p34 hlv hl2 h1 h2 hp
include hlv in
theorem f35 (hl2:lv≤2):WF 35 lv n_law_command b_law_command 1 []:=wf_tx rfl (fun _=>rfl) fun _ t r h1 ⟨v,hv,e⟩=>e▸p35 hlv hl2 h1 hv
theorem f36:WF 36 lv n_law_list_fault b_law_list_fault 2 []:=fun ds r ⟨⟨m,q,h1,h2⟩⟩=>by
 rw [h1,h2]
 exact ⟨rfl,p36⟩
include hlv in
theorem f37:WF 37 lv n_law_junk b_law_junk 3 []:=wf_pl rfl (fun _=>rfl) fun w t a r h1 h2 ⟨hw,e⟩=>by
 obtain ⟨pre,e1,e2⟩:=split_at h2
 generalize t.drop a=l at e e1
 subst e1 e2 e
 exact p37 hlv (pre:=pre) (l:=l) (w:=w) h1 hw
include hlv in
theorem f38:WF 38 lv n_law_due b_law_due 2 []:=wf_pl rfl (fun _=>rfl) fun _ t a r h1 h2 ⟨_,_,hd,hc,hb,e⟩=>e▸p38 hlv h1 hd hc hb
include hlv in
theorem f39:WF 39 lv n_law_walked b_law_walked 1 []:=wf_tx rfl (fun _=>rfl) fun _ t r h1 ⟨hc,e⟩=>e▸p39 hlv h1 hc
include hlv in
theorem f40:WF 40 lv n_law_is_command b_law_is_command 2 []:=fun ds r ⟨⟨t,xs,m,h0,h1,h2,h3,h4,h5⟩⟩=>by
 rw [h0,h5]
 exact ⟨rfl,p40 hlv h1 h2 h3 h4⟩
theorem f41:WF 41 2 n_law_text_right b_law_text_right 1 []:=fun ds r ⟨⟨t,h0,h1,h2,h3⟩⟩=>by
 rw [h0,h3]
 exact ⟨rfl,p41 h1 h2⟩
end
end Mine
end
section
open PySem PySem.W PyProof.Rows
set_option maxRecDepth 100000
namespace Mine
section
variable {X:Cx} {Φ:Nat→List PyData→RR→Prop} {req:Nat→Nat} {sc:Sc} {nm:List Str} {k:Nat}
variable (HN:NamesOK X) (HG:∀ lv f,f<k→req f≤lv→Contract X Φ f lv) {fI:Addr} (K:ErrOK X fI)
theorem pss_nil:PSsok X Φ req sc nm k []:=by
 intro A env L FS0 HS0 W lv s₀ HS oa ρ s sts Q sd hG hc x h
 rw [nil_of hc]
 exact wpAny_execs_nil ⟨_,HS,oa,_,h,x,rfl⟩
theorem pss_frz {i:Nat} {ps:List PS} (ihs:PSsok X Φ req sc nm k ps):PSsok X Φ req sc nm k (.frz i::ps):=by
 intro A env L FS0 HS0 W lv s₀ HS oa ρ s sts Q sd hG hc x h
 obtain ⟨xs,hx,h⟩:=atO_inv h
 exact ihs sd hG hc (x.frz hx) h
theorem chkSs_cons {fn:List Str} {p:PS} {ps:List PS} (hp:∀ i,p ≠ .frz i):chkSs fn sc nm (p::ps)=onC fun x r=>chkS fn sc nm p x && chkSs fn sc nm ps r:=by
 cases p <;> first |rfl |exact absurd rfl (hp _)
theorem pss_cons {p:PS} {ps:List PS} (hp:∀ i,p ≠ .frz i) (ihp:PSok X Φ req sc nm k p) (ihs:PSsok X Φ req sc nm k ps):PSsok X Φ req sc nm k (p::ps):=by
 intro A env L FS0 HS0 W lv s₀ HS oa ρ s sts Q sd hG hc x h
 rw [chkSs_cons hp] at hc
 obtain ⟨st,r,rfl,hc⟩:=onC_inv hc
 refine wpAny_execs_cons (wpAny_mono (ihp (Q:=sq (fun ρ'=>PS.wps Φ req k lv ps ρ' Q) Q) sd hG (and2 hc).1 x h) (fun f s₁ q=>q.use ?_ ?_ ?_) fun v s' e=>e.mono (Q:=sq (fun ρ'=>PS.wps Φ req k lv ps ρ' Q) Q) (Q':=Q) fun _ q=>q)
 ·rintro HS' oa' ρ' rfl ho x₁
  exact ihs sd hG (and2 hc).2 x₁ ho
 ·rintro HS' oa' ρ' rfl ho x₁
  exact ⟨_,HS',oa',_,ho,x₁,rfl⟩
 ·rintro HS' oa' ρ' d v rfl ho x₁ hf
  exact ⟨_,HS',oa',_,ho,x₁,hf⟩
theorem pss_any {p:PS} {ps:List PS} (ihp:PSok X Φ req sc nm k p) (ihs:PSsok X Φ req sc nm k ps):PSsok X Φ req sc nm k (p::ps):=by
 by_cases h:∃ i,p = .frz i
 ·obtain ⟨i,e⟩:=h
  rw [e];exact pss_frz ihs
 ·exact pss_cons (fun i q=>h ⟨i,q⟩) ihp ihs
include HN HG K in
mutual
theorem ps_ok:∀ (p:PS),PSok X Φ req sc nm k p
 | .asg i e=>ps_asg HN HG K.raised
 | .upk is e=>ps_upk HN HG K.raised
 | .upkT is es=>ps_upkT HN HG K.raised
 | .newO i=>ps_newO
 | .upkO i is es=>ps_upkO HN HG K.raised
 | .app i e=>ps_app HN HG K.raised
 | .aug i op e=>ps_aug HN HG K.raised
 | .ite t a b=>ps_ite HN HG K.raised (pss_ok a) (pss_ok b)
 | .whl t b=>ps_whl HN HG K.raised (pss_ok b)
 | .forS i e b=>ps_forS HN HG K.raised (pss_ok b)
 | .forL i e b=>ps_forL HN HG K.raised (pss_ok b)
 | .ret e=>ps_ret HN HG K.raised
 | .ret0=>ps_ret0
 | .rai m ec=>ps_rai HN HG K
 | .brk=>ps_brk
 | .tryR e i h=>ps_tryR HN HG K (pss_ok h)
 | .tryE e i h=>ps_tryE HN HG K (pss_ok h)
 | .frz i=>ps_frz
 | .exp e=>ps_exp HN HG K.raised
 | .sto t w e=>ps_sto HN HG K.raised
 | .forR i b=>ps_forR HN (pss_ok b)
theorem pss_ok:∀ (ps:List PS),PSsok X Φ req sc nm k ps
 | []=>pss_nil
 |p::ps=>pss_any (ps_ok p) (pss_ok ps)
end
structure DefOK (X:Cx) (f:Nat) (nm:List Str) (ps:List PS) (ar:Nat) (dfl:List PyData):Prop where
 fn:∃ fd b,FnAt X (X.fad f) fd b∧chkSs X.fn fd.scope.names nm ps b=true∧ar+dfl.length≤nm.length∧nm.Nodup∧(∀ x ∈ nm,fd.scope.names.lookup x=some .local) ∧
  ∀ s vs,X.B0.StaysIn s.heap→vs.length=ar→∃ vd,RdAll (fun b=>X.B0.get? b=none) X.B0 vd dfl∧BindsTo s fd ⟨vs,[]⟩ (nm.zip (vs++vd))
theorem zip_lookup:∀ {nm:List Str} {vs:List Value} {i:Nat} {x:Str} {v:Value},nm.Nodup→nm[i]?=some x→vs[i]?=some v→(nm.zip vs).reverse.lookup x=some v:=by
 intro nm
 induction nm with
 |nil=>intro vs i x v _ h;cases h
 |cons y nm ih=>
  intro vs i x v hnd h1 h2
  cases vs with
  |nil=>cases h2
  |cons w vs=>
   rw [List.nodup_cons] at hnd
   rw [List.zip_cons_cons,List.reverse_cons,List.lookup_append]
   cases i with
   |zero=>
    cases h1;cases h2
    have:(nm.zip vs).reverse.lookup y=none:=by
     rw [List.lookup_eq_none_iff]
     intro p hp
     have:=List.of_mem_zip (List.mem_reverse.mp hp)
     have hne:y≠p.1:=fun q=>hnd.1 (q▸this.1)
     simpa using hne
    rw [this]
    simp
   |succ i=>
    rw [ih hnd.2 h1 h2]
    rfl
theorem def_ok {f lv:Nat} {nm:List Str} {ps:List PS} {ar:Nat} {dfl:List PyData} (HN:NamesOK X) (HG:∀ lv g,g<f→req g≤lv→Contract X Φ g lv) {fI:Addr} (K:ErrOK X fI) (D:DefOK X f nm ps ar dfl) (hlv:lv≤2) (hl1:1≤lv)
  (hwp:∀ ds r,Φ f ds r→ds.length=ar∧PS.wps Φ req f lv ps (ini nm (ds++dfl)) (OutR r)):Contract X Φ f lv:=by
 intro A FS HS s vs ds r am hsf hsb hsn hdep huni rd hφ
 refine hid fun G hG=>?_
 obtain ⟨hlen,hw⟩:=hwp ds r hφ
 obtain ⟨fd,b,F,hc,har,hnd,hloc,hbind⟩:=D.fn
 have hvl:vs.length=ar:=by rw [rd.length,hlen]
 obtain ⟨vd,rdd,hb⟩:=hbind s vs am.base hvl
 have rdd':RdAll HS s.heap vd dfl:=rdd.mono (fun b o e _=>am.base b o e) fun b o e q=>hsn b q
 have rall:RdAll HS s.heap (vs++vd) (ds++dfl):=rd.append rdd'
 have hall:(ds++dfl).length≤nm.length:=by rw [List.length_append,hlen];exact har
 obtain ⟨l₀,hA,hfs,hfr⟩:=am.frs
 refine hG ?_
 refine call_fn F hb (fun x hx=>hloc x.1 (List.of_mem_zip hx).1) am.base ?_ fun h₀ hns hk=>?_
 ·have hr:recursionLimit=1000:=by decide+kernel
  rw [hr];exact linT fun q=>lin [_,_] [(1,0,.a (.v 0) (.a (.v 1) (.n 1)),.n 900),(1,0,.n 1000,.v 0)] rfl hdep q
 ·generalize hL:s.heap.objs.size=L at *
  have hLn:s.heap.get? L=none:=Heap.get?_none_of_le (by rw [hL];exact Nat.le_refl _)
  have hLB:X.B0.get? L=none:=by
   cases q:X.B0.get? L with
   |none=>rfl
   |some o=>rw [am.base _ _ q] at hLn;cases hLn
  have hLFS:L ∉ FS:=fun hm=>by
   refine hid fun G hG=>?_
   obtain ⟨_,m,o,_,_,ho,_⟩:=am.fsNs hm
   refine hG ?_
   rw [hLn] at ho;cases ho
  have hLHS:¬ HS L:=fun q=>by
   obtain ⟨o,ho⟩:=hsb L q
   rw [hLn] at ho;cases ho
  have evk:Ev FS s.heap h₀:=Ev.of_keeps hk
  have amb:Amb X (A.deeper (callEnv fd L (X.fad f))) (L::FS) lv h₀:=by
   refine ⟨fun b o e=>hk b o (am.base b o e),⟨callEnv fd L (X.fad f)::l₀,?_,?_,?_⟩,am.hand.1,(am.ev evk).hand.2.1,am.hand.2.2⟩
   ·show A.frames.map _=_;rw [hA];rfl
   ·rw [hfs];rfl
   ·intro env he
    rcases List.mem_cons.mp he with rfl |he
    ·exact ⟨F.kind,L,rfl,hLB,_,hns⟩
    ·refine hid fun G hG=>?_
     obtain ⟨k1,L',k2,k3,m,hm⟩:=hfr env he
     refine hG ?_
     exact ⟨k1,L',k2,k3,m,hm.keeps hk⟩
  have sd:Sd X (A.deeper (callEnv fd L (X.fad f))) (callEnv fd L (X.fad f)) L FS (fun b=>b ∈ FS) nm { s with heap:=s.heap }:=by
   refine ⟨⟨l₀,by show A.frames.map _=_;rw [hA];rfl⟩,rfl,fun b hb=>hb,.inr hLn,hLFS,hnd,fun e he=>?_⟩
   refine hid fun G hG=>?_
   obtain ⟨e',o,ws,q,ho,hd,_⟩:=am.hand.2.1 hl1 _ he
   refine hG ?_
   cases q
   exact ⟨o,ho,am.notFS ho fun es ep q=>by rw [hd] at q;cases q⟩
  have hpre:∀ i d,(ini nm (ds++dfl))[i]?=some (Val.d d)→(ds++dfl)[i]?=some d:=fun i d hi=>by
   unfold ini at hi
   rw [List.getElem?_append] at hi
   split at hi
   ·rw [List.getElem?_map] at hi
    cases q:(ds++dfl)[i]? with
    |none=>rw [q] at hi;cases hi
    |some d'=>rw [q] at hi;cases hi;rfl
   ·rw [List.getElem?_replicate] at hi
    split at hi <;> cases hi
  have hshape:∀ i v,(ini nm (ds++dfl))[i]?=some v→v=Val.un∨∃ d,v=Val.d d:=fun i v hi=>by
   unfold ini at hi
   rw [List.getElem?_append] at hi
   split at hi
   ·rw [List.getElem?_map] at hi
    cases q:(ds++dfl)[i]? with
    |none=>rw [q] at hi;cases hi
    |some d'=>rw [q] at hi;cases hi;exact .inr ⟨_,rfl⟩
   ·rw [List.getElem?_replicate] at hi
    split at hi <;> cases hi
    exact .inl rfl
  have st:St X (A.deeper (callEnv fd L (X.fad f))) (callEnv fd L (X.fad f)) L (L::FS) (fun b=>HS b∨b=L) fd.scope.names nm (fun _=>L) (ini nm (ds++dfl)) f lv h₀:=by
   refine ⟨amb,⟨F.kind,rfl,rfl,F.glob,F.bi,fun q=>absurd rfl (F.cell _ (lookup_mem q))⟩,⟨_,hns,fun i x hx=>?_⟩,by unfold ini;rw [List.length_append,List.length_map,List.length_replicate];exact linE (fun q=>lin [_,_,_] [(1,1,.a (.v 0) (.v 1),.v 2),(1,0,.a (.v 2) (.n 1),.a (.v 1) (.v 0))] rfl (Nat.sub_add_cancel (linL fun q=>lin [_,_] [(1,0,.v 0,.v 1),(1,0,.a (.v 1) (.n 1),.v 0)] rfl hall q)) q) fun q=>lin [_,_,_] [(1,2,.a (.v 0) (.v 1),.v 2),(1,0,.a (.a (.v 1) (.v 0)) (.n 1),.v 2)] rfl (Nat.sub_add_cancel (linL fun q=>lin [_,_] [(1,0,.v 0,.v 1),(1,0,.a (.v 1) (.n 1),.v 0)] rfl hall q)) q,fun b hb=>?_,fun b hb=>?_,.inr rfl,by show A.depth+1+f≤900;exact linL fun q=>lin [_,_] [(1,0,.a (.v 0) (.a (.v 1) (.n 1)),.n 900),(1,0,.a (.n 900) (.n 1),.a (.a (.v 0) (.n 1)) (.v 1))] rfl hdep q,by show A.units+3+8 * f+200≤9000;exact linL fun q=>lin [_,_] [(1,0,.a (.a (.v 0) (.s 8 (.a (.v 1) (.n 1)))) (.n 200),.n 9000),(1,0,.a (.n 9000) (.n 1),.a (.a (.a (.v 0) (.n 3)) (.s 8 (.v 1))) (.n 200))] rfl huni q,fun b hb=>?_⟩
   ·cases q:(ini nm (ds++dfl))[i]? with
    |none=>trivial
    |some v=>
     rcases hshape i v q with rfl |⟨d,rfl⟩
     ·trivial
     ·obtain ⟨v',hv',rv⟩:=rall.get (hpre i d q)
      refine ⟨v',zip_lookup hnd hx hv',rv.mono (fun b o e _=>hk b o e) fun b o e q=>?_⟩
      rcases q with q |rfl
      ·exact q
      ·rw [hLn] at e;cases e
   ·rcases List.mem_cons.mp hb with rfl |hb
    ·exact .inr rfl
    ·exact .inl (hsf b hb)
   ·rcases hb with hb |rfl
    ·obtain ⟨o,ho⟩:=hsb b hb;exact ⟨o,hk b o ho⟩
    ·obtain ⟨o,_,_,ho,_⟩:=hns;exact ⟨o,ho⟩
   ·rcases hb with hb |rfl
    ·exact hsn b hb
    ·exact hLB
  have x:Sx X (A.deeper (callEnv fd L (X.fad f))) (callEnv fd L (X.fad f)) L FS HS (fun b=>b ∈ FS) fd.scope.names nm f lv { s with heap:=s.heap } (fun b=>HS b∨b=L) (fun _=>L) (ini nm (ds++dfl)) { s with heap:=h₀,toks:=s.toks+(nm.zip (vs++vd)).length }:=by
   refine ⟨st,fun b hb => .inl hb,fun i ds' hi=>?_,⟨fun b o e _=>hk b o e,fun b hb m e=>e.keeps hk⟩,⟨rfl,rfl,rfl⟩,fun b hb=>?_⟩
   ·rcases hshape i _ hi with q |⟨_,q⟩ <;> cases q
   ·rcases hb with hb |hb
    ·exact .inl hb
    ·exact .inr (.inl hb)
  have rs:Rs X (A.deeper (callEnv fd L (X.fad f))) L FS (fun b=>b ∈ FS) lv { s with heap:=s.heap }:=by
   refine ⟨⟨fun b hb => .tail _ hb,fun b hb=>?_,am.base,am.hand,fun b o ws ho hd=>am.notFS ho fun es ep q=>by rw [hd] at q;cases q⟩,fun b hb=>hb,hLn⟩
   rcases List.mem_cons.mp hb with rfl |hb
   ·exact .inr hLn
   ·exact .inl hb
  refine wpAny_mono (pss_ok HN HG K ps sd (fun _ _=>rs) hc x hw) ?_ ?_
  ·rintro fl s' ⟨o,HS',oa',ρ',ho,x',hf⟩
   have ev:Ev FS s.heap s'.heap:=⟨fun b o e n=>x'.ek.keep b o e n,x'.ek.fr⟩
   cases o with
   |nxt ρ₂=>
    cases fl <;> try exact hf.elim
    obtain rfl:r = .ok .none:=ho
    exact ⟨.none,ev,x'.same⟩
   |brk ρ₂=>exact ho.elim
   |ret d=>
    cases fl <;> try exact hf.elim
    obtain rfl:r = .ok d:=ho
    exact ⟨hf,ev,x'.same⟩
   |exc e=>cases fl <;> exact hf.elim
  ·rintro v s' ⟨e,ex,rfl,ho,fx,z⟩
   obtain rfl:r = .exc ex:=ho
   obtain ⟨l,hl⟩:=sd.frames
   refine leaving_ok rs.gr hl sd.frame fx fun h' fx'=>?_
   refine ⟨e,rfl,?_,fx'.ev,⟨z.1,z.2,z.3⟩⟩
   refine hid fun G hG=>?_
   obtain ⟨f1,f2,d,sl,ws,f3,⟨f4,f5,f6⟩,q,f8,f9,f10,f11⟩:=fx'.fly
   refine hG ?_
   refine ⟨f1,fun hm=>f2 (.tail _ hm),d,sl,ws,f3,⟨f4,fun hm=>f5 (.tail _ hm),f6⟩,q,f8,f9,f10,f11.imp id ?_⟩
   rintro ⟨T,oT,ts,t1,t2,t3,t4,t5,t6,t7,t8⟩
   exact ⟨T,oT,ts,t1,t2,fun hm=>t3 (.tail _ hm),t4,t5,t6,t7,t8⟩
end
end Mine
end
section
open PySem PySem.W PyProof.Rows
namespace Mine
noncomputable def tabL:List (Option (List String × List PS × Nat × List PyData)):=
 [none,some (n_is_blank,b_is_blank,1,[]),some (n_digit,b_digit,1,[]),
  some (n_hex_sign,b_hex_sign,2,[]),some (n_octal_sign,b_octal_sign,2,[]),some (n_backslash,b_backslash,2,[]),
  some (n_is_gap,b_is_gap,1,[]),some (n_skip_gaps,b_skip_gaps,2,[]),none,
  some (n_skip_to_command,b_skip_to_command,2,[]),none,none,
  none,some (n_braces,b_braces,2,[]),some (n_parts_until,b_parts_until,3,[]),
  some (n_bare_stops,b_bare_stops,1,[]),some (n_is_expanded,b_is_expanded,2,[]),some (n_word,b_word,3,[]),
  some (n_command_at,b_command_at,2,[.bool false]),some (n_commands_of,b_commands_of,1,[]),some (n_plain_of,b_plain_of,1,[]),
  some (n_check_behind,b_check_behind,3,[]),some (n_braced_element,b_braced_element,2,[]),some (n_quoted_element,b_quoted_element,2,[]),
  some (n_bare_element,b_bare_element,2,[]),some (n_find_element,b_find_element,2,[]),some (n_split_list,b_split_list,1,[]),
  some (n_mode_of,b_mode_of,2,[]),some (n_escaped,b_escaped,2,[]),some (n_quote,b_quote,2,[]),
  some (n_join_list,b_join_list,1,[]),some (n_law_pieces,b_law_pieces,0,[]),some (n_law_told_texts,b_law_told_texts,0,[]),
  some (n_law_element,b_law_element,2,[]),some (n_law_word,b_law_word,2,[]),some (n_law_command,b_law_command,1,[]),
  some (n_law_list_fault,b_law_list_fault,2,[]),some (n_law_junk,b_law_junk,3,[]),some (n_law_due,b_law_due,2,[]),
  some (n_law_walked,b_law_walked,1,[]),some (n_law_is_command,b_law_is_command,2,[]),some (n_law_text_right,b_law_text_right,1,[])]
noncomputable def tabF (f:Nat):Option (List String × List PS × Nat × List PyData):=tabL.getD f none
theorem tabF_none {f:Nat} (h:42≤f):tabF f=none:=by
 unfold tabF
 rw [List.getD_eq_getElem?_getD,List.getElem?_eq_none (by exact h)];rfl
theorem con_none {X:Cx} {f lv:Nat} (h:∀ ds r,¬ Phi f ds r):Contract X Phi f lv:=fun A FS HS s vs ds r _ _ _ _ _ _ _ hφ=>absurd hφ (h ds r)
theorem con_hi {X:Cx} {Φ:Nat→List PyData→RR→Prop} {f lv:Nat} (h:¬ lv≤2):Contract X Φ f lv:=fun A FS HS s vs ds r am _ _ _ _ _ _ _=>absurd am.hand.2.2.2 h
theorem con_step {X:Cx} {fI:Addr} (HN:NamesOK X) (K:ErrOK X fI) (D:∀ f e,tabF f=some e→DefOK X f (nmS e.1) e.2.1 e.2.2.1 e.2.2.2):∀ (f lv:Nat) (HG:∀ lv g,g<f→reqF g≤lv→Contract X Phi g lv) (hr:reqF f≤lv) (hl2:lv≤2),Contract X Phi f lv:=fun f=>match f with
 |0=>fun lv HG hr hl2=>con_none fun ds r ⟨h⟩=>h
 |1=>fun lv HG hr hl2=>def_ok HN HG K (D 1 _ rfl) hl2 hr f1
 |2=>fun lv HG hr hl2=>def_ok HN HG K (D 2 _ rfl) hl2 hr f2
 |3=>fun lv HG hr hl2=>def_ok HN HG K (D 3 _ rfl) hl2 hr (f3 hr)
 |4=>fun lv HG hr hl2=>def_ok HN HG K (D 4 _ rfl) hl2 hr (f4 hr)
 |5=>fun lv HG hr hl2=>def_ok HN HG K (D 5 _ rfl) hl2 hr (f5 hr)
 |6=>fun lv HG hr hl2=>def_ok HN HG K (D 6 _ rfl) hl2 hr f6
 |7=>fun lv HG hr hl2=>def_ok HN HG K (D 7 _ rfl) hl2 hr (f7 hr)
 |8=>fun lv HG hr hl2=>con_none fun ds r ⟨h⟩=>h
 |9=>fun lv HG hr hl2=>def_ok HN HG K (D 9 _ rfl) hl2 hr (f9 hr)
 |10=>fun lv HG hr hl2=>con_none fun ds r ⟨h⟩=>h
 |11=>fun lv HG hr hl2=>con_none fun ds r ⟨h⟩=>h
 |12=>fun lv HG hr hl2=>con_none fun ds r ⟨h⟩=>h
 |13=>fun lv HG hr hl2=>def_ok HN HG K (D 13 _ rfl) hl2 hr (f13 hr)
 |14=>fun lv HG hr hl2=>def_ok HN HG K (D 14 _ rfl) hl2 hr (f14 hr)
 |15=>fun lv HG hr hl2=>def_ok HN HG K (D 15 _ rfl) hl2 hr f15
 |16=>fun lv HG hr hl2=>def_ok HN HG K (D 16 _ rfl) hl2 hr (f16 hr)
 |17=>fun lv HG hr hl2=>def_ok HN HG K (D 17 _ rfl) hl2 hr (f17 hr)
 |18=>fun lv HG hr hl2=>def_ok HN HG K (D 18 _ rfl) hl2 hr (f18 hr)
 |19=>fun lv HG hr hl2=>def_ok HN HG K (D 19 _ rfl) hl2 hr (f19 hr)
 |20=>fun lv HG hr hl2=>def_ok HN HG K (D 20 _ rfl) hl2 hr (f20 hr)
 |21=>fun lv HG hr hl2=>def_ok HN HG K (D 21 _ rfl) hl2 hr (f21 hr)
 |22=>fun lv HG hr hl2=>def_ok HN HG K (D 22 _ rfl) hl2 hr (f22 hr)
 |23=>fun lv HG hr hl2=>def_ok HN HG K (D 23 _ rfl) hl2 hr (f23 hr)
 |24=>fun lv HG hr hl2=>def_ok HN HG K (D 24 _ rfl) hl2 hr (f24 hr)
 |25=>fun lv HG hr hl2=>def_ok HN HG K (D 25 _ rfl) hl2 hr (f25 hr)
 |26=>fun lv HG hr hl2=>def_ok HN HG K (D 26 _ rfl) hl2 hr (f26 hr)
 |27=>fun lv HG hr hl2=>def_ok HN HG K (D 27 _ rfl) hl2 hr (f27 hr)
 |28=>fun lv HG hr hl2=>def_ok HN HG K (D 28 _ rfl) hl2 hr f28
 |29=>fun lv HG hr hl2=>by
  have e:lv=2:=Nat.le_antisymm hl2 hr
  subst e
  exact def_ok HN HG K (D 29 _ rfl) hl2 (by decide) f29
 |30=>fun lv HG hr hl2=>by
  have e:lv=2:=Nat.le_antisymm hl2 hr
  subst e
  exact def_ok HN HG K (D 30 _ rfl) hl2 (by decide) f30
 |31=>fun lv HG hr hl2=>def_ok HN HG K (D 31 _ rfl) hl2 hr f31
 |32=>fun lv HG hr hl2=>def_ok HN HG K (D 32 _ rfl) hl2 hr f32
 |33=>fun lv HG hr hl2=>def_ok HN HG K (D 33 _ rfl) hl2 hr (f33 hr hl2)
 |34=>fun lv HG hr hl2=>def_ok HN HG K (D 34 _ rfl) hl2 hr (f34 hr hl2)
 |35=>fun lv HG hr hl2=>def_ok HN HG K (D 35 _ rfl) hl2 hr (f35 hr hl2)
 |36=>fun lv HG hr hl2=>def_ok HN HG K (D 36 _ rfl) hl2 hr f36
 |37=>fun lv HG hr hl2=>def_ok HN HG K (D 37 _ rfl) hl2 hr (f37 hr)
 |38=>fun lv HG hr hl2=>def_ok HN HG K (D 38 _ rfl) hl2 hr (f38 hr)
 |39=>fun lv HG hr hl2=>def_ok HN HG K (D 39 _ rfl) hl2 hr (f39 hr)
 |40=>fun lv HG hr hl2=>def_ok HN HG K (D 40 _ rfl) hl2 hr (f40 hr)
 |41=>fun lv HG hr hl2=>by
  have e:lv=2:=Nat.le_antisymm hl2 hr
  subst e
  exact def_ok HN HG K (D 41 _ rfl) hl2 (by decide) f41
 |f+42=>fun lv HG hr hl2=>con_none fun ds r ⟨h⟩=>h
theorem contracts {X:Cx} {fI:Addr} (HN:NamesOK X) (K:ErrOK X fI) (D:∀ f e,tabF f=some e→DefOK X f (nmS e.1) e.2.1 e.2.2.1 e.2.2.2) (f:Nat):∀ lv,reqF f≤lv→Contract X Phi f lv:=by
 induction f using Nat.strongRecOn with
 |_ f ih=>
  intro lv hr
  by_cases hl2:lv≤2
  ·exact con_step HN K D f lv (fun lv g hg hr=>ih g hg lv hr) hr hl2
  ·exact con_hi hl2
end Mine
end
section
open PySem PySem.W PyProof.Rows
set_option maxRecDepth 100000
namespace Mine
noncomputable def dataFn:Data→FuncData
 | .func fd=>fd
 |_=>default
noncomputable def fdOf (K:Frag) (a:Addr):FuncData:=match K.lookup a with
 |some o=>dataFn o.data
 |none=>default
noncomputable def fnm:List Str:=(["error","is_blank","digit","hex_sign","octal_sign","backslash","is_gap","skip_gaps","comment_behind","skip_to_command","read_name","variable","brackets","braces","parts_until","bare_stops","is_expanded","word","command_at","commands_of","plain_of","check_behind","braced_element","quoted_element","bare_element","find_element","split_list","mode_of","escaped","quote","join_list","_law_pieces","_law_told_texts","_law_element","_law_word","_law_command","_law_list_fault","_law_junk","_law_due","_law_walked","_law_is_command","_law_text_right"]:List String).map (Str.ofString ·)
noncomputable def adr:List Nat:=[45,52,59,66,73,80,87,94,101,108,115,122,129,136,143,150,157,164,172,179,186,193,200,207,214,221,228,235,242,250,257,264,271,278,285,292,299,306,313,320,325,330]
noncomputable def onFn (F:FuncData→Bool):Data→Bool
 | .func fd=>F fd
 |_=>false
theorem onFn_inv {F:FuncData→Bool} {d:Data} (h:onFn F d=true):∃ fd,d = .func fd∧F fd=true:=by
 cases d <;> first |exact ⟨_,rfl,h⟩ |cases h
noncomputable def stOf:FuncBody→List Stmt
 | .stmts b=>b
 |_=>[]
noncomputable def isSts:FuncBody→Bool
 | .stmts _=>true
 |_=>false
theorem isSts_eq {b:FuncBody} (h:isSts b=true):b = .stmts (stOf b):=by cases b <;> first |rfl |cases h
noncomputable def bodyOf (fd:FuncData):List Stmt:=stOf fd.body
noncomputable def fdB (K:Frag) (a:Addr):Bool:=onO (fun o=>o.cls == .type "function" && (o.dict.isNone && (o.slots.size == 0 && onFn (fun fd=>codeIn K fd.code fd.qualname && (isSts fd.body && (fd.scope.kind == .function && (!fd.scope.isCoroutine && (!fd.scope.isGenerator && (fd.scope.names.all (fun y=>y.2 != .cell) && (fd.globals == mainGlobals && fd.builtins == builtinsNs))))))) o.data))) (K.lookup a)
theorem fnAt_of {X:Cx} {K:Frag} (hK:X.K=K) {a:Addr} (h:fdB K a=true):FnAt X a (fdOf K a) (bodyOf (fdOf K a)):=by
 refine hid fun G hG=>?_
 obtain ⟨o,ho,h⟩:=onO_inv h
 obtain ⟨q1,h⟩:=and2 h
 obtain ⟨q2,h⟩:=and2 h
 obtain ⟨q3,h⟩:=and2 h
 obtain ⟨fd,hd,h⟩:=onFn_inv h
 refine hG ?_
 have e:fdOf K a=fd:=by unfold fdOf;rw [ho];exact congrArg dataFn hd
 rw [e]
 refine hid fun G hG=>?_
 obtain ⟨h2,h⟩:=and2 h
 obtain ⟨h3,h⟩:=and2 h
 obtain ⟨h4,h⟩:=and2 h
 obtain ⟨h5,h⟩:=and2 h
 obtain ⟨h6,h⟩:=and2 h
 obtain ⟨h7,h⟩:=and2 h
 refine hG ?_
 have ki:=X.ki
 rw [hK] at ki
 have o':=ki _ _ ho
 rw [obj_eq (eq_of_beq q1) (none_of q2) hd (Array.size_eq_zero_iff.mp (eq_of_beq q3))] at o'
 exact ⟨o',codeRec_of ki h2,isSts_eq h3,eq_of_beq h4,(Bool.not_eq_true' _).mp h5,(Bool.not_eq_true' _).mp h6,fun x hx=>bne_iff_ne.mp (List.all_eq_true.mp h7 x hx),eq_of_beq (and2 h).1,eq_of_beq (and2 h).2⟩
noncomputable def nmB (fd:FuncData) (nm:List Str) (n:Nat):Bool:=decide (n≤nm.length) && (decide nm.Nodup && nm.all fun x=>fd.scope.names.lookup x == some .local)
theorem defOK_of {X:Cx} {K:Frag} {a:Addr} {f ar:Nat} {nm:List Str} {ps:List PS} {dfl:List PyData} (hK:X.K=K) (hfn:X.fn=fnm) (ha:X.fad f=a) (h1:fdB K a=true) (h2:chkSs fnm (fdOf K a).scope.names nm ps (bodyOf (fdOf K a))=true) (h3:nmB (fdOf K a) nm (ar+dfl.length)=true)
  (h4:∀ s vs,X.B0.StaysIn s.heap→vs.length=ar→∃ vd,RdAll (fun b=>X.B0.get? b=none) X.B0 vd dfl∧BindsTo s (fdOf K a) ⟨vs,[]⟩ (nm.zip (vs++vd))):DefOK X f nm ps ar dfl:=
 ⟨_,_,by rw [ha];exact fnAt_of hK h1,by rw [hfn];exact h2,of_decide_eq_true (and2 h3).1,of_decide_eq_true (and2 (and2 h3).2).1,fun x hx=>eq_of_beq (List.all_eq_true.mp (and2 (and2 h3).2).2 x hx),h4⟩
noncomputable def prmB (p:Arguments) (ns:List Str):Bool:=p.posonlyargs.isEmpty && (p.vararg.isNone && (p.kwonlyargs.isEmpty && (p.kwarg.isNone && p.args.map (·.arg) == ns)))
noncomputable def mkP (q:Str) (p:Arguments) (d kd:Value):FuncData:={ (default:FuncData) with qualname:=q,params:=p,defaults:=d,kwdefaults:=kd }
noncomputable def mkN (q:Str) (as:List Arg) (k0:List (Option Expr)) (ds:List Expr) (d kd:Value):FuncData:=mkP q ⟨[],as,none,[],k0,none,ds⟩ d kd
theorem prm_of {fd:FuncData} {ns:List Str} (h:prmB fd.params ns=true):∃ as k0 ds,as.map (·.arg)=ns∧∀ args,bindArgs fd args=bindArgs (mkN fd.qualname as k0 ds fd.defaults fd.kwdefaults) args:=by
 have go:∀ p:Arguments,prmB p ns=true→∃ as k0 ds,as.map (·.arg)=ns∧p=⟨[],as,none,[],k0,none,ds⟩:=fun ⟨a,b,c,d,e,f,g⟩ h=>by
  have h1:=and2 h
  have h2:=and2 h1.2
  have h3:=and2 h2.2
  have h4:=and2 h3.2
  exact ⟨b,e,g,eq_of_beq h4.2,by rw [show a=[] from nil_of h1.1,show c=none from none_of h2.1,show d=[] from nil_of h3.1,show f=none from none_of h4.1]⟩
 refine hid fun G hG=>?_
 obtain ⟨as,k0,ds,e,e'⟩:=go _ h
 refine hG ?_
 refine ⟨as,k0,ds,e,fun args=>?_⟩
 show bindArgs (mkP fd.qualname fd.params fd.defaults fd.kwdefaults) args=_
 rw [e']
 rfl
theorem mac {as:List Arg} {x:Str} {ns:List Str} (h:as.map (·.arg)=x::ns):∃ a p r,as=⟨x,a,p⟩::r∧r.map (·.arg)=ns:=by
 cases as with
 |nil=>cases h
 |cons b r=>
  obtain ⟨y,a,p⟩:=b
  cases h
  exact ⟨a,p,r,rfl,rfl⟩
noncomputable def Bds (ns:List Str):Prop:=∀ (q:Str) (as:List Arg) (k0:List (Option Expr)) (ds:List Expr) (kd:Value) (vs:List Value),as.map (·.arg)=ns→vs.length=ns.length→bindArgs (mkN q as k0 ds .none kd) ⟨vs,[]⟩=pure (ns.zip vs)
theorem bd0:Bds [Str.ofString "c"]:=fun q as k0 ds kd vs h hl=>by
 refine hid fun G hG=>?_
 obtain ⟨a0,p0,as0,e0,h0⟩:=mac h
 obtain ⟨v0,vs0,f0,l0⟩:=lenS hl
 refine hG ?_
 rw [e0,f0,List.map_eq_nil_iff.mp h0,len0 l0]
 rfl
theorem bd1:Bds [Str.ofString "text",Str.ofString "at"]:=fun q as k0 ds kd vs h hl=>by
 refine hid fun G hG=>?_
 obtain ⟨a0,p0,as0,e0,h0⟩:=mac h
 obtain ⟨v0,vs0,f0,l0⟩:=lenS hl
 obtain ⟨a1,p1,as1,e1,h1⟩:=mac h0
 obtain ⟨v1,vs1,f1,l1⟩:=lenS l0
 refine hG ?_
 rw [e0,f0,e1,f1,List.map_eq_nil_iff.mp h1,len0 l1]
 rfl
theorem bd2:Bds [Str.ofString "text",Str.ofString "at",Str.ofString "stops"]:=fun q as k0 ds kd vs h hl=>by
 refine hid fun G hG=>?_
 obtain ⟨a0,p0,as0,e0,h0⟩:=mac h
 obtain ⟨v0,vs0,f0,l0⟩:=lenS hl
 obtain ⟨a1,p1,as1,e1,h1⟩:=mac h0
 obtain ⟨v1,vs1,f1,l1⟩:=lenS l0
 obtain ⟨a2,p2,as2,e2,h2⟩:=mac h1
 obtain ⟨v2,vs2,f2,l2⟩:=lenS l1
 refine hG ?_
 rw [e0,f0,e1,f1,e2,f2,List.map_eq_nil_iff.mp h2,len0 l2]
 rfl
theorem bd3:Bds [Str.ofString "is_nested"]:=fun q as k0 ds kd vs h hl=>by
 refine hid fun G hG=>?_
 obtain ⟨a0,p0,as0,e0,h0⟩:=mac h
 obtain ⟨v0,vs0,f0,l0⟩:=lenS hl
 refine hG ?_
 rw [e0,f0,List.map_eq_nil_iff.mp h0,len0 l0]
 rfl
theorem bd4:Bds [Str.ofString "text",Str.ofString "at",Str.ofString "is_nested"]:=fun q as k0 ds kd vs h hl=>by
 refine hid fun G hG=>?_
 obtain ⟨a0,p0,as0,e0,h0⟩:=mac h
 obtain ⟨v0,vs0,f0,l0⟩:=lenS hl
 obtain ⟨a1,p1,as1,e1,h1⟩:=mac h0
 obtain ⟨v1,vs1,f1,l1⟩:=lenS l0
 obtain ⟨a2,p2,as2,e2,h2⟩:=mac h1
 obtain ⟨v2,vs2,f2,l2⟩:=lenS l1
 refine hG ?_
 rw [e0,f0,e1,f1,e2,f2,List.map_eq_nil_iff.mp h2,len0 l2]
 rfl
theorem bd5:Bds [Str.ofString "text"]:=fun q as k0 ds kd vs h hl=>by
 refine hid fun G hG=>?_
 obtain ⟨a0,p0,as0,e0,h0⟩:=mac h
 obtain ⟨v0,vs0,f0,l0⟩:=lenS hl
 refine hG ?_
 rw [e0,f0,List.map_eq_nil_iff.mp h0,len0 l0]
 rfl
theorem bd6:Bds [Str.ofString "found"]:=fun q as k0 ds kd vs h hl=>by
 refine hid fun G hG=>?_
 obtain ⟨a0,p0,as0,e0,h0⟩:=mac h
 obtain ⟨v0,vs0,f0,l0⟩:=lenS hl
 refine hG ?_
 rw [e0,f0,List.map_eq_nil_iff.mp h0,len0 l0]
 rfl
theorem bd7:Bds [Str.ofString "text",Str.ofString "at",Str.ofString "what"]:=fun q as k0 ds kd vs h hl=>by
 refine hid fun G hG=>?_
 obtain ⟨a0,p0,as0,e0,h0⟩:=mac h
 obtain ⟨v0,vs0,f0,l0⟩:=lenS hl
 obtain ⟨a1,p1,as1,e1,h1⟩:=mac h0
 obtain ⟨v1,vs1,f1,l1⟩:=lenS l0
 obtain ⟨a2,p2,as2,e2,h2⟩:=mac h1
 obtain ⟨v2,vs2,f2,l2⟩:=lenS l1
 refine hG ?_
 rw [e0,f0,e1,f1,e2,f2,List.map_eq_nil_iff.mp h2,len0 l2]
 rfl
theorem bd8:Bds [Str.ofString "text",Str.ofString "first"]:=fun q as k0 ds kd vs h hl=>by
 refine hid fun G hG=>?_
 obtain ⟨a0,p0,as0,e0,h0⟩:=mac h
 obtain ⟨v0,vs0,f0,l0⟩:=lenS hl
 obtain ⟨a1,p1,as1,e1,h1⟩:=mac h0
 obtain ⟨v1,vs1,f1,l1⟩:=lenS l0
 refine hG ?_
 rw [e0,f0,e1,f1,List.map_eq_nil_iff.mp h1,len0 l1]
 rfl
theorem bd9:Bds [Str.ofString "element",Str.ofString "is_hash"]:=fun q as k0 ds kd vs h hl=>by
 refine hid fun G hG=>?_
 obtain ⟨a0,p0,as0,e0,h0⟩:=mac h
 obtain ⟨v0,vs0,f0,l0⟩:=lenS hl
 obtain ⟨a1,p1,as1,e1,h1⟩:=mac h0
 obtain ⟨v1,vs1,f1,l1⟩:=lenS l0
 refine hG ?_
 rw [e0,f0,e1,f1,List.map_eq_nil_iff.mp h1,len0 l1]
 rfl
theorem bd10:Bds [Str.ofString "c",Str.ofString "is_deep"]:=fun q as k0 ds kd vs h hl=>by
 refine hid fun G hG=>?_
 obtain ⟨a0,p0,as0,e0,h0⟩:=mac h
 obtain ⟨v0,vs0,f0,l0⟩:=lenS hl
 obtain ⟨a1,p1,as1,e1,h1⟩:=mac h0
 obtain ⟨v1,vs1,f1,l1⟩:=lenS l0
 refine hG ?_
 rw [e0,f0,e1,f1,List.map_eq_nil_iff.mp h1,len0 l1]
 rfl
theorem bd11:Bds [Str.ofString "items"]:=fun q as k0 ds kd vs h hl=>by
 refine hid fun G hG=>?_
 obtain ⟨a0,p0,as0,e0,h0⟩:=mac h
 obtain ⟨v0,vs0,f0,l0⟩:=lenS hl
 refine hG ?_
 rw [e0,f0,List.map_eq_nil_iff.mp h0,len0 l0]
 rfl
theorem bd12:Bds []:=fun q as k0 ds kd vs h hl=>by
 rw [List.map_eq_nil_iff.mp h,len0 hl]
 rfl
theorem bd13:Bds [Str.ofString "why",Str.ofString "sort"]:=fun q as k0 ds kd vs h hl=>by
 refine hid fun G hG=>?_
 obtain ⟨a0,p0,as0,e0,h0⟩:=mac h
 obtain ⟨v0,vs0,f0,l0⟩:=lenS hl
 obtain ⟨a1,p1,as1,e1,h1⟩:=mac h0
 obtain ⟨v1,vs1,f1,l1⟩:=lenS l0
 refine hG ?_
 rw [e0,f0,e1,f1,List.map_eq_nil_iff.mp h1,len0 l1]
 rfl
theorem bd14:Bds [Str.ofString "text",Str.ofString "behind",Str.ofString "what"]:=fun q as k0 ds kd vs h hl=>by
 refine hid fun G hG=>?_
 obtain ⟨a0,p0,as0,e0,h0⟩:=mac h
 obtain ⟨v0,vs0,f0,l0⟩:=lenS hl
 obtain ⟨a1,p1,as1,e1,h1⟩:=mac h0
 obtain ⟨v1,vs1,f1,l1⟩:=lenS l0
 obtain ⟨a2,p2,as2,e2,h2⟩:=mac h1
 obtain ⟨v2,vs2,f2,l2⟩:=lenS l1
 refine hG ?_
 rw [e0,f0,e1,f1,e2,f2,List.map_eq_nil_iff.mp h2,len0 l2]
 rfl
theorem bd15:Bds [Str.ofString "text",Str.ofString "items"]:=fun q as k0 ds kd vs h hl=>by
 refine hid fun G hG=>?_
 obtain ⟨a0,p0,as0,e0,h0⟩:=mac h
 obtain ⟨v0,vs0,f0,l0⟩:=lenS hl
 obtain ⟨a1,p1,as1,e1,h1⟩:=mac h0
 obtain ⟨v1,vs1,f1,l1⟩:=lenS l0
 refine hG ?_
 rw [e0,f0,e1,f1,List.map_eq_nil_iff.mp h1,len0 l1]
 rfl
noncomputable def known:List (List Str):=[[Str.ofString "c"],[Str.ofString "text",Str.ofString "at"],[Str.ofString "text",Str.ofString "at",Str.ofString "stops"],[Str.ofString "is_nested"],[Str.ofString "text",Str.ofString "at",Str.ofString "is_nested"],[Str.ofString "text"],[Str.ofString "found"],[Str.ofString "text",Str.ofString "at",Str.ofString "what"],[Str.ofString "text",Str.ofString "first"],[Str.ofString "element",Str.ofString "is_hash"],[Str.ofString "c",Str.ofString "is_deep"],[Str.ofString "items"],[],[Str.ofString "why",Str.ofString "sort"],[Str.ofString "text",Str.ofString "behind",Str.ofString "what"],[Str.ofString "text",Str.ofString "items"]]
theorem known_ok:∀ ns ∈ known,Bds ns:=List.forall_mem_cons.mpr ⟨bd0,List.forall_mem_cons.mpr ⟨bd1,List.forall_mem_cons.mpr ⟨bd2,List.forall_mem_cons.mpr ⟨bd3,List.forall_mem_cons.mpr ⟨bd4,List.forall_mem_cons.mpr ⟨bd5,List.forall_mem_cons.mpr ⟨bd6,List.forall_mem_cons.mpr ⟨bd7,List.forall_mem_cons.mpr ⟨bd8,List.forall_mem_cons.mpr ⟨bd9,List.forall_mem_cons.mpr ⟨bd10,List.forall_mem_cons.mpr ⟨bd11,List.forall_mem_cons.mpr ⟨bd12,List.forall_mem_cons.mpr ⟨bd13,List.forall_mem_cons.mpr ⟨bd14,List.forall_mem_cons.mpr ⟨bd15,fun _ h=>nomatch h⟩⟩⟩⟩⟩⟩⟩⟩⟩⟩⟩⟩⟩⟩⟩⟩
theorem bind_plain {fd:FuncData} {ns:List Str} {vs:List Value} (h:prmB fd.params ns=true) (hd:fd.defaults = .none) (hk:known.contains ns=true) (hl:vs.length=ns.length):bindArgs fd ⟨vs,[]⟩=pure (ns.zip vs):=by
 refine hid fun G hG=>?_
 obtain ⟨as,k0,ds,e,e'⟩:=prm_of h
 refine hG ?_
 rw [e',hd]
 exact known_ok ns (List.contains_iff_mem.mp hk) _ _ _ _ _ _ e hl
theorem bt_dfl2 {fd:FuncData} {s:Shared} {T:Addr} {o:Obj} {w:Value} {n:Nat} {v0 v1:Value} (hp:prmB fd.params [Str.ofString "text",Str.ofString "errorcode"]=true) (hd:fd.defaults = .ref T) (ho:s.heap.get? T=some o) (hs:o.data = .seq #[w] n) :
  BindsTo s fd ⟨[v0,v1],[]⟩ [(Str.ofString "text",v0),(Str.ofString "errorcode",v1)]:=by
 refine hid fun G hG=>?_
 obtain ⟨as,k0,ds,h,e'⟩:=prm_of hp
 obtain ⟨a0,p0,as0,e0,h0⟩:=mac h
 obtain ⟨a1,p1,as1,e1,h1⟩:=mac h0
 refine hG ?_
 rw [e0,e1,List.map_eq_nil_iff.mp h1] at e'
 exact BindsTo.of_defaults hd ho hs (e' _) rfl
theorem bt_dfl1 {fd:FuncData} {s:Shared} {T:Addr} {o:Obj} {w:Value} {n:Nat} {v0:Value} (hp:prmB fd.params [Str.ofString "text",Str.ofString "errorcode"]=true) (hd:fd.defaults = .ref T) (ho:s.heap.get? T=some o) (hs:o.data = .seq #[w] n) :
  BindsTo s fd ⟨[v0],[]⟩ [(Str.ofString "text",v0),(Str.ofString "errorcode",w)]:=by
 refine hid fun G hG=>?_
 obtain ⟨as,k0,ds,h,e'⟩:=prm_of hp
 obtain ⟨a0,p0,as0,e0,h0⟩:=mac h
 obtain ⟨a1,p1,as1,e1,h1⟩:=mac h0
 refine hG ?_
 rw [e0,e1,List.map_eq_nil_iff.mp h1] at e'
 exact BindsTo.of_defaults hd ho hs (e' _) rfl
theorem bt_quote {fd:FuncData} {s:Shared} {T:Addr} {o:Obj} {w:Value} {n:Nat} {v0 v1:Value} (hp:prmB fd.params [Str.ofString "element",Str.ofString "is_hash"]=true) (hd:fd.defaults = .ref T) (ho:s.heap.get? T=some o) (hs:o.data = .seq #[w] n) :
  BindsTo s fd ⟨[v0,v1],[]⟩ [(Str.ofString "element",v0),(Str.ofString "is_hash",v1)]:=by
 refine hid fun G hG=>?_
 obtain ⟨as,k0,ds,h,e'⟩:=prm_of hp
 obtain ⟨a0,p0,as0,e0,h0⟩:=mac h
 obtain ⟨a1,p1,as1,e1,h1⟩:=mac h0
 refine hG ?_
 rw [e0,e1,List.map_eq_nil_iff.mp h1] at e'
 exact BindsTo.of_defaults hd ho hs (e' _) rfl
theorem bt_cmd {fd:FuncData} {s:Shared} {T:Addr} {o:Obj} {w:Value} {n:Nat} {v0 v1:Value} (hp:prmB fd.params [Str.ofString "text",Str.ofString "at",Str.ofString "is_nested"]=true) (hd:fd.defaults = .ref T) (ho:s.heap.get? T=some o) (hs:o.data = .seq #[w] n) :
  BindsTo s fd ⟨[v0,v1],[]⟩ [(Str.ofString "text",v0),(Str.ofString "at",v1),(Str.ofString "is_nested",w)]:=by
 refine hid fun G hG=>?_
 obtain ⟨as,k0,ds,h,e'⟩:=prm_of hp
 obtain ⟨a0,p0,as0,e0,h0⟩:=mac h
 obtain ⟨a1,p1,as1,e1,h1⟩:=mac h0
 obtain ⟨a2,p2,as2,e2,h2⟩:=mac h1
 refine hG ?_
 rw [e0,e1,e2,List.map_eq_nil_iff.mp h2] at e'
 exact BindsTo.of_defaults hd ho hs (e' _) rfl
theorem bt_init {fd:FuncData} {s:Shared} {T:Addr} {o:Obj} {w0 w1 w2:Value} {n:Nat} {v0 v1 v2 v3:Value} (hp:prmB fd.params [Str.ofString "self",Str.ofString "code",Str.ofString "value",Str.ofString "errorcode",Str.ofString "level",Str.ofString "ret"]=true) (hd:fd.defaults = .ref T) (ho:s.heap.get? T=some o) (hs:o.data = .seq #[w0,w1,w2] n) :
  BindsTo s fd ⟨[v0,v1,v2,v3],[]⟩ [(Str.ofString "self",v0),(Str.ofString "code",v1),(Str.ofString "value",v2),(Str.ofString "errorcode",v3),(Str.ofString "level",w1),(Str.ofString "ret",w2)]:=by
 refine hid fun G hG=>?_
 obtain ⟨as,k0,ds,h,e'⟩:=prm_of hp
 obtain ⟨a0,p0,as0,e0,h0⟩:=mac h
 obtain ⟨a1,p1,as1,e1,h1⟩:=mac h0
 obtain ⟨a2,p2,as2,e2,h2⟩:=mac h1
 obtain ⟨a3,p3,as3,e3,h3⟩:=mac h2
 obtain ⟨a4,p4,as4,e4,h4⟩:=mac h3
 obtain ⟨a5,p5,as5,e5,h5⟩:=mac h4
 refine hG ?_
 rw [e0,e1,e2,e3,e4,e5,List.map_eq_nil_iff.mp h5] at e'
 exact BindsTo.of_defaults hd ho hs (e' _) rfl
end Mine
end
section
open PySem PySem.W PyProof.Rows
set_option maxRecDepth 100000
namespace Mine
noncomputable def turn_law:List PS:=
 [.upkT [3,4] [.bin .fmod (.bin .fdiv (.v 2) (.k (.int 32))) (.k (.int 8)),.pcs (.bin .fmod (.v 2) (.k (.int 32)))],
  .asg 5 (.idxO 1 (.v 3)),
  .asg 6 (.bin .fmod (.bin .fdiv (.v 2) (.k (.int 256))) (.bin .add (.len (.v 5)) (.k (.int 1)))),
  .asg 7 (.ife (.cmp .NotEq (.v 4) (.k (.str (S [])))) (.v 6) (.bin .add (.v 6) (.k (.int 1)))),
  .sto 1 3 (.bin .add (.bin .add (.sl (.v 5) none (some (.v 6))) (.v 4)) (.sl (.v 5) (some (.v 7)) none))]
noncomputable def turn_more:List PS:=[.app 1 (.join (.k (.str (S []))) (.cmpP (.sl (.v 0) (some (.v 6)) (some (.bin .add (.v 6) (.k (.int 14)))))))]
noncomputable def turn_ask:List PS:=[.ite (.not (.call 41 [.v 8])) [.ret (.k (.bool false))] []]
noncomputable def b_law:List PS:=
 [.forL 2 (.sl (.v 0) none (some (.k (.int 7)))) turn_law,
  .forR 6 turn_more,
  .frz 1,
  .forL 8 (.v 1) turn_ask,
  .ret (.k (.bool true))]
noncomputable def n_law:List String:=["script","texts","x","which","piece","old","first","behind","text"]
section
variable {Φ:Nat→List PyData→RR→Prop} {req:Nat→Nat} {k lv:Nat} {ρ:Loc} {Q:Out→Prop} {P:PyData→Prop} {E:Exc→Prop}
theorem e_pcs {e:PE}:EW Φ req k lv (.pcs e) ρ P E=EW Φ req k lv e ρ (fun d=>Fz intP (fun i=>GD (0≤i) (OX pieces[i.toNat]? fun t=>P (.str (S t)))) d) E:=congrArg (fun f=>PE.wp Φ req k lv e ρ (intP f) E) (funext fun i=>np_eq)
theorem e_cmpP {e:PE}:EW Φ req k lv (.cmpP e) ρ P E=GD (lv=2) (EW Φ req k lv e ρ (fun d=>Fz listP (fun xs=>GD (xs.length≤lim) (∃ ns:List Int,xs=ns.map PyData.int∧P (.list (ns.map fun n => .str (S (pcOf n)))))) d) E):=rfl
theorem e_idxO {i:Nat} {a:PE}:EW Φ req k lv (.idxO i a) ρ P E=AO ρ[i]? fun ds=>EW Φ req k lv a ρ (fun y=>IW (.list ds) y P) E:=rfl
theorem e_sl0 {a h:PE}:EW Φ req k lv (.sl a none (some h)) ρ P E=EW Φ req k lv a ρ (fun x=>EW Φ req k lv h ρ (fun z=>SLW x none (some z) P) E) E:=rfl
theorem w_sto {t w:Nat} {e:PE}:S1 Φ req k lv (.sto t w e) ρ Q=AO ρ[t]? fun xs=>AD ρ[w]? fun d=>Fz intP (fun i=>NP i fun n=>EW Φ req k lv e ρ (fun d=>GD (n<xs.length) (GD (xs.length≤lim) (Q (.nxt (ρ.set t (.own (xs.set n d))))))) fun x=>Q (.exc x)) d:=rfl
theorem w_forR {i:Nat} {b:List PS}:S1 Φ req k lv (.forR i b) ρ Q=GD (lv=2) (FW Φ req k lv i b Q [.int 7,.int 21,.int 35,.int 49] ρ):=rfl
theorem i_li {a:List PyData} {i:Int}:IW (.list a) (.int i) P=GD (0≤i) (GD (i.toNat<lim) (OX a[i.toNat]? P)):=np_eq
theorem sl_s0 {a:List Nat} {j:Int}:SLW (.str (S a)) none (some (.int j)) P=GD (0≤j) (GD (a.length≤lim) (P (.str (S (a.take j.toNat))))):=np_eq (F:=fun n=>a.length≤lim∧P (.str (S (a.take n))))
theorem sl_s1 {a:List Nat} {i:Int}:SLW (.str (S a)) (some (.int i)) none P=GD (0≤i) (GD (a.length≤lim) (P (.str (S (a.drop i.toNat))))):=np_eq
theorem sl_l0 {a:List PyData} {j:Int}:SLW (.list a) none (some (.int j)) P=GD (0≤j) (GD (a.length≤lim) (P (.list (a.take j.toNat)))):=np_eq (F:=fun n=>a.length≤lim∧P (.list (a.take n)))
theorem sl_l2 {a:List PyData} {i j:Int}:SLW (.list a) (some (.int i)) (some (.int j)) P=GD (0≤i) (GD (0≤j) (GD (a.length≤lim) (P (.list ((a.drop i.toNat).take (j.toNat - i.toNat)))))):=(np_eq (F:=fun n=>natP j fun m=>a.length≤lim∧P (.list ((a.drop n).take (m - n))))).trans (congrArg (0≤i ∧ ·) np_eq)
theorem d_i {a b:Int}:BW .fdiv (.int a) (.int b) P=GD (0<b) (GD (b≤2 ^ 20) (P (.int (a.fdiv b)))):=rfl
theorem f_i {a b:Int}:BW .fmod (.int a) (.int b) P=GD (0<b) (GD (b≤2 ^ 21) (P (.int (a.fmod b)))):=rfl
end
noncomputable def okT (m:Nat) (t:List Nat):Prop:=t.length≤m∧t.all okC=true
theorem pc_ok (n:Int):okT 4 (pcOf n):=by
 have h:∀ t ∈ pieces,okT 4 t:=by unfold okT;decide+kernel
 refine h _ ?_
 have:=pc_some n
 exact List.mem_of_getElem? this
theorem told_ok:∀ t ∈ told,okT 100 t:=by unfold okT;decide+kernel
theorem okT_turn {m n i j:Nat} {t p:List Nat} (h1:okT m t) (h2:okT n p) (hij:i≤j):okT (m+n) (t.take i++p++t.drop j):=by
 refine ⟨?_,?_⟩
 ·have:=h1.1
  have:=h2.1
  rw [List.length_append,List.length_append,List.length_take,List.length_drop]
  omega
 ·rw [List.all_append,List.all_append,Bool.and_eq_true,Bool.and_eq_true]
  refine ⟨⟨?_,h2.2⟩,?_⟩
  ·exact List.all_eq_true.mpr fun x hx=>List.all_eq_true.mp h1.2 x (List.mem_of_mem_take hx)
  ·exact List.all_eq_true.mpr fun x hx=>List.all_eq_true.mp h1.2 x (List.mem_of_mem_drop hx)
theorem set_map {i:Nat} {t:List Nat} {ts:List (List Nat)}:(ts.map sD).set i (.str (S t))=(ts.set i t).map sD:=by rw [List.map_set]
theorem u1:(1:Nat)≤2:=by decide
theorem u2:(0:Int)<32:=by decide
theorem u3:(32:Int)≤2 ^ 20:=by decide
theorem u4:(0:Int)<8:=by decide
theorem u5:(8:Int)≤2 ^ 21:=by decide
theorem u6:(32:Int)≤2 ^ 21:=by decide
theorem u7:(0:Int)<256:=by decide
theorem u8:(256:Int)≤2 ^ 20:=by decide
theorem law_turns {Q:Out→Prop} {w0:Val}:∀ (ns:List Int) (m:Nat) (ts:List (List Nat)) (w2 w3 w4 w5 w6 w7 w8:Val),ts.length=8→m+4 * ns.length≤900→(∀ t ∈ ts,okT m t) →
  (∀ (ts':List (List Nat)) (w2 w3 w4 w5 w6 w7 w8:Val),ts'.length=8→(∀ t ∈ ts',okT (m+4 * ns.length) t)→Q (.nxt [w0,.own (ts'.map sD),w2,w3,w4,w5,w6,w7,w8])) →
  FW Phi reqF 42 2 2 turn_law Q (ns.map .int) [w0,.own (ts.map sD),w2,w3,w4,w5,w6,w7,w8]:=by
 intro ns
 induction ns with
 |nil=>
  intro m ts w2 w3 w4 w5 w6 w7 w8 h8 hm hts hQ
  rw [List.map_nil,fw_nil]
  exact hQ ts w2 w3 w4 w5 w6 w7 w8 h8 hts
 |cons x r ih=>
  intro m ts w2 w3 w4 w5 w6 w7 w8 h8 hm hts hQ
  rw [List.length_cons] at hm hQ
  rw [List.map_cons,fw_cons]
  have b1:0≤(x.fdiv 32).fmod 8:=Int.fmod_nonneg_of_pos _ (by omega)
  have b2:(x.fdiv 32).fmod 8<8:=Int.fmod_lt_of_pos _ (by omega)
  generalize hw:(x.fdiv 32).fmod 8=w at b1 b2
  obtain ⟨wn,rfl⟩:=Int.eq_ofNat_of_zero_le b1
  have hwl:wn<ts.length:=by omega
  obtain ⟨old,hold⟩:∃ old,ts[wn]?=some old:=⟨ts[wn],List.getElem?_eq_getElem hwl⟩
  have hom:old ∈ ts:=List.mem_of_getElem? hold
  have ho:=hts old hom
  have hol:old.length≤900:=by have:=ho.1;exact linL fun q=>lin [_,_,_] [(1,0,.a (.v 0) (.s 4 (.a (.v 1) (.n 1))),.n 900),(1,0,.v 2,.v 0),(1,0,.a (.n 900) (.n 1),.v 2)] rfl hm this q
  have hget:(ts.map sD)[((wn:Nat):Int).toNat]?=some (sD old):=by rw [Int.toNat_natCast,List.getElem?_map,hold];rfl
  have b3:0≤(x.fdiv 256).fmod ((old.length:Int)+1):=Int.fmod_nonneg_of_pos _ (by omega)
  have b4:(x.fdiv 256).fmod ((old.length:Int)+1)<(old.length:Int)+1:=Int.fmod_lt_of_pos _ (by omega)
  generalize hf:(x.fdiv 256).fmod ((old.length:Int)+1)=f at b3 b4
  obtain ⟨fn,rfl⟩:=Int.eq_ofNat_of_zero_le b3
  have hp:=pc_some x
  have hpc:=pc_ok x
  have hp0:0≤x.fmod 32:=Int.fmod_nonneg_of_pos _ (by omega)
  generalize hpn:pcOf x=pc at hp hpc
  have hl1:old.length≤lim:=by unfold lim;exact linL fun q=>lin [_] [(1,0,.v 0,.n 900),(1,0,.a (.n 1048576) (.n 1),.v 0)] rfl hol q
  have hpcl:=hpc.1
  have next:∀ (beh:Nat) (wb:Val),fn≤beh→FW Phi reqF 42 2 2 turn_law Q (r.map .int) [w0,.own ((ts.set wn (old.take fn++pc++old.drop beh)).map sD),.d (.int x),.d (.int (wn:Nat)),.d (sD pc),.d (sD old),.d (.int (fn:Nat)),wb,w8]:=fun beh wb hb=>by
   refine ih (m+4) _ _ _ _ _ _ _ _ (by rw [List.length_set];exact h8) (by exact linL fun q=>lin [_,_] [(1,0,.a (.v 0) (.s 4 (.a (.v 1) (.n 1))),.n 900),(1,0,.a (.n 900) (.n 1),.a (.a (.v 0) (.n 4)) (.s 4 (.v 1)))] rfl hm q) (fun t ht=>?_) fun ts' v2 v3 v4 v5 v6 v7 v8 q1 q2=>hQ ts' v2 v3 v4 v5 v6 v7 v8 q1 fun t ht=>?_
   ·rcases List.mem_or_eq_of_mem_set ht with ht |rfl
    ·have:=hts t ht;exact ⟨by have:=this.1;exact linL fun q=>lin [_,_] [(1,0,.v 0,.v 1),(1,0,.a (.a (.v 1) (.n 4)) (.n 1),.v 0)] rfl this q,this.2⟩
    ·exact okT_turn ho hpc hb
   ·have:=q2 t ht
    rw [show m+4+4 * r.length=m+4 * (r.length+1) by exact linE (fun q=>lin [_,_] [(1,0,.a (.a (.v 0) (.s 4 (.a (.v 1) (.n 1)))) (.n 1),.a (.a (.v 0) (.n 4)) (.s 4 (.v 1)))] rfl q) fun q=>lin [_,_] [(1,0,.a (.a (.a (.v 0) (.n 4)) (.s 4 (.v 1))) (.n 1),.a (.v 0) (.s 4 (.a (.v 1) (.n 1))))] rfl q] at this
    exact this
  obtain ⟨KK,hK⟩:∃ KK:Loc→Prop,KK=fun ρ=>FW Phi reqF 42 2 2 turn_law Q (r.map .int) ρ:=⟨_,rfl⟩
  rw [← hK]
  have next':∀ (beh:Nat) (wb:Val),fn≤beh→KK [w0,.own ((ts.set wn (old.take fn++pc++old.drop beh)).map sD),.d (.int x),.d (.int (wn:Nat)),.d (sD pc),.d (sD old),.d (.int (fn:Nat)),wb,w8]:=fun beh wb hb=>by rw [hK];exact next beh wb hb
  clear next hK hQ ih
  unfold turn_law
  have hget':(ts.map sD)[wn]?=some (sD old):=by rw [List.getElem?_map,hold];rfl
  have hwlim:wn<lim:=Nat.lt_of_lt_of_le hwl (by rw [h8];decide)
  have hwm:wn<(ts.map sD).length:=by rw [List.length_map];exact hwl
  have hml:(ts.map sD).length≤lim:=by rw [List.length_map,h8];decide
  have z1:(0:Int)<(old.length:Int)+1:=Int.lt_add_one_of_le (Int.natCast_nonneg _)
  have z2:(old.length:Int)+1≤2 ^ 21:=by omega
  have z3:(0:Int)≤(fn:Int):=Int.natCast_nonneg _
  have z4:(0:Int)≤(fn:Int)+1:=Int.natCast_nonneg (fn+1)
  have g1:(old.take fn).length+pc.length≤lim:=Nat.le_trans (Nat.add_le_add (Nat.le_trans (List.length_take_le' ..) hol) hpcl) (by decide)
  have g2:∀ j,(old.take fn).length+pc.length+(old.drop j).length≤lim:=fun j=>Nat.le_trans (Nat.add_le_add (Nat.add_le_add (Nat.le_trans (List.length_take_le' ..) hol) hpcl) (Nat.le_trans (by rw [List.length_drop];exact Nat.sub_le ..) hol)) (by decide)
  simp -dsimp only [↓w_cons,↓w_upkT,u1,↓gd,↓es_cons,↓e_bin,↓e_v,List.set_cons_succ,List.set_cons_zero,List.getElem?_cons_succ,List.getElem?_cons_zero,at_d,↓e_k,d_i,u2,u3,f_i,u4,u5,e_pcs,u6,b_int,hp0,hp,ex_some,↓es_nil,↓sq_nxt,↓w_asg,setAll,hw,e_idxO,at_o,i_li,Int.natCast_nonneg,Int.toNat_natCast,hwlim,hget',u7,u8,↓e_len,l_s,hl1,a_i,z1,z2,↓e_ife,↓e_cmp,hf,c_nes,b_bool,decide_eq_true_eq,w_sto,np_n,e_sl0,sl_s0,z3,a_s,g1,↓e_sl1,sl_s1,List.length_append,g2,hwm,hml,↓w_nil,fq_nxt,z4]
  split
  ·have:=next' fn (.d (.int (fn:Nat))) (Nat.le_refl _)
   rwa [← set_map] at this
  ·have:=next' (fn+1) (.d (.int ((fn:Int)+1))) (Nat.le_succ _)
   rwa [← set_map] at this
theorem join0:∀ l:List (List Nat),joinL [] l=l.flatten
 | []=>rfl
 | [x]=>by simp [joinL]
 |x::y::r=>by
  rw [joinL,join0 (y::r)]
  ·simp
  ·intro q;cases q
theorem okT_flat {n:Nat}:∀ l:List (List Nat),(∀ x ∈ l,okT n x)→okT (n * l.length) l.flatten
 | [],_=>⟨Nat.zero_le _,rfl⟩
 |x::r,h=>by
  have h1:=h x (List.mem_cons_self ..)
  have h2:=okT_flat r fun y hy=>h y (List.mem_cons_of_mem _ hy)
  refine ⟨?_,?_⟩
  ·rw [List.flatten_cons,List.length_append,List.length_cons,Nat.mul_succ]
   have:=h1.1
   have:=h2.1
   omega
  ·rw [List.flatten_cons,List.all_append,h1.2,h2.2];rfl
theorem map_int_drop {ns:List Int} {n:Nat}:(ns.map PyData.int).drop n=(ns.drop n).map PyData.int:=List.map_drop.symm
theorem map_int_take {ns:List Int} {n:Nat}:(ns.map PyData.int).take n=(ns.take n).map PyData.int:=List.map_take.symm
theorem x_ints {PX:List Int→Prop} {ys:List Int} (h:PX ys):∃ xs:List Int,ys.map PyData.int=xs.map PyData.int∧PX xs:=⟨ys,rfl,h⟩
theorem law_more {Q:Out→Prop} {ns:List Int} (hns:ns.length≤63):∀ (fs:List Nat) (ts:List (List Nat)) (w2 w3 w4 w5 w6 w7 w8:Val),fs.length≤4→ts.length+fs.length≤900→(∀ t ∈ ts,okT 900 t) →
  (∀ (ts':List (List Nat)) (w2 w3 w4 w5 w6 w7 w8:Val),ts'.length≤900→(∀ t ∈ ts',okT 900 t)→Q (.nxt [.d (.list (ns.map .int)),.own (ts'.map sD),w2,w3,w4,w5,w6,w7,w8])) →
  FW Phi reqF 42 2 6 turn_more Q (fs.map fun f => .int ((f:Nat):Int)) [.d (.list (ns.map .int)),.own (ts.map sD),w2,w3,w4,w5,w6,w7,w8]:=by
 intro fs
 induction fs with
 |nil=>
  intro ts w2 w3 w4 w5 w6 w7 w8 h4 hl hts hQ
  rw [List.map_nil,fw_nil]
  exact hQ ts w2 w3 w4 w5 w6 w7 w8 (by simpa using hl) hts
 |cons f r ih=>
  intro ts w2 w3 w4 w5 w6 w7 w8 h4 hl hts hQ
  rw [List.length_cons] at hl h4
  rw [List.map_cons,fw_cons]
  have hnew:okT 900 (((ns.drop f).take 14).map pcOf).flatten:=by
   have:=okT_flat (n:=4) (((ns.drop f).take 14).map pcOf) fun x hx=>by
    obtain ⟨n,_,rfl⟩:=List.mem_map.mp hx
    exact pc_ok n
   refine ⟨?_,this.2⟩
   have h:=this.1
   rw [List.length_map,List.length_take] at h
   exact linL fun q=>lin [_,_] [(1,0,.v 0,.s 4 (.v 1)),(4,0,.v 1,.n 14),(1,0,.a (.n 900) (.n 1),.v 0)] rfl h (Nat.min_le_left _ _) q
  have next:=ih (ts++[(((ns.drop f).take 14).map pcOf).flatten]) w2 w3 w4 w5 (.d (.int ((f:Nat):Int))) w7 w8 (by exact linL fun q=>lin [_] [(1,0,.a (.v 0) (.n 1),.n 4),(1,0,.a (.n 4) (.n 1),.v 0)] rfl h4 q) (by rw [List.length_append,List.length_singleton];exact linL fun q=>lin [_,_] [(1,0,.a (.v 0) (.a (.v 1) (.n 1)),.n 900),(1,0,.a (.n 900) (.n 1),.a (.a (.v 0) (.n 1)) (.v 1))] rfl hl q)
   (fun t ht=>by
     rcases List.mem_append.mp ht with ht |ht
     ·exact hts t ht
     ·rw [List.mem_singleton.mp ht];exact hnew) hQ
  obtain ⟨KK,hK⟩:∃ KK:Loc→Prop,KK=fun ρ=>FW Phi reqF 42 2 6 turn_more Q (r.map fun f => .int ((f:Nat):Int)) ρ:=⟨_,rfl⟩
  rw [← hK]
  have next':KK [.d (.list (ns.map .int)),.own ((ts++[(((ns.drop f).take 14).map pcOf).flatten]).map sD),w2,w3,w4,w5,.d (.int ((f:Nat):Int)),w7,w8]:=by rw [hK];exact next
  clear next hK hQ ih
  unfold turn_more
  have h1:((ns.map PyData.int).drop f).length≤lim:=by rw [List.length_drop,List.length_map];unfold lim;exact linL fun q=>lin [_,_] [(1,0,.v 0,.n 63),(1,0,.v 1,.v 0),(1,0,.a (.n 1048576) (.n 1),.v 1)] rfl hns (Nat.sub_le _ _) q
  have e14:((f:Int)+14).toNat - f=14:=by omega
  have hz:(ns.map PyData.int).length≤lim:=by rw [List.length_map];unfold lim;exact linL fun q=>lin [_] [(1,0,.v 0,.n 63),(1,0,.a (.n 1048576) (.n 1),.v 0)] rfl hns q
  simp -dsimp only [↓w_cons,↓w_app,List.set_cons_succ,List.set_cons_zero,List.getElem?_cons_succ,List.getElem?_cons_zero,at_o,↓e_join,↓e_k,b_str,e_cmpP,↓gd,↓e_sl2,↓e_v,at_d,↓e_bin,a_i,sl_l2,gd',hz,Int.toNat_natCast,e14,map_int_drop,map_int_take,b_lst]
  have hc:((ns.drop f).take 14).length≤14:=by rw [List.length_take];exact linL fun q=>lin [_] [(1,0,.v 0,.n 14),(1,0,.a (.n 14) (.n 1),.v 0)] rfl (Nat.min_le_left _ _) q
  refine ⟨by omega,by omega,by rw [List.length_map];unfold lim;exact linL fun q=>lin [_] [(1,0,.v 0,.n 14),(1,0,.a (.n 1048576) (.n 1),.v 0)] rfl hc q,?_⟩
  refine x_ints ?_
  have e:((ns.drop f).take 14).map (fun n=>PyData.str (S (pcOf n)))=(((ns.drop f).take 14).map pcOf).map sD:=by rw [List.map_map];rfl
  rw [e,j_gen,join0]
  refine ⟨by decide,?_,by rw [List.length_map];unfold lim;exact linL fun q=>lin [_] [(1,0,.v 0,.n 14),(1,0,.a (.n 1048576) (.n 1),.v 0)] rfl hc q,by rw [List.length_map];unfold lim;exact linL fun q=>lin [_,_] [(1,0,.a (.v 0) (.a (.v 1) (.n 1)),.n 900),(1,0,.a (.n 1048576) (.n 1),.v 0)] rfl hl q,?_⟩
  ·have:=hnew.1;unfold lim;exact linL fun q=>lin [_] [(1,0,.v 0,.n 900),(1,0,.a (.n 1048576) (.n 1),.v 0)] rfl this q
  ·rw [sq_nxt,w_nil,fq_nxt]
   rwa [List.map_append,List.map_cons,List.map_nil] at next'
theorem k41 {K:RR→Prop} {t:List Nat} (h1:t.length≤1000) (h2:t.all okC=true):KW (Phi 41 [.str (S t)]) K=K (.ok (.bool true)):=kw_of ⟨⟨t,rfl,h1,aok_iff.mp h2,rfl⟩⟩ fun _ ⟨⟨_,_,_,_,h⟩⟩=>h
theorem law_asks {Q:Out→Prop} {w0 w1:Val}:∀ (ts:List (List Nat)) (w2 w3 w4 w5 w6 w7 w8:Val),(∀ t ∈ ts,okT 900 t) →
  (∀ (w8:Val),Q (.nxt [w0,w1,w2,w3,w4,w5,w6,w7,w8])) →
  FW Phi reqF 42 2 8 turn_ask Q (ts.map sD) [w0,w1,w2,w3,w4,w5,w6,w7,w8]:=by
 intro ts
 induction ts with
 |nil=>
  intro w2 w3 w4 w5 w6 w7 w8 hts hQ
  rw [List.map_nil,fw_nil]
  exact hQ w8
 |cons t r ih=>
  intro w2 w3 w4 w5 w6 w7 w8 hts hQ
  rw [List.map_cons,fw_cons]
  have next:=ih w2 w3 w4 w5 w6 w7 (.d (sD t)) (fun t ht=>hts t (List.mem_cons_of_mem _ ht)) hQ
  have ht:=hts t (List.mem_cons_self ..)
  obtain ⟨KK,hK⟩:∃ KK:Loc→Prop,KK=fun ρ=>FW Phi reqF 42 2 8 turn_ask Q (r.map sD) ρ:=⟨_,rfl⟩
  rw [← hK]
  have next':KK [w0,w1,w2,w3,w4,w5,w6,w7,.d (sD t)]:=by rw [hK];exact next
  clear next hK hQ ih
  unfold turn_ask
  have hh:t.length≤1000:=by have:=ht.1;exact linL fun q=>lin [_] [(1,0,.v 0,.n 900),(1,0,.a (.n 1000) (.n 1),.v 0)] rfl this q
  simp -dsimp only [↓w_cons,↓w_ite,↓e_not,↓e_callK (Φ:=Phi) (req:=reqF) (k:=42) (lv:=2) (f:=41) (by decide) (by decide),↓es_cons,↓e_v,List.set_cons_succ,List.set_cons_zero,List.getElem?_cons_succ,List.getElem?_cons_zero,at_d,↓es_nil,k41 hh ht.2,↓rr_ok,b_bool,Bool.not_true,↓ite_ff,↓w_nil,↓sq_nxt,fq_nxt]
  exact next'
theorem law_wps {ns:List Int} (h:ns.length≤63) {wx:Val}:SW Phi reqF 42 2 b_law [.d (.list (ns.map .int)),.own (told.map sD),wx,.un,.un,.un,.un,.un,.un] (OutR (.ok (.bool true))):=by
 unfold b_law
 have hz:(ns.map PyData.int).length≤lim:=by rw [List.length_map];unfold lim;exact linL fun q=>lin [_] [(1,0,.v 0,.n 63),(1,0,.a (.n 1048576) (.n 1),.v 0)] rfl h q
 simp -dsimp only [↓w_cons,↓w_forL,↓gd,e_sl0,↓e_v,List.getElem?_cons_zero,at_d,↓e_k,sl_l0,gd',hz,b_lst]
 refine ⟨by decide,by rw [List.length_take];exact linL fun q=>lin [_,_,_] [(1,0,.v 0,.v 1),(1,0,.v 2,.v 0),(1,0,.a (.v 1) (.n 1),.v 2)] rfl hz (Nat.min_le_right _ _) q,?_⟩
 rw [map_int_take]
 have h7:(ns.take (7:Int).toNat).length≤7:=by rw [List.length_take];show min 7 _≤7;exact linL fun q=>lin [_] [(1,0,.v 0,.n 7),(1,0,.a (.n 7) (.n 1),.v 0)] rfl (Nat.min_le_left _ _) q
 refine law_turns (ns.take (7:Int).toNat) 100 told _ _ _ _ _ _ _ (by decide) (by exact linL fun q=>lin [_] [(4,0,.v 0,.n 7),(1,0,.a (.n 900) (.n 1),.a (.n 100) (.s 4 (.v 0)))] rfl h7 q) told_ok fun ts w2 w3 w4 w5 w6 w7 w8 q1 q2=>?_
 rw [sq_nxt,w_cons,w_forR]
 refine ⟨rfl,law_more h [7,21,35,49] ts _ _ _ _ _ _ _ (by decide) (by rw [q1];decide) (fun t ht=>?_) fun ts w2 w3 w4 w5 w6 w7 w8 q1 q2=>?_⟩
 ·have:=q2 t ht
  exact ⟨by have:=this.1;exact linL fun q=>lin [_,_] [(4,0,.v 0,.n 7),(1,0,.v 1,.a (.n 100) (.s 4 (.v 0))),(1,0,.a (.n 900) (.n 1),.v 1)] rfl h7 this q,this.2⟩
 ·have f1:(ts.map sD).length≤lim:=by rw [List.length_map];unfold lim;exact linL fun q=>lin [_] [(1,0,.v 0,.n 900),(1,0,.a (.n 1048576) (.n 1),.v 0)] rfl q1 q
  simp -dsimp only [↓sq_nxt,↓w_cons,↓w_frz,List.getElem?_cons_succ,List.getElem?_cons_zero,at_o,↓w_forL,↓gd,↓e_v,List.set_cons_succ,List.set_cons_zero,at_d,b_lst,f1]
  refine law_asks ts _ _ _ _ _ _ _ q2 fun w8=>?_
  simp -dsimp only [↓sq_nxt,↓w_cons,↓w_ret,↓e_k,↓sq_ret,↓or_ret]
end Mine
end
section
open PySem PySem.W PyProof.Rows
open PySem.Calls (Name_function_global loadGlobal_global loadGlobal_builtin)
set_option maxRecDepth 100000
namespace Mine
noncomputable def strsC:List Str→List Expr→Bool
 | []=>fun es=>es.isEmpty
 |x::xs=>onC fun e r=>onConst (fun c _ _=>c == .str x) e && strsC xs r
noncomputable def strsB (xs:List Str):List Stmt→Bool:=on1 (onRet fun o _=>onO (onList fun es _=>strsC xs es) o)
theorem strs_eval {M:Model} {A:Around} {E:Value→Shared→Prop} {env:Env} {pos:Pos} {xs:List Str}:∀ {es:List Expr} {s:Shared} {Q:List Value→Shared→Prop},strsC xs es=true →
  (∀ vs tk,(∀ H h,RdAll H h vs (xs.map PyData.str))→Q vs { s with toks:=tk })→wpAny M A (spliced (backTo pos (starEach es env))) Q E s:=by
 induction xs with
 |nil=>
  intro es s Q h hQ
  rw [nil_of h]
  exact wpAny_items_nil (hQ [] s.toks fun _ _ => .nil)
 |cons x xs ih=>
  intro es s Q h hQ
  obtain ⟨e,r,rfl,h⟩:=onC_inv h
  obtain ⟨c,_,_,rfl,hc⟩:=onConst_inv (and2 h).1
  rw [eq_of_beq hc]
  exact wpAny_items_cons (wpAny_Constant_str (ih (and2 h).2 fun vs tk hv=>hQ _ _ fun H h => .cons (.str _ _) (hv H h))) (star_plain rfl)
theorem strs_call {X:Cx} {A:Around} {E:Value→Shared→Prop} {s:Shared} {a:Addr} {fd:FuncData} {b:List Stmt} {xs:List Str} {Q:Value→Shared→Prop} (F:FnAt X a fd b) (hb:strsB xs b=true) (hx:xs.length≤64) (hbind:BindsTo s fd ⟨[],[]⟩ [])
  (hbase:X.B0.StaysIn s.heap) (hroom:A.depth<recursionLimit)
  (h:∀ D vs s',s.heap.get? D=none→s'.heap.get? D=some { cls := .type "list",data := .seq vs }→(∀ H h,RdAll H h vs.toList (xs.map PyData.str))→(∀ b o,s.heap.get? b=some o→s'.heap.get? b=some o)→Same s s'→Q (.ref D) s') :
  wpAny X.M A (call (.ref a) []) Q E s:=by
 refine wpAny_call (call_fn F hbind (fun x hx=>nomatch hx) hbase hroom fun h₀ hns hk=>?_)
 obtain ⟨st,rfl,hb⟩:=on1_inv hb
 obtain ⟨o,_,rfl,hb⟩:=onRet_inv hb
 obtain ⟨e,rfl,hb⟩:=onO_inv hb
 obtain ⟨es,_,rfl,hb⟩:=onList_inv hb
 refine wpAny_execs_cons (wpAny_Return_some (List_ (strs_eval hb fun vs tk hv=>?_)))
 have hl:=(hv (fun _=>False) h₀).length
 rw [List.length_map] at hl
 refine wpAny_newObj_type ?_ (by show vs.toArray.size≤sizeLine;rw [List.size_toArray,hl,sizeLine_eq];exact Nat.le_trans hx (by decide))
 refine h _ _ _ ?_ (Heap.get?_push_size _ rfl) (fun H h=>hv H h) (fun b o e=>Heap.get?_push_of_some _ (hk b o e)) ⟨rfl,rfl,rfl⟩
 cases q:s.heap.get? h₀.objs.size with
 |none=>rfl
 |some o=>exact absurd (Heap.lt_size (hk _ _ q)) (Nat.lt_irrefl _)
end Mine
end
section
open PySem PySem.W PyProof.Rows
set_option maxRecDepth 100000
namespace Mine
noncomputable def isSeq0:Data→Bool
 | .seq _ n=>n == 0
 |_=>false
noncomputable def seqOf:Data→Array Value
 | .seq vs _=>vs
 |_ => #[]
theorem isSeq0_eq {d:Data} (h:isSeq0 d=true):d = .seq (seqOf d) 0:=by
 cases d with
 |seq vs n=>rw [show n=0 from eq_of_beq h];rfl
 |_=>cases h
noncomputable def isTup (o:Obj):Bool:=o.cls == .type "tuple" && (o.dict.isNone && (o.slots.size == 0 && isSeq0 o.data))
theorem isTup_eq {o:Obj} (h:isTup o=true):o=⟨.type "tuple",none,.seq (seqOf o.data) 0,#[]⟩:=
 obj_eq (eq_of_beq (and2 h).1) (none_of (and2 (and2 h).2).1) (isSeq0_eq (and2 (and2 (and2 h).2).2).2) (Array.size_eq_zero_iff.mp (eq_of_beq (and2 (and2 (and2 h).2).2).1))
noncomputable def tupAt (K:Frag) (a:Addr):Array Value:=match K.lookup a with
 |some o=>if isTup o=true then seqOf o.data else #[]
 |none => #[]
theorem tup_at {K:Frag} {a:Addr} (h:(tupAt K a).size≠0):K.lookup a=some ⟨.type "tuple",none,.seq (tupAt K a) 0,#[]⟩:=by
 unfold tupAt at h ⊢
 cases q:K.lookup a with
 |none=>rw [q] at h;exact absurd rfl h
 |some o=>
  rw [q] at h
  by_cases t:isTup o=true
  ·show some o=some ⟨_,_,.seq (if isTup o=true then _ else _) 0,_⟩
   rw [if_pos t]
   exact congrArg some (isTup_eq t)
  ·exact absurd (congrArg Array.size (if_neg t)) h
theorem tup_get {K:Frag} {h:Heap} {a:Addr} {vs:Array Value} (ki:K.In h) (e:tupAt K a=vs) (hz:vs.size≠0):h.get? a=some ⟨.type "tuple",none,.seq vs 0,#[]⟩:=by
 subst e
 exact ki _ _ (tup_at hz)
noncomputable def isRef (a:Addr) (x:Option (Option Value)):Bool:=onO (onO fun v=>v == .ref a) x
theorem isRef_eq {a:Addr} {x:Option (Option Value)} (h:isRef a x=true):x=some (some (.ref a)):=
 let ⟨_,e,h⟩:=onO_inv h
 let ⟨_,e',h⟩:=onO_inv h
 by rw [e,e',eq_of_beq h]
noncomputable def isNo (x:Option (Option Value)):Bool:=onO (fun v=>v.isNone) x
theorem isNo_eq {x:Option (Option Value)} (h:isNo x=true):x=some none:=
 let ⟨_,e,h⟩:=onO_inv h
 by rw [e,none_of h]
noncomputable def isF:List Value→Bool:=on1 fun v=>v == .bool false
theorem isF_eq {l:List Value} (h:isF l=true):l=[.bool false]:=
 let ⟨_,e,h⟩:=on1_inv h
 by rw [e,eq_of_beq h]
noncomputable def isR37:List Value→Bool:=on1 fun v=>v == .ref 37
theorem isR37_eq {l:List Value} (h:isR37 l=true):l=[.ref 37]:=
 let ⟨_,e,h⟩:=on1_inv h
 by rw [e,eq_of_beq h]
noncomputable def isStrV (x:Str):Value→Bool
 | .str y _=>y == x
 |_=>false
theorem isStrV_eq {x:Str} {v:Value} (h:isStrV x v=true):∃ t,v = .str x t:=by
 cases v <;> first |exact ⟨_,by rw [eq_of_beq h]⟩ |cases h
noncomputable def isNone:List Value→Bool:=on1 fun v=>isStrV (S [78,79,78,69]) v
theorem isNone_eq {l:List Value} (h:isNone l=true):∃ t,l=[.str (S [78,79,78,69]) t]:=
 let ⟨_,e,h⟩:=on1_inv h
 let ⟨t,e'⟩:=isStrV_eq h
 ⟨t,by rw [e,e']⟩
noncomputable def dflF (K:Frag) (a t:Addr):Bool:=(fdOf K a).defaults == .ref t && isF (tupAt K t).toList
theorem dflF_eq {K:Frag} {a t:Addr} (h:dflF K a t=true):(fdOf K a).defaults = .ref t∧tupAt K t = #[.bool false]:=
 ⟨eq_of_beq (and2 h).1,Array.toList_inj.mp (isF_eq (and2 h).2)⟩
noncomputable def dfl1 (K:Frag) (a:Addr) (F:Addr→Bool):Bool:=match (fdOf K a).defaults with
 | .ref t=>F t
 |_=>false
theorem dfl1_inv {K:Frag} {a:Addr} {F:Addr→Bool} (h:dfl1 K a F=true):∃ t,F t=true:=by
 unfold dfl1 at h
 cases q:(fdOf K a).defaults with
 |ref t=>rw [q] at h;exact ⟨t,h⟩
 |_=>rw [q] at h;cases h
noncomputable def okDef (K:Frag) (f:Nat):Bool:=onO (fun e=>fdB K (adr.getD f 0) && (chkSs fnm (fdOf K (adr.getD f 0)).scope.names (nmS e.1) e.2.1 (bodyOf (fdOf K (adr.getD f 0))) && (nmB (fdOf K (adr.getD f 0)) (nmS e.1) (e.2.2.1+e.2.2.2.length) &&
  (if f=18 then dfl1 K 172 (dflF K 172) && prmB (fdOf K 172).params [Str.ofString "text",Str.ofString "at",Str.ofString "is_nested"]
   else if f=29 then dfl1 K 250 (dflF K 250) && prmB (fdOf K 250).params [Str.ofString "element",Str.ofString "is_hash"]
   else (fdOf K (adr.getD f 0)).defaults == .none && (prmB (fdOf K (adr.getD f 0)).params ((nmS e.1).take e.2.2.1) && (known.contains ((nmS e.1).take e.2.2.1) && e.2.2.2.isEmpty)))))) (tabF f)
noncomputable def okErr (K:Frag):Bool:=
 fdB K 45 && (errB (fdOf K 45).scope.names (bodyOf (fdOf K 45)) && ((fdOf K 45).defaults == .ref 38 && (isR37 (tupAt K 38).toList && (isNone (tupAt K 37).toList && prmB (fdOf K 45).params [Str.ofString "text",Str.ofString "errorcode"]))))
noncomputable def okInit (K:Frag):Bool:=
 fdB K 30 && (initB (fdOf K 30).scope.names (bodyOf (fdOf K 30)) && (initNames.all (fun n=>(fdOf K 30).scope.names.lookup n == some .local) && ((fdOf K 30).defaults == .ref 23 && ((tupAt K 23).toList.length == 3 &&
 prmB (fdOf K 30).params [Str.ofString "self",Str.ofString "code",Str.ofString "value",Str.ofString "errorcode",Str.ofString "level",Str.ofString "ret"]))))
noncomputable def okNames (K:Frag):Bool:=
 raisedIn K 33 30 && (isRef 33 (nsIn K mainGlobals "Raised") && (isNo (nsIn K mainGlobals "Exception") && (keepIn K (.ref 33) &&
 (isNo (nsIn K mainGlobals "len") && (isNo (nsIn K mainGlobals "ord") && (isNo (nsIn K mainGlobals "chr") && (isNo (nsIn K mainGlobals "tuple") && isNo (nsIn K mainGlobals "range"))))))))
noncomputable def okGlobs (K:Frag):Bool:=(List.range 42).all fun f=>isRef (adr.getD f 0) (nsIn K mainGlobals (fnm.getD f ⟨#[]⟩)) && keepIn K (.ref (adr.getD f 0))
noncomputable def okStr (K:Frag):Bool:=strsB (pieces.map S) (bodyOf (fdOf K 264)) && strsB (told.map S) (bodyOf (fdOf K 271))
noncomputable def okAll (K:Frag):Bool:=okStr K && ((List.range 42).all (fun f=>(tabF f).isNone || okDef K f) && (okErr K && (okInit K && (okNames K && okGlobs K))))
noncomputable def kOf (h:Heap):List Addr→Frag
 | []=>[]
 |a::r=>match h.get? a with
  |some o=>(a,o)::kOf h r
  |none=>kOf h r
theorem kOf_in {h:Heap} {l:List Addr}:(kOf h l).In h:=by
 induction l with
 |nil=>intro a o e;cases e
 |cons b r ih=>
  intro a o e
  unfold kOf at e
  cases hb:h.get? b with
  |none=>rw [hb] at e;exact ih a o e
  |some ob=>
   rw [hb] at e
   replace e:(match a == b with |true=>some ob |false=>(kOf h r).lookup a)=some o:=e
   by_cases q:a=b
   ·rw [q,beq_self_eq_true] at e
    rw [q,← Option.some.inj e];exact hb
   ·rw [beq_eq_false_iff_ne.mpr q] at e
    exact ih a o e
structure IsX (X:Cx):Prop where
 ok:okAll X.K=true
 fn:X.fn=fnm
 fad:∀ f,X.fad f=adr.getD f 0
 rc:X.rc=33
end Mine
end
section
open PySem PySem.W PyProof.Rows
set_option maxRecDepth 100000
namespace Mine
section
variable {X:Cx} (H:IsX X)
include H
theorem kis {s:Shared} (hs:X.B0.StaysIn s.heap):X.K.In s.heap:=fun a o e=>hs _ _ (X.ki _ _ e)
theorem IsX.def (f:Nat) (hf:f<42):(tabF f).isNone=true∨okDef X.K f=true:=or2 (List.all_eq_true.mp (and2 (and2 H.ok).2).1 f (List.mem_range.mpr hf))
theorem IsX.rest:okErr X.K=true∧okInit X.K=true∧okNames X.K=true∧okGlobs X.K=true:=
 have q:=and2 (and2 (and2 H.ok).2).2
 ⟨q.1,(and2 q.2).1,(and2 (and2 q.2).2).1,(and2 (and2 q.2).2).2⟩
theorem IsX.glob (f:Nat) (hf:f<42):(isRef (adr.getD f 0) (nsIn X.K mainGlobals (fnm.getD f ⟨#[]⟩)) && keepIn X.K (.ref (adr.getD f 0)))=true:=List.all_eq_true.mp H.rest.2.2.2 f (List.mem_range.mpr hf)
theorem err_ok:ErrOK X 30:=by
 have e0:=and2 H.rest.1
 have e1:=and2 e0.2
 have e2:=and2 e1.2
 have e3:=and2 e2.2
 have e4:=and2 e3.2
 have i0:=and2 H.rest.2.1
 have i1:=and2 i0.2
 have i2:=and2 i1.2
 have i3:=and2 i2.2
 have i4:=and2 i3.2
 have n0:=and2 H.rest.2.2.1
 have n1:=and2 n0.2
 have n2:=and2 n1.2
 refine ⟨?_,?_,isNo_eq n2.1,?_,⟨_,_,fnAt_of rfl i0.1,i1.1,fun n hn=>eq_of_beq (List.all_eq_true.mp i2.1 n hn),fun s v0 v1 v2 v3 hs=>?_⟩,⟨_,_,?_,e1.1,fun s v0 v1 hs=>?_,fun s v0 hs=>?_⟩⟩
 ·rw [H.rc];exact n0.1
 ·rw [H.rc];exact isRef_eq n1.1
 ·rw [H.rc];exact (and2 n2.2).1
 ·refine hid fun G hG=>?_
  obtain ⟨w0,r,f0,hl⟩:=lenS (eq_of_beq i4.1)
  obtain ⟨w1,r1,f1,hl⟩:=lenS hl
  obtain ⟨w2,r2,f2,hl⟩:=lenS hl
  refine hG ?_
  rw [f1,f2,len0 hl] at f0
  exact ⟨w1,w2,bt_init i4.2 (eq_of_beq i3.1) (tup_get (vs := #[w0,w1,w2]) (kis H hs) (Array.toList_inj.mp f0) (Nat.succ_ne_zero _)) rfl⟩
 ·rw [H.fad 0];exact fnAt_of rfl e0.1
 ·exact bt_dfl2 e4.2 (eq_of_beq e2.1) (tup_get (kis H hs) (Array.toList_inj.mp (isR37_eq e3.1):tupAt X.K 38 = #[.ref 37]) (Nat.succ_ne_zero _)) rfl
 ·obtain ⟨t,h3⟩:=isNone_eq e4.1
  exact ⟨37,bt_dfl1 e4.2 (eq_of_beq e2.1) (tup_get (kis H hs) (Array.toList_inj.mp (isR37_eq e3.1):tupAt X.K 38 = #[.ref 37]) (Nat.succ_ne_zero _)) rfl,none,_,0,#[],t,tup_get X.ki (Array.toList_inj.mp h3:tupAt X.K 37 = #[.str (S [78,79,78,69]) t]) (Nat.succ_ne_zero _),rfl⟩
theorem names_ok:NamesOK X:=by
 have n3:=and2 (and2 (and2 H.rest.2.2.1).2).2
 have n4:=and2 (and2 n3.2).2
 have n5:=and2 n4.2
 have n6:=and2 n5.2
 have n7:=and2 n6.2
 refine ⟨fun f y hy=>?_,isNo_eq n4.1,isNo_eq n5.1,isNo_eq n6.1,isNo_eq n7.1,isNo_eq n7.2⟩
 rw [H.fn] at hy
 have q:=and2 (H.glob f (List.getElem?_eq_some_iff.mp hy).1)
 rw [show fnm.getD f ⟨#[]⟩=y by rw [List.getD_eq_getElem?_getD,hy];rfl] at q
 rw [H.fad f]
 exact ⟨isRef_eq q.1,q.2⟩
omit H in
theorem binds_plain {fd:FuncData} {nm:List Str} {ar:Nat} (hd:fd.defaults = .none) (hp:prmB fd.params (nm.take ar)=true) (hk:known.contains (nm.take ar)=true) (hl:ar≤nm.length) :
  ∀ (s:Shared) (vs:List Value),X.B0.StaysIn s.heap→vs.length=ar→∃ vd,RdAll (fun b=>X.B0.get? b=none) X.B0 vd []∧BindsTo s fd ⟨vs,[]⟩ (nm.zip (vs++vd)):=fun s vs _ e=>by
 refine ⟨[],.nil,BindsTo.of_eq ?_⟩
 have ez:nm.zip vs=(nm.take ar).zip vs:=by
  rw [← e]
  exact (List.zip_eq_zip_take_min ..).trans (by rw [Nat.min_eq_right (e▸hl),List.take_length])
 rw [List.append_nil,ez]
 exact bind_plain hp hd hk (by rw [List.length_take,Nat.min_eq_left hl];exact e)
theorem defs_ok:∀ f e,tabF f=some e→DefOK X f (nmS e.1) e.2.1 e.2.2.1 e.2.2.2:=by
 intro f e h
 have hf:f<42:=Nat.lt_of_not_le fun q=>by rw [tabF_none q] at h;cases h
 rcases H.def f hf with q |q
 ·rw [none_of q] at h;cases h
 obtain ⟨e',h',q⟩:=onO_inv q
 rw [h] at h'
 obtain rfl:=Option.some.inj h'
 have q1:=and2 q
 have q2:=and2 q1.2
 have q3:=and2 q2.2
 refine defOK_of rfl H.fn (H.fad f) q1.1 q2.1 q3.1 ?_
 by_cases f18:f=18
 ·subst f18
  refine hid fun G hG=>?_
  obtain rfl:=Option.some.inj h
  obtain ⟨T,ht⟩:=dfl1_inv (and2 q3.2).1
  obtain ⟨e1,e2⟩:=dflF_eq ht
  refine hG ?_
  intro s vs hs hl
  refine hid fun G hG=>?_
  obtain ⟨v0,r0,f0,hl⟩:=lenS hl
  obtain ⟨v1,r1,f1,hl⟩:=lenS hl
  refine hG ?_
  rw [f0,f1,len0 hl]
  exact ⟨[.bool false],.cons (.bool false) .nil,bt_cmd (and2 q3.2).2 e1 (tup_get (kis H hs) e2 (Nat.succ_ne_zero _)) rfl⟩
 ·have q4:=q3.2
  rw [if_neg f18] at q4
  by_cases f29:f=29
  ·subst f29
   refine hid fun G hG=>?_
   obtain rfl:=Option.some.inj h
   obtain ⟨T,ht⟩:=dfl1_inv (and2 q4).1
   obtain ⟨e1,e2⟩:=dflF_eq ht
   refine hG ?_
   intro s vs hs hl
   refine hid fun G hG=>?_
   obtain ⟨v0,r0,f0,hl⟩:=lenS hl
   obtain ⟨v1,r1,f1,hl⟩:=lenS hl
   refine hG ?_
   rw [f0,f1,len0 hl]
   exact ⟨[],.nil,bt_quote (and2 q4).2 e1 (tup_get (kis H hs) e2 (Nat.succ_ne_zero _)) rfl⟩
  ·rw [if_neg f29] at q4
   have q5:=and2 q4
   have q6:=and2 q5.2
   have q7:=and2 q6.2
   have nl:=of_decide_eq_true (and2 q3.1).1
   rw [nil_of q7.2] at nl ⊢
   exact binds_plain (eq_of_beq q5.1) q6.1 q7.1 nl
theorem IsX.str:okStr X.K=true:=(and2 H.ok).1
theorem all_ok (f lv:Nat) (h:reqF f≤lv):Contract X Phi f lv:=contracts (names_ok H) (err_ok H) (defs_ok H) f lv h
end
end Mine
end
section
open PySem PySem.W PyProof.Rows
open PySem.Calls (Name_function_global loadGlobal_global loadGlobal_builtin)
set_option maxRecDepth 100000
namespace Mine
noncomputable def head1 (sc:Sc):Stmt→Bool:=onAsg1 fun x v=>x == ("script":Str) && (isL sc (nmS n_law) 0 x && onSubN (fun y sl=>y == ("script":Str) && onSlice (fun l u st _=>l.isNone && (st.isNone && onO (onConst fun c _ _=>chkC (.int 63) c) u)) sl) v)
theorem head1_inv {sc:Sc} {st:Stmt} (h:head1 sc st=true):isL sc (nmS n_law) 0 "script"=true∧∃ px py kn pn psl psb pas,st = .Assign [.Name "script" px] (.Subscript (.Name "script" py) (.Slice none (some (.Constant (.int 63) kn pn)) none psl) psb) pas:=by
 refine hid fun G hG=>?_
 obtain ⟨x,px,v,pas,e1,h⟩:=onAsg1_inv h
 have q1:=and2 h
 have q2:=and2 q1.2
 have ex:=eq_of_beq q1.1
 obtain ⟨y,py,sl,psb,e2,h⟩:=onSubN_inv q2.2
 have q3:=and2 h
 obtain ⟨l,u,st,psl,e3,h⟩:=onSlice_inv q3.2
 have q4:=and2 h
 have q5:=and2 q4.2
 obtain ⟨u',e4,h⟩:=onO_inv q5.2
 obtain ⟨c,kn,pn,e5,h⟩:=onConst_inv h
 refine hG ?_
 refine ⟨ex▸q2.1,px,py,kn,pn,psl,psb,pas,?_⟩
 rw [e1,e2,e3,e4,e5,ex,eq_of_beq q3.1,none_of q4.1,none_of q5.1,eq_of_beq (and2 h).2]
 rfl
noncomputable def head2 (sc:Sc):Stmt→Bool:=onAsgT fun ts v=>onTup (fun es _ _=>on2 (fun t1 t2=>on2 (fun f1 f2=>onName (fun p _=>onName (fun t _=>onCallN (fun f xs=>onCallN (fun g ys=>xs.isEmpty && (ys.isEmpty && (p == ("pieces":Str) && (t == ("texts":Str) && (sc.lookup p == some .cell && (isL sc (nmS n_law) 1 t && (isG sc f "_law_pieces" && isG sc g "_law_told_texts"))))))) f2) f1) t2) t1) es) ts) v
theorem head2_inv {sc:Sc} {st:Stmt} (h:head2 sc st=true):∃ pp pt k₁ p₁ f pf pcf g pg pcg k₂ p₂ pas,st = .Assign [.Tuple [.Name "pieces" pp,.Name "texts" pt] k₁ p₁] (.Tuple [.Call (.Name f pf) [] [] pcf,.Call (.Name g pg) [] [] pcg] k₂ p₂) pas ∧
  sc.lookup ("pieces":Str)=some .cell∧isL sc (nmS n_law) 1 "texts"=true∧isG sc f "_law_pieces"=true∧isG sc g "_law_told_texts"=true:=by
 refine hid fun G hG=>?_
 obtain ⟨ts,k₁,p₁,v,pas,e1,h⟩:=onAsgT_inv h
 obtain ⟨es,k₂,p₂,e2,h⟩:=onTup_inv h
 obtain ⟨t1,t2,e3,h⟩:=on2_inv h
 obtain ⟨f1,f2,e4,h⟩:=on2_inv h
 obtain ⟨p,pp,e5,h⟩:=onName_inv h
 obtain ⟨t,pt,e6,h⟩:=onName_inv h
 obtain ⟨f,pf,xs,pcf,e7,h⟩:=onCallN_inv h
 obtain ⟨g,pg,ys,pcg,e8,h⟩:=onCallN_inv h
 refine hG ?_
 have q1:=and2 h
 have q2:=and2 q1.2
 have q3:=and2 q2.2
 have q4:=and2 q3.2
 have q5:=and2 q4.2
 have q6:=and2 q5.2
 have q7:=and2 q6.2
 have ep:=eq_of_beq q3.1
 have et:=eq_of_beq q4.1
 refine ⟨pp,pt,k₁,p₁,f,pf,pcf,g,pg,pcg,k₂,p₂,pas,?_,ep▸eq_of_beq q5.1,et▸q6.1,q7.1,q7.2⟩
 rw [e1,e2,e3,e4,e5,e6,e7,e8,nil_of q1.1,nil_of q2.1,ep,et]
noncomputable def headB (sc:Sc):List Stmt→Bool:=onC fun a r=>head1 sc a && onC (fun b rest=>head2 sc b && chkSs fnm sc (nmS n_law) b_law rest) r
structure LawEnv (env:Env) (L c:Addr):Prop where
 kind:env.scope.kind = .function
 loc:env.locals=L
 glob:env.globals=mainGlobals
 bi:env.builtins=builtinsNs
 frame:env.frame=some L
 cell:env.cells.lookup ("pieces":Str)=some c
theorem ints_rd {H:Addr→Prop} {h:Heap} {vs:List Value} {ns:List Int} (r:IntsAre vs ns):RdAll H h vs (ns.map .int):=by
 induction r with
 |nil=>exact .nil
 |cons n t _ ih=>exact .cons (.int n t) ih
noncomputable def Cx.rebase (X:Cx) (h:Heap) (hs:X.B0.StaysIn h):Cx:={ X with B0:=h,ki:=fun a o e=>hs _ _ (X.ki a o e),top:=X.top.keeps hs }
section
variable {X:Cx} (H:IsX X) {A:Around} {env:Env} {L c:Addr}
include H in
theorem strs_name {f:Nat} {a:Addr} {x y:Str} {xs:List (List Nat)} {sc:Sc} {np pos:Pos} {s:Shared} {E:Value→Shared→Prop} {Q:Value→Shared→Prop} (V:LawEnv env L c) (hsc:env.scope.names=sc) (hx:isG sc x y=true) (hy:fnm[f]?=some y) (ha:adr.getD f 0=a)
  (h1:fdB X.K a=true) (h2:strsB (xs.map S) (bodyOf (fdOf X.K a))=true) (h3:∀ s,BindsTo s (fdOf X.K a) ⟨[],[]⟩ []) (h4:xs.length≤64) (hbase:X.B0.StaysIn s.heap) (hroom:A.depth≤900)
  (h:∀ D vs s',s.heap.get? D=none→s'.heap.get? D=some { cls := .type "list",data := .seq vs }→(∀ H h,RdAll H h vs.toList (xs.map sD))→(∀ b o,s.heap.get? b=some o→s'.heap.get? b=some o)→Same s s'→Q (.ref D) s') :
  wpAny X.M A (eval (.Call (.Name x np) [] [] pos) env) Q E s:=by
 refine hid fun G hG=>?_
 obtain ⟨rfl,e2,e3⟩:=isG_name hx
 have hk:env.kindOf x=some .globalImplicit:=by unfold Env.kindOf;rw [hsc];exact e2
 obtain ⟨n1,n2⟩:=(names_ok H).defs f x (by rw [H.fn];exact hy)
 refine hG ?_
 rw [H.fad f,ha] at n1 n2
 refine wpAny_Call_ofName (Name_function_global V.kind hk (loadGlobal_global (mg:=X.mg) ?_ (mg_of X.ki X.top.g n1) ?_) e3)
 ·rw [V.glob];exact X.top.g.keeps hbase
 ·refine callWith_K0 (K:=X.K) (fun b o e=>hbase _ _ (X.ki b o e)) n2 ?_
  have hr:recursionLimit=1000:=by decide+kernel
  refine strs_call (fnAt_of rfl h1) h2 (by rw [List.length_map];exact h4) (h3 _) hbase (by rw [hr];exact linT fun q=>lin [_] [(1,0,.v 0,.n 900),(1,0,.n 1000,.v 0)] rfl hroom q) fun D vs s' q1 q2 q3 q4 q5=>h D vs s' q1 q2 (fun H h=>?_) q4 q5
  have:=q3 H h
  rwa [List.map_map] at this
theorem def0 {f:Nat} {n:List String} {b:List PS} {dfl:List PyData} (H:IsX X) (h:tabF f=some (n,b,0,dfl)) (hf:f<42) (h18:f≠18) (h29:f≠29):fdB X.K (adr.getD f 0)=true∧∀ s,BindsTo s (fdOf X.K (adr.getD f 0)) ⟨[],[]⟩ []:=by
 rcases H.def f hf with q |q
 ·rw [none_of q] at h;cases h
 obtain ⟨e,h',q⟩:=onO_inv q
 rw [h] at h'
 obtain rfl:=Option.some.inj h'
 have q1:=and2 q
 have q4:=(and2 (and2 q1.2).2).2
 rw [if_neg h18,if_neg h29] at q4
 have q5:=and2 q4
 have q6:=and2 q5.2
 exact ⟨q1.1,fun s=>BindsTo.of_eq (bind_plain (ns:=[]) q6.1 (eq_of_beq q5.1) (and2 q6.2).1 rfl)⟩
theorem not_swapped {p t:Str} {pp pt:Pos} {k₁ k₂:Nat} {p₁ p₂:Pos} {es:List Expr} (hk:env.kindOf p=some .cell) (h:(es.all (foldedForSure 8) || !es.all (constantsAlone 8))=true) (hp:∀ e ∈ es,plainE e=true) :
  swappedStores [.Tuple [.Name p pp,.Name t pt] k₁ p₁] (.Tuple es k₂ p₂) env=pure none:=by
 rcases swapped_pure (env:=env) (ts:=[.Name p pp,.Name t pt]) (k₁:=k₁) (k₂:=k₂) (p₁:=p₁) (p₂:=p₂) h hp with e |⟨names,line,e1,e2,e3⟩
 ·exact e
 ·exfalso
  have hn:nameOf env line (.Name p pp)=none:=by
   show (if (env.kindOf p == some .local && pp.line == line)=true then some p else none)=none
   rw [hk,show (some NameKind.cell == some NameKind.local)=false from rfl,Bool.false_and]
   rfl
  rw [e2,List.filterMap_cons_none hn] at e3
  have:=List.length_filterMap_le (nameOf env line) [Expr.Name t pt]
  rw [e3] at this
  exact absurd this (by decide:¬ 2≤1)
end
end Mine
end
section
open PySem PySem.W PyProof.Rows
open PySem.Calls (Name_function_global loadGlobal_global loadGlobal_builtin)
set_option maxRecDepth 100000
namespace Mine
section
variable {X:Cx} (H:IsX X) {A:Around} {env:Env} {L c:Addr}
include H in
theorem law_rest {sc:Sc} {sts:List Stmt} {s:Shared} {m:Str→Option Value} {v:Value} {p T:Addr} {pv tv:Array Value} {o:Obj} {ns:List Int} (V:LawEnv env L c) (hsc:env.scope.names=sc) (hA:A.frames=some [env]) (hh:A.handled=none) (hd:A.depth≤800) (hu:A.units≤800)
  (hc:chkSs fnm sc (nmS n_law) b_law sts=true) (hbase:X.B0.StaysIn s.heap) (hBL:X.B0.get? L=none) (hBT:X.B0.get? T=none) (hcL:c≠L) (hns:s.heap.Ns L m) (hm0:m "script"=some v) (hm1:m "texts"=some (.ref T)) (hv:Rd (fun b=>b=L∨b=T) s.heap v (.list (ns.map .int))) (h63:ns.length≤63)
  (hco:s.heap.get? c=some o) (hcd:o.data = .cell (some (.ref p))) (hp:s.heap.get? p=some { cls := .type "list",data := .seq pv }) (hpv:∀ H h,RdAll H h pv.toList (pieces.map sD)) (hT:s.heap.get? T=some { cls := .type "list",data := .seq tv }) (htv:∀ H h,RdAll H h tv.toList (told.map sD)) (hpT:p≠T) :
  wpAny X.M A (execs sts env) (fun f s'=>f = .ret (.bool true)∧X.B0.StaysIn s'.heap∧Same s s') (fun _ _=>False) s:=by
 have hTL:T≠L:=fun q=>by rw [q] at hT;exact ns_notseq hns hT rfl
 have hpL:p≠L:=fun q=>by rw [q] at hp;exact ns_notseq hns hp rfl
 have hcT:c≠T:=fun q=>by rw [q,hT] at hco;cases hco;cases hcd
 have hst:X.B0.StaysIn (hideAll s.heap [L,T]):=fun b ob e=>hideAll_get _ (hbase _ _ e) fun hm=>by
  rcases List.mem_cons.mp hm with rfl |hm
  ·rw [hBL] at e;cases e
  ·rw [List.mem_singleton.mp hm,hBT] at e;cases e
 have H':IsX (X.rebase _ hst):=⟨H.ok,H.fn,H.fad,H.rc⟩
 have hnm:(nmS n_law).Nodup:=by decide+kernel
 have pcAt:PcAt (X.rebase _ hst) c:=⟨o,p,pv,0,hideAll_get _ hco (by simp [hcL,hcT]),hcd,hideAll_get _ hp (by simp [hpL,hpT]),fun i t hi=>by
  have:(pieces.map sD)[i]?=some (sD t):=by rw [List.getElem?_map,hi];rfl
  obtain ⟨w,hw,r⟩:=(hpv (fun _=>False) s.heap).get this
  cases r with
  |str _ u=>exact ⟨u,by rw [← Array.getElem?_toList];exact hw⟩⟩
 have sd:Sd (X.rebase _ hst) A env L [] (fun b=>b=L∨b=T) (nmS n_law) s:=⟨⟨[],hA⟩,V.frame,(fun b hb=>nomatch hb),.inl (.inl rfl),(fun q=>nomatch q),hnm,fun e he=>by rw [hh] at he;cases he⟩
 have st:St (X.rebase _ hst) A env L [L] (fun b=>b=L∨b=T) sc (nmS n_law) (fun _=>T) [.d (.list (ns.map .int)),.own (told.map sD),.un,.un,.un,.un,.un,.un,.un] 42 2 s.heap:=by
  refine ⟨⟨fun b ob e=>of_hideAll _ e,⟨[env],hA,?_,fun env' he=>?_⟩,fun _=>hh,(fun _ w hw=>by rw [hh] at hw;cases hw),(fun w hw=>by rw [hh] at hw;cases hw),Nat.le_refl _⟩,⟨V.kind,hsc,V.loc,V.glob,V.bi,fun _=>⟨c,V.cell,pcAt⟩⟩,⟨m,hns,fun i x hx=>?_⟩,rfl,fun b hb => .inl (List.mem_singleton.mp hb),fun b hb=>?_,.inl rfl,by exact linL fun q=>lin [_] [(1,0,.v 0,.n 800),(1,0,.a (.n 900) (.n 1),.a (.v 0) (.n 42))] rfl hd q,by exact linL fun q=>lin [_] [(1,0,.v 0,.n 800),(1,0,.a (.n 9000) (.n 1),.a (.a (.v 0) (.s 8 (.n 42))) (.n 200))] rfl hu q,fun b hb=>?_⟩
  ·simp [V.frame]
  ·rw [List.mem_singleton.mp he]
   exact ⟨V.kind,L,V.frame,hideAll_none _ (by simp),m,hns⟩
  ·rcases i with _ |_ |i
   ·cases hx;exact ⟨v,hm0,hv⟩
   ·cases hx;exact ⟨hm1,tv,0,hT,htv _ _⟩
   ·rcases i with _ |_ |_ |_ |_ |_ |_ |i <;> trivial
  ·rcases hb with rfl |rfl
   ·obtain ⟨ob,_,_,ho,_⟩:=hns;exact ⟨ob,ho⟩
   ·exact ⟨_,hT⟩
  ·exact hideAll_none _ (by rcases hb with rfl |rfl <;> simp)
 have x:Sx (X.rebase _ hst) A env L [] (fun _=>False) (fun b=>b=L∨b=T) sc (nmS n_law) 42 2 s (fun b=>b=L∨b=T) (fun _=>T) [.d (.list (ns.map .int)),.own (told.map sD),.un,.un,.un,.un,.un,.un,.un] s:=by
  refine ⟨st,fun b hb=>hb.elim,fun i ds hi=>⟨.inr rfl,fun q=>q,.inl (.inr rfl),fun j ds' hj _=>?_,hideAll_none _ (by simp)⟩,.refl _ _ _,.refl _,fun b hb => .inr (.inr (.inl hb))⟩
  have one:∀ (k:Nat) (dd:List PyData),([.d (.list (ns.map .int)),.own (told.map sD),.un,.un,.un,.un,.un,.un,.un]:Loc)[k]?=some (.own dd)→k=1:=fun k dd hk=>by
   rcases k with _ |_ |_ |_ |_ |_ |_ |_ |_ |k <;> first |rfl |cases hk
  rw [one i ds hi,one j ds' hj]
 refine wpAny_mono (pss_ok (names_ok H') (fun lv f _ hr=>all_ok H' f lv hr) (err_ok H') b_law (Q:=OutR (.ok (.bool true))) sd (fun _ q=>by cases q) (by rw [show (X.rebase _ hst).fn=fnm from H.fn];exact hc) x (law_wps h63)) ?_ ?_
 ·rintro f s' ⟨out,HS',oa',ρ',ho,x',hf⟩
  have keep:X.B0.StaysIn s'.heap:=fun b ob e=>x'.ek.keep b ob (hbase _ _ e) fun q=>by
   rcases q with rfl |rfl
   ·rw [hBL] at e;cases e
   ·rw [hBT] at e;cases e
  cases out with
  |nxt _=>cases ho
  |brk _=>exact ho.elim
  |exc _=>cases ho
  |ret d=>
   cases f <;> try exact hf.elim
   have e:PyData.bool true=d:=by cases ho;rfl
   subst e
   cases hf
   exact ⟨rfl,keep,x'.same⟩
 ·rintro e s' ⟨_,ex,_,ho,_⟩
  cases ho
end
end Mine
end
section
open PySem PySem.W PyProof.Rows
open PySem.Calls (Name_function_global loadGlobal_global loadGlobal_builtin)
set_option maxRecDepth 100000
namespace Mine
section
variable {X:Cx} (H:IsX X) {A:Around} {env:Env} {L c:Addr}
include H in
theorem at31:fdB X.K 264=true∧strsB (pieces.map S) (bodyOf (fdOf X.K 264))=true∧∀ s,BindsTo s (fdOf X.K 264) ⟨[],[]⟩ []:=
 have q:=def0 (f:=31) H (show tabF 31=some _ from rfl) (by decide) (by decide) (by decide)
 ⟨q.1,(and2 H.str).1,q.2⟩
include H in
theorem at32:fdB X.K 271=true∧strsB (told.map S) (bodyOf (fdOf X.K 271))=true∧∀ s,BindsTo s (fdOf X.K 271) ⟨[],[]⟩ []:=
 have q:=def0 (f:=32) H (show tabF 32=some _ from rfl) (by decide) (by decide) (by decide)
 ⟨q.1,(and2 H.str).2,q.2⟩
include H in
theorem law_run {sc:Sc} {sts:List Stmt} {s:Shared} {m:Str→Option Value} {l:Addr} {vs:Array Value} {o:Obj} {ns:List Int} (V:LawEnv env L c) (hsc:env.scope.names=sc) (hA:A.frames=some [env]) (hh:A.handled=none) (hd:A.depth≤800) (hu:A.units≤800)
  (hc:headB sc sts=true) (hbase:X.B0.StaysIn s.heap) (hBL:X.B0.get? L=none) (hBc:X.B0.get? c=none) (hcL:c≠L) (hns:s.heap.Ns L m) (hm0:m "script"=some (.ref l)) (hl:s.heap.IsList l vs) (hI:IntsAre vs.toList ns) (h63:ns.length≤63)
  (hco:s.heap.get? c=some o) (hcd:o.data = .cell none) :
  wpAny X.M A (execs sts env) (fun f s'=>f = .ret (.bool true)∧X.B0.StaysIn s'.heap∧Same s s') (fun _ _=>False) s:=by
 refine hid fun G hG=>?_
 replace hc:=onC_inv hc
 obtain ⟨st1,r,rfl,hc⟩:=hc
 replace hc:=and2 hc
 obtain ⟨c1,hc⟩:=hc
 replace hc:=onC_inv hc
 obtain ⟨st2,rest,rfl,hc⟩:=hc
 refine hG ?_
 have c2:=and2 hc
 have i1:=head1_inv c1
 have i2:=head2_inv c2.1
 have hrest:=c2.2
 clear hc c1 c2
 refine hid fun G hG=>?_
 obtain ⟨hx,px,py,kn,pn,psl,psb,pas1,rfl⟩:=i1
 obtain ⟨pp,pt,k₁,p₁,f,pf,pcf,g,pg,pcg,k₂,p₂,pas2,rfl,hpc,ht,hf,hg⟩:=i2
 refine hG ?_
 ·refine hid fun G hG=>?_
  obtain ⟨_,x2,x3⟩:=isL_name hx
  obtain ⟨t1,t2,t3⟩:=isL_name ht
  have hkx:env.kindOf ("script":Str)=some .local:=by unfold Env.kindOf;rw [hsc];exact x2
  have hkt:env.kindOf ("texts":Str)=some .local:=by unfold Env.kindOf;rw [hsc];exact t2
  have hkp:env.kindOf ("pieces":Str)=some .cell:=by unfold Env.kindOf;rw [hsc];exact hpc
  have hkf:(env.scope.kind == .class || (env.scope.kind == .module && env.locals !=env.globals))=false:=by rw [V.kind];rfl
  have hlim:(ns.map PyData.int).length≤lim:=by rw [List.length_map];exact Nat.le_trans h63 (by decide)
  obtain ⟨⟨lc,ldd,ldat,lsl⟩,hlo,hlc,ln,hld⟩:=hl
  refine hG ?_
  dsimp only at hlc hld
  subst hlc hld
  refine wpAny_execs_cons (wpAny_Assign_Name (Subscript_ (wpAny_Name (wpAny_loadName_local V.kind hkx (by rw [V.loc];exact hns) hm0 ?_) x3)) rfl)
  refine wpAny_Slice ?_
  rw [evalPart_none]
  refine wpAny_pure ?_
  refine evalPart_some_step (wpAny_Constant_int ?_)
  refine wpAny_pure ?_
  refine wpAny_mono (sl_ok (X:=X) (A:=A) (FS:=[]) (HS:=fun _=>False) (x := .list (ns.map .int)) (Q:=fun d=>d = .list ((ns.take 63).map .int)) (E:=fun _ _=>False) (s:={ s with toks:=s.toks+1 }) (fun b hb=>hb.elim) (.list hlo (fun q=>q) (ints_rd hI)) (ll:=none) (lu:=some (63,s.toks)) ⟨hlim,by
    show PyData.list (List.take (63 - 0) (List.drop 0 (ns.map PyData.int)))=_
    rw [List.drop_zero,map_int_take]⟩) ?_ fun _ _ e=>e
  rintro v s₁ ⟨d,rfl,rv,y₁,z₁⟩
  have k₁':∀ b o,s.heap.get? b=some o→s₁.heap.get? b=some o:=fun b o e=>y₁.keep b o e (fun q=>nomatch q)
  refine wpAny_storeName_local hkx (by rw [V.loc];exact hns.keeps k₁') (fun h₂ hn₂ sb₂=>?_) hkf
  rw [V.loc] at hn₂ sb₂
  have hLo:∃ ob es ep,s₁.heap.get? L=some ob∧ob.data = .dict es ep:=by
   refine hid fun G hG=>?_
   obtain ⟨ob,es,ep,e1,e2,_⟩:=hns.keeps k₁'
   refine hG ?_
   exact ⟨ob,es,ep,e1,e2⟩
  have k₂':∀ b o,s.heap.get? b=some o→b≠L→h₂.get? b=some o:=fun b o e q=>(sb₂.2 b q).trans (k₁' b o e)
  have hB₂:X.B0.StaysIn h₂:=fun b o e=>k₂' b o (hbase _ _ e) fun q=>by rw [q,hBL] at e;cases e
  have rv₂:Rd (fun _=>False) h₂ v (.list ((ns.take 63).map .int)):=rv.monoS (fun b o ws nn e hd' _=>(sb₂.2 b fun q=>by
   refine hid fun G hG=>?_
   obtain ⟨ob,es,ep,e1,e2⟩:=hLo
   refine hG ?_
   rw [q,e1] at e;cases e;rw [e2] at hd';cases hd').trans e) fun _ _ _ _ _ _ q=>q
  have hc₂:h₂.get? c=some o:=k₂' c o hco hcL
  refine wpAny_execs_cons (Assign_Tuple ?_ rfl (not_swapped hkp (by rfl) (by intro e he;simp only [List.mem_cons,List.not_mem_nil,or_false] at he;rcases he with rfl |rfl <;> rfl)))
  refine Tuple_ (wpAny_items_cons (strs_name H (f:=31) (a:=264) V hsc hf rfl rfl (at31 H).1 (at31 H).2.1 (at31 H).2.2 (by decide) hB₂ (by exact linL fun q=>lin [_] [(1,0,.v 0,.n 800),(1,0,.a (.n 900) (.n 1),.v 0)] rfl hd q) fun p pv s₃ n₃ hp hpv k₃ z₃=>?_) rfl)
  have hB₃:X.B0.StaysIn s₃.heap:=fun b o e=>k₃ b o (hB₂ b o e)
  refine wpAny_items_cons (strs_name H (f:=32) (a:=271) V hsc hg rfl rfl (at32 H).1 (at32 H).2.1 (at32 H).2.2 (by decide) hB₃ (by exact linL fun q=>lin [_] [(1,0,.v 0,.n 800),(1,0,.a (.n 900) (.n 1),.v 0)] rfl hd q) fun T tv s₄ n₄ hT htv k₄ z₄=>?_) rfl
  refine wpAny_items_nil ?_
  refine wpAny_newTuple ?_ (by rw [sizeLine_eq];simp)
  have hpT:p≠T:=fun q=>by rw [q,n₄] at hp;cases hp
  have k₅:∀ b o,s₄.heap.get? b=some o→(s₄.heap.push { cls := .type "tuple",data := .seq [Value.ref p,.ref T].toArray }).get? b=some o:=fun b o e=>Heap.get?_push_of_some _ e
  refine Mine.assign_Tuple (fun w hw=>by rw [hh] at hw;cases hw) ⟨_,Heap.get?_push_size _ rfl,rfl,_,rfl⟩ rfl rfl fun h₆ k₆=>?_
  have kk:∀ b o,h₂.get? b=some o→h₆.get? b=some o:=fun b o e=>k₆ b o (k₅ b o (k₄ b o (k₃ b o e)))
  have hc₆:h₆.get? c=some o:=kk c o hc₂
  have hp₆:=k₆ p _ (k₅ p _ (k₄ p _ hp))
  have hT₆:=k₆ T _ (k₅ T _ hT)
  have hn₆:=hn₂.keeps kk
  have hTL:T≠L:=fun q=>by rw [q] at hT₆;exact ns_notseq hn₆ hT₆ rfl
  have hpL:p≠L:=fun q=>by rw [q] at hp₆;exact ns_notseq hn₆ hp₆ rfl
  have hcT:T≠c:=fun q=>by rw [q,hc₆] at hT₆;cases hT₆;cases hcd
  have hcp:p≠c:=fun q=>by rw [q,hc₆] at hp₆;cases hp₆;cases hcd
  show wpAny X.M A (do holding _ (assign (.Name "pieces" pp) env (.ref p));assignInOrder ((assignEach [.Name "texts" pt] env).map (·.2)) [.ref T]) _ _ _
  refine wpAny_bind (wpAny_holding (wpAny_assign_Name (wpAny_storeName_cell V.kind hkp V.cell ⟨o,hc₆,hcd⟩ fun h₇ hv₇ sb₇=>?_)))
  show wpAny X.M A (do holding _ (assign (.Name "texts" pt) env (.ref T));assignInOrder ((assignEach [] env).map (·.2)) []) _ _ _
  have hn₇:=hn₆.sameBut sb₇ (Ne.symm hcL)
  refine wpAny_bind (wpAny_holding (wpAny_assign_Name (wpAny_storeName_local hkt (by rw [V.loc];exact hn₇) (fun h₈ hn₈ sb₈=>?_) hkf)))
  rw [V.loc] at hn₈ sb₈
  refine wpAny_pure ?_
  have k₈:∀ b o,h₆.get? b=some o→b≠c→b≠L→h₈.get? b=some o:=fun b o e q1 q2=>(sb₈.2 b q2).trans ((sb₇.2 b q1).trans e)
  have hB₈:X.B0.StaysIn h₈:=fun b o e=>k₈ b o (kk b o (hB₂ b o e)) (fun q=>by rw [q,hBc] at e;cases e) fun q=>by rw [q,hBL] at e;cases e
  obtain ⟨o',hc₇,hcd'⟩:=hv₇
  have hc₈:h₈.get? c=some o':=(sb₈.2 c hcL).trans hc₇
  have hBT:X.B0.get? T=none:=by
   cases q:X.B0.get? T with
   |none=>rfl
   |some ob=>have:=hB₃ T ob q;rw [n₄] at this;cases this
  refine wpAny_mono (law_rest H (s:=⟨h₈,_,_,_,_⟩) (ns:=ns.take 63) V hsc hA hh hd hu hrest hB₈ hBL hBT hcL hn₈ (by show (if ("script":Str)="texts" then _ else (if ("script":Str)="script" then some v else _))=some v;rw [if_neg (by decide+kernel),if_pos rfl]) (by show (if ("texts":Str)="texts" then some (Value.ref T) else _)=_;rw [if_pos rfl]) ?_ (by rw [List.length_take];exact linL fun q=>lin [_] [(1,0,.v 0,.n 63),(1,0,.a (.n 63) (.n 1),.v 0)] rfl (Nat.min_le_left _ _) q) hc₈ hcd' (k₈ p _ hp₆ hcp hpL) hpv (k₈ T _ hT₆ hcT hTL) htv hpT) ?_ fun _ _ e=>e
  ·refine rv₂.monoS (fun b ob ws nn e hd' _=>k₈ b ob (kk b ob e) (fun q=>?_) fun q=>?_) fun b ob ws nn e hd' q=>?_
   ·rw [q,hc₂] at e;cases e;rw [hcd] at hd';cases hd'
   ·rw [q] at e;exact ns_notseq hn₂ e hd'
   ·rcases q with rfl |rfl
    ·exact ns_notseq hn₂ e hd'
    ·have:=k₃ _ _ e;rw [n₄] at this;cases this
  ·rintro fl s' ⟨q1,q2,q3⟩
   exact ⟨q1,q2,Same.trans (b:=s₄) ((Same.mk' s s.heap _).trans <| z₁.trans ((Same.mk' s₁ h₂ _).trans (z₃.trans z₄))) ⟨q3.1,q3.2,q3.3⟩⟩
end
end Mine
end
section
open PySem PySem.W PyProof.Rows
set_option maxRecDepth 100000
namespace Mine
theorem left_one {p q:Program} {loose:List Str} {Xt:Shared→Bool} {α:Type} {Yf:Shared→α} {Ya:World→α} {N m₀:Nat} {H₀:Params→Heap} {d₀:Drawn} {k₀:Nat} {ann:Option Value}
  (op:∀ w:World,(fencedOpening treeTable p w N).map (fun s=>(s.heap,s.gens,s.drawn,s.toks))=some (H₀ w.params,#[],d₀,k₀))
  (size:∀ P,((H₀ P).isNs mainGlobals,(H₀ P).objs.size,(H₀ P).nsMap mainGlobals "__annotations__")=(true,m₀,ann))
  (run:∀ (w:World) (os:OsState),(topRun treeTable p w m₀ ann N ⟨H₀ w.params,#[],d₀,k₀,os⟩ (topStub p)).map (fun s=>(staticsOk (importedModules p.main.body) (H₀ w.params) s.heap && namesBound p s.heap && gensDone s && laidKept (H₀ w.params) s.heap,openSeen q loose (importedModules p.main.body) Xt true s,Yf s))=some (true,openGood q loose,Ya w)) :
  LeftO p q loose Xt Yf Ya N:=fun w=>by
 obtain ⟨⟨h,gs,d,k,os⟩,e,e'⟩:=Option.map_eq_some_iff.mp (op w)
 obtain ⟨rfl,rfl,rfl,rfl⟩:h=H₀ w.params∧gs = #[]∧d=d₀∧k=k₀:=by simpa using e'
 have z:=size w.params
 have z1:=congrArg Prod.fst z
 have z2:=congrArg (fun x=>x.2.1) z
 have z3:=congrArg (fun x=>x.2.2) z
 dsimp only at z1 z2 z3
 obtain ⟨s₁,r,l⟩:=Option.map_eq_some_iff.mp (run w os)
 have l1:=congrArg Prod.fst l
 have l2:=congrArg Prod.snd l
 dsimp only at l1 l2
 have t:topFrom treeTable p w N ⟨H₀ w.params,#[],d,k,os⟩=some s₁:=by
  unfold topFrom
  dsimp only
  rw [z1,z2,z3,r]
  show (match staticsOk (importedModules p.main.body) (H₀ w.params) s₁.heap && namesBound p s₁.heap && gensDone s₁ && laidKept (H₀ w.params) s₁.heap with |true=>_ |false=>_)=_
  rw [l1]
 unfold openEnds
 rw [e]
 show (topFrom treeTable p w N _).map _=_
 rw [t]
 exact congrArg some l2
noncomputable def q:Program:=view PySem.Challenge.pw_oj0062_01 [48]
noncomputable def loose:List Str:=(PySem.Challenge.pw_oj0062_01.main.scope.names.map (·.1)).filter fun n=>n !="law" && n !="Exception" && n !="__name__"
noncomputable def adrs:List Addr:=[3,23,29,30,32,33,37,38,44,45,51,52,58,59,65,66,72,73,79,80,86,87,93,94,101,107,108,115,122,129,135,136,142,143,149,150,156,157,163,164,165,171,172,178,179,185,186,192,193,199,200,206,207,213,214,220,221,227,228,234,235,241,242,243,249,250,256,257,263,264,270,271,277,278,284,285,291,292,298,299,305,306,312,313,319,320,324,325,329,330]
noncomputable def obs (s:Shared):Bool:=okAll (kOf s.heap adrs)
noncomputable def says (_:World) (h:Heap):Prop:=∃ K:Frag,K.In h∧okAll K=true
theorem says_of (w:World) (s:Shared) (e:obs s=true):says w s.heap:=⟨_,kOf_in,e⟩
theorem says_keeps (w:World) (h h':Heap) (x:says w h) (k:∀ b o,h.get? b=some o→h'.get? b=some o):says w h':=let ⟨K,ki,e⟩:=x;⟨K,fun a o q=>k _ _ (ki a o q),e⟩
theorem boot_size:∀ P,((boot_heap P).isNs mainGlobals,(boot_heap P).objs.size,(boot_heap P).nsMap mainGlobals "__annotations__")=(true,11,some (.ref 6)):=fun P=>by kernel_rfl
noncomputable def run0 (w:World) (os:OsState):Option Shared:=topRun treeTable PySem.Challenge.pw_oj0062_01 w 11 (some (.ref 6)) 4000 ⟨boot_heap w.params,#[],boot_drawn,boot_toks,os⟩ (topStub PySem.Challenge.pw_oj0062_01)
noncomputable def obsD (l:List Nat) (s:Shared):Bool:=l.all fun f=>(tabF f).isNone || okDef (kOf s.heap adrs) f
noncomputable def obsR (s:Shared):Bool:=okStr (kOf s.heap adrs) && (okErr (kOf s.heap adrs) && (okInit (kOf s.heap adrs) && (okNames (kOf s.heap adrs) && okGlobs (kOf s.heap adrs))))
theorem obs_of {s:Shared} (h1:obsD (List.range 21) s=true) (h2:obsD ((List.range 42).drop 21) s=true) (h3:obsR s=true):obs s=true:=by
 have e:List.range 42=List.range 21++(List.range 42).drop 21:=rfl
 have h:obsD (List.range 42) s=true:=by rw [e,obsD,List.all_append];exact Bool.and_eq_true_iff.mpr ⟨h1,h2⟩
 have q:=and2 h3
 exact Bool.and_eq_true_iff.mpr ⟨q.1,Bool.and_eq_true_iff.mpr ⟨h,q.2⟩⟩
set_option maxHeartbeats 4000000 in
theorem run_a (w:World) (os:OsState):(run0 w os).map (fun s=>(staticsOk (importedModules PySem.Challenge.pw_oj0062_01.main.body) (boot_heap w.params) s.heap && namesBound PySem.Challenge.pw_oj0062_01 s.heap && gensDone s && laidKept (boot_heap w.params) s.heap,openSeen q loose (importedModules PySem.Challenge.pw_oj0062_01.main.body) (fun s=>xlAt q [] s && recOk PySem.Challenge.rw_oj0062_01.row.records s) true s))=some (true,openGood q loose):=by
 unfold run0
 rw [PySem.W.Fast.te14082659384304107361,PySem.W.Fast.te14364793385576792824,PySem.W.Fast.te4187177175401517315,PySem.W.Fast.te5923862056798008813]
 kernel_rfl
theorem run_b (w:World) (os:OsState):(run0 w os).map (obsD (List.range 21))=some true:=by
 unfold run0
 rw [PySem.W.Fast.te14082659384304107361,PySem.W.Fast.te14364793385576792824]
 kernel_rfl
theorem run_c (w:World) (os:OsState):(run0 w os).map (obsD ((List.range 42).drop 21))=some true:=by
 unfold run0
 rw [PySem.W.Fast.te14082659384304107361,PySem.W.Fast.te14364793385576792824]
 kernel_rfl
theorem run_d (w:World) (os:OsState):(run0 w os).map obsR=some true:=by
 unfold run0
 rw [PySem.W.Fast.te14082659384304107361,PySem.W.Fast.te14364793385576792824]
 kernel_rfl
theorem run_ok (w:World) (os:OsState):(topRun treeTable PySem.Challenge.pw_oj0062_01 w 11 (some (.ref 6)) 4000 ⟨boot_heap w.params,#[],boot_drawn,boot_toks,os⟩ (topStub PySem.Challenge.pw_oj0062_01)).map (fun s=>(staticsOk (importedModules PySem.Challenge.pw_oj0062_01.main.body) (boot_heap w.params) s.heap && namesBound PySem.Challenge.pw_oj0062_01 s.heap && gensDone s && laidKept (boot_heap w.params) s.heap,openSeen q loose (importedModules PySem.Challenge.pw_oj0062_01.main.body) (fun s=>xlAt q [] s && recOk PySem.Challenge.rw_oj0062_01.row.records s) true s,obs s))=some (true,openGood q loose,true):=by
 obtain ⟨s,e,a⟩:=Option.map_eq_some_iff.mp (run_a w os)
 have b:=run_b w os
 have c:=run_c w os
 have d:=run_d w os
 rw [e] at b c d
 show (run0 w os).map _=_
 rw [e]
 have o:=obs_of (Option.some.inj b) (Option.some.inj c) (Option.some.inj d)
 have a1:=congrArg Prod.fst a
 have a2:=congrArg Prod.snd a
 dsimp only at a1 a2
 show some (_,_,_)=_
 rw [a1,a2,o]
theorem open_ok:∀ w:World,(fencedOpening treeTable PySem.Challenge.pw_oj0062_01 w 4000).map (fun s=>(s.heap,s.gens,s.drawn,s.toks))=some (boot_heap w.params,#[],boot_drawn,boot_toks):=boot_open (by kernel_rfl) (by kernel_rfl) (fun s=>by kernel_rfl)
theorem left_ok:LeftO PySem.Challenge.pw_oj0062_01 q loose (fun s=>xlAt q [] s && recOk PySem.Challenge.rw_oj0062_01.row.records s) obs (fun _=>true) 4000:=left_one open_ok boot_size run_ok
end Mine
end
section
open PySem PySem.W PyProof.Rows
set_option maxRecDepth 100000
namespace Mine
set_option maxHeartbeats 4000000 in
theorem said_ok:PySem.Challenge.rw_oj0062_01.wellSaid=true:=by
 rw [PySem.W.Fast.te9446332074065402090]
 refine look_both (look_both (look_both (look_both (look_both (look_both (look_both (look_both (look_both (look_both (look_both (look_both (look_both (look_both (look_both (look_both (look_both (look_both (look_both (look_both ?_ ?_) ?_) ?_) ?_) ?_) ?_) ?_) ?_) ?_) ?_) ?_) ?_) ?_) ?_) ?_) ?_) ?_) ?_) ?_) ?_
 ·refine look_both (look_both (look_both (look_both (look_both (look_both (look_both (look_both (look_both (look_both (look_both (look_both (look_both ?_ ?_) ?_) ?_) ?_) ?_) ?_) ?_) ?_) ?_) ?_) ?_) ?_) ?_
  ·refine look_both (look_both (look_both (look_both (look_both ?_ ?_) ?_) ?_) ?_) ?_
   all_goals as_aux_lemma=>kernel_rfl
  all_goals as_aux_lemma=>kernel_rfl
 all_goals as_aux_lemma=>kernel_rfl
theorem bare_ok:PySem.Challenge.rw_oj0062_01.row.prog.bare:=⟨rfl,rfl,rfl,rfl,rfl,by decide+kernel⟩
theorem well_ok:(chainsOk q && opensWell PySem.Challenge.rw_oj0062_01.row.prog && (frees PySem.Challenge.rw_oj0062_01.row.toRowW && PySem.Challenge.rw_oj0062_01.row.within.isEmpty))=true:=by decide+kernel
end Mine
end
open PySem PySem.W PyProof.Rows
theorem Mine.isList_keep {h h':Heap} {a:Addr} {vs:Array Value} (k:∀ b o,h.get? b=some o→h'.get? b=some o) (x:h.IsList a vs):h'.IsList a vs:=let ⟨o,h1,h2⟩:=x;⟨o,k _ _ h1,h2⟩
set_option maxRecDepth 100000 in
set_option maxHeartbeats 8000000 in
theorem PySem.Challenge.cw_oj0062_01_holds : PySem.Challenge.rw_oj0062_01.Holds := by
 w_on
 refine holds_law Mine.said_ok fun said=>?_
 refine holds_open (q:=Mine.q) (loose:=Mine.loose) (Xt:=fun s=>xlAt Mine.q [] s && recOk PySem.Challenge.rw_oj0062_01.row.records s) (XP:=XL Mine.q []) (Yf:=Mine.obs) (Ya:=fun _=>true) (YP:=Mine.says) (N:=4000) Mine.left_ok Mine.says_of Mine.says_keeps (fun s e=>xl_of s (Bool.and_eq_true_iff.mp e).1) XL.keeps (by rfl) (by rfl) (by rfl) (fun s e=>recFacts_of (Bool.and_eq_true_iff.mp e).2) (by rfl) said Mine.well_ok Mine.bare_ok ?hw ?hc
 case hw=>w_witness2
 intro w s₀ s₁ mg mb G Y fa o pm cd doc dV kV ho hd hcd hD hmg hg args vals as hpre hlay hrd hwl hlo
 obtain ⟨K,KX,KO⟩:=Y
 refine Ground.open G ?_
 intro T B D TE TW
 obtain ⟨_,_,M⟩:=bmod_of_top T
 have TA:=at_of_top T
 clear hmg
 wrow_args hpre hlay hrd hwl hlo
 refine enter_call ?_
 w_top on
 refine codeAny_mono ?_ (fun _ _ g=>GoodW.toG g)
 have K0:=below_caller (Top.heap T)
 w_call any ho hd hcd hD T F
 clear hd TA
 k_drop
 rename Top _ _ _ _ _ _=>T
 rename Fr _ _ _ _=>F
 rename News _ _ _ _=>N
 rename IntsAre _ _=>hI
 rename Heap.IsList _ _ _=>hL
 rename (¬ _<_)=>h63
 rename (_=Data.cell _)=>hcd
 rename (_=(#[]:Array _))=>hgens
 rename World=>w
 have H:Mine.IsX { prog:=PySem.Challenge.rw_oj0062_01.row.prog,w:=w,K:=K,B0:=_,p:=Mine.q,loose:=_,mg:=_,mb:=_,ki:=KX,top:=topRead_of T,fn:=Mine.fnm,fad:=fun f=>Mine.adr.getD f 0,rc:=33 }:=⟨KO,rfl,fun _=>rfl,rfl⟩
 refine wpAny_mono (Mine.law_run H (c:=_+1) ⟨rfl,rfl,rfl,rfl,rfl,?c1⟩ rfl rfl rfl ?c2 ?c3 ?c4 F.keep ?c5 (N _ (.head _)).2.2 ?c6 F.ns ?c7 (Mine.isList_keep F.keep hL) hI ?c10 (N.get (.head _)) ?c11) ?c12 ?c13
 case c1=>kernel_rfl
 case c2=>show (302:Nat)≤800;omega
 case c3=>show (7:Nat)≤800;omega
 case c4=>kernel_rfl
 case c5=>exact Heap.get?_none_of_le (Nat.le_refl _)
 case c6=>exact Nat.succ_ne_self _
 case c7=>kernel_rfl
 case c10=>omega
 case c11=>rw [hcd];kernel_rfl
 case c13=>intro e s' q;exact q.elim
 case c12=>
  rintro f s' ⟨rfl,hk,hs⟩
  refine ⟨.inl ⟨.bool true,.bool true,[],rfl,fun _=>rfl,.bool _,?_,?_⟩,fun b o e=>hk b o e,hs.os,?_⟩
  ·exact postW_of (by wrow_shape) (by wtm_val) (by w_fin)
  ·exact fun _=>⟨List.nodup_nil,fun a ha=>nomatch ha⟩
  ·exact hs.gens.trans hgens
