import PyProof.Rows.All
import Wide.All
import OpenK.AllK
import Wide.FinOn
import Open.Boot
import KE.KxDecode
import PySem.Challenge.RW_on0051_01
set_option Elab.async false
set_option maxRecDepth 100000
set_option maxHeartbeats 0
set_option linter.unusedVariables false
namespace Mine
noncomputable section
open PySem PySem.W
noncomputable abbrev Q0:Str:=⟨#[105,110,116,56]⟩
noncomputable abbrev Q1:Str:=⟨#[105,110,116]⟩
noncomputable abbrev Q2:Str:=⟨#[105,110,116,54,52]⟩
noncomputable abbrev Q3:Str:=⟨#[117,105,110,116,56]⟩
noncomputable abbrev Q4:Str:=⟨#[117,105,110,116,49,54]⟩
noncomputable abbrev Q5:Str:=⟨#[99,111,110,115,116]⟩
noncomputable abbrev Q6:Str:=⟨#[118,97,114]⟩
noncomputable abbrev Q7:Str:=⟨#[104,101,97,112]⟩
noncomputable abbrev Q8:Str:=⟨#[119,104,101,114,101]⟩
noncomputable abbrev Q9:Str:=⟨#[107,105,110,100]⟩
noncomputable abbrev Qa:Str:=⟨#[99,111,110,116,101,110,116]⟩
noncomputable abbrev Qb:Str:=⟨#[114,111,119]⟩
noncomputable abbrev Qc:Str:=⟨#[112,97,110,105,99]⟩
noncomputable abbrev Qd:Str:=⟨#[115,116,114,105,110,103]⟩
noncomputable abbrev Qe:Str:=⟨#[109,97,112]⟩
noncomputable abbrev Qf:Str:=⟨#[112,108,97,99,101]⟩
noncomputable abbrev Qg:Str:=⟨#[99,104,97,110]⟩
noncomputable abbrev Qh:Str:=⟨#[102,97,99,101]⟩
noncomputable abbrev Qi:Str:=⟨#[115,108,105,99,101]⟩
noncomputable abbrev Qj:Str:=⟨#[115,105,122,101]⟩
noncomputable abbrev Qk:Str:=⟨#[109,97,121,95,99,111,109,112,97,114,101]⟩
noncomputable abbrev Ql:Str:=⟨#[108,101,110]⟩
noncomputable abbrev Qm:Str:=⟨#[99,111,110,118,101,114,116]⟩
noncomputable abbrev Qn:Str:=⟨#[114,101,103]⟩
noncomputable abbrev Qo:Str:=⟨#[101,110,116,114,105,101,115]⟩
noncomputable abbrev Qp:Str:=⟨#[99,111,109,105,110,103]⟩
noncomputable abbrev Qq:Str:=⟨#[108,111,97,100]⟩
noncomputable abbrev Qr:Str:=⟨#[98,105,110,97,114,121]⟩
noncomputable abbrev Qs:Str:=⟨#[109,97,112,103,101,116]⟩
noncomputable abbrev Qt:Str:=⟨#[117,116,102,45,56]⟩
noncomputable abbrev Qu:Str:=⟨#[102,105,101,108,100,112,116,114]⟩
noncomputable abbrev Qv:Str:=⟨#[109,97,112,115,101,116]⟩
noncomputable abbrev Qw:Str:=⟨#[112,116,114]⟩
noncomputable abbrev Qx:Str:=⟨#[105,110,118,97,108,105,100,32,115,116,97,114,116,32,98,121,116,101]⟩
noncomputable abbrev Qy:Str:=⟨#[62,61]⟩
noncomputable abbrev Qz:Str:=⟨#[115,116,111,114,101]⟩
noncomputable abbrev Ca:Str:=⟨#[109,97,107,101,109,97,112]⟩
noncomputable abbrev Dh:Str:=⟨#[109,97,112,100,101,108]⟩
noncomputable abbrev EE:Str:=⟨#[98,111,111,108]⟩
noncomputable abbrev Ex:Str:=⟨#[101,108,101,109,112,116,114]⟩
noncomputable abbrev Ey:Str:=⟨#[101,108,101,109]⟩
noncomputable abbrev EK:Str:=⟨#[97,114,114,97,121]⟩
noncomputable abbrev Et:Str:=⟨#[99,117,116]⟩
noncomputable abbrev EC:Str:=⟨#[109,97,107,101,99,104,97,110]⟩
noncomputable abbrev Ez:Str:=⟨#[97,115,115,101,114,116]⟩
noncomputable abbrev EH:Str:=⟨#[115,111,117,114,99,101]⟩
noncomputable abbrev Ev:Str:=⟨#[104,97,110,100]⟩
noncomputable abbrev EA:Str:=⟨#[119,111,114,100]⟩
noncomputable abbrev Eo:Str:=⟨#[99,97,112]⟩
noncomputable abbrev F8:Str:=⟨#[116,111,108,100]⟩
noncomputable abbrev G9:Str:=⟨#[46,60,108,111,99,97,108,115,62,46]⟩
noncomputable abbrev Gc:Str:=⟨#[47,99,108,97,105,109,47,99,117,116,46,112,121]⟩
noncomputable abbrev FY:Str:=⟨#[95,95,110,97,109,101,95,95]⟩
noncomputable abbrev G6:Str:=⟨#[98,117,105,108,116,105,110,115]⟩
noncomputable abbrev Ga:Str:=⟨#[95,95,112,97,99,107,97,103,101,95,95]⟩
noncomputable abbrev Gf:Str:=⟨#[95,95,108,111,97,100,101,114,95,95]⟩
noncomputable abbrev FO:Str:=⟨#[95,95,115,112,101,99,95,95]⟩
noncomputable abbrev FK:Str:=⟨#[103,108,111,98,97,108,115]⟩
noncomputable abbrev G5:Str:=⟨#[102,105,108,108,101,100]⟩
noncomputable abbrev G1:Str:=⟨#[99,104,97,110,99,111,114,101,46,108,111,111,107,117,112]⟩
noncomputable abbrev Gh:Str:=⟨#[117,105,110,116,51,50]⟩
noncomputable abbrev FS:Str:=⟨#[117,105,110,116,54,52]⟩
noncomputable abbrev FZ:Str:=⟨#[99,104,97,110,99,111,114,101,46,118,97,108,117,101,115]⟩
noncomputable abbrev G4:Str:=⟨#[99,104,97,110,99,111,114,101,46,116,121,112,101,115]⟩
noncomputable abbrev FT:Str:=⟨#[100,111,95,99,117,116]⟩
noncomputable abbrev Gb:Str:=⟨#[95,108,97,119,95,111,112,101,114,97,116,111,114,115,95,114,105,103,104,116,46,60,108,111,99,97,108,115,62,46]⟩
noncomputable abbrev FU:Str:=⟨#[98,117,102,102,101,114]⟩
noncomputable abbrev G8:Str:=⟨#[115,101,110,100,101,114,115]⟩
noncomputable abbrev Gj:Str:=⟨#[114,101,99,101,105,118,101,114,115]⟩
noncomputable abbrev FM:Str:=⟨#[99,108,111,115,101,100]⟩
noncomputable abbrev G3:Str:=⟨#[114,101,112,108,97,99,101]⟩
noncomputable abbrev Gd:Str:=⟨#[98,121,116,101,115,46,100,101,99,111,100,101]⟩
noncomputable abbrev L0:=PySem.W.SL.s14018661285674007319x4
noncomputable abbrev L1:=PySem.W.SL.s2742458400755230247x6
noncomputable abbrev L2:=PySem.W.SL.s658472552662922059x5
noncomputable abbrev L3:=PySem.W.SL.s6181755712446570794x6
noncomputable abbrev L4:=PySem.W.SL.s2766695959194262286x5
noncomputable abbrev L5:=PySem.W.SL.s5856160107412720595x4
noncomputable abbrev L6:=PySem.W.SL.s17162191345867700912x4
noncomputable abbrev L7:=PySem.W.SL.s15992201931430999065x14
noncomputable abbrev L8:=PySem.W.SL.s11443829558043349243x14
noncomputable abbrev L9:=PySem.W.SL.s5946037652744460706x9
noncomputable abbrev La:=PySem.W.SL.s3834378056692298002x18
noncomputable abbrev Lb:=PySem.W.SL.s5658353481640781935x16
noncomputable abbrev Lc:=PySem.W.SL.s13624992175810213990x8
noncomputable abbrev Ld:=PySem.W.SL.s8077881857196166566x16
noncomputable abbrev Le:=PySem.W.SL.s7174869446012820540x8
noncomputable abbrev Lf:=PySem.W.SL.s4278001404047624695x13
noncomputable abbrev Lg:=PySem.W.SL.s10852414792293593619x7
noncomputable abbrev Lh:=PySem.W.SL.s9222952809800978799x4
noncomputable abbrev Li:=PySem.W.SL.s5160863994218179198x17
noncomputable abbrev Lj:=PySem.W.SL.s11797481509799174649x16
noncomputable abbrev Lk:=PySem.W.SL.s2865449183208198353x13
noncomputable abbrev Ll:=PySem.W.SL.s4096838299382398694x14
noncomputable def j6 (head : Value) (L : Nat) (fl : Value) (x : Nat → Value) : Obj := { cls := .type "traceback", dict := none, data := .fields #[head, .ref L, .none, fl, .none, x 0, x 1, x 2, x 3, x 4, x 5] }
noncomputable def bV (i:Nat) (v:Value):Obj→Obj:=Obj.mapFields (·.setIfInBounds i v)
theorem hQ {o:Obj} {vs:Array Value} {i:Nat} {v:Value} (hd:o.data=.fields vs) (h:vs[i]?=some v):bV i v o=o:=by
 obtain ⟨c,d,dt,sl⟩:=o
 simp only at hd
 subst hd
 obtain ⟨hi,hv⟩:=Array.getElem?_eq_some_iff.mp h
 have:vs.setIfInBounds i v=vs:=by
  apply Array.ext (by simp)
  intro j h1 h2
  rw [Array.getElem_setIfInBounds]
  by_cases q:i=j
  ·subst q; simp [hv]
  ·simp [q]
  exact h2
 show (⟨c,d,.fields (vs.setIfInBounds i v),sl⟩:Obj)=_
 rw [this]
theorem oG {pl:List Value} (h:IsPlace pl):∃ x:Nat→Value,(if pl.isEmpty then List.replicate 6 Value.none else pl)=[x 0,x 1,x 2,x 3,x 4,x 5]:=by
 rcases h with rfl | ⟨a,b,c,d,c9,b10,_,rfl⟩
 ·exact ⟨fun _=>.none,rfl⟩
 ·exact ⟨fun i=>match i with | 0=>rawInt a | 1=>rawInt b | 2=>rawInt c | 3=>rawInt d | 4=>c9 | _=>.bool b10,rfl⟩
section
variable {M:Model} {A:Around} {E:Value→Shared→Prop} {s:Shared}
theorem kG {base:Heap} {env:Env} {outer:List Env} {L e:Addr} {oe:Obj} {vs:Array Value} {head:Value} {Q:Unit→Shared→Prop}
 (hfr:A.frames=some (env::outer)) (hl:s.heap.FunFrames base (env::outer)) (hf:env.frame=some L)
 (he:s.heap.get? e=some oe) (hd:oe.data=.fields vs) (h1:vs[1]?=some head)
 (hh:head=.none∨∃ T oT ts,head=.ref T∧s.heap.get? T=some oT∧oT.data=.fields ts∧ts[3]?=some .none)
 (h:∀ h₁ x,Heap.SlotsOnly ((env::outer).filterMap (·.frame)) s.heap h₁→Q () { s with heap:=(h₁.push (j6 head L (rawInt L) x)).update e (bV 1 (.ref h₁.objs.size)) }) :
 wpAny M A (noteFrame (.ref e) env) Q E s:=by
 have fin:∀ (b:Bool) (h₀:Heap),h₀.objs.size=s.heap.objs.size→(∀ a,h₀.get? a=s.heap.get? a)→wpAny M A (do let a←frameOf env; let pl←entryPlaceOf L b; let t←EntryCells.newEntry head a .none (rawInt L) .none pl; setField (.ref e) 1 t) Q E { s with heap:=h₀ }:=by
  intro b h₀ hz hsame
  have hl₀:h₀.FunFrames base (env::outer):=hl.of_keeps fun a o z _=>⟨o,(hsame a).trans z,rfl⟩
  refine wpAny_bind (wpAny_frameOf_fun hfr hl₀ hf fun h₁ hs₁=>?_)
  refine wpAny_bind (wpAny_entryPlaceOf fun pl hpl=>?_)
  unfold EntryCells.newEntry newFields
  refine wpAny_bind (wpAny_newObj_type ?_ (hpl.sizeOk5 _ _ _ _ _))
  obtain ⟨x,hx⟩:=oG hpl
  have hsl:Heap.SlotsOnly ((env::outer).filterMap (·.frame)) s.heap h₁:=⟨hs₁.1.trans hz,fun a ha=>(hs₁.2.1 a ha).trans (hsame a),fun a o ho=>hs₁.2.2 a o ((hsame a).trans ho)⟩
  have hene:e∉(env::outer).filterMap (·.frame):=fun hm=>by
   obtain ⟨_,o,ho,hnf⟩:=hl.mem hm
   rw [he] at ho; injection ho with ho; subst ho; exact hnf vs hd
  have he₁:h₁.get? e=some oe:=(hsl.2.1 e hene).trans he
  have eo : ({ cls := .type "traceback", dict := none, data := .fields ([head, Value.ref L, Value.none, rawInt L, Value.none] ++ (if pl.isEmpty then List.replicate 6 Value.none else pl)).toArray } : Obj) = j6 head L (rawInt L) x := by
   rw [hx]; rfl
  rw [eo]
  exact wpAny_setField (Heap.get?_push_of_some _ he₁) hd (Array.getElem?_eq_some_iff.mp h1).1 (h h₁ x hsl)
 unfold noteFrame
 simp only [hf]
 refine wpAny_bind (wpAny_field he hd h1 ?_)
 rcases hh with rfl | ⟨T,oT,ts,rfl,hT,hdT,h3⟩
 ·rw [if_neg (by decide)]
  exact fin false s.heap rfl fun _=>rfl
 ·rw [if_pos (show (Value.ref T != Value.none)=true from by simp)]
  refine wpAny_bind (wpAny_field hT hdT h3 ?_)
  rw [if_neg (show ¬ ((Value.none == rawInt L)=true) from by simp [rawInt])]
  refine wpAny_bind (wpAny_setField hT hdT (Array.getElem?_eq_some_iff.mp h3).1 ?_)
  refine fin _ _ (Heap.size_after_update ..) fun a=>?_
  by_cases q:a=T
  ·subst q
   have:=Heap.get?_update_self (bV 3 .none) hT (by rw [hQ hdT h3]; exact Obj.isFreed_of_fields hdT)
   rw [hQ hdT h3] at this
   exact this.trans hT.symm
  ·exact Heap.get?_update_other _ _ (Ne.symm q)
theorem iZ {e T:Addr} {oe oT:Obj} {vs ts:Array Value} {Q:Unit→Shared→Prop} (he:s.heap.get? e=some oe) (hd:oe.data=.fields vs) (h1:vs[1]?=some (.ref T))
 (hT:s.heap.get? T=some oT) (hdT:oT.data=.fields ts) (h3:3<ts.size) (h:Q () { s with heap:=s.heap.update T (bV 3 .none) }):wpAny M A (setFlight (.ref e) none) Q E s:=by
 unfold setFlight
 refine wpAny_bind (wpAny_field he hd h1 ?_)
 rw [if_pos (show (Value.ref T != Value.none)=true from by simp)]
 exact wpAny_setField hT hdT h3 h
end
noncomputable def iB (c:Code):Sem Fin:=PySem.W.Fast.tw11892475500146522536 PySem.W.Fast.tw14364793385576792824 c
theorem kv:denote table=iB:=by
 funext c
 show _=PySem.W.Fast.tw11892475500146522536 PySem.W.Fast.tw14364793385576792824 c
 rw [← PySem.W.Fast.te11892475500146522536,←PySem.W.Fast.te14364793385576792824,table_eq_tree]
structure Cell where
 mu:Bool
 a:Nat
 o:Obj
inductive ST where
 | nil
 | node (c:Cell) (l r:ST)
namespace ST
noncomputable def get:ST→Nat→Option Cell
 | .nil,_=>none
 | .node v l r,i=>match Nat.beq i 0 with
  | true=>some v
  | false=>match Nat.beq (i % 2) 1 with
   | true=>l.get (i / 2)
   | false=>r.get (i / 2 - 1)
noncomputable def set:ST→Nat→Obj→ST
 | .nil,_,_=>.nil
 | .node v l r,i,o=>match Nat.beq i 0 with
  | true=>.node ⟨v.mu,v.a,o⟩ l r
  | false=>match Nat.beq (i % 2) 1 with
   | true=>.node v (l.set (i / 2) o) r
   | false=>.node v l (r.set (i / 2 - 1) o)
noncomputable def ins:ST→Nat→Cell→ST
 | .nil,_,c=>.node c .nil .nil
 | .node v l r,i,c=>match Nat.beq i 0 with
  | true=>.node c l r
  | false=>match Nat.beq (i % 2) 1 with
   | true=>.node v (l.ins (i / 2) c) r
   | false=>.node v l (r.ins (i / 2 - 1) c)
theorem get_node (v:Cell) (l r:ST) (i:Nat):(node v l r).get i=if i=0 then some v else if i % 2=1 then l.get (i / 2) else r.get (i / 2 - 1):=by
 show (match Nat.beq i 0 with | true=>some v | false=>match Nat.beq (i % 2) 1 with | true=>l.get (i / 2) | false=>r.get (i / 2 - 1))=_
 rw [BT.beq_eq,BT.beq_eq]
 by_cases h:i=0
 ·simp [h]
 ·by_cases q:i % 2=1 <;> simp [h,q]
theorem set_node (v:Cell) (l r:ST) (i:Nat) (o:Obj):(node v l r).set i o=if i=0 then node ⟨v.mu,v.a,o⟩ l r else if i % 2=1 then node v (l.set (i / 2) o) r else node v l (r.set (i / 2 - 1) o):=by
 show (match Nat.beq i 0 with | true=>node ⟨v.mu,v.a,o⟩ l r | false=>match Nat.beq (i % 2) 1 with | true=>node v (l.set (i / 2) o) r | false=>node v l (r.set (i / 2 - 1) o))=_
 rw [BT.beq_eq,BT.beq_eq]
 by_cases h:i=0
 ·simp [h]
 ·by_cases q:i % 2=1 <;> simp [h,q]
theorem ins_node (v:Cell) (l r:ST) (i:Nat) (c:Cell):(node v l r).ins i c=if i=0 then node c l r else if i % 2=1 then node v (l.ins (i / 2) c) r else node v l (r.ins (i / 2 - 1) c):=by
 show (match Nat.beq i 0 with | true=>node c l r | false=>match Nat.beq (i % 2) 1 with | true=>node v (l.ins (i / 2) c) r | false=>node v l (r.ins (i / 2 - 1) c))=_
 rw [BT.beq_eq,BT.beq_eq]
 by_cases h:i=0
 ·simp [h]
 ·by_cases q:i % 2=1 <;> simp [h,q]
theorem get_set (o:Obj):∀ (t:ST) (j i:Nat),(t.set j o).get i=if i=j then (t.get j).map (fun c=>⟨c.mu,c.a,o⟩) else t.get i
 | .nil,j,i=>by show (ST.nil.get i)=_; simp [get]
 | .node v l r,j,i=>by
  rw [set_node,get_node v l r j,get_node v l r i]
  by_cases hj:j=0
  ·subst hj
   rw [if_pos rfl,get_node]
   by_cases hi:i=0 <;> simp [hi]
  ·rw [if_neg hj]
   by_cases pj:j % 2=1
   ·rw [if_pos pj,get_node]
    by_cases hi:i=0
    ·simp [hi,Ne.symm hj]
    ·by_cases pi:i % 2=1
     ·simp only [hi,pi,hj,pj,if_true,if_false,get_set o l]
      by_cases e:i=j
      ·simp [e]
      ·have:i / 2≠j / 2:=by omega
       simp [e,this]
     ·have:i≠j:=fun q=>pi (q▸pj)
      simp [hi,pi,this]
   ·rw [if_neg pj,get_node]
    by_cases hi:i=0
    ·simp [hi,Ne.symm hj]
    ·by_cases pi:i % 2=1
     ·have:i≠j:=fun q=>pj (q▸pi)
      simp [hi,pi,this]
     ·simp only [hi,pi,hj,pj,if_false,get_set o r]
      by_cases e:i=j
      ·simp [e]
      ·have:i / 2 - 1≠j / 2 - 1:=by omega
       simp [e,this]
theorem get_ins (c:Cell):∀ (t:ST) (j:Nat),((t.ins j c).get j).isSome=true→∀ i,(t.ins j c).get i=if i=j then some c else t.get i
 | .nil,j,h,i=>by
  have e:(ST.nil.ins j c)=node c nil nil:=rfl
  rw [e,get_node] at h
  have hj:j=0:=by
   by_cases q:j=0
   ·exact q
   ·simp [q,get] at h
  subst hj
  rw [e,get_node]
  by_cases hi:i=0 <;> simp [hi,get]
 | .node v l r,j,h,i=>by
  rw [ins_node] at h ⊢
  by_cases hj:j=0
  ·subst hj
   rw [if_pos rfl,get_node,get_node]
   by_cases hi:i=0 <;> simp [hi]
  ·rw [if_neg hj] at h ⊢
   by_cases pj:j % 2=1
   ·rw [if_pos pj,get_node] at h
    simp only [hj,pj,if_true,if_false] at h
    rw [if_pos pj,get_node,get_node]
    by_cases hi:i=0
    ·simp [hi,Ne.symm hj]
    ·by_cases pi:i % 2=1
     ·simp only [hi,pi,if_true,if_false,get_ins c l _ h]
      by_cases e:i=j
      ·simp [e]
      ·have:i / 2≠j / 2:=by omega
       simp [e,this]
     ·have:i≠j:=fun q=>pi (q▸pj)
      simp [hi,pi,this]
   ·rw [if_neg pj,get_node] at h
    simp only [hj,pj,if_false] at h
    rw [if_neg pj,get_node,get_node]
    by_cases hi:i=0
    ·simp [hi,Ne.symm hj]
    ·by_cases pi:i % 2=1
     ·have:i≠j:=fun q=>pj (q▸pi)
      simp [hi,pi,this]
     ·simp only [hi,pi,if_false,get_ins c r _ h]
      by_cases e:i=j
      ·simp [e]
      ·have:i / 2 - 1≠j / 2 - 1:=by omega
       simp [e,this]
end ST
inductive Kd where
 | func | call | blk | forL | whl | compS | compL | hand | caller
noncomputable def Kd.fits:Kd→Code→Bool
 | .func,.func _ _=>true
 | .call,.call _ _=>true
 | .blk,.block _ _=>true
 | .forL,.forLoop _ _ _ _ _=>true
 | .whl,.whileLoop _ _ _ _=>true
 | .compS,.compStart (.ListComp _ _ _ _) _ _ _ _=>true
 | .compL,.compLoop (.ListComp _ _ _ _) _ _ _ _=>true
 | .hand,.handlers _ _ _=>true
 | .caller, .builtin id _ => Nat.beq (PySem.W.S.codeS id) (PySem.W.S.codeS "claim.caller")
 | _,_=>false
structure Ct where
 b:List Stmt
 b2:List Stmt
 e:Env
 f:Value
 f2:Value
 a:Args
 p:Pos
 p2:Pos
 x:Expr
 n:Nat
 hs:List ExceptHandler
 gs:List Comprehension
 m:Scope
noncomputable def Kd.mk:Kd→Ct→Code
 | .func,t=>.func t.b t.e
 | .call,t=>.call t.f t.a
 | .blk,t=>.block t.b t.e
 | .forL,t=>.forLoop t.x t.f t.b t.b2 t.e
 | .whl,t=>.whileLoop t.x t.b t.b2 t.e
 | .compS,t=>.compStart (.ListComp t.x t.gs t.m t.p2) t.n t.f t.f2 t.e
 | .compL,t=>.compLoop (.ListComp t.x t.gs t.m t.p2) t.n t.f t.f2 t.e
 | .hand,t=>.handlers t.f t.hs t.e
 | .caller, t => .builtin "claim.caller" t.a
noncomputable def eu:List Kd→Nat→(Nat→Ct)→List (Code × Pos)
 | [],_,_=>[]
 | k::l,i,κ=>(k.mk (κ i),(κ i).p)::eu l (i+1) κ
noncomputable def mV:List Kd→List (Code × Pos)→Bool
 | [],[]=>true
 | k::l,x::r=>match k.fits x.1 with
  | true=>mV l r
  | false=>false
 | _,_=>false
noncomputable def k7:List (List Kd)→List (Code × Pos)→Bool
 | [],_=>false
 | l::ls,r=>match mV l r with
  | true=>true
  | false=>k7 ls r
noncomputable def fH (ls:List (List Kd)) (r:List (Code × Pos)):Bool:=match ls with
 | []=>true
 | _::_=>k7 ls r
structure V7 where
 a:Value
 b:Value
 c:Value
 d:Value
 e:Value
 f:Value
 g:Value
structure Post where
 X:Nat
 Y:Nat
 d:Nat
 R:V7
 F:V7
 K:List (Nat × Value)
 t:Nat→Nat
 o:Nat→Obj
noncomputable def Post.zero:Post:=⟨0,0,0,⟨.none,.none,.none,.none,.none,.none,.none⟩,⟨.none,.none,.none,.none,.none,.none,.none⟩,[],fun _=>0,fun _=>{ cls:=.none }⟩
structure Spec where
 lv:Nat
 sh:List (List Kd)
 c:Code
 pre:List (Nat × Obj)
 mu:List Nat
 nb:Nat
 nt:Nat
 po:List Nat→List Nat→List Obj
 nw:List Nat→List Nat→List Obj
 r:List Nat→List Nat→Result
 dy:Bool
 di:Bool
structure Use where
 S:(Nat→Nat)→(Nat→Nat)→(Nat→Obj)→(Nat→Post)→Post→Spec
 ix:List Nat
 jx:List Nat
 tl:Option (Nat × Nat):=none
structure LibE where
 js:List Nat
 S:Code→List Cell→List Nat→Spec
inductive Sd where
 | n (a:Nat)
 | o (a:Obj)
 | c (a:Code)
 | t (a:Sem Fin)
 | r (a:Result)
 | s (l:List Sd)
structure Out where
 r:Result
 T:ST
 L:List Sd
 R:List Sd
 d:Bool
inductive PT where
 | nil
 | node (k:Nat) (v:Obj) (l r:PT)
noncomputable def PT.get:PT→Nat→Option Obj
 | .nil,_=>none
 | .node k v l r,i=>match Nat.beq i k with
  | true=>some v
  | false=>match Nat.blt i k with
   | true=>l.get i
   | false=>r.get i
inductive Kt where
 | base
 | ret (Γ:Ctx) (p:Pos) (bd:Nat) (k:Result→Sem Fin) (κ:Kt)
noncomputable def ll (self:Addr) (fd:FuncData) (args:Args):Sem Fin :=
 Sem.bind (PySem.W.Fast.tw6609576154772507232 fd.code 1) fun v=>match v with
  | .str q _=>Sem.bind (PySem.W.Fast.tw9782568553167038054 fd args) fun binds =>
   Sem.bind (PySem.W.Fast.tw11113344188204177931 fd.scope fd.globals fd.closure binds (q ++ (G9:Str)) (some self) fd.code none fd.builtins) fun env =>
    .pure (.again (match fd.body with | .stmts b=>.func b env | .expr e=>.expr e env))
  | _ => .unsupported "entry"
noncomputable def ig (fd:FuncData):Bool:=match fd.code with
 | .none=>false
 | _=>match fd.scope.isGenerator with
  | true=>false
  | false=>match fd.scope.isCoroutine with
   | true=>false
   | false=>true
noncomputable def hC (c:Code):Nat:=match c with
 | .builtin id _ => match Nat.beq (PySem.W.S.codeS id) (PySem.W.S.codeS "claim.caller") with
  | true=>400
  | false=>12
 | _=>4
structure Cx where
 prog:Program
 w:World
 kt:PT
 en:ST
 cb:Bool
 ν:Nat→Nat
 τ:Nat→Nat
 υ:Nat→Nat→Value
 π:Nat→Pos
 ς:Array (Option Value)
 dy:Bool
 ρ:Nat→Post
 shs:List (List Kd)
 κc:Nat→Ct
 mn:Nat→Cell
 lb:List LibE
noncomputable def F4:Nat:=439938610023
noncomputable def aV (o:Obj):Bool:=match o.cls with
 | .type s=>Nat.beq (PySem.W.S.codeS s) F4
 | _=>false
noncomputable def wS (o:Obj) (sl:Array (Option Value)):Obj:=⟨o.cls,o.dict,o.data,sl⟩
noncomputable def b9 (d st:Bool) (o:Obj):Bool:=match d with
 | false=>false
 | true=>match st with
  | false=>false
  | true=>aV o
noncomputable def nR:List Value→Nat→Option Value
 | [],_=>none
 | v::_,0=>some v
 | _::l,i+1=>nR l i
noncomputable def dW:List (Nat × Obj)→List Sd
 | []=>[]
 | x::l=>.n x.1::.o x.2::dW l
noncomputable def dv (T:ST) (d di:Bool):List Nat→List Sd
 | []=>[]
 | i::l=>match T.get i with
  | some c=>match b9 d true c.o with
   | false=>.n c.a::.o c.o::dv T d di l
   | true=>match di with
    | true=>.n c.a::.o c.o::dv T d di l
    | false=>[]
  | none=>[]
noncomputable def o4 (T:ST):List Nat→List Sd
 | []=>[]
 | i::l=>match T.get i with
  | some c=>match c.mu with
   | true=>.n c.a::o4 T l
   | false=>[]
  | none=>[]
noncomputable def nk:List Nat→List Sd
 | []=>[]
 | a::l=>.n a::nk l
noncomputable def cI:ST→List Nat→List Obj→ST
 | T,i::l,o::os=>cI (T.set i o) l os
 | T,_,_=>T
noncomputable def bW:ST→Nat→List Nat→List Obj→Option ST
 | T,m,a::as,o::os=>match (T.ins m ⟨true,a,o⟩).get m with
  | some _=>bW (T.ins m ⟨true,a,o⟩) (m+1) as os
  | none=>none
 | T,_,[],[]=>some T
 | _,_,_,_=>none
noncomputable def aY (ν:Nat→Nat):Nat→Nat→List Nat
 | _,0=>[]
 | k,n+1=>ν k::aY ν (k+1) n
noncomputable def aM (T:ST) (i:Nat):Nat:=match T.get i with
 | some c=>c.a
 | none=>0
noncomputable def b8 (T:ST) (i:Nat):Obj:=match T.get i with
 | some c=>c.o
 | none=>{ cls:=.none }
noncomputable def ci (τ:Nat→Nat) (i:Nat) (j:Nat):Nat:=match Nat.blt j i with
 | true=>τ j
 | false=>0
noncomputable def cl (ρ:Nat→Post) (k:Nat) (j:Nat):Post:=match Nat.blt j k with
 | true=>ρ j
 | false=>Post.zero
noncomputable def gn (i:Nat):List Nat→Bool
 | []=>false
 | j::l=>match Nat.beq j i with
  | true=>true
  | false=>gn i l
noncomputable def cD:List Nat→Bool
 | []=>true
 | i::l=>match gn i l with
  | true=>false
  | false=>cD l
noncomputable def cF {α β:Type}:List α→List β→Bool
 | [],[]=>true
 | _::l,_::l'=>cF l l'
 | _,_=>false
noncomputable def pE {α:Type} (x:Nat × List Sd × List Sd) (k:Nat→List Sd→List Sd→α):α:=match x with
 | (a,b,c)=>k a b c
theorem fi {α:Type} (x:Nat × List Sd × List Sd) (k:Nat→List Sd→List Sd→α):pE x k=k x.1 x.2.1 x.2.2:=rfl
noncomputable def qD (T:ST) (c:Code) (j:Nat):Option (Sd × Sd):=match c with
 | .func _ env=>match env.frame with
  | some L=>match T.get j with
   | some cell=>match aV cell.o with
    | true=>match cell.o.data with
     | .dict _ _=>match env.scope.kind with
      | .module=>none
      | _=>some (.n L,.n cell.a)
     | _=>none
    | false=>none
   | none=>none
  | none=>none
 | _=>none
noncomputable def hB:Nat:=1024
noncomputable def lW (T:ST) (c:Code) (hs:Nat) (L R:List Sd):Option (Nat × List Sd × List Sd):=match c.isFrame with
 | false=>some (hs,L,R)
 | true=>match qD T c (hs % hB) with
  | some x=>some (hs / hB,x.1::L,x.2::R)
  | none=>none
noncomputable def cK (T:ST):Kt→Nat→List Sd→List Sd→Option (Nat × List Sd × List Sd)
 | .base,hs,L,R=>some (hs,L,R)
 | .ret Γ _ _ _ κ,hs,L,R=>match lW T Γ.code hs L R with
  | some x=>pE x fun h l r=>cK T κ h l r
  | none=>none
noncomputable def ed (T:ST) (c:Code) (κ:Kt) (hs:Nat) (L R:List Sd):Option (Nat × List Sd × List Sd):=match lW T c hs L R with
 | some x=>pE x fun h l r=>cK T κ h l r
 | none=>none
noncomputable def k8 (T:ST):List Nat→Bool
 | []=>true
 | i::l=>match T.get i with
  | some c=>match aV c.o with
   | true=>false
   | false=>k8 T l
  | none=>false
noncomputable def bp:Kt→List (Code × Pos)→List (Code × Pos)
 | .base,b=>b
 | .ret Γ p _ _ κ,b=>(Γ.code,p)::bp κ b
noncomputable def fm (sh:List (List Kd)) (κc:Nat→Ct) (bf:List (Code × Pos)→List (Code × Pos)):List (List Kd)→Bool
 | []=>true
 | l::ls=>match fH sh (bf (eu l 0 κc)) with
  | true=>fm sh κc bf ls
  | false=>false
noncomputable def mg (V:Cx) (sh:List (List Kd)) (bf:List (Code × Pos)→List (Code × Pos)):Bool:=match sh with
 | []=>true
 | _::_=>match V.shs with
  | []=>false
  | _::_=>fm sh V.κc bf V.shs
noncomputable def hH (κc:Nat→Ct) (f:List (Code × Pos)→Sem Fin) (bf:List (Code × Pos)→List (Code × Pos)):List (List Kd)→List Sd
 | []=>[]
 | l::ls=>.t (f (bf (eu l 0 κc)))::hH κc f bf ls
noncomputable def fL (f:List (Code × Pos)→Sem Fin):List (List Kd)→List Sd
 | []=>[]
 | _::ls=>.t (f [])::fL f ls
noncomputable def vg (κ:Kt) (T:ST) (l:List Nat):Bool:=match κ with
 | .base=>true
 | .ret _ _ _ _ _=>k8 T l
noncomputable def io (V:Cx) (d:Bool) (T:ST) (m k i hs:Nat) (c:Code) (bf:List (Code × Pos)→List (Code × Pos)) (u:Use) (nf:Bool) (lv:Nat) (ch:Nat→Option (Nat × List Sd × List Sd)) (K:Result→Nat→Bool→ST→Nat→Nat→Nat→Sd→Sd→Option Out):Option Out :=
 match u.S (aM T) (ci V.τ i) (b8 T) (cl V.ρ k) (V.ρ k) with
 | ⟨lv',sh,c',pre,mu,n,q,po,nw,r,dy,di⟩=>match Nat.ble lv' lv with
  | false=>none
  | true=>match mg V sh bf with
   | false=>none
   | true=>match cD u.ix with
    | false=>none
    | true=>match cF mu u.jx with
     | false=>none
     | true=>match cF (po (aY V.ν k n) (aY V.τ i q)) u.jx with
      | false=>none
      | true=>match bW (cI T u.jx (po (aY V.ν k n) (aY V.τ i q))) m (aY V.ν k n) (nw (aY V.ν k n) (aY V.τ i q)) with
       | none=>none
       | some T'=>match dy with
        | false=>K (r (aY V.ν k n) (aY V.τ i q)) hs d T' (m+n) (k+n+1) (i+q) (.s [.c c',.s (dW pre),.s (nk mu),.s []]) (.s [.c c,.s (dv T d di u.ix),.s (o4 T u.jx),.s []])
        | true=>match V.dy with
         | false=>none
         | true=>match nf with
          | false=>none
          | true=>match ch hs with
           | none=>none
           | some x=>pE x fun h LL RR=>K (r (aY V.ν k n) (aY V.τ i q)) h true T' (m+n) (k+n+1) (i+q) (.s [.c c',.s (dW pre),.s (nk mu),.s LL]) (.s [.c c,.s (dv T d di u.ix),.s (o4 T u.jx),.s RR])
noncomputable def sV:List LibE→Nat→Option LibE
 | [],_=>none
 | e::l,i=>match i with
  | 0=>some e
  | i+1=>sV l i
noncomputable def Cc:List Nat→Nat→Nat
 | [],_=>0
 | e::l,i=>match i with
  | 0=>e
  | i+1=>Cc l i
noncomputable def jG (T:ST) (n:Nat):Nat→(Nat→List Nat→List Cell→Option Out)→Option Out:=Nat.rec (fun hs K=>K hs [] []) (fun _ ih hs K=>match T.get (hs % hB) with
 | none=>none
 | some c=>ih (hs / hB) fun h ix cs=>K h (hs % hB::ix) (c::cs)) n
noncomputable def vx (n:Nat):Nat→(Nat→List Nat→Option Out)→Option Out:=Nat.rec (fun hs K=>K hs []) (fun _ ih hs K=>ih (hs / hB) fun h l=>K h (hs % hB::l)) n
noncomputable def eM (lb:List LibE) (T:ST) (c:Code) (h hs:Nat) (us:List Use) (K:Nat→Use→List Use→Option Out):Option Out:=match Nat.beq h 2 with
 | true=>match us with
  | []=>none
  | u::us=>match u.tl with
   | some _=>none
   | none=>K hs u us
 | false=>match sV lb (h - 4) with
  | none=>none
  | some e=>jG T (hs % hB % 32) (hs / hB) fun hs1 ix cs=>vx (hs % hB / 32) hs1 fun hs2 ms=>K hs2 ⟨fun _ _ _ _ _=>e.S c cs ms,ix,e.js.map (Cc ix),none⟩ us
noncomputable def qE : String := "special-get-raises"
noncomputable def rR : String := "comprehension-iter-twice"
noncomputable def wF (w:World) (n:Nat) (b:Bool):Params:={ w.params with followText:=fun r=>match Nat.beq (PySem.W.S.codeS r) n with | true=>b | false=>w.params.followText r }
noncomputable def nS:Nat:=10139888712337904147300001983332972444938612
noncomputable def nC:Nat:=2510650655181157320538776789020469319833841985448949215332
theorem vF:PySem.W.S.codeS qE=nS:=by kernel_rfl
theorem DH:PySem.W.S.codeS rR=nC:=by kernel_rfl
theorem iN (w:World) (s:String):wF w (PySem.W.S.codeS s) (w.params.followText s)=w.params:=by
 unfold wF
 have:(fun r=>match Nat.beq (PySem.W.S.codeS r) (PySem.W.S.codeS s) with | true=>w.params.followText s | false=>w.params.followText r)=w.params.followText:=by
  funext r
  cases h:Nat.beq (PySem.W.S.codeS r) (PySem.W.S.codeS s) with
  | false=>rfl
  | true =>
   have:=Nat.eq_of_beq_eq_true h
   rw [← PySem.W.S.code_S,←PySem.W.S.code_S] at this
   rw [PySem.code_inj _ _ this]
 rw [this]
noncomputable def wX:List Nat:=[2341386987387381298277481238717043,9146042919481958196396663532141,2341386987387381298277481322739317,35726730154226399204674336116,10056180538108767159183876981558246666106228]
theorem uR : wX = [PySem.W.S.codeS "range_iterator", PySem.W.S.codeS "list_iterator", PySem.W.S.codeS "tuple_iterator", PySem.W.S.codeS "str_iterator", PySem.W.S.codeS "str_ascii_iterator"] := by kernel_rfl
noncomputable def kX (o:Obj):Bool:=match o.cls with
 | .type s=>gn (PySem.W.S.codeS s) wX
 | _=>false
noncomputable def m8 (c:Code):Option (Code × Nat):=match c with
 | .compStart e dp it acc env=>match e with
  | .ListComp _ gs _ _=>match gs with
   | []=>none
   | g::_=>match decide (g.is_async=0) with
    | false=>none
    | true=>match dp with
     | 0=>match it with
      | .ref a=>some (.compLoop e 0 (.ref a) acc env,a)
      | _=>none
     | _=>none
  | _=>none
 | _=>none
noncomputable def eV (T:ST) (c:Code) (j:Nat):Option (Code × Nat × Nat):=match m8 c with
 | none=>none
 | some x=>match x with
  | (c',a)=>match T.get j with
   | none=>none
   | some ce=>match kX ce.o with
    | false=>none
    | true=>some (c',a,ce.a)
noncomputable abbrev fy:=Nat→List Use→Ctx→Kt→Nat→Sem Fin→Pos→Bool→ST→Nat→Nat→Nat→List Sd→List Sd→Option Out
noncomputable def eX (ih:fy) (r:Result) (hs:Nat) (us:List Use) (κ:Kt) (d:Bool) (T:ST) (m k i:Nat) (L R:List Sd):Option Out:=match κ with
 | .base=>some ⟨r,T,L,R,d⟩
 | .ret Γ p bd f κ=>ih hs us Γ κ bd (f r) p d T m k i L R
noncomputable def c4 (V:Cx) (c:Code):Option (Sem Fin):=match c with
 | .call f args=>match f with
  | .ref a=>match V.kt.get a with
   | some o=>match o.data with
    | .func fd=>match ig fd with
     | true=>some (ll a fd args)
     | false=>none
    | _=>none
   | none=>none
  | _=>none
 | _=>none
noncomputable def bE (V:Cx) (T:ST) (k h a:Nat):Option (Obj × Option (Nat × Bool)):=match h with
 | 0=>match V.kt.get a with
  | some o=>some (o,none)
  | none=>none
 | j+1=>match Nat.ble 700 j with
  | true=>match Nat.blt (j - 700) k with
   | true=>some ((V.mn (V.ρ (j - 700)).d).o,some ((V.mn (V.ρ (j - 700)).d).a,false))
   | false=>none
  | false=>match Nat.beq (j % 2) 0 with
   | true=>match V.en.get (j / 2) with
    | some c=>some (c.o,some (c.a,false))
    | none=>none
   | false=>match T.get (j / 2) with
    | some c=>some (c.o,some (c.a,true))
    | none=>none
noncomputable def so (fl:Flow):Sem Fin:=match fl with
 | .ret v=>.pure (.done (.ret v))
 | _=>.pure (.done (.ret .none))
noncomputable def FN (rest:List Stmt) (env:Env) (fl:Flow):Sem Flow:=match fl with
 | .next=>PySem.W.Fast.tw12563942051412417395 rest env
 | f=>.pure f
noncomputable def dV (env:Env) (e:Nat):Sem Fin:=PySem.W.R.bindR (PySem.W.R.bindR (PySem.W.Fast.tw9442747609961115081 env (.ref e)) fun _=>Sem.raise (.ref e)) so
noncomputable def jX (env:Env) (e:Nat) (hs:List ExceptHandler) (rest:List Stmt):Sem Fin :=
 PySem.W.R.bindR (PySem.W.R.onRaiseR (PySem.W.R.bindR (PySem.W.R.bindR (PySem.W.Fast.tw5670386056902412789 (.ref e) none) fun _=>PySem.W.Fast.tw14206642085496868694 (.ref e) env hs) (FN rest env)) (PySem.W.Fast.tw9442747609961115081 env)) so
noncomputable def dZ (env:Env) (e:Nat) (hs:List ExceptHandler) (rest:List Stmt):Sem Fin :=
 PySem.W.R.bindR (PySem.W.R.onRaiseR (PySem.W.R.bindR (PySem.W.R.bindR (PySem.W.Fast.tw17872113653443481271 (.ref e) env) fun _=>PySem.W.R.bindR (PySem.W.Fast.tw5670386056902412789 (.ref e) none) fun _=>PySem.W.Fast.tw14206642085496868694 (.ref e) env hs) (FN rest env)) (PySem.W.Fast.tw9442747609961115081 env)) so
noncomputable def qo (T:ST) (head:Value) (j:Nat):Option (List Sd × List Sd):=match head with
 | .none=>some ([],[])
 | .ref tb=>match T.get j with
  | some c=>match aV c.o with
   | true=>none
   | false=>match c.o.data with
    | .fields ts=>match nR ts.toList 3 with
     | some v=>match v with
      | .none=>some ([.n tb],[.n c.a])
      | _=>none
     | none=>none
    | _=>none
  | none=>none
 | _=>none
structure NoteC where
 body:List Stmt
 env:Env
 fr:Nat
 j:Nat
 o:Obj
 e:Nat
 head:Value
 hs:Nat
 L:List Sd
 R:List Sd
noncomputable def NoteC.run {α:Type} (N:NoteC) (k:Nat→α):α:=match N with
 | ⟨_,_,_,_,_,_,_,h,_,_⟩=>k h
theorem NoteC.run_eq {α:Type} (N:NoteC) (k:Nat→α):N.run k=k N.hs:=rfl
noncomputable def cV (dy:Bool) (Γ:Ctx) (κ:Kt) (T:ST) (hs:Nat):Option NoteC:=match dy with
 | false=>none
 | true=>match Γ.code with
  | .func body env=>match env.frame with
   | none=>none
   | some L=>match T.get (hs % hB) with
    | none=>none
    | some ce=>match ce.mu with
     | false=>none
     | true=>match aV ce.o with
      | true=>none
      | false=>match ce.o.data with
       | .fields vs=>match nR vs.toList 1 with
        | none=>none
        | some head=>match qo T head (hs / hB % hB) with
         | none=>none
         | some hp=>match ed T (.func body env) κ (hs / hB / hB) hp.1 hp.2 with
          | none=>none
          | some y=>pE y fun h l r=>some ⟨body,env,L,hs % hB,ce.o,ce.a,head,h,l,r⟩
       | _=>none
  | _=>none
noncomputable def bM (V:Cx) (T:ST) (m k:Nat) (N:NoteC) (fl:Value):ST:=(T.set N.j (bV 1 (.ref (V.ν k)) N.o)).ins m ⟨true,V.ν k,j6 N.head N.fr fl (V.υ k)⟩
noncomputable def i7:List Stmt→Nat→List Stmt
 | l,0=>l
 | [],_=>[]
 | _::l,n+1=>i7 l n
noncomputable def rg (l:List Stmt):Option (List ExceptHandler × List Stmt):=match l with
 | s::rest=>match s with
  | .Try _ hs _ fin _=>match fin with
   | []=>match hs with
    | []=>none
    | h::hs=>some (h::hs,rest)
   | _=>none
  | _=>none
 | []=>none
noncomputable def dP (c:Code) (j:Nat):Sem Fin:=match c with
 | .func body env=>PySem.W.R.bindR (PySem.W.R.onRaiseR (PySem.W.Fast.tw12563942051412417395 (i7 body j) env) (PySem.W.Fast.tw9442747609961115081 env)) so
 | _ => .unsupported "tail"
noncomputable def aO (V:Cx) (ih:fy):fy:=fun hs us Γ κ bd t p d T m k i L R=>match t with
 | .pure fin=>match fin with
  | .done f=>eX ih (.ok f) hs us κ d T m k i L R
  | .again c=>match c.quiet with
   | false=>none
   | true=>match Nat.beq (hs % hB) 3 with
    | true=>match eV T c (hs / hB % hB) with
     | some x=>ih (hs / hB / hB) us ((Γ.goto c).goto x.1) κ bd (iB x.1) (V.π k) d T m (k+1) i (.n x.2.1::L) (.n x.2.2::R)
     | none=>none
    | false=>match hs % hB with
     | 0=>ih (hs / hB) us (Γ.goto c) κ bd (iB c) p d T m k i L R
     | 1=>match c4 V c with
      | some t'=>ih (hs / hB) us (Γ.goto c) κ bd t' p d T m k i L R
      | none=>none
     | _=>match Γ.handled with
      | some _=>none
      | none=>eM V.lb T c (hs % hB) (hs / hB) us fun hs u us=>io V d T m k i hs c (bp κ) u (k8 T u.jx) bd (fun hs=>cK T κ hs [] []) fun r hs' d' T' m' k' i' l l'=>eX ih r hs' us κ d' T' m' k' i' (l::L) (l'::R)
 | .raise e=>eX ih (.error e) hs us κ d T m k i L R
 | .rule _ f=>ih hs us Γ κ bd (f ()) p d T m k i L R
 | .at q f=>match us with
  | []=>ih hs us Γ κ bd (f ()) q d T m k i L R
  | u::us'=>match u.tl with
   | none=>ih hs us Γ κ bd (f ()) q d T m k i L R
   | some lj=>match Nat.beq q.line lj.1 with
    | false=>ih hs us Γ κ bd (f ()) q d T m k i L R
    | true=>match Γ.handled with
     | some _=>none
     | none=>io V d T m k i hs Γ.code (bp κ) u (vg κ T u.jx) bd (fun hs=>cK T κ hs [] []) fun r hs' d' T' m' k' i' l l'=>eX ih r hs' us' κ d' T' m' k' i' (.s [l,.t (dP Γ.code lj.2)]::L) (.s [l',.t (.at q f)]::R)
 | .point _ f=>ih hs us Γ κ bd (f ()) p d T m k i L R
 | .ask f=>match hs % hB with
  | 0=>ih (hs / hB) us Γ κ bd (f ⟨V.prog,V.w.params⟩) p d T m k i L R
  | 1=>ih (hs / hB) us Γ κ bd (f ⟨V.prog,wF V.w nS true⟩) p d T m k i (.t (f ⟨V.prog,wF V.w nS true⟩)::L) (.t (f ⟨V.prog,wF V.w nS false⟩)::R)
  | _=>ih (hs / hB) us Γ κ bd (f ⟨V.prog,wF V.w nC V.cb⟩) p d T m k i L R
 | .load a q f=>match Nat.ble 1022 (hs % hB) with
  | true=>match Nat.beq (hs % hB) 1023 with
   | true=>match cV V.dy Γ κ T (hs / hB) with
    | none=>none
    | some N=>match (bM V T m k N .none).get m with
     | none=>none
     | some _=>N.run fun hs'=>eX ih (.error (.ref N.e)) hs' us κ true (bM V T m k N .none) (m+1) (k+1) i (.s [.t (dV N.env N.e),.s N.L]::L) (.s [.t (.load a q f),.s N.R]::R)
   | false=>match cV V.dy Γ κ T (hs / hB) with
    | none=>none
    | some N=>match (bM V T m k N (rawInt N.fr)).get m with
     | none=>none
     | some _=>N.run fun hs'=>match rg (i7 N.body (hs' % hB)) with
      | none=>none
      | some x=>ih (hs' / hB) us Γ κ bd (jX N.env N.e x.1 x.2) (V.π k) true (bM V T m k N (rawInt N.fr)) (m+1) (k+1) i (.s [.t (dZ N.env N.e x.1 x.2),.s N.L]::L) (.s [.t (.load a q f),.s N.R]::R)
  | false=>match bE V T k (hs % hB) a with
   | some x=>match x.2 with
    | none=>ih (hs / hB) us Γ κ bd (f x.1) p d T m k i L R
    | some b=>match b9 d b.2 x.1 with
     | false=>ih (hs / hB) us Γ κ bd (f x.1) p d T m k i (.n a::L) (.n b.1::R)
     | true=>ih (hs / hB) us Γ κ bd (f x.1) p d T m k i (.s [.n a,.t (f (wS x.1 V.ς))]::L) (.s [.n b.1,.t (f x.1)]::R)
   | none=>none
 | .loadIfAlive a f=>match bE V T k (hs % hB) a with
  | some x=>match x.2 with
   | none=>ih (hs / hB) us Γ κ bd (f (some x.1)) p d T m k i L R
   | some b=>match b9 d b.2 x.1 with
    | false=>ih (hs / hB) us Γ κ bd (f (some x.1)) p d T m k i (.n a::L) (.n b.1::R)
    | true=>ih (hs / hB) us Γ κ bd (f (some x.1)) p d T m k i (.s [.n a,.t (f (some (wS x.1 V.ς)))]::L) (.s [.n b.1,.t (f (some x.1))]::R)
  | none=>none
 | .alloc o f=>match o.isFreed with
  | true=>none
  | false=>match (T.ins m ⟨true,V.ν k,o⟩).get m with
   | some _=>ih hs us Γ κ bd (f (V.ν k)) p d (T.ins m ⟨true,V.ν k,o⟩) (m+1) (k+1) i L R
   | none=>none
 | .update a _ g f=>match T.get (hs % hB) with
  | some c=>match c.mu with
   | false=>none
   | true=>match (g c.o).isFreed with
    | true=>none
    | false=>match b9 d true c.o with
     | false=>ih (hs / hB) us Γ κ bd (f ()) p d (T.set (hs % hB) (g c.o)) m k i (.n a::L) (.n c.a::R)
     | true=>match aV (g c.o) with
      | false=>none
      | true=>ih (hs / hB) us Γ κ bd (f ()) p d (T.set (hs % hB) (g c.o)) m k i (.s [.n a,.o (g (wS c.o V.ς))]::L) (.s [.n c.a,.o (wS (g c.o) V.ς)]::R)
  | none=>none
 | .fresh f=>ih hs us Γ κ bd (f (V.τ i)) p d T m k (i+1) L R
 | .handled own f=>match own with
  | false=>ih hs us Γ κ bd (f Γ.handled) p d T m k i L R
  | true=>none
 | .stack f=>match V.shs with
  | []=>ih hs us Γ κ bd (f ((Γ.code,p)::Γ.below)) p d T m k i L R
  | _::_=>match hs % hB with
   | 0=>ih (hs / hB) us Γ κ bd (f ((Γ.code,p)::Γ.below)) p d T m k i L R
   | _=>ih (hs / hB) us Γ κ bd (f []) p d T m k i (.s (hH V.κc f (fun b=>(Γ.code,p)::bp κ b) V.shs)::L) (.s (fL f V.shs)::R)
 | .call c hd _ _ f=>match Nat.ble (hC Γ.code) bd with
  | false=>none
  | true=>match Nat.beq (hs % hB) 3 with
   | true=>match eV T c (hs / hB % hB) with
    | some x=>ih (hs / hB / hB) us ((Γ.enter c hd p).goto x.1) (.ret Γ p bd f κ) (bd - hC Γ.code) (iB x.1) (V.π k) d T m (k+1) i (.n x.2.1::L) (.n x.2.2::R)
    | none=>none
   | false=>match hs % hB with
    | 0=>ih (hs / hB) us (Γ.enter c hd p) (.ret Γ p bd f κ) (bd - hC Γ.code) (iB c) p d T m k i L R
    | 1=>match c4 V c with
     | some t'=>ih (hs / hB) us (Γ.enter c hd p) (.ret Γ p bd f κ) (bd - hC Γ.code) t' p d T m k i L R
     | none=>none
    | _=>match (Γ.enter c hd p).handled with
     | some _=>none
     | none=>eM V.lb T c (hs % hB) (hs / hB) us fun hs u us=>io V d T m k i hs c (fun b=>(Γ.code,p)::bp κ b) u (k8 T u.jx) (bd - hC Γ.code) (fun hs=>ed T Γ.code κ hs [] []) fun r hs' d' T' m' k' i' l l'=>ih hs' us Γ κ bd (f r) p d' T' m' k' i' (l::L) (l'::R)
 | _=>none
noncomputable def l7 (V:Cx) (n:Nat):fy:=Nat.rec (fun _ _ _ _ _ _ _ _ _ _ _ _ _ _=>none) (fun _ ih=>aO V ih) n
theorem mK (c:Code):c.frames≤3:=by
 unfold Code.frames
 split <;> first | decide | (split <;> decide)
theorem eg (c:Code):c.weight≤hC c∧c.cUnits≤hC c:=by
 have hf:=mK c
 cases c with
 | builtin id args =>
  have h1:(if (Code.builtin id args).isCreation then 1 else 0)≤1:=by split <;> decide
  have h2:(if (Code.builtin id args).isGuard then 1 else 0)≤1:=by split <;> decide
  have hu:(Code.builtin id args).cUnits≤10:=by show 1+3 * (Code.builtin id args).frames≤10; omega
  unfold hC
  by_cases hq : id = "claim.caller"
  ·subst hq
   have : Nat.beq (PySem.W.S.codeS "claim.caller") (PySem.W.S.codeS "claim.caller") = true := Nat.beq_refl _
   simp only [this]
   refine ⟨?_,by omega⟩
   show _ + _ + _ + (if (Code.builtin "claim.caller" args).isCaller then claimMargin else 0) ≤ 400
   have : (if (Code.builtin "claim.caller" args).isCaller then claimMargin else 0) ≤ 300 := by split <;> decide
   omega
  ·have hn : Nat.beq (PySem.W.S.codeS id) (PySem.W.S.codeS "claim.caller") = false := by
    rw [BT.beq_eq,decide_eq_false_iff_not]
    intro e
    rw [← PySem.W.S.code_S,←PySem.W.S.code_S] at e
    exact hq (PySem.code_inj _ _ e)
   have hc:(Code.builtin id args).isCaller=false:=by
    unfold Code.isCaller
    split
    ·rename_i e; injection e with e1; exact absurd e1 hq
    ·rfl
   simp only [hn]
   refine ⟨?_,by omega⟩
   show _+_+_+(if (Code.builtin id args).isCaller then claimMargin else 0)≤12
   rw [hc]
   simp only [Bool.false_eq_true,if_false]
   omega
 | _ =>
  all_goals (
   refine ⟨?_,?_⟩
   ·show _+_+_+_≤4
    simp only [Code.isCreation,Code.isGuard,Code.isCaller,Bool.false_eq_true,if_false]
    omega
   ·first
    | (show 1≤4; decide)
    | (show 3 * _≤4; unfold Code.frames; split <;> first | (exfalso; simp_all; done) | (split <;> decide)))
structure Base where
 prog:Program
 w:World
 kt:PT
 en:ST
 mn:Nat→Cell
noncomputable def Base.Free (B:Base) (a:Nat):Prop:=B.kt.get a=none∧∀ i c,B.en.get i=some c→c.a≠a
noncomputable def da (B:Base) (s:Shared):Prop:=(∀ a o,B.kt.get a=some o→s.heap.get? a=some o)∧∀ i c,B.en.get i=some c→s.heap.get? c.a=some c.o
structure Base.Ok (B:Base):Prop where
 lim:∀ s,da B s→s.heap.NoLimit
 big:∀ s,da B s→2≤s.heap.objs.size
 mn:∀ s,da B s→∀ d,s.heap.get? (B.mn d).a=some (B.mn d).o
structure Nu where
 a:Nat
 v:Nat→Value
 p:Pos
 q:Post
noncomputable def sa (a:Nat):Nat:=Nat.succ (Nat.succ (a - 2))
theorem mt {a:Nat} (h:2≤a):sa a=a:=by unfold sa; omega
noncomputable def Base.V (B:Base) (lb:List LibE) (dy:Bool) (shs:List (List Kd)) (κc:Nat→Ct) (ς:Array (Option Value)) (ν:Nat→Nu) (τ:Nat→Nat):Cx:=⟨B.prog,B.w,B.kt,B.en,B.w.params.followText rR,fun k=>sa (ν k).a,τ,fun k=>(ν k).v,fun k=>(ν k).p,ς,dy,fun k=>(ν k).q,shs,κc,B.mn,lb⟩
noncomputable def Base.M (B:Base):Model:=model B.prog B.w
theorem Base.den (B:Base) (c:Code):B.M.den c=Mine.iB c:=congrFun kv c
noncomputable def NB (bd:Nat) (Γ:Ctx):Prop:=frameCount Γ.below+bd≤950∧unitsOf Γ.below+bd≤9000
theorem NB.enter {bd:Nat} {Γ:Ctx} (h:NB bd Γ) (c:Code) (hd:Option Value) (p:Pos) (hw:Nat.ble (hC Γ.code) bd=true):NB (bd - hC Γ.code) (Γ.enter c hd p):=by
 have hw:=Nat.le_of_ble_eq_true hw
 have q:=eg Γ.code
 refine ⟨?_,?_⟩
 ·show frameCount ((Γ.code,p)::Γ.below)+_≤950
  rw [frameCount_cons]
  have:=h.1
  omega
 ·show unitsOf ((Γ.code,p)::Γ.below)+_≤9000
  rw [unitsOf_cons]
  have:=h.2
  omega
theorem NB.le {a b:Nat} {Γ:Ctx} (h:NB b Γ) (hab:a≤b):NB a Γ:=⟨by have:=h.1; omega,by have:=h.2; omega⟩
noncomputable def bn (B:Base) (R:Result→Shared→Prop):Kt→Result→Shared→Prop
 | .base=>R
 | .ret Γ p _ f κ=>fun r s=>Sem.wp B.M Γ (f r) (fun fin p' s'=>da B s'∧Sem.finPost B.M Γ (bn B R κ) fin p' s') (fun e _ s'=>bn B R κ (.error e) s') p s
noncomputable def ro (bl:List (Code × Pos)):List (Code × Pos)→Kt→Prop
 | b,.base=>b=bl
 | b,.ret Γ p bd _ κ=>NB bd Γ∧b=(Γ.code,p)::Γ.below∧ro bl Γ.below κ
noncomputable def cP (d:Bool) (h:Heap) (a:Nat) (o:Obj):Prop:=h.get? a=some o∨(d=true∧aV o=true∧∃ sl,h.get? a=some (wS o sl))
noncomputable def mN (B:Base) (h:Heap) (env:Env):Prop:=env.scope.kind≠.module∧∃ L o,env.frame=some L∧h.get? L=some o∧aV o=true∧(∀ vs,o.data≠.fields vs)∧B.Free L
noncomputable def fS (B:Base) (h:Heap) (l:List (Code × Pos)):Prop:=∀ env,env∈envsOf l→mN B h env
noncomputable def A4 (B:Base) (R:Result→Shared→Prop) (Γ:Ctx) (κ:Kt) (t:Sem Fin) (p:Pos) (s:Shared):Prop :=
 Sem.wp B.M Γ t (fun fin p' s'=>da B s'∧Sem.finPost B.M Γ (bn B R κ) fin p' s') (fun e _ s'=>bn B R κ (.error e) s') p s
theorem bZ {B:Base} {R:Result→Shared→Prop} {Γ:Ctx} {κ:Kt} {p:Pos} {s:Shared} (h:A4 B R Γ κ (Mine.iB Γ.code) p s):wpCode B.M Γ (bn B R κ) p s:=by
 rw [wpCode_iff_wp,B.den]
 exact Sem.wp_mono _ _ _ (fun _ _ _ x=>x.2) (fun _ _ _ x=>x) p s h
theorem o9 (a:Addr) (fd:FuncData) (args:Args):ll a fd args =
 (field fd.code 1 >>= fun v=>match v with
  | .str q _=>bindArgs fd args >>= fun binds =>
   newFunctionEnv fd.scope fd.globals fd.closure binds (q ++ ".<locals>.") (some a) fd.code none fd.builtins >>= fun env =>
    pure (.again (match fd.body with | .stmts b=>.func b env | .expr e=>.expr e env))
  | _ => .unsupported "entry") := by
 unfold ll
 rw [← PySem.W.Fast.te6609576154772507232,←PySem.W.Fast.te9782568553167038054,←PySem.W.Fast.te11113344188204177931]
 have : (G9 : Str) = (".<locals>." : Str) := by decide +kernel
 rw [this]
 rfl
theorem gx {B:Base} (O:B.Ok) {Γ:Ctx} {p:Pos} {s:Shared} (ht:da B s) (hb:frameCount Γ.below+5<1000) (hc:∃ f args,Γ.code=.call f args)
 {Q:Unit→Pos→Shared→Prop} {E:Value→Pos→Shared→Prop} (h:Q () p s):Sem.wp B.M Γ enterFrame Q E p s:=by
 obtain ⟨mc,hns,hnone⟩:=O.lim s ht
 have hw:Γ.code.weight≤4:=by
  obtain ⟨f,args,hc⟩:=hc
  rw [hc]; exact (eg (.call f args)).1
 have hΓ:Γ.In { handled:=Γ.handled,depth:=frameCount Γ.below+4,frames:=none,guards:=none,units:=Γ.units } :=
  ⟨rfl,Nat.add_le_add_left hw _,(by intro _ q; cases q),(by intro _ q; cases q),Nat.le_refl _⟩
 have near:=not_nearTheLimit (p:=p) hΓ (by show frameCount Γ.below+4<1000; omega)
 have tot:=frameCount_ge ((Γ.code,p)::Γ.below)
 rw [frameCount_cons] at tot
 have e1:¬ ((((Γ.code,p)::Γ.below).map (·.1)).map (·.frames)).sum ≥ recursionLimit:=by unfold recursionLimit; omega
 have e2:¬ ((((Γ.code,p)::Γ.below).map (·.1)).map (·.frames)).sum+((((Γ.code,p)::Γ.below).map (·.1)).filter Code.isCreation).length ≥ recursionLimit:=by unfold recursionLimit; omega
 unfold enterFrame currentRecursionLimit
 simp only [Sem.wp_bind']
 change Sem.wp B.M Γ (nsGet cStatics "sys.recursionlimit") _ _ p s
 rw [Sem.wp_nsGet B.M Γ _ p s hns,hnone]
 change Sem.wp B.M Γ (if nearTheLimitUnderAClaim (((Γ.code,p)::Γ.below).map (·.1)) (((((Γ.code,p)::Γ.below).map (·.1)).map (·.frames)).sum+((((Γ.code,p)::Γ.below).map (·.1)).filter Code.isCreation).length) recursionLimit=true then _ else _) _ _ p s
 rw [near,if_neg Bool.false_ne_true]
 change Sem.wp B.M Γ (if ((((Γ.code,p)::Γ.below).map (·.1)).map (·.frames)).sum ≥ recursionLimit then _ else _) _ _ p s
 rw [if_neg e1]
 change Sem.wp B.M Γ (if ((((Γ.code,p)::Γ.below).map (·.1)).map (·.frames)).sum+((((Γ.code,p)::Γ.below).map (·.1)).filter Code.isCreation).length ≥ recursionLimit then _ else _) _ _ p s
 rw [if_neg e2]
 exact h
theorem eQ {B:Base} (O:B.Ok) {R:Result→Shared→Prop} {Γ:Ctx} {κ:Kt} {p:Pos} {s:Shared} {t:Sem Fin} {V:Cx} (hV:V.kt=B.kt) (he:c4 V Γ.code=some t) (ht:da B s) (hb:frameCount Γ.below+5<1000)
 (h:A4 B R Γ κ t p s):wpCode B.M Γ (bn B R κ) p s:=by
 cases hcode:Γ.code with
 | call f args =>
  rw [hcode] at he
  cases f with
  | ref a =>
   simp only [c4,hV] at he
   cases hk:B.kt.get a with
   | none=>rw [hk] at he; cases he
   | some o =>
    rw [hk] at he
    simp only at he
    cases hd:o.data with
    | func fd =>
     rw [hd] at he
     simp only at he
     cases hp:ig fd with
     | false=>rw [hp] at he; cases he
     | true =>
      rw [hp] at he
      simp only [Option.some.injEq] at he
      subst he
      rw [wpCode_iff_wp]
      show Sem.wp B.M Γ (denote table Γ.code) _ _ p s
      rw [hcode]
      have ho:=ht.1 _ _ hk
      show Sem.wp B.M Γ (callAny (.ref a) args) _ _ p s
      simp only [callAny]
      rw [Sem.wp_bind']
      refine (Sem.wp_load_of B.M Γ _ p s ho _).mpr ?_
      simp only [hd]
      unfold A4 at h
      rw [o9,Sem.wp_bind'] at h
      have hpc:∃ x,fd.code=x∧x≠.none∧fd.scope.isGenerator=false∧fd.scope.isCoroutine=false:=by
       unfold ig at hp
       split at hp
       ·cases hp
       ·rename_i hx
        refine ⟨_,rfl,fun e=>hx e,?_⟩
        cases g1:fd.scope.isGenerator with
        | true=>rw [g1] at hp; cases hp
        | false =>
         cases g2:fd.scope.isCoroutine with
         | true=>rw [g1,g2] at hp; cases hp
         | false=>exact ⟨rfl,rfl⟩
      obtain ⟨x,hx,hxn,hg,hco⟩:=hpc
      unfold callFunction
      simp only [hg,hco]
      have fin:∀ (q:Str) (p₁:Pos) (s₁:Shared),Sem.wp B.M Γ (bindArgs fd args >>= fun binds =>
       newFunctionEnv fd.scope fd.globals fd.closure binds (q ++ ".<locals>.") (some a) fd.code none fd.builtins >>= fun env =>
        (pure (.again (match fd.body with | .stmts b=>.func b env | .expr e=>.expr e env)):Sem Fin))
        (fun fin p' s'=>da B s'∧Sem.finPost B.M Γ (bn B R κ) fin p' s') (fun e _ s'=>bn B R κ (.error e) s') p₁ s₁ →
       Sem.wp B.M Γ (do
        let env ← newFunctionEnv fd.scope fd.globals fd.closure (← bindArgs fd args) (q ++ ".<locals>.") (some a) fd.code none fd.builtins
        enterFrame
        (again (match fd.body with | .stmts b=>.func b env | .expr e=>.expr e env):Sem Fin)) (Sem.finPost B.M Γ (bn B R κ)) (fun e _ s'=>bn B R κ (.error e) s') p₁ s₁:=by
       intro q p₁ s₁ y
       rw [Sem.wp_bind'] at y ⊢
       refine Sem.wp_mono _ _ _ (fun binds p₂ s₂ y=>?_) (fun _ _ _ y=>y) p₁ s₁ y
       rw [Sem.wp_bind'] at y ⊢
       refine Sem.wp_mono _ _ _ (fun env p₃ s₃ y=>?_) (fun _ _ _ y=>y) p₂ s₂ y
       rw [Sem.wp_pure'] at y
       rw [Sem.wp_bind']
       exact gx O y.1 hb ⟨_,_,hcode⟩ y.2
      split
      ·rename_i hn; exact absurd (hx▸hn) hxn
      ·rw [Sem.wp_bind']
       refine Sem.wp_mono _ _ _ (fun v p₁ s₁ y=>?_) (fun _ _ _ y=>y) p s h
       split at y
       ·rw [Sem.wp_bind',Sem.wp_pure']
        exact fin _ _ _ y
       ·exact y.elim
    | _=>rw [hd] at he; cases he
  | _=>cases he
 | _=>rw [hcode] at he; cases he
theorem Kd.mk_of_fits {k:Kd} {c:Code} (h:k.fits c=true) (p:Pos):∃ t:Ct,k.mk t=c∧t.p=p:=by
 let t0:Ct:=⟨[],[],default,.none,.none,{},p,default,default,0,[],[],default⟩
 cases k <;> cases c <;> (try (exact absurd h Bool.false_ne_true))
 ·rename_i b e; exact ⟨{ t0 with b:=b,e:=e },rfl,rfl⟩
 ·rename_i f a; exact ⟨{ t0 with f:=f,a:=a },rfl,rfl⟩
 ·rename_i b e; exact ⟨{ t0 with b:=b,e:=e },rfl,rfl⟩
 ·rename_i x f b b2 e; exact ⟨{ t0 with x:=x,f:=f,b:=b,b2:=b2,e:=e },rfl,rfl⟩
 ·rename_i x b b2 e; exact ⟨{ t0 with x:=x,b:=b,b2:=b2,e:=e },rfl,rfl⟩
 ·rename_i x n f f2 e
  cases x <;> (try (exact absurd h Bool.false_ne_true))
  rename_i x gs m p2
  exact ⟨{ t0 with x:=x,gs:=gs,m:=m,p2:=p2,n:=n,f:=f,f2:=f2,e:=e },rfl,rfl⟩
 ·rename_i x n f f2 e
  cases x <;> (try (exact absurd h Bool.false_ne_true))
  rename_i x gs m p2
  exact ⟨{ t0 with x:=x,gs:=gs,m:=m,p2:=p2,n:=n,f:=f,f2:=f2,e:=e },rfl,rfl⟩
 ·rename_i x hs e; exact ⟨{ t0 with f:=x,hs:=hs,e:=e },rfl,rfl⟩
 ·rename_i id a
  have:=Nat.eq_of_beq_eq_true (show Nat.beq _ _=true from h)
  rw [← PySem.W.S.code_S,←PySem.W.S.code_S] at this
  obtain rfl:=PySem.code_inj _ _ this
  exact ⟨{ t0 with a:=a },rfl,rfl⟩
theorem dK:∀ {l:List Kd} {b:List (Code × Pos)} (i:Nat),mV l b=true→∃ κ:Nat→Ct,eu l i κ=b
 | [],[],i,_=>⟨fun _=>⟨[],[],default,.none,.none,{},default,default,default,0,[],[],default⟩,rfl⟩
 | k::l,x::r,i,h=>by
  simp only [mV] at h
  cases q:k.fits x.1 with
  | false=>rw [q] at h; cases h
  | true =>
   rw [q] at h
   obtain ⟨t,ht,hp⟩:=Kd.mk_of_fits q x.2
   obtain ⟨κ,hκ⟩:=dK (i+1) h
   refine ⟨fun j=>if j=i then t else κ j,?_⟩
   have same:∀ (l:List Kd) (j:Nat),i<j→eu l j (fun j=>if j=i then t else κ j)=eu l j κ:=by
    intro l
    induction l with
    | nil=>intro _ _; rfl
    | cons k l ih =>
     intro j hj
     simp only [eu]
     rw [ih (j+1) (by omega),if_neg (by omega)]
   simp only [eu,if_true]
   rw [same l (i+1) (by omega),hκ,ht,hp]
 | [],_::_,_,h=>by cases h
 | _::_,[],_,h=>by cases h
theorem ro.stack {bl:List (Code × Pos)}:∀ {κ:Kt} {b:List (Code × Pos)},ro bl b κ→b=bp κ bl
 | .base,_,h=>h
 | .ret Γ p _ _ κ,b,h=>by
  obtain ⟨_,h1,h2⟩:=h
  rw [h1,ro.stack h2]
  rfl
theorem hP:∀ {ls:List (List Kd)} {r:List (Code × Pos)},k7 ls r=true→∃ l,l∈ls∧mV l r=true
 | [],_,h=>by cases h
 | l::ls,r,h=>by
  unfold k7 at h
  cases q:mV l r with
  | true=>exact ⟨l,.head _,q⟩
  | false =>
   rw [q] at h
   obtain ⟨l',h1,h2⟩:=hP h
   exact ⟨l',.tail _ h1,h2⟩
theorem eG {sh:List (List Kd)} {κc:Nat→Ct} {bf:List (Code × Pos)→List (Code × Pos)}:∀ {ls:List (List Kd)},fm sh κc bf ls=true→∀ l,l∈ls→fH sh (bf (eu l 0 κc))=true
 | a::ls,h,l,hl=>by
  unfold fm at h
  cases q:fH sh (bf (eu a 0 κc)) with
  | false=>rw [q] at h; cases h
  | true =>
   rw [q] at h
   rcases List.mem_cons.mp hl with rfl | hl
   ·exact q
   ·exact eG h l hl
theorem jJ {κc:Nat→Ct} {f:List (Code × Pos)→Sem Fin} {bf:List (Code × Pos)→List (Code × Pos)}:∀ {ls:List (List Kd)},hH κc f bf ls=fL f ls→∀ l,l∈ls→f (bf (eu l 0 κc))=f []
 | a::ls,h,l,hl=>by
  simp only [hH,fL,List.cons.injEq,Sd.t.injEq] at h
  rcases List.mem_cons.mp hl with rfl | hl
  ·exact h.1
  ·exact jJ h.2 l hl
theorem jy {i:Nat}:∀ {l:List Nat},gn i l=true→i∈l
 | [],h=>by cases h
 | j::l,h=>by
  unfold gn at h
  rw [BT.beq_eq] at h
  by_cases q:j=i
  ·subst q; exact .head _
  ·rw [decide_eq_false q] at h
   exact .tail _ (jy h)
theorem aL {a b:String} (h:PySem.W.S.codeS a=PySem.W.S.codeS b):a=b:=by
 rw [← PySem.W.S.code_S,←PySem.W.S.code_S] at h
 exact PySem.code_inj _ _ h
theorem kc {prog:Program} {w:World} {A:Around} {E:Value→Shared→Prop} {s:Shared} {it:Addr} {o:Obj} {Q:Value→Shared→Prop} (ho:s.heap.get? it=some o) (hi:kX o=true) (h:Q (.ref it) s):wpAny (model prog w) A (pyIter (.ref it)) Q E s:=by
 obtain ⟨t,ht,hm⟩:∃ t,o.cls=.type t∧gn (PySem.W.S.codeS t) wX=true:=by
  unfold kX at hi
  split at hi
  ·exact ⟨_,‹_›,hi⟩
  ·cases hi
 have hT:s.TypeIs (.ref it) t:=⟨o,ho,ht⟩
 have hm:=jy hm
 rw [uR] at hm
 simp only [List.mem_cons,List.not_mem_nil,or_false] at hm
 rcases hm with e | e | e | e | e <;> obtain rfl:=aL e
 ·refine wpAny_pyIter_slot hT F.slot_range_iterator_iter (wpAny_call_entry F.slot_range_iterator_iter hT F.entry_range_iterator_iter ?_ (F.args_range_iterator_iter_1 _))
  show wpAny _ _ (ret (.ref it)) _ _ s
  exact wpAny_pure ⟨_, rfl, "range_iterator", _, hT, F.slot_range_iterator_next.lookup, h⟩
 ·refine wpAny_pyIter_slot hT slot_listiter_iter (wpAny_call_entry slot_listiter_iter hT entry_listiter_iter ?_ (args_listiter_iter _))
  show wpAny _ _ (ret (.ref it)) _ _ s
  exact wpAny_pure ⟨_, rfl, "list_iterator", _, hT, slot_listiter_next.lookup, h⟩
 ·refine wpAny_pyIter_slot hT F.slot_tuple_iterator_iter (wpAny_call_entry F.slot_tuple_iterator_iter hT F.entry_tuple_iterator_iter ?_ (F.args_tuple_iterator_iter_1 _))
  show wpAny _ _ (ret (.ref it)) _ _ s
  exact wpAny_pure ⟨_, rfl, "tuple_iterator", _, hT, F.slot_tuple_iterator_next.lookup, h⟩
 ·refine wpAny_pyIter_slot hT F.slot_str_iterator_iter (wpAny_call_entry F.slot_str_iterator_iter hT F.entry_str_iterator_iter ?_ (F.args_str_iterator_iter_1 _))
  show wpAny _ _ (ret (.ref it)) _ _ s
  exact wpAny_pure ⟨_, rfl, "str_iterator", _, hT, F.slot_str_iterator_next.lookup, h⟩
 ·refine wpAny_pyIter_slot hT F.slot_str_ascii_iterator_iter (wpAny_call_entry F.slot_str_ascii_iterator_iter hT F.entry_str_ascii_iterator_iter ?_ (F.args_str_ascii_iterator_iter_1 _))
  show wpAny _ _ (ret (.ref it)) _ _ s
  exact wpAny_pure ⟨_, rfl, "str_ascii_iterator", _, hT, F.slot_str_ascii_iterator_next.lookup, h⟩
theorem kn {B:Base} {Γ:Ctx} {p:Pos} {s:Shared} {R:Result→Shared→Prop} {x:Code × Nat} {o:Obj} (hx:m8 Γ.code=some x) (ho:s.heap.get? x.2=some o) (hi:kX o=true)
 (h:∀ p',wpCode B.M (Γ.goto x.1) R p' s):wpCode B.M Γ R p s:=by
 cases hc:Γ.code with
 | compStart e dp it acc env =>
  rw [hc] at hx
  unfold m8 at hx
  simp only at hx
  split at hx
  ·rename_i elt gs sc pos
   split at hx
   ·cases hx
   ·rename_i g gs
    split at hx
    ·cases hx
    ·rename_i hg
     have hg:=of_decide_eq_true hg
     split at hx
     ·split at hx
      ·rename_i a
       simp only [Option.some.injEq] at hx
       subst hx
       obtain ⟨tg,ie,ifs,ia⟩:=g
       obtain rfl:ia=0:=hg
       rw [wpCode_iff_wp]
       show Sem.wp B.M Γ (denote table Γ.code) _ _ p s
       rw [hc]
       show Sem.wp B.M Γ ((compStart (.ListComp elt (⟨tg,ie,ifs,0⟩::gs) sc pos) 0 (.ref a) acc env).onRaise (fun x=>do noteFrame x env; standAt theWindowsPlace)) _ _ p s
       rw [Sem.wp_onRaise]
       have hΓ:Γ.In { handled:=Γ.handled,depth:=frameCount Γ.below+4,frames:=none,guards:=none,units:=Γ.units } :=
        ⟨rfl,Nat.add_le_add_left (by rw [hc]; exact (eg _).1) _,(by intro _ q; cases q),(by intro _ q; cases q),Nat.le_refl _⟩
       unfold compStart
       show Sem.wp B.M Γ (ask >>= _) _ _ p s
       rw [Sem.wp_bind']
       show Sem.wp B.M Γ (ite _ _ _) _ _ p s
       split
       ·exact ⟨rfl,h p⟩
       ·show Sem.wp B.M Γ (rule _ >>= fun _=>standAt ie.pos >>= fun _=>pyIter (.ref a) >>= fun v=>again (.compLoop _ 0 v acc env)) _ _ p s
        rw [Sem.wp_bind']
        show Sem.wp B.M Γ (standAt ie.pos >>= fun _=>pyIter (.ref a) >>= fun v=>again (.compLoop _ 0 v acc env)) _ _ p s
        rw [Sem.wp_bind']
        show Sem.wp B.M Γ (pyIter (.ref a) >>= fun v=>again (.compLoop _ 0 v acc env)) _ _ ie.pos s
        rw [Sem.wp_bind']
        refine Sem.wp_mono _ _ _ (fun v p' s' q=>?_) (fun e p' s' q=>?_) _ _ (kc (E:=fun _ _=>False) (Q:=fun v s'=>v=.ref a∧s'=s) ho hi ⟨rfl,rfl⟩ Γ ie.pos hΓ)
        ·obtain ⟨rfl,rfl⟩:=q
         exact ⟨rfl,h p'⟩
        ·exact q.elim
      ·cases hx
     ·cases hx
  ·cases hx
 | _=>rw [hc] at hx; cases hx
theorem m6 {o:Obj} (h:kX o=true):aV o=false:=by
 unfold kX at h
 unfold aV
 cases ho:o.cls with
 | type s =>
  rw [ho] at h
  simp only at h ⊢
  cases q:Nat.beq (PySem.W.S.codeS s) F4 with
  | false=>rfl
  | true =>
   have e:=Nat.eq_of_beq_eq_true q
   rw [e] at h
   exact absurd h (by decide)
 | _=>rfl
theorem gk {T:ST} {c:Code} {j:Nat} {x:Code × Nat × Nat} (h:eV T c j=some x):∃ ce,T.get j=some ce∧kX ce.o=true∧m8 c=some (x.1,x.2.1)∧ce.a=x.2.2:=by
 unfold eV at h
 split at h
 ·cases h
 ·rename_i y hy
  obtain ⟨c',a⟩:=y
  simp only at h
  split at h
  ·cases h
  ·rename_i ce hce
   split at h
   ·cases h
   ·rename_i hi
    simp only [Option.some.injEq] at h
    subst h
    exact ⟨ce,hce,hi,hy,rfl⟩
theorem da.free {B:Base} {s:Shared} (h:da B s) {a:Nat} (ha:s.heap.objs.size≤a):B.Free a:=by
 refine ⟨?_,fun i c hc e=>?_⟩
 ·cases z:B.kt.get a with
  | none=>rfl
  | some x=>exact absurd (Heap.lt_size (h.1 _ _ z)) (Nat.not_lt.mpr ha)
 ·exact absurd (Heap.lt_size (h.2 _ _ hc)) (Nat.not_lt.mpr (e▸ha))
theorem da.mono {B:Base} {s s':Shared} (h:da B s) (k:∀ a o,s.heap.get? a=some o→s'.heap.get? a=some o):da B s':=⟨fun a o z=>k _ _ (h.1 a o z),fun i c z=>k _ _ (h.2 i c z)⟩
theorem cP.lt_size {d:Bool} {h:Heap} {a:Nat} {o:Obj} (x:cP d h a o):a<h.objs.size:=by
 rcases x with x | ⟨_,_,_,x⟩
 ·exact Heap.lt_size x
 ·exact Heap.lt_size x
theorem tL (o:Obj) (sl:Array (Option Value)):aV (wS o sl)=aV o:=rfl
theorem cP.get {d:Bool} {h:Heap} {a:Nat} {o:Obj} (x:cP d h a o):∃ sl,h.get? a=some (wS o sl):=by
 rcases x with x | ⟨_,_,sl,x⟩
 ·exact ⟨o.slots,x⟩
 ·exact ⟨sl,x⟩
theorem cP.map {d d' d'':Bool} {h h':Heap} {a:Nat} {o:Obj} (x:cP d h a o) (hd:d=true→d''=true) (hd':d'=true→d''=true) (k:∀ o',h.get? a=some o'→cP d' h' a o'):cP d'' h' a o:=by
 rcases x with x | ⟨x1,x2,sl,x⟩
 ·rcases k _ x with y | ⟨y1,y2,sl,y⟩
  ·exact .inl y
  ·exact .inr ⟨hd' y1,y2,sl,y⟩
 ·rcases k _ x with y | ⟨y1,y2,sl',y⟩
  ·exact .inr ⟨hd x1,x2,sl,y⟩
  ·exact .inr ⟨hd x1,x2,sl',y⟩
theorem cP.mono {d:Bool} {h h':Heap} {a:Nat} {o:Obj} (x:cP d h a o) (k:∀ o',h.get? a=some o'→h'.get? a=some o'):cP d h' a o:=x.map (d':=d) id id fun _ z=>.inl (k _ z)
theorem cP.exact {d:Bool} {h:Heap} {a:Nat} {o:Obj} (x:cP d h a o) (hd:b9 d true o=false):h.get? a=some o:=by
 rcases x with x | ⟨x1,x2,_⟩
 ·exact x
 ·subst x1
  have:aV o=false:=hd
  rw [this] at x2; cases x2
theorem cP.exactF {d:Bool} {h:Heap} {a:Nat} {o:Obj} (x:cP d h a o) (hd:aV o=false):h.get? a=some o:=by
 rcases x with x | ⟨_,x2,_⟩
 ·exact x
 ·rw [hd] at x2; cases x2
structure Rep (B:Base) (s₀:Shared) (m₀:Nat) (X:List Nat) (d:Bool) (T:ST) (m:Nat) (s:Shared):Prop where
 own:∀ i c,T.get i=some c→i<m∧cP d s.heap c.a c.o∧B.Free c.a∧(c.mu=true→c.a∈X∨s₀.heap.objs.size≤c.a)∧(m₀≤i→s₀.heap.objs.size≤c.a)
 inj:∀ i j c d,T.get i=some c→T.get j=some d→c.a=d.a→i=j
 top:da B s
 keep:∀ a o,s₀.heap.get? a=some o→a∉X→cP d s.heap a o
 size:s₀.heap.objs.size≤s.heap.objs.size
 gens:s.gens=s₀.gens
 os:s.os=s₀.os
 low:m₀≤m
structure After (B:Base) (S:Spec) (s s':Shared) (bs ts:List Nat):Prop where
 top:da B s'
 keep:∀ a o,s.heap.get? a=some o→a∉S.mu→cP S.dy s'.heap a o
 size:s.heap.objs.size≤s'.heap.objs.size
 gens:s'.gens=s.gens
 os:s'.os=s.os
 po:∀ (j a:Nat) (o:Obj),S.mu[j]?=some a→(S.po bs ts)[j]?=some o→cP S.dy s'.heap a o
 nw:∀ (j a:Nat) (o:Obj),bs[j]?=some a→(S.nw bs ts)[j]?=some o→cP S.dy s'.heap a o
 new:∀ a,a∈bs→s.heap.objs.size≤a
 nd:bs.Nodup
 len:bs.length=S.nb
 lent:ts.length=S.nt
structure Spec.Ok (B:Base) (S:Spec) (Γ:Ctx) (s:Shared):Prop where
 code:Γ.code=S.c
 hand:Γ.handled=none
 fit:fH S.sh Γ.below=true
 room:NB S.lv Γ
 top:da B s
 stk:S.dy=true→fS B s.heap Γ.below∧∀ env L,env∈envsOf Γ.below→env.frame=some L→L∉S.mu
 pre:∀ x,x∈S.pre→cP S.di s.heap x.1 x.2∧B.Free x.1
 nd:(S.pre.map (·.1)).Nodup
noncomputable def Spec.HoldsE (B:Base) (S:Post→Spec):Prop:=∀ (Γ:Ctx) (p:Pos) (s:Shared) (R:Result→Shared→Prop) (ρ₀:Post),(S ρ₀).Ok B Γ s →
 (∀ ρ s' bs ts,After B (S ρ) s s' bs ts→R ((S ρ).r bs ts) s')→wpCode B.M Γ R p s
noncomputable def Spec.Holds (B:Base) (S:Spec):Prop:=∀ (Γ:Ctx) (p:Pos) (s:Shared) (R:Result→Shared→Prop),S.Ok B Γ s →
 (∀ s' bs ts,After B S s s' bs ts→R (S.r bs ts) s')→wpCode B.M Γ R p s
theorem Spec.Holds.e {B:Base} {S:Spec} (h:S.Holds B):Spec.HoldsE B fun _=>S:=fun Γ p s R ρ₀ k g=>h Γ p s R k fun s' bs ts A=>g ρ₀ s' bs ts A
noncomputable def Spec.HoldsT (B:Base) (j:Nat) (S:Post→Spec):Prop:=∀ (Γ:Ctx) (p:Pos) (s:Shared) (R:Result→Shared→Prop) (ρ₀:Post),(S ρ₀).Ok B Γ s →
 (∀ ρ s' bs ts,After B (S ρ) s s' bs ts→R ((S ρ).r bs ts) s')→Sem.wp B.M Γ (dP Γ.code j) (fun fin p' s'=>da B s'∧Sem.finPost B.M Γ R fin p' s') (fun e _ s'=>R (.error e) s') p s
noncomputable def bI (B:Base) (tl:Option (Nat × Nat)) (S:Post→Spec):Prop:=match tl with
 | none=>Spec.HoldsE B S
 | some lj=>Spec.HoldsT B lj.2 S
theorem l8:∀ {l:List (Nat × Obj)} {T:ST} {d di:Bool} {ix:List Nat},dW l=dv T d di ix→(∀ x,x∈l→∃ i c,i∈ix∧T.get i=some c∧c.a=x.1∧c.o=x.2∧(b9 d true c.o=false∨di=true))
 | [],_,_,_,_,_,_,hx=>nomatch hx
 | y::l,T,d,di,[],h,x,hx=>by simp [dW,dv] at h
 | y::l,T,d,di,i::ix,h,x,hx=>by
  simp only [dW,dv] at h
  cases e:T.get i with
  | none=>rw [e] at h; simp at h
  | some c =>
   rw [e] at h
   simp only at h
   have fin:Sd.n y.1::Sd.o y.2::dW l=Sd.n c.a::Sd.o c.o::dv T d di ix→(b9 d true c.o=false∨di=true)→∃ j c,j∈i::ix∧T.get j=some c∧c.a=x.1∧c.o=x.2∧(b9 d true c.o=false∨di=true):=fun h q=>by
    simp only [List.cons.injEq,Sd.n.injEq,Sd.o.injEq] at h
    rcases List.mem_cons.mp hx with rfl | hx
    ·exact ⟨i,c,.head _,e,h.1.symm,h.2.1.symm,q⟩
    ·obtain ⟨j,d,hj,hd⟩:=l8 h.2.2 x hx
     exact ⟨j,d,.tail _ hj,hd⟩
   cases q:b9 d true c.o with
   | true =>
    rw [q] at h
    cases di with
    | false=>simp at h
    | true=>exact fin h (.inr rfl)
   | false=>rw [q] at h; exact fin h (.inl q)
theorem jW {i:Nat}:∀ {l:List Nat},gn i l=false→i∉l
 | [],_,hm=>nomatch hm
 | j::l,h,hm=>by
  unfold gn at h
  rw [BT.beq_eq] at h
  by_cases q:j=i
  ·rw [decide_eq_true q] at h; cases h
  ·rw [decide_eq_false q] at h
   rcases List.mem_cons.mp hm with rfl | hm
   ·exact q rfl
   ·exact jW h hm
theorem cv:∀ {l:List Nat},cD l=true→l.Nodup
 | [],_=>List.nodup_nil
 | i::l,h=>by
  unfold cD at h
  cases q:gn i l with
  | true=>rw [q] at h; cases h
  | false=>rw [q] at h; exact List.nodup_cons.mpr ⟨jW q,cv h⟩
theorem gV {T:ST} {d di:Bool} (inj:∀ i j c d,T.get i=some c→T.get j=some d→c.a=d.a→i=j):∀ {l:List (Nat × Obj)} {ix:List Nat},dW l=dv T d di ix→ix.Nodup→(l.map (·.1)).Nodup
 | [],_,_,_=>List.nodup_nil
 | y::l,[],h,_=>by simp [dW,dv] at h
 | y::l,i::ix,h,hn=>by
  simp only [dW,dv] at h
  cases e:T.get i with
  | none=>rw [e] at h; simp at h
  | some c =>
   rw [e] at h
   simp only at h
   have fin:Sd.n y.1::Sd.o y.2::dW l=Sd.n c.a::Sd.o c.o::dv T d di ix→((y::l).map (·.1)).Nodup:=fun h=>by
    simp only [List.cons.injEq,Sd.n.injEq,Sd.o.injEq] at h
    obtain ⟨h1,h2⟩:=List.nodup_cons.mp hn
    rw [List.map_cons]
    refine List.nodup_cons.mpr ⟨fun hm=>?_,gV inj h.2.2 h2⟩
    obtain ⟨x,hx,hxe⟩:=List.mem_map.mp hm
    obtain ⟨j,d,hj,hd,hda,_⟩:=l8 h.2.2 x hx
    have:i=j:=inj i j c d e hd (by rw [hda,hxe,h.1])
    exact h1 (this▸hj)
   cases q:b9 d true c.o with
   | true =>
    rw [q] at h
    cases di with
    | false=>simp at h
    | true=>exact fin h
   | false=>rw [q] at h; exact fin h
theorem vh:∀ {l:List Nat} {T:ST} {jx:List Nat},nk l=o4 T jx→l.length=jx.length∨l.length≤jx.length
 | [],_,_,_=>.inr (Nat.zero_le _)
 | y::l,T,[],h=>by simp [nk,o4] at h
 | y::l,T,i::jx,h=>by
  simp only [nk,o4] at h
  cases e:T.get i with
  | none=>simp [e] at h
  | some c =>
   cases q:c.mu with
   | false=>simp [e,q] at h
   | true =>
    simp only [e,q,List.cons.injEq] at h
    rcases vh h.2 with z | z
    ·exact .inr (by simp only [List.length_cons]; omega)
    ·exact .inr (by simp only [List.length_cons]; omega)
theorem pv:∀ {l:List Nat} {T:ST} {jx:List Nat},nk l=o4 T jx→∀ (q i:Nat) (a:Nat),jx[q]?=some i→l[q]?=some a→∃ c,T.get i=some c∧c.a=a∧c.mu=true
 | [],_,_,_,_,_,_,_,h=>by simp at h
 | y::l,T,[],h,_,_,_,_,_=>by simp [nk,o4] at h
 | y::l,T,j::jx,h,q,i,a,h1,h2=>by
  simp only [nk,o4] at h
  cases e:T.get j with
  | none=>simp [e] at h
  | some c =>
   cases z:c.mu with
   | false=>simp [e,z] at h
   | true =>
    simp only [e,z,List.cons.injEq,Sd.n.injEq] at h
    cases q with
    | zero =>
     simp only [List.getElem?_cons_zero,Option.some.injEq] at h1 h2
     subst h1 h2
     exact ⟨c,e,h.1.symm,z⟩
    | succ q =>
     simp only [List.getElem?_cons_succ] at h1 h2
     exact pv h.2 q i a h1 h2
theorem kx {l:List Nat} {T:ST}:∀ {jx:List Nat},nk l=o4 T jx→∀ a,a∈l→∃ c i,T.get i=some c∧c.a=a∧c.mu=true∧i∈jx:=by
 intro jx h a ha
 obtain ⟨q,hq⟩:=List.getElem?_of_mem ha
 have hl:q<jx.length:=by
  have:=(List.getElem?_eq_some_iff.mp hq).1
  rcases vh h with z | z <;> omega
 obtain ⟨c,h1,h2,h3⟩:=pv h q jx[q] a (List.getElem?_eq_getElem hl) hq
 exact ⟨c,_,h1,h2,h3,List.getElem_mem hl⟩
theorem bA {α β:Type}:∀ {l:List α} {l':List β},cF l l'=true→l.length=l'.length
 | [],[],_=>rfl
 | _::l,_::l',h=>by simp only [List.length_cons]; rw [bA (l:=l) (l':=l') h]
 | [],_::_,h=>by cases h
 | _::_,[],h=>by cases h
theorem fF:∀ {js:List Nat} {os:List Obj} {T:ST} {i:Nat} {c:Cell},js.length=os.length→(cI T js os).get i=some c →
 ∃ d,T.get i=some d∧c.a=d.a∧c.mu=d.mu∧((i∉js∧c.o=d.o)∨∃ q:Nat,js[q]?=some i∧os[q]?=some c.o)
 | [],[],T,i,c,_,h=>⟨c,h,rfl,rfl,.inl ⟨(fun hm=>nomatch hm),rfl⟩⟩
 | j::js,o::os,T,i,c,hl,h=>by
  have h':(cI (T.set j o) js os).get i=some c:=h
  obtain ⟨d,hd,h1,h2,h3⟩:=fF (by simpa using hl) h'
  rw [ST.get_set] at hd
  by_cases hij:i=j
  ·rw [if_pos hij] at hd
   obtain ⟨e,he,hed⟩:=Option.map_eq_some_iff.mp hd
   subst hed
   refine ⟨e,hij▸he,h1,h2,?_⟩
   rcases h3 with ⟨h3,h4⟩ | ⟨q,h3,h4⟩
   ·exact .inr ⟨0,by simp [hij],by simp only [List.getElem?_cons_zero]; rw [h4]⟩
   ·exact .inr ⟨q+1,by simpa using h3,by simpa using h4⟩
  ·rw [if_neg hij] at hd
   refine ⟨d,hd,h1,h2,?_⟩
   rcases h3 with ⟨h3,h4⟩ | ⟨q,h3,h4⟩
   ·exact .inl ⟨fun hm=>(List.mem_cons.mp hm).elim hij h3,h4⟩
   ·exact .inr ⟨q+1,by simpa using h3,by simpa using h4⟩
 | [],_::_,_,_,_,hl,_=>by simp at hl
 | _::_,[],_,_,_,hl,_=>by simp at hl
theorem fB:∀ {as:List Nat} {os:List Obj} {T T':ST} {m:Nat},bW T m as os=some T' →
 as.length=os.length∧∀ i c,T'.get i=some c→(T.get i=some c∧(i<m∨m+as.length≤i))∨∃ j,i=m+j∧as[j]?=some c.a∧os[j]?=some c.o
 | [],[],T,T',m,h=>by
  simp only [bW,Option.some.injEq] at h
  subst h
  exact ⟨rfl,fun i c hc=>.inl ⟨hc,by simp only [List.length_nil]; omega⟩⟩
 | a::as,o::os,T,T',m,h=>by
  simp only [bW] at h
  cases e:(T.ins m ⟨true,a,o⟩).get m with
  | none=>rw [e] at h; cases h
  | some d =>
   rw [e] at h
   obtain ⟨hl,hg⟩:=fB h
   refine ⟨by simp only [List.length_cons]; omega,fun i c hc=>?_⟩
   rcases hg i c hc with ⟨h1,h2⟩ | ⟨j,h1,h2,h3⟩
   ·rw [ST.get_ins _ _ _ (by rw [e]; rfl)] at h1
    by_cases q:i=m
    ·rw [if_pos q] at h1
     cases h1
     exact .inr ⟨0,by omega,by simp,by simp⟩
    ·rw [if_neg q] at h1
     exact .inl ⟨h1,by simp only [List.length_cons]; omega⟩
   ·exact .inr ⟨j+1,by omega,by simpa using h2,by simpa using h3⟩
 | [],_::_,_,_,_,h=>by simp [bW] at h
 | _::_,[],_,_,_,h=>by simp [bW] at h
theorem fj:∀ {bs:List Nat} {ν:Nat→Nat} {k:Nat},(∀ (j a:Nat),bs[j]?=some a→ν (k+j)=a)→aY ν k bs.length=bs
 | [],_,_,_=>rfl
 | b::bs,ν,k,h=>by
  simp only [List.length_cons,aY]
  rw [show ν k=b from h 0 b (by simp),fj (bs:=bs) (k:=k+1) fun j a hj=>by have:=h (j+1) a (by simpa using hj); rw [← this]; congr 1; omega]
theorem Rep.alloc {B:Base} {s₀ s:Shared} {m₀:Nat} {X:List Nat} {d:Bool} {T:ST} {m:Nat} {o:Obj} (D:Rep B s₀ m₀ X d T m s) (hf:o.isFreed=false)
 (hg:((T.ins m ⟨true,s.heap.objs.size,o⟩).get m).isSome=true):Rep B s₀ m₀ X d (T.ins m ⟨true,s.heap.objs.size,o⟩) (m+1) { s with heap:=s.heap.push o }:=by
 have old:∀ i c,T.get i=some c→c.a<s.heap.objs.size:=fun i c h=>(D.own i c h).2.1.lt_size
 refine ⟨fun i c h=>?_,fun i j c d h1 h2 e=>?_,D.top.mono fun a x h=>Heap.get?_push_of_some _ h,fun a x h q=>(D.keep a x h q).mono fun _ z=>Heap.get?_push_of_some _ z,?_,D.gens,D.os,Nat.le_succ_of_le D.low⟩
 ·rw [ST.get_ins _ _ _ hg] at h
  by_cases q:i=m
  ·rw [if_pos q] at h
   cases h
   exact ⟨by omega,.inl (Heap.get?_push_size _ hf),D.top.free (Nat.le_refl _),fun _=>.inr D.size,fun _=>D.size⟩
  ·rw [if_neg q] at h
   obtain ⟨h1,h2,h3,h4,h5⟩:=D.own i c h
   exact ⟨by omega,h2.mono fun _ z=>Heap.get?_push_of_some _ z,h3,h4,h5⟩
 ·rw [ST.get_ins _ _ _ hg] at h1 h2
  by_cases q1:i=m
  ·rw [if_pos q1] at h1
   cases h1
   by_cases q2:j=m
   ·rw [q1,q2]
   ·rw [if_neg q2] at h2
    have:=old j d h2
    dsimp only at e
    omega
  ·rw [if_neg q1] at h1
   by_cases q2:j=m
   ·rw [if_pos q2] at h2
    cases h2
    have:=old i c h1
    dsimp only at e
    omega
   ·rw [if_neg q2] at h2
    exact D.inj i j c d h1 h2 e
 ·show _≤(s.heap.push o).objs.size
  rw [Heap.size_push]
  exact Nat.le_succ_of_le D.size
theorem mo {T:ST} (inj:∀ i j c d,T.get i=some c→T.get j=some d→c.a=d.a→i=j) {j:Nat} {c:Cell} {o':Obj} (hc:T.get j=some c):∀ i i' d d',(T.set j o').get i=some d→(T.set j o').get i'=some d'→d.a=d'.a→i=i':=by
 intro i i' d d' h1 h2 e
 rw [ST.get_set] at h1 h2
 have l1:∃ x,T.get i=some x∧x.a=d.a:=by
  by_cases q:i=j
  ·rw [if_pos q,hc] at h1
   simp only [Option.map_some,Option.some.injEq] at h1
   exact ⟨c,q▸hc,by rw [← h1]⟩
  ·rw [if_neg q] at h1; exact ⟨d,h1,rfl⟩
 have l2:∃ x,T.get i'=some x∧x.a=d'.a:=by
  by_cases q:i'=j
  ·rw [if_pos q,hc] at h2
   simp only [Option.map_some,Option.some.injEq] at h2
   exact ⟨c,q▸hc,by rw [← h2]⟩
  ·rw [if_neg q] at h2; exact ⟨d',h2,rfl⟩
 obtain ⟨x,hx1,hx2⟩:=l1
 obtain ⟨y,hy1,hy2⟩:=l2
 exact inj i i' x y hx1 hy1 (by rw [hx2,hy2,e])
theorem Rep.update {B:Base} {s₀ s:Shared} {m₀:Nat} {X:List Nat} {dt:Bool} {T:ST} {m j:Nat} {c:Cell} {f:Obj→Obj} {o':Obj} (D:Rep B s₀ m₀ X dt T m s) (hc:T.get j=some c) (hm:c.mu=true)
 (hf:∀ x,s.heap.get? c.a=some x→(f x).isFreed=false∧(f x=o'∨(dt=true∧aV o'=true∧∃ sl,f x=wS o' sl))) :
 Rep B s₀ m₀ X dt (T.set j o') m { s with heap:=s.heap.update c.a f }:=by
 obtain ⟨hj,hg,hh,hx,hn⟩:=D.own j c hc
 have ne:∀ b,b≠c.a→(s.heap.update c.a f).get? b=s.heap.get? b:=fun b hb=>Heap.get?_update_ne _ _ _ _ hb
 refine ⟨fun i d h=>?_,mo D.inj hc,⟨fun a x h=>(ne a fun z=>?_).trans (D.top.1 a x h),fun i d h=>(ne d.a fun z=>hh.2 i d h z).trans (D.top.2 i d h)⟩,fun a x h q=>?_,?_,D.gens,D.os,D.low⟩
 ·rw [ST.get_set] at h
  by_cases q:i=j
  ·rw [if_pos q,hc] at h
   simp only [Option.map_some,Option.some.injEq] at h
   subst h q
   refine ⟨hj,?_,hh,hx,hn⟩
   obtain ⟨sl,g⟩:=hg.get
   obtain ⟨f1,f2⟩:=hf _ g
   have:=Heap.get?_update_self f g f1
   rcases f2 with f2 | ⟨f2,f3,sl',f4⟩
   ·exact .inl (by rw [f2] at this; exact this)
   ·exact .inr ⟨f2,f3,sl',by rw [f4] at this; exact this⟩
  ·rw [if_neg q] at h
   obtain ⟨h1,h2,h3,h4,h5⟩:=D.own i d h
   exact ⟨h1,h2.mono fun _ y=>(ne _ fun z=>q (D.inj i j d c h hc z)).trans y,h3,h4,h5⟩
 ·rw [z,hh.1] at h; cases h
 ·refine (D.keep a x h q).mono fun _ y=>(ne a fun z=>?_).trans y
  rcases hx hm with hx | hx
  ·exact q (z▸hx)
  ·exact absurd (Heap.lt_size h) (Nat.not_lt.mpr (z▸hx))
 ·show _≤(s.heap.update c.a f).objs.size
  rw [Heap.size_after_update]
  exact D.size
theorem cP.slots {d:Bool} {S:List Nat} {h h₁:Heap} {a:Nat} {o:Obj} (x:cP d h a o) (hs:Heap.SlotsOnly S h h₁) (hS:∀ L,L∈S→∃ o,h.get? L=some o∧aV o=true):cP true h₁ a o:=by
 refine x.map (d':=true) (fun _=>rfl) (fun _=>rfl) fun o' z=>?_
 by_cases q:a∈S
 ·obtain ⟨y,hy,hf⟩:=hS a q
  rw [z] at hy
  cases hy
  obtain ⟨sl,w⟩:=hs.2.2 a o' z
  exact .inr ⟨rfl,hf,sl,w⟩
 ·exact .inl ((hs.2.1 a q).trans z)
theorem Rep.note {B:Base} {s₀ s:Shared} {m₀:Nat} {X S:List Nat} {d:Bool} {T:ST} {m j:Nat} {c:Cell} {o1 o2:Obj} {h₁ hF:Heap} (D:Rep B s₀ m₀ X d T m s) (hc:T.get j=some c) (hm:c.mu=true)
 (hs:Heap.SlotsOnly S s.heap h₁) (hS:∀ L,L∈S→B.Free L∧∃ o,s.heap.get? L=some o∧aV o=true) (hz:hF.objs.size=h₁.objs.size+1) (f1:hF.get? c.a=some o1) (f2:hF.get? h₁.objs.size=some o2)
 (f3:∀ b,b≠c.a→b<h₁.objs.size→hF.get? b=h₁.get? b) (hg:(((T.set j o1).ins m ⟨true,s.heap.objs.size,o2⟩).get m).isSome=true) :
 Rep B s₀ m₀ X true ((T.set j o1).ins m ⟨true,s.heap.objs.size,o2⟩) (m+1) { s with heap:=hF }:=by
 obtain ⟨hj,hgc,hh,hx,hn⟩:=D.own j c hc
 have hS':∀ L,L∈S→∃ o,s.heap.get? L=some o∧aV o=true:=fun L hL=>(hS L hL).2
 have hle:∀ {d a o},cP d s.heap a o→a≠c.a→cP true hF a o:=fun {d a o} x ne=>(x.slots hs hS').mono fun o' z=>(f3 a ne (Heap.lt_size z)).trans z
 have exact_:∀ a o,s.heap.get? a=some o→a∉S→a≠c.a→hF.get? a=some o:=fun a o z hn ne=>by
  have:=(hs.2.1 a hn).trans z
  exact (f3 a ne (Heap.lt_size this)).trans this
 have old:∀ i x,(T.set j o1).get i=some x→x.a<s.heap.objs.size:=fun i x h=>by
  rw [ST.get_set] at h
  by_cases q:i=j
  ·rw [if_pos q,hc] at h
   simp only [Option.map_some,Option.some.injEq] at h
   subst h
   exact hgc.lt_size
  ·rw [if_neg q] at h
   exact (D.own i x h).2.1.lt_size
 refine ⟨fun i x h=>?_,fun i i' x y h1 h2 e=>?_,⟨fun a x h=>?_,fun i x h=>?_⟩,fun a x h q=>?_,?_,D.gens,D.os,Nat.le_succ_of_le D.low⟩
 ·rw [ST.get_ins _ _ _ hg] at h
  by_cases q:i=m
  ·rw [if_pos q] at h
   cases h
   exact ⟨by omega,.inl (hs.1▸f2),D.top.free (Nat.le_refl _),fun _=>.inr D.size,fun _=>D.size⟩
  ·rw [if_neg q,ST.get_set] at h
   by_cases q':i=j
   ·rw [if_pos q',hc] at h
    simp only [Option.map_some,Option.some.injEq] at h
    subst h q'
    exact ⟨by omega,.inl f1,hh,hx,hn⟩
   ·rw [if_neg q'] at h
    obtain ⟨h1,h2,h3,h4,h5⟩:=D.own i x h
    exact ⟨by omega,hle h2 fun z=>q' (D.inj i j x c h hc z),h3,h4,h5⟩
 ·rw [ST.get_ins _ _ _ hg] at h1 h2
  by_cases q1:i=m
  ·rw [if_pos q1] at h1
   cases h1
   by_cases q2:i'=m
   ·rw [q1,q2]
   ·rw [if_neg q2] at h2
    have:=old i' y h2
    dsimp only at e
    omega
  ·rw [if_neg q1] at h1
   by_cases q2:i'=m
   ·rw [if_pos q2] at h2
    cases h2
    have:=old i x h1
    dsimp only at e
    omega
   ·rw [if_neg q2] at h2
    exact mo D.inj hc i i' x y h1 h2 e
 ·refine exact_ a x (D.top.1 a x h) (fun hm=>?_) fun z=>?_
  ·have:=(hS a hm).1.1
   rw [h] at this; cases this
  ·have:=hh.1
   rw [← z,h] at this; cases this
 ·refine exact_ x.a x.o (D.top.2 i x h) (fun hm=>(hS _ hm).1.2 i x h rfl) fun z=>hh.2 i x h z
 ·refine hle (D.keep a x h q) fun z=>?_
  rcases hx hm with hx | hx
  ·exact q (z▸hx)
  ·exact absurd (Heap.lt_size h) (Nat.not_lt.mpr (z▸hx))
 ·show _≤hF.objs.size
  have:=D.size
  have:=hs.1
  omega
theorem Rep.after {B:Base} {s₀ s s':Shared} {m₀:Nat} {X:List Nat} {d d'':Bool} {T T':ST} {m:Nat} {S:Spec} {bs ts jx:List Nat} (D:Rep B s₀ m₀ X d T m s) (A:After B S s s' bs ts) (hd:d=true→d''=true) (hd':S.dy=true→d''=true) (hmu:nk S.mu=o4 T jx)
 (hlen:(S.po bs ts).length=jx.length) (hml:S.mu.length=jx.length) (hins:bW (cI T jx (S.po bs ts)) m bs (S.nw bs ts)=some T'):Rep B s₀ m₀ X d'' T' (m+S.nb) s':=by
 obtain ⟨hl,hg⟩:=fB hins
 have notMu:∀ i d,T.get i=some d→i∉jx→d.a∉S.mu:=fun i d h hi hm=>by
  obtain ⟨c,i',h1,h2,h3,h4⟩:=kx hmu _ hm
  exact hi (D.inj i i' d c h h1 h2.symm▸h4)
 have up:∀ {a o},cP S.dy s'.heap a o→cP d'' s'.heap a o:=fun x=>x.map (d':=S.dy) hd' hd' fun _ z=>.inl z
 have cell:∀ i c,T'.get i=some c→(∃ d,T.get i=some d∧c.a=d.a∧c.mu=d.mu∧cP d'' s'.heap c.a c.o)∨(∃ j,i=m+j∧bs[j]?=some c.a∧cP d'' s'.heap c.a c.o):=by
  intro i c h
  rcases hg i c h with ⟨h1,_⟩ | ⟨j,h1,h2,h3⟩
  ·obtain ⟨d,j1,e1,e2,h4⟩:=fF hlen.symm h1
   refine .inl ⟨d,j1,e1,e2,?_⟩
   rcases h4 with ⟨h4,h5⟩ | ⟨q,h4,h5⟩
   ·rw [e1,h5]
    exact (D.own i d j1).2.1.map (d':=S.dy) hd hd' fun o' z=>A.keep _ _ z (notMu i d j1 h4)
   ·have hq:q<S.mu.length:=by
     have:=(List.getElem?_eq_some_iff.mp h4).1
     omega
    obtain ⟨c',k1,k2,_⟩:=pv hmu q i S.mu[q] h4 (List.getElem?_eq_getElem hq)
    rw [j1] at k1
    cases k1
    rw [e1]
    exact up (A.po q _ _ ((List.getElem?_eq_getElem hq).trans (by rw [k2])) h5)
  ·exact .inr ⟨j,h1,h2,up (A.nw j _ _ h2 h3)⟩
 refine ⟨fun i c h=>?_,fun i i' c d h1 h2 e=>?_,A.top,fun a o h q=>?_,Nat.le_trans D.size A.size,A.gens.trans D.gens,A.os.trans D.os,Nat.le_trans D.low (Nat.le_add_right ..)⟩
 ·rcases cell i c h with ⟨d,j1,e1,e2,h4⟩ | ⟨j,h1,h2,h3⟩
  ·obtain ⟨k1,k2,k3,k4,k5⟩:=D.own i d j1
   exact ⟨by omega,h4,by rw [e1]; exact k3,by rw [e1,e2]; exact k4,by rw [e1]; exact k5⟩
  ·have hb:c.a∈bs:=List.mem_of_getElem? h2
   have hj:j<S.nb:=by rw [← A.len]; exact (List.getElem?_eq_some_iff.mp h2).1
   have hs:=A.new _ hb
   exact ⟨by omega,h3,D.top.free hs,fun _=>.inr (Nat.le_trans D.size hs),fun _=>Nat.le_trans D.size hs⟩
 ·rcases cell i c h1 with ⟨x,hx,e1,_,_⟩ | ⟨j,h1,k1,_⟩
  ·rcases cell i' d h2 with ⟨y,hy,e2,_,_⟩ | ⟨j',h2,k2,_⟩
   ·exact D.inj i i' x y hx hy (by rw [← e1,←e2,e])
   ·have r:=A.new _ (List.mem_of_getElem? k2)
    have z:d.a=x.a:=by rw [← e,e1]
    exact absurd (D.own i x hx).2.1.lt_size (Nat.not_lt.mpr (z▸r))
  ·rcases cell i' d h2 with ⟨y,hy,e2,_,_⟩ | ⟨j',h2,k2,_⟩
   ·have r:=A.new _ (List.mem_of_getElem? k1)
    have z:c.a=y.a:=by rw [e,e2]
    exact absurd (D.own i' y hy).2.1.lt_size (Nat.not_lt.mpr (z▸r))
   ·obtain ⟨l1,g1⟩:=List.getElem?_eq_some_iff.mp k1
    obtain ⟨l2,g2⟩:=List.getElem?_eq_some_iff.mp k2
    have hne:=List.pairwise_iff_getElem.mp A.nd
    have eq:bs[j]=bs[j']:=by rw [g1,g2,e]
    rcases Nat.lt_trichotomy j j' with q | q | q
    ·exact absurd eq (hne j j' l1 l2 q)
    ·omega
    ·exact absurd eq.symm (hne j' j l2 l1 q)
 ·refine (D.keep a o h q).map (d':=S.dy) hd hd' fun o' z=>A.keep a o' z fun hm=>?_
  obtain ⟨c,i,k1,k2,k3,_⟩:=kx hmu _ hm
  rcases (D.own i c k1).2.2.2.1 k3 with k | k
  ·exact q (k2▸k)
  ·exact absurd (Heap.lt_size h) (Nat.not_lt.mpr (k2▸k))
noncomputable def pb (x:Out) (L R:List Sd):Prop:=∃ L' R',x.L=L' ++ L∧x.R=R' ++ R∧L'.length=R'.length
theorem pb.refl {x:Out}:pb x x.L x.R:=⟨[],[],rfl,rfl,rfl⟩
theorem pb.push {x:Out} {a b:Sd} {L R:List Sd} (h:pb x (a::L) (b::R)):pb x L R:=by
 obtain ⟨L',R',h1,h2,h3⟩:=h
 exact ⟨L' ++ [a],R' ++ [b],by simp [h1],by simp [h2],by simp [h3]⟩
theorem pb.same {x:Out} {a b:Sd} {L:List Sd} (h:pb x (a::L) (b::L)) (e:x.L=x.R):a=b:=by
 obtain ⟨L',R',h1,h2,h3⟩:=h
 rw [h1,h2] at e
 have:=(List.append_inj e h3).2
 injection this
structure UseE (V:Cx) (d:Bool) (T:ST) (m k i hs:Nat) (c:Code) (bf:List (Code × Pos)→List (Code × Pos)) (u:Use) (nf:Bool) (lv:Nat) (ch:Nat→Option (Nat × List Sd × List Sd)) (S:Spec) (T':ST) (hs':Nat) (d':Bool) (LL RR:List Sd):Prop where
 eq:u.S (aM T) (ci V.τ i) (b8 T) (cl V.ρ k) (V.ρ k)=S
 lv:S.lv≤lv
 fit:mg V S.sh bf=true
 nd:u.ix.Nodup
 ml:S.mu.length=u.jx.length
 pl:(S.po (aY V.ν k S.nb) (aY V.τ i S.nt)).length=u.jx.length
 ins:bW (cI T u.jx (S.po (aY V.ν k S.nb) (aY V.τ i S.nt))) m (aY V.ν k S.nb) (S.nw (aY V.ν k S.nb) (aY V.τ i S.nt))=some T'
 dy:(S.dy=false∧hs'=hs∧d'=d∧LL=[]∧RR=[])∨(S.dy=true∧V.dy=true∧d'=true∧nf=true∧ch hs=some (hs',LL,RR))
theorem bR {V:Cx} {d:Bool} {T:ST} {m k i hs:Nat} {c:Code} {bf:List (Code × Pos)→List (Code × Pos)} {u:Use} {nf:Bool} {lv:Nat} {ch:Nat→Option (Nat × List Sd × List Sd)} {K:Result→Nat→Bool→ST→Nat→Nat→Nat→Sd→Sd→Option Out} {x:Out} (h:io V d T m k i hs c bf u nf lv ch K=some x) :
 ∃ S T' hs' d' LL RR,UseE V d T m k i hs c bf u nf lv ch S T' hs' d' LL RR ∧
  K (S.r (aY V.ν k S.nb) (aY V.τ i S.nt)) hs' d' T' (m+S.nb) (k+S.nb+1) (i+S.nt) (.s [.c S.c,.s (dW S.pre),.s (nk S.mu),.s LL]) (.s [.c c,.s (dv T d S.di u.ix),.s (o4 T u.jx),.s RR])=some x:=by
 unfold io at h
 cases hS:u.S (aM T) (ci V.τ i) (b8 T) (cl V.ρ k) (V.ρ k) with
 | mk lv' sh c' pre mu n q po nw r dy di =>
  rw [hS] at h
  simp only at h
  cases h1:Nat.ble lv' lv with
  | false=>rw [h1] at h; cases h
  | true =>
   rw [h1] at h
   simp only at h
   cases h1':mg V sh bf with
   | false=>rw [h1'] at h; cases h
   | true =>
   rw [h1'] at h
   simp only at h
   cases h2:cD u.ix with
   | false=>rw [h2] at h; cases h
   | true =>
    rw [h2] at h
    simp only at h
    cases h2':cF mu u.jx with
    | false=>rw [h2'] at h; cases h
    | true =>
    rw [h2'] at h
    simp only at h
    cases h3:cF (po (aY V.ν k n) (aY V.τ i q)) u.jx with
    | false=>rw [h3] at h; cases h
    | true =>
     rw [h3] at h
     simp only at h
     cases h4:bW (cI T u.jx (po (aY V.ν k n) (aY V.τ i q))) m (aY V.ν k n) (nw (aY V.ν k n) (aY V.τ i q)) with
     | none=>rw [h4] at h; cases h
     | some T' =>
      rw [h4] at h
      simp only at h
      cases dy with
      | false =>
       simp only at h
       exact ⟨_,T',hs,d,[],[],⟨hS,Nat.le_of_ble_eq_true h1,h1',cv h2,bA h2',bA h3,h4,.inl ⟨rfl,rfl,rfl,rfl,rfl⟩⟩,h⟩
      | true =>
       simp only at h
       cases h5:V.dy with
       | false=>rw [h5] at h; cases h
       | true =>
        rw [h5] at h
        simp only at h
        cases h7:nf with
        | false=>rw [h7] at h; cases h
        | true =>
        rw [h7] at h
        simp only at h
        cases h6:ch hs with
        | none=>rw [h6] at h; cases h
        | some y =>
         rw [h6] at h
         simp only [fi] at h
         exact ⟨_,T',y.1,true,y.2.1,y.2.2,⟨hS,Nat.le_of_ble_eq_true h1,h1',cv h2,bA h2',bA h3,h4,.inr ⟨rfl,h5,rfl,rfl,h6⟩⟩,h⟩
theorem ju:∀ {l:List LibE} {i:Nat} {e:LibE},sV l i=some e→e∈l
 | [],_,_,h=>by cases h
 | x::l,0,e,h=>by
  have:x=e:=Option.some.inj h
  exact this▸.head _
 | x::l,i+1,e,h=>.tail _ (ju (l:=l) (i:=i) h)
theorem eR (T:ST):∀ n hs,(∀ K,jG T n hs K=none)∨∃ h ix cs,∀ K,jG T n hs K=K h ix cs
 | 0,hs=>.inr ⟨hs,[],[],fun _=>rfl⟩
 | n+1,hs=>by
  have e:∀ K,jG T (n+1) hs K=match T.get (hs % hB) with | none=>none | some c=>jG T n (hs / hB) fun h ix cs=>K h (hs % hB::ix) (c::cs):=fun _=>rfl
  cases g:T.get (hs % hB) with
  | none=>exact .inl fun K=>by rw [e,g]
  | some c =>
   rcases eR T n (hs / hB) with q | ⟨h,ix,cs,q⟩
   ·exact .inl fun K=>by rw [e,g]; exact q _
   ·exact .inr ⟨h,_,_,fun K=>by rw [e,g]; exact q _⟩
theorem eU:∀ n hs,∃ h l,∀ K,vx n hs K=K h l
 | 0,hs=>⟨hs,[],fun _=>rfl⟩
 | n+1,hs=>by
  obtain ⟨h,l,q⟩:=eU n (hs / hB)
  exact ⟨h,_,fun K=>q _⟩
theorem cN (lb:List LibE) (T:ST) (c:Code) (h hs:Nat) (us:List Use):(∀ K,eM lb T c h hs us K=none) ∨
 ∃ hs' u us',(∀ K,eM lb T c h hs us K=K hs' u us')∧u.tl=none∧(u∈us∨∃ e cs ms,e∈lb∧∀ A tk O ρs ρ,u.S A tk O ρs ρ=e.S c cs ms)∧∀ v,v∈us'→v∈us:=by
 unfold eM
 cases Nat.beq h 2 with
 | true =>
  cases us with
  | nil=>exact .inl fun _=>rfl
  | cons u us =>
   cases q:u.tl with
   | some x=>exact .inl fun _=>by simp only [q]
   | none=>exact .inr ⟨hs,u,us,(fun _=>by simp only [q]),q,.inl (.head _),fun v hv=>.tail _ hv⟩
 | false =>
  cases q:sV lb (h - 4) with
  | none=>exact .inl fun _=>rfl
  | some e =>
   rcases eR T (hs % hB % 32) (hs / hB) with z | ⟨h1,ix,cs,z⟩
   ·exact .inl fun K=>z _
   ·obtain ⟨h2,ms,y⟩:=eU (hs % hB / 32) h1
    exact .inr ⟨h2,_,us,(fun K=>(z _).trans (y _)),rfl,.inr ⟨e,cs,ms,ju q,fun _ _ _ _ _=>rfl⟩,fun v hv=>hv⟩
theorem fV {lb:List LibE} {T:ST} {c:Code} {h hs:Nat} {us:List Use} {K:Nat→Use→List Use→Option Out} {x:Out} (e:eM lb T c h hs us K=some x):∃ hs' u us',K hs' u us'=some x:=by
 rcases cN lb T c h hs us with q | ⟨h',u,us',q,_⟩
 ·rw [q] at e; cases e
 ·exact ⟨h',u,us',(q K).symm.trans e⟩
noncomputable def vj (V:Cx) (n:Nat):Prop:=∀ hs us Γ κ bd t p d T m k i L R x,l7 V n hs us Γ κ bd t p d T m k i L R=some x→pb x L R
theorem bm {V:Cx} {n:Nat} (ih:vj V n) {r:Result} {hs:Nat} {us:List Use} {κ:Kt} {d:Bool} {T:ST} {m k i:Nat} {L R:List Sd} {x:Out} (h:eX (l7 V n) r hs us κ d T m k i L R=some x):pb x L R:=by
 cases κ with
 | base =>
  simp only [eX,Option.some.injEq] at h
  subst h
  exact pb.refl
 | ret Γ p bd f κ=>exact ih _ _ _ _ _ _ _ _ _ _ _ _ _ _ _ h
theorem aR (V:Cx):∀ n,vj V n
 | 0=>fun _ _ _ _ _ _ _ _ _ _ _ _ _ _ _ h=>by cases h
 | n+1=>by
  intro hs us Γ κ bd t p d T m k i L R x h
  have ih:=aR V n
  have h:aO V (l7 V n) hs us Γ κ bd t p d T m k i L R=some x:=h
  cases t with
  | pure fin =>
   cases fin with
   | done f=>exact bm ih h
   | again c =>
    simp only [aO] at h
    split at h
    ·cases h
    ·split at h
     ·split at h
      ·exact (ih _ _ _ _ _ _ _ _ _ _ _ _ _ _ _ h).push
      ·cases h
     ·split at h
      ·exact ih _ _ _ _ _ _ _ _ _ _ _ _ _ _ _ h
      ·split at h
       ·exact ih _ _ _ _ _ _ _ _ _ _ _ _ _ _ _ h
       ·cases h
      ·split at h
       ·cases h
       ·obtain ⟨_,_,_,h⟩:=fV h
        obtain ⟨S,T',_,_,_,_,_,h⟩:=bR h
        exact (bm ih h).push
  | raise e=>exact bm ih h
  | rule _ f=>exact ih _ _ _ _ _ _ _ _ _ _ _ _ _ _ _ h
  | «at» q f =>
   simp only [aO] at h
   split at h
   ·exact ih _ _ _ _ _ _ _ _ _ _ _ _ _ _ _ h
   ·split at h
    ·exact ih _ _ _ _ _ _ _ _ _ _ _ _ _ _ _ h
    ·split at h
     ·exact ih _ _ _ _ _ _ _ _ _ _ _ _ _ _ _ h
     ·split at h
      ·cases h
      ·obtain ⟨S,T',_,_,_,_,_,h⟩:=bR h
       exact (bm ih h).push
  | point _ f=>exact ih _ _ _ _ _ _ _ _ _ _ _ _ _ _ _ h
  | ask f =>
   simp only [aO] at h
   split at h
   ·exact ih _ _ _ _ _ _ _ _ _ _ _ _ _ _ _ h
   ·exact (ih _ _ _ _ _ _ _ _ _ _ _ _ _ _ _ h).push
   ·exact ih _ _ _ _ _ _ _ _ _ _ _ _ _ _ _ h
  | load a _ f =>
   simp only [aO] at h
   split at h
   ·split at h
    ·split at h
     ·cases h
     ·split at h
      ·cases h
      ·simp only [NoteC.run_eq] at h
       exact (bm ih h).push
    ·split at h
     ·cases h
     ·split at h
      ·cases h
      ·simp only [NoteC.run_eq] at h
       split at h
       ·cases h
       ·exact (ih _ _ _ _ _ _ _ _ _ _ _ _ _ _ _ h).push
   ·split at h
    ·split at h
     ·exact ih _ _ _ _ _ _ _ _ _ _ _ _ _ _ _ h
     ·split at h
      ·exact (ih _ _ _ _ _ _ _ _ _ _ _ _ _ _ _ h).push
      ·exact (ih _ _ _ _ _ _ _ _ _ _ _ _ _ _ _ h).push
    ·cases h
  | loadIfAlive a f =>
   simp only [aO] at h
   split at h
   ·split at h
    ·exact ih _ _ _ _ _ _ _ _ _ _ _ _ _ _ _ h
    ·split at h
     ·exact (ih _ _ _ _ _ _ _ _ _ _ _ _ _ _ _ h).push
     ·exact (ih _ _ _ _ _ _ _ _ _ _ _ _ _ _ _ h).push
   ·cases h
  | alloc o f =>
   simp only [aO] at h
   split at h
   ·cases h
   ·split at h
    ·exact ih _ _ _ _ _ _ _ _ _ _ _ _ _ _ _ h
    ·cases h
  | update a _ g f =>
   simp only [aO] at h
   split at h
   ·split at h
    ·cases h
    ·split at h
     ·cases h
     ·split at h
      ·exact (ih _ _ _ _ _ _ _ _ _ _ _ _ _ _ _ h).push
      ·split at h
       ·cases h
       ·exact (ih _ _ _ _ _ _ _ _ _ _ _ _ _ _ _ h).push
   ·cases h
  | fresh f=>exact ih _ _ _ _ _ _ _ _ _ _ _ _ _ _ _ h
  | handled own f =>
   cases own with
   | false=>exact ih _ _ _ _ _ _ _ _ _ _ _ _ _ _ _ h
   | true=>cases h
  | stack f =>
   simp only [aO] at h
   split at h
   ·exact ih _ _ _ _ _ _ _ _ _ _ _ _ _ _ _ h
   ·split at h
    ·exact ih _ _ _ _ _ _ _ _ _ _ _ _ _ _ _ h
    ·exact (ih _ _ _ _ _ _ _ _ _ _ _ _ _ _ _ h).push
  | call c hd _ _ f =>
   simp only [aO] at h
   split at h
   ·cases h
   ·split at h
    ·split at h
     ·exact (ih _ _ _ _ _ _ _ _ _ _ _ _ _ _ _ h).push
     ·cases h
    ·split at h
     ·exact ih _ _ _ _ _ _ _ _ _ _ _ _ _ _ _ h
     ·split at h
      ·exact ih _ _ _ _ _ _ _ _ _ _ _ _ _ _ _ h
      ·cases h
     ·split at h
      ·cases h
      ·obtain ⟨_,_,_,h⟩:=fV h
       obtain ⟨S,T',_,_,_,_,_,h⟩:=bR h
       exact (ih _ _ _ _ _ _ _ _ _ _ _ _ _ _ _ h).push
  | _=>cases h
noncomputable abbrev fZ:=(Nat→Nu)→(Nat→Nat)→Out→Prop
noncomputable def p9 (Fin:fZ) (ν:Nat→Nu) (τ:Nat→Nat) (o:Option Out):Prop:=∃ x,o=some x∧x.L=x.R∧Fin ν τ x
theorem p9.none {Fin:fZ} {ν:Nat→Nu} {τ:Nat→Nat} (h:p9 Fin ν τ Option.none):False:=by
 obtain ⟨_,e,_⟩:=h
 cases e
noncomputable def n3 {α:Type} (f:Nat→α) (k:Nat) (v:α):Nat→α:=fun j=>if j=k then v else f j
theorem bt {α:Type} (f:Nat→α) (k:Nat) (v:α):n3 f k v k=v:=if_pos rfl
theorem cm {α:Type} {f:Nat→α} {k j:Nat} {v:α} (h:j<k):n3 f k v j=f j:=if_neg (by omega)
noncomputable def lx (f:Nat→Nat) (k:Nat) (bs:List Nat):Nat→Nat:=fun j=>if j<k then f j else bs.getD (j - k) 0
theorem uc {f:Nat→Nat} {k j:Nat} {bs:List Nat} (h:j<k):lx f k bs j=f j:=if_pos h
theorem tR (f:Nat→Nat) (k:Nat) (bs:List Nat):aY (lx f k bs) k bs.length=bs:=fj fun j a h=>by
 unfold lx
 rw [if_neg (by omega),show k+j - k=j by omega,List.getD_eq_getElem?_getD,h]; rfl
noncomputable def g5 (f:Nat→Nu) (k:Nat) (bs:List Nat) (ρ:Post):Nat→Nu:=fun j=>if j<k then f j else ⟨bs.getD (j - k) 0,fun _=>.none,default,ρ⟩
theorem uB {f:Nat→Nu} {k j:Nat} {bs:List Nat} {ρ:Post} (h:j<k):g5 f k bs ρ j=f j:=if_pos h
theorem rD (f:Nat→Nu) (k:Nat) (bs:List Nat) (ρ:Post):aY (fun j=>(g5 f k bs ρ j).a) k bs.length=bs:=fj fun j a h=>by
 unfold g5
 rw [if_neg (by omega),show k+j - k=j by omega,List.getD_eq_getElem?_getD,h]; rfl
theorem jg {f g:Nat→Post} {i:Nat} (h:∀ j,j<i→f j=g j):cl f i=cl g i:=by
 funext j
 unfold cl
 cases q:Nat.blt j i with
 | false=>rfl
 | true=>exact h j (Nat.le_of_ble_eq_true q)
theorem fT {f g:Nat→Nat}:∀ {n k:Nat},(∀ j,j<k+n→f j=g j)→aY f k n=aY g k n
 | 0,_,_=>rfl
 | n+1,k,h=>by
  simp only [aY]
  rw [h k (by omega),fT (n:=n) (k:=k+1) fun j hj=>h j (by omega)]
theorem jY {f g:Nat→Nat} {i:Nat} (h:∀ j,j<i→f j=g j):ci f i=ci g i:=by
 funext j
 unfold ci
 cases q:Nat.blt j i with
 | false=>rfl
 | true=>exact h j (Nat.le_of_ble_eq_true q)
structure Low (B:Base) (s₀:Shared) (X:List Nat) (bl:List (Code × Pos)) (shs:List (List Kd)) (κc:Nat→Ct) (dy:Bool):Prop where
 shape:shs≠[]→∃ l,l∈shs∧eu l 0 κc=bl
 ok:dy=true→fS B s₀.heap bl
 off:dy=true→∀ env L,env∈envsOf bl→env.frame=some L→L∉X
noncomputable def jM (B:Base) (lb:List LibE) (dy:Bool) (shs:List (List Kd)) (κc:Nat→Ct) (Fin:fZ) (k i:Nat) (β:Nat→Nu) (γ:Nat→Nat) (F:Cx→Option Out):Prop :=
 ∀ ς ν τ,(∀ j,j<k→ν j=β j)→(∀ j,j<i→τ j=γ j)→p9 Fin ν τ (F (B.V lb dy shs κc ς ν τ))
noncomputable def mi (B:Base) (lb:List LibE) (dy:Bool) (shs:List (List Kd)) (κc:Nat→Ct) (s₀:Shared) (m₀:Nat) (X:List Nat) (bl:List (Code × Pos)) (Fin:fZ) (R:Result→Shared→Prop) (n:Nat):Prop :=
 ∀ hs us Γ κ bd t p d T m k i (L:Cx→List Sd) β γ s,(∀ u:Use,u∈us→∀ A tk O ρs,bI B u.tl (u.S A tk O ρs))→NB bd Γ→ro bl Γ.below κ→Rep B s₀ m₀ X d T m s→jM B lb dy shs κc Fin k i β γ (fun V=>l7 V n hs us Γ κ bd t p d T m k i (L V) (L V))→A4 B R Γ κ t p s
theorem fk {T:ST}:∀ {l:List Nat},k8 T l=true→∀ i,i∈l→∀ c,T.get i=some c→aV c.o=false
 | j::l,h,i,hi,c,hc=>by
  unfold k8 at h
  cases e:T.get j with
  | none=>rw [e] at h; cases h
  | some x =>
   rw [e] at h
   simp only at h
   cases q:aV x.o with
   | true=>rw [q] at h; cases h
   | false =>
    rw [q] at h
    rcases List.mem_cons.mp hi with rfl | hi
    ·rw [e] at hc; cases hc; exact q
    ·exact fk h i hi c hc
theorem qf:∀ (l:List Value) (i:Nat),nR l i=l[i]?
 | [],i=>by cases i <;> rfl
 | v::l,0=>rfl
 | v::l,i+1=>by simp only [nR,List.getElem?_cons_succ]; exact qf l i
theorem m1 {a:Array Value} {i:Nat}:nR a.toList i=a[i]?:=by rw [qf]; simp
theorem nr {c:Code} (h:c.isFrame=false):c.envs=[]:=by unfold Code.envs; rw [h]; rfl
theorem p3 {B:Base} {s₀ s:Shared} {m₀:Nat} {X:List Nat} {d:Bool} {T:ST} {m:Nat} {c:Code} {j:Nat} {x:Sd × Sd} (D:Rep B s₀ m₀ X d T m s) (h:qD T c j=some x) (e:x.1=x.2) :
 ∃ env,c.envs=[env]∧mN B s.heap env∧∃ cell,T.get j=some cell∧env.frame=some cell.a:=by
 unfold qD at h
 split at h
 ·rename_i b env
  split at h
  ·rename_i L hL
   split at h
   ·rename_i cell hc
    split at h
    ·rename_i hf
     split at h
     ·rename_i es n hdt
      have fin:env.scope.kind≠.module→x=(.n L,.n cell.a)→∃ env',(Code.func b env).envs=[env']∧mN B s.heap env'∧∃ cell,T.get j=some cell∧env'.frame=some cell.a:=by
       rintro hk rfl
       injection e with e
       subst e
       obtain ⟨sl,g⟩:=(D.own _ _ hc).2.1.get
       exact ⟨env,rfl,⟨hk,cell.a,_,hL,g,hf,(fun vs q=>by have:cell.o.data=.fields vs:=q; rw [hdt] at this; cases this),(D.own _ _ hc).2.2.1⟩,cell,hc,hL⟩
      split at h
      ·cases h
      ·rename_i hk
       simp only [Option.some.injEq] at h
       exact fin hk h.symm
     ·cases h
    ·cases h
   ·cases h
  ·cases h
 ·cases h
theorem jR {B:Base} {s₀ s:Shared} {m₀:Nat} {X:List Nat} {d:Bool} {T:ST} {m:Nat} {c:Code} {hs hs':Nat} {L R L' R':List Sd} (D:Rep B s₀ m₀ X d T m s) (h:lW T c hs L R=some (hs',L',R')) :
 ∃ P Q,L'=P ++ L∧R'=Q ++ R∧P.length=Q.length∧(P=Q→∀ env,env∈c.envs→mN B s.heap env):=by
 unfold lW at h
 split at h
 ·rename_i hf
  simp only [Option.some.injEq,Prod.mk.injEq] at h
  obtain ⟨_,rfl,rfl⟩:=h
  exact ⟨[],[],rfl,rfl,rfl,fun _ env he=>by rw [nr hf] at he; cases he⟩
 ·split at h
  ·rename_i x hx
   simp only [Option.some.injEq,Prod.mk.injEq] at h
   obtain ⟨_,rfl,rfl⟩:=h
   refine ⟨[x.1],[x.2],rfl,rfl,rfl,fun e env he=>?_⟩
   injection e with e
   obtain ⟨env',h1,h2,_⟩:=p3 D hx e
   rw [h1] at he
   rcases List.mem_cons.mp he with rfl | he
   ·exact h2
   ·cases he
  ·cases h
theorem dw {B:Base} {s₀ s:Shared} {m₀:Nat} {X:List Nat} {bl:List (Code × Pos)} {shs:List (List Kd)} {κc:Nat→Ct} {d dy:Bool} {T:ST} {m:Nat} (D:Rep B s₀ m₀ X d T m s) (W:Low B s₀ X bl shs κc dy) (hdy:dy=true) :
 ∀ {κ:Kt} {b:List (Code × Pos)} {hs hs':Nat} {L R L' R':List Sd},ro bl b κ→cK T κ hs L R=some (hs',L',R')→∃ P Q,L'=P ++ L∧R'=Q ++ R∧P.length=Q.length∧(P=Q→fS B s.heap b)
 | .base,b,hs,hs',L,R,L',R',hk,h=>by
  simp only [cK,Option.some.injEq,Prod.mk.injEq] at h
  obtain ⟨_,rfl,rfl⟩:=h
  refine ⟨[],[],rfl,rfl,rfl,fun _ env he=>?_⟩
  have hb:b=bl:=hk
  subst hb
  obtain ⟨h1,L,o,h2,h3,h4,h5,h6⟩:=W.ok hdy env he
  obtain ⟨sl,g⟩:=(D.keep L o h3 (W.off hdy env L he h2)).get
  exact ⟨h1,L,_,h2,g,h4,h5,h6⟩
 | .ret Γ p bd f κ,b,hs,hs',L,R,L',R',hk,h=>by
  obtain ⟨_,hb,hk'⟩:=hk
  simp only [cK,fi] at h
  split at h
  ·rename_i x hx
   obtain ⟨x1,x2,x3⟩:=x
   obtain ⟨P,Q,rfl,rfl,hl,ho⟩:=jR D hx
   obtain ⟨P',Q',rfl,rfl,hl',ho'⟩:=dw D W hdy hk' h
   refine ⟨P' ++ P,Q' ++ Q,by simp,by simp,by simp [hl,hl'],fun e=>?_⟩
   obtain ⟨e1,e2⟩:=List.append_inj e hl'
   intro env he
   rw [hb,envsOf_cons] at he
   rcases List.mem_append.mp he with he | he
   ·exact ho e2 env he
   ·exact ho' e1 env he
  ·cases h
theorem gX {B:Base} {s₀ s:Shared} {m₀:Nat} {X:List Nat} {bl:List (Code × Pos)} {shs:List (List Kd)} {κc:Nat→Ct} {d dy:Bool} {T:ST} {m:Nat} (D:Rep B s₀ m₀ X d T m s) (W:Low B s₀ X bl shs κc dy) (hdy:dy=true)
 {κ:Kt} {b:List (Code × Pos)} {c:Code} {p:Pos} {hs hs':Nat} {L R L' R':List Sd} (hk:ro bl b κ) (h:ed T c κ hs L R=some (hs',L',R')) :
 ∃ P Q,L'=P ++ L∧R'=Q ++ R∧P.length=Q.length∧(P=Q→fS B s.heap ((c,p)::b)):=by
 unfold ed at h
 simp only [fi] at h
 split at h
 ·rename_i x hx
  obtain ⟨x1,x2,x3⟩:=x
  obtain ⟨P,Q,rfl,rfl,hl,ho⟩:=jR D hx
  obtain ⟨P',Q',rfl,rfl,hl',ho'⟩:=dw D W hdy hk h
  refine ⟨P' ++ P,Q' ++ Q,by simp,by simp,by simp [hl,hl'],fun e=>?_⟩
  obtain ⟨e1,e2⟩:=List.append_inj e hl'
  intro env he
  rw [envsOf_cons] at he
  rcases List.mem_append.mp he with he | he
  ·exact ho e2 env he
  ·exact ho' e1 env he
 ·cases h
section
variable {B:Base} (O:B.Ok) {lb:List LibE} {dy:Bool} {shs:List (List Kd)} {κc:Nat→Ct} {s₀:Shared} {m₀:Nat} {X:List Nat} {bl:List (Code × Pos)} (W:Low B s₀ X bl shs κc dy) {Fin:fZ} {R:Result→Shared→Prop}
 (hR:∀ ν τ x m s,Fin ν τ x→Rep B s₀ m₀ X x.d x.T m s→R x.r s)
include hR in
theorem c8 {n:Nat} (IH:mi B lb dy shs κc s₀ m₀ X bl Fin R n) {r:Result} {hs:Nat} {us:List Use} {κ:Kt} {b:List (Code × Pos)} {d:Bool} {T:ST} {m k i:Nat} {L:Cx→List Sd} {β:Nat→Nu} {γ:Nat→Nat} {s:Shared}
 (hus:∀ u:Use,u∈us→∀ A tk O ρs,bI B u.tl (u.S A tk O ρs)) (hk:ro bl b κ) (D:Rep B s₀ m₀ X d T m s) (H:jM B lb dy shs κc Fin k i β γ (fun V=>eX (l7 V n) r hs us κ d T m k i (L V) (L V))):bn B R κ r s:=by
 cases κ with
 | base =>
  obtain ⟨x,e,_,hf⟩:=H #[] β γ (fun _ _=>rfl) (fun _ _=>rfl)
  simp only [eX,Option.some.injEq] at e
  subst e
  exact hR β γ _ m s hf D
 | ret Γ p bd f κ=>exact IH hs us Γ κ bd (f r) p d T m k i L β γ s hus hk.1 hk.2.2 D H
include O in
theorem dX {u:Use} {nf:Bool} {d:Bool} {T:ST} {m k i hs:Nat} {L:Cx→List Sd} {β:Nat→Nu} {γ:Nat→Nat} {s:Shared} {c:Code} {lv:Nat} {Γ:Ctx} {R':Result→Shared→Prop} {ch:Nat→Option (Nat × List Sd × List Sd)} {bf:List (Code × Pos)→List (Code × Pos)} {Goal:Prop}
 {K:Cx→Result→Nat→Bool→ST→Nat→Nat→Nat→Sd→Sd→Option Out} {ex:Sd→Sd} {ex':Sd→Sd} (hK:∀ V r hs' d' T' m' k' i' l l' x,K V r hs' d' T' m' k' i' l l'=some x→pb x (ex l::L V) (ex' l'::L V)) (hex:∀ a b,ex a=ex' b→a=b)
 (W:Low B s₀ X bl shs κc dy) (hbf:Γ.below=bf bl)
 (hnf:nf=true→dy=true→(∀ i c,i∈u.jx→T.get i=some c→aV c.o=false)∨Γ.below=bl)
 (hch:∀ hs' LL RR,ch hs=some (hs',LL,RR)→LL=RR→dy=true→fS B s.heap Γ.below)
 (hc:Γ.code=c) (hh:Γ.handled=none) (hb:NB lv Γ) (D:Rep B s₀ m₀ X d T m s) (H:jM B lb dy shs κc Fin k i β γ (fun V=>io V d T m k i hs c bf u nf lv ch (K V)))
 (fin:∀ S₀,(S₀=u.S (aM T) (ci γ i) (b8 T) (cl (fun k=>(β k).q) k) (β k).q)→S₀.Ok B Γ s→(∀ ρ s' bs ts,After B (u.S (aM T) (ci γ i) (b8 T) (cl (fun k=>(β k).q) k) ρ) s s' bs ts→R' ((u.S (aM T) (ci γ i) (b8 T) (cl (fun k=>(β k).q) k) ρ).r bs ts) s')→Goal)
 (go:∀ r hs' d' T' m' k' i' β' γ' l l' s',ex l=ex' l'→Rep B s₀ m₀ X d' T' m' s'→jM B lb dy shs κc Fin k' i' β' γ' (fun V=>K V r hs' d' T' m' k' i' l l')→R' r s'):Goal:=by
 let SS:Post→Spec:=u.S (aM T) (ci γ i) (b8 T) (cl (fun k=>(β k).q) k)
 have hSS:∀ ς ν τ,(∀ j,j<k→ν j=β j)→(∀ j,j<i→τ j=γ j)→u.S (aM T) (ci (B.V lb dy shs κc ς ν τ).τ i) (b8 T) (cl (B.V lb dy shs κc ς ν τ).ρ k) ((B.V lb dy shs κc ς ν τ).ρ k)=SS (ν k).q:=fun ς ν τ h1 h2=>by
  show u.S _ (ci τ i) _ (cl (fun k=>(ν k).q) k) (ν k).q=u.S _ (ci γ i) _ (cl (fun k=>(β k).q) k) (ν k).q
  rw [jY h2,jg (f:=fun k=>(ν k).q) (g:=fun k=>(β k).q) fun j hj=>by show (ν j).q=_; rw [h1 j hj]]
 obtain ⟨x,hx,hLR,_⟩:=H #[] β γ (fun _ _=>rfl) (fun _ _=>rfl)
 obtain ⟨S,T₁,hs₁,d₁,LL,RR,U,hk⟩:=bR hx
 have same:=hex _ _ ((hK _ _ _ _ _ _ _ _ _ _ _ hk).same hLR)
 simp only [Sd.s.injEq,List.cons.injEq,Sd.c.injEq,and_true] at same
 obtain ⟨hcode,hpre,hmu,hLLRR⟩:=same
 have hS₀:S=SS (β k).q:=U.eq.symm.trans (hSS #[] β γ (fun _ _=>rfl) (fun _ _=>rfl))
 have hfit:fH S.sh Γ.below=true:=by
  have hf:=U.fit
  unfold mg at hf
  cases hsh:S.sh with
  | nil=>rfl
  | cons a l =>
   rw [hsh] at hf
   simp only at hf
   have hV:(B.V lb dy shs κc #[] β γ).shs=shs:=rfl
   rw [hV] at hf
   cases hs0:shs with
   | nil=>rw [hs0] at hf; cases hf
   | cons b r =>
    obtain ⟨q,hq,hqe⟩:=W.shape (by rw [hs0]; simp)
    rw [hs0] at hf hq
    have:=eG hf q hq
    rw [hbf,←hqe]
    exact this
 refine fin S hS₀ ⟨hc.trans hcode.symm,hh,hfit,hb.le U.lv,D.top,fun hdS=>?_,fun y hy=>?_,gV D.inj hpre U.nd⟩ fun ρ s' bs ts A=>?_
 ·rcases U.dy with ⟨h1,_⟩ | ⟨_,h2,_,h4,h3⟩
  ·rw [h1] at hdS; cases hdS
  ·have hdy:dy=true:=h2
   have hst:=hch _ _ _ h3 hLLRR hdy
   refine ⟨hst,fun env L he hL hm=>?_⟩
   obtain ⟨_,L',o,g1,g2,g3,_⟩:=hst env he
   rw [hL] at g1
   cases g1
   obtain ⟨c,i,k1,k2,_hmut,k4⟩:=kx hmu _ hm
   obtain ⟨sl,k5⟩:=(D.own i c k1).2.1.get
   rw [k2,g2] at k5
   cases k5
   rcases hnf h4 hdy with hnf | hbl
   ·have:=hnf i c k4 k1
    rw [tL,this] at g3
    cases g3
   ·rw [hbl] at he
    obtain ⟨_,L',o',g1',g2',_⟩:=W.ok hdy env he
    rw [hL] at g1'
    cases g1'
    rcases (D.own i c k1).2.2.2.1 (by assumption) with hx | hx
    ·exact W.off hdy env L he hL (k2▸hx)
    ·exact absurd (Heap.lt_size g2') (Nat.not_lt.mpr (k2▸hx))
 ·obtain ⟨j,c',_,hd,h1,h2,h3⟩:=l8 hpre y hy
  obtain ⟨_,q2,q3,_⟩:=D.own j c' hd
  rw [← h1,←h2]
  refine ⟨?_,q3⟩
  rcases h3 with h3 | h3
  ·exact .inl (q2.exact h3)
  ·exact q2.map (d':=S.di) (fun _=>h3) id fun _ z=>.inl z
 ·have hbs:aY (fun j=>(g5 β k bs ρ j).a) k (SS ρ).nb=bs:=by rw [← A.len]; exact rD β k bs ρ
  have hts:aY (lx γ i ts) i (SS ρ).nt=ts:=by rw [← A.lent]; exact tR γ i ts
  have hρ:∀ ν:Nat→Nu,(∀ j,j<k+(SS ρ).nb+1→ν j=g5 β k bs ρ j)→(ν k).q=ρ:=fun ν h=>by
   rw [h k (by omega)]
   unfold g5
   rw [if_neg (Nat.lt_irrefl k)]
  have H':∀ ς ν τ,(∀ j,j<k+(SS ρ).nb+1→ν j=g5 β k bs ρ j)→(∀ j,j<i+(SS ρ).nt→τ j=lx γ i ts j)→∃ T' hs₂ d₂ LL₂ RR₂,UseE (B.V lb dy shs κc ς ν τ) d T m k i hs c bf u nf lv ch (SS ρ) T' hs₂ d₂ LL₂ RR₂∧bW (cI T u.jx ((SS ρ).po bs ts)) m bs ((SS ρ).nw bs ts)=some T'∧((SS ρ).po bs ts).length=u.jx.length ∧
   p9 Fin ν τ (K (B.V lb dy shs κc ς ν τ) ((SS ρ).r bs ts) hs₂ d₂ T' (m+(SS ρ).nb) (k+(SS ρ).nb+1) (i+(SS ρ).nt) (.s [.c (SS ρ).c,.s (dW (SS ρ).pre),.s (nk (SS ρ).mu),.s LL₂]) (.s [.c c,.s (dv T d (SS ρ).di u.ix),.s (o4 T u.jx),.s RR₂])):=fun ς ν τ h1 h2=>by
   have g1:∀ j,j<k→ν j=β j:=fun j hj=>(h1 j (by omega)).trans (uB hj)
   have g2:∀ j,j<i→τ j=γ j:=fun j hj=>(h2 j (by omega)).trans (uc hj)
   obtain ⟨y,hy,hLR,hF⟩:=H ς ν τ g1 g2
   obtain ⟨S₂,T₂,hs₂,d₂,LL₂,RR₂,U₂,q3⟩:=bR hy
   have:S₂=SS ρ:=by
    rw [← U₂.eq,hSS ς ν τ g1 g2,hρ ν h1]
   subst this
   have eb:aY (B.V lb dy shs κc ς ν τ).ν k (SS ρ).nb=bs:=by
    have hl:bs.length=(SS ρ).nb:=A.len
    rw [← hl]
    refine fj fun j a h=>?_
    show sa (ν (k+j)).a=a
    have hj:j<bs.length:=(List.getElem?_eq_some_iff.mp h).1
    rw [h1 (k+j) (by omega)]
    have e:(g5 β k bs ρ (k+j)).a=a:=by
     unfold g5
     rw [if_neg (by omega)]
     simp only [Nat.add_sub_cancel_left]
     rw [List.getD_eq_getElem?_getD,h]; rfl
    rw [e]
    exact mt (Nat.le_trans (O.big s D.top) (A.new a (List.mem_of_getElem? h)))
   have et:aY (B.V lb dy shs κc ς ν τ).τ i (SS ρ).nt=ts:=(fT h2).trans hts
   have q2:=U₂.ins
   have q1:=U₂.pl
   rw [eb,et] at q1 q2 q3
   exact ⟨T₂,hs₂,d₂,LL₂,RR₂,U₂,q2,q1,y,q3,hLR,hF⟩
  obtain ⟨T',hs₂,d₂,LL₂,RR₂,U₂,hi,hl,y,hy,hyLR,hyF⟩:=H' #[] (g5 β k bs ρ) (lx γ i ts) (fun _ _=>rfl) (fun _ _=>rfl)
  have same:=(hK _ _ _ _ _ _ _ _ _ _ _ hy).same hyLR
  have same':=hex _ _ same
  simp only [Sd.s.injEq,List.cons.injEq,Sd.c.injEq,and_true] at same'
  obtain ⟨hcode₂,hpre₂,hmu₂,hLLRR₂⟩:=same'
  have hdd:(d=true→d₂=true)∧((SS ρ).dy=true→d₂=true):=by
   rcases U₂.dy with ⟨a1,a2,a3,a4,a5⟩ | ⟨a1,a2,a3,a4⟩
   ·exact ⟨fun h=>a3.trans h,fun h=>by rw [a1] at h; cases h⟩
   ·exact ⟨fun _=>a3,fun _=>a3⟩
  refine go ((SS ρ).r bs ts) hs₂ d₂ T' (m+(SS ρ).nb) (k+(SS ρ).nb+1) (i+(SS ρ).nt) (g5 β k bs ρ) (lx γ i ts) _ _ s' same (D.after A hdd.1 hdd.2 hmu₂ hl U₂.ml hi) fun ς ν τ h1 h2=>?_
  obtain ⟨T₃,hs₃,d₃,LL₃,RR₃,U₃,hi₃,_,hG⟩:=H' ς ν τ h1 h2
  rw [hi] at hi₃
  cases hi₃
  have:hs₃=hs₂∧d₃=d₂∧LL₃=LL₂∧RR₃=RR₂:=by
   rcases U₂.dy with ⟨a1,a2,a3,a4,a5⟩ | ⟨a1,a2,a3,a5,a4⟩ <;> rcases U₃.dy with ⟨b1,b2,b3,b4,b5⟩ | ⟨b1,b2,b3,b5,b4⟩
   ·exact ⟨b2.trans a2.symm,b3.trans a3.symm,b4.trans a4.symm,b5.trans a5.symm⟩
   ·rw [a1] at b1; cases b1
   ·rw [a1] at b1; cases b1
   ·rw [a4] at b4
    cases b4
    exact ⟨rfl,b3.trans a3.symm,rfl,rfl⟩
  obtain ⟨rfl,rfl,rfl,rfl⟩:=this
  exact hG
end
theorem hE {B:Base} (O:B.Ok) {lb:List LibE} {dy d:Bool} {shs:List (List Kd)} {κc:Nat→Ct} {ς:Array (Option Value)} {s₀ s:Shared} {m₀ m k h a:Nat} {X:List Nat} {T:ST} {ν:Nat→Nu} {τ:Nat→Nat} {o:Obj} (D:Rep B s₀ m₀ X d T m s) (e:bE (B.V lb dy shs κc ς ν τ) T k h a=some (o,none)):s.heap.get? a=some o:=by
 unfold bE at e
 split at e
 ·split at e
  ·rename_i o' ho
   simp only [Option.some.injEq,Prod.mk.injEq,and_true] at e
   subst e
   exact D.top.1 _ _ ho
  ·cases e
 ·split at e
  ·split at e <;> simp at e
  ·split at e
   ·split at e <;> simp at e
   ·split at e <;> simp at e
theorem gU {B:Base} (O:B.Ok) {lb:List LibE} {dy d:Bool} {shs:List (List Kd)} {κc:Nat→Ct} {ς:Array (Option Value)} {s₀ s:Shared} {m₀ m k h a:Nat} {b:Nat × Bool} {X:List Nat} {T:ST} {ν:Nat→Nu} {τ:Nat→Nat} {o:Obj} (D:Rep B s₀ m₀ X d T m s) (e:bE (B.V lb dy shs κc ς ν τ) T k h a=some (o,some b)) :
 (b9 d b.2 o=false→s.heap.get? b.1=some o)∧∃ sl,s.heap.get? b.1=some (wS o sl):=by
 unfold bE at e
 split at e
 ·split at e <;> simp at e
 ·split at e
  ·split at e
   ·simp only [Option.some.injEq,Prod.mk.injEq] at e
    obtain ⟨rfl,rfl⟩:=e
    have:=O.mn s D.top
    exact ⟨fun _=>this _,_,this _⟩
   ·cases e
  ·split at e
   ·split at e
    ·rename_i c hc
     simp only [Option.some.injEq,Prod.mk.injEq] at e
     obtain ⟨rfl,rfl⟩:=e
     exact ⟨fun _=>D.top.2 _ _ hc,c.o.slots,D.top.2 _ _ hc⟩
    ·cases e
   ·split at e
    ·rename_i c hc
     simp only [Option.some.injEq,Prod.mk.injEq] at e
     obtain ⟨rfl,rfl⟩:=e
     exact ⟨fun h=>(D.own _ _ hc).2.1.exact h,(D.own _ _ hc).2.1.get⟩
    ·cases e
theorem eE {B:Base} {lb:List LibE} {dy:Bool} {shs:List (List Kd)} {κc:Nat→Ct} {ς ς':Array (Option Value)} {k h a:Nat} {T:ST} {ν β:Nat→Nu} {τ γ:Nat→Nat} (h1:∀ j,j<k→ν j=β j) :
 bE (B.V lb dy shs κc ς ν τ) T k h a=bE (B.V lb dy shs κc ς' β γ) T k h a:=by
 unfold bE
 cases h with
 | zero=>rfl
 | succ j =>
  show (match Nat.ble 700 j with | true=>_ | false=>_)=(match Nat.ble 700 j with | true=>_ | false=>_)
  cases Nat.ble 700 j with
  | false=>rfl
  | true =>
   show (match Nat.blt (j - 700) k with | true=>_ | false=>_)=(match Nat.blt (j - 700) k with | true=>_ | false=>_)
   cases hb:Nat.blt (j - 700) k with
   | false=>rfl
   | true =>
    show some ((B.mn (ν (j - 700)).q.d).o,some ((B.mn (ν (j - 700)).q.d).a,false))=some ((B.mn (β (j - 700)).q.d).o,some ((B.mn (β (j - 700)).q.d).a,false))
    rw [h1 _ (Nat.le_of_ble_eq_true hb)]
theorem pO {B:Base} {s₀ s:Shared} {m₀:Nat} {X:List Nat} {d:Bool} {T:ST} {m:Nat} {head:Value} {j:Nat} {x:List Sd × List Sd} (D:Rep B s₀ m₀ X d T m s) (h:qo T head j=some x) :
 x.1.length=x.2.length∧(x.1=x.2→head=.none∨∃ T oT ts,head=.ref T∧s.heap.get? T=some oT∧oT.data=.fields ts∧ts[3]?=some .none):=by
 unfold qo at h
 split at h
 ·simp only [Option.some.injEq] at h
  subst h
  exact ⟨rfl,fun _=>.inl rfl⟩
 ·rename_i tb
  split at h
  ·rename_i c hc
   split at h
   ·cases h
   ·rename_i hf
    split at h
    ·rename_i ts hts
     split at h
     ·rename_i v hv
      split at h
      ·simp only [Option.some.injEq] at h
       subst h
       refine ⟨rfl,fun e=>.inr ?_⟩
       injection e with e
       injection e with e
       rw [m1] at hv
       exact ⟨tb,c.o,ts,rfl,e▸(D.own _ _ hc).2.1.exactF hf,hts,hv⟩
      ·cases h
     ·cases h
    ·cases h
  ·cases h
 ·cases h
structure NoteE (B:Base) (s:Shared) (bl:List (Code × Pos)) (Γ:Ctx) (T:ST) (N:NoteC):Prop where
 code:Γ.code=.func N.body N.env
 fr:N.env.frame=some N.fr
 cell:∃ c vs,T.get N.j=some c∧c.a=N.e∧c.o=N.o∧c.mu=true∧aV N.o=false∧N.o.data=.fields vs∧vs[1]?=some N.head
 len:N.L.length=N.R.length
 ok:N.L=N.R→(N.head=.none∨∃ T oT ts,N.head=.ref T∧s.heap.get? T=some oT∧oT.data=.fields ts∧ts[3]?=some .none)∧∀ p,fS B s.heap ((Γ.code,p)::Γ.below)
theorem fO {B:Base} {s₀ s:Shared} {m₀:Nat} {X:List Nat} {bl:List (Code × Pos)} {shs:List (List Kd)} {κc:Nat→Ct} {d dy:Bool} {T:ST} {m:Nat} (D:Rep B s₀ m₀ X d T m s) (W:Low B s₀ X bl shs κc dy) {Γ:Ctx} {κ:Kt} (hk:ro bl Γ.below κ) {hs:Nat} {N:NoteC} (h:cV dy Γ κ T hs=some N):NoteE B s bl Γ T N:=by
 unfold cV at h
 simp only [fi] at h
 split at h
 ·cases h
 ·split at h
  ·rename_i body env hcode
   split at h
   ·cases h
   ·rename_i L hL
    split at h
    ·cases h
    ·rename_i ce hce
     split at h
     ·cases h
     ·rename_i hmu
      split at h
      ·cases h
      ·rename_i hfr
       split at h
       ·rename_i vs hvs
        split at h
        ·cases h
        ·rename_i head hh
         split at h
         ·cases h
         ·rename_i hp hhp
          split at h
          ·cases h
          ·rename_i y hy
           obtain ⟨y1,y2,y3⟩:=y
           simp only [Option.some.injEq] at h
           subst h
           obtain ⟨q1,q2⟩:=pO D hhp
           rw [m1] at hh
           obtain ⟨P,Q,e1,e2,e3,e4⟩:=gX (p:=default) D W rfl hk hy
           refine ⟨hcode,hL,⟨ce,vs,hce,rfl,rfl,hmu,hfr,hvs,hh⟩,?_,fun e=>?_⟩
           ·show y2.length=y3.length
            rw [e1,e2,List.length_append,List.length_append,e3,q1]
           ·have e:y2=y3:=e
            rw [e1,e2] at e
            obtain ⟨g1,g2⟩:=List.append_inj e e3
            refine ⟨q2 g2,fun p=>?_⟩
            have:=e4 g1
            intro env' he
            refine this env' ?_
            rw [envsOf_cons] at he ⊢
            rw [← hcode]
            exact he
       ·cases h
  ·cases h
theorem rq {h:Heap} {a:Nat} (o:Obj) (ha:a<h.objs.size):(h.push o).get? a=h.get? a:=by
 obtain ⟨objs,l⟩:=h
 show (match (objs.push o)[a]? with | some ⟨_,_,.freed,_⟩=>none | o=>o)=(match objs[a]? with | some ⟨_,_,.freed,_⟩=>none | o=>o)
 rw [Array.getElem?_push_lt ha]
 rw [Array.getElem?_eq_getElem ha]
theorem gp {B:Base} {h:Heap}:∀ {l:List Env},(∀ env,env∈l→mN B h env)→h.FunFrames {} l
 | [],_=>trivial
 | env::l,H=>by
  obtain ⟨h1,L,o,h2,h3,_,h5,_⟩:=H env (.head _)
  exact ⟨h1,⟨L,o,h2,rfl,h3,h5⟩,gp fun e he=>H e (.tail _ he)⟩
theorem hW {B:Base} {h:Heap} {l:List Env} (H:∀ env,env∈l→mN B h env):∀ L,L∈l.filterMap (·.frame)→B.Free L∧∃ o,h.get? L=some o∧aV o=true:=by
 intro L hL
 obtain ⟨env,he,hf⟩:=List.mem_filterMap.mp hL
 obtain ⟨_,L',o,h2,h3,h4,_,h6⟩:=H env he
 rw [hf] at h2
 cases h2
 exact ⟨h6,o,h3,h4⟩
theorem mz {B:Base} {s₀ s:Shared} {m₀:Nat} {X:List Nat} {bl:List (Code × Pos)} {d:Bool} {T:ST} {m:Nat} (D:Rep B s₀ m₀ X d T m s) {Γ:Ctx} {N:NoteC} (E:NoteE B s bl Γ T N) (e:N.L=N.R) (p:Pos)
 {Q:Unit→Pos→Shared→Prop} {F:Value→Pos→Shared→Prop}
 (h:∀ hF x p',(∀ o1 o2,o1=bV 1 (.ref s.heap.objs.size) N.o→o2=j6 N.head N.fr (rawInt N.fr) x→(((T.set N.j o1).ins m ⟨true,s.heap.objs.size,o2⟩).get m).isSome=true→Rep B s₀ m₀ X true ((T.set N.j o1).ins m ⟨true,s.heap.objs.size,o2⟩) (m+1) { s with heap:=hF })→Q () p' { s with heap:=hF }) :
 Sem.wp B.M Γ (noteFrame (.ref N.e) N.env) Q F p s:=by
 obtain ⟨c,vs,hc,hce,hco,hmu,hf,hd,h1⟩:=E.cell
 obtain ⟨hh,hst⟩:=E.ok e
 have hst:=hst p
 have henv:envsOf ((Γ.code,p)::Γ.below)=N.env::envsOf Γ.below:=by rw [envsOf_cons,E.code]; rfl
 unfold fS at hst
 rw [henv] at hst
 have he:s.heap.get? N.e=some N.o:=by
  rw [← hce,←hco]
  exact (D.own _ _ hc).2.1.exactF (by rw [hco]; exact hf)
 let A:Around:={ handled:=Γ.handled,depth:=frameCount Γ.below+Γ.code.weight,frames:=some (N.env::envsOf Γ.below),guards:=none,units:=Γ.units }
 have hΓ:Γ.In A:=⟨rfl,Nat.le_refl _,(fun l hl=>by cases hl; rw [E.code]; rfl),(by intro _ q; cases q),Nat.le_refl _⟩
 refine Sem.wp_mono _ _ _ (fun _ p' s' y=>y p') (fun _ _ _ y=>y) p s (kG (M:=B.M) (A:=A) (E:=fun e s=>False) (Q:=fun u s'=>∀ p',Q u p' s') rfl (gp hst) E.fr he hd h1 hh (fun h₁ x hsl p'=>?_) Γ p hΓ) |> fun z=>?_
 ·exact Sem.wp_mono _ _ _ (fun _ _ _ y=>y) (fun _ _ _ y=>y.elim) p s z
 ·have hz:=hsl.1
  have hene:N.e∉(N.env::envsOf Γ.below).filterMap (·.frame):=fun hm=>by
   obtain ⟨_,o,ho,hfo⟩:=hW hst _ hm
   rw [he] at ho
   cases ho
   rw [hf] at hfo; cases hfo
  have he₁:h₁.get? N.e=some N.o:=(hsl.2.1 _ hene).trans he
  have hlt:=Heap.lt_size he₁
  have hd3:(bV 1 (.ref h₁.objs.size) N.o).data=.fields (vs.setIfInBounds 1 (.ref h₁.objs.size)):=Obj.data_mapFields hd _
  refine h _ x p' fun o1 o2 ho1 ho2 hg=>?_
  subst ho1 ho2
  have hcon:=D.note (S:=(N.env::envsOf Γ.below).filterMap (·.frame)) (o1:=bV 1 (.ref s.heap.objs.size) N.o) (o2:=j6 N.head N.fr (rawInt N.fr) x) (h₁:=h₁) (hF:=(h₁.push (j6 N.head N.fr (rawInt N.fr) x)).update N.e (bV 1 (.ref h₁.objs.size))) hc hmu hsl (hW hst)
  refine hcon ?_ ?_ ?_ ?_ hg
  ·rw [Heap.size_after_update,Heap.size_push]
  ·rw [hce,←hz]
   exact Heap.get?_update_self _ (Heap.get?_push_of_some _ he₁) (Obj.isFreed_of_fields hd3)
  ·rw [Heap.get?_update_other _ _ (show N.e≠h₁.objs.size from Nat.ne_of_lt hlt)]
   exact Heap.get?_push_size _ rfl
  ·intro b hb hlt'
   rw [hce] at hb
   rw [Heap.get?_update_other _ _ (Ne.symm hb)]
   cases hq:h₁.get? b with
   | some o=>exact Heap.get?_push_of_some _ hq
   | none =>
    rw [← hq]
    exact rq _ hlt'
theorem lS:PySem.leaving=PySem.W.Fast.tw9442747609961115081:=PySem.W.Fast.te9442747609961115081
theorem uj:PySem.noteFrame=PySem.W.Fast.tw17872113653443481271:=PySem.W.Fast.te17872113653443481271
section
variable {B:Base} (O:B.Ok) {lb:List LibE} {dy:Bool} {shs:List (List Kd)} {κc:Nat→Ct} {s₀:Shared} {m₀:Nat} {X:List Nat} {bl:List (Code × Pos)} (W:Low B s₀ X bl shs κc dy) {Fin:fZ} {R:Result→Shared→Prop}
 (hR:∀ ν τ x m s,Fin ν τ x→Rep B s₀ m₀ X x.d x.T m s→R x.r s)
theorem Rep.heap {d:Bool} {T:ST} {m:Nat} {s:Shared} {h h':Heap} (D:Rep B s₀ m₀ X d T m { s with heap:=h }) (hz:h'.objs.size=h.objs.size) (k:∀ a,h'.get? a=h.get? a):Rep B s₀ m₀ X d T m { s with heap:=h' }:=by
 refine ⟨fun i c hc=>?_,D.inj,D.top.mono fun a o z=>(k a).trans z,fun a o z q=>(D.keep a o z q).mono fun o' y=>(k a).trans y,?_,D.gens,D.os,D.low⟩
 ·obtain ⟨h1,h2,h3,h4,h5⟩:=D.own i c hc
  exact ⟨h1,h2.mono fun o' y=>(k c.a).trans y,h3,h4,h5⟩
 ·show _≤h'.objs.size
  rw [hz]; exact D.size
theorem ky (o:Obj) (sl:Array (Option Value)):(wS o sl).isFreed=o.isFreed:=by
 obtain ⟨c,d,dt,s⟩:=o
 cases dt <;> rfl
theorem dR (c c':Cell):∀ (T:ST) (j:Nat),((T.ins j c).get j).isSome=true→((T.ins j c').get j).isSome=true
 | .nil,j,h=>by
  have e:(ST.nil.ins j c)=.node c .nil .nil:=rfl
  have e':(ST.nil.ins j c')=.node c' .nil .nil:=rfl
  rw [e,ST.get_node] at h
  rw [e',ST.get_node]
  by_cases q:j=0
  ·simp [q]
  ·simp [q,ST.get] at h
 | .node v l r,j,h=>by
  rw [ST.ins_node] at h ⊢
  by_cases q:j=0
  ·subst q; rw [if_pos rfl,ST.get_node]; rfl
  ·rw [if_neg q] at h ⊢
   by_cases q2:j % 2=1
   ·rw [if_pos q2,ST.get_node] at h ⊢
    simp only [q,q2,if_true,if_false] at h ⊢
    exact dR c c' l _ h
   ·rw [if_neg q2,ST.get_node] at h ⊢
    simp only [q,q2,if_false] at h ⊢
    exact dR c c' r _ h
theorem pJ {s:Shared} {d:Bool} {T:ST} {m:Nat} (D:Rep B s₀ m₀ X d T m s) {Γ:Ctx} {N:NoteC} (E:NoteE B s bl Γ T N) (e:N.L=N.R) (p:Pos)
 (hroom:∀ o2,(((T.set N.j (bV 1 (.ref s.heap.objs.size) N.o)).ins m ⟨true,s.heap.objs.size,o2⟩).get m).isSome=true)
 {Q:Unit→Pos→Shared→Prop} {F:Value→Pos→Shared→Prop}
 (h:∀ hF x p',Rep B s₀ m₀ X true ((T.set N.j (bV 1 (.ref s.heap.objs.size) N.o)).ins m ⟨true,s.heap.objs.size,j6 N.head N.fr .none x⟩) (m+1) { s with heap:=hF }→Q () p' { s with heap:=hF }) :
 Sem.wp B.M Γ (leaving N.env (.ref N.e)) Q F p s:=by
 unfold leaving
 rw [Sem.wp_bind']
 obtain ⟨c,vs,hc,hce,hco,hmu,hf,hd,h1⟩:=E.cell
 refine mz D E e p fun hF x p' hrep=>?_
 ·have hg:=hroom (j6 N.head N.fr (rawInt N.fr) x)
  have D1:=hrep _ _ rfl rfl hg
  have gm:((T.set N.j (bV 1 (.ref s.heap.objs.size) N.o)).ins m ⟨true,s.heap.objs.size,j6 N.head N.fr (rawInt N.fr) x⟩).get m=some ⟨true,s.heap.objs.size,j6 N.head N.fr (rawInt N.fr) x⟩:=by
   rw [ST.get_ins _ _ _ hg,if_pos rfl]
  have hjm:N.j<m:=(D.own _ _ hc).1
  have gj:((T.set N.j (bV 1 (.ref s.heap.objs.size) N.o)).ins m ⟨true,s.heap.objs.size,j6 N.head N.fr (rawInt N.fr) x⟩).get N.j=some ⟨true,N.e,bV 1 (.ref s.heap.objs.size) N.o⟩:=by
   rw [ST.get_ins _ _ _ hg,if_neg (by omega),ST.get_set,if_pos rfl,hc,Option.map_some,hce,hmu]
  have hd3:(bV 1 (.ref s.heap.objs.size) N.o).data=.fields (vs.setIfInBounds 1 (.ref s.heap.objs.size)):=Obj.data_mapFields hd _
  have hfr1:aV (bV 1 (.ref s.heap.objs.size) N.o)=false:=by
   have:aV (bV 1 (.ref s.heap.objs.size) N.o)=aV N.o:=by
    show aV (Obj.mapFields _ N.o)=_
    unfold aV
    rw [Obj.cls_mapFields]
   rw [this]; exact hf
  have he:hF.get? N.e=some (bV 1 (.ref s.heap.objs.size) N.o):=(D1.own _ _ gj).2.1.exactF hfr1
  have hT : hF.get? s.heap.objs.size = some (j6 N.head N.fr (rawInt N.fr) x) := (D1.own _ _ gm).2.1.exactF (by unfold aV j6; exact (by decide +kernel : Nat.beq (PySem.W.S.codeS "traceback") F4 = false))
  have hh1:1<vs.size:=(Array.getElem?_eq_some_iff.mp h1).1
  have hv1:(vs.setIfInBounds 1 (.ref s.heap.objs.size))[1]?=some (.ref s.heap.objs.size):=by simp [hh1]
  let A:Around:={ handled:=Γ.handled,depth:=frameCount Γ.below+Γ.code.weight,frames:=none,guards:=none,units:=Γ.units }
  have hΓ:Γ.In A:=⟨rfl,Nat.le_refl _,(by intro _ q; cases q),(by intro _ q; cases q),Nat.le_refl _⟩
  refine Sem.wp_mono _ _ _ (fun _ p' s' y=>y p') (fun _ _ _ y=>y.elim) p' _ (iZ (M:=B.M) (A:=A) (E:=fun e s=>False) (Q:=fun u s'=>∀ p',Q u p' s') he hd3 hv1 hT rfl (ts:=#[N.head,Value.ref N.fr,Value.none,rawInt N.fr,Value.none,x 0,x 1,x 2,x 3,x 4,x 5]) (show 3<11 by decide) (fun p''=>?_) Γ p' hΓ)
  have hg':=hroom (j6 N.head N.fr .none x)
  refine h _ x p'' ?_
  have D2:=D1.update (o':=j6 N.head N.fr .none x) (f:=bV 3 .none) gm rfl (fun y hy=>by
   have hy:hF.get? s.heap.objs.size=some y:=hy
   rw [hT] at hy
   cases hy
   exact ⟨rfl,.inl rfl⟩)
  have same:∀ i,(((T.set N.j (bV 1 (.ref s.heap.objs.size) N.o)).ins m ⟨true,s.heap.objs.size,j6 N.head N.fr (rawInt N.fr) x⟩).set m (j6 N.head N.fr .none x)).get i=((T.set N.j (bV 1 (.ref s.heap.objs.size) N.o)).ins m ⟨true,s.heap.objs.size,j6 N.head N.fr .none x⟩).get i:=fun i=>by
   rw [ST.get_set,ST.get_ins _ _ _ hg',gm]
   by_cases q:i=m
   ·rw [if_pos q,if_pos q]; rfl
   ·rw [if_neg q,if_neg q,ST.get_ins _ _ _ hg,if_neg q]
  exact ⟨fun i c hc=>D2.own i c ((same i).trans hc),fun i j c d h1 h2=>D2.inj i j c d ((same i).trans h1) ((same j).trans h2),D2.top,D2.keep,D2.size,D2.gens,D2.os,D2.low⟩
variable (hlb:∀ e:LibE,e∈lb→∀ c cs ms,(e.S c cs ms).Holds B)
theorem gl {us:List Use} {u:Use} (hlb:∀ e:LibE,e∈lb→∀ c cs ms,(e.S c cs ms).Holds B) (hus:∀ u:Use,u∈us→∀ A tk O ρs,bI B u.tl (u.S A tk O ρs)) {c:Code} (htl:u.tl=none)
 (h:u∈us∨∃ e cs ms,e∈lb∧∀ A tk O ρs ρ,u.S A tk O ρs ρ=e.S c cs ms) (A:Nat→Nat) (tk:Nat→Nat) (O:Nat→Obj) (ρs:Nat→Post):Spec.HoldsE B (u.S A tk O ρs):=by
 rcases h with h | ⟨e,cs,ms,he,h⟩
 ·have:=hus u h A tk O ρs
  rw [htl] at this
  exact this
 ·have:u.S A tk O ρs=fun _=>e.S c cs ms:=funext (h A tk O ρs)
  rw [this]
  exact (hlb e he c cs ms).e
include O W hR hlb in
theorem i8:∀ n,mi B lb dy shs κc s₀ m₀ X bl Fin R n
 | 0=>fun hs us Γ κ bd t p d T m k i L β γ s _ _ _ _ H=>(H #[] β γ (fun _ _=>rfl) (fun _ _=>rfl)).none.elim
 | n+1=>by
  intro hs us Γ κ bd t p d T m k i L β γ s hus hb hk D H
  have IH:=i8 n
  have H:jM B lb dy shs κc Fin k i β γ (fun V=>aO V (l7 V n) hs us Γ κ bd t p d T m k i (L V) (L V)):=H
  have H0:=H #[] β γ (fun _ _=>rfl) (fun _ _=>rfl)
  cases t with
  | pure fin =>
   cases fin with
   | done f=>exact ⟨D.top,c8 hR IH hus hk D H⟩
   | again c =>
    refine ⟨D.top,?_⟩
    cases hq:c.quiet with
    | false=>simp only [aO,hq] at H0; exact H0.none.elim
    | true =>
     refine ⟨hq,?_⟩
     simp only [aO,hq] at H H0
     have hb':NB bd (Γ.goto c):=hb
     cases h3:Nat.beq (hs % hB) 3 with
     | true =>
      simp only [h3] at H H0
      cases hx:eV T c (hs / hB % hB) with
      | none=>simp only [hx] at H0; exact H0.none.elim
      | some x =>
       simp only [hx] at H H0
       obtain ⟨ce,hce,hic,hcs,hca⟩:=gk hx
       have e:x.2.1=x.2.2:=by
        obtain ⟨y,hy,hLR,_⟩:=H0
        have:=(aR _ _ _ _ _ _ _ _ _ _ _ _ _ _ _ _ _ hy).same hLR
        injection this
       refine kn (Γ:=Γ.goto c) (x:=(x.1,x.2.1)) hcs (o:=ce.o) (by rw [e,←hca]; exact (D.own _ _ hce).2.1.exactF (m6 hic)) hic fun p'=>?_
       refine bZ (IH (hs / hB / hB) us ((Γ.goto c).goto x.1) κ bd (iB x.1) p' d T m (k+1) i (fun V=>.n x.2.1::L V) (n3 β k ⟨0,fun _=>.none,p',Post.zero⟩) γ s hus hb' hk D fun ς ν τ h1 h2=>?_)
       have hk':ν k=⟨0,fun _=>.none,p',Post.zero⟩:=(h1 k (by omega)).trans (bt ..)
       have H1:=H ς ν τ (fun j hj=>(h1 j (by omega)).trans (cm hj)) h2
       simp only [Base.V,hk',←e] at H1 ⊢
       exact H1
     | false =>
     simp only [h3] at H H0
     match hh0:hs % hB with
     | 0 =>
      simp only [hh0] at H
      exact bZ (IH (hs / hB) us (Γ.goto c) κ bd (iB c) p d T m k i L β γ s hus hb' hk D H)
     | 1 =>
      simp only [hh0] at H H0
      cases he:c4 (B.V lb dy shs κc #[] β γ) c with
      | none=>simp only [he] at H0; exact H0.none.elim
      | some t' =>
       have he':∀ ς ν τ,c4 (B.V lb dy shs κc ς ν τ) c=some t':=fun ς ν τ=>he
       exact eQ O (Γ:=Γ.goto c) (V:=B.V lb dy shs κc #[] β γ) rfl he D.top (by have:=hb.1; show frameCount Γ.below+5<1000; omega)
        (IH (hs / hB) us (Γ.goto c) κ bd t' p d T m k i L β γ s hus hb' hk D fun ς ν τ h1 h2=>by have:=H ς ν τ h1 h2; simp only [he'] at this; exact this)
     | h+2 =>
      simp only [hh0] at H H0
      cases hh:Γ.handled with
      | some e=>simp only [hh] at H0; exact H0.none.elim
      | none =>
       simp only [hh] at H H0
       have hV:∀ ς ν τ,(B.V lb dy shs κc ς ν τ).lb=lb:=fun _ _ _=>rfl
       rcases cN lb T c h.succ.succ (hs / hB) us with hp | ⟨hs₁,u,us₁,hp,htl,hu,hsub⟩
       ·simp only [hV,hp] at H0; exact H0.none.elim
       ·have hU:=gl hlb hus htl hu
        refine dX O (L:=L) (lv:=bd) (u:=u) (Γ:=Γ.goto c) (ex:=id) (ex':=id) (R':=bn B R κ) (ch:=fun hs=>cK T κ hs [] []) (K:=fun V r hs' d' T' m' k' i' l l'=>eX (l7 V n) r hs' us₁ κ d' T' m' k' i' (l::L V) (l'::L V)) (fun V r hs' d' T' m' k' i' l l' x hx=>bm (aR V n) hx) (fun _ _ h=>h) W hk.stack (fun h _=>.inl fun i c hi=>fk h i hi c) (fun hs' LL RR hc e hdy=>?_)
         rfl hh hb' D (fun ς ν τ h1 h2=>by have:=H ς ν τ h1 h2; simp only [hV,hp] at this; exact this) (fun S₀ hS₀ ok go=>hU _ _ _ _ (Γ.goto c) p s (bn B R κ) _ (hS₀▸ok) go) fun r hs' d' T' m' k' i' β' γ' l l' s' e D' H'=>?_
        ·obtain ⟨P,Q,e1,e2,_,e4⟩:=dw D W hdy hk hc
         rw [List.append_nil] at e1 e2
         exact e4 (e1▸e2▸e)
        ·have e:l=l':=e
         subst e
         exact c8 (L:=fun V=>l::L V) hR IH (fun u hu=>hus u (hsub u hu)) hk D' H'
  | raise e=>exact c8 hR IH hus hk D H
  | rule tag f=>exact IH hs us Γ κ bd (f ()) p d T m k i L β γ s hus hb hk D H
  | «at» q f =>
   simp only [aO] at H H0
   cases us with
   | nil=>exact IH hs [] Γ κ bd (f ()) q d T m k i L β γ s hus hb hk D H
   | cons u us =>
    cases htl:u.tl with
    | none =>
     simp only [htl] at H
     exact IH hs (u::us) Γ κ bd (f ()) q d T m k i L β γ s hus hb hk D H
    | some lj =>
     simp only [htl] at H H0
     cases hl:Nat.beq q.line lj.1 with
     | false =>
      simp only [hl] at H
      exact IH hs (u::us) Γ κ bd (f ()) q d T m k i L β γ s hus hb hk D H
     | true =>
      simp only [hl] at H H0
      cases hh:Γ.handled with
      | some e=>simp only [hh] at H0; exact H0.none.elim
      | none =>
       simp only [hh] at H H0
       have hU:=hus u (.head _)
       rw [htl] at hU
       have et:dP Γ.code lj.2=Sem.at q f:=by
        obtain ⟨x,hx,hLR,_⟩:=H0
        obtain ⟨S,T',hs',d',LL,RR,_,h⟩:=bR hx
        have:=(bm (aR _ n) h).same hLR
        simp only [Sd.s.injEq,List.cons.injEq,Sd.t.injEq,and_true] at this
        exact this.2
       show Sem.wp B.M Γ (Sem.at q f) _ _ p s
       rw [← et]
       refine dX O (L:=L) (lv:=bd) (u:=u) (Γ:=Γ) (ex:=fun l=>.s [l,.t (dP Γ.code lj.2)]) (ex':=fun l=>.s [l,.t (.at q f)]) (R':=bn B R κ) (ch:=fun hs=>cK T κ hs [] []) (K:=fun V r hs' d' T' m' k' i' l l'=>eX (l7 V n) r hs' us κ d' T' m' k' i' (.s [l,.t (dP Γ.code lj.2)]::L V) (.s [l',.t (.at q f)]::L V)) (fun V r hs' d' T' m' k' i' l l' x hx=>bm (aR V n) hx) (fun a b h=>by simp only [Sd.s.injEq,List.cons.injEq,and_true] at h; exact h.1) W hk.stack (fun h _=>by cases κ with | base=>exact .inr hk | ret=>exact .inl fun i c hi=>fk h i hi c) (fun hs' LL RR hc e hdy=>?_)
        rfl hh hb D H (fun S₀ hS₀ ok go=>hU _ _ _ _ Γ p s (bn B R κ) _ (hS₀▸ok) go) fun r hs' d' T' m' k' i' β' γ' l l' s' e D' H'=>?_
       ·obtain ⟨P,Q,e1,e2,_,e4⟩:=dw D W hdy hk hc
        rw [List.append_nil] at e1 e2
        exact e4 (e1▸e2▸e)
       ·have e:l=l':=by
         simp only [Sd.s.injEq,List.cons.injEq,and_true] at e
         exact e.1
        subst e
        refine c8 (hs:=hs') (r:=r) (k:=k') (i:=i') (β:=β') (γ:=γ') (L:=fun V=>.s [l,.t (dP Γ.code lj.2)]::L V) hR IH (fun u hu=>hus u (.tail _ hu)) hk D' fun ς ν τ h1 h2=>?_
        have:=H' ς ν τ h1 h2
        simp only [← et] at this
        exact this
  | point l f=>exact IH hs us Γ κ bd (f ()) p d T m k i L β γ s hus hb hk D H
  | ask f =>
   simp only [aO] at H H0
   match hh0:hs % hB with
   | 0 =>
    simp only [hh0] at H
    exact IH (hs / hB) us Γ κ bd (f ⟨B.prog,B.w.params⟩) p d T m k i L β γ s hus hb hk D H
   | 1 =>
    simp only [hh0] at H H0
    obtain ⟨x,hx,hLR,_⟩:=H0
    have e:=(aR _ _ _ _ _ _ _ _ _ _ _ _ _ _ _ _ _ hx).same hLR
    injection e with e
    have e:f ⟨B.prog,wF B.w nS true⟩=f ⟨B.prog,wF B.w nS false⟩:=e
    have q:=iN B.w qE
    rw [vF] at q
    have z:f ⟨B.prog,B.w.params⟩=f ⟨B.prog,wF B.w nS true⟩:=by
     cases hb:B.w.params.followText qE with
     | true=>rw [hb] at q; rw [q]
     | false=>rw [hb] at q; rw [e,q]
    show Sem.wp B.M Γ (f ⟨B.prog,B.w.params⟩) _ _ p s
    rw [z]
    exact IH (hs / hB) us Γ κ bd (f ⟨B.prog,wF B.w nS true⟩) p d T m k i (fun V=>.t (f ⟨B.prog,wF B.w nS true⟩)::L V) β γ s hus hb hk D fun ς ν τ h1 h2=>by
     have:=H ς ν τ h1 h2
     simp only [Base.V] at this
     rw [← e] at this
     exact this
   | h+2 =>
    simp only [hh0] at H
    have q:=iN B.w rR
    rw [DH] at q
    show Sem.wp B.M Γ (f ⟨B.prog,B.w.params⟩) _ _ p s
    exact IH (hs / hB) us Γ κ bd (f ⟨B.prog,B.w.params⟩) p d T m k i L β γ s hus hb hk D fun ς ν τ h1 h2=>by
     have:=H ς ν τ h1 h2
     simp only [Base.V,q] at this
     exact this
  | load a q f =>
   simp only [aO] at H H0
   cases hm:Nat.ble 1022 (hs % hB) with
   | true =>
    simp only [hm] at H H0
    have noteV:∀ ς ν τ,cV (B.V lb dy shs κc ς ν τ).dy Γ κ T (hs / hB)=cV dy Γ κ T (hs / hB):=fun _ _ _=>rfl
    cases h1023:Nat.beq (hs % hB) 1023 with
    | true =>
     simp only [h1023,noteV,NoteC.run_eq] at H H0
     cases hN:cV dy Γ κ T (hs / hB) with
     | none=>simp only [hN] at H0; exact H0.none.elim
     | some N =>
      simp only [hN] at H0
      have E:=fO D W hk hN
      have e:dV N.env N.e=Sem.load a q f∧N.L=N.R:=by
       split at H0
       ·exact H0.none.elim
       ·obtain ⟨x,hx,hLR,_⟩:=H0
        have:=(bm (aR _ _) hx).same hLR
        simp only [Sd.s.injEq,List.cons.injEq,Sd.t.injEq,and_true] at this
        exact this
      have hsa:=mt (O.big s D.top)
      have hroom:∀ o2,(((T.set N.j (bV 1 (.ref s.heap.objs.size) N.o)).ins m ⟨true,s.heap.objs.size,o2⟩).get m).isSome=true:=fun o2=>by
       have H1:=H #[] (n3 β k ⟨s.heap.objs.size,fun _=>.none,default,Post.zero⟩) γ (fun j hj=>cm hj) (fun _ _=>rfl)
       simp only [noteV,hN] at H1
       simp only [bM,Base.V,bt,hsa] at H1
       split at H1
       ·exact H1.none.elim
       ·rename_i c hc
        exact dR _ _ _ _ (by rw [hc]; rfl)
      rw [← e.1]
      show Sem.wp B.M Γ (dV N.env N.e) _ _ p s
      unfold dV
      rw [← PySem.W.R.bindR_eq,←lS,Sem.wp_bind,Sem.wp_bind]
      refine pJ D E e.2 p hroom fun hF x p' D'=>?_
      have D':Rep B s₀ m₀ X true (bM (B.V lb dy shs κc #[] (n3 β k ⟨s.heap.objs.size,x,p',Post.zero⟩) γ) T m k N .none) (m+1) { s with heap:=hF }:=by
       simp only [bM,Base.V,bt,hsa]
       exact D'
      show bn B R κ (.error (.ref N.e)) _
      refine c8 (hs:=N.hs) (β:=n3 β k ⟨s.heap.objs.size,x,p',Post.zero⟩) (L:=fun V=>.s [.t (dV N.env N.e),.s N.L]::L V) (k:=k+1) (i:=i) (γ:=γ) hR IH hus hk D' fun ς ν τ h1 h2=>?_
      have hk':ν k=⟨s.heap.objs.size,x,p',Post.zero⟩:=(h1 k (by omega)).trans (bt ..)
      have H1:=H ς ν τ (fun j hj=>(h1 j (by omega)).trans (cm hj)) h2
      simp only [noteV,hN] at H1
      split at H1
      ·exact H1.none.elim
      ·simp only [bM,Base.V,hk',bt,hsa,←e.1,←e.2] at H1 ⊢
       exact H1
    | false =>
     simp only [h1023,noteV,NoteC.run_eq] at H H0
     cases hN:cV dy Γ κ T (hs / hB) with
     | none=>simp only [hN] at H0; exact H0.none.elim
     | some N =>
      simp only [hN] at H0
      have E:=fO D W hk hN
      cases hx:rg (i7 N.body (N.hs % hB)) with
      | none =>
       simp only [hx] at H0
       split at H0
       ·exact H0.none.elim
       ·exact H0.none.elim
      | some x =>
      simp only [hx] at H0
      have e:dZ N.env N.e x.1 x.2=Sem.load a q f∧N.L=N.R:=by
       split at H0
       ·exact H0.none.elim
       ·obtain ⟨x,hx,hLR,_⟩:=H0
        have:=(aR _ _ _ _ _ _ _ _ _ _ _ _ _ _ _ _ _ hx).same hLR
        simp only [Sd.s.injEq,List.cons.injEq,Sd.t.injEq,and_true] at this
        exact this
      have hsa:=mt (O.big s D.top)
      have hroom:∀ o2,(((T.set N.j (bV 1 (.ref s.heap.objs.size) N.o)).ins m ⟨true,s.heap.objs.size,o2⟩).get m).isSome=true:=fun o2=>by
       have H1:=H #[] (n3 β k ⟨s.heap.objs.size,fun _=>.none,default,Post.zero⟩) γ (fun j hj=>cm hj) (fun _ _=>rfl)
       simp only [noteV,hN] at H1
       simp only [bM,Base.V,bt,hsa] at H1
       split at H1
       ·exact H1.none.elim
       ·rename_i c hc
        exact dR _ _ _ _ (by rw [hc]; rfl)
      rw [← e.1]
      show Sem.wp B.M Γ (dZ N.env N.e x.1 x.2) _ _ p s
      unfold dZ
      rw [← PySem.W.R.bindR_eq,←PySem.W.R.onRaiseR_eq,←uj,Sem.wp_bind,Sem.wp_onRaise,Sem.wp_bind,Sem.wp_bind]
      refine mz D E e.2 p fun hF y p' D'=>?_
      have D':Rep B s₀ m₀ X true (bM (B.V lb dy shs κc #[] (n3 β k ⟨s.heap.objs.size,y,p',Post.zero⟩) γ) T m k N (rawInt N.fr)) (m+1) { s with heap:=hF }:=by
       simp only [bM,Base.V,bt,hsa]
       exact D' _ _ rfl rfl (hroom _)
      have G:=IH (N.hs / hB) us Γ κ bd (jX N.env N.e x.1 x.2) p' true _ (m+1) (k+1) i (fun V=>.s [.t (dZ N.env N.e x.1 x.2),.s N.L]::L V) (n3 β k ⟨s.heap.objs.size,y,p',Post.zero⟩) γ _ hus hb hk D' fun ς ν τ h1 h2=>by
       have hk':ν k=⟨s.heap.objs.size,y,p',Post.zero⟩:=(h1 k (by omega)).trans (bt ..)
       have H1:=H ς ν τ (fun j hj=>(h1 j (by omega)).trans (cm hj)) h2
       simp only [noteV,hN,hx] at H1
       split at H1
       ·exact H1.none.elim
       ·simp only [bM,Base.V,hk',bt,hsa,←e.1,←e.2] at H1 ⊢
        exact H1
      have G:Sem.wp B.M Γ (jX N.env N.e x.1 x.2) _ _ p' _:=G
      unfold jX at G
      rw [← PySem.W.R.bindR_eq,←PySem.W.R.onRaiseR_eq,Sem.wp_bind,Sem.wp_onRaise,Sem.wp_bind] at G
      exact G
   | false =>
   simp only [hm] at H H0
   cases e:bE (B.V lb dy shs κc #[] β γ) T k (hs % hB) a with
   | none=>simp only [e] at H0; exact H0.none.elim
   | some x =>
    have e':∀ ς ν τ,(∀ j,j<k→ν j=β j)→bE (B.V lb dy shs κc ς ν τ) T k (hs % hB) a=some x:=fun _ _ _ h1=>(eE h1).trans e
    obtain ⟨o,ob⟩:=x
    cases ob with
    | none =>
     refine ⟨o,hE O D e,?_⟩
     exact IH (hs / hB) us Γ κ bd (f o) p d T m k i L β γ s hus hb hk D fun ς ν τ h1 h2=>by have:=H ς ν τ h1 h2; simp only [e' ς ν τ h1] at this; exact this
    | some b =>
     obtain ⟨l1,sl,l2⟩:=gU O D e
     cases hdt:b9 d b.2 o with
     | false =>
      simp only [e,hdt] at H0
      obtain ⟨x,hx,hLR,_⟩:=H0
      have:=(aR _ _ _ _ _ _ _ _ _ _ _ _ _ _ _ _ _ hx).same hLR
      injection this with ha
      subst ha
      exact ⟨o,l1 hdt,IH (hs / hB) us Γ κ bd (f o) p d T m k i (fun V=>.n b.1::L V) β γ s hus hb hk D fun ς ν τ h1 h2=>by have:=H ς ν τ h1 h2; simp only [e' ς ν τ h1,hdt] at this; exact this⟩
     | true =>
      have H1:=H sl β γ (fun _ _=>rfl) (fun _ _=>rfl)
      simp only [e' sl β γ (fun _ _=>rfl),hdt] at H1
      obtain ⟨x,hx,hLR,_⟩:=H1
      have:=(aR _ _ _ _ _ _ _ _ _ _ _ _ _ _ _ _ _ hx).same hLR
      simp only [Sd.s.injEq,List.cons.injEq,Sd.t.injEq,Sd.n.injEq,and_true] at this
      obtain ⟨ha,hf⟩:=this
      refine ⟨wS o sl,ha▸l2,?_⟩
      have hf:f (wS o sl)=f o:=hf
      rw [hf]
      refine IH (hs / hB) us Γ κ bd (f o) p d T m k i (fun V=>.s [.n b.1,.t (f o)]::L V) β γ s hus hb hk D fun ς ν τ h1 h2=>?_
      have H1:=H ς ν τ h1 h2
      simp only [e' ς ν τ h1,hdt] at H1
      obtain ⟨x,hx,hLR,_⟩:=id H1
      have:=(aR _ _ _ _ _ _ _ _ _ _ _ _ _ _ _ _ _ hx).same hLR
      rw [this] at H1
      exact H1
  | loadIfAlive a f =>
   simp only [aO] at H H0
   cases e:bE (B.V lb dy shs κc #[] β γ) T k (hs % hB) a with
   | none=>simp only [e] at H0; exact H0.none.elim
   | some x =>
    have e':∀ ς ν τ,(∀ j,j<k→ν j=β j)→bE (B.V lb dy shs κc ς ν τ) T k (hs % hB) a=some x:=fun _ _ _ h1=>(eE h1).trans e
    obtain ⟨o,ob⟩:=x
    cases ob with
    | none =>
     show Sem.wp B.M Γ (f (s.heap.get? a)) _ _ p s
     rw [hE O D e]
     exact IH (hs / hB) us Γ κ bd (f (some o)) p d T m k i L β γ s hus hb hk D fun ς ν τ h1 h2=>by have:=H ς ν τ h1 h2; simp only [e' ς ν τ h1] at this; exact this
    | some b =>
     obtain ⟨l1,sl,l2⟩:=gU O D e
     cases hdt:b9 d b.2 o with
     | false =>
      simp only [e,hdt] at H0
      obtain ⟨x,hx,hLR,_⟩:=H0
      have:=(aR _ _ _ _ _ _ _ _ _ _ _ _ _ _ _ _ _ hx).same hLR
      injection this with ha
      subst ha
      show Sem.wp B.M Γ (f (s.heap.get? _)) _ _ p s
      rw [l1 hdt]
      exact IH (hs / hB) us Γ κ bd (f (some o)) p d T m k i (fun V=>.n b.1::L V) β γ s hus hb hk D fun ς ν τ h1 h2=>by have:=H ς ν τ h1 h2; simp only [e' ς ν τ h1,hdt] at this; exact this
     | true =>
      have H1:=H sl β γ (fun _ _=>rfl) (fun _ _=>rfl)
      simp only [e' sl β γ (fun _ _=>rfl),hdt] at H1
      obtain ⟨x,hx,hLR,_⟩:=H1
      have:=(aR _ _ _ _ _ _ _ _ _ _ _ _ _ _ _ _ _ hx).same hLR
      simp only [Sd.s.injEq,List.cons.injEq,Sd.t.injEq,Sd.n.injEq,and_true] at this
      obtain ⟨ha,hf⟩:=this
      have hf:f (some (wS o sl))=f (some o):=hf
      show Sem.wp B.M Γ (f (s.heap.get? a)) _ _ p s
      rw [ha,l2,hf]
      refine IH (hs / hB) us Γ κ bd (f (some o)) p d T m k i (fun V=>.s [.n b.1,.t (f (some o))]::L V) β γ s hus hb hk D fun ς ν τ h1 h2=>?_
      have H1:=H ς ν τ h1 h2
      simp only [e' ς ν τ h1,hdt] at H1
      obtain ⟨x,hx,hLR,_⟩:=id H1
      have:=(aR _ _ _ _ _ _ _ _ _ _ _ _ _ _ _ _ _ hx).same hLR
      rw [this] at H1
      exact H1
  | alloc o f =>
   cases hf:o.isFreed with
   | true=>simp only [aO,hf] at H0; exact H0.none.elim
   | false =>
    simp only [aO,hf] at H
    have hsa:=mt (O.big s D.top)
    have H1:=H #[] (n3 β k ⟨s.heap.objs.size,fun _=>.none,default,Post.zero⟩) γ (fun j hj=>cm hj) (fun _ _=>rfl)
    simp only [Base.V,bt,hsa] at H1
    cases e:(T.ins m ⟨true,s.heap.objs.size,o⟩).get m with
    | none=>simp only [e] at H1; exact H1.none.elim
    | some c =>
     show Sem.wp B.M Γ (f s.heap.objs.size) _ _ p _
     refine IH hs us Γ κ bd (f s.heap.objs.size) p d (T.ins m ⟨true,s.heap.objs.size,o⟩) (m+1) (k+1) i L (n3 β k ⟨s.heap.objs.size,fun _=>.none,default,Post.zero⟩) γ _ hus hb hk (D.alloc hf (by rw [e]; rfl)) fun ς ν τ h1 h2=>?_
     have hk':ν k=⟨s.heap.objs.size,fun _=>.none,default,Post.zero⟩:=(h1 k (by omega)).trans (bt ..)
     have:=H ς ν τ (fun j hj=>(h1 j (by omega)).trans (cm hj)) h2
     simp only [Base.V,hk',hsa,e] at this
     exact this
  | update a q g f =>
   simp only [aO] at H H0
   cases e:T.get (hs % hB) with
   | none=>simp only [e] at H0; exact H0.none.elim
   | some c =>
    simp only [e] at H H0
    cases hm:c.mu with
    | false=>simp only [hm] at H0; exact H0.none.elim
    | true =>
     simp only [hm] at H H0
     cases hf:(g c.o).isFreed with
     | true=>simp only [hf] at H0; exact H0.none.elim
     | false =>
      simp only [hf] at H H0
      obtain ⟨sl0,hget⟩:=(D.own _ c e).2.1.get
      cases hdt:b9 d true c.o with
      | false =>
       simp only [hdt] at H H0
       obtain ⟨x,hx,hLR,_⟩:=H0
       have:=(aR _ _ _ _ _ _ _ _ _ _ _ _ _ _ _ _ _ hx).same hLR
       injection this with ha
       subst ha
       refine ⟨by rw [hget]; rfl,?_⟩
       exact IH (hs / hB) us Γ κ bd (f ()) p d (T.set (hs % hB) (g c.o)) m k i (fun V=>.n c.a::L V) β γ _ hus hb hk (D.update e hm fun x hx=>by
        rw [(D.own _ c e).2.1.exact hdt] at hx
        cases hx
        exact ⟨hf,.inl rfl⟩) H
      | true =>
       simp only [hdt] at H H0
       cases hfg:aV (g c.o) with
       | false=>simp only [hfg] at H0; exact H0.none.elim
       | true =>
        simp only [hfg] at H H0
        have key:∀ sl,a=c.a∧g (wS c.o sl)=wS (g c.o) sl:=fun sl=>by
         obtain ⟨x,hx,hLR,_⟩:=H sl β γ (fun _ _=>rfl) (fun _ _=>rfl)
         have:=(aR _ _ _ _ _ _ _ _ _ _ _ _ _ _ _ _ _ hx).same hLR
         simp only [Sd.s.injEq,List.cons.injEq,Sd.o.injEq,Sd.n.injEq,and_true] at this
         exact this
        have ha:=(key #[]).1
        subst ha
        have hdd:d=true:=by
         cases d with
         | true=>rfl
         | false=>cases hdt
        refine ⟨by rw [hget]; rfl,?_⟩
        refine IH (hs / hB) us Γ κ bd (f ()) p d (T.set (hs % hB) (g c.o)) m k i (fun V=>.s [.n c.a,.o (wS (g c.o) V.ς)]::L V) β γ _ hus hb hk (D.update e hm fun x hx=>?_) fun ς ν τ h1 h2=>?_
        ·rw [hget] at hx
         cases hx
         rw [(key sl0).2]
         exact ⟨(ky _ _).trans hf,.inr ⟨hdd,hfg,sl0,rfl⟩⟩
        ·have H1:=H ς ν τ h1 h2
         have k1:g (wS c.o (B.V lb dy shs κc ς ν τ).ς)=wS (g c.o) (B.V lb dy shs κc ς ν τ).ς:=(key ς).2
         simp only [k1] at H1
         exact H1
  | fresh f =>
   show Sem.wp B.M Γ (f s.toks) _ _ p _
   refine IH hs us Γ κ bd (f s.toks) p d T m k (i+1) L β (n3 γ i s.toks) { s with toks:=s.toks+1 } hus hb hk ⟨D.own,D.inj,D.top,D.keep,D.size,D.gens,D.os,D.low⟩ fun ς ν τ h1 h2=>?_
   have hk':τ i=s.toks:=(h2 i (by omega)).trans (bt ..)
   have:=H ς ν τ h1 (fun j hj=>(h2 j (by omega)).trans (cm hj))
   simp only [aO,Base.V,hk'] at this
   exact this
  | handled own f =>
   cases own with
   | false=>exact IH hs us Γ κ bd (f Γ.handled) p d T m k i L β γ s hus hb hk D H
   | true=>exact H0.none.elim
  | stack f =>
   have hV:∀ ς ν τ,(B.V lb dy shs κc ς ν τ).shs=shs:=fun _ _ _=>rfl
   have hκ:∀ ς ν τ,(B.V lb dy shs κc ς ν τ).κc=κc:=fun _ _ _=>rfl
   simp only [aO] at H H0
   cases hs0:shs with
   | nil =>
    exact IH hs us Γ κ bd (f ((Γ.code,p)::Γ.below)) p d T m k i L β γ s hus hb hk D fun ς ν τ h1 h2=>by
     have:=H ς ν τ h1 h2
     simp only [hV] at this
     rw [hs0] at this
     simp only [hs0]
     exact this
   | cons a l =>
    match hh0:hs % hB with
    | 0 =>
     exact IH (hs / hB) us Γ κ bd (f ((Γ.code,p)::Γ.below)) p d T m k i L β γ s hus hb hk D fun ς ν τ h1 h2=>by
      have:=H ς ν τ h1 h2
      simp only [hV] at this
      rw [hs0] at this
      simp only [hh0] at this
      rw [← hs0] at this
      exact this
    | h+1 =>
     have e:hH κc f (fun b=>(Γ.code,p)::bp κ b) shs=fL f shs:=by
      simp only [hV,hκ] at H0
      rw [hs0] at H0
      simp only [hh0] at H0
      obtain ⟨x,hx,hLR,_⟩:=H0
      have:=(aR _ _ _ _ _ _ _ _ _ _ _ _ _ _ _ _ _ hx).same hLR
      simp only [Sd.s.injEq] at this
      rw [hs0]
      exact this
     obtain ⟨q,hq,hqe⟩:=W.shape (by rw [hs0]; simp)
     have e2:=jJ e q hq
     show Sem.wp B.M Γ (f ((Γ.code,p)::Γ.below)) _ _ p s
     have e3:f ((Γ.code,p)::Γ.below)=f []:=by
      rw [hk.stack,←hqe]
      exact e2
     rw [e3]
     refine IH (hs / hB) us Γ κ bd (f []) p d T m k i (fun V=>.s (fL f shs)::L V) β γ s hus hb hk D fun ς ν τ h1 h2=>?_
     have H1:=H ς ν τ h1 h2
     simp only [hV,hκ,hh0] at H1
     rw [e] at H1
     revert H1
     cases hs1:shs with
     | nil=>rw [hs1] at hs0; cases hs0
     | cons a l=>exact id
  | call c hd gd l f =>
   simp only [aO] at H H0
   cases hw:Nat.ble (hC Γ.code) bd with
   | false=>simp only [hw] at H0; exact H0.none.elim
   | true =>
    simp only [hw] at H H0
    have hb':=hb.enter c hd p hw
    have hk':ro bl (Γ.enter c hd p).below (.ret Γ p bd f κ):=⟨hb,rfl,hk⟩
    show wpCode B.M (Γ.enter c hd p) (bn B R (.ret Γ p bd f κ)) p s
    cases h3:Nat.beq (hs % hB) 3 with
    | true =>
     simp only [h3] at H H0
     cases hx:eV T c (hs / hB % hB) with
     | none=>simp only [hx] at H0; exact H0.none.elim
     | some x =>
      simp only [hx] at H H0
      obtain ⟨ce,hce,hic,hcs,hca⟩:=gk hx
      have e:x.2.1=x.2.2:=by
       obtain ⟨y,hy,hLR,_⟩:=H0
       have:=(aR _ _ _ _ _ _ _ _ _ _ _ _ _ _ _ _ _ hy).same hLR
       injection this
      refine kn (Γ:=Γ.enter c hd p) (x:=(x.1,x.2.1)) hcs (o:=ce.o) (by rw [e,←hca]; exact (D.own _ _ hce).2.1.exactF (m6 hic)) hic fun p'=>?_
      refine bZ (IH (hs / hB / hB) us ((Γ.enter c hd p).goto x.1) (.ret Γ p bd f κ) (bd - hC Γ.code) (iB x.1) p' d T m (k+1) i (fun V=>.n x.2.1::L V) (n3 β k ⟨0,fun _=>.none,p',Post.zero⟩) γ s hus hb' hk' D fun ς ν τ h1 h2=>?_)
      have hk':ν k=⟨0,fun _=>.none,p',Post.zero⟩:=(h1 k (by omega)).trans (bt ..)
      have H1:=H ς ν τ (fun j hj=>(h1 j (by omega)).trans (cm hj)) h2
      simp only [Base.V,hk',←e] at H1 ⊢
      exact H1
    | false =>
    simp only [h3] at H H0
    match hh0:hs % hB with
    | 0 =>
     simp only [hh0] at H
     exact bZ (IH (hs / hB) us (Γ.enter c hd p) (.ret Γ p bd f κ) (bd - hC Γ.code) (iB c) p d T m k i L β γ s hus hb' hk' D H)
    | 1 =>
     simp only [hh0] at H H0
     cases he:c4 (B.V lb dy shs κc #[] β γ) c with
     | none=>simp only [he] at H0; exact H0.none.elim
     | some t' =>
      have he':∀ ς ν τ,c4 (B.V lb dy shs κc ς ν τ) c=some t':=fun ς ν τ=>he
      exact eQ O (Γ:=Γ.enter c hd p) (V:=B.V lb dy shs κc #[] β γ) rfl he D.top (by have:=hb'.1; omega)
       (IH (hs / hB) us (Γ.enter c hd p) (.ret Γ p bd f κ) (bd - hC Γ.code) t' p d T m k i L β γ s hus hb' hk' D fun ς ν τ h1 h2=>by have:=H ς ν τ h1 h2; simp only [he'] at this; exact this)
    | h+2 =>
     simp only [hh0] at H H0
     cases hh:(Γ.enter c hd p).handled with
     | some e=>simp only [hh] at H0; exact H0.none.elim
     | none =>
      simp only [hh] at H H0
      have hV:∀ ς ν τ,(B.V lb dy shs κc ς ν τ).lb=lb:=fun _ _ _=>rfl
      rcases cN lb T c h.succ.succ (hs / hB) us with hp | ⟨hs₁,u,us₁,hp,htl,hu,hsub⟩
      ·simp only [hV,hp] at H0; exact H0.none.elim
      ·have hU:=gl hlb hus htl hu
       refine dX O (L:=L) (lv:=bd - hC Γ.code) (u:=u) (Γ:=Γ.enter c hd p) (ex:=id) (ex':=id) (R':=bn B R (.ret Γ p bd f κ)) (ch:=fun hs=>ed T Γ.code κ hs [] []) (K:=fun V r hs' d' T' m' k' i' l l'=>l7 V n hs' us₁ Γ κ bd (f r) p d' T' m' k' i' (l::L V) (l'::L V)) (fun V r hs' d' T' m' k' i' l l' x hx=>aR V n _ _ _ _ _ _ _ _ _ _ _ _ _ _ _ hx) (fun _ _ h=>h) W (congrArg _ hk.stack) (fun h _=>.inl fun i c hi=>fk h i hi c) (fun hs' LL RR hc e hdy=>?_)
        rfl hh hb' D (fun ς ν τ h1 h2=>by have:=H ς ν τ h1 h2; simp only [hV,hp] at this; exact this) (fun S₀ hS₀ ok go=>hU _ _ _ _ (Γ.enter c hd p) p s (bn B R (.ret Γ p bd f κ)) _ (hS₀▸ok) go) fun r hs' d' T' m' k' i' β' γ' l l' s' e D' H'=>?_
       ·obtain ⟨P,Q,e1,e2,_,e4⟩:=gX (p:=p) D W hdy hk hc
        rw [List.append_nil] at e1 e2
        exact e4 (e1▸e2▸e)
       ·have e:l=l':=e
        subst e
        exact IH hs' us₁ Γ κ bd (f r) p d' T' m' k' i' (fun V=>l::L V) β' γ' s' (fun u hu=>hus u (hsub u hu)) hb hk D' H'
  | unsupported=>exact H0.none.elim
  | finish=>exact H0.none.elim
  | register=>exact H0.none.elim
  | choose=>exact H0.none.elim
  | os=>exact H0.none.elim
  | newGen=>exact H0.none.elim
  | genState=>exact H0.none.elim
  | resume=>exact H0.none.elim
  | yield=>exact H0.none.elim
  | fork=>exact H0.none.elim
  | thread=>exact H0.none.elim
  | await=>exact H0.none.elim
end
noncomputable abbrev b6:=Nat→List Use→Ctx→Kt→Nat→Pos→Bool→ST→Nat→Nat→Nat→List Sd→List Sd→Option Out
noncomputable abbrev cZ:=Sem Fin→b6
noncomputable def jh:b6:=fun _ _ _ _ _ _ _ _ _ _ _ _ _=>none
noncomputable def np (ih:cZ) (κ:Kt) (r:Result) (hs:Nat) (us:List Use) (d:Bool) (T:ST) (m k i:Nat) (L R:List Sd):Option Out:=match κ with
 | .base=>some ⟨r,T,L,R,d⟩
 | .ret Γ p bd f κ=>ih (f r) hs us Γ κ bd p d T m k i L R
noncomputable def vI (V:Cx) (ih:cZ) (c:Code) (hs:Nat) (us:List Use) (Γ:Ctx) (κ:Kt) (bd:Nat) (d:Bool) (T:ST) (m k i:Nat) (L R:List Sd):Option Out:=match Γ.handled with
 | some _=>none
 | none=>eM V.lb T c (hs % hB) (hs / hB) us fun hs u us=>io V d T m k i hs c (bp κ) u (k8 T u.jx) bd (fun hs=>cK T κ hs [] []) fun r hs' d' T' m' k' i' l l'=>np ih κ r hs' us d' T' m' k' i' (l::L) (l'::R)
noncomputable def F9 (V:Cx) (ih:cZ) (c:Code):b6:=fun hs us Γ κ bd p d T m k i L R=>match hs % hB with
 | 0=>ih (iB c) (hs / hB) us (Γ.goto c) κ bd p d T m k i L R
 | 1=>match c4 V c with
  | some t'=>ih t' (hs / hB) us (Γ.goto c) κ bd p d T m k i L R
  | none=>none
 | _=>vI V ih c hs us Γ κ bd d T m k i L R
noncomputable def Ce (V:Cx) (ih:cZ) (c:Code):b6:=fun hs us Γ κ bd p d T m k i L R=>match eV T c (hs / hB % hB) with
 | some x=>ih (iB x.1) (hs / hB / hB) us ((Γ.goto c).goto x.1) κ bd (V.π k) d T m (k+1) i (.n x.2.1::L) (.n x.2.2::R)
 | none=>none
noncomputable def Aw (V:Cx) (ih:cZ) (fin:Fin):b6:=fun hs us Γ κ bd p d T m k i L R=>match fin with
 | .done f=>np ih κ (.ok f) hs us d T m k i L R
 | .again c=>match c.quiet with
  | false=>none
  | true=>match Nat.beq (hs % hB) 3 with
   | true=>Ce V ih c hs us Γ κ bd p d T m k i L R
   | false=>F9 V ih c hs us Γ κ bd p d T m k i L R
noncomputable def xS (ih:cZ) (e:Value):b6:=fun hs us Γ κ bd p d T m k i L R=>np ih κ (.error e) hs us d T m k i L R
noncomputable def CZ (ih:cZ) (_:String) (f:Unit→Sem Fin) (_:Unit→b6):b6:=ih (f ())
noncomputable def DZ (V:Cx) (ih:cZ) (q:Pos) (f:Unit→Sem Fin) (lj:Nat × Nat) (u:Use) (us':List Use) (hs:Nat) (Γ:Ctx) (κ:Kt) (bd:Nat) (d:Bool) (T:ST) (m k i:Nat) (L R:List Sd):Option Out:=match Γ.handled with
 | some _=>none
 | none=>io V d T m k i hs Γ.code (bp κ) u (vg κ T u.jx) bd (fun hs=>cK T κ hs [] []) fun r hs' d' T' m' k' i' l l'=>np ih κ r hs' us' d' T' m' k' i' (.s [l,.t (dP Γ.code lj.2)]::L) (.s [l',.t (.at q f)]::R)
noncomputable def CY (V:Cx) (ih:cZ) (q:Pos) (f:Unit→Sem Fin) (u:Use) (us':List Use):b6:=fun hs us Γ κ bd p d T m k i L R=>match u.tl with
 | none=>ih (f ()) hs us Γ κ bd q d T m k i L R
 | some lj=>match Nat.beq q.line lj.1 with
  | false=>ih (f ()) hs us Γ κ bd q d T m k i L R
  | true=>DZ V ih q f lj u us' hs Γ κ bd d T m k i L R
noncomputable def EQ (V:Cx) (ih:cZ) (q:Pos) (f:Unit→Sem Fin) (_:Unit→b6):b6:=fun hs us Γ κ bd p d T m k i L R=>match us with
 | []=>ih (f ()) hs us Γ κ bd q d T m k i L R
 | u::us'=>CY V ih q f u us' hs us Γ κ bd p d T m k i L R
noncomputable def ER (V:Cx) (ih:cZ) (f:Setting→Sem Fin) (_:Setting→b6):b6:=fun hs us Γ κ bd p d T m k i L R=>match hs % hB with
 | 0=>ih (f ⟨V.prog,V.w.params⟩) (hs / hB) us Γ κ bd p d T m k i L R
 | 1=>ih (f ⟨V.prog,wF V.w nS true⟩) (hs / hB) us Γ κ bd p d T m k i (.t (f ⟨V.prog,wF V.w nS true⟩)::L) (.t (f ⟨V.prog,wF V.w nS false⟩)::R)
 | _=>ih (f ⟨V.prog,wF V.w nC V.cb⟩) (hs / hB) us Γ κ bd p d T m k i L R
noncomputable def vv (V:Cx) (ih:cZ) (a:Addr) (q:Option Value) (f:Obj→Sem Fin):b6:=fun hs us Γ κ bd p d T m k i L R=>match Nat.beq (hs % hB) 1023 with
 | true=>match cV V.dy Γ κ T (hs / hB) with
  | none=>none
  | some N=>match (bM V T m k N .none).get m with
   | none=>none
   | some _=>N.run fun hs'=>np ih κ (.error (.ref N.e)) hs' us true (bM V T m k N .none) (m+1) (k+1) i (.s [.t (dV N.env N.e),.s N.L]::L) (.s [.t (.load a q f),.s N.R]::R)
 | false=>match cV V.dy Γ κ T (hs / hB) with
  | none=>none
  | some N=>match (bM V T m k N (rawInt N.fr)).get m with
   | none=>none
   | some _=>N.run fun hs'=>match rg (i7 N.body (hs' % hB)) with
    | none=>none
    | some x=>ih (jX N.env N.e x.1 x.2) (hs' / hB) us Γ κ bd (V.π k) true (bM V T m k N (rawInt N.fr)) (m+1) (k+1) i (.s [.t (dZ N.env N.e x.1 x.2),.s N.L]::L) (.s [.t (.load a q f),.s N.R]::R)
noncomputable def EX (V:Cx) (ih:cZ) (a:Addr) (f:Obj→Sem Fin) (o:Obj) (b:Nat × Bool):b6:=fun hs us Γ κ bd p d T m k i L R=>match b9 d b.2 o with
 | false=>ih (f o) (hs / hB) us Γ κ bd p d T m k i (.n a::L) (.n b.1::R)
 | true=>ih (f o) (hs / hB) us Γ κ bd p d T m k i (.s [.n a,.t (f (wS o V.ς))]::L) (.s [.n b.1,.t (f o)]::R)
noncomputable def AB (V:Cx) (ih:cZ) (a:Addr) (f:Obj→Sem Fin):b6:=fun hs us Γ κ bd p d T m k i L R=>match bE V T k (hs % hB) a with
 | some x=>match x with
  | (o,b)=>match b with
   | none=>ih (f o) (hs / hB) us Γ κ bd p d T m k i L R
   | some b=>EX V ih a f o b hs us Γ κ bd p d T m k i L R
 | none=>none
noncomputable def qy (V:Cx) (ih:cZ) (a:Addr) (q:Option Value) (f:Obj→Sem Fin) (_:Obj→b6):b6:=fun hs us Γ κ bd p d T m k i L R=>match Nat.ble 1022 (hs % hB) with
 | true=>vv V ih a q f hs us Γ κ bd p d T m k i L R
 | false=>AB V ih a f hs us Γ κ bd p d T m k i L R
noncomputable def Fa (V:Cx) (ih:cZ) (a:Addr) (f:Option Obj→Sem Fin) (o:Obj) (b:Nat × Bool):b6:=fun hs us Γ κ bd p d T m k i L R=>match b9 d b.2 o with
 | false=>ih (f (some o)) (hs / hB) us Γ κ bd p d T m k i (.n a::L) (.n b.1::R)
 | true=>ih (f (some o)) (hs / hB) us Γ κ bd p d T m k i (.s [.n a,.t (f (some (wS o V.ς)))]::L) (.s [.n b.1,.t (f (some o))]::R)
noncomputable def Fg (V:Cx) (ih:cZ) (a:Addr) (f:Option Obj→Sem Fin) (_:Option Obj→b6):b6:=fun hs us Γ κ bd p d T m k i L R=>match bE V T k (hs % hB) a with
 | some x=>match x with
  | (o,b)=>match b with
   | none=>ih (f (some o)) (hs / hB) us Γ κ bd p d T m k i L R
   | some b=>Fa V ih a f o b hs us Γ κ bd p d T m k i L R
 | none=>none
noncomputable def xU (V:Cx) (ih:cZ) (o:Obj) (f:Addr→Sem Fin) (_:Addr→b6):b6:=fun hs us Γ κ bd p d T m k i L R=>match o.isFreed with
 | true=>none
 | false=>match (T.ins m ⟨true,V.ν k,o⟩).get m with
  | some _=>ih (f (V.ν k)) hs us Γ κ bd p d (T.ins m ⟨true,V.ν k,o⟩) (m+1) (k+1) i L R
  | none=>none
noncomputable def Fr (V:Cx) (ih:cZ) (a:Addr) (g:Obj→Obj) (f:Unit→Sem Fin) (ca:Nat) (co:Obj):b6:=fun hs us Γ κ bd p d T m k i L R=>match b9 d true co with
 | false=>ih (f ()) (hs / hB) us Γ κ bd p d (T.set (hs % hB) (g co)) m k i (.n a::L) (.n ca::R)
 | true=>match aV (g co) with
  | false=>none
  | true=>ih (f ()) (hs / hB) us Γ κ bd p d (T.set (hs % hB) (g co)) m k i (.s [.n a,.o (g (wS co V.ς))]::L) (.s [.n ca,.o (wS (g co) V.ς)]::R)
noncomputable def F2 (V:Cx) (ih:cZ) (a:Addr) (_:Option Value) (g:Obj→Obj) (f:Unit→Sem Fin) (_:Unit→b6):b6:=fun hs us Γ κ bd p d T m k i L R=>match T.get (hs % hB) with
 | some c=>match c with
  | ⟨mu,ca,co⟩=>match mu with
   | false=>none
   | true=>match (g co).isFreed with
    | true=>none
    | false=>Fr V ih a g f ca co hs us Γ κ bd p d T m k i L R
 | none=>none
noncomputable def yY (V:Cx) (ih:cZ) (f:Tok→Sem Fin) (_:Tok→b6):b6:=fun hs us Γ κ bd p d T m k i L R=>ih (f (V.τ i)) hs us Γ κ bd p d T m k (i+1) L R
noncomputable def Bc (ih:cZ) (own:Bool) (f:Option Value→Sem Fin) (_:Option Value→b6):b6:=fun hs us Γ κ bd p d T m k i L R=>match own with
 | false=>ih (f Γ.handled) hs us Γ κ bd p d T m k i L R
 | true=>none
noncomputable def EO (V:Cx) (ih:cZ) (f:List (Code × Pos)→Sem Fin):b6:=fun hs us Γ κ bd p d T m k i L R=>match hs % hB with
 | 0=>ih (f ((Γ.code,p)::Γ.below)) (hs / hB) us Γ κ bd p d T m k i L R
 | _=>ih (f []) (hs / hB) us Γ κ bd p d T m k i (.s (hH V.κc f (fun b=>(Γ.code,p)::bp κ b) V.shs)::L) (.s (fL f V.shs)::R)
noncomputable def xC (V:Cx) (ih:cZ) (f:List (Code × Pos)→Sem Fin) (_:List (Code × Pos)→b6):b6:=fun hs us Γ κ bd p d T m k i L R=>match V.shs with
 | []=>ih (f ((Γ.code,p)::Γ.below)) hs us Γ κ bd p d T m k i L R
 | _::_=>EO V ih f hs us Γ κ bd p d T m k i L R
noncomputable def Ba (V:Cx) (ih:cZ) (c:Code) (hd:Option Value) (f:Result→Sem Fin):b6:=fun hs us Γ κ bd p d T m k i L R=>match (Γ.enter c hd p).handled with
 | some _=>none
 | none=>eM V.lb T c (hs % hB) (hs / hB) us fun hs u us=>io V d T m k i hs c (fun b=>(Γ.code,p)::bp κ b) u (k8 T u.jx) (bd - hC Γ.code) (fun hs=>ed T Γ.code κ hs [] []) fun r hs' d' T' m' k' i' l l'=>ih (f r) hs' us Γ κ bd p d' T' m' k' i' (l::L) (l'::R)
noncomputable def xQ (V:Cx) (ih:cZ) (c:Code) (hd:Option Value) (f:Result→Sem Fin):b6:=fun hs us Γ κ bd p d T m k i L R=>match hs % hB with
 | 0=>ih (iB c) (hs / hB) us (Γ.enter c hd p) (.ret Γ p bd f κ) (bd - hC Γ.code) p d T m k i L R
 | 1=>match c4 V c with
  | some t'=>ih t' (hs / hB) us (Γ.enter c hd p) (.ret Γ p bd f κ) (bd - hC Γ.code) p d T m k i L R
  | none=>none
 | _=>Ba V ih c hd f hs us Γ κ bd p d T m k i L R
noncomputable def Fx (V:Cx) (ih:cZ) (c:Code) (hd:Option Value) (f:Result→Sem Fin):b6:=fun hs us Γ κ bd p d T m k i L R=>match eV T c (hs / hB % hB) with
 | some x=>ih (iB x.1) (hs / hB / hB) us ((Γ.enter c hd p).goto x.1) (.ret Γ p bd f κ) (bd - hC Γ.code) (V.π k) d T m (k+1) i (.n x.2.1::L) (.n x.2.2::R)
 | none=>none
noncomputable def D5 (V:Cx) (ih:cZ) (c:Code) (hd:Option Value) (_:Bool) (_:List Value) (f:Result→Sem Fin) (_:Result→b6):b6:=fun hs us Γ κ bd p d T m k i L R=>match Nat.ble (hC Γ.code) bd with
 | false=>none
 | true=>match Nat.beq (hs % hB) 3 with
  | true=>Fx V ih c hd f hs us Γ κ bd p d T m k i L R
  | false=>xQ V ih c hd f hs us Γ κ bd p d T m k i L R
noncomputable def ov (V:Cx) (ih:cZ):cZ:=@Sem.rec Fin (fun _=>b6) (Aw V ih) (xS ih) (fun _=>jh) (fun _=>jh) (CZ ih) (EQ V ih) (qy V ih) (F2 V ih) (xU V ih) (Fg V ih) (fun _ f _=>ih (f ())) (fun _ _ _=>jh) (yY V ih) (ER V ih)
 (fun _ _ _ _=>jh) (fun _ _ _ _=>jh) (D5 V ih) (Bc ih) (fun _ _ _=>jh) (fun _ _ _=>jh) (fun _ _ _ _ _=>jh) (fun _ _ _ _ _=>jh) (xC V ih) (fun _ _ _=>jh) (fun _ _=>jh) (fun _ _ _ _ _ _=>jh)
noncomputable def s6 (V:Cx) (n:Nat):cZ:=Nat.rec (fun _=>jh) (fun _ ih=>ov V ih) n
theorem nU (V:Cx) (n:Nat):s6 V (n+1)=ov V (s6 V n):=rfl
noncomputable def cX (r:fy):cZ:=fun t hs us Γ κ bd p d T m k i L R=>r hs us Γ κ bd t p d T m k i L R
theorem dO (r:fy) {κ:Kt}:(np (cX r) κ)=fun x hs us d T m k i L R=>eX r x hs us κ d T m k i L R:=by
 cases κ <;> rfl
theorem pN (V:Cx) (r:fy):ov V (cX r)=cX (aO V r):=by
 funext t hs us Γ κ bd p d T m k i L R
 cases t with
 | pure fin =>
  cases fin with
  | done f=>exact congrFun (congrFun (congrFun (congrFun (congrFun (congrFun (congrFun (congrFun (congrFun (congrFun (dO r (κ:=κ)) _) _) _) _) _) _) _) _) _) _
  | again c =>
   show (match c.quiet with | false=>none | true=>match Nat.beq (hs % hB) 3 with | true=>Ce V (cX r) c hs us Γ κ bd p d T m k i L R | false=>F9 V (cX r) c hs us Γ κ bd p d T m k i L R)=aO V r hs us Γ κ bd (.pure (.again c)) p d T m k i L R
   unfold aO F9 vI
   simp only [dO]
   rfl
 | raise e=>exact congrFun (congrFun (congrFun (congrFun (congrFun (congrFun (congrFun (congrFun (congrFun (congrFun (dO r (κ:=κ)) _) _) _) _) _) _) _) _) _) _
 | «at» q f =>
  show EQ V (cX r) q f (fun _=>jh) hs us Γ κ bd p d T m k i L R=_
  unfold EQ CY DZ
  simp only [dO]
  rfl
 | load a q f =>
  show qy V (cX r) a q f (fun _=>jh) hs us Γ κ bd p d T m k i L R=_
  unfold qy vv AB
  simp only [dO]
  show _=aO V r hs us Γ κ bd (.load a q f) p d T m k i L R
  simp only [aO]
  cases Nat.ble 1022 (hs % hB) with
  | true=>rfl
  | false =>
   cases bE V T k (hs % hB) a with
   | none=>rfl
   | some x =>
    obtain ⟨o,b⟩:=x
    cases b <;> rfl
 | loadIfAlive a f =>
  show Fg V (cX r) a f (fun _=>jh) hs us Γ κ bd p d T m k i L R=_
  unfold Fg
  show _=aO V r hs us Γ κ bd (.loadIfAlive a f) p d T m k i L R
  simp only [aO]
  cases bE V T k (hs % hB) a with
  | none=>rfl
  | some x =>
   obtain ⟨o,b⟩:=x
   cases b <;> rfl
 | update a q g f =>
  show F2 V (cX r) a q g f (fun _=>jh) hs us Γ κ bd p d T m k i L R=_
  unfold F2
  show _=aO V r hs us Γ κ bd (.update a q g f) p d T m k i L R
  simp only [aO]
  cases T.get (hs % hB) with
  | none=>rfl
  | some c=>obtain ⟨mu,ca,co⟩:=c; cases mu <;> rfl
 | _=>rfl
theorem m3 (V:Cx):∀ n,s6 V n=cX (l7 V n)
 | 0=>rfl
 | n+1=>by rw [nU,m3 V n,pN]; rfl
structure RS where
 lv:Nat
 sh:List (List Kd)
 c:Code
 cells:List Cell
 bx:List Nat
 tx:List Nat
 po:List Nat→List Nat→(Nat→Obj)→(Nat→Post)→List Obj
 nw:List Nat→List Nat→List Obj
 r:List Nat→List Nat→Result
 dy:Bool:=false
 di:Bool:=false
 tl:Option Nat:=none
noncomputable def cA:List Cell→List Nat
 | []=>[]
 | c::l=>match c.mu with
  | true=>c.a::cA l
  | false=>cA l
noncomputable def or:Nat→List Cell→List Nat
 | _,[]=>[]
 | i,c::l=>match c.mu with
  | true=>i::or (i+1) l
  | false=>or (i+1) l
noncomputable def bX:List Cell→List (Nat × Obj)
 | []=>[]
 | c::l=>(c.a,c.o)::bX l
noncomputable def ag {α:Type}:List α→Nat
 | []=>0
 | _::l=>ag l+1
noncomputable def RS.SO (D:RS) (ob:Nat→Obj) (q:Nat→Post):Spec:=⟨D.lv,D.sh,D.c,bX D.cells,cA D.cells,ag D.bx,ag D.tx,fun b t=>D.po b t ob q,D.nw,D.r,D.dy,D.di⟩
noncomputable def BH:Nat→Obj:=fun _=>{ cls:=.none }
noncomputable def q0:Nat→Post:=fun _=>Post.zero
noncomputable def RS.S (D:RS):Spec:=D.SO BH q0
noncomputable def nP:ST→Nat→List Cell→Option ST
 | T,_,[]=>some T
 | T,m,c::l=>match (T.ins m c).get m with
  | some _=>nP (T.ins m c) (m+1) l
  | none=>none
noncomputable def bz (f:Nat→Nat):List Nat→List Nat
 | []=>[]
 | i::l=>f i::bz f l
noncomputable def uk (T:ST):List Nat→List Obj→List Sd→List Sd→(List Sd→List Sd→List Sd × List Sd)→List Sd × List Sd
 | [],_,L,R,k=>k L R
 | i::l,os,L,R,k=>match os with
  | []=>k L R
  | o::os=>uk T l os (.o (b8 T i)::L) (.o o::R) k
noncomputable def rY (T:ST):List Nat→List Nat→List Obj→List Sd→List Sd→List Sd × List Sd
 | [],_,_,L,R=>(L,R)
 | i::l,as,os,L,R=>match as with
  | []=>([.n 0],[])
  | a::as=>match os with
   | []=>([.n 0],[])
   | o::os=>rY T l as os (.o (b8 T i)::.n (aM T i)::L) (.o o::.n a::R)
noncomputable def iX (T:ST) (m₀:Nat):List Nat→Bool
 | []=>true
 | i::l=>match Nat.ble m₀ i with
  | false=>false
  | true=>match T.get i with
   | none=>false
   | some _=>iX T m₀ l
noncomputable def cq (D:RS) (τ:Nat→Nat) (ρ:Nat→Post):Option Out→List Sd × List Sd
 | none=>([.n 0],[])
 | some x=>match (match x.d with | true=>D.dy | false=>true) with
  | false=>([.n 0],[])
  | true=>match iX x.T (ag D.cells) D.bx with
   | false=>([.n 0],[])
   | true=>match cD D.bx with
    | false=>([.n 0],[])
    | true=>match cF (or 0 D.cells) (D.po (bz (aM x.T) D.bx) (bz τ D.tx) (b8 x.T) ρ) with
     | false=>([.n 0],[])
     | true=>match iX x.T 0 (or 0 D.cells) with
      | false=>([.n 0],[])
      | true=>uk x.T D.bx (D.nw (bz (aM x.T) D.bx) (bz τ D.tx)) x.L x.R fun L R=>rY x.T (or 0 D.cells) (cA D.cells) (D.po (bz (aM x.T) D.bx) (bz τ D.tx) (b8 x.T) ρ) (.r x.r::L) (.r (D.r (bz (aM x.T) D.bx) (bz τ D.tx))::R)
noncomputable def RS.start (D:RS):Sem Fin:=match D.tl with
 | none=>.pure (.again D.c)
 | some j=>dP D.c j
noncomputable def un (B:Base) (lb:List LibE) (cb:Bool) (ν τ:Nat→Nat) (υ:Nat→Nat→Value) (π:Nat→Pos) (ς:Array (Option Value)) (ρ:Nat→Post) (κc:Nat→Ct) (D:RS) (n hs:Nat) (us:List Use) (own:Option Value) (bl:List (Code × Pos)) (past:Option Value) (p:Pos):Option Out :=
 match nP .nil 0 D.cells with
 | some T=>s6 ⟨B.prog,B.w,B.kt,B.en,cb,ν,τ,υ,π,ς,D.dy,ρ,D.sh,κc,B.mn,lb⟩ n (D.start) hs us ⟨D.c,none,own,bl,past⟩ .base D.lv p D.di T (ag D.cells) 0 0 [] []
 | none=>none
noncomputable def RS.RunsL (B:Base) (lb:List LibE) (D:RS) (n hs:Nat) (us:List Use) (cb:Bool):Prop :=
 ∀ (ν τ:Nat→Nat) (υ:Nat→Nat→Value) (π:Nat→Pos) (ς:Array (Option Value)) (ρ:Nat→Post) (own past:Option Value) (κ:Nat→Ct) (bl:List (Code × Pos)) (p:Pos),
  (cq D τ ρ (un B lb cb ν τ υ π ς ρ κ D n hs us own bl past p)).1=(cq D τ ρ (un B lb cb ν τ υ π ς ρ κ D n hs us own bl past p)).2
noncomputable def RS.Runs2L (B:Base) (lb:List LibE) (D:RS) (n hs:Nat) (us:List Use) (cb:Bool):Prop :=
 ∀ (ν τ:Nat→Nat) (υ:Nat→Nat→Value) (π:Nat→Pos) (ς:Array (Option Value)) (ρ:Nat→Post) (own past:Option Value) (κ:Nat→Ct) (bl:List (Code × Pos)) (p:Pos),
  (cq D τ ρ (un B lb cb (fun k=>Nat.succ (Nat.succ (ν k))) τ υ π ς ρ κ D n hs us own bl past p)).1=(cq D τ ρ (un B lb cb (fun k=>Nat.succ (Nat.succ (ν k))) τ υ π ς ρ κ D n hs us own bl past p)).2
noncomputable def RS.RunL (B:Base) (lb:List LibE) (D:RS) (us:List Use):Prop:=∀ cb,∃ n hs,D.Runs2L B lb n hs us cb
theorem RS.RunL.one {B:Base} {lb:List LibE} {D:RS} {us:List Use} {n hs:Nat} (h:∀ cb,D.RunsL B lb n hs us cb):D.RunL B lb us:=fun cb=>⟨n,hs,fun ν=>h cb fun k=>Nat.succ (Nat.succ (ν k))⟩
theorem RS.RunL.one2 {B:Base} {lb:List LibE} {D:RS} {us:List Use} {n hs:Nat} (h:∀ cb,D.Runs2L B lb n hs us cb):D.RunL B lb us:=fun cb=>⟨n,hs,h cb⟩
theorem ib {α:Type}:∀ l:List α,ag l=l.length
 | []=>rfl
 | _::l=>by simp only [ag,List.length_cons]; rw [ib l]
theorem dI {l:List Cell} {c:Cell} (h:c∈l):(c.a,c.o)∈bX l:=by
 induction l with
 | nil=>exact nomatch h
 | cons d l ih =>
  show (c.a,c.o)∈(d.a,d.o)::bX l
  cases h with
  | head=>exact List.mem_cons_self
  | tail _ h=>exact List.mem_cons_of_mem _ (ih h)
theorem sC {l:List Cell} {c:Cell} (h:c∈l) (hm:c.mu=true):c.a∈cA l:=by
 induction l with
 | nil=>exact nomatch h
 | cons d l ih =>
  unfold cA
  cases h with
  | head=>rw [hm]; exact List.mem_cons_self
  | tail _ h =>
   cases d.mu with
   | true=>exact List.mem_cons_of_mem _ (ih h)
   | false=>exact ih h
theorem g8:∀ l:List Cell,(bX l).map (·.1)=l.map (·.a)
 | []=>rfl
 | c::l=>by simp only [bX,List.map_cons]; rw [g8 l]
theorem ja:∀ {l:List Cell} {T T':ST} {m:Nat},nP T m l=some T'→∀ i c,T'.get i=some c→(T.get i=some c∧(i<m∨m+l.length≤i))∨∃ j,i=m+j∧l[j]?=some c
 | [],T,T',m,h,i,c,hc=>by
  simp only [nP,Option.some.injEq] at h
  subst h
  exact .inl ⟨hc,by simp only [List.length_nil]; omega⟩
 | d::l,T,T',m,h,i,c,hc=>by
  simp only [nP] at h
  cases e:(T.ins m d).get m with
  | none=>rw [e] at h; cases h
  | some x =>
   rw [e] at h
   rcases ja h i c hc with ⟨h1,h2⟩ | ⟨j,h1,h2⟩
   ·rw [ST.get_ins _ _ _ (by rw [e]; rfl)] at h1
    by_cases q:i=m
    ·rw [if_pos q] at h1
     cases h1
     exact .inr ⟨0,by omega,by simp⟩
    ·rw [if_neg q] at h1
     exact .inl ⟨h1,by simp only [List.length_cons]; omega⟩
   ·exact .inr ⟨j+1,by omega,by simpa using h2⟩
theorem fs:∀ {l:List Cell} {i:Nat},(or i l).length=(cA l).length
 | [],_=>rfl
 | c::l,i=>by
  simp only [or,cA]
  cases c.mu with
  | true=>simp only [List.length_cons]; rw [fs]
  | false=>exact fs
theorem lU {f:Nat→Nat}:∀ {l:List Nat} {j a:Nat},(bz f l)[j]?=some a→∃ i,l[j]?=some i∧a=f i
 | [],j,a,h=>by simp [bz] at h
 | i::l,0,a,h=>by simp only [bz,List.getElem?_cons_zero,Option.some.injEq] at h; exact ⟨i,by simp,h.symm⟩
 | i::l,j+1,a,h=>by simp only [bz,List.getElem?_cons_succ] at h; obtain ⟨k,h1,h2⟩:=lU h; exact ⟨k,by simpa using h1,h2⟩
theorem fz {f:Nat→Nat}:∀ {l:List Nat},(bz f l).length=ag l
 | []=>rfl
 | _::l=>by simp only [bz,List.length_cons,ag]; rw [fz]
theorem fM {f:Nat→Nat}:∀ {l:List Nat} {a:Nat},a∈bz f l→∃ i,i∈l∧a=f i
 | i::l,a,h=>by
  rcases List.mem_cons.mp h with rfl | h
  ·exact ⟨i,.head _,rfl⟩
  ·obtain ⟨k,h1,h2⟩:=fM h; exact ⟨k,.tail _ h1,h2⟩
theorem e8 {T:ST} {m₀:Nat}:∀ {l:List Nat},iX T m₀ l=true→∀ i,i∈l→m₀≤i∧∃ c,T.get i=some c
 | j::l,h,i,hi=>by
  unfold iX at h
  cases q:Nat.ble m₀ j with
  | false=>rw [q] at h; cases h
  | true =>
   rw [q] at h
   simp only at h
   cases e:T.get j with
   | none=>rw [e] at h; cases h
   | some c =>
    rw [e] at h
    rcases List.mem_cons.mp hi with rfl | hi
    ·exact ⟨Nat.le_of_ble_eq_true q,c,e⟩
    ·exact e8 h i hi
theorem m0 {T:ST} {k:List Sd→List Sd→List Sd × List Sd}:∀ {l:List Nat} {os:List Obj} {L R:List Sd},(uk T l os L R k).1=(uk T l os L R k).2 →
 ∃ L' R',(k L' R').1=(k L' R').2∧(L'=R'→L=R∧∀ (q j:Nat) (o:Obj),l[q]?=some j→os[q]?=some o→b8 T j=o)
 | [],os,L,R,h=>⟨L,R,h,fun e=>⟨e,fun q j o hq=>by simp at hq⟩⟩
 | i::l,[],L,R,h=>⟨L,R,h,fun e=>⟨e,fun q j o _ hx=>by simp at hx⟩⟩
 | i::l,o::os,L,R,h=>by
  obtain ⟨L',R',h1,h2⟩:=m0 (l:=l) (os:=os) (L:=.o (b8 T i)::L) (R:=.o o::R) h
  refine ⟨L',R',h1,fun e=>?_⟩
  obtain ⟨h3,h4⟩:=h2 e
  simp only [List.cons.injEq,Sd.o.injEq] at h3
  refine ⟨h3.2,fun q j x hq hx=>?_⟩
  cases q with
  | zero =>
   simp only [List.getElem?_cons_zero,Option.some.injEq] at hq hx
   rw [← hq,←hx]; exact h3.1
  | succ q=>exact h4 q j x (by simpa using hq) (by simpa using hx)
theorem mH {T:ST}:∀ {l as:List Nat} {os:List Obj} {L R:List Sd},l.length=os.length→l.length=as.length→(rY T l as os L R).1=(rY T l as os L R).2 →
 L=R∧∀ (q j a:Nat) (o:Obj),l[q]?=some j→as[q]?=some a→os[q]?=some o→b8 T j=o∧aM T j=a
 | [],as,os,L,R,_,_,h=>⟨h,fun q j a o hq=>by simp at hq⟩
 | i::l,[],_,_,_,_,hl,_=>by simp at hl
 | i::l,_::_,[],_,_,hl,_,_=>by simp at hl
 | i::l,a::as,o::os,L,R,hl,hl',h=>by
  obtain ⟨h1,h2⟩:=mH (l:=l) (as:=as) (os:=os) (L:=.o (b8 T i)::.n (aM T i)::L) (R:=.o o::.n a::R) (by simpa using hl) (by simpa using hl') h
  simp only [List.cons.injEq,Sd.o.injEq,Sd.n.injEq] at h1
  refine ⟨h1.2.2,fun q j b x hq ha hx=>?_⟩
  cases q with
  | zero =>
   simp only [List.getElem?_cons_zero,Option.some.injEq] at hq hx ha
   rw [← hq,←hx,←ha]; exact ⟨h1.1,h1.2.1⟩
  | succ q=>exact h2 q j b x (by simpa using hq) (by simpa using ha) (by simpa using hx)
theorem gb {T:ST} (inj:∀ i j c d,T.get i=some c→T.get j=some d→c.a=d.a→i=j):∀ {l:List Nat},(∀ i,i∈l→∃ c,T.get i=some c)→l.Nodup→(bz (aM T) l).Nodup
 | [],_,_=>List.nodup_nil
 | i::l,h,hn=>by
  obtain ⟨h1,h2⟩:=List.nodup_cons.mp hn
  refine List.nodup_cons.mpr ⟨fun hm=>?_,gb inj (fun j hj=>h j (.tail _ hj)) h2⟩
  obtain ⟨j,hj,e⟩:=fM hm
  obtain ⟨c,hc⟩:=h i (.head _)
  obtain ⟨d,hd⟩:=h j (.tail _ hj)
  have:i=j:=inj i j c d hc hd (by simpa only [aM,hc,hd] using e)
  exact h1 (this▸hj)
theorem RS.wpL {B:Base} (O:B.Ok) {lb:List LibE} (hlb:∀ e:LibE,e∈lb→∀ c cs ms,(e.S c cs ms).Holds B) {D:RS} {us:List Use} (hus:∀ u:Use,u∈us→∀ A tk O ρs,bI B u.tl (u.S A tk O ρs)) (H:D.RunL B lb us)
 {Γ:Ctx} {p:Pos} {s:Shared} {R:Result→Shared→Prop} (ok:D.S.Ok B Γ s) (k:∀ ob q s' bs ts,After B (D.SO ob q) s s' bs ts→R (D.r bs ts) s'):A4 B R Γ .base D.start p s:=by
 obtain ⟨hc,hh,hsh,hb,ht,hst,hpre,hnd⟩:=ok
 obtain ⟨code,handled,own,below,past⟩:=Γ
 obtain rfl:code=D.c:=hc
 obtain rfl:handled=none:=hh
 obtain ⟨κ,hκ⟩:∃ κ,D.sh≠[]→∃ l,l∈D.sh∧eu l 0 κ=below:=by
  cases hs:D.sh with
  | nil=>exact ⟨fun _=>⟨[],[],default,.none,.none,{},default,default,default,0,[],[],default⟩,fun h=>absurd rfl h⟩
  | cons a r =>
   have:k7 (a::r) below=true:=by
    have:=hsh
    simp only [RS.S,RS.SO,hs,fH] at this
    exact this
   obtain ⟨l,hl,hf⟩:=hP this
   obtain ⟨κ,h⟩:=dK 0 hf
   exact ⟨κ,fun _=>⟨l,hl,h⟩⟩
 let cb:=B.w.params.followText rR
 obtain ⟨n,hs,H⟩:=H cb
 have G:∀ (ν τ:Nat→Nat) υ π ς ρ,(cq D τ ρ (un B lb cb (fun k=>Nat.succ (Nat.succ (ν k))) τ υ π ς ρ κ D n hs us own below past p)).1=(cq D τ ρ (un B lb cb (fun k=>Nat.succ (Nat.succ (ν k))) τ υ π ς ρ κ D n hs us own below past p)).2:=fun ν τ υ π ς ρ=>by
  have:=H ν τ υ π ς ρ own past κ below p
  exact this
 cases hT:nP .nil 0 D.cells with
 | none =>
  have:=G (fun _=>0) (fun _=>0) (fun _ _=>.none) (fun _=>default) #[] (fun _=>Post.zero)
  unfold un at this
  rw [hT] at this
  cases this
 | some T =>
  let X:=cA D.cells
  let Fin:fZ:=fun ν τ x=>(x.d=true→D.dy=true)∧iX x.T (ag D.cells) D.bx=true∧cD D.bx=true ∧
   x.r=D.r (bz (aM x.T) D.bx) (bz τ D.tx) ∧
   iX x.T 0 (or 0 D.cells)=true∧(∀ (q j a:Nat) (o:Obj),(or 0 D.cells)[q]?=some j→(cA D.cells)[q]?=some a→(D.po (bz (aM x.T) D.bx) (bz τ D.tx) (b8 x.T) (fun k=>(ν k).q))[q]?=some o→b8 x.T j=o∧aM x.T j=a) ∧
   (∀ (q j:Nat) (o:Obj),D.bx[q]?=some j→(D.nw (bz (aM x.T) D.bx) (bz τ D.tx))[q]?=some o→b8 x.T j=o)
  have D0:Rep B s D.cells.length X D.di T D.cells.length s:=by
   have at_:∀ i c,T.get i=some c→D.cells[i]?=some c:=fun i c h=>by
    rcases ja hT i c h with ⟨h1,_⟩ | ⟨j,h1,h2⟩
    ·simp [ST.get] at h1
    ·obtain rfl:i=j:=by omega
     exact h2
   refine ⟨fun i c h=>?_,fun i j c d h1 h2 e=>?_,ht,fun _ _ h _=>.inl h,Nat.le_refl _,rfl,rfl,Nat.le_refl _⟩
   ·have h1:=at_ i c h
    have hm:=List.mem_of_getElem? h1
    obtain ⟨q1,q2⟩:=hpre _ (dI hm)
    refine ⟨(List.getElem?_eq_some_iff.mp h1).1,q1,q2,fun hmu=>.inl (sC hm hmu),fun hi=>?_⟩
    exact absurd (List.getElem?_eq_some_iff.mp h1).1 (Nat.not_lt.mpr hi)
   ·have h1:=at_ i c h1
    have h2:=at_ j d h2
    have hnd':(D.cells.map (·.a)).Nodup:=by rw [← g8]; exact hnd
    obtain ⟨l1,g1⟩:=List.getElem?_eq_some_iff.mp h1
    obtain ⟨l2,g2⟩:=List.getElem?_eq_some_iff.mp h2
    have hne:=List.pairwise_iff_getElem.mp hnd'
    have e1:(D.cells.map (·.a))[i]'(by simpa using l1)=c.a:=by simp [g1]
    have e2:(D.cells.map (·.a))[j]'(by simpa using l2)=d.a:=by simp [g2]
    rcases Nat.lt_trichotomy i j with q | q | q
    ·exact absurd (e1.trans (e.trans e2.symm)) (hne i j (by simpa using l1) (by simpa using l2) q)
    ·exact q
    ·exact absurd (e2.trans (e.symm.trans e1.symm)) (hne j i (by simpa using l2) (by simpa using l1) q)
  have good:∀ ς ν τ,p9 Fin ν τ (l7 (B.V lb D.dy D.sh κ ς ν τ) n hs us ⟨D.c,none,own,below,past⟩ .base D.lv D.start p D.di T D.cells.length 0 0 [] []):=fun ς ν τ=>by
   have e:=G (fun k=>(ν k).a - 2) τ (fun k=>(ν k).v) (fun k=>(ν k).p) ς (fun k=>(ν k).q)
   have hg:un B lb cb (fun k=>Nat.succ (Nat.succ ((ν k).a - 2))) τ (fun k=>(ν k).v) (fun k=>(ν k).p) ς (fun k=>(ν k).q) κ D n hs us own below past p=l7 (B.V lb D.dy D.sh κ ς ν τ) n hs us ⟨D.c,none,own,below,past⟩ .base D.lv D.start p D.di T D.cells.length 0 0 [] []:=by
    unfold un
    simp only [hT,ib,m3]
    rfl
   rw [hg] at e
   cases hx:l7 (B.V lb D.dy D.sh κ ς ν τ) n hs us ⟨D.c,none,own,below,past⟩ .base D.lv D.start p D.di T D.cells.length 0 0 [] [] with
   | none=>rw [hx] at e; cases e
   | some x =>
    rw [hx] at e
    unfold cq at e
    simp only at e
    cases h0:(match x.d with | true=>D.dy | false=>true) with
    | false=>rw [h0] at e; simp at e
    | true =>
    rw [h0] at e
    simp only at e
    cases h1:iX x.T (ag D.cells) D.bx with
    | false=>rw [h1] at e; simp at e
    | true =>
     rw [h1] at e
     simp only at e
     cases h2:cD D.bx with
     | false=>rw [h2] at e; simp at e
     | true =>
      rw [h2] at e
      simp only at e
      cases h3:cF (or 0 D.cells) (D.po (bz (aM x.T) D.bx) (bz τ D.tx) (b8 x.T) (fun k=>(ν k).q)) with
      | false=>rw [h3] at e; simp at e
      | true =>
       rw [h3] at e
       simp only at e
       cases h5:iX x.T 0 (or 0 D.cells) with
       | false=>rw [h5] at e; simp at e
       | true =>
       rw [h5] at e
       simp only at e
       obtain ⟨L',R',e1,e2⟩:=m0 e
       obtain ⟨e3,e4⟩:=mH (bA h3) fs e1
       simp only [List.cons.injEq,Sd.r.injEq] at e3
       obtain ⟨e5,e6⟩:=e2 e3.2
       exact ⟨x,rfl,e5,(fun hd=>by rw [hd] at h0; exact h0),h1,h2,e3.1,h5,e4,e6⟩
  ·show A4 B R ⟨D.c,none,own,below,past⟩ .base D.start p s
   refine i8 O (dy:=D.dy) (s₀:=s) (m₀:=D.cells.length) (X:=X) (bl:=below) (shs:=D.sh) (κc:=κ) ⟨hκ,fun h=>(hst h).1,fun h=>(hst h).2⟩ (Fin:=Fin) (R:=R) ?_ hlb n hs us ⟨D.c,none,own,below,past⟩ .base D.lv D.start p D.di T D.cells.length 0 0 (fun _=>[]) (fun _=>⟨0,fun _=>.none,default,Post.zero⟩) (fun _=>0) s hus hb rfl D0 (fun ς ν τ _ _=>good ς ν τ)
   rintro ν τ x m s' ⟨f0,f1,f2,f3,f7,f5,f6⟩ E
   have up:∀ {a o},cP x.d s'.heap a o→cP D.S.dy s'.heap a o:=fun z=>z.map (d':=false) f0 (fun h=>by cases h) fun _ y=>.inl y
   have hc1:=e8 f1
   have hlen:ag D.cells=D.cells.length:=ib _
   have cellAt:∀ i,i∈D.bx→∃ c,x.T.get i=some c:=fun i hi=>(hc1 i hi).2
   rw [f3]
   refine k (b8 x.T) (fun k=>(ν k).q) s' (bz (aM x.T) D.bx) (bz τ D.tx) ⟨E.top,fun a o h1 h2=>up (E.keep a o h1 h2),E.size,E.gens,E.os,fun q a o h1 h2=>?_,fun q a o h1 h2=>?_,fun a ha=>?_,gb E.inj cellAt (cv f2),fz,fz⟩
   ·have hq:q<(or 0 D.cells).length:=by rw [fs]; exact (List.getElem?_eq_some_iff.mp h1).1
    have g:=List.getElem?_eq_getElem hq
    obtain ⟨e,ea⟩:=f5 q _ a o g h1 h2
    obtain ⟨c,hcell⟩:=(e8 f7 _ (List.mem_of_getElem? g)).2
    simp only [b8,aM,hcell] at e ea
    have:=(E.own _ c hcell).2.1
    rw [ea,e] at this
    exact up this
   ·obtain ⟨i,hi,rfl⟩:=lU h1
    have e:=f6 q i o hi h2
    obtain ⟨c,hcell⟩:=cellAt i (List.mem_of_getElem? hi)
    simp only [b8,hcell] at e
    simp only [aM,hcell]
    rw [← e]
    exact up (E.own _ c hcell).2.1
   ·obtain ⟨i,hi,rfl⟩:=fM ha
    obtain ⟨c,hcell⟩:=cellAt i hi
    simp only [aM,hcell]
    exact (E.own _ c hcell).2.2.2.2 (hlen▸(hc1 i hi).1)
theorem RS.wpcL {B:Base} (O:B.Ok) {lb:List LibE} (hlb:∀ e:LibE,e∈lb→∀ c cs ms,(e.S c cs ms).Holds B) {D:RS} {us:List Use} (hus:∀ u:Use,u∈us→∀ A tk O ρs,bI B u.tl (u.S A tk O ρs)) (htl:D.tl=none) (H:D.RunL B lb us)
 {Γ:Ctx} {p:Pos} {s:Shared} {R:Result→Shared→Prop} (ok:D.S.Ok B Γ s) (k:∀ ob q s' bs ts,After B (D.SO ob q) s s' bs ts→R (D.r bs ts) s'):wpCode B.M Γ R p s:=by
 have W:=RS.wpL O hlb hus H (p:=p) ok k
 have e:D.start=.pure (.again D.c):=by unfold RS.start; rw [htl]
 rw [e] at W
 have W:da B s∧Sem.finPost B.M Γ R (.again D.c) p s:=W
 have h:wpCode B.M (Γ.goto D.c) R p s:=W.2.2
 have:Γ.goto D.c=Γ:=by
  have:=ok.code
  obtain ⟨code,_,_,_,_⟩:=Γ
  obtain rfl:code=D.c:=this
  rfl
 rw [this] at h
 exact h
theorem RS.holdsL {B:Base} (O:B.Ok) {lb:List LibE} (hlb:∀ e:LibE,e∈lb→∀ c cs ms,(e.S c cs ms).Holds B) {D:RS} {us:List Use} (hus:∀ u:Use,u∈us→∀ A tk O ρs,bI B u.tl (u.S A tk O ρs)) (htl:D.tl=none) (hcl:∀ ob q,D.SO ob q=D.S) (H:D.RunL B lb us):D.S.Holds B :=
 fun _ _ _ _ ok k=>RS.wpcL O hlb hus htl H ok fun ob q s' bs ts A=>k s' bs ts (hcl ob q▸A)
theorem RS.holdsEL {B:Base} (O:B.Ok) {lb:List LibE} (hlb:∀ e:LibE,e∈lb→∀ c cs ms,(e.S c cs ms).Holds B) {D:RS} {us:List Use} (hus:∀ u:Use,u∈us→∀ A tk O ρs,bI B u.tl (u.S A tk O ρs)) (htl:D.tl=none) (H:D.RunL B lb us) (S:Post→Spec)
 (ok:∀ ρ Γ s,(S ρ).Ok B Γ s→D.S.Ok B Γ s) (af:∀ ob q s s' bs ts,After B (D.SO ob q) s s' bs ts→∃ ρ bs' ts',After B (S ρ) s s' bs' ts'∧(S ρ).r bs' ts'=D.r bs ts):Spec.HoldsE B S :=
 fun _ _ _ _ ρ₀ o k=>RS.wpcL O hlb hus htl H (ok ρ₀ _ _ o) fun ob q s' bs ts A=>by
  obtain ⟨ρ,bs',ts',A',e⟩:=af ob q _ s' bs ts A
  rw [← e]
  exact k ρ s' bs' ts' A'
theorem RS.holdsTL {B:Base} (O:B.Ok) {lb:List LibE} (hlb:∀ e:LibE,e∈lb→∀ c cs ms,(e.S c cs ms).Holds B) {D:RS} {j:Nat} {us:List Use} (hus:∀ u:Use,u∈us→∀ A tk O ρs,bI B u.tl (u.S A tk O ρs)) (htl:D.tl=some j) (H:D.RunL B lb us) (S:Post→Spec)
 (ok:∀ ρ Γ s,(S ρ).Ok B Γ s→D.S.Ok B Γ s) (af:∀ ob q s s' bs ts,After B (D.SO ob q) s s' bs ts→∃ ρ bs' ts',After B (S ρ) s s' bs' ts'∧(S ρ).r bs' ts'=D.r bs ts):Spec.HoldsT B j S:=by
 intro Γ p s R ρ₀ o k
 have ok':D.S.Ok B Γ s:=ok ρ₀ _ _ o
 have W:=RS.wpL O hlb hus H (p:=p) ok' fun ob q s' bs ts A=>by
  obtain ⟨ρ,bs',ts',A',e⟩:=af ob q _ s' bs ts A
  rw [← e]
  exact k ρ s' bs' ts' A'
 have e:D.start=dP Γ.code j:=by unfold RS.start; rw [htl,show Γ.code=D.c from ok'.code]
 rw [e] at W
 exact W
noncomputable def RS.Runs (B:Base) (D:RS) (n hs:Nat) (us:List Use) (cb:Bool):Prop:=D.RunsL B [] n hs us cb
noncomputable def RS.Runs2 (B:Base) (D:RS) (n hs:Nat) (us:List Use) (cb:Bool):Prop:=D.Runs2L B [] n hs us cb
noncomputable def RS.Run (B:Base) (D:RS) (us:List Use):Prop:=D.RunL B [] us
theorem RS.Run.one {B:Base} {D:RS} {us:List Use} {n hs:Nat} (h:∀ cb,D.Runs B n hs us cb):D.Run B us:=RS.RunL.one h
theorem RS.Run.one2 {B:Base} {D:RS} {us:List Use} {n hs:Nat} (h:∀ cb,D.Runs2 B n hs us cb):D.Run B us:=RS.RunL.one2 h
theorem pY {B:Base}:∀ e:LibE,e∈([]:List LibE)→∀ c cs ms,(e.S c cs ms).Holds B:=fun _ h=>absurd h List.not_mem_nil
theorem RS.holds {B:Base} (O:B.Ok) {D:RS} {us:List Use} (hus:∀ u:Use,u∈us→∀ A tk O ρs,bI B u.tl (u.S A tk O ρs)) (htl:D.tl=none) (hcl:∀ ob q,D.SO ob q=D.S) (H:D.Run B us):D.S.Holds B:=RS.holdsL O pY hus htl hcl H
noncomputable def cs:List Nat → Nat
 | []=>1
 | a::l=>match l with
  | []=>a
  | _::_=>cs l*2^a.log2+a%2^a.log2
noncomputable def ce (l:List Nat):Nat:=cs l%2^(cs l).log2
noncomputable def ae:=1048576
noncomputable def av:=cs [ae,ae]
noncomputable def aw:=cs [ae,1024]
noncomputable def j7:=cs [av,av]
noncomputable def ax:=cs [1025,ae]
noncomputable def bB:=1050624
noncomputable def ai:=cs [1049600,ae]
noncomputable def aj:=1048577
noncomputable def dJ:=1080047616
noncomputable def aZ:=cs [1041,aw,1041,aw,1041,av,1068049]
noncomputable def bb:=cs [1027,aw,1027,aw,1027,av,1053699]
noncomputable def c6:=cs [av,ae]
noncomputable def oB:=1099547279394
noncomputable def br:=cs [1027,av,1027,aw,1104880339971]
noncomputable def b7:=cs [av,1024]
noncomputable def bj:=cs [1025,aw]
noncomputable def gL:=cs [j7,j7]
noncomputable def li:=cs [1033,aw,1033,aw,1033,av,1059849]
noncomputable def h8:=cs [1037,aw,1037,aw,1037,av,1037]
noncomputable def dj:=cs [dJ,dJ]
noncomputable def c5:=cs [1025,av]
noncomputable def bF:=cs [br,li]
noncomputable def ek:=cs [bB,bB]
noncomputable def iJ:=0x1004000040100401
noncomputable def ge:=1099576639550
noncomputable def ke:=cs [ae,1026]
noncomputable def fe:=1081089031
noncomputable def iU:=0x10a82a0002a0002a
noncomputable def lP:=1099534696470
noncomputable def cQ:=cs [av,ax]
noncomputable def wA:=0x40c068180681a0001a
noncomputable def kE:=1099530502162
noncomputable def lu:=1099574542396
noncomputable def gE:=1216348296
noncomputable def ec:=cs [ae,1038]
noncomputable def gJ:=cs [dJ,1062912]
noncomputable def im:=1097908224
noncomputable def lg:=1073764398
noncomputable def iG:=cs [1083426,oB,1058]
noncomputable def zM:=0x1068360d0360d8000d800
noncomputable def iM:=0x414000140001405014
noncomputable def iw:=1073776710
noncomputable def dD:=1088436224
noncomputable def kC:=0x1000110900004424
noncomputable def ql:=0x49e2780027800
noncomputable def ku:=cs [1037,av,1037,aw,1061901]
noncomputable def gR:=cs [ae,ax]
noncomputable def gv:=1159895040
noncomputable def kz:=1239496862
noncomputable def qR:=1099599708244
noncomputable def mZ:=1243533541510
noncomputable def qC:=1142503243816
noncomputable def ra:=cs [ax,1054734]
noncomputable def k9:=1073796204
noncomputable def l4:=cs [gv,gv]
noncomputable def iF:=1140983808
noncomputable def jB:=cs [k9,k9]
noncomputable def qx:=0x1000640006419064
noncomputable def kq:=cs [dj,1062912]
noncomputable def gD:=1126275072
noncomputable def rH:=0x1000440004411044
noncomputable def kR:=1132578816
noncomputable def nX:=0x4661980019800
noncomputable def zr:=cs [0x41e0f83a0f83e,ge]
noncomputable def mW:=0x1000080000802008
noncomputable def iq:=0x4802000020000
noncomputable def jd:=0x44e0004e0004e
noncomputable def o7:=0x4561580015800
noncomputable def dF:=0x40c0000c0000c0300c
noncomputable def ki:=cs [1048710,mZ,1143085188]
noncomputable def jp:=cs [1049600,aw]
noncomputable def jT:=cs [lg,lg]
noncomputable def eH:=cs [iJ,1024]
noncomputable def cR:=cs [1076889602,ae]
noncomputable def iy:=cs [h8,1034]
noncomputable def kl:=0x1098260002600026
noncomputable def iK:=1073801334
noncomputable def fq:=cs [1075841026,ek]
noncomputable def j9:=1270874300
noncomputable def dz:=cs [gL,gL]
noncomputable def kP:=0x40e0781c0781e0001e0001e
noncomputable def mQ:=0x41c0001c0001c
noncomputable def eZ:=cs [1068,ae]
noncomputable def kS:=0x10c062180621880018800
noncomputable def lI:=cs [iF,iF]
noncomputable def o8:=cs [1048712,gE,1160]
noncomputable def kM:=0x46a1a8001a800
noncomputable def nQ:=cs [ae,1050626]
noncomputable def wk:=cs [1083426,oB,1048610]
noncomputable def iz:=cs [j7,ae]
noncomputable def su:=cs [ql,1180,kz]
noncomputable def kA:=cs [1110076,lu]
noncomputable def oD:=1099635359862
noncomputable def rJ:=cs [iq,1139933308]
noncomputable def fv:=cs [j7,av]
noncomputable def iO:=0x418000180001806018
noncomputable def km:=cs [av,aw]
noncomputable def jS:=0x404000040000401004
noncomputable def nF:=cs [kR,kR]
noncomputable def nD:=0x100074000741d074
noncomputable def ny:=cs [ra,dJ]
noncomputable def o5:=0x11304c0004c0004c
noncomputable def pc:=0x4562b8ac2b8ae000ae
noncomputable def dg:=cs [iM,ax]
noncomputable def ez:=cs [ax,ax]
noncomputable def iI:=cs [rH,1092]
noncomputable def ln:=1075841024
noncomputable def iR:=1073781840
noncomputable def wB:=cs [1107035167751,ae]
noncomputable def la:=1073789022
noncomputable def yA:=cs [1059,ae,1059,ax]
noncomputable def xw:=0x43c1e8011e87a0007a
noncomputable def gH:=cs [ae,1056]
noncomputable def lL:=1224809616
noncomputable def db:=cs [dJ,1038]
noncomputable def n1:=0x10004a0004a1284a
noncomputable def dk:=0x426000260002609826
noncomputable def q9:=cs [1058838,lP,1071126]
noncomputable def dd:=1143034881
noncomputable def lQ:=1163962454
noncomputable def fD:=1139933184
noncomputable def om:=0x10c0620003018800
noncomputable def Dm:=0x42312028120480004800048
noncomputable def uE:=cs [0x401000010000100401,br]
noncomputable def gw:=1073790048
noncomputable def ff:=1101060096
noncomputable def uq:=0x410000100001004010
noncomputable def n7:=1099733926100
noncomputable def kh:=1119879212
noncomputable def kO:=0x10005028800140a2
noncomputable def yq:=0x10b05a0045a1680016800
noncomputable def iD:=cs [dJ,1062926]
noncomputable def ei:=cs [j7,b7]
noncomputable def pM:=1262879768728
noncomputable def tQ:=cs [1209085827172,nX]
noncomputable def fb:=cs [ax,1028]
noncomputable def jt:=1073798256
noncomputable def sG:=0x1177ff0003a0fc40
noncomputable def n4:=cs [bB,ae]
noncomputable def oN:=cs [kC,1138166350884]
noncomputable def p4:=1114544090112
noncomputable def g6:=cs [j7,aw]
noncomputable def nL:=0x10d0340003400034
noncomputable def lJ:=1101661210624
noncomputable def lK:=0x1000572c00015cb0
noncomputable def cY:=cs [1086540,o5]
noncomputable def mO:=cs [im,im]
noncomputable def kf:=1073771580
noncomputable def rz:=cs [Dm,0x11301e0002513000]
noncomputable def s0:=cs [ae,0x10004a0904a0004a]
noncomputable def iP:=1260478642
noncomputable def iW:=1099717148868
noncomputable def C3:=cs [wA,1048602,wA,1048602,wA,1054]
noncomputable def hJ:=1083180084
noncomputable def kN:=1282225995946
noncomputable def gO:=cs [1026,ae]
noncomputable def sW:=cs [1061916,mQ,1052]
noncomputable def lB:=cs [fe,1029,ae]
noncomputable def lG:=cs [1045,ae,1045,ax]
noncomputable def f8:=cs [1050,av,1050,aw,1129576425498]
noncomputable def pR:=1099626971246
noncomputable def py:=cs [1041,av,1041,aw,1073759249]
noncomputable def lp:=1277926834342
noncomputable def pI:=cs [pM,1152540822]
noncomputable def kr:=0x406000060000601806
noncomputable def fE:=cs [ax,1038]
noncomputable def rc:=0x10000c068000301a
noncomputable def iH:=1102110720
noncomputable def lm:=1215588991084
noncomputable def dc:=cs [ax,1132]
noncomputable def l6:=1073783892
noncomputable def x7:=cs [kE,0x4080480104812]
noncomputable def gS:=cs [1071126,lP,1046]
noncomputable def l5:=1099597652050
noncomputable def pf:=0x10002c168000b05a
noncomputable def kW:=1099629068400
noncomputable def xx:=cs [1102,c6,1102,ae,1155530830,b7]
noncomputable def jH:=cs [1169526,oD,1142]
noncomputable def j2:=1142034432
noncomputable def wo:=cs [1212,c6,1212,ae,j9,b7]
noncomputable def yo:=cs [aZ,1138,qx,1048676]
noncomputable def zW:=0x400128960004a2580012896
noncomputable def oo:=cs [1128526,jd]
noncomputable def gt:=0x10003a0003a0e83a
noncomputable def jf:=1073743878
noncomputable def nT:=0x40a0000a0000a0280a
noncomputable def sk:=0x1140500005000050
noncomputable def jz:=cs [ku,1058816]
noncomputable def rN:=cs [1226928,av,1198,c6,1284195399854]
noncomputable def jC:=1073763372
noncomputable def uD:=cs [1212578,av,1184,c6,1269162999968]
noncomputable def xm:=cs [1080039430,aj,1030]
noncomputable def ni:=1133871398912
noncomputable def zA:=cs [1060882,av,1036,aw,1114544025612]
noncomputable def e7:=cs [1047,ae,1047,ax]
noncomputable def tB:=cs [kl,0x112c00088200002a0502a000120981a,gH,0x10002804c2800028000200004b00024]
noncomputable def yw:=0x106836018360d8000d800
noncomputable def yi:=0x1024140481405000
noncomputable def n0:=0x1000420004210842
noncomputable def jV:=cs [dz,1024]
noncomputable def ew:=cs [fe,1030,ae]
noncomputable def zu:=cs [ki,0x48a0004422800,ai]
noncomputable def sp:=0x100045230001148c
noncomputable def kj:=1099683594404
noncomputable def AT:=cs [qC,0x4000a0130a001,qC,0x4000a0130a001,qC,0x10901209811090000b0130a001,bb,1085478,ai,jT,lg,1070,br,1070]
noncomputable def j4:=cs [1032,ae]
noncomputable def sm:=cs [1134676,qR,1108]
noncomputable def g4:=cs [mW,1032]
noncomputable def ua:=cs [ny,ec,bB,1098932248,aj,0x4000681a00018,C3,dj,1115725864,aj,1117782056,iU,1094756392,iU,1094756392,iU,1148924766248,kq,av,bB,gJ,bB,gJ,bB,1038,uE,1155400781824,aj,1157550309428,zM,1078,zM,1078,zM,1082,dJ,1088429072]
noncomputable def gG:=1135730688
noncomputable def kK:=1073777736
noncomputable def jk:=cs [1142,ae]
noncomputable def ul:=cs [kN,0x4002a8542a8a8]
noncomputable def iE:=1073761320
noncomputable def E6:=cs [bB,uq,aw,kE,1048594]
noncomputable def xF:=cs [1048638,zr,zr,zr,0x11081e0f83a0f83e,mO,im,1072,bF,1072,wk,1078985780,im,1072,dF,ax,1074,aZ,1072,iG,1072,bb,1124122672,ai,0x4211100008444000211100008444,ae,0x4441104411044,ai,iw,iw,iw,1094,ax,1094]
noncomputable def Dn:=cs [ek,h8,1050632,ek,ke,ln,1124352,bB]
noncomputable def oA:=cs [1090644,qR,1134676]
noncomputable def uu:=0x4381c8701c8720007200072
noncomputable def oS:=cs [ec,b7]
noncomputable def nJ:=1355062425600
noncomputable def w2:=0x1170000b45c0002d170000b45c
noncomputable def lr:=cs [c5,ax]
noncomputable def jO:=1254097068
noncomputable def wr:=cs [0x1230902400024000,lL]
noncomputable def mR:=cs [ek,ln,1050626,n4,1082132486,py,1054739,nT,ae,0x4040040400004]
noncomputable def pA:=cs [1125376,gR]
noncomputable def oX:=cs [1112126,ge,1086]
noncomputable def zK:=cs [la,la,la]
noncomputable def nc:=0x424128481284a0004a0004a
noncomputable def gP:=1073792100
noncomputable def y8:=cs [av,eZ,kh,aw,eZ]
noncomputable def of:=0x1190640006400064
noncomputable def mP:=cs [1128448,ae]
noncomputable def kb:=cs [iG,ax]
noncomputable def n6:=cs [ae,ai]
noncomputable def nI:=cs [1087566,jd,1102]
noncomputable def vX:=0x1148000a05200028148000a052
noncomputable def zE:=0x1158000a8560002a158000a856
noncomputable def mS:=cs [oB,1083426]
noncomputable def iC:=1074839552
noncomputable def kL:=cs [ua,bj,1038,p4,dJ,dD]
noncomputable def qu:=cs [1040,iy,1042]
noncomputable def re:=1099777966334
noncomputable def w8:=cs [0x403008210801f07806,dD,ai,kK,1084488,aw,1096,fv,1176896572488,km,1149275208,gR]
noncomputable def pP:=0x10002408822150011184a11801
noncomputable def oP:=cs [1077939202,ae]
noncomputable def mY:=0x1000940009425094
noncomputable def gC:=cs [av,bj]
noncomputable def u6:=cs [jB,k9,1132]
noncomputable def kV:=1176590337
noncomputable def eY:=1073742848
noncomputable def rj:=cs [jC,jC]
noncomputable def qr:=0x10001a0001a0681a
noncomputable def oi:=cs [br,iy]
noncomputable def i9:=1073758242
noncomputable def yC:=cs [gw,gw,gw,1120]
noncomputable def Dr:=cs [1214388358,aj,1216348294,o8,1144135814,o8,1144135814,o8,1249905877126]
noncomputable def Dw:=cs [1118,aZ,1118,kA,1100635701308]
noncomputable def tT:=0x112048000480004808c48
noncomputable def dN:=1109479425
noncomputable def oa:=cs [ec,ae]
noncomputable def og:=1099673108634
noncomputable def jF:=1073767476
noncomputable def zh:=cs [sk,1078,iR,l6,1134636,ai]
noncomputable def ps:=cs [ae,bj]
noncomputable def wU:=0x450000500005014050
noncomputable def wa:=cs [ln,1125376,nQ,1125376,ke,ke,bB,1126400,bB,0x420078200001e0001e0801e00818070180001c0001c0601c,ai,oN,eH,1073782824,AT,iG,wB,1095726,yA,1125333883952,im,1099776,aZ,1072,wk,1086325808,im,1072,iG,0x10d8360d0340d034,aj,0x10e83a0e81d0f03c02809068180741c06c071243800036,aj,0x4000f83e0003a]
noncomputable def ux:=0x43000030000300c030
noncomputable def zw:=0x10004c268001309a
noncomputable def jD:=cs [rN,c6,c5,1202,iP]
noncomputable def ka:=cs [uD,c6,c5,1275690389668]
noncomputable def lh:=cs [1050,aZ,1050,mW,1048584]
noncomputable def gi:=cs [1064,ax]
noncomputable def wM:=cs [bF,1138,qx,1048676]
noncomputable def gg:=1073826984
noncomputable def sS:=0x1157ff000320dc38
noncomputable def lM:=cs [aw,1062,cR]
noncomputable def sR:=cs [1128,dk,ax]
noncomputable def ic:=1143085056
noncomputable def Bp:=cs [iK,iK,iK,1142,eH,1073866874,xw,1048698,xw,1048698,xw,0x4760ec780e8760007e,bb,1169528,ai,1113216,fD,fD,1179648,br,1152]
noncomputable def od:=0x10e0380003800038
noncomputable def il:=1073752086
noncomputable def qT:=0x4150b02a0b02c0002c0002c
noncomputable def xK:=0x10600002c180000b0600002c18
noncomputable def nv:=cs [1050,mW,1032]
noncomputable def qN:=1144608804906
noncomputable def gr:=cs [br,h8]
noncomputable def yH:=cs [1103130652,aj,1105199132,kP,kP]
noncomputable def jr:=0x100032000320c832
noncomputable def fh:=cs [bB,1024]
noncomputable def oW:=cs [1109112,gG]
noncomputable def AP:=cs [1099878,gD,gD,1153024,iJ,1184999424,kM,1213382895617,kM,1213382895617,kM,1217677862913,gD,1180748904,bb,1153128,ai,jt,jt,jt,1136,br,1136,qx,1124]
noncomputable def yZ:=cs [iR,iR,iR,1104]
noncomputable def ik:=1073856738
noncomputable def y5:=0x10b05a1605a1680016800
noncomputable def tf:=cs [1134676,qR,1048660]
noncomputable def jN:=cs [1069098,iU]
noncomputable def xc:=cs [1084,aZ,0x10b8000b8000b82e0b83c]
noncomputable def kB:=1107363840
noncomputable def B8:=cs [bB,ke,lJ,ez,1050626,ae]
noncomputable def sM:=0x482208820008200082
noncomputable def xB:=cs [bB,1062912,bB]
noncomputable def AQ:=cs [wa,xF,c5,1094,cQ,1147213894,ae,0x40200402098001104408444000481204812048,ae,1060,av,0x11284a12800128001284a,aj,0x109c501400104827098250143f1304a1284a0004a,Dn,0x462178620005e0005e1885e00818170180005c0005c0605c,ai,AP,wB,1163376,yA,1160836604018,kR,1167360,yo,0x4720e0720002c00430,qx,0x4781e0761d8761d864,aj,0x11f07c1f03e1f87e028090ec390f83d0f0071247a00078,aj,1237084799100,rJ,1152,rJ,1152,rJ,1152,rJ,1156,nF,kR,1138,wM,1123025976,kR,0x118000180001806018072,ax,0x118000180001806018072,bj,0x42b0045300072,Dr,nF,ae,1138,br,h8,1193396232,E6,1195434098,yo,0x4721c8721c87211c2a00855004562405600472,ai,0x112092000482480012092000482480012092,ae,0x1248922489224892,ai,zW,1124502,ae,1174,ai,0x4982600012c98,mY,0x12709c2709a2689a26894,aj,1269328511132,su,su,su,su,ql,0x4002884e2789c,zW,0x12584a258002589612896000962584a258002589612896,ax,1174,ax]
noncomputable def DE:=cs [1178701924,aj,1209140248676,nX,tQ,tQ]
noncomputable def sq:=cs [ai,kf,kf]
noncomputable def nV:=cs [rc,1073754138]
noncomputable def s4:=cs [yH,kP,kP]
noncomputable def nM:=0x4120980004826
noncomputable def zC:=0x102c180581806000
noncomputable def mX:=0x105c300b8300c0000c000
noncomputable def nn:=1187644481618
noncomputable def DB:=cs [ai,0x10d06a000341a8000d06a]
noncomputable def xa:=cs [nL,1100009512,iH,0x1130000c02e00038,ae,0x10d8000b800130000c82e,ff,1048630]
noncomputable def Bo:=cs [zE,iJ,1168205824,yq,1114,yq,1114,yq,0x4560ac580a8560005e,bb,1136728,ai,yC,br,1120]
noncomputable def rf:=cs [ae,1054734]
noncomputable def qS:=cs [1093678,y8,1117802538]
noncomputable def ij:=cs [ax,jp]
noncomputable def qq:=0x10003c1e8000f07a
noncomputable def Cn:=cs [1174503520,aj,1204841087072,kS,1122,kS,1122]
noncomputable def AA:=cs [ai,0x1000331a0000cc68000331a0000cc68]
noncomputable def q8:=cs [1256372398,aj,1048750]
noncomputable def y7:=cs [aZ,0x400120001204812056]
noncomputable def jj:=1074794496
noncomputable def Bq:=cs [vX,iJ,1164007424,o7,1191897552897,o7,1191897552897,o7,0x11482915028148001682a15801,bb,1132628,ai,w2,br,1116]
noncomputable def xh:=cs [1050626,bB,ln,1054720]
noncomputable def kH:=cs [ek,lJ,1038]
noncomputable def nY:=cs [ai,0x10001c0e8000703a]
noncomputable def qk:=cs [av,1062,ae,1113587750,aw,1062,ae,1111508004]
noncomputable def rQ:=0x109024000240002404424
noncomputable def sv:=0x10001e0f8000783e
noncomputable def fa:=cs [ax,1118]
noncomputable def yj:=cs [1076,av,1076,ae,1128267828,aw,1076,ae,1126195250]
noncomputable def yF:=cs [c6,1196,ae,jO,b7]
noncomputable def wu:=cs [ai,1132710,l4]
noncomputable def wK:=0x400180001802f1805e18060
noncomputable def ze:=cs [1056,ni,1115651310624]
noncomputable def zs:=0x422118441184600046
noncomputable def yQ:=0x4001400014000140501405e
noncomputable def oV:=1310170546372
noncomputable def uU:=0x4c2000c2000c2
noncomputable def ph:=cs [1067026,kE,1042]
noncomputable def qa:=cs [1024,n7,1265876]
noncomputable def uQ:=0x11f07c0007c0007c0f47c
noncomputable def CR:=0x44a12800128001282412801
noncomputable def yB:=cs [1174,c6,1174,ae,1231028374]
noncomputable def Aq:=cs [1122,aZ,1138817122,ge,1100635701310]
noncomputable def zI:=cs [1075,ae,1075,ax]
noncomputable def CJ:=cs [1154,aZ,1154,rH,1100635701316]
noncomputable def Au:=0x46d370dc370003700037000
noncomputable def lk:=1174453344
noncomputable def Eh:=cs [1190,aZ,1190,n1,1100635701322]
noncomputable def xl:=cs [bF,1050,mW,1129316360]
noncomputable def yv:=cs [1061,ae,1061,ax]
noncomputable def uy:=0x10904a00024128000904a
noncomputable def nK:=cs [ra,kq,eH,1042,x7,x7,x7,1046,dJ,1088429072,bb,1062928,ai,xK,br,1048]
noncomputable def w6:=cs [uu,1099633321076]
noncomputable def ng:=0x4a0000a0000a0280a0
noncomputable def vV:=0x13d0f4000f4000f4
noncomputable def zc:=0x502408004080040800
noncomputable def x6:=cs [ae,lP,1046,ax]
noncomputable def nx:=cs [1078,yj,1078,yj]
noncomputable def B3:=cs [1121007456256,aj,1096810516,lP,1094735894,q9,1044,q9]
noncomputable def gM:=cs [ax,jf,jf,jf,1080039430,py,1054739,xh,py,0x10040401000010000100401813]
noncomputable def qQ:=cs [ku,1069056]
noncomputable def r3:=0x40e0000e0000e0380e
noncomputable def By:=cs [1054,av,1054,ae,1105199134,aw,1054,ae]
noncomputable def BF:=cs [1110,av,0x11b86e1b8001b8001b86e,aj,0x11c06e1b86e0006e]
noncomputable def yI:=0x101c100041004000
noncomputable def AM:=cs [1073897624,pI,1048728,pI,1048728]
noncomputable def jI:=1166198784
noncomputable def nm:=0x404028080280a0000a0000a03000
noncomputable def xd:=cs [1048,aw,1073766424]
noncomputable def pu:=0x4371c06e1c070
noncomputable def wz:=cs [w8,1122376,cQ]
noncomputable def qV:=0x12e8ba000ba000ba
noncomputable def CP:=cs [0x11a42f108570046035060,ae,1075841026]
noncomputable def lo:=cs [0x10003c0743c0783e0f83e,ge]
noncomputable def sQ:=0x4d20006834800
noncomputable def Cm:=cs [0x11d8761d8001d8001d876,aj,0x43d0f03b0143e1e0761d87600076]
noncomputable def lA:=cs [1097860149,ux]
noncomputable def kQ:=cs [sM,1168367485058,ic,qu,jH,1158,bB,1183744,j2,1048708]
noncomputable def xi:=cs [1057,ae,1057,ax]
noncomputable def gy:=cs [1266,av,1266,ae,1327497458,aw,1266,ae,1325522160]
noncomputable def gz:=cs [1252,av,1252,ae,1312817380,aw,1252,ae,1310834914]
noncomputable def td:=0x4ca3280032800328ca
noncomputable def gF:=cs [AQ,1174,ax,1174,ax,1260730341526,ae,1202326,ae,1202326,aw,1101660162088,ae,1126,av,1073911974,lp,1190,aj,lp,0x1154ac2b0010cc5515053014402a0a6,B8,0x116026088560044e2c84e004b02c0b02c0b0,lJ,ez,1101661210626,ke,ae,0x100c591445a150c4150012a8b62a801,av,1024]
noncomputable def nW:=cs [bB,ni,0x41e0780007800078000800f]
noncomputable def pU:=cs [1078988802,ec,av]
noncomputable def qn:=cs [By,1103115292]
noncomputable def nH:=0x100028000280a028
noncomputable def rC:=cs [0x410040220000e0780e0781e,h8,1136037724166,ai]
noncomputable def ri:=cs [1099557810220,kh]
noncomputable def DO:=cs [1161908308,aj,1191943602260,o7,1108,lQ,o7,1108,lQ,o7,0x4001682a15854]
noncomputable def E5:=cs [1145078852,gR,1084488,aw,1096,dz,1183263569920,cQ,iR,1088592,ei,1104,jp,0x10a05200028148000a052,b7,1183263574098,mP,0x452148261384e,xx,0x452148560a856000260004e,xx,1102,ae,lQ,1130576,xx,1102,ae,lQ,0x42e1784e004000442d09bfe000110582c09bff00011058170ac26ffc000441605c2100026ffc4e0004e138001384e,b7,1102,ae,1102,la,1183301256228,g6,1102,ae,1102,b7,1191853504590,n1,1098,ae,1117803004964,Dn,0x11c86e008181b0180006c0006c0606c,pR,1193392242,ai,Bp,nD,1140,wB,1179776,yA,1169443324034,iF,1183744,aZ,1154,nD,0x4340043000074,iF,1154,nD,0x488220862188621874,aj,0x12308c230462388e0280910c4111845110071248a00088,aj,1254281445516,wr,wr,wr,0x49411c90230902400024000,lI,iF,1154,bF,1154,nD,0x4370043800074,iF,1191297154,kW,1136,ax,1191297154,kW,1136,bj,0x125896258330045300082,aj,1048726,AM,pI,1180,lI,ae,1154,br,h8,1210189832,E6,1212219522,aZ,1154,nD,0x482208822088213c320085500466280660048200074,ai,kO,kO,1130658,ae,0x1288a2288a2288a2,wu,gv,ae,1190,ai,gg,1275777425576,kj,0x12b0ac2b0aa2a8aa2a8a4,aj,0x4002b8ae000ac,pc,1048750,pc,1048750,pc,1048750,pc,1048750,pc,1202,l4,l4,1218726,gv,1218726,gv,1218726,gv]
noncomputable def Cd:=cs [1190,ax,1190,c5,lr,1140918,aw,1206,jV,j9,cQ,0x45e2f800178be,ei,1214,jp,0x117cc00005f3000017cc0,b7,0x12f0002f000300c0,ae,0x4c03005d2f0bc,wo,0x4c0300c4184c40005d000bc,wo,1212,ae,0x4be2f8c4184c4,wo,1212,ae,1301580711108,j9,j9,0x11405216400177ff,sG,1157711970,sG,1130595,sG,1124,sG,0x467340bc004000e866177fe0003a0fc65,b7,1212,ae,0x12f0760e87600067340bc,g6,1212,ae,1212,b7,0x4b8000b8000b82e0b8310002f0bc,ae,1161912445046,bB,ke]
noncomputable def lD:=cs [1048684,lm,0x10006a0d06a0d46c]
noncomputable def iT:=cs [ax,0x410000070400001c10,h8,1064968,ai,0x4080480002012,ae,1042,ai,1120986473492,xm,1071104,lP,1080055830,q9,1030,q9,0x10241400009050000680a05806,ae,1044,iz,1044,xm,1077248,mQ,1054748,sW,1030,sW,0x4120201200008048000800d07006,h8,1067016,ai,i9,i9,1083426,ku,0x1088020280a02000,ku,0x10280a0282202000,gO,1056786,zA,bj,zA,1042,h8,1032,zA,1042,ai,oN,0x424008010102601001,jS,c5,1060,ke,ek,ax,1060,jS,fq,1067008,jS,1142503284776,ai,rj,1117825068,aj,0x104007040000b0000c8160b82a0b82e0002e0002e0002e0002a,h8,1090519048,ai,jF,1076,xm,1130420224,yw,1078,yw,1078,yw,1048634,jF,1074228,ae,1076,iz,1076,sq,1084,ku,1090527232]
noncomputable def zJ:=cs [kq,dD,1126400,dD,ai]
noncomputable def jA:=1176591361
noncomputable def qd:=0x4b22c8002c800
noncomputable def tc:=cs [gE,1073881155,zu,0x446238001188e,aw,1166,fv,1252131936398,km,1222711438,gR,1194126,cQ]
noncomputable def oc:=cs [1056786,ae,1042]
noncomputable def pV:=0x12d0b4000b4000b4164b4
noncomputable def Cu:=cs [gE,1073881155,zu,0x4472400011c90,aw,1168,fv,1254281518224,km,lL,gR,1196176,cQ]
noncomputable def AI:=cs [gE,1073881155,ki,0x1008021108a22894,ax,0x112c24208560044a2604a0049622096000880008825888,av]
noncomputable def tz:=cs [av,0x40e03800128000480e0000e]
noncomputable def xo:=0x49e0009e0009e2789e
noncomputable def vZ:=cs [0x1000f61e8f6000f6,vV]
noncomputable def yr:=cs [aZ,0x113000130001304c1305a]
noncomputable def pd:=cs [rN,c6,rN,c6]
noncomputable def oU:=cs [1329403746518,c5,1329403746518,c5]
noncomputable def qi:=cs [1202,iP,1260607702,iP,1267926]
noncomputable def rb:=cs [uD,c6,uD,c6]
noncomputable def qM:=cs [1314364006600,c5,1314364006600,c5]
noncomputable def oY:=0x1320c829051290a4320c829051290a4
noncomputable def lO:=cs [fq,ax]
noncomputable def rx:=cs [bB,aw,1026,bB,aw,1118857873410,aj,0x1050000501400012,yi,1094713364,yi,1094713364,yi,1048,bB,ke,nQ,0x10681a070000341c00011090100880f0800e078000040000802,aj,0x41200c260001a,tB,tB,tB,tB,kl,0x4280a01c0502a0a80d07000118120981a,aj,0x42300c4800028,rz,0x40400c17058150140617000,oo,s0,rz,0x40400c1a064180140617400,wU,s0,rz,ai,Bq,kA,1084,lB,1142876,lG,zK,1118,kA,1084,Dw,1051,Dw,1144860,bF,1118,kA,0x405004350003c,Cn,kS,1122,kS,1122,kS,1048678,zK,1172355166,aZ,1118,kA,1144892,aw,1172307993,bb,1200542021726,AA,1211180829800,dF,bj,1128,dF,1182900328,DB,0x46a000341a800,aw,1055,ae,0x46a1a86a0006a,ai,u6,0x11b036004231b86e,dc,dc,ax,1159276,n6,jt,1105008,ae,1136,ai,1106034,ae,1138,ai,1224065737844,ps,1138,aw,1045,j7,1219888209008,aw,1136,aw,1045,b7,1136,aw,1063,oP,1106,av,Cm,0x11e8001e8001e87a1e83d1f07c00c29,s0,rz,0x11f8001f8001f87e1f80400c2007c1e0140617800,s0,Dm,1139319844994,bB,lJ,nQ,nQ,ae,1183876,aj,0x44200c8600084,zu,0x445230001148c,aw,1164,fv,1249982354572,km,1220613260,gR,1192076,cQ]
noncomputable def ko:=cs [fb,aj,1028,fb,fq,fb]
noncomputable def sg:=0x4001a0331a0661a06800068
noncomputable def zS:=cs [1101017114,aZ,nv]
noncomputable def v8:=cs [iE,iE,iE]
noncomputable def tA:=cs [g4,ax,1078]
noncomputable def zX:=cs [0x10984e0984e1384e,gJ,dD,p4,gS,bB,iD,1062926,ax]
noncomputable def tN:=cs [1030,ku,bB]
noncomputable def tF:=0x11d07400074000740e474
noncomputable def oH:=cs [ai,1075254]
noncomputable def pH:=cs [ai,1076280,iH,1105920]
noncomputable def uS:=cs [aZ,1072,dF]
noncomputable def wf:=cs [l6,l6,l6,1108]
noncomputable def zo:=0x10002c0002c0b02c
noncomputable def nz:=cs [1119926318,y8,1117802538]
noncomputable def Ak:=0x1138000984e00026138000984e
noncomputable def uo:=cs [wk,0x4200040f00435]
noncomputable def zU:=0x4da3680036800368da
noncomputable def uv:=0x1328ca000ca000ca190ca
noncomputable def qp:=cs [1060,dd,1041]
noncomputable def Cp:=cs [0x47200072000721c872,ae]
noncomputable def zi:=0x1000920009224892
noncomputable def sY:=cs [1161326,pR,1134]
noncomputable def uh:=cs [1157665868,dj,dj,1088438272,dD]
noncomputable def rh:=cs [1027,mR,mR]
noncomputable def kw:=1077940228
noncomputable def B1:=cs [1212289156,aj,0x4002188600084,mZ,1143085188]
noncomputable def sJ:=cs [Bo,sm,fe,1042,ae,1146976,yv,1097826,om,1148928,aZ,1122,tf,1204780270640,bF,1122]
noncomputable def mL:=cs [DE,1213380794468,om,1122,aZ,1122,sm,1122,bb,1122,sm,1149026,ai,jB,jB,1132]
noncomputable def Cv:=cs [1191299186,av,1136,ae,1191182448,aw,1136,ae]
noncomputable def Bl:=cs [1052,mQ,1077276,aj,0x10781c0701c0001c]
noncomputable def Bx:=cs [B1,ki,ki,ki,ki,1162]
noncomputable def pB:=0x448248902489200092
noncomputable def wm:=0x45e0005e0005e1785e
noncomputable def zT:=0x440000400004010040
noncomputable def CL:=cs [ae,1256,ae,0x4e0000e0000e0]
noncomputable def oO:=cs [1206426,og,1178]
noncomputable def xV:=0x47c1f0001f0001f07c
noncomputable def pp:=cs [1099685775526,lp]
noncomputable def rU:=cs [ae,1132,gC,1159276,ai]
noncomputable def DA:=cs [1125224548,gP,1211279395944,j7,1153024,gD,1048678,of]
noncomputable def w3:=0x448000480004812048
noncomputable def u7:=0x1178be2e8be2f8002f8002f800
noncomputable def y9:=cs [lu,1110076,kf,1080384,ae,1088,aw,0x10003e0783e0003e]
noncomputable def qB:=cs [Cv,1189140590]
noncomputable def ol:=cs [k9,0x11b06c1b8361b8001b8001b06e1b86e1b86c0d46c,aw,k9,1132]
noncomputable def pT:=cs [fq,1052673]
noncomputable def qX:=cs [1063,cR,BF,0x4000e83808856004721d8720040e0e4741d0020ac390e0370143e]
noncomputable def Ao:=0x1030000140c00005030000140c
noncomputable def te:=0x1000140a8000502a
noncomputable def na:=cs [1048,av,xd,1050]
noncomputable def l9:=cs [0x50620906000804088040902,ae,1270,ae,1262,nJ,bj,0x5042050400104,zc]
noncomputable def lC:=cs [0x4f81ecf8000793d0793d0f4,CL,bj,vZ]
noncomputable def uG:=cs [1052,av,1052,aw,1131723911196]
noncomputable def wx:=cs [1084239884,av,1034,ae,1084227594,aw,1034,ae,1082133512]
noncomputable def oE:=cs [aw,1048610]
noncomputable def AR:=cs [1119924268,aj,0x10582e0b02e0b8000b8000b8160b82c0b82e0002e0002e0582e0b02e0b8000b8000b82e0002c]
noncomputable def xt:=0x1154ac000552b000154ac
noncomputable def nO:=cs [wa,xF,bj,E5,Cd,lJ,ax,1049602,CP,ax,0x4d2350d200402,dd,1156200,ae]
noncomputable def Ch:=cs [nc,0x410138120002613800,bB]
noncomputable def tM:=cs [Cu,1196176,b7,AI]
noncomputable def ow:=1421948748076
noncomputable def jo:=cs [ra,0x10681a0680001c10,aj,1103101978,mQ,1075228,sW,1050,sW,0x1020120800d0701a,db,iD,0x4360a8360002a0002a0d82a0480e,db,0x111038110000e0000e0440e01204812,db,0x4460884600046000121184611846,dD,bB]
noncomputable def A9:=cs [0x110040100001000010040,aj,0x1108401004000040]
noncomputable def Bz:=cs [av,0x11e87a1e8001e8001e87a,aj,0x11f07a1e87a0007a]
noncomputable def zp:=cs [1160,c6,1160,ae,gE]
noncomputable def w7:=cs [1099633502208,re]
noncomputable def w1:=cs [1094,c6,1094,ae,1147142214,b7]
noncomputable def ya:=cs [1142,c6,jk,1197473910]
noncomputable def AF:=cs [0x13a8ea000ec1d4ec000ec000ea3b0ec3b0ec3a8743a8001d8ee210ee,ai]
noncomputable def ww:=cs [1258,iM,0x4840008400084210843a8ea]
noncomputable def xY:=0x4462388c2388e0008e
noncomputable def Du:=0x4ea1d0ea000ec000ec000ec3b0ec3a8ea1d0ea0007e3f87e3f8fe3f8fe
noncomputable def zO:=cs [1258,iO,0x4840008400084210843a8ea]
noncomputable def wt:=cs [1121996842,dj,dD,bB,gJ]
noncomputable def w9:=cs [ny,1123157039104,aj,0x1060000601800016,zC,1098907672,zC,1098907672,zC,1052,dj,dD,bB]
noncomputable def E3:=cs [1159766098,aZ,1106,iI,1132626]
noncomputable def Bf:=cs [0x100c1d0701e06c84158010e03e0e0010380e00c0206819,ae,1049600,av,1168263675968,c5,0x40e1001f10040]
noncomputable def Cb:=cs [1080321,ae,1054734,dD,1038,ai,iw,iw,iw,1094,eH,0x44a12800128001284a,CR,CR,0x11182312022118001382412801,bb,1120328,ai,yZ,br,1104,iI,fe,1028,ae,1130576,zI,vX,aZ,1106,rH,0x1148030082000c3100044,iI,DO,1073782866,l5,1106,br,1106,gt,1132602,ai,w2,li,1048668]
noncomputable def xy:=cs [1187561605122,aZ,1106,iI,1121976402,cR,1094]
noncomputable def rA:=cs [0x1000c2180c2184c4,iW,1249476]
noncomputable def sr:=cs [1294049490,qa,1156308]
noncomputable def oI:=cs [1159956562,kV,1163304,aw]
noncomputable def pQ:=cs [ax,1026,ke,nQ]
noncomputable def zQ:=cs [1049601,lh,1075840048]
noncomputable def wT:=0x103c200000f0800003c20
noncomputable def rp:=cs [1283556548,oS,td,1255524,ax,0x402004c2328c2004d0194cc330cc000cc000cc000ca190ca194cc330cc000cc000cc000cc,oS,0x4d21a0d23480034800348d2,ax,n7,0x11a4d4350d4000d4]
noncomputable def qU:=cs [1240,oS,zU,1271916,ax,1244,Au,1302442202,Au,0x4d2368d2004e0]
noncomputable def yX:=cs [1052,aw,1052,aw,1052,av,1052]
noncomputable def ot:=cs [ku,1067008]
noncomputable def u0:=cs [ny,B3,1127439423508,kq,xB,1107329056,aj,0x1040220802208800088000882200020,mS,1090553888,mS,1140330629152,dj,dD,1062926,eY,0x4000603205c300582e0542c,qN,1089576,aj,0x41900c3400028,xa,xa,xa,nL,0x4360d82a06c380e0140a800138190d028,aj,0x42700c5000036,zh,Bo,oX,lB,1146976,lG,1097826,om,1148928,oX,Aq,1052,Aq,1148957,bF,1138817122,ge,0x407004340003e,DE,tQ,tQ,1213380794468,om,om,1122,aZ,1122,oX,1122,aw,1176502298,bb,1204841187426,ai,jB,u6,uq,c5,1132,c6,1132,c6,ai,1159276,lM,BF,0x10e4741d0020ac390e0370143f,Cp,1048658,l5,zh,Bp,iI,lB,1179776,lG,1114242,lI,1181696,iI,CJ,1055,CJ,1181728,bF,1154,rH,0x4070043400044,Bx,lI,lI,1154,aZ,1154,iI,1154,aw,1210056732,bb,1239234513026,ai,sp,sp,1249835553932,uq,0x48c2308c00046004232388e,ai,0x12400011c90000472400011c90,ax,1168,ax,1168,ax,1196176,bj,1065,cR,1142,av,0x124892248002480024892,aj,0x49600096000962589612c98260020ec4b1284901441250922489200092,ae,1048658,l5,zh,zw,1264867946650,iJ,1239578624,ql,1025,kz,ql,1025,kz,ql,0x12684d2704c268002884e27801,bb,1206428,ai,0x129000144a40005129000144a4,br,1188,n1,1098,lB,1216676,lG,1132710,l4,1218560,n1,1098,Eh,1058,Eh,1218595,bF,1190,n1,0x12a0a82a007004340004a,aj,0x4002a8aa000a8,ul,ul,ul,ul,kN,1286430959784,l4,l4,1190,aZ,1190,n1,1218634,aw,1247805469,bb,1277927004326,ai,lK,lK,1288490278064,uq,0x4b02c0b000058004232c8b2,ai,0x12d000164b4000592d000164b4,ax,1233076,bj,1065,cR,1178,av,0x12d8b62d8002d8002d8b6,aj,0x4ba000ba000ba2e8ba174bc2f0021345d1705b014412e0b62d8b6000b6,ae,1048658,l5,sk,0x429150543002714036,iD,1038,av,1038,b7,1218,uU,1277264066,ax,iW,oV]
noncomputable def qI:=cs [ax,0x100008000030200000c08,j4,j4,0x4060000600006,bB,1101665409030]
noncomputable def pG:=cs [kL,1139712,w8,1096,pP]
noncomputable def pL:=cs [kL,1141760,w8,1096,pP]
noncomputable def x5:=cs [ua,fE,bj,1038,p4]
noncomputable def rd:=cs [tz,ai]
noncomputable def tV:=cs [iD,ax,1049614]
noncomputable def pC:=cs [1099708855484,j9,1212]
noncomputable def ss:=0x1390e4000e4000e4000e61c8e6000e6
noncomputable def yN:=cs [dD,ai,0x11100008444000211100008444,eH,0x100448120001200012048,tT,1025,tT,0x11102211821110001302312001,bb,1118278,ai,Ak,br,1102,n0,1090,ew,1128526,e7,yZ,aZ,1104,n0,0x11401e0043000042,bF,1104,n0,0x11401f0043500042,bF,1104,n0,1048642,hJ,1159809106,aj,0x11485415000150001505400052,oA,1106,oA,1106,oA,0x4001602915052,iR,iR,1157667920,aZ,1104,n0,1130562,bb,1157709904,ai,pf,pf,1114,dg,1114,dg,1114,zT,bj,1114,eY,1095774,ae,1118,ai,gw,1120]
noncomputable def Dl:=cs [gJ,1181116020736,ae,1062926,pA]
noncomputable def pn:=cs [1126400,o5]
noncomputable def xe:=cs [ra,1116691504144,uE,rf,1038,iy,bB,db,1111527460,aj,1113587748,kl,1092655140,kl,1092655140,kl,1144627697700,kq,bB,aw,1038,n4,AR,1074,dj,1064960,dD,1124352,ae,0x4030781d07c1c0801b2985600438108380040e00c020681903c0e0185f,ae,1027,ae,1040,dD,pA,uy,1124352,iJ,1128448,jd,1049678,nI,1025,nI,0x11282513024128001482613801,bb,1124428,ai,wf,br,1108,w3,fe,1033,ae,1106333780,ae,1055,ax,zE,y7,0x1158030082100c3100048,y7,0x116058160220043000048,aj,1196242763864,y5,1114,y5,1114,y5,0x4561582a158000a8560005e,gt,1082,bj,1110,ae,1110,oi,0x10700114c0015800,ai,0x430188000c062,ae,1122,ai,gP,1202691604580,aj,1209140248672,nX,1209085827168,nX,1209085827168,nX,0x4001a83219860,gP,1098852,ae,1124,iz,1202691604580,aj,0x4001b06c00060,lm,0x4001b0351b060,lm,0x4001b0351b060,lm,1219826397280,om,1122,iy,1122,ai,1106034,kR,1193396224,jz,1221920305164,jz,1112409124978,gO,1176551522,f8,ax,1122,f8,bj,1122,f8,1122,ai,0x43c0f074000391d0000e474,aj,1048636,oD,0x43c1d87600076,iK,0x4741d0000e474,ai,oW,aw,1144,b7,1171480,iO,0x11e03c004231e87a,c5,1144,iO,x6,1144,iO,1144,gS,ae,1073800308,oD,0x11d0001f83a1d83c1d876,iM,aw,kE,1042,ai,1113216,fD,1179648]
noncomputable def zB:=0x10008c0008c2308c
noncomputable def qz:=0x1000b6000b62d8b6
noncomputable def pa:=cs [qn,1081376]
noncomputable def wG:=cs [1087528,qk,1087528,qk,1087528,qk,1087528,qk]
noncomputable def uJ:=cs [1027,mR,kH]
noncomputable def zV:=cs [av,0x11785e17800178001785e,aj,0x11805e1785e0005e]
noncomputable def p5:=cs [1180,av,1180,ae,1237319836,aw,1180,ae,1235300506]
noncomputable def zj:=cs [ra,gJ,uE,B3,1044,q9,1127439423508,dj,gJ,bB,aw,1038,xB,s4,1058,dj,kq,dD,1124352,ae,1062926,pA,1072176,mO,1097728,eH,0x106434004340d0000d0000d034,nL,1100009473,nL,1159667437569,im,1124098098,bb,1097778,nY,1161788682298,br,0x10b8000b8000b82e0b83a,fe,j4,1108026,xi,kf,kf,kf,xc,iC,1130713055252,ae,1084,b7,dk,ae,1163975983142,dk,1104211968,xc,1048636,xc,iC,1045,ae,1084,ae,0x4240002400024,ai,sv]
noncomputable def CV:=cs [ae,1256194222,aw,1198,ae,1254184108]
noncomputable def tp:=cs [1140353681446,aw,1062]
noncomputable def qj:=cs [av,1166,ae,1222639758,aw,1166,ae,1220613260]
noncomputable def BJ:=cs [ae,1241514144,aw,1184,ae,kz]
noncomputable def CW:=cs [aj,1108120443920,av,1042,ai,1057812,ae,1044,ai,il,1071126,jS,1125306621976,qr,1050,b7,Bl,0x10781e0001e0001e03803]
noncomputable def yp:=cs [1122023470,aj,1151101567022,mX,1072,mX,1072]
noncomputable def As:=cs [0x1060000081605816,av,xd,1050,ae]
noncomputable def rr:=cs [1048,aw,1048,aw,1048,av,1075224]
noncomputable def ud:=cs [nK,g4,ew,1073176,e7,nV,lh,1072,aj,1050,xl,1101005825,xl,1050625,s4,1048610,rc,zS,1050,bb,1101031450,ai,kC,kC,1060,kr,ax,1060,jS,bj,1060,kr,1060,ai,nM,ae,1062,ai,1068072,ae,1064,ai,qN,ps]
noncomputable def uW:=cs [b7,1062,aw,1063,pU,0x10b02c0b0000b0000b02c,aj,0x1060320c80401c1805c160143e0b82c0b02c0002c]
noncomputable def Dx:=cs [ax,Ao,eH,1116691513360,yI,1090519056,yI,1090519056,yI,0x40c0180e0140c00014,bb,1060878,ai,il,il,il,1046,br,1046]
noncomputable def uH:=cs [1050,aw,1050,aw,1050,av,1077274]
noncomputable def Dj:=cs [1100,o5,1100,aj,0x44c1304c0004c]
noncomputable def tH:=cs [wa,xF,c5,1094,gC,E5,1190,ax,Cd,lJ,ez,1049602,CP,ez,0x4d2350d200402,dd,1156200,ae]
noncomputable def rW:=cs [mS,0x10781c00026048260001008816]
noncomputable def Bm:=cs [1098,aZ,1098,zo,1100635701292]
noncomputable def tJ:=cs [AQ,1174,c5,lr,1132710,aw,1190,dz,1284195397632,cQ,0x4562b800158ae,ei,1198,jp,lK,1137840,b7,0x12b0002b0002c0b0,ae,0x12b0b02c0552b0ac,yF,0x12b0b02c0b4164b400055000ac,yF,1196,ae,0x12b0ae2b8b4164b4,yF,1196,ae,0x4ac000ac2b0b4164b4,jO,0x11204a14400157ff,sS,1149315162,sS,1122395,sS,1116,sS,0x45f300ac004000c85e157fe000320dc5d,b7,1196,ae,1173553324,gD,1224806,g6,1196,ae,1196,b7,0x4a8000a8000a82a0a82d0002b0ac,ae,1153305725030,B8,0x118c26088560044e3204e004c6318c6318c6,lJ,ez,0x4c2310c200402,dd,1148000,ae]
noncomputable def CC:=cs [1132,aZ,1132,jr,1100635701298]
noncomputable def sT:=cs [rx,1192076,b7,tc,1048718]
noncomputable def uP:=cs [kL,1140736,wz,1096,pP]
noncomputable def wg:=0x40009011090000900007000138000801c
noncomputable def Ds:=cs [ek,aw,gO,0x4020400004012,pA,0x1070000341c0000d070000341c,iJ,1081344,ze,ze,ze,0x41c0381e0341c00024,bb,1077278,ai,nM,0x4260001209800,br,1062,qr,1050,fe,1037,ae,1123063846,ae,1071,ax,v8,1064,aZ,1064,qr,0x104c280000b004300001a]
noncomputable def Bs:=cs [eH,0x10c46400464190001900019064,of,1125224449,of,0x1180301882f180001a03119001,bb,1146978,DB,1157120,br,1130]
noncomputable def Cj:=cs [bj,1094748,ae,1116,iz,0x118862188001880018862,aj,0x10c403190621886200062,of,DA]
noncomputable def zz:=cs [ua,fE,fE,fE,oS,0x43c0743c0f0000f0000f03c,ax,ge,1048638]
noncomputable def BA:=cs [0x10cc681a02d170001b064,aw,1116,gL,1170307072,c6,0x11986e198001b8001b8661b85c,av,0x4701c0701c0701c070,aj,0x1000701c07200070,w6,w6]
noncomputable def BL:=cs [uu,1167480,lM,1092,Bz,0x47e2087e0040e0fc80200020883f0f83d0143f,dN,1073807422]
noncomputable def y0:=cs [oa,lu,1084,oa,lu,1049660]
noncomputable def C7:=0x12800013ca00004f2800013ca0
noncomputable def tZ:=cs [ua,fE,fE,ax,1062926]
noncomputable def xk:=cs [0x111044110420783e0f83e,aj,0x4001184600044,zs,1048646,zs,1048646,zs,1098,zJ,yZ,eH,0x100454150001500015054,oA,1025,oA,0x11402814827140001602915001,bb,1130578,ai,pf,1196148437082,br,1114,oo,ew,1140826,e7,w2,aZ,1116,oo,iC,1142821,bF,1116,oo,1024,hJ,1116,bF,1116,oo,0x45e1785e040010dc00,aj,0x40018000180600005e,wK,wK,wK,0x11702d170000b45c0002d170001902f1805e18060,aZ,1116,oo,1116,bb,1170305116,ai,1099878,gD,gD,gD,1153024,kb,1126,kb,1126,kb,1126,kb,1126,dg,1126,bF,1126,uo,1081448,dd,1100815,av,1126,b7,1157226,kM,1157172,ax,1048684]
noncomputable def zG:=cs [1048684,lm,1191236716,gD,1126,oi,1126,n4,1126,ae,0x46a0006a0006a,ae,1126,ae,0x4280006a0006a0006a,cR,1104,av,0x11e0781e0001e0001e078,aj,0x10007c0007c0007c1f07c0f87e1f8020a03e0f43c014401e8781e07800078,oc,jH,av,1179776,iq,1152,aj,0x110003208802008000080]
noncomputable def u9:=cs [oa,ge,1086,oa,ge,1049662]
noncomputable def tw:=0x1280a0000a0000a013ca0
noncomputable def uL:=0x1154ac2a8ac2b000
noncomputable def uO:=cs [dk,0x109001044010d400]
noncomputable def uV:=cs [iD,fE,1112126,aj,1048638]
noncomputable def rT:=cs [ae,1132,cQ,0x4680cc680006c,oi,1128,n4,1128,ae,pR,1134,ae,1128,ae,pR,1115684974,cR,1106,av]
noncomputable def sH:=0x472398e4398e6000e6
noncomputable def sD:=cs [uU,0x1000c4184c4180c22f8c2]
noncomputable def An:=cs [1147213894,aj,0x11184812000120001204800046,tT,1094,tT,1181152780358,zJ,Bq,wU,ew,1142876,e7,zK,1118,aZ,yQ,1200483206192,bF,yQ,hJ,1118,bF,yQ,1092617271,Cn,kS,1122,kS,1048678,la,la,1172355166,aZ,1118,wU,1118,bb,1172404318,AA,sR,sR,sR,sR,1128,dg,1128,bF,1128,dk,0x46a09001044010d400,qp,1076,eY,1128,ai,k9,1191297136,aj,0x10e0721c0721c8001c8001c87200070,uu,uu,1048694,jB,1132]
noncomputable def rL:=0x4562b8002b8ae000ae
noncomputable def xJ:=0x4d8000d8000d8360d8
noncomputable def ut:=0x12713a4e13a4e8004e8004e800
noncomputable def tW:=0x12ad5855958560005600056000
noncomputable def Bi:=0x1518005180051800520a35200052000
noncomputable def E7:=cs [aZ,0x40017800178001785e1786c]
noncomputable def tK:=cs [uh,1114544093184,ai,sJ,tf]
noncomputable def BG:=0x152810000a4528002894651146
noncomputable def tC:=cs [av,jd,zX,1062926,ax,1025]
noncomputable def uI:=cs [1105248286,dd,1038]
noncomputable def AO:=cs [aj,nn,iI,1106,bF,1048658]
noncomputable def v9:=0x10240e088550041e0501e
noncomputable def Ai:=cs [xy,av,1153126,nX,1126,aj,0x11a0661986600066]
noncomputable def sL:=0x4020041405014
noncomputable def ru:=0x417044221540109030
noncomputable def zN:=cs [c5,1110,lQ,c5,1110,lQ]
noncomputable def sU:=cs [0x4a62a0a600401,dd,1133650,ae]
noncomputable def tq:=0x105c0908855004140c014
noncomputable def u5:=0x409044221540109014
noncomputable def rv:=cs [c5,1206937292900]
noncomputable def tP:=cs [1256374448,av,1198,CV]
noncomputable def s8:=0x4010085600404
noncomputable def rG:=cs [1148,nH,gi]
noncomputable def ur:=cs [aj,1241384027268,jH,gR,1121424,aw,1168,jV,1231028374,cQ,0x44b2600012c98,ei,1176,jp,zw,1126554,b7,0x125800258002689a,ae,0x49a2684a25896,yB,b7,1099589222550,kz,1206426,yB,b7,1174,ae,kz,1204376,yB,b7,1174,ae,kz,0x45129096004060ec5012bfe0183b1004f12bff0183b100410004affc96000962580025896,b7,1174,ae,1158844566,gG,1202296,g6,1174,ae,1174,b7,1269162989718,zi,1170,ae,1162988285048,iD,1049614]
noncomputable def uC:=cs [1199695994,av,1144,ae,1199571064,aw,1144,ae,1108086]
noncomputable def uM:=cs [1150,av,1150,ae,1205862526,aw,1150,ae,1203827836]
noncomputable def rZ:=cs [1212291206,av,1156,ae,1212153988,aw,1156,ae,1210122370]
noncomputable def tS:=cs [fq,0x4040040401000010000100401004]
noncomputable def AY:=cs [jp,nn,1024,E3,bb,1106,ai,la,1095774,ae,1118,br,0x42f180000c062000010005e,ae,1146978,ai,gP,gP,1124,li,1048676]
noncomputable def tD:=cs [1241680034,av,1184,BJ]
noncomputable def Db:=cs [0x11a86e1b86e1b86e0006a0006a1a86a0d46c1b00208c350d033,rf,1100600064014]
noncomputable def rP:=cs [fb,aj,1028,aj,0x101000008020080201002004020180200404,fb,ae,1028,gO,1056776,aj,1084227592,nm,1086329868,nm,1050625]
noncomputable def s5:=cs [1142,av,jk,1197473910,aw,jk,1195435124]
noncomputable def Av:=cs [0x485430854310c4310c,jj,1077936132,bB,0x1010040090842108]
noncomputable def yb:=cs [rh,mR,kH]
noncomputable def Ec:=cs [ek,ln,1034,gO,1080035334]
noncomputable def yd:=cs [kE,0x4080480404812]
noncomputable def uX:=cs [0x4380dc42158011c0721c00103801,aw,1088436238,ai,oW,gG,1171456,eH,xV,1025,uQ,1025,uQ,1237014671361,gG,1199632506,bb,1171578,ai,1114242,lI,1181696,br,1154,jH,fe,1028,ae,1181826,zI,1115268,j2,j2,1183744,aZ,1197594756,oD,0x1210030083900c3100076,jH,Dr,j2,j2,1212153988,br,1156,gt,1183802,ai,0x1238001188e00046238001188e,li,1048718]
noncomputable def si:=0x4c8318c83200032000
noncomputable def ug:=cs [1176604772,av,1122,ae,1176502370,aw,1122,ae]
noncomputable def yy:=cs [1034,av,1034,aw,1112396539914]
noncomputable def s3:=cs [0x10100101000008020080201001010000300503010,ae,1028,ae,1050625,j7,0x40200402048020040401002]
noncomputable def sK:=cs [1185001580,av,1130,ae,1184890986,aw,1130,ae]
noncomputable def xz:=0x102c180101806000
noncomputable def Ea:=cs [1050,bb,1127456204826,ai,kC,oN,fq]
noncomputable def Bb:=cs [0x10c8320c8000c8000c832,aj,0x10d0320c83200032]
noncomputable def yx:=cs [nK,g4,lB,1073176,lG,nV,nv,lh,1072,zQ,1050,xl,aj,s4,kP,1048610,nV,zS,1050,aw]
noncomputable def Eb:=cs [CW,rC,0x4110900004424,ae,1060,ai,0x4260980004826,jS,0x42a0a82a0a0280a028,aj,1119879210,qT,qT,qT,qT,qT,1048624,kC,0x1090110900004424,ax,1060,bj,1111527460,n6,0x4180c80006032,aw,1074,iz,1157550364722,aj,1132462134,od,1102110774,od,1102110774,od,0x43e0f8340f8000d0000d03e0d0320c83206032000180c8000f01b0e036,nW,rC,1081410,kB,ae,1090,ai,0x4441100008444,jS,0x448120481184611846,aj,0x10904a1204a12800128001284a00048,nc,nc,nc,nc,1102,kB,kB,kB,kB,1090,ax,1090,bj,1143015490,n6,iR,1088592,aw,1104,iz,1104,DO,iR,0x45c1705217000148001485c148501405009c50]
noncomputable def A8:=cs [ax,wT,1081344,eH,0x100424090000900009024,rQ,1025,rQ,0x1080100880f080000a01109001,bb,1081378,ai,te,qN,br,1066]
noncomputable def wD:=cs [1060,c6,1060,ae,1111490596,b7]
noncomputable def zf:=cs [1056,c6,1056,gH,1081344,b7]
noncomputable def za:=cs [1068,aZ,1068,mW,1048584]
noncomputable def wI:=cs [Dx,kr,fe,1034,ae,1125144598,ae,1073,ax,xK,aZ,1048,kr,0x10600b06000004010c000,bF,1048,kr,1024]
noncomputable def xX:=cs [1151412298,aj,1153433674,o5,1098,cY,1098,cY]
noncomputable def Aj:=cs [1153511500,aj,1155530828,jd,1102]
noncomputable def xH:=cs [fq,jp,1098918936,aZ,1048,kr,1073176,kr,1115684888,oP,1036,av,Bl,0x104022088030181003c0e01440]
noncomputable def Bt:=cs [1100,nI,1100,nI,0x400148261384c]
noncomputable def x4:=cs [c6,eZ,kh,b7]
noncomputable def xM:=cs [1064,av,1064,ae,1115684904,aw,1064,ae,1067046]
noncomputable def yU:=cs [c6,1072,ae,1124073520,b7]
noncomputable def wW:=cs [kL,1138688,wz,1096,pP]
noncomputable def xR:=cs [Cu,1048720,AI]
noncomputable def yn:=cs [rx,1048716,tc,1194126,b7,tM]
noncomputable def xD:=cs [wz,1122376,av,pP]
noncomputable def w0:=cs [x5,db,ax,c5,1038,av,dJ,yN,ij,1120]
noncomputable def wc:=cs [Cj,DA,BA,w6,BL]
noncomputable def vY:=cs [1235380392,og,1048730]
noncomputable def xL:=cs [1104153660,y9,y9]
noncomputable def wb:=0x48a0008a1108a0008a22800
noncomputable def xE:=cs [1296257250,n7,1048788]
noncomputable def xI:=cs [Ds,gi,1064,aZ,1064,qr,1089562,bb,1115684904,jV,kh,cQ,jT,nz,qS,qS,qS,qS,1064,qr,1050,oH,ff,ff,ff,ff,1103872,bb,1078,pH,br,0x10ec3803c0f03c0f,ae,1130391606,gr,1157550364684,bB,ff,1078,ax,1115684918,oP,1052,av,A9,0x10884611803038220842001440,ek,ax,1122376,aj,0x42400c4a00048,Ch,0x456000560005615856,ae,0x10004c0944c0004c,Ch,wm,ae,0x10004c0944c0004c,nc,1122,bB,0x4020984e13800,iI,oX,ai,0x4310944215001130641300100802,ae]
noncomputable def yJ:=0x48f4811e481200012000120
noncomputable def we:=cs [1216676,kj,1048740]
noncomputable def wZ:=0x4002d85a2d8b42d8b6000b6
noncomputable def zv:=cs [mZ,ic,1048710]
noncomputable def wE:=cs [lu,0x107c40100440743c0f03c,An,rU,oW,1199693824,aw,1199631480]
noncomputable def zk:=0x4002300023045230002308c
noncomputable def xA:=cs [1340340492,re,1048830]
noncomputable def wi:=0x400440874410e4411000110
noncomputable def zL:=cs [0x11e8000f07a0003e1f83e1f87e1f87e,iz,bj]
noncomputable def xq:=cs [qq,1230636118138,ax,1146,bj,1099643748478]
noncomputable def zn:=cs [1279463634,iW,1048772]
noncomputable def yM:=0x466338cc338ce000ce000ce
noncomputable def xu:=0x48141001411040010400104
noncomputable def wj:=0x4d61a8d6350d63580035800
noncomputable def yK:=0x1238902400024000
noncomputable def wV:=0x13a0001cce800071390de
noncomputable def zm:=cs [1048742,lp,0x1150aa0005229852298a6,qu,oO,1194,fh,0x1000a814ca8000a8]
noncomputable def xn:=cs [0x4944a800249260f926,ae,1322,aw,0x52600126001260012824d2800128]
noncomputable def Cy:=cs [w7,Du,iO,zO,gS]
noncomputable def AK:=cs [0x4030000300003,av,1155530766,ec,mP,1088428046]
noncomputable def BS:=cs [xe,ax,1152,ax,1136768,y7,1136712,gt,1136698,gt,1239161067578,lu,0x42c000820f082,cR,1098,av,1160,o8,1160,aj,gE,0x4462388e0082511845110051088a22088,db,ez,0x100c491044a10847074480704b1156a1580123098230010380e0380e,ae,1076887555,ae,1027,aw,1040,dD,pA,C7,eH,0x1144a4004a42900029000290a4,kj,0x45129001290a4,kj,0x1280502884f280002a05129001290a4,bb,1212578,ai,0x12a800150aa000542a800150aa,br,1194,xo,fe,1043,ae,1102227626,ae,1051,ax,xt,1224704,oi,1224704,aZ,1196,xo,0x4ac1080114c0000c02130030c800,aZ,1196,xo,iC,1101,ai,lK,1137840,ae,1200,ai,1290637762738,q8,0x12b8b42d0002d0002d0b4,pV,1198,pV,1297173631150,jI,jI,ae,1202,iz,1202,q8,0x1170ba2b8ba2e8002e8002e8ba,qV,1170401454,qV,0x4b015cb0000572c0002f85c2e8ae,iy,1228976,iy,1200,ai,0x45f3000017cc0,ae,1216,ai,1307817640130,q8,1073942724,oV,1175654574,iW,0x461310ae310c4,iW,0x1180c2000603080032061310ae310c4,ae,1218,iz,1218,q8,td,1198,uv,1198,uv,0x4c017cc00005f3000033864328ae,iy,1216,ai,0x1340d0000673400019cd0,jz,1322852036620,jz,1112409125072,gO,1275165888,f8,ax,1216,f8,bj,1216,f8,1216,ai,1155282,sQ,1183876,aj,1048708,n7,0x46935084350d4000d4,sQ,1234,ai,0x46a358001a8d6,aw,1238,b7,1267736,iO,0x13586b00423360d8,c5,1238,iO,x6,1238,iO,1238,gS,ae,1155282,qa,1184059524,sQ,1234,ai,0x46c368001b0da,aw,1242,b7,1271828,iM,0x13686d00423370dc,c5,1242,iM,ae,kE,1042,ax,1242,iM,1242,ph,ae,1155282,qa,0x1348003806935084,ai,ik,ik,ik,1250,jz,1200,iy,1228976,ai,0x4e600072398001c8e6,jz,1200,iy,1200,ai,0x13a0e8000733a0001cce8,jz,1348621840396,jz,1112409125096,gO,1258380464,f8,bj,1200,f8,1228976,ai,0x11d0ea000743a8001d0ea,ae,0x484210ea1d0ea,aj,1156,nJ,nJ,AF,0x4773c0001dcf0,aw,1264,b7,1294360,iO,0x13c078004233c8f2,c5,1264,iO,x6,1264,iO,1264,gS,ae,1355062300906,nJ,AF,0x4793d0001e4f4,aw,1268,b7,1298452,iM,0x13d07a004233d8f6,c5,1268,iM,ae,kE,1042,ax,1268,iM,1268,ph,ae,1355062300906,nJ,0x11d0ea000ea000fa1d8ee210ee,av,1258,ae,0x4840008400084,iz,0x13f0fc3f0003f0003f0fc,aj,0x4fc3f0fc000fc,re,1048830,Du,iM,ww,ph,0x504409040010200102411023a8004010040100]
noncomputable def Dc:=cs [1127613704192,av,1050,ae,1101004826,aw,1050,ae,1103115292,ae,1184,av]
noncomputable def zD:=cs [ax,1048684,qX]
noncomputable def Da:=cs [1085277239,mL,iO,dc,iO]
noncomputable def x9:=cs [1191945787393,kV,1092650]
noncomputable def yc:=cs [1174505568,kV,1097775]
noncomputable def wO:=cs [zj,1086,ax,1086,ax,0x109c000900009000090240903e,cR,1072,av,A9,0x1088461180206022084200143e,Dl,Ak,eH,0x100452148001480014852,l5,0x4011485200052,l5,0x113827140261380015828148011485200052,bb,1128528,ai,0x1160000ac580002b160000ac58,br,0x113000130001304c13058,fe,j4,1138776,xi,pf,1196148437082,yr,iC,1168113699,eZ,1114,b7,0x45a0b05a0005a,yr,1168113754,yr,iC,1060,ae,1114,av,ai,0x45c0002d170000b45c,ax,1116,ax,1116,aw,1063,cR,1102,zV,0x10c4641900209c310c02f0143e,db,ez,1182900328,aj,1213439410280,kM,1213382895720,kM,1213382895720,kM,1217677863016,dj,1114558707726,dk,0x1038000900009000090240900e,ae,0x1008390c0380843a0dc8615c011c0761c001,fh]
noncomputable def xG:=cs [ny,1125306621952,aj,0x4000681a00018,C3,kq,xB,1109428258,aj,0x10882409000090000902400022,rQ,1058,rQ,1142479163426,dj,dD,bB,zo,eZ,1114544019470,dD,1125376,ec,gS,1153433614,ke,0x42408402158011104a11001,c6,Dj,jd,1128448,zX]
noncomputable def zy:=cs [1088421902,dD,1080047628]
noncomputable def yu:=cs [1134680180,oD,1169526]
noncomputable def xO:=cs [Bf,ux,1138233507904,Cb,lA,ai]
noncomputable def vW:=cs [1056,ni,1115651340320]
noncomputable def xb:=cs [1090644,l5,qR,1134676]
noncomputable def zg:=0x42d1705a1705c0005c
noncomputable def yV:=cs [qa,0x13586a35869350d0]
noncomputable def wY:=cs [Bf,iM,1139307249728,Cb,hJ,iM,ai]
noncomputable def wy:=cs [0x48c4688c4691a4691a0011a0011a,jj,1077936132,bB,0x1010040091645916]
noncomputable def zP:=0x10008200082000800fc801008220882
noncomputable def wP:=cs [1026,aj,1099792646412,Av]
noncomputable def yP:=cs [1185001578,kV,1102900,av,jd,1191262286,ec,dD,1125376,ke,0x10380e0003c0ec02158011e07a1e001,bB,0x480000800008020080,jp,1088421902,mP,1180042278926,ec,gS,1153433614,ae,0x40600c0210c421044001864,gJ,1062912,mP,1062926,p4,1071126,lP,0x100c0211c46114090186500016,dJ,0x48a2508a0040e,dd,1123396,ec,zi,0x44c12c42150012609a26001248962589625896,ae]
noncomputable def xP:=cs [1048728,pM,0x11349c0004b2604b26098,qu,zB,1208460,fh,0x10009a1309a0009a]
noncomputable def BC:=cs [ax,jf,1105954080774,pT,1101660164104]
noncomputable def DM:=cs [1101661210630,bB,ln,1050626]
noncomputable def Af:=cs [ax,0x408000030200000c08,lO,1032,py,1056787,fq,kr,1056768,py,1056787,fq,jS]
noncomputable def E0:=cs [1032,aZ,1030,bB,0x1010010100001000,Ec]
noncomputable def BE:=cs [bj,jf,jf,jf,1105954080774,ku,n4,1037,av,1037,ae,1087373325,aw,1037,ke,bB,1105960376320,dz,1110249056256,cQ,Ao,1048581,wx,wx,wx,tN,tN,1075843076,tN,tN]
noncomputable def Cz:=cs [1224884368,aj,0x4002489200090,pB,1048722,pB,1048722]
noncomputable def Dq:=cs [ae,0x4260982600026,ai,v8,0x10500108c2a0a828]
noncomputable def DN:=cs [Ea,bj,1060,fq,1111527460,ai,nM,0x109800048260001209800,aw]
noncomputable def AE:=cs [Eb,nW,rC,gw,1096800,ae,1120,ai,0x462188000c062,jS,0x466198661906419064,aj,0x4001a06800066,sg,sg,sg,sg,0x4001b0331a0661a06800068,gw,gw,gw,lk,ax,1120,bj,1174503520,n6,0x4361b8000d86e,aw,1134,iz,1222037850222,aj,0x11c8741d0001d0001d07400072,tF,1138,tF,0x47a1c06e1b86e0d86e000361b8001e0391d072,kW,1230636171386]
noncomputable def E8:=cs [0x10f03c0f0000f0000f03c,aj,0x10f83c0f03c0003c]
noncomputable def CK:=cs [n6,jC,1070124,ae,1068,ai,1071150,ae,1070,ai,1151051258928,ps,1070,aw,1045,j7,1146802426924,aw,1068,aw,1045,b7,1068,aw,1063,pU,Bb,0x106c380e00401c1b068190143e]
noncomputable def Bd:=0x4000680c068010681a0001a
noncomputable def DV:=cs [A8,dF,fe,1042,ae,1091626,yv,rj,jC,1068,aZ,1068,dF,0x42c02007010030c400,bF,1068,dF,1102733960192,yp,mX,1048628,jC,1119900716,aZ,1068,dF,1068,bb,1068,dF,1093676,oH,ff,ff,ff,1103872,tA,g4,ax,1103926,tA,tA,gr,1103892,r3,pH,h8,1105940,nY,1108026,qQ,1161790773270,qQ,1082,As,1130391606,tA,ax,1078]
noncomputable def B6:=cs [1027,av,1027,av,ae,1104880339971,dz,km]
noncomputable def BD:=0x4000c8000c8180c8300c832
noncomputable def Eg:=cs [1046,av,1046,aw,1125281454102,ae]
noncomputable def Bh:=cs [1151059631106,uS,0x4070082e00030,j4,1060,av]
noncomputable def CG:=cs [1155610702,aj,0x109c50138501400014000140500004e,sk,1114718286,sk,1189746917454,mO,1097776,gr,1097748,r3,ai,pf,1114,qQ,1072,uS,1097776]
noncomputable def CT:=cs [1070,br,h8,1095698,dF,1070,ai]
noncomputable def Cf:=cs [1073852524,lm,1132,aj,lm,1161324]
noncomputable def BN:=cs [ax,oN,eH,1073782824,AT,dF,fe,1040,ae,1116780590,ae,1065,ax,1072176,mO,1097728,uS,0x4300200700c030c400,uS,iC,1153251198980,aj,0x1064340c8340d0000d0000d03400032,nL,1100009522,nL,1159667437618,mO,1097776,bb,1072,nY,1082,gr,1107988,r3,sq,1084,h8,1110036,ai,sv,1112126,qQ,1166085740566,qQ,1086,As,1124097072,yX,1097758,ai,0x4400001f1000007c40,uG,0x4400882208822,yX,1114142,ai,1081410,kB,ae,1116226,uG,ai,1136092283972,ae,1092,ai,kK,1096,ae,1096,fv,1096,c6,1145078852,oE,1092,ax,0x1110440900108c4a12844]
noncomputable def CQ:=cs [1064,aw,1064,aw,1064,av,1087528]
noncomputable def CM:=cs [1026,bB,ke,ek,ae,1075841026,eY,0x416058180000b0600003c200381e0341c0301a,aj,0x41000c2200016]
noncomputable def BQ:=cs [1073879174,mZ,1158,aj,mZ,1158]
noncomputable def AG:=cs [wg,mS,0x42409018048260980b060000d81008816,aj,0x41b00c3800024,od,1099539996708,kf,1110042,ai,sv,1166083651646,eH,0x43e07c400783e000460804200442108001080010820108011084200042000420804200442108001080010842,bb,1112128,ai,kK,kK,kK,1096,br,1096,ri,lB,1122376,lG,uy,1124352,ri,Bm,1043,Bm,1124372,bF,1098,ri,1105955182592,Aj,1100,nI,1100,nI,Bt,uy,1179006347264,aZ,1098,ri,1098,aw,1151336477,bb,1179046193226,ai,l6,l6,wf,r3,0x4541502915000150541502a0042315856,ax,bj,1065,oP,1086,av,0x116058160001600016058,aj,0x45c0005c0005c1705c0b85e1780307c2e0b42c01441168581605800058,ae,0x10003a0703a0003a,od,1099539996708,kf,1110042,ai,yC,Bs,jr,1074,lB,1157226,lG,u6,jr,1074,CC,1046,CC,1159191,bF,1132,jr,0x11b86e1b8060043600032,aj,0x4001c0001c0700006e,pu,kW,pu,kW,pu,kW,pu,kW,pu,1048692,jB,k9,1187042412,aZ,1132,jr,1159218,aw,1186988056,bb,1215589101676,ai,iK,iK,iK,iK,iK,1142,r3,0x4761d83a1d8001d8761d83b004231e078,ax,bj,1065,oP,1120,Bz,0x47e0007e0007e1f87e0fc80200030c03f0f83d01441,ae,0x10003a0703a0003a,od,0x11081c108540043a2183a004020081d0f03c2101b0e024,ae]
noncomputable def CD:=0x4da36800368003686c36801
noncomputable def Bg:=cs [0x13e0001ecf8000793d0ee,eY]
noncomputable def DP:=cs [ax,1230636181624,aj,1048698,xV,1146,uQ,1146,uQ,0x4002003d1f07a,ol,rU,1114242,iF,1210189824,aw,1210122370]
noncomputable def B5:=cs [0x1178be0005c2e85c2e8ba,qu,0x12f8ae000ae000ae2b8ae,fh,j9,1073934429,qV]
noncomputable def DX:=cs [zz,lo,lo,lo,xk,lD,lD,lD,zG,kQ,kQ,kQ,sM,0x4840f0840040e1088621896,kV,1078337,aw,1042,jH,1262879924376,y0,1235382426,jA,1127500,tz,ai,kO,1273457885346,eH,1073911974,lp,1025,pp,1025,pp,0x12885129050288002a85229801,bb,1214628,ai,xt,1224704,br,1196,ng,ew,1224876,e7,0x12b800158ae000562b800158ae,aZ,1198,ng,iC,1226830,bF,1198,ng,0x4ae040010dc00,bF,1198,ng,1024,hJ,1258471600,aj,1290824319152,qd,1200,iP,qd,1200,iP,qd,1200,iP,qd,0x12b8562b800158ae000562b8002d8582c8b0,aZ,1198,ng,1198,bb,1256372398,ai,0x4b80005b2e00016cb80005b2e00016cb8,dg,1208,dg,1208,kb,1208,dg,1208,iG,bj,1208,br,1208,bB,1297175732224,bF,1208,uo,1081532,dd,1143823,av,1208,av,0x4ba2e8ba2e8ba2e8ba,aj,0x4ba2e8be000ba,u7,1275165888,u7,1275165888,u7,1275165888,u7,1245380,lM,1186,av,0x1318c63180031800318c6,aj,0x1194cc3300214465190630143f320c6318c6000c6,tV,1285765322,dN,1074894948]
noncomputable def Ae:=cs [1185036,ae,1292,ai,1389422057742,ij,1294,ax,1292]
noncomputable def Dz:=cs [0x49b4e000265340f934,ae,1336,aw,0x5340013400134001362693600136]
noncomputable def D3:=cs [1176828,ae,1276,ai,1372242180350,ij,1278,ax,1276,c5,1276,av,0x500401004010040100,aj,0x5004010200100,zc,0x1410814108040900,zc,0x5044208040900]
noncomputable def Co:=cs [0x400154ac154ac2b0ac,gg,1192,iz,bj]
noncomputable def Ah:=cs [1024,gg,gg,1280076500136,ax,1192]
noncomputable def AL:=cs [0x46131061310c4,gv,1247975590,b7,1247889574,ez,1190,ae,1190,b7,1073825958,iW,1249476]
noncomputable def Bw:=cs [0x11cce80007139071390e4,qu,xJ,1256,fh,ss]
noncomputable def DR:=cs [0x148800241220008e479184791e0011e0011e,eY]
noncomputable def BP:=cs [1048876,ow,0x14c12625d30000954b0954b12c,j7,0x4004b8964b8004b800]
noncomputable def Ay:=cs [0x54e510a6538002914a2914a5294a,j7,0x1528005280052800530a55300053000]
noncomputable def BR:=cs [1266008064,ae,1392,aw,0x4b55b03e5b16c0016c0016c0016e2d96e0016e]
noncomputable def DW:=cs [0x49a2709a0040e,dd,1127500,ae]
noncomputable def AH:=cs [lr,1114242,aw,1154,jV,gE,cQ,0x444228001108a,ei,1162,jp,sp,1119372,b7,1073885324,gE,ae,0x48c2304322088,zp,b7,1099581882504,lL,1192076,zp,b7,1160,ae,lL,1190026,zp,b7,1160,ae,lL,1160,gE,gE,0x112c98220010182412843ff8060902912443ffc06090290a84810fff018240a42a0fc0010fff,b7,1160,ae,0x12204a0904a0004b26088,g6,1160,ae,1160,b7,0x4840008400084210842400022088,ae,1138243965002]
noncomputable def AJ:=0x153010000a55300028d4851948
noncomputable def CU:=0x51444914001120011245112
noncomputable def AS:=0x1520005200052000528a45280052800
noncomputable def BW:=cs [Cy,0x512441120011000110449103a8004390e4390e,zO,ae,gS,0x51446114460004500045118450004591645916,w7,1406868388094,Dc,0x148120480004800048120,aj,0x493244021580149128490014980214092244900143d489204812000120,iD,0x410000944a92a0012a0012a4a80e,dD,1124352,ke,0x53000130001304c130,aw,1038,av,1322,bB,0x12688526c892708c4a0570051a4e91a0053400134001344d132]
noncomputable def Al:=cs [BS,ww,ae,ph,0x50642800418004190a418004210842108]
noncomputable def C0:=cs [1048729,AK,1380676,aj,0x15180051800518a200d4600144,BG,bB,1030,Bi,BG,0x101803008a027c0418c00,Bi,0x5522894651146,dJ,0x556038a45294a,ae,0x1008015215852001558005580055956]
noncomputable def AZ:=cs [av,jd,zX,1088436238,ax,1025]
noncomputable def E1:=cs [1086,lr,1080384,aw,1088,jV,1147142214,cQ,kK,1084488,ei,1096,jp,uy,b7,0x111800118001284a,ae,0x44a1282211846,w1,0x44a1284e0984e0002200046,w1,1094,ae,0x4481204e0984e,w1,1094,ae,0x10a85611801018170a422ff80605c1c0a022ffc0605c1c0742708bff018170701d0780008bff1180011846000461184e0984e,b7,1094,ae,0x11183005c300002a15846,g6,1094,ae,1094,b7,1183263561798,n0,1090,ae,1124258044976,Dl,yC,Bs,wm,fe,j4,1157226,xi,u6,E7,0x10d46c0002c00430,ae,1132,b7,0x46c0d46c0006c,aZ,1132,wm,1186988140,E7,1120928816,ae,1132,av,ai,0x1000361b8000d86e]
noncomputable def DF:=cs [1220685964,aj,0x4002388e0008c,xY,1048718,xY,1048718,xY,1170,dj,0x40200494258940040e0380e0380e]
noncomputable def CA:=cs [uh,1114544089088,ai,sJ,tf,Da,ax,1159276]
noncomputable def Br:=cs [jp,nn,1106,gt,1048634,E3]
noncomputable def DI:=cs [1134,lr,1105008,aw,1136,jV,1197473910,cQ,oW,ei,1144,jp,qq,1110138,b7,0x4001d8001e87a,jk,0x47a1e83a1d876,ya,b7,0x47a1e87e0f87e0003a00076,ya,b7,jk,0x4781e07e0f87e,ya,b7,jk,0x1108861d8010182f1043aff8060bc341003affc060bc340d43f0ebff0182f0d0350d8000ebff1d8001d876000761d87e0f87e,b7,jk,1099580971126,lk,1142,g6,jk,1142,b7,1234803218550,Cp,1150078205024]
noncomputable def Cs:=cs [w9,1107329056,aj,1117782048,iU,1056,jN,1056,jN,1056,wt,dD,p4,1114549354496]
noncomputable def D8:=cs [0x11886619866198660006200062188620c4641900208c310c02f,rf,1100600064014]
noncomputable def CF:=cs [jp,0x47c1f07c0f47c,gt,0x47c0f47c0003a,aZ,1148,sY,1073868924]
noncomputable def BZ:=cs [0x111c90240020e04711845,iD,1049614]
noncomputable def DG:=cs [0x10d03310856004681a868,aw,1088436238,ai,jt,jt,jt,1136,eH,0x1004741d0001d0001d074,tF,1025,tF,0x11c0381c8371c0001e0391d001,bb,1163378,ai,qq,1230508191866,br,1146,sY,fe,1028,ae,1173626,zI,0x11f0000f47c0003d1f0000f47c,aZ,1189197948,pR,0x11f0030083500c310006e,sY,1205991550,aj,1237084799102,iq,1237016772734,iq,1237016772734,iq,0x47c0007c0f47c0003d1f0002103f2007e,br,1148,gt,1175610,ai,1116294,ic,ic,1185792,li,1048710]
noncomputable def Dg:=cs [1232658761730,aZ,1148,sY,1148,ai,0x12200010c88000432200010c88,ae,1136,av,0x12288a22800228002288a,aj,0x12308a2288a0008a]
noncomputable def BX:=cs [0x4031201c12446290540048e2508e0040e0380e,av]
noncomputable def BY:=cs [AO,hJ,iM,AY,hJ,1024,lk,dg,1120,dg,1120,iM,bj,1066,Ai,1053766,Db]
noncomputable def Ef:=cs [w9,1109428258,aj,1117782050,iU,1058,jN,1058,jN,1058,wt,dD,0x102405184000380013000]
noncomputable def AU:=cs [AO,lA,AY,1099535746101,lk,ux,ax,1120,ux,bj,1067,Ai,1053767,Db]
noncomputable def CI:=cs [u0,rA,rA,rp,sr,sr]
noncomputable def Cl:=cs [w9,1113626662,aj,1117782054,iU,1062,jN,1062,jN,1062,wt,dD,0x104405188000380013400]
noncomputable def Cq:=cs [u0,rp,qU,0x10046c1a00215001,oI]
noncomputable def Be:=cs [1191182448,cQ,1106034,nF,nF,1024,qB,qB]
noncomputable def BV:=cs [1190,ae,1247805606,aw,1190,ae,1245791396]
noncomputable def C5:=cs [1093876,av,1068,aw,1144608829484,ae,0x4300003000030]
noncomputable def AD:=cs [av,1176,ae,1233125528,aw,1176,ae,1231104150]
noncomputable def Ab:=cs [1079526,av,1054,aw,1129576429598,ae,oB]
noncomputable def hS (P:Params) (s:Str):Int:=if s.cps.isEmpty then 0 else reduceHash (P.strHash s.cps)
noncomputable def eS (P:Params) (s:Str) (t:Nat) (v:Value):DictEntry:=⟨hS P s,.str s t,v⟩
noncomputable abbrev pw:Program:=PySem.Challenge.pw_on0051_01
namespace Scr
noncomputable def tl1 {α:Type}:List α→List α
 | []=>[]
 | _::l=>l
noncomputable def tl8 {α:Type} (l:List α):List α:=tl1 (tl1 (tl1 (tl1 (tl1 (tl1 (tl1 (tl1 l)))))))
noncomputable def tlN {α:Type} (n:Nat) (l:List α):List α:=Nat.rec l (fun _ x=>tl1 x) n
noncomputable def tlE {α:Type} (n:Nat) (l:List α):List α:=Nat.rec l (fun _ x=>tl8 x) n
noncomputable def hdS:List Stmt→Stmt
 | []=>.Pass default
 | s::_=>s
noncomputable def sX (l:List Stmt) (i:Nat):Stmt:=hdS (tlN (i % 8) (tlE (i / 8) l))
noncomputable def sA (i:Nat):Stmt:=sX pw.main.body i
noncomputable def bdS:Stmt→List Stmt
 | .ClassDef _ _ _ b _ _ _ _ _ _ _=>b
 | _=>[]
noncomputable def nmS:Stmt→Str
 | .ClassDef n _ _ _ _ _ _ _ _ _ _=>n
 | .FunctionDef n _ _ _ _ _ _ _ _ _=>n
 | _=>⟨#[]⟩
noncomputable def sB (i j:Nat):Stmt:=sX (bdS (sA i)) j
noncomputable def nA (i:Nat):Str:=nmS (sA i)
noncomputable def qA (i j:Nat):Str:=⟨(nmS (sA i)).cps ++ #[46] ++ (nmS (sB i j)).cps⟩
noncomputable def fl:Str:=Gc
noncomputable def cdO (s:Stmt) (q:Str) (t l ac a u:Nat):Obj:=⟨.type L5,none,.fields #[.str (nmS s) t,.str q (t+1),.str fl (t+2),.int (Int.ofNat l) 0,.int (Int.ofNat ac) 0,.int 0 0,.int 0 0,.int 3 0,.ref a,.bool true,.int 181 0,.ref (a+1),.none,.ref (a+2),.ref (a+3),.ref (a+4),.int (Int.ofNat u) 0,.int (Int.ofNat l) 0,.str fl (u+1)],#[]⟩
noncomputable def fnO (s:Stmt) (q:Str) (g c:Nat) (df kd doc md:Value) (an:Option Nat) (ct:Value) (bu:Nat):Obj:=match s with
 | .FunctionDef n a b _ _ _ sc _ _ _=>⟨.type Le,none,.func ⟨n,q,a,.stmts b,sc,g,[],df,kd,doc,md,an,.ref c,ct,bu⟩,#[]⟩
 | _=>default
noncomputable def clsO (k:Value) (sl:List (Option Value)) (n:Str) (bs mro:List Value) (ns:Nat) (q:Str) (hd:Bool) (sn:List Str) (sc:List Value) (ab:Bool) (co:Option Bool) (del:Bool):Obj:=⟨k,none,.cls ⟨n,bs,mro,ns,q,hd,sn,sc,ab,co,del⟩,⟨sl⟩⟩
noncomputable def z0:Str:=⟨#[99,104,97,110,99,111,114,101,46,111,112,101,114,97,116,105,111,110,115]⟩
noncomputable def z1:Str:=Gc
noncomputable def z2:Str:=⟨#[99,104,97,110,99,111,114,101,46,104,101,97,112]⟩
noncomputable def z3:Str:=⟨#[108,97,119,95,111,110,48,48,53,49,95,48,49]⟩
noncomputable def z4:Str:=⟨#[95,95,100,111,99,95,95]⟩
noncomputable def z5:Str:=⟨#[95,95,105,110,105,116,95,95]⟩
noncomputable def z6:Str:=⟨#[95,95,109,111,100,117,108,101,95,95]⟩
noncomputable def z7:Str:=⟨#[95,95,102,105,114,115,116,108,105,110,101,110,111,95,95]⟩
noncomputable def z8:Str:=⟨#[95,95,115,116,97,116,105,99,95,97,116,116,114,105,98,117,116,101,115,95,95]⟩
noncomputable def z9:Str:=⟨#[95,95,119,101,97,107,114,101,102,95,95]⟩
noncomputable def z10:Str:=⟨#[99,104,97,110,99,111,114,101,46,101,114,114,111,114,115]⟩
noncomputable def z11:Str:=⟨#[95,95,100,105,99,116,95,95]⟩
noncomputable def z12:Str:=⟨#[99,104,97,110,99,111,114,101,46,109,97,112,115]⟩
noncomputable def z13:Str:=⟨#[99,104,97,110,99,111,114,101,46,115,108,105,99,101,115]⟩
noncomputable def z14:Str:=⟨#[99,104,97,110,99,111,114,101,46,119,111,114,108,100]⟩
noncomputable def z15:Str:=⟨#[99,104,97,110,99,111,114,101,46,116,101,120,116,115]⟩
noncomputable def z16:Str:=⟨#[99,104,97,110,99,111,114,101,46,105,110,116,101,103,101,114,115]⟩
noncomputable def z17:Str:=⟨#[67,104,97,110,110,101,108]⟩
noncomputable def z18:Str:=⟨#[67,104,97,110,69,114,114,111,114]⟩
noncomputable def z19:Str:=⟨#[71,111,80,97,110,105,99]⟩
noncomputable def z20:Str:=⟨#[84,97,98,108,101]⟩
noncomputable def z21:Str:=⟨#[79,112,101,114,97,116,105,111,110,115]⟩
noncomputable def z22:Str:=⟨#[67,104,111,105,99,101,115]⟩
noncomputable def z23:Str:=⟨#[67,111,100,101]⟩
noncomputable def z24:Str:=⟨#[70,114,97,109,101]⟩
noncomputable def z25:Str:=⟨#[75,101,112,116]⟩
noncomputable def z26:Str:=⟨#[72,101,97,112]⟩
noncomputable def z27:Str:=⟨#[78,97,109,101,100,82,111,119]⟩
noncomputable def z28:Str:=⟨#[87,111,114,108,100]⟩
noncomputable def z29:Str:=⟨#[99,104,97,110,99,111,114,101,46,102,114,97,109,101,115]⟩
noncomputable def z30:Str:=⟨#[99,104,97,110,99,111,114,101,46,99,104,97,110,110,101,108,115]⟩
noncomputable def z31:Str:=⟨#[95,95,109,97,105,110,95,95]⟩
noncomputable def z32:Str:=⟨#[118,97,108,117,101,95,107,101,121]⟩
noncomputable def z33:Str:=⟨#[115,108,105,99,101,95,118,97,108,117,101,115]⟩
noncomputable def z34:Str:=⟨#[111,99,116,101,116,115,95,111,102,95,114,117,110,101]⟩
noncomputable def z35:Str:=⟨#[111,99,116,101,116,115,95,111,102]⟩
noncomputable def z36:Str:=⟨#[122,101,114,111,95,118,97,108,117,101]⟩
noncomputable def z37:Str:=⟨#[95,108,97,119,95,100,111,110,101]⟩
noncomputable def z38:Str:=⟨#[95,108,97,119,95,99,111,110,118,101,114,115,105,111,110,95,114,105,103,104,116]⟩
noncomputable def z39:Str:=⟨#[95,108,97,119,95,112,108,97,99,101,115,95,114,105,103,104,116]⟩
noncomputable def z40:Str:=⟨#[95,108,97,119,95,115,105,122,101,115,95,114,105,103,104,116]⟩
noncomputable def z41:Str:=⟨#[95,108,97,119,95,119,111,114,107,101,100]⟩
noncomputable def z42:Str:=⟨#[95,108,97,119,95,111,112,101,114,97,116,111,114,115,95,114,105,103,104,116]⟩
noncomputable def z43:Str:=⟨#[99,104,97,110,99,111,114,101,46,99,104,111,105,99,101,115]⟩
noncomputable def z44:Str:=⟨#[99,104,97,110,99,111,114,101,46,99,111,100,101]⟩
noncomputable def o0 (P : Params) : Obj := ⟨(.type L0), none, .dict #[eS P FY 1 (.str G6 160), eS P z4 2 (.builtin "builtins.__doc__:str#opaque"), eS P Ga 3 (.builtin "builtins.__package__:str#opaque"), eS P Gf 4 (.builtin "builtins.__loader__:shared#opaque"), eS P FO 5 (.builtin PySem.W.SL.s11665532747177232413x24), eS P ⟨#[95, 95, 98, 117, 105, 108, 100, 95, 99, 108, 97, 115, 115, 95, 95]⟩ 6 (.builtin PySem.W.SL.s15183661809925369436x15), eS P ⟨#[95, 95, 105, 109, 112, 111, 114, 116, 95, 95]⟩ 7 (.builtin PySem.W.SL.s13915890719876406383x10), eS P ⟨#[97, 98, 115]⟩ 8 (.builtin PySem.W.SL.s13459172003223722735x3), eS P ⟨#[97, 108, 108]⟩ 9 (.builtin PySem.W.SL.s10557405761357834076x3), eS P ⟨#[97, 110, 121]⟩ 10 (.builtin PySem.W.SL.s4233737765568776869x3), eS P ⟨#[97, 115, 99, 105, 105]⟩ 11 (.builtin PySem.W.SL.s2508922471967985374x5), eS P ⟨#[98, 105, 110]⟩ 12 (.builtin PySem.W.SL.s15574269061696679450x3), eS P ⟨#[98, 114, 101, 97, 107, 112, 111, 105, 110, 116]⟩ 13 (.builtin PySem.W.SL.s6016482663378992977x10), eS P ⟨#[99, 97, 108, 108, 97, 98, 108, 101]⟩ 14 (.builtin PySem.W.SL.s5596568736180474577x8), eS P ⟨#[99, 104, 114]⟩ 15 (.builtin PySem.W.SL.s2839554839881490554x3), eS P ⟨#[99, 111, 109, 112, 105, 108, 101]⟩ 16 (.builtin PySem.W.SL.s725004073602090463x7), eS P ⟨#[100, 101, 108, 97, 116, 116, 114]⟩ 17 (.builtin PySem.W.SL.s9436932552931045734x7), eS P ⟨#[100, 105, 114]⟩ 18 (.builtin PySem.W.SL.s2754603736356183583x3), eS P ⟨#[100, 105, 118, 109, 111, 100]⟩ 19 (.builtin PySem.W.SL.s15185746759980889043x6), eS P ⟨#[101, 118, 97, 108]⟩ 20 (.builtin PySem.W.SL.s8192189862530294059x4), eS P ⟨#[101, 120, 101, 99]⟩ 21 (.builtin PySem.W.SL.s7038307821325472102x4), eS P ⟨#[102, 111, 114, 109, 97, 116]⟩ 22 (.builtin PySem.W.SL.s5662562618415449548x6), eS P ⟨#[103, 101, 116, 97, 116, 116, 114]⟩ 23 (.builtin PySem.W.SL.s15281542589158584767x7), eS P FK 24 (.builtin PySem.W.SL.s17651547275483570877x7), eS P ⟨#[104, 97, 115, 97, 116, 116, 114]⟩ 25 (.builtin PySem.W.SL.s4036449017235975746x7), eS P ⟨#[104, 97, 115, 104]⟩ 26 (.builtin PySem.W.SL.s8879979712987360175x4), eS P ⟨#[104, 101, 120]⟩ 27 (.builtin PySem.W.SL.s1801250619170735830x3), eS P ⟨#[105, 100]⟩ 28 (.builtin PySem.W.SL.s17659931425627118568x2), eS P ⟨#[105, 110, 112, 117, 116]⟩ 29 (.builtin PySem.W.SL.s6063217899685152688x5), eS P ⟨#[105, 115, 105, 110, 115, 116, 97, 110, 99, 101]⟩ 30 (.builtin PySem.W.SL.s8008927332132565319x10), eS P ⟨#[105, 115, 115, 117, 98, 99, 108, 97, 115, 115]⟩ 31 (.builtin PySem.W.SL.s3544116645089599534x10), eS P ⟨#[105, 116, 101, 114]⟩ 32 (.builtin PySem.W.SL.s13761710972054866084x4), eS P ⟨#[97, 105, 116, 101, 114]⟩ 33 (.builtin PySem.W.SL.s12896375587409280029x5), eS P Ql 34 (.builtin PySem.W.SL.s13014049009108672802x3), eS P ⟨#[108, 111, 99, 97, 108, 115]⟩ 35 (.builtin PySem.W.SL.s13935586738268321596x6), eS P ⟨#[109, 97, 120]⟩ 36 (.builtin PySem.W.SL.s8200498257699607233x3), eS P ⟨#[109, 105, 110]⟩ 37 (.builtin PySem.W.SL.s14114244577727609259x3), eS P ⟨#[110, 101, 120, 116]⟩ 38 (.builtin PySem.W.SL.s1499430450269397089x4), eS P ⟨#[97, 110, 101, 120, 116]⟩ 39 (.builtin PySem.W.SL.s8755793994789770505x5), eS P ⟨#[111, 99, 116]⟩ 40 (.builtin PySem.W.SL.s15725212667919936108x3), eS P ⟨#[111, 114, 100]⟩ 41 (.builtin PySem.W.SL.s15791221867095933363x3), eS P ⟨#[112, 111, 119]⟩ 42 (.builtin PySem.W.SL.s81309575031448614x3), eS P ⟨#[112, 114, 105, 110, 116]⟩ 43 (.builtin PySem.W.SL.s8069831620301644142x5), eS P ⟨#[114, 101, 112, 114]⟩ 44 (.builtin PySem.W.SL.s10061844253413749634x4), eS P ⟨#[114, 111, 117, 110, 100]⟩ 45 (.builtin PySem.W.SL.s9496514870978017513x5), eS P ⟨#[115, 101, 116, 97, 116, 116, 114]⟩ 46 (.builtin PySem.W.SL.s8899691144933366716x7), eS P ⟨#[115, 111, 114, 116, 101, 100]⟩ 47 (.builtin PySem.W.SL.s15201008993051130160x6), eS P ⟨#[115, 117, 109]⟩ 48 (.builtin PySem.W.SL.s741896355592496720x3), eS P ⟨#[118, 97, 114, 115]⟩ 49 (.builtin PySem.W.SL.s17925004256654032244x4), eS P ⟨#[78, 111, 110, 101]⟩ 50 .none, eS P ⟨#[69, 108, 108, 105, 112, 115, 105, 115]⟩ 51 .ellipsis, eS P ⟨#[78, 111, 116, 73, 109, 112, 108, 101, 109, 101, 110, 116, 101, 100]⟩ 52 .notImplemented, eS P ⟨#[70, 97, 108, 115, 101]⟩ 53 (.bool false), eS P ⟨#[84, 114, 117, 101]⟩ 54 (.bool true), eS P EE 55 (.type PySem.W.SL.s11695548795398191787x4), eS P ⟨#[109, 101, 109, 111, 114, 121, 118, 105, 101, 119]⟩ 56 (.type PySem.W.SL.s4156966113859768872x10), eS P ⟨#[98, 121, 116, 101, 97, 114, 114, 97, 121]⟩ 57 (.type PySem.W.SL.s9501651726347032510x9), eS P ⟨#[98, 121, 116, 101, 115]⟩ 58 (.type PySem.W.SL.s15722918466584999320x5), eS P ⟨#[99, 108, 97, 115, 115, 109, 101, 116, 104, 111, 100]⟩ 59 (.type PySem.W.SL.s591115383303110208x11), eS P ⟨#[99, 111, 109, 112, 108, 101, 120]⟩ 60 (.type PySem.W.SL.s15721156781594690315x7), eS P ⟨#[100, 105, 99, 116]⟩ 61 (.type L0), eS P ⟨#[101, 110, 117, 109, 101, 114, 97, 116, 101]⟩ 62 (.type PySem.W.SL.s14340494229221121180x9), eS P ⟨#[102, 105, 108, 116, 101, 114]⟩ 63 (.type PySem.W.SL.s13429844117177748173x6), eS P ⟨#[102, 108, 111, 97, 116]⟩ 64 (.type PySem.W.SL.s16463266125957815391x5), eS P ⟨#[102, 114, 111, 122, 101, 110, 115, 101, 116]⟩ 65 (.type PySem.W.SL.s4922535414793169389x9), eS P ⟨#[112, 114, 111, 112, 101, 114, 116, 121]⟩ 66 (.type PySem.W.SL.s8101838861749082086x8), eS P Q1 67 (.type PySem.W.SL.s7066276694103001551x3), eS P ⟨#[108, 105, 115, 116]⟩ 68 (.type Lh), eS P Qe 69 (.type PySem.W.SL.s462964344163437139x3), eS P ⟨#[111, 98, 106, 101, 99, 116]⟩ 70 (.type L1), eS P ⟨#[114, 97, 110, 103, 101]⟩ 71 (.type PySem.W.SL.s1438033511350832697x5), eS P ⟨#[114, 101, 118, 101, 114, 115, 101, 100]⟩ 72 (.type PySem.W.SL.s14365286008749172514x8), eS P ⟨#[115, 101, 116]⟩ 73 (.type PySem.W.SL.s3642769012341782148x3), eS P Qi 74 (.type PySem.W.SL.s4674234679698826739x5), eS P ⟨#[115, 116, 97, 116, 105, 99, 109, 101, 116, 104, 111, 100]⟩ 75 (.type PySem.W.SL.s16656946322747308186x12), eS P ⟨#[115, 116, 114]⟩ 76 (.type PySem.W.SL.s10796804682411823810x3), eS P ⟨#[115, 117, 112, 101, 114]⟩ 77 (.type PySem.W.SL.s4290257624100764138x5), eS P ⟨#[116, 117, 112, 108, 101]⟩ 78 (.type L4), eS P ⟨#[116, 121, 112, 101]⟩ 79 (.type L6), eS P ⟨#[122, 105, 112]⟩ 80 (.type PySem.W.SL.s14339709457334898076x3), eS P ⟨#[95, 95, 100, 101, 98, 117, 103, 95, 95]⟩ 81 (.bool true), eS P ⟨#[66, 97, 115, 101, 69, 120, 99, 101, 112, 116, 105, 111, 110]⟩ 82 (.type Lf), eS P ⟨#[66, 97, 115, 101, 69, 120, 99, 101, 112, 116, 105, 111, 110, 71, 114, 111, 117, 112]⟩ 83 (.type PySem.W.SL.s6585700554429387442x18), eS P ⟨#[69, 120, 99, 101, 112, 116, 105, 111, 110]⟩ 84 (.type L9), eS P ⟨#[71, 101, 110, 101, 114, 97, 116, 111, 114, 69, 120, 105, 116]⟩ 85 (.type PySem.W.SL.s7410770068591931388x13), eS P ⟨#[75, 101, 121, 98, 111, 97, 114, 100, 73, 110, 116, 101, 114, 114, 117, 112, 116]⟩ 86 (.type PySem.W.SL.s11817881795495490833x17), eS P ⟨#[83, 121, 115, 116, 101, 109, 69, 120, 105, 116]⟩ 87 (.type PySem.W.SL.s15679963881808890155x10), eS P ⟨#[65, 114, 105, 116, 104, 109, 101, 116, 105, 99, 69, 114, 114, 111, 114]⟩ 88 (.type PySem.W.SL.s3871700062485845797x15), eS P ⟨#[65, 115, 115, 101, 114, 116, 105, 111, 110, 69, 114, 114, 111, 114]⟩ 89 (.type PySem.W.SL.s7689518266570723881x14), eS P ⟨#[65, 116, 116, 114, 105, 98, 117, 116, 101, 69, 114, 114, 111, 114]⟩ 90 (.type PySem.W.SL.s9001593270443806431x14), eS P ⟨#[66, 117, 102, 102, 101, 114, 69, 114, 114, 111, 114]⟩ 91 (.type PySem.W.SL.s6882542574934516792x11), eS P ⟨#[69, 79, 70, 69, 114, 114, 111, 114]⟩ 92 (.type PySem.W.SL.s14403400214490484960x8), eS P ⟨#[73, 109, 112, 111, 114, 116, 69, 114, 114, 111, 114]⟩ 93 (.type PySem.W.SL.s14457978657717015782x11), eS P ⟨#[76, 111, 111, 107, 117, 112, 69, 114, 114, 111, 114]⟩ 94 (.type PySem.W.SL.s1753610191782819921x11), eS P ⟨#[77, 101, 109, 111, 114, 121, 69, 114, 114, 111, 114]⟩ 95 (.type PySem.W.SL.s14119380538032626715x11), eS P ⟨#[78, 97, 109, 101, 69, 114, 114, 111, 114]⟩ 96 (.type PySem.W.SL.s11437920000406562045x9), eS P ⟨#[79, 83, 69, 114, 114, 111, 114]⟩ 97 (.type Lg), eS P ⟨#[82, 101, 102, 101, 114, 101, 110, 99, 101, 69, 114, 114, 111, 114]⟩ 98 (.type PySem.W.SL.s14816307405966870543x14), eS P ⟨#[82, 117, 110, 116, 105, 109, 101, 69, 114, 114, 111, 114]⟩ 99 (.type PySem.W.SL.s8682627914449686677x12), eS P ⟨#[83, 116, 111, 112, 65, 115, 121, 110, 99, 73, 116, 101, 114, 97, 116, 105, 111, 110]⟩ 100 (.type PySem.W.SL.s4428170145600203450x18), eS P ⟨#[83, 116, 111, 112, 73, 116, 101, 114, 97, 116, 105, 111, 110]⟩ 101 (.type PySem.W.SL.s5991306692159431302x13), eS P ⟨#[83, 121, 110, 116, 97, 120, 69, 114, 114, 111, 114]⟩ 102 (.type PySem.W.SL.s16067994140765818257x11), eS P ⟨#[83, 121, 115, 116, 101, 109, 69, 114, 114, 111, 114]⟩ 103 (.type PySem.W.SL.s2327743974964600596x11), eS P ⟨#[84, 121, 112, 101, 69, 114, 114, 111, 114]⟩ 104 (.type PySem.W.SL.s2804747833354056582x9), eS P ⟨#[86, 97, 108, 117, 101, 69, 114, 114, 111, 114]⟩ 105 (.type PySem.W.SL.s6070975301684473832x10), eS P ⟨#[87, 97, 114, 110, 105, 110, 103]⟩ 106 (.type PySem.W.SL.s14270485950484850486x7), eS P ⟨#[70, 108, 111, 97, 116, 105, 110, 103, 80, 111, 105, 110, 116, 69, 114, 114, 111, 114]⟩ 107 (.type PySem.W.SL.s12041534306414923332x18), eS P ⟨#[79, 118, 101, 114, 102, 108, 111, 119, 69, 114, 114, 111, 114]⟩ 108 (.type PySem.W.SL.s2531307568338490285x13), eS P ⟨#[90, 101, 114, 111, 68, 105, 118, 105, 115, 105, 111, 110, 69, 114, 114, 111, 114]⟩ 109 (.type PySem.W.SL.s631175304937289666x17), eS P ⟨#[66, 121, 116, 101, 115, 87, 97, 114, 110, 105, 110, 103]⟩ 110 (.type PySem.W.SL.s5144983644357021410x12), eS P ⟨#[68, 101, 112, 114, 101, 99, 97, 116, 105, 111, 110, 87, 97, 114, 110, 105, 110, 103]⟩ 111 (.type PySem.W.SL.s18039099521571816885x18), eS P ⟨#[69, 110, 99, 111, 100, 105, 110, 103, 87, 97, 114, 110, 105, 110, 103]⟩ 112 (.type PySem.W.SL.s6011586214260557989x15), eS P ⟨#[70, 117, 116, 117, 114, 101, 87, 97, 114, 110, 105, 110, 103]⟩ 113 (.type PySem.W.SL.s5430567037509283100x13), eS P ⟨#[73, 109, 112, 111, 114, 116, 87, 97, 114, 110, 105, 110, 103]⟩ 114 (.type PySem.W.SL.s8117915138073963741x13), eS P ⟨#[80, 101, 110, 100, 105, 110, 103, 68, 101, 112, 114, 101, 99, 97, 116, 105, 111, 110, 87, 97, 114, 110, 105, 110, 103]⟩ 115 (.type PySem.W.SL.s3423317712779056401x25), eS P ⟨#[82, 101, 115, 111, 117, 114, 99, 101, 87, 97, 114, 110, 105, 110, 103]⟩ 116 (.type PySem.W.SL.s2007317383269046180x15), eS P ⟨#[82, 117, 110, 116, 105, 109, 101, 87, 97, 114, 110, 105, 110, 103]⟩ 117 (.type PySem.W.SL.s17481586968713580700x14), eS P ⟨#[83, 121, 110, 116, 97, 120, 87, 97, 114, 110, 105, 110, 103]⟩ 118 (.type PySem.W.SL.s2450899226349176912x13), eS P ⟨#[85, 110, 105, 99, 111, 100, 101, 87, 97, 114, 110, 105, 110, 103]⟩ 119 (.type PySem.W.SL.s16626165730633575011x14), eS P ⟨#[85, 115, 101, 114, 87, 97, 114, 110, 105, 110, 103]⟩ 120 (.type PySem.W.SL.s14288496050688921416x11), eS P ⟨#[66, 108, 111, 99, 107, 105, 110, 103, 73, 79, 69, 114, 114, 111, 114]⟩ 121 (.type PySem.W.SL.s5735081916595925998x15), eS P ⟨#[67, 104, 105, 108, 100, 80, 114, 111, 99, 101, 115, 115, 69, 114, 114, 111, 114]⟩ 122 (.type PySem.W.SL.s3865607918536308442x17), eS P ⟨#[67, 111, 110, 110, 101, 99, 116, 105, 111, 110, 69, 114, 114, 111, 114]⟩ 123 (.type PySem.W.SL.s13337502604062700212x15), eS P ⟨#[70, 105, 108, 101, 69, 120, 105, 115, 116, 115, 69, 114, 114, 111, 114]⟩ 124 (.type PySem.W.SL.s13114017843053701147x15), eS P ⟨#[70, 105, 108, 101, 78, 111, 116, 70, 111, 117, 110, 100, 69, 114, 114, 111, 114]⟩ 125 (.type PySem.W.SL.s17467278006356818441x17), eS P ⟨#[73, 110, 116, 101, 114, 114, 117, 112, 116, 101, 100, 69, 114, 114, 111, 114]⟩ 126 (.type PySem.W.SL.s17722149559621369488x16), eS P ⟨#[73, 115, 65, 68, 105, 114, 101, 99, 116, 111, 114, 121, 69, 114, 114, 111, 114]⟩ 127 (.type PySem.W.SL.s7855274175708717672x17), eS P ⟨#[78, 111, 116, 65, 68, 105, 114, 101, 99, 116, 111, 114, 121, 69, 114, 114, 111, 114]⟩ 128 (.type PySem.W.SL.s13351283678309829046x18), eS P ⟨#[80, 101, 114, 109, 105, 115, 115, 105, 111, 110, 69, 114, 114, 111, 114]⟩ 129 (.type PySem.W.SL.s6668348653404991179x15), eS P ⟨#[80, 114, 111, 99, 101, 115, 115, 76, 111, 111, 107, 117, 112, 69, 114, 114, 111, 114]⟩ 130 (.type PySem.W.SL.s12913350958174193794x18), eS P ⟨#[84, 105, 109, 101, 111, 117, 116, 69, 114, 114, 111, 114]⟩ 131 (.type PySem.W.SL.s16115879512475548326x12), eS P ⟨#[73, 110, 100, 101, 110, 116, 97, 116, 105, 111, 110, 69, 114, 114, 111, 114]⟩ 132 (.type PySem.W.SL.s15920661018069861047x16), eS P ⟨#[95, 73, 110, 99, 111, 109, 112, 108, 101, 116, 101, 73, 110, 112, 117, 116, 69, 114, 114, 111, 114]⟩ 133 (.type PySem.W.SL.s10779130036587390575x21), eS P ⟨#[73, 110, 100, 101, 120, 69, 114, 114, 111, 114]⟩ 134 (.type PySem.W.SL.s7801419657504700863x10), eS P ⟨#[75, 101, 121, 69, 114, 114, 111, 114]⟩ 135 (.type PySem.W.SL.s1688129525768580628x8), eS P ⟨#[77, 111, 100, 117, 108, 101, 78, 111, 116, 70, 111, 117, 110, 100, 69, 114, 114, 111, 114]⟩ 136 (.type PySem.W.SL.s1031832959479892071x19), eS P ⟨#[78, 111, 116, 73, 109, 112, 108, 101, 109, 101, 110, 116, 101, 100, 69, 114, 114, 111, 114]⟩ 137 (.type PySem.W.SL.s8991790508128307865x19), eS P ⟨#[80, 121, 116, 104, 111, 110, 70, 105, 110, 97, 108, 105, 122, 97, 116, 105, 111, 110, 69, 114, 114, 111, 114]⟩ 138 (.type PySem.W.SL.s14539662485746970245x23), eS P ⟨#[82, 101, 99, 117, 114, 115, 105, 111, 110, 69, 114, 114, 111, 114]⟩ 139 (.type PySem.W.SL.s11643622729373238714x14), eS P ⟨#[85, 110, 98, 111, 117, 110, 100, 76, 111, 99, 97, 108, 69, 114, 114, 111, 114]⟩ 140 (.type PySem.W.SL.s3386828779285465597x17), eS P ⟨#[85, 110, 105, 99, 111, 100, 101, 69, 114, 114, 111, 114]⟩ 141 (.type PySem.W.SL.s13042696260734638735x12), eS P ⟨#[66, 114, 111, 107, 101, 110, 80, 105, 112, 101, 69, 114, 114, 111, 114]⟩ 142 (.type PySem.W.SL.s18239426817015966623x15), eS P ⟨#[67, 111, 110, 110, 101, 99, 116, 105, 111, 110, 65, 98, 111, 114, 116, 101, 100, 69, 114, 114, 111, 114]⟩ 143 (.type PySem.W.SL.s1270395311379034370x22), eS P ⟨#[67, 111, 110, 110, 101, 99, 116, 105, 111, 110, 82, 101, 102, 117, 115, 101, 100, 69, 114, 114, 111, 114]⟩ 144 (.type PySem.W.SL.s10696252587037064777x22), eS P ⟨#[67, 111, 110, 110, 101, 99, 116, 105, 111, 110, 82, 101, 115, 101, 116, 69, 114, 114, 111, 114]⟩ 145 (.type PySem.W.SL.s7852717498200857586x20), eS P ⟨#[84, 97, 98, 69, 114, 114, 111, 114]⟩ 146 (.type PySem.W.SL.s6377248116197321094x8), eS P ⟨#[85, 110, 105, 99, 111, 100, 101, 68, 101, 99, 111, 100, 101, 69, 114, 114, 111, 114]⟩ 147 (.type La), eS P ⟨#[85, 110, 105, 99, 111, 100, 101, 69, 110, 99, 111, 100, 101, 69, 114, 114, 111, 114]⟩ 148 (.type PySem.W.SL.s17586630440231065808x18), eS P ⟨#[85, 110, 105, 99, 111, 100, 101, 84, 114, 97, 110, 115, 108, 97, 116, 101, 69, 114, 114, 111, 114]⟩ 149 (.type PySem.W.SL.s15234114252648025395x21), eS P ⟨#[69, 120, 99, 101, 112, 116, 105, 111, 110, 71, 114, 111, 117, 112]⟩ 150 (.type PySem.W.SL.s8496462677383758984x14), eS P ⟨#[69, 110, 118, 105, 114, 111, 110, 109, 101, 110, 116, 69, 114, 114, 111, 114]⟩ 151 (.type Lg), eS P ⟨#[73, 79, 69, 114, 114, 111, 114]⟩ 152 (.type Lg), eS P ⟨#[111, 112, 101, 110]⟩ 153 (.builtin PySem.W.SL.s16789243406116112673x4), eS P ⟨#[113, 117, 105, 116]⟩ 154 (.builtin PySem.W.SL.s14400166428656793546x20), eS P ⟨#[101, 120, 105, 116]⟩ 155 (.builtin PySem.W.SL.s5857708277339239366x20), eS P ⟨#[99, 111, 112, 121, 114, 105, 103, 104, 116]⟩ 156 (.builtin "builtins.copyright#opaque"), eS P ⟨#[99, 114, 101, 100, 105, 116, 115]⟩ 157 (.builtin "builtins.credits#opaque"), eS P ⟨#[108, 105, 99, 101, 110, 115, 101]⟩ 158 (.builtin "builtins.license#opaque"), eS P ⟨#[104, 101, 108, 112]⟩ 159 (.builtin PySem.W.SL.s7804999707787243718x20)] 159, #[]⟩
noncomputable def o1 (P:Params):Obj:=⟨(.type L0),none,.dict #[eS P G6 162 (.ref 4),eS P z31 163 (.ref 5)] 2,#[]⟩
noncomputable def o2 (P:Params):Obj:=⟨.none,none,.dict #[eS P ⟨#[116,121,112,101,46,95,95,115,117,98,99,108,97,115,115,101,115,95,95,46,69,120,99,101,112,116,105,111,110,46,48]⟩ 341 (.int 128 0),eS P ⟨#[116,121,112,101,46,95,95,115,117,98,99,108,97,115,115,101,115,95,95,46,69,120,99,101,112,116,105,111,110,46,110]⟩ 342 (.int 1 0)] 2,#[]⟩
noncomputable def o3 (P:Params):Obj:=⟨(.type L0),none,.dict #[eS P FY 165 (.str z3 2352),eS P z4 166 .none,eS P Ga 167 .none,eS P Gf 168 (.builtin PySem.W.SL.s7097527257260152453x26),eS P FO 169 .none,eS P ⟨#[95,95,97,110,110,111,116,97,116,105,111,110,115,95,95]⟩ 170 (.ref 6),eS P ⟨#[95,95,98,117,105,108,116,105,110,115,95,95]⟩ 171 (.ref 4),eS P ⟨#[95,95,102,105,108,101,95,95]⟩ 173 (.str z1 172),eS P ⟨#[95,95,99,97,99,104,101,100,95,95]⟩ 174 .none,eS P ⟨#[95,119,97,108,108]⟩ 193 (.ref 21),eS P ⟨#[83,69,78,68,95,79,78,95,67,76,79,83,69,68]⟩ 197 (.str ⟨#[115,101,110,100,32,111,110,32,99,108,111,115,101,100,32,99,104,97,110,110,101,108]⟩ 196),eS P ⟨#[67,76,79,83,69,95,79,70,95,67,76,79,83,69,68]⟩ 199 (.str ⟨#[99,108,111,115,101,32,111,102,32,99,108,111,115,101,100,32,99,104,97,110,110,101,108]⟩ 198),eS P ⟨#[119,111,107,101,110,95,114,111,119]⟩ 207 (.ref 28),eS P ⟨#[111,110,99,101,95,97,95,115,101,108,101,99,116]⟩ 218 (.ref 35),eS P z17 310 (.ref 106),eS P z18 344 (.ref 128),eS P ⟨#[78,97,109,101,70,97,117,108,116]⟩ 360 (.ref 141),eS P ⟨#[84,121,112,101,70,97,117,108,116]⟩ 376 (.ref 153),eS P ⟨#[77,97,99,104,105,110,101,70,97,117,108,116]⟩ 402 (.ref 172),eS P ⟨#[70,117,101,108,70,97,117,108,116]⟩ 418 (.ref 184),eS P z19 443 (.ref 203),eS P ⟨#[82,85,78,84,73,77,69,95,69,82,82,79,82]⟩ 446 (.ref 206),eS P ⟨#[114,117,110,116,105,109,101,95,112,97,110,105,99]⟩ 453 (.ref 213),eS P ⟨#[82,101,97,99,104,101,100]⟩ 486 (.ref 230),eS P ⟨#[119,105,116,104,111,117,116,95,112,111,105,110,116,101,114]⟩ 493 (.ref 241),eS P ⟨#[111,119,110,95,109,101,116,104,111,100,115]⟩ 501 (.ref 248),eS P ⟨#[109,101,109,98,101,114,115,95,97,116]⟩ 507 (.ref 253),eS P ⟨#[101,109,98,101,100,100,101,100,95,105,110]⟩ 520 (.ref 260),eS P ⟨#[76,101,118,101,108,115]⟩ 562 (.ref 284),eS P ⟨#[115,116,97,114,116,95,116,121,112,101]⟩ 572 (.ref 295),eS P ⟨#[102,105,110,100,95,109,101,109,98,101,114]⟩ 585 (.ref 302),eS P ⟨#[110,97,109,101,115,95,111,102,95,109,101,116,104,111,100,115]⟩ 601 (.ref 309),eS P ⟨#[109,101,109,98,101,114,95,111,114,95,110,111,110,101]⟩ 610 (.ref 316),eS P ⟨#[105,115,95,105,110,95,115,101,116]⟩ 616 (.ref 321),eS P ⟨#[109,101,116,104,111,100,95,115,101,116]⟩ 629 (.ref 328),eS P ⟨#[108,97,99,107,95,111,102]⟩ 640 (.ref 335),eS P ⟨#[105,109,112,108,101,109,101,110,116,115]⟩ 652 (.ref 342),eS P ⟨#[102,97,99,101,95,102,105,116,115]⟩ 663 (.ref 349),eS P ⟨#[75,73,78,68,95,66,73,84,83]⟩ 696 (.ref 350),eS P ⟨#[83,72,73,70,84,73,78,71,95,79,80,83]⟩ 699 (.ref 351),eS P ⟨#[104,97,115,95,115,105,103,110]⟩ 706 (.ref 358),eS P ⟨#[108,101,97,115,116,95,105,110,116]⟩ 713 (.ref 365),eS P ⟨#[119,114,97,112,112,101,100,95,105,110,116]⟩ 722 (.ref 372),eS P ⟨#[99,117,116,95,113,117,111,116,105,101,110,116]⟩ 731 (.ref 379),eS P ⟨#[115,104,105,102,116,101,100,95,105,110,116]⟩ 741 (.ref 386),eS P ⟨#[101,120,97,99,116,95,114,101,115,117,108,116]⟩ 751 (.ref 393),eS P ⟨#[105,110,116,95,97,114,105,116,104,109,101,116,105,99]⟩ 761 (.ref 400),eS P ⟨#[105,110,116,95,117,110,97,114,121]⟩ 770 (.ref 407),eS P ⟨#[105,115,95,111,114,100,101,114,101,100,95,115,111]⟩ 779 (.ref 414),eS P ⟨#[76,79,79,83,69,95,84,65,71,83]⟩ 785 (.ref 415),eS P ⟨#[118,97,108,117,101,95,116,97,103]⟩ 792 (.ref 422),eS P ⟨#[102,97,99,101,115,95,101,113,117,97,108]⟩ 801 (.ref 429),eS P ⟨#[118,97,108,117,101,115,95,101,113,117,97,108]⟩ 813 (.ref 436),eS P z32 819 (.ref 441),eS P z20 902 (.ref 500),eS P ⟨#[101,110,116,114,121,95,110,117,109,98,101,114]⟩ 909 (.ref 511),eS P ⟨#[84,97,98,108,101,87,97,108,107]⟩ 958 (.ref 540),eS P ⟨#[110,105,108,95,109,97,112,95,112,97,110,105,99]⟩ 964 (.ref 551),eS P ⟨#[83,77,65,76,76,95,82,79,79,77]⟩ 968 (.int 8 967),eS P ⟨#[77,79,83,84,95,82,79,79,77]⟩ 972 (.int 1048576 971),eS P ⟨#[115,108,105,99,101,95,112,97,114,116,115]⟩ 979 (.ref 558),eS P ⟨#[115,108,105,99,101,95,108,101,110,103,116,104]⟩ 986 (.ref 565),eS P ⟨#[115,108,105,99,101,95,114,111,111,109]⟩ 993 (.ref 572),eS P ⟨#[99,101,108,108,95,112,108,97,99,101]⟩ 1003 (.ref 579),eS P ⟨#[112,108,97,99,101,95,105,110]⟩ 1015 (.ref 586),eS P ⟨#[98,111,117,110,100,115,95,112,97,110,105,99]⟩ 1021 (.ref 593),eS P ⟨#[99,117,116,95,115,108,105,99,101]⟩ 1035 (.ref 600),eS P ⟨#[99,117,116,95,97,114,114,97,121]⟩ 1046 (.ref 607),eS P ⟨#[109,97,100,101,95,115,108,105,99,101]⟩ 1057 (.ref 614),eS P ⟨#[103,114,111,119,110,95,114,111,111,109]⟩ 1065 (.ref 621),eS P z33 1071 (.ref 626),eS P ⟨#[112,117,116,95,118,97,108,117,101,115]⟩ 1083 (.ref 633),eS P ⟨#[97,112,112,101,110,100,101,100,95,115,108,105,99,101]⟩ 1102 (.ref 640),eS P ⟨#[99,111,112,105,101,100,95,118,97,108,117,101,115]⟩ 1116 (.ref 647),eS P ⟨#[99,111,112,105,101,100,95,115,108,105,99,101]⟩ 1126 (.ref 654),eS P ⟨#[87,82,79,78,71,95,82,85,78,69]⟩ 1130 (.int 65533 1129),eS P ⟨#[76,65,83,84,95,82,85,78,69]⟩ 1132 (.int 1114111 1131),eS P ⟨#[70,73,82,83,84,95,72,65,76,70]⟩ 1134 (.int 55296 1133),eS P ⟨#[76,65,83,84,95,72,65,76,70]⟩ 1136 (.int 57343 1135),eS P ⟨#[76,79,78,71,95,72,69,65,68,83]⟩ 1146 (.ref 658),eS P ⟨#[105,115,95,114,105,103,104,116,95,114,117,110,101]⟩ 1153 (.ref 665),eS P ⟨#[104,101,97,100,95,111,102]⟩ 1164 (.ref 672),eS P ⟨#[114,117,110,101,95,97,116]⟩ 1178 (.ref 679),eS P ⟨#[114,117,110,101,115,95,111,102]⟩ 1189 (.ref 686),eS P ⟨#[114,117,110,101,95,112,108,97,99,101,115]⟩ 1200 (.ref 693),eS P z34 1206 (.ref 698),eS P z35 1212 (.ref 703),eS P ⟨#[99,117,116,95,116,101,120,116]⟩ 1221 (.ref 710),eS P ⟨#[117,110,100,101,114,108,121,105,110,103,95,111,102]⟩ 1231 (.ref 717),eS P ⟨#[105,115,95,99,111,109,112,97,114,97,98,108,101]⟩ 1237 (.ref 722),eS P z36 1243 (.ref 727),eS P ⟨#[67,79,77,80,65,82,69,68,95,79,80,83]⟩ 1252 (.ref 728),eS P ⟨#[77,79,83,84,95,79,67,84,69,84,83]⟩ 1256 (.int 1048576 1255),eS P ⟨#[84,101,120,116,87,97,108,107]⟩ 1300 (.ref 759),eS P ⟨#[99,104,101,99,107,101,100,95,112,108,97,99,101]⟩ 1308 (.ref 770),eS P ⟨#[116,97,114,103,101,116,95,111,102]⟩ 1315 (.ref 777),eS P z21 1784 (.ref 1079),eS P z22 1825 (.ref 1107),eS P z23 1892 (.ref 1148),eS P z24 1993 (.ref 1222),eS P ⟨#[105,110,110,101,114,95,111,102]⟩ 2003 (.ref 1233),eS P ⟨#[112,97,114,116,95,98,101,104,105,110,100]⟩ 2012 (.ref 1240),eS P ⟨#[119,105,116,104,95,112,97,114,116]⟩ 2026 (.ref 1247),eS P ⟨#[108,101,100,95,102,108,97,116]⟩ 2035 (.ref 1254),eS P z25 2068 (.ref 1271),eS P z26 2242 (.ref 1404),eS P ⟨#[80,76,65,73,78]⟩ 2246 (.ref 1411),eS P z27 2281 (.ref 1428),eS P ⟨#[107,110,111,119,110,95,114,111,119,115]⟩ 2293 (.ref 1439),eS P z28 2351 (.ref 1471),eS P ⟨#[95,108,97,119,95,112,111,111,108]⟩ 2364 (.ref 1482),eS P ⟨#[95,108,97,119,95,116,97,107,101]⟩ 2373 (.ref 1489),eS P ⟨#[95,108,97,119,95,111,110,101]⟩ 2381 (.ref 1496),eS P z37 2387 (.ref 1501),eS P ⟨#[95,108,97,119,95,99,111,110,115,116]⟩ 2395 (.ref 1508),eS P ⟨#[95,108,97,119,95,108,111,119]⟩ 2405 (.ref 1515),eS P z38 2411 (.ref 1520),eS P z39 2417 (.ref 1525),eS P ⟨#[95,108,97,119,95,112,97,114,116,115,95,114,105,103,104,116]⟩ 2441 (.ref 1532),eS P z40 2447 (.ref 1537),eS P ⟨#[95,108,97,119,95,109,97,112,115,95,114,105,103,104,116]⟩ 2463 (.ref 1544),eS P ⟨#[95,108,97,119,95,102,97,99,101,115,95,114,105,103,104,116]⟩ 2479 (.ref 1551),eS P z41 2485 (.ref 1556),eS P z42 2491 (.ref 1561),eS P ⟨#[108,97,119]⟩ 2503 (.ref 1568)] 125,#[]⟩
noncomputable def o10 (P:Params):Obj:=⟨(.type L2),none,.plain,#[some (.ref 9),some (.ref 3),some (.ref 3),none,some (.str z31 164),none,some (.ref 0)]⟩
noncomputable def o14 (P:Params):Obj:=⟨(.type L2),none,.plain,#[some (.ref 13),some (.ref 3),some (.ref 3),none,some (.str z31 164),none,some (.ref 0)]⟩
noncomputable def o42 (P:Params):Obj:=⟨(.type L2),none,.plain,#[some (.ref 41),some (.ref 3),some (.ref 38),none,some (.str z30 194),none,some (.ref 0)]⟩
noncomputable def o48 (P:Params):Obj:=cdO (sB 6 0) (qA 6 0) 231 18 2 43 236
noncomputable def o49 (P:Params):Obj:=fnO (sB 6 0) (qA 6 0) 3 48 .none .none .none (.str z30 194) none .none 0
noncomputable def o102 (P:Params):Obj:=cdO (sB 6 8) (qA 6 8) 291 56 1 97 295
noncomputable def o103 (P:Params):Obj:=fnO (sB 6 8) (qA 6 8) 3 102 .none .none .none (.str z30 194) none .none 0
noncomputable def o105 (P:Params):Obj:=⟨(.type L0),none,.dict #[eS P z6 226 (.str z30 194),eS P z7 230 (.int 16 229),eS P z5 238 (.ref 49),eS P ⟨#[99,97,110,95,115,101,110,100]⟩ 245 (.ref 56),eS P ⟨#[99,97,110,95,114,101,99,101,105,118,101]⟩ 252 (.ref 63),eS P ⟨#[111,102,102,101,114]⟩ 260 (.ref 70),eS P ⟨#[116,97,107,101]⟩ 268 (.ref 77),eS P G5 276 (.ref 84),eS P ⟨#[99,108,111,115,101]⟩ 282 (.ref 89),eS P ⟨#[102,111,114,103,101,116]⟩ 290 (.ref 96),eS P Qj 297 (.ref 103),eS P z8 303 (.ref 104),eS P z11 305 (.ref 107),eS P z9 307 (.ref 108),eS P z4 308 .none] 4,#[]⟩
noncomputable def o106 (P:Params):Obj:=clsO (.type L6) [none,none,some (.str z17 219),some (.str z17 227),some (.builtin L8),some (.bool true)] z17 [(.type L1)] [(.ref 106),(.type L1)] 105 z17 true [] [] false none false
noncomputable def o117 (P:Params):Obj:=⟨(.type L2),none,.plain,#[some (.ref 116),some (.ref 3),some (.ref 113),none,some (.str z10 311),none,some (.ref 0)]⟩
noncomputable def o118 (P:Params):Obj:=⟨(.type L4),none,.seq #[(.int 0 325)] 0,#[]⟩
noncomputable def o124 (P:Params):Obj:=cdO (sB 8 0) (qA 8 0) 326 61 3 119 332
noncomputable def o125 (P:Params):Obj:=fnO (sB 8 0) (qA 8 0) 3 124 (.ref 118) .none .none (.str z10 311) none .none 0
noncomputable def o127 (P:Params):Obj:=⟨(.type L0),none,.dict #[eS P z6 320 (.str z10 311),eS P z7 324 (.int 59 323),eS P z5 334 (.ref 125),eS P z8 337 (.ref 126),eS P z9 339 (.ref 129),eS P z4 340 .none] 3,#[]⟩
noncomputable def o128 (P:Params):Obj:=clsO (.type L6) [some (.ref 111),none,some (.str z18 313),some (.str z18 321),some (.builtin Li),some (.bool true)] z18 [(.type L9)] [(.ref 128),(.type L9),(.type Lf),(.type L1)] 127 z18 true [] [(.ref 141),(.ref 153),(.ref 172),(.ref 184),(.ref 203)] false none false
noncomputable def o138 (P:Params):Obj:=⟨(.type L2),none,.plain,#[some (.ref 137),some (.ref 3),some (.ref 134),none,some (.str z10 311),none,some (.ref 0)]⟩
noncomputable def o150 (P:Params):Obj:=⟨(.type L2),none,.plain,#[some (.ref 149),some (.ref 3),some (.ref 146),none,some (.str z10 311),none,some (.ref 0)]⟩
noncomputable def o162 (P:Params):Obj:=⟨(.type L2),none,.plain,#[some (.ref 161),some (.ref 3),some (.ref 158),none,some (.str z10 311),none,some (.ref 0)]⟩
noncomputable def o181 (P:Params):Obj:=⟨(.type L2),none,.plain,#[some (.ref 180),some (.ref 3),some (.ref 177),none,some (.str z10 311),none,some (.ref 0)]⟩
noncomputable def o193 (P:Params):Obj:=⟨(.type L2),none,.plain,#[some (.ref 192),some (.ref 3),some (.ref 189),none,some (.str z10 311),none,some (.ref 0)]⟩
noncomputable def o199 (P:Params):Obj:=cdO (sB 13 0) (qA 13 0) 431 78 2 194 436
noncomputable def o200 (P:Params):Obj:=fnO (sB 13 0) (qA 13 0) 3 199 .none .none .none (.str z10 311) none .none 0
noncomputable def o202 (P:Params):Obj:=⟨(.type L0),none,.dict #[eS P z6 426 (.str z10 311),eS P z7 430 (.int 76 429),eS P z5 438 (.ref 200),eS P z8 440 (.ref 201),eS P z4 441 .none] 2,#[]⟩
noncomputable def o203 (P:Params):Obj:=clsO (.type L6) [some (.ref 187),none,some (.str z19 419),some (.str z19 427),some (.builtin Li),some (.bool true)] z19 [(.ref 128)] [(.ref 203),(.ref 128),(.type L9),(.type Lf),(.type L1)] 202 z19 true [] [] false none false
noncomputable def o212 (P:Params):Obj:=cdO (sA 15) (nA 15) 447 82 1 207 451
noncomputable def o213 (P:Params):Obj:=fnO (sA 15) (nA 15) 3 212 .none .none .none (.str z10 311) none .none 0
noncomputable def o220 (P:Params):Obj:=⟨(.type L2),none,.plain,#[some (.ref 219),some (.ref 3),some (.ref 216),none,some (.str G1 454),none,some (.ref 0)]⟩
noncomputable def o267 (P:Params):Obj:=⟨(.type L2),none,.plain,#[some (.ref 266),some (.ref 3),some (.ref 263),none,some (.str G1 454),none,some (.ref 0)]⟩
noncomputable def o348 (P:Params):Obj:=cdO (sA 33) (nA 33) 655 202 3 343 661
noncomputable def o349 (P:Params):Obj:=fnO (sA 33) (nA 33) 3 348 .none .none .none (.str ⟨#[99,104,97,110,99,111,114,101,46,100,105,115,112,97,116,99,104]⟩ 653) none .none 0
noncomputable def o350 (P:Params):Obj:=⟨(.type L0),none,.dict #[eS P Q1 666 (.int 64 667),eS P Q0 668 (.int 8 669),eS P ⟨#[105,110,116,49,54]⟩ 670 (.int 16 671),eS P ⟨#[105,110,116,51,50]⟩ 672 (.int 32 673),eS P Q2 674 (.int 64 675),eS P ⟨#[117,105,110,116]⟩ 676 (.int 64 677),eS P Q3 678 (.int 8 679),eS P Q4 680 (.int 16 681),eS P Gh 682 (.int 32 683),eS P FS 684 (.int 64 685)] 10,#[]⟩
noncomputable def o351 (P:Params):Obj:=⟨(.type L4),none,.seq #[(.str ⟨#[60,60]⟩ 697),(.str ⟨#[62,62]⟩ 698)] 0,#[]⟩
noncomputable def o357 (P:Params):Obj:=cdO (sA 37) (nA 37) 700 209 1 352 704
noncomputable def o358 (P:Params):Obj:=fnO (sA 37) (nA 37) 3 357 .none .none .none (.str z16 664) none .none 0
noncomputable def o364 (P:Params):Obj:=cdO (sA 38) (nA 38) 707 211 1 359 711
noncomputable def o365 (P:Params):Obj:=fnO (sA 38) (nA 38) 3 364 .none .none .none (.str z16 664) none .none 0
noncomputable def o371 (P:Params):Obj:=cdO (sA 39) (nA 39) 714 213 2 366 720
noncomputable def o372 (P:Params):Obj:=fnO (sA 39) (nA 39) 3 371 .none .none .none (.str z16 664) none .none 0
noncomputable def o392 (P:Params):Obj:=cdO (sA 42) (nA 42) 742 224 3 387 749
noncomputable def o393 (P:Params):Obj:=fnO (sA 42) (nA 42) 3 392 .none .none .none (.str z16 664) none .none 0
noncomputable def o399 (P:Params):Obj:=cdO (sA 43) (nA 43) 752 241 4 394 759
noncomputable def o400 (P:Params):Obj:=fnO (sA 43) (nA 43) 3 399 .none .none .none (.str z16 664) none .none 0
noncomputable def o413 (P:Params):Obj:=cdO (sA 45) (nA 45) 771 249 3 408 777
noncomputable def o414 (P:Params):Obj:=fnO (sA 45) (nA 45) 3 413 .none .none .none (.str z16 664) none .none 0
noncomputable def o415 (P:Params):Obj:=⟨(.type L4),none,.seq #[(.str Qi 782),(.str Qe 783),(.str ⟨#[102,117,110,99]⟩ 784)] 0,#[]⟩
noncomputable def o421 (P:Params):Obj:=cdO (sA 48) (nA 48) 786 261 1 416 790
noncomputable def o422 (P:Params):Obj:=fnO (sA 48) (nA 48) 3 421 .none .none .none (.str FZ 780) none .none 0
noncomputable def o440 (P:Params):Obj:=⟨(.type L5),none,.fields #[(.str z32 814),(.str z32 815),(.str z1 816),(.int 289 0),(.int 2 0),(.int 0 0),(.int 0 0),(.int 3 0),(.ref 437),(.bool true),(.int 181 0),(.ref 438),.none,.none,.none,(.ref 439),(.int 817 0),(.int 289 0),(.str z1 818)],#[]⟩
noncomputable def o441 (P:Params):Obj:=fnO (sA 51) (nA 51) 3 440 .none .none .none (.str FZ 780) none .none 0
noncomputable def o448 (P:Params):Obj:=⟨(.type L2),none,.plain,#[some (.ref 447),some (.ref 3),some (.ref 444),none,some (.str z12 820),none,some (.ref 0)]⟩
noncomputable def o454 (P:Params):Obj:=cdO (sB 53 0) (qA 53 0) 834 303 2 449 839
noncomputable def o455 (P:Params):Obj:=fnO (sB 53 0) (qA 53 0) 3 454 .none .none .none (.str z12 820) none .none 0
noncomputable def o461 (P:Params):Obj:=cdO (sB 53 1) (qA 53 1) 842 308 2 456 847
noncomputable def o462 (P:Params):Obj:=fnO (sB 53 1) (qA 53 1) 3 461 .none .none .none (.str z12 820) none .none 0
noncomputable def o468 (P:Params):Obj:=cdO (sB 53 2) (qA 53 2) 850 311 1 463 854
noncomputable def o469 (P:Params):Obj:=fnO (sB 53 2) (qA 53 2) 3 468 .none .none .none (.str z12 820) none .none 0
noncomputable def o475 (P:Params):Obj:=cdO (sB 53 3) (qA 53 3) 857 314 2 470 863
noncomputable def o476 (P:Params):Obj:=fnO (sB 53 3) (qA 53 3) 3 475 .none .none .none (.str z12 820) none .none 0
noncomputable def o482 (P:Params):Obj:=cdO (sB 53 4) (qA 53 4) 866 318 3 477 874
noncomputable def o483 (P:Params):Obj:=fnO (sB 53 4) (qA 53 4) 3 482 .none .none .none (.str z12 820) none .none 0
noncomputable def o489 (P:Params):Obj:=cdO (sB 53 5) (qA 53 5) 877 327 2 484 882
noncomputable def o490 (P:Params):Obj:=fnO (sB 53 5) (qA 53 5) 3 489 .none .none .none (.str z12 820) none .none 0
noncomputable def o499 (P:Params):Obj:=⟨(.type L0),none,.dict #[eS P z6 829 (.str z12 820),eS P z7 833 (.int 301 832),eS P z5 841 (.ref 455),eS P ⟨#[109,97,114,107,95,111,102]⟩ 849 (.ref 462),eS P Qj 856 (.ref 469),eS P ⟨#[103,101,116]⟩ 865 (.ref 476),eS P ⟨#[112,117,116]⟩ 876 (.ref 483),eS P ⟨#[114,101,109,111,118,101]⟩ 884 (.ref 490),eS P ⟨#[114,111,119,115]⟩ 891 (.ref 497),eS P z8 895 (.ref 498),eS P z11 897 (.ref 501),eS P z9 899 (.ref 502),eS P z4 900 .none] 4,#[]⟩
noncomputable def o500 (P:Params):Obj:=clsO (.type L6) [none,none,some (.str z20 822),some (.str z20 830),some (.builtin L8),some (.bool true)] z20 [(.type L1)] [(.ref 500),(.type L1)] 499 z20 true [] [] false none false
noncomputable def o518 (P:Params):Obj:=⟨(.type L2),none,.plain,#[some (.ref 517),some (.ref 3),some (.ref 514),none,some (.str z12 820),none,some (.ref 0)]⟩
noncomputable def o550 (P:Params):Obj:=cdO (sA 56) (nA 56) 959 353 0 545 962
noncomputable def o551 (P:Params):Obj:=fnO (sA 56) (nA 56) 3 550 .none .none .none (.str z12 820) none .none 0
noncomputable def o557 (P:Params):Obj:=cdO (sA 60) (nA 60) 973 358 1 552 977
noncomputable def o558 (P:Params):Obj:=fnO (sA 60) (nA 60) 3 557 .none .none .none (.str z13 965) none .none 0
noncomputable def o564 (P:Params):Obj:=cdO (sA 61) (nA 61) 980 360 1 559 984
noncomputable def o565 (P:Params):Obj:=fnO (sA 61) (nA 61) 3 564 .none .none .none (.str z13 965) none .none 0
noncomputable def o571 (P:Params):Obj:=cdO (sA 62) (nA 62) 987 362 1 566 991
noncomputable def o572 (P:Params):Obj:=fnO (sA 62) (nA 62) 3 571 .none .none .none (.str z13 965) none .none 0
noncomputable def o578 (P:Params):Obj:=cdO (sA 63) (nA 63) 994 364 2 573 1001
noncomputable def o579 (P:Params):Obj:=fnO (sA 63) (nA 63) 3 578 .none .none .none (.str z13 965) none .none 0
noncomputable def o585 (P:Params):Obj:=cdO (sA 64) (nA 64) 1004 367 2 580 1013
noncomputable def o586 (P:Params):Obj:=fnO (sA 64) (nA 64) 3 585 .none .none .none (.str z13 965) none .none 0
noncomputable def o592 (P:Params):Obj:=cdO (sA 65) (nA 65) 1016 372 0 587 1019
noncomputable def o593 (P:Params):Obj:=fnO (sA 65) (nA 65) 3 592 .none .none .none (.str z13 965) none .none 0
noncomputable def o599 (P:Params):Obj:=cdO (sA 66) (nA 66) 1022 374 4 594 1033
noncomputable def o600 (P:Params):Obj:=fnO (sA 66) (nA 66) 3 599 .none .none .none (.str z13 965) none .none 0
noncomputable def o606 (P:Params):Obj:=cdO (sA 67) (nA 67) 1036 384 5 601 1044
noncomputable def o607 (P:Params):Obj:=fnO (sA 67) (nA 67) 3 606 .none .none .none (.str z13 965) none .none 0
noncomputable def o625 (P:Params):Obj:=⟨(.type L5),none,.fields #[(.str z33 1066),(.str z33 1067),(.str z1 1068),(.int 394 0),(.int 2 0),(.int 0 0),(.int 0 0),(.int 3 0),(.ref 622),(.bool true),(.int 181 0),(.ref 623),.none,.none,.none,(.ref 624),(.int 1069 0),(.int 394 0),(.str z1 1070)],#[]⟩
noncomputable def o626 (P:Params):Obj:=fnO (sA 70) (nA 70) 3 625 .none .none .none (.str z13 965) none .none 0
noncomputable def o655 (P:Params):Obj:=⟨(.type L4),none,.seq #[(.int 192 1137),(.int 223 1138),(.int 128 1139)] 0,#[]⟩
noncomputable def o656 (P:Params):Obj:=⟨(.type L4),none,.seq #[(.int 224 1140),(.int 239 1141),(.int 2048 1142)] 0,#[]⟩
noncomputable def o657 (P:Params):Obj:=⟨(.type L4),none,.seq #[(.int 240 1143),(.int 247 1144),(.int 65536 1145)] 0,#[]⟩
noncomputable def o658 (P:Params):Obj:=⟨(.type L4),none,.seq #[(.ref 655),(.ref 656),(.ref 657)] 0,#[]⟩
noncomputable def o664 (P:Params):Obj:=cdO (sA 81) (nA 81) 1147 427 1 659 1151
noncomputable def o665 (P:Params):Obj:=fnO (sA 81) (nA 81) 3 664 .none .none .none (.str z15 1127) none .none 0
noncomputable def o671 (P:Params):Obj:=cdO (sA 82) (nA 82) 1154 429 1 666 1162
noncomputable def o672 (P:Params):Obj:=fnO (sA 82) (nA 82) 3 671 .none .none .none (.str z15 1127) none .none 0
noncomputable def o678 (P:Params):Obj:=cdO (sA 83) (nA 83) 1165 435 2 673 1176
noncomputable def o679 (P:Params):Obj:=fnO (sA 83) (nA 83) 3 678 .none .none .none (.str z15 1127) none .none 0
noncomputable def o685 (P:Params):Obj:=cdO (sA 84) (nA 84) 1179 448 1 680 1187
noncomputable def o686 (P:Params):Obj:=fnO (sA 84) (nA 84) 3 685 .none .none .none (.str z15 1127) none .none 0
noncomputable def o697 (P:Params):Obj:=⟨(.type L5),none,.fields #[(.str z34 1201),(.str z34 1202),(.str z1 1203),(.int 462 0),(.int 1 0),(.int 0 0),(.int 0 0),(.int 3 0),(.ref 694),(.bool true),(.int 181 0),(.ref 695),.none,.none,.none,(.ref 696),(.int 1204 0),(.int 462 0),(.str z1 1205)],#[]⟩
noncomputable def o698 (P:Params):Obj:=fnO (sA 86) (nA 86) 3 697 .none .none .none (.str z15 1127) none .none 0
noncomputable def o702 (P:Params):Obj:=⟨(.type L5),none,.fields #[(.str z35 1207),(.str z35 1208),(.str z1 1209),(.int 470 0),(.int 1 0),(.int 0 0),(.int 0 0),(.int 3 0),(.ref 699),(.bool true),(.int 181 0),(.ref 700),.none,.none,.none,(.ref 701),(.int 1210 0),(.int 470 0),(.str z1 1211)],#[]⟩
noncomputable def o703 (P:Params):Obj:=fnO (sA 87) (nA 87) 3 702 .none .none .none (.str z15 1127) none .none 0
noncomputable def o709 (P:Params):Obj:=cdO (sA 88) (nA 88) 1213 472 3 704 1219
noncomputable def o710 (P:Params):Obj:=fnO (sA 88) (nA 88) 3 709 .none .none .none (.str z15 1127) none .none 0
noncomputable def o716 (P:Params):Obj:=cdO (sA 90) (nA 90) 1224 477 2 711 1229
noncomputable def o717 (P:Params):Obj:=fnO (sA 90) (nA 90) 3 716 .none .none .none (.str G4 1222) none .none 0
noncomputable def o726 (P:Params):Obj:=⟨(.type L5),none,.fields #[(.str z36 1238),(.str z36 1239),(.str z1 1240),(.int 494 0),(.int 2 0),(.int 0 0),(.int 0 0),(.int 3 0),(.ref 723),(.bool true),(.int 181 0),(.ref 724),.none,.none,.none,(.ref 725),(.int 1241 0),(.int 494 0),(.str z1 1242)],#[]⟩
noncomputable def o727 (P:Params):Obj:=fnO (sA 92) (nA 92) 3 726 .none .none .none (.str G4 1222) none .none 0
noncomputable def o728 (P:Params):Obj:=⟨(.type L4),none,.seq #[(.str ⟨#[61,61]⟩ 1246),(.str ⟨#[33,61]⟩ 1247),(.str ⟨#[60]⟩ 1248),(.str ⟨#[60,61]⟩ 1249),(.str ⟨#[62]⟩ 1250),(.str Qy 1251)] 0,#[]⟩
noncomputable def o735 (P:Params):Obj:=⟨(.type L2),none,.plain,#[some (.ref 734),some (.ref 3),some (.ref 731),none,some (.str z0 1244),none,some (.ref 0)]⟩
noncomputable def o769 (P:Params):Obj:=cdO (sA 97) (nA 97) 1301 520 2 764 1306
noncomputable def o770 (P:Params):Obj:=fnO (sA 97) (nA 97) 3 769 .none .none .none (.str z0 1244) none .none 0
noncomputable def o776 (P:Params):Obj:=cdO (sA 98) (nA 98) 1309 524 1 771 1313
noncomputable def o777 (P:Params):Obj:=fnO (sA 98) (nA 98) 3 776 .none .none .none (.str z0 1244) none .none 0
noncomputable def o784 (P:Params):Obj:=⟨(.type L2),none,.plain,#[some (.ref 783),some (.ref 3),some (.ref 780),none,some (.str z0 1244),none,some (.ref 0)]⟩
noncomputable def o790 (P:Params):Obj:=cdO (sB 99 0) (qA 99 0) 1328 530 5 785 1336
noncomputable def o791 (P:Params):Obj:=fnO (sB 99 0) (qA 99 0) 3 790 .none .none .none (.str z0 1244) none .none 0
noncomputable def o804 (P:Params):Obj:=cdO (sB 99 2) (qA 99 2) 1347 540 3 799 1353
noncomputable def o805 (P:Params):Obj:=fnO (sB 99 2) (qA 99 2) 3 804 .none .none .none (.str z0 1244) none .none 0
noncomputable def o812 (P:Params):Obj:=fnO (sB 99 3) (qA 99 3) 3 811 .none .none .none (.str z0 1244) none .none 0
noncomputable def o818 (P:Params):Obj:=cdO (sB 99 4) (qA 99 4) 1364 546 2 813 1369
noncomputable def o819 (P:Params):Obj:=fnO (sB 99 4) (qA 99 4) 3 818 .none .none .none (.str z0 1244) none .none 0
noncomputable def o825 (P:Params):Obj:=cdO (sB 99 5) (qA 99 5) 1372 549 2 820 1377
noncomputable def o826 (P:Params):Obj:=fnO (sB 99 5) (qA 99 5) 3 825 .none .none .none (.str z0 1244) none .none 0
noncomputable def o832 (P:Params):Obj:=cdO (sB 99 6) (qA 99 6) 1380 552 5 827 1390
noncomputable def o833 (P:Params):Obj:=fnO (sB 99 6) (qA 99 6) 3 832 .none .none .none (.str z0 1244) none .none 0
noncomputable def o847 (P:Params):Obj:=fnO (sB 99 8) (qA 99 8) 3 846 .none .none .none (.str z0 1244) none .none 0
noncomputable def o853 (P:Params):Obj:=cdO (sB 99 9) (qA 99 9) 1411 565 3 848 1421
noncomputable def o854 (P:Params):Obj:=fnO (sB 99 9) (qA 99 9) 3 853 .none .none .none (.str z0 1244) none .none 0
noncomputable def o860 (P:Params):Obj:=cdO (sB 99 10) (qA 99 10) 1424 569 5 855 1433
noncomputable def o861 (P:Params):Obj:=fnO (sB 99 10) (qA 99 10) 3 860 .none .none .none (.str z0 1244) none .none 0
noncomputable def o867 (P:Params):Obj:=cdO (sB 99 11) (qA 99 11) 1436 575 5 862 1444
noncomputable def o868 (P:Params):Obj:=fnO (sB 99 11) (qA 99 11) 3 867 .none .none .none (.str z0 1244) none .none 0
noncomputable def o875 (P:Params):Obj:=fnO (sB 99 12) (qA 99 12) 3 874 .none .none .none (.str z0 1244) none .none 0
noncomputable def o881 (P:Params):Obj:=cdO (sB 99 13) (qA 99 13) 1458 586 3 876 1467
noncomputable def o882 (P:Params):Obj:=fnO (sB 99 13) (qA 99 13) 3 881 .none .none .none (.str z0 1244) none .none 0
noncomputable def o888 (P:Params):Obj:=cdO (sB 99 14) (qA 99 14) 1470 590 4 883 1478
noncomputable def o889 (P:Params):Obj:=fnO (sB 99 14) (qA 99 14) 3 888 .none .none .none (.str z0 1244) none .none 0
noncomputable def o896 (P:Params):Obj:=fnO (sB 99 15) (qA 99 15) 3 895 .none .none .none (.str z0 1244) none .none 0
noncomputable def o903 (P:Params):Obj:=fnO (sB 99 16) (qA 99 16) 3 902 .none .none .none (.str z0 1244) none .none 0
noncomputable def o909 (P:Params):Obj:=cdO (sB 99 17) (qA 99 17) 1499 609 3 904 1507
noncomputable def o910 (P:Params):Obj:=fnO (sB 99 17) (qA 99 17) 3 909 .none .none .none (.str z0 1244) none .none 0
noncomputable def o917 (P:Params):Obj:=fnO (sB 99 18) (qA 99 18) 3 916 .none .none .none (.str z0 1244) none .none 0
noncomputable def o923 (P:Params):Obj:=cdO (sB 99 19) (qA 99 19) 1519 617 3 918 1525
noncomputable def o924 (P:Params):Obj:=fnO (sB 99 19) (qA 99 19) 3 923 .none .none .none (.str z0 1244) none .none 0
noncomputable def o930 (P:Params):Obj:=cdO (sB 99 20) (qA 99 20) 1528 620 3 925 1534
noncomputable def o931 (P:Params):Obj:=fnO (sB 99 20) (qA 99 20) 3 930 .none .none .none (.str z0 1244) none .none 0
noncomputable def o937 (P:Params):Obj:=cdO (sB 99 21) (qA 99 21) 1537 623 3 932 1545
noncomputable def o938 (P:Params):Obj:=fnO (sB 99 21) (qA 99 21) 3 937 .none .none .none (.str z0 1244) none .none 0
noncomputable def o944 (P:Params):Obj:=cdO (sB 99 22) (qA 99 22) 1548 627 3 939 1558
noncomputable def o945 (P:Params):Obj:=fnO (sB 99 22) (qA 99 22) 3 944 .none .none .none (.str z0 1244) none .none 0
noncomputable def o952 (P:Params):Obj:=fnO (sB 99 23) (qA 99 23) 3 951 .none .none .none (.str z0 1244) none .none 0
noncomputable def o956 (P:Params):Obj:=⟨(.type L5),none,.fields #[(.str FT 1575),(.str ⟨#[79,112,101,114,97,116,105,111,110,115,46,100,111,95,99,117,116]⟩ 1576),(.str z1 1577),(.int 648 0),(.int 3 0),(.int 0 0),(.int 0 0),(.int 3 0),(.ref 953),(.bool true),(.int 181 0),(.ref 954),.none,.none,.none,(.ref 955),(.int 1578 0),(.int 648 0),(.str z1 1579)],#[]⟩
noncomputable def o957 (P:Params):Obj:=fnO (sB 99 24) (qA 99 24) 3 956 .none .none .none (.str z0 1244) none .none 0
noncomputable def o963 (P:Params):Obj:=cdO (sB 99 25) (qA 99 25) 1581 661 4 958 1589
noncomputable def o964 (P:Params):Obj:=fnO (sB 99 25) (qA 99 25) 3 963 .none .none .none (.str z0 1244) none .none 0
noncomputable def o978 (P:Params):Obj:=fnO (sB 99 27) (qA 99 27) 3 977 .none .none .none (.str z0 1244) none .none 0
noncomputable def o985 (P:Params):Obj:=fnO (sB 99 28) (qA 99 28) 3 984 .none .none .none (.str z0 1244) none .none 0
noncomputable def o991 (P:Params):Obj:=cdO (sB 99 29) (qA 99 29) 1625 685 3 986 1633
noncomputable def o992 (P:Params):Obj:=fnO (sB 99 29) (qA 99 29) 3 991 .none .none .none (.str z0 1244) none .none 0
noncomputable def o998 (P:Params):Obj:=cdO (sB 99 30) (qA 99 30) 1636 689 4 993 1644
noncomputable def o999 (P:Params):Obj:=fnO (sB 99 30) (qA 99 30) 3 998 .none .none .none (.str z0 1244) none .none 0
noncomputable def o1005 (P:Params):Obj:=cdO (sB 99 31) (qA 99 31) 1647 703 3 1000 1653
noncomputable def o1006 (P:Params):Obj:=fnO (sB 99 31) (qA 99 31) 3 1005 .none .none .none (.str z0 1244) none .none 0
noncomputable def o1012 (P:Params):Obj:=cdO (sB 99 32) (qA 99 32) 1656 706 2 1007 1661
noncomputable def o1013 (P:Params):Obj:=fnO (sB 99 32) (qA 99 32) 3 1012 .none .none .none (.str z0 1244) none .none 0
noncomputable def o1019 (P:Params):Obj:=cdO (sB 99 33) (qA 99 33) 1664 709 3 1014 1675
noncomputable def o1020 (P:Params):Obj:=fnO (sB 99 33) (qA 99 33) 3 1019 .none .none .none (.str z0 1244) none .none 0
noncomputable def o1026 (P:Params):Obj:=cdO (sB 99 34) (qA 99 34) 1678 718 3 1021 1690
noncomputable def o1027 (P:Params):Obj:=fnO (sB 99 34) (qA 99 34) 3 1026 .none .none .none (.str z0 1244) none .none 0
noncomputable def o1033 (P:Params):Obj:=cdO (sB 99 35) (qA 99 35) 1693 729 3 1028 1704
noncomputable def o1034 (P:Params):Obj:=fnO (sB 99 35) (qA 99 35) 3 1033 .none .none .none (.str z0 1244) none .none 0
noncomputable def o1041 (P:Params):Obj:=fnO (sB 99 36) (qA 99 36) 3 1040 .none .none .none (.str z0 1244) none .none 0
noncomputable def o1048 (P:Params):Obj:=fnO (sB 99 37) (qA 99 37) 3 1047 .none .none .none (.str z0 1244) none .none 0
noncomputable def o1054 (P:Params):Obj:=cdO (sB 99 38) (qA 99 38) 1728 756 3 1049 1735
noncomputable def o1055 (P:Params):Obj:=fnO (sB 99 38) (qA 99 38) 3 1054 .none .none .none (.str z0 1244) none .none 0
noncomputable def o1061 (P:Params):Obj:=cdO (sB 99 39) (qA 99 39) 1738 762 3 1056 1746
noncomputable def o1062 (P:Params):Obj:=fnO (sB 99 39) (qA 99 39) 3 1061 .none .none .none (.str z0 1244) none .none 0
noncomputable def o1068 (P:Params):Obj:=cdO (sB 99 40) (qA 99 40) 1749 767 3 1063 1760
noncomputable def o1069 (P:Params):Obj:=fnO (sB 99 40) (qA 99 40) 3 1068 .none .none .none (.str z0 1244) none .none 0
noncomputable def o1076 (P:Params):Obj:=fnO (sB 99 41) (qA 99 41) 3 1075 .none .none .none (.str z0 1244) none .none 0
noncomputable def o1078 (P:Params):Obj:=⟨(.type L0),none,.dict #[eS P z6 1323 (.str z0 1244),eS P z7 1327 (.int 528 1326),eS P z5 1338 (.ref 791),eS P ⟨#[107,110,111,119,115]⟩ 1346 (.ref 798),eS P ⟨#[100,111]⟩ 1355 (.ref 805),eS P Qk 1363 (.ref 812),eS P ⟨#[122,101,114,111]⟩ 1371 (.ref 819),eS P Q8 1379 (.ref 826),eS P ⟨#[107,101,112,116]⟩ 1392 (.ref 833),eS P ⟨#[116,111,108,100,95,116,121,112,101]⟩ 1401 (.ref 840),eS P ⟨#[100,111,95,109,111,118,101]⟩ 1410 (.ref 847),eS P ⟨#[100,111,95,98,105,110,97,114,121]⟩ 1423 (.ref 854),eS P ⟨#[99,111,109,112,97,114,101,100]⟩ 1435 (.ref 861),eS P ⟨#[119,111,114,107,101,100]⟩ 1446 (.ref 868),eS P ⟨#[100,111,95,117,110,97,114,121]⟩ 1457 (.ref 875),eS P ⟨#[100,111,95,99,111,110,118,101,114,116]⟩ 1469 (.ref 882),eS P ⟨#[99,111,110,118,101,114,116,101,100]⟩ 1480 (.ref 889),eS P ⟨#[100,111,95,109,97,100,101]⟩ 1489 (.ref 896),eS P ⟨#[100,111,95,112,97,114,116]⟩ 1498 (.ref 903),eS P ⟨#[100,111,95,101,108,101,109]⟩ 1509 (.ref 910),eS P ⟨#[100,111,95,110,101,119]⟩ 1518 (.ref 917),eS P ⟨#[100,111,95,108,111,97,100]⟩ 1527 (.ref 924),eS P ⟨#[100,111,95,115,116,111,114,101]⟩ 1536 (.ref 931),eS P ⟨#[100,111,95,102,105,101,108,100,112,116,114]⟩ 1547 (.ref 938),eS P ⟨#[100,111,95,101,108,101,109,112,116,114]⟩ 1560 (.ref 945),eS P ⟨#[100,111,95,109,97,107,101,115,108,105,99,101]⟩ 1574 (.ref 952),eS P FT 1580 (.ref 957),eS P ⟨#[116,101,120,116,95,99,117,116]⟩ 1591 (.ref 964),eS P ⟨#[108,105,115,116,101,100]⟩ 1599 (.ref 971),eS P ⟨#[100,111,95,97,112,112,101,110,100]⟩ 1613 (.ref 978),eS P ⟨#[100,111,95,99,111,112,121]⟩ 1624 (.ref 985),eS P ⟨#[100,111,95,115,105,122,101]⟩ 1635 (.ref 992),eS P ⟨#[115,105,122,101,95,111,102]⟩ 1646 (.ref 999),eS P ⟨#[100,111,95,109,97,107,101,109,97,112]⟩ 1655 (.ref 1006),eS P ⟨#[116,97,98,108,101,95,111,102]⟩ 1663 (.ref 1013),eS P ⟨#[100,111,95,109,97,112,103,101,116]⟩ 1677 (.ref 1020),eS P ⟨#[100,111,95,109,97,112,115,101,116]⟩ 1692 (.ref 1027),eS P ⟨#[100,111,95,109,97,112,100,101,108]⟩ 1706 (.ref 1034),eS P ⟨#[100,111,95,105,116,101,114]⟩ 1717 (.ref 1041),eS P ⟨#[100,111,95,110,101,120,116]⟩ 1727 (.ref 1048),eS P ⟨#[100,111,95,109,97,107,101,99,104,97,110]⟩ 1737 (.ref 1055),eS P ⟨#[100,111,95,102,97,99,101]⟩ 1748 (.ref 1062),eS P ⟨#[100,111,95,97,115,115,101,114,116]⟩ 1762 (.ref 1069),eS P ⟨#[100,111,95,99,108,111,115,117,114,101]⟩ 1771 (.ref 1076),eS P z8 1777 (.ref 1077),eS P z11 1779 (.ref 1080),eS P z9 1781 (.ref 1081),eS P z4 1782 .none] 4,#[]⟩
noncomputable def o1079 (P:Params):Obj:=clsO (.type L6) [none,none,some (.str z21 1316),some (.str z21 1324),some (.builtin L8),some (.bool true)] z21 [(.type L1)] [(.ref 1079),(.type L1)] 1078 z21 true [] [] false none false
noncomputable def o1090 (P:Params):Obj:=⟨(.type L2),none,.plain,#[some (.ref 1089),some (.ref 3),some (.ref 1086),none,some (.str z43 1785),none,some (.ref 0)]⟩
noncomputable def o1096 (P:Params):Obj:=cdO (sB 101 0) (qA 101 0) 1799 782 2 1091 1804
noncomputable def o1097 (P:Params):Obj:=fnO (sB 101 0) (qA 101 0) 3 1096 .none .none .none (.str z43 1785) none .none 0
noncomputable def o1106 (P:Params):Obj:=⟨(.type L0),none,.dict #[eS P z6 1794 (.str z43 1785),eS P z7 1798 (.int 780 1797),eS P z5 1806 (.ref 1097),eS P ⟨#[112,105,99,107]⟩ 1815 (.ref 1104),eS P z8 1818 (.ref 1105),eS P z11 1820 (.ref 1108),eS P z9 1822 (.ref 1109),eS P z4 1823 .none] 4,#[]⟩
noncomputable def o1107 (P:Params):Obj:=clsO (.type L6) [none,none,some (.str z22 1787),some (.str z22 1795),some (.builtin L8),some (.bool true)] z22 [(.type L1)] [(.ref 1107),(.type L1)] 1106 z22 true [] [] false none false
noncomputable def o1118 (P:Params):Obj:=⟨(.type L2),none,.plain,#[some (.ref 1117),some (.ref 3),some (.ref 1114),none,some (.str z44 1826),none,some (.ref 0)]⟩
noncomputable def o1119 (P:Params):Obj:=⟨(.type L4),none,.seq #[(.int 0 1840),(.int 0 1841),.none] 0,#[]⟩
noncomputable def o1125 (P:Params):Obj:=cdO (sB 103 0) (qA 103 0) 1842 795 8 1120 1853
noncomputable def o1126 (P:Params):Obj:=fnO (sB 103 0) (qA 103 0) 3 1125 (.ref 1119) .none .none (.str z44 1826) none .none 0
noncomputable def o1147 (P:Params):Obj:=⟨(.type L0),none,.dict #[eS P z6 1835 (.str z44 1826),eS P z7 1839 (.int 793 1838),eS P z5 1855 (.ref 1126),eS P ⟨#[105,110,115,116,114,117,99,116,105,111,110,115]⟩ 1863 (.ref 1133),eS P ⟨#[116,101,114,109,105,110,97,116,111,114]⟩ 1871 (.ref 1140),eS P Qb 1877 (.ref 1145),eS P z8 1885 (.ref 1146),eS P z11 1887 (.ref 1149),eS P z9 1889 (.ref 1150),eS P z4 1890 .none] 4,#[]⟩
noncomputable def o1148 (P:Params):Obj:=clsO (.type L6) [none,none,some (.str z23 1828),some (.str z23 1836),some (.builtin L8),some (.bool true)] z23 [(.type L1)] [(.ref 1148),(.type L1)] 1147 z23 true [] [] false none false
noncomputable def o1159 (P:Params):Obj:=⟨(.type L2),none,.plain,#[some (.ref 1158),some (.ref 3),some (.ref 1155),none,some (.str z29 1893),none,some (.ref 0)]⟩
noncomputable def o1160 (P:Params):Obj:=⟨(.type L4),none,.seq #[.none] 0,#[]⟩
noncomputable def o1164 (P:Params):Obj:=⟨(.type L5),none,.fields #[(.str z5 1907),(.str ⟨#[70,114,97,109,101,46,95,95,105,110,105,116,95,95]⟩ 1908),(.str z1 1909),(.int 816 0),(.int 5 0),(.int 0 0),(.int 0 0),(.int 3 0),(.ref 1161),(.bool true),(.int 181 0),(.ref 1162),.none,.none,.none,(.ref 1163),(.int 1910 0),(.int 816 0),(.str z1 1911)],#[]⟩
noncomputable def o1165 (P:Params):Obj:=fnO (sB 105 0) (qA 105 0) 3 1164 (.ref 1160) .none .none (.str z29 1893) none .none 0
noncomputable def o1171 (P:Params):Obj:=cdO (sB 105 1) (qA 105 1) 1913 828 2 1166 1918
noncomputable def o1172 (P:Params):Obj:=fnO (sB 105 1) (qA 105 1) 3 1171 .none .none .none (.str z29 1893) none .none 0
noncomputable def o1183 (P:Params):Obj:=cdO (sB 105 3) (qA 105 3) 1927 838 3 1178 1933
noncomputable def o1184 (P:Params):Obj:=fnO (sB 105 3) (qA 105 3) 3 1183 .none .none .none (.str z29 1893) none .none 0
noncomputable def o1221 (P:Params):Obj:=⟨(.type L0),none,.dict #[eS P z6 1902 (.str z29 1893),eS P z7 1906 (.int 814 1905),eS P z5 1912 (.ref 1165),eS P ⟨#[114,101,97,100]⟩ 1920 (.ref 1172),eS P ⟨#[114,101,97,100,95,97,108,108]⟩ 1926 (.ref 1177),eS P ⟨#[112,117,116]⟩ 1935 (.ref 1184),eS P ⟨#[112,117,116,95,97,108,108]⟩ 1944 (.ref 1191),eS P ⟨#[110,101,120,116,95,114,111,119]⟩ 1953 (.ref 1198),eS P ⟨#[105,115,95,97,116,95,101,110,100]⟩ 1960 (.ref 1205),eS P ⟨#[115,116,101,112,95,111,110]⟩ 1967 (.ref 1212),eS P ⟨#[106,117,109,112]⟩ 1975 (.ref 1219),eS P z8 1986 (.ref 1220),eS P z11 1988 (.ref 1223),eS P z9 1990 (.ref 1224),eS P z4 1991 .none] 4,#[]⟩
noncomputable def o1222 (P:Params):Obj:=clsO (.type L6) [none,none,some (.str z24 1895),some (.str z24 1903),some (.builtin L8),some (.bool true)] z24 [(.type L1)] [(.ref 1222),(.type L1)] 1221 z24 true [] [] false none false
noncomputable def o1232 (P:Params):Obj:=cdO (sA 107) (nA 107) 1996 859 2 1227 2001
noncomputable def o1233 (P:Params):Obj:=fnO (sA 107) (nA 107) 3 1232 .none .none .none (.str z2 1994) none .none 0
noncomputable def o1239 (P:Params):Obj:=cdO (sA 108) (nA 108) 2004 863 2 1234 2010
noncomputable def o1240 (P:Params):Obj:=fnO (sA 108) (nA 108) 3 1239 .none .none .none (.str z2 1994) none .none 0
noncomputable def o1246 (P:Params):Obj:=cdO (sA 109) (nA 109) 2013 867 3 1241 2024
noncomputable def o1247 (P:Params):Obj:=fnO (sA 109) (nA 109) 3 1246 .none .none .none (.str z2 1994) none .none 0
noncomputable def o1253 (P:Params):Obj:=cdO (sA 110) (nA 110) 2027 877 1 1248 2033
noncomputable def o1254 (P:Params):Obj:=fnO (sA 110) (nA 110) 3 1253 .none .none .none (.str z2 1994) none .none 0
noncomputable def o1261 (P:Params):Obj:=⟨(.type L2),none,.plain,#[some (.ref 1260),some (.ref 3),some (.ref 1257),none,some (.str z2 1994),none,some (.ref 0)]⟩
noncomputable def o1267 (P:Params):Obj:=cdO (sB 111 0) (qA 111 0) 2048 882 4 1262 2055
noncomputable def o1268 (P:Params):Obj:=fnO (sB 111 0) (qA 111 0) 3 1267 .none .none .none (.str z2 1994) none .none 0
noncomputable def o1270 (P:Params):Obj:=⟨(.type L0),none,.dict #[eS P z6 2043 (.str z2 1994),eS P z7 2047 (.int 880 2046),eS P z5 2057 (.ref 1268),eS P z8 2061 (.ref 1269),eS P z11 2063 (.ref 1272),eS P z9 2065 (.ref 1273),eS P z4 2066 .none] 4,#[]⟩
noncomputable def o1271 (P:Params):Obj:=clsO (.type L6) [none,none,some (.str z25 2036),some (.str z25 2044),some (.builtin L8),some (.bool true)] z25 [(.type L1)] [(.ref 1271),(.type L1)] 1270 z25 true [] [] false none false
noncomputable def o1282 (P:Params):Obj:=⟨(.type L2),none,.plain,#[some (.ref 1281),some (.ref 3),some (.ref 1278),none,some (.str z2 1994),none,some (.ref 0)]⟩
noncomputable def o1283 (P:Params):Obj:=⟨(.type L4),none,.seq #[.none] 0,#[]⟩
noncomputable def o1289 (P:Params):Obj:=cdO (sB 112 0) (qA 112 0) 2081 888 2 1284 2086
noncomputable def o1290 (P:Params):Obj:=fnO (sB 112 0) (qA 112 0) 3 1289 (.ref 1283) .none .none (.str z2 1994) none .none 0
noncomputable def o1291 (P:Params):Obj:=⟨(.type L4),none,.seq #[(.str Q7 2089)] 0,#[]⟩
noncomputable def o1297 (P:Params):Obj:=cdO (sB 112 1) (qA 112 1) 2090 895 4 1292 2097
noncomputable def o1298 (P:Params):Obj:=fnO (sB 112 1) (qA 112 1) 3 1297 (.ref 1291) .none .none (.str z2 1994) none .none 0
noncomputable def o1311 (P:Params):Obj:=cdO (sB 112 3) (qA 112 3) 2109 905 2 1306 2114
noncomputable def o1312 (P:Params):Obj:=fnO (sB 112 3) (qA 112 3) 3 1311 .none .none .none (.str z2 1994) none .none 0
noncomputable def o1325 (P:Params):Obj:=cdO (sB 112 5) (qA 112 5) 2125 913 2 1320 2130
noncomputable def o1326 (P:Params):Obj:=fnO (sB 112 5) (qA 112 5) 3 1325 .none .none .none (.str z2 1994) none .none 0
noncomputable def o1358 (P:Params):Obj:=cdO (sB 112 10) (qA 112 10) 2163 929 2 1353 2168
noncomputable def o1359 (P:Params):Obj:=fnO (sB 112 10) (qA 112 10) 3 1358 .none .none .none (.str z2 1994) none .none 0
noncomputable def o1365 (P:Params):Obj:=cdO (sB 112 11) (qA 112 11) 2171 933 2 1360 2176
noncomputable def o1366 (P:Params):Obj:=fnO (sB 112 11) (qA 112 11) 3 1365 .none .none .none (.str z2 1994) none .none 0
noncomputable def o1372 (P:Params):Obj:=cdO (sB 112 12) (qA 112 12) 2179 937 3 1367 2185
noncomputable def o1373 (P:Params):Obj:=fnO (sB 112 12) (qA 112 12) 3 1372 .none .none .none (.str z2 1994) none .none 0
noncomputable def o1379 (P:Params):Obj:=cdO (sB 112 13) (qA 112 13) 2188 941 3 1374 2194
noncomputable def o1380 (P:Params):Obj:=fnO (sB 112 13) (qA 112 13) 3 1379 .none .none .none (.str z2 1994) none .none 0
noncomputable def o1386 (P:Params):Obj:=cdO (sB 112 14) (qA 112 14) 2197 946 2 1381 2205
noncomputable def o1387 (P:Params):Obj:=fnO (sB 112 14) (qA 112 14) 3 1386 .none .none .none (.str z2 1994) none .none 0
noncomputable def o1393 (P:Params):Obj:=cdO (sB 112 15) (qA 112 15) 2208 955 2 1388 2214
noncomputable def o1394 (P:Params):Obj:=fnO (sB 112 15) (qA 112 15) 3 1393 .none .none .none (.str z2 1994) none .none 0
noncomputable def o1400 (P:Params):Obj:=cdO (sB 112 16) (qA 112 16) 2217 960 3 1395 2227
noncomputable def o1401 (P:Params):Obj:=fnO (sB 112 16) (qA 112 16) 3 1400 .none .none .none (.str z2 1994) none .none 0
noncomputable def o1403 (P:Params):Obj:=⟨(.type L0),none,.dict #[eS P z6 2076 (.str z2 1994),eS P z7 2080 (.int 886 2079),eS P z5 2088 (.ref 1290),eS P ⟨#[109,97,107,101]⟩ 2099 (.ref 1298),eS P ⟨#[109,97,107,101,95,110,97,109,101,100]⟩ 2108 (.ref 1305),eS P ⟨#[107,101,112,116,95,97,116]⟩ 2116 (.ref 1312),eS P Q9 2124 (.ref 1319),eS P Qa 2132 (.ref 1326),eS P ⟨#[110,117,109,98,101,114,115]⟩ 2138 (.ref 1331),eS P ⟨#[118,97,108,117,101,115,95,105,110]⟩ 2146 (.ref 1338),eS P ⟨#[102,114,101,101]⟩ 2154 (.ref 1345),eS P ⟨#[100,114,111,112]⟩ 2162 (.ref 1352),eS P ⟨#[108,111,111,107,101,100]⟩ 2170 (.ref 1359),eS P ⟨#[116,111,117,99,104,101,100]⟩ 2178 (.ref 1366),eS P ⟨#[111,118,101,114,119,114,105,116,116,101,110]⟩ 2187 (.ref 1373),eS P ⟨#[99,101,108,108]⟩ 2196 (.ref 1380),eS P ⟨#[112,101,101,107]⟩ 2207 (.ref 1387),eS P Qq 2216 (.ref 1394),eS P Qz 2229 (.ref 1401),eS P z8 2235 (.ref 1402),eS P z11 2237 (.ref 1405),eS P z9 2239 (.ref 1406),eS P z4 2240 .none] 4,#[]⟩
noncomputable def o1404 (P:Params):Obj:=clsO (.type L6) [none,none,some (.str z26 2069),some (.str z26 2077),some (.builtin L8),some (.bool true)] z26 [(.type L1)] [(.ref 1404),(.type L1)] 1403 z26 true [] [] false none false
noncomputable def o1418 (P:Params):Obj:=⟨(.type L2),none,.plain,#[some (.ref 1417),some (.ref 3),some (.ref 1414),none,some (.str z14 2243),none,some (.ref 0)]⟩
noncomputable def o1424 (P:Params):Obj:=cdO (sB 115 0) (qA 115 0) 2259 974 5 1419 2267
noncomputable def o1425 (P:Params):Obj:=fnO (sB 115 0) (qA 115 0) 3 1424 .none .none .none (.str z14 2243) none .none 0
noncomputable def o1427 (P:Params):Obj:=⟨(.type L0),none,.dict #[eS P z6 2254 (.str z14 2243),eS P z7 2258 (.int 972 2257),eS P z5 2269 (.ref 1425),eS P z8 2274 (.ref 1426),eS P z11 2276 (.ref 1429),eS P z9 2278 (.ref 1430),eS P z4 2279 .none] 4,#[]⟩
noncomputable def o1428 (P:Params):Obj:=clsO (.type L6) [none,none,some (.str z27 2247),some (.str z27 2255),some (.builtin L8),some (.bool true)] z27 [(.type L1)] [(.ref 1428),(.type L1)] 1427 z27 true [] [] false none false
noncomputable def o1438 (P:Params):Obj:=cdO (sA 116) (nA 116) 2282 979 0 1433 2291
noncomputable def o1439 (P:Params):Obj:=fnO (sA 116) (nA 116) 3 1438 .none .none .none (.str z14 2243) none .none 0
noncomputable def o1446 (P:Params):Obj:=⟨(.type L2),none,.plain,#[some (.ref 1445),some (.ref 3),some (.ref 1442),none,some (.str z14 2243),none,some (.ref 0)]⟩
noncomputable def o1447 (P:Params):Obj:=⟨(.type L4),none,.seq #[.none] 0,#[]⟩
noncomputable def o1453 (P:Params):Obj:=cdO (sB 117 0) (qA 117 0) 2306 989 2 1448 2311
noncomputable def o1454 (P:Params):Obj:=fnO (sB 117 0) (qA 117 0) 3 1453 (.ref 1447) .none .none (.str z14 2243) none .none 0
noncomputable def o1460 (P:Params):Obj:=cdO (sB 117 1) (qA 117 1) 2314 1004 2 1455 2320
noncomputable def o1461 (P:Params):Obj:=fnO (sB 117 1) (qA 117 1) 3 1460 .none .none .none (.str z14 2243) none .none 0
noncomputable def o1470 (P:Params):Obj:=⟨(.type L0),none,.dict #[eS P z6 2301 (.str z14 2243),eS P z7 2305 (.int 987 2304),eS P z5 2313 (.ref 1454),eS P ⟨#[98,97,115,101,95,111,102]⟩ 2322 (.ref 1461),eS P ⟨#[115,101,116,116,108,101,100]⟩ 2330 (.ref 1468),eS P z8 2344 (.ref 1469),eS P z11 2346 (.ref 1472),eS P z9 2348 (.ref 1473),eS P z4 2349 .none] 4,#[]⟩
noncomputable def o1471 (P:Params):Obj:=clsO (.type L6) [none,none,some (.str z28 2294),some (.str z28 2302),some (.builtin L8),some (.bool true)] z28 [(.type L1)] [(.ref 1471),(.type L1)] 1470 z28 true [] [] false none false
noncomputable def o1481 (P:Params):Obj:=cdO (sA 119) (nA 119) 2354 1019 2 1476 2362
noncomputable def o1482 (P:Params):Obj:=fnO (sA 119) (nA 119) 3 1481 .none .none .none (.str z3 2352) none .none 0
noncomputable def o1488 (P:Params):Obj:=cdO (sA 120) (nA 120) 2365 1024 2 1483 2371
noncomputable def o1489 (P:Params):Obj:=fnO (sA 120) (nA 120) 3 1488 .none .none .none (.str z3 2352) none .none 0
noncomputable def o1495 (P:Params):Obj:=cdO (sA 121) (nA 121) 2374 1033 2 1490 2379
noncomputable def o1496 (P:Params):Obj:=fnO (sA 121) (nA 121) 3 1495 .none .none .none (.str z3 2352) none .none 0
noncomputable def o1500 (P:Params):Obj:=⟨(.type L5),none,.fields #[(.str z37 2382),(.str z37 2383),(.str z1 2384),(.int 1035 0),(.int 3 0),(.int 0 0),(.int 0 0),(.int 3 0),(.ref 1497),(.bool true),(.int 181 0),(.ref 1498),.none,.none,.none,(.ref 1499),(.int 2385 0),(.int 1035 0),(.str z1 2386)],#[]⟩
noncomputable def o1501 (P:Params):Obj:=fnO (sA 122) (nA 122) 3 1500 .none .none .none (.str z3 2352) none .none 0
noncomputable def o1507 (P:Params):Obj:=cdO (sA 123) (nA 123) 2388 1042 2 1502 2393
noncomputable def o1508 (P:Params):Obj:=fnO (sA 123) (nA 123) 3 1507 .none .none .none (.str z3 2352) none .none 0
noncomputable def o1514 (P:Params):Obj:=cdO (sA 124) (nA 124) 2396 1044 2 1509 2403
noncomputable def o1515 (P:Params):Obj:=fnO (sA 124) (nA 124) 3 1514 .none .none .none (.str z3 2352) none .none 0
noncomputable def o1519 (P:Params):Obj:=⟨(.type L5),none,.fields #[(.str z38 2406),(.str z38 2407),(.str z1 2408),(.int 1048 0),(.int 2 0),(.int 0 0),(.int 0 0),(.int 3 0),(.ref 1516),(.bool true),(.int 181 0),(.ref 1517),.none,.none,.none,(.ref 1518),(.int 2409 0),(.int 1048 0),(.str z1 2410)],#[]⟩
noncomputable def o1520 (P:Params):Obj:=fnO (sA 125) (nA 125) 3 1519 .none .none .none (.str z3 2352) none .none 0
noncomputable def o1524 (P:Params):Obj:=⟨(.type L5),none,.fields #[(.str z39 2412),(.str z39 2413),(.str z1 2414),(.int 1067 0),(.int 2 0),(.int 0 0),(.int 0 0),(.int 3 0),(.ref 1521),(.bool true),(.int 181 0),(.ref 1522),.none,.none,.none,(.ref 1523),(.int 2415 0),(.int 1067 0),(.str z1 2416)],#[]⟩
noncomputable def o1525 (P:Params):Obj:=fnO (sA 126) (nA 126) 3 1524 .none .none .none (.str z3 2352) none .none 0
noncomputable def o1531 (P:Params):Obj:=cdO (sA 127) (nA 127) 2418 1088 2 1526 2439
noncomputable def o1532 (P:Params):Obj:=fnO (sA 127) (nA 127) 3 1531 .none .none .none (.str z3 2352) none .none 0
noncomputable def o1536 (P:Params):Obj:=⟨(.type L5),none,.fields #[(.str z40 2442),(.str z40 2443),(.str z1 2444),(.int 1105 0),(.int 2 0),(.int 0 0),(.int 0 0),(.int 3 0),(.ref 1533),(.bool true),(.int 181 0),(.ref 1534),.none,.none,.none,(.ref 1535),(.int 2445 0),(.int 1105 0),(.str z1 2446)],#[]⟩
noncomputable def o1537 (P:Params):Obj:=fnO (sA 128) (nA 128) 3 1536 .none .none .none (.str z3 2352) none .none 0
noncomputable def o1543 (P:Params):Obj:=cdO (sA 129) (nA 129) 2448 1120 2 1538 2461
noncomputable def o1544 (P:Params):Obj:=fnO (sA 129) (nA 129) 3 1543 .none .none .none (.str z3 2352) none .none 0
noncomputable def o1550 (P:Params):Obj:=cdO (sA 130) (nA 130) 2464 1137 2 1545 2477
noncomputable def o1551 (P:Params):Obj:=fnO (sA 130) (nA 130) 3 1550 .none .none .none (.str z3 2352) none .none 0
noncomputable def o1555 (P:Params):Obj:=⟨(.type L5),none,.fields #[(.str z41 2480),(.str z41 2481),(.str z1 2482),(.int 1149 0),(.int 5 0),(.int 0 0),(.int 0 0),(.int 3 0),(.ref 1552),(.bool true),(.int 181 0),(.ref 1553),.none,.none,.none,(.ref 1554),(.int 2483 0),(.int 1149 0),(.str z1 2484)],#[]⟩
noncomputable def o1556 (P:Params):Obj:=fnO (sA 131) (nA 131) 3 1555 .none .none .none (.str z3 2352) none .none 0
noncomputable def o1560 (P:Params):Obj:=⟨(.type L5),none,.fields #[(.str z42 2486),(.str z42 2487),(.str z1 2488),(.int 1152 0),(.int 2 0),(.int 0 0),(.int 0 0),(.int 3 0),(.ref 1557),(.bool true),(.int 181 0),(.ref 1558),.none,.none,.none,(.ref 1559),(.int 2489 0),(.int 1152 0),(.str z1 2490)],#[]⟩
noncomputable def o1561 (P:Params):Obj:=fnO (sA 132) (nA 132) 3 1560 .none .none .none (.str z3 2352) none .none 0
noncomputable def o1567 (P:Params):Obj:=cdO (sA 133) (nA 133) 2492 1165 1 1562 2501
noncomputable def o1568 (P:Params):Obj:=fnO (sA 133) (nA 133) 3 1567 .none .none .none (.str z3 2352) none .none 0
noncomputable def KT0 (P:Params):PT:=(.node 923 (o923 P) (.node 564 (o564 P) (.node 357 (o357 P) (.node 128 (o128 P) (.node 102 (o102 P) (.node 10 (o10 P) (.node 2 (o2 P) (.node 1 (o1 P) (.node 0 (o0 P) .nil .nil) .nil) (.node 3 (o3 P) .nil .nil)) (.node 48 (o48 P) (.node 42 (o42 P) (.node 14 (o14 P) .nil .nil) .nil) (.node 49 (o49 P) .nil .nil))) (.node 118 (o118 P) (.node 106 (o106 P) (.node 105 (o105 P) (.node 103 (o103 P) .nil .nil) .nil) (.node 117 (o117 P) .nil .nil)) (.node 125 (o125 P) (.node 124 (o124 P) .nil .nil) (.node 127 (o127 P) .nil .nil)))) (.node 203 (o203 P) (.node 193 (o193 P) (.node 162 (o162 P) (.node 150 (o150 P) (.node 138 (o138 P) .nil .nil) .nil) (.node 181 (o181 P) .nil .nil)) (.node 200 (o200 P) (.node 199 (o199 P) .nil .nil) (.node 202 (o202 P) .nil .nil))) (.node 348 (o348 P) (.node 220 (o220 P) (.node 213 (o213 P) (.node 212 (o212 P) .nil .nil) .nil) (.node 267 (o267 P) .nil .nil)) (.node 350 (o350 P) (.node 349 (o349 P) .nil .nil) (.node 351 (o351 P) .nil .nil))))) (.node 455 (o455 P) (.node 413 (o413 P) (.node 372 (o372 P) (.node 365 (o365 P) (.node 364 (o364 P) (.node 358 (o358 P) .nil .nil) .nil) (.node 371 (o371 P) .nil .nil)) (.node 399 (o399 P) (.node 393 (o393 P) (.node 392 (o392 P) .nil .nil) .nil) (.node 400 (o400 P) .nil .nil))) (.node 440 (o440 P) (.node 421 (o421 P) (.node 415 (o415 P) (.node 414 (o414 P) .nil .nil) .nil) (.node 422 (o422 P) .nil .nil)) (.node 448 (o448 P) (.node 441 (o441 P) .nil .nil) (.node 454 (o454 P) .nil .nil)))) (.node 489 (o489 P) (.node 475 (o475 P) (.node 468 (o468 P) (.node 462 (o462 P) (.node 461 (o461 P) .nil .nil) .nil) (.node 469 (o469 P) .nil .nil)) (.node 482 (o482 P) (.node 476 (o476 P) .nil .nil) (.node 483 (o483 P) .nil .nil))) (.node 550 (o550 P) (.node 500 (o500 P) (.node 499 (o499 P) (.node 490 (o490 P) .nil .nil) .nil) (.node 518 (o518 P) .nil .nil)) (.node 557 (o557 P) (.node 551 (o551 P) .nil .nil) (.node 558 (o558 P) .nil .nil)))))) (.node 727 (o727 P) (.node 658 (o658 P) (.node 599 (o599 P) (.node 579 (o579 P) (.node 572 (o572 P) (.node 571 (o571 P) (.node 565 (o565 P) .nil .nil) .nil) (.node 578 (o578 P) .nil .nil)) (.node 592 (o592 P) (.node 586 (o586 P) (.node 585 (o585 P) .nil .nil) .nil) (.node 593 (o593 P) .nil .nil))) (.node 626 (o626 P) (.node 607 (o607 P) (.node 606 (o606 P) (.node 600 (o600 P) .nil .nil) .nil) (.node 625 (o625 P) .nil .nil)) (.node 656 (o656 P) (.node 655 (o655 P) .nil .nil) (.node 657 (o657 P) .nil .nil)))) (.node 697 (o697 P) (.node 678 (o678 P) (.node 671 (o671 P) (.node 665 (o665 P) (.node 664 (o664 P) .nil .nil) .nil) (.node 672 (o672 P) .nil .nil)) (.node 685 (o685 P) (.node 679 (o679 P) .nil .nil) (.node 686 (o686 P) .nil .nil))) (.node 710 (o710 P) (.node 703 (o703 P) (.node 702 (o702 P) (.node 698 (o698 P) .nil .nil) .nil) (.node 709 (o709 P) .nil .nil)) (.node 717 (o717 P) (.node 716 (o716 P) .nil .nil) (.node 726 (o726 P) .nil .nil))))) (.node 833 (o833 P) (.node 791 (o791 P) (.node 776 (o776 P) (.node 769 (o769 P) (.node 735 (o735 P) (.node 728 (o728 P) .nil .nil) .nil) (.node 770 (o770 P) .nil .nil)) (.node 784 (o784 P) (.node 777 (o777 P) .nil .nil) (.node 790 (o790 P) .nil .nil))) (.node 819 (o819 P) (.node 812 (o812 P) (.node 805 (o805 P) (.node 804 (o804 P) .nil .nil) .nil) (.node 818 (o818 P) .nil .nil)) (.node 826 (o826 P) (.node 825 (o825 P) .nil .nil) (.node 832 (o832 P) .nil .nil)))) (.node 881 (o881 P) (.node 861 (o861 P) (.node 854 (o854 P) (.node 853 (o853 P) (.node 847 (o847 P) .nil .nil) .nil) (.node 860 (o860 P) .nil .nil)) (.node 868 (o868 P) (.node 867 (o867 P) .nil .nil) (.node 875 (o875 P) .nil .nil))) (.node 903 (o903 P) (.node 889 (o889 P) (.node 888 (o888 P) (.node 882 (o882 P) .nil .nil) .nil) (.node 896 (o896 P) .nil .nil)) (.node 910 (o910 P) (.node 909 (o909 P) .nil .nil) (.node 917 (o917 P) .nil .nil))))))) (.node 1271 (o1271 P) (.node 1076 (o1076 P) (.node 1005 (o1005 P) (.node 957 (o957 P) (.node 938 (o938 P) (.node 931 (o931 P) (.node 930 (o930 P) (.node 924 (o924 P) .nil .nil) .nil) (.node 937 (o937 P) .nil .nil)) (.node 952 (o952 P) (.node 945 (o945 P) (.node 944 (o944 P) .nil .nil) .nil) (.node 956 (o956 P) .nil .nil))) (.node 991 (o991 P) (.node 978 (o978 P) (.node 964 (o964 P) (.node 963 (o963 P) .nil .nil) .nil) (.node 985 (o985 P) .nil .nil)) (.node 998 (o998 P) (.node 992 (o992 P) .nil .nil) (.node 999 (o999 P) .nil .nil)))) (.node 1034 (o1034 P) (.node 1020 (o1020 P) (.node 1013 (o1013 P) (.node 1012 (o1012 P) (.node 1006 (o1006 P) .nil .nil) .nil) (.node 1019 (o1019 P) .nil .nil)) (.node 1027 (o1027 P) (.node 1026 (o1026 P) .nil .nil) (.node 1033 (o1033 P) .nil .nil))) (.node 1061 (o1061 P) (.node 1054 (o1054 P) (.node 1048 (o1048 P) (.node 1041 (o1041 P) .nil .nil) .nil) (.node 1055 (o1055 P) .nil .nil)) (.node 1068 (o1068 P) (.node 1062 (o1062 P) .nil .nil) (.node 1069 (o1069 P) .nil .nil))))) (.node 1171 (o1171 P) (.node 1119 (o1119 P) (.node 1097 (o1097 P) (.node 1090 (o1090 P) (.node 1079 (o1079 P) (.node 1078 (o1078 P) .nil .nil) .nil) (.node 1096 (o1096 P) .nil .nil)) (.node 1107 (o1107 P) (.node 1106 (o1106 P) .nil .nil) (.node 1118 (o1118 P) .nil .nil))) (.node 1159 (o1159 P) (.node 1147 (o1147 P) (.node 1126 (o1126 P) (.node 1125 (o1125 P) .nil .nil) .nil) (.node 1148 (o1148 P) .nil .nil)) (.node 1164 (o1164 P) (.node 1160 (o1160 P) .nil .nil) (.node 1165 (o1165 P) .nil .nil)))) (.node 1240 (o1240 P) (.node 1222 (o1222 P) (.node 1184 (o1184 P) (.node 1183 (o1183 P) (.node 1172 (o1172 P) .nil .nil) .nil) (.node 1221 (o1221 P) .nil .nil)) (.node 1233 (o1233 P) (.node 1232 (o1232 P) .nil .nil) (.node 1239 (o1239 P) .nil .nil))) (.node 1261 (o1261 P) (.node 1253 (o1253 P) (.node 1247 (o1247 P) (.node 1246 (o1246 P) .nil .nil) .nil) (.node 1254 (o1254 P) .nil .nil)) (.node 1268 (o1268 P) (.node 1267 (o1267 P) .nil .nil) (.node 1270 (o1270 P) .nil .nil)))))) (.node 1453 (o1453 P) (.node 1380 (o1380 P) (.node 1325 (o1325 P) (.node 1291 (o1291 P) (.node 1289 (o1289 P) (.node 1283 (o1283 P) (.node 1282 (o1282 P) .nil .nil) .nil) (.node 1290 (o1290 P) .nil .nil)) (.node 1311 (o1311 P) (.node 1298 (o1298 P) (.node 1297 (o1297 P) .nil .nil) .nil) (.node 1312 (o1312 P) .nil .nil))) (.node 1366 (o1366 P) (.node 1359 (o1359 P) (.node 1358 (o1358 P) (.node 1326 (o1326 P) .nil .nil) .nil) (.node 1365 (o1365 P) .nil .nil)) (.node 1373 (o1373 P) (.node 1372 (o1372 P) .nil .nil) (.node 1379 (o1379 P) .nil .nil)))) (.node 1418 (o1418 P) (.node 1400 (o1400 P) (.node 1393 (o1393 P) (.node 1387 (o1387 P) (.node 1386 (o1386 P) .nil .nil) .nil) (.node 1394 (o1394 P) .nil .nil)) (.node 1403 (o1403 P) (.node 1401 (o1401 P) .nil .nil) (.node 1404 (o1404 P) .nil .nil))) (.node 1438 (o1438 P) (.node 1427 (o1427 P) (.node 1425 (o1425 P) (.node 1424 (o1424 P) .nil .nil) .nil) (.node 1428 (o1428 P) .nil .nil)) (.node 1446 (o1446 P) (.node 1439 (o1439 P) .nil .nil) (.node 1447 (o1447 P) .nil .nil))))) (.node 1519 (o1519 P) (.node 1489 (o1489 P) (.node 1471 (o1471 P) (.node 1461 (o1461 P) (.node 1460 (o1460 P) (.node 1454 (o1454 P) .nil .nil) .nil) (.node 1470 (o1470 P) .nil .nil)) (.node 1482 (o1482 P) (.node 1481 (o1481 P) .nil .nil) (.node 1488 (o1488 P) .nil .nil))) (.node 1507 (o1507 P) (.node 1500 (o1500 P) (.node 1496 (o1496 P) (.node 1495 (o1495 P) .nil .nil) .nil) (.node 1501 (o1501 P) .nil .nil)) (.node 1514 (o1514 P) (.node 1508 (o1508 P) .nil .nil) (.node 1515 (o1515 P) .nil .nil)))) (.node 1544 (o1544 P) (.node 1532 (o1532 P) (.node 1525 (o1525 P) (.node 1524 (o1524 P) (.node 1520 (o1520 P) .nil .nil) .nil) (.node 1531 (o1531 P) .nil .nil)) (.node 1537 (o1537 P) (.node 1536 (o1536 P) .nil .nil) (.node 1543 (o1543 P) .nil .nil))) (.node 1560 (o1560 P) (.node 1555 (o1555 P) (.node 1551 (o1551 P) (.node 1550 (o1550 P) .nil .nil) .nil) (.node 1556 (o1556 P) .nil .nil)) (.node 1567 (o1567 P) (.node 1561 (o1561 P) .nil .nil) (.node 1568 (o1568 P) .nil .nil))))))))
end Scr
noncomputable def zx (p:Program) (w:World) (s:SharedT) (t:Thread) (L R:List Sd) (k:SharedT→Thread→List Sd→List Sd→Option (SharedT × List Sd × List Sd)):Option (SharedT × List Sd × List Sd):=match t with
 | ⟨.ask f,code,pos,stack⟩=>k s ⟨f ⟨p,wF w nS true⟩,code,pos,stack⟩ (.t (f ⟨p,wF w nS true⟩)::L) (.t (f ⟨p,wF w nS false⟩)::R)
 | _=>none
noncomputable abbrev vc:=List Nat→SharedT→Thread→List Sd→List Sd→Option (SharedT × List Sd × List Sd)
noncomputable def p8 (p:Program) (w:World) (n₀:Nat) (ann:Option Value) (n:Nat) (ih:vc) (hs:List Nat) (s:SharedT) (t:Thread) (L R:List Sd):Option (SharedT × List Sd × List Sd):=match through t with
 | true=>some (s,L,R)
 | false=>match stepOk n₀ ann t with
  | false=>none
  | true=>match hs with
   | []=>match stepT iB p w s t with
    | some x=>ih [] x.1 x.2 L R
    | none=>none
   | h::hs=>match Nat.beq h n with
    | true=>zx p w s t L R fun s t L R=>ih hs s t L R
    | false=>match stepT iB p w s t with
     | some x=>ih (h::hs) x.1 x.2 L R
     | none=>none
noncomputable def nj (p:Program) (w:World) (n₀:Nat) (ann:Option Value) (n:Nat):vc :=
 Nat.rec (fun _ _ _ _ _=>none) (fun n ih hs s t L R=>p8 p w n₀ ann n ih hs s t L R) n
theorem nh {p:Program} {w:World} {s:SharedT} {f:Setting→Sem Fin} {code:Code} {pos:Pos} {stack:List Frame}:stepT iB p w s ⟨.ask f,code,pos,stack⟩=some (s,⟨f ⟨p,w.params⟩,code,pos,stack⟩):=by
 obtain ⟨T,n,life,gens,drawn,toks,os⟩:=s
 rfl
theorem ip {p:Program} {w:World} {n₀:Nat} {ann:Option Value}:∀ {n:Nat} {hs:List Nat} {s s':SharedT} {t:Thread} {L R L' R':List Sd},nj p w n₀ ann n hs s t L R=some (s',L',R')→L'=R' →
 topRun treeTable p w n₀ ann n s.abs t=some s'.abs∧L=R
 | 0,_,_,_,_,_,_,_,_,h,_=>by cases h
 | n+1,hs,s,s',t,L,R,L',R',h,e=>by
  have h:p8 p w n₀ ann n (nj p w n₀ ann n) hs s t L R=some (s',L',R'):=h
  unfold p8 at h
  have plain:∀ {hs:List Nat} {x:SharedT × Thread},stepOk n₀ ann t=true→through t=false→stepT iB p w s t=some x→nj p w n₀ ann n hs x.1 x.2 L R=some (s',L',R')→topRun treeTable p w n₀ ann (n+1) s.abs t=some s'.abs∧L=R:=by
   intro hs x hk ht hx h
   obtain ⟨s₂,t₂⟩:=x
   have z:=stepT_spec hx
   rw [← kv,table_eq_tree] at z
   have y:=ip h e
   refine ⟨?_,y.2⟩
   unfold topRun
   rw [ht,hk,z]
   exact y.1
  cases ht:through t with
  | true =>
   rw [ht] at h
   cases h
   refine ⟨?_,e⟩
   unfold topRun
   rw [ht]
  | false =>
   rw [ht] at h
   cases hk:stepOk n₀ ann t with
   | false=>rw [hk] at h; cases h
   | true =>
    rw [hk] at h
    cases hs with
    | nil =>
     simp only at h
     cases hx:stepT iB p w s t with
     | none=>rw [hx] at h; cases h
     | some x=>rw [hx] at h; exact plain hk ht hx h
    | cons a l =>
     simp only at h
     cases hb:Nat.beq a n with
     | false =>
      rw [hb] at h
      simp only at h
      cases hx:stepT iB p w s t with
      | none=>rw [hx] at h; cases h
      | some x=>rw [hx] at h; exact plain hk ht hx h
     | true =>
      rw [hb] at h
      simp only at h
      obtain ⟨cur,code,pos,stack⟩:=t
      cases cur with
      | ask f =>
       simp only [zx] at h
       have y:=ip h e
       have y2:=y.2
       simp only [List.cons.injEq,Sd.t.injEq] at y2
       have q:=iN w qE
       rw [vF] at q
       have z:f ⟨p,w.params⟩=f ⟨p,wF w nS true⟩:=by
        cases hb:w.params.followText qE with
        | true=>rw [hb] at q; rw [q]
        | false=>rw [hb] at q; rw [y2.1,q]
       have x:=stepT_spec (nh (p:=p) (w:=w) (s:=s) (f:=f) (code:=code) (pos:=pos) (stack:=stack))
       rw [← kv,table_eq_tree] at x
       refine ⟨?_,y2.2⟩
       unfold topRun
       rw [ht,hk,x,z]
       exact y.1
      | _=>simp only [zx] at h; cases h
noncomputable def G2:List Obj→Nat→BT→BT
 | [],_,t=>t
 | o::l,i,t=>G2 l (i+1) (t.ins i o)
noncomputable def oR (P:Params):BT:=G2 (boot_heap P).objs.toList 0 .nil
noncomputable def F7 (P:Params) (os:OsState):SharedT:=⟨oR P,11,(boot_heap P).life,Array.mk [],boot_drawn,boot_toks,os⟩
theorem rI (P:Params) (os:OsState):(F7 P os).abs=⟨boot_heap P,Array.mk [],boot_drawn,boot_toks,os⟩:=by
 have e:absHeap (oR P) 11 (boot_heap P).life=boot_heap P:=by kernel_rfl
 show Shared.mk (absHeap (oR P) 11 (boot_heap P).life) _ _ _ _=_
 rw [e]
 rfl
section
open PySem.Calls PyProof.Rows
noncomputable def qv:Program:={ pw with main:={ pw.main with body:=[Scr.sA 133] } }
noncomputable def rm:List Str:=pw.boundNames
noncomputable def Dy:List Str:=importedModules pw.main.body
noncomputable def j8 (n:Nat):PT→BT→List Sd→List Sd→Bool × List Sd × List Sd
 | .nil,_,L,R=>(true,L,R)
 | .node k v l r,T,L,R=>match Nat.blt k n with
  | false=>(false,L,R)
  | true=>match T.get k with
   | none=>(false,L,R)
   | some o=>match alive o with
    | none=>(false,L,R)
    | some o=>match j8 n l T (.o o::L) (.o v::R) with
     | (b,L,R)=>match b with
      | false=>(false,L,R)
      | true=>j8 n r T L R
noncomputable def l0 (K:PT):Nat→Nat→BT→Bool
 | _,_,.nil=>true
 | s,b,.node v l r=>match (match aV v with
  | true=>(K.get b).isSome
  | false=>true) with
  | false=>false
  | true=>match l0 K (2 * s) (s+b) l with
   | false=>false
   | true=>l0 K (2 * s) (2 * s+b) r
noncomputable def xT:Shared→Bool:=fun _=>true
noncomputable def vT (w:World) (x:Option (SharedT × List Sd × List Sd)):=match x with
 | none=>((false,openGood qv rm,([]:List Sd)),(true,openGood qv rm,([]:List Sd)))
 | some x=>match j8 x.1.n (Scr.KT0 w.params) x.1.tree x.2.1 x.2.2 with
  | (b,L,R)=>((match b with
   | false=>false
   | true=>match l0 (Scr.KT0 w.params) 1 0 x.1.tree with
    | false=>false
    | true=>staticsOk Dy (boot_heap w.params) x.1.abs.heap && namesBound pw x.1.abs.heap && gensDone x.1.abs && laidKept (boot_heap w.params) x.1.abs.heap,openSeen qv rm Dy xT true x.1.abs,L),(true,openGood qv rm,R))
noncomputable def vR:List Nat:=[7553,7541,7529,7517,7505,7493,7481,7469,7457,7445]
noncomputable def fI (w:World) (os:OsState):=nj pw w 11 (some (.ref 6)) 10537 vR (F7 w.params os) (topStub pw) [] []
noncomputable def qL:Prop:=∀ (w:World) (os:OsState),(vT w (fI w os)).1=(vT w (fI w os)).2
theorem s1 (P : Params) : ((boot_heap P).isNs mainGlobals && (Array.mk ([] : List GenState)).size == 0, (boot_heap P).objs.size, (boot_heap P).nsMap mainGlobals "__annotations__") = (true, 11, some (.ref 6)) := by kernel_rfl
theorem e9 {T:BT} {n:Nat}:∀ {K:PT} {L R L' R':List Sd},j8 n K T L R=(true,L',R')→L'=R'→L=R∧∀ a o,K.get a=some o→a<n∧∃ o',T.get a=some o'∧alive o'=some o
 | .nil,L,R,L',R',h,e=>by
  simp only [j8,Prod.mk.injEq,true_and] at h
  obtain ⟨rfl,rfl⟩:=h
  exact ⟨e,fun a o h=>by simp [PT.get] at h⟩
 | .node k v l r,L,R,L',R',h,e=>by
  simp only [j8] at h
  cases hn:Nat.blt k n with
  | false=>rw [hn] at h; simp at h
  | true =>
  rw [hn] at h
  simp only at h
  cases g:T.get k with
  | none=>rw [g] at h; simp at h
  | some o =>
   rw [g] at h
   simp only at h
   cases al:alive o with
   | none=>rw [al] at h; simp at h
   | some o' =>
    rw [al] at h
    simp only at h
    cases q:j8 n l T (.o o'::L) (.o v::R) with
    | mk b x =>
     obtain ⟨L₂,R₂⟩:=x
     rw [q] at h
     cases b with
     | false=>simp at h
     | true =>
      simp only at h
      obtain ⟨e1,f1⟩:=e9 h e
      obtain ⟨e2,f2⟩:=e9 q e1
      simp only [List.cons.injEq,Sd.o.injEq] at e2
      refine ⟨e2.2,fun a o ha=>?_⟩
      unfold PT.get at ha
      split at ha
      ·rename_i hb
       have:=Nat.eq_of_beq_eq_true hb
       subst this
       cases ha
       exact ⟨Nat.le_of_ble_eq_true hn,_,g,by rw [al,e2.1]⟩
      ·split at ha
       ·exact f2 a o ha
       ·exact f1 a o ha
theorem ey {K:PT}:∀ {T:BT} {s b:Nat},l0 K s b T=true→∀ i v,T.get i=some v→aV v=true→(K.get (s * i+b)).isSome=true
 | .nil,_,_,_,i,v,h,_=>by simp [BT.get] at h
 | .node v l r,s,b,h,i,o,hi,hf=>by
  simp only [l0] at h
  rw [BT.get_node] at hi
  cases q:(match aV v with | true=>(K.get b).isSome | false=>true) with
  | false=>rw [q] at h; simp at h
  | true =>
   rw [q] at h
   simp only at h
   cases q2:l0 K (2 * s) (s+b) l with
   | false=>rw [q2] at h; simp at h
   | true =>
    rw [q2] at h
    simp only at h
    by_cases h0:i=0
    ·subst h0
     simp only [if_true,Option.some.injEq] at hi
     subst hi
     rw [hf] at q
     simpa using q
    ·rw [if_neg h0] at hi
     by_cases h1:i % 2=1
     ·rw [if_pos h1] at hi
      have:=ey q2 _ _ hi hf
      rwa [show 2 * s * (i / 2)+(s+b)=s * i+b from by
       have:i=2 * (i / 2)+1:=by omega
       conv=>rhs; rw [this]
       rw [Nat.mul_add,Nat.mul_one,←Nat.mul_assoc,Nat.mul_comm 2 s,Nat.add_assoc]] at this
     ·rw [if_neg h1] at hi
      have:=ey h _ _ hi hf
      rwa [show 2 * s * (i / 2 - 1)+(2 * s+b)=s * i+b from by
       have:i=2 * (i / 2 - 1)+2:=by omega
       conv=>rhs; rw [this]
       rw [Nat.mul_add,←Nat.mul_assoc,Nat.mul_comm 2 s,Nat.add_assoc]] at this
theorem l3 (w:World) (os:OsState):fI w os=nj pw w 11 (some (.ref 6)) 10537 vR (F7 w.params os) (topStub pw) [] []:=by unfold fI; exact Eq.refl _
theorem px {p:Program} {w:World} {n₀:Nat} {ann:Option Value} {n:Nat} {hs:List Nat} {s s':SharedT} {S:Shared} {t:Thread} {L R:List Sd} {X:Option (SharedT × List Sd × List Sd)} (hS:s.abs=S) (hX:X=nj p w n₀ ann n hs s t [] []) (h:X=some (s',L,R)) (e:L=R) :
 topRun treeTable p w n₀ ann n S t=some s'.abs:=by
 subst hX
 subst hS
 exact (ip h e).1
theorem zF {w:World} {os:OsState} {s':SharedT} {L R:List Sd} (hx:fI w os=some (s',L,R)) (e:L=R):topRun treeTable pw w 11 (some (.ref 6)) 10537 ⟨boot_heap w.params,Array.mk [],boot_drawn,boot_toks,os⟩ (topStub pw)=some s'.abs :=
 px (rI w.params os) (l3 w os) hx e
structure Known (w:World) (s:Shared):Prop where
 at_:∀ a o,(Scr.KT0 w.params).get a=some o→s.heap.get? a=some o
 fr:∀ a o,s.heap.get? a=some o→aV o=true→((Scr.KT0 w.params).get a).isSome=true
theorem nE:opening pw=plainProg pw.main.scope.names:=by
 kernel_rfl
theorem to (s:Shared):fenceModules? pw s=some s:=by kernel_rfl
theorem r7 {T:BT} {n:Nat} {life:Life} {a:Nat} {o:Obj} (h:(absHeap T n life).get? a=some o):(∃ o',T.get a=some o'∧alive o'=some o)∨o=default:=by
 by_cases hn:a<n
 ·cases g:T.get a with
  | none =>
   right
   unfold Heap.get? at h
   rw [absHeap_at,if_pos hn,g] at h
   have h:some (default:Obj)=some o:=h
   exact (Option.some.inj h).symm
  | some o'=>exact .inl ⟨o',rfl,(abs_get hn g).symm.trans h⟩
 ·rw [abs_get_none hn] at h
  cases h
theorem oz {w:World} {os:OsState} {X:Option (SharedT × List Sd × List Sd)} (hX:∀ s' L R,X=some (s',L,R)→L=R→topRun treeTable pw w 11 (some (.ref 6)) 10537 ⟨boot_heap w.params,Array.mk [],boot_drawn,boot_toks,os⟩ (topStub pw)=some s'.abs) (hv:(vT w X).1=(vT w X).2) :
 ∃ s,topFrom treeTable pw w 10537 ⟨boot_heap w.params,Array.mk [],boot_drawn,boot_toks,os⟩=some s∧openSeen qv rm Dy xT true s=openGood qv rm∧Known w s:=by
 cases X with
 | none =>
  simp only [vT,Prod.mk.injEq] at hv
  exact absurd hv.1 Bool.false_ne_true
 | some x =>
  obtain ⟨s',L,R⟩:=x
  simp only [vT] at hv
  cases hc:j8 s'.n (Scr.KT0 w.params) s'.tree L R with
  | mk b y =>
   obtain ⟨L₂,R₂⟩:=y
   rw [hc] at hv
   simp only [Prod.mk.injEq] at hv
   obtain ⟨h1,h2,h3⟩:=hv
   cases b with
   | false=>simp at h1
   | true =>
    simp only at h1
    cases hf:l0 (Scr.KT0 w.params) 1 0 s'.tree with
    | false=>rw [hf] at h1; simp at h1
    | true =>
     rw [hf] at h1
     simp only at h1
     obtain ⟨eLR,hk⟩:=e9 hc h3
     have l7:=hX _ _ _ rfl eLR
     have hs1:=s1 w.params
     simp only [Prod.mk.injEq] at hs1
     obtain ⟨z1,z2,z3⟩:=hs1
     refine ⟨s'.abs,?_,h2,⟨fun a o ha=>?_,fun a o ha hfr=>?_⟩⟩
     ·unfold topFrom
      dsimp only
      rw [z1,z2,z3,l7]
      show (match staticsOk (importedModules pw.main.body) (boot_heap w.params) s'.abs.heap && namesBound pw s'.abs.heap && gensDone s'.abs && laidKept (boot_heap w.params) s'.abs.heap with | true=>some s'.abs | false=>none)=some s'.abs
      rw [show (staticsOk (importedModules pw.main.body) (boot_heap w.params) s'.abs.heap && namesBound pw s'.abs.heap && gensDone s'.abs && laidKept (boot_heap w.params) s'.abs.heap)=true from h1]
     ·obtain ⟨hn,o',g1,g2⟩:=hk a o ha
      exact (abs_get hn g1).trans g2
     ·rcases r7 ha with ⟨o',g1,g2⟩ | rfl
      case inr=>exact absurd hfr (by decide +kernel)
      have e:o'=o:=by
       unfold alive at g2
       split at g2
       ·cases g2
       ·cases g2; rfl
      subst e
      have:=ey hf _ _ g1 hfr
      rwa [Nat.one_mul] at this
theorem jP (H:qL) (w:World):∃ s,openEnds treeTable pw w 10537=some s∧openSeen qv rm Dy xT true s=openGood qv rm∧Known w s:=by
 obtain ⟨⟨h0,g0,d0,k0,os⟩,e,e'⟩:=Option.map_eq_some_iff.mp (boot_open (p:=pw) (N:=10537) nE (by decide) to w)
 simp only [Prod.mk.injEq] at e'
 obtain ⟨rfl,rfl,rfl,rfl⟩:=e'
 obtain ⟨s,h1,h2,h3⟩:=oz (fun s' L R hx e=>zF hx e) (H w os)
 refine ⟨s,?_,h2,h3⟩
 unfold openEnds
 rw [e,Option.bind_some]
 exact h1
end
section
open PySem.Calls PyProof.Rows
theorem Gu:qL:=by
 intro w os
 kernel_rfl
end
section
open PySem.Calls PyProof.Rows
noncomputable abbrev mA:=PySem.Challenge.rw_on0051_01
theorem Gy:namesResolve mA.row.prog=true:=by kernel_rfl
theorem Gw : noRoadLSs { strict := !(importedModules mA.row.prog.main.body).all cThrough.contains, foot := none, bare := (["vars", "dir", "locals"] : List Str).filter (readsOut mA.row.prog mA.row.prog.main.body) } mA.row.prog.main.body = true := by kernel_rfl
theorem GE:(namesMeet mA.row.prog mA.row.prog.main.body fun _ n=>attrL n)=true:=by kernel_rfl
theorem GG:(mA.bound'.all fun n=>!builtinNamed n || mA.about == [n] || !mA.reads n)=true:=by kernel_rfl
theorem Gp:(namesMeet mA.prog mA.above fun _ n=>!mA.own.contains n)=true:=by kernel_rfl
theorem G7:mA.wellSaid=true:=by
 unfold OpenLaw.wellSaid OpenRow.wellSaid OpenRow.partSaid looksOpen
 repeat' (with_reducible refine look_both ?_ ?_)
 all_goals first | with_reducible exact Gy | with_reducible exact Gw | with_reducible exact GE | with_reducible exact GG | with_reducible exact Gp | kernel_rfl
end
section
open PySem.Calls PyProof.Rows
noncomputable abbrev gI : Ctx := ⟨.builtin "claim.caller" {}, none, none, [], none⟩
theorem yk {c:ClaimW} {tree:List Value→Sem Fin} {w:World} {s:Shared} {free:Addr→Prop} {gens:Prop} {kept:Heap→Prop} (hz:s.asleep) (hgens:s.gens=#[])
 (H:∀ args,c.pre args=true→WData.layableAll args=true→∀ ord:List DictEntry→List DictEntry,(∀ l,(ord l).Perm l)→∃ vs s₁,layAllW c.records (classAt s.heap) w.params ord args s=some (vs,s₁) ∧
  Sem.wp (model c.prog w) gI (tree vs) (Sem.finPost (model c.prog w) gI fun r s'=>(c.Ends s args vs s₁ r s'∧s'.os=s.os∧kept s'.heap)∧leftWithCleanup s'.gens=false)
   (fun e _ s'=>(c.Ends s args vs s₁ (.error e) s'∧s'.os=s.os∧kept s'.heap)∧leftWithCleanup s'.gens=false) default s₁) :
 c.CallFrom (fun vs => ⟨tree vs, .builtin "claim.caller" {}, default, []⟩) w free gens kept s := by
 intro args hpre hlay ord hord
 obtain ⟨vs,s₁,hlaid,hcode⟩:=H args hpre hlay ord hord
 have rest:=layAllW_rest _ _ _ hlaid
 obtain ⟨k,r,s',s'',hsched,hrun,hfo,hcase,hos,hkp⟩:=wp_halts_full (M:=model c.prog w) (R:=fun r s'=>c.Ends s args vs s₁ r s'∧s'.os=s.os∧kept s'.heap) (Shared.asleep_of_life rest.2.2.2 hz) hcode
 obtain ⟨eh,_,_,eo,_⟩:=Shared.forget_eq hfo
 have hcase:=hcase.congr eh
 rw [← eh] at hkp
 rw [← eo] at hos
 have hlife:s''.heap.life=s.heap.life:=(runN_life _ _ _ hrun).trans rest.2.2.2
 refine ⟨vs,s₁,hlaid,k,_,s'',hsched,?_,(fun _ i x hx=>by rw [hgens] at hx; simp at hx),hkp,by rw [hlife],Shared.rest_eq hos⟩
 rcases hcase with ⟨v,rfl,d1,d2,d3,d4,d5⟩ | ⟨e,ob,cls,rfl,d1,d2,d3,d4,d5⟩
 ·exact .inl ⟨v,rfl,d1,d2,d3,fun b o y _=>d4 b o y,d5⟩
 ·exact .inr ⟨e,ob,cls,rfl,d1,d2,d3,d4,fun b o y _=>d5 b o y⟩
noncomputable abbrev mv (n:Str) (vs:List Value):Sem Fin:=do
 match←nsGet mainNs n with
 | some f=>do ret (← PySem.call f vs)
 | none => unsupported "claim.caller:no-such-global"
theorem uf {r:OpenRow} {q:Program} {loose:List Str} {α:Type} {Yf:Shared→α} {Ya:World→α} {d:DefRec} {kwd:List (Str × PySem.Expr)} {N:Nat}
 (left:LeftO r.prog q loose xT Yf Ya N) (hdef:defOf q r.name=some (d,kwd)) (hp:r.prog.theDef r.name=some (d.params,d.body,d.scope)) (hk:kwWritten? d.params.kwonlyargs d.params.kw_defaults=some kwd)
 (hrec:r.records=[]) (k1:r.wellSaid=true) (ok:(chainsOk q && opensWell r.prog && (frees r.toRowW && r.within.isEmpty))=true) (hb:r.prog.bare) (hw:r.toRowW.promised)
 (call:∀ (w:World) (s₀ s₁:Shared),s₀.gens=#[]→Yf s₀=Ya w→s₀.heap.isNs mainGlobals=true→∀ (args:List WData) (vs:List Value) (as:List Addr),Laid r.records w s₀ s₁ args vs as→r.claim.pre args=true→WData.layableAll args=true →
  ReadsAllW r.records (classAt s₀.heap) s₁.heap vs args as→WellAll w.params s₁.heap vs args→(∀ a∈as,(a == sysModules)=false) →
  Sem.wp (model r.prog w) gI (mv r.name vs) (Sem.finPost (model r.prog w) gI fun res s'=>GoodWG r.claim (classAt s₀.heap) (ExcName.means s₀.heap) args s₁ res s')
   (fun e _ s'=>GoodWG r.claim (classAt s₀.heap) (ExcName.means s₀.heap) args s₁ (.error e) s') default s₁):r.Holds:=by
 obtain ⟨ok,k5⟩:=Bool.and_eq_true_iff.mp ok
 obtain ⟨hch,o1⟩:=Bool.and_eq_true_iff.mp ok
 obtain ⟨k5,k6⟩:=Bool.and_eq_true_iff.mp k5
 obtain ⟨hsame,hu,ha,hap,hm⟩:=frees_parts k5
 have RF:∀ h,RecFacts r.records h:=fun h=>recFacts_nil hrec
 have B:=fun w=>left.behind (XP:=fun _ _=>True) (fun _ _=>trivial) hch w
 refine ⟨k1,hw,⟨hb,o1,by show r.makers.map _=[]; rw [hm]; rfl⟩,hw.witness,fun w=>⟨(B w).1,fun s' hs'=>?_⟩⟩
 obtain ⟨s₀,hf,hg0,s,hT,hz,hgens,hg,G0,y⟩:=(B w).2 s' hs'
 have hgens:s.gens=#[]:=Array.eq_empty_of_size_eq_zero (beq_iff_eq.mp hgens)
 have G:Ground q loose r.records (fun _ _=>True) w s _ _ s.heap:=(RF s.heap).ground G0
 refine ⟨s₀,hf,hg0,s,hT,fun n hn=>?_,(RF s.heap).1,(RF s.heap).2.1,?_⟩
 ·obtain rfl:n=r.name:=by split at hn <;> simp_all
  exact pinned_of_view hg G0 hdef hp hk
 refine yk (c:=r.claim) hz hgens fun args hpre hlay ord hord=>?_
 obtain ⟨⟨vs,s₁⟩,hlaid⟩:=Option.isSome_iff_exists.mp (layAllW_isSome (P:=w.params) (ord:=ord) G.has args r.args s (pre_splitW hpre).1)
 have keeps:=layAllW_keeps _ _ _ hlaid
 have hal:=layAllW_rest _ _ _ hlaid
 obtain ⟨as,hrd,hin,hold⟩:=reads_layAllW hord _ _ _ hlaid hlay s₁.heap (fun _ _ e=>e)
 have L:Laid r.records w s s₁ args vs as:=⟨⟨ord,hord,hlaid⟩,hrd,hin,hold,keeps,hal.1.trans hgens,hal.2.2.1⟩
 have hi:=ident_freeW hu ha hap
 have hwi:r.claim.within=[]:=List.isEmpty_iff.mp k6
 have W:=call w s s₁ hgens y hg args vs as L hpre hlay L.reads L.well (L.low G.low)
 have fin:∀ r' s',GoodWG r.claim (classAt s.heap) (ExcName.means s.heap) args s₁ r' s'→(r.claim.Ends s args vs s₁ r' s'∧s'.os=s.os∧(r.writes=true→namesKept r.claim.prog r.keeps s.heap s'.heap∧∀ x∈r.claim.records,∀ a,classAt s.heap x.1=some a→recordClass s'.heap a x.1 (x.2.map (·.1))=true))∧leftWithCleanup s'.gens=false:=fun r' s' g =>
  have z:=g.laid (c:=r.claim) hsame hwi hi L
  ⟨⟨z.1,z.2.1,fun _=>⟨namesKept_of hT hg r.keeps keeps g.2.1.old,fun x hx=>by rw [show r.claim.records=[] from hrec] at hx; exact nomatch hx⟩⟩,leftWithCleanup_false_of_bare z.2.2⟩
 exact ⟨vs,s₁,hlaid,Sem.wp_mono _ _ _ (fun f p' s' x=>finPost_mono (fun r' s' g=>fin r' s' g) x) (fun e p' s' g=>fin _ s' g) _ _ W⟩
end
noncomputable def SL.s4576608952293643177x11:String:=PySem.W.S.litE [PySem.W.S.mk8 108 rfl,PySem.W.S.mk8 105 rfl,PySem.W.S.mk8 115 rfl,PySem.W.S.mk8 116 rfl,PySem.W.S.mk8 46 rfl,PySem.W.S.mk8 95 rfl,PySem.W.S.mk8 95 rfl,PySem.W.S.mk8 101 rfl,PySem.W.S.mk8 113 rfl,PySem.W.S.mk8 95 rfl,PySem.W.S.mk8 95 rfl] [108,105,115,116,46,95,95,101,113,95,95] rfl rfl
noncomputable def SL.s11274501207620069578x11:String:=PySem.W.S.litE [PySem.W.S.mk8 108 rfl,PySem.W.S.mk8 105 rfl,PySem.W.S.mk8 115 rfl,PySem.W.S.mk8 116 rfl,PySem.W.S.mk8 46 rfl,PySem.W.S.mk8 95 rfl,PySem.W.S.mk8 95 rfl,PySem.W.S.mk8 110 rfl,PySem.W.S.mk8 101 rfl,PySem.W.S.mk8 95 rfl,PySem.W.S.mk8 95 rfl] [108,105,115,116,46,95,95,110,101,95,95] rfl rfl
noncomputable def SL.s4715828480015836442x11:String:=PySem.W.S.litE [PySem.W.S.mk8 108 rfl,PySem.W.S.mk8 105 rfl,PySem.W.S.mk8 115 rfl,PySem.W.S.mk8 116 rfl,PySem.W.S.mk8 46 rfl,PySem.W.S.mk8 95 rfl,PySem.W.S.mk8 95 rfl,PySem.W.S.mk8 108 rfl,PySem.W.S.mk8 116 rfl,PySem.W.S.mk8 95 rfl,PySem.W.S.mk8 95 rfl] [108,105,115,116,46,95,95,108,116,95,95] rfl rfl
noncomputable def SL.s5184184855523559102x12:String:=PySem.W.S.litE [PySem.W.S.mk8 116 rfl,PySem.W.S.mk8 117 rfl,PySem.W.S.mk8 112 rfl,PySem.W.S.mk8 108 rfl,PySem.W.S.mk8 101 rfl,PySem.W.S.mk8 46 rfl,PySem.W.S.mk8 95 rfl,PySem.W.S.mk8 95 rfl,PySem.W.S.mk8 110 rfl,PySem.W.S.mk8 101 rfl,PySem.W.S.mk8 95 rfl,PySem.W.S.mk8 95 rfl] [116,117,112,108,101,46,95,95,110,101,95,95] rfl rfl
noncomputable def SL.s12157581064306048743x18:String:=PySem.W.S.litE [PySem.W.S.mk8 116 rfl,PySem.W.S.mk8 117 rfl,PySem.W.S.mk8 112 rfl,PySem.W.S.mk8 108 rfl,PySem.W.S.mk8 101 rfl,PySem.W.S.mk8 46 rfl,PySem.W.S.mk8 95 rfl,PySem.W.S.mk8 95 rfl,PySem.W.S.mk8 99 rfl,PySem.W.S.mk8 111 rfl,PySem.W.S.mk8 110 rfl,PySem.W.S.mk8 116 rfl,PySem.W.S.mk8 97 rfl,PySem.W.S.mk8 105 rfl,PySem.W.S.mk8 110 rfl,PySem.W.S.mk8 115 rfl,PySem.W.S.mk8 95 rfl,PySem.W.S.mk8 95 rfl] [116,117,112,108,101,46,95,95,99,111,110,116,97,105,110,115,95,95] rfl rfl
noncomputable def SL.s549184847318252788x10:String:=PySem.W.S.litE [PySem.W.S.mk8 105 rfl,PySem.W.S.mk8 110 rfl,PySem.W.S.mk8 116 rfl,PySem.W.S.mk8 46 rfl,PySem.W.S.mk8 95 rfl,PySem.W.S.mk8 95 rfl,PySem.W.S.mk8 103 rfl,PySem.W.S.mk8 116 rfl,PySem.W.S.mk8 95 rfl,PySem.W.S.mk8 95 rfl] [105,110,116,46,95,95,103,116,95,95] rfl rfl
noncomputable def SL.s6631445442719179136x10:String:=PySem.W.S.litE [PySem.W.S.mk8 105 rfl,PySem.W.S.mk8 110 rfl,PySem.W.S.mk8 116 rfl,PySem.W.S.mk8 46 rfl,PySem.W.S.mk8 95 rfl,PySem.W.S.mk8 95 rfl,PySem.W.S.mk8 103 rfl,PySem.W.S.mk8 101 rfl,PySem.W.S.mk8 95 rfl,PySem.W.S.mk8 95 rfl] [105,110,116,46,95,95,103,101,95,95] rfl rfl
noncomputable def SL.s4995937446222217074x11:String:=PySem.W.S.litE [PySem.W.S.mk8 105 rfl,PySem.W.S.mk8 110 rfl,PySem.W.S.mk8 116 rfl,PySem.W.S.mk8 46 rfl,PySem.W.S.mk8 95 rfl,PySem.W.S.mk8 95 rfl,PySem.W.S.mk8 97 rfl,PySem.W.S.mk8 100 rfl,PySem.W.S.mk8 100 rfl,PySem.W.S.mk8 95 rfl,PySem.W.S.mk8 95 rfl] [105,110,116,46,95,95,97,100,100,95,95] rfl rfl
noncomputable def SL.s10675162408562208479x11:String:=PySem.W.S.litE [PySem.W.S.mk8 105 rfl,PySem.W.S.mk8 110 rfl,PySem.W.S.mk8 116 rfl,PySem.W.S.mk8 46 rfl,PySem.W.S.mk8 95 rfl,PySem.W.S.mk8 95 rfl,PySem.W.S.mk8 115 rfl,PySem.W.S.mk8 117 rfl,PySem.W.S.mk8 98 rfl,PySem.W.S.mk8 95 rfl,PySem.W.S.mk8 95 rfl] [105,110,116,46,95,95,115,117,98,95,95] rfl rfl
noncomputable def SL.s15302896290300502732x11:String:=PySem.W.S.litE [PySem.W.S.mk8 105 rfl,PySem.W.S.mk8 110 rfl,PySem.W.S.mk8 116 rfl,PySem.W.S.mk8 46 rfl,PySem.W.S.mk8 95 rfl,PySem.W.S.mk8 95 rfl,PySem.W.S.mk8 109 rfl,PySem.W.S.mk8 117 rfl,PySem.W.S.mk8 108 rfl,PySem.W.S.mk8 95 rfl,PySem.W.S.mk8 95 rfl] [105,110,116,46,95,95,109,117,108,95,95] rfl rfl
noncomputable def SL.s15071220520546248041x11:String:=PySem.W.S.litE [PySem.W.S.mk8 105 rfl,PySem.W.S.mk8 110 rfl,PySem.W.S.mk8 116 rfl,PySem.W.S.mk8 46 rfl,PySem.W.S.mk8 95 rfl,PySem.W.S.mk8 95 rfl,PySem.W.S.mk8 109 rfl,PySem.W.S.mk8 111 rfl,PySem.W.S.mk8 100 rfl,PySem.W.S.mk8 95 rfl,PySem.W.S.mk8 95 rfl] [105,110,116,46,95,95,109,111,100,95,95] rfl rfl
noncomputable def SL.s14309602957429558208x16:String:=PySem.W.S.litE [PySem.W.S.mk8 105 rfl,PySem.W.S.mk8 110 rfl,PySem.W.S.mk8 116 rfl,PySem.W.S.mk8 46 rfl,PySem.W.S.mk8 95 rfl,PySem.W.S.mk8 95 rfl,PySem.W.S.mk8 102 rfl,PySem.W.S.mk8 108 rfl,PySem.W.S.mk8 111 rfl,PySem.W.S.mk8 111 rfl,PySem.W.S.mk8 114 rfl,PySem.W.S.mk8 100 rfl,PySem.W.S.mk8 105 rfl,PySem.W.S.mk8 118 rfl,PySem.W.S.mk8 95 rfl,PySem.W.S.mk8 95 rfl] [105,110,116,46,95,95,102,108,111,111,114,100,105,118,95,95] rfl rfl
noncomputable def SL.s13725091732456768858x13:String:=PySem.W.S.litE [PySem.W.S.mk8 108 rfl,PySem.W.S.mk8 105 rfl,PySem.W.S.mk8 115 rfl,PySem.W.S.mk8 116 rfl,PySem.W.S.mk8 46 rfl,PySem.W.S.mk8 95 rfl,PySem.W.S.mk8 95 rfl,PySem.W.S.mk8 105 rfl,PySem.W.S.mk8 110 rfl,PySem.W.S.mk8 105 rfl,PySem.W.S.mk8 116 rfl,PySem.W.S.mk8 95 rfl,PySem.W.S.mk8 95 rfl] [108,105,115,116,46,95,95,105,110,105,116,95,95] rfl rfl
noncomputable abbrev yT:Value:=.type L4
noncomputable abbrev yL:Value:=.type Lh
noncomputable abbrev yD:Value:=.type L0
noncomputable def EN (P:Params) (h g:Nat→Nat):ST :=
 (.node ⟨false,(h 126),⟨(.type L4),none,.seq #[(.ref (h 77)),(.ref (h 111))] 0,#[]⟩⟩ (.node ⟨false,(h 77),⟨(.ref 1079),some (h 76),.plain,#[]⟩⟩ (.node ⟨false,(h 79),⟨(.type L0),none,.dict #[eS P ⟨#[109,111,118,101]⟩ (g 226) (.ref (h 80)),eS P Qr (g 229) (.ref (h 81)),eS P ⟨#[117,110,97,114,121]⟩ (g 232) (.ref (h 82)),eS P Qm (g 235) (.ref (h 83)),eS P ⟨#[110,101,119]⟩ (g 238) (.ref (h 84)),eS P Qq (g 241) (.ref (h 85)),eS P Qz (g 244) (.ref (h 86)),eS P Qu (g 247) (.ref (h 87)),eS P Ex (g 250) (.ref (h 88)),eS P ⟨#[112,97,114,116]⟩ (g 253) (.ref (h 89)),eS P Ey (g 256) (.ref (h 90)),eS P ⟨#[115,116,114,117,99,116]⟩ (g 259) (.ref (h 91)),eS P EK (g 262) (.ref (h 92)),eS P ⟨#[109,97,107,101,115,108,105,99,101]⟩ (g 265) (.ref (h 93)),eS P Et (g 268) (.ref (h 94)),eS P ⟨#[97,112,112,101,110,100]⟩ (g 271) (.ref (h 95)),eS P ⟨#[99,111,112,121]⟩ (g 274) (.ref (h 96)),eS P Qj (g 277) (.ref (h 98)),eS P Ca (g 279) (.ref (h 99)),eS P Qs (g 281) (.ref (h 100)),eS P Qv (g 283) (.ref (h 101)),eS P Dh (g 285) (.ref (h 102)),eS P ⟨#[105,116,101,114]⟩ (g 287) (.ref (h 103)),eS P ⟨#[110,101,120,116]⟩ (g 289) (.ref (h 104)),eS P EC (g 291) (.ref (h 105)),eS P Qh (g 293) (.ref (h 106)),eS P Ez (g 295) (.ref (h 107)),eS P ⟨#[99,108,111,115,117,114,101]⟩ (g 297) (.ref (h 108))] 28,#[]⟩⟩ (.node ⟨false,(h 75),⟨(.type L0),none,.dict #[] 0,#[]⟩⟩ (.node ⟨false,(h 88),⟨(.type L3),none,.fields #[(.ref 945),(.ref (h 77))],#[]⟩⟩ .nil .nil) (.node ⟨false,(h 105),⟨(.type L3),none,.fields #[(.ref 1055),(.ref (h 77))],#[]⟩⟩ .nil .nil)) (.node ⟨false,(h 83),⟨(.type L3),none,.fields #[(.ref 882),(.ref (h 77))],#[]⟩⟩ (.node ⟨false,(h 99),⟨(.type L3),none,.fields #[(.ref 1006),(.ref (h 77))],#[]⟩⟩ .nil .nil) .nil)) (.node ⟨false,(h 15),⟨(.type L0),none,.dict #[eS P ⟨#[112,97,99,107,97,103,101,115]⟩ (g 63) .none,eS P ⟨#[110,97,109,101,100]⟩ (g 169) (.ref (h 40)),eS P FK (g 171) (.ref (h 58)),eS P ⟨#[99,111,110,115,116,115]⟩ (g 173) (.ref (h 59)),eS P ⟨#[102,117,110,99,115]⟩ (g 175) (.ref (h 60)),eS P ⟨#[98,111,100,105,101,115]⟩ (g 177) (.ref (h 61)),eS P ⟨#[102,105,108,101,115]⟩ (g 179) (.ref (h 62)),eS P ⟨#[115,99,111,112,101,115]⟩ (g 181) (.ref (h 63)),eS P ⟨#[111,114,100,101,114]⟩ (g 183) (.ref (h 64)),eS P ⟨#[115,116,97,114,116,115]⟩ (g 185) (.ref (h 65)),eS P ⟨#[115,101,116,116,108,101]⟩ (g 187) .none,eS P ⟨#[108,97,116,101,95,107,101,121,115]⟩ (g 189) (.ref (h 66)),eS P ⟨#[105,115,95,119,104,111,108,101]⟩ (g 191) (.bool true)] 13,#[]⟩⟩ (.node ⟨false,(h 110),⟨(.type L0),none,.dict #[eS P ⟨#[99,111,100,101]⟩ (g 317) (.ref (h 12)),eS P ⟨#[114,101,103,105,115,116,101,114,115]⟩ (g 325) (.ref (h 117)),eS P G5 (g 360) (.ref (h 120)),eS P ⟨#[98,108,111,99,107]⟩ (g 363) (.int 0 (g 361)),eS P Qf (g 366) (.int 0 (g 364)),eS P ⟨#[116,97,114,103,101,116,115]⟩ (g 368) .none,eS P ⟨#[115,101,114,118,101,115]⟩ (g 370) .none,eS P ⟨#[105,115,95,100,101,102,101,114,114,101,100]⟩ (g 372) (.bool false),eS P ⟨#[100,101,102,101,114,115]⟩ (g 374) (.ref (h 124)),eS P ⟨#[111,119,110,101,100]⟩ (g 376) (.ref (h 125))] 10,#[]⟩⟩ (.node ⟨false,(h 94),⟨(.type L3),none,.fields #[(.ref 957),(.ref (h 77))],#[]⟩⟩ .nil .nil) (.node ⟨false,(h 107),⟨(.type L3),none,.fields #[(.ref 1069),(.ref (h 77))],#[]⟩⟩ .nil .nil)) (.node ⟨false,(h 86),⟨(.type L3),none,.fields #[(.ref 931),(.ref (h 77))],#[]⟩⟩ (.node ⟨false,(h 101),⟨(.type L3),none,.fields #[(.ref 1027),(.ref (h 77))],#[]⟩⟩ .nil .nil) .nil))) (.node ⟨false,(h 76),⟨(.type L0),none,.dict #[eS P ⟨#[119,111,114,108,100]⟩ (g 219) (.ref (h 16)),eS P Q7 (g 221) (.ref (h 68)),eS P ⟨#[99,104,111,105,99,101,115]⟩ (g 223) (.ref (h 73)),eS P ⟨#[115,105,116,101,115]⟩ (g 225) (.ref (h 75)),eS P ⟨#[100,101,101,100,115]⟩ (g 311) (.ref (h 79))] 5,#[]⟩⟩ (.node ⟨false,(h 16),⟨(.ref 1471),some (h 15),.plain,#[]⟩⟩ (.node ⟨false,(h 111),⟨(.ref 1222),some (h 110),.plain,#[]⟩⟩ (.node ⟨false,(h 90),⟨(.type L3),none,.fields #[(.ref 910),(.ref (h 77))],#[]⟩⟩ .nil .nil) (.node ⟨false,(h 106),⟨(.type L3),none,.fields #[(.ref 1062),(.ref (h 77))],#[]⟩⟩ .nil .nil)) (.node ⟨false,(h 85),⟨(.type L3),none,.fields #[(.ref 924),(.ref (h 77))],#[]⟩⟩ (.node ⟨false,(h 100),⟨(.type L3),none,.fields #[(.ref 1020),(.ref (h 77))],#[]⟩⟩ .nil .nil) .nil)) (.node ⟨false,(h 68),⟨(.ref 1404),some (h 67),.plain,#[]⟩⟩ (.node ⟨false,(h 81),⟨(.type L3),none,.fields #[(.ref 854),(.ref (h 77))],#[]⟩⟩ (.node ⟨false,(h 98),⟨(.type L3),none,.fields #[(.ref 992),(.ref (h 77))],#[]⟩⟩ .nil .nil) .nil) (.node ⟨false,(h 87),⟨(.type L3),none,.fields #[(.ref 938),(.ref (h 77))],#[]⟩⟩ (.node ⟨false,(h 102),⟨(.type L3),none,.fields #[(.ref 1034),(.ref (h 77))],#[]⟩⟩ .nil .nil) .nil))))
noncomputable def m7 (d:Nat):Nat:=d % 7
noncomputable def zZ (d:Nat):Nat:=match d with
 | 0=>1520
 | 1=>1525
 | 2=>1532
 | 3=>1537
 | 4=>1544
 | 5=>1551
 | _=>1561
noncomputable def FQ (P:Params) (d:Nat):FuncData:=match (Mine.Scr.KT0 P).get (zZ d) with
 | some o=>match o.data with
  | .func f=>f
  | _=>default
 | none=>default
noncomputable def Es (P:Params) (d:Nat):Cell:=⟨false,zZ (m7 d),⟨.type Le,none,.func (FQ P (m7 d)),#[]⟩⟩
noncomputable def BB (w:World) (h g:Nat→Nat):Base:=⟨PySem.Challenge.pw_on0051_01,w,Mine.Scr.KT0 w.params,EN w.params h g,Es w.params⟩
noncomputable def oL (e:Nat) (l:List Value):Obj:=⟨yL,none,.seq ⟨l⟩ e,#[]⟩
noncomputable def oT (l:List Value):Obj:=⟨yT,none,.seq ⟨l⟩ 0,#[]⟩
noncomputable def V7.l (x:V7):List Value:=[x.a,x.b,x.c,x.d,x.e,x.f,x.g]
noncomputable def fp (l:List Value) (i:Nat):Value:=match l,i with
 | [],_=>.none
 | v::_,0=>v
 | _::l,i+1=>fp l i
noncomputable def nb (l:List Nat) (i:Nat):Nat:=match l,i with
 | [],_=>0
 | v::_,0=>v
 | _::l,i+1=>nb l i
noncomputable def bK (o:Obj):List Value:=match o.data with
 | .seq xs _=>xs.toList
 | _=>[]
noncomputable def v7 (o:Obj):V7:=⟨fp (bK o) 0,fp (bK o) 1,fp (bK o) 2,fp (bK o) 3,fp (bK o) 4,fp (bK o) 5,fp (bK o) 6⟩
noncomputable def V7.set (x:V7) (i:Nat) (v:Value):V7:=match i with
 | 0=>{ x with a:=v } | 1=>{ x with b:=v } | 2=>{ x with c:=v } | 3=>{ x with d:=v } | 4=>{ x with e:=v } | 5=>{ x with f:=v } | _=>{ x with g:=v }
noncomputable def V7.get (x:V7) (i:Nat):Value:=match i with
 | 0=>x.a | 1=>x.b | 2=>x.c | 3=>x.d | 4=>x.e | 5=>x.f | _=>x.g
noncomputable abbrev cT (h:Nat→Nat) (m:Bool) (R:V7):Cell:=⟨m,h 117,oL 0 R.l⟩
noncomputable abbrev cU (h:Nat→Nat) (m:Bool) (F:V7):Cell:=⟨m,h 120,oL 7 F.l⟩
noncomputable abbrev ok (v:Value):Result:=.ok (.ret v)
noncomputable abbrev aq (a:Nat) (l:List Value):Code:=.call (.ref a) ⟨l,[]⟩
noncomputable abbrev iA (y x:Int):Int:=Int.rec (fun a=>(fun a=>Int.casesOn x (fun a_1=>(fun m n=>Int.ofNat (m+n)) a a_1) fun a_1=>(fun m n=>Int.subNatNat m n.succ) a a_1) a) (fun a=>(fun a=>Int.casesOn x (fun a_1=>(fun m n=>Int.subNatNat n m.succ) a a_1) fun a_1=>(fun m n=>Int.negSucc (m+n).succ) a a_1) a) y
noncomputable abbrev fA (x:Value)(R:V7):List Value:=[x,R.2,R.3,R.4,R.5,R.6,R.7]
noncomputable abbrev El (x y:Value)(R:V7):List Value:=[x,y,R.3,R.4,R.5,R.6,R.7]
noncomputable abbrev rB:List Nat→List Nat→Result:=fun b _=>ok (.ref (nb b 0))
noncomputable abbrev rX:List Nat→List Nat→Result:=fun _ _=>.ok .next
noncomputable abbrev rO:List Nat→List Nat→Result:=fun _ _=>ok .none
noncomputable abbrev nN:List Nat→List Nat→List Obj:=fun _ _=>[]
noncomputable def RS.finO (D:RS) (bx tx:List Nat) (po:List Nat→List Nat→(Nat→Obj)→(Nat→Post)→List Obj) (nw:List Nat→List Nat→List Obj) (r:List Nat→List Nat→Result):RS:={ D with bx:=bx,tx:=tx,po:=po,nw:=nw,r:=r }
noncomputable def RS.fin (D:RS) (bx tx:List Nat) (po nw:List Nat→List Nat→List Obj) (r:List Nat→List Nat→Result):RS:=D.finO bx tx (fun b t _ _=>po b t) nw r
noncomputable def aG (lv:Nat) (sh:List (List Kd)) (dy:Bool) (c:Code) (cells:List Cell):RS:={ lv:=lv,sh:=sh,c:=c,cells:=cells,bx:=[],tx:=[],po:=fun _ _ _ _=>[],nw:=fun _ _=>[],r:=fun _ _=>ok .none,dy:=dy }
noncomputable def c7 (P:Params) (h g:Nat→Nat) (r t:Nat) (v:Value) (R F:V7):RS where
 lv:=60
 sh:=[]
 c:=aq 1184 [.ref (h 111),.int r t,v]
 cells:=[cT h true R,cU h true F]
 bx:=[]
 tx:=[]
 po:=fun _ _ _ _=>[oL 0 (R.set r v).l,oL 7 (F.set r (.bool true)).l]
 nw:=fun _ _=>[]
 r:=fun _ _=>ok .none
noncomputable abbrev au (c:Code) (cells:List Cell) (v:Value):RS:={ lv:=60,sh:=[],c:=c,cells:=cells,bx:=[],tx:=[],po:=fun _ _ _ _=>[],nw:=fun _ _=>[],r:=fun _ _=>ok v }
noncomputable def mI (P:Params) (h g:Nat→Nat) (a t:Nat) (T v:Value):RS:=au (aq 1172 [.ref (h 111),.ref a]) [⟨false,a,oT [.str Q5 t,T,v]⟩] v
noncomputable def vn (P:Params) (h g:Nat→Nat) (a t r tr:Nat) (R F:V7):RS:=au (aq 1172 [.ref (h 111),.ref a]) [⟨false,a,oT [.str Qn t,.int r tr]⟩,cT h false R,cU h false F] (R.get r)
noncomputable def vp (P:Params) (h g:Nat→Nat) (a t tr x:Nat) (R F:V7):RS:=vn P h g a t 0 tr { R with a:=.ref x } { F with a:=.bool true }
noncomputable def vM (P:Params) (h g:Nat→Nat) (a t tr x:Nat) (R F:V7):RS:=vn P h g a t 1 tr { R with b:=.ref x } { F with b:=.bool true }
noncomputable def lX (P:Params) (h g:Nat→Nat) (a t:Nat) (s:Str):RS:=au (aq 1461 [.ref (h 16),.ref a]) [⟨false,a,oT [.str s t]⟩] (.ref a)
noncomputable def gY (P:Params) (h g:Nat→Nat) (a t:Nat) (s:Str) (x:Value):RS:=au (aq 1461 [.ref (h 16),.ref a]) [⟨false,a,oT [.str s t,x]⟩] (.ref a)
noncomputable def hA (P:Params) (h g:Nat→Nat) (a t:Nat) (s:Str) (x y:Value):RS:=au (aq 1461 [.ref (h 16),.ref a]) [⟨false,a,oT [.str s t,x,y]⟩] (.ref a)
noncomputable abbrev aS (id:String) (l:List Value):Code:=.call (.builtin id) ⟨l,[]⟩
noncomputable def zt (s:Str):List (Str × Nat)→Nat
 | []=>0
 | x::l=>match PySem.W.Fast.lEq s.cps.toList x.1.cps.toList with
  | true=>x.2
  | false=>zt s l
noncomputable def ve:List (Str × Nat):=[(Qr,81),(Qm,83),(Qq,85),(Qz,86),(Qu,87),(Ex,88),(Ey,90),(Et,94),(Qj,98),(Ca,99),(Qs,100),(Qv,101),(Dh,102),(EC,105),(Qh,106),(Ez,107)]
noncomputable def aN (P:Params) (h g:Nat→Nat) (s:Str) (t:Nat):RS:=au (aS Lb [.ref (h 79),.str s t]) [] (.ref (h (zt s ve)))
noncomputable def bN:List (Str × (Int × Nat)):=[(Q1,(64,667)),(Q0,(8,669)),(⟨#[105,110,116,49,54]⟩,(16,671)),(⟨#[105,110,116,51,50]⟩,(32,673)),(Q2,(64,675)),(⟨#[117,105,110,116]⟩,(64,677)),(Q3,(8,679)),(Q4,(16,681)),(Gh,(32,683)),(FS,(64,685))]
noncomputable def bC (s:Str):List (Str × (Int × Nat))→(Int × Nat)
 | []=>(0,0)
 | x::l=>match PySem.W.Fast.lEq s.cps.toList x.1.cps.toList with
  | true=>x.2
  | false=>bC s l
noncomputable def dM (P:Params) (h g:Nat→Nat) (s:Str) (t:Nat):RS:=au (aS Lb [.ref 350,.str s t]) [] (.int (bC s bN).1 (bC s bN).2)
noncomputable def fg (s:Str):List Str→Bool
 | []=>false
 | x::l=>match PySem.W.Fast.lEq s.cps.toList x.cps.toList with
  | true=>true
  | false=>fg s l
noncomputable def pg (a:Nat):List Str:=match a with
 | 728=>[⟨#[61,61]⟩,⟨#[33,61]⟩,⟨#[60]⟩,⟨#[60,61]⟩,⟨#[62]⟩,Qy]
 | 351=>[⟨#[60,60]⟩,⟨#[62,62]⟩]
 | 415=>[Qi,Qe,⟨#[102,117,110,99]⟩]
 | _=>[]
noncomputable abbrev iV (P:Params) (h g:Nat→Nat) (a:Nat) (s:Str) (t:Nat):RS:=au (aS Mine.SL.s12157581064306048743x18 [.ref a,.str s t]) [] (.bool (fg s (pg a)))
noncomputable def bT (P:Params) (h g:Nat→Nat) (s:Str) (t:Nat):RS:=iV P h g 728 s t
noncomputable def fY (P:Params) (h g:Nat→Nat) (s:Str) (t:Nat):RS:=iV P h g 351 s t
noncomputable def pe (P:Params) (h g:Nat→Nat) (s:Str) (t:Nat):RS:=iV P h g 415 s t
noncomputable def DY (P:Params) (h g:Nat→Nat) (a:Nat) (s1 s2:Str) (t1 t2:Nat) (s:Str) (t:Nat):RS:=au (aS Mine.SL.s12157581064306048743x18 [.ref a,.str s t]) [⟨false,a,oT [.str s1 t1,.str s2 t2]⟩] (.bool (fg s [s1,s2]))
inductive DT where
 | v (x:Value)
 | s (tup:Bool) (a:Nat) (e:Nat) (l:List DT)
noncomputable def DT.val:DT→Value
 | .v x=>x
 | .s _ a _ _=>.ref a
noncomputable def aJ:List DT→List Value
 | []=>[]
 | d::l=>d.val::aJ l
mutual
noncomputable def DT.cells:DT→List Cell
 | .v _=>[]
 | .s true a _ l=>⟨false,a,oT (aJ l)⟩::aQ l
 | .s false a e l=>⟨false,a,oL e (aJ l)⟩::aQ l
noncomputable def aQ:List DT→List Cell
 | []=>[]
 | d::l=>d.cells ++ aQ l
end
noncomputable def j0 (neg tup:Bool):String:=match neg,tup with
 | false,false=>Mine.SL.s4576608952293643177x11
 | true,false=>Mine.SL.s11274501207620069578x11
 | false,true=>PySem.W.SL.s12699791747848524816x12
 | true,true=>Mine.SL.s5184184855523559102x12
noncomputable def bo (dr:List Nat):Nat→List Cell→List Cell
 | _,[]=>[]
 | i,c::l=>match gn i dr with
  | true=>bo dr (i+1) l
  | false=>c::bo dr (i+1) l
noncomputable def dS (P:Params) (h g:Nat→Nat) (neg tup:Bool) (X Y:DT) (b:Bool) (dr:List Nat):RS:=au (aS (j0 neg tup) [X.val,Y.val]) (bo dr 0 (X.cells ++ Y.cells)) (.bool b)
noncomputable def r5:List Value→List Value→Bool
 | _,[]=>false
 | [],_::_=>true
 | .int i _::l,.int j _::m=>match decide (i=j) with
  | true=>r5 l m
  | false=>decide (i<j)
 | _,_=>false
noncomputable def vQ (P:Params) (h g:Nat→Nat) (a b e e':Nat) (l m:List Value):RS:=au (aS Mine.SL.s4715828480015836442x11 [.ref a,.ref b]) [⟨false,a,oL e l⟩,⟨false,b,oL e' m⟩] (.bool (r5 l m))
noncomputable def j5:List (Nat × Value)→List DictEntry
 | []=>[]
 | x::l=>j5 l ++ [⟨hashInt (Int.ofNat (ag l+1)),.int (Int.ofNat (ag l+1)) x.1,x.2⟩]
noncomputable def oK (n:Nat) (K:List (Nat × Value)):Obj:=⟨yD,none,.dict ⟨j5 K⟩ n,#[]⟩
noncomputable abbrev cS (h:Nat→Nat) (m:Bool) (n:Nat) (K:List (Nat × Value)):Cell:=⟨m,h 70,oK n K⟩
noncomputable abbrev bP (P:Params) (h g:Nat→Nat) (m:Bool) (n:Nat) (t:Nat):Cell:=⟨m,h 67,⟨yD,none,.dict #[eS P ⟨#[107,101,112,116]⟩ (g 195) (.ref (h 70)),eS P ⟨#[103,105,118,101,110]⟩ (g 198) (.int (Int.ofNat n) t),eS P ⟨#[104,101,114,101]⟩ (g 201) (.int 0 (g 199)),eS P ⟨#[119,97,116,99,104]⟩ (g 203) .none,eS P ⟨#[99,111,108,108,101,99,116,111,114]⟩ (g 205) .none] 5,#[]⟩⟩
noncomputable def mm (P:Params) (h g:Nat→Nat) (n:Nat) (K:List (Nat × Value)) (t:Nat) (v:Value):RS:=(au (aS Lj [.ref (h 70),.int (Int.ofNat (n+1)) t,v]) [cS h true n K] .none).fin [] [] (fun _ _=>[oK (n+1) ((t,v)::K)]) (fun _ _=>[]) (fun _ _=>ok .none)
noncomputable def aU (P:Params) (h g:Nat→Nat) (n:Nat) (K:List (Nat × Value)) (x:Nat × Value) (t:Nat):RS:=au (aS Lb [.ref (h 70),.int (Int.ofNat (n+1)) t]) [cS h false (n+1) (x::K)] x.2
noncomputable def aT (P:Params) (h g:Nat→Nat) (n:Nat) (K:List (Nat × Value)) (x:Nat × Value) (t:Nat):RS:=au (aS PySem.W.SL.s7605591312241722700x17 [.ref (h 70),.int (Int.ofNat (n+1)) t]) [cS h false (n+1) (x::K)] (.bool true)
noncomputable def eW:List (List Kd):=[[.func,.forL,.func,.caller],[.compL,.func,.forL,.func,.caller],[.compL,.func,.func,.forL,.func,.caller],[.forL,.func,.forL,.func,.caller]]
noncomputable def zl (l:List Kd):List (List Kd)→List (List Kd)
 | []=>[]
 | r::rs=>(l ++ r)::zl l rs
noncomputable def Bk:List (List Kd):=zl [.func,.func,.func,.func] eW
noncomputable def uK:List (List Kd):=[.compL,.func,.forL,.func,.caller]::zl [.compL,.func] Bk
noncomputable def A6:List (List Kd):=[[.forL,.func,.caller]]
noncomputable def Gr:List (List Kd):=[[.func,.forL,.func,.caller]]
noncomputable def Go:List (List Kd):=[[.forL,.func,.caller],[.func,.forL,.func,.caller],[.func,.func,.forL,.func,.caller]]
noncomputable def lN (P:Params) (h g:Nat→Nat) (i:Int) (t t2:Nat) (s:Str):RS:=au (aS Lc [.ref (h 75),.int i t,.str s t2]) [] (.str s t2)
noncomputable def hT (P:Params) (k:Int):Int:=reduceHash (Builtin.Tuple.tupleHashOf [hS P Q1,hashInt k])
noncomputable abbrev n9 (t1 t2:Nat) (k:Int):Obj:=oT [.str Q1 t1,.int k t2]
noncomputable abbrev pm (P:Params) (k:Int) (mk:Nat) (v:Value):Obj:=⟨yD,none,.dict #[⟨hT P k,.ref mk,v⟩] 1,#[]⟩
noncomputable abbrev rk (e:Nat):Obj:=⟨yD,none,.dict #[] e,#[]⟩
noncomputable abbrev FG:Obj:=rk 0
noncomputable def sP (P:Params) (h g:Nat→Nat) (en mk t1 t2:Nat) (k:Int):RS:=au (aS Lc [.ref en,.ref mk]) [⟨false,en,FG⟩,⟨false,mk,n9 t1 t2 k⟩] .none
noncomputable def tI (P:Params) (h g:Nat→Nat) (en mk t1 t2:Nat) (k:Int) (v:Value):RS:=(au (aS Lj [.ref en,.ref mk,v]) [⟨true,en,FG⟩,⟨false,mk,n9 t1 t2 k⟩] .none).fin [] [] (fun _ _=>[pm P k mk v]) (fun _ _=>[]) (fun _ _=>ok .none)
noncomputable def jL (P:Params) (h g:Nat→Nat) (en e:Nat):RS:={ au (aS PySem.W.SL.s13430074062756142643x12 [.ref en]) [⟨false,en,rk e⟩] .none with tx:=[0],r:=fun _ t=>ok (.int 0 (nb t 0)) }
noncomputable def D7 (P:Params) (h g:Nat→Nat) (d:Nat) (s1 s2:Str) (t1 t2:Nat) (v1 v2:Value) (s:Str) (t:Nat):RS:=au (aS Lb [.ref d,.str s t]) [⟨false,d,⟨yD,none,.dict #[eS P s1 t1 v1,eS P s2 t2 v2] 2,#[]⟩⟩] (match fg s [s1] with | true=>v1 | false=>v2)
noncomputable def qZ:List Value→List Value→List Value
 | [],m=>m
 | v::l,m=>v::qZ l m
noncomputable def jb (P:Params) (h g:Nat→Nat) (a b:Nat) (n n':Nat) (l m:List Value):RS:=(au (.builtin Lk ⟨[.ref a,.ref b],[]⟩) [⟨true,a,oL n l⟩,⟨false,b,oL n' m⟩] .none).fin [] [] (fun _ _=>[oL (n+1) (qZ l m)]) (fun _ _=>[]) (fun _ _=>ok (.ref a))
noncomputable def s7 (P:Params) (h g:Nat→Nat) (en mk t1 t2 mk' t1' t2':Nat) (k:Int) (v:Value):RS:=au (aS Lc [.ref en,.ref mk']) [⟨false,en,pm P k mk v⟩,⟨false,mk,n9 t1 t2 k⟩,⟨false,mk',n9 t1' t2' k⟩] v
noncomputable def tG (P:Params) (h g:Nat→Nat) (en mk t1 t2 mk' t1' t2':Nat) (k k':Int) (v:Value):RS:=au (aS Lc [.ref en,.ref mk']) [⟨false,en,pm P k mk v⟩,⟨false,mk,n9 t1 t2 k⟩,⟨false,mk',n9 t1' t2' k'⟩] .none
noncomputable def ub (P:Params) (h g:Nat→Nat) (en mk t1 t2 mk' t1' t2':Nat) (k:Int) (v:Value):RS:=(au (aS PySem.W.SL.s2631155843430911455x8 [.ref en,.ref mk',.none]) [⟨true,en,pm P k mk v⟩,⟨false,mk,n9 t1 t2 k⟩,⟨false,mk',n9 t1' t2' k⟩] v).fin [] [] (fun _ _=>[rk 2]) (fun _ _=>[]) (fun _ _=>ok v)
noncomputable def fu (o:Obj):Scope:=match o.data with
 | .func fd=>fd.scope
 | _=>default
noncomputable abbrev oF (n:Nat) (l:List DictEntry):Obj:=⟨.type L2,none,.dict ⟨l⟩ n,#[]⟩
noncomputable def ym (y:Nat):Nat:=y
noncomputable def aE (b:Nat) (K:List (Nat × Value)):List (Nat × Value):=match Nat.ble (ag K) b with
 | true=>K
 | false=>[]
noncomputable def RS.open (D:RS) (po:List Obj):RS:={ D with bx:=[],tx:=[],po:=fun _ _ _ _=>po,nw:=fun _ _=>[],r:=fun _ _=>ok (.bool true) }
noncomputable def oq (P:Params) (n:Nat):Obj:=match (Mine.Scr.KT0 P).get n with
 | some o=>o
 | none=>{ cls:=.none }
noncomputable def dq (o:Obj):List Stmt:=match o.data with
 | .func fd=>match fd.body with
  | .stmts l=>l
  | _=>[]
 | _=>[]
noncomputable def yE (s:Stmt):PySem.Expr:=match s with
 | .Return e _=>match e with
  | some e=>e
  | none=>default
 | .Assign _ e _=>e
 | _=>default
noncomputable def Eu (o:Obj) (j:Nat):PySem.Expr:=match i7 (dq o) j with
 | s::_=>yE s
 | []=>default
noncomputable def r8:List (Str × NameKind)→List (Str × NameKind)
 | []=>[]
 | x::l=>match x.2 with
  | .free=>(x.1,.cell)::r8 l
  | k=>(x.1,k)::r8 l
noncomputable def Gi (e:PySem.Expr):Scope:=match e with
 | .ListComp _ _ s _=>{ s with names:=r8 s.names }
 | _=>default
noncomputable abbrev Gk (m:Nat):Obj:=⟨.type L7,none,.fields #[.int 0 0,.int (Int.ofNat m) 0,.int 1 0],#[]⟩
noncomputable abbrev Gt (a:Nat):Obj:=⟨.type Ll,none,.fields #[.ref a,.int 0 0],#[]⟩
noncomputable abbrev EF (v:Value):Obj:=⟨.type PySem.W.SL.s15660640913423913556x4,none,.cell (some v),#[]⟩
noncomputable abbrev FR:Obj:=⟨yD,none,.dict #[] 0,#[]⟩
noncomputable def bH (P:Params) (h g:Nat→Nat) (m it acc L c1 f:Nat) (R:V7):RS:=aG 60 [] false (.compStart (Eu (oq P 1501) 2) 0 (.ref it) (.ref acc) ⟨Gi (Eu (oq P 1501) 2),L,3,[(⟨#[102,114,97,109,101]⟩,c1)],⟨#[95,108,97,119,95,100,111,110,101,46,60,108,111,99,97,108,115,62,46]⟩,none,.ref 1500,some f,0⟩) [⟨true,it,Gk m⟩,⟨true,acc,oL 0 []⟩,⟨true,L,FR⟩,⟨false,c1,EF (.ref (h 111))⟩,cT h false R]
noncomputable abbrev bO (e:Nat) (X Y:Nat) (tx ty r:Nat):Obj:=oL e [.int (Int.ofNat X) tx,.int (Int.ofNat Y) ty,.ref r]
noncomputable def ah (P:Params) (h g:Nat→Nat) (s r e er:Nat) (X Y d X' Y':Nat) (top:Int) (tx ty tt:Nat):RS :=
 { au (aq 1489 [.ref s,.int top tt]) [⟨true,s,bO e X Y tx ty r⟩,⟨false,r,oL er []⟩] .none with lv:=150,sh:=Go,tx:=[0,1,2],po:=fun _ t _ _=>[bO e X' Y' (nb t 1) (nb t 2) r],r:=fun _ t=>ok (.int (Int.ofNat d) (nb t 0)) }
noncomputable def aH (P:Params) (h g:Nat→Nat) (s r e er th eh:Nat) (X Y d X' Y':Nat) (tx ty:Nat) (l:List Value):RS :=
 { au (aq 1496 [.ref s,.ref th]) [⟨true,s,bO e X Y tx ty r⟩,⟨false,r,oL er []⟩,⟨false,th,oL eh l⟩] .none with lv:=200,sh:=Gr,tx:=[0,1],po:=fun _ t _ _=>[bO e X' Y' (nb t 0) (nb t 1) r],r:=fun _ _=>ok (fp l d) }
noncomputable def FP (P:Params) (h g:Nat→Nat) (X tx t:Nat) (b:Bool):RS:=au (aS Mine.SL.s549184847318252788x10 [.int (Int.ofNat X) tx,.int 0 t]) [] (.bool b)
noncomputable def Fd (P:Params) (h g:Nat→Nat) (X tx t:Nat):RS:=FP P h g X tx t true
noncomputable def A3 (P:Params) (h g:Nat→Nat) (id:String) (a b c t u:Nat):RS:=(au (aS id [.int (Int.ofNat a) t,.int (Int.ofNat b) u]) [] .none).fin [] [0] (fun _ _=>[]) (fun _ _=>[]) (fun _ t=>ok (.int (Int.ofNat c) (nb t 0)))
noncomputable def fG (P:Params) (h g:Nat→Nat) (a b c t u:Nat):RS:=A3 P h g Mine.SL.s15302896290300502732x11 a b c t u
noncomputable def nl (P:Params) (h g:Nat→Nat) (a b c t u:Nat):RS:=A3 P h g Mine.SL.s4995937446222217074x11 a b c t u
noncomputable def eA (P:Params) (h g:Nat→Nat) (a b c t u:Nat):RS:=A3 P h g Mine.SL.s15071220520546248041x11 a b c t u
noncomputable def zR (P:Params) (h g:Nat→Nat) (a b c t u:Nat):RS:=A3 P h g Mine.SL.s14309602957429558208x16 a b c t u
noncomputable def ld (P:Params) (h g:Nat→Nat) (a e d t:Nat) (l:List Value):RS:=au (aS Ld [.ref a,.int (Int.ofNat d) t]) [⟨false,a,oL e l⟩] (fp l d)
noncomputable def bk {α:Type} (z:α):List α→Nat→α
 | [],_=>z
 | v::_,0=>v
 | _::l,i+1=>bk z l i
noncomputable def jc (P:Params) (h g:Nat→Nat) (s r e er th eh:Nat) (X Y d X' Y':Nat) (tx ty:Nat) (l:List Value) (v:Value):RS:={ aH P h g s r e er th eh X Y d X' Y' tx ty l with r:=fun _ _=>ok v }
noncomputable def ay (P:Params) (h g:Nat→Nat) (s r e er th eh:Nat) (X Y d X' Y':Nat) (tx ty:Nat) (b0 b1 b2 b3:Array UInt8) (t0 t1 t2 t3:Nat):RS:=jc P h g s r e er th eh X Y d X' Y' tx ty [.bytes b0 t0,.bytes b1 t1,.bytes b2 t2,.bytes b3 t3] (.bytes (bk #[] [b0,b1,b2,b3] d) (bk 0 [t0,t1,t2,t3] d))
noncomputable def bS (P:Params) (h g:Nat→Nat) (s r e er th eh:Nat) (X Y d X' Y':Nat) (tx ty:Nat) (b0 b1:Array UInt8) (t0 t1:Nat):RS:=jc P h g s r e er th eh X Y d X' Y' tx ty [.bytes b0 t0,.bytes b1 t1] (.bytes (bk #[] [b0,b1] d) (bk 0 [t0,t1] d))
noncomputable def aA (P:Params) (h g:Nat→Nat) (s r e er th eh:Nat) (X Y d X' Y':Nat) (tx ty:Nat) (b0 b1 b2 b3 b4:Int) (t0 t1 t2 t3 t4:Nat):RS:=jc P h g s r e er th eh X Y d X' Y' tx ty [.int b0 t0,.int b1 t1,.int b2 t2,.int b3 t3,.int b4 t4] (.int (bk 0 [b0,b1,b2,b3,b4] d) (bk 0 [t0,t1,t2,t3,t4] d))
noncomputable def az (P:Params) (h g:Nat→Nat) (s r e er th eh:Nat) (X Y d X' Y':Nat) (tx ty:Nat) (b0 b1 b2 b3:Str) (t0 t1 t2 t3:Nat):RS:=jc P h g s r e er th eh X Y d X' Y' tx ty [.str b0 t0,.str b1 t1,.str b2 t2,.str b3 t3] (.str (bk Str.empty [b0,b1,b2,b3] d) (bk 0 [t0,t1,t2,t3] d))
noncomputable def Fm (P:Params) (h g:Nat→Nat) (L:Nat) (s:Nat) (R:V7) (F:V7) (n:Nat) (K:List (Nat × Value)) (t1:Nat) (wd:Nat) (tt:Nat) (rw:Nat) (r2:Nat) (D1:Nat) (D2:Nat) (t2:Nat) (t3:Nat) (t4:Nat) (t5:Nat) (t6:Nat) (t7:Nat) (t8:Nat) (t9:Nat) (t10:Nat) (t11:Nat) (t12:Nat) (t13:Nat) (t14:Nat) (t15:Nat) (t16:Nat) (t17:Nat) (t18:Nat) (v1:Value) (t19:Nat) (t20:Nat) (v2:Value) (t21:Nat) (v3:Value) (t22:Nat) (v4:Value) (t23:Nat) (v5:Value):RS:={ aG 600 A6 true (Code.func (dq (oq P 1532)) ⟨fu (oq P 1532),L,3,[],⟨#[95,108,97,119,95,112,97,114,116,115,95,114,105,103,104,116,46,60,108,111,99,97,108,115,62,46]⟩,some 1532,.ref 1531,some L,0⟩) [⟨true,L,oF 13 [eS P EH t9 (.ref s),eS P Ev t10 (.ref (h 126)),eS P Q7 t11 (.ref (h 68)),eS P EA t12 (.ref wd),eS P ⟨#[116]⟩ t13 (.ref tt),eS P ⟨#[104,105,103,104]⟩ t14 (.int (Int.ofNat D2) t15),eS P ⟨#[108,111,119]⟩ t16 (.int (Int.ofNat D1) t17),eS P ⟨#[105,110,100,101,120]⟩ t18 v1,eS P Qb t19 (.ref rw),eS P F8 t20 v2,eS P ⟨#[111,116,104,101,114]⟩ t21 v3,eS P ⟨#[98,101,121,111,110,100]⟩ t22 v4,eS P ⟨#[105,115,95,105,110]⟩ t23 v5]⟩,cT h true R,cU h true F,bP P h g true n t1,cS h true n K,⟨false,wd,oT [(.str Qd t2)]⟩,⟨false,tt,oT [(.str Q1 t3),(.str Q1 t4)]⟩,⟨false,rw,oT [(.str EK t5),.ref r2]⟩,⟨false,r2,oT [(.int 4 t6),(.int 5 t7),(.int 6 t8)]⟩] with tl:=some 7,di:=true }
noncomputable def mM (P:Params) (h g:Nat→Nat) (L:Nat) (s:Nat) (R:V7) (F:V7) (n:Nat) (K:List (Nat × Value)) (t1:Nat) (wd:Nat) (tt:Nat) (rw:Nat) (r2:Nat) (D1:Nat) (D2:Nat) (t2:Nat) (t3:Nat) (t4:Nat) (t5:Nat) (t6:Nat) (t7:Nat) (t8:Nat) (t9:Nat) (t10:Nat) (t11:Nat) (t12:Nat) (t13:Nat) (t14:Nat) (t15:Nat) (t16:Nat) (t17:Nat) (t18:Nat) (v1:Value) (t19:Nat) (t20:Nat) (v2:Value) (t21:Nat) (v3:Value) (t22:Nat) (v4:Value) (t23:Nat) (v5:Value) (ρ:Post):RS:=(Fm P h g L s R F n K t1 wd tt rw r2 D1 D2 t2 t3 t4 t5 t6 t7 t8 t9 t10 t11 t12 t13 t14 t15 t16 t17 t18 v1 t19 t20 v2 t21 v3 t22 v4 t23 v5).open [ρ.o 0,oL 0 ρ.R.l,oL 7 ρ.F.l,(bP P h g true (ag (aE (n+2) ρ.K)) (ρ.t 2)).o,oK (ag (aE (n+2) ρ.K)) (aE (n+2) ρ.K)]
noncomputable def Fn (P:Params) (h g:Nat→Nat) (L:Nat) (s:Nat) (r:Nat) (er:Nat) (X0:Nat) (Y0:Nat) (R:V7) (F:V7) (n:Nat) (K:List (Nat × Value)) (t1:Nat) (ct:Nat) (ch:Nat) (tt:Nat) (t2:Nat) (t3:Nat) (t4:Nat) (t5:Nat) (v1:Value) (t6:Nat) (v2:Value) (t7:Nat) (v3:Value) (t8:Nat) (v4:Value) (t9:Nat) (v5:Value) (t10:Nat) (v6:Value) (t11:Nat) (t12:Nat):RS:={ aG 600 A6 true (Code.func (dq (oq P 1537)) ⟨fu (oq P 1537),L,3,[(⟨#[116]⟩,ct),(Ev,ch)],⟨#[95,108,97,119,95,115,105,122,101,115,95,114,105,103,104,116,46,60,108,111,99,97,108,115,62,46]⟩,some 1537,.ref 1536,some L,0⟩) [⟨true,L,oF 7 [eS P EH t4 (.ref s),eS P ⟨#[98,121,116,101]⟩ t5 v1,eS P ⟨#[114,111,119,115]⟩ t6 v2,eS P EA t7 v3,eS P ⟨#[84]⟩ t8 v4,eS P ⟨#[118,97,108,117,101]⟩ t9 v5,eS P ⟨#[100,117,101]⟩ t10 v6]⟩,⟨true,s,bO 0 X0 Y0 t11 t12 r⟩,⟨false,r,oL er []⟩,cT h true R,cU h true F,bP P h g true n t1,cS h true n K,⟨false,ct,EF (.ref tt)⟩,⟨false,ch,EF (.ref (h 126))⟩,⟨false,tt,oT [(.str Q1 t2),(.str Q1 t3)]⟩] with tl:=some 7,di:=true }
noncomputable def ir (P:Params) (h g:Nat→Nat) (L:Nat) (s:Nat) (r:Nat) (er:Nat) (X0:Nat) (Y0:Nat) (R:V7) (F:V7) (n:Nat) (K:List (Nat × Value)) (t1:Nat) (ct:Nat) (ch:Nat) (tt:Nat) (t2:Nat) (t3:Nat) (t4:Nat) (t5:Nat) (v1:Value) (t6:Nat) (v2:Value) (t7:Nat) (v3:Value) (t8:Nat) (v4:Value) (t9:Nat) (v5:Value) (t10:Nat) (v6:Value) (t11:Nat) (t12:Nat) (ρ:Post):RS:=(Fn P h g L s r er X0 Y0 R F n K t1 ct ch tt t2 t3 t4 t5 v1 t6 v2 t7 v3 t8 v4 t9 v5 t10 v6 t11 t12).open [ρ.o 0,bO 0 ρ.X (ym ρ.Y) (ρ.t 0) (ρ.t 1) r,oL 0 ρ.R.l,oL 7 ρ.F.l,(bP P h g true (ag (aE (n+2) ρ.K)) (ρ.t 2)).o,oK (ag (aE (n+2) ρ.K)) (aE (n+2) ρ.K)]
noncomputable def Ft (P:Params) (h g:Nat→Nat) (L:Nat) (s:Nat) (r:Nat) (er:Nat) (X0:Nat) (Y0:Nat) (R:V7) (F:V7) (tt:Nat) (t1:Nat) (t2:Nat) (t3:Nat) (t4:Nat) (t5:Nat) (v1:Value) (t6:Nat) (t7:Nat) (v2:Value) (t8:Nat) (v3:Value) (t9:Nat) (v4:Value) (t10:Nat) (v5:Value) (t11:Nat) (v6:Value) (t12:Nat) (t13:Nat):RS:={ aG 600 A6 true (Code.func (dq (oq P 1561)) ⟨fu (oq P 1561),L,3,[],Gb,some 1561,.ref 1560,some L,0⟩) [⟨true,L,oF 9 [eS P EH t3 (.ref s),eS P Ev t4 (.ref (h 126)),eS P EA t5 v1,eS P ⟨#[116]⟩ t6 (.ref tt),eS P ⟨#[98]⟩ t7 v2,eS P ⟨#[97]⟩ t8 v3,eS P F8 t9 v4,eS P ⟨#[100]⟩ t10 v5,eS P ⟨#[99]⟩ t11 v6]⟩,⟨true,s,bO 0 X0 Y0 t12 t13 r⟩,⟨false,r,oL er []⟩,cT h true R,cU h true F,⟨false,tt,oT [(.str Q1 t1),(.str Q0 t2)]⟩] with tl:=some 7,di:=true }
noncomputable def gA (P:Params) (h g:Nat→Nat) (L:Nat) (s:Nat) (r:Nat) (er:Nat) (X0:Nat) (Y0:Nat) (R:V7) (F:V7) (tt:Nat) (t1:Nat) (t2:Nat) (t3:Nat) (t4:Nat) (t5:Nat) (v1:Value) (t6:Nat) (t7:Nat) (v2:Value) (t8:Nat) (v3:Value) (t9:Nat) (v4:Value) (t10:Nat) (v5:Value) (t11:Nat) (v6:Value) (t12:Nat) (t13:Nat) (ρ:Post):RS:=(Ft P h g L s r er X0 Y0 R F tt t1 t2 t3 t4 t5 v1 t6 t7 v2 t8 v3 t9 v4 t10 v5 t11 v6 t12 t13).open [ρ.o 0,bO 0 ρ.X (ym ρ.Y) (ρ.t 0) (ρ.t 1) r,oL 0 ρ.R.l,oL 7 ρ.F.l]
noncomputable def Fq (P:Params) (h g:Nat→Nat) (L:Nat) (s:Nat) (r:Nat) (er:Nat) (X0:Nat) (Y0:Nat) (R:V7) (F:V7) (tt:Nat) (t1:Nat) (t2:Nat) (t3:Nat) (t4:Nat) (t5:Nat) (v1:Value) (t6:Nat) (t7:Nat) (v2:Value) (t8:Nat) (v3:Value) (t9:Nat) (v4:Value) (t10:Nat) (t11:Nat):RS:={ aG 600 A6 true (Code.func (dq (oq P 1561)) ⟨fu (oq P 1561),L,3,[],Gb,some 1561,.ref 1560,some L,0⟩) [⟨true,L,oF 7 [eS P EH t3 (.ref s),eS P Ev t4 (.ref (h 126)),eS P EA t5 v1,eS P ⟨#[116]⟩ t6 (.ref tt),eS P ⟨#[98]⟩ t7 v2,eS P ⟨#[97]⟩ t8 v3,eS P F8 t9 v4]⟩,⟨true,s,bO 0 X0 Y0 t10 t11 r⟩,⟨false,r,oL er []⟩,cT h true R,cU h true F,⟨false,tt,oT [(.str Q1 t1),(.str Q0 t2)]⟩] with tl:=some 4,di:=true }
noncomputable def kJ (P:Params) (h g:Nat→Nat) (L:Nat) (s:Nat) (r:Nat) (er:Nat) (X0:Nat) (Y0:Nat) (R:V7) (F:V7) (tt:Nat) (t1:Nat) (t2:Nat) (t3:Nat) (t4:Nat) (t5:Nat) (v1:Value) (t6:Nat) (t7:Nat) (v2:Value) (t8:Nat) (v3:Value) (t9:Nat) (v4:Value) (t10:Nat) (t11:Nat) (ρ:Post):RS:=(Fq P h g L s r er X0 Y0 R F tt t1 t2 t3 t4 t5 v1 t6 t7 v2 t8 v3 t9 v4 t10 t11).open [ρ.o 0,bO 0 ρ.X (ym ρ.Y) (ρ.t 0) (ρ.t 1) r,oL 0 ρ.R.l,oL 7 ρ.F.l]
section
open PySem.SeqAt
noncomputable def pk (Γ:Ctx):Around:={ handled:=none,depth:=frameCount Γ.below,frames:=none,guards:=none,units:=unitsOf Γ.below }
theorem am {B:Base} {D:RS} (hdi:D.di=false) (body:∀ (A:Around) (s:Shared) (R:Result→Shared→Prop),A.handled=none→A.units+D.lv≤9000→A.depth+D.lv≤950→da B s →
 (∀ c,c∈D.cells→s.heap.get? c.a=some c.o∧B.Free c.a)→(D.cells.map (·.a)).Nodup→(∀ s' bs ts,After B D.S s s' bs ts→R (D.r bs ts) s')→codeAny B.M A D.c R s):D.S.Holds B:=fun Γ p s R ok k=>by
 refine body (pk Γ) s R rfl ok.room.2 ok.room.1 ok.top (fun c hc=>?_) ?_ k Γ p ok.code ⟨ok.hand,Nat.le_refl _,(by intro _ q; cases q),(by intro _ q; cases q),Nat.le_refl _⟩
 ·obtain ⟨h1,h2⟩:=ok.pre _ (dI hc)
  refine ⟨?_,h2⟩
  rcases h1 with h1 | ⟨h1,_⟩
  ·exact h1
  ·have:D.di=true:=h1
   rw [hdi] at this; cases this
 ·have:=ok.nd
  rw [show D.S.pre=bX D.cells from rfl,g8] at this
  exact this
theorem aF {B:Base} {D:RS} {s s':Shared} (ht:da B s) (hmu:cA D.cells=[]) (hb:D.bx=[]) (htx:D.tx=[]) (h1:s'.heap=s.heap) (h2:s'.gens=s.gens) (h3:s'.os=s.os):After B D.S s s' [] []:=by
 have em:D.S.mu=[]:=hmu
 refine ⟨⟨fun a o h=>by rw [h1]; exact ht.1 a o h,fun i c h=>by rw [h1]; exact ht.2 i c h⟩,fun a o h _=>.inl (by rw [h1]; exact h),by rw [h1]; exact Nat.le_refl _,h2,h3,fun j a o h=>?_,fun j a o h=>by simp at h,fun a h=>by simp at h,List.nodup_nil,?_,?_⟩
 ·rw [em] at h; simp at h
 ·show 0=ag D.bx; rw [hb]; rfl
 ·show 0=ag D.tx; rw [htx]; rfl
theorem ap {prog:Program} {w:World} {A:Around} {R:Result→Shared→Prop} {s:Shared} {T:String} {name:Str} {id:String} {b:Builtin} {self:Value} {rest:List Value} {S:PySem.Spec} (h:Slot T name id) (hb:entryFor table id=some b)
 (ha:argsOk id ⟨self::rest,[]⟩) (hT:s.TypeIs self T) (m:MeetsIn prog w (b ⟨self::rest,[]⟩) S) (hS:S A R s):codeAny (model prog w) A (.call (.builtin id) ⟨self::rest,[]⟩) R s :=
 codeAny_call_builtin h.plain hb (h.check _ _ _ _ _ _ _ _ hT ha (m A R s hS))
noncomputable def lF (P:Params):List DictEntry→Prop
 | []=>True
 | e::l=>(∃ s t v,e=eS P s t v)∧lF P l
theorem lF.mem {P:Params}:∀ {l:List DictEntry},lF P l→∀ e,e∈l→∃ s t v,e=eS P s t v
 | [],_,_,he=>absurd he List.not_mem_nil
 | d::l,h,e,he=>by
  rcases List.mem_cons.mp he with rfl | he
  ·exact h.1
  ·exact h.2.mem e he
theorem kY {prog:Program} {w:World} {hp:Heap} {a:Addr} {l:List DictEntry} {ep:Nat} (h:hp.get? a=some ⟨yD,none,.dict ⟨l⟩ ep,#[]⟩) (hs:lF w.params l):hp.MapOf (strKind prog w) a (findBy (strKind prog w).is ⟨l⟩):=by
 refine ⟨_,⟨l⟩,ep,h,⟨?_,rfl,rfl⟩,rfl,fun e he=>?_,fun _=>rfl⟩
 ·show Value.type _ = Value.type "dict"
  congr 1
 ·obtain ⟨s,t,v,rfl⟩:=hs.mem e (by simpa using he)
  exact ⟨s,by show Value.isStrOf s (.str s t)=true; simp [Value.isStrOf],rfl⟩
theorem cG {B : Base} {d t : Nat} {s : Str} {l : List DictEntry} {ep : Nat} {v : Value} {D : RS} (hc : D.c = aS "dict.__getitem__" [.ref d, .str s t]) (hdi : D.di = false) (hmu : cA D.cells = []) (hb : D.bx = []) (htx : D.tx = [])
 (hr:D.r [] []=.ok (.ret v)) (hd:∀ s,da B s→(∀ c,c∈D.cells→s.heap.get? c.a=some c.o∧B.Free c.a)→s.heap.get? d=some ⟨yD,none,.dict ⟨l⟩ ep,#[]⟩) (hs:lF B.w.params l)
 (hf:findBy Value.isStrOf ⟨l⟩ s=some v):D.S.Holds B:=by
 refine am hdi fun A s₀ R hh hu _ ht hcell _ k=>?_
 rw [hc]
 have hm:=kY (prog:=B.prog) (hd s₀ ht hcell) hs
 refine ap slot_dict_getitem entry_dict_getitem (args_dict_getitem _ _) hm.typeIs (meets_dict_getitem (strKind B.prog B.w) d (k:=s) (key:=.str s t) (by show Value.isStrOf s (.str s t)=true; simp [Value.isStrOf])) ⟨_,v,hm,hf,?_⟩
 have:=k _ [] [] (aF (s':={ s₀ with toks:=s₀.toks+1 }) ht hmu hb htx rfl rfl rfl)
 rw [hr] at this
 exact this
noncomputable def B2 (w:World) (en:ST):Base:=⟨PySem.Challenge.pw_on0051_01,w,Mine.Scr.KT0 w.params,en,Es w.params⟩
theorem vw {w:World} {h g:Nat→Nat} {s:Shared} (ht:da (BB w h g) s) (i:Nat) {c:Cell} (e:(EN w.params h g).get i=some c):s.heap.get? c.a=some c.o:=ht.2 i c e
theorem qY {w:World} {h g:Nat→Nat} {s:Shared} (ht:da (BB w h g) s) (a:Nat) {o:Obj} (e:(Mine.Scr.KT0 w.params).get a=some o):s.heap.get? a=some o:=ht.1 a o e
noncomputable def kI (o:Option Obj):List DictEntry:=match o with
 | some o=>match o.data with
  | .dict es _=>es.toList
  | _=>[]
 | none=>[]
noncomputable def pX (P:Params) (h g:Nat→Nat):List DictEntry:=kI (match (EN P h g).get 3 with | some c=>some c.o | none=>none)
theorem tU (P:Params) (h g:Nat→Nat):(EN P h g).get 3=some ⟨false,h 79,⟨yD,none,.dict ⟨pX P h g⟩ 28,#[]⟩⟩:=by kernel_rfl
theorem wL (P:Params) (h g:Nat→Nat):lF P (pX P h g):=by
 iterate 28 refine ⟨⟨_,_,_,rfl⟩,?_⟩
 exact trivial
theorem bL (w:World) (h g:Nat→Nat) (s:Str) (t:Nat) (hv:findBy Value.isStrOf ⟨pX w.params h g⟩ s=some (.ref (h (zt s ve)))):(aN w.params h g s t).S.Holds (BB w h g) :=
 cG (d:=h 79) (t:=t) (s:=s) (ep:=28) (by kernel_rfl) rfl rfl rfl rfl rfl (fun _ ht _=>vw ht 3 (tU w.params h g)) (wL w.params h g) hv
noncomputable def r6 (P:Params):List DictEntry:=kI ((Mine.Scr.KT0 P).get 350)
theorem w5 (P:Params):(Mine.Scr.KT0 P).get 350=some ⟨yD,none,.dict ⟨r6 P⟩ 10,#[]⟩:=by kernel_rfl
theorem Ci (P:Params):lF P (r6 P):=by
 have e:r6 P=(r6 P).map fun e=>match e.key with
  | .str s t=>eS P s t e.val
  | _=>e:=by kernel_rfl
 rw [e]
 iterate 10 refine ⟨⟨_,_,_,rfl⟩,?_⟩
 exact trivial
theorem m4 (w:World) (h g:Nat→Nat) (s:Str) (t:Nat) (hv:findBy Value.isStrOf ⟨r6 w.params⟩ s=some (.int (bC s bN).1 (bC s bN).2)):(dM w.params h g s t).S.Holds (BB w h g) :=
 cG (d:=350) (t:=t) (s:=s) (ep:=10) (by kernel_rfl) rfl rfl rfl rfl rfl (fun _ ht _=>qY ht 350 (w5 w.params)) (Ci w.params) hv
theorem Ge (w:World) (h g:Nat→Nat) (d:Nat) (s1 s2:Str) (t1 t2:Nat) (v1 v2:Value) (s:Str) (t:Nat) (hv:findBy Value.isStrOf #[eS w.params s1 t1 v1,eS w.params s2 t2 v2] s=some (match fg s [s1] with | true=>v1 | false=>v2)):(D7 w.params h g d s1 s2 t1 t2 v1 v2 s t).S.Holds (BB w h g) :=
 cG (d:=d) (t:=t) (s:=s) (ep:=2) (l:=[eS w.params s1 t1 v1,eS w.params s2 t2 v2]) (by kernel_rfl) rfl rfl rfl rfl rfl (fun _ _ hc=>(hc _ (.head _)).1) ⟨⟨_,_,_,rfl⟩,⟨_,_,_,rfl⟩,trivial⟩ hv
noncomputable def dB (s:Str) (v:Value):Bool:=match v with
 | .str x _=>x == s
 | _=>false
noncomputable def p6:List Value→Prop
 | []=>True
 | v::l=>(∃ x t,v=.str x t)∧p6 l
theorem p6.mem:∀ {l:List Value},p6 l→∀ v,v∈l→∃ x t,v=.str x t
 | d::l,h,e,he=>by
  rcases List.mem_cons.mp he with rfl | he
  ·exact h.1
  ·exact h.2.mem e he
theorem dC {B : Base} {a t : Nat} {s : Str} {l : List Value} {b : Bool} {D : RS} (hc : D.c = aS "tuple.__contains__" [.ref a, .str s t]) (hdi : D.di = false) (hmu : cA D.cells = []) (hb : D.bx = []) (htx : D.tx = [])
 (hr:D.r [] []=.ok (.ret (.bool b))) (hd:∀ s,da B s→(∀ c,c∈D.cells→s.heap.get? c.a=some c.o∧B.Free c.a)→s.heap.get? a=some (oT l)) (hs:p6 l)
 (hf:l.any (dB s)=b):D.S.Holds B:=by
 refine am hdi fun A s₀ R hh hu _ ht hcell _ k=>?_
 rw [hc]
 have ho:=hd s₀ ht hcell
 refine ap F.slot_tuple_contains F.entry_tuple_contains (F.args_tuple_contains_2 _ _) ⟨_,ho,rfl⟩ ((tuple_containsAt a ⟨l⟩ 0 none #[] (.str s t) (dB s)).inModel _ _) ⟨ho,fun y hy=>?_,?_⟩
 ·obtain ⟨x,u,rfl⟩:=hs.mem y (by simpa using hy)
  exact EqAt.str_str x u s t
 ·have:=k _ [] [] (aF (s':=s₀) ht hmu hb htx rfl rfl rfl)
  rw [hr] at this
  simp only [List.any_toArray,hf]
  exact this
noncomputable def lR (P:Params) (a:Nat):List Value:=match (Mine.Scr.KT0 P).get a with
 | some o=>bK o
 | none=>[]
theorem kZ (w:World) (h g:Nat→Nat) (a:Nat) (s:Str) (t:Nat) (hk:(Mine.Scr.KT0 w.params).get a=some (oT (lR w.params a))) (ha:p6 (lR w.params a)) (hf:(lR w.params a).any (dB s)=fg s (pg a)):(iV w.params h g a s t).S.Holds (BB w h g) :=
 dC (a:=a) (t:=t) (s:=s) (l:=lR w.params a) (by kernel_rfl) rfl rfl rfl rfl rfl (fun _ ht _=>qY ht a hk) ha hf
theorem fC (w:World) (h g:Nat→Nat) (s:Str) (t:Nat) (hf:(lR w.params 728).any (dB s)=fg s (pg 728)):(bT w.params h g s t).S.Holds (BB w h g) :=
 kZ w h g 728 s t (by kernel_rfl) (by (iterate 6 refine ⟨⟨_,_,rfl⟩,?_⟩); exact trivial) hf
theorem pF (w:World) (h g:Nat→Nat) (s:Str) (t:Nat) (hf:(lR w.params 351).any (dB s)=fg s (pg 351)):(fY w.params h g s t).S.Holds (BB w h g) :=
 kZ w h g 351 s t (by kernel_rfl) (by (iterate 2 refine ⟨⟨_,_,rfl⟩,?_⟩); exact trivial) hf
theorem DC (w:World) (h g:Nat→Nat) (s:Str) (t:Nat) (hf:(lR w.params 415).any (dB s)=fg s (pg 415)):(pe w.params h g s t).S.Holds (BB w h g) :=
 kZ w h g 415 s t (by kernel_rfl) (by (iterate 3 refine ⟨⟨_,_,rfl⟩,?_⟩); exact trivial) hf
theorem F1 (w:World) (h g:Nat→Nat) (a:Nat) (s1 s2:Str) (t1 t2:Nat) (s:Str) (t:Nat) (hf:[Value.str s1 t1,.str s2 t2].any (dB s)=fg s [s1,s2]):(DY w.params h g a s1 s2 t1 t2 s t).S.Holds (BB w h g) :=
 dC (a:=a) (t:=t) (s:=s) (l:=[.str s1 t1,.str s2 t2]) (by kernel_rfl) rfl rfl rfl rfl rfl (fun _ _ hc=>(hc _ (.head _)).1) ⟨⟨_,_,rfl⟩,⟨_,_,rfl⟩,trivial⟩ hf
theorem cO {B:Base} {D:RS} {s s':Shared} {d:Nat} {f:Obj→Obj} {o o':Obj} (ht:da B s) (hfree:B.Free d) (hmu:cA D.cells=[d]) (hb:D.bx=[]) (htx:D.tx=[]) (ho:s.heap.get? d=some o) (hf:f o=o') (hn:o'.isFreed=false)
 (hpo:D.po [] [] BH q0=[o']) (hnw:D.nw [] []=[]) (h1:s'.heap=s.heap.update d f) (h2:s'.gens=s.gens) (h3:s'.os=s.os):After B D.S s s' [] []:=by
 have em:D.S.mu=[d]:=hmu
 have ne:∀ b,b≠d→s'.heap.get? b=s.heap.get? b:=fun b hb=>by rw [h1]; exact Heap.get?_update_ne _ _ _ _ hb
 have at_:s'.heap.get? d=some o':=by rw [h1,←hf]; exact Heap.get?_update_self f ho (by rw [hf]; exact hn)
 refine ⟨⟨fun a x h=>?_,fun i c h=>?_⟩,fun a x h q=>.inl ?_,?_,h2,h3,fun j a x h hx=>?_,fun j a o h=>by simp at h,fun a h=>by simp at h,List.nodup_nil,?_,?_⟩
 ·rw [ne a (fun e=>by subst e; have:=hfree.1; rw [h] at this; cases this)]; exact ht.1 a x h
 ·rw [ne c.a (hfree.2 i c h)]; exact ht.2 i c h
 ·rw [ne a (fun e=>q (by rw [em,e]; exact List.mem_singleton.mpr rfl))]; exact h
 ·rw [h1,Heap.size_after_update]; exact Nat.le_refl _
 ·rw [em] at h
  have hp:(D.S.po [] [])=[o']:=hpo
  rw [hp] at hx
  cases j with
  | zero =>
   simp only [List.getElem?_cons_zero,Option.some.injEq] at h hx
   subst h hx
   exact .inl at_
  | succ j=>simp at h
 ·show 0=ag D.bx; rw [hb]; rfl
 ·show 0=ag D.tx; rw [htx]; rfl
theorem zb (P:Params):((Mine.Scr.KT0 P).get sysModules).isSome=true:=by kernel_rfl
theorem p0 (P:Params):∃ o,(Mine.Scr.KT0 P).get sysModules=some o:=Option.isSome_iff_exists.mp (zb P)
theorem cM {w:World} {h g:Nat→Nat} {a:Nat} (hf:(BB w h g).Free a):(a == sysModules)=false:=by
 refine beq_eq_false_iff_ne.mpr fun e=>?_
 subst e
 obtain ⟨o,ho⟩:=p0 w.params
 have:=hf.1
 rw [show (BB w h g).kt.get sysModules=some o from ho] at this
 cases this
theorem on {α:Type} (x:α) (l:List α):ag (x::l)=ag l+1:=rfl
theorem ii:∀ {K:List (Nat × Value)} {e:DictEntry},e∈j5 K→∃ (m t:Nat) (v:Value),m≤ag K∧e=⟨hashInt (Int.ofNat m),.int (Int.ofNat m) t,v⟩
 | [],_,h=>absurd h List.not_mem_nil
 | x::l,e,h=>by
  rcases List.mem_append.mp h with h | h
  ·obtain ⟨m,t,v,h1,h2⟩:=ii h
   exact ⟨m,t,v,by rw [on]; omega,h2⟩
  ·simp only [List.mem_singleton] at h
   exact ⟨ag l+1,x.1,x.2,Nat.le_refl _,h⟩
theorem jU {K:List (Nat × Value)} {m:Nat} (h:ag K<m):∀ e,e∈j5 K→Value.isInt (Int.ofNat m) e.key=false:=by
 intro e he
 obtain ⟨n,t,v,h1,rfl⟩:=ii he
 simp only [Value.isInt]
 refine beq_eq_false_iff_ne.mpr fun e=>?_
 have:n=m:=Int.ofNat.inj e
 omega
theorem cw (m t:Nat):Value.isInt (Int.ofNat m) (.int (Int.ofNat m) t)=true:=by simp [Value.isInt]
theorem mD:∀ K:List (Nat × Value),(j5 K).length=ag K
 | []=>rfl
 | x::l=>by simp only [j5,List.length_append,List.length_singleton]; rw [mD l]; rfl
theorem cH : yD = .type "dict" := by
 unfold yD; congr 1
theorem eC {prog:Program} {w:World} {hp:Heap} {a:Addr} {K:List (Nat × Value)} {n:Nat} (h:hp.get? a=some (oK n K)):hp.MapOf (intKind prog w) a (findBy (intKind prog w).is ⟨j5 K⟩):=by
 refine ⟨_,⟨j5 K⟩,n,h,⟨cH,rfl,rfl⟩,rfl,fun e he=>?_,fun _=>rfl⟩
 obtain ⟨m,t,v,_,rfl⟩:=ii (by simpa using he)
 exact ⟨Int.ofNat m,cw m t,rfl⟩
theorem jw (K:List (Nat × Value)) (x:Nat × Value):findBy Value.isInt ⟨j5 (x::K)⟩ (Int.ofNat (ag K+1))=some x.2:=by
 have h:(j5 K).find? (fun e=>Value.isInt (Int.ofNat (ag K+1)) e.key)=none:=List.find?_eq_none.mpr fun e he=>by rw [jU (Nat.lt_succ_self _) e he]; exact Bool.false_ne_true
 simp only [findBy,List.find?_toArray,j5,List.find?_append,h,Option.none_or]
 simp [Value.isInt]
theorem BK (w:World) (h g:Nat→Nat) (n:Nat) (K:List (Nat × Value)) (x:Nat × Value) (t:Nat) (hK:ag K=n):(aU w.params h g n K x t).S.Holds (BB w h g):=by
 refine am rfl fun A s₀ R hh hu _ ht hcell _ k=>?_
 have ho:=(hcell _ (.head _)).1
 have hm:=eC (prog:=(BB w h g).prog) (w:=w) ho
 refine ap slot_dict_getitem entry_dict_getitem (args_dict_getitem _ _) hm.typeIs (meets_dict_getitem (intKind (BB w h g).prog w) (h 70) (k:=Int.ofNat (n+1)) (key:=.int (Int.ofNat (n+1)) t) (cw (n+1) t)) ⟨_,x.2,hm,by rw [← hK]; exact jw K x,?_⟩
 exact k _ [] [] (aF (s':={ s₀ with toks:=s₀.toks+1 }) ht rfl rfl rfl rfl rfl rfl)
theorem Cr (w:World) (h g:Nat→Nat) (n:Nat) (K:List (Nat × Value)) (x:Nat × Value) (t:Nat) (hK:ag K=n):(aT w.params h g n K x t).S.Holds (BB w h g):=by
 refine am rfl fun A s₀ R hh hu _ ht hcell _ k=>?_
 obtain ⟨ho,hf⟩:=hcell _ (.head _)
 have hm:=eC (prog:=(BB w h g).prog) (w:=w) ho
 refine ap slot_dict_contains entry_dict_contains (args_dict_contains _ _) hm.typeIs (meets_dict_contains (intKind (BB w h g).prog w) (h 70) (k:=Int.ofNat (n+1)) (key:=.int (Int.ofNat (n+1)) t) (cw (n+1) t) (cM hf)) ⟨_,hm,?_⟩
 have e:findBy (intKind (BB w h g).prog w).is ⟨j5 (x::K)⟩ (Int.ofNat (n+1))=some x.2:=by rw [← hK]; exact jw K x
 rw [e]
 exact k _ [] [] (aF (s':={ s₀ with toks:=s₀.toks+1 }) ht rfl rfl rfl rfl rfl rfl)
theorem D4 (w:World) (h g:Nat→Nat) (n:Nat) (K:List (Nat × Value)) (t:Nat) (v:Value) (hK:ag K=n) (hn:n≤1000):(mm w.params h g n K t v).S.Holds (BB w h g):=by
 refine am rfl fun A s₀ R hh hu _ ht hcell _ k=>?_
 obtain ⟨ho,hf⟩:=hcell _ (.head _)
 have ho:s₀.heap.get? (h 70)=some (oK n K):=ho
 have hm:=eC (prog:=(BB w h g).prog) (w:=w) ho
 have hkey:(intKind (BB w h g).prog w).is (Int.ofNat (n+1)) (.int (Int.ofNat (n+1)) t)=true:=cw (n+1) t
 have hk:KeysOf (intKind (BB w h g).prog w) ⟨j5 K⟩:=by
  obtain ⟨o,es,ep,h1,_,h3,h4,_⟩:=hm
  rw [ho] at h1
  cases h1
  cases h3
  exact h4
 refine codeAny_call_builtin slot_dict_setitem.plain entry_dict_setitem (slot_dict_setitem.check _ _ _ _ _ _ _ _ hm.typeIs (args_dict_setitem _ _ _) ?_)
 show wpAny _ _ (Builtin.Dict.notOrdered "__setitem__" ⟨[.ref (h 70), .int (Int.ofNat (n + 1)) t, v], []⟩ >>= fun _ => dictSet (h 70) (.int (Int.ofNat (n + 1)) t) v >>= fun _ => ret .none) _ _ _
 refine wpAny_bind (wpAny_notOrdered_dict hm.typeIs ?_)
 refine wpAny_bind ?_
 unfold dictSet
 try with_reducible refine wpAny_holding ?_
 refine wpAny_bind ((intKind (BB w h g).prog w).pyHash hkey ?_)
 unfold dictSetHashed
 try with_reducible refine wpAny_holding ?_
 refine wpAny_bind (wpAny_dictFind_of (s:={ s₀ with toks:=s₀.toks+1 }) hkey ho rfl hk ?_)
 have hi:(⟨j5 K⟩:Array DictEntry).findIdx? (fun e=>(intKind (BB w h g).prog w).is (Int.ofNat (n+1)) e.key)=none:=by
  simp only [List.findIdx?_toArray]
  exact List.findIdx?_eq_none_iff.mpr fun e he=>jU (by omega) e he
 rw [hi]
 have hsz:(⟨j5 K⟩:Array DictEntry).size≤sizeLine:=by
  show (j5 K).length≤sizeLine
  rw [mD,hK]
  exact Nat.le_trans hn (by decide)
 refine wpAny_bind (wpAny_rule (wpAny_updateDictKeys (hz:=hsz) (s:={ s₀ with toks:=s₀.toks+1 }) ho rfl ?_))
 refine wpAny_pure ?_
 refine k _ [] [] (cO (d:=h 70) (o:=oK n K) (o':=oK (n+1) ((t,v)::K)) ht hf rfl rfl rfl ho ?_ rfl rfl rfl rfl rfl rfl)
 show (⟨yD,none,.dict ((⟨j5 K⟩:Array DictEntry).push ⟨hashInt (Int.ofNat (n+1)),.int (Int.ofNat (n+1)) t,v⟩) (n+1),#[]⟩:Obj)=_
 simp only [oK,j5,List.push_toArray,hK]
end
section
open PySem.SeqAt
theorem uY (P:Params):(kI ((Mine.Scr.KT0 P).get sysModules)).isEmpty=false:=by kernel_rfl
theorem uw (P:Params) (h g:Nat→Nat):(EN P h g).get 7=some ⟨false,h 75,rk 0⟩:=by kernel_rfl
theorem xg (w:World) (h g:Nat→Nat) (i:Int) (t t2:Nat) (s:Str):(lN w.params h g i t t2 s).S.Holds (BB w h g):=by
 refine am rfl fun A s₀ R hh hu _ ht hcell _ k=>?_
 have ho:s₀.heap.get? (h 75)=some (rk 0):=vw ht 7 (uw _ _ _)
 have hne:(h 75 == sysModules)=false:=by
  refine beq_eq_false_iff_ne.mpr fun e=>?_
  obtain ⟨o,e1⟩:=p0 w.params
  have e2:=qY ht sysModules e1
  have e3:=uY w.params
  rw [← e,ho] at e2
  rw [e1,←Option.some.inj e2] at e3
  cases e3
 have hm:s₀.heap.MapOf (intKind (BB w h g).prog w) (h 75) (fun _=>none):=⟨_,#[],0,ho,⟨cH,rfl,rfl⟩,rfl,fun e he=>by simp at he,fun _=>rfl⟩
 refine ap F.slot_dict_get F.entry_dict_get (F.args_dict_get_3 _ _ _) hm.typeIs (meets_dict_get_default (intKind (BB w h g).prog w) (h 75) (k:=i) (key:=.int i t) (by show Value.isInt i (.int i t)=true; simp [Value.isInt]) hne (.str s t2)) ⟨_,hm,?_⟩
 exact k _ [] [] (aF (s':={ s₀ with toks:=s₀.toks+1 }) ht rfl rfl rfl rfl rfl rfl)
theorem Ap (w:World) (h g:Nat→Nat) (en e:Nat):(jL w.params h g en e).S.Holds (BB w h g):=by
 refine am rfl fun A s₀ R hh hu _ ht hcell _ k=>?_
 obtain ⟨ho,hf⟩:=hcell _ (.head _)
 have hm:s₀.heap.DictOf (intKind (BB w h g).prog w) en []:=⟨_,#[],e,ho,⟨cH,rfl,rfl⟩,rfl,fun e he=>by simp at he,Pairs.nil,List.nodup_nil⟩
 refine ap F.slot_dict_len F.entry_dict_len (F.args_dict_len_1 _) ⟨_,ho,cH⟩ (meets_dict_len (intKind (BB w h g).prog w) en (cM hf)) ⟨_,hm,?_⟩
 refine k { s₀ with toks:=s₀.toks+1 } [] [s₀.toks] ⟨ht,fun a o h _=>.inl h,Nat.le_refl _,rfl,rfl,fun j a o hj=>?_,fun j a o hj=>by simp at hj,fun a hj=>by simp at hj,List.nodup_nil,rfl,rfl⟩
 have:(cA (jL w.params h g en e).cells)[j]?=some a:=hj
 rw [show cA (jL w.params h g en e).cells=[] from rfl] at this
 simp at this
noncomputable def um (k:Sum Str Int) (v:Value):Bool:=match k with
 | .inl s=>Value.isStrOf s v
 | .inr i=>Value.isInt i v
noncomputable def xr (w:World) (k:Sum Str Int):Int:=match k with
 | .inl s=>hashStr w s
 | .inr i=>hashInt i
noncomputable def bJ (prog:Program) (w:World):KeyKind prog w (Sum Str Int) where
 is:=um
 hash:=xr w
 inj:=fun v a b ha hb=>by
  cases a with
  | inl a =>
   obtain ⟨t,rfl⟩:=Value.isStrOf_shape (x:=a) ha
   cases b with
   | inl b=>exact congrArg _ (Value.isStrOf_inj (.str a t) _ _ ha hb)
   | inr b=>exact absurd hb (by simp [um,Value.isInt])
  | inr a =>
   obtain ⟨t,rfl⟩:=Value.isInt_shape (k:=a) ha
   cases b with
   | inl b=>exact absurd hb (by simp [um,Value.isStrOf])
   | inr b=>exact congrArg _ (Value.isInt_inj (.int a t) _ _ ha hb)
 byValue:=fun k v h=>by
  cases k with
  | inl k=>exact (strKind prog w).byValue k v h
  | inr k=>exact (intKind prog w).byValue k v h
 pyHash:=fun {A E s k v Q} hv h=>by
  cases k with
  | inl k=>exact (strKind prog w).pyHash hv h
  | inr k=>exact (intKind prog w).pyHash hv h
 eqBool:=fun {A E s a b u v Q} hu hv h=>by
  cases a with
  | inl a =>
   obtain ⟨t,rfl⟩:=Value.isStrOf_shape (x:=a) hu
   cases b with
   | inl b=>exact (strKind prog w).eqBool (a:=a) (b:=b) hu hv (by simpa using h)
   | inr b =>
    obtain ⟨t',rfl⟩:=Value.isInt_shape (k:=b) hv
    exact EqAt.str_int a t b t' prog w _ _ (by simpa using h)
  | inr a =>
   obtain ⟨t,rfl⟩:=Value.isInt_shape (k:=a) hu
   cases b with
   | inl b =>
    obtain ⟨t',rfl⟩:=Value.isStrOf_shape (x:=b) hv
    exact EqAt.int_str a t b t' prog w _ _ (by simpa using h)
   | inr b=>exact (intKind prog w).eqBool (a:=a) (b:=b) hu hv (by simpa using h)
 «strs»:=fun k x t v h=>by
  cases k with
  | inl k=>exact (strKind prog w).strs k x t v h
  | inr k=>exact absurd h (by simp [um,Value.isInt])
noncomputable abbrev d9 (k:Int):List (Sum Str Int):=[.inl Q1,.inr k]
theorem lV : yT = .type "tuple" := by
 unfold yT; congr 1
theorem cu {prog:Program} {w:World} {hp:Heap} {mk t1 t2:Nat} {k:Int} (ho:hp.get? mk=some (n9 t1 t2 k)):(tupleKind (bJ prog w)).is hp (d9 k) mk :=
 ⟨_,_,0,ho,lV,rfl,.cons (by show Value.isStrOf Q1 (.str Q1 t1)=true; simp [Value.isStrOf]) (.cons (by show Value.isInt k (.int k t2)=true; simp [Value.isInt]) .nil)⟩
theorem qs {prog:Program} {w:World} {hp:Heap} {en mk t1 t2:Nat} {k:Int} {v:Value} (ho:hp.get? en=some (pm w.params k mk v)) (hk:hp.get? mk=some (n9 t1 t2 k)):hp.DictOfH (tupleKind (bJ prog w)) en [(d9 k,mk,v)] :=
 ⟨_,_,1,ho,⟨cH,rfl,rfl⟩,rfl,rfl,fun x hx=>by obtain rfl:=List.mem_singleton.mp hx; exact cu hk,by simp⟩
theorem xv {prog:Program} {w:World} {hp:Heap} {en e:Nat} (ho:hp.get? en=some (rk e)):hp.DictOfH (tupleKind (bJ prog w)) en [] :=
 ⟨_,_,e,ho,⟨cH,rfl,rfl⟩,rfl,rfl,fun x hx=>by simp at hx,by simp⟩
theorem FA (w:World) (h g:Nat→Nat) (en mk t1 t2:Nat) (k:Int):(sP w.params h g en mk t1 t2 k).S.Holds (BB w h g):=by
 refine am rfl fun A s₀ R hh hu _ ht hcell _ kk=>?_
 obtain ⟨ho,hf⟩:=hcell _ (.head _)
 obtain ⟨hk,_⟩:=hcell _ (.tail _ (.head _))
 have hm:=xv (prog:=(BB w h g).prog) (w:=w) ho
 refine ap F.slot_dict_get F.entry_dict_get (F.args_dict_get_2 _ _) ⟨_,ho,cH⟩ (meetsH_dict_get (tupleKind (bJ (BB w h g).prog w)) en mk (cM hf)) ⟨?_,d9 k,_,cu hk,hm,?_⟩
 ·show A.units+1<cLine
  have:(sP w.params h g en mk t1 t2 k).lv=60:=rfl
  unfold cLine; omega
 ·exact kk _ [] [] (aF (s':={ s₀ with toks:=s₀.toks+3 }) ht rfl rfl rfl rfl rfl rfl)
theorem EW (w:World) (h g:Nat→Nat) (en mk t1 t2 mk' t1' t2':Nat) (k:Int) (v:Value):(s7 w.params h g en mk t1 t2 mk' t1' t2' k v).S.Holds (BB w h g):=by
 refine am rfl fun A s₀ R hh hu _ ht hcell _ kk=>?_
 obtain ⟨ho,hf⟩:=hcell _ (.head _)
 obtain ⟨hk,_⟩:=hcell _ (.tail _ (.head _))
 obtain ⟨hk',_⟩:=hcell _ (.tail _ (.tail _ (.head _)))
 have hm:=qs (prog:=(BB w h g).prog) (w:=w) ho hk
 refine ap F.slot_dict_get F.entry_dict_get (F.args_dict_get_2 _ _) ⟨_,ho,cH⟩ (meetsH_dict_get (tupleKind (bJ (BB w h g).prog w)) en mk' (cM hf)) ⟨?_,d9 k,_,cu hk',hm,?_⟩
 ·show A.units+1<cLine
  have:(s7 w.params h g en mk t1 t2 mk' t1' t2' k v).lv=60:=rfl
  unfold cLine; omega
 ·have:((atKey [(d9 k,mk,v)] (d9 k)).map (·.2)).getD .none=v:=by simp [atKey]
  rw [this]
  exact kk _ [] [] (aF (s':={ s₀ with toks:=s₀.toks+3 }) ht rfl rfl rfl rfl rfl rfl)
theorem Fo (w:World) (h g:Nat→Nat) (en mk t1 t2 mk' t1' t2':Nat) (k k':Int) (v:Value) (hne:k≠k'):(tG w.params h g en mk t1 t2 mk' t1' t2' k k' v).S.Holds (BB w h g):=by
 refine am rfl fun A s₀ R hh hu _ ht hcell _ kk=>?_
 obtain ⟨ho,hf⟩:=hcell _ (.head _)
 obtain ⟨hk,_⟩:=hcell _ (.tail _ (.head _))
 obtain ⟨hk',_⟩:=hcell _ (.tail _ (.tail _ (.head _)))
 have hm:=qs (prog:=(BB w h g).prog) (w:=w) ho hk
 refine ap F.slot_dict_get F.entry_dict_get (F.args_dict_get_2 _ _) ⟨_,ho,cH⟩ (meetsH_dict_get (tupleKind (bJ (BB w h g).prog w)) en mk' (cM hf)) ⟨?_,d9 k',_,cu hk',hm,?_⟩
 ·show A.units+1<cLine
  have:(tG w.params h g en mk t1 t2 mk' t1' t2' k k' v).lv=60:=rfl
  unfold cLine; omega
 ·have:((atKey [(d9 k,mk,v)] (d9 k')).map (·.2)).getD .none=.none:=by simp [atKey,hne]
  rw [this]
  exact kk _ [] [] (aF (s':={ s₀ with toks:=s₀.toks+3 }) ht rfl rfl rfl rfl rfl rfl)
theorem EV (w:World) (h g:Nat→Nat) (en mk t1 t2:Nat) (k:Int) (v:Value):(tI w.params h g en mk t1 t2 k v).S.Holds (BB w h g):=by
 refine am rfl fun A s₀ R hh hu _ ht hcell _ kk=>?_
 obtain ⟨ho,hf⟩:=hcell _ (.head _)
 obtain ⟨hk,_⟩:=hcell _ (.tail _ (.head _))
 have ho:s₀.heap.get? en=some (rk 0):=ho
 have hT : s₀.TypeIs (.ref en) "dict" := ⟨_, ho, cH⟩
 have hkey:=cu (prog:=(BB w h g).prog) (w:=w) hk
 have hroom:(tupleKind (bJ (BB w h g).prog w)).room A.in1:=by
  show A.units+1<cLine
  have:(tI w.params h g en mk t1 t2 k v).lv=60:=rfl
  unfold cLine; omega
 refine codeAny_call_builtin slot_dict_setitem.plain entry_dict_setitem (slot_dict_setitem.check _ _ _ _ _ _ _ _ hT (args_dict_setitem _ _ _) ?_)
 show wpAny _ _ (Builtin.Dict.notOrdered "__setitem__" ⟨[.ref en, .ref mk, v], []⟩ >>= fun _ => dictSet en (.ref mk) v >>= fun _ => ret .none) _ _ _
 refine wpAny_bind (wpAny_notOrdered_dict hT ?_)
 refine wpAny_bind ?_
 unfold dictSet
 try with_reducible refine wpAny_holding ?_
 refine wpAny_bind ((tupleKind (bJ (BB w h g).prog w)).pyHash hroom hkey ?_)
 unfold dictSetHashed
 try with_reducible refine wpAny_holding ?_
 refine wpAny_bind (wpAny_dictFind_heap (knd:=tupleKind (bJ (BB w h g).prog w)) (xs:=[]) hroom hkey ho rfl rfl (fun x hx=>by simp at hx) (by simp) (fun _=>?_) (fun j p hj=>by simp at hj))
 refine wpAny_bind (wpAny_rule (wpAny_updateDictKeys (hz:=by show (0:Nat)≤sizeLine; exact Nat.zero_le _) ho rfl ?_))
 refine wpAny_pure ?_
 exact kk _ [] [] (cO (d:=en) (o:=rk 0) (o':=pm w.params k mk v) ht hf rfl rfl rfl ho rfl rfl rfl rfl rfl rfl rfl)
theorem F5 (w:World) (h g:Nat→Nat) (en mk t1 t2 mk' t1' t2':Nat) (k:Int) (v:Value):(ub w.params h g en mk t1 t2 mk' t1' t2' k v).S.Holds (BB w h g):=by
 refine am rfl fun A s₀ R hh hu _ ht hcell _ kk=>?_
 obtain ⟨ho,hf⟩:=hcell _ (.head _)
 obtain ⟨hk,_⟩:=hcell _ (.tail _ (.head _))
 obtain ⟨hk',_⟩:=hcell _ (.tail _ (.tail _ (.head _)))
 have ho:s₀.heap.get? en=some (pm w.params k mk v):=ho
 have hT : s₀.TypeIs (.ref en) "dict" := ⟨_, ho, cH⟩
 have hkey:=cu (prog:=(BB w h g).prog) (w:=w) hk'
 have hroom:(tupleKind (bJ (BB w h g).prog w)).room A.in1:=by
  show A.units+1<cLine
  have:(ub w.params h g en mk t1 t2 mk' t1' t2' k v).lv=60:=rfl
  unfold cLine; omega
 refine codeAny_call_builtin F.slot_dict_pop.plain F.entry_dict_pop (F.slot_dict_pop.check _ _ _ _ _ _ _ _ hT (F.args_dict_pop_3 _ _ _) ?_)
 show wpAny _ _ (Builtin.«dict.pop» ⟨[.ref en,.ref mk',.none],[]⟩) _ _ _
 unfold Builtin.«dict.pop»
 refine wpAny_bind ?_
 unfold Builtin.Dict.keyAndDefault
 refine wpAny_bind (wpAny_notOrdered_dict hT ?_)
 show wpAny _ _ (pure (en,Value.ref mk',some Value.none)) _ _ _
 refine wpAny_pure ?_
 show wpAny _ _ (dictEntries en >>= _) _ _ _
 refine wpAny_bind (wpAny_dictEntries ho rfl ?_)
 refine wpAny_bind (wpAny_pure ?_)
 show wpAny _ _ (Builtin.Dict.takeOut en (.ref mk') >>= _) _ _ _
 refine wpAny_bind ?_
 unfold Builtin.Dict.takeOut
 try with_reducible refine wpAny_holding ?_
 refine wpAny_bind ((tupleKind (bJ (BB w h g).prog w)).pyHash hroom hkey ?_)
 refine wpAny_bind (wpAny_dictFind_heap (knd:=tupleKind (bJ (BB w h g).prog w)) (xs:=[(d9 k,mk,v)]) hroom hkey ho rfl rfl (fun x hx=>by obtain rfl:=List.mem_singleton.mp hx; exact cu hk) (by simp) (fun hn=>absurd rfl (hn 0 (mk,v))) (fun j p hj=>?_))
 have hj0:j=0:=by
  cases j with
  | zero=>rfl
  | succ j=>simp at hj
 subst hj0
 refine wpAny_bind (wpAny_dictEntries ho rfl ?_)
 show wpAny _ _ (updateDictKeys en (·.eraseIdxIfInBounds 0) (keyPart (.ref mk')) >>= _) _ _ _
 refine wpAny_bind (wpAny_updateDictKeys (hz:=by show (1:Nat)≤sizeLine; decide) ho rfl ?_ (by show _≤_; simp [Array.eraseIdxIfInBounds]))
 refine wpAny_pure ?_
 refine wpAny_bind (wpAny_letGo (wpAny_pure ?_))
 exact kk _ [] [] (cO (d:=en) (o:=pm w.params k mk v) (o':=rk 2) ht hf rfl rfl rfl ho (by simp [Obj.mapDictKeys,Array.eraseIdxIfInBounds]) rfl rfl rfl rfl rfl rfl)
end
section
open PySem.SeqAt
inductive EqD:DT→DT→Bool→Prop
 | same (x:Value):EqD (.v x) (.v x) true
 | int (i j:Int) (t u:Nat) (b:Bool) (h:decide (i=j)=b):EqD (.v (.int i t)) (.v (.int j u)) b
 | str (i j:Str) (t u:Nat) (b:Bool) (h:(i == j)=b):EqD (.v (.str i t)) (.v (.str j u)) b
 | bytes (i j:Array UInt8) (t u:Nat) (b:Bool) (h:(i.toList == j.toList)=b):EqD (.v (.bytes i t)) (.v (.bytes j u)) b
 | bool (i j b:Bool) (h:(i == j)=b):EqD (.v (.bool i)) (.v (.bool j)) b
 | nil (k:Bool) (a a' e e':Nat):EqD (.s k a e []) (.s k a' e' []) true
 | one (k:Bool) (a a' e e':Nat) (x y:DT) (l l':List DT) (b:Bool) (h1:EqD x y true) (h2:EqD (.s k a e l) (.s k a' e' l') b):EqD (.s k a e (x::l)) (.s k a' e' (y::l')) b
 | off (k:Bool) (a a' e e':Nat) (x y:DT) (l l':List DT) (b:Bool) (h1:EqD x y false) (h2:EqD (.s k a e l) (.s k a' e' l') b):EqD (.s k a e (x::l)) (.s k a' e' (y::l')) false
inductive EqP:List DT→List DT→Prop
 | left (x:DT) (l:List DT):EqP (x::l) []
 | right (y:DT) (l:List DT):EqP [] (y::l)
 | one (x y:DT) (l l':List DT) (b:Bool) (h1:EqD x y b) (h2:EqP l l'):EqP (x::l) (y::l')
theorem dx {prog:Program} {w:World} {A:Around} {E:Value→Shared→Prop} {s:Shared} {a b:Array UInt8} {t u:Tok} {Q:Bool→Shared→Prop} (h:Q (a.toList == b.toList) s) :
 wpAny (model prog w) A (eqBool (.bytes a t) (.bytes b u)) Q E s:=by
 unfold eqBool
 show wpAny _ _ (if (Value.bytes a t == Value.bytes b u)=true then _ else _) Q E s
 by_cases hab:(Value.bytes a t == Value.bytes b u)=true
 ·rw [if_pos hab]
  have e:a=b:=by have:=eq_of_beq hab; injection this
  subst e
  exact wpAny_bind (wpAny_rule (wpAny_pure (by simpa using h)))
 ·rw [if_neg hab]
  exact wpAny_bind (richCompare_gives (op := .Eq) (T := "bytes") rfl rfl FB.slot_bytes_eq FB.entry_bytes_eq (FB.args_bytes_eq_2 _ _) (PySem.W.gives_bytes_eq a b t u) (fun x => nomatch x) (wpAny_truthy_bool h))
mutual
noncomputable def DT.dep:DT→Nat
 | .v _=>0
 | .s _ _ _ l=>cr l+1
noncomputable def cr:List DT→Nat
 | []=>0
 | d::l=>max d.dep (cr l)
end
theorem ds:∀ {l:List DT} {x:DT},x∈l→x.dep≤cr l
 | d::l,x,h=>by
  simp only [cr]
  rcases List.mem_cons.mp h with rfl | h
  ·exact Nat.le_max_left _ _
  ·exact Nat.le_trans (ds h) (Nat.le_max_right _ _)
theorem bD (d:DT) (l:List DT):aQ (d::l)=d.cells ++ aQ l:=by kernel_rfl
theorem bh {l:List DT} {x:DT} {c:Cell} (h:x∈l) (hc:c∈x.cells):c∈aQ l:=by
 induction l with
 | nil=>cases h
 | cons d l ih =>
  rw [bD]
  rcases List.mem_cons.mp h with rfl | h
  ·exact List.mem_append_left _ hc
  ·exact List.mem_append_right _ (ih h)
theorem bg:∀ l:List DT,aJ l=l.map DT.val
 | []=>rfl
 | d::l=>by simp only [aJ,List.map_cons]; rw [bg l]
noncomputable def bY (k:Bool) (e:Nat) (l:List DT):Obj:=match k with
 | true=>oT (aJ l)
 | false=>oL e (aJ l)
theorem mw (k:Bool) (e:Nat) (l:List DT):bK (bY k e l)=aJ l:=by cases k <;> rfl
theorem bQ (k:Bool) (a e:Nat) (l:List DT):(DT.s k a e l).cells=⟨false,a,bY k e l⟩::aQ l:=by
 cases k <;> kernel_rfl
theorem EqD.items {k:Bool} {a a' e e':Nat}:∀ {l l':List DT} {b:Bool},EqD (.s k a e l) (.s k a' e' l') b→l.length=l'.length∧∃ bs:Nat→Bool,(∀ j (h1:j<l.length) (h2:j<l'.length),EqD l[j] l'[j] (bs j))∧b=(List.range l.length).all bs
 | [],[],b,h=>by cases h; exact ⟨rfl,fun _=>true,(fun j h1 _=>absurd h1 (Nat.not_lt_zero _)),rfl⟩
 | x::l,y::l',b,h=>by
  have step:∀ (c d:Bool),EqD x y c→EqD (.s k a e l) (.s k a' e' l') d→(x::l).length=(y::l').length∧∃ bs:Nat→Bool,(∀ j (h1:j<(x::l).length) (h2:j<(y::l').length),EqD (x::l)[j] (y::l')[j] (bs j))∧(c && d)=(List.range (x::l).length).all bs:=by
   intro c d hc hd
   obtain ⟨h1,bs,h2,h3⟩:=EqD.items hd
   refine ⟨by simp [h1],fun j=>match j with | 0=>c | j+1=>bs j,fun j q1 q2=>?_,?_⟩
   ·cases j with
    | zero=>exact hc
    | succ j=>exact h2 j (by simpa using q1) (by simpa using q2)
   ·rw [List.length_cons,List.range_succ_eq_map,List.all_cons,List.all_map,h3]
    rfl
  cases h with
  | one =>
   rename_i h1 h2
   simpa using step true b h1 h2
  | off =>
   rename_i d h1 h2
   simpa using step false d h1 h2
 | [],_::_,_,h=>by cases h
 | _::_,[],_,h=>by cases h
noncomputable def bi (s:Shared) (l:List Cell):Prop:=∀ c,c∈l→s.heap.get? c.a=some c.o
theorem EqD.refl {s:Shared}:∀ (n:Nat) {X Y:DT} {b:Bool},X.dep≤n→EqD X Y b→bi s X.cells→bi s Y.cells→X.val=Y.val→b=true:=by
 intro n
 induction n with
 | zero =>
  intro X Y b hn h hX hY e
  cases h with
  | same=>rfl
  | int i j t u _ h=>cases e; simpa using h.symm
  | str i j t u _ h=>cases e; simpa using h.symm
  | bytes i j t u _ h=>cases e; simpa using h.symm
  | bool i j _ h=>cases e; simpa using h.symm
  | nil=>rfl
  | one=>simp [DT.dep] at hn
  | off=>simp [DT.dep] at hn
 | succ n ih =>
  intro X Y b hn h hX hY e
  have seq:∀ (k:Bool) (a a' e₁ e₂:Nat) (l l':List DT),X=.s k a e₁ l→Y=.s k a' e₂ l'→b=true:=by
   rintro k a a' e₁ e₂ l l' rfl rfl
   obtain ⟨h1,bs,h2,rfl⟩:=h.items
   have ea:a=a':=by
    have:Value.ref a=.ref a':=e
    injection this
   subst ea
   rw [bQ] at hX hY
   have o1:=hX _ (.head _)
   have o2:=hY _ (.head _)
   rw [show s.heap.get? a=some (bY k e₂ l') from o2] at o1
   have eo:=Option.some.inj o1
   have ev:aJ l=aJ l':=by
    have:=congrArg bK eo
    rw [mw,mw] at this
    exact this.symm
   rw [bg,bg] at ev
   rw [List.all_eq_true]
   intro j hj
   have hj:j<l.length:=List.mem_range.mp hj
   have hj':j<l'.length:=h1▸hj
   refine ih (X:=l[j]) (Y:=l'[j]) ?_ (h2 j hj hj') (fun c hc=>hX c (.tail _ (bh (List.getElem_mem hj) hc))) (fun c hc=>hY c (.tail _ (bh (List.getElem_mem hj') hc))) ?_
   ·have:=ds (List.getElem_mem hj)
    simp only [DT.dep] at hn
    omega
   ·have:=congrArg (fun l=>l[j]?) ev
    simpa [hj,hj'] using this
  cases h with
  | same=>rfl
  | int i j t u _ h=>cases e; simpa using h.symm
  | str i j t u _ h=>cases e; simpa using h.symm
  | bytes i j t u _ h=>cases e; simpa using h.symm
  | bool i j _ h=>cases e; simpa using h.symm
  | nil=>rfl
  | one k a a' e₁ e₂ x y l l' _ h1 h2=>exact seq k a a' e₁ e₂ _ _ rfl rfl
  | off k a a' e₁ e₂ x y l l' _ h1 h2=>exact seq k a a' e₁ e₂ _ _ rfl rfl
theorem i5 {s:Shared} {a e:Nat} {l:List DT} (h:s.heap.get? a=some (bY false e l)):s.heap.IsList a (aJ l).toArray:=⟨_,h,by show yL=_; unfold yL; congr 1,e,rfl⟩
theorem fJ {s:Shared} {a e:Nat} {l:List DT} (h:s.heap.get? a=some (bY true e l)):s.heap.IsTuple a (aJ l).toArray:=⟨_,h,lV,0,rfl⟩
theorem EqD.at {s:Shared}:∀ (n:Nat) {X Y:DT} {b:Bool} {A:Around},X.dep≤n→EqD X Y b→bi s X.cells→bi s Y.cells→A.units+n<cLine→EqAt A s X.val Y.val b:=by
 intro n
 induction n with
 | zero =>
  intro X Y b A hn h hX hY hu
  cases h with
  | same x=>exact EqAt.same x
  | int i j t u _ h=>rw [← h]; exact EqAt.int_int i t j u
  | str i j t u _ h=>rw [← h]; exact EqAt.str_str i t j u
  | bytes i j t u _ h=>rw [← h]; exact fun prog w E Q hq=>dx hq
  | bool i j _ h=>rw [← h]; exact EqAt.bool_bool i j
  | nil=>simp [DT.dep,cr] at hn
  | one=>simp [DT.dep] at hn
  | off=>simp [DT.dep] at hn
 | succ n ih =>
  intro X Y b A hn h hX hY hu
  have seq:∀ (k:Bool) (a a' e₁ e₂:Nat) (l l':List DT),X=.s k a e₁ l→Y=.s k a' e₂ l'→EqAt A s X.val Y.val b:=by
   rintro k a a' e₁ e₂ l l' rfl rfl
   by_cases ea:a=a'
   ·have hb:=EqD.refl _ (Nat.le_refl _) h hX hY (congrArg Value.ref ea)
    subst ea hb
    exact EqAt.same _
   ·obtain ⟨h1,bs,h2,rfl⟩:=h.items
    rw [bQ] at hX hY
    have o1:=hX _ (.head _)
    have o2:=hY _ (.head _)
    have he:∀ j (h1:j<(aJ l).toArray.size) (h2:j<(aJ l').toArray.size),EqAt A.in1 s (aJ l).toArray[j] (aJ l').toArray[j] (bs j):=by
     intro j q1 q2
     have hj:j<l.length:=by simpa [bg] using q1
     have hj':j<l'.length:=by simpa [bg] using q2
     have:=ih (X:=l[j]) (Y:=l'[j]) (A:=A.in1) (by have:=ds (List.getElem_mem hj); simp only [DT.dep] at hn; omega) (h2 j hj hj') (fun c hc=>hX c (.tail _ (bh (List.getElem_mem hj) hc))) (fun c hc=>hY c (.tail _ (bh (List.getElem_mem hj') hc))) (by show A.units+1+n<cLine; omega)
     simpa [bg] using this
    have hsz:(aJ l).toArray.size=(aJ l').toArray.size:=by simp [bg,h1]
    have el:l.length=(aJ l).toArray.size:=by simp [bg]
    refine EqAt.of_refs ea ?_
    cases k with
    | false =>
     rw [el]
     exact RcAt.lists (i5 o1) (i5 o2) hsz (by omega) he
    | true =>
     have r:=RcAt.tuples (fJ (e:=e₁) o1) (fJ (e:=e₂) o2) (by omega) he
     rw [hsz,Nat.min_self,←hsz,←el] at r
     simpa using r
  cases h with
  | same x=>exact EqAt.same x
  | int i j t u _ h=>rw [← h]; exact EqAt.int_int i t j u
  | str i j t u _ h=>rw [← h]; exact EqAt.str_str i t j u
  | bytes i j t u _ h=>rw [← h]; exact fun prog w E Q hq=>dx hq
  | bool i j _ h=>rw [← h]; exact EqAt.bool_bool i j
  | nil k a a' e₁ e₂=>exact seq k a a' e₁ e₂ _ _ rfl rfl
  | one k a a' e₁ e₂ x y l l' _ h1 h2=>exact seq k a a' e₁ e₂ _ _ rfl rfl
  | off k a a' e₁ e₂ x y l l' _ h1 h2=>exact seq k a a' e₁ e₂ _ _ rfl rfl
theorem EqP.items:∀ {l l':List DT},EqP l l'→l.length≠l'.length∧∃ bs:Nat→Bool,∀ j (h1:j<l.length) (h2:j<l'.length),EqD l[j] l'[j] (bs j)
 | _,_,.left x l=>⟨by simp,fun _=>true,fun j _ h2=>absurd h2 (Nat.not_lt_zero _)⟩
 | _,_,.right y l=>⟨by simp,fun _=>true,fun j h1 _=>absurd h1 (Nat.not_lt_zero _)⟩
 | _,_,.one x y l l' b h1 h2=>by
  obtain ⟨q1,bs,q2⟩:=h2.items
  refine ⟨by simpa using q1,fun j=>match j with | 0=>b | j+1=>bs j,fun j r1 r2=>?_⟩
  cases j with
  | zero=>exact h1
  | succ j=>exact q2 j (by simpa using r1) (by simpa using r2)
theorem bU:∀ (i:Nat) (l:List Cell),bo [] i l=l
 | _,[]=>rfl
 | i,c::l=>by
  show c::bo [] (i+1) l=c::l
  rw [bU]
theorem rS : j0 false false = "list.__eq__" := aL (by kernel_rfl)
theorem rK : j0 true false = "list.__ne__" := aL (by kernel_rfl)
theorem tX : j0 false true = "tuple.__eq__" := aL (by kernel_rfl)
theorem rV : j0 true true = "tuple.__ne__" := aL (by kernel_rfl)
theorem sN {k : Bool} {e : Nat} {l : List DT} : bY k e l = ⟨.type (match k with | true => "tuple" | false => "list"), none, .seq (aJ l).toArray (match k with | true => 0 | false => e), #[]⟩ := by
 cases k with
 | true=>show (⟨yT,none,_,_⟩:Obj)=_; rw [lV]
 | false => show (⟨yL, none, _, _⟩ : Obj) = _; rw [show yL = .type "list" by unfold yL; congr 1]
theorem ly:∀ (dr:List Nat) (i:Nat) (l:List Cell),(∀ c,c∈l→c.mu=false)→cA (bo dr i l)=[]
 | _,_,[],_=>rfl
 | dr,i,c::l,h=>by
  have hc:=h c (.head _)
  unfold bo
  cases gn i dr with
  | true=>exact ly dr (i+1) l fun c hc=>h c (.tail _ hc)
  | false =>
   show (match c.mu with | true=>c.a::cA (bo dr (i+1) l) | false=>cA (bo dr (i+1) l))=[]
   rw [hc]
   exact ly dr (i+1) l fun c hc=>h c (.tail _ hc)
mutual
theorem fw:∀ (X:DT),∀ c,c∈X.cells→c.mu=false
 | .v _,c,h=>by cases h
 | .s k a e l,c,h=>by
  rw [bQ] at h
  rcases List.mem_cons.mp h with rfl | h
  ·rfl
  ·exact h9 l c h
theorem h9:∀ (l:List DT),∀ c,c∈aQ l→c.mu=false
 | [],c,h=>by cases h
 | d::l,c,h=>by
  rw [bD] at h
  rcases List.mem_append.mp h with h | h
  ·exact fw d c h
  ·exact h9 l c h
end
theorem mE {prog:Program} {w:World} {A:Around} {R:Result→Shared→Prop} {s:Shared} {neg k:Bool} {a a' e e':Nat} {l l':List DT} {b:Bool} (o1:s.heap.get? a=some (bY k e l)) (o2:s.heap.get? a'=some (bY k e' l')) (c:Bool)
 (hc:b=(if neg then !c else c))
 (h:(l.length=l'.length∧∃ bs:Nat→Bool,(∀ j (h1:j<l.length) (h2:j<l'.length),EqAt A.in1 s (l[j]).val (l'[j]).val (bs j))∧c=(List.range l.length).all bs) ∨
  (l.length≠l'.length∧c=false∧∃ bs:Nat→Bool,(∀ j (h1:j<l.length) (h2:j<l'.length),EqAt A.in1 s (l[j]).val (l'[j]).val (bs j))))
 (hR:R (.ok (.ret (.bool b))) s):codeAny (model prog w) A (.call (.builtin (j0 neg k)) ⟨[.ref a,.ref a'],[]⟩) R s:=by
 rw [sN] at o1 o2
 have sz:∀ l:List DT,(aJ l).toArray.size=l.length:=fun l=>by simp [bg]
 have it:∀ {bs:Nat→Bool},(∀ j (h1:j<l.length) (h2:j<l'.length),EqAt A.in1 s (l[j]).val (l'[j]).val (bs j))→∀ j (h1:j<(aJ l).toArray.size) (h2:j<(aJ l').toArray.size),EqAt A.in1 s (aJ l).toArray[j] (aJ l').toArray[j] (bs j):=by
  intro bs h j q1 q2
  have:=h j (by simpa [sz] using q1) (by simpa [sz] using q2)
  simpa [bg] using this
 cases k with
 | false =>
  have hT : s.TypeIs (.ref a) "list" := ⟨_, o1, rfl⟩
  cases neg with
  | false =>
   rw [rS]
   rcases h with ⟨h1,bs,h2,h3⟩ | ⟨h1,h2,bs,h3⟩
   ·exact ap F.slot_list_eq F.entry_list_eq (F.args_list_eq_2 _ _) hT ((list_eqAt a a' _ _ _ _ none none #[] #[] (by rw [sz,sz,h1]) bs).inModel _ _) ⟨o1,o2,it h2,by rw [sz,←h3]; rw [hc] at hR; exact hR⟩
   ·exact ap F.slot_list_eq F.entry_list_eq (F.args_list_eq_2 _ _) hT ((list_eq_lengthsAt a a' (aJ l).toArray (aJ l').toArray _ _ none none #[] #[] (by rw [sz,sz]; simpa using h1)).inModel _ _) ⟨o1,o2,by rw [hc,h2] at hR; exact hR⟩
  | true =>
   rw [rK]
   rcases h with ⟨h1,bs,h2,h3⟩ | ⟨h1,h2,bs,h3⟩
   ·exact ap F.slot_list_ne F.entry_list_ne (F.args_list_ne_2 _ _) hT ((list_neAt a a' _ _ _ _ none none #[] #[] (by rw [sz,sz,h1]) bs).inModel _ _) ⟨o1,o2,it h2,by rw [sz,←h3]; rw [hc] at hR; exact hR⟩
   ·exact ap F.slot_list_ne F.entry_list_ne (F.args_list_ne_2 _ _) hT ((list_ne_lengthsAt a a' (aJ l).toArray (aJ l').toArray _ _ none none #[] #[] (by rw [sz,sz]; simpa using h1)).inModel _ _) ⟨o1,o2,by rw [hc,h2] at hR; exact hR⟩
 | true =>
  have hT : s.TypeIs (.ref a) "tuple" := ⟨_, o1, rfl⟩
  obtain ⟨bs,h2,h3⟩:∃ bs:Nat→Bool,(∀ j (h1:j<l.length) (h2:j<l'.length),EqAt A.in1 s (l[j]).val (l'[j]).val (bs j))∧c=((List.range (min (aJ l).toArray.size (aJ l').toArray.size)).all bs && (aJ l).toArray.size == (aJ l').toArray.size):=by
   rcases h with ⟨h1,bs,h2,h3⟩ | ⟨h1,h2,bs,h3⟩
   ·exact ⟨bs,h2,by rw [sz,sz,←h1,Nat.min_self,←h3]; simp⟩
   ·refine ⟨bs,h3,?_⟩
    have:((aJ l).toArray.size == (aJ l').toArray.size)=false:=by rw [sz,sz]; simpa using h1
    rw [this,Bool.and_false]
    exact h2
  cases neg with
  | false =>
   rw [tX]
   exact ap F.slot_tuple_eq F.entry_tuple_eq (F.args_tuple_eq_2 _ _) hT ((tuple_eqAt a a' (aJ l).toArray (aJ l').toArray _ _ none none #[] #[] bs).inModel _ _) ⟨o1,o2,it h2,by rw [← h3]; rw [hc] at hR; exact hR⟩
  | true =>
   rw [rV]
   exact ap F.slot_tuple_ne F.entry_tuple_ne (F.args_tuple_ne_2 _ _) hT ((tuple_neAt a a' (aJ l).toArray (aJ l').toArray _ _ none none #[] #[] bs).inModel _ _) ⟨o1,o2,it h2,by rw [← h3]; rw [hc] at hR; exact hR⟩
theorem Fc {en:ST} (w:World) (h g:Nat→Nat) (neg k:Bool) (a a' e e':Nat) (l l':List DT) (b:Bool) (dr:List Nat) (c:Bool) (hb:b=(if neg then !c else c)) (hdep:(DT.s k a e l).dep≤50)
 (hq:EqD (.s k a e l) (.s k a' e' l') c∨(c=false∧EqP l l')) (hd:∀ x,x∈(DT.s k a e l).cells ++ (DT.s k a' e' l').cells→x∈bo dr 0 ((DT.s k a e l).cells ++ (DT.s k a' e' l').cells)) :
 (dS w.params h g neg k (.s k a e l) (.s k a' e' l') b dr).S.Holds (B2 w en):=by
 refine am rfl fun A s₀ R hh hu _ ht hcell _ kk=>?_
 have hX:bi s₀ (DT.s k a e l).cells:=fun x hx=>(hcell x (hd x (List.mem_append_left _ hx))).1
 have hY:bi s₀ (DT.s k a' e' l').cells:=fun x hx=>(hcell x (hd x (List.mem_append_right _ hx))).1
 rw [bQ] at hX hY
 have hlv:(dS w.params h g neg k (.s k a e l) (.s k a' e' l') b dr).lv=60:=rfl
 have item:∀ {bs:Nat→Bool},(∀ j (h1:j<l.length) (h2:j<l'.length),EqD l[j] l'[j] (bs j))→∀ j (h1:j<l.length) (h2:j<l'.length),EqAt A.in1 s₀ (l[j]).val (l'[j]).val (bs j):=by
  intro bs hs j h1 h2
  refine EqD.at 50 ?_ (hs j h1 h2) (fun c hc=>hX c (.tail _ (bh (List.getElem_mem h1) hc))) (fun c hc=>hY c (.tail _ (bh (List.getElem_mem h2) hc))) ?_
  ·have:=ds (List.getElem_mem h1)
   simp only [DT.dep] at hdep
   omega
  ·show A.units+1+50<cLine
   unfold cLine; omega
 refine mE (hX _ (.head _)) (hY _ (.head _)) c hb ?_ ?_
 ·rcases hq with hq | ⟨hc,hq⟩
  ·obtain ⟨h1,bs,h2,h3⟩:=hq.items
   exact .inl ⟨h1,bs,item h2,h3⟩
  ·obtain ⟨h1,bs,h2⟩:=hq.items
   exact .inr ⟨h1,hc,bs,item h2⟩
 ·refine kk _ [] [] (aF (s':=s₀) ht ?_ rfl rfl rfl rfl rfl)
  refine ly dr 0 _ fun c hc=>?_
  rcases List.mem_append.mp hc with hc | hc
  ·exact fw _ c hc
  ·exact fw _ c hc
end
section
open PySem.SeqAt PySem.MeetsSeq PySem.MeetsSeq3 PySem.AutoSeq1
noncomputable def cz:List Value→Prop
 | []=>True
 | v::l=>(∃ i t,v=.int i t)∧cz l
theorem cz.at:∀ {l:List Value},cz l→∀ (j:Nat) (h:j<l.length),∃ i t,l[j]=.int i t
 | v::l,h,0,_=>h.1
 | v::l,h,j+1,hj=>cz.at h.2 j (by simpa using hj)
theorem uZ (a b:Addr) (l m:List Value) (n n2:Nat) (hl:cz l) (hm:cz m) (k:Nat) :
 ∀ i:Nat,l.length - i=k→i≤l.length→i≤m.length→Meets (Builtin.«list.__eq__.loop» ⟨[.ref a,.ref b,rawInt i,rawInt 0],[]⟩)
  (fun A R s => s.heap.get? a = some { cls := .type "list", dict := none, data := .seq l.toArray n, slots := #[] } ∧ s.heap.get? b = some { cls := .type "list", dict := none, data := .seq m.toArray n2, slots := #[] } ∧
   R (.ok (.ret (.bool (r5 (l.drop i) (m.drop i))))) s):=by
 induction k with
 | zero =>
  intro i hk h1 h2 prog w A R s h
  obtain ⟨hp,g,d,tk,os⟩:=s; obtain ⟨ha,hb,h⟩:=h
  wp_walk using wpAny_loadPart' ha,wpAny_loadPart' hb
  have hi:i=l.length:=by omega
  have hi1:l.toArray[((i:Nat):Int).toNat]?=none:=by simp; omega
  rw [hi1]
  wp_walk using wpAny_loadPart' ha,wpAny_loadPart' hb
  have hd:l.drop i=[]:=by simp; omega
  rw [hd] at h
  show R (.ok (.ret (.bool (decide (l.toArray.size<m.toArray.size))))) _
  have e:decide (l.toArray.size<m.toArray.size)=r5 [] (m.drop i):=by
   cases hq:m.drop i with
   | nil =>
    have:m.length≤i:=by simpa using hq
    simp [r5]; omega
   | cons y r =>
    have:i<m.length:=by
     rcases Nat.lt_or_ge i m.length with q | q
     ·exact q
     ·rw [List.drop_of_length_le q] at hq; cases hq
    simp [r5]; omega
  rw [e]; exact h
 | succ k ih =>
  intro i hk h1 h2 prog w A R s h
  obtain ⟨hp,g,d,tk,os⟩:=s; obtain ⟨ha,hb,h⟩:=h
  wp_walk using wpAny_loadPart' ha,wpAny_loadPart' hb
  have hlt:i<l.length:=by omega
  have hi1:l.toArray[((i:Nat):Int).toNat]?=some l[i]:=by simp [hlt]
  have hd:l.drop i=l[i]::l.drop (i+1):=List.drop_eq_getElem_cons hlt
  have hc:((i:Int)+1)=((i+1:Nat):Int):=by push_cast; rfl
  rw [hi1]
  rcases Nat.lt_or_ge i m.length with hlt2 | hge
  ·have hi2:m.toArray[((i:Nat):Int).toNat]?=some m[i]:=by simp [hlt2]
   have hd2:m.drop i=m[i]::m.drop (i+1):=List.drop_eq_getElem_cons hlt2
   rw [hi2]
   obtain ⟨x,t,hx⟩:=hl.at i hlt
   obtain ⟨y,u,hy⟩:=hm.at i hlt2
   rw [hd,hd2,hx,hy] at h
   refine wpAny_bind (?_:wpAny _ _ (eqBool l[i] m[i]) _ _ _)
   rw [hx,hy]
   refine EqAt.int_int x t y u prog w _ _ ?_
   by_cases hxy:x=y
   ·subst hxy
    simp only [beq_self_eq_true]
    wp_walk
    rw [hc]
    refine ⟨plainId_quiet plain_eq_loop _,codeAny_builtin entry_eq_loop (by
     rw [Around.under_plainId plain_eq_loop _]
     exact ih (i+1) (by omega) (by omega) (by omega) prog w A R _ ⟨ha,hb,by simpa [r5] using h⟩)⟩
   ·have:(x == y)=false:=by simpa using hxy
    rw [this]
    wp_walk using wpAny_loadPart' ha,wpAny_loadPart' hb
    rw [hi1,hi2,hx,hy]
    refine wpAny_bind (wpAny_lt_int ?_)
    refine wpAny_pure ?_
    simpa [r5,hxy] using h
  ·have hi2:m.toArray[((i:Nat):Int).toNat]?=none:=by simp; omega
   rw [hi2]
   wp_walk using wpAny_loadPart' ha,wpAny_loadPart' hb
   have hd2:m.drop i=[]:=by simp; omega
   rw [hd2] at h
   show R (.ok (.ret (.bool (decide (l.toArray.size<m.toArray.size))))) _
   have e:decide (l.toArray.size<m.toArray.size)=r5 (l.drop i) []:=by
    rw [hd]; simp [r5]; omega
   rw [e]; exact h
theorem nZ (a b:Addr) (l m:List Value) (n n2:Nat) (hl:cz l) (hm:cz m) :
 Meets (Builtin.«list.__lt__» ⟨[.ref a,.ref b],[]⟩)
  (fun A R s => s.heap.get? a = some { cls := .type "list", dict := none, data := .seq l.toArray n, slots := #[] } ∧ s.heap.get? b = some { cls := .type "list", dict := none, data := .seq m.toArray n2, slots := #[] } ∧
   R (.ok (.ret (.bool (r5 l m)))) s):=by
 intro prog w A R s h
 obtain ⟨hp,g,d,tk,os⟩:=s; obtain ⟨ha,hb,h⟩:=h
 have f3:=AutoSeq1.sub_list_list
 wp_walk using wpAny_loadPart' ha,wpAny_loadPart' hb
 exact ⟨plainId_quiet plain_eq_loop _,codeAny_builtin entry_eq_loop (by
  rw [Around.under_plainId plain_eq_loop _]
  exact uZ a b l m n n2 hl hm _ 0 rfl (Nat.zero_le _) (Nat.zero_le _) prog w A R _ ⟨ha,hb,by simpa using h⟩)⟩
theorem gf : yL = .type "list" := by
 unfold yL; congr 1
theorem GF {en:ST} (w:World) (h g:Nat→Nat) (a b e e':Nat) (l m:List Value) (hl:cz l) (hm:cz m):(vQ w.params h g a b e e' l m).S.Holds (B2 w en):=by
 refine am rfl fun A s₀ R hh hu _ ht hcell _ kk=>?_
 have o1:s₀.heap.get? a=some (oL e l):=(hcell _ (.head _)).1
 have o2:s₀.heap.get? b=some (oL e' m):=(hcell _ (.tail _ (.head _))).1
 unfold oL at o1 o2
 rw [gf] at o1 o2
 exact ap F.slot_list_lt F.entry_list_lt (F.args_list_lt_2 _ _) ⟨_,o1,rfl⟩ ((nZ a b l m e e' hl hm).inModel _ _) ⟨o1,o2,kk _ [] [] (aF (s':=s₀) ht rfl rfl rfl rfl rfl rfl)⟩
theorem me:∀ l m:List Value,qZ l m=l ++ m
 | [],_=>rfl
 | v::l,m=>by show v::qZ l m=v::(l ++ m); rw [me l m]
theorem FH {en:ST} (w:World) (h g:Nat→Nat) (a b n n':Nat) (l m:List Value) (hlen:l.length+m.length≤1000) (hm:0<m.length):(jb w.params h g a b n n' l m).S.Holds (B2 w en):=by
 refine am rfl fun A s₀ R hh hu _ ht hcell _ kk=>?_
 have o1:s₀.heap.get? a=some (oL n l):=(hcell _ (.head _)).1
 have o2:s₀.heap.get? b=some (oL n' m):=(hcell _ (.tail _ (.head _))).1
 have hf:=(hcell _ (.head _)).2
 have o1':=o1
 unfold oL at o1 o2
 rw [gf] at o1 o2
 show codeAny _ _ (.builtin _ _) _ _
 rw [show Lk = "list.__iadd__" from aL (by kernel_rfl)]
 refine codeAny_builtin F.entry_list_iadd ?_
 rw [Around.under_plainId F.plain_list_iadd _]
 have big:l.length+m.length≤sizeLine:=Nat.le_trans hlen (by decide)
 refine list___iadd___list_list_0 a l.toArray n b m.toArray n' ?_ (by show l.length≤_; omega) (by show l.length+m.length≤_; omega) _ _ A R s₀ ⟨o1,o2,?_⟩
 ·have:Builtin.List.listTooLong (l.toArray.size+m.toArray.size)=false:=by
   show decide _=false
   simpa using big
  rw [this]; simp
 ·refine kk _ [] [] (cO (d:=a) (o:=oL n l) (o':=oL (n+1) (qZ l m)) ht hf rfl rfl rfl o1' ?_ rfl rfl rfl rfl rfl rfl)
  rw [me]
  have hne:(((⟨l⟩:Array Value) ++ m.toArray).size == (⟨l⟩:Array Value).size)=false:=by
   have e1:((⟨l⟩:Array Value) ++ m.toArray).size=l.length+m.length:=by simp
   refine beq_eq_false_iff_ne.mpr ?_
   rw [e1]
   show l.length+m.length≠l.length
   omega
  show (⟨yL,none,.seq ((⟨l⟩:Array Value) ++ m.toArray) (if (((⟨l⟩:Array Value) ++ m.toArray).size == (⟨l⟩:Array Value).size)=true then n else n+1),#[]⟩:Obj)=_
  rw [hne]
  simp [oL]
end
section
open PySem.SeqAt
theorem Gs {en:ST} (w:World) (h g:Nat→Nat) (X tx t:Nat) (b:Bool) (hb:decide (0<X)=b):(FP w.params h g X tx t b).S.Holds (B2 w en):=by
 refine am rfl fun A s₀ R hh hu _ ht hcell _ kk=>?_
 show codeAny _ _ (.call (.builtin _) _) _ _
 rw [show Mine.SL.s549184847318252788x10 = "int.__gt__" from aL (by kernel_rfl)]
 refine ap F.slot_int_gt F.entry_int_gt (F.args_int_gt_2 _ _) (typeIs_int s₀ _ _) ((AutoIntG4.int___gt___int_int_0 (Int.ofNat X) tx 0 t).meets.inModel _ _) ?_
 show R (.ok (.ret (.bool (decide (Int.ofNat X > 0))))) s₀
 have e:decide (Int.ofNat X > 0)=b:=by
  rw [← hb]
  exact decide_eq_decide.mpr ⟨fun q=>Int.ofNat_lt.mp q,fun q=>Int.ofNat_lt.mpr q⟩
 rw [e]
 exact kk _ [] [] (aF (s':=s₀) ht rfl rfl rfl rfl rfl rfl)
theorem EI {en : ST} {w : World} {h g : Nat → Nat} {id id' : String} {name : Str} {b : Builtin} (hid : id = id') (hs : Slot "int" name id') (he : entryFor table id' = some b) (ha : ∀ x y : Value, argsOk id' ⟨[x, y], []⟩) (x y c t u : Nat) {i : Int} (hi : i = Int.ofNat c)
 (hg:Gives (b ⟨[.int (Int.ofNat x) t,.int (Int.ofNat y) u],[]⟩) (.int i)):(A3 w.params h g id x y c t u).S.Holds (B2 w en):=by
 subst hid hi
 refine am rfl fun A s₀ R hh hu _ ht hcell _ kk=>?_
 refine ap hs he (ha _ _) (typeIs_int s₀ _ _) (hg.meets.inModel _ _) ?_
 show R (.ok (.ret (.int (Int.ofNat c) s₀.toks))) { s₀ with toks:=s₀.toks+1 }
 exact kk { s₀ with toks:=s₀.toks+1 } [] [s₀.toks] ⟨ht,fun a o h _=>.inl h,Nat.le_refl _,rfl,rfl,fun j a o hj=>by simp [RS.S,RS.SO,A3,RS.fin,RS.finO,au,cA] at hj,fun j a o hj=>by simp at hj,fun a hj=>by simp at hj,List.nodup_nil,rfl,rfl⟩
theorem lz {n:Nat} (h:n<2 ^ 32):Builtin.Int.intBits (Int.ofNat n)≤64:=by
 unfold Builtin.Int.intBits
 split
 ·exact Nat.zero_le _
 ·rename_i h0
  have hn:n≠0:=fun e=>h0 (by subst e; rfl)
  have:Nat.log2 n<32:=(Nat.log2_lt hn).mpr h
  show Nat.log2 n+1≤64
  omega
theorem gu {en:ST} (w:World) (h g:Nat→Nat) (a b c t u:Nat) (hb:b<2 ^ 32) (hc:c=a * b):(fG w.params h g a b c t u).S.Holds (B2 w en) :=
 EI (aL (by kernel_rfl)) F.slot_int_mul F.entry_int_mul F.args_int_mul_2 a b c t u (i:=Int.ofNat a * Int.ofNat b) (by subst hc; rfl) (AutoIntG1.int___mul___int_int_0 _ _ _ _ (.of_right (lz hb)))
theorem p7 {en:ST} (w:World) (h g:Nat→Nat) (a b c t u:Nat) (hc:c=a+b):(nl w.params h g a b c t u).S.Holds (B2 w en) :=
 EI (aL (by kernel_rfl)) F.slot_int_add F.entry_int_add F.args_int_add_2 a b c t u (i:=Int.ofNat a+Int.ofNat b) (by subst hc; rfl) (AutoIntG4.int___add___int_int_0 _ _ _ _)
theorem fc {en:ST} (w:World) (h g:Nat→Nat) (a b c t u:Nat) (hb:0<b) (hc:c=a % b):(eA w.params h g a b c t u).S.Holds (B2 w en) :=
 EI (aL (by kernel_rfl)) F.slot_int_mod F.entry_int_mod F.args_int_mod_2 a b c t u (i:=(Int.ofNat a).fmod (Int.ofNat b)) (by subst hc; exact (Int.ofNat_fmod a b).symm) (AutoIntG6.int___mod___int_int_1 _ _ _ _ (by simp; omega))
theorem Do {en:ST} (w:World) (h g:Nat→Nat) (a b c t u:Nat) (hb:0<b) (hb':b<2 ^ 32) (hc:c=a / b):(zR w.params h g a b c t u).S.Holds (B2 w en) :=
 EI (aL (by kernel_rfl)) F.slot_int_floordiv F.entry_int_floordiv F.args_int_floordiv_2 a b c t u (i:=(Int.ofNat a).fdiv (Int.ofNat b)) (by subst hc; exact (Int.ofNat_fdiv a b).symm) (AutoIntG4.int___floordiv___int_int_1 _ _ _ _ (by simp; omega) (by
  have hn:b≠0:=by omega
  have:Nat.log2 b<32:=(Nat.log2_lt hn).mpr hb'
  have e:(if (Int.ofNat b) == 0 then 0 else (Int.ofNat b).natAbs.log2 / 30+1)≤300:=by
   split
   ·exact Nat.zero_le _
   ·show Nat.log2 b / 30+1≤300
    omega
  unfold Builtin.divisionGoesByPylong
  intro q
  have q1:=(Bool.and_eq_true_iff.mp q).1
  have q2:=of_decide_eq_true q1
  exact absurd q2 (Nat.not_lt.mpr e)))
theorem my:∀ {l:List Value} {d:Nat} (h:d<l.length),l[d]?=some (fp l d)
 | v::l,0,_=>rfl
 | v::l,d+1,h=>by
  rw [List.getElem?_cons_succ]
  exact my (by simpa using h)
theorem o6 {d:Nat} (h:d<1000):(Int.ofNat d)<2 ^ 63:=by
 have h1:(d:Int)<1000:=by omega
 have h2:(1000:Int)<2 ^ 63:=by decide +kernel
 exact Int.lt_trans h1 h2
theorem sZ (a:Addr) (l:List Value) (n d:Nat) (k:Int) (t:Tok) (hk:k=Int.ofNat d) (hd:d<l.length) (hl:l.length<1000) :
 Meets (Builtin.«list.__getitem__» ⟨[.ref a,.int k t],[]⟩) (fun _ R s=>s.heap.get? a=some (oL n l)∧R (.ok (.ret (fp l d))) s):=by
 intro prog w A R s ⟨o1,fin⟩
 have hfit:k<2 ^ 63:=hk▸o6 (Nat.lt_trans hd hl)
 have h0:0≤k:=hk▸Int.natCast_nonneg d
 show wpAny _ _ (Builtin.List.listSubscript? (.int k t) >>= _) _ _ s
 refine wpAny_bind (wpAny_listSubscript_int (fitsIndex_of h0 hfit) ?_)
 clear hfit
 subst hk
 show wpAny _ _ ((seqItemAt a d >>= fun r=>pure (r.map (d,·))) >>= _) _ _ s
 refine wpAny_bind (wpAny_bind (wpAny_seqItemAt o1 rfl (wpAny_pure ?_)))
 have hx:(⟨l⟩:Array Value)[d]?=some (fp l d):=by
  show l.toArray[d]?=_
  rw [List.getElem?_toArray]; exact my hd
 rw [hx]
 first
  | exact wpAny_bind (wpAny_pure (wpAny_pure fin))
  | exact wpAny_pure fin
theorem qG {prog:Program} {w:World} {A:Around} {R:Result→Shared→Prop} {s:Shared} (a:Addr) (l:List Value) (n d:Nat) (k:Int) (t:Tok) (hk:k=Int.ofNat d) (hd:d<l.length) (hl:l.length<1000) (o1:s.heap.get? a=some (oL n l)) (fin:R (.ok (.ret (fp l d))) s) :
 codeAny (model prog w) A (.call (.builtin "list.__getitem__") ⟨[.ref a, .int k t], []⟩) R s :=
 ap slot_list_getitem entry_list_getitem (args_list_getitem _ _) ⟨_,o1,gf⟩ (fun A R s=>sZ a l n d k t hk hd hl prog w A R s) ⟨o1,fin⟩
theorem kD {en:ST} (w:World) (h g:Nat→Nat) (a e d t:Nat) (l:List Value) (hd:d<l.length) (hl:l.length<1000):(ld w.params h g a e d t l).S.Holds (B2 w en):=by
 refine am rfl fun A s₀ R hh hu _ ht hcell _ kk=>?_
 have o1:s₀.heap.get? a=some (oL e l):=(hcell _ (.head _)).1
 have fin:R (.ok (.ret (fp l d))) s₀:=kk _ [] [] (aF (s':=s₀) ht rfl rfl rfl rfl rfl rfl)
 have q:=qG (prog:=(B2 w en).prog) (w:=w) (A:=A) a l e d (Int.ofNat d) t rfl hd hl o1 fin
 rw [show "list.__getitem__" = Ld from (aL (by kernel_rfl)).symm] at q
 exact q
end
noncomputable def Fj (P:Params) (h g:Nat→Nat) (s r e er X Y top Z0 Z1 tx ty tt:Nat):RS:=ah P h g s r e er X Y 0 0 0 (Int.ofNat top) tx ty tt
noncomputable def FC (P:Params) (h g:Nat→Nat) (s r e er Y top Z0 Z1 Z2 Z3 Z4 Z5 Z6 tx ty tt:Nat):RS:=ah P h g s r e er 0 Y 0 0 0 (Int.ofNat top) tx ty tt
noncomputable def yO (P:Params) (h g:Nat→Nat) (s r e er th eh X0 Y0 D0 X1 Y1 tx ty:Nat) (v0 v1:Value):RS:=aH P h g s r e er th eh X0 Y0 D0 X1 Y1 tx ty [v0,v1]
noncomputable def x8 (P:Params) (h g:Nat→Nat) (s r e er th eh X0 Y0 D0 X1 Y1 tx ty:Nat) (v0 v1 v2:Value):RS:=aH P h g s r e er th eh X0 Y0 D0 X1 Y1 tx ty [v0,v1,v2]
noncomputable def ye (P:Params) (h g:Nat→Nat) (s r e er th eh X0 Y0 D0 X1 Y1 tx ty:Nat) (v0 v1 v2 v3:Value):RS:=aH P h g s r e er th eh X0 Y0 D0 X1 Y1 tx ty [v0,v1,v2,v3]
noncomputable def yt (P:Params) (h g:Nat→Nat) (s r e er th eh X0 Y0 D0 X1 Y1 tx ty:Nat) (v0 v1 v2 v3 v4:Value):RS:=aH P h g s r e er th eh X0 Y0 D0 X1 Y1 tx ty [v0,v1,v2,v3,v4]
noncomputable def yl (P:Params) (h g:Nat→Nat) (s r e er th eh X0 Y0 D0 X1 Y1 tx ty:Nat) (v0 v1 v2 v3 v4 v5 v6 v7:Value):RS:=aH P h g s r e er th eh X0 Y0 D0 X1 Y1 tx ty [v0,v1,v2,v3,v4,v5,v6,v7]
noncomputable def Ff (P:Params) (h:Nat→Nat) (g:Nat→Nat) (s:Nat) (r:Nat) (e:Nat) (er:Nat) (X:Nat) (Y:Nat) (top:Nat) (Z0:Nat) (Z1:Nat) (tx:Nat) (ty:Nat) (tt:Nat):RS:=(Fj P h g s r e er X Y top Z0 Z1 tx ty tt).fin [] [6,9] (fun b t=>[(oL e [(.int (Int.ofNat Z1) (nb t 1)),(.int (Int.ofNat Y) ty),(.ref r)])]) nN (fun b t=>(ok (.int (Int.ofNat Z0) (nb t 0))))
noncomputable def Fz (P:Params) (h:Nat→Nat) (g:Nat→Nat) (s:Nat) (r:Nat) (e:Nat) (er:Nat) (Y:Nat) (top:Nat) (Z0:Nat) (Z1:Nat) (Z2:Nat) (Z3:Nat) (Z4:Nat) (Z5:Nat) (Z6:Nat) (tx:Nat) (ty:Nat) (tt:Nat):RS:=(FC P h g s r e er Y top Z0 Z1 Z2 Z3 Z4 Z5 Z6 tx ty tt).fin [] [20,11] (fun b t=>[(oL e [(.int 0 tx),(.int (Int.ofNat Z2) (nb t 1)),(.ref r)])]) nN (fun b t=>(ok (.int (Int.ofNat Z6) (nb t 0))))
theorem C9 (w:World) (en:ST) h g s r e er X Y top Z0 Z1 tx ty tt (cb:Bool):(Ff w.params h g s r e er X Y top Z0 Z1 tx ty tt).Runs (B2 w en) 112 (ce [BC,1030,fq,1080035329,fq,jf,1080035334,fq,1080035334,xh]) [⟨fun A tk O ρs ρ=>(dS w.params h g true false (DT.s false (A 1) er []) (DT.s false (A 3) 0 []) false []).S,[1,3],[],none⟩,⟨fun A tk O ρs ρ=>(Fd w.params h g X tx (tk 4)).S,[],[],none⟩,⟨fun A tk O ρs ρ=>(eA w.params h g X top Z0 tx tt).S,[],[],none⟩,⟨fun A tk O ρs ρ=>(zR w.params h g X top Z1 tx tt).S,[],[],none⟩] cb:=by
 intro ν τ υ π ς ρ own past κ bl p
 kernel_rfl
theorem DK (w:World) (en:ST) h g s r e er Y top Z0 Z1 Z2 Z3 Z4 Z5 Z6 tx ty tt (cb:Bool):(Fz w.params h g s r e er Y top Z0 Z1 Z2 Z3 Z4 Z5 Z6 tx ty tt).Runs (B2 w en) 129 (ce [BC,1030,lO,DM,1030,xh,fq,DM,1050630]) [⟨fun A tk O ρs ρ=>(dS w.params h g true false (DT.s false (A 1) er []) (DT.s false (A 3) 0 []) false []).S,[1,3],[],none⟩,⟨fun A tk O ρs ρ=>(fG w.params h g Y 39373 Z0 ty (tk 6)).S,[],[],none⟩,⟨fun A tk O ρs ρ=>(nl w.params h g Z0 7 Z1 (tk 7) (tk 8)).S,[],[],none⟩,⟨fun A tk O ρs ρ=>(eA w.params h g Z1 2147483647 Z2 (tk 9) (tk 10)).S,[],[],none⟩,⟨fun A tk O ρs ρ=>(fG w.params h g Z2 Z2 Z3 (tk 11) (tk 11)).S,[],[],none⟩,⟨fun A tk O ρs ρ=>(eA w.params h g Z3 2147483629 Z4 (tk 15) (tk 16)).S,[],[],none⟩,⟨fun A tk O ρs ρ=>(zR w.params h g Z4 32 Z5 (tk 17) (tk 18)).S,[],[],none⟩,⟨fun A tk O ρs ρ=>(eA w.params h g Z5 top Z6 (tk 19) tt).S,[],[],none⟩] cb:=by
 intro ν τ υ π ς ρ own past κ bl p
 kernel_rfl
noncomputable def yS (P:Params) (h:Nat→Nat) (g:Nat→Nat) (s:Nat) (r:Nat) (e:Nat) (er:Nat) (th:Nat) (eh:Nat) (X0:Nat) (Y0:Nat) (D0:Nat) (X1:Nat) (Y1:Nat) (tx:Nat) (ty:Nat) (v0:Value) (v1:Value):RS:=(yO P h g s r e er th eh X0 Y0 D0 X1 Y1 tx ty v0 v1).fin [] [5,6] (fun b t=>[(oL e [(.int (Int.ofNat X1) (nb t 0)),(.int (Int.ofNat Y1) (nb t 1)),(.ref r)])]) nN (fun b t=>(ok (fp [v0,v1] D0)))
noncomputable def wH (P:Params) (h:Nat→Nat) (g:Nat→Nat) (s:Nat) (r:Nat) (e:Nat) (er:Nat) (th:Nat) (eh:Nat) (X0:Nat) (Y0:Nat) (D0:Nat) (X1:Nat) (Y1:Nat) (tx:Nat) (ty:Nat) (v0:Value) (v1:Value) (v2:Value):RS:=(x8 P h g s r e er th eh X0 Y0 D0 X1 Y1 tx ty v0 v1 v2).fin [] [5,6] (fun b t=>[(oL e [(.int (Int.ofNat X1) (nb t 0)),(.int (Int.ofNat Y1) (nb t 1)),(.ref r)])]) nN (fun b t=>(ok (fp [v0,v1,v2] D0)))
noncomputable def xj (P:Params) (h:Nat→Nat) (g:Nat→Nat) (s:Nat) (r:Nat) (e:Nat) (er:Nat) (th:Nat) (eh:Nat) (X0:Nat) (Y0:Nat) (D0:Nat) (X1:Nat) (Y1:Nat) (tx:Nat) (ty:Nat) (v0:Value) (v1:Value) (v2:Value) (v3:Value):RS:=(ye P h g s r e er th eh X0 Y0 D0 X1 Y1 tx ty v0 v1 v2 v3).fin [] [5,6] (fun b t=>[(oL e [(.int (Int.ofNat X1) (nb t 0)),(.int (Int.ofNat Y1) (nb t 1)),(.ref r)])]) nN (fun b t=>(ok (fp [v0,v1,v2,v3] D0)))
noncomputable def xp (P:Params) (h:Nat→Nat) (g:Nat→Nat) (s:Nat) (r:Nat) (e:Nat) (er:Nat) (th:Nat) (eh:Nat) (X0:Nat) (Y0:Nat) (D0:Nat) (X1:Nat) (Y1:Nat) (tx:Nat) (ty:Nat) (v0:Value) (v1:Value) (v2:Value) (v3:Value) (v4:Value):RS:=(yt P h g s r e er th eh X0 Y0 D0 X1 Y1 tx ty v0 v1 v2 v3 v4).fin [] [5,6] (fun b t=>[(oL e [(.int (Int.ofNat X1) (nb t 0)),(.int (Int.ofNat Y1) (nb t 1)),(.ref r)])]) nN (fun b t=>(ok (fp [v0,v1,v2,v3,v4] D0)))
noncomputable def w4 (P:Params) (h:Nat→Nat) (g:Nat→Nat) (s:Nat) (r:Nat) (e:Nat) (er:Nat) (th:Nat) (eh:Nat) (X0:Nat) (Y0:Nat) (D0:Nat) (X1:Nat) (Y1:Nat) (tx:Nat) (ty:Nat) (v0:Value) (v1:Value) (v2:Value) (v3:Value) (v4:Value) (v5:Value) (v6:Value) (v7:Value):RS:=(yl P h g s r e er th eh X0 Y0 D0 X1 Y1 tx ty v0 v1 v2 v3 v4 v5 v6 v7).fin [] [5,6] (fun b t=>[(oL e [(.int (Int.ofNat X1) (nb t 0)),(.int (Int.ofNat Y1) (nb t 1)),(.ref r)])]) nN (fun b t=>(ok (fp [v0,v1,v2,v3,v4,v5,v6,v7] D0)))
theorem sb (w:World) h g s r e er th eh X0 Y0 D0 X1 Y1 tx ty v0 v1 (cb:Bool):(yS w.params h g s r e er th eh X0 Y0 D0 X1 Y1 tx ty v0 v1).Runs (BB w h g) 50 (ce [qI]) [⟨fun A tk O ρs ρ=>(ah w.params h g (A 0) (A 1) e er X0 Y0 D0 X1 Y1 2 tx ty (tk 3)).S,[0,1],[0],none⟩,⟨fun A tk O ρs ρ=>(ld w.params h g (A 2) eh D0 (tk 4) [v0,v1]).S,[2],[],none⟩] cb:=by
 intro ν τ υ π ς ρ own past κ bl p
 kernel_rfl
theorem ue (w:World) h g s r e er th eh X0 Y0 D0 X1 Y1 tx ty v0 v1 v2 (cb:Bool):(wH w.params h g s r e er th eh X0 Y0 D0 X1 Y1 tx ty v0 v1 v2).Runs (BB w h g) 50 (ce [qI]) [⟨fun A tk O ρs ρ=>(ah w.params h g (A 0) (A 1) e er X0 Y0 D0 X1 Y1 3 tx ty (tk 3)).S,[0,1],[0],none⟩,⟨fun A tk O ρs ρ=>(ld w.params h g (A 2) eh D0 (tk 4) [v0,v1,v2]).S,[2],[],none⟩] cb:=by
 intro ν τ υ π ς ρ own past κ bl p
 kernel_rfl
theorem uF (w:World) h g s r e er th eh X0 Y0 D0 X1 Y1 tx ty v0 v1 v2 v3 (cb:Bool):(xj w.params h g s r e er th eh X0 Y0 D0 X1 Y1 tx ty v0 v1 v2 v3).Runs (BB w h g) 50 (ce [qI]) [⟨fun A tk O ρs ρ=>(ah w.params h g (A 0) (A 1) e er X0 Y0 D0 X1 Y1 4 tx ty (tk 3)).S,[0,1],[0],none⟩,⟨fun A tk O ρs ρ=>(ld w.params h g (A 2) eh D0 (tk 4) [v0,v1,v2,v3]).S,[2],[],none⟩] cb:=by
 intro ν τ υ π ς ρ own past κ bl p
 kernel_rfl
theorem uz (w:World) h g s r e er th eh X0 Y0 D0 X1 Y1 tx ty v0 v1 v2 v3 v4 (cb:Bool):(xp w.params h g s r e er th eh X0 Y0 D0 X1 Y1 tx ty v0 v1 v2 v3 v4).Runs (BB w h g) 50 (ce [qI]) [⟨fun A tk O ρs ρ=>(ah w.params h g (A 0) (A 1) e er X0 Y0 D0 X1 Y1 5 tx ty (tk 3)).S,[0,1],[0],none⟩,⟨fun A tk O ρs ρ=>(ld w.params h g (A 2) eh D0 (tk 4) [v0,v1,v2,v3,v4]).S,[2],[],none⟩] cb:=by
 intro ν τ υ π ς ρ own past κ bl p
 kernel_rfl
theorem rF (w:World) h g s r e er th eh X0 Y0 D0 X1 Y1 tx ty v0 v1 v2 v3 v4 v5 v6 v7 (cb:Bool):(w4 w.params h g s r e er th eh X0 Y0 D0 X1 Y1 tx ty v0 v1 v2 v3 v4 v5 v6 v7).Runs (BB w h g) 50 (ce [qI]) [⟨fun A tk O ρs ρ=>(ah w.params h g (A 0) (A 1) e er X0 Y0 D0 X1 Y1 8 tx ty (tk 3)).S,[0,1],[0],none⟩,⟨fun A tk O ρs ρ=>(ld w.params h g (A 2) eh D0 (tk 4) [v0,v1,v2,v3,v4,v5,v6,v7]).S,[2],[],none⟩] cb:=by
 intro ν τ υ π ς ρ own past κ bl p
 kernel_rfl
section
open PySem.SeqAt
noncomputable def cp (B:Base):List Use→Prop
 | []=>True
 | u::us=>(∀ A tk O ρs,bI B u.tl (u.S A tk O ρs))∧cp B us
theorem cp.all {B:Base}:∀ {us:List Use},cp B us→∀ u:Use,u∈us→∀ A tk O ρs,bI B u.tl (u.S A tk O ρs)
 | v::us,h,u,hu=>by
  rcases List.mem_cons.mp hu with rfl | hu
  ·exact h.1
  ·exact cp.all h.2 u hu
theorem aP {B:Base} {u:Use} {us:List Use} (h:∀ A tk O ρs,bI B u.tl (u.S A tk O ρs)) (k:cp B us):cp B (u::us):=⟨h,k⟩
theorem ak {B:Base}:cp B []:=trivial
theorem RS.doneL {B:Base} (O:B.Ok) {lb:List LibE} (hlb:∀ e:LibE,e∈lb→∀ c cs ms,(e.S c cs ms).Holds B) {D:RS} {us:List Use} (H:D.RunL B lb us) (htl:D.tl=none) (hcl:∀ ob q,D.SO ob q=D.S) (hus:cp B us):D.S.Holds B:=RS.holdsL O hlb hus.all htl hcl H
theorem RS.done {B:Base} (O:B.Ok) {D:RS} {us:List Use} (H:D.Run B us) (htl:D.tl=none) (hcl:∀ ob q,D.SO ob q=D.S) (hus:cp B us):D.S.Holds B:=RS.holds O hus.all htl hcl H
noncomputable def dY (e:DictEntry):Bool:=match e.key with
 | .str _ _=>true
 | _=>false
theorem se (P : Params) : ∃ o es ep, (Mine.Scr.KT0 P).get cStatics = some o ∧ o.data = .dict es ep ∧ es.toList.all dY = true ∧ nsFind es "sys.recursionlimit" = none := by
 have h:(match (Mine.Scr.KT0 P).get cStatics with
  | some o=>match o.data with
   | .dict es _ => es.toList.all dY && (nsFind es "sys.recursionlimit").isNone
   | _=>false
  | none=>false)=true:=by kernel_rfl
 split at h
 ·rename_i o ho
  split at h
  ·rename_i es ep hd
   obtain ⟨h1,h2⟩:=Bool.and_eq_true_iff.mp h
   exact ⟨o,es,ep,ho,hd,h1,Option.isNone_iff_eq_none.mp h2⟩
  ·cases h
 ·cases h
theorem yf (P:Params):((Mine.Scr.KT0 P).get 1568).isSome=true:=by kernel_rfl
theorem CS (P:Params):∀ d,d<7→(Mine.Scr.KT0 P).get (zZ d)=some ⟨.type Le,none,.func (FQ P d),#[]⟩
 | 0,_=>by kernel_rfl
 | 1,_=>by kernel_rfl
 | 2,_=>by kernel_rfl
 | 3,_=>by kernel_rfl
 | 4,_=>by kernel_rfl
 | 5,_=>by kernel_rfl
 | 6,_=>by kernel_rfl
theorem Ck (P:Params) (d:Nat):(Mine.Scr.KT0 P).get (Es P d).a=some (Es P d).o:=CS P (d % 7) (Nat.mod_lt _ (by decide))
theorem dG (w:World) (en:ST):(B2 w en).Ok:=by
 refine ⟨fun s ht=>?_,fun s ht=>?_,fun s ht d=>ht.1 _ _ (Ck w.params d)⟩
 ·obtain ⟨o,es,ep,h1,h2,h3,h4⟩:=se w.params
  refine ⟨_,⟨o,es,ep,ht.1 _ _ h1,h2,fun e he=>?_,fun _=>rfl⟩,h4⟩
  have:=List.all_eq_true.mp h3 e (by simpa using he)
  unfold dY at this
  split at this
  ·exact ⟨_,_,by assumption⟩
  ·cases this
 ·obtain ⟨o,ho⟩:=Option.isSome_iff_exists.mp (yf w.params)
  have hlt:(1568:Nat)<s.heap.objs.size:=Heap.lt_size (ht.1 _ _ ho)
  exact Nat.le_trans (by decide) (Nat.le_of_lt hlt)
theorem cy (w:World) (h g:Nat→Nat):(BB w h g).Ok:=dG w _
theorem After.retell {B:Base} {S S':Spec} {s s':Shared} {bs ts ts':List Nat} (A:After B S s s' bs ts) (hm:S'.mu=S.mu) (hd:S'.dy=S.dy) (hp:S'.po [] ts'=S.po bs ts) (hb:S'.nb=0) (ht:ts'.length=S'.nt):After B S' s s' [] ts':=by
 refine ⟨A.top,fun a o h q=>?_,A.size,A.gens,A.os,fun j a o h1 h2=>?_,fun j a o h=>by simp at h,fun a h=>by simp at h,List.nodup_nil,hb.symm,ht⟩
 ·rw [hd]; exact A.keep a o h (hm▸q)
 ·rw [hd]; rw [hm] at h1; rw [hp] at h2; exact A.po j a o h1 h2
theorem RS.retell {B:Base} {D D':RS} (h:D.S.Holds B) (e1:D'.lv=D.lv) (e2:D'.sh=D.sh) (e3:D'.c=D.c) (e4:D'.cells=D.cells) (e5:D'.dy=D.dy) (e6:D'.di=D.di)
 (af:∀ s s' bs ts,After B D.S s s' bs ts→∃ bs' ts',After B D'.S s s' bs' ts'∧D'.r bs' ts'=D.r bs ts):D'.S.Holds B:=by
 intro Γ p s R ok k
 refine h Γ p s R ⟨?_,ok.hand,?_,?_,ok.top,fun q=>?_,fun x hx=>?_,?_⟩ fun s' bs ts A=>?_
 ·exact ok.code.trans e3
 ·have:=ok.fit; rw [show D'.S.sh=D.S.sh from e2] at this; exact this
 ·have:=ok.room; rw [show D'.S.lv=D.S.lv from e1] at this; exact this
 ·have:=ok.stk (show D'.dy=true from e5.trans q)
  rw [show D'.S.mu=D.S.mu from congrArg cA e4] at this
  exact this
 ·have:=ok.pre x (by rw [show D'.S.pre=D.S.pre from congrArg bX e4]; exact hx)
  rw [show D'.S.di=D.S.di from e6] at this
  exact this
 ·have:=ok.nd; rw [show D'.S.pre=D.S.pre from congrArg bX e4] at this; exact this
 ·obtain ⟨bs',ts',A',e⟩:=af s s' bs ts A
  have:=k s' bs' ts' A'
  rw [show D'.S.r bs' ts'=D'.r bs' ts' from rfl,e] at this
  exact this
noncomputable def a0 (X Y top d X' Y':Nat):Prop :=
 (0<X∧d=X % top∧X'=X / top∧Y'=Y)∨(X=0∧X'=0∧Y'=(Y * 39373+7) % 2147483647∧d=Y' * Y' % 2147483629 / 32 % top)
theorem a0.lt {X Y top d X' Y':Nat} (h:a0 X Y top d X' Y') (ht:0<top):d<top:=by
 rcases h with ⟨_,rfl,_⟩ | ⟨_,_,_,rfl⟩ <;> exact Nat.mod_lt _ ht
theorem a0.ex (X Y top:Nat):∃ d X' Y',a0 X Y top d X' Y':=by
 rcases Nat.eq_zero_or_pos X with h | h
 ·exact ⟨_,_,_,.inr ⟨h,rfl,rfl,rfl⟩⟩
 ·exact ⟨_,_,_,.inl ⟨h,rfl,rfl,rfl⟩⟩
theorem oZ {en:ST} (w:World) (h g:Nat→Nat) (neg:Bool) (a a' e e':Nat):(dS w.params h g neg false (.s false a e []) (.s false a' e' []) (!neg) []).S.Holds (B2 w en) :=
 Fc w h g neg false a a' e e' [] [] (!neg) [] true (by cases neg <;> rfl) (Nat.le_of_ble_eq_true (by kernel_rfl)) (.inl (.nil _ _ _ _ _)) fun x hx=>by rw [bU]; exact hx
theorem dh {l:List Nat} (h:l.length=2):∃ a b,l=[a,b]:=by
 match l,h with
 | [a,b],_=>exact ⟨a,b,rfl⟩
theorem fW {en:ST} (w:World) (h g:Nat→Nat) (s r e er X Y d X' Y' top tx ty tt:Nat) (hD:a0 X Y top d X' Y') (h0:0<top) (h1:top<1000):(ah w.params h g s r e er X Y d X' Y' (Int.ofNat top) tx ty tt).S.Holds (B2 w en):=by
 rcases hD with ⟨hX,rfl,rfl,rfl⟩ | ⟨rfl,rfl,hy,rfl⟩
 ·have H:=RS.done (dG w en) (.one (C9 w en h g s r e er X Y' top (X % top) (X / top) tx ty tt)) rfl (fun _ _=>rfl)
   (aP (fun A tk O ρs=>(oZ w h g true (A 1) (A 3) er 0).e) (aP (fun A tk O ρs=>(Gs w h g X tx (tk 4) true (decide_eq_true hX)).e)
    (aP (fun A tk O ρs=>(fc w h g X top (X % top) tx tt h0 rfl).e) (aP (fun A tk O ρs=>(Do w h g X top (X / top) tx tt h0 (by omega) rfl).e) ak))))
  refine RS.retell H rfl rfl rfl rfl rfl rfl fun s₀ s' bs ts A=>?_
  obtain ⟨a,b,rfl⟩:=dh A.lent
  exact ⟨[],[a,b,ty],A.retell rfl rfl rfl rfl rfl,rfl⟩
 ·have hy':Y'<2147483647:=hy▸Nat.mod_lt _ (by decide)
  have H:=RS.done (dG w en) (.one (DK w en h g s r e er Y top (Y * 39373) (Y * 39373+7) Y' (Y' * Y') (Y' * Y' % 2147483629) (Y' * Y' % 2147483629 / 32) (Y' * Y' % 2147483629 / 32 % top) tx ty tt)) rfl (fun _ _=>rfl)
   (aP (fun A tk O ρs=>(oZ w h g true (A 1) (A 3) er 0).e) (aP (fun A tk O ρs=>(gu w h g Y 39373 _ ty (tk 6) (by decide) rfl).e)
    (aP (fun A tk O ρs=>(p7 w h g (Y * 39373) 7 _ (tk 7) (tk 8) rfl).e) (aP (fun A tk O ρs=>(fc w h g (Y * 39373+7) 2147483647 Y' (tk 9) (tk 10) (by decide) hy).e)
    (aP (fun A tk O ρs=>(gu w h g Y' Y' _ (tk 11) (tk 11) (by omega) rfl).e)
    (aP (fun A tk O ρs=>(fc w h g (Y' * Y') 2147483629 _ (tk 15) (tk 16) (by decide) rfl).e) (aP (fun A tk O ρs=>(Do w h g (Y' * Y' % 2147483629) 32 _ (tk 17) (tk 18) (by decide) (by decide) rfl).e)
    (aP (fun A tk O ρs=>(fc w h g (Y' * Y' % 2147483629 / 32) top _ (tk 19) tt h0 rfl).e) ak))))))))
  refine RS.retell H rfl rfl rfl rfl rfl rfl fun s₀ s' bs ts A=>?_
  obtain ⟨a,b,rfl⟩:=dh A.lent
  exact ⟨[],[a,tx,b],A.retell rfl rfl rfl rfl rfl,rfl⟩
theorem qb (w:World) (h g:Nat→Nat) (s r e er th eh X Y d X' Y' tx ty:Nat) (v0 v1:Value) (hD:a0 X Y 2 d X' Y'):(aH w.params h g s r e er th eh X Y d X' Y' tx ty [v0,v1]).S.Holds (BB w h g):=by
 have H:=RS.done (cy w h g) (.one (sb w h g s r e er th eh X Y d X' Y' tx ty v0 v1)) rfl (fun _ _=>rfl)
  (aP (fun A tk O ρs=>(fW w h g (A 0) (A 1) e er X Y d X' Y' 2 tx ty (tk 3) hD (by decide) (by decide)).e) (aP (fun A tk O ρs=>(kD w h g (A 2) eh d (tk 4) [v0,v1] (hD.lt (by decide)) (Nat.le_of_ble_eq_true rfl)).e) ak))
 refine RS.retell H rfl rfl rfl rfl rfl rfl fun s₀ s' bs ts A=>?_
 obtain ⟨a,b,rfl⟩:=dh A.lent
 exact ⟨[],[a,b],A.retell rfl rfl rfl rfl rfl,rfl⟩
theorem wh (w:World) (h g:Nat→Nat) (s r e er th eh X Y d X' Y' tx ty:Nat) (v0 v1 v2:Value) (hD:a0 X Y 3 d X' Y'):(aH w.params h g s r e er th eh X Y d X' Y' tx ty [v0,v1,v2]).S.Holds (BB w h g):=by
 have H:=RS.done (cy w h g) (.one (ue w h g s r e er th eh X Y d X' Y' tx ty v0 v1 v2)) rfl (fun _ _=>rfl)
  (aP (fun A tk O ρs=>(fW w h g (A 0) (A 1) e er X Y d X' Y' 3 tx ty (tk 3) hD (by decide) (by decide)).e) (aP (fun A tk O ρs=>(kD w h g (A 2) eh d (tk 4) [v0,v1,v2] (hD.lt (by decide)) (Nat.le_of_ble_eq_true rfl)).e) ak))
 refine RS.retell H rfl rfl rfl rfl rfl rfl fun s₀ s' bs ts A=>?_
 obtain ⟨a,b,rfl⟩:=dh A.lent
 exact ⟨[],[a,b],A.retell rfl rfl rfl rfl rfl,rfl⟩
theorem qW (w:World) (h g:Nat→Nat) (s r e er th eh X Y d X' Y' tx ty:Nat) (v0 v1 v2 v3:Value) (hD:a0 X Y 4 d X' Y'):(aH w.params h g s r e er th eh X Y d X' Y' tx ty [v0,v1,v2,v3]).S.Holds (BB w h g):=by
 have H:=RS.done (cy w h g) (.one (uF w h g s r e er th eh X Y d X' Y' tx ty v0 v1 v2 v3)) rfl (fun _ _=>rfl)
  (aP (fun A tk O ρs=>(fW w h g (A 0) (A 1) e er X Y d X' Y' 4 tx ty (tk 3) hD (by decide) (by decide)).e) (aP (fun A tk O ρs=>(kD w h g (A 2) eh d (tk 4) [v0,v1,v2,v3] (hD.lt (by decide)) (Nat.le_of_ble_eq_true rfl)).e) ak))
 refine RS.retell H rfl rfl rfl rfl rfl rfl fun s₀ s' bs ts A=>?_
 obtain ⟨a,b,rfl⟩:=dh A.lent
 exact ⟨[],[a,b],A.retell rfl rfl rfl rfl rfl,rfl⟩
theorem wC (w:World) (h g:Nat→Nat) (s r e er th eh X Y d X' Y' tx ty:Nat) (v0 v1 v2 v3 v4:Value) (hD:a0 X Y 5 d X' Y'):(aH w.params h g s r e er th eh X Y d X' Y' tx ty [v0,v1,v2,v3,v4]).S.Holds (BB w h g):=by
 have H:=RS.done (cy w h g) (.one (uz w h g s r e er th eh X Y d X' Y' tx ty v0 v1 v2 v3 v4)) rfl (fun _ _=>rfl)
  (aP (fun A tk O ρs=>(fW w h g (A 0) (A 1) e er X Y d X' Y' 5 tx ty (tk 3) hD (by decide) (by decide)).e) (aP (fun A tk O ρs=>(kD w h g (A 2) eh d (tk 4) [v0,v1,v2,v3,v4] (hD.lt (by decide)) (Nat.le_of_ble_eq_true rfl)).e) ak))
 refine RS.retell H rfl rfl rfl rfl rfl rfl fun s₀ s' bs ts A=>?_
 obtain ⟨a,b,rfl⟩:=dh A.lent
 exact ⟨[],[a,b],A.retell rfl rfl rfl rfl rfl,rfl⟩
theorem yz (w:World) (h g:Nat→Nat) (s r e er th eh X Y d X' Y' tx ty:Nat) (v0 v1 v2 v3 v4 v5 v6 v7:Value) (hD:a0 X Y 8 d X' Y'):(aH w.params h g s r e er th eh X Y d X' Y' tx ty [v0,v1,v2,v3,v4,v5,v6,v7]).S.Holds (BB w h g):=by
 have H:=RS.done (cy w h g) (.one (rF w h g s r e er th eh X Y d X' Y' tx ty v0 v1 v2 v3 v4 v5 v6 v7)) rfl (fun _ _=>rfl)
  (aP (fun A tk O ρs=>(fW w h g (A 0) (A 1) e er X Y d X' Y' 8 tx ty (tk 3) hD (by decide) (by decide)).e) (aP (fun A tk O ρs=>(kD w h g (A 2) eh d (tk 4) [v0,v1,v2,v3,v4,v5,v6,v7] (hD.lt (by decide)) (Nat.le_of_ble_eq_true rfl)).e) ak))
 refine RS.retell H rfl rfl rfl rfl rfl rfl fun s₀ s' bs ts A=>?_
 obtain ⟨a,b,rfl⟩:=dh A.lent
 exact ⟨[],[a,b],A.retell rfl rfl rfl rfl rfl,rfl⟩
theorem mF {w:World} {h g:Nat→Nat} {s r e er th eh X Y d X' Y' tx ty:Nat} {l:List Value} {v:Value} (H:(aH w.params h g s r e er th eh X Y d X' Y' tx ty l).S.Holds (BB w h g)) (hv:v=fp l d):(jc w.params h g s r e er th eh X Y d X' Y' tx ty l v).S.Holds (BB w h g):=by
 subst hv
 exact H
theorem ws (w:World) (h g:Nat→Nat) (s r e er th eh X Y d X' Y' tx ty:Nat) (b0 b1 b2 b3:Array UInt8) (t0 t1 t2 t3:Nat) (hD:a0 X Y 4 d X' Y'):(ay w.params h g s r e er th eh X Y d X' Y' tx ty b0 b1 b2 b3 t0 t1 t2 t3).S.Holds (BB w h g) :=
 mF (qW w h g s r e er th eh X Y d X' Y' tx ty _ _ _ _ hD) (by
  have hl:=hD.lt (by decide)
  match d,hl with
  | 0,_=>rfl
  | 1,_=>rfl
  | 2,_=>rfl
  | 3,_=>rfl)
theorem xZ (w:World) (h g:Nat→Nat) (s r e er th eh X Y d X' Y' tx ty:Nat) (b0 b1:Array UInt8) (t0 t1:Nat) (hD:a0 X Y 2 d X' Y'):(bS w.params h g s r e er th eh X Y d X' Y' tx ty b0 b1 t0 t1).S.Holds (BB w h g) :=
 mF (qb w h g s r e er th eh X Y d X' Y' tx ty _ _ hD) (by
  have hl:=hD.lt (by decide)
  match d,hl with
  | 0,_=>rfl
  | 1,_=>rfl)
theorem y6 (w:World) (h g:Nat→Nat) (s r e er th eh X Y d X' Y' tx ty:Nat) (b0 b1 b2 b3 b4:Int) (t0 t1 t2 t3 t4:Nat) (hD:a0 X Y 5 d X' Y'):(aA w.params h g s r e er th eh X Y d X' Y' tx ty b0 b1 b2 b3 b4 t0 t1 t2 t3 t4).S.Holds (BB w h g) :=
 mF (wC w h g s r e er th eh X Y d X' Y' tx ty _ _ _ _ _ hD) (by
  have hl:=hD.lt (by decide)
  match d,hl with
  | 0,_=>rfl
  | 1,_=>rfl
  | 2,_=>rfl
  | 3,_=>rfl
  | 4,_=>rfl)
theorem wq (w:World) (h g:Nat→Nat) (s r e er th eh X Y d X' Y' tx ty:Nat) (b0 b1 b2 b3:Str) (t0 t1 t2 t3:Nat) (hD:a0 X Y 4 d X' Y'):(az w.params h g s r e er th eh X Y d X' Y' tx ty b0 b1 b2 b3 t0 t1 t2 t3).S.Holds (BB w h g) :=
 mF (qW w h g s r e er th eh X Y d X' Y' tx ty _ _ _ _ hD) (by
  have hl:=hD.lt (by decide)
  match d,hl with
  | 0,_=>rfl
  | 1,_=>rfl
  | 2,_=>rfl
  | 3,_=>rfl)
end
section
open PySem.SeqAt
theorem je {w:World} {h g:Nat→Nat} {t:Nat}:(aN w.params h g Ez t).S.Holds (BB w h g):=bL _ _ _ _ _ (by kernel_rfl)
theorem jQ {w:World} {h g:Nat→Nat} {t:Nat}:(aN w.params h g Qr t).S.Holds (BB w h g):=bL _ _ _ _ _ (by kernel_rfl)
theorem iY {w:World} {h g:Nat→Nat} {t:Nat}:(aN w.params h g Qm t).S.Holds (BB w h g):=bL _ _ _ _ _ (by kernel_rfl)
theorem ou {w:World} {h g:Nat→Nat} {t:Nat}:(aN w.params h g Et t).S.Holds (BB w h g):=bL _ _ _ _ _ (by kernel_rfl)
theorem nq {w:World} {h g:Nat→Nat} {t:Nat}:(aN w.params h g Ey t).S.Holds (BB w h g):=bL _ _ _ _ _ (by kernel_rfl)
theorem iu {w:World} {h g:Nat→Nat} {t:Nat}:(aN w.params h g Ex t).S.Holds (BB w h g):=bL _ _ _ _ _ (by kernel_rfl)
theorem mU {w:World} {h g:Nat→Nat} {t:Nat}:(aN w.params h g Qh t).S.Holds (BB w h g):=bL _ _ _ _ _ (by kernel_rfl)
theorem gN {w:World} {h g:Nat→Nat} {t:Nat}:(aN w.params h g Qu t).S.Holds (BB w h g):=bL _ _ _ _ _ (by kernel_rfl)
theorem mT {w:World} {h g:Nat→Nat} {t:Nat}:(aN w.params h g Qq t).S.Holds (BB w h g):=bL _ _ _ _ _ (by kernel_rfl)
theorem gQ {w:World} {h g:Nat→Nat} {t:Nat}:(aN w.params h g EC t).S.Holds (BB w h g):=bL _ _ _ _ _ (by kernel_rfl)
theorem j3 {w:World} {h g:Nat→Nat} {t:Nat}:(aN w.params h g Ca t).S.Holds (BB w h g):=bL _ _ _ _ _ (by kernel_rfl)
theorem jv {w:World} {h g:Nat→Nat} {t:Nat}:(aN w.params h g Dh t).S.Holds (BB w h g):=bL _ _ _ _ _ (by kernel_rfl)
theorem ji {w:World} {h g:Nat→Nat} {t:Nat}:(aN w.params h g Qs t).S.Holds (BB w h g):=bL _ _ _ _ _ (by kernel_rfl)
theorem jm {w:World} {h g:Nat→Nat} {t:Nat}:(aN w.params h g Qv t).S.Holds (BB w h g):=bL _ _ _ _ _ (by kernel_rfl)
theorem nu {w:World} {h g:Nat→Nat} {t:Nat}:(aN w.params h g Qj t).S.Holds (BB w h g):=bL _ _ _ _ _ (by kernel_rfl)
theorem kU {w:World} {h g:Nat→Nat} {t:Nat}:(aN w.params h g Qz t).S.Holds (BB w h g):=bL _ _ _ _ _ (by kernel_rfl)
theorem n5 {w:World} {h g:Nat→Nat} {t:Nat}:(dM w.params h g Q2 t).S.Holds (BB w h g):=m4 _ _ _ _ _ (by kernel_rfl)
theorem p1 {w:World} {h g:Nat→Nat} {t:Nat}:(dM w.params h g Q0 t).S.Holds (BB w h g):=m4 _ _ _ _ _ (by kernel_rfl)
theorem lc {w:World} {h g:Nat→Nat} {t:Nat}:(dM w.params h g Q4 t).S.Holds (BB w h g):=m4 _ _ _ _ _ (by kernel_rfl)
theorem nG {w:World} {h g:Nat→Nat} {t:Nat}:(dM w.params h g Q3 t).S.Holds (BB w h g):=m4 _ _ _ _ _ (by kernel_rfl)
theorem C8 {w:World} {h g:Nat→Nat} {t:Nat}:(bT w.params h g ⟨#[33,61]⟩ t).S.Holds (BB w h g):=fC _ _ _ _ _ (by kernel_rfl)
theorem Cw {w:World} {h g:Nat→Nat} {t:Nat}:(bT w.params h g ⟨#[42]⟩ t).S.Holds (BB w h g):=fC _ _ _ _ _ (by kernel_rfl)
theorem AX {w:World} {h g:Nat→Nat} {t:Nat}:(bT w.params h g ⟨#[43]⟩ t).S.Holds (BB w h g):=fC _ _ _ _ _ (by kernel_rfl)
theorem Ax {w:World} {h g:Nat→Nat} {t:Nat}:(bT w.params h g ⟨#[45]⟩ t).S.Holds (BB w h g):=fC _ _ _ _ _ (by kernel_rfl)
theorem DJ {w:World} {h g:Nat→Nat} {t:Nat}:(bT w.params h g ⟨#[60]⟩ t).S.Holds (BB w h g):=fC _ _ _ _ _ (by kernel_rfl)
theorem Ed {w:World} {h g:Nat→Nat} {t:Nat}:(bT w.params h g ⟨#[61,61]⟩ t).S.Holds (BB w h g):=fC _ _ _ _ _ (by kernel_rfl)
theorem Ee {w:World} {h g:Nat→Nat} {t:Nat}:(bT w.params h g Qy t).S.Holds (BB w h g):=fC _ _ _ _ _ (by kernel_rfl)
theorem Ag {w:World} {h g:Nat→Nat} {t:Nat}:(fY w.params h g ⟨#[42]⟩ t).S.Holds (BB w h g):=pF _ _ _ _ _ (by kernel_rfl)
theorem Dk {w:World} {h g:Nat→Nat} {t:Nat}:(fY w.params h g ⟨#[43]⟩ t).S.Holds (BB w h g):=pF _ _ _ _ _ (by kernel_rfl)
theorem AC {w:World} {h g:Nat→Nat} {t:Nat}:(fY w.params h g ⟨#[45]⟩ t).S.Holds (BB w h g):=pF _ _ _ _ _ (by kernel_rfl)
theorem BO {w:World} {h g:Nat→Nat} {t:Nat}:(pe w.params h g Q1 t).S.Holds (BB w h g):=DC _ _ _ _ _ (by kernel_rfl)
theorem DU {w:World} {h g:Nat→Nat} {d t1 t2 t:Nat} {v1 v2:Value}:(D7 w.params h g d Q1 Qd t1 t2 v1 v2 Q1 t).S.Holds (BB w h g):=Ge _ _ _ _ _ _ _ _ _ _ _ _ (by kernel_rfl)
theorem AV {w:World} {h g:Nat→Nat} {d t1 t2 t:Nat} {v1 v2:Value}:(D7 w.params h g d Q1 Qd t1 t2 v1 v2 Qd t).S.Holds (BB w h g):=Ge _ _ _ _ _ _ _ _ _ _ _ _ (by kernel_rfl)
theorem vH {w:World} {h g:Nat→Nat} {n:Nat} {K:List (Nat × Value)} {t:Nat} {v:Value} (hK:ag K=n) (hn:n≤1000):(mm w.params h g n K t v).S.Holds (BB w h g):=D4 _ _ _ _ _ _ _ hK hn
theorem aX {w:World} {h g:Nat→Nat} {n:Nat} {K:List (Nat × Value)} {x:Nat × Value} {t:Nat} (hK:ag K=n):(aU w.params h g n K x t).S.Holds (BB w h g):=BK _ _ _ _ _ _ _ hK
theorem aW {w:World} {h g:Nat→Nat} {n:Nat} {K:List (Nat × Value)} {x:Nat × Value} {t:Nat} (hK:ag K=n):(aT w.params h g n K x t).S.Holds (BB w h g):=Cr _ _ _ _ _ _ _ hK
theorem yg {n:Nat} {K:List (Nat × Value)} {x:Nat × Value} (hK:ag K=n):ag (x::K)=n+1:=congrArg (·+1) hK
theorem wv {w:World} {h g:Nat→Nat} {i:Int} {t t2:Nat} {s:Str}:(lN w.params h g i t t2 s).S.Holds (BB w h g):=xg _ _ _ _ _ _ _
theorem C4 {w:World} {h g:Nat→Nat} {en e:Nat}:(jL w.params h g en e).S.Holds (BB w h g):=Ap _ _ _ _ _
theorem EP {w:World} {h g:Nat→Nat} {en mk t1 t2:Nat} {k:Int}:(sP w.params h g en mk t1 t2 k).S.Holds (BB w h g):=FA _ _ _ _ _ _ _ _
theorem F6 {w:World} {h g:Nat→Nat} {en mk t1 t2:Nat} {k:Int} {v:Value}:(tI w.params h g en mk t1 t2 k v).S.Holds (BB w h g):=EV _ _ _ _ _ _ _ _ _
theorem ES {w:World} {h g:Nat→Nat} {en mk t1 t2 mk' t1' t2':Nat} {k:Int} {v:Value}:(s7 w.params h g en mk t1 t2 mk' t1' t2' k v).S.Holds (BB w h g):=EW _ _ _ _ _ _ _ _ _ _ _ _
theorem Fl {w:World} {h g:Nat→Nat} {en mk t1 t2 mk' t1' t2':Nat} {k k':Int} {v:Value} (hne:k≠k'):(tG w.params h g en mk t1 t2 mk' t1' t2' k k' v).S.Holds (BB w h g):=Fo _ _ _ _ _ _ _ _ _ _ _ _ _ hne
theorem FE {w:World} {h g:Nat→Nat} {en mk t1 t2 mk' t1' t2':Nat} {k:Int} {v:Value}:(ub w.params h g en mk t1 t2 mk' t1' t2' k v).S.Holds (BB w h g):=F5 _ _ _ _ _ _ _ _ _ _ _ _
theorem eI {i:Int} {t u:Nat}:EqD (.v (.int i t)) (.v (.int i u)) true:=.int _ _ _ _ _ (decide_eq_true rfl)
theorem qF {i:Str} {t u:Nat}:EqD (.v (.str i t)) (.v (.str i u)) true:=.str _ _ _ _ _ (beq_self_eq_true _)
theorem eB {i:Array UInt8} {t u:Nat}:EqD (.v (.bytes i t)) (.v (.bytes i u)) true:=.bytes _ _ _ _ _ (beq_self_eq_true _)
theorem eN {k:Bool} {a a' e e':Nat}:EqD (.s k a e []) (.s k a' e' []) true:=.nil _ _ _ _ _
theorem eO {k:Bool} {a a' e e':Nat} {x y:DT} {l l':List DT} {b:Bool} (h1:EqD x y true) (h2:EqD (.s k a e l) (.s k a' e' l') b):EqD (.s k a e (x::l)) (.s k a' e' (y::l')) b:=.one _ _ _ _ _ _ _ _ _ _ h1 h2
theorem eF {k:Bool} {a a' e e':Nat} {x y:DT} {l l':List DT} {b:Bool} (h1:EqD x y false) (h2:EqD (.s k a e l) (.s k a' e' l') b):EqD (.s k a e (x::l)) (.s k a' e' (y::l')) false:=.off _ _ _ _ _ _ _ _ _ _ h1 h2
theorem j1 {l:List Cell}:∀ x,x∈l→x∈bo [] 0 l:=fun x hx=>by rw [bU]; exact hx
theorem Az {a b c d e:Cell}:∀ x,x∈[a,b,c,d,e,e]→x∈bo [5] 0 [a,b,c,d,e,e]:=fun x hx=>by
 show x∈[a,b,c,d,e]
 simp only [List.mem_cons,List.not_mem_nil,or_false] at hx ⊢
 rcases hx with h | h | h | h | h | h <;> simp [h]
theorem Em {a:Cell}:∀ x,x∈[a,a]→x∈bo [1] 0 [a,a]:=fun x hx=>by
 show x∈[a]
 simp only [List.mem_cons,List.not_mem_nil,or_false] at hx ⊢
 rcases hx with h | h <;> simp [h]
theorem gT {en:ST} {w:World} {h g:Nat→Nat} {neg k:Bool} {a a' e e':Nat} {l l':List DT} {b:Bool} {dr:List Nat} (c:Bool) (hb:b=(if neg then !c else c)) (hdep:(DT.s k a e l).dep≤50)
 (hq:EqD (.s k a e l) (.s k a' e' l') c∨(c=false∧EqP l l')) (hd:∀ x,x∈(DT.s k a e l).cells ++ (DT.s k a' e' l').cells→x∈bo dr 0 ((DT.s k a e l).cells ++ (DT.s k a' e' l').cells)) :
 (dS w.params h g neg k (.s k a e l) (.s k a' e' l') b dr).S.Holds (B2 w en):=Fc w h g neg k a a' e e' l l' b dr c hb hdep hq hd
theorem A5 {w:World} {h g:Nat→Nat} {a b e e':Nat} {l m:List Value} (hl:cz l) (hm:cz m):(vQ w.params h g a b e e' l m).S.Holds (BB w h g):=GF _ _ _ _ _ _ _ _ _ hl hm
theorem wR {w:World} {h g:Nat→Nat} {a b n n':Nat} {l m:List Value} (hlen:l.length+m.length≤1000) (hm:0<m.length):(jb w.params h g a b n n' l m).S.Holds (BB w h g):=FH _ _ _ _ _ _ _ _ _ hlen hm
theorem ao {en:ST} {w:World} {h g:Nat→Nat} {s r e er X Y d X' Y' top tx ty tt:Nat} (hD:a0 X Y top d X' Y') (h0:0<top) (h1:top<1000):(ah w.params h g s r e er X Y d X' Y' (Int.ofNat top) tx ty tt).S.Holds (B2 w en):=fW _ _ _ _ _ _ _ _ _ _ _ _ _ _ _ _ hD h0 h1
theorem cE {w:World} {h g:Nat→Nat} {s r e er th eh X Y d X' Y' tx ty:Nat} {v0 v1:Value} (hD:a0 X Y 2 d X' Y'):(aH w.params h g s r e er th eh X Y d X' Y' tx ty [v0,v1]).S.Holds (BB w h g):=qb _ _ _ _ _ _ _ _ _ _ _ _ _ _ _ _ _ _ hD
theorem aI {w:World} {h g:Nat→Nat} {s r e er th eh X Y d X' Y' tx ty:Nat} {v0 v1 v2:Value} (hD:a0 X Y 3 d X' Y'):(aH w.params h g s r e er th eh X Y d X' Y' tx ty [v0,v1,v2]).S.Holds (BB w h g):=wh _ _ _ _ _ _ _ _ _ _ _ _ _ _ _ _ _ _ _ hD
theorem cC {w:World} {h g:Nat→Nat} {s r e er th eh X Y d X' Y' tx ty:Nat} {v0 v1 v2 v3 v4 v5 v6 v7:Value} (hD:a0 X Y 8 d X' Y'):(aH w.params h g s r e er th eh X Y d X' Y' tx ty [v0,v1,v2,v3,v4,v5,v6,v7]).S.Holds (BB w h g):=yz _ _ _ _ _ _ _ _ _ _ _ _ _ _ _ _ _ _ _ _ _ _ _ _ hD
theorem aD {w:World} {h g:Nat→Nat} {s r e er th eh X Y d X' Y' tx ty:Nat} {b0 b1 b2 b3:Array UInt8} {t0 t1 t2 t3:Nat} (hD:a0 X Y 4 d X' Y'):(ay w.params h g s r e er th eh X Y d X' Y' tx ty b0 b1 b2 b3 t0 t1 t2 t3).S.Holds (BB w h g):=ws _ _ _ _ _ _ _ _ _ _ _ _ _ _ _ _ _ _ _ _ _ _ _ _ hD
theorem cx {w:World} {h g:Nat→Nat} {s r e er th eh X Y d X' Y' tx ty:Nat} {b0 b1:Array UInt8} {t0 t1:Nat} (hD:a0 X Y 2 d X' Y'):(bS w.params h g s r e er th eh X Y d X' Y' tx ty b0 b1 t0 t1).S.Holds (BB w h g):=xZ _ _ _ _ _ _ _ _ _ _ _ _ _ _ _ _ _ _ _ _ hD
theorem aB {w:World} {h g:Nat→Nat} {s r e er th eh X Y d X' Y' tx ty:Nat} {b0 b1 b2 b3 b4:Int} {t0 t1 t2 t3 t4:Nat} (hD:a0 X Y 5 d X' Y'):(aA w.params h g s r e er th eh X Y d X' Y' tx ty b0 b1 b2 b3 b4 t0 t1 t2 t3 t4).S.Holds (BB w h g):=y6 _ _ _ _ _ _ _ _ _ _ _ _ _ _ _ _ _ _ _ _ _ _ _ _ _ _ hD
theorem aC {w:World} {h g:Nat→Nat} {s r e er th eh X Y d X' Y' tx ty:Nat} {b0 b1 b2 b3:Str} {t0 t1 t2 t3:Nat} (hD:a0 X Y 4 d X' Y'):(az w.params h g s r e er th eh X Y d X' Y' tx ty b0 b1 b2 b3 t0 t1 t2 t3).S.Holds (BB w h g):=wq _ _ _ _ _ _ _ _ _ _ _ _ _ _ _ _ _ _ _ _ _ _ _ _ hD
end
section
open PySem.SeqAt
theorem mG {B:Base} {D:RS} {po:List Obj} {bx tx:List Nat} {po':List Nat→List Nat→(Nat→Obj)→(Nat→Post)→List Obj} {nw:List Nat→List Nat→List Obj} {r:List Nat→List Nat→Result} {Γ:Ctx} {s:Shared}
 (h:((D.open po).S).Ok B Γ s):((D.finO bx tx po' nw r).S).Ok B Γ s:=⟨h.code,h.hand,h.fit,h.room,h.top,h.stk,h.pre,h.nd⟩
theorem DS {B:Base} (O:B.Ok) {D:RS} {us:List Use} {bx tx:List Nat} {po:List Nat→List Nat→(Nat→Obj)→(Nat→Post)→List Obj} {nw:List Nat→List Nat→List Obj} {r:List Nat→List Nat→Result} {j:Nat} {l:Post→List Obj}
 {lb:List LibE} (hlb:∀ e:LibE,e∈lb→∀ c cs ms,(e.S c cs ms).Holds B) (H:(D.finO bx tx po nw r).RunL B lb us) (htl:D.tl=some j) (hr:∀ b t,r b t=ok (.bool true)) (he:∀ ob q b t,∃ ρ,l ρ=po b t ob q) (hus:cp B us):Spec.HoldsT B j (fun ρ=>(D.open (l ρ)).S) :=
 RS.holdsTL (D:=D.finO bx tx po nw r) O hlb hus.all htl H _ (fun _ _ _ h=>mG h) fun ob q s s' bs ts A=>by
  obtain ⟨ρ,e⟩:=he ob q bs ts
  exact ⟨ρ,[],[],A.retell rfl rfl e rfl rfl,(hr bs ts).symm⟩
theorem Dd {B:Base} (O:B.Ok) {D:RS} {us:List Use} {bx tx:List Nat} {po:List Nat→List Nat→(Nat→Obj)→(Nat→Post)→List Obj} {nw:List Nat→List Nat→List Obj} {r:List Nat→List Nat→Result} {l:Post→List Obj}
 {lb:List LibE} (hlb:∀ e:LibE,e∈lb→∀ c cs ms,(e.S c cs ms).Holds B) (H:(D.finO bx tx po nw r).RunL B lb us) (htl:D.tl=none) (hr:∀ b t,r b t=ok (.bool true)) (he:∀ ob q b t,∃ ρ,l ρ=po b t ob q) (hus:cp B us):Spec.HoldsE B (fun ρ=>(D.open (l ρ)).S) :=
 RS.holdsEL (D:=D.finO bx tx po nw r) O hlb hus.all htl H _ (fun _ _ _ h=>mG h) fun ob q s s' bs ts A=>by
  obtain ⟨ρ,e⟩:=he ob q bs ts
  exact ⟨ρ,[],[],A.retell rfl rfl e rfl rfl,(hr bs ts).symm⟩
theorem ma {b:Nat} {K:List (Nat × Value)} (h:ag K≤b):aE b K=K:=by
 unfold aE
 rw [Nat.ble_eq_true_of_le h]
theorem du (b:Nat) (K:List (Nat × Value)):ag (aE b K)≤b:=by
 unfold aE
 cases h:Nat.ble (ag K) b with
 | true=>exact Nat.le_of_ble_eq_true h
 | false=>exact Nat.zero_le _
noncomputable def FW (a b c:Nat):Nat→Nat
 | 0=>a
 | 1=>b
 | _=>c
theorem FL {P:Params} {h g:Nat→Nat} {n X Y t0 t1 t2 r m:Nat} {o:Obj} {R F:V7} {K':List (Nat × Value)} (hm:ag K'=m) (hb:m≤n+2) :
 ∃ ρ:Post,[ρ.o 0,bO 0 ρ.X (ym ρ.Y) (ρ.t 0) (ρ.t 1) r,oL 0 ρ.R.l,oL 7 ρ.F.l,(bP P h g true (ag (aE (n+2) ρ.K)) (ρ.t 2)).o,oK (ag (aE (n+2) ρ.K)) (aE (n+2) ρ.K)]=[o,bO 0 X Y t0 t1 r,oL 0 R.l,oL 7 F.l,(bP P h g true m t2).o,oK m K'] :=
 ⟨⟨X,Y,0,R,F,K',FW t0 t1 t2,fun _=>o⟩,by
  have e:aE (n+2) K'=K':=ma (hm▸hb)
  show [o,bO 0 X Y t0 t1 r,oL 0 R.l,oL 7 F.l,(bP P h g true (ag (aE (n+2) K')) t2).o,oK (ag (aE (n+2) K')) (aE (n+2) K')]=_
  rw [e,hm]⟩
theorem B0 {α:Type} {a b:α} {l m:List α} (h:a::l=b::m):l=m:=(List.cons.inj h).2
theorem Gz {P:Params} {h g:Nat→Nat} {n X Y t0 t1 t2 r m:Nat} {R F:V7} {K':List (Nat × Value)} (hm:ag K'=m) (hb:m≤n+2) :
 ∃ ρ:Post,[bO 0 ρ.X (ym ρ.Y) (ρ.t 0) (ρ.t 1) r,oL 0 ρ.R.l,oL 7 ρ.F.l,(bP P h g true (ag (aE (n+2) ρ.K)) (ρ.t 2)).o,oK (ag (aE (n+2) ρ.K)) (aE (n+2) ρ.K)]=[bO 0 X Y t0 t1 r,oL 0 R.l,oL 7 F.l,(bP P h g true m t2).o,oK m K'] :=
 let ⟨ρ,e⟩:=FL (P:=P) (h:=h) (g:=g) (X:=X) (Y:=Y) (t0:=t0) (t1:=t1) (t2:=t2) (r:=r) (R:=R) (F:=F) (o:=BH 0) hm hb
 ⟨ρ,B0 e⟩
theorem Gm {P:Params} {h g:Nat→Nat} {n t2 m:Nat} {o:Obj} {R F:V7} {K':List (Nat × Value)} (hm:ag K'=m) (hb:m≤n+2) :
 ∃ ρ:Post,[ρ.o 0,oL 0 ρ.R.l,oL 7 ρ.F.l,(bP P h g true (ag (aE (n+2) ρ.K)) (ρ.t 2)).o,oK (ag (aE (n+2) ρ.K)) (aE (n+2) ρ.K)]=[o,oL 0 R.l,oL 7 F.l,(bP P h g true m t2).o,oK m K'] :=
 ⟨⟨0,0,0,R,F,K',fun _=>t2,fun _=>o⟩,by
  have e:aE (n+2) K'=K':=ma (hm▸hb)
  show [o,oL 0 R.l,oL 7 F.l,(bP P h g true (ag (aE (n+2) K')) t2).o,oK (ag (aE (n+2) K')) (aE (n+2) K')]=_
  rw [e,hm]⟩
theorem Gv {X Y t0 t1 r:Nat} {o:Obj} {R F:V7}:∃ ρ:Post,[ρ.o 0,bO 0 ρ.X (ym ρ.Y) (ρ.t 0) (ρ.t 1) r,oL 0 ρ.R.l,oL 7 ρ.F.l]=[o,bO 0 X Y t0 t1 r,oL 0 R.l,oL 7 F.l] :=
 ⟨⟨X,Y,0,R,F,[],FW t0 t1 0,fun _=>o⟩,rfl⟩
end
section
open PySem.SeqAt
noncomputable def gc (l:List Cell) (i:Nat):Cell:=match l with
 | []=>⟨false,0,BH 0⟩
 | c::l=>match i with
  | 0=>c
  | i+1=>gc l i
noncomputable def ad (l:List Cell) (i:Nat):Nat:=(gc l i).a
noncomputable def ob (l:List Cell) (i:Nat):Obj:=(gc l i).o
noncomputable def it (l:List Cell) (j i:Nat):Value:=fp (bK (ob l j)) i
noncomputable def ar (c:Code) (i:Nat):Value:=match c with
 | .call _ a=>fp a.pos i
 | _=>.none
noncomputable def vr (v:Value):Nat:=match v with
 | .ref a=>a
 | _=>0
noncomputable def vt (v:Value):Nat:=match v with
 | .int _ t=>t
 | .str _ t=>t
 | .bytes _ t=>t
 | _=>0
noncomputable def vi (v:Value):Int:=match v with
 | .int i _=>i
 | _=>0
noncomputable def vs (v:Value):Str:=match v with
 | .str s _=>s
 | _=>Str.empty
noncomputable def vb (v:Value):Array UInt8:=match v with
 | .bytes b _=>b
 | _=>#[]
noncomputable def vo (v:Value):Bool:=match v with
 | .bool b=>b
 | _=>false
noncomputable def E9 (l:List DictEntry) (i:Nat):DictEntry:=match l with
 | []=>⟨0,.none,.none⟩
 | e::l=>match i with
  | 0=>e
  | i+1=>E9 l i
noncomputable def de (l:List Cell) (j i:Nat):DictEntry:=E9 (match (ob l j).data with | .dict es _=>es.toList | _=>[]) i
noncomputable def dn (l:List Cell) (j:Nat):Nat:=match (ob l j).data with | .dict _ n=>n | .seq _ n=>n | _=>0
noncomputable def ef (c:Code):Nat:=match c with
 | .compStart _ _ _ _ env=>match env.frame with
  | some f=>f
  | none=>0
 | _=>0
noncomputable def gq (B:Base):List LibE→Prop
 | []=>True
 | e::l=>(∀ c cs ms,(e.S c cs ms).Holds B)∧gq B l
theorem gq.all {B:Base}:∀ {l:List LibE},gq B l→∀ e:LibE,e∈l→∀ c cs ms,(e.S c cs ms).Holds B
 | [],_,_,h=>absurd h List.not_mem_nil
 | x::l,k,e,h=>by
  rcases List.mem_cons.mp h with rfl | h
  ·exact k.1
  ·exact gq.all k.2 e h
theorem gq.app {B:Base}:∀ {l m:List LibE},gq B l→gq B m→gq B (l ++ m)
 | [],_,_,k=>k
 | x::l,_,h,k=>⟨h.1,gq.app h.2 k⟩
theorem tY (s s1 s2:Str) (t1 t2:Nat):[Value.str s1 t1,.str s2 t2].any (dB s)=fg s [s1,s2]:=by
 have q:∀ x:Str,PySem.W.Fast.lEq s.cps.toList x.cps.toList=(x == s):=fun x=>by
  by_cases e:x=s
  ·subst e; rw [beq_self_eq_true]; exact PySem.W.Fast.lEq_iff.mpr rfl
  ·rw [beq_eq_false_iff_ne.mpr e]
   cases z:PySem.W.Fast.lEq s.cps.toList x.cps.toList with
   | false=>rfl
   | true =>
    refine absurd ?_ e
    have:=PySem.W.Fast.lEq_iff.mp z
    obtain ⟨⟨a⟩⟩:=s
    obtain ⟨⟨b⟩⟩:=x
    have:a=b:=this
    rw [this]
 simp only [List.any_cons,List.any_nil,Bool.or_false,fg,dB,q]
 cases (s1 == s) <;> cases (s2 == s) <;> rfl
noncomputable def FV (x y:Value):Value:=match x with
 | .int i _=>.int i (vt y)
 | .str s _=>.str s (vt y)
 | .bytes b _=>.bytes b (vt y)
 | x=>x
structure EqR where
 X:DT
 Y:DT
 b:Bool
 L:List Cell
 ms:List Nat
 cs:List Cell
structure EqL where
 X:List DT
 Y:List DT
 b:Bool
 L:List Cell
 ms:List Nat
 cs:List Cell
noncomputable def lf (l:List Value):List DT:=match l with
 | []=>[]
 | v::l=>.v v::lf l
noncomputable def sE (x y:Value) (ms:List Nat) (cs:List Cell):EqR:=⟨.v x,.v (FV x y),true,[],ms,cs⟩
noncomputable def dE (x y:Value) (ms:List Nat) (cs:List Cell):EqR:=match x with
 | .int i t=>match y with
  | .int j u=>⟨.v (.int i t),.v (.int j u),decide (i=j),[],ms,cs⟩
  | _=>sE x y ms cs
 | .str i t=>match y with
  | .str j u=>⟨.v (.str i t),.v (.str j u),i == j,[],ms,cs⟩
  | _=>sE x y ms cs
 | .bytes i t=>match y with
  | .bytes j u=>⟨.v (.bytes i t),.v (.bytes j u),i.toList == j.toList,[],ms,cs⟩
  | _=>sE x y ms cs
 | .bool i=>match y with
  | .bool j=>⟨.v (.bool i),.v (.bool j),i == j,[],ms,cs⟩
  | _=>sE x y ms cs
 | _=>sE x y ms cs
noncomputable def vE (b c:Bool):Bool:=match b with
 | true=>c
 | false=>false
noncomputable def cJ (ih:List Nat→List Cell→Value→Value→EqR) (xs:List Value):List Value→List Nat→List Cell→EqL:=List.rec (fun ys ms cs=>match ys with
 | []=>⟨[],[],true,[],ms,cs⟩
 | y::ys=>⟨[],.v y::lf ys,false,[],ms,cs⟩) (fun x xs ihl ys ms cs=>match ys with
 | []=>⟨.v x::lf xs,[],false,[],ms,cs⟩
 | y::ys=>match ih ms cs x y with
  | ⟨X,Y,b,L,ms,cs⟩=>match ihl ys ms cs with
   | ⟨XS,YS,b',L',ms,cs⟩=>⟨X::XS,Y::YS,vE b b',L ++ L',ms,cs⟩) xs
noncomputable def A0 (n:Nat):List Nat→List Cell→Value→Value→EqR:=Nat.rec (fun ms cs x y=>sE x y ms cs) (fun _ ih ms cs x y=>match ms with
 | []=>sE x y ms cs
 | m::ms=>match m with
  | 0=>sE x y ms cs
  | m+1=>match m with
   | 0=>dE x y ms cs
   | m+1=>match cs with
    | []=>sE x y ms cs
    | c::cs=>match cs with
     | []=>sE x y ms cs
     | d::cs=>match cJ ih (bK c.o) (bK d.o) ms cs with
      | ⟨XS,YS,b,L,ms,cs⟩=>match cF XS YS with
       | false=>sE x y ms cs
       | true=>⟨.s (Nat.beq m 1) c.a (dn [c] 0) XS,.s (Nat.beq m 1) d.a (dn [d] 0) YS,b,⟨false,c.a,bY (Nat.beq m 1) (dn [c] 0) XS⟩::⟨false,d.a,bY (Nat.beq m 1) (dn [d] 0) YS⟩::L,ms,cs⟩) n
noncomputable def zd (n b:Bool):Bool:=match n with
 | false=>b
 | true=>!b
noncomputable def zY (P:Params) (h g:Nat→Nat) (neg k:Bool) (cs:List Cell) (ms:List Nat):RS:=match cJ (A0 9) (bK (ob cs 0)) (bK (ob cs 1)) ms (cs.drop 2) with
 | ⟨XS,YS,b,L,_,_⟩=>au (aS (j0 neg k) [.ref (ad cs 0),.ref (ad cs 1)]) (⟨false,ad cs 0,bY k (dn cs 0) XS⟩::⟨false,ad cs 1,bY k (dn cs 1) YS⟩::L) (.bool (zd neg b))
structure GoodR (n:Nat) (r:EqR):Prop where
 eq:EqD r.X r.Y r.b
 sub:∀ c,c∈r.X.cells ++ r.Y.cells→c∈r.L
 mu:∀ c,c∈r.L→c.mu=false
 dep:r.X.dep≤n
structure GoodL (n:Nat) (r:EqL):Prop where
 eq:(∃ _:r.X.length=r.Y.length,∀ k a a' e e',EqD (.s k a e r.X) (.s k a' e' r.Y) r.b)∨(r.X.length≠r.Y.length∧r.b=false∧EqP r.X r.Y)
 sub:∀ c,c∈aQ r.X ++ aQ r.Y→c∈r.L
 mu:∀ c,c∈r.L→c.mu=false
 dep:cr r.X≤n
theorem bq (n:Nat) (x y:Value) (ms:List Nat) (cs:List Cell):GoodR n (sE x y ms cs):=by
 refine ⟨?_,fun c h=>absurd h (by simp [sE,DT.cells]),fun c h=>absurd h (by simp [sE]),Nat.zero_le _⟩
 show EqD (.v x) (.v (FV x y)) true
 cases x with
 | int i t=>exact eI
 | str s t=>exact qF
 | bytes b t=>exact eB
 | _=>exact .same _
theorem sF (n:Nat) (x y:Value) (ms:List Nat) (cs:List Cell):GoodR n (dE x y ms cs):=by
 have k:∀ {X Y:Value} {b:Bool},EqD (.v X) (.v Y) b→GoodR n ⟨.v X,.v Y,b,[],ms,cs⟩:=fun h=>⟨h,fun c h=>absurd h (by simp [DT.cells]),fun c h=>absurd h (by simp),Nat.zero_le _⟩
 cases x with
 | int i t =>
  cases y with
  | int j u=>exact k (.int _ _ _ _ _ rfl)
  | _=>exact bq n _ _ ms cs
 | str i t =>
  cases y with
  | str j u=>exact k (.str _ _ _ _ _ rfl)
  | _=>exact bq n _ _ ms cs
 | bytes i t =>
  cases y with
  | bytes j u=>exact k (.bytes _ _ _ _ _ rfl)
  | _=>exact bq n _ _ ms cs
 | bool i =>
  cases y with
  | bool j=>exact k (.bool _ _ _ rfl)
  | _=>exact bq n _ _ ms cs
 | _=>exact bq n _ _ ms cs
theorem g7:∀ l:List Value,aQ (lf l)=[]
 | []=>rfl
 | v::l=>by
  show aQ (.v v::lf l)=[]
  rw [bD,g7 l]; rfl
theorem q7:∀ l:List Value,cr (lf l)=0
 | []=>by simp [lf,cr]
 | v::l=>by simp [lf,cr,DT.dep,q7 l]
theorem eD {n:Nat} {ih:List Nat→List Cell→Value→Value→EqR} (hi:∀ ms cs x y,GoodR n (ih ms cs x y)):∀ (xs ys:List Value) (ms:List Nat) (cs:List Cell),GoodL n (cJ ih xs ys ms cs)
 | [],[],ms,cs=>⟨.inl ⟨rfl,fun _ _ _ _ _=>eN⟩,fun c h=>absurd h (by simp [cJ,aQ]),fun c h=>absurd h (by simp [cJ]),by simp [cJ,cr]⟩
 | [],y::ys,ms,cs=>⟨.inr ⟨by simp [cJ],rfl,.right _ _⟩,fun c h=>by
  have h:c∈aQ [] ++ aQ (lf (y::ys)):=h
  rw [g7] at h; simp [aQ] at h,fun c h=>absurd h (by simp [cJ]),by simp [cJ,cr]⟩
 | x::xs,[],ms,cs=>⟨.inr ⟨by simp [cJ],rfl,.left _ _⟩,fun c h=>by
  have h:c∈aQ (lf (x::xs)) ++ aQ []:=h
  rw [g7] at h; simp [aQ] at h,fun c h=>absurd h (by simp [cJ]),by show cr (lf (x::xs))≤n; rw [q7]; exact Nat.zero_le _⟩
 | x::xs,y::ys,ms,cs=>by
  have h1:=hi ms cs x y
  have e:cJ ih (x::xs) (y::ys) ms cs=match ih ms cs x y with
   | ⟨X,Y,b,L,ms,cs⟩=>match cJ ih xs ys ms cs with
    | ⟨XS,YS,b',L',ms,cs⟩=>⟨X::XS,Y::YS,vE b b',L ++ L',ms,cs⟩:=rfl
  rw [e]
  cases hr:ih ms cs x y with
  | mk X Y b L ms' cs' =>
  rw [hr] at h1
  have h2:=eD hi xs ys ms' cs'
  cases hl:cJ ih xs ys ms' cs' with
  | mk XS YS b' L' ms'' cs'' =>
  rw [hl] at h2
  simp only
  rw [hl]
  obtain ⟨a1,a2,a3,a4⟩:=h1
  obtain ⟨b1,b2,b3,b4⟩:=h2
  dsimp only at a1 a2 a3 a4 b1 b2 b3 b4
  refine ⟨?_,fun c hc=>?_,fun c hc=>?_,?_⟩
  ·rcases b1 with ⟨q1,q2⟩ | ⟨q1,q2,q3⟩
   ·refine .inl ⟨by simp [q1],fun k a a' e e'=>?_⟩
    cases b with
    | true=>exact eO a1 (q2 k a a' e e')
    | false=>exact eF a1 (q2 k a a' e e')
   ·refine .inr ⟨by simpa using q1,?_,.one _ _ _ _ _ a1 q3⟩
    subst q2
    cases b <;> rfl
  ·show c∈L ++ L'
   have hc:c∈aQ (X::XS) ++ aQ (Y::YS):=hc
   rw [bD,bD] at hc
   simp only [List.mem_append] at hc a2 b2 ⊢
   rcases hc with (hc | hc) | (hc | hc)
   ·exact .inl (a2 c (.inl hc))
   ·exact .inr (b2 c (.inl hc))
   ·exact .inl (a2 c (.inr hc))
   ·exact .inr (b2 c (.inr hc))
  ·rcases List.mem_append.mp hc with hc | hc
   ·exact a3 c hc
   ·exact b3 c hc
  ·show cr (X::XS)≤n
   simp only [cr]
   exact Nat.max_le.mpr ⟨a4,b4⟩
theorem kg:∀ (n:Nat) (ms:List Nat) (cs:List Cell) (x y:Value),GoodR n (A0 n ms cs x y)
 | 0,ms,cs,x,y=>bq 0 x y ms cs
 | n+1,[],cs,x,y=>bq _ x y _ cs
 | n+1,0::ms,cs,x,y=>bq _ x y ms cs
 | n+1,1::ms,cs,x,y=>sF _ x y ms cs
 | n+1,(m+2)::ms,[],x,y=>bq _ x y _ _
 | n+1,(m+2)::ms,[c],x,y=>bq _ x y _ _
 | n+1,(m+2)::ms,c::d::cs,x,y=>by
  have e:A0 (n+1) ((m+2)::ms) (c::d::cs) x y=match cJ (A0 n) (bK c.o) (bK d.o) ms cs with
   | ⟨XS,YS,b,L,ms,cs⟩=>match cF XS YS with
    | false=>sE x y ms cs
    | true=>⟨.s (Nat.beq m 1) c.a (dn [c] 0) XS,.s (Nat.beq m 1) d.a (dn [d] 0) YS,b,⟨false,c.a,bY (Nat.beq m 1) (dn [c] 0) XS⟩::⟨false,d.a,bY (Nat.beq m 1) (dn [d] 0) YS⟩::L,ms,cs⟩:=rfl
  rw [e]
  have h:=eD (kg n) (bK c.o) (bK d.o) ms cs
  cases hl:cJ (A0 n) (bK c.o) (bK d.o) ms cs with
  | mk XS YS b L ms' cs' =>
  rw [hl] at h
  simp only
  cases hq:cF XS YS with
  | false=>exact bq _ x y ms' cs'
  | true =>
   obtain ⟨b1,b2,b3,b4⟩:=h
   dsimp only at b1 b2 b3 b4
   refine ⟨?_,fun z hz=>?_,fun z hz=>?_,?_⟩
   ·rcases b1 with ⟨_,q⟩ | ⟨q,_⟩
    ·exact q _ _ _ _ _
    ·exact absurd (bA hq) q
   ·have hz:z∈(DT.s (Nat.beq m 1) c.a (dn [c] 0) XS).cells ++ (DT.s (Nat.beq m 1) d.a (dn [d] 0) YS).cells:=hz
    rw [bQ,bQ] at hz
    simp only [List.mem_append,List.mem_cons] at hz b2 ⊢
    rcases hz with (rfl | hz) | (rfl | hz)
    ·exact .inl rfl
    ·exact .inr (.inr (b2 z (.inl hz)))
    ·exact .inr (.inl rfl)
    ·exact .inr (.inr (b2 z (.inr hz)))
   ·simp only [List.mem_cons] at hz
    rcases hz with rfl | rfl | hz
    ·rfl
    ·rfl
    ·exact b3 z hz
   ·show cr XS+1≤n+1
    exact Nat.succ_le_succ b4
theorem lT:∀ {l:List Cell},(∀ c,c∈l→c.mu=false)→cA l=[]
 | [],_=>rfl
 | c::l,h=>by
  show (match c.mu with | true=>c.a::cA l | false=>cA l)=[]
  rw [h c (.head _)]
  exact lT fun z hz=>h z (.tail _ hz)
theorem sx (n b:Bool):zd n b=if n then !b else b:=by cases n <;> rfl
theorem Fk {en:ST} {w:World} (neg k:Bool) (a a' e e':Nat) (l l':List DT) (c:Bool) (L:List Cell) (hdep:cr l≤49)
 (hq:(∃ _:l.length=l'.length,∀ k a a' e e',EqD (.s k a e l) (.s k a' e' l') c)∨(l.length≠l'.length∧c=false∧EqP l l')) (hd:∀ x,x∈(DT.s k a e l).cells ++ (DT.s k a' e' l').cells→x∈L) (hmu:∀ c,c∈L→c.mu=false) :
 (au (aS (j0 neg k) [.ref a,.ref a']) L (.bool (zd neg c))).S.Holds (B2 w en):=by
 refine am rfl fun A s₀ R hh hu _ ht hcell _ kk=>?_
 have hX:bi s₀ (DT.s k a e l).cells:=fun x hx=>(hcell x (hd x (List.mem_append_left _ hx))).1
 have hY:bi s₀ (DT.s k a' e' l').cells:=fun x hx=>(hcell x (hd x (List.mem_append_right _ hx))).1
 rw [bQ] at hX hY
 have item:∀ {bs:Nat→Bool},(∀ j (h1:j<l.length) (h2:j<l'.length),EqD l[j] l'[j] (bs j))→∀ j (h1:j<l.length) (h2:j<l'.length),EqAt A.in1 s₀ (l[j]).val (l'[j]).val (bs j):=by
  intro bs hs j h1 h2
  refine EqD.at 50 ?_ (hs j h1 h2) (fun c hc=>hX c (.tail _ (bh (List.getElem_mem h1) hc))) (fun c hc=>hY c (.tail _ (bh (List.getElem_mem h2) hc))) ?_
  ·have:=ds (List.getElem_mem h1)
   omega
  ·show A.units+1+50<cLine
   have:A.units+60≤9000:=hu
   unfold cLine; omega
 refine mE (hX _ (.head _)) (hY _ (.head _)) c (sx neg c) ?_ (kk _ [] [] (aF (s':=s₀) ht (lT hmu) rfl rfl rfl rfl rfl))
 rcases hq with ⟨h1,h2⟩ | ⟨h1,h2,h3⟩
 ·obtain ⟨q1,bs,q2,q3⟩:=(h2 k a a' e e').items
  exact .inl ⟨q1,bs,item q2,q3⟩
 ·obtain ⟨q1,bs,q2⟩:=h3.items
  exact .inr ⟨q1,h2,bs,item q2⟩
theorem ui {en:ST} {w:World} {h g:Nat→Nat} (neg k:Bool) (cs:List Cell) (ms:List Nat):(zY w.params h g neg k cs ms).S.Holds (B2 w en):=by
 unfold zY
 have h:=eD (kg 9) (bK (ob cs 0)) (bK (ob cs 1)) ms (cs.drop 2)
 cases hl:cJ (A0 9) (bK (ob cs 0)) (bK (ob cs 1)) ms (cs.drop 2) with
 | mk XS YS b L ms' cs' =>
 rw [hl] at h
 obtain ⟨b1,b2,b3,b4⟩:=h
 dsimp only at b1 b2 b3 b4
 refine Fk neg k (ad cs 0) (ad cs 1) (dn cs 0) (dn cs 1) XS YS b _ (by omega) b1 (fun z hz=>?_) (fun z hz=>?_)
 ·rw [bQ,bQ] at hz
  simp only [List.mem_append,List.mem_cons] at hz b2 ⊢
  rcases hz with (rfl | hz) | (rfl | hz)
  ·exact .inl rfl
  ·exact .inr (.inr (b2 z (.inl hz)))
  ·exact .inr (.inl rfl)
  ·exact .inr (.inr (b2 z (.inr hz)))
 ·simp only [List.mem_cons] at hz
  rcases hz with rfl | rfl | hz
  ·rfl
  ·rfl
  ·exact b3 z hz
end
section
open PySem.SeqAt
noncomputable def u (f:(Nat→Nat)→(Nat→Nat)→(Nat→Obj)→RS) (ix jx:List Nat):Use:=⟨fun A k O _ _=>(f A k O).S,ix,jx,none⟩
theorem aa {B:Base} {f:(Nat→Nat)→(Nat→Nat)→(Nat→Obj)→RS} {ix jx:List Nat} {us:List Use} (h:∀ {A k O},(f A k O).S.Holds B) (k:cp B us):cp B (u f ix jx::us):=⟨fun _ _ _ _=>h.e,k⟩
theorem dm {w:World} {h g:Nat→Nat} {D:RS} (n hs:Nat) (us:List Use) (U:cp (BB w h g) us) (H:∀ cb,D.RunsL (BB w h g) [] n hs us cb) (a:D.tl=none:=by rfl) (b:∀ ob q,D.SO ob q=D.S:=by exact fun _ _=>rfl):D.S.Holds (BB w h g):=RS.doneL (cy w h g) pY (.one H) a b U
noncomputable def C2 (P:Params) (h g:Nat→Nat) (it acc L c1 f:Nat) (R:V7):RS:=(bH P h g 0 it acc L c1 f R).fin [] [] (fun b t=>[⟨(.type L7),none,(Data.fields #[(.int 0 0),(.int 0 0),(.int 1 0)]),#[]⟩,(oL 0 []),⟨(.type L0),none,(Data.dict #[] 0),#[]⟩]) nN rX
noncomputable def vL (P:Params) (h g:Nat→Nat) (it acc L c1 f:Nat) (i0:Int) (t1:Nat) (R:V7):RS:=(bH P h g 1 it acc L c1 f { R with a:=.int i0 t1 }).fin [] [1,0] (fun b t=>[⟨(.type L7),none,(Data.fields #[(.int 1 0),(.int 0 0),(.int 1 0)]),#[]⟩,(oL 1 [(.int i0 t1)]),⟨(.type L0),none,(Data.dict #[(eS P Qf (nb t 0) (.int 0 (nb t 1)))] 1),#[]⟩]) nN rX
noncomputable def vz (P:Params) (h g:Nat→Nat) (it acc L c1 f:Nat) (b0:Array UInt8) (t1:Nat) (R:V7):RS:=(bH P h g 1 it acc L c1 f { R with a:=.bytes b0 t1 }).fin [] [1,0] (fun b t=>[⟨(.type L7),none,(Data.fields #[(.int 1 0),(.int 0 0),(.int 1 0)]),#[]⟩,(oL 1 [(.bytes b0 t1)]),⟨(.type L0),none,(Data.dict #[(eS P Qf (nb t 0) (.int 0 (nb t 1)))] 1),#[]⟩]) nN rX
noncomputable def vq (P:Params) (h g:Nat→Nat) (it acc L c1 f x0:Nat) (R:V7):RS:=(bH P h g 1 it acc L c1 f { R with a:=.ref x0 }).fin [] [1,0] (fun b t=>[⟨(.type L7),none,(Data.fields #[(.int 1 0),(.int 0 0),(.int 1 0)]),#[]⟩,(oL 1 [(.ref x0)]),⟨(.type L0),none,(Data.dict #[(eS P Qf (nb t 0) (.int 0 (nb t 1)))] 1),#[]⟩]) nN rX
noncomputable def vG (P:Params) (h g:Nat→Nat) (it acc L c1 f:Nat) (c0:Bool) (R:V7):RS:=(bH P h g 1 it acc L c1 f { R with a:=.bool c0 }).fin [] [1,0] (fun b t=>[⟨(.type L7),none,(Data.fields #[(.int 1 0),(.int 0 0),(.int 1 0)]),#[]⟩,(oL 1 [(.bool c0)]),⟨(.type L0),none,(Data.dict #[(eS P Qf (nb t 0) (.int 0 (nb t 1)))] 1),#[]⟩]) nN rX
noncomputable def qw (P:Params) (h g:Nat→Nat) (it acc L c1 f x0 x1:Nat) (R:V7):RS:=(bH P h g 2 it acc L c1 f { R with a:=.ref x0,b:=.ref x1 }).fin [] [1,3] (fun b t=>[⟨(.type L7),none,(Data.fields #[(.int 2 0),(.int 0 0),(.int 1 0)]),#[]⟩,(oL 2 [(.ref x0),(.ref x1)]),⟨(.type L0),none,(Data.dict #[(eS P Qf (nb t 0) (.int 1 (nb t 1)))] 1),#[]⟩]) nN rX
noncomputable def pZ (P:Params) (h g:Nat→Nat) (it acc L c1 f x0:Nat) (i1:Int) (t1:Nat) (R:V7):RS:=(bH P h g 2 it acc L c1 f { R with a:=.ref x0,b:=.int i1 t1 }).fin [] [1,3] (fun b t=>[⟨(.type L7),none,(Data.fields #[(.int 2 0),(.int 0 0),(.int 1 0)]),#[]⟩,(oL 2 [(.ref x0),(.int i1 t1)]),⟨(.type L0),none,(Data.dict #[(eS P Qf (nb t 0) (.int 1 (nb t 1)))] 1),#[]⟩]) nN rX
noncomputable def oJ (P:Params) (h g:Nat→Nat) (it acc L c1 f x0:Nat) (b1:Array UInt8) (t1:Nat) (R:V7):RS:=(bH P h g 2 it acc L c1 f { R with a:=.ref x0,b:=.bytes b1 t1 }).fin [] [1,3] (fun b t=>[⟨(.type L7),none,(Data.fields #[(.int 2 0),(.int 0 0),(.int 1 0)]),#[]⟩,(oL 2 [(.ref x0),(.bytes b1 t1)]),⟨(.type L0),none,(Data.dict #[(eS P Qf (nb t 0) (.int 1 (nb t 1)))] 1),#[]⟩]) nN rX
noncomputable def m9 (P:Params) (h g:Nat→Nat) (it acc L c1 f x0 x1 x2:Nat) (R:V7):RS:=(bH P h g 3 it acc L c1 f { R with a:=.ref x0,b:=.ref x1,c:=.ref x2 }).fin [] [1,6] (fun b t=>[⟨(.type L7),none,(Data.fields #[(.int 3 0),(.int 0 0),(.int 1 0)]),#[]⟩,(oL 3 [(.ref x0),(.ref x1),(.ref x2)]),⟨(.type L0),none,(Data.dict #[(eS P Qf (nb t 0) (.int 2 (nb t 1)))] 1),#[]⟩]) nN rX
noncomputable def lZ (P:Params) (h g:Nat→Nat) (it acc L c1 f x0:Nat) (b1:Array UInt8) (t1:Nat) (c2:Bool) (R:V7):RS:=(bH P h g 3 it acc L c1 f { R with a:=.ref x0,b:=.bytes b1 t1,c:=.bool c2 }).fin [] [1,6] (fun b t=>[⟨(.type L7),none,(Data.fields #[(.int 3 0),(.int 0 0),(.int 1 0)]),#[]⟩,(oL 3 [(.ref x0),(.bytes b1 t1),(.bool c2)]),⟨(.type L0),none,(Data.dict #[(eS P Qf (nb t 0) (.int 2 (nb t 1)))] 1),#[]⟩]) nN rX
noncomputable def m5 (P:Params) (h g:Nat→Nat) (it acc L c1 f x0:Nat) (i1:Int) (t1:Nat) (c2:Bool) (R:V7):RS:=(bH P h g 3 it acc L c1 f { R with a:=.ref x0,b:=.int i1 t1,c:=.bool c2 }).fin [] [1,6] (fun b t=>[⟨(.type L7),none,(Data.fields #[(.int 3 0),(.int 0 0),(.int 1 0)]),#[]⟩,(oL 3 [(.ref x0),(.int i1 t1),(.bool c2)]),⟨(.type L0),none,(Data.dict #[(eS P Qf (nb t 0) (.int 2 (nb t 1)))] 1),#[]⟩]) nN rX
noncomputable def jl (P:Params) (h g:Nat→Nat) (it acc L c1 f x0:Nat) (b1:Array UInt8) (t1:Nat) (c2:Bool) (i3:Int) (t2:Nat) (R:V7):RS:=(bH P h g 4 it acc L c1 f { R with a:=.ref x0,b:=.bytes b1 t1,c:=.bool c2,d:=.int i3 t2 }).fin [] [1,9] (fun b t=>[⟨(.type L7),none,(Data.fields #[(.int 4 0),(.int 0 0),(.int 1 0)]),#[]⟩,(oL 4 [(.ref x0),(.bytes b1 t1),(.bool c2),(.int i3 t2)]),⟨(.type L0),none,(Data.dict #[(eS P Qf (nb t 0) (.int 3 (nb t 1)))] 1),#[]⟩]) nN rX
noncomputable def qH (P:Params) (h g:Nat→Nat) (tv x:Nat):RS:=(aG 150 ([]) false (aq 1508 [.ref tv,.ref x]) []).fin [1] [2] nN (fun b t=>[(oT [(.str Q5 (nb t 0)),(.ref tv),(.ref x)])]) rB
noncomputable def qP (P:Params) (h g:Nat→Nat) (tv:Nat) (i:Int) (t1:Nat):RS:=(aG 150 ([]) false (aq 1508 [.ref tv,(.int i t1)]) []).fin [1] [2] nN (fun b t=>[(oT [(.str Q5 (nb t 0)),(.ref tv),(.int i t1)])]) rB
noncomputable def qg (P:Params) (h g:Nat→Nat) (tv:Nat) (bv:Array UInt8) (t1:Nat):RS:=(aG 150 ([]) false (aq 1508 [.ref tv,.bytes bv t1]) []).fin [1] [2] nN (fun b t=>[(oT [(.str Q5 (nb t 0)),(.ref tv),(.bytes bv t1)])]) rB
noncomputable def pt (P:Params) (h g:Nat→Nat) (tv:Nat) (c:Bool):RS:=(aG 150 ([]) false (aq 1508 [.ref tv,.bool c]) []).fin [1] [2] nN (fun b t=>[(oT [(.str Q5 (nb t 0)),(.ref tv),(.bool c)])]) rB
noncomputable def qt (P:Params) (h g:Nat→Nat) (tv:Nat):RS:=(aG 150 ([]) false (aq 1508 [.ref tv,.none]) []).fin [1] [2] nN (fun b t=>[(oT [(.str Q5 (nb t 0)),(.ref tv),.none])]) rB
noncomputable def C6 (P:Params) (h g:Nat→Nat) (t1:Nat) (m:Int) (t2 a1 q:Nat):RS:=(aG 150 ([]) false (aq 777 [(.ref a1)]) [⟨false,a1,oT [(.str Qw t1),(.int m t2),(.ref q)]⟩]).fin [2] [] nN (fun b t=>[(oT [(.int m t2),(.ref q)])]) rB
theorem cg {w:World} {h g:Nat→Nat}:(∀ {t x R F},(c7 w.params h g 1 t (.ref x) R F).S.Holds (BB w h g)) ∧
 (∀ {a t},(lX w.params h g a t EE).S.Holds (BB w h g)) ∧
 (∀ {a t x y},(hA w.params h g a t Qe x y).S.Holds (BB w h g)) ∧
 (∀ {t x R F},(c7 w.params h g 0 t (.ref x) R F).S.Holds (BB w h g)) ∧
 (∀ {a t T v},(mI w.params h g a t T v).S.Holds (BB w h g)) ∧
 (∀ {a t x},(gY w.params h g a t Qi x).S.Holds (BB w h g)) ∧
 (∀ {t i u R F},(c7 w.params h g 1 t (.int i u) R F).S.Holds (BB w h g)) ∧
 (∀ {a t tr x R F},(vM w.params h g a t tr x R F).S.Holds (BB w h g)) ∧
 (∀ {a t x y},(hA w.params h g a t Qg x y).S.Holds (BB w h g)) ∧
 (∀ {t c R F},(c7 w.params h g 0 t (.bool c) R F).S.Holds (BB w h g)) ∧
 (∀ {t c R F},(c7 w.params h g 2 t (.bool c) R F).S.Holds (BB w h g)) ∧
 (∀ {a t},(lX w.params h g a t Qd).S.Holds (BB w h g)) ∧
 (∀ {t bv u R F},(c7 w.params h g 0 t (.bytes bv u) R F).S.Holds (BB w h g)) ∧
 (∀ {t x R F},(c7 w.params h g 2 t (.ref x) R F).S.Holds (BB w h g)) ∧
 (∀ {a t x},(gY w.params h g a t Q1 x).S.Holds (BB w h g)) ∧
 (∀ {t i u R F},(c7 w.params h g 0 t (.int i u) R F).S.Holds (BB w h g)) ∧
 (∀ {t i u R F},(c7 w.params h g 3 t (.int i u) R F).S.Holds (BB w h g)) ∧
 (∀ {a t x},(gY w.params h g a t Qw x).S.Holds (BB w h g)) ∧
 (∀ {t bv u R F},(c7 w.params h g 1 t (.bytes bv u) R F).S.Holds (BB w h g)) ∧
 (∀ {a t tr x R F},(vp w.params h g a t tr x R F).S.Holds (BB w h g)) ∧
 (∀ {a t x y},(hA w.params h g a t EK x y).S.Holds (BB w h g)) ∧
 (∀ {it acc L c1 f R},(C2 w.params h g it acc L c1 f R).S.Holds (BB w h g)) ∧
 (∀ {it acc L c1 f i0 t1 R},(vL w.params h g it acc L c1 f i0 t1 R).S.Holds (BB w h g)) ∧
 (∀ {it acc L c1 f b0 t1 R},(vz w.params h g it acc L c1 f b0 t1 R).S.Holds (BB w h g)) ∧
 (∀ {it acc L c1 f x0 R},(vq w.params h g it acc L c1 f x0 R).S.Holds (BB w h g)) ∧
 (∀ {it acc L c1 f c0 R},(vG w.params h g it acc L c1 f c0 R).S.Holds (BB w h g)) ∧
 (∀ {it acc L c1 f x0 x1 R},(qw w.params h g it acc L c1 f x0 x1 R).S.Holds (BB w h g)) ∧
 (∀ {it acc L c1 f x0 i1 t1 R},(pZ w.params h g it acc L c1 f x0 i1 t1 R).S.Holds (BB w h g)) ∧
 (∀ {it acc L c1 f x0 b1 t1 R},(oJ w.params h g it acc L c1 f x0 b1 t1 R).S.Holds (BB w h g)) ∧
 (∀ {it acc L c1 f x0 x1 x2 R},(m9 w.params h g it acc L c1 f x0 x1 x2 R).S.Holds (BB w h g)) ∧
 (∀ {it acc L c1 f x0 b1 t1 c2 R},(lZ w.params h g it acc L c1 f x0 b1 t1 c2 R).S.Holds (BB w h g)) ∧
 (∀ {it acc L c1 f x0 i1 t1 c2 R},(m5 w.params h g it acc L c1 f x0 i1 t1 c2 R).S.Holds (BB w h g)) ∧
 (∀ {it acc L c1 f x0 b1 t1 c2 i3 t2 R},(jl w.params h g it acc L c1 f x0 b1 t1 c2 i3 t2 R).S.Holds (BB w h g)) ∧
 (∀ {tv x},(qH w.params h g tv x).S.Holds (BB w h g)) ∧
 (∀ {tv i t1},(qP w.params h g tv i t1).S.Holds (BB w h g)) ∧
 (∀ {tv bv t1},(qg w.params h g tv bv t1).S.Holds (BB w h g)) ∧
 (∀ {tv c},(pt w.params h g tv c).S.Holds (BB w h g)) ∧
 (∀ {tv},(qt w.params h g tv).S.Holds (BB w h g)) ∧
 (∀ {t1 m t2 a1 q},(C6 w.params h g t1 m t2 a1 q).S.Holds (BB w h g)):=by
 refine ⟨dm 90 (ce [gM]) [] ak ?_,
 dm 39 (ce [ko]) [] ak ?_,
 dm 39 (ce [ko]) [] ak ?_,
 dm 90 (ce [gM]) [] ak ?_,
 dm 47 (ce [fb,aj,1028,aj,1028,fq,fb,fq]) [] ak ?_,
 dm 39 (ce [ko]) [] ak ?_,
 dm 89 (ce [gM]) [] ak ?_,
 dm 121 (ce [Af]) [] ak ?_,
 dm 39 (ce [ko]) [] ak ?_,
 dm 89 (ce [gM]) [] ak ?_,
 dm 89 (ce [gM]) [] ak ?_,
 dm 39 (ce [ko]) [] ak ?_,
 dm 89 (ce [gM]) [] ak ?_,
 dm 90 (ce [gM]) [] ak ?_,
 dm 39 (ce [ko]) [] ak ?_,
 dm 89 (ce [gM]) [] ak ?_,
 dm 89 (ce [gM]) [] ak ?_,
 dm 39 (ce [ko]) [] ak ?_,
 dm 89 (ce [gM]) [] ak ?_,
 dm 121 (ce [Af]) [] ak ?_,
 dm 39 (ce [ko]) [] ak ?_,
 dm 17 (ce [1027,kH]) [] ak ?_,
 dm 78 (ce [uJ]) [] ak ?_,
 dm 78 (ce [uJ]) [] ak ?_,
 dm 78 (ce [uJ]) [] ak ?_,
 dm 78 (ce [uJ]) [] ak ?_,
 dm 139 (ce [rh,kH]) [] ak ?_,
 dm 139 (ce [rh,kH]) [] ak ?_,
 dm 139 (ce [rh,kH]) [] ak ?_,
 dm 200 (ce [yb]) [] ak ?_,
 dm 200 (ce [yb]) [] ak ?_,
 dm 200 (ce [yb]) [] ak ?_,
 dm 261 (ce [rh,mR,mR,kH]) [] ak ?_,
 dm 23 (ce [pQ]) [] ak ?_,
 dm 23 (ce [pQ]) [] ak ?_,
 dm 23 (ce [pQ]) [] ak ?_,
 dm 23 (ce [pQ]) [] ak ?_,
 dm 23 (ce [pQ]) [] ak ?_,
 dm 42 (ce [fb,aj,1052676,fq,1028,fq]) [] ak ?_⟩ <;> intro cb ν τ υ π ς ρ own past κ bl p <;> kernel_rfl
noncomputable def pq (P:Params) (h g:Nat→Nat) (it tu acc L c1 f a1 a2 t1 t2 t3 t4:Nat) (T1 T2:Value) (i1 i2:Int):RS:=(aG 100 [] false (.compStart (Eu (oq P 957) 1) 0 (.ref it) (.ref acc) ⟨Gi (Eu (oq P 957) 1),L,3,[(⟨#[102,114,97,109,101]⟩,c1)],⟨#[79,112,101,114,97,116,105,111,110,115,46,100,111,95,99,117,116,46,60,108,111,99,97,108,115,62,46]⟩,none,.ref 956,some f,0⟩) [⟨true,it,Gt tu⟩,⟨true,acc,oL 0 []⟩,⟨true,L,FR⟩,⟨false,c1,EF (.ref (h 111))⟩,⟨false,tu,oT [.ref a1,.ref a2,.none]⟩,⟨false,a1,oT [.str Q5 t1,T1,.int i1 t2]⟩,⟨false,a2,oT [.str Q5 t3,T2,.int i2 t4]⟩]).fin [] [0] (fun b t=>[⟨(.type Ll),none,(Data.fields #[.none,(.int 3 0)]),#[]⟩,(oL 3 [(.int i1 t2),(.int i2 t4),.none]),⟨(.type L0),none,(Data.dict #[(eS P ⟨#[111,112,101,114,97,110,100]⟩ (nb t 0) .none)] 1),#[]⟩]) nN rX
noncomputable def aK (P:Params) (h g:Nat→Nat) (n:Nat) (K:List (Nat × Value)) (t1 c:Nat) (k:Str) (t2:Nat):RS:=(aG 150 ([]) false (aq 1298 [.ref (h 68),(.str k t2),.ref c]) [bP P h g true n t1,cS h true n K]).fin [4,3] [6,14,16,18] (fun b t=>[(bP P h g true (n+1) (nb t 0)).o,(oK (n+1) (List.cons (Prod.mk (nb t 0) (.ref (nb b 0))) K))]) (fun b t=>[⟨(.ref 1271),(some (nb b 1)),Data.plain,#[]⟩,⟨(.type L0),none,(Data.dict #[(eS P Q9 (nb t 1) (.str k t2)),(eS P Qa (nb t 2) (.ref c)),(eS P Q8 (nb t 3) (.str Q7 2089))] 3),#[]⟩]) (fun b t=>(Except.ok (Flow.ret (.int (Int.ofNat (n+1)) (nb t 0)))))
noncomputable def jn (P:Params) (h g:Nat→Nat) (n:Nat) (K:List (Nat × Value)) (t1 c:Nat) (k:Str) (t2 t3:Nat):RS:=(aG 150 ([]) false (aq 1298 [.ref (h 68),(.str k t2),.ref c,(.str Q7 t3)]) [bP P h g true n t1,cS h true n K]).fin [4,3] [6,14,16,18] (fun b t=>[(bP P h g true (n+1) (nb t 0)).o,(oK (n+1) (List.cons (Prod.mk (nb t 0) (.ref (nb b 0))) K))]) (fun b t=>[⟨(.ref 1271),(some (nb b 1)),Data.plain,#[]⟩,⟨(.type L0),none,(Data.dict #[(eS P Q9 (nb t 1) (.str k t2)),(eS P Qa (nb t 2) (.ref c)),(eS P Q8 (nb t 3) (.str Q7 t3))] 3),#[]⟩]) (fun b t=>(Except.ok (Flow.ret (.int (Int.ofNat (n+1)) (nb t 0)))))
noncomputable def bG (P:Params) (h g:Nat→Nat) (c n:Nat) (K:List (Nat × Value)) (t1 t2 a1 a2 t3 t4 t5 t6 t7 t8 a3 a4:Nat):RS:=(aG 150 ([]) false (aq 1387 [.ref (h 68),(.ref a4)]) [⟨false,a3,oT []⟩,⟨false,a4,oT [(.int (Int.ofNat (n+1)) t8),(.ref a3)]⟩,bP P h g false (n+1) t1,cS h false (n+1) ((t2,.ref a1)::K),⟨false,a1,⟨.ref 1271,some a2,.plain,#[]⟩⟩,⟨false,a2,⟨yD,none,.dict #[eS P Q9 t3 (.str Q6 t6),eS P Qa t4 (.ref c),eS P Q8 t5 (.str Q7 t7)] 3,#[]⟩⟩]).fin [] [] nN nN (fun b t=>(ok (.ref c)))
theorem ba {w:World} {h g:Nat→Nat}:(∀ {it tu acc L c1 f a1 a2 t1 t2 t3 t4 T1 T2 i1 i2},(pq w.params h g it tu acc L c1 f a1 a2 t1 t2 t3 t4 T1 T2 i1 i2).S.Holds (BB w h g)) ∧
 (∀ {n K t1 c k t2},ag K=n→n≤1000→(aK w.params h g n K t1 c k t2).S.Holds (BB w h g)) ∧
 (∀ {n K t1 c k t2 t3},ag K=n→n≤1000→(jn w.params h g n K t1 c k t2 t3).S.Holds (BB w h g)) ∧
 (∀ {c n K t1 t2 a1 a2 t3 t4 t5 t6 t7 t8 a3 a4},ag K=n→n≤1000→(bG w.params h g c n K t1 t2 a1 a2 t3 t4 t5 t6 t7 t8 a3 a4).S.Holds (BB w h g)):=by
 refine ⟨fun {it tu acc L c1 f a1 a2 t1 t2 t3 t4 T1 T2 i1 i2} =>dm 156 (ce [1027,Ec,E0,E0,0x1010010100001000,ek,ln,1118838982666]) [u (fun A J O=>mI w.params h g (A 5) t1 T1 (.int i1 t2)) [5] [],u (fun A J O=>mI w.params h g (A 6) t3 T2 (.int i2 t4)) [6] []] (aa cg.2.2.2.2.1 (aa cg.2.2.2.2.1 ak)) ?_,
 fun {n K t1 c k t2} hK hn=>dm 323 (ce [BE]) [u (fun A J O=>mm w.params h g n K (J 6) (.ref (A 4))) [1] [1]] (aa (vH hK hn) ak) ?_,
 fun {n K t1 c k t2 t3} hK hn=>dm 323 (ce [BE]) [u (fun A J O=>mm w.params h g n K (J 6) (.ref (A 4))) [1] [1]] (aa (vH hK hn) ak) ?_,
 fun {c n K t1 t2 a1 a2 t3 t4 t5 t6 t7 t8 a3 a4} hK hn=>dm 413 (ce [ny,ec,ai,1116691504144,kw,aj,1092616196,yd,yd,yd,0x4070400001c1000016,ae,1040,iz,1040,kw,aj,0x1060000601800004,xz,1098907672,xz,1098907672,xz,1052,dj,1038,h8,1062918,ai,0x10781e0000e078000381e,ku,0x1078020200801800,ku,0x1020080201e01800,gO,1088428046,yy,fE,yy,bj,1038,yy,1038,ai,0x100402008200000f0800003c20,fh,oB,0x10800009810088020882200022]) [u (fun A J O=>aT w.params h g n K (Prod.mk t2 (.ref (A 4))) t8) [3] [],u (fun A J O=>aU w.params h g n K (Prod.mk t2 (.ref (A 4))) t8) [3] []] (aa (aW hK) (aa (aX hK) ak)) ?_⟩ <;> intro cb ν τ υ π ς ρ own past κ bl p <;> kernel_rfl
noncomputable def dH (P:Params) (h g:Nat→Nat) (e:Nat) (x0:Int) (t1:Nat) (x1:Int) (t2 a1 n:Nat) (K:List (Nat × Value)) (t3 t4 a2 a3 t5 t6 t7 t8 t9 t10 t11 a4 a5:Nat):RS:=(aG 150 (uK) false (aq 1394 [.ref (h 68),(.ref a5)]) [⟨false,a1,oL e [(.int x0 t1),(.int x1 t2)]⟩,⟨false,a4,oT [(.int 0 t11)]⟩,⟨false,a5,oT [(.int (Int.ofNat (n+1)) t10),(.ref a4)]⟩,bP P h g false (n+1) t3,cS h false (n+1) ((t4,.ref a2)::K),⟨false,a2,⟨.ref 1271,some a3,.plain,#[]⟩⟩,⟨false,a3,⟨yD,none,.dict #[eS P Q9 t5 (.str Qb t8),eS P Qa t6 (.ref a1),eS P Q8 t7 (.str Q7 t9)] 3,#[]⟩⟩]).fin [] [] nN nN (fun b t=>(ok (.int x0 t1)))
noncomputable def dQ (P:Params) (h g:Nat→Nat) (e:Nat) (x0:Int) (t1:Nat) (x1:Int) (t2 a1 n:Nat) (K:List (Nat × Value)) (t3 t4 a2 a3 t5 t6 t7 t8 t9 t10 t11 a4 a5:Nat):RS:=(aG 150 (uK) false (aq 1394 [.ref (h 68),(.ref a5)]) [⟨false,a1,oL e [(.int x0 t1),(.int x1 t2)]⟩,⟨false,a4,oT [(.int 1 t11)]⟩,⟨false,a5,oT [(.int (Int.ofNat (n+1)) t10),(.ref a4)]⟩,bP P h g false (n+1) t3,cS h false (n+1) ((t4,.ref a2)::K),⟨false,a2,⟨.ref 1271,some a3,.plain,#[]⟩⟩,⟨false,a3,⟨yD,none,.dict #[eS P Q9 t5 (.str Qb t8),eS P Qa t6 (.ref a1),eS P Q8 t7 (.str Q7 t9)] 3,#[]⟩⟩]).fin [] [] nN nN (fun b t=>(ok (.int x1 t2)))
noncomputable def cf (P:Params) (h g:Nat→Nat) (e:Nat) (x0:Int) (t1:Nat) (x1:Int) (t2:Nat) (x2:Int) (t3 a1 n:Nat) (K:List (Nat × Value)) (t4 t5 a2 a3 t6 t7 t8 t9 t10 t11 t12 a4 a5:Nat):RS:=(aG 150 (uK) false (aq 1394 [.ref (h 68),(.ref a5)]) [⟨false,a1,oL e [(.int x0 t1),(.int x1 t2),(.int x2 t3)]⟩,⟨false,a4,oT [(.int 0 t12)]⟩,⟨false,a5,oT [(.int (Int.ofNat (n+1)) t11),(.ref a4)]⟩,bP P h g false (n+1) t4,cS h false (n+1) ((t5,.ref a2)::K),⟨false,a2,⟨.ref 1271,some a3,.plain,#[]⟩⟩,⟨false,a3,⟨yD,none,.dict #[eS P Q9 t6 (.str Qb t9),eS P Qa t7 (.ref a1),eS P Q8 t8 (.str Q7 t10)] 3,#[]⟩⟩]).fin [] [] nN nN (fun b t=>(ok (.int x0 t1)))
noncomputable def cj (P:Params) (h g:Nat→Nat) (e:Nat) (x0:Int) (t1:Nat) (x1:Int) (t2:Nat) (x2:Int) (t3 a1 n:Nat) (K:List (Nat × Value)) (t4 t5 a2 a3 t6 t7 t8 t9 t10 t11 t12 a4 a5:Nat):RS:=(aG 150 (uK) false (aq 1394 [.ref (h 68),(.ref a5)]) [⟨false,a1,oL e [(.int x0 t1),(.int x1 t2),(.int x2 t3)]⟩,⟨false,a4,oT [(.int 1 t12)]⟩,⟨false,a5,oT [(.int (Int.ofNat (n+1)) t11),(.ref a4)]⟩,bP P h g false (n+1) t4,cS h false (n+1) ((t5,.ref a2)::K),⟨false,a2,⟨.ref 1271,some a3,.plain,#[]⟩⟩,⟨false,a3,⟨yD,none,.dict #[eS P Q9 t6 (.str Qb t9),eS P Qa t7 (.ref a1),eS P Q8 t8 (.str Q7 t10)] 3,#[]⟩⟩]).fin [] [] nN nN (fun b t=>(ok (.int x1 t2)))
noncomputable def ck (P:Params) (h g:Nat→Nat) (e:Nat) (x0:Int) (t1:Nat) (x1:Int) (t2:Nat) (x2:Int) (t3 a1 n:Nat) (K:List (Nat × Value)) (t4 t5 a2 a3 t6 t7 t8 t9 t10 t11 t12 a4 a5:Nat):RS:=(aG 150 (uK) false (aq 1394 [.ref (h 68),(.ref a5)]) [⟨false,a1,oL e [(.int x0 t1),(.int x1 t2),(.int x2 t3)]⟩,⟨false,a4,oT [(.int 2 t12)]⟩,⟨false,a5,oT [(.int (Int.ofNat (n+1)) t11),(.ref a4)]⟩,bP P h g false (n+1) t4,cS h false (n+1) ((t5,.ref a2)::K),⟨false,a2,⟨.ref 1271,some a3,.plain,#[]⟩⟩,⟨false,a3,⟨yD,none,.dict #[eS P Q9 t6 (.str Qb t9),eS P Qa t7 (.ref a1),eS P Q8 t8 (.str Q7 t10)] 3,#[]⟩⟩]).fin [] [] nN nN (fun b t=>(ok (.int x2 t3)))
noncomputable def fR (P:Params) (h g:Nat→Nat) (e:Nat) (x0:Int) (t1:Nat) (x1:Int) (t2:Nat) (x2:Int) (t3:Nat) (x3:Int) (t4 a1 n:Nat) (K:List (Nat × Value)) (t5 t6 a2 a3 t7 t8 t9 t10 t11 t12 t13 a4 a5:Nat):RS:=(aG 150 (uK) false (aq 1394 [.ref (h 68),(.ref a5)]) [⟨false,a1,oL e [(.int x0 t1),(.int x1 t2),(.int x2 t3),(.int x3 t4)]⟩,⟨false,a4,oT [(.int 0 t13)]⟩,⟨false,a5,oT [(.int (Int.ofNat (n+1)) t12),(.ref a4)]⟩,bP P h g false (n+1) t5,cS h false (n+1) ((t6,.ref a2)::K),⟨false,a2,⟨.ref 1271,some a3,.plain,#[]⟩⟩,⟨false,a3,⟨yD,none,.dict #[eS P Q9 t7 (.str Qb t10),eS P Qa t8 (.ref a1),eS P Q8 t9 (.str Q7 t11)] 3,#[]⟩⟩]).fin [] [] nN nN (fun b t=>(ok (.int x0 t1)))
noncomputable def fX (P:Params) (h g:Nat→Nat) (e:Nat) (x0:Int) (t1:Nat) (x1:Int) (t2:Nat) (x2:Int) (t3:Nat) (x3:Int) (t4 a1 n:Nat) (K:List (Nat × Value)) (t5 t6 a2 a3 t7 t8 t9 t10 t11 t12 t13 a4 a5:Nat):RS:=(aG 150 (uK) false (aq 1394 [.ref (h 68),(.ref a5)]) [⟨false,a1,oL e [(.int x0 t1),(.int x1 t2),(.int x2 t3),(.int x3 t4)]⟩,⟨false,a4,oT [(.int 1 t13)]⟩,⟨false,a5,oT [(.int (Int.ofNat (n+1)) t12),(.ref a4)]⟩,bP P h g false (n+1) t5,cS h false (n+1) ((t6,.ref a2)::K),⟨false,a2,⟨.ref 1271,some a3,.plain,#[]⟩⟩,⟨false,a3,⟨yD,none,.dict #[eS P Q9 t7 (.str Qb t10),eS P Qa t8 (.ref a1),eS P Q8 t9 (.str Q7 t11)] 3,#[]⟩⟩]).fin [] [] nN nN (fun b t=>(ok (.int x1 t2)))
noncomputable def gh (P:Params) (h g:Nat→Nat) (e:Nat) (x0:Int) (t1:Nat) (x1:Int) (t2:Nat) (x2:Int) (t3:Nat) (x3:Int) (t4 a1 n:Nat) (K:List (Nat × Value)) (t5 t6 a2 a3 t7 t8 t9 t10 t11 t12 t13 a4 a5:Nat):RS:=(aG 150 (uK) false (aq 1394 [.ref (h 68),(.ref a5)]) [⟨false,a1,oL e [(.int x0 t1),(.int x1 t2),(.int x2 t3),(.int x3 t4)]⟩,⟨false,a4,oT [(.int 2 t13)]⟩,⟨false,a5,oT [(.int (Int.ofNat (n+1)) t12),(.ref a4)]⟩,bP P h g false (n+1) t5,cS h false (n+1) ((t6,.ref a2)::K),⟨false,a2,⟨.ref 1271,some a3,.plain,#[]⟩⟩,⟨false,a3,⟨yD,none,.dict #[eS P Q9 t7 (.str Qb t10),eS P Qa t8 (.ref a1),eS P Q8 t9 (.str Q7 t11)] 3,#[]⟩⟩]).fin [] [] nN nN (fun b t=>(ok (.int x2 t3)))
noncomputable def fU (P:Params) (h g:Nat→Nat) (e:Nat) (x0:Int) (t1:Nat) (x1:Int) (t2:Nat) (x2:Int) (t3:Nat) (x3:Int) (t4 a1 n:Nat) (K:List (Nat × Value)) (t5 t6 a2 a3 t7 t8 t9 t10 t11 t12 t13 a4 a5:Nat):RS:=(aG 150 (uK) false (aq 1394 [.ref (h 68),(.ref a5)]) [⟨false,a1,oL e [(.int x0 t1),(.int x1 t2),(.int x2 t3),(.int x3 t4)]⟩,⟨false,a4,oT [(.int 3 t13)]⟩,⟨false,a5,oT [(.int (Int.ofNat (n+1)) t12),(.ref a4)]⟩,bP P h g false (n+1) t5,cS h false (n+1) ((t6,.ref a2)::K),⟨false,a2,⟨.ref 1271,some a3,.plain,#[]⟩⟩,⟨false,a3,⟨yD,none,.dict #[eS P Q9 t7 (.str Qb t10),eS P Qa t8 (.ref a1),eS P Q8 t9 (.str Q7 t11)] 3,#[]⟩⟩]).fin [] [] nN nN (fun b t=>(ok (.int x3 t4)))
theorem dA {w:World} {h g:Nat→Nat}:(∀ {e x0 t1 x1 t2 a1 n K t3 t4 a2 a3 t5 t6 t7 t8 t9 t10 t11 a4 a5},ag K=n→n≤1000→(dH w.params h g e x0 t1 x1 t2 a1 n K t3 t4 a2 a3 t5 t6 t7 t8 t9 t10 t11 a4 a5).S.Holds (BB w h g)) ∧
 (∀ {e x0 t1 x1 t2 a1 n K t3 t4 a2 a3 t5 t6 t7 t8 t9 t10 t11 a4 a5},ag K=n→n≤1000→(dQ w.params h g e x0 t1 x1 t2 a1 n K t3 t4 a2 a3 t5 t6 t7 t8 t9 t10 t11 a4 a5).S.Holds (BB w h g)) ∧
 (∀ {e x0 t1 x1 t2 x2 t3 a1 n K t4 t5 a2 a3 t6 t7 t8 t9 t10 t11 t12 a4 a5},ag K=n→n≤1000→(cf w.params h g e x0 t1 x1 t2 x2 t3 a1 n K t4 t5 a2 a3 t6 t7 t8 t9 t10 t11 t12 a4 a5).S.Holds (BB w h g)) ∧
 (∀ {e x0 t1 x1 t2 x2 t3 a1 n K t4 t5 a2 a3 t6 t7 t8 t9 t10 t11 t12 a4 a5},ag K=n→n≤1000→(cj w.params h g e x0 t1 x1 t2 x2 t3 a1 n K t4 t5 a2 a3 t6 t7 t8 t9 t10 t11 t12 a4 a5).S.Holds (BB w h g)) ∧
 (∀ {e x0 t1 x1 t2 x2 t3 a1 n K t4 t5 a2 a3 t6 t7 t8 t9 t10 t11 t12 a4 a5},ag K=n→n≤1000→(ck w.params h g e x0 t1 x1 t2 x2 t3 a1 n K t4 t5 a2 a3 t6 t7 t8 t9 t10 t11 t12 a4 a5).S.Holds (BB w h g)) ∧
 (∀ {e x0 t1 x1 t2 x2 t3 x3 t4 a1 n K t5 t6 a2 a3 t7 t8 t9 t10 t11 t12 t13 a4 a5},ag K=n→n≤1000→(fR w.params h g e x0 t1 x1 t2 x2 t3 x3 t4 a1 n K t5 t6 a2 a3 t7 t8 t9 t10 t11 t12 t13 a4 a5).S.Holds (BB w h g)) ∧
 (∀ {e x0 t1 x1 t2 x2 t3 x3 t4 a1 n K t5 t6 a2 a3 t7 t8 t9 t10 t11 t12 t13 a4 a5},ag K=n→n≤1000→(fX w.params h g e x0 t1 x1 t2 x2 t3 x3 t4 a1 n K t5 t6 a2 a3 t7 t8 t9 t10 t11 t12 t13 a4 a5).S.Holds (BB w h g)) ∧
 (∀ {e x0 t1 x1 t2 x2 t3 x3 t4 a1 n K t5 t6 a2 a3 t7 t8 t9 t10 t11 t12 t13 a4 a5},ag K=n→n≤1000→(gh w.params h g e x0 t1 x1 t2 x2 t3 x3 t4 a1 n K t5 t6 a2 a3 t7 t8 t9 t10 t11 t12 t13 a4 a5).S.Holds (BB w h g)) ∧
 (∀ {e x0 t1 x1 t2 x2 t3 x3 t4 a1 n K t5 t6 a2 a3 t7 t8 t9 t10 t11 t12 t13 a4 a5},ag K=n→n≤1000→(fU w.params h g e x0 t1 x1 t2 x2 t3 x3 t4 a1 n K t5 t6 a2 a3 t7 t8 t9 t10 t11 t12 t13 a4 a5).S.Holds (BB w h g)):=by
 refine ⟨fun {e x0 t1 x1 t2 a1 n K t3 t4 a2 a3 t5 t6 t7 t8 t9 t10 t11 a4 a5} hK hn=>dm 759 (ce [iT]) [u (fun A J O=>aT w.params h g n K (Prod.mk t4 (.ref (A 5))) t10) [4] [],u (fun A J O=>aU w.params h g n K (Prod.mk t4 (.ref (A 5))) t10) [4] [],u (fun A J O=>dS w.params h g false true (DT.s true (A 1) 0 [(DT.v (.int 0 t11))]) (DT.s true (A 18) 0 []) false []) [1,18] []] (aa (aW hK) (aa (aX hK) (aa (gT false rfl (Nat.le_of_ble_eq_true (by kernel_rfl)) (.inr ⟨rfl,(.left _ _)⟩) j1) ak))) ?_,
 fun {e x0 t1 x1 t2 a1 n K t3 t4 a2 a3 t5 t6 t7 t8 t9 t10 t11 a4 a5} hK hn=>dm 759 (ce [iT]) [u (fun A J O=>aT w.params h g n K (Prod.mk t4 (.ref (A 5))) t10) [4] [],u (fun A J O=>aU w.params h g n K (Prod.mk t4 (.ref (A 5))) t10) [4] [],u (fun A J O=>dS w.params h g false true (DT.s true (A 1) 0 [(DT.v (.int 1 t11))]) (DT.s true (A 18) 0 []) false []) [1,18] []] (aa (aW hK) (aa (aX hK) (aa (gT false rfl (Nat.le_of_ble_eq_true (by kernel_rfl)) (.inr ⟨rfl,(.left _ _)⟩) j1) ak))) ?_,
 fun {e x0 t1 x1 t2 x2 t3 a1 n K t4 t5 a2 a3 t6 t7 t8 t9 t10 t11 t12 a4 a5} hK hn=>dm 759 (ce [iT]) [u (fun A J O=>aT w.params h g n K (Prod.mk t5 (.ref (A 5))) t11) [4] [],u (fun A J O=>aU w.params h g n K (Prod.mk t5 (.ref (A 5))) t11) [4] [],u (fun A J O=>dS w.params h g false true (DT.s true (A 1) 0 [(DT.v (.int 0 t12))]) (DT.s true (A 18) 0 []) false []) [1,18] []] (aa (aW hK) (aa (aX hK) (aa (gT false rfl (Nat.le_of_ble_eq_true (by kernel_rfl)) (.inr ⟨rfl,(.left _ _)⟩) j1) ak))) ?_,
 fun {e x0 t1 x1 t2 x2 t3 a1 n K t4 t5 a2 a3 t6 t7 t8 t9 t10 t11 t12 a4 a5} hK hn=>dm 759 (ce [iT]) [u (fun A J O=>aT w.params h g n K (Prod.mk t5 (.ref (A 5))) t11) [4] [],u (fun A J O=>aU w.params h g n K (Prod.mk t5 (.ref (A 5))) t11) [4] [],u (fun A J O=>dS w.params h g false true (DT.s true (A 1) 0 [(DT.v (.int 1 t12))]) (DT.s true (A 18) 0 []) false []) [1,18] []] (aa (aW hK) (aa (aX hK) (aa (gT false rfl (Nat.le_of_ble_eq_true (by kernel_rfl)) (.inr ⟨rfl,(.left _ _)⟩) j1) ak))) ?_,
 fun {e x0 t1 x1 t2 x2 t3 a1 n K t4 t5 a2 a3 t6 t7 t8 t9 t10 t11 t12 a4 a5} hK hn=>dm 759 (ce [iT]) [u (fun A J O=>aT w.params h g n K (Prod.mk t5 (.ref (A 5))) t11) [4] [],u (fun A J O=>aU w.params h g n K (Prod.mk t5 (.ref (A 5))) t11) [4] [],u (fun A J O=>dS w.params h g false true (DT.s true (A 1) 0 [(DT.v (.int 2 t12))]) (DT.s true (A 18) 0 []) false []) [1,18] []] (aa (aW hK) (aa (aX hK) (aa (gT false rfl (Nat.le_of_ble_eq_true (by kernel_rfl)) (.inr ⟨rfl,(.left _ _)⟩) j1) ak))) ?_,
 fun {e x0 t1 x1 t2 x2 t3 x3 t4 a1 n K t5 t6 a2 a3 t7 t8 t9 t10 t11 t12 t13 a4 a5} hK hn=>dm 759 (ce [iT]) [u (fun A J O=>aT w.params h g n K (Prod.mk t6 (.ref (A 5))) t12) [4] [],u (fun A J O=>aU w.params h g n K (Prod.mk t6 (.ref (A 5))) t12) [4] [],u (fun A J O=>dS w.params h g false true (DT.s true (A 1) 0 [(DT.v (.int 0 t13))]) (DT.s true (A 18) 0 []) false []) [1,18] []] (aa (aW hK) (aa (aX hK) (aa (gT false rfl (Nat.le_of_ble_eq_true (by kernel_rfl)) (.inr ⟨rfl,(.left _ _)⟩) j1) ak))) ?_,
 fun {e x0 t1 x1 t2 x2 t3 x3 t4 a1 n K t5 t6 a2 a3 t7 t8 t9 t10 t11 t12 t13 a4 a5} hK hn=>dm 759 (ce [iT]) [u (fun A J O=>aT w.params h g n K (Prod.mk t6 (.ref (A 5))) t12) [4] [],u (fun A J O=>aU w.params h g n K (Prod.mk t6 (.ref (A 5))) t12) [4] [],u (fun A J O=>dS w.params h g false true (DT.s true (A 1) 0 [(DT.v (.int 1 t13))]) (DT.s true (A 18) 0 []) false []) [1,18] []] (aa (aW hK) (aa (aX hK) (aa (gT false rfl (Nat.le_of_ble_eq_true (by kernel_rfl)) (.inr ⟨rfl,(.left _ _)⟩) j1) ak))) ?_,
 fun {e x0 t1 x1 t2 x2 t3 x3 t4 a1 n K t5 t6 a2 a3 t7 t8 t9 t10 t11 t12 t13 a4 a5} hK hn=>dm 759 (ce [iT]) [u (fun A J O=>aT w.params h g n K (Prod.mk t6 (.ref (A 5))) t12) [4] [],u (fun A J O=>aU w.params h g n K (Prod.mk t6 (.ref (A 5))) t12) [4] [],u (fun A J O=>dS w.params h g false true (DT.s true (A 1) 0 [(DT.v (.int 2 t13))]) (DT.s true (A 18) 0 []) false []) [1,18] []] (aa (aW hK) (aa (aX hK) (aa (gT false rfl (Nat.le_of_ble_eq_true (by kernel_rfl)) (.inr ⟨rfl,(.left _ _)⟩) j1) ak))) ?_,
 fun {e x0 t1 x1 t2 x2 t3 x3 t4 a1 n K t5 t6 a2 a3 t7 t8 t9 t10 t11 t12 t13 a4 a5} hK hn=>dm 759 (ce [iT]) [u (fun A J O=>aT w.params h g n K (Prod.mk t6 (.ref (A 5))) t12) [4] [],u (fun A J O=>aU w.params h g n K (Prod.mk t6 (.ref (A 5))) t12) [4] [],u (fun A J O=>dS w.params h g false true (DT.s true (A 1) 0 [(DT.v (.int 3 t13))]) (DT.s true (A 18) 0 []) false []) [1,18] []] (aa (aW hK) (aa (aX hK) (aa (gT false rfl (Nat.le_of_ble_eq_true (by kernel_rfl)) (.inr ⟨rfl,(.left _ _)⟩) j1) ak))) ?_⟩ <;> intro cb ν τ υ π ς ρ own past κ bl p <;> kernel_rfl
end
section
open PySem.SeqAt
noncomputable def eL (js:List Nat) (f:Code→List Cell→List Nat→RS):LibE:=⟨js,fun c l m=>(f c l m).S⟩
noncomputable def F0 (P:Params) (h g:Nat→Nat):List LibE:=[
 eL [] fun c l m=>aN P h g Ez (vt (ar c 1)),
 eL [] fun c l m=>aN P h g Qr (vt (ar c 1)),
 eL [] fun c l m=>aN P h g Qm (vt (ar c 1)),
 eL [] fun c l m=>aN P h g Et (vt (ar c 1)),
 eL [] fun c l m=>aN P h g Ey (vt (ar c 1)),
 eL [] fun c l m=>aN P h g Ex (vt (ar c 1)),
 eL [] fun c l m=>aN P h g Qh (vt (ar c 1)),
 eL [] fun c l m=>aN P h g Qu (vt (ar c 1)),
 eL [] fun c l m=>aN P h g Qq (vt (ar c 1)),
 eL [] fun c l m=>aN P h g EC (vt (ar c 1)),
 eL [] fun c l m=>aN P h g Ca (vt (ar c 1)),
 eL [] fun c l m=>aN P h g Dh (vt (ar c 1)),
 eL [] fun c l m=>aN P h g Qs (vt (ar c 1)),
 eL [] fun c l m=>aN P h g Qv (vt (ar c 1)),
 eL [] fun c l m=>aN P h g Qj (vt (ar c 1)),
 eL [] fun c l m=>aN P h g Qz (vt (ar c 1)),
 eL [] fun c l m=>dM P h g Q2 (vt (ar c 1)),
 eL [] fun c l m=>dM P h g Q0 (vt (ar c 1)),
 eL [] fun c l m=>dM P h g Q4 (vt (ar c 1)),
 eL [] fun c l m=>dM P h g Q3 (vt (ar c 1)),
 eL [] fun c l m=>bT P h g ⟨#[33,61]⟩ (vt (ar c 1)),
 eL [] fun c l m=>bT P h g ⟨#[42]⟩ (vt (ar c 1)),
 eL [] fun c l m=>bT P h g ⟨#[43]⟩ (vt (ar c 1)),
 eL [] fun c l m=>bT P h g ⟨#[45]⟩ (vt (ar c 1)),
 eL [] fun c l m=>bT P h g ⟨#[60]⟩ (vt (ar c 1)),
 eL [] fun c l m=>bT P h g ⟨#[61,61]⟩ (vt (ar c 1)),
 eL [] fun c l m=>bT P h g Qy (vt (ar c 1)),
 eL [] fun c l m=>fY P h g ⟨#[42]⟩ (vt (ar c 1)),
 eL [] fun c l m=>fY P h g ⟨#[43]⟩ (vt (ar c 1)),
 eL [] fun c l m=>fY P h g ⟨#[45]⟩ (vt (ar c 1)),
 eL [] fun c l m=>pe P h g Q1 (vt (ar c 1)),
 eL [] fun c l m=>DY P h g (ad l 0) (vs (it l 0 0)) (vs (it l 0 1)) (vt (it l 0 0)) (vt (it l 0 1)) (vs (ar c 1)) (vt (ar c 1)),
 eL [] fun c l m=>D7 P h g (ad l 0) Q1 Qd (vt (de l 0 0).key) (vt (de l 0 1).key) (de l 0 0).val (de l 0 1).val Q1 (vt (ar c 1)),
 eL [] fun c l m=>D7 P h g (ad l 0) Q1 Qd (vt (de l 0 0).key) (vt (de l 0 1).key) (de l 0 0).val (de l 0 1).val Qd (vt (ar c 1)),
 eL [0,1] fun c l m=>c7 P h g 0 (vt (ar c 1)) (.bytes (vb (ar c 2)) (vt (ar c 2))) (v7 (ob l 0)) (v7 (ob l 1)),
 eL [0,1] fun c l m=>c7 P h g 0 (vt (ar c 1)) (.int (vi (ar c 2)) (vt (ar c 2))) (v7 (ob l 0)) (v7 (ob l 1)),
 eL [0,1] fun c l m=>c7 P h g 0 (vt (ar c 1)) (.ref (vr (ar c 2))) (v7 (ob l 0)) (v7 (ob l 1)),
 eL [0,1] fun c l m=>c7 P h g 0 (vt (ar c 1)) (.bool (vo (ar c 2))) (v7 (ob l 0)) (v7 (ob l 1)),
 eL [0,1] fun c l m=>c7 P h g 1 (vt (ar c 1)) (.bytes (vb (ar c 2)) (vt (ar c 2))) (v7 (ob l 0)) (v7 (ob l 1)),
 eL [0,1] fun c l m=>c7 P h g 1 (vt (ar c 1)) (.int (vi (ar c 2)) (vt (ar c 2))) (v7 (ob l 0)) (v7 (ob l 1)),
 eL [0,1] fun c l m=>c7 P h g 1 (vt (ar c 1)) (.ref (vr (ar c 2))) (v7 (ob l 0)) (v7 (ob l 1)),
 eL [0,1] fun c l m=>c7 P h g 2 (vt (ar c 1)) (.ref (vr (ar c 2))) (v7 (ob l 0)) (v7 (ob l 1)),
 eL [0,1] fun c l m=>c7 P h g 2 (vt (ar c 1)) (.bool (vo (ar c 2))) (v7 (ob l 0)) (v7 (ob l 1)),
 eL [0,1] fun c l m=>c7 P h g 3 (vt (ar c 1)) (.int (vi (ar c 2)) (vt (ar c 2))) (v7 (ob l 0)) (v7 (ob l 1)),
 eL [] fun c l m=>mI P h g (ad l 0) (vt (it l 0 0)) (it l 0 1) (it l 0 2),
 eL [] fun c l m=>vp P h g (ad l 0) (vt (it l 0 0)) (vt (it l 0 1)) (vr (it l 1 0)) (v7 (ob l 1)) (v7 (ob l 2)),
 eL [] fun c l m=>vM P h g (ad l 0) (vt (it l 0 0)) (vt (it l 0 1)) (vr (it l 1 1)) (v7 (ob l 1)) (v7 (ob l 2)),
 eL [] fun c l m=>lX P h g (ad l 0) (vt (it l 0 0)) EE,
 eL [] fun c l m=>lX P h g (ad l 0) (vt (it l 0 0)) Qd,
 eL [] fun c l m=>gY P h g (ad l 0) (vt (it l 0 0)) Q1 (it l 0 1),
 eL [] fun c l m=>gY P h g (ad l 0) (vt (it l 0 0)) Qw (it l 0 1),
 eL [] fun c l m=>gY P h g (ad l 0) (vt (it l 0 0)) Qi (it l 0 1),
 eL [] fun c l m=>hA P h g (ad l 0) (vt (it l 0 0)) EK (it l 0 1) (it l 0 2),
 eL [] fun c l m=>hA P h g (ad l 0) (vt (it l 0 0)) Qg (it l 0 1) (it l 0 2),
 eL [] fun c l m=>hA P h g (ad l 0) (vt (it l 0 0)) Qe (it l 0 1) (it l 0 2),
 eL [] fun c l m=>lN P h g (vi (ar c 1)) (vt (ar c 1)) (vt (ar c 2)) (vs (ar c 2)),
 eL [] fun c l m=>jL P h g (ad l 0) (dn l 0),
 eL [0,1,2] fun c l m=>C2 P h g (ad l 0) (ad l 1) (ad l 2) (ad l 3) (ef c) (v7 (ob l 4)),
 eL [0,1,2] fun c l m=>vL P h g (ad l 0) (ad l 1) (ad l 2) (ad l 3) (ef c) (vi (it l 4 0)) (vt (it l 4 0)) (v7 (ob l 4)),
 eL [0,1,2] fun c l m=>vz P h g (ad l 0) (ad l 1) (ad l 2) (ad l 3) (ef c) (vb (it l 4 0)) (vt (it l 4 0)) (v7 (ob l 4)),
 eL [0,1,2] fun c l m=>vq P h g (ad l 0) (ad l 1) (ad l 2) (ad l 3) (ef c) (vr (it l 4 0)) (v7 (ob l 4)),
 eL [0,1,2] fun c l m=>vG P h g (ad l 0) (ad l 1) (ad l 2) (ad l 3) (ef c) (vo (it l 4 0)) (v7 (ob l 4)),
 eL [0,1,2] fun c l m=>qw P h g (ad l 0) (ad l 1) (ad l 2) (ad l 3) (ef c) (vr (it l 4 0)) (vr (it l 4 1)) (v7 (ob l 4)),
 eL [0,1,2] fun c l m=>pZ P h g (ad l 0) (ad l 1) (ad l 2) (ad l 3) (ef c) (vr (it l 4 0)) (vi (it l 4 1)) (vt (it l 4 1)) (v7 (ob l 4)),
 eL [0,1,2] fun c l m=>oJ P h g (ad l 0) (ad l 1) (ad l 2) (ad l 3) (ef c) (vr (it l 4 0)) (vb (it l 4 1)) (vt (it l 4 1)) (v7 (ob l 4)),
 eL [0,1,2] fun c l m=>m9 P h g (ad l 0) (ad l 1) (ad l 2) (ad l 3) (ef c) (vr (it l 4 0)) (vr (it l 4 1)) (vr (it l 4 2)) (v7 (ob l 4)),
 eL [0,1,2] fun c l m=>lZ P h g (ad l 0) (ad l 1) (ad l 2) (ad l 3) (ef c) (vr (it l 4 0)) (vb (it l 4 1)) (vt (it l 4 1)) (vo (it l 4 2)) (v7 (ob l 4)),
 eL [0,1,2] fun c l m=>m5 P h g (ad l 0) (ad l 1) (ad l 2) (ad l 3) (ef c) (vr (it l 4 0)) (vi (it l 4 1)) (vt (it l 4 1)) (vo (it l 4 2)) (v7 (ob l 4)),
 eL [0,1,2] fun c l m=>jl P h g (ad l 0) (ad l 1) (ad l 2) (ad l 3) (ef c) (vr (it l 4 0)) (vb (it l 4 1)) (vt (it l 4 1)) (vo (it l 4 2)) (vi (it l 4 3)) (vt (it l 4 3)) (v7 (ob l 4)),
 eL [0,1,2] fun c l m=>pq P h g (ad l 0) (ad l 4) (ad l 1) (ad l 2) (ad l 3) (ef c) (ad l 5) (ad l 6) (vt (it l 5 0)) (vt (it l 5 2)) (vt (it l 6 0)) (vt (it l 6 2)) (it l 5 1) (it l 6 1) (vi (it l 5 2)) (vi (it l 6 2)),
 eL [] fun c l m=>qH P h g (vr (ar c 0)) (vr (ar c 1)),
 eL [] fun c l m=>qP P h g (vr (ar c 0)) (vi (ar c 1)) (vt (ar c 1)),
 eL [] fun c l m=>qg P h g (vr (ar c 0)) (vb (ar c 1)) (vt (ar c 1)),
 eL [] fun c l m=>pt P h g (vr (ar c 0)) (vo (ar c 1)),
 eL [] fun c l m=>qt P h g (vr (ar c 0)) ,
 eL [] fun c l m=>sP P h g (ad l 0) (ad l 1) (vt (it l 1 0)) (vt (it l 1 1)) (vi (it l 1 1)),
 eL [0] fun c l m=>tI P h g (ad l 0) (ad l 1) (vt (it l 1 0)) (vt (it l 1 1)) (vi (it l 1 1)) (ar c 2),
 eL [] fun c l m=>s7 P h g (ad l 0) (ad l 1) (vt (it l 1 0)) (vt (it l 1 1)) (ad l 2) (vt (it l 2 0)) (vt (it l 2 1)) (vi (it l 1 1)) (de l 0 0).val,
 eL [0] fun c l m=>ub P h g (ad l 0) (ad l 1) (vt (it l 1 0)) (vt (it l 1 1)) (ad l 2) (vt (it l 2 0)) (vt (it l 2 1)) (vi (it l 1 1)) (de l 0 0).val,
 eL [] fun c l m=>C6 P h g (vt (it l 0 0)) (vi (it l 0 1)) (vt (it l 0 1)) (ad l 0) (vr (it l 0 2)),
 eL [] fun c l m=>zY P h g false false l m,
 eL [] fun c l m=>zY P h g false true l m,
 eL [] fun c l m=>zY P h g true false l m,
 eL [] fun c l m=>zY P h g true true l m]
theorem De (w:World) (h g:Nat→Nat):gq (BB w h g) (F0 w.params h g) :=
 ⟨fun _ _ _=>je,⟨fun _ _ _=>jQ,⟨fun _ _ _=>iY,⟨fun _ _ _=>ou,⟨fun _ _ _=>nq,⟨fun _ _ _=>iu,⟨fun _ _ _=>mU,⟨fun _ _ _=>gN,⟨fun _ _ _=>mT,⟨fun _ _ _=>gQ,⟨fun _ _ _=>j3,⟨fun _ _ _=>jv,⟨fun _ _ _=>ji,⟨fun _ _ _=>jm,⟨fun _ _ _=>nu,⟨fun _ _ _=>kU,⟨fun _ _ _=>n5,⟨fun _ _ _=>p1,⟨fun _ _ _=>lc,⟨fun _ _ _=>nG,⟨fun _ _ _=>C8,⟨fun _ _ _=>Cw,⟨fun _ _ _=>AX,⟨fun _ _ _=>Ax,⟨fun _ _ _=>DJ,⟨fun _ _ _=>Ed,⟨fun _ _ _=>Ee,⟨fun _ _ _=>Ag,⟨fun _ _ _=>Dk,⟨fun _ _ _=>AC,⟨fun _ _ _=>BO,⟨fun _ _ _=>F1 _ _ _ _ _ _ _ _ _ _ (tY _ _ _ _ _),⟨fun _ _ _=>DU,⟨fun _ _ _=>AV,⟨fun _ _ _=>cg.2.2.2.2.2.2.2.2.2.2.2.2.1,⟨fun _ _ _=>cg.2.2.2.2.2.2.2.2.2.2.2.2.2.2.2.1,⟨fun _ _ _=>cg.2.2.2.1,⟨fun _ _ _=>cg.2.2.2.2.2.2.2.2.2.1,⟨fun _ _ _=>cg.2.2.2.2.2.2.2.2.2.2.2.2.2.2.2.2.2.2.1,⟨fun _ _ _=>cg.2.2.2.2.2.2.1,⟨fun _ _ _=>cg.1,⟨fun _ _ _=>cg.2.2.2.2.2.2.2.2.2.2.2.2.2.1,⟨fun _ _ _=>cg.2.2.2.2.2.2.2.2.2.2.1,⟨fun _ _ _=>cg.2.2.2.2.2.2.2.2.2.2.2.2.2.2.2.2.1,⟨fun _ _ _=>cg.2.2.2.2.1,⟨fun _ _ _=>cg.2.2.2.2.2.2.2.2.2.2.2.2.2.2.2.2.2.2.2.1,⟨fun _ _ _=>cg.2.2.2.2.2.2.2.1,⟨fun _ _ _=>cg.2.1,⟨fun _ _ _=>cg.2.2.2.2.2.2.2.2.2.2.2.1,⟨fun _ _ _=>cg.2.2.2.2.2.2.2.2.2.2.2.2.2.2.1,⟨fun _ _ _=>cg.2.2.2.2.2.2.2.2.2.2.2.2.2.2.2.2.2.1,⟨fun _ _ _=>cg.2.2.2.2.2.1,⟨fun _ _ _=>cg.2.2.2.2.2.2.2.2.2.2.2.2.2.2.2.2.2.2.2.2.1,⟨fun _ _ _=>cg.2.2.2.2.2.2.2.2.1,⟨fun _ _ _=>cg.2.2.1,⟨fun _ _ _=>wv,⟨fun _ _ _=>C4,⟨fun _ _ _=>cg.2.2.2.2.2.2.2.2.2.2.2.2.2.2.2.2.2.2.2.2.2.1,⟨fun _ _ _=>cg.2.2.2.2.2.2.2.2.2.2.2.2.2.2.2.2.2.2.2.2.2.2.1,⟨fun _ _ _=>cg.2.2.2.2.2.2.2.2.2.2.2.2.2.2.2.2.2.2.2.2.2.2.2.1,⟨fun _ _ _=>cg.2.2.2.2.2.2.2.2.2.2.2.2.2.2.2.2.2.2.2.2.2.2.2.2.1,⟨fun _ _ _=>cg.2.2.2.2.2.2.2.2.2.2.2.2.2.2.2.2.2.2.2.2.2.2.2.2.2.1,⟨fun _ _ _=>cg.2.2.2.2.2.2.2.2.2.2.2.2.2.2.2.2.2.2.2.2.2.2.2.2.2.2.1,⟨fun _ _ _=>cg.2.2.2.2.2.2.2.2.2.2.2.2.2.2.2.2.2.2.2.2.2.2.2.2.2.2.2.1,⟨fun _ _ _=>cg.2.2.2.2.2.2.2.2.2.2.2.2.2.2.2.2.2.2.2.2.2.2.2.2.2.2.2.2.1,⟨fun _ _ _=>cg.2.2.2.2.2.2.2.2.2.2.2.2.2.2.2.2.2.2.2.2.2.2.2.2.2.2.2.2.2.1,⟨fun _ _ _=>cg.2.2.2.2.2.2.2.2.2.2.2.2.2.2.2.2.2.2.2.2.2.2.2.2.2.2.2.2.2.2.1,⟨fun _ _ _=>cg.2.2.2.2.2.2.2.2.2.2.2.2.2.2.2.2.2.2.2.2.2.2.2.2.2.2.2.2.2.2.2.1,⟨fun _ _ _=>cg.2.2.2.2.2.2.2.2.2.2.2.2.2.2.2.2.2.2.2.2.2.2.2.2.2.2.2.2.2.2.2.2.1,⟨fun _ _ _=>ba.1,⟨fun _ _ _=>cg.2.2.2.2.2.2.2.2.2.2.2.2.2.2.2.2.2.2.2.2.2.2.2.2.2.2.2.2.2.2.2.2.2.1,⟨fun _ _ _=>cg.2.2.2.2.2.2.2.2.2.2.2.2.2.2.2.2.2.2.2.2.2.2.2.2.2.2.2.2.2.2.2.2.2.2.1,⟨fun _ _ _=>cg.2.2.2.2.2.2.2.2.2.2.2.2.2.2.2.2.2.2.2.2.2.2.2.2.2.2.2.2.2.2.2.2.2.2.2.1,⟨fun _ _ _=>cg.2.2.2.2.2.2.2.2.2.2.2.2.2.2.2.2.2.2.2.2.2.2.2.2.2.2.2.2.2.2.2.2.2.2.2.2.1,⟨fun _ _ _=>cg.2.2.2.2.2.2.2.2.2.2.2.2.2.2.2.2.2.2.2.2.2.2.2.2.2.2.2.2.2.2.2.2.2.2.2.2.2.1,⟨fun _ _ _=>EP,⟨fun _ _ _=>F6,⟨fun _ _ _=>ES,⟨fun _ _ _=>FE,⟨fun _ _ _=>cg.2.2.2.2.2.2.2.2.2.2.2.2.2.2.2.2.2.2.2.2.2.2.2.2.2.2.2.2.2.2.2.2.2.2.2.2.2.2,⟨fun _ _ _=>ui _ _ _ _,⟨fun _ _ _=>ui _ _ _ _,⟨fun _ _ _=>ui _ _ _ _,⟨fun _ _ _=>ui _ _ _ _,trivial⟩⟩⟩⟩⟩⟩⟩⟩⟩⟩⟩⟩⟩⟩⟩⟩⟩⟩⟩⟩⟩⟩⟩⟩⟩⟩⟩⟩⟩⟩⟩⟩⟩⟩⟩⟩⟩⟩⟩⟩⟩⟩⟩⟩⟩⟩⟩⟩⟩⟩⟩⟩⟩⟩⟩⟩⟩⟩⟩⟩⟩⟩⟩⟩⟩⟩⟩⟩⟩⟩⟩⟩⟩⟩⟩⟩⟩⟩⟩⟩⟩⟩⟩⟩
end
section
open PySem.SeqAt
theorem dT {w:World} {h g:Nat→Nat} {D:RS} (n hs:Nat) (us:List Use) (U:cp (BB w h g) us) (H:∀ cb,D.RunsL (BB w h g) (F0 w.params h g) n hs us cb) (a:D.tl=none:=by rfl) (b:∀ ob q,D.SO ob q=D.S:=by exact fun _ _=>rfl):D.S.Holds (BB w h g):=RS.doneL (cy w h g) (De w h g).all (.one H) a b U
noncomputable def kF (P:Params) (h g:Nat→Nat) (e a1 n:Nat) (K:List (Nat × Value)) (t1 t2 a2 a3 t3 t4 t5 t6 t7 t8 t9 t10 t11 t12 a4:Nat):RS:=(aG 250 (Bk) false (aq 626 [.ref (h 68),(.ref a4)]) [⟨false,a1,oL e []⟩,⟨false,a4,oT [(.str Qi t8),(.int (Int.ofNat (n+1)) t9),(.int 0 t10),(.int 0 t11),(.int 0 t12)]⟩,bP P h g false (n+1) t1,cS h false (n+1) ((t2,.ref a2)::K),⟨false,a2,⟨.ref 1271,some a3,.plain,#[]⟩⟩,⟨false,a3,⟨yD,none,.dict #[eS P Q9 t3 (.str Qb t6),eS P Qa t4 (.ref a1),eS P Q8 t5 (.str Q7 t7)] 3,#[]⟩⟩]).fin [15] [] nN (fun b t=>[(oL 0 [])]) rB
noncomputable def lE (P:Params) (h g:Nat→Nat) (e:Nat) (x0:Int) (t1:Nat) (x1:Int) (t2 a1 n:Nat) (K:List (Nat × Value)) (t3 t4 a2 a3 t5 t6 t7 t8 t9 t10 t11 t12 t13 t14 a4:Nat):RS:=(aG 250 (Bk) false (aq 626 [.ref (h 68),(.ref a4)]) [⟨false,a1,oL e [(.int x0 t1),(.int x1 t2)]⟩,⟨false,a4,oT [(.str Qi t10),(.int (Int.ofNat (n+1)) t11),(.int 0 t12),(.int 2 t13),(.int 2 t14)]⟩,bP P h g false (n+1) t3,cS h false (n+1) ((t4,.ref a2)::K),⟨false,a2,⟨.ref 1271,some a3,.plain,#[]⟩⟩,⟨false,a3,⟨yD,none,.dict #[eS P Q9 t5 (.str Qb t8),eS P Qa t6 (.ref a1),eS P Q8 t7 (.str Q7 t9)] 3,#[]⟩⟩]).fin [15] [] nN (fun b t=>[(oL 2 [(.int x0 t1),(.int x1 t2)])]) rB
noncomputable def g9 (P:Params) (h g:Nat→Nat) (e:Nat) (x0:Int) (t1:Nat) (x1:Int) (t2:Nat) (x2:Int) (t3 a1 n:Nat) (K:List (Nat × Value)) (t4 t5 a2 a3 t6 t7 t8 t9 t10 t11 t12 t13 t14 t15 a4:Nat):RS:=(aG 250 (Bk) false (aq 626 [.ref (h 68),(.ref a4)]) [⟨false,a1,oL e [(.int x0 t1),(.int x1 t2),(.int x2 t3)]⟩,⟨false,a4,oT [(.str Qi t11),(.int (Int.ofNat (n+1)) t12),(.int 0 t13),(.int 3 t14),(.int 3 t15)]⟩,bP P h g false (n+1) t4,cS h false (n+1) ((t5,.ref a2)::K),⟨false,a2,⟨.ref 1271,some a3,.plain,#[]⟩⟩,⟨false,a3,⟨yD,none,.dict #[eS P Q9 t6 (.str Qb t9),eS P Qa t7 (.ref a1),eS P Q8 t8 (.str Q7 t10)] 3,#[]⟩⟩]).fin [15] [] nN (fun b t=>[(oL 3 [(.int x0 t1),(.int x1 t2),(.int x2 t3)])]) rB
noncomputable def oM (P:Params) (h g:Nat→Nat) (e:Nat) (x0:Int) (t1:Nat) (x1:Int) (t2:Nat) (x2:Int) (t3:Nat) (x3:Int) (t4 a1 n:Nat) (K:List (Nat × Value)) (t5 t6 a2 a3 t7 t8 t9 t10 t11 t12 t13 t14 t15 t16 a4:Nat):RS:=(aG 250 (Bk) false (aq 626 [.ref (h 68),(.ref a4)]) [⟨false,a1,oL e [(.int x0 t1),(.int x1 t2),(.int x2 t3),(.int x3 t4)]⟩,⟨false,a4,oT [(.str Qi t12),(.int (Int.ofNat (n+1)) t13),(.int 0 t14),(.int 4 t15),(.int 4 t16)]⟩,bP P h g false (n+1) t5,cS h false (n+1) ((t6,.ref a2)::K),⟨false,a2,⟨.ref 1271,some a3,.plain,#[]⟩⟩,⟨false,a3,⟨yD,none,.dict #[eS P Q9 t7 (.str Qb t10),eS P Qa t8 (.ref a1),eS P Q8 t9 (.str Q7 t11)] 3,#[]⟩⟩]).fin [15] [] nN (fun b t=>[(oL 4 [(.int x0 t1),(.int x1 t2),(.int x2 t3),(.int x3 t4)])]) rB
noncomputable def qm (P:Params) (h g:Nat→Nat) (i:Int) (t1 t2:Nat) (T0:Value) (a1 t3 t4 a2 t5 t6 a3 t7 t8 a4:Nat) (R F:V7) (t9:Nat):RS:=(aG 400 (eW) false (aq 1501 [.ref (h 126),(.ref a4),(.int 1 t9)]) [⟨false,a1,oT [(.str Q5 t2),T0,(.int i t1)]⟩,⟨false,a2,oT [(.str Q1 t3),(.str Q1 t4)]⟩,⟨false,a3,oT [(.str Q1 t5),(.str Q0 t6)]⟩,⟨false,a4,oT [(.str Qm t7),(.int 0 t8),(.ref a1),(.ref a2),(.ref a3)]⟩,cT h true R,cU h true F]).fin [23] [48] (fun b t=>[(oL 0 [(.int (iA (Int.fmod (HSub.hSub i (-128)) (HPow.hPow (OfNat.ofNat 2) (Int.toNat (Prod.fst (bC Q0 bN))))) (Int.negSucc 127)) (nb t 0)),R.2,R.3,R.4,R.5,R.6,R.7]),(oL 7 (fA (.bool true) F))]) (fun b t=>[(oL 1 [(.int (iA (Int.fmod (HSub.hSub i (-128)) (HPow.hPow (OfNat.ofNat 2) (Int.toNat (Prod.fst (bC Q0 bN))))) (Int.negSucc 127)) (nb t 0))])]) rB
noncomputable def qK (P:Params) (h g:Nat→Nat) (i:Int) (t1 t2:Nat) (T0:Value) (a1 t3 t4 a2 t5 t6 a3 t7 t8 a4:Nat) (R F:V7) (t9:Nat):RS:=(aG 400 (eW) false (aq 1501 [.ref (h 126),(.ref a4),(.int 1 t9)]) [⟨false,a1,oT [(.str Q5 t2),T0,(.int i t1)]⟩,⟨false,a2,oT [(.str Q1 t3),(.str Q1 t4)]⟩,⟨false,a3,oT [(.str Q1 t5),(.str Q4 t6)]⟩,⟨false,a4,oT [(.str Qm t7),(.int 0 t8),(.ref a1),(.ref a2),(.ref a3)]⟩,cT h true R,cU h true F]).fin [23] [43] (fun b t=>[(oL 0 [(.int (iA (Int.fmod (HSub.hSub i 0) (HPow.hPow (OfNat.ofNat 2) (Int.toNat (Prod.fst (bC Q4 bN))))) (Int.ofNat 0)) (nb t 0)),R.2,R.3,R.4,R.5,R.6,R.7]),(oL 7 (fA (.bool true) F))]) (fun b t=>[(oL 1 [(.int (iA (Int.fmod (HSub.hSub i 0) (HPow.hPow (OfNat.ofNat 2) (Int.toNat (Prod.fst (bC Q4 bN))))) (Int.ofNat 0)) (nb t 0))])]) rB
noncomputable def pK (P:Params) (h g:Nat→Nat) (i:Int) (t1 t2:Nat) (T0:Value) (a1 t3 t4 a2 t5 t6 a3 t7 t8 a4:Nat) (R F:V7) (t9:Nat):RS:=(aG 400 (eW) false (aq 1501 [.ref (h 126),(.ref a4),(.int 1 t9)]) [⟨false,a1,oT [(.str Q5 t2),T0,(.int i t1)]⟩,⟨false,a2,oT [(.str Q1 t3),(.str Q1 t4)]⟩,⟨false,a3,oT [(.str Q1 t5),(.str Q2 t6)]⟩,⟨false,a4,oT [(.str Qm t7),(.int 0 t8),(.ref a1),(.ref a2),(.ref a3)]⟩,cT h true R,cU h true F]).fin [23] [48] (fun b t=>[(oL 0 [(.int (iA (Int.fmod (HSub.hSub i (-9223372036854775808)) (HPow.hPow (OfNat.ofNat 2) (Int.toNat (Prod.fst (bC Q2 bN))))) (Int.negSucc 9223372036854775807)) (nb t 0)),R.2,R.3,R.4,R.5,R.6,R.7]),(oL 7 (fA (.bool true) F))]) (fun b t=>[(oL 1 [(.int (iA (Int.fmod (HSub.hSub i (-9223372036854775808)) (HPow.hPow (OfNat.ofNat 2) (Int.toNat (Prod.fst (bC Q2 bN))))) (Int.negSucc 9223372036854775807)) (nb t 0))])]) rB
noncomputable def r4 (P:Params) (h g:Nat→Nat) (i:Int) (t1 t2:Nat) (T0:Value) (a1 t3 t4 a2 t5 t6 a3 t7 t8 a4:Nat) (R F:V7) (t9:Nat):RS:=(aG 400 (eW) false (aq 1501 [.ref (h 126),(.ref a4),(.int 1 t9)]) [⟨false,a1,oT [(.str Q5 t2),T0,(.int i t1)]⟩,⟨false,a2,oT [(.str Q1 t3),(.str Q1 t4)]⟩,⟨false,a3,oT [(.str Q1 t5),(.str Q3 t6)]⟩,⟨false,a4,oT [(.str Qm t7),(.int 0 t8),(.ref a1),(.ref a2),(.ref a3)]⟩,cT h true R,cU h true F]).fin [23] [43] (fun b t=>[(oL 0 [(.int (iA (Int.fmod (HSub.hSub i 0) (HPow.hPow (OfNat.ofNat 2) (Int.toNat (Prod.fst (bC Q3 bN))))) (Int.ofNat 0)) (nb t 0)),R.2,R.3,R.4,R.5,R.6,R.7]),(oL 7 (fA (.bool true) F))]) (fun b t=>[(oL 1 [(.int (iA (Int.fmod (HSub.hSub i 0) (HPow.hPow (OfNat.ofNat 2) (Int.toNat (Prod.fst (bC Q3 bN))))) (Int.ofNat 0)) (nb t 0))])]) rB
noncomputable def vy (P:Params) (h g:Nat→Nat) (t1 t2 a1 t3 t4 t5 t6:Nat) (c:Int) (t7 a2 t8:Nat) (d:Int) (t9 a3 a4:Nat) (R F:V7) (t10:Nat):RS:=(aG 400 (eW) false (aq 1501 [.ref (h 126),(.ref a4),(.int 1 t10)]) [⟨false,a1,oT [(.str Q1 t1),(.str Q0 t2)]⟩,⟨false,a2,oT [(.str Q5 t6),(.ref a1),(.int c t7)]⟩,⟨false,a3,oT [(.str Q5 t8),(.ref a1),(.int d t9)]⟩,⟨false,a4,oT [(.str Qr t3),(.int 0 t4),(.str ⟨#[43]⟩ t5),(.ref a2),(.ref a3),(.ref a1)]⟩,cT h true R,cU h true F]).fin [26] [59] (fun b t=>[(oL 0 [(.int (iA (Int.fmod (HSub.hSub (iA c d) (-128)) (HPow.hPow (OfNat.ofNat 2) (Int.toNat (Prod.fst (bC Q0 bN))))) (Int.negSucc 127)) (nb t 0)),R.2,R.3,R.4,R.5,R.6,R.7]),(oL 7 (fA (.bool true) F))]) (fun b t=>[(oL 1 [(.int (iA (Int.fmod (HSub.hSub (iA c d) (-128)) (HPow.hPow (OfNat.ofNat 2) (Int.toNat (Prod.fst (bC Q0 bN))))) (Int.negSucc 127)) (nb t 0))])]) rB
noncomputable def vU (P:Params) (h g:Nat→Nat) (t1 t2 a1 t3 t4 t5 t6:Nat) (c:Int) (t7 a2 t8:Nat) (d:Int) (t9 a3 a4:Nat) (R F:V7) (t10:Nat):RS:=(aG 400 (eW) false (aq 1501 [.ref (h 126),(.ref a4),(.int 1 t10)]) [⟨false,a1,oT [(.str Q1 t1),(.str Q0 t2)]⟩,⟨false,a2,oT [(.str Q5 t6),(.ref a1),(.int c t7)]⟩,⟨false,a3,oT [(.str Q5 t8),(.ref a1),(.int d t9)]⟩,⟨false,a4,oT [(.str Qr t3),(.int 0 t4),(.str ⟨#[45]⟩ t5),(.ref a2),(.ref a3),(.ref a1)]⟩,cT h true R,cU h true F]).fin [26] [60] (fun b t=>[(oL 0 [(.int (iA (Int.fmod (HSub.hSub (iA c (-d)) (-128)) (HPow.hPow (OfNat.ofNat 2) (Int.toNat (Prod.fst (bC Q0 bN))))) (Int.negSucc 127)) (nb t 0)),R.2,R.3,R.4,R.5,R.6,R.7]),(oL 7 (fA (.bool true) F))]) (fun b t=>[(oL 1 [(.int (iA (Int.fmod (HSub.hSub (iA c (-d)) (-128)) (HPow.hPow (OfNat.ofNat 2) (Int.toNat (Prod.fst (bC Q0 bN))))) (Int.negSucc 127)) (nb t 0))])]) rB
noncomputable def vf (P:Params) (h g:Nat→Nat) (t1 t2 a1 t3 t4 t5 t6:Nat) (c:Int) (t7 a2 t8:Nat) (d:Int) (t9 a3 a4:Nat) (R F:V7) (t10:Nat):RS:=(aG 400 (eW) false (aq 1501 [.ref (h 126),(.ref a4),(.int 1 t10)]) [⟨false,a1,oT [(.str Q1 t1),(.str Q0 t2)]⟩,⟨false,a2,oT [(.str Q5 t6),(.ref a1),(.int c t7)]⟩,⟨false,a3,oT [(.str Q5 t8),(.ref a1),(.int d t9)]⟩,⟨false,a4,oT [(.str Qr t3),(.int 0 t4),(.str Qy t5),(.ref a2),(.ref a3),(.ref a1)]⟩,cT h true R,cU h true F]).fin [22] [] (fun b t=>[(oL 0 [(.bool (Decidable.rec (fun h=>(fun x=>false) h) (fun h=>(fun x=>true) h) (Int.decLe d c))),R.2,R.3,R.4,R.5,R.6,R.7]),(oL 7 (fA (.bool true) F))]) (fun b t=>[(oL 1 [(.bool (Decidable.rec (fun h=>(fun x=>false) h) (fun h=>(fun x=>true) h) (Int.decLe d c)))])]) rB
noncomputable def iS (P:Params) (h g:Nat→Nat) (n:Nat) (K:List (Nat × Value)) (t1 t2 a1 a2 t3 t4 t5 t6 t7 ch cd a3 a4 a5 t8 t9 t10 t11 t12 t13:Nat) (r:Int) (t14 t15:Nat) (tt:Value) (a6 x t16 t17 t18 t19 t20 a7 a8 t21 t22:Nat) (R F:V7) (t23:Nat):RS:=(aG 400 (eW) false (aq 1501 [.ref (h 126),(.ref a8),(.int 2 t23)]) [⟨false,a3,oL 0 []⟩,⟨false,a4,oL 0 []⟩,⟨false,a5,oL 0 []⟩,⟨false,a6,oT [(.str Qg t14),(.str ⟨#[98,111,116,104]⟩ t15),tt]⟩,⟨false,a7,oT [(.str Qn t19),(.int 0 t20)]⟩,⟨false,a8,oT [(.str Qj t16),(.int 1 t17),(.str Eo t18),(.ref a7),(.ref a6)]⟩,⟨false,x,oT [.str Qg t21,(.int (Int.ofNat (n+1)) t22)]⟩,cT h true { R with a:=.ref x },cU h true { F with a:=.bool true },bP P h g false (n+1) t1,cS h false (n+1) ((t2,.ref a1)::K),⟨false,a1,⟨.ref 1271,some a2,.plain,#[]⟩⟩,⟨false,a2,⟨yD,none,.dict #[eS P Q9 t3 (.str Qg t6),eS P Qa t4 (.ref ch),eS P Q8 t5 (.str Q7 t7)] 3,#[]⟩⟩,⟨false,ch,⟨.ref 106,some cd,.plain,#[]⟩⟩,⟨false,cd,⟨yD,none,.dict #[eS P ⟨#[114,111,111,109]⟩ t8 (.int r t9),eS P FU t10 (.ref a3),eS P G8 t11 (.ref a4),eS P Gj t12 (.ref a5),eS P FM t13 (.bool false)] 5,#[]⟩⟩]).fin [31] [] (fun b t=>[(oL 0 (El (.ref x) (.int r t9) R)),(oL 7 (El (.bool true) (.bool true) F))]) (fun b t=>[(oL 2 [(.ref x),(.int r t9)])]) rB
noncomputable def iQ (P:Params) (h g:Nat→Nat) (n:Nat) (K:List (Nat × Value)) (t1 t2 a1 a2 t3 t4 t5 t6 t7 ch cd a3 a4 a5 t8 t9 t10 t11 t12 t13:Nat) (r:Int) (t14 t15:Nat) (tt:Value) (a6 x t16 t17 t18 t19 t20 a7 a8 t21 t22:Nat) (R F:V7) (t23:Nat):RS:=(aG 400 (eW) false (aq 1501 [.ref (h 126),(.ref a8),(.int 2 t23)]) [⟨false,a3,oL 0 []⟩,⟨false,a4,oL 0 []⟩,⟨false,a5,oL 0 []⟩,⟨false,a6,oT [(.str Qg t14),(.str ⟨#[98,111,116,104]⟩ t15),tt]⟩,⟨false,a7,oT [(.str Qn t19),(.int 0 t20)]⟩,⟨false,a8,oT [(.str Qj t16),(.int 1 t17),(.str Ql t18),(.ref a7),(.ref a6)]⟩,⟨false,x,oT [.str Qg t21,(.int (Int.ofNat (n+1)) t22)]⟩,cT h true { R with a:=.ref x },cU h true { F with a:=.bool true },bP P h g false (n+1) t1,cS h false (n+1) ((t2,.ref a1)::K),⟨false,a1,⟨.ref 1271,some a2,.plain,#[]⟩⟩,⟨false,a2,⟨yD,none,.dict #[eS P Q9 t3 (.str Qg t6),eS P Qa t4 (.ref ch),eS P Q8 t5 (.str Q7 t7)] 3,#[]⟩⟩,⟨false,ch,⟨.ref 106,some cd,.plain,#[]⟩⟩,⟨false,cd,⟨yD,none,.dict #[eS P ⟨#[114,111,111,109]⟩ t8 (.int r t9),eS P FU t10 (.ref a3),eS P G8 t11 (.ref a4),eS P Gj t12 (.ref a5),eS P FM t13 (.bool false)] 5,#[]⟩⟩]).fin [32] [47] (fun b t=>[(oL 0 (El (.ref x) (.int 0 (nb t 0)) R)),(oL 7 (El (.bool true) (.bool true) F))]) (fun b t=>[(oL 2 [(.ref x),(.int 0 (nb t 0))])]) rB
noncomputable def vS (P:Params) (h g:Nat→Nat) (m:Int) (t1 t2 a1 a2 t3 t4 t5:Nat) (T2:Value) (a3 t6 a4:Nat) (R F:V7) (t7:Nat):RS:=(aG 400 (eW) false (aq 1501 [.ref (h 126),(.ref a4),(.int 1 t7)]) [⟨false,a1,oT []⟩,⟨false,a2,oT [(.str Qw t1),(.int m t2),(.ref a1)]⟩,⟨false,a3,oT [(.str Q5 t5),T2,(.ref a2)]⟩,⟨false,a4,oT [(.str Qu t3),(.int 0 t4),(.ref a3),(.int 1 t6)]⟩,cT h true R,cU h true F]).fin [21,18,17] [16] (fun b t=>[(oL 0 (fA (.ref (nb b 1)) R)),(oL 7 (fA (.bool true) F))]) (fun b t=>[(oL 1 [(.ref (nb b 1))]),(oT [(.str Qw (nb t 0)),(.int m t2),(.ref (nb b 2))]),(oT [(.int 1 t6)])]) rB
noncomputable def gZ (P:Params) (h g:Nat→Nat) (t1 t2 a1 t3 t4 t5 t6 a2 a3:Nat) (R F:V7) (t7:Nat):RS:=(aG 400 (eW) false (aq 1501 [.ref (h 126),(.ref a3),(.int 1 t7)]) [⟨false,a1,oT [(.str Q1 t1),(.str Q1 t2)]⟩,⟨false,a2,oT [(.str Q5 t5),(.ref a1),(.int 5 t6)]⟩,⟨false,a3,oT [(.str Qh t3),(.int 0 t4),(.ref a2),(.ref a1)]⟩,cT h true R,cU h true F]).fin [15,12] [20] (fun b t=>[(oL 0 (fA (.ref (nb b 1)) R)),(oL 7 (fA (.bool true) F))]) (fun b t=>[(oL 1 [(.ref (nb b 1))]),(oT [(.str Qh (nb t 0)),(.ref a1),(.int 5 t6)])]) rB
noncomputable def i6 (P:Params) (h g:Nat→Nat) (t1 a1 t2 t3 t4 t5 a2 a3:Nat) (R F:V7) (t6:Nat):RS:=(aG 400 (eW) false (aq 1501 [.ref (h 126),(.ref a3),(.int 1 t6)]) [⟨false,a1,oT [(.str Qd t1)]⟩,⟨false,a2,oT [(.str Q5 t4),(.ref a1),(.bytes #[113] t5)]⟩,⟨false,a3,oT [(.str Qh t2),(.int 0 t3),(.ref a2),(.ref a1)]⟩,cT h true R,cU h true F]).fin [15,12] [20] (fun b t=>[(oL 0 (fA (.ref (nb b 1)) R)),(oL 7 (fA (.bool true) F))]) (fun b t=>[(oL 1 [(.ref (nb b 1))]),(oT [(.str Qh (nb t 0)),(.ref a1),(.bytes #[113] t5)])]) rB
noncomputable def hZ (P:Params) (h g:Nat→Nat) (t1 a1 t2 t3 t4 a2 a3:Nat) (R F:V7) (t5:Nat):RS:=(aG 400 (eW) false (aq 1501 [.ref (h 126),(.ref a3),(.int 1 t5)]) [⟨false,a1,oT [(.str EE t1)]⟩,⟨false,a2,oT [(.str Q5 t4),(.ref a1),(.bool true)]⟩,⟨false,a3,oT [(.str Qh t2),(.int 0 t3),(.ref a2),(.ref a1)]⟩,cT h true R,cU h true F]).fin [15,12] [20] (fun b t=>[(oL 0 (fA (.ref (nb b 1)) R)),(oL 7 (fA (.bool true) F))]) (fun b t=>[(oL 1 [(.ref (nb b 1))]),(oT [(.str Qh (nb t 0)),(.ref a1),(.bool true)])]) rB
noncomputable def uN (P:Params) (h g:Nat→Nat) (t1 t2 t3:Nat) (T0:Value) (a1 a2 n:Nat) (K:List (Nat × Value)) (t4:Nat) (R F:V7) (t5:Nat):RS:=(aG 400 (eW) true (aq 1501 [.ref (h 126),(.ref a2),(.int 0 t5)]) [⟨false,a1,oT [(.str Q5 t3),T0,.none]⟩,⟨false,a2,oT [(.str Qq t1),(.int 2 t2),(.ref a1)]⟩,cT h true R,cU h true F,bP P h g false n t4,cS h false n K]).fin [26] [36,20] (fun b t=>[(oL 0 R.l),(oL 7 F.l)]) (fun b t=>[(oT [(.str Qc (nb t 0)),(.bytes #[110,105,108,32,100,101,114,101,102,101,114,101,110,99,101] (nb t 1))])]) rB
noncomputable def Ar (P:Params) (h g:Nat→Nat) (t1 t2 t3:Nat) (T0:Value) (a1 t4 a2:Nat) (R F:V7) (t5:Nat):RS:=(aG 400 (eW) true (aq 1501 [.ref (h 126),(.ref a2),(.int 0 t5)]) [⟨false,a1,oT [(.str Q5 t3),T0,.none]⟩,⟨false,a2,oT [(.str Qu t1),(.int 2 t2),(.ref a1),(.int 0 t4)]⟩,cT h true R,cU h true F]).fin [24] [34,18] (fun b t=>[(oL 0 R.l),(oL 7 F.l)]) (fun b t=>[(oT [(.str Qc (nb t 0)),(.bytes #[110,105,108,32,100,101,114,101,102,101,114,101,110,99,101] (nb t 1))])]) rB
noncomputable def uA (P:Params) (h g:Nat→Nat) (x n:Nat) (K:List (Nat × Value)) (t1 t2 a1 a2 t3 t4 t5 t6 t7 t8 t9 a3 a4 r0 r1 t10 t11 t12:Nat) (T4:Value) (a5 a6:Nat) (R F:V7) (t13:Nat):RS:=(aG 400 (eW) false (aq 1501 [.ref (h 126),(.ref a6),(.int 3 t13)]) [⟨false,a3,oT []⟩,⟨false,a4,oT [(.str Qw t8),(.int (Int.ofNat (n+1)) t9),(.ref a3)]⟩,⟨false,a5,oT [(.str Q5 t12),T4,(.ref a4)]⟩,⟨false,a6,oT [(.str Qq t10),(.int 2 t11),(.ref a5)]⟩,cT h true { R with a:=.ref r0,b:=.ref r1 },cU h true F,bP P h g false (n+1) t1,cS h false (n+1) ((t2,.ref a1)::K),⟨false,a1,⟨.ref 1271,some a2,.plain,#[]⟩⟩,⟨false,a2,⟨yD,none,.dict #[eS P Q9 t3 (.str Q6 t6),eS P Qa t4 (.ref x),eS P Q8 t5 (.str Q7 t7)] 3,#[]⟩⟩]).fin [26] [] (fun b t=>[(oL 0 [(.ref r0),(.ref r1),(.ref x),R.4,R.5,R.6,R.7]),(oL 7 [F.1,F.2,(.bool true),F.4,F.5,F.6,F.7])]) (fun b t=>[(oL 3 [(.ref r0),(.ref r1),(.ref x)])]) rB
noncomputable def iL (P:Params) (h g:Nat→Nat) (t1 t2:Nat) (tt:Value) (t3 a1 n:Nat) (K:List (Nat × Value)) (t4:Nat) (R F:V7) (t5:Nat):RS:=(aG 400 (eW) false (aq 1501 [.ref (h 126),(.ref a1),(.int 1 t5)]) [⟨false,a1,oT [(.str Ca t1),(.int 0 t2),tt,(.int 1 t3)]⟩,cT h true R,cU h true F,bP P h g true n t4,cS h true n K]).fin [24,21,19,20,14,13,12,16] [37,13,38,14,39,40,34,19,21,24,22] (fun b t=>[(oL 0 (fA (.ref (nb b 1)) R)),(oL 7 (fA (.bool true) F)),(bP P h g true (n+1) (nb t 0)).o,(oK (n+1) (List.cons (Prod.mk (nb t 0) (.ref (nb b 2))) K))]) (fun b t=>[(oL 1 [(.ref (nb b 1))]),(oT [(.str Qe (nb t 1)),(.int (Int.ofNat (n+1)) (nb t 0))]),⟨(.ref 1271),(some (nb b 3)),Data.plain,#[]⟩,⟨(.type L0),none,(Data.dict #[(eS P Q9 (nb t 2) (.str Qe (nb t 3))),(eS P Qa (nb t 4) (.ref (nb b 4))),(eS P Q8 (nb t 5) (.str Q7 (nb t 6)))] 3),#[]⟩,⟨(.ref 500),(some (nb b 5)),Data.plain,#[]⟩,⟨(.type L0),none,(Data.dict #[(eS P Qk (nb t 7) (.ref (nb b 6))),(eS P Qo (nb t 8) (.ref (nb b 7))),(eS P Qp (nb t 9) (.int 0 (nb t 10)))] 3),#[]⟩,⟨(.type L3),none,(Data.fields #[(.ref 812),(.ref (h 77))]),#[]⟩,⟨(.type L0),none,(Data.dict #[] 0),#[]⟩]) rB
noncomputable def mJ (P:Params) (h g:Nat→Nat) (ti n:Nat) (K:List (Nat × Value)) (t1 t2 a1 a2 t3 t4 t5 t6 t7 a3 a4 a5 t8 t9 t10 t11 x t12 t13:Nat) (bv:Array UInt8) (t14 t15 t16 a6:Nat) (k:Int) (t17 t18:Nat) (T6:Value) (a7 t19 t20:Nat) (T7:Value) (a8 a9:Nat) (R F:V7) (t21:Nat):RS:=(aG 400 (eW) false (aq 1501 [.ref (h 126),(.ref a9),(.int 0 t21)]) [⟨false,a6,oT [(.str Qn t15),(.int 0 t16)]⟩,⟨false,a7,oT [(.str Q5 t18),T6,(.int k t17)]⟩,⟨false,a8,oT [(.str Q5 t20),T7,(.bytes bv t19)]⟩,⟨false,a9,oT [(.str Qv t14),(.ref a6),(.ref a7),(.ref a8)]⟩,⟨false,x,oT [.str Qe t12,(.int (Int.ofNat (n+1)) t13)]⟩,cT h true { R with a:=.ref x },cU h true { F with a:=.bool true },bP P h g false (n+1) t1,cS h false (n+1) ((t2,.ref a1)::K),⟨false,a1,⟨.ref 1271,some a2,.plain,#[]⟩⟩,⟨false,a2,⟨yD,none,.dict #[eS P Q9 t3 (.str Qe t6),eS P Qa t4 (.ref ti),eS P Q8 t5 (.str Q7 t7)] 3,#[]⟩⟩,⟨false,ti,⟨.ref 500,some a3,.plain,#[]⟩⟩,⟨true,a3,⟨yD,none,.dict #[eS P Qk t8 (.ref a4),eS P Qo t9 (.ref a5),eS P Qp t10 (.int 0 t11)] 3,#[]⟩⟩,⟨false,a4,⟨.type L3,none,.fields #[.ref 812,.ref (h 77)],#[]⟩⟩,⟨true,a5,FG⟩]).fin [53,46,47] [68,56] (fun b t=>[(oL 0 (fA (.ref x) R)),(oL 7 (fA (.bool true) F)),⟨(.type L0),none,(Data.dict #[(eS P Qk t8 (.ref a4)),(eS P Qo t9 (.ref a5)),(eS P Qp t10 (.int 1 (nb t 0)))] 3),#[]⟩,⟨(.type L0),none,(Data.dict #[(DictEntry.mk (hT P k) (.ref (nb b 1)) (.ref (nb b 2)))] 1),#[]⟩]) (fun b t=>[(oL 0 []),(oT [(.str Q1 (nb t 1)),(.int k t17)]),(oT [(.int 0 t11),(.int k t17),(.bytes bv t19)])]) rB
noncomputable def mq (P:Params) (h g:Nat→Nat) (ti n:Nat) (K:List (Nat × Value)) (t1 t2 a1 a2 t3 t4 t5 t6 t7 a3 a4 a5 a6 a7 t8:Nat) (k:Int) (t9:Nat) (bv:Array UInt8) (t10 t11 t12 t13 t14 t15 x t16 t17 t18 a8 t19 t20 t21 t22 t23 a9 t24 t25:Nat) (T9:Value) (a10 a11:Nat) (R F:V7) (t26:Nat):RS:=(aG 400 (eW) false (aq 1501 [.ref (h 126),(.ref a11),(.int 3 t26)]) [⟨false,a6,n9 t9 t8 k⟩,⟨false,a7,oT [.int 0 t10,.int k t8,.bytes bv t11]⟩,⟨false,a8,oT [(.str Qd t18)]⟩,⟨false,a9,oT [(.str Qn t22),(.int 0 t23)]⟩,⟨false,a10,oT [(.str Q5 t25),T9,(.int k t24)]⟩,⟨false,a11,oT [(.str Qs t19),(.int 1 t20),(.int 2 t21),(.ref a9),(.ref a10),(.ref a8)]⟩,⟨false,x,oT [.str Qe t16,(.int (Int.ofNat (n+1)) t17)]⟩,cT h true { R with a:=.ref x },cU h true { F with a:=.bool true },bP P h g false (n+1) t1,cS h false (n+1) ((t2,.ref a1)::K),⟨false,a1,⟨.ref 1271,some a2,.plain,#[]⟩⟩,⟨false,a2,⟨yD,none,.dict #[eS P Q9 t3 (.str Qe t6),eS P Qa t4 (.ref ti),eS P Q8 t5 (.str Q7 t7)] 3,#[]⟩⟩,⟨false,ti,⟨.ref 500,some a3,.plain,#[]⟩⟩,⟨false,a3,⟨yD,none,.dict #[eS P Qk t12 (.ref a4),eS P Qo t13 (.ref a5),eS P Qp t14 (.int 1 t15)] 3,#[]⟩⟩,⟨false,a4,⟨.type L3,none,.fields #[.ref 812,.ref (h 77)],#[]⟩⟩,⟨false,a5,pm P k a6 (.ref a7)⟩]).fin [47] [] (fun b t=>[(oL 0 [(.ref x),(.bytes bv t11),(.bool true),R.4,R.5,R.6,R.7]),(oL 7 [(.bool true),(.bool true),(.bool true),F.4,F.5,F.6,F.7])]) (fun b t=>[(oL 3 [(.ref x),(.bytes bv t11),(.bool true)])]) rB
noncomputable def fK (P:Params) (h g:Nat→Nat) (ti n:Nat) (K:List (Nat × Value)) (t1 t2 a1 a2 t3 t4 t5 t6 t7 a3 a4 a5 a6 a7 t8:Nat) (k:Int) (t9:Nat) (bv:Array UInt8) (t10 t11 t12 t13 t14 t15 x t16 t17 t18 a8 t19 t20 t21 t22 t23 a9:Nat) (k2:Int) (t24 t25:Nat) (T9:Value) (a10 a11:Nat) (R F:V7) (t26:Nat):RS:=(aG 400 (eW) false (aq 1501 [.ref (h 126),(.ref a11),(.int 3 t26)]) [⟨false,a6,n9 t9 t8 k⟩,⟨false,a7,oT [.int 0 t10,.int k t8,.bytes bv t11]⟩,⟨false,a8,oT [(.str Qd t18)]⟩,⟨false,a9,oT [(.str Qn t22),(.int 0 t23)]⟩,⟨false,a10,oT [(.str Q5 t25),T9,(.int k2 t24)]⟩,⟨false,a11,oT [(.str Qs t19),(.int 1 t20),(.int 2 t21),(.ref a9),(.ref a10),(.ref a8)]⟩,⟨false,x,oT [.str Qe t16,(.int (Int.ofNat (n+1)) t17)]⟩,cT h true { R with a:=.ref x },cU h true { F with a:=.bool true },bP P h g false (n+1) t1,cS h false (n+1) ((t2,.ref a1)::K),⟨false,a1,⟨.ref 1271,some a2,.plain,#[]⟩⟩,⟨false,a2,⟨yD,none,.dict #[eS P Q9 t3 (.str Qe t6),eS P Qa t4 (.ref ti),eS P Q8 t5 (.str Q7 t7)] 3,#[]⟩⟩,⟨false,ti,⟨.ref 500,some a3,.plain,#[]⟩⟩,⟨false,a3,⟨yD,none,.dict #[eS P Qk t12 (.ref a4),eS P Qo t13 (.ref a5),eS P Qp t14 (.int 1 t15)] 3,#[]⟩⟩,⟨false,a4,⟨.type L3,none,.fields #[.ref 812,.ref (h 77)],#[]⟩⟩,⟨false,a5,pm P k a6 (.ref a7)⟩]).fin [51] [65] (fun b t=>[(oL 0 [(.ref x),(.bytes #[] (nb t 0)),(.bool false),R.4,R.5,R.6,R.7]),(oL 7 [(.bool true),(.bool true),(.bool true),F.4,F.5,F.6,F.7])]) (fun b t=>[(oL 3 [(.ref x),(.bytes #[] (nb t 0)),(.bool false)])]) rB
noncomputable def mB (P:Params) (h g:Nat→Nat) (ti n:Nat) (K:List (Nat × Value)) (t1 t2 a1 a2 t3 t4 t5 t6 t7 a3 a4 a5 a6 a7 t8:Nat) (k:Int) (t9:Nat) (bv:Array UInt8) (t10 t11 t12 t13 t14 t15 x t16 t17 t18 t19 t20 a8 t21 t22:Nat) (T8:Value) (a9 a10:Nat) (R F:V7) (t23:Nat):RS:=(aG 400 (eW) false (aq 1501 [.ref (h 126),(.ref a10),(.int 0 t23)]) [⟨false,a6,n9 t9 t8 k⟩,⟨false,a7,oT [.int 0 t10,.int k t8,.bytes bv t11]⟩,⟨false,a8,oT [(.str Qn t19),(.int 0 t20)]⟩,⟨false,a9,oT [(.str Q5 t22),T8,(.int k t21)]⟩,⟨false,a10,oT [(.str Dh t18),(.ref a8),(.ref a9)]⟩,⟨false,x,oT [.str Qe t16,(.int (Int.ofNat (n+1)) t17)]⟩,cT h true { R with a:=.ref x },cU h true { F with a:=.bool true },bP P h g false (n+1) t1,cS h false (n+1) ((t2,.ref a1)::K),⟨false,a1,⟨.ref 1271,some a2,.plain,#[]⟩⟩,⟨false,a2,⟨yD,none,.dict #[eS P Q9 t3 (.str Qe t6),eS P Qa t4 (.ref ti),eS P Q8 t5 (.str Q7 t7)] 3,#[]⟩⟩,⟨false,ti,⟨.ref 500,some a3,.plain,#[]⟩⟩,⟨true,a3,⟨yD,none,.dict #[eS P Qk t12 (.ref a4),eS P Qo t13 (.ref a5),eS P Qp t14 (.int 1 t15)] 3,#[]⟩⟩,⟨false,a4,⟨.type L3,none,.fields #[.ref 812,.ref (h 77)],#[]⟩⟩,⟨true,a5,pm P k a6 (.ref a7)⟩]).fin [55] [] (fun b t=>[(oL 0 (fA (.ref x) R)),(oL 7 (fA (.bool true) F)),⟨(.type L0),none,(Data.dict #[(eS P Qk t12 (.ref a4)),(eS P Qo t13 (.ref a5)),(eS P Qp t14 (.int 1 t15))] 3),#[]⟩,⟨(.type L0),none,(Data.dict #[] 2),#[]⟩]) (fun b t=>[(oL 0 [])]) rB
noncomputable def m2 (P:Params) (h g:Nat→Nat) (ti n:Nat) (K:List (Nat × Value)) (t1 t2 a1 a2 t3 t4 t5 t6 t7 a3 a4 a5 ee t8 t9 t10 t11 x t12 t13 t14:Nat) (ta tb:Value) (a6:Nat) (bw:Array UInt8) (cc:Bool) (t15 t16 t17 t18 t19 a7 a8 t20:Nat) (R F:V7) (t21:Nat):RS:=(aG 400 (eW) false (aq 1501 [.ref (h 126),(.ref a8),(.int 4 t21)]) [⟨false,a6,oT [(.str Qe t14),ta,tb]⟩,⟨false,a7,oT [(.str Qn t18),(.int 0 t19)]⟩,⟨false,a8,oT [(.str Qj t15),(.int 3 t16),(.str Ql t17),(.ref a7),(.ref a6)]⟩,⟨false,x,oT [.str Qe t12,(.int (Int.ofNat (n+1)) t13)]⟩,cT h true { R with a:=.ref x,b:=.bytes bw t20,c:=.bool cc },cU h true { F with a:=.bool true },bP P h g false (n+1) t1,cS h false (n+1) ((t2,.ref a1)::K),⟨false,a1,⟨.ref 1271,some a2,.plain,#[]⟩⟩,⟨false,a2,⟨yD,none,.dict #[eS P Q9 t3 (.str Qe t6),eS P Qa t4 (.ref ti),eS P Q8 t5 (.str Q7 t7)] 3,#[]⟩⟩,⟨false,ti,⟨.ref 500,some a3,.plain,#[]⟩⟩,⟨false,a3,⟨yD,none,.dict #[eS P Qk t8 (.ref a4),eS P Qo t9 (.ref a5),eS P Qp t10 (.int 1 t11)] 3,#[]⟩⟩,⟨false,a4,⟨.type L3,none,.fields #[.ref 812,.ref (h 77)],#[]⟩⟩,⟨false,a5,rk ee⟩]).fin [31] [46] (fun b t=>[(oL 0 [(.ref x),(.bytes bw t20),(.bool cc),(.int 0 (nb t 0)),R.5,R.6,R.7]),(oL 7 [(.bool true),F.2,F.3,(.bool true),F.5,F.6,F.7])]) (fun b t=>[(oL 4 [(.ref x),(.bytes bw t20),(.bool cc),(.int 0 (nb t 0))])]) rB
noncomputable def vk (P:Params) (h g:Nat→Nat) (t1 t2:Nat) (T0:Value) (a1:Nat) (k:Int) (t3 t4:Nat) (T1:Value) (a2 t5 t6:Nat) (T2:Value) (a3 a4:Nat) (bv:Array UInt8) (R F:V7) (t7:Nat):RS:=(aG 400 (eW) true (aq 1501 [.ref (h 126),(.ref a4),(.int 0 t7)]) [⟨false,a1,oT [(.str Q5 t2),T0,.none]⟩,⟨false,a2,oT [(.str Q5 t4),T1,(.int k t3)]⟩,⟨false,a3,oT [(.str Q5 t6),T2,(.bytes bv t5)]⟩,⟨false,a4,oT [(.str Qv t1),(.ref a1),(.ref a2),(.ref a3)]⟩,cT h true R,cU h true F]).fin [30] [38,22] (fun b t=>[(oL 0 R.l),(oL 7 F.l)]) (fun b t=>[(oT [(.str Qc (nb t 0)),(.bytes #[97,115,115,105,103,110,109,101,110,116,32,116,111,32,101,110,116,114,121,32,105,110,32,110,105,108,32,109,97,112] (nb t 1))])]) rB
noncomputable def vN (P:Params) (h g:Nat→Nat) (x t1 a1 t2 t3 t4 t5:Nat) (T1:Value) (a2:Nat) (k:Int) (t6 t7:Nat) (T2:Value) (a3 a4:Nat) (R F:V7) (t8:Nat):RS:=(aG 400 (eW) false (aq 1501 [.ref (h 126),(.ref a4),(.int 3 t8)]) [⟨false,a1,oT [(.str Qd t1)]⟩,⟨false,a2,oT [(.str Q5 t5),T1,.none]⟩,⟨false,a3,oT [(.str Q5 t7),T2,(.int k t6)]⟩,⟨false,a4,oT [(.str Qs t2),(.int 1 t3),(.int 2 t4),(.ref a2),(.ref a3),(.ref a1)]⟩,cT h true { R with a:=.ref x },cU h true { F with a:=.bool true }]).fin [39] [59] (fun b t=>[(oL 0 [(.ref x),(.bytes #[] (nb t 0)),(.bool false),R.4,R.5,R.6,R.7]),(oL 7 [(.bool true),(.bool true),(.bool true),F.4,F.5,F.6,F.7])]) (fun b t=>[(oL 3 [(.ref x),(.bytes #[] (nb t 0)),(.bool false)])]) rB
theorem lw {w:World} {h g:Nat→Nat}:(∀ {e a1 n K t1 t2 a2 a3 t3 t4 t5 t6 t7 t8 t9 t10 t11 t12 a4},(kF w.params h g e a1 n K t1 t2 a2 a3 t3 t4 t5 t6 t7 t8 t9 t10 t11 t12 a4).S.Holds (BB w h g)) ∧
 (∀ {e x0 t1 x1 t2 a1 n K t3 t4 a2 a3 t5 t6 t7 t8 t9 t10 t11 t12 t13 t14 a4},ag K=n→n≤1000→(lE w.params h g e x0 t1 x1 t2 a1 n K t3 t4 a2 a3 t5 t6 t7 t8 t9 t10 t11 t12 t13 t14 a4).S.Holds (BB w h g)) ∧
 (∀ {e x0 t1 x1 t2 x2 t3 a1 n K t4 t5 a2 a3 t6 t7 t8 t9 t10 t11 t12 t13 t14 t15 a4},ag K=n→n≤1000→(g9 w.params h g e x0 t1 x1 t2 x2 t3 a1 n K t4 t5 a2 a3 t6 t7 t8 t9 t10 t11 t12 t13 t14 t15 a4).S.Holds (BB w h g)) ∧
 (∀ {e x0 t1 x1 t2 x2 t3 x3 t4 a1 n K t5 t6 a2 a3 t7 t8 t9 t10 t11 t12 t13 t14 t15 t16 a4},ag K=n→n≤1000→(oM w.params h g e x0 t1 x1 t2 x2 t3 x3 t4 a1 n K t5 t6 a2 a3 t7 t8 t9 t10 t11 t12 t13 t14 t15 t16 a4).S.Holds (BB w h g)) ∧
 (∀ {i t1 t2 T0 a1 t3 t4 a2 t5 t6 a3 t7 t8 a4 R F t9},(qm w.params h g i t1 t2 T0 a1 t3 t4 a2 t5 t6 a3 t7 t8 a4 R F t9).S.Holds (BB w h g)) ∧
 (∀ {i t1 t2 T0 a1 t3 t4 a2 t5 t6 a3 t7 t8 a4 R F t9},(qK w.params h g i t1 t2 T0 a1 t3 t4 a2 t5 t6 a3 t7 t8 a4 R F t9).S.Holds (BB w h g)) ∧
 (∀ {i t1 t2 T0 a1 t3 t4 a2 t5 t6 a3 t7 t8 a4 R F t9},(pK w.params h g i t1 t2 T0 a1 t3 t4 a2 t5 t6 a3 t7 t8 a4 R F t9).S.Holds (BB w h g)) ∧
 (∀ {i t1 t2 T0 a1 t3 t4 a2 t5 t6 a3 t7 t8 a4 R F t9},(r4 w.params h g i t1 t2 T0 a1 t3 t4 a2 t5 t6 a3 t7 t8 a4 R F t9).S.Holds (BB w h g)) ∧
 (∀ {t1 t2 a1 t3 t4 t5 t6 c t7 a2 t8 d t9 a3 a4 R F t10},(vy w.params h g t1 t2 a1 t3 t4 t5 t6 c t7 a2 t8 d t9 a3 a4 R F t10).S.Holds (BB w h g)) ∧
 (∀ {t1 t2 a1 t3 t4 t5 t6 c t7 a2 t8 d t9 a3 a4 R F t10},(vU w.params h g t1 t2 a1 t3 t4 t5 t6 c t7 a2 t8 d t9 a3 a4 R F t10).S.Holds (BB w h g)):=by
 refine ⟨dT 138 (ce [CW,1109432350]) [] ak ?_,
 fun {e x0 t1 x1 t2 a1 n K t3 t4 a2 a3 t5 t6 t7 t8 t9 t10 t11 t12 t13 t14 a4} hK hn=>dT 892 (ce [Eb,nW,0x410088221881e]) [u (fun A J O=>dH w.params h g e x0 t1 x1 t2 (A 0) n K t3 t4 (A 4) (A 5) t5 t6 t7 t8 t9 t11 (J 17) (A 30) (A 31)) [0,30,31,2,3,4,5] [],u (fun A J O=>dQ w.params h g e x0 t1 x1 t2 (A 0) n K t3 t4 (A 4) (A 5) t5 t6 t7 t8 t9 t11 (J 34) (A 45) (A 46)) [0,45,46,2,3,4,5] []] (aa (dA.1 hK hn) (aa (dA.2.1 hK hn) ak)) ?_,
 fun {e x0 t1 x1 t2 x2 t3 a1 n K t4 t5 a2 a3 t6 t7 t8 t9 t10 t11 t12 t13 t14 t15 a4} hK hn=>dT 1267 (ce [AE,nW,0x410088222001e]) [u (fun A J O=>cf w.params h g e x0 t1 x1 t2 x2 t3 (A 0) n K t4 t5 (A 4) (A 5) t6 t7 t8 t9 t10 t12 (J 17) (A 30) (A 31)) [0,30,31,2,3,4,5] [],u (fun A J O=>cj w.params h g e x0 t1 x1 t2 x2 t3 (A 0) n K t4 t5 (A 4) (A 5) t6 t7 t8 t9 t10 t12 (J 34) (A 45) (A 46)) [0,45,46,2,3,4,5] [],u (fun A J O=>ck w.params h g e x0 t1 x1 t2 x2 t3 (A 0) n K t4 t5 (A 4) (A 5) t6 t7 t8 t9 t10 t12 (J 51) (A 60) (A 61)) [0,60,61,2,3,4,5] []] (aa (dA.2.2.1 hK hn) (aa (dA.2.2.2.1 hK hn) (aa (dA.2.2.2.2.1 hK hn) ak))) ?_,
 fun {e x0 t1 x1 t2 x2 t3 x3 t4 a1 n K t5 t6 a2 a3 t7 t8 t9 t10 t11 t12 t13 t14 t15 t16 a4} hK hn=>dT 1642 (ce [AE,nW,rC,0x43e1f8000f87e,ae,1150,ai,0x480200000fc80,jS,1239234513026,Bx,0x47e0f87e0003e1f8000f87e0003e1f800,ax,1150,bj,1205991550,n6,0x445230001148c,aw,1164,iz,1164,Cz,pB,0x126098238980008e0008e2608e2308c23045230001148c00096,nW,0x410088222781e]) [u (fun A J O=>fR w.params h g e x0 t1 x1 t2 x2 t3 x3 t4 (A 0) n K t5 t6 (A 4) (A 5) t7 t8 t9 t10 t11 t13 (J 17) (A 30) (A 31)) [0,30,31,2,3,4,5] [],u (fun A J O=>fX w.params h g e x0 t1 x1 t2 x2 t3 x3 t4 (A 0) n K t5 t6 (A 4) (A 5) t7 t8 t9 t10 t11 t13 (J 34) (A 45) (A 46)) [0,45,46,2,3,4,5] [],u (fun A J O=>gh w.params h g e x0 t1 x1 t2 x2 t3 x3 t4 (A 0) n K t5 t6 (A 4) (A 5) t7 t8 t9 t10 t11 t13 (J 51) (A 60) (A 61)) [0,60,61,2,3,4,5] [],u (fun A J O=>fU w.params h g e x0 t1 x1 t2 x2 t3 x3 t4 (A 0) n K t5 t6 (A 4) (A 5) t7 t8 t9 t10 t11 t13 (J 68) (A 75) (A 76)) [0,75,76,2,3,4,5] []] (aa (dA.2.2.2.2.2.1 hK hn) (aa (dA.2.2.2.2.2.2.1 hK hn) (aa (dA.2.2.2.2.2.2.2.1 hK hn) (aa (dA.2.2.2.2.2.2.2.2 hK hn) ak)))) ?_,
 dT 736 (ce [ud,1064,aw,1045,j7,tp,aw,1045,uW]) [] ak ?_,
 dT 710 (ce [ud,tp,aw,1046,uW]) [] ak ?_,
 dT 736 (ce [ud,1064,aw,1044,j7,tp,aw,1044,uW]) [] ak ?_,
 dT 710 (ce [ud,tp,aw,1047,uW]) [] ak ?_,
 dT 849 (ce [yx,1048602,DN,1056,Dq,gi,1089576,CK]) [] ak ?_,
 dT 858 (ce [yx,1048603,DN,1057,Dq,gi,gi,1089576,CK]) [] ak ?_⟩ <;> intro cb ν τ υ π ς ρ own past κ bl p <;> kernel_rfl
theorem ft {w:World} {h g:Nat→Nat}:(∀ {t1 t2 a1 t3 t4 t5 t6 c t7 a2 t8 d t9 a3 a4 R F t10},(vf w.params h g t1 t2 a1 t3 t4 t5 t6 c t7 a2 t8 d t9 a3 a4 R F t10).S.Holds (BB w h g)) ∧
 (∀ {n K t1 t2 a1 a2 t3 t4 t5 t6 t7 ch cd a3 a4 a5 t8 t9 t10 t11 t12 t13 r t14 t15 tt a6 x t16 t17 t18 t19 t20 a7 a8 t21 t22 R F t23},ag K=n→n≤1000→(iS w.params h g n K t1 t2 a1 a2 t3 t4 t5 t6 t7 ch cd a3 a4 a5 t8 t9 t10 t11 t12 t13 r t14 t15 tt a6 x t16 t17 t18 t19 t20 a7 a8 t21 t22 R F t23).S.Holds (BB w h g)) ∧
 (∀ {n K t1 t2 a1 a2 t3 t4 t5 t6 t7 ch cd a3 a4 a5 t8 t9 t10 t11 t12 t13 r t14 t15 tt a6 x t16 t17 t18 t19 t20 a7 a8 t21 t22 R F t23},ag K=n→n≤1000→(iQ w.params h g n K t1 t2 a1 a2 t3 t4 t5 t6 t7 ch cd a3 a4 a5 t8 t9 t10 t11 t12 t13 r t14 t15 tt a6 x t16 t17 t18 t19 t20 a7 a8 t21 t22 R F t23).S.Holds (BB w h g)) ∧
 (∀ {m t1 t2 a1 a2 t3 t4 t5 T2 a3 t6 a4 R F t7},(vS w.params h g m t1 t2 a1 a2 t3 t4 t5 T2 a3 t6 a4 R F t7).S.Holds (BB w h g)) ∧
 (∀ {t1 t2 a1 t3 t4 t5 t6 a2 a3 R F t7},(gZ w.params h g t1 t2 a1 t3 t4 t5 t6 a2 a3 R F t7).S.Holds (BB w h g)) ∧
 (∀ {t1 a1 t2 t3 t4 t5 a2 a3 R F t6},(i6 w.params h g t1 a1 t2 t3 t4 t5 a2 a3 R F t6).S.Holds (BB w h g)) ∧
 (∀ {t1 a1 t2 t3 t4 a2 a3 R F t5},(hZ w.params h g t1 a1 t2 t3 t4 a2 a3 R F t5).S.Holds (BB w h g)) ∧
 (∀ {t1 t2 t3 T0 a1 a2 n K t4 R F t5},(uN w.params h g t1 t2 t3 T0 a1 a2 n K t4 R F t5).S.Holds (BB w h g)) ∧
 (∀ {t1 t2 t3 T0 a1 t4 a2 R F t5},(Ar w.params h g t1 t2 t3 T0 a1 t4 a2 R F t5).S.Holds (BB w h g)) ∧
 (∀ {x n K t1 t2 a1 a2 t3 t4 t5 t6 t7 t8 t9 a3 a4 r0 r1 t10 t11 t12 T4 a5 a6 R F t13},ag K=n→n≤1000→(uA w.params h g x n K t1 t2 a1 a2 t3 t4 t5 t6 t7 t8 t9 a3 a4 r0 r1 t10 t11 t12 T4 a5 a6 R F t13).S.Holds (BB w h g)) ∧
 (∀ {t1 t2 tt t3 a1 n K t4 R F t5},ag K=n→n≤1000→(iL w.params h g t1 t2 tt t3 a1 n K t4 R F t5).S.Holds (BB w h g)) ∧
 (∀ {ti n K t1 t2 a1 a2 t3 t4 t5 t6 t7 a3 a4 a5 t8 t9 t10 t11 x t12 t13 bv t14 t15 t16 a6 k t17 t18 T6 a7 t19 t20 T7 a8 a9 R F t21},ag K=n→n≤1000→(mJ w.params h g ti n K t1 t2 a1 a2 t3 t4 t5 t6 t7 a3 a4 a5 t8 t9 t10 t11 x t12 t13 bv t14 t15 t16 a6 k t17 t18 T6 a7 t19 t20 T7 a8 a9 R F t21).S.Holds (BB w h g)):=by
 refine ⟨dT 676 (ce [yx,1048606,Ea,0x42409024000120042309826,ai,v8,gi,gi,gi,gi,gi,1089576,bj,1065,pU,1066,iU,1066,aj,0x105c300c00401c1705815014410b02a0a82a0002a]) [] ak ?_,
 fun {n K t1 t2 a1 a2 t3 t4 t5 t6 t7 ch cd a3 a4 a5 t8 t9 t10 t11 t12 t13 r t14 t15 tt a6 x t16 t17 t18 t19 t20 a7 a8 t21 t22 R F t23} hK hn=>dT 796 (ce [DV,uG,0x40801c020ac00,gH,av,E8,0x108042108070402007c1e01443]) [u (fun A J O=>aT w.params h g n K (Prod.mk t2 (.ref (A 11))) t22) [10] [],u (fun A J O=>aU w.params h g n K (Prod.mk t2 (.ref (A 11))) t22) [10] []] (aa (aW hK) (aa (aX hK) ak)) ?_,
 fun {n K t1 t2 a1 a2 t3 t4 t5 t6 t7 ch cd a3 a4 a5 t8 t9 t10 t11 t12 t13 r t14 t15 tt a6 x t16 t17 t18 t19 t20 a7 a8 t21 t22 R F t23} hK hn=>dT 846 (ce [DV,yX,1054,ai,1078332,aw,1084,uG,ke,ek,0x40801c020ac00,gH,av,0x10f83e0f8000f8000f83e,aj,0x10844411007040210801f014431003e0f83e0003e]) [u (fun A J O=>aT w.params h g n K (Prod.mk t2 (.ref (A 11))) t22) [10] [],u (fun A J O=>aU w.params h g n K (Prod.mk t2 (.ref (A 11))) t22) [10] []] (aa (aW hK) (aa (aX hK) ak)) ?_,
 dT 414 (ce [nK,g4,fe,1035,ae,1104175128,ae,1053,ax,rc,1060890,ae,lh,0x401004530000200430,yH,kP,0x4000301a00022,zS,1075226,nv,1075875842,fh,0x10a0000902400824,pU,1073782824,qC,1064,aj,qC,0x10582e0b80401c1605414014400a828]) [] ak ?_,
 dT 417 (ce [wI,1077,aj,xH]) [] ak ?_,
 dT 417 (ce [wI,1076,aj,xH]) [] ak ?_,
 dT 417 (ce [wI,1075,aj,xH]) [] ak ?_,
 dT 671 (ce [nK,jS,fe,1036,ae,1099980824,ae,1049,ax,nV,1050,aZ,1050,jS,1050,oi,1075200,aZ,1050,jS,1097728,ez,1129576412188,gR,1062942,aw,1054,jV,1111490596,cQ,nM,ei,1062,jp,iE,iE,1068072,b7,0x109000090000a028,ae,0x4280a01109024,wD,0x4280a02c0542c0001100024,wD,1060,ae,0x4260982c0542c,wD,1060,ae,0x1064340900101818047fe0180b05c11ffc0602c0c05811ffc0602c0c03400047ff0900009024000240902c0542c,b7,1060,ae,1100009508,db,1060,g6,1060,ae,1060,b7,0x420080200b00009024,ni,rf,1054734]) [] ak ?_,
 dT 604 (ce [ax,0x1028000100a00004028000100a,iJ,dD,1062912,dD,0x1038000380603801,dD,0x1038000380603801,dD,0x10280503004028000480603801,bb,1058828,ai,0x10500002414000090500002414,br,1044,jS,fe,1035,ae,1104171028,ae,1053,ax,il,il,1058838,ae,1046,aZ,1046,jS,1097728,ez,1125281442840,gR,1060890,aw,1050,dz,ni,cQ,i9,1064994,ei,1058,jp,kC,1066020,av,1111527424,ni,gH,1138204097568,zf,0x4240902804c280000f00020,zf,1056,ae,0x4220882804c28,zf,1056,ae,0x105c30080010101603ffe010090540fffc040240a0500fffc040240a02c0003fff0800008020000200802804c28,b7,1056,gH,0x420028040280005c30,g6,1056,gH,b7,0x10701c0a00008020,mQ,ae,1103817084938]) [] ak ?_,
 fun {x n K t1 t2 a1 a2 t3 t4 t5 t6 t7 t8 t9 a3 a4 r0 r1 t10 t11 t12 T4 a5 a6 R F t13} hK hn=>dT 572 (ce [ax,il,il,il,1046,eH,1073768474,Bd,Bd,0x10580b0600a058000780c068010681a0001a,bb,1071128,ai,wT,1081344,br,1056,g4,fe,1036,gH,1074208,ae,1049,ax,i9,i9,i9,1058,aZ,1058,g4,1058,gr,1109393422,aZ,1058,mW,0x40100453000020043000008,ai,nM,1087488,h8,1087502,bB,1140332730368,h8,1113587726,ai,iE,1138204119080,aj,1117782052,iU,1060,jN,1060,jN,0x4000b8140a824,iE,1068072,ae,1064,iz,1064,ai,1072176,im,1097728,ku,0x1014040082d0002603800,ae,1046,av,Bb,0x106c380e00402c1b0681901445]) [u (fun A J O=>bG w.params h g x n K t1 t2 (A 8) (A 9) t3 t4 t5 t6 t7 t9 (A 0) (A 17)) [0,17,6,7,8,9] []] (aa (ba.2.2.2 hK hn) ak) ?_,
 fun {t1 t2 tt t3 a1 n K t4 R F t5} hK hn=>dT 666 (ce [Dx,fq,fe,1038,ae,1114658838,ae,1063,ax,xK,aZ,1048,fq,1048,bb,1098907672,B6,1105199134,cQ,0x1080200000f0800003c20,qn,1056,qn,1056,By,1125310805020,fq,ai,kC,oN,bb,1060,ai,nM,1087488,br,0x10ec2603c0f03c0f,ae,1111508004,br,h8,1138204119048,fh,1111508004,ax,0x1008010082800024,ae,1036,av,0x10b82e0b8000b8000b82e,aj,0x1064340d0010181906017014400c02e0b82e0002e]) [u (fun A J O=>jn w.params h g n K t4 (A 14) Qe (J 14) (J 34)) [3,4] [3,4]] (aa (ba.2.2.1 hK hn) ak) ?_,
 fun {ti n K t1 t2 a1 a2 t3 t4 t5 t6 t7 a3 a4 a5 t8 t9 t10 t11 x t12 t13 bv t14 t15 t16 a6 k t17 t18 T6 a7 t19 t20 T7 a8 a9 R F t21} hK hn=>dT 1459 (ce [A8,g4,fe,1041,ae,1118873642,ae,1067,ax,rj,jC,za,0x4060140000c31,za,1074791472,za,1075840048,yp,mX,1072,mX,1048628,rj,1146802426924,bb,1068,oH,ff,1103872,gr,1103888,nT,pH,h8,1105936,nY,1108026,ku,0x10e8020481204000,ku,0x41400002048120483a04000,av,1044,aw,1123133968404,ae,1119900716,rr,1068,sq,1084,na,0x43c0781e0781e,rr,1084,ai,0x41e0f8000783e,ae,1112126,na,ai,1133940603968,ae,1088,ai,1172526105668,ae,1092,fv,1092,c6,1140882496,aw,1140850722,ax,0x10f01d0f00008c0e0084f100400880108c4611840,xX,0x400140251304a,jC,1146802426924,rr,1093676,ai,vX,rr,1106,ai,l6,1090644,ae,1134676,na,ai,1145774843990,ae,1110,ai,1196148437082,ae,1114,fv,1114,c6,lQ,oE,1110,ax,0x11482814800158560b40108c5c17056,na,0x10002e0380213c520781e0781e,nn,na,1159809106,na,0x4181482e038021401e07852,av,xd,1050,ae,1073234,av,1048,ae,1098907672,aw,1048,ae,1146783543322,gr,1093648,nT,ai,1099878,gD,1153024,ku,1064960,gH,av,0x11a0681a0001a0001a068,aj,0x11b805040360d4340143d1a8681a06800068]) [u (fun A J O=>aT w.params h g n K (Prod.mk t2 (.ref (A 9))) t13) [8] [],u (fun A J O=>aU w.params h g n K (Prod.mk t2 (.ref (A 9))) t13) [8] []] (aa (aW hK) (aa (aX hK) ak)) ?_⟩ <;> intro cb ν τ υ π ς ρ own past κ bl p <;> kernel_rfl
theorem jZ {w:World} {h g:Nat→Nat}:(∀ {ti n K t1 t2 a1 a2 t3 t4 t5 t6 t7 a3 a4 a5 a6 a7 t8 k t9 bv t10 t11 t12 t13 t14 t15 x t16 t17 t18 a8 t19 t20 t21 t22 t23 a9 t24 t25 T9 a10 a11 R F t26},ag K=n→n≤1000→(mq w.params h g ti n K t1 t2 a1 a2 t3 t4 t5 t6 t7 a3 a4 a5 a6 a7 t8 k t9 bv t10 t11 t12 t13 t14 t15 x t16 t17 t18 a8 t19 t20 t21 t22 t23 a9 t24 t25 T9 a10 a11 R F t26).S.Holds (BB w h g)) ∧
 (∀ {ti n K t1 t2 a1 a2 t3 t4 t5 t6 t7 a3 a4 a5 a6 a7 t8 k t9 bv t10 t11 t12 t13 t14 t15 x t16 t17 t18 a8 t19 t20 t21 t22 t23 a9 k2 t24 t25 T9 a10 a11 R F t26},ag K=n→n≤1000→k≠k2→(fK w.params h g ti n K t1 t2 a1 a2 t3 t4 t5 t6 t7 a3 a4 a5 a6 a7 t8 k t9 bv t10 t11 t12 t13 t14 t15 x t16 t17 t18 a8 t19 t20 t21 t22 t23 a9 k2 t24 t25 T9 a10 a11 R F t26).S.Holds (BB w h g)) ∧
 (∀ {ti n K t1 t2 a1 a2 t3 t4 t5 t6 t7 a3 a4 a5 a6 a7 t8 k t9 bv t10 t11 t12 t13 t14 t15 x t16 t17 t18 t19 t20 a8 t21 t22 T8 a9 a10 R F t23},ag K=n→n≤1000→(mB w.params h g ti n K t1 t2 a1 a2 t3 t4 t5 t6 t7 a3 a4 a5 a6 a7 t8 k t9 bv t10 t11 t12 t13 t14 t15 x t16 t17 t18 t19 t20 a8 t21 t22 T8 a9 a10 R F t23).S.Holds (BB w h g)) ∧
 (∀ {ti n K t1 t2 a1 a2 t3 t4 t5 t6 t7 a3 a4 a5 ee t8 t9 t10 t11 x t12 t13 t14 ta tb a6 bw cc t15 t16 t17 t18 t19 a7 a8 t20 R F t21},ag K=n→n≤1000→(m2 w.params h g ti n K t1 t2 a1 a2 t3 t4 t5 t6 t7 a3 a4 a5 ee t8 t9 t10 t11 x t12 t13 t14 ta tb a6 bw cc t15 t16 t17 t18 t19 a7 a8 t20 R F t21).S.Holds (BB w h g)) ∧
 (∀ {t1 t2 T0 a1 k t3 t4 T1 a2 t5 t6 T2 a3 a4 bv R F t7},(vk w.params h g t1 t2 T0 a1 k t3 t4 T1 a2 t5 t6 T2 a3 a4 bv R F t7).S.Holds (BB w h g)) ∧
 (∀ {x t1 a1 t2 t3 t4 t5 T1 a2 k t6 t7 T2 a3 a4 R F t8},(vN w.params h g x t1 a1 t2 t3 t4 t5 T1 a2 k t6 t7 T2 a3 a4 R F t8).S.Holds (BB w h g)):=by
 refine ⟨fun {ti n K t1 t2 a1 a2 t3 t4 t5 t6 t7 a3 a4 a5 a6 a7 t8 k t9 bv t10 t11 t12 t13 t14 t15 x t16 t17 t18 a8 t19 t20 t21 t22 t23 a9 t24 t25 T9 a10 a11 R F t26} hK hn=>dT 1114 (ce [BN,0x11004007c40000250001000c51,jS,CG,1091584,Bh,0x11705c17000170001705c,aj,0x10c06218807048300bc2e014461785c1705c0005c]) [u (fun A J O=>aT w.params h g n K (Prod.mk t2 (.ref (A 11))) t17) [10] [],u (fun A J O=>aU w.params h g n K (Prod.mk t2 (.ref (A 11))) t17) [10] []] (aa (aW hK) (aa (aX hK) ak)) ?_,
 fun {ti n K t1 t2 a1 a2 t3 t4 t5 t6 t7 a3 a4 a5 a6 a7 t8 k t9 bv t10 t11 t12 t13 t14 t15 x t16 t17 t18 a8 t19 t20 t21 t22 t23 a9 k2 t24 t25 T9 a10 a11 R F t26} hK hn hne=>dT 1304 (ce [BN,0x44007c4000002,CG,bb,1072,dF,ai,0x42d170000b45c,ae,1116,br,1116,eY,gw,1095774,ae,1144928,ai,0x46200030188000c062,li,0x45e0b85e000020043400062,kr,fa,kr,fa,kr,bj,1066,Bh,0x119064190001900019064,aj,0x10d06a1a807048340cc3201446198641906400064]) [u (fun A J O=>aT w.params h g n K (Prod.mk t2 (.ref (A 11))) t17) [10] [],u (fun A J O=>aU w.params h g n K (Prod.mk t2 (.ref (A 11))) t17) [10] [],u (fun A J O=>tG w.params h g (A 16) (A 0) t9 t8 (A 37) (J 37) t24 k k2 (.ref (A 1))) [16,0,37] []] (aa (aW hK) (aa (aX hK) (aa (Fl hne) ak))) ?_,
 fun {ti n K t1 t2 a1 a2 t3 t4 t5 t6 t7 a3 a4 a5 a6 a7 t8 k t9 bv t10 t11 t12 t13 t14 t15 x t16 t17 t18 t19 t20 a8 t21 t22 T8 a9 a10 R F t23} hK hn=>dT 1480 (ce [ax,i9,i9,i9,1058,iJ,1087488,kl,1092655105,kl,1092655105,kl,0x10881109010088000a81209801,bb,1083428,ai,rj,jC,1068,br,1068,nT,fe,1039,ae,1120972844,ae,1069,ax,jT,lg,1070,aZ,1070,nT,0x42e01c06008030c400,aZ,1070,nT,iC,1151101616131,aj,0x4000c8000c83200030,BD,BD,0x4000d8180c8300c832,lg,1148952008750,bb,1070,pH,gr,1105938,dF,nY,1082,h8,1107986,sq,1110076,ot,1163938254868,ot,0x100002050140503c,Eg,1121998894,uH,1070,ai,sv,1086,f8,0x43e0802008020,uH,1086,ai,0x41f1000007c40,ae,1114176,f8,ai,1135016443970,ae,1090,ai,iw,1094,ae,1094,fv,1094,c6,1142980674,oE,1090,ax,0x10f83e0783e000240000f00c511084208c0108c4812042,jS,Aj,Bt,lg,1148952008750,CT,wf,ot,CT,zE,ot,1070,uH,1070,ai,0x4580002b160000ac58,f8,0x4580802008020,uH,1112,ai,1196148437082,eZ,1140826,f8,ai,1149002363996,ae,1116,ai,gw,1120,ae,1120,fv,1120,c6,1170256988,oE,1116,ax,0x42e000310000f00c521705c0c00108c621885c,gr,1095698,dF,ai,0x46a000341a8000d06a,ot,ae,1058,av,Cf,0x11c806044380dc360143d]) [u (fun A J O=>aT w.params h g n K (Prod.mk t2 (.ref (A 10))) t17) [9] [],u (fun A J O=>aU w.params h g n K (Prod.mk t2 (.ref (A 10))) t17) [9] []] (aa (aW hK) (aa (aX hK) ak)) ?_,
 fun {ti n K t1 t2 a1 a2 t3 t4 t5 t6 t7 a3 a4 a5 ee t8 t9 t10 t11 x t12 t13 t14 ta tb a6 bw cc t15 t16 t17 t18 t19 a7 a8 t20 R F t21} hK hn=>dT 833 (ce [ax,0x1078000381e0000e078000381e,eH,0x10402200422088000880008822,mS,1090553857,mS,0x10780f0800e078000981008801,bb,1079328,ai,v8,1064,br,1064,kr,fe,1042,ae,1089576,yv,te,qN,aZ,1066,kr,0x42a01404004030c400,bF,1066,kr,1107968,aj,AR,0x10a8140a8000502a00032,aZ,1066,kr,1066,bb,1066,kr,1091626,ai,jF,jF,jF,jF,1076,lO,1076,lO,1101876,lO,1076,lO,1076,gr,1101838,g4,oH,ff,1103872,h8,1103886,ai,1076280,iH,1132519424,ku,0x10e0020401003800,ku,0x41200002040100403803800,av,1042,aw,1120986482706,ae,1128293428,lO,1071156,aw,1046,aw,1046,av,1073174,ai,1077306,aw,1082,Eg,0x405010020bc00034010f01c,ae,1054,av,E8,0x1080421080403c2007c1e01448]) [u (fun A J O=>aT w.params h g n K (Prod.mk t2 (.ref (A 8))) t13) [7] [],u (fun A J O=>aU w.params h g n K (Prod.mk t2 (.ref (A 8))) t13) [7] []] (aa (aW hK) (aa (aX hK) ak)) ?_,
 dT 747 (ce [nK,g4,fe,1041,ae,1118855192,ae,1067,ax,nV,lh,1072,aj,lh,1072,zQ,s4,1048610,rc,1101017114,ae,lr,1067046,aw,1062,jV,kh,cQ,lg,1071150,ei,1070,jp,1072176,mO,b7,0x4000b0000c030,eZ,0x10b0300c0150b02c,x4,0x10b0300c03406434000150002c,x4,eZ,0x10b02e0b83406434,x4,eZ,1146810819636,kh,kh,0x10743c0b0010181c057fe0180b06c15ffc0602c0c06815ffc0602c0c04400057ff,b7,eZ,1104212012,db,1068,g6,eZ,1068,b7,1155346247724,nH,1064,rf,1054734]) [] ak ?_,
 dT 1176 (ce [nK,g4,fe,1040,ae,1116758040,ae,1065,ax,nV,lh,1072,zQ,yH,kP,0x1068000680c068000301a00022,B6,1115684904,cQ,te,1091626,xM,1091622,xM,1091622,xM,0x41a0301a00026,CQ,1050,ai,jT,1089582,av,1064,aw,0x42e0b02c0b02c098000a028,CQ,1070,ai,1072176,im,ae,1115734064,av,1064,aw,1140313858088,ai,1126409723954,ae,1074,oH,1103872,ae,1078,fv,1078,c6,1126195250,oE,1074,ax,0x43c0f03c0b8160b800070150084f0c83206c0108c380e032,aj,0x10783e0f03e0f8000f8000f83e0003c,ge,0x41e0f83c0f83e,ge,0x10681a0301a0000c068001081e0f83c0f83e,aZ,nv,1075226,bb,nv,ai,0x4211100008444,ae,1092,br,1092,eY,kK,1083462,ae,1120328,ai,0x44a00024128000904a,li,1128267850,ax,1147177030,fq,ax,1094,fq,ax,1094,fq,bj,0x41a014040082a,aZ,nv,1121976346,pU,Dj,0x42814852010070a027098051184e]) [] ak ?_⟩ <;> intro cb ν τ υ π ς ρ own past κ bl p <;> kernel_rfl
end
section
open PySem.SeqAt
noncomputable def Gn (P:Params) (h g:Nat→Nat):List LibE:=[
 eL [4,5] fun c l m=>qm P h g (vi (it l 0 2)) (vt (it l 0 2)) (vt (it l 0 0)) (it l 0 1) (ad l 0) (vt (it l 1 0)) (vt (it l 1 1)) (ad l 1) (vt (it l 2 0)) (vt (it l 2 1)) (ad l 2) (vt (it l 3 0)) (vt (it l 3 1)) (ad l 3) (v7 (ob l 4)) (v7 (ob l 5)) (vt (ar c 2)),
 eL [4,5] fun c l m=>qK P h g (vi (it l 0 2)) (vt (it l 0 2)) (vt (it l 0 0)) (it l 0 1) (ad l 0) (vt (it l 1 0)) (vt (it l 1 1)) (ad l 1) (vt (it l 2 0)) (vt (it l 2 1)) (ad l 2) (vt (it l 3 0)) (vt (it l 3 1)) (ad l 3) (v7 (ob l 4)) (v7 (ob l 5)) (vt (ar c 2)),
 eL [4,5] fun c l m=>pK P h g (vi (it l 0 2)) (vt (it l 0 2)) (vt (it l 0 0)) (it l 0 1) (ad l 0) (vt (it l 1 0)) (vt (it l 1 1)) (ad l 1) (vt (it l 2 0)) (vt (it l 2 1)) (ad l 2) (vt (it l 3 0)) (vt (it l 3 1)) (ad l 3) (v7 (ob l 4)) (v7 (ob l 5)) (vt (ar c 2)),
 eL [4,5] fun c l m=>r4 P h g (vi (it l 0 2)) (vt (it l 0 2)) (vt (it l 0 0)) (it l 0 1) (ad l 0) (vt (it l 1 0)) (vt (it l 1 1)) (ad l 1) (vt (it l 2 0)) (vt (it l 2 1)) (ad l 2) (vt (it l 3 0)) (vt (it l 3 1)) (ad l 3) (v7 (ob l 4)) (v7 (ob l 5)) (vt (ar c 2)),
 eL [4,5] fun c l m=>vy P h g (vt (it l 0 0)) (vt (it l 0 1)) (ad l 0) (vt (it l 3 0)) (vt (it l 3 1)) (vt (it l 3 2)) (vt (it l 1 0)) (vi (it l 1 2)) (vt (it l 1 2)) (ad l 1) (vt (it l 2 0)) (vi (it l 2 2)) (vt (it l 2 2)) (ad l 2) (ad l 3) (v7 (ob l 4)) (v7 (ob l 5)) (vt (ar c 2)),
 eL [4,5] fun c l m=>vU P h g (vt (it l 0 0)) (vt (it l 0 1)) (ad l 0) (vt (it l 3 0)) (vt (it l 3 1)) (vt (it l 3 2)) (vt (it l 1 0)) (vi (it l 1 2)) (vt (it l 1 2)) (ad l 1) (vt (it l 2 0)) (vi (it l 2 2)) (vt (it l 2 2)) (ad l 2) (ad l 3) (v7 (ob l 4)) (v7 (ob l 5)) (vt (ar c 2)),
 eL [4,5] fun c l m=>vf P h g (vt (it l 0 0)) (vt (it l 0 1)) (ad l 0) (vt (it l 3 0)) (vt (it l 3 1)) (vt (it l 3 2)) (vt (it l 1 0)) (vi (it l 1 2)) (vt (it l 1 2)) (ad l 1) (vt (it l 2 0)) (vi (it l 2 2)) (vt (it l 2 2)) (ad l 2) (ad l 3) (v7 (ob l 4)) (v7 (ob l 5)) (vt (ar c 2)),
 eL [4,5] fun c l m=>vS P h g (vi (it l 1 1)) (vt (it l 1 0)) (vt (it l 1 1)) (ad l 0) (ad l 1) (vt (it l 3 0)) (vt (it l 3 1)) (vt (it l 2 0)) (it l 2 1) (ad l 2) (vt (it l 3 3)) (ad l 3) (v7 (ob l 4)) (v7 (ob l 5)) (vt (ar c 2)),
 eL [3,4] fun c l m=>gZ P h g (vt (it l 0 0)) (vt (it l 0 1)) (ad l 0) (vt (it l 2 0)) (vt (it l 2 1)) (vt (it l 1 0)) (vt (it l 1 2)) (ad l 1) (ad l 2) (v7 (ob l 3)) (v7 (ob l 4)) (vt (ar c 2)),
 eL [3,4] fun c l m=>i6 P h g (vt (it l 0 0)) (ad l 0) (vt (it l 2 0)) (vt (it l 2 1)) (vt (it l 1 0)) (vt (it l 1 2)) (ad l 1) (ad l 2) (v7 (ob l 3)) (v7 (ob l 4)) (vt (ar c 2)),
 eL [3,4] fun c l m=>hZ P h g (vt (it l 0 0)) (ad l 0) (vt (it l 2 0)) (vt (it l 2 1)) (vt (it l 1 0)) (ad l 1) (ad l 2) (v7 (ob l 3)) (v7 (ob l 4)) (vt (ar c 2)),
 eL [2,3] fun c l m=>Ar P h g (vt (it l 1 0)) (vt (it l 1 1)) (vt (it l 0 0)) (it l 0 1) (ad l 0) (vt (it l 1 3)) (ad l 1) (v7 (ob l 2)) (v7 (ob l 3)) (vt (ar c 2)),
 eL [4,5] fun c l m=>vk P h g (vt (it l 3 0)) (vt (it l 0 0)) (it l 0 1) (ad l 0) (vi (it l 1 2)) (vt (it l 1 2)) (vt (it l 1 0)) (it l 1 1) (ad l 1) (vt (it l 2 2)) (vt (it l 2 0)) (it l 2 1) (ad l 2) (ad l 3) (vb (it l 2 2)) (v7 (ob l 4)) (v7 (ob l 5)) (vt (ar c 2)),
 eL [4,5] fun c l m=>vN P h g (vr (it l 4 0)) (vt (it l 0 0)) (ad l 0) (vt (it l 3 0)) (vt (it l 3 1)) (vt (it l 3 2)) (vt (it l 1 0)) (it l 1 1) (ad l 1) (vi (it l 2 2)) (vt (it l 2 2)) (vt (it l 2 0)) (it l 2 1) (ad l 2) (ad l 3) (v7 (ob l 4)) (v7 (ob l 5)) (vt (ar c 2))]
noncomputable def Er (P:Params) (h g:Nat→Nat):List LibE:=F0 P h g ++ Gn P h g
theorem xf (w:World) (h g:Nat→Nat):gq (BB w h g) (Er w.params h g):=(De w h g).app (
 ⟨fun _ _ _=>lw.2.2.2.2.1,⟨fun _ _ _=>lw.2.2.2.2.2.1,⟨fun _ _ _=>lw.2.2.2.2.2.2.1,⟨fun _ _ _=>lw.2.2.2.2.2.2.2.1,⟨fun _ _ _=>lw.2.2.2.2.2.2.2.2.1,⟨fun _ _ _=>lw.2.2.2.2.2.2.2.2.2,⟨fun _ _ _=>ft.1,⟨fun _ _ _=>ft.2.2.2.1,⟨fun _ _ _=>ft.2.2.2.2.1,⟨fun _ _ _=>ft.2.2.2.2.2.1,⟨fun _ _ _=>ft.2.2.2.2.2.2.1,⟨fun _ _ _=>ft.2.2.2.2.2.2.2.2.1,⟨fun _ _ _=>jZ.2.2.2.2.1,⟨fun _ _ _=>jZ.2.2.2.2.2,trivial⟩⟩⟩⟩⟩⟩⟩⟩⟩⟩⟩⟩⟩⟩)
end
noncomputable def Fw:String:=PySem.W.S.litE [PySem.W.S.mk8 95 rfl,PySem.W.S.mk8 99 rfl,PySem.W.S.mk8 111 rfl,PySem.W.S.mk8 100 rfl,PySem.W.S.mk8 101 rfl,PySem.W.S.mk8 99 rfl,PySem.W.S.mk8 115 rfl,PySem.W.S.mk8 46 rfl,PySem.W.S.mk8 108 rfl,PySem.W.S.mk8 111 rfl,PySem.W.S.mk8 111 rfl,PySem.W.S.mk8 107 rfl,PySem.W.S.mk8 117 rfl,PySem.W.S.mk8 112 rfl,PySem.W.S.mk8 95 rfl,PySem.W.S.mk8 101 rfl,PySem.W.S.mk8 114 rfl,PySem.W.S.mk8 114 rfl,PySem.W.S.mk8 111 rfl,PySem.W.S.mk8 114 rfl,PySem.W.S.mk8 46 rfl,PySem.W.S.mk8 114 rfl,PySem.W.S.mk8 101 rfl,PySem.W.S.mk8 112 rfl,PySem.W.S.mk8 108 rfl,PySem.W.S.mk8 97 rfl,PySem.W.S.mk8 99 rfl,PySem.W.S.mk8 101 rfl,PySem.W.S.mk8 95 rfl,PySem.W.S.mk8 101 rfl,PySem.W.S.mk8 114 rfl,PySem.W.S.mk8 114 rfl,PySem.W.S.mk8 111 rfl,PySem.W.S.mk8 114 rfl,PySem.W.S.mk8 115 rfl] [95,99,111,100,101,99,115,46,108,111,111,107,117,112,95,101,114,114,111,114,46,114,101,112,108,97,99,101,95,101,114,114,111,114,115] rfl rfl
noncomputable abbrev vD:Str:=Qt
noncomputable abbrev FX:Str:=Qx
noncomputable def GB (P:Params) (h g:Nat→Nat) (t1 t2 t3 t4 t5:Nat):RS:=aG 200 [] false (.call (.type La) ⟨[.str Qt t1,.bytes #[255,226,130,172] t2,.int 0 t3,.int 1 t4,.str Qx t5],[]⟩) []
noncomputable abbrev DQ (a t1 t2 t5:Nat):Obj:=⟨(.type La),none,(Data.fields #[(.ref a),.none,.none,.none,(.bool false),.none,(.str Qt t1),(.bytes #[255,226,130,172] t2),(.int 0 0),(.int 1 0),(.str Qx t5)]),#[]⟩
noncomputable def Gg (P:Params) (h g:Nat→Nat) (e a t1 t2 t5:Nat):RS:=aG 100 [] false (.call (.builtin Fw) ⟨[.ref e],[]⟩) [⟨false,e,DQ a t1 t2 t5⟩]
noncomputable def EB (P:Params) (h g:Nat→Nat) (u t1 t2 t3:Nat):RS:=(aG 300 [] false (aS PySem.W.SL.s2914175891499649448x19 [.bytes #[255,226,130,172] u,.str Qt t1,.str G3 t2,.str Gd t3]) []).fin [] [0] nN nN (fun _ t=>ok (.str ⟨#[65533,8364]⟩ (nb t 0)))
noncomputable def Fi (P:Params) (h:Nat→Nat) (g:Nat→Nat) (t1:Nat) (t2:Nat) (t3:Nat) (t4:Nat) (t5:Nat):RS:=(GB P h g t1 t2 t3 t4 t5).fin [1,2] [] nN (fun b t=>[⟨(.type La),none,(Data.fields #[(.ref (nb b 1)),.none,.none,.none,(.bool false),.none,(.str Qt t1),(.bytes #[255,226,130,172] t2),(.int 0 0),(.int 1 0),(.str Qx t5)]),#[]⟩,(oT [(.str Qt t1),(.bytes #[255,226,130,172] t2),(.int 0 t3),(.int 1 t4),(.str Qx t5)])]) rB
noncomputable def EJ (P:Params) (h:Nat→Nat) (g:Nat→Nat) (e:Nat) (a:Nat) (t1:Nat) (t2:Nat) (t5:Nat):RS:=(Gg P h g e a t1 t2 t5).fin [1] [0,1] nN (fun b t=>[(oT [(.str ⟨#[65533]⟩ (nb t 0)),(.int 1 (nb t 1))])]) rB
theorem FJ (w:World) h g t1 t2 t3 t4 t5 (cb:Bool):(Fi w.params h g t1 t2 t3 t4 t5).Runs (BB w h g) 48 (ce [av,0x4010100400404010000100001004,kw,1025,kw,1025,kw,1025,kw,1025,kw,1052673]) [] cb:=by
 intro ν τ υ π ς ρ own past κ bl p
 kernel_rfl
theorem Fp (w:World) h g e a t1 t2 t5 (cb:Bool):(EJ w.params h g e a t1 t2 t5).Runs (BB w h g) 11 (ce [nQ,1050626]) [] cb:=by
 intro ν τ υ π ς ρ own past κ bl p
 kernel_rfl
section
open PySem.SeqAt PySem.Calls
open PySem.Builtin PySem.Builtin._codecs
theorem GA {w:World} {h g t1 t2 t3 t4 t5}:(Fi w.params h g t1 t2 t3 t4 t5).S.Holds (BB w h g):=RS.done (cy w h g) (.one fun cb=>FJ w h g t1 t2 t3 t4 t5 cb) rfl (fun _ _=>rfl) ak
theorem Gq {w:World} {h g e a t1 t2 t5}:(EJ w.params h g e a t1 t2 t5).S.Holds (BB w h g):=RS.done (cy w h g) (.one fun cb=>Fp w h g e a t1 t2 t5 cb) rfl (fun _ _=>rfl) ak
theorem hM {B:Base} {S:Mine.Spec} (H:S.Holds B) (hsh:S.sh=[]) (hdy:S.dy=false) {A:Around} {s:Shared} {R:Result→Shared→Prop} (h0:A.handled=none) (h1:A.depth+S.lv≤950) (h2:A.units+S.lv≤9000) (top:da B s)
 (pre:∀ x,x∈S.pre→s.heap.get? x.1=some x.2∧B.Free x.1) (nd:(S.pre.map (·.1)).Nodup) (k:∀ s' bs ts,After B S s s' bs ts→R (S.r bs ts) s'):codeAny B.M A S.c R s:=fun Γ p hc hb =>
 H Γ p s R ⟨hc,hb.1.trans h0,by rw [hsh]; rfl,⟨by have:=hb.2.1; omega,by have:=hb.2.2.2.2; omega⟩,top,fun q=>(by rw [hdy] at q; cases q),fun x hx=>⟨.inl (pre x hx).1,(pre x hx).2⟩,nd⟩ k
theorem cP.exactD {h:Heap} {a:Nat} {o:Obj} (x:cP false h a o):h.get? a=some o:=by
 rcases x with x | ⟨x1,_⟩
 ·exact x
 ·cases x1
noncomputable abbrev yG:Str:=G3
noncomputable abbrev Ep:Str:=Gd
theorem tO {id:String} {b:Array UInt8}:decodeRoad id b vD (some yG) []=(runDecoder id utf8Decoder (some yG) true b 0 [] >>= fun r=>mkStr ⟨r.1⟩):=by kernel_rfl
theorem fQ {M:Model} {A:Around} {E:Value→Shared→Prop} {s:Shared} {b:Array UInt8} {Q:Value→Shared→Prop} (hb:¬ b.size > sizeLine) (h:Q (.bytes b s.toks) { s with toks:=s.toks+1 }):wpAny M A (mkBytes b) Q E s:=by
 unfold mkBytes
 rw [if_neg hb]
 exact fun _ _ _=>h
theorem cW {M:Model} {A:Around} {E:Value→Shared→Prop} {s:Shared} {e a t1 t2 t5:Nat} {Q:UnicodeEncodeError.Members→Shared→Prop} (he:s.heap.get? e=some (DQ a t1 t2 t5))
 (h:∀ m:UnicodeEncodeError.Members,m.object=.bytes #[255,226,130,172] t2→Q m s):wpAny M A (UnicodeEncodeError.members (.ref e)) Q E s:=by
 unfold UnicodeEncodeError.members fieldsOf
 refine wpAny_bind (wpAny_bind (wpAny_load he ?_))
 refine wpAny_pure (wpAny_of_eq (a:=⟨.str Qt t1,.bytes #[255,226,130,172] t2,0,1,.str Qx t5⟩) (by kernel_rfl) (h _ rfl))
theorem Gl {w:World} {h g u t1 t2 t3}:(EB w.params h g u t1 t2 t3).S.Holds (BB w h g):=by
 refine am rfl fun A s₀ R hh hu hlv ht hcell _ k=>?_
 have e : (EB w.params h g u t1 t2 t3).c = .call (.builtin "_codecs.decode.text") ⟨[.bytes #[255, 226, 130, 172] u, .str vD t1, .str yG t2, .str Ep t3], []⟩ := by kernel_rfl
 rw [e]
 refine codeAny_call_builtin KBd.plain_text KBd.entry_text ?_
 have ok:=KBd.args_text (.bytes #[255,226,130,172] u) (.str vD t1) (.str yG t2) (.str Ep t3)
 have fin:wpAny (BB w h g).M A.in1 (Builtin.«_codecs.decode.text» ⟨[.bytes #[255,226,130,172] u,.str vD t1,.str yG t2,.str Ep t3],[]⟩)
  (fun fin s'=>match fin with | .done f=>R (.ok f) s' | .again c'=>c'.quiet=true∧codeAny (BB w h g).M A c' R s') (fun e s'=>R (.error e) s') s₀:=by
  show wpAny _ _ (Bytes.bytesLike _ (.bytes #[255,226,130,172] u) >>= fun r=>_) _ _ s₀
  refine wpAny_bind (wpAny_of_eq KBd.like_eq ?_)
  refine wpAny_bind (wpAny_of_eq KBd.held_eq ?_)
  show wpAny _ _ (decodeRoad _ #[255,226,130,172] vD (some yG) [] >>= fun v=>_) _ _ s₀
  rw [tO]
  refine wpAny_bind (wpAny_bind ?_)
  unfold runDecoder
  dsimp only
  have hr:∀ (f:Nat→Nat × Array Nat × Faults→Sem (ForInStep (Nat × Array Nat × Faults))) (i:Nat × Array Nat × Faults),(forIn [:(#[255,226,130,172]:Array UInt8).size] i f:Sem _)=forIn [0,1,2,3] i f:=fun f i=>by rw [Std.Legacy.Range.forIn_eq_forIn_range']; rfl
  rw [hr,List.forIn_cons]
  refine wpAny_bind (wpAny_bind ?_)
  dsimp only
  rw [if_neg (by decide),if_neg (by decide)]
  have hf : utf8Decoder.find true #[255, 226, 130, 172] 0 = .bad 1 "invalid start byte" false := by kernel_rfl
  rw [hf]
  dsimp only
  rw [if_neg (by decide)]
  refine wpAny_bind (wpAny_rule ?_)
  refine wpAny_bind ?_
  unfold decodeFault
  refine wpAny_bind (wpAny_of_eq (a := Value.builtin "_codecs.lookup_error.replace_errors") (by kernel_rfl) ?_)
  refine wpAny_bind (wpAny_holding ?_)
  show wpAny _ _ (mkStr vD >>= fun v1 => mkBytes #[255, 226, 130, 172] >>= fun v2 => mkInt 0 >>= fun v3 => mkInt 1 >>= fun v4 => mkStr FX >>= fun v5 => PySem.call (.type "UnicodeDecodeError") [v1, v2, v3, v4, v5]) _ _ _
  refine wpAny_bind (wpAny_mkStr ?_ (by decide))
  refine wpAny_bind (fQ (by decide) ?_)
  refine wpAny_bind (wpAny_mkInt ?_)
  refine wpAny_bind (wpAny_mkInt ?_)
  refine wpAny_bind (wpAny_mkStr ?_ (by decide))
  have top1:da (BB w h g) { s₀ with toks:=s₀.toks+1+1+1+1+1 }:=⟨ht.1,ht.2⟩
  have lv':(EB w.params h g u t1 t2 t3).lv=300:=rfl
  rw [lv'] at hu hlv
  have d1:A.in1.depth≤A.depth+20:=Nat.le_add_right _ _
  have d2:A.in1.units≤A.units+20:=Nat.add_le_add_left (by decide) _
  refine wpAny_call ?_
  have e1 := fun a b c d f => (show (Fi w.params h g a b c d f).S.c = .call (.type "UnicodeDecodeError") ⟨[.str vD a, .bytes #[255, 226, 130, 172] b, .int 0 c, .int 1 d, .str FX f], []⟩ from by kernel_rfl)
  refine (e1 _ _ _ _ _)▸hM GA rfl rfl hh (by show A.in1.depth+200≤950; omega) (by show A.in1.units+200≤9000; omega) top1 (fun x hx=>nomatch hx) List.nodup_nil fun s₁ bs ts A1=>?_
  obtain ⟨x,y,rfl⟩:∃ x y,bs=[x,y]:=by
   have:=A1.len
   match bs,this with
   | [x,y],_=>exact ⟨x,y,rfl⟩
  have hx:s₁.heap.get? x=some (DQ y s₀.toks (s₀.toks+1) (s₀.toks+1+1+1+1)):=(A1.nw 0 x _ rfl rfl).exact rfl
  have fx:(BB w h g).Free x:=top1.free (A1.new x (.head _))
  show wpAny _ _ _ _ _ s₁
  refine wpAny_bind ?_
  show wpAny _ _ (UnicodeEncodeError.members (.ref x) >>= fun m => holding [Value.builtin "_codecs.lookup_error.replace_errors", .ref x] (PySem.call (Value.builtin "_codecs.lookup_error.replace_errors") [.ref x]) >>= fun r => _) _ _ s₁
  refine wpAny_bind (cW hx fun m hm=>?_)
  refine wpAny_bind (wpAny_holding (wpAny_call ?_))
  have e2 := fun a b c d f => (show (EJ w.params h g a b c d f).S.c = .call (.builtin "_codecs.lookup_error.replace_errors") ⟨[.ref a], []⟩ from by kernel_rfl)
  refine (e2 _ y s₀.toks (s₀.toks+1) (s₀.toks+1+1+1+1))▸hM Gq rfl rfl hh (by show A.in1.depth+100≤950; omega) (by show A.in1.units+100≤9000; omega) A1.top (fun z hz=>?_) (by simp [bX,EJ,RS.fin,RS.finO,RS.S,RS.SO,Gg,aG]) fun s₂ bs' ts' A2=>?_
  ·obtain rfl:z=(x,DQ y s₀.toks (s₀.toks+1) (s₀.toks+1+1+1+1)):=by
    cases hz with
    | head=>rfl
    | tail _ hz=>exact nomatch hz
   exact ⟨hx,fx⟩
  obtain ⟨z,rfl⟩:∃ z,bs'=[z]:=by
   have:=A2.len
   match bs',this with
   | [z],_=>exact ⟨z,rfl⟩
  obtain ⟨v1,v2,rfl⟩:∃ v1 v2,ts'=[v1,v2]:=by
   have:=A2.lent
   match ts',this with
   | [v1,v2],_=>exact ⟨v1,v2,rfl⟩
  have hz:s₂.heap.get? z=some (oT [.str ⟨#[65533]⟩ v1,.int 1 v2]):=(A2.nw 0 z _ rfl rfl).exact rfl
  have hx2:s₂.heap.get? x=some (DQ y s₀.toks (s₀.toks+1) (s₀.toks+1+1+1+1)):=(A2.keep x _ hx (fun q=>nomatch q)).exact rfl
  show wpAny _ _ (UnicodeEncodeError.members (.ref x) >>= fun m'=>_) _ _ s₂
  refine wpAny_bind (cW hx2 fun m' hm'=>?_)
  rw [hm,hm']
  dsimp only
  rw [if_neg]
  rotate_left
  ·show ¬ ((!((s₀.toks+1 == s₀.toks+1) && ((#[255,226,130,172]:Array UInt8) == #[255,226,130,172])))=true)
   simp
  refine wpAny_pure (wpAny_holding ?_)
  show wpAny _ _ ((isInstance (.ref z) (.type "tuple") >>= fun b => if (!b) = true then pure none else seqItems? (.ref z) >>= fun o => match o.map (·.toList) with | some [a, b] => pure (some (a, b)) | _ => pure none) >>= fun x => _) _ _ s₂
  have hT : s₂.TypeIs (.ref z) "tuple" := ⟨_, hz, by show yT = _; kernel_rfl⟩
  refine wpAny_bind (wpAny_bind (wpAny_isInstance (b:=true) hT (by kernel_rfl) ?_))
  rw [if_neg (by decide)]
  refine wpAny_bind (wpAny_seqItems hz rfl ?_)
  refine wpAny_pure ?_
  dsimp only
  refine wpAny_bind (wpAny_of_eq (a:=some (⟨#[65533]⟩:Str)) (by kernel_rfl) ?_)
  dsimp only
  refine wpAny_bind (wpAny_of_eq (a:=(1:Int)) (by kernel_rfl) ?_)
  refine wpAny_bind (wpAny_of_eq (a:=(1:Nat)) (by kernel_rfl) ?_)
  refine wpAny_pure (wpAny_pure ?_)
  refine wpAny_of_eq (a := ((4 : Nat), (#[65533, 8364] : Array Nat), ({ handler := some (Value.builtin "_codecs.lookup_error.replace_errors"), exc := some (Value.ref x) } : Faults))) (by kernel_rfl) ?_
  refine wpAny_pure ?_
  refine wpAny_mkStr ?_ (by show Str.length ⟨#[65533,8364]⟩≤sizeLine; decide)
  refine wpAny_pure ?_
  refine k _ [] [s₂.toks] ⟨⟨A2.top.1,A2.top.2⟩,fun b o hb _=>.inl ?_,Nat.le_trans A1.size A2.size,A2.gens.trans A1.gens,A2.os.trans A1.os,(fun j b o h=>by have h:([]:List Nat)[j]?=some b:=h; simp at h),(fun j b o h=>by simp at h),(fun b h=>by simp at h),List.nodup_nil,rfl,rfl⟩
  exact (A2.keep b o ((A1.keep b o hb (fun q=>nomatch q)).exactD) (fun q=>nomatch q)).exactD
 simp only [checkBuiltinCall,KBd.kind_text]
 cases hsig : Manifest.signature? "_codecs.decode.text" with
 | none=>exact wpAny_pure fin
 | some sig =>
  simp only [argsOk,hsig] at ok
  have h2 : Bind.checkArgs "_codecs.decode.text" sig ⟨[.bytes #[255, 226, 130, 172] u, .str vD t1, .str yG t2, .str Ep t3], []⟩ = pure () := ok
  show wpAny _ _ (Bind.checkArgs "_codecs.decode.text" sig _) _ _ s₀
  rw [h2]; exact wpAny_pure fin
end
section
open PySem.SeqAt
noncomputable def uT (f:(Nat→Nat)→(Nat→Nat)→(Nat→Obj)→Post→RS) (ix jx:List Nat) (l j:Nat):Use:=⟨fun A k O _ ρ=>(f A k O ρ).S,ix,jx,some (l,j)⟩
theorem dU {B:Base} {f:(Nat→Nat)→(Nat→Nat)→(Nat→Obj)→Post→RS} {ix jx:List Nat} {l j:Nat} {us:List Use} (h:∀ {A k O},Spec.HoldsT B j fun ρ=>(f A k O ρ).S) (k:cp B us):cp B (uT f ix jx l j::us):=⟨fun _ _ _ _=>h,k⟩
noncomputable def AN (P:Params) (h g:Nat→Nat) (fn s r er X0 Y0 tx ty:Nat) (R F:V7) (n:Nat) (K:List (Nat × Value)) (t1:Nat):RS:=aG 600 (A6) true (aq fn [.ref s,.ref (h 126)]) [⟨true,s,bO 0 X0 Y0 tx ty r⟩,⟨false,r,oL er []⟩,cT h true R,cU h true F,bP P h g true n t1,cS h true n K]
noncomputable def Aa (P:Params) (h g:Nat→Nat) (fn s r er X0 Y0 tx ty:Nat) (R F:V7) (n:Nat) (K:List (Nat × Value)) (t1:Nat) (ρ:Post):RS:=(AN P h g fn s r er X0 Y0 tx ty R F n K t1).open [bO 0 ρ.X (ym ρ.Y) (ρ.t 0) (ρ.t 1) r,oL 0 ρ.R.l,oL 7 ρ.F.l,(bP P h g true (ag (aE (n+2) ρ.K)) (ρ.t 2)).o,oK (ag (aE (n+2) ρ.K)) (aE (n+2) ρ.K)]
noncomputable def CE (w:World) (h g:Nat→Nat) (s r er X0 Y0 tx ty:Nat) (R F:V7) (n:Nat) (K:List (Nat × Value)) (t1 fn:Nat):Prop:=Spec.HoldsE (BB w h g) fun ρ=>(Aa w.params h g fn s r er X0 Y0 tx ty R F n K t1 ρ).S
noncomputable def sj (X Y i:Nat) (t:List Nat) (q:Nat→Post):Nat × Nat × Nat × Nat:=match i with
 | 0=>(X,Y,nb t 0,nb t 1)
 | i+1=>((q i).X,ym (q i).Y,(q i).t 0,(q i).t 1)
noncomputable def vu (n:Nat) (K:List (Nat × Value)) (t1 d e:Nat) (b t:List Nat) (q:Nat→Post):Nat × Nat × List (Nat × Value):=match d with
 | 0=>(n,t1,K)
 | 1=>(n+1,nb t e,(nb t e,.ref (nb b 0))::K)
 | 2=>(n+2,nb t e,(nb t e,.ref (nb b 0))::(nb t (e+1),.ref (nb b 1))::K)
 | i+3=>(ag (aE (n+2) (q i).K),(q i).t 2,aE (n+2) (q i).K)
theorem ej {n:Nat} {K:List (Nat × Value)} (hK:ag K=n) (t1 d e:Nat) (b t:List Nat) (q:Nat→Post):ag (vu n K t1 d e b t q).2.2=(vu n K t1 d e b t q).1∧(vu n K t1 d e b t q).1≤n+2:=by
 unfold vu
 split
 ·exact ⟨hK,Nat.le_add_right _ _⟩
 ·exact ⟨yg hK,Nat.le_succ _⟩
 ·exact ⟨yg (yg hK),Nat.le_refl _⟩
 ·exact ⟨rfl,du _ _⟩
noncomputable def sO (X Y i r:Nat) (t:List Nat) (q:Nat→Post):Obj:=bO 0 (sj X Y i t q).1 (sj X Y i t q).2.1 (sj X Y i t q).2.2.1 (sj X Y i t q).2.2.2 r
noncomputable def hO (P:Params) (h g:Nat→Nat) (n:Nat) (K:List (Nat × Value)) (t1 d e:Nat) (b t:List Nat) (q:Nat→Post):List Obj:=[(bP P h g true (vu n K t1 d e b t q).1 (vu n K t1 d e b t q).2.1).o,oK (vu n K t1 d e b t q).1 (vu n K t1 d e b t q).2.2]
theorem be {P:Params} {h g:Nat→Nat} {n r:Nat} {K:List (Nat × Value)} (t1:Nat) (hK:ag K=n) (X Y i d e:Nat) (b t:List Nat) (o:Nat→Obj) (q:Nat→Post):∃ ρ:Post,[bO 0 ρ.X (ym ρ.Y) (ρ.t 0) (ρ.t 1) r,oL 0 ρ.R.l,oL 7 ρ.F.l,(bP P h g true (ag (aE (n+2) ρ.K)) (ρ.t 2)).o,oK (ag (aE (n+2) ρ.K)) (aE (n+2) ρ.K)]=sO X Y i r t q::oL 0 (v7 (o 2)).l::oL 7 (v7 (o 3)).l::hO P h g n K t1 d e b t q :=
 Gz (ej hK t1 d e b t q).1 (ej hK t1 d e b t q).2
theorem fo {P:Params} {h g:Nat→Nat} {n:Nat} {K:List (Nat × Value)} (t1:Nat) (hK:ag K=n) (d e:Nat) (b t:List Nat) (o:Nat→Obj) (q:Nat→Post):∃ ρ:Post,[ρ.o 0,oL 0 ρ.R.l,oL 7 ρ.F.l,(bP P h g true (ag (aE (n+2) ρ.K)) (ρ.t 2)).o,oK (ag (aE (n+2) ρ.K)) (aE (n+2) ρ.K)]=o 0::oL 0 (v7 (o 1)).l::oL 7 (v7 (o 2)).l::hO P h g n K t1 d e b t q :=
 Gm (ej hK t1 d e b t q).1 (ej hK t1 d e b t q).2
theorem Ew {P:Params} {h g:Nat→Nat} {n r:Nat} {K:List (Nat × Value)} (t1:Nat) (hK:ag K=n) (X Y i d e:Nat) (b t:List Nat) (o:Nat→Obj) (q:Nat→Post):∃ ρ:Post,[ρ.o 0,bO 0 ρ.X (ym ρ.Y) (ρ.t 0) (ρ.t 1) r,oL 0 ρ.R.l,oL 7 ρ.F.l,(bP P h g true (ag (aE (n+2) ρ.K)) (ρ.t 2)).o,oK (ag (aE (n+2) ρ.K)) (aE (n+2) ρ.K)]=o 0::sO X Y i r t q::oL 0 (v7 (o 3)).l::oL 7 (v7 (o 4)).l::hO P h g n K t1 d e b t q :=
 FL (ej hK t1 d e b t q).1 (ej hK t1 d e b t q).2
theorem ox {r:Nat} (X Y i:Nat) (b t:List Nat) (o:Nat→Obj) (q:Nat→Post):∃ ρ:Post,[ρ.o 0,bO 0 ρ.X (ym ρ.Y) (ρ.t 0) (ρ.t 1) r,oL 0 ρ.R.l,oL 7 ρ.F.l]=[o 0,sO X Y i r t q,oL 0 (v7 (o 3)).l,oL 7 (v7 (o 4)).l]:=Gv
theorem bc {w:World} {h g:Nat→Nat} {D:RS} {l:Post→List Obj} {po:List Nat→List Nat→(Nat→Obj)→(Nat→Post)→List Obj} (m hs:Nat) (us:List Use) (bx tx:List Nat) (he:∀ b t o q,∃ ρ,l ρ=po b t o q) (U:cp (BB w h g) us)
 (H:∀ cb,(D.finO bx tx po (fun _ _=>[]) (fun _ _=>ok (.bool true))).RunsL (BB w h g) (Er w.params h g) m hs us cb) (htl:D.tl=none:=by rfl):Spec.HoldsE (BB w h g) (fun ρ=>(D.open (l ρ)).S) :=
 Dd (cy w h g) (xf w h g).all (.one H) htl (fun _ _=>rfl) (fun o q b t=>he b t o q) U
theorem cn {w:World} {h g:Nat→Nat} {D:RS} {l:Post→List Obj} {po:List Nat→List Nat→(Nat→Obj)→(Nat→Post)→List Obj} {j:Nat} (m hs:Nat) (us:List Use) (bx tx:List Nat) (he:∀ b t o q,∃ ρ,l ρ=po b t o q) (U:cp (BB w h g) us)
 (H:∀ cb,(D.finO bx tx po (fun _ _=>[]) (fun _ _=>ok (.bool true))).RunsL (BB w h g) (Er w.params h g) m hs us cb) (htl:D.tl=some j:=by rfl):Spec.HoldsT (BB w h g) j (fun ρ=>(D.open (l ρ)).S) :=
 DS (cy w h g) (xf w h g).all (.one H) htl (fun _ _=>rfl) (fun o q b t=>he b t o q) U
end
section
open PySem.SeqAt
noncomputable def f9 (w:World) (h g:Nat→Nat) (L:Nat) (s:Nat) (R:V7) (F:V7) (n:Nat) (K:List (Nat × Value)) (t1:Nat) (wd:Nat) (tt:Nat) (rw:Nat) (r2:Nat) (t2:Nat) (t3:Nat) (t4:Nat) (t5:Nat) (t6:Nat) (t7:Nat) (t8:Nat) (t9:Nat) (t10:Nat) (t11:Nat) (t12:Nat) (t13:Nat) (t14:Nat) (t15:Nat) (t16:Nat) (t17:Nat) (t18:Nat) (v1:Value) (t19:Nat) (t20:Nat) (v2:Value) (t21:Nat) (v3:Value) (t22:Nat) (v4:Value) (t23:Nat) (v5:Value) (D1:Nat) (D2:Nat):Prop:=Spec.HoldsT (BB w h g) 7 fun ρ=>(mM w.params h g L s R F n K t1 wd tt rw r2 D1 D2 t2 t3 t4 t5 t6 t7 t8 t9 t10 t11 t12 t13 t14 t15 t16 t17 t18 v1 t19 t20 v2 t21 v3 t22 v4 t23 v5 ρ).S
theorem mh {w:World} {h g L s R F n K t1 wd tt rw r2 t2 t3 t4 t5 t6 t7 t8 t9 t10 t11 t12 t13 t14 t15 t16 t17 t18 v1 t19 t20 v2 t21 v3 t22 v4 t23 v5} (hK:ag K=n) (hn:n≤900):f9 w h g L s R F n K t1 wd tt rw r2 t2 t3 t4 t5 t6 t7 t8 t9 t10 t11 t12 t13 t14 t15 t16 t17 t18 v1 t19 t20 v2 t21 v3 t22 v4 t23 v5 0 0 ∧
 f9 w h g L s R F n K t1 wd tt rw r2 t2 t3 t4 t5 t6 t7 t8 t9 t10 t11 t12 t13 t14 t15 t16 t17 t18 v1 t19 t20 v2 t21 v3 t22 v4 t23 v5 0 1 ∧
 f9 w h g L s R F n K t1 wd tt rw r2 t2 t3 t4 t5 t6 t7 t8 t9 t10 t11 t12 t13 t14 t15 t16 t17 t18 v1 t19 t20 v2 t21 v3 t22 v4 t23 v5 0 2 ∧
 f9 w h g L s R F n K t1 wd tt rw r2 t2 t3 t4 t5 t6 t7 t8 t9 t10 t11 t12 t13 t14 t15 t16 t17 t18 v1 t19 t20 v2 t21 v3 t22 v4 t23 v5 0 3:=by
 refine ⟨cn 1998 (ce [gF]) [u (fun A J O=>aK w.params h g n K t1 (A 7) Q6 (J 50)) [3,4] [3,4],u (fun A J O=>bG w.params h g (A 7) n K (J 51) (J 51) (A 40) (A 41) (J 52) (J 53) (J 54) (J 50) 2089 (J 51) (A 42) (A 70)) [42,70,3,4,40,41] []] [40] [51] (fo t1 hK 1 0) (aa (ba.2.1 hK (by omega)) (aa (ba.2.2.2 hK (by omega)) ak)) ?_,
 cn 1998 (ce [gF]) [u (fun A J O=>aK w.params h g n K t1 (A 7) Q6 (J 50)) [3,4] [3,4],u (fun A J O=>bG w.params h g (A 7) n K (J 51) (J 51) (A 40) (A 41) (J 52) (J 53) (J 54) (J 50) 2089 (J 51) (A 42) (A 70)) [42,70,3,4,40,41] []] [40] [51] (fo t1 hK 1 0) (aa (ba.2.1 hK (by omega)) (aa (ba.2.2.2 hK (by omega)) ak)) ?_,
 cn 1998 (ce [gF]) [u (fun A J O=>aK w.params h g n K t1 (A 7) Q6 (J 50)) [3,4] [3,4],u (fun A J O=>bG w.params h g (A 7) n K (J 51) (J 51) (A 40) (A 41) (J 52) (J 53) (J 54) (J 50) 2089 (J 51) (A 42) (A 70)) [42,70,3,4,40,41] []] [40] [51] (fo t1 hK 1 0) (aa (ba.2.1 hK (by omega)) (aa (ba.2.2.2 hK (by omega)) ak)) ?_,
 cn 1998 (ce [gF]) [u (fun A J O=>aK w.params h g n K t1 (A 7) Q6 (J 50)) [3,4] [3,4],u (fun A J O=>bG w.params h g (A 7) n K (J 51) (J 51) (A 40) (A 41) (J 52) (J 53) (J 54) (J 50) 2089 (J 51) (A 42) (A 70)) [42,70,3,4,40,41] []] [40] [51] (fo t1 hK 1 0) (aa (ba.2.1 hK (by omega)) (aa (ba.2.2.2 hK (by omega)) ak)) ?_⟩ <;> intro cb ν τ υ π ς ρ own past κ bl p <;> kernel_rfl
theorem qO {w:World} {h g L s R F n K t1 wd tt rw r2 t2 t3 t4 t5 t6 t7 t8 t9 t10 t11 t12 t13 t14 t15 t16 t17 t18 v1 t19 t20 v2 t21 v3 t22 v4 t23 v5} (hK:ag K=n) (hn:n≤900):f9 w h g L s R F n K t1 wd tt rw r2 t2 t3 t4 t5 t6 t7 t8 t9 t10 t11 t12 t13 t14 t15 t16 t17 t18 v1 t19 t20 v2 t21 v3 t22 v4 t23 v5 0 4 ∧
 f9 w h g L s R F n K t1 wd tt rw r2 t2 t3 t4 t5 t6 t7 t8 t9 t10 t11 t12 t13 t14 t15 t16 t17 t18 v1 t19 t20 v2 t21 v3 t22 v4 t23 v5 0 5 ∧
 f9 w h g L s R F n K t1 wd tt rw r2 t2 t3 t4 t5 t6 t7 t8 t9 t10 t11 t12 t13 t14 t15 t16 t17 t18 v1 t19 t20 v2 t21 v3 t22 v4 t23 v5 1 0:=by
 refine ⟨cn 2245 (ce [tJ]) [u (fun A J O=>aK w.params h g n K t1 (A 7) Q6 (J 49)) [3,4] [3,4],u (fun A J O=>bG w.params h g (A 7) n K (J 50) (J 50) (A 40) (A 41) (J 51) (J 52) (J 53) (J 49) 2089 (J 50) (A 42) (A 70)) [42,70,3,4,40,41] []] [40] [50] (fo t1 hK 1 0) (aa (ba.2.1 hK (by omega)) (aa (ba.2.2.2 hK (by omega)) ak)) ?_,
 cn 2514 (ce [tH]) [u (fun A J O=>aK w.params h g n K t1 (A 7) Q6 (J 69)) [3,4] [3,4],u (fun A J O=>bG w.params h g (A 7) n K (J 70) (J 70) (A 48) (A 49) (J 71) (J 72) (J 73) (J 69) 2089 (J 70) (A 50) (A 78)) [50,78,3,4,48,49] []] [48] [70] (fo t1 hK 1 0) (aa (ba.2.1 hK (by omega)) (aa (ba.2.2.2 hK (by omega)) ak)) ?_,
 cn 2474 (ce [nO]) [u (fun A J O=>aK w.params h g n K t1 (A 7) Q6 (J 67)) [3,4] [3,4],u (fun A J O=>bG w.params h g (A 7) n K (J 68) (J 68) (A 48) (A 49) (J 69) (J 70) (J 71) (J 67) 2089 (J 68) (A 50) (A 78)) [50,78,3,4,48,49] []] [48] [68] (fo t1 hK 1 0) (aa (ba.2.1 hK (by omega)) (aa (ba.2.2.2 hK (by omega)) ak)) ?_⟩ <;> intro cb ν τ υ π ς ρ own past κ bl p <;> kernel_rfl
theorem mf {w:World} {h g L s R F n K t1 wd tt rw r2 t2 t3 t4 t5 t6 t7 t8 t9 t10 t11 t12 t13 t14 t15 t16 t17 t18 v1 t19 t20 v2 t21 v3 t22 v4 t23 v5} (hK:ag K=n) (hn:n≤900):f9 w h g L s R F n K t1 wd tt rw r2 t2 t3 t4 t5 t6 t7 t8 t9 t10 t11 t12 t13 t14 t15 t16 t17 t18 v1 t19 t20 v2 t21 v3 t22 v4 t23 v5 1 1 ∧
 f9 w h g L s R F n K t1 wd tt rw r2 t2 t3 t4 t5 t6 t7 t8 t9 t10 t11 t12 t13 t14 t15 t16 t17 t18 v1 t19 t20 v2 t21 v3 t22 v4 t23 v5 1 2 ∧
 f9 w h g L s R F n K t1 wd tt rw r2 t2 t3 t4 t5 t6 t7 t8 t9 t10 t11 t12 t13 t14 t15 t16 t17 t18 v1 t19 t20 v2 t21 v3 t22 v4 t23 v5 1 3 ∧
 f9 w h g L s R F n K t1 wd tt rw r2 t2 t3 t4 t5 t6 t7 t8 t9 t10 t11 t12 t13 t14 t15 t16 t17 t18 v1 t19 t20 v2 t21 v3 t22 v4 t23 v5 1 4:=by
 refine ⟨cn 1998 (ce [gF]) [u (fun A J O=>aK w.params h g n K t1 (A 7) Q6 (J 50)) [3,4] [3,4],u (fun A J O=>bG w.params h g (A 7) n K (J 51) (J 51) (A 40) (A 41) (J 52) (J 53) (J 54) (J 50) 2089 (J 51) (A 42) (A 70)) [42,70,3,4,40,41] []] [40] [51] (fo t1 hK 1 0) (aa (ba.2.1 hK (by omega)) (aa (ba.2.2.2 hK (by omega)) ak)) ?_,
 cn 1998 (ce [gF]) [u (fun A J O=>aK w.params h g n K t1 (A 7) Q6 (J 50)) [3,4] [3,4],u (fun A J O=>bG w.params h g (A 7) n K (J 51) (J 51) (A 40) (A 41) (J 52) (J 53) (J 54) (J 50) 2089 (J 51) (A 42) (A 70)) [42,70,3,4,40,41] []] [40] [51] (fo t1 hK 1 0) (aa (ba.2.1 hK (by omega)) (aa (ba.2.2.2 hK (by omega)) ak)) ?_,
 cn 1998 (ce [gF]) [u (fun A J O=>aK w.params h g n K t1 (A 7) Q6 (J 50)) [3,4] [3,4],u (fun A J O=>bG w.params h g (A 7) n K (J 51) (J 51) (A 40) (A 41) (J 52) (J 53) (J 54) (J 50) 2089 (J 51) (A 42) (A 70)) [42,70,3,4,40,41] []] [40] [51] (fo t1 hK 1 0) (aa (ba.2.1 hK (by omega)) (aa (ba.2.2.2 hK (by omega)) ak)) ?_,
 cn 2245 (ce [tJ]) [u (fun A J O=>aK w.params h g n K t1 (A 7) Q6 (J 50)) [3,4] [3,4],u (fun A J O=>bG w.params h g (A 7) n K (J 51) (J 51) (A 40) (A 41) (J 52) (J 53) (J 54) (J 50) 2089 (J 51) (A 42) (A 70)) [42,70,3,4,40,41] []] [40] [51] (fo t1 hK 1 0) (aa (ba.2.1 hK (by omega)) (aa (ba.2.2.2 hK (by omega)) ak)) ?_⟩ <;> intro cb ν τ υ π ς ρ own past κ bl p <;> kernel_rfl
theorem oQ {w:World} {h g L s R F n K t1 wd tt rw r2 t2 t3 t4 t5 t6 t7 t8 t9 t10 t11 t12 t13 t14 t15 t16 t17 t18 v1 t19 t20 v2 t21 v3 t22 v4 t23 v5} (hK:ag K=n) (hn:n≤900):f9 w h g L s R F n K t1 wd tt rw r2 t2 t3 t4 t5 t6 t7 t8 t9 t10 t11 t12 t13 t14 t15 t16 t17 t18 v1 t19 t20 v2 t21 v3 t22 v4 t23 v5 1 5 ∧
 f9 w h g L s R F n K t1 wd tt rw r2 t2 t3 t4 t5 t6 t7 t8 t9 t10 t11 t12 t13 t14 t15 t16 t17 t18 v1 t19 t20 v2 t21 v3 t22 v4 t23 v5 2 0 ∧
 f9 w h g L s R F n K t1 wd tt rw r2 t2 t3 t4 t5 t6 t7 t8 t9 t10 t11 t12 t13 t14 t15 t16 t17 t18 v1 t19 t20 v2 t21 v3 t22 v4 t23 v5 2 1:=by
 refine ⟨cn 2514 (ce [tH]) [u (fun A J O=>aK w.params h g n K t1 (A 7) Q6 (J 69)) [3,4] [3,4],u (fun A J O=>bG w.params h g (A 7) n K (J 70) (J 70) (A 48) (A 49) (J 71) (J 72) (J 73) (J 69) 2089 (J 70) (A 50) (A 78)) [50,78,3,4,48,49] []] [48] [70] (fo t1 hK 1 0) (aa (ba.2.1 hK (by omega)) (aa (ba.2.2.2 hK (by omega)) ak)) ?_,
 cn 2474 (ce [nO]) [u (fun A J O=>aK w.params h g n K t1 (A 7) Q6 (J 67)) [3,4] [3,4],u (fun A J O=>bG w.params h g (A 7) n K (J 68) (J 68) (A 48) (A 49) (J 69) (J 70) (J 71) (J 67) 2089 (J 68) (A 50) (A 78)) [50,78,3,4,48,49] []] [48] [68] (fo t1 hK 1 0) (aa (ba.2.1 hK (by omega)) (aa (ba.2.2.2 hK (by omega)) ak)) ?_,
 cn 2474 (ce [nO]) [u (fun A J O=>aK w.params h g n K t1 (A 7) Q6 (J 67)) [3,4] [3,4],u (fun A J O=>bG w.params h g (A 7) n K (J 68) (J 68) (A 48) (A 49) (J 69) (J 70) (J 71) (J 67) 2089 (J 68) (A 50) (A 78)) [50,78,3,4,48,49] []] [48] [68] (fo t1 hK 1 0) (aa (ba.2.1 hK (by omega)) (aa (ba.2.2.2 hK (by omega)) ak)) ?_⟩ <;> intro cb ν τ υ π ς ρ own past κ bl p <;> kernel_rfl
theorem mr {w:World} {h g L s R F n K t1 wd tt rw r2 t2 t3 t4 t5 t6 t7 t8 t9 t10 t11 t12 t13 t14 t15 t16 t17 t18 v1 t19 t20 v2 t21 v3 t22 v4 t23 v5} (hK:ag K=n) (hn:n≤900):f9 w h g L s R F n K t1 wd tt rw r2 t2 t3 t4 t5 t6 t7 t8 t9 t10 t11 t12 t13 t14 t15 t16 t17 t18 v1 t19 t20 v2 t21 v3 t22 v4 t23 v5 2 2 ∧
 f9 w h g L s R F n K t1 wd tt rw r2 t2 t3 t4 t5 t6 t7 t8 t9 t10 t11 t12 t13 t14 t15 t16 t17 t18 v1 t19 t20 v2 t21 v3 t22 v4 t23 v5 2 3 ∧
 f9 w h g L s R F n K t1 wd tt rw r2 t2 t3 t4 t5 t6 t7 t8 t9 t10 t11 t12 t13 t14 t15 t16 t17 t18 v1 t19 t20 v2 t21 v3 t22 v4 t23 v5 2 4 ∧
 f9 w h g L s R F n K t1 wd tt rw r2 t2 t3 t4 t5 t6 t7 t8 t9 t10 t11 t12 t13 t14 t15 t16 t17 t18 v1 t19 t20 v2 t21 v3 t22 v4 t23 v5 2 5:=by
 refine ⟨cn 1998 (ce [gF]) [u (fun A J O=>aK w.params h g n K t1 (A 7) Q6 (J 50)) [3,4] [3,4],u (fun A J O=>bG w.params h g (A 7) n K (J 51) (J 51) (A 40) (A 41) (J 52) (J 53) (J 54) (J 50) 2089 (J 51) (A 42) (A 70)) [42,70,3,4,40,41] []] [40] [51] (fo t1 hK 1 0) (aa (ba.2.1 hK (by omega)) (aa (ba.2.2.2 hK (by omega)) ak)) ?_,
 cn 1998 (ce [gF]) [u (fun A J O=>aK w.params h g n K t1 (A 7) Q6 (J 50)) [3,4] [3,4],u (fun A J O=>bG w.params h g (A 7) n K (J 51) (J 51) (A 40) (A 41) (J 52) (J 53) (J 54) (J 50) 2089 (J 51) (A 42) (A 70)) [42,70,3,4,40,41] []] [40] [51] (fo t1 hK 1 0) (aa (ba.2.1 hK (by omega)) (aa (ba.2.2.2 hK (by omega)) ak)) ?_,
 cn 2245 (ce [tJ]) [u (fun A J O=>aK w.params h g n K t1 (A 7) Q6 (J 50)) [3,4] [3,4],u (fun A J O=>bG w.params h g (A 7) n K (J 51) (J 51) (A 40) (A 41) (J 52) (J 53) (J 54) (J 50) 2089 (J 51) (A 42) (A 70)) [42,70,3,4,40,41] []] [40] [51] (fo t1 hK 1 0) (aa (ba.2.1 hK (by omega)) (aa (ba.2.2.2 hK (by omega)) ak)) ?_,
 cn 2514 (ce [tH]) [u (fun A J O=>aK w.params h g n K t1 (A 7) Q6 (J 69)) [3,4] [3,4],u (fun A J O=>bG w.params h g (A 7) n K (J 70) (J 70) (A 48) (A 49) (J 71) (J 72) (J 73) (J 69) 2089 (J 70) (A 50) (A 78)) [50,78,3,4,48,49] []] [48] [70] (fo t1 hK 1 0) (aa (ba.2.1 hK (by omega)) (aa (ba.2.2.2 hK (by omega)) ak)) ?_⟩ <;> intro cb ν τ υ π ς ρ own past κ bl p <;> kernel_rfl
theorem qe {w:World} {h g L s R F n K t1 wd tt rw r2 t2 t3 t4 t5 t6 t7 t8 t9 t10 t11 t12 t13 t14 t15 t16 t17 t18 v1 t19 t20 v2 t21 v3 t22 v4 t23 v5} (hK:ag K=n) (hn:n≤900):f9 w h g L s R F n K t1 wd tt rw r2 t2 t3 t4 t5 t6 t7 t8 t9 t10 t11 t12 t13 t14 t15 t16 t17 t18 v1 t19 t20 v2 t21 v3 t22 v4 t23 v5 3 0 ∧
 f9 w h g L s R F n K t1 wd tt rw r2 t2 t3 t4 t5 t6 t7 t8 t9 t10 t11 t12 t13 t14 t15 t16 t17 t18 v1 t19 t20 v2 t21 v3 t22 v4 t23 v5 3 1 ∧
 f9 w h g L s R F n K t1 wd tt rw r2 t2 t3 t4 t5 t6 t7 t8 t9 t10 t11 t12 t13 t14 t15 t16 t17 t18 v1 t19 t20 v2 t21 v3 t22 v4 t23 v5 3 2:=by
 refine ⟨cn 2474 (ce [nO]) [u (fun A J O=>aK w.params h g n K t1 (A 7) Q6 (J 67)) [3,4] [3,4],u (fun A J O=>bG w.params h g (A 7) n K (J 68) (J 68) (A 48) (A 49) (J 69) (J 70) (J 71) (J 67) 2089 (J 68) (A 50) (A 78)) [50,78,3,4,48,49] []] [48] [68] (fo t1 hK 1 0) (aa (ba.2.1 hK (by omega)) (aa (ba.2.2.2 hK (by omega)) ak)) ?_,
 cn 2474 (ce [nO]) [u (fun A J O=>aK w.params h g n K t1 (A 7) Q6 (J 67)) [3,4] [3,4],u (fun A J O=>bG w.params h g (A 7) n K (J 68) (J 68) (A 48) (A 49) (J 69) (J 70) (J 71) (J 67) 2089 (J 68) (A 50) (A 78)) [50,78,3,4,48,49] []] [48] [68] (fo t1 hK 1 0) (aa (ba.2.1 hK (by omega)) (aa (ba.2.2.2 hK (by omega)) ak)) ?_,
 cn 2474 (ce [nO]) [u (fun A J O=>aK w.params h g n K t1 (A 7) Q6 (J 67)) [3,4] [3,4],u (fun A J O=>bG w.params h g (A 7) n K (J 68) (J 68) (A 48) (A 49) (J 69) (J 70) (J 71) (J 67) 2089 (J 68) (A 50) (A 78)) [50,78,3,4,48,49] []] [48] [68] (fo t1 hK 1 0) (aa (ba.2.1 hK (by omega)) (aa (ba.2.2.2 hK (by omega)) ak)) ?_⟩ <;> intro cb ν τ υ π ς ρ own past κ bl p <;> kernel_rfl
theorem qh {w:World} {h g L s R F n K t1 wd tt rw r2 t2 t3 t4 t5 t6 t7 t8 t9 t10 t11 t12 t13 t14 t15 t16 t17 t18 v1 t19 t20 v2 t21 v3 t22 v4 t23 v5} (hK:ag K=n) (hn:n≤900):f9 w h g L s R F n K t1 wd tt rw r2 t2 t3 t4 t5 t6 t7 t8 t9 t10 t11 t12 t13 t14 t15 t16 t17 t18 v1 t19 t20 v2 t21 v3 t22 v4 t23 v5 3 3 ∧
 f9 w h g L s R F n K t1 wd tt rw r2 t2 t3 t4 t5 t6 t7 t8 t9 t10 t11 t12 t13 t14 t15 t16 t17 t18 v1 t19 t20 v2 t21 v3 t22 v4 t23 v5 3 4 ∧
 f9 w h g L s R F n K t1 wd tt rw r2 t2 t3 t4 t5 t6 t7 t8 t9 t10 t11 t12 t13 t14 t15 t16 t17 t18 v1 t19 t20 v2 t21 v3 t22 v4 t23 v5 3 5:=by
 refine ⟨cn 1998 (ce [gF]) [u (fun A J O=>aK w.params h g n K t1 (A 7) Q6 (J 50)) [3,4] [3,4],u (fun A J O=>bG w.params h g (A 7) n K (J 51) (J 51) (A 40) (A 41) (J 52) (J 53) (J 54) (J 50) 2089 (J 51) (A 42) (A 70)) [42,70,3,4,40,41] []] [40] [51] (fo t1 hK 1 0) (aa (ba.2.1 hK (by omega)) (aa (ba.2.2.2 hK (by omega)) ak)) ?_,
 cn 2245 (ce [tJ]) [u (fun A J O=>aK w.params h g n K t1 (A 7) Q6 (J 50)) [3,4] [3,4],u (fun A J O=>bG w.params h g (A 7) n K (J 51) (J 51) (A 40) (A 41) (J 52) (J 53) (J 54) (J 50) 2089 (J 51) (A 42) (A 70)) [42,70,3,4,40,41] []] [40] [51] (fo t1 hK 1 0) (aa (ba.2.1 hK (by omega)) (aa (ba.2.2.2 hK (by omega)) ak)) ?_,
 cn 2514 (ce [tH]) [u (fun A J O=>aK w.params h g n K t1 (A 7) Q6 (J 69)) [3,4] [3,4],u (fun A J O=>bG w.params h g (A 7) n K (J 70) (J 70) (A 48) (A 49) (J 71) (J 72) (J 73) (J 69) 2089 (J 70) (A 50) (A 78)) [50,78,3,4,48,49] []] [48] [70] (fo t1 hK 1 0) (aa (ba.2.1 hK (by omega)) (aa (ba.2.2.2 hK (by omega)) ak)) ?_⟩ <;> intro cb ν τ υ π ς ρ own past κ bl p <;> kernel_rfl
theorem oy {w:World} {h g L s R F n K t1 wd tt rw r2 D1 D2 t2 t3 t4 t5 t6 t7 t8 t9 t10 t11 t12 t13 t14 t15 t16 t17 t18 v1 t19 t20 v2 t21 v3 t22 v4 t23 v5} (hK:ag K=n) (hn:n≤900) (h1:D1<4) (h2:D2<6):f9 w h g L s R F n K t1 wd tt rw r2 t2 t3 t4 t5 t6 t7 t8 t9 t10 t11 t12 t13 t14 t15 t16 t17 t18 v1 t19 t20 v2 t21 v3 t22 v4 t23 v5 D1 D2 :=
 match D1,h1 with
 | 0,_=>match D2,h2 with
  | 0,_=>(mh hK hn).1
  | 1,_=>(mh hK hn).2.1
  | 2,_=>(mh hK hn).2.2.1
  | 3,_=>(mh hK hn).2.2.2
  | 4,_=>(qO hK hn).1
  | 5,_=>(qO hK hn).2.1
 | 1,_=>match D2,h2 with
  | 0,_=>(qO hK hn).2.2
  | 1,_=>(mf hK hn).1
  | 2,_=>(mf hK hn).2.1
  | 3,_=>(mf hK hn).2.2.1
  | 4,_=>(mf hK hn).2.2.2
  | 5,_=>(oQ hK hn).1
 | 2,_=>match D2,h2 with
  | 0,_=>(oQ hK hn).2.1
  | 1,_=>(oQ hK hn).2.2
  | 2,_=>(mr hK hn).1
  | 3,_=>(mr hK hn).2.1
  | 4,_=>(mr hK hn).2.2.1
  | 5,_=>(mr hK hn).2.2.2
 | 3,_=>match D2,h2 with
  | 0,_=>(qe hK hn).1
  | 1,_=>(qe hK hn).2.1
  | 2,_=>(qe hK hn).2.2
  | 3,_=>(qh hK hn).1
  | 4,_=>(qh hK hn).2.1
  | 5,_=>(qh hK hn).2.2
noncomputable def Dt (w:World) (h g:Nat→Nat) (L:Nat) (s:Nat) (r:Nat) (er:Nat) (X0:Nat) (Y0:Nat) (R:V7) (F:V7) (n:Nat) (K:List (Nat × Value)) (t1:Nat) (ct:Nat) (ch:Nat) (tt:Nat) (t2:Nat) (t3:Nat) (t4:Nat) (t5:Nat) (v1:Value) (t6:Nat) (v2:Value) (t7:Nat) (v3:Value) (t8:Nat) (v4:Value) (t9:Nat) (v5:Value) (t10:Nat) (v6:Value) (t11:Nat) (t12:Nat):Prop:=Spec.HoldsT (BB w h g) 7 fun ρ=>(ir w.params h g L s r er X0 Y0 R F n K t1 ct ch tt t2 t3 t4 t5 v1 t6 v2 t7 v3 t8 v4 t9 v5 t10 v6 t11 t12 ρ).S
theorem lY {w:World} {h g L s r er X0 Y0 R F n K t1 ct ch tt t2 t3 t4 t5 v1 t6 v2 t7 v3 t8 v4 t9 v5 t10 v6 t11 t12} (hK:ag K=n) (hn:n≤900):(∀ {X1 Y1:Nat},a0 X0 Y0 4 0 X1 Y1→Dt w h g L s r er X0 Y0 R F n K t1 ct ch tt t2 t3 t4 t5 v1 t6 v2 t7 v3 t8 v4 t9 v5 t10 v6 t11 t12) ∧
 (∀ {X1 Y1:Nat},a0 X0 Y0 4 1 X1 Y1→Dt w h g L s r er X0 Y0 R F n K t1 ct ch tt t2 t3 t4 t5 v1 t6 v2 t7 v3 t8 v4 t9 v5 t10 v6 t11 t12) ∧
 (∀ {X1 Y1:Nat},a0 X0 Y0 4 2 X1 Y1→Dt w h g L s r er X0 Y0 R F n K t1 ct ch tt t2 t3 t4 t5 v1 t6 v2 t7 v3 t8 v4 t9 v5 t10 v6 t11 t12) ∧
 (∀ {X1 Y1:Nat},a0 X0 Y0 4 3 X1 Y1→Dt w h g L s r er X0 Y0 R F n K t1 ct ch tt t2 t3 t4 t5 v1 t6 v2 t7 v3 t8 v4 t9 v5 t10 v6 t11 t12):=by
 refine ⟨fun {X1 Y1} hD0=>cn 687 (ce [Ds,1064,lr,1069098,aw,1066,dz,1151051284480,cQ,0x4180c80006032,ei,1074,jp,jF,jF,1074228,b7,0x10c0000c0000d034,ae,0x10c0340d0170c030,yU,1097859120,iH,1151105814584,yU,1072,ae,0x10c0320c83806c38,yU,1072,ae,0x10783e0c0010000d07417ff8000341207017ffc000341204c0005fff0c0000c030000300c03806c38,b7,1072,ae,0x10c01c0341c0001e0f830,g6,1072,ae,1072,b7,1159641219120,zo,eZ,1113499644956,ek,ax,0x4401084000402,dd,1081375,ae]) [u (fun A J O=>ah w.params h g (A 1) (A 2) 0 er X0 Y0 0 X1 Y1 4 t11 t12 (J 0)) [1,2] [1]] [] [2,3] (Ew t1 hK X1 Y1 0 0 2) (aa (ao (top:=4) hD0 (by decide) (by decide)) ak) ?_,
 fun {X1 Y1} hD0=>cn 1040 (ce [xI]) [u (fun A J O=>ah w.params h g (A 1) (A 2) 0 er X0 Y0 1 X1 Y1 4 t11 t12 (J 0)) [1,2] [1],u (fun A J O=>jn w.params h g n K t1 (A 21) Qg (J 31) (J 53)) [5,6] [5,6],u (fun A J O=>iS w.params h g n K (J 56) (J 56) (A 28) (A 29) (J 57) (J 58) (J 59) (J 31) (J 53) (A 21) (A 20) (A 23) (A 24) (A 25) (J 35) (J 5) (J 37) (J 39) (J 41) (J 43) 0 (J 75) (J 76) (.ref (A 9)) (A 40) (A 30) (J 71) (J 72) (J 68) (J 73) (J 74) (A 39) (A 41) (J 30) (J 56) ⟨.none,R.2,R.3,R.4,R.5,R.6,R.7⟩ ⟨.none,F.2,F.3,F.4,F.5,F.6,F.7⟩ (J 77)) [23,24,25,40,39,41,30,3,4,5,6,28,29,21,20] [3,4],u (fun A J O=>iQ w.params h g n K (J 56) (J 56) (A 28) (A 29) (J 57) (J 58) (J 59) (J 31) (J 53) (A 21) (A 20) (A 23) (A 24) (A 25) (J 35) (J 5) (J 37) (J 39) (J 41) (J 43) 0 (J 84) (J 85) (.ref (A 9)) (A 44) (A 30) (J 80) (J 81) (J 69) (J 82) (J 83) (A 43) (A 45) (J 30) (J 56) ⟨.none,(.int 0 (J 5)),R.3,R.4,R.5,R.6,R.7⟩ ⟨.none,(.bool true),F.3,F.4,F.5,F.6,F.7⟩ (J 86)) [23,24,25,44,43,45,30,3,4,5,6,28,29,21,20] [3,4]] [28] [2,3,56] (Ew t1 hK X1 Y1 0 1 2) (aa (ao (top:=4) hD0 (by decide) (by decide)) (aa (ba.2.2.1 hK (by omega)) (aa (ft.2.1 hK (by omega)) (aa (ft.2.2.1 hK (by omega)) ak)))) ?_,
 fun {X1 Y1} hD0=>cn 1040 (ce [xI]) [u (fun A J O=>ah w.params h g (A 1) (A 2) 0 er X0 Y0 2 X1 Y1 4 t11 t12 (J 0)) [1,2] [1],u (fun A J O=>jn w.params h g n K t1 (A 21) Qg (J 31) (J 53)) [5,6] [5,6],u (fun A J O=>iS w.params h g n K (J 56) (J 56) (A 28) (A 29) (J 57) (J 58) (J 59) (J 31) (J 53) (A 21) (A 20) (A 23) (A 24) (A 25) (J 35) (J 5) (J 37) (J 39) (J 41) (J 43) 1 (J 75) (J 76) (.ref (A 9)) (A 40) (A 30) (J 71) (J 72) (J 68) (J 73) (J 74) (A 39) (A 41) (J 30) (J 56) ⟨.none,R.2,R.3,R.4,R.5,R.6,R.7⟩ ⟨.none,F.2,F.3,F.4,F.5,F.6,F.7⟩ (J 77)) [23,24,25,40,39,41,30,3,4,5,6,28,29,21,20] [3,4],u (fun A J O=>iQ w.params h g n K (J 56) (J 56) (A 28) (A 29) (J 57) (J 58) (J 59) (J 31) (J 53) (A 21) (A 20) (A 23) (A 24) (A 25) (J 35) (J 5) (J 37) (J 39) (J 41) (J 43) 1 (J 84) (J 85) (.ref (A 9)) (A 44) (A 30) (J 80) (J 81) (J 69) (J 82) (J 83) (A 43) (A 45) (J 30) (J 56) ⟨.none,(.int 1 (J 5)),R.3,R.4,R.5,R.6,R.7⟩ ⟨.none,(.bool true),F.3,F.4,F.5,F.6,F.7⟩ (J 86)) [23,24,25,44,43,45,30,3,4,5,6,28,29,21,20] [3,4]] [28] [2,3,56] (Ew t1 hK X1 Y1 0 1 2) (aa (ao (top:=4) hD0 (by decide) (by decide)) (aa (ba.2.2.1 hK (by omega)) (aa (ft.2.1 hK (by omega)) (aa (ft.2.2.1 hK (by omega)) ak)))) ?_,
 fun {X1 Y1} hD0=>cn 1040 (ce [xI]) [u (fun A J O=>ah w.params h g (A 1) (A 2) 0 er X0 Y0 3 X1 Y1 4 t11 t12 (J 0)) [1,2] [1],u (fun A J O=>jn w.params h g n K t1 (A 21) Qg (J 31) (J 53)) [5,6] [5,6],u (fun A J O=>iS w.params h g n K (J 56) (J 56) (A 28) (A 29) (J 57) (J 58) (J 59) (J 31) (J 53) (A 21) (A 20) (A 23) (A 24) (A 25) (J 35) (J 5) (J 37) (J 39) (J 41) (J 43) 2 (J 75) (J 76) (.ref (A 9)) (A 40) (A 30) (J 71) (J 72) (J 68) (J 73) (J 74) (A 39) (A 41) (J 30) (J 56) ⟨.none,R.2,R.3,R.4,R.5,R.6,R.7⟩ ⟨.none,F.2,F.3,F.4,F.5,F.6,F.7⟩ (J 77)) [23,24,25,40,39,41,30,3,4,5,6,28,29,21,20] [3,4],u (fun A J O=>iQ w.params h g n K (J 56) (J 56) (A 28) (A 29) (J 57) (J 58) (J 59) (J 31) (J 53) (A 21) (A 20) (A 23) (A 24) (A 25) (J 35) (J 5) (J 37) (J 39) (J 41) (J 43) 2 (J 84) (J 85) (.ref (A 9)) (A 44) (A 30) (J 80) (J 81) (J 69) (J 82) (J 83) (A 43) (A 45) (J 30) (J 56) ⟨.none,(.int 2 (J 5)),R.3,R.4,R.5,R.6,R.7⟩ ⟨.none,(.bool true),F.3,F.4,F.5,F.6,F.7⟩ (J 86)) [23,24,25,44,43,45,30,3,4,5,6,28,29,21,20] [3,4]] [28] [2,3,56] (Ew t1 hK X1 Y1 0 1 2) (aa (ao (top:=4) hD0 (by decide) (by decide)) (aa (ba.2.2.1 hK (by omega)) (aa (ft.2.1 hK (by omega)) (aa (ft.2.2.1 hK (by omega)) ak)))) ?_⟩ <;> intro cb ν τ υ π ς ρ own past κ bl p <;> kernel_rfl
theorem kp {w:World} {h g L s r er X0 Y0 R F n K t1 ct ch tt t2 t3 t4 t5 v1 t6 v2 t7 v3 t8 v4 t9 v5 t10 v6 t11 t12} (hK:ag K=n) (hn:n≤900):Dt w h g L s r er X0 Y0 R F n K t1 ct ch tt t2 t3 t4 t5 v1 t6 v2 t7 v3 t8 v4 t9 v5 t10 v6 t11 t12 :=
 let ⟨d,X1,Y1,hd⟩:=a0.ex X0 Y0 4
 match d,hd.lt (by decide),hd with
 | 0,_,hd=>(lY hK hn).1 hd
 | 1,_,hd=>(lY hK hn).2.1 hd
 | 2,_,hd=>(lY hK hn).2.2.1 hd
 | 3,_,hd=>(lY hK hn).2.2.2 hd
noncomputable def F3 (w:World) (h g:Nat→Nat) (L:Nat) (s:Nat) (r:Nat) (er:Nat) (X0:Nat) (Y0:Nat) (R:V7) (F:V7) (tt:Nat) (t1:Nat) (t2:Nat) (t3:Nat) (t4:Nat) (t5:Nat) (v1:Value) (t6:Nat) (t7:Nat) (v2:Value) (t8:Nat) (v3:Value) (t9:Nat) (v4:Value) (t10:Nat) (v5:Value) (t11:Nat) (v6:Value) (t12:Nat) (t13:Nat):Prop:=Spec.HoldsT (BB w h g) 7 fun ρ=>(gA w.params h g L s r er X0 Y0 R F tt t1 t2 t3 t4 t5 v1 t6 t7 v2 t8 v3 t9 v4 t10 v5 t11 v6 t12 t13 ρ).S
theorem vJ {w:World} {h g L s r er X0 Y0 R F tt t1 t2 t3 t4 t5 v1 t6 t7 v2 t8 v3 t9 v4 t10 v5 t11 v6 t12 t13}:(∀ {X1 Y1:Nat},a0 X0 Y0 2 0 X1 Y1→F3 w h g L s r er X0 Y0 R F tt t1 t2 t3 t4 t5 v1 t6 t7 v2 t8 v3 t9 v4 t10 v5 t11 v6 t12 t13) ∧
 (∀ {X1 Y1:Nat},a0 X0 Y0 2 1 X1 Y1→F3 w h g L s r er X0 Y0 R F tt t1 t2 t3 t4 t5 v1 t6 t7 v2 t8 v3 t9 v4 t10 v5 t11 v6 t12 t13):=by
 refine ⟨fun {X1 Y1} hD0=>cn 1632 (ce [CM,rW,mP,wg,rW,mP,AG]) [u (fun A J O=>aH w.params h g (A 1) (A 2) 0 er (A 9) 0 X0 Y0 0 X1 Y1 t12 t13 [.none,(.ref (A 8))]) [1,2,9] [1]] [] [4,5] (ox X1 Y1 0) (aa (cE hD0) ak) ?_,
 fun {X1 Y1} hD0=>cn 1632 (ce [CM,rW,1124352,ae,wg,rW,1124352,ae,AG]) [u (fun A J O=>aH w.params h g (A 1) (A 2) 0 er (A 9) 0 X0 Y0 1 X1 Y1 t12 t13 [.none,(.ref (A 8))]) [1,2,9] [1]] [] [4,5] (ox X1 Y1 0) (aa (cE hD0) ak) ?_⟩ <;> intro cb ν τ υ π ς ρ own past κ bl p <;> kernel_rfl
theorem iv {w:World} {h g L s r er X0 Y0 R F tt t1 t2 t3 t4 t5 v1 t6 t7 v2 t8 v3 t9 v4 t10 v5 t11 v6 t12 t13}:F3 w h g L s r er X0 Y0 R F tt t1 t2 t3 t4 t5 v1 t6 t7 v2 t8 v3 t9 v4 t10 v5 t11 v6 t12 t13 :=
 let ⟨d,X1,Y1,hd⟩:=a0.ex X0 Y0 2
 match d,hd.lt (by decide),hd with
 | 0,_,hd=>vJ.1 hd
 | 1,_,hd=>vJ.2 hd
noncomputable def rl (w:World) (h g:Nat→Nat) (L:Nat) (s:Nat) (r:Nat) (er:Nat) (X0:Nat) (Y0:Nat) (R:V7) (F:V7) (tt:Nat) (t1:Nat) (t2:Nat) (t3:Nat) (t4:Nat) (t5:Nat) (v1:Value) (t6:Nat) (t7:Nat) (v2:Value) (t8:Nat) (v3:Value) (t9:Nat) (v4:Value) (t10:Nat) (t11:Nat):Prop:=Spec.HoldsT (BB w h g) 4 fun ρ=>(kJ w.params h g L s r er X0 Y0 R F tt t1 t2 t3 t4 t5 v1 t6 t7 v2 t8 v3 t9 v4 t10 t11 ρ).S
theorem mC {w:World} {h g L s r er X0 Y0 R F tt t1 t2 t3 t4 t5 v1 t6 t7 v2 t8 v3 t9 v4 t10 t11}:(∀ {X1 Y1 X2 Y2:Nat},a0 X0 Y0 3 0 X1 Y1→a0 X1 Y1 3 0 X2 Y2→rl w h g L s r er X0 Y0 R F tt t1 t2 t3 t4 t5 v1 t6 t7 v2 t8 v3 t9 v4 t10 t11) ∧
 (∀ {X1 Y1 X2 Y2:Nat},a0 X0 Y0 3 0 X1 Y1→a0 X1 Y1 3 1 X2 Y2→rl w h g L s r er X0 Y0 R F tt t1 t2 t3 t4 t5 v1 t6 t7 v2 t8 v3 t9 v4 t10 t11) ∧
 (∀ {X1 Y1 X2 Y2:Nat},a0 X0 Y0 3 0 X1 Y1→a0 X1 Y1 3 2 X2 Y2→rl w h g L s r er X0 Y0 R F tt t1 t2 t3 t4 t5 v1 t6 t7 v2 t8 v3 t9 v4 t10 t11) ∧
 (∀ {X1 Y1 X2 Y2:Nat},a0 X0 Y0 3 1 X1 Y1→a0 X1 Y1 3 0 X2 Y2→rl w h g L s r er X0 Y0 R F tt t1 t2 t3 t4 t5 v1 t6 t7 v2 t8 v3 t9 v4 t10 t11):=by
 refine ⟨fun {X1 Y1 X2 Y2} hD0 hD1=>cn 2100 (ce [sT,xR]) [u (fun A J O=>aH w.params h g (A 1) (A 2) 0 er (A 6) 0 X0 Y0 0 X1 Y1 t10 t11 [(.int 127 (J 0)),(.int (-128) (J 2)),(.int 5 (J 3))]) [1,2,6] [1],u (fun A J O=>aH w.params h g (A 1) (A 2) 0 er (A 7) 0 X1 Y1 0 X2 Y2 (J 4) (J 5) [(.int 1 (J 6)),(.int (-1) (J 8)),(.int 100 (J 9))]) [1,2,7] [1],uT (fun A J O ρ=>gA w.params h g (A 0) (A 1) (A 2) er X2 Y2 (v7 (O 3)) (v7 (O 4)) (A 5) t1 t2 t3 t4 t5 v1 t6 t7 v2 t8 v3 t9 (.ref (A 36)) (J 12) (.int 1 (J 6)) (J 13) (.int 127 (J 0)) (J 10) (J 11) ρ) [0,1,2,3,4,5] [0,1,3,4] 1162 7] [] [] (ox 0 0 99) (aa (aI hD0) (aa (aI hD1) (dU iv ak))) ?_,
 fun {X1 Y1 X2 Y2} hD0 hD1=>cn 2113 (ce [yn]) [u (fun A J O=>aH w.params h g (A 1) (A 2) 0 er (A 6) 0 X0 Y0 0 X1 Y1 t10 t11 [(.int 127 (J 0)),(.int (-128) (J 2)),(.int 5 (J 3))]) [1,2,6] [1],u (fun A J O=>aH w.params h g (A 1) (A 2) 0 er (A 7) 0 X1 Y1 1 X2 Y2 (J 4) (J 5) [(.int 1 (J 6)),(.int (-1) (J 8)),(.int 100 (J 9))]) [1,2,7] [1],uT (fun A J O ρ=>gA w.params h g (A 0) (A 1) (A 2) er X2 Y2 (v7 (O 3)) (v7 (O 4)) (A 5) t1 t2 t3 t4 t5 v1 t6 t7 v2 t8 v3 t9 (.ref (A 36)) (J 12) (.int (-1) (J 8)) (J 13) (.int 127 (J 0)) (J 10) (J 11) ρ) [0,1,2,3,4,5] [0,1,3,4] 1162 7] [] [] (ox 0 0 99) (aa (aI hD0) (aa (aI hD1) (dU iv ak))) ?_,
 fun {X1 Y1 X2 Y2} hD0 hD1=>cn 2113 (ce [sT,tM]) [u (fun A J O=>aH w.params h g (A 1) (A 2) 0 er (A 6) 0 X0 Y0 0 X1 Y1 t10 t11 [(.int 127 (J 0)),(.int (-128) (J 2)),(.int 5 (J 3))]) [1,2,6] [1],u (fun A J O=>aH w.params h g (A 1) (A 2) 0 er (A 7) 0 X1 Y1 2 X2 Y2 (J 4) (J 5) [(.int 1 (J 6)),(.int (-1) (J 8)),(.int 100 (J 9))]) [1,2,7] [1],uT (fun A J O ρ=>gA w.params h g (A 0) (A 1) (A 2) er X2 Y2 (v7 (O 3)) (v7 (O 4)) (A 5) t1 t2 t3 t4 t5 v1 t6 t7 v2 t8 v3 t9 (.ref (A 36)) (J 12) (.int 100 (J 9)) (J 13) (.int 127 (J 0)) (J 10) (J 11) ρ) [0,1,2,3,4,5] [0,1,3,4] 1162 7] [] [] (ox 0 0 99) (aa (aI hD0) (aa (aI hD1) (dU iv ak))) ?_,
 fun {X1 Y1 X2 Y2} hD0 hD1=>cn 2113 (ce [sT,tM]) [u (fun A J O=>aH w.params h g (A 1) (A 2) 0 er (A 6) 0 X0 Y0 1 X1 Y1 t10 t11 [(.int 127 (J 0)),(.int (-128) (J 2)),(.int 5 (J 3))]) [1,2,6] [1],u (fun A J O=>aH w.params h g (A 1) (A 2) 0 er (A 7) 0 X1 Y1 0 X2 Y2 (J 4) (J 5) [(.int 1 (J 6)),(.int (-1) (J 8)),(.int 100 (J 9))]) [1,2,7] [1],uT (fun A J O ρ=>gA w.params h g (A 0) (A 1) (A 2) er X2 Y2 (v7 (O 3)) (v7 (O 4)) (A 5) t1 t2 t3 t4 t5 v1 t6 t7 v2 t8 v3 t9 (.ref (A 36)) (J 12) (.int 1 (J 6)) (J 13) (.int (-128) (J 2)) (J 10) (J 11) ρ) [0,1,2,3,4,5] [0,1,3,4] 1162 7] [] [] (ox 0 0 99) (aa (aI hD0) (aa (aI hD1) (dU iv ak))) ?_⟩ <;> intro cb ν τ υ π ς ρ own past κ bl p <;> kernel_rfl
theorem mj {w:World} {h g L s r er X0 Y0 R F tt t1 t2 t3 t4 t5 v1 t6 t7 v2 t8 v3 t9 v4 t10 t11}:(∀ {X1 Y1 X2 Y2:Nat},a0 X0 Y0 3 1 X1 Y1→a0 X1 Y1 3 1 X2 Y2→rl w h g L s r er X0 Y0 R F tt t1 t2 t3 t4 t5 v1 t6 t7 v2 t8 v3 t9 v4 t10 t11) ∧
 (∀ {X1 Y1 X2 Y2:Nat},a0 X0 Y0 3 1 X1 Y1→a0 X1 Y1 3 2 X2 Y2→rl w h g L s r er X0 Y0 R F tt t1 t2 t3 t4 t5 v1 t6 t7 v2 t8 v3 t9 v4 t10 t11) ∧
 (∀ {X1 Y1 X2 Y2:Nat},a0 X0 Y0 3 2 X1 Y1→a0 X1 Y1 3 0 X2 Y2→rl w h g L s r er X0 Y0 R F tt t1 t2 t3 t4 t5 v1 t6 t7 v2 t8 v3 t9 v4 t10 t11) ∧
 (∀ {X1 Y1 X2 Y2:Nat},a0 X0 Y0 3 2 X1 Y1→a0 X1 Y1 3 1 X2 Y2→rl w h g L s r er X0 Y0 R F tt t1 t2 t3 t4 t5 v1 t6 t7 v2 t8 v3 t9 v4 t10 t11):=by
 refine ⟨fun {X1 Y1 X2 Y2} hD0 hD1=>cn 2113 (ce [yn]) [u (fun A J O=>aH w.params h g (A 1) (A 2) 0 er (A 6) 0 X0 Y0 1 X1 Y1 t10 t11 [(.int 127 (J 0)),(.int (-128) (J 2)),(.int 5 (J 3))]) [1,2,6] [1],u (fun A J O=>aH w.params h g (A 1) (A 2) 0 er (A 7) 0 X1 Y1 1 X2 Y2 (J 4) (J 5) [(.int 1 (J 6)),(.int (-1) (J 8)),(.int 100 (J 9))]) [1,2,7] [1],uT (fun A J O ρ=>gA w.params h g (A 0) (A 1) (A 2) er X2 Y2 (v7 (O 3)) (v7 (O 4)) (A 5) t1 t2 t3 t4 t5 v1 t6 t7 v2 t8 v3 t9 (.ref (A 36)) (J 12) (.int (-1) (J 8)) (J 13) (.int (-128) (J 2)) (J 10) (J 11) ρ) [0,1,2,3,4,5] [0,1,3,4] 1162 7] [] [] (ox 0 0 99) (aa (aI hD0) (aa (aI hD1) (dU iv ak))) ?_,
 fun {X1 Y1 X2 Y2} hD0 hD1=>cn 2100 (ce [sT,xR]) [u (fun A J O=>aH w.params h g (A 1) (A 2) 0 er (A 6) 0 X0 Y0 1 X1 Y1 t10 t11 [(.int 127 (J 0)),(.int (-128) (J 2)),(.int 5 (J 3))]) [1,2,6] [1],u (fun A J O=>aH w.params h g (A 1) (A 2) 0 er (A 7) 0 X1 Y1 2 X2 Y2 (J 4) (J 5) [(.int 1 (J 6)),(.int (-1) (J 8)),(.int 100 (J 9))]) [1,2,7] [1],uT (fun A J O ρ=>gA w.params h g (A 0) (A 1) (A 2) er X2 Y2 (v7 (O 3)) (v7 (O 4)) (A 5) t1 t2 t3 t4 t5 v1 t6 t7 v2 t8 v3 t9 (.ref (A 36)) (J 12) (.int 100 (J 9)) (J 13) (.int (-128) (J 2)) (J 10) (J 11) ρ) [0,1,2,3,4,5] [0,1,3,4] 1162 7] [] [] (ox 0 0 99) (aa (aI hD0) (aa (aI hD1) (dU iv ak))) ?_,
 fun {X1 Y1 X2 Y2} hD0 hD1=>cn 2087 (ce [rx,1048716,tc,1048718,xR]) [u (fun A J O=>aH w.params h g (A 1) (A 2) 0 er (A 6) 0 X0 Y0 2 X1 Y1 t10 t11 [(.int 127 (J 0)),(.int (-128) (J 2)),(.int 5 (J 3))]) [1,2,6] [1],u (fun A J O=>aH w.params h g (A 1) (A 2) 0 er (A 7) 0 X1 Y1 0 X2 Y2 (J 4) (J 5) [(.int 1 (J 6)),(.int (-1) (J 8)),(.int 100 (J 9))]) [1,2,7] [1],uT (fun A J O ρ=>gA w.params h g (A 0) (A 1) (A 2) er X2 Y2 (v7 (O 3)) (v7 (O 4)) (A 5) t1 t2 t3 t4 t5 v1 t6 t7 v2 t8 v3 t9 (.ref (A 36)) (J 12) (.int 1 (J 6)) (J 13) (.int 5 (J 3)) (J 10) (J 11) ρ) [0,1,2,3,4,5] [0,1,3,4] 1162 7] [] [] (ox 0 0 99) (aa (aI hD0) (aa (aI hD1) (dU iv ak))) ?_,
 fun {X1 Y1 X2 Y2} hD0 hD1=>cn 2100 (ce [rx,1048716,tc,1048718,tM]) [u (fun A J O=>aH w.params h g (A 1) (A 2) 0 er (A 6) 0 X0 Y0 2 X1 Y1 t10 t11 [(.int 127 (J 0)),(.int (-128) (J 2)),(.int 5 (J 3))]) [1,2,6] [1],u (fun A J O=>aH w.params h g (A 1) (A 2) 0 er (A 7) 0 X1 Y1 1 X2 Y2 (J 4) (J 5) [(.int 1 (J 6)),(.int (-1) (J 8)),(.int 100 (J 9))]) [1,2,7] [1],uT (fun A J O ρ=>gA w.params h g (A 0) (A 1) (A 2) er X2 Y2 (v7 (O 3)) (v7 (O 4)) (A 5) t1 t2 t3 t4 t5 v1 t6 t7 v2 t8 v3 t9 (.ref (A 36)) (J 12) (.int (-1) (J 8)) (J 13) (.int 5 (J 3)) (J 10) (J 11) ρ) [0,1,2,3,4,5] [0,1,3,4] 1162 7] [] [] (ox 0 0 99) (aa (aI hD0) (aa (aI hD1) (dU iv ak))) ?_⟩ <;> intro cb ν τ υ π ς ρ own past κ bl p <;> kernel_rfl
theorem Bv {w:World} {h g L s r er X0 Y0 R F tt t1 t2 t3 t4 t5 v1 t6 t7 v2 t8 v3 t9 v4 t10 t11}:(∀ {X1 Y1 X2 Y2:Nat},a0 X0 Y0 3 2 X1 Y1→a0 X1 Y1 3 2 X2 Y2→rl w h g L s r er X0 Y0 R F tt t1 t2 t3 t4 t5 v1 t6 t7 v2 t8 v3 t9 v4 t10 t11):=by
 refine fun {X1 Y1 X2 Y2} hD0 hD1=>cn 2113 (ce [yn]) [u (fun A J O=>aH w.params h g (A 1) (A 2) 0 er (A 6) 0 X0 Y0 2 X1 Y1 t10 t11 [(.int 127 (J 0)),(.int (-128) (J 2)),(.int 5 (J 3))]) [1,2,6] [1],u (fun A J O=>aH w.params h g (A 1) (A 2) 0 er (A 7) 0 X1 Y1 2 X2 Y2 (J 4) (J 5) [(.int 1 (J 6)),(.int (-1) (J 8)),(.int 100 (J 9))]) [1,2,7] [1],uT (fun A J O ρ=>gA w.params h g (A 0) (A 1) (A 2) er X2 Y2 (v7 (O 3)) (v7 (O 4)) (A 5) t1 t2 t3 t4 t5 v1 t6 t7 v2 t8 v3 t9 (.ref (A 36)) (J 12) (.int 100 (J 9)) (J 13) (.int 5 (J 3)) (J 10) (J 11) ρ) [0,1,2,3,4,5] [0,1,3,4] 1162 7] [] [] (ox 0 0 99) (aa (aI hD0) (aa (aI hD1) (dU iv ak))) ?_ <;> intro cb ν τ υ π ς ρ own past κ bl p <;> kernel_rfl
theorem oh {w:World} {h g L s r er X0 Y0 R F tt t1 t2 t3 t4 t5 v1 t6 t7 v2 t8 v3 t9 v4 t10 t11}:rl w h g L s r er X0 Y0 R F tt t1 t2 t3 t4 t5 v1 t6 t7 v2 t8 v3 t9 v4 t10 t11 :=
 let ⟨d,X1,Y1,hd⟩:=a0.ex X0 Y0 3
 let ⟨e,X2,Y2,he⟩:=a0.ex X1 Y1 3
 match d,hd.lt (by decide),hd with
 | 0,_,hd=>match e,he.lt (by decide),he with
  | 0,_,he=>mC.1 hd he
  | 1,_,he=>mC.2.1 hd he
  | 2,_,he=>mC.2.2.1 hd he
 | 1,_,hd=>match e,he.lt (by decide),he with
  | 0,_,he=>mC.2.2.2 hd he
  | 1,_,he=>mj.1 hd he
  | 2,_,he=>mj.2.1 hd he
 | 2,_,hd=>match e,he.lt (by decide),he with
  | 0,_,he=>mj.2.2.1 hd he
  | 1,_,he=>mj.2.2.2 hd he
  | 2,_,he=>Bv hd he
end
section
open PySem.SeqAt
theorem c3 {w h g s r er X0 Y0 tx ty R F n K t1} (hK:ag K=n) (hn:n≤900):(∀ {D0 X1 Y1 X2 Y2 X3 Y3 X4 Y4:Nat},a0 X0 Y0 4 D0 X1 Y1→a0 X1 Y1 5 0 X2 Y2→a0 X2 Y2 4 0 X3 Y3→a0 X3 Y3 4 0 X4 Y4→CE w h g s r er X0 Y0 tx ty R F n K t1 1520) ∧
 (∀ {D0 X1 Y1 X2 Y2 X3 Y3 X4 Y4:Nat},a0 X0 Y0 4 D0 X1 Y1→a0 X1 Y1 5 0 X2 Y2→a0 X2 Y2 4 1 X3 Y3→a0 X3 Y3 4 0 X4 Y4→CE w h g s r er X0 Y0 tx ty R F n K t1 1520) ∧
 (∀ {D0 X1 Y1 X2 Y2 X3 Y3 X4 Y4:Nat},a0 X0 Y0 4 D0 X1 Y1→a0 X1 Y1 5 0 X2 Y2→a0 X2 Y2 4 2 X3 Y3→a0 X3 Y3 4 0 X4 Y4→CE w h g s r er X0 Y0 tx ty R F n K t1 1520) ∧
 (∀ {D0 X1 Y1 X2 Y2 X3 Y3 X4 Y4:Nat},a0 X0 Y0 4 D0 X1 Y1→a0 X1 Y1 5 0 X2 Y2→a0 X2 Y2 4 3 X3 Y3→a0 X3 Y3 4 0 X4 Y4→CE w h g s r er X0 Y0 tx ty R F n K t1 1520) ∧
 (∀ {D0 X1 Y1 X2 Y2 D2 X3 Y3 X4 Y4:Nat},a0 X0 Y0 4 D0 X1 Y1→a0 X1 Y1 5 0 X2 Y2→a0 X2 Y2 4 D2 X3 Y3→a0 X3 Y3 4 1 X4 Y4→CE w h g s r er X0 Y0 tx ty R F n K t1 1520) ∧
 (∀ {D0 X1 Y1 X2 Y2 X3 Y3 X4 Y4:Nat},a0 X0 Y0 4 D0 X1 Y1→a0 X1 Y1 5 1 X2 Y2→a0 X2 Y2 4 0 X3 Y3→a0 X3 Y3 4 0 X4 Y4→CE w h g s r er X0 Y0 tx ty R F n K t1 1520) ∧
 (∀ {D0 X1 Y1 X2 Y2 X3 Y3 X4 Y4:Nat},a0 X0 Y0 4 D0 X1 Y1→a0 X1 Y1 5 1 X2 Y2→a0 X2 Y2 4 1 X3 Y3→a0 X3 Y3 4 0 X4 Y4→CE w h g s r er X0 Y0 tx ty R F n K t1 1520) ∧
 (∀ {D0 X1 Y1 X2 Y2 X3 Y3 X4 Y4:Nat},a0 X0 Y0 4 D0 X1 Y1→a0 X1 Y1 5 1 X2 Y2→a0 X2 Y2 4 2 X3 Y3→a0 X3 Y3 4 0 X4 Y4→CE w h g s r er X0 Y0 tx ty R F n K t1 1520) ∧
 (∀ {D0 X1 Y1 X2 Y2 X3 Y3 X4 Y4:Nat},a0 X0 Y0 4 D0 X1 Y1→a0 X1 Y1 5 1 X2 Y2→a0 X2 Y2 4 3 X3 Y3→a0 X3 Y3 4 0 X4 Y4→CE w h g s r er X0 Y0 tx ty R F n K t1 1520) ∧
 (∀ {D0 X1 Y1 X2 Y2 D2 X3 Y3 X4 Y4:Nat},a0 X0 Y0 4 D0 X1 Y1→a0 X1 Y1 5 1 X2 Y2→a0 X2 Y2 4 D2 X3 Y3→a0 X3 Y3 4 1 X4 Y4→CE w h g s r er X0 Y0 tx ty R F n K t1 1520) ∧
 (∀ {D0 X1 Y1 X2 Y2 X3 Y3 X4 Y4:Nat},a0 X0 Y0 4 D0 X1 Y1→a0 X1 Y1 5 2 X2 Y2→a0 X2 Y2 4 0 X3 Y3→a0 X3 Y3 4 0 X4 Y4→CE w h g s r er X0 Y0 tx ty R F n K t1 1520) ∧
 (∀ {D0 X1 Y1 X2 Y2 X3 Y3 X4 Y4:Nat},a0 X0 Y0 4 D0 X1 Y1→a0 X1 Y1 5 2 X2 Y2→a0 X2 Y2 4 1 X3 Y3→a0 X3 Y3 4 0 X4 Y4→CE w h g s r er X0 Y0 tx ty R F n K t1 1520) ∧
 (∀ {D0 X1 Y1 X2 Y2 X3 Y3 X4 Y4:Nat},a0 X0 Y0 4 D0 X1 Y1→a0 X1 Y1 5 2 X2 Y2→a0 X2 Y2 4 2 X3 Y3→a0 X3 Y3 4 0 X4 Y4→CE w h g s r er X0 Y0 tx ty R F n K t1 1520) ∧
 (∀ {D0 X1 Y1 X2 Y2 X3 Y3 X4 Y4:Nat},a0 X0 Y0 4 D0 X1 Y1→a0 X1 Y1 5 2 X2 Y2→a0 X2 Y2 4 3 X3 Y3→a0 X3 Y3 4 0 X4 Y4→CE w h g s r er X0 Y0 tx ty R F n K t1 1520):=by
 refine ⟨fun {D0 X1 Y1 X2 Y2 X3 Y3 X4 Y4} hD0 hD1 hD2 hD3=>bc 527 (ce [wW]) [u (fun A J O=>ay w.params h g (A 0) (A 1) 0 er (A 10) 0 X0 Y0 D0 X1 Y1 tx ty #[] #[97,195,169] #[255,226,130,172] #[120,121,122] (J 3) (J 4) (J 5) (J 6)) [0,1,10] [0],u (fun A J O=>aA w.params h g (A 0) (A 1) 0 er (A 23) 0 X1 Y1 0 X2 Y2 (J 7) (J 8) 65 8364 (-1) 300 1099511627776 (J 19) (J 20) (J 22) (J 23) (J 26)) [0,1,23] [0],u (fun A J O=>az w.params h g (A 0) (A 1) 0 er (A 24) 0 X2 Y2 0 X3 Y3 (J 27) (J 28) Q0 Q4 Q2 Q3 (J 30) (J 31) (J 32) (J 33)) [0,1,24] [0],u (fun A J O=>ah w.params h g (A 0) (A 1) 0 er X3 Y3 0 X4 Y4 4 (J 34) (J 35) (J 37)) [0,1] [0]] [] [39,40] (be t1 hK X4 Y4 0 0 2) (aa (aD hD0) (aa (aB hD1) (aa (aC hD2) (aa (ao (top:=4) hD3 (by decide) (by decide)) ak)))) ?_,
 fun {D0 X1 Y1 X2 Y2 X3 Y3 X4 Y4} hD0 hD1 hD2 hD3=>bc 506 (ce [pG]) [u (fun A J O=>ay w.params h g (A 0) (A 1) 0 er (A 10) 0 X0 Y0 D0 X1 Y1 tx ty #[] #[97,195,169] #[255,226,130,172] #[120,121,122] (J 3) (J 4) (J 5) (J 6)) [0,1,10] [0],u (fun A J O=>aA w.params h g (A 0) (A 1) 0 er (A 23) 0 X1 Y1 0 X2 Y2 (J 7) (J 8) 65 8364 (-1) 300 1099511627776 (J 19) (J 20) (J 22) (J 23) (J 26)) [0,1,23] [0],u (fun A J O=>az w.params h g (A 0) (A 1) 0 er (A 24) 0 X2 Y2 1 X3 Y3 (J 27) (J 28) Q0 Q4 Q2 Q3 (J 30) (J 31) (J 32) (J 33)) [0,1,24] [0],u (fun A J O=>ah w.params h g (A 0) (A 1) 0 er X3 Y3 0 X4 Y4 4 (J 34) (J 35) (J 37)) [0,1] [0]] [] [39,40] (be t1 hK X4 Y4 0 0 2) (aa (aD hD0) (aa (aB hD1) (aa (aC hD2) (aa (ao (top:=4) hD3 (by decide) (by decide)) ak)))) ?_,
 fun {D0 X1 Y1 X2 Y2 X3 Y3 X4 Y4} hD0 hD1 hD2 hD3=>bc 527 (ce [uP]) [u (fun A J O=>ay w.params h g (A 0) (A 1) 0 er (A 10) 0 X0 Y0 D0 X1 Y1 tx ty #[] #[97,195,169] #[255,226,130,172] #[120,121,122] (J 3) (J 4) (J 5) (J 6)) [0,1,10] [0],u (fun A J O=>aA w.params h g (A 0) (A 1) 0 er (A 23) 0 X1 Y1 0 X2 Y2 (J 7) (J 8) 65 8364 (-1) 300 1099511627776 (J 19) (J 20) (J 22) (J 23) (J 26)) [0,1,23] [0],u (fun A J O=>az w.params h g (A 0) (A 1) 0 er (A 24) 0 X2 Y2 2 X3 Y3 (J 27) (J 28) Q0 Q4 Q2 Q3 (J 30) (J 31) (J 32) (J 33)) [0,1,24] [0],u (fun A J O=>ah w.params h g (A 0) (A 1) 0 er X3 Y3 0 X4 Y4 4 (J 34) (J 35) (J 37)) [0,1] [0]] [] [39,40] (be t1 hK X4 Y4 0 0 2) (aa (aD hD0) (aa (aB hD1) (aa (aC hD2) (aa (ao (top:=4) hD3 (by decide) (by decide)) ak)))) ?_,
 fun {D0 X1 Y1 X2 Y2 X3 Y3 X4 Y4} hD0 hD1 hD2 hD3=>bc 506 (ce [pL]) [u (fun A J O=>ay w.params h g (A 0) (A 1) 0 er (A 10) 0 X0 Y0 D0 X1 Y1 tx ty #[] #[97,195,169] #[255,226,130,172] #[120,121,122] (J 3) (J 4) (J 5) (J 6)) [0,1,10] [0],u (fun A J O=>aA w.params h g (A 0) (A 1) 0 er (A 23) 0 X1 Y1 0 X2 Y2 (J 7) (J 8) 65 8364 (-1) 300 1099511627776 (J 19) (J 20) (J 22) (J 23) (J 26)) [0,1,23] [0],u (fun A J O=>az w.params h g (A 0) (A 1) 0 er (A 24) 0 X2 Y2 3 X3 Y3 (J 27) (J 28) Q0 Q4 Q2 Q3 (J 30) (J 31) (J 32) (J 33)) [0,1,24] [0],u (fun A J O=>ah w.params h g (A 0) (A 1) 0 er X3 Y3 0 X4 Y4 4 (J 34) (J 35) (J 37)) [0,1] [0]] [] [39,40] (be t1 hK X4 Y4 0 0 2) (aa (aD hD0) (aa (aB hD1) (aa (aC hD2) (aa (ao (top:=4) hD3 (by decide) (by decide)) ak)))) ?_,
 fun {D0 X1 Y1 X2 Y2 D2 X3 Y3 X4 Y4} hD0 hD1 hD2 hD3=>bc 1179 (ce [w0,fa,c5,1118,av,0x462188621886218862,aj,0x1000621886400062,of,0x400198321983119062,of,0x4661a83119062,lM,1092,av,Cf,0x4701d0700040e0e0721c802088380dc360143f,dN,1073800247]) [u (fun A J O=>ay w.params h g (A 0) (A 1) 0 er (A 10) 0 X0 Y0 D0 X1 Y1 tx ty #[] #[97,195,169] #[255,226,130,172] #[120,121,122] (J 3) (J 4) (J 5) (J 6)) [0,1,10] [0],u (fun A J O=>aA w.params h g (A 0) (A 1) 0 er (A 23) 0 X1 Y1 0 X2 Y2 (J 7) (J 8) 65 8364 (-1) 300 1099511627776 (J 19) (J 20) (J 22) (J 23) (J 26)) [0,1,23] [0],u (fun A J O=>az w.params h g (A 0) (A 1) 0 er (A 24) 0 X2 Y2 D2 X3 Y3 (J 27) (J 28) Q0 Q4 Q2 Q3 (J 30) (J 31) (J 32) (J 33)) [0,1,24] [0],u (fun A J O=>ah w.params h g (A 0) (A 1) 0 er X3 Y3 1 X4 Y4 4 (J 34) (J 35) (J 37)) [0,1] [0]] [] [39,40] (be t1 hK X4 Y4 0 0 2) (aa (aD hD0) (aa (aB hD1) (aa (aC hD2) (aa (ao (top:=4) hD3 (by decide) (by decide)) ak)))) ?_,
 fun {D0 X1 Y1 X2 Y2 X3 Y3 X4 Y4} hD0 hD1 hD2 hD3=>bc 540 (ce [kL,1138688,xD]) [u (fun A J O=>ay w.params h g (A 0) (A 1) 0 er (A 10) 0 X0 Y0 D0 X1 Y1 tx ty #[] #[97,195,169] #[255,226,130,172] #[120,121,122] (J 3) (J 4) (J 5) (J 6)) [0,1,10] [0],u (fun A J O=>aA w.params h g (A 0) (A 1) 0 er (A 23) 0 X1 Y1 1 X2 Y2 (J 7) (J 8) 65 8364 (-1) 300 1099511627776 (J 19) (J 20) (J 22) (J 23) (J 26)) [0,1,23] [0],u (fun A J O=>az w.params h g (A 0) (A 1) 0 er (A 24) 0 X2 Y2 0 X3 Y3 (J 27) (J 28) Q0 Q4 Q2 Q3 (J 30) (J 31) (J 32) (J 33)) [0,1,24] [0],u (fun A J O=>ah w.params h g (A 0) (A 1) 0 er X3 Y3 0 X4 Y4 4 (J 34) (J 35) (J 37)) [0,1] [0]] [] [39,40] (be t1 hK X4 Y4 0 0 2) (aa (aD hD0) (aa (aB hD1) (aa (aC hD2) (aa (ao (top:=4) hD3 (by decide) (by decide)) ak)))) ?_,
 fun {D0 X1 Y1 X2 Y2 X3 Y3 X4 Y4} hD0 hD1 hD2 hD3=>bc 506 (ce [pG]) [u (fun A J O=>ay w.params h g (A 0) (A 1) 0 er (A 10) 0 X0 Y0 D0 X1 Y1 tx ty #[] #[97,195,169] #[255,226,130,172] #[120,121,122] (J 3) (J 4) (J 5) (J 6)) [0,1,10] [0],u (fun A J O=>aA w.params h g (A 0) (A 1) 0 er (A 23) 0 X1 Y1 1 X2 Y2 (J 7) (J 8) 65 8364 (-1) 300 1099511627776 (J 19) (J 20) (J 22) (J 23) (J 26)) [0,1,23] [0],u (fun A J O=>az w.params h g (A 0) (A 1) 0 er (A 24) 0 X2 Y2 1 X3 Y3 (J 27) (J 28) Q0 Q4 Q2 Q3 (J 30) (J 31) (J 32) (J 33)) [0,1,24] [0],u (fun A J O=>ah w.params h g (A 0) (A 1) 0 er X3 Y3 0 X4 Y4 4 (J 34) (J 35) (J 37)) [0,1] [0]] [] [39,40] (be t1 hK X4 Y4 0 0 2) (aa (aD hD0) (aa (aB hD1) (aa (aC hD2) (aa (ao (top:=4) hD3 (by decide) (by decide)) ak)))) ?_,
 fun {D0 X1 Y1 X2 Y2 X3 Y3 X4 Y4} hD0 hD1 hD2 hD3=>bc 527 (ce [uP]) [u (fun A J O=>ay w.params h g (A 0) (A 1) 0 er (A 10) 0 X0 Y0 D0 X1 Y1 tx ty #[] #[97,195,169] #[255,226,130,172] #[120,121,122] (J 3) (J 4) (J 5) (J 6)) [0,1,10] [0],u (fun A J O=>aA w.params h g (A 0) (A 1) 0 er (A 23) 0 X1 Y1 1 X2 Y2 (J 7) (J 8) 65 8364 (-1) 300 1099511627776 (J 19) (J 20) (J 22) (J 23) (J 26)) [0,1,23] [0],u (fun A J O=>az w.params h g (A 0) (A 1) 0 er (A 24) 0 X2 Y2 2 X3 Y3 (J 27) (J 28) Q0 Q4 Q2 Q3 (J 30) (J 31) (J 32) (J 33)) [0,1,24] [0],u (fun A J O=>ah w.params h g (A 0) (A 1) 0 er X3 Y3 0 X4 Y4 4 (J 34) (J 35) (J 37)) [0,1] [0]] [] [39,40] (be t1 hK X4 Y4 0 0 2) (aa (aD hD0) (aa (aB hD1) (aa (aC hD2) (aa (ao (top:=4) hD3 (by decide) (by decide)) ak)))) ?_,
 fun {D0 X1 Y1 X2 Y2 X3 Y3 X4 Y4} hD0 hD1 hD2 hD3=>bc 506 (ce [pL]) [u (fun A J O=>ay w.params h g (A 0) (A 1) 0 er (A 10) 0 X0 Y0 D0 X1 Y1 tx ty #[] #[97,195,169] #[255,226,130,172] #[120,121,122] (J 3) (J 4) (J 5) (J 6)) [0,1,10] [0],u (fun A J O=>aA w.params h g (A 0) (A 1) 0 er (A 23) 0 X1 Y1 1 X2 Y2 (J 7) (J 8) 65 8364 (-1) 300 1099511627776 (J 19) (J 20) (J 22) (J 23) (J 26)) [0,1,23] [0],u (fun A J O=>az w.params h g (A 0) (A 1) 0 er (A 24) 0 X2 Y2 3 X3 Y3 (J 27) (J 28) Q0 Q4 Q2 Q3 (J 30) (J 31) (J 32) (J 33)) [0,1,24] [0],u (fun A J O=>ah w.params h g (A 0) (A 1) 0 er X3 Y3 0 X4 Y4 4 (J 34) (J 35) (J 37)) [0,1] [0]] [] [39,40] (be t1 hK X4 Y4 0 0 2) (aa (aD hD0) (aa (aB hD1) (aa (aC hD2) (aa (ao (top:=4) hD3 (by decide) (by decide)) ak)))) ?_,
 fun {D0 X1 Y1 X2 Y2 D2 X3 Y3 X4 Y4} hD0 hD1 hD2 hD3=>bc 1496 (ce [w0,fa,fa,fa,wc]) [u (fun A J O=>ay w.params h g (A 0) (A 1) 0 er (A 10) 0 X0 Y0 D0 X1 Y1 tx ty #[] #[97,195,169] #[255,226,130,172] #[120,121,122] (J 3) (J 4) (J 5) (J 6)) [0,1,10] [0],u (fun A J O=>aA w.params h g (A 0) (A 1) 0 er (A 23) 0 X1 Y1 1 X2 Y2 (J 7) (J 8) 65 8364 (-1) 300 1099511627776 (J 19) (J 20) (J 22) (J 23) (J 26)) [0,1,23] [0],u (fun A J O=>az w.params h g (A 0) (A 1) 0 er (A 24) 0 X2 Y2 D2 X3 Y3 (J 27) (J 28) Q0 Q4 Q2 Q3 (J 30) (J 31) (J 32) (J 33)) [0,1,24] [0],u (fun A J O=>ah w.params h g (A 0) (A 1) 0 er X3 Y3 1 X4 Y4 4 (J 34) (J 35) (J 37)) [0,1] [0]] [] [39,40] (be t1 hK X4 Y4 0 0 2) (aa (aD hD0) (aa (aB hD1) (aa (aC hD2) (aa (ao (top:=4) hD3 (by decide) (by decide)) ak)))) ?_,
 fun {D0 X1 Y1 X2 Y2 X3 Y3 X4 Y4} hD0 hD1 hD2 hD3=>bc 540 (ce [kL,1138688,xD]) [u (fun A J O=>ay w.params h g (A 0) (A 1) 0 er (A 10) 0 X0 Y0 D0 X1 Y1 tx ty #[] #[97,195,169] #[255,226,130,172] #[120,121,122] (J 3) (J 4) (J 5) (J 6)) [0,1,10] [0],u (fun A J O=>aA w.params h g (A 0) (A 1) 0 er (A 23) 0 X1 Y1 2 X2 Y2 (J 7) (J 8) 65 8364 (-1) 300 1099511627776 (J 19) (J 20) (J 22) (J 23) (J 26)) [0,1,23] [0],u (fun A J O=>az w.params h g (A 0) (A 1) 0 er (A 24) 0 X2 Y2 0 X3 Y3 (J 27) (J 28) Q0 Q4 Q2 Q3 (J 30) (J 31) (J 32) (J 33)) [0,1,24] [0],u (fun A J O=>ah w.params h g (A 0) (A 1) 0 er X3 Y3 0 X4 Y4 4 (J 34) (J 35) (J 37)) [0,1] [0]] [] [39,40] (be t1 hK X4 Y4 0 0 2) (aa (aD hD0) (aa (aB hD1) (aa (aC hD2) (aa (ao (top:=4) hD3 (by decide) (by decide)) ak)))) ?_,
 fun {D0 X1 Y1 X2 Y2 X3 Y3 X4 Y4} hD0 hD1 hD2 hD3=>bc 506 (ce [pG]) [u (fun A J O=>ay w.params h g (A 0) (A 1) 0 er (A 10) 0 X0 Y0 D0 X1 Y1 tx ty #[] #[97,195,169] #[255,226,130,172] #[120,121,122] (J 3) (J 4) (J 5) (J 6)) [0,1,10] [0],u (fun A J O=>aA w.params h g (A 0) (A 1) 0 er (A 23) 0 X1 Y1 2 X2 Y2 (J 7) (J 8) 65 8364 (-1) 300 1099511627776 (J 19) (J 20) (J 22) (J 23) (J 26)) [0,1,23] [0],u (fun A J O=>az w.params h g (A 0) (A 1) 0 er (A 24) 0 X2 Y2 1 X3 Y3 (J 27) (J 28) Q0 Q4 Q2 Q3 (J 30) (J 31) (J 32) (J 33)) [0,1,24] [0],u (fun A J O=>ah w.params h g (A 0) (A 1) 0 er X3 Y3 0 X4 Y4 4 (J 34) (J 35) (J 37)) [0,1] [0]] [] [39,40] (be t1 hK X4 Y4 0 0 2) (aa (aD hD0) (aa (aB hD1) (aa (aC hD2) (aa (ao (top:=4) hD3 (by decide) (by decide)) ak)))) ?_,
 fun {D0 X1 Y1 X2 Y2 X3 Y3 X4 Y4} hD0 hD1 hD2 hD3=>bc 540 (ce [kL,1140736,xD]) [u (fun A J O=>ay w.params h g (A 0) (A 1) 0 er (A 10) 0 X0 Y0 D0 X1 Y1 tx ty #[] #[97,195,169] #[255,226,130,172] #[120,121,122] (J 3) (J 4) (J 5) (J 6)) [0,1,10] [0],u (fun A J O=>aA w.params h g (A 0) (A 1) 0 er (A 23) 0 X1 Y1 2 X2 Y2 (J 7) (J 8) 65 8364 (-1) 300 1099511627776 (J 19) (J 20) (J 22) (J 23) (J 26)) [0,1,23] [0],u (fun A J O=>az w.params h g (A 0) (A 1) 0 er (A 24) 0 X2 Y2 2 X3 Y3 (J 27) (J 28) Q0 Q4 Q2 Q3 (J 30) (J 31) (J 32) (J 33)) [0,1,24] [0],u (fun A J O=>ah w.params h g (A 0) (A 1) 0 er X3 Y3 0 X4 Y4 4 (J 34) (J 35) (J 37)) [0,1] [0]] [] [39,40] (be t1 hK X4 Y4 0 0 2) (aa (aD hD0) (aa (aB hD1) (aa (aC hD2) (aa (ao (top:=4) hD3 (by decide) (by decide)) ak)))) ?_,
 fun {D0 X1 Y1 X2 Y2 X3 Y3 X4 Y4} hD0 hD1 hD2 hD3=>bc 506 (ce [pL]) [u (fun A J O=>ay w.params h g (A 0) (A 1) 0 er (A 10) 0 X0 Y0 D0 X1 Y1 tx ty #[] #[97,195,169] #[255,226,130,172] #[120,121,122] (J 3) (J 4) (J 5) (J 6)) [0,1,10] [0],u (fun A J O=>aA w.params h g (A 0) (A 1) 0 er (A 23) 0 X1 Y1 2 X2 Y2 (J 7) (J 8) 65 8364 (-1) 300 1099511627776 (J 19) (J 20) (J 22) (J 23) (J 26)) [0,1,23] [0],u (fun A J O=>az w.params h g (A 0) (A 1) 0 er (A 24) 0 X2 Y2 3 X3 Y3 (J 27) (J 28) Q0 Q4 Q2 Q3 (J 30) (J 31) (J 32) (J 33)) [0,1,24] [0],u (fun A J O=>ah w.params h g (A 0) (A 1) 0 er X3 Y3 0 X4 Y4 4 (J 34) (J 35) (J 37)) [0,1] [0]] [] [39,40] (be t1 hK X4 Y4 0 0 2) (aa (aD hD0) (aa (aB hD1) (aa (aC hD2) (aa (ao (top:=4) hD3 (by decide) (by decide)) ak)))) ?_⟩ <;> intro cb ν τ υ π ς ρ own past κ bl p <;> kernel_rfl
theorem cL {w h g s r er X0 Y0 tx ty R F n K t1} (hK:ag K=n) (hn:n≤900):(∀ {D0 X1 Y1 X2 Y2 D2 X3 Y3 X4 Y4:Nat},a0 X0 Y0 4 D0 X1 Y1→a0 X1 Y1 5 2 X2 Y2→a0 X2 Y2 4 D2 X3 Y3→a0 X3 Y3 4 1 X4 Y4→CE w h g s r er X0 Y0 tx ty R F n K t1 1520) ∧
 (∀ {D0 X1 Y1 X2 Y2 X3 Y3 X4 Y4:Nat},a0 X0 Y0 4 D0 X1 Y1→a0 X1 Y1 5 3 X2 Y2→a0 X2 Y2 4 0 X3 Y3→a0 X3 Y3 4 0 X4 Y4→CE w h g s r er X0 Y0 tx ty R F n K t1 1520) ∧
 (∀ {D0 X1 Y1 X2 Y2 X3 Y3 X4 Y4:Nat},a0 X0 Y0 4 D0 X1 Y1→a0 X1 Y1 5 3 X2 Y2→a0 X2 Y2 4 1 X3 Y3→a0 X3 Y3 4 0 X4 Y4→CE w h g s r er X0 Y0 tx ty R F n K t1 1520) ∧
 (∀ {D0 X1 Y1 X2 Y2 X3 Y3 X4 Y4:Nat},a0 X0 Y0 4 D0 X1 Y1→a0 X1 Y1 5 3 X2 Y2→a0 X2 Y2 4 2 X3 Y3→a0 X3 Y3 4 0 X4 Y4→CE w h g s r er X0 Y0 tx ty R F n K t1 1520) ∧
 (∀ {D0 X1 Y1 X2 Y2 X3 Y3 X4 Y4:Nat},a0 X0 Y0 4 D0 X1 Y1→a0 X1 Y1 5 3 X2 Y2→a0 X2 Y2 4 3 X3 Y3→a0 X3 Y3 4 0 X4 Y4→CE w h g s r er X0 Y0 tx ty R F n K t1 1520) ∧
 (∀ {D0 X1 Y1 X2 Y2 D2 X3 Y3 X4 Y4:Nat},a0 X0 Y0 4 D0 X1 Y1→a0 X1 Y1 5 3 X2 Y2→a0 X2 Y2 4 D2 X3 Y3→a0 X3 Y3 4 1 X4 Y4→CE w h g s r er X0 Y0 tx ty R F n K t1 1520) ∧
 (∀ {D0 X1 Y1 X2 Y2 X3 Y3 X4 Y4:Nat},a0 X0 Y0 4 D0 X1 Y1→a0 X1 Y1 5 4 X2 Y2→a0 X2 Y2 4 0 X3 Y3→a0 X3 Y3 4 0 X4 Y4→CE w h g s r er X0 Y0 tx ty R F n K t1 1520) ∧
 (∀ {D0 X1 Y1 X2 Y2 X3 Y3 X4 Y4:Nat},a0 X0 Y0 4 D0 X1 Y1→a0 X1 Y1 5 4 X2 Y2→a0 X2 Y2 4 1 X3 Y3→a0 X3 Y3 4 0 X4 Y4→CE w h g s r er X0 Y0 tx ty R F n K t1 1520) ∧
 (∀ {D0 X1 Y1 X2 Y2 X3 Y3 X4 Y4:Nat},a0 X0 Y0 4 D0 X1 Y1→a0 X1 Y1 5 4 X2 Y2→a0 X2 Y2 4 2 X3 Y3→a0 X3 Y3 4 0 X4 Y4→CE w h g s r er X0 Y0 tx ty R F n K t1 1520) ∧
 (∀ {D0 X1 Y1 X2 Y2 X3 Y3 X4 Y4:Nat},a0 X0 Y0 4 D0 X1 Y1→a0 X1 Y1 5 4 X2 Y2→a0 X2 Y2 4 3 X3 Y3→a0 X3 Y3 4 0 X4 Y4→CE w h g s r er X0 Y0 tx ty R F n K t1 1520) ∧
 (∀ {D0 X1 Y1 X2 Y2 D2 X3 Y3 X4 Y4:Nat},a0 X0 Y0 4 D0 X1 Y1→a0 X1 Y1 5 4 X2 Y2→a0 X2 Y2 4 D2 X3 Y3→a0 X3 Y3 4 1 X4 Y4→CE w h g s r er X0 Y0 tx ty R F n K t1 1520):=by
 refine ⟨fun {D0 X1 Y1 X2 Y2 D2 X3 Y3 X4 Y4} hD0 hD1 hD2 hD3=>bc 1463 (ce [x5,db,bj,1054734,yN,bj,1172355166,fa,fa,wc]) [u (fun A J O=>ay w.params h g (A 0) (A 1) 0 er (A 10) 0 X0 Y0 D0 X1 Y1 tx ty #[] #[97,195,169] #[255,226,130,172] #[120,121,122] (J 3) (J 4) (J 5) (J 6)) [0,1,10] [0],u (fun A J O=>aA w.params h g (A 0) (A 1) 0 er (A 23) 0 X1 Y1 2 X2 Y2 (J 7) (J 8) 65 8364 (-1) 300 1099511627776 (J 19) (J 20) (J 22) (J 23) (J 26)) [0,1,23] [0],u (fun A J O=>az w.params h g (A 0) (A 1) 0 er (A 24) 0 X2 Y2 D2 X3 Y3 (J 27) (J 28) Q0 Q4 Q2 Q3 (J 30) (J 31) (J 32) (J 33)) [0,1,24] [0],u (fun A J O=>ah w.params h g (A 0) (A 1) 0 er X3 Y3 1 X4 Y4 4 (J 34) (J 35) (J 37)) [0,1] [0]] [] [39,40] (be t1 hK X4 Y4 0 0 2) (aa (aD hD0) (aa (aB hD1) (aa (aC hD2) (aa (ao (top:=4) hD3 (by decide) (by decide)) ak)))) ?_,
 fun {D0 X1 Y1 X2 Y2 X3 Y3 X4 Y4} hD0 hD1 hD2 hD3=>bc 527 (ce [wW]) [u (fun A J O=>ay w.params h g (A 0) (A 1) 0 er (A 10) 0 X0 Y0 D0 X1 Y1 tx ty #[] #[97,195,169] #[255,226,130,172] #[120,121,122] (J 3) (J 4) (J 5) (J 6)) [0,1,10] [0],u (fun A J O=>aA w.params h g (A 0) (A 1) 0 er (A 23) 0 X1 Y1 3 X2 Y2 (J 7) (J 8) 65 8364 (-1) 300 1099511627776 (J 19) (J 20) (J 22) (J 23) (J 26)) [0,1,23] [0],u (fun A J O=>az w.params h g (A 0) (A 1) 0 er (A 24) 0 X2 Y2 0 X3 Y3 (J 27) (J 28) Q0 Q4 Q2 Q3 (J 30) (J 31) (J 32) (J 33)) [0,1,24] [0],u (fun A J O=>ah w.params h g (A 0) (A 1) 0 er X3 Y3 0 X4 Y4 4 (J 34) (J 35) (J 37)) [0,1] [0]] [] [39,40] (be t1 hK X4 Y4 0 0 2) (aa (aD hD0) (aa (aB hD1) (aa (aC hD2) (aa (ao (top:=4) hD3 (by decide) (by decide)) ak)))) ?_,
 fun {D0 X1 Y1 X2 Y2 X3 Y3 X4 Y4} hD0 hD1 hD2 hD3=>bc 506 (ce [pG]) [u (fun A J O=>ay w.params h g (A 0) (A 1) 0 er (A 10) 0 X0 Y0 D0 X1 Y1 tx ty #[] #[97,195,169] #[255,226,130,172] #[120,121,122] (J 3) (J 4) (J 5) (J 6)) [0,1,10] [0],u (fun A J O=>aA w.params h g (A 0) (A 1) 0 er (A 23) 0 X1 Y1 3 X2 Y2 (J 7) (J 8) 65 8364 (-1) 300 1099511627776 (J 19) (J 20) (J 22) (J 23) (J 26)) [0,1,23] [0],u (fun A J O=>az w.params h g (A 0) (A 1) 0 er (A 24) 0 X2 Y2 1 X3 Y3 (J 27) (J 28) Q0 Q4 Q2 Q3 (J 30) (J 31) (J 32) (J 33)) [0,1,24] [0],u (fun A J O=>ah w.params h g (A 0) (A 1) 0 er X3 Y3 0 X4 Y4 4 (J 34) (J 35) (J 37)) [0,1] [0]] [] [39,40] (be t1 hK X4 Y4 0 0 2) (aa (aD hD0) (aa (aB hD1) (aa (aC hD2) (aa (ao (top:=4) hD3 (by decide) (by decide)) ak)))) ?_,
 fun {D0 X1 Y1 X2 Y2 X3 Y3 X4 Y4} hD0 hD1 hD2 hD3=>bc 527 (ce [uP]) [u (fun A J O=>ay w.params h g (A 0) (A 1) 0 er (A 10) 0 X0 Y0 D0 X1 Y1 tx ty #[] #[97,195,169] #[255,226,130,172] #[120,121,122] (J 3) (J 4) (J 5) (J 6)) [0,1,10] [0],u (fun A J O=>aA w.params h g (A 0) (A 1) 0 er (A 23) 0 X1 Y1 3 X2 Y2 (J 7) (J 8) 65 8364 (-1) 300 1099511627776 (J 19) (J 20) (J 22) (J 23) (J 26)) [0,1,23] [0],u (fun A J O=>az w.params h g (A 0) (A 1) 0 er (A 24) 0 X2 Y2 2 X3 Y3 (J 27) (J 28) Q0 Q4 Q2 Q3 (J 30) (J 31) (J 32) (J 33)) [0,1,24] [0],u (fun A J O=>ah w.params h g (A 0) (A 1) 0 er X3 Y3 0 X4 Y4 4 (J 34) (J 35) (J 37)) [0,1] [0]] [] [39,40] (be t1 hK X4 Y4 0 0 2) (aa (aD hD0) (aa (aB hD1) (aa (aC hD2) (aa (ao (top:=4) hD3 (by decide) (by decide)) ak)))) ?_,
 fun {D0 X1 Y1 X2 Y2 X3 Y3 X4 Y4} hD0 hD1 hD2 hD3=>bc 506 (ce [pL]) [u (fun A J O=>ay w.params h g (A 0) (A 1) 0 er (A 10) 0 X0 Y0 D0 X1 Y1 tx ty #[] #[97,195,169] #[255,226,130,172] #[120,121,122] (J 3) (J 4) (J 5) (J 6)) [0,1,10] [0],u (fun A J O=>aA w.params h g (A 0) (A 1) 0 er (A 23) 0 X1 Y1 3 X2 Y2 (J 7) (J 8) 65 8364 (-1) 300 1099511627776 (J 19) (J 20) (J 22) (J 23) (J 26)) [0,1,23] [0],u (fun A J O=>az w.params h g (A 0) (A 1) 0 er (A 24) 0 X2 Y2 3 X3 Y3 (J 27) (J 28) Q0 Q4 Q2 Q3 (J 30) (J 31) (J 32) (J 33)) [0,1,24] [0],u (fun A J O=>ah w.params h g (A 0) (A 1) 0 er X3 Y3 0 X4 Y4 4 (J 34) (J 35) (J 37)) [0,1] [0]] [] [39,40] (be t1 hK X4 Y4 0 0 2) (aa (aD hD0) (aa (aB hD1) (aa (aC hD2) (aa (ao (top:=4) hD3 (by decide) (by decide)) ak)))) ?_,
 fun {D0 X1 Y1 X2 Y2 D2 X3 Y3 X4 Y4} hD0 hD1 hD2 hD3=>bc 1417 (ce [w0,fa,fa,Cj,BA,BL]) [u (fun A J O=>ay w.params h g (A 0) (A 1) 0 er (A 10) 0 X0 Y0 D0 X1 Y1 tx ty #[] #[97,195,169] #[255,226,130,172] #[120,121,122] (J 3) (J 4) (J 5) (J 6)) [0,1,10] [0],u (fun A J O=>aA w.params h g (A 0) (A 1) 0 er (A 23) 0 X1 Y1 3 X2 Y2 (J 7) (J 8) 65 8364 (-1) 300 1099511627776 (J 19) (J 20) (J 22) (J 23) (J 26)) [0,1,23] [0],u (fun A J O=>az w.params h g (A 0) (A 1) 0 er (A 24) 0 X2 Y2 D2 X3 Y3 (J 27) (J 28) Q0 Q4 Q2 Q3 (J 30) (J 31) (J 32) (J 33)) [0,1,24] [0],u (fun A J O=>ah w.params h g (A 0) (A 1) 0 er X3 Y3 1 X4 Y4 4 (J 34) (J 35) (J 37)) [0,1] [0]] [] [39,40] (be t1 hK X4 Y4 0 0 2) (aa (aD hD0) (aa (aB hD1) (aa (aC hD2) (aa (ao (top:=4) hD3 (by decide) (by decide)) ak)))) ?_,
 fun {D0 X1 Y1 X2 Y2 X3 Y3 X4 Y4} hD0 hD1 hD2 hD3=>bc 527 (ce [wW]) [u (fun A J O=>ay w.params h g (A 0) (A 1) 0 er (A 10) 0 X0 Y0 D0 X1 Y1 tx ty #[] #[97,195,169] #[255,226,130,172] #[120,121,122] (J 3) (J 4) (J 5) (J 6)) [0,1,10] [0],u (fun A J O=>aA w.params h g (A 0) (A 1) 0 er (A 23) 0 X1 Y1 4 X2 Y2 (J 7) (J 8) 65 8364 (-1) 300 1099511627776 (J 19) (J 20) (J 22) (J 23) (J 26)) [0,1,23] [0],u (fun A J O=>az w.params h g (A 0) (A 1) 0 er (A 24) 0 X2 Y2 0 X3 Y3 (J 27) (J 28) Q0 Q4 Q2 Q3 (J 30) (J 31) (J 32) (J 33)) [0,1,24] [0],u (fun A J O=>ah w.params h g (A 0) (A 1) 0 er X3 Y3 0 X4 Y4 4 (J 34) (J 35) (J 37)) [0,1] [0]] [] [39,40] (be t1 hK X4 Y4 0 0 2) (aa (aD hD0) (aa (aB hD1) (aa (aC hD2) (aa (ao (top:=4) hD3 (by decide) (by decide)) ak)))) ?_,
 fun {D0 X1 Y1 X2 Y2 X3 Y3 X4 Y4} hD0 hD1 hD2 hD3=>bc 506 (ce [pG]) [u (fun A J O=>ay w.params h g (A 0) (A 1) 0 er (A 10) 0 X0 Y0 D0 X1 Y1 tx ty #[] #[97,195,169] #[255,226,130,172] #[120,121,122] (J 3) (J 4) (J 5) (J 6)) [0,1,10] [0],u (fun A J O=>aA w.params h g (A 0) (A 1) 0 er (A 23) 0 X1 Y1 4 X2 Y2 (J 7) (J 8) 65 8364 (-1) 300 1099511627776 (J 19) (J 20) (J 22) (J 23) (J 26)) [0,1,23] [0],u (fun A J O=>az w.params h g (A 0) (A 1) 0 er (A 24) 0 X2 Y2 1 X3 Y3 (J 27) (J 28) Q0 Q4 Q2 Q3 (J 30) (J 31) (J 32) (J 33)) [0,1,24] [0],u (fun A J O=>ah w.params h g (A 0) (A 1) 0 er X3 Y3 0 X4 Y4 4 (J 34) (J 35) (J 37)) [0,1] [0]] [] [39,40] (be t1 hK X4 Y4 0 0 2) (aa (aD hD0) (aa (aB hD1) (aa (aC hD2) (aa (ao (top:=4) hD3 (by decide) (by decide)) ak)))) ?_,
 fun {D0 X1 Y1 X2 Y2 X3 Y3 X4 Y4} hD0 hD1 hD2 hD3=>bc 527 (ce [uP]) [u (fun A J O=>ay w.params h g (A 0) (A 1) 0 er (A 10) 0 X0 Y0 D0 X1 Y1 tx ty #[] #[97,195,169] #[255,226,130,172] #[120,121,122] (J 3) (J 4) (J 5) (J 6)) [0,1,10] [0],u (fun A J O=>aA w.params h g (A 0) (A 1) 0 er (A 23) 0 X1 Y1 4 X2 Y2 (J 7) (J 8) 65 8364 (-1) 300 1099511627776 (J 19) (J 20) (J 22) (J 23) (J 26)) [0,1,23] [0],u (fun A J O=>az w.params h g (A 0) (A 1) 0 er (A 24) 0 X2 Y2 2 X3 Y3 (J 27) (J 28) Q0 Q4 Q2 Q3 (J 30) (J 31) (J 32) (J 33)) [0,1,24] [0],u (fun A J O=>ah w.params h g (A 0) (A 1) 0 er X3 Y3 0 X4 Y4 4 (J 34) (J 35) (J 37)) [0,1] [0]] [] [39,40] (be t1 hK X4 Y4 0 0 2) (aa (aD hD0) (aa (aB hD1) (aa (aC hD2) (aa (ao (top:=4) hD3 (by decide) (by decide)) ak)))) ?_,
 fun {D0 X1 Y1 X2 Y2 X3 Y3 X4 Y4} hD0 hD1 hD2 hD3=>bc 506 (ce [pL]) [u (fun A J O=>ay w.params h g (A 0) (A 1) 0 er (A 10) 0 X0 Y0 D0 X1 Y1 tx ty #[] #[97,195,169] #[255,226,130,172] #[120,121,122] (J 3) (J 4) (J 5) (J 6)) [0,1,10] [0],u (fun A J O=>aA w.params h g (A 0) (A 1) 0 er (A 23) 0 X1 Y1 4 X2 Y2 (J 7) (J 8) 65 8364 (-1) 300 1099511627776 (J 19) (J 20) (J 22) (J 23) (J 26)) [0,1,23] [0],u (fun A J O=>az w.params h g (A 0) (A 1) 0 er (A 24) 0 X2 Y2 3 X3 Y3 (J 27) (J 28) Q0 Q4 Q2 Q3 (J 30) (J 31) (J 32) (J 33)) [0,1,24] [0],u (fun A J O=>ah w.params h g (A 0) (A 1) 0 er X3 Y3 0 X4 Y4 4 (J 34) (J 35) (J 37)) [0,1] [0]] [] [39,40] (be t1 hK X4 Y4 0 0 2) (aa (aD hD0) (aa (aB hD1) (aa (aC hD2) (aa (ao (top:=4) hD3 (by decide) (by decide)) ak)))) ?_,
 fun {D0 X1 Y1 X2 Y2 D2 X3 Y3 X4 Y4} hD0 hD1 hD2 hD3=>bc 1476 (ce [x5,db,ax,bj,1054734,yN,ij,1172355166,fa,fa,wc]) [u (fun A J O=>ay w.params h g (A 0) (A 1) 0 er (A 10) 0 X0 Y0 D0 X1 Y1 tx ty #[] #[97,195,169] #[255,226,130,172] #[120,121,122] (J 3) (J 4) (J 5) (J 6)) [0,1,10] [0],u (fun A J O=>aA w.params h g (A 0) (A 1) 0 er (A 23) 0 X1 Y1 4 X2 Y2 (J 7) (J 8) 65 8364 (-1) 300 1099511627776 (J 19) (J 20) (J 22) (J 23) (J 26)) [0,1,23] [0],u (fun A J O=>az w.params h g (A 0) (A 1) 0 er (A 24) 0 X2 Y2 D2 X3 Y3 (J 27) (J 28) Q0 Q4 Q2 Q3 (J 30) (J 31) (J 32) (J 33)) [0,1,24] [0],u (fun A J O=>ah w.params h g (A 0) (A 1) 0 er X3 Y3 1 X4 Y4 4 (J 34) (J 35) (J 37)) [0,1] [0]] [] [39,40] (be t1 hK X4 Y4 0 0 2) (aa (aD hD0) (aa (aB hD1) (aa (aC hD2) (aa (ao (top:=4) hD3 (by decide) (by decide)) ak)))) ?_⟩ <;> intro cb ν τ υ π ς ρ own past κ bl p <;> kernel_rfl
theorem pr {w h g s r er X0 Y0 tx ty R F n K t1} (hK:ag K=n) (hn:n≤900):(∀ {X1 Y1 D1 X2 Y2 D2 X3 Y3 X4 Y4:Nat},a0 X0 Y0 4 0 X1 Y1→a0 X1 Y1 5 D1 X2 Y2→a0 X2 Y2 4 D2 X3 Y3→a0 X3 Y3 4 2 X4 Y4→CE w h g s r er X0 Y0 tx ty R F n K t1 1520) ∧
 (∀ {X1 Y1 D1 X2 Y2 D2 X3 Y3 X4 Y4:Nat},a0 X0 Y0 4 0 X1 Y1→a0 X1 Y1 5 D1 X2 Y2→a0 X2 Y2 4 D2 X3 Y3→a0 X3 Y3 4 3 X4 Y4→CE w h g s r er X0 Y0 tx ty R F n K t1 1520) ∧
 (∀ {X1 Y1 D1 X2 Y2 D2 X3 Y3 X4 Y4:Nat},a0 X0 Y0 4 1 X1 Y1→a0 X1 Y1 5 D1 X2 Y2→a0 X2 Y2 4 D2 X3 Y3→a0 X3 Y3 4 2 X4 Y4→CE w h g s r er X0 Y0 tx ty R F n K t1 1520):=by
 refine ⟨fun {X1 Y1 D1 X2 Y2 D2 X3 Y3 X4 Y4} hD0 hD1 hD2 hD3=>bc 2336 (ce [zz,xk,zG,sM,0x4120744100856004840f0840040e2188a,jH,1249982427276,y0,1222787214,jA,1121350,tz,ai,zW,1174,eH,0x11309a0049a26800268002689a,og,0x44c268012689a,og,0x12584b2604a258002784c268012689a,bb,1202328,ai,C7,br,1184,mY,1172,ew,1212576,e7,kO,1273457885346,aZ,1186,mY,0x1288480043000094,bF,1186,mY,0x1288100043700094,bF,1186,mY,1048724,hJ,1245876388,aj,0x400298a6000a4,lp,1188,pp,1188,pp,1188,pp,0x4002a852298a4,kO,1243693218,aZ,1186,mY,1214612,bb,1243777186,ai,xt,0x4ac000552b000,dg,1196,dg,1196,kb,1196,dg,1196,iG,bj,1196,br,1196,bB,1284284526592,bF,1196,uo,1081520,dd,1137679,av,1196,av,1286525335726,q8,0x4b2000ae2b8b2,qd,0x4b42e0582c8ae,lM,1174,av,0x12e8ba2e8002e8002e8ba,aj,0x117cc03000212c5f1785d0143f2f0ba2e8ba000ba,tV,1273170110,dN,1074888798]) [u (fun A J O=>ay w.params h g (A 0) (A 1) 0 er (A 10) 0 X0 Y0 0 X1 Y1 tx ty #[] #[97,195,169] #[255,226,130,172] #[120,121,122] (J 3) (J 4) (J 5) (J 6)) [0,1,10] [0],u (fun A J O=>aA w.params h g (A 0) (A 1) 0 er (A 23) 0 X1 Y1 D1 X2 Y2 (J 7) (J 8) 65 8364 (-1) 300 1099511627776 (J 19) (J 20) (J 22) (J 23) (J 26)) [0,1,23] [0],u (fun A J O=>az w.params h g (A 0) (A 1) 0 er (A 24) 0 X2 Y2 D2 X3 Y3 (J 27) (J 28) Q0 Q4 Q2 Q3 (J 30) (J 31) (J 32) (J 33)) [0,1,24] [0],u (fun A J O=>ah w.params h g (A 0) (A 1) 0 er X3 Y3 2 X4 Y4 4 (J 34) (J 35) (J 37)) [0,1] [0],u (fun A J O=>aK w.params h g n K t1 (A 52) Qb (J 95)) [4,5] [4,5],u (fun A J O=>kF w.params h g 0 (A 52) n K (J 96) (J 96) (A 56) (A 57) (J 97) (J 98) (J 99) (J 95) 2089 (J 93) (J 96) (J 100) (J 102) (J 104) (A 58)) [52,58,4,5,56,57] []] [56] [39,40,96] (be t1 hK X4 Y4 0 1 2) (aa (aD hD0) (aa (aB hD1) (aa (aC hD2) (aa (ao (top:=4) hD3 (by decide) (by decide)) (aa (ba.2.1 hK (by omega)) (aa lw.1 ak)))))) ?_,
 fun {X1 Y1 D1 X2 Y2 D2 X3 Y3 X4 Y4} hD0 hD1 hD2 hD3=>bc 2457 (ce [tZ,gR,1104153660,lu,0x1100440743c0f03c,An,rT,0x11f87e1f8001f8001f87e,aj,0x10008200082000822088210484210020a4411003f014402007e1f87e0007e,oc,0x47c0007c0007c1f07c,av,BQ,1143999624,o8,0x492248922487c0007c0007c1f07c0481e11002158012283e228010388c24088,u9,1229084820,jA,1124425,rd,0x1270001349c0004d270001349c,eH,0x1004a02800028000280a0,tw,1025,tw,0x12704e2784d270002904f28001,bb,1208478,wu,1218560,br,1190,oO,ew,1218726,e7,gg,gg,gg,1192,aZ,vY,1279978898480,bF,vY,1279919129655,bF,vY,hJ,1252173994,aj,1254097066,jO,uL,jO,uL,jO,uL,jO,uL,1048752,gg,gg,1249987752,aZ,1192,oO,1192,bb,1250074792,ai,1138866,jI,jI,jI,1230848,dg,1202,dg,1202,dk,ax,1202,dg,1202,dk,bj,1202,br,1202,fh,iP,bF,1202,uO,1206,qp,1114,eY,1202,ai,0x12d0b42e00016cb8,aj,0x45c00cba000b4,qV,0x4be3085c2e8b4,ae,1140314009788,cR,1180,av,1073942724,oV,1220,aj,oV,0x1190ca328021386418c620143f318c4,uV,0x1340d4194cc0f8cc33000330003306500ccc,ae,1259726,ae,1314484592641,dN,1073850467]) [u (fun A J O=>ay w.params h g (A 0) (A 1) 0 er (A 10) 0 X0 Y0 0 X1 Y1 tx ty #[] #[97,195,169] #[255,226,130,172] #[120,121,122] (J 3) (J 4) (J 5) (J 6)) [0,1,10] [0],u (fun A J O=>aA w.params h g (A 0) (A 1) 0 er (A 23) 0 X1 Y1 D1 X2 Y2 (J 7) (J 8) 65 8364 (-1) 300 1099511627776 (J 19) (J 20) (J 22) (J 23) (J 26)) [0,1,23] [0],u (fun A J O=>az w.params h g (A 0) (A 1) 0 er (A 24) 0 X2 Y2 D2 X3 Y3 (J 27) (J 28) Q0 Q4 Q2 Q3 (J 30) (J 31) (J 32) (J 33)) [0,1,24] [0],u (fun A J O=>ah w.params h g (A 0) (A 1) 0 er X3 Y3 3 X4 Y4 4 (J 34) (J 35) (J 37)) [0,1] [0],u (fun A J O=>aK w.params h g n K t1 (A 54) Qb (J 103)) [4,5] [4,5],u (fun A J O=>kF w.params h g 0 (A 54) n K (J 104) (J 104) (A 59) (A 60) (J 105) (J 106) (J 107) (J 103) 2089 (J 101) (J 104) (J 108) (J 110) (J 112) (A 61)) [54,61,4,5,59,60] []] [59] [39,40,104] (be t1 hK X4 Y4 0 1 2) (aa (aD hD0) (aa (aB hD1) (aa (aC hD2) (aa (ao (top:=4) hD3 (by decide) (by decide)) (aa (ba.2.1 hK (by omega)) (aa lw.1 ak)))))) ?_,
 fun {X1 Y1 D1 X2 Y2 D2 X3 Y3 X4 Y4} hD0 hD1 hD2 hD3=>bc 2679 (ce [DX]) [u (fun A J O=>ay w.params h g (A 0) (A 1) 0 er (A 10) 0 X0 Y0 1 X1 Y1 tx ty #[] #[97,195,169] #[255,226,130,172] #[120,121,122] (J 3) (J 4) (J 5) (J 6)) [0,1,10] [0],u (fun A J O=>aA w.params h g (A 0) (A 1) 0 er (A 23) 0 X1 Y1 D1 X2 Y2 (J 7) (J 8) 65 8364 (-1) 300 1099511627776 (J 19) (J 20) (J 22) (J 23) (J 26)) [0,1,23] [0],u (fun A J O=>az w.params h g (A 0) (A 1) 0 er (A 24) 0 X2 Y2 D2 X3 Y3 (J 27) (J 28) Q0 Q4 Q2 Q3 (J 30) (J 31) (J 32) (J 33)) [0,1,24] [0],u (fun A J O=>ah w.params h g (A 0) (A 1) 0 er X3 Y3 2 X4 Y4 4 (J 34) (J 35) (J 37)) [0,1] [0],u (fun A J O=>aK w.params h g n K t1 (A 52) Qb (J 101)) [4,5] [4,5],u (fun A J O=>cf w.params h g 3 97 (J 95) 195 (J 96) 169 (J 97) (A 52) n K (J 102) (J 102) (A 56) (A 57) (J 103) (J 104) (J 105) (J 101) 2089 (J 102) (J 119) (A 67) (A 68)) [52,67,68,4,5,56,57] [],u (fun A J O=>cj w.params h g 3 97 (J 95) 195 (J 96) 169 (J 97) (A 52) n K (J 102) (J 102) (A 56) (A 57) (J 103) (J 104) (J 105) (J 101) 2089 (J 102) (J 122) (A 69) (A 70)) [52,69,70,4,5,56,57] [],u (fun A J O=>ck w.params h g 3 97 (J 95) 195 (J 96) 169 (J 97) (A 52) n K (J 102) (J 102) (A 56) (A 57) (J 103) (J 104) (J 105) (J 101) 2089 (J 102) (J 125) (A 71) (A 72)) [52,71,72,4,5,56,57] [],u (fun A J O=>g9 w.params h g 3 97 (J 95) 195 (J 96) 169 (J 97) (A 52) n K (J 102) (J 102) (A 56) (A 57) (J 103) (J 104) (J 105) (J 101) 2089 (J 99) (J 102) (J 106) (J 108) (J 110) (A 58)) [52,58,4,5,56,57] []] [56] [39,40,102] (be t1 hK X4 Y4 0 1 2) (aa (aD hD0) (aa (aB hD1) (aa (aC hD2) (aa (ao (top:=4) hD3 (by decide) (by decide)) (aa (ba.2.1 hK (by omega)) (aa (dA.2.2.1 hK (by omega)) (aa (dA.2.2.2.1 hK (by omega)) (aa (dA.2.2.2.2.1 hK (by omega)) (aa (lw.2.2.1 hK (by omega)) ak))))))))) ?_⟩ <;> intro cb ν τ υ π ς ρ own past κ bl p <;> kernel_rfl
theorem vC {w h g s r er X0 Y0 tx ty R F n K t1} (hK:ag K=n) (hn:n≤900):(∀ {X1 Y1 D1 X2 Y2 D2 X3 Y3 X4 Y4:Nat},a0 X0 Y0 4 1 X1 Y1→a0 X1 Y1 5 D1 X2 Y2→a0 X2 Y2 4 D2 X3 Y3→a0 X3 Y3 4 3 X4 Y4→CE w h g s r er X0 Y0 tx ty R F n K t1 1520) ∧
 (∀ {X1 Y1 D1 X2 Y2 D2 X3 Y3 X4 Y4:Nat},a0 X0 Y0 4 2 X1 Y1→a0 X1 Y1 5 D1 X2 Y2→a0 X2 Y2 4 D2 X3 Y3→a0 X3 Y3 4 2 X4 Y4→CE w h g s r er X0 Y0 tx ty R F n K t1 1520):=by
 refine ⟨fun {X1 Y1 D1 X2 Y2 D2 X3 Y3 X4 Y4} hD0 hD1 hD2 hD3=>bc 4231 (ce [tZ,cQ,xL,wE,DP,bj,1154,ai,1115268,km,BQ,1048712,o8,0x4432204322088,j2,1183744,iz,bj,1247688140938,wb,wb,wb,0x48e1108a0008a22800,j2,j2,j2,1183876,ax,1156,ax,1156,ae,1183876,ae,1156,Cz,pB,1048722,pB,1174,lI,iF,1154,ax,1181826,av,1154,av,c5,1154,c6,1073897624,pM,1176,aj,pM,1176,og,0x44c2684c2689a2689a0009a,iF,1210189954,b7,1210122370,ez,1154,ae,1154,b7,1073807490,og,0x482208002789a2689a,bj,1154,ai,1271310400672,ij,1184,ax,1181826,ae,1243777186,aj,0x1144a4288a42900029000290a4000a2,kj,0x451290a2290a4,kj,0x4002a051290a2290a4,ol,rT,0x12c0b02c0002c0002c0b0,aj,0x1000b4000b4000b42d0b4168b62d8020a45a16458014402c8b02c0b0000b0,oc,0x4ae000ae000ae2b8ae,av,0x12e0b82e0002e0002e0b8,aj,0x1170032e8b82e0b8000b8,qV,B5,B5,0x41e17442158012f03e2f0010385e2f8be328ba,ae,0x1330cc330cc2b8002b8002b8ae2b812,u9,1289961678,jA,1154150,rd,0x1358001a8d60006a358001a8d6,eH,zU,CD,CD,0x13586b3606a358003786c36801,bb,1267928,ai,0x1380001bce00006f380001bce0,br,1296257248,n7,1236,ew,1278176,e7,ik,ik,ik,1250,aZ,xE,1342286332976,bF,xE,1342196155447,bF,xE,hJ,1313050852,aj,0x400398e6000e4,sH,1048806,sH,1048806,sH,1048806,sH,1048810,ik,ik,1310834914,aZ,1296257250,n7,1280212,bb,1310951650,ai,0x4ec000753b0001d4ec000753b0001d4ec,dg,1260,dg,1260,dk,ax,1260,dg,1260,dk,bj,1260,br,1260,bB,1353037623296,bF,1260,uO,1264,qp,0x4ec0000100077,ai,0x13b8ee3c8001e0f2,aj,0x47900cf4000ee,vV,Bg,D3,aw,vZ,Bg,Ae,ax,1292,bj,1184010,ae,1290,iz,0x144110440004400044110,aj,0x14590c2291600088448884491244912001120011222003449104411000110,j7,0x48a459162110a0011a44912448004480044800450894500045000,aw,1290,gL,1352937472,c6,0x14511c4500047000471144710a,av,0x51e4791e4791e4791e,aj,0x10011e479200011e,yJ,1099815862562,yJ,1099815862562,yJ,1345830,aw,vZ,0x47b3e0f84a8793d0ee,ae,0x1098003d8f63d8f63d8f6,cR,1238,av,1074049324,ow,1324,aj,ow,0x1261324c8021ac9825c960143f4b92c,uV,0x14d0004d0004d09900d34,Dz,Dz,0x126d384e13c265340f934,ae,1366326,ae,1426262900737,dN,1073903767]) [u (fun A J O=>ay w.params h g (A 0) (A 1) 0 er (A 10) 0 X0 Y0 1 X1 Y1 tx ty #[] #[97,195,169] #[255,226,130,172] #[120,121,122] (J 3) (J 4) (J 5) (J 6)) [0,1,10] [0],u (fun A J O=>aA w.params h g (A 0) (A 1) 0 er (A 23) 0 X1 Y1 D1 X2 Y2 (J 7) (J 8) 65 8364 (-1) 300 1099511627776 (J 19) (J 20) (J 22) (J 23) (J 26)) [0,1,23] [0],u (fun A J O=>az w.params h g (A 0) (A 1) 0 er (A 24) 0 X2 Y2 D2 X3 Y3 (J 27) (J 28) Q0 Q4 Q2 Q3 (J 30) (J 31) (J 32) (J 33)) [0,1,24] [0],u (fun A J O=>ah w.params h g (A 0) (A 1) 0 er X3 Y3 3 X4 Y4 4 (J 34) (J 35) (J 37)) [0,1] [0],u (fun A J O=>aK w.params h g n K t1 (A 54) Qb (J 175)) [4,5] [4,5],u (fun A J O=>dH w.params h g 2 97 (J 111) 233 (J 160) (A 54) n K (J 176) (J 176) (A 84) (A 85) (J 177) (J 178) (J 179) (J 175) 2089 (J 176) (J 193) (A 95) (A 96)) [54,95,96,4,5,84,85] [],u (fun A J O=>dQ w.params h g 2 97 (J 111) 233 (J 160) (A 54) n K (J 176) (J 176) (A 84) (A 85) (J 177) (J 178) (J 179) (J 175) 2089 (J 176) (J 196) (A 97) (A 98)) [54,97,98,4,5,84,85] [],u (fun A J O=>lE w.params h g 2 97 (J 111) 233 (J 160) (A 54) n K (J 176) (J 176) (A 84) (A 85) (J 177) (J 178) (J 179) (J 175) 2089 (J 173) (J 176) (J 180) (J 182) (J 184) (A 86)) [54,86,4,5,84,85] []] [84] [39,40,176] (be t1 hK X4 Y4 0 1 2) (aa (aD hD0) (aa (aB hD1) (aa (aC hD2) (aa (ao (top:=4) hD3 (by decide) (by decide)) (aa (ba.2.1 hK (by omega)) (aa (dA.1 hK (by omega)) (aa (dA.2.1 hK (by omega)) (aa (lw.2.1 hK (by omega)) ak)))))))) ?_,
 fun {X1 Y1 D1 X2 Y2 D2 X3 Y3 X4 Y4} hD0 hD1 hD2 hD3=>bc 2792 (ce [zz,lo,lo,lo,lo,xk,lD,lD,lD,lD,zG,kQ,kQ,kQ,kQ,sM,0x10744120856004840f0840040e108862189a,av,1042,jH,1267179090076,y0,1239580830,jA,1129550,tz,wu,1218560,eH,1073916074,kN,0x4002a8542a801,kN,0x4002a8542a801,kN,1286430959617,gv,1247890600,bb,1218728,ai,lK,1288490278064,br,1245876400,kj,1188,ew,1228976,e7,1138866,jI,jI,1230848,aZ,1202,we,1290721559600,bF,1202,we,1290654450743,bF,1202,we,hJ,1262670004,aj,0x4002d8b6000b4,wZ,wZ,wZ,0x4582c8002e85a2d8b42d8b6000b6,jI,1024,iP,aZ,1245876402,kj,1231012,bb,1260570802,ai,0x4bc0005d2f000174bc0005d2f000174bc,dg,1212,dg,1212,kb,1212,dg,1212,iG,bj,1212,br,1212,fh,1270969532,bF,1212,uo,1081536,dd,1145871,av,1212,av,0x4be2f8be2f8be2f8be,aj,0x1000be2f8c2000be,sD,sD,sD,sD,uU,0x1310c8180c22f8c2,lM,1190,av,td,1226,aj,0x119cd03400214c67198650143f330ca328ca000ca,tV,1289963726,dN,1074896998]) [u (fun A J O=>ay w.params h g (A 0) (A 1) 0 er (A 10) 0 X0 Y0 2 X1 Y1 tx ty #[] #[97,195,169] #[255,226,130,172] #[120,121,122] (J 3) (J 4) (J 5) (J 6)) [0,1,10] [0],u (fun A J O=>aA w.params h g (A 0) (A 1) 0 er (A 23) 0 X1 Y1 D1 X2 Y2 (J 7) (J 8) 65 8364 (-1) 300 1099511627776 (J 19) (J 20) (J 22) (J 23) (J 26)) [0,1,23] [0],u (fun A J O=>az w.params h g (A 0) (A 1) 0 er (A 24) 0 X2 Y2 D2 X3 Y3 (J 27) (J 28) Q0 Q4 Q2 Q3 (J 30) (J 31) (J 32) (J 33)) [0,1,24] [0],u (fun A J O=>ah w.params h g (A 0) (A 1) 0 er X3 Y3 2 X4 Y4 4 (J 34) (J 35) (J 37)) [0,1] [0],u (fun A J O=>aK w.params h g n K t1 (A 52) Qb (J 103)) [4,5] [4,5],u (fun A J O=>fR w.params h g 4 255 (J 96) 226 (J 97) 130 (J 98) 172 (J 99) (A 52) n K (J 104) (J 104) (A 56) (A 57) (J 105) (J 106) (J 107) (J 103) 2089 (J 104) (J 121) (A 67) (A 68)) [52,67,68,4,5,56,57] [],u (fun A J O=>fX w.params h g 4 255 (J 96) 226 (J 97) 130 (J 98) 172 (J 99) (A 52) n K (J 104) (J 104) (A 56) (A 57) (J 105) (J 106) (J 107) (J 103) 2089 (J 104) (J 124) (A 69) (A 70)) [52,69,70,4,5,56,57] [],u (fun A J O=>gh w.params h g 4 255 (J 96) 226 (J 97) 130 (J 98) 172 (J 99) (A 52) n K (J 104) (J 104) (A 56) (A 57) (J 105) (J 106) (J 107) (J 103) 2089 (J 104) (J 127) (A 71) (A 72)) [52,71,72,4,5,56,57] [],u (fun A J O=>fU w.params h g 4 255 (J 96) 226 (J 97) 130 (J 98) 172 (J 99) (A 52) n K (J 104) (J 104) (A 56) (A 57) (J 105) (J 106) (J 107) (J 103) 2089 (J 104) (J 130) (A 73) (A 74)) [52,73,74,4,5,56,57] [],u (fun A J O=>oM w.params h g 4 255 (J 96) 226 (J 97) 130 (J 98) 172 (J 99) (A 52) n K (J 104) (J 104) (A 56) (A 57) (J 105) (J 106) (J 107) (J 103) 2089 (J 101) (J 104) (J 108) (J 110) (J 112) (A 58)) [52,58,4,5,56,57] []] [56] [39,40,104] (be t1 hK X4 Y4 0 1 2) (aa (aD hD0) (aa (aB hD1) (aa (aC hD2) (aa (ao (top:=4) hD3 (by decide) (by decide)) (aa (ba.2.1 hK (by omega)) (aa (dA.2.2.2.2.2.1 hK (by omega)) (aa (dA.2.2.2.2.2.2.1 hK (by omega)) (aa (dA.2.2.2.2.2.2.2.1 hK (by omega)) (aa (dA.2.2.2.2.2.2.2.2 hK (by omega)) (aa (lw.2.2.2.1 hK (by omega)) ak)))))))))) ?_⟩ <;> intro cb ν τ υ π ς ρ own past κ bl p <;> kernel_rfl
theorem vB {w h g s r er X0 Y0 tx ty R F n K t1} (hK:ag K=n) (hn:n≤900):(∀ {X1 Y1 D1 X2 Y2 D2 X3 Y3 X4 Y4:Nat},a0 X0 Y0 4 2 X1 Y1→a0 X1 Y1 5 D1 X2 Y2→a0 X2 Y2 4 D2 X3 Y3→a0 X3 Y3 4 3 X4 Y4→CE w h g s r er X0 Y0 tx ty R F n K t1 1520) ∧
 (∀ {X1 Y1 D1 X2 Y2 D2 X3 Y3 X4 Y4:Nat},a0 X0 Y0 4 3 X1 Y1→a0 X1 Y1 5 D1 X2 Y2→a0 X2 Y2 4 D2 X3 Y3→a0 X3 Y3 4 2 X4 Y4→CE w h g s r er X0 Y0 tx ty R F n K t1 1520):=by
 refine ⟨fun {X1 Y1 D1 X2 Y2 D2 X3 Y3 X4 Y4} hD0 hD1 hD2 hD3=>bc 5406 (ce [tZ,ke,ax,xL,wE,bj,1144,ai,1110138,km,xV,1148,aj,0x4001f8001f8001f87c1f07c0007c,zL,1179776,iq,fD,1152,iq,fD,1152,iq,fD,1152,iq,fD,1048708,xq,zL,1073879174,zv,zv,zv,mZ,ic,1048714,xq,zL,0x400230002308c,zk,zk,zk,0x40024045230002308c,xq,1258557667454,ae,1231181974,aj,1048726,AM,pI,1048728,pI,1180,gG,gG,gG,1144,bj,1239578782,aj,0x1278a02800028000280a00009e,tw,1182,tw,0x4002904f2809e,ol,rU,1132710,gv,1247975424,aw,1247889574,bj,1190,ai,1133736,km,1073916074,kN,1194,aj,kN,1194,jO,1284195397632,Co,1073920174,rL,1048750,rL,1048750,rL,1048750,rL,1202,Ah,bj,jO,1224704,Co,0x1000b42d0002d0002d0b4,pV,1024,pV,1024,pV,1297173630976,Ah,ax,1192,ae,1220776,ae,1299422832808,aj,0x4002f0bc000ba,j9,1239228,pC,1210,pC,1210,pC,1305767768250,l4,gv,1190,ax,1218726,av,1190,av,c5,1190,c6,1218,uU,1247426,aj,0x4c2308c2000c2,iW,oV,AL,AL,0x4a629800320c4,bj,1190,ai,1316407578826,ij,1226,ax,1218726,ae,1287860428,aj,1289748684,yM,yM,yM,1048786,ol,rT,zU,1242,aj,0x1000de000de000de378de1bce0380020a46f1b86d01440370da368da000da,oc,xJ,av,0x1388e23880038800388e2,aj,0x1390e4000e4000e41c403390e2388e2000e2,Bw,Bw,0x41e1c842158013983e39801038733a0e83d0e4,ae,1042,xJ,1363910318326,u9,1334044920,jA,1175675,rd,0x1400001fd000007f400001fd00,eH,1284,xu,xu,xu,0x500201021fd0000108,bb,1310978,ai,0x1428002110a00084428002110a,br,1340340490,re,1278,ew,1321226,e7,0x1430002150c00085430002150c,aZ,xA,1387405509680,bF,xA,1387293312055,bF,xA,hJ,1357134094,aj,0x400441100010e,wi,wi,wi,0x143085430002150c0008543000450874410e4411000110,aZ,1340340492,re,1323262,bb,1355034892,ai,0x5160008a45800229160008a4580022916,dg,1302,dg,1302,dk,ax,1302,dg,1302,dk,bj,1302,br,1302,fh,1365387542,bF,1302,uO,1306,qp,1164,eY,1302,ai,0x146118470002351c,aj,0x48e00d1e00118,DR,1198374,ae,1318,ai,1417339358504,ij,1320,ax,ai,1318,ax,1318,ax,1318,bj,1197348,ae,1316,iz,0x14a92a4a8004a8004a92a,aj,0x1254034b12a4a92a0012a,BP,BP,1048876,ow,0x125d304c091490004d12c,aw,1316,gL,1380227072,c6,0x14b9364b8004d8004d92e4d924,av,0x5384e1384e1384e138,aj,0x5384e13a00138,ut,1405252924,ut,1405252924,ut,1405252924,ut,1372480,aw,0x10012023d2000120,DR,1213764,ae,1348,ai,1449551628614,ij,1350,ax,1348,ax,1348,ax,1348,bj,1212738,ae,1346,iz,0x152148520005200052148,aj,0x54a0014a0014a29003529485214800148,Ay,Ay,0x4a65394e28142001525294a,aw,1346,gL,1411715072,c6,0x15315453000550005514c55142,av,0x556559565595655956,aj,0x5565595800156,tW,1436725594,tW,1436725594,tW,1436725594,tW,1403230,aw,0x490489225888e479184791e0011e0011e0012023d2000120,ae,0x109800481204812048120,cR,1280,av,0x159164590005900059164,aj,0x12d16a5a802200b42ccb20143f599645916400164,uV,0x12d56c0f96c5b0005b0005b0b500d6c,BR,BR,1296392634740,ae,1423726,ae,1486451220481,dN,1073932467]) [u (fun A J O=>ay w.params h g (A 0) (A 1) 0 er (A 10) 0 X0 Y0 2 X1 Y1 tx ty #[] #[97,195,169] #[255,226,130,172] #[120,121,122] (J 3) (J 4) (J 5) (J 6)) [0,1,10] [0],u (fun A J O=>aA w.params h g (A 0) (A 1) 0 er (A 23) 0 X1 Y1 D1 X2 Y2 (J 7) (J 8) 65 8364 (-1) 300 1099511627776 (J 19) (J 20) (J 22) (J 23) (J 26)) [0,1,23] [0],u (fun A J O=>az w.params h g (A 0) (A 1) 0 er (A 24) 0 X2 Y2 D2 X3 Y3 (J 27) (J 28) Q0 Q4 Q2 Q3 (J 30) (J 31) (J 32) (J 33)) [0,1,24] [0],u (fun A J O=>ah w.params h g (A 0) (A 1) 0 er X3 Y3 3 X4 Y4 4 (J 34) (J 35) (J 37)) [0,1] [0],u (fun A J O=>EB w.params h g (bk 0 [(J 3),(J 4),(J 5),(J 6)] 2) (J 48) (J 49) (J 50)) [] [],u (fun A J O=>aK w.params h g n K t1 (A 54) Qb (J 218)) [4,5] [4,5],u (fun A J O=>dH w.params h g 2 65533 1129 8364 (J 203) (A 54) n K (J 219) (J 219) (A 105) (A 106) (J 220) (J 221) (J 222) (J 218) 2089 (J 219) (J 236) (A 116) (A 117)) [54,116,117,4,5,105,106] [],u (fun A J O=>dQ w.params h g 2 65533 1129 8364 (J 203) (A 54) n K (J 219) (J 219) (A 105) (A 106) (J 220) (J 221) (J 222) (J 218) 2089 (J 219) (J 239) (A 118) (A 119)) [54,118,119,4,5,105,106] [],u (fun A J O=>lE w.params h g 2 65533 1129 8364 (J 203) (A 54) n K (J 219) (J 219) (A 105) (A 106) (J 220) (J 221) (J 222) (J 218) 2089 (J 216) (J 219) (J 223) (J 225) (J 227) (A 107)) [54,107,4,5,105,106] []] [105] [39,40,219] (be t1 hK X4 Y4 0 1 2) (aa (aD hD0) (aa (aB hD1) (aa (aC hD2) (aa (ao (top:=4) hD3 (by decide) (by decide)) (aa Gl (aa (ba.2.1 hK (by omega)) (aa (dA.1 hK (by omega)) (aa (dA.2.1 hK (by omega)) (aa (lw.2.1 hK (by omega)) ak))))))))) ?_,
 fun {X1 Y1 D1 X2 Y2 D2 X3 Y3 X4 Y4} hD0 hD1 hD2 hD3=>bc 2679 (ce [DX]) [u (fun A J O=>ay w.params h g (A 0) (A 1) 0 er (A 10) 0 X0 Y0 3 X1 Y1 tx ty #[] #[97,195,169] #[255,226,130,172] #[120,121,122] (J 3) (J 4) (J 5) (J 6)) [0,1,10] [0],u (fun A J O=>aA w.params h g (A 0) (A 1) 0 er (A 23) 0 X1 Y1 D1 X2 Y2 (J 7) (J 8) 65 8364 (-1) 300 1099511627776 (J 19) (J 20) (J 22) (J 23) (J 26)) [0,1,23] [0],u (fun A J O=>az w.params h g (A 0) (A 1) 0 er (A 24) 0 X2 Y2 D2 X3 Y3 (J 27) (J 28) Q0 Q4 Q2 Q3 (J 30) (J 31) (J 32) (J 33)) [0,1,24] [0],u (fun A J O=>ah w.params h g (A 0) (A 1) 0 er X3 Y3 2 X4 Y4 4 (J 34) (J 35) (J 37)) [0,1] [0],u (fun A J O=>aK w.params h g n K t1 (A 52) Qb (J 101)) [4,5] [4,5],u (fun A J O=>cf w.params h g 3 120 (J 95) 121 (J 96) 122 (J 97) (A 52) n K (J 102) (J 102) (A 56) (A 57) (J 103) (J 104) (J 105) (J 101) 2089 (J 102) (J 119) (A 67) (A 68)) [52,67,68,4,5,56,57] [],u (fun A J O=>cj w.params h g 3 120 (J 95) 121 (J 96) 122 (J 97) (A 52) n K (J 102) (J 102) (A 56) (A 57) (J 103) (J 104) (J 105) (J 101) 2089 (J 102) (J 122) (A 69) (A 70)) [52,69,70,4,5,56,57] [],u (fun A J O=>ck w.params h g 3 120 (J 95) 121 (J 96) 122 (J 97) (A 52) n K (J 102) (J 102) (A 56) (A 57) (J 103) (J 104) (J 105) (J 101) 2089 (J 102) (J 125) (A 71) (A 72)) [52,71,72,4,5,56,57] [],u (fun A J O=>g9 w.params h g 3 120 (J 95) 121 (J 96) 122 (J 97) (A 52) n K (J 102) (J 102) (A 56) (A 57) (J 103) (J 104) (J 105) (J 101) 2089 (J 99) (J 102) (J 106) (J 108) (J 110) (A 58)) [52,58,4,5,56,57] []] [56] [39,40,102] (be t1 hK X4 Y4 0 1 2) (aa (aD hD0) (aa (aB hD1) (aa (aC hD2) (aa (ao (top:=4) hD3 (by decide) (by decide)) (aa (ba.2.1 hK (by omega)) (aa (dA.2.2.1 hK (by omega)) (aa (dA.2.2.2.1 hK (by omega)) (aa (dA.2.2.2.2.1 hK (by omega)) (aa (lw.2.2.1 hK (by omega)) ak))))))))) ?_⟩ <;> intro cb ν τ υ π ς ρ own past κ bl p <;> kernel_rfl
theorem Di {w h g s r er X0 Y0 tx ty R F n K t1} (hK:ag K=n) (hn:n≤900):(∀ {X1 Y1 D1 X2 Y2 D2 X3 Y3 X4 Y4:Nat},a0 X0 Y0 4 3 X1 Y1→a0 X1 Y1 5 D1 X2 Y2→a0 X2 Y2 4 D2 X3 Y3→a0 X3 Y3 4 3 X4 Y4→CE w h g s r er X0 Y0 tx ty R F n K t1 1520):=by
 refine fun {X1 Y1 D1 X2 Y2 D2 X3 Y3 X4 Y4} hD0 hD1 hD2 hD3=>bc 3948 (ce [tZ,cQ,xL,y9,wE,DP,ax,1154,B1,ki,ki,1048714,ol,rU,sp,1192076,aw,1220613260,ax,1252132010124,aj,1254281445518,yK,lL,yK,lL,yK,1099666889872,ol,rT,0x12709c27000270002709c,aj,0x1140a2288020a45013c4e014402789c2709c0009c,ng,1024,oc,oO,av,0x1290a42900029000290a4,aj,0x114803298a4290a4000a4,zm,zm,zm,1048742,lp,0x12a03e2a001038542a8aa2e8a6,kV,1079379,aw,1042,oO,1301572415676,u9,1273168062,jA,1145950,rd,0x131800188c60006231800188c6,eH,td,1025,uv,1025,uv,0x13186332062318003386432801,bb,1251528,ai,0x13400019cd0000673400019cd0,br,1279463632,iW,1220,ew,1261776,e7,0x468348001a0d2,sQ,aZ,zn,1325098075184,bF,zn,1325016286263,bF,zn,hJ,1296257236,aj,1329516773588,wj,wj,wj,0x4d21a0d200068348001a0d2000da1a8d6350d63580035800,aZ,1279463634,iW,1263812,bb,1294158034,ai,0x4dc0006d370001b4dc0006d370001b4dc,dg,1244,dg,1244,dk,ax,1244,dg,1244,dk,bj,1244,br,1244,bB,1335849349120,bF,1244,uO,1248,qp,0x4dc000010006f,ai,ik,1306753250,aj,0x4e439000390003907100ce4000de,wV,0x4753b00000400,ae,1260,ai,1355062302958,ij,1262,ax,1260,c5,1260,av,0x4f03c0f03c0f03c0f0,aj,0x13d0f81e0f23c0f23c8003c8003c8003d0793d0783c8f03c8f2000f2000f2000f03c0f2000f0,aw,ss,wV,eY,D3,aw,ss,wV,eY,Ae,c5,1292,av,0x510441104411044110,aj,0x1451182211244112448004480044800450894508844910449120011200112001104411200110,aw,ss,0x4733a0e847071390de,ae,0x109800398e6398e6398e6398e6,cR,1222,av,0x14791e47800478004791e,aj,0x1245244900218c912408f0143f4811e4791e0011e,uV,0x149800498004989200d26,xn,xn,xn,0x12512a4a92e249260f926,ae,1351976,ae,1411215820801,dN,1073896592]) [u (fun A J O=>ay w.params h g (A 0) (A 1) 0 er (A 10) 0 X0 Y0 3 X1 Y1 tx ty #[] #[97,195,169] #[255,226,130,172] #[120,121,122] (J 3) (J 4) (J 5) (J 6)) [0,1,10] [0],u (fun A J O=>aA w.params h g (A 0) (A 1) 0 er (A 23) 0 X1 Y1 D1 X2 Y2 (J 7) (J 8) 65 8364 (-1) 300 1099511627776 (J 19) (J 20) (J 22) (J 23) (J 26)) [0,1,23] [0],u (fun A J O=>az w.params h g (A 0) (A 1) 0 er (A 24) 0 X2 Y2 D2 X3 Y3 (J 27) (J 28) Q0 Q4 Q2 Q3 (J 30) (J 31) (J 32) (J 33)) [0,1,24] [0],u (fun A J O=>ah w.params h g (A 0) (A 1) 0 er X3 Y3 3 X4 Y4 4 (J 34) (J 35) (J 37)) [0,1] [0],u (fun A J O=>aK w.params h g n K t1 (A 54) Qb (J 151)) [4,5] [4,5],u (fun A J O=>cf w.params h g 3 120 (J 114) 121 (J 126) 122 (J 138) (A 54) n K (J 152) (J 152) (A 74) (A 75) (J 153) (J 154) (J 155) (J 151) 2089 (J 152) (J 169) (A 85) (A 86)) [54,85,86,4,5,74,75] [],u (fun A J O=>cj w.params h g 3 120 (J 114) 121 (J 126) 122 (J 138) (A 54) n K (J 152) (J 152) (A 74) (A 75) (J 153) (J 154) (J 155) (J 151) 2089 (J 152) (J 172) (A 87) (A 88)) [54,87,88,4,5,74,75] [],u (fun A J O=>ck w.params h g 3 120 (J 114) 121 (J 126) 122 (J 138) (A 54) n K (J 152) (J 152) (A 74) (A 75) (J 153) (J 154) (J 155) (J 151) 2089 (J 152) (J 175) (A 89) (A 90)) [54,89,90,4,5,74,75] [],u (fun A J O=>g9 w.params h g 3 120 (J 114) 121 (J 126) 122 (J 138) (A 54) n K (J 152) (J 152) (A 74) (A 75) (J 153) (J 154) (J 155) (J 151) 2089 (J 149) (J 152) (J 156) (J 158) (J 160) (A 76)) [54,76,4,5,74,75] []] [74] [39,40,152] (be t1 hK X4 Y4 0 1 2) (aa (aD hD0) (aa (aB hD1) (aa (aC hD2) (aa (ao (top:=4) hD3 (by decide) (by decide)) (aa (ba.2.1 hK (by omega)) (aa (dA.2.2.1 hK (by omega)) (aa (dA.2.2.2.1 hK (by omega)) (aa (dA.2.2.2.2.1 hK (by omega)) (aa (lw.2.2.1 hK (by omega)) ak))))))))) ?_ <;> intro cb ν τ υ π ς ρ own past κ bl p <;> kernel_rfl
theorem Fs {w h g s r er X0 Y0 tx ty R F n K t1} (hK:ag K=n) (hn:n≤900):CE w h g s r er X0 Y0 tx ty R F n K t1 1520 :=
 let ⟨d0,X1,Y1,h0⟩:=a0.ex X0 Y0 4
 let ⟨d1,X2,Y2,h1⟩:=a0.ex X1 Y1 5
 let ⟨d2,X3,Y3,h2⟩:=a0.ex X2 Y2 4
 let ⟨d3,X4,Y4,h3⟩:=a0.ex X3 Y3 4
 match d3,h3.lt (by decide),h3 with
 | 0,_,h3 =>
  match d1,h1.lt (by decide),h1 with
  | 0,_,h1 =>
   match d2,h2.lt (by decide),h2 with
   | 0,_,h2=>(c3 hK hn).1 h0 h1 h2 h3
   | 1,_,h2=>(c3 hK hn).2.1 h0 h1 h2 h3
   | 2,_,h2=>(c3 hK hn).2.2.1 h0 h1 h2 h3
   | 3,_,h2=>(c3 hK hn).2.2.2.1 h0 h1 h2 h3
  | 1,_,h1 =>
   match d2,h2.lt (by decide),h2 with
   | 0,_,h2=>(c3 hK hn).2.2.2.2.2.1 h0 h1 h2 h3
   | 1,_,h2=>(c3 hK hn).2.2.2.2.2.2.1 h0 h1 h2 h3
   | 2,_,h2=>(c3 hK hn).2.2.2.2.2.2.2.1 h0 h1 h2 h3
   | 3,_,h2=>(c3 hK hn).2.2.2.2.2.2.2.2.1 h0 h1 h2 h3
  | 2,_,h1 =>
   match d2,h2.lt (by decide),h2 with
   | 0,_,h2=>(c3 hK hn).2.2.2.2.2.2.2.2.2.2.1 h0 h1 h2 h3
   | 1,_,h2=>(c3 hK hn).2.2.2.2.2.2.2.2.2.2.2.1 h0 h1 h2 h3
   | 2,_,h2=>(c3 hK hn).2.2.2.2.2.2.2.2.2.2.2.2.1 h0 h1 h2 h3
   | 3,_,h2=>(c3 hK hn).2.2.2.2.2.2.2.2.2.2.2.2.2 h0 h1 h2 h3
  | 3,_,h1 =>
   match d2,h2.lt (by decide),h2 with
   | 0,_,h2=>(cL hK hn).2.1 h0 h1 h2 h3
   | 1,_,h2=>(cL hK hn).2.2.1 h0 h1 h2 h3
   | 2,_,h2=>(cL hK hn).2.2.2.1 h0 h1 h2 h3
   | 3,_,h2=>(cL hK hn).2.2.2.2.1 h0 h1 h2 h3
  | 4,_,h1 =>
   match d2,h2.lt (by decide),h2 with
   | 0,_,h2=>(cL hK hn).2.2.2.2.2.2.1 h0 h1 h2 h3
   | 1,_,h2=>(cL hK hn).2.2.2.2.2.2.2.1 h0 h1 h2 h3
   | 2,_,h2=>(cL hK hn).2.2.2.2.2.2.2.2.1 h0 h1 h2 h3
   | 3,_,h2=>(cL hK hn).2.2.2.2.2.2.2.2.2.1 h0 h1 h2 h3
 | 1,_,h3 =>
  match d1,h1.lt (by decide),h1 with
  | 0,_,h1=>(c3 hK hn).2.2.2.2.1 h0 h1 h2 h3
  | 1,_,h1=>(c3 hK hn).2.2.2.2.2.2.2.2.2.1 h0 h1 h2 h3
  | 2,_,h1=>(cL hK hn).1 h0 h1 h2 h3
  | 3,_,h1=>(cL hK hn).2.2.2.2.2.1 h0 h1 h2 h3
  | 4,_,h1=>(cL hK hn).2.2.2.2.2.2.2.2.2.2 h0 h1 h2 h3
 | 2,_,h3 =>
  match d0,h0.lt (by decide),h0 with
  | 0,_,h0=>(pr hK hn).1 h0 h1 h2 h3
  | 1,_,h0=>(pr hK hn).2.2 h0 h1 h2 h3
  | 2,_,h0=>(vC hK hn).2 h0 h1 h2 h3
  | 3,_,h0=>(vB hK hn).2 h0 h1 h2 h3
 | 3,_,h3 =>
  match d0,h0.lt (by decide),h0 with
  | 0,_,h0=>(pr hK hn).2.1 h0 h1 h2 h3
  | 1,_,h0=>(vC hK hn).1 h0 h1 h2 h3
  | 2,_,h0=>(vB hK hn).1 h0 h1 h2 h3
  | 3,_,h0=>(Di hK hn) h0 h1 h2 h3
theorem vl {w h g s r er X0 Y0 tx ty R F n K t1} (hK:ag K=n) (hn:n≤900):(∀ {X1 Y1 D1 X2 Y2:Nat},a0 X0 Y0 5 0 X1 Y1→a0 X1 Y1 9 D1 X2 Y2→CE w h g s r er X0 Y0 tx ty R F n K t1 1525) ∧
 (∀ {X1 Y1 D1 X2 Y2:Nat},a0 X0 Y0 5 1 X1 Y1→a0 X1 Y1 9 D1 X2 Y2→CE w h g s r er X0 Y0 tx ty R F n K t1 1525):=by
 refine ⟨fun {X1 Y1 D1 X2 Y2} hD0 hD1=>bc 1739 (ce [xe,AH,db,ax,DW]) [u (fun A J O=>aK w.params h g n K t1 (A 11) Q6 (J 4)) [4,5] [4,5],u (fun A J O=>ah w.params h g (A 0) (A 1) 0 er X0 Y0 0 X1 Y1 5 tx ty (J 21)) [0,1] [0],u (fun A J O=>ah w.params h g (A 0) (A 1) 0 er X1 Y1 D1 X2 Y2 9 (J 23) (J 24) (J 28)) [0,1] [0],u (fun A J O=>aT w.params h g n K (Prod.mk (J 11) (.ref (A 12))) (J 11)) [5] [],u (fun A J O=>aU w.params h g n K (Prod.mk (J 11) (.ref (A 12))) (J 11)) [5] []] [12] [30,31,11] (be t1 hK X2 Y2 0 1 2) (aa (ba.2.1 hK (by omega)) (aa (ao (top:=5) hD0 (by decide) (by decide)) (aa (ao (top:=9) hD1 (by decide) (by decide)) (aa (aW hK) (aa (aX hK) ak))))) ?_,
 fun {X1 Y1 D1 X2 Y2} hD0 hD1=>bc 4367 (ce [BS,1284,ww,ae,ph,0x142104420004100041108410004190641906,BW,1156,C0]) [u (fun A J O=>aK w.params h g n K t1 (A 11) Q6 (J 4)) [4,5] [4,5],u (fun A J O=>ah w.params h g (A 0) (A 1) 0 er X0 Y0 1 X1 Y1 5 tx ty (J 21)) [0,1] [0],u (fun A J O=>ah w.params h g (A 0) (A 1) 0 er X1 Y1 D1 X2 Y2 9 (J 23) (J 24) (J 28)) [0,1] [0],u (fun A J O=>aT w.params h g n K (Prod.mk (J 11) (.ref (A 12))) (J 11)) [5] [],u (fun A J O=>aU w.params h g n K (Prod.mk (J 11) (.ref (A 12))) (J 11)) [5] [],u (fun A J O=>aT w.params h g n K (Prod.mk (J 11) (.ref (A 12))) (J 11)) [5] [],u (fun A J O=>aU w.params h g n K (Prod.mk (J 11) (.ref (A 12))) (J 11)) [5] [],u (fun A J O=>aT w.params h g n K (Prod.mk (J 11) (.ref (A 12))) (J 11)) [5] [],u (fun A J O=>aU w.params h g n K (Prod.mk (J 11) (.ref (A 12))) (J 11)) [5] [],u (fun A J O=>uA w.params h g (A 140) n K (J 11) (J 11) (A 12) (A 13) (J 12) (J 13) (J 14) (J 4) 2089 (J 16) (J 11) (A 14) (A 15) (A 28) (A 66) (J 272) (J 273) (J 274) (.ref (A 16)) (A 149) (A 150) ⟨.none,.none,R.3,R.4,R.5,R.6,R.7⟩ (v7 (O 3)) (J 275)) [14,15,149,150,2,3,4,5,12,13] [2,3],u (fun A J O=>jb w.params h g (A 152) (A 148) 0 0 [] [(.int (Int.ofNat ((Nat.brecOn.go D1 Nat.add._f).1 40)) (J 32)),(.int 2 (J 269)),(.int 3 (J 270))]) [152,148] [152],u (fun A J O=>uN w.params h g (J 280) (J 281) (J 282) (.ref (A 16)) (A 157) (A 158) (n+1) (List.cons (Prod.mk (J 11) (.ref (A 12))) K) (J 11) (v7 (O 2)) (v7 (O 3)) (J 289)) [157,158,2,3,4,5] [2,3],u (fun A J O=>dS w.params h g false false (DT.s false (A 163) 2 [(DT.s true (A 165) 0 [(DT.v (.str Qc (J 290))),(DT.v (.bytes #[110,105,108,32,100,101,114,101,102,101,114,101,110,99,101] (J 291)))]),(DT.s true (A 166) 0 [(DT.v (.str Qc (J 294))),(DT.v (.bytes #[110,105,108,32,100,101,114,101,102,101,114,101,110,99,101] (J 295)))])]) (DT.s false (A 171) 0 [(DT.s true (A 169) 0 [(DT.v (.str Qc (J 297))),(DT.v (.bytes #[110,105,108,32,100,101,114,101,102,101,114,101,110,99,101] (J 298)))]),(DT.s true (A 169) 0 [(DT.v (.str Qc (J 297))),(DT.v (.bytes #[110,105,108,32,100,101,114,101,102,101,114,101,110,99,101] (J 298)))])]) true [5]) [163,165,166,171,169] []] [12] [30,31,11] (be t1 hK X2 Y2 0 1 2) (aa (ba.2.1 hK (by omega)) (aa (ao (top:=5) hD0 (by decide) (by decide)) (aa (ao (top:=9) hD1 (by decide) (by decide)) (aa (aW hK) (aa (aX hK) (aa (aW hK) (aa (aX hK) (aa (aW hK) (aa (aX hK) (aa (ft.2.2.2.2.2.2.2.2.2.1 hK (by omega)) (aa (wR (Nat.le_of_ble_eq_true rfl) (Nat.le_of_ble_eq_true rfl)) (aa ft.2.2.2.2.2.2.2.1 (aa (gT true rfl (Nat.le_of_ble_eq_true (by kernel_rfl)) (.inl (eO (eO qF (eO eB eN)) (eO (eO qF (eO eB eN)) eN))) (by exact Az)) ak))))))))))))) ?_⟩ <;> intro cb ν τ υ π ς ρ own past κ bl p <;> kernel_rfl
theorem vO {w h g s r er X0 Y0 tx ty R F n K t1} (hK:ag K=n) (hn:n≤900):(∀ {X1 Y1 D1 X2 Y2:Nat},a0 X0 Y0 5 2 X1 Y1→a0 X1 Y1 9 D1 X2 Y2→CE w h g s r er X0 Y0 tx ty R F n K t1 1525) ∧
 (∀ {X1 Y1 D1 X2 Y2:Nat},a0 X0 Y0 5 3 X1 Y1→a0 X1 Y1 9 D1 X2 Y2→CE w h g s r er X0 Y0 tx ty R F n K t1 1525):=by
 refine ⟨fun {X1 Y1 D1 X2 Y2} hD0 hD1=>bc 4366 (ce [Al,1290,Cy,0x13a8004411044110,CU,zO,ae,gS,0x5164691646800458004591a458004611846118,w7,1409015871742,Dc,0x148922488004880048922,aj,0x49424802158014992a498014a00214093248910143d491224892200122,iD,1099826507790,ow,1090519189,dD,1124352,ke,0x53200132001324c932,aw,1038,av,1324,bB,0x4002688526c862708a2748d4a0570051c4f11c0053600136001364d934,AK,1382726,aj,0x15200052000520a300d4800146,AJ,bB,1030,AS,AJ,0x101803008a12800418c00,AS,0x55428d4851948,dJ,0x558038a55314c,ae,0x1008015295a52801560005600056158]) [u (fun A J O=>aK w.params h g n K t1 (A 11) Q6 (J 4)) [4,5] [4,5],u (fun A J O=>ah w.params h g (A 0) (A 1) 0 er X0 Y0 2 X1 Y1 5 tx ty (J 21)) [0,1] [0],u (fun A J O=>ah w.params h g (A 0) (A 1) 0 er X1 Y1 D1 X2 Y2 9 (J 23) (J 24) (J 28)) [0,1] [0],u (fun A J O=>aT w.params h g n K (Prod.mk (J 11) (.ref (A 12))) (J 11)) [5] [],u (fun A J O=>aU w.params h g n K (Prod.mk (J 11) (.ref (A 12))) (J 11)) [5] [],u (fun A J O=>aT w.params h g n K (Prod.mk (J 11) (.ref (A 12))) (J 11)) [5] [],u (fun A J O=>aU w.params h g n K (Prod.mk (J 11) (.ref (A 12))) (J 11)) [5] [],u (fun A J O=>aT w.params h g n K (Prod.mk (J 11) (.ref (A 12))) (J 11)) [5] [],u (fun A J O=>aU w.params h g n K (Prod.mk (J 11) (.ref (A 12))) (J 11)) [5] [],u (fun A J O=>uA w.params h g (A 141) n K (J 11) (J 11) (A 12) (A 13) (J 12) (J 13) (J 14) (J 4) 2089 (J 16) (J 11) (A 14) (A 15) (A 28) (A 66) (J 272) (J 273) (J 274) (.ref (A 16)) (A 150) (A 151) ⟨.none,.none,R.3,R.4,R.5,R.6,R.7⟩ (v7 (O 3)) (J 275)) [14,15,150,151,2,3,4,5,12,13] [2,3],u (fun A J O=>jb w.params h g (A 153) (A 149) 0 0 [] [(.int 1 (J 268)),(.int (Int.ofNat ((Nat.brecOn.go D1 Nat.add._f).1 40)) (J 32)),(.int 3 (J 270))]) [153,149] [153],u (fun A J O=>uN w.params h g (J 280) (J 281) (J 282) (.ref (A 16)) (A 158) (A 159) (n+1) (List.cons (Prod.mk (J 11) (.ref (A 12))) K) (J 11) (v7 (O 2)) (v7 (O 3)) (J 289)) [158,159,2,3,4,5] [2,3],u (fun A J O=>dS w.params h g false false (DT.s false (A 164) 2 [(DT.s true (A 166) 0 [(DT.v (.str Qc (J 290))),(DT.v (.bytes #[110,105,108,32,100,101,114,101,102,101,114,101,110,99,101] (J 291)))]),(DT.s true (A 167) 0 [(DT.v (.str Qc (J 294))),(DT.v (.bytes #[110,105,108,32,100,101,114,101,102,101,114,101,110,99,101] (J 295)))])]) (DT.s false (A 172) 0 [(DT.s true (A 170) 0 [(DT.v (.str Qc (J 297))),(DT.v (.bytes #[110,105,108,32,100,101,114,101,102,101,114,101,110,99,101] (J 298)))]),(DT.s true (A 170) 0 [(DT.v (.str Qc (J 297))),(DT.v (.bytes #[110,105,108,32,100,101,114,101,102,101,114,101,110,99,101] (J 298)))])]) true [5]) [164,166,167,172,170] []] [12] [30,31,11] (be t1 hK X2 Y2 0 1 2) (aa (ba.2.1 hK (by omega)) (aa (ao (top:=5) hD0 (by decide) (by decide)) (aa (ao (top:=9) hD1 (by decide) (by decide)) (aa (aW hK) (aa (aX hK) (aa (aW hK) (aa (aX hK) (aa (aW hK) (aa (aX hK) (aa (ft.2.2.2.2.2.2.2.2.2.1 hK (by omega)) (aa (wR (Nat.le_of_ble_eq_true rfl) (Nat.le_of_ble_eq_true rfl)) (aa ft.2.2.2.2.2.2.2.1 (aa (gT true rfl (Nat.le_of_ble_eq_true (by kernel_rfl)) (.inl (eO (eO qF (eO eB eN)) (eO (eO qF (eO eB eN)) eN))) (by exact Az)) ak))))))))))))) ?_,
 fun {X1 Y1 D1 X2 Y2} hD0 hD1=>bc 4367 (ce [Al,1317130,BW,1154,C0]) [u (fun A J O=>aK w.params h g n K t1 (A 11) Q6 (J 4)) [4,5] [4,5],u (fun A J O=>ah w.params h g (A 0) (A 1) 0 er X0 Y0 3 X1 Y1 5 tx ty (J 21)) [0,1] [0],u (fun A J O=>ah w.params h g (A 0) (A 1) 0 er X1 Y1 D1 X2 Y2 9 (J 23) (J 24) (J 28)) [0,1] [0],u (fun A J O=>aT w.params h g n K (Prod.mk (J 11) (.ref (A 12))) (J 11)) [5] [],u (fun A J O=>aU w.params h g n K (Prod.mk (J 11) (.ref (A 12))) (J 11)) [5] [],u (fun A J O=>aT w.params h g n K (Prod.mk (J 11) (.ref (A 12))) (J 11)) [5] [],u (fun A J O=>aU w.params h g n K (Prod.mk (J 11) (.ref (A 12))) (J 11)) [5] [],u (fun A J O=>aT w.params h g n K (Prod.mk (J 11) (.ref (A 12))) (J 11)) [5] [],u (fun A J O=>aU w.params h g n K (Prod.mk (J 11) (.ref (A 12))) (J 11)) [5] [],u (fun A J O=>uA w.params h g (A 140) n K (J 11) (J 11) (A 12) (A 13) (J 12) (J 13) (J 14) (J 4) 2089 (J 16) (J 11) (A 14) (A 15) (A 28) (A 66) (J 272) (J 273) (J 274) (.ref (A 16)) (A 149) (A 150) ⟨.none,.none,R.3,R.4,R.5,R.6,R.7⟩ (v7 (O 3)) (J 275)) [14,15,149,150,2,3,4,5,12,13] [2,3],u (fun A J O=>jb w.params h g (A 152) (A 148) 0 0 [] [(.int 1 (J 268)),(.int 2 (J 269)),(.int (Int.ofNat ((Nat.brecOn.go D1 Nat.add._f).1 40)) (J 32))]) [152,148] [152],u (fun A J O=>uN w.params h g (J 280) (J 281) (J 282) (.ref (A 16)) (A 157) (A 158) (n+1) (List.cons (Prod.mk (J 11) (.ref (A 12))) K) (J 11) (v7 (O 2)) (v7 (O 3)) (J 289)) [157,158,2,3,4,5] [2,3],u (fun A J O=>dS w.params h g false false (DT.s false (A 163) 2 [(DT.s true (A 165) 0 [(DT.v (.str Qc (J 290))),(DT.v (.bytes #[110,105,108,32,100,101,114,101,102,101,114,101,110,99,101] (J 291)))]),(DT.s true (A 166) 0 [(DT.v (.str Qc (J 294))),(DT.v (.bytes #[110,105,108,32,100,101,114,101,102,101,114,101,110,99,101] (J 295)))])]) (DT.s false (A 171) 0 [(DT.s true (A 169) 0 [(DT.v (.str Qc (J 297))),(DT.v (.bytes #[110,105,108,32,100,101,114,101,102,101,114,101,110,99,101] (J 298)))]),(DT.s true (A 169) 0 [(DT.v (.str Qc (J 297))),(DT.v (.bytes #[110,105,108,32,100,101,114,101,102,101,114,101,110,99,101] (J 298)))])]) true [5]) [163,165,166,171,169] []] [12] [30,31,11] (be t1 hK X2 Y2 0 1 2) (aa (ba.2.1 hK (by omega)) (aa (ao (top:=5) hD0 (by decide) (by decide)) (aa (ao (top:=9) hD1 (by decide) (by decide)) (aa (aW hK) (aa (aX hK) (aa (aW hK) (aa (aX hK) (aa (aW hK) (aa (aX hK) (aa (ft.2.2.2.2.2.2.2.2.2.1 hK (by omega)) (aa (wR (Nat.le_of_ble_eq_true rfl) (Nat.le_of_ble_eq_true rfl)) (aa ft.2.2.2.2.2.2.2.1 (aa (gT true rfl (Nat.le_of_ble_eq_true (by kernel_rfl)) (.inl (eO (eO qF (eO eB eN)) (eO (eO qF (eO eB eN)) eN))) (by exact Az)) ak))))))))))))) ?_⟩ <;> intro cb ν τ υ π ς ρ own past κ bl p <;> kernel_rfl
theorem Df {w h g s r er X0 Y0 tx ty R F n K t1} (hK:ag K=n) (hn:n≤900):(∀ {X1 Y1 D1 X2 Y2:Nat},a0 X0 Y0 5 4 X1 Y1→a0 X1 Y1 9 D1 X2 Y2→CE w h g s r er X0 Y0 tx ty R F n K t1 1525):=by
 refine fun {X1 Y1 D1 X2 Y2} hD0 hD1=>bc 1752 (ce [xe,ax,1152,AH,db,ez,DW]) [u (fun A J O=>aK w.params h g n K t1 (A 11) Q6 (J 4)) [4,5] [4,5],u (fun A J O=>ah w.params h g (A 0) (A 1) 0 er X0 Y0 4 X1 Y1 5 tx ty (J 21)) [0,1] [0],u (fun A J O=>ah w.params h g (A 0) (A 1) 0 er X1 Y1 D1 X2 Y2 9 (J 23) (J 24) (J 28)) [0,1] [0],u (fun A J O=>aT w.params h g n K (Prod.mk (J 11) (.ref (A 12))) (J 11)) [5] [],u (fun A J O=>aU w.params h g n K (Prod.mk (J 11) (.ref (A 12))) (J 11)) [5] []] [12] [30,31,11] (be t1 hK X2 Y2 0 1 2) (aa (ba.2.1 hK (by omega)) (aa (ao (top:=5) hD0 (by decide) (by decide)) (aa (ao (top:=9) hD1 (by decide) (by decide)) (aa (aW hK) (aa (aX hK) ak))))) ?_ <;> intro cb ν τ υ π ς ρ own past κ bl p <;> kernel_rfl
theorem EU {w h g s r er X0 Y0 tx ty R F n K t1} (hK:ag K=n) (hn:n≤900):CE w h g s r er X0 Y0 tx ty R F n K t1 1525 :=
 let ⟨d0,X1,Y1,h0⟩:=a0.ex X0 Y0 5
 let ⟨d1,X2,Y2,h1⟩:=a0.ex X1 Y1 9
 match d0,h0.lt (by decide),h0 with
 | 0,_,h0=>(vl hK hn).1 h0 h1
 | 1,_,h0=>(vl hK hn).2 h0 h1
 | 2,_,h0=>(vO hK hn).1 h0 h1
 | 3,_,h0=>(vO hK hn).2 h0 h1
 | 4,_,h0=>(Df hK hn) h0 h1
theorem jE {w h g s r er X0 Y0 tx ty R F n K t1} (hK:ag K=n) (hn:n≤900):(∀ {X1 Y1 D1 X2 Y2 D2 X3 Y3:Nat},a0 X0 Y0 5 0 X1 Y1→a0 X1 Y1 4 D1 X2 Y2→a0 X2 Y2 6 D2 X3 Y3→CE w h g s r er X0 Y0 tx ty R F n K t1 1532) ∧
 (∀ {X1 Y1 D1 X2 Y2 D2 X3 Y3:Nat},a0 X0 Y0 5 1 X1 Y1→a0 X1 Y1 4 D1 X2 Y2→a0 X2 Y2 6 D2 X3 Y3→CE w h g s r er X0 Y0 tx ty R F n K t1 1532) ∧
 (∀ {X1 Y1 D1 X2 Y2 D2 X3 Y3:Nat},a0 X0 Y0 5 2 X1 Y1→a0 X1 Y1 4 D1 X2 Y2→a0 X2 Y2 6 D2 X3 Y3→CE w h g s r er X0 Y0 tx ty R F n K t1 1532) ∧
 (∀ {X1 Y1 D1 X2 Y2 D2 X3 Y3:Nat},a0 X0 Y0 5 3 X1 Y1→a0 X1 Y1 4 D1 X2 Y2→a0 X2 Y2 6 D2 X3 Y3→CE w h g s r er X0 Y0 tx ty R F n K t1 1532) ∧
 (∀ {X1 Y1 D1 X2 Y2 D2 X3 Y3:Nat},a0 X0 Y0 5 4 X1 Y1→a0 X1 Y1 4 D1 X2 Y2→a0 X2 Y2 6 D2 X3 Y3→CE w h g s r er X0 Y0 tx ty R F n K t1 1532):=by
 refine ⟨fun {X1 Y1 D1 X2 Y2 D2 X3 Y3} hD0 hD1 hD2=>bc 1925 (ce [zj,E1,DI,db,ax,DF]) [u (fun A J O=>ah w.params h g (A 0) (A 1) 0 er X0 Y0 0 X1 Y1 5 tx ty (J 10)) [0,1] [0],u (fun A J O=>ah w.params h g (A 0) (A 1) 0 er X1 Y1 D1 X2 Y2 4 (J 12) (J 13) (J 16)) [0,1] [0],u (fun A J O=>ah w.params h g (A 0) (A 1) 0 er X2 Y2 D2 X3 Y3 6 (J 18) (J 19) (J 20)) [0,1] [0],u (fun A J O=>dS w.params h g true true (DT.s true (A 73) 0 [(DT.s true (A 43) 0 [(DT.v (.str Qc (J 83))),(DT.v (.bytes #[105,110,100,101,120,32,111,117,116,32,111,102,32,114,97,110,103,101] (J 67)))]),(DT.s true (A 67) 0 [(DT.v (.str Qc (J 136))),(DT.v (.bytes #[105,110,100,101,120,32,111,117,116,32,111,102,32,114,97,110,103,101] (J 120)))])]) (DT.s true (A 74) 0 [(DT.s true (A 68) 0 [(DT.v (.str Qc (J 142))),(DT.v (.bytes #[105,110,100,101,120,32,111,117,116,32,111,102,32,114,97,110,103,101] (J 143)))]),(DT.s true (A 68) 0 [(DT.v (.str Qc (J 142))),(DT.v (.bytes #[105,110,100,101,120,32,111,117,116,32,111,102,32,114,97,110,103,101] (J 143)))])]) false [5]) [73,43,67,74,68] [],uT (fun A J O ρ=>mM w.params h g (A 6) (A 0) (v7 (O 2)) (v7 (O 3)) n K t1 (A 8) (A 7) (A 18) (A 17) D1 D2 (J 4) (J 2) (J 3) (J 27) (J 28) (J 29) (J 30) (J 0) (J 1) (J 7) (J 8) (J 9) (J 24) (J 21) (J 25) (J 17) (J 26) (.int (-1) (J 15)) (J 31) (J 87) (.ref (A 43)) (J 140) (.ref (A 67)) (J 144) (.ref (A 68)) (J 145) (.bool false) ρ) [6,2,3,4,5,8,7,18,17] [6,2,3,4,5] 1097 7] [] [22,23] (be t1 hK X3 Y3 0 86 2) (aa (ao (top:=5) hD0 (by decide) (by decide)) (aa (ao (top:=4) hD1 (by decide) (by decide)) (aa (ao (top:=6) hD2 (by decide) (by decide)) (aa (gT true rfl (Nat.le_of_ble_eq_true (by kernel_rfl)) (.inl (eO (eO qF (eO eB eN)) (eO (eO qF (eO eB eN)) eN))) (by exact Az)) (dU (oy  hK (by omega) (hD1.lt (by decide)) (hD2.lt (by decide))) ak))))) ?_,
 fun {X1 Y1 D1 X2 Y2 D2 X3 Y3} hD0 hD1 hD2=>bc 1388 (ce [wO]) [u (fun A J O=>ah w.params h g (A 0) (A 1) 0 er X0 Y0 1 X1 Y1 5 tx ty (J 10)) [0,1] [0],u (fun A J O=>ah w.params h g (A 0) (A 1) 0 er X1 Y1 D1 X2 Y2 4 (J 12) (J 13) (J 16)) [0,1] [0],u (fun A J O=>ah w.params h g (A 0) (A 1) 0 er X2 Y2 D2 X3 Y3 6 (J 18) (J 19) (J 20)) [0,1] [0],uT (fun A J O ρ=>mM w.params h g (A 6) (A 0) (v7 (O 2)) (v7 (O 3)) n K t1 (A 8) (A 7) (A 18) (A 17) D1 D2 (J 4) (J 2) (J 3) (J 27) (J 28) (J 29) (J 30) (J 0) (J 1) (J 7) (J 8) (J 9) (J 24) (J 21) (J 25) (J 17) (J 26) (.int 0 (J 15)) (J 31) (J 67) (.ref (A 33)) (J 101) (.ref (A 48)) (J 106) (.ref (A 50)) (J 107) (.bool true) ρ) [6,2,3,4,5,8,7,18,17] [6,2,3,4,5] 1097 7] [] [22,23] (be t1 hK X3 Y3 0 74 2) (aa (ao (top:=5) hD0 (by decide) (by decide)) (aa (ao (top:=4) hD1 (by decide) (by decide)) (aa (ao (top:=6) hD2 (by decide) (by decide)) (dU (oy  hK (by omega) (hD1.lt (by decide)) (hD2.lt (by decide))) ak)))) ?_,
 fun {X1 Y1 D1 X2 Y2 D2 X3 Y3} hD0 hD1 hD2=>bc 1388 (ce [wO]) [u (fun A J O=>ah w.params h g (A 0) (A 1) 0 er X0 Y0 2 X1 Y1 5 tx ty (J 10)) [0,1] [0],u (fun A J O=>ah w.params h g (A 0) (A 1) 0 er X1 Y1 D1 X2 Y2 4 (J 12) (J 13) (J 16)) [0,1] [0],u (fun A J O=>ah w.params h g (A 0) (A 1) 0 er X2 Y2 D2 X3 Y3 6 (J 18) (J 19) (J 20)) [0,1] [0],uT (fun A J O ρ=>mM w.params h g (A 6) (A 0) (v7 (O 2)) (v7 (O 3)) n K t1 (A 8) (A 7) (A 18) (A 17) D1 D2 (J 4) (J 2) (J 3) (J 27) (J 28) (J 29) (J 30) (J 0) (J 1) (J 7) (J 8) (J 9) (J 24) (J 21) (J 25) (J 17) (J 26) (.int 1 (J 15)) (J 31) (J 67) (.ref (A 33)) (J 101) (.ref (A 48)) (J 106) (.ref (A 50)) (J 107) (.bool true) ρ) [6,2,3,4,5,8,7,18,17] [6,2,3,4,5] 1097 7] [] [22,23] (be t1 hK X3 Y3 0 74 2) (aa (ao (top:=5) hD0 (by decide) (by decide)) (aa (ao (top:=4) hD1 (by decide) (by decide)) (aa (ao (top:=6) hD2 (by decide) (by decide)) (dU (oy  hK (by omega) (hD1.lt (by decide)) (hD2.lt (by decide))) ak)))) ?_,
 fun {X1 Y1 D1 X2 Y2 D2 X3 Y3} hD0 hD1 hD2=>bc 1388 (ce [wO]) [u (fun A J O=>ah w.params h g (A 0) (A 1) 0 er X0 Y0 3 X1 Y1 5 tx ty (J 10)) [0,1] [0],u (fun A J O=>ah w.params h g (A 0) (A 1) 0 er X1 Y1 D1 X2 Y2 4 (J 12) (J 13) (J 16)) [0,1] [0],u (fun A J O=>ah w.params h g (A 0) (A 1) 0 er X2 Y2 D2 X3 Y3 6 (J 18) (J 19) (J 20)) [0,1] [0],uT (fun A J O ρ=>mM w.params h g (A 6) (A 0) (v7 (O 2)) (v7 (O 3)) n K t1 (A 8) (A 7) (A 18) (A 17) D1 D2 (J 4) (J 2) (J 3) (J 27) (J 28) (J 29) (J 30) (J 0) (J 1) (J 7) (J 8) (J 9) (J 24) (J 21) (J 25) (J 17) (J 26) (.int 2 (J 15)) (J 31) (J 67) (.ref (A 33)) (J 101) (.ref (A 48)) (J 106) (.ref (A 50)) (J 107) (.bool true) ρ) [6,2,3,4,5,8,7,18,17] [6,2,3,4,5] 1097 7] [] [22,23] (be t1 hK X3 Y3 0 74 2) (aa (ao (top:=5) hD0 (by decide) (by decide)) (aa (ao (top:=4) hD1 (by decide) (by decide)) (aa (ao (top:=6) hD2 (by decide) (by decide)) (dU (oy  hK (by omega) (hD1.lt (by decide)) (hD2.lt (by decide))) ak)))) ?_,
 fun {X1 Y1 D1 X2 Y2 D2 X3 Y3} hD0 hD1 hD2=>bc 1945 (ce [zj,1086,ax,E1,1134,ax,DI,db,ez,DF]) [u (fun A J O=>ah w.params h g (A 0) (A 1) 0 er X0 Y0 4 X1 Y1 5 tx ty (J 10)) [0,1] [0],u (fun A J O=>ah w.params h g (A 0) (A 1) 0 er X1 Y1 D1 X2 Y2 4 (J 12) (J 13) (J 16)) [0,1] [0],u (fun A J O=>ah w.params h g (A 0) (A 1) 0 er X2 Y2 D2 X3 Y3 6 (J 18) (J 19) (J 20)) [0,1] [0],u (fun A J O=>dS w.params h g true true (DT.s true (A 73) 0 [(DT.s true (A 43) 0 [(DT.v (.str Qc (J 83))),(DT.v (.bytes #[105,110,100,101,120,32,111,117,116,32,111,102,32,114,97,110,103,101] (J 67)))]),(DT.s true (A 67) 0 [(DT.v (.str Qc (J 136))),(DT.v (.bytes #[105,110,100,101,120,32,111,117,116,32,111,102,32,114,97,110,103,101] (J 120)))])]) (DT.s true (A 74) 0 [(DT.s true (A 68) 0 [(DT.v (.str Qc (J 143))),(DT.v (.bytes #[105,110,100,101,120,32,111,117,116,32,111,102,32,114,97,110,103,101] (J 144)))]),(DT.s true (A 68) 0 [(DT.v (.str Qc (J 143))),(DT.v (.bytes #[105,110,100,101,120,32,111,117,116,32,111,102,32,114,97,110,103,101] (J 144)))])]) false [5]) [73,43,67,74,68] [],uT (fun A J O ρ=>mM w.params h g (A 6) (A 0) (v7 (O 2)) (v7 (O 3)) n K t1 (A 8) (A 7) (A 18) (A 17) D1 D2 (J 4) (J 2) (J 3) (J 27) (J 28) (J 29) (J 30) (J 0) (J 1) (J 7) (J 8) (J 9) (J 24) (J 21) (J 25) (J 17) (J 26) (.int 3 (J 15)) (J 31) (J 87) (.ref (A 43)) (J 140) (.ref (A 67)) (J 145) (.ref (A 68)) (J 146) (.bool false) ρ) [6,2,3,4,5,8,7,18,17] [6,2,3,4,5] 1097 7] [] [22,23] (be t1 hK X3 Y3 0 86 2) (aa (ao (top:=5) hD0 (by decide) (by decide)) (aa (ao (top:=4) hD1 (by decide) (by decide)) (aa (ao (top:=6) hD2 (by decide) (by decide)) (aa (gT true rfl (Nat.le_of_ble_eq_true (by kernel_rfl)) (.inl (eO (eO qF (eO eB eN)) (eO (eO qF (eO eB eN)) eN))) (by exact Az)) (dU (oy  hK (by omega) (hD1.lt (by decide)) (hD2.lt (by decide))) ak))))) ?_⟩ <;> intro cb ν τ υ π ς ρ own past κ bl p <;> kernel_rfl
theorem FD {w h g s r er X0 Y0 tx ty R F n K t1} (hK:ag K=n) (hn:n≤900):CE w h g s r er X0 Y0 tx ty R F n K t1 1532 :=
 let ⟨d0,X1,Y1,h0⟩:=a0.ex X0 Y0 5
 let ⟨d1,X2,Y2,h1⟩:=a0.ex X1 Y1 4
 let ⟨d2,X3,Y3,h2⟩:=a0.ex X2 Y2 6
 match d0,h0.lt (by decide),h0 with
 | 0,_,h0=>(jE hK hn).1 h0 h1 h2
 | 1,_,h0=>(jE hK hn).2.1 h0 h1 h2
 | 2,_,h0=>(jE hK hn).2.2.1 h0 h1 h2
 | 3,_,h0=>(jE hK hn).2.2.2.1 h0 h1 h2
 | 4,_,h0=>(jE hK hn).2.2.2.2 h0 h1 h2
theorem eT {w h g s r er X0 Y0 tx ty R F n K t1} (hK:ag K=n) (hn:n≤900):(∀ {X1 Y1:Nat},a0 X0 Y0 8 0 X1 Y1→CE w h g s r er X0 Y0 tx ty R F n K t1 1537) ∧
 (∀ {X1 Y1:Nat},a0 X0 Y0 8 1 X1 Y1→CE w h g s r er X0 Y0 tx ty R F n K t1 1537) ∧
 (∀ {X1 Y1:Nat},a0 X0 Y0 8 2 X1 Y1→CE w h g s r er X0 Y0 tx ty R F n K t1 1537) ∧
 (∀ {X1 Y1:Nat},a0 X0 Y0 8 3 X1 Y1→CE w h g s r er X0 Y0 tx ty R F n K t1 1537) ∧
 (∀ {X1 Y1:Nat},a0 X0 Y0 8 4 X1 Y1→CE w h g s r er X0 Y0 tx ty R F n K t1 1537) ∧
 (∀ {X1 Y1:Nat},a0 X0 Y0 8 5 X1 Y1→CE w h g s r er X0 Y0 tx ty R F n K t1 1537) ∧
 (∀ {X1 Y1:Nat},a0 X0 Y0 8 6 X1 Y1→CE w h g s r er X0 Y0 tx ty R F n K t1 1537) ∧
 (∀ {X1 Y1:Nat},a0 X0 Y0 8 7 X1 Y1→CE w h g s r er X0 Y0 tx ty R F n K t1 1537):=by
 refine ⟨fun {X1 Y1} hD0=>bc 956 (ce [jo,1111527460,aj,1060,pn,1060,cY,1060,cY,1060,cY,1060,cY,1060,uh,1114544091136,ai,sJ,tf,1090520116,mL,iG,dc,kb,1159276,iG,c5,1132,b7,qX]) [u (fun A J O=>aH w.params h g (A 0) (A 1) 0 er (A 34) 1 X0 Y0 0 X1 Y1 tx ty [(.ref (A 17)),(.ref (A 19)),(.ref (A 22)),(.ref (A 23)),(.ref (A 25)),(.ref (A 30)),(.ref (A 32)),(.ref (A 36))]) [0,1,34] [0],uT (fun A J O ρ=>ir w.params h g (A 6) (A 0) (A 1) er X1 Y1 (v7 (O 2)) (v7 (O 3)) n K t1 (A 8) (A 7) (A 9) (J 1) (J 2) (J 0) (J 6) (.ref (A 11)) (J 18) (.ref (A 34)) (J 48) (.str Ql (J 7)) (J 49) (.ref (A 16)) (J 50) (.bytes #[97,98,99] (J 9)) (J 51) (.int 3 (J 10)) (J 46) (J 47) ρ) [6,0,1,2,3,4,5,8,7,9] [6,0,2,3,4,5] 1114 7] [] [] (be t1 hK 0 0 62 64 0) (aa (cC hD0) (dU (kp  hK (by omega)) ak)) ?_,
 fun {X1 Y1} hD0=>bc 979 (ce [jo,1115725864,aj,1153433640,o5,1064,cY,1064,cY,1064,cY,1064,cY,1064,CA,iO,dc,iO,dc,dc,dk,1024,qX]) [u (fun A J O=>aH w.params h g (A 0) (A 1) 0 er (A 34) 1 X0 Y0 1 X1 Y1 tx ty [(.ref (A 17)),(.ref (A 19)),(.ref (A 22)),(.ref (A 23)),(.ref (A 25)),(.ref (A 30)),(.ref (A 32)),(.ref (A 36))]) [0,1,34] [0],uT (fun A J O ρ=>ir w.params h g (A 6) (A 0) (A 1) er X1 Y1 (v7 (O 2)) (v7 (O 3)) n K t1 (A 8) (A 7) (A 9) (J 1) (J 2) (J 0) (J 6) (.ref (A 11)) (J 18) (.ref (A 34)) (J 48) (.str Ql (J 11)) (J 49) (.ref (A 11)) (J 50) (.ref (A 18)) (J 51) (.int 3 (J 17)) (J 46) (J 47) ρ) [6,0,1,2,3,4,5,8,7,9] [6,0,2,3,4,5] 1114 7] [] [] (be t1 hK 0 0 62 64 0) (aa (cC hD0) (dU (kp  hK (by omega)) ak)) ?_,
 fun {X1 Y1} hD0=>bc 1037 (ce [jo,1122023470,aj,1070,pn,1070,cY,1070,cY,1070,cY,1070,cY,1070,CA,iO,dc,iO,dc,bj,1132,ai,1103982,ae,1134,ai,jt,1163376,ri,1222037850226,nD,1140,ae,1063,cR,1110,av,Cm,0x10003e0f022158011e87e1e8010383d1f07c0082b]) [u (fun A J O=>aH w.params h g (A 0) (A 1) 0 er (A 34) 1 X0 Y0 2 X1 Y1 tx ty [(.ref (A 17)),(.ref (A 19)),(.ref (A 22)),(.ref (A 23)),(.ref (A 25)),(.ref (A 30)),(.ref (A 32)),(.ref (A 36))]) [0,1,34] [0],uT (fun A J O ρ=>ir w.params h g (A 6) (A 0) (A 1) er X1 Y1 (v7 (O 2)) (v7 (O 3)) n K t1 (A 8) (A 7) (A 9) (J 1) (J 2) (J 0) (J 6) (.ref (A 11)) (J 18) (.ref (A 34)) (J 48) (.str Eo (J 19)) (J 49) (.ref (A 11)) (J 50) (.ref (A 21)) (J 51) (.int 5 (J 25)) (J 46) (J 47) ρ) [6,0,1,2,3,4,5,8,7,9] [6,0,2,3,4,5] 1114 7] [] [] (be t1 hK 0 0 66 68 0) (aa (cC hD0) (dU (kp  hK (by omega)) ak)) ?_,
 fun {X1 Y1} hD0=>bc 922 (ce [jo,1124122672,aj,1072,pn,1072,cY,1072,cY,1072,cY,1072,cY,1072,tK,Da,zD]) [u (fun A J O=>aH w.params h g (A 0) (A 1) 0 er (A 34) 1 X0 Y0 3 X1 Y1 tx ty [(.ref (A 17)),(.ref (A 19)),(.ref (A 22)),(.ref (A 23)),(.ref (A 25)),(.ref (A 30)),(.ref (A 32)),(.ref (A 36))]) [0,1,34] [0],uT (fun A J O ρ=>ir w.params h g (A 6) (A 0) (A 1) er X1 Y1 (v7 (O 2)) (v7 (O 3)) n K t1 (A 8) (A 7) (A 9) (J 1) (J 2) (J 0) (J 6) (.ref (A 11)) (J 18) (.ref (A 34)) (J 48) (.str Ql (J 26)) (J 49) (.ref (A 11)) (J 50) .none (J 51) (.int 0 (J 27)) (J 46) (J 47) ρ) [6,0,1,2,3,4,5,8,7,9] [6,0,2,3,4,5] 1114 7] [] [] (be t1 hK 0 0 62 64 0) (aa (cC hD0) (dU (kp  hK (by omega)) ak)) ?_,
 fun {X1 Y1} hD0=>bc 929 (ce [jo,1128321076,aj,1076,pn,1076,cY,1076,cY,1076,cY,1076,cY,1076,tK,1098908728,mL,jr,1074,dc,jr,1074,dc,jr,1048626,qX]) [u (fun A J O=>aH w.params h g (A 0) (A 1) 0 er (A 34) 1 X0 Y0 4 X1 Y1 tx ty [(.ref (A 17)),(.ref (A 19)),(.ref (A 22)),(.ref (A 23)),(.ref (A 25)),(.ref (A 30)),(.ref (A 32)),(.ref (A 36))]) [0,1,34] [0],uT (fun A J O ρ=>ir w.params h g (A 6) (A 0) (A 1) er X1 Y1 (v7 (O 2)) (v7 (O 3)) n K t1 (A 8) (A 7) (A 9) (J 1) (J 2) (J 0) (J 6) (.ref (A 11)) (J 18) (.ref (A 34)) (J 48) (.str Ql (J 28)) (J 49) (.ref (A 24)) (J 50) .none (J 51) (.int 4 (J 31)) (J 46) (J 47) ρ) [6,0,1,2,3,4,5,8,7,9] [6,0,2,3,4,5] 1114 7] [] [] (be t1 hK 0 0 62 64 0) (aa (cC hD0) (dU (kp  hK (by omega)) ak)) ?_,
 fun {X1 Y1} hD0=>bc 989 (ce [jo,1138817086,aj,1153433662,o5,1086,cY,1086,cY,1086,cY,1086,cY,1086,uh,1114544093184,ai,sJ,sm,1130651244544,mL,kA,1084,dc,bF,1132,kA,0x46c0d46c0001c004380003c,gt,1082,dc,gt,1048634,qX]) [u (fun A J O=>aH w.params h g (A 0) (A 1) 0 er (A 34) 1 X0 Y0 5 X1 Y1 tx ty [(.ref (A 17)),(.ref (A 19)),(.ref (A 22)),(.ref (A 23)),(.ref (A 25)),(.ref (A 30)),(.ref (A 32)),(.ref (A 36))]) [0,1,34] [0],uT (fun A J O ρ=>ir w.params h g (A 6) (A 0) (A 1) er X1 Y1 (v7 (O 2)) (v7 (O 3)) n K t1 (A 8) (A 7) (A 9) (J 1) (J 2) (J 0) (J 6) (.ref (A 11)) (J 18) (.ref (A 34)) (J 48) (.str Eo (J 33)) (J 49) (.ref (A 29)) (J 50) .none (J 51) (.int 6 (J 37)) (J 46) (J 47) ρ) [6,0,1,2,3,4,5,8,7,9] [6,0,2,3,4,5] 1114 7] [] [] (be t1 hK 0 0 63 65 0) (aa (cC hD0) (dU (kp  hK (by omega)) ak)) ?_,
 fun {X1 Y1} hD0=>bc 922 (ce [jo,1143015490,aj,1090,pn,1090,cY,1090,cY,1090,cY,1090,cY,1090,tK,1106248762,mL,zT,dc,zT,zD]) [u (fun A J O=>aH w.params h g (A 0) (A 1) 0 er (A 34) 1 X0 Y0 6 X1 Y1 tx ty [(.ref (A 17)),(.ref (A 19)),(.ref (A 22)),(.ref (A 23)),(.ref (A 25)),(.ref (A 30)),(.ref (A 32)),(.ref (A 36))]) [0,1,34] [0],uT (fun A J O ρ=>ir w.params h g (A 6) (A 0) (A 1) er X1 Y1 (v7 (O 2)) (v7 (O 3)) n K t1 (A 8) (A 7) (A 9) (J 1) (J 2) (J 0) (J 6) (.ref (A 11)) (J 18) (.ref (A 34)) (J 48) (.str Ql (J 38)) (J 49) (.ref (A 31)) (J 50) .none (J 51) (.int 0 (J 40)) (J 46) (J 47) ρ) [6,0,1,2,3,4,5,8,7,9] [6,0,2,3,4,5] 1114 7] [] [] (be t1 hK 0 0 62 64 0) (aa (cC hD0) (dU (kp  hK (by omega)) ak)) ?_,
 fun {X1 Y1} hD0=>bc 922 (ce [jo,xX,1098,cY,1098,cY,1098,tK,1110443065,mL,w3,dc,w3,zD]) [u (fun A J O=>aH w.params h g (A 0) (A 1) 0 er (A 34) 1 X0 Y0 7 X1 Y1 tx ty [(.ref (A 17)),(.ref (A 19)),(.ref (A 22)),(.ref (A 23)),(.ref (A 25)),(.ref (A 30)),(.ref (A 32)),(.ref (A 36))]) [0,1,34] [0],uT (fun A J O ρ=>ir w.params h g (A 6) (A 0) (A 1) er X1 Y1 (v7 (O 2)) (v7 (O 3)) n K t1 (A 8) (A 7) (A 9) (J 1) (J 2) (J 0) (J 6) (.ref (A 11)) (J 18) (.ref (A 34)) (J 48) (.str Eo (J 42)) (J 49) (.ref (A 35)) (J 50) .none (J 51) (.int 0 (J 45)) (J 46) (J 47) ρ) [6,0,1,2,3,4,5,8,7,9] [6,0,2,3,4,5] 1114 7] [] [] (be t1 hK 0 0 62 64 0) (aa (cC hD0) (dU (kp  hK (by omega)) ak)) ?_⟩ <;> intro cb ν τ υ π ς ρ own past κ bl p <;> kernel_rfl
theorem FI {w h g s r er X0 Y0 tx ty R F n K t1} (hK:ag K=n) (hn:n≤900):CE w h g s r er X0 Y0 tx ty R F n K t1 1537 :=
 let ⟨d0,X1,Y1,h0⟩:=a0.ex X0 Y0 8
 match d0,h0.lt (by decide),h0 with
 | 0,_,h0=>(eT hK hn).1 h0
 | 1,_,h0=>(eT hK hn).2.1 h0
 | 2,_,h0=>(eT hK hn).2.2.1 h0
 | 3,_,h0=>(eT hK hn).2.2.2.1 h0
 | 4,_,h0=>(eT hK hn).2.2.2.2.1 h0
 | 5,_,h0=>(eT hK hn).2.2.2.2.2.1 h0
 | 6,_,h0=>(eT hK hn).2.2.2.2.2.2.1 h0
 | 7,_,h0=>(eT hK hn).2.2.2.2.2.2.2 h0
theorem r9 {w h g s r er X0 Y0 tx ty R F n K t1} (hK:ag K=n) (hn:n≤900):(∀ {X1 Y1 D1 X2 Y2:Nat},a0 X0 Y0 3 0 X1 Y1→a0 X1 Y1 2 D1 X2 Y2→CE w h g s r er X0 Y0 tx ty R F n K t1 1544) ∧
 (∀ {X1 Y1 D1 X2 Y2:Nat},a0 X0 Y0 3 1 X1 Y1→a0 X1 Y1 2 D1 X2 Y2→CE w h g s r er X0 Y0 tx ty R F n K t1 1544) ∧
 (∀ {X1 Y1 D1 X2 Y2:Nat},a0 X0 Y0 3 2 X1 Y1→a0 X1 Y1 2 D1 X2 Y2→CE w h g s r er X0 Y0 tx ty R F n K t1 1544):=by
 refine ⟨fun {X1 Y1 D1 X2 Y2} hD0 hD1=>bc 867 (ce [xG,1088436238,ax,x9,tC,yc,tC,yP]) [u (fun A J O=>ah w.params h g (A 0) (A 1) 0 er X0 Y0 0 X1 Y1 3 tx ty (J 10)) [0,1] [0],u (fun A J O=>bS w.params h g (A 0) (A 1) 0 er (A 15) 0 X1 Y1 D1 X2 Y2 (J 12) (J 13) #[120] #[] (J 14) (J 15)) [0,1,15] [0],u (fun A J O=>iL w.params h g (J 20) (J 21) (.ref (A 10)) (J 22) (A 20) n K t1 (v7 (O 2)) (v7 (O 3)) (J 23)) [20,2,3,4,5] [2,3,4,5],u (fun A J O=>mJ w.params h g (A 25) n K (J 24) (J 24) (A 23) (A 24) (J 26) (J 28) (J 29) (J 27) (J 30) (A 26) (A 27) (A 28) (J 31) (J 32) (J 33) (J 34) (A 22) (J 25) (J 24) (bk #[] [#[120],#[]] D1) (J 37) (J 38) (J 39) (A 29) 0 (J 11) (J 40) (.ref (A 7)) (A 30) (bk 0 [(J 14),(J 15)] D1) (J 42) (.ref (A 9)) (A 31) (A 32) ⟨.none,R.2,R.3,R.4,R.5,R.6,R.7⟩ ⟨.none,F.2,F.3,F.4,F.5,F.6,F.7⟩ (J 43)) [29,30,31,32,22,2,3,4,5,23,24,25,26,27,28] [2,3,26,28],u (fun A J O=>mq w.params h g (A 25) n K (J 24) (J 24) (A 23) (A 24) (J 26) (J 28) (J 29) (J 27) (J 30) (A 26) (A 27) (A 28) (A 34) (A 35) (J 11) 0 (J 45) (bk #[] [#[120],#[]] D1) (J 34) (bk 0 [(J 14),(J 15)] D1) (J 31) (J 32) (J 33) (J 44) (A 22) (J 25) (J 24) (J 7) (A 9) (J 51) (J 52) (J 53) (J 54) (J 55) (A 39) (J 49) (J 56) (.ref (A 7)) (A 40) (A 41) ⟨.none,R.2,R.3,R.4,R.5,R.6,R.7⟩ ⟨.none,F.2,F.3,F.4,F.5,F.6,F.7⟩ (J 58)) [34,35,9,39,40,41,22,2,3,4,5,23,24,25,26,27,28] [2,3],u (fun A J O=>fK w.params h g (A 25) n K (J 24) (J 24) (A 23) (A 24) (J 26) (J 28) (J 29) (J 27) (J 30) (A 26) (A 27) (A 28) (A 34) (A 35) (J 11) 0 (J 45) (bk #[] [#[120],#[]] D1) (J 34) (bk 0 [(J 14),(J 15)] D1) (J 31) (J 32) (J 33) (J 44) (A 22) (J 25) (J 24) (J 7) (A 9) (J 62) (J 63) (J 64) (J 65) (J 66) (A 44) 1 (J 60) (J 67) (.ref (A 7)) (A 45) (A 46) ⟨.none,(.bytes (bk #[] [#[120],#[]] D1) (bk 0 [(J 14),(J 15)] D1)),(.bool true),R.4,R.5,R.6,R.7⟩ ⟨.none,(.bool true),(.bool true),F.4,F.5,F.6,F.7⟩ (J 69)) [34,35,9,44,45,46,22,2,3,4,5,23,24,25,26,27,28] [2,3],u (fun A J O=>fK w.params h g (A 25) n K (J 24) (J 24) (A 23) (A 24) (J 26) (J 28) (J 29) (J 27) (J 30) (A 26) (A 27) (A 28) (A 34) (A 35) (J 11) 0 (J 45) (bk #[] [#[120],#[]] D1) (J 34) (bk 0 [(J 14),(J 15)] D1) (J 31) (J 32) (J 33) (J 44) (A 22) (J 25) (J 24) (J 7) (A 9) (J 75) (J 76) (J 77) (J 78) (J 79) (A 49) 2 (J 73) (J 80) (.ref (A 7)) (A 50) (A 51) ⟨.none,(.bytes #[] (J 70)),(.bool false),R.4,R.5,R.6,R.7⟩ ⟨.none,(.bool true),(.bool true),F.4,F.5,F.6,F.7⟩ (J 82)) [34,35,9,49,50,51,22,2,3,4,5,23,24,25,26,27,28] [2,3],u (fun A J O=>mB w.params h g (A 25) n K (J 24) (J 24) (A 23) (A 24) (J 26) (J 28) (J 29) (J 27) (J 30) (A 26) (A 27) (A 28) (A 34) (A 35) (J 11) 0 (J 45) (bk #[] [#[120],#[]] D1) (J 34) (bk 0 [(J 14),(J 15)] D1) (J 31) (J 32) (J 33) (J 44) (A 22) (J 25) (J 24) (J 86) (J 87) (J 88) (A 56) (J 11) (J 89) (.ref (A 7)) (A 57) (A 58) ⟨.none,(.bytes #[] (J 83)),(.bool false),R.4,R.5,R.6,R.7⟩ ⟨.none,(.bool true),(.bool true),F.4,F.5,F.6,F.7⟩ (J 90)) [34,35,56,57,58,22,2,3,4,5,23,24,25,26,27,28] [2,3,26,28],u (fun A J O=>m2 w.params h g (A 25) n K (J 24) (J 24) (A 23) (A 24) (J 26) (J 28) (J 29) (J 27) (J 30) (A 26) (A 27) (A 28) 2 (J 31) (J 32) (J 33) (J 44) (A 22) (J 25) (J 24) (J 4) (.ref (A 8)) (.ref (A 9)) (A 10) #[] false (J 91) (J 92) (J 93) (J 94) (J 95) (A 61) (A 62) (J 83) ⟨.none,.none,.none,R.4,R.5,R.6,R.7⟩ ⟨.none,(.bool true),(.bool true),F.4,F.5,F.6,F.7⟩ (J 96)) [10,61,62,22,2,3,4,5,23,24,25,26,27,28] [2,3]] [23] [16,17,24] (be t1 hK X2 Y2 0 1 2) (aa (ao (top:=3) hD0 (by decide) (by decide)) (aa (cx hD1) (aa (ft.2.2.2.2.2.2.2.2.2.2.1 hK (by omega)) (aa (ft.2.2.2.2.2.2.2.2.2.2.2 hK (by omega)) (aa (jZ.1 hK (by omega)) (aa (jZ.2.1 hK (by omega) (by decide)) (aa (jZ.2.1 hK (by omega) (by decide)) (aa (jZ.2.2.1 hK (by omega)) (aa (jZ.2.2.2.1 hK (by omega)) ak))))))))) ?_,
 fun {X1 Y1 D1 X2 Y2} hD0 hD1=>bc 867 (ce [xG,1062926,ax,x9,AZ,yc,tC,yP]) [u (fun A J O=>ah w.params h g (A 0) (A 1) 0 er X0 Y0 1 X1 Y1 3 tx ty (J 10)) [0,1] [0],u (fun A J O=>bS w.params h g (A 0) (A 1) 0 er (A 15) 0 X1 Y1 D1 X2 Y2 (J 12) (J 13) #[120] #[] (J 14) (J 15)) [0,1,15] [0],u (fun A J O=>iL w.params h g (J 20) (J 21) (.ref (A 10)) (J 22) (A 20) n K t1 (v7 (O 2)) (v7 (O 3)) (J 23)) [20,2,3,4,5] [2,3,4,5],u (fun A J O=>mJ w.params h g (A 25) n K (J 24) (J 24) (A 23) (A 24) (J 26) (J 28) (J 29) (J 27) (J 30) (A 26) (A 27) (A 28) (J 31) (J 32) (J 33) (J 34) (A 22) (J 25) (J 24) (bk #[] [#[120],#[]] D1) (J 37) (J 38) (J 39) (A 29) 1 (J 11) (J 40) (.ref (A 7)) (A 30) (bk 0 [(J 14),(J 15)] D1) (J 42) (.ref (A 9)) (A 31) (A 32) ⟨.none,R.2,R.3,R.4,R.5,R.6,R.7⟩ ⟨.none,F.2,F.3,F.4,F.5,F.6,F.7⟩ (J 43)) [29,30,31,32,22,2,3,4,5,23,24,25,26,27,28] [2,3,26,28],u (fun A J O=>fK w.params h g (A 25) n K (J 24) (J 24) (A 23) (A 24) (J 26) (J 28) (J 29) (J 27) (J 30) (A 26) (A 27) (A 28) (A 34) (A 35) (J 11) 1 (J 45) (bk #[] [#[120],#[]] D1) (J 34) (bk 0 [(J 14),(J 15)] D1) (J 31) (J 32) (J 33) (J 44) (A 22) (J 25) (J 24) (J 7) (A 9) (J 51) (J 52) (J 53) (J 54) (J 55) (A 39) 0 (J 49) (J 56) (.ref (A 7)) (A 40) (A 41) ⟨.none,R.2,R.3,R.4,R.5,R.6,R.7⟩ ⟨.none,F.2,F.3,F.4,F.5,F.6,F.7⟩ (J 58)) [34,35,9,39,40,41,22,2,3,4,5,23,24,25,26,27,28] [2,3],u (fun A J O=>mq w.params h g (A 25) n K (J 24) (J 24) (A 23) (A 24) (J 26) (J 28) (J 29) (J 27) (J 30) (A 26) (A 27) (A 28) (A 34) (A 35) (J 11) 1 (J 45) (bk #[] [#[120],#[]] D1) (J 34) (bk 0 [(J 14),(J 15)] D1) (J 31) (J 32) (J 33) (J 44) (A 22) (J 25) (J 24) (J 7) (A 9) (J 64) (J 65) (J 66) (J 67) (J 68) (A 44) (J 62) (J 69) (.ref (A 7)) (A 45) (A 46) ⟨.none,(.bytes #[] (J 59)),(.bool false),R.4,R.5,R.6,R.7⟩ ⟨.none,(.bool true),(.bool true),F.4,F.5,F.6,F.7⟩ (J 71)) [34,35,9,44,45,46,22,2,3,4,5,23,24,25,26,27,28] [2,3],u (fun A J O=>fK w.params h g (A 25) n K (J 24) (J 24) (A 23) (A 24) (J 26) (J 28) (J 29) (J 27) (J 30) (A 26) (A 27) (A 28) (A 34) (A 35) (J 11) 1 (J 45) (bk #[] [#[120],#[]] D1) (J 34) (bk 0 [(J 14),(J 15)] D1) (J 31) (J 32) (J 33) (J 44) (A 22) (J 25) (J 24) (J 7) (A 9) (J 75) (J 76) (J 77) (J 78) (J 79) (A 49) 2 (J 73) (J 80) (.ref (A 7)) (A 50) (A 51) ⟨.none,(.bytes (bk #[] [#[120],#[]] D1) (bk 0 [(J 14),(J 15)] D1)),(.bool true),R.4,R.5,R.6,R.7⟩ ⟨.none,(.bool true),(.bool true),F.4,F.5,F.6,F.7⟩ (J 82)) [34,35,9,49,50,51,22,2,3,4,5,23,24,25,26,27,28] [2,3],u (fun A J O=>mB w.params h g (A 25) n K (J 24) (J 24) (A 23) (A 24) (J 26) (J 28) (J 29) (J 27) (J 30) (A 26) (A 27) (A 28) (A 34) (A 35) (J 11) 1 (J 45) (bk #[] [#[120],#[]] D1) (J 34) (bk 0 [(J 14),(J 15)] D1) (J 31) (J 32) (J 33) (J 44) (A 22) (J 25) (J 24) (J 86) (J 87) (J 88) (A 56) (J 11) (J 89) (.ref (A 7)) (A 57) (A 58) ⟨.none,(.bytes #[] (J 83)),(.bool false),R.4,R.5,R.6,R.7⟩ ⟨.none,(.bool true),(.bool true),F.4,F.5,F.6,F.7⟩ (J 90)) [34,35,56,57,58,22,2,3,4,5,23,24,25,26,27,28] [2,3,26,28],u (fun A J O=>m2 w.params h g (A 25) n K (J 24) (J 24) (A 23) (A 24) (J 26) (J 28) (J 29) (J 27) (J 30) (A 26) (A 27) (A 28) 2 (J 31) (J 32) (J 33) (J 44) (A 22) (J 25) (J 24) (J 4) (.ref (A 8)) (.ref (A 9)) (A 10) #[] false (J 91) (J 92) (J 93) (J 94) (J 95) (A 61) (A 62) (J 83) ⟨.none,.none,.none,R.4,R.5,R.6,R.7⟩ ⟨.none,(.bool true),(.bool true),F.4,F.5,F.6,F.7⟩ (J 96)) [10,61,62,22,2,3,4,5,23,24,25,26,27,28] [2,3]] [23] [16,17,24] (be t1 hK X2 Y2 0 1 2) (aa (ao (top:=3) hD0 (by decide) (by decide)) (aa (cx hD1) (aa (ft.2.2.2.2.2.2.2.2.2.2.1 hK (by omega)) (aa (ft.2.2.2.2.2.2.2.2.2.2.2 hK (by omega)) (aa (jZ.2.1 hK (by omega) (by decide)) (aa (jZ.1 hK (by omega)) (aa (jZ.2.1 hK (by omega) (by decide)) (aa (jZ.2.2.1 hK (by omega)) (aa (jZ.2.2.2.1 hK (by omega)) ak))))))))) ?_,
 fun {X1 Y1 D1 X2 Y2} hD0 hD1=>bc 867 (ce [xG,1062926,ax,x9,tC,yc,AZ,yP]) [u (fun A J O=>ah w.params h g (A 0) (A 1) 0 er X0 Y0 2 X1 Y1 3 tx ty (J 10)) [0,1] [0],u (fun A J O=>bS w.params h g (A 0) (A 1) 0 er (A 15) 0 X1 Y1 D1 X2 Y2 (J 12) (J 13) #[120] #[] (J 14) (J 15)) [0,1,15] [0],u (fun A J O=>iL w.params h g (J 20) (J 21) (.ref (A 10)) (J 22) (A 20) n K t1 (v7 (O 2)) (v7 (O 3)) (J 23)) [20,2,3,4,5] [2,3,4,5],u (fun A J O=>mJ w.params h g (A 25) n K (J 24) (J 24) (A 23) (A 24) (J 26) (J 28) (J 29) (J 27) (J 30) (A 26) (A 27) (A 28) (J 31) (J 32) (J 33) (J 34) (A 22) (J 25) (J 24) (bk #[] [#[120],#[]] D1) (J 37) (J 38) (J 39) (A 29) 2 (J 11) (J 40) (.ref (A 7)) (A 30) (bk 0 [(J 14),(J 15)] D1) (J 42) (.ref (A 9)) (A 31) (A 32) ⟨.none,R.2,R.3,R.4,R.5,R.6,R.7⟩ ⟨.none,F.2,F.3,F.4,F.5,F.6,F.7⟩ (J 43)) [29,30,31,32,22,2,3,4,5,23,24,25,26,27,28] [2,3,26,28],u (fun A J O=>fK w.params h g (A 25) n K (J 24) (J 24) (A 23) (A 24) (J 26) (J 28) (J 29) (J 27) (J 30) (A 26) (A 27) (A 28) (A 34) (A 35) (J 11) 2 (J 45) (bk #[] [#[120],#[]] D1) (J 34) (bk 0 [(J 14),(J 15)] D1) (J 31) (J 32) (J 33) (J 44) (A 22) (J 25) (J 24) (J 7) (A 9) (J 51) (J 52) (J 53) (J 54) (J 55) (A 39) 0 (J 49) (J 56) (.ref (A 7)) (A 40) (A 41) ⟨.none,R.2,R.3,R.4,R.5,R.6,R.7⟩ ⟨.none,F.2,F.3,F.4,F.5,F.6,F.7⟩ (J 58)) [34,35,9,39,40,41,22,2,3,4,5,23,24,25,26,27,28] [2,3],u (fun A J O=>fK w.params h g (A 25) n K (J 24) (J 24) (A 23) (A 24) (J 26) (J 28) (J 29) (J 27) (J 30) (A 26) (A 27) (A 28) (A 34) (A 35) (J 11) 2 (J 45) (bk #[] [#[120],#[]] D1) (J 34) (bk 0 [(J 14),(J 15)] D1) (J 31) (J 32) (J 33) (J 44) (A 22) (J 25) (J 24) (J 7) (A 9) (J 64) (J 65) (J 66) (J 67) (J 68) (A 44) 1 (J 62) (J 69) (.ref (A 7)) (A 45) (A 46) ⟨.none,(.bytes #[] (J 59)),(.bool false),R.4,R.5,R.6,R.7⟩ ⟨.none,(.bool true),(.bool true),F.4,F.5,F.6,F.7⟩ (J 71)) [34,35,9,44,45,46,22,2,3,4,5,23,24,25,26,27,28] [2,3],u (fun A J O=>mq w.params h g (A 25) n K (J 24) (J 24) (A 23) (A 24) (J 26) (J 28) (J 29) (J 27) (J 30) (A 26) (A 27) (A 28) (A 34) (A 35) (J 11) 2 (J 45) (bk #[] [#[120],#[]] D1) (J 34) (bk 0 [(J 14),(J 15)] D1) (J 31) (J 32) (J 33) (J 44) (A 22) (J 25) (J 24) (J 7) (A 9) (J 77) (J 78) (J 79) (J 80) (J 81) (A 49) (J 75) (J 82) (.ref (A 7)) (A 50) (A 51) ⟨.none,(.bytes #[] (J 72)),(.bool false),R.4,R.5,R.6,R.7⟩ ⟨.none,(.bool true),(.bool true),F.4,F.5,F.6,F.7⟩ (J 84)) [34,35,9,49,50,51,22,2,3,4,5,23,24,25,26,27,28] [2,3],u (fun A J O=>mB w.params h g (A 25) n K (J 24) (J 24) (A 23) (A 24) (J 26) (J 28) (J 29) (J 27) (J 30) (A 26) (A 27) (A 28) (A 34) (A 35) (J 11) 2 (J 45) (bk #[] [#[120],#[]] D1) (J 34) (bk 0 [(J 14),(J 15)] D1) (J 31) (J 32) (J 33) (J 44) (A 22) (J 25) (J 24) (J 86) (J 87) (J 88) (A 56) (J 11) (J 89) (.ref (A 7)) (A 57) (A 58) ⟨.none,(.bytes (bk #[] [#[120],#[]] D1) (bk 0 [(J 14),(J 15)] D1)),(.bool true),R.4,R.5,R.6,R.7⟩ ⟨.none,(.bool true),(.bool true),F.4,F.5,F.6,F.7⟩ (J 90)) [34,35,56,57,58,22,2,3,4,5,23,24,25,26,27,28] [2,3,26,28],u (fun A J O=>m2 w.params h g (A 25) n K (J 24) (J 24) (A 23) (A 24) (J 26) (J 28) (J 29) (J 27) (J 30) (A 26) (A 27) (A 28) 2 (J 31) (J 32) (J 33) (J 44) (A 22) (J 25) (J 24) (J 4) (.ref (A 8)) (.ref (A 9)) (A 10) (bk #[] [#[120],#[]] D1) true (J 91) (J 92) (J 93) (J 94) (J 95) (A 61) (A 62) (bk 0 [(J 14),(J 15)] D1) ⟨.none,.none,.none,R.4,R.5,R.6,R.7⟩ ⟨.none,(.bool true),(.bool true),F.4,F.5,F.6,F.7⟩ (J 96)) [10,61,62,22,2,3,4,5,23,24,25,26,27,28] [2,3]] [23] [16,17,24] (be t1 hK X2 Y2 0 1 2) (aa (ao (top:=3) hD0 (by decide) (by decide)) (aa (cx hD1) (aa (ft.2.2.2.2.2.2.2.2.2.2.1 hK (by omega)) (aa (ft.2.2.2.2.2.2.2.2.2.2.2 hK (by omega)) (aa (jZ.2.1 hK (by omega) (by decide)) (aa (jZ.2.1 hK (by omega) (by decide)) (aa (jZ.1 hK (by omega)) (aa (jZ.2.2.1 hK (by omega)) (aa (jZ.2.2.2.1 hK (by omega)) ak))))))))) ?_⟩ <;> intro cb ν τ υ π ς ρ own past κ bl p <;> kernel_rfl
theorem EZ {w h g s r er X0 Y0 tx ty R F n K t1} (hK:ag K=n) (hn:n≤900):CE w h g s r er X0 Y0 tx ty R F n K t1 1544 :=
 let ⟨d0,X1,Y1,h0⟩:=a0.ex X0 Y0 3
 let ⟨d1,X2,Y2,h1⟩:=a0.ex X1 Y1 2
 match d0,h0.lt (by decide),h0 with
 | 0,_,h0=>(r9 hK hn).1 h0 h1
 | 1,_,h0=>(r9 hK hn).2.1 h0 h1
 | 2,_,h0=>(r9 hK hn).2.2 h0 h1
theorem mx {w h g s r er X0 Y0 tx ty R F n K t1} (hK:ag K=n) (hn:n≤900):(∀ {X1 Y1 X2 Y2:Nat},a0 X0 Y0 3 0 X1 Y1→a0 X1 Y1 2 0 X2 Y2→CE w h g s r er X0 Y0 tx ty R F n K t1 1551) ∧
 (∀ {X1 Y1 X2 Y2:Nat},a0 X0 Y0 3 0 X1 Y1→a0 X1 Y1 2 1 X2 Y2→CE w h g s r er X0 Y0 tx ty R F n K t1 1551) ∧
 (∀ {X1 Y1 X2 Y2:Nat},a0 X0 Y0 3 1 X1 Y1→a0 X1 Y1 2 0 X2 Y2→CE w h g s r er X0 Y0 tx ty R F n K t1 1551) ∧
 (∀ {X1 Y1 X2 Y2:Nat},a0 X0 Y0 3 1 X1 Y1→a0 X1 Y1 2 1 X2 Y2→CE w h g s r er X0 Y0 tx ty R F n K t1 1551):=by
 refine ⟨fun {X1 Y1 X2 Y2} hD0 hD1=>bc 1757 (ce [Cs,xO,1074884700,uI,1047,aw,nn,bF,1048658,lA,Br,1092608,xy,zV,1053767,D8,uI,1047,ec,1025,DG,lA,ai,1074927750,uI,1047,aw,1232785699964,bF,1048700,lA,CF,1067,Dg,1053763,BZ,uI,1047,ae,BX]) [u (fun A J O=>aH w.params h g (A 0) (A 1) 0 er (A 19) 0 X0 Y0 0 X1 Y1 tx ty [(.ref (A 15)),(.ref (A 16)),(.ref (A 18))]) [0,1,19] [0],u (fun A J O=>aH w.params h g (A 0) (A 1) 0 er (A 24) 0 X1 Y1 0 X2 Y2 (J 11) (J 12) [(.ref (A 23)),(.ref (A 9))]) [0,1,24] [0]] [] [17,18] (be t1 hK X2 Y2 0 0 2) (aa (aI hD0) (aa (cE hD1) ak)) ?_,
 fun {X1 Y1 X2 Y2} hD0 hD1=>bc 2072 (ce [Cs,wY,1074884700,v9,BY,v9,uX,hJ,iM,ai,1074935950,v9,ur,v9,sU]) [u (fun A J O=>aH w.params h g (A 0) (A 1) 0 er (A 19) 0 X0 Y0 0 X1 Y1 tx ty [(.ref (A 15)),(.ref (A 16)),(.ref (A 18))]) [0,1,19] [0],u (fun A J O=>aH w.params h g (A 0) (A 1) 0 er (A 24) 0 X1 Y1 1 X2 Y2 (J 11) (J 12) [(.ref (A 23)),(.ref (A 9))]) [0,1,24] [0]] [] [17,18] (be t1 hK X2 Y2 0 0 2) (aa (aI hD0) (aa (cE hD1) ak)) ?_,
 fun {X1 Y1 X2 Y2} hD0 hD1=>bc 2053 (ce [Ef,xO,1074884700,tq,AU,tq,uX,lA,ai,1074935950,tq,ur,tq,sU]) [u (fun A J O=>aH w.params h g (A 0) (A 1) 0 er (A 19) 0 X0 Y0 1 X1 Y1 tx ty [(.ref (A 15)),(.ref (A 16)),(.ref (A 18))]) [0,1,19] [0],u (fun A J O=>aH w.params h g (A 0) (A 1) 0 er (A 24) 0 X1 Y1 0 X2 Y2 (J 11) (J 12) [(.ref (A 23)),(.ref (A 9))]) [0,1,24] [0]] [] [17,18] (be t1 hK X2 Y2 0 0 2) (aa (aI hD0) (aa (cE hD1) ak)) ?_,
 fun {X1 Y1 X2 Y2} hD0 hD1=>bc 1757 (ce [Ef,wY,1074884700,sL,1024,nn,bF,1048658,hJ,iM,Br,1091584,xy,zV,1053766,D8,sL,1049614,DG,hJ,iM,ai,1074927750,sL,0x47c1f03d1f000,bF,1048700,hJ,iM,CF,1066,Dg,1053764,BZ,sL,BX]) [u (fun A J O=>aH w.params h g (A 0) (A 1) 0 er (A 19) 0 X0 Y0 1 X1 Y1 tx ty [(.ref (A 15)),(.ref (A 16)),(.ref (A 18))]) [0,1,19] [0],u (fun A J O=>aH w.params h g (A 0) (A 1) 0 er (A 24) 0 X1 Y1 1 X2 Y2 (J 11) (J 12) [(.ref (A 23)),(.ref (A 9))]) [0,1,24] [0],u (fun A J O=>dS w.params h g false true (DT.s true (A 9) 0 [(DT.v (.str Qd (J 3)))]) (DT.s true (A 9) 0 [(DT.v (.str Qd (J 3)))]) true [1]) [9] [],u (fun A J O=>dS w.params h g false true (DT.s true (A 9) 0 [(DT.v (.str Qd (J 3)))]) (DT.s true (A 9) 0 [(DT.v (.str Qd (J 3)))]) true [1]) [9] [],u (fun A J O=>dS w.params h g false true (DT.s true (A 9) 0 [(DT.v (.str Qd (J 3)))]) (DT.s true (A 9) 0 [(DT.v (.str Qd (J 3)))]) true [1]) [9] [],u (fun A J O=>dS w.params h g false true (DT.s true (A 9) 0 [(DT.v (.str Qd (J 3)))]) (DT.s true (A 9) 0 [(DT.v (.str Qd (J 3)))]) true [1]) [9] []] [] [17,18] (be t1 hK X2 Y2 0 0 2) (aa (aI hD0) (aa (cE hD1) (aa (gT true rfl (Nat.le_of_ble_eq_true (by kernel_rfl)) (.inl (eO (.same _) eN)) (by exact Em)) (aa (gT true rfl (Nat.le_of_ble_eq_true (by kernel_rfl)) (.inl (eO (.same _) eN)) (by exact Em)) (aa (gT true rfl (Nat.le_of_ble_eq_true (by kernel_rfl)) (.inl (eO (.same _) eN)) (by exact Em)) (aa (gT true rfl (Nat.le_of_ble_eq_true (by kernel_rfl)) (.inl (eO (.same _) eN)) (by exact Em)) ak)))))) ?_⟩ <;> intro cb ν τ υ π ς ρ own past κ bl p <;> kernel_rfl
theorem vd {w h g s r er X0 Y0 tx ty R F n K t1} (hK:ag K=n) (hn:n≤900):(∀ {X1 Y1 X2 Y2:Nat},a0 X0 Y0 3 2 X1 Y1→a0 X1 Y1 2 0 X2 Y2→CE w h g s r er X0 Y0 tx ty R F n K t1 1551) ∧
 (∀ {X1 Y1 X2 Y2:Nat},a0 X0 Y0 3 2 X1 Y1→a0 X1 Y1 2 1 X2 Y2→CE w h g s r er X0 Y0 tx ty R F n K t1 1551):=by
 refine ⟨fun {X1 Y1 X2 Y2} hD0 hD1=>bc 2053 (ce [Cl,xO,1138167476316,ru,AU,1060,ru,uX,lA,ai,1138167527566,ru,ur,1060,ru,sU]) [u (fun A J O=>aH w.params h g (A 0) (A 1) 0 er (A 19) 0 X0 Y0 2 X1 Y1 tx ty [(.ref (A 15)),(.ref (A 16)),(.ref (A 18))]) [0,1,19] [0],u (fun A J O=>aH w.params h g (A 0) (A 1) 0 er (A 24) 0 X1 Y1 0 X2 Y2 (J 11) (J 12) [(.ref (A 23)),(.ref (A 9))]) [0,1,24] [0]] [] [17,18] (be t1 hK X2 Y2 0 0 2) (aa (aI hD0) (aa (cE hD1) ak)) ?_,
 fun {X1 Y1 X2 Y2} hD0 hD1=>bc 2072 (ce [Cl,wY,1138167476316,u5,BY,1060,u5,uX,hJ,iM,ai,1138167527566,u5,ur,1060,u5,sU]) [u (fun A J O=>aH w.params h g (A 0) (A 1) 0 er (A 19) 0 X0 Y0 2 X1 Y1 tx ty [(.ref (A 15)),(.ref (A 16)),(.ref (A 18))]) [0,1,19] [0],u (fun A J O=>aH w.params h g (A 0) (A 1) 0 er (A 24) 0 X1 Y1 1 X2 Y2 (J 11) (J 12) [(.ref (A 23)),(.ref (A 9))]) [0,1,24] [0]] [] [17,18] (be t1 hK X2 Y2 0 0 2) (aa (aI hD0) (aa (cE hD1) ak)) ?_⟩ <;> intro cb ν τ υ π ς ρ own past κ bl p <;> kernel_rfl
theorem EM {w h g s r er X0 Y0 tx ty R F n K t1} (hK:ag K=n) (hn:n≤900):CE w h g s r er X0 Y0 tx ty R F n K t1 1551 :=
 let ⟨d0,X1,Y1,h0⟩:=a0.ex X0 Y0 3
 let ⟨d1,X2,Y2,h1⟩:=a0.ex X1 Y1 2
 match d0,h0.lt (by decide),h0 with
 | 0,_,h0 =>
  match d1,h1.lt (by decide),h1 with
  | 0,_,h1=>(mx hK hn).1 h0 h1
  | 1,_,h1=>(mx hK hn).2.1 h0 h1
 | 1,_,h0 =>
  match d1,h1.lt (by decide),h1 with
  | 0,_,h1=>(mx hK hn).2.2.1 h0 h1
  | 1,_,h1=>(mx hK hn).2.2.2 h0 h1
 | 2,_,h0 =>
  match d1,h1.lt (by decide),h1 with
  | 0,_,h1=>(vd hK hn).1 h0 h1
  | 1,_,h1=>(vd hK hn).2 h0 h1
theorem pW {w h g s r er X0 Y0 tx ty R F n K t1} (hK:ag K=n) (hn:n≤900):(∀ {X1 Y1 X2 Y2:Nat},a0 X0 Y0 3 0 X1 Y1→a0 X1 Y1 2 0 X2 Y2→CE w h g s r er X0 Y0 tx ty R F n K t1 1561) ∧
 (∀ {X1 Y1 X2 Y2:Nat},a0 X0 Y0 3 0 X1 Y1→a0 X1 Y1 2 1 X2 Y2→CE w h g s r er X0 Y0 tx ty R F n K t1 1561) ∧
 (∀ {X1 Y1 X2 Y2:Nat},a0 X0 Y0 3 1 X1 Y1→a0 X1 Y1 2 0 X2 Y2→CE w h g s r er X0 Y0 tx ty R F n K t1 1561):=by
 refine ⟨fun {X1 Y1 X2 Y2} hD0 hD1=>bc 2832 (ce [u0,rA,rp,sr,qU,dN,1100585480296,oI]) [u (fun A J O=>aH w.params h g (A 0) (A 1) 0 er (A 13) 0 X0 Y0 0 X1 Y1 tx ty [(.bytes #[97] (J 7)),(.bytes #[] (J 8)),(.bytes #[97,98] (J 9))]) [0,1,13] [0],u (fun A J O=>bS w.params h g (A 0) (A 1) 0 er (A 14) 0 X1 Y1 0 X2 Y2 (J 10) (J 11) #[97] #[98] (J 12) (J 13)) [0,1,14] [0],u (fun A J O=>vQ w.params h g (A 96) (A 100) 1 1 [(.int 97 (J 166))] [(.int 97 (J 167))]) [96,100] [],uT (fun A J O ρ=>kJ w.params h g (A 6) (A 0) (A 1) er X2 Y2 (v7 (O 2)) (v7 (O 3)) (A 8) (J 3) (J 4) (J 0) (J 1) (J 5) (.ref (A 7)) (J 6) (J 16) (.bytes (bk #[] [#[97],#[98]] 0) (bk 0 [(J 12),(J 13)] 0)) (J 17) (.bytes #[97] (J 7)) (J 164) (.ref (A 40)) (J 14) (J 15) ρ) [6,0,1,2,3,8] [6,0,2,3] 1158 4] [] [] (be t1 hK 0 0 144 0 0) (aa (aI hD0) (aa (cx hD1) (aa (A5 (by exact ⟨⟨_,_,rfl⟩,trivial⟩) (by exact ⟨⟨_,_,rfl⟩,trivial⟩)) (dU oh ak)))) ?_,
 fun {X1 Y1 X2 Y2} hD0 hD1=>bc 2832 (ce [u0,rA,rp,sr,qU,dN,1100586528872,oI]) [u (fun A J O=>aH w.params h g (A 0) (A 1) 0 er (A 13) 0 X0 Y0 0 X1 Y1 tx ty [(.bytes #[97] (J 7)),(.bytes #[] (J 8)),(.bytes #[97,98] (J 9))]) [0,1,13] [0],u (fun A J O=>bS w.params h g (A 0) (A 1) 0 er (A 14) 0 X1 Y1 1 X2 Y2 (J 10) (J 11) #[97] #[98] (J 12) (J 13)) [0,1,14] [0],u (fun A J O=>vQ w.params h g (A 96) (A 100) 1 1 [(.int 97 (J 166))] [(.int 98 (J 167))]) [96,100] [],uT (fun A J O ρ=>kJ w.params h g (A 6) (A 0) (A 1) er X2 Y2 (v7 (O 2)) (v7 (O 3)) (A 8) (J 3) (J 4) (J 0) (J 1) (J 5) (.ref (A 7)) (J 6) (J 16) (.bytes (bk #[] [#[97],#[98]] 1) (bk 0 [(J 12),(J 13)] 1)) (J 17) (.bytes #[97] (J 7)) (J 164) (.ref (A 40)) (J 14) (J 15) ρ) [6,0,1,2,3,8] [6,0,2,3] 1158 4] [] [] (be t1 hK 0 0 144 0 0) (aa (aI hD0) (aa (cx hD1) (aa (A5 (by exact ⟨⟨_,_,rfl⟩,trivial⟩) (by exact ⟨⟨_,_,rfl⟩,trivial⟩)) (dU oh ak)))) ?_,
 fun {X1 Y1 X2 Y2} hD0 hD1=>bc 2804 (ce [Cq]) [u (fun A J O=>aH w.params h g (A 0) (A 1) 0 er (A 13) 0 X0 Y0 1 X1 Y1 tx ty [(.bytes #[97] (J 7)),(.bytes #[] (J 8)),(.bytes #[97,98] (J 9))]) [0,1,13] [0],u (fun A J O=>bS w.params h g (A 0) (A 1) 0 er (A 14) 0 X1 Y1 0 X2 Y2 (J 10) (J 11) #[97] #[98] (J 12) (J 13)) [0,1,14] [0],u (fun A J O=>vQ w.params h g (A 96) (A 100) 0 1 [] [(.int 97 (J 164))]) [96,100] [],uT (fun A J O ρ=>kJ w.params h g (A 6) (A 0) (A 1) er X2 Y2 (v7 (O 2)) (v7 (O 3)) (A 8) (J 3) (J 4) (J 0) (J 1) (J 5) (.ref (A 7)) (J 6) (J 16) (.bytes (bk #[] [#[97],#[98]] 0) (bk 0 [(J 12),(J 13)] 0)) (J 17) (.bytes #[] (J 8)) (J 163) (.ref (A 40)) (J 14) (J 15) ρ) [6,0,1,2,3,8] [6,0,2,3] 1158 4] [] [] (be t1 hK 0 0 144 0 0) (aa (aI hD0) (aa (cx hD1) (aa (A5 (by exact trivial) (by exact ⟨⟨_,_,rfl⟩,trivial⟩)) (dU oh ak)))) ?_⟩ <;> intro cb ν τ υ π ς ρ own past κ bl p <;> kernel_rfl
theorem pD {w h g s r er X0 Y0 tx ty R F n K t1} (hK:ag K=n) (hn:n≤900):(∀ {X1 Y1 X2 Y2:Nat},a0 X0 Y0 3 1 X1 Y1→a0 X1 Y1 2 1 X2 Y2→CE w h g s r er X0 Y0 tx ty R F n K t1 1561) ∧
 (∀ {X1 Y1 X2 Y2:Nat},a0 X0 Y0 3 2 X1 Y1→a0 X1 Y1 2 0 X2 Y2→CE w h g s r er X0 Y0 tx ty R F n K t1 1561) ∧
 (∀ {X1 Y1 X2 Y2:Nat},a0 X0 Y0 3 2 X1 Y1→a0 X1 Y1 2 1 X2 Y2→CE w h g s r er X0 Y0 tx ty R F n K t1 1561):=by
 refine ⟨fun {X1 Y1 X2 Y2} hD0 hD1=>bc 2804 (ce [Cq]) [u (fun A J O=>aH w.params h g (A 0) (A 1) 0 er (A 13) 0 X0 Y0 1 X1 Y1 tx ty [(.bytes #[97] (J 7)),(.bytes #[] (J 8)),(.bytes #[97,98] (J 9))]) [0,1,13] [0],u (fun A J O=>bS w.params h g (A 0) (A 1) 0 er (A 14) 0 X1 Y1 1 X2 Y2 (J 10) (J 11) #[97] #[98] (J 12) (J 13)) [0,1,14] [0],u (fun A J O=>vQ w.params h g (A 96) (A 100) 0 1 [] [(.int 98 (J 164))]) [96,100] [],uT (fun A J O ρ=>kJ w.params h g (A 6) (A 0) (A 1) er X2 Y2 (v7 (O 2)) (v7 (O 3)) (A 8) (J 3) (J 4) (J 0) (J 1) (J 5) (.ref (A 7)) (J 6) (J 16) (.bytes (bk #[] [#[97],#[98]] 1) (bk 0 [(J 12),(J 13)] 1)) (J 17) (.bytes #[] (J 8)) (J 163) (.ref (A 40)) (J 14) (J 15) ρ) [6,0,1,2,3,8] [6,0,2,3] 1158 4] [] [] (be t1 hK 0 0 144 0 0) (aa (aI hD0) (aa (cx hD1) (aa (A5 (by exact trivial) (by exact ⟨⟨_,_,rfl⟩,trivial⟩)) (dU oh ak)))) ?_,
 fun {X1 Y1 X2 Y2} hD0 hD1=>bc 2860 (ce [CI,qU,dN,1100585480296,oI]) [u (fun A J O=>aH w.params h g (A 0) (A 1) 0 er (A 13) 0 X0 Y0 2 X1 Y1 tx ty [(.bytes #[97] (J 7)),(.bytes #[] (J 8)),(.bytes #[97,98] (J 9))]) [0,1,13] [0],u (fun A J O=>bS w.params h g (A 0) (A 1) 0 er (A 14) 0 X1 Y1 0 X2 Y2 (J 10) (J 11) #[97] #[98] (J 12) (J 13)) [0,1,14] [0],u (fun A J O=>vQ w.params h g (A 96) (A 100) 2 1 [(.int 97 (J 166)),(.int 98 (J 167))] [(.int 97 (J 168))]) [96,100] [],uT (fun A J O ρ=>kJ w.params h g (A 6) (A 0) (A 1) er X2 Y2 (v7 (O 2)) (v7 (O 3)) (A 8) (J 3) (J 4) (J 0) (J 1) (J 5) (.ref (A 7)) (J 6) (J 16) (.bytes (bk #[] [#[97],#[98]] 0) (bk 0 [(J 12),(J 13)] 0)) (J 17) (.bytes #[97,98] (J 9)) (J 164) (.ref (A 40)) (J 14) (J 15) ρ) [6,0,1,2,3,8] [6,0,2,3] 1158 4] [] [] (be t1 hK 0 0 144 0 0) (aa (aI hD0) (aa (cx hD1) (aa (A5 (by exact ⟨⟨_,_,rfl⟩,⟨⟨_,_,rfl⟩,trivial⟩⟩) (by exact ⟨⟨_,_,rfl⟩,trivial⟩)) (dU oh ak)))) ?_,
 fun {X1 Y1 X2 Y2} hD0 hD1=>bc 2860 (ce [CI,qU,dN,1100586528872,oI]) [u (fun A J O=>aH w.params h g (A 0) (A 1) 0 er (A 13) 0 X0 Y0 2 X1 Y1 tx ty [(.bytes #[97] (J 7)),(.bytes #[] (J 8)),(.bytes #[97,98] (J 9))]) [0,1,13] [0],u (fun A J O=>bS w.params h g (A 0) (A 1) 0 er (A 14) 0 X1 Y1 1 X2 Y2 (J 10) (J 11) #[97] #[98] (J 12) (J 13)) [0,1,14] [0],u (fun A J O=>vQ w.params h g (A 96) (A 100) 2 1 [(.int 97 (J 166)),(.int 98 (J 167))] [(.int 98 (J 168))]) [96,100] [],uT (fun A J O ρ=>kJ w.params h g (A 6) (A 0) (A 1) er X2 Y2 (v7 (O 2)) (v7 (O 3)) (A 8) (J 3) (J 4) (J 0) (J 1) (J 5) (.ref (A 7)) (J 6) (J 16) (.bytes (bk #[] [#[97],#[98]] 1) (bk 0 [(J 12),(J 13)] 1)) (J 17) (.bytes #[97,98] (J 9)) (J 164) (.ref (A 40)) (J 14) (J 15) ρ) [6,0,1,2,3,8] [6,0,2,3] 1158 4] [] [] (be t1 hK 0 0 144 0 0) (aa (aI hD0) (aa (cx hD1) (aa (A5 (by exact ⟨⟨_,_,rfl⟩,⟨⟨_,_,rfl⟩,trivial⟩⟩) (by exact ⟨⟨_,_,rfl⟩,trivial⟩)) (dU oh ak)))) ?_⟩ <;> intro cb ν τ υ π ς ρ own past κ bl p <;> kernel_rfl
theorem Fe {w h g s r er X0 Y0 tx ty R F n K t1} (hK:ag K=n) (hn:n≤900):CE w h g s r er X0 Y0 tx ty R F n K t1 1561 :=
 let ⟨d0,X1,Y1,h0⟩:=a0.ex X0 Y0 3
 let ⟨d1,X2,Y2,h1⟩:=a0.ex X1 Y1 2
 match d0,h0.lt (by decide),h0 with
 | 0,_,h0 =>
  match d1,h1.lt (by decide),h1 with
  | 0,_,h1=>(pW hK hn).1 h0 h1
  | 1,_,h1=>(pW hK hn).2.1 h0 h1
 | 1,_,h0 =>
  match d1,h1.lt (by decide),h1 with
  | 0,_,h1=>(pW hK hn).2.2 h0 h1
  | 1,_,h1=>(pD hK hn).1 h0 h1
 | 2,_,h0 =>
  match d1,h1.lt (by decide),h1 with
  | 0,_,h1=>(pD hK hn).2.1 h0 h1
  | 1,_,h1=>(pD hK hn).2.2 h0 h1
end
section
open PySem.SeqAt
noncomputable def ST.list:ST→List Cell
 | .nil=>[]
 | .node c l r=>c::(l.list ++ r.list)
theorem ST.get_list:∀ {t:ST} {i:Nat} {c:Cell},t.get i=some c→c∈t.list
 | .nil,i,c,h=>by simp [ST.get] at h
 | .node v l r,i,c,h=>by
  unfold ST.get at h
  unfold ST.list
  split at h
  ·cases h; exact .head _
  ·split at h
   ·exact .tail _ (List.mem_append_left _ (ST.get_list h))
   ·exact .tail _ (List.mem_append_right _ (ST.get_list h))
noncomputable def Spec.lift (S:Spec) (E:List Cell):Spec:={ S with pre:=S.pre ++ bX E }
noncomputable def lq:List Cell→Bool
 | []=>true
 | c::l=>match aV c.o with
  | true=>false
  | false=>lq l
theorem nB {d:Cell} {l:List Cell} (h:lq (d::l)=true):aV d.o=false∧lq l=true:=by
 have e:lq (d::l)=(match aV d.o with | true=>false | false=>lq l):=rfl
 rw [e] at h
 generalize aV d.o=b at h
 cases b with
 | true=>exact absurd h Bool.false_ne_true
 | false=>exact ⟨rfl,h⟩
theorem pS {l:List Cell} {c:Cell} (h:lq l=true) (hc:c∈l):aV c.o=false:=by
 induction l with
 | nil=>exact absurd hc List.not_mem_nil
 | cons d l ih =>
  have hh:=nB h
  rcases List.mem_cons.mp hc with e | hc
  ·rw [e]; exact hh.1
  ·exact ih hh.2 hc
theorem tj (P:Params) (h g:Nat→Nat):lq (EN P h g).list=true:=by kernel_rfl
theorem Spec.HoldsE.lift {w:World} {h g:Nat→Nat} {S:Post→Spec} (H:Spec.HoldsE (BB w h g) S) (hdi:∀ ρ,(S ρ).di=false):Spec.HoldsE (B2 w .nil) (fun ρ=>(S ρ).lift (EN w.params h g).list):=by
 intro Γ p s R ρ₀ ok k
 have hp:∀ c,c∈(EN w.params h g).list→s.heap.get? c.a=some c.o:=fun c hc=>by
  have:=(ok.pre (c.a,c.o) (List.mem_append_right _ (dI hc))).1
  rw [show ((S ρ₀).lift (EN w.params h g).list).di=false from hdi ρ₀] at this
  exact this.exact rfl
 have hnd:((S ρ₀).pre.map (·.1) ++ (bX (EN w.params h g).list).map (·.1)).Nodup:=by
  rw [← List.map_append]; exact ok.nd
 have topB:∀ s':Shared,da (B2 w .nil) s'→(∀ c,c∈(EN w.params h g).list→s'.heap.get? c.a=some c.o)→da (BB w h g) s':=fun s' ht hh=>⟨ht.1,fun i c e=>hh c (ST.get_list e)⟩
 refine H Γ p s R ρ₀ ⟨ok.code,ok.hand,ok.fit,ok.room,topB s ok.top hp,fun q=>?_,fun x hx=>?_,?_⟩ fun ρ s' bs ts A=>k ρ s' bs ts ⟨⟨A.top.1,fun i c e=>by simp [B2,ST.get] at e⟩,A.keep,A.size,A.gens,A.os,A.po,A.nw,A.new,A.nd,A.len,A.lent⟩
 ·obtain ⟨s1,s2⟩:=ok.stk q
  refine ⟨fun env he=>?_,s2⟩
  obtain ⟨q1,L,o,q2,q3,q4,q5,q6⟩:=s1 env he
  refine ⟨q1,L,o,q2,q3,q4,q5,q6.1,fun i c e ha=>?_⟩
  have hc:=ST.get_list e
  have:=hp c hc
  rw [ha,q3] at this
  cases this
  rw [pS (tj w.params h g) hc] at q4
  cases q4
 ·obtain ⟨q1,q2⟩:=ok.pre x (List.mem_append_left _ hx)
  refine ⟨q1,q2.1,fun i c e ha=>?_⟩
  have hc:=ST.get_list e
  refine (List.nodup_append.mp hnd).2.2 x.1 (List.mem_map_of_mem hx) c.a ?_ ha.symm
  exact List.mem_map_of_mem (f:=(·.1)) (dI hc)
 ·exact (List.nodup_append.mp hnd).1
end
noncomputable def eJ (P:Params) (h g:Nat→Nat) (s r e er X Y tx ty tt:Nat) (ρ:Post):RS:=ah P h g s r e er X Y (m7 ρ.d) ρ.X (ym ρ.Y) 7 tx ty tt
noncomputable def sw:List Nat→List Nat→Nat→Nat
 | k::ks,v::vs,i=>match Nat.beq k i with
  | true=>v
  | false=>sw ks vs i
 | _,_,_=>0
noncomputable def hK:List Nat:=[12,15,16,40,58,59,60,61,62,63,64,65,66,67,68,70,73,75,76,77,79,80,81,82,83,84,85,86,87,88,89,90,91,92,93,94,95,96,98,99,100,101,102,103,104,105,106,107,108,110,111,117,120,124,125,126]
noncomputable def gK:List Nat:=[63,169,171,173,175,177,179,181,183,185,187,189,191,195,198,199,201,203,205,219,221,223,225,226,229,232,235,238,241,244,247,250,253,256,259,262,265,268,271,274,277,279,281,283,285,287,289,291,293,295,297,311,317,325,360,361,363,364,366,368,370,372,374,376]
noncomputable def yW:List Value:=[.ref 1520,.ref 1525,.ref 1532,.ref 1537,.ref 1544,.ref 1551,.ref 1561]
noncomputable def jK (P:Params) (h g:Nat→Nat) (a e d t:Nat):RS:=au (aS Ld [.ref a,.int (Int.ofNat (m7 d)) t]) [⟨false,a,oL e yW⟩] (.ref (zZ (m7 d)))
noncomputable def E4 (P:Params) (h g:Nat→Nat) (d s r er X0 Y0 tx ty:Nat) (R F:V7) (n:Nat) (K:List (Nat × Value)) (t1:Nat) (ρ:Post):RS:={ Aa P h g 0 s r er X0 Y0 tx ty R F n K t1 ρ with c:=.call (.ref (zZ d)) ⟨[.ref s,.ref (h 126)],[]⟩ }
noncomputable def RS.onE (D:RS) (E:List Cell):RS:={ D with cells:=D.cells ++ E }
noncomputable def yh (P:Params) (h g:Nat→Nat) (d s r er X0 Y0 tx ty:Nat) (R F:V7) (n:Nat) (K:List (Nat × Value)) (t1:Nat) (ρ:Post):RS:=(E4 P h g d s r er X0 Y0 tx ty R F n K t1 ρ).onE (EN P h g).list
noncomputable def gW (P:Params) (h g:Nat→Nat) (d s r er X0 Y0 tx ty:Nat) (R F:V7) (n:Nat) (K:List (Nat × Value)) (t1 a12 a15 a16 a40 a58 a59 a60 a61 a62 a63 a64 a65 a66 a67 a68 a70 a73 a75 a76 a77 a79 a80 a81 a82 a83 a84 a85 a86 a87 a88 a89 a90 a91 a92 a93 a94 a95 a96 a98 a99 a100 a101 a102 a103 a104 a105 a106 a107 a108 a110 a111 a117 a120 a124 a125 a126 g63 g169 g171 g173 g175 g177 g179 g181 g183 g185 g187 g189 g191 g195 g198 g199 g201 g203 g205 g219 g221 g223 g225 g226 g229 g232 g235 g238 g241 g244 g247 g250 g253 g256 g259 g262 g265 g268 g271 g274 g277 g279 g281 g283 g285 g287 g289 g291 g293 g295 g297 g311 g317 g325 g360 g361 g363 g364 g366 g368 g370 g372 g374 g376:Nat) (ρ:Post):RS:=yh P (sw hK [a12,a15,a16,a40,a58,a59,a60,a61,a62,a63,a64,a65,a66,a67,a68,a70,a73,a75,a76,a77,a79,a80,a81,a82,a83,a84,a85,a86,a87,a88,a89,a90,a91,a92,a93,a94,a95,a96,a98,a99,a100,a101,a102,a103,a104,a105,a106,a107,a108,a110,a111,a117,a120,a124,a125,a126]) (sw gK [g63,g169,g171,g173,g175,g177,g179,g181,g183,g185,g187,g189,g191,g195,g198,g199,g201,g203,g205,g219,g221,g223,g225,g226,g229,g232,g235,g238,g241,g244,g247,g250,g253,g256,g259,g262,g265,g268,g271,g274,g277,g279,g281,g283,g285,g287,g289,g291,g293,g295,g297,g311,g317,g325,g360,g361,g363,g364,g366,g368,g370,g372,g374,g376]) d s r er X0 Y0 tx ty R F n K t1 ρ
noncomputable def xW (P:Params) (h g:Nat→Nat) (d s r er X0 Y0 tx ty:Nat) (R F:V7) (t1 a12 a15 a16 a40 a58 a59 a60 a61 a62 a63 a64 a65 a66 a67 a68 a70 a73 a75 a76 a77 a79 a80 a81 a82 a83 a84 a85 a86 a87 a88 a89 a90 a91 a92 a93 a94 a95 a96 a98 a99 a100 a101 a102 a103 a104 a105 a106 a107 a108 a110 a111 a117 a120 a124 a125 a126 g63 g169 g171 g173 g175 g177 g179 g181 g183 g185 g187 g189 g191 g195 g198 g199 g201 g203 g205 g219 g221 g223 g225 g226 g229 g232 g235 g238 g241 g244 g247 g250 g253 g256 g259 g262 g265 g268 g271 g274 g277 g279 g281 g283 g285 g287 g289 g291 g293 g295 g297 g311 g317 g325 g360 g361 g363 g364 g366 g368 g370 g372 g374 g376:Nat) (ρ:Post):RS:=yh P (sw hK [a12,a15,a16,a40,a58,a59,a60,a61,a62,a63,a64,a65,a66,a67,a68,a70,a73,a75,a76,a77,a79,a80,a81,a82,a83,a84,a85,a86,a87,a88,a89,a90,a91,a92,a93,a94,a95,a96,a98,a99,a100,a101,a102,a103,a104,a105,a106,a107,a108,a110,a111,a117,a120,a124,a125,a126]) (sw gK [g63,g169,g171,g173,g175,g177,g179,g181,g183,g185,g187,g189,g191,g195,g198,g199,g201,g203,g205,g219,g221,g223,g225,g226,g229,g232,g235,g238,g241,g244,g247,g250,g253,g256,g259,g262,g265,g268,g271,g274,g277,g279,g281,g283,g285,g287,g289,g291,g293,g295,g297,g311,g317,g325,g360,g361,g363,g364,g366,g368,g370,g372,g374,g376]) d s r er X0 Y0 tx ty R F 0 [] t1 ρ
noncomputable def CH (P:Params) (h g:Nat→Nat) (s r er X0 Y0 tx ty:Nat) (R F:V7) (n:Nat) (K:List (Nat × Value)) (t1 u1 u2 u3 u4:Nat):RS:=aG 600 (A6) true (aq 1520 [.ref s,.ref (h 126)]) [⟨true,s,bO 0 X0 Y0 tx ty r⟩,⟨true,r,oL er [.int 1 u1,.int 0 u2,.int 0 u3,.int 2 u4]⟩,cT h true R,cU h true F,bP P h g true n t1,cS h true n K]
noncomputable def ET (P:Params) (h g:Nat→Nat) (a e:Nat):RS:=aG 649 [[.caller]] true (aq 1568 [.ref a]) [⟨false,a,oL e []⟩]
noncomputable def mb (P:Params) (h:Nat→Nat) (g:Nat→Nat) (s:Nat) (r:Nat) (er:Nat) (X0:Nat) (Y0:Nat) (tx:Nat) (ty:Nat) (R:V7) (F:V7) (n:Nat) (K:List (Nat × Value)) (t1:Nat) (u1:Nat) (u2:Nat) (u3:Nat) (u4:Nat):RS:=(CH P h g s r er X0 Y0 tx ty R F n K t1 u1 u2 u3 u4).fin [67,68,63] [206,129,130,128,131,132,122,123,124] (fun b t=>[(oL 0 [(.int (Int.ofNat X0) tx),(.int (Int.ofNat Y0) ty),(.ref r)]),(oL (Nat.succ (Nat.succ (Nat.succ (Nat.succ er)))) []),(oL 0 (fA (.bytes #[97,195,169] (nb t 0)) R)),(oL 7 (fA (.bool true) F)),(bP P h g true (n+1) (nb t 1)).o,(oK (n+1) (List.cons (Prod.mk (nb t 1) (.ref (nb b 0))) K))]) (fun b t=>[⟨(.ref 1271),(some (nb b 1)),Data.plain,#[]⟩,⟨(.type L0),none,(Data.dict #[(eS P Q9 (nb t 2) (.str Qb (nb t 3))),(eS P Qa (nb t 4) (.ref (nb b 2))),(eS P Q8 (nb t 5) (.str Q7 2089))] 3),#[]⟩,(oL 3 [(.int 97 (nb t 6)),(.int 195 (nb t 7)),(.int 169 (nb t 8))])]) (fun b t=>(ok (.bool true)))
noncomputable def wl (P:Params) (h g:Nat→Nat) (s r er X0 Y0 tx ty:Nat) (R F:V7) (t1 u1 u2 u3 u4 a12 a15 a16 a40 a58 a59 a60 a61 a62 a63 a64 a65 a66 a67 a68 a70 a73 a75 a76 a77 a79 a80 a81 a82 a83 a84 a85 a86 a87 a88 a89 a90 a91 a92 a93 a94 a95 a96 a98 a99 a100 a101 a102 a103 a104 a105 a106 a107 a108 a110 a111 a117 a120 a124 a125 a126 g63 g169 g171 g173 g175 g177 g179 g181 g183 g185 g187 g189 g191 g195 g198 g199 g201 g203 g205 g219 g221 g223 g225 g226 g229 g232 g235 g238 g241 g244 g247 g250 g253 g256 g259 g262 g265 g268 g271 g274 g277 g279 g281 g283 g285 g287 g289 g291 g293 g295 g297 g311 g317 g325 g360 g361 g363 g364 g366 g368 g370 g372 g374 g376:Nat):RS:=(mb P (sw hK [a12,a15,a16,a40,a58,a59,a60,a61,a62,a63,a64,a65,a66,a67,a68,a70,a73,a75,a76,a77,a79,a80,a81,a82,a83,a84,a85,a86,a87,a88,a89,a90,a91,a92,a93,a94,a95,a96,a98,a99,a100,a101,a102,a103,a104,a105,a106,a107,a108,a110,a111,a117,a120,a124,a125,a126]) (sw gK [g63,g169,g171,g173,g175,g177,g179,g181,g183,g185,g187,g189,g191,g195,g198,g199,g201,g203,g205,g219,g221,g223,g225,g226,g229,g232,g235,g238,g241,g244,g247,g250,g253,g256,g259,g262,g265,g268,g271,g274,g277,g279,g281,g283,g285,g287,g289,g291,g293,g295,g297,g311,g317,g325,g360,g361,g363,g364,g366,g368,g370,g372,g374,g376]) s r er X0 Y0 tx ty R F 0 [] t1 u1 u2 u3 u4).onE (EN P (sw hK [a12,a15,a16,a40,a58,a59,a60,a61,a62,a63,a64,a65,a66,a67,a68,a70,a73,a75,a76,a77,a79,a80,a81,a82,a83,a84,a85,a86,a87,a88,a89,a90,a91,a92,a93,a94,a95,a96,a98,a99,a100,a101,a102,a103,a104,a105,a106,a107,a108,a110,a111,a117,a120,a124,a125,a126]) (sw gK [g63,g169,g171,g173,g175,g177,g179,g181,g183,g185,g187,g189,g191,g195,g198,g199,g201,g203,g205,g219,g221,g223,g225,g226,g229,g232,g235,g238,g241,g244,g247,g250,g253,g256,g259,g262,g265,g268,g271,g274,g277,g279,g281,g283,g285,g287,g289,g291,g293,g295,g297,g311,g317,g325,g360,g361,g363,g364,g366,g368,g370,g372,g374,g376])).list
section
open PySem.SeqAt
noncomputable def z1:List Value→Nat
 | []=>0
 | _::_=>1
noncomputable def EG (P:Params) (h g:Nat→Nat) (tu:Bool) (a b n:Nat) (m:List Value):RS:=(au (.builtin Mine.SL.s13725091732456768858x13 ⟨[.ref a,.ref b],[]⟩) [⟨true,a,oL 0 []⟩,⟨false,b,match tu with | true=>oT m | false=>oL n m⟩] .none).fin [] [] (fun _ _=>[oL (z1 m) m]) (fun _ _=>[]) (fun _ _=>ok .none)
noncomputable def Ad (P:Params) (h g:Nat→Nat) (a b:Nat) (m:List Value):RS:=EG P h g true a b 0 m
noncomputable def vP (P:Params) (h g:Nat→Nat) (a b n:Nat) (m:List Value):RS:=EG P h g false a b n m
theorem n8 {B:Base} {D:RS} {s s':Shared} {d:Nat} {o':Obj} (ht:da B s) (hfree:B.Free d) (hmu:cA D.cells=[d]) (hb:D.bx=[]) (htx:D.tx=[])
 (hpo:D.po [] [] BH q0=[o']) (ne:∀ b,b≠d→s'.heap.get? b=s.heap.get? b) (at_:s'.heap.get? d=some o') (hz:s.heap.objs.size≤s'.heap.objs.size) (h2:s'.gens=s.gens) (h3:s'.os=s.os):After B D.S s s' [] []:=by
 have em:D.S.mu=[d]:=hmu
 refine ⟨⟨fun a x h=>?_,fun i c h=>?_⟩,fun a x h q=>.inl ?_,hz,h2,h3,fun j a x h hx=>?_,fun j a o h=>by simp at h,fun a h=>by simp at h,List.nodup_nil,?_,?_⟩
 ·rw [ne a (fun e=>by subst e; have:=hfree.1; rw [h] at this; cases this)]; exact ht.1 a x h
 ·rw [ne c.a (hfree.2 i c h)]; exact ht.2 i c h
 ·rw [ne a (fun e=>q (by rw [em,e]; exact List.mem_singleton.mpr rfl))]; exact h
 ·rw [em] at h
  have hp:(D.S.po [] [])=[o']:=hpo
  rw [hp] at hx
  cases j with
  | zero =>
   simp only [List.getElem?_cons_zero,Option.some.injEq] at h hx
   subst h hx
   exact .inl at_
  | succ j=>simp at h
 ·show 0=ag D.bx; rw [hb]; rfl
 ·show 0=ag D.tx; rw [htx]; rfl
theorem En {en:ST} (w:World) (h g:Nat→Nat) (tu:Bool) (a b n:Nat) (m:List Value) (hm:m.length≤1000):(EG w.params h g tu a b n m).S.Holds (B2 w en):=by
 cases tu
 all_goals
  refine am rfl fun A s₀ R hh hu hlv ht hcell hnd kk=>?_
  have o1:s₀.heap.get? a=some (oL 0 []):=(hcell _ (.head _)).1
  have o2:s₀.heap.get? b=some _:=(hcell _ (.tail _ (.head _))).1
  have hf:=(hcell _ (.head _)).2
  have o1':=o1
  unfold oL at o1
  rw [gf] at o1
  show codeAny _ _ (.builtin _ _) _ _
  rw [show Mine.SL.s13725091732456768858x13 = "list.__init__" from aL (by kernel_rfl)]
  refine codeAny_builtin F.entry_list_init ?_
  rw [Around.under_plainId (by first | decide +kernel | kernel_rfl) _]
  have hne:b≠a:=fun e=>by
   subst e
   simp only [EG,RS.fin,RS.finO,au,aG,List.map_cons,List.nodup_cons,List.mem_cons,true_or,not_true,false_and] at hnd
  have hsz:(⟨m⟩:Array Value).size≤sizeLine:=Nat.le_trans hm (by decide)
  have hcd : ∃ T o n', (T = "list" ∨ T = "tuple") ∧ s₀.heap.get? b = some o ∧ o.cls = .type T ∧ o.data = .seq ⟨m⟩ n' := by
   first
    | exact ⟨_,_,_,.inr rfl,o2,lV,rfl⟩
    | exact ⟨_,_,_,.inl rfl,o2,gf,rfl⟩
  obtain ⟨T,o,n',hT,ho,hc,hd⟩:=hcd
  refine wpAny_list_init_seq (hsz:=hsz) a b hT hne o1 ho hc hd ?_
  have g1:=Heap.get?_update_self (Obj.mapSeq (fun _=>(#[]:Array Value))) o1 rfl
  have g2:=Heap.get?_update_self (Obj.mapSeq (· ++ (⟨m⟩:Array Value))) g1 rfl
  refine kk _ [] [] (n8 (d:=a) (o':=oL (z1 m) m) ht hf rfl rfl rfl rfl (fun b hb=>?_) ?_ ?_ rfl rfl)
  ·show ((s₀.heap.update a _).update a _).get? b=_
   rw [Heap.get?_update_ne _ _ _ _ hb,Heap.get?_update_ne _ _ _ _ hb]
  ·refine g2.trans ?_
   cases m with
   | nil => show some (⟨.type "list", _, .seq _ _, _⟩ : Obj) = _; rw [← gf]; rfl
   | cons v m =>
    show some (⟨.type "list", _, .seq (#[] ++ ⟨v :: m⟩) _, _⟩ : Obj) = _
    rw [← gf]
    simp [oL,z1]
  ·show _≤((s₀.heap.update a _).update a _).objs.size
   rw [Heap.size_after_update,Heap.size_after_update]; exact Nat.le_refl _
end
noncomputable def wQ (P:Params) (h:Nat→Nat) (g:Nat→Nat) (a:Nat) (e:Nat):RS:=(ET P h g a e).fin [] [] nN nN (fun b t=>(ok (.bool true)))
theorem Bu (w:World) h g a e (cb:Bool):(wQ w.params h g a e).Runs2 (B2 w .nil) 5316 (ce [fb,fb,ai,0x100c0800002004020280200408000030200000c08,ae,j4,1032,av,1060876,aj,0x4100000e0000c,zy,0x4100001001c10,zy,bj,1040,zy,0x102003020000400704014,j7,1076895744,j4,j4,1025,fv,0x4040000800801008160080102008,aj,1052,ae,1052,mQ,jV,kh,gC,jT,jT,jT,jT,nz,nz,ae,1070,b7,0x4020c0000c030,qS,nz,nz,nz,1119926318,y8,0x1004040002a0502a,gL,j7,c6,1128267828,gC,1075254,ff,1130420224,yj,ps,1076280,iH,iH,1080,c5,1187600484434,iH,ae,zN,iH,1080,ae,c5,1198343155804,c5,1198343155804,c5,1198343155804,iH,1105920,jV,Be,qB,qB,1105920,jV,1199571064,cQ,qq,qq,1073803386,uC,1142,uC,1142,uC,1142,uC,1159699890294,jV,1205862526,cQ,1113216,fD,fD,fD,fD,1208090624,uM,1179776,uM,1179776,uM,1179776,uM,1132519424,dz,1241245683712,cQ,1116294,ic,ic,ic,ic,1024,rZ,rZ,rZ,rZ,rv,rv,rv,rv,nx,nx,nx,nx,nx,nx,gL,ei,1237319836,gC,0x49e0004e278001389e,p5,1182,p5,1182,p5,1210526,p5,1182,p5,dz,ae,1247805606,cQ,gg,gg,1247977640,av,BV,1218728,av,BV,jV,1256194222,cQ,lK,lK,1073831088,tP,tP,tP,tP,jD,jD,jD,jD,jD,jD,jD,jD,jD,jD,jD,jD,jD,jD,jD,jD,jD,pd,pd,pd,pd,pd,rN,c6,c5,oU,oU,oU,oU,oU,0x1358d6358b2358d63586a358d6,qi,qi,qi,qi,qi,1202,iP,1256374486,av,1198,CV,1052672,jV,1327497458,gC,0x13d0f4000793d0001e4f40007a3d8793d0001e4f4,gy,ae,1270,b7,1365799854328,gO,C5,ae,1270,ae,1262,nJ,ae,1274,ae,0x13d0fc3e0fc000f8000f83f0f83e8003e8003e8fa,gy,av,C5,av,0x140100400004000040100,aj,0x140902001020010220003409004010000100,l9,l9,l9,l9,l9,l9,l9,0x13d0824190642902,gy,1268,gy,1268,gy,1298676,gy,1298676,gy,1268,gy,1268,gy,1268,gy,jj,c6,1077937156,ae,CU,jj,c6,0x146118460004600046118,aj,0x12311a2311a4691a468004680046800469184611800118,jj,1077936132,ai,0x51c0008d470002351c,iO,0x51c008010191e01801,iO,0x1470060080601800018000180601806,ae,0x40401116001160011645916,bB,aj,wy,1051477,aj,wy,1051480,aj,wy,1051483,aj,0x14a11a4691a0011a0011a]) [⟨fun A tk O ρs ρ=>(dS w.params h g true false (DT.s false (A 0) e []) (DT.s false (A 4) 0 []) false []).S,[0,4],[],none⟩,⟨fun A tk O ρs ρ=>(dS w.params h g false false (DT.s false (A 0) e []) (DT.s false (A 10) 0 []) true []).S,[0,10],[],none⟩,⟨fun A tk O ρs ρ=>(vP w.params h g (A 23) (A 14) 0 [(.ref (A 12)),(.ref (A 12)),(.ref (A 12)),(.ref (A 12)),(.ref (A 12)),(.ref (A 12)),(.ref (A 12))]).S,[23,14],[23],none⟩,⟨fun A tk O ρs ρ=>(Ad w.params h g (A 123) (A 118) []).S,[123,118],[123],none⟩,⟨fun A tk O ρs ρ=>(dS w.params h g true false (DT.s false (A 2) 0 [(DT.v (.int 0 (tk 1))),(DT.v (.int 1 (tk 2))),(DT.v (.int 0 (tk 3))),(DT.v (.int 0 (tk 4))),(DT.v (.int 2 (tk 5)))]) (DT.s false (A 142) 0 []) true []).S,[2,142],[],none⟩,⟨fun A tk O ρs ρ=>(wl w.params h g (A 11) (A 2) 1 0 820607 (tk 27) (tk 21) (v7 (O 125)) (v7 (O 129)) (tk 196) (tk 2) (tk 3) (tk 4) (tk 5) (A 21) (A 24) (A 25) (A 49) (A 67) (A 68) (A 69) (A 70) (A 71) (A 72) (A 73) (A 74) (A 75) (A 76) (A 77) (A 79) (A 82) (A 84) (A 85) (A 86) (A 88) (A 89) (A 90) (A 91) (A 92) (A 93) (A 94) (A 95) (A 96) (A 97) (A 98) (A 99) (A 100) (A 101) (A 102) (A 103) (A 104) (A 105) (A 107) (A 108) (A 109) (A 110) (A 111) (A 112) (A 113) (A 114) (A 115) (A 116) (A 117) (A 119) (A 120) (A 126) (A 129) (A 133) (A 134) (A 135) (tk 63) (tk 169) (tk 171) (tk 173) (tk 175) (tk 177) (tk 179) (tk 181) (tk 183) (tk 185) (tk 187) (tk 189) (tk 191) (tk 195) (tk 198) (tk 199) (tk 201) (tk 203) (tk 205) (tk 219) (tk 221) (tk 223) (tk 225) (tk 226) (tk 229) (tk 232) (tk 235) (tk 238) (tk 241) (tk 244) (tk 247) (tk 250) (tk 253) (tk 256) (tk 259) (tk 262) (tk 265) (tk 268) (tk 271) (tk 274) (tk 277) (tk 279) (tk 281) (tk 283) (tk 285) (tk 287) (tk 289) (tk 291) (tk 293) (tk 295) (tk 297) (tk 311) (tk 317) (tk 325) (tk 360) (tk 361) (tk 363) (tk 364) (tk 366) (tk 368) (tk 370) (tk 372) (tk 374) (tk 376)).S,[11,2,126,129,76,79,135,86,88,84,97,114,92,108,24,119,103,116,95,110,85,25,120,99,115,94,109,77,90,107,96,111],[11,2,126,129,76,79],none⟩,⟨fun A tk O ρs ρ=>(eJ w.params h g (A 11) (A 2) 0 5 0 820607 (tk 27) (tk 21) (tk 403) ρ).S,[11,2],[11],none⟩,⟨fun A tk O ρs ρ=>(jK w.params h g (A 138) 0 (ρs 152).3 (tk 404)).S,[138],[],none⟩,⟨fun A tk O ρs ρ=>(gW w.params h g (m7 (ρs 152).3) (A 11) (A 2) 5 (ρs 152).1 (ym (ρs 152).2) (tk 405) (tk 406) (v7 (O 126)) (v7 (O 129)) 1 [(Prod.mk (tk 393) (.ref (A 143)))] (tk 393) (A 21) (A 24) (A 25) (A 49) (A 67) (A 68) (A 69) (A 70) (A 71) (A 72) (A 73) (A 74) (A 75) (A 76) (A 77) (A 79) (A 82) (A 84) (A 85) (A 86) (A 88) (A 89) (A 90) (A 91) (A 92) (A 93) (A 94) (A 95) (A 96) (A 97) (A 98) (A 99) (A 100) (A 101) (A 102) (A 103) (A 104) (A 105) (A 107) (A 108) (A 109) (A 110) (A 111) (A 112) (A 113) (A 114) (A 115) (A 116) (A 117) (A 119) (A 120) (A 126) (A 129) (A 133) (A 134) (A 135) (tk 63) (tk 169) (tk 171) (tk 173) (tk 175) (tk 177) (tk 179) (tk 181) (tk 183) (tk 185) (tk 187) (tk 189) (tk 191) (tk 195) (tk 198) (tk 199) (tk 201) (tk 203) (tk 205) (tk 219) (tk 221) (tk 223) (tk 225) (tk 226) (tk 229) (tk 232) (tk 235) (tk 238) (tk 241) (tk 244) (tk 247) (tk 250) (tk 253) (tk 256) (tk 259) (tk 262) (tk 265) (tk 268) (tk 271) (tk 274) (tk 277) (tk 279) (tk 281) (tk 283) (tk 285) (tk 287) (tk 289) (tk 291) (tk 293) (tk 295) (tk 297) (tk 311) (tk 317) (tk 325) (tk 360) (tk 361) (tk 363) (tk 364) (tk 366) (tk 368) (tk 370) (tk 372) (tk 374) (tk 376) ρ).S,[11,2,126,129,76,79,135,86,88,84,97,114,92,108,24,119,103,116,95,110,85,25,120,99,115,94,109,77,90,107,96,111],[11,126,129,76,79],none⟩,⟨fun A tk O ρs ρ=>(eJ w.params h g (A 11) (A 2) 0 5 (ρs 154).1 (ym (ρs 154).2) ((ρs 154).7 (OfNat.ofNat 0)) ((ρs 154).7 (OfNat.ofNat 1)) (tk 409) ρ).S,[11,2],[11],none⟩,⟨fun A tk O ρs ρ=>(jK w.params h g (A 138) 0 (ρs 155).3 (tk 410)).S,[138],[],none⟩,⟨fun A tk O ρs ρ=>(gW w.params h g (m7 (ρs 155).3) (A 11) (A 2) 5 (ρs 155).1 (ym (ρs 155).2) (tk 411) (tk 412) (v7 (O 126)) (v7 (O 129)) (ag (aE 3 (ρs 154).6)) (aE 3 (ρs 154).6) ((ρs 154).7 (OfNat.ofNat 2)) (A 21) (A 24) (A 25) (A 49) (A 67) (A 68) (A 69) (A 70) (A 71) (A 72) (A 73) (A 74) (A 75) (A 76) (A 77) (A 79) (A 82) (A 84) (A 85) (A 86) (A 88) (A 89) (A 90) (A 91) (A 92) (A 93) (A 94) (A 95) (A 96) (A 97) (A 98) (A 99) (A 100) (A 101) (A 102) (A 103) (A 104) (A 105) (A 107) (A 108) (A 109) (A 110) (A 111) (A 112) (A 113) (A 114) (A 115) (A 116) (A 117) (A 119) (A 120) (A 126) (A 129) (A 133) (A 134) (A 135) (tk 63) (tk 169) (tk 171) (tk 173) (tk 175) (tk 177) (tk 179) (tk 181) (tk 183) (tk 185) (tk 187) (tk 189) (tk 191) (tk 195) (tk 198) (tk 199) (tk 201) (tk 203) (tk 205) (tk 219) (tk 221) (tk 223) (tk 225) (tk 226) (tk 229) (tk 232) (tk 235) (tk 238) (tk 241) (tk 244) (tk 247) (tk 250) (tk 253) (tk 256) (tk 259) (tk 262) (tk 265) (tk 268) (tk 271) (tk 274) (tk 277) (tk 279) (tk 281) (tk 283) (tk 285) (tk 287) (tk 289) (tk 291) (tk 293) (tk 295) (tk 297) (tk 311) (tk 317) (tk 325) (tk 360) (tk 361) (tk 363) (tk 364) (tk 366) (tk 368) (tk 370) (tk 372) (tk 374) (tk 376) ρ).S,[11,2,126,129,76,79,135,86,88,84,97,114,92,108,24,119,103,116,95,110,85,25,120,99,115,94,109,77,90,107,96,111],[11,126,129,76,79],none⟩,⟨fun A tk O ρs ρ=>(eJ w.params h g (A 11) (A 2) 0 5 (ρs 157).1 (ym (ρs 157).2) ((ρs 157).7 (OfNat.ofNat 0)) ((ρs 157).7 (OfNat.ofNat 1)) (tk 415) ρ).S,[11,2],[11],none⟩,⟨fun A tk O ρs ρ=>(jK w.params h g (A 138) 0 (ρs 158).3 (tk 416)).S,[138],[],none⟩,⟨fun A tk O ρs ρ=>(gW w.params h g (m7 (ρs 158).3) (A 11) (A 2) 5 (ρs 158).1 (ym (ρs 158).2) (tk 417) (tk 418) (v7 (O 126)) (v7 (O 129)) (ag (aE (Nat.succ (Nat.succ (List.brecOn.go (aE 3 (ρs 154).6) (ag._f)).1)) (ρs 157).6)) (aE (Nat.succ (Nat.succ (List.brecOn.go (aE 3 (ρs 154).6) (ag._f)).1)) (ρs 157).6) ((ρs 157).7 (OfNat.ofNat 2)) (A 21) (A 24) (A 25) (A 49) (A 67) (A 68) (A 69) (A 70) (A 71) (A 72) (A 73) (A 74) (A 75) (A 76) (A 77) (A 79) (A 82) (A 84) (A 85) (A 86) (A 88) (A 89) (A 90) (A 91) (A 92) (A 93) (A 94) (A 95) (A 96) (A 97) (A 98) (A 99) (A 100) (A 101) (A 102) (A 103) (A 104) (A 105) (A 107) (A 108) (A 109) (A 110) (A 111) (A 112) (A 113) (A 114) (A 115) (A 116) (A 117) (A 119) (A 120) (A 126) (A 129) (A 133) (A 134) (A 135) (tk 63) (tk 169) (tk 171) (tk 173) (tk 175) (tk 177) (tk 179) (tk 181) (tk 183) (tk 185) (tk 187) (tk 189) (tk 191) (tk 195) (tk 198) (tk 199) (tk 201) (tk 203) (tk 205) (tk 219) (tk 221) (tk 223) (tk 225) (tk 226) (tk 229) (tk 232) (tk 235) (tk 238) (tk 241) (tk 244) (tk 247) (tk 250) (tk 253) (tk 256) (tk 259) (tk 262) (tk 265) (tk 268) (tk 271) (tk 274) (tk 277) (tk 279) (tk 281) (tk 283) (tk 285) (tk 287) (tk 289) (tk 291) (tk 293) (tk 295) (tk 297) (tk 311) (tk 317) (tk 325) (tk 360) (tk 361) (tk 363) (tk 364) (tk 366) (tk 368) (tk 370) (tk 372) (tk 374) (tk 376) ρ).S,[11,2,126,129,76,79,135,86,88,84,97,114,92,108,24,119,103,116,95,110,85,25,120,99,115,94,109,77,90,107,96,111],[11,126,129,76,79],none⟩] cb:=by
 intro ν τ υ π ς ρ own past κ bl p
 kernel_rfl
theorem xN (w:World) h g s r er X0 Y0 tx ty R F n K t1 u1 u2 u3 u4 (cb:Bool):(mb w.params h g s r er X0 Y0 tx ty R F n K t1 u1 u2 u3 u4).RunsL (BB w h g) (Er w.params h g) 3127 (ce [ny,ec,ai,0x418000180000b0600002c18,ae,1048,ae,lP,1046,ai,rc,1050,pT,1052,s8,1075213,tS,1050,ae,gS,1105229854,aj,1107296286,vW,vW,vW,1060,dj,yp,mX,1076,kq,av,pH,1105920,ae,1080,ae,0x4360003600036,nY,1082,pT,1084,s8,1107997,tS,1082,ae,0x43600036000360d836,gJ,ai,0x440000400001f1000007c40,ae,1088,ae,ge,1086,ai,1081410,kB,1116160,pT,1092,s8,1116193,tS,1090,ae,oX,gJ,ai,iw,iw,1094,pT,1096,s8,1120291,tS,1094,ec,uE,1024,xX,1185449848906,dJ,1088429072,fE,fE,fE,oS,0x4520a052148001480014852,ax,qR,1189794021460,xb,xb,xb,0x11685a168580a454,aj,0x4001705c0005a,zg,1048668,zg,1048668,zg,1120,zJ,AP,ew,1163376,e7,1106034,nF,1165312,yo,1221968528432,wM,hJ,1138,wM,0x11d0741d01300437,aj,0x4761d8001d8001d87600074,yu,yu,yu,1230569068660,nF,kR,1138,aZ,1138,qx,1165412,bb,1193396338,ai,0x10003d1f0000f47c0003d1f0000f47c,rG,rG,rG,rG,1148,dg,1148,bF,1148,nH,0x4261f826004120043500028,dd,1112082,av,1148,b7,0x4800fc80200002000020080,ax,0x1000820008200082,zP,zP,zP,0x47c0f47c000861008220882,oi,1148,n4,1148,ae,0x4800008000080,ae,1148,ae,0x428000800008000080,cR,1126,av,0x12388e23800238002388e,aj,0x112494250020cc4912047014402408e2388e0008e,zi,1048722,oc,zB,1164,av,0x125896258002580025896,aj,0x112c03260962589600096,xP,xP,xP,1048728,pM,0x126852268010384d2709c2b098,kV,1089612,aw,1042,zB,0x4ae2b8ae2b88c,oa,0x4520005200052,oa,0x4b02c8b0004520005200052,jA,1138775,rd,0x12e00016cb80005b2e00016cb8,eH,1073934524,j9,1049788,pC,1025,pC,0x12e05c2e85b2e0003005d2f001,bb,1237178,ai,0x130800180c20006030800180c2,br,1218,qz,1206,ew,1247426,e7,0x131000184c40006131000184c4,aZ,1220,qz,0x13105900430000b6,bF,1220,qz,0x13101300437000b6,bF,1220,qz,1048758,hJ,1281562822,aj,1314469707974,si,1253475,si,1253475,si,1253475,si,0x13106131000184c4000613100033063,aZ,1220,qz,1249462,bb,1279463620,ai,0x4ce0006633800198ce0006633800198ce,dg,1230,dg,1230,nH,gi,1230,dg,1230,nH,1064,bj,1230,br,1230,fh,1289853134,bF,1230,nH,0x42634826004120043500028,dd,1155090,av,1230,av,0x4d0340d0340d0340d0,aj,0x4d0340d4000d0,yV,yV,yV,qa,0x4d636869350d0,lM,1208,av,0x1370dc3700037000370dc,aj,0x11c0e238802170701bc6e0143f378dc370dc000dc,tV,1308856544,dN,1164399]) [⟨fun A tk O ρs ρ=>(aK w.params h g n K t1 (A 63) Qb (tk 128)).S,[4,5],[4,5],none⟩,⟨fun A tk O ρs ρ=>(cf w.params h g 3 97 (tk 122) 195 (tk 123) 169 (tk 124) (A 63) n K (tk 129) (tk 129) (A 67) (A 68) (tk 130) (tk 131) (tk 132) (tk 128) 2089 (tk 129) (tk 146) (A 78) (A 79)).S,[63,78,79,4,5,67,68],[],none⟩,⟨fun A tk O ρs ρ=>(cj w.params h g 3 97 (tk 122) 195 (tk 123) 169 (tk 124) (A 63) n K (tk 129) (tk 129) (A 67) (A 68) (tk 130) (tk 131) (tk 132) (tk 128) 2089 (tk 129) (tk 149) (A 80) (A 81)).S,[63,80,81,4,5,67,68],[],none⟩,⟨fun A tk O ρs ρ=>(ck w.params h g 3 97 (tk 122) 195 (tk 123) 169 (tk 124) (A 63) n K (tk 129) (tk 129) (A 67) (A 68) (tk 130) (tk 131) (tk 132) (tk 128) 2089 (tk 129) (tk 152) (A 82) (A 83)).S,[63,82,83,4,5,67,68],[],none⟩,⟨fun A tk O ρs ρ=>(g9 w.params h g 3 97 (tk 122) 195 (tk 123) 169 (tk 124) (A 63) n K (tk 129) (tk 129) (A 67) (A 68) (tk 130) (tk 131) (tk 132) (tk 128) 2089 (tk 126) (tk 129) (tk 133) (tk 135) (tk 137) (A 69)).S,[63,69,4,5,67,68],[],none⟩] cb:=by
 intro ν τ υ π ς ρ own past κ bl p
 kernel_rfl
section
open PySem.SeqAt
theorem B7 {w:World} {h g s r er X0 Y0 tx ty R F n K t1 u1 u2 u3 u4} (hK:ag K=n) (hn:n≤900):(mb w.params h g s r er X0 Y0 tx ty R F n K t1 u1 u2 u3 u4).S.Holds (BB w h g):=RS.doneL (cy w h g) (xf w h g).all (.one fun cb=>xN w h g s r er X0 Y0 tx ty R F n K t1 u1 u2 u3 u4 cb) rfl (fun _ _=>rfl) (aP (fun _ _ _ _=>(ba.2.1 hK (by omega)).e) (aP (fun _ _ _ _=>(dA.2.2.1 hK (by omega)).e) (aP (fun _ _ _ _=>(dA.2.2.2.1 hK (by omega)).e) (aP (fun _ _ _ _=>(dA.2.2.2.2.1 hK (by omega)).e) (aP (fun _ _ _ _=>(lw.2.2.1 hK (by omega)).e) ak)))))
theorem eK:∀ (l m:List Cell),bX (l ++ m)=bX l ++ bX m
 | [],_=>rfl
 | c::l,m=>congrArg ((c.a,c.o)::·) (eK l m)
theorem lH (l m:List Cell) (h:cA m=[]):cA (l ++ m)=cA l:=by
 induction l with
 | nil=>exact h
 | cons c l ih =>
  show cA (c::(l ++ m))=_
  unfold cA
  rw [ih]
theorem CB (P:Params) (h g:Nat→Nat):cA (EN P h g).list=[]:=by kernel_rfl
theorem Bj (D:RS) (E:List Cell) (h:cA E=[]):(D.onE E).S=D.S.lift E:=by
 show (⟨D.lv,D.sh,D.c,bX (D.cells ++ E),cA (D.cells ++ E),_,_,_,_,_,_,_⟩:Spec)=⟨D.lv,D.sh,D.c,bX D.cells ++ bX E,cA D.cells,_,_,_,_,_,_,_⟩
 rw [eK,lH _ _ h]
 rfl
theorem vm {w:World} {h g:Nat→Nat} {S:Post→RS} (H:Spec.HoldsE (BB w h g) (fun ρ=>(S ρ).S)) (hdi:∀ ρ,(S ρ).di=false):Spec.HoldsE (B2 w .nil) (fun ρ=>((S ρ).onE (EN w.params h g).list).S):=by
 have e:(fun ρ=>((S ρ).onE (EN w.params h g).list).S)=fun ρ=>(S ρ).S.lift (EN w.params h g).list:=funext fun ρ=>Bj _ _ (CB _ _ _)
 rw [e]
 exact Spec.HoldsE.lift H hdi
theorem C1 {w:World} {h g:Nat→Nat} {d s r er X0 Y0 tx ty:Nat} {R F:V7} {n:Nat} {K:List (Nat × Value)} {t1:Nat} (hK:ag K=n) (hn:n≤900) (hd:d<7) :
 Spec.HoldsE (BB w h g) (fun ρ=>(E4 w.params h g d s r er X0 Y0 tx ty R F n K t1 ρ).S) :=
 match d,hd with
 | 0,_=>Fs hK hn
 | 1,_=>EU hK hn
 | 2,_=>FD hK hn
 | 3,_=>FI hK hn
 | 4,_=>EZ hK hn
 | 5,_=>EM hK hn
 | 6,_=>Fe hK hn
theorem qJ (d:Nat):m7 d<7:=Nat.mod_lt _ (by decide)
theorem ga {w:World} {h g:Nat→Nat} {d s r er X0 Y0 tx ty:Nat} {R F:V7} {n:Nat} {K:List (Nat × Value)} {t1:Nat} (hK:ag K=n) (hn:n≤900) :
 Spec.HoldsE (B2 w .nil) (fun ρ=>(yh w.params h g (m7 d) s r er X0 Y0 tx ty R F n K t1 ρ).S) :=
 vm (C1 hK hn (qJ d)) (fun _=>rfl)
theorem dl {w:World} {en:ST} {h g:Nat→Nat} {s r e er X Y tx ty tt:Nat}:Spec.HoldsE (B2 w en) (fun ρ=>(eJ w.params h g s r e er X Y tx ty tt ρ).S):=by
 intro Γ p s₀ R ρ₀ ok k
 obtain ⟨d,X',Y',hD⟩:=a0.ex X Y 7
 have hm:m7 d=d:=Nat.mod_eq_of_lt (hD.lt (by decide))
 have H:(ah w.params h g s r e er X Y (m7 d) X' Y' (Int.ofNat 7) tx ty tt).S.Holds (B2 w en):=by
  rw [hm]
  exact fW w h g s r e er X Y d X' Y' 7 tx ty tt hD (by decide) (by decide)
 exact H Γ p s₀ R ⟨ok.code,ok.hand,ok.fit,ok.room,ok.top,ok.stk,ok.pre,ok.nd⟩ fun s' bs ts A=>k ⟨X',Y',d,⟨.none,.none,.none,.none,.none,.none,.none⟩,⟨.none,.none,.none,.none,.none,.none,.none⟩,[],fun _=>0,fun _=>{ cls:=.none }⟩ s' bs ts A
theorem qc:∀ d,d<7→fp yW d=.ref (zZ d)
 | 0,_=>rfl
 | 1,_=>rfl
 | 2,_=>rfl
 | 3,_=>rfl
 | 4,_=>rfl
 | 5,_=>rfl
 | 6,_=>rfl
theorem kT {w:World} {en:ST} {h g:Nat→Nat} {a e d t:Nat}:(jK w.params h g a e d t).S.Holds (B2 w en):=by
 have H:=kD (en:=en) w h g a e (m7 d) t yW (qJ d) (Nat.le_of_ble_eq_true rfl)
 unfold ld at H
 rw [qc _ (qJ d)] at H
 exact H
set_option smartUnfolding false in
theorem Fv {w:World} {h g a e}:(wQ w.params h g a e).S.Holds (B2 w .nil):=RS.done (dG w .nil) (.one2 fun cb=>Bu w h g a e cb) rfl (fun _ _=>rfl)
 (aP (fun _ _ _ r=>(gT true rfl (Nat.le_of_ble_eq_true (by kernel_rfl)) (.inl eN) j1).e)
 (aP (fun _ _ _ r=>(gT true rfl (Nat.le_of_ble_eq_true (by kernel_rfl)) (.inl eN) j1).e)
 (aP (fun _ _ _ r=>(En _ _ _ false _ _ _ _ (Nat.le_of_ble_eq_true rfl)).e)
 (aP (fun _ _ _ r=>(En _ _ _ true _ _ 0 _ (Nat.le_of_ble_eq_true rfl)).e)
 (aP (fun _ _ _ r=>(gT false rfl (Nat.le_of_ble_eq_true (by kernel_rfl)) (.inr ⟨rfl,(.left _ _)⟩) j1).e)
 (aP (fun _ _ _ r=>vm (S:=fun _=>mb _ _ _ _ _ _ _ _ _ _ _ _ _ _ _ _ _ _ _) (B7 (n:=0) (K:=[]) rfl (Nat.zero_le _)).e (fun _=>rfl))
 (aP (fun _ _ _ r=>dl)
 (aP (fun _ _ _ r=>kT.e)
 (aP (fun _ _ _ r=>ga rfl (by decide))
 (aP (fun _ _ _ r=>dl)
 (aP (fun _ _ _ r=>kT.e)
 (aP (fun _ _ _ r=>ga rfl (Nat.le_trans (du _ _) (by decide)))
 (aP (fun _ _ _ r=>dl)
 (aP (fun _ _ _ r=>kT.e)
 (aP (fun _ _ _ r=>ga rfl (Nat.le_trans (du _ _) (Nat.succ_le_succ (m:=899) (Nat.succ_le_succ (m:=898) (show ag (aE 3 (r 154).K)≤898 from Nat.le_trans (du _ _) (by decide))))))
 ak)))))))))))))))
end
section
open PySem.SeqAt
noncomputable def Fy (P:Params) (h g:Nat→Nat) (b:Bool) (x y:Int) (t u:Nat):RS:=au (aS Mine.SL.s549184847318252788x10 [.int x t,.int y u]) [] (.bool b)
noncomputable def Bn (P:Params) (h g:Nat→Nat) (x y:Int) (t u:Nat):RS:=Fy P h g true x y t u
noncomputable def E2 (P:Params) (h g:Nat→Nat) (x y:Int) (t u:Nat):RS:=Fy P h g false x y t u
noncomputable def Fu (P:Params) (h g:Nat→Nat) (b:Bool) (x y:Int) (t u:Nat):RS:=au (aS Mine.SL.s6631445442719179136x10 [.int x t,.int y u]) [] (.bool b)
noncomputable def A7 (P:Params) (h g:Nat→Nat) (x y:Int) (t u:Nat):RS:=Fu P h g true x y t u
noncomputable def Am (P:Params) (h g:Nat→Nat) (x y:Int) (t u:Nat):RS:=Fu P h g false x y t u
noncomputable def Ek (P:Params) (h g:Nat→Nat) (x y z:Int) (t u:Nat):RS:=(au (aS Mine.SL.s10675162408562208479x11 [.int x t,.int y u]) [] .none).fin [] [0] (fun _ _=>[]) (fun _ _=>[]) (fun _ t=>ok (.int z (nb t 0)))
noncomputable def BM (P:Params) (h g:Nat→Nat) (b t u:Nat):RS:=Ek P h g (-1) (Int.ofNat b) (Int.negSucc b) t u
noncomputable def DD (P:Params) (h g:Nat→Nat) (b t u:Nat):RS:=Ek P h g (-1) (Int.negSucc b) (Int.ofNat b) t u
noncomputable def Fh (P:Params) (h g:Nat→Nat) (neg:Bool) (a b e:Nat) (v:Value) (l:List Value):RS:=au (aS (j0 neg false) [.ref a,.ref b]) [⟨false,a,oL e (v::l)⟩,⟨false,b,oL 0 []⟩] (.bool neg)
noncomputable def rE (P:Params) (h g:Nat→Nat) (a b e:Nat) (v:Value) (l:List Value):RS:=Fh P h g true a b e v l
noncomputable def sf (P:Params) (h g:Nat→Nat) (a b e:Nat) (v:Value) (l:List Value):RS:=Fh P h g false a b e v l
noncomputable def pz (P:Params) (h g:Nat→Nat) (a e t:Nat) (v:Value) (l:List Value):RS:=au (aS Ld [.ref a,.int 0 t]) [⟨false,a,oL e (v::l)⟩] v
noncomputable def Ac (P:Params) (h g:Nat→Nat) (a e row:Nat) (v:Value) (l:List Value):RS:=aG 100 [[.func,.caller]] false (aq 1482 [.ref a,.ref row]) [⟨false,a,oL e (v::l)⟩]
noncomputable def D6 (P:Params) (h g:Nat→Nat) (a e row b tb Z0 Z1 Z2 Z3 Z4:Nat) (l:List Value):RS:=Ac P h g a e row (.int (Int.ofNat b) tb) l
noncomputable def D9 (P:Params) (h g:Nat→Nat) (a e row b tb Z0 Z1 Z2 Z3 Z4:Nat) (l:List Value):RS:=Ac P h g a e row (.int (Int.ofNat b) tb) l
noncomputable def B4 (P:Params) (h g:Nat→Nat) (a e row b tb Z0 Z1 Z2 Z3 Z4:Nat) (l:List Value):RS:=Ac P h g a e row (.int (Int.negSucc b) tb) l
noncomputable def DL (P:Params) (h g:Nat→Nat) (a e row b tb Z0 Z1 Z2 Z3 Z4:Nat) (l:List Value):RS:=Ac P h g a e row (.int (Int.negSucc b) tb) l
end
section
open PySem.SeqAt
noncomputable def d8 (P:Params) (h g:Nat→Nat) (a e row:Nat) (v:Value) (l:List Value) (ρ:Post):RS:={ Ac P h g a e row v l with bx:=[0,0],tx:=[0,0],nw:=fun b t=>[oL 0 [.int (Int.ofNat ρ.X) (nb t 0),.int (Int.ofNat (ym ρ.Y)) (nb t 1),.ref (nb b 1)],oL 0 []],r:=fun b t=>ok (.ref (nb b 0)) }
noncomputable def Fb (P:Params) (h g:Nat→Nat) (a e:Nat) (v:Value) (l:List Value):RS:=aG 649 [[.caller]] true (aq 1568 [.ref a]) [⟨false,a,oL e (v::l)⟩]
end
noncomputable def At (P:Params) (h:Nat→Nat) (g:Nat→Nat) (a:Nat) (e:Nat) (row:Nat) (b:Nat) (tb:Nat) (Z0:Nat) (Z1:Nat) (Z2:Nat) (Z3:Nat) (Z4:Nat) (l:List Value):RS:=(D6 P h g a e row b tb Z0 Z1 Z2 Z3 Z4 l).fin [10,9] [21,15] nN (fun b t=>[(oL 0 [(.int (Int.ofNat Z4) (nb t 0)),(.int (Int.ofNat Z3) (nb t 1)),(.ref (nb b 1))]),(oL 0 [])]) rB
theorem y4 (w:World) h g a e row b tb Z0 Z1 Z2 Z3 Z4 l (cb:Bool):(At w.params h g a e row b tb Z0 Z1 Z2 Z3 Z4 l).Runs2 (B2 w .nil) 211 (ce [rP,nm,s3]) [⟨fun A tk O ρs ρ=>(rE w.params h g (A 0) (A 2) e (.int (Int.ofNat b) tb) l).S,[0,2],[],none⟩,⟨fun A tk O ρs ρ=>(pz w.params h g (A 0) e (tk 2) (.int (Int.ofNat b) tb) l).S,[0],[],none⟩,⟨fun A tk O ρs ρ=>(BM w.params h g b (tk 5) tb).S,[],[],none⟩,⟨fun A tk O ρs ρ=>(E2 w.params h g (Int.negSucc b) (Int.ofNat b) (tk 6) tb).S,[],[],none⟩,⟨fun A tk O ρs ρ=>(eA w.params h g b 2147483629 Z0 tb (tk 8)).S,[],[],none⟩,⟨fun A tk O ρs ρ=>(nl w.params h g Z0 17 Z1 (tk 9) (tk 10)).S,[],[],none⟩,⟨fun A tk O ρs ρ=>(fG w.params h g Z1 48271 Z2 (tk 11) (tk 12)).S,[],[],none⟩,⟨fun A tk O ρs ρ=>(eA w.params h g Z2 2147483647 Z3 (tk 13) (tk 14)).S,[],[],none⟩,⟨fun A tk O ρs ρ=>(Am w.params h g (Int.ofNat b) 1000000000000000000 tb (tk 19)).S,[],[],none⟩,⟨fun A tk O ρs ρ=>(fG w.params h g b 0 Z4 tb (tk 20)).S,[],[],none⟩,⟨fun A tk O ρs ρ=>(sf w.params h g (A 0) (A 8) e (.int (Int.ofNat b) tb) l).S,[0,8],[],none⟩] cb:=by
 intro ν τ υ π ς ρ own past κ bl p
 kernel_rfl
noncomputable def CO (P:Params) (h:Nat→Nat) (g:Nat→Nat) (a:Nat) (e:Nat) (row:Nat) (b:Nat) (tb:Nat) (Z0:Nat) (Z1:Nat) (Z2:Nat) (Z3:Nat) (Z4:Nat) (l:List Value):RS:=(D9 P h g a e row b tb Z0 Z1 Z2 Z3 Z4 l).fin [10,9] [21,15] nN (fun b t=>[(oL 0 [(.int (Int.ofNat Z4) (nb t 0)),(.int (Int.ofNat Z3) (nb t 1)),(.ref (nb b 1))]),(oL 0 [])]) rB
theorem zH (w:World) h g a e row b tb Z0 Z1 Z2 Z3 Z4 l (cb:Bool):(CO w.params h g a e row b tb Z0 Z1 Z2 Z3 Z4 l).Runs2 (B2 w .nil) 211 (ce [rP,nm,s3]) [⟨fun A tk O ρs ρ=>(rE w.params h g (A 0) (A 2) e (.int (Int.ofNat b) tb) l).S,[0,2],[],none⟩,⟨fun A tk O ρs ρ=>(pz w.params h g (A 0) e (tk 2) (.int (Int.ofNat b) tb) l).S,[0],[],none⟩,⟨fun A tk O ρs ρ=>(BM w.params h g b (tk 5) tb).S,[],[],none⟩,⟨fun A tk O ρs ρ=>(E2 w.params h g (Int.negSucc b) (Int.ofNat b) (tk 6) tb).S,[],[],none⟩,⟨fun A tk O ρs ρ=>(eA w.params h g b 2147483629 Z0 tb (tk 8)).S,[],[],none⟩,⟨fun A tk O ρs ρ=>(nl w.params h g Z0 17 Z1 (tk 9) (tk 10)).S,[],[],none⟩,⟨fun A tk O ρs ρ=>(fG w.params h g Z1 48271 Z2 (tk 11) (tk 12)).S,[],[],none⟩,⟨fun A tk O ρs ρ=>(eA w.params h g Z2 2147483647 Z3 (tk 13) (tk 14)).S,[],[],none⟩,⟨fun A tk O ρs ρ=>(A7 w.params h g (Int.ofNat b) 1000000000000000000 tb (tk 19)).S,[],[],none⟩,⟨fun A tk O ρs ρ=>(fG w.params h g b 1 Z4 tb (tk 20)).S,[],[],none⟩,⟨fun A tk O ρs ρ=>(sf w.params h g (A 0) (A 8) e (.int (Int.ofNat b) tb) l).S,[0,8],[],none⟩] cb:=by
 intro ν τ υ π ς ρ own past κ bl p
 kernel_rfl
noncomputable def B9 (P:Params) (h:Nat→Nat) (g:Nat→Nat) (a:Nat) (e:Nat) (row:Nat) (b:Nat) (tb:Nat) (Z0:Nat) (Z1:Nat) (Z2:Nat) (Z3:Nat) (Z4:Nat) (l:List Value):RS:=(B4 P h g a e row b tb Z0 Z1 Z2 Z3 Z4 l).fin [10,9] [21,15] nN (fun b t=>[(oL 0 [(.int (Int.ofNat Z4) (nb t 0)),(.int (Int.ofNat Z3) (nb t 1)),(.ref (nb b 1))]),(oL 0 [])]) rB
theorem wJ (w:World) h g a e row b tb Z0 Z1 Z2 Z3 Z4 l (cb:Bool):(B9 w.params h g a e row b tb Z0 Z1 Z2 Z3 Z4 l).Runs2 (B2 w .nil) 214 (ce [rP,1086329868,nm,s3]) [⟨fun A tk O ρs ρ=>(rE w.params h g (A 0) (A 2) e (.int (Int.negSucc b) tb) l).S,[0,2],[],none⟩,⟨fun A tk O ρs ρ=>(pz w.params h g (A 0) e (tk 2) (.int (Int.negSucc b) tb) l).S,[0],[],none⟩,⟨fun A tk O ρs ρ=>(DD w.params h g b (tk 5) tb).S,[],[],none⟩,⟨fun A tk O ρs ρ=>(Bn w.params h g (Int.ofNat b) (Int.negSucc b) (tk 6) tb).S,[],[],none⟩,⟨fun A tk O ρs ρ=>(eA w.params h g b 2147483629 Z0 (tk 6) (tk 8)).S,[],[],none⟩,⟨fun A tk O ρs ρ=>(nl w.params h g Z0 17 Z1 (tk 9) (tk 10)).S,[],[],none⟩,⟨fun A tk O ρs ρ=>(fG w.params h g Z1 48271 Z2 (tk 11) (tk 12)).S,[],[],none⟩,⟨fun A tk O ρs ρ=>(eA w.params h g Z2 2147483647 Z3 (tk 13) (tk 14)).S,[],[],none⟩,⟨fun A tk O ρs ρ=>(Am w.params h g (Int.ofNat b) 1000000000000000000 (tk 6) (tk 19)).S,[],[],none⟩,⟨fun A tk O ρs ρ=>(fG w.params h g b 0 Z4 (tk 6) (tk 20)).S,[],[],none⟩,⟨fun A tk O ρs ρ=>(sf w.params h g (A 0) (A 8) e (.int (Int.negSucc b) tb) l).S,[0,8],[],none⟩] cb:=by
 intro ν τ υ π ς ρ own past κ bl p
 kernel_rfl
noncomputable def CX (P:Params) (h:Nat→Nat) (g:Nat→Nat) (a:Nat) (e:Nat) (row:Nat) (b:Nat) (tb:Nat) (Z0:Nat) (Z1:Nat) (Z2:Nat) (Z3:Nat) (Z4:Nat) (l:List Value):RS:=(DL P h g a e row b tb Z0 Z1 Z2 Z3 Z4 l).fin [10,9] [21,15] nN (fun b t=>[(oL 0 [(.int (Int.ofNat Z4) (nb t 0)),(.int (Int.ofNat Z3) (nb t 1)),(.ref (nb b 1))]),(oL 0 [])]) rB
theorem zq (w:World) h g a e row b tb Z0 Z1 Z2 Z3 Z4 l (cb:Bool):(CX w.params h g a e row b tb Z0 Z1 Z2 Z3 Z4 l).Runs2 (B2 w .nil) 214 (ce [rP,1086329868,nm,s3]) [⟨fun A tk O ρs ρ=>(rE w.params h g (A 0) (A 2) e (.int (Int.negSucc b) tb) l).S,[0,2],[],none⟩,⟨fun A tk O ρs ρ=>(pz w.params h g (A 0) e (tk 2) (.int (Int.negSucc b) tb) l).S,[0],[],none⟩,⟨fun A tk O ρs ρ=>(DD w.params h g b (tk 5) tb).S,[],[],none⟩,⟨fun A tk O ρs ρ=>(Bn w.params h g (Int.ofNat b) (Int.negSucc b) (tk 6) tb).S,[],[],none⟩,⟨fun A tk O ρs ρ=>(eA w.params h g b 2147483629 Z0 (tk 6) (tk 8)).S,[],[],none⟩,⟨fun A tk O ρs ρ=>(nl w.params h g Z0 17 Z1 (tk 9) (tk 10)).S,[],[],none⟩,⟨fun A tk O ρs ρ=>(fG w.params h g Z1 48271 Z2 (tk 11) (tk 12)).S,[],[],none⟩,⟨fun A tk O ρs ρ=>(eA w.params h g Z2 2147483647 Z3 (tk 13) (tk 14)).S,[],[],none⟩,⟨fun A tk O ρs ρ=>(A7 w.params h g (Int.ofNat b) 1000000000000000000 (tk 6) (tk 19)).S,[],[],none⟩,⟨fun A tk O ρs ρ=>(fG w.params h g b 1 Z4 (tk 6) (tk 20)).S,[],[],none⟩,⟨fun A tk O ρs ρ=>(sf w.params h g (A 0) (A 8) e (.int (Int.negSucc b) tb) l).S,[0,8],[],none⟩] cb:=by
 intro ν τ υ π ς ρ own past κ bl p
 kernel_rfl
section
open PySem.SeqAt
theorem EL {en:ST} {w:World} {h g:Nat→Nat} {x y:Int} {t u:Nat} {b:Bool} (hb:decide (x > y)=b):(Fy w.params h g b x y t u).S.Holds (B2 w en):=by
 refine am rfl fun A s₀ R hh hu _ ht hcell _ kk=>?_
 show codeAny _ _ (.call (.builtin _) _) _ _
 rw [show Mine.SL.s549184847318252788x10 = "int.__gt__" from aL (by kernel_rfl)]
 refine ap F.slot_int_gt F.entry_int_gt (F.args_int_gt_2 _ _) (typeIs_int s₀ _ _) ((AutoIntG4.int___gt___int_int_0 x t y u).meets.inModel _ _) ?_
 show R (.ok (.ret (.bool (decide (x > y))))) s₀
 rw [hb]
 exact kk _ [] [] (aF (s':=s₀) ht rfl rfl rfl rfl rfl rfl)
theorem rt {en:ST} {w:World} {h g:Nat→Nat} {a e t:Nat} {v:Value} {l:List Value} (hl:(v::l).length<1000):(pz w.params h g a e t v l).S.Holds (B2 w en) :=
 kD (en:=en) w h g a e 0 t (v::l) (Nat.succ_pos _) hl
theorem ED {en:ST} {w:World} {h g:Nat→Nat} {x y:Int} {t u:Nat} {b:Bool} (hb:decide (x ≥ y)=b):(Fu w.params h g b x y t u).S.Holds (B2 w en):=by
 refine am rfl fun A s₀ R hh hu _ ht hcell _ kk=>?_
 show codeAny _ _ (.call (.builtin _) _) _ _
 rw [show Mine.SL.s6631445442719179136x10 = "int.__ge__" from aL (by kernel_rfl)]
 refine ap F.slot_int_ge F.entry_int_ge (F.args_int_ge_2 _ _) (typeIs_int s₀ _ _) ((AutoIntG9.int___ge___int_int_0 x t y u).meets.inModel _ _) ?_
 show R (.ok (.ret (.bool (decide (x ≥ y))))) s₀
 rw [hb]
 exact kk _ [] [] (aF (s':=s₀) ht rfl rfl rfl rfl rfl rfl)
theorem Ej {en:ST} {w:World} {h g:Nat→Nat} {x y z:Int} {t u:Nat} (hz:x - y=z):(Ek w.params h g x y z t u).S.Holds (B2 w en):=by
 subst hz
 refine am rfl fun A s₀ R hh hu _ ht hcell _ kk=>?_
 show codeAny _ _ (.call (.builtin _) _) _ _
 rw [show Mine.SL.s10675162408562208479x11 = "int.__sub__" from aL (by kernel_rfl)]
 refine ap F.slot_int_sub F.entry_int_sub (F.args_int_sub_2 _ _) (typeIs_int s₀ _ _) ((AutoIntG9.int___sub___int_int_0 x t y u).meets.inModel _ _) ?_
 show R (.ok (.ret (.int (x - y) s₀.toks))) { s₀ with toks:=s₀.toks+1 }
 exact kk { s₀ with toks:=s₀.toks+1 } [] [s₀.toks] ⟨ht,fun a o h _=>.inl h,Nat.le_refl _,rfl,rfl,fun j a o hj=>by simp [RS.S,RS.SO,Ek,RS.fin,RS.finO,au,cA] at hj,fun j a o hj=>by simp at hj,fun a hj=>by simp at hj,List.nodup_nil,rfl,rfl⟩
noncomputable def fP (l:List Value):List DT:=match l with
 | []=>[]
 | v::l=>.v v::fP l
theorem fN:∀ l:List Value,aJ (fP l)=l
 | []=>rfl
 | v::l=>congrArg (v::·) (fN l)
theorem eP:∀ l:List Value,aQ (fP l)=[]
 | []=>by unfold fP aQ; rfl
 | v::l=>by
  unfold fP aQ
  rw [eP l]
  unfold DT.cells
  rfl
theorem i4:∀ l:List Value,cr (fP l)=0
 | []=>by unfold fP cr; rfl
 | v::l=>by
  unfold fP cr
  rw [i4 l]
  unfold DT.dep
  rfl
theorem vA {en:ST} {w:World} {h g:Nat→Nat} {neg:Bool} {a b e:Nat} {v:Value} {l:List Value}:(Fh w.params h g neg a b e v l).S.Holds (B2 w en):=by
 have hd:(DT.s false a e (fP (v::l))).dep≤50:=by
  unfold DT.dep
  rw [i4]
  decide
 have e1:(DT.s false a e (fP (v::l))).cells=[⟨false,a,oL e (v::l)⟩]:=by
  unfold DT.cells
  rw [fN,eP]
 have H:=Fc (en:=en) w h g neg false a b e 0 (fP (v::l)) [] neg [] false (by cases neg <;> rfl) hd (.inr ⟨rfl,.left _ _⟩) fun x hx=>by rw [bU]; exact hx
 unfold dS at H
 rw [bU,e1] at H
 exact H
theorem rM {w:World} {h g:Nat→Nat} {a e row b tn:Nat} {l:List Value} {Z0 Z1 Z2 Z3 Z4:Nat} (h0:Z0=b % 2147483629) (h1:Z1=Z0+17) (h2:Z2=Z1 * 48271) (h3:Z3=Z2 % 2147483647) (h4:Z4=b * 0) (hl:l.length≤63) (hb:b<1000000000000000000):Spec.HoldsE (B2 w .nil) (fun ρ=>(d8 w.params h g a e row (.int (Int.ofNat b) tn) l ρ).S):=by
 have H:=RS.done (dG w .nil) (.one2 fun cb=>y4 w h g a e row b tn Z0 Z1 Z2 Z3 Z4 l cb) rfl (fun _ _=>rfl)
  (aP (fun _ _ _ _=>vA.e)
  (aP (fun _ _ _ _=>(rt (show _+1<1000 by omega)).e)
  (aP (fun _ _ _ _=>(Ej (x:=-1) (y:=Int.ofNat b) (z:=Int.negSucc b) (by have hc:Int.ofNat b=(b:Int):=rfl; omega)).e)
  (aP (fun _ _ _ _=>(EL (decide_eq_false (fun q=>by have q':Int.ofNat b<Int.negSucc b:=q; have hc:Int.ofNat b=(b:Int):=rfl; omega))).e)
  (aP (fun _ _ _ _=>(fc w h g b 2147483629 Z0 _ _ (by decide) h0).e)
  (aP (fun _ _ _ _=>(p7 w h g Z0 17 Z1 _ _ h1).e)
  (aP (fun _ _ _ _=>(gu w h g Z1 48271 Z2 _ _ (by decide) h2).e)
  (aP (fun _ _ _ _=>(fc w h g Z2 2147483647 Z3 _ _ (by decide) h3).e)
  (aP (fun _ _ _ _=>(ED (decide_eq_false (fun q=>by have q':(1000000000000000000:Int)≤Int.ofNat b:=q; have hc:Int.ofNat b=(b:Int):=rfl; omega))).e)
  (aP (fun _ _ _ _=>(gu w h g b 0 Z4 _ _ (by decide) h4).e)
  (aP (fun _ _ _ _=>vA.e)
  ak)))))))))))
 intro Γ p s R ρ₀ ok k
 exact H Γ p s R ⟨ok.code,ok.hand,ok.fit,ok.room,ok.top,ok.stk,ok.pre,ok.nd⟩ fun s' bs ts A=>k ⟨Z4,Z3,0,⟨.none,.none,.none,.none,.none,.none,.none⟩,⟨.none,.none,.none,.none,.none,.none,.none⟩,[],fun _=>0,fun _=>{ cls:=.none }⟩ s' bs ts A
theorem tm {w:World} {h g:Nat→Nat} {a e row b tn:Nat} {l:List Value} (hl:l.length≤63) (hb:b<1000000000000000000):Spec.HoldsE (B2 w .nil) (fun ρ=>(d8 w.params h g a e row (.int (Int.ofNat b) tn) l ρ).S):=rM rfl rfl rfl rfl rfl hl hb
theorem s9 {w:World} {h g:Nat→Nat} {a e row b tn:Nat} {l:List Value} {Z0 Z1 Z2 Z3 Z4:Nat} (h0:Z0=b % 2147483629) (h1:Z1=Z0+17) (h2:Z2=Z1 * 48271) (h3:Z3=Z2 % 2147483647) (h4:Z4=b * 1) (hl:l.length≤63) (hb:1000000000000000000≤b):Spec.HoldsE (B2 w .nil) (fun ρ=>(d8 w.params h g a e row (.int (Int.ofNat b) tn) l ρ).S):=by
 have H:=RS.done (dG w .nil) (.one2 fun cb=>zH w h g a e row b tn Z0 Z1 Z2 Z3 Z4 l cb) rfl (fun _ _=>rfl)
  (aP (fun _ _ _ _=>vA.e)
  (aP (fun _ _ _ _=>(rt (show _+1<1000 by omega)).e)
  (aP (fun _ _ _ _=>(Ej (x:=-1) (y:=Int.ofNat b) (z:=Int.negSucc b) (by have hc:Int.ofNat b=(b:Int):=rfl; omega)).e)
  (aP (fun _ _ _ _=>(EL (decide_eq_false (fun q=>by have q':Int.ofNat b<Int.negSucc b:=q; have hc:Int.ofNat b=(b:Int):=rfl; omega))).e)
  (aP (fun _ _ _ _=>(fc w h g b 2147483629 Z0 _ _ (by decide) h0).e)
  (aP (fun _ _ _ _=>(p7 w h g Z0 17 Z1 _ _ h1).e)
  (aP (fun _ _ _ _=>(gu w h g Z1 48271 Z2 _ _ (by decide) h2).e)
  (aP (fun _ _ _ _=>(fc w h g Z2 2147483647 Z3 _ _ (by decide) h3).e)
  (aP (fun _ _ _ _=>(ED (decide_eq_true (show (1000000000000000000:Int)≤Int.ofNat b by have hc:Int.ofNat b=(b:Int):=rfl; omega))).e)
  (aP (fun _ _ _ _=>(gu w h g b 1 Z4 _ _ (by decide) h4).e)
  (aP (fun _ _ _ _=>vA.e)
  ak)))))))))))
 intro Γ p s R ρ₀ ok k
 exact H Γ p s R ⟨ok.code,ok.hand,ok.fit,ok.room,ok.top,ok.stk,ok.pre,ok.nd⟩ fun s' bs ts A=>k ⟨Z4,Z3,0,⟨.none,.none,.none,.none,.none,.none,.none⟩,⟨.none,.none,.none,.none,.none,.none,.none⟩,[],fun _=>0,fun _=>{ cls:=.none }⟩ s' bs ts A
theorem sy {w:World} {h g:Nat→Nat} {a e row b tn:Nat} {l:List Value} (hl:l.length≤63) (hb:1000000000000000000≤b):Spec.HoldsE (B2 w .nil) (fun ρ=>(d8 w.params h g a e row (.int (Int.ofNat b) tn) l ρ).S):=s9 rfl rfl rfl rfl rfl hl hb
theorem va {w:World} {h g:Nat→Nat} {a e row b tn:Nat} {l:List Value} {Z0 Z1 Z2 Z3 Z4:Nat} (h0:Z0=b % 2147483629) (h1:Z1=Z0+17) (h2:Z2=Z1 * 48271) (h3:Z3=Z2 % 2147483647) (h4:Z4=b * 0) (hl:l.length≤63) (hb:b<1000000000000000000):Spec.HoldsE (B2 w .nil) (fun ρ=>(d8 w.params h g a e row (.int (Int.negSucc b) tn) l ρ).S):=by
 have H:=RS.done (dG w .nil) (.one2 fun cb=>wJ w h g a e row b tn Z0 Z1 Z2 Z3 Z4 l cb) rfl (fun _ _=>rfl)
  (aP (fun _ _ _ _=>vA.e)
  (aP (fun _ _ _ _=>(rt (show _+1<1000 by omega)).e)
  (aP (fun _ _ _ _=>(Ej (x:=-1) (y:=Int.negSucc b) (z:=Int.ofNat b) (by have hc:Int.ofNat b=(b:Int):=rfl; omega)).e)
  (aP (fun _ _ _ _=>(EL (decide_eq_true (show Int.negSucc b<Int.ofNat b by have hc:Int.ofNat b=(b:Int):=rfl; omega))).e)
  (aP (fun _ _ _ _=>(fc w h g b 2147483629 Z0 _ _ (by decide) h0).e)
  (aP (fun _ _ _ _=>(p7 w h g Z0 17 Z1 _ _ h1).e)
  (aP (fun _ _ _ _=>(gu w h g Z1 48271 Z2 _ _ (by decide) h2).e)
  (aP (fun _ _ _ _=>(fc w h g Z2 2147483647 Z3 _ _ (by decide) h3).e)
  (aP (fun _ _ _ _=>(ED (decide_eq_false (fun q=>by have q':(1000000000000000000:Int)≤Int.ofNat b:=q; have hc:Int.ofNat b=(b:Int):=rfl; omega))).e)
  (aP (fun _ _ _ _=>(gu w h g b 0 Z4 _ _ (by decide) h4).e)
  (aP (fun _ _ _ _=>vA.e)
  ak)))))))))))
 intro Γ p s R ρ₀ ok k
 exact H Γ p s R ⟨ok.code,ok.hand,ok.fit,ok.room,ok.top,ok.stk,ok.pre,ok.nd⟩ fun s' bs ts A=>k ⟨Z4,Z3,0,⟨.none,.none,.none,.none,.none,.none,.none⟩,⟨.none,.none,.none,.none,.none,.none,.none⟩,[],fun _=>0,fun _=>{ cls:=.none }⟩ s' bs ts A
theorem u8 {w:World} {h g:Nat→Nat} {a e row b tn:Nat} {l:List Value} (hl:l.length≤63) (hb:b<1000000000000000000):Spec.HoldsE (B2 w .nil) (fun ρ=>(d8 w.params h g a e row (.int (Int.negSucc b) tn) l ρ).S):=va rfl rfl rfl rfl rfl hl hb
theorem sI {w:World} {h g:Nat→Nat} {a e row b tn:Nat} {l:List Value} {Z0 Z1 Z2 Z3 Z4:Nat} (h0:Z0=b % 2147483629) (h1:Z1=Z0+17) (h2:Z2=Z1 * 48271) (h3:Z3=Z2 % 2147483647) (h4:Z4=b * 1) (hl:l.length≤63) (hb:1000000000000000000≤b):Spec.HoldsE (B2 w .nil) (fun ρ=>(d8 w.params h g a e row (.int (Int.negSucc b) tn) l ρ).S):=by
 have H:=RS.done (dG w .nil) (.one2 fun cb=>zq w h g a e row b tn Z0 Z1 Z2 Z3 Z4 l cb) rfl (fun _ _=>rfl)
  (aP (fun _ _ _ _=>vA.e)
  (aP (fun _ _ _ _=>(rt (show _+1<1000 by omega)).e)
  (aP (fun _ _ _ _=>(Ej (x:=-1) (y:=Int.negSucc b) (z:=Int.ofNat b) (by have hc:Int.ofNat b=(b:Int):=rfl; omega)).e)
  (aP (fun _ _ _ _=>(EL (decide_eq_true (show Int.negSucc b<Int.ofNat b by have hc:Int.ofNat b=(b:Int):=rfl; omega))).e)
  (aP (fun _ _ _ _=>(fc w h g b 2147483629 Z0 _ _ (by decide) h0).e)
  (aP (fun _ _ _ _=>(p7 w h g Z0 17 Z1 _ _ h1).e)
  (aP (fun _ _ _ _=>(gu w h g Z1 48271 Z2 _ _ (by decide) h2).e)
  (aP (fun _ _ _ _=>(fc w h g Z2 2147483647 Z3 _ _ (by decide) h3).e)
  (aP (fun _ _ _ _=>(ED (decide_eq_true (show (1000000000000000000:Int)≤Int.ofNat b by have hc:Int.ofNat b=(b:Int):=rfl; omega))).e)
  (aP (fun _ _ _ _=>(gu w h g b 1 Z4 _ _ (by decide) h4).e)
  (aP (fun _ _ _ _=>vA.e)
  ak)))))))))))
 intro Γ p s R ρ₀ ok k
 exact H Γ p s R ⟨ok.code,ok.hand,ok.fit,ok.room,ok.top,ok.stk,ok.pre,ok.nd⟩ fun s' bs ts A=>k ⟨Z4,Z3,0,⟨.none,.none,.none,.none,.none,.none,.none⟩,⟨.none,.none,.none,.none,.none,.none,.none⟩,[],fun _=>0,fun _=>{ cls:=.none }⟩ s' bs ts A
theorem tE {w:World} {h g:Nat→Nat} {a e row b tn:Nat} {l:List Value} (hl:l.length≤63) (hb:1000000000000000000≤b):Spec.HoldsE (B2 w .nil) (fun ρ=>(d8 w.params h g a e row (.int (Int.negSucc b) tn) l ρ).S):=sI rfl rfl rfl rfl rfl hl hb
theorem Cg {w:World} {h g:Nat→Nat} {a e row:Nat} {n:Int} {tn:Nat} {l:List Value} (hl:l.length≤63):Spec.HoldsE (B2 w .nil) (fun ρ=>(d8 w.params h g a e row (.int n tn) l ρ).S):=by
 cases n with
 | ofNat b=>exact if hb:b<1000000000000000000 then tm hl hb else sy hl (Nat.le_of_not_lt hb)
 | negSucc b=>exact if hb:b<1000000000000000000 then u8 hl hb else tE hl (Nat.le_of_not_lt hb)
end
noncomputable def wn (P:Params) (h:Nat→Nat) (g:Nat→Nat) (a:Nat) (e:Nat) (v:Value) (l:List Value):RS:=(Fb P h g a e v l).fin [] [] nN nN (fun b t=>(ok (.bool true)))
theorem Dv (w:World) h g a e v l (cb:Bool):(wn w.params h g a e v l).Runs2 (B2 w .nil) 5015 (ce [fb,fb,bB,1052672,aj,1038,ae,0x103800038000380e,dz,1131723913216,gC,wT,0x1080200000f0800003c200000f0800003c200000f08000,pa,qn,gH,b7,0x1080020880008822,pa,pa,pa,pa,qn,jj,gL,j7,c6,1113587750,gC,iE,iE,1113628712,qk,ps,te,1117802538,c5,0x4140a8001102111044,ae,c5,1176857813064,c5,0x10a8140a8001202312048,ae,c5,1183303415886,c5,1183303415886,c5,0x400138261384e,qN,dz,1204738426880,cQ,gP,gP,gP,gP,gP,ug,lk,ug,lk,ug,lk,ug,0x42a000600bc60,dz,1213328369664,cQ,jB,jB,k9,sK,1182846056,sK,1182846056,sK,1182846056,sK,0x10a82a000680cc68,jV,Be,qB,Cv,0x10a82a0006e0d86e,jV,1197473910,cQ,oW,gG,gG,gG,1199693824,s5,1171576,s5,1171576,s5,1171576,s5,zN,zN,wG,wG,wG,gL,ei,1222639758,gC,0x123890000472400011c90,qj,1194128,qj,1194128,qj,1222787216,qj,1194128,qj,dz,ae,1233125528,cQ,zw,1233283226,AD,1204378,AD,dz,1271310483456,cQ,kO,kO,1073823906,tD,tD,tD,tD,ka,ka,ka,ka,ka,ka,ka,ka,ka,ka,ka,ka,ka,ka,ka,ka,ka,rb,rb,rb,rb,rb,uD,c6,c5,qM,qM,qM,qM,qM,0x1320c8320a4320c832063320c8,oY,oY,oY,oY,oY,0x4a0288c829051290a4,av,1184,BJ,1052672,jV,1312817380,gC,0x1398e600072398001c8e6000733a072398001c8e6,gz,ae,1256,b7,1350767454442,gO,Ab,1058,CL,ae,1260,ae,0x1398ee3a8ee000ea000ea3b8ea3b0003b0003b0ec,gz,av,Ab,1058,av,0x13c8f23c8003c8003c8f2,aj,0x11e4033d0f23c8f2000f2,vV,lC,lC,lC,lC,lC,lC,lC,0x13987b3e0f83f0f4,gz,1254,gz,1254,gz,1284326,gz,1284326,gz,1254,gz,1254,gz,1254,gz,jj,c6,1077937156,ae,0x50641106001040010441904,jj,c6,0x14290a42800428004290a,aj,0x40043000430004310a4290a0010a,Av,1862,wP,1865,wP,1868,wP,1051471,aj,0x14410c4310c0010c0010c]) [⟨fun A tk O ρs ρ=>(d8 w.params h g (A 0) e (A 2) v l ρ).S,[0],[],none⟩,⟨fun A tk O ρs ρ=>(vP w.params h g (A 16) (A 7) 0 [(.ref (A 5)),(.ref (A 5)),(.ref (A 5)),(.ref (A 5)),(.ref (A 5)),(.ref (A 5)),(.ref (A 5))]).S,[16,7],[16],none⟩,⟨fun A tk O ρs ρ=>(Ad w.params h g (A 116) (A 111) []).S,[116,111],[116],none⟩,⟨fun A tk O ρs ρ=>(eJ w.params h g (A 3) (A 4) 0 0 (ρs 2).1 (ym (ρs 2).2) (tk 6) (tk 7) (tk 365) ρ).S,[3,4],[3],none⟩,⟨fun A tk O ρs ρ=>(jK w.params h g (A 131) 0 (ρs 137).3 (tk 366)).S,[131],[],none⟩,⟨fun A tk O ρs ρ=>(xW w.params h g (m7 (ρs 137).3) (A 3) (A 4) 0 (ρs 137).1 (ym (ρs 137).2) (tk 367) (tk 368) (v7 (O 118)) (v7 (O 122)) (tk 176) (A 14) (A 17) (A 18) (A 42) (A 60) (A 61) (A 62) (A 63) (A 64) (A 65) (A 66) (A 67) (A 68) (A 69) (A 70) (A 72) (A 75) (A 77) (A 78) (A 79) (A 81) (A 82) (A 83) (A 84) (A 85) (A 86) (A 87) (A 88) (A 89) (A 90) (A 91) (A 92) (A 93) (A 94) (A 95) (A 96) (A 97) (A 98) (A 100) (A 101) (A 102) (A 103) (A 104) (A 105) (A 106) (A 107) (A 108) (A 109) (A 110) (A 112) (A 113) (A 119) (A 122) (A 126) (A 127) (A 128) (tk 43) (tk 149) (tk 151) (tk 153) (tk 155) (tk 157) (tk 159) (tk 161) (tk 163) (tk 165) (tk 167) (tk 169) (tk 171) (tk 175) (tk 178) (tk 179) (tk 181) (tk 183) (tk 185) (tk 199) (tk 201) (tk 203) (tk 205) (tk 206) (tk 209) (tk 212) (tk 215) (tk 218) (tk 221) (tk 224) (tk 227) (tk 230) (tk 233) (tk 236) (tk 239) (tk 242) (tk 245) (tk 248) (tk 251) (tk 254) (tk 257) (tk 259) (tk 261) (tk 263) (tk 265) (tk 267) (tk 269) (tk 271) (tk 273) (tk 275) (tk 277) (tk 291) (tk 297) (tk 305) (tk 340) (tk 341) (tk 343) (tk 344) (tk 346) (tk 348) (tk 350) (tk 352) (tk 354) (tk 356) ρ).S,[3,4,119,122,69,72,128,79,81,77,90,107,85,101,17,112,96,109,88,103,78,18,113,92,108,87,102,70,83,100,89,104],[3,119,122,69,72],none⟩,⟨fun A tk O ρs ρ=>(eJ w.params h g (A 3) (A 4) 0 0 (ρs 139).1 (ym (ρs 139).2) ((ρs 139).7 (OfNat.ofNat 0)) ((ρs 139).7 (OfNat.ofNat 1)) (tk 371) ρ).S,[3,4],[3],none⟩,⟨fun A tk O ρs ρ=>(jK w.params h g (A 131) 0 (ρs 140).3 (tk 372)).S,[131],[],none⟩,⟨fun A tk O ρs ρ=>(gW w.params h g (m7 (ρs 140).3) (A 3) (A 4) 0 (ρs 140).1 (ym (ρs 140).2) (tk 373) (tk 374) (v7 (O 119)) (v7 (O 122)) (ag (aE 2 (ρs 139).6)) (aE 2 (ρs 139).6) ((ρs 139).7 (OfNat.ofNat 2)) (A 14) (A 17) (A 18) (A 42) (A 60) (A 61) (A 62) (A 63) (A 64) (A 65) (A 66) (A 67) (A 68) (A 69) (A 70) (A 72) (A 75) (A 77) (A 78) (A 79) (A 81) (A 82) (A 83) (A 84) (A 85) (A 86) (A 87) (A 88) (A 89) (A 90) (A 91) (A 92) (A 93) (A 94) (A 95) (A 96) (A 97) (A 98) (A 100) (A 101) (A 102) (A 103) (A 104) (A 105) (A 106) (A 107) (A 108) (A 109) (A 110) (A 112) (A 113) (A 119) (A 122) (A 126) (A 127) (A 128) (tk 43) (tk 149) (tk 151) (tk 153) (tk 155) (tk 157) (tk 159) (tk 161) (tk 163) (tk 165) (tk 167) (tk 169) (tk 171) (tk 175) (tk 178) (tk 179) (tk 181) (tk 183) (tk 185) (tk 199) (tk 201) (tk 203) (tk 205) (tk 206) (tk 209) (tk 212) (tk 215) (tk 218) (tk 221) (tk 224) (tk 227) (tk 230) (tk 233) (tk 236) (tk 239) (tk 242) (tk 245) (tk 248) (tk 251) (tk 254) (tk 257) (tk 259) (tk 261) (tk 263) (tk 265) (tk 267) (tk 269) (tk 271) (tk 273) (tk 275) (tk 277) (tk 291) (tk 297) (tk 305) (tk 340) (tk 341) (tk 343) (tk 344) (tk 346) (tk 348) (tk 350) (tk 352) (tk 354) (tk 356) ρ).S,[3,4,119,122,69,72,128,79,81,77,90,107,85,101,17,112,96,109,88,103,78,18,113,92,108,87,102,70,83,100,89,104],[3,119,122,69,72],none⟩,⟨fun A tk O ρs ρ=>(eJ w.params h g (A 3) (A 4) 0 0 (ρs 142).1 (ym (ρs 142).2) ((ρs 142).7 (OfNat.ofNat 0)) ((ρs 142).7 (OfNat.ofNat 1)) (tk 377) ρ).S,[3,4],[3],none⟩,⟨fun A tk O ρs ρ=>(jK w.params h g (A 131) 0 (ρs 143).3 (tk 378)).S,[131],[],none⟩,⟨fun A tk O ρs ρ=>(gW w.params h g (m7 (ρs 143).3) (A 3) (A 4) 0 (ρs 143).1 (ym (ρs 143).2) (tk 379) (tk 380) (v7 (O 119)) (v7 (O 122)) (ag (aE (Nat.succ (Nat.succ (List.brecOn.go (aE 2 (ρs 139).6) (ag._f)).1)) (ρs 142).6)) (aE (Nat.succ (Nat.succ (List.brecOn.go (aE 2 (ρs 139).6) (ag._f)).1)) (ρs 142).6) ((ρs 142).7 (OfNat.ofNat 2)) (A 14) (A 17) (A 18) (A 42) (A 60) (A 61) (A 62) (A 63) (A 64) (A 65) (A 66) (A 67) (A 68) (A 69) (A 70) (A 72) (A 75) (A 77) (A 78) (A 79) (A 81) (A 82) (A 83) (A 84) (A 85) (A 86) (A 87) (A 88) (A 89) (A 90) (A 91) (A 92) (A 93) (A 94) (A 95) (A 96) (A 97) (A 98) (A 100) (A 101) (A 102) (A 103) (A 104) (A 105) (A 106) (A 107) (A 108) (A 109) (A 110) (A 112) (A 113) (A 119) (A 122) (A 126) (A 127) (A 128) (tk 43) (tk 149) (tk 151) (tk 153) (tk 155) (tk 157) (tk 159) (tk 161) (tk 163) (tk 165) (tk 167) (tk 169) (tk 171) (tk 175) (tk 178) (tk 179) (tk 181) (tk 183) (tk 185) (tk 199) (tk 201) (tk 203) (tk 205) (tk 206) (tk 209) (tk 212) (tk 215) (tk 218) (tk 221) (tk 224) (tk 227) (tk 230) (tk 233) (tk 236) (tk 239) (tk 242) (tk 245) (tk 248) (tk 251) (tk 254) (tk 257) (tk 259) (tk 261) (tk 263) (tk 265) (tk 267) (tk 269) (tk 271) (tk 273) (tk 275) (tk 277) (tk 291) (tk 297) (tk 305) (tk 340) (tk 341) (tk 343) (tk 344) (tk 346) (tk 348) (tk 350) (tk 352) (tk 354) (tk 356) ρ).S,[3,4,119,122,69,72,128,79,81,77,90,107,85,101,17,112,96,109,88,103,78,18,113,92,108,87,102,70,83,100,89,104],[3,119,122,69,72],none⟩,⟨fun A tk O ρs ρ=>(eJ w.params h g (A 3) (A 4) 0 0 (ρs 145).1 (ym (ρs 145).2) ((ρs 145).7 (OfNat.ofNat 0)) ((ρs 145).7 (OfNat.ofNat 1)) (tk 383) ρ).S,[3,4],[3],none⟩,⟨fun A tk O ρs ρ=>(jK w.params h g (A 131) 0 (ρs 146).3 (tk 384)).S,[131],[],none⟩,⟨fun A tk O ρs ρ=>(gW w.params h g (m7 (ρs 146).3) (A 3) (A 4) 0 (ρs 146).1 (ym (ρs 146).2) (tk 385) (tk 386) (v7 (O 119)) (v7 (O 122)) (ag (aE (Nat.succ (Nat.succ (List.brecOn.go (aE (Nat.succ (Nat.succ (List.brecOn.go (aE 2 (ρs 139).6) (ag._f)).1)) (ρs 142).6) (ag._f)).1)) (ρs 145).6)) (aE (Nat.succ (Nat.succ (List.brecOn.go (aE (Nat.succ (Nat.succ (List.brecOn.go (aE 2 (ρs 139).6) (ag._f)).1)) (ρs 142).6) (ag._f)).1)) (ρs 145).6) ((ρs 145).7 (OfNat.ofNat 2)) (A 14) (A 17) (A 18) (A 42) (A 60) (A 61) (A 62) (A 63) (A 64) (A 65) (A 66) (A 67) (A 68) (A 69) (A 70) (A 72) (A 75) (A 77) (A 78) (A 79) (A 81) (A 82) (A 83) (A 84) (A 85) (A 86) (A 87) (A 88) (A 89) (A 90) (A 91) (A 92) (A 93) (A 94) (A 95) (A 96) (A 97) (A 98) (A 100) (A 101) (A 102) (A 103) (A 104) (A 105) (A 106) (A 107) (A 108) (A 109) (A 110) (A 112) (A 113) (A 119) (A 122) (A 126) (A 127) (A 128) (tk 43) (tk 149) (tk 151) (tk 153) (tk 155) (tk 157) (tk 159) (tk 161) (tk 163) (tk 165) (tk 167) (tk 169) (tk 171) (tk 175) (tk 178) (tk 179) (tk 181) (tk 183) (tk 185) (tk 199) (tk 201) (tk 203) (tk 205) (tk 206) (tk 209) (tk 212) (tk 215) (tk 218) (tk 221) (tk 224) (tk 227) (tk 230) (tk 233) (tk 236) (tk 239) (tk 242) (tk 245) (tk 248) (tk 251) (tk 254) (tk 257) (tk 259) (tk 261) (tk 263) (tk 265) (tk 267) (tk 269) (tk 271) (tk 273) (tk 275) (tk 277) (tk 291) (tk 297) (tk 305) (tk 340) (tk 341) (tk 343) (tk 344) (tk 346) (tk 348) (tk 350) (tk 352) (tk 354) (tk 356) ρ).S,[3,4,119,122,69,72,128,79,81,77,90,107,85,101,17,112,96,109,88,103,78,18,113,92,108,87,102,70,83,100,89,104],[3,119,122,69,72],none⟩] cb:=by
 intro ν τ υ π ς ρ own past κ bl p
 kernel_rfl
section
open PySem.SeqAt
theorem cB {b m:Nat} {K:List (Nat × Value)} (h:b≤m):ag (aE b K)≤m:=Nat.le_trans (du _ _) h
set_option smartUnfolding false in
theorem EY {w:World} {h g a e n tn l} (hl:l.length≤63):(wn w.params h g a e (.int n tn) l).S.Holds (B2 w .nil):=RS.done (dG w .nil) (.one2 fun cb=>Dv w h g a e (.int n tn) l cb) rfl (fun _ _=>rfl)
 (aP (fun _ _ _ r=>Cg hl)
 (aP (fun _ _ _ r=>(En _ _ _ false _ _ _ _ (Nat.le_of_ble_eq_true rfl)).e)
 (aP (fun _ _ _ r=>(En _ _ _ true _ _ 0 _ (Nat.le_of_ble_eq_true rfl)).e)
 (aP (fun _ _ _ r=>dl)
 (aP (fun _ _ _ r=>kT.e)
 (aP (fun _ _ _ r=>ga (n:=0) (K:=[]) rfl (Nat.zero_le _))
 (aP (fun _ _ _ r=>dl)
 (aP (fun _ _ _ r=>kT.e)
 (aP (fun _ _ _ r=>ga rfl (cB (by decide)))
 (aP (fun _ _ _ r=>dl)
 (aP (fun _ _ _ r=>kT.e)
 (aP (fun _ _ _ r=>ga rfl (cB (Nat.succ_le_succ (m:=899) (Nat.succ_le_succ (m:=898) (show ag (aE 2 (r 139).K)≤898 from cB (by decide))))))
 (aP (fun _ _ _ r=>dl)
 (aP (fun _ _ _ r=>kT.e)
 (aP (fun _ _ _ r=>ga rfl (cB (Nat.succ_le_succ (m:=899) (Nat.succ_le_succ (m:=898) (show ag (aE (ag (aE 2 (r 139).K)+2) (r 142).K)≤898 from cB (Nat.add_le_add_right (m:=896) (cB (by decide)) 2))))))
 ak)))))))))))))))
end
section
open PySem.W.X PySem.Calls PyProof.Rows
noncomputable abbrev gB:OpenRow:=PySem.Challenge.rw_on0051_01.row
theorem ry (P:Params):∃ o es ep,(Scr.KT0 P).get mainNs=some o∧o.data=.dict es ep∧es.toList.all dY=true∧nsFind es gB.name=some (.ref 1568):=by
 have h:(match (Scr.KT0 P).get mainNs with
  | some o=>match o.data with
   | .dict es _=>es.toList.all dY && (match nsFind es gB.name with | some v=>(match v with | .ref a=>Nat.beq a 1568 | _=>false) | none=>false)
   | _=>false
  | none=>false)=true:=by kernel_rfl
 split at h
 ·rename_i o ho
  split at h
  ·rename_i es ep hd
   obtain ⟨h1,h2⟩:=Bool.and_eq_true_iff.mp h
   refine ⟨o,es,ep,ho,hd,h1,?_⟩
   split at h2
   ·rename_i v hv
    split at h2
    ·rw [hv,Nat.eq_of_beq_eq_true h2]
    ·cases h2
   ·cases h2
  ·cases h
 ·cases h
theorem Ei : yL = .type "list" := by kernel_rfl
theorem jq {R:WRecords} {w:World} {s₀ s₁:Shared} {ns:List Int} {a:Addr} {as:List Addr} (L:Laid R w s₀ s₁ [ofPy (PyData.list (ns.map PyData.int))] [.ref a] as):∃ o,s₁.heap=s₀.heap.push o:=by
 obtain ⟨ord,_,e⟩:=L.laid
 simp only [ofPy,layAllW,layW] at e
 cases q:layAllW R (classAt s₀.heap) w.params ord (ofPys (List.map PyData.int ns)) s₀ with
 | none=>rw [q] at e; cases e
 | some r =>
  rw [q] at e
  have hh:=lay_ints ns s₀ r q
  simp only [Option.some.injEq,Prod.mk.injEq] at e
  rw [← e.2]
  exact ⟨_,by rw [← hh]⟩
theorem oC {h:Heap} {o x:Obj} {b:Nat} (g:(h.push o).get? b=some x) (hb:b≠h.objs.size):h.get? b=some x:=by
 have lt:=Heap.lt_size g
 rw [Heap.size_push] at lt
 have hb':b<h.objs.size:=Nat.lt_of_le_of_ne (Nat.le_of_lt_succ lt) hb
 unfold Heap.get? at g ⊢
 have e:(h.push o).objs[b]?=h.objs[b]?:=by
  show (h.objs.push o)[b]?=_
  rw [Array.getElem?_push,if_neg hb]
 rw [e] at g
 exact g
theorem vK {w:World} {s₀ s₁:Shared} (K:Known w s₀) {ns:List Int} {a:Nat} {l:List Value} {as:List Addr} (L:Laid gB.records w s₀ s₁ [ofPy (PyData.list (ns.map PyData.int))] [.ref a] as)
 (hobj:s₁.heap.get? a=some (oL 0 l)) {D:RS} (H:D.S.Holds (B2 w .nil)) (hD:D.lv=649∧D.sh=[[.caller]]∧D.c=aq 1568 [.ref a]∧D.cells=[⟨false,a,oL 0 l⟩]∧D.di=false∧D.dy=true∧∀ bs ts,D.r bs ts=.ok (.ret (.bool true))) :
 Sem.wp (model pw w) gI (mv gB.name [.ref a]) (Sem.finPost (model pw w) gI fun res s'=>GoodWG gB.claim (classAt s₀.heap) (ExcName.means s₀.heap) [ofPy (PyData.list (ns.map PyData.int))] s₁ res s')
  (fun e _ s'=>GoodWG gB.claim (classAt s₀.heap) (ExcName.means s₀.heap) [ofPy (PyData.list (ns.map PyData.int))] s₁ (.error e) s') default s₁:=by
 obtain ⟨d1,d2,d3,d4,d5,d6,d7⟩:=hD
 obtain ⟨ea,_⟩:=script_at L
 obtain ⟨ob,hpush⟩:=jq L
 have top:da (B2 w .nil) s₁:=⟨fun b o h=>L.keeps _ _ (K.at_ b o h),fun i c h=>by simp [B2,ST.get] at h⟩
 have free:(B2 w .nil).Free a:=⟨by
  cases z:(Scr.KT0 w.params).get a with
  | none=>exact z
  | some o=>exact absurd (Heap.lt_size (K.at_ a o z)) (by rw [ea]; exact Nat.lt_irrefl _),fun i c h=>by simp [B2,ST.get] at h⟩
 obtain ⟨o,es,ep,h1,h2,h3,h4⟩:=ry w.params
 have hns:s₁.heap.Ns mainNs (nsFind es):=by
  refine ⟨o,es,ep,top.1 _ _ h1,h2,fun e he=>?_,fun _=>rfl⟩
  have:=List.all_eq_true.mp h3 e (by simpa using he)
  unfold dY at this
  split at this
  ·exact ⟨_,_,by assumption⟩
  ·cases this
 unfold mv
 rw [Sem.wp_bind',Sem.wp_nsGet _ _ _ _ _ hns,h4]
 show Sem.wp _ gI (PySem.call (.ref 1568) [.ref a] >>= fun v=>ret v) _ _ default s₁
 unfold PySem.call PySem.runValue PySem.run
 rw [Sem.wp_bind',Sem.wp_bind',Sem.wp_call]
 refine H _ _ s₁ _ ⟨?_,rfl,?_,?_,top,?_,?_,?_⟩ fun s' bs ts A=>?_
 ·exact d3.symm
 ·show fH D.sh _=true
  rw [d2]
  kernel_rfl
 ·show NB D.lv _
  rw [d1]
  exact ⟨by show frameCount [(Code.builtin "claim.caller" {}, (default : Pos))] + 649 ≤ 950; decide +kernel, by show unitsOf [(Code.builtin "claim.caller" {}, (default : Pos))] + 649 ≤ 9000; decide +kernel⟩
 ·intro _
  have e0:envsOf ((gI.enter (.call (.ref 1568) ⟨[.ref a],[]⟩) none default).below)=[]:=rfl
  refine ⟨fun env he=>?_,fun env L he=>?_⟩
  ·rw [e0] at he; cases he
  ·rw [e0] at he; cases he
 ·intro x hx
  have hx:x∈bX D.cells:=hx
  rw [d4] at hx
  obtain rfl:x=(a,oL 0 l):=by simpa [bX] using hx
  exact ⟨.inl hobj,free⟩
 ·show ((bX D.cells).map (·.1)).Nodup
  rw [d4]
  simp [bX]
 ·have er:D.S.r bs ts=.ok (.ret (.bool true)):=d7 bs ts
  rw [er]
  have keep:∀ b o,s₁.heap.get? b=some o→s'.heap.get? b=some o:=fun b o hb=>by
   have hk:=A.keep b o hb (by show b∉cA D.cells; rw [d4]; simp [cA])
   cases hf:aV o with
   | false=>exact hk.exactF hf
   | true =>
    by_cases e:b=a
    ·subst e
     rw [hobj] at hb
     cases hb
     have:aV (oL 0 l)=false:=by
      show aV ⟨yL,none,.seq ⟨l⟩ 0,#[]⟩=false
      kernel_rfl
     rw [this] at hf
     cases hf
    ·rw [hpush] at hb
     have h0:=oC hb (ea▸e)
     obtain ⟨o',ho'⟩:=Option.isSome_iff_exists.mp (K.fr b o h0 hf)
     have:=K.at_ b o' ho'
     rw [h0] at this
     cases this
     exact A.top.1 b o ho'
  have good:GoodWG gB.claim (classAt s₀.heap) (ExcName.means s₀.heap) [ofPy (PyData.list (ns.map PyData.int))] s₁ (.ok (.ret (.bool true))) s' :=
   ⟨.inl ⟨.bool true,.bool true,[],rfl,fun _=>rfl,.bool true,postW_of (r:=gB.toRowW) (by simp [WShape.has,WShape.arms,gB,OpenLaw.row]) (PySem.W.w_eq_bool (PySem.W.w_res rfl) PySem.W.w_lit) rfl,fun _=>⟨List.nodup_nil,fun a h=>nomatch h⟩⟩,.of_keep keep,A.os,.of_eq (A.gens.trans L.gens)⟩
  exact good
theorem oj (w:World) (s₀ s₁:Shared) (K:Known w s₀) (args:List WData) (vs:List Value) (as:List Addr)
 (L:Laid gB.records w s₀ s₁ args vs as) (hpre:gB.claim.pre args=true) (hlay:WData.layableAll args=true)
 (hrd:ReadsAllW gB.records (classAt s₀.heap) s₁.heap vs args as) (hwl:WellAll w.params s₁.heap vs args) (hlo:∀ a∈as,(a == sysModules)=false) :
  Sem.wp (model pw w) gI (mv gB.name vs) (Sem.finPost (model pw w) gI fun res s'=>GoodWG gB.claim (classAt s₀.heap) (ExcName.means s₀.heap) args s₁ res s')
   (fun e _ s'=>GoodWG gB.claim (classAt s₀.heap) (ExcName.means s₀.heap) args s₁ (.error e) s') default s₁:=by
 wrow_args hpre hlay hrd hwl hlo
 rename_i ns _ _ _ _ _ _ _ a vals _ hL _ _ _ hI _ hlen _
 have hobj:=script_obj L hL
 have hlv:vals.length=ns.length:=hI.length
 have hobj:s₁.heap.get? a=some (oL 0 vals):=by
  rw [hobj]
  show _=some (⟨yL,none,.seq ⟨vals⟩ 0,#[]⟩:Obj)
  rw [Ei]
 cases vals with
 | nil=>exact vK K L hobj (D:=wQ w.params (fun _=>0) (fun _=>0) a 0) Fv ⟨rfl,rfl,rfl,rfl,rfl,rfl,fun _ _=>rfl⟩
 | cons v l =>
  obtain ⟨n,t,rfl⟩:∃ n t,v=.int n t:=by cases hI with | cons n t _=>exact ⟨n,t,rfl⟩
  exact vK K L hobj (D:=wn w.params (fun _=>0) (fun _=>0) a 0 (.int n t) l) (EY (by simp only [List.length_cons] at hlv; omega)) ⟨rfl,rfl,rfl,rfl,rfl,rfl,fun _ _=>rfl⟩
end
section
open PySem.W.X PySem.Calls PyProof.Rows
noncomputable def dL:DefRec:=match Scr.sA 133 with
 | .FunctionDef n a b _ _ _ sc _ _ pos=>⟨n,a,b,sc,pos⟩
 | _=>⟨⟨#[]⟩,default,[],default,default⟩
theorem BI:defOf qv gB.name=some (dL,[]):=by kernel_rfl
theorem GD:pw.theDef gB.name=some (dL.params,dL.body,dL.scope):=by kernel_rfl
theorem Gx:kwWritten? dL.params.kwonlyargs dL.params.kw_defaults=some []:=by kernel_rfl
theorem GC:(chainsOk qv && opensWell pw && (frees gB.toRowW && gB.within.isEmpty))=true:=by kernel_rfl
theorem AW {p q:Program} {loose mods:List Str} {N:Nat} (hm:mods=importedModules p.main.body) (H:∀ w,∃ s,openEnds treeTable p w N=some s∧openSeen q loose mods xT true s=openGood q loose):LeftO p q loose xT some (fun w=>openEnds treeTable p w N) N:=by
 intro w
 obtain ⟨s,h1,h2⟩:=H w
 subst hm
 have e:(openEnds treeTable p w N).map (fun s=>(openSeen q loose (importedModules p.main.body) xT true s,some s))=some (openGood q loose,openEnds treeTable p w N):=by
  rw [h1,Option.map_some,h2]
 exact e
theorem BU (HV:qL):LeftO pw qv rm xT some (fun w=>openEnds treeTable pw w 10537) 10537:=AW (mods:=Dy) rfl fun w=>(jP HV w).imp fun s h=>⟨h.1,h.2.1⟩
theorem yR:pw.tablesWhole=true:=by kernel_rfl
theorem Dp:pw.bare:=⟨rfl,rfl,rfl,rfl,rfl,yR⟩
theorem CN:gB.toRowW.promised:=⟨[.list []],by decide +kernel,by decide +kernel⟩
theorem wN (HV:qL) (said:PySem.Challenge.rw_on0051_01.wellSaid=true):PySem.Challenge.rw_on0051_01.Holds :=
 holds_law said fun sd=>uf (r:=gB) (q:=qv) (loose:=rm) (BU HV) BI GD Gx rfl sd GC Dp CN fun w s₀ s₁ _ y _ args vs as L hpre hlay hrd hwl hlo=>by
  obtain ⟨s,h1,_,h3⟩:=jP HV w
  have e:some s₀=some s:=y.trans h1
  cases e
  exact oj w s₀ s₁ h3 args vs as L hpre hlay hrd hwl hlo
end
theorem FF (HV:qL) (said:PySem.Challenge.rw_on0051_01.wellSaid=true):PySem.Challenge.rw_on0051_01.Holds:=wN HV said
end
end Mine
theorem PySem.Challenge.cw_on0051_01_holds : PySem.Challenge.rw_on0051_01.Holds :=
  Mine.FF Mine.Gu Mine.G7
