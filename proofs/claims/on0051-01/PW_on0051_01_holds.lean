import PyProof.Rows.All
import Wide.All
import OpenK.AllK
import Wide.FinOn
import Open.Boot
import KE.KxDecode
import PySem.Challenge.RW_on0051_01
set_option Elab.async false
set_option maxRecDepth 100000
set_option maxHeartbeats 0
set_option linter.unusedVariables false
namespace Mine
noncomputable section
open PySem PySem.W
noncomputable abbrev Q0:Str:=⟨#[105,110,116,56]⟩
noncomputable abbrev Q1:Str:=⟨#[105,110,116]⟩
noncomputable abbrev Q2:Str:=⟨#[105,110,116,54,52]⟩
noncomputable abbrev Q3:Str:=⟨#[117,105,110,116,56]⟩
noncomputable abbrev Q4:Str:=⟨#[117,105,110,116,49,54]⟩
noncomputable abbrev Q5:Str:=⟨#[99,111,110,115,116]⟩
noncomputable abbrev Q6:Str:=⟨#[104,101,97,112]⟩
noncomputable abbrev Q7:Str:=⟨#[119,104,101,114,101]⟩
noncomputable abbrev Q8:Str:=⟨#[107,105,110,100]⟩
noncomputable abbrev Q9:Str:=⟨#[99,111,110,116,101,110,116]⟩
noncomputable abbrev Qa:Str:=⟨#[114,111,119]⟩
noncomputable abbrev Qb:Str:=⟨#[112,97,110,105,99]⟩
noncomputable abbrev Qc:Str:=⟨#[115,116,114,105,110,103]⟩
noncomputable abbrev Qd:Str:=⟨#[109,97,112]⟩
noncomputable abbrev Qe:Str:=⟨#[112,108,97,99,101]⟩
noncomputable abbrev Qf:Str:=⟨#[118,97,114]⟩
noncomputable abbrev Qg:Str:=⟨#[99,104,97,110]⟩
noncomputable abbrev Qh:Str:=⟨#[102,97,99,101]⟩
noncomputable abbrev Qi:Str:=⟨#[115,108,105,99,101]⟩
noncomputable abbrev Qj:Str:=⟨#[115,105,122,101]⟩
noncomputable abbrev Qk:Str:=⟨#[109,97,121,95,99,111,109,112,97,114,101]⟩
noncomputable abbrev Ql:Str:=⟨#[108,101,110]⟩
noncomputable abbrev Qm:Str:=⟨#[99,111,110,118,101,114,116]⟩
noncomputable abbrev Qn:Str:=⟨#[114,101,103]⟩
noncomputable abbrev Qo:Str:=⟨#[101,110,116,114,105,101,115]⟩
noncomputable abbrev Qp:Str:=⟨#[99,111,109,105,110,103]⟩
noncomputable abbrev Qq:Str:=⟨#[108,111,97,100]⟩
noncomputable abbrev Qr:Str:=⟨#[98,105,110,97,114,121]⟩
noncomputable abbrev Qs:Str:=⟨#[109,97,112,103,101,116]⟩
noncomputable abbrev Qt:Str:=⟨#[117,116,102,45,56]⟩
noncomputable abbrev Qu:Str:=⟨#[102,105,101,108,100,112,116,114]⟩
noncomputable abbrev Qv:Str:=⟨#[109,97,112,115,101,116]⟩
noncomputable abbrev Qw:Str:=⟨#[112,116,114]⟩
noncomputable abbrev Qx:Str:=⟨#[105,110,118,97,108,105,100,32,115,116,97,114,116,32,98,121,116,101]⟩
noncomputable abbrev Qy:Str:=⟨#[62,61]⟩
noncomputable abbrev Qz:Str:=⟨#[115,116,111,114,101]⟩
noncomputable abbrev Dr:Str:=⟨#[109,97,107,101,109,97,112]⟩
noncomputable abbrev Bh:Str:=⟨#[109,97,112,100,101,108]⟩
noncomputable abbrev EQ:Str:=⟨#[98,111,111,108]⟩
noncomputable abbrev Ey:Str:=⟨#[101,108,101,109,112,116,114]⟩
noncomputable abbrev EP:Str:=⟨#[101,108,101,109]⟩
noncomputable abbrev Ez:Str:=⟨#[97,114,114,97,121]⟩
noncomputable abbrev EO:Str:=⟨#[99,117,116]⟩
noncomputable abbrev EG:Str:=⟨#[109,97,107,101,99,104,97,110]⟩
noncomputable abbrev En:Str:=⟨#[97,115,115,101,114,116]⟩
noncomputable abbrev Ev:Str:=⟨#[115,111,117,114,99,101]⟩
noncomputable abbrev Ex:Str:=⟨#[104,97,110,100]⟩
noncomputable abbrev EM:Str:=⟨#[119,111,114,100]⟩
noncomputable abbrev ER:Str:=⟨#[99,97,112]⟩
noncomputable abbrev F7:Str:=⟨#[116,111,108,100]⟩
noncomputable abbrev G4:Str:=⟨#[46,60,108,111,99,97,108,115,62,46]⟩
noncomputable abbrev FU:Str:=⟨#[47,99,108,97,105,109,47,99,117,116,46,112,121]⟩
noncomputable abbrev G8:Str:=⟨#[95,95,110,97,109,101,95,95]⟩
noncomputable abbrev FV:Str:=⟨#[98,117,105,108,116,105,110,115]⟩
noncomputable abbrev Gs:Str:=⟨#[95,95,112,97,99,107,97,103,101,95,95]⟩
noncomputable abbrev Gm:Str:=⟨#[95,95,108,111,97,100,101,114,95,95]⟩
noncomputable abbrev G5:Str:=⟨#[95,95,115,112,101,99,95,95]⟩
noncomputable abbrev G7:Str:=⟨#[103,108,111,98,97,108,115]⟩
noncomputable abbrev G3:Str:=⟨#[102,105,108,108,101,100]⟩
noncomputable abbrev Gd:Str:=⟨#[99,104,97,110,99,111,114,101,46,108,111,111,107,117,112]⟩
noncomputable abbrev Gh:Str:=⟨#[117,105,110,116,51,50]⟩
noncomputable abbrev Gj:Str:=⟨#[117,105,110,116,54,52]⟩
noncomputable abbrev Gc:Str:=⟨#[99,104,97,110,99,111,114,101,46,118,97,108,117,101,115]⟩
noncomputable abbrev Gn:Str:=⟨#[99,104,97,110,99,111,114,101,46,116,121,112,101,115]⟩
noncomputable abbrev Gb:Str:=⟨#[100,111,95,99,117,116]⟩
noncomputable abbrev G9:Str:=⟨#[95,108,97,119,95,111,112,101,114,97,116,111,114,115,95,114,105,103,104,116,46,60,108,111,99,97,108,115,62,46]⟩
noncomputable abbrev FY:Str:=⟨#[98,117,102,102,101,114]⟩
noncomputable abbrev FT:Str:=⟨#[115,101,110,100,101,114,115]⟩
noncomputable abbrev FZ:Str:=⟨#[114,101,99,101,105,118,101,114,115]⟩
noncomputable abbrev Gt:Str:=⟨#[99,108,111,115,101,100]⟩
noncomputable abbrev G6:Str:=⟨#[114,101,112,108,97,99,101]⟩
noncomputable abbrev Gl:Str:=⟨#[98,121,116,101,115,46,100,101,99,111,100,101]⟩
noncomputable abbrev L0:=PySem.W.SL.s14018661285674007319x4
noncomputable abbrev L1:=PySem.W.SL.s2742458400755230247x6
noncomputable abbrev L2:=PySem.W.SL.s658472552662922059x5
noncomputable abbrev L3:=PySem.W.SL.s6181755712446570794x6
noncomputable abbrev L4:=PySem.W.SL.s2766695959194262286x5
noncomputable abbrev L5:=PySem.W.SL.s5856160107412720595x4
noncomputable abbrev L6:=PySem.W.SL.s17162191345867700912x4
noncomputable abbrev L7:=PySem.W.SL.s15992201931430999065x14
noncomputable abbrev L8:=PySem.W.SL.s11443829558043349243x14
noncomputable abbrev L9:=PySem.W.SL.s5946037652744460706x9
noncomputable abbrev La:=PySem.W.SL.s3834378056692298002x18
noncomputable abbrev Lb:=PySem.W.SL.s5658353481640781935x16
noncomputable abbrev Lc:=PySem.W.SL.s13624992175810213990x8
noncomputable abbrev Ld:=PySem.W.SL.s8077881857196166566x16
noncomputable abbrev Le:=PySem.W.SL.s7174869446012820540x8
noncomputable abbrev Lf:=PySem.W.SL.s4278001404047624695x13
noncomputable abbrev Lg:=PySem.W.SL.s10852414792293593619x7
noncomputable abbrev Lh:=PySem.W.SL.s9222952809800978799x4
noncomputable abbrev Li:=PySem.W.SL.s4674234679698826739x5
noncomputable abbrev Lj:=PySem.W.SL.s5160863994218179198x17
noncomputable abbrev Lk:=PySem.W.SL.s11797481509799174649x16
noncomputable abbrev Ll:=PySem.W.SL.s2865449183208198353x13
noncomputable abbrev Lm:=PySem.W.SL.s4096838299382398694x14
noncomputable def jm (head : Value) (L : Nat) (fl : Value) (x : Nat → Value) : Obj := { cls := .type "traceback", dict := none, data := .fields #[head, .ref L, .none, fl, .none, x 0, x 1, x 2, x 3, x 4, x 5] }
noncomputable def bQ (i:Nat) (v:Value):Obj→Obj:=Obj.mapFields (·.setIfInBounds i v)
theorem ij {o:Obj} {vs:Array Value} {i:Nat} {v:Value} (hd:o.data=.fields vs) (h:vs[i]?=some v):bQ i v o=o:=by
 obtain ⟨c,d,dt,sl⟩:=o
 simp only at hd
 subst hd
 obtain ⟨hi,hv⟩:=Array.getElem?_eq_some_iff.mp h
 have:vs.setIfInBounds i v=vs:=by
  apply Array.ext (by simp)
  intro j h1 h2
  rw [Array.getElem_setIfInBounds]
  by_cases q:i=j
  ·subst q; simp [hv]
  ·simp [q]
  exact h2
 show (⟨c,d,.fields (vs.setIfInBounds i v),sl⟩:Obj)=_
 rw [this]
theorem oM {pl:List Value} (h:IsPlace pl):∃ x:Nat→Value,(if pl.isEmpty then List.replicate 6 Value.none else pl)=[x 0,x 1,x 2,x 3,x 4,x 5]:=by
 rcases h with rfl | ⟨a,b,c,d,c9,b10,_,rfl⟩
 ·exact ⟨fun _=>.none,rfl⟩
 ·exact ⟨fun i=>match i with | 0=>rawInt a | 1=>rawInt b | 2=>rawInt c | 3=>rawInt d | 4=>c9 | _=>.bool b10,rfl⟩
section
variable {M:Model} {A:Around} {E:Value→Shared→Prop} {s:Shared}
theorem lq {base:Heap} {env:Env} {outer:List Env} {L e:Addr} {oe:Obj} {vs:Array Value} {head:Value} {Q:Unit→Shared→Prop}
 (hfr:A.frames=some (env::outer)) (hl:s.heap.FunFrames base (env::outer)) (hf:env.frame=some L)
 (he:s.heap.get? e=some oe) (hd:oe.data=.fields vs) (h1:vs[1]?=some head)
 (hh:head=.none∨∃ T oT ts,head=.ref T∧s.heap.get? T=some oT∧oT.data=.fields ts∧ts[3]?=some .none)
 (h:∀ h₁ x,Heap.SlotsOnly ((env::outer).filterMap (·.frame)) s.heap h₁→Q () { s with heap:=(h₁.push (jm head L (rawInt L) x)).update e (bQ 1 (.ref h₁.objs.size)) }) :
 wpAny M A (noteFrame (.ref e) env) Q E s:=by
 have fin:∀ (b:Bool) (h₀:Heap),h₀.objs.size=s.heap.objs.size→(∀ a,h₀.get? a=s.heap.get? a)→wpAny M A (do let a←frameOf env; let pl←entryPlaceOf L b; let t←EntryCells.newEntry head a .none (rawInt L) .none pl; setField (.ref e) 1 t) Q E { s with heap:=h₀ }:=by
  intro b h₀ hz hsame
  have hl₀:h₀.FunFrames base (env::outer):=hl.of_keeps fun a o z _=>⟨o,(hsame a).trans z,rfl⟩
  refine wpAny_bind (wpAny_frameOf_fun hfr hl₀ hf fun h₁ hs₁=>?_)
  refine wpAny_bind (wpAny_entryPlaceOf fun pl hpl=>?_)
  unfold EntryCells.newEntry newFields
  refine wpAny_bind (wpAny_newObj_type ?_ (hpl.sizeOk5 _ _ _ _ _))
  obtain ⟨x,hx⟩:=oM hpl
  have hsl:Heap.SlotsOnly ((env::outer).filterMap (·.frame)) s.heap h₁:=⟨hs₁.1.trans hz,fun a ha=>(hs₁.2.1 a ha).trans (hsame a),fun a o ho=>hs₁.2.2 a o ((hsame a).trans ho)⟩
  have hene:e∉(env::outer).filterMap (·.frame):=fun hm=>by
   obtain ⟨_,o,ho,hnf⟩:=hl.mem hm
   rw [he] at ho; injection ho with ho; subst ho; exact hnf vs hd
  have he₁:h₁.get? e=some oe:=(hsl.2.1 e hene).trans he
  have eo : ({ cls := .type "traceback", dict := none, data := .fields ([head, Value.ref L, Value.none, rawInt L, Value.none] ++ (if pl.isEmpty then List.replicate 6 Value.none else pl)).toArray } : Obj) = jm head L (rawInt L) x := by
   rw [hx]; rfl
  rw [eo]
  exact wpAny_setField (Heap.get?_push_of_some _ he₁) hd (Array.getElem?_eq_some_iff.mp h1).1 (h h₁ x hsl)
 unfold noteFrame
 simp only [hf]
 refine wpAny_bind (wpAny_field he hd h1 ?_)
 rcases hh with rfl | ⟨T,oT,ts,rfl,hT,hdT,h3⟩
 ·rw [if_neg (by decide)]
  exact fin false s.heap rfl fun _=>rfl
 ·rw [if_pos (show (Value.ref T != Value.none)=true from by simp)]
  refine wpAny_bind (wpAny_field hT hdT h3 ?_)
  rw [if_neg (show ¬ ((Value.none == rawInt L)=true) from by simp [rawInt])]
  refine wpAny_bind (wpAny_setField hT hdT (Array.getElem?_eq_some_iff.mp h3).1 ?_)
  refine fin _ _ (Heap.size_after_update ..) fun a=>?_
  by_cases q:a=T
  ·subst q
   have:=Heap.get?_update_self (bQ 3 .none) hT (by rw [ij hdT h3]; exact Obj.isFreed_of_fields hdT)
   rw [ij hdT h3] at this
   exact this.trans hT.symm
  ·exact Heap.get?_update_other _ _ (Ne.symm q)
theorem iF {e T:Addr} {oe oT:Obj} {vs ts:Array Value} {Q:Unit→Shared→Prop} (he:s.heap.get? e=some oe) (hd:oe.data=.fields vs) (h1:vs[1]?=some (.ref T))
 (hT:s.heap.get? T=some oT) (hdT:oT.data=.fields ts) (h3:3<ts.size) (h:Q () { s with heap:=s.heap.update T (bQ 3 .none) }):wpAny M A (setFlight (.ref e) none) Q E s:=by
 unfold setFlight
 refine wpAny_bind (wpAny_field he hd h1 ?_)
 rw [if_pos (show (Value.ref T != Value.none)=true from by simp)]
 exact wpAny_setField hT hdT h3 h
end
noncomputable def kn (c:Code):Sem Fin:=PySem.W.Fast.tw11892475500146522536 PySem.W.Fast.tw14364793385576792824 c
theorem lk:denote table=kn:=by
 funext c
 show _=PySem.W.Fast.tw11892475500146522536 PySem.W.Fast.tw14364793385576792824 c
 rw [← PySem.W.Fast.te11892475500146522536,←PySem.W.Fast.te14364793385576792824,table_eq_tree]
structure Cell where
 mu:Bool
 a:Nat
 o:Obj
inductive ST where
 | nil
 | node (c:Cell) (l r:ST)
namespace ST
noncomputable def get:ST→Nat→Option Cell
 | .nil,_=>none
 | .node v l r,i=>match Nat.beq i 0 with
  | true=>some v
  | false=>match Nat.beq (i % 2) 1 with
   | true=>l.get (i / 2)
   | false=>r.get (i / 2 - 1)
noncomputable def set:ST→Nat→Obj→ST
 | .nil,_,_=>.nil
 | .node v l r,i,o=>match Nat.beq i 0 with
  | true=>.node ⟨v.mu,v.a,o⟩ l r
  | false=>match Nat.beq (i % 2) 1 with
   | true=>.node v (l.set (i / 2) o) r
   | false=>.node v l (r.set (i / 2 - 1) o)
noncomputable def ins:ST→Nat→Cell→ST
 | .nil,_,c=>.node c .nil .nil
 | .node v l r,i,c=>match Nat.beq i 0 with
  | true=>.node c l r
  | false=>match Nat.beq (i % 2) 1 with
   | true=>.node v (l.ins (i / 2) c) r
   | false=>.node v l (r.ins (i / 2 - 1) c)
theorem get_node (v:Cell) (l r:ST) (i:Nat):(node v l r).get i=if i=0 then some v else if i % 2=1 then l.get (i / 2) else r.get (i / 2 - 1):=by
 show (match Nat.beq i 0 with | true=>some v | false=>match Nat.beq (i % 2) 1 with | true=>l.get (i / 2) | false=>r.get (i / 2 - 1))=_
 rw [BT.beq_eq,BT.beq_eq]
 by_cases h:i=0
 ·simp [h]
 ·by_cases q:i % 2=1 <;> simp [h,q]
theorem set_node (v:Cell) (l r:ST) (i:Nat) (o:Obj):(node v l r).set i o=if i=0 then node ⟨v.mu,v.a,o⟩ l r else if i % 2=1 then node v (l.set (i / 2) o) r else node v l (r.set (i / 2 - 1) o):=by
 show (match Nat.beq i 0 with | true=>node ⟨v.mu,v.a,o⟩ l r | false=>match Nat.beq (i % 2) 1 with | true=>node v (l.set (i / 2) o) r | false=>node v l (r.set (i / 2 - 1) o))=_
 rw [BT.beq_eq,BT.beq_eq]
 by_cases h:i=0
 ·simp [h]
 ·by_cases q:i % 2=1 <;> simp [h,q]
theorem ins_node (v:Cell) (l r:ST) (i:Nat) (c:Cell):(node v l r).ins i c=if i=0 then node c l r else if i % 2=1 then node v (l.ins (i / 2) c) r else node v l (r.ins (i / 2 - 1) c):=by
 show (match Nat.beq i 0 with | true=>node c l r | false=>match Nat.beq (i % 2) 1 with | true=>node v (l.ins (i / 2) c) r | false=>node v l (r.ins (i / 2 - 1) c))=_
 rw [BT.beq_eq,BT.beq_eq]
 by_cases h:i=0
 ·simp [h]
 ·by_cases q:i % 2=1 <;> simp [h,q]
theorem get_set (o:Obj):∀ (t:ST) (j i:Nat),(t.set j o).get i=if i=j then (t.get j).map (fun c=>⟨c.mu,c.a,o⟩) else t.get i
 | .nil,j,i=>by show (ST.nil.get i)=_; simp [get]
 | .node v l r,j,i=>by
  rw [set_node,get_node v l r j,get_node v l r i]
  by_cases hj:j=0
  ·subst hj
   rw [if_pos rfl,get_node]
   by_cases hi:i=0 <;> simp [hi]
  ·rw [if_neg hj]
   by_cases pj:j % 2=1
   ·rw [if_pos pj,get_node]
    by_cases hi:i=0
    ·simp [hi,Ne.symm hj]
    ·by_cases pi:i % 2=1
     ·simp only [hi,pi,hj,pj,if_true,if_false,get_set o l]
      by_cases e:i=j
      ·simp [e]
      ·have:i / 2≠j / 2:=by omega
       simp [e,this]
     ·have:i≠j:=fun q=>pi (q▸pj)
      simp [hi,pi,this]
   ·rw [if_neg pj,get_node]
    by_cases hi:i=0
    ·simp [hi,Ne.symm hj]
    ·by_cases pi:i % 2=1
     ·have:i≠j:=fun q=>pj (q▸pi)
      simp [hi,pi,this]
     ·simp only [hi,pi,hj,pj,if_false,get_set o r]
      by_cases e:i=j
      ·simp [e]
      ·have:i / 2 - 1≠j / 2 - 1:=by omega
       simp [e,this]
theorem get_ins (c:Cell):∀ (t:ST) (j:Nat),((t.ins j c).get j).isSome=true→∀ i,(t.ins j c).get i=if i=j then some c else t.get i
 | .nil,j,h,i=>by
  have e:(ST.nil.ins j c)=node c nil nil:=rfl
  rw [e,get_node] at h
  have hj:j=0:=by
   by_cases q:j=0
   ·exact q
   ·simp [q,get] at h
  subst hj
  rw [e,get_node]
  by_cases hi:i=0 <;> simp [hi,get]
 | .node v l r,j,h,i=>by
  rw [ins_node] at h ⊢
  by_cases hj:j=0
  ·subst hj
   rw [if_pos rfl,get_node,get_node]
   by_cases hi:i=0 <;> simp [hi]
  ·rw [if_neg hj] at h ⊢
   by_cases pj:j % 2=1
   ·rw [if_pos pj,get_node] at h
    simp only [hj,pj,if_true,if_false] at h
    rw [if_pos pj,get_node,get_node]
    by_cases hi:i=0
    ·simp [hi,Ne.symm hj]
    ·by_cases pi:i % 2=1
     ·simp only [hi,pi,if_true,if_false,get_ins c l _ h]
      by_cases e:i=j
      ·simp [e]
      ·have:i / 2≠j / 2:=by omega
       simp [e,this]
     ·have:i≠j:=fun q=>pi (q▸pj)
      simp [hi,pi,this]
   ·rw [if_neg pj,get_node] at h
    simp only [hj,pj,if_false] at h
    rw [if_neg pj,get_node,get_node]
    by_cases hi:i=0
    ·simp [hi,Ne.symm hj]
    ·by_cases pi:i % 2=1
     ·have:i≠j:=fun q=>pj (q▸pi)
      simp [hi,pi,this]
     ·simp only [hi,pi,if_false,get_ins c r _ h]
      by_cases e:i=j
      ·simp [e]
      ·have:i / 2 - 1≠j / 2 - 1:=by omega
       simp [e,this]
end ST
inductive Kd where
 | func | call | blk | forL | whl | compS | compL | hand | caller
noncomputable def Kd.fits:Kd→Code→Bool
 | .func,.func _ _=>true
 | .call,.call _ _=>true
 | .blk,.block _ _=>true
 | .forL,.forLoop _ _ _ _ _=>true
 | .whl,.whileLoop _ _ _ _=>true
 | .compS,.compStart (.ListComp _ _ _ _) _ _ _ _=>true
 | .compL,.compLoop (.ListComp _ _ _ _) _ _ _ _=>true
 | .hand,.handlers _ _ _=>true
 | .caller, .builtin id _ => Nat.beq (PySem.W.S.codeS id) (PySem.W.S.codeS "claim.caller")
 | _,_=>false
structure Ct where
 b:List Stmt
 b2:List Stmt
 e:Env
 f:Value
 f2:Value
 a:Args
 p:Pos
 p2:Pos
 x:Expr
 n:Nat
 hs:List ExceptHandler
 gs:List Comprehension
 m:Scope
noncomputable def Kd.mk:Kd→Ct→Code
 | .func,t=>.func t.b t.e
 | .call,t=>.call t.f t.a
 | .blk,t=>.block t.b t.e
 | .forL,t=>.forLoop t.x t.f t.b t.b2 t.e
 | .whl,t=>.whileLoop t.x t.b t.b2 t.e
 | .compS,t=>.compStart (.ListComp t.x t.gs t.m t.p2) t.n t.f t.f2 t.e
 | .compL,t=>.compLoop (.ListComp t.x t.gs t.m t.p2) t.n t.f t.f2 t.e
 | .hand,t=>.handlers t.f t.hs t.e
 | .caller, t => .builtin "claim.caller" t.a
noncomputable def eE:List Kd→Nat→(Nat→Ct)→List (Code × Pos)
 | [],_,_=>[]
 | k::l,i,κ=>(k.mk (κ i),(κ i).p)::eE l (i+1) κ
noncomputable def ol:List Kd→List (Code × Pos)→Bool
 | [],[]=>true
 | k::l,x::r=>match k.fits x.1 with
  | true=>ol l r
  | false=>false
 | _,_=>false
noncomputable def jA:List (List Kd)→List (Code × Pos)→Bool
 | [],_=>false
 | l::ls,r=>match ol l r with
  | true=>true
  | false=>jA ls r
noncomputable def gq (ls:List (List Kd)) (r:List (Code × Pos)):Bool:=match ls with
 | []=>true
 | _::_=>jA ls r
structure V7 where
 a:Value
 b:Value
 c:Value
 d:Value
 e:Value
 f:Value
 g:Value
structure Post where
 X:Nat
 Y:Nat
 d:Nat
 R:V7
 F:V7
 K:List (Nat × Value)
 t:Nat→Nat
 o:Nat→Obj
noncomputable def Post.zero:Post:=⟨0,0,0,⟨.none,.none,.none,.none,.none,.none,.none⟩,⟨.none,.none,.none,.none,.none,.none,.none⟩,[],fun _=>0,fun _=>{ cls:=.none }⟩
structure Spec where
 lv:Nat
 sh:List (List Kd)
 c:Code
 pre:List (Nat × Obj)
 mu:List Nat
 nb:Nat
 nt:Nat
 po:List Nat→List Nat→List Obj
 nw:List Nat→List Nat→List Obj
 r:List Nat→List Nat→Result
 dy:Bool
 di:Bool
structure Use where
 S:(Nat→Nat)→(Nat→Nat)→(Nat→Obj)→(Nat→Post)→Post→Spec
 ix:List Nat
 jx:List Nat
 tl:Option (Nat × Nat):=none
structure LibE where
 js:List Nat
 S:Code→List Cell→List Nat→Spec
inductive Sd where
 | n (a:Nat)
 | o (a:Obj)
 | c (a:Code)
 | t (a:Sem Fin)
 | r (a:Result)
 | s (l:List Sd)
structure Out where
 r:Result
 T:ST
 L:List Sd
 R:List Sd
 d:Bool
inductive PT where
 | nil
 | node (k:Nat) (v:Obj) (l r:PT)
noncomputable def PT.get:PT→Nat→Option Obj
 | .nil,_=>none
 | .node k v l r,i=>match Nat.beq i k with
  | true=>some v
  | false=>match Nat.blt i k with
   | true=>l.get i
   | false=>r.get i
inductive Kt where
 | base
 | ret (Γ:Ctx) (p:Pos) (bd:Nat) (k:Result→Sem Fin) (κ:Kt)
noncomputable def m3 (self:Addr) (fd:FuncData) (args:Args):Sem Fin :=
 Sem.bind (PySem.W.Fast.tw6609576154772507232 fd.code 1) fun v=>match v with
  | .str q _=>Sem.bind (PySem.W.Fast.tw9782568553167038054 fd args) fun binds =>
   Sem.bind (PySem.W.Fast.tw11113344188204177931 fd.scope fd.globals fd.closure binds (q ++ (G4:Str)) (some self) fd.code none fd.builtins) fun env =>
    .pure (.again (match fd.body with | .stmts b=>.func b env | .expr e=>.expr e env))
  | _ => .unsupported "entry"
noncomputable def j9 (fd:FuncData):Bool:=match fd.code with
 | .none=>false
 | _=>match fd.scope.isGenerator with
  | true=>false
  | false=>match fd.scope.isCoroutine with
   | true=>false
   | false=>true
noncomputable def ib (c:Code):Nat:=match c with
 | .builtin id _ => match Nat.beq (PySem.W.S.codeS id) (PySem.W.S.codeS "claim.caller") with
  | true=>400
  | false=>12
 | _=>4
structure Cx where
 prog:Program
 w:World
 kt:PT
 en:ST
 cb:Bool
 ν:Nat→Nat
 τ:Nat→Nat
 υ:Nat→Nat→Value
 π:Nat→Pos
 ς:Array (Option Value)
 dy:Bool
 ρ:Nat→Post
 shs:List (List Kd)
 κc:Nat→Ct
 mn:Nat→Cell
 lb:List LibE
noncomputable def F5:Nat:=439938610023
noncomputable def aU (o:Obj):Bool:=match o.cls with
 | .type s=>Nat.beq (PySem.W.S.codeS s) F5
 | _=>false
noncomputable def wS (o:Obj) (sl:Array (Option Value)):Obj:=⟨o.cls,o.dict,o.data,sl⟩
noncomputable def b7 (d st:Bool) (o:Obj):Bool:=match d with
 | false=>false
 | true=>match st with
  | false=>false
  | true=>aU o
noncomputable def n0:List Value→Nat→Option Value
 | [],_=>none
 | v::_,0=>some v
 | _::l,i+1=>n0 l i
noncomputable def eH:List (Nat × Obj)→List Sd
 | []=>[]
 | x::l=>.n x.1::.o x.2::eH l
noncomputable def dC (T:ST) (d di:Bool):List Nat→List Sd
 | []=>[]
 | i::l=>match T.get i with
  | some c=>match b7 d true c.o with
   | false=>.n c.a::.o c.o::dC T d di l
   | true=>match di with
    | true=>.n c.a::.o c.o::dC T d di l
    | false=>[]
  | none=>[]
noncomputable def nD (T:ST):List Nat→List Sd
 | []=>[]
 | i::l=>match T.get i with
  | some c=>match c.mu with
   | true=>.n c.a::nD T l
   | false=>[]
  | none=>[]
noncomputable def n5:List Nat→List Sd
 | []=>[]
 | a::l=>.n a::n5 l
noncomputable def cD:ST→List Nat→List Obj→ST
 | T,i::l,o::os=>cD (T.set i o) l os
 | T,_,_=>T
noncomputable def bS:ST→Nat→List Nat→List Obj→Option ST
 | T,m,a::as,o::os=>match (T.ins m ⟨true,a,o⟩).get m with
  | some _=>bS (T.ins m ⟨true,a,o⟩) (m+1) as os
  | none=>none
 | T,_,[],[]=>some T
 | _,_,_,_=>none
noncomputable def aY (ν:Nat→Nat):Nat→Nat→List Nat
 | _,0=>[]
 | k,n+1=>ν k::aY ν (k+1) n
noncomputable def aL (T:ST) (i:Nat):Nat:=match T.get i with
 | some c=>c.a
 | none=>0
noncomputable def b6 (T:ST) (i:Nat):Obj:=match T.get i with
 | some c=>c.o
 | none=>{ cls:=.none }
noncomputable def ci (τ:Nat→Nat) (i:Nat) (j:Nat):Nat:=match Nat.blt j i with
 | true=>τ j
 | false=>0
noncomputable def c7 (ρ:Nat→Post) (k:Nat) (j:Nat):Post:=match Nat.blt j k with
 | true=>ρ j
 | false=>Post.zero
noncomputable def gw (i:Nat):List Nat→Bool
 | []=>false
 | j::l=>match Nat.beq j i with
  | true=>true
  | false=>gw i l
noncomputable def cM:List Nat→Bool
 | []=>true
 | i::l=>match gw i l with
  | true=>false
  | false=>cM l
noncomputable def cO {α β:Type}:List α→List β→Bool
 | [],[]=>true
 | _::l,_::l'=>cO l l'
 | _,_=>false
noncomputable def oO {α:Type} (x:Nat × List Sd × List Sd) (k:Nat→List Sd→List Sd→α):α:=match x with
 | (a,b,c)=>k a b c
theorem fC {α:Type} (x:Nat × List Sd × List Sd) (k:Nat→List Sd→List Sd→α):oO x k=k x.1 x.2.1 x.2.2:=rfl
noncomputable def pF (T:ST) (c:Code) (j:Nat):Option (Sd × Sd):=match c with
 | .func _ env=>match env.frame with
  | some L=>match T.get j with
   | some cell=>match aU cell.o with
    | true=>match cell.o.data with
     | .dict _ _=>match env.scope.kind with
      | .module=>none
      | _=>some (.n L,.n cell.a)
     | _=>none
    | false=>none
   | none=>none
  | none=>none
 | _=>none
noncomputable def hB:Nat:=1024
noncomputable def mP (T:ST) (c:Code) (hs:Nat) (L R:List Sd):Option (Nat × List Sd × List Sd):=match c.isFrame with
 | false=>some (hs,L,R)
 | true=>match pF T c (hs % hB) with
  | some x=>some (hs / hB,x.1::L,x.2::R)
  | none=>none
noncomputable def cL (T:ST):Kt→Nat→List Sd→List Sd→Option (Nat × List Sd × List Sd)
 | .base,hs,L,R=>some (hs,L,R)
 | .ret Γ _ _ _ κ,hs,L,R=>match mP T Γ.code hs L R with
  | some x=>oO x fun h l r=>cL T κ h l r
  | none=>none
noncomputable def eg (T:ST) (c:Code) (κ:Kt) (hs:Nat) (L R:List Sd):Option (Nat × List Sd × List Sd):=match mP T c hs L R with
 | some x=>oO x fun h l r=>cL T κ h l r
 | none=>none
noncomputable def jW (T:ST):List Nat→Bool
 | []=>true
 | i::l=>match T.get i with
  | some c=>match aU c.o with
   | true=>false
   | false=>jW T l
  | none=>false
noncomputable def bm:Kt→List (Code × Pos)→List (Code × Pos)
 | .base,b=>b
 | .ret Γ p _ _ κ,b=>(Γ.code,p)::bm κ b
noncomputable def fz (sh:List (List Kd)) (κc:Nat→Ct) (bf:List (Code × Pos)→List (Code × Pos)):List (List Kd)→Bool
 | []=>true
 | l::ls=>match gq sh (bf (eE l 0 κc)) with
  | true=>fz sh κc bf ls
  | false=>false
noncomputable def mI (V:Cx) (sh:List (List Kd)) (bf:List (Code × Pos)→List (Code × Pos)):Bool:=match sh with
 | []=>true
 | _::_=>match V.shs with
  | []=>false
  | _::_=>fz sh V.κc bf V.shs
noncomputable def i4 (κc:Nat→Ct) (f:List (Code × Pos)→Sem Fin) (bf:List (Code × Pos)→List (Code × Pos)):List (List Kd)→List Sd
 | []=>[]
 | l::ls=>.t (f (bf (eE l 0 κc)))::i4 κc f bf ls
noncomputable def gp (f:List (Code × Pos)→Sem Fin):List (List Kd)→List Sd
 | []=>[]
 | _::ls=>.t (f [])::gp f ls
noncomputable def vy (κ:Kt) (T:ST) (l:List Nat):Bool:=match κ with
 | .base=>true
 | .ret _ _ _ _ _=>jW T l
noncomputable def Cu {α:Type} (n:Nat) (K:Nat→α):α:=(Nat.rec (fun k=>K k) (fun _ ih k=>ih (k+1)) n:Nat→α) 0
theorem rg {α:Type} (n:Nat) (K:Nat→α):Cu n K=K n:=by
 have:∀ (n k:Nat),(Nat.rec (fun k=>K k) (fun _ ih k=>ih (k+1)) n:Nat→α) k=K (k+n):=by
  intro n
  induction n with
  | zero=>intro k; rfl
  | succ n ih=>intro k; show (Nat.rec (fun k=>K k) (fun _ ih k=>ih (k+1)) n:Nat→α) (k+1)=_; rw [ih]; congr 1; omega
 show (Nat.rec (fun k=>K k) (fun _ ih k=>ih (k+1)) n:Nat→α) 0=_
 rw [this,Nat.zero_add]
noncomputable def j5 (V:Cx) (d:Bool) (T:ST) (m k i hs:Nat) (c:Code) (bf:List (Code × Pos)→List (Code × Pos)) (u:Use) (nf:Bool) (lv:Nat) (ch:Nat→Option (Nat × List Sd × List Sd)) (K:Result→Nat→Bool→ST→Nat→Nat→Nat→Sd→Sd→Option Out):Option Out :=
 match u.S (aL T) (ci V.τ i) (b6 T) (c7 V.ρ k) (V.ρ k) with
 | ⟨lv',sh,c',pre,mu,n,q,po,nw,r,dy,di⟩=>Cu n fun n=>Cu q fun q=>match Nat.ble lv' lv with
  | false=>none
  | true=>match mI V sh bf with
   | false=>none
   | true=>match cM u.ix with
    | false=>none
    | true=>match cO mu u.jx with
     | false=>none
     | true=>match cO (po (aY V.ν k n) (aY V.τ i q)) u.jx with
      | false=>none
      | true=>match bS (cD T u.jx (po (aY V.ν k n) (aY V.τ i q))) m (aY V.ν k n) (nw (aY V.ν k n) (aY V.τ i q)) with
       | none=>none
       | some T'=>match dy with
        | false=>K (r (aY V.ν k n) (aY V.τ i q)) hs d T' (m+n) (k+n+1) (i+q) (.s [.c c',.s (eH pre),.s (n5 mu),.s []]) (.s [.c c,.s (dC T d di u.ix),.s (nD T u.jx),.s []])
        | true=>match V.dy with
         | false=>none
         | true=>match nf with
          | false=>none
          | true=>match ch hs with
           | none=>none
           | some x=>oO x fun h LL RR=>K (r (aY V.ν k n) (aY V.τ i q)) h true T' (m+n) (k+n+1) (i+q) (.s [.c c',.s (eH pre),.s (n5 mu),.s LL]) (.s [.c c,.s (dC T d di u.ix),.s (nD T u.jx),.s RR])
noncomputable def sM:List LibE→Nat→Option LibE
 | [],_=>none
 | e::l,i=>match i with
  | 0=>some e
  | i+1=>sM l i
noncomputable def C4:List Nat→Nat→Nat
 | [],_=>0
 | e::l,i=>match i with
  | 0=>e
  | i+1=>C4 l i
noncomputable def jq (T:ST) (n:Nat):Nat→(Nat→List Nat→List Cell→Option Out)→Option Out:=Nat.rec (fun hs K=>K hs [] []) (fun _ ih hs K=>match T.get (hs % hB) with
 | none=>none
 | some c=>ih (hs / hB) fun h ix cs=>K h (hs % hB::ix) (c::cs)) n
noncomputable def vG (n:Nat):Nat→(Nat→List Nat→Option Out)→Option Out:=Nat.rec (fun hs K=>K hs []) (fun _ ih hs K=>ih (hs / hB) fun h l=>K h (hs % hB::l)) n
noncomputable def f9 (lb:List LibE) (T:ST) (c:Code) (h hs:Nat) (us:List Use) (K:Nat→Use→List Use→Option Out):Option Out:=match Nat.beq h 2 with
 | true=>match us with
  | []=>none
  | u::us=>match u.tl with
   | some _=>none
   | none=>K hs u us
 | false=>match sM lb (h - 4) with
  | none=>none
  | some e=>jq T (hs % hB % 32) (hs / hB) fun hs1 ix cs=>vG (hs % hB / 32) hs1 fun hs2 ms=>K hs2 ⟨fun _ _ _ _ _=>e.S c cs ms,ix,e.js.map (C4 ix),none⟩ us
noncomputable def qm : String := "special-get-raises"
noncomputable def sS : String := "comprehension-iter-twice"
noncomputable def wF (w:World) (n:Nat) (b:Bool):Params:={ w.params with followText:=fun r=>match Nat.beq (PySem.W.S.codeS r) n with | true=>b | false=>w.params.followText r }
noncomputable def nS:Nat:=10139888712337904147300001983332972444938612
noncomputable def nC:Nat:=2510650655181157320538776789020469319833841985448949215332
theorem vI:PySem.W.S.codeS qm=nS:=by kernel_rfl
theorem E6:PySem.W.S.codeS sS=nC:=by kernel_rfl
theorem iH (w:World) (s:String):wF w (PySem.W.S.codeS s) (w.params.followText s)=w.params:=by
 unfold wF
 have:(fun r=>match Nat.beq (PySem.W.S.codeS r) (PySem.W.S.codeS s) with | true=>w.params.followText s | false=>w.params.followText r)=w.params.followText:=by
  funext r
  cases h:Nat.beq (PySem.W.S.codeS r) (PySem.W.S.codeS s) with
  | false=>rfl
  | true =>
   have:=Nat.eq_of_beq_eq_true h
   rw [← PySem.W.S.code_S,←PySem.W.S.code_S] at this
   rw [PySem.code_inj _ _ this]
 rw [this]
noncomputable def zN:List Nat:=[2341386987387381298277481238717043,9146042919481958196396663532141,2341386987387381298277481322739317,35726730154226399204674336116,10056180538108767159183876981558246666106228]
theorem uU : zN = [PySem.W.S.codeS "range_iterator", PySem.W.S.codeS "list_iterator", PySem.W.S.codeS "tuple_iterator", PySem.W.S.codeS "str_iterator", PySem.W.S.codeS "str_ascii_iterator"] := by kernel_rfl
noncomputable def kZ (o:Obj):Bool:=match o.cls with
 | .type s=>gw (PySem.W.S.codeS s) zN
 | _=>false
noncomputable def mw (c:Code):Option (Code × Nat):=match c with
 | .compStart e dp it acc env=>match e with
  | .ListComp _ gs _ _=>match gs with
   | []=>none
   | g::_=>match decide (g.is_async=0) with
    | false=>none
    | true=>match dp with
     | 0=>match it with
      | .ref a=>some (.compLoop e 0 (.ref a) acc env,a)
      | _=>none
     | _=>none
  | _=>none
 | _=>none
noncomputable def fc (T:ST) (c:Code) (j:Nat):Option (Code × Nat × Nat):=match mw c with
 | none=>none
 | some x=>match x with
  | (c',a)=>match T.get j with
   | none=>none
   | some ce=>match kZ ce.o with
    | false=>none
    | true=>some (c',a,ce.a)
noncomputable abbrev fJ:=Nat→List Use→Ctx→Kt→Nat→Sem Fin→Pos→Bool→ST→Nat→Nat→Nat→List Sd→List Sd→Option Out
noncomputable def fo (ih:fJ) (r:Result) (hs:Nat) (us:List Use) (κ:Kt) (d:Bool) (T:ST) (m k i:Nat) (L R:List Sd):Option Out:=match κ with
 | .base=>some ⟨r,T,L,R,d⟩
 | .ret Γ p bd f κ=>ih hs us Γ κ bd (f r) p d T m k i L R
noncomputable def bZ (V:Cx) (c:Code):Option (Sem Fin):=match c with
 | .call f args=>match f with
  | .ref a=>match V.kt.get a with
   | some o=>match o.data with
    | .func fd=>match j9 fd with
     | true=>some (m3 a fd args)
     | false=>none
    | _=>none
   | none=>none
  | _=>none
 | _=>none
noncomputable def bD (V:Cx) (T:ST) (k h a:Nat):Option (Obj × Option (Nat × Bool)):=match h with
 | 0=>match V.kt.get a with
  | some o=>some (o,none)
  | none=>none
 | j+1=>match Nat.ble 700 j with
  | true=>match Nat.blt (j - 700) k with
   | true=>some ((V.mn (V.ρ (j - 700)).d).o,some ((V.mn (V.ρ (j - 700)).d).a,false))
   | false=>none
  | false=>match Nat.beq (j % 2) 0 with
   | true=>match V.en.get (j / 2) with
    | some c=>some (c.o,some (c.a,false))
    | none=>none
   | false=>match T.get (j / 2) with
    | some c=>some (c.o,some (c.a,true))
    | none=>none
noncomputable def so (fl:Flow):Sem Fin:=match fl with
 | .ret v=>.pure (.done (.ret v))
 | _=>.pure (.done (.ret .none))
noncomputable def Gq (rest:List Stmt) (env:Env) (fl:Flow):Sem Flow:=match fl with
 | .next=>PySem.W.Fast.tw12563942051412417395 rest env
 | f=>.pure f
noncomputable def e7 (env:Env) (e:Nat):Sem Fin:=PySem.W.R.bindR (PySem.W.R.bindR (PySem.W.Fast.tw9442747609961115081 env (.ref e)) fun _=>Sem.raise (.ref e)) so
noncomputable def jr (env:Env) (e:Nat) (hs:List ExceptHandler) (rest:List Stmt):Sem Fin :=
 PySem.W.R.bindR (PySem.W.R.onRaiseR (PySem.W.R.bindR (PySem.W.R.bindR (PySem.W.Fast.tw5670386056902412789 (.ref e) none) fun _=>PySem.W.Fast.tw14206642085496868694 (.ref e) env hs) (Gq rest env)) (PySem.W.Fast.tw9442747609961115081 env)) so
noncomputable def ed (env:Env) (e:Nat) (hs:List ExceptHandler) (rest:List Stmt):Sem Fin :=
 PySem.W.R.bindR (PySem.W.R.onRaiseR (PySem.W.R.bindR (PySem.W.R.bindR (PySem.W.Fast.tw17872113653443481271 (.ref e) env) fun _=>PySem.W.R.bindR (PySem.W.Fast.tw5670386056902412789 (.ref e) none) fun _=>PySem.W.Fast.tw14206642085496868694 (.ref e) env hs) (Gq rest env)) (PySem.W.Fast.tw9442747609961115081 env)) so
noncomputable def rl (T:ST) (head:Value) (j:Nat):Option (List Sd × List Sd):=match head with
 | .none=>some ([],[])
 | .ref tb=>match T.get j with
  | some c=>match aU c.o with
   | true=>none
   | false=>match c.o.data with
    | .fields ts=>match n0 ts.toList 3 with
     | some v=>match v with
      | .none=>some ([.n tb],[.n c.a])
      | _=>none
     | none=>none
    | _=>none
  | none=>none
 | _=>none
structure NoteC where
 body:List Stmt
 env:Env
 fr:Nat
 j:Nat
 o:Obj
 e:Nat
 head:Value
 hs:Nat
 L:List Sd
 R:List Sd
noncomputable def NoteC.run {α:Type} (N:NoteC) (k:Nat→α):α:=match N with
 | ⟨_,_,_,_,_,_,_,h,_,_⟩=>k h
theorem NoteC.run_eq {α:Type} (N:NoteC) (k:Nat→α):N.run k=k N.hs:=rfl
noncomputable def da (dy:Bool) (Γ:Ctx) (κ:Kt) (T:ST) (hs:Nat):Option NoteC:=match dy with
 | false=>none
 | true=>match Γ.code with
  | .func body env=>match env.frame with
   | none=>none
   | some L=>match T.get (hs % hB) with
    | none=>none
    | some ce=>match ce.mu with
     | false=>none
     | true=>match aU ce.o with
      | true=>none
      | false=>match ce.o.data with
       | .fields vs=>match n0 vs.toList 1 with
        | none=>none
        | some head=>match rl T head (hs / hB % hB) with
         | none=>none
         | some hp=>match eg T (.func body env) κ (hs / hB / hB) hp.1 hp.2 with
          | none=>none
          | some y=>oO y fun h l r=>some ⟨body,env,L,hs % hB,ce.o,ce.a,head,h,l,r⟩
       | _=>none
  | _=>none
noncomputable def bK (V:Cx) (T:ST) (m k:Nat) (N:NoteC) (fl:Value):ST:=(T.set N.j (bQ 1 (.ref (V.ν k)) N.o)).ins m ⟨true,V.ν k,jm N.head N.fr fl (V.υ k)⟩
noncomputable def ig:List Stmt→Nat→List Stmt
 | l,0=>l
 | [],_=>[]
 | _::l,n+1=>ig l n
noncomputable def pL (l:List Stmt):Option (List ExceptHandler × List Stmt):=match l with
 | s::rest=>match s with
  | .Try _ hs _ fin _=>match fin with
   | []=>match hs with
    | []=>none
    | h::hs=>some (h::hs,rest)
   | _=>none
  | _=>none
 | []=>none
noncomputable def dA (c:Code) (j:Nat):Sem Fin:=match c with
 | .func body env=>PySem.W.R.bindR (PySem.W.R.onRaiseR (PySem.W.Fast.tw12563942051412417395 (ig body j) env) (PySem.W.Fast.tw9442747609961115081 env)) so
 | _ => .unsupported "tail"
noncomputable def aN (V:Cx) (ih:fJ):fJ:=fun hs us Γ κ bd t p d T m k i L R=>match t with
 | .pure fin=>match fin with
  | .done f=>fo ih (.ok f) hs us κ d T m k i L R
  | .again c=>match c.quiet with
   | false=>none
   | true=>match Nat.beq (hs % hB) 3 with
    | true=>match fc T c (hs / hB % hB) with
     | some x=>ih (hs / hB / hB) us ((Γ.goto c).goto x.1) κ bd (kn x.1) (V.π k) d T m (k+1) i (.n x.2.1::L) (.n x.2.2::R)
     | none=>none
    | false=>match hs % hB with
     | 0=>ih (hs / hB) us (Γ.goto c) κ bd (kn c) p d T m k i L R
     | 1=>match bZ V c with
      | some t'=>ih (hs / hB) us (Γ.goto c) κ bd t' p d T m k i L R
      | none=>none
     | _=>match Γ.handled with
      | some _=>none
      | none=>f9 V.lb T c (hs % hB) (hs / hB) us fun hs u us=>j5 V d T m k i hs c (bm κ) u (jW T u.jx) bd (fun hs=>cL T κ hs [] []) fun r hs' d' T' m' k' i' l l'=>fo ih r hs' us κ d' T' m' k' i' (l::L) (l'::R)
 | .raise e=>fo ih (.error e) hs us κ d T m k i L R
 | .rule _ f=>ih hs us Γ κ bd (f ()) p d T m k i L R
 | .at q f=>match us with
  | []=>ih hs us Γ κ bd (f ()) q d T m k i L R
  | u::us'=>match u.tl with
   | none=>ih hs us Γ κ bd (f ()) q d T m k i L R
   | some lj=>match Nat.beq q.line lj.1 with
    | false=>ih hs us Γ κ bd (f ()) q d T m k i L R
    | true=>match Γ.handled with
     | some _=>none
     | none=>j5 V d T m k i hs Γ.code (bm κ) u (vy κ T u.jx) bd (fun hs=>cL T κ hs [] []) fun r hs' d' T' m' k' i' l l'=>fo ih r hs' us' κ d' T' m' k' i' (.s [l,.t (dA Γ.code lj.2)]::L) (.s [l',.t (.at q f)]::R)
 | .point _ f=>ih hs us Γ κ bd (f ()) p d T m k i L R
 | .ask f=>match hs % hB with
  | 0=>ih (hs / hB) us Γ κ bd (f ⟨V.prog,V.w.params⟩) p d T m k i L R
  | 1=>ih (hs / hB) us Γ κ bd (f ⟨V.prog,wF V.w nS true⟩) p d T m k i (.t (f ⟨V.prog,wF V.w nS true⟩)::L) (.t (f ⟨V.prog,wF V.w nS false⟩)::R)
  | _=>ih (hs / hB) us Γ κ bd (f ⟨V.prog,wF V.w nC V.cb⟩) p d T m k i L R
 | .load a q f=>match Nat.ble 1022 (hs % hB) with
  | true=>match Nat.beq (hs % hB) 1023 with
   | true=>match da V.dy Γ κ T (hs / hB) with
    | none=>none
    | some N=>match (bK V T m k N .none).get m with
     | none=>none
     | some _=>N.run fun hs'=>fo ih (.error (.ref N.e)) hs' us κ true (bK V T m k N .none) (m+1) (k+1) i (.s [.t (e7 N.env N.e),.s N.L]::L) (.s [.t (.load a q f),.s N.R]::R)
   | false=>match da V.dy Γ κ T (hs / hB) with
    | none=>none
    | some N=>match (bK V T m k N (rawInt N.fr)).get m with
     | none=>none
     | some _=>N.run fun hs'=>match pL (ig N.body (hs' % hB)) with
      | none=>none
      | some x=>ih (hs' / hB) us Γ κ bd (jr N.env N.e x.1 x.2) (V.π k) true (bK V T m k N (rawInt N.fr)) (m+1) (k+1) i (.s [.t (ed N.env N.e x.1 x.2),.s N.L]::L) (.s [.t (.load a q f),.s N.R]::R)
  | false=>match bD V T k (hs % hB) a with
   | some x=>match x.2 with
    | none=>ih (hs / hB) us Γ κ bd (f x.1) p d T m k i L R
    | some b=>match b7 d b.2 x.1 with
     | false=>ih (hs / hB) us Γ κ bd (f x.1) p d T m k i (.n a::L) (.n b.1::R)
     | true=>ih (hs / hB) us Γ κ bd (f x.1) p d T m k i (.s [.n a,.t (f (wS x.1 V.ς))]::L) (.s [.n b.1,.t (f x.1)]::R)
   | none=>none
 | .loadIfAlive a f=>match bD V T k (hs % hB) a with
  | some x=>match x.2 with
   | none=>ih (hs / hB) us Γ κ bd (f (some x.1)) p d T m k i L R
   | some b=>match b7 d b.2 x.1 with
    | false=>ih (hs / hB) us Γ κ bd (f (some x.1)) p d T m k i (.n a::L) (.n b.1::R)
    | true=>ih (hs / hB) us Γ κ bd (f (some x.1)) p d T m k i (.s [.n a,.t (f (some (wS x.1 V.ς)))]::L) (.s [.n b.1,.t (f (some x.1))]::R)
  | none=>none
 | .alloc o f=>match o.isFreed with
  | true=>none
  | false=>match (T.ins m ⟨true,V.ν k,o⟩).get m with
   | some _=>ih hs us Γ κ bd (f (V.ν k)) p d (T.ins m ⟨true,V.ν k,o⟩) (m+1) (k+1) i L R
   | none=>none
 | .update a _ g f=>match T.get (hs % hB) with
  | some c=>match c.mu with
   | false=>none
   | true=>match (g c.o).isFreed with
    | true=>none
    | false=>match b7 d true c.o with
     | false=>ih (hs / hB) us Γ κ bd (f ()) p d (T.set (hs % hB) (g c.o)) m k i (.n a::L) (.n c.a::R)
     | true=>match aU (g c.o) with
      | false=>none
      | true=>ih (hs / hB) us Γ κ bd (f ()) p d (T.set (hs % hB) (g c.o)) m k i (.s [.n a,.o (g (wS c.o V.ς))]::L) (.s [.n c.a,.o (wS (g c.o) V.ς)]::R)
  | none=>none
 | .fresh f=>ih hs us Γ κ bd (f (V.τ i)) p d T m k (i+1) L R
 | .handled own f=>match own with
  | false=>ih hs us Γ κ bd (f Γ.handled) p d T m k i L R
  | true=>none
 | .stack f=>match V.shs with
  | []=>ih hs us Γ κ bd (f ((Γ.code,p)::Γ.below)) p d T m k i L R
  | _::_=>match hs % hB with
   | 0=>ih (hs / hB) us Γ κ bd (f ((Γ.code,p)::Γ.below)) p d T m k i L R
   | _=>ih (hs / hB) us Γ κ bd (f []) p d T m k i (.s (i4 V.κc f (fun b=>(Γ.code,p)::bm κ b) V.shs)::L) (.s (gp f V.shs)::R)
 | .call c hd _ _ f=>match Nat.ble (ib Γ.code) bd with
  | false=>none
  | true=>match Nat.beq (hs % hB) 3 with
   | true=>match fc T c (hs / hB % hB) with
    | some x=>ih (hs / hB / hB) us ((Γ.enter c hd p).goto x.1) (.ret Γ p bd f κ) (bd - ib Γ.code) (kn x.1) (V.π k) d T m (k+1) i (.n x.2.1::L) (.n x.2.2::R)
    | none=>none
   | false=>match hs % hB with
    | 0=>ih (hs / hB) us (Γ.enter c hd p) (.ret Γ p bd f κ) (bd - ib Γ.code) (kn c) p d T m k i L R
    | 1=>match bZ V c with
     | some t'=>ih (hs / hB) us (Γ.enter c hd p) (.ret Γ p bd f κ) (bd - ib Γ.code) t' p d T m k i L R
     | none=>none
    | _=>match (Γ.enter c hd p).handled with
     | some _=>none
     | none=>f9 V.lb T c (hs % hB) (hs / hB) us fun hs u us=>j5 V d T m k i hs c (fun b=>(Γ.code,p)::bm κ b) u (jW T u.jx) (bd - ib Γ.code) (fun hs=>eg T Γ.code κ hs [] []) fun r hs' d' T' m' k' i' l l'=>ih hs' us Γ κ bd (f r) p d' T' m' k' i' (l::L) (l'::R)
 | _=>none
noncomputable def l7 (V:Cx) (n:Nat):fJ:=Nat.rec (fun _ _ _ _ _ _ _ _ _ _ _ _ _ _=>none) (fun _ ih=>aN V ih) n
theorem n6 (c:Code):c.frames≤3:=by
 unfold Code.frames
 split <;> first | decide | (split <;> decide)
theorem eK (c:Code):c.weight≤ib c∧c.cUnits≤ib c:=by
 have hf:=n6 c
 cases c with
 | builtin id args =>
  have h1:(if (Code.builtin id args).isCreation then 1 else 0)≤1:=by split <;> decide
  have h2:(if (Code.builtin id args).isGuard then 1 else 0)≤1:=by split <;> decide
  have hu:(Code.builtin id args).cUnits≤10:=by show 1+3 * (Code.builtin id args).frames≤10; omega
  unfold ib
  by_cases hq : id = "claim.caller"
  ·subst hq
   have : Nat.beq (PySem.W.S.codeS "claim.caller") (PySem.W.S.codeS "claim.caller") = true := Nat.beq_refl _
   simp only [this]
   refine ⟨?_,by omega⟩
   show _ + _ + _ + (if (Code.builtin "claim.caller" args).isCaller then claimMargin else 0) ≤ 400
   have : (if (Code.builtin "claim.caller" args).isCaller then claimMargin else 0) ≤ 300 := by split <;> decide
   omega
  ·have hn : Nat.beq (PySem.W.S.codeS id) (PySem.W.S.codeS "claim.caller") = false := by
    rw [BT.beq_eq,decide_eq_false_iff_not]
    intro e
    rw [← PySem.W.S.code_S,←PySem.W.S.code_S] at e
    exact hq (PySem.code_inj _ _ e)
   have hc:(Code.builtin id args).isCaller=false:=by
    unfold Code.isCaller
    split
    ·rename_i e; injection e with e1; exact absurd e1 hq
    ·rfl
   simp only [hn]
   refine ⟨?_,by omega⟩
   show _+_+_+(if (Code.builtin id args).isCaller then claimMargin else 0)≤12
   rw [hc]
   simp only [Bool.false_eq_true,if_false]
   omega
 | _ =>
  all_goals (
   refine ⟨?_,?_⟩
   ·show _+_+_+_≤4
    simp only [Code.isCreation,Code.isGuard,Code.isCaller,Bool.false_eq_true,if_false]
    omega
   ·first
    | (show 1≤4; decide)
    | (show 3 * _≤4; unfold Code.frames; split <;> first | (exfalso; simp_all; done) | (split <;> decide)))
structure Base where
 prog:Program
 w:World
 kt:PT
 en:ST
 mn:Nat→Cell
noncomputable def Base.Free (B:Base) (a:Nat):Prop:=B.kt.get a=none∧∀ i c,B.en.get i=some c→c.a≠a
noncomputable def dd (B:Base) (s:Shared):Prop:=(∀ a o,B.kt.get a=some o→s.heap.get? a=some o)∧∀ i c,B.en.get i=some c→s.heap.get? c.a=some c.o
structure Base.Ok (B:Base):Prop where
 lim:∀ s,dd B s→s.heap.NoLimit
 big:∀ s,dd B s→2≤s.heap.objs.size
 mn:∀ s,dd B s→∀ d,s.heap.get? (B.mn d).a=some (B.mn d).o
structure Nu where
 a:Nat
 v:Nat→Value
 p:Pos
 q:Post
noncomputable def sa (a:Nat):Nat:=Nat.succ (Nat.succ (a - 2))
theorem mS {a:Nat} (h:2≤a):sa a=a:=by unfold sa; omega
noncomputable def Base.V (B:Base) (lb:List LibE) (dy:Bool) (shs:List (List Kd)) (κc:Nat→Ct) (ς:Array (Option Value)) (ν:Nat→Nu) (τ:Nat→Nat):Cx:=⟨B.prog,B.w,B.kt,B.en,B.w.params.followText sS,fun k=>sa (ν k).a,τ,fun k=>(ν k).v,fun k=>(ν k).p,ς,dy,fun k=>(ν k).q,shs,κc,B.mn,lb⟩
noncomputable def Base.M (B:Base):Model:=model B.prog B.w
theorem Base.den (B:Base) (c:Code):B.M.den c=Mine.kn c:=congrFun lk c
noncomputable def NB (bd:Nat) (Γ:Ctx):Prop:=frameCount Γ.below+bd≤950∧unitsOf Γ.below+bd≤9000
theorem NB.enter {bd:Nat} {Γ:Ctx} (h:NB bd Γ) (c:Code) (hd:Option Value) (p:Pos) (hw:Nat.ble (ib Γ.code) bd=true):NB (bd - ib Γ.code) (Γ.enter c hd p):=by
 have hw:=Nat.le_of_ble_eq_true hw
 have q:=eK Γ.code
 refine ⟨?_,?_⟩
 ·show frameCount ((Γ.code,p)::Γ.below)+_≤950
  rw [frameCount_cons]
  have:=h.1
  omega
 ·show unitsOf ((Γ.code,p)::Γ.below)+_≤9000
  rw [unitsOf_cons]
  have:=h.2
  omega
theorem NB.le {a b:Nat} {Γ:Ctx} (h:NB b Γ) (hab:a≤b):NB a Γ:=⟨by have:=h.1; omega,by have:=h.2; omega⟩
noncomputable def bk (B:Base) (R:Result→Shared→Prop):Kt→Result→Shared→Prop
 | .base=>R
 | .ret Γ p _ f κ=>fun r s=>Sem.wp B.M Γ (f r) (fun fin p' s'=>dd B s'∧Sem.finPost B.M Γ (bk B R κ) fin p' s') (fun e _ s'=>bk B R κ (.error e) s') p s
noncomputable def rz (bl:List (Code × Pos)):List (Code × Pos)→Kt→Prop
 | b,.base=>b=bl
 | b,.ret Γ p bd _ κ=>NB bd Γ∧b=(Γ.code,p)::Γ.below∧rz bl Γ.below κ
noncomputable def cR (d:Bool) (h:Heap) (a:Nat) (o:Obj):Prop:=h.get? a=some o∨(d=true∧aU o=true∧∃ sl,h.get? a=some (wS o sl))
noncomputable def nk (B:Base) (h:Heap) (env:Env):Prop:=env.scope.kind≠.module∧∃ L o,env.frame=some L∧h.get? L=some o∧aU o=true∧(∀ vs,o.data≠.fields vs)∧B.Free L
noncomputable def fU (B:Base) (h:Heap) (l:List (Code × Pos)):Prop:=∀ env,env∈envsOf l→nk B h env
noncomputable def Ae (B:Base) (R:Result→Shared→Prop) (Γ:Ctx) (κ:Kt) (t:Sem Fin) (p:Pos) (s:Shared):Prop :=
 Sem.wp B.M Γ t (fun fin p' s'=>dd B s'∧Sem.finPost B.M Γ (bk B R κ) fin p' s') (fun e _ s'=>bk B R κ (.error e) s') p s
theorem bW {B:Base} {R:Result→Shared→Prop} {Γ:Ctx} {κ:Kt} {p:Pos} {s:Shared} (h:Ae B R Γ κ (Mine.kn Γ.code) p s):wpCode B.M Γ (bk B R κ) p s:=by
 rw [wpCode_iff_wp,B.den]
 exact Sem.wp_mono _ _ _ (fun _ _ _ x=>x.2) (fun _ _ _ x=>x) p s h
theorem on (a:Addr) (fd:FuncData) (args:Args):m3 a fd args =
 (field fd.code 1 >>= fun v=>match v with
  | .str q _=>bindArgs fd args >>= fun binds =>
   newFunctionEnv fd.scope fd.globals fd.closure binds (q ++ ".<locals>.") (some a) fd.code none fd.builtins >>= fun env =>
    pure (.again (match fd.body with | .stmts b=>.func b env | .expr e=>.expr e env))
  | _ => .unsupported "entry") := by
 unfold m3
 rw [← PySem.W.Fast.te6609576154772507232,←PySem.W.Fast.te9782568553167038054,←PySem.W.Fast.te11113344188204177931]
 have : (G4 : Str) = (".<locals>." : Str) := by decide +kernel
 rw [this]
 rfl
theorem gV {B:Base} (O:B.Ok) {Γ:Ctx} {p:Pos} {s:Shared} (ht:dd B s) (hb:frameCount Γ.below+5<1000) (hc:∃ f args,Γ.code=.call f args)
 {Q:Unit→Pos→Shared→Prop} {E:Value→Pos→Shared→Prop} (h:Q () p s):Sem.wp B.M Γ enterFrame Q E p s:=by
 obtain ⟨mc,hns,hnone⟩:=O.lim s ht
 have hw:Γ.code.weight≤4:=by
  obtain ⟨f,args,hc⟩:=hc
  rw [hc]; exact (eK (.call f args)).1
 have hΓ:Γ.In { handled:=Γ.handled,depth:=frameCount Γ.below+4,frames:=none,guards:=none,units:=Γ.units } :=
  ⟨rfl,Nat.add_le_add_left hw _,(by intro _ q; cases q),(by intro _ q; cases q),Nat.le_refl _⟩
 have near:=not_nearTheLimit (p:=p) hΓ (by show frameCount Γ.below+4<1000; omega)
 have tot:=frameCount_ge ((Γ.code,p)::Γ.below)
 rw [frameCount_cons] at tot
 have e1:¬ ((((Γ.code,p)::Γ.below).map (·.1)).map (·.frames)).sum ≥ recursionLimit:=by unfold recursionLimit; omega
 have e2:¬ ((((Γ.code,p)::Γ.below).map (·.1)).map (·.frames)).sum+((((Γ.code,p)::Γ.below).map (·.1)).filter Code.isCreation).length ≥ recursionLimit:=by unfold recursionLimit; omega
 unfold enterFrame currentRecursionLimit
 simp only [Sem.wp_bind']
 change Sem.wp B.M Γ (nsGet cStatics "sys.recursionlimit") _ _ p s
 rw [Sem.wp_nsGet B.M Γ _ p s hns,hnone]
 change Sem.wp B.M Γ (if nearTheLimitUnderAClaim (((Γ.code,p)::Γ.below).map (·.1)) (((((Γ.code,p)::Γ.below).map (·.1)).map (·.frames)).sum+((((Γ.code,p)::Γ.below).map (·.1)).filter Code.isCreation).length) recursionLimit=true then _ else _) _ _ p s
 rw [near,if_neg Bool.false_ne_true]
 change Sem.wp B.M Γ (if ((((Γ.code,p)::Γ.below).map (·.1)).map (·.frames)).sum ≥ recursionLimit then _ else _) _ _ p s
 rw [if_neg e1]
 change Sem.wp B.M Γ (if ((((Γ.code,p)::Γ.below).map (·.1)).map (·.frames)).sum+((((Γ.code,p)::Γ.below).map (·.1)).filter Code.isCreation).length ≥ recursionLimit then _ else _) _ _ p s
 rw [if_neg e2]
 exact h
theorem eU {B:Base} (O:B.Ok) {R:Result→Shared→Prop} {Γ:Ctx} {κ:Kt} {p:Pos} {s:Shared} {t:Sem Fin} {V:Cx} (hV:V.kt=B.kt) (he:bZ V Γ.code=some t) (ht:dd B s) (hb:frameCount Γ.below+5<1000)
 (h:Ae B R Γ κ t p s):wpCode B.M Γ (bk B R κ) p s:=by
 cases hcode:Γ.code with
 | call f args =>
  rw [hcode] at he
  cases f with
  | ref a =>
   simp only [bZ,hV] at he
   cases hk:B.kt.get a with
   | none=>rw [hk] at he; cases he
   | some o =>
    rw [hk] at he
    simp only at he
    cases hd:o.data with
    | func fd =>
     rw [hd] at he
     simp only at he
     cases hp:j9 fd with
     | false=>rw [hp] at he; cases he
     | true =>
      rw [hp] at he
      simp only [Option.some.injEq] at he
      subst he
      rw [wpCode_iff_wp]
      show Sem.wp B.M Γ (denote table Γ.code) _ _ p s
      rw [hcode]
      have ho:=ht.1 _ _ hk
      show Sem.wp B.M Γ (callAny (.ref a) args) _ _ p s
      simp only [callAny]
      rw [Sem.wp_bind']
      refine (Sem.wp_load_of B.M Γ _ p s ho _).mpr ?_
      simp only [hd]
      unfold Ae at h
      rw [on,Sem.wp_bind'] at h
      have hpc:∃ x,fd.code=x∧x≠.none∧fd.scope.isGenerator=false∧fd.scope.isCoroutine=false:=by
       unfold j9 at hp
       split at hp
       ·cases hp
       ·rename_i hx
        refine ⟨_,rfl,fun e=>hx e,?_⟩
        cases g1:fd.scope.isGenerator with
        | true=>rw [g1] at hp; cases hp
        | false =>
         cases g2:fd.scope.isCoroutine with
         | true=>rw [g1,g2] at hp; cases hp
         | false=>exact ⟨rfl,rfl⟩
      obtain ⟨x,hx,hxn,hg,hco⟩:=hpc
      unfold callFunction
      simp only [hg,hco]
      have fin:∀ (q:Str) (p₁:Pos) (s₁:Shared),Sem.wp B.M Γ (bindArgs fd args >>= fun binds =>
       newFunctionEnv fd.scope fd.globals fd.closure binds (q ++ ".<locals>.") (some a) fd.code none fd.builtins >>= fun env =>
        (pure (.again (match fd.body with | .stmts b=>.func b env | .expr e=>.expr e env)):Sem Fin))
        (fun fin p' s'=>dd B s'∧Sem.finPost B.M Γ (bk B R κ) fin p' s') (fun e _ s'=>bk B R κ (.error e) s') p₁ s₁ →
       Sem.wp B.M Γ (do
        let env ← newFunctionEnv fd.scope fd.globals fd.closure (← bindArgs fd args) (q ++ ".<locals>.") (some a) fd.code none fd.builtins
        enterFrame
        (again (match fd.body with | .stmts b=>.func b env | .expr e=>.expr e env):Sem Fin)) (Sem.finPost B.M Γ (bk B R κ)) (fun e _ s'=>bk B R κ (.error e) s') p₁ s₁:=by
       intro q p₁ s₁ y
       rw [Sem.wp_bind'] at y ⊢
       refine Sem.wp_mono _ _ _ (fun binds p₂ s₂ y=>?_) (fun _ _ _ y=>y) p₁ s₁ y
       rw [Sem.wp_bind'] at y ⊢
       refine Sem.wp_mono _ _ _ (fun env p₃ s₃ y=>?_) (fun _ _ _ y=>y) p₂ s₂ y
       rw [Sem.wp_pure'] at y
       rw [Sem.wp_bind']
       exact gV O y.1 hb ⟨_,_,hcode⟩ y.2
      split
      ·rename_i hn; exact absurd (hx▸hn) hxn
      ·rw [Sem.wp_bind']
       refine Sem.wp_mono _ _ _ (fun v p₁ s₁ y=>?_) (fun _ _ _ y=>y) p s h
       split at y
       ·rw [Sem.wp_bind',Sem.wp_pure']
        exact fin _ _ _ y
       ·exact y.elim
    | _=>rw [hd] at he; cases he
  | _=>cases he
 | _=>rw [hcode] at he; cases he
theorem Kd.mk_of_fits {k:Kd} {c:Code} (h:k.fits c=true) (p:Pos):∃ t:Ct,k.mk t=c∧t.p=p:=by
 let t0:Ct:=⟨[],[],default,.none,.none,{},p,default,default,0,[],[],default⟩
 cases k <;> cases c <;> (try (exact absurd h Bool.false_ne_true))
 ·rename_i b e; exact ⟨{ t0 with b:=b,e:=e },rfl,rfl⟩
 ·rename_i f a; exact ⟨{ t0 with f:=f,a:=a },rfl,rfl⟩
 ·rename_i b e; exact ⟨{ t0 with b:=b,e:=e },rfl,rfl⟩
 ·rename_i x f b b2 e; exact ⟨{ t0 with x:=x,f:=f,b:=b,b2:=b2,e:=e },rfl,rfl⟩
 ·rename_i x b b2 e; exact ⟨{ t0 with x:=x,b:=b,b2:=b2,e:=e },rfl,rfl⟩
 ·rename_i x n f f2 e
  cases x <;> (try (exact absurd h Bool.false_ne_true))
  rename_i x gs m p2
  exact ⟨{ t0 with x:=x,gs:=gs,m:=m,p2:=p2,n:=n,f:=f,f2:=f2,e:=e },rfl,rfl⟩
 ·rename_i x n f f2 e
  cases x <;> (try (exact absurd h Bool.false_ne_true))
  rename_i x gs m p2
  exact ⟨{ t0 with x:=x,gs:=gs,m:=m,p2:=p2,n:=n,f:=f,f2:=f2,e:=e },rfl,rfl⟩
 ·rename_i x hs e; exact ⟨{ t0 with f:=x,hs:=hs,e:=e },rfl,rfl⟩
 ·rename_i id a
  have:=Nat.eq_of_beq_eq_true (show Nat.beq _ _=true from h)
  rw [← PySem.W.S.code_S,←PySem.W.S.code_S] at this
  obtain rfl:=PySem.code_inj _ _ this
  exact ⟨{ t0 with a:=a },rfl,rfl⟩
theorem dR:∀ {l:List Kd} {b:List (Code × Pos)} (i:Nat),ol l b=true→∃ κ:Nat→Ct,eE l i κ=b
 | [],[],i,_=>⟨fun _=>⟨[],[],default,.none,.none,{},default,default,default,0,[],[],default⟩,rfl⟩
 | k::l,x::r,i,h=>by
  simp only [ol] at h
  cases q:k.fits x.1 with
  | false=>rw [q] at h; cases h
  | true =>
   rw [q] at h
   obtain ⟨t,ht,hp⟩:=Kd.mk_of_fits q x.2
   obtain ⟨κ,hκ⟩:=dR (i+1) h
   refine ⟨fun j=>if j=i then t else κ j,?_⟩
   have same:∀ (l:List Kd) (j:Nat),i<j→eE l j (fun j=>if j=i then t else κ j)=eE l j κ:=by
    intro l
    induction l with
    | nil=>intro _ _; rfl
    | cons k l ih =>
     intro j hj
     simp only [eE]
     rw [ih (j+1) (by omega),if_neg (by omega)]
   simp only [eE,if_true]
   rw [same l (i+1) (by omega),hκ,ht,hp]
 | [],_::_,_,h=>by cases h
 | _::_,[],_,h=>by cases h
theorem rz.stack {bl:List (Code × Pos)}:∀ {κ:Kt} {b:List (Code × Pos)},rz bl b κ→b=bm κ bl
 | .base,_,h=>h
 | .ret Γ p _ _ κ,b,h=>by
  obtain ⟨_,h1,h2⟩:=h
  rw [h1,rz.stack h2]
  rfl
theorem ip:∀ {ls:List (List Kd)} {r:List (Code × Pos)},jA ls r=true→∃ l,l∈ls∧ol l r=true
 | [],_,h=>by cases h
 | l::ls,r,h=>by
  unfold jA at h
  cases q:ol l r with
  | true=>exact ⟨l,.head _,q⟩
  | false =>
   rw [q] at h
   obtain ⟨l',h1,h2⟩:=ip h
   exact ⟨l',.tail _ h1,h2⟩
theorem eX {sh:List (List Kd)} {κc:Nat→Ct} {bf:List (Code × Pos)→List (Code × Pos)}:∀ {ls:List (List Kd)},fz sh κc bf ls=true→∀ l,l∈ls→gq sh (bf (eE l 0 κc))=true
 | a::ls,h,l,hl=>by
  unfold fz at h
  cases q:gq sh (bf (eE a 0 κc)) with
  | false=>rw [q] at h; cases h
  | true =>
   rw [q] at h
   rcases List.mem_cons.mp hl with rfl | hl
   ·exact q
   ·exact eX h l hl
theorem ky {κc:Nat→Ct} {f:List (Code × Pos)→Sem Fin} {bf:List (Code × Pos)→List (Code × Pos)}:∀ {ls:List (List Kd)},i4 κc f bf ls=gp f ls→∀ l,l∈ls→f (bf (eE l 0 κc))=f []
 | a::ls,h,l,hl=>by
  simp only [i4,gp,List.cons.injEq,Sd.t.injEq] at h
  rcases List.mem_cons.mp hl with rfl | hl
  ·exact h.1
  ·exact ky h.2 l hl
theorem k9 {i:Nat}:∀ {l:List Nat},gw i l=true→i∈l
 | [],h=>by cases h
 | j::l,h=>by
  unfold gw at h
  rw [BT.beq_eq] at h
  by_cases q:j=i
  ·subst q; exact .head _
  ·rw [decide_eq_false q] at h
   exact .tail _ (k9 h)
theorem aB {a b:String} (h:PySem.W.S.codeS a=PySem.W.S.codeS b):a=b:=by
 rw [← PySem.W.S.code_S,←PySem.W.S.code_S] at h
 exact PySem.code_inj _ _ h
theorem ki {prog:Program} {w:World} {A:Around} {E:Value→Shared→Prop} {s:Shared} {it:Addr} {o:Obj} {Q:Value→Shared→Prop} (ho:s.heap.get? it=some o) (hi:kZ o=true) (h:Q (.ref it) s):wpAny (model prog w) A (pyIter (.ref it)) Q E s:=by
 obtain ⟨t,ht,hm⟩:∃ t,o.cls=.type t∧gw (PySem.W.S.codeS t) zN=true:=by
  unfold kZ at hi
  split at hi
  ·exact ⟨_,‹_›,hi⟩
  ·cases hi
 have hT:s.TypeIs (.ref it) t:=⟨o,ho,ht⟩
 have hm:=k9 hm
 rw [uU] at hm
 simp only [List.mem_cons,List.not_mem_nil,or_false] at hm
 rcases hm with e | e | e | e | e <;> obtain rfl:=aB e
 ·refine wpAny_pyIter_slot hT F.slot_range_iterator_iter (wpAny_call_entry F.slot_range_iterator_iter hT F.entry_range_iterator_iter ?_ (F.args_range_iterator_iter_1 _))
  show wpAny _ _ (ret (.ref it)) _ _ s
  exact wpAny_pure ⟨_, rfl, "range_iterator", _, hT, F.slot_range_iterator_next.lookup, h⟩
 ·refine wpAny_pyIter_slot hT slot_listiter_iter (wpAny_call_entry slot_listiter_iter hT entry_listiter_iter ?_ (args_listiter_iter _))
  show wpAny _ _ (ret (.ref it)) _ _ s
  exact wpAny_pure ⟨_, rfl, "list_iterator", _, hT, slot_listiter_next.lookup, h⟩
 ·refine wpAny_pyIter_slot hT F.slot_tuple_iterator_iter (wpAny_call_entry F.slot_tuple_iterator_iter hT F.entry_tuple_iterator_iter ?_ (F.args_tuple_iterator_iter_1 _))
  show wpAny _ _ (ret (.ref it)) _ _ s
  exact wpAny_pure ⟨_, rfl, "tuple_iterator", _, hT, F.slot_tuple_iterator_next.lookup, h⟩
 ·refine wpAny_pyIter_slot hT F.slot_str_iterator_iter (wpAny_call_entry F.slot_str_iterator_iter hT F.entry_str_iterator_iter ?_ (F.args_str_iterator_iter_1 _))
  show wpAny _ _ (ret (.ref it)) _ _ s
  exact wpAny_pure ⟨_, rfl, "str_iterator", _, hT, F.slot_str_iterator_next.lookup, h⟩
 ·refine wpAny_pyIter_slot hT F.slot_str_ascii_iterator_iter (wpAny_call_entry F.slot_str_ascii_iterator_iter hT F.entry_str_ascii_iterator_iter ?_ (F.args_str_ascii_iterator_iter_1 _))
  show wpAny _ _ (ret (.ref it)) _ _ s
  exact wpAny_pure ⟨_, rfl, "str_ascii_iterator", _, hT, F.slot_str_ascii_iterator_next.lookup, h⟩
theorem ju {B:Base} {Γ:Ctx} {p:Pos} {s:Shared} {R:Result→Shared→Prop} {x:Code × Nat} {o:Obj} (hx:mw Γ.code=some x) (ho:s.heap.get? x.2=some o) (hi:kZ o=true)
 (h:∀ p',wpCode B.M (Γ.goto x.1) R p' s):wpCode B.M Γ R p s:=by
 cases hc:Γ.code with
 | compStart e dp it acc env =>
  rw [hc] at hx
  unfold mw at hx
  simp only at hx
  split at hx
  ·rename_i elt gs sc pos
   split at hx
   ·cases hx
   ·rename_i g gs
    split at hx
    ·cases hx
    ·rename_i hg
     have hg:=of_decide_eq_true hg
     split at hx
     ·split at hx
      ·rename_i a
       simp only [Option.some.injEq] at hx
       subst hx
       obtain ⟨tg,ie,ifs,ia⟩:=g
       obtain rfl:ia=0:=hg
       rw [wpCode_iff_wp]
       show Sem.wp B.M Γ (denote table Γ.code) _ _ p s
       rw [hc]
       show Sem.wp B.M Γ ((compStart (.ListComp elt (⟨tg,ie,ifs,0⟩::gs) sc pos) 0 (.ref a) acc env).onRaise (fun x=>do noteFrame x env; standAt theWindowsPlace)) _ _ p s
       rw [Sem.wp_onRaise]
       have hΓ:Γ.In { handled:=Γ.handled,depth:=frameCount Γ.below+4,frames:=none,guards:=none,units:=Γ.units } :=
        ⟨rfl,Nat.add_le_add_left (by rw [hc]; exact (eK _).1) _,(by intro _ q; cases q),(by intro _ q; cases q),Nat.le_refl _⟩
       unfold compStart
       show Sem.wp B.M Γ (ask >>= _) _ _ p s
       rw [Sem.wp_bind']
       show Sem.wp B.M Γ (ite _ _ _) _ _ p s
       split
       ·exact ⟨rfl,h p⟩
       ·show Sem.wp B.M Γ (rule _ >>= fun _=>standAt ie.pos >>= fun _=>pyIter (.ref a) >>= fun v=>again (.compLoop _ 0 v acc env)) _ _ p s
        rw [Sem.wp_bind']
        show Sem.wp B.M Γ (standAt ie.pos >>= fun _=>pyIter (.ref a) >>= fun v=>again (.compLoop _ 0 v acc env)) _ _ p s
        rw [Sem.wp_bind']
        show Sem.wp B.M Γ (pyIter (.ref a) >>= fun v=>again (.compLoop _ 0 v acc env)) _ _ ie.pos s
        rw [Sem.wp_bind']
        refine Sem.wp_mono _ _ _ (fun v p' s' q=>?_) (fun e p' s' q=>?_) _ _ (ki (E:=fun _ _=>False) (Q:=fun v s'=>v=.ref a∧s'=s) ho hi ⟨rfl,rfl⟩ Γ ie.pos hΓ)
        ·obtain ⟨rfl,rfl⟩:=q
         exact ⟨rfl,h p'⟩
        ·exact q.elim
      ·cases hx
     ·cases hx
  ·cases hx
 | _=>rw [hc] at hx; cases hx
theorem mv {o:Obj} (h:kZ o=true):aU o=false:=by
 unfold kZ at h
 unfold aU
 cases ho:o.cls with
 | type s =>
  rw [ho] at h
  simp only at h ⊢
  cases q:Nat.beq (PySem.W.S.codeS s) F5 with
  | false=>rfl
  | true =>
   have e:=Nat.eq_of_beq_eq_true q
   rw [e] at h
   exact absurd h (by decide)
 | _=>rfl
theorem fP {T:ST} {c:Code} {j:Nat} {x:Code × Nat × Nat} (h:fc T c j=some x):∃ ce,T.get j=some ce∧kZ ce.o=true∧mw c=some (x.1,x.2.1)∧ce.a=x.2.2:=by
 unfold fc at h
 split at h
 ·cases h
 ·rename_i y hy
  obtain ⟨c',a⟩:=y
  simp only at h
  split at h
  ·cases h
  ·rename_i ce hce
   split at h
   ·cases h
   ·rename_i hi
    simp only [Option.some.injEq] at h
    subst h
    exact ⟨ce,hce,hi,hy,rfl⟩
theorem dd.free {B:Base} {s:Shared} (h:dd B s) {a:Nat} (ha:s.heap.objs.size≤a):B.Free a:=by
 refine ⟨?_,fun i c hc e=>?_⟩
 ·cases z:B.kt.get a with
  | none=>rfl
  | some x=>exact absurd (Heap.lt_size (h.1 _ _ z)) (Nat.not_lt.mpr ha)
 ·exact absurd (Heap.lt_size (h.2 _ _ hc)) (Nat.not_lt.mpr (e▸ha))
theorem dd.mono {B:Base} {s s':Shared} (h:dd B s) (k:∀ a o,s.heap.get? a=some o→s'.heap.get? a=some o):dd B s':=⟨fun a o z=>k _ _ (h.1 a o z),fun i c z=>k _ _ (h.2 i c z)⟩
theorem cR.lt_size {d:Bool} {h:Heap} {a:Nat} {o:Obj} (x:cR d h a o):a<h.objs.size:=by
 rcases x with x | ⟨_,_,_,x⟩
 ·exact Heap.lt_size x
 ·exact Heap.lt_size x
theorem sN (o:Obj) (sl:Array (Option Value)):aU (wS o sl)=aU o:=rfl
theorem cR.get {d:Bool} {h:Heap} {a:Nat} {o:Obj} (x:cR d h a o):∃ sl,h.get? a=some (wS o sl):=by
 rcases x with x | ⟨_,_,sl,x⟩
 ·exact ⟨o.slots,x⟩
 ·exact ⟨sl,x⟩
theorem cR.map {d d' d'':Bool} {h h':Heap} {a:Nat} {o:Obj} (x:cR d h a o) (hd:d=true→d''=true) (hd':d'=true→d''=true) (k:∀ o',h.get? a=some o'→cR d' h' a o'):cR d'' h' a o:=by
 rcases x with x | ⟨x1,x2,sl,x⟩
 ·rcases k _ x with y | ⟨y1,y2,sl,y⟩
  ·exact .inl y
  ·exact .inr ⟨hd' y1,y2,sl,y⟩
 ·rcases k _ x with y | ⟨y1,y2,sl',y⟩
  ·exact .inr ⟨hd x1,x2,sl,y⟩
  ·exact .inr ⟨hd x1,x2,sl',y⟩
theorem cR.mono {d:Bool} {h h':Heap} {a:Nat} {o:Obj} (x:cR d h a o) (k:∀ o',h.get? a=some o'→h'.get? a=some o'):cR d h' a o:=x.map (d':=d) id id fun _ z=>.inl (k _ z)
theorem cR.exact {d:Bool} {h:Heap} {a:Nat} {o:Obj} (x:cR d h a o) (hd:b7 d true o=false):h.get? a=some o:=by
 rcases x with x | ⟨x1,x2,_⟩
 ·exact x
 ·subst x1
  have:aU o=false:=hd
  rw [this] at x2; cases x2
theorem cR.exactF {d:Bool} {h:Heap} {a:Nat} {o:Obj} (x:cR d h a o) (hd:aU o=false):h.get? a=some o:=by
 rcases x with x | ⟨_,x2,_⟩
 ·exact x
 ·rw [hd] at x2; cases x2
structure Rep (B:Base) (s₀:Shared) (m₀:Nat) (X:List Nat) (d:Bool) (T:ST) (m:Nat) (s:Shared):Prop where
 own:∀ i c,T.get i=some c→i<m∧cR d s.heap c.a c.o∧B.Free c.a∧(c.mu=true→c.a∈X∨s₀.heap.objs.size≤c.a)∧(m₀≤i→s₀.heap.objs.size≤c.a)
 inj:∀ i j c d,T.get i=some c→T.get j=some d→c.a=d.a→i=j
 top:dd B s
 keep:∀ a o,s₀.heap.get? a=some o→a∉X→cR d s.heap a o
 size:s₀.heap.objs.size≤s.heap.objs.size
 gens:s.gens=s₀.gens
 os:s.os=s₀.os
 low:m₀≤m
structure After (B:Base) (S:Spec) (s s':Shared) (bs ts:List Nat):Prop where
 top:dd B s'
 keep:∀ a o,s.heap.get? a=some o→a∉S.mu→cR S.dy s'.heap a o
 size:s.heap.objs.size≤s'.heap.objs.size
 gens:s'.gens=s.gens
 os:s'.os=s.os
 po:∀ (j a:Nat) (o:Obj),S.mu[j]?=some a→(S.po bs ts)[j]?=some o→cR S.dy s'.heap a o
 nw:∀ (j a:Nat) (o:Obj),bs[j]?=some a→(S.nw bs ts)[j]?=some o→cR S.dy s'.heap a o
 new:∀ a,a∈bs→s.heap.objs.size≤a
 nd:bs.Nodup
 len:bs.length=S.nb
 lent:ts.length=S.nt
structure Spec.Ok (B:Base) (S:Spec) (Γ:Ctx) (s:Shared):Prop where
 code:Γ.code=S.c
 hand:Γ.handled=none
 fit:gq S.sh Γ.below=true
 room:NB S.lv Γ
 top:dd B s
 stk:S.dy=true→fU B s.heap Γ.below∧∀ env L,env∈envsOf Γ.below→env.frame=some L→L∉S.mu
 pre:∀ x,x∈S.pre→cR S.di s.heap x.1 x.2∧B.Free x.1
 nd:(S.pre.map (·.1)).Nodup
noncomputable def Spec.HoldsE (B:Base) (S:Post→Spec):Prop:=∀ (Γ:Ctx) (p:Pos) (s:Shared) (R:Result→Shared→Prop) (ρ₀:Post),(S ρ₀).Ok B Γ s →
 (∀ ρ s' bs ts,After B (S ρ) s s' bs ts→R ((S ρ).r bs ts) s')→wpCode B.M Γ R p s
noncomputable def Spec.Holds (B:Base) (S:Spec):Prop:=∀ (Γ:Ctx) (p:Pos) (s:Shared) (R:Result→Shared→Prop),S.Ok B Γ s →
 (∀ s' bs ts,After B S s s' bs ts→R (S.r bs ts) s')→wpCode B.M Γ R p s
theorem Spec.Holds.e {B:Base} {S:Spec} (h:S.Holds B):Spec.HoldsE B fun _=>S:=fun Γ p s R ρ₀ k g=>h Γ p s R k fun s' bs ts A=>g ρ₀ s' bs ts A
noncomputable def Spec.HoldsT (B:Base) (j:Nat) (S:Post→Spec):Prop:=∀ (Γ:Ctx) (p:Pos) (s:Shared) (R:Result→Shared→Prop) (ρ₀:Post),(S ρ₀).Ok B Γ s →
 (∀ ρ s' bs ts,After B (S ρ) s s' bs ts→R ((S ρ).r bs ts) s')→Sem.wp B.M Γ (dA Γ.code j) (fun fin p' s'=>dd B s'∧Sem.finPost B.M Γ R fin p' s') (fun e _ s'=>R (.error e) s') p s
noncomputable def bE (B:Base) (tl:Option (Nat × Nat)) (S:Post→Spec):Prop:=match tl with
 | none=>Spec.HoldsE B S
 | some lj=>Spec.HoldsT B lj.2 S
theorem lY:∀ {l:List (Nat × Obj)} {T:ST} {d di:Bool} {ix:List Nat},eH l=dC T d di ix→(∀ x,x∈l→∃ i c,i∈ix∧T.get i=some c∧c.a=x.1∧c.o=x.2∧(b7 d true c.o=false∨di=true))
 | [],_,_,_,_,_,_,hx=>nomatch hx
 | y::l,T,d,di,[],h,x,hx=>by simp [eH,dC] at h
 | y::l,T,d,di,i::ix,h,x,hx=>by
  simp only [eH,dC] at h
  cases e:T.get i with
  | none=>rw [e] at h; simp at h
  | some c =>
   rw [e] at h
   simp only at h
   have fin:Sd.n y.1::Sd.o y.2::eH l=Sd.n c.a::Sd.o c.o::dC T d di ix→(b7 d true c.o=false∨di=true)→∃ j c,j∈i::ix∧T.get j=some c∧c.a=x.1∧c.o=x.2∧(b7 d true c.o=false∨di=true):=fun h q=>by
    simp only [List.cons.injEq,Sd.n.injEq,Sd.o.injEq] at h
    rcases List.mem_cons.mp hx with rfl | hx
    ·exact ⟨i,c,.head _,e,h.1.symm,h.2.1.symm,q⟩
    ·obtain ⟨j,d,hj,hd⟩:=lY h.2.2 x hx
     exact ⟨j,d,.tail _ hj,hd⟩
   cases q:b7 d true c.o with
   | true =>
    rw [q] at h
    cases di with
    | false=>simp at h
    | true=>exact fin h (.inr rfl)
   | false=>rw [q] at h; exact fin h (.inl q)
theorem jF {i:Nat}:∀ {l:List Nat},gw i l=false→i∉l
 | [],_,hm=>nomatch hm
 | j::l,h,hm=>by
  unfold gw at h
  rw [BT.beq_eq] at h
  by_cases q:j=i
  ·rw [decide_eq_true q] at h; cases h
  ·rw [decide_eq_false q] at h
   rcases List.mem_cons.mp hm with rfl | hm
   ·exact q rfl
   ·exact jF h hm
theorem cq:∀ {l:List Nat},cM l=true→l.Nodup
 | [],_=>List.nodup_nil
 | i::l,h=>by
  unfold cM at h
  cases q:gw i l with
  | true=>rw [q] at h; cases h
  | false=>rw [q] at h; exact List.nodup_cons.mpr ⟨jF q,cq h⟩
theorem hW {T:ST} {d di:Bool} (inj:∀ i j c d,T.get i=some c→T.get j=some d→c.a=d.a→i=j):∀ {l:List (Nat × Obj)} {ix:List Nat},eH l=dC T d di ix→ix.Nodup→(l.map (·.1)).Nodup
 | [],_,_,_=>List.nodup_nil
 | y::l,[],h,_=>by simp [eH,dC] at h
 | y::l,i::ix,h,hn=>by
  simp only [eH,dC] at h
  cases e:T.get i with
  | none=>rw [e] at h; simp at h
  | some c =>
   rw [e] at h
   simp only at h
   have fin:Sd.n y.1::Sd.o y.2::eH l=Sd.n c.a::Sd.o c.o::dC T d di ix→((y::l).map (·.1)).Nodup:=fun h=>by
    simp only [List.cons.injEq,Sd.n.injEq,Sd.o.injEq] at h
    obtain ⟨h1,h2⟩:=List.nodup_cons.mp hn
    rw [List.map_cons]
    refine List.nodup_cons.mpr ⟨fun hm=>?_,hW inj h.2.2 h2⟩
    obtain ⟨x,hx,hxe⟩:=List.mem_map.mp hm
    obtain ⟨j,d,hj,hd,hda,_⟩:=lY h.2.2 x hx
    have:i=j:=inj i j c d e hd (by rw [hda,hxe,h.1])
    exact h1 (this▸hj)
   cases q:b7 d true c.o with
   | true =>
    rw [q] at h
    cases di with
    | false=>simp at h
    | true=>exact fin h
   | false=>rw [q] at h; exact fin h
theorem vp:∀ {l:List Nat} {T:ST} {jx:List Nat},n5 l=nD T jx→l.length=jx.length∨l.length≤jx.length
 | [],_,_,_=>.inr (Nat.zero_le _)
 | y::l,T,[],h=>by simp [n5,nD] at h
 | y::l,T,i::jx,h=>by
  simp only [n5,nD] at h
  cases e:T.get i with
  | none=>simp [e] at h
  | some c =>
   cases q:c.mu with
   | false=>simp [e,q] at h
   | true =>
    simp only [e,q,List.cons.injEq] at h
    rcases vp h.2 with z | z
    ·exact .inr (by simp only [List.length_cons]; omega)
    ·exact .inr (by simp only [List.length_cons]; omega)
theorem oG:∀ {l:List Nat} {T:ST} {jx:List Nat},n5 l=nD T jx→∀ (q i:Nat) (a:Nat),jx[q]?=some i→l[q]?=some a→∃ c,T.get i=some c∧c.a=a∧c.mu=true
 | [],_,_,_,_,_,_,_,h=>by simp at h
 | y::l,T,[],h,_,_,_,_,_=>by simp [n5,nD] at h
 | y::l,T,j::jx,h,q,i,a,h1,h2=>by
  simp only [n5,nD] at h
  cases e:T.get j with
  | none=>simp [e] at h
  | some c =>
   cases z:c.mu with
   | false=>simp [e,z] at h
   | true =>
    simp only [e,z,List.cons.injEq,Sd.n.injEq] at h
    cases q with
    | zero =>
     simp only [List.getElem?_cons_zero,Option.some.injEq] at h1 h2
     subst h1 h2
     exact ⟨c,e,h.1.symm,z⟩
    | succ q =>
     simp only [List.getElem?_cons_succ] at h1 h2
     exact oG h.2 q i a h1 h2
theorem m1 {l:List Nat} {T:ST}:∀ {jx:List Nat},n5 l=nD T jx→∀ a,a∈l→∃ c i,T.get i=some c∧c.a=a∧c.mu=true∧i∈jx:=by
 intro jx h a ha
 obtain ⟨q,hq⟩:=List.getElem?_of_mem ha
 have hl:q<jx.length:=by
  have:=(List.getElem?_eq_some_iff.mp hq).1
  rcases vp h with z | z <;> omega
 obtain ⟨c,h1,h2,h3⟩:=oG h q jx[q] a (List.getElem?_eq_getElem hl) hq
 exact ⟨c,_,h1,h2,h3,List.getElem_mem hl⟩
theorem bA {α β:Type}:∀ {l:List α} {l':List β},cO l l'=true→l.length=l'.length
 | [],[],_=>rfl
 | _::l,_::l',h=>by simp only [List.length_cons]; rw [bA (l:=l) (l':=l') h]
 | [],_::_,h=>by cases h
 | _::_,[],h=>by cases h
theorem fH:∀ {js:List Nat} {os:List Obj} {T:ST} {i:Nat} {c:Cell},js.length=os.length→(cD T js os).get i=some c →
 ∃ d,T.get i=some d∧c.a=d.a∧c.mu=d.mu∧((i∉js∧c.o=d.o)∨∃ q:Nat,js[q]?=some i∧os[q]?=some c.o)
 | [],[],T,i,c,_,h=>⟨c,h,rfl,rfl,.inl ⟨(fun hm=>nomatch hm),rfl⟩⟩
 | j::js,o::os,T,i,c,hl,h=>by
  have h':(cD (T.set j o) js os).get i=some c:=h
  obtain ⟨d,hd,h1,h2,h3⟩:=fH (by simpa using hl) h'
  rw [ST.get_set] at hd
  by_cases hij:i=j
  ·rw [if_pos hij] at hd
   obtain ⟨e,he,hed⟩:=Option.map_eq_some_iff.mp hd
   subst hed
   refine ⟨e,hij▸he,h1,h2,?_⟩
   rcases h3 with ⟨h3,h4⟩ | ⟨q,h3,h4⟩
   ·exact .inr ⟨0,by simp [hij],by simp only [List.getElem?_cons_zero]; rw [h4]⟩
   ·exact .inr ⟨q+1,by simpa using h3,by simpa using h4⟩
  ·rw [if_neg hij] at hd
   refine ⟨d,hd,h1,h2,?_⟩
   rcases h3 with ⟨h3,h4⟩ | ⟨q,h3,h4⟩
   ·exact .inl ⟨fun hm=>(List.mem_cons.mp hm).elim hij h3,h4⟩
   ·exact .inr ⟨q+1,by simpa using h3,by simpa using h4⟩
 | [],_::_,_,_,_,hl,_=>by simp at hl
 | _::_,[],_,_,_,hl,_=>by simp at hl
theorem fR:∀ {as:List Nat} {os:List Obj} {T T':ST} {m:Nat},bS T m as os=some T' →
 as.length=os.length∧∀ i c,T'.get i=some c→(T.get i=some c∧(i<m∨m+as.length≤i))∨∃ j,i=m+j∧as[j]?=some c.a∧os[j]?=some c.o
 | [],[],T,T',m,h=>by
  simp only [bS,Option.some.injEq] at h
  subst h
  exact ⟨rfl,fun i c hc=>.inl ⟨hc,by simp only [List.length_nil]; omega⟩⟩
 | a::as,o::os,T,T',m,h=>by
  simp only [bS] at h
  cases e:(T.ins m ⟨true,a,o⟩).get m with
  | none=>rw [e] at h; cases h
  | some d =>
   rw [e] at h
   obtain ⟨hl,hg⟩:=fR h
   refine ⟨by simp only [List.length_cons]; omega,fun i c hc=>?_⟩
   rcases hg i c hc with ⟨h1,h2⟩ | ⟨j,h1,h2,h3⟩
   ·rw [ST.get_ins _ _ _ (by rw [e]; rfl)] at h1
    by_cases q:i=m
    ·rw [if_pos q] at h1
     cases h1
     exact .inr ⟨0,by omega,by simp,by simp⟩
    ·rw [if_neg q] at h1
     exact .inl ⟨h1,by simp only [List.length_cons]; omega⟩
   ·exact .inr ⟨j+1,by omega,by simpa using h2,by simpa using h3⟩
 | [],_::_,_,_,_,h=>by simp [bS] at h
 | _::_,[],_,_,_,h=>by simp [bS] at h
theorem fu:∀ {bs:List Nat} {ν:Nat→Nat} {k:Nat},(∀ (j a:Nat),bs[j]?=some a→ν (k+j)=a)→aY ν k bs.length=bs
 | [],_,_,_=>rfl
 | b::bs,ν,k,h=>by
  simp only [List.length_cons,aY]
  rw [show ν k=b from h 0 b (by simp),fu (bs:=bs) (k:=k+1) fun j a hj=>by have:=h (j+1) a (by simpa using hj); rw [← this]; congr 1; omega]
theorem Rep.alloc {B:Base} {s₀ s:Shared} {m₀:Nat} {X:List Nat} {d:Bool} {T:ST} {m:Nat} {o:Obj} (D:Rep B s₀ m₀ X d T m s) (hf:o.isFreed=false)
 (hg:((T.ins m ⟨true,s.heap.objs.size,o⟩).get m).isSome=true):Rep B s₀ m₀ X d (T.ins m ⟨true,s.heap.objs.size,o⟩) (m+1) { s with heap:=s.heap.push o }:=by
 have old:∀ i c,T.get i=some c→c.a<s.heap.objs.size:=fun i c h=>(D.own i c h).2.1.lt_size
 refine ⟨fun i c h=>?_,fun i j c d h1 h2 e=>?_,D.top.mono fun a x h=>Heap.get?_push_of_some _ h,fun a x h q=>(D.keep a x h q).mono fun _ z=>Heap.get?_push_of_some _ z,?_,D.gens,D.os,Nat.le_succ_of_le D.low⟩
 ·rw [ST.get_ins _ _ _ hg] at h
  by_cases q:i=m
  ·rw [if_pos q] at h
   cases h
   exact ⟨by omega,.inl (Heap.get?_push_size _ hf),D.top.free (Nat.le_refl _),fun _=>.inr D.size,fun _=>D.size⟩
  ·rw [if_neg q] at h
   obtain ⟨h1,h2,h3,h4,h5⟩:=D.own i c h
   exact ⟨by omega,h2.mono fun _ z=>Heap.get?_push_of_some _ z,h3,h4,h5⟩
 ·rw [ST.get_ins _ _ _ hg] at h1 h2
  by_cases q1:i=m
  ·rw [if_pos q1] at h1
   cases h1
   by_cases q2:j=m
   ·rw [q1,q2]
   ·rw [if_neg q2] at h2
    have:=old j d h2
    dsimp only at e
    omega
  ·rw [if_neg q1] at h1
   by_cases q2:j=m
   ·rw [if_pos q2] at h2
    cases h2
    have:=old i c h1
    dsimp only at e
    omega
   ·rw [if_neg q2] at h2
    exact D.inj i j c d h1 h2 e
 ·show _≤(s.heap.push o).objs.size
  rw [Heap.size_push]
  exact Nat.le_succ_of_le D.size
theorem mf {T:ST} (inj:∀ i j c d,T.get i=some c→T.get j=some d→c.a=d.a→i=j) {j:Nat} {c:Cell} {o':Obj} (hc:T.get j=some c):∀ i i' d d',(T.set j o').get i=some d→(T.set j o').get i'=some d'→d.a=d'.a→i=i':=by
 intro i i' d d' h1 h2 e
 rw [ST.get_set] at h1 h2
 have l1:∃ x,T.get i=some x∧x.a=d.a:=by
  by_cases q:i=j
  ·rw [if_pos q,hc] at h1
   simp only [Option.map_some,Option.some.injEq] at h1
   exact ⟨c,q▸hc,by rw [← h1]⟩
  ·rw [if_neg q] at h1; exact ⟨d,h1,rfl⟩
 have l2:∃ x,T.get i'=some x∧x.a=d'.a:=by
  by_cases q:i'=j
  ·rw [if_pos q,hc] at h2
   simp only [Option.map_some,Option.some.injEq] at h2
   exact ⟨c,q▸hc,by rw [← h2]⟩
  ·rw [if_neg q] at h2; exact ⟨d',h2,rfl⟩
 obtain ⟨x,hx1,hx2⟩:=l1
 obtain ⟨y,hy1,hy2⟩:=l2
 exact inj i i' x y hx1 hy1 (by rw [hx2,hy2,e])
theorem Rep.update {B:Base} {s₀ s:Shared} {m₀:Nat} {X:List Nat} {dt:Bool} {T:ST} {m j:Nat} {c:Cell} {f:Obj→Obj} {o':Obj} (D:Rep B s₀ m₀ X dt T m s) (hc:T.get j=some c) (hm:c.mu=true)
 (hf:∀ x,s.heap.get? c.a=some x→(f x).isFreed=false∧(f x=o'∨(dt=true∧aU o'=true∧∃ sl,f x=wS o' sl))) :
 Rep B s₀ m₀ X dt (T.set j o') m { s with heap:=s.heap.update c.a f }:=by
 obtain ⟨hj,hg,hh,hx,hn⟩:=D.own j c hc
 have ne:∀ b,b≠c.a→(s.heap.update c.a f).get? b=s.heap.get? b:=fun b hb=>Heap.get?_update_ne _ _ _ _ hb
 refine ⟨fun i d h=>?_,mf D.inj hc,⟨fun a x h=>(ne a fun z=>?_).trans (D.top.1 a x h),fun i d h=>(ne d.a fun z=>hh.2 i d h z).trans (D.top.2 i d h)⟩,fun a x h q=>?_,?_,D.gens,D.os,D.low⟩
 ·rw [ST.get_set] at h
  by_cases q:i=j
  ·rw [if_pos q,hc] at h
   simp only [Option.map_some,Option.some.injEq] at h
   subst h q
   refine ⟨hj,?_,hh,hx,hn⟩
   obtain ⟨sl,g⟩:=hg.get
   obtain ⟨f1,f2⟩:=hf _ g
   have:=Heap.get?_update_self f g f1
   rcases f2 with f2 | ⟨f2,f3,sl',f4⟩
   ·exact .inl (by rw [f2] at this; exact this)
   ·exact .inr ⟨f2,f3,sl',by rw [f4] at this; exact this⟩
  ·rw [if_neg q] at h
   obtain ⟨h1,h2,h3,h4,h5⟩:=D.own i d h
   exact ⟨h1,h2.mono fun _ y=>(ne _ fun z=>q (D.inj i j d c h hc z)).trans y,h3,h4,h5⟩
 ·rw [z,hh.1] at h; cases h
 ·refine (D.keep a x h q).mono fun _ y=>(ne a fun z=>?_).trans y
  rcases hx hm with hx | hx
  ·exact q (z▸hx)
  ·exact absurd (Heap.lt_size h) (Nat.not_lt.mpr (z▸hx))
 ·show _≤(s.heap.update c.a f).objs.size
  rw [Heap.size_after_update]
  exact D.size
theorem cR.slots {d:Bool} {S:List Nat} {h h₁:Heap} {a:Nat} {o:Obj} (x:cR d h a o) (hs:Heap.SlotsOnly S h h₁) (hS:∀ L,L∈S→∃ o,h.get? L=some o∧aU o=true):cR true h₁ a o:=by
 refine x.map (d':=true) (fun _=>rfl) (fun _=>rfl) fun o' z=>?_
 by_cases q:a∈S
 ·obtain ⟨y,hy,hf⟩:=hS a q
  rw [z] at hy
  cases hy
  obtain ⟨sl,w⟩:=hs.2.2 a o' z
  exact .inr ⟨rfl,hf,sl,w⟩
 ·exact .inl ((hs.2.1 a q).trans z)
theorem Rep.note {B:Base} {s₀ s:Shared} {m₀:Nat} {X S:List Nat} {d:Bool} {T:ST} {m j:Nat} {c:Cell} {o1 o2:Obj} {h₁ hF:Heap} (D:Rep B s₀ m₀ X d T m s) (hc:T.get j=some c) (hm:c.mu=true)
 (hs:Heap.SlotsOnly S s.heap h₁) (hS:∀ L,L∈S→B.Free L∧∃ o,s.heap.get? L=some o∧aU o=true) (hz:hF.objs.size=h₁.objs.size+1) (f1:hF.get? c.a=some o1) (f2:hF.get? h₁.objs.size=some o2)
 (f3:∀ b,b≠c.a→b<h₁.objs.size→hF.get? b=h₁.get? b) (hg:(((T.set j o1).ins m ⟨true,s.heap.objs.size,o2⟩).get m).isSome=true) :
 Rep B s₀ m₀ X true ((T.set j o1).ins m ⟨true,s.heap.objs.size,o2⟩) (m+1) { s with heap:=hF }:=by
 obtain ⟨hj,hgc,hh,hx,hn⟩:=D.own j c hc
 have hS':∀ L,L∈S→∃ o,s.heap.get? L=some o∧aU o=true:=fun L hL=>(hS L hL).2
 have hle:∀ {d a o},cR d s.heap a o→a≠c.a→cR true hF a o:=fun {d a o} x ne=>(x.slots hs hS').mono fun o' z=>(f3 a ne (Heap.lt_size z)).trans z
 have exact_:∀ a o,s.heap.get? a=some o→a∉S→a≠c.a→hF.get? a=some o:=fun a o z hn ne=>by
  have:=(hs.2.1 a hn).trans z
  exact (f3 a ne (Heap.lt_size this)).trans this
 have old:∀ i x,(T.set j o1).get i=some x→x.a<s.heap.objs.size:=fun i x h=>by
  rw [ST.get_set] at h
  by_cases q:i=j
  ·rw [if_pos q,hc] at h
   simp only [Option.map_some,Option.some.injEq] at h
   subst h
   exact hgc.lt_size
  ·rw [if_neg q] at h
   exact (D.own i x h).2.1.lt_size
 refine ⟨fun i x h=>?_,fun i i' x y h1 h2 e=>?_,⟨fun a x h=>?_,fun i x h=>?_⟩,fun a x h q=>?_,?_,D.gens,D.os,Nat.le_succ_of_le D.low⟩
 ·rw [ST.get_ins _ _ _ hg] at h
  by_cases q:i=m
  ·rw [if_pos q] at h
   cases h
   exact ⟨by omega,.inl (hs.1▸f2),D.top.free (Nat.le_refl _),fun _=>.inr D.size,fun _=>D.size⟩
  ·rw [if_neg q,ST.get_set] at h
   by_cases q':i=j
   ·rw [if_pos q',hc] at h
    simp only [Option.map_some,Option.some.injEq] at h
    subst h q'
    exact ⟨by omega,.inl f1,hh,hx,hn⟩
   ·rw [if_neg q'] at h
    obtain ⟨h1,h2,h3,h4,h5⟩:=D.own i x h
    exact ⟨by omega,hle h2 fun z=>q' (D.inj i j x c h hc z),h3,h4,h5⟩
 ·rw [ST.get_ins _ _ _ hg] at h1 h2
  by_cases q1:i=m
  ·rw [if_pos q1] at h1
   cases h1
   by_cases q2:i'=m
   ·rw [q1,q2]
   ·rw [if_neg q2] at h2
    have:=old i' y h2
    dsimp only at e
    omega
  ·rw [if_neg q1] at h1
   by_cases q2:i'=m
   ·rw [if_pos q2] at h2
    cases h2
    have:=old i x h1
    dsimp only at e
    omega
   ·rw [if_neg q2] at h2
    exact mf D.inj hc i i' x y h1 h2 e
 ·refine exact_ a x (D.top.1 a x h) (fun hm=>?_) fun z=>?_
  ·have:=(hS a hm).1.1
   rw [h] at this; cases this
  ·have:=hh.1
   rw [← z,h] at this; cases this
 ·refine exact_ x.a x.o (D.top.2 i x h) (fun hm=>(hS _ hm).1.2 i x h rfl) fun z=>hh.2 i x h z
 ·refine hle (D.keep a x h q) fun z=>?_
  rcases hx hm with hx | hx
  ·exact q (z▸hx)
  ·exact absurd (Heap.lt_size h) (Nat.not_lt.mpr (z▸hx))
 ·show _≤hF.objs.size
  have:=D.size
  have:=hs.1
  omega
theorem Rep.after {B:Base} {s₀ s s':Shared} {m₀:Nat} {X:List Nat} {d d'':Bool} {T T':ST} {m:Nat} {S:Spec} {bs ts jx:List Nat} (D:Rep B s₀ m₀ X d T m s) (A:After B S s s' bs ts) (hd:d=true→d''=true) (hd':S.dy=true→d''=true) (hmu:n5 S.mu=nD T jx)
 (hlen:(S.po bs ts).length=jx.length) (hml:S.mu.length=jx.length) (hins:bS (cD T jx (S.po bs ts)) m bs (S.nw bs ts)=some T'):Rep B s₀ m₀ X d'' T' (m+S.nb) s':=by
 obtain ⟨hl,hg⟩:=fR hins
 have notMu:∀ i d,T.get i=some d→i∉jx→d.a∉S.mu:=fun i d h hi hm=>by
  obtain ⟨c,i',h1,h2,h3,h4⟩:=m1 hmu _ hm
  exact hi (D.inj i i' d c h h1 h2.symm▸h4)
 have up:∀ {a o},cR S.dy s'.heap a o→cR d'' s'.heap a o:=fun x=>x.map (d':=S.dy) hd' hd' fun _ z=>.inl z
 have cell:∀ i c,T'.get i=some c→(∃ d,T.get i=some d∧c.a=d.a∧c.mu=d.mu∧cR d'' s'.heap c.a c.o)∨(∃ j,i=m+j∧bs[j]?=some c.a∧cR d'' s'.heap c.a c.o):=by
  intro i c h
  rcases hg i c h with ⟨h1,_⟩ | ⟨j,h1,h2,h3⟩
  ·obtain ⟨d,jb,e1,e2,h4⟩:=fH hlen.symm h1
   refine .inl ⟨d,jb,e1,e2,?_⟩
   rcases h4 with ⟨h4,h5⟩ | ⟨q,h4,h5⟩
   ·rw [e1,h5]
    exact (D.own i d jb).2.1.map (d':=S.dy) hd hd' fun o' z=>A.keep _ _ z (notMu i d jb h4)
   ·have hq:q<S.mu.length:=by
     have:=(List.getElem?_eq_some_iff.mp h4).1
     omega
    obtain ⟨c',k1,k2,_⟩:=oG hmu q i S.mu[q] h4 (List.getElem?_eq_getElem hq)
    rw [jb] at k1
    cases k1
    rw [e1]
    exact up (A.po q _ _ ((List.getElem?_eq_getElem hq).trans (by rw [k2])) h5)
  ·exact .inr ⟨j,h1,h2,up (A.nw j _ _ h2 h3)⟩
 refine ⟨fun i c h=>?_,fun i i' c d h1 h2 e=>?_,A.top,fun a o h q=>?_,Nat.le_trans D.size A.size,A.gens.trans D.gens,A.os.trans D.os,Nat.le_trans D.low (Nat.le_add_right ..)⟩
 ·rcases cell i c h with ⟨d,jb,e1,e2,h4⟩ | ⟨j,h1,h2,h3⟩
  ·obtain ⟨k1,k2,k3,k4,k5⟩:=D.own i d jb
   exact ⟨by omega,h4,by rw [e1]; exact k3,by rw [e1,e2]; exact k4,by rw [e1]; exact k5⟩
  ·have hb:c.a∈bs:=List.mem_of_getElem? h2
   have hj:j<S.nb:=by rw [← A.len]; exact (List.getElem?_eq_some_iff.mp h2).1
   have hs:=A.new _ hb
   exact ⟨by omega,h3,D.top.free hs,fun _=>.inr (Nat.le_trans D.size hs),fun _=>Nat.le_trans D.size hs⟩
 ·rcases cell i c h1 with ⟨x,hx,e1,_,_⟩ | ⟨j,h1,k1,_⟩
  ·rcases cell i' d h2 with ⟨y,hy,e2,_,_⟩ | ⟨j',h2,k2,_⟩
   ·exact D.inj i i' x y hx hy (by rw [← e1,←e2,e])
   ·have r:=A.new _ (List.mem_of_getElem? k2)
    have z:d.a=x.a:=by rw [← e,e1]
    exact absurd (D.own i x hx).2.1.lt_size (Nat.not_lt.mpr (z▸r))
  ·rcases cell i' d h2 with ⟨y,hy,e2,_,_⟩ | ⟨j',h2,k2,_⟩
   ·have r:=A.new _ (List.mem_of_getElem? k1)
    have z:c.a=y.a:=by rw [e,e2]
    exact absurd (D.own i' y hy).2.1.lt_size (Nat.not_lt.mpr (z▸r))
   ·obtain ⟨l1,g1⟩:=List.getElem?_eq_some_iff.mp k1
    obtain ⟨l2,g2⟩:=List.getElem?_eq_some_iff.mp k2
    have hne:=List.pairwise_iff_getElem.mp A.nd
    have eq:bs[j]=bs[j']:=by rw [g1,g2,e]
    rcases Nat.lt_trichotomy j j' with q | q | q
    ·exact absurd eq (hne j j' l1 l2 q)
    ·omega
    ·exact absurd eq.symm (hne j' j l2 l1 q)
 ·refine (D.keep a o h q).map (d':=S.dy) hd hd' fun o' z=>A.keep a o' z fun hm=>?_
  obtain ⟨c,i,k1,k2,k3,_⟩:=m1 hmu _ hm
  rcases (D.own i c k1).2.2.2.1 k3 with k | k
  ·exact q (k2▸k)
  ·exact absurd (Heap.lt_size h) (Nat.not_lt.mpr (k2▸k))
noncomputable def p4 (x:Out) (L R:List Sd):Prop:=∃ L' R',x.L=L' ++ L∧x.R=R' ++ R∧L'.length=R'.length
theorem p4.refl {x:Out}:p4 x x.L x.R:=⟨[],[],rfl,rfl,rfl⟩
theorem p4.push {x:Out} {a b:Sd} {L R:List Sd} (h:p4 x (a::L) (b::R)):p4 x L R:=by
 obtain ⟨L',R',h1,h2,h3⟩:=h
 exact ⟨L' ++ [a],R' ++ [b],by simp [h1],by simp [h2],by simp [h3]⟩
theorem p4.same {x:Out} {a b:Sd} {L:List Sd} (h:p4 x (a::L) (b::L)) (e:x.L=x.R):a=b:=by
 obtain ⟨L',R',h1,h2,h3⟩:=h
 rw [h1,h2] at e
 have:=(List.append_inj e h3).2
 injection this
structure UseE (V:Cx) (d:Bool) (T:ST) (m k i hs:Nat) (c:Code) (bf:List (Code × Pos)→List (Code × Pos)) (u:Use) (nf:Bool) (lv:Nat) (ch:Nat→Option (Nat × List Sd × List Sd)) (S:Spec) (T':ST) (hs':Nat) (d':Bool) (LL RR:List Sd):Prop where
 eq:u.S (aL T) (ci V.τ i) (b6 T) (c7 V.ρ k) (V.ρ k)=S
 lv:S.lv≤lv
 fit:mI V S.sh bf=true
 nd:u.ix.Nodup
 ml:S.mu.length=u.jx.length
 pl:(S.po (aY V.ν k S.nb) (aY V.τ i S.nt)).length=u.jx.length
 ins:bS (cD T u.jx (S.po (aY V.ν k S.nb) (aY V.τ i S.nt))) m (aY V.ν k S.nb) (S.nw (aY V.ν k S.nb) (aY V.τ i S.nt))=some T'
 dy:(S.dy=false∧hs'=hs∧d'=d∧LL=[]∧RR=[])∨(S.dy=true∧V.dy=true∧d'=true∧nf=true∧ch hs=some (hs',LL,RR))
theorem bO {V:Cx} {d:Bool} {T:ST} {m k i hs:Nat} {c:Code} {bf:List (Code × Pos)→List (Code × Pos)} {u:Use} {nf:Bool} {lv:Nat} {ch:Nat→Option (Nat × List Sd × List Sd)} {K:Result→Nat→Bool→ST→Nat→Nat→Nat→Sd→Sd→Option Out} {x:Out} (h:j5 V d T m k i hs c bf u nf lv ch K=some x) :
 ∃ S T' hs' d' LL RR,UseE V d T m k i hs c bf u nf lv ch S T' hs' d' LL RR ∧
  K (S.r (aY V.ν k S.nb) (aY V.τ i S.nt)) hs' d' T' (m+S.nb) (k+S.nb+1) (i+S.nt) (.s [.c S.c,.s (eH S.pre),.s (n5 S.mu),.s LL]) (.s [.c c,.s (dC T d S.di u.ix),.s (nD T u.jx),.s RR])=some x:=by
 unfold j5 at h
 cases hS:u.S (aL T) (ci V.τ i) (b6 T) (c7 V.ρ k) (V.ρ k) with
 | mk lv' sh c' pre mu n q po nw r dy di =>
  rw [hS] at h
  simp only [rg] at h
  cases h1:Nat.ble lv' lv with
  | false=>rw [h1] at h; cases h
  | true =>
   rw [h1] at h
   simp only at h
   cases h1':mI V sh bf with
   | false=>rw [h1'] at h; cases h
   | true =>
   rw [h1'] at h
   simp only at h
   cases h2:cM u.ix with
   | false=>rw [h2] at h; cases h
   | true =>
    rw [h2] at h
    simp only at h
    cases h2':cO mu u.jx with
    | false=>rw [h2'] at h; cases h
    | true =>
    rw [h2'] at h
    simp only at h
    cases h3:cO (po (aY V.ν k n) (aY V.τ i q)) u.jx with
    | false=>rw [h3] at h; cases h
    | true =>
     rw [h3] at h
     simp only at h
     cases h4:bS (cD T u.jx (po (aY V.ν k n) (aY V.τ i q))) m (aY V.ν k n) (nw (aY V.ν k n) (aY V.τ i q)) with
     | none=>rw [h4] at h; cases h
     | some T' =>
      rw [h4] at h
      simp only at h
      cases dy with
      | false =>
       simp only at h
       exact ⟨_,T',hs,d,[],[],⟨hS,Nat.le_of_ble_eq_true h1,h1',cq h2,bA h2',bA h3,h4,.inl ⟨rfl,rfl,rfl,rfl,rfl⟩⟩,h⟩
      | true =>
       simp only at h
       cases h5:V.dy with
       | false=>rw [h5] at h; cases h
       | true =>
        rw [h5] at h
        simp only at h
        cases h7:nf with
        | false=>rw [h7] at h; cases h
        | true =>
        rw [h7] at h
        simp only at h
        cases h6:ch hs with
        | none=>rw [h6] at h; cases h
        | some y =>
         rw [h6] at h
         simp only [fC] at h
         exact ⟨_,T',y.1,true,y.2.1,y.2.2,⟨hS,Nat.le_of_ble_eq_true h1,h1',cq h2,bA h2',bA h3,h4,.inr ⟨rfl,h5,rfl,rfl,h6⟩⟩,h⟩
theorem jX:∀ {l:List LibE} {i:Nat} {e:LibE},sM l i=some e→e∈l
 | [],_,_,h=>by cases h
 | x::l,0,e,h=>by
  have:x=e:=Option.some.inj h
  exact this▸.head _
 | x::l,i+1,e,h=>.tail _ (jX (l:=l) (i:=i) h)
theorem eV (T:ST):∀ n hs,(∀ K,jq T n hs K=none)∨∃ h ix cs,∀ K,jq T n hs K=K h ix cs
 | 0,hs=>.inr ⟨hs,[],[],fun _=>rfl⟩
 | n+1,hs=>by
  have e:∀ K,jq T (n+1) hs K=match T.get (hs % hB) with | none=>none | some c=>jq T n (hs / hB) fun h ix cs=>K h (hs % hB::ix) (c::cs):=fun _=>rfl
  cases g:T.get (hs % hB) with
  | none=>exact .inl fun K=>by rw [e,g]
  | some c =>
   rcases eV T n (hs / hB) with q | ⟨h,ix,cs,q⟩
   ·exact .inl fun K=>by rw [e,g]; exact q _
   ·exact .inr ⟨h,_,_,fun K=>by rw [e,g]; exact q _⟩
theorem eZ:∀ n hs,∃ h l,∀ K,vG n hs K=K h l
 | 0,hs=>⟨hs,[],fun _=>rfl⟩
 | n+1,hs=>by
  obtain ⟨h,l,q⟩:=eZ n (hs / hB)
  exact ⟨h,_,fun K=>q _⟩
theorem cN (lb:List LibE) (T:ST) (c:Code) (h hs:Nat) (us:List Use):(∀ K,f9 lb T c h hs us K=none) ∨
 ∃ hs' u us',(∀ K,f9 lb T c h hs us K=K hs' u us')∧u.tl=none∧(u∈us∨∃ e cs ms,e∈lb∧∀ A tk O ρs ρ,u.S A tk O ρs ρ=e.S c cs ms)∧∀ v,v∈us'→v∈us:=by
 unfold f9
 cases Nat.beq h 2 with
 | true =>
  cases us with
  | nil=>exact .inl fun _=>rfl
  | cons u us =>
   cases q:u.tl with
   | some x=>exact .inl fun _=>by simp only [q]
   | none=>exact .inr ⟨hs,u,us,(fun _=>by simp only [q]),q,.inl (.head _),fun v hv=>.tail _ hv⟩
 | false =>
  cases q:sM lb (h - 4) with
  | none=>exact .inl fun _=>rfl
  | some e =>
   rcases eV T (hs % hB % 32) (hs / hB) with z | ⟨h1,ix,cs,z⟩
   ·exact .inl fun K=>z _
   ·obtain ⟨h2,ms,y⟩:=eZ (hs % hB / 32) h1
    exact .inr ⟨h2,_,us,(fun K=>(z _).trans (y _)),rfl,.inr ⟨e,cs,ms,jX q,fun _ _ _ _ _=>rfl⟩,fun v hv=>hv⟩
theorem fK {lb:List LibE} {T:ST} {c:Code} {h hs:Nat} {us:List Use} {K:Nat→Use→List Use→Option Out} {x:Out} (e:f9 lb T c h hs us K=some x):∃ hs' u us',K hs' u us'=some x:=by
 rcases cN lb T c h hs us with q | ⟨h',u,us',q,_⟩
 ·rw [q] at e; cases e
 ·exact ⟨h',u,us',(q K).symm.trans e⟩
noncomputable def ve (V:Cx) (n:Nat):Prop:=∀ hs us Γ κ bd t p d T m k i L R x,l7 V n hs us Γ κ bd t p d T m k i L R=some x→p4 x L R
theorem bp {V:Cx} {n:Nat} (ih:ve V n) {r:Result} {hs:Nat} {us:List Use} {κ:Kt} {d:Bool} {T:ST} {m k i:Nat} {L R:List Sd} {x:Out} (h:fo (l7 V n) r hs us κ d T m k i L R=some x):p4 x L R:=by
 cases κ with
 | base =>
  simp only [fo,Option.some.injEq] at h
  subst h
  exact p4.refl
 | ret Γ p bd f κ=>exact ih _ _ _ _ _ _ _ _ _ _ _ _ _ _ _ h
theorem aR (V:Cx):∀ n,ve V n
 | 0=>fun _ _ _ _ _ _ _ _ _ _ _ _ _ _ _ h=>by cases h
 | n+1=>by
  intro hs us Γ κ bd t p d T m k i L R x h
  have ih:=aR V n
  have h:aN V (l7 V n) hs us Γ κ bd t p d T m k i L R=some x:=h
  cases t with
  | pure fin =>
   cases fin with
   | done f=>exact bp ih h
   | again c =>
    simp only [aN] at h
    split at h
    ·cases h
    ·split at h
     ·split at h
      ·exact (ih _ _ _ _ _ _ _ _ _ _ _ _ _ _ _ h).push
      ·cases h
     ·split at h
      ·exact ih _ _ _ _ _ _ _ _ _ _ _ _ _ _ _ h
      ·split at h
       ·exact ih _ _ _ _ _ _ _ _ _ _ _ _ _ _ _ h
       ·cases h
      ·split at h
       ·cases h
       ·obtain ⟨_,_,_,h⟩:=fK h
        obtain ⟨S,T',_,_,_,_,_,h⟩:=bO h
        exact (bp ih h).push
  | raise e=>exact bp ih h
  | rule _ f=>exact ih _ _ _ _ _ _ _ _ _ _ _ _ _ _ _ h
  | «at» q f =>
   simp only [aN] at h
   split at h
   ·exact ih _ _ _ _ _ _ _ _ _ _ _ _ _ _ _ h
   ·split at h
    ·exact ih _ _ _ _ _ _ _ _ _ _ _ _ _ _ _ h
    ·split at h
     ·exact ih _ _ _ _ _ _ _ _ _ _ _ _ _ _ _ h
     ·split at h
      ·cases h
      ·obtain ⟨S,T',_,_,_,_,_,h⟩:=bO h
       exact (bp ih h).push
  | point _ f=>exact ih _ _ _ _ _ _ _ _ _ _ _ _ _ _ _ h
  | ask f =>
   simp only [aN] at h
   split at h
   ·exact ih _ _ _ _ _ _ _ _ _ _ _ _ _ _ _ h
   ·exact (ih _ _ _ _ _ _ _ _ _ _ _ _ _ _ _ h).push
   ·exact ih _ _ _ _ _ _ _ _ _ _ _ _ _ _ _ h
  | load a _ f =>
   simp only [aN] at h
   split at h
   ·split at h
    ·split at h
     ·cases h
     ·split at h
      ·cases h
      ·simp only [NoteC.run_eq] at h
       exact (bp ih h).push
    ·split at h
     ·cases h
     ·split at h
      ·cases h
      ·simp only [NoteC.run_eq] at h
       split at h
       ·cases h
       ·exact (ih _ _ _ _ _ _ _ _ _ _ _ _ _ _ _ h).push
   ·split at h
    ·split at h
     ·exact ih _ _ _ _ _ _ _ _ _ _ _ _ _ _ _ h
     ·split at h
      ·exact (ih _ _ _ _ _ _ _ _ _ _ _ _ _ _ _ h).push
      ·exact (ih _ _ _ _ _ _ _ _ _ _ _ _ _ _ _ h).push
    ·cases h
  | loadIfAlive a f =>
   simp only [aN] at h
   split at h
   ·split at h
    ·exact ih _ _ _ _ _ _ _ _ _ _ _ _ _ _ _ h
    ·split at h
     ·exact (ih _ _ _ _ _ _ _ _ _ _ _ _ _ _ _ h).push
     ·exact (ih _ _ _ _ _ _ _ _ _ _ _ _ _ _ _ h).push
   ·cases h
  | alloc o f =>
   simp only [aN] at h
   split at h
   ·cases h
   ·split at h
    ·exact ih _ _ _ _ _ _ _ _ _ _ _ _ _ _ _ h
    ·cases h
  | update a _ g f =>
   simp only [aN] at h
   split at h
   ·split at h
    ·cases h
    ·split at h
     ·cases h
     ·split at h
      ·exact (ih _ _ _ _ _ _ _ _ _ _ _ _ _ _ _ h).push
      ·split at h
       ·cases h
       ·exact (ih _ _ _ _ _ _ _ _ _ _ _ _ _ _ _ h).push
   ·cases h
  | fresh f=>exact ih _ _ _ _ _ _ _ _ _ _ _ _ _ _ _ h
  | handled own f =>
   cases own with
   | false=>exact ih _ _ _ _ _ _ _ _ _ _ _ _ _ _ _ h
   | true=>cases h
  | stack f =>
   simp only [aN] at h
   split at h
   ·exact ih _ _ _ _ _ _ _ _ _ _ _ _ _ _ _ h
   ·split at h
    ·exact ih _ _ _ _ _ _ _ _ _ _ _ _ _ _ _ h
    ·exact (ih _ _ _ _ _ _ _ _ _ _ _ _ _ _ _ h).push
  | call c hd _ _ f =>
   simp only [aN] at h
   split at h
   ·cases h
   ·split at h
    ·split at h
     ·exact (ih _ _ _ _ _ _ _ _ _ _ _ _ _ _ _ h).push
     ·cases h
    ·split at h
     ·exact ih _ _ _ _ _ _ _ _ _ _ _ _ _ _ _ h
     ·split at h
      ·exact ih _ _ _ _ _ _ _ _ _ _ _ _ _ _ _ h
      ·cases h
     ·split at h
      ·cases h
      ·obtain ⟨_,_,_,h⟩:=fK h
       obtain ⟨S,T',_,_,_,_,_,h⟩:=bO h
       exact (ih _ _ _ _ _ _ _ _ _ _ _ _ _ _ _ h).push
  | _=>cases h
noncomputable abbrev fL:=(Nat→Nu)→(Nat→Nat)→Out→Prop
noncomputable def oR (Fin:fL) (ν:Nat→Nu) (τ:Nat→Nat) (o:Option Out):Prop:=∃ x,o=some x∧x.L=x.R∧Fin ν τ x
theorem oR.none {Fin:fL} {ν:Nat→Nu} {τ:Nat→Nat} (h:oR Fin ν τ Option.none):False:=by
 obtain ⟨_,e,_⟩:=h
 cases e
noncomputable def nj {α:Type} (f:Nat→α) (k:Nat) (v:α):Nat→α:=fun j=>if j=k then v else f j
theorem bt {α:Type} (f:Nat→α) (k:Nat) (v:α):nj f k v k=v:=if_pos rfl
theorem cn {α:Type} {f:Nat→α} {k j:Nat} {v:α} (h:j<k):nj f k v j=f j:=if_neg (by omega)
noncomputable def l5 (f:Nat→Nat) (k:Nat) (bs:List Nat):Nat→Nat:=fun j=>if j<k then f j else bs.getD (j - k) 0
theorem sH {f:Nat→Nat} {k j:Nat} {bs:List Nat} (h:j<k):l5 f k bs j=f j:=if_pos h
theorem un (f:Nat→Nat) (k:Nat) (bs:List Nat):aY (l5 f k bs) k bs.length=bs:=fu fun j a h=>by
 unfold l5
 rw [if_neg (by omega),show k+j - k=j by omega,List.getD_eq_getElem?_getD,h]; rfl
noncomputable def g6 (f:Nat→Nu) (k:Nat) (bs:List Nat) (ρ:Post):Nat→Nu:=fun j=>if j<k then f j else ⟨bs.getD (j - k) 0,fun _=>.none,default,ρ⟩
theorem uZ {f:Nat→Nu} {k j:Nat} {bs:List Nat} {ρ:Post} (h:j<k):g6 f k bs ρ j=f j:=if_pos h
theorem sy (f:Nat→Nu) (k:Nat) (bs:List Nat) (ρ:Post):aY (fun j=>(g6 f k bs ρ j).a) k bs.length=bs:=fu fun j a h=>by
 unfold g6
 rw [if_neg (by omega),show k+j - k=j by omega,List.getD_eq_getElem?_getD,h]; rfl
theorem km {f g:Nat→Post} {i:Nat} (h:∀ j,j<i→f j=g j):c7 f i=c7 g i:=by
 funext j
 unfold c7
 cases q:Nat.blt j i with
 | false=>rfl
 | true=>exact h j (Nat.le_of_ble_eq_true q)
theorem g9 {f g:Nat→Nat}:∀ {n k:Nat},(∀ j,j<k+n→f j=g j)→aY f k n=aY g k n
 | 0,_,_=>rfl
 | n+1,k,h=>by
  simp only [aY]
  rw [h k (by omega),g9 (n:=n) (k:=k+1) fun j hj=>h j (by omega)]
theorem jZ {f g:Nat→Nat} {i:Nat} (h:∀ j,j<i→f j=g j):ci f i=ci g i:=by
 funext j
 unfold ci
 cases q:Nat.blt j i with
 | false=>rfl
 | true=>exact h j (Nat.le_of_ble_eq_true q)
structure Low (B:Base) (s₀:Shared) (X:List Nat) (bl:List (Code × Pos)) (shs:List (List Kd)) (κc:Nat→Ct) (dy:Bool):Prop where
 shape:shs≠[]→∃ l,l∈shs∧eE l 0 κc=bl
 ok:dy=true→fU B s₀.heap bl
 off:dy=true→∀ env L,env∈envsOf bl→env.frame=some L→L∉X
noncomputable def jO (B:Base) (lb:List LibE) (dy:Bool) (shs:List (List Kd)) (κc:Nat→Ct) (Fin:fL) (k i:Nat) (β:Nat→Nu) (γ:Nat→Nat) (F:Cx→Option Out):Prop :=
 ∀ ς ν τ,(∀ j,j<k→ν j=β j)→(∀ j,j<i→τ j=γ j)→oR Fin ν τ (F (B.V lb dy shs κc ς ν τ))
noncomputable def m8 (B:Base) (lb:List LibE) (dy:Bool) (shs:List (List Kd)) (κc:Nat→Ct) (s₀:Shared) (m₀:Nat) (X:List Nat) (bl:List (Code × Pos)) (Fin:fL) (R:Result→Shared→Prop) (n:Nat):Prop :=
 ∀ hs us Γ κ bd t p d T m k i (L:Cx→List Sd) β γ s,(∀ u:Use,u∈us→∀ A tk O ρs,bE B u.tl (u.S A tk O ρs))→NB bd Γ→rz bl Γ.below κ→Rep B s₀ m₀ X d T m s→jO B lb dy shs κc Fin k i β γ (fun V=>l7 V n hs us Γ κ bd t p d T m k i (L V) (L V))→Ae B R Γ κ t p s
theorem fD {T:ST}:∀ {l:List Nat},jW T l=true→∀ i,i∈l→∀ c,T.get i=some c→aU c.o=false
 | j::l,h,i,hi,c,hc=>by
  unfold jW at h
  cases e:T.get j with
  | none=>rw [e] at h; cases h
  | some x =>
   rw [e] at h
   simp only at h
   cases q:aU x.o with
   | true=>rw [q] at h; cases h
   | false =>
    rw [q] at h
    rcases List.mem_cons.mp hi with rfl | hi
    ·rw [e] at hc; cases hc; exact q
    ·exact fD h i hi c hc
theorem ro:∀ (l:List Value) (i:Nat),n0 l i=l[i]?
 | [],i=>by cases i <;> rfl
 | v::l,0=>rfl
 | v::l,i+1=>by simp only [n0,List.getElem?_cons_succ]; exact ro l i
theorem mM {a:Array Value} {i:Nat}:n0 a.toList i=a[i]?:=by rw [ro]; simp
theorem mX {c:Code} (h:c.isFrame=false):c.envs=[]:=by unfold Code.envs; rw [h]; rfl
theorem oP {B:Base} {s₀ s:Shared} {m₀:Nat} {X:List Nat} {d:Bool} {T:ST} {m:Nat} {c:Code} {j:Nat} {x:Sd × Sd} (D:Rep B s₀ m₀ X d T m s) (h:pF T c j=some x) (e:x.1=x.2) :
 ∃ env,c.envs=[env]∧nk B s.heap env∧∃ cell,T.get j=some cell∧env.frame=some cell.a:=by
 unfold pF at h
 split at h
 ·rename_i b env
  split at h
  ·rename_i L hL
   split at h
   ·rename_i cell hc
    split at h
    ·rename_i hf
     split at h
     ·rename_i es n hdt
      have fin:env.scope.kind≠.module→x=(.n L,.n cell.a)→∃ env',(Code.func b env).envs=[env']∧nk B s.heap env'∧∃ cell,T.get j=some cell∧env'.frame=some cell.a:=by
       rintro hk rfl
       injection e with e
       subst e
       obtain ⟨sl,g⟩:=(D.own _ _ hc).2.1.get
       exact ⟨env,rfl,⟨hk,cell.a,_,hL,g,hf,(fun vs q=>by have:cell.o.data=.fields vs:=q; rw [hdt] at this; cases this),(D.own _ _ hc).2.2.1⟩,cell,hc,hL⟩
      split at h
      ·cases h
      ·rename_i hk
       simp only [Option.some.injEq] at h
       exact fin hk h.symm
     ·cases h
    ·cases h
   ·cases h
  ·cases h
 ·cases h
theorem jN {B:Base} {s₀ s:Shared} {m₀:Nat} {X:List Nat} {d:Bool} {T:ST} {m:Nat} {c:Code} {hs hs':Nat} {L R L' R':List Sd} (D:Rep B s₀ m₀ X d T m s) (h:mP T c hs L R=some (hs',L',R')) :
 ∃ P Q,L'=P ++ L∧R'=Q ++ R∧P.length=Q.length∧(P=Q→∀ env,env∈c.envs→nk B s.heap env):=by
 unfold mP at h
 split at h
 ·rename_i hf
  simp only [Option.some.injEq,Prod.mk.injEq] at h
  obtain ⟨_,rfl,rfl⟩:=h
  exact ⟨[],[],rfl,rfl,rfl,fun _ env he=>by rw [mX hf] at he; cases he⟩
 ·split at h
  ·rename_i x hx
   simp only [Option.some.injEq,Prod.mk.injEq] at h
   obtain ⟨_,rfl,rfl⟩:=h
   refine ⟨[x.1],[x.2],rfl,rfl,rfl,fun e env he=>?_⟩
   injection e with e
   obtain ⟨env',h1,h2,_⟩:=oP D hx e
   rw [h1] at he
   rcases List.mem_cons.mp he with rfl | he
   ·exact h2
   ·cases he
  ·cases h
theorem dF {B:Base} {s₀ s:Shared} {m₀:Nat} {X:List Nat} {bl:List (Code × Pos)} {shs:List (List Kd)} {κc:Nat→Ct} {d dy:Bool} {T:ST} {m:Nat} (D:Rep B s₀ m₀ X d T m s) (W:Low B s₀ X bl shs κc dy) (hdy:dy=true) :
 ∀ {κ:Kt} {b:List (Code × Pos)} {hs hs':Nat} {L R L' R':List Sd},rz bl b κ→cL T κ hs L R=some (hs',L',R')→∃ P Q,L'=P ++ L∧R'=Q ++ R∧P.length=Q.length∧(P=Q→fU B s.heap b)
 | .base,b,hs,hs',L,R,L',R',hk,h=>by
  simp only [cL,Option.some.injEq,Prod.mk.injEq] at h
  obtain ⟨_,rfl,rfl⟩:=h
  refine ⟨[],[],rfl,rfl,rfl,fun _ env he=>?_⟩
  have hb:b=bl:=hk
  subst hb
  obtain ⟨h1,L,o,h2,h3,h4,h5,h6⟩:=W.ok hdy env he
  obtain ⟨sl,g⟩:=(D.keep L o h3 (W.off hdy env L he h2)).get
  exact ⟨h1,L,_,h2,g,h4,h5,h6⟩
 | .ret Γ p bd f κ,b,hs,hs',L,R,L',R',hk,h=>by
  obtain ⟨_,hb,hk'⟩:=hk
  simp only [cL,fC] at h
  split at h
  ·rename_i x hx
   obtain ⟨x1,x2,x3⟩:=x
   obtain ⟨P,Q,rfl,rfl,hl,ho⟩:=jN D hx
   obtain ⟨P',Q',rfl,rfl,hl',ho'⟩:=dF D W hdy hk' h
   refine ⟨P' ++ P,Q' ++ Q,by simp,by simp,by simp [hl,hl'],fun e=>?_⟩
   obtain ⟨e1,e2⟩:=List.append_inj e hl'
   intro env he
   rw [hb,envsOf_cons] at he
   rcases List.mem_append.mp he with he | he
   ·exact ho e2 env he
   ·exact ho' e1 env he
  ·cases h
theorem hQ {B:Base} {s₀ s:Shared} {m₀:Nat} {X:List Nat} {bl:List (Code × Pos)} {shs:List (List Kd)} {κc:Nat→Ct} {d dy:Bool} {T:ST} {m:Nat} (D:Rep B s₀ m₀ X d T m s) (W:Low B s₀ X bl shs κc dy) (hdy:dy=true)
 {κ:Kt} {b:List (Code × Pos)} {c:Code} {p:Pos} {hs hs':Nat} {L R L' R':List Sd} (hk:rz bl b κ) (h:eg T c κ hs L R=some (hs',L',R')) :
 ∃ P Q,L'=P ++ L∧R'=Q ++ R∧P.length=Q.length∧(P=Q→fU B s.heap ((c,p)::b)):=by
 unfold eg at h
 simp only [fC] at h
 split at h
 ·rename_i x hx
  obtain ⟨x1,x2,x3⟩:=x
  obtain ⟨P,Q,rfl,rfl,hl,ho⟩:=jN D hx
  obtain ⟨P',Q',rfl,rfl,hl',ho'⟩:=dF D W hdy hk h
  refine ⟨P' ++ P,Q' ++ Q,by simp,by simp,by simp [hl,hl'],fun e=>?_⟩
  obtain ⟨e1,e2⟩:=List.append_inj e hl'
  intro env he
  rw [envsOf_cons] at he
  rcases List.mem_append.mp he with he | he
  ·exact ho e2 env he
  ·exact ho' e1 env he
 ·cases h
section
variable {B:Base} (O:B.Ok) {lb:List LibE} {dy:Bool} {shs:List (List Kd)} {κc:Nat→Ct} {s₀:Shared} {m₀:Nat} {X:List Nat} {bl:List (Code × Pos)} (W:Low B s₀ X bl shs κc dy) {Fin:fL} {R:Result→Shared→Prop}
 (hR:∀ ν τ x m s,Fin ν τ x→Rep B s₀ m₀ X x.d x.T m s→R x.r s)
include hR in
theorem c5 {n:Nat} (IH:m8 B lb dy shs κc s₀ m₀ X bl Fin R n) {r:Result} {hs:Nat} {us:List Use} {κ:Kt} {b:List (Code × Pos)} {d:Bool} {T:ST} {m k i:Nat} {L:Cx→List Sd} {β:Nat→Nu} {γ:Nat→Nat} {s:Shared}
 (hus:∀ u:Use,u∈us→∀ A tk O ρs,bE B u.tl (u.S A tk O ρs)) (hk:rz bl b κ) (D:Rep B s₀ m₀ X d T m s) (H:jO B lb dy shs κc Fin k i β γ (fun V=>fo (l7 V n) r hs us κ d T m k i (L V) (L V))):bk B R κ r s:=by
 cases κ with
 | base =>
  obtain ⟨x,e,_,hf⟩:=H #[] β γ (fun _ _=>rfl) (fun _ _=>rfl)
  simp only [fo,Option.some.injEq] at e
  subst e
  exact hR β γ _ m s hf D
 | ret Γ p bd f κ=>exact IH hs us Γ κ bd (f r) p d T m k i L β γ s hus hk.1 hk.2.2 D H
include O in
theorem eM {u:Use} {nf:Bool} {d:Bool} {T:ST} {m k i hs:Nat} {L:Cx→List Sd} {β:Nat→Nu} {γ:Nat→Nat} {s:Shared} {c:Code} {lv:Nat} {Γ:Ctx} {R':Result→Shared→Prop} {ch:Nat→Option (Nat × List Sd × List Sd)} {bf:List (Code × Pos)→List (Code × Pos)} {Goal:Prop}
 {K:Cx→Result→Nat→Bool→ST→Nat→Nat→Nat→Sd→Sd→Option Out} {ex:Sd→Sd} {ex':Sd→Sd} (hK:∀ V r hs' d' T' m' k' i' l l' x,K V r hs' d' T' m' k' i' l l'=some x→p4 x (ex l::L V) (ex' l'::L V)) (hex:∀ a b,ex a=ex' b→a=b)
 (W:Low B s₀ X bl shs κc dy) (hbf:Γ.below=bf bl)
 (hnf:nf=true→dy=true→(∀ i c,i∈u.jx→T.get i=some c→aU c.o=false)∨Γ.below=bl)
 (hch:∀ hs' LL RR,ch hs=some (hs',LL,RR)→LL=RR→dy=true→fU B s.heap Γ.below)
 (hc:Γ.code=c) (hh:Γ.handled=none) (hb:NB lv Γ) (D:Rep B s₀ m₀ X d T m s) (H:jO B lb dy shs κc Fin k i β γ (fun V=>j5 V d T m k i hs c bf u nf lv ch (K V)))
 (fin:∀ S₀,(S₀=u.S (aL T) (ci γ i) (b6 T) (c7 (fun k=>(β k).q) k) (β k).q)→S₀.Ok B Γ s→(∀ ρ s' bs ts,After B (u.S (aL T) (ci γ i) (b6 T) (c7 (fun k=>(β k).q) k) ρ) s s' bs ts→R' ((u.S (aL T) (ci γ i) (b6 T) (c7 (fun k=>(β k).q) k) ρ).r bs ts) s')→Goal)
 (go:∀ r hs' d' T' m' k' i' β' γ' l l' s',ex l=ex' l'→Rep B s₀ m₀ X d' T' m' s'→jO B lb dy shs κc Fin k' i' β' γ' (fun V=>K V r hs' d' T' m' k' i' l l')→R' r s'):Goal:=by
 let SS:Post→Spec:=u.S (aL T) (ci γ i) (b6 T) (c7 (fun k=>(β k).q) k)
 have hSS:∀ ς ν τ,(∀ j,j<k→ν j=β j)→(∀ j,j<i→τ j=γ j)→u.S (aL T) (ci (B.V lb dy shs κc ς ν τ).τ i) (b6 T) (c7 (B.V lb dy shs κc ς ν τ).ρ k) ((B.V lb dy shs κc ς ν τ).ρ k)=SS (ν k).q:=fun ς ν τ h1 h2=>by
  show u.S _ (ci τ i) _ (c7 (fun k=>(ν k).q) k) (ν k).q=u.S _ (ci γ i) _ (c7 (fun k=>(β k).q) k) (ν k).q
  rw [jZ h2,km (f:=fun k=>(ν k).q) (g:=fun k=>(β k).q) fun j hj=>by show (ν j).q=_; rw [h1 j hj]]
 obtain ⟨x,hx,hLR,_⟩:=H #[] β γ (fun _ _=>rfl) (fun _ _=>rfl)
 obtain ⟨S,T₁,hs₁,d₁,LL,RR,U,hk⟩:=bO hx
 have same:=hex _ _ ((hK _ _ _ _ _ _ _ _ _ _ _ hk).same hLR)
 simp only [Sd.s.injEq,List.cons.injEq,Sd.c.injEq,and_true] at same
 obtain ⟨hcode,hpre,hmu,hLLRR⟩:=same
 have hS₀:S=SS (β k).q:=U.eq.symm.trans (hSS #[] β γ (fun _ _=>rfl) (fun _ _=>rfl))
 have hfit:gq S.sh Γ.below=true:=by
  have hf:=U.fit
  unfold mI at hf
  cases hsh:S.sh with
  | nil=>rfl
  | cons a l =>
   rw [hsh] at hf
   simp only at hf
   have hV:(B.V lb dy shs κc #[] β γ).shs=shs:=rfl
   rw [hV] at hf
   cases hs0:shs with
   | nil=>rw [hs0] at hf; cases hf
   | cons b r =>
    obtain ⟨q,hq,hqe⟩:=W.shape (by rw [hs0]; simp)
    rw [hs0] at hf hq
    have:=eX hf q hq
    rw [hbf,←hqe]
    exact this
 refine fin S hS₀ ⟨hc.trans hcode.symm,hh,hfit,hb.le U.lv,D.top,fun hdS=>?_,fun y hy=>?_,hW D.inj hpre U.nd⟩ fun ρ s' bs ts A=>?_
 ·rcases U.dy with ⟨h1,_⟩ | ⟨_,h2,_,h4,h3⟩
  ·rw [h1] at hdS; cases hdS
  ·have hdy:dy=true:=h2
   have hst:=hch _ _ _ h3 hLLRR hdy
   refine ⟨hst,fun env L he hL hm=>?_⟩
   obtain ⟨_,L',o,g1,g2,g3,_⟩:=hst env he
   rw [hL] at g1
   cases g1
   obtain ⟨c,i,k1,k2,_hmut,k4⟩:=m1 hmu _ hm
   obtain ⟨sl,k5⟩:=(D.own i c k1).2.1.get
   rw [k2,g2] at k5
   cases k5
   rcases hnf h4 hdy with hnf | hbl
   ·have:=hnf i c k4 k1
    rw [sN,this] at g3
    cases g3
   ·rw [hbl] at he
    obtain ⟨_,L',o',g1',g2',_⟩:=W.ok hdy env he
    rw [hL] at g1'
    cases g1'
    rcases (D.own i c k1).2.2.2.1 (by assumption) with hx | hx
    ·exact W.off hdy env L he hL (k2▸hx)
    ·exact absurd (Heap.lt_size g2') (Nat.not_lt.mpr (k2▸hx))
 ·obtain ⟨j,c',_,hd,h1,h2,h3⟩:=lY hpre y hy
  obtain ⟨_,q2,q3,_⟩:=D.own j c' hd
  rw [← h1,←h2]
  refine ⟨?_,q3⟩
  rcases h3 with h3 | h3
  ·exact .inl (q2.exact h3)
  ·exact q2.map (d':=S.di) (fun _=>h3) id fun _ z=>.inl z
 ·have hbs:aY (fun j=>(g6 β k bs ρ j).a) k (SS ρ).nb=bs:=by rw [← A.len]; exact sy β k bs ρ
  have hts:aY (l5 γ i ts) i (SS ρ).nt=ts:=by rw [← A.lent]; exact un γ i ts
  have hρ:∀ ν:Nat→Nu,(∀ j,j<k+(SS ρ).nb+1→ν j=g6 β k bs ρ j)→(ν k).q=ρ:=fun ν h=>by
   rw [h k (by omega)]
   unfold g6
   rw [if_neg (Nat.lt_irrefl k)]
  have H':∀ ς ν τ,(∀ j,j<k+(SS ρ).nb+1→ν j=g6 β k bs ρ j)→(∀ j,j<i+(SS ρ).nt→τ j=l5 γ i ts j)→∃ T' hs₂ d₂ LL₂ RR₂,UseE (B.V lb dy shs κc ς ν τ) d T m k i hs c bf u nf lv ch (SS ρ) T' hs₂ d₂ LL₂ RR₂∧bS (cD T u.jx ((SS ρ).po bs ts)) m bs ((SS ρ).nw bs ts)=some T'∧((SS ρ).po bs ts).length=u.jx.length ∧
   oR Fin ν τ (K (B.V lb dy shs κc ς ν τ) ((SS ρ).r bs ts) hs₂ d₂ T' (m+(SS ρ).nb) (k+(SS ρ).nb+1) (i+(SS ρ).nt) (.s [.c (SS ρ).c,.s (eH (SS ρ).pre),.s (n5 (SS ρ).mu),.s LL₂]) (.s [.c c,.s (dC T d (SS ρ).di u.ix),.s (nD T u.jx),.s RR₂])):=fun ς ν τ h1 h2=>by
   have g1:∀ j,j<k→ν j=β j:=fun j hj=>(h1 j (by omega)).trans (uZ hj)
   have g2:∀ j,j<i→τ j=γ j:=fun j hj=>(h2 j (by omega)).trans (sH hj)
   obtain ⟨y,hy,hLR,hF⟩:=H ς ν τ g1 g2
   obtain ⟨S₂,T₂,hs₂,d₂,LL₂,RR₂,U₂,q3⟩:=bO hy
   have:S₂=SS ρ:=by
    rw [← U₂.eq,hSS ς ν τ g1 g2,hρ ν h1]
   subst this
   have eb:aY (B.V lb dy shs κc ς ν τ).ν k (SS ρ).nb=bs:=by
    have hl:bs.length=(SS ρ).nb:=A.len
    rw [← hl]
    refine fu fun j a h=>?_
    show sa (ν (k+j)).a=a
    have hj:j<bs.length:=(List.getElem?_eq_some_iff.mp h).1
    rw [h1 (k+j) (by omega)]
    have e:(g6 β k bs ρ (k+j)).a=a:=by
     unfold g6
     rw [if_neg (by omega)]
     simp only [Nat.add_sub_cancel_left]
     rw [List.getD_eq_getElem?_getD,h]; rfl
    rw [e]
    exact mS (Nat.le_trans (O.big s D.top) (A.new a (List.mem_of_getElem? h)))
   have et:aY (B.V lb dy shs κc ς ν τ).τ i (SS ρ).nt=ts:=(g9 h2).trans hts
   have q2:=U₂.ins
   have q1:=U₂.pl
   rw [eb,et] at q1 q2 q3
   exact ⟨T₂,hs₂,d₂,LL₂,RR₂,U₂,q2,q1,y,q3,hLR,hF⟩
  obtain ⟨T',hs₂,d₂,LL₂,RR₂,U₂,hi,hl,y,hy,hyLR,hyF⟩:=H' #[] (g6 β k bs ρ) (l5 γ i ts) (fun _ _=>rfl) (fun _ _=>rfl)
  have same:=(hK _ _ _ _ _ _ _ _ _ _ _ hy).same hyLR
  have same':=hex _ _ same
  simp only [Sd.s.injEq,List.cons.injEq,Sd.c.injEq,and_true] at same'
  obtain ⟨hcode₂,hpre₂,hmu₂,hLLRR₂⟩:=same'
  have hdd:(d=true→d₂=true)∧((SS ρ).dy=true→d₂=true):=by
   rcases U₂.dy with ⟨a1,a2,a3,a4,a5⟩ | ⟨a1,a2,a3,a4⟩
   ·exact ⟨fun h=>a3.trans h,fun h=>by rw [a1] at h; cases h⟩
   ·exact ⟨fun _=>a3,fun _=>a3⟩
  refine go ((SS ρ).r bs ts) hs₂ d₂ T' (m+(SS ρ).nb) (k+(SS ρ).nb+1) (i+(SS ρ).nt) (g6 β k bs ρ) (l5 γ i ts) _ _ s' same (D.after A hdd.1 hdd.2 hmu₂ hl U₂.ml hi) fun ς ν τ h1 h2=>?_
  obtain ⟨T₃,hs₃,d₃,LL₃,RR₃,U₃,hi₃,_,hG⟩:=H' ς ν τ h1 h2
  rw [hi] at hi₃
  cases hi₃
  have:hs₃=hs₂∧d₃=d₂∧LL₃=LL₂∧RR₃=RR₂:=by
   rcases U₂.dy with ⟨a1,a2,a3,a4,a5⟩ | ⟨a1,a2,a3,a5,a4⟩ <;> rcases U₃.dy with ⟨b1,b2,b3,b4,b5⟩ | ⟨b1,b2,b3,b5,b4⟩
   ·exact ⟨b2.trans a2.symm,b3.trans a3.symm,b4.trans a4.symm,b5.trans a5.symm⟩
   ·rw [a1] at b1; cases b1
   ·rw [a1] at b1; cases b1
   ·rw [a4] at b4
    cases b4
    exact ⟨rfl,b3.trans a3.symm,rfl,rfl⟩
  obtain ⟨rfl,rfl,rfl,rfl⟩:=this
  exact hG
end
theorem hZ {B:Base} (O:B.Ok) {lb:List LibE} {dy d:Bool} {shs:List (List Kd)} {κc:Nat→Ct} {ς:Array (Option Value)} {s₀ s:Shared} {m₀ m k h a:Nat} {X:List Nat} {T:ST} {ν:Nat→Nu} {τ:Nat→Nat} {o:Obj} (D:Rep B s₀ m₀ X d T m s) (e:bD (B.V lb dy shs κc ς ν τ) T k h a=some (o,none)):s.heap.get? a=some o:=by
 unfold bD at e
 split at e
 ·split at e
  ·rename_i o' ho
   simp only [Option.some.injEq,Prod.mk.injEq,and_true] at e
   subst e
   exact D.top.1 _ _ ho
  ·cases e
 ·split at e
  ·split at e <;> simp at e
  ·split at e
   ·split at e <;> simp at e
   ·split at e <;> simp at e
theorem hM {B:Base} (O:B.Ok) {lb:List LibE} {dy d:Bool} {shs:List (List Kd)} {κc:Nat→Ct} {ς:Array (Option Value)} {s₀ s:Shared} {m₀ m k h a:Nat} {b:Nat × Bool} {X:List Nat} {T:ST} {ν:Nat→Nu} {τ:Nat→Nat} {o:Obj} (D:Rep B s₀ m₀ X d T m s) (e:bD (B.V lb dy shs κc ς ν τ) T k h a=some (o,some b)) :
 (b7 d b.2 o=false→s.heap.get? b.1=some o)∧∃ sl,s.heap.get? b.1=some (wS o sl):=by
 unfold bD at e
 split at e
 ·split at e <;> simp at e
 ·split at e
  ·split at e
   ·simp only [Option.some.injEq,Prod.mk.injEq] at e
    obtain ⟨rfl,rfl⟩:=e
    have:=O.mn s D.top
    exact ⟨fun _=>this _,_,this _⟩
   ·cases e
  ·split at e
   ·split at e
    ·rename_i c hc
     simp only [Option.some.injEq,Prod.mk.injEq] at e
     obtain ⟨rfl,rfl⟩:=e
     exact ⟨fun _=>D.top.2 _ _ hc,c.o.slots,D.top.2 _ _ hc⟩
    ·cases e
   ·split at e
    ·rename_i c hc
     simp only [Option.some.injEq,Prod.mk.injEq] at e
     obtain ⟨rfl,rfl⟩:=e
     exact ⟨fun h=>(D.own _ _ hc).2.1.exact h,(D.own _ _ hc).2.1.get⟩
    ·cases e
theorem f8 {B:Base} {lb:List LibE} {dy:Bool} {shs:List (List Kd)} {κc:Nat→Ct} {ς ς':Array (Option Value)} {k h a:Nat} {T:ST} {ν β:Nat→Nu} {τ γ:Nat→Nat} (h1:∀ j,j<k→ν j=β j) :
 bD (B.V lb dy shs κc ς ν τ) T k h a=bD (B.V lb dy shs κc ς' β γ) T k h a:=by
 unfold bD
 cases h with
 | zero=>rfl
 | succ j =>
  show (match Nat.ble 700 j with | true=>_ | false=>_)=(match Nat.ble 700 j with | true=>_ | false=>_)
  cases Nat.ble 700 j with
  | false=>rfl
  | true =>
   show (match Nat.blt (j - 700) k with | true=>_ | false=>_)=(match Nat.blt (j - 700) k with | true=>_ | false=>_)
   cases hb:Nat.blt (j - 700) k with
   | false=>rfl
   | true =>
    show some ((B.mn (ν (j - 700)).q.d).o,some ((B.mn (ν (j - 700)).q.d).a,false))=some ((B.mn (β (j - 700)).q.d).o,some ((B.mn (β (j - 700)).q.d).a,false))
    rw [h1 _ (Nat.le_of_ble_eq_true hb)]
theorem qw {B:Base} {s₀ s:Shared} {m₀:Nat} {X:List Nat} {d:Bool} {T:ST} {m:Nat} {head:Value} {j:Nat} {x:List Sd × List Sd} (D:Rep B s₀ m₀ X d T m s) (h:rl T head j=some x) :
 x.1.length=x.2.length∧(x.1=x.2→head=.none∨∃ T oT ts,head=.ref T∧s.heap.get? T=some oT∧oT.data=.fields ts∧ts[3]?=some .none):=by
 unfold rl at h
 split at h
 ·simp only [Option.some.injEq] at h
  subst h
  exact ⟨rfl,fun _=>.inl rfl⟩
 ·rename_i tb
  split at h
  ·rename_i c hc
   split at h
   ·cases h
   ·rename_i hf
    split at h
    ·rename_i ts hts
     split at h
     ·rename_i v hv
      split at h
      ·simp only [Option.some.injEq] at h
       subst h
       refine ⟨rfl,fun e=>.inr ?_⟩
       injection e with e
       injection e with e
       rw [mM] at hv
       exact ⟨tb,c.o,ts,rfl,e▸(D.own _ _ hc).2.1.exactF hf,hts,hv⟩
      ·cases h
     ·cases h
    ·cases h
  ·cases h
 ·cases h
structure NoteE (B:Base) (s:Shared) (bl:List (Code × Pos)) (Γ:Ctx) (T:ST) (N:NoteC):Prop where
 code:Γ.code=.func N.body N.env
 fr:N.env.frame=some N.fr
 cell:∃ c vs,T.get N.j=some c∧c.a=N.e∧c.o=N.o∧c.mu=true∧aU N.o=false∧N.o.data=.fields vs∧vs[1]?=some N.head
 len:N.L.length=N.R.length
 ok:N.L=N.R→(N.head=.none∨∃ T oT ts,N.head=.ref T∧s.heap.get? T=some oT∧oT.data=.fields ts∧ts[3]?=some .none)∧∀ p,fU B s.heap ((Γ.code,p)::Γ.below)
theorem fW {B:Base} {s₀ s:Shared} {m₀:Nat} {X:List Nat} {bl:List (Code × Pos)} {shs:List (List Kd)} {κc:Nat→Ct} {d dy:Bool} {T:ST} {m:Nat} (D:Rep B s₀ m₀ X d T m s) (W:Low B s₀ X bl shs κc dy) {Γ:Ctx} {κ:Kt} (hk:rz bl Γ.below κ) {hs:Nat} {N:NoteC} (h:da dy Γ κ T hs=some N):NoteE B s bl Γ T N:=by
 unfold da at h
 simp only [fC] at h
 split at h
 ·cases h
 ·split at h
  ·rename_i body env hcode
   split at h
   ·cases h
   ·rename_i L hL
    split at h
    ·cases h
    ·rename_i ce hce
     split at h
     ·cases h
     ·rename_i hmu
      split at h
      ·cases h
      ·rename_i hfr
       split at h
       ·rename_i vs hvs
        split at h
        ·cases h
        ·rename_i head hh
         split at h
         ·cases h
         ·rename_i hp hhp
          split at h
          ·cases h
          ·rename_i y hy
           obtain ⟨y1,y2,y3⟩:=y
           simp only [Option.some.injEq] at h
           subst h
           obtain ⟨q1,q2⟩:=qw D hhp
           rw [mM] at hh
           obtain ⟨P,Q,e1,e2,e3,e4⟩:=hQ (p:=default) D W rfl hk hy
           refine ⟨hcode,hL,⟨ce,vs,hce,rfl,rfl,hmu,hfr,hvs,hh⟩,?_,fun e=>?_⟩
           ·show y2.length=y3.length
            rw [e1,e2,List.length_append,List.length_append,e3,q1]
           ·have e:y2=y3:=e
            rw [e1,e2] at e
            obtain ⟨g1,g2⟩:=List.append_inj e e3
            refine ⟨q2 g2,fun p=>?_⟩
            have:=e4 g1
            intro env' he
            refine this env' ?_
            rw [envsOf_cons] at he ⊢
            rw [← hcode]
            exact he
       ·cases h
  ·cases h
theorem uI {h:Heap} {a:Nat} (o:Obj) (ha:a<h.objs.size):(h.push o).get? a=h.get? a:=by
 obtain ⟨objs,l⟩:=h
 show (match (objs.push o)[a]? with | some ⟨_,_,.freed,_⟩=>none | o=>o)=(match objs[a]? with | some ⟨_,_,.freed,_⟩=>none | o=>o)
 rw [Array.getElem?_push_lt ha]
 rw [Array.getElem?_eq_getElem ha]
theorem fV {B:Base} {h:Heap}:∀ {l:List Env},(∀ env,env∈l→nk B h env)→h.FunFrames {} l
 | [],_=>trivial
 | env::l,H=>by
  obtain ⟨h1,L,o,h2,h3,_,h5,_⟩:=H env (.head _)
  exact ⟨h1,⟨L,o,h2,rfl,h3,h5⟩,fV fun e he=>H e (.tail _ he)⟩
theorem ii {B:Base} {h:Heap} {l:List Env} (H:∀ env,env∈l→nk B h env):∀ L,L∈l.filterMap (·.frame)→B.Free L∧∃ o,h.get? L=some o∧aU o=true:=by
 intro L hL
 obtain ⟨env,he,hf⟩:=List.mem_filterMap.mp hL
 obtain ⟨_,L',o,h2,h3,h4,_,h6⟩:=H env he
 rw [hf] at h2
 cases h2
 exact ⟨h6,o,h3,h4⟩
theorem ma {B:Base} {s₀ s:Shared} {m₀:Nat} {X:List Nat} {bl:List (Code × Pos)} {d:Bool} {T:ST} {m:Nat} (D:Rep B s₀ m₀ X d T m s) {Γ:Ctx} {N:NoteC} (E:NoteE B s bl Γ T N) (e:N.L=N.R) (p:Pos)
 {Q:Unit→Pos→Shared→Prop} {F:Value→Pos→Shared→Prop}
 (h:∀ hF x p',(∀ o1 o2,o1=bQ 1 (.ref s.heap.objs.size) N.o→o2=jm N.head N.fr (rawInt N.fr) x→(((T.set N.j o1).ins m ⟨true,s.heap.objs.size,o2⟩).get m).isSome=true→Rep B s₀ m₀ X true ((T.set N.j o1).ins m ⟨true,s.heap.objs.size,o2⟩) (m+1) { s with heap:=hF })→Q () p' { s with heap:=hF }) :
 Sem.wp B.M Γ (noteFrame (.ref N.e) N.env) Q F p s:=by
 obtain ⟨c,vs,hc,hce,hco,hmu,hf,hd,h1⟩:=E.cell
 obtain ⟨hh,hst⟩:=E.ok e
 have hst:=hst p
 have henv:envsOf ((Γ.code,p)::Γ.below)=N.env::envsOf Γ.below:=by rw [envsOf_cons,E.code]; rfl
 unfold fU at hst
 rw [henv] at hst
 have he:s.heap.get? N.e=some N.o:=by
  rw [← hce,←hco]
  exact (D.own _ _ hc).2.1.exactF (by rw [hco]; exact hf)
 let A:Around:={ handled:=Γ.handled,depth:=frameCount Γ.below+Γ.code.weight,frames:=some (N.env::envsOf Γ.below),guards:=none,units:=Γ.units }
 have hΓ:Γ.In A:=⟨rfl,Nat.le_refl _,(fun l hl=>by cases hl; rw [E.code]; rfl),(by intro _ q; cases q),Nat.le_refl _⟩
 refine Sem.wp_mono _ _ _ (fun _ p' s' y=>y p') (fun _ _ _ y=>y) p s (lq (M:=B.M) (A:=A) (E:=fun e s=>False) (Q:=fun u s'=>∀ p',Q u p' s') rfl (fV hst) E.fr he hd h1 hh (fun h₁ x hsl p'=>?_) Γ p hΓ) |> fun z=>?_
 ·exact Sem.wp_mono _ _ _ (fun _ _ _ y=>y) (fun _ _ _ y=>y.elim) p s z
 ·have hz:=hsl.1
  have hene:N.e∉(N.env::envsOf Γ.below).filterMap (·.frame):=fun hm=>by
   obtain ⟨_,o,ho,hfo⟩:=ii hst _ hm
   rw [he] at ho
   cases ho
   rw [hf] at hfo; cases hfo
  have he₁:h₁.get? N.e=some N.o:=(hsl.2.1 _ hene).trans he
  have hlt:=Heap.lt_size he₁
  have hd3:(bQ 1 (.ref h₁.objs.size) N.o).data=.fields (vs.setIfInBounds 1 (.ref h₁.objs.size)):=Obj.data_mapFields hd _
  refine h _ x p' fun o1 o2 ho1 ho2 hg=>?_
  subst ho1 ho2
  have hcon:=D.note (S:=(N.env::envsOf Γ.below).filterMap (·.frame)) (o1:=bQ 1 (.ref s.heap.objs.size) N.o) (o2:=jm N.head N.fr (rawInt N.fr) x) (h₁:=h₁) (hF:=(h₁.push (jm N.head N.fr (rawInt N.fr) x)).update N.e (bQ 1 (.ref h₁.objs.size))) hc hmu hsl (ii hst)
  refine hcon ?_ ?_ ?_ ?_ hg
  ·rw [Heap.size_after_update,Heap.size_push]
  ·rw [hce,←hz]
   exact Heap.get?_update_self _ (Heap.get?_push_of_some _ he₁) (Obj.isFreed_of_fields hd3)
  ·rw [Heap.get?_update_other _ _ (show N.e≠h₁.objs.size from Nat.ne_of_lt hlt)]
   exact Heap.get?_push_size _ rfl
  ·intro b hb hlt'
   rw [hce] at hb
   rw [Heap.get?_update_other _ _ (Ne.symm hb)]
   cases hq:h₁.get? b with
   | some o=>exact Heap.get?_push_of_some _ hq
   | none =>
    rw [← hq]
    exact uI _ hlt'
theorem lU:PySem.leaving=PySem.W.Fast.tw9442747609961115081:=PySem.W.Fast.te9442747609961115081
theorem ua:PySem.noteFrame=PySem.W.Fast.tw17872113653443481271:=PySem.W.Fast.te17872113653443481271
section
variable {B:Base} (O:B.Ok) {lb:List LibE} {dy:Bool} {shs:List (List Kd)} {κc:Nat→Ct} {s₀:Shared} {m₀:Nat} {X:List Nat} {bl:List (Code × Pos)} (W:Low B s₀ X bl shs κc dy) {Fin:fL} {R:Result→Shared→Prop}
 (hR:∀ ν τ x m s,Fin ν τ x→Rep B s₀ m₀ X x.d x.T m s→R x.r s)
theorem Rep.heap {d:Bool} {T:ST} {m:Nat} {s:Shared} {h h':Heap} (D:Rep B s₀ m₀ X d T m { s with heap:=h }) (hz:h'.objs.size=h.objs.size) (k:∀ a,h'.get? a=h.get? a):Rep B s₀ m₀ X d T m { s with heap:=h' }:=by
 refine ⟨fun i c hc=>?_,D.inj,D.top.mono fun a o z=>(k a).trans z,fun a o z q=>(D.keep a o z q).mono fun o' y=>(k a).trans y,?_,D.gens,D.os,D.low⟩
 ·obtain ⟨h1,h2,h3,h4,h5⟩:=D.own i c hc
  exact ⟨h1,h2.mono fun o' y=>(k c.a).trans y,h3,h4,h5⟩
 ·show _≤h'.objs.size
  rw [hz]; exact D.size
theorem ln (o:Obj) (sl:Array (Option Value)):(wS o sl).isFreed=o.isFreed:=by
 obtain ⟨c,d,dt,s⟩:=o
 cases dt <;> rfl
theorem dV (c c':Cell):∀ (T:ST) (j:Nat),((T.ins j c).get j).isSome=true→((T.ins j c').get j).isSome=true
 | .nil,j,h=>by
  have e:(ST.nil.ins j c)=.node c .nil .nil:=rfl
  have e':(ST.nil.ins j c')=.node c' .nil .nil:=rfl
  rw [e,ST.get_node] at h
  rw [e',ST.get_node]
  by_cases q:j=0
  ·simp [q]
  ·simp [q,ST.get] at h
 | .node v l r,j,h=>by
  rw [ST.ins_node] at h ⊢
  by_cases q:j=0
  ·subst q; rw [if_pos rfl,ST.get_node]; rfl
  ·rw [if_neg q] at h ⊢
   by_cases q2:j % 2=1
   ·rw [if_pos q2,ST.get_node] at h ⊢
    simp only [q,q2,if_true,if_false] at h ⊢
    exact dV c c' l _ h
   ·rw [if_neg q2,ST.get_node] at h ⊢
    simp only [q,q2,if_false] at h ⊢
    exact dV c c' r _ h
theorem p0 {s:Shared} {d:Bool} {T:ST} {m:Nat} (D:Rep B s₀ m₀ X d T m s) {Γ:Ctx} {N:NoteC} (E:NoteE B s bl Γ T N) (e:N.L=N.R) (p:Pos)
 (hroom:∀ o2,(((T.set N.j (bQ 1 (.ref s.heap.objs.size) N.o)).ins m ⟨true,s.heap.objs.size,o2⟩).get m).isSome=true)
 {Q:Unit→Pos→Shared→Prop} {F:Value→Pos→Shared→Prop}
 (h:∀ hF x p',Rep B s₀ m₀ X true ((T.set N.j (bQ 1 (.ref s.heap.objs.size) N.o)).ins m ⟨true,s.heap.objs.size,jm N.head N.fr .none x⟩) (m+1) { s with heap:=hF }→Q () p' { s with heap:=hF }) :
 Sem.wp B.M Γ (leaving N.env (.ref N.e)) Q F p s:=by
 unfold leaving
 rw [Sem.wp_bind']
 obtain ⟨c,vs,hc,hce,hco,hmu,hf,hd,h1⟩:=E.cell
 refine ma D E e p fun hF x p' hrep=>?_
 ·have hg:=hroom (jm N.head N.fr (rawInt N.fr) x)
  have D1:=hrep _ _ rfl rfl hg
  have gm:((T.set N.j (bQ 1 (.ref s.heap.objs.size) N.o)).ins m ⟨true,s.heap.objs.size,jm N.head N.fr (rawInt N.fr) x⟩).get m=some ⟨true,s.heap.objs.size,jm N.head N.fr (rawInt N.fr) x⟩:=by
   rw [ST.get_ins _ _ _ hg,if_pos rfl]
  have hjm:N.j<m:=(D.own _ _ hc).1
  have gj:((T.set N.j (bQ 1 (.ref s.heap.objs.size) N.o)).ins m ⟨true,s.heap.objs.size,jm N.head N.fr (rawInt N.fr) x⟩).get N.j=some ⟨true,N.e,bQ 1 (.ref s.heap.objs.size) N.o⟩:=by
   rw [ST.get_ins _ _ _ hg,if_neg (by omega),ST.get_set,if_pos rfl,hc,Option.map_some,hce,hmu]
  have hd3:(bQ 1 (.ref s.heap.objs.size) N.o).data=.fields (vs.setIfInBounds 1 (.ref s.heap.objs.size)):=Obj.data_mapFields hd _
  have hfr1:aU (bQ 1 (.ref s.heap.objs.size) N.o)=false:=by
   have:aU (bQ 1 (.ref s.heap.objs.size) N.o)=aU N.o:=by
    show aU (Obj.mapFields _ N.o)=_
    unfold aU
    rw [Obj.cls_mapFields]
   rw [this]; exact hf
  have he:hF.get? N.e=some (bQ 1 (.ref s.heap.objs.size) N.o):=(D1.own _ _ gj).2.1.exactF hfr1
  have hT : hF.get? s.heap.objs.size = some (jm N.head N.fr (rawInt N.fr) x) := (D1.own _ _ gm).2.1.exactF (by unfold aU jm; exact (by decide +kernel : Nat.beq (PySem.W.S.codeS "traceback") F5 = false))
  have hh1:1<vs.size:=(Array.getElem?_eq_some_iff.mp h1).1
  have hv1:(vs.setIfInBounds 1 (.ref s.heap.objs.size))[1]?=some (.ref s.heap.objs.size):=by simp [hh1]
  let A:Around:={ handled:=Γ.handled,depth:=frameCount Γ.below+Γ.code.weight,frames:=none,guards:=none,units:=Γ.units }
  have hΓ:Γ.In A:=⟨rfl,Nat.le_refl _,(by intro _ q; cases q),(by intro _ q; cases q),Nat.le_refl _⟩
  refine Sem.wp_mono _ _ _ (fun _ p' s' y=>y p') (fun _ _ _ y=>y.elim) p' _ (iF (M:=B.M) (A:=A) (E:=fun e s=>False) (Q:=fun u s'=>∀ p',Q u p' s') he hd3 hv1 hT rfl (ts:=#[N.head,Value.ref N.fr,Value.none,rawInt N.fr,Value.none,x 0,x 1,x 2,x 3,x 4,x 5]) (show 3<11 by decide) (fun p''=>?_) Γ p' hΓ)
  have hg':=hroom (jm N.head N.fr .none x)
  refine h _ x p'' ?_
  have D2:=D1.update (o':=jm N.head N.fr .none x) (f:=bQ 3 .none) gm rfl (fun y hy=>by
   have hy:hF.get? s.heap.objs.size=some y:=hy
   rw [hT] at hy
   cases hy
   exact ⟨rfl,.inl rfl⟩)
  have same:∀ i,(((T.set N.j (bQ 1 (.ref s.heap.objs.size) N.o)).ins m ⟨true,s.heap.objs.size,jm N.head N.fr (rawInt N.fr) x⟩).set m (jm N.head N.fr .none x)).get i=((T.set N.j (bQ 1 (.ref s.heap.objs.size) N.o)).ins m ⟨true,s.heap.objs.size,jm N.head N.fr .none x⟩).get i:=fun i=>by
   rw [ST.get_set,ST.get_ins _ _ _ hg',gm]
   by_cases q:i=m
   ·rw [if_pos q,if_pos q]; rfl
   ·rw [if_neg q,if_neg q,ST.get_ins _ _ _ hg,if_neg q]
  exact ⟨fun i c hc=>D2.own i c ((same i).trans hc),fun i j c d h1 h2=>D2.inj i j c d ((same i).trans h1) ((same j).trans h2),D2.top,D2.keep,D2.size,D2.gens,D2.os,D2.low⟩
variable (hlb:∀ e:LibE,e∈lb→∀ c cs ms,(e.S c cs ms).Holds B)
theorem fS {us:List Use} {u:Use} (hlb:∀ e:LibE,e∈lb→∀ c cs ms,(e.S c cs ms).Holds B) (hus:∀ u:Use,u∈us→∀ A tk O ρs,bE B u.tl (u.S A tk O ρs)) {c:Code} (htl:u.tl=none)
 (h:u∈us∨∃ e cs ms,e∈lb∧∀ A tk O ρs ρ,u.S A tk O ρs ρ=e.S c cs ms) (A:Nat→Nat) (tk:Nat→Nat) (O:Nat→Obj) (ρs:Nat→Post):Spec.HoldsE B (u.S A tk O ρs):=by
 rcases h with h | ⟨e,cs,ms,he,h⟩
 ·have:=hus u h A tk O ρs
  rw [htl] at this
  exact this
 ·have:u.S A tk O ρs=fun _=>e.S c cs ms:=funext (h A tk O ρs)
  rw [this]
  exact (hlb e he c cs ms).e
include O W hR hlb in
theorem im:∀ n,m8 B lb dy shs κc s₀ m₀ X bl Fin R n
 | 0=>fun hs us Γ κ bd t p d T m k i L β γ s _ _ _ _ H=>(H #[] β γ (fun _ _=>rfl) (fun _ _=>rfl)).none.elim
 | n+1=>by
  intro hs us Γ κ bd t p d T m k i L β γ s hus hb hk D H
  have IH:=im n
  have H:jO B lb dy shs κc Fin k i β γ (fun V=>aN V (l7 V n) hs us Γ κ bd t p d T m k i (L V) (L V)):=H
  have H0:=H #[] β γ (fun _ _=>rfl) (fun _ _=>rfl)
  cases t with
  | pure fin =>
   cases fin with
   | done f=>exact ⟨D.top,c5 hR IH hus hk D H⟩
   | again c =>
    refine ⟨D.top,?_⟩
    cases hq:c.quiet with
    | false=>simp only [aN,hq] at H0; exact H0.none.elim
    | true =>
     refine ⟨hq,?_⟩
     simp only [aN,hq] at H H0
     have hb':NB bd (Γ.goto c):=hb
     cases h3:Nat.beq (hs % hB) 3 with
     | true =>
      simp only [h3] at H H0
      cases hx:fc T c (hs / hB % hB) with
      | none=>simp only [hx] at H0; exact H0.none.elim
      | some x =>
       simp only [hx] at H H0
       obtain ⟨ce,hce,hic,hcs,hca⟩:=fP hx
       have e:x.2.1=x.2.2:=by
        obtain ⟨y,hy,hLR,_⟩:=H0
        have:=(aR _ _ _ _ _ _ _ _ _ _ _ _ _ _ _ _ _ hy).same hLR
        injection this
       refine ju (Γ:=Γ.goto c) (x:=(x.1,x.2.1)) hcs (o:=ce.o) (by rw [e,←hca]; exact (D.own _ _ hce).2.1.exactF (mv hic)) hic fun p'=>?_
       refine bW (IH (hs / hB / hB) us ((Γ.goto c).goto x.1) κ bd (kn x.1) p' d T m (k+1) i (fun V=>.n x.2.1::L V) (nj β k ⟨0,fun _=>.none,p',Post.zero⟩) γ s hus hb' hk D fun ς ν τ h1 h2=>?_)
       have hk':ν k=⟨0,fun _=>.none,p',Post.zero⟩:=(h1 k (by omega)).trans (bt ..)
       have H1:=H ς ν τ (fun j hj=>(h1 j (by omega)).trans (cn hj)) h2
       simp only [Base.V,hk',←e] at H1 ⊢
       exact H1
     | false =>
     simp only [h3] at H H0
     match hh0:hs % hB with
     | 0 =>
      simp only [hh0] at H
      exact bW (IH (hs / hB) us (Γ.goto c) κ bd (kn c) p d T m k i L β γ s hus hb' hk D H)
     | 1 =>
      simp only [hh0] at H H0
      cases he:bZ (B.V lb dy shs κc #[] β γ) c with
      | none=>simp only [he] at H0; exact H0.none.elim
      | some t' =>
       have he':∀ ς ν τ,bZ (B.V lb dy shs κc ς ν τ) c=some t':=fun ς ν τ=>he
       exact eU O (Γ:=Γ.goto c) (V:=B.V lb dy shs κc #[] β γ) rfl he D.top (by have:=hb.1; show frameCount Γ.below+5<1000; omega)
        (IH (hs / hB) us (Γ.goto c) κ bd t' p d T m k i L β γ s hus hb' hk D fun ς ν τ h1 h2=>by have:=H ς ν τ h1 h2; simp only [he'] at this; exact this)
     | h+2 =>
      simp only [hh0] at H H0
      cases hh:Γ.handled with
      | some e=>simp only [hh] at H0; exact H0.none.elim
      | none =>
       simp only [hh] at H H0
       have hV:∀ ς ν τ,(B.V lb dy shs κc ς ν τ).lb=lb:=fun _ _ _=>rfl
       rcases cN lb T c h.succ.succ (hs / hB) us with hp | ⟨hs₁,u,us₁,hp,htl,hu,hsub⟩
       ·simp only [hV,hp] at H0; exact H0.none.elim
       ·have hU:=fS hlb hus htl hu
        refine eM O (L:=L) (lv:=bd) (u:=u) (Γ:=Γ.goto c) (ex:=id) (ex':=id) (R':=bk B R κ) (ch:=fun hs=>cL T κ hs [] []) (K:=fun V r hs' d' T' m' k' i' l l'=>fo (l7 V n) r hs' us₁ κ d' T' m' k' i' (l::L V) (l'::L V)) (fun V r hs' d' T' m' k' i' l l' x hx=>bp (aR V n) hx) (fun _ _ h=>h) W hk.stack (fun h _=>.inl fun i c hi=>fD h i hi c) (fun hs' LL RR hc e hdy=>?_)
         rfl hh hb' D (fun ς ν τ h1 h2=>by have:=H ς ν τ h1 h2; simp only [hV,hp] at this; exact this) (fun S₀ hS₀ ok go=>hU _ _ _ _ (Γ.goto c) p s (bk B R κ) _ (hS₀▸ok) go) fun r hs' d' T' m' k' i' β' γ' l l' s' e D' H'=>?_
        ·obtain ⟨P,Q,e1,e2,_,e4⟩:=dF D W hdy hk hc
         rw [List.append_nil] at e1 e2
         exact e4 (e1▸e2▸e)
        ·have e:l=l':=e
         subst e
         exact c5 (L:=fun V=>l::L V) hR IH (fun u hu=>hus u (hsub u hu)) hk D' H'
  | raise e=>exact c5 hR IH hus hk D H
  | rule tag f=>exact IH hs us Γ κ bd (f ()) p d T m k i L β γ s hus hb hk D H
  | «at» q f =>
   simp only [aN] at H H0
   cases us with
   | nil=>exact IH hs [] Γ κ bd (f ()) q d T m k i L β γ s hus hb hk D H
   | cons u us =>
    cases htl:u.tl with
    | none =>
     simp only [htl] at H
     exact IH hs (u::us) Γ κ bd (f ()) q d T m k i L β γ s hus hb hk D H
    | some lj =>
     simp only [htl] at H H0
     cases hl:Nat.beq q.line lj.1 with
     | false =>
      simp only [hl] at H
      exact IH hs (u::us) Γ κ bd (f ()) q d T m k i L β γ s hus hb hk D H
     | true =>
      simp only [hl] at H H0
      cases hh:Γ.handled with
      | some e=>simp only [hh] at H0; exact H0.none.elim
      | none =>
       simp only [hh] at H H0
       have hU:=hus u (.head _)
       rw [htl] at hU
       have et:dA Γ.code lj.2=Sem.at q f:=by
        obtain ⟨x,hx,hLR,_⟩:=H0
        obtain ⟨S,T',hs',d',LL,RR,_,h⟩:=bO hx
        have:=(bp (aR _ n) h).same hLR
        simp only [Sd.s.injEq,List.cons.injEq,Sd.t.injEq,and_true] at this
        exact this.2
       show Sem.wp B.M Γ (Sem.at q f) _ _ p s
       rw [← et]
       refine eM O (L:=L) (lv:=bd) (u:=u) (Γ:=Γ) (ex:=fun l=>.s [l,.t (dA Γ.code lj.2)]) (ex':=fun l=>.s [l,.t (.at q f)]) (R':=bk B R κ) (ch:=fun hs=>cL T κ hs [] []) (K:=fun V r hs' d' T' m' k' i' l l'=>fo (l7 V n) r hs' us κ d' T' m' k' i' (.s [l,.t (dA Γ.code lj.2)]::L V) (.s [l',.t (.at q f)]::L V)) (fun V r hs' d' T' m' k' i' l l' x hx=>bp (aR V n) hx) (fun a b h=>by simp only [Sd.s.injEq,List.cons.injEq,and_true] at h; exact h.1) W hk.stack (fun h _=>by cases κ with | base=>exact .inr hk | ret=>exact .inl fun i c hi=>fD h i hi c) (fun hs' LL RR hc e hdy=>?_)
        rfl hh hb D H (fun S₀ hS₀ ok go=>hU _ _ _ _ Γ p s (bk B R κ) _ (hS₀▸ok) go) fun r hs' d' T' m' k' i' β' γ' l l' s' e D' H'=>?_
       ·obtain ⟨P,Q,e1,e2,_,e4⟩:=dF D W hdy hk hc
        rw [List.append_nil] at e1 e2
        exact e4 (e1▸e2▸e)
       ·have e:l=l':=by
         simp only [Sd.s.injEq,List.cons.injEq,and_true] at e
         exact e.1
        subst e
        refine c5 (hs:=hs') (r:=r) (k:=k') (i:=i') (β:=β') (γ:=γ') (L:=fun V=>.s [l,.t (dA Γ.code lj.2)]::L V) hR IH (fun u hu=>hus u (.tail _ hu)) hk D' fun ς ν τ h1 h2=>?_
        have:=H' ς ν τ h1 h2
        simp only [← et] at this
        exact this
  | point l f=>exact IH hs us Γ κ bd (f ()) p d T m k i L β γ s hus hb hk D H
  | ask f =>
   simp only [aN] at H H0
   match hh0:hs % hB with
   | 0 =>
    simp only [hh0] at H
    exact IH (hs / hB) us Γ κ bd (f ⟨B.prog,B.w.params⟩) p d T m k i L β γ s hus hb hk D H
   | 1 =>
    simp only [hh0] at H H0
    obtain ⟨x,hx,hLR,_⟩:=H0
    have e:=(aR _ _ _ _ _ _ _ _ _ _ _ _ _ _ _ _ _ hx).same hLR
    injection e with e
    have e:f ⟨B.prog,wF B.w nS true⟩=f ⟨B.prog,wF B.w nS false⟩:=e
    have q:=iH B.w qm
    rw [vI] at q
    have z:f ⟨B.prog,B.w.params⟩=f ⟨B.prog,wF B.w nS true⟩:=by
     cases hb:B.w.params.followText qm with
     | true=>rw [hb] at q; rw [q]
     | false=>rw [hb] at q; rw [e,q]
    show Sem.wp B.M Γ (f ⟨B.prog,B.w.params⟩) _ _ p s
    rw [z]
    exact IH (hs / hB) us Γ κ bd (f ⟨B.prog,wF B.w nS true⟩) p d T m k i (fun V=>.t (f ⟨B.prog,wF B.w nS true⟩)::L V) β γ s hus hb hk D fun ς ν τ h1 h2=>by
     have:=H ς ν τ h1 h2
     simp only [Base.V] at this
     rw [← e] at this
     exact this
   | h+2 =>
    simp only [hh0] at H
    have q:=iH B.w sS
    rw [E6] at q
    show Sem.wp B.M Γ (f ⟨B.prog,B.w.params⟩) _ _ p s
    exact IH (hs / hB) us Γ κ bd (f ⟨B.prog,B.w.params⟩) p d T m k i L β γ s hus hb hk D fun ς ν τ h1 h2=>by
     have:=H ς ν τ h1 h2
     simp only [Base.V,q] at this
     exact this
  | load a q f =>
   simp only [aN] at H H0
   cases hm:Nat.ble 1022 (hs % hB) with
   | true =>
    simp only [hm] at H H0
    have noteV:∀ ς ν τ,da (B.V lb dy shs κc ς ν τ).dy Γ κ T (hs / hB)=da dy Γ κ T (hs / hB):=fun _ _ _=>rfl
    cases h1023:Nat.beq (hs % hB) 1023 with
    | true =>
     simp only [h1023,noteV,NoteC.run_eq] at H H0
     cases hN:da dy Γ κ T (hs / hB) with
     | none=>simp only [hN] at H0; exact H0.none.elim
     | some N =>
      simp only [hN] at H0
      have E:=fW D W hk hN
      have e:e7 N.env N.e=Sem.load a q f∧N.L=N.R:=by
       split at H0
       ·exact H0.none.elim
       ·obtain ⟨x,hx,hLR,_⟩:=H0
        have:=(bp (aR _ _) hx).same hLR
        simp only [Sd.s.injEq,List.cons.injEq,Sd.t.injEq,and_true] at this
        exact this
      have hsa:=mS (O.big s D.top)
      have hroom:∀ o2,(((T.set N.j (bQ 1 (.ref s.heap.objs.size) N.o)).ins m ⟨true,s.heap.objs.size,o2⟩).get m).isSome=true:=fun o2=>by
       have H1:=H #[] (nj β k ⟨s.heap.objs.size,fun _=>.none,default,Post.zero⟩) γ (fun j hj=>cn hj) (fun _ _=>rfl)
       simp only [noteV,hN] at H1
       simp only [bK,Base.V,bt,hsa] at H1
       split at H1
       ·exact H1.none.elim
       ·rename_i c hc
        exact dV _ _ _ _ (by rw [hc]; rfl)
      rw [← e.1]
      show Sem.wp B.M Γ (e7 N.env N.e) _ _ p s
      unfold e7
      rw [← PySem.W.R.bindR_eq,←lU,Sem.wp_bind,Sem.wp_bind]
      refine p0 D E e.2 p hroom fun hF x p' D'=>?_
      have D':Rep B s₀ m₀ X true (bK (B.V lb dy shs κc #[] (nj β k ⟨s.heap.objs.size,x,p',Post.zero⟩) γ) T m k N .none) (m+1) { s with heap:=hF }:=by
       simp only [bK,Base.V,bt,hsa]
       exact D'
      show bk B R κ (.error (.ref N.e)) _
      refine c5 (hs:=N.hs) (β:=nj β k ⟨s.heap.objs.size,x,p',Post.zero⟩) (L:=fun V=>.s [.t (e7 N.env N.e),.s N.L]::L V) (k:=k+1) (i:=i) (γ:=γ) hR IH hus hk D' fun ς ν τ h1 h2=>?_
      have hk':ν k=⟨s.heap.objs.size,x,p',Post.zero⟩:=(h1 k (by omega)).trans (bt ..)
      have H1:=H ς ν τ (fun j hj=>(h1 j (by omega)).trans (cn hj)) h2
      simp only [noteV,hN] at H1
      split at H1
      ·exact H1.none.elim
      ·simp only [bK,Base.V,hk',bt,hsa,←e.1,←e.2] at H1 ⊢
       exact H1
    | false =>
     simp only [h1023,noteV,NoteC.run_eq] at H H0
     cases hN:da dy Γ κ T (hs / hB) with
     | none=>simp only [hN] at H0; exact H0.none.elim
     | some N =>
      simp only [hN] at H0
      have E:=fW D W hk hN
      cases hx:pL (ig N.body (N.hs % hB)) with
      | none =>
       simp only [hx] at H0
       split at H0
       ·exact H0.none.elim
       ·exact H0.none.elim
      | some x =>
      simp only [hx] at H0
      have e:ed N.env N.e x.1 x.2=Sem.load a q f∧N.L=N.R:=by
       split at H0
       ·exact H0.none.elim
       ·obtain ⟨x,hx,hLR,_⟩:=H0
        have:=(aR _ _ _ _ _ _ _ _ _ _ _ _ _ _ _ _ _ hx).same hLR
        simp only [Sd.s.injEq,List.cons.injEq,Sd.t.injEq,and_true] at this
        exact this
      have hsa:=mS (O.big s D.top)
      have hroom:∀ o2,(((T.set N.j (bQ 1 (.ref s.heap.objs.size) N.o)).ins m ⟨true,s.heap.objs.size,o2⟩).get m).isSome=true:=fun o2=>by
       have H1:=H #[] (nj β k ⟨s.heap.objs.size,fun _=>.none,default,Post.zero⟩) γ (fun j hj=>cn hj) (fun _ _=>rfl)
       simp only [noteV,hN] at H1
       simp only [bK,Base.V,bt,hsa] at H1
       split at H1
       ·exact H1.none.elim
       ·rename_i c hc
        exact dV _ _ _ _ (by rw [hc]; rfl)
      rw [← e.1]
      show Sem.wp B.M Γ (ed N.env N.e x.1 x.2) _ _ p s
      unfold ed
      rw [← PySem.W.R.bindR_eq,←PySem.W.R.onRaiseR_eq,←ua,Sem.wp_bind,Sem.wp_onRaise,Sem.wp_bind,Sem.wp_bind]
      refine ma D E e.2 p fun hF y p' D'=>?_
      have D':Rep B s₀ m₀ X true (bK (B.V lb dy shs κc #[] (nj β k ⟨s.heap.objs.size,y,p',Post.zero⟩) γ) T m k N (rawInt N.fr)) (m+1) { s with heap:=hF }:=by
       simp only [bK,Base.V,bt,hsa]
       exact D' _ _ rfl rfl (hroom _)
      have G:=IH (N.hs / hB) us Γ κ bd (jr N.env N.e x.1 x.2) p' true _ (m+1) (k+1) i (fun V=>.s [.t (ed N.env N.e x.1 x.2),.s N.L]::L V) (nj β k ⟨s.heap.objs.size,y,p',Post.zero⟩) γ _ hus hb hk D' fun ς ν τ h1 h2=>by
       have hk':ν k=⟨s.heap.objs.size,y,p',Post.zero⟩:=(h1 k (by omega)).trans (bt ..)
       have H1:=H ς ν τ (fun j hj=>(h1 j (by omega)).trans (cn hj)) h2
       simp only [noteV,hN,hx] at H1
       split at H1
       ·exact H1.none.elim
       ·simp only [bK,Base.V,hk',bt,hsa,←e.1,←e.2] at H1 ⊢
        exact H1
      have G:Sem.wp B.M Γ (jr N.env N.e x.1 x.2) _ _ p' _:=G
      unfold jr at G
      rw [← PySem.W.R.bindR_eq,←PySem.W.R.onRaiseR_eq,Sem.wp_bind,Sem.wp_onRaise,Sem.wp_bind] at G
      exact G
   | false =>
   simp only [hm] at H H0
   cases e:bD (B.V lb dy shs κc #[] β γ) T k (hs % hB) a with
   | none=>simp only [e] at H0; exact H0.none.elim
   | some x =>
    have e':∀ ς ν τ,(∀ j,j<k→ν j=β j)→bD (B.V lb dy shs κc ς ν τ) T k (hs % hB) a=some x:=fun _ _ _ h1=>(f8 h1).trans e
    obtain ⟨o,ob⟩:=x
    cases ob with
    | none =>
     refine ⟨o,hZ O D e,?_⟩
     exact IH (hs / hB) us Γ κ bd (f o) p d T m k i L β γ s hus hb hk D fun ς ν τ h1 h2=>by have:=H ς ν τ h1 h2; simp only [e' ς ν τ h1] at this; exact this
    | some b =>
     obtain ⟨l1,sl,l2⟩:=hM O D e
     cases hdt:b7 d b.2 o with
     | false =>
      simp only [e,hdt] at H0
      obtain ⟨x,hx,hLR,_⟩:=H0
      have:=(aR _ _ _ _ _ _ _ _ _ _ _ _ _ _ _ _ _ hx).same hLR
      injection this with ha
      subst ha
      exact ⟨o,l1 hdt,IH (hs / hB) us Γ κ bd (f o) p d T m k i (fun V=>.n b.1::L V) β γ s hus hb hk D fun ς ν τ h1 h2=>by have:=H ς ν τ h1 h2; simp only [e' ς ν τ h1,hdt] at this; exact this⟩
     | true =>
      have H1:=H sl β γ (fun _ _=>rfl) (fun _ _=>rfl)
      simp only [e' sl β γ (fun _ _=>rfl),hdt] at H1
      obtain ⟨x,hx,hLR,_⟩:=H1
      have:=(aR _ _ _ _ _ _ _ _ _ _ _ _ _ _ _ _ _ hx).same hLR
      simp only [Sd.s.injEq,List.cons.injEq,Sd.t.injEq,Sd.n.injEq,and_true] at this
      obtain ⟨ha,hf⟩:=this
      refine ⟨wS o sl,ha▸l2,?_⟩
      have hf:f (wS o sl)=f o:=hf
      rw [hf]
      refine IH (hs / hB) us Γ κ bd (f o) p d T m k i (fun V=>.s [.n b.1,.t (f o)]::L V) β γ s hus hb hk D fun ς ν τ h1 h2=>?_
      have H1:=H ς ν τ h1 h2
      simp only [e' ς ν τ h1,hdt] at H1
      obtain ⟨x,hx,hLR,_⟩:=id H1
      have:=(aR _ _ _ _ _ _ _ _ _ _ _ _ _ _ _ _ _ hx).same hLR
      rw [this] at H1
      exact H1
  | loadIfAlive a f =>
   simp only [aN] at H H0
   cases e:bD (B.V lb dy shs κc #[] β γ) T k (hs % hB) a with
   | none=>simp only [e] at H0; exact H0.none.elim
   | some x =>
    have e':∀ ς ν τ,(∀ j,j<k→ν j=β j)→bD (B.V lb dy shs κc ς ν τ) T k (hs % hB) a=some x:=fun _ _ _ h1=>(f8 h1).trans e
    obtain ⟨o,ob⟩:=x
    cases ob with
    | none =>
     show Sem.wp B.M Γ (f (s.heap.get? a)) _ _ p s
     rw [hZ O D e]
     exact IH (hs / hB) us Γ κ bd (f (some o)) p d T m k i L β γ s hus hb hk D fun ς ν τ h1 h2=>by have:=H ς ν τ h1 h2; simp only [e' ς ν τ h1] at this; exact this
    | some b =>
     obtain ⟨l1,sl,l2⟩:=hM O D e
     cases hdt:b7 d b.2 o with
     | false =>
      simp only [e,hdt] at H0
      obtain ⟨x,hx,hLR,_⟩:=H0
      have:=(aR _ _ _ _ _ _ _ _ _ _ _ _ _ _ _ _ _ hx).same hLR
      injection this with ha
      subst ha
      show Sem.wp B.M Γ (f (s.heap.get? _)) _ _ p s
      rw [l1 hdt]
      exact IH (hs / hB) us Γ κ bd (f (some o)) p d T m k i (fun V=>.n b.1::L V) β γ s hus hb hk D fun ς ν τ h1 h2=>by have:=H ς ν τ h1 h2; simp only [e' ς ν τ h1,hdt] at this; exact this
     | true =>
      have H1:=H sl β γ (fun _ _=>rfl) (fun _ _=>rfl)
      simp only [e' sl β γ (fun _ _=>rfl),hdt] at H1
      obtain ⟨x,hx,hLR,_⟩:=H1
      have:=(aR _ _ _ _ _ _ _ _ _ _ _ _ _ _ _ _ _ hx).same hLR
      simp only [Sd.s.injEq,List.cons.injEq,Sd.t.injEq,Sd.n.injEq,and_true] at this
      obtain ⟨ha,hf⟩:=this
      have hf:f (some (wS o sl))=f (some o):=hf
      show Sem.wp B.M Γ (f (s.heap.get? a)) _ _ p s
      rw [ha,l2,hf]
      refine IH (hs / hB) us Γ κ bd (f (some o)) p d T m k i (fun V=>.s [.n b.1,.t (f (some o))]::L V) β γ s hus hb hk D fun ς ν τ h1 h2=>?_
      have H1:=H ς ν τ h1 h2
      simp only [e' ς ν τ h1,hdt] at H1
      obtain ⟨x,hx,hLR,_⟩:=id H1
      have:=(aR _ _ _ _ _ _ _ _ _ _ _ _ _ _ _ _ _ hx).same hLR
      rw [this] at H1
      exact H1
  | alloc o f =>
   cases hf:o.isFreed with
   | true=>simp only [aN,hf] at H0; exact H0.none.elim
   | false =>
    simp only [aN,hf] at H
    have hsa:=mS (O.big s D.top)
    have H1:=H #[] (nj β k ⟨s.heap.objs.size,fun _=>.none,default,Post.zero⟩) γ (fun j hj=>cn hj) (fun _ _=>rfl)
    simp only [Base.V,bt,hsa] at H1
    cases e:(T.ins m ⟨true,s.heap.objs.size,o⟩).get m with
    | none=>simp only [e] at H1; exact H1.none.elim
    | some c =>
     show Sem.wp B.M Γ (f s.heap.objs.size) _ _ p _
     refine IH hs us Γ κ bd (f s.heap.objs.size) p d (T.ins m ⟨true,s.heap.objs.size,o⟩) (m+1) (k+1) i L (nj β k ⟨s.heap.objs.size,fun _=>.none,default,Post.zero⟩) γ _ hus hb hk (D.alloc hf (by rw [e]; rfl)) fun ς ν τ h1 h2=>?_
     have hk':ν k=⟨s.heap.objs.size,fun _=>.none,default,Post.zero⟩:=(h1 k (by omega)).trans (bt ..)
     have:=H ς ν τ (fun j hj=>(h1 j (by omega)).trans (cn hj)) h2
     simp only [Base.V,hk',hsa,e] at this
     exact this
  | update a q g f =>
   simp only [aN] at H H0
   cases e:T.get (hs % hB) with
   | none=>simp only [e] at H0; exact H0.none.elim
   | some c =>
    simp only [e] at H H0
    cases hm:c.mu with
    | false=>simp only [hm] at H0; exact H0.none.elim
    | true =>
     simp only [hm] at H H0
     cases hf:(g c.o).isFreed with
     | true=>simp only [hf] at H0; exact H0.none.elim
     | false =>
      simp only [hf] at H H0
      obtain ⟨sl0,hget⟩:=(D.own _ c e).2.1.get
      cases hdt:b7 d true c.o with
      | false =>
       simp only [hdt] at H H0
       obtain ⟨x,hx,hLR,_⟩:=H0
       have:=(aR _ _ _ _ _ _ _ _ _ _ _ _ _ _ _ _ _ hx).same hLR
       injection this with ha
       subst ha
       refine ⟨by rw [hget]; rfl,?_⟩
       exact IH (hs / hB) us Γ κ bd (f ()) p d (T.set (hs % hB) (g c.o)) m k i (fun V=>.n c.a::L V) β γ _ hus hb hk (D.update e hm fun x hx=>by
        rw [(D.own _ c e).2.1.exact hdt] at hx
        cases hx
        exact ⟨hf,.inl rfl⟩) H
      | true =>
       simp only [hdt] at H H0
       cases hfg:aU (g c.o) with
       | false=>simp only [hfg] at H0; exact H0.none.elim
       | true =>
        simp only [hfg] at H H0
        have key:∀ sl,a=c.a∧g (wS c.o sl)=wS (g c.o) sl:=fun sl=>by
         obtain ⟨x,hx,hLR,_⟩:=H sl β γ (fun _ _=>rfl) (fun _ _=>rfl)
         have:=(aR _ _ _ _ _ _ _ _ _ _ _ _ _ _ _ _ _ hx).same hLR
         simp only [Sd.s.injEq,List.cons.injEq,Sd.o.injEq,Sd.n.injEq,and_true] at this
         exact this
        have ha:=(key #[]).1
        subst ha
        have hdd:d=true:=by
         cases d with
         | true=>rfl
         | false=>cases hdt
        refine ⟨by rw [hget]; rfl,?_⟩
        refine IH (hs / hB) us Γ κ bd (f ()) p d (T.set (hs % hB) (g c.o)) m k i (fun V=>.s [.n c.a,.o (wS (g c.o) V.ς)]::L V) β γ _ hus hb hk (D.update e hm fun x hx=>?_) fun ς ν τ h1 h2=>?_
        ·rw [hget] at hx
         cases hx
         rw [(key sl0).2]
         exact ⟨(ln _ _).trans hf,.inr ⟨hdd,hfg,sl0,rfl⟩⟩
        ·have H1:=H ς ν τ h1 h2
         have k1:g (wS c.o (B.V lb dy shs κc ς ν τ).ς)=wS (g c.o) (B.V lb dy shs κc ς ν τ).ς:=(key ς).2
         simp only [k1] at H1
         exact H1
  | fresh f =>
   show Sem.wp B.M Γ (f s.toks) _ _ p _
   refine IH hs us Γ κ bd (f s.toks) p d T m k (i+1) L β (nj γ i s.toks) { s with toks:=s.toks+1 } hus hb hk ⟨D.own,D.inj,D.top,D.keep,D.size,D.gens,D.os,D.low⟩ fun ς ν τ h1 h2=>?_
   have hk':τ i=s.toks:=(h2 i (by omega)).trans (bt ..)
   have:=H ς ν τ h1 (fun j hj=>(h2 j (by omega)).trans (cn hj))
   simp only [aN,Base.V,hk'] at this
   exact this
  | handled own f =>
   cases own with
   | false=>exact IH hs us Γ κ bd (f Γ.handled) p d T m k i L β γ s hus hb hk D H
   | true=>exact H0.none.elim
  | stack f =>
   have hV:∀ ς ν τ,(B.V lb dy shs κc ς ν τ).shs=shs:=fun _ _ _=>rfl
   have hκ:∀ ς ν τ,(B.V lb dy shs κc ς ν τ).κc=κc:=fun _ _ _=>rfl
   simp only [aN] at H H0
   cases hs0:shs with
   | nil =>
    exact IH hs us Γ κ bd (f ((Γ.code,p)::Γ.below)) p d T m k i L β γ s hus hb hk D fun ς ν τ h1 h2=>by
     have:=H ς ν τ h1 h2
     simp only [hV] at this
     rw [hs0] at this
     simp only [hs0]
     exact this
   | cons a l =>
    match hh0:hs % hB with
    | 0 =>
     exact IH (hs / hB) us Γ κ bd (f ((Γ.code,p)::Γ.below)) p d T m k i L β γ s hus hb hk D fun ς ν τ h1 h2=>by
      have:=H ς ν τ h1 h2
      simp only [hV] at this
      rw [hs0] at this
      simp only [hh0] at this
      rw [← hs0] at this
      exact this
    | h+1 =>
     have e:i4 κc f (fun b=>(Γ.code,p)::bm κ b) shs=gp f shs:=by
      simp only [hV,hκ] at H0
      rw [hs0] at H0
      simp only [hh0] at H0
      obtain ⟨x,hx,hLR,_⟩:=H0
      have:=(aR _ _ _ _ _ _ _ _ _ _ _ _ _ _ _ _ _ hx).same hLR
      simp only [Sd.s.injEq] at this
      rw [hs0]
      exact this
     obtain ⟨q,hq,hqe⟩:=W.shape (by rw [hs0]; simp)
     have e2:=ky e q hq
     show Sem.wp B.M Γ (f ((Γ.code,p)::Γ.below)) _ _ p s
     have e3:f ((Γ.code,p)::Γ.below)=f []:=by
      rw [hk.stack,←hqe]
      exact e2
     rw [e3]
     refine IH (hs / hB) us Γ κ bd (f []) p d T m k i (fun V=>.s (gp f shs)::L V) β γ s hus hb hk D fun ς ν τ h1 h2=>?_
     have H1:=H ς ν τ h1 h2
     simp only [hV,hκ,hh0] at H1
     rw [e] at H1
     revert H1
     cases hs1:shs with
     | nil=>rw [hs1] at hs0; cases hs0
     | cons a l=>exact id
  | call c hd gd l f =>
   simp only [aN] at H H0
   cases hw:Nat.ble (ib Γ.code) bd with
   | false=>simp only [hw] at H0; exact H0.none.elim
   | true =>
    simp only [hw] at H H0
    have hb':=hb.enter c hd p hw
    have hk':rz bl (Γ.enter c hd p).below (.ret Γ p bd f κ):=⟨hb,rfl,hk⟩
    show wpCode B.M (Γ.enter c hd p) (bk B R (.ret Γ p bd f κ)) p s
    cases h3:Nat.beq (hs % hB) 3 with
    | true =>
     simp only [h3] at H H0
     cases hx:fc T c (hs / hB % hB) with
     | none=>simp only [hx] at H0; exact H0.none.elim
     | some x =>
      simp only [hx] at H H0
      obtain ⟨ce,hce,hic,hcs,hca⟩:=fP hx
      have e:x.2.1=x.2.2:=by
       obtain ⟨y,hy,hLR,_⟩:=H0
       have:=(aR _ _ _ _ _ _ _ _ _ _ _ _ _ _ _ _ _ hy).same hLR
       injection this
      refine ju (Γ:=Γ.enter c hd p) (x:=(x.1,x.2.1)) hcs (o:=ce.o) (by rw [e,←hca]; exact (D.own _ _ hce).2.1.exactF (mv hic)) hic fun p'=>?_
      refine bW (IH (hs / hB / hB) us ((Γ.enter c hd p).goto x.1) (.ret Γ p bd f κ) (bd - ib Γ.code) (kn x.1) p' d T m (k+1) i (fun V=>.n x.2.1::L V) (nj β k ⟨0,fun _=>.none,p',Post.zero⟩) γ s hus hb' hk' D fun ς ν τ h1 h2=>?_)
      have hk':ν k=⟨0,fun _=>.none,p',Post.zero⟩:=(h1 k (by omega)).trans (bt ..)
      have H1:=H ς ν τ (fun j hj=>(h1 j (by omega)).trans (cn hj)) h2
      simp only [Base.V,hk',←e] at H1 ⊢
      exact H1
    | false =>
    simp only [h3] at H H0
    match hh0:hs % hB with
    | 0 =>
     simp only [hh0] at H
     exact bW (IH (hs / hB) us (Γ.enter c hd p) (.ret Γ p bd f κ) (bd - ib Γ.code) (kn c) p d T m k i L β γ s hus hb' hk' D H)
    | 1 =>
     simp only [hh0] at H H0
     cases he:bZ (B.V lb dy shs κc #[] β γ) c with
     | none=>simp only [he] at H0; exact H0.none.elim
     | some t' =>
      have he':∀ ς ν τ,bZ (B.V lb dy shs κc ς ν τ) c=some t':=fun ς ν τ=>he
      exact eU O (Γ:=Γ.enter c hd p) (V:=B.V lb dy shs κc #[] β γ) rfl he D.top (by have:=hb'.1; omega)
       (IH (hs / hB) us (Γ.enter c hd p) (.ret Γ p bd f κ) (bd - ib Γ.code) t' p d T m k i L β γ s hus hb' hk' D fun ς ν τ h1 h2=>by have:=H ς ν τ h1 h2; simp only [he'] at this; exact this)
    | h+2 =>
     simp only [hh0] at H H0
     cases hh:(Γ.enter c hd p).handled with
     | some e=>simp only [hh] at H0; exact H0.none.elim
     | none =>
      simp only [hh] at H H0
      have hV:∀ ς ν τ,(B.V lb dy shs κc ς ν τ).lb=lb:=fun _ _ _=>rfl
      rcases cN lb T c h.succ.succ (hs / hB) us with hp | ⟨hs₁,u,us₁,hp,htl,hu,hsub⟩
      ·simp only [hV,hp] at H0; exact H0.none.elim
      ·have hU:=fS hlb hus htl hu
       refine eM O (L:=L) (lv:=bd - ib Γ.code) (u:=u) (Γ:=Γ.enter c hd p) (ex:=id) (ex':=id) (R':=bk B R (.ret Γ p bd f κ)) (ch:=fun hs=>eg T Γ.code κ hs [] []) (K:=fun V r hs' d' T' m' k' i' l l'=>l7 V n hs' us₁ Γ κ bd (f r) p d' T' m' k' i' (l::L V) (l'::L V)) (fun V r hs' d' T' m' k' i' l l' x hx=>aR V n _ _ _ _ _ _ _ _ _ _ _ _ _ _ _ hx) (fun _ _ h=>h) W (congrArg _ hk.stack) (fun h _=>.inl fun i c hi=>fD h i hi c) (fun hs' LL RR hc e hdy=>?_)
        rfl hh hb' D (fun ς ν τ h1 h2=>by have:=H ς ν τ h1 h2; simp only [hV,hp] at this; exact this) (fun S₀ hS₀ ok go=>hU _ _ _ _ (Γ.enter c hd p) p s (bk B R (.ret Γ p bd f κ)) _ (hS₀▸ok) go) fun r hs' d' T' m' k' i' β' γ' l l' s' e D' H'=>?_
       ·obtain ⟨P,Q,e1,e2,_,e4⟩:=hQ (p:=p) D W hdy hk hc
        rw [List.append_nil] at e1 e2
        exact e4 (e1▸e2▸e)
       ·have e:l=l':=e
        subst e
        exact IH hs' us₁ Γ κ bd (f r) p d' T' m' k' i' (fun V=>l::L V) β' γ' s' (fun u hu=>hus u (hsub u hu)) hb hk D' H'
  | unsupported=>exact H0.none.elim
  | finish=>exact H0.none.elim
  | register=>exact H0.none.elim
  | choose=>exact H0.none.elim
  | os=>exact H0.none.elim
  | newGen=>exact H0.none.elim
  | genState=>exact H0.none.elim
  | resume=>exact H0.none.elim
  | yield=>exact H0.none.elim
  | fork=>exact H0.none.elim
  | thread=>exact H0.none.elim
  | await=>exact H0.none.elim
end
noncomputable abbrev aZ:=Nat→List Use→Ctx→Kt→Nat→Pos→Bool→ST→Nat→Nat→Nat→List Sd→List Sd→Option Out
noncomputable abbrev cZ:=Sem Fin→aZ
noncomputable def jI:aZ:=fun _ _ _ _ _ _ _ _ _ _ _ _ _=>none
noncomputable def nu (ih:cZ) (κ:Kt) (r:Result) (hs:Nat) (us:List Use) (d:Bool) (T:ST) (m k i:Nat) (L R:List Sd):Option Out:=match κ with
 | .base=>some ⟨r,T,L,R,d⟩
 | .ret Γ p bd f κ=>ih (f r) hs us Γ κ bd p d T m k i L R
noncomputable def vq (V:Cx) (ih:cZ) (c:Code) (hs:Nat) (us:List Use) (Γ:Ctx) (κ:Kt) (bd:Nat) (d:Bool) (T:ST) (m k i:Nat) (L R:List Sd):Option Out:=match Γ.handled with
 | some _=>none
 | none=>f9 V.lb T c (hs % hB) (hs / hB) us fun hs u us=>j5 V d T m k i hs c (bm κ) u (jW T u.jx) bd (fun hs=>cL T κ hs [] []) fun r hs' d' T' m' k' i' l l'=>nu ih κ r hs' us d' T' m' k' i' (l::L) (l'::R)
noncomputable def F0 (V:Cx) (ih:cZ) (c:Code):aZ:=fun hs us Γ κ bd p d T m k i L R=>match hs % hB with
 | 0=>ih (kn c) (hs / hB) us (Γ.goto c) κ bd p d T m k i L R
 | 1=>match bZ V c with
  | some t'=>ih t' (hs / hB) us (Γ.goto c) κ bd p d T m k i L R
  | none=>none
 | _=>vq V ih c hs us Γ κ bd d T m k i L R
noncomputable def CS (V:Cx) (ih:cZ) (c:Code):aZ:=fun hs us Γ κ bd p d T m k i L R=>match fc T c (hs / hB % hB) with
 | some x=>ih (kn x.1) (hs / hB / hB) us ((Γ.goto c).goto x.1) κ bd (V.π k) d T m (k+1) i (.n x.2.1::L) (.n x.2.2::R)
 | none=>none
noncomputable def CP (V:Cx) (ih:cZ) (fin:Fin):aZ:=fun hs us Γ κ bd p d T m k i L R=>match fin with
 | .done f=>nu ih κ (.ok f) hs us d T m k i L R
 | .again c=>match c.quiet with
  | false=>none
  | true=>match Nat.beq (hs % hB) 3 with
   | true=>CS V ih c hs us Γ κ bd p d T m k i L R
   | false=>F0 V ih c hs us Γ κ bd p d T m k i L R
noncomputable def A0 (ih:cZ) (e:Value):aZ:=fun hs us Γ κ bd p d T m k i L R=>nu ih κ (.error e) hs us d T m k i L R
noncomputable def AH (ih:cZ) (_:String) (f:Unit→Sem Fin) (_:Unit→aZ):aZ:=ih (f ())
noncomputable def B4 (V:Cx) (ih:cZ) (q:Pos) (f:Unit→Sem Fin) (lj:Nat × Nat) (u:Use) (us':List Use) (hs:Nat) (Γ:Ctx) (κ:Kt) (bd:Nat) (d:Bool) (T:ST) (m k i:Nat) (L R:List Sd):Option Out:=match Γ.handled with
 | some _=>none
 | none=>j5 V d T m k i hs Γ.code (bm κ) u (vy κ T u.jx) bd (fun hs=>cL T κ hs [] []) fun r hs' d' T' m' k' i' l l'=>nu ih κ r hs' us' d' T' m' k' i' (.s [l,.t (dA Γ.code lj.2)]::L) (.s [l',.t (.at q f)]::R)
noncomputable def By (V:Cx) (ih:cZ) (q:Pos) (f:Unit→Sem Fin) (u:Use) (us':List Use):aZ:=fun hs us Γ κ bd p d T m k i L R=>match u.tl with
 | none=>ih (f ()) hs us Γ κ bd q d T m k i L R
 | some lj=>match Nat.beq q.line lj.1 with
  | false=>ih (f ()) hs us Γ κ bd q d T m k i L R
  | true=>B4 V ih q f lj u us' hs Γ κ bd d T m k i L R
noncomputable def Fl (V:Cx) (ih:cZ) (q:Pos) (f:Unit→Sem Fin) (_:Unit→aZ):aZ:=fun hs us Γ κ bd p d T m k i L R=>match us with
 | []=>ih (f ()) hs us Γ κ bd q d T m k i L R
 | u::us'=>By V ih q f u us' hs us Γ κ bd p d T m k i L R
noncomputable def EZ (V:Cx) (ih:cZ) (f:Setting→Sem Fin) (_:Setting→aZ):aZ:=fun hs us Γ κ bd p d T m k i L R=>match hs % hB with
 | 0=>ih (f ⟨V.prog,V.w.params⟩) (hs / hB) us Γ κ bd p d T m k i L R
 | 1=>ih (f ⟨V.prog,wF V.w nS true⟩) (hs / hB) us Γ κ bd p d T m k i (.t (f ⟨V.prog,wF V.w nS true⟩)::L) (.t (f ⟨V.prog,wF V.w nS false⟩)::R)
 | _=>ih (f ⟨V.prog,wF V.w nC V.cb⟩) (hs / hB) us Γ κ bd p d T m k i L R
noncomputable def vJ (V:Cx) (ih:cZ) (a:Addr) (q:Option Value) (f:Obj→Sem Fin):aZ:=fun hs us Γ κ bd p d T m k i L R=>match Nat.beq (hs % hB) 1023 with
 | true=>match da V.dy Γ κ T (hs / hB) with
  | none=>none
  | some N=>match (bK V T m k N .none).get m with
   | none=>none
   | some _=>N.run fun hs'=>nu ih κ (.error (.ref N.e)) hs' us true (bK V T m k N .none) (m+1) (k+1) i (.s [.t (e7 N.env N.e),.s N.L]::L) (.s [.t (.load a q f),.s N.R]::R)
 | false=>match da V.dy Γ κ T (hs / hB) with
  | none=>none
  | some N=>match (bK V T m k N (rawInt N.fr)).get m with
   | none=>none
   | some _=>N.run fun hs'=>match pL (ig N.body (hs' % hB)) with
    | none=>none
    | some x=>ih (jr N.env N.e x.1 x.2) (hs' / hB) us Γ κ bd (V.π k) true (bK V T m k N (rawInt N.fr)) (m+1) (k+1) i (.s [.t (ed N.env N.e x.1 x.2),.s N.L]::L) (.s [.t (.load a q f),.s N.R]::R)
noncomputable def Fe (V:Cx) (ih:cZ) (a:Addr) (f:Obj→Sem Fin) (o:Obj) (b:Nat × Bool):aZ:=fun hs us Γ κ bd p d T m k i L R=>match b7 d b.2 o with
 | false=>ih (f o) (hs / hB) us Γ κ bd p d T m k i (.n a::L) (.n b.1::R)
 | true=>ih (f o) (hs / hB) us Γ κ bd p d T m k i (.s [.n a,.t (f (wS o V.ς))]::L) (.s [.n b.1,.t (f o)]::R)
noncomputable def C7 (V:Cx) (ih:cZ) (a:Addr) (f:Obj→Sem Fin):aZ:=fun hs us Γ κ bd p d T m k i L R=>match bD V T k (hs % hB) a with
 | some x=>match x with
  | (o,b)=>match b with
   | none=>ih (f o) (hs / hB) us Γ κ bd p d T m k i L R
   | some b=>Fe V ih a f o b hs us Γ κ bd p d T m k i L R
 | none=>none
noncomputable def qB (V:Cx) (ih:cZ) (a:Addr) (q:Option Value) (f:Obj→Sem Fin) (_:Obj→aZ):aZ:=fun hs us Γ κ bd p d T m k i L R=>match Nat.ble 1022 (hs % hB) with
 | true=>vJ V ih a q f hs us Γ κ bd p d T m k i L R
 | false=>C7 V ih a f hs us Γ κ bd p d T m k i L R
noncomputable def FQ (V:Cx) (ih:cZ) (a:Addr) (f:Option Obj→Sem Fin) (o:Obj) (b:Nat × Bool):aZ:=fun hs us Γ κ bd p d T m k i L R=>match b7 d b.2 o with
 | false=>ih (f (some o)) (hs / hB) us Γ κ bd p d T m k i (.n a::L) (.n b.1::R)
 | true=>ih (f (some o)) (hs / hB) us Γ κ bd p d T m k i (.s [.n a,.t (f (some (wS o V.ς)))]::L) (.s [.n b.1,.t (f (some o))]::R)
noncomputable def Fc (V:Cx) (ih:cZ) (a:Addr) (f:Option Obj→Sem Fin) (_:Option Obj→aZ):aZ:=fun hs us Γ κ bd p d T m k i L R=>match bD V T k (hs % hB) a with
 | some x=>match x with
  | (o,b)=>match b with
   | none=>ih (f (some o)) (hs / hB) us Γ κ bd p d T m k i L R
   | some b=>FQ V ih a f o b hs us Γ κ bd p d T m k i L R
 | none=>none
noncomputable def wn (V:Cx) (ih:cZ) (o:Obj) (f:Addr→Sem Fin) (_:Addr→aZ):aZ:=fun hs us Γ κ bd p d T m k i L R=>match o.isFreed with
 | true=>none
 | false=>match (T.ins m ⟨true,V.ν k,o⟩).get m with
  | some _=>ih (f (V.ν k)) hs us Γ κ bd p d (T.ins m ⟨true,V.ν k,o⟩) (m+1) (k+1) i L R
  | none=>none
noncomputable def Ff (V:Cx) (ih:cZ) (a:Addr) (g:Obj→Obj) (f:Unit→Sem Fin) (ca:Nat) (co:Obj):aZ:=fun hs us Γ κ bd p d T m k i L R=>match b7 d true co with
 | false=>ih (f ()) (hs / hB) us Γ κ bd p d (T.set (hs % hB) (g co)) m k i (.n a::L) (.n ca::R)
 | true=>match aU (g co) with
  | false=>none
  | true=>ih (f ()) (hs / hB) us Γ κ bd p d (T.set (hs % hB) (g co)) m k i (.s [.n a,.o (g (wS co V.ς))]::L) (.s [.n ca,.o (wS (g co) V.ς)]::R)
noncomputable def Fi (V:Cx) (ih:cZ) (a:Addr) (_:Option Value) (g:Obj→Obj) (f:Unit→Sem Fin) (_:Unit→aZ):aZ:=fun hs us Γ κ bd p d T m k i L R=>match T.get (hs % hB) with
 | some c=>match c with
  | ⟨mu,ca,co⟩=>match mu with
   | false=>none
   | true=>match (g co).isFreed with
    | true=>none
    | false=>Ff V ih a g f ca co hs us Γ κ bd p d T m k i L R
 | none=>none
noncomputable def xa (V:Cx) (ih:cZ) (f:Tok→Sem Fin) (_:Tok→aZ):aZ:=fun hs us Γ κ bd p d T m k i L R=>ih (f (V.τ i)) hs us Γ κ bd p d T m k (i+1) L R
noncomputable def C6 (ih:cZ) (own:Bool) (f:Option Value→Sem Fin) (_:Option Value→aZ):aZ:=fun hs us Γ κ bd p d T m k i L R=>match own with
 | false=>ih (f Γ.handled) hs us Γ κ bd p d T m k i L R
 | true=>none
noncomputable def Fv (V:Cx) (ih:cZ) (f:List (Code × Pos)→Sem Fin):aZ:=fun hs us Γ κ bd p d T m k i L R=>match hs % hB with
 | 0=>ih (f ((Γ.code,p)::Γ.below)) (hs / hB) us Γ κ bd p d T m k i L R
 | _=>ih (f []) (hs / hB) us Γ κ bd p d T m k i (.s (i4 V.κc f (fun b=>(Γ.code,p)::bm κ b) V.shs)::L) (.s (gp f V.shs)::R)
noncomputable def zW (V:Cx) (ih:cZ) (f:List (Code × Pos)→Sem Fin) (_:List (Code × Pos)→aZ):aZ:=fun hs us Γ κ bd p d T m k i L R=>match V.shs with
 | []=>ih (f ((Γ.code,p)::Γ.below)) hs us Γ κ bd p d T m k i L R
 | _::_=>Fv V ih f hs us Γ κ bd p d T m k i L R
noncomputable def Dm (V:Cx) (ih:cZ) (c:Code) (hd:Option Value) (f:Result→Sem Fin):aZ:=fun hs us Γ κ bd p d T m k i L R=>match (Γ.enter c hd p).handled with
 | some _=>none
 | none=>f9 V.lb T c (hs % hB) (hs / hB) us fun hs u us=>j5 V d T m k i hs c (fun b=>(Γ.code,p)::bm κ b) u (jW T u.jx) (bd - ib Γ.code) (fun hs=>eg T Γ.code κ hs [] []) fun r hs' d' T' m' k' i' l l'=>ih (f r) hs' us Γ κ bd p d' T' m' k' i' (l::L) (l'::R)
noncomputable def zw (V:Cx) (ih:cZ) (c:Code) (hd:Option Value) (f:Result→Sem Fin):aZ:=fun hs us Γ κ bd p d T m k i L R=>match hs % hB with
 | 0=>ih (kn c) (hs / hB) us (Γ.enter c hd p) (.ret Γ p bd f κ) (bd - ib Γ.code) p d T m k i L R
 | 1=>match bZ V c with
  | some t'=>ih t' (hs / hB) us (Γ.enter c hd p) (.ret Γ p bd f κ) (bd - ib Γ.code) p d T m k i L R
  | none=>none
 | _=>Dm V ih c hd f hs us Γ κ bd p d T m k i L R
noncomputable def FF (V:Cx) (ih:cZ) (c:Code) (hd:Option Value) (f:Result→Sem Fin):aZ:=fun hs us Γ κ bd p d T m k i L R=>match fc T c (hs / hB % hB) with
 | some x=>ih (kn x.1) (hs / hB / hB) us ((Γ.enter c hd p).goto x.1) (.ret Γ p bd f κ) (bd - ib Γ.code) (V.π k) d T m (k+1) i (.n x.2.1::L) (.n x.2.2::R)
 | none=>none
noncomputable def Ei (V:Cx) (ih:cZ) (c:Code) (hd:Option Value) (_:Bool) (_:List Value) (f:Result→Sem Fin) (_:Result→aZ):aZ:=fun hs us Γ κ bd p d T m k i L R=>match Nat.ble (ib Γ.code) bd with
 | false=>none
 | true=>match Nat.beq (hs % hB) 3 with
  | true=>FF V ih c hd f hs us Γ κ bd p d T m k i L R
  | false=>zw V ih c hd f hs us Γ κ bd p d T m k i L R
noncomputable def r7 (V:Cx) (ih:cZ):cZ:=@Sem.rec Fin (fun _=>aZ) (CP V ih) (A0 ih) (fun _=>jI) (fun _=>jI) (AH ih) (Fl V ih) (qB V ih) (Fi V ih) (wn V ih) (Fc V ih) (fun _ f _=>ih (f ())) (fun _ _ _=>jI) (xa V ih) (EZ V ih)
 (fun _ _ _ _=>jI) (fun _ _ _ _=>jI) (Ei V ih) (C6 ih) (fun _ _ _=>jI) (fun _ _ _=>jI) (fun _ _ _ _ _=>jI) (fun _ _ _ _ _=>jI) (zW V ih) (fun _ _ _=>jI) (fun _ _=>jI) (fun _ _ _ _ _ _=>jI)
noncomputable def sU (V:Cx) (n:Nat):cZ:=Nat.rec (fun _=>jI) (fun _ ih=>r7 V ih) n
theorem o6 (V:Cx) (n:Nat):sU V (n+1)=r7 V (sU V n):=rfl
noncomputable def dc (r:fJ):cZ:=fun t hs us Γ κ bd p d T m k i L R=>r hs us Γ κ bd t p d T m k i L R
theorem dO (r:fJ) {κ:Kt}:(nu (dc r) κ)=fun x hs us d T m k i L R=>fo r x hs us κ d T m k i L R:=by
 cases κ <;> rfl
theorem qC (V:Cx) (r:fJ):r7 V (dc r)=dc (aN V r):=by
 funext t hs us Γ κ bd p d T m k i L R
 cases t with
 | pure fin =>
  cases fin with
  | done f=>exact congrFun (congrFun (congrFun (congrFun (congrFun (congrFun (congrFun (congrFun (congrFun (congrFun (dO r (κ:=κ)) _) _) _) _) _) _) _) _) _) _
  | again c =>
   show (match c.quiet with | false=>none | true=>match Nat.beq (hs % hB) 3 with | true=>CS V (dc r) c hs us Γ κ bd p d T m k i L R | false=>F0 V (dc r) c hs us Γ κ bd p d T m k i L R)=aN V r hs us Γ κ bd (.pure (.again c)) p d T m k i L R
   unfold aN F0 vq
   simp only [dO]
   rfl
 | raise e=>exact congrFun (congrFun (congrFun (congrFun (congrFun (congrFun (congrFun (congrFun (congrFun (congrFun (dO r (κ:=κ)) _) _) _) _) _) _) _) _) _) _
 | «at» q f =>
  show Fl V (dc r) q f (fun _=>jI) hs us Γ κ bd p d T m k i L R=_
  unfold Fl By B4
  simp only [dO]
  rfl
 | load a q f =>
  show qB V (dc r) a q f (fun _=>jI) hs us Γ κ bd p d T m k i L R=_
  unfold qB vJ C7
  simp only [dO]
  show _=aN V r hs us Γ κ bd (.load a q f) p d T m k i L R
  simp only [aN]
  cases Nat.ble 1022 (hs % hB) with
  | true=>rfl
  | false =>
   cases bD V T k (hs % hB) a with
   | none=>rfl
   | some x =>
    obtain ⟨o,b⟩:=x
    cases b <;> rfl
 | loadIfAlive a f =>
  show Fc V (dc r) a f (fun _=>jI) hs us Γ κ bd p d T m k i L R=_
  unfold Fc
  show _=aN V r hs us Γ κ bd (.loadIfAlive a f) p d T m k i L R
  simp only [aN]
  cases bD V T k (hs % hB) a with
  | none=>rfl
  | some x =>
   obtain ⟨o,b⟩:=x
   cases b <;> rfl
 | update a q g f =>
  show Fi V (dc r) a q g f (fun _=>jI) hs us Γ κ bd p d T m k i L R=_
  unfold Fi
  show _=aN V r hs us Γ κ bd (.update a q g f) p d T m k i L R
  simp only [aN]
  cases T.get (hs % hB) with
  | none=>rfl
  | some c=>obtain ⟨mu,ca,co⟩:=c; cases mu <;> rfl
 | _=>rfl
theorem mE (V:Cx):∀ n,sU V n=dc (l7 V n)
 | 0=>rfl
 | n+1=>by rw [o6,mE V n,qC]; rfl
structure RS where
 lv:Nat
 sh:List (List Kd)
 c:Code
 cells:List Cell
 bx:List Nat
 tx:List Nat
 po:List Nat→List Nat→(Nat→Obj)→(Nat→Post)→List Obj
 nw:List Nat→List Nat→List Obj
 r:List Nat→List Nat→Result
 dy:Bool:=false
 di:Bool:=false
 tl:Option Nat:=none
noncomputable def cC:List Cell→List Nat
 | []=>[]
 | c::l=>match c.mu with
  | true=>c.a::cC l
  | false=>cC l
noncomputable def ox:Nat→List Cell→List Nat
 | _,[]=>[]
 | i,c::l=>match c.mu with
  | true=>i::ox (i+1) l
  | false=>ox (i+1) l
noncomputable def bU:List Cell→List (Nat × Obj)
 | []=>[]
 | c::l=>(c.a,c.o)::bU l
noncomputable def ag {α:Type}:List α→Nat
 | []=>0
 | _::l=>ag l+1
noncomputable def RS.SO (D:RS) (ob:Nat→Obj) (q:Nat→Post):Spec:=⟨D.lv,D.sh,D.c,bU D.cells,cC D.cells,ag D.bx,ag D.tx,fun b t=>D.po b t ob q,D.nw,D.r,D.dy,D.di⟩
noncomputable def CA:Nat→Obj:=fun _=>{ cls:=.none }
noncomputable def q0:Nat→Post:=fun _=>Post.zero
noncomputable def RS.S (D:RS):Spec:=D.SO CA q0
noncomputable def nl:ST→Nat→List Cell→Option ST
 | T,_,[]=>some T
 | T,m,c::l=>match (T.ins m c).get m with
  | some _=>nl (T.ins m c) (m+1) l
  | none=>none
noncomputable def bz (f:Nat→Nat):List Nat→List Nat
 | []=>[]
 | i::l=>f i::bz f l
noncomputable def uJ (T:ST):List Nat→List Obj→List Sd→List Sd→(List Sd→List Sd→List Sd × List Sd)→List Sd × List Sd
 | [],_,L,R,k=>k L R
 | i::l,os,L,R,k=>match os with
  | []=>k L R
  | o::os=>uJ T l os (.o (b6 T i)::L) (.o o::R) k
noncomputable def uz (T:ST):List Nat→List Nat→List Obj→List Sd→List Sd→List Sd × List Sd
 | [],_,_,L,R=>(L,R)
 | i::l,as,os,L,R=>match as with
  | []=>([.n 0],[])
  | a::as=>match os with
   | []=>([.n 0],[])
   | o::os=>uz T l as os (.o (b6 T i)::.n (aL T i)::L) (.o o::.n a::R)
noncomputable def j2 (T:ST) (m₀:Nat):List Nat→Bool
 | []=>true
 | i::l=>match Nat.ble m₀ i with
  | false=>false
  | true=>match T.get i with
   | none=>false
   | some _=>j2 T m₀ l
noncomputable def cv (D:RS) (τ:Nat→Nat) (ρ:Nat→Post):Option Out→List Sd × List Sd
 | none=>([.n 0],[])
 | some x=>match (match x.d with | true=>D.dy | false=>true) with
  | false=>([.n 0],[])
  | true=>match j2 x.T (ag D.cells) D.bx with
   | false=>([.n 0],[])
   | true=>match cM D.bx with
    | false=>([.n 0],[])
    | true=>match cO (ox 0 D.cells) (D.po (bz (aL x.T) D.bx) (bz τ D.tx) (b6 x.T) ρ) with
     | false=>([.n 0],[])
     | true=>match j2 x.T 0 (ox 0 D.cells) with
      | false=>([.n 0],[])
      | true=>uJ x.T D.bx (D.nw (bz (aL x.T) D.bx) (bz τ D.tx)) x.L x.R fun L R=>uz x.T (ox 0 D.cells) (cC D.cells) (D.po (bz (aL x.T) D.bx) (bz τ D.tx) (b6 x.T) ρ) (.r x.r::L) (.r (D.r (bz (aL x.T) D.bx) (bz τ D.tx))::R)
noncomputable def RS.start (D:RS):Sem Fin:=match D.tl with
 | none=>.pure (.again D.c)
 | some j=>dA D.c j
noncomputable def uY (B:Base) (lb:List LibE) (cb:Bool) (ν τ:Nat→Nat) (υ:Nat→Nat→Value) (π:Nat→Pos) (ς:Array (Option Value)) (ρ:Nat→Post) (κc:Nat→Ct) (D:RS) (n hs:Nat) (us:List Use) (own:Option Value) (bl:List (Code × Pos)) (past:Option Value) (p:Pos):Option Out :=
 match nl .nil 0 D.cells with
 | some T=>Cu (ag D.cells) fun m=>Cu D.lv fun lv=>sU ⟨B.prog,B.w,B.kt,B.en,cb,ν,τ,υ,π,ς,D.dy,ρ,D.sh,κc,B.mn,lb⟩ n (D.start) hs us ⟨D.c,none,own,bl,past⟩ .base lv p D.di T m 0 0 [] []
 | none=>none
noncomputable def RS.RunsL (B:Base) (lb:List LibE) (D:RS) (n hs:Nat) (us:List Use) (cb:Bool):Prop :=
 ∀ (ν τ:Nat→Nat) (υ:Nat→Nat→Value) (π:Nat→Pos) (ς:Array (Option Value)) (ρ:Nat→Post) (own past:Option Value) (κ:Nat→Ct) (bl:List (Code × Pos)) (p:Pos),
  (cv D τ ρ (uY B lb cb ν τ υ π ς ρ κ D n hs us own bl past p)).1=(cv D τ ρ (uY B lb cb ν τ υ π ς ρ κ D n hs us own bl past p)).2
noncomputable def RS.Runs2L (B:Base) (lb:List LibE) (D:RS) (n hs:Nat) (us:List Use) (cb:Bool):Prop :=
 ∀ (ν τ:Nat→Nat) (υ:Nat→Nat→Value) (π:Nat→Pos) (ς:Array (Option Value)) (ρ:Nat→Post) (own past:Option Value) (κ:Nat→Ct) (bl:List (Code × Pos)) (p:Pos),
  (cv D τ ρ (uY B lb cb (fun k=>Nat.succ (Nat.succ (ν k))) τ υ π ς ρ κ D n hs us own bl past p)).1=(cv D τ ρ (uY B lb cb (fun k=>Nat.succ (Nat.succ (ν k))) τ υ π ς ρ κ D n hs us own bl past p)).2
noncomputable def RS.RunL (B:Base) (lb:List LibE) (D:RS) (us:List Use):Prop:=∀ cb,∃ n hs,D.Runs2L B lb n hs us cb
theorem RS.RunL.one {B:Base} {lb:List LibE} {D:RS} {us:List Use} {n hs:Nat} (h:∀ cb,D.RunsL B lb n hs us cb):D.RunL B lb us:=fun cb=>⟨n,hs,fun ν=>h cb fun k=>Nat.succ (Nat.succ (ν k))⟩
theorem RS.RunL.one2 {B:Base} {lb:List LibE} {D:RS} {us:List Use} {n hs:Nat} (h:∀ cb,D.Runs2L B lb n hs us cb):D.RunL B lb us:=fun cb=>⟨n,hs,h cb⟩
theorem j0 {α:Type}:∀ l:List α,ag l=l.length
 | []=>rfl
 | _::l=>by simp only [ag,List.length_cons]; rw [j0 l]
theorem dH {l:List Cell} {c:Cell} (h:c∈l):(c.a,c.o)∈bU l:=by
 induction l with
 | nil=>exact nomatch h
 | cons d l ih =>
  show (c.a,c.o)∈(d.a,d.o)::bU l
  cases h with
  | head=>exact List.mem_cons_self
  | tail _ h=>exact List.mem_cons_of_mem _ (ih h)
theorem rW {l:List Cell} {c:Cell} (h:c∈l) (hm:c.mu=true):c.a∈cC l:=by
 induction l with
 | nil=>exact nomatch h
 | cons d l ih =>
  unfold cC
  cases h with
  | head=>rw [hm]; exact List.mem_cons_self
  | tail _ h =>
   cases d.mu with
   | true=>exact List.mem_cons_of_mem _ (ih h)
   | false=>exact ih h
theorem gi:∀ l:List Cell,(bU l).map (·.1)=l.map (·.a)
 | []=>rfl
 | c::l=>by simp only [bU,List.map_cons]; rw [gi l]
theorem jV:∀ {l:List Cell} {T T':ST} {m:Nat},nl T m l=some T'→∀ i c,T'.get i=some c→(T.get i=some c∧(i<m∨m+l.length≤i))∨∃ j,i=m+j∧l[j]?=some c
 | [],T,T',m,h,i,c,hc=>by
  simp only [nl,Option.some.injEq] at h
  subst h
  exact .inl ⟨hc,by simp only [List.length_nil]; omega⟩
 | d::l,T,T',m,h,i,c,hc=>by
  simp only [nl] at h
  cases e:(T.ins m d).get m with
  | none=>rw [e] at h; cases h
  | some x =>
   rw [e] at h
   rcases jV h i c hc with ⟨h1,h2⟩ | ⟨j,h1,h2⟩
   ·rw [ST.get_ins _ _ _ (by rw [e]; rfl)] at h1
    by_cases q:i=m
    ·rw [if_pos q] at h1
     cases h1
     exact .inr ⟨0,by omega,by simp⟩
    ·rw [if_neg q] at h1
     exact .inl ⟨h1,by simp only [List.length_cons]; omega⟩
   ·exact .inr ⟨j+1,by omega,by simpa using h2⟩
theorem fA:∀ {l:List Cell} {i:Nat},(ox i l).length=(cC l).length
 | [],_=>rfl
 | c::l,i=>by
  simp only [ox,cC]
  cases c.mu with
  | true=>simp only [List.length_cons]; rw [fA]
  | false=>exact fA
theorem mD {f:Nat→Nat}:∀ {l:List Nat} {j a:Nat},(bz f l)[j]?=some a→∃ i,l[j]?=some i∧a=f i
 | [],j,a,h=>by simp [bz] at h
 | i::l,0,a,h=>by simp only [bz,List.getElem?_cons_zero,Option.some.injEq] at h; exact ⟨i,by simp,h.symm⟩
 | i::l,j+1,a,h=>by simp only [bz,List.getElem?_cons_succ] at h; obtain ⟨k,h1,h2⟩:=mD h; exact ⟨k,by simpa using h1,h2⟩
theorem gt {f:Nat→Nat}:∀ {l:List Nat},(bz f l).length=ag l
 | []=>rfl
 | _::l=>by simp only [bz,List.length_cons,ag]; rw [gt]
theorem fF {f:Nat→Nat}:∀ {l:List Nat} {a:Nat},a∈bz f l→∃ i,i∈l∧a=f i
 | i::l,a,h=>by
  rcases List.mem_cons.mp h with rfl | h
  ·exact ⟨i,.head _,rfl⟩
  ·obtain ⟨k,h1,h2⟩:=fF h; exact ⟨k,.tail _ h1,h2⟩
theorem eD {T:ST} {m₀:Nat}:∀ {l:List Nat},j2 T m₀ l=true→∀ i,i∈l→m₀≤i∧∃ c,T.get i=some c
 | j::l,h,i,hi=>by
  unfold j2 at h
  cases q:Nat.ble m₀ j with
  | false=>rw [q] at h; cases h
  | true =>
   rw [q] at h
   simp only at h
   cases e:T.get j with
   | none=>rw [e] at h; cases h
   | some c =>
    rw [e] at h
    rcases List.mem_cons.mp hi with rfl | hi
    ·exact ⟨Nat.le_of_ble_eq_true q,c,e⟩
    ·exact eD h i hi
theorem mO {T:ST} {k:List Sd→List Sd→List Sd × List Sd}:∀ {l:List Nat} {os:List Obj} {L R:List Sd},(uJ T l os L R k).1=(uJ T l os L R k).2 →
 ∃ L' R',(k L' R').1=(k L' R').2∧(L'=R'→L=R∧∀ (q j:Nat) (o:Obj),l[q]?=some j→os[q]?=some o→b6 T j=o)
 | [],os,L,R,h=>⟨L,R,h,fun e=>⟨e,fun q j o hq=>by simp at hq⟩⟩
 | i::l,[],L,R,h=>⟨L,R,h,fun e=>⟨e,fun q j o _ hx=>by simp at hx⟩⟩
 | i::l,o::os,L,R,h=>by
  obtain ⟨L',R',h1,h2⟩:=mO (l:=l) (os:=os) (L:=.o (b6 T i)::L) (R:=.o o::R) h
  refine ⟨L',R',h1,fun e=>?_⟩
  obtain ⟨h3,h4⟩:=h2 e
  simp only [List.cons.injEq,Sd.o.injEq] at h3
  refine ⟨h3.2,fun q j x hq hx=>?_⟩
  cases q with
  | zero =>
   simp only [List.getElem?_cons_zero,Option.some.injEq] at hq hx
   rw [← hq,←hx]; exact h3.1
  | succ q=>exact h4 q j x (by simpa using hq) (by simpa using hx)
theorem mb {T:ST}:∀ {l as:List Nat} {os:List Obj} {L R:List Sd},l.length=os.length→l.length=as.length→(uz T l as os L R).1=(uz T l as os L R).2 →
 L=R∧∀ (q j a:Nat) (o:Obj),l[q]?=some j→as[q]?=some a→os[q]?=some o→b6 T j=o∧aL T j=a
 | [],as,os,L,R,_,_,h=>⟨h,fun q j a o hq=>by simp at hq⟩
 | i::l,[],_,_,_,_,hl,_=>by simp at hl
 | i::l,_::_,[],_,_,hl,_,_=>by simp at hl
 | i::l,a::as,o::os,L,R,hl,hl',h=>by
  obtain ⟨h1,h2⟩:=mb (l:=l) (as:=as) (os:=os) (L:=.o (b6 T i)::.n (aL T i)::L) (R:=.o o::.n a::R) (by simpa using hl) (by simpa using hl') h
  simp only [List.cons.injEq,Sd.o.injEq,Sd.n.injEq] at h1
  refine ⟨h1.2.2,fun q j b x hq ha hx=>?_⟩
  cases q with
  | zero =>
   simp only [List.getElem?_cons_zero,Option.some.injEq] at hq hx ha
   rw [← hq,←hx,←ha]; exact ⟨h1.1,h1.2.1⟩
  | succ q=>exact h2 q j b x (by simpa using hq) (by simpa using ha) (by simpa using hx)
theorem gf {T:ST} (inj:∀ i j c d,T.get i=some c→T.get j=some d→c.a=d.a→i=j):∀ {l:List Nat},(∀ i,i∈l→∃ c,T.get i=some c)→l.Nodup→(bz (aL T) l).Nodup
 | [],_,_=>List.nodup_nil
 | i::l,h,hn=>by
  obtain ⟨h1,h2⟩:=List.nodup_cons.mp hn
  refine List.nodup_cons.mpr ⟨fun hm=>?_,gf inj (fun j hj=>h j (.tail _ hj)) h2⟩
  obtain ⟨j,hj,e⟩:=fF hm
  obtain ⟨c,hc⟩:=h i (.head _)
  obtain ⟨d,hd⟩:=h j (.tail _ hj)
  have:i=j:=inj i j c d hc hd (by simpa only [aL,hc,hd] using e)
  exact h1 (this▸hj)
theorem RS.wpL {B:Base} (O:B.Ok) {lb:List LibE} (hlb:∀ e:LibE,e∈lb→∀ c cs ms,(e.S c cs ms).Holds B) {D:RS} {us:List Use} (hus:∀ u:Use,u∈us→∀ A tk O ρs,bE B u.tl (u.S A tk O ρs)) (H:D.RunL B lb us)
 {Γ:Ctx} {p:Pos} {s:Shared} {R:Result→Shared→Prop} (ok:D.S.Ok B Γ s) (k:∀ ob q s' bs ts,After B (D.SO ob q) s s' bs ts→R (D.r bs ts) s'):Ae B R Γ .base D.start p s:=by
 obtain ⟨hc,hh,hsh,hb,ht,hst,hpre,hnd⟩:=ok
 obtain ⟨code,handled,own,below,past⟩:=Γ
 obtain rfl:code=D.c:=hc
 obtain rfl:handled=none:=hh
 obtain ⟨κ,hκ⟩:∃ κ,D.sh≠[]→∃ l,l∈D.sh∧eE l 0 κ=below:=by
  cases hs:D.sh with
  | nil=>exact ⟨fun _=>⟨[],[],default,.none,.none,{},default,default,default,0,[],[],default⟩,fun h=>absurd rfl h⟩
  | cons a r =>
   have:jA (a::r) below=true:=by
    have:=hsh
    simp only [RS.S,RS.SO,hs,gq] at this
    exact this
   obtain ⟨l,hl,hf⟩:=ip this
   obtain ⟨κ,h⟩:=dR 0 hf
   exact ⟨κ,fun _=>⟨l,hl,h⟩⟩
 let cb:=B.w.params.followText sS
 obtain ⟨n,hs,H⟩:=H cb
 have G:∀ (ν τ:Nat→Nat) υ π ς ρ,(cv D τ ρ (uY B lb cb (fun k=>Nat.succ (Nat.succ (ν k))) τ υ π ς ρ κ D n hs us own below past p)).1=(cv D τ ρ (uY B lb cb (fun k=>Nat.succ (Nat.succ (ν k))) τ υ π ς ρ κ D n hs us own below past p)).2:=fun ν τ υ π ς ρ=>by
  have:=H ν τ υ π ς ρ own past κ below p
  exact this
 cases hT:nl .nil 0 D.cells with
 | none =>
  have:=G (fun _=>0) (fun _=>0) (fun _ _=>.none) (fun _=>default) #[] (fun _=>Post.zero)
  unfold uY at this
  rw [hT] at this
  cases this
 | some T =>
  let X:=cC D.cells
  let Fin:fL:=fun ν τ x=>(x.d=true→D.dy=true)∧j2 x.T (ag D.cells) D.bx=true∧cM D.bx=true ∧
   x.r=D.r (bz (aL x.T) D.bx) (bz τ D.tx) ∧
   j2 x.T 0 (ox 0 D.cells)=true∧(∀ (q j a:Nat) (o:Obj),(ox 0 D.cells)[q]?=some j→(cC D.cells)[q]?=some a→(D.po (bz (aL x.T) D.bx) (bz τ D.tx) (b6 x.T) (fun k=>(ν k).q))[q]?=some o→b6 x.T j=o∧aL x.T j=a) ∧
   (∀ (q j:Nat) (o:Obj),D.bx[q]?=some j→(D.nw (bz (aL x.T) D.bx) (bz τ D.tx))[q]?=some o→b6 x.T j=o)
  have D0:Rep B s D.cells.length X D.di T D.cells.length s:=by
   have at_:∀ i c,T.get i=some c→D.cells[i]?=some c:=fun i c h=>by
    rcases jV hT i c h with ⟨h1,_⟩ | ⟨j,h1,h2⟩
    ·simp [ST.get] at h1
    ·obtain rfl:i=j:=by omega
     exact h2
   refine ⟨fun i c h=>?_,fun i j c d h1 h2 e=>?_,ht,fun _ _ h _=>.inl h,Nat.le_refl _,rfl,rfl,Nat.le_refl _⟩
   ·have h1:=at_ i c h
    have hm:=List.mem_of_getElem? h1
    obtain ⟨q1,q2⟩:=hpre _ (dH hm)
    refine ⟨(List.getElem?_eq_some_iff.mp h1).1,q1,q2,fun hmu=>.inl (rW hm hmu),fun hi=>?_⟩
    exact absurd (List.getElem?_eq_some_iff.mp h1).1 (Nat.not_lt.mpr hi)
   ·have h1:=at_ i c h1
    have h2:=at_ j d h2
    have hnd':(D.cells.map (·.a)).Nodup:=by rw [← gi]; exact hnd
    obtain ⟨l1,g1⟩:=List.getElem?_eq_some_iff.mp h1
    obtain ⟨l2,g2⟩:=List.getElem?_eq_some_iff.mp h2
    have hne:=List.pairwise_iff_getElem.mp hnd'
    have e1:(D.cells.map (·.a))[i]'(by simpa using l1)=c.a:=by simp [g1]
    have e2:(D.cells.map (·.a))[j]'(by simpa using l2)=d.a:=by simp [g2]
    rcases Nat.lt_trichotomy i j with q | q | q
    ·exact absurd (e1.trans (e.trans e2.symm)) (hne i j (by simpa using l1) (by simpa using l2) q)
    ·exact q
    ·exact absurd (e2.trans (e.symm.trans e1.symm)) (hne j i (by simpa using l2) (by simpa using l1) q)
  have good:∀ ς ν τ,oR Fin ν τ (l7 (B.V lb D.dy D.sh κ ς ν τ) n hs us ⟨D.c,none,own,below,past⟩ .base D.lv D.start p D.di T D.cells.length 0 0 [] []):=fun ς ν τ=>by
   have e:=G (fun k=>(ν k).a - 2) τ (fun k=>(ν k).v) (fun k=>(ν k).p) ς (fun k=>(ν k).q)
   have hg:uY B lb cb (fun k=>Nat.succ (Nat.succ ((ν k).a - 2))) τ (fun k=>(ν k).v) (fun k=>(ν k).p) ς (fun k=>(ν k).q) κ D n hs us own below past p=l7 (B.V lb D.dy D.sh κ ς ν τ) n hs us ⟨D.c,none,own,below,past⟩ .base D.lv D.start p D.di T D.cells.length 0 0 [] []:=by
    unfold uY
    simp only [hT,rg,j0,mE]
    rfl
   rw [hg] at e
   cases hx:l7 (B.V lb D.dy D.sh κ ς ν τ) n hs us ⟨D.c,none,own,below,past⟩ .base D.lv D.start p D.di T D.cells.length 0 0 [] [] with
   | none=>rw [hx] at e; cases e
   | some x =>
    rw [hx] at e
    unfold cv at e
    simp only at e
    cases h0:(match x.d with | true=>D.dy | false=>true) with
    | false=>rw [h0] at e; simp at e
    | true =>
    rw [h0] at e
    simp only at e
    cases h1:j2 x.T (ag D.cells) D.bx with
    | false=>rw [h1] at e; simp at e
    | true =>
     rw [h1] at e
     simp only at e
     cases h2:cM D.bx with
     | false=>rw [h2] at e; simp at e
     | true =>
      rw [h2] at e
      simp only at e
      cases h3:cO (ox 0 D.cells) (D.po (bz (aL x.T) D.bx) (bz τ D.tx) (b6 x.T) (fun k=>(ν k).q)) with
      | false=>rw [h3] at e; simp at e
      | true =>
       rw [h3] at e
       simp only at e
       cases h5:j2 x.T 0 (ox 0 D.cells) with
       | false=>rw [h5] at e; simp at e
       | true =>
       rw [h5] at e
       simp only at e
       obtain ⟨L',R',e1,e2⟩:=mO e
       obtain ⟨e3,e4⟩:=mb (bA h3) fA e1
       simp only [List.cons.injEq,Sd.r.injEq] at e3
       obtain ⟨e5,e6⟩:=e2 e3.2
       exact ⟨x,rfl,e5,(fun hd=>by rw [hd] at h0; exact h0),h1,h2,e3.1,h5,e4,e6⟩
  ·show Ae B R ⟨D.c,none,own,below,past⟩ .base D.start p s
   refine im O (dy:=D.dy) (s₀:=s) (m₀:=D.cells.length) (X:=X) (bl:=below) (shs:=D.sh) (κc:=κ) ⟨hκ,fun h=>(hst h).1,fun h=>(hst h).2⟩ (Fin:=Fin) (R:=R) ?_ hlb n hs us ⟨D.c,none,own,below,past⟩ .base D.lv D.start p D.di T D.cells.length 0 0 (fun _=>[]) (fun _=>⟨0,fun _=>.none,default,Post.zero⟩) (fun _=>0) s hus hb rfl D0 (fun ς ν τ _ _=>good ς ν τ)
   rintro ν τ x m s' ⟨f0,f1,f2,f3,f7,f5,f6⟩ E
   have up:∀ {a o},cR x.d s'.heap a o→cR D.S.dy s'.heap a o:=fun z=>z.map (d':=false) f0 (fun h=>by cases h) fun _ y=>.inl y
   have hc1:=eD f1
   have hlen:ag D.cells=D.cells.length:=j0 _
   have cellAt:∀ i,i∈D.bx→∃ c,x.T.get i=some c:=fun i hi=>(hc1 i hi).2
   rw [f3]
   refine k (b6 x.T) (fun k=>(ν k).q) s' (bz (aL x.T) D.bx) (bz τ D.tx) ⟨E.top,fun a o h1 h2=>up (E.keep a o h1 h2),E.size,E.gens,E.os,fun q a o h1 h2=>?_,fun q a o h1 h2=>?_,fun a ha=>?_,gf E.inj cellAt (cq f2),gt,gt⟩
   ·have hq:q<(ox 0 D.cells).length:=by rw [fA]; exact (List.getElem?_eq_some_iff.mp h1).1
    have g:=List.getElem?_eq_getElem hq
    obtain ⟨e,ea⟩:=f5 q _ a o g h1 h2
    obtain ⟨c,hcell⟩:=(eD f7 _ (List.mem_of_getElem? g)).2
    simp only [b6,aL,hcell] at e ea
    have:=(E.own _ c hcell).2.1
    rw [ea,e] at this
    exact up this
   ·obtain ⟨i,hi,rfl⟩:=mD h1
    have e:=f6 q i o hi h2
    obtain ⟨c,hcell⟩:=cellAt i (List.mem_of_getElem? hi)
    simp only [b6,hcell] at e
    simp only [aL,hcell]
    rw [← e]
    exact up (E.own _ c hcell).2.1
   ·obtain ⟨i,hi,rfl⟩:=fF ha
    obtain ⟨c,hcell⟩:=cellAt i hi
    simp only [aL,hcell]
    exact (E.own _ c hcell).2.2.2.2 (hlen▸(hc1 i hi).1)
theorem RS.wpcL {B:Base} (O:B.Ok) {lb:List LibE} (hlb:∀ e:LibE,e∈lb→∀ c cs ms,(e.S c cs ms).Holds B) {D:RS} {us:List Use} (hus:∀ u:Use,u∈us→∀ A tk O ρs,bE B u.tl (u.S A tk O ρs)) (htl:D.tl=none) (H:D.RunL B lb us)
 {Γ:Ctx} {p:Pos} {s:Shared} {R:Result→Shared→Prop} (ok:D.S.Ok B Γ s) (k:∀ ob q s' bs ts,After B (D.SO ob q) s s' bs ts→R (D.r bs ts) s'):wpCode B.M Γ R p s:=by
 have W:=RS.wpL O hlb hus H (p:=p) ok k
 have e:D.start=.pure (.again D.c):=by unfold RS.start; rw [htl]
 rw [e] at W
 have W:dd B s∧Sem.finPost B.M Γ R (.again D.c) p s:=W
 have h:wpCode B.M (Γ.goto D.c) R p s:=W.2.2
 have:Γ.goto D.c=Γ:=by
  have:=ok.code
  obtain ⟨code,_,_,_,_⟩:=Γ
  obtain rfl:code=D.c:=this
  rfl
 rw [this] at h
 exact h
theorem RS.holdsL {B:Base} (O:B.Ok) {lb:List LibE} (hlb:∀ e:LibE,e∈lb→∀ c cs ms,(e.S c cs ms).Holds B) {D:RS} {us:List Use} (hus:∀ u:Use,u∈us→∀ A tk O ρs,bE B u.tl (u.S A tk O ρs)) (htl:D.tl=none) (hcl:∀ ob q,D.SO ob q=D.S) (H:D.RunL B lb us):D.S.Holds B :=
 fun _ _ _ _ ok k=>RS.wpcL O hlb hus htl H ok fun ob q s' bs ts A=>k s' bs ts (hcl ob q▸A)
theorem RS.holdsEL {B:Base} (O:B.Ok) {lb:List LibE} (hlb:∀ e:LibE,e∈lb→∀ c cs ms,(e.S c cs ms).Holds B) {D:RS} {us:List Use} (hus:∀ u:Use,u∈us→∀ A tk O ρs,bE B u.tl (u.S A tk O ρs)) (htl:D.tl=none) (H:D.RunL B lb us) (S:Post→Spec)
 (ok:∀ ρ Γ s,(S ρ).Ok B Γ s→D.S.Ok B Γ s) (af:∀ ob q s s' bs ts,After B (D.SO ob q) s s' bs ts→∃ ρ bs' ts',After B (S ρ) s s' bs' ts'∧(S ρ).r bs' ts'=D.r bs ts):Spec.HoldsE B S :=
 fun _ _ _ _ ρ₀ o k=>RS.wpcL O hlb hus htl H (ok ρ₀ _ _ o) fun ob q s' bs ts A=>by
  obtain ⟨ρ,bs',ts',A',e⟩:=af ob q _ s' bs ts A
  rw [← e]
  exact k ρ s' bs' ts' A'
theorem RS.holdsTL {B:Base} (O:B.Ok) {lb:List LibE} (hlb:∀ e:LibE,e∈lb→∀ c cs ms,(e.S c cs ms).Holds B) {D:RS} {j:Nat} {us:List Use} (hus:∀ u:Use,u∈us→∀ A tk O ρs,bE B u.tl (u.S A tk O ρs)) (htl:D.tl=some j) (H:D.RunL B lb us) (S:Post→Spec)
 (ok:∀ ρ Γ s,(S ρ).Ok B Γ s→D.S.Ok B Γ s) (af:∀ ob q s s' bs ts,After B (D.SO ob q) s s' bs ts→∃ ρ bs' ts',After B (S ρ) s s' bs' ts'∧(S ρ).r bs' ts'=D.r bs ts):Spec.HoldsT B j S:=by
 intro Γ p s R ρ₀ o k
 have ok':D.S.Ok B Γ s:=ok ρ₀ _ _ o
 have W:=RS.wpL O hlb hus H (p:=p) ok' fun ob q s' bs ts A=>by
  obtain ⟨ρ,bs',ts',A',e⟩:=af ob q _ s' bs ts A
  rw [← e]
  exact k ρ s' bs' ts' A'
 have e:D.start=dA Γ.code j:=by unfold RS.start; rw [htl,show Γ.code=D.c from ok'.code]
 rw [e] at W
 exact W
noncomputable def RS.Runs (B:Base) (D:RS) (n hs:Nat) (us:List Use) (cb:Bool):Prop:=D.RunsL B [] n hs us cb
noncomputable def RS.Runs2 (B:Base) (D:RS) (n hs:Nat) (us:List Use) (cb:Bool):Prop:=D.Runs2L B [] n hs us cb
noncomputable def RS.Run (B:Base) (D:RS) (us:List Use):Prop:=D.RunL B [] us
theorem RS.Run.one {B:Base} {D:RS} {us:List Use} {n hs:Nat} (h:∀ cb,D.Runs B n hs us cb):D.Run B us:=RS.RunL.one h
theorem RS.Run.one2 {B:Base} {D:RS} {us:List Use} {n hs:Nat} (h:∀ cb,D.Runs2 B n hs us cb):D.Run B us:=RS.RunL.one2 h
theorem oN {B:Base}:∀ e:LibE,e∈([]:List LibE)→∀ c cs ms,(e.S c cs ms).Holds B:=fun _ h=>absurd h List.not_mem_nil
theorem RS.holds {B:Base} (O:B.Ok) {D:RS} {us:List Use} (hus:∀ u:Use,u∈us→∀ A tk O ρs,bE B u.tl (u.S A tk O ρs)) (htl:D.tl=none) (hcl:∀ ob q,D.SO ob q=D.S) (H:D.Run B us):D.S.Holds B:=RS.holdsL O oN hus htl hcl H
noncomputable def cs:List Nat → Nat
 | []=>1
 | a::l=>match l with
  | []=>a
  | _::_=>cs l*2^a.log2+a%2^a.log2
noncomputable def ce (l:List Nat):Nat:=cs l%2^(cs l).log2
noncomputable def ae:=1048576
noncomputable def av:=cs [ae,ae]
noncomputable def aw:=cs [ae,1024]
noncomputable def ax:=cs [1025,ae]
noncomputable def c3:=1050624
noncomputable def iW:=cs [av,av]
noncomputable def ai:=cs [1049600,ae]
noncomputable def ak:=1048577
noncomputable def gy:=1080047616
noncomputable def br:=cs [1027,av,1027,aw,1104880339971]
noncomputable def aX:=cs [1041,aw,1041,aw,1041,av,1068049]
noncomputable def b8:=cs [1027,aw,1027,aw,1027,av,1053699]
noncomputable def c4:=cs [av,ae]
noncomputable def bh:=cs [1025,aw]
noncomputable def dq:=cs [gy,gy]
noncomputable def m2:=cs [1033,aw,1033,aw,1033,av,1059849]
noncomputable def bY:=1074839552
noncomputable def ny:=1140313856000
noncomputable def ft:=cs [1037,aw,1037,aw,1037,av,1037]
noncomputable def gG:=cs [iW,iW]
noncomputable def ck:=cs [1025,av]
noncomputable def bq:=cs [br,m2]
noncomputable def kM:=cs [c3,c3]
noncomputable def hJ:=0x1004000040100401
noncomputable def iL:=0x10a82a0002a0002a
noncomputable def gn:=1081089031
noncomputable def bi:=cs [av,1024]
noncomputable def jo:=1075841026
noncomputable def yW:=0x40c068180681a0001a
noncomputable def ek:=cs [ae,1038]
noncomputable def gS:=cs [gy,1062912]
noncomputable def oi:=1099547279394
noncomputable def xl:=0x1068360d0360d8000d800
noncomputable def pu:=1099534696470
noncomputable def cy:=1050625
noncomputable def eu:=0x414000140001405014
noncomputable def dI:=1088436224
noncomputable def cX:=cs [1037,av,1037,aw,1061901]
noncomputable def pV:=1099587125320
noncomputable def j8:=1099574542396
noncomputable def j4:=1099576639550
noncomputable def cQ:=cs [av,ax]
noncomputable def gx:=1073796204
noncomputable def qH:=cs [ax,1054734]
noncomputable def gv:=cs [gx,gx]
noncomputable def gM:=cs [ae,ax]
noncomputable def su:=0x44a0004a0004a
noncomputable def nY:=1099599708244
noncomputable def ku:=cs [dq,1062912]
noncomputable def gW:=0x444000440004411044
noncomputable def o7:=0x4661980019800
noncomputable def iE:=0x408000080000802008
noncomputable def nP:=1191943602262
noncomputable def cT:=cs [1076889602,ae]
noncomputable def kC:=1157627943
noncomputable def iY:=cs [ft,1034]
noncomputable def kK:=0x4120001200012
noncomputable def gz:=cs [jo,kM]
noncomputable def lE:=0x1000110900004424
noncomputable def j3:=1097908224
noncomputable def fj:=1216348296
noncomputable def ff:=1115768832
noncomputable def fI:=0x10381e0701e0780007800
noncomputable def la:=1119879212
noncomputable def ds:=cs [1026,ae]
noncomputable def qe:=0x41c0700007000
noncomputable def ey:=cs [iW,av]
noncomputable def iD:=cs [iW,ae]
noncomputable def iP:=cs [c3,ae]
noncomputable def iz:=0x418000180001806018
noncomputable def kG:=cs [av,aw]
noncomputable def ew:=1122072576
noncomputable def jR:=0x404000040000401004
noncomputable def nv:=cs [qH,gy]
noncomputable def zE:=0x11304c0004c0004c
noncomputable def dl:=cs [eu,ax]
noncomputable def jl:=cs [1038,ax]
noncomputable def ou:=1226213283840
noncomputable def fX:=1101661210626
noncomputable def fy:=cs [hJ,1024]
noncomputable def eT:=0x40c0000c0000c0300c
noncomputable def kB:=cs [ft,1032]
noncomputable def gD:=0x44221884218860008600086
noncomputable def gH:=cs [ae,1056]
noncomputable def kr:=cs [1049600,aw]
noncomputable def gB:=cs [1083426,oi,1058]
noncomputable def sr:=cs [1110076,j8,1084]
noncomputable def kU:=cs [gy,1055760]
noncomputable def jS:=0x4340d0000d000
noncomputable def rq:=cs [1058838,pu,1071126]
noncomputable def eP:=1073791074
noncomputable def dW:=cs [gG,gG]
noncomputable def iu:=1073790048
noncomputable def uv:=cs [0x401000010000100401,br]
noncomputable def fq:=1101060096
noncomputable def gE:=1140983808
noncomputable def zV:=0x10b05a0045a1680016800
noncomputable def gU:=1159895040
noncomputable def lB:=1099622776938
noncomputable def iB:=cs [gy,1062926]
noncomputable def dB:=cs [1113626662,ny]
noncomputable def jK:=cs [1112126,j4,1086]
noncomputable def uQ:=cs [1209085827172,o7]
noncomputable def fp:=cs [ax,1028]
noncomputable def dQ:=1094756352
noncomputable def og:=1114544090112
noncomputable def hE:=cs [1032,ae]
noncomputable def hA:=1126275072
noncomputable def qt:=cs [1124426,su]
noncomputable def iV:=cs [gU,gU]
noncomputable def kv:=1119879189
noncomputable def du:=cs [1086540,zE]
noncomputable def gR:=cs [c3,1024]
noncomputable def iG:=1073776710
noncomputable def jg:=1108414464
noncomputable def cU:=1143034881
noncomputable def jc:=1134680064
noncomputable def lV:=cs [gE,gE]
noncomputable def s4:=cs [0x42804c2800028,ny,1087488]
noncomputable def sW:=cs [1118878853158,dQ,0x112c00088200002a,gH,0x4200004b00024]
noncomputable def u7:=cs [pV,0x44c078000944c000231202812048]
noncomputable def BE:=cs [yW,1048602,yW,1048602,yW,1054]
noncomputable def iK:=1260478642
noncomputable def lF:=0x1000572c00015cb0
noncomputable def dK:=1109176406016
noncomputable def lw:=1282225995946
noncomputable def sw:=cs [1103115292,qe]
noncomputable def lI:=cs [gn,1029,ae]
noncomputable def qg:=0x462000620c0621806218800
noncomputable def lA:=cs [1045,ae,1045,ax]
noncomputable def fk:=cs [1050,av,1050,aw,1129576425498]
noncomputable def iv:=cs [1197594742,ou]
noncomputable def lS:=1099717148868
noncomputable def o8:=cs [1134676,nY,1108]
noncomputable def cV:=0x406000060000601806
noncomputable def sF:=0x10000c068000301a
noncomputable def qZ:=cs [1041,av,1041,aw,1073759249]
noncomputable def xS:=cs [kK,1108120437778]
noncomputable def lH:=1215588991084
noncomputable def ez:=1151490048
noncomputable def dh:=cs [ax,1132]
noncomputable def gC:=cs [1071126,pu,1046]
noncomputable def nc:=1099549376548
noncomputable def l3:=1155610624
noncomputable def lg:=1111566336
noncomputable def iO:=1142034432
noncomputable def kE:=1132578816
noncomputable def ka:=1132489784
noncomputable def o4:=0x44e0004e0004e1384e
noncomputable def nh:=0x450000500005014050
noncomputable def gA:=0x10003a0003a0e83a
noncomputable def nx:=0x40a0000a0000a0280a
noncomputable def kp:=cs [cX,1058816]
noncomputable def uu:=cs [1226928,av,1198,c4,1284195399854]
noncomputable def uk:=cs [1212578,av,1184,c4,1269162999968]
noncomputable def xN:=cs [1080039430,ak,1030]
noncomputable def jv:=1088421902
noncomputable def jJ:=0x1000160b8000582e
noncomputable def ko:=1073743878
noncomputable def yB:=cs [1060882,av,1036,aw,1114544025612]
noncomputable def zx:=0x106836018360d8000d800
noncomputable def ec:=cs [1047,ae,1047,ax]
noncomputable def e8:=cs [gn,1030,ae]
noncomputable def yk:=0x1024140481405000
noncomputable def yu:=cs [1118,aX,1118,sr]
noncomputable def rS:=0x100045230001148c
noncomputable def lM:=1119971328
noncomputable def pT:=cs [0x48a0004422800,ai]
noncomputable def pI:=0x1108862108621800218002180022043
noncomputable def nT:=0x442000420004210842
noncomputable def gT:=1089503232
noncomputable def ra:=1099626971246
noncomputable def ji:=cs [1050,aX,1050,iE]
noncomputable def tw:=cs [ae,0x10004a0904a0004a]
noncomputable def tN:=0x10003f200000fc80
noncomputable def kh:=cs [ae,1026]
noncomputable def od:=0x12789e0009e0009e1389e
noncomputable def zA:=0x43c1e8011e87a0007a
noncomputable def tY:=cs [lw,0x4002a8542a8a8]
noncomputable def qR:=cs [nv,ek,c3,1098932248,ak,0x4000681a00018,BE,dq,1115725864,ak,1117782056,iL,1094756392,iL,1094756392,iL,1148924766248,ku,av,c3,gS,c3,gS,c3,1038,uv,1155400781824,ak,1157550309428,xl,1078,xl,1078,xl,1082]
noncomputable def qJ:=0x10001d0f0000743c
noncomputable def lW:=1107329024
noncomputable def pO:=0x410000100001004010
noncomputable def iQ:=1224809616
noncomputable def nm:=cs [fX,iP,1082132486,qZ,1054739,nx,ae,0x4040040400004,kM,1024]
noncomputable def wl:=0x1170000b45c0002d170000b45c
noncomputable def rc:=cs [1090644,nY,1134676]
noncomputable def rF:=0x4381c8701c8720007200072
noncomputable def r6:=cs [ek,bi]
noncomputable def na:=1355062425600
noncomputable def oc:=cs [j3,j3]
noncomputable def qc:=cs [1125376,gM]
noncomputable def y0:=cs [av,1068,ae,la,aw,1068,ae,1069098]
noncomputable def jB:=1143085056
noncomputable def kj:=0x4d4350003500035000
noncomputable def ov:=0x1190640006400064
noncomputable def lN:=1073777736
noncomputable def wu:=cs [fj,0x110c882188822000]
noncomputable def kg:=cs [gB,ax]
noncomputable def uL:=cs [lE,1138166350884]
noncomputable def n9:=cs [ae,ai]
noncomputable def j6:=1073761320
noncomputable def or:=cs [0x44e0004e0984e,l3]
noncomputable def yI:=0x1158000a8560002a158000a856
noncomputable def nr:=cs [oi,1083426]
noncomputable def p1:=0x1000640006419064
noncomputable def lz:=cs [qR,kU,1038,bh,1038,og,gy,dI]
noncomputable def gY:=1073792100
noncomputable def l6:=1073770554
noncomputable def yM:=cs [0x403008210801f07806,dI,ai,lN,1084488,aw,1096,ey,1176896572488,kG,1149275208,gM]
noncomputable def r8:=0x10002408822150011184a11801
noncomputable def oz:=cs [1040,iY,1042]
noncomputable def qI:=cs [1077939202,ae]
noncomputable def fN:=cs [iW,bi]
noncomputable def gP:=cs [iW,aw]
noncomputable def lK:=cs [ae,1054734]
noncomputable def kP:=1176590337
noncomputable def jM:=1073798256
noncomputable def oQ:=cs [kv,kv]
noncomputable def l8:=1107363840
noncomputable def nQ:=cs [su,1138244001866]
noncomputable def ql:=0x10001a0001a0681a
noncomputable def mZ:=cs [br,iY]
noncomputable def jU:=cs [1094,ae]
noncomputable def y7:=cs [iu,iu,iu,1120]
noncomputable def j7:=1073758242
noncomputable def lx:=1245540655104
noncomputable def tC:=cs [1084488,pV,1122376]
noncomputable def dT:=1109479425
noncomputable def om:=cs [ek,ae]
noncomputable def sg:=cs [aX,1106,gW]
noncomputable def yY:=cs [su,1138243929162]
noncomputable def zM:=cs [0x11502c000291500009c500d850,ai]
noncomputable def xM:=cs [ae,1106,ff,0x450000500005000052]
noncomputable def wI:=cs [1154,aX,1154,gW]
noncomputable def pU:=cs [ae,bh]
noncomputable def gN:=cs [br,ft]
noncomputable def xb:=cs [1190,aX,1190,qt]
noncomputable def lQ:=1128293428
noncomputable def oj:=cs [kE,kE]
noncomputable def oZ:=0x10005028800140a2
noncomputable def jk:=cs [1093676,la,1093632]
noncomputable def jd:=0x43000030000300c030
noncomputable def xE:=0x10004c268001309a
noncomputable def qP:=cs [uu,c4,ck,1202,iK]
noncomputable def qs:=cs [uk,c4,ck,1275690389668]
noncomputable def kF:=0x12008000080000800fc80
noncomputable def kW:=1277926834342
noncomputable def nM:=1262879768728
noncomputable def ng:=1099683594404
noncomputable def lT:=cs [aw,1062,cT]
noncomputable def nz:=1099673108634
noncomputable def s7:=cs [1128,dB,ax]
noncomputable def oV:=0x10003b1e0000ec78
noncomputable def oS:=0x4380e0000e000
noncomputable def w0:=0x10600002c180000b0600002c18
noncomputable def zO:=cs [1105262650,j4,1112126]
noncomputable def fh:=1073742848
noncomputable def pN:=cs [1103130652,ak,1131755339804,fI,1054,fI,1054]
noncomputable def gQ:=1075927041
noncomputable def zh:=cs [1104,kC,kC,kC]
noncomputable def ja:=cs [av,bh]
noncomputable def iS:=1073856738
noncomputable def pA:=cs [dI,1124352]
noncomputable def pb:=cs [1122376,pV,1096]
noncomputable def wP:=cs [1062,ny,1118878863398]
noncomputable def wL:=0x10b05a1605a1680016800
noncomputable def l4:=1099629068400
noncomputable def wD:=cs [1084,aX,0x10b8000b8000b82e0b83c]
noncomputable def kH:=cs [1069098,iL]
noncomputable def vd:=cs [1101930,lB,1157226]
noncomputable def zT:=cs [1089618,ff,ff,1132544]
noncomputable def xP:=cs [ai,0x1000341a8000d06a]
noncomputable def jz:=0x43200032000320c832
noncomputable def zK:=0x484000840008421084
noncomputable def wW:=cs [c3,1062912,c3]
noncomputable def Ci:=cs [1178701924,ak,1209140248676,o7,uQ,uQ]
noncomputable def qy:=0x10781e0780007800
noncomputable def nE:=1146756313088
noncomputable def u8:=cs [sF,1073754138]
noncomputable def nO:=0x4120980004826
noncomputable def gO:=cs [1064,ax]
noncomputable def eG:=cs [ae,1050626,jo]
noncomputable def BF:=cs [yI,hJ,1168205824,zV,1114,zV,1114,zV,0x4560ac580a8560005e,b8,1136728,ai,y7,br,1120]
noncomputable def oa:=0x4170c02e0c0300003000030
noncomputable def qY:=cs [1093678,y0,1066]
noncomputable def DS:=cs [1174503520,ak,0x1188001886200060,qg,qg]
noncomputable def iN:=cs [ax,kr]
noncomputable def AT:=cs [ai,0x1000331a0000cc68000331a0000cc68]
noncomputable def rp:=1308020965570
noncomputable def p6:=0x10003c1e8000f07a
noncomputable def qq:=0x4b42d0002d000
noncomputable def sj:=0x1208822080020800
noncomputable def Bv:=cs [zT,fy,1073829974,nP,0x4001582a15801,nP,0x4001582a15801,nP,1196192520193,ff,1159767124,b8,1132628,ai,wl,br,1116]
noncomputable def zk:=0x102c180581806000
noncomputable def kq:=1074794496
noncomputable def yP:=cs [1024,ka,0x44c000300b800,ae,0x10d8000b800130000c82e,fq,1128267830,jS,1100009512]
noncomputable def yf:=0x106434000190d000
noncomputable def ei:=cs [1076,av,1076,ae,1128267828,aw,1076,ae,1126195250]
noncomputable def qa:=cs [av,1062,ae,1113587750,aw,1062,ae,1111508004]
noncomputable def yh:=cs [1050626,gR,1105954080770]
noncomputable def nR:=0x11d0740007400074
noncomputable def sR:=cs [1066020,nc,1085476]
noncomputable def sG:=0x10001e0f8000783e
noncomputable def fi:=cs [ax,1118]
noncomputable def kl:=1073752086
noncomputable def zo:=0x40704001040100001000010
noncomputable def jT:=cs [ck,ax]
noncomputable def xk:=cs [1093722,lM,lM]
noncomputable def zX:=0x400180001802f1805e18060
noncomputable def xF:=cs [1081344,lW,1089503233]
noncomputable def wb:=0x422118441184600046
noncomputable def pH:=1310170546372
noncomputable def v9:=0x11f07c0007c0007c0f47c
noncomputable def qi:=cs [1067026,kK]
noncomputable def tm:=0x44c0004c0004c1304c
noncomputable def wX:=cs [1174,c4,1174,ae,1231028374,bi]
noncomputable def lc:=1074792450
noncomputable def qz:=1099597611090
noncomputable def ll:=1174453344
noncomputable def zi:=cs [1075,ae,1075,ax]
noncomputable def iC:=cs [1064,aw]
noncomputable def w4:=cs [1061,ae,1061,ax]
noncomputable def nq:=0x100074000741d074
noncomputable def kQ:=0x1000ae000ae158ae
noncomputable def ui:=cs [qH,ku,hJ,1067008,xS,xS,xS,1046,kU,1038,b8,1062928,ai,w0,br,1048]
noncomputable def oY:=0x45e0005e0005e1785e
noncomputable def zL:=cs [rF,1099633321076]
noncomputable def o9:=0x4a0000a0000a0280a0
noncomputable def ye:=0x13d0f4000f4000f4
noncomputable def zg:=cs [ae,pu,1046,ax]
noncomputable def pM:=1187644481618
noncomputable def iZ:=cs [gz,ax]
noncomputable def Co:=cs [1121007456256,ak,0x10501605800058000581600014,rq,1044,rq]
noncomputable def gI:=cs [ax,ko,ko,ko,1080039430,qZ,1054739,yh,qZ,0x10040401000010000100401813]
noncomputable def oy:=cs [cX,1069056]
noncomputable def jj:=cs [1126400,zE]
noncomputable def lo:=1170256988
noncomputable def nL:=cs [1054,av,1054,ae,1105199134,aw,1054,ae,1103115292]
noncomputable def wO:=cs [1107035167751,ae]
noncomputable def CB:=cs [0x4660c0621806218800,ew,ew]
noncomputable def wc:=cs [1059,ae,1059,ax]
noncomputable def py:=0x4371c06e1c070
noncomputable def zB:=cs [yM,1122376,cQ]
noncomputable def tD:=cs [1256372398,ak,1048750]
noncomputable def Cq:=cs [0x11d8761d8001d8001d876,ak,0x43d0f03b0143e1e0761d87600076]
noncomputable def qX:=0x12e8ba000ba000ba
noncomputable def Do:=cs [1110,av,0x11b86e1b8001b8001b86e,ak,0x11c06e1b86e0006e]
noncomputable def kN:=cs [0x10003c0743c0783e,j4,1112126]
noncomputable def lu:=cs [1048684,lH,0x10006a0d06a0d46c]
noncomputable def yK:=cs [bq,1050,iE,1102848]
noncomputable def ul:=0x4d20006834800
noncomputable def kL:=1166198784
noncomputable def kV:=cs [dK,eu]
noncomputable def ld:=cs [sj,1168367485058,jB,oz,iv,1158,c3,1183744,iO,1210056836]
noncomputable def xp:=cs [1057,ae,1057,ax]
noncomputable def gZ:=cs [1266,av,1266,ae,1327497458,aw,1266,ae,1325522160]
noncomputable def hC:=cs [1252,av,1252,ae,1312817380,aw,1252,ae,1310834914]
noncomputable def yZ:=0x1028080280a0000a0000a03000
noncomputable def Dx:=cs [1122106386476,la,0x10542c0a82c0b000,la,1093632]
noncomputable def n4:=cs [c3,1081344,gT,1105199136]
noncomputable def qr:=cs [1078988802,ek,av]
noncomputable def oh:=0x100028000280a028
noncomputable def p9:=cs [1138,p1,1124]
noncomputable def yS:=cs [1085514,lg,lg]
noncomputable def px:=0x480200002000020080
noncomputable def AP:=cs [1161908308,ak,0x4001585600054,nP,0x4001582a15854,nP,0x4001582a15854,nP,1196192520276]
noncomputable def lP:=0x4902400024000
noncomputable def ux:=0x4ca3280032800328ca
noncomputable def nn:=cs [1067008,hE,1042]
noncomputable def kb:=1176591361
noncomputable def q7:=0x4b22c8002c800
noncomputable def lp:=cs [1206426,nz,1178]
noncomputable def B3:=cs [0x446238001188e,aw,1166,ey,1252131936398,kG,1222711438,gM,1194126,cQ]
noncomputable def Dv:=cs [0x4472400011c90,aw,1168,ey,1254281518224,kG,iQ,gM,1196176,cQ]
noncomputable def wU:=cs [ku,dI,1126400,dI,ai]
noncomputable def kD:=cs [av,jv,1151336466,dI,ai]
noncomputable def tq:=cs [pI,0x1008021108a22894,ax,1202312,fj,0x44b090821580112898128012588825800,av]
noncomputable def xL:=cs [0x1000f61e8f6000f6,ye]
noncomputable def xz:=0x49e0009e0009e2789e
noncomputable def tc:=cs [av,1155530830,l3]
noncomputable def pX:=cs [uu,c4,uu,c4]
noncomputable def pa:=cs [1329403746518,ck,1329403746518,ck]
noncomputable def pR:=cs [1202,iK,1260607702,iK,1267926]
noncomputable def pv:=cs [uk,c4,uk,c4]
noncomputable def re:=cs [1314364006600,ck,1314364006600,ck]
noncomputable def qf:=0x1320c829051290a4320c829051290a4
noncomputable def tB:=0x4001a0331a0661a06800068
noncomputable def tz:=cs [j6,j6,j6]
noncomputable def tP:=cs [iE,ax,1078]
noncomputable def r5:=0x4380001b0e00006c38
noncomputable def kx:=cs [fp,ak,1028,fp,gz,fp]
noncomputable def tK:=cs [1030,cX,c3]
noncomputable def wK:=cs [1212289156,ak,1214251140,gD,gD]
noncomputable def tX:=cs [aX,1072,eT]
noncomputable def yC:=0x10a45400029150000a454
noncomputable def nB:=0x1000940009425094
noncomputable def uX:=cs [0x426138261384e,gS,dI,og,gC,c3,iB,1062926,ax]
noncomputable def pt:=cs [ai,1075254]
noncomputable def sL:=0x1157ff000320dc38
noncomputable def iI:=cs [ax,0x410000070400001c10,kB,1040,ai,1118838988818,hE,1042,ai,1120986473492,xN,0x40605816000160001605800,rq,1030,rq,0x10241400009050000680a05806,ae,1044,iD,1044,xN,1103130624,qe,1030,sw,1030,sw,0x4120201200008048000800d07006,kB,1042,ai,j7,j7,1083426,cX,0x1088020280a02000,cX,0x10280a0282202000,ds,1056786,yB,bh,yB,1042,kB,yB,1042,ai,uL,1103846445057,cy,1060,jR,ck,1060,kh,kM,ax,1060,jR,gz,1067008,jR,1142503284776,ai,1068,oQ,1091626,ak,0x104007040000b0000c8160b82a0b82e0002e0002e0002e0002a,kB,1064960,ai,1155346228276,xN,1130420224,zx,1078,zx,1078,zx,1082,yf,ae,1076,iD,1076,ai,qJ,1084,cX,1090527232]
noncomputable def rK:=0x1177ff0003a0fc40
noncomputable def ni:=cs [1119926318,y0,1066]
noncomputable def sP:=cs [qy,0x104010088000381e0381e,ft,1136037724166,ai]
noncomputable def CM:=0x1138000984e00026138000984e
noncomputable def sk:=cs [1083426,oi,0x4200040f0043500022]
noncomputable def zv:=0x4da3680036800368da
noncomputable def CH:=cs [1108086,jc,jc,1169408,fy,1073866874,zA,1048698,zA,1048698,zA,1150,jc,1197534328,b8,1169528,ai,tN,1236950645888,br,1152]
noncomputable def p3:=cs [1060,cU,1041]
noncomputable def rZ:=0x1328ca000ca000ca190ca
noncomputable def Eh:=cs [c3,aw,1026,c3,aw,1118857873410,ak,0x1050000501400012,yk,1094713364,yk,1094713364,yk,1048,iP,ds,fX,0x10681a070000341c00011090100880f0800e0780000400,ak,0x10981200c260001a,ny,sW,1024,s4,sW,1024,s4,sW,1024,s4,sW,1024,s4,0x10a028070140a82a0341c000460482606826,ak,0x42300c4800028,u7,0x40400c17058150140617000,o4,tw,u7,0x40400c1a064180140617400,nh,tw,u7,ai,Bv,sr,lI,1142876,lA,1095774,ew,ew,1144832,sr,yu,bY,1051,yu,bY,1144860,bq,1136717918,j8,0x405004350003c,DS,qg,qg,CB,ew,ew,yu,1118,aw,1172307993,b8,1200542021726,AT,1211180829800,eT,bh,1128,eT,1182900328,xP,0x46a000341a8000d06a,aw,1055,ae,0x46a1a86a0006a,ai,gv,gx,0x46c0d80108c6e1b86c,dh,dh,ax,1159276,n9,jM,1105008,ae,1136,ai,1106034,ae,1138,ai,1224065737844,pU,1138,aw,1045,iW,1219888209008,aw,1136,aw,1045,bi,1136,aw,1063,qI,1106,av,Cq,0x11e8001e8001e87a1e83d1f07c00c29,tw,u7,0x11f8001f8001f87e1f80400c2007c1e0140617800,tw,pV,0x4251304c208231202812048,gR,jo,ae,1050626,ae,1050626,ae,1183876,ak,0x44200c8600084,gD,pT,0x445230001148c,aw,1164,ey,1249982354572,kG,1220613260,gM,1192076,cQ]
noncomputable def s3:=cs [gy,jl,ax]
noncomputable def s8:=cs [1157665868,dq,dq,1088438272]
noncomputable def w2:=0x1000920009224892
noncomputable def uh:=cs [1161326,ra,1134]
noncomputable def p7:=cs [1027,kM,1024,nm,nm]
noncomputable def jH:=cs [qH,0x10681a0680001c10,ak,1129605759002,qe,1050,sw,1050,sw,0x1020120800d0701a,gy,1038,iB,0x4360a8360002a0002a0d82a0480e,gy,0x4440e044000380003811038048120480e,gy,0x111822118001180004846118461180e,dI,c3]
noncomputable def sx:=cs [1062912,ai,BF,o8,gn,1042,ae,1146976,w4,eP,eP,1204738375778,aX,1122,o8,bY,1148968,bq,1122]
noncomputable def n3:=cs [Ci,0x4001a83219864,eP,1176551522,aX,1122,o8,1122,b8,1122,o8,1149026,ai,gv,gv,1132]
noncomputable def tH:=cs [1191299186,av,1136,ae,1191182448,aw,1136,ae]
noncomputable def li:=1077940228
noncomputable def Ah:=cs [1052,ak,0x10781c0701c0001c]
noncomputable def nJ:=cs [ax,ax]
noncomputable def p8:=0x448248902489200092
noncomputable def lm:=cs [1048,av,1048,aw,1127428939800]
noncomputable def r4:=cs [av,1097728]
noncomputable def BA:=cs [ae,1256,ae,0x4e0000e0000e0]
noncomputable def y6:=cs [0x4002604b26096,nM]
noncomputable def xB:=0x440000400004010040
noncomputable def rk:=cs [1099685775526,kW]
noncomputable def Ed:=cs [uL,fy,0x42404826044240002c04c28004280a0000a0000a0130a0010a028000280002804c28004280a0000a0000a028,b8,1085478,ai,jJ,1148903774254,br,1070]
noncomputable def CG:=cs [1214388358,ak,1216348294,wu,wu,wu,1164]
noncomputable def um:=cs [ae,1132,ja,1159276,ai]
noncomputable def Bg:=cs [1125224548,gY,1211279395944,iW,1153024,hA,1048678,ov]
noncomputable def A5:=cs [j8,0x41f100000743c0f03c,ae,1088,aw,0x10003e0783e0003e]
noncomputable def oq:=cs [gx,0x11b06c1b8361b8001b8001b06e1b86e1b86c0d46c,aw,gx,1132]
noncomputable def s9:=cs [qP,qP,qP,qP]
noncomputable def sZ:=cs [qs,qs,qs,qs]
noncomputable def pW:=cs [gz,1052673]
noncomputable def ru:=cs [1063,cT,Do,0x4000e83808856004721d8720040e0e4741d0020ac390e0370143e]
noncomputable def Br:=0x1030000140c00005030000140c
noncomputable def zH:=cs [u8,ji,1097728]
noncomputable def lD:=cs [0x14188241800201022010240902,ae,1270,ae,1262,na,bh,0x5020010200102001042050400104]
noncomputable def kX:=cs [0x4f81ecf8000793d0793d0f4,BA,bh,xL]
noncomputable def yU:=cs [1062926,jv,1062912,ai]
noncomputable def zU:=cs [1084239884,av,1034,ae,1084227594,aw,1034,ae,1082133512]
noncomputable def s0:=cs [1052,av,1052,aw,1131723911196]
noncomputable def oA:=cs [aw,1048610]
noncomputable def we:=0x4271404e140500005000050
noncomputable def rC:=0x1178be2e8be2f8002f8002f800
noncomputable def nH:=cs [jo,cy,1025]
noncomputable def w9:=cs [c4,1196,ae,1254097068,bi]
noncomputable def pJ:=cs [1216676,ng,1188]
noncomputable def An:=cs [1119924268,ak,0x4320582e0b02e0b8000b8000b8160b82c0b82e0002e0002e0582e0b02e0b8000b8000b82e0002c]
noncomputable def xd:=cs [1102,c4,1102,ae,1155530830,bi]
noncomputable def wv:=0x47c1f0001f0001f07c
noncomputable def y5:=cs [1212,c4,1212,ae,1270874300,bi]
noncomputable def Bi:=cs [0x110040100001000010040,ak,0x1108401004000040]
noncomputable def AC:=cs [0x410138120002613800,c3]
noncomputable def Cb:=0x424128481284a0004a0004a0004c0944c0004c
noncomputable def wR:=cs [B3,1166,lx,pI,pT,Dv]
noncomputable def sf:=cs [1196176,bi,fj,tq]
noncomputable def yF:=0x1154ac000552b000154ac
noncomputable def qQ:=0x1000532a00014ca8
noncomputable def Cc:=cs [av,0x11e87a1e8001e8001e87a,ak,0x11f07a1e87a0007a]
noncomputable def rd:=1421948748076
noncomputable def wo:=cs [1160,c4,1160,ae,fj]
noncomputable def wy:=0x1000fe000fe000743a800
noncomputable def wj:=0x43e0f8000f8000f83e
noncomputable def CI:=cs [0x13a8ea000ec1d4ec000ec000ea3b0ec3b0ec3a8743a8001d8ee210ee,ai]
noncomputable def yq:=cs [1258,eu,1288426,zK]
noncomputable def yN:=cs [1094,c4,jU,1147142214,bi]
noncomputable def xA:=cs [1142,c4,1142,ae,1197473910,bi]
noncomputable def ya:=0x4462388c2388e0008e
noncomputable def Da:=0x4ea1d0ea000ec000ec000ec3b0ec3a8ea1d0ea0007e3f87e3f8fe3f8fe
noncomputable def xI:=cs [1258,iz,1288426,zK]
noncomputable def zj:=cs [1121996842,dq,dI,c3,gS]
noncomputable def x7:=cs [nv,1123157039104,ak,0x1060000601800016,zk,1098907672,zk,1098907672,zk,1052,dq,dI,c3]
noncomputable def Dy:=cs [0x100c1d0701e06c84158010e03e0e0010380e00c0206819,ae,1049600,av,1168263675968,ck,0x40e1001f10040]
noncomputable def zb:=cs [1187561605122,sg,1121976402,cT,1094,av]
noncomputable def wr:=0x108042004421080010800
noncomputable def zQ:=cs [0x1000c2180c2184c4,lS,1249476]
noncomputable def pc:=cs [1159956562,kP,1163304,aw]
noncomputable def wA:=cs [1049601,ji,bY,1026]
noncomputable def xg:=cs [1063968,gT,gT]
noncomputable def sm:=cs [ai,l6,l6]
noncomputable def xY:=cs [1283556548,r6,ux,1255524,ax,0x4c2328c2004d0194cc330cc000cc000cc000ca190ca194cc330cc000cc000cc000cc,cy,r6,0x4d21a0d23480034800348d2,ax,1236,kj,1156308]
noncomputable def pP:=cs [ax,ds,ds,1050626]
noncomputable def E1:=cs [pN,fI,1054,fI,1048610,sF]
noncomputable def xj:=cs [1052,aw,1052,aw,1052,av,1079324]
noncomputable def A4:=cs [1098,du,1098,du]
noncomputable def pD:=cs [cX,1067008]
noncomputable def BK:=cs [1080321,ae,1054734,dI,1038,ai,iG,iG,iG,1094,hJ,1124352,yY,yY,yY,0x44608c48088460004e,b8,1120328,ai,zh,br,1104,gW,gn,1028,ae,1130576,zi,zT,sg,0x45200c02080030c400,gW,AP,ff,ff,1159725138,br,1106,gA,1132602,ai,wl,m2,1116]
noncomputable def qn:=cs [ax,0x40800008000030200000c08,ae,hE,0x4060000600006,c3,1101665409030]
noncomputable def wE:=cs [nv,Co,1127439423508,ku,wW,1107329056,ak,0x1040220802208800088000882200020,nr,1090553888,nr,1140330629152,dq,dI,0x4180c8170c0160b8150b000004000380e,dQ,1142503286784,ak,0x10d01900c3400028,jS,1100009512,yP,yP,yP,1102,dQ,0x10d8360a81b0e038,ak,0x114000140001402700c5000036,zM,BF,jK,lI,1146976,lA,eP,eP,1204738375778,jK,1122,aX,1122,jK,bY,1148956,aX,1122,jK,bY,1148957,bq,1122,jK,1107028922368,Ci,uQ,uQ,0x4001a83219864,eP,eP,eP,1176551522,aX,1122,jK,1122,aw,1176502298,b8,1204841187426,ai,gv,gv,gx,1132,pO,ck,1132,c4,1132,c4,ai,1159276,lT,Do,0x47200072000721c8720e4741d0020ac390e0370143f,xM,zM,CH,gW,lI,1179776,lA,1114242,lV,1181696,gW,wI,bY,1055,wI,bY,1181728,bq,1154,gW,1107028922368,wK,gD,gD,gD,1162,lV,lV,wI,1154,aw,1210056732,b8,1239234513026,ai,rS,rS,1249835553932,pO,0x48c2308c00046004232388e,ai,0x12400011c90000472400011c90,ax,1168,ax,1168,ax,1196176,bh,1065,cT,1142,av,0x124892248002480024892,ak,0x49600096000962589612c98260020ec4b1284901441250922489200092,xM,zM,xE,1264867946650,hJ,0x4012789e0009e0009e27800,od,1025,od,0x12684d2704c268002884e27801,b8,1206428,ai,0x129000144a40005129000144a4,br,1188,qt,lI,1216676,lA,1132710,iV,1218560,qt,xb,bY,1058,xb,bY,1218595,bq,1190,qt,0x4a82a0a801c010d000,ak,0x4002a8aa000a8,tY,tY,tY,tY,lw,1286430959784,iV,iV,xb,1190,aw,1247805469,b8,1277927004326,ai,lF,lF,1288490278064,pO,0x4b02c0b000058004232c8b2,ai,0x12d000164b4000592d000164b4,ax,1233076,bh,1065,cT,1178,av,0x12d8b62d8002d8002d8b6,ak,0x4ba000ba000ba2e8ba174bc2f0021345d1705b014412e0b62d8b6000b6,xM,0x10a454150c009c500d850,iB,1038,av,1038,bi,1073940674,rp,1247328,ax,lS,pH]
noncomputable def qh:=cs [iP,1048578]
noncomputable def pd:=cs [1240,r6,zv,1271916,ax,0x4d2368d2004e01b4dc370dc000dc000dc000da1b0da1b4dc370dc000dc000dc000dc]
noncomputable def AX:=cs [kM,kB,1026,kM,kh,0x44a0000200800,c3]
noncomputable def xi:=cs [Eh,1164,lx,pI,pT]
noncomputable def oB:=cs [lz,1139712,yM,1096,r8]
noncomputable def pm:=cs [lz,1141760,yM,1096,r8]
noncomputable def rH:=cs [iB,ax,1049614]
noncomputable def pS:=0x4d4000d4000d4350d4
noncomputable def rf:=0x1000fe000fe3f8fe
noncomputable def oI:=0x12f0bc000bc000bc174bc
noncomputable def oE:=cs [1249476,lS]
noncomputable def vc:=0x4e4000e4000e4000e61c8e6000e6
noncomputable def xO:=cs [dI,ai,1082436,jg,jg,1118208,fy,0x100448120001200012048,tC,1025,tC,1181152780289,jg,1145079878,b8,1118278,ai,CM,br,1102,nT,e8,1128526,ec,zh,aX,1104,nT,bY,1130526,bq,1104,nT,0x45007c010d400,bq,1104,nT,dK,1159809106,ak,0x11485415000150001505400052,rc,1106,rc,1106,rc,0x1140001602915052,kC,kC,1130535,aX,1104,nT,1104,b8,1157709904,ai,xk,lM,1140736,dl,1114,dl,1114,xB,bh,1074790490,ew,ae,1118,ai,iu,1120]
noncomputable def w1:=cs [0x44b0000200800,ae,1180042266626,ae,ds,1026,c3,1126400,c3,0x420078200001e0001e0801e00818070180001c0001c0601c,ai,Ed,gB,wO,1095726,wc,1125333883952,j3,1099776,aX,1072,gB,bY,1036,j3,1072,gB,0x10d8360d0340d034,ak,0x10e83a0e81d0f03c02809068180741c06c071243800036,ak,1048634,wj,zO,zO,zO,1170410108986,oc,j3,1072,bq,1109428272,oi,0x4050043400022,j3,1072,eT,ax,1074,aX,1072,gB,1072,b8,1124122672,ai,1082436,jg,jg,jg,ae,0x4441104411044,ai,iG,iG,iG,1094]
noncomputable def Dn:=cs [gS,1181116020736,ae,1062926,qc]
noncomputable def rm:=cs [ck,1191897552982]
noncomputable def za:=cs [qH,1116691504144,uv,lK,1038,iY,c3,gy,1138204119054,ak,1113587748,wP,wP,wP,1066,ku,c3,aw,1038,iP,An,dq,1064960,pA,ae,0x4030781d07c1c0801b2985600438108380040e00c020681903c0e0185f,ae,1027,ae,1040,dI,qc,yS,1124352,fy,1183263569998,l3,1025,or,1025,or,1187598383105,lg,1151374412,b8,1124428,ai,yC,1134592,br,1108,pb,gn,1033,ae,1106333780,ae,1055,ax,yI,aX,1149313110,pV,0x1158030082100c3100048,aX,1110,pb,bY,1194093273122,ak,1196242763864,wL,1114,wL,1114,wL,0x4561582a158000a8560005e,gA,1082,bh,1110,ae,1110,mZ,0x10700114c0015800,ai,eP,1097826,ae,1122,ai,gY,1202691604580,ak,1209140248672,o7,1209085827168,o7,1209085827168,o7,0x4001a83219860,gY,1098852,ae,1124,iD,1202691604580,ak,0x4001b06c00060,lH,0x4001b0351b060,lH,0x4001b0351b060,lH,0x4001c0351b060,eP,1176551522,iY,1122,ai,1106034,kE,1193396224,kp,1221920305164,kp,1112409124978,ds,1176551522,fk,ax,1122,fk,bh,1122,fk,1122,ai,0x43c0f074000391d0000e474,ak,1197473852,ou,0x11d074000391d0000e8760f0761d800,ai,0x43b1e0000ec78,aw,1144,av,1199595520,iz,0x11e03c004231e87a,ck,1144,iz,zg,1144,iz,1144,gC,ae,1107060,ou,0x4740007e0e8760f0761d800,eu,aw,kK,ai,tN]
noncomputable def pE:=0x1000b6000b62d8b6
noncomputable def r3:=cs [nL,1081376]
noncomputable def xG:=cs [1087528,qa,1087528,qa,1087528,qa,1087528,qa]
noncomputable def te:=cs [1027,kM,1024,nm,jo,1038]
noncomputable def xm:=0x48c0008c0008c2308c
noncomputable def x4:=cs [qH,gS,uv,Co,1044,rq,1127439423508,dq,gS,c3,aw,1038,wW,pN,fI,1054,fI,1058,dq,ku,pA,ae,1062926,qc,1072176,oc,1097728,hJ,1128321024,jS,1025,lQ,jS,1025,lQ,jS,1159667437569,j3,1124098098,b8,1097778,ai,l6,l6,l6,1082,br,0x10b8000b8000b82e0b83a,gn,hE,1108026,xp,qJ,1073771580,wD,bY,1130713055252,ae,1084,av,1140353701888,ny,ae,1163975983142,dB,1104211968,wD,1048636,wD,bY,1045,ae,1084,ae,nc,1060,ai,sG]
noncomputable def rr:=cs [1180,av,1180,ae,1237319836,aw,1180,ae,1235300506]
noncomputable def D3:=cs [ae,1256194222,aw,1198,ae,1254184108]
noncomputable def rj:=cs [av,1166,ae,1222639758,aw,1166,ae,1220613260]
noncomputable def ud:=cs [1140353681446,aw,1062]
noncomputable def xZ:=cs [0x11785e17800178001785e,ak,0x11805e1785e0005e]
noncomputable def pr:=cs [1212578,av,1184,ae,1241514144,aw,1184,ae,1239496862]
noncomputable def Be:=cs [ak,1108120443920,av,1042,ai,1057812,ae,1044,ai,0x4160580002816,jR,1125306621976,ql,1050,av,1103130624,qe,Ah,1105213443]
noncomputable def yy:=cs [1122023470,ak,1124073518,oa,oa]
noncomputable def sv:=cs [av,1087488,aw,1063,qr,1093676,nE,1093676,ak,la,0x4180c8320100706017058050f82e0b02c]
noncomputable def AR:=cs [0x1060000081605816,av,1048,aw,1127428939800,ae]
noncomputable def ss:=cs [ui,iE,e8,1073176,ec,zH,ak,1050,yK,1101005825,yK,cy,E1,1060890,ji,1050,b8,1101031450,ai,lE,lE,1060,cV,ax,1060,jR,bh,1060,cV,1060,ai,nO,ae,1062,ai,1068072,ae,1064,ai,1144608804906,pU]
noncomputable def sY:=cs [1048,aw,1048,aw,1048,av,1075224]
noncomputable def si:=cs [1050,aw,1050,aw,1050,av,1077274]
noncomputable def DH:=cs [ax,Br,hJ,1064960,zo,zo,zo,0x40c0180e0140c00014,b8,1060878,ai,kl,kl,kl,1046,br,1046]
noncomputable def Ay:=cs [1100,zE,1100,ak,0x44c1304c0004c]
noncomputable def BL:=cs [1099878,hA,hA,1153024,fy,1130,lB,1074899050,vd,1025,vd,1217677862913,hA,1180748904,b8,1153128,ai,jM,jM,jM,1136,br,1136,p1,1124]
noncomputable def tj:=cs [nr,0x10781c00026048260001008816]
noncomputable def Dt:=cs [1080,oS,0x1068000743c0001b0e024]
noncomputable def sp:=cs [lz,1140736,zB,1096,r8]
noncomputable def y4:=cs [ae,0x40009011090000900007000138000801c]
noncomputable def uf:=cs [Eh,1192076,bi,fj,pI,pT,wR]
noncomputable def C0:=cs [qR,kU,jl,1038,bh,1038,og,gy,jl]
noncomputable def Bq:=cs [kM,aw,ds,0x4020400004012,qc,0x1070000341c0000d070000341c,hJ,lW,xF,1056,xF,1056,xF,0x41c0381e0341c00024,b8,1077278,ai,nO,0x4260001209800,br,1062,ql,1050,gn,1037,ae,1123063846,ae,1071,ax,tz,1064,aX,1064,ql,1050,bY,0x42804c280000b]
noncomputable def Am:=cs [fy,0x10c46400464190001900019064,ov,1125224449,ov,0x1180301882f180001a03119001,b8,1146978,xP,1213328314474,br,1130]
noncomputable def D4:=cs [bh,1094748,ae,1116,iD,0x118862188001880018862,ak,0x10c403190621886200062,ov,Bg]
noncomputable def ww:=cs [qR,kU,jl,jl,jl,1038,r6,0x43c0743c0f0000f0000f03c,ax,j4,1166148632638]
noncomputable def CU:=cs [0x10cc681a02d170001b064,aw,1116,gG,1170307072,c4,0x11986e198001b8001b8661b85c,av,0x4701c0701c0701c070,ak,0x1000701c07200070,zL,zL]
noncomputable def DX:=cs [rF,1167480,lT,1092,Cc,0x47e2087e0040e0fc80200020883f0f83d0143f,dT,1073807422]
noncomputable def xW:=cs [om,j8,1084,om,j8,1049660]
noncomputable def De:=0x12800013ca00004f2800013ca0
noncomputable def yp:=cs [oZ,1273457885346]
noncomputable def sK:=cs [qR,kU,jl,jl,jl,1062926]
noncomputable def xn:=cs [0x111044110420783e,ak,0x4001184600044,wb,1048646,wb,1048646,wb,1098,wU,zh,fy,0x100454150001500015054,rc,1025,rc,0x11402814827140001602915001,b8,1130578,ai,xk,1140736,br,1114,o4,e8,1140826,ec,wl,aX,1116,o4,bY,1142821,bq,1116,o4,dK,1116,bq,1116,o4,0x45e1785e040010dc00,ak,0x40018000180600005e,zX,zX,zX,0x4000b45c0002d170001902f1805e18060,lo,aX,1116,o4,1116,b8,1170305116,ai,1099878,hA,hA,hA,1153024,kg,1126,kg,1126,kg,1126,kg,1126,dl,1126,bq,1126,sk,1081448,cU,1100815,av,1126,bi,1130,lB,1213382895722,ax,1048684]
noncomputable def xQ:=cs [1048684,lH,1191236716,hA,1126,mZ,1126,iP,1126,ae,lB,1130,ae,1126,ae,lB,1115684970,cT,1104,av,0x11e0781e0001e0001e078,ak,0x47c0007c0007c1f07c0f87e1f8020a03e0f43c014401e8781e07800078,nn,iv,av,px,1152,ak,0x48210003208802008000080]
noncomputable def rJ:=cs [om,j4,1086,om,j4,1049662]
noncomputable def tT:=0x1280a0000a0000a013ca0
noncomputable def sT:=0x4552b0aa2b0ac000ac000ac
noncomputable def uW:=cs [dB,0x109001044010d400]
noncomputable def uB:=cs [iB,ax,1138817038,ak,1048638]
noncomputable def rD:=0x11108a0008a2280022800
noncomputable def xV:=0x1000ae000ae2b8ae
noncomputable def DZ:=cs [1147213894,ak,0x11184812000120001204800046,tC,1094,tC,1181152780358,wU,Bv,nh,e8,1142876,ec,1095774,ew,ew,1144832,aX,1118,nh,bY,1144870,bq,1118,nh,dK,1118,bq,1118,nh,1118840085504,DS,qg,CB,ew,1118,aX,1118,nh,1118,b8,1172404318,AT,s7,s7,s7,s7,1128,dl,1128,bq,1128,dB,0x46a09001044010d400,p3,1076,fh,1128,ai,gx,1191297136,ak,0x10e0721c0721c8001c8001c87200070,rF,rF,1048694,gv,1132]
noncomputable def tU:=cs [ae,1132,cQ,0x4680cc680006c,mZ,1128,iP,1128,ae,ra,1134,ae,1128,ae,ra,1115684974,cT,1106,av]
noncomputable def rR:=0x472398e4398e6000e6
noncomputable def va:=cs [1048770,rp,0x4003106131060308be]
noncomputable def tG:=cs [0x1218860008600086,jB]
noncomputable def vZ:=0x4d8000d8000d8360d8
noncomputable def uE:=0x12713a4e13a4e8004e8004e800
noncomputable def rI:=0x12ad5855958560005600056000
noncomputable def CX:=0x1518005180051800520a35200052000
noncomputable def uy:=cs [s8,dI,1128448,sx,1134676,nY,1048660]
noncomputable def Dp:=0x152810000a4528002894651146
noncomputable def rY:=cs [tc,uX,1062926,ax,1025]
noncomputable def sC:=cs [1105248286,cU,1038]
noncomputable def ub:=0x10240e088550041e0501e
noncomputable def Cm:=cs [zb,1153126,o7,1126,ak,0x11a0661986600066]
noncomputable def D8:=cs [kr,pM,ff,1106,sg,1132626,b8,1106,ai,1095774,ew,ae,1118,br,1118,fh,eP,1096800,ae,1146978,ai,gY,gY,1124,m2]
noncomputable def E8:=cs [0x11a86a0d46c1b00208c350d033,lB,0x11a86e1b86e1b86e,lK,1100600064014]
noncomputable def se:=cs [1094733844,cy]
noncomputable def wa:=cs [0x4380dc42158011c0721c00103801,aw,1088436238,ai,oV,1228360707192,fy,wv,1025,v9,1025,v9,0x11e03c1e83b1e0002003d1f001,b8,1171578,ai,1114242,lV,1181696,br,1154,iv,gn,1028,ae,1181826,zi,1115268,iO,iO,1183744,aX,1156,iv,0x48400c020e4030c400,iv,CG,iO,iO,1212153988,br,1156,gA,1183802,ai,0x1238001188e00046238001188e,m2]
noncomputable def rU:=cs [0x4a62a0a600401,cU,1133650,ae]
noncomputable def td:=0x105c0908855004140c014
noncomputable def sQ:=0x417044221540109030
noncomputable def rQ:=0x409044221540109014
noncomputable def sq:=cs [ck,1206937292900]
noncomputable def uS:=cs [1256374448,av,1198,D3]
noncomputable def uD:=cs [1148,oh,gO]
noncomputable def tI:=cs [ak,1241384027268,iv,gM,1121424,aw,1168,dW,1260573054976,cQ,0x44b2600012c98,fN,1176,kr,xE,1126554,bi,0x125800258002689a,ae,0x49a2684a25896,wX,0x49a2689e1389e0004a00096,wX,1174,ae,0x4982609e1389e,wX,1174,ae,0x1144a4258010183b1404aff8060ec4013c4affc060ec401040012bff2580025896000962589e1389e,bi,1174,ae,0x1258780ec780005129096,gP,1174,ae,1174,bi,1269162989718,w2,1170,ae,1162988285048,iB,1049614]
noncomputable def uj:=cs [1199695994,av,1144,ae,1199571064,aw,1144,ae,1197533302]
noncomputable def ug:=cs [1205993600,av,1150,ae,1205862526,aw,1150,ae,1203827836]
noncomputable def rP:=cs [gz,0x4040040401000010000100401004]
noncomputable def uN:=0x4c8318c83200032000
noncomputable def uK:=cs [1183878,av,1156,ae,1212153988,aw,1156,ae,1210122370]
noncomputable def ue:=cs [1176604772,av,1122,ae,1176502370,aw,1122,ae]
noncomputable def wQ:=cs [p7,nm,jo,1038]
noncomputable def uw:=cs [fp,ak,1028,ak,1028,cy,1050630,cy,1028,fX,1052672,fp,ae,1028,ds,1056776,ak,1084227592,yZ,1112401784836,yZ,1028,cy]
noncomputable def tf:=cs [yZ,0x404004040000c0140c04004,fX,1103807647744,ae,1028,ae,cy,iW,1077940226,cy,1050642,cy]
noncomputable def tL:=cs [1185001580,av,1130,ae,1184890986,aw,1130,ae]
noncomputable def tQ:=cs [1197596792,av,1142,ae,1197473910,aw,1142,ae,1195435124]
noncomputable def AD:=cs [0x485430854310c4310c,kq,1077936132,c3,0x1010040090842108]
noncomputable def wZ:=cs [kK,1108120440850]
noncomputable def zu:=0x102c180101806000
noncomputable def zY:=cs [1034,av,1034,aw,1112396539914]
noncomputable def AF:=cs [1050,b8,1127456204826,ai,lE,uL,gz]
noncomputable def Al:=cs [0x10c8320c8000c8000c832,ak,0x10d0320c83200032]
noncomputable def wx:=cs [ui,iE,gn]
noncomputable def A6:=cs [ui,iE,lI,1073176,lA,u8,1050,iE,ji,1097728,wA,1050,yK,ak,pN,fI,1054,fI,1054,fI,1048610,u8,1060890,ji,1050,aw]
noncomputable def Ag:=cs [Be,sP,0x4110900004424,ae,1060,ai,0x4260980004826,jR,0x42a0a82a0a0280a028,ak,1146802405418,nE,Dx,Dx,0x1000300542c0a82c,lE,0x1090110900004424,ax,1060,bh,1111527460,n9,0x4180c80006032,aw,1074,iD,1157550364722,ak,1159699890230,oS,1078,ka,oS,1078,ka,oS,0x43e0f8340f8000d0000d03e0d0320c83206032000180c8000f01b0e036,n4,sP,1081410,l8,ae,1090,ai,0x4441100008444,jR,0x448120481184611846,ak,1151336520,nQ,nQ,nQ,nQ,nQ,1102,l8,l8,l8,l8,1090,ax,1090,bh,1143015490,n9,1104,kC,1063,aw,1104,iD,1104,AP,1130496,kC,0x1170521405014027,qz,1198392428636]
noncomputable def Dg:=cs [ax,xg,1081344,fy,1060,nc,1074827300,sR,1025,sR,0x1080100880f080000a01109001,b8,1081378,ai,1069098,dQ,dQ,1091584,br,1066]
noncomputable def yn:=cs [1060,c4,1060,ae,1111490596,bi]
noncomputable def zP:=cs [DH,cV,gn,1034,ae,1125144598,ae,1073,ax,w0,aX,1048,cV,0x10600b06000004010c000,bq,1048,cV]
noncomputable def wi:=cs [1056,c4,1056,gH,1081344,bi,1056]
noncomputable def zm:=cs [gN,1095698,eT]
noncomputable def ze:=cs [c4,1068,ae,la,bi]
noncomputable def yg:=cs [ak,gz,kr,1098918936,aX,1048,cV,1073176,cV,1115684888,qI,1036,av,1077276,qe,Ah,0x104022088030181003c0e01440]
noncomputable def x8:=cs [1062,ny,1118878827558]
noncomputable def D6:=cs [1153511500,ak,1100,l3,1128448,l3,1100,or,1100,or]
noncomputable def wV:=cs [1064,av,1064,ae,1048616,iC,1064,ae,1113606182]
noncomputable def B8:=cs [w1,cy,1094,cy,ae,1094,av,cy]
noncomputable def Ef:=cs [1231181974,ak,0x4002609800096,nM,y6,y6]
noncomputable def yl:=cs [c4,1072,ae,1124073520,r4]
noncomputable def yo:=cs [lz,1138688,zB,1096,r8]
noncomputable def DW:=cs [jg,0x4020980011044,cy,ae,1060,av,1098,su,1124426,ak,0x109c501400104827098250143f1304a1284a0004a,AX,0x462178620005e0005e1885e00818170180005c0005c0605c,ai,BL,wO,1163376,wc,1160836604018,kE,1167360,aX,p9,bY,1068,kE,p9,0x11e0781d8761d876,ak,0x11f07c1f03e1f87e028090ec390f83d0f0071247a00078,ak,1048700,px,1148,kF,1148,kF,1148,kF,1241311740028,oj,kE,1138,bq,1138,p1,0x42f0043800064,kE,0x118000180001806018072,ax,0x118000180001806018072,bh,0x42b0045300072,CG,oj,ae,1138,br,kB,1165426,c3,pO,aw,kK,kE,1140,aX,1138,p1,0x4721c8721c87211c2a0085500456240560047200064,ai,0x112092000482480012092000482480012092,ae,0x1248922489224892,ai,1124502,ez,ez,ez,ae,1174,ai,0x4982600012c98,nB,0x12709c2709a2689a26894,ak,0x12709e27800278002789e0009c,od,1180,od,1180,od,1180,od,1273539754140,ez,ez,ez,ez,1202326,ez,1202326,ez,1202326,ez]
noncomputable def wJ:=cs [xi,B3,1194126,bi,fj,pI,pT,Dv,sf]
noncomputable def wm:=cs [zB,1122376,av,r8]
noncomputable def wC:=cs [C0,ck,1038,av,gy,xO,iN,1120]
noncomputable def x5:=cs [D4,Bg,CU,zL,DX]
noncomputable def xe:=cs [1104153660,A5,A5]
noncomputable def xq:=0x4002d85a2d8b42d8b6000b6
noncomputable def zc:=cs [Bq,ax,1064,aX,1064,ql,1089562,b8,1115684904,dW,nE,cQ,jJ,ni,qY,qY,qY,qY,1064,ql,1050,pt,fq,fq,fq,fq,1103872,b8,1078,ai,r5,br,0x10ec3803c0f03c0f,ae,1130391606,gN,1157550364684,c3,fq,1078,ax,1115684918,qI,1052,av,Bi,0x10884611803038220842001440,kM,ax,1122376,ak,0x42400c4a00048,nQ,AC,0x456000560005615856,ae,Cb,AC,oY,ae,Cb,1122,gR,1101699037262,gW,jK,ai,lc,0x10c425108540044c1904c,ae]
noncomputable def xf:=cs [j8,0x107c40100440743c0f03c,DZ,um,oV,1171576,aw,1199631480]
noncomputable def wH:=0x48f4811e481200012000120
noncomputable def xC:=0x48c1148c0008c2300023000
noncomputable def zl:=cs [qq,1292878663680]
noncomputable def wY:=0x400440874410e4411000110
noncomputable def yH:=cs [0x11e8000f07a0003e1f83e1f87e1f87e,iD,bh]
noncomputable def ws:=cs [p6,1230636118138,ax,1146,bh,1099643748478]
noncomputable def A3:=0x466338cc338ce000ce000ce
noncomputable def xo:=0x4d61a8d6350d63580035800
noncomputable def zC:=0x48141001411040010400104
noncomputable def zI:=0x4e8000733a0001c4e4378e4
noncomputable def yt:=cs [1048742,kW,0x1150aa0005229852298a6,oz,lp,1194,gR,0x1000a814ca8000a8]
noncomputable def wM:=cs [0x4944a800249260f926,ae,1322,aw,0x52600126001260012824d2800128]
noncomputable def Df:=cs [wy,Da,iz,xI,gC]
noncomputable def BO:=cs [za,1152,ax,1152,ax,1136768,aX,1110,pb,1110,gA,1136698,gA,1239161067578,j8,0x42c000820f082,cT,1098,av,1160,fj,1245683261440,ak,fj,0x4462388e0082511845110051088a22088,s3,0x100c491044a10847074480704b1156a1580123098230010380e0380e,ae,1076887555,ae,1027,aw,1040,dI,qc,De,fy,0x1144a4004a42900029000290a4,ng,0x45129001290a4,ng,0x1280502884f280002a05129001290a4,b8,1212578,ai,0x12a800150aa000542a800150aa,br,1194,xz,gn,1043,ae,1102227626,ae,1051,ax,yF,1224704,mZ,1224704,aX,1196,xz,0x4ac1080114c0000c02130030c800,aX,1196,xz,bY,1101,ai,lF,1137840,ae,1200,ai,0x4ae2b8ae2c800160b2,ak,1292973899950,qq,1292878663854,qq,1292878663854,qq,1297173631150,kL,kL,ae,1202,iD,1202,tD,0x1170ba2b8ba2e8002e8002e8ba,qX,1170401454,qX,0x4b015cb0000572c0002f85c2e8ae,iY,1228976,iY,1200,ai,0x45f3000017cc0,ae,1216,ai,1307817640130,tD,1073942724,pH,1175654574,lS,0x461310ae310c4,lS,0x1180c2000603080032061310ae310c4,ae,1218,iD,1218,tD,ux,1198,rZ,1198,rZ,0x4c017cc00005f3000033864328ae,iY,1216,ai,0x1340d0000673400019cd0,kp,1322852036620,kp,1112409125072,ds,1275165888,fk,ax,1216,fk,bh,1216,fk,1216,ai,1155282,ul,1183876,ak,0x46935084350d4000d4000d4000d400084,ul,1234,ai,0x46a358001a8d6,aw,1238,av,1298161664,iz,0x13586b00423360d8,ck,1238,iz,zg,1238,iz,1238,gC,ae,1155282,kj,1184059524,ul,1234,ai,0x46c368001b0da,aw,1242,av,1302351872,eu,0x13686d00423370dc,ck,1242,eu,ae,kK,ax,1242,eu,1242,qi,ae,1155282,kj,0x1348003806935084,ai,iS,iS,iS,1250,kp,1200,iY,1228976,ai,0x4e600072398001c8e6,kp,1200,iY,1200,ai,0x13a0e8000733a0001cce8,kp,1348621840396,kp,1112409125096,ds,1258380464,fk,bh,1200,fk,1228976,ai,0x11d0ea000743a8001d0ea,ae,0x484210ea1d0ea,ak,1156,na,na,CI,0x4773c0001dcf0,aw,1264,av,1325424640,iz,0x13c078004233c8f2,ck,1264,iz,zg,1264,iz,1264,gC,ae,1355062300906,na,CI,0x4793d0001e4f4,aw,1268,av,1329614848,eu,0x13d07a004233d8f6,ck,1268,eu,ae,kK,ax,1268,eu,1268,qi,ae,1355062300906,na,0x11d0ea000ea000fa1d8ee210ee,av,1258,ae,0x4840008400084,iD,0x13f0fc3f0003f0003f0fc,ak,0x4003f8003f8003f8fc3f0fc000fc,Da,eu,yq,qi,0x504409040010200102411023a8004010040100]
noncomputable def Dd:=cs [1127613704192,av,1050,ae,1101004826,aw,1050,ae,1103115292,ae,1184,av]
noncomputable def DJ:=cs [0x4030000300003,av,1155530766,ek,1128448,lK,1038]
noncomputable def AM:=cs [1085277239,n3,iz,dh,iz]
noncomputable def xH:=cs [ax,1048684,ru]
noncomputable def w7:=cs [1191945787393,kP,1092650]
noncomputable def zs:=cs [1174505568,kP,1097775]
noncomputable def xx:=cs [x4,1086,ax,1086,ax,1111527486,nc,1114636324,cT,1072,av,Bi,0x1088461180206022084200143e,Dn,CM,fy,0x10a05200452148001480014852,qz,0x4281480114852,qz,0x1138271402613800158281480114852,b8,1128528,ai,0x1160000ac580002b160000ac58,br,1112,tm,gn,hE,1138776,xp,xk,1140736,aX,1114,tm,bY,1059,lM,ae,1114,bi,1114,lM,1114,aX,1114,tm,1168113754,aX,1114,tm,bY,1060,ae,1114,av,ai,0x45c0002d170000b45c,ax,1116,ax,1116,aw,1063,cT,1102,av,xZ,0x10c4641900209c310c02f0143e,s3,1182900328,ak,1184890984,lB,1182902378,vd,1128,vd,1217677863016,dq,1114558707726,dB,1111527438,nc,1088421924,ae,0x1008390c0380843a0dc8615c011c0761c001,gR]
noncomputable def w6:=cs [nv,1125306621952,ak,0x4000681a00018,BE,ku,wW,1109428258,ak,1111490594,nc,1109430308,sR,1058,sR,1142479163426,dq,dI,c3,jk,lK,1062912,dI,1125376,ek,gC,1153433614,ae,0x4441284400402,gQ,1085473,c4,Ay,0x44e0004e0004e,l3,uX]
noncomputable def xt:=cs [jv,dI,1080047628]
noncomputable def zd:=cs [Dy,jd,1138233507904,BK,1124208792576,jd,ai]
noncomputable def wf:=cs [1081344,lW,1089503262]
noncomputable def yJ:=cs [0x1000520a0520a454,nY,1134676]
noncomputable def wq:=0x11685c1700017000
noncomputable def zS:=cs [kj,0x13586a35869350d0]
noncomputable def zy:=cs [Dy,eu,1139307249728,BK,kV,ai]
noncomputable def zJ:=cs [0x48c4688c4691a4691a0011a0011a,kq,1077936132,c3,0x1010040091645916]
noncomputable def yb:=0x476000760e8761d0761d800
noncomputable def yx:=0x1208002003f20040208822080020800
noncomputable def zR:=cs [1026,ak,1099792646412,AD]
noncomputable def xR:=cs [1185001578,kP,1102900,tc,1163342,ek,dI,1125376,kh,1228488695809,gQ,0x40e038000f03b,c3,0x480000800008020080,kr,jv,1128448,ae,1180042278926,ek,gC,1153433614,ae,0x40600c0210c421044001864,gS,1183263504384,ae,1062926,og,1071126,pu,0x100c0211c46114090186500016,gy,0x48a2508a0040e,cU,1123396,ek,w2,0x44c12c42150012609a26001248962589625896,ae]
noncomputable def xy:=cs [1048728,nM,0x11349c0004b2604b26098,oz,xm,1180,gR,0x10009a1309a0009a]
noncomputable def Bu:=cs [ax,ko,1105954080774,pW,1052680,cy]
noncomputable def B9:=cs [ax,0x408000030200000c08,iZ,1032,qZ,1056787,gz,cV,1056768,qZ,1056787,gz,jR]
noncomputable def CK:=cs [1084229634,ds,1108107855878,aX,1030,c3,0x1010010100001000,kM,1024]
noncomputable def DN:=cs [bh,ko,ko,ko,1105954080774,cX,iP,1037,av,1037,ae,1087373325,aw,1037,kh,gR,1080039430,dW,1110249056256,cQ,Br,1048581,zU,zU,zU,tK,tK,1075843076,tK,tK]
noncomputable def Cn:=cs [1224884368,ak,0x4002489200090,p8,1048722,p8,1048722]
noncomputable def AQ:=cs [AF,bh,1060,gz,1111527460,ai,nO,0x109800048260001209800,aw]
noncomputable def DM:=cs [ae,0x4260982600026,ai,tz,0x10500108c2a0a828]
noncomputable def CQ:=cs [Ag,n4,sP,iu,1096800,ae,1120,ai,eP,1149026,jR,0x466198661906419064,ak,0x4001a06800066,tB,tB,tB,tB,0x4001b0331a0661a06800068,iu,iu,iu,ll,ax,1120,bh,1174503520,n9,0x4361b8000d86e,aw,1134,iD,1222037850222,ak,1195376754,nR,1133629554,nR,1133629554,nR,0x47a1c06e1b86e0d86e000361b8001e0391d072,l4,1230636171386]
noncomputable def AG:=cs [0x10f03c0f0000f0000f03c,ak,0x10f83c0f03c0003c]
noncomputable def AW:=0x4000680c068010681a0001a
noncomputable def Dw:=cs [n9,1068,kv,1045,ae,1068,ai,1071150,ae,1070,ai,1151051258928,pU,1070,aw,1045,iW,1146802426924,aw,1068,aw,1045,bi,1068,aw,1063,qr,Al,0x106c380e00401c1b068190143e]
noncomputable def Ec:=cs [1151412298,ak,1098,jj,A4]
noncomputable def Bf:=cs [1027,av,1027,av,ae,1104880339971,dW,kG]
noncomputable def Ea:=cs [Dg,eT,gn,1042,ae,1091626,w4,1068,oQ,kv,aX,1068,eT,0x42c02007010030c400,bq,1068,eT,1102733960192,yy,oa,1119879220,kv,1093653,aX,1068,eT,1068,b8,1068,eT,1093676,pt,fq,fq,fq,1103872,tP,iE,ax,1103926,tP,tP,gN,1103892,yU,r5,ft,1105940,sm,1108026,oy,1161790773270,oy,1082,AR,1130391606,tP,ax,1078]
noncomputable def Eg:=cs [1151059631106,tX,0x4070082e00030,hE,1060,av]
noncomputable def Em:=cs [1046,av,1046,aw,1125281454102]
noncomputable def BZ:=cs [1155610702,ak,1157627982,we,we,we,1108,oc,1097776,gN,1097748,yU,1093722,lM,1140736,oy,1072,tX,1097776]
noncomputable def CJ:=cs [1073852524,lH,1132,ak,lH,1161324]
noncomputable def DF:=cs [ax,Ed,eT,gn,1040,ae,1116780590,ae,1065,ax,1072176,oc,1097728,tX,0x4300200700c030c400,tX,bY,1153251198980,ak,1155400728626,jS,1074,lQ,jS,1074,lQ,jS,1159667437618,oc,1097776,b8,1072,ai,l6,l6,1082,gN,1107988,yU,qJ,1084,ft,1110036,ai,sG,1112126,oy,1166085740566,oy,1086,AR,1124097072,xj,1072,ai,0x4400001f1000007c40,s0,0x4400882208822,xj,1088,ai,1081410,l8,ae,1116226,s0,ai,1136092283972,ae,1092,ai,lN,1096,ae,1096,ey,1096,c4,1145078852,oA,1092,ax,0x1110440900108c4a12844]
noncomputable def AA:=cs [B8,1101732583494,DW,1174,cy,1174,cy]
noncomputable def Bc:=cs [1132710,aw,1190,dW,1284195397632,cQ,0x4562b800158ae,fN,1198,kr,lF,1137840,bi,0x12b0002b0002c0b0,ae,0x12b0b02c0552b0ac,w9,0x12b0b02c0b4164b400055000ac,w9,1196,ae,0x12b0ae2b8b4164b4,w9,1196,ae,0x11204a14400157ff2b0002b0ac000ac2b0b4164b4,sL,1149315162,sL,1122395,sL,1116,sL,0x45f300ac004000c85e157fe000320dc5d,bi,1196,ae,1173553324,hA,1224806,gP,1196,ae,1196,bi,0x4a8000a8000a82a0a82d0002b0ac,ae,1153305725030]
noncomputable def BV:=cs [jg,1092,gM,1084488,aw,1096,dW,1183263569920,cQ,1104,kC,1063,ey,1130496,kr,1089618,ff,ff,bi,0x1138001380014852,ae,0x452148261384e,xd,0x452148560a856000260004e,xd,1102,ae,0x450140560a856,xd,1102,ae,0x44e138560a856,l3,0x10b85e13801000110b426ff800044160b026ffc000441605c2b09bff00011058170840009bff13800,bi,1102,ae,0x113824044240002e1784e,gP,1102,ae,1102,bi,1191853504590,qt,ae,1117803004964,AX,0x11c86e008181b0180006c0006c0606c,ra,1193392242,ai,CH,nq,1140,wO,1179776,wc,1169443324034,gE,1183744,aX,1154,nq,1140,bY,1076,gE,1154,nq,0x488220862188621874,ak,0x12308c230462388e0280910c4111845110071248a00088,ak,1254281445516,lP,1164,iQ,lP,1164,iQ,lP,1164,iQ,lP,1258500014220,lV,gE,1154,bq,1154,nq,0x4370043800074,gE,1191297154,l4,1136,ax,1191297154,l4,1136,bh,0x4330045300082,Ef,1267094151318,lV,ae,1154,br,kB,1181826,c3,pO,aw,kK,gE,1156,aX,1154,nq,0x482208822088213c320085500466280660048200074,ai,oZ,oZ,1130658,ae,0x1288a2288a2288a2,ai,1132710,iV,gU,ae,1190,ai,0x4a82a00014ca8,pJ,0x4ac2b0ac2a8aa2a8aa,ak,0x12b0ae2b8002b8002b8ae000ac,kQ,1254275246,kQ,1254275246,kQ,1254275246,kQ,0x12c8562b8ac2b8ae,iV,iV,1218726,gU,1218726,gU,1218726,gU,1190,cy,1190,cy]
noncomputable def At:=cs [lc,0x11a42f108570046035060,ae]
noncomputable def Du:=cs [ae,jT,1140918,aw,1206,dW,1301375283200,cQ,0x45e2f800178be,fN,1214,kr,0x117cc00005f3000017cc0,bi,0x12f0002f000300c0,ae,0x4c03005d2f0bc,y5,0x4c0300c4184c40005d000bc,y5,1212,ae,0x4be2f8c4184c4,y5,1212,ae,0x11405216400177ff2f0002f0bc000bc2f0c4184c4,rK,1157711970,rK,1130595,rK,1124,rK,0x467340bc004000e866177fe0003a0fc65,bi,1212,ae,1181958332,jc,1241206,gP,1212,ae,1212,bi,0x4b8000b8000b82e0b8310002f0bc,ae,1161912445046]
noncomputable def AI:=cs [1026,iP,1026,kM,ae,jo,fh,0x416058180000b0600003c200381e0341c0301a,ak,0x41000c2200016]
noncomputable def Dj:=cs [0x121886218002180021886,ak,0x4862188600086]
noncomputable def AK:=cs [y4,nr,0x42409018048260980b060000d81008816,ak,0x41b00c3800024,Dt,1084,ai,sG,1166083651646,fy,1116226,wr,1090,wr,1090,wr,0x43e07c400783e00046,b8,1112128,ai,lN,lN,lN,1096,br,1096,jk,lI,1122376,lA,yS,1124352,jk,1098,aX,1098,jk,bY,1124371,aX,1098,jk,bY,1124372,bq,1098,jk,1105955182592,D6,1100,or,1100,or,1187598383180,lg,lg,lg,1179006347264,aX,1098,jk,1098,aw,1151336477,b8,1179046193226,ai,yC,0x10380e150000a4540002915000,jv,0x4541502915000150541502a004231585603800,ax,bh,1065,qI,1086,av,0x116058160001600016058,ak,0x45c0005c0005c1705c0b85e1780307c2e0b42c01441168581605800058,ae,0x10003a0703a0003a,Dt,1084,ai,y7,Am,jz,lI,1157226,lA,gv,gx,1132,jz,1132,aX,1132,jz,bY,1159190,aX,1132,jz,bY,1159191,bq,1132,jz,0x46e1b86e018010d800,ak,0x4001c0001c0700006e,py,l4,py,l4,py,l4,py,l4,py,1048692,gv,gx,1187042412,aX,1132,jz,1132,aw,1186988056,b8,1215589101676,ai,1108086,jc,jc,jc,jc,1114558814208,jv,0x11d8761d83b004231e07803800,jc,1169526,ax,bh,1065,qI,1120,Cc,0x47e0007e0007e1f87e0fc80200030c03f0f83d01441,ae,0x4380003a0703a0003a,oS,0x41d0f03c2101b0e024,lc,0x11081c108540043a2183a,ae]
noncomputable def Bw:=0x4da36800368003686c36801
noncomputable def Ak:=cs [ax,1230636181624,ak,1048698,wv,1146,v9,1146,v9,0x4002003d1f07a,oq,um,1114242,gE,1210189824,aw,1210122370]
noncomputable def Aq:=cs [0x13e0001ecf8000793d0ee,fh]
noncomputable def Cg:=cs [ww,kN,kN,kN,xn,lu,lu,lu,xQ,ld,ld,ld,sj,0x4840f0840040e1088621896,kP,1078337,aw,1042,iv,1262879924376,xW,1235382426,kb,1127500,kD,yp,fy,1073911974,kW,1025,rk,1025,rk,0x12885129050288002a85229801,b8,1214628,ai,yF,1224704,br,1196,o9,e8,1224876,ec,0x12b800158ae000562b800158ae,aX,1198,o9,bY,1226830,bq,1198,o9,0x4ae040010dc00,bq,1198,o9,dK,1258471600,ak,1290824319152,q7,1200,iK,q7,1200,iK,q7,1200,iK,q7,0x12b8562b800158ae000562b8002d8582c8b0,aX,1198,o9,1198,b8,1256372398,ai,0x4b80005b2e00016cb80005b2e00016cb8,dl,1208,dl,1208,kg,1208,dl,1208,gB,bh,1208,br,1208,gR,1266773176,bq,1208,sk,1081532,cU,1143823,av,1208,av,0x4ba2e8ba2e8ba2e8ba,ak,0x4ba2e8be000ba,rC,1275165888,rC,1275165888,rC,1275165888,rC,1245380,lT,1186,av,0x1318c63180031800318c6,ak,0x1194cc3300214465190630143f320c6318c6000c6,rH,1285765322,dT,1074894948]
noncomputable def CV:=cs [0x1178be0005c2e85c2e8ba,oz,xV,1243310,gR,0x1000bc174bc000bc,qX]
noncomputable def BJ:=cs [1185036,ae,1292,ai,1389422057742,iN,1294,ax,1292]
noncomputable def D7:=cs [0x49b4e000265340f934,ae,1336,aw,0x5340013400134001362693600136]
noncomputable def Af:=cs [1176828,ae,1276,ai,1372242180350,iN,1278,ax,1276,ck,1276,av,0x500401004010040100,ak,0x1411082010240102408004080040800410814108040900409020010200102001004010200100]
noncomputable def CY:=cs [0x4a8000532a000154ac154ac2b0ac,iD,bh]
noncomputable def C2:=cs [0x46131061310c4,gU,1247975590,bi,1247889574,nJ,1190,ae,1190,bi,1073825958,lS,1249476]
noncomputable def Bj:=cs [0x4733a0001c4e41c4e4390e4,oz,vZ,1256,gR,vc]
noncomputable def DA:=cs [0x148800241220008e479184791e0011e0011e,fh]
noncomputable def DL:=cs [1048876,rd,0x14c12625d30000954b0954b12c,iW,0x4004b8964b8004b800]
noncomputable def Dh:=cs [0x54e510a6538002914a2914a5294a,iW,0x1528005280052800530a55300053000]
noncomputable def DV:=0x11e0f23c0f23c8003c8003c800
noncomputable def Bd:=cs [1266008064,ae,1392,aw,0x4b55b03e5b16c0016c0016c0016e2d96e0016e]
noncomputable def E9:=cs [0x49a2709a0040e,cU,1127500,ae]
noncomputable def BS:=cs [1152,jT,1114242,aw,1154,dW,lx,cQ,0x444228001108a,fN,1162,kr,rS,1119372,bi,1192076,lx,ae,0x48c2304322088,wo,bi,1099581882504,iQ,1192076,wo,bi,1160,ae,iQ,1190026,wo,bi,1160,ae,iQ,1160,fj,fj,0x112c98220010182412843ff8060902912443ffc06090290a84810fff018240a42a0fc0010fff,bi,1160,ae,0x12204a0904a0004b26088,gP,1160,ae,1160,bi,1254130589832,zK,ae,1138243965002]
noncomputable def CW:=0x51444914001120011245112
noncomputable def Ap:=0x153010000a55300028d4851948
noncomputable def Dk:=0x1520005200052000528a45280052800
noncomputable def Ee:=cs [Df,0x512441120011000110449103a8004390e4390e,xI,ae,gC,0x51446114460004500045118450004591645916,wy,1406868388094,Dd,0x148120480004800048120,ak,0x149128490014980214092244900143d489204812000120,gQ,1199249,iB,0x410000944a92a0012a0012a4a80e,pA,kh,0x53000130001304c130,aw,1038,av,1322,c3,0x12688526c892708c4a0570051a4e91a0053400134001344d132]
noncomputable def AU:=cs [BO,yq,ae,qi,0x50642800418004190a418004210842108]
noncomputable def D9:=cs [1048729,DJ,1380676,ak,0x15180051800518a200d4600144,Dp,c3,1030,CX,Dp,0x101803008a027c0418c00,CX,0x5522894651146,gy,0x556038a45294a,ae,0x15215852001558005580055956,cy]
noncomputable def E3:=cs [1086,jT,1080384,aw,1088,dW,1174673627136,cQ,lN,1084488,fN,1096,kr,yS,av,0x1000460004a12800,jU,0x44a1282211846,yN,0x44a1284e0984e0002200046,yN,jU,0x4481204e0984e,yN,jU,0x10a85611801018170a422ff80605c1c0a022ffc0605c1c0742708bff018170701d0780008bff1180011846000461184e0984e,bi,jU,0x11183005c300002a15846,gP,jU,1094,bi,1183263561798,nT,ae,1124258044976,Dn,y7,Am,oY,gn,hE,1157226,xp,gv,gx,1132,aX,1132,oY,bY,1156533190700,ae,1132,bi,0x46c0d46c0006c,aX,1132,oY,1186988140,aX,1132,oY,bY,1069,ae,1132,av,ai,0x1000361b8000d86e]
noncomputable def Cs:=cs [1220685964,ak,0x4002388e0008c,ya,1048718,ya,1048718,ya,1170,dq,0x494258940040e0380e0380e,cy]
noncomputable def Eb:=cs [s8,pA,sx,1134676,nY,1048660,AM,ax,1159276]
noncomputable def BN:=cs [kr,pM,1106,gA,0x4520a0520003a,sg]
noncomputable def Ch:=cs [1134,jT,1105008,aw,1136,dW,ou,cQ,0x43b1e0000ec78,fN,1144,kr,p6,1110138,bi,1173626,ou,ae,0x47a1e83a1d876,xA,0x47a1e87e0f87e0003a00076,xA,1142,ae,0x4781e07e0f87e,xA,1142,ae,0x1108861d8010182f1043aff8060bc341003affc060bc340d43f0ebff0182f0d0350d8000ebff1d8001d876000761d87e0f87e,bi,1142,ae,1099580971126,ll,1142,gP,1142,ae,1142,bi,0x47200072000721c8721f8001d876,ae,1150078205024]
noncomputable def As:=cs [x7,1107329056,ak,1117782048,iL,1056,kH,1056,kH,1056,zj,dI,og,1114549354496]
noncomputable def BC:=cs [0x11886619866198660006200062188620c4641900208c310c02f,lK,1100600064014]
noncomputable def Bm:=cs [0x111c90240020e04711845,iB,1049614]
noncomputable def AS:=cs [kr,0x47c1f07c0f47c,gA,0x47c0f47c0003a,aX,1148,uh]
noncomputable def Ds:=cs [0x10d03310856004681a868,aw,1088436238,ai,jM,jM,jM,1136,fy,1140,nR,1133629441,nR,1133629441,nR,0x11c0381c8371c0001e0391d001,b8,1163378,ai,p6,1230508191866,br,1146,uh,gn,1028,ae,1173626,zi,0x11f0000f47c0003d1f0000f47c,aX,1189197948,ra,0x11f0030083500c310006e,uh,1205991550,ak,1048702,px,1150,kF,1150,kF,0x47c0007c0f47c0003d1f0002103f2007e,br,1148,gA,1175610,ai,1116294,jB,jB,1185792,m2,1158]
noncomputable def Bb:=cs [1232658761730,aX,1148,uh,1148,ai,0x12200010c88000432200010c88,ae,1136,av,0x12288a22800228002288a,ak,0x12308a2288a0008a]
noncomputable def Cf:=cs [0x4031201c12446290540048e2508e0040e0380e,av]
noncomputable def DE:=cs [wE,zQ,xY,1294049490,kj,1156308]
noncomputable def Bs:=cs [ak,pM,gW,1106,bq,1106,kV,D8,1124,dK,1024,ll,dl,1120,dl,1120,eu,bh,1066,Cm,1053766,E8]
noncomputable def Ba:=cs [x7,1109428258,ak,1117782050,iL,1058,kH,1058,kH,1058,zj,dI,0x102405184000380013000]
noncomputable def BW:=cs [wa,0x417004350008e,jd,ai,1194126]
noncomputable def AJ:=cs [ak,pM,gW,1106,bq,0x4170043500052,jd,D8,0x1000170043500064,ll,jd,ax,1120,jd,bh,1067,Cm,1053767,E8]
noncomputable def Cd:=cs [wE,zQ,zQ,xY,1294049490,kj,0x4d21a0d21a4d4,kj,1156308]
noncomputable def DP:=cs [x7,1113626662,ak,1117782054,iL,1062,kH,1062,kH,1062,zj,dI,0x104405188000380013400]
noncomputable def Bo:=cs [wE,xY,pd,0x10046c1a00215001,pc]
noncomputable def CO:=cs [dW,1219770826752,cQ,1106034,oj,oj,1024,tH,1189140590,tH,1189140590,tH,1189140590,tH,1099627026542]
noncomputable def Cy:=cs [1190,ae,1247805606,aw,1190,ae,1245791396]
noncomputable def Ax:=cs [1093876,av,1068,aw,1144608829484,ae,0x4300003000030]
noncomputable def BM:=cs [av,1176,ae,1233125528,aw,1176,ae,1231104150]
noncomputable def Aj:=cs [1079526,av,1054,aw,1129576429598,ae,oi]
noncomputable def hS (P:Params) (s:Str):Int:=if s.cps.isEmpty then 0 else reduceHash (P.strHash s.cps)
noncomputable def eS (P:Params) (s:Str) (t:Nat) (v:Value):DictEntry:=⟨hS P s,.str s t,v⟩
noncomputable abbrev pw:Program:=PySem.Challenge.pw_on0051_01
namespace Scr
noncomputable def tl1 {α:Type}:List α→List α
 | []=>[]
 | _::l=>l
noncomputable def tl8 {α:Type} (l:List α):List α:=tl1 (tl1 (tl1 (tl1 (tl1 (tl1 (tl1 (tl1 l)))))))
noncomputable def tlN {α:Type} (n:Nat) (l:List α):List α:=Nat.rec l (fun _ x=>tl1 x) n
noncomputable def tlE {α:Type} (n:Nat) (l:List α):List α:=Nat.rec l (fun _ x=>tl8 x) n
noncomputable def hdS:List Stmt→Stmt
 | []=>.Pass default
 | s::_=>s
noncomputable def sX (l:List Stmt) (i:Nat):Stmt:=hdS (tlN (i % 8) (tlE (i / 8) l))
noncomputable def sA (i:Nat):Stmt:=sX pw.main.body i
noncomputable def bdS:Stmt→List Stmt
 | .ClassDef _ _ _ b _ _ _ _ _ _ _=>b
 | _=>[]
noncomputable def nmS:Stmt→Str
 | .ClassDef n _ _ _ _ _ _ _ _ _ _=>n
 | .FunctionDef n _ _ _ _ _ _ _ _ _=>n
 | _=>⟨#[]⟩
noncomputable def sB (i j:Nat):Stmt:=sX (bdS (sA i)) j
noncomputable def nA (i:Nat):Str:=nmS (sA i)
noncomputable def qA (i j:Nat):Str:=⟨(nmS (sA i)).cps ++ #[46] ++ (nmS (sB i j)).cps⟩
noncomputable def fl:Str:=FU
noncomputable def cdO (s:Stmt) (q:Str) (t l ac a u:Nat):Obj:=⟨.type L5,none,.fields #[.str (nmS s) t,.str q (t+1),.str fl (t+2),.int (Int.ofNat l) 0,.int (Int.ofNat ac) 0,.int 0 0,.int 0 0,.int 3 0,.ref a,.bool true,.int 181 0,.ref (a+1),.none,.ref (a+2),.ref (a+3),.ref (a+4),.int (Int.ofNat u) 0,.int (Int.ofNat l) 0,.str fl (u+1)],#[]⟩
noncomputable def fnO (s:Stmt) (q:Str) (g c:Nat) (df kd doc md:Value) (an:Option Nat) (ct:Value) (bu:Nat):Obj:=match s with
 | .FunctionDef n a b _ _ _ sc _ _ _=>⟨.type Le,none,.func ⟨n,q,a,.stmts b,sc,g,[],df,kd,doc,md,an,.ref c,ct,bu⟩,#[]⟩
 | _=>default
noncomputable def clsO (k:Value) (sl:List (Option Value)) (n:Str) (bs mro:List Value) (ns:Nat) (q:Str) (hd:Bool) (sn:List Str) (sc:List Value) (ab:Bool) (co:Option Bool) (del:Bool):Obj:=⟨k,none,.cls ⟨n,bs,mro,ns,q,hd,sn,sc,ab,co,del⟩,⟨sl⟩⟩
noncomputable def z0:Str:=⟨#[99,104,97,110,99,111,114,101,46,111,112,101,114,97,116,105,111,110,115]⟩
noncomputable def z1:Str:=FU
noncomputable def z2:Str:=⟨#[99,104,97,110,99,111,114,101,46,104,101,97,112]⟩
noncomputable def z3:Str:=⟨#[108,97,119,95,111,110,48,48,53,49,95,48,49]⟩
noncomputable def z4:Str:=⟨#[95,95,100,111,99,95,95]⟩
noncomputable def z5:Str:=⟨#[95,95,105,110,105,116,95,95]⟩
noncomputable def z6:Str:=⟨#[95,95,109,111,100,117,108,101,95,95]⟩
noncomputable def z7:Str:=⟨#[95,95,102,105,114,115,116,108,105,110,101,110,111,95,95]⟩
noncomputable def z8:Str:=⟨#[95,95,115,116,97,116,105,99,95,97,116,116,114,105,98,117,116,101,115,95,95]⟩
noncomputable def z9:Str:=⟨#[95,95,119,101,97,107,114,101,102,95,95]⟩
noncomputable def z10:Str:=⟨#[99,104,97,110,99,111,114,101,46,101,114,114,111,114,115]⟩
noncomputable def z11:Str:=⟨#[95,95,100,105,99,116,95,95]⟩
noncomputable def z12:Str:=⟨#[99,104,97,110,99,111,114,101,46,109,97,112,115]⟩
noncomputable def z13:Str:=⟨#[99,104,97,110,99,111,114,101,46,115,108,105,99,101,115]⟩
noncomputable def z14:Str:=⟨#[99,104,97,110,99,111,114,101,46,119,111,114,108,100]⟩
noncomputable def z15:Str:=⟨#[99,104,97,110,99,111,114,101,46,116,101,120,116,115]⟩
noncomputable def z16:Str:=⟨#[99,104,97,110,99,111,114,101,46,105,110,116,101,103,101,114,115]⟩
noncomputable def z17:Str:=⟨#[67,104,97,110,110,101,108]⟩
noncomputable def z18:Str:=⟨#[67,104,97,110,69,114,114,111,114]⟩
noncomputable def z19:Str:=⟨#[71,111,80,97,110,105,99]⟩
noncomputable def z20:Str:=⟨#[84,97,98,108,101]⟩
noncomputable def z21:Str:=⟨#[79,112,101,114,97,116,105,111,110,115]⟩
noncomputable def z22:Str:=⟨#[67,104,111,105,99,101,115]⟩
noncomputable def z23:Str:=⟨#[67,111,100,101]⟩
noncomputable def z24:Str:=⟨#[70,114,97,109,101]⟩
noncomputable def z25:Str:=⟨#[75,101,112,116]⟩
noncomputable def z26:Str:=⟨#[72,101,97,112]⟩
noncomputable def z27:Str:=⟨#[78,97,109,101,100,82,111,119]⟩
noncomputable def z28:Str:=⟨#[87,111,114,108,100]⟩
noncomputable def z29:Str:=⟨#[99,104,97,110,99,111,114,101,46,102,114,97,109,101,115]⟩
noncomputable def z30:Str:=⟨#[99,104,97,110,99,111,114,101,46,99,104,97,110,110,101,108,115]⟩
noncomputable def z31:Str:=⟨#[95,95,109,97,105,110,95,95]⟩
noncomputable def z32:Str:=⟨#[118,97,108,117,101,95,107,101,121]⟩
noncomputable def z33:Str:=⟨#[115,108,105,99,101,95,118,97,108,117,101,115]⟩
noncomputable def z34:Str:=⟨#[111,99,116,101,116,115,95,111,102,95,114,117,110,101]⟩
noncomputable def z35:Str:=⟨#[111,99,116,101,116,115,95,111,102]⟩
noncomputable def z36:Str:=⟨#[122,101,114,111,95,118,97,108,117,101]⟩
noncomputable def z37:Str:=⟨#[95,108,97,119,95,100,111,110,101]⟩
noncomputable def z38:Str:=⟨#[95,108,97,119,95,99,111,110,118,101,114,115,105,111,110,95,114,105,103,104,116]⟩
noncomputable def z39:Str:=⟨#[95,108,97,119,95,112,108,97,99,101,115,95,114,105,103,104,116]⟩
noncomputable def z40:Str:=⟨#[95,108,97,119,95,115,105,122,101,115,95,114,105,103,104,116]⟩
noncomputable def z41:Str:=⟨#[95,108,97,119,95,119,111,114,107,101,100]⟩
noncomputable def z42:Str:=⟨#[95,108,97,119,95,111,112,101,114,97,116,111,114,115,95,114,105,103,104,116]⟩
noncomputable def z43:Str:=⟨#[99,104,97,110,99,111,114,101,46,99,104,111,105,99,101,115]⟩
noncomputable def z44:Str:=⟨#[99,104,97,110,99,111,114,101,46,99,111,100,101]⟩
noncomputable def o0 (P : Params) : Obj := ⟨(.type L0), none, .dict #[eS P G8 1 (.str FV 160), eS P z4 2 (.builtin "builtins.__doc__:str#o\x70aque"), eS P Gs 3 (.builtin "builtins.__package__:str#o\x70aque"), eS P Gm 4 (.builtin "builtins.__loader__:shared#opaque"), eS P G5 5 (.builtin PySem.W.SL.s11665532747177232413x24), eS P ⟨#[95, 95, 98, 117, 105, 108, 100, 95, 99, 108, 97, 115, 115, 95, 95]⟩ 6 (.builtin PySem.W.SL.s15183661809925369436x15), eS P ⟨#[95, 95, 105, 109, 112, 111, 114, 116, 95, 95]⟩ 7 (.builtin PySem.W.SL.s13915890719876406383x10), eS P ⟨#[97, 98, 115]⟩ 8 (.builtin PySem.W.SL.s13459172003223722735x3), eS P ⟨#[97, 108, 108]⟩ 9 (.builtin PySem.W.SL.s10557405761357834076x3), eS P ⟨#[97, 110, 121]⟩ 10 (.builtin PySem.W.SL.s4233737765568776869x3), eS P ⟨#[97, 115, 99, 105, 105]⟩ 11 (.builtin PySem.W.SL.s2508922471967985374x5), eS P ⟨#[98, 105, 110]⟩ 12 (.builtin PySem.W.SL.s15574269061696679450x3), eS P ⟨#[98, 114, 101, 97, 107, 112, 111, 105, 110, 116]⟩ 13 (.builtin PySem.W.SL.s6016482663378992977x10), eS P ⟨#[99, 97, 108, 108, 97, 98, 108, 101]⟩ 14 (.builtin PySem.W.SL.s5596568736180474577x8), eS P ⟨#[99, 104, 114]⟩ 15 (.builtin PySem.W.SL.s2839554839881490554x3), eS P ⟨#[99, 111, 109, 112, 105, 108, 101]⟩ 16 (.builtin PySem.W.SL.s725004073602090463x7), eS P ⟨#[100, 101, 108, 97, 116, 116, 114]⟩ 17 (.builtin PySem.W.SL.s9436932552931045734x7), eS P ⟨#[100, 105, 114]⟩ 18 (.builtin PySem.W.SL.s2754603736356183583x3), eS P ⟨#[100, 105, 118, 109, 111, 100]⟩ 19 (.builtin PySem.W.SL.s15185746759980889043x6), eS P ⟨#[101, 118, 97, 108]⟩ 20 (.builtin PySem.W.SL.s8192189862530294059x4), eS P ⟨#[101, 120, 101, 99]⟩ 21 (.builtin PySem.W.SL.s7038307821325472102x4), eS P ⟨#[102, 111, 114, 109, 97, 116]⟩ 22 (.builtin PySem.W.SL.s5662562618415449548x6), eS P ⟨#[103, 101, 116, 97, 116, 116, 114]⟩ 23 (.builtin PySem.W.SL.s15281542589158584767x7), eS P G7 24 (.builtin PySem.W.SL.s17651547275483570877x7), eS P ⟨#[104, 97, 115, 97, 116, 116, 114]⟩ 25 (.builtin PySem.W.SL.s4036449017235975746x7), eS P ⟨#[104, 97, 115, 104]⟩ 26 (.builtin PySem.W.SL.s8879979712987360175x4), eS P ⟨#[104, 101, 120]⟩ 27 (.builtin PySem.W.SL.s1801250619170735830x3), eS P ⟨#[105, 100]⟩ 28 (.builtin PySem.W.SL.s17659931425627118568x2), eS P ⟨#[105, 110, 112, 117, 116]⟩ 29 (.builtin PySem.W.SL.s6063217899685152688x5), eS P ⟨#[105, 115, 105, 110, 115, 116, 97, 110, 99, 101]⟩ 30 (.builtin PySem.W.SL.s8008927332132565319x10), eS P ⟨#[105, 115, 115, 117, 98, 99, 108, 97, 115, 115]⟩ 31 (.builtin PySem.W.SL.s3544116645089599534x10), eS P ⟨#[105, 116, 101, 114]⟩ 32 (.builtin PySem.W.SL.s13761710972054866084x4), eS P ⟨#[97, 105, 116, 101, 114]⟩ 33 (.builtin PySem.W.SL.s12896375587409280029x5), eS P Ql 34 (.builtin PySem.W.SL.s13014049009108672802x3), eS P ⟨#[108, 111, 99, 97, 108, 115]⟩ 35 (.builtin PySem.W.SL.s13935586738268321596x6), eS P ⟨#[109, 97, 120]⟩ 36 (.builtin PySem.W.SL.s8200498257699607233x3), eS P ⟨#[109, 105, 110]⟩ 37 (.builtin PySem.W.SL.s14114244577727609259x3), eS P ⟨#[110, 101, 120, 116]⟩ 38 (.builtin PySem.W.SL.s1499430450269397089x4), eS P ⟨#[97, 110, 101, 120, 116]⟩ 39 (.builtin PySem.W.SL.s8755793994789770505x5), eS P ⟨#[111, 99, 116]⟩ 40 (.builtin PySem.W.SL.s15725212667919936108x3), eS P ⟨#[111, 114, 100]⟩ 41 (.builtin PySem.W.SL.s15791221867095933363x3), eS P ⟨#[112, 111, 119]⟩ 42 (.builtin PySem.W.SL.s81309575031448614x3), eS P ⟨#[112, 114, 105, 110, 116]⟩ 43 (.builtin PySem.W.SL.s8069831620301644142x5), eS P ⟨#[114, 101, 112, 114]⟩ 44 (.builtin PySem.W.SL.s10061844253413749634x4), eS P ⟨#[114, 111, 117, 110, 100]⟩ 45 (.builtin PySem.W.SL.s9496514870978017513x5), eS P ⟨#[115, 101, 116, 97, 116, 116, 114]⟩ 46 (.builtin PySem.W.SL.s8899691144933366716x7), eS P ⟨#[115, 111, 114, 116, 101, 100]⟩ 47 (.builtin PySem.W.SL.s15201008993051130160x6), eS P ⟨#[115, 117, 109]⟩ 48 (.builtin PySem.W.SL.s741896355592496720x3), eS P ⟨#[118, 97, 114, 115]⟩ 49 (.builtin PySem.W.SL.s17925004256654032244x4), eS P ⟨#[78, 111, 110, 101]⟩ 50 .none, eS P ⟨#[69, 108, 108, 105, 112, 115, 105, 115]⟩ 51 .ellipsis, eS P ⟨#[78, 111, 116, 73, 109, 112, 108, 101, 109, 101, 110, 116, 101, 100]⟩ 52 .notImplemented, eS P ⟨#[70, 97, 108, 115, 101]⟩ 53 (.bool false), eS P ⟨#[84, 114, 117, 101]⟩ 54 (.bool true), eS P EQ 55 (.type PySem.W.SL.s11695548795398191787x4), eS P ⟨#[109, 101, 109, 111, 114, 121, 118, 105, 101, 119]⟩ 56 (.type PySem.W.SL.s4156966113859768872x10), eS P ⟨#[98, 121, 116, 101, 97, 114, 114, 97, 121]⟩ 57 (.type PySem.W.SL.s9501651726347032510x9), eS P ⟨#[98, 121, 116, 101, 115]⟩ 58 (.type PySem.W.SL.s15722918466584999320x5), eS P ⟨#[99, 108, 97, 115, 115, 109, 101, 116, 104, 111, 100]⟩ 59 (.type PySem.W.SL.s591115383303110208x11), eS P ⟨#[99, 111, 109, 112, 108, 101, 120]⟩ 60 (.type PySem.W.SL.s15721156781594690315x7), eS P ⟨#[100, 105, 99, 116]⟩ 61 (.type L0), eS P ⟨#[101, 110, 117, 109, 101, 114, 97, 116, 101]⟩ 62 (.type PySem.W.SL.s14340494229221121180x9), eS P ⟨#[102, 105, 108, 116, 101, 114]⟩ 63 (.type PySem.W.SL.s13429844117177748173x6), eS P ⟨#[102, 108, 111, 97, 116]⟩ 64 (.type PySem.W.SL.s16463266125957815391x5), eS P ⟨#[102, 114, 111, 122, 101, 110, 115, 101, 116]⟩ 65 (.type PySem.W.SL.s4922535414793169389x9), eS P ⟨#[112, 114, 111, 112, 101, 114, 116, 121]⟩ 66 (.type PySem.W.SL.s8101838861749082086x8), eS P Q1 67 (.type PySem.W.SL.s7066276694103001551x3), eS P ⟨#[108, 105, 115, 116]⟩ 68 (.type Lh), eS P Qd 69 (.type PySem.W.SL.s462964344163437139x3), eS P ⟨#[111, 98, 106, 101, 99, 116]⟩ 70 (.type L1), eS P ⟨#[114, 97, 110, 103, 101]⟩ 71 (.type PySem.W.SL.s1438033511350832697x5), eS P ⟨#[114, 101, 118, 101, 114, 115, 101, 100]⟩ 72 (.type PySem.W.SL.s14365286008749172514x8), eS P ⟨#[115, 101, 116]⟩ 73 (.type PySem.W.SL.s3642769012341782148x3), eS P Qi 74 (.type Li), eS P ⟨#[115, 116, 97, 116, 105, 99, 109, 101, 116, 104, 111, 100]⟩ 75 (.type PySem.W.SL.s16656946322747308186x12), eS P ⟨#[115, 116, 114]⟩ 76 (.type PySem.W.SL.s10796804682411823810x3), eS P ⟨#[115, 117, 112, 101, 114]⟩ 77 (.type PySem.W.SL.s4290257624100764138x5), eS P ⟨#[116, 117, 112, 108, 101]⟩ 78 (.type L4), eS P ⟨#[116, 121, 112, 101]⟩ 79 (.type L6), eS P ⟨#[122, 105, 112]⟩ 80 (.type PySem.W.SL.s14339709457334898076x3), eS P ⟨#[95, 95, 100, 101, 98, 117, 103, 95, 95]⟩ 81 (.bool true), eS P ⟨#[66, 97, 115, 101, 69, 120, 99, 101, 112, 116, 105, 111, 110]⟩ 82 (.type Lf), eS P ⟨#[66, 97, 115, 101, 69, 120, 99, 101, 112, 116, 105, 111, 110, 71, 114, 111, 117, 112]⟩ 83 (.type PySem.W.SL.s6585700554429387442x18), eS P ⟨#[69, 120, 99, 101, 112, 116, 105, 111, 110]⟩ 84 (.type L9), eS P ⟨#[71, 101, 110, 101, 114, 97, 116, 111, 114, 69, 120, 105, 116]⟩ 85 (.type PySem.W.SL.s7410770068591931388x13), eS P ⟨#[75, 101, 121, 98, 111, 97, 114, 100, 73, 110, 116, 101, 114, 114, 117, 112, 116]⟩ 86 (.type PySem.W.SL.s11817881795495490833x17), eS P ⟨#[83, 121, 115, 116, 101, 109, 69, 120, 105, 116]⟩ 87 (.type PySem.W.SL.s15679963881808890155x10), eS P ⟨#[65, 114, 105, 116, 104, 109, 101, 116, 105, 99, 69, 114, 114, 111, 114]⟩ 88 (.type PySem.W.SL.s3871700062485845797x15), eS P ⟨#[65, 115, 115, 101, 114, 116, 105, 111, 110, 69, 114, 114, 111, 114]⟩ 89 (.type PySem.W.SL.s7689518266570723881x14), eS P ⟨#[65, 116, 116, 114, 105, 98, 117, 116, 101, 69, 114, 114, 111, 114]⟩ 90 (.type PySem.W.SL.s9001593270443806431x14), eS P ⟨#[66, 117, 102, 102, 101, 114, 69, 114, 114, 111, 114]⟩ 91 (.type PySem.W.SL.s6882542574934516792x11), eS P ⟨#[69, 79, 70, 69, 114, 114, 111, 114]⟩ 92 (.type PySem.W.SL.s14403400214490484960x8), eS P ⟨#[73, 109, 112, 111, 114, 116, 69, 114, 114, 111, 114]⟩ 93 (.type PySem.W.SL.s14457978657717015782x11), eS P ⟨#[76, 111, 111, 107, 117, 112, 69, 114, 114, 111, 114]⟩ 94 (.type PySem.W.SL.s1753610191782819921x11), eS P ⟨#[77, 101, 109, 111, 114, 121, 69, 114, 114, 111, 114]⟩ 95 (.type PySem.W.SL.s14119380538032626715x11), eS P ⟨#[78, 97, 109, 101, 69, 114, 114, 111, 114]⟩ 96 (.type PySem.W.SL.s11437920000406562045x9), eS P ⟨#[79, 83, 69, 114, 114, 111, 114]⟩ 97 (.type Lg), eS P ⟨#[82, 101, 102, 101, 114, 101, 110, 99, 101, 69, 114, 114, 111, 114]⟩ 98 (.type PySem.W.SL.s14816307405966870543x14), eS P ⟨#[82, 117, 110, 116, 105, 109, 101, 69, 114, 114, 111, 114]⟩ 99 (.type PySem.W.SL.s8682627914449686677x12), eS P ⟨#[83, 116, 111, 112, 65, 115, 121, 110, 99, 73, 116, 101, 114, 97, 116, 105, 111, 110]⟩ 100 (.type PySem.W.SL.s4428170145600203450x18), eS P ⟨#[83, 116, 111, 112, 73, 116, 101, 114, 97, 116, 105, 111, 110]⟩ 101 (.type PySem.W.SL.s5991306692159431302x13), eS P ⟨#[83, 121, 110, 116, 97, 120, 69, 114, 114, 111, 114]⟩ 102 (.type PySem.W.SL.s16067994140765818257x11), eS P ⟨#[83, 121, 115, 116, 101, 109, 69, 114, 114, 111, 114]⟩ 103 (.type PySem.W.SL.s2327743974964600596x11), eS P ⟨#[84, 121, 112, 101, 69, 114, 114, 111, 114]⟩ 104 (.type PySem.W.SL.s2804747833354056582x9), eS P ⟨#[86, 97, 108, 117, 101, 69, 114, 114, 111, 114]⟩ 105 (.type PySem.W.SL.s6070975301684473832x10), eS P ⟨#[87, 97, 114, 110, 105, 110, 103]⟩ 106 (.type PySem.W.SL.s14270485950484850486x7), eS P ⟨#[70, 108, 111, 97, 116, 105, 110, 103, 80, 111, 105, 110, 116, 69, 114, 114, 111, 114]⟩ 107 (.type PySem.W.SL.s12041534306414923332x18), eS P ⟨#[79, 118, 101, 114, 102, 108, 111, 119, 69, 114, 114, 111, 114]⟩ 108 (.type PySem.W.SL.s2531307568338490285x13), eS P ⟨#[90, 101, 114, 111, 68, 105, 118, 105, 115, 105, 111, 110, 69, 114, 114, 111, 114]⟩ 109 (.type PySem.W.SL.s631175304937289666x17), eS P ⟨#[66, 121, 116, 101, 115, 87, 97, 114, 110, 105, 110, 103]⟩ 110 (.type PySem.W.SL.s5144983644357021410x12), eS P ⟨#[68, 101, 112, 114, 101, 99, 97, 116, 105, 111, 110, 87, 97, 114, 110, 105, 110, 103]⟩ 111 (.type PySem.W.SL.s18039099521571816885x18), eS P ⟨#[69, 110, 99, 111, 100, 105, 110, 103, 87, 97, 114, 110, 105, 110, 103]⟩ 112 (.type PySem.W.SL.s6011586214260557989x15), eS P ⟨#[70, 117, 116, 117, 114, 101, 87, 97, 114, 110, 105, 110, 103]⟩ 113 (.type PySem.W.SL.s5430567037509283100x13), eS P ⟨#[73, 109, 112, 111, 114, 116, 87, 97, 114, 110, 105, 110, 103]⟩ 114 (.type PySem.W.SL.s8117915138073963741x13), eS P ⟨#[80, 101, 110, 100, 105, 110, 103, 68, 101, 112, 114, 101, 99, 97, 116, 105, 111, 110, 87, 97, 114, 110, 105, 110, 103]⟩ 115 (.type PySem.W.SL.s3423317712779056401x25), eS P ⟨#[82, 101, 115, 111, 117, 114, 99, 101, 87, 97, 114, 110, 105, 110, 103]⟩ 116 (.type PySem.W.SL.s2007317383269046180x15), eS P ⟨#[82, 117, 110, 116, 105, 109, 101, 87, 97, 114, 110, 105, 110, 103]⟩ 117 (.type PySem.W.SL.s17481586968713580700x14), eS P ⟨#[83, 121, 110, 116, 97, 120, 87, 97, 114, 110, 105, 110, 103]⟩ 118 (.type PySem.W.SL.s2450899226349176912x13), eS P ⟨#[85, 110, 105, 99, 111, 100, 101, 87, 97, 114, 110, 105, 110, 103]⟩ 119 (.type PySem.W.SL.s16626165730633575011x14), eS P ⟨#[85, 115, 101, 114, 87, 97, 114, 110, 105, 110, 103]⟩ 120 (.type PySem.W.SL.s14288496050688921416x11), eS P ⟨#[66, 108, 111, 99, 107, 105, 110, 103, 73, 79, 69, 114, 114, 111, 114]⟩ 121 (.type PySem.W.SL.s5735081916595925998x15), eS P ⟨#[67, 104, 105, 108, 100, 80, 114, 111, 99, 101, 115, 115, 69, 114, 114, 111, 114]⟩ 122 (.type PySem.W.SL.s3865607918536308442x17), eS P ⟨#[67, 111, 110, 110, 101, 99, 116, 105, 111, 110, 69, 114, 114, 111, 114]⟩ 123 (.type PySem.W.SL.s13337502604062700212x15), eS P ⟨#[70, 105, 108, 101, 69, 120, 105, 115, 116, 115, 69, 114, 114, 111, 114]⟩ 124 (.type PySem.W.SL.s13114017843053701147x15), eS P ⟨#[70, 105, 108, 101, 78, 111, 116, 70, 111, 117, 110, 100, 69, 114, 114, 111, 114]⟩ 125 (.type PySem.W.SL.s17467278006356818441x17), eS P ⟨#[73, 110, 116, 101, 114, 114, 117, 112, 116, 101, 100, 69, 114, 114, 111, 114]⟩ 126 (.type PySem.W.SL.s17722149559621369488x16), eS P ⟨#[73, 115, 65, 68, 105, 114, 101, 99, 116, 111, 114, 121, 69, 114, 114, 111, 114]⟩ 127 (.type PySem.W.SL.s7855274175708717672x17), eS P ⟨#[78, 111, 116, 65, 68, 105, 114, 101, 99, 116, 111, 114, 121, 69, 114, 114, 111, 114]⟩ 128 (.type PySem.W.SL.s13351283678309829046x18), eS P ⟨#[80, 101, 114, 109, 105, 115, 115, 105, 111, 110, 69, 114, 114, 111, 114]⟩ 129 (.type PySem.W.SL.s6668348653404991179x15), eS P ⟨#[80, 114, 111, 99, 101, 115, 115, 76, 111, 111, 107, 117, 112, 69, 114, 114, 111, 114]⟩ 130 (.type PySem.W.SL.s12913350958174193794x18), eS P ⟨#[84, 105, 109, 101, 111, 117, 116, 69, 114, 114, 111, 114]⟩ 131 (.type PySem.W.SL.s16115879512475548326x12), eS P ⟨#[73, 110, 100, 101, 110, 116, 97, 116, 105, 111, 110, 69, 114, 114, 111, 114]⟩ 132 (.type PySem.W.SL.s15920661018069861047x16), eS P ⟨#[95, 73, 110, 99, 111, 109, 112, 108, 101, 116, 101, 73, 110, 112, 117, 116, 69, 114, 114, 111, 114]⟩ 133 (.type PySem.W.SL.s10779130036587390575x21), eS P ⟨#[73, 110, 100, 101, 120, 69, 114, 114, 111, 114]⟩ 134 (.type PySem.W.SL.s7801419657504700863x10), eS P ⟨#[75, 101, 121, 69, 114, 114, 111, 114]⟩ 135 (.type PySem.W.SL.s1688129525768580628x8), eS P ⟨#[77, 111, 100, 117, 108, 101, 78, 111, 116, 70, 111, 117, 110, 100, 69, 114, 114, 111, 114]⟩ 136 (.type PySem.W.SL.s1031832959479892071x19), eS P ⟨#[78, 111, 116, 73, 109, 112, 108, 101, 109, 101, 110, 116, 101, 100, 69, 114, 114, 111, 114]⟩ 137 (.type PySem.W.SL.s8991790508128307865x19), eS P ⟨#[80, 121, 116, 104, 111, 110, 70, 105, 110, 97, 108, 105, 122, 97, 116, 105, 111, 110, 69, 114, 114, 111, 114]⟩ 138 (.type PySem.W.SL.s14539662485746970245x23), eS P ⟨#[82, 101, 99, 117, 114, 115, 105, 111, 110, 69, 114, 114, 111, 114]⟩ 139 (.type PySem.W.SL.s11643622729373238714x14), eS P ⟨#[85, 110, 98, 111, 117, 110, 100, 76, 111, 99, 97, 108, 69, 114, 114, 111, 114]⟩ 140 (.type PySem.W.SL.s3386828779285465597x17), eS P ⟨#[85, 110, 105, 99, 111, 100, 101, 69, 114, 114, 111, 114]⟩ 141 (.type PySem.W.SL.s13042696260734638735x12), eS P ⟨#[66, 114, 111, 107, 101, 110, 80, 105, 112, 101, 69, 114, 114, 111, 114]⟩ 142 (.type PySem.W.SL.s18239426817015966623x15), eS P ⟨#[67, 111, 110, 110, 101, 99, 116, 105, 111, 110, 65, 98, 111, 114, 116, 101, 100, 69, 114, 114, 111, 114]⟩ 143 (.type PySem.W.SL.s1270395311379034370x22), eS P ⟨#[67, 111, 110, 110, 101, 99, 116, 105, 111, 110, 82, 101, 102, 117, 115, 101, 100, 69, 114, 114, 111, 114]⟩ 144 (.type PySem.W.SL.s10696252587037064777x22), eS P ⟨#[67, 111, 110, 110, 101, 99, 116, 105, 111, 110, 82, 101, 115, 101, 116, 69, 114, 114, 111, 114]⟩ 145 (.type PySem.W.SL.s7852717498200857586x20), eS P ⟨#[84, 97, 98, 69, 114, 114, 111, 114]⟩ 146 (.type PySem.W.SL.s6377248116197321094x8), eS P ⟨#[85, 110, 105, 99, 111, 100, 101, 68, 101, 99, 111, 100, 101, 69, 114, 114, 111, 114]⟩ 147 (.type La), eS P ⟨#[85, 110, 105, 99, 111, 100, 101, 69, 110, 99, 111, 100, 101, 69, 114, 114, 111, 114]⟩ 148 (.type PySem.W.SL.s17586630440231065808x18), eS P ⟨#[85, 110, 105, 99, 111, 100, 101, 84, 114, 97, 110, 115, 108, 97, 116, 101, 69, 114, 114, 111, 114]⟩ 149 (.type PySem.W.SL.s15234114252648025395x21), eS P ⟨#[69, 120, 99, 101, 112, 116, 105, 111, 110, 71, 114, 111, 117, 112]⟩ 150 (.type PySem.W.SL.s8496462677383758984x14), eS P ⟨#[69, 110, 118, 105, 114, 111, 110, 109, 101, 110, 116, 69, 114, 114, 111, 114]⟩ 151 (.type Lg), eS P ⟨#[73, 79, 69, 114, 114, 111, 114]⟩ 152 (.type Lg), eS P ⟨#[111, 112, 101, 110]⟩ 153 (.builtin PySem.W.SL.s16789243406116112673x4), eS P ⟨#[113, 117, 105, 116]⟩ 154 (.builtin PySem.W.SL.s14400166428656793546x20), eS P ⟨#[101, 120, 105, 116]⟩ 155 (.builtin PySem.W.SL.s5857708277339239366x20), eS P ⟨#[99, 111, 112, 121, 114, 105, 103, 104, 116]⟩ 156 (.builtin "builtins.copyright#opaque"), eS P ⟨#[99, 114, 101, 100, 105, 116, 115]⟩ 157 (.builtin "builtins.credits#opaque"), eS P ⟨#[108, 105, 99, 101, 110, 115, 101]⟩ 158 (.builtin "builtins.license#opaque"), eS P ⟨#[104, 101, 108, 112]⟩ 159 (.builtin PySem.W.SL.s7804999707787243718x20)] 159, #[]⟩
noncomputable def o1 (P:Params):Obj:=⟨(.type L0),none,.dict #[eS P FV 162 (.ref 4),eS P z31 163 (.ref 5)] 2,#[]⟩
noncomputable def o2 (P:Params):Obj:=⟨.none,none,.dict #[eS P ⟨#[116,121,112,101,46,95,95,115,117,98,99,108,97,115,115,101,115,95,95,46,69,120,99,101,112,116,105,111,110,46,48]⟩ 341 (.int 128 0),eS P ⟨#[116,121,112,101,46,95,95,115,117,98,99,108,97,115,115,101,115,95,95,46,69,120,99,101,112,116,105,111,110,46,110]⟩ 342 (.int 1 0)] 2,#[]⟩
noncomputable def o3 (P:Params):Obj:=⟨(.type L0),none,.dict #[eS P G8 165 (.str z3 2352),eS P z4 166 .none,eS P Gs 167 .none,eS P Gm 168 (.builtin PySem.W.SL.s7097527257260152453x26),eS P G5 169 .none,eS P ⟨#[95,95,97,110,110,111,116,97,116,105,111,110,115,95,95]⟩ 170 (.ref 6),eS P ⟨#[95,95,98,117,105,108,116,105,110,115,95,95]⟩ 171 (.ref 4),eS P ⟨#[95,95,102,105,108,101,95,95]⟩ 173 (.str z1 172),eS P ⟨#[95,95,99,97,99,104,101,100,95,95]⟩ 174 .none,eS P ⟨#[95,119,97,108,108]⟩ 193 (.ref 21),eS P ⟨#[83,69,78,68,95,79,78,95,67,76,79,83,69,68]⟩ 197 (.str ⟨#[115,101,110,100,32,111,110,32,99,108,111,115,101,100,32,99,104,97,110,110,101,108]⟩ 196),eS P ⟨#[67,76,79,83,69,95,79,70,95,67,76,79,83,69,68]⟩ 199 (.str ⟨#[99,108,111,115,101,32,111,102,32,99,108,111,115,101,100,32,99,104,97,110,110,101,108]⟩ 198),eS P ⟨#[119,111,107,101,110,95,114,111,119]⟩ 207 (.ref 28),eS P ⟨#[111,110,99,101,95,97,95,115,101,108,101,99,116]⟩ 218 (.ref 35),eS P z17 310 (.ref 106),eS P z18 344 (.ref 128),eS P ⟨#[78,97,109,101,70,97,117,108,116]⟩ 360 (.ref 141),eS P ⟨#[84,121,112,101,70,97,117,108,116]⟩ 376 (.ref 153),eS P ⟨#[77,97,99,104,105,110,101,70,97,117,108,116]⟩ 402 (.ref 172),eS P ⟨#[70,117,101,108,70,97,117,108,116]⟩ 418 (.ref 184),eS P z19 443 (.ref 203),eS P ⟨#[82,85,78,84,73,77,69,95,69,82,82,79,82]⟩ 446 (.ref 206),eS P ⟨#[114,117,110,116,105,109,101,95,112,97,110,105,99]⟩ 453 (.ref 213),eS P ⟨#[82,101,97,99,104,101,100]⟩ 486 (.ref 230),eS P ⟨#[119,105,116,104,111,117,116,95,112,111,105,110,116,101,114]⟩ 493 (.ref 241),eS P ⟨#[111,119,110,95,109,101,116,104,111,100,115]⟩ 501 (.ref 248),eS P ⟨#[109,101,109,98,101,114,115,95,97,116]⟩ 507 (.ref 253),eS P ⟨#[101,109,98,101,100,100,101,100,95,105,110]⟩ 520 (.ref 260),eS P ⟨#[76,101,118,101,108,115]⟩ 562 (.ref 284),eS P ⟨#[115,116,97,114,116,95,116,121,112,101]⟩ 572 (.ref 295),eS P ⟨#[102,105,110,100,95,109,101,109,98,101,114]⟩ 585 (.ref 302),eS P ⟨#[110,97,109,101,115,95,111,102,95,109,101,116,104,111,100,115]⟩ 601 (.ref 309),eS P ⟨#[109,101,109,98,101,114,95,111,114,95,110,111,110,101]⟩ 610 (.ref 316),eS P ⟨#[105,115,95,105,110,95,115,101,116]⟩ 616 (.ref 321),eS P ⟨#[109,101,116,104,111,100,95,115,101,116]⟩ 629 (.ref 328),eS P ⟨#[108,97,99,107,95,111,102]⟩ 640 (.ref 335),eS P ⟨#[105,109,112,108,101,109,101,110,116,115]⟩ 652 (.ref 342),eS P ⟨#[102,97,99,101,95,102,105,116,115]⟩ 663 (.ref 349),eS P ⟨#[75,73,78,68,95,66,73,84,83]⟩ 696 (.ref 350),eS P ⟨#[83,72,73,70,84,73,78,71,95,79,80,83]⟩ 699 (.ref 351),eS P ⟨#[104,97,115,95,115,105,103,110]⟩ 706 (.ref 358),eS P ⟨#[108,101,97,115,116,95,105,110,116]⟩ 713 (.ref 365),eS P ⟨#[119,114,97,112,112,101,100,95,105,110,116]⟩ 722 (.ref 372),eS P ⟨#[99,117,116,95,113,117,111,116,105,101,110,116]⟩ 731 (.ref 379),eS P ⟨#[115,104,105,102,116,101,100,95,105,110,116]⟩ 741 (.ref 386),eS P ⟨#[101,120,97,99,116,95,114,101,115,117,108,116]⟩ 751 (.ref 393),eS P ⟨#[105,110,116,95,97,114,105,116,104,109,101,116,105,99]⟩ 761 (.ref 400),eS P ⟨#[105,110,116,95,117,110,97,114,121]⟩ 770 (.ref 407),eS P ⟨#[105,115,95,111,114,100,101,114,101,100,95,115,111]⟩ 779 (.ref 414),eS P ⟨#[76,79,79,83,69,95,84,65,71,83]⟩ 785 (.ref 415),eS P ⟨#[118,97,108,117,101,95,116,97,103]⟩ 792 (.ref 422),eS P ⟨#[102,97,99,101,115,95,101,113,117,97,108]⟩ 801 (.ref 429),eS P ⟨#[118,97,108,117,101,115,95,101,113,117,97,108]⟩ 813 (.ref 436),eS P z32 819 (.ref 441),eS P z20 902 (.ref 500),eS P ⟨#[101,110,116,114,121,95,110,117,109,98,101,114]⟩ 909 (.ref 511),eS P ⟨#[84,97,98,108,101,87,97,108,107]⟩ 958 (.ref 540),eS P ⟨#[110,105,108,95,109,97,112,95,112,97,110,105,99]⟩ 964 (.ref 551),eS P ⟨#[83,77,65,76,76,95,82,79,79,77]⟩ 968 (.int 8 967),eS P ⟨#[77,79,83,84,95,82,79,79,77]⟩ 972 (.int 1048576 971),eS P ⟨#[115,108,105,99,101,95,112,97,114,116,115]⟩ 979 (.ref 558),eS P ⟨#[115,108,105,99,101,95,108,101,110,103,116,104]⟩ 986 (.ref 565),eS P ⟨#[115,108,105,99,101,95,114,111,111,109]⟩ 993 (.ref 572),eS P ⟨#[99,101,108,108,95,112,108,97,99,101]⟩ 1003 (.ref 579),eS P ⟨#[112,108,97,99,101,95,105,110]⟩ 1015 (.ref 586),eS P ⟨#[98,111,117,110,100,115,95,112,97,110,105,99]⟩ 1021 (.ref 593),eS P ⟨#[99,117,116,95,115,108,105,99,101]⟩ 1035 (.ref 600),eS P ⟨#[99,117,116,95,97,114,114,97,121]⟩ 1046 (.ref 607),eS P ⟨#[109,97,100,101,95,115,108,105,99,101]⟩ 1057 (.ref 614),eS P ⟨#[103,114,111,119,110,95,114,111,111,109]⟩ 1065 (.ref 621),eS P z33 1071 (.ref 626),eS P ⟨#[112,117,116,95,118,97,108,117,101,115]⟩ 1083 (.ref 633),eS P ⟨#[97,112,112,101,110,100,101,100,95,115,108,105,99,101]⟩ 1102 (.ref 640),eS P ⟨#[99,111,112,105,101,100,95,118,97,108,117,101,115]⟩ 1116 (.ref 647),eS P ⟨#[99,111,112,105,101,100,95,115,108,105,99,101]⟩ 1126 (.ref 654),eS P ⟨#[87,82,79,78,71,95,82,85,78,69]⟩ 1130 (.int 65533 1129),eS P ⟨#[76,65,83,84,95,82,85,78,69]⟩ 1132 (.int 1114111 1131),eS P ⟨#[70,73,82,83,84,95,72,65,76,70]⟩ 1134 (.int 55296 1133),eS P ⟨#[76,65,83,84,95,72,65,76,70]⟩ 1136 (.int 57343 1135),eS P ⟨#[76,79,78,71,95,72,69,65,68,83]⟩ 1146 (.ref 658),eS P ⟨#[105,115,95,114,105,103,104,116,95,114,117,110,101]⟩ 1153 (.ref 665),eS P ⟨#[104,101,97,100,95,111,102]⟩ 1164 (.ref 672),eS P ⟨#[114,117,110,101,95,97,116]⟩ 1178 (.ref 679),eS P ⟨#[114,117,110,101,115,95,111,102]⟩ 1189 (.ref 686),eS P ⟨#[114,117,110,101,95,112,108,97,99,101,115]⟩ 1200 (.ref 693),eS P z34 1206 (.ref 698),eS P z35 1212 (.ref 703),eS P ⟨#[99,117,116,95,116,101,120,116]⟩ 1221 (.ref 710),eS P ⟨#[117,110,100,101,114,108,121,105,110,103,95,111,102]⟩ 1231 (.ref 717),eS P ⟨#[105,115,95,99,111,109,112,97,114,97,98,108,101]⟩ 1237 (.ref 722),eS P z36 1243 (.ref 727),eS P ⟨#[67,79,77,80,65,82,69,68,95,79,80,83]⟩ 1252 (.ref 728),eS P ⟨#[77,79,83,84,95,79,67,84,69,84,83]⟩ 1256 (.int 1048576 1255),eS P ⟨#[84,101,120,116,87,97,108,107]⟩ 1300 (.ref 759),eS P ⟨#[99,104,101,99,107,101,100,95,112,108,97,99,101]⟩ 1308 (.ref 770),eS P ⟨#[116,97,114,103,101,116,95,111,102]⟩ 1315 (.ref 777),eS P z21 1784 (.ref 1079),eS P z22 1825 (.ref 1107),eS P z23 1892 (.ref 1148),eS P z24 1993 (.ref 1222),eS P ⟨#[105,110,110,101,114,95,111,102]⟩ 2003 (.ref 1233),eS P ⟨#[112,97,114,116,95,98,101,104,105,110,100]⟩ 2012 (.ref 1240),eS P ⟨#[119,105,116,104,95,112,97,114,116]⟩ 2026 (.ref 1247),eS P ⟨#[108,101,100,95,102,108,97,116]⟩ 2035 (.ref 1254),eS P z25 2068 (.ref 1271),eS P z26 2242 (.ref 1404),eS P ⟨#[80,76,65,73,78]⟩ 2246 (.ref 1411),eS P z27 2281 (.ref 1428),eS P ⟨#[107,110,111,119,110,95,114,111,119,115]⟩ 2293 (.ref 1439),eS P z28 2351 (.ref 1471),eS P ⟨#[95,108,97,119,95,112,111,111,108]⟩ 2364 (.ref 1482),eS P ⟨#[95,108,97,119,95,116,97,107,101]⟩ 2373 (.ref 1489),eS P ⟨#[95,108,97,119,95,111,110,101]⟩ 2381 (.ref 1496),eS P z37 2387 (.ref 1501),eS P ⟨#[95,108,97,119,95,99,111,110,115,116]⟩ 2395 (.ref 1508),eS P ⟨#[95,108,97,119,95,108,111,119]⟩ 2405 (.ref 1515),eS P z38 2411 (.ref 1520),eS P z39 2417 (.ref 1525),eS P ⟨#[95,108,97,119,95,112,97,114,116,115,95,114,105,103,104,116]⟩ 2441 (.ref 1532),eS P z40 2447 (.ref 1537),eS P ⟨#[95,108,97,119,95,109,97,112,115,95,114,105,103,104,116]⟩ 2463 (.ref 1544),eS P ⟨#[95,108,97,119,95,102,97,99,101,115,95,114,105,103,104,116]⟩ 2479 (.ref 1551),eS P z41 2485 (.ref 1556),eS P z42 2491 (.ref 1561),eS P ⟨#[108,97,119]⟩ 2503 (.ref 1568)] 125,#[]⟩
noncomputable def o10 (P:Params):Obj:=⟨(.type L2),none,.plain,#[some (.ref 9),some (.ref 3),some (.ref 3),none,some (.str z31 164),none,some (.ref 0)]⟩
noncomputable def o14 (P:Params):Obj:=⟨(.type L2),none,.plain,#[some (.ref 13),some (.ref 3),some (.ref 3),none,some (.str z31 164),none,some (.ref 0)]⟩
noncomputable def o42 (P:Params):Obj:=⟨(.type L2),none,.plain,#[some (.ref 41),some (.ref 3),some (.ref 38),none,some (.str z30 194),none,some (.ref 0)]⟩
noncomputable def o48 (P:Params):Obj:=cdO (sB 6 0) (qA 6 0) 231 18 2 43 236
noncomputable def o49 (P:Params):Obj:=fnO (sB 6 0) (qA 6 0) 3 48 .none .none .none (.str z30 194) none .none 0
noncomputable def o102 (P:Params):Obj:=cdO (sB 6 8) (qA 6 8) 291 56 1 97 295
noncomputable def o103 (P:Params):Obj:=fnO (sB 6 8) (qA 6 8) 3 102 .none .none .none (.str z30 194) none .none 0
noncomputable def o105 (P:Params):Obj:=⟨(.type L0),none,.dict #[eS P z6 226 (.str z30 194),eS P z7 230 (.int 16 229),eS P z5 238 (.ref 49),eS P ⟨#[99,97,110,95,115,101,110,100]⟩ 245 (.ref 56),eS P ⟨#[99,97,110,95,114,101,99,101,105,118,101]⟩ 252 (.ref 63),eS P ⟨#[111,102,102,101,114]⟩ 260 (.ref 70),eS P ⟨#[116,97,107,101]⟩ 268 (.ref 77),eS P G3 276 (.ref 84),eS P ⟨#[99,108,111,115,101]⟩ 282 (.ref 89),eS P ⟨#[102,111,114,103,101,116]⟩ 290 (.ref 96),eS P Qj 297 (.ref 103),eS P z8 303 (.ref 104),eS P z11 305 (.ref 107),eS P z9 307 (.ref 108),eS P z4 308 .none] 4,#[]⟩
noncomputable def o106 (P:Params):Obj:=clsO (.type L6) [none,none,some (.str z17 219),some (.str z17 227),some (.builtin L8),some (.bool true)] z17 [(.type L1)] [(.ref 106),(.type L1)] 105 z17 true [] [] false none false
noncomputable def o117 (P:Params):Obj:=⟨(.type L2),none,.plain,#[some (.ref 116),some (.ref 3),some (.ref 113),none,some (.str z10 311),none,some (.ref 0)]⟩
noncomputable def o118 (P:Params):Obj:=⟨(.type L4),none,.seq #[(.int 0 325)] 0,#[]⟩
noncomputable def o124 (P:Params):Obj:=cdO (sB 8 0) (qA 8 0) 326 61 3 119 332
noncomputable def o125 (P:Params):Obj:=fnO (sB 8 0) (qA 8 0) 3 124 (.ref 118) .none .none (.str z10 311) none .none 0
noncomputable def o127 (P:Params):Obj:=⟨(.type L0),none,.dict #[eS P z6 320 (.str z10 311),eS P z7 324 (.int 59 323),eS P z5 334 (.ref 125),eS P z8 337 (.ref 126),eS P z9 339 (.ref 129),eS P z4 340 .none] 3,#[]⟩
noncomputable def o128 (P:Params):Obj:=clsO (.type L6) [some (.ref 111),none,some (.str z18 313),some (.str z18 321),some (.builtin Lj),some (.bool true)] z18 [(.type L9)] [(.ref 128),(.type L9),(.type Lf),(.type L1)] 127 z18 true [] [(.ref 141),(.ref 153),(.ref 172),(.ref 184),(.ref 203)] false none false
noncomputable def o138 (P:Params):Obj:=⟨(.type L2),none,.plain,#[some (.ref 137),some (.ref 3),some (.ref 134),none,some (.str z10 311),none,some (.ref 0)]⟩
noncomputable def o150 (P:Params):Obj:=⟨(.type L2),none,.plain,#[some (.ref 149),some (.ref 3),some (.ref 146),none,some (.str z10 311),none,some (.ref 0)]⟩
noncomputable def o162 (P:Params):Obj:=⟨(.type L2),none,.plain,#[some (.ref 161),some (.ref 3),some (.ref 158),none,some (.str z10 311),none,some (.ref 0)]⟩
noncomputable def o181 (P:Params):Obj:=⟨(.type L2),none,.plain,#[some (.ref 180),some (.ref 3),some (.ref 177),none,some (.str z10 311),none,some (.ref 0)]⟩
noncomputable def o193 (P:Params):Obj:=⟨(.type L2),none,.plain,#[some (.ref 192),some (.ref 3),some (.ref 189),none,some (.str z10 311),none,some (.ref 0)]⟩
noncomputable def o199 (P:Params):Obj:=cdO (sB 13 0) (qA 13 0) 431 78 2 194 436
noncomputable def o200 (P:Params):Obj:=fnO (sB 13 0) (qA 13 0) 3 199 .none .none .none (.str z10 311) none .none 0
noncomputable def o202 (P:Params):Obj:=⟨(.type L0),none,.dict #[eS P z6 426 (.str z10 311),eS P z7 430 (.int 76 429),eS P z5 438 (.ref 200),eS P z8 440 (.ref 201),eS P z4 441 .none] 2,#[]⟩
noncomputable def o203 (P:Params):Obj:=clsO (.type L6) [some (.ref 187),none,some (.str z19 419),some (.str z19 427),some (.builtin Lj),some (.bool true)] z19 [(.ref 128)] [(.ref 203),(.ref 128),(.type L9),(.type Lf),(.type L1)] 202 z19 true [] [] false none false
noncomputable def o212 (P:Params):Obj:=cdO (sA 15) (nA 15) 447 82 1 207 451
noncomputable def o213 (P:Params):Obj:=fnO (sA 15) (nA 15) 3 212 .none .none .none (.str z10 311) none .none 0
noncomputable def o220 (P:Params):Obj:=⟨(.type L2),none,.plain,#[some (.ref 219),some (.ref 3),some (.ref 216),none,some (.str Gd 454),none,some (.ref 0)]⟩
noncomputable def o267 (P:Params):Obj:=⟨(.type L2),none,.plain,#[some (.ref 266),some (.ref 3),some (.ref 263),none,some (.str Gd 454),none,some (.ref 0)]⟩
noncomputable def o348 (P:Params):Obj:=cdO (sA 33) (nA 33) 655 202 3 343 661
noncomputable def o349 (P:Params):Obj:=fnO (sA 33) (nA 33) 3 348 .none .none .none (.str ⟨#[99,104,97,110,99,111,114,101,46,100,105,115,112,97,116,99,104]⟩ 653) none .none 0
noncomputable def o350 (P:Params):Obj:=⟨(.type L0),none,.dict #[eS P Q1 666 (.int 64 667),eS P Q0 668 (.int 8 669),eS P ⟨#[105,110,116,49,54]⟩ 670 (.int 16 671),eS P ⟨#[105,110,116,51,50]⟩ 672 (.int 32 673),eS P Q2 674 (.int 64 675),eS P ⟨#[117,105,110,116]⟩ 676 (.int 64 677),eS P Q3 678 (.int 8 679),eS P Q4 680 (.int 16 681),eS P Gh 682 (.int 32 683),eS P Gj 684 (.int 64 685)] 10,#[]⟩
noncomputable def o351 (P:Params):Obj:=⟨(.type L4),none,.seq #[(.str ⟨#[60,60]⟩ 697),(.str ⟨#[62,62]⟩ 698)] 0,#[]⟩
noncomputable def o357 (P:Params):Obj:=cdO (sA 37) (nA 37) 700 209 1 352 704
noncomputable def o358 (P:Params):Obj:=fnO (sA 37) (nA 37) 3 357 .none .none .none (.str z16 664) none .none 0
noncomputable def o364 (P:Params):Obj:=cdO (sA 38) (nA 38) 707 211 1 359 711
noncomputable def o365 (P:Params):Obj:=fnO (sA 38) (nA 38) 3 364 .none .none .none (.str z16 664) none .none 0
noncomputable def o371 (P:Params):Obj:=cdO (sA 39) (nA 39) 714 213 2 366 720
noncomputable def o372 (P:Params):Obj:=fnO (sA 39) (nA 39) 3 371 .none .none .none (.str z16 664) none .none 0
noncomputable def o392 (P:Params):Obj:=cdO (sA 42) (nA 42) 742 224 3 387 749
noncomputable def o393 (P:Params):Obj:=fnO (sA 42) (nA 42) 3 392 .none .none .none (.str z16 664) none .none 0
noncomputable def o399 (P:Params):Obj:=cdO (sA 43) (nA 43) 752 241 4 394 759
noncomputable def o400 (P:Params):Obj:=fnO (sA 43) (nA 43) 3 399 .none .none .none (.str z16 664) none .none 0
noncomputable def o413 (P:Params):Obj:=cdO (sA 45) (nA 45) 771 249 3 408 777
noncomputable def o414 (P:Params):Obj:=fnO (sA 45) (nA 45) 3 413 .none .none .none (.str z16 664) none .none 0
noncomputable def o415 (P:Params):Obj:=⟨(.type L4),none,.seq #[(.str Qi 782),(.str Qd 783),(.str ⟨#[102,117,110,99]⟩ 784)] 0,#[]⟩
noncomputable def o421 (P:Params):Obj:=cdO (sA 48) (nA 48) 786 261 1 416 790
noncomputable def o422 (P:Params):Obj:=fnO (sA 48) (nA 48) 3 421 .none .none .none (.str Gc 780) none .none 0
noncomputable def o440 (P:Params):Obj:=⟨(.type L5),none,.fields #[(.str z32 814),(.str z32 815),(.str z1 816),(.int 289 0),(.int 2 0),(.int 0 0),(.int 0 0),(.int 3 0),(.ref 437),(.bool true),(.int 181 0),(.ref 438),.none,.none,.none,(.ref 439),(.int 817 0),(.int 289 0),(.str z1 818)],#[]⟩
noncomputable def o441 (P:Params):Obj:=fnO (sA 51) (nA 51) 3 440 .none .none .none (.str Gc 780) none .none 0
noncomputable def o448 (P:Params):Obj:=⟨(.type L2),none,.plain,#[some (.ref 447),some (.ref 3),some (.ref 444),none,some (.str z12 820),none,some (.ref 0)]⟩
noncomputable def o454 (P:Params):Obj:=cdO (sB 53 0) (qA 53 0) 834 303 2 449 839
noncomputable def o455 (P:Params):Obj:=fnO (sB 53 0) (qA 53 0) 3 454 .none .none .none (.str z12 820) none .none 0
noncomputable def o461 (P:Params):Obj:=cdO (sB 53 1) (qA 53 1) 842 308 2 456 847
noncomputable def o462 (P:Params):Obj:=fnO (sB 53 1) (qA 53 1) 3 461 .none .none .none (.str z12 820) none .none 0
noncomputable def o468 (P:Params):Obj:=cdO (sB 53 2) (qA 53 2) 850 311 1 463 854
noncomputable def o469 (P:Params):Obj:=fnO (sB 53 2) (qA 53 2) 3 468 .none .none .none (.str z12 820) none .none 0
noncomputable def o475 (P:Params):Obj:=cdO (sB 53 3) (qA 53 3) 857 314 2 470 863
noncomputable def o476 (P:Params):Obj:=fnO (sB 53 3) (qA 53 3) 3 475 .none .none .none (.str z12 820) none .none 0
noncomputable def o482 (P:Params):Obj:=cdO (sB 53 4) (qA 53 4) 866 318 3 477 874
noncomputable def o483 (P:Params):Obj:=fnO (sB 53 4) (qA 53 4) 3 482 .none .none .none (.str z12 820) none .none 0
noncomputable def o489 (P:Params):Obj:=cdO (sB 53 5) (qA 53 5) 877 327 2 484 882
noncomputable def o490 (P:Params):Obj:=fnO (sB 53 5) (qA 53 5) 3 489 .none .none .none (.str z12 820) none .none 0
noncomputable def o499 (P:Params):Obj:=⟨(.type L0),none,.dict #[eS P z6 829 (.str z12 820),eS P z7 833 (.int 301 832),eS P z5 841 (.ref 455),eS P ⟨#[109,97,114,107,95,111,102]⟩ 849 (.ref 462),eS P Qj 856 (.ref 469),eS P ⟨#[103,101,116]⟩ 865 (.ref 476),eS P ⟨#[112,117,116]⟩ 876 (.ref 483),eS P ⟨#[114,101,109,111,118,101]⟩ 884 (.ref 490),eS P ⟨#[114,111,119,115]⟩ 891 (.ref 497),eS P z8 895 (.ref 498),eS P z11 897 (.ref 501),eS P z9 899 (.ref 502),eS P z4 900 .none] 4,#[]⟩
noncomputable def o500 (P:Params):Obj:=clsO (.type L6) [none,none,some (.str z20 822),some (.str z20 830),some (.builtin L8),some (.bool true)] z20 [(.type L1)] [(.ref 500),(.type L1)] 499 z20 true [] [] false none false
noncomputable def o518 (P:Params):Obj:=⟨(.type L2),none,.plain,#[some (.ref 517),some (.ref 3),some (.ref 514),none,some (.str z12 820),none,some (.ref 0)]⟩
noncomputable def o550 (P:Params):Obj:=cdO (sA 56) (nA 56) 959 353 0 545 962
noncomputable def o551 (P:Params):Obj:=fnO (sA 56) (nA 56) 3 550 .none .none .none (.str z12 820) none .none 0
noncomputable def o557 (P:Params):Obj:=cdO (sA 60) (nA 60) 973 358 1 552 977
noncomputable def o558 (P:Params):Obj:=fnO (sA 60) (nA 60) 3 557 .none .none .none (.str z13 965) none .none 0
noncomputable def o564 (P:Params):Obj:=cdO (sA 61) (nA 61) 980 360 1 559 984
noncomputable def o565 (P:Params):Obj:=fnO (sA 61) (nA 61) 3 564 .none .none .none (.str z13 965) none .none 0
noncomputable def o571 (P:Params):Obj:=cdO (sA 62) (nA 62) 987 362 1 566 991
noncomputable def o572 (P:Params):Obj:=fnO (sA 62) (nA 62) 3 571 .none .none .none (.str z13 965) none .none 0
noncomputable def o578 (P:Params):Obj:=cdO (sA 63) (nA 63) 994 364 2 573 1001
noncomputable def o579 (P:Params):Obj:=fnO (sA 63) (nA 63) 3 578 .none .none .none (.str z13 965) none .none 0
noncomputable def o585 (P:Params):Obj:=cdO (sA 64) (nA 64) 1004 367 2 580 1013
noncomputable def o586 (P:Params):Obj:=fnO (sA 64) (nA 64) 3 585 .none .none .none (.str z13 965) none .none 0
noncomputable def o592 (P:Params):Obj:=cdO (sA 65) (nA 65) 1016 372 0 587 1019
noncomputable def o593 (P:Params):Obj:=fnO (sA 65) (nA 65) 3 592 .none .none .none (.str z13 965) none .none 0
noncomputable def o599 (P:Params):Obj:=cdO (sA 66) (nA 66) 1022 374 4 594 1033
noncomputable def o600 (P:Params):Obj:=fnO (sA 66) (nA 66) 3 599 .none .none .none (.str z13 965) none .none 0
noncomputable def o606 (P:Params):Obj:=cdO (sA 67) (nA 67) 1036 384 5 601 1044
noncomputable def o607 (P:Params):Obj:=fnO (sA 67) (nA 67) 3 606 .none .none .none (.str z13 965) none .none 0
noncomputable def o625 (P:Params):Obj:=⟨(.type L5),none,.fields #[(.str z33 1066),(.str z33 1067),(.str z1 1068),(.int 394 0),(.int 2 0),(.int 0 0),(.int 0 0),(.int 3 0),(.ref 622),(.bool true),(.int 181 0),(.ref 623),.none,.none,.none,(.ref 624),(.int 1069 0),(.int 394 0),(.str z1 1070)],#[]⟩
noncomputable def o626 (P:Params):Obj:=fnO (sA 70) (nA 70) 3 625 .none .none .none (.str z13 965) none .none 0
noncomputable def o655 (P:Params):Obj:=⟨(.type L4),none,.seq #[(.int 192 1137),(.int 223 1138),(.int 128 1139)] 0,#[]⟩
noncomputable def o656 (P:Params):Obj:=⟨(.type L4),none,.seq #[(.int 224 1140),(.int 239 1141),(.int 2048 1142)] 0,#[]⟩
noncomputable def o657 (P:Params):Obj:=⟨(.type L4),none,.seq #[(.int 240 1143),(.int 247 1144),(.int 65536 1145)] 0,#[]⟩
noncomputable def o658 (P:Params):Obj:=⟨(.type L4),none,.seq #[(.ref 655),(.ref 656),(.ref 657)] 0,#[]⟩
noncomputable def o664 (P:Params):Obj:=cdO (sA 81) (nA 81) 1147 427 1 659 1151
noncomputable def o665 (P:Params):Obj:=fnO (sA 81) (nA 81) 3 664 .none .none .none (.str z15 1127) none .none 0
noncomputable def o671 (P:Params):Obj:=cdO (sA 82) (nA 82) 1154 429 1 666 1162
noncomputable def o672 (P:Params):Obj:=fnO (sA 82) (nA 82) 3 671 .none .none .none (.str z15 1127) none .none 0
noncomputable def o678 (P:Params):Obj:=cdO (sA 83) (nA 83) 1165 435 2 673 1176
noncomputable def o679 (P:Params):Obj:=fnO (sA 83) (nA 83) 3 678 .none .none .none (.str z15 1127) none .none 0
noncomputable def o685 (P:Params):Obj:=cdO (sA 84) (nA 84) 1179 448 1 680 1187
noncomputable def o686 (P:Params):Obj:=fnO (sA 84) (nA 84) 3 685 .none .none .none (.str z15 1127) none .none 0
noncomputable def o697 (P:Params):Obj:=⟨(.type L5),none,.fields #[(.str z34 1201),(.str z34 1202),(.str z1 1203),(.int 462 0),(.int 1 0),(.int 0 0),(.int 0 0),(.int 3 0),(.ref 694),(.bool true),(.int 181 0),(.ref 695),.none,.none,.none,(.ref 696),(.int 1204 0),(.int 462 0),(.str z1 1205)],#[]⟩
noncomputable def o698 (P:Params):Obj:=fnO (sA 86) (nA 86) 3 697 .none .none .none (.str z15 1127) none .none 0
noncomputable def o702 (P:Params):Obj:=⟨(.type L5),none,.fields #[(.str z35 1207),(.str z35 1208),(.str z1 1209),(.int 470 0),(.int 1 0),(.int 0 0),(.int 0 0),(.int 3 0),(.ref 699),(.bool true),(.int 181 0),(.ref 700),.none,.none,.none,(.ref 701),(.int 1210 0),(.int 470 0),(.str z1 1211)],#[]⟩
noncomputable def o703 (P:Params):Obj:=fnO (sA 87) (nA 87) 3 702 .none .none .none (.str z15 1127) none .none 0
noncomputable def o709 (P:Params):Obj:=cdO (sA 88) (nA 88) 1213 472 3 704 1219
noncomputable def o710 (P:Params):Obj:=fnO (sA 88) (nA 88) 3 709 .none .none .none (.str z15 1127) none .none 0
noncomputable def o716 (P:Params):Obj:=cdO (sA 90) (nA 90) 1224 477 2 711 1229
noncomputable def o717 (P:Params):Obj:=fnO (sA 90) (nA 90) 3 716 .none .none .none (.str Gn 1222) none .none 0
noncomputable def o726 (P:Params):Obj:=⟨(.type L5),none,.fields #[(.str z36 1238),(.str z36 1239),(.str z1 1240),(.int 494 0),(.int 2 0),(.int 0 0),(.int 0 0),(.int 3 0),(.ref 723),(.bool true),(.int 181 0),(.ref 724),.none,.none,.none,(.ref 725),(.int 1241 0),(.int 494 0),(.str z1 1242)],#[]⟩
noncomputable def o727 (P:Params):Obj:=fnO (sA 92) (nA 92) 3 726 .none .none .none (.str Gn 1222) none .none 0
noncomputable def o728 (P:Params):Obj:=⟨(.type L4),none,.seq #[(.str ⟨#[61,61]⟩ 1246),(.str ⟨#[33,61]⟩ 1247),(.str ⟨#[60]⟩ 1248),(.str ⟨#[60,61]⟩ 1249),(.str ⟨#[62]⟩ 1250),(.str Qy 1251)] 0,#[]⟩
noncomputable def o735 (P:Params):Obj:=⟨(.type L2),none,.plain,#[some (.ref 734),some (.ref 3),some (.ref 731),none,some (.str z0 1244),none,some (.ref 0)]⟩
noncomputable def o769 (P:Params):Obj:=cdO (sA 97) (nA 97) 1301 520 2 764 1306
noncomputable def o770 (P:Params):Obj:=fnO (sA 97) (nA 97) 3 769 .none .none .none (.str z0 1244) none .none 0
noncomputable def o776 (P:Params):Obj:=cdO (sA 98) (nA 98) 1309 524 1 771 1313
noncomputable def o777 (P:Params):Obj:=fnO (sA 98) (nA 98) 3 776 .none .none .none (.str z0 1244) none .none 0
noncomputable def o784 (P:Params):Obj:=⟨(.type L2),none,.plain,#[some (.ref 783),some (.ref 3),some (.ref 780),none,some (.str z0 1244),none,some (.ref 0)]⟩
noncomputable def o790 (P:Params):Obj:=cdO (sB 99 0) (qA 99 0) 1328 530 5 785 1336
noncomputable def o791 (P:Params):Obj:=fnO (sB 99 0) (qA 99 0) 3 790 .none .none .none (.str z0 1244) none .none 0
noncomputable def o804 (P:Params):Obj:=cdO (sB 99 2) (qA 99 2) 1347 540 3 799 1353
noncomputable def o805 (P:Params):Obj:=fnO (sB 99 2) (qA 99 2) 3 804 .none .none .none (.str z0 1244) none .none 0
noncomputable def o812 (P:Params):Obj:=fnO (sB 99 3) (qA 99 3) 3 811 .none .none .none (.str z0 1244) none .none 0
noncomputable def o818 (P:Params):Obj:=cdO (sB 99 4) (qA 99 4) 1364 546 2 813 1369
noncomputable def o819 (P:Params):Obj:=fnO (sB 99 4) (qA 99 4) 3 818 .none .none .none (.str z0 1244) none .none 0
noncomputable def o825 (P:Params):Obj:=cdO (sB 99 5) (qA 99 5) 1372 549 2 820 1377
noncomputable def o826 (P:Params):Obj:=fnO (sB 99 5) (qA 99 5) 3 825 .none .none .none (.str z0 1244) none .none 0
noncomputable def o832 (P:Params):Obj:=cdO (sB 99 6) (qA 99 6) 1380 552 5 827 1390
noncomputable def o833 (P:Params):Obj:=fnO (sB 99 6) (qA 99 6) 3 832 .none .none .none (.str z0 1244) none .none 0
noncomputable def o847 (P:Params):Obj:=fnO (sB 99 8) (qA 99 8) 3 846 .none .none .none (.str z0 1244) none .none 0
noncomputable def o853 (P:Params):Obj:=cdO (sB 99 9) (qA 99 9) 1411 565 3 848 1421
noncomputable def o854 (P:Params):Obj:=fnO (sB 99 9) (qA 99 9) 3 853 .none .none .none (.str z0 1244) none .none 0
noncomputable def o860 (P:Params):Obj:=cdO (sB 99 10) (qA 99 10) 1424 569 5 855 1433
noncomputable def o861 (P:Params):Obj:=fnO (sB 99 10) (qA 99 10) 3 860 .none .none .none (.str z0 1244) none .none 0
noncomputable def o867 (P:Params):Obj:=cdO (sB 99 11) (qA 99 11) 1436 575 5 862 1444
noncomputable def o868 (P:Params):Obj:=fnO (sB 99 11) (qA 99 11) 3 867 .none .none .none (.str z0 1244) none .none 0
noncomputable def o875 (P:Params):Obj:=fnO (sB 99 12) (qA 99 12) 3 874 .none .none .none (.str z0 1244) none .none 0
noncomputable def o881 (P:Params):Obj:=cdO (sB 99 13) (qA 99 13) 1458 586 3 876 1467
noncomputable def o882 (P:Params):Obj:=fnO (sB 99 13) (qA 99 13) 3 881 .none .none .none (.str z0 1244) none .none 0
noncomputable def o888 (P:Params):Obj:=cdO (sB 99 14) (qA 99 14) 1470 590 4 883 1478
noncomputable def o889 (P:Params):Obj:=fnO (sB 99 14) (qA 99 14) 3 888 .none .none .none (.str z0 1244) none .none 0
noncomputable def o896 (P:Params):Obj:=fnO (sB 99 15) (qA 99 15) 3 895 .none .none .none (.str z0 1244) none .none 0
noncomputable def o903 (P:Params):Obj:=fnO (sB 99 16) (qA 99 16) 3 902 .none .none .none (.str z0 1244) none .none 0
noncomputable def o909 (P:Params):Obj:=cdO (sB 99 17) (qA 99 17) 1499 609 3 904 1507
noncomputable def o910 (P:Params):Obj:=fnO (sB 99 17) (qA 99 17) 3 909 .none .none .none (.str z0 1244) none .none 0
noncomputable def o917 (P:Params):Obj:=fnO (sB 99 18) (qA 99 18) 3 916 .none .none .none (.str z0 1244) none .none 0
noncomputable def o923 (P:Params):Obj:=cdO (sB 99 19) (qA 99 19) 1519 617 3 918 1525
noncomputable def o924 (P:Params):Obj:=fnO (sB 99 19) (qA 99 19) 3 923 .none .none .none (.str z0 1244) none .none 0
noncomputable def o930 (P:Params):Obj:=cdO (sB 99 20) (qA 99 20) 1528 620 3 925 1534
noncomputable def o931 (P:Params):Obj:=fnO (sB 99 20) (qA 99 20) 3 930 .none .none .none (.str z0 1244) none .none 0
noncomputable def o937 (P:Params):Obj:=cdO (sB 99 21) (qA 99 21) 1537 623 3 932 1545
noncomputable def o938 (P:Params):Obj:=fnO (sB 99 21) (qA 99 21) 3 937 .none .none .none (.str z0 1244) none .none 0
noncomputable def o944 (P:Params):Obj:=cdO (sB 99 22) (qA 99 22) 1548 627 3 939 1558
noncomputable def o945 (P:Params):Obj:=fnO (sB 99 22) (qA 99 22) 3 944 .none .none .none (.str z0 1244) none .none 0
noncomputable def o952 (P:Params):Obj:=fnO (sB 99 23) (qA 99 23) 3 951 .none .none .none (.str z0 1244) none .none 0
noncomputable def o956 (P:Params):Obj:=⟨(.type L5),none,.fields #[(.str Gb 1575),(.str ⟨#[79,112,101,114,97,116,105,111,110,115,46,100,111,95,99,117,116]⟩ 1576),(.str z1 1577),(.int 648 0),(.int 3 0),(.int 0 0),(.int 0 0),(.int 3 0),(.ref 953),(.bool true),(.int 181 0),(.ref 954),.none,.none,.none,(.ref 955),(.int 1578 0),(.int 648 0),(.str z1 1579)],#[]⟩
noncomputable def o957 (P:Params):Obj:=fnO (sB 99 24) (qA 99 24) 3 956 .none .none .none (.str z0 1244) none .none 0
noncomputable def o963 (P:Params):Obj:=cdO (sB 99 25) (qA 99 25) 1581 661 4 958 1589
noncomputable def o964 (P:Params):Obj:=fnO (sB 99 25) (qA 99 25) 3 963 .none .none .none (.str z0 1244) none .none 0
noncomputable def o978 (P:Params):Obj:=fnO (sB 99 27) (qA 99 27) 3 977 .none .none .none (.str z0 1244) none .none 0
noncomputable def o985 (P:Params):Obj:=fnO (sB 99 28) (qA 99 28) 3 984 .none .none .none (.str z0 1244) none .none 0
noncomputable def o991 (P:Params):Obj:=cdO (sB 99 29) (qA 99 29) 1625 685 3 986 1633
noncomputable def o992 (P:Params):Obj:=fnO (sB 99 29) (qA 99 29) 3 991 .none .none .none (.str z0 1244) none .none 0
noncomputable def o998 (P:Params):Obj:=cdO (sB 99 30) (qA 99 30) 1636 689 4 993 1644
noncomputable def o999 (P:Params):Obj:=fnO (sB 99 30) (qA 99 30) 3 998 .none .none .none (.str z0 1244) none .none 0
noncomputable def o1005 (P:Params):Obj:=cdO (sB 99 31) (qA 99 31) 1647 703 3 1000 1653
noncomputable def o1006 (P:Params):Obj:=fnO (sB 99 31) (qA 99 31) 3 1005 .none .none .none (.str z0 1244) none .none 0
noncomputable def o1012 (P:Params):Obj:=cdO (sB 99 32) (qA 99 32) 1656 706 2 1007 1661
noncomputable def o1013 (P:Params):Obj:=fnO (sB 99 32) (qA 99 32) 3 1012 .none .none .none (.str z0 1244) none .none 0
noncomputable def o1019 (P:Params):Obj:=cdO (sB 99 33) (qA 99 33) 1664 709 3 1014 1675
noncomputable def o1020 (P:Params):Obj:=fnO (sB 99 33) (qA 99 33) 3 1019 .none .none .none (.str z0 1244) none .none 0
noncomputable def o1026 (P:Params):Obj:=cdO (sB 99 34) (qA 99 34) 1678 718 3 1021 1690
noncomputable def o1027 (P:Params):Obj:=fnO (sB 99 34) (qA 99 34) 3 1026 .none .none .none (.str z0 1244) none .none 0
noncomputable def o1033 (P:Params):Obj:=cdO (sB 99 35) (qA 99 35) 1693 729 3 1028 1704
noncomputable def o1034 (P:Params):Obj:=fnO (sB 99 35) (qA 99 35) 3 1033 .none .none .none (.str z0 1244) none .none 0
noncomputable def o1041 (P:Params):Obj:=fnO (sB 99 36) (qA 99 36) 3 1040 .none .none .none (.str z0 1244) none .none 0
noncomputable def o1048 (P:Params):Obj:=fnO (sB 99 37) (qA 99 37) 3 1047 .none .none .none (.str z0 1244) none .none 0
noncomputable def o1054 (P:Params):Obj:=cdO (sB 99 38) (qA 99 38) 1728 756 3 1049 1735
noncomputable def o1055 (P:Params):Obj:=fnO (sB 99 38) (qA 99 38) 3 1054 .none .none .none (.str z0 1244) none .none 0
noncomputable def o1061 (P:Params):Obj:=cdO (sB 99 39) (qA 99 39) 1738 762 3 1056 1746
noncomputable def o1062 (P:Params):Obj:=fnO (sB 99 39) (qA 99 39) 3 1061 .none .none .none (.str z0 1244) none .none 0
noncomputable def o1068 (P:Params):Obj:=cdO (sB 99 40) (qA 99 40) 1749 767 3 1063 1760
noncomputable def o1069 (P:Params):Obj:=fnO (sB 99 40) (qA 99 40) 3 1068 .none .none .none (.str z0 1244) none .none 0
noncomputable def o1076 (P:Params):Obj:=fnO (sB 99 41) (qA 99 41) 3 1075 .none .none .none (.str z0 1244) none .none 0
noncomputable def o1078 (P:Params):Obj:=⟨(.type L0),none,.dict #[eS P z6 1323 (.str z0 1244),eS P z7 1327 (.int 528 1326),eS P z5 1338 (.ref 791),eS P ⟨#[107,110,111,119,115]⟩ 1346 (.ref 798),eS P ⟨#[100,111]⟩ 1355 (.ref 805),eS P Qk 1363 (.ref 812),eS P ⟨#[122,101,114,111]⟩ 1371 (.ref 819),eS P Q7 1379 (.ref 826),eS P ⟨#[107,101,112,116]⟩ 1392 (.ref 833),eS P ⟨#[116,111,108,100,95,116,121,112,101]⟩ 1401 (.ref 840),eS P ⟨#[100,111,95,109,111,118,101]⟩ 1410 (.ref 847),eS P ⟨#[100,111,95,98,105,110,97,114,121]⟩ 1423 (.ref 854),eS P ⟨#[99,111,109,112,97,114,101,100]⟩ 1435 (.ref 861),eS P ⟨#[119,111,114,107,101,100]⟩ 1446 (.ref 868),eS P ⟨#[100,111,95,117,110,97,114,121]⟩ 1457 (.ref 875),eS P ⟨#[100,111,95,99,111,110,118,101,114,116]⟩ 1469 (.ref 882),eS P ⟨#[99,111,110,118,101,114,116,101,100]⟩ 1480 (.ref 889),eS P ⟨#[100,111,95,109,97,100,101]⟩ 1489 (.ref 896),eS P ⟨#[100,111,95,112,97,114,116]⟩ 1498 (.ref 903),eS P ⟨#[100,111,95,101,108,101,109]⟩ 1509 (.ref 910),eS P ⟨#[100,111,95,110,101,119]⟩ 1518 (.ref 917),eS P ⟨#[100,111,95,108,111,97,100]⟩ 1527 (.ref 924),eS P ⟨#[100,111,95,115,116,111,114,101]⟩ 1536 (.ref 931),eS P ⟨#[100,111,95,102,105,101,108,100,112,116,114]⟩ 1547 (.ref 938),eS P ⟨#[100,111,95,101,108,101,109,112,116,114]⟩ 1560 (.ref 945),eS P ⟨#[100,111,95,109,97,107,101,115,108,105,99,101]⟩ 1574 (.ref 952),eS P Gb 1580 (.ref 957),eS P ⟨#[116,101,120,116,95,99,117,116]⟩ 1591 (.ref 964),eS P ⟨#[108,105,115,116,101,100]⟩ 1599 (.ref 971),eS P ⟨#[100,111,95,97,112,112,101,110,100]⟩ 1613 (.ref 978),eS P ⟨#[100,111,95,99,111,112,121]⟩ 1624 (.ref 985),eS P ⟨#[100,111,95,115,105,122,101]⟩ 1635 (.ref 992),eS P ⟨#[115,105,122,101,95,111,102]⟩ 1646 (.ref 999),eS P ⟨#[100,111,95,109,97,107,101,109,97,112]⟩ 1655 (.ref 1006),eS P ⟨#[116,97,98,108,101,95,111,102]⟩ 1663 (.ref 1013),eS P ⟨#[100,111,95,109,97,112,103,101,116]⟩ 1677 (.ref 1020),eS P ⟨#[100,111,95,109,97,112,115,101,116]⟩ 1692 (.ref 1027),eS P ⟨#[100,111,95,109,97,112,100,101,108]⟩ 1706 (.ref 1034),eS P ⟨#[100,111,95,105,116,101,114]⟩ 1717 (.ref 1041),eS P ⟨#[100,111,95,110,101,120,116]⟩ 1727 (.ref 1048),eS P ⟨#[100,111,95,109,97,107,101,99,104,97,110]⟩ 1737 (.ref 1055),eS P ⟨#[100,111,95,102,97,99,101]⟩ 1748 (.ref 1062),eS P ⟨#[100,111,95,97,115,115,101,114,116]⟩ 1762 (.ref 1069),eS P ⟨#[100,111,95,99,108,111,115,117,114,101]⟩ 1771 (.ref 1076),eS P z8 1777 (.ref 1077),eS P z11 1779 (.ref 1080),eS P z9 1781 (.ref 1081),eS P z4 1782 .none] 4,#[]⟩
noncomputable def o1079 (P:Params):Obj:=clsO (.type L6) [none,none,some (.str z21 1316),some (.str z21 1324),some (.builtin L8),some (.bool true)] z21 [(.type L1)] [(.ref 1079),(.type L1)] 1078 z21 true [] [] false none false
noncomputable def o1090 (P:Params):Obj:=⟨(.type L2),none,.plain,#[some (.ref 1089),some (.ref 3),some (.ref 1086),none,some (.str z43 1785),none,some (.ref 0)]⟩
noncomputable def o1096 (P:Params):Obj:=cdO (sB 101 0) (qA 101 0) 1799 782 2 1091 1804
noncomputable def o1097 (P:Params):Obj:=fnO (sB 101 0) (qA 101 0) 3 1096 .none .none .none (.str z43 1785) none .none 0
noncomputable def o1106 (P:Params):Obj:=⟨(.type L0),none,.dict #[eS P z6 1794 (.str z43 1785),eS P z7 1798 (.int 780 1797),eS P z5 1806 (.ref 1097),eS P ⟨#[112,105,99,107]⟩ 1815 (.ref 1104),eS P z8 1818 (.ref 1105),eS P z11 1820 (.ref 1108),eS P z9 1822 (.ref 1109),eS P z4 1823 .none] 4,#[]⟩
noncomputable def o1107 (P:Params):Obj:=clsO (.type L6) [none,none,some (.str z22 1787),some (.str z22 1795),some (.builtin L8),some (.bool true)] z22 [(.type L1)] [(.ref 1107),(.type L1)] 1106 z22 true [] [] false none false
noncomputable def o1118 (P:Params):Obj:=⟨(.type L2),none,.plain,#[some (.ref 1117),some (.ref 3),some (.ref 1114),none,some (.str z44 1826),none,some (.ref 0)]⟩
noncomputable def o1119 (P:Params):Obj:=⟨(.type L4),none,.seq #[(.int 0 1840),(.int 0 1841),.none] 0,#[]⟩
noncomputable def o1125 (P:Params):Obj:=cdO (sB 103 0) (qA 103 0) 1842 795 8 1120 1853
noncomputable def o1126 (P:Params):Obj:=fnO (sB 103 0) (qA 103 0) 3 1125 (.ref 1119) .none .none (.str z44 1826) none .none 0
noncomputable def o1147 (P:Params):Obj:=⟨(.type L0),none,.dict #[eS P z6 1835 (.str z44 1826),eS P z7 1839 (.int 793 1838),eS P z5 1855 (.ref 1126),eS P ⟨#[105,110,115,116,114,117,99,116,105,111,110,115]⟩ 1863 (.ref 1133),eS P ⟨#[116,101,114,109,105,110,97,116,111,114]⟩ 1871 (.ref 1140),eS P Qa 1877 (.ref 1145),eS P z8 1885 (.ref 1146),eS P z11 1887 (.ref 1149),eS P z9 1889 (.ref 1150),eS P z4 1890 .none] 4,#[]⟩
noncomputable def o1148 (P:Params):Obj:=clsO (.type L6) [none,none,some (.str z23 1828),some (.str z23 1836),some (.builtin L8),some (.bool true)] z23 [(.type L1)] [(.ref 1148),(.type L1)] 1147 z23 true [] [] false none false
noncomputable def o1159 (P:Params):Obj:=⟨(.type L2),none,.plain,#[some (.ref 1158),some (.ref 3),some (.ref 1155),none,some (.str z29 1893),none,some (.ref 0)]⟩
noncomputable def o1160 (P:Params):Obj:=⟨(.type L4),none,.seq #[.none] 0,#[]⟩
noncomputable def o1164 (P:Params):Obj:=⟨(.type L5),none,.fields #[(.str z5 1907),(.str ⟨#[70,114,97,109,101,46,95,95,105,110,105,116,95,95]⟩ 1908),(.str z1 1909),(.int 816 0),(.int 5 0),(.int 0 0),(.int 0 0),(.int 3 0),(.ref 1161),(.bool true),(.int 181 0),(.ref 1162),.none,.none,.none,(.ref 1163),(.int 1910 0),(.int 816 0),(.str z1 1911)],#[]⟩
noncomputable def o1165 (P:Params):Obj:=fnO (sB 105 0) (qA 105 0) 3 1164 (.ref 1160) .none .none (.str z29 1893) none .none 0
noncomputable def o1171 (P:Params):Obj:=cdO (sB 105 1) (qA 105 1) 1913 828 2 1166 1918
noncomputable def o1172 (P:Params):Obj:=fnO (sB 105 1) (qA 105 1) 3 1171 .none .none .none (.str z29 1893) none .none 0
noncomputable def o1183 (P:Params):Obj:=cdO (sB 105 3) (qA 105 3) 1927 838 3 1178 1933
noncomputable def o1184 (P:Params):Obj:=fnO (sB 105 3) (qA 105 3) 3 1183 .none .none .none (.str z29 1893) none .none 0
noncomputable def o1221 (P:Params):Obj:=⟨(.type L0),none,.dict #[eS P z6 1902 (.str z29 1893),eS P z7 1906 (.int 814 1905),eS P z5 1912 (.ref 1165),eS P ⟨#[114,101,97,100]⟩ 1920 (.ref 1172),eS P ⟨#[114,101,97,100,95,97,108,108]⟩ 1926 (.ref 1177),eS P ⟨#[112,117,116]⟩ 1935 (.ref 1184),eS P ⟨#[112,117,116,95,97,108,108]⟩ 1944 (.ref 1191),eS P ⟨#[110,101,120,116,95,114,111,119]⟩ 1953 (.ref 1198),eS P ⟨#[105,115,95,97,116,95,101,110,100]⟩ 1960 (.ref 1205),eS P ⟨#[115,116,101,112,95,111,110]⟩ 1967 (.ref 1212),eS P ⟨#[106,117,109,112]⟩ 1975 (.ref 1219),eS P z8 1986 (.ref 1220),eS P z11 1988 (.ref 1223),eS P z9 1990 (.ref 1224),eS P z4 1991 .none] 4,#[]⟩
noncomputable def o1222 (P:Params):Obj:=clsO (.type L6) [none,none,some (.str z24 1895),some (.str z24 1903),some (.builtin L8),some (.bool true)] z24 [(.type L1)] [(.ref 1222),(.type L1)] 1221 z24 true [] [] false none false
noncomputable def o1232 (P:Params):Obj:=cdO (sA 107) (nA 107) 1996 859 2 1227 2001
noncomputable def o1233 (P:Params):Obj:=fnO (sA 107) (nA 107) 3 1232 .none .none .none (.str z2 1994) none .none 0
noncomputable def o1239 (P:Params):Obj:=cdO (sA 108) (nA 108) 2004 863 2 1234 2010
noncomputable def o1240 (P:Params):Obj:=fnO (sA 108) (nA 108) 3 1239 .none .none .none (.str z2 1994) none .none 0
noncomputable def o1246 (P:Params):Obj:=cdO (sA 109) (nA 109) 2013 867 3 1241 2024
noncomputable def o1247 (P:Params):Obj:=fnO (sA 109) (nA 109) 3 1246 .none .none .none (.str z2 1994) none .none 0
noncomputable def o1253 (P:Params):Obj:=cdO (sA 110) (nA 110) 2027 877 1 1248 2033
noncomputable def o1254 (P:Params):Obj:=fnO (sA 110) (nA 110) 3 1253 .none .none .none (.str z2 1994) none .none 0
noncomputable def o1261 (P:Params):Obj:=⟨(.type L2),none,.plain,#[some (.ref 1260),some (.ref 3),some (.ref 1257),none,some (.str z2 1994),none,some (.ref 0)]⟩
noncomputable def o1267 (P:Params):Obj:=cdO (sB 111 0) (qA 111 0) 2048 882 4 1262 2055
noncomputable def o1268 (P:Params):Obj:=fnO (sB 111 0) (qA 111 0) 3 1267 .none .none .none (.str z2 1994) none .none 0
noncomputable def o1270 (P:Params):Obj:=⟨(.type L0),none,.dict #[eS P z6 2043 (.str z2 1994),eS P z7 2047 (.int 880 2046),eS P z5 2057 (.ref 1268),eS P z8 2061 (.ref 1269),eS P z11 2063 (.ref 1272),eS P z9 2065 (.ref 1273),eS P z4 2066 .none] 4,#[]⟩
noncomputable def o1271 (P:Params):Obj:=clsO (.type L6) [none,none,some (.str z25 2036),some (.str z25 2044),some (.builtin L8),some (.bool true)] z25 [(.type L1)] [(.ref 1271),(.type L1)] 1270 z25 true [] [] false none false
noncomputable def o1282 (P:Params):Obj:=⟨(.type L2),none,.plain,#[some (.ref 1281),some (.ref 3),some (.ref 1278),none,some (.str z2 1994),none,some (.ref 0)]⟩
noncomputable def o1283 (P:Params):Obj:=⟨(.type L4),none,.seq #[.none] 0,#[]⟩
noncomputable def o1289 (P:Params):Obj:=cdO (sB 112 0) (qA 112 0) 2081 888 2 1284 2086
noncomputable def o1290 (P:Params):Obj:=fnO (sB 112 0) (qA 112 0) 3 1289 (.ref 1283) .none .none (.str z2 1994) none .none 0
noncomputable def o1291 (P:Params):Obj:=⟨(.type L4),none,.seq #[(.str Q6 2089)] 0,#[]⟩
noncomputable def o1297 (P:Params):Obj:=cdO (sB 112 1) (qA 112 1) 2090 895 4 1292 2097
noncomputable def o1298 (P:Params):Obj:=fnO (sB 112 1) (qA 112 1) 3 1297 (.ref 1291) .none .none (.str z2 1994) none .none 0
noncomputable def o1311 (P:Params):Obj:=cdO (sB 112 3) (qA 112 3) 2109 905 2 1306 2114
noncomputable def o1312 (P:Params):Obj:=fnO (sB 112 3) (qA 112 3) 3 1311 .none .none .none (.str z2 1994) none .none 0
noncomputable def o1325 (P:Params):Obj:=cdO (sB 112 5) (qA 112 5) 2125 913 2 1320 2130
noncomputable def o1326 (P:Params):Obj:=fnO (sB 112 5) (qA 112 5) 3 1325 .none .none .none (.str z2 1994) none .none 0
noncomputable def o1358 (P:Params):Obj:=cdO (sB 112 10) (qA 112 10) 2163 929 2 1353 2168
noncomputable def o1359 (P:Params):Obj:=fnO (sB 112 10) (qA 112 10) 3 1358 .none .none .none (.str z2 1994) none .none 0
noncomputable def o1365 (P:Params):Obj:=cdO (sB 112 11) (qA 112 11) 2171 933 2 1360 2176
noncomputable def o1366 (P:Params):Obj:=fnO (sB 112 11) (qA 112 11) 3 1365 .none .none .none (.str z2 1994) none .none 0
noncomputable def o1372 (P:Params):Obj:=cdO (sB 112 12) (qA 112 12) 2179 937 3 1367 2185
noncomputable def o1373 (P:Params):Obj:=fnO (sB 112 12) (qA 112 12) 3 1372 .none .none .none (.str z2 1994) none .none 0
noncomputable def o1379 (P:Params):Obj:=cdO (sB 112 13) (qA 112 13) 2188 941 3 1374 2194
noncomputable def o1380 (P:Params):Obj:=fnO (sB 112 13) (qA 112 13) 3 1379 .none .none .none (.str z2 1994) none .none 0
noncomputable def o1386 (P:Params):Obj:=cdO (sB 112 14) (qA 112 14) 2197 946 2 1381 2205
noncomputable def o1387 (P:Params):Obj:=fnO (sB 112 14) (qA 112 14) 3 1386 .none .none .none (.str z2 1994) none .none 0
noncomputable def o1393 (P:Params):Obj:=cdO (sB 112 15) (qA 112 15) 2208 955 2 1388 2214
noncomputable def o1394 (P:Params):Obj:=fnO (sB 112 15) (qA 112 15) 3 1393 .none .none .none (.str z2 1994) none .none 0
noncomputable def o1400 (P:Params):Obj:=cdO (sB 112 16) (qA 112 16) 2217 960 3 1395 2227
noncomputable def o1401 (P:Params):Obj:=fnO (sB 112 16) (qA 112 16) 3 1400 .none .none .none (.str z2 1994) none .none 0
noncomputable def o1403 (P:Params):Obj:=⟨(.type L0),none,.dict #[eS P z6 2076 (.str z2 1994),eS P z7 2080 (.int 886 2079),eS P z5 2088 (.ref 1290),eS P ⟨#[109,97,107,101]⟩ 2099 (.ref 1298),eS P ⟨#[109,97,107,101,95,110,97,109,101,100]⟩ 2108 (.ref 1305),eS P ⟨#[107,101,112,116,95,97,116]⟩ 2116 (.ref 1312),eS P Q8 2124 (.ref 1319),eS P Q9 2132 (.ref 1326),eS P ⟨#[110,117,109,98,101,114,115]⟩ 2138 (.ref 1331),eS P ⟨#[118,97,108,117,101,115,95,105,110]⟩ 2146 (.ref 1338),eS P ⟨#[102,114,101,101]⟩ 2154 (.ref 1345),eS P ⟨#[100,114,111,112]⟩ 2162 (.ref 1352),eS P ⟨#[108,111,111,107,101,100]⟩ 2170 (.ref 1359),eS P ⟨#[116,111,117,99,104,101,100]⟩ 2178 (.ref 1366),eS P ⟨#[111,118,101,114,119,114,105,116,116,101,110]⟩ 2187 (.ref 1373),eS P ⟨#[99,101,108,108]⟩ 2196 (.ref 1380),eS P ⟨#[112,101,101,107]⟩ 2207 (.ref 1387),eS P Qq 2216 (.ref 1394),eS P Qz 2229 (.ref 1401),eS P z8 2235 (.ref 1402),eS P z11 2237 (.ref 1405),eS P z9 2239 (.ref 1406),eS P z4 2240 .none] 4,#[]⟩
noncomputable def o1404 (P:Params):Obj:=clsO (.type L6) [none,none,some (.str z26 2069),some (.str z26 2077),some (.builtin L8),some (.bool true)] z26 [(.type L1)] [(.ref 1404),(.type L1)] 1403 z26 true [] [] false none false
noncomputable def o1418 (P:Params):Obj:=⟨(.type L2),none,.plain,#[some (.ref 1417),some (.ref 3),some (.ref 1414),none,some (.str z14 2243),none,some (.ref 0)]⟩
noncomputable def o1424 (P:Params):Obj:=cdO (sB 115 0) (qA 115 0) 2259 974 5 1419 2267
noncomputable def o1425 (P:Params):Obj:=fnO (sB 115 0) (qA 115 0) 3 1424 .none .none .none (.str z14 2243) none .none 0
noncomputable def o1427 (P:Params):Obj:=⟨(.type L0),none,.dict #[eS P z6 2254 (.str z14 2243),eS P z7 2258 (.int 972 2257),eS P z5 2269 (.ref 1425),eS P z8 2274 (.ref 1426),eS P z11 2276 (.ref 1429),eS P z9 2278 (.ref 1430),eS P z4 2279 .none] 4,#[]⟩
noncomputable def o1428 (P:Params):Obj:=clsO (.type L6) [none,none,some (.str z27 2247),some (.str z27 2255),some (.builtin L8),some (.bool true)] z27 [(.type L1)] [(.ref 1428),(.type L1)] 1427 z27 true [] [] false none false
noncomputable def o1438 (P:Params):Obj:=cdO (sA 116) (nA 116) 2282 979 0 1433 2291
noncomputable def o1439 (P:Params):Obj:=fnO (sA 116) (nA 116) 3 1438 .none .none .none (.str z14 2243) none .none 0
noncomputable def o1446 (P:Params):Obj:=⟨(.type L2),none,.plain,#[some (.ref 1445),some (.ref 3),some (.ref 1442),none,some (.str z14 2243),none,some (.ref 0)]⟩
noncomputable def o1447 (P:Params):Obj:=⟨(.type L4),none,.seq #[.none] 0,#[]⟩
noncomputable def o1453 (P:Params):Obj:=cdO (sB 117 0) (qA 117 0) 2306 989 2 1448 2311
noncomputable def o1454 (P:Params):Obj:=fnO (sB 117 0) (qA 117 0) 3 1453 (.ref 1447) .none .none (.str z14 2243) none .none 0
noncomputable def o1460 (P:Params):Obj:=cdO (sB 117 1) (qA 117 1) 2314 1004 2 1455 2320
noncomputable def o1461 (P:Params):Obj:=fnO (sB 117 1) (qA 117 1) 3 1460 .none .none .none (.str z14 2243) none .none 0
noncomputable def o1470 (P:Params):Obj:=⟨(.type L0),none,.dict #[eS P z6 2301 (.str z14 2243),eS P z7 2305 (.int 987 2304),eS P z5 2313 (.ref 1454),eS P ⟨#[98,97,115,101,95,111,102]⟩ 2322 (.ref 1461),eS P ⟨#[115,101,116,116,108,101,100]⟩ 2330 (.ref 1468),eS P z8 2344 (.ref 1469),eS P z11 2346 (.ref 1472),eS P z9 2348 (.ref 1473),eS P z4 2349 .none] 4,#[]⟩
noncomputable def o1471 (P:Params):Obj:=clsO (.type L6) [none,none,some (.str z28 2294),some (.str z28 2302),some (.builtin L8),some (.bool true)] z28 [(.type L1)] [(.ref 1471),(.type L1)] 1470 z28 true [] [] false none false
noncomputable def o1481 (P:Params):Obj:=cdO (sA 119) (nA 119) 2354 1019 2 1476 2362
noncomputable def o1482 (P:Params):Obj:=fnO (sA 119) (nA 119) 3 1481 .none .none .none (.str z3 2352) none .none 0
noncomputable def o1488 (P:Params):Obj:=cdO (sA 120) (nA 120) 2365 1024 2 1483 2371
noncomputable def o1489 (P:Params):Obj:=fnO (sA 120) (nA 120) 3 1488 .none .none .none (.str z3 2352) none .none 0
noncomputable def o1495 (P:Params):Obj:=cdO (sA 121) (nA 121) 2374 1033 2 1490 2379
noncomputable def o1496 (P:Params):Obj:=fnO (sA 121) (nA 121) 3 1495 .none .none .none (.str z3 2352) none .none 0
noncomputable def o1500 (P:Params):Obj:=⟨(.type L5),none,.fields #[(.str z37 2382),(.str z37 2383),(.str z1 2384),(.int 1035 0),(.int 3 0),(.int 0 0),(.int 0 0),(.int 3 0),(.ref 1497),(.bool true),(.int 181 0),(.ref 1498),.none,.none,.none,(.ref 1499),(.int 2385 0),(.int 1035 0),(.str z1 2386)],#[]⟩
noncomputable def o1501 (P:Params):Obj:=fnO (sA 122) (nA 122) 3 1500 .none .none .none (.str z3 2352) none .none 0
noncomputable def o1507 (P:Params):Obj:=cdO (sA 123) (nA 123) 2388 1042 2 1502 2393
noncomputable def o1508 (P:Params):Obj:=fnO (sA 123) (nA 123) 3 1507 .none .none .none (.str z3 2352) none .none 0
noncomputable def o1514 (P:Params):Obj:=cdO (sA 124) (nA 124) 2396 1044 2 1509 2403
noncomputable def o1515 (P:Params):Obj:=fnO (sA 124) (nA 124) 3 1514 .none .none .none (.str z3 2352) none .none 0
noncomputable def o1519 (P:Params):Obj:=⟨(.type L5),none,.fields #[(.str z38 2406),(.str z38 2407),(.str z1 2408),(.int 1048 0),(.int 2 0),(.int 0 0),(.int 0 0),(.int 3 0),(.ref 1516),(.bool true),(.int 181 0),(.ref 1517),.none,.none,.none,(.ref 1518),(.int 2409 0),(.int 1048 0),(.str z1 2410)],#[]⟩
noncomputable def o1520 (P:Params):Obj:=fnO (sA 125) (nA 125) 3 1519 .none .none .none (.str z3 2352) none .none 0
noncomputable def o1524 (P:Params):Obj:=⟨(.type L5),none,.fields #[(.str z39 2412),(.str z39 2413),(.str z1 2414),(.int 1067 0),(.int 2 0),(.int 0 0),(.int 0 0),(.int 3 0),(.ref 1521),(.bool true),(.int 181 0),(.ref 1522),.none,.none,.none,(.ref 1523),(.int 2415 0),(.int 1067 0),(.str z1 2416)],#[]⟩
noncomputable def o1525 (P:Params):Obj:=fnO (sA 126) (nA 126) 3 1524 .none .none .none (.str z3 2352) none .none 0
noncomputable def o1531 (P:Params):Obj:=cdO (sA 127) (nA 127) 2418 1088 2 1526 2439
noncomputable def o1532 (P:Params):Obj:=fnO (sA 127) (nA 127) 3 1531 .none .none .none (.str z3 2352) none .none 0
noncomputable def o1536 (P:Params):Obj:=⟨(.type L5),none,.fields #[(.str z40 2442),(.str z40 2443),(.str z1 2444),(.int 1105 0),(.int 2 0),(.int 0 0),(.int 0 0),(.int 3 0),(.ref 1533),(.bool true),(.int 181 0),(.ref 1534),.none,.none,.none,(.ref 1535),(.int 2445 0),(.int 1105 0),(.str z1 2446)],#[]⟩
noncomputable def o1537 (P:Params):Obj:=fnO (sA 128) (nA 128) 3 1536 .none .none .none (.str z3 2352) none .none 0
noncomputable def o1543 (P:Params):Obj:=cdO (sA 129) (nA 129) 2448 1120 2 1538 2461
noncomputable def o1544 (P:Params):Obj:=fnO (sA 129) (nA 129) 3 1543 .none .none .none (.str z3 2352) none .none 0
noncomputable def o1550 (P:Params):Obj:=cdO (sA 130) (nA 130) 2464 1137 2 1545 2477
noncomputable def o1551 (P:Params):Obj:=fnO (sA 130) (nA 130) 3 1550 .none .none .none (.str z3 2352) none .none 0
noncomputable def o1555 (P:Params):Obj:=⟨(.type L5),none,.fields #[(.str z41 2480),(.str z41 2481),(.str z1 2482),(.int 1149 0),(.int 5 0),(.int 0 0),(.int 0 0),(.int 3 0),(.ref 1552),(.bool true),(.int 181 0),(.ref 1553),.none,.none,.none,(.ref 1554),(.int 2483 0),(.int 1149 0),(.str z1 2484)],#[]⟩
noncomputable def o1556 (P:Params):Obj:=fnO (sA 131) (nA 131) 3 1555 .none .none .none (.str z3 2352) none .none 0
noncomputable def o1560 (P:Params):Obj:=⟨(.type L5),none,.fields #[(.str z42 2486),(.str z42 2487),(.str z1 2488),(.int 1152 0),(.int 2 0),(.int 0 0),(.int 0 0),(.int 3 0),(.ref 1557),(.bool true),(.int 181 0),(.ref 1558),.none,.none,.none,(.ref 1559),(.int 2489 0),(.int 1152 0),(.str z1 2490)],#[]⟩
noncomputable def o1561 (P:Params):Obj:=fnO (sA 132) (nA 132) 3 1560 .none .none .none (.str z3 2352) none .none 0
noncomputable def o1567 (P:Params):Obj:=cdO (sA 133) (nA 133) 2492 1165 1 1562 2501
noncomputable def o1568 (P:Params):Obj:=fnO (sA 133) (nA 133) 3 1567 .none .none .none (.str z3 2352) none .none 0
noncomputable def KT0 (P:Params):PT:=(.node 923 (o923 P) (.node 564 (o564 P) (.node 357 (o357 P) (.node 128 (o128 P) (.node 102 (o102 P) (.node 10 (o10 P) (.node 2 (o2 P) (.node 1 (o1 P) (.node 0 (o0 P) .nil .nil) .nil) (.node 3 (o3 P) .nil .nil)) (.node 48 (o48 P) (.node 42 (o42 P) (.node 14 (o14 P) .nil .nil) .nil) (.node 49 (o49 P) .nil .nil))) (.node 118 (o118 P) (.node 106 (o106 P) (.node 105 (o105 P) (.node 103 (o103 P) .nil .nil) .nil) (.node 117 (o117 P) .nil .nil)) (.node 125 (o125 P) (.node 124 (o124 P) .nil .nil) (.node 127 (o127 P) .nil .nil)))) (.node 203 (o203 P) (.node 193 (o193 P) (.node 162 (o162 P) (.node 150 (o150 P) (.node 138 (o138 P) .nil .nil) .nil) (.node 181 (o181 P) .nil .nil)) (.node 200 (o200 P) (.node 199 (o199 P) .nil .nil) (.node 202 (o202 P) .nil .nil))) (.node 348 (o348 P) (.node 220 (o220 P) (.node 213 (o213 P) (.node 212 (o212 P) .nil .nil) .nil) (.node 267 (o267 P) .nil .nil)) (.node 350 (o350 P) (.node 349 (o349 P) .nil .nil) (.node 351 (o351 P) .nil .nil))))) (.node 455 (o455 P) (.node 413 (o413 P) (.node 372 (o372 P) (.node 365 (o365 P) (.node 364 (o364 P) (.node 358 (o358 P) .nil .nil) .nil) (.node 371 (o371 P) .nil .nil)) (.node 399 (o399 P) (.node 393 (o393 P) (.node 392 (o392 P) .nil .nil) .nil) (.node 400 (o400 P) .nil .nil))) (.node 440 (o440 P) (.node 421 (o421 P) (.node 415 (o415 P) (.node 414 (o414 P) .nil .nil) .nil) (.node 422 (o422 P) .nil .nil)) (.node 448 (o448 P) (.node 441 (o441 P) .nil .nil) (.node 454 (o454 P) .nil .nil)))) (.node 489 (o489 P) (.node 475 (o475 P) (.node 468 (o468 P) (.node 462 (o462 P) (.node 461 (o461 P) .nil .nil) .nil) (.node 469 (o469 P) .nil .nil)) (.node 482 (o482 P) (.node 476 (o476 P) .nil .nil) (.node 483 (o483 P) .nil .nil))) (.node 550 (o550 P) (.node 500 (o500 P) (.node 499 (o499 P) (.node 490 (o490 P) .nil .nil) .nil) (.node 518 (o518 P) .nil .nil)) (.node 557 (o557 P) (.node 551 (o551 P) .nil .nil) (.node 558 (o558 P) .nil .nil)))))) (.node 727 (o727 P) (.node 658 (o658 P) (.node 599 (o599 P) (.node 579 (o579 P) (.node 572 (o572 P) (.node 571 (o571 P) (.node 565 (o565 P) .nil .nil) .nil) (.node 578 (o578 P) .nil .nil)) (.node 592 (o592 P) (.node 586 (o586 P) (.node 585 (o585 P) .nil .nil) .nil) (.node 593 (o593 P) .nil .nil))) (.node 626 (o626 P) (.node 607 (o607 P) (.node 606 (o606 P) (.node 600 (o600 P) .nil .nil) .nil) (.node 625 (o625 P) .nil .nil)) (.node 656 (o656 P) (.node 655 (o655 P) .nil .nil) (.node 657 (o657 P) .nil .nil)))) (.node 697 (o697 P) (.node 678 (o678 P) (.node 671 (o671 P) (.node 665 (o665 P) (.node 664 (o664 P) .nil .nil) .nil) (.node 672 (o672 P) .nil .nil)) (.node 685 (o685 P) (.node 679 (o679 P) .nil .nil) (.node 686 (o686 P) .nil .nil))) (.node 710 (o710 P) (.node 703 (o703 P) (.node 702 (o702 P) (.node 698 (o698 P) .nil .nil) .nil) (.node 709 (o709 P) .nil .nil)) (.node 717 (o717 P) (.node 716 (o716 P) .nil .nil) (.node 726 (o726 P) .nil .nil))))) (.node 833 (o833 P) (.node 791 (o791 P) (.node 776 (o776 P) (.node 769 (o769 P) (.node 735 (o735 P) (.node 728 (o728 P) .nil .nil) .nil) (.node 770 (o770 P) .nil .nil)) (.node 784 (o784 P) (.node 777 (o777 P) .nil .nil) (.node 790 (o790 P) .nil .nil))) (.node 819 (o819 P) (.node 812 (o812 P) (.node 805 (o805 P) (.node 804 (o804 P) .nil .nil) .nil) (.node 818 (o818 P) .nil .nil)) (.node 826 (o826 P) (.node 825 (o825 P) .nil .nil) (.node 832 (o832 P) .nil .nil)))) (.node 881 (o881 P) (.node 861 (o861 P) (.node 854 (o854 P) (.node 853 (o853 P) (.node 847 (o847 P) .nil .nil) .nil) (.node 860 (o860 P) .nil .nil)) (.node 868 (o868 P) (.node 867 (o867 P) .nil .nil) (.node 875 (o875 P) .nil .nil))) (.node 903 (o903 P) (.node 889 (o889 P) (.node 888 (o888 P) (.node 882 (o882 P) .nil .nil) .nil) (.node 896 (o896 P) .nil .nil)) (.node 910 (o910 P) (.node 909 (o909 P) .nil .nil) (.node 917 (o917 P) .nil .nil))))))) (.node 1271 (o1271 P) (.node 1076 (o1076 P) (.node 1005 (o1005 P) (.node 957 (o957 P) (.node 938 (o938 P) (.node 931 (o931 P) (.node 930 (o930 P) (.node 924 (o924 P) .nil .nil) .nil) (.node 937 (o937 P) .nil .nil)) (.node 952 (o952 P) (.node 945 (o945 P) (.node 944 (o944 P) .nil .nil) .nil) (.node 956 (o956 P) .nil .nil))) (.node 991 (o991 P) (.node 978 (o978 P) (.node 964 (o964 P) (.node 963 (o963 P) .nil .nil) .nil) (.node 985 (o985 P) .nil .nil)) (.node 998 (o998 P) (.node 992 (o992 P) .nil .nil) (.node 999 (o999 P) .nil .nil)))) (.node 1034 (o1034 P) (.node 1020 (o1020 P) (.node 1013 (o1013 P) (.node 1012 (o1012 P) (.node 1006 (o1006 P) .nil .nil) .nil) (.node 1019 (o1019 P) .nil .nil)) (.node 1027 (o1027 P) (.node 1026 (o1026 P) .nil .nil) (.node 1033 (o1033 P) .nil .nil))) (.node 1061 (o1061 P) (.node 1054 (o1054 P) (.node 1048 (o1048 P) (.node 1041 (o1041 P) .nil .nil) .nil) (.node 1055 (o1055 P) .nil .nil)) (.node 1068 (o1068 P) (.node 1062 (o1062 P) .nil .nil) (.node 1069 (o1069 P) .nil .nil))))) (.node 1171 (o1171 P) (.node 1119 (o1119 P) (.node 1097 (o1097 P) (.node 1090 (o1090 P) (.node 1079 (o1079 P) (.node 1078 (o1078 P) .nil .nil) .nil) (.node 1096 (o1096 P) .nil .nil)) (.node 1107 (o1107 P) (.node 1106 (o1106 P) .nil .nil) (.node 1118 (o1118 P) .nil .nil))) (.node 1159 (o1159 P) (.node 1147 (o1147 P) (.node 1126 (o1126 P) (.node 1125 (o1125 P) .nil .nil) .nil) (.node 1148 (o1148 P) .nil .nil)) (.node 1164 (o1164 P) (.node 1160 (o1160 P) .nil .nil) (.node 1165 (o1165 P) .nil .nil)))) (.node 1240 (o1240 P) (.node 1222 (o1222 P) (.node 1184 (o1184 P) (.node 1183 (o1183 P) (.node 1172 (o1172 P) .nil .nil) .nil) (.node 1221 (o1221 P) .nil .nil)) (.node 1233 (o1233 P) (.node 1232 (o1232 P) .nil .nil) (.node 1239 (o1239 P) .nil .nil))) (.node 1261 (o1261 P) (.node 1253 (o1253 P) (.node 1247 (o1247 P) (.node 1246 (o1246 P) .nil .nil) .nil) (.node 1254 (o1254 P) .nil .nil)) (.node 1268 (o1268 P) (.node 1267 (o1267 P) .nil .nil) (.node 1270 (o1270 P) .nil .nil)))))) (.node 1453 (o1453 P) (.node 1380 (o1380 P) (.node 1325 (o1325 P) (.node 1291 (o1291 P) (.node 1289 (o1289 P) (.node 1283 (o1283 P) (.node 1282 (o1282 P) .nil .nil) .nil) (.node 1290 (o1290 P) .nil .nil)) (.node 1311 (o1311 P) (.node 1298 (o1298 P) (.node 1297 (o1297 P) .nil .nil) .nil) (.node 1312 (o1312 P) .nil .nil))) (.node 1366 (o1366 P) (.node 1359 (o1359 P) (.node 1358 (o1358 P) (.node 1326 (o1326 P) .nil .nil) .nil) (.node 1365 (o1365 P) .nil .nil)) (.node 1373 (o1373 P) (.node 1372 (o1372 P) .nil .nil) (.node 1379 (o1379 P) .nil .nil)))) (.node 1418 (o1418 P) (.node 1400 (o1400 P) (.node 1393 (o1393 P) (.node 1387 (o1387 P) (.node 1386 (o1386 P) .nil .nil) .nil) (.node 1394 (o1394 P) .nil .nil)) (.node 1403 (o1403 P) (.node 1401 (o1401 P) .nil .nil) (.node 1404 (o1404 P) .nil .nil))) (.node 1438 (o1438 P) (.node 1427 (o1427 P) (.node 1425 (o1425 P) (.node 1424 (o1424 P) .nil .nil) .nil) (.node 1428 (o1428 P) .nil .nil)) (.node 1446 (o1446 P) (.node 1439 (o1439 P) .nil .nil) (.node 1447 (o1447 P) .nil .nil))))) (.node 1519 (o1519 P) (.node 1489 (o1489 P) (.node 1471 (o1471 P) (.node 1461 (o1461 P) (.node 1460 (o1460 P) (.node 1454 (o1454 P) .nil .nil) .nil) (.node 1470 (o1470 P) .nil .nil)) (.node 1482 (o1482 P) (.node 1481 (o1481 P) .nil .nil) (.node 1488 (o1488 P) .nil .nil))) (.node 1507 (o1507 P) (.node 1500 (o1500 P) (.node 1496 (o1496 P) (.node 1495 (o1495 P) .nil .nil) .nil) (.node 1501 (o1501 P) .nil .nil)) (.node 1514 (o1514 P) (.node 1508 (o1508 P) .nil .nil) (.node 1515 (o1515 P) .nil .nil)))) (.node 1544 (o1544 P) (.node 1532 (o1532 P) (.node 1525 (o1525 P) (.node 1524 (o1524 P) (.node 1520 (o1520 P) .nil .nil) .nil) (.node 1531 (o1531 P) .nil .nil)) (.node 1537 (o1537 P) (.node 1536 (o1536 P) .nil .nil) (.node 1543 (o1543 P) .nil .nil))) (.node 1560 (o1560 P) (.node 1555 (o1555 P) (.node 1551 (o1551 P) (.node 1550 (o1550 P) .nil .nil) .nil) (.node 1556 (o1556 P) .nil .nil)) (.node 1567 (o1567 P) (.node 1561 (o1561 P) .nil .nil) (.node 1568 (o1568 P) .nil .nil))))))))
end Scr
structure XC where
 p:Program
 w:World
 n₀:Nat
 ann:Option Value
 life:Life
 gens:Array GenState
 drawn:Drawn
 os:OsState
noncomputable abbrev dk:=List Nat→BT→Nat→Nat→Code→Pos→List Frame→List Sd→List Sd→Option (SharedT × List Sd × List Sd)
noncomputable abbrev ir:=Sem Fin→dk
noncomputable def jQ:dk:=fun _ _ _ _ _ _ _ _ _=>none
noncomputable def Go (ih:ir) (c:Code):dk:=fun hs T n toks code pos stack L R=>ih (kn c) hs T n toks c pos (match code,c,stack with
 | .builtin ..,.call f a,.ret k h g l cd p kept::rest=>.ret k h g l cd p (kept ++ unmarked (f::a.refs))::rest
 | .call f _,.call ..,.ret k h g l cd p kept::rest=>.ret k h g l cd p (kept ++ .ellipsis::unmarked [f])::rest
 | .call f a,.builtin ..,.ret k h g l cd p kept::rest=>.ret k h g l cd p (if l.contains borrowed then kept.takeWhile (· != .ellipsis) ++ unmarked a.refs else unmarked (kept ++ f::a.refs))::rest
 | .call ..,_,.ret k h g l cd p kept::rest=>.ret k h g l cd p (kept.takeWhile (· != .ellipsis))::rest
 | _,_,_=>stack) L R
noncomputable def BU (V:XC) (ih:ir) (r:Result):dk:=fun hs T n toks code pos stack L R=>match stack with
 | []=>none
 | fr::rest=>match fr with
  | .ret k _ _ _ c p _=>ih (k r) hs T n toks c p rest L R
  | .gen _ _ _ _ _=>none
noncomputable def DQ (V:XC) (ih:ir) (f:Flow):dk:=fun hs T n toks code pos stack L R=>match stack with
 | []=>some (⟨T,n,V.life,V.gens,V.drawn,toks,V.os⟩,L,R)
 | fr::rest=>BU V ih (.ok f) hs T n toks code pos (fr::rest) L R
noncomputable def zn (V:XC) (ih:ir) (c:Code):dk:=fun hs T n toks code pos stack L R=>match stepOk V.n₀ V.ann ⟨.pure (.again c),code,pos,stack⟩ with
 | false=>none
 | true=>Go ih c hs T n toks code pos stack L R
noncomputable def AL (V:XC) (ih:ir) (f:Fin):dk:=match f with
 | .done f=>DQ V ih f
 | .again c=>zn V ih c
noncomputable def w8 (V:XC) (ih:ir) (e:Value):dk:=BU V ih (.error e)
noncomputable def AE (ih:ir) (_:String) (f:Unit→Sem Fin) (_:Unit→dk):dk:=ih (f ())
noncomputable def Gz (ih:ir) (q:Pos) (f:Unit→Sem Fin) (_:Unit→dk):dk:=fun hs T n toks code _ stack L R=>ih (f ()) hs T n toks code q stack L R
noncomputable def qN (ih:ir) (a:Addr) (_:Option Value) (f:Obj→Sem Fin) (_:Obj→dk):dk:=fun hs T n toks code pos stack L R=>match Nat.blt a n with
 | false=>none
 | true=>match T.get a with
  | none=>none
  | some o=>match alive o with
   | none=>none
   | some o=>ih (f o) hs T n toks code pos stack L R
noncomputable def Fo (V:XC) (ih:ir) (a:Addr) (q:Option Value) (g:Obj→Obj) (f:Unit→Sem Fin) (_:Unit→dk):dk:=fun hs T n toks code pos stack L R=>match (Nat.ble V.n₀ a || a == mainNs || a == cStatics || V.ann == some (.ref a)) with
 | false=>none
 | true=>match Nat.blt a n with
  | false=>none
  | true=>match T.get a with
   | none=>none
   | some o=>match alive o with
    | none=>none
    | some _=>ih (f ()) hs (T.set a g) n toks code pos stack L R
noncomputable def kS (ih:ir) (o:Obj) (f:Addr→Sem Fin) (_:Addr→dk):dk:=fun hs T n toks code pos stack L R=>match ((T.ins n o).get n).isSome with
 | false=>none
 | true=>ih (f n) hs (T.ins n o) (n+1) toks code pos stack L R
noncomputable def FO (ih:ir) (a:Addr) (f:Option Obj→Sem Fin) (_:Option Obj→dk):dk:=fun hs T n toks code pos stack L R=>match Nat.blt a n with
 | false=>ih (f none) hs T n toks code pos stack L R
 | true=>match T.get a with
  | none=>none
  | some o=>ih (f (alive o)) hs T n toks code pos stack L R
noncomputable def wT (ih:ir) (f:Tok→Sem Fin) (_:Tok→dk):dk:=fun hs T n toks code pos stack L R=>ih (f toks) hs T n (toks+1) code pos stack L R
noncomputable def Fn (V:XC) (m:Nat) (ih:ir) (f:Setting→Sem Fin) (_:Setting→dk):dk:=fun hs T n toks code pos stack L R=>match hs with
 | []=>ih (f ⟨V.p,V.w.params⟩) [] T n toks code pos stack L R
 | h::hs=>match Nat.beq h m with
  | false=>ih (f ⟨V.p,V.w.params⟩) (h::hs) T n toks code pos stack L R
  | true=>ih (f ⟨V.p,wF V.w nS true⟩) hs T n toks code pos stack (.t (f ⟨V.p,wF V.w nS true⟩)::L) (.t (f ⟨V.p,wF V.w nS false⟩)::R)
noncomputable def Dl (ih:ir) (c:Code) (h:Option Value) (g:Bool) (l:List Value) (k:Result→Sem Fin) (_:Result→dk):dk:=fun hs T n toks code pos stack L R=>ih (kn c) hs T n toks c pos (.ret k h g l code pos (match c,code with
 | .builtin _ a,_=>unmarked a.refs
 | .call f a,.builtin .. | .call f a,.call ..=>unmarked (if l.contains borrowed then a.refs else f::a.refs)
 | _,_=>[])::stack) L R
noncomputable def DC (ih:ir) (own:Bool) (k:Option Value→Sem Fin) (_:Option Value→dk):dk:=fun hs T n toks code pos stack L R =>
 ih (k (topHandled (if own then (match splitAtGen stack with | some (fs,_,_)=>fs | none=>stack) else stack))) hs T n toks code pos stack L R
noncomputable def wh (ih:ir) (k:List (Code × Pos)→Sem Fin) (_:List (Code × Pos)→dk):dk:=fun hs T n toks code pos stack L R=>ih (k ((code,pos)::stack.map Frame.where_)) hs T n toks code pos stack L R
noncomputable def vO (V:XC) (m:Nat) (ih:ir):ir:=@Sem.rec Fin (fun _=>dk) (AL V ih) (w8 V ih) (fun _=>jQ) (fun _=>jQ) (AE ih) (Gz ih) (qN ih) (Fo V ih) (kS ih) (FO ih) (fun _ f _=>ih (f ())) (fun _ _ _=>jQ) (wT ih) (Fn V m ih)
 (fun _ _ _ _=>jQ) (fun _ _ _ _=>jQ) (Dl ih) (DC ih) (fun _ _ _=>jQ) (fun _ _ _=>jQ) (fun _ _ _ _ _=>jQ) (fun _ _ _ _ _=>jQ) (wh ih) (fun _ _ _=>jQ) (fun _ _=>jQ) (fun _ _ _ _ _ _=>jQ)
noncomputable def gu (V:XC) (m:Nat):ir:=Nat.rec (fun _=>jQ) (fun m ih=>vO V m ih) m
noncomputable def XC.s (V:XC) (T:BT) (n toks:Nat):SharedT:=⟨T,n,V.life,V.gens,V.drawn,toks,V.os⟩
theorem mm {V:XC}:∀ {m:Nat} {cur:Sem Fin} {hs:List Nat} {T:BT} {n toks:Nat} {code:Code} {pos:Pos} {stack:List Frame} {L R L' R':List Sd} {s':SharedT},gu V m cur hs T n toks code pos stack L R=some (s',L',R')→L'=R' →
 topRun treeTable V.p V.w V.n₀ V.ann m (V.s T n toks).abs ⟨cur,code,pos,stack⟩=some s'.abs∧L=R
 | 0,_,_,_,_,_,_,_,_,_,_,_,_,_,h,_=>by cases h
 | m+1,cur,hs,T,n,toks,code,pos,stack,L,R,L',R',s',h,e=>by
  have IH:=@mm V m
  have h:vO V m (gu V m) cur hs T n toks code pos stack L R=some (s',L',R'):=h
  have plain:∀ {hs₂:List Nat} {T₂:BT} {n₂ toks₂:Nat} {t₂:Thread},through ⟨cur,code,pos,stack⟩=false→stepOk V.n₀ V.ann ⟨cur,code,pos,stack⟩=true →
   stepT kn V.p V.w (V.s T n toks) ⟨cur,code,pos,stack⟩=some (V.s T₂ n₂ toks₂,t₂)→gu V m t₂.cur hs₂ T₂ n₂ toks₂ t₂.code t₂.pos t₂.stack L R=some (s',L',R') →
   topRun treeTable V.p V.w V.n₀ V.ann (m+1) (V.s T n toks).abs ⟨cur,code,pos,stack⟩=some s'.abs∧L=R:=by
   intro hs₂ T₂ n₂ toks₂ t₂ ht hk hx h
   have z:=stepT_spec hx
   rw [← lk,table_eq_tree] at z
   have y:=IH h e
   refine ⟨?_,y.2⟩
   unfold topRun
   rw [ht,hk,z]
   exact y.1
  cases cur with
  | pure f =>
   cases f with
   | done f =>
    cases stack with
    | nil =>
     have h:some (V.s T n toks,L,R)=some (s',L',R'):=h
     cases h
     refine ⟨?_,e⟩
     unfold topRun
     rfl
    | cons fr rest =>
     cases fr with
     | gen=>exact absurd (show none=some (s',L',R') from h) (by simp)
     | ret k a b l c p kept=>exact plain rfl rfl rfl h
   | again c =>
    have h:(match stepOk V.n₀ V.ann ⟨.pure (.again c),code,pos,stack⟩ with | false=>none | true=>Go (gu V m) c hs T n toks code pos stack L R)=some (s',L',R'):=h
    cases hk:stepOk V.n₀ V.ann ⟨.pure (.again c),code,pos,stack⟩ with
    | false=>rw [hk] at h; cases h
    | true=>rw [hk] at h; exact plain (Bool.and_false _) hk rfl h
  | raise x =>
   cases stack with
   | nil=>exact absurd (show none=some (s',L',R') from h) (by simp)
   | cons fr rest =>
    cases fr with
    | gen=>exact absurd (show none=some (s',L',R') from h) (by simp)
    | ret k a b l c p kept=>exact plain rfl rfl rfl h
  | rule a f=>exact plain (Bool.and_false _) rfl rfl h
  | «at» q f=>exact plain (Bool.and_false _) rfl rfl h
  | point a f=>exact plain (Bool.and_false _) rfl rfl h
  | fresh f=>exact plain (Bool.and_false _) rfl rfl h
  | call c hd g l k=>exact plain (Bool.and_false _) rfl rfl h
  | stack k=>exact plain (Bool.and_false _) rfl rfl h
  | handled own k=>exact plain (Bool.and_false _) rfl rfl h
  | load a q f =>
   have h:qN (gu V m) a q f (fun _=>jQ) hs T n toks code pos stack L R=some (s',L',R'):=h
   unfold qN at h
   cases h1:Nat.blt a n with
   | false=>rw [h1] at h; cases h
   | true =>
    rw [h1] at h
    simp only at h
    cases h2:T.get a with
    | none=>rw [h2] at h; cases h
    | some o =>
     rw [h2] at h
     simp only at h
     cases h3:alive o with
     | none=>rw [h3] at h; cases h
     | some o' =>
      rw [h3] at h
      exact plain (t₂:=⟨f o',code,pos,stack⟩) (Bool.and_false _) rfl (by simp only [stepT,XC.s,h1,h2,h3]) h
  | update a q g f =>
   have h:Fo V (gu V m) a q g f (fun _=>jQ) hs T n toks code pos stack L R=some (s',L',R'):=h
   unfold Fo at h
   cases h0:(Nat.ble V.n₀ a || a == mainNs || a == cStatics || V.ann == some (.ref a)) with
   | false=>rw [h0] at h; cases h
   | true =>
    rw [h0] at h
    simp only at h
    cases h1:Nat.blt a n with
    | false=>rw [h1] at h; cases h
    | true =>
     rw [h1] at h
     simp only at h
     cases h2:T.get a with
     | none=>rw [h2] at h; cases h
     | some o =>
      rw [h2] at h
      simp only at h
      cases h3:alive o with
      | none=>rw [h3] at h; cases h
      | some o' =>
       rw [h3] at h
       exact plain (T₂:=T.set a g) (n₂:=n) (toks₂:=toks) (t₂:=⟨f (),code,pos,stack⟩) (Bool.and_false _) h0 (by simp only [stepT,XC.s,h1,h2,h3]) h
  | alloc o f =>
   have h:kS (gu V m) o f (fun _=>jQ) hs T n toks code pos stack L R=some (s',L',R'):=h
   unfold kS at h
   cases h1:((T.ins n o).get n).isSome with
   | false=>rw [h1] at h; cases h
   | true =>
    rw [h1] at h
    exact plain (T₂:=T.ins n o) (n₂:=n+1) (toks₂:=toks) (t₂:=⟨f n,code,pos,stack⟩) (Bool.and_false _) rfl (by simp only [stepT,XC.s,h1]) h
  | loadIfAlive a f =>
   have h:FO (gu V m) a f (fun _=>jQ) hs T n toks code pos stack L R=some (s',L',R'):=h
   unfold FO at h
   cases h1:Nat.blt a n with
   | false =>
    rw [h1] at h
    exact plain (t₂:=⟨f none,code,pos,stack⟩) (Bool.and_false _) rfl (by simp only [stepT,XC.s,h1]) h
   | true =>
    rw [h1] at h
    simp only at h
    cases h2:T.get a with
    | none=>rw [h2] at h; cases h
    | some o =>
     rw [h2] at h
     exact plain (t₂:=⟨f (alive o),code,pos,stack⟩) (Bool.and_false _) rfl (by simp only [stepT,XC.s,h1,h2]) h
  | ask f =>
   cases hs with
   | nil=>exact plain (Bool.and_false _) rfl rfl h
   | cons a l =>
    have h:(match Nat.beq a m with
     | false=>gu V m (f ⟨V.p,V.w.params⟩) (a::l) T n toks code pos stack L R
     | true=>gu V m (f ⟨V.p,wF V.w nS true⟩) l T n toks code pos stack (.t (f ⟨V.p,wF V.w nS true⟩)::L) (.t (f ⟨V.p,wF V.w nS false⟩)::R))=some (s',L',R'):=h
    cases hb:Nat.beq a m with
    | false=>rw [hb] at h; exact plain (Bool.and_false _) rfl rfl h
    | true =>
     rw [hb] at h
     have y:=IH h e
     have y2:=y.2
     simp only [List.cons.injEq,Sd.t.injEq] at y2
     have q:=iH V.w qm
     rw [vI] at q
     have z:f ⟨V.p,V.w.params⟩=f ⟨V.p,wF V.w nS true⟩:=by
      cases hb:V.w.params.followText qm with
      | true=>rw [hb] at q; rw [q]
      | false=>rw [hb] at q; rw [y2.1,q]
     have x:step kn V.p V.w (V.s T n toks).abs ⟨.ask f,code,pos,stack⟩=.go (V.s T n toks).abs ⟨f ⟨V.p,V.w.params⟩,code,pos,stack⟩:=rfl
     rw [← lk,table_eq_tree] at x
     refine ⟨?_,y2.2⟩
     unfold topRun
     rw [show through ⟨.ask f,code,pos,stack⟩=false from Bool.and_false _,show stepOk V.n₀ V.ann ⟨.ask f,code,pos,stack⟩=true from rfl,x,z]
     exact y.1
  | _=>exact absurd (show none=some (s',L',R') from h) (by simp)
noncomputable def Gf:List Obj→Nat→BT→BT
 | [],_,t=>t
 | o::l,i,t=>Gf l (i+1) (t.ins i o)
noncomputable def mz (P:Params):BT:=Gf (boot_heap P).objs.toList 0 .nil
noncomputable def GH (P:Params) (os:OsState):SharedT:=⟨mz P,11,(boot_heap P).life,Array.mk [],boot_drawn,boot_toks,os⟩
theorem sV (P:Params) (os:OsState):(GH P os).abs=⟨boot_heap P,Array.mk [],boot_drawn,boot_toks,os⟩:=by
 have e:absHeap (mz P) 11 (boot_heap P).life=boot_heap P:=by kernel_rfl
 show Shared.mk (absHeap (mz P) 11 (boot_heap P).life) _ _ _ _=_
 rw [e]
 rfl
section
open PySem.Calls PyProof.Rows
noncomputable def qv:Program:={ pw with main:={ pw.main with body:=[Scr.sA 133] } }
noncomputable def rx:List Str:=pw.boundNames
noncomputable def C5:List Str:=importedModules pw.main.body
noncomputable def k8 (n:Nat):PT→BT→List Sd→List Sd→Bool × List Sd × List Sd
 | .nil,_,L,R=>(true,L,R)
 | .node k v l r,T,L,R=>match Nat.blt k n with
  | false=>(false,L,R)
  | true=>match T.get k with
   | none=>(false,L,R)
   | some o=>match alive o with
    | none=>(false,L,R)
    | some o=>match k8 n l T (.o o::L) (.o v::R) with
     | (b,L,R)=>match b with
      | false=>(false,L,R)
      | true=>k8 n r T L R
noncomputable def kT (K:PT):Nat→Nat→BT→Bool
 | _,_,.nil=>true
 | s,b,.node v l r=>match (match aU v with
  | true=>(K.get b).isSome
  | false=>true) with
  | false=>false
  | true=>match kT K (2 * s) (s+b) l with
   | false=>false
   | true=>kT K (2 * s) (2 * s+b) r
noncomputable def xT:Shared→Bool:=fun _=>true
noncomputable def vT (w:World) (x:Option (SharedT × List Sd × List Sd)):=match x with
 | none=>((false,openGood qv rx,([]:List Sd)),(true,openGood qv rx,([]:List Sd)))
 | some x=>match k8 x.1.n (Scr.KT0 w.params) x.1.tree x.2.1 x.2.2 with
  | (b,L,R)=>((match b with
   | false=>false
   | true=>match kT (Scr.KT0 w.params) 1 0 x.1.tree with
    | false=>false
    | true=>staticsOk C5 (boot_heap w.params) x.1.abs.heap && namesBound pw x.1.abs.heap && gensDone x.1.abs && laidKept (boot_heap w.params) x.1.abs.heap,openSeen qv rx C5 xT true x.1.abs,L),(true,openGood qv rx,R))
noncomputable def C1:List Nat:=[7553,7541,7529,7517,7505,7493,7481,7469,7457,7445]
noncomputable def xc (w:World) (os:OsState):XC:=⟨pw,w,11,some (.ref 6),(boot_heap w.params).life,Array.mk [],boot_drawn,os⟩
noncomputable def iw (w:World) (os:OsState):=gu (xc w os) 10537 (topStub pw).cur C1 (mz w.params) 11 boot_toks (topStub pw).code (topStub pw).pos (topStub pw).stack [] []
noncomputable def qb:Prop:=∀ (w:World) (os:OsState),(vT w (iw w os)).1=(vT w (iw w os)).2
theorem s1 (P : Params) : ((boot_heap P).isNs mainGlobals && (Array.mk ([] : List GenState)).size == 0, (boot_heap P).objs.size, (boot_heap P).nsMap mainGlobals "__annotations__") = (true, 11, some (.ref 6)) := by kernel_rfl
theorem eR {T:BT} {n:Nat}:∀ {K:PT} {L R L' R':List Sd},k8 n K T L R=(true,L',R')→L'=R'→L=R∧∀ a o,K.get a=some o→a<n∧∃ o',T.get a=some o'∧alive o'=some o
 | .nil,L,R,L',R',h,e=>by
  simp only [k8,Prod.mk.injEq,true_and] at h
  obtain ⟨rfl,rfl⟩:=h
  exact ⟨e,fun a o h=>by simp [PT.get] at h⟩
 | .node k v l r,L,R,L',R',h,e=>by
  simp only [k8] at h
  cases hn:Nat.blt k n with
  | false=>rw [hn] at h; simp at h
  | true =>
  rw [hn] at h
  simp only at h
  cases g:T.get k with
  | none=>rw [g] at h; simp at h
  | some o =>
   rw [g] at h
   simp only at h
   cases al:alive o with
   | none=>rw [al] at h; simp at h
   | some o' =>
    rw [al] at h
    simp only at h
    cases q:k8 n l T (.o o'::L) (.o v::R) with
    | mk b x =>
     obtain ⟨L₂,R₂⟩:=x
     rw [q] at h
     cases b with
     | false=>simp at h
     | true =>
      simp only at h
      obtain ⟨e1,f1⟩:=eR h e
      obtain ⟨e2,f2⟩:=eR q e1
      simp only [List.cons.injEq,Sd.o.injEq] at e2
      refine ⟨e2.2,fun a o ha=>?_⟩
      unfold PT.get at ha
      split at ha
      ·rename_i hb
       have:=Nat.eq_of_beq_eq_true hb
       subst this
       cases ha
       exact ⟨Nat.le_of_ble_eq_true hn,_,g,by rw [al,e2.1]⟩
      ·split at ha
       ·exact f2 a o ha
       ·exact f1 a o ha
theorem eJ {K:PT}:∀ {T:BT} {s b:Nat},kT K s b T=true→∀ i v,T.get i=some v→aU v=true→(K.get (s * i+b)).isSome=true
 | .nil,_,_,_,i,v,h,_=>by simp [BT.get] at h
 | .node v l r,s,b,h,i,o,hi,hf=>by
  simp only [kT] at h
  rw [BT.get_node] at hi
  cases q:(match aU v with | true=>(K.get b).isSome | false=>true) with
  | false=>rw [q] at h; simp at h
  | true =>
   rw [q] at h
   simp only at h
   cases q2:kT K (2 * s) (s+b) l with
   | false=>rw [q2] at h; simp at h
   | true =>
    rw [q2] at h
    simp only at h
    by_cases h0:i=0
    ·subst h0
     simp only [if_true,Option.some.injEq] at hi
     subst hi
     rw [hf] at q
     simpa using q
    ·rw [if_neg h0] at hi
     by_cases h1:i % 2=1
     ·rw [if_pos h1] at hi
      have:=eJ q2 _ _ hi hf
      rwa [show 2 * s * (i / 2)+(s+b)=s * i+b from by
       have:i=2 * (i / 2)+1:=by omega
       conv=>rhs; rw [this]
       rw [Nat.mul_add,Nat.mul_one,←Nat.mul_assoc,Nat.mul_comm 2 s,Nat.add_assoc]] at this
     ·rw [if_neg h1] at hi
      have:=eJ h _ _ hi hf
      rwa [show 2 * s * (i / 2 - 1)+(2 * s+b)=s * i+b from by
       have:i=2 * (i / 2 - 1)+2:=by omega
       conv=>rhs; rw [this]
       rw [Nat.mul_add,←Nat.mul_assoc,Nat.mul_comm 2 s,Nat.add_assoc]] at this
theorem pf {w:World} {os:OsState} {s':SharedT} {L R:List Sd} (hx:iw w os=some (s',L,R)) (e:L=R):topRun treeTable pw w 11 (some (.ref 6)) 10537 ⟨boot_heap w.params,Array.mk [],boot_drawn,boot_toks,os⟩ (topStub pw)=some s'.abs:=by
 have h:=(mm hx e).1
 rw [← sV w.params os]
 exact h
theorem yA {w:World} {os:OsState} {s':SharedT} {L R:List Sd} (hx:iw w os=some (s',L,R)) (e:L=R):topRun treeTable pw w 11 (some (.ref 6)) 10537 ⟨boot_heap w.params,Array.mk [],boot_drawn,boot_toks,os⟩ (topStub pw)=some s'.abs :=
 pf hx e
structure Known (w:World) (s:Shared):Prop where
 at_:∀ a o,(Scr.KT0 w.params).get a=some o→s.heap.get? a=some o
 fr:∀ a o,s.heap.get? a=some o→aU o=true→((Scr.KT0 w.params).get a).isSome=true
theorem o5:opening pw=plainProg pw.main.scope.names:=by
 kernel_rfl
theorem u5 (s:Shared):fenceModules? pw s=some s:=by kernel_rfl
theorem pz {T:BT} {n:Nat} {life:Life} {a:Nat} {o:Obj} (h:(absHeap T n life).get? a=some o):(∃ o',T.get a=some o'∧alive o'=some o)∨o=default:=by
 by_cases hn:a<n
 ·cases g:T.get a with
  | none =>
   right
   unfold Heap.get? at h
   rw [absHeap_at,if_pos hn,g] at h
   have h:some (default:Obj)=some o:=h
   exact (Option.some.inj h).symm
  | some o'=>exact .inl ⟨o',rfl,(abs_get hn g).symm.trans h⟩
 ·rw [abs_get_none hn] at h
  cases h
theorem qS {w:World} {os:OsState} {X:Option (SharedT × List Sd × List Sd)} (hX:∀ s' L R,X=some (s',L,R)→L=R→topRun treeTable pw w 11 (some (.ref 6)) 10537 ⟨boot_heap w.params,Array.mk [],boot_drawn,boot_toks,os⟩ (topStub pw)=some s'.abs) (hv:(vT w X).1=(vT w X).2) :
 ∃ s,topFrom treeTable pw w 10537 ⟨boot_heap w.params,Array.mk [],boot_drawn,boot_toks,os⟩=some s∧openSeen qv rx C5 xT true s=openGood qv rx∧Known w s:=by
 cases X with
 | none =>
  simp only [vT,Prod.mk.injEq] at hv
  exact absurd hv.1 Bool.false_ne_true
 | some x =>
  obtain ⟨s',L,R⟩:=x
  simp only [vT] at hv
  cases hc:k8 s'.n (Scr.KT0 w.params) s'.tree L R with
  | mk b y =>
   obtain ⟨L₂,R₂⟩:=y
   rw [hc] at hv
   simp only [Prod.mk.injEq] at hv
   obtain ⟨h1,h2,h3⟩:=hv
   cases b with
   | false=>simp at h1
   | true =>
    simp only at h1
    cases hf:kT (Scr.KT0 w.params) 1 0 s'.tree with
    | false=>rw [hf] at h1; simp at h1
    | true =>
     rw [hf] at h1
     simp only at h1
     obtain ⟨eLR,hk⟩:=eR hc h3
     have l7:=hX _ _ _ rfl eLR
     have hs1:=s1 w.params
     simp only [Prod.mk.injEq] at hs1
     obtain ⟨z1,z2,z3⟩:=hs1
     refine ⟨s'.abs,?_,h2,⟨fun a o ha=>?_,fun a o ha hfr=>?_⟩⟩
     ·unfold topFrom
      dsimp only
      rw [z1,z2,z3,l7]
      show (match staticsOk (importedModules pw.main.body) (boot_heap w.params) s'.abs.heap && namesBound pw s'.abs.heap && gensDone s'.abs && laidKept (boot_heap w.params) s'.abs.heap with | true=>some s'.abs | false=>none)=some s'.abs
      rw [show (staticsOk (importedModules pw.main.body) (boot_heap w.params) s'.abs.heap && namesBound pw s'.abs.heap && gensDone s'.abs && laidKept (boot_heap w.params) s'.abs.heap)=true from h1]
     ·obtain ⟨hn,o',g1,g2⟩:=hk a o ha
      exact (abs_get hn g1).trans g2
     ·rcases pz ha with ⟨o',g1,g2⟩ | rfl
      case inr=>exact absurd hfr (by decide +kernel)
      have e:o'=o:=by
       unfold alive at g2
       split at g2
       ·cases g2
       ·cases g2; rfl
      subst e
      have:=eJ hf _ _ g1 hfr
      rwa [Nat.one_mul] at this
theorem jw (H:qb) (w:World):∃ s,openEnds treeTable pw w 10537=some s∧openSeen qv rx C5 xT true s=openGood qv rx∧Known w s:=by
 obtain ⟨⟨h0,g0,d0,k0,os⟩,e,e'⟩:=Option.map_eq_some_iff.mp (boot_open (p:=pw) (N:=10537) o5 (by decide) u5 w)
 simp only [Prod.mk.injEq] at e'
 obtain ⟨rfl,rfl,rfl,rfl⟩:=e'
 obtain ⟨s,h1,h2,h3⟩:=qS (fun s' L R hx e=>yA hx e) (H w os)
 refine ⟨s,?_,h2,h3⟩
 unfold openEnds
 rw [e,Option.bind_some]
 exact h1
end
section
open PySem.Calls PyProof.Rows
theorem GQ:qb:=by
 intro w os
 kernel_rfl
end
section
open PySem.Calls PyProof.Rows
noncomputable abbrev mq:=PySem.Challenge.rw_on0051_01
theorem GS:namesResolve mq.row.prog=true:=by kernel_rfl
theorem GP : noRoadLSs { strict := !(importedModules mq.row.prog.main.body).all cThrough.contains, foot := none, bare := (["vars", "dir", "locals"] : List Str).filter (readsOut mq.row.prog mq.row.prog.main.body) } mq.row.prog.main.body = true := by kernel_rfl
theorem GL:(namesMeet mq.row.prog mq.row.prog.main.body fun _ n=>attrL n)=true:=by kernel_rfl
theorem GG:(mq.bound'.all fun n=>!builtinNamed n || mq.about == [n] || !mq.reads n)=true:=by kernel_rfl
theorem GN:(namesMeet mq.prog mq.above fun _ n=>!mq.own.contains n)=true:=by kernel_rfl
theorem FW:mq.wellSaid=true:=by
 unfold OpenLaw.wellSaid OpenRow.wellSaid OpenRow.partSaid looksOpen
 repeat' (with_reducible refine look_both ?_ ?_)
 all_goals first | with_reducible exact GS | with_reducible exact GP | with_reducible exact GL | with_reducible exact GG | with_reducible exact GN | kernel_rfl
end
section
open PySem.Calls PyProof.Rows
noncomputable abbrev h8 : Ctx := ⟨.builtin "claim.caller" {}, none, none, [], none⟩
theorem yj {c:ClaimW} {tree:List Value→Sem Fin} {w:World} {s:Shared} {free:Addr→Prop} {gens:Prop} {kept:Heap→Prop} (hz:s.asleep) (hgens:s.gens=#[])
 (H:∀ args,c.pre args=true→WData.layableAll args=true→∀ ord:List DictEntry→List DictEntry,(∀ l,(ord l).Perm l)→∃ vs s₁,layAllW c.records (classAt s.heap) w.params ord args s=some (vs,s₁) ∧
  Sem.wp (model c.prog w) h8 (tree vs) (Sem.finPost (model c.prog w) h8 fun r s'=>(c.Ends s args vs s₁ r s'∧s'.os=s.os∧kept s'.heap)∧leftWithCleanup s'.gens=false)
   (fun e _ s'=>(c.Ends s args vs s₁ (.error e) s'∧s'.os=s.os∧kept s'.heap)∧leftWithCleanup s'.gens=false) default s₁) :
 c.CallFrom (fun vs => ⟨tree vs, .builtin "claim.caller" {}, default, []⟩) w free gens kept s := by
 intro args hpre hlay ord hord
 obtain ⟨vs,s₁,hlaid,hcode⟩:=H args hpre hlay ord hord
 have rest:=layAllW_rest _ _ _ hlaid
 obtain ⟨k,r,s',s'',hsched,hrun,hfo,hcase,hos,hkp⟩:=wp_halts_full (M:=model c.prog w) (R:=fun r s'=>c.Ends s args vs s₁ r s'∧s'.os=s.os∧kept s'.heap) (Shared.asleep_of_life rest.2.2.2 hz) hcode
 obtain ⟨eh,_,_,eo,_⟩:=Shared.forget_eq hfo
 have hcase:=hcase.congr eh
 rw [← eh] at hkp
 rw [← eo] at hos
 have hlife:s''.heap.life=s.heap.life:=(runN_life _ _ _ hrun).trans rest.2.2.2
 refine ⟨vs,s₁,hlaid,k,_,s'',hsched,?_,(fun _ i x hx=>by rw [hgens] at hx; simp at hx),hkp,by rw [hlife],Shared.rest_eq hos⟩
 rcases hcase with ⟨v,rfl,d1,d2,d3,d4,d5⟩ | ⟨e,ob,cls,rfl,d1,d2,d3,d4,d5⟩
 ·exact .inl ⟨v,rfl,d1,d2,d3,fun b o y _=>d4 b o y,d5⟩
 ·exact .inr ⟨e,ob,cls,rfl,d1,d2,d3,d4,fun b o y _=>d5 b o y⟩
noncomputable abbrev mG (n:Str) (vs:List Value):Sem Fin:=do
 match←nsGet mainNs n with
 | some f=>do ret (← PySem.call f vs)
 | none => unsupported "claim.caller:no-such-global"
theorem uR {r:OpenRow} {q:Program} {loose:List Str} {α:Type} {Yf:Shared→α} {Ya:World→α} {d:DefRec} {kwd:List (Str × PySem.Expr)} {N:Nat}
 (left:LeftO r.prog q loose xT Yf Ya N) (hdef:defOf q r.name=some (d,kwd)) (hp:r.prog.theDef r.name=some (d.params,d.body,d.scope)) (hk:kwWritten? d.params.kwonlyargs d.params.kw_defaults=some kwd)
 (hrec:r.records=[]) (k1:r.wellSaid=true) (ok:(chainsOk q && opensWell r.prog && (frees r.toRowW && r.within.isEmpty))=true) (hb:r.prog.bare) (hw:r.toRowW.promised)
 (call:∀ (w:World) (s₀ s₁:Shared),s₀.gens=#[]→Yf s₀=Ya w→s₀.heap.isNs mainGlobals=true→∀ (args:List WData) (vs:List Value) (as:List Addr),Laid r.records w s₀ s₁ args vs as→r.claim.pre args=true→WData.layableAll args=true →
  ReadsAllW r.records (classAt s₀.heap) s₁.heap vs args as→WellAll w.params s₁.heap vs args→(∀ a∈as,(a == sysModules)=false) →
  Sem.wp (model r.prog w) h8 (mG r.name vs) (Sem.finPost (model r.prog w) h8 fun res s'=>GoodWG r.claim (classAt s₀.heap) (ExcName.means s₀.heap) args s₁ res s')
   (fun e _ s'=>GoodWG r.claim (classAt s₀.heap) (ExcName.means s₀.heap) args s₁ (.error e) s') default s₁):r.Holds:=by
 obtain ⟨ok,k5⟩:=Bool.and_eq_true_iff.mp ok
 obtain ⟨hch,o1⟩:=Bool.and_eq_true_iff.mp ok
 obtain ⟨k5,k6⟩:=Bool.and_eq_true_iff.mp k5
 obtain ⟨hsame,hu,ha,hap,hm⟩:=frees_parts k5
 have RF:∀ h,RecFacts r.records h:=fun h=>recFacts_nil hrec
 have B:=fun w=>left.behind (XP:=fun _ _=>True) (fun _ _=>trivial) hch w
 refine ⟨k1,hw,⟨hb,o1,by show r.makers.map _=[]; rw [hm]; rfl⟩,hw.witness,fun w=>⟨(B w).1,fun s' hs'=>?_⟩⟩
 obtain ⟨s₀,hf,hg0,s,hT,hz,hgens,hg,G0,y⟩:=(B w).2 s' hs'
 have hgens:s.gens=#[]:=Array.eq_empty_of_size_eq_zero (beq_iff_eq.mp hgens)
 have G:Ground q loose r.records (fun _ _=>True) w s _ _ s.heap:=(RF s.heap).ground G0
 refine ⟨s₀,hf,hg0,s,hT,fun n hn=>?_,(RF s.heap).1,(RF s.heap).2.1,?_⟩
 ·obtain rfl:n=r.name:=by split at hn <;> simp_all
  exact pinned_of_view hg G0 hdef hp hk
 refine yj (c:=r.claim) hz hgens fun args hpre hlay ord hord=>?_
 obtain ⟨⟨vs,s₁⟩,hlaid⟩:=Option.isSome_iff_exists.mp (layAllW_isSome (P:=w.params) (ord:=ord) G.has args r.args s (pre_splitW hpre).1)
 have keeps:=layAllW_keeps _ _ _ hlaid
 have hal:=layAllW_rest _ _ _ hlaid
 obtain ⟨as,hrd,hin,hold⟩:=reads_layAllW hord _ _ _ hlaid hlay s₁.heap (fun _ _ e=>e)
 have L:Laid r.records w s s₁ args vs as:=⟨⟨ord,hord,hlaid⟩,hrd,hin,hold,keeps,hal.1.trans hgens,hal.2.2.1⟩
 have hi:=ident_freeW hu ha hap
 have hwi:r.claim.within=[]:=List.isEmpty_iff.mp k6
 have W:=call w s s₁ hgens y hg args vs as L hpre hlay L.reads L.well (L.low G.low)
 have fin:∀ r' s',GoodWG r.claim (classAt s.heap) (ExcName.means s.heap) args s₁ r' s'→(r.claim.Ends s args vs s₁ r' s'∧s'.os=s.os∧(r.writes=true→namesKept r.claim.prog r.keeps s.heap s'.heap∧∀ x∈r.claim.records,∀ a,classAt s.heap x.1=some a→recordClass s'.heap a x.1 (x.2.map (·.1))=true))∧leftWithCleanup s'.gens=false:=fun r' s' g =>
  have z:=g.laid (c:=r.claim) hsame hwi hi L
  ⟨⟨z.1,z.2.1,fun _=>⟨namesKept_of hT hg r.keeps keeps g.2.1.old,fun x hx=>by rw [show r.claim.records=[] from hrec] at hx; exact nomatch hx⟩⟩,leftWithCleanup_false_of_bare z.2.2⟩
 exact ⟨vs,s₁,hlaid,Sem.wp_mono _ _ _ (fun f p' s' x=>finPost_mono (fun r' s' g=>fin r' s' g) x) (fun e p' s' g=>fin _ s' g) _ _ W⟩
end
noncomputable def SL.s4576608952293643177x11:String:=PySem.W.S.litE [PySem.W.S.mk8 108 rfl,PySem.W.S.mk8 105 rfl,PySem.W.S.mk8 115 rfl,PySem.W.S.mk8 116 rfl,PySem.W.S.mk8 46 rfl,PySem.W.S.mk8 95 rfl,PySem.W.S.mk8 95 rfl,PySem.W.S.mk8 101 rfl,PySem.W.S.mk8 113 rfl,PySem.W.S.mk8 95 rfl,PySem.W.S.mk8 95 rfl] [108,105,115,116,46,95,95,101,113,95,95] rfl rfl
noncomputable def SL.s11274501207620069578x11:String:=PySem.W.S.litE [PySem.W.S.mk8 108 rfl,PySem.W.S.mk8 105 rfl,PySem.W.S.mk8 115 rfl,PySem.W.S.mk8 116 rfl,PySem.W.S.mk8 46 rfl,PySem.W.S.mk8 95 rfl,PySem.W.S.mk8 95 rfl,PySem.W.S.mk8 110 rfl,PySem.W.S.mk8 101 rfl,PySem.W.S.mk8 95 rfl,PySem.W.S.mk8 95 rfl] [108,105,115,116,46,95,95,110,101,95,95] rfl rfl
noncomputable def SL.s4715828480015836442x11:String:=PySem.W.S.litE [PySem.W.S.mk8 108 rfl,PySem.W.S.mk8 105 rfl,PySem.W.S.mk8 115 rfl,PySem.W.S.mk8 116 rfl,PySem.W.S.mk8 46 rfl,PySem.W.S.mk8 95 rfl,PySem.W.S.mk8 95 rfl,PySem.W.S.mk8 108 rfl,PySem.W.S.mk8 116 rfl,PySem.W.S.mk8 95 rfl,PySem.W.S.mk8 95 rfl] [108,105,115,116,46,95,95,108,116,95,95] rfl rfl
noncomputable def SL.s5184184855523559102x12:String:=PySem.W.S.litE [PySem.W.S.mk8 116 rfl,PySem.W.S.mk8 117 rfl,PySem.W.S.mk8 112 rfl,PySem.W.S.mk8 108 rfl,PySem.W.S.mk8 101 rfl,PySem.W.S.mk8 46 rfl,PySem.W.S.mk8 95 rfl,PySem.W.S.mk8 95 rfl,PySem.W.S.mk8 110 rfl,PySem.W.S.mk8 101 rfl,PySem.W.S.mk8 95 rfl,PySem.W.S.mk8 95 rfl] [116,117,112,108,101,46,95,95,110,101,95,95] rfl rfl
noncomputable def SL.s12157581064306048743x18:String:=PySem.W.S.litE [PySem.W.S.mk8 116 rfl,PySem.W.S.mk8 117 rfl,PySem.W.S.mk8 112 rfl,PySem.W.S.mk8 108 rfl,PySem.W.S.mk8 101 rfl,PySem.W.S.mk8 46 rfl,PySem.W.S.mk8 95 rfl,PySem.W.S.mk8 95 rfl,PySem.W.S.mk8 99 rfl,PySem.W.S.mk8 111 rfl,PySem.W.S.mk8 110 rfl,PySem.W.S.mk8 116 rfl,PySem.W.S.mk8 97 rfl,PySem.W.S.mk8 105 rfl,PySem.W.S.mk8 110 rfl,PySem.W.S.mk8 115 rfl,PySem.W.S.mk8 95 rfl,PySem.W.S.mk8 95 rfl] [116,117,112,108,101,46,95,95,99,111,110,116,97,105,110,115,95,95] rfl rfl
noncomputable def SL.s10494651255881035545x10:String:=PySem.W.S.litE [PySem.W.S.mk8 105 rfl,PySem.W.S.mk8 110 rfl,PySem.W.S.mk8 116 rfl,PySem.W.S.mk8 46 rfl,PySem.W.S.mk8 95 rfl,PySem.W.S.mk8 95 rfl,PySem.W.S.mk8 108 rfl,PySem.W.S.mk8 101 rfl,PySem.W.S.mk8 95 rfl,PySem.W.S.mk8 95 rfl] [105,110,116,46,95,95,108,101,95,95] rfl rfl
noncomputable def SL.s549184847318252788x10:String:=PySem.W.S.litE [PySem.W.S.mk8 105 rfl,PySem.W.S.mk8 110 rfl,PySem.W.S.mk8 116 rfl,PySem.W.S.mk8 46 rfl,PySem.W.S.mk8 95 rfl,PySem.W.S.mk8 95 rfl,PySem.W.S.mk8 103 rfl,PySem.W.S.mk8 116 rfl,PySem.W.S.mk8 95 rfl,PySem.W.S.mk8 95 rfl] [105,110,116,46,95,95,103,116,95,95] rfl rfl
noncomputable def SL.s6631445442719179136x10:String:=PySem.W.S.litE [PySem.W.S.mk8 105 rfl,PySem.W.S.mk8 110 rfl,PySem.W.S.mk8 116 rfl,PySem.W.S.mk8 46 rfl,PySem.W.S.mk8 95 rfl,PySem.W.S.mk8 95 rfl,PySem.W.S.mk8 103 rfl,PySem.W.S.mk8 101 rfl,PySem.W.S.mk8 95 rfl,PySem.W.S.mk8 95 rfl] [105,110,116,46,95,95,103,101,95,95] rfl rfl
noncomputable def SL.s4995937446222217074x11:String:=PySem.W.S.litE [PySem.W.S.mk8 105 rfl,PySem.W.S.mk8 110 rfl,PySem.W.S.mk8 116 rfl,PySem.W.S.mk8 46 rfl,PySem.W.S.mk8 95 rfl,PySem.W.S.mk8 95 rfl,PySem.W.S.mk8 97 rfl,PySem.W.S.mk8 100 rfl,PySem.W.S.mk8 100 rfl,PySem.W.S.mk8 95 rfl,PySem.W.S.mk8 95 rfl] [105,110,116,46,95,95,97,100,100,95,95] rfl rfl
noncomputable def SL.s10675162408562208479x11:String:=PySem.W.S.litE [PySem.W.S.mk8 105 rfl,PySem.W.S.mk8 110 rfl,PySem.W.S.mk8 116 rfl,PySem.W.S.mk8 46 rfl,PySem.W.S.mk8 95 rfl,PySem.W.S.mk8 95 rfl,PySem.W.S.mk8 115 rfl,PySem.W.S.mk8 117 rfl,PySem.W.S.mk8 98 rfl,PySem.W.S.mk8 95 rfl,PySem.W.S.mk8 95 rfl] [105,110,116,46,95,95,115,117,98,95,95] rfl rfl
noncomputable def SL.s15302896290300502732x11:String:=PySem.W.S.litE [PySem.W.S.mk8 105 rfl,PySem.W.S.mk8 110 rfl,PySem.W.S.mk8 116 rfl,PySem.W.S.mk8 46 rfl,PySem.W.S.mk8 95 rfl,PySem.W.S.mk8 95 rfl,PySem.W.S.mk8 109 rfl,PySem.W.S.mk8 117 rfl,PySem.W.S.mk8 108 rfl,PySem.W.S.mk8 95 rfl,PySem.W.S.mk8 95 rfl] [105,110,116,46,95,95,109,117,108,95,95] rfl rfl
noncomputable def SL.s15071220520546248041x11:String:=PySem.W.S.litE [PySem.W.S.mk8 105 rfl,PySem.W.S.mk8 110 rfl,PySem.W.S.mk8 116 rfl,PySem.W.S.mk8 46 rfl,PySem.W.S.mk8 95 rfl,PySem.W.S.mk8 95 rfl,PySem.W.S.mk8 109 rfl,PySem.W.S.mk8 111 rfl,PySem.W.S.mk8 100 rfl,PySem.W.S.mk8 95 rfl,PySem.W.S.mk8 95 rfl] [105,110,116,46,95,95,109,111,100,95,95] rfl rfl
noncomputable def SL.s14309602957429558208x16:String:=PySem.W.S.litE [PySem.W.S.mk8 105 rfl,PySem.W.S.mk8 110 rfl,PySem.W.S.mk8 116 rfl,PySem.W.S.mk8 46 rfl,PySem.W.S.mk8 95 rfl,PySem.W.S.mk8 95 rfl,PySem.W.S.mk8 102 rfl,PySem.W.S.mk8 108 rfl,PySem.W.S.mk8 111 rfl,PySem.W.S.mk8 111 rfl,PySem.W.S.mk8 114 rfl,PySem.W.S.mk8 100 rfl,PySem.W.S.mk8 105 rfl,PySem.W.S.mk8 118 rfl,PySem.W.S.mk8 95 rfl,PySem.W.S.mk8 95 rfl] [105,110,116,46,95,95,102,108,111,111,114,100,105,118,95,95] rfl rfl
noncomputable def SL.s13725091732456768858x13:String:=PySem.W.S.litE [PySem.W.S.mk8 108 rfl,PySem.W.S.mk8 105 rfl,PySem.W.S.mk8 115 rfl,PySem.W.S.mk8 116 rfl,PySem.W.S.mk8 46 rfl,PySem.W.S.mk8 95 rfl,PySem.W.S.mk8 95 rfl,PySem.W.S.mk8 105 rfl,PySem.W.S.mk8 110 rfl,PySem.W.S.mk8 105 rfl,PySem.W.S.mk8 116 rfl,PySem.W.S.mk8 95 rfl,PySem.W.S.mk8 95 rfl] [108,105,115,116,46,95,95,105,110,105,116,95,95] rfl rfl
noncomputable abbrev yT:Value:=.type L4
noncomputable abbrev yL:Value:=.type Lh
noncomputable abbrev yD:Value:=.type L0
noncomputable def EN (P:Params) (h g:Nat→Nat):ST :=
 (.node ⟨false,(h 126),⟨(.type L4),none,.seq #[(.ref (h 77)),(.ref (h 111))] 0,#[]⟩⟩ (.node ⟨false,(h 77),⟨(.ref 1079),some (h 76),.plain,#[]⟩⟩ (.node ⟨false,(h 79),⟨(.type L0),none,.dict #[eS P ⟨#[109,111,118,101]⟩ (g 226) (.ref (h 80)),eS P Qr (g 229) (.ref (h 81)),eS P ⟨#[117,110,97,114,121]⟩ (g 232) (.ref (h 82)),eS P Qm (g 235) (.ref (h 83)),eS P ⟨#[110,101,119]⟩ (g 238) (.ref (h 84)),eS P Qq (g 241) (.ref (h 85)),eS P Qz (g 244) (.ref (h 86)),eS P Qu (g 247) (.ref (h 87)),eS P Ey (g 250) (.ref (h 88)),eS P ⟨#[112,97,114,116]⟩ (g 253) (.ref (h 89)),eS P EP (g 256) (.ref (h 90)),eS P ⟨#[115,116,114,117,99,116]⟩ (g 259) (.ref (h 91)),eS P Ez (g 262) (.ref (h 92)),eS P ⟨#[109,97,107,101,115,108,105,99,101]⟩ (g 265) (.ref (h 93)),eS P EO (g 268) (.ref (h 94)),eS P ⟨#[97,112,112,101,110,100]⟩ (g 271) (.ref (h 95)),eS P ⟨#[99,111,112,121]⟩ (g 274) (.ref (h 96)),eS P Qj (g 277) (.ref (h 98)),eS P Dr (g 279) (.ref (h 99)),eS P Qs (g 281) (.ref (h 100)),eS P Qv (g 283) (.ref (h 101)),eS P Bh (g 285) (.ref (h 102)),eS P ⟨#[105,116,101,114]⟩ (g 287) (.ref (h 103)),eS P ⟨#[110,101,120,116]⟩ (g 289) (.ref (h 104)),eS P EG (g 291) (.ref (h 105)),eS P Qh (g 293) (.ref (h 106)),eS P En (g 295) (.ref (h 107)),eS P ⟨#[99,108,111,115,117,114,101]⟩ (g 297) (.ref (h 108))] 28,#[]⟩⟩ (.node ⟨false,(h 75),⟨(.type L0),none,.dict #[] 0,#[]⟩⟩ (.node ⟨false,(h 88),⟨(.type L3),none,.fields #[(.ref 945),(.ref (h 77))],#[]⟩⟩ .nil .nil) (.node ⟨false,(h 105),⟨(.type L3),none,.fields #[(.ref 1055),(.ref (h 77))],#[]⟩⟩ .nil .nil)) (.node ⟨false,(h 83),⟨(.type L3),none,.fields #[(.ref 882),(.ref (h 77))],#[]⟩⟩ (.node ⟨false,(h 99),⟨(.type L3),none,.fields #[(.ref 1006),(.ref (h 77))],#[]⟩⟩ .nil .nil) .nil)) (.node ⟨false,(h 15),⟨(.type L0),none,.dict #[eS P ⟨#[112,97,99,107,97,103,101,115]⟩ (g 63) .none,eS P ⟨#[110,97,109,101,100]⟩ (g 169) (.ref (h 40)),eS P G7 (g 171) (.ref (h 58)),eS P ⟨#[99,111,110,115,116,115]⟩ (g 173) (.ref (h 59)),eS P ⟨#[102,117,110,99,115]⟩ (g 175) (.ref (h 60)),eS P ⟨#[98,111,100,105,101,115]⟩ (g 177) (.ref (h 61)),eS P ⟨#[102,105,108,101,115]⟩ (g 179) (.ref (h 62)),eS P ⟨#[115,99,111,112,101,115]⟩ (g 181) (.ref (h 63)),eS P ⟨#[111,114,100,101,114]⟩ (g 183) (.ref (h 64)),eS P ⟨#[115,116,97,114,116,115]⟩ (g 185) (.ref (h 65)),eS P ⟨#[115,101,116,116,108,101]⟩ (g 187) .none,eS P ⟨#[108,97,116,101,95,107,101,121,115]⟩ (g 189) (.ref (h 66)),eS P ⟨#[105,115,95,119,104,111,108,101]⟩ (g 191) (.bool true)] 13,#[]⟩⟩ (.node ⟨false,(h 110),⟨(.type L0),none,.dict #[eS P ⟨#[99,111,100,101]⟩ (g 317) (.ref (h 12)),eS P ⟨#[114,101,103,105,115,116,101,114,115]⟩ (g 325) (.ref (h 117)),eS P G3 (g 360) (.ref (h 120)),eS P ⟨#[98,108,111,99,107]⟩ (g 363) (.int 0 (g 361)),eS P Qe (g 366) (.int 0 (g 364)),eS P ⟨#[116,97,114,103,101,116,115]⟩ (g 368) .none,eS P ⟨#[115,101,114,118,101,115]⟩ (g 370) .none,eS P ⟨#[105,115,95,100,101,102,101,114,114,101,100]⟩ (g 372) (.bool false),eS P ⟨#[100,101,102,101,114,115]⟩ (g 374) (.ref (h 124)),eS P ⟨#[111,119,110,101,100]⟩ (g 376) (.ref (h 125))] 10,#[]⟩⟩ (.node ⟨false,(h 94),⟨(.type L3),none,.fields #[(.ref 957),(.ref (h 77))],#[]⟩⟩ .nil .nil) (.node ⟨false,(h 107),⟨(.type L3),none,.fields #[(.ref 1069),(.ref (h 77))],#[]⟩⟩ .nil .nil)) (.node ⟨false,(h 86),⟨(.type L3),none,.fields #[(.ref 931),(.ref (h 77))],#[]⟩⟩ (.node ⟨false,(h 101),⟨(.type L3),none,.fields #[(.ref 1027),(.ref (h 77))],#[]⟩⟩ .nil .nil) .nil))) (.node ⟨false,(h 76),⟨(.type L0),none,.dict #[eS P ⟨#[119,111,114,108,100]⟩ (g 219) (.ref (h 16)),eS P Q6 (g 221) (.ref (h 68)),eS P ⟨#[99,104,111,105,99,101,115]⟩ (g 223) (.ref (h 73)),eS P ⟨#[115,105,116,101,115]⟩ (g 225) (.ref (h 75)),eS P ⟨#[100,101,101,100,115]⟩ (g 311) (.ref (h 79))] 5,#[]⟩⟩ (.node ⟨false,(h 16),⟨(.ref 1471),some (h 15),.plain,#[]⟩⟩ (.node ⟨false,(h 111),⟨(.ref 1222),some (h 110),.plain,#[]⟩⟩ (.node ⟨false,(h 90),⟨(.type L3),none,.fields #[(.ref 910),(.ref (h 77))],#[]⟩⟩ .nil .nil) (.node ⟨false,(h 106),⟨(.type L3),none,.fields #[(.ref 1062),(.ref (h 77))],#[]⟩⟩ .nil .nil)) (.node ⟨false,(h 85),⟨(.type L3),none,.fields #[(.ref 924),(.ref (h 77))],#[]⟩⟩ (.node ⟨false,(h 100),⟨(.type L3),none,.fields #[(.ref 1020),(.ref (h 77))],#[]⟩⟩ .nil .nil) .nil)) (.node ⟨false,(h 68),⟨(.ref 1404),some (h 67),.plain,#[]⟩⟩ (.node ⟨false,(h 81),⟨(.type L3),none,.fields #[(.ref 854),(.ref (h 77))],#[]⟩⟩ (.node ⟨false,(h 98),⟨(.type L3),none,.fields #[(.ref 992),(.ref (h 77))],#[]⟩⟩ .nil .nil) .nil) (.node ⟨false,(h 87),⟨(.type L3),none,.fields #[(.ref 938),(.ref (h 77))],#[]⟩⟩ (.node ⟨false,(h 102),⟨(.type L3),none,.fields #[(.ref 1034),(.ref (h 77))],#[]⟩⟩ .nil .nil) .nil))))
noncomputable def m7 (d:Nat):Nat:=d % 7
noncomputable def A9 (d:Nat):Nat:=match d with
 | 0=>1520
 | 1=>1525
 | 2=>1532
 | 3=>1537
 | 4=>1544
 | 5=>1551
 | _=>1561
noncomputable def Gr (P:Params) (d:Nat):FuncData:=match (Mine.Scr.KT0 P).get (A9 d) with
 | some o=>match o.data with
  | .func f=>f
  | _=>default
 | none=>default
noncomputable def EK (P:Params) (d:Nat):Cell:=⟨false,A9 (m7 d),⟨.type Le,none,.func (Gr P (m7 d)),#[]⟩⟩
noncomputable def BB (w:World) (h g:Nat→Nat):Base:=⟨PySem.Challenge.pw_on0051_01,w,Mine.Scr.KT0 w.params,EN w.params h g,EK w.params⟩
noncomputable def oL (e:Nat) (l:List Value):Obj:=⟨yL,none,.seq ⟨l⟩ e,#[]⟩
noncomputable def oT (l:List Value):Obj:=⟨yT,none,.seq ⟨l⟩ 0,#[]⟩
noncomputable def V7.l (x:V7):List Value:=[x.a,x.b,x.c,x.d,x.e,x.f,x.g]
noncomputable def fv (l:List Value) (i:Nat):Value:=match l,i with
 | [],_=>.none
 | v::_,0=>v
 | _::l,i+1=>fv l i
noncomputable def nb (l:List Nat) (i:Nat):Nat:=match l,i with
 | [],_=>0
 | v::_,0=>v
 | _::l,i+1=>nb l i
noncomputable def bF (o:Obj):List Value:=match o.data with
 | .seq xs _=>xs.toList
 | _=>[]
noncomputable def v7 (o:Obj):V7:=⟨fv (bF o) 0,fv (bF o) 1,fv (bF o) 2,fv (bF o) 3,fv (bF o) 4,fv (bF o) 5,fv (bF o) 6⟩
noncomputable def V7.set (x:V7) (i:Nat) (v:Value):V7:=match i with
 | 0=>{ x with a:=v } | 1=>{ x with b:=v } | 2=>{ x with c:=v } | 3=>{ x with d:=v } | 4=>{ x with e:=v } | 5=>{ x with f:=v } | _=>{ x with g:=v }
noncomputable def V7.get (x:V7) (i:Nat):Value:=match i with
 | 0=>x.a | 1=>x.b | 2=>x.c | 3=>x.d | 4=>x.e | 5=>x.f | _=>x.g
noncomputable abbrev cS (h:Nat→Nat) (m:Bool) (R:V7):Cell:=⟨m,h 117,oL 0 R.l⟩
noncomputable abbrev d8 (h:Nat→Nat) (m:Bool) (F:V7):Cell:=⟨m,h 120,oL 7 F.l⟩
noncomputable abbrev ok (v:Value):Result:=.ok (.ret v)
noncomputable abbrev aq (a:Nat) (l:List Value):Code:=.call (.ref a) ⟨l,[]⟩
noncomputable abbrev iA (y x:Int):Int:=Int.rec (fun a=>(fun a=>Int.casesOn x (fun a_1=>(fun m n=>Int.ofNat (m+n)) a a_1) fun a_1=>(fun m n=>Int.subNatNat m n.succ) a a_1) a) (fun a=>(fun a=>Int.casesOn x (fun a_1=>(fun m n=>Int.subNatNat n m.succ) a a_1) fun a_1=>(fun m n=>Int.negSucc (m+n).succ) a a_1) a) y
noncomputable abbrev fG (x:Value)(R:V7):List Value:=[x,R.2,R.3,R.4,R.5,R.6,R.7]
noncomputable abbrev Eu (x y:Value)(R:V7):List Value:=[x,y,R.3,R.4,R.5,R.6,R.7]
noncomputable abbrev rB:List Nat→List Nat→Result:=fun b _=>ok (.ref (nb b 0))
noncomputable abbrev rX:List Nat→List Nat→Result:=fun _ _=>.ok .next
noncomputable abbrev rO:List Nat→List Nat→Result:=fun _ _=>ok .none
noncomputable abbrev nN:List Nat→List Nat→List Obj:=fun _ _=>[]
noncomputable def RS.finO (D:RS) (bx tx:List Nat) (po:List Nat→List Nat→(Nat→Obj)→(Nat→Post)→List Obj) (nw:List Nat→List Nat→List Obj) (r:List Nat→List Nat→Result):RS:={ D with bx:=bx,tx:=tx,po:=po,nw:=nw,r:=r }
noncomputable def RS.fin (D:RS) (bx tx:List Nat) (po nw:List Nat→List Nat→List Obj) (r:List Nat→List Nat→Result):RS:=D.finO bx tx (fun b t _ _=>po b t) nw r
noncomputable def aH (lv:Nat) (sh:List (List Kd)) (dy:Bool) (c:Code) (cells:List Cell):RS:={ lv:=lv,sh:=sh,c:=c,cells:=cells,bx:=[],tx:=[],po:=fun _ _ _ _=>[],nw:=fun _ _=>[],r:=fun _ _=>ok .none,dy:=dy }
noncomputable def c6 (P:Params) (h g:Nat→Nat) (r t:Nat) (v:Value) (R F:V7):RS where
 lv:=60
 sh:=[]
 c:=aq 1184 [.ref (h 111),.int r t,v]
 cells:=[cS h true R,d8 h true F]
 bx:=[]
 tx:=[]
 po:=fun _ _ _ _=>[oL 0 (R.set r v).l,oL 7 (F.set r (.bool true)).l]
 nw:=fun _ _=>[]
 r:=fun _ _=>ok .none
noncomputable abbrev au (c:Code) (cells:List Cell) (v:Value):RS:={ lv:=60,sh:=[],c:=c,cells:=cells,bx:=[],tx:=[],po:=fun _ _ _ _=>[],nw:=fun _ _=>[],r:=fun _ _=>ok v }
noncomputable def mh (P:Params) (h g:Nat→Nat) (a t:Nat) (T v:Value):RS:=au (aq 1172 [.ref (h 111),.ref a]) [⟨false,a,oT [.str Q5 t,T,v]⟩] v
noncomputable def vN (P:Params) (h g:Nat→Nat) (a t r tr:Nat) (R F:V7):RS:=au (aq 1172 [.ref (h 111),.ref a]) [⟨false,a,oT [.str Qn t,.int r tr]⟩,cS h false R,d8 h false F] (R.get r)
noncomputable def vU (P:Params) (h g:Nat→Nat) (a t tr x:Nat) (R F:V7):RS:=vN P h g a t 0 tr { R with a:=.ref x } { F with a:=.bool true }
noncomputable def vA (P:Params) (h g:Nat→Nat) (a t tr x:Nat) (R F:V7):RS:=vN P h g a t 1 tr { R with b:=.ref x } { F with b:=.bool true }
noncomputable def mQ (P:Params) (h g:Nat→Nat) (a t:Nat) (s:Str):RS:=au (aq 1461 [.ref (h 16),.ref a]) [⟨false,a,oT [.str s t]⟩] (.ref a)
noncomputable def i7 (P:Params) (h g:Nat→Nat) (a t:Nat) (s:Str) (x:Value):RS:=au (aq 1461 [.ref (h 16),.ref a]) [⟨false,a,oT [.str s t,x]⟩] (.ref a)
noncomputable def ik (P:Params) (h g:Nat→Nat) (a t:Nat) (s:Str) (x y:Value):RS:=au (aq 1461 [.ref (h 16),.ref a]) [⟨false,a,oT [.str s t,x,y]⟩] (.ref a)
noncomputable abbrev aP (id:String) (l:List Value):Code:=.call (.builtin id) ⟨l,[]⟩
noncomputable def xu (s:Str):List (Str × Nat)→Nat
 | []=>0
 | x::l=>match PySem.W.Fast.lEq s.cps.toList x.1.cps.toList with
  | true=>x.2
  | false=>xu s l
noncomputable def vK:List (Str × Nat):=[(Qr,81),(Qm,83),(Qq,85),(Qz,86),(Qu,87),(Ey,88),(EP,90),(EO,94),(Qj,98),(Dr,99),(Qs,100),(Qv,101),(Bh,102),(EG,105),(Qh,106),(En,107)]
noncomputable def aM (P:Params) (h g:Nat→Nat) (s:Str) (t:Nat):RS:=au (aP Lb [.ref (h 79),.str s t]) [] (.ref (h (xu s vK)))
noncomputable def bJ:List (Str × (Int × Nat)):=[(Q1,(64,667)),(Q0,(8,669)),(⟨#[105,110,116,49,54]⟩,(16,671)),(⟨#[105,110,116,51,50]⟩,(32,673)),(Q2,(64,675)),(⟨#[117,105,110,116]⟩,(64,677)),(Q3,(8,679)),(Q4,(16,681)),(Gh,(32,683)),(Gj,(64,685))]
noncomputable def bC (s:Str):List (Str × (Int × Nat))→(Int × Nat)
 | []=>(0,0)
 | x::l=>match PySem.W.Fast.lEq s.cps.toList x.1.cps.toList with
  | true=>x.2
  | false=>bC s l
noncomputable def dG (P:Params) (h g:Nat→Nat) (s:Str) (t:Nat):RS:=au (aP Lb [.ref 350,.str s t]) [] (.int (bC s bJ).1 (bC s bJ).2)
noncomputable def fe (s:Str):List Str→Bool
 | []=>false
 | x::l=>match PySem.W.Fast.lEq s.cps.toList x.cps.toList with
  | true=>true
  | false=>fe s l
noncomputable def rb (a:Nat):List Str:=match a with
 | 728=>[⟨#[61,61]⟩,⟨#[33,61]⟩,⟨#[60]⟩,⟨#[60,61]⟩,⟨#[62]⟩,Qy]
 | 351=>[⟨#[60,60]⟩,⟨#[62,62]⟩]
 | 415=>[Qi,Qd,⟨#[102,117,110,99]⟩]
 | _=>[]
noncomputable abbrev iR (P:Params) (h g:Nat→Nat) (a:Nat) (s:Str) (t:Nat):RS:=au (aP Mine.SL.s12157581064306048743x18 [.ref a,.str s t]) [] (.bool (fe s (rb a)))
noncomputable def bR (P:Params) (h g:Nat→Nat) (s:Str) (t:Nat):RS:=iR P h g 728 s t
noncomputable def fT (P:Params) (h g:Nat→Nat) (s:Str) (t:Nat):RS:=iR P h g 351 s t
noncomputable def pG (P:Params) (h g:Nat→Nat) (s:Str) (t:Nat):RS:=iR P h g 415 s t
noncomputable def DY (P:Params) (h g:Nat→Nat) (a:Nat) (s1 s2:Str) (t1 t2:Nat) (s:Str) (t:Nat):RS:=au (aP Mine.SL.s12157581064306048743x18 [.ref a,.str s t]) [⟨false,a,oT [.str s1 t1,.str s2 t2]⟩] (.bool (fe s [s1,s2]))
inductive DT where
 | v (x:Value)
 | s (tup:Bool) (a:Nat) (e:Nat) (l:List DT)
noncomputable def DT.val:DT→Value
 | .v x=>x
 | .s _ a _ _=>.ref a
noncomputable def aK:List DT→List Value
 | []=>[]
 | d::l=>d.val::aK l
mutual
noncomputable def DT.cells:DT→List Cell
 | .v _=>[]
 | .s true a _ l=>⟨false,a,oT (aK l)⟩::aQ l
 | .s false a e l=>⟨false,a,oL e (aK l)⟩::aQ l
noncomputable def aQ:List DT→List Cell
 | []=>[]
 | d::l=>d.cells ++ aQ l
end
noncomputable def iy (neg tup:Bool):String:=match neg,tup with
 | false,false=>Mine.SL.s4576608952293643177x11
 | true,false=>Mine.SL.s11274501207620069578x11
 | false,true=>PySem.W.SL.s12699791747848524816x12
 | true,true=>Mine.SL.s5184184855523559102x12
noncomputable def bo (dr:List Nat):Nat→List Cell→List Cell
 | _,[]=>[]
 | i,c::l=>match gw i dr with
  | true=>bo dr (i+1) l
  | false=>c::bo dr (i+1) l
noncomputable def dX (P:Params) (h g:Nat→Nat) (neg tup:Bool) (X Y:DT) (b:Bool) (dr:List Nat):RS:=au (aP (iy neg tup) [X.val,Y.val]) (bo dr 0 (X.cells ++ Y.cells)) (.bool b)
noncomputable def qV:List Value→List Value→Bool
 | _,[]=>false
 | [],_::_=>true
 | .int i _::l,.int j _::m=>match decide (i=j) with
  | true=>qV l m
  | false=>decide (i<j)
 | _,_=>false
noncomputable def vu (P:Params) (h g:Nat→Nat) (a b e e':Nat) (l m:List Value):RS:=au (aP Mine.SL.s4715828480015836442x11 [.ref a,.ref b]) [⟨false,a,oL e l⟩,⟨false,b,oL e' m⟩] (.bool (qV l m))
noncomputable def jn:List (Nat × Value)→List DictEntry
 | []=>[]
 | x::l=>jn l ++ [⟨hashInt (Int.ofNat (ag l+1)),.int (Int.ofNat (ag l+1)) x.1,x.2⟩]
noncomputable def oK (n:Nat) (K:List (Nat × Value)):Obj:=⟨yD,none,.dict ⟨jn K⟩ n,#[]⟩
noncomputable abbrev cW (h:Nat→Nat) (m:Bool) (n:Nat) (K:List (Nat × Value)):Cell:=⟨m,h 70,oK n K⟩
noncomputable abbrev bN (P:Params) (h g:Nat→Nat) (m:Bool) (n:Nat) (t:Nat):Cell:=⟨m,h 67,⟨yD,none,.dict #[eS P ⟨#[107,101,112,116]⟩ (g 195) (.ref (h 70)),eS P ⟨#[103,105,118,101,110]⟩ (g 198) (.int (Int.ofNat n) t),eS P ⟨#[104,101,114,101]⟩ (g 201) (.int 0 (g 199)),eS P ⟨#[119,97,116,99,104]⟩ (g 203) .none,eS P ⟨#[99,111,108,108,101,99,116,111,114]⟩ (g 205) .none] 5,#[]⟩⟩
noncomputable def mF (P:Params) (h g:Nat→Nat) (n:Nat) (K:List (Nat × Value)) (t:Nat) (v:Value):RS:=(au (aP Lk [.ref (h 70),.int (Int.ofNat (n+1)) t,v]) [cW h true n K] .none).fin [] [] (fun _ _=>[oK (n+1) ((t,v)::K)]) (fun _ _=>[]) (fun _ _=>ok .none)
noncomputable def aS (P:Params) (h g:Nat→Nat) (n:Nat) (K:List (Nat × Value)) (x:Nat × Value) (t:Nat):RS:=au (aP Lb [.ref (h 70),.int (Int.ofNat (n+1)) t]) [cW h false (n+1) (x::K)] x.2
noncomputable def aT (P:Params) (h g:Nat→Nat) (n:Nat) (K:List (Nat × Value)) (x:Nat × Value) (t:Nat):RS:=au (aP PySem.W.SL.s7605591312241722700x17 [.ref (h 70),.int (Int.ofNat (n+1)) t]) [cW h false (n+1) (x::K)] (.bool true)
noncomputable def fm:List (List Kd):=[[.func,.forL,.func,.caller],[.compL,.func,.forL,.func,.caller],[.compL,.func,.func,.forL,.func,.caller],[.forL,.func,.forL,.func,.caller]]
noncomputable def y8 (l:List Kd):List (List Kd)→List (List Kd)
 | []=>[]
 | r::rs=>(l ++ r)::y8 l rs
noncomputable def AN:List (List Kd):=y8 [.func,.func,.func,.func] fm
noncomputable def sI:List (List Kd):=[.compL,.func,.forL,.func,.caller]::y8 [.compL,.func] AN
noncomputable def Ab:List (List Kd):=[[.forL,.func,.caller]]
noncomputable def GD:List (List Kd):=[[.func,.forL,.func,.caller]]
noncomputable def Gw:List (List Kd):=[[.forL,.func,.caller],[.func,.forL,.func,.caller],[.func,.func,.forL,.func,.caller]]
noncomputable def lr (P:Params) (h g:Nat→Nat) (i:Int) (t t2:Nat) (s:Str):RS:=au (aP Lc [.ref (h 75),.int i t,.str s t2]) [] (.str s t2)
noncomputable def hT (P:Params) (k:Int):Int:=reduceHash (Builtin.Tuple.tupleHashOf [hS P Q1,hashInt k])
noncomputable abbrev nK (t1 t2:Nat) (k:Int):Obj:=oT [.str Q1 t1,.int k t2]
noncomputable abbrev pg (P:Params) (k:Int) (mk:Nat) (v:Value):Obj:=⟨yD,none,.dict #[⟨hT P k,.ref mk,v⟩] 1,#[]⟩
noncomputable abbrev rv (e:Nat):Obj:=⟨yD,none,.dict #[] e,#[]⟩
noncomputable abbrev Fm:Obj:=rv 0
noncomputable def rA (P:Params) (h g:Nat→Nat) (en mk t1 t2:Nat) (k:Int):RS:=au (aP Lc [.ref en,.ref mk]) [⟨false,en,Fm⟩,⟨false,mk,nK t1 t2 k⟩] .none
noncomputable def sD (P:Params) (h g:Nat→Nat) (en mk t1 t2:Nat) (k:Int) (v:Value):RS:=(au (aP Lk [.ref en,.ref mk,v]) [⟨true,en,Fm⟩,⟨false,mk,nK t1 t2 k⟩] .none).fin [] [] (fun _ _=>[pg P k mk v]) (fun _ _=>[]) (fun _ _=>ok .none)
noncomputable def jL (P:Params) (h g:Nat→Nat) (en e:Nat):RS:={ au (aP PySem.W.SL.s13430074062756142643x12 [.ref en]) [⟨false,en,rv e⟩] .none with tx:=[0],r:=fun _ t=>ok (.int 0 (nb t 0)) }
noncomputable def Bl (P:Params) (h g:Nat→Nat) (d:Nat) (s1 s2:Str) (t1 t2:Nat) (v1 v2:Value) (s:Str) (t:Nat):RS:=au (aP Lb [.ref d,.str s t]) [⟨false,d,⟨yD,none,.dict #[eS P s1 t1 v1,eS P s2 t2 v2] 2,#[]⟩⟩] (match fe s [s1] with | true=>v1 | false=>v2)
noncomputable def pe:List Value→List Value→List Value
 | [],m=>m
 | v::l,m=>v::pe l m
noncomputable def kc (P:Params) (h g:Nat→Nat) (a b:Nat) (n n':Nat) (l m:List Value):RS:=(au (.builtin Ll ⟨[.ref a,.ref b],[]⟩) [⟨true,a,oL n l⟩,⟨false,b,oL n' m⟩] .none).fin [] [] (fun _ _=>[oL (n+1) (pe l m)]) (fun _ _=>[]) (fun _ _=>ok (.ref a))
noncomputable def tA (P:Params) (h g:Nat→Nat) (en mk t1 t2 mk' t1' t2':Nat) (k:Int) (v:Value):RS:=au (aP Lc [.ref en,.ref mk']) [⟨false,en,pg P k mk v⟩,⟨false,mk,nK t1 t2 k⟩,⟨false,mk',nK t1' t2' k⟩] v
noncomputable def uP (P:Params) (h g:Nat→Nat) (en mk t1 t2 mk' t1' t2':Nat) (k k':Int) (v:Value):RS:=au (aP Lc [.ref en,.ref mk']) [⟨false,en,pg P k mk v⟩,⟨false,mk,nK t1 t2 k⟩,⟨false,mk',nK t1' t2' k'⟩] .none
noncomputable def uV (P:Params) (h g:Nat→Nat) (en mk t1 t2 mk' t1' t2':Nat) (k:Int) (v:Value):RS:=(au (aP PySem.W.SL.s2631155843430911455x8 [.ref en,.ref mk',.none]) [⟨true,en,pg P k mk v⟩,⟨false,mk,nK t1 t2 k⟩,⟨false,mk',nK t1' t2' k⟩] v).fin [] [] (fun _ _=>[rv 2]) (fun _ _=>[]) (fun _ _=>ok v)
noncomputable def fw (o:Obj):Scope:=match o.data with
 | .func fd=>fd.scope
 | _=>default
noncomputable abbrev oF (n:Nat) (l:List DictEntry):Obj:=⟨.type L2,none,.dict ⟨l⟩ n,#[]⟩
noncomputable def ym (y:Nat):Nat:=y
noncomputable def aG (b:Nat) (K:List (Nat × Value)):List (Nat × Value):=match Nat.ble (ag K) b with
 | true=>K
 | false=>[]
noncomputable def RS.open (D:RS) (po:List Obj):RS:={ D with bx:=[],tx:=[],po:=fun _ _ _ _=>po,nw:=fun _ _=>[],r:=fun _ _=>ok (.bool true) }
noncomputable def ow (P:Params) (n:Nat):Obj:=match (Mine.Scr.KT0 P).get n with
 | some o=>o
 | none=>{ cls:=.none }
noncomputable def dw (o:Obj):List Stmt:=match o.data with
 | .func fd=>match fd.body with
  | .stmts l=>l
  | _=>[]
 | _=>[]
noncomputable def wk (s:Stmt):PySem.Expr:=match s with
 | .Return e _=>match e with
  | some e=>e
  | none=>default
 | .Assign _ e _=>e
 | _=>default
noncomputable def EA (o:Obj) (j:Nat):PySem.Expr:=match ig (dw o) j with
 | s::_=>wk s
 | []=>default
noncomputable def pn:List (Str × NameKind)→List (Str × NameKind)
 | []=>[]
 | x::l=>match x.2 with
  | .free=>(x.1,.cell)::pn l
  | k=>(x.1,k)::pn l
noncomputable def G1 (e:PySem.Expr):Scope:=match e with
 | .ListComp _ _ s _=>{ s with names:=pn s.names }
 | _=>default
noncomputable abbrev Gu (m:Nat):Obj:=⟨.type L7,none,.fields #[.int 0 0,.int (Int.ofNat m) 0,.int 1 0],#[]⟩
noncomputable abbrev GE (a:Nat):Obj:=⟨.type Lm,none,.fields #[.ref a,.int 0 0],#[]⟩
noncomputable abbrev EF (v:Value):Obj:=⟨.type PySem.W.SL.s15660640913423913556x4,none,.cell (some v),#[]⟩
noncomputable abbrev Ge:Obj:=⟨yD,none,.dict #[] 0,#[]⟩
noncomputable def bG (P:Params) (h g:Nat→Nat) (m it acc L c1 f:Nat) (R:V7):RS:=aH 60 [] false (.compStart (EA (ow P 1501) 2) 0 (.ref it) (.ref acc) ⟨G1 (EA (ow P 1501) 2),L,3,[(⟨#[102,114,97,109,101]⟩,c1)],⟨#[95,108,97,119,95,100,111,110,101,46,60,108,111,99,97,108,115,62,46]⟩,none,.ref 1500,some f,0⟩) [⟨true,it,Gu m⟩,⟨true,acc,oL 0 []⟩,⟨true,L,Ge⟩,⟨false,c1,EF (.ref (h 111))⟩,cS h false R]
noncomputable abbrev bM (e:Nat) (X Y:Nat) (tx ty r:Nat):Obj:=oL e [.int (Int.ofNat X) tx,.int (Int.ofNat Y) ty,.ref r]
noncomputable def ah (P:Params) (h g:Nat→Nat) (s r e er:Nat) (X Y d X' Y':Nat) (top:Int) (tx ty tt:Nat):RS :=
 { au (aq 1489 [.ref s,.int top tt]) [⟨true,s,bM e X Y tx ty r⟩,⟨false,r,oL er []⟩] .none with lv:=150,sh:=Gw,tx:=[0,1,2],po:=fun _ t _ _=>[bM e X' Y' (nb t 1) (nb t 2) r],r:=fun _ t=>ok (.int (Int.ofNat d) (nb t 0)) }
noncomputable def aJ (P:Params) (h g:Nat→Nat) (s r e er th eh:Nat) (X Y d X' Y':Nat) (tx ty:Nat) (l:List Value):RS :=
 { au (aq 1496 [.ref s,.ref th]) [⟨true,s,bM e X Y tx ty r⟩,⟨false,r,oL er []⟩,⟨false,th,oL eh l⟩] .none with lv:=200,sh:=GD,tx:=[0,1],po:=fun _ t _ _=>[bM e X' Y' (nb t 0) (nb t 1) r],r:=fun _ _=>ok (fv l d) }
noncomputable def Gi (P:Params) (h g:Nat→Nat) (X tx t:Nat) (b:Bool):RS:=au (aP Mine.SL.s549184847318252788x10 [.int (Int.ofNat X) tx,.int 0 t]) [] (.bool b)
noncomputable def Fr (P:Params) (h g:Nat→Nat) (X tx t:Nat):RS:=Gi P h g X tx t true
noncomputable def vh (P:Params) (h g:Nat→Nat) (id:String) (a b c t u:Nat):RS:=(au (aP id [.int (Int.ofNat a) t,.int (Int.ofNat b) u]) [] .none).fin [] [0] (fun _ _=>[]) (fun _ _=>[]) (fun _ t=>ok (.int (Int.ofNat c) (nb t 0)))
noncomputable def gh (P:Params) (h g:Nat→Nat) (a b c t u:Nat):RS:=vh P h g Mine.SL.s15302896290300502732x11 a b c t u
noncomputable def nW (P:Params) (h g:Nat→Nat) (a b c t u:Nat):RS:=vh P h g Mine.SL.s4995937446222217074x11 a b c t u
noncomputable def eC (P:Params) (h g:Nat→Nat) (a b c t u:Nat):RS:=vh P h g Mine.SL.s15071220520546248041x11 a b c t u
noncomputable def wt (P:Params) (h g:Nat→Nat) (a b c t u:Nat):RS:=vh P h g Mine.SL.s14309602957429558208x16 a b c t u
noncomputable def lO (P:Params) (h g:Nat→Nat) (a e d t:Nat) (l:List Value):RS:=au (aP Ld [.ref a,.int (Int.ofNat d) t]) [⟨false,a,oL e l⟩] (fv l d)
noncomputable def bj {α:Type} (z:α):List α→Nat→α
 | [],_=>z
 | v::_,0=>v
 | _::l,i+1=>bj z l i
noncomputable def jE (P:Params) (h g:Nat→Nat) (s r e er th eh:Nat) (X Y d X' Y':Nat) (tx ty:Nat) (l:List Value) (v:Value):RS:={ aJ P h g s r e er th eh X Y d X' Y' tx ty l with r:=fun _ _=>ok v }
noncomputable def ay (P:Params) (h g:Nat→Nat) (s r e er th eh:Nat) (X Y d X' Y':Nat) (tx ty:Nat) (b0 b1 b2 b3:Array UInt8) (t0 t1 t2 t3:Nat):RS:=jE P h g s r e er th eh X Y d X' Y' tx ty [.bytes b0 t0,.bytes b1 t1,.bytes b2 t2,.bytes b3 t3] (.bytes (bj #[] [b0,b1,b2,b3] d) (bj 0 [t0,t1,t2,t3] d))
noncomputable def bT (P:Params) (h g:Nat→Nat) (s r e er th eh:Nat) (X Y d X' Y':Nat) (tx ty:Nat) (b0 b1:Array UInt8) (t0 t1:Nat):RS:=jE P h g s r e er th eh X Y d X' Y' tx ty [.bytes b0 t0,.bytes b1 t1] (.bytes (bj #[] [b0,b1] d) (bj 0 [t0,t1] d))
noncomputable def aA (P:Params) (h g:Nat→Nat) (s r e er th eh:Nat) (X Y d X' Y':Nat) (tx ty:Nat) (b0 b1 b2 b3 b4:Int) (t0 t1 t2 t3 t4:Nat):RS:=jE P h g s r e er th eh X Y d X' Y' tx ty [.int b0 t0,.int b1 t1,.int b2 t2,.int b3 t3,.int b4 t4] (.int (bj 0 [b0,b1,b2,b3,b4] d) (bj 0 [t0,t1,t2,t3,t4] d))
noncomputable def az (P:Params) (h g:Nat→Nat) (s r e er th eh:Nat) (X Y d X' Y':Nat) (tx ty:Nat) (b0 b1 b2 b3:Str) (t0 t1 t2 t3:Nat):RS:=jE P h g s r e er th eh X Y d X' Y' tx ty [.str b0 t0,.str b1 t1,.str b2 t2,.str b3 t3] (.str (bj Str.empty [b0,b1,b2,b3] d) (bj 0 [t0,t1,t2,t3] d))
noncomputable def Fs (P:Params) (h g:Nat→Nat) (L:Nat) (s:Nat) (R:V7) (F:V7) (n:Nat) (K:List (Nat × Value)) (t1:Nat) (wd:Nat) (tt:Nat) (rw:Nat) (r2:Nat) (D1:Nat) (D2:Nat) (t2:Nat) (t3:Nat) (t4:Nat) (t5:Nat) (t6:Nat) (t7:Nat) (t8:Nat) (t9:Nat) (t10:Nat) (t11:Nat) (t12:Nat) (t13:Nat) (t14:Nat) (t15:Nat) (t16:Nat) (t17:Nat) (t18:Nat) (v1:Value) (t19:Nat) (t20:Nat) (v2:Value) (t21:Nat) (v3:Value) (t22:Nat) (v4:Value) (t23:Nat) (v5:Value):RS:={ aH 600 Ab true (Code.func (dw (ow P 1532)) ⟨fw (ow P 1532),L,3,[],⟨#[95,108,97,119,95,112,97,114,116,115,95,114,105,103,104,116,46,60,108,111,99,97,108,115,62,46]⟩,some 1532,.ref 1531,some L,0⟩) [⟨true,L,oF 13 [eS P Ev t9 (.ref s),eS P Ex t10 (.ref (h 126)),eS P Q6 t11 (.ref (h 68)),eS P EM t12 (.ref wd),eS P ⟨#[116]⟩ t13 (.ref tt),eS P ⟨#[104,105,103,104]⟩ t14 (.int (Int.ofNat D2) t15),eS P ⟨#[108,111,119]⟩ t16 (.int (Int.ofNat D1) t17),eS P ⟨#[105,110,100,101,120]⟩ t18 v1,eS P Qa t19 (.ref rw),eS P F7 t20 v2,eS P ⟨#[111,116,104,101,114]⟩ t21 v3,eS P ⟨#[98,101,121,111,110,100]⟩ t22 v4,eS P ⟨#[105,115,95,105,110]⟩ t23 v5]⟩,cS h true R,d8 h true F,bN P h g true n t1,cW h true n K,⟨false,wd,oT [(.str Qc t2)]⟩,⟨false,tt,oT [(.str Q1 t3),(.str Q1 t4)]⟩,⟨false,rw,oT [(.str Ez t5),.ref r2]⟩,⟨false,r2,oT [(.int 4 t6),(.int 5 t7),(.int 6 t8)]⟩] with tl:=some 7,di:=true }
noncomputable def nU (P:Params) (h g:Nat→Nat) (L:Nat) (s:Nat) (R:V7) (F:V7) (n:Nat) (K:List (Nat × Value)) (t1:Nat) (wd:Nat) (tt:Nat) (rw:Nat) (r2:Nat) (D1:Nat) (D2:Nat) (t2:Nat) (t3:Nat) (t4:Nat) (t5:Nat) (t6:Nat) (t7:Nat) (t8:Nat) (t9:Nat) (t10:Nat) (t11:Nat) (t12:Nat) (t13:Nat) (t14:Nat) (t15:Nat) (t16:Nat) (t17:Nat) (t18:Nat) (v1:Value) (t19:Nat) (t20:Nat) (v2:Value) (t21:Nat) (v3:Value) (t22:Nat) (v4:Value) (t23:Nat) (v5:Value) (ρ:Post):RS:=(Fs P h g L s R F n K t1 wd tt rw r2 D1 D2 t2 t3 t4 t5 t6 t7 t8 t9 t10 t11 t12 t13 t14 t15 t16 t17 t18 v1 t19 t20 v2 t21 v3 t22 v4 t23 v5).open [ρ.o 0,oL 0 ρ.R.l,oL 7 ρ.F.l,(bN P h g true (ag (aG (n+2) ρ.K)) (ρ.t 2)).o,oK (ag (aG (n+2) ρ.K)) (aG (n+2) ρ.K)]
noncomputable def FK (P:Params) (h g:Nat→Nat) (L:Nat) (s:Nat) (r:Nat) (er:Nat) (X0:Nat) (Y0:Nat) (R:V7) (F:V7) (n:Nat) (K:List (Nat × Value)) (t1:Nat) (ct:Nat) (ch:Nat) (tt:Nat) (t2:Nat) (t3:Nat) (t4:Nat) (t5:Nat) (v1:Value) (t6:Nat) (v2:Value) (t7:Nat) (v3:Value) (t8:Nat) (v4:Value) (t9:Nat) (v5:Value) (t10:Nat) (v6:Value) (t11:Nat) (t12:Nat):RS:={ aH 600 Ab true (Code.func (dw (ow P 1537)) ⟨fw (ow P 1537),L,3,[(⟨#[116]⟩,ct),(Ex,ch)],⟨#[95,108,97,119,95,115,105,122,101,115,95,114,105,103,104,116,46,60,108,111,99,97,108,115,62,46]⟩,some 1537,.ref 1536,some L,0⟩) [⟨true,L,oF 7 [eS P Ev t4 (.ref s),eS P ⟨#[98,121,116,101]⟩ t5 v1,eS P ⟨#[114,111,119,115]⟩ t6 v2,eS P EM t7 v3,eS P ⟨#[84]⟩ t8 v4,eS P ⟨#[118,97,108,117,101]⟩ t9 v5,eS P ⟨#[100,117,101]⟩ t10 v6]⟩,⟨true,s,bM 0 X0 Y0 t11 t12 r⟩,⟨false,r,oL er []⟩,cS h true R,d8 h true F,bN P h g true n t1,cW h true n K,⟨false,ct,EF (.ref tt)⟩,⟨false,ch,EF (.ref (h 126))⟩,⟨false,tt,oT [(.str Q1 t2),(.str Q1 t3)]⟩] with tl:=some 7,di:=true }
noncomputable def jh (P:Params) (h g:Nat→Nat) (L:Nat) (s:Nat) (r:Nat) (er:Nat) (X0:Nat) (Y0:Nat) (R:V7) (F:V7) (n:Nat) (K:List (Nat × Value)) (t1:Nat) (ct:Nat) (ch:Nat) (tt:Nat) (t2:Nat) (t3:Nat) (t4:Nat) (t5:Nat) (v1:Value) (t6:Nat) (v2:Value) (t7:Nat) (v3:Value) (t8:Nat) (v4:Value) (t9:Nat) (v5:Value) (t10:Nat) (v6:Value) (t11:Nat) (t12:Nat) (ρ:Post):RS:=(FK P h g L s r er X0 Y0 R F n K t1 ct ch tt t2 t3 t4 t5 v1 t6 v2 t7 v3 t8 v4 t9 v5 t10 v6 t11 t12).open [ρ.o 0,bM 0 ρ.X (ym ρ.Y) (ρ.t 0) (ρ.t 1) r,oL 0 ρ.R.l,oL 7 ρ.F.l,(bN P h g true (ag (aG (n+2) ρ.K)) (ρ.t 2)).o,oK (ag (aG (n+2) ρ.K)) (aG (n+2) ρ.K)]
noncomputable def EX (P:Params) (h g:Nat→Nat) (L:Nat) (s:Nat) (r:Nat) (er:Nat) (X0:Nat) (Y0:Nat) (R:V7) (F:V7) (tt:Nat) (t1:Nat) (t2:Nat) (t3:Nat) (t4:Nat) (t5:Nat) (v1:Value) (t6:Nat) (t7:Nat) (v2:Value) (t8:Nat) (v3:Value) (t9:Nat) (v4:Value) (t10:Nat) (v5:Value) (t11:Nat) (v6:Value) (t12:Nat) (t13:Nat):RS:={ aH 600 Ab true (Code.func (dw (ow P 1561)) ⟨fw (ow P 1561),L,3,[],G9,some 1561,.ref 1560,some L,0⟩) [⟨true,L,oF 9 [eS P Ev t3 (.ref s),eS P Ex t4 (.ref (h 126)),eS P EM t5 v1,eS P ⟨#[116]⟩ t6 (.ref tt),eS P ⟨#[98]⟩ t7 v2,eS P ⟨#[97]⟩ t8 v3,eS P F7 t9 v4,eS P ⟨#[100]⟩ t10 v5,eS P ⟨#[99]⟩ t11 v6]⟩,⟨true,s,bM 0 X0 Y0 t12 t13 r⟩,⟨false,r,oL er []⟩,cS h true R,d8 h true F,⟨false,tt,oT [(.str Q1 t1),(.str Q0 t2)]⟩] with tl:=some 7,di:=true }
noncomputable def h9 (P:Params) (h g:Nat→Nat) (L:Nat) (s:Nat) (r:Nat) (er:Nat) (X0:Nat) (Y0:Nat) (R:V7) (F:V7) (tt:Nat) (t1:Nat) (t2:Nat) (t3:Nat) (t4:Nat) (t5:Nat) (v1:Value) (t6:Nat) (t7:Nat) (v2:Value) (t8:Nat) (v3:Value) (t9:Nat) (v4:Value) (t10:Nat) (v5:Value) (t11:Nat) (v6:Value) (t12:Nat) (t13:Nat) (ρ:Post):RS:=(EX P h g L s r er X0 Y0 R F tt t1 t2 t3 t4 t5 v1 t6 t7 v2 t8 v3 t9 v4 t10 v5 t11 v6 t12 t13).open [ρ.o 0,bM 0 ρ.X (ym ρ.Y) (ρ.t 0) (ρ.t 1) r,oL 0 ρ.R.l,oL 7 ρ.F.l]
noncomputable def FR (P:Params) (h g:Nat→Nat) (L:Nat) (s:Nat) (r:Nat) (er:Nat) (X0:Nat) (Y0:Nat) (R:V7) (F:V7) (tt:Nat) (t1:Nat) (t2:Nat) (t3:Nat) (t4:Nat) (t5:Nat) (v1:Value) (t6:Nat) (t7:Nat) (v2:Value) (t8:Nat) (v3:Value) (t9:Nat) (v4:Value) (t10:Nat) (t11:Nat):RS:={ aH 600 Ab true (Code.func (dw (ow P 1561)) ⟨fw (ow P 1561),L,3,[],G9,some 1561,.ref 1560,some L,0⟩) [⟨true,L,oF 7 [eS P Ev t3 (.ref s),eS P Ex t4 (.ref (h 126)),eS P EM t5 v1,eS P ⟨#[116]⟩ t6 (.ref tt),eS P ⟨#[98]⟩ t7 v2,eS P ⟨#[97]⟩ t8 v3,eS P F7 t9 v4]⟩,⟨true,s,bM 0 X0 Y0 t10 t11 r⟩,⟨false,r,oL er []⟩,cS h true R,d8 h true F,⟨false,tt,oT [(.str Q1 t1),(.str Q0 t2)]⟩] with tl:=some 4,di:=true }
noncomputable def lh (P:Params) (h g:Nat→Nat) (L:Nat) (s:Nat) (r:Nat) (er:Nat) (X0:Nat) (Y0:Nat) (R:V7) (F:V7) (tt:Nat) (t1:Nat) (t2:Nat) (t3:Nat) (t4:Nat) (t5:Nat) (v1:Value) (t6:Nat) (t7:Nat) (v2:Value) (t8:Nat) (v3:Value) (t9:Nat) (v4:Value) (t10:Nat) (t11:Nat) (ρ:Post):RS:=(FR P h g L s r er X0 Y0 R F tt t1 t2 t3 t4 t5 v1 t6 t7 v2 t8 v3 t9 v4 t10 t11).open [ρ.o 0,bM 0 ρ.X (ym ρ.Y) (ρ.t 0) (ρ.t 1) r,oL 0 ρ.R.l,oL 7 ρ.F.l]
section
open PySem.SeqAt
noncomputable def rh (Γ:Ctx):Around:={ handled:=none,depth:=frameCount Γ.below,frames:=none,guards:=none,units:=unitsOf Γ.below }
theorem aj {B:Base} {D:RS} (hdi:D.di=false) (body:∀ (A:Around) (s:Shared) (R:Result→Shared→Prop),A.handled=none→A.units+D.lv≤9000→A.depth+D.lv≤950→dd B s →
 (∀ c,c∈D.cells→s.heap.get? c.a=some c.o∧B.Free c.a)→(D.cells.map (·.a)).Nodup→(∀ s' bs ts,After B D.S s s' bs ts→R (D.r bs ts) s')→codeAny B.M A D.c R s):D.S.Holds B:=fun Γ p s R ok k=>by
 refine body (rh Γ) s R rfl ok.room.2 ok.room.1 ok.top (fun c hc=>?_) ?_ k Γ p ok.code ⟨ok.hand,Nat.le_refl _,(by intro _ q; cases q),(by intro _ q; cases q),Nat.le_refl _⟩
 ·obtain ⟨h1,h2⟩:=ok.pre _ (dH hc)
  refine ⟨?_,h2⟩
  rcases h1 with h1 | ⟨h1,_⟩
  ·exact h1
  ·have:D.di=true:=h1
   rw [hdi] at this; cases this
 ·have:=ok.nd
  rw [show D.S.pre=bU D.cells from rfl,gi] at this
  exact this
theorem aE {B:Base} {D:RS} {s s':Shared} (ht:dd B s) (hmu:cC D.cells=[]) (hb:D.bx=[]) (htx:D.tx=[]) (h1:s'.heap=s.heap) (h2:s'.gens=s.gens) (h3:s'.os=s.os):After B D.S s s' [] []:=by
 have em:D.S.mu=[]:=hmu
 refine ⟨⟨fun a o h=>by rw [h1]; exact ht.1 a o h,fun i c h=>by rw [h1]; exact ht.2 i c h⟩,fun a o h _=>.inl (by rw [h1]; exact h),by rw [h1]; exact Nat.le_refl _,h2,h3,fun j a o h=>?_,fun j a o h=>by simp at h,fun a h=>by simp at h,List.nodup_nil,?_,?_⟩
 ·rw [em] at h; simp at h
 ·show 0=ag D.bx; rw [hb]; rfl
 ·show 0=ag D.tx; rw [htx]; rfl
theorem ap {prog:Program} {w:World} {A:Around} {R:Result→Shared→Prop} {s:Shared} {T:String} {name:Str} {id:String} {b:Builtin} {self:Value} {rest:List Value} {S:PySem.Spec} (h:Slot T name id) (hb:entryFor table id=some b)
 (ha:argsOk id ⟨self::rest,[]⟩) (hT:s.TypeIs self T) (m:MeetsIn prog w (b ⟨self::rest,[]⟩) S) (hS:S A R s):codeAny (model prog w) A (.call (.builtin id) ⟨self::rest,[]⟩) R s :=
 codeAny_call_builtin h.plain hb (h.check _ _ _ _ _ _ _ _ hT ha (m A R s hS))
noncomputable def lZ (P:Params):List DictEntry→Prop
 | []=>True
 | e::l=>(∃ s t v,e=eS P s t v)∧lZ P l
theorem lZ.mem {P:Params}:∀ {l:List DictEntry},lZ P l→∀ e,e∈l→∃ s t v,e=eS P s t v
 | [],_,_,he=>absurd he List.not_mem_nil
 | d::l,h,e,he=>by
  rcases List.mem_cons.mp he with rfl | he
  ·exact h.1
  ·exact h.2.mem e he
theorem m5 {prog:Program} {w:World} {hp:Heap} {a:Addr} {l:List DictEntry} {ep:Nat} (h:hp.get? a=some ⟨yD,none,.dict ⟨l⟩ ep,#[]⟩) (hs:lZ w.params l):hp.MapOf (strKind prog w) a (findBy (strKind prog w).is ⟨l⟩):=by
 refine ⟨_,⟨l⟩,ep,h,⟨?_,rfl,rfl⟩,rfl,fun e he=>?_,fun _=>rfl⟩
 ·show Value.type _ = Value.type "dict"
  congr 1
 ·obtain ⟨s,t,v,rfl⟩:=hs.mem e (by simpa using he)
  exact ⟨s,by show Value.isStrOf s (.str s t)=true; simp [Value.isStrOf],rfl⟩
theorem cF {B : Base} {d t : Nat} {s : Str} {l : List DictEntry} {ep : Nat} {v : Value} {D : RS} (hc : D.c = aP "dict.__getitem__" [.ref d, .str s t]) (hdi : D.di = false) (hmu : cC D.cells = []) (hb : D.bx = []) (htx : D.tx = [])
 (hr:D.r [] []=.ok (.ret v)) (hd:∀ s,dd B s→(∀ c,c∈D.cells→s.heap.get? c.a=some c.o∧B.Free c.a)→s.heap.get? d=some ⟨yD,none,.dict ⟨l⟩ ep,#[]⟩) (hs:lZ B.w.params l)
 (hf:findBy Value.isStrOf ⟨l⟩ s=some v):D.S.Holds B:=by
 refine aj hdi fun A s₀ R hh hu _ ht hcell _ k=>?_
 rw [hc]
 have hm:=m5 (prog:=B.prog) (hd s₀ ht hcell) hs
 refine ap slot_dict_getitem entry_dict_getitem (args_dict_getitem _ _) hm.typeIs (meets_dict_getitem (strKind B.prog B.w) d (k:=s) (key:=.str s t) (by show Value.isStrOf s (.str s t)=true; simp [Value.isStrOf])) ⟨_,v,hm,hf,?_⟩
 have:=k _ [] [] (aE (s':={ s₀ with toks:=s₀.toks+1 }) ht hmu hb htx rfl rfl rfl)
 rw [hr] at this
 exact this
noncomputable def B2 (w:World) (en:ST):Base:=⟨PySem.Challenge.pw_on0051_01,w,Mine.Scr.KT0 w.params,en,EK w.params⟩
theorem vf {w:World} {h g:Nat→Nat} {s:Shared} (ht:dd (BB w h g) s) (i:Nat) {c:Cell} (e:(EN w.params h g).get i=some c):s.heap.get? c.a=some c.o:=ht.2 i c e
theorem oD {w:World} {h g:Nat→Nat} {s:Shared} (ht:dd (BB w h g) s) (a:Nat) {o:Obj} (e:(Mine.Scr.KT0 w.params).get a=some o):s.heap.get? a=some o:=ht.1 a o e
noncomputable def kY (o:Option Obj):List DictEntry:=match o with
 | some o=>match o.data with
  | .dict es _=>es.toList
  | _=>[]
 | none=>[]
noncomputable def ph (P:Params) (h g:Nat→Nat):List DictEntry:=kY (match (EN P h g).get 3 with | some c=>some c.o | none=>none)
theorem tR (P:Params) (h g:Nat→Nat):(EN P h g).get 3=some ⟨false,h 79,⟨yD,none,.dict ⟨ph P h g⟩ 28,#[]⟩⟩:=by kernel_rfl
theorem xv (P:Params) (h g:Nat→Nat):lZ P (ph P h g):=by
 iterate 28 refine ⟨⟨_,_,_,rfl⟩,?_⟩
 exact trivial
theorem bI (w:World) (h g:Nat→Nat) (s:Str) (t:Nat) (hv:findBy Value.isStrOf ⟨ph w.params h g⟩ s=some (.ref (h (xu s vK)))):(aM w.params h g s t).S.Holds (BB w h g) :=
 cF (d:=h 79) (t:=t) (s:=s) (ep:=28) (by kernel_rfl) rfl rfl rfl rfl rfl (fun _ ht _=>vf ht 3 (tR w.params h g)) (xv w.params h g) hv
noncomputable def qT (P:Params):List DictEntry:=kY ((Mine.Scr.KT0 P).get 350)
theorem yi (P:Params):(Mine.Scr.KT0 P).get 350=some ⟨yD,none,.dict ⟨qT P⟩ 10,#[]⟩:=by kernel_rfl
theorem C9 (P:Params):lZ P (qT P):=by
 have e:qT P=(qT P).map fun e=>match e.key with
  | .str s t=>eS P s t e.val
  | _=>e:=by kernel_rfl
 rw [e]
 iterate 10 refine ⟨⟨_,_,_,rfl⟩,?_⟩
 exact trivial
theorem mA (w:World) (h g:Nat→Nat) (s:Str) (t:Nat) (hv:findBy Value.isStrOf ⟨qT w.params⟩ s=some (.int (bC s bJ).1 (bC s bJ).2)):(dG w.params h g s t).S.Holds (BB w h g) :=
 cF (d:=350) (t:=t) (s:=s) (ep:=10) (by kernel_rfl) rfl rfl rfl rfl rfl (fun _ ht _=>oD ht 350 (yi w.params)) (C9 w.params) hv
theorem FS (w:World) (h g:Nat→Nat) (d:Nat) (s1 s2:Str) (t1 t2:Nat) (v1 v2:Value) (s:Str) (t:Nat) (hv:findBy Value.isStrOf #[eS w.params s1 t1 v1,eS w.params s2 t2 v2] s=some (match fe s [s1] with | true=>v1 | false=>v2)):(Bl w.params h g d s1 s2 t1 t2 v1 v2 s t).S.Holds (BB w h g) :=
 cF (d:=d) (t:=t) (s:=s) (ep:=2) (l:=[eS w.params s1 t1 v1,eS w.params s2 t2 v2]) (by kernel_rfl) rfl rfl rfl rfl rfl (fun _ _ hc=>(hc _ (.head _)).1) ⟨⟨_,_,_,rfl⟩,⟨_,_,_,rfl⟩,trivial⟩ hv
noncomputable def dM (s:Str) (v:Value):Bool:=match v with
 | .str x _=>x == s
 | _=>false
noncomputable def qO:List Value→Prop
 | []=>True
 | v::l=>(∃ x t,v=.str x t)∧qO l
theorem qO.mem:∀ {l:List Value},qO l→∀ v,v∈l→∃ x t,v=.str x t
 | d::l,h,e,he=>by
  rcases List.mem_cons.mp he with rfl | he
  ·exact h.1
  ·exact h.2.mem e he
theorem dz {B : Base} {a t : Nat} {s : Str} {l : List Value} {b : Bool} {D : RS} (hc : D.c = aP "tuple.__contains__" [.ref a, .str s t]) (hdi : D.di = false) (hmu : cC D.cells = []) (hb : D.bx = []) (htx : D.tx = [])
 (hr:D.r [] []=.ok (.ret (.bool b))) (hd:∀ s,dd B s→(∀ c,c∈D.cells→s.heap.get? c.a=some c.o∧B.Free c.a)→s.heap.get? a=some (oT l)) (hs:qO l)
 (hf:l.any (dM s)=b):D.S.Holds B:=by
 refine aj hdi fun A s₀ R hh hu _ ht hcell _ k=>?_
 rw [hc]
 have ho:=hd s₀ ht hcell
 refine ap F.slot_tuple_contains F.entry_tuple_contains (F.args_tuple_contains_2 _ _) ⟨_,ho,rfl⟩ ((tuple_containsAt a ⟨l⟩ 0 none #[] (.str s t) (dM s)).inModel _ _) ⟨ho,fun y hy=>?_,?_⟩
 ·obtain ⟨x,u,rfl⟩:=hs.mem y (by simpa using hy)
  exact EqAt.str_str x u s t
 ·have:=k _ [] [] (aE (s':=s₀) ht hmu hb htx rfl rfl rfl)
  rw [hr] at this
  simp only [List.any_toArray,hf]
  exact this
noncomputable def kO (P:Params) (a:Nat):List Value:=match (Mine.Scr.KT0 P).get a with
 | some o=>bF o
 | none=>[]
theorem lR (w:World) (h g:Nat→Nat) (a:Nat) (s:Str) (t:Nat) (hk:(Mine.Scr.KT0 w.params).get a=some (oT (kO w.params a))) (ha:qO (kO w.params a)) (hf:(kO w.params a).any (dM s)=fe s (rb a)):(iR w.params h g a s t).S.Holds (BB w h g) :=
 dz (a:=a) (t:=t) (s:=s) (l:=kO w.params a) (by kernel_rfl) rfl rfl rfl rfl rfl (fun _ ht _=>oD ht a hk) ha hf
theorem g5 (w:World) (h g:Nat→Nat) (s:Str) (t:Nat) (hf:(kO w.params 728).any (dM s)=fe s (rb 728)):(bR w.params h g s t).S.Holds (BB w h g) :=
 lR w h g 728 s t (by kernel_rfl) (by (iterate 6 refine ⟨⟨_,_,rfl⟩,?_⟩); exact trivial) hf
theorem ri (w:World) (h g:Nat→Nat) (s:Str) (t:Nat) (hf:(kO w.params 351).any (dM s)=fe s (rb 351)):(fT w.params h g s t).S.Holds (BB w h g) :=
 lR w h g 351 s t (by kernel_rfl) (by (iterate 2 refine ⟨⟨_,_,rfl⟩,?_⟩); exact trivial) hf
theorem AV (w:World) (h g:Nat→Nat) (s:Str) (t:Nat) (hf:(kO w.params 415).any (dM s)=fe s (rb 415)):(pG w.params h g s t).S.Holds (BB w h g) :=
 lR w h g 415 s t (by kernel_rfl) (by (iterate 3 refine ⟨⟨_,_,rfl⟩,?_⟩); exact trivial) hf
theorem FE (w:World) (h g:Nat→Nat) (a:Nat) (s1 s2:Str) (t1 t2:Nat) (s:Str) (t:Nat) (hf:[Value.str s1 t1,.str s2 t2].any (dM s)=fe s [s1,s2]):(DY w.params h g a s1 s2 t1 t2 s t).S.Holds (BB w h g) :=
 dz (a:=a) (t:=t) (s:=s) (l:=[.str s1 t1,.str s2 t2]) (by kernel_rfl) rfl rfl rfl rfl rfl (fun _ _ hc=>(hc _ (.head _)).1) ⟨⟨_,_,rfl⟩,⟨_,_,rfl⟩,trivial⟩ hf
theorem cP {B:Base} {D:RS} {s s':Shared} {d:Nat} {f:Obj→Obj} {o o':Obj} (ht:dd B s) (hfree:B.Free d) (hmu:cC D.cells=[d]) (hb:D.bx=[]) (htx:D.tx=[]) (ho:s.heap.get? d=some o) (hf:f o=o') (hn:o'.isFreed=false)
 (hpo:D.po [] [] CA q0=[o']) (hnw:D.nw [] []=[]) (h1:s'.heap=s.heap.update d f) (h2:s'.gens=s.gens) (h3:s'.os=s.os):After B D.S s s' [] []:=by
 have em:D.S.mu=[d]:=hmu
 have ne:∀ b,b≠d→s'.heap.get? b=s.heap.get? b:=fun b hb=>by rw [h1]; exact Heap.get?_update_ne _ _ _ _ hb
 have at_:s'.heap.get? d=some o':=by rw [h1,←hf]; exact Heap.get?_update_self f ho (by rw [hf]; exact hn)
 refine ⟨⟨fun a x h=>?_,fun i c h=>?_⟩,fun a x h q=>.inl ?_,?_,h2,h3,fun j a x h hx=>?_,fun j a o h=>by simp at h,fun a h=>by simp at h,List.nodup_nil,?_,?_⟩
 ·rw [ne a (fun e=>by subst e; have:=hfree.1; rw [h] at this; cases this)]; exact ht.1 a x h
 ·rw [ne c.a (hfree.2 i c h)]; exact ht.2 i c h
 ·rw [ne a (fun e=>q (by rw [em,e]; exact List.mem_singleton.mpr rfl))]; exact h
 ·rw [h1,Heap.size_after_update]; exact Nat.le_refl _
 ·rw [em] at h
  have hp:(D.S.po [] [])=[o']:=hpo
  rw [hp] at hx
  cases j with
  | zero =>
   simp only [List.getElem?_cons_zero,Option.some.injEq] at h hx
   subst h hx
   exact .inl at_
  | succ j=>simp at h
 ·show 0=ag D.bx; rw [hb]; rfl
 ·show 0=ag D.tx; rw [htx]; rfl
theorem zt (P:Params):((Mine.Scr.KT0 P).get sysModules).isSome=true:=by kernel_rfl
theorem qj (P:Params):∃ o,(Mine.Scr.KT0 P).get sysModules=some o:=Option.isSome_iff_exists.mp (zt P)
theorem cE {w:World} {h g:Nat→Nat} {a:Nat} (hf:(BB w h g).Free a):(a == sysModules)=false:=by
 refine beq_eq_false_iff_ne.mpr fun e=>?_
 subst e
 obtain ⟨o,ho⟩:=qj w.params
 have:=hf.1
 rw [show (BB w h g).kt.get sysModules=some o from ho] at this
 cases this
theorem nF {α:Type} (x:α) (l:List α):ag (x::l)=ag l+1:=rfl
theorem je:∀ {K:List (Nat × Value)} {e:DictEntry},e∈jn K→∃ (m t:Nat) (v:Value),m≤ag K∧e=⟨hashInt (Int.ofNat m),.int (Int.ofNat m) t,v⟩
 | [],_,h=>absurd h List.not_mem_nil
 | x::l,e,h=>by
  rcases List.mem_append.mp h with h | h
  ·obtain ⟨m,t,v,h1,h2⟩:=je h
   exact ⟨m,t,v,by rw [nF]; omega,h2⟩
  ·simp only [List.mem_singleton] at h
   exact ⟨ag l+1,x.1,x.2,Nat.le_refl _,h⟩
theorem kJ {K:List (Nat × Value)} {m:Nat} (h:ag K<m):∀ e,e∈jn K→Value.isInt (Int.ofNat m) e.key=false:=by
 intro e he
 obtain ⟨n,t,v,h1,rfl⟩:=je he
 simp only [Value.isInt]
 refine beq_eq_false_iff_ne.mpr fun e=>?_
 have:n=m:=Int.ofNat.inj e
 omega
theorem cu (m t:Nat):Value.isInt (Int.ofNat m) (.int (Int.ofNat m) t)=true:=by simp [Value.isInt]
theorem mW:∀ K:List (Nat × Value),(jn K).length=ag K
 | []=>rfl
 | x::l=>by simp only [jn,List.length_append,List.length_singleton]; rw [mW l]; rfl
theorem cJ : yD = .type "dict" := by
 unfold yD; congr 1
theorem eA {prog:Program} {w:World} {hp:Heap} {a:Addr} {K:List (Nat × Value)} {n:Nat} (h:hp.get? a=some (oK n K)):hp.MapOf (intKind prog w) a (findBy (intKind prog w).is ⟨jn K⟩):=by
 refine ⟨_,⟨jn K⟩,n,h,⟨cJ,rfl,rfl⟩,rfl,fun e he=>?_,fun _=>rfl⟩
 obtain ⟨m,t,v,_,rfl⟩:=je (by simpa using he)
 exact ⟨Int.ofNat m,cu m t,rfl⟩
theorem k7 (K:List (Nat × Value)) (x:Nat × Value):findBy Value.isInt ⟨jn (x::K)⟩ (Int.ofNat (ag K+1))=some x.2:=by
 have h:(jn K).find? (fun e=>Value.isInt (Int.ofNat (ag K+1)) e.key)=none:=List.find?_eq_none.mpr fun e he=>by rw [kJ (Nat.lt_succ_self _) e he]; exact Bool.false_ne_true
 simp only [findBy,List.find?_toArray,jn,List.find?_append,h,Option.none_or]
 simp [Value.isInt]
theorem Ao (w:World) (h g:Nat→Nat) (n:Nat) (K:List (Nat × Value)) (x:Nat × Value) (t:Nat) (hK:ag K=n):(aS w.params h g n K x t).S.Holds (BB w h g):=by
 refine aj rfl fun A s₀ R hh hu _ ht hcell _ k=>?_
 have ho:=(hcell _ (.head _)).1
 have hm:=eA (prog:=(BB w h g).prog) (w:=w) ho
 refine ap slot_dict_getitem entry_dict_getitem (args_dict_getitem _ _) hm.typeIs (meets_dict_getitem (intKind (BB w h g).prog w) (h 70) (k:=Int.ofNat (n+1)) (key:=.int (Int.ofNat (n+1)) t) (cu (n+1) t)) ⟨_,x.2,hm,by rw [← hK]; exact k7 K x,?_⟩
 exact k _ [] [] (aE (s':={ s₀ with toks:=s₀.toks+1 }) ht rfl rfl rfl rfl rfl rfl)
theorem CN (w:World) (h g:Nat→Nat) (n:Nat) (K:List (Nat × Value)) (x:Nat × Value) (t:Nat) (hK:ag K=n):(aT w.params h g n K x t).S.Holds (BB w h g):=by
 refine aj rfl fun A s₀ R hh hu _ ht hcell _ k=>?_
 obtain ⟨ho,hf⟩:=hcell _ (.head _)
 have hm:=eA (prog:=(BB w h g).prog) (w:=w) ho
 refine ap slot_dict_contains entry_dict_contains (args_dict_contains _ _) hm.typeIs (meets_dict_contains (intKind (BB w h g).prog w) (h 70) (k:=Int.ofNat (n+1)) (key:=.int (Int.ofNat (n+1)) t) (cu (n+1) t) (cE hf)) ⟨_,hm,?_⟩
 have e:findBy (intKind (BB w h g).prog w).is ⟨jn (x::K)⟩ (Int.ofNat (n+1))=some x.2:=by rw [← hK]; exact k7 K x
 rw [e]
 exact k _ [] [] (aE (s':={ s₀ with toks:=s₀.toks+1 }) ht rfl rfl rfl rfl rfl rfl)
theorem BD (w:World) (h g:Nat→Nat) (n:Nat) (K:List (Nat × Value)) (t:Nat) (v:Value) (hK:ag K=n) (hn:n≤1000):(mF w.params h g n K t v).S.Holds (BB w h g):=by
 refine aj rfl fun A s₀ R hh hu _ ht hcell _ k=>?_
 obtain ⟨ho,hf⟩:=hcell _ (.head _)
 have ho:s₀.heap.get? (h 70)=some (oK n K):=ho
 have hm:=eA (prog:=(BB w h g).prog) (w:=w) ho
 have hkey:(intKind (BB w h g).prog w).is (Int.ofNat (n+1)) (.int (Int.ofNat (n+1)) t)=true:=cu (n+1) t
 have hk:KeysOf (intKind (BB w h g).prog w) ⟨jn K⟩:=by
  obtain ⟨o,es,ep,h1,_,h3,h4,_⟩:=hm
  rw [ho] at h1
  cases h1
  cases h3
  exact h4
 refine codeAny_call_builtin slot_dict_setitem.plain entry_dict_setitem (slot_dict_setitem.check _ _ _ _ _ _ _ _ hm.typeIs (args_dict_setitem _ _ _) ?_)
 show wpAny _ _ (Builtin.Dict.notOrdered "__setitem__" ⟨[.ref (h 70), .int (Int.ofNat (n + 1)) t, v], []⟩ >>= fun _ => dictSet (h 70) (.int (Int.ofNat (n + 1)) t) v >>= fun _ => ret .none) _ _ _
 refine wpAny_bind (wpAny_notOrdered_dict hm.typeIs ?_)
 refine wpAny_bind ?_
 unfold dictSet
 try with_reducible refine wpAny_holding ?_
 refine wpAny_bind ((intKind (BB w h g).prog w).pyHash hkey ?_)
 unfold dictSetHashed
 try with_reducible refine wpAny_holding ?_
 refine wpAny_bind (wpAny_dictFind_of (s:={ s₀ with toks:=s₀.toks+1 }) hkey ho rfl hk ?_)
 have hi:(⟨jn K⟩:Array DictEntry).findIdx? (fun e=>(intKind (BB w h g).prog w).is (Int.ofNat (n+1)) e.key)=none:=by
  simp only [List.findIdx?_toArray]
  exact List.findIdx?_eq_none_iff.mpr fun e he=>kJ (by omega) e he
 rw [hi]
 have hsz:(⟨jn K⟩:Array DictEntry).size≤sizeLine:=by
  show (jn K).length≤sizeLine
  rw [mW,hK]
  exact Nat.le_trans hn (by decide)
 refine wpAny_bind (wpAny_rule (wpAny_updateDictKeys (hz:=hsz) (s:={ s₀ with toks:=s₀.toks+1 }) ho rfl ?_))
 refine wpAny_pure ?_
 refine k _ [] [] (cP (d:=h 70) (o:=oK n K) (o':=oK (n+1) ((t,v)::K)) ht hf rfl rfl rfl ho ?_ rfl rfl rfl rfl rfl rfl)
 show (⟨yD,none,.dict ((⟨jn K⟩:Array DictEntry).push ⟨hashInt (Int.ofNat (n+1)),.int (Int.ofNat (n+1)) t,v⟩) (n+1),#[]⟩:Obj)=_
 simp only [oK,jn,List.push_toArray,hK]
end
section
open PySem.SeqAt
theorem s6 (P:Params):(kY ((Mine.Scr.KT0 P).get sysModules)).isEmpty=false:=by kernel_rfl
theorem uO (P:Params) (h g:Nat→Nat):(EN P h g).get 7=some ⟨false,h 75,rv 0⟩:=by kernel_rfl
theorem yG (w:World) (h g:Nat→Nat) (i:Int) (t t2:Nat) (s:Str):(lr w.params h g i t t2 s).S.Holds (BB w h g):=by
 refine aj rfl fun A s₀ R hh hu _ ht hcell _ k=>?_
 have ho:s₀.heap.get? (h 75)=some (rv 0):=vf ht 7 (uO _ _ _)
 have hne:(h 75 == sysModules)=false:=by
  refine beq_eq_false_iff_ne.mpr fun e=>?_
  obtain ⟨o,e1⟩:=qj w.params
  have e2:=oD ht sysModules e1
  have e3:=s6 w.params
  rw [← e,ho] at e2
  rw [e1,←Option.some.inj e2] at e3
  cases e3
 have hm:s₀.heap.MapOf (intKind (BB w h g).prog w) (h 75) (fun _=>none):=⟨_,#[],0,ho,⟨cJ,rfl,rfl⟩,rfl,fun e he=>by simp at he,fun _=>rfl⟩
 refine ap F.slot_dict_get F.entry_dict_get (F.args_dict_get_3 _ _ _) hm.typeIs (meets_dict_get_default (intKind (BB w h g).prog w) (h 75) (k:=i) (key:=.int i t) (by show Value.isInt i (.int i t)=true; simp [Value.isInt]) hne (.str s t2)) ⟨_,hm,?_⟩
 exact k _ [] [] (aE (s':={ s₀ with toks:=s₀.toks+1 }) ht rfl rfl rfl rfl rfl rfl)
theorem Dc (w:World) (h g:Nat→Nat) (en e:Nat):(jL w.params h g en e).S.Holds (BB w h g):=by
 refine aj rfl fun A s₀ R hh hu _ ht hcell _ k=>?_
 obtain ⟨ho,hf⟩:=hcell _ (.head _)
 have hm:s₀.heap.DictOf (intKind (BB w h g).prog w) en []:=⟨_,#[],e,ho,⟨cJ,rfl,rfl⟩,rfl,fun e he=>by simp at he,Pairs.nil,List.nodup_nil⟩
 refine ap F.slot_dict_len F.entry_dict_len (F.args_dict_len_1 _) ⟨_,ho,cJ⟩ (meets_dict_len (intKind (BB w h g).prog w) en (cE hf)) ⟨_,hm,?_⟩
 refine k { s₀ with toks:=s₀.toks+1 } [] [s₀.toks] ⟨ht,fun a o h _=>.inl h,Nat.le_refl _,rfl,rfl,fun j a o hj=>?_,fun j a o hj=>by simp at hj,fun a hj=>by simp at hj,List.nodup_nil,rfl,rfl⟩
 have:(cC (jL w.params h g en e).cells)[j]?=some a:=hj
 rw [show cC (jL w.params h g en e).cells=[] from rfl] at this
 simp at this
noncomputable def uH (k:Sum Str Int) (v:Value):Bool:=match k with
 | .inl s=>Value.isStrOf s v
 | .inr i=>Value.isInt i v
noncomputable def x6 (w:World) (k:Sum Str Int):Int:=match k with
 | .inl s=>hashStr w s
 | .inr i=>hashInt i
noncomputable def bH (prog:Program) (w:World):KeyKind prog w (Sum Str Int) where
 is:=uH
 hash:=x6 w
 inj:=fun v a b ha hb=>by
  cases a with
  | inl a =>
   obtain ⟨t,rfl⟩:=Value.isStrOf_shape (x:=a) ha
   cases b with
   | inl b=>exact congrArg _ (Value.isStrOf_inj (.str a t) _ _ ha hb)
   | inr b=>exact absurd hb (by simp [uH,Value.isInt])
  | inr a =>
   obtain ⟨t,rfl⟩:=Value.isInt_shape (k:=a) ha
   cases b with
   | inl b=>exact absurd hb (by simp [uH,Value.isStrOf])
   | inr b=>exact congrArg _ (Value.isInt_inj (.int a t) _ _ ha hb)
 byValue:=fun k v h=>by
  cases k with
  | inl k=>exact (strKind prog w).byValue k v h
  | inr k=>exact (intKind prog w).byValue k v h
 pyHash:=fun {A E s k v Q} hv h=>by
  cases k with
  | inl k=>exact (strKind prog w).pyHash hv h
  | inr k=>exact (intKind prog w).pyHash hv h
 eqBool:=fun {A E s a b u v Q} hu hv h=>by
  cases a with
  | inl a =>
   obtain ⟨t,rfl⟩:=Value.isStrOf_shape (x:=a) hu
   cases b with
   | inl b=>exact (strKind prog w).eqBool (a:=a) (b:=b) hu hv (by simpa using h)
   | inr b =>
    obtain ⟨t',rfl⟩:=Value.isInt_shape (k:=b) hv
    exact EqAt.str_int a t b t' prog w _ _ (by simpa using h)
  | inr a =>
   obtain ⟨t,rfl⟩:=Value.isInt_shape (k:=a) hu
   cases b with
   | inl b =>
    obtain ⟨t',rfl⟩:=Value.isStrOf_shape (x:=b) hv
    exact EqAt.int_str a t b t' prog w _ _ (by simpa using h)
   | inr b=>exact (intKind prog w).eqBool (a:=a) (b:=b) hu hv (by simpa using h)
 «strs»:=fun k x t v h=>by
  cases k with
  | inl k=>exact (strKind prog w).strs k x t v h
  | inr k=>exact absurd h (by simp [uH,Value.isInt])
noncomputable abbrev db (k:Int):List (Sum Str Int):=[.inl Q1,.inr k]
theorem mg : yT = .type "tuple" := by
 unfold yT; congr 1
theorem cp {prog:Program} {w:World} {hp:Heap} {mk t1 t2:Nat} {k:Int} (ho:hp.get? mk=some (nK t1 t2 k)):(tupleKind (bH prog w)).is hp (db k) mk :=
 ⟨_,_,0,ho,mg,rfl,.cons (by show Value.isStrOf Q1 (.str Q1 t1)=true; simp [Value.isStrOf]) (.cons (by show Value.isInt k (.int k t2)=true; simp [Value.isInt]) .nil)⟩
theorem q8 {prog:Program} {w:World} {hp:Heap} {en mk t1 t2:Nat} {k:Int} {v:Value} (ho:hp.get? en=some (pg w.params k mk v)) (hk:hp.get? mk=some (nK t1 t2 k)):hp.DictOfH (tupleKind (bH prog w)) en [(db k,mk,v)] :=
 ⟨_,_,1,ho,⟨cJ,rfl,rfl⟩,rfl,rfl,fun x hx=>by obtain rfl:=List.mem_singleton.mp hx; exact cp hk,by simp⟩
theorem xh {prog:Program} {w:World} {hp:Heap} {en e:Nat} (ho:hp.get? en=some (rv e)):hp.DictOfH (tupleKind (bH prog w)) en [] :=
 ⟨_,_,e,ho,⟨cJ,rfl,rfl⟩,rfl,rfl,fun x hx=>by simp at hx,by simp⟩
theorem F4 (w:World) (h g:Nat→Nat) (en mk t1 t2:Nat) (k:Int):(rA w.params h g en mk t1 t2 k).S.Holds (BB w h g):=by
 refine aj rfl fun A s₀ R hh hu _ ht hcell _ kk=>?_
 obtain ⟨ho,hf⟩:=hcell _ (.head _)
 obtain ⟨hk,_⟩:=hcell _ (.tail _ (.head _))
 have hm:=xh (prog:=(BB w h g).prog) (w:=w) ho
 refine ap F.slot_dict_get F.entry_dict_get (F.args_dict_get_2 _ _) ⟨_,ho,cJ⟩ (meetsH_dict_get (tupleKind (bH (BB w h g).prog w)) en mk (cE hf)) ⟨?_,db k,_,cp hk,hm,?_⟩
 ·show A.units+1<cLine
  have:(rA w.params h g en mk t1 t2 k).lv=60:=rfl
  unfold cLine; omega
 ·exact kk _ [] [] (aE (s':={ s₀ with toks:=s₀.toks+3 }) ht rfl rfl rfl rfl rfl rfl)
theorem Fy (w:World) (h g:Nat→Nat) (en mk t1 t2 mk' t1' t2':Nat) (k:Int) (v:Value):(tA w.params h g en mk t1 t2 mk' t1' t2' k v).S.Holds (BB w h g):=by
 refine aj rfl fun A s₀ R hh hu _ ht hcell _ kk=>?_
 obtain ⟨ho,hf⟩:=hcell _ (.head _)
 obtain ⟨hk,_⟩:=hcell _ (.tail _ (.head _))
 obtain ⟨hk',_⟩:=hcell _ (.tail _ (.tail _ (.head _)))
 have hm:=q8 (prog:=(BB w h g).prog) (w:=w) ho hk
 refine ap F.slot_dict_get F.entry_dict_get (F.args_dict_get_2 _ _) ⟨_,ho,cJ⟩ (meetsH_dict_get (tupleKind (bH (BB w h g).prog w)) en mk' (cE hf)) ⟨?_,db k,_,cp hk',hm,?_⟩
 ·show A.units+1<cLine
  have:(tA w.params h g en mk t1 t2 mk' t1' t2' k v).lv=60:=rfl
  unfold cLine; omega
 ·have:((atKey [(db k,mk,v)] (db k)).map (·.2)).getD .none=v:=by simp [atKey]
  rw [this]
  exact kk _ [] [] (aE (s':={ s₀ with toks:=s₀.toks+3 }) ht rfl rfl rfl rfl rfl rfl)
theorem Fu (w:World) (h g:Nat→Nat) (en mk t1 t2 mk' t1' t2':Nat) (k k':Int) (v:Value) (hne:k≠k'):(uP w.params h g en mk t1 t2 mk' t1' t2' k k' v).S.Holds (BB w h g):=by
 refine aj rfl fun A s₀ R hh hu _ ht hcell _ kk=>?_
 obtain ⟨ho,hf⟩:=hcell _ (.head _)
 obtain ⟨hk,_⟩:=hcell _ (.tail _ (.head _))
 obtain ⟨hk',_⟩:=hcell _ (.tail _ (.tail _ (.head _)))
 have hm:=q8 (prog:=(BB w h g).prog) (w:=w) ho hk
 refine ap F.slot_dict_get F.entry_dict_get (F.args_dict_get_2 _ _) ⟨_,ho,cJ⟩ (meetsH_dict_get (tupleKind (bH (BB w h g).prog w)) en mk' (cE hf)) ⟨?_,db k',_,cp hk',hm,?_⟩
 ·show A.units+1<cLine
  have:(uP w.params h g en mk t1 t2 mk' t1' t2' k k' v).lv=60:=rfl
  unfold cLine; omega
 ·have:((atKey [(db k,mk,v)] (db k')).map (·.2)).getD .none=.none:=by simp [atKey,hne]
  rw [this]
  exact kk _ [] [] (aE (s':={ s₀ with toks:=s₀.toks+3 }) ht rfl rfl rfl rfl rfl rfl)
theorem Fp (w:World) (h g:Nat→Nat) (en mk t1 t2:Nat) (k:Int) (v:Value):(sD w.params h g en mk t1 t2 k v).S.Holds (BB w h g):=by
 refine aj rfl fun A s₀ R hh hu _ ht hcell _ kk=>?_
 obtain ⟨ho,hf⟩:=hcell _ (.head _)
 obtain ⟨hk,_⟩:=hcell _ (.tail _ (.head _))
 have ho:s₀.heap.get? en=some (rv 0):=ho
 have hT : s₀.TypeIs (.ref en) "dict" := ⟨_, ho, cJ⟩
 have hkey:=cp (prog:=(BB w h g).prog) (w:=w) hk
 have hroom:(tupleKind (bH (BB w h g).prog w)).room A.in1:=by
  show A.units+1<cLine
  have:(sD w.params h g en mk t1 t2 k v).lv=60:=rfl
  unfold cLine; omega
 refine codeAny_call_builtin slot_dict_setitem.plain entry_dict_setitem (slot_dict_setitem.check _ _ _ _ _ _ _ _ hT (args_dict_setitem _ _ _) ?_)
 show wpAny _ _ (Builtin.Dict.notOrdered "__setitem__" ⟨[.ref en, .ref mk, v], []⟩ >>= fun _ => dictSet en (.ref mk) v >>= fun _ => ret .none) _ _ _
 refine wpAny_bind (wpAny_notOrdered_dict hT ?_)
 refine wpAny_bind ?_
 unfold dictSet
 try with_reducible refine wpAny_holding ?_
 refine wpAny_bind ((tupleKind (bH (BB w h g).prog w)).pyHash hroom hkey ?_)
 unfold dictSetHashed
 try with_reducible refine wpAny_holding ?_
 refine wpAny_bind (wpAny_dictFind_heap (knd:=tupleKind (bH (BB w h g).prog w)) (xs:=[]) hroom hkey ho rfl rfl (fun x hx=>by simp at hx) (by simp) (fun _=>?_) (fun j p hj=>by simp at hj))
 refine wpAny_bind (wpAny_rule (wpAny_updateDictKeys (hz:=by show (0:Nat)≤sizeLine; exact Nat.zero_le _) ho rfl ?_))
 refine wpAny_pure ?_
 exact kk _ [] [] (cP (d:=en) (o:=rv 0) (o':=pg w.params k mk v) ht hf rfl rfl rfl ho rfl rfl rfl rfl rfl rfl rfl)
theorem FD (w:World) (h g:Nat→Nat) (en mk t1 t2 mk' t1' t2':Nat) (k:Int) (v:Value):(uV w.params h g en mk t1 t2 mk' t1' t2' k v).S.Holds (BB w h g):=by
 refine aj rfl fun A s₀ R hh hu _ ht hcell _ kk=>?_
 obtain ⟨ho,hf⟩:=hcell _ (.head _)
 obtain ⟨hk,_⟩:=hcell _ (.tail _ (.head _))
 obtain ⟨hk',_⟩:=hcell _ (.tail _ (.tail _ (.head _)))
 have ho:s₀.heap.get? en=some (pg w.params k mk v):=ho
 have hT : s₀.TypeIs (.ref en) "dict" := ⟨_, ho, cJ⟩
 have hkey:=cp (prog:=(BB w h g).prog) (w:=w) hk'
 have hroom:(tupleKind (bH (BB w h g).prog w)).room A.in1:=by
  show A.units+1<cLine
  have:(uV w.params h g en mk t1 t2 mk' t1' t2' k v).lv=60:=rfl
  unfold cLine; omega
 refine codeAny_call_builtin F.slot_dict_pop.plain F.entry_dict_pop (F.slot_dict_pop.check _ _ _ _ _ _ _ _ hT (F.args_dict_pop_3 _ _ _) ?_)
 show wpAny _ _ (Builtin.«dict.pop» ⟨[.ref en,.ref mk',.none],[]⟩) _ _ _
 unfold Builtin.«dict.pop»
 refine wpAny_bind ?_
 unfold Builtin.Dict.keyAndDefault
 refine wpAny_bind (wpAny_notOrdered_dict hT ?_)
 show wpAny _ _ (pure (en,Value.ref mk',some Value.none)) _ _ _
 refine wpAny_pure ?_
 show wpAny _ _ (dictEntries en >>= _) _ _ _
 refine wpAny_bind (wpAny_dictEntries ho rfl ?_)
 refine wpAny_bind (wpAny_pure ?_)
 show wpAny _ _ (Builtin.Dict.takeOut en (.ref mk') >>= _) _ _ _
 refine wpAny_bind ?_
 unfold Builtin.Dict.takeOut
 try with_reducible refine wpAny_holding ?_
 refine wpAny_bind ((tupleKind (bH (BB w h g).prog w)).pyHash hroom hkey ?_)
 refine wpAny_bind (wpAny_dictFind_heap (knd:=tupleKind (bH (BB w h g).prog w)) (xs:=[(db k,mk,v)]) hroom hkey ho rfl rfl (fun x hx=>by obtain rfl:=List.mem_singleton.mp hx; exact cp hk) (by simp) (fun hn=>absurd rfl (hn 0 (mk,v))) (fun j p hj=>?_))
 have hj0:j=0:=by
  cases j with
  | zero=>rfl
  | succ j=>simp at hj
 subst hj0
 refine wpAny_bind (wpAny_dictEntries ho rfl ?_)
 show wpAny _ _ (updateDictKeys en (·.eraseIdxIfInBounds 0) (keyPart (.ref mk')) >>= _) _ _ _
 refine wpAny_bind (wpAny_updateDictKeys (hz:=by show (1:Nat)≤sizeLine; decide) ho rfl ?_ (by show _≤_; simp [Array.eraseIdxIfInBounds]))
 refine wpAny_pure ?_
 refine wpAny_bind (wpAny_letGo (wpAny_pure ?_))
 exact kk _ [] [] (cP (d:=en) (o:=pg w.params k mk v) (o':=rv 2) ht hf rfl rfl rfl ho (by simp [Obj.mapDictKeys,Array.eraseIdxIfInBounds]) rfl rfl rfl rfl rfl rfl)
end
section
open PySem.SeqAt
inductive EqD:DT→DT→Bool→Prop
 | same (x:Value):EqD (.v x) (.v x) true
 | int (i j:Int) (t u:Nat) (b:Bool) (h:decide (i=j)=b):EqD (.v (.int i t)) (.v (.int j u)) b
 | str (i j:Str) (t u:Nat) (b:Bool) (h:(i == j)=b):EqD (.v (.str i t)) (.v (.str j u)) b
 | bytes (i j:Array UInt8) (t u:Nat) (b:Bool) (h:(i.toList == j.toList)=b):EqD (.v (.bytes i t)) (.v (.bytes j u)) b
 | bool (i j b:Bool) (h:(i == j)=b):EqD (.v (.bool i)) (.v (.bool j)) b
 | nil (k:Bool) (a a' e e':Nat):EqD (.s k a e []) (.s k a' e' []) true
 | one (k:Bool) (a a' e e':Nat) (x y:DT) (l l':List DT) (b:Bool) (h1:EqD x y true) (h2:EqD (.s k a e l) (.s k a' e' l') b):EqD (.s k a e (x::l)) (.s k a' e' (y::l')) b
 | off (k:Bool) (a a' e e':Nat) (x y:DT) (l l':List DT) (b:Bool) (h1:EqD x y false) (h2:EqD (.s k a e l) (.s k a' e' l') b):EqD (.s k a e (x::l)) (.s k a' e' (y::l')) false
inductive EqP:List DT→List DT→Prop
 | left (x:DT) (l:List DT):EqP (x::l) []
 | right (y:DT) (l:List DT):EqP [] (y::l)
 | one (x y:DT) (l l':List DT) (b:Bool) (h1:EqD x y b) (h2:EqP l l'):EqP (x::l) (y::l')
theorem dN {prog:Program} {w:World} {A:Around} {E:Value→Shared→Prop} {s:Shared} {a b:Array UInt8} {t u:Tok} {Q:Bool→Shared→Prop} (h:Q (a.toList == b.toList) s) :
 wpAny (model prog w) A (eqBool (.bytes a t) (.bytes b u)) Q E s:=by
 unfold eqBool
 show wpAny _ _ (if (Value.bytes a t == Value.bytes b u)=true then _ else _) Q E s
 by_cases hab:(Value.bytes a t == Value.bytes b u)=true
 ·rw [if_pos hab]
  have e:a=b:=by have:=eq_of_beq hab; injection this
  subst e
  exact wpAny_bind (wpAny_rule (wpAny_pure (by simpa using h)))
 ·rw [if_neg hab]
  exact wpAny_bind (richCompare_gives (op := .Eq) (T := "bytes") rfl rfl FB.slot_bytes_eq FB.entry_bytes_eq (FB.args_bytes_eq_2 _ _) (PySem.W.gives_bytes_eq a b t u) (fun x => nomatch x) (wpAny_truthy_bool h))
mutual
noncomputable def DT.dep:DT→Nat
 | .v _=>0
 | .s _ _ _ l=>cm l+1
noncomputable def cm:List DT→Nat
 | []=>0
 | d::l=>max d.dep (cm l)
end
theorem dJ:∀ {l:List DT} {x:DT},x∈l→x.dep≤cm l
 | d::l,x,h=>by
  simp only [cm]
  rcases List.mem_cons.mp h with rfl | h
  ·exact Nat.le_max_left _ _
  ·exact Nat.le_trans (dJ h) (Nat.le_max_right _ _)
theorem bB (d:DT) (l:List DT):aQ (d::l)=d.cells ++ aQ l:=by kernel_rfl
theorem bg {l:List DT} {x:DT} {c:Cell} (h:x∈l) (hc:c∈x.cells):c∈aQ l:=by
 induction l with
 | nil=>cases h
 | cons d l ih =>
  rw [bB]
  rcases List.mem_cons.mp h with rfl | h
  ·exact List.mem_append_left _ hc
  ·exact List.mem_append_right _ (ih h)
theorem bb:∀ l:List DT,aK l=l.map DT.val
 | []=>rfl
 | d::l=>by simp only [aK,List.map_cons]; rw [bb l]
noncomputable def bV (k:Bool) (e:Nat) (l:List DT):Obj:=match k with
 | true=>oT (aK l)
 | false=>oL e (aK l)
theorem mC (k:Bool) (e:Nat) (l:List DT):bF (bV k e l)=aK l:=by cases k <;> rfl
theorem bL (k:Bool) (a e:Nat) (l:List DT):(DT.s k a e l).cells=⟨false,a,bV k e l⟩::aQ l:=by
 cases k <;> kernel_rfl
theorem EqD.items {k:Bool} {a a' e e':Nat}:∀ {l l':List DT} {b:Bool},EqD (.s k a e l) (.s k a' e' l') b→l.length=l'.length∧∃ bs:Nat→Bool,(∀ j (h1:j<l.length) (h2:j<l'.length),EqD l[j] l'[j] (bs j))∧b=(List.range l.length).all bs
 | [],[],b,h=>by cases h; exact ⟨rfl,fun _=>true,(fun j h1 _=>absurd h1 (Nat.not_lt_zero _)),rfl⟩
 | x::l,y::l',b,h=>by
  have step:∀ (c d:Bool),EqD x y c→EqD (.s k a e l) (.s k a' e' l') d→(x::l).length=(y::l').length∧∃ bs:Nat→Bool,(∀ j (h1:j<(x::l).length) (h2:j<(y::l').length),EqD (x::l)[j] (y::l')[j] (bs j))∧(c && d)=(List.range (x::l).length).all bs:=by
   intro c d hc hd
   obtain ⟨h1,bs,h2,h3⟩:=EqD.items hd
   refine ⟨by simp [h1],fun j=>match j with | 0=>c | j+1=>bs j,fun j q1 q2=>?_,?_⟩
   ·cases j with
    | zero=>exact hc
    | succ j=>exact h2 j (by simpa using q1) (by simpa using q2)
   ·rw [List.length_cons,List.range_succ_eq_map,List.all_cons,List.all_map,h3]
    rfl
  cases h with
  | one =>
   rename_i h1 h2
   simpa using step true b h1 h2
  | off =>
   rename_i d h1 h2
   simpa using step false d h1 h2
 | [],_::_,_,h=>by cases h
 | _::_,[],_,h=>by cases h
noncomputable def be (s:Shared) (l:List Cell):Prop:=∀ c,c∈l→s.heap.get? c.a=some c.o
theorem EqD.refl {s:Shared}:∀ (n:Nat) {X Y:DT} {b:Bool},X.dep≤n→EqD X Y b→be s X.cells→be s Y.cells→X.val=Y.val→b=true:=by
 intro n
 induction n with
 | zero =>
  intro X Y b hn h hX hY e
  cases h with
  | same=>rfl
  | int i j t u _ h=>cases e; simpa using h.symm
  | str i j t u _ h=>cases e; simpa using h.symm
  | bytes i j t u _ h=>cases e; simpa using h.symm
  | bool i j _ h=>cases e; simpa using h.symm
  | nil=>rfl
  | one=>simp [DT.dep] at hn
  | off=>simp [DT.dep] at hn
 | succ n ih =>
  intro X Y b hn h hX hY e
  have seq:∀ (k:Bool) (a a' e₁ e₂:Nat) (l l':List DT),X=.s k a e₁ l→Y=.s k a' e₂ l'→b=true:=by
   rintro k a a' e₁ e₂ l l' rfl rfl
   obtain ⟨h1,bs,h2,rfl⟩:=h.items
   have ea:a=a':=by
    have:Value.ref a=.ref a':=e
    injection this
   subst ea
   rw [bL] at hX hY
   have o1:=hX _ (.head _)
   have o2:=hY _ (.head _)
   rw [show s.heap.get? a=some (bV k e₂ l') from o2] at o1
   have eo:=Option.some.inj o1
   have ev:aK l=aK l':=by
    have:=congrArg bF eo
    rw [mC,mC] at this
    exact this.symm
   rw [bb,bb] at ev
   rw [List.all_eq_true]
   intro j hj
   have hj:j<l.length:=List.mem_range.mp hj
   have hj':j<l'.length:=h1▸hj
   refine ih (X:=l[j]) (Y:=l'[j]) ?_ (h2 j hj hj') (fun c hc=>hX c (.tail _ (bg (List.getElem_mem hj) hc))) (fun c hc=>hY c (.tail _ (bg (List.getElem_mem hj') hc))) ?_
   ·have:=dJ (List.getElem_mem hj)
    simp only [DT.dep] at hn
    omega
   ·have:=congrArg (fun l=>l[j]?) ev
    simpa [hj,hj'] using this
  cases h with
  | same=>rfl
  | int i j t u _ h=>cases e; simpa using h.symm
  | str i j t u _ h=>cases e; simpa using h.symm
  | bytes i j t u _ h=>cases e; simpa using h.symm
  | bool i j _ h=>cases e; simpa using h.symm
  | nil=>rfl
  | one k a a' e₁ e₂ x y l l' _ h1 h2=>exact seq k a a' e₁ e₂ _ _ rfl rfl
  | off k a a' e₁ e₂ x y l l' _ h1 h2=>exact seq k a a' e₁ e₂ _ _ rfl rfl
theorem i8 {s:Shared} {a e:Nat} {l:List DT} (h:s.heap.get? a=some (bV false e l)):s.heap.IsList a (aK l).toArray:=⟨_,h,by show yL=_; unfold yL; congr 1,e,rfl⟩
theorem g7 {s:Shared} {a e:Nat} {l:List DT} (h:s.heap.get? a=some (bV true e l)):s.heap.IsTuple a (aK l).toArray:=⟨_,h,mg,0,rfl⟩
theorem EqD.at {s:Shared}:∀ (n:Nat) {X Y:DT} {b:Bool} {A:Around},X.dep≤n→EqD X Y b→be s X.cells→be s Y.cells→A.units+n<cLine→EqAt A s X.val Y.val b:=by
 intro n
 induction n with
 | zero =>
  intro X Y b A hn h hX hY hu
  cases h with
  | same x=>exact EqAt.same x
  | int i j t u _ h=>rw [← h]; exact EqAt.int_int i t j u
  | str i j t u _ h=>rw [← h]; exact EqAt.str_str i t j u
  | bytes i j t u _ h=>rw [← h]; exact fun prog w E Q hq=>dN hq
  | bool i j _ h=>rw [← h]; exact EqAt.bool_bool i j
  | nil=>simp [DT.dep,cm] at hn
  | one=>simp [DT.dep] at hn
  | off=>simp [DT.dep] at hn
 | succ n ih =>
  intro X Y b A hn h hX hY hu
  have seq:∀ (k:Bool) (a a' e₁ e₂:Nat) (l l':List DT),X=.s k a e₁ l→Y=.s k a' e₂ l'→EqAt A s X.val Y.val b:=by
   rintro k a a' e₁ e₂ l l' rfl rfl
   by_cases ea:a=a'
   ·have hb:=EqD.refl _ (Nat.le_refl _) h hX hY (congrArg Value.ref ea)
    subst ea hb
    exact EqAt.same _
   ·obtain ⟨h1,bs,h2,rfl⟩:=h.items
    rw [bL] at hX hY
    have o1:=hX _ (.head _)
    have o2:=hY _ (.head _)
    have he:∀ j (h1:j<(aK l).toArray.size) (h2:j<(aK l').toArray.size),EqAt A.in1 s (aK l).toArray[j] (aK l').toArray[j] (bs j):=by
     intro j q1 q2
     have hj:j<l.length:=by simpa [bb] using q1
     have hj':j<l'.length:=by simpa [bb] using q2
     have:=ih (X:=l[j]) (Y:=l'[j]) (A:=A.in1) (by have:=dJ (List.getElem_mem hj); simp only [DT.dep] at hn; omega) (h2 j hj hj') (fun c hc=>hX c (.tail _ (bg (List.getElem_mem hj) hc))) (fun c hc=>hY c (.tail _ (bg (List.getElem_mem hj') hc))) (by show A.units+1+n<cLine; omega)
     simpa [bb] using this
    have hsz:(aK l).toArray.size=(aK l').toArray.size:=by simp [bb,h1]
    have el:l.length=(aK l).toArray.size:=by simp [bb]
    refine EqAt.of_refs ea ?_
    cases k with
    | false =>
     rw [el]
     exact RcAt.lists (i8 o1) (i8 o2) hsz (by omega) he
    | true =>
     have r:=RcAt.tuples (g7 (e:=e₁) o1) (g7 (e:=e₂) o2) (by omega) he
     rw [hsz,Nat.min_self,←hsz,←el] at r
     simpa using r
  cases h with
  | same x=>exact EqAt.same x
  | int i j t u _ h=>rw [← h]; exact EqAt.int_int i t j u
  | str i j t u _ h=>rw [← h]; exact EqAt.str_str i t j u
  | bytes i j t u _ h=>rw [← h]; exact fun prog w E Q hq=>dN hq
  | bool i j _ h=>rw [← h]; exact EqAt.bool_bool i j
  | nil k a a' e₁ e₂=>exact seq k a a' e₁ e₂ _ _ rfl rfl
  | one k a a' e₁ e₂ x y l l' _ h1 h2=>exact seq k a a' e₁ e₂ _ _ rfl rfl
  | off k a a' e₁ e₂ x y l l' _ h1 h2=>exact seq k a a' e₁ e₂ _ _ rfl rfl
theorem EqP.items:∀ {l l':List DT},EqP l l'→l.length≠l'.length∧∃ bs:Nat→Bool,∀ j (h1:j<l.length) (h2:j<l'.length),EqD l[j] l'[j] (bs j)
 | _,_,.left x l=>⟨by simp,fun _=>true,fun j _ h2=>absurd h2 (Nat.not_lt_zero _)⟩
 | _,_,.right y l=>⟨by simp,fun _=>true,fun j h1 _=>absurd h1 (Nat.not_lt_zero _)⟩
 | _,_,.one x y l l' b h1 h2=>by
  obtain ⟨q1,bs,q2⟩:=h2.items
  refine ⟨by simpa using q1,fun j=>match j with | 0=>b | j+1=>bs j,fun j r1 r2=>?_⟩
  cases j with
  | zero=>exact h1
  | succ j=>exact q2 j (by simpa using r1) (by simpa using r2)
theorem bP:∀ (i:Nat) (l:List Cell),bo [] i l=l
 | _,[]=>rfl
 | i,c::l=>by
  show c::bo [] (i+1) l=c::l
  rw [bP]
theorem rT : iy false false = "list.__eq__" := aB (by kernel_rfl)
theorem uM : iy true false = "list.__ne__" := aB (by kernel_rfl)
theorem u9 : iy false true = "tuple.__eq__" := aB (by kernel_rfl)
theorem rV : iy true true = "tuple.__ne__" := aB (by kernel_rfl)
theorem tV {k : Bool} {e : Nat} {l : List DT} : bV k e l = ⟨.type (match k with | true => "tuple" | false => "list"), none, .seq (aK l).toArray (match k with | true => 0 | false => e), #[]⟩ := by
 cases k with
 | true=>show (⟨yT,none,_,_⟩:Obj)=_; rw [mg]
 | false => show (⟨yL, none, _, _⟩ : Obj) = _; rw [show yL = .type "list" by unfold yL; congr 1]
theorem lX:∀ (dr:List Nat) (i:Nat) (l:List Cell),(∀ c,c∈l→c.mu=false)→cC (bo dr i l)=[]
 | _,_,[],_=>rfl
 | dr,i,c::l,h=>by
  have hc:=h c (.head _)
  unfold bo
  cases gw i dr with
  | true=>exact lX dr (i+1) l fun c hc=>h c (.tail _ hc)
  | false =>
   show (match c.mu with | true=>c.a::cC (bo dr (i+1) l) | false=>cC (bo dr (i+1) l))=[]
   rw [hc]
   exact lX dr (i+1) l fun c hc=>h c (.tail _ hc)
mutual
theorem gk:∀ (X:DT),∀ c,c∈X.cells→c.mu=false
 | .v _,c,h=>by cases h
 | .s k a e l,c,h=>by
  rw [bL] at h
  rcases List.mem_cons.mp h with rfl | h
  ·rfl
  ·exact i5 l c h
theorem i5:∀ (l:List DT),∀ c,c∈aQ l→c.mu=false
 | [],c,h=>by cases h
 | d::l,c,h=>by
  rw [bB] at h
  rcases List.mem_append.mp h with h | h
  ·exact gk d c h
  ·exact i5 l c h
end
theorem my {prog:Program} {w:World} {A:Around} {R:Result→Shared→Prop} {s:Shared} {neg k:Bool} {a a' e e':Nat} {l l':List DT} {b:Bool} (o1:s.heap.get? a=some (bV k e l)) (o2:s.heap.get? a'=some (bV k e' l')) (c:Bool)
 (hc:b=(if neg then !c else c))
 (h:(l.length=l'.length∧∃ bs:Nat→Bool,(∀ j (h1:j<l.length) (h2:j<l'.length),EqAt A.in1 s (l[j]).val (l'[j]).val (bs j))∧c=(List.range l.length).all bs) ∨
  (l.length≠l'.length∧c=false∧∃ bs:Nat→Bool,(∀ j (h1:j<l.length) (h2:j<l'.length),EqAt A.in1 s (l[j]).val (l'[j]).val (bs j))))
 (hR:R (.ok (.ret (.bool b))) s):codeAny (model prog w) A (.call (.builtin (iy neg k)) ⟨[.ref a,.ref a'],[]⟩) R s:=by
 rw [tV] at o1 o2
 have sz:∀ l:List DT,(aK l).toArray.size=l.length:=fun l=>by simp [bb]
 have it:∀ {bs:Nat→Bool},(∀ j (h1:j<l.length) (h2:j<l'.length),EqAt A.in1 s (l[j]).val (l'[j]).val (bs j))→∀ j (h1:j<(aK l).toArray.size) (h2:j<(aK l').toArray.size),EqAt A.in1 s (aK l).toArray[j] (aK l').toArray[j] (bs j):=by
  intro bs h j q1 q2
  have:=h j (by simpa [sz] using q1) (by simpa [sz] using q2)
  simpa [bb] using this
 cases k with
 | false =>
  have hT : s.TypeIs (.ref a) "list" := ⟨_, o1, rfl⟩
  cases neg with
  | false =>
   rw [rT]
   rcases h with ⟨h1,bs,h2,h3⟩ | ⟨h1,h2,bs,h3⟩
   ·exact ap F.slot_list_eq F.entry_list_eq (F.args_list_eq_2 _ _) hT ((list_eqAt a a' _ _ _ _ none none #[] #[] (by rw [sz,sz,h1]) bs).inModel _ _) ⟨o1,o2,it h2,by rw [sz,←h3]; rw [hc] at hR; exact hR⟩
   ·exact ap F.slot_list_eq F.entry_list_eq (F.args_list_eq_2 _ _) hT ((list_eq_lengthsAt a a' (aK l).toArray (aK l').toArray _ _ none none #[] #[] (by rw [sz,sz]; simpa using h1)).inModel _ _) ⟨o1,o2,by rw [hc,h2] at hR; exact hR⟩
  | true =>
   rw [uM]
   rcases h with ⟨h1,bs,h2,h3⟩ | ⟨h1,h2,bs,h3⟩
   ·exact ap F.slot_list_ne F.entry_list_ne (F.args_list_ne_2 _ _) hT ((list_neAt a a' _ _ _ _ none none #[] #[] (by rw [sz,sz,h1]) bs).inModel _ _) ⟨o1,o2,it h2,by rw [sz,←h3]; rw [hc] at hR; exact hR⟩
   ·exact ap F.slot_list_ne F.entry_list_ne (F.args_list_ne_2 _ _) hT ((list_ne_lengthsAt a a' (aK l).toArray (aK l').toArray _ _ none none #[] #[] (by rw [sz,sz]; simpa using h1)).inModel _ _) ⟨o1,o2,by rw [hc,h2] at hR; exact hR⟩
 | true =>
  have hT : s.TypeIs (.ref a) "tuple" := ⟨_, o1, rfl⟩
  obtain ⟨bs,h2,h3⟩:∃ bs:Nat→Bool,(∀ j (h1:j<l.length) (h2:j<l'.length),EqAt A.in1 s (l[j]).val (l'[j]).val (bs j))∧c=((List.range (min (aK l).toArray.size (aK l').toArray.size)).all bs && (aK l).toArray.size == (aK l').toArray.size):=by
   rcases h with ⟨h1,bs,h2,h3⟩ | ⟨h1,h2,bs,h3⟩
   ·exact ⟨bs,h2,by rw [sz,sz,←h1,Nat.min_self,←h3]; simp⟩
   ·refine ⟨bs,h3,?_⟩
    have:((aK l).toArray.size == (aK l').toArray.size)=false:=by rw [sz,sz]; simpa using h1
    rw [this,Bool.and_false]
    exact h2
  cases neg with
  | false =>
   rw [u9]
   exact ap F.slot_tuple_eq F.entry_tuple_eq (F.args_tuple_eq_2 _ _) hT ((tuple_eqAt a a' (aK l).toArray (aK l').toArray _ _ none none #[] #[] bs).inModel _ _) ⟨o1,o2,it h2,by rw [← h3]; rw [hc] at hR; exact hR⟩
  | true =>
   rw [rV]
   exact ap F.slot_tuple_ne F.entry_tuple_ne (F.args_tuple_ne_2 _ _) hT ((tuple_neAt a a' (aK l).toArray (aK l').toArray _ _ none none #[] #[] bs).inModel _ _) ⟨o1,o2,it h2,by rw [← h3]; rw [hc] at hR; exact hR⟩
theorem F6 {en:ST} (w:World) (h g:Nat→Nat) (neg k:Bool) (a a' e e':Nat) (l l':List DT) (b:Bool) (dr:List Nat) (c:Bool) (hb:b=(if neg then !c else c)) (hdep:(DT.s k a e l).dep≤50)
 (hq:EqD (.s k a e l) (.s k a' e' l') c∨(c=false∧EqP l l')) (hd:∀ x,x∈(DT.s k a e l).cells ++ (DT.s k a' e' l').cells→x∈bo dr 0 ((DT.s k a e l).cells ++ (DT.s k a' e' l').cells)) :
 (dX w.params h g neg k (.s k a e l) (.s k a' e' l') b dr).S.Holds (B2 w en):=by
 refine aj rfl fun A s₀ R hh hu _ ht hcell _ kk=>?_
 have hX:be s₀ (DT.s k a e l).cells:=fun x hx=>(hcell x (hd x (List.mem_append_left _ hx))).1
 have hY:be s₀ (DT.s k a' e' l').cells:=fun x hx=>(hcell x (hd x (List.mem_append_right _ hx))).1
 rw [bL] at hX hY
 have hlv:(dX w.params h g neg k (.s k a e l) (.s k a' e' l') b dr).lv=60:=rfl
 have item:∀ {bs:Nat→Bool},(∀ j (h1:j<l.length) (h2:j<l'.length),EqD l[j] l'[j] (bs j))→∀ j (h1:j<l.length) (h2:j<l'.length),EqAt A.in1 s₀ (l[j]).val (l'[j]).val (bs j):=by
  intro bs hs j h1 h2
  refine EqD.at 50 ?_ (hs j h1 h2) (fun c hc=>hX c (.tail _ (bg (List.getElem_mem h1) hc))) (fun c hc=>hY c (.tail _ (bg (List.getElem_mem h2) hc))) ?_
  ·have:=dJ (List.getElem_mem h1)
   simp only [DT.dep] at hdep
   omega
  ·show A.units+1+50<cLine
   unfold cLine; omega
 refine my (hX _ (.head _)) (hY _ (.head _)) c hb ?_ ?_
 ·rcases hq with hq | ⟨hc,hq⟩
  ·obtain ⟨h1,bs,h2,h3⟩:=hq.items
   exact .inl ⟨h1,bs,item h2,h3⟩
  ·obtain ⟨h1,bs,h2⟩:=hq.items
   exact .inr ⟨h1,hc,bs,item h2⟩
 ·refine kk _ [] [] (aE (s':=s₀) ht ?_ rfl rfl rfl rfl rfl)
  refine lX dr 0 _ fun c hc=>?_
  rcases List.mem_append.mp hc with hc | hc
  ·exact gk _ c hc
  ·exact gk _ c hc
end
section
open PySem.SeqAt PySem.MeetsSeq PySem.MeetsSeq3 PySem.AutoSeq1
noncomputable def cz:List Value→Prop
 | []=>True
 | v::l=>(∃ i t,v=.int i t)∧cz l
theorem cz.at:∀ {l:List Value},cz l→∀ (j:Nat) (h:j<l.length),∃ i t,l[j]=.int i t
 | v::l,h,0,_=>h.1
 | v::l,h,j+1,hj=>cz.at h.2 j (by simpa using hj)
theorem uo (a b:Addr) (l m:List Value) (n n2:Nat) (hl:cz l) (hm:cz m) (k:Nat) :
 ∀ i:Nat,l.length - i=k→i≤l.length→i≤m.length→Meets (Builtin.«list.__eq__.loop» ⟨[.ref a,.ref b,rawInt i,rawInt 0],[]⟩)
  (fun A R s => s.heap.get? a = some { cls := .type "list", dict := none, data := .seq l.toArray n, slots := #[] } ∧ s.heap.get? b = some { cls := .type "list", dict := none, data := .seq m.toArray n2, slots := #[] } ∧
   R (.ok (.ret (.bool (qV (l.drop i) (m.drop i))))) s):=by
 induction k with
 | zero =>
  intro i hk h1 h2 prog w A R s h
  obtain ⟨hp,g,d,tk,os⟩:=s; obtain ⟨ha,hb,h⟩:=h
  wp_walk using wpAny_loadPart' ha,wpAny_loadPart' hb
  have hi:i=l.length:=by omega
  have hi1:l.toArray[((i:Nat):Int).toNat]?=none:=by simp; omega
  rw [hi1]
  wp_walk using wpAny_loadPart' ha,wpAny_loadPart' hb
  have hd:l.drop i=[]:=by simp; omega
  rw [hd] at h
  show R (.ok (.ret (.bool (decide (l.toArray.size<m.toArray.size))))) _
  have e:decide (l.toArray.size<m.toArray.size)=qV [] (m.drop i):=by
   cases hq:m.drop i with
   | nil =>
    have:m.length≤i:=by simpa using hq
    simp [qV]; omega
   | cons y r =>
    have:i<m.length:=by
     rcases Nat.lt_or_ge i m.length with q | q
     ·exact q
     ·rw [List.drop_of_length_le q] at hq; cases hq
    simp [qV]; omega
  rw [e]; exact h
 | succ k ih =>
  intro i hk h1 h2 prog w A R s h
  obtain ⟨hp,g,d,tk,os⟩:=s; obtain ⟨ha,hb,h⟩:=h
  wp_walk using wpAny_loadPart' ha,wpAny_loadPart' hb
  have hlt:i<l.length:=by omega
  have hi1:l.toArray[((i:Nat):Int).toNat]?=some l[i]:=by simp [hlt]
  have hd:l.drop i=l[i]::l.drop (i+1):=List.drop_eq_getElem_cons hlt
  have hc:((i:Int)+1)=((i+1:Nat):Int):=by push_cast; rfl
  rw [hi1]
  rcases Nat.lt_or_ge i m.length with hlt2 | hge
  ·have hi2:m.toArray[((i:Nat):Int).toNat]?=some m[i]:=by simp [hlt2]
   have hd2:m.drop i=m[i]::m.drop (i+1):=List.drop_eq_getElem_cons hlt2
   rw [hi2]
   obtain ⟨x,t,hx⟩:=hl.at i hlt
   obtain ⟨y,u,hy⟩:=hm.at i hlt2
   rw [hd,hd2,hx,hy] at h
   refine wpAny_bind (?_:wpAny _ _ (eqBool l[i] m[i]) _ _ _)
   rw [hx,hy]
   refine EqAt.int_int x t y u prog w _ _ ?_
   by_cases hxy:x=y
   ·subst hxy
    simp only [beq_self_eq_true]
    wp_walk
    rw [hc]
    refine ⟨plainId_quiet plain_eq_loop _,codeAny_builtin entry_eq_loop (by
     rw [Around.under_plainId plain_eq_loop _]
     exact ih (i+1) (by omega) (by omega) (by omega) prog w A R _ ⟨ha,hb,by simpa [qV] using h⟩)⟩
   ·have:(x == y)=false:=by simpa using hxy
    rw [this]
    wp_walk using wpAny_loadPart' ha,wpAny_loadPart' hb
    rw [hi1,hi2,hx,hy]
    refine wpAny_bind (wpAny_lt_int ?_)
    refine wpAny_pure ?_
    simpa [qV,hxy] using h
  ·have hi2:m.toArray[((i:Nat):Int).toNat]?=none:=by simp; omega
   rw [hi2]
   wp_walk using wpAny_loadPart' ha,wpAny_loadPart' hb
   have hd2:m.drop i=[]:=by simp; omega
   rw [hd2] at h
   show R (.ok (.ret (.bool (decide (l.toArray.size<m.toArray.size))))) _
   have e:decide (l.toArray.size<m.toArray.size)=qV (l.drop i) []:=by
    rw [hd]; simp [qV]; omega
   rw [e]; exact h
theorem oo (a b:Addr) (l m:List Value) (n n2:Nat) (hl:cz l) (hm:cz m) :
 Meets (Builtin.«list.__lt__» ⟨[.ref a,.ref b],[]⟩)
  (fun A R s => s.heap.get? a = some { cls := .type "list", dict := none, data := .seq l.toArray n, slots := #[] } ∧ s.heap.get? b = some { cls := .type "list", dict := none, data := .seq m.toArray n2, slots := #[] } ∧
   R (.ok (.ret (.bool (qV l m)))) s):=by
 intro prog w A R s h
 obtain ⟨hp,g,d,tk,os⟩:=s; obtain ⟨ha,hb,h⟩:=h
 have f3:=AutoSeq1.sub_list_list
 wp_walk using wpAny_loadPart' ha,wpAny_loadPart' hb
 exact ⟨plainId_quiet plain_eq_loop _,codeAny_builtin entry_eq_loop (by
  rw [Around.under_plainId plain_eq_loop _]
  exact uo a b l m n n2 hl hm _ 0 rfl (Nat.zero_le _) (Nat.zero_le _) prog w A R _ ⟨ha,hb,by simpa using h⟩)⟩
theorem fZ : yL = .type "list" := by
 unfold yL; congr 1
theorem GM {en:ST} (w:World) (h g:Nat→Nat) (a b e e':Nat) (l m:List Value) (hl:cz l) (hm:cz m):(vu w.params h g a b e e' l m).S.Holds (B2 w en):=by
 refine aj rfl fun A s₀ R hh hu _ ht hcell _ kk=>?_
 have o1:s₀.heap.get? a=some (oL e l):=(hcell _ (.head _)).1
 have o2:s₀.heap.get? b=some (oL e' m):=(hcell _ (.tail _ (.head _))).1
 unfold oL at o1 o2
 rw [fZ] at o1 o2
 exact ap F.slot_list_lt F.entry_list_lt (F.args_list_lt_2 _ _) ⟨_,o1,rfl⟩ ((oo a b l m e e' hl hm).inModel _ _) ⟨o1,o2,kk _ [] [] (aE (s':=s₀) ht rfl rfl rfl rfl rfl rfl)⟩
theorem mN:∀ l m:List Value,pe l m=l ++ m
 | [],_=>rfl
 | v::l,m=>by show v::pe l m=v::(l ++ m); rw [mN l m]
theorem Fx {en:ST} (w:World) (h g:Nat→Nat) (a b n n':Nat) (l m:List Value) (hlen:l.length+m.length≤1000) (hm:0<m.length):(kc w.params h g a b n n' l m).S.Holds (B2 w en):=by
 refine aj rfl fun A s₀ R hh hu _ ht hcell _ kk=>?_
 have o1:s₀.heap.get? a=some (oL n l):=(hcell _ (.head _)).1
 have o2:s₀.heap.get? b=some (oL n' m):=(hcell _ (.tail _ (.head _))).1
 have hf:=(hcell _ (.head _)).2
 have o1':=o1
 unfold oL at o1 o2
 rw [fZ] at o1 o2
 show codeAny _ _ (.builtin _ _) _ _
 rw [show Ll = "list.__iadd__" from aB (by kernel_rfl)]
 refine codeAny_builtin F.entry_list_iadd ?_
 rw [Around.under_plainId F.plain_list_iadd _]
 have big:l.length+m.length≤sizeLine:=Nat.le_trans hlen (by decide)
 refine list___iadd___list_list_0 a l.toArray n b m.toArray n' ?_ (by show l.length≤_; omega) (by show l.length+m.length≤_; omega) _ _ A R s₀ ⟨o1,o2,?_⟩
 ·have:Builtin.List.listTooLong (l.toArray.size+m.toArray.size)=false:=by
   show decide _=false
   simpa using big
  rw [this]; simp
 ·refine kk _ [] [] (cP (d:=a) (o:=oL n l) (o':=oL (n+1) (pe l m)) ht hf rfl rfl rfl o1' ?_ rfl rfl rfl rfl rfl rfl)
  rw [mN]
  have hne:(((⟨l⟩:Array Value) ++ m.toArray).size == (⟨l⟩:Array Value).size)=false:=by
   have e1:((⟨l⟩:Array Value) ++ m.toArray).size=l.length+m.length:=by simp
   refine beq_eq_false_iff_ne.mpr ?_
   rw [e1]
   show l.length+m.length≠l.length
   omega
  show (⟨yL,none,.seq ((⟨l⟩:Array Value) ++ m.toArray) (if (((⟨l⟩:Array Value) ++ m.toArray).size == (⟨l⟩:Array Value).size)=true then n else n+1),#[]⟩:Obj)=_
  rw [hne]
  simp [oL]
end
section
open PySem.SeqAt
theorem GB {en:ST} (w:World) (h g:Nat→Nat) (X tx t:Nat) (b:Bool) (hb:decide (0<X)=b):(Gi w.params h g X tx t b).S.Holds (B2 w en):=by
 refine aj rfl fun A s₀ R hh hu _ ht hcell _ kk=>?_
 show codeAny _ _ (.call (.builtin _) _) _ _
 rw [show Mine.SL.s549184847318252788x10 = "int.__gt__" from aB (by kernel_rfl)]
 refine ap F.slot_int_gt F.entry_int_gt (F.args_int_gt_2 _ _) (typeIs_int s₀ _ _) ((AutoIntG4.int___gt___int_int_0 (Int.ofNat X) tx 0 t).meets.inModel _ _) ?_
 show R (.ok (.ret (.bool (decide (Int.ofNat X > 0))))) s₀
 have e:decide (Int.ofNat X > 0)=b:=by
  rw [← hb]
  exact decide_eq_decide.mpr ⟨fun q=>Int.ofNat_lt.mp q,fun q=>Int.ofNat_lt.mpr q⟩
 rw [e]
 exact kk _ [] [] (aE (s':=s₀) ht rfl rfl rfl rfl rfl rfl)
theorem A8 {en : ST} {w : World} {h g : Nat → Nat} {id id' : String} {name : Str} {b : Builtin} (hid : id = id') (hs : Slot "int" name id') (he : entryFor table id' = some b) (ha : ∀ x y : Value, argsOk id' ⟨[x, y], []⟩) (x y c t u : Nat) {i : Int} (hi : i = Int.ofNat c)
 (hg:Gives (b ⟨[.int (Int.ofNat x) t,.int (Int.ofNat y) u],[]⟩) (.int i)):(vh w.params h g id x y c t u).S.Holds (B2 w en):=by
 subst hid hi
 refine aj rfl fun A s₀ R hh hu _ ht hcell _ kk=>?_
 refine ap hs he (ha _ _) (typeIs_int s₀ _ _) (hg.meets.inModel _ _) ?_
 show R (.ok (.ret (.int (Int.ofNat c) s₀.toks))) { s₀ with toks:=s₀.toks+1 }
 exact kk { s₀ with toks:=s₀.toks+1 } [] [s₀.toks] ⟨ht,fun a o h _=>.inl h,Nat.le_refl _,rfl,rfl,fun j a o hj=>by simp [RS.S,RS.SO,vh,RS.fin,RS.finO,au,cC] at hj,fun j a o hj=>by simp at hj,fun a hj=>by simp at hj,List.nodup_nil,rfl,rfl⟩
theorem kR {n:Nat} (h:n<2 ^ 32):Builtin.Int.intBits (Int.ofNat n)≤64:=by
 unfold Builtin.Int.intBits
 split
 ·exact Nat.zero_le _
 ·rename_i h0
  have hn:n≠0:=fun e=>h0 (by subst e; rfl)
  have:Nat.log2 n<32:=(Nat.log2_lt hn).mpr h
  show Nat.log2 n+1≤64
  omega
theorem gX {en:ST} (w:World) (h g:Nat→Nat) (a b c t u:Nat) (hb:b<2 ^ 32) (hc:c=a * b):(gh w.params h g a b c t u).S.Holds (B2 w en) :=
 A8 (aB (by kernel_rfl)) F.slot_int_mul F.entry_int_mul F.args_int_mul_2 a b c t u (i:=Int.ofNat a * Int.ofNat b) (by subst hc; rfl) (AutoIntG1.int___mul___int_int_0 _ _ _ _ (.of_right (kR hb)))
theorem pB {en:ST} (w:World) (h g:Nat→Nat) (a b c t u:Nat) (hc:c=a+b):(nW w.params h g a b c t u).S.Holds (B2 w en) :=
 A8 (aB (by kernel_rfl)) F.slot_int_add F.entry_int_add F.args_int_add_2 a b c t u (i:=Int.ofNat a+Int.ofNat b) (by subst hc; rfl) (AutoIntG4.int___add___int_int_0 _ _ _ _)
theorem fg {en:ST} (w:World) (h g:Nat→Nat) (a b c t u:Nat) (hb:0<b) (hc:c=a % b):(eC w.params h g a b c t u).S.Holds (B2 w en) :=
 A8 (aB (by kernel_rfl)) F.slot_int_mod F.entry_int_mod F.args_int_mod_2 a b c t u (i:=(Int.ofNat a).fmod (Int.ofNat b)) (by subst hc; exact (Int.ofNat_fmod a b).symm) (AutoIntG6.int___mod___int_int_1 _ _ _ _ (by simp; omega))
theorem Ej {en:ST} (w:World) (h g:Nat→Nat) (a b c t u:Nat) (hb:0<b) (hb':b<2 ^ 32) (hc:c=a / b):(wt w.params h g a b c t u).S.Holds (B2 w en) :=
 A8 (aB (by kernel_rfl)) F.slot_int_floordiv F.entry_int_floordiv F.args_int_floordiv_2 a b c t u (i:=(Int.ofNat a).fdiv (Int.ofNat b)) (by subst hc; exact (Int.ofNat_fdiv a b).symm) (AutoIntG4.int___floordiv___int_int_1 _ _ _ _ (by simp; omega) (by
  have hn:b≠0:=by omega
  have:Nat.log2 b<32:=(Nat.log2_lt hn).mpr hb'
  have e:(if (Int.ofNat b) == 0 then 0 else (Int.ofNat b).natAbs.log2 / 30+1)≤300:=by
   split
   ·exact Nat.zero_le _
   ·show Nat.log2 b / 30+1≤300
    omega
  unfold Builtin.divisionGoesByPylong
  intro q
  have q1:=(Bool.and_eq_true_iff.mp q).1
  have q2:=of_decide_eq_true q1
  exact absurd q2 (Nat.not_lt.mpr e)))
theorem mj:∀ {l:List Value} {d:Nat} (h:d<l.length),l[d]?=some (fv l d)
 | v::l,0,_=>rfl
 | v::l,d+1,h=>by
  rw [List.getElem?_cons_succ]
  exact mj (by simpa using h)
theorem nX {d:Nat} (h:d<1000):(Int.ofNat d)<2 ^ 63:=by
 have h1:(d:Int)<1000:=by omega
 have h2:(1000:Int)<2 ^ 63:=by decide +kernel
 exact Int.lt_trans h1 h2
theorem uq (a:Addr) (l:List Value) (n d:Nat) (k:Int) (t:Tok) (hk:k=Int.ofNat d) (hd:d<l.length) (hl:l.length<1000) :
 Meets (Builtin.«list.__getitem__» ⟨[.ref a,.int k t],[]⟩) (fun _ R s=>s.heap.get? a=some (oL n l)∧R (.ok (.ret (fv l d))) s):=by
 intro prog w A R s ⟨o1,fin⟩
 have hfit:k<2 ^ 63:=hk▸nX (Nat.lt_trans hd hl)
 have h0:0≤k:=hk▸Int.natCast_nonneg d
 show wpAny _ _ (Builtin.List.listSubscript? (.int k t) >>= _) _ _ s
 refine wpAny_bind (wpAny_listSubscript_int (fitsIndex_of h0 hfit) ?_)
 clear hfit
 subst hk
 show wpAny _ _ ((seqItemAt a d >>= fun r=>pure (r.map (d,·))) >>= _) _ _ s
 refine wpAny_bind (wpAny_bind (wpAny_seqItemAt o1 rfl (wpAny_pure ?_)))
 have hx:(⟨l⟩:Array Value)[d]?=some (fv l d):=by
  show l.toArray[d]?=_
  rw [List.getElem?_toArray]; exact mj hd
 rw [hx]
 first
  | exact wpAny_bind (wpAny_pure (wpAny_pure fin))
  | exact wpAny_pure fin
theorem oW {prog:Program} {w:World} {A:Around} {R:Result→Shared→Prop} {s:Shared} (a:Addr) (l:List Value) (n d:Nat) (k:Int) (t:Tok) (hk:k=Int.ofNat d) (hd:d<l.length) (hl:l.length<1000) (o1:s.heap.get? a=some (oL n l)) (fin:R (.ok (.ret (fv l d))) s) :
 codeAny (model prog w) A (.call (.builtin "list.__getitem__") ⟨[.ref a, .int k t], []⟩) R s :=
 ap slot_list_getitem entry_list_getitem (args_list_getitem _ _) ⟨_,o1,fZ⟩ (fun A R s=>uq a l n d k t hk hd hl prog w A R s) ⟨o1,fin⟩
theorem m6 {en:ST} (w:World) (h g:Nat→Nat) (a e d t:Nat) (l:List Value) (hd:d<l.length) (hl:l.length<1000):(lO w.params h g a e d t l).S.Holds (B2 w en):=by
 refine aj rfl fun A s₀ R hh hu _ ht hcell _ kk=>?_
 have o1:s₀.heap.get? a=some (oL e l):=(hcell _ (.head _)).1
 have fin:R (.ok (.ret (fv l d))) s₀:=kk _ [] [] (aE (s':=s₀) ht rfl rfl rfl rfl rfl rfl)
 have q:=oW (prog:=(B2 w en).prog) (w:=w) (A:=A) a l e d (Int.ofNat d) t rfl hd hl o1 fin
 rw [show "list.__getitem__" = Ld from (aB (by kernel_rfl)).symm] at q
 exact q
end
noncomputable def F3 (P:Params) (h g:Nat→Nat) (s r e er X Y top Z0 Z1 tx ty tt:Nat):RS:=ah P h g s r e er X Y 0 0 0 (Int.ofNat top) tx ty tt
noncomputable def F9 (P:Params) (h g:Nat→Nat) (s r e er Y top Z0 Z1 Z2 Z3 Z4 Z5 Z6 tx ty tt:Nat):RS:=ah P h g s r e er 0 Y 0 0 0 (Int.ofNat top) tx ty tt
noncomputable def xD (P:Params) (h g:Nat→Nat) (s r e er th eh X0 Y0 D0 X1 Y1 tx ty:Nat) (v0 v1:Value):RS:=aJ P h g s r e er th eh X0 Y0 D0 X1 Y1 tx ty [v0,v1]
noncomputable def yv (P:Params) (h g:Nat→Nat) (s r e er th eh X0 Y0 D0 X1 Y1 tx ty:Nat) (v0 v1 v2:Value):RS:=aJ P h g s r e er th eh X0 Y0 D0 X1 Y1 tx ty [v0,v1,v2]
noncomputable def w5 (P:Params) (h g:Nat→Nat) (s r e er th eh X0 Y0 D0 X1 Y1 tx ty:Nat) (v0 v1 v2 v3:Value):RS:=aJ P h g s r e er th eh X0 Y0 D0 X1 Y1 tx ty [v0,v1,v2,v3]
noncomputable def xw (P:Params) (h g:Nat→Nat) (s r e er th eh X0 Y0 D0 X1 Y1 tx ty:Nat) (v0 v1 v2 v3 v4:Value):RS:=aJ P h g s r e er th eh X0 Y0 D0 X1 Y1 tx ty [v0,v1,v2,v3,v4]
noncomputable def zD (P:Params) (h g:Nat→Nat) (s r e er th eh X0 Y0 D0 X1 Y1 tx ty:Nat) (v0 v1 v2 v3 v4 v5 v6 v7:Value):RS:=aJ P h g s r e er th eh X0 Y0 D0 X1 Y1 tx ty [v0,v1,v2,v3,v4,v5,v6,v7]
noncomputable def F1 (P:Params) (h:Nat→Nat) (g:Nat→Nat) (s:Nat) (r:Nat) (e:Nat) (er:Nat) (X:Nat) (Y:Nat) (top:Nat) (Z0:Nat) (Z1:Nat) (tx:Nat) (ty:Nat) (tt:Nat):RS:=(F3 P h g s r e er X Y top Z0 Z1 tx ty tt).fin [] [6,9] (fun b t=>[(oL e [(.int (Int.ofNat Z1) (nb t 1)),(.int (Int.ofNat Y) ty),(.ref r)])]) nN (fun b t=>(ok (.int (Int.ofNat Z0) (nb t 0))))
noncomputable def Fw (P:Params) (h:Nat→Nat) (g:Nat→Nat) (s:Nat) (r:Nat) (e:Nat) (er:Nat) (Y:Nat) (top:Nat) (Z0:Nat) (Z1:Nat) (Z2:Nat) (Z3:Nat) (Z4:Nat) (Z5:Nat) (Z6:Nat) (tx:Nat) (ty:Nat) (tt:Nat):RS:=(F9 P h g s r e er Y top Z0 Z1 Z2 Z3 Z4 Z5 Z6 tx ty tt).fin [] [20,11] (fun b t=>[(oL e [(.int 0 tx),(.int (Int.ofNat Z2) (nb t 1)),(.ref r)])]) nN (fun b t=>(ok (.int (Int.ofNat Z6) (nb t 0))))
theorem DB (w:World) (en:ST) h g s r e er X Y top Z0 Z1 tx ty tt (cb:Bool):(F1 w.params h g s r e er X Y top Z0 Z1 tx ty tt).Runs (B2 w en) 112 (ce [Bu,1030,gz,cy,1030,gz,ko,1080035334,gz,1080035334,yh]) [⟨fun A tk O ρs ρ=>(dX w.params h g true false (DT.s false (A 1) er []) (DT.s false (A 3) 0 []) false []).S,[1,3],[],none⟩,⟨fun A tk O ρs ρ=>(Fr w.params h g X tx (tk 4)).S,[],[],none⟩,⟨fun A tk O ρs ρ=>(eC w.params h g X top Z0 tx tt).S,[],[],none⟩,⟨fun A tk O ρs ρ=>(wt w.params h g X top Z1 tx tt).S,[],[],none⟩] cb:=by
 intro ν τ υ π ς ρ own past κ bl p
 kernel_rfl
theorem Bn (w:World) (en:ST) h g s r e er Y top Z0 Z1 Z2 Z3 Z4 Z5 Z6 tx ty tt (cb:Bool):(Fw w.params h g s r e er Y top Z0 Z1 Z2 Z3 Z4 Z5 Z6 tx ty tt).Runs (B2 w en) 129 (ce [Bu,1030,iZ,1030,jo,gR,fX,1030,yh,gz,1030,jo,gR,fX,1050630]) [⟨fun A tk O ρs ρ=>(dX w.params h g true false (DT.s false (A 1) er []) (DT.s false (A 3) 0 []) false []).S,[1,3],[],none⟩,⟨fun A tk O ρs ρ=>(gh w.params h g Y 39373 Z0 ty (tk 6)).S,[],[],none⟩,⟨fun A tk O ρs ρ=>(nW w.params h g Z0 7 Z1 (tk 7) (tk 8)).S,[],[],none⟩,⟨fun A tk O ρs ρ=>(eC w.params h g Z1 2147483647 Z2 (tk 9) (tk 10)).S,[],[],none⟩,⟨fun A tk O ρs ρ=>(gh w.params h g Z2 Z2 Z3 (tk 11) (tk 11)).S,[],[],none⟩,⟨fun A tk O ρs ρ=>(eC w.params h g Z3 2147483629 Z4 (tk 15) (tk 16)).S,[],[],none⟩,⟨fun A tk O ρs ρ=>(wt w.params h g Z4 32 Z5 (tk 17) (tk 18)).S,[],[],none⟩,⟨fun A tk O ρs ρ=>(eC w.params h g Z5 top Z6 (tk 19) tt).S,[],[],none⟩] cb:=by
 intro ν τ υ π ς ρ own past κ bl p
 kernel_rfl
noncomputable def yw (P:Params) (h:Nat→Nat) (g:Nat→Nat) (s:Nat) (r:Nat) (e:Nat) (er:Nat) (th:Nat) (eh:Nat) (X0:Nat) (Y0:Nat) (D0:Nat) (X1:Nat) (Y1:Nat) (tx:Nat) (ty:Nat) (v0:Value) (v1:Value):RS:=(xD P h g s r e er th eh X0 Y0 D0 X1 Y1 tx ty v0 v1).fin [] [5,6] (fun b t=>[(oL e [(.int (Int.ofNat X1) (nb t 0)),(.int (Int.ofNat Y1) (nb t 1)),(.ref r)])]) nN (fun b t=>(ok (fv [v0,v1] D0)))
noncomputable def wB (P:Params) (h:Nat→Nat) (g:Nat→Nat) (s:Nat) (r:Nat) (e:Nat) (er:Nat) (th:Nat) (eh:Nat) (X0:Nat) (Y0:Nat) (D0:Nat) (X1:Nat) (Y1:Nat) (tx:Nat) (ty:Nat) (v0:Value) (v1:Value) (v2:Value):RS:=(yv P h g s r e er th eh X0 Y0 D0 X1 Y1 tx ty v0 v1 v2).fin [] [5,6] (fun b t=>[(oL e [(.int (Int.ofNat X1) (nb t 0)),(.int (Int.ofNat Y1) (nb t 1)),(.ref r)])]) nN (fun b t=>(ok (fv [v0,v1,v2] D0)))
noncomputable def wz (P:Params) (h:Nat→Nat) (g:Nat→Nat) (s:Nat) (r:Nat) (e:Nat) (er:Nat) (th:Nat) (eh:Nat) (X0:Nat) (Y0:Nat) (D0:Nat) (X1:Nat) (Y1:Nat) (tx:Nat) (ty:Nat) (v0:Value) (v1:Value) (v2:Value) (v3:Value):RS:=(w5 P h g s r e er th eh X0 Y0 D0 X1 Y1 tx ty v0 v1 v2 v3).fin [] [5,6] (fun b t=>[(oL e [(.int (Int.ofNat X1) (nb t 0)),(.int (Int.ofNat Y1) (nb t 1)),(.ref r)])]) nN (fun b t=>(ok (fv [v0,v1,v2,v3] D0)))
noncomputable def zF (P:Params) (h:Nat→Nat) (g:Nat→Nat) (s:Nat) (r:Nat) (e:Nat) (er:Nat) (th:Nat) (eh:Nat) (X0:Nat) (Y0:Nat) (D0:Nat) (X1:Nat) (Y1:Nat) (tx:Nat) (ty:Nat) (v0:Value) (v1:Value) (v2:Value) (v3:Value) (v4:Value):RS:=(xw P h g s r e er th eh X0 Y0 D0 X1 Y1 tx ty v0 v1 v2 v3 v4).fin [] [5,6] (fun b t=>[(oL e [(.int (Int.ofNat X1) (nb t 0)),(.int (Int.ofNat Y1) (nb t 1)),(.ref r)])]) nN (fun b t=>(ok (fv [v0,v1,v2,v3,v4] D0)))
noncomputable def xJ (P:Params) (h:Nat→Nat) (g:Nat→Nat) (s:Nat) (r:Nat) (e:Nat) (er:Nat) (th:Nat) (eh:Nat) (X0:Nat) (Y0:Nat) (D0:Nat) (X1:Nat) (Y1:Nat) (tx:Nat) (ty:Nat) (v0:Value) (v1:Value) (v2:Value) (v3:Value) (v4:Value) (v5:Value) (v6:Value) (v7:Value):RS:=(zD P h g s r e er th eh X0 Y0 D0 X1 Y1 tx ty v0 v1 v2 v3 v4 v5 v6 v7).fin [] [5,6] (fun b t=>[(oL e [(.int (Int.ofNat X1) (nb t 0)),(.int (Int.ofNat Y1) (nb t 1)),(.ref r)])]) nN (fun b t=>(ok (fv [v0,v1,v2,v3,v4,v5,v6,v7] D0)))
theorem sJ (w:World) h g s r e er th eh X0 Y0 D0 X1 Y1 tx ty v0 v1 (cb:Bool):(yw w.params h g s r e er th eh X0 Y0 D0 X1 Y1 tx ty v0 v1).Runs (BB w h g) 50 (ce [qn]) [⟨fun A tk O ρs ρ=>(ah w.params h g (A 0) (A 1) e er X0 Y0 D0 X1 Y1 2 tx ty (tk 3)).S,[0,1],[0],none⟩,⟨fun A tk O ρs ρ=>(lO w.params h g (A 2) eh D0 (tk 4) [v0,v1]).S,[2],[],none⟩] cb:=by
 intro ν τ υ π ς ρ own past κ bl p
 kernel_rfl
theorem ut (w:World) h g s r e er th eh X0 Y0 D0 X1 Y1 tx ty v0 v1 v2 (cb:Bool):(wB w.params h g s r e er th eh X0 Y0 D0 X1 Y1 tx ty v0 v1 v2).Runs (BB w h g) 50 (ce [qn]) [⟨fun A tk O ρs ρ=>(ah w.params h g (A 0) (A 1) e er X0 Y0 D0 X1 Y1 3 tx ty (tk 3)).S,[0,1],[0],none⟩,⟨fun A tk O ρs ρ=>(lO w.params h g (A 2) eh D0 (tk 4) [v0,v1,v2]).S,[2],[],none⟩] cb:=by
 intro ν τ υ π ς ρ own past κ bl p
 kernel_rfl
theorem v8 (w:World) h g s r e er th eh X0 Y0 D0 X1 Y1 tx ty v0 v1 v2 v3 (cb:Bool):(wz w.params h g s r e er th eh X0 Y0 D0 X1 Y1 tx ty v0 v1 v2 v3).Runs (BB w h g) 50 (ce [qn]) [⟨fun A tk O ρs ρ=>(ah w.params h g (A 0) (A 1) e er X0 Y0 D0 X1 Y1 4 tx ty (tk 3)).S,[0,1],[0],none⟩,⟨fun A tk O ρs ρ=>(lO w.params h g (A 2) eh D0 (tk 4) [v0,v1,v2,v3]).S,[2],[],none⟩] cb:=by
 intro ν τ υ π ς ρ own past κ bl p
 kernel_rfl
theorem tZ (w:World) h g s r e er th eh X0 Y0 D0 X1 Y1 tx ty v0 v1 v2 v3 v4 (cb:Bool):(zF w.params h g s r e er th eh X0 Y0 D0 X1 Y1 tx ty v0 v1 v2 v3 v4).Runs (BB w h g) 50 (ce [qn]) [⟨fun A tk O ρs ρ=>(ah w.params h g (A 0) (A 1) e er X0 Y0 D0 X1 Y1 5 tx ty (tk 3)).S,[0,1],[0],none⟩,⟨fun A tk O ρs ρ=>(lO w.params h g (A 2) eh D0 (tk 4) [v0,v1,v2,v3,v4]).S,[2],[],none⟩] cb:=by
 intro ν τ υ π ς ρ own past κ bl p
 kernel_rfl
theorem tO (w:World) h g s r e er th eh X0 Y0 D0 X1 Y1 tx ty v0 v1 v2 v3 v4 v5 v6 v7 (cb:Bool):(xJ w.params h g s r e er th eh X0 Y0 D0 X1 Y1 tx ty v0 v1 v2 v3 v4 v5 v6 v7).Runs (BB w h g) 50 (ce [qn]) [⟨fun A tk O ρs ρ=>(ah w.params h g (A 0) (A 1) e er X0 Y0 D0 X1 Y1 8 tx ty (tk 3)).S,[0,1],[0],none⟩,⟨fun A tk O ρs ρ=>(lO w.params h g (A 2) eh D0 (tk 4) [v0,v1,v2,v3,v4,v5,v6,v7]).S,[2],[],none⟩] cb:=by
 intro ν τ υ π ς ρ own past κ bl p
 kernel_rfl
section
open PySem.SeqAt
noncomputable def cl (B:Base):List Use→Prop
 | []=>True
 | u::us=>(∀ A tk O ρs,bE B u.tl (u.S A tk O ρs))∧cl B us
theorem cl.all {B:Base}:∀ {us:List Use},cl B us→∀ u:Use,u∈us→∀ A tk O ρs,bE B u.tl (u.S A tk O ρs)
 | v::us,h,u,hu=>by
  rcases List.mem_cons.mp hu with rfl | hu
  ·exact h.1
  ·exact cl.all h.2 u hu
theorem aO {B:Base} {u:Use} {us:List Use} (h:∀ A tk O ρs,bE B u.tl (u.S A tk O ρs)) (k:cl B us):cl B (u::us):=⟨h,k⟩
theorem ao {B:Base}:cl B []:=trivial
theorem RS.doneL {B:Base} (O:B.Ok) {lb:List LibE} (hlb:∀ e:LibE,e∈lb→∀ c cs ms,(e.S c cs ms).Holds B) {D:RS} {us:List Use} (H:D.RunL B lb us) (htl:D.tl=none) (hcl:∀ ob q,D.SO ob q=D.S) (hus:cl B us):D.S.Holds B:=RS.holdsL O hlb hus.all htl hcl H
theorem RS.done {B:Base} (O:B.Ok) {D:RS} {us:List Use} (H:D.Run B us) (htl:D.tl=none) (hcl:∀ ob q,D.SO ob q=D.S) (hus:cl B us):D.S.Holds B:=RS.holds O hus.all htl hcl H
noncomputable def eQ (e:DictEntry):Bool:=match e.key with
 | .str _ _=>true
 | _=>false
theorem tF (P : Params) : ∃ o es ep, (Mine.Scr.KT0 P).get cStatics = some o ∧ o.data = .dict es ep ∧ es.toList.all eQ = true ∧ nsFind es "sys.recursionlimit" = none := by
 have h:(match (Mine.Scr.KT0 P).get cStatics with
  | some o=>match o.data with
   | .dict es _ => es.toList.all eQ && (nsFind es "sys.recursionlimit").isNone
   | _=>false
  | none=>false)=true:=by kernel_rfl
 split at h
 ·rename_i o ho
  split at h
  ·rename_i es ep hd
   obtain ⟨h1,h2⟩:=Bool.and_eq_true_iff.mp h
   exact ⟨o,es,ep,ho,hd,h1,Option.isNone_iff_eq_none.mp h2⟩
  ·cases h
 ·cases h
theorem yO (P:Params):((Mine.Scr.KT0 P).get 1568).isSome=true:=by kernel_rfl
theorem B6 (P:Params):∀ d,d<7→(Mine.Scr.KT0 P).get (A9 d)=some ⟨.type Le,none,.func (Gr P d),#[]⟩
 | 0,_=>by kernel_rfl
 | 1,_=>by kernel_rfl
 | 2,_=>by kernel_rfl
 | 3,_=>by kernel_rfl
 | 4,_=>by kernel_rfl
 | 5,_=>by kernel_rfl
 | 6,_=>by kernel_rfl
theorem Di (P:Params) (d:Nat):(Mine.Scr.KT0 P).get (EK P d).a=some (EK P d).o:=B6 P (d % 7) (Nat.mod_lt _ (by decide))
theorem dU (w:World) (en:ST):(B2 w en).Ok:=by
 refine ⟨fun s ht=>?_,fun s ht=>?_,fun s ht d=>ht.1 _ _ (Di w.params d)⟩
 ·obtain ⟨o,es,ep,h1,h2,h3,h4⟩:=tF w.params
  refine ⟨_,⟨o,es,ep,ht.1 _ _ h1,h2,fun e he=>?_,fun _=>rfl⟩,h4⟩
  have:=List.all_eq_true.mp h3 e (by simpa using he)
  unfold eQ at this
  split at this
  ·exact ⟨_,_,by assumption⟩
  ·cases this
 ·obtain ⟨o,ho⟩:=Option.isSome_iff_exists.mp (yO w.params)
  have hlt:(1568:Nat)<s.heap.objs.size:=Heap.lt_size (ht.1 _ _ ho)
  exact Nat.le_trans (by decide) (Nat.le_of_lt hlt)
theorem cw (w:World) (h g:Nat→Nat):(BB w h g).Ok:=dU w _
theorem After.retell {B:Base} {S S':Spec} {s s':Shared} {bs ts ts':List Nat} (A:After B S s s' bs ts) (hm:S'.mu=S.mu) (hd:S'.dy=S.dy) (hp:S'.po [] ts'=S.po bs ts) (hb:S'.nb=0) (ht:ts'.length=S'.nt):After B S' s s' [] ts':=by
 refine ⟨A.top,fun a o h q=>?_,A.size,A.gens,A.os,fun j a o h1 h2=>?_,fun j a o h=>by simp at h,fun a h=>by simp at h,List.nodup_nil,hb.symm,ht⟩
 ·rw [hd]; exact A.keep a o h (hm▸q)
 ·rw [hd]; rw [hm] at h1; rw [hp] at h2; exact A.po j a o h1 h2
theorem RS.retell {B:Base} {D D':RS} (h:D.S.Holds B) (e1:D'.lv=D.lv) (e2:D'.sh=D.sh) (e3:D'.c=D.c) (e4:D'.cells=D.cells) (e5:D'.dy=D.dy) (e6:D'.di=D.di)
 (af:∀ s s' bs ts,After B D.S s s' bs ts→∃ bs' ts',After B D'.S s s' bs' ts'∧D'.r bs' ts'=D.r bs ts):D'.S.Holds B:=by
 intro Γ p s R ok k
 refine h Γ p s R ⟨?_,ok.hand,?_,?_,ok.top,fun q=>?_,fun x hx=>?_,?_⟩ fun s' bs ts A=>?_
 ·exact ok.code.trans e3
 ·have:=ok.fit; rw [show D'.S.sh=D.S.sh from e2] at this; exact this
 ·have:=ok.room; rw [show D'.S.lv=D.S.lv from e1] at this; exact this
 ·have:=ok.stk (show D'.dy=true from e5.trans q)
  rw [show D'.S.mu=D.S.mu from congrArg cC e4] at this
  exact this
 ·have:=ok.pre x (by rw [show D'.S.pre=D.S.pre from congrArg bU e4]; exact hx)
  rw [show D'.S.di=D.S.di from e6] at this
  exact this
 ·have:=ok.nd; rw [show D'.S.pre=D.S.pre from congrArg bU e4] at this; exact this
 ·obtain ⟨bs',ts',A',e⟩:=af s s' bs ts A
  have:=k s' bs' ts' A'
  rw [show D'.S.r bs' ts'=D'.r bs' ts' from rfl,e] at this
  exact this
noncomputable def a0 (X Y top d X' Y':Nat):Prop :=
 (0<X∧d=X % top∧X'=X / top∧Y'=Y)∨(X=0∧X'=0∧Y'=(Y * 39373+7) % 2147483647∧d=Y' * Y' % 2147483629 / 32 % top)
theorem a0.lt {X Y top d X' Y':Nat} (h:a0 X Y top d X' Y') (ht:0<top):d<top:=by
 rcases h with ⟨_,rfl,_⟩ | ⟨_,_,_,rfl⟩ <;> exact Nat.mod_lt _ ht
theorem a0.ex (X Y top:Nat):∃ d X' Y',a0 X Y top d X' Y':=by
 rcases Nat.eq_zero_or_pos X with h | h
 ·exact ⟨_,_,_,.inr ⟨h,rfl,rfl,rfl⟩⟩
 ·exact ⟨_,_,_,.inl ⟨h,rfl,rfl,rfl⟩⟩
theorem qK {en:ST} (w:World) (h g:Nat→Nat) (neg:Bool) (a a' e e':Nat):(dX w.params h g neg false (.s false a e []) (.s false a' e' []) (!neg) []).S.Holds (B2 w en) :=
 F6 w h g neg false a a' e e' [] [] (!neg) [] true (by cases neg <;> rfl) (Nat.le_of_ble_eq_true (by kernel_rfl)) (.inl (.nil _ _ _ _ _)) fun x hx=>by rw [bP]; exact hx
theorem dj {l:List Nat} (h:l.length=2):∃ a b,l=[a,b]:=by
 match l,h with
 | [a,b],_=>exact ⟨a,b,rfl⟩
theorem fY {en:ST} (w:World) (h g:Nat→Nat) (s r e er X Y d X' Y' top tx ty tt:Nat) (hD:a0 X Y top d X' Y') (h0:0<top) (h1:top<1000):(ah w.params h g s r e er X Y d X' Y' (Int.ofNat top) tx ty tt).S.Holds (B2 w en):=by
 rcases hD with ⟨hX,rfl,rfl,rfl⟩ | ⟨rfl,rfl,hy,rfl⟩
 ·have H:=RS.done (dU w en) (.one (DB w en h g s r e er X Y' top (X % top) (X / top) tx ty tt)) rfl (fun _ _=>rfl)
   (aO (fun A tk O ρs=>(qK w h g true (A 1) (A 3) er 0).e) (aO (fun A tk O ρs=>(GB w h g X tx (tk 4) true (decide_eq_true hX)).e)
    (aO (fun A tk O ρs=>(fg w h g X top (X % top) tx tt h0 rfl).e) (aO (fun A tk O ρs=>(Ej w h g X top (X / top) tx tt h0 (by omega) rfl).e) ao))))
  refine RS.retell H rfl rfl rfl rfl rfl rfl fun s₀ s' bs ts A=>?_
  obtain ⟨a,b,rfl⟩:=dj A.lent
  exact ⟨[],[a,b,ty],A.retell rfl rfl rfl rfl rfl,rfl⟩
 ·have hy':Y'<2147483647:=hy▸Nat.mod_lt _ (by decide)
  have H:=RS.done (dU w en) (.one (Bn w en h g s r e er Y top (Y * 39373) (Y * 39373+7) Y' (Y' * Y') (Y' * Y' % 2147483629) (Y' * Y' % 2147483629 / 32) (Y' * Y' % 2147483629 / 32 % top) tx ty tt)) rfl (fun _ _=>rfl)
   (aO (fun A tk O ρs=>(qK w h g true (A 1) (A 3) er 0).e) (aO (fun A tk O ρs=>(gX w h g Y 39373 _ ty (tk 6) (by decide) rfl).e)
    (aO (fun A tk O ρs=>(pB w h g (Y * 39373) 7 _ (tk 7) (tk 8) rfl).e) (aO (fun A tk O ρs=>(fg w h g (Y * 39373+7) 2147483647 Y' (tk 9) (tk 10) (by decide) hy).e)
    (aO (fun A tk O ρs=>(gX w h g Y' Y' _ (tk 11) (tk 11) (by omega) rfl).e)
    (aO (fun A tk O ρs=>(fg w h g (Y' * Y') 2147483629 _ (tk 15) (tk 16) (by decide) rfl).e) (aO (fun A tk O ρs=>(Ej w h g (Y' * Y' % 2147483629) 32 _ (tk 17) (tk 18) (by decide) (by decide) rfl).e)
    (aO (fun A tk O ρs=>(fg w h g (Y' * Y' % 2147483629 / 32) top _ (tk 19) tt h0 rfl).e) ao))))))))
  refine RS.retell H rfl rfl rfl rfl rfl rfl fun s₀ s' bs ts A=>?_
  obtain ⟨a,b,rfl⟩:=dj A.lent
  exact ⟨[],[a,tx,b],A.retell rfl rfl rfl rfl rfl,rfl⟩
theorem oH (w:World) (h g:Nat→Nat) (s r e er th eh X Y d X' Y' tx ty:Nat) (v0 v1:Value) (hD:a0 X Y 2 d X' Y'):(aJ w.params h g s r e er th eh X Y d X' Y' tx ty [v0,v1]).S.Holds (BB w h g):=by
 have H:=RS.done (cw w h g) (.one (sJ w h g s r e er th eh X Y d X' Y' tx ty v0 v1)) rfl (fun _ _=>rfl)
  (aO (fun A tk O ρs=>(fY w h g (A 0) (A 1) e er X Y d X' Y' 2 tx ty (tk 3) hD (by decide) (by decide)).e) (aO (fun A tk O ρs=>(m6 w h g (A 2) eh d (tk 4) [v0,v1] (hD.lt (by decide)) (Nat.le_of_ble_eq_true rfl)).e) ao))
 refine RS.retell H rfl rfl rfl rfl rfl rfl fun s₀ s' bs ts A=>?_
 obtain ⟨a,b,rfl⟩:=dj A.lent
 exact ⟨[],[a,b],A.retell rfl rfl rfl rfl rfl,rfl⟩
theorem yR (w:World) (h g:Nat→Nat) (s r e er th eh X Y d X' Y' tx ty:Nat) (v0 v1 v2:Value) (hD:a0 X Y 3 d X' Y'):(aJ w.params h g s r e er th eh X Y d X' Y' tx ty [v0,v1,v2]).S.Holds (BB w h g):=by
 have H:=RS.done (cw w h g) (.one (ut w h g s r e er th eh X Y d X' Y' tx ty v0 v1 v2)) rfl (fun _ _=>rfl)
  (aO (fun A tk O ρs=>(fY w h g (A 0) (A 1) e er X Y d X' Y' 3 tx ty (tk 3) hD (by decide) (by decide)).e) (aO (fun A tk O ρs=>(m6 w h g (A 2) eh d (tk 4) [v0,v1,v2] (hD.lt (by decide)) (Nat.le_of_ble_eq_true rfl)).e) ao))
 refine RS.retell H rfl rfl rfl rfl rfl rfl fun s₀ s' bs ts A=>?_
 obtain ⟨a,b,rfl⟩:=dj A.lent
 exact ⟨[],[a,b],A.retell rfl rfl rfl rfl rfl,rfl⟩
theorem qk (w:World) (h g:Nat→Nat) (s r e er th eh X Y d X' Y' tx ty:Nat) (v0 v1 v2 v3:Value) (hD:a0 X Y 4 d X' Y'):(aJ w.params h g s r e er th eh X Y d X' Y' tx ty [v0,v1,v2,v3]).S.Holds (BB w h g):=by
 have H:=RS.done (cw w h g) (.one (v8 w h g s r e er th eh X Y d X' Y' tx ty v0 v1 v2 v3)) rfl (fun _ _=>rfl)
  (aO (fun A tk O ρs=>(fY w h g (A 0) (A 1) e er X Y d X' Y' 4 tx ty (tk 3) hD (by decide) (by decide)).e) (aO (fun A tk O ρs=>(m6 w h g (A 2) eh d (tk 4) [v0,v1,v2,v3] (hD.lt (by decide)) (Nat.le_of_ble_eq_true rfl)).e) ao))
 refine RS.retell H rfl rfl rfl rfl rfl rfl fun s₀ s' bs ts A=>?_
 obtain ⟨a,b,rfl⟩:=dj A.lent
 exact ⟨[],[a,b],A.retell rfl rfl rfl rfl rfl,rfl⟩
theorem zZ (w:World) (h g:Nat→Nat) (s r e er th eh X Y d X' Y' tx ty:Nat) (v0 v1 v2 v3 v4:Value) (hD:a0 X Y 5 d X' Y'):(aJ w.params h g s r e er th eh X Y d X' Y' tx ty [v0,v1,v2,v3,v4]).S.Holds (BB w h g):=by
 have H:=RS.done (cw w h g) (.one (tZ w h g s r e er th eh X Y d X' Y' tx ty v0 v1 v2 v3 v4)) rfl (fun _ _=>rfl)
  (aO (fun A tk O ρs=>(fY w h g (A 0) (A 1) e er X Y d X' Y' 5 tx ty (tk 3) hD (by decide) (by decide)).e) (aO (fun A tk O ρs=>(m6 w h g (A 2) eh d (tk 4) [v0,v1,v2,v3,v4] (hD.lt (by decide)) (Nat.le_of_ble_eq_true rfl)).e) ao))
 refine RS.retell H rfl rfl rfl rfl rfl rfl fun s₀ s' bs ts A=>?_
 obtain ⟨a,b,rfl⟩:=dj A.lent
 exact ⟨[],[a,b],A.retell rfl rfl rfl rfl rfl,rfl⟩
theorem x9 (w:World) (h g:Nat→Nat) (s r e er th eh X Y d X' Y' tx ty:Nat) (v0 v1 v2 v3 v4 v5 v6 v7:Value) (hD:a0 X Y 8 d X' Y'):(aJ w.params h g s r e er th eh X Y d X' Y' tx ty [v0,v1,v2,v3,v4,v5,v6,v7]).S.Holds (BB w h g):=by
 have H:=RS.done (cw w h g) (.one (tO w h g s r e er th eh X Y d X' Y' tx ty v0 v1 v2 v3 v4 v5 v6 v7)) rfl (fun _ _=>rfl)
  (aO (fun A tk O ρs=>(fY w h g (A 0) (A 1) e er X Y d X' Y' 8 tx ty (tk 3) hD (by decide) (by decide)).e) (aO (fun A tk O ρs=>(m6 w h g (A 2) eh d (tk 4) [v0,v1,v2,v3,v4,v5,v6,v7] (hD.lt (by decide)) (Nat.le_of_ble_eq_true rfl)).e) ao))
 refine RS.retell H rfl rfl rfl rfl rfl rfl fun s₀ s' bs ts A=>?_
 obtain ⟨a,b,rfl⟩:=dj A.lent
 exact ⟨[],[a,b],A.retell rfl rfl rfl rfl rfl,rfl⟩
theorem mK {w:World} {h g:Nat→Nat} {s r e er th eh X Y d X' Y' tx ty:Nat} {l:List Value} {v:Value} (H:(aJ w.params h g s r e er th eh X Y d X' Y' tx ty l).S.Holds (BB w h g)) (hv:v=fv l d):(jE w.params h g s r e er th eh X Y d X' Y' tx ty l v).S.Holds (BB w h g):=by
 subst hv
 exact H
theorem zz (w:World) (h g:Nat→Nat) (s r e er th eh X Y d X' Y' tx ty:Nat) (b0 b1 b2 b3:Array UInt8) (t0 t1 t2 t3:Nat) (hD:a0 X Y 4 d X' Y'):(ay w.params h g s r e er th eh X Y d X' Y' tx ty b0 b1 b2 b3 t0 t1 t2 t3).S.Holds (BB w h g) :=
 mK (qk w h g s r e er th eh X Y d X' Y' tx ty _ _ _ _ hD) (by
  have hl:=hD.lt (by decide)
  match d,hl with
  | 0,_=>rfl
  | 1,_=>rfl
  | 2,_=>rfl
  | 3,_=>rfl)
theorem yQ (w:World) (h g:Nat→Nat) (s r e er th eh X Y d X' Y' tx ty:Nat) (b0 b1:Array UInt8) (t0 t1:Nat) (hD:a0 X Y 2 d X' Y'):(bT w.params h g s r e er th eh X Y d X' Y' tx ty b0 b1 t0 t1).S.Holds (BB w h g) :=
 mK (oH w h g s r e er th eh X Y d X' Y' tx ty _ _ hD) (by
  have hl:=hD.lt (by decide)
  match d,hl with
  | 0,_=>rfl
  | 1,_=>rfl)
theorem wN (w:World) (h g:Nat→Nat) (s r e er th eh X Y d X' Y' tx ty:Nat) (b0 b1 b2 b3 b4:Int) (t0 t1 t2 t3 t4:Nat) (hD:a0 X Y 5 d X' Y'):(aA w.params h g s r e er th eh X Y d X' Y' tx ty b0 b1 b2 b3 b4 t0 t1 t2 t3 t4).S.Holds (BB w h g) :=
 mK (zZ w h g s r e er th eh X Y d X' Y' tx ty _ _ _ _ _ hD) (by
  have hl:=hD.lt (by decide)
  match d,hl with
  | 0,_=>rfl
  | 1,_=>rfl
  | 2,_=>rfl
  | 3,_=>rfl
  | 4,_=>rfl)
theorem zq (w:World) (h g:Nat→Nat) (s r e er th eh X Y d X' Y' tx ty:Nat) (b0 b1 b2 b3:Str) (t0 t1 t2 t3:Nat) (hD:a0 X Y 4 d X' Y'):(az w.params h g s r e er th eh X Y d X' Y' tx ty b0 b1 b2 b3 t0 t1 t2 t3).S.Holds (BB w h g) :=
 mK (qk w h g s r e er th eh X Y d X' Y' tx ty _ _ _ _ hD) (by
  have hl:=hD.lt (by decide)
  match d,hl with
  | 0,_=>rfl
  | 1,_=>rfl
  | 2,_=>rfl
  | 3,_=>rfl)
end
section
open PySem.SeqAt
theorem kI {w:World} {h g:Nat→Nat} {t:Nat}:(aM w.params h g En t).S.Holds (BB w h g):=bI _ _ _ _ _ (by kernel_rfl)
theorem kf {w:World} {h g:Nat→Nat} {t:Nat}:(aM w.params h g Qr t).S.Holds (BB w h g):=bI _ _ _ _ _ (by kernel_rfl)
theorem iJ {w:World} {h g:Nat→Nat} {t:Nat}:(aM w.params h g Qm t).S.Holds (BB w h g):=bI _ _ _ _ _ (by kernel_rfl)
theorem pC {w:World} {h g:Nat→Nat} {t:Nat}:(aM w.params h g EO t).S.Holds (BB w h g):=bI _ _ _ _ _ (by kernel_rfl)
theorem nG {w:World} {h g:Nat→Nat} {t:Nat}:(aM w.params h g EP t).S.Holds (BB w h g):=bI _ _ _ _ _ (by kernel_rfl)
theorem iT {w:World} {h g:Nat→Nat} {t:Nat}:(aM w.params h g Ey t).S.Holds (BB w h g):=bI _ _ _ _ _ (by kernel_rfl)
theorem mY {w:World} {h g:Nat→Nat} {t:Nat}:(aM w.params h g Qh t).S.Holds (BB w h g):=bI _ _ _ _ _ (by kernel_rfl)
theorem gL {w:World} {h g:Nat→Nat} {t:Nat}:(aM w.params h g Qu t).S.Holds (BB w h g):=bI _ _ _ _ _ (by kernel_rfl)
theorem np {w:World} {h g:Nat→Nat} {t:Nat}:(aM w.params h g Qq t).S.Holds (BB w h g):=bI _ _ _ _ _ (by kernel_rfl)
theorem gJ {w:World} {h g:Nat→Nat} {t:Nat}:(aM w.params h g EG t).S.Holds (BB w h g):=bI _ _ _ _ _ (by kernel_rfl)
theorem iX {w:World} {h g:Nat→Nat} {t:Nat}:(aM w.params h g Dr t).S.Holds (BB w h g):=bI _ _ _ _ _ (by kernel_rfl)
theorem kz {w:World} {h g:Nat→Nat} {t:Nat}:(aM w.params h g Bh t).S.Holds (BB w h g):=bI _ _ _ _ _ (by kernel_rfl)
theorem jt {w:World} {h g:Nat→Nat} {t:Nat}:(aM w.params h g Qs t).S.Holds (BB w h g):=bI _ _ _ _ _ (by kernel_rfl)
theorem jy {w:World} {h g:Nat→Nat} {t:Nat}:(aM w.params h g Qv t).S.Holds (BB w h g):=bI _ _ _ _ _ (by kernel_rfl)
theorem of {w:World} {h g:Nat→Nat} {t:Nat}:(aM w.params h g Qj t).S.Holds (BB w h g):=bI _ _ _ _ _ (by kernel_rfl)
theorem lC {w:World} {h g:Nat→Nat} {t:Nat}:(aM w.params h g Qz t).S.Holds (BB w h g):=bI _ _ _ _ _ (by kernel_rfl)
theorem nI {w:World} {h g:Nat→Nat} {t:Nat}:(dG w.params h g Q2 t).S.Holds (BB w h g):=mA _ _ _ _ _ (by kernel_rfl)
theorem pK {w:World} {h g:Nat→Nat} {t:Nat}:(dG w.params h g Q0 t).S.Holds (BB w h g):=mA _ _ _ _ _ (by kernel_rfl)
theorem lJ {w:World} {h g:Nat→Nat} {t:Nat}:(dG w.params h g Q4 t).S.Holds (BB w h g):=mA _ _ _ _ _ (by kernel_rfl)
theorem nZ {w:World} {h g:Nat→Nat} {t:Nat}:(dG w.params h g Q3 t).S.Holds (BB w h g):=mA _ _ _ _ _ (by kernel_rfl)
theorem BQ {w:World} {h g:Nat→Nat} {t:Nat}:(bR w.params h g ⟨#[33,61]⟩ t).S.Holds (BB w h g):=g5 _ _ _ _ _ (by kernel_rfl)
theorem Cj {w:World} {h g:Nat→Nat} {t:Nat}:(bR w.params h g ⟨#[42]⟩ t).S.Holds (BB w h g):=g5 _ _ _ _ _ (by kernel_rfl)
theorem E7 {w:World} {h g:Nat→Nat} {t:Nat}:(bR w.params h g ⟨#[43]⟩ t).S.Holds (BB w h g):=g5 _ _ _ _ _ (by kernel_rfl)
theorem Ca {w:World} {h g:Nat→Nat} {t:Nat}:(bR w.params h g ⟨#[45]⟩ t).S.Holds (BB w h g):=g5 _ _ _ _ _ (by kernel_rfl)
theorem BR {w:World} {h g:Nat→Nat} {t:Nat}:(bR w.params h g ⟨#[60]⟩ t).S.Holds (BB w h g):=g5 _ _ _ _ _ (by kernel_rfl)
theorem Bk {w:World} {h g:Nat→Nat} {t:Nat}:(bR w.params h g ⟨#[61,61]⟩ t).S.Holds (BB w h g):=g5 _ _ _ _ _ (by kernel_rfl)
theorem Cr {w:World} {h g:Nat→Nat} {t:Nat}:(bR w.params h g Qy t).S.Holds (BB w h g):=g5 _ _ _ _ _ (by kernel_rfl)
theorem AB {w:World} {h g:Nat→Nat} {t:Nat}:(fT w.params h g ⟨#[42]⟩ t).S.Holds (BB w h g):=ri _ _ _ _ _ (by kernel_rfl)
theorem DI {w:World} {h g:Nat→Nat} {t:Nat}:(fT w.params h g ⟨#[43]⟩ t).S.Holds (BB w h g):=ri _ _ _ _ _ (by kernel_rfl)
theorem E5 {w:World} {h g:Nat→Nat} {t:Nat}:(fT w.params h g ⟨#[45]⟩ t).S.Holds (BB w h g):=ri _ _ _ _ _ (by kernel_rfl)
theorem DD {w:World} {h g:Nat→Nat} {t:Nat}:(pG w.params h g Q1 t).S.Holds (BB w h g):=AV _ _ _ _ _ (by kernel_rfl)
theorem Cp {w:World} {h g:Nat→Nat} {d t1 t2 t:Nat} {v1 v2:Value}:(Bl w.params h g d Q1 Qc t1 t2 v1 v2 Q1 t).S.Holds (BB w h g):=FS _ _ _ _ _ _ _ _ _ _ _ _ (by kernel_rfl)
theorem Db {w:World} {h g:Nat→Nat} {d t1 t2 t:Nat} {v1 v2:Value}:(Bl w.params h g d Q1 Qc t1 t2 v1 v2 Qc t).S.Holds (BB w h g):=FS _ _ _ _ _ _ _ _ _ _ _ _ (by kernel_rfl)
theorem vB {w:World} {h g:Nat→Nat} {n:Nat} {K:List (Nat × Value)} {t:Nat} {v:Value} (hK:ag K=n) (hn:n≤1000):(mF w.params h g n K t v).S.Holds (BB w h g):=BD _ _ _ _ _ _ _ hK hn
theorem aW {w:World} {h g:Nat→Nat} {n:Nat} {K:List (Nat × Value)} {x:Nat × Value} {t:Nat} (hK:ag K=n):(aS w.params h g n K x t).S.Holds (BB w h g):=Ao _ _ _ _ _ _ _ hK
theorem aV {w:World} {h g:Nat→Nat} {n:Nat} {K:List (Nat × Value)} {x:Nat × Value} {t:Nat} (hK:ag K=n):(aT w.params h g n K x t).S.Holds (BB w h g):=CN _ _ _ _ _ _ _ hK
theorem wG {n:Nat} {K:List (Nat × Value)} {x:Nat × Value} (hK:ag K=n):ag (x::K)=n+1:=congrArg (·+1) hK
theorem yV {w:World} {h g:Nat→Nat} {i:Int} {t t2:Nat} {s:Str}:(lr w.params h g i t t2 s).S.Holds (BB w h g):=yG _ _ _ _ _ _ _
theorem B0 {w:World} {h g:Nat→Nat} {en e:Nat}:(jL w.params h g en e).S.Holds (BB w h g):=Dc _ _ _ _ _
theorem FG {w:World} {h g:Nat→Nat} {en mk t1 t2:Nat} {k:Int}:(rA w.params h g en mk t1 t2 k).S.Holds (BB w h g):=F4 _ _ _ _ _ _ _ _
theorem Fd {w:World} {h g:Nat→Nat} {en mk t1 t2:Nat} {k:Int} {v:Value}:(sD w.params h g en mk t1 t2 k v).S.Holds (BB w h g):=Fp _ _ _ _ _ _ _ _ _
theorem Fq {w:World} {h g:Nat→Nat} {en mk t1 t2 mk' t1' t2':Nat} {k:Int} {v:Value}:(tA w.params h g en mk t1 t2 mk' t1' t2' k v).S.Holds (BB w h g):=Fy _ _ _ _ _ _ _ _ _ _ _ _
theorem Fk {w:World} {h g:Nat→Nat} {en mk t1 t2 mk' t1' t2':Nat} {k k':Int} {v:Value} (hne:k≠k'):(uP w.params h g en mk t1 t2 mk' t1' t2' k k' v).S.Holds (BB w h g):=Fu _ _ _ _ _ _ _ _ _ _ _ _ _ hne
theorem FM {w:World} {h g:Nat→Nat} {en mk t1 t2 mk' t1' t2':Nat} {k:Int} {v:Value}:(uV w.params h g en mk t1 t2 mk' t1' t2' k v).S.Holds (BB w h g):=FD _ _ _ _ _ _ _ _ _ _ _ _
theorem eI {i:Int} {t u:Nat}:EqD (.v (.int i t)) (.v (.int i u)) true:=.int _ _ _ _ _ (decide_eq_true rfl)
theorem qU {i:Str} {t u:Nat}:EqD (.v (.str i t)) (.v (.str i u)) true:=.str _ _ _ _ _ (beq_self_eq_true _)
theorem eB {i:Array UInt8} {t u:Nat}:EqD (.v (.bytes i t)) (.v (.bytes i u)) true:=.bytes _ _ _ _ _ (beq_self_eq_true _)
theorem eN {k:Bool} {a a' e e':Nat}:EqD (.s k a e []) (.s k a' e' []) true:=.nil _ _ _ _ _
theorem eO {k:Bool} {a a' e e':Nat} {x y:DT} {l l':List DT} {b:Bool} (h1:EqD x y true) (h2:EqD (.s k a e l) (.s k a' e' l') b):EqD (.s k a e (x::l)) (.s k a' e' (y::l')) b:=.one _ _ _ _ _ _ _ _ _ _ h1 h2
theorem eF {k:Bool} {a a' e e':Nat} {x y:DT} {l l':List DT} {b:Bool} (h1:EqD x y false) (h2:EqD (.s k a e l) (.s k a' e' l') b):EqD (.s k a e (x::l)) (.s k a' e' (y::l')) false:=.off _ _ _ _ _ _ _ _ _ _ h1 h2
theorem jb {l:List Cell}:∀ x,x∈l→x∈bo [] 0 l:=fun x hx=>by rw [bP]; exact hx
theorem CZ {a b c d e:Cell}:∀ x,x∈[a,b,c,d,e,e]→x∈bo [5] 0 [a,b,c,d,e,e]:=fun x hx=>by
 show x∈[a,b,c,d,e]
 simp only [List.mem_cons,List.not_mem_nil,or_false] at hx ⊢
 rcases hx with h | h | h | h | h | h <;> simp [h]
theorem ED {a:Cell}:∀ x,x∈[a,a]→x∈bo [1] 0 [a,a]:=fun x hx=>by
 show x∈[a]
 simp only [List.mem_cons,List.not_mem_nil,or_false] at hx ⊢
 rcases hx with h | h <;> simp [h]
theorem gF {en:ST} {w:World} {h g:Nat→Nat} {neg k:Bool} {a a' e e':Nat} {l l':List DT} {b:Bool} {dr:List Nat} (c:Bool) (hb:b=(if neg then !c else c)) (hdep:(DT.s k a e l).dep≤50)
 (hq:EqD (.s k a e l) (.s k a' e' l') c∨(c=false∧EqP l l')) (hd:∀ x,x∈(DT.s k a e l).cells ++ (DT.s k a' e' l').cells→x∈bo dr 0 ((DT.s k a e l).cells ++ (DT.s k a' e' l').cells)) :
 (dX w.params h g neg k (.s k a e l) (.s k a' e' l') b dr).S.Holds (B2 w en):=F6 w h g neg k a a' e e' l l' b dr c hb hdep hq hd
theorem Ac {w:World} {h g:Nat→Nat} {a b e e':Nat} {l m:List Value} (hl:cz l) (hm:cz m):(vu w.params h g a b e e' l m).S.Holds (BB w h g):=GM _ _ _ _ _ _ _ _ _ hl hm
theorem xK {w:World} {h g:Nat→Nat} {a b n n':Nat} {l m:List Value} (hlen:l.length+m.length≤1000) (hm:0<m.length):(kc w.params h g a b n n' l m).S.Holds (BB w h g):=Fx _ _ _ _ _ _ _ _ _ hlen hm
theorem am {en:ST} {w:World} {h g:Nat→Nat} {s r e er X Y d X' Y' top tx ty tt:Nat} (hD:a0 X Y top d X' Y') (h0:0<top) (h1:top<1000):(ah w.params h g s r e er X Y d X' Y' (Int.ofNat top) tx ty tt).S.Holds (B2 w en):=fY _ _ _ _ _ _ _ _ _ _ _ _ _ _ _ _ hD h0 h1
theorem cK {w:World} {h g:Nat→Nat} {s r e er th eh X Y d X' Y' tx ty:Nat} {v0 v1:Value} (hD:a0 X Y 2 d X' Y'):(aJ w.params h g s r e er th eh X Y d X' Y' tx ty [v0,v1]).S.Holds (BB w h g):=oH _ _ _ _ _ _ _ _ _ _ _ _ _ _ _ _ _ _ hD
theorem aI {w:World} {h g:Nat→Nat} {s r e er th eh X Y d X' Y' tx ty:Nat} {v0 v1 v2:Value} (hD:a0 X Y 3 d X' Y'):(aJ w.params h g s r e er th eh X Y d X' Y' tx ty [v0,v1,v2]).S.Holds (BB w h g):=yR _ _ _ _ _ _ _ _ _ _ _ _ _ _ _ _ _ _ _ hD
theorem cI {w:World} {h g:Nat→Nat} {s r e er th eh X Y d X' Y' tx ty:Nat} {v0 v1 v2 v3 v4 v5 v6 v7:Value} (hD:a0 X Y 8 d X' Y'):(aJ w.params h g s r e er th eh X Y d X' Y' tx ty [v0,v1,v2,v3,v4,v5,v6,v7]).S.Holds (BB w h g):=x9 _ _ _ _ _ _ _ _ _ _ _ _ _ _ _ _ _ _ _ _ _ _ _ _ hD
theorem aC {w:World} {h g:Nat→Nat} {s r e er th eh X Y d X' Y' tx ty:Nat} {b0 b1 b2 b3:Array UInt8} {t0 t1 t2 t3:Nat} (hD:a0 X Y 4 d X' Y'):(ay w.params h g s r e er th eh X Y d X' Y' tx ty b0 b1 b2 b3 t0 t1 t2 t3).S.Holds (BB w h g):=zz _ _ _ _ _ _ _ _ _ _ _ _ _ _ _ _ _ _ _ _ _ _ _ _ hD
theorem cr {w:World} {h g:Nat→Nat} {s r e er th eh X Y d X' Y' tx ty:Nat} {b0 b1:Array UInt8} {t0 t1:Nat} (hD:a0 X Y 2 d X' Y'):(bT w.params h g s r e er th eh X Y d X' Y' tx ty b0 b1 t0 t1).S.Holds (BB w h g):=yQ _ _ _ _ _ _ _ _ _ _ _ _ _ _ _ _ _ _ _ _ hD
theorem aD {w:World} {h g:Nat→Nat} {s r e er th eh X Y d X' Y' tx ty:Nat} {b0 b1 b2 b3 b4:Int} {t0 t1 t2 t3 t4:Nat} (hD:a0 X Y 5 d X' Y'):(aA w.params h g s r e er th eh X Y d X' Y' tx ty b0 b1 b2 b3 b4 t0 t1 t2 t3 t4).S.Holds (BB w h g):=wN _ _ _ _ _ _ _ _ _ _ _ _ _ _ _ _ _ _ _ _ _ _ _ _ _ _ hD
theorem aF {w:World} {h g:Nat→Nat} {s r e er th eh X Y d X' Y' tx ty:Nat} {b0 b1 b2 b3:Str} {t0 t1 t2 t3:Nat} (hD:a0 X Y 4 d X' Y'):(az w.params h g s r e er th eh X Y d X' Y' tx ty b0 b1 b2 b3 t0 t1 t2 t3).S.Holds (BB w h g):=zq _ _ _ _ _ _ _ _ _ _ _ _ _ _ _ _ _ _ _ _ _ _ _ _ hD
end
section
open PySem.SeqAt
theorem mB {B:Base} {D:RS} {po:List Obj} {bx tx:List Nat} {po':List Nat→List Nat→(Nat→Obj)→(Nat→Post)→List Obj} {nw:List Nat→List Nat→List Obj} {r:List Nat→List Nat→Result} {Γ:Ctx} {s:Shared}
 (h:((D.open po).S).Ok B Γ s):((D.finO bx tx po' nw r).S).Ok B Γ s:=⟨h.code,h.hand,h.fit,h.room,h.top,h.stk,h.pre,h.nd⟩
theorem D5 {B:Base} (O:B.Ok) {D:RS} {us:List Use} {bx tx:List Nat} {po:List Nat→List Nat→(Nat→Obj)→(Nat→Post)→List Obj} {nw:List Nat→List Nat→List Obj} {r:List Nat→List Nat→Result} {j:Nat} {l:Post→List Obj}
 {lb:List LibE} (hlb:∀ e:LibE,e∈lb→∀ c cs ms,(e.S c cs ms).Holds B) (H:(D.finO bx tx po nw r).RunL B lb us) (htl:D.tl=some j) (hr:∀ b t,r b t=ok (.bool true)) (he:∀ ob q b t,∃ ρ,l ρ=po b t ob q) (hus:cl B us):Spec.HoldsT B j (fun ρ=>(D.open (l ρ)).S) :=
 RS.holdsTL (D:=D.finO bx tx po nw r) O hlb hus.all htl H _ (fun _ _ _ h=>mB h) fun ob q s s' bs ts A=>by
  obtain ⟨ρ,e⟩:=he ob q bs ts
  exact ⟨ρ,[],[],A.retell rfl rfl e rfl rfl,(hr bs ts).symm⟩
theorem C3 {B:Base} (O:B.Ok) {D:RS} {us:List Use} {bx tx:List Nat} {po:List Nat→List Nat→(Nat→Obj)→(Nat→Post)→List Obj} {nw:List Nat→List Nat→List Obj} {r:List Nat→List Nat→Result} {l:Post→List Obj}
 {lb:List LibE} (hlb:∀ e:LibE,e∈lb→∀ c cs ms,(e.S c cs ms).Holds B) (H:(D.finO bx tx po nw r).RunL B lb us) (htl:D.tl=none) (hr:∀ b t,r b t=ok (.bool true)) (he:∀ ob q b t,∃ ρ,l ρ=po b t ob q) (hus:cl B us):Spec.HoldsE B (fun ρ=>(D.open (l ρ)).S) :=
 RS.holdsEL (D:=D.finO bx tx po nw r) O hlb hus.all htl H _ (fun _ _ _ h=>mB h) fun ob q s s' bs ts A=>by
  obtain ⟨ρ,e⟩:=he ob q bs ts
  exact ⟨ρ,[],[],A.retell rfl rfl e rfl rfl,(hr bs ts).symm⟩
theorem me {b:Nat} {K:List (Nat × Value)} (h:ag K≤b):aG b K=K:=by
 unfold aG
 rw [Nat.ble_eq_true_of_le h]
theorem dD (b:Nat) (K:List (Nat × Value)):ag (aG b K)≤b:=by
 unfold aG
 cases h:Nat.ble (ag K) b with
 | true=>exact Nat.le_of_ble_eq_true h
 | false=>exact Nat.zero_le _
noncomputable def G2 (a b c:Nat):Nat→Nat
 | 0=>a
 | 1=>b
 | _=>c
theorem Ga {P:Params} {h g:Nat→Nat} {n X Y t0 t1 t2 r m:Nat} {o:Obj} {R F:V7} {K':List (Nat × Value)} (hm:ag K'=m) (hb:m≤n+2) :
 ∃ ρ:Post,[ρ.o 0,bM 0 ρ.X (ym ρ.Y) (ρ.t 0) (ρ.t 1) r,oL 0 ρ.R.l,oL 7 ρ.F.l,(bN P h g true (ag (aG (n+2) ρ.K)) (ρ.t 2)).o,oK (ag (aG (n+2) ρ.K)) (aG (n+2) ρ.K)]=[o,bM 0 X Y t0 t1 r,oL 0 R.l,oL 7 F.l,(bN P h g true m t2).o,oK m K'] :=
 ⟨⟨X,Y,0,R,F,K',G2 t0 t1 t2,fun _=>o⟩,by
  have e:aG (n+2) K'=K':=me (hm▸hb)
  show [o,bM 0 X Y t0 t1 r,oL 0 R.l,oL 7 F.l,(bN P h g true (ag (aG (n+2) K')) t2).o,oK (ag (aG (n+2) K')) (aG (n+2) K')]=_
  rw [e,hm]⟩
theorem DO {α:Type} {a b:α} {l m:List α} (h:a::l=b::m):l=m:=(List.cons.inj h).2
theorem GR {P:Params} {h g:Nat→Nat} {n X Y t0 t1 t2 r m:Nat} {R F:V7} {K':List (Nat × Value)} (hm:ag K'=m) (hb:m≤n+2) :
 ∃ ρ:Post,[bM 0 ρ.X (ym ρ.Y) (ρ.t 0) (ρ.t 1) r,oL 0 ρ.R.l,oL 7 ρ.F.l,(bN P h g true (ag (aG (n+2) ρ.K)) (ρ.t 2)).o,oK (ag (aG (n+2) ρ.K)) (aG (n+2) ρ.K)]=[bM 0 X Y t0 t1 r,oL 0 R.l,oL 7 F.l,(bN P h g true m t2).o,oK m K'] :=
 let ⟨ρ,e⟩:=Ga (P:=P) (h:=h) (g:=g) (X:=X) (Y:=Y) (t0:=t0) (t1:=t1) (t2:=t2) (r:=r) (R:=R) (F:=F) (o:=CA 0) hm hb
 ⟨ρ,DO e⟩
theorem GF {P:Params} {h g:Nat→Nat} {n t2 m:Nat} {o:Obj} {R F:V7} {K':List (Nat × Value)} (hm:ag K'=m) (hb:m≤n+2) :
 ∃ ρ:Post,[ρ.o 0,oL 0 ρ.R.l,oL 7 ρ.F.l,(bN P h g true (ag (aG (n+2) ρ.K)) (ρ.t 2)).o,oK (ag (aG (n+2) ρ.K)) (aG (n+2) ρ.K)]=[o,oL 0 R.l,oL 7 F.l,(bN P h g true m t2).o,oK m K'] :=
 ⟨⟨0,0,0,R,F,K',fun _=>t2,fun _=>o⟩,by
  have e:aG (n+2) K'=K':=me (hm▸hb)
  show [o,oL 0 R.l,oL 7 F.l,(bN P h g true (ag (aG (n+2) K')) t2).o,oK (ag (aG (n+2) K')) (aG (n+2) K')]=_
  rw [e,hm]⟩
theorem GK {X Y t0 t1 r:Nat} {o:Obj} {R F:V7}:∃ ρ:Post,[ρ.o 0,bM 0 ρ.X (ym ρ.Y) (ρ.t 0) (ρ.t 1) r,oL 0 ρ.R.l,oL 7 ρ.F.l]=[o,bM 0 X Y t0 t1 r,oL 0 R.l,oL 7 F.l] :=
 ⟨⟨X,Y,0,R,F,[],G2 t0 t1 0,fun _=>o⟩,rfl⟩
end
section
open PySem.SeqAt
noncomputable def gc (l:List Cell) (i:Nat):Cell:=match l with
 | []=>⟨false,0,CA 0⟩
 | c::l=>match i with
  | 0=>c
  | i+1=>gc l i
noncomputable def ad (l:List Cell) (i:Nat):Nat:=(gc l i).a
noncomputable def ob (l:List Cell) (i:Nat):Obj:=(gc l i).o
noncomputable def it (l:List Cell) (j i:Nat):Value:=fv (bF (ob l j)) i
noncomputable def ar (c:Code) (i:Nat):Value:=match c with
 | .call _ a=>fv a.pos i
 | _=>.none
noncomputable def vr (v:Value):Nat:=match v with
 | .ref a=>a
 | _=>0
noncomputable def vt (v:Value):Nat:=match v with
 | .int _ t=>t
 | .str _ t=>t
 | .bytes _ t=>t
 | _=>0
noncomputable def vi (v:Value):Int:=match v with
 | .int i _=>i
 | _=>0
noncomputable def vs (v:Value):Str:=match v with
 | .str s _=>s
 | _=>Str.empty
noncomputable def vb (v:Value):Array UInt8:=match v with
 | .bytes b _=>b
 | _=>#[]
noncomputable def vo (v:Value):Bool:=match v with
 | .bool b=>b
 | _=>false
noncomputable def CC (l:List DictEntry) (i:Nat):DictEntry:=match l with
 | []=>⟨0,.none,.none⟩
 | e::l=>match i with
  | 0=>e
  | i+1=>CC l i
noncomputable def de (l:List Cell) (j i:Nat):DictEntry:=CC (match (ob l j).data with | .dict es _=>es.toList | _=>[]) i
noncomputable def dn (l:List Cell) (j:Nat):Nat:=match (ob l j).data with | .dict _ n=>n | .seq _ n=>n | _=>0
noncomputable def ef (c:Code):Nat:=match c with
 | .compStart _ _ _ _ env=>match env.frame with
  | some f=>f
  | none=>0
 | _=>0
noncomputable def fQ (B:Base):List LibE→Prop
 | []=>True
 | e::l=>(∀ c cs ms,(e.S c cs ms).Holds B)∧fQ B l
theorem fQ.all {B:Base}:∀ {l:List LibE},fQ B l→∀ e:LibE,e∈l→∀ c cs ms,(e.S c cs ms).Holds B
 | [],_,_,h=>absurd h List.not_mem_nil
 | x::l,k,e,h=>by
  rcases List.mem_cons.mp h with rfl | h
  ·exact k.1
  ·exact fQ.all k.2 e h
theorem fQ.app {B:Base}:∀ {l m:List LibE},fQ B l→fQ B m→fQ B (l ++ m)
 | [],_,_,k=>k
 | x::l,_,h,k=>⟨h.1,fQ.app h.2 k⟩
theorem to (s s1 s2:Str) (t1 t2:Nat):[Value.str s1 t1,.str s2 t2].any (dM s)=fe s [s1,s2]:=by
 have q:∀ x:Str,PySem.W.Fast.lEq s.cps.toList x.cps.toList=(x == s):=fun x=>by
  by_cases e:x=s
  ·subst e; rw [beq_self_eq_true]; exact PySem.W.Fast.lEq_iff.mpr rfl
  ·rw [beq_eq_false_iff_ne.mpr e]
   cases z:PySem.W.Fast.lEq s.cps.toList x.cps.toList with
   | false=>rfl
   | true =>
    refine absurd ?_ e
    have:=PySem.W.Fast.lEq_iff.mp z
    obtain ⟨⟨a⟩⟩:=s
    obtain ⟨⟨b⟩⟩:=x
    have:a=b:=this
    rw [this]
 simp only [List.any_cons,List.any_nil,Bool.or_false,fe,dM,q]
 cases (s1 == s) <;> cases (s2 == s) <;> rfl
noncomputable def Gp (x y:Value):Value:=match x with
 | .int i _=>.int i (vt y)
 | .str s _=>.str s (vt y)
 | .bytes b _=>.bytes b (vt y)
 | x=>x
structure EqR where
 X:DT
 Y:DT
 b:Bool
 L:List Cell
 ms:List Nat
 cs:List Cell
structure EqL where
 X:List DT
 Y:List DT
 b:Bool
 L:List Cell
 ms:List Nat
 cs:List Cell
noncomputable def lf (l:List Value):List DT:=match l with
 | []=>[]
 | v::l=>.v v::lf l
noncomputable def sE (x y:Value) (ms:List Nat) (cs:List Cell):EqR:=⟨.v x,.v (Gp x y),true,[],ms,cs⟩
noncomputable def dE (x y:Value) (ms:List Nat) (cs:List Cell):EqR:=match x with
 | .int i t=>match y with
  | .int j u=>⟨.v (.int i t),.v (.int j u),decide (i=j),[],ms,cs⟩
  | _=>sE x y ms cs
 | .str i t=>match y with
  | .str j u=>⟨.v (.str i t),.v (.str j u),i == j,[],ms,cs⟩
  | _=>sE x y ms cs
 | .bytes i t=>match y with
  | .bytes j u=>⟨.v (.bytes i t),.v (.bytes j u),i.toList == j.toList,[],ms,cs⟩
  | _=>sE x y ms cs
 | .bool i=>match y with
  | .bool j=>⟨.v (.bool i),.v (.bool j),i == j,[],ms,cs⟩
  | _=>sE x y ms cs
 | _=>sE x y ms cs
noncomputable def vz (b c:Bool):Bool:=match b with
 | true=>c
 | false=>false
noncomputable def cG (ih:List Nat→List Cell→Value→Value→EqR) (xs:List Value):List Value→List Nat→List Cell→EqL:=List.rec (fun ys ms cs=>match ys with
 | []=>⟨[],[],true,[],ms,cs⟩
 | y::ys=>⟨[],.v y::lf ys,false,[],ms,cs⟩) (fun x xs ihl ys ms cs=>match ys with
 | []=>⟨.v x::lf xs,[],false,[],ms,cs⟩
 | y::ys=>match ih ms cs x y with
  | ⟨X,Y,b,L,ms,cs⟩=>match ihl ys ms cs with
   | ⟨XS,YS,b',L',ms,cs⟩=>⟨X::XS,Y::YS,vz b b',L ++ L',ms,cs⟩) xs
noncomputable def Ad (n:Nat):List Nat→List Cell→Value→Value→EqR:=Nat.rec (fun ms cs x y=>sE x y ms cs) (fun _ ih ms cs x y=>match ms with
 | []=>sE x y ms cs
 | m::ms=>match m with
  | 0=>sE x y ms cs
  | m+1=>match m with
   | 0=>dE x y ms cs
   | m+1=>match cs with
    | []=>sE x y ms cs
    | c::cs=>match cs with
     | []=>sE x y ms cs
     | d::cs=>match cG ih (bF c.o) (bF d.o) ms cs with
      | ⟨XS,YS,b,L,ms,cs⟩=>match cO XS YS with
       | false=>sE x y ms cs
       | true=>⟨.s (Nat.beq m 1) c.a (dn [c] 0) XS,.s (Nat.beq m 1) d.a (dn [d] 0) YS,b,⟨false,c.a,bV (Nat.beq m 1) (dn [c] 0) XS⟩::⟨false,d.a,bV (Nat.beq m 1) (dn [d] 0) YS⟩::L,ms,cs⟩) n
noncomputable def zG (n b:Bool):Bool:=match n with
 | false=>b
 | true=>!b
noncomputable def A7 (P:Params) (h g:Nat→Nat) (neg k:Bool) (cs:List Cell) (ms:List Nat):RS:=match cG (Ad 9) (bF (ob cs 0)) (bF (ob cs 1)) ms (cs.drop 2) with
 | ⟨XS,YS,b,L,_,_⟩=>au (aP (iy neg k) [.ref (ad cs 0),.ref (ad cs 1)]) (⟨false,ad cs 0,bV k (dn cs 0) XS⟩::⟨false,ad cs 1,bV k (dn cs 1) YS⟩::L) (.bool (zG neg b))
structure GoodR (n:Nat) (r:EqR):Prop where
 eq:EqD r.X r.Y r.b
 sub:∀ c,c∈r.X.cells ++ r.Y.cells→c∈r.L
 mu:∀ c,c∈r.L→c.mu=false
 dep:r.X.dep≤n
structure GoodL (n:Nat) (r:EqL):Prop where
 eq:(∃ _:r.X.length=r.Y.length,∀ k a a' e e',EqD (.s k a e r.X) (.s k a' e' r.Y) r.b)∨(r.X.length≠r.Y.length∧r.b=false∧EqP r.X r.Y)
 sub:∀ c,c∈aQ r.X ++ aQ r.Y→c∈r.L
 mu:∀ c,c∈r.L→c.mu=false
 dep:cm r.X≤n
theorem bn (n:Nat) (x y:Value) (ms:List Nat) (cs:List Cell):GoodR n (sE x y ms cs):=by
 refine ⟨?_,fun c h=>absurd h (by simp [sE,DT.cells]),fun c h=>absurd h (by simp [sE]),Nat.zero_le _⟩
 show EqD (.v x) (.v (Gp x y)) true
 cases x with
 | int i t=>exact eI
 | str s t=>exact qU
 | bytes b t=>exact eB
 | _=>exact .same _
theorem rN (n:Nat) (x y:Value) (ms:List Nat) (cs:List Cell):GoodR n (dE x y ms cs):=by
 have k:∀ {X Y:Value} {b:Bool},EqD (.v X) (.v Y) b→GoodR n ⟨.v X,.v Y,b,[],ms,cs⟩:=fun h=>⟨h,fun c h=>absurd h (by simp [DT.cells]),fun c h=>absurd h (by simp),Nat.zero_le _⟩
 cases x with
 | int i t =>
  cases y with
  | int j u=>exact k (.int _ _ _ _ _ rfl)
  | _=>exact bn n _ _ ms cs
 | str i t =>
  cases y with
  | str j u=>exact k (.str _ _ _ _ _ rfl)
  | _=>exact bn n _ _ ms cs
 | bytes i t =>
  cases y with
  | bytes j u=>exact k (.bytes _ _ _ _ _ rfl)
  | _=>exact bn n _ _ ms cs
 | bool i =>
  cases y with
  | bool j=>exact k (.bool _ _ _ rfl)
  | _=>exact bn n _ _ ms cs
 | _=>exact bn n _ _ ms cs
theorem ge:∀ l:List Value,aQ (lf l)=[]
 | []=>rfl
 | v::l=>by
  show aQ (.v v::lf l)=[]
  rw [bB,ge l]; rfl
theorem pQ:∀ l:List Value,cm (lf l)=0
 | []=>by simp [lf,cm]
 | v::l=>by simp [lf,cm,DT.dep,pQ l]
theorem e9 {n:Nat} {ih:List Nat→List Cell→Value→Value→EqR} (hi:∀ ms cs x y,GoodR n (ih ms cs x y)):∀ (xs ys:List Value) (ms:List Nat) (cs:List Cell),GoodL n (cG ih xs ys ms cs)
 | [],[],ms,cs=>⟨.inl ⟨rfl,fun _ _ _ _ _=>eN⟩,fun c h=>absurd h (by simp [cG,aQ]),fun c h=>absurd h (by simp [cG]),by simp [cG,cm]⟩
 | [],y::ys,ms,cs=>⟨.inr ⟨by simp [cG],rfl,.right _ _⟩,fun c h=>by
  have h:c∈aQ [] ++ aQ (lf (y::ys)):=h
  rw [ge] at h; simp [aQ] at h,fun c h=>absurd h (by simp [cG]),by simp [cG,cm]⟩
 | x::xs,[],ms,cs=>⟨.inr ⟨by simp [cG],rfl,.left _ _⟩,fun c h=>by
  have h:c∈aQ (lf (x::xs)) ++ aQ []:=h
  rw [ge] at h; simp [aQ] at h,fun c h=>absurd h (by simp [cG]),by show cm (lf (x::xs))≤n; rw [pQ]; exact Nat.zero_le _⟩
 | x::xs,y::ys,ms,cs=>by
  have h1:=hi ms cs x y
  have e:cG ih (x::xs) (y::ys) ms cs=match ih ms cs x y with
   | ⟨X,Y,b,L,ms,cs⟩=>match cG ih xs ys ms cs with
    | ⟨XS,YS,b',L',ms,cs⟩=>⟨X::XS,Y::YS,vz b b',L ++ L',ms,cs⟩:=rfl
  rw [e]
  cases hr:ih ms cs x y with
  | mk X Y b L ms' cs' =>
  rw [hr] at h1
  have h2:=e9 hi xs ys ms' cs'
  cases hl:cG ih xs ys ms' cs' with
  | mk XS YS b' L' ms'' cs'' =>
  rw [hl] at h2
  simp only
  rw [hl]
  obtain ⟨a1,a2,a3,a4⟩:=h1
  obtain ⟨b1,b2,b3,b4⟩:=h2
  dsimp only at a1 a2 a3 a4 b1 b2 b3 b4
  refine ⟨?_,fun c hc=>?_,fun c hc=>?_,?_⟩
  ·rcases b1 with ⟨q1,q2⟩ | ⟨q1,q2,q3⟩
   ·refine .inl ⟨by simp [q1],fun k a a' e e'=>?_⟩
    cases b with
    | true=>exact eO a1 (q2 k a a' e e')
    | false=>exact eF a1 (q2 k a a' e e')
   ·refine .inr ⟨by simpa using q1,?_,.one _ _ _ _ _ a1 q3⟩
    subst q2
    cases b <;> rfl
  ·show c∈L ++ L'
   have hc:c∈aQ (X::XS) ++ aQ (Y::YS):=hc
   rw [bB,bB] at hc
   simp only [List.mem_append] at hc a2 b2 ⊢
   rcases hc with (hc | hc) | (hc | hc)
   ·exact .inl (a2 c (.inl hc))
   ·exact .inr (b2 c (.inl hc))
   ·exact .inl (a2 c (.inr hc))
   ·exact .inr (b2 c (.inr hc))
  ·rcases List.mem_append.mp hc with hc | hc
   ·exact a3 c hc
   ·exact b3 c hc
  ·show cm (X::XS)≤n
   simp only [cm]
   exact Nat.max_le.mpr ⟨a4,b4⟩
theorem ke:∀ (n:Nat) (ms:List Nat) (cs:List Cell) (x y:Value),GoodR n (Ad n ms cs x y)
 | 0,ms,cs,x,y=>bn 0 x y ms cs
 | n+1,[],cs,x,y=>bn _ x y _ cs
 | n+1,0::ms,cs,x,y=>bn _ x y ms cs
 | n+1,1::ms,cs,x,y=>rN _ x y ms cs
 | n+1,(m+2)::ms,[],x,y=>bn _ x y _ _
 | n+1,(m+2)::ms,[c],x,y=>bn _ x y _ _
 | n+1,(m+2)::ms,c::d::cs,x,y=>by
  have e:Ad (n+1) ((m+2)::ms) (c::d::cs) x y=match cG (Ad n) (bF c.o) (bF d.o) ms cs with
   | ⟨XS,YS,b,L,ms,cs⟩=>match cO XS YS with
    | false=>sE x y ms cs
    | true=>⟨.s (Nat.beq m 1) c.a (dn [c] 0) XS,.s (Nat.beq m 1) d.a (dn [d] 0) YS,b,⟨false,c.a,bV (Nat.beq m 1) (dn [c] 0) XS⟩::⟨false,d.a,bV (Nat.beq m 1) (dn [d] 0) YS⟩::L,ms,cs⟩:=rfl
  rw [e]
  have h:=e9 (ke n) (bF c.o) (bF d.o) ms cs
  cases hl:cG (Ad n) (bF c.o) (bF d.o) ms cs with
  | mk XS YS b L ms' cs' =>
  rw [hl] at h
  simp only
  cases hq:cO XS YS with
  | false=>exact bn _ x y ms' cs'
  | true =>
   obtain ⟨b1,b2,b3,b4⟩:=h
   dsimp only at b1 b2 b3 b4
   refine ⟨?_,fun z hz=>?_,fun z hz=>?_,?_⟩
   ·rcases b1 with ⟨_,q⟩ | ⟨q,_⟩
    ·exact q _ _ _ _ _
    ·exact absurd (bA hq) q
   ·have hz:z∈(DT.s (Nat.beq m 1) c.a (dn [c] 0) XS).cells ++ (DT.s (Nat.beq m 1) d.a (dn [d] 0) YS).cells:=hz
    rw [bL,bL] at hz
    simp only [List.mem_append,List.mem_cons] at hz b2 ⊢
    rcases hz with (rfl | hz) | (rfl | hz)
    ·exact .inl rfl
    ·exact .inr (.inr (b2 z (.inl hz)))
    ·exact .inr (.inl rfl)
    ·exact .inr (.inr (b2 z (.inr hz)))
   ·simp only [List.mem_cons] at hz
    rcases hz with rfl | rfl | hz
    ·rfl
    ·rfl
    ·exact b3 z hz
   ·show cm XS+1≤n+1
    exact Nat.succ_le_succ b4
theorem mi:∀ {l:List Cell},(∀ c,c∈l→c.mu=false)→cC l=[]
 | [],_=>rfl
 | c::l,h=>by
  show (match c.mu with | true=>c.a::cC l | false=>cC l)=[]
  rw [h c (.head _)]
  exact mi fun z hz=>h z (.tail _ hz)
theorem sb (n b:Bool):zG n b=if n then !b else b:=by cases n <;> rfl
theorem FH {en:ST} {w:World} (neg k:Bool) (a a' e e':Nat) (l l':List DT) (c:Bool) (L:List Cell) (hdep:cm l≤49)
 (hq:(∃ _:l.length=l'.length,∀ k a a' e e',EqD (.s k a e l) (.s k a' e' l') c)∨(l.length≠l'.length∧c=false∧EqP l l')) (hd:∀ x,x∈(DT.s k a e l).cells ++ (DT.s k a' e' l').cells→x∈L) (hmu:∀ c,c∈L→c.mu=false) :
 (au (aP (iy neg k) [.ref a,.ref a']) L (.bool (zG neg c))).S.Holds (B2 w en):=by
 refine aj rfl fun A s₀ R hh hu _ ht hcell _ kk=>?_
 have hX:be s₀ (DT.s k a e l).cells:=fun x hx=>(hcell x (hd x (List.mem_append_left _ hx))).1
 have hY:be s₀ (DT.s k a' e' l').cells:=fun x hx=>(hcell x (hd x (List.mem_append_right _ hx))).1
 rw [bL] at hX hY
 have item:∀ {bs:Nat→Bool},(∀ j (h1:j<l.length) (h2:j<l'.length),EqD l[j] l'[j] (bs j))→∀ j (h1:j<l.length) (h2:j<l'.length),EqAt A.in1 s₀ (l[j]).val (l'[j]).val (bs j):=by
  intro bs hs j h1 h2
  refine EqD.at 50 ?_ (hs j h1 h2) (fun c hc=>hX c (.tail _ (bg (List.getElem_mem h1) hc))) (fun c hc=>hY c (.tail _ (bg (List.getElem_mem h2) hc))) ?_
  ·have:=dJ (List.getElem_mem h1)
   omega
  ·show A.units+1+50<cLine
   have:A.units+60≤9000:=hu
   unfold cLine; omega
 refine my (hX _ (.head _)) (hY _ (.head _)) c (sb neg c) ?_ (kk _ [] [] (aE (s':=s₀) ht (mi hmu) rfl rfl rfl rfl rfl))
 rcases hq with ⟨h1,h2⟩ | ⟨h1,h2,h3⟩
 ·obtain ⟨q1,bs,q2,q3⟩:=(h2 k a a' e e').items
  exact .inl ⟨q1,bs,item q2,q3⟩
 ·obtain ⟨q1,bs,q2⟩:=h3.items
  exact .inr ⟨q1,h2,bs,item q2⟩
theorem tM {en:ST} {w:World} {h g:Nat→Nat} (neg k:Bool) (cs:List Cell) (ms:List Nat):(A7 w.params h g neg k cs ms).S.Holds (B2 w en):=by
 unfold A7
 have h:=e9 (ke 9) (bF (ob cs 0)) (bF (ob cs 1)) ms (cs.drop 2)
 cases hl:cG (Ad 9) (bF (ob cs 0)) (bF (ob cs 1)) ms (cs.drop 2) with
 | mk XS YS b L ms' cs' =>
 rw [hl] at h
 obtain ⟨b1,b2,b3,b4⟩:=h
 dsimp only at b1 b2 b3 b4
 refine FH neg k (ad cs 0) (ad cs 1) (dn cs 0) (dn cs 1) XS YS b _ (by omega) b1 (fun z hz=>?_) (fun z hz=>?_)
 ·rw [bL,bL] at hz
  simp only [List.mem_append,List.mem_cons] at hz b2 ⊢
  rcases hz with (rfl | hz) | (rfl | hz)
  ·exact .inl rfl
  ·exact .inr (.inr (b2 z (.inl hz)))
  ·exact .inr (.inl rfl)
  ·exact .inr (.inr (b2 z (.inr hz)))
 ·simp only [List.mem_cons] at hz
  rcases hz with rfl | rfl | hz
  ·rfl
  ·rfl
  ·exact b3 z hz
end
section
open PySem.SeqAt
noncomputable def u (f:(Nat→Nat)→(Nat→Nat)→(Nat→Obj)→RS) (ix jx:List Nat):Use:=⟨fun A k O _ _=>(f A k O).S,ix,jx,none⟩
theorem aa {B:Base} {f:(Nat→Nat)→(Nat→Nat)→(Nat→Obj)→RS} {ix jx:List Nat} {us:List Use} (h:∀ {A k O},(f A k O).S.Holds B) (k:cl B us):cl B (u f ix jx::us):=⟨fun _ _ _ _=>h.e,k⟩
theorem dm {w:World} {h g:Nat→Nat} {D:RS} (n hs:Nat) (us:List Use) (U:cl (BB w h g) us) (H:∀ cb,D.RunsL (BB w h g) [] n hs us cb) (a:D.tl=none:=by rfl) (b:∀ ob q,D.SO ob q=D.S:=by exact fun _ _=>rfl):D.S.Holds (BB w h g):=RS.doneL (cw w h g) oN (.one H) a b U
noncomputable def Dq (P:Params) (h g:Nat→Nat) (it acc L c1 f:Nat) (R:V7):RS:=(bG P h g 0 it acc L c1 f R).fin [] [] (fun b t=>[⟨(.type L7),none,(Data.fields #[(.int 0 0),(.int 0 0),(.int 1 0)]),#[]⟩,(oL 0 []),⟨(.type L0),none,(Data.dict #[] 0),#[]⟩]) nN rX
noncomputable def vC (P:Params) (h g:Nat→Nat) (it acc L c1 f:Nat) (i0:Int) (t1:Nat) (R:V7):RS:=(bG P h g 1 it acc L c1 f { R with a:=.int i0 t1 }).fin [] [1,0] (fun b t=>[⟨(.type L7),none,(Data.fields #[(.int 1 0),(.int 0 0),(.int 1 0)]),#[]⟩,(oL 1 [(.int i0 t1)]),⟨(.type L0),none,(Data.dict #[(eS P Qe (nb t 0) (.int 0 (nb t 1)))] 1),#[]⟩]) nN rX
noncomputable def vv (P:Params) (h g:Nat→Nat) (it acc L c1 f:Nat) (b0:Array UInt8) (t1:Nat) (R:V7):RS:=(bG P h g 1 it acc L c1 f { R with a:=.bytes b0 t1 }).fin [] [1,0] (fun b t=>[⟨(.type L7),none,(Data.fields #[(.int 1 0),(.int 0 0),(.int 1 0)]),#[]⟩,(oL 1 [(.bytes b0 t1)]),⟨(.type L0),none,(Data.dict #[(eS P Qe (nb t 0) (.int 0 (nb t 1)))] 1),#[]⟩]) nN rX
noncomputable def vS (P:Params) (h g:Nat→Nat) (it acc L c1 f x0:Nat) (R:V7):RS:=(bG P h g 1 it acc L c1 f { R with a:=.ref x0 }).fin [] [1,0] (fun b t=>[⟨(.type L7),none,(Data.fields #[(.int 1 0),(.int 0 0),(.int 1 0)]),#[]⟩,(oL 1 [(.ref x0)]),⟨(.type L0),none,(Data.dict #[(eS P Qe (nb t 0) (.int 0 (nb t 1)))] 1),#[]⟩]) nN rX
noncomputable def vF (P:Params) (h g:Nat→Nat) (it acc L c1 f:Nat) (c0:Bool) (R:V7):RS:=(bG P h g 1 it acc L c1 f { R with a:=.bool c0 }).fin [] [1,0] (fun b t=>[⟨(.type L7),none,(Data.fields #[(.int 1 0),(.int 0 0),(.int 1 0)]),#[]⟩,(oL 1 [(.bool c0)]),⟨(.type L0),none,(Data.dict #[(eS P Qe (nb t 0) (.int 0 (nb t 1)))] 1),#[]⟩]) nN rX
noncomputable def pZ (P:Params) (h g:Nat→Nat) (it acc L c1 f x0 x1:Nat) (R:V7):RS:=(bG P h g 2 it acc L c1 f { R with a:=.ref x0,b:=.ref x1 }).fin [] [1,3] (fun b t=>[⟨(.type L7),none,(Data.fields #[(.int 2 0),(.int 0 0),(.int 1 0)]),#[]⟩,(oL 2 [(.ref x0),(.ref x1)]),⟨(.type L0),none,(Data.dict #[(eS P Qe (nb t 0) (.int 1 (nb t 1)))] 1),#[]⟩]) nN rX
noncomputable def qu (P:Params) (h g:Nat→Nat) (it acc L c1 f x0:Nat) (i1:Int) (t1:Nat) (R:V7):RS:=(bG P h g 2 it acc L c1 f { R with a:=.ref x0,b:=.int i1 t1 }).fin [] [1,3] (fun b t=>[⟨(.type L7),none,(Data.fields #[(.int 2 0),(.int 0 0),(.int 1 0)]),#[]⟩,(oL 2 [(.ref x0),(.int i1 t1)]),⟨(.type L0),none,(Data.dict #[(eS P Qe (nb t 0) (.int 1 (nb t 1)))] 1),#[]⟩]) nN rX
noncomputable def r9 (P:Params) (h g:Nat→Nat) (it acc L c1 f x0:Nat) (b1:Array UInt8) (t1:Nat) (R:V7):RS:=(bG P h g 2 it acc L c1 f { R with a:=.ref x0,b:=.bytes b1 t1 }).fin [] [1,3] (fun b t=>[⟨(.type L7),none,(Data.fields #[(.int 2 0),(.int 0 0),(.int 1 0)]),#[]⟩,(oL 2 [(.ref x0),(.bytes b1 t1)]),⟨(.type L0),none,(Data.dict #[(eS P Qe (nb t 0) (.int 1 (nb t 1)))] 1),#[]⟩]) nN rX
noncomputable def mV (P:Params) (h g:Nat→Nat) (it acc L c1 f x0 x1 x2:Nat) (R:V7):RS:=(bG P h g 3 it acc L c1 f { R with a:=.ref x0,b:=.ref x1,c:=.ref x2 }).fin [] [1,6] (fun b t=>[⟨(.type L7),none,(Data.fields #[(.int 3 0),(.int 0 0),(.int 1 0)]),#[]⟩,(oL 3 [(.ref x0),(.ref x1),(.ref x2)]),⟨(.type L0),none,(Data.dict #[(eS P Qe (nb t 0) (.int 2 (nb t 1)))] 1),#[]⟩]) nN rX
noncomputable def mL (P:Params) (h g:Nat→Nat) (it acc L c1 f x0:Nat) (b1:Array UInt8) (t1:Nat) (c2:Bool) (R:V7):RS:=(bG P h g 3 it acc L c1 f { R with a:=.ref x0,b:=.bytes b1 t1,c:=.bool c2 }).fin [] [1,6] (fun b t=>[⟨(.type L7),none,(Data.fields #[(.int 3 0),(.int 0 0),(.int 1 0)]),#[]⟩,(oL 3 [(.ref x0),(.bytes b1 t1),(.bool c2)]),⟨(.type L0),none,(Data.dict #[(eS P Qe (nb t 0) (.int 2 (nb t 1)))] 1),#[]⟩]) nN rX
noncomputable def mJ (P:Params) (h g:Nat→Nat) (it acc L c1 f x0:Nat) (i1:Int) (t1:Nat) (c2:Bool) (R:V7):RS:=(bG P h g 3 it acc L c1 f { R with a:=.ref x0,b:=.int i1 t1,c:=.bool c2 }).fin [] [1,6] (fun b t=>[⟨(.type L7),none,(Data.fields #[(.int 3 0),(.int 0 0),(.int 1 0)]),#[]⟩,(oL 3 [(.ref x0),(.int i1 t1),(.bool c2)]),⟨(.type L0),none,(Data.dict #[(eS P Qe (nb t 0) (.int 2 (nb t 1)))] 1),#[]⟩]) nN rX
noncomputable def jY (P:Params) (h g:Nat→Nat) (it acc L c1 f x0:Nat) (b1:Array UInt8) (t1:Nat) (c2:Bool) (i3:Int) (t2:Nat) (R:V7):RS:=(bG P h g 4 it acc L c1 f { R with a:=.ref x0,b:=.bytes b1 t1,c:=.bool c2,d:=.int i3 t2 }).fin [] [1,9] (fun b t=>[⟨(.type L7),none,(Data.fields #[(.int 4 0),(.int 0 0),(.int 1 0)]),#[]⟩,(oL 4 [(.ref x0),(.bytes b1 t1),(.bool c2),(.int i3 t2)]),⟨(.type L0),none,(Data.dict #[(eS P Qe (nb t 0) (.int 3 (nb t 1)))] 1),#[]⟩]) nN rX
noncomputable def qM (P:Params) (h g:Nat→Nat) (tv x:Nat):RS:=(aH 150 ([]) false (aq 1508 [.ref tv,.ref x]) []).fin [1] [2] nN (fun b t=>[(oT [(.str Q5 (nb t 0)),(.ref tv),(.ref x)])]) rB
noncomputable def qx (P:Params) (h g:Nat→Nat) (tv:Nat) (i:Int) (t1:Nat):RS:=(aH 150 ([]) false (aq 1508 [.ref tv,(.int i t1)]) []).fin [1] [2] nN (fun b t=>[(oT [(.str Q5 (nb t 0)),(.ref tv),(.int i t1)])]) rB
noncomputable def qE (P:Params) (h g:Nat→Nat) (tv:Nat) (bv:Array UInt8) (t1:Nat):RS:=(aH 150 ([]) false (aq 1508 [.ref tv,.bytes bv t1]) []).fin [1] [2] nN (fun b t=>[(oT [(.str Q5 (nb t 0)),(.ref tv),(.bytes bv t1)])]) rB
noncomputable def qp (P:Params) (h g:Nat→Nat) (tv:Nat) (c:Bool):RS:=(aH 150 ([]) false (aq 1508 [.ref tv,.bool c]) []).fin [1] [2] nN (fun b t=>[(oT [(.str Q5 (nb t 0)),(.ref tv),(.bool c)])]) rB
noncomputable def rt (P:Params) (h g:Nat→Nat) (tv:Nat):RS:=(aH 150 ([]) false (aq 1508 [.ref tv,.none]) []).fin [1] [2] nN (fun b t=>[(oT [(.str Q5 (nb t 0)),(.ref tv),.none])]) rB
noncomputable def Cl (P:Params) (h g:Nat→Nat) (t1:Nat) (m:Int) (t2 a1 q:Nat):RS:=(aH 150 ([]) false (aq 777 [(.ref a1)]) [⟨false,a1,oT [(.str Qw t1),(.int m t2),(.ref q)]⟩]).fin [2] [] nN (fun b t=>[(oT [(.int m t2),(.ref q)])]) rB
theorem cf {w:World} {h g:Nat→Nat}:(∀ {t x R F},(c6 w.params h g 1 t (.ref x) R F).S.Holds (BB w h g)) ∧
 (∀ {a t},(mQ w.params h g a t EQ).S.Holds (BB w h g)) ∧
 (∀ {a t x y},(ik w.params h g a t Qd x y).S.Holds (BB w h g)) ∧
 (∀ {t x R F},(c6 w.params h g 0 t (.ref x) R F).S.Holds (BB w h g)) ∧
 (∀ {a t T v},(mh w.params h g a t T v).S.Holds (BB w h g)) ∧
 (∀ {a t x},(i7 w.params h g a t Qi x).S.Holds (BB w h g)) ∧
 (∀ {t i u R F},(c6 w.params h g 1 t (.int i u) R F).S.Holds (BB w h g)) ∧
 (∀ {a t tr x R F},(vA w.params h g a t tr x R F).S.Holds (BB w h g)) ∧
 (∀ {a t x y},(ik w.params h g a t Qg x y).S.Holds (BB w h g)) ∧
 (∀ {t c R F},(c6 w.params h g 0 t (.bool c) R F).S.Holds (BB w h g)) ∧
 (∀ {t c R F},(c6 w.params h g 2 t (.bool c) R F).S.Holds (BB w h g)) ∧
 (∀ {a t},(mQ w.params h g a t Qc).S.Holds (BB w h g)) ∧
 (∀ {t bv u R F},(c6 w.params h g 0 t (.bytes bv u) R F).S.Holds (BB w h g)) ∧
 (∀ {t x R F},(c6 w.params h g 2 t (.ref x) R F).S.Holds (BB w h g)) ∧
 (∀ {a t x},(i7 w.params h g a t Q1 x).S.Holds (BB w h g)) ∧
 (∀ {t i u R F},(c6 w.params h g 0 t (.int i u) R F).S.Holds (BB w h g)) ∧
 (∀ {t i u R F},(c6 w.params h g 3 t (.int i u) R F).S.Holds (BB w h g)) ∧
 (∀ {a t x},(i7 w.params h g a t Qw x).S.Holds (BB w h g)) ∧
 (∀ {t bv u R F},(c6 w.params h g 1 t (.bytes bv u) R F).S.Holds (BB w h g)) ∧
 (∀ {a t tr x R F},(vU w.params h g a t tr x R F).S.Holds (BB w h g)) ∧
 (∀ {a t x y},(ik w.params h g a t Ez x y).S.Holds (BB w h g)) ∧
 (∀ {it acc L c1 f R},(Dq w.params h g it acc L c1 f R).S.Holds (BB w h g)) ∧
 (∀ {it acc L c1 f i0 t1 R},(vC w.params h g it acc L c1 f i0 t1 R).S.Holds (BB w h g)) ∧
 (∀ {it acc L c1 f b0 t1 R},(vv w.params h g it acc L c1 f b0 t1 R).S.Holds (BB w h g)) ∧
 (∀ {it acc L c1 f x0 R},(vS w.params h g it acc L c1 f x0 R).S.Holds (BB w h g)) ∧
 (∀ {it acc L c1 f c0 R},(vF w.params h g it acc L c1 f c0 R).S.Holds (BB w h g)) ∧
 (∀ {it acc L c1 f x0 x1 R},(pZ w.params h g it acc L c1 f x0 x1 R).S.Holds (BB w h g)) ∧
 (∀ {it acc L c1 f x0 i1 t1 R},(qu w.params h g it acc L c1 f x0 i1 t1 R).S.Holds (BB w h g)) ∧
 (∀ {it acc L c1 f x0 b1 t1 R},(r9 w.params h g it acc L c1 f x0 b1 t1 R).S.Holds (BB w h g)) ∧
 (∀ {it acc L c1 f x0 x1 x2 R},(mV w.params h g it acc L c1 f x0 x1 x2 R).S.Holds (BB w h g)) ∧
 (∀ {it acc L c1 f x0 b1 t1 c2 R},(mL w.params h g it acc L c1 f x0 b1 t1 c2 R).S.Holds (BB w h g)) ∧
 (∀ {it acc L c1 f x0 i1 t1 c2 R},(mJ w.params h g it acc L c1 f x0 i1 t1 c2 R).S.Holds (BB w h g)) ∧
 (∀ {it acc L c1 f x0 b1 t1 c2 i3 t2 R},(jY w.params h g it acc L c1 f x0 b1 t1 c2 i3 t2 R).S.Holds (BB w h g)) ∧
 (∀ {tv x},(qM w.params h g tv x).S.Holds (BB w h g)) ∧
 (∀ {tv i t1},(qx w.params h g tv i t1).S.Holds (BB w h g)) ∧
 (∀ {tv bv t1},(qE w.params h g tv bv t1).S.Holds (BB w h g)) ∧
 (∀ {tv c},(qp w.params h g tv c).S.Holds (BB w h g)) ∧
 (∀ {tv},(rt w.params h g tv).S.Holds (BB w h g)) ∧
 (∀ {t1 m t2 a1 q},(Cl w.params h g t1 m t2 a1 q).S.Holds (BB w h g)):=by
 refine ⟨dm 90 (ce [gI]) [] ao ?_,
 dm 39 (ce [kx]) [] ao ?_,
 dm 39 (ce [kx]) [] ao ?_,
 dm 90 (ce [gI]) [] ao ?_,
 dm 47 (ce [fp,ak,1028,ak,1028,gz,fp,gz]) [] ao ?_,
 dm 39 (ce [kx]) [] ao ?_,
 dm 89 (ce [gI]) [] ao ?_,
 dm 121 (ce [B9]) [] ao ?_,
 dm 39 (ce [kx]) [] ao ?_,
 dm 89 (ce [gI]) [] ao ?_,
 dm 89 (ce [gI]) [] ao ?_,
 dm 39 (ce [kx]) [] ao ?_,
 dm 89 (ce [gI]) [] ao ?_,
 dm 90 (ce [gI]) [] ao ?_,
 dm 39 (ce [kx]) [] ao ?_,
 dm 89 (ce [gI]) [] ao ?_,
 dm 89 (ce [gI]) [] ao ?_,
 dm 39 (ce [kx]) [] ao ?_,
 dm 89 (ce [gI]) [] ao ?_,
 dm 121 (ce [B9]) [] ao ?_,
 dm 39 (ce [kx]) [] ao ?_,
 dm 17 (ce [1027,kM,1024,jo,1038]) [] ao ?_,
 dm 78 (ce [te]) [] ao ?_,
 dm 78 (ce [te]) [] ao ?_,
 dm 78 (ce [te]) [] ao ?_,
 dm 78 (ce [te]) [] ao ?_,
 dm 139 (ce [p7,jo,1038]) [] ao ?_,
 dm 139 (ce [p7,jo,1038]) [] ao ?_,
 dm 139 (ce [p7,jo,1038]) [] ao ?_,
 dm 200 (ce [wQ]) [] ao ?_,
 dm 200 (ce [wQ]) [] ao ?_,
 dm 200 (ce [wQ]) [] ao ?_,
 dm 261 (ce [p7,nm,nm,jo,1038]) [] ao ?_,
 dm 23 (ce [pP]) [] ao ?_,
 dm 23 (ce [pP]) [] ao ?_,
 dm 23 (ce [pP]) [] ao ?_,
 dm 23 (ce [pP]) [] ao ?_,
 dm 23 (ce [pP]) [] ao ?_,
 dm 42 (ce [fp,ak,1052676,gz,1028,gz]) [] ao ?_⟩ <;> intro cb ν τ υ π ς ρ own past κ bl p <;> kernel_rfl
noncomputable def qG (P:Params) (h g:Nat→Nat) (it tu acc L c1 f a1 a2 t1 t2 t3 t4:Nat) (T1 T2:Value) (i1 i2:Int):RS:=(aH 100 [] false (.compStart (EA (ow P 957) 1) 0 (.ref it) (.ref acc) ⟨G1 (EA (ow P 957) 1),L,3,[(⟨#[102,114,97,109,101]⟩,c1)],⟨#[79,112,101,114,97,116,105,111,110,115,46,100,111,95,99,117,116,46,60,108,111,99,97,108,115,62,46]⟩,none,.ref 956,some f,0⟩) [⟨true,it,GE tu⟩,⟨true,acc,oL 0 []⟩,⟨true,L,Ge⟩,⟨false,c1,EF (.ref (h 111))⟩,⟨false,tu,oT [.ref a1,.ref a2,.none]⟩,⟨false,a1,oT [.str Q5 t1,T1,.int i1 t2]⟩,⟨false,a2,oT [.str Q5 t3,T2,.int i2 t4]⟩]).fin [] [0] (fun b t=>[⟨(.type Lm),none,(Data.fields #[.none,(.int 3 0)]),#[]⟩,(oL 3 [(.int i1 t2),(.int i2 t4),.none]),⟨(.type L0),none,(Data.dict #[(eS P ⟨#[111,112,101,114,97,110,100]⟩ (nb t 0) .none)] 1),#[]⟩]) nN rX
noncomputable def bc (P:Params) (h g:Nat→Nat) (n:Nat) (K:List (Nat × Value)) (t1 c:Nat) (k:Str) (t2:Nat):RS:=(aH 150 ([]) false (aq 1298 [.ref (h 68),(.str k t2),.ref c]) [bN P h g true n t1,cW h true n K]).fin [4,3] [6,14,16,18] (fun b t=>[(bN P h g true (n+1) (nb t 0)).o,(oK (n+1) (List.cons (Prod.mk (nb t 0) (.ref (nb b 0))) K))]) (fun b t=>[⟨(.ref 1271),(some (nb b 1)),Data.plain,#[]⟩,⟨(.type L0),none,(Data.dict #[(eS P Q8 (nb t 1) (.str k t2)),(eS P Q9 (nb t 2) (.ref c)),(eS P Q7 (nb t 3) (.str Q6 2089))] 3),#[]⟩]) (fun b t=>(Except.ok (Flow.ret (.int (Int.ofNat (n+1)) (nb t 0)))))
noncomputable def kw (P:Params) (h g:Nat→Nat) (n:Nat) (K:List (Nat × Value)) (t1 c:Nat) (k:Str) (t2 t3:Nat):RS:=(aH 150 ([]) false (aq 1298 [.ref (h 68),(.str k t2),.ref c,(.str Q6 t3)]) [bN P h g true n t1,cW h true n K]).fin [4,3] [6,14,16,18] (fun b t=>[(bN P h g true (n+1) (nb t 0)).o,(oK (n+1) (List.cons (Prod.mk (nb t 0) (.ref (nb b 0))) K))]) (fun b t=>[⟨(.ref 1271),(some (nb b 1)),Data.plain,#[]⟩,⟨(.type L0),none,(Data.dict #[(eS P Q8 (nb t 1) (.str k t2)),(eS P Q9 (nb t 2) (.ref c)),(eS P Q7 (nb t 3) (.str Q6 t3))] 3),#[]⟩]) (fun b t=>(Except.ok (Flow.ret (.int (Int.ofNat (n+1)) (nb t 0)))))
noncomputable def ly (P:Params) (h g:Nat→Nat) (c n:Nat) (K:List (Nat × Value)) (t1 t2 a1 a2 t3 t4 t5 t6 t7 t8 a3 a4:Nat):RS:=(aH 150 ([]) false (aq 1387 [.ref (h 68),(.ref a4)]) [⟨false,a3,oT []⟩,⟨false,a4,oT [(.int (Int.ofNat (n+1)) t8),(.ref a3)]⟩,bN P h g false (n+1) t1,cW h false (n+1) ((t2,.ref a1)::K),⟨false,a1,⟨.ref 1271,some a2,.plain,#[]⟩⟩,⟨false,a2,⟨yD,none,.dict #[eS P Q8 t3 (.str Qf t6),eS P Q9 t4 (.ref c),eS P Q7 t5 (.str Q6 t7)] 3,#[]⟩⟩]).fin [] [] nN nN (fun b t=>(ok (.ref c)))
theorem dv {w:World} {h g:Nat→Nat}:(∀ {it tu acc L c1 f a1 a2 t1 t2 t3 t4 T1 T2 i1 i2},(qG w.params h g it tu acc L c1 f a1 a2 t1 t2 t3 t4 T1 T2 i1 i2).S.Holds (BB w h g)) ∧
 (∀ {n K t1 c k t2},ag K=n→n≤1000→(bc w.params h g n K t1 c k t2).S.Holds (BB w h g)) ∧
 (∀ {n K t1 c k t2 t3},ag K=n→n≤1000→(kw w.params h g n K t1 c k t2 t3).S.Holds (BB w h g)) ∧
 (∀ {c n K t1 t2 a1 a2 t3 t4 t5 t6 t7 t8 a3 a4},ag K=n→n≤1000→(ly w.params h g c n K t1 t2 a1 a2 t3 t4 t5 t6 t7 t8 a3 a4).S.Holds (BB w h g)):=by
 refine ⟨fun {it tu acc L c1 f a1 a2 t1 t2 t3 t4 T1 T2 i1 i2} =>dm 156 (ce [1027,kM,1024,CK,CK,1084229634,ds,0x40400404000040000600806,kM,0x412000020280200800]) [u (fun A J O=>mh w.params h g (A 5) t1 T1 (.int i1 t2)) [5] [],u (fun A J O=>mh w.params h g (A 6) t3 T2 (.int i2 t4)) [6] []] (aa cf.2.2.2.2.1 (aa cf.2.2.2.2.1 ao)) ?_,
 fun {n K t1 c k t2} hK hn=>dm 323 (ce [DN]) [u (fun A J O=>mF w.params h g n K (J 6) (.ref (A 4))) [1] [1]] (aa (vB hK hn) ao) ?_,
 fun {n K t1 c k t2 t3} hK hn=>dm 323 (ce [DN]) [u (fun A J O=>mF w.params h g n K (J 6) (.ref (A 4))) [1] [1]] (aa (vB hK hn) ao) ?_,
 fun {c n K t1 t2 a1 a2 t3 t4 t5 t6 t7 t8 a3 a4} hK hn=>dm 413 (ce [nv,ek,ai,1116691504144,li,ak,1092616196,wZ,wZ,wZ,0x4070400001c1000016,ae,1040,iD,1040,li,ak,0x1060000601800004,zu,1098907672,zu,1098907672,zu,1052,dq,1038,ft,1062918,ai,0x10781e0000e078000381e,cX,0x1078020200801800,cX,0x1020080201e01800,ds,1088428046,zY,ax,1038,zY,bh,1038,zY,1038,ai,1063968,gT,1081344,lc,gR,oi,0x10800009810088020882200022]) [u (fun A J O=>aT w.params h g n K (Prod.mk t2 (.ref (A 4))) t8) [3] [],u (fun A J O=>aS w.params h g n K (Prod.mk t2 (.ref (A 4))) t8) [3] []] (aa (aV hK) (aa (aW hK) ao)) ?_⟩ <;> intro cb ν τ υ π ς ρ own past κ bl p <;> kernel_rfl
noncomputable def dx (P:Params) (h g:Nat→Nat) (e:Nat) (x0:Int) (t1:Nat) (x1:Int) (t2 a1 n:Nat) (K:List (Nat × Value)) (t3 t4 a2 a3 t5 t6 t7 t8 t9 t10 t11 a4 a5:Nat):RS:=(aH 150 (sI) false (aq 1394 [.ref (h 68),(.ref a5)]) [⟨false,a1,oL e [(.int x0 t1),(.int x1 t2)]⟩,⟨false,a4,oT [(.int 0 t11)]⟩,⟨false,a5,oT [(.int (Int.ofNat (n+1)) t10),(.ref a4)]⟩,bN P h g false (n+1) t3,cW h false (n+1) ((t4,.ref a2)::K),⟨false,a2,⟨.ref 1271,some a3,.plain,#[]⟩⟩,⟨false,a3,⟨yD,none,.dict #[eS P Q8 t5 (.str Qa t8),eS P Q9 t6 (.ref a1),eS P Q7 t7 (.str Q6 t9)] 3,#[]⟩⟩]).fin [] [] nN nN (fun b t=>(ok (.int x0 t1)))
noncomputable def dP (P:Params) (h g:Nat→Nat) (e:Nat) (x0:Int) (t1:Nat) (x1:Int) (t2 a1 n:Nat) (K:List (Nat × Value)) (t3 t4 a2 a3 t5 t6 t7 t8 t9 t10 t11 a4 a5:Nat):RS:=(aH 150 (sI) false (aq 1394 [.ref (h 68),(.ref a5)]) [⟨false,a1,oL e [(.int x0 t1),(.int x1 t2)]⟩,⟨false,a4,oT [(.int 1 t11)]⟩,⟨false,a5,oT [(.int (Int.ofNat (n+1)) t10),(.ref a4)]⟩,bN P h g false (n+1) t3,cW h false (n+1) ((t4,.ref a2)::K),⟨false,a2,⟨.ref 1271,some a3,.plain,#[]⟩⟩,⟨false,a3,⟨yD,none,.dict #[eS P Q8 t5 (.str Qa t8),eS P Q9 t6 (.ref a1),eS P Q7 t7 (.str Q6 t9)] 3,#[]⟩⟩]).fin [] [] nN nN (fun b t=>(ok (.int x1 t2)))
noncomputable def cj (P:Params) (h g:Nat→Nat) (e:Nat) (x0:Int) (t1:Nat) (x1:Int) (t2:Nat) (x2:Int) (t3 a1 n:Nat) (K:List (Nat × Value)) (t4 t5 a2 a3 t6 t7 t8 t9 t10 t11 t12 a4 a5:Nat):RS:=(aH 150 (sI) false (aq 1394 [.ref (h 68),(.ref a5)]) [⟨false,a1,oL e [(.int x0 t1),(.int x1 t2),(.int x2 t3)]⟩,⟨false,a4,oT [(.int 0 t12)]⟩,⟨false,a5,oT [(.int (Int.ofNat (n+1)) t11),(.ref a4)]⟩,bN P h g false (n+1) t4,cW h false (n+1) ((t5,.ref a2)::K),⟨false,a2,⟨.ref 1271,some a3,.plain,#[]⟩⟩,⟨false,a3,⟨yD,none,.dict #[eS P Q8 t6 (.str Qa t9),eS P Q9 t7 (.ref a1),eS P Q7 t8 (.str Q6 t10)] 3,#[]⟩⟩]).fin [] [] nN nN (fun b t=>(ok (.int x0 t1)))
noncomputable def c8 (P:Params) (h g:Nat→Nat) (e:Nat) (x0:Int) (t1:Nat) (x1:Int) (t2:Nat) (x2:Int) (t3 a1 n:Nat) (K:List (Nat × Value)) (t4 t5 a2 a3 t6 t7 t8 t9 t10 t11 t12 a4 a5:Nat):RS:=(aH 150 (sI) false (aq 1394 [.ref (h 68),(.ref a5)]) [⟨false,a1,oL e [(.int x0 t1),(.int x1 t2),(.int x2 t3)]⟩,⟨false,a4,oT [(.int 1 t12)]⟩,⟨false,a5,oT [(.int (Int.ofNat (n+1)) t11),(.ref a4)]⟩,bN P h g false (n+1) t4,cW h false (n+1) ((t5,.ref a2)::K),⟨false,a2,⟨.ref 1271,some a3,.plain,#[]⟩⟩,⟨false,a3,⟨yD,none,.dict #[eS P Q8 t6 (.str Qa t9),eS P Q9 t7 (.ref a1),eS P Q7 t8 (.str Q6 t10)] 3,#[]⟩⟩]).fin [] [] nN nN (fun b t=>(ok (.int x1 t2)))
noncomputable def cg (P:Params) (h g:Nat→Nat) (e:Nat) (x0:Int) (t1:Nat) (x1:Int) (t2:Nat) (x2:Int) (t3 a1 n:Nat) (K:List (Nat × Value)) (t4 t5 a2 a3 t6 t7 t8 t9 t10 t11 t12 a4 a5:Nat):RS:=(aH 150 (sI) false (aq 1394 [.ref (h 68),(.ref a5)]) [⟨false,a1,oL e [(.int x0 t1),(.int x1 t2),(.int x2 t3)]⟩,⟨false,a4,oT [(.int 2 t12)]⟩,⟨false,a5,oT [(.int (Int.ofNat (n+1)) t11),(.ref a4)]⟩,bN P h g false (n+1) t4,cW h false (n+1) ((t5,.ref a2)::K),⟨false,a2,⟨.ref 1271,some a3,.plain,#[]⟩⟩,⟨false,a3,⟨yD,none,.dict #[eS P Q8 t6 (.str Qa t9),eS P Q9 t7 (.ref a1),eS P Q7 t8 (.str Q6 t10)] 3,#[]⟩⟩]).fin [] [] nN nN (fun b t=>(ok (.int x2 t3)))
noncomputable def g8 (P:Params) (h g:Nat→Nat) (e:Nat) (x0:Int) (t1:Nat) (x1:Int) (t2:Nat) (x2:Int) (t3:Nat) (x3:Int) (t4 a1 n:Nat) (K:List (Nat × Value)) (t5 t6 a2 a3 t7 t8 t9 t10 t11 t12 t13 a4 a5:Nat):RS:=(aH 150 (sI) false (aq 1394 [.ref (h 68),(.ref a5)]) [⟨false,a1,oL e [(.int x0 t1),(.int x1 t2),(.int x2 t3),(.int x3 t4)]⟩,⟨false,a4,oT [(.int 0 t13)]⟩,⟨false,a5,oT [(.int (Int.ofNat (n+1)) t12),(.ref a4)]⟩,bN P h g false (n+1) t5,cW h false (n+1) ((t6,.ref a2)::K),⟨false,a2,⟨.ref 1271,some a3,.plain,#[]⟩⟩,⟨false,a3,⟨yD,none,.dict #[eS P Q8 t7 (.str Qa t10),eS P Q9 t8 (.ref a1),eS P Q7 t9 (.str Q6 t11)] 3,#[]⟩⟩]).fin [] [] nN nN (fun b t=>(ok (.int x0 t1)))
noncomputable def ga (P:Params) (h g:Nat→Nat) (e:Nat) (x0:Int) (t1:Nat) (x1:Int) (t2:Nat) (x2:Int) (t3:Nat) (x3:Int) (t4 a1 n:Nat) (K:List (Nat × Value)) (t5 t6 a2 a3 t7 t8 t9 t10 t11 t12 t13 a4 a5:Nat):RS:=(aH 150 (sI) false (aq 1394 [.ref (h 68),(.ref a5)]) [⟨false,a1,oL e [(.int x0 t1),(.int x1 t2),(.int x2 t3),(.int x3 t4)]⟩,⟨false,a4,oT [(.int 1 t13)]⟩,⟨false,a5,oT [(.int (Int.ofNat (n+1)) t12),(.ref a4)]⟩,bN P h g false (n+1) t5,cW h false (n+1) ((t6,.ref a2)::K),⟨false,a2,⟨.ref 1271,some a3,.plain,#[]⟩⟩,⟨false,a3,⟨yD,none,.dict #[eS P Q8 t7 (.str Qa t10),eS P Q9 t8 (.ref a1),eS P Q7 t9 (.str Q6 t11)] 3,#[]⟩⟩]).fin [] [] nN nN (fun b t=>(ok (.int x1 t2)))
noncomputable def g4 (P:Params) (h g:Nat→Nat) (e:Nat) (x0:Int) (t1:Nat) (x1:Int) (t2:Nat) (x2:Int) (t3:Nat) (x3:Int) (t4 a1 n:Nat) (K:List (Nat × Value)) (t5 t6 a2 a3 t7 t8 t9 t10 t11 t12 t13 a4 a5:Nat):RS:=(aH 150 (sI) false (aq 1394 [.ref (h 68),(.ref a5)]) [⟨false,a1,oL e [(.int x0 t1),(.int x1 t2),(.int x2 t3),(.int x3 t4)]⟩,⟨false,a4,oT [(.int 2 t13)]⟩,⟨false,a5,oT [(.int (Int.ofNat (n+1)) t12),(.ref a4)]⟩,bN P h g false (n+1) t5,cW h false (n+1) ((t6,.ref a2)::K),⟨false,a2,⟨.ref 1271,some a3,.plain,#[]⟩⟩,⟨false,a3,⟨yD,none,.dict #[eS P Q8 t7 (.str Qa t10),eS P Q9 t8 (.ref a1),eS P Q7 t9 (.str Q6 t11)] 3,#[]⟩⟩]).fin [] [] nN nN (fun b t=>(ok (.int x2 t3)))
noncomputable def gg (P:Params) (h g:Nat→Nat) (e:Nat) (x0:Int) (t1:Nat) (x1:Int) (t2:Nat) (x2:Int) (t3:Nat) (x3:Int) (t4 a1 n:Nat) (K:List (Nat × Value)) (t5 t6 a2 a3 t7 t8 t9 t10 t11 t12 t13 a4 a5:Nat):RS:=(aH 150 (sI) false (aq 1394 [.ref (h 68),(.ref a5)]) [⟨false,a1,oL e [(.int x0 t1),(.int x1 t2),(.int x2 t3),(.int x3 t4)]⟩,⟨false,a4,oT [(.int 3 t13)]⟩,⟨false,a5,oT [(.int (Int.ofNat (n+1)) t12),(.ref a4)]⟩,bN P h g false (n+1) t5,cW h false (n+1) ((t6,.ref a2)::K),⟨false,a2,⟨.ref 1271,some a3,.plain,#[]⟩⟩,⟨false,a3,⟨yD,none,.dict #[eS P Q8 t7 (.str Qa t10),eS P Q9 t8 (.ref a1),eS P Q7 t9 (.str Q6 t11)] 3,#[]⟩⟩]).fin [] [] nN nN (fun b t=>(ok (.int x3 t4)))
theorem dS {w:World} {h g:Nat→Nat}:(∀ {e x0 t1 x1 t2 a1 n K t3 t4 a2 a3 t5 t6 t7 t8 t9 t10 t11 a4 a5},ag K=n→n≤1000→(dx w.params h g e x0 t1 x1 t2 a1 n K t3 t4 a2 a3 t5 t6 t7 t8 t9 t10 t11 a4 a5).S.Holds (BB w h g)) ∧
 (∀ {e x0 t1 x1 t2 a1 n K t3 t4 a2 a3 t5 t6 t7 t8 t9 t10 t11 a4 a5},ag K=n→n≤1000→(dP w.params h g e x0 t1 x1 t2 a1 n K t3 t4 a2 a3 t5 t6 t7 t8 t9 t10 t11 a4 a5).S.Holds (BB w h g)) ∧
 (∀ {e x0 t1 x1 t2 x2 t3 a1 n K t4 t5 a2 a3 t6 t7 t8 t9 t10 t11 t12 a4 a5},ag K=n→n≤1000→(cj w.params h g e x0 t1 x1 t2 x2 t3 a1 n K t4 t5 a2 a3 t6 t7 t8 t9 t10 t11 t12 a4 a5).S.Holds (BB w h g)) ∧
 (∀ {e x0 t1 x1 t2 x2 t3 a1 n K t4 t5 a2 a3 t6 t7 t8 t9 t10 t11 t12 a4 a5},ag K=n→n≤1000→(c8 w.params h g e x0 t1 x1 t2 x2 t3 a1 n K t4 t5 a2 a3 t6 t7 t8 t9 t10 t11 t12 a4 a5).S.Holds (BB w h g)) ∧
 (∀ {e x0 t1 x1 t2 x2 t3 a1 n K t4 t5 a2 a3 t6 t7 t8 t9 t10 t11 t12 a4 a5},ag K=n→n≤1000→(cg w.params h g e x0 t1 x1 t2 x2 t3 a1 n K t4 t5 a2 a3 t6 t7 t8 t9 t10 t11 t12 a4 a5).S.Holds (BB w h g)) ∧
 (∀ {e x0 t1 x1 t2 x2 t3 x3 t4 a1 n K t5 t6 a2 a3 t7 t8 t9 t10 t11 t12 t13 a4 a5},ag K=n→n≤1000→(g8 w.params h g e x0 t1 x1 t2 x2 t3 x3 t4 a1 n K t5 t6 a2 a3 t7 t8 t9 t10 t11 t12 t13 a4 a5).S.Holds (BB w h g)) ∧
 (∀ {e x0 t1 x1 t2 x2 t3 x3 t4 a1 n K t5 t6 a2 a3 t7 t8 t9 t10 t11 t12 t13 a4 a5},ag K=n→n≤1000→(ga w.params h g e x0 t1 x1 t2 x2 t3 x3 t4 a1 n K t5 t6 a2 a3 t7 t8 t9 t10 t11 t12 t13 a4 a5).S.Holds (BB w h g)) ∧
 (∀ {e x0 t1 x1 t2 x2 t3 x3 t4 a1 n K t5 t6 a2 a3 t7 t8 t9 t10 t11 t12 t13 a4 a5},ag K=n→n≤1000→(g4 w.params h g e x0 t1 x1 t2 x2 t3 x3 t4 a1 n K t5 t6 a2 a3 t7 t8 t9 t10 t11 t12 t13 a4 a5).S.Holds (BB w h g)) ∧
 (∀ {e x0 t1 x1 t2 x2 t3 x3 t4 a1 n K t5 t6 a2 a3 t7 t8 t9 t10 t11 t12 t13 a4 a5},ag K=n→n≤1000→(gg w.params h g e x0 t1 x1 t2 x2 t3 x3 t4 a1 n K t5 t6 a2 a3 t7 t8 t9 t10 t11 t12 t13 a4 a5).S.Holds (BB w h g)):=by
 refine ⟨fun {e x0 t1 x1 t2 a1 n K t3 t4 a2 a3 t5 t6 t7 t8 t9 t10 t11 a4 a5} hK hn=>dm 759 (ce [iI]) [u (fun A J O=>aT w.params h g n K (Prod.mk t4 (.ref (A 5))) t10) [4] [],u (fun A J O=>aS w.params h g n K (Prod.mk t4 (.ref (A 5))) t10) [4] [],u (fun A J O=>dX w.params h g false true (DT.s true (A 1) 0 [(DT.v (.int 0 t11))]) (DT.s true (A 18) 0 []) false []) [1,18] []] (aa (aV hK) (aa (aW hK) (aa (gF false rfl (Nat.le_of_ble_eq_true (by kernel_rfl)) (.inr ⟨rfl,(.left _ _)⟩) jb) ao))) ?_,
 fun {e x0 t1 x1 t2 a1 n K t3 t4 a2 a3 t5 t6 t7 t8 t9 t10 t11 a4 a5} hK hn=>dm 759 (ce [iI]) [u (fun A J O=>aT w.params h g n K (Prod.mk t4 (.ref (A 5))) t10) [4] [],u (fun A J O=>aS w.params h g n K (Prod.mk t4 (.ref (A 5))) t10) [4] [],u (fun A J O=>dX w.params h g false true (DT.s true (A 1) 0 [(DT.v (.int 1 t11))]) (DT.s true (A 18) 0 []) false []) [1,18] []] (aa (aV hK) (aa (aW hK) (aa (gF false rfl (Nat.le_of_ble_eq_true (by kernel_rfl)) (.inr ⟨rfl,(.left _ _)⟩) jb) ao))) ?_,
 fun {e x0 t1 x1 t2 x2 t3 a1 n K t4 t5 a2 a3 t6 t7 t8 t9 t10 t11 t12 a4 a5} hK hn=>dm 759 (ce [iI]) [u (fun A J O=>aT w.params h g n K (Prod.mk t5 (.ref (A 5))) t11) [4] [],u (fun A J O=>aS w.params h g n K (Prod.mk t5 (.ref (A 5))) t11) [4] [],u (fun A J O=>dX w.params h g false true (DT.s true (A 1) 0 [(DT.v (.int 0 t12))]) (DT.s true (A 18) 0 []) false []) [1,18] []] (aa (aV hK) (aa (aW hK) (aa (gF false rfl (Nat.le_of_ble_eq_true (by kernel_rfl)) (.inr ⟨rfl,(.left _ _)⟩) jb) ao))) ?_,
 fun {e x0 t1 x1 t2 x2 t3 a1 n K t4 t5 a2 a3 t6 t7 t8 t9 t10 t11 t12 a4 a5} hK hn=>dm 759 (ce [iI]) [u (fun A J O=>aT w.params h g n K (Prod.mk t5 (.ref (A 5))) t11) [4] [],u (fun A J O=>aS w.params h g n K (Prod.mk t5 (.ref (A 5))) t11) [4] [],u (fun A J O=>dX w.params h g false true (DT.s true (A 1) 0 [(DT.v (.int 1 t12))]) (DT.s true (A 18) 0 []) false []) [1,18] []] (aa (aV hK) (aa (aW hK) (aa (gF false rfl (Nat.le_of_ble_eq_true (by kernel_rfl)) (.inr ⟨rfl,(.left _ _)⟩) jb) ao))) ?_,
 fun {e x0 t1 x1 t2 x2 t3 a1 n K t4 t5 a2 a3 t6 t7 t8 t9 t10 t11 t12 a4 a5} hK hn=>dm 759 (ce [iI]) [u (fun A J O=>aT w.params h g n K (Prod.mk t5 (.ref (A 5))) t11) [4] [],u (fun A J O=>aS w.params h g n K (Prod.mk t5 (.ref (A 5))) t11) [4] [],u (fun A J O=>dX w.params h g false true (DT.s true (A 1) 0 [(DT.v (.int 2 t12))]) (DT.s true (A 18) 0 []) false []) [1,18] []] (aa (aV hK) (aa (aW hK) (aa (gF false rfl (Nat.le_of_ble_eq_true (by kernel_rfl)) (.inr ⟨rfl,(.left _ _)⟩) jb) ao))) ?_,
 fun {e x0 t1 x1 t2 x2 t3 x3 t4 a1 n K t5 t6 a2 a3 t7 t8 t9 t10 t11 t12 t13 a4 a5} hK hn=>dm 759 (ce [iI]) [u (fun A J O=>aT w.params h g n K (Prod.mk t6 (.ref (A 5))) t12) [4] [],u (fun A J O=>aS w.params h g n K (Prod.mk t6 (.ref (A 5))) t12) [4] [],u (fun A J O=>dX w.params h g false true (DT.s true (A 1) 0 [(DT.v (.int 0 t13))]) (DT.s true (A 18) 0 []) false []) [1,18] []] (aa (aV hK) (aa (aW hK) (aa (gF false rfl (Nat.le_of_ble_eq_true (by kernel_rfl)) (.inr ⟨rfl,(.left _ _)⟩) jb) ao))) ?_,
 fun {e x0 t1 x1 t2 x2 t3 x3 t4 a1 n K t5 t6 a2 a3 t7 t8 t9 t10 t11 t12 t13 a4 a5} hK hn=>dm 759 (ce [iI]) [u (fun A J O=>aT w.params h g n K (Prod.mk t6 (.ref (A 5))) t12) [4] [],u (fun A J O=>aS w.params h g n K (Prod.mk t6 (.ref (A 5))) t12) [4] [],u (fun A J O=>dX w.params h g false true (DT.s true (A 1) 0 [(DT.v (.int 1 t13))]) (DT.s true (A 18) 0 []) false []) [1,18] []] (aa (aV hK) (aa (aW hK) (aa (gF false rfl (Nat.le_of_ble_eq_true (by kernel_rfl)) (.inr ⟨rfl,(.left _ _)⟩) jb) ao))) ?_,
 fun {e x0 t1 x1 t2 x2 t3 x3 t4 a1 n K t5 t6 a2 a3 t7 t8 t9 t10 t11 t12 t13 a4 a5} hK hn=>dm 759 (ce [iI]) [u (fun A J O=>aT w.params h g n K (Prod.mk t6 (.ref (A 5))) t12) [4] [],u (fun A J O=>aS w.params h g n K (Prod.mk t6 (.ref (A 5))) t12) [4] [],u (fun A J O=>dX w.params h g false true (DT.s true (A 1) 0 [(DT.v (.int 2 t13))]) (DT.s true (A 18) 0 []) false []) [1,18] []] (aa (aV hK) (aa (aW hK) (aa (gF false rfl (Nat.le_of_ble_eq_true (by kernel_rfl)) (.inr ⟨rfl,(.left _ _)⟩) jb) ao))) ?_,
 fun {e x0 t1 x1 t2 x2 t3 x3 t4 a1 n K t5 t6 a2 a3 t7 t8 t9 t10 t11 t12 t13 a4 a5} hK hn=>dm 759 (ce [iI]) [u (fun A J O=>aT w.params h g n K (Prod.mk t6 (.ref (A 5))) t12) [4] [],u (fun A J O=>aS w.params h g n K (Prod.mk t6 (.ref (A 5))) t12) [4] [],u (fun A J O=>dX w.params h g false true (DT.s true (A 1) 0 [(DT.v (.int 3 t13))]) (DT.s true (A 18) 0 []) false []) [1,18] []] (aa (aV hK) (aa (aW hK) (aa (gF false rfl (Nat.le_of_ble_eq_true (by kernel_rfl)) (.inr ⟨rfl,(.left _ _)⟩) jb) ao))) ?_⟩ <;> intro cb ν τ υ π ς ρ own past κ bl p <;> kernel_rfl
end
section
open PySem.SeqAt
noncomputable def eL (js:List Nat) (f:Code→List Cell→List Nat→RS):LibE:=⟨js,fun c l m=>(f c l m).S⟩
noncomputable def Fj (P:Params) (h g:Nat→Nat):List LibE:=[
 eL [] fun c l m=>aM P h g En (vt (ar c 1)),
 eL [] fun c l m=>aM P h g Qr (vt (ar c 1)),
 eL [] fun c l m=>aM P h g Qm (vt (ar c 1)),
 eL [] fun c l m=>aM P h g EO (vt (ar c 1)),
 eL [] fun c l m=>aM P h g EP (vt (ar c 1)),
 eL [] fun c l m=>aM P h g Ey (vt (ar c 1)),
 eL [] fun c l m=>aM P h g Qh (vt (ar c 1)),
 eL [] fun c l m=>aM P h g Qu (vt (ar c 1)),
 eL [] fun c l m=>aM P h g Qq (vt (ar c 1)),
 eL [] fun c l m=>aM P h g EG (vt (ar c 1)),
 eL [] fun c l m=>aM P h g Dr (vt (ar c 1)),
 eL [] fun c l m=>aM P h g Bh (vt (ar c 1)),
 eL [] fun c l m=>aM P h g Qs (vt (ar c 1)),
 eL [] fun c l m=>aM P h g Qv (vt (ar c 1)),
 eL [] fun c l m=>aM P h g Qj (vt (ar c 1)),
 eL [] fun c l m=>aM P h g Qz (vt (ar c 1)),
 eL [] fun c l m=>dG P h g Q2 (vt (ar c 1)),
 eL [] fun c l m=>dG P h g Q0 (vt (ar c 1)),
 eL [] fun c l m=>dG P h g Q4 (vt (ar c 1)),
 eL [] fun c l m=>dG P h g Q3 (vt (ar c 1)),
 eL [] fun c l m=>bR P h g ⟨#[33,61]⟩ (vt (ar c 1)),
 eL [] fun c l m=>bR P h g ⟨#[42]⟩ (vt (ar c 1)),
 eL [] fun c l m=>bR P h g ⟨#[43]⟩ (vt (ar c 1)),
 eL [] fun c l m=>bR P h g ⟨#[45]⟩ (vt (ar c 1)),
 eL [] fun c l m=>bR P h g ⟨#[60]⟩ (vt (ar c 1)),
 eL [] fun c l m=>bR P h g ⟨#[61,61]⟩ (vt (ar c 1)),
 eL [] fun c l m=>bR P h g Qy (vt (ar c 1)),
 eL [] fun c l m=>fT P h g ⟨#[42]⟩ (vt (ar c 1)),
 eL [] fun c l m=>fT P h g ⟨#[43]⟩ (vt (ar c 1)),
 eL [] fun c l m=>fT P h g ⟨#[45]⟩ (vt (ar c 1)),
 eL [] fun c l m=>pG P h g Q1 (vt (ar c 1)),
 eL [] fun c l m=>DY P h g (ad l 0) (vs (it l 0 0)) (vs (it l 0 1)) (vt (it l 0 0)) (vt (it l 0 1)) (vs (ar c 1)) (vt (ar c 1)),
 eL [] fun c l m=>Bl P h g (ad l 0) Q1 Qc (vt (de l 0 0).key) (vt (de l 0 1).key) (de l 0 0).val (de l 0 1).val Q1 (vt (ar c 1)),
 eL [] fun c l m=>Bl P h g (ad l 0) Q1 Qc (vt (de l 0 0).key) (vt (de l 0 1).key) (de l 0 0).val (de l 0 1).val Qc (vt (ar c 1)),
 eL [0,1] fun c l m=>c6 P h g 0 (vt (ar c 1)) (.bytes (vb (ar c 2)) (vt (ar c 2))) (v7 (ob l 0)) (v7 (ob l 1)),
 eL [0,1] fun c l m=>c6 P h g 0 (vt (ar c 1)) (.int (vi (ar c 2)) (vt (ar c 2))) (v7 (ob l 0)) (v7 (ob l 1)),
 eL [0,1] fun c l m=>c6 P h g 0 (vt (ar c 1)) (.ref (vr (ar c 2))) (v7 (ob l 0)) (v7 (ob l 1)),
 eL [0,1] fun c l m=>c6 P h g 0 (vt (ar c 1)) (.bool (vo (ar c 2))) (v7 (ob l 0)) (v7 (ob l 1)),
 eL [0,1] fun c l m=>c6 P h g 1 (vt (ar c 1)) (.bytes (vb (ar c 2)) (vt (ar c 2))) (v7 (ob l 0)) (v7 (ob l 1)),
 eL [0,1] fun c l m=>c6 P h g 1 (vt (ar c 1)) (.int (vi (ar c 2)) (vt (ar c 2))) (v7 (ob l 0)) (v7 (ob l 1)),
 eL [0,1] fun c l m=>c6 P h g 1 (vt (ar c 1)) (.ref (vr (ar c 2))) (v7 (ob l 0)) (v7 (ob l 1)),
 eL [0,1] fun c l m=>c6 P h g 2 (vt (ar c 1)) (.ref (vr (ar c 2))) (v7 (ob l 0)) (v7 (ob l 1)),
 eL [0,1] fun c l m=>c6 P h g 2 (vt (ar c 1)) (.bool (vo (ar c 2))) (v7 (ob l 0)) (v7 (ob l 1)),
 eL [0,1] fun c l m=>c6 P h g 3 (vt (ar c 1)) (.int (vi (ar c 2)) (vt (ar c 2))) (v7 (ob l 0)) (v7 (ob l 1)),
 eL [] fun c l m=>mh P h g (ad l 0) (vt (it l 0 0)) (it l 0 1) (it l 0 2),
 eL [] fun c l m=>vU P h g (ad l 0) (vt (it l 0 0)) (vt (it l 0 1)) (vr (it l 1 0)) (v7 (ob l 1)) (v7 (ob l 2)),
 eL [] fun c l m=>vA P h g (ad l 0) (vt (it l 0 0)) (vt (it l 0 1)) (vr (it l 1 1)) (v7 (ob l 1)) (v7 (ob l 2)),
 eL [] fun c l m=>mQ P h g (ad l 0) (vt (it l 0 0)) EQ,
 eL [] fun c l m=>mQ P h g (ad l 0) (vt (it l 0 0)) Qc,
 eL [] fun c l m=>i7 P h g (ad l 0) (vt (it l 0 0)) Q1 (it l 0 1),
 eL [] fun c l m=>i7 P h g (ad l 0) (vt (it l 0 0)) Qw (it l 0 1),
 eL [] fun c l m=>i7 P h g (ad l 0) (vt (it l 0 0)) Qi (it l 0 1),
 eL [] fun c l m=>ik P h g (ad l 0) (vt (it l 0 0)) Ez (it l 0 1) (it l 0 2),
 eL [] fun c l m=>ik P h g (ad l 0) (vt (it l 0 0)) Qg (it l 0 1) (it l 0 2),
 eL [] fun c l m=>ik P h g (ad l 0) (vt (it l 0 0)) Qd (it l 0 1) (it l 0 2),
 eL [] fun c l m=>lr P h g (vi (ar c 1)) (vt (ar c 1)) (vt (ar c 2)) (vs (ar c 2)),
 eL [] fun c l m=>jL P h g (ad l 0) (dn l 0),
 eL [0,1,2] fun c l m=>Dq P h g (ad l 0) (ad l 1) (ad l 2) (ad l 3) (ef c) (v7 (ob l 4)),
 eL [0,1,2] fun c l m=>vC P h g (ad l 0) (ad l 1) (ad l 2) (ad l 3) (ef c) (vi (it l 4 0)) (vt (it l 4 0)) (v7 (ob l 4)),
 eL [0,1,2] fun c l m=>vv P h g (ad l 0) (ad l 1) (ad l 2) (ad l 3) (ef c) (vb (it l 4 0)) (vt (it l 4 0)) (v7 (ob l 4)),
 eL [0,1,2] fun c l m=>vS P h g (ad l 0) (ad l 1) (ad l 2) (ad l 3) (ef c) (vr (it l 4 0)) (v7 (ob l 4)),
 eL [0,1,2] fun c l m=>vF P h g (ad l 0) (ad l 1) (ad l 2) (ad l 3) (ef c) (vo (it l 4 0)) (v7 (ob l 4)),
 eL [0,1,2] fun c l m=>pZ P h g (ad l 0) (ad l 1) (ad l 2) (ad l 3) (ef c) (vr (it l 4 0)) (vr (it l 4 1)) (v7 (ob l 4)),
 eL [0,1,2] fun c l m=>qu P h g (ad l 0) (ad l 1) (ad l 2) (ad l 3) (ef c) (vr (it l 4 0)) (vi (it l 4 1)) (vt (it l 4 1)) (v7 (ob l 4)),
 eL [0,1,2] fun c l m=>r9 P h g (ad l 0) (ad l 1) (ad l 2) (ad l 3) (ef c) (vr (it l 4 0)) (vb (it l 4 1)) (vt (it l 4 1)) (v7 (ob l 4)),
 eL [0,1,2] fun c l m=>mV P h g (ad l 0) (ad l 1) (ad l 2) (ad l 3) (ef c) (vr (it l 4 0)) (vr (it l 4 1)) (vr (it l 4 2)) (v7 (ob l 4)),
 eL [0,1,2] fun c l m=>mL P h g (ad l 0) (ad l 1) (ad l 2) (ad l 3) (ef c) (vr (it l 4 0)) (vb (it l 4 1)) (vt (it l 4 1)) (vo (it l 4 2)) (v7 (ob l 4)),
 eL [0,1,2] fun c l m=>mJ P h g (ad l 0) (ad l 1) (ad l 2) (ad l 3) (ef c) (vr (it l 4 0)) (vi (it l 4 1)) (vt (it l 4 1)) (vo (it l 4 2)) (v7 (ob l 4)),
 eL [0,1,2] fun c l m=>jY P h g (ad l 0) (ad l 1) (ad l 2) (ad l 3) (ef c) (vr (it l 4 0)) (vb (it l 4 1)) (vt (it l 4 1)) (vo (it l 4 2)) (vi (it l 4 3)) (vt (it l 4 3)) (v7 (ob l 4)),
 eL [0,1,2] fun c l m=>qG P h g (ad l 0) (ad l 4) (ad l 1) (ad l 2) (ad l 3) (ef c) (ad l 5) (ad l 6) (vt (it l 5 0)) (vt (it l 5 2)) (vt (it l 6 0)) (vt (it l 6 2)) (it l 5 1) (it l 6 1) (vi (it l 5 2)) (vi (it l 6 2)),
 eL [] fun c l m=>qM P h g (vr (ar c 0)) (vr (ar c 1)),
 eL [] fun c l m=>qx P h g (vr (ar c 0)) (vi (ar c 1)) (vt (ar c 1)),
 eL [] fun c l m=>qE P h g (vr (ar c 0)) (vb (ar c 1)) (vt (ar c 1)),
 eL [] fun c l m=>qp P h g (vr (ar c 0)) (vo (ar c 1)),
 eL [] fun c l m=>rt P h g (vr (ar c 0)) ,
 eL [] fun c l m=>rA P h g (ad l 0) (ad l 1) (vt (it l 1 0)) (vt (it l 1 1)) (vi (it l 1 1)),
 eL [0] fun c l m=>sD P h g (ad l 0) (ad l 1) (vt (it l 1 0)) (vt (it l 1 1)) (vi (it l 1 1)) (ar c 2),
 eL [] fun c l m=>tA P h g (ad l 0) (ad l 1) (vt (it l 1 0)) (vt (it l 1 1)) (ad l 2) (vt (it l 2 0)) (vt (it l 2 1)) (vi (it l 1 1)) (de l 0 0).val,
 eL [0] fun c l m=>uV P h g (ad l 0) (ad l 1) (vt (it l 1 0)) (vt (it l 1 1)) (ad l 2) (vt (it l 2 0)) (vt (it l 2 1)) (vi (it l 1 1)) (de l 0 0).val,
 eL [] fun c l m=>Cl P h g (vt (it l 0 0)) (vi (it l 0 1)) (vt (it l 0 1)) (ad l 0) (vr (it l 0 2)),
 eL [] fun c l m=>A7 P h g false false l m,
 eL [] fun c l m=>A7 P h g false true l m,
 eL [] fun c l m=>A7 P h g true false l m,
 eL [] fun c l m=>A7 P h g true true l m]
theorem BG (w:World) (h g:Nat→Nat):fQ (BB w h g) (Fj w.params h g) :=
 ⟨fun _ _ _=>kI,⟨fun _ _ _=>kf,⟨fun _ _ _=>iJ,⟨fun _ _ _=>pC,⟨fun _ _ _=>nG,⟨fun _ _ _=>iT,⟨fun _ _ _=>mY,⟨fun _ _ _=>gL,⟨fun _ _ _=>np,⟨fun _ _ _=>gJ,⟨fun _ _ _=>iX,⟨fun _ _ _=>kz,⟨fun _ _ _=>jt,⟨fun _ _ _=>jy,⟨fun _ _ _=>of,⟨fun _ _ _=>lC,⟨fun _ _ _=>nI,⟨fun _ _ _=>pK,⟨fun _ _ _=>lJ,⟨fun _ _ _=>nZ,⟨fun _ _ _=>BQ,⟨fun _ _ _=>Cj,⟨fun _ _ _=>E7,⟨fun _ _ _=>Ca,⟨fun _ _ _=>BR,⟨fun _ _ _=>Bk,⟨fun _ _ _=>Cr,⟨fun _ _ _=>AB,⟨fun _ _ _=>DI,⟨fun _ _ _=>E5,⟨fun _ _ _=>DD,⟨fun _ _ _=>FE _ _ _ _ _ _ _ _ _ _ (to _ _ _ _ _),⟨fun _ _ _=>Cp,⟨fun _ _ _=>Db,⟨fun _ _ _=>cf.2.2.2.2.2.2.2.2.2.2.2.2.1,⟨fun _ _ _=>cf.2.2.2.2.2.2.2.2.2.2.2.2.2.2.2.1,⟨fun _ _ _=>cf.2.2.2.1,⟨fun _ _ _=>cf.2.2.2.2.2.2.2.2.2.1,⟨fun _ _ _=>cf.2.2.2.2.2.2.2.2.2.2.2.2.2.2.2.2.2.2.1,⟨fun _ _ _=>cf.2.2.2.2.2.2.1,⟨fun _ _ _=>cf.1,⟨fun _ _ _=>cf.2.2.2.2.2.2.2.2.2.2.2.2.2.1,⟨fun _ _ _=>cf.2.2.2.2.2.2.2.2.2.2.1,⟨fun _ _ _=>cf.2.2.2.2.2.2.2.2.2.2.2.2.2.2.2.2.1,⟨fun _ _ _=>cf.2.2.2.2.1,⟨fun _ _ _=>cf.2.2.2.2.2.2.2.2.2.2.2.2.2.2.2.2.2.2.2.1,⟨fun _ _ _=>cf.2.2.2.2.2.2.2.1,⟨fun _ _ _=>cf.2.1,⟨fun _ _ _=>cf.2.2.2.2.2.2.2.2.2.2.2.1,⟨fun _ _ _=>cf.2.2.2.2.2.2.2.2.2.2.2.2.2.2.1,⟨fun _ _ _=>cf.2.2.2.2.2.2.2.2.2.2.2.2.2.2.2.2.2.1,⟨fun _ _ _=>cf.2.2.2.2.2.1,⟨fun _ _ _=>cf.2.2.2.2.2.2.2.2.2.2.2.2.2.2.2.2.2.2.2.2.1,⟨fun _ _ _=>cf.2.2.2.2.2.2.2.2.1,⟨fun _ _ _=>cf.2.2.1,⟨fun _ _ _=>yV,⟨fun _ _ _=>B0,⟨fun _ _ _=>cf.2.2.2.2.2.2.2.2.2.2.2.2.2.2.2.2.2.2.2.2.2.1,⟨fun _ _ _=>cf.2.2.2.2.2.2.2.2.2.2.2.2.2.2.2.2.2.2.2.2.2.2.1,⟨fun _ _ _=>cf.2.2.2.2.2.2.2.2.2.2.2.2.2.2.2.2.2.2.2.2.2.2.2.1,⟨fun _ _ _=>cf.2.2.2.2.2.2.2.2.2.2.2.2.2.2.2.2.2.2.2.2.2.2.2.2.1,⟨fun _ _ _=>cf.2.2.2.2.2.2.2.2.2.2.2.2.2.2.2.2.2.2.2.2.2.2.2.2.2.1,⟨fun _ _ _=>cf.2.2.2.2.2.2.2.2.2.2.2.2.2.2.2.2.2.2.2.2.2.2.2.2.2.2.1,⟨fun _ _ _=>cf.2.2.2.2.2.2.2.2.2.2.2.2.2.2.2.2.2.2.2.2.2.2.2.2.2.2.2.1,⟨fun _ _ _=>cf.2.2.2.2.2.2.2.2.2.2.2.2.2.2.2.2.2.2.2.2.2.2.2.2.2.2.2.2.1,⟨fun _ _ _=>cf.2.2.2.2.2.2.2.2.2.2.2.2.2.2.2.2.2.2.2.2.2.2.2.2.2.2.2.2.2.1,⟨fun _ _ _=>cf.2.2.2.2.2.2.2.2.2.2.2.2.2.2.2.2.2.2.2.2.2.2.2.2.2.2.2.2.2.2.1,⟨fun _ _ _=>cf.2.2.2.2.2.2.2.2.2.2.2.2.2.2.2.2.2.2.2.2.2.2.2.2.2.2.2.2.2.2.2.1,⟨fun _ _ _=>cf.2.2.2.2.2.2.2.2.2.2.2.2.2.2.2.2.2.2.2.2.2.2.2.2.2.2.2.2.2.2.2.2.1,⟨fun _ _ _=>dv.1,⟨fun _ _ _=>cf.2.2.2.2.2.2.2.2.2.2.2.2.2.2.2.2.2.2.2.2.2.2.2.2.2.2.2.2.2.2.2.2.2.1,⟨fun _ _ _=>cf.2.2.2.2.2.2.2.2.2.2.2.2.2.2.2.2.2.2.2.2.2.2.2.2.2.2.2.2.2.2.2.2.2.2.1,⟨fun _ _ _=>cf.2.2.2.2.2.2.2.2.2.2.2.2.2.2.2.2.2.2.2.2.2.2.2.2.2.2.2.2.2.2.2.2.2.2.2.1,⟨fun _ _ _=>cf.2.2.2.2.2.2.2.2.2.2.2.2.2.2.2.2.2.2.2.2.2.2.2.2.2.2.2.2.2.2.2.2.2.2.2.2.1,⟨fun _ _ _=>cf.2.2.2.2.2.2.2.2.2.2.2.2.2.2.2.2.2.2.2.2.2.2.2.2.2.2.2.2.2.2.2.2.2.2.2.2.2.1,⟨fun _ _ _=>FG,⟨fun _ _ _=>Fd,⟨fun _ _ _=>Fq,⟨fun _ _ _=>FM,⟨fun _ _ _=>cf.2.2.2.2.2.2.2.2.2.2.2.2.2.2.2.2.2.2.2.2.2.2.2.2.2.2.2.2.2.2.2.2.2.2.2.2.2.2,⟨fun _ _ _=>tM _ _ _ _,⟨fun _ _ _=>tM _ _ _ _,⟨fun _ _ _=>tM _ _ _ _,⟨fun _ _ _=>tM _ _ _ _,trivial⟩⟩⟩⟩⟩⟩⟩⟩⟩⟩⟩⟩⟩⟩⟩⟩⟩⟩⟩⟩⟩⟩⟩⟩⟩⟩⟩⟩⟩⟩⟩⟩⟩⟩⟩⟩⟩⟩⟩⟩⟩⟩⟩⟩⟩⟩⟩⟩⟩⟩⟩⟩⟩⟩⟩⟩⟩⟩⟩⟩⟩⟩⟩⟩⟩⟩⟩⟩⟩⟩⟩⟩⟩⟩⟩⟩⟩⟩⟩⟩⟩⟩⟩⟩
end
section
open PySem.SeqAt
theorem dZ {w:World} {h g:Nat→Nat} {D:RS} (n hs:Nat) (us:List Use) (U:cl (BB w h g) us) (H:∀ cb,D.RunsL (BB w h g) (Fj w.params h g) n hs us cb) (a:D.tl=none:=by rfl) (b:∀ ob q,D.SO ob q=D.S:=by exact fun _ _=>rfl):D.S.Holds (BB w h g):=RS.doneL (cw w h g) (BG w h g).all (.one H) a b U
noncomputable def lL (P:Params) (h g:Nat→Nat) (e a1 n:Nat) (K:List (Nat × Value)) (t1 t2 a2 a3 t3 t4 t5 t6 t7 t8 t9 t10 t11 t12 a4:Nat):RS:=(aH 250 (AN) false (aq 626 [.ref (h 68),(.ref a4)]) [⟨false,a1,oL e []⟩,⟨false,a4,oT [(.str Qi t8),(.int (Int.ofNat (n+1)) t9),(.int 0 t10),(.int 0 t11),(.int 0 t12)]⟩,bN P h g false (n+1) t1,cW h false (n+1) ((t2,.ref a2)::K),⟨false,a2,⟨.ref 1271,some a3,.plain,#[]⟩⟩,⟨false,a3,⟨yD,none,.dict #[eS P Q8 t3 (.str Qa t6),eS P Q9 t4 (.ref a1),eS P Q7 t5 (.str Q6 t7)] 3,#[]⟩⟩]).fin [15] [] nN (fun b t=>[(oL 0 [])]) rB
noncomputable def lG (P:Params) (h g:Nat→Nat) (e:Nat) (x0:Int) (t1:Nat) (x1:Int) (t2 a1 n:Nat) (K:List (Nat × Value)) (t3 t4 a2 a3 t5 t6 t7 t8 t9 t10 t11 t12 t13 t14 a4:Nat):RS:=(aH 250 (AN) false (aq 626 [.ref (h 68),(.ref a4)]) [⟨false,a1,oL e [(.int x0 t1),(.int x1 t2)]⟩,⟨false,a4,oT [(.str Qi t10),(.int (Int.ofNat (n+1)) t11),(.int 0 t12),(.int 2 t13),(.int 2 t14)]⟩,bN P h g false (n+1) t3,cW h false (n+1) ((t4,.ref a2)::K),⟨false,a2,⟨.ref 1271,some a3,.plain,#[]⟩⟩,⟨false,a3,⟨yD,none,.dict #[eS P Q8 t5 (.str Qa t8),eS P Q9 t6 (.ref a1),eS P Q7 t7 (.str Q6 t9)] 3,#[]⟩⟩]).fin [15] [] nN (fun b t=>[(oL 2 [(.int x0 t1),(.int x1 t2)])]) rB
noncomputable def fE (P:Params) (h g:Nat→Nat) (e:Nat) (x0:Int) (t1:Nat) (x1:Int) (t2:Nat) (x2:Int) (t3 a1 n:Nat) (K:List (Nat × Value)) (t4 t5 a2 a3 t6 t7 t8 t9 t10 t11 t12 t13 t14 t15 a4:Nat):RS:=(aH 250 (AN) false (aq 626 [.ref (h 68),(.ref a4)]) [⟨false,a1,oL e [(.int x0 t1),(.int x1 t2),(.int x2 t3)]⟩,⟨false,a4,oT [(.str Qi t11),(.int (Int.ofNat (n+1)) t12),(.int 0 t13),(.int 3 t14),(.int 3 t15)]⟩,bN P h g false (n+1) t4,cW h false (n+1) ((t5,.ref a2)::K),⟨false,a2,⟨.ref 1271,some a3,.plain,#[]⟩⟩,⟨false,a3,⟨yD,none,.dict #[eS P Q8 t6 (.str Qa t9),eS P Q9 t7 (.ref a1),eS P Q7 t8 (.str Q6 t10)] 3,#[]⟩⟩]).fin [15] [] nN (fun b t=>[(oL 3 [(.int x0 t1),(.int x1 t2),(.int x2 t3)])]) rB
noncomputable def oU (P:Params) (h g:Nat→Nat) (e:Nat) (x0:Int) (t1:Nat) (x1:Int) (t2:Nat) (x2:Int) (t3:Nat) (x3:Int) (t4 a1 n:Nat) (K:List (Nat × Value)) (t5 t6 a2 a3 t7 t8 t9 t10 t11 t12 t13 t14 t15 t16 a4:Nat):RS:=(aH 250 (AN) false (aq 626 [.ref (h 68),(.ref a4)]) [⟨false,a1,oL e [(.int x0 t1),(.int x1 t2),(.int x2 t3),(.int x3 t4)]⟩,⟨false,a4,oT [(.str Qi t12),(.int (Int.ofNat (n+1)) t13),(.int 0 t14),(.int 4 t15),(.int 4 t16)]⟩,bN P h g false (n+1) t5,cW h false (n+1) ((t6,.ref a2)::K),⟨false,a2,⟨.ref 1271,some a3,.plain,#[]⟩⟩,⟨false,a3,⟨yD,none,.dict #[eS P Q8 t7 (.str Qa t10),eS P Q9 t8 (.ref a1),eS P Q7 t9 (.str Q6 t11)] 3,#[]⟩⟩]).fin [15] [] nN (fun b t=>[(oL 4 [(.int x0 t1),(.int x1 t2),(.int x2 t3),(.int x3 t4)])]) rB
noncomputable def qW (P:Params) (h g:Nat→Nat) (i:Int) (t1 t2:Nat) (T0:Value) (a1 t3 t4 a2 t5 t6 a3 t7 t8 a4:Nat) (R F:V7) (t9:Nat):RS:=(aH 400 (fm) false (aq 1501 [.ref (h 126),(.ref a4),(.int 1 t9)]) [⟨false,a1,oT [(.str Q5 t2),T0,(.int i t1)]⟩,⟨false,a2,oT [(.str Q1 t3),(.str Q1 t4)]⟩,⟨false,a3,oT [(.str Q1 t5),(.str Q0 t6)]⟩,⟨false,a4,oT [(.str Qm t7),(.int 0 t8),(.ref a1),(.ref a2),(.ref a3)]⟩,cS h true R,d8 h true F]).fin [23] [48] (fun b t=>[(oL 0 [(.int (iA (Int.fmod (HSub.hSub i (-128)) (HPow.hPow (OfNat.ofNat 2) (Int.toNat (Prod.fst (bC Q0 bJ))))) (Int.negSucc 127)) (nb t 0)),R.2,R.3,R.4,R.5,R.6,R.7]),(oL 7 (fG (.bool true) F))]) (fun b t=>[(oL 1 [(.int (iA (Int.fmod (HSub.hSub i (-128)) (HPow.hPow (OfNat.ofNat 2) (Int.toNat (Prod.fst (bC Q0 bJ))))) (Int.negSucc 127)) (nb t 0))])]) rB
noncomputable def pp (P:Params) (h g:Nat→Nat) (i:Int) (t1 t2:Nat) (T0:Value) (a1 t3 t4 a2 t5 t6 a3 t7 t8 a4:Nat) (R F:V7) (t9:Nat):RS:=(aH 400 (fm) false (aq 1501 [.ref (h 126),(.ref a4),(.int 1 t9)]) [⟨false,a1,oT [(.str Q5 t2),T0,(.int i t1)]⟩,⟨false,a2,oT [(.str Q1 t3),(.str Q1 t4)]⟩,⟨false,a3,oT [(.str Q1 t5),(.str Q4 t6)]⟩,⟨false,a4,oT [(.str Qm t7),(.int 0 t8),(.ref a1),(.ref a2),(.ref a3)]⟩,cS h true R,d8 h true F]).fin [23] [43] (fun b t=>[(oL 0 [(.int (iA (Int.fmod (HSub.hSub i 0) (HPow.hPow (OfNat.ofNat 2) (Int.toNat (Prod.fst (bC Q4 bJ))))) (Int.ofNat 0)) (nb t 0)),R.2,R.3,R.4,R.5,R.6,R.7]),(oL 7 (fG (.bool true) F))]) (fun b t=>[(oL 1 [(.int (iA (Int.fmod (HSub.hSub i 0) (HPow.hPow (OfNat.ofNat 2) (Int.toNat (Prod.fst (bC Q4 bJ))))) (Int.ofNat 0)) (nb t 0))])]) rB
noncomputable def qL (P:Params) (h g:Nat→Nat) (i:Int) (t1 t2:Nat) (T0:Value) (a1 t3 t4 a2 t5 t6 a3 t7 t8 a4:Nat) (R F:V7) (t9:Nat):RS:=(aH 400 (fm) false (aq 1501 [.ref (h 126),(.ref a4),(.int 1 t9)]) [⟨false,a1,oT [(.str Q5 t2),T0,(.int i t1)]⟩,⟨false,a2,oT [(.str Q1 t3),(.str Q1 t4)]⟩,⟨false,a3,oT [(.str Q1 t5),(.str Q2 t6)]⟩,⟨false,a4,oT [(.str Qm t7),(.int 0 t8),(.ref a1),(.ref a2),(.ref a3)]⟩,cS h true R,d8 h true F]).fin [23] [48] (fun b t=>[(oL 0 [(.int (iA (Int.fmod (HSub.hSub i (-9223372036854775808)) (HPow.hPow (OfNat.ofNat 2) (Int.toNat (Prod.fst (bC Q2 bJ))))) (Int.negSucc 9223372036854775807)) (nb t 0)),R.2,R.3,R.4,R.5,R.6,R.7]),(oL 7 (fG (.bool true) F))]) (fun b t=>[(oL 1 [(.int (iA (Int.fmod (HSub.hSub i (-9223372036854775808)) (HPow.hPow (OfNat.ofNat 2) (Int.toNat (Prod.fst (bC Q2 bJ))))) (Int.negSucc 9223372036854775807)) (nb t 0))])]) rB
noncomputable def qD (P:Params) (h g:Nat→Nat) (i:Int) (t1 t2:Nat) (T0:Value) (a1 t3 t4 a2 t5 t6 a3 t7 t8 a4:Nat) (R F:V7) (t9:Nat):RS:=(aH 400 (fm) false (aq 1501 [.ref (h 126),(.ref a4),(.int 1 t9)]) [⟨false,a1,oT [(.str Q5 t2),T0,(.int i t1)]⟩,⟨false,a2,oT [(.str Q1 t3),(.str Q1 t4)]⟩,⟨false,a3,oT [(.str Q1 t5),(.str Q3 t6)]⟩,⟨false,a4,oT [(.str Qm t7),(.int 0 t8),(.ref a1),(.ref a2),(.ref a3)]⟩,cS h true R,d8 h true F]).fin [23] [43] (fun b t=>[(oL 0 [(.int (iA (Int.fmod (HSub.hSub i 0) (HPow.hPow (OfNat.ofNat 2) (Int.toNat (Prod.fst (bC Q3 bJ))))) (Int.ofNat 0)) (nb t 0)),R.2,R.3,R.4,R.5,R.6,R.7]),(oL 7 (fG (.bool true) F))]) (fun b t=>[(oL 1 [(.int (iA (Int.fmod (HSub.hSub i 0) (HPow.hPow (OfNat.ofNat 2) (Int.toNat (Prod.fst (bC Q3 bJ))))) (Int.ofNat 0)) (nb t 0))])]) rB
noncomputable def vD (P:Params) (h g:Nat→Nat) (t1 t2 a1 t3 t4 t5 t6:Nat) (c:Int) (t7 a2 t8:Nat) (d:Int) (t9 a3 a4:Nat) (R F:V7) (t10:Nat):RS:=(aH 400 (fm) false (aq 1501 [.ref (h 126),(.ref a4),(.int 1 t10)]) [⟨false,a1,oT [(.str Q1 t1),(.str Q0 t2)]⟩,⟨false,a2,oT [(.str Q5 t6),(.ref a1),(.int c t7)]⟩,⟨false,a3,oT [(.str Q5 t8),(.ref a1),(.int d t9)]⟩,⟨false,a4,oT [(.str Qr t3),(.int 0 t4),(.str ⟨#[43]⟩ t5),(.ref a2),(.ref a3),(.ref a1)]⟩,cS h true R,d8 h true F]).fin [26] [59] (fun b t=>[(oL 0 [(.int (iA (Int.fmod (HSub.hSub (iA c d) (-128)) (HPow.hPow (OfNat.ofNat 2) (Int.toNat (Prod.fst (bC Q0 bJ))))) (Int.negSucc 127)) (nb t 0)),R.2,R.3,R.4,R.5,R.6,R.7]),(oL 7 (fG (.bool true) F))]) (fun b t=>[(oL 1 [(.int (iA (Int.fmod (HSub.hSub (iA c d) (-128)) (HPow.hPow (OfNat.ofNat 2) (Int.toNat (Prod.fst (bC Q0 bJ))))) (Int.negSucc 127)) (nb t 0))])]) rB
noncomputable def vj (P:Params) (h g:Nat→Nat) (t1 t2 a1 t3 t4 t5 t6:Nat) (c:Int) (t7 a2 t8:Nat) (d:Int) (t9 a3 a4:Nat) (R F:V7) (t10:Nat):RS:=(aH 400 (fm) false (aq 1501 [.ref (h 126),(.ref a4),(.int 1 t10)]) [⟨false,a1,oT [(.str Q1 t1),(.str Q0 t2)]⟩,⟨false,a2,oT [(.str Q5 t6),(.ref a1),(.int c t7)]⟩,⟨false,a3,oT [(.str Q5 t8),(.ref a1),(.int d t9)]⟩,⟨false,a4,oT [(.str Qr t3),(.int 0 t4),(.str ⟨#[45]⟩ t5),(.ref a2),(.ref a3),(.ref a1)]⟩,cS h true R,d8 h true F]).fin [26] [60] (fun b t=>[(oL 0 [(.int (iA (Int.fmod (HSub.hSub (iA c (-d)) (-128)) (HPow.hPow (OfNat.ofNat 2) (Int.toNat (Prod.fst (bC Q0 bJ))))) (Int.negSucc 127)) (nb t 0)),R.2,R.3,R.4,R.5,R.6,R.7]),(oL 7 (fG (.bool true) F))]) (fun b t=>[(oL 1 [(.int (iA (Int.fmod (HSub.hSub (iA c (-d)) (-128)) (HPow.hPow (OfNat.ofNat 2) (Int.toNat (Prod.fst (bC Q0 bJ))))) (Int.negSucc 127)) (nb t 0))])]) rB
noncomputable def vx (P:Params) (h g:Nat→Nat) (t1 t2 a1 t3 t4 t5 t6:Nat) (c:Int) (t7 a2 t8:Nat) (d:Int) (t9 a3 a4:Nat) (R F:V7) (t10:Nat):RS:=(aH 400 (fm) false (aq 1501 [.ref (h 126),(.ref a4),(.int 1 t10)]) [⟨false,a1,oT [(.str Q1 t1),(.str Q0 t2)]⟩,⟨false,a2,oT [(.str Q5 t6),(.ref a1),(.int c t7)]⟩,⟨false,a3,oT [(.str Q5 t8),(.ref a1),(.int d t9)]⟩,⟨false,a4,oT [(.str Qr t3),(.int 0 t4),(.str Qy t5),(.ref a2),(.ref a3),(.ref a1)]⟩,cS h true R,d8 h true F]).fin [22] [] (fun b t=>[(oL 0 [(.bool (Decidable.rec (fun h=>(fun x=>false) h) (fun h=>(fun x=>true) h) (Int.decLe d c))),R.2,R.3,R.4,R.5,R.6,R.7]),(oL 7 (fG (.bool true) F))]) (fun b t=>[(oL 1 [(.bool (Decidable.rec (fun h=>(fun x=>false) h) (fun h=>(fun x=>true) h) (Int.decLe d c)))])]) rB
noncomputable def iU (P:Params) (h g:Nat→Nat) (n:Nat) (K:List (Nat × Value)) (t1 t2 a1 a2 t3 t4 t5 t6 t7 ch cd a3 a4 a5 t8 t9 t10 t11 t12 t13:Nat) (r:Int) (t14 t15:Nat) (tt:Value) (a6 x t16 t17 t18 t19 t20 a7 a8 t21 t22:Nat) (R F:V7) (t23:Nat):RS:=(aH 400 (fm) false (aq 1501 [.ref (h 126),(.ref a8),(.int 2 t23)]) [⟨false,a3,oL 0 []⟩,⟨false,a4,oL 0 []⟩,⟨false,a5,oL 0 []⟩,⟨false,a6,oT [(.str Qg t14),(.str ⟨#[98,111,116,104]⟩ t15),tt]⟩,⟨false,a7,oT [(.str Qn t19),(.int 0 t20)]⟩,⟨false,a8,oT [(.str Qj t16),(.int 1 t17),(.str ER t18),(.ref a7),(.ref a6)]⟩,⟨false,x,oT [.str Qg t21,(.int (Int.ofNat (n+1)) t22)]⟩,cS h true { R with a:=.ref x },d8 h true { F with a:=.bool true },bN P h g false (n+1) t1,cW h false (n+1) ((t2,.ref a1)::K),⟨false,a1,⟨.ref 1271,some a2,.plain,#[]⟩⟩,⟨false,a2,⟨yD,none,.dict #[eS P Q8 t3 (.str Qg t6),eS P Q9 t4 (.ref ch),eS P Q7 t5 (.str Q6 t7)] 3,#[]⟩⟩,⟨false,ch,⟨.ref 106,some cd,.plain,#[]⟩⟩,⟨false,cd,⟨yD,none,.dict #[eS P ⟨#[114,111,111,109]⟩ t8 (.int r t9),eS P FY t10 (.ref a3),eS P FT t11 (.ref a4),eS P FZ t12 (.ref a5),eS P Gt t13 (.bool false)] 5,#[]⟩⟩]).fin [31] [] (fun b t=>[(oL 0 (Eu (.ref x) (.int r t9) R)),(oL 7 (Eu (.bool true) (.bool true) F))]) (fun b t=>[(oL 2 [(.ref x),(.int r t9)])]) rB
noncomputable def iM (P:Params) (h g:Nat→Nat) (n:Nat) (K:List (Nat × Value)) (t1 t2 a1 a2 t3 t4 t5 t6 t7 ch cd a3 a4 a5 t8 t9 t10 t11 t12 t13:Nat) (r:Int) (t14 t15:Nat) (tt:Value) (a6 x t16 t17 t18 t19 t20 a7 a8 t21 t22:Nat) (R F:V7) (t23:Nat):RS:=(aH 400 (fm) false (aq 1501 [.ref (h 126),(.ref a8),(.int 2 t23)]) [⟨false,a3,oL 0 []⟩,⟨false,a4,oL 0 []⟩,⟨false,a5,oL 0 []⟩,⟨false,a6,oT [(.str Qg t14),(.str ⟨#[98,111,116,104]⟩ t15),tt]⟩,⟨false,a7,oT [(.str Qn t19),(.int 0 t20)]⟩,⟨false,a8,oT [(.str Qj t16),(.int 1 t17),(.str Ql t18),(.ref a7),(.ref a6)]⟩,⟨false,x,oT [.str Qg t21,(.int (Int.ofNat (n+1)) t22)]⟩,cS h true { R with a:=.ref x },d8 h true { F with a:=.bool true },bN P h g false (n+1) t1,cW h false (n+1) ((t2,.ref a1)::K),⟨false,a1,⟨.ref 1271,some a2,.plain,#[]⟩⟩,⟨false,a2,⟨yD,none,.dict #[eS P Q8 t3 (.str Qg t6),eS P Q9 t4 (.ref ch),eS P Q7 t5 (.str Q6 t7)] 3,#[]⟩⟩,⟨false,ch,⟨.ref 106,some cd,.plain,#[]⟩⟩,⟨false,cd,⟨yD,none,.dict #[eS P ⟨#[114,111,111,109]⟩ t8 (.int r t9),eS P FY t10 (.ref a3),eS P FT t11 (.ref a4),eS P FZ t12 (.ref a5),eS P Gt t13 (.bool false)] 5,#[]⟩⟩]).fin [32] [47] (fun b t=>[(oL 0 (Eu (.ref x) (.int 0 (nb t 0)) R)),(oL 7 (Eu (.bool true) (.bool true) F))]) (fun b t=>[(oL 2 [(.ref x),(.int 0 (nb t 0))])]) rB
noncomputable def vw (P:Params) (h g:Nat→Nat) (m:Int) (t1 t2 a1 a2 t3 t4 t5:Nat) (T2:Value) (a3 t6 a4:Nat) (R F:V7) (t7:Nat):RS:=(aH 400 (fm) false (aq 1501 [.ref (h 126),(.ref a4),(.int 1 t7)]) [⟨false,a1,oT []⟩,⟨false,a2,oT [(.str Qw t1),(.int m t2),(.ref a1)]⟩,⟨false,a3,oT [(.str Q5 t5),T2,(.ref a2)]⟩,⟨false,a4,oT [(.str Qu t3),(.int 0 t4),(.ref a3),(.int 1 t6)]⟩,cS h true R,d8 h true F]).fin [21,18,17] [16] (fun b t=>[(oL 0 (fG (.ref (nb b 1)) R)),(oL 7 (fG (.bool true) F))]) (fun b t=>[(oL 1 [(.ref (nb b 1))]),(oT [(.str Qw (nb t 0)),(.int m t2),(.ref (nb b 2))]),(oT [(.int 1 t6)])]) rB
noncomputable def i6 (P:Params) (h g:Nat→Nat) (t1 t2 a1 t3 t4 t5 t6 a2 a3:Nat) (R F:V7) (t7:Nat):RS:=(aH 400 (fm) false (aq 1501 [.ref (h 126),(.ref a3),(.int 1 t7)]) [⟨false,a1,oT [(.str Q1 t1),(.str Q1 t2)]⟩,⟨false,a2,oT [(.str Q5 t5),(.ref a1),(.int 5 t6)]⟩,⟨false,a3,oT [(.str Qh t3),(.int 0 t4),(.ref a2),(.ref a1)]⟩,cS h true R,d8 h true F]).fin [15,12] [20] (fun b t=>[(oL 0 (fG (.ref (nb b 1)) R)),(oL 7 (fG (.bool true) F))]) (fun b t=>[(oL 1 [(.ref (nb b 1))]),(oT [(.str Qh (nb t 0)),(.ref a1),(.int 5 t6)])]) rB
noncomputable def ic (P:Params) (h g:Nat→Nat) (t1 a1 t2 t3 t4 t5 a2 a3:Nat) (R F:V7) (t6:Nat):RS:=(aH 400 (fm) false (aq 1501 [.ref (h 126),(.ref a3),(.int 1 t6)]) [⟨false,a1,oT [(.str Qc t1)]⟩,⟨false,a2,oT [(.str Q5 t4),(.ref a1),(.bytes #[113] t5)]⟩,⟨false,a3,oT [(.str Qh t2),(.int 0 t3),(.ref a2),(.ref a1)]⟩,cS h true R,d8 h true F]).fin [15,12] [20] (fun b t=>[(oL 0 (fG (.ref (nb b 1)) R)),(oL 7 (fG (.bool true) F))]) (fun b t=>[(oL 1 [(.ref (nb b 1))]),(oT [(.str Qh (nb t 0)),(.ref a1),(.bytes #[113] t5)])]) rB
noncomputable def io (P:Params) (h g:Nat→Nat) (t1 a1 t2 t3 t4 a2 a3:Nat) (R F:V7) (t5:Nat):RS:=(aH 400 (fm) false (aq 1501 [.ref (h 126),(.ref a3),(.int 1 t5)]) [⟨false,a1,oT [(.str EQ t1)]⟩,⟨false,a2,oT [(.str Q5 t4),(.ref a1),(.bool true)]⟩,⟨false,a3,oT [(.str Qh t2),(.int 0 t3),(.ref a2),(.ref a1)]⟩,cS h true R,d8 h true F]).fin [15,12] [20] (fun b t=>[(oL 0 (fG (.ref (nb b 1)) R)),(oL 7 (fG (.bool true) F))]) (fun b t=>[(oL 1 [(.ref (nb b 1))]),(oT [(.str Qh (nb t 0)),(.ref a1),(.bool true)])]) rB
noncomputable def u0 (P:Params) (h g:Nat→Nat) (t1 t2 t3:Nat) (T0:Value) (a1 a2 n:Nat) (K:List (Nat × Value)) (t4:Nat) (R F:V7) (t5:Nat):RS:=(aH 400 (fm) true (aq 1501 [.ref (h 126),(.ref a2),(.int 0 t5)]) [⟨false,a1,oT [(.str Q5 t3),T0,.none]⟩,⟨false,a2,oT [(.str Qq t1),(.int 2 t2),(.ref a1)]⟩,cS h true R,d8 h true F,bN P h g false n t4,cW h false n K]).fin [26] [36,20] (fun b t=>[(oL 0 R.l),(oL 7 F.l)]) (fun b t=>[(oT [(.str Qb (nb t 0)),(.bytes #[110,105,108,32,100,101,114,101,102,101,114,101,110,99,101] (nb t 1))])]) rB
noncomputable def DR (P:Params) (h g:Nat→Nat) (t1 t2 t3:Nat) (T0:Value) (a1 t4 a2:Nat) (R F:V7) (t5:Nat):RS:=(aH 400 (fm) true (aq 1501 [.ref (h 126),(.ref a2),(.int 0 t5)]) [⟨false,a1,oT [(.str Q5 t3),T0,.none]⟩,⟨false,a2,oT [(.str Qu t1),(.int 2 t2),(.ref a1),(.int 0 t4)]⟩,cS h true R,d8 h true F]).fin [24] [34,18] (fun b t=>[(oL 0 R.l),(oL 7 F.l)]) (fun b t=>[(oT [(.str Qb (nb t 0)),(.bytes #[110,105,108,32,100,101,114,101,102,101,114,101,110,99,101] (nb t 1))])]) rB
noncomputable def rE (P:Params) (h g:Nat→Nat) (x n:Nat) (K:List (Nat × Value)) (t1 t2 a1 a2 t3 t4 t5 t6 t7 t8 t9 a3 a4 r0 r1 t10 t11 t12:Nat) (T4:Value) (a5 a6:Nat) (R F:V7) (t13:Nat):RS:=(aH 400 (fm) false (aq 1501 [.ref (h 126),(.ref a6),(.int 3 t13)]) [⟨false,a3,oT []⟩,⟨false,a4,oT [(.str Qw t8),(.int (Int.ofNat (n+1)) t9),(.ref a3)]⟩,⟨false,a5,oT [(.str Q5 t12),T4,(.ref a4)]⟩,⟨false,a6,oT [(.str Qq t10),(.int 2 t11),(.ref a5)]⟩,cS h true { R with a:=.ref r0,b:=.ref r1 },d8 h true F,bN P h g false (n+1) t1,cW h false (n+1) ((t2,.ref a1)::K),⟨false,a1,⟨.ref 1271,some a2,.plain,#[]⟩⟩,⟨false,a2,⟨yD,none,.dict #[eS P Q8 t3 (.str Qf t6),eS P Q9 t4 (.ref x),eS P Q7 t5 (.str Q6 t7)] 3,#[]⟩⟩]).fin [26] [] (fun b t=>[(oL 0 [(.ref r0),(.ref r1),(.ref x),R.4,R.5,R.6,R.7]),(oL 7 [F.1,F.2,(.bool true),F.4,F.5,F.6,F.7])]) (fun b t=>[(oL 3 [(.ref r0),(.ref r1),(.ref x)])]) rB
noncomputable def j1 (P:Params) (h g:Nat→Nat) (t1 t2:Nat) (tt:Value) (t3 a1 n:Nat) (K:List (Nat × Value)) (t4:Nat) (R F:V7) (t5:Nat):RS:=(aH 400 (fm) false (aq 1501 [.ref (h 126),(.ref a1),(.int 1 t5)]) [⟨false,a1,oT [(.str Dr t1),(.int 0 t2),tt,(.int 1 t3)]⟩,cS h true R,d8 h true F,bN P h g true n t4,cW h true n K]).fin [24,21,19,20,14,13,12,16] [37,13,38,14,39,40,34,19,21,24,22] (fun b t=>[(oL 0 (fG (.ref (nb b 1)) R)),(oL 7 (fG (.bool true) F)),(bN P h g true (n+1) (nb t 0)).o,(oK (n+1) (List.cons (Prod.mk (nb t 0) (.ref (nb b 2))) K))]) (fun b t=>[(oL 1 [(.ref (nb b 1))]),(oT [(.str Qd (nb t 1)),(.int (Int.ofNat (n+1)) (nb t 0))]),⟨(.ref 1271),(some (nb b 3)),Data.plain,#[]⟩,⟨(.type L0),none,(Data.dict #[(eS P Q8 (nb t 2) (.str Qd (nb t 3))),(eS P Q9 (nb t 4) (.ref (nb b 4))),(eS P Q7 (nb t 5) (.str Q6 (nb t 6)))] 3),#[]⟩,⟨(.ref 500),(some (nb b 5)),Data.plain,#[]⟩,⟨(.type L0),none,(Data.dict #[(eS P Qk (nb t 7) (.ref (nb b 6))),(eS P Qo (nb t 8) (.ref (nb b 7))),(eS P Qp (nb t 9) (.int 0 (nb t 10)))] 3),#[]⟩,⟨(.type L3),none,(Data.fields #[(.ref 812),(.ref (h 77))]),#[]⟩,⟨(.type L0),none,(Data.dict #[] 0),#[]⟩]) rB
noncomputable def mH (P:Params) (h g:Nat→Nat) (ti n:Nat) (K:List (Nat × Value)) (t1 t2 a1 a2 t3 t4 t5 t6 t7 a3 a4 a5 t8 t9 t10 t11 x t12 t13:Nat) (bv:Array UInt8) (t14 t15 t16 a6:Nat) (k:Int) (t17 t18:Nat) (T6:Value) (a7 t19 t20:Nat) (T7:Value) (a8 a9:Nat) (R F:V7) (t21:Nat):RS:=(aH 400 (fm) false (aq 1501 [.ref (h 126),(.ref a9),(.int 0 t21)]) [⟨false,a6,oT [(.str Qn t15),(.int 0 t16)]⟩,⟨false,a7,oT [(.str Q5 t18),T6,(.int k t17)]⟩,⟨false,a8,oT [(.str Q5 t20),T7,(.bytes bv t19)]⟩,⟨false,a9,oT [(.str Qv t14),(.ref a6),(.ref a7),(.ref a8)]⟩,⟨false,x,oT [.str Qd t12,(.int (Int.ofNat (n+1)) t13)]⟩,cS h true { R with a:=.ref x },d8 h true { F with a:=.bool true },bN P h g false (n+1) t1,cW h false (n+1) ((t2,.ref a1)::K),⟨false,a1,⟨.ref 1271,some a2,.plain,#[]⟩⟩,⟨false,a2,⟨yD,none,.dict #[eS P Q8 t3 (.str Qd t6),eS P Q9 t4 (.ref ti),eS P Q7 t5 (.str Q6 t7)] 3,#[]⟩⟩,⟨false,ti,⟨.ref 500,some a3,.plain,#[]⟩⟩,⟨true,a3,⟨yD,none,.dict #[eS P Qk t8 (.ref a4),eS P Qo t9 (.ref a5),eS P Qp t10 (.int 0 t11)] 3,#[]⟩⟩,⟨false,a4,⟨.type L3,none,.fields #[.ref 812,.ref (h 77)],#[]⟩⟩,⟨true,a5,Fm⟩]).fin [53,46,47] [68,56] (fun b t=>[(oL 0 (fG (.ref x) R)),(oL 7 (fG (.bool true) F)),⟨(.type L0),none,(Data.dict #[(eS P Qk t8 (.ref a4)),(eS P Qo t9 (.ref a5)),(eS P Qp t10 (.int 1 (nb t 0)))] 3),#[]⟩,⟨(.type L0),none,(Data.dict #[(DictEntry.mk (hT P k) (.ref (nb b 1)) (.ref (nb b 2)))] 1),#[]⟩]) (fun b t=>[(oL 0 []),(oT [(.str Q1 (nb t 1)),(.int k t17)]),(oT [(.int 0 t11),(.int k t17),(.bytes bv t19)])]) rB
noncomputable def mt (P:Params) (h g:Nat→Nat) (ti n:Nat) (K:List (Nat × Value)) (t1 t2 a1 a2 t3 t4 t5 t6 t7 a3 a4 a5 a6 a7 t8:Nat) (k:Int) (t9:Nat) (bv:Array UInt8) (t10 t11 t12 t13 t14 t15 x t16 t17 t18 a8 t19 t20 t21 t22 t23 a9 t24 t25:Nat) (T9:Value) (a10 a11:Nat) (R F:V7) (t26:Nat):RS:=(aH 400 (fm) false (aq 1501 [.ref (h 126),(.ref a11),(.int 3 t26)]) [⟨false,a6,nK t9 t8 k⟩,⟨false,a7,oT [.int 0 t10,.int k t8,.bytes bv t11]⟩,⟨false,a8,oT [(.str Qc t18)]⟩,⟨false,a9,oT [(.str Qn t22),(.int 0 t23)]⟩,⟨false,a10,oT [(.str Q5 t25),T9,(.int k t24)]⟩,⟨false,a11,oT [(.str Qs t19),(.int 1 t20),(.int 2 t21),(.ref a9),(.ref a10),(.ref a8)]⟩,⟨false,x,oT [.str Qd t16,(.int (Int.ofNat (n+1)) t17)]⟩,cS h true { R with a:=.ref x },d8 h true { F with a:=.bool true },bN P h g false (n+1) t1,cW h false (n+1) ((t2,.ref a1)::K),⟨false,a1,⟨.ref 1271,some a2,.plain,#[]⟩⟩,⟨false,a2,⟨yD,none,.dict #[eS P Q8 t3 (.str Qd t6),eS P Q9 t4 (.ref ti),eS P Q7 t5 (.str Q6 t7)] 3,#[]⟩⟩,⟨false,ti,⟨.ref 500,some a3,.plain,#[]⟩⟩,⟨false,a3,⟨yD,none,.dict #[eS P Qk t12 (.ref a4),eS P Qo t13 (.ref a5),eS P Qp t14 (.int 1 t15)] 3,#[]⟩⟩,⟨false,a4,⟨.type L3,none,.fields #[.ref 812,.ref (h 77)],#[]⟩⟩,⟨false,a5,pg P k a6 (.ref a7)⟩]).fin [47] [] (fun b t=>[(oL 0 [(.ref x),(.bytes bv t11),(.bool true),R.4,R.5,R.6,R.7]),(oL 7 [(.bool true),(.bool true),(.bool true),F.4,F.5,F.6,F.7])]) (fun b t=>[(oL 3 [(.ref x),(.bytes bv t11),(.bool true)])]) rB
noncomputable def gl (P:Params) (h g:Nat→Nat) (ti n:Nat) (K:List (Nat × Value)) (t1 t2 a1 a2 t3 t4 t5 t6 t7 a3 a4 a5 a6 a7 t8:Nat) (k:Int) (t9:Nat) (bv:Array UInt8) (t10 t11 t12 t13 t14 t15 x t16 t17 t18 a8 t19 t20 t21 t22 t23 a9:Nat) (k2:Int) (t24 t25:Nat) (T9:Value) (a10 a11:Nat) (R F:V7) (t26:Nat):RS:=(aH 400 (fm) false (aq 1501 [.ref (h 126),(.ref a11),(.int 3 t26)]) [⟨false,a6,nK t9 t8 k⟩,⟨false,a7,oT [.int 0 t10,.int k t8,.bytes bv t11]⟩,⟨false,a8,oT [(.str Qc t18)]⟩,⟨false,a9,oT [(.str Qn t22),(.int 0 t23)]⟩,⟨false,a10,oT [(.str Q5 t25),T9,(.int k2 t24)]⟩,⟨false,a11,oT [(.str Qs t19),(.int 1 t20),(.int 2 t21),(.ref a9),(.ref a10),(.ref a8)]⟩,⟨false,x,oT [.str Qd t16,(.int (Int.ofNat (n+1)) t17)]⟩,cS h true { R with a:=.ref x },d8 h true { F with a:=.bool true },bN P h g false (n+1) t1,cW h false (n+1) ((t2,.ref a1)::K),⟨false,a1,⟨.ref 1271,some a2,.plain,#[]⟩⟩,⟨false,a2,⟨yD,none,.dict #[eS P Q8 t3 (.str Qd t6),eS P Q9 t4 (.ref ti),eS P Q7 t5 (.str Q6 t7)] 3,#[]⟩⟩,⟨false,ti,⟨.ref 500,some a3,.plain,#[]⟩⟩,⟨false,a3,⟨yD,none,.dict #[eS P Qk t12 (.ref a4),eS P Qo t13 (.ref a5),eS P Qp t14 (.int 1 t15)] 3,#[]⟩⟩,⟨false,a4,⟨.type L3,none,.fields #[.ref 812,.ref (h 77)],#[]⟩⟩,⟨false,a5,pg P k a6 (.ref a7)⟩]).fin [51] [65] (fun b t=>[(oL 0 [(.ref x),(.bytes #[] (nb t 0)),(.bool false),R.4,R.5,R.6,R.7]),(oL 7 [(.bool true),(.bool true),(.bool true),F.4,F.5,F.6,F.7])]) (fun b t=>[(oL 3 [(.ref x),(.bytes #[] (nb t 0)),(.bool false)])]) rB
noncomputable def mo (P:Params) (h g:Nat→Nat) (ti n:Nat) (K:List (Nat × Value)) (t1 t2 a1 a2 t3 t4 t5 t6 t7 a3 a4 a5 a6 a7 t8:Nat) (k:Int) (t9:Nat) (bv:Array UInt8) (t10 t11 t12 t13 t14 t15 x t16 t17 t18 t19 t20 a8 t21 t22:Nat) (T8:Value) (a9 a10:Nat) (R F:V7) (t23:Nat):RS:=(aH 400 (fm) false (aq 1501 [.ref (h 126),(.ref a10),(.int 0 t23)]) [⟨false,a6,nK t9 t8 k⟩,⟨false,a7,oT [.int 0 t10,.int k t8,.bytes bv t11]⟩,⟨false,a8,oT [(.str Qn t19),(.int 0 t20)]⟩,⟨false,a9,oT [(.str Q5 t22),T8,(.int k t21)]⟩,⟨false,a10,oT [(.str Bh t18),(.ref a8),(.ref a9)]⟩,⟨false,x,oT [.str Qd t16,(.int (Int.ofNat (n+1)) t17)]⟩,cS h true { R with a:=.ref x },d8 h true { F with a:=.bool true },bN P h g false (n+1) t1,cW h false (n+1) ((t2,.ref a1)::K),⟨false,a1,⟨.ref 1271,some a2,.plain,#[]⟩⟩,⟨false,a2,⟨yD,none,.dict #[eS P Q8 t3 (.str Qd t6),eS P Q9 t4 (.ref ti),eS P Q7 t5 (.str Q6 t7)] 3,#[]⟩⟩,⟨false,ti,⟨.ref 500,some a3,.plain,#[]⟩⟩,⟨true,a3,⟨yD,none,.dict #[eS P Qk t12 (.ref a4),eS P Qo t13 (.ref a5),eS P Qp t14 (.int 1 t15)] 3,#[]⟩⟩,⟨false,a4,⟨.type L3,none,.fields #[.ref 812,.ref (h 77)],#[]⟩⟩,⟨true,a5,pg P k a6 (.ref a7)⟩]).fin [55] [] (fun b t=>[(oL 0 (fG (.ref x) R)),(oL 7 (fG (.bool true) F)),⟨(.type L0),none,(Data.dict #[(eS P Qk t12 (.ref a4)),(eS P Qo t13 (.ref a5)),(eS P Qp t14 (.int 1 t15))] 3),#[]⟩,⟨(.type L0),none,(Data.dict #[] 2),#[]⟩]) (fun b t=>[(oL 0 [])]) rB
noncomputable def mr (P:Params) (h g:Nat→Nat) (ti n:Nat) (K:List (Nat × Value)) (t1 t2 a1 a2 t3 t4 t5 t6 t7 a3 a4 a5 ee t8 t9 t10 t11 x t12 t13 t14:Nat) (ta tb:Value) (a6:Nat) (bw:Array UInt8) (cc:Bool) (t15 t16 t17 t18 t19 a7 a8 t20:Nat) (R F:V7) (t21:Nat):RS:=(aH 400 (fm) false (aq 1501 [.ref (h 126),(.ref a8),(.int 4 t21)]) [⟨false,a6,oT [(.str Qd t14),ta,tb]⟩,⟨false,a7,oT [(.str Qn t18),(.int 0 t19)]⟩,⟨false,a8,oT [(.str Qj t15),(.int 3 t16),(.str Ql t17),(.ref a7),(.ref a6)]⟩,⟨false,x,oT [.str Qd t12,(.int (Int.ofNat (n+1)) t13)]⟩,cS h true { R with a:=.ref x,b:=.bytes bw t20,c:=.bool cc },d8 h true { F with a:=.bool true },bN P h g false (n+1) t1,cW h false (n+1) ((t2,.ref a1)::K),⟨false,a1,⟨.ref 1271,some a2,.plain,#[]⟩⟩,⟨false,a2,⟨yD,none,.dict #[eS P Q8 t3 (.str Qd t6),eS P Q9 t4 (.ref ti),eS P Q7 t5 (.str Q6 t7)] 3,#[]⟩⟩,⟨false,ti,⟨.ref 500,some a3,.plain,#[]⟩⟩,⟨false,a3,⟨yD,none,.dict #[eS P Qk t8 (.ref a4),eS P Qo t9 (.ref a5),eS P Qp t10 (.int 1 t11)] 3,#[]⟩⟩,⟨false,a4,⟨.type L3,none,.fields #[.ref 812,.ref (h 77)],#[]⟩⟩,⟨false,a5,rv ee⟩]).fin [31] [46] (fun b t=>[(oL 0 [(.ref x),(.bytes bw t20),(.bool cc),(.int 0 (nb t 0)),R.5,R.6,R.7]),(oL 7 [(.bool true),F.2,F.3,(.bool true),F.5,F.6,F.7])]) (fun b t=>[(oL 4 [(.ref x),(.bytes bw t20),(.bool cc),(.int 0 (nb t 0))])]) rB
noncomputable def vX (P:Params) (h g:Nat→Nat) (t1 t2:Nat) (T0:Value) (a1:Nat) (k:Int) (t3 t4:Nat) (T1:Value) (a2 t5 t6:Nat) (T2:Value) (a3 a4:Nat) (bv:Array UInt8) (R F:V7) (t7:Nat):RS:=(aH 400 (fm) true (aq 1501 [.ref (h 126),(.ref a4),(.int 0 t7)]) [⟨false,a1,oT [(.str Q5 t2),T0,.none]⟩,⟨false,a2,oT [(.str Q5 t4),T1,(.int k t3)]⟩,⟨false,a3,oT [(.str Q5 t6),T2,(.bytes bv t5)]⟩,⟨false,a4,oT [(.str Qv t1),(.ref a1),(.ref a2),(.ref a3)]⟩,cS h true R,d8 h true F]).fin [30] [38,22] (fun b t=>[(oL 0 R.l),(oL 7 F.l)]) (fun b t=>[(oT [(.str Qb (nb t 0)),(.bytes #[97,115,115,105,103,110,109,101,110,116,32,116,111,32,101,110,116,114,121,32,105,110,32,110,105,108,32,109,97,112] (nb t 1))])]) rB
noncomputable def vQ (P:Params) (h g:Nat→Nat) (x t1 a1 t2 t3 t4 t5:Nat) (T1:Value) (a2:Nat) (k:Int) (t6 t7:Nat) (T2:Value) (a3 a4:Nat) (R F:V7) (t8:Nat):RS:=(aH 400 (fm) false (aq 1501 [.ref (h 126),(.ref a4),(.int 3 t8)]) [⟨false,a1,oT [(.str Qc t1)]⟩,⟨false,a2,oT [(.str Q5 t5),T1,.none]⟩,⟨false,a3,oT [(.str Q5 t7),T2,(.int k t6)]⟩,⟨false,a4,oT [(.str Qs t2),(.int 1 t3),(.int 2 t4),(.ref a2),(.ref a3),(.ref a1)]⟩,cS h true { R with a:=.ref x },d8 h true { F with a:=.bool true }]).fin [39] [59] (fun b t=>[(oL 0 [(.ref x),(.bytes #[] (nb t 0)),(.bool false),R.4,R.5,R.6,R.7]),(oL 7 [(.bool true),(.bool true),(.bool true),F.4,F.5,F.6,F.7])]) (fun b t=>[(oL 3 [(.ref x),(.bytes #[] (nb t 0)),(.bool false)])]) rB
theorem l0 {w:World} {h g:Nat→Nat}:(∀ {e a1 n K t1 t2 a2 a3 t3 t4 t5 t6 t7 t8 t9 t10 t11 t12 a4},(lL w.params h g e a1 n K t1 t2 a2 a3 t3 t4 t5 t6 t7 t8 t9 t10 t11 t12 a4).S.Holds (BB w h g)) ∧
 (∀ {e x0 t1 x1 t2 a1 n K t3 t4 a2 a3 t5 t6 t7 t8 t9 t10 t11 t12 t13 t14 a4},ag K=n→n≤1000→(lG w.params h g e x0 t1 x1 t2 a1 n K t3 t4 a2 a3 t5 t6 t7 t8 t9 t10 t11 t12 t13 t14 a4).S.Holds (BB w h g)) ∧
 (∀ {e x0 t1 x1 t2 x2 t3 a1 n K t4 t5 a2 a3 t6 t7 t8 t9 t10 t11 t12 t13 t14 t15 a4},ag K=n→n≤1000→(fE w.params h g e x0 t1 x1 t2 x2 t3 a1 n K t4 t5 a2 a3 t6 t7 t8 t9 t10 t11 t12 t13 t14 t15 a4).S.Holds (BB w h g)) ∧
 (∀ {e x0 t1 x1 t2 x2 t3 x3 t4 a1 n K t5 t6 a2 a3 t7 t8 t9 t10 t11 t12 t13 t14 t15 t16 a4},ag K=n→n≤1000→(oU w.params h g e x0 t1 x1 t2 x2 t3 x3 t4 a1 n K t5 t6 a2 a3 t7 t8 t9 t10 t11 t12 t13 t14 t15 t16 a4).S.Holds (BB w h g)) ∧
 (∀ {i t1 t2 T0 a1 t3 t4 a2 t5 t6 a3 t7 t8 a4 R F t9},(qW w.params h g i t1 t2 T0 a1 t3 t4 a2 t5 t6 a3 t7 t8 a4 R F t9).S.Holds (BB w h g)) ∧
 (∀ {i t1 t2 T0 a1 t3 t4 a2 t5 t6 a3 t7 t8 a4 R F t9},(pp w.params h g i t1 t2 T0 a1 t3 t4 a2 t5 t6 a3 t7 t8 a4 R F t9).S.Holds (BB w h g)) ∧
 (∀ {i t1 t2 T0 a1 t3 t4 a2 t5 t6 a3 t7 t8 a4 R F t9},(qL w.params h g i t1 t2 T0 a1 t3 t4 a2 t5 t6 a3 t7 t8 a4 R F t9).S.Holds (BB w h g)) ∧
 (∀ {i t1 t2 T0 a1 t3 t4 a2 t5 t6 a3 t7 t8 a4 R F t9},(qD w.params h g i t1 t2 T0 a1 t3 t4 a2 t5 t6 a3 t7 t8 a4 R F t9).S.Holds (BB w h g)) ∧
 (∀ {t1 t2 a1 t3 t4 t5 t6 c t7 a2 t8 d t9 a3 a4 R F t10},(vD w.params h g t1 t2 a1 t3 t4 t5 t6 c t7 a2 t8 d t9 a3 a4 R F t10).S.Holds (BB w h g)) ∧
 (∀ {t1 t2 a1 t3 t4 t5 t6 c t7 a2 t8 d t9 a3 a4 R F t10},(vj w.params h g t1 t2 a1 t3 t4 t5 t6 c t7 a2 t8 d t9 a3 a4 R F t10).S.Holds (BB w h g)):=by
 refine ⟨dZ 138 (ce [Be,qy,1083430]) [] ao ?_,
 fun {e x0 t1 x1 t2 a1 n K t3 t4 a2 a3 t5 t6 t7 t8 t9 t10 t11 t12 t13 t14 a4} hK hn=>dZ 892 (ce [Ag,n4,qy,1116727183458]) [u (fun A J O=>dx w.params h g e x0 t1 x1 t2 (A 0) n K t3 t4 (A 4) (A 5) t5 t6 t7 t8 t9 t11 (J 17) (A 30) (A 31)) [0,30,31,2,3,4,5] [],u (fun A J O=>dP w.params h g e x0 t1 x1 t2 (A 0) n K t3 t4 (A 4) (A 5) t5 t6 t7 t8 t9 t11 (J 34) (A 45) (A 46)) [0,45,46,2,3,4,5] []] (aa (dS.1 hK hn) (aa (dS.2.1 hK hn) ao)) ?_,
 fun {e x0 t1 x1 t2 x2 t3 a1 n K t4 t5 a2 a3 t6 t7 t8 t9 t10 t11 t12 t13 t14 t15 a4} hK hn=>dZ 1267 (ce [CQ,n4,qy,1116727183488]) [u (fun A J O=>cj w.params h g e x0 t1 x1 t2 x2 t3 (A 0) n K t4 t5 (A 4) (A 5) t6 t7 t8 t9 t10 t12 (J 17) (A 30) (A 31)) [0,30,31,2,3,4,5] [],u (fun A J O=>c8 w.params h g e x0 t1 x1 t2 x2 t3 (A 0) n K t4 t5 (A 4) (A 5) t6 t7 t8 t9 t10 t12 (J 34) (A 45) (A 46)) [0,45,46,2,3,4,5] [],u (fun A J O=>cg w.params h g e x0 t1 x1 t2 x2 t3 (A 0) n K t4 t5 (A 4) (A 5) t6 t7 t8 t9 t10 t12 (J 51) (A 60) (A 61)) [0,60,61,2,3,4,5] []] (aa (dS.2.2.1 hK hn) (aa (dS.2.2.2.1 hK hn) (aa (dS.2.2.2.2.1 hK hn) ao))) ?_,
 fun {e x0 t1 x1 t2 x2 t3 x3 t4 a1 n K t5 t6 a2 a3 t7 t8 t9 t10 t11 t12 t13 t14 t15 t16 a4} hK hn=>dZ 1642 (ce [CQ,n4,sP,0x43e1f8000f87e,ae,1150,ai,0x480200000fc80,jR,1239234513026,wK,gD,gD,gD,0x11f83e1f8000f87e0003e1f8000f87e0008a,ax,1150,bh,1205991550,n9,0x445230001148c,aw,1164,iD,1164,Cn,p8,0x126098238980008e0008e2608e2308c23045230001148c00096,n4,qy,1116727183518]) [u (fun A J O=>g8 w.params h g e x0 t1 x1 t2 x2 t3 x3 t4 (A 0) n K t5 t6 (A 4) (A 5) t7 t8 t9 t10 t11 t13 (J 17) (A 30) (A 31)) [0,30,31,2,3,4,5] [],u (fun A J O=>ga w.params h g e x0 t1 x1 t2 x2 t3 x3 t4 (A 0) n K t5 t6 (A 4) (A 5) t7 t8 t9 t10 t11 t13 (J 34) (A 45) (A 46)) [0,45,46,2,3,4,5] [],u (fun A J O=>g4 w.params h g e x0 t1 x1 t2 x2 t3 x3 t4 (A 0) n K t5 t6 (A 4) (A 5) t7 t8 t9 t10 t11 t13 (J 51) (A 60) (A 61)) [0,60,61,2,3,4,5] [],u (fun A J O=>gg w.params h g e x0 t1 x1 t2 x2 t3 x3 t4 (A 0) n K t5 t6 (A 4) (A 5) t7 t8 t9 t10 t11 t13 (J 68) (A 75) (A 76)) [0,75,76,2,3,4,5] []] (aa (dS.2.2.2.2.2.1 hK hn) (aa (dS.2.2.2.2.2.2.1 hK hn) (aa (dS.2.2.2.2.2.2.2.1 hK hn) (aa (dS.2.2.2.2.2.2.2.2 hK hn) ao)))) ?_,
 dZ 736 (ce [ss,1064,aw,1045,iW,ud,aw,1045,sv]) [] ao ?_,
 dZ 710 (ce [ss,ud,aw,1046,sv]) [] ao ?_,
 dZ 736 (ce [ss,iC,1044,iW,ud,aw,1044,sv]) [] ao ?_,
 dZ 710 (ce [ss,ud,aw,1047,sv]) [] ao ?_,
 dZ 849 (ce [A6,1048602,AQ,1056,DM,gO,1089576,Dw]) [] ao ?_,
 dZ 858 (ce [A6,1048603,AQ,1057,DM,gO,gO,1089576,Dw]) [] ao ?_⟩ <;> intro cb ν τ υ π ς ρ own past κ bl p <;> kernel_rfl
theorem fB {w:World} {h g:Nat→Nat}:(∀ {t1 t2 a1 t3 t4 t5 t6 c t7 a2 t8 d t9 a3 a4 R F t10},(vx w.params h g t1 t2 a1 t3 t4 t5 t6 c t7 a2 t8 d t9 a3 a4 R F t10).S.Holds (BB w h g)) ∧
 (∀ {n K t1 t2 a1 a2 t3 t4 t5 t6 t7 ch cd a3 a4 a5 t8 t9 t10 t11 t12 t13 r t14 t15 tt a6 x t16 t17 t18 t19 t20 a7 a8 t21 t22 R F t23},ag K=n→n≤1000→(iU w.params h g n K t1 t2 a1 a2 t3 t4 t5 t6 t7 ch cd a3 a4 a5 t8 t9 t10 t11 t12 t13 r t14 t15 tt a6 x t16 t17 t18 t19 t20 a7 a8 t21 t22 R F t23).S.Holds (BB w h g)) ∧
 (∀ {n K t1 t2 a1 a2 t3 t4 t5 t6 t7 ch cd a3 a4 a5 t8 t9 t10 t11 t12 t13 r t14 t15 tt a6 x t16 t17 t18 t19 t20 a7 a8 t21 t22 R F t23},ag K=n→n≤1000→(iM w.params h g n K t1 t2 a1 a2 t3 t4 t5 t6 t7 ch cd a3 a4 a5 t8 t9 t10 t11 t12 t13 r t14 t15 tt a6 x t16 t17 t18 t19 t20 a7 a8 t21 t22 R F t23).S.Holds (BB w h g)) ∧
 (∀ {m t1 t2 a1 a2 t3 t4 t5 T2 a3 t6 a4 R F t7},(vw w.params h g m t1 t2 a1 a2 t3 t4 t5 T2 a3 t6 a4 R F t7).S.Holds (BB w h g)) ∧
 (∀ {t1 t2 a1 t3 t4 t5 t6 a2 a3 R F t7},(i6 w.params h g t1 t2 a1 t3 t4 t5 t6 a2 a3 R F t7).S.Holds (BB w h g)) ∧
 (∀ {t1 a1 t2 t3 t4 t5 a2 a3 R F t6},(ic w.params h g t1 a1 t2 t3 t4 t5 a2 a3 R F t6).S.Holds (BB w h g)) ∧
 (∀ {t1 a1 t2 t3 t4 a2 a3 R F t5},(io w.params h g t1 a1 t2 t3 t4 a2 a3 R F t5).S.Holds (BB w h g)) ∧
 (∀ {t1 t2 t3 T0 a1 a2 n K t4 R F t5},(u0 w.params h g t1 t2 t3 T0 a1 a2 n K t4 R F t5).S.Holds (BB w h g)) ∧
 (∀ {t1 t2 t3 T0 a1 t4 a2 R F t5},(DR w.params h g t1 t2 t3 T0 a1 t4 a2 R F t5).S.Holds (BB w h g)) ∧
 (∀ {x n K t1 t2 a1 a2 t3 t4 t5 t6 t7 t8 t9 a3 a4 r0 r1 t10 t11 t12 T4 a5 a6 R F t13},ag K=n→n≤1000→(rE w.params h g x n K t1 t2 a1 a2 t3 t4 t5 t6 t7 t8 t9 a3 a4 r0 r1 t10 t11 t12 T4 a5 a6 R F t13).S.Holds (BB w h g)) ∧
 (∀ {t1 t2 tt t3 a1 n K t4 R F t5},ag K=n→n≤1000→(j1 w.params h g t1 t2 tt t3 a1 n K t4 R F t5).S.Holds (BB w h g)) ∧
 (∀ {ti n K t1 t2 a1 a2 t3 t4 t5 t6 t7 a3 a4 a5 t8 t9 t10 t11 x t12 t13 bv t14 t15 t16 a6 k t17 t18 T6 a7 t19 t20 T7 a8 a9 R F t21},ag K=n→n≤1000→(mH w.params h g ti n K t1 t2 a1 a2 t3 t4 t5 t6 t7 a3 a4 a5 t8 t9 t10 t11 x t12 t13 bv t14 t15 t16 a6 k t17 t18 T6 a7 t19 t20 T7 a8 a9 R F t21).S.Holds (BB w h g)):=by
 refine ⟨dZ 676 (ce [A6,1048606,AF,0x42409024000120042309826,ai,tz,gO,gO,gO,gO,gO,1089576,bh,1065,qr,1066,iL,1066,ak,0x105c300c00401c1705815014410b02a0a82a0002a]) [] ao ?_,
 fun {n K t1 t2 a1 a2 t3 t4 t5 t6 t7 ch cd a3 a4 a5 t8 t9 t10 t11 t12 t13 r t14 t15 tt a6 x t16 t17 t18 t19 t20 a7 a8 t21 t22 R F t23} hK hn=>dZ 796 (ce [Ea,s0,0x40801c020ac00,gH,av,AG,0x108042108070402007c1e01443]) [u (fun A J O=>aT w.params h g n K (Prod.mk t2 (.ref (A 11))) t22) [10] [],u (fun A J O=>aS w.params h g n K (Prod.mk t2 (.ref (A 11))) t22) [10] []] (aa (aV hK) (aa (aW hK) ao)) ?_,
 fun {n K t1 t2 a1 a2 t3 t4 t5 t6 t7 ch cd a3 a4 a5 t8 t9 t10 t11 t12 t13 r t14 t15 tt a6 x t16 t17 t18 t19 t20 a7 a8 t21 t22 R F t23} hK hn=>dZ 846 (ce [Ea,xj,ai,1078332,aw,1084,s0,kh,kM,0x40801c020ac00,gH,av,wj,1086,ak,0x10844411007040210801f014431003e0f83e0003e]) [u (fun A J O=>aT w.params h g n K (Prod.mk t2 (.ref (A 11))) t22) [10] [],u (fun A J O=>aS w.params h g n K (Prod.mk t2 (.ref (A 11))) t22) [10] []] (aa (aV hK) (aa (aW hK) ao)) ?_,
 dZ 414 (ce [wx,1035,ae,1104175128,ae,1053,ax,sF,1060890,ae,ji,bY,0x4010045300002,pN,fI,0x40c068000301a00022,ji,1101031450,iE,1075875842,gR,0x10a0000902400824,qr,0x10a0280a0000a0000a028,ak,0x10582e0b80401c1605414014400a8280a02800028]) [] ao ?_,
 dZ 417 (ce [zP,1102848,yg]) [] ao ?_,
 dZ 417 (ce [zP,1101824,yg]) [] ao ?_,
 dZ 417 (ce [zP,1100800,yg]) [] ao ?_,
 dZ 671 (ce [ui,jR,gn,1036,ae,1099980824,ae,1049,ax,u8,1050,aX,1050,jR,1050,mZ,1075200,aX,1050,jR,1097728,nJ,1129576412188,gM,1062942,aw,1054,dW,1138166370304,cQ,nO,ey,1087488,kr,j6,j6,1068072,bi,0x109000090000a028,ae,0x4280a01109024,yn,0x4280a02c0542c0001100024,yn,1060,ae,0x4260982c0542c,yn,1060,ae,0x1064340900101818047fe0180b05c11ffc0602c0c05811ffc0602c0c03400047ff0900009024000240902c0542c,bi,1060,ae,1100009508,gy,1085454,gP,1060,ae,1060,bi,0x4200002000020080200b00009024,lK,1054734]) [] ao ?_,
 dZ 604 (ce [ax,0x1028000100a00004028000100a,hJ,dI,1062912,dI,1080047617,jv,dI,1080047617,jv,dI,0x10280503004028000480603801,b8,1058828,ai,0x10500002414000090500002414,br,1044,jR,gn,1035,ae,1104171028,ae,1053,ax,kl,kl,1058838,ae,1046,aX,1046,jR,1097728,nJ,1125281442840,gM,1060890,aw,1050,dW,1133871398912,cQ,j7,1064994,fN,1058,kr,lE,1066020,bi,0x1080000800009024,gH,1138204097568,wi,0x1090240a0130a00003c00,wi,ae,0x4220882804c28,wi,ae,0x4200802804c28,lW,0x105c30080010101603ffe010090540fffc040240a0500fffc040240a02c0003fff08000,bi,1056,gH,0x420028040280005c30,gP,1056,gH,bi,0x41c0001c0001c0701c0a00008020,ae,1103817084938]) [] ao ?_,
 fun {x n K t1 t2 a1 a2 t3 t4 t5 t6 t7 t8 t9 a3 a4 r0 r1 t10 t11 t12 T4 a5 a6 R F t13} hK hn=>dZ 572 (ce [ax,kl,kl,kl,1046,fy,1073768474,AW,AW,0x10580b0600a058000780c068010681a0001a,b8,1071128,ai,xg,1081344,br,1056,iE,gn,1036,gH,1074208,ae,1049,ax,j7,j7,j7,1058,aX,1058,iE,1058,gN,1109393422,aX,1058,iE,bY,0x4010045300002,ai,nO,1087488,ft,1087502,c3,1140332730368,ft,1113587726,ai,j6,1138204119080,ak,1117782052,iL,1060,kH,1060,kH,0x4000b8140a824,j6,1068072,ae,1064,iD,1064,ai,1072176,j3,1097728,cX,0x1014040082d0002603800,ae,1046,av,Al,0x106c380e00402c1b0681901445]) [u (fun A J O=>ly w.params h g x n K t1 t2 (A 8) (A 9) t3 t4 t5 t6 t7 t9 (A 0) (A 17)) [0,17,6,7,8,9] []] (aa (dv.2.2.2 hK hn) ao) ?_,
 fun {t1 t2 tt t3 a1 n K t4 R F t5} hK hn=>dZ 666 (ce [DH,gz,gn,1038,ae,1114658838,ae,1063,ax,w0,aX,1048,gz,1048,b8,1098907672,Bf,1105199134,cQ,1063968,gT,lW,nL,1056,nL,1056,nL,1048,gz,ai,lE,uL,b8,1060,ai,nO,1087488,br,0x10ec2603c0f03c0f,ae,1111508004,br,kB,1111527460,gR,1111508004,ax,1101701054500,cy,ae,1036,av,0x10b82e0b8000b8000b82e,ak,0x1064340d0010181906017014400c02e0b82e0002e]) [u (fun A J O=>kw w.params h g n K t4 (A 14) Qd (J 14) (J 34)) [3,4] [3,4]] (aa (dv.2.2.1 hK hn) ao) ?_,
 fun {ti n K t1 t2 a1 a2 t3 t4 t5 t6 t7 a3 a4 a5 t8 t9 t10 t11 x t12 t13 bv t14 t15 t16 a6 k t17 t18 T6 a7 t19 t20 T7 a8 a9 R F t21} hK hn=>dZ 1459 (ce [Dg,iE,gn,1041,ae,1118873642,ae,1067,ax,1068,oQ,kv,aX,1068,iE,0x42c01805000030c400,aX,1068,iE,0x42c004010c000,aX,1068,iE,bY,1026,yy,oa,oa,1119879220,oQ,1119924245,b8,1068,pt,fq,1103872,gN,1103888,nx,ai,r5,ft,1105936,sm,1108026,cX,0x10e8020481204000,cX,0x41400002048120483a04000,av,1044,aw,1123133968404,ae,1119900716,sY,1068,ai,qJ,1084,lm,0x43c0781e0781e,sY,1084,ai,0x41e0f8000783e,ae,1112126,lm,ai,1133940603968,ae,1088,ai,1172526105668,ae,1092,ey,1092,c4,1140882496,aw,1140850722,ax,0x10f01d0f00008c0e0084f100400880108c4611840,Ec,0x10b000140251304a,kv,1119924245,sY,1093676,ai,zT,sY,1106,ai,0x429150000a454,ae,1134676,lm,ai,1145774843990,ae,1110,ai,1196148437082,ae,1114,ey,1114,c4,1163962454,oA,1110,ax,0x1158560b40108c5c17056,ff,1106,lm,0x42e0380213c520781e0781e,ff,1132626,lm,1159809106,lm,0x11482e038021401e07852,lm,ae,1073234,av,1048,ae,1098907672,aw,1048,ae,1146783543322,gN,1093648,nx,ai,1099878,hA,1153024,cX,1064960,gH,av,0x11a0681a0001a0001a068,ak,0x11b805040360d4340143d1a8681a06800068]) [u (fun A J O=>aT w.params h g n K (Prod.mk t2 (.ref (A 9))) t13) [8] [],u (fun A J O=>aS w.params h g n K (Prod.mk t2 (.ref (A 9))) t13) [8] []] (aa (aV hK) (aa (aW hK) ao)) ?_⟩ <;> intro cb ν τ υ π ς ρ own past κ bl p <;> kernel_rfl
theorem jG {w:World} {h g:Nat→Nat}:(∀ {ti n K t1 t2 a1 a2 t3 t4 t5 t6 t7 a3 a4 a5 a6 a7 t8 k t9 bv t10 t11 t12 t13 t14 t15 x t16 t17 t18 a8 t19 t20 t21 t22 t23 a9 t24 t25 T9 a10 a11 R F t26},ag K=n→n≤1000→(mt w.params h g ti n K t1 t2 a1 a2 t3 t4 t5 t6 t7 a3 a4 a5 a6 a7 t8 k t9 bv t10 t11 t12 t13 t14 t15 x t16 t17 t18 a8 t19 t20 t21 t22 t23 a9 t24 t25 T9 a10 a11 R F t26).S.Holds (BB w h g)) ∧
 (∀ {ti n K t1 t2 a1 a2 t3 t4 t5 t6 t7 a3 a4 a5 a6 a7 t8 k t9 bv t10 t11 t12 t13 t14 t15 x t16 t17 t18 a8 t19 t20 t21 t22 t23 a9 k2 t24 t25 T9 a10 a11 R F t26},ag K=n→n≤1000→k≠k2→(gl w.params h g ti n K t1 t2 a1 a2 t3 t4 t5 t6 t7 a3 a4 a5 a6 a7 t8 k t9 bv t10 t11 t12 t13 t14 t15 x t16 t17 t18 a8 t19 t20 t21 t22 t23 a9 k2 t24 t25 T9 a10 a11 R F t26).S.Holds (BB w h g)) ∧
 (∀ {ti n K t1 t2 a1 a2 t3 t4 t5 t6 t7 a3 a4 a5 a6 a7 t8 k t9 bv t10 t11 t12 t13 t14 t15 x t16 t17 t18 t19 t20 a8 t21 t22 T8 a9 a10 R F t23},ag K=n→n≤1000→(mo w.params h g ti n K t1 t2 a1 a2 t3 t4 t5 t6 t7 a3 a4 a5 a6 a7 t8 k t9 bv t10 t11 t12 t13 t14 t15 x t16 t17 t18 t19 t20 a8 t21 t22 T8 a9 a10 R F t23).S.Holds (BB w h g)) ∧
 (∀ {ti n K t1 t2 a1 a2 t3 t4 t5 t6 t7 a3 a4 a5 ee t8 t9 t10 t11 x t12 t13 t14 ta tb a6 bw cc t15 t16 t17 t18 t19 a7 a8 t20 R F t21},ag K=n→n≤1000→(mr w.params h g ti n K t1 t2 a1 a2 t3 t4 t5 t6 t7 a3 a4 a5 ee t8 t9 t10 t11 x t12 t13 t14 ta tb a6 bw cc t15 t16 t17 t18 t19 a7 a8 t20 R F t21).S.Holds (BB w h g)) ∧
 (∀ {t1 t2 T0 a1 k t3 t4 T1 a2 t5 t6 T2 a3 a4 bv R F t7},(vX w.params h g t1 t2 T0 a1 k t3 t4 T1 a2 t5 t6 T2 a3 a4 bv R F t7).S.Holds (BB w h g)) ∧
 (∀ {x t1 a1 t2 t3 t4 t5 T1 a2 k t6 t7 T2 a3 a4 R F t8},(vQ w.params h g x t1 a1 t2 t3 t4 t5 T1 a2 k t6 t7 T2 a3 a4 R F t8).S.Holds (BB w h g)):=by
 refine ⟨fun {ti n K t1 t2 a1 a2 t3 t4 t5 t6 t7 a3 a4 a5 a6 a7 t8 k t9 bv t10 t11 t12 t13 t14 t15 x t16 t17 t18 a8 t19 t20 t21 t22 t23 a9 t24 t25 T9 a10 a11 R F t26} hK hn=>dZ 1114 (ce [DF,0x11004007c40000250001000c51,jR,BZ,1091584,Eg,0x11705c17000170001705c,ak,0x10c06218807048300bc2e014461785c1705c0005c]) [u (fun A J O=>aT w.params h g n K (Prod.mk t2 (.ref (A 11))) t17) [10] [],u (fun A J O=>aS w.params h g n K (Prod.mk t2 (.ref (A 11))) t17) [10] []] (aa (aV hK) (aa (aW hK) ao)) ?_,
 fun {ti n K t1 t2 a1 a2 t3 t4 t5 t6 t7 a3 a4 a5 a6 a7 t8 k t9 bv t10 t11 t12 t13 t14 t15 x t16 t17 t18 a8 t19 t20 t21 t22 t23 a9 k2 t24 t25 T9 a10 a11 R F t26} hK hn hne=>dZ 1304 (ce [DF,0x44007c4000002,BZ,b8,1072,eT,ai,0x42d170000b45c,ae,1116,br,1116,fh,1096800,ew,ae,1144928,ai,eP,1204738375778,m2,1128267874,cy,ew,1118,cV,fi,cV,fi,cV,bh,1066,Eg,0x119064190001900019064,ak,0x10d06a1a807048340cc3201446198641906400064]) [u (fun A J O=>aT w.params h g n K (Prod.mk t2 (.ref (A 11))) t17) [10] [],u (fun A J O=>aS w.params h g n K (Prod.mk t2 (.ref (A 11))) t17) [10] [],u (fun A J O=>uP w.params h g (A 16) (A 0) t9 t8 (A 37) (J 37) t24 k k2 (.ref (A 1))) [16,0,37] []] (aa (aV hK) (aa (aW hK) (aa (Fk hne) ao))) ?_,
 fun {ti n K t1 t2 a1 a2 t3 t4 t5 t6 t7 a3 a4 a5 a6 a7 t8 k t9 bv t10 t11 t12 t13 t14 t15 x t16 t17 t18 t19 t20 a8 t21 t22 T8 a9 a10 R F t23} hK hn=>dZ 1480 (ce [ax,j7,j7,j7,1058,hJ,1087488,x8,x8,x8,0x42204424040220002a,b8,1083428,ai,1068,oQ,kv,br,1068,nx,gn,1039,ae,1120972844,ae,1069,ax,jJ,1148903774254,aX,1070,nx,0x42e01c06008030c400,aX,1070,nx,bY,1151101616131,ak,0x42e0b8160b8000582e00036060320c0320c8000c8000c8180c8300c8320003200032060320c0320c8000c8000c83200030,b8,1070,ai,r5,gN,1105938,eT,sm,1082,ft,1107986,ai,qJ,1110076,pD,1163938254868,pD,0x100002050140503c,Em,ae,1121998894,si,1070,ai,sG,1086,fk,0x43e0802008020,si,1086,ai,0x41f1000007c40,ae,1114176,fk,ai,1135016443970,ae,1090,ai,iG,jU,1094,ey,1094,c4,1142980674,oA,1090,ax,0x10f83e0783e000240000f00c511084208c0108c4812042,jR,D6,0x42e0b82e0582e000160b800148261384c,zm,1070,ai,yC,1134592,pD,1070,zm,1070,ai,yI,pD,1070,si,1070,ai,0x4580002b160000ac58,fk,0x4580802008020,si,1112,ai,1093722,lM,ae,1140826,fk,ai,1149002363996,ae,1116,ai,iu,1120,ae,1120,ey,1120,c4,lo,oA,1116,ax,0x42e000310000f00c521705c0c00108c621885c,zm,xP,1130,pD,ae,1058,av,CJ,0x11c806044380dc360143d]) [u (fun A J O=>aT w.params h g n K (Prod.mk t2 (.ref (A 10))) t17) [9] [],u (fun A J O=>aS w.params h g n K (Prod.mk t2 (.ref (A 10))) t17) [9] []] (aa (aV hK) (aa (aW hK) ao)) ?_,
 fun {ti n K t1 t2 a1 a2 t3 t4 t5 t6 t7 a3 a4 a5 ee t8 t9 t10 t11 x t12 t13 t14 ta tb a6 bw cc t15 t16 t17 t18 t19 a7 a8 t20 R F t21} hK hn=>dZ 833 (ce [ax,0x1078000381e0000e078000381e,fy,0x10402200422088000880008822,nr,1090553857,nr,0x10780f0800e078000981008801,b8,1079328,ai,tz,1064,br,1064,cV,gn,1042,ae,1089576,w4,1069098,dQ,dQ,1091584,aX,1066,cV,0x42a01404004030c400,bq,1066,cV,1107968,ak,An,dQ,dQ,1066,aX,1066,cV,1066,b8,1066,cV,1091626,ai,1074228,yf,0x434000190d000,iZ,1076,iZ,1101876,iZ,1076,iZ,1076,gN,1101838,iE,pt,fq,1103872,ft,1103886,ai,0x10e0380001b0e00006c38,cX,0x10e0020401003800,cX,0x41200002040100403803800,av,1042,aw,1120986482706,ae,lQ,iZ,1071156,aw,1046,aw,1046,av,1073174,ai,1077306,aw,1082,Em,ae,0x405010020bc00034010f01c,ae,1054,av,AG,0x1080421080403c2007c1e01448]) [u (fun A J O=>aT w.params h g n K (Prod.mk t2 (.ref (A 8))) t13) [7] [],u (fun A J O=>aS w.params h g n K (Prod.mk t2 (.ref (A 8))) t13) [7] []] (aa (aV hK) (aa (aW hK) ao)) ?_,
 dZ 747 (ce [wx,1041,ae,1118855192,ae,1067,ax,zH,ak,ji,1097728,wA,E1,1101017114,ae,jT,1067046,aw,1062,dW,nE,cQ,0x4160b8000582e,fN,1070,kr,1072176,oc,r4,1072,nE,ae,0x10b0300c0150b02c,ze,0x10b0300c03406434000150002c,ze,1068,ae,lQ,1119926318,ze,1068,ae,lQ,1146756313132,la,0x10743c0b0010181c057fe0180b06c15ffc0602c0c06815ffc0602c0c04400057ff,bi,1068,ae,1104212012,gy,1093646,iW,aw,1068,ae,1068,bi,1155346247724,oh,1064,lK,1054734]) [] ao ?_,
 dZ 1176 (ce [wx,1040,ae,1116758040,ae,1065,ax,zH,wA,pN,fI,0x1068000680c068000301a00022,Bf,1115684904,cQ,1069098,dQ,1117825024,wV,1066,wV,1066,wV,1127441524736,iC,iC,1064,av,1101043752,ai,jJ,1089582,av,iC,0x42e0b02c0b02c098000a028,iC,iC,1064,av,1122015272,ai,1072176,j3,ae,1115734064,av,iC,1140313858088,ai,1126409723954,ae,1074,pt,1103872,ae,1078,ey,1078,c4,1126195250,oA,1074,ax,0x43c0f03c0b8160b800070150084f0c83206c0108c380e032,ak,1048636,wj,1105262652,j4,0x41e0f83c0f83e,j4,0x10681a0301a0000c068001081e0f83c0f83e,aX,1050,iE,1075226,b8,1050,iE,ai,1082436,jg,ae,1092,br,1092,fh,lN,1083462,ae,1120328,ai,1085514,lg,1124352,m2,1128267850,ax,1147177030,iZ,1094,iZ,1094,gz,bh,1104884533290,ji,1121976346,qr,Ay,0x42814852010070a027098051184e]) [] ao ?_⟩ <;> intro cb ν τ υ π ς ρ own past κ bl p <;> kernel_rfl
end
section
open PySem.SeqAt
noncomputable def GT (P:Params) (h g:Nat→Nat):List LibE:=[
 eL [4,5] fun c l m=>qW P h g (vi (it l 0 2)) (vt (it l 0 2)) (vt (it l 0 0)) (it l 0 1) (ad l 0) (vt (it l 1 0)) (vt (it l 1 1)) (ad l 1) (vt (it l 2 0)) (vt (it l 2 1)) (ad l 2) (vt (it l 3 0)) (vt (it l 3 1)) (ad l 3) (v7 (ob l 4)) (v7 (ob l 5)) (vt (ar c 2)),
 eL [4,5] fun c l m=>pp P h g (vi (it l 0 2)) (vt (it l 0 2)) (vt (it l 0 0)) (it l 0 1) (ad l 0) (vt (it l 1 0)) (vt (it l 1 1)) (ad l 1) (vt (it l 2 0)) (vt (it l 2 1)) (ad l 2) (vt (it l 3 0)) (vt (it l 3 1)) (ad l 3) (v7 (ob l 4)) (v7 (ob l 5)) (vt (ar c 2)),
 eL [4,5] fun c l m=>qL P h g (vi (it l 0 2)) (vt (it l 0 2)) (vt (it l 0 0)) (it l 0 1) (ad l 0) (vt (it l 1 0)) (vt (it l 1 1)) (ad l 1) (vt (it l 2 0)) (vt (it l 2 1)) (ad l 2) (vt (it l 3 0)) (vt (it l 3 1)) (ad l 3) (v7 (ob l 4)) (v7 (ob l 5)) (vt (ar c 2)),
 eL [4,5] fun c l m=>qD P h g (vi (it l 0 2)) (vt (it l 0 2)) (vt (it l 0 0)) (it l 0 1) (ad l 0) (vt (it l 1 0)) (vt (it l 1 1)) (ad l 1) (vt (it l 2 0)) (vt (it l 2 1)) (ad l 2) (vt (it l 3 0)) (vt (it l 3 1)) (ad l 3) (v7 (ob l 4)) (v7 (ob l 5)) (vt (ar c 2)),
 eL [4,5] fun c l m=>vD P h g (vt (it l 0 0)) (vt (it l 0 1)) (ad l 0) (vt (it l 3 0)) (vt (it l 3 1)) (vt (it l 3 2)) (vt (it l 1 0)) (vi (it l 1 2)) (vt (it l 1 2)) (ad l 1) (vt (it l 2 0)) (vi (it l 2 2)) (vt (it l 2 2)) (ad l 2) (ad l 3) (v7 (ob l 4)) (v7 (ob l 5)) (vt (ar c 2)),
 eL [4,5] fun c l m=>vj P h g (vt (it l 0 0)) (vt (it l 0 1)) (ad l 0) (vt (it l 3 0)) (vt (it l 3 1)) (vt (it l 3 2)) (vt (it l 1 0)) (vi (it l 1 2)) (vt (it l 1 2)) (ad l 1) (vt (it l 2 0)) (vi (it l 2 2)) (vt (it l 2 2)) (ad l 2) (ad l 3) (v7 (ob l 4)) (v7 (ob l 5)) (vt (ar c 2)),
 eL [4,5] fun c l m=>vx P h g (vt (it l 0 0)) (vt (it l 0 1)) (ad l 0) (vt (it l 3 0)) (vt (it l 3 1)) (vt (it l 3 2)) (vt (it l 1 0)) (vi (it l 1 2)) (vt (it l 1 2)) (ad l 1) (vt (it l 2 0)) (vi (it l 2 2)) (vt (it l 2 2)) (ad l 2) (ad l 3) (v7 (ob l 4)) (v7 (ob l 5)) (vt (ar c 2)),
 eL [4,5] fun c l m=>vw P h g (vi (it l 1 1)) (vt (it l 1 0)) (vt (it l 1 1)) (ad l 0) (ad l 1) (vt (it l 3 0)) (vt (it l 3 1)) (vt (it l 2 0)) (it l 2 1) (ad l 2) (vt (it l 3 3)) (ad l 3) (v7 (ob l 4)) (v7 (ob l 5)) (vt (ar c 2)),
 eL [3,4] fun c l m=>i6 P h g (vt (it l 0 0)) (vt (it l 0 1)) (ad l 0) (vt (it l 2 0)) (vt (it l 2 1)) (vt (it l 1 0)) (vt (it l 1 2)) (ad l 1) (ad l 2) (v7 (ob l 3)) (v7 (ob l 4)) (vt (ar c 2)),
 eL [3,4] fun c l m=>ic P h g (vt (it l 0 0)) (ad l 0) (vt (it l 2 0)) (vt (it l 2 1)) (vt (it l 1 0)) (vt (it l 1 2)) (ad l 1) (ad l 2) (v7 (ob l 3)) (v7 (ob l 4)) (vt (ar c 2)),
 eL [3,4] fun c l m=>io P h g (vt (it l 0 0)) (ad l 0) (vt (it l 2 0)) (vt (it l 2 1)) (vt (it l 1 0)) (ad l 1) (ad l 2) (v7 (ob l 3)) (v7 (ob l 4)) (vt (ar c 2)),
 eL [2,3] fun c l m=>DR P h g (vt (it l 1 0)) (vt (it l 1 1)) (vt (it l 0 0)) (it l 0 1) (ad l 0) (vt (it l 1 3)) (ad l 1) (v7 (ob l 2)) (v7 (ob l 3)) (vt (ar c 2)),
 eL [4,5] fun c l m=>vX P h g (vt (it l 3 0)) (vt (it l 0 0)) (it l 0 1) (ad l 0) (vi (it l 1 2)) (vt (it l 1 2)) (vt (it l 1 0)) (it l 1 1) (ad l 1) (vt (it l 2 2)) (vt (it l 2 0)) (it l 2 1) (ad l 2) (ad l 3) (vb (it l 2 2)) (v7 (ob l 4)) (v7 (ob l 5)) (vt (ar c 2)),
 eL [4,5] fun c l m=>vQ P h g (vr (it l 4 0)) (vt (it l 0 0)) (ad l 0) (vt (it l 3 0)) (vt (it l 3 1)) (vt (it l 3 2)) (vt (it l 1 0)) (it l 1 1) (ad l 1) (vi (it l 2 2)) (vt (it l 2 2)) (vt (it l 2 0)) (it l 2 1) (ad l 2) (ad l 3) (v7 (ob l 4)) (v7 (ob l 5)) (vt (ar c 2))]
noncomputable def EC (P:Params) (h g:Nat→Nat):List LibE:=Fj P h g ++ GT P h g
theorem yX (w:World) (h g:Nat→Nat):fQ (BB w h g) (EC w.params h g):=(BG w h g).app (
 ⟨fun _ _ _=>l0.2.2.2.2.1,⟨fun _ _ _=>l0.2.2.2.2.2.1,⟨fun _ _ _=>l0.2.2.2.2.2.2.1,⟨fun _ _ _=>l0.2.2.2.2.2.2.2.1,⟨fun _ _ _=>l0.2.2.2.2.2.2.2.2.1,⟨fun _ _ _=>l0.2.2.2.2.2.2.2.2.2,⟨fun _ _ _=>fB.1,⟨fun _ _ _=>fB.2.2.2.1,⟨fun _ _ _=>fB.2.2.2.2.1,⟨fun _ _ _=>fB.2.2.2.2.2.1,⟨fun _ _ _=>fB.2.2.2.2.2.2.1,⟨fun _ _ _=>fB.2.2.2.2.2.2.2.2.1,⟨fun _ _ _=>jG.2.2.2.2.1,⟨fun _ _ _=>jG.2.2.2.2.2,trivial⟩⟩⟩⟩⟩⟩⟩⟩⟩⟩⟩⟩⟩⟩)
end
noncomputable def FJ:String:=PySem.W.S.litE [PySem.W.S.mk8 95 rfl,PySem.W.S.mk8 99 rfl,PySem.W.S.mk8 111 rfl,PySem.W.S.mk8 100 rfl,PySem.W.S.mk8 101 rfl,PySem.W.S.mk8 99 rfl,PySem.W.S.mk8 115 rfl,PySem.W.S.mk8 46 rfl,PySem.W.S.mk8 108 rfl,PySem.W.S.mk8 111 rfl,PySem.W.S.mk8 111 rfl,PySem.W.S.mk8 107 rfl,PySem.W.S.mk8 117 rfl,PySem.W.S.mk8 112 rfl,PySem.W.S.mk8 95 rfl,PySem.W.S.mk8 101 rfl,PySem.W.S.mk8 114 rfl,PySem.W.S.mk8 114 rfl,PySem.W.S.mk8 111 rfl,PySem.W.S.mk8 114 rfl,PySem.W.S.mk8 46 rfl,PySem.W.S.mk8 114 rfl,PySem.W.S.mk8 101 rfl,PySem.W.S.mk8 112 rfl,PySem.W.S.mk8 108 rfl,PySem.W.S.mk8 97 rfl,PySem.W.S.mk8 99 rfl,PySem.W.S.mk8 101 rfl,PySem.W.S.mk8 95 rfl,PySem.W.S.mk8 101 rfl,PySem.W.S.mk8 114 rfl,PySem.W.S.mk8 114 rfl,PySem.W.S.mk8 111 rfl,PySem.W.S.mk8 114 rfl,PySem.W.S.mk8 115 rfl] [95,99,111,100,101,99,115,46,108,111,111,107,117,112,95,101,114,114,111,114,46,114,101,112,108,97,99,101,95,101,114,114,111,114,115] rfl rfl
noncomputable abbrev vk:Str:=Qt
noncomputable abbrev FX:Str:=Qx
noncomputable def GC (P:Params) (h g:Nat→Nat) (t1 t2 t3 t4 t5:Nat):RS:=aH 200 [] false (.call (.type La) ⟨[.str Qt t1,.bytes #[255,226,130,172] t2,.int 0 t3,.int 1 t4,.str Qx t5],[]⟩) []
noncomputable abbrev AO (a t1 t2 t5:Nat):Obj:=⟨(.type La),none,(Data.fields #[(.ref a),.none,.none,.none,(.bool false),.none,(.str Qt t1),(.bytes #[255,226,130,172] t2),(.int 0 0),(.int 1 0),(.str Qx t5)]),#[]⟩
noncomputable def Gk (P:Params) (h g:Nat→Nat) (e a t1 t2 t5:Nat):RS:=aH 100 [] false (.call (.builtin FJ) ⟨[.ref e],[]⟩) [⟨false,e,AO a t1 t2 t5⟩]
noncomputable def Ep (P:Params) (h g:Nat→Nat) (u t1 t2 t3:Nat):RS:=(aH 300 [] false (aP PySem.W.SL.s2914175891499649448x19 [.bytes #[255,226,130,172] u,.str Qt t1,.str G6 t2,.str Gl t3]) []).fin [] [0] nN nN (fun _ t=>ok (.str ⟨#[65533,8364]⟩ (nb t 0)))
noncomputable def FC (P:Params) (h:Nat→Nat) (g:Nat→Nat) (t1:Nat) (t2:Nat) (t3:Nat) (t4:Nat) (t5:Nat):RS:=(GC P h g t1 t2 t3 t4 t5).fin [1,2] [] nN (fun b t=>[⟨(.type La),none,(Data.fields #[(.ref (nb b 1)),.none,.none,.none,(.bool false),.none,(.str Qt t1),(.bytes #[255,226,130,172] t2),(.int 0 0),(.int 1 0),(.str Qx t5)]),#[]⟩,(oT [(.str Qt t1),(.bytes #[255,226,130,172] t2),(.int 0 t3),(.int 1 t4),(.str Qx t5)])]) rB
noncomputable def EE (P:Params) (h:Nat→Nat) (g:Nat→Nat) (e:Nat) (a:Nat) (t1:Nat) (t2:Nat) (t5:Nat):RS:=(Gk P h g e a t1 t2 t5).fin [1] [0,1] nN (fun b t=>[(oT [(.str ⟨#[65533]⟩ (nb t 0)),(.int 1 (nb t 1))])]) rB
theorem FP (w:World) h g t1 t2 t3 t4 t5 (cb:Bool):(FC w.params h g t1 t2 t3 t4 t5).Runs (BB w h g) 48 (ce [av,0x4010100400404010000100001004,li,1025,li,1025,li,1025,li,1025,li,1052673]) [] cb:=by
 intro ν τ υ π ς ρ own past κ bl p
 kernel_rfl
theorem ES (w:World) h g e a t1 t2 t5 (cb:Bool):(EE w.params h g e a t1 t2 t5).Runs (BB w h g) 11 (ce [ae,fX]) [] cb:=by
 intro ν τ υ π ς ρ own past κ bl p
 kernel_rfl
section
open PySem.SeqAt PySem.Calls
open PySem.Builtin PySem.Builtin._codecs
theorem GI {w:World} {h g t1 t2 t3 t4 t5}:(FC w.params h g t1 t2 t3 t4 t5).S.Holds (BB w h g):=RS.done (cw w h g) (.one fun cb=>FP w h g t1 t2 t3 t4 t5 cb) rfl (fun _ _=>rfl) ao
theorem GA {w:World} {h g e a t1 t2 t5}:(EE w.params h g e a t1 t2 t5).S.Holds (BB w h g):=RS.done (cw w h g) (.one fun cb=>ES w h g e a t1 t2 t5 cb) rfl (fun _ _=>rfl) ao
theorem iq {B:Base} {S:Mine.Spec} (H:S.Holds B) (hsh:S.sh=[]) (hdy:S.dy=false) {A:Around} {s:Shared} {R:Result→Shared→Prop} (h0:A.handled=none) (h1:A.depth+S.lv≤950) (h2:A.units+S.lv≤9000) (top:dd B s)
 (pre:∀ x,x∈S.pre→s.heap.get? x.1=some x.2∧B.Free x.1) (nd:(S.pre.map (·.1)).Nodup) (k:∀ s' bs ts,After B S s s' bs ts→R (S.r bs ts) s'):codeAny B.M A S.c R s:=fun Γ p hc hb =>
 H Γ p s R ⟨hc,hb.1.trans h0,by rw [hsh]; rfl,⟨by have:=hb.2.1; omega,by have:=hb.2.2.2.2; omega⟩,top,fun q=>(by rw [hdy] at q; cases q),fun x hx=>⟨.inl (pre x hx).1,(pre x hx).2⟩,nd⟩ k
theorem cR.exactD {h:Heap} {a:Nat} {o:Obj} (x:cR false h a o):h.get? a=some o:=by
 rcases x with x | ⟨x1,_⟩
 ·exact x
 ·cases x1
noncomputable abbrev w3:Str:=G6
noncomputable abbrev Er:Str:=Gl
theorem rG {id:String} {b:Array UInt8}:decodeRoad id b vk (some w3) []=(runDecoder id utf8Decoder (some w3) true b 0 [] >>= fun r=>mkStr ⟨r.1⟩):=by kernel_rfl
theorem gr {M:Model} {A:Around} {E:Value→Shared→Prop} {s:Shared} {b:Array UInt8} {Q:Value→Shared→Prop} (hb:¬ b.size > sizeLine) (h:Q (.bytes b s.toks) { s with toks:=s.toks+1 }):wpAny M A (mkBytes b) Q E s:=by
 unfold mkBytes
 rw [if_neg hb]
 exact fun _ _ _=>h
theorem cY {M:Model} {A:Around} {E:Value→Shared→Prop} {s:Shared} {e a t1 t2 t5:Nat} {Q:UnicodeEncodeError.Members→Shared→Prop} (he:s.heap.get? e=some (AO a t1 t2 t5))
 (h:∀ m:UnicodeEncodeError.Members,m.object=.bytes #[255,226,130,172] t2→Q m s):wpAny M A (UnicodeEncodeError.members (.ref e)) Q E s:=by
 unfold UnicodeEncodeError.members fieldsOf
 refine wpAny_bind (wpAny_bind (wpAny_load he ?_))
 refine wpAny_pure (wpAny_of_eq (a:=⟨.str Qt t1,.bytes #[255,226,130,172] t2,0,1,.str Qx t5⟩) (by kernel_rfl) (h _ rfl))
theorem GO {w:World} {h g u t1 t2 t3}:(Ep w.params h g u t1 t2 t3).S.Holds (BB w h g):=by
 refine aj rfl fun A s₀ R hh hu hlv ht hcell _ k=>?_
 have e : (Ep w.params h g u t1 t2 t3).c = .call (.builtin "_codecs.decode.text") ⟨[.bytes #[255, 226, 130, 172] u, .str vk t1, .str w3 t2, .str Er t3], []⟩ := by kernel_rfl
 rw [e]
 refine codeAny_call_builtin KBd.plain_text KBd.entry_text ?_
 have ok:=KBd.args_text (.bytes #[255,226,130,172] u) (.str vk t1) (.str w3 t2) (.str Er t3)
 have fin:wpAny (BB w h g).M A.in1 (Builtin.«_codecs.decode.text» ⟨[.bytes #[255,226,130,172] u,.str vk t1,.str w3 t2,.str Er t3],[]⟩)
  (fun fin s'=>match fin with | .done f=>R (.ok f) s' | .again c'=>c'.quiet=true∧codeAny (BB w h g).M A c' R s') (fun e s'=>R (.error e) s') s₀:=by
  show wpAny _ _ (Bytes.bytesLike _ (.bytes #[255,226,130,172] u) >>= fun r=>_) _ _ s₀
  refine wpAny_bind (wpAny_of_eq KBd.like_eq ?_)
  refine wpAny_bind (wpAny_of_eq KBd.held_eq ?_)
  show wpAny _ _ (decodeRoad _ #[255,226,130,172] vk (some w3) [] >>= fun v=>_) _ _ s₀
  rw [rG]
  refine wpAny_bind (wpAny_bind ?_)
  unfold runDecoder
  dsimp only
  have hr:∀ (f:Nat→Nat × Array Nat × Faults→Sem (ForInStep (Nat × Array Nat × Faults))) (i:Nat × Array Nat × Faults),(forIn [:(#[255,226,130,172]:Array UInt8).size] i f:Sem _)=forIn [0,1,2,3] i f:=fun f i=>by rw [Std.Legacy.Range.forIn_eq_forIn_range']; rfl
  rw [hr,List.forIn_cons]
  refine wpAny_bind (wpAny_bind ?_)
  dsimp only
  rw [if_neg (by decide),if_neg (by decide)]
  have hf : utf8Decoder.find true #[255, 226, 130, 172] 0 = .bad 1 "invalid start byte" false := by kernel_rfl
  rw [hf]
  dsimp only
  rw [if_neg (by decide)]
  refine wpAny_bind (wpAny_rule ?_)
  refine wpAny_bind ?_
  unfold decodeFault
  refine wpAny_bind (wpAny_of_eq (a := Value.builtin "_codecs.lookup_error.replace_errors") (by kernel_rfl) ?_)
  refine wpAny_bind (wpAny_holding ?_)
  show wpAny _ _ (mkStr vk >>= fun v1 => mkBytes #[255, 226, 130, 172] >>= fun v2 => mkInt 0 >>= fun v3 => mkInt 1 >>= fun v4 => mkStr FX >>= fun v5 => PySem.call (.type "UnicodeDecodeError") [v1, v2, v3, v4, v5]) _ _ _
  refine wpAny_bind (wpAny_mkStr ?_ (by decide))
  refine wpAny_bind (gr (by decide) ?_)
  refine wpAny_bind (wpAny_mkInt ?_)
  refine wpAny_bind (wpAny_mkInt ?_)
  refine wpAny_bind (wpAny_mkStr ?_ (by decide))
  have top1:dd (BB w h g) { s₀ with toks:=s₀.toks+1+1+1+1+1 }:=⟨ht.1,ht.2⟩
  have lv':(Ep w.params h g u t1 t2 t3).lv=300:=rfl
  rw [lv'] at hu hlv
  have d1:A.in1.depth≤A.depth+20:=Nat.le_add_right _ _
  have d2:A.in1.units≤A.units+20:=Nat.add_le_add_left (by decide) _
  refine wpAny_call ?_
  have e1 := fun a b c d f => (show (FC w.params h g a b c d f).S.c = .call (.type "UnicodeDecodeError") ⟨[.str vk a, .bytes #[255, 226, 130, 172] b, .int 0 c, .int 1 d, .str FX f], []⟩ from by kernel_rfl)
  refine (e1 _ _ _ _ _)▸iq GI rfl rfl hh (by show A.in1.depth+200≤950; omega) (by show A.in1.units+200≤9000; omega) top1 (fun x hx=>nomatch hx) List.nodup_nil fun s₁ bs ts A1=>?_
  obtain ⟨x,y,rfl⟩:∃ x y,bs=[x,y]:=by
   have:=A1.len
   match bs,this with
   | [x,y],_=>exact ⟨x,y,rfl⟩
  have hx:s₁.heap.get? x=some (AO y s₀.toks (s₀.toks+1) (s₀.toks+1+1+1+1)):=(A1.nw 0 x _ rfl rfl).exact rfl
  have fx:(BB w h g).Free x:=top1.free (A1.new x (.head _))
  show wpAny _ _ _ _ _ s₁
  refine wpAny_bind ?_
  show wpAny _ _ (UnicodeEncodeError.members (.ref x) >>= fun m => holding [Value.builtin "_codecs.lookup_error.replace_errors", .ref x] (PySem.call (Value.builtin "_codecs.lookup_error.replace_errors") [.ref x]) >>= fun r => _) _ _ s₁
  refine wpAny_bind (cY hx fun m hm=>?_)
  refine wpAny_bind (wpAny_holding (wpAny_call ?_))
  have e2 := fun a b c d f => (show (EE w.params h g a b c d f).S.c = .call (.builtin "_codecs.lookup_error.replace_errors") ⟨[.ref a], []⟩ from by kernel_rfl)
  refine (e2 _ y s₀.toks (s₀.toks+1) (s₀.toks+1+1+1+1))▸iq GA rfl rfl hh (by show A.in1.depth+100≤950; omega) (by show A.in1.units+100≤9000; omega) A1.top (fun z hz=>?_) (by simp [bU,EE,RS.fin,RS.finO,RS.S,RS.SO,Gk,aH]) fun s₂ bs' ts' A2=>?_
  ·obtain rfl:z=(x,AO y s₀.toks (s₀.toks+1) (s₀.toks+1+1+1+1)):=by
    cases hz with
    | head=>rfl
    | tail _ hz=>exact nomatch hz
   exact ⟨hx,fx⟩
  obtain ⟨z,rfl⟩:∃ z,bs'=[z]:=by
   have:=A2.len
   match bs',this with
   | [z],_=>exact ⟨z,rfl⟩
  obtain ⟨v1,v2,rfl⟩:∃ v1 v2,ts'=[v1,v2]:=by
   have:=A2.lent
   match ts',this with
   | [v1,v2],_=>exact ⟨v1,v2,rfl⟩
  have hz:s₂.heap.get? z=some (oT [.str ⟨#[65533]⟩ v1,.int 1 v2]):=(A2.nw 0 z _ rfl rfl).exact rfl
  have hx2:s₂.heap.get? x=some (AO y s₀.toks (s₀.toks+1) (s₀.toks+1+1+1+1)):=(A2.keep x _ hx (fun q=>nomatch q)).exact rfl
  show wpAny _ _ (UnicodeEncodeError.members (.ref x) >>= fun m'=>_) _ _ s₂
  refine wpAny_bind (cY hx2 fun m' hm'=>?_)
  rw [hm,hm']
  dsimp only
  rw [if_neg]
  rotate_left
  ·show ¬ ((!((s₀.toks+1 == s₀.toks+1) && ((#[255,226,130,172]:Array UInt8) == #[255,226,130,172])))=true)
   simp
  refine wpAny_pure (wpAny_holding ?_)
  show wpAny _ _ ((isInstance (.ref z) (.type "tuple") >>= fun b => if (!b) = true then pure none else seqItems? (.ref z) >>= fun o => match o.map (·.toList) with | some [a, b] => pure (some (a, b)) | _ => pure none) >>= fun x => _) _ _ s₂
  have hT : s₂.TypeIs (.ref z) "tuple" := ⟨_, hz, by show yT = _; kernel_rfl⟩
  refine wpAny_bind (wpAny_bind (wpAny_isInstance (b:=true) hT (by kernel_rfl) ?_))
  rw [if_neg (by decide)]
  refine wpAny_bind (wpAny_seqItems hz rfl ?_)
  refine wpAny_pure ?_
  dsimp only
  refine wpAny_bind (wpAny_of_eq (a:=some (⟨#[65533]⟩:Str)) (by kernel_rfl) ?_)
  dsimp only
  refine wpAny_bind (wpAny_of_eq (a:=(1:Int)) (by kernel_rfl) ?_)
  refine wpAny_bind (wpAny_of_eq (a:=(1:Nat)) (by kernel_rfl) ?_)
  refine wpAny_pure (wpAny_pure ?_)
  refine wpAny_of_eq (a := ((4 : Nat), (#[65533, 8364] : Array Nat), ({ handler := some (Value.builtin "_codecs.lookup_error.replace_errors"), exc := some (Value.ref x) } : Faults))) (by kernel_rfl) ?_
  refine wpAny_pure ?_
  refine wpAny_mkStr ?_ (by show Str.length ⟨#[65533,8364]⟩≤sizeLine; decide)
  refine wpAny_pure ?_
  refine k _ [] [s₂.toks] ⟨⟨A2.top.1,A2.top.2⟩,fun b o hb _=>.inl ?_,Nat.le_trans A1.size A2.size,A2.gens.trans A1.gens,A2.os.trans A1.os,(fun j b o h=>by have h:([]:List Nat)[j]?=some b:=h; simp at h),(fun j b o h=>by simp at h),(fun b h=>by simp at h),List.nodup_nil,rfl,rfl⟩
  exact (A2.keep b o ((A1.keep b o hb (fun q=>nomatch q)).exactD) (fun q=>nomatch q)).exactD
 simp only [checkBuiltinCall,KBd.kind_text]
 cases hsig : Manifest.signature? "_codecs.decode.text" with
 | none=>exact wpAny_pure fin
 | some sig =>
  simp only [argsOk,hsig] at ok
  have h2 : Bind.checkArgs "_codecs.decode.text" sig ⟨[.bytes #[255, 226, 130, 172] u, .str vk t1, .str w3 t2, .str Er t3], []⟩ = pure () := ok
  show wpAny _ _ (Bind.checkArgs "_codecs.decode.text" sig _) _ _ s₀
  rw [h2]; exact wpAny_pure fin
end
section
open PySem.SeqAt
noncomputable def uT (f:(Nat→Nat)→(Nat→Nat)→(Nat→Obj)→Post→RS) (ix jx:List Nat) (l j:Nat):Use:=⟨fun A k O _ ρ=>(f A k O ρ).S,ix,jx,some (l,j)⟩
theorem dY {B:Base} {f:(Nat→Nat)→(Nat→Nat)→(Nat→Obj)→Post→RS} {ix jx:List Nat} {l j:Nat} {us:List Use} (h:∀ {A k O},Spec.HoldsT B j fun ρ=>(f A k O ρ).S) (k:cl B us):cl B (uT f ix jx l j::us):=⟨fun _ _ _ _=>h,k⟩
noncomputable def E0 (P:Params) (h g:Nat→Nat) (fn s r er X0 Y0 tx ty:Nat) (R F:V7) (n:Nat) (K:List (Nat × Value)) (t1:Nat):RS:=aH 600 (Ab) true (aq fn [.ref s,.ref (h 126)]) [⟨true,s,bM 0 X0 Y0 tx ty r⟩,⟨false,r,oL er []⟩,cS h true R,d8 h true F,bN P h g true n t1,cW h true n K]
noncomputable def Av (P:Params) (h g:Nat→Nat) (fn s r er X0 Y0 tx ty:Nat) (R F:V7) (n:Nat) (K:List (Nat × Value)) (t1:Nat) (ρ:Post):RS:=(E0 P h g fn s r er X0 Y0 tx ty R F n K t1).open [bM 0 ρ.X (ym ρ.Y) (ρ.t 0) (ρ.t 1) r,oL 0 ρ.R.l,oL 7 ρ.F.l,(bN P h g true (ag (aG (n+2) ρ.K)) (ρ.t 2)).o,oK (ag (aG (n+2) ρ.K)) (aG (n+2) ρ.K)]
noncomputable def CE (w:World) (h g:Nat→Nat) (s r er X0 Y0 tx ty:Nat) (R F:V7) (n:Nat) (K:List (Nat × Value)) (t1 fn:Nat):Prop:=Spec.HoldsE (BB w h g) fun ρ=>(Av w.params h g fn s r er X0 Y0 tx ty R F n K t1 ρ).S
noncomputable def uc (X Y i:Nat) (t:List Nat) (q:Nat→Post):Nat × Nat × Nat × Nat:=match i with
 | 0=>(X,Y,nb t 0,nb t 1)
 | i+1=>((q i).X,ym (q i).Y,(q i).t 0,(q i).t 1)
noncomputable def vl (n:Nat) (K:List (Nat × Value)) (t1 d e:Nat) (b t:List Nat) (q:Nat→Post):Nat × Nat × List (Nat × Value):=match d with
 | 0=>(n,t1,K)
 | 1=>(n+1,nb t e,(nb t e,.ref (nb b 0))::K)
 | 2=>(n+2,nb t e,(nb t e,.ref (nb b 0))::(nb t (e+1),.ref (nb b 1))::K)
 | i+3=>(ag (aG (n+2) (q i).K),(q i).t 2,aG (n+2) (q i).K)
theorem ej {n:Nat} {K:List (Nat × Value)} (hK:ag K=n) (t1 d e:Nat) (b t:List Nat) (q:Nat→Post):ag (vl n K t1 d e b t q).2.2=(vl n K t1 d e b t q).1∧(vl n K t1 d e b t q).1≤n+2:=by
 unfold vl
 split
 ·exact ⟨hK,Nat.le_add_right _ _⟩
 ·exact ⟨wG hK,Nat.le_succ _⟩
 ·exact ⟨wG (wG hK),Nat.le_refl _⟩
 ·exact ⟨rfl,dD _ _⟩
noncomputable def sO (X Y i r:Nat) (t:List Nat) (q:Nat→Post):Obj:=bM 0 (uc X Y i t q).1 (uc X Y i t q).2.1 (uc X Y i t q).2.2.1 (uc X Y i t q).2.2.2 r
noncomputable def hO (P:Params) (h g:Nat→Nat) (n:Nat) (K:List (Nat × Value)) (t1 d e:Nat) (b t:List Nat) (q:Nat→Post):List Obj:=[(bN P h g true (vl n K t1 d e b t q).1 (vl n K t1 d e b t q).2.1).o,oK (vl n K t1 d e b t q).1 (vl n K t1 d e b t q).2.2]
theorem b9 {P:Params} {h g:Nat→Nat} {n r:Nat} {K:List (Nat × Value)} (t1:Nat) (hK:ag K=n) (X Y i d e:Nat) (b t:List Nat) (o:Nat→Obj) (q:Nat→Post):∃ ρ:Post,[bM 0 ρ.X (ym ρ.Y) (ρ.t 0) (ρ.t 1) r,oL 0 ρ.R.l,oL 7 ρ.F.l,(bN P h g true (ag (aG (n+2) ρ.K)) (ρ.t 2)).o,oK (ag (aG (n+2) ρ.K)) (aG (n+2) ρ.K)]=sO X Y i r t q::oL 0 (v7 (o 2)).l::oL 7 (v7 (o 3)).l::hO P h g n K t1 d e b t q :=
 GR (ej hK t1 d e b t q).1 (ej hK t1 d e b t q).2
theorem BI {P:Params} {h g:Nat→Nat} {n:Nat} {K:List (Nat × Value)} (t1:Nat) (hK:ag K=n) (d e:Nat) (b t:List Nat) (o:Nat→Obj) (q:Nat→Post):∃ ρ:Post,[ρ.o 0,oL 0 ρ.R.l,oL 7 ρ.F.l,(bN P h g true (ag (aG (n+2) ρ.K)) (ρ.t 2)).o,oK (ag (aG (n+2) ρ.K)) (aG (n+2) ρ.K)]=o 0::oL 0 (v7 (o 1)).l::oL 7 (v7 (o 2)).l::hO P h g n K t1 d e b t q :=
 GF (ej hK t1 d e b t q).1 (ej hK t1 d e b t q).2
theorem Es {P:Params} {h g:Nat→Nat} {n r:Nat} {K:List (Nat × Value)} (t1:Nat) (hK:ag K=n) (X Y i d e:Nat) (b t:List Nat) (o:Nat→Obj) (q:Nat→Post):∃ ρ:Post,[ρ.o 0,bM 0 ρ.X (ym ρ.Y) (ρ.t 0) (ρ.t 1) r,oL 0 ρ.R.l,oL 7 ρ.F.l,(bN P h g true (ag (aG (n+2) ρ.K)) (ρ.t 2)).o,oK (ag (aG (n+2) ρ.K)) (aG (n+2) ρ.K)]=o 0::sO X Y i r t q::oL 0 (v7 (o 3)).l::oL 7 (v7 (o 4)).l::hO P h g n K t1 d e b t q :=
 Ga (ej hK t1 d e b t q).1 (ej hK t1 d e b t q).2
theorem q9 {r:Nat} (X Y i:Nat) (b t:List Nat) (o:Nat→Obj) (q:Nat→Post):∃ ρ:Post,[ρ.o 0,bM 0 ρ.X (ym ρ.Y) (ρ.t 0) (ρ.t 1) r,oL 0 ρ.R.l,oL 7 ρ.F.l]=[o 0,sO X Y i r t q,oL 0 (v7 (o 3)).l,oL 7 (v7 (o 4)).l]:=GK
theorem ba {w:World} {h g:Nat→Nat} {D:RS} {l:Post→List Obj} {po:List Nat→List Nat→(Nat→Obj)→(Nat→Post)→List Obj} (m hs:Nat) (us:List Use) (bx tx:List Nat) (he:∀ b t o q,∃ ρ,l ρ=po b t o q) (U:cl (BB w h g) us)
 (H:∀ cb,(D.finO bx tx po (fun _ _=>[]) (fun _ _=>ok (.bool true))).RunsL (BB w h g) (EC w.params h g) m hs us cb) (htl:D.tl=none:=by rfl):Spec.HoldsE (BB w h g) (fun ρ=>(D.open (l ρ)).S) :=
 C3 (cw w h g) (yX w h g).all (.one H) htl (fun _ _=>rfl) (fun o q b t=>he b t o q) U
theorem il {w:World} {h g:Nat→Nat} {D:RS} {l:Post→List Obj} {po:List Nat→List Nat→(Nat→Obj)→(Nat→Post)→List Obj} {j:Nat} (m hs:Nat) (us:List Use) (bx tx:List Nat) (he:∀ b t o q,∃ ρ,l ρ=po b t o q) (U:cl (BB w h g) us)
 (H:∀ cb,(D.finO bx tx po (fun _ _=>[]) (fun _ _=>ok (.bool true))).RunsL (BB w h g) (EC w.params h g) m hs us cb) (htl:D.tl=some j:=by rfl):Spec.HoldsT (BB w h g) j (fun ρ=>(D.open (l ρ)).S) :=
 D5 (cw w h g) (yX w h g).all (.one H) htl (fun _ _=>rfl) (fun o q b t=>he b t o q) U
end
noncomputable def Gg (a b:Nat):Nat:=a - b
noncomputable def cx (P:Params) (h g:Nat→Nat) (a b t u:Nat) (r:Bool):RS:=au (aP Mine.SL.s10494651255881035545x10 [.int (Int.ofNat a) t,.int (Int.ofNat b) u]) [] (.bool r)
noncomputable def Bp (P:Params) (h g:Nat→Nat) (a b t u:Nat):RS:=vh P h g Mine.SL.s10675162408562208479x11 a b (Gg a b) t u
noncomputable def DG (P:Params) (h g:Nat→Nat) (b t u:Nat):RS:=vh P h g Mine.SL.s4995937446222217074x11 0 b b t u
noncomputable def Gx (l h:Nat):Array UInt8:=match l,h with
 | 0,1=>#[97] | 0,2=>#[97,98] | 0,3=>#[97,98,99] | 0,4=>#[97,98,99,100]
 | 1,2=>#[98] | 1,3=>#[98,99] | 1,4=>#[98,99,100]
 | 2,3=>#[99] | 2,4=>#[99,100] | 3,4=>#[100] | _,_=>#[]
noncomputable def Gy (l h t u:Nat):Obj:=⟨.type Li,none,.fields #[.int (Int.ofNat l) t,.int (Int.ofNat h) u,.none],#[]⟩
noncomputable def jp (P:Params) (h g:Nat→Nat) (sl l k tb t u:Nat):RS:=(au (aP PySem.W.SL.s4197629599456265239x17 [.bytes #[97,98,99,100] tb,.ref sl]) [⟨false,sl,Gy l k t u⟩] .none).fin [] [0] (fun _ _=>[]) (fun _ _=>[]) (fun _ t=>ok (.bytes (Gx l k) (nb t 0)))
section
open PySem.SeqAt
theorem vR (n:Nat):Nat.ble 0 n=true:=Nat.ble_eq_true_of_le (Nat.zero_le n)
theorem cA {en:ST} {w:World} {h g:Nat→Nat} {a b t u:Nat} {r:Bool} (hr:Nat.ble a b=r):(cx w.params h g a b t u r).S.Holds (B2 w en):=by
 refine aj rfl fun A s₀ R hh hu _ ht hcell _ kk=>?_
 show codeAny _ _ (.call (.builtin _) _) _ _
 rw [show Mine.SL.s10494651255881035545x10 = "int.__le__" from aB (by kernel_rfl)]
 refine ap F.slot_int_le F.entry_int_le (F.args_int_le_2 _ _) (typeIs_int s₀ _ _) ((AutoIntG1.int___le___int_int_0 (Int.ofNat a) t (Int.ofNat b) u).meets.inModel _ _) ?_
 show R (.ok (.ret (.bool (decide (Int.ofNat a≤Int.ofNat b))))) s₀
 have e:decide (Int.ofNat a≤Int.ofNat b)=r:=by
  rw [← hr]
  cases q:Nat.ble a b with
  | true=>exact decide_eq_true (Int.ofNat_le.mpr (Nat.le_of_ble_eq_true q))
  | false=>exact decide_eq_false fun z=>by rw [Nat.ble_eq_true_of_le (Int.ofNat_le.mp z)] at q; cases q
 rw [e]
 exact kk _ [] [] (aE (s':=s₀) ht rfl rfl rfl rfl rfl rfl)
theorem Eo {en:ST} {w:World} {h g:Nat→Nat} {a b t u:Nat} (hb:Nat.ble b a=true):(Bp w.params h g a b t u).S.Holds (B2 w en) :=
 A8 (aB (by kernel_rfl)) F.slot_int_sub F.entry_int_sub F.args_int_sub_2 a b (Gg a b) t u (i:=Int.ofNat a - Int.ofNat b) (Int.ofNat_sub (Nat.le_of_ble_eq_true hb)).symm (AutoIntG9.int___sub___int_int_0 _ _ _ _)
theorem Fa {en:ST} {w:World} {h g:Nat→Nat} {b t u:Nat}:(DG w.params h g b t u).S.Holds (B2 w en) :=
 A8 (aB (by kernel_rfl)) F.slot_int_add F.entry_int_add F.args_int_add_2 0 b b t u (i:=Int.ofNat 0+Int.ofNat b) (Int.zero_add _) (AutoIntG4.int___add___int_int_0 _ _ _ _)
theorem n8 {w:World} {h g:Nat→Nat}:(∀ {sl tb t u},(jp w.params h g sl 0 0 tb t u).S.Holds (BB w h g)) ∧
 (∀ {sl tb t u},(jp w.params h g sl 0 1 tb t u).S.Holds (BB w h g)) ∧
 (∀ {sl tb t u},(jp w.params h g sl 0 2 tb t u).S.Holds (BB w h g)) ∧
 (∀ {sl tb t u},(jp w.params h g sl 0 3 tb t u).S.Holds (BB w h g)) ∧
 (∀ {sl tb t u},(jp w.params h g sl 1 1 tb t u).S.Holds (BB w h g)) ∧
 (∀ {sl tb t u},(jp w.params h g sl 1 2 tb t u).S.Holds (BB w h g)) ∧
 (∀ {sl tb t u},(jp w.params h g sl 1 3 tb t u).S.Holds (BB w h g)) ∧
 (∀ {sl tb t u},(jp w.params h g sl 1 4 tb t u).S.Holds (BB w h g)) ∧
 (∀ {sl tb t u},(jp w.params h g sl 2 2 tb t u).S.Holds (BB w h g)) ∧
 (∀ {sl tb t u},(jp w.params h g sl 2 3 tb t u).S.Holds (BB w h g)) ∧
 (∀ {sl tb t u},(jp w.params h g sl 2 4 tb t u).S.Holds (BB w h g)) ∧
 (∀ {sl tb t u},(jp w.params h g sl 3 3 tb t u).S.Holds (BB w h g)) ∧
 (∀ {sl tb t u},(jp w.params h g sl 3 4 tb t u).S.Holds (BB w h g)):=by
 refine ⟨dm 10 (ce [eG]) [] ao ?_,
 dm 10 (ce [eG]) [] ao ?_,
 dm 10 (ce [eG]) [] ao ?_,
 dm 10 (ce [eG]) [] ao ?_,
 dm 10 (ce [eG]) [] ao ?_,
 dm 10 (ce [eG]) [] ao ?_,
 dm 10 (ce [eG]) [] ao ?_,
 dm 10 (ce [eG]) [] ao ?_,
 dm 10 (ce [eG]) [] ao ?_,
 dm 10 (ce [eG]) [] ao ?_,
 dm 10 (ce [eG]) [] ao ?_,
 dm 10 (ce [eG]) [] ao ?_,
 dm 10 (ce [eG]) [] ao ?_⟩ <;> intro cb ν τ υ π ς ρ own past κ bl p <;> kernel_rfl
theorem EI {w:World} {h g:Nat→Nat} {sl tb t u:Nat}:∀ (l k:Nat),Nat.ble l k=true→Nat.ble k 4=true→Nat.ble l 3=true→(l=0→Nat.ble k 3=true)→(jp w.params h g sl l k tb t u).S.Holds (BB w h g)
 | 0,0,_,_,_,_=>n8.1
 | 0,1,_,_,_,_=>n8.2.1
 | 0,2,_,_,_,_=>n8.2.2.1
 | 0,3,_,_,_,_=>n8.2.2.2.1
 | 1,1,_,_,_,_=>n8.2.2.2.2.1
 | 1,2,_,_,_,_=>n8.2.2.2.2.2.1
 | 1,3,_,_,_,_=>n8.2.2.2.2.2.2.1
 | 1,4,_,_,_,_=>n8.2.2.2.2.2.2.2.1
 | 2,2,_,_,_,_=>n8.2.2.2.2.2.2.2.2.1
 | 2,3,_,_,_,_=>n8.2.2.2.2.2.2.2.2.2.1
 | 2,4,_,_,_,_=>n8.2.2.2.2.2.2.2.2.2.2.1
 | 3,3,_,_,_,_=>n8.2.2.2.2.2.2.2.2.2.2.2.1
 | 3,4,_,_,_,_=>n8.2.2.2.2.2.2.2.2.2.2.2.2
 | 0,4,_,_,_,e=>absurd (e rfl) (by decide)
 | 1,0,e,_,_,_=>absurd e (by decide)
 | 2,0,e,_,_,_=>absurd e (by decide)
 | 2,1,e,_,_,_=>absurd e (by decide)
 | 3,0,e,_,_,_=>absurd e (by decide)
 | 3,1,e,_,_,_=>absurd e (by decide)
 | 3,2,e,_,_,_=>absurd e (by decide)
 | l+4,_,_,_,e,_=>by cases e
 | _,k+5,_,e,_,_=>by cases e
end
section
open PySem.SeqAt
noncomputable def Aa (w:World) (h g:Nat→Nat) (L:Nat) (s:Nat) (R:V7) (F:V7) (n:Nat) (K:List (Nat × Value)) (t1:Nat) (wd:Nat) (tt:Nat) (rw:Nat) (r2:Nat) (t2:Nat) (t3:Nat) (t4:Nat) (t5:Nat) (t6:Nat) (t7:Nat) (t8:Nat) (t9:Nat) (t10:Nat) (t11:Nat) (t12:Nat) (t13:Nat) (t14:Nat) (t15:Nat) (t16:Nat) (t17:Nat) (t18:Nat) (v1:Value) (t19:Nat) (t20:Nat) (v2:Value) (t21:Nat) (v3:Value) (t22:Nat) (v4:Value) (t23:Nat) (v5:Value) (D1:Nat) (D2:Nat):Prop:=Spec.HoldsT (BB w h g) 7 fun ρ=>(nU w.params h g L s R F n K t1 wd tt rw r2 D1 D2 t2 t3 t4 t5 t6 t7 t8 t9 t10 t11 t12 t13 t14 t15 t16 t17 t18 v1 t19 t20 v2 t21 v3 t22 v4 t23 v5 ρ).S
theorem qo {w:World} {h g L s R F n K t1 wd tt rw r2 t2 t3 t4 t5 t6 t7 t8 t9 t10 t11 t12 t13 t14 t15 t16 t17 t18 v1 t19 t20 v2 t21 v3 t22 v4 t23 v5} (hK:ag K=n) (hn:n≤900):(∀ {D1 D2:Nat},Nat.ble D1 D2=true→Nat.ble D2 4=true→Nat.ble D2 3=true→Nat.ble D1 3=true→(D1=0→Nat.ble D2 3=true)→Aa w h g L s R F n K t1 wd tt rw r2 t2 t3 t4 t5 t6 t7 t8 t9 t10 t11 t12 t13 t14 t15 t16 t17 t18 v1 t19 t20 v2 t21 v3 t22 v4 t23 v5 D1 D2) ∧
 (∀ {D1 D2:Nat},Nat.ble D1 D2=true→Nat.ble D2 4=true→Nat.ble D2 3=false→Nat.ble D1 3=true→(D1=0→Nat.ble D2 3=true)→Aa w h g L s R F n K t1 wd tt rw r2 t2 t3 t4 t5 t6 t7 t8 t9 t10 t11 t12 t13 t14 t15 t16 t17 t18 v1 t19 t20 v2 t21 v3 t22 v4 t23 v5 D1 D2) ∧
 (∀ {D1 D2:Nat},Nat.ble D1 D2=true→Nat.ble D2 4=false→Nat.ble D2 3=false→Aa w h g L s R F n K t1 wd tt rw r2 t2 t3 t4 t5 t6 t7 t8 t9 t10 t11 t12 t13 t14 t15 t16 t17 t18 v1 t19 t20 v2 t21 v3 t22 v4 t23 v5 D1 D2):=by
 refine ⟨fun {D1 D2} e1 e4 e3 e0 e5=>il 1945 (ce [AA,1174,cy,1174,cy,0x100828000022589600896258022589625896,cy,ae,1126,av,1073911974,kW,1190,ak,kW,0x1154ac2b0010cc5515053014402a0a6,qh,nH,fX,0x1000580982215801138b213801,nH,fX,fX,0x100c591445a150c4150012a8b62a801,av,1024]) [u (fun A J O=>cx w.params h g 0 D1 (J 40) t17 true) [] [],u (fun A J O=>cx w.params h g D1 D2 t17 t15 true) [] [],u (fun A J O=>cx w.params h g D2 4 t15 (J 42) true) [] [],u (fun A J O=>jp w.params h g (A 35) D1 D2 (J 5) t17 t15) [35] [],u (fun A J O=>bc w.params h g n K t1 (A 7) Qf (J 50)) [3,4] [3,4],u (fun A J O=>ly w.params h g (A 7) n K (J 51) (J 51) (A 40) (A 41) (J 52) (J 53) (J 54) (J 50) 2089 (J 51) (A 42) (A 70)) [42,70,3,4,40,41] [],u (fun A J O=>cx w.params h g 0 D1 (J 117) t17 true) [] [],u (fun A J O=>cx w.params h g D1 D2 t17 t15 true) [] [],u (fun A J O=>cx w.params h g D2 3 t15 (J 94) true) [] [],u (fun A J O=>cx w.params h g 3 3 (J 94) (J 94) true) [] [],u (fun A J O=>DG w.params h g D1 (J 103) t17) [] [],u (fun A J O=>Bp w.params h g D2 D1 t15 t17) [] [],u (fun A J O=>Bp w.params h g 3 D1 (J 94) t17) [] [],u (fun A J O=>cx w.params h g D1 D2 t17 t15 true) [] [],u (fun A J O=>cx w.params h g D2 4 t15 (J 130) true) [] [],u (fun A J O=>jp w.params h g (A 87) D1 D2 (J 131) t17 t15) [87] [],u (fun A J O=>cx w.params h g D1 D2 t17 t15 true) [] [],u (fun A J O=>cx w.params h g D2 3 t15 (J 133) true) [] [],u (fun A J O=>Bp w.params h g D2 D1 t15 t17) [] [],u (fun A J O=>Bp w.params h g 3 D1 (J 136) t17) [] []] [40] [51] (BI t1 hK 1 0) (aa (cA (vR _)) (aa (cA e1) (aa (cA e4) (aa (EI _ _ e1 e4 e0 e5) (aa (dv.2.1 hK (by omega)) (aa (dv.2.2.2 hK (by omega)) (aa (cA (vR _)) (aa (cA e1) (aa (cA e3) (aa (cA rfl) (aa Fa (aa (Eo e1) (aa (Eo e0) (aa (cA e1) (aa (cA e4) (aa (EI _ _ e1 e4 e0 e5) (aa (cA e1) (aa (cA e3) (aa (Eo e1) (aa (Eo e0) ao)))))))))))))))))))) ?_,
 fun {D1 D2} e1 e4 e3 e0 e5=>il 2209 (ce [AA,1174,cy,ae,jT,Bc,qh,nH,fX,0x1000630982215801138c813801,nH,lc,1277366466,cU,1148000,ae]) [u (fun A J O=>cx w.params h g 0 D1 (J 40) t17 true) [] [],u (fun A J O=>cx w.params h g D1 D2 t17 t15 true) [] [],u (fun A J O=>cx w.params h g D2 4 t15 (J 42) true) [] [],u (fun A J O=>jp w.params h g (A 35) D1 D2 (J 5) t17 t15) [35] [],u (fun A J O=>bc w.params h g n K t1 (A 7) Qf (J 50)) [3,4] [3,4],u (fun A J O=>ly w.params h g (A 7) n K (J 51) (J 51) (A 40) (A 41) (J 52) (J 53) (J 54) (J 50) 2089 (J 51) (A 42) (A 70)) [42,70,3,4,40,41] [],u (fun A J O=>cx w.params h g 0 D1 (J 117) t17 true) [] [],u (fun A J O=>cx w.params h g D1 D2 t17 t15 true) [] [],u (fun A J O=>cx w.params h g D2 3 t15 (J 94) false) [] [],u (fun A J O=>cx w.params h g D1 D2 t17 t15 true) [] [],u (fun A J O=>cx w.params h g D2 4 t15 (J 146) true) [] [],u (fun A J O=>jp w.params h g (A 98) D1 D2 (J 147) t17 t15) [98] [],u (fun A J O=>cx w.params h g D1 D2 t17 t15 true) [] [],u (fun A J O=>cx w.params h g D2 3 t15 (J 149) false) [] []] [40] [51] (BI t1 hK 1 0) (aa (cA (vR _)) (aa (cA e1) (aa (cA e4) (aa (EI _ _ e1 e4 e0 e5) (aa (dv.2.1 hK (by omega)) (aa (dv.2.2.2 hK (by omega)) (aa (cA (vR _)) (aa (cA e1) (aa (cA e3) (aa (cA e1) (aa (cA e4) (aa (EI _ _ e1 e4 e0 e5) (aa (cA e1) (aa (cA e3) ao)))))))))))))) ?_,
 fun {D1 D2} e1 e4 e3=>il 2494 (ce [B8,BV,1190,cy,Du,qh,nH,At,nH,lc,1294160082,cU,1156200,ae]) [u (fun A J O=>cx w.params h g 0 D1 (J 40) t17 true) [] [],u (fun A J O=>cx w.params h g D1 D2 t17 t15 true) [] [],u (fun A J O=>cx w.params h g D2 4 t15 (J 42) false) [] [],u (fun A J O=>bc w.params h g n K t1 (A 7) Qf (J 69)) [3,4] [3,4],u (fun A J O=>ly w.params h g (A 7) n K (J 70) (J 70) (A 48) (A 49) (J 71) (J 72) (J 73) (J 69) 2089 (J 70) (A 50) (A 78)) [50,78,3,4,48,49] [],u (fun A J O=>cx w.params h g 0 D1 (J 136) t17 true) [] [],u (fun A J O=>cx w.params h g D1 D2 t17 t15 true) [] [],u (fun A J O=>cx w.params h g D2 3 t15 (J 113) false) [] [],u (fun A J O=>cx w.params h g D1 D2 t17 t15 true) [] [],u (fun A J O=>cx w.params h g D2 4 t15 (J 165) false) [] [],u (fun A J O=>cx w.params h g D1 D2 t17 t15 true) [] [],u (fun A J O=>cx w.params h g D2 3 t15 (J 166) false) [] []] [48] [70] (BI t1 hK 1 0) (aa (cA (vR _)) (aa (cA e1) (aa (cA e4) (aa (dv.2.1 hK (by omega)) (aa (dv.2.2.2 hK (by omega)) (aa (cA (vR _)) (aa (cA e1) (aa (cA e3) (aa (cA e1) (aa (cA e4) (aa (cA e1) (aa (cA e3) ao)))))))))))) ?_⟩ <;> intro cb ν τ υ π ς ρ own past κ bl p <;> kernel_rfl
theorem vn {w:World} {h g L s R F n K t1 wd tt rw r2 t2 t3 t4 t5 t6 t7 t8 t9 t10 t11 t12 t13 t14 t15 t16 t17 t18 v1 t19 t20 v2 t21 v3 t22 v4 t23 v5} (hK:ag K=n) (hn:n≤900):(∀ {D1 D2:Nat},Nat.ble D1 D2=false→Aa w h g L s R F n K t1 wd tt rw r2 t2 t3 t4 t5 t6 t7 t8 t9 t10 t11 t12 t13 t14 t15 t16 t17 t18 v1 t19 t20 v2 t21 v3 t22 v4 t23 v5 D1 D2) ∧
 Aa w h g L s R F n K t1 wd tt rw r2 t2 t3 t4 t5 t6 t7 t8 t9 t10 t11 t12 t13 t14 t15 t16 t17 t18 v1 t19 t20 v2 t21 v3 t22 v4 t23 v5 0 4:=by
 refine ⟨fun {D1 D2} e1=>il 2462 (ce [w1,cy,1094,cy,BV,Du,qh,jo,1025,At,jo,1025,lc,1294160082,cU,1156200,ae]) [u (fun A J O=>cx w.params h g 0 D1 (J 40) t17 true) [] [],u (fun A J O=>cx w.params h g D1 D2 t17 t15 false) [] [],u (fun A J O=>bc w.params h g n K t1 (A 7) Qf (J 67)) [3,4] [3,4],u (fun A J O=>ly w.params h g (A 7) n K (J 68) (J 68) (A 48) (A 49) (J 69) (J 70) (J 71) (J 67) 2089 (J 68) (A 50) (A 78)) [50,78,3,4,48,49] [],u (fun A J O=>cx w.params h g 0 D1 (J 134) t17 true) [] [],u (fun A J O=>cx w.params h g D1 D2 t17 t15 false) [] [],u (fun A J O=>cx w.params h g D1 D2 t17 t15 false) [] [],u (fun A J O=>cx w.params h g D1 D2 t17 t15 false) [] []] [48] [68] (BI t1 hK 1 0) (aa (cA (vR _)) (aa (cA e1) (aa (dv.2.1 hK (by omega)) (aa (dv.2.2.2 hK (by omega)) (aa (cA (vR _)) (aa (cA e1) (aa (cA e1) (aa (cA e1) ao)))))))) ?_,
 il 2245 (ce [w1,ax,1094,ck,1094,cQ,1120326,jU,0x4481204812048,DW,1174,ax,1174,ax,1174,ck,jT,Bc,qh,jo,nJ,1050626,ae,0x40018c26088560044e3204e004c6318c6318c6,jo,nJ,0x4c2310c200402,cU,1148000,ae]) [u (fun A J O=>bc w.params h g n K t1 (A 7) Qf (J 49)) [3,4] [3,4],u (fun A J O=>ly w.params h g (A 7) n K (J 50) (J 50) (A 40) (A 41) (J 51) (J 52) (J 53) (J 49) 2089 (J 50) (A 42) (A 70)) [42,70,3,4,40,41] []] [40] [50] (BI t1 hK 1 0) (aa (dv.2.1 hK (by omega)) (aa (dv.2.2.2 hK (by omega)) ao)) ?_⟩ <;> intro cb ν τ υ π ς ρ own past κ bl p <;> kernel_rfl
theorem oX {w:World} {h g L s R F n K t1 wd tt rw r2 D1 D2 t2 t3 t4 t5 t6 t7 t8 t9 t10 t11 t12 t13 t14 t15 t16 t17 t18 v1 t19 t20 v2 t21 v3 t22 v4 t23 v5} (hK:ag K=n) (hn:n≤900) (h1:D1<4) (h2:D2<6):Aa w h g L s R F n K t1 wd tt rw r2 t2 t3 t4 t5 t6 t7 t8 t9 t10 t11 t12 t13 t14 t15 t16 t17 t18 v1 t19 t20 v2 t21 v3 t22 v4 t23 v5 D1 D2:=by
 have e0:Nat.ble D1 3=true:=Nat.ble_eq_true_of_le (Nat.le_of_lt_succ h1)
 cases e1:Nat.ble D1 D2 with
 | false=>exact (vn hK hn).1 e1
 | true =>
  cases e4:Nat.ble D2 4 with
  | false =>
   refine (qo hK hn).2.2 e1 e4 ?_
   cases e3:Nat.ble D2 3 with
   | false=>rfl
   | true=>rw [Nat.ble_eq_true_of_le (Nat.le_succ_of_le (Nat.le_of_ble_eq_true e3))] at e4; cases e4
  | true =>
   cases e3:Nat.ble D2 3 with
   | true=>exact (qo hK hn).1 e1 e4 e3 e0 (fun _=>e3)
   | false =>
    by_cases q:D1=0
    ·have:D2=4:=by
      have h4:=Nat.le_of_ble_eq_true e4
      rcases Nat.lt_or_ge D2 4 with z | z
      ·rw [Nat.ble_eq_true_of_le (Nat.le_of_lt_succ z)] at e3; cases e3
      ·exact Nat.le_antisymm h4 z
     subst q this
     exact (vn hK hn).2
    ·exact (qo hK hn).2.1 e1 e4 e3 e0 (fun z=>absurd z q)
noncomputable def Dz (w:World) (h g:Nat→Nat) (L:Nat) (s:Nat) (r:Nat) (er:Nat) (X0:Nat) (Y0:Nat) (R:V7) (F:V7) (n:Nat) (K:List (Nat × Value)) (t1:Nat) (ct:Nat) (ch:Nat) (tt:Nat) (t2:Nat) (t3:Nat) (t4:Nat) (t5:Nat) (v1:Value) (t6:Nat) (v2:Value) (t7:Nat) (v3:Value) (t8:Nat) (v4:Value) (t9:Nat) (v5:Value) (t10:Nat) (v6:Value) (t11:Nat) (t12:Nat):Prop:=Spec.HoldsT (BB w h g) 7 fun ρ=>(jh w.params h g L s r er X0 Y0 R F n K t1 ct ch tt t2 t3 t4 t5 v1 t6 v2 t7 v3 t8 v4 t9 v5 t10 v6 t11 t12 ρ).S
theorem mR {w:World} {h g L s r er X0 Y0 R F n K t1 ct ch tt t2 t3 t4 t5 v1 t6 v2 t7 v3 t8 v4 t9 v5 t10 v6 t11 t12} (hK:ag K=n) (hn:n≤900):(∀ {X1 Y1:Nat},a0 X0 Y0 4 0 X1 Y1→Dz w h g L s r er X0 Y0 R F n K t1 ct ch tt t2 t3 t4 t5 v1 t6 v2 t7 v3 t8 v4 t9 v5 t10 v6 t11 t12) ∧
 (∀ {X1 Y1:Nat},a0 X0 Y0 4 1 X1 Y1→Dz w h g L s r er X0 Y0 R F n K t1 ct ch tt t2 t3 t4 t5 v1 t6 v2 t7 v3 t8 v4 t9 v5 t10 v6 t11 t12) ∧
 (∀ {X1 Y1:Nat},a0 X0 Y0 4 2 X1 Y1→Dz w h g L s r er X0 Y0 R F n K t1 ct ch tt t2 t3 t4 t5 v1 t6 v2 t7 v3 t8 v4 t9 v5 t10 v6 t11 t12) ∧
 (∀ {X1 Y1:Nat},a0 X0 Y0 4 3 X1 Y1→Dz w h g L s r er X0 Y0 R F n K t1 ct ch tt t2 t3 t4 t5 v1 t6 v2 t7 v3 t8 v4 t9 v5 t10 v6 t11 t12):=by
 refine ⟨fun {X1 Y1} hD0=>il 687 (ce [Bq,jT,1069098,aw,1066,dW,1151051284480,cQ,0x4180c80006032,fN,1074,kr,1074228,yf,av,0x43000030000340d000,ae,0x10c0340d0170c030,yl,1073765376,ka,1124126772,yl,ae,ka,1124124722,yl,ae,ka,0x41e0f830004000341d05ffe0000d0481c05fff0000d0481300017ffc30000300c0000c030,r4,ae,0x10c01c0341c0001e0f830,gP,1072,ae,1072,r4,1132462128,jk,ae,1113499644956,kM,ax,0x4401084000402,cU,1081375,ae]) [u (fun A J O=>ah w.params h g (A 1) (A 2) 0 er X0 Y0 0 X1 Y1 4 t11 t12 (J 0)) [1,2] [1]] [] [2,3] (Es t1 hK X1 Y1 0 0 2) (aa (am (top:=4) hD0 (by decide) (by decide)) ao) ?_,
 fun {X1 Y1} hD0=>il 1040 (ce [zc]) [u (fun A J O=>ah w.params h g (A 1) (A 2) 0 er X0 Y0 1 X1 Y1 4 t11 t12 (J 0)) [1,2] [1],u (fun A J O=>kw w.params h g n K t1 (A 21) Qg (J 31) (J 53)) [5,6] [5,6],u (fun A J O=>iU w.params h g n K (J 56) (J 56) (A 28) (A 29) (J 57) (J 58) (J 59) (J 31) (J 53) (A 21) (A 20) (A 23) (A 24) (A 25) (J 35) (J 5) (J 37) (J 39) (J 41) (J 43) 0 (J 75) (J 76) (.ref (A 9)) (A 40) (A 30) (J 71) (J 72) (J 68) (J 73) (J 74) (A 39) (A 41) (J 30) (J 56) ⟨.none,R.2,R.3,R.4,R.5,R.6,R.7⟩ ⟨.none,F.2,F.3,F.4,F.5,F.6,F.7⟩ (J 77)) [23,24,25,40,39,41,30,3,4,5,6,28,29,21,20] [3,4],u (fun A J O=>iM w.params h g n K (J 56) (J 56) (A 28) (A 29) (J 57) (J 58) (J 59) (J 31) (J 53) (A 21) (A 20) (A 23) (A 24) (A 25) (J 35) (J 5) (J 37) (J 39) (J 41) (J 43) 0 (J 84) (J 85) (.ref (A 9)) (A 44) (A 30) (J 80) (J 81) (J 69) (J 82) (J 83) (A 43) (A 45) (J 30) (J 56) ⟨.none,(.int 0 (J 5)),R.3,R.4,R.5,R.6,R.7⟩ ⟨.none,(.bool true),F.3,F.4,F.5,F.6,F.7⟩ (J 86)) [23,24,25,44,43,45,30,3,4,5,6,28,29,21,20] [3,4]] [28] [2,3,56] (Es t1 hK X1 Y1 0 1 2) (aa (am (top:=4) hD0 (by decide) (by decide)) (aa (dv.2.2.1 hK (by omega)) (aa (fB.2.1 hK (by omega)) (aa (fB.2.2.1 hK (by omega)) ao)))) ?_,
 fun {X1 Y1} hD0=>il 1040 (ce [zc]) [u (fun A J O=>ah w.params h g (A 1) (A 2) 0 er X0 Y0 2 X1 Y1 4 t11 t12 (J 0)) [1,2] [1],u (fun A J O=>kw w.params h g n K t1 (A 21) Qg (J 31) (J 53)) [5,6] [5,6],u (fun A J O=>iU w.params h g n K (J 56) (J 56) (A 28) (A 29) (J 57) (J 58) (J 59) (J 31) (J 53) (A 21) (A 20) (A 23) (A 24) (A 25) (J 35) (J 5) (J 37) (J 39) (J 41) (J 43) 1 (J 75) (J 76) (.ref (A 9)) (A 40) (A 30) (J 71) (J 72) (J 68) (J 73) (J 74) (A 39) (A 41) (J 30) (J 56) ⟨.none,R.2,R.3,R.4,R.5,R.6,R.7⟩ ⟨.none,F.2,F.3,F.4,F.5,F.6,F.7⟩ (J 77)) [23,24,25,40,39,41,30,3,4,5,6,28,29,21,20] [3,4],u (fun A J O=>iM w.params h g n K (J 56) (J 56) (A 28) (A 29) (J 57) (J 58) (J 59) (J 31) (J 53) (A 21) (A 20) (A 23) (A 24) (A 25) (J 35) (J 5) (J 37) (J 39) (J 41) (J 43) 1 (J 84) (J 85) (.ref (A 9)) (A 44) (A 30) (J 80) (J 81) (J 69) (J 82) (J 83) (A 43) (A 45) (J 30) (J 56) ⟨.none,(.int 1 (J 5)),R.3,R.4,R.5,R.6,R.7⟩ ⟨.none,(.bool true),F.3,F.4,F.5,F.6,F.7⟩ (J 86)) [23,24,25,44,43,45,30,3,4,5,6,28,29,21,20] [3,4]] [28] [2,3,56] (Es t1 hK X1 Y1 0 1 2) (aa (am (top:=4) hD0 (by decide) (by decide)) (aa (dv.2.2.1 hK (by omega)) (aa (fB.2.1 hK (by omega)) (aa (fB.2.2.1 hK (by omega)) ao)))) ?_,
 fun {X1 Y1} hD0=>il 1040 (ce [zc]) [u (fun A J O=>ah w.params h g (A 1) (A 2) 0 er X0 Y0 3 X1 Y1 4 t11 t12 (J 0)) [1,2] [1],u (fun A J O=>kw w.params h g n K t1 (A 21) Qg (J 31) (J 53)) [5,6] [5,6],u (fun A J O=>iU w.params h g n K (J 56) (J 56) (A 28) (A 29) (J 57) (J 58) (J 59) (J 31) (J 53) (A 21) (A 20) (A 23) (A 24) (A 25) (J 35) (J 5) (J 37) (J 39) (J 41) (J 43) 2 (J 75) (J 76) (.ref (A 9)) (A 40) (A 30) (J 71) (J 72) (J 68) (J 73) (J 74) (A 39) (A 41) (J 30) (J 56) ⟨.none,R.2,R.3,R.4,R.5,R.6,R.7⟩ ⟨.none,F.2,F.3,F.4,F.5,F.6,F.7⟩ (J 77)) [23,24,25,40,39,41,30,3,4,5,6,28,29,21,20] [3,4],u (fun A J O=>iM w.params h g n K (J 56) (J 56) (A 28) (A 29) (J 57) (J 58) (J 59) (J 31) (J 53) (A 21) (A 20) (A 23) (A 24) (A 25) (J 35) (J 5) (J 37) (J 39) (J 41) (J 43) 2 (J 84) (J 85) (.ref (A 9)) (A 44) (A 30) (J 80) (J 81) (J 69) (J 82) (J 83) (A 43) (A 45) (J 30) (J 56) ⟨.none,(.int 2 (J 5)),R.3,R.4,R.5,R.6,R.7⟩ ⟨.none,(.bool true),F.3,F.4,F.5,F.6,F.7⟩ (J 86)) [23,24,25,44,43,45,30,3,4,5,6,28,29,21,20] [3,4]] [28] [2,3,56] (Es t1 hK X1 Y1 0 1 2) (aa (am (top:=4) hD0 (by decide) (by decide)) (aa (dv.2.2.1 hK (by omega)) (aa (fB.2.1 hK (by omega)) (aa (fB.2.2.1 hK (by omega)) ao)))) ?_⟩ <;> intro cb ν τ υ π ς ρ own past κ bl p <;> kernel_rfl
theorem jC {w:World} {h g L s r er X0 Y0 R F n K t1 ct ch tt t2 t3 t4 t5 v1 t6 v2 t7 v3 t8 v4 t9 v5 t10 v6 t11 t12} (hK:ag K=n) (hn:n≤900):Dz w h g L s r er X0 Y0 R F n K t1 ct ch tt t2 t3 t4 t5 v1 t6 v2 t7 v3 t8 v4 t9 v5 t10 v6 t11 t12 :=
 let ⟨d,X1,Y1,hd⟩:=a0.ex X0 Y0 4
 match d,hd.lt (by decide),hd with
 | 0,_,hd=>(mR hK hn).1 hd
 | 1,_,hd=>(mR hK hn).2.1 hd
 | 2,_,hd=>(mR hK hn).2.2.1 hd
 | 3,_,hd=>(mR hK hn).2.2.2 hd
noncomputable def FL (w:World) (h g:Nat→Nat) (L:Nat) (s:Nat) (r:Nat) (er:Nat) (X0:Nat) (Y0:Nat) (R:V7) (F:V7) (tt:Nat) (t1:Nat) (t2:Nat) (t3:Nat) (t4:Nat) (t5:Nat) (v1:Value) (t6:Nat) (t7:Nat) (v2:Value) (t8:Nat) (v3:Value) (t9:Nat) (v4:Value) (t10:Nat) (v5:Value) (t11:Nat) (v6:Value) (t12:Nat) (t13:Nat):Prop:=Spec.HoldsT (BB w h g) 7 fun ρ=>(h9 w.params h g L s r er X0 Y0 R F tt t1 t2 t3 t4 t5 v1 t6 t7 v2 t8 v3 t9 v4 t10 v5 t11 v6 t12 t13 ρ).S
theorem vg {w:World} {h g L s r er X0 Y0 R F tt t1 t2 t3 t4 t5 v1 t6 t7 v2 t8 v3 t9 v4 t10 v5 t11 v6 t12 t13}:(∀ {X1 Y1:Nat},a0 X0 Y0 2 0 X1 Y1→FL w h g L s r er X0 Y0 R F tt t1 t2 t3 t4 t5 v1 t6 t7 v2 t8 v3 t9 v4 t10 v5 t11 v6 t12 t13) ∧
 (∀ {X1 Y1:Nat},a0 X0 Y0 2 1 X1 Y1→FL w h g L s r er X0 Y0 R F tt t1 t2 t3 t4 t5 v1 t6 t7 v2 t8 v3 t9 v4 t10 v5 t11 v6 t12 t13):=by
 refine ⟨fun {X1 Y1} hD0=>il 1632 (ce [AI,tj,1128448,y4,tj,1128448,AK]) [u (fun A J O=>aJ w.params h g (A 1) (A 2) 0 er (A 9) 0 X0 Y0 0 X1 Y1 t12 t13 [.none,(.ref (A 8))]) [1,2,9] [1]] [] [4,5] (q9 X1 Y1 0) (aa (cK hD0) ao) ?_,
 fun {X1 Y1} hD0=>il 1632 (ce [AI,tj,1124352,y4,tj,1124352,AK]) [u (fun A J O=>aJ w.params h g (A 1) (A 2) 0 er (A 9) 0 X0 Y0 1 X1 Y1 t12 t13 [.none,(.ref (A 8))]) [1,2,9] [1]] [] [4,5] (q9 X1 Y1 0) (aa (cK hD0) ao) ?_⟩ <;> intro cb ν τ υ π ς ρ own past κ bl p <;> kernel_rfl
theorem jf {w:World} {h g L s r er X0 Y0 R F tt t1 t2 t3 t4 t5 v1 t6 t7 v2 t8 v3 t9 v4 t10 v5 t11 v6 t12 t13}:FL w h g L s r er X0 Y0 R F tt t1 t2 t3 t4 t5 v1 t6 t7 v2 t8 v3 t9 v4 t10 v5 t11 v6 t12 t13 :=
 let ⟨d,X1,Y1,hd⟩:=a0.ex X0 Y0 2
 match d,hd.lt (by decide),hd with
 | 0,_,hd=>vg.1 hd
 | 1,_,hd=>vg.2 hd
noncomputable def ry (w:World) (h g:Nat→Nat) (L:Nat) (s:Nat) (r:Nat) (er:Nat) (X0:Nat) (Y0:Nat) (R:V7) (F:V7) (tt:Nat) (t1:Nat) (t2:Nat) (t3:Nat) (t4:Nat) (t5:Nat) (v1:Value) (t6:Nat) (t7:Nat) (v2:Value) (t8:Nat) (v3:Value) (t9:Nat) (v4:Value) (t10:Nat) (t11:Nat):Prop:=Spec.HoldsT (BB w h g) 4 fun ρ=>(lh w.params h g L s r er X0 Y0 R F tt t1 t2 t3 t4 t5 v1 t6 t7 v2 t8 v3 t9 v4 t10 t11 ρ).S
theorem mT {w:World} {h g L s r er X0 Y0 R F tt t1 t2 t3 t4 t5 v1 t6 t7 v2 t8 v3 t9 v4 t10 t11}:(∀ {X1 Y1 X2 Y2:Nat},a0 X0 Y0 3 0 X1 Y1→a0 X1 Y1 3 0 X2 Y2→ry w h g L s r er X0 Y0 R F tt t1 t2 t3 t4 t5 v1 t6 t7 v2 t8 v3 t9 v4 t10 t11) ∧
 (∀ {X1 Y1 X2 Y2:Nat},a0 X0 Y0 3 0 X1 Y1→a0 X1 Y1 3 1 X2 Y2→ry w h g L s r er X0 Y0 R F tt t1 t2 t3 t4 t5 v1 t6 t7 v2 t8 v3 t9 v4 t10 t11) ∧
 (∀ {X1 Y1 X2 Y2:Nat},a0 X0 Y0 3 0 X1 Y1→a0 X1 Y1 3 2 X2 Y2→ry w h g L s r er X0 Y0 R F tt t1 t2 t3 t4 t5 v1 t6 t7 v2 t8 v3 t9 v4 t10 t11) ∧
 (∀ {X1 Y1 X2 Y2:Nat},a0 X0 Y0 3 1 X1 Y1→a0 X1 Y1 3 0 X2 Y2→ry w h g L s r er X0 Y0 R F tt t1 t2 t3 t4 t5 v1 t6 t7 v2 t8 v3 t9 v4 t10 t11):=by
 refine ⟨fun {X1 Y1 X2 Y2} hD0 hD1=>il 2100 (ce [uf,1168,lx,tq]) [u (fun A J O=>aJ w.params h g (A 1) (A 2) 0 er (A 6) 0 X0 Y0 0 X1 Y1 t10 t11 [(.int 127 (J 0)),(.int (-128) (J 2)),(.int 5 (J 3))]) [1,2,6] [1],u (fun A J O=>aJ w.params h g (A 1) (A 2) 0 er (A 7) 0 X1 Y1 0 X2 Y2 (J 4) (J 5) [(.int 1 (J 6)),(.int (-1) (J 8)),(.int 100 (J 9))]) [1,2,7] [1],uT (fun A J O ρ=>h9 w.params h g (A 0) (A 1) (A 2) er X2 Y2 (v7 (O 3)) (v7 (O 4)) (A 5) t1 t2 t3 t4 t5 v1 t6 t7 v2 t8 v3 t9 (.ref (A 36)) (J 12) (.int 1 (J 6)) (J 13) (.int 127 (J 0)) (J 10) (J 11) ρ) [0,1,2,3,4,5] [0,1,3,4] 1162 7] [] [] (q9 0 0 99) (aa (aI hD0) (aa (aI hD1) (dY jf ao))) ?_,
 fun {X1 Y1 X2 Y2} hD0 hD1=>il 2113 (ce [wJ]) [u (fun A J O=>aJ w.params h g (A 1) (A 2) 0 er (A 6) 0 X0 Y0 0 X1 Y1 t10 t11 [(.int 127 (J 0)),(.int (-128) (J 2)),(.int 5 (J 3))]) [1,2,6] [1],u (fun A J O=>aJ w.params h g (A 1) (A 2) 0 er (A 7) 0 X1 Y1 1 X2 Y2 (J 4) (J 5) [(.int 1 (J 6)),(.int (-1) (J 8)),(.int 100 (J 9))]) [1,2,7] [1],uT (fun A J O ρ=>h9 w.params h g (A 0) (A 1) (A 2) er X2 Y2 (v7 (O 3)) (v7 (O 4)) (A 5) t1 t2 t3 t4 t5 v1 t6 t7 v2 t8 v3 t9 (.ref (A 36)) (J 12) (.int (-1) (J 8)) (J 13) (.int 127 (J 0)) (J 10) (J 11) ρ) [0,1,2,3,4,5] [0,1,3,4] 1162 7] [] [] (q9 0 0 99) (aa (aI hD0) (aa (aI hD1) (dY jf ao))) ?_,
 fun {X1 Y1 X2 Y2} hD0 hD1=>il 2113 (ce [uf,sf]) [u (fun A J O=>aJ w.params h g (A 1) (A 2) 0 er (A 6) 0 X0 Y0 0 X1 Y1 t10 t11 [(.int 127 (J 0)),(.int (-128) (J 2)),(.int 5 (J 3))]) [1,2,6] [1],u (fun A J O=>aJ w.params h g (A 1) (A 2) 0 er (A 7) 0 X1 Y1 2 X2 Y2 (J 4) (J 5) [(.int 1 (J 6)),(.int (-1) (J 8)),(.int 100 (J 9))]) [1,2,7] [1],uT (fun A J O ρ=>h9 w.params h g (A 0) (A 1) (A 2) er X2 Y2 (v7 (O 3)) (v7 (O 4)) (A 5) t1 t2 t3 t4 t5 v1 t6 t7 v2 t8 v3 t9 (.ref (A 36)) (J 12) (.int 100 (J 9)) (J 13) (.int 127 (J 0)) (J 10) (J 11) ρ) [0,1,2,3,4,5] [0,1,3,4] 1162 7] [] [] (q9 0 0 99) (aa (aI hD0) (aa (aI hD1) (dY jf ao))) ?_,
 fun {X1 Y1 X2 Y2} hD0 hD1=>il 2113 (ce [uf,sf]) [u (fun A J O=>aJ w.params h g (A 1) (A 2) 0 er (A 6) 0 X0 Y0 1 X1 Y1 t10 t11 [(.int 127 (J 0)),(.int (-128) (J 2)),(.int 5 (J 3))]) [1,2,6] [1],u (fun A J O=>aJ w.params h g (A 1) (A 2) 0 er (A 7) 0 X1 Y1 0 X2 Y2 (J 4) (J 5) [(.int 1 (J 6)),(.int (-1) (J 8)),(.int 100 (J 9))]) [1,2,7] [1],uT (fun A J O ρ=>h9 w.params h g (A 0) (A 1) (A 2) er X2 Y2 (v7 (O 3)) (v7 (O 4)) (A 5) t1 t2 t3 t4 t5 v1 t6 t7 v2 t8 v3 t9 (.ref (A 36)) (J 12) (.int 1 (J 6)) (J 13) (.int (-128) (J 2)) (J 10) (J 11) ρ) [0,1,2,3,4,5] [0,1,3,4] 1162 7] [] [] (q9 0 0 99) (aa (aI hD0) (aa (aI hD1) (dY jf ao))) ?_⟩ <;> intro cb ν τ υ π ς ρ own past κ bl p <;> kernel_rfl
theorem mU {w:World} {h g L s r er X0 Y0 R F tt t1 t2 t3 t4 t5 v1 t6 t7 v2 t8 v3 t9 v4 t10 t11}:(∀ {X1 Y1 X2 Y2:Nat},a0 X0 Y0 3 1 X1 Y1→a0 X1 Y1 3 1 X2 Y2→ry w h g L s r er X0 Y0 R F tt t1 t2 t3 t4 t5 v1 t6 t7 v2 t8 v3 t9 v4 t10 t11) ∧
 (∀ {X1 Y1 X2 Y2:Nat},a0 X0 Y0 3 1 X1 Y1→a0 X1 Y1 3 2 X2 Y2→ry w h g L s r er X0 Y0 R F tt t1 t2 t3 t4 t5 v1 t6 t7 v2 t8 v3 t9 v4 t10 t11) ∧
 (∀ {X1 Y1 X2 Y2:Nat},a0 X0 Y0 3 2 X1 Y1→a0 X1 Y1 3 0 X2 Y2→ry w h g L s r er X0 Y0 R F tt t1 t2 t3 t4 t5 v1 t6 t7 v2 t8 v3 t9 v4 t10 t11) ∧
 (∀ {X1 Y1 X2 Y2:Nat},a0 X0 Y0 3 2 X1 Y1→a0 X1 Y1 3 1 X2 Y2→ry w h g L s r er X0 Y0 R F tt t1 t2 t3 t4 t5 v1 t6 t7 v2 t8 v3 t9 v4 t10 t11):=by
 refine ⟨fun {X1 Y1 X2 Y2} hD0 hD1=>il 2113 (ce [wJ]) [u (fun A J O=>aJ w.params h g (A 1) (A 2) 0 er (A 6) 0 X0 Y0 1 X1 Y1 t10 t11 [(.int 127 (J 0)),(.int (-128) (J 2)),(.int 5 (J 3))]) [1,2,6] [1],u (fun A J O=>aJ w.params h g (A 1) (A 2) 0 er (A 7) 0 X1 Y1 1 X2 Y2 (J 4) (J 5) [(.int 1 (J 6)),(.int (-1) (J 8)),(.int 100 (J 9))]) [1,2,7] [1],uT (fun A J O ρ=>h9 w.params h g (A 0) (A 1) (A 2) er X2 Y2 (v7 (O 3)) (v7 (O 4)) (A 5) t1 t2 t3 t4 t5 v1 t6 t7 v2 t8 v3 t9 (.ref (A 36)) (J 12) (.int (-1) (J 8)) (J 13) (.int (-128) (J 2)) (J 10) (J 11) ρ) [0,1,2,3,4,5] [0,1,3,4] 1162 7] [] [] (q9 0 0 99) (aa (aI hD0) (aa (aI hD1) (dY jf ao))) ?_,
 fun {X1 Y1 X2 Y2} hD0 hD1=>il 2100 (ce [uf,1168,lx,tq]) [u (fun A J O=>aJ w.params h g (A 1) (A 2) 0 er (A 6) 0 X0 Y0 1 X1 Y1 t10 t11 [(.int 127 (J 0)),(.int (-128) (J 2)),(.int 5 (J 3))]) [1,2,6] [1],u (fun A J O=>aJ w.params h g (A 1) (A 2) 0 er (A 7) 0 X1 Y1 2 X2 Y2 (J 4) (J 5) [(.int 1 (J 6)),(.int (-1) (J 8)),(.int 100 (J 9))]) [1,2,7] [1],uT (fun A J O ρ=>h9 w.params h g (A 0) (A 1) (A 2) er X2 Y2 (v7 (O 3)) (v7 (O 4)) (A 5) t1 t2 t3 t4 t5 v1 t6 t7 v2 t8 v3 t9 (.ref (A 36)) (J 12) (.int 100 (J 9)) (J 13) (.int (-128) (J 2)) (J 10) (J 11) ρ) [0,1,2,3,4,5] [0,1,3,4] 1162 7] [] [] (q9 0 0 99) (aa (aI hD0) (aa (aI hD1) (dY jf ao))) ?_,
 fun {X1 Y1 X2 Y2} hD0 hD1=>il 2087 (ce [xi,wR,1168,lx,tq]) [u (fun A J O=>aJ w.params h g (A 1) (A 2) 0 er (A 6) 0 X0 Y0 2 X1 Y1 t10 t11 [(.int 127 (J 0)),(.int (-128) (J 2)),(.int 5 (J 3))]) [1,2,6] [1],u (fun A J O=>aJ w.params h g (A 1) (A 2) 0 er (A 7) 0 X1 Y1 0 X2 Y2 (J 4) (J 5) [(.int 1 (J 6)),(.int (-1) (J 8)),(.int 100 (J 9))]) [1,2,7] [1],uT (fun A J O ρ=>h9 w.params h g (A 0) (A 1) (A 2) er X2 Y2 (v7 (O 3)) (v7 (O 4)) (A 5) t1 t2 t3 t4 t5 v1 t6 t7 v2 t8 v3 t9 (.ref (A 36)) (J 12) (.int 1 (J 6)) (J 13) (.int 5 (J 3)) (J 10) (J 11) ρ) [0,1,2,3,4,5] [0,1,3,4] 1162 7] [] [] (q9 0 0 99) (aa (aI hD0) (aa (aI hD1) (dY jf ao))) ?_,
 fun {X1 Y1 X2 Y2} hD0 hD1=>il 2100 (ce [xi,wR,sf]) [u (fun A J O=>aJ w.params h g (A 1) (A 2) 0 er (A 6) 0 X0 Y0 2 X1 Y1 t10 t11 [(.int 127 (J 0)),(.int (-128) (J 2)),(.int 5 (J 3))]) [1,2,6] [1],u (fun A J O=>aJ w.params h g (A 1) (A 2) 0 er (A 7) 0 X1 Y1 1 X2 Y2 (J 4) (J 5) [(.int 1 (J 6)),(.int (-1) (J 8)),(.int 100 (J 9))]) [1,2,7] [1],uT (fun A J O ρ=>h9 w.params h g (A 0) (A 1) (A 2) er X2 Y2 (v7 (O 3)) (v7 (O 4)) (A 5) t1 t2 t3 t4 t5 v1 t6 t7 v2 t8 v3 t9 (.ref (A 36)) (J 12) (.int (-1) (J 8)) (J 13) (.int 5 (J 3)) (J 10) (J 11) ρ) [0,1,2,3,4,5] [0,1,3,4] 1162 7] [] [] (q9 0 0 99) (aa (aI hD0) (aa (aI hD1) (dY jf ao))) ?_⟩ <;> intro cb ν τ υ π ς ρ own past κ bl p <;> kernel_rfl
theorem Cv {w:World} {h g L s r er X0 Y0 R F tt t1 t2 t3 t4 t5 v1 t6 t7 v2 t8 v3 t9 v4 t10 t11}:(∀ {X1 Y1 X2 Y2:Nat},a0 X0 Y0 3 2 X1 Y1→a0 X1 Y1 3 2 X2 Y2→ry w h g L s r er X0 Y0 R F tt t1 t2 t3 t4 t5 v1 t6 t7 v2 t8 v3 t9 v4 t10 t11):=by
 refine fun {X1 Y1 X2 Y2} hD0 hD1=>il 2113 (ce [wJ]) [u (fun A J O=>aJ w.params h g (A 1) (A 2) 0 er (A 6) 0 X0 Y0 2 X1 Y1 t10 t11 [(.int 127 (J 0)),(.int (-128) (J 2)),(.int 5 (J 3))]) [1,2,6] [1],u (fun A J O=>aJ w.params h g (A 1) (A 2) 0 er (A 7) 0 X1 Y1 2 X2 Y2 (J 4) (J 5) [(.int 1 (J 6)),(.int (-1) (J 8)),(.int 100 (J 9))]) [1,2,7] [1],uT (fun A J O ρ=>h9 w.params h g (A 0) (A 1) (A 2) er X2 Y2 (v7 (O 3)) (v7 (O 4)) (A 5) t1 t2 t3 t4 t5 v1 t6 t7 v2 t8 v3 t9 (.ref (A 36)) (J 12) (.int 100 (J 9)) (J 13) (.int 5 (J 3)) (J 10) (J 11) ρ) [0,1,2,3,4,5] [0,1,3,4] 1162 7] [] [] (q9 0 0 99) (aa (aI hD0) (aa (aI hD1) (dY jf ao))) ?_ <;> intro cb ν τ υ π ς ρ own past κ bl p <;> kernel_rfl
theorem n7 {w:World} {h g L s r er X0 Y0 R F tt t1 t2 t3 t4 t5 v1 t6 t7 v2 t8 v3 t9 v4 t10 t11}:ry w h g L s r er X0 Y0 R F tt t1 t2 t3 t4 t5 v1 t6 t7 v2 t8 v3 t9 v4 t10 t11 :=
 let ⟨d,X1,Y1,hd⟩:=a0.ex X0 Y0 3
 let ⟨e,X2,Y2,he⟩:=a0.ex X1 Y1 3
 match d,hd.lt (by decide),hd with
 | 0,_,hd=>match e,he.lt (by decide),he with
  | 0,_,he=>mT.1 hd he
  | 1,_,he=>mT.2.1 hd he
  | 2,_,he=>mT.2.2.1 hd he
 | 1,_,hd=>match e,he.lt (by decide),he with
  | 0,_,he=>mT.2.2.2 hd he
  | 1,_,he=>mU.1 hd he
  | 2,_,he=>mU.2.1 hd he
 | 2,_,hd=>match e,he.lt (by decide),he with
  | 0,_,he=>mU.2.2.1 hd he
  | 1,_,he=>mU.2.2.2 hd he
  | 2,_,he=>Cv hd he
end
section
open PySem.SeqAt
theorem bX {w h g s r er X0 Y0 tx ty R F n K t1} (hK:ag K=n) (hn:n≤900):(∀ {D0 X1 Y1 X2 Y2 X3 Y3 X4 Y4:Nat},a0 X0 Y0 4 D0 X1 Y1→a0 X1 Y1 5 0 X2 Y2→a0 X2 Y2 4 0 X3 Y3→a0 X3 Y3 4 0 X4 Y4→CE w h g s r er X0 Y0 tx ty R F n K t1 1520) ∧
 (∀ {D0 X1 Y1 X2 Y2 X3 Y3 X4 Y4:Nat},a0 X0 Y0 4 D0 X1 Y1→a0 X1 Y1 5 0 X2 Y2→a0 X2 Y2 4 1 X3 Y3→a0 X3 Y3 4 0 X4 Y4→CE w h g s r er X0 Y0 tx ty R F n K t1 1520) ∧
 (∀ {D0 X1 Y1 X2 Y2 X3 Y3 X4 Y4:Nat},a0 X0 Y0 4 D0 X1 Y1→a0 X1 Y1 5 0 X2 Y2→a0 X2 Y2 4 2 X3 Y3→a0 X3 Y3 4 0 X4 Y4→CE w h g s r er X0 Y0 tx ty R F n K t1 1520) ∧
 (∀ {D0 X1 Y1 X2 Y2 X3 Y3 X4 Y4:Nat},a0 X0 Y0 4 D0 X1 Y1→a0 X1 Y1 5 0 X2 Y2→a0 X2 Y2 4 3 X3 Y3→a0 X3 Y3 4 0 X4 Y4→CE w h g s r er X0 Y0 tx ty R F n K t1 1520) ∧
 (∀ {D0 X1 Y1 X2 Y2 D2 X3 Y3 X4 Y4:Nat},a0 X0 Y0 4 D0 X1 Y1→a0 X1 Y1 5 0 X2 Y2→a0 X2 Y2 4 D2 X3 Y3→a0 X3 Y3 4 1 X4 Y4→CE w h g s r er X0 Y0 tx ty R F n K t1 1520) ∧
 (∀ {D0 X1 Y1 X2 Y2 X3 Y3 X4 Y4:Nat},a0 X0 Y0 4 D0 X1 Y1→a0 X1 Y1 5 1 X2 Y2→a0 X2 Y2 4 0 X3 Y3→a0 X3 Y3 4 0 X4 Y4→CE w h g s r er X0 Y0 tx ty R F n K t1 1520) ∧
 (∀ {D0 X1 Y1 X2 Y2 X3 Y3 X4 Y4:Nat},a0 X0 Y0 4 D0 X1 Y1→a0 X1 Y1 5 1 X2 Y2→a0 X2 Y2 4 1 X3 Y3→a0 X3 Y3 4 0 X4 Y4→CE w h g s r er X0 Y0 tx ty R F n K t1 1520) ∧
 (∀ {D0 X1 Y1 X2 Y2 X3 Y3 X4 Y4:Nat},a0 X0 Y0 4 D0 X1 Y1→a0 X1 Y1 5 1 X2 Y2→a0 X2 Y2 4 2 X3 Y3→a0 X3 Y3 4 0 X4 Y4→CE w h g s r er X0 Y0 tx ty R F n K t1 1520) ∧
 (∀ {D0 X1 Y1 X2 Y2 X3 Y3 X4 Y4:Nat},a0 X0 Y0 4 D0 X1 Y1→a0 X1 Y1 5 1 X2 Y2→a0 X2 Y2 4 3 X3 Y3→a0 X3 Y3 4 0 X4 Y4→CE w h g s r er X0 Y0 tx ty R F n K t1 1520) ∧
 (∀ {D0 X1 Y1 X2 Y2 D2 X3 Y3 X4 Y4:Nat},a0 X0 Y0 4 D0 X1 Y1→a0 X1 Y1 5 1 X2 Y2→a0 X2 Y2 4 D2 X3 Y3→a0 X3 Y3 4 1 X4 Y4→CE w h g s r er X0 Y0 tx ty R F n K t1 1520) ∧
 (∀ {D0 X1 Y1 X2 Y2 X3 Y3 X4 Y4:Nat},a0 X0 Y0 4 D0 X1 Y1→a0 X1 Y1 5 2 X2 Y2→a0 X2 Y2 4 0 X3 Y3→a0 X3 Y3 4 0 X4 Y4→CE w h g s r er X0 Y0 tx ty R F n K t1 1520) ∧
 (∀ {D0 X1 Y1 X2 Y2 X3 Y3 X4 Y4:Nat},a0 X0 Y0 4 D0 X1 Y1→a0 X1 Y1 5 2 X2 Y2→a0 X2 Y2 4 1 X3 Y3→a0 X3 Y3 4 0 X4 Y4→CE w h g s r er X0 Y0 tx ty R F n K t1 1520) ∧
 (∀ {D0 X1 Y1 X2 Y2 X3 Y3 X4 Y4:Nat},a0 X0 Y0 4 D0 X1 Y1→a0 X1 Y1 5 2 X2 Y2→a0 X2 Y2 4 2 X3 Y3→a0 X3 Y3 4 0 X4 Y4→CE w h g s r er X0 Y0 tx ty R F n K t1 1520) ∧
 (∀ {D0 X1 Y1 X2 Y2 X3 Y3 X4 Y4:Nat},a0 X0 Y0 4 D0 X1 Y1→a0 X1 Y1 5 2 X2 Y2→a0 X2 Y2 4 3 X3 Y3→a0 X3 Y3 4 0 X4 Y4→CE w h g s r er X0 Y0 tx ty R F n K t1 1520):=by
 refine ⟨fun {D0 X1 Y1 X2 Y2 X3 Y3 X4 Y4} hD0 hD1 hD2 hD3=>ba 527 (ce [yo]) [u (fun A J O=>ay w.params h g (A 0) (A 1) 0 er (A 10) 0 X0 Y0 D0 X1 Y1 tx ty #[] #[97,195,169] #[255,226,130,172] #[120,121,122] (J 3) (J 4) (J 5) (J 6)) [0,1,10] [0],u (fun A J O=>aA w.params h g (A 0) (A 1) 0 er (A 23) 0 X1 Y1 0 X2 Y2 (J 7) (J 8) 65 8364 (-1) 300 1099511627776 (J 19) (J 20) (J 22) (J 23) (J 26)) [0,1,23] [0],u (fun A J O=>az w.params h g (A 0) (A 1) 0 er (A 24) 0 X2 Y2 0 X3 Y3 (J 27) (J 28) Q0 Q4 Q2 Q3 (J 30) (J 31) (J 32) (J 33)) [0,1,24] [0],u (fun A J O=>ah w.params h g (A 0) (A 1) 0 er X3 Y3 0 X4 Y4 4 (J 34) (J 35) (J 37)) [0,1] [0]] [] [39,40] (b9 t1 hK X4 Y4 0 0 2) (aa (aC hD0) (aa (aD hD1) (aa (aF hD2) (aa (am (top:=4) hD3 (by decide) (by decide)) ao)))) ?_,
 fun {D0 X1 Y1 X2 Y2 X3 Y3 X4 Y4} hD0 hD1 hD2 hD3=>ba 506 (ce [oB]) [u (fun A J O=>ay w.params h g (A 0) (A 1) 0 er (A 10) 0 X0 Y0 D0 X1 Y1 tx ty #[] #[97,195,169] #[255,226,130,172] #[120,121,122] (J 3) (J 4) (J 5) (J 6)) [0,1,10] [0],u (fun A J O=>aA w.params h g (A 0) (A 1) 0 er (A 23) 0 X1 Y1 0 X2 Y2 (J 7) (J 8) 65 8364 (-1) 300 1099511627776 (J 19) (J 20) (J 22) (J 23) (J 26)) [0,1,23] [0],u (fun A J O=>az w.params h g (A 0) (A 1) 0 er (A 24) 0 X2 Y2 1 X3 Y3 (J 27) (J 28) Q0 Q4 Q2 Q3 (J 30) (J 31) (J 32) (J 33)) [0,1,24] [0],u (fun A J O=>ah w.params h g (A 0) (A 1) 0 er X3 Y3 0 X4 Y4 4 (J 34) (J 35) (J 37)) [0,1] [0]] [] [39,40] (b9 t1 hK X4 Y4 0 0 2) (aa (aC hD0) (aa (aD hD1) (aa (aF hD2) (aa (am (top:=4) hD3 (by decide) (by decide)) ao)))) ?_,
 fun {D0 X1 Y1 X2 Y2 X3 Y3 X4 Y4} hD0 hD1 hD2 hD3=>ba 527 (ce [sp]) [u (fun A J O=>ay w.params h g (A 0) (A 1) 0 er (A 10) 0 X0 Y0 D0 X1 Y1 tx ty #[] #[97,195,169] #[255,226,130,172] #[120,121,122] (J 3) (J 4) (J 5) (J 6)) [0,1,10] [0],u (fun A J O=>aA w.params h g (A 0) (A 1) 0 er (A 23) 0 X1 Y1 0 X2 Y2 (J 7) (J 8) 65 8364 (-1) 300 1099511627776 (J 19) (J 20) (J 22) (J 23) (J 26)) [0,1,23] [0],u (fun A J O=>az w.params h g (A 0) (A 1) 0 er (A 24) 0 X2 Y2 2 X3 Y3 (J 27) (J 28) Q0 Q4 Q2 Q3 (J 30) (J 31) (J 32) (J 33)) [0,1,24] [0],u (fun A J O=>ah w.params h g (A 0) (A 1) 0 er X3 Y3 0 X4 Y4 4 (J 34) (J 35) (J 37)) [0,1] [0]] [] [39,40] (b9 t1 hK X4 Y4 0 0 2) (aa (aC hD0) (aa (aD hD1) (aa (aF hD2) (aa (am (top:=4) hD3 (by decide) (by decide)) ao)))) ?_,
 fun {D0 X1 Y1 X2 Y2 X3 Y3 X4 Y4} hD0 hD1 hD2 hD3=>ba 506 (ce [pm]) [u (fun A J O=>ay w.params h g (A 0) (A 1) 0 er (A 10) 0 X0 Y0 D0 X1 Y1 tx ty #[] #[97,195,169] #[255,226,130,172] #[120,121,122] (J 3) (J 4) (J 5) (J 6)) [0,1,10] [0],u (fun A J O=>aA w.params h g (A 0) (A 1) 0 er (A 23) 0 X1 Y1 0 X2 Y2 (J 7) (J 8) 65 8364 (-1) 300 1099511627776 (J 19) (J 20) (J 22) (J 23) (J 26)) [0,1,23] [0],u (fun A J O=>az w.params h g (A 0) (A 1) 0 er (A 24) 0 X2 Y2 3 X3 Y3 (J 27) (J 28) Q0 Q4 Q2 Q3 (J 30) (J 31) (J 32) (J 33)) [0,1,24] [0],u (fun A J O=>ah w.params h g (A 0) (A 1) 0 er X3 Y3 0 X4 Y4 4 (J 34) (J 35) (J 37)) [0,1] [0]] [] [39,40] (b9 t1 hK X4 Y4 0 0 2) (aa (aC hD0) (aa (aD hD1) (aa (aF hD2) (aa (am (top:=4) hD3 (by decide) (by decide)) ao)))) ?_,
 fun {D0 X1 Y1 X2 Y2 D2 X3 Y3 X4 Y4} hD0 hD1 hD2 hD3=>ba 1179 (ce [wC,fi,ck,1118,av,0x462188621886218862,ak,0x1000621886400062,ov,0x400198321983119062,ov,0x4661a83119062,lT,1092,av,CJ,0x4701d0700040e0e0721c802088380dc360143f,dT,1073800247]) [u (fun A J O=>ay w.params h g (A 0) (A 1) 0 er (A 10) 0 X0 Y0 D0 X1 Y1 tx ty #[] #[97,195,169] #[255,226,130,172] #[120,121,122] (J 3) (J 4) (J 5) (J 6)) [0,1,10] [0],u (fun A J O=>aA w.params h g (A 0) (A 1) 0 er (A 23) 0 X1 Y1 0 X2 Y2 (J 7) (J 8) 65 8364 (-1) 300 1099511627776 (J 19) (J 20) (J 22) (J 23) (J 26)) [0,1,23] [0],u (fun A J O=>az w.params h g (A 0) (A 1) 0 er (A 24) 0 X2 Y2 D2 X3 Y3 (J 27) (J 28) Q0 Q4 Q2 Q3 (J 30) (J 31) (J 32) (J 33)) [0,1,24] [0],u (fun A J O=>ah w.params h g (A 0) (A 1) 0 er X3 Y3 1 X4 Y4 4 (J 34) (J 35) (J 37)) [0,1] [0]] [] [39,40] (b9 t1 hK X4 Y4 0 0 2) (aa (aC hD0) (aa (aD hD1) (aa (aF hD2) (aa (am (top:=4) hD3 (by decide) (by decide)) ao)))) ?_,
 fun {D0 X1 Y1 X2 Y2 X3 Y3 X4 Y4} hD0 hD1 hD2 hD3=>ba 540 (ce [lz,1138688,wm]) [u (fun A J O=>ay w.params h g (A 0) (A 1) 0 er (A 10) 0 X0 Y0 D0 X1 Y1 tx ty #[] #[97,195,169] #[255,226,130,172] #[120,121,122] (J 3) (J 4) (J 5) (J 6)) [0,1,10] [0],u (fun A J O=>aA w.params h g (A 0) (A 1) 0 er (A 23) 0 X1 Y1 1 X2 Y2 (J 7) (J 8) 65 8364 (-1) 300 1099511627776 (J 19) (J 20) (J 22) (J 23) (J 26)) [0,1,23] [0],u (fun A J O=>az w.params h g (A 0) (A 1) 0 er (A 24) 0 X2 Y2 0 X3 Y3 (J 27) (J 28) Q0 Q4 Q2 Q3 (J 30) (J 31) (J 32) (J 33)) [0,1,24] [0],u (fun A J O=>ah w.params h g (A 0) (A 1) 0 er X3 Y3 0 X4 Y4 4 (J 34) (J 35) (J 37)) [0,1] [0]] [] [39,40] (b9 t1 hK X4 Y4 0 0 2) (aa (aC hD0) (aa (aD hD1) (aa (aF hD2) (aa (am (top:=4) hD3 (by decide) (by decide)) ao)))) ?_,
 fun {D0 X1 Y1 X2 Y2 X3 Y3 X4 Y4} hD0 hD1 hD2 hD3=>ba 506 (ce [oB]) [u (fun A J O=>ay w.params h g (A 0) (A 1) 0 er (A 10) 0 X0 Y0 D0 X1 Y1 tx ty #[] #[97,195,169] #[255,226,130,172] #[120,121,122] (J 3) (J 4) (J 5) (J 6)) [0,1,10] [0],u (fun A J O=>aA w.params h g (A 0) (A 1) 0 er (A 23) 0 X1 Y1 1 X2 Y2 (J 7) (J 8) 65 8364 (-1) 300 1099511627776 (J 19) (J 20) (J 22) (J 23) (J 26)) [0,1,23] [0],u (fun A J O=>az w.params h g (A 0) (A 1) 0 er (A 24) 0 X2 Y2 1 X3 Y3 (J 27) (J 28) Q0 Q4 Q2 Q3 (J 30) (J 31) (J 32) (J 33)) [0,1,24] [0],u (fun A J O=>ah w.params h g (A 0) (A 1) 0 er X3 Y3 0 X4 Y4 4 (J 34) (J 35) (J 37)) [0,1] [0]] [] [39,40] (b9 t1 hK X4 Y4 0 0 2) (aa (aC hD0) (aa (aD hD1) (aa (aF hD2) (aa (am (top:=4) hD3 (by decide) (by decide)) ao)))) ?_,
 fun {D0 X1 Y1 X2 Y2 X3 Y3 X4 Y4} hD0 hD1 hD2 hD3=>ba 527 (ce [sp]) [u (fun A J O=>ay w.params h g (A 0) (A 1) 0 er (A 10) 0 X0 Y0 D0 X1 Y1 tx ty #[] #[97,195,169] #[255,226,130,172] #[120,121,122] (J 3) (J 4) (J 5) (J 6)) [0,1,10] [0],u (fun A J O=>aA w.params h g (A 0) (A 1) 0 er (A 23) 0 X1 Y1 1 X2 Y2 (J 7) (J 8) 65 8364 (-1) 300 1099511627776 (J 19) (J 20) (J 22) (J 23) (J 26)) [0,1,23] [0],u (fun A J O=>az w.params h g (A 0) (A 1) 0 er (A 24) 0 X2 Y2 2 X3 Y3 (J 27) (J 28) Q0 Q4 Q2 Q3 (J 30) (J 31) (J 32) (J 33)) [0,1,24] [0],u (fun A J O=>ah w.params h g (A 0) (A 1) 0 er X3 Y3 0 X4 Y4 4 (J 34) (J 35) (J 37)) [0,1] [0]] [] [39,40] (b9 t1 hK X4 Y4 0 0 2) (aa (aC hD0) (aa (aD hD1) (aa (aF hD2) (aa (am (top:=4) hD3 (by decide) (by decide)) ao)))) ?_,
 fun {D0 X1 Y1 X2 Y2 X3 Y3 X4 Y4} hD0 hD1 hD2 hD3=>ba 506 (ce [pm]) [u (fun A J O=>ay w.params h g (A 0) (A 1) 0 er (A 10) 0 X0 Y0 D0 X1 Y1 tx ty #[] #[97,195,169] #[255,226,130,172] #[120,121,122] (J 3) (J 4) (J 5) (J 6)) [0,1,10] [0],u (fun A J O=>aA w.params h g (A 0) (A 1) 0 er (A 23) 0 X1 Y1 1 X2 Y2 (J 7) (J 8) 65 8364 (-1) 300 1099511627776 (J 19) (J 20) (J 22) (J 23) (J 26)) [0,1,23] [0],u (fun A J O=>az w.params h g (A 0) (A 1) 0 er (A 24) 0 X2 Y2 3 X3 Y3 (J 27) (J 28) Q0 Q4 Q2 Q3 (J 30) (J 31) (J 32) (J 33)) [0,1,24] [0],u (fun A J O=>ah w.params h g (A 0) (A 1) 0 er X3 Y3 0 X4 Y4 4 (J 34) (J 35) (J 37)) [0,1] [0]] [] [39,40] (b9 t1 hK X4 Y4 0 0 2) (aa (aC hD0) (aa (aD hD1) (aa (aF hD2) (aa (am (top:=4) hD3 (by decide) (by decide)) ao)))) ?_,
 fun {D0 X1 Y1 X2 Y2 D2 X3 Y3 X4 Y4} hD0 hD1 hD2 hD3=>ba 1496 (ce [wC,fi,fi,fi,x5]) [u (fun A J O=>ay w.params h g (A 0) (A 1) 0 er (A 10) 0 X0 Y0 D0 X1 Y1 tx ty #[] #[97,195,169] #[255,226,130,172] #[120,121,122] (J 3) (J 4) (J 5) (J 6)) [0,1,10] [0],u (fun A J O=>aA w.params h g (A 0) (A 1) 0 er (A 23) 0 X1 Y1 1 X2 Y2 (J 7) (J 8) 65 8364 (-1) 300 1099511627776 (J 19) (J 20) (J 22) (J 23) (J 26)) [0,1,23] [0],u (fun A J O=>az w.params h g (A 0) (A 1) 0 er (A 24) 0 X2 Y2 D2 X3 Y3 (J 27) (J 28) Q0 Q4 Q2 Q3 (J 30) (J 31) (J 32) (J 33)) [0,1,24] [0],u (fun A J O=>ah w.params h g (A 0) (A 1) 0 er X3 Y3 1 X4 Y4 4 (J 34) (J 35) (J 37)) [0,1] [0]] [] [39,40] (b9 t1 hK X4 Y4 0 0 2) (aa (aC hD0) (aa (aD hD1) (aa (aF hD2) (aa (am (top:=4) hD3 (by decide) (by decide)) ao)))) ?_,
 fun {D0 X1 Y1 X2 Y2 X3 Y3 X4 Y4} hD0 hD1 hD2 hD3=>ba 540 (ce [lz,1138688,wm]) [u (fun A J O=>ay w.params h g (A 0) (A 1) 0 er (A 10) 0 X0 Y0 D0 X1 Y1 tx ty #[] #[97,195,169] #[255,226,130,172] #[120,121,122] (J 3) (J 4) (J 5) (J 6)) [0,1,10] [0],u (fun A J O=>aA w.params h g (A 0) (A 1) 0 er (A 23) 0 X1 Y1 2 X2 Y2 (J 7) (J 8) 65 8364 (-1) 300 1099511627776 (J 19) (J 20) (J 22) (J 23) (J 26)) [0,1,23] [0],u (fun A J O=>az w.params h g (A 0) (A 1) 0 er (A 24) 0 X2 Y2 0 X3 Y3 (J 27) (J 28) Q0 Q4 Q2 Q3 (J 30) (J 31) (J 32) (J 33)) [0,1,24] [0],u (fun A J O=>ah w.params h g (A 0) (A 1) 0 er X3 Y3 0 X4 Y4 4 (J 34) (J 35) (J 37)) [0,1] [0]] [] [39,40] (b9 t1 hK X4 Y4 0 0 2) (aa (aC hD0) (aa (aD hD1) (aa (aF hD2) (aa (am (top:=4) hD3 (by decide) (by decide)) ao)))) ?_,
 fun {D0 X1 Y1 X2 Y2 X3 Y3 X4 Y4} hD0 hD1 hD2 hD3=>ba 506 (ce [oB]) [u (fun A J O=>ay w.params h g (A 0) (A 1) 0 er (A 10) 0 X0 Y0 D0 X1 Y1 tx ty #[] #[97,195,169] #[255,226,130,172] #[120,121,122] (J 3) (J 4) (J 5) (J 6)) [0,1,10] [0],u (fun A J O=>aA w.params h g (A 0) (A 1) 0 er (A 23) 0 X1 Y1 2 X2 Y2 (J 7) (J 8) 65 8364 (-1) 300 1099511627776 (J 19) (J 20) (J 22) (J 23) (J 26)) [0,1,23] [0],u (fun A J O=>az w.params h g (A 0) (A 1) 0 er (A 24) 0 X2 Y2 1 X3 Y3 (J 27) (J 28) Q0 Q4 Q2 Q3 (J 30) (J 31) (J 32) (J 33)) [0,1,24] [0],u (fun A J O=>ah w.params h g (A 0) (A 1) 0 er X3 Y3 0 X4 Y4 4 (J 34) (J 35) (J 37)) [0,1] [0]] [] [39,40] (b9 t1 hK X4 Y4 0 0 2) (aa (aC hD0) (aa (aD hD1) (aa (aF hD2) (aa (am (top:=4) hD3 (by decide) (by decide)) ao)))) ?_,
 fun {D0 X1 Y1 X2 Y2 X3 Y3 X4 Y4} hD0 hD1 hD2 hD3=>ba 540 (ce [lz,1140736,wm]) [u (fun A J O=>ay w.params h g (A 0) (A 1) 0 er (A 10) 0 X0 Y0 D0 X1 Y1 tx ty #[] #[97,195,169] #[255,226,130,172] #[120,121,122] (J 3) (J 4) (J 5) (J 6)) [0,1,10] [0],u (fun A J O=>aA w.params h g (A 0) (A 1) 0 er (A 23) 0 X1 Y1 2 X2 Y2 (J 7) (J 8) 65 8364 (-1) 300 1099511627776 (J 19) (J 20) (J 22) (J 23) (J 26)) [0,1,23] [0],u (fun A J O=>az w.params h g (A 0) (A 1) 0 er (A 24) 0 X2 Y2 2 X3 Y3 (J 27) (J 28) Q0 Q4 Q2 Q3 (J 30) (J 31) (J 32) (J 33)) [0,1,24] [0],u (fun A J O=>ah w.params h g (A 0) (A 1) 0 er X3 Y3 0 X4 Y4 4 (J 34) (J 35) (J 37)) [0,1] [0]] [] [39,40] (b9 t1 hK X4 Y4 0 0 2) (aa (aC hD0) (aa (aD hD1) (aa (aF hD2) (aa (am (top:=4) hD3 (by decide) (by decide)) ao)))) ?_,
 fun {D0 X1 Y1 X2 Y2 X3 Y3 X4 Y4} hD0 hD1 hD2 hD3=>ba 506 (ce [pm]) [u (fun A J O=>ay w.params h g (A 0) (A 1) 0 er (A 10) 0 X0 Y0 D0 X1 Y1 tx ty #[] #[97,195,169] #[255,226,130,172] #[120,121,122] (J 3) (J 4) (J 5) (J 6)) [0,1,10] [0],u (fun A J O=>aA w.params h g (A 0) (A 1) 0 er (A 23) 0 X1 Y1 2 X2 Y2 (J 7) (J 8) 65 8364 (-1) 300 1099511627776 (J 19) (J 20) (J 22) (J 23) (J 26)) [0,1,23] [0],u (fun A J O=>az w.params h g (A 0) (A 1) 0 er (A 24) 0 X2 Y2 3 X3 Y3 (J 27) (J 28) Q0 Q4 Q2 Q3 (J 30) (J 31) (J 32) (J 33)) [0,1,24] [0],u (fun A J O=>ah w.params h g (A 0) (A 1) 0 er X3 Y3 0 X4 Y4 4 (J 34) (J 35) (J 37)) [0,1] [0]] [] [39,40] (b9 t1 hK X4 Y4 0 0 2) (aa (aC hD0) (aa (aD hD1) (aa (aF hD2) (aa (am (top:=4) hD3 (by decide) (by decide)) ao)))) ?_⟩ <;> intro cb ν τ υ π ς ρ own past κ bl p <;> kernel_rfl
theorem cH {w h g s r er X0 Y0 tx ty R F n K t1} (hK:ag K=n) (hn:n≤900):(∀ {D0 X1 Y1 X2 Y2 D2 X3 Y3 X4 Y4:Nat},a0 X0 Y0 4 D0 X1 Y1→a0 X1 Y1 5 2 X2 Y2→a0 X2 Y2 4 D2 X3 Y3→a0 X3 Y3 4 1 X4 Y4→CE w h g s r er X0 Y0 tx ty R F n K t1 1520) ∧
 (∀ {D0 X1 Y1 X2 Y2 X3 Y3 X4 Y4:Nat},a0 X0 Y0 4 D0 X1 Y1→a0 X1 Y1 5 3 X2 Y2→a0 X2 Y2 4 0 X3 Y3→a0 X3 Y3 4 0 X4 Y4→CE w h g s r er X0 Y0 tx ty R F n K t1 1520) ∧
 (∀ {D0 X1 Y1 X2 Y2 X3 Y3 X4 Y4:Nat},a0 X0 Y0 4 D0 X1 Y1→a0 X1 Y1 5 3 X2 Y2→a0 X2 Y2 4 1 X3 Y3→a0 X3 Y3 4 0 X4 Y4→CE w h g s r er X0 Y0 tx ty R F n K t1 1520) ∧
 (∀ {D0 X1 Y1 X2 Y2 X3 Y3 X4 Y4:Nat},a0 X0 Y0 4 D0 X1 Y1→a0 X1 Y1 5 3 X2 Y2→a0 X2 Y2 4 2 X3 Y3→a0 X3 Y3 4 0 X4 Y4→CE w h g s r er X0 Y0 tx ty R F n K t1 1520) ∧
 (∀ {D0 X1 Y1 X2 Y2 X3 Y3 X4 Y4:Nat},a0 X0 Y0 4 D0 X1 Y1→a0 X1 Y1 5 3 X2 Y2→a0 X2 Y2 4 3 X3 Y3→a0 X3 Y3 4 0 X4 Y4→CE w h g s r er X0 Y0 tx ty R F n K t1 1520) ∧
 (∀ {D0 X1 Y1 X2 Y2 D2 X3 Y3 X4 Y4:Nat},a0 X0 Y0 4 D0 X1 Y1→a0 X1 Y1 5 3 X2 Y2→a0 X2 Y2 4 D2 X3 Y3→a0 X3 Y3 4 1 X4 Y4→CE w h g s r er X0 Y0 tx ty R F n K t1 1520) ∧
 (∀ {D0 X1 Y1 X2 Y2 X3 Y3 X4 Y4:Nat},a0 X0 Y0 4 D0 X1 Y1→a0 X1 Y1 5 4 X2 Y2→a0 X2 Y2 4 0 X3 Y3→a0 X3 Y3 4 0 X4 Y4→CE w h g s r er X0 Y0 tx ty R F n K t1 1520) ∧
 (∀ {D0 X1 Y1 X2 Y2 X3 Y3 X4 Y4:Nat},a0 X0 Y0 4 D0 X1 Y1→a0 X1 Y1 5 4 X2 Y2→a0 X2 Y2 4 1 X3 Y3→a0 X3 Y3 4 0 X4 Y4→CE w h g s r er X0 Y0 tx ty R F n K t1 1520) ∧
 (∀ {D0 X1 Y1 X2 Y2 X3 Y3 X4 Y4:Nat},a0 X0 Y0 4 D0 X1 Y1→a0 X1 Y1 5 4 X2 Y2→a0 X2 Y2 4 2 X3 Y3→a0 X3 Y3 4 0 X4 Y4→CE w h g s r er X0 Y0 tx ty R F n K t1 1520) ∧
 (∀ {D0 X1 Y1 X2 Y2 X3 Y3 X4 Y4:Nat},a0 X0 Y0 4 D0 X1 Y1→a0 X1 Y1 5 4 X2 Y2→a0 X2 Y2 4 3 X3 Y3→a0 X3 Y3 4 0 X4 Y4→CE w h g s r er X0 Y0 tx ty R F n K t1 1520) ∧
 (∀ {D0 X1 Y1 X2 Y2 D2 X3 Y3 X4 Y4:Nat},a0 X0 Y0 4 D0 X1 Y1→a0 X1 Y1 5 4 X2 Y2→a0 X2 Y2 4 D2 X3 Y3→a0 X3 Y3 4 1 X4 Y4→CE w h g s r er X0 Y0 tx ty R F n K t1 1520):=by
 refine ⟨fun {D0 X1 Y1 X2 Y2 D2 X3 Y3 X4 Y4} hD0 hD1 hD2 hD3=>ba 1463 (ce [qR,kU,jl,1038,bh,1038,og,gy,1038,bh,1054734,xO,bh,1172355166,fi,fi,x5]) [u (fun A J O=>ay w.params h g (A 0) (A 1) 0 er (A 10) 0 X0 Y0 D0 X1 Y1 tx ty #[] #[97,195,169] #[255,226,130,172] #[120,121,122] (J 3) (J 4) (J 5) (J 6)) [0,1,10] [0],u (fun A J O=>aA w.params h g (A 0) (A 1) 0 er (A 23) 0 X1 Y1 2 X2 Y2 (J 7) (J 8) 65 8364 (-1) 300 1099511627776 (J 19) (J 20) (J 22) (J 23) (J 26)) [0,1,23] [0],u (fun A J O=>az w.params h g (A 0) (A 1) 0 er (A 24) 0 X2 Y2 D2 X3 Y3 (J 27) (J 28) Q0 Q4 Q2 Q3 (J 30) (J 31) (J 32) (J 33)) [0,1,24] [0],u (fun A J O=>ah w.params h g (A 0) (A 1) 0 er X3 Y3 1 X4 Y4 4 (J 34) (J 35) (J 37)) [0,1] [0]] [] [39,40] (b9 t1 hK X4 Y4 0 0 2) (aa (aC hD0) (aa (aD hD1) (aa (aF hD2) (aa (am (top:=4) hD3 (by decide) (by decide)) ao)))) ?_,
 fun {D0 X1 Y1 X2 Y2 X3 Y3 X4 Y4} hD0 hD1 hD2 hD3=>ba 527 (ce [yo]) [u (fun A J O=>ay w.params h g (A 0) (A 1) 0 er (A 10) 0 X0 Y0 D0 X1 Y1 tx ty #[] #[97,195,169] #[255,226,130,172] #[120,121,122] (J 3) (J 4) (J 5) (J 6)) [0,1,10] [0],u (fun A J O=>aA w.params h g (A 0) (A 1) 0 er (A 23) 0 X1 Y1 3 X2 Y2 (J 7) (J 8) 65 8364 (-1) 300 1099511627776 (J 19) (J 20) (J 22) (J 23) (J 26)) [0,1,23] [0],u (fun A J O=>az w.params h g (A 0) (A 1) 0 er (A 24) 0 X2 Y2 0 X3 Y3 (J 27) (J 28) Q0 Q4 Q2 Q3 (J 30) (J 31) (J 32) (J 33)) [0,1,24] [0],u (fun A J O=>ah w.params h g (A 0) (A 1) 0 er X3 Y3 0 X4 Y4 4 (J 34) (J 35) (J 37)) [0,1] [0]] [] [39,40] (b9 t1 hK X4 Y4 0 0 2) (aa (aC hD0) (aa (aD hD1) (aa (aF hD2) (aa (am (top:=4) hD3 (by decide) (by decide)) ao)))) ?_,
 fun {D0 X1 Y1 X2 Y2 X3 Y3 X4 Y4} hD0 hD1 hD2 hD3=>ba 506 (ce [oB]) [u (fun A J O=>ay w.params h g (A 0) (A 1) 0 er (A 10) 0 X0 Y0 D0 X1 Y1 tx ty #[] #[97,195,169] #[255,226,130,172] #[120,121,122] (J 3) (J 4) (J 5) (J 6)) [0,1,10] [0],u (fun A J O=>aA w.params h g (A 0) (A 1) 0 er (A 23) 0 X1 Y1 3 X2 Y2 (J 7) (J 8) 65 8364 (-1) 300 1099511627776 (J 19) (J 20) (J 22) (J 23) (J 26)) [0,1,23] [0],u (fun A J O=>az w.params h g (A 0) (A 1) 0 er (A 24) 0 X2 Y2 1 X3 Y3 (J 27) (J 28) Q0 Q4 Q2 Q3 (J 30) (J 31) (J 32) (J 33)) [0,1,24] [0],u (fun A J O=>ah w.params h g (A 0) (A 1) 0 er X3 Y3 0 X4 Y4 4 (J 34) (J 35) (J 37)) [0,1] [0]] [] [39,40] (b9 t1 hK X4 Y4 0 0 2) (aa (aC hD0) (aa (aD hD1) (aa (aF hD2) (aa (am (top:=4) hD3 (by decide) (by decide)) ao)))) ?_,
 fun {D0 X1 Y1 X2 Y2 X3 Y3 X4 Y4} hD0 hD1 hD2 hD3=>ba 527 (ce [sp]) [u (fun A J O=>ay w.params h g (A 0) (A 1) 0 er (A 10) 0 X0 Y0 D0 X1 Y1 tx ty #[] #[97,195,169] #[255,226,130,172] #[120,121,122] (J 3) (J 4) (J 5) (J 6)) [0,1,10] [0],u (fun A J O=>aA w.params h g (A 0) (A 1) 0 er (A 23) 0 X1 Y1 3 X2 Y2 (J 7) (J 8) 65 8364 (-1) 300 1099511627776 (J 19) (J 20) (J 22) (J 23) (J 26)) [0,1,23] [0],u (fun A J O=>az w.params h g (A 0) (A 1) 0 er (A 24) 0 X2 Y2 2 X3 Y3 (J 27) (J 28) Q0 Q4 Q2 Q3 (J 30) (J 31) (J 32) (J 33)) [0,1,24] [0],u (fun A J O=>ah w.params h g (A 0) (A 1) 0 er X3 Y3 0 X4 Y4 4 (J 34) (J 35) (J 37)) [0,1] [0]] [] [39,40] (b9 t1 hK X4 Y4 0 0 2) (aa (aC hD0) (aa (aD hD1) (aa (aF hD2) (aa (am (top:=4) hD3 (by decide) (by decide)) ao)))) ?_,
 fun {D0 X1 Y1 X2 Y2 X3 Y3 X4 Y4} hD0 hD1 hD2 hD3=>ba 506 (ce [pm]) [u (fun A J O=>ay w.params h g (A 0) (A 1) 0 er (A 10) 0 X0 Y0 D0 X1 Y1 tx ty #[] #[97,195,169] #[255,226,130,172] #[120,121,122] (J 3) (J 4) (J 5) (J 6)) [0,1,10] [0],u (fun A J O=>aA w.params h g (A 0) (A 1) 0 er (A 23) 0 X1 Y1 3 X2 Y2 (J 7) (J 8) 65 8364 (-1) 300 1099511627776 (J 19) (J 20) (J 22) (J 23) (J 26)) [0,1,23] [0],u (fun A J O=>az w.params h g (A 0) (A 1) 0 er (A 24) 0 X2 Y2 3 X3 Y3 (J 27) (J 28) Q0 Q4 Q2 Q3 (J 30) (J 31) (J 32) (J 33)) [0,1,24] [0],u (fun A J O=>ah w.params h g (A 0) (A 1) 0 er X3 Y3 0 X4 Y4 4 (J 34) (J 35) (J 37)) [0,1] [0]] [] [39,40] (b9 t1 hK X4 Y4 0 0 2) (aa (aC hD0) (aa (aD hD1) (aa (aF hD2) (aa (am (top:=4) hD3 (by decide) (by decide)) ao)))) ?_,
 fun {D0 X1 Y1 X2 Y2 D2 X3 Y3 X4 Y4} hD0 hD1 hD2 hD3=>ba 1417 (ce [wC,fi,fi,D4,CU,DX]) [u (fun A J O=>ay w.params h g (A 0) (A 1) 0 er (A 10) 0 X0 Y0 D0 X1 Y1 tx ty #[] #[97,195,169] #[255,226,130,172] #[120,121,122] (J 3) (J 4) (J 5) (J 6)) [0,1,10] [0],u (fun A J O=>aA w.params h g (A 0) (A 1) 0 er (A 23) 0 X1 Y1 3 X2 Y2 (J 7) (J 8) 65 8364 (-1) 300 1099511627776 (J 19) (J 20) (J 22) (J 23) (J 26)) [0,1,23] [0],u (fun A J O=>az w.params h g (A 0) (A 1) 0 er (A 24) 0 X2 Y2 D2 X3 Y3 (J 27) (J 28) Q0 Q4 Q2 Q3 (J 30) (J 31) (J 32) (J 33)) [0,1,24] [0],u (fun A J O=>ah w.params h g (A 0) (A 1) 0 er X3 Y3 1 X4 Y4 4 (J 34) (J 35) (J 37)) [0,1] [0]] [] [39,40] (b9 t1 hK X4 Y4 0 0 2) (aa (aC hD0) (aa (aD hD1) (aa (aF hD2) (aa (am (top:=4) hD3 (by decide) (by decide)) ao)))) ?_,
 fun {D0 X1 Y1 X2 Y2 X3 Y3 X4 Y4} hD0 hD1 hD2 hD3=>ba 527 (ce [yo]) [u (fun A J O=>ay w.params h g (A 0) (A 1) 0 er (A 10) 0 X0 Y0 D0 X1 Y1 tx ty #[] #[97,195,169] #[255,226,130,172] #[120,121,122] (J 3) (J 4) (J 5) (J 6)) [0,1,10] [0],u (fun A J O=>aA w.params h g (A 0) (A 1) 0 er (A 23) 0 X1 Y1 4 X2 Y2 (J 7) (J 8) 65 8364 (-1) 300 1099511627776 (J 19) (J 20) (J 22) (J 23) (J 26)) [0,1,23] [0],u (fun A J O=>az w.params h g (A 0) (A 1) 0 er (A 24) 0 X2 Y2 0 X3 Y3 (J 27) (J 28) Q0 Q4 Q2 Q3 (J 30) (J 31) (J 32) (J 33)) [0,1,24] [0],u (fun A J O=>ah w.params h g (A 0) (A 1) 0 er X3 Y3 0 X4 Y4 4 (J 34) (J 35) (J 37)) [0,1] [0]] [] [39,40] (b9 t1 hK X4 Y4 0 0 2) (aa (aC hD0) (aa (aD hD1) (aa (aF hD2) (aa (am (top:=4) hD3 (by decide) (by decide)) ao)))) ?_,
 fun {D0 X1 Y1 X2 Y2 X3 Y3 X4 Y4} hD0 hD1 hD2 hD3=>ba 506 (ce [oB]) [u (fun A J O=>ay w.params h g (A 0) (A 1) 0 er (A 10) 0 X0 Y0 D0 X1 Y1 tx ty #[] #[97,195,169] #[255,226,130,172] #[120,121,122] (J 3) (J 4) (J 5) (J 6)) [0,1,10] [0],u (fun A J O=>aA w.params h g (A 0) (A 1) 0 er (A 23) 0 X1 Y1 4 X2 Y2 (J 7) (J 8) 65 8364 (-1) 300 1099511627776 (J 19) (J 20) (J 22) (J 23) (J 26)) [0,1,23] [0],u (fun A J O=>az w.params h g (A 0) (A 1) 0 er (A 24) 0 X2 Y2 1 X3 Y3 (J 27) (J 28) Q0 Q4 Q2 Q3 (J 30) (J 31) (J 32) (J 33)) [0,1,24] [0],u (fun A J O=>ah w.params h g (A 0) (A 1) 0 er X3 Y3 0 X4 Y4 4 (J 34) (J 35) (J 37)) [0,1] [0]] [] [39,40] (b9 t1 hK X4 Y4 0 0 2) (aa (aC hD0) (aa (aD hD1) (aa (aF hD2) (aa (am (top:=4) hD3 (by decide) (by decide)) ao)))) ?_,
 fun {D0 X1 Y1 X2 Y2 X3 Y3 X4 Y4} hD0 hD1 hD2 hD3=>ba 527 (ce [sp]) [u (fun A J O=>ay w.params h g (A 0) (A 1) 0 er (A 10) 0 X0 Y0 D0 X1 Y1 tx ty #[] #[97,195,169] #[255,226,130,172] #[120,121,122] (J 3) (J 4) (J 5) (J 6)) [0,1,10] [0],u (fun A J O=>aA w.params h g (A 0) (A 1) 0 er (A 23) 0 X1 Y1 4 X2 Y2 (J 7) (J 8) 65 8364 (-1) 300 1099511627776 (J 19) (J 20) (J 22) (J 23) (J 26)) [0,1,23] [0],u (fun A J O=>az w.params h g (A 0) (A 1) 0 er (A 24) 0 X2 Y2 2 X3 Y3 (J 27) (J 28) Q0 Q4 Q2 Q3 (J 30) (J 31) (J 32) (J 33)) [0,1,24] [0],u (fun A J O=>ah w.params h g (A 0) (A 1) 0 er X3 Y3 0 X4 Y4 4 (J 34) (J 35) (J 37)) [0,1] [0]] [] [39,40] (b9 t1 hK X4 Y4 0 0 2) (aa (aC hD0) (aa (aD hD1) (aa (aF hD2) (aa (am (top:=4) hD3 (by decide) (by decide)) ao)))) ?_,
 fun {D0 X1 Y1 X2 Y2 X3 Y3 X4 Y4} hD0 hD1 hD2 hD3=>ba 506 (ce [pm]) [u (fun A J O=>ay w.params h g (A 0) (A 1) 0 er (A 10) 0 X0 Y0 D0 X1 Y1 tx ty #[] #[97,195,169] #[255,226,130,172] #[120,121,122] (J 3) (J 4) (J 5) (J 6)) [0,1,10] [0],u (fun A J O=>aA w.params h g (A 0) (A 1) 0 er (A 23) 0 X1 Y1 4 X2 Y2 (J 7) (J 8) 65 8364 (-1) 300 1099511627776 (J 19) (J 20) (J 22) (J 23) (J 26)) [0,1,23] [0],u (fun A J O=>az w.params h g (A 0) (A 1) 0 er (A 24) 0 X2 Y2 3 X3 Y3 (J 27) (J 28) Q0 Q4 Q2 Q3 (J 30) (J 31) (J 32) (J 33)) [0,1,24] [0],u (fun A J O=>ah w.params h g (A 0) (A 1) 0 er X3 Y3 0 X4 Y4 4 (J 34) (J 35) (J 37)) [0,1] [0]] [] [39,40] (b9 t1 hK X4 Y4 0 0 2) (aa (aC hD0) (aa (aD hD1) (aa (aF hD2) (aa (am (top:=4) hD3 (by decide) (by decide)) ao)))) ?_,
 fun {D0 X1 Y1 X2 Y2 D2 X3 Y3 X4 Y4} hD0 hD1 hD2 hD3=>ba 1476 (ce [C0,bh,1054734,xO,iN,1172355166,fi,fi,x5]) [u (fun A J O=>ay w.params h g (A 0) (A 1) 0 er (A 10) 0 X0 Y0 D0 X1 Y1 tx ty #[] #[97,195,169] #[255,226,130,172] #[120,121,122] (J 3) (J 4) (J 5) (J 6)) [0,1,10] [0],u (fun A J O=>aA w.params h g (A 0) (A 1) 0 er (A 23) 0 X1 Y1 4 X2 Y2 (J 7) (J 8) 65 8364 (-1) 300 1099511627776 (J 19) (J 20) (J 22) (J 23) (J 26)) [0,1,23] [0],u (fun A J O=>az w.params h g (A 0) (A 1) 0 er (A 24) 0 X2 Y2 D2 X3 Y3 (J 27) (J 28) Q0 Q4 Q2 Q3 (J 30) (J 31) (J 32) (J 33)) [0,1,24] [0],u (fun A J O=>ah w.params h g (A 0) (A 1) 0 er X3 Y3 1 X4 Y4 4 (J 34) (J 35) (J 37)) [0,1] [0]] [] [39,40] (b9 t1 hK X4 Y4 0 0 2) (aa (aC hD0) (aa (aD hD1) (aa (aF hD2) (aa (am (top:=4) hD3 (by decide) (by decide)) ao)))) ?_⟩ <;> intro cb ν τ υ π ς ρ own past κ bl p <;> kernel_rfl
theorem oJ {w h g s r er X0 Y0 tx ty R F n K t1} (hK:ag K=n) (hn:n≤900):(∀ {X1 Y1 D1 X2 Y2 D2 X3 Y3 X4 Y4:Nat},a0 X0 Y0 4 0 X1 Y1→a0 X1 Y1 5 D1 X2 Y2→a0 X2 Y2 4 D2 X3 Y3→a0 X3 Y3 4 2 X4 Y4→CE w h g s r er X0 Y0 tx ty R F n K t1 1520) ∧
 (∀ {X1 Y1 D1 X2 Y2 D2 X3 Y3 X4 Y4:Nat},a0 X0 Y0 4 0 X1 Y1→a0 X1 Y1 5 D1 X2 Y2→a0 X2 Y2 4 D2 X3 Y3→a0 X3 Y3 4 3 X4 Y4→CE w h g s r er X0 Y0 tx ty R F n K t1 1520) ∧
 (∀ {X1 Y1 D1 X2 Y2 D2 X3 Y3 X4 Y4:Nat},a0 X0 Y0 4 1 X1 Y1→a0 X1 Y1 5 D1 X2 Y2→a0 X2 Y2 4 D2 X3 Y3→a0 X3 Y3 4 2 X4 Y4→CE w h g s r er X0 Y0 tx ty R F n K t1 1520):=by
 refine ⟨fun {X1 Y1 D1 X2 Y2 D2 X3 Y3 X4 Y4} hD0 hD1 hD2 hD3=>ba 2336 (ce [ww,xn,xQ,sj,0x4840f0840040e2188a,gQ,1092645953,iv,1249982427276,xW,1222787214,kb,1121350,kD,1124502,ez,ez,1202176,fy,0x11309a0049a26800268002689a,nz,0x44c268012689a,nz,0x12784c268012689a,ez,1231105176,b8,1202328,ai,De,br,1184,nB,1172,e8,1212576,ec,yp,aX,1186,nB,1172,bY,1214536,bq,1186,nB,0x1288100043700094,bq,1186,nB,1172,dK,1245876388,ak,0x400298a6000a4,kW,1188,rk,1188,rk,1188,rk,0x4002a852298a4,oZ,1243693218,aX,1186,nB,1214612,b8,1243777186,ai,yF,0x4ac000552b000,dl,1196,dl,1196,kg,1196,dl,1196,gB,bh,1196,br,1196,c3,1284284526592,bq,1196,sk,1081520,cU,1137679,av,1196,av,1286525335726,tD,0x4b2000ae2b8b2,q7,0x4b42e0582c8ae,lT,1174,av,0x12e8ba2e8002e8002e8ba,ak,0x117cc03000212c5f1785d0143f2f0ba2e8ba000ba,rH,1273170110,dT,1074888798]) [u (fun A J O=>ay w.params h g (A 0) (A 1) 0 er (A 10) 0 X0 Y0 0 X1 Y1 tx ty #[] #[97,195,169] #[255,226,130,172] #[120,121,122] (J 3) (J 4) (J 5) (J 6)) [0,1,10] [0],u (fun A J O=>aA w.params h g (A 0) (A 1) 0 er (A 23) 0 X1 Y1 D1 X2 Y2 (J 7) (J 8) 65 8364 (-1) 300 1099511627776 (J 19) (J 20) (J 22) (J 23) (J 26)) [0,1,23] [0],u (fun A J O=>az w.params h g (A 0) (A 1) 0 er (A 24) 0 X2 Y2 D2 X3 Y3 (J 27) (J 28) Q0 Q4 Q2 Q3 (J 30) (J 31) (J 32) (J 33)) [0,1,24] [0],u (fun A J O=>ah w.params h g (A 0) (A 1) 0 er X3 Y3 2 X4 Y4 4 (J 34) (J 35) (J 37)) [0,1] [0],u (fun A J O=>bc w.params h g n K t1 (A 52) Qa (J 95)) [4,5] [4,5],u (fun A J O=>lL w.params h g 0 (A 52) n K (J 96) (J 96) (A 56) (A 57) (J 97) (J 98) (J 99) (J 95) 2089 (J 93) (J 96) (J 100) (J 102) (J 104) (A 58)) [52,58,4,5,56,57] []] [56] [39,40,96] (b9 t1 hK X4 Y4 0 1 2) (aa (aC hD0) (aa (aD hD1) (aa (aF hD2) (aa (am (top:=4) hD3 (by decide) (by decide)) (aa (dv.2.1 hK (by omega)) (aa l0.1 ao)))))) ?_,
 fun {X1 Y1 D1 X2 Y2 D2 X3 Y3 X4 Y4} hD0 hD1 hD2 hD3=>ba 2457 (ce [sK,gM,1104153660,j8,0x1100440743c0f03c,DZ,tU,0x11f87e1f8001f8001f87e,ak,0x48200082000822088210484210020a4411003f014402007e1f87e0007e,nn,0x47c0007c0007c1f07c,av,Dj,1143999624,fj,0x48a0f88a0040e230902208822000,gQ,0x124892248921f0001f0001f07c1f01207844,rJ,1229084820,kb,1124425,kD,0x1270001349c0004d270001349c,fy,0x1004a02800028000280a0,tT,1025,tT,0x12704e2784d270002904f28001,b8,1208478,ai,1132710,iV,1218560,br,1190,lp,e8,1218726,ec,qQ,1279900339368,aX,1192,lp,bY,1220683,bq,1235380392,nz,0x12a012004370009a,bq,1192,lp,dK,1252173994,ak,1254097066,sT,sT,sT,sT,1048752,qQ,1249987752,aX,1192,lp,1192,b8,1250074792,ai,1138866,kL,kL,kL,1230848,dl,1202,dl,1202,dB,ax,1202,dl,1202,dB,bh,1202,br,1202,gR,iK,bq,1202,uW,1206,p3,1114,fh,1202,ai,0x12d0b42e00016cb8,ak,0x45c00cba000b4,qX,0x4be3085c2e8b4,ae,1140314009788,cT,1180,av,1073942724,pH,1220,ak,pH,0x1190ca328021386418c620143f318c4,uB,0x1340d4194cc0f8cc33000330003306500ccc,ae,1259726,ae,1314484592641,dT,1073850467]) [u (fun A J O=>ay w.params h g (A 0) (A 1) 0 er (A 10) 0 X0 Y0 0 X1 Y1 tx ty #[] #[97,195,169] #[255,226,130,172] #[120,121,122] (J 3) (J 4) (J 5) (J 6)) [0,1,10] [0],u (fun A J O=>aA w.params h g (A 0) (A 1) 0 er (A 23) 0 X1 Y1 D1 X2 Y2 (J 7) (J 8) 65 8364 (-1) 300 1099511627776 (J 19) (J 20) (J 22) (J 23) (J 26)) [0,1,23] [0],u (fun A J O=>az w.params h g (A 0) (A 1) 0 er (A 24) 0 X2 Y2 D2 X3 Y3 (J 27) (J 28) Q0 Q4 Q2 Q3 (J 30) (J 31) (J 32) (J 33)) [0,1,24] [0],u (fun A J O=>ah w.params h g (A 0) (A 1) 0 er X3 Y3 3 X4 Y4 4 (J 34) (J 35) (J 37)) [0,1] [0],u (fun A J O=>bc w.params h g n K t1 (A 54) Qa (J 103)) [4,5] [4,5],u (fun A J O=>lL w.params h g 0 (A 54) n K (J 104) (J 104) (A 59) (A 60) (J 105) (J 106) (J 107) (J 103) 2089 (J 101) (J 104) (J 108) (J 110) (J 112) (A 61)) [54,61,4,5,59,60] []] [59] [39,40,104] (b9 t1 hK X4 Y4 0 1 2) (aa (aC hD0) (aa (aD hD1) (aa (aF hD2) (aa (am (top:=4) hD3 (by decide) (by decide)) (aa (dv.2.1 hK (by omega)) (aa l0.1 ao)))))) ?_,
 fun {X1 Y1 D1 X2 Y2 D2 X3 Y3 X4 Y4} hD0 hD1 hD2 hD3=>ba 2679 (ce [Cg]) [u (fun A J O=>ay w.params h g (A 0) (A 1) 0 er (A 10) 0 X0 Y0 1 X1 Y1 tx ty #[] #[97,195,169] #[255,226,130,172] #[120,121,122] (J 3) (J 4) (J 5) (J 6)) [0,1,10] [0],u (fun A J O=>aA w.params h g (A 0) (A 1) 0 er (A 23) 0 X1 Y1 D1 X2 Y2 (J 7) (J 8) 65 8364 (-1) 300 1099511627776 (J 19) (J 20) (J 22) (J 23) (J 26)) [0,1,23] [0],u (fun A J O=>az w.params h g (A 0) (A 1) 0 er (A 24) 0 X2 Y2 D2 X3 Y3 (J 27) (J 28) Q0 Q4 Q2 Q3 (J 30) (J 31) (J 32) (J 33)) [0,1,24] [0],u (fun A J O=>ah w.params h g (A 0) (A 1) 0 er X3 Y3 2 X4 Y4 4 (J 34) (J 35) (J 37)) [0,1] [0],u (fun A J O=>bc w.params h g n K t1 (A 52) Qa (J 101)) [4,5] [4,5],u (fun A J O=>cj w.params h g 3 97 (J 95) 195 (J 96) 169 (J 97) (A 52) n K (J 102) (J 102) (A 56) (A 57) (J 103) (J 104) (J 105) (J 101) 2089 (J 102) (J 119) (A 67) (A 68)) [52,67,68,4,5,56,57] [],u (fun A J O=>c8 w.params h g 3 97 (J 95) 195 (J 96) 169 (J 97) (A 52) n K (J 102) (J 102) (A 56) (A 57) (J 103) (J 104) (J 105) (J 101) 2089 (J 102) (J 122) (A 69) (A 70)) [52,69,70,4,5,56,57] [],u (fun A J O=>cg w.params h g 3 97 (J 95) 195 (J 96) 169 (J 97) (A 52) n K (J 102) (J 102) (A 56) (A 57) (J 103) (J 104) (J 105) (J 101) 2089 (J 102) (J 125) (A 71) (A 72)) [52,71,72,4,5,56,57] [],u (fun A J O=>fE w.params h g 3 97 (J 95) 195 (J 96) 169 (J 97) (A 52) n K (J 102) (J 102) (A 56) (A 57) (J 103) (J 104) (J 105) (J 101) 2089 (J 99) (J 102) (J 106) (J 108) (J 110) (A 58)) [52,58,4,5,56,57] []] [56] [39,40,102] (b9 t1 hK X4 Y4 0 1 2) (aa (aC hD0) (aa (aD hD1) (aa (aF hD2) (aa (am (top:=4) hD3 (by decide) (by decide)) (aa (dv.2.1 hK (by omega)) (aa (dS.2.2.1 hK (by omega)) (aa (dS.2.2.2.1 hK (by omega)) (aa (dS.2.2.2.2.1 hK (by omega)) (aa (l0.2.2.1 hK (by omega)) ao))))))))) ?_⟩ <;> intro cb ν τ υ π ς ρ own past κ bl p <;> kernel_rfl
theorem vM {w h g s r er X0 Y0 tx ty R F n K t1} (hK:ag K=n) (hn:n≤900):(∀ {X1 Y1 D1 X2 Y2 D2 X3 Y3 X4 Y4:Nat},a0 X0 Y0 4 1 X1 Y1→a0 X1 Y1 5 D1 X2 Y2→a0 X2 Y2 4 D2 X3 Y3→a0 X3 Y3 4 3 X4 Y4→CE w h g s r er X0 Y0 tx ty R F n K t1 1520) ∧
 (∀ {X1 Y1 D1 X2 Y2 D2 X3 Y3 X4 Y4:Nat},a0 X0 Y0 4 2 X1 Y1→a0 X1 Y1 5 D1 X2 Y2→a0 X2 Y2 4 D2 X3 Y3→a0 X3 Y3 4 2 X4 Y4→CE w h g s r er X0 Y0 tx ty R F n K t1 1520):=by
 refine ⟨fun {X1 Y1 D1 X2 Y2 D2 X3 Y3 X4 Y4} hD0 hD1 hD2 hD3=>ba 4231 (ce [sK,cQ,xe,xf,Ak,bh,1154,ai,1115268,kG,Dj,fj,0x110c8810c88220882200022000,iO,1183744,iD,bh,1190026,rD,1162,rD,1162,rD,1162,rD,1166,iO,iO,iO,1183876,ax,1156,ax,1156,ae,1183876,ae,1156,Cn,p8,1048722,p8,1174,lV,gE,1154,ax,1181826,av,1154,av,ck,1154,c4,1073897624,nM,1176,ak,nM,1176,nz,0x44c2684c2689a2689a0009a,gE,1210189954,bi,1210122370,nJ,1154,ae,1154,bi,1073807490,nz,0x482208002789a2689a,bh,1154,ai,1271310400672,iN,1184,ax,1181826,ae,1243777186,ak,0x1144a4288a42900029000290a4000a2,ng,0x451290a2290a4,ng,0x4002a051290a2290a4,oq,tU,0x12c0b02c0002c0002c0b0,ak,0x4b4000b4000b42d0b4168b62d8020a45a16458014402c8b02c0b0000b0,nn,xV,1198,av,0x12e0b82e0002e0002e0b8,ak,0x1170032e8b82e0b8000b8,qX,CV,CV,0x41e17442158012f03e2f0010385e2f8be328ba,ae,1042,xV,0x4cc330cc330ae,rJ,1289961678,kb,1154150,kD,0x1358001a8d60006a358001a8d6,fy,zv,Bw,Bw,0x13586b3606a358003786c36801,b8,1267928,ai,0x1380001bce00006f380001bce0,br,1248,pS,e8,1278176,ec,iS,iS,iS,1250,aX,1250,pS,bY,1280104,bq,1250,pS,0x4e2048010dc00,bq,1250,pS,dK,1313050852,ak,0x400398e6000e4,rR,1048806,rR,1048806,rR,1048806,rR,1048810,iS,iS,1310834914,aX,1250,pS,1250,b8,1310951650,ai,0x4ec000753b0001d4ec000753b0001d4ec,dl,1260,dl,1260,dB,ax,1260,dl,1260,dB,bh,1260,br,1260,gR,1321325804,bq,1260,uW,1264,p3,0x4ec0000100077,ai,0x13b8ee3c8001e0f2,ak,0x47900cf4000ee,ye,Aq,Af,aw,xL,Aq,BJ,ax,1292,bh,1184010,ae,1290,iD,0x144110440004400044110,ak,0x14590c2291600088448884491244912001120011222003449104411000110,iW,0x48a459162110a0011a44912448004480044800450894500045000,aw,1290,gG,1352937472,c4,0x14511c4500047000471144710a,av,0x51e4791e4791e4791e,ak,0x10011e479200011e,wH,1099815862562,wH,1099815862562,wH,1345830,aw,xL,0x47b3e0f84a8793d0ee,ae,0x1098003d8f63d8f63d8f6,cT,1238,av,1074049324,rd,1324,ak,rd,0x1261324c8021ac9825c960143f4b92c,uB,0x14d0004d0004d09900d34,D7,D7,0x126d384e13c265340f934,ae,1366326,ae,1426262900737,dT,1073903767]) [u (fun A J O=>ay w.params h g (A 0) (A 1) 0 er (A 10) 0 X0 Y0 1 X1 Y1 tx ty #[] #[97,195,169] #[255,226,130,172] #[120,121,122] (J 3) (J 4) (J 5) (J 6)) [0,1,10] [0],u (fun A J O=>aA w.params h g (A 0) (A 1) 0 er (A 23) 0 X1 Y1 D1 X2 Y2 (J 7) (J 8) 65 8364 (-1) 300 1099511627776 (J 19) (J 20) (J 22) (J 23) (J 26)) [0,1,23] [0],u (fun A J O=>az w.params h g (A 0) (A 1) 0 er (A 24) 0 X2 Y2 D2 X3 Y3 (J 27) (J 28) Q0 Q4 Q2 Q3 (J 30) (J 31) (J 32) (J 33)) [0,1,24] [0],u (fun A J O=>ah w.params h g (A 0) (A 1) 0 er X3 Y3 3 X4 Y4 4 (J 34) (J 35) (J 37)) [0,1] [0],u (fun A J O=>bc w.params h g n K t1 (A 54) Qa (J 175)) [4,5] [4,5],u (fun A J O=>dx w.params h g 2 97 (J 111) 233 (J 160) (A 54) n K (J 176) (J 176) (A 84) (A 85) (J 177) (J 178) (J 179) (J 175) 2089 (J 176) (J 193) (A 95) (A 96)) [54,95,96,4,5,84,85] [],u (fun A J O=>dP w.params h g 2 97 (J 111) 233 (J 160) (A 54) n K (J 176) (J 176) (A 84) (A 85) (J 177) (J 178) (J 179) (J 175) 2089 (J 176) (J 196) (A 97) (A 98)) [54,97,98,4,5,84,85] [],u (fun A J O=>lG w.params h g 2 97 (J 111) 233 (J 160) (A 54) n K (J 176) (J 176) (A 84) (A 85) (J 177) (J 178) (J 179) (J 175) 2089 (J 173) (J 176) (J 180) (J 182) (J 184) (A 86)) [54,86,4,5,84,85] []] [84] [39,40,176] (b9 t1 hK X4 Y4 0 1 2) (aa (aC hD0) (aa (aD hD1) (aa (aF hD2) (aa (am (top:=4) hD3 (by decide) (by decide)) (aa (dv.2.1 hK (by omega)) (aa (dS.1 hK (by omega)) (aa (dS.2.1 hK (by omega)) (aa (l0.2.1 hK (by omega)) ao)))))))) ?_,
 fun {X1 Y1 D1 X2 Y2 D2 X3 Y3 X4 Y4} hD0 hD1 hD2 hD3=>ba 2792 (ce [ww,kN,kN,kN,kN,xn,lu,lu,lu,lu,xQ,ld,ld,ld,ld,sj,0x10744120856004840f0840040e108862189a,av,1042,iv,1267179090076,xW,1239580830,kb,1129550,kD,1132710,iV,1218560,fy,1073916074,lw,0x4002a8542a801,lw,0x4002a8542a801,lw,1286430959617,gU,1247890600,b8,1218728,ai,lF,1288490278064,br,1200,pJ,e8,1228976,ec,1138866,kL,kL,1230848,aX,1202,pJ,bY,1230928,bq,1245876402,ng,0x12c81000437000a4,bq,1202,pJ,dK,1262670004,ak,0x4002d8b6000b4,xq,xq,xq,0x4582c8002e85a2d8b42d8b6000b6,kL,1024,iK,aX,1202,pJ,1202,b8,1260570802,ai,0x4bc0005d2f000174bc0005d2f000174bc,dl,1212,dl,1212,kg,1212,dl,1212,gB,bh,1212,br,1212,gR,1270969532,bq,1212,sk,1081536,cU,1145871,av,1212,av,0x4be2f8be2f8be2f8be,ak,0x1000be2f8c2000be,va,va,va,va,1048770,rp,0x4c432060308be,lT,1190,av,ux,1226,ak,0x119cd03400214c67198650143f330ca328ca000ca,rH,1289963726,dT,1074896998]) [u (fun A J O=>ay w.params h g (A 0) (A 1) 0 er (A 10) 0 X0 Y0 2 X1 Y1 tx ty #[] #[97,195,169] #[255,226,130,172] #[120,121,122] (J 3) (J 4) (J 5) (J 6)) [0,1,10] [0],u (fun A J O=>aA w.params h g (A 0) (A 1) 0 er (A 23) 0 X1 Y1 D1 X2 Y2 (J 7) (J 8) 65 8364 (-1) 300 1099511627776 (J 19) (J 20) (J 22) (J 23) (J 26)) [0,1,23] [0],u (fun A J O=>az w.params h g (A 0) (A 1) 0 er (A 24) 0 X2 Y2 D2 X3 Y3 (J 27) (J 28) Q0 Q4 Q2 Q3 (J 30) (J 31) (J 32) (J 33)) [0,1,24] [0],u (fun A J O=>ah w.params h g (A 0) (A 1) 0 er X3 Y3 2 X4 Y4 4 (J 34) (J 35) (J 37)) [0,1] [0],u (fun A J O=>bc w.params h g n K t1 (A 52) Qa (J 103)) [4,5] [4,5],u (fun A J O=>g8 w.params h g 4 255 (J 96) 226 (J 97) 130 (J 98) 172 (J 99) (A 52) n K (J 104) (J 104) (A 56) (A 57) (J 105) (J 106) (J 107) (J 103) 2089 (J 104) (J 121) (A 67) (A 68)) [52,67,68,4,5,56,57] [],u (fun A J O=>ga w.params h g 4 255 (J 96) 226 (J 97) 130 (J 98) 172 (J 99) (A 52) n K (J 104) (J 104) (A 56) (A 57) (J 105) (J 106) (J 107) (J 103) 2089 (J 104) (J 124) (A 69) (A 70)) [52,69,70,4,5,56,57] [],u (fun A J O=>g4 w.params h g 4 255 (J 96) 226 (J 97) 130 (J 98) 172 (J 99) (A 52) n K (J 104) (J 104) (A 56) (A 57) (J 105) (J 106) (J 107) (J 103) 2089 (J 104) (J 127) (A 71) (A 72)) [52,71,72,4,5,56,57] [],u (fun A J O=>gg w.params h g 4 255 (J 96) 226 (J 97) 130 (J 98) 172 (J 99) (A 52) n K (J 104) (J 104) (A 56) (A 57) (J 105) (J 106) (J 107) (J 103) 2089 (J 104) (J 130) (A 73) (A 74)) [52,73,74,4,5,56,57] [],u (fun A J O=>oU w.params h g 4 255 (J 96) 226 (J 97) 130 (J 98) 172 (J 99) (A 52) n K (J 104) (J 104) (A 56) (A 57) (J 105) (J 106) (J 107) (J 103) 2089 (J 101) (J 104) (J 108) (J 110) (J 112) (A 58)) [52,58,4,5,56,57] []] [56] [39,40,104] (b9 t1 hK X4 Y4 0 1 2) (aa (aC hD0) (aa (aD hD1) (aa (aF hD2) (aa (am (top:=4) hD3 (by decide) (by decide)) (aa (dv.2.1 hK (by omega)) (aa (dS.2.2.2.2.2.1 hK (by omega)) (aa (dS.2.2.2.2.2.2.1 hK (by omega)) (aa (dS.2.2.2.2.2.2.2.1 hK (by omega)) (aa (dS.2.2.2.2.2.2.2.2 hK (by omega)) (aa (l0.2.2.2.1 hK (by omega)) ao)))))))))) ?_⟩ <;> intro cb ν τ υ π ς ρ own past κ bl p <;> kernel_rfl
theorem vL {w h g s r er X0 Y0 tx ty R F n K t1} (hK:ag K=n) (hn:n≤900):(∀ {X1 Y1 D1 X2 Y2 D2 X3 Y3 X4 Y4:Nat},a0 X0 Y0 4 2 X1 Y1→a0 X1 Y1 5 D1 X2 Y2→a0 X2 Y2 4 D2 X3 Y3→a0 X3 Y3 4 3 X4 Y4→CE w h g s r er X0 Y0 tx ty R F n K t1 1520) ∧
 (∀ {X1 Y1 D1 X2 Y2 D2 X3 Y3 X4 Y4:Nat},a0 X0 Y0 4 3 X1 Y1→a0 X1 Y1 5 D1 X2 Y2→a0 X2 Y2 4 D2 X3 Y3→a0 X3 Y3 4 2 X4 Y4→CE w h g s r er X0 Y0 tx ty R F n K t1 1520):=by
 refine ⟨fun {X1 Y1 D1 X2 Y2 D2 X3 Y3 X4 Y4} hD0 hD1 hD2 hD3=>ba 5406 (ce [sK,kh,ax,xe,xf,bh,1144,ai,1110138,kG,wv,1148,ak,0x4001f8001f8001f87c1f07c0007c,yH,px,1024,kF,1024,kF,1024,kF,0x4002103f20000,ws,yH,1158,tG,tG,tG,tG,1048714,ws,yH,1192076,xC,xC,xC,0x1000901148c0008c2300023000,ws,1258557667454,ae,Ef,y6,0x4002704b26096,oV,1199631480,bh,1239578782,ak,0x1278a02800028000280a00009e,tT,1182,tT,0x4002904f2809e,oq,um,1132710,gU,1247975424,aw,1247889574,bh,1190,ai,1133736,kG,1073916074,lw,1194,ak,lw,0x12b0002b0002b0002b0aa,CY,0x1000ae2b8002b8002b8ae,kQ,1073920174,kQ,1073920174,kQ,0x4002c8562b8002b8ae,qQ,1280076500136,ax,1192,bh,0x4ac000ac000ac,CY,1233076,zl,zl,zl,qq,0x4002e0592d000,qQ,1280076500136,ax,1192,ax,1192,ae,1220776,ae,1299422832808,ak,0x12e8bc2f0002f0002f0bc000ba,oI,1210,oI,1210,oI,1305767768250,iV,gU,1190,ax,1218726,av,1190,av,ck,1190,c4,1073940674,rp,1218,ak,rp,1218,lS,pH,C2,C2,0x4a629800320c4,bh,1190,ai,1316407578826,iN,1226,ax,1218726,ae,1287860428,ak,1289748684,A3,A3,A3,1048786,oq,tU,zv,1242,ak,0x4de000de000de378de1bce0380020a46f1b86d01440370da368da000da,nn,vZ,av,0x1388e23880038800388e2,ak,0x4e4000e4000e41c403390e2388e2000e2,Bj,Bj,0x10787210856004e60f8e60040e1cce83a0f4390e4,ae,1042,vZ,1363910318326,rJ,1334044920,kb,1175675,kD,0x1400001fd000007f400001fd00,fy,1284,zC,zC,zC,0x500201021fd0000108,b8,1310978,ai,0x1428002110a00084428002110a,br,1290,rf,1278,e8,1321226,ec,0x1430002150c00085430002150c,aX,1292,rf,1278,bY,1323133,bq,1292,rf,0x14301200437000fe,bq,1292,rf,1278,dK,1357134094,ak,0x400441100010e,wY,wY,wY,0x143085430002150c0008543000450874410e4411000110,aX,1292,rf,1323262,b8,1355034892,ai,0x5160008a45800229160008a4580022916,dl,1302,dl,1302,dB,ax,1302,dl,1302,dB,bh,1302,br,1302,gR,1365387542,bq,1302,uW,1306,p3,1164,fh,1302,ai,0x146118470002351c,ak,0x48e00d1e00118,DA,1198374,ae,1318,ai,1417339358504,iN,1320,ax,ai,1318,ax,1318,ax,1318,bh,1197348,ae,1316,iD,0x14a92a4a8004a8004a92a,ak,0x1254034b12a4a92a0012a,DL,DL,1048876,rd,0x125d304c091490004d12c,aw,1316,gG,1380227072,c4,0x14b9364b8004d8004d92e4d924,av,0x5384e1384e1384e138,ak,0x5384e13a00138,uE,1405252924,uE,1405252924,uE,1405252924,uE,1372480,aw,0x10012023d2000120,DA,1213764,ae,1348,ai,1449551628614,iN,1350,ax,1348,ax,1348,ax,1348,bh,1212738,ae,1346,iD,0x152148520005200052148,ak,0x54a0014a0014a29003529485214800148,Dh,Dh,0x4a65394e28142001525294a,aw,1346,gG,1411715072,c4,0x15315453000550005514c55142,av,0x556559565595655956,ak,0x5565595800156,rI,1436725594,rI,1436725594,rI,1436725594,rI,1403230,aw,0x490489225888e479184791e0011e0011e0012023d2000120,ae,0x109800481204812048120,cT,1280,av,0x159164590005900059164,ak,0x12d16a5a802200b42ccb20143f599645916400164,uB,0x12d56c0f96c5b0005b0005b0b500d6c,Bd,Bd,1296392634740,ae,1423726,ae,1486451220481,dT,1073932467]) [u (fun A J O=>ay w.params h g (A 0) (A 1) 0 er (A 10) 0 X0 Y0 2 X1 Y1 tx ty #[] #[97,195,169] #[255,226,130,172] #[120,121,122] (J 3) (J 4) (J 5) (J 6)) [0,1,10] [0],u (fun A J O=>aA w.params h g (A 0) (A 1) 0 er (A 23) 0 X1 Y1 D1 X2 Y2 (J 7) (J 8) 65 8364 (-1) 300 1099511627776 (J 19) (J 20) (J 22) (J 23) (J 26)) [0,1,23] [0],u (fun A J O=>az w.params h g (A 0) (A 1) 0 er (A 24) 0 X2 Y2 D2 X3 Y3 (J 27) (J 28) Q0 Q4 Q2 Q3 (J 30) (J 31) (J 32) (J 33)) [0,1,24] [0],u (fun A J O=>ah w.params h g (A 0) (A 1) 0 er X3 Y3 3 X4 Y4 4 (J 34) (J 35) (J 37)) [0,1] [0],u (fun A J O=>Ep w.params h g (bj 0 [(J 3),(J 4),(J 5),(J 6)] 2) (J 48) (J 49) (J 50)) [] [],u (fun A J O=>bc w.params h g n K t1 (A 54) Qa (J 218)) [4,5] [4,5],u (fun A J O=>dx w.params h g 2 65533 1129 8364 (J 203) (A 54) n K (J 219) (J 219) (A 105) (A 106) (J 220) (J 221) (J 222) (J 218) 2089 (J 219) (J 236) (A 116) (A 117)) [54,116,117,4,5,105,106] [],u (fun A J O=>dP w.params h g 2 65533 1129 8364 (J 203) (A 54) n K (J 219) (J 219) (A 105) (A 106) (J 220) (J 221) (J 222) (J 218) 2089 (J 219) (J 239) (A 118) (A 119)) [54,118,119,4,5,105,106] [],u (fun A J O=>lG w.params h g 2 65533 1129 8364 (J 203) (A 54) n K (J 219) (J 219) (A 105) (A 106) (J 220) (J 221) (J 222) (J 218) 2089 (J 216) (J 219) (J 223) (J 225) (J 227) (A 107)) [54,107,4,5,105,106] []] [105] [39,40,219] (b9 t1 hK X4 Y4 0 1 2) (aa (aC hD0) (aa (aD hD1) (aa (aF hD2) (aa (am (top:=4) hD3 (by decide) (by decide)) (aa GO (aa (dv.2.1 hK (by omega)) (aa (dS.1 hK (by omega)) (aa (dS.2.1 hK (by omega)) (aa (l0.2.1 hK (by omega)) ao))))))))) ?_,
 fun {X1 Y1 D1 X2 Y2 D2 X3 Y3 X4 Y4} hD0 hD1 hD2 hD3=>ba 2679 (ce [Cg]) [u (fun A J O=>ay w.params h g (A 0) (A 1) 0 er (A 10) 0 X0 Y0 3 X1 Y1 tx ty #[] #[97,195,169] #[255,226,130,172] #[120,121,122] (J 3) (J 4) (J 5) (J 6)) [0,1,10] [0],u (fun A J O=>aA w.params h g (A 0) (A 1) 0 er (A 23) 0 X1 Y1 D1 X2 Y2 (J 7) (J 8) 65 8364 (-1) 300 1099511627776 (J 19) (J 20) (J 22) (J 23) (J 26)) [0,1,23] [0],u (fun A J O=>az w.params h g (A 0) (A 1) 0 er (A 24) 0 X2 Y2 D2 X3 Y3 (J 27) (J 28) Q0 Q4 Q2 Q3 (J 30) (J 31) (J 32) (J 33)) [0,1,24] [0],u (fun A J O=>ah w.params h g (A 0) (A 1) 0 er X3 Y3 2 X4 Y4 4 (J 34) (J 35) (J 37)) [0,1] [0],u (fun A J O=>bc w.params h g n K t1 (A 52) Qa (J 101)) [4,5] [4,5],u (fun A J O=>cj w.params h g 3 120 (J 95) 121 (J 96) 122 (J 97) (A 52) n K (J 102) (J 102) (A 56) (A 57) (J 103) (J 104) (J 105) (J 101) 2089 (J 102) (J 119) (A 67) (A 68)) [52,67,68,4,5,56,57] [],u (fun A J O=>c8 w.params h g 3 120 (J 95) 121 (J 96) 122 (J 97) (A 52) n K (J 102) (J 102) (A 56) (A 57) (J 103) (J 104) (J 105) (J 101) 2089 (J 102) (J 122) (A 69) (A 70)) [52,69,70,4,5,56,57] [],u (fun A J O=>cg w.params h g 3 120 (J 95) 121 (J 96) 122 (J 97) (A 52) n K (J 102) (J 102) (A 56) (A 57) (J 103) (J 104) (J 105) (J 101) 2089 (J 102) (J 125) (A 71) (A 72)) [52,71,72,4,5,56,57] [],u (fun A J O=>fE w.params h g 3 120 (J 95) 121 (J 96) 122 (J 97) (A 52) n K (J 102) (J 102) (A 56) (A 57) (J 103) (J 104) (J 105) (J 101) 2089 (J 99) (J 102) (J 106) (J 108) (J 110) (A 58)) [52,58,4,5,56,57] []] [56] [39,40,102] (b9 t1 hK X4 Y4 0 1 2) (aa (aC hD0) (aa (aD hD1) (aa (aF hD2) (aa (am (top:=4) hD3 (by decide) (by decide)) (aa (dv.2.1 hK (by omega)) (aa (dS.2.2.1 hK (by omega)) (aa (dS.2.2.2.1 hK (by omega)) (aa (dS.2.2.2.2.1 hK (by omega)) (aa (l0.2.2.1 hK (by omega)) ao))))))))) ?_⟩ <;> intro cb ν τ υ π ς ρ own past κ bl p <;> kernel_rfl
theorem CF {w h g s r er X0 Y0 tx ty R F n K t1} (hK:ag K=n) (hn:n≤900):(∀ {X1 Y1 D1 X2 Y2 D2 X3 Y3 X4 Y4:Nat},a0 X0 Y0 4 3 X1 Y1→a0 X1 Y1 5 D1 X2 Y2→a0 X2 Y2 4 D2 X3 Y3→a0 X3 Y3 4 3 X4 Y4→CE w h g s r er X0 Y0 tx ty R F n K t1 1520):=by
 refine fun {X1 Y1 D1 X2 Y2 D2 X3 Y3 X4 Y4} hD0 hD1 hD2 hD3=>ba 3948 (ce [sK,cQ,xe,A5,xf,Ak,ax,1154,wK,gD,1048714,oq,um,rS,1192076,aw,1220613260,ax,1252132010124,ak,1254281445518,lP,1166,iQ,lP,1166,iQ,lP,0x400250472408e,oq,tU,0x12709c27000270002709c,ak,0x1140a2288020a45013c4e014402789c2709c0009c,o9,nn,lp,av,0x1290a42900029000290a4,ak,0x114803298a4290a4000a4,yt,yt,yt,1048742,kW,0x12a03e2a001038542a8aa2e8a6,kP,1079379,aw,1042,lp,1301572415676,rJ,1273168062,kb,1145950,kD,0x131800188c60006231800188c6,fy,ux,1025,rZ,1025,rZ,0x13186332062318003386432801,b8,1251528,ai,0x13400019cd0000673400019cd0,br,1232,oE,1220,e8,1261776,ec,0x468348001a0d2,ul,aX,1234,oE,1220,bY,1263712,bq,1234,oE,0x13481200437000c4,bq,1234,oE,1220,dK,1296257236,ak,1329516773588,xo,xo,xo,0x4d21a0d200068348001a0d2000da1a8d6350d63580035800,aX,1234,oE,1263812,b8,1294158034,ai,0x4dc0006d370001b4dc0006d370001b4dc,dl,1244,dl,1244,dB,ax,1244,dl,1244,dB,bh,1244,br,1244,gR,1304540380,bq,1244,uW,1248,p3,1135,fh,1244,ai,iS,1306753250,ak,0x139000390003907100ce4000de,zI,0x4753b00000400,ae,1260,ai,1355062302958,iN,1262,ax,1260,ck,1260,av,0x4f03c0f03c0f03c0f0,ak,0x4f03c0f2000f0,DV,1329718516,DV,1298680,aw,vc,zI,fh,Af,aw,vc,zI,fh,BJ,ck,1292,av,0x510441104411044110,ak,0x1451182211244112448004480044800450894508844910449120011200112001104411200110,aw,vc,0x11cce83a11c1c4e4378e4,ae,0x109800398e6398e6398e6398e6,cT,1222,av,0x14791e47800478004791e,ak,0x1245244900218c912408f0143f4811e4791e0011e,uB,0x149800498004989200d26,wM,wM,wM,0x12512a4a92e249260f926,ae,1351976,ae,1411215820801,dT,1073896592]) [u (fun A J O=>ay w.params h g (A 0) (A 1) 0 er (A 10) 0 X0 Y0 3 X1 Y1 tx ty #[] #[97,195,169] #[255,226,130,172] #[120,121,122] (J 3) (J 4) (J 5) (J 6)) [0,1,10] [0],u (fun A J O=>aA w.params h g (A 0) (A 1) 0 er (A 23) 0 X1 Y1 D1 X2 Y2 (J 7) (J 8) 65 8364 (-1) 300 1099511627776 (J 19) (J 20) (J 22) (J 23) (J 26)) [0,1,23] [0],u (fun A J O=>az w.params h g (A 0) (A 1) 0 er (A 24) 0 X2 Y2 D2 X3 Y3 (J 27) (J 28) Q0 Q4 Q2 Q3 (J 30) (J 31) (J 32) (J 33)) [0,1,24] [0],u (fun A J O=>ah w.params h g (A 0) (A 1) 0 er X3 Y3 3 X4 Y4 4 (J 34) (J 35) (J 37)) [0,1] [0],u (fun A J O=>bc w.params h g n K t1 (A 54) Qa (J 151)) [4,5] [4,5],u (fun A J O=>cj w.params h g 3 120 (J 114) 121 (J 126) 122 (J 138) (A 54) n K (J 152) (J 152) (A 74) (A 75) (J 153) (J 154) (J 155) (J 151) 2089 (J 152) (J 169) (A 85) (A 86)) [54,85,86,4,5,74,75] [],u (fun A J O=>c8 w.params h g 3 120 (J 114) 121 (J 126) 122 (J 138) (A 54) n K (J 152) (J 152) (A 74) (A 75) (J 153) (J 154) (J 155) (J 151) 2089 (J 152) (J 172) (A 87) (A 88)) [54,87,88,4,5,74,75] [],u (fun A J O=>cg w.params h g 3 120 (J 114) 121 (J 126) 122 (J 138) (A 54) n K (J 152) (J 152) (A 74) (A 75) (J 153) (J 154) (J 155) (J 151) 2089 (J 152) (J 175) (A 89) (A 90)) [54,89,90,4,5,74,75] [],u (fun A J O=>fE w.params h g 3 120 (J 114) 121 (J 126) 122 (J 138) (A 54) n K (J 152) (J 152) (A 74) (A 75) (J 153) (J 154) (J 155) (J 151) 2089 (J 149) (J 152) (J 156) (J 158) (J 160) (A 76)) [54,76,4,5,74,75] []] [74] [39,40,152] (b9 t1 hK X4 Y4 0 1 2) (aa (aC hD0) (aa (aD hD1) (aa (aF hD2) (aa (am (top:=4) hD3 (by decide) (by decide)) (aa (dv.2.1 hK (by omega)) (aa (dS.2.2.1 hK (by omega)) (aa (dS.2.2.2.1 hK (by omega)) (aa (dS.2.2.2.2.1 hK (by omega)) (aa (l0.2.2.1 hK (by omega)) ao))))))))) ?_ <;> intro cb ν τ υ π ς ρ own past κ bl p <;> kernel_rfl
theorem Fh {w h g s r er X0 Y0 tx ty R F n K t1} (hK:ag K=n) (hn:n≤900):CE w h g s r er X0 Y0 tx ty R F n K t1 1520 :=
 let ⟨d0,X1,Y1,h0⟩:=a0.ex X0 Y0 4
 let ⟨d1,X2,Y2,h1⟩:=a0.ex X1 Y1 5
 let ⟨d2,X3,Y3,h2⟩:=a0.ex X2 Y2 4
 let ⟨d3,X4,Y4,h3⟩:=a0.ex X3 Y3 4
 match d3,h3.lt (by decide),h3 with
 | 0,_,h3 =>
  match d1,h1.lt (by decide),h1 with
  | 0,_,h1 =>
   match d2,h2.lt (by decide),h2 with
   | 0,_,h2=>(bX hK hn).1 h0 h1 h2 h3
   | 1,_,h2=>(bX hK hn).2.1 h0 h1 h2 h3
   | 2,_,h2=>(bX hK hn).2.2.1 h0 h1 h2 h3
   | 3,_,h2=>(bX hK hn).2.2.2.1 h0 h1 h2 h3
  | 1,_,h1 =>
   match d2,h2.lt (by decide),h2 with
   | 0,_,h2=>(bX hK hn).2.2.2.2.2.1 h0 h1 h2 h3
   | 1,_,h2=>(bX hK hn).2.2.2.2.2.2.1 h0 h1 h2 h3
   | 2,_,h2=>(bX hK hn).2.2.2.2.2.2.2.1 h0 h1 h2 h3
   | 3,_,h2=>(bX hK hn).2.2.2.2.2.2.2.2.1 h0 h1 h2 h3
  | 2,_,h1 =>
   match d2,h2.lt (by decide),h2 with
   | 0,_,h2=>(bX hK hn).2.2.2.2.2.2.2.2.2.2.1 h0 h1 h2 h3
   | 1,_,h2=>(bX hK hn).2.2.2.2.2.2.2.2.2.2.2.1 h0 h1 h2 h3
   | 2,_,h2=>(bX hK hn).2.2.2.2.2.2.2.2.2.2.2.2.1 h0 h1 h2 h3
   | 3,_,h2=>(bX hK hn).2.2.2.2.2.2.2.2.2.2.2.2.2 h0 h1 h2 h3
  | 3,_,h1 =>
   match d2,h2.lt (by decide),h2 with
   | 0,_,h2=>(cH hK hn).2.1 h0 h1 h2 h3
   | 1,_,h2=>(cH hK hn).2.2.1 h0 h1 h2 h3
   | 2,_,h2=>(cH hK hn).2.2.2.1 h0 h1 h2 h3
   | 3,_,h2=>(cH hK hn).2.2.2.2.1 h0 h1 h2 h3
  | 4,_,h1 =>
   match d2,h2.lt (by decide),h2 with
   | 0,_,h2=>(cH hK hn).2.2.2.2.2.2.1 h0 h1 h2 h3
   | 1,_,h2=>(cH hK hn).2.2.2.2.2.2.2.1 h0 h1 h2 h3
   | 2,_,h2=>(cH hK hn).2.2.2.2.2.2.2.2.1 h0 h1 h2 h3
   | 3,_,h2=>(cH hK hn).2.2.2.2.2.2.2.2.2.1 h0 h1 h2 h3
 | 1,_,h3 =>
  match d1,h1.lt (by decide),h1 with
  | 0,_,h1=>(bX hK hn).2.2.2.2.1 h0 h1 h2 h3
  | 1,_,h1=>(bX hK hn).2.2.2.2.2.2.2.2.2.1 h0 h1 h2 h3
  | 2,_,h1=>(cH hK hn).1 h0 h1 h2 h3
  | 3,_,h1=>(cH hK hn).2.2.2.2.2.1 h0 h1 h2 h3
  | 4,_,h1=>(cH hK hn).2.2.2.2.2.2.2.2.2.2 h0 h1 h2 h3
 | 2,_,h3 =>
  match d0,h0.lt (by decide),h0 with
  | 0,_,h0=>(oJ hK hn).1 h0 h1 h2 h3
  | 1,_,h0=>(oJ hK hn).2.2 h0 h1 h2 h3
  | 2,_,h0=>(vM hK hn).2 h0 h1 h2 h3
  | 3,_,h0=>(vL hK hn).2 h0 h1 h2 h3
 | 3,_,h3 =>
  match d0,h0.lt (by decide),h0 with
  | 0,_,h0=>(oJ hK hn).2.1 h0 h1 h2 h3
  | 1,_,h0=>(vM hK hn).1 h0 h1 h2 h3
  | 2,_,h0=>(vL hK hn).1 h0 h1 h2 h3
  | 3,_,h0=>(CF hK hn) h0 h1 h2 h3
theorem vV {w h g s r er X0 Y0 tx ty R F n K t1} (hK:ag K=n) (hn:n≤900):(∀ {X1 Y1 D1 X2 Y2:Nat},a0 X0 Y0 5 0 X1 Y1→a0 X1 Y1 9 D1 X2 Y2→CE w h g s r er X0 Y0 tx ty R F n K t1 1525) ∧
 (∀ {X1 Y1 D1 X2 Y2:Nat},a0 X0 Y0 5 1 X1 Y1→a0 X1 Y1 9 D1 X2 Y2→CE w h g s r er X0 Y0 tx ty R F n K t1 1525):=by
 refine ⟨fun {X1 Y1 D1 X2 Y2} hD0 hD1=>ba 1739 (ce [za,BS,gy,jl,E9]) [u (fun A J O=>bc w.params h g n K t1 (A 11) Qf (J 4)) [4,5] [4,5],u (fun A J O=>ah w.params h g (A 0) (A 1) 0 er X0 Y0 0 X1 Y1 5 tx ty (J 21)) [0,1] [0],u (fun A J O=>ah w.params h g (A 0) (A 1) 0 er X1 Y1 D1 X2 Y2 9 (J 23) (J 24) (J 28)) [0,1] [0],u (fun A J O=>aT w.params h g n K (Prod.mk (J 11) (.ref (A 12))) (J 11)) [5] [],u (fun A J O=>aS w.params h g n K (Prod.mk (J 11) (.ref (A 12))) (J 11)) [5] []] [12] [30,31,11] (b9 t1 hK X2 Y2 0 1 2) (aa (dv.2.1 hK (by omega)) (aa (am (top:=5) hD0 (by decide) (by decide)) (aa (am (top:=9) hD1 (by decide) (by decide)) (aa (aV hK) (aa (aW hK) ao))))) ?_,
 fun {X1 Y1 D1 X2 Y2} hD0 hD1=>ba 4367 (ce [BO,1284,yq,ae,qi,0x142104420004100041108410004190641906,Ee,1156,D9]) [u (fun A J O=>bc w.params h g n K t1 (A 11) Qf (J 4)) [4,5] [4,5],u (fun A J O=>ah w.params h g (A 0) (A 1) 0 er X0 Y0 1 X1 Y1 5 tx ty (J 21)) [0,1] [0],u (fun A J O=>ah w.params h g (A 0) (A 1) 0 er X1 Y1 D1 X2 Y2 9 (J 23) (J 24) (J 28)) [0,1] [0],u (fun A J O=>aT w.params h g n K (Prod.mk (J 11) (.ref (A 12))) (J 11)) [5] [],u (fun A J O=>aS w.params h g n K (Prod.mk (J 11) (.ref (A 12))) (J 11)) [5] [],u (fun A J O=>aT w.params h g n K (Prod.mk (J 11) (.ref (A 12))) (J 11)) [5] [],u (fun A J O=>aS w.params h g n K (Prod.mk (J 11) (.ref (A 12))) (J 11)) [5] [],u (fun A J O=>aT w.params h g n K (Prod.mk (J 11) (.ref (A 12))) (J 11)) [5] [],u (fun A J O=>aS w.params h g n K (Prod.mk (J 11) (.ref (A 12))) (J 11)) [5] [],u (fun A J O=>rE w.params h g (A 140) n K (J 11) (J 11) (A 12) (A 13) (J 12) (J 13) (J 14) (J 4) 2089 (J 16) (J 11) (A 14) (A 15) (A 28) (A 66) (J 272) (J 273) (J 274) (.ref (A 16)) (A 149) (A 150) ⟨.none,.none,R.3,R.4,R.5,R.6,R.7⟩ (v7 (O 3)) (J 275)) [14,15,149,150,2,3,4,5,12,13] [2,3],u (fun A J O=>kc w.params h g (A 152) (A 148) 0 0 [] [(.int (Int.ofNat ((Nat.brecOn.go D1 Nat.add._f).1 40)) (J 32)),(.int 2 (J 269)),(.int 3 (J 270))]) [152,148] [152],u (fun A J O=>u0 w.params h g (J 280) (J 281) (J 282) (.ref (A 16)) (A 157) (A 158) (n+1) (List.cons (Prod.mk (J 11) (.ref (A 12))) K) (J 11) (v7 (O 2)) (v7 (O 3)) (J 289)) [157,158,2,3,4,5] [2,3],u (fun A J O=>dX w.params h g false false (DT.s false (A 163) 2 [(DT.s true (A 165) 0 [(DT.v (.str Qb (J 290))),(DT.v (.bytes #[110,105,108,32,100,101,114,101,102,101,114,101,110,99,101] (J 291)))]),(DT.s true (A 166) 0 [(DT.v (.str Qb (J 294))),(DT.v (.bytes #[110,105,108,32,100,101,114,101,102,101,114,101,110,99,101] (J 295)))])]) (DT.s false (A 171) 0 [(DT.s true (A 169) 0 [(DT.v (.str Qb (J 297))),(DT.v (.bytes #[110,105,108,32,100,101,114,101,102,101,114,101,110,99,101] (J 298)))]),(DT.s true (A 169) 0 [(DT.v (.str Qb (J 297))),(DT.v (.bytes #[110,105,108,32,100,101,114,101,102,101,114,101,110,99,101] (J 298)))])]) true [5]) [163,165,166,171,169] []] [12] [30,31,11] (b9 t1 hK X2 Y2 0 1 2) (aa (dv.2.1 hK (by omega)) (aa (am (top:=5) hD0 (by decide) (by decide)) (aa (am (top:=9) hD1 (by decide) (by decide)) (aa (aV hK) (aa (aW hK) (aa (aV hK) (aa (aW hK) (aa (aV hK) (aa (aW hK) (aa (fB.2.2.2.2.2.2.2.2.2.1 hK (by omega)) (aa (xK (Nat.le_of_ble_eq_true rfl) (Nat.le_of_ble_eq_true rfl)) (aa fB.2.2.2.2.2.2.2.1 (aa (gF true rfl (Nat.le_of_ble_eq_true (by kernel_rfl)) (.inl (eO (eO qU (eO eB eN)) (eO (eO qU (eO eB eN)) eN))) (by exact CZ)) ao))))))))))))) ?_⟩ <;> intro cb ν τ υ π ς ρ own past κ bl p <;> kernel_rfl
theorem vW {w h g s r er X0 Y0 tx ty R F n K t1} (hK:ag K=n) (hn:n≤900):(∀ {X1 Y1 D1 X2 Y2:Nat},a0 X0 Y0 5 2 X1 Y1→a0 X1 Y1 9 D1 X2 Y2→CE w h g s r er X0 Y0 tx ty R F n K t1 1525) ∧
 (∀ {X1 Y1 D1 X2 Y2:Nat},a0 X0 Y0 5 3 X1 Y1→a0 X1 Y1 9 D1 X2 Y2→CE w h g s r er X0 Y0 tx ty R F n K t1 1525):=by
 refine ⟨fun {X1 Y1 D1 X2 Y2} hD0 hD1=>ba 4366 (ce [AU,1290,Df,0x13a8004411044110,CW,xI,ae,gC,0x5164691646800458004591a458004611846118,wy,1409015871742,Dd,0x148922488004880048922,ak,0x14992a498014a00214093248910143d491224892200122,gQ,1200274,iB,1099826507790,rd,1090519189,pA,kh,0x53200132001324c932,aw,1038,av,1324,c3,0x4002688526c862708a2748d4a0570051c4f11c0053600136001364d934,DJ,1382726,ak,0x15200052000520a300d4800146,Ap,c3,1030,Dk,Ap,0x101803008a12800418c00,Dk,0x55428d4851948,gy,0x558038a55314c,ae,0x15295a52801560005600056158,cy]) [u (fun A J O=>bc w.params h g n K t1 (A 11) Qf (J 4)) [4,5] [4,5],u (fun A J O=>ah w.params h g (A 0) (A 1) 0 er X0 Y0 2 X1 Y1 5 tx ty (J 21)) [0,1] [0],u (fun A J O=>ah w.params h g (A 0) (A 1) 0 er X1 Y1 D1 X2 Y2 9 (J 23) (J 24) (J 28)) [0,1] [0],u (fun A J O=>aT w.params h g n K (Prod.mk (J 11) (.ref (A 12))) (J 11)) [5] [],u (fun A J O=>aS w.params h g n K (Prod.mk (J 11) (.ref (A 12))) (J 11)) [5] [],u (fun A J O=>aT w.params h g n K (Prod.mk (J 11) (.ref (A 12))) (J 11)) [5] [],u (fun A J O=>aS w.params h g n K (Prod.mk (J 11) (.ref (A 12))) (J 11)) [5] [],u (fun A J O=>aT w.params h g n K (Prod.mk (J 11) (.ref (A 12))) (J 11)) [5] [],u (fun A J O=>aS w.params h g n K (Prod.mk (J 11) (.ref (A 12))) (J 11)) [5] [],u (fun A J O=>rE w.params h g (A 141) n K (J 11) (J 11) (A 12) (A 13) (J 12) (J 13) (J 14) (J 4) 2089 (J 16) (J 11) (A 14) (A 15) (A 28) (A 66) (J 272) (J 273) (J 274) (.ref (A 16)) (A 150) (A 151) ⟨.none,.none,R.3,R.4,R.5,R.6,R.7⟩ (v7 (O 3)) (J 275)) [14,15,150,151,2,3,4,5,12,13] [2,3],u (fun A J O=>kc w.params h g (A 153) (A 149) 0 0 [] [(.int 1 (J 268)),(.int (Int.ofNat ((Nat.brecOn.go D1 Nat.add._f).1 40)) (J 32)),(.int 3 (J 270))]) [153,149] [153],u (fun A J O=>u0 w.params h g (J 280) (J 281) (J 282) (.ref (A 16)) (A 158) (A 159) (n+1) (List.cons (Prod.mk (J 11) (.ref (A 12))) K) (J 11) (v7 (O 2)) (v7 (O 3)) (J 289)) [158,159,2,3,4,5] [2,3],u (fun A J O=>dX w.params h g false false (DT.s false (A 164) 2 [(DT.s true (A 166) 0 [(DT.v (.str Qb (J 290))),(DT.v (.bytes #[110,105,108,32,100,101,114,101,102,101,114,101,110,99,101] (J 291)))]),(DT.s true (A 167) 0 [(DT.v (.str Qb (J 294))),(DT.v (.bytes #[110,105,108,32,100,101,114,101,102,101,114,101,110,99,101] (J 295)))])]) (DT.s false (A 172) 0 [(DT.s true (A 170) 0 [(DT.v (.str Qb (J 297))),(DT.v (.bytes #[110,105,108,32,100,101,114,101,102,101,114,101,110,99,101] (J 298)))]),(DT.s true (A 170) 0 [(DT.v (.str Qb (J 297))),(DT.v (.bytes #[110,105,108,32,100,101,114,101,102,101,114,101,110,99,101] (J 298)))])]) true [5]) [164,166,167,172,170] []] [12] [30,31,11] (b9 t1 hK X2 Y2 0 1 2) (aa (dv.2.1 hK (by omega)) (aa (am (top:=5) hD0 (by decide) (by decide)) (aa (am (top:=9) hD1 (by decide) (by decide)) (aa (aV hK) (aa (aW hK) (aa (aV hK) (aa (aW hK) (aa (aV hK) (aa (aW hK) (aa (fB.2.2.2.2.2.2.2.2.2.1 hK (by omega)) (aa (xK (Nat.le_of_ble_eq_true rfl) (Nat.le_of_ble_eq_true rfl)) (aa fB.2.2.2.2.2.2.2.1 (aa (gF true rfl (Nat.le_of_ble_eq_true (by kernel_rfl)) (.inl (eO (eO qU (eO eB eN)) (eO (eO qU (eO eB eN)) eN))) (by exact CZ)) ao))))))))))))) ?_,
 fun {X1 Y1 D1 X2 Y2} hD0 hD1=>ba 4367 (ce [AU,1317130,Ee,1154,D9]) [u (fun A J O=>bc w.params h g n K t1 (A 11) Qf (J 4)) [4,5] [4,5],u (fun A J O=>ah w.params h g (A 0) (A 1) 0 er X0 Y0 3 X1 Y1 5 tx ty (J 21)) [0,1] [0],u (fun A J O=>ah w.params h g (A 0) (A 1) 0 er X1 Y1 D1 X2 Y2 9 (J 23) (J 24) (J 28)) [0,1] [0],u (fun A J O=>aT w.params h g n K (Prod.mk (J 11) (.ref (A 12))) (J 11)) [5] [],u (fun A J O=>aS w.params h g n K (Prod.mk (J 11) (.ref (A 12))) (J 11)) [5] [],u (fun A J O=>aT w.params h g n K (Prod.mk (J 11) (.ref (A 12))) (J 11)) [5] [],u (fun A J O=>aS w.params h g n K (Prod.mk (J 11) (.ref (A 12))) (J 11)) [5] [],u (fun A J O=>aT w.params h g n K (Prod.mk (J 11) (.ref (A 12))) (J 11)) [5] [],u (fun A J O=>aS w.params h g n K (Prod.mk (J 11) (.ref (A 12))) (J 11)) [5] [],u (fun A J O=>rE w.params h g (A 140) n K (J 11) (J 11) (A 12) (A 13) (J 12) (J 13) (J 14) (J 4) 2089 (J 16) (J 11) (A 14) (A 15) (A 28) (A 66) (J 272) (J 273) (J 274) (.ref (A 16)) (A 149) (A 150) ⟨.none,.none,R.3,R.4,R.5,R.6,R.7⟩ (v7 (O 3)) (J 275)) [14,15,149,150,2,3,4,5,12,13] [2,3],u (fun A J O=>kc w.params h g (A 152) (A 148) 0 0 [] [(.int 1 (J 268)),(.int 2 (J 269)),(.int (Int.ofNat ((Nat.brecOn.go D1 Nat.add._f).1 40)) (J 32))]) [152,148] [152],u (fun A J O=>u0 w.params h g (J 280) (J 281) (J 282) (.ref (A 16)) (A 157) (A 158) (n+1) (List.cons (Prod.mk (J 11) (.ref (A 12))) K) (J 11) (v7 (O 2)) (v7 (O 3)) (J 289)) [157,158,2,3,4,5] [2,3],u (fun A J O=>dX w.params h g false false (DT.s false (A 163) 2 [(DT.s true (A 165) 0 [(DT.v (.str Qb (J 290))),(DT.v (.bytes #[110,105,108,32,100,101,114,101,102,101,114,101,110,99,101] (J 291)))]),(DT.s true (A 166) 0 [(DT.v (.str Qb (J 294))),(DT.v (.bytes #[110,105,108,32,100,101,114,101,102,101,114,101,110,99,101] (J 295)))])]) (DT.s false (A 171) 0 [(DT.s true (A 169) 0 [(DT.v (.str Qb (J 297))),(DT.v (.bytes #[110,105,108,32,100,101,114,101,102,101,114,101,110,99,101] (J 298)))]),(DT.s true (A 169) 0 [(DT.v (.str Qb (J 297))),(DT.v (.bytes #[110,105,108,32,100,101,114,101,102,101,114,101,110,99,101] (J 298)))])]) true [5]) [163,165,166,171,169] []] [12] [30,31,11] (b9 t1 hK X2 Y2 0 1 2) (aa (dv.2.1 hK (by omega)) (aa (am (top:=5) hD0 (by decide) (by decide)) (aa (am (top:=9) hD1 (by decide) (by decide)) (aa (aV hK) (aa (aW hK) (aa (aV hK) (aa (aW hK) (aa (aV hK) (aa (aW hK) (aa (fB.2.2.2.2.2.2.2.2.2.1 hK (by omega)) (aa (xK (Nat.le_of_ble_eq_true rfl) (Nat.le_of_ble_eq_true rfl)) (aa fB.2.2.2.2.2.2.2.1 (aa (gF true rfl (Nat.le_of_ble_eq_true (by kernel_rfl)) (.inl (eO (eO qU (eO eB eN)) (eO (eO qU (eO eB eN)) eN))) (by exact CZ)) ao))))))))))))) ?_⟩ <;> intro cb ν τ υ π ς ρ own past κ bl p <;> kernel_rfl
theorem E2 {w h g s r er X0 Y0 tx ty R F n K t1} (hK:ag K=n) (hn:n≤900):(∀ {X1 Y1 D1 X2 Y2:Nat},a0 X0 Y0 5 4 X1 Y1→a0 X1 Y1 9 D1 X2 Y2→CE w h g s r er X0 Y0 tx ty R F n K t1 1525):=by
 refine fun {X1 Y1 D1 X2 Y2} hD0 hD1=>ba 1752 (ce [za,1152,ax,BS,s3,E9]) [u (fun A J O=>bc w.params h g n K t1 (A 11) Qf (J 4)) [4,5] [4,5],u (fun A J O=>ah w.params h g (A 0) (A 1) 0 er X0 Y0 4 X1 Y1 5 tx ty (J 21)) [0,1] [0],u (fun A J O=>ah w.params h g (A 0) (A 1) 0 er X1 Y1 D1 X2 Y2 9 (J 23) (J 24) (J 28)) [0,1] [0],u (fun A J O=>aT w.params h g n K (Prod.mk (J 11) (.ref (A 12))) (J 11)) [5] [],u (fun A J O=>aS w.params h g n K (Prod.mk (J 11) (.ref (A 12))) (J 11)) [5] []] [12] [30,31,11] (b9 t1 hK X2 Y2 0 1 2) (aa (dv.2.1 hK (by omega)) (aa (am (top:=5) hD0 (by decide) (by decide)) (aa (am (top:=9) hD1 (by decide) (by decide)) (aa (aV hK) (aa (aW hK) ao))))) ?_ <;> intro cb ν τ υ π ς ρ own past κ bl p <;> kernel_rfl
theorem EV {w h g s r er X0 Y0 tx ty R F n K t1} (hK:ag K=n) (hn:n≤900):CE w h g s r er X0 Y0 tx ty R F n K t1 1525 :=
 let ⟨d0,X1,Y1,h0⟩:=a0.ex X0 Y0 5
 let ⟨d1,X2,Y2,h1⟩:=a0.ex X1 Y1 9
 match d0,h0.lt (by decide),h0 with
 | 0,_,h0=>(vV hK hn).1 h0 h1
 | 1,_,h0=>(vV hK hn).2 h0 h1
 | 2,_,h0=>(vW hK hn).1 h0 h1
 | 3,_,h0=>(vW hK hn).2 h0 h1
 | 4,_,h0=>(E2 hK hn) h0 h1
theorem jP {w h g s r er X0 Y0 tx ty R F n K t1} (hK:ag K=n) (hn:n≤900):(∀ {X1 Y1 D1 X2 Y2 D2 X3 Y3:Nat},a0 X0 Y0 5 0 X1 Y1→a0 X1 Y1 4 D1 X2 Y2→a0 X2 Y2 6 D2 X3 Y3→CE w h g s r er X0 Y0 tx ty R F n K t1 1532) ∧
 (∀ {X1 Y1 D1 X2 Y2 D2 X3 Y3:Nat},a0 X0 Y0 5 1 X1 Y1→a0 X1 Y1 4 D1 X2 Y2→a0 X2 Y2 6 D2 X3 Y3→CE w h g s r er X0 Y0 tx ty R F n K t1 1532) ∧
 (∀ {X1 Y1 D1 X2 Y2 D2 X3 Y3:Nat},a0 X0 Y0 5 2 X1 Y1→a0 X1 Y1 4 D1 X2 Y2→a0 X2 Y2 6 D2 X3 Y3→CE w h g s r er X0 Y0 tx ty R F n K t1 1532) ∧
 (∀ {X1 Y1 D1 X2 Y2 D2 X3 Y3:Nat},a0 X0 Y0 5 3 X1 Y1→a0 X1 Y1 4 D1 X2 Y2→a0 X2 Y2 6 D2 X3 Y3→CE w h g s r er X0 Y0 tx ty R F n K t1 1532) ∧
 (∀ {X1 Y1 D1 X2 Y2 D2 X3 Y3:Nat},a0 X0 Y0 5 4 X1 Y1→a0 X1 Y1 4 D1 X2 Y2→a0 X2 Y2 6 D2 X3 Y3→CE w h g s r er X0 Y0 tx ty R F n K t1 1532):=by
 refine ⟨fun {X1 Y1 D1 X2 Y2 D2 X3 Y3} hD0 hD1 hD2=>ba 1925 (ce [x4,E3,Ch,gy,jl,Cs]) [u (fun A J O=>ah w.params h g (A 0) (A 1) 0 er X0 Y0 0 X1 Y1 5 tx ty (J 10)) [0,1] [0],u (fun A J O=>ah w.params h g (A 0) (A 1) 0 er X1 Y1 D1 X2 Y2 4 (J 12) (J 13) (J 16)) [0,1] [0],u (fun A J O=>ah w.params h g (A 0) (A 1) 0 er X2 Y2 D2 X3 Y3 6 (J 18) (J 19) (J 20)) [0,1] [0],u (fun A J O=>dX w.params h g true true (DT.s true (A 73) 0 [(DT.s true (A 43) 0 [(DT.v (.str Qb (J 83))),(DT.v (.bytes #[105,110,100,101,120,32,111,117,116,32,111,102,32,114,97,110,103,101] (J 67)))]),(DT.s true (A 67) 0 [(DT.v (.str Qb (J 136))),(DT.v (.bytes #[105,110,100,101,120,32,111,117,116,32,111,102,32,114,97,110,103,101] (J 120)))])]) (DT.s true (A 74) 0 [(DT.s true (A 68) 0 [(DT.v (.str Qb (J 142))),(DT.v (.bytes #[105,110,100,101,120,32,111,117,116,32,111,102,32,114,97,110,103,101] (J 143)))]),(DT.s true (A 68) 0 [(DT.v (.str Qb (J 142))),(DT.v (.bytes #[105,110,100,101,120,32,111,117,116,32,111,102,32,114,97,110,103,101] (J 143)))])]) false [5]) [73,43,67,74,68] [],uT (fun A J O ρ=>nU w.params h g (A 6) (A 0) (v7 (O 2)) (v7 (O 3)) n K t1 (A 8) (A 7) (A 18) (A 17) D1 D2 (J 4) (J 2) (J 3) (J 27) (J 28) (J 29) (J 30) (J 0) (J 1) (J 7) (J 8) (J 9) (J 24) (J 21) (J 25) (J 17) (J 26) (.int (-1) (J 15)) (J 31) (J 87) (.ref (A 43)) (J 140) (.ref (A 67)) (J 144) (.ref (A 68)) (J 145) (.bool false) ρ) [6,2,3,4,5,8,7,18,17] [6,2,3,4,5] 1097 7] [] [22,23] (b9 t1 hK X3 Y3 0 86 2) (aa (am (top:=5) hD0 (by decide) (by decide)) (aa (am (top:=4) hD1 (by decide) (by decide)) (aa (am (top:=6) hD2 (by decide) (by decide)) (aa (gF true rfl (Nat.le_of_ble_eq_true (by kernel_rfl)) (.inl (eO (eO qU (eO eB eN)) (eO (eO qU (eO eB eN)) eN))) (by exact CZ)) (dY (oX  hK (by omega) (hD1.lt (by decide)) (hD2.lt (by decide))) ao))))) ?_,
 fun {X1 Y1 D1 X2 Y2 D2 X3 Y3} hD0 hD1 hD2=>ba 1388 (ce [xx]) [u (fun A J O=>ah w.params h g (A 0) (A 1) 0 er X0 Y0 1 X1 Y1 5 tx ty (J 10)) [0,1] [0],u (fun A J O=>ah w.params h g (A 0) (A 1) 0 er X1 Y1 D1 X2 Y2 4 (J 12) (J 13) (J 16)) [0,1] [0],u (fun A J O=>ah w.params h g (A 0) (A 1) 0 er X2 Y2 D2 X3 Y3 6 (J 18) (J 19) (J 20)) [0,1] [0],uT (fun A J O ρ=>nU w.params h g (A 6) (A 0) (v7 (O 2)) (v7 (O 3)) n K t1 (A 8) (A 7) (A 18) (A 17) D1 D2 (J 4) (J 2) (J 3) (J 27) (J 28) (J 29) (J 30) (J 0) (J 1) (J 7) (J 8) (J 9) (J 24) (J 21) (J 25) (J 17) (J 26) (.int 0 (J 15)) (J 31) (J 67) (.ref (A 33)) (J 101) (.ref (A 48)) (J 106) (.ref (A 50)) (J 107) (.bool true) ρ) [6,2,3,4,5,8,7,18,17] [6,2,3,4,5] 1097 7] [] [22,23] (b9 t1 hK X3 Y3 0 74 2) (aa (am (top:=5) hD0 (by decide) (by decide)) (aa (am (top:=4) hD1 (by decide) (by decide)) (aa (am (top:=6) hD2 (by decide) (by decide)) (dY (oX  hK (by omega) (hD1.lt (by decide)) (hD2.lt (by decide))) ao)))) ?_,
 fun {X1 Y1 D1 X2 Y2 D2 X3 Y3} hD0 hD1 hD2=>ba 1388 (ce [xx]) [u (fun A J O=>ah w.params h g (A 0) (A 1) 0 er X0 Y0 2 X1 Y1 5 tx ty (J 10)) [0,1] [0],u (fun A J O=>ah w.params h g (A 0) (A 1) 0 er X1 Y1 D1 X2 Y2 4 (J 12) (J 13) (J 16)) [0,1] [0],u (fun A J O=>ah w.params h g (A 0) (A 1) 0 er X2 Y2 D2 X3 Y3 6 (J 18) (J 19) (J 20)) [0,1] [0],uT (fun A J O ρ=>nU w.params h g (A 6) (A 0) (v7 (O 2)) (v7 (O 3)) n K t1 (A 8) (A 7) (A 18) (A 17) D1 D2 (J 4) (J 2) (J 3) (J 27) (J 28) (J 29) (J 30) (J 0) (J 1) (J 7) (J 8) (J 9) (J 24) (J 21) (J 25) (J 17) (J 26) (.int 1 (J 15)) (J 31) (J 67) (.ref (A 33)) (J 101) (.ref (A 48)) (J 106) (.ref (A 50)) (J 107) (.bool true) ρ) [6,2,3,4,5,8,7,18,17] [6,2,3,4,5] 1097 7] [] [22,23] (b9 t1 hK X3 Y3 0 74 2) (aa (am (top:=5) hD0 (by decide) (by decide)) (aa (am (top:=4) hD1 (by decide) (by decide)) (aa (am (top:=6) hD2 (by decide) (by decide)) (dY (oX  hK (by omega) (hD1.lt (by decide)) (hD2.lt (by decide))) ao)))) ?_,
 fun {X1 Y1 D1 X2 Y2 D2 X3 Y3} hD0 hD1 hD2=>ba 1388 (ce [xx]) [u (fun A J O=>ah w.params h g (A 0) (A 1) 0 er X0 Y0 3 X1 Y1 5 tx ty (J 10)) [0,1] [0],u (fun A J O=>ah w.params h g (A 0) (A 1) 0 er X1 Y1 D1 X2 Y2 4 (J 12) (J 13) (J 16)) [0,1] [0],u (fun A J O=>ah w.params h g (A 0) (A 1) 0 er X2 Y2 D2 X3 Y3 6 (J 18) (J 19) (J 20)) [0,1] [0],uT (fun A J O ρ=>nU w.params h g (A 6) (A 0) (v7 (O 2)) (v7 (O 3)) n K t1 (A 8) (A 7) (A 18) (A 17) D1 D2 (J 4) (J 2) (J 3) (J 27) (J 28) (J 29) (J 30) (J 0) (J 1) (J 7) (J 8) (J 9) (J 24) (J 21) (J 25) (J 17) (J 26) (.int 2 (J 15)) (J 31) (J 67) (.ref (A 33)) (J 101) (.ref (A 48)) (J 106) (.ref (A 50)) (J 107) (.bool true) ρ) [6,2,3,4,5,8,7,18,17] [6,2,3,4,5] 1097 7] [] [22,23] (b9 t1 hK X3 Y3 0 74 2) (aa (am (top:=5) hD0 (by decide) (by decide)) (aa (am (top:=4) hD1 (by decide) (by decide)) (aa (am (top:=6) hD2 (by decide) (by decide)) (dY (oX  hK (by omega) (hD1.lt (by decide)) (hD2.lt (by decide))) ao)))) ?_,
 fun {X1 Y1 D1 X2 Y2 D2 X3 Y3} hD0 hD1 hD2=>ba 1945 (ce [x4,1086,ax,E3,1134,ax,Ch,s3,Cs]) [u (fun A J O=>ah w.params h g (A 0) (A 1) 0 er X0 Y0 4 X1 Y1 5 tx ty (J 10)) [0,1] [0],u (fun A J O=>ah w.params h g (A 0) (A 1) 0 er X1 Y1 D1 X2 Y2 4 (J 12) (J 13) (J 16)) [0,1] [0],u (fun A J O=>ah w.params h g (A 0) (A 1) 0 er X2 Y2 D2 X3 Y3 6 (J 18) (J 19) (J 20)) [0,1] [0],u (fun A J O=>dX w.params h g true true (DT.s true (A 73) 0 [(DT.s true (A 43) 0 [(DT.v (.str Qb (J 83))),(DT.v (.bytes #[105,110,100,101,120,32,111,117,116,32,111,102,32,114,97,110,103,101] (J 67)))]),(DT.s true (A 67) 0 [(DT.v (.str Qb (J 136))),(DT.v (.bytes #[105,110,100,101,120,32,111,117,116,32,111,102,32,114,97,110,103,101] (J 120)))])]) (DT.s true (A 74) 0 [(DT.s true (A 68) 0 [(DT.v (.str Qb (J 143))),(DT.v (.bytes #[105,110,100,101,120,32,111,117,116,32,111,102,32,114,97,110,103,101] (J 144)))]),(DT.s true (A 68) 0 [(DT.v (.str Qb (J 143))),(DT.v (.bytes #[105,110,100,101,120,32,111,117,116,32,111,102,32,114,97,110,103,101] (J 144)))])]) false [5]) [73,43,67,74,68] [],uT (fun A J O ρ=>nU w.params h g (A 6) (A 0) (v7 (O 2)) (v7 (O 3)) n K t1 (A 8) (A 7) (A 18) (A 17) D1 D2 (J 4) (J 2) (J 3) (J 27) (J 28) (J 29) (J 30) (J 0) (J 1) (J 7) (J 8) (J 9) (J 24) (J 21) (J 25) (J 17) (J 26) (.int 3 (J 15)) (J 31) (J 87) (.ref (A 43)) (J 140) (.ref (A 67)) (J 145) (.ref (A 68)) (J 146) (.bool false) ρ) [6,2,3,4,5,8,7,18,17] [6,2,3,4,5] 1097 7] [] [22,23] (b9 t1 hK X3 Y3 0 86 2) (aa (am (top:=5) hD0 (by decide) (by decide)) (aa (am (top:=4) hD1 (by decide) (by decide)) (aa (am (top:=6) hD2 (by decide) (by decide)) (aa (gF true rfl (Nat.le_of_ble_eq_true (by kernel_rfl)) (.inl (eO (eO qU (eO eB eN)) (eO (eO qU (eO eB eN)) eN))) (by exact CZ)) (dY (oX  hK (by omega) (hD1.lt (by decide)) (hD2.lt (by decide))) ao))))) ?_⟩ <;> intro cb ν τ υ π ς ρ own past κ bl p <;> kernel_rfl
theorem Fg {w h g s r er X0 Y0 tx ty R F n K t1} (hK:ag K=n) (hn:n≤900):CE w h g s r er X0 Y0 tx ty R F n K t1 1532 :=
 let ⟨d0,X1,Y1,h0⟩:=a0.ex X0 Y0 5
 let ⟨d1,X2,Y2,h1⟩:=a0.ex X1 Y1 4
 let ⟨d2,X3,Y3,h2⟩:=a0.ex X2 Y2 6
 match d0,h0.lt (by decide),h0 with
 | 0,_,h0=>(jP hK hn).1 h0 h1 h2
 | 1,_,h0=>(jP hK hn).2.1 h0 h1 h2
 | 2,_,h0=>(jP hK hn).2.2.1 h0 h1 h2
 | 3,_,h0=>(jP hK hn).2.2.2.1 h0 h1 h2
 | 4,_,h0=>(jP hK hn).2.2.2.2 h0 h1 h2
theorem fb {w h g s r er X0 Y0 tx ty R F n K t1} (hK:ag K=n) (hn:n≤900):(∀ {X1 Y1:Nat},a0 X0 Y0 8 0 X1 Y1→CE w h g s r er X0 Y0 tx ty R F n K t1 1537) ∧
 (∀ {X1 Y1:Nat},a0 X0 Y0 8 1 X1 Y1→CE w h g s r er X0 Y0 tx ty R F n K t1 1537) ∧
 (∀ {X1 Y1:Nat},a0 X0 Y0 8 2 X1 Y1→CE w h g s r er X0 Y0 tx ty R F n K t1 1537) ∧
 (∀ {X1 Y1:Nat},a0 X0 Y0 8 3 X1 Y1→CE w h g s r er X0 Y0 tx ty R F n K t1 1537) ∧
 (∀ {X1 Y1:Nat},a0 X0 Y0 8 4 X1 Y1→CE w h g s r er X0 Y0 tx ty R F n K t1 1537) ∧
 (∀ {X1 Y1:Nat},a0 X0 Y0 8 5 X1 Y1→CE w h g s r er X0 Y0 tx ty R F n K t1 1537) ∧
 (∀ {X1 Y1:Nat},a0 X0 Y0 8 6 X1 Y1→CE w h g s r er X0 Y0 tx ty R F n K t1 1537) ∧
 (∀ {X1 Y1:Nat},a0 X0 Y0 8 7 X1 Y1→CE w h g s r er X0 Y0 tx ty R F n K t1 1537):=by
 refine ⟨fun {X1 Y1} hD0=>ba 956 (ce [jH,1111527460,ak,1060,jj,1060,du,1060,du,1060,du,1060,du,1060,s8,dI,1126400,sx,o8,1116692598784,n3,gB,dh,kg,1159276,gB,ck,1132,bi,ru]) [u (fun A J O=>aJ w.params h g (A 0) (A 1) 0 er (A 34) 1 X0 Y0 0 X1 Y1 tx ty [(.ref (A 17)),(.ref (A 19)),(.ref (A 22)),(.ref (A 23)),(.ref (A 25)),(.ref (A 30)),(.ref (A 32)),(.ref (A 36))]) [0,1,34] [0],uT (fun A J O ρ=>jh w.params h g (A 6) (A 0) (A 1) er X1 Y1 (v7 (O 2)) (v7 (O 3)) n K t1 (A 8) (A 7) (A 9) (J 1) (J 2) (J 0) (J 6) (.ref (A 11)) (J 18) (.ref (A 34)) (J 48) (.str Ql (J 7)) (J 49) (.ref (A 16)) (J 50) (.bytes #[97,98,99] (J 9)) (J 51) (.int 3 (J 10)) (J 46) (J 47) ρ) [6,0,1,2,3,4,5,8,7,9] [6,0,2,3,4,5] 1114 7] [] [] (b9 t1 hK 0 0 62 64 0) (aa (cI hD0) (dY (jC  hK (by omega)) ao)) ?_,
 fun {X1 Y1} hD0=>ba 979 (ce [jH,1115725864,ak,1064,jj,1064,du,1064,du,1064,du,1064,du,1064,Eb,iz,dh,iz,dh,dh,dB,1024,ru]) [u (fun A J O=>aJ w.params h g (A 0) (A 1) 0 er (A 34) 1 X0 Y0 1 X1 Y1 tx ty [(.ref (A 17)),(.ref (A 19)),(.ref (A 22)),(.ref (A 23)),(.ref (A 25)),(.ref (A 30)),(.ref (A 32)),(.ref (A 36))]) [0,1,34] [0],uT (fun A J O ρ=>jh w.params h g (A 6) (A 0) (A 1) er X1 Y1 (v7 (O 2)) (v7 (O 3)) n K t1 (A 8) (A 7) (A 9) (J 1) (J 2) (J 0) (J 6) (.ref (A 11)) (J 18) (.ref (A 34)) (J 48) (.str Ql (J 11)) (J 49) (.ref (A 11)) (J 50) (.ref (A 18)) (J 51) (.int 3 (J 17)) (J 46) (J 47) ρ) [6,0,1,2,3,4,5,8,7,9] [6,0,2,3,4,5] 1114 7] [] [] (b9 t1 hK 0 0 62 64 0) (aa (cI hD0) (dY (jC  hK (by omega)) ao)) ?_,
 fun {X1 Y1} hD0=>ba 1037 (ce [jH,1122023470,ak,1070,jj,1070,du,1070,du,1070,du,1070,du,1070,Eb,iz,dh,iz,dh,bh,1132,ai,1103982,ae,1134,ai,jM,1163376,jk,1222037850226,nq,1140,ae,1063,cT,1110,av,Cq,0x10003e0f022158011e87e1e8010383d1f07c0082b]) [u (fun A J O=>aJ w.params h g (A 0) (A 1) 0 er (A 34) 1 X0 Y0 2 X1 Y1 tx ty [(.ref (A 17)),(.ref (A 19)),(.ref (A 22)),(.ref (A 23)),(.ref (A 25)),(.ref (A 30)),(.ref (A 32)),(.ref (A 36))]) [0,1,34] [0],uT (fun A J O ρ=>jh w.params h g (A 6) (A 0) (A 1) er X1 Y1 (v7 (O 2)) (v7 (O 3)) n K t1 (A 8) (A 7) (A 9) (J 1) (J 2) (J 0) (J 6) (.ref (A 11)) (J 18) (.ref (A 34)) (J 48) (.str ER (J 19)) (J 49) (.ref (A 11)) (J 50) (.ref (A 21)) (J 51) (.int 5 (J 25)) (J 46) (J 47) ρ) [6,0,1,2,3,4,5,8,7,9] [6,0,2,3,4,5] 1114 7] [] [] (b9 t1 hK 0 0 66 68 0) (aa (cI hD0) (dY (jC  hK (by omega)) ao)) ?_,
 fun {X1 Y1} hD0=>ba 922 (ce [jH,1124122672,ak,1072,jj,1072,du,1072,du,1072,du,1072,du,1072,uy,AM,xH]) [u (fun A J O=>aJ w.params h g (A 0) (A 1) 0 er (A 34) 1 X0 Y0 3 X1 Y1 tx ty [(.ref (A 17)),(.ref (A 19)),(.ref (A 22)),(.ref (A 23)),(.ref (A 25)),(.ref (A 30)),(.ref (A 32)),(.ref (A 36))]) [0,1,34] [0],uT (fun A J O ρ=>jh w.params h g (A 6) (A 0) (A 1) er X1 Y1 (v7 (O 2)) (v7 (O 3)) n K t1 (A 8) (A 7) (A 9) (J 1) (J 2) (J 0) (J 6) (.ref (A 11)) (J 18) (.ref (A 34)) (J 48) (.str Ql (J 26)) (J 49) (.ref (A 11)) (J 50) .none (J 51) (.int 0 (J 27)) (J 46) (J 47) ρ) [6,0,1,2,3,4,5,8,7,9] [6,0,2,3,4,5] 1114 7] [] [] (b9 t1 hK 0 0 62 64 0) (aa (cI hD0) (dY (jC  hK (by omega)) ao)) ?_,
 fun {X1 Y1} hD0=>ba 929 (ce [jH,1128321076,ak,1076,jj,1076,du,1076,du,1076,du,1076,du,1076,uy,1098908728,n3,jz,dh,jz,dh,0x10003200032000320c832,ru]) [u (fun A J O=>aJ w.params h g (A 0) (A 1) 0 er (A 34) 1 X0 Y0 4 X1 Y1 tx ty [(.ref (A 17)),(.ref (A 19)),(.ref (A 22)),(.ref (A 23)),(.ref (A 25)),(.ref (A 30)),(.ref (A 32)),(.ref (A 36))]) [0,1,34] [0],uT (fun A J O ρ=>jh w.params h g (A 6) (A 0) (A 1) er X1 Y1 (v7 (O 2)) (v7 (O 3)) n K t1 (A 8) (A 7) (A 9) (J 1) (J 2) (J 0) (J 6) (.ref (A 11)) (J 18) (.ref (A 34)) (J 48) (.str Ql (J 28)) (J 49) (.ref (A 24)) (J 50) .none (J 51) (.int 4 (J 31)) (J 46) (J 47) ρ) [6,0,1,2,3,4,5,8,7,9] [6,0,2,3,4,5] 1114 7] [] [] (b9 t1 hK 0 0 62 64 0) (aa (cI hD0) (dY (jC  hK (by omega)) ao)) ?_,
 fun {X1 Y1} hD0=>ba 989 (ce [jH,1138817086,ak,1086,jj,1086,du,1086,du,1086,du,1086,du,1086,s8,dI,1128448,sx,o8,1130651244544,n3,sr,dh,bq,1136717932,j8,0x46c0d46c0001c004380003c,gA,1082,dh,gA,1048634,ru]) [u (fun A J O=>aJ w.params h g (A 0) (A 1) 0 er (A 34) 1 X0 Y0 5 X1 Y1 tx ty [(.ref (A 17)),(.ref (A 19)),(.ref (A 22)),(.ref (A 23)),(.ref (A 25)),(.ref (A 30)),(.ref (A 32)),(.ref (A 36))]) [0,1,34] [0],uT (fun A J O ρ=>jh w.params h g (A 6) (A 0) (A 1) er X1 Y1 (v7 (O 2)) (v7 (O 3)) n K t1 (A 8) (A 7) (A 9) (J 1) (J 2) (J 0) (J 6) (.ref (A 11)) (J 18) (.ref (A 34)) (J 48) (.str ER (J 33)) (J 49) (.ref (A 29)) (J 50) .none (J 51) (.int 6 (J 37)) (J 46) (J 47) ρ) [6,0,1,2,3,4,5,8,7,9] [6,0,2,3,4,5] 1114 7] [] [] (b9 t1 hK 0 0 63 65 0) (aa (cI hD0) (dY (jC  hK (by omega)) ao)) ?_,
 fun {X1 Y1} hD0=>ba 922 (ce [jH,1143015490,ak,1090,jj,1090,du,1090,du,1090,du,1090,du,1090,uy,1106248762,n3,xB,dh,xB,xH]) [u (fun A J O=>aJ w.params h g (A 0) (A 1) 0 er (A 34) 1 X0 Y0 6 X1 Y1 tx ty [(.ref (A 17)),(.ref (A 19)),(.ref (A 22)),(.ref (A 23)),(.ref (A 25)),(.ref (A 30)),(.ref (A 32)),(.ref (A 36))]) [0,1,34] [0],uT (fun A J O ρ=>jh w.params h g (A 6) (A 0) (A 1) er X1 Y1 (v7 (O 2)) (v7 (O 3)) n K t1 (A 8) (A 7) (A 9) (J 1) (J 2) (J 0) (J 6) (.ref (A 11)) (J 18) (.ref (A 34)) (J 48) (.str Ql (J 38)) (J 49) (.ref (A 31)) (J 50) .none (J 51) (.int 0 (J 40)) (J 46) (J 47) ρ) [6,0,1,2,3,4,5,8,7,9] [6,0,2,3,4,5] 1114 7] [] [] (b9 t1 hK 0 0 62 64 0) (aa (cI hD0) (dY (jC  hK (by omega)) ao)) ?_,
 fun {X1 Y1} hD0=>ba 922 (ce [jH,Ec,A4,1098,uy,1110443065,n3,pb,dh,pb,xH]) [u (fun A J O=>aJ w.params h g (A 0) (A 1) 0 er (A 34) 1 X0 Y0 7 X1 Y1 tx ty [(.ref (A 17)),(.ref (A 19)),(.ref (A 22)),(.ref (A 23)),(.ref (A 25)),(.ref (A 30)),(.ref (A 32)),(.ref (A 36))]) [0,1,34] [0],uT (fun A J O ρ=>jh w.params h g (A 6) (A 0) (A 1) er X1 Y1 (v7 (O 2)) (v7 (O 3)) n K t1 (A 8) (A 7) (A 9) (J 1) (J 2) (J 0) (J 6) (.ref (A 11)) (J 18) (.ref (A 34)) (J 48) (.str ER (J 42)) (J 49) (.ref (A 35)) (J 50) .none (J 51) (.int 0 (J 45)) (J 46) (J 47) ρ) [6,0,1,2,3,4,5,8,7,9] [6,0,2,3,4,5] 1114 7] [] [] (b9 t1 hK 0 0 62 64 0) (aa (cI hD0) (dY (jC  hK (by omega)) ao)) ?_⟩ <;> intro cb ν τ υ π ς ρ own past κ bl p <;> kernel_rfl
theorem FN {w h g s r er X0 Y0 tx ty R F n K t1} (hK:ag K=n) (hn:n≤900):CE w h g s r er X0 Y0 tx ty R F n K t1 1537 :=
 let ⟨d0,X1,Y1,h0⟩:=a0.ex X0 Y0 8
 match d0,h0.lt (by decide),h0 with
 | 0,_,h0=>(fb hK hn).1 h0
 | 1,_,h0=>(fb hK hn).2.1 h0
 | 2,_,h0=>(fb hK hn).2.2.1 h0
 | 3,_,h0=>(fb hK hn).2.2.2.1 h0
 | 4,_,h0=>(fb hK hn).2.2.2.2.1 h0
 | 5,_,h0=>(fb hK hn).2.2.2.2.2.1 h0
 | 6,_,h0=>(fb hK hn).2.2.2.2.2.2.1 h0
 | 7,_,h0=>(fb hK hn).2.2.2.2.2.2.2 h0
theorem pq {w h g s r er X0 Y0 tx ty R F n K t1} (hK:ag K=n) (hn:n≤900):(∀ {X1 Y1 D1 X2 Y2:Nat},a0 X0 Y0 3 0 X1 Y1→a0 X1 Y1 2 D1 X2 Y2→CE w h g s r er X0 Y0 tx ty R F n K t1 1544) ∧
 (∀ {X1 Y1 D1 X2 Y2:Nat},a0 X0 Y0 3 1 X1 Y1→a0 X1 Y1 2 D1 X2 Y2→CE w h g s r er X0 Y0 tx ty R F n K t1 1544) ∧
 (∀ {X1 Y1 D1 X2 Y2:Nat},a0 X0 Y0 3 2 X1 Y1→a0 X1 Y1 2 D1 X2 Y2→CE w h g s r er X0 Y0 tx ty R F n K t1 1544):=by
 refine ⟨fun {X1 Y1 D1 X2 Y2} hD0 hD1=>ba 867 (ce [w6,1062926,jl,w7,rY,zs,rY,xR]) [u (fun A J O=>ah w.params h g (A 0) (A 1) 0 er X0 Y0 0 X1 Y1 3 tx ty (J 10)) [0,1] [0],u (fun A J O=>bT w.params h g (A 0) (A 1) 0 er (A 15) 0 X1 Y1 D1 X2 Y2 (J 12) (J 13) #[120] #[] (J 14) (J 15)) [0,1,15] [0],u (fun A J O=>j1 w.params h g (J 20) (J 21) (.ref (A 10)) (J 22) (A 20) n K t1 (v7 (O 2)) (v7 (O 3)) (J 23)) [20,2,3,4,5] [2,3,4,5],u (fun A J O=>mH w.params h g (A 25) n K (J 24) (J 24) (A 23) (A 24) (J 26) (J 28) (J 29) (J 27) (J 30) (A 26) (A 27) (A 28) (J 31) (J 32) (J 33) (J 34) (A 22) (J 25) (J 24) (bj #[] [#[120],#[]] D1) (J 37) (J 38) (J 39) (A 29) 0 (J 11) (J 40) (.ref (A 7)) (A 30) (bj 0 [(J 14),(J 15)] D1) (J 42) (.ref (A 9)) (A 31) (A 32) ⟨.none,R.2,R.3,R.4,R.5,R.6,R.7⟩ ⟨.none,F.2,F.3,F.4,F.5,F.6,F.7⟩ (J 43)) [29,30,31,32,22,2,3,4,5,23,24,25,26,27,28] [2,3,26,28],u (fun A J O=>mt w.params h g (A 25) n K (J 24) (J 24) (A 23) (A 24) (J 26) (J 28) (J 29) (J 27) (J 30) (A 26) (A 27) (A 28) (A 34) (A 35) (J 11) 0 (J 45) (bj #[] [#[120],#[]] D1) (J 34) (bj 0 [(J 14),(J 15)] D1) (J 31) (J 32) (J 33) (J 44) (A 22) (J 25) (J 24) (J 7) (A 9) (J 51) (J 52) (J 53) (J 54) (J 55) (A 39) (J 49) (J 56) (.ref (A 7)) (A 40) (A 41) ⟨.none,R.2,R.3,R.4,R.5,R.6,R.7⟩ ⟨.none,F.2,F.3,F.4,F.5,F.6,F.7⟩ (J 58)) [34,35,9,39,40,41,22,2,3,4,5,23,24,25,26,27,28] [2,3],u (fun A J O=>gl w.params h g (A 25) n K (J 24) (J 24) (A 23) (A 24) (J 26) (J 28) (J 29) (J 27) (J 30) (A 26) (A 27) (A 28) (A 34) (A 35) (J 11) 0 (J 45) (bj #[] [#[120],#[]] D1) (J 34) (bj 0 [(J 14),(J 15)] D1) (J 31) (J 32) (J 33) (J 44) (A 22) (J 25) (J 24) (J 7) (A 9) (J 62) (J 63) (J 64) (J 65) (J 66) (A 44) 1 (J 60) (J 67) (.ref (A 7)) (A 45) (A 46) ⟨.none,(.bytes (bj #[] [#[120],#[]] D1) (bj 0 [(J 14),(J 15)] D1)),(.bool true),R.4,R.5,R.6,R.7⟩ ⟨.none,(.bool true),(.bool true),F.4,F.5,F.6,F.7⟩ (J 69)) [34,35,9,44,45,46,22,2,3,4,5,23,24,25,26,27,28] [2,3],u (fun A J O=>gl w.params h g (A 25) n K (J 24) (J 24) (A 23) (A 24) (J 26) (J 28) (J 29) (J 27) (J 30) (A 26) (A 27) (A 28) (A 34) (A 35) (J 11) 0 (J 45) (bj #[] [#[120],#[]] D1) (J 34) (bj 0 [(J 14),(J 15)] D1) (J 31) (J 32) (J 33) (J 44) (A 22) (J 25) (J 24) (J 7) (A 9) (J 75) (J 76) (J 77) (J 78) (J 79) (A 49) 2 (J 73) (J 80) (.ref (A 7)) (A 50) (A 51) ⟨.none,(.bytes #[] (J 70)),(.bool false),R.4,R.5,R.6,R.7⟩ ⟨.none,(.bool true),(.bool true),F.4,F.5,F.6,F.7⟩ (J 82)) [34,35,9,49,50,51,22,2,3,4,5,23,24,25,26,27,28] [2,3],u (fun A J O=>mo w.params h g (A 25) n K (J 24) (J 24) (A 23) (A 24) (J 26) (J 28) (J 29) (J 27) (J 30) (A 26) (A 27) (A 28) (A 34) (A 35) (J 11) 0 (J 45) (bj #[] [#[120],#[]] D1) (J 34) (bj 0 [(J 14),(J 15)] D1) (J 31) (J 32) (J 33) (J 44) (A 22) (J 25) (J 24) (J 86) (J 87) (J 88) (A 56) (J 11) (J 89) (.ref (A 7)) (A 57) (A 58) ⟨.none,(.bytes #[] (J 83)),(.bool false),R.4,R.5,R.6,R.7⟩ ⟨.none,(.bool true),(.bool true),F.4,F.5,F.6,F.7⟩ (J 90)) [34,35,56,57,58,22,2,3,4,5,23,24,25,26,27,28] [2,3,26,28],u (fun A J O=>mr w.params h g (A 25) n K (J 24) (J 24) (A 23) (A 24) (J 26) (J 28) (J 29) (J 27) (J 30) (A 26) (A 27) (A 28) 2 (J 31) (J 32) (J 33) (J 44) (A 22) (J 25) (J 24) (J 4) (.ref (A 8)) (.ref (A 9)) (A 10) #[] false (J 91) (J 92) (J 93) (J 94) (J 95) (A 61) (A 62) (J 83) ⟨.none,.none,.none,R.4,R.5,R.6,R.7⟩ ⟨.none,(.bool true),(.bool true),F.4,F.5,F.6,F.7⟩ (J 96)) [10,61,62,22,2,3,4,5,23,24,25,26,27,28] [2,3]] [23] [16,17,24] (b9 t1 hK X2 Y2 0 1 2) (aa (am (top:=3) hD0 (by decide) (by decide)) (aa (cr hD1) (aa (fB.2.2.2.2.2.2.2.2.2.2.1 hK (by omega)) (aa (fB.2.2.2.2.2.2.2.2.2.2.2 hK (by omega)) (aa (jG.1 hK (by omega)) (aa (jG.2.1 hK (by omega) (by decide)) (aa (jG.2.1 hK (by omega) (by decide)) (aa (jG.2.2.1 hK (by omega)) (aa (jG.2.2.2.1 hK (by omega)) ao))))))))) ?_,
 fun {X1 Y1 D1 X2 Y2} hD0 hD1=>ba 867 (ce [w6,1062926,ax,w7,tc,uX,1062926,jl,1025,zs,rY,xR]) [u (fun A J O=>ah w.params h g (A 0) (A 1) 0 er X0 Y0 1 X1 Y1 3 tx ty (J 10)) [0,1] [0],u (fun A J O=>bT w.params h g (A 0) (A 1) 0 er (A 15) 0 X1 Y1 D1 X2 Y2 (J 12) (J 13) #[120] #[] (J 14) (J 15)) [0,1,15] [0],u (fun A J O=>j1 w.params h g (J 20) (J 21) (.ref (A 10)) (J 22) (A 20) n K t1 (v7 (O 2)) (v7 (O 3)) (J 23)) [20,2,3,4,5] [2,3,4,5],u (fun A J O=>mH w.params h g (A 25) n K (J 24) (J 24) (A 23) (A 24) (J 26) (J 28) (J 29) (J 27) (J 30) (A 26) (A 27) (A 28) (J 31) (J 32) (J 33) (J 34) (A 22) (J 25) (J 24) (bj #[] [#[120],#[]] D1) (J 37) (J 38) (J 39) (A 29) 1 (J 11) (J 40) (.ref (A 7)) (A 30) (bj 0 [(J 14),(J 15)] D1) (J 42) (.ref (A 9)) (A 31) (A 32) ⟨.none,R.2,R.3,R.4,R.5,R.6,R.7⟩ ⟨.none,F.2,F.3,F.4,F.5,F.6,F.7⟩ (J 43)) [29,30,31,32,22,2,3,4,5,23,24,25,26,27,28] [2,3,26,28],u (fun A J O=>gl w.params h g (A 25) n K (J 24) (J 24) (A 23) (A 24) (J 26) (J 28) (J 29) (J 27) (J 30) (A 26) (A 27) (A 28) (A 34) (A 35) (J 11) 1 (J 45) (bj #[] [#[120],#[]] D1) (J 34) (bj 0 [(J 14),(J 15)] D1) (J 31) (J 32) (J 33) (J 44) (A 22) (J 25) (J 24) (J 7) (A 9) (J 51) (J 52) (J 53) (J 54) (J 55) (A 39) 0 (J 49) (J 56) (.ref (A 7)) (A 40) (A 41) ⟨.none,R.2,R.3,R.4,R.5,R.6,R.7⟩ ⟨.none,F.2,F.3,F.4,F.5,F.6,F.7⟩ (J 58)) [34,35,9,39,40,41,22,2,3,4,5,23,24,25,26,27,28] [2,3],u (fun A J O=>mt w.params h g (A 25) n K (J 24) (J 24) (A 23) (A 24) (J 26) (J 28) (J 29) (J 27) (J 30) (A 26) (A 27) (A 28) (A 34) (A 35) (J 11) 1 (J 45) (bj #[] [#[120],#[]] D1) (J 34) (bj 0 [(J 14),(J 15)] D1) (J 31) (J 32) (J 33) (J 44) (A 22) (J 25) (J 24) (J 7) (A 9) (J 64) (J 65) (J 66) (J 67) (J 68) (A 44) (J 62) (J 69) (.ref (A 7)) (A 45) (A 46) ⟨.none,(.bytes #[] (J 59)),(.bool false),R.4,R.5,R.6,R.7⟩ ⟨.none,(.bool true),(.bool true),F.4,F.5,F.6,F.7⟩ (J 71)) [34,35,9,44,45,46,22,2,3,4,5,23,24,25,26,27,28] [2,3],u (fun A J O=>gl w.params h g (A 25) n K (J 24) (J 24) (A 23) (A 24) (J 26) (J 28) (J 29) (J 27) (J 30) (A 26) (A 27) (A 28) (A 34) (A 35) (J 11) 1 (J 45) (bj #[] [#[120],#[]] D1) (J 34) (bj 0 [(J 14),(J 15)] D1) (J 31) (J 32) (J 33) (J 44) (A 22) (J 25) (J 24) (J 7) (A 9) (J 75) (J 76) (J 77) (J 78) (J 79) (A 49) 2 (J 73) (J 80) (.ref (A 7)) (A 50) (A 51) ⟨.none,(.bytes (bj #[] [#[120],#[]] D1) (bj 0 [(J 14),(J 15)] D1)),(.bool true),R.4,R.5,R.6,R.7⟩ ⟨.none,(.bool true),(.bool true),F.4,F.5,F.6,F.7⟩ (J 82)) [34,35,9,49,50,51,22,2,3,4,5,23,24,25,26,27,28] [2,3],u (fun A J O=>mo w.params h g (A 25) n K (J 24) (J 24) (A 23) (A 24) (J 26) (J 28) (J 29) (J 27) (J 30) (A 26) (A 27) (A 28) (A 34) (A 35) (J 11) 1 (J 45) (bj #[] [#[120],#[]] D1) (J 34) (bj 0 [(J 14),(J 15)] D1) (J 31) (J 32) (J 33) (J 44) (A 22) (J 25) (J 24) (J 86) (J 87) (J 88) (A 56) (J 11) (J 89) (.ref (A 7)) (A 57) (A 58) ⟨.none,(.bytes #[] (J 83)),(.bool false),R.4,R.5,R.6,R.7⟩ ⟨.none,(.bool true),(.bool true),F.4,F.5,F.6,F.7⟩ (J 90)) [34,35,56,57,58,22,2,3,4,5,23,24,25,26,27,28] [2,3,26,28],u (fun A J O=>mr w.params h g (A 25) n K (J 24) (J 24) (A 23) (A 24) (J 26) (J 28) (J 29) (J 27) (J 30) (A 26) (A 27) (A 28) 2 (J 31) (J 32) (J 33) (J 44) (A 22) (J 25) (J 24) (J 4) (.ref (A 8)) (.ref (A 9)) (A 10) #[] false (J 91) (J 92) (J 93) (J 94) (J 95) (A 61) (A 62) (J 83) ⟨.none,.none,.none,R.4,R.5,R.6,R.7⟩ ⟨.none,(.bool true),(.bool true),F.4,F.5,F.6,F.7⟩ (J 96)) [10,61,62,22,2,3,4,5,23,24,25,26,27,28] [2,3]] [23] [16,17,24] (b9 t1 hK X2 Y2 0 1 2) (aa (am (top:=3) hD0 (by decide) (by decide)) (aa (cr hD1) (aa (fB.2.2.2.2.2.2.2.2.2.2.1 hK (by omega)) (aa (fB.2.2.2.2.2.2.2.2.2.2.2 hK (by omega)) (aa (jG.2.1 hK (by omega) (by decide)) (aa (jG.1 hK (by omega)) (aa (jG.2.1 hK (by omega) (by decide)) (aa (jG.2.2.1 hK (by omega)) (aa (jG.2.2.2.1 hK (by omega)) ao))))))))) ?_,
 fun {X1 Y1 D1 X2 Y2} hD0 hD1=>ba 867 (ce [w6,1062926,ax,w7,rY,zs,tc,uX,1062926,jl,1025,xR]) [u (fun A J O=>ah w.params h g (A 0) (A 1) 0 er X0 Y0 2 X1 Y1 3 tx ty (J 10)) [0,1] [0],u (fun A J O=>bT w.params h g (A 0) (A 1) 0 er (A 15) 0 X1 Y1 D1 X2 Y2 (J 12) (J 13) #[120] #[] (J 14) (J 15)) [0,1,15] [0],u (fun A J O=>j1 w.params h g (J 20) (J 21) (.ref (A 10)) (J 22) (A 20) n K t1 (v7 (O 2)) (v7 (O 3)) (J 23)) [20,2,3,4,5] [2,3,4,5],u (fun A J O=>mH w.params h g (A 25) n K (J 24) (J 24) (A 23) (A 24) (J 26) (J 28) (J 29) (J 27) (J 30) (A 26) (A 27) (A 28) (J 31) (J 32) (J 33) (J 34) (A 22) (J 25) (J 24) (bj #[] [#[120],#[]] D1) (J 37) (J 38) (J 39) (A 29) 2 (J 11) (J 40) (.ref (A 7)) (A 30) (bj 0 [(J 14),(J 15)] D1) (J 42) (.ref (A 9)) (A 31) (A 32) ⟨.none,R.2,R.3,R.4,R.5,R.6,R.7⟩ ⟨.none,F.2,F.3,F.4,F.5,F.6,F.7⟩ (J 43)) [29,30,31,32,22,2,3,4,5,23,24,25,26,27,28] [2,3,26,28],u (fun A J O=>gl w.params h g (A 25) n K (J 24) (J 24) (A 23) (A 24) (J 26) (J 28) (J 29) (J 27) (J 30) (A 26) (A 27) (A 28) (A 34) (A 35) (J 11) 2 (J 45) (bj #[] [#[120],#[]] D1) (J 34) (bj 0 [(J 14),(J 15)] D1) (J 31) (J 32) (J 33) (J 44) (A 22) (J 25) (J 24) (J 7) (A 9) (J 51) (J 52) (J 53) (J 54) (J 55) (A 39) 0 (J 49) (J 56) (.ref (A 7)) (A 40) (A 41) ⟨.none,R.2,R.3,R.4,R.5,R.6,R.7⟩ ⟨.none,F.2,F.3,F.4,F.5,F.6,F.7⟩ (J 58)) [34,35,9,39,40,41,22,2,3,4,5,23,24,25,26,27,28] [2,3],u (fun A J O=>gl w.params h g (A 25) n K (J 24) (J 24) (A 23) (A 24) (J 26) (J 28) (J 29) (J 27) (J 30) (A 26) (A 27) (A 28) (A 34) (A 35) (J 11) 2 (J 45) (bj #[] [#[120],#[]] D1) (J 34) (bj 0 [(J 14),(J 15)] D1) (J 31) (J 32) (J 33) (J 44) (A 22) (J 25) (J 24) (J 7) (A 9) (J 64) (J 65) (J 66) (J 67) (J 68) (A 44) 1 (J 62) (J 69) (.ref (A 7)) (A 45) (A 46) ⟨.none,(.bytes #[] (J 59)),(.bool false),R.4,R.5,R.6,R.7⟩ ⟨.none,(.bool true),(.bool true),F.4,F.5,F.6,F.7⟩ (J 71)) [34,35,9,44,45,46,22,2,3,4,5,23,24,25,26,27,28] [2,3],u (fun A J O=>mt w.params h g (A 25) n K (J 24) (J 24) (A 23) (A 24) (J 26) (J 28) (J 29) (J 27) (J 30) (A 26) (A 27) (A 28) (A 34) (A 35) (J 11) 2 (J 45) (bj #[] [#[120],#[]] D1) (J 34) (bj 0 [(J 14),(J 15)] D1) (J 31) (J 32) (J 33) (J 44) (A 22) (J 25) (J 24) (J 7) (A 9) (J 77) (J 78) (J 79) (J 80) (J 81) (A 49) (J 75) (J 82) (.ref (A 7)) (A 50) (A 51) ⟨.none,(.bytes #[] (J 72)),(.bool false),R.4,R.5,R.6,R.7⟩ ⟨.none,(.bool true),(.bool true),F.4,F.5,F.6,F.7⟩ (J 84)) [34,35,9,49,50,51,22,2,3,4,5,23,24,25,26,27,28] [2,3],u (fun A J O=>mo w.params h g (A 25) n K (J 24) (J 24) (A 23) (A 24) (J 26) (J 28) (J 29) (J 27) (J 30) (A 26) (A 27) (A 28) (A 34) (A 35) (J 11) 2 (J 45) (bj #[] [#[120],#[]] D1) (J 34) (bj 0 [(J 14),(J 15)] D1) (J 31) (J 32) (J 33) (J 44) (A 22) (J 25) (J 24) (J 86) (J 87) (J 88) (A 56) (J 11) (J 89) (.ref (A 7)) (A 57) (A 58) ⟨.none,(.bytes (bj #[] [#[120],#[]] D1) (bj 0 [(J 14),(J 15)] D1)),(.bool true),R.4,R.5,R.6,R.7⟩ ⟨.none,(.bool true),(.bool true),F.4,F.5,F.6,F.7⟩ (J 90)) [34,35,56,57,58,22,2,3,4,5,23,24,25,26,27,28] [2,3,26,28],u (fun A J O=>mr w.params h g (A 25) n K (J 24) (J 24) (A 23) (A 24) (J 26) (J 28) (J 29) (J 27) (J 30) (A 26) (A 27) (A 28) 2 (J 31) (J 32) (J 33) (J 44) (A 22) (J 25) (J 24) (J 4) (.ref (A 8)) (.ref (A 9)) (A 10) (bj #[] [#[120],#[]] D1) true (J 91) (J 92) (J 93) (J 94) (J 95) (A 61) (A 62) (bj 0 [(J 14),(J 15)] D1) ⟨.none,.none,.none,R.4,R.5,R.6,R.7⟩ ⟨.none,(.bool true),(.bool true),F.4,F.5,F.6,F.7⟩ (J 96)) [10,61,62,22,2,3,4,5,23,24,25,26,27,28] [2,3]] [23] [16,17,24] (b9 t1 hK X2 Y2 0 1 2) (aa (am (top:=3) hD0 (by decide) (by decide)) (aa (cr hD1) (aa (fB.2.2.2.2.2.2.2.2.2.2.1 hK (by omega)) (aa (fB.2.2.2.2.2.2.2.2.2.2.2 hK (by omega)) (aa (jG.2.1 hK (by omega) (by decide)) (aa (jG.2.1 hK (by omega) (by decide)) (aa (jG.1 hK (by omega)) (aa (jG.2.2.1 hK (by omega)) (aa (jG.2.2.2.1 hK (by omega)) ao))))))))) ?_⟩ <;> intro cb ν τ υ π ς ρ own past κ bl p <;> kernel_rfl
theorem ET {w h g s r er X0 Y0 tx ty R F n K t1} (hK:ag K=n) (hn:n≤900):CE w h g s r er X0 Y0 tx ty R F n K t1 1544 :=
 let ⟨d0,X1,Y1,h0⟩:=a0.ex X0 Y0 3
 let ⟨d1,X2,Y2,h1⟩:=a0.ex X1 Y1 2
 match d0,h0.lt (by decide),h0 with
 | 0,_,h0=>(pq hK hn).1 h0 h1
 | 1,_,h0=>(pq hK hn).2.1 h0 h1
 | 2,_,h0=>(pq hK hn).2.2 h0 h1
theorem m9 {w h g s r er X0 Y0 tx ty R F n K t1} (hK:ag K=n) (hn:n≤900):(∀ {X1 Y1 X2 Y2:Nat},a0 X0 Y0 3 0 X1 Y1→a0 X1 Y1 2 0 X2 Y2→CE w h g s r er X0 Y0 tx ty R F n K t1 1551) ∧
 (∀ {X1 Y1 X2 Y2:Nat},a0 X0 Y0 3 0 X1 Y1→a0 X1 Y1 2 1 X2 Y2→CE w h g s r er X0 Y0 tx ty R F n K t1 1551) ∧
 (∀ {X1 Y1 X2 Y2:Nat},a0 X0 Y0 3 1 X1 Y1→a0 X1 Y1 2 0 X2 Y2→CE w h g s r er X0 Y0 tx ty R F n K t1 1551) ∧
 (∀ {X1 Y1 X2 Y2:Nat},a0 X0 Y0 3 1 X1 Y1→a0 X1 Y1 2 1 X2 Y2→CE w h g s r er X0 Y0 tx ty R F n K t1 1551):=by
 refine ⟨fun {X1 Y1 X2 Y2} hD0 hD1=>ba 1757 (ce [As,zd,1074884700,sC,1047,aw,pM,bq,0x4170043500052,jd,BN,1145682610258,zb,xZ,1053767,BC,sC,1047,ek,1025,Ds,1124208792576,jd,ai,1074927750,sC,1047,aw,1232785699964,bq,0x417004350007c,jd,AS,1145682653308,Bb,1053763,Bm,sC,1047,ae,Cf]) [u (fun A J O=>aJ w.params h g (A 0) (A 1) 0 er (A 19) 0 X0 Y0 0 X1 Y1 tx ty [(.ref (A 15)),(.ref (A 16)),(.ref (A 18))]) [0,1,19] [0],u (fun A J O=>aJ w.params h g (A 0) (A 1) 0 er (A 24) 0 X1 Y1 0 X2 Y2 (J 11) (J 12) [(.ref (A 23)),(.ref (A 9))]) [0,1,24] [0]] [] [17,18] (b9 t1 hK X2 Y2 0 0 2) (aa (aI hD0) (aa (cK hD1) ao)) ?_,
 fun {X1 Y1 X2 Y2} hD0 hD1=>ba 2072 (ce [As,zy,1074884700,ub,Bs,ub,wa,1166,kV,ai,1074935950,ub,tI,ub,rU]) [u (fun A J O=>aJ w.params h g (A 0) (A 1) 0 er (A 19) 0 X0 Y0 0 X1 Y1 tx ty [(.ref (A 15)),(.ref (A 16)),(.ref (A 18))]) [0,1,19] [0],u (fun A J O=>aJ w.params h g (A 0) (A 1) 0 er (A 24) 0 X1 Y1 1 X2 Y2 (J 11) (J 12) [(.ref (A 23)),(.ref (A 9))]) [0,1,24] [0]] [] [17,18] (b9 t1 hK X2 Y2 0 0 2) (aa (aI hD0) (aa (cK hD1) ao)) ?_,
 fun {X1 Y1 X2 Y2} hD0 hD1=>ba 2053 (ce [Ba,zd,1074884700,td,AJ,td,BW,1025,td,tI,td,rU]) [u (fun A J O=>aJ w.params h g (A 0) (A 1) 0 er (A 19) 0 X0 Y0 1 X1 Y1 tx ty [(.ref (A 15)),(.ref (A 16)),(.ref (A 18))]) [0,1,19] [0],u (fun A J O=>aJ w.params h g (A 0) (A 1) 0 er (A 24) 0 X1 Y1 0 X2 Y2 (J 11) (J 12) [(.ref (A 23)),(.ref (A 9))]) [0,1,24] [0]] [] [17,18] (b9 t1 hK X2 Y2 0 0 2) (aa (aI hD0) (aa (cK hD1) ao)) ?_,
 fun {X1 Y1 X2 Y2} hD0 hD1=>ba 1757 (ce [Ba,zy,1074884700,se,ff,1132626,bq,1106,kV,BN,1144608868434,zb,xZ,1053766,BC,se,1049614,Ds,kV,ai,1074927750,se,0x47c1f03d1f000,bq,1148,kV,AS,1144608911484,Bb,1053764,Bm,se,Cf]) [u (fun A J O=>aJ w.params h g (A 0) (A 1) 0 er (A 19) 0 X0 Y0 1 X1 Y1 tx ty [(.ref (A 15)),(.ref (A 16)),(.ref (A 18))]) [0,1,19] [0],u (fun A J O=>aJ w.params h g (A 0) (A 1) 0 er (A 24) 0 X1 Y1 1 X2 Y2 (J 11) (J 12) [(.ref (A 23)),(.ref (A 9))]) [0,1,24] [0],u (fun A J O=>dX w.params h g false true (DT.s true (A 9) 0 [(DT.v (.str Qc (J 3)))]) (DT.s true (A 9) 0 [(DT.v (.str Qc (J 3)))]) true [1]) [9] [],u (fun A J O=>dX w.params h g false true (DT.s true (A 9) 0 [(DT.v (.str Qc (J 3)))]) (DT.s true (A 9) 0 [(DT.v (.str Qc (J 3)))]) true [1]) [9] [],u (fun A J O=>dX w.params h g false true (DT.s true (A 9) 0 [(DT.v (.str Qc (J 3)))]) (DT.s true (A 9) 0 [(DT.v (.str Qc (J 3)))]) true [1]) [9] [],u (fun A J O=>dX w.params h g false true (DT.s true (A 9) 0 [(DT.v (.str Qc (J 3)))]) (DT.s true (A 9) 0 [(DT.v (.str Qc (J 3)))]) true [1]) [9] []] [] [17,18] (b9 t1 hK X2 Y2 0 0 2) (aa (aI hD0) (aa (cK hD1) (aa (gF true rfl (Nat.le_of_ble_eq_true (by kernel_rfl)) (.inl (eO (.same _) eN)) (by exact ED)) (aa (gF true rfl (Nat.le_of_ble_eq_true (by kernel_rfl)) (.inl (eO (.same _) eN)) (by exact ED)) (aa (gF true rfl (Nat.le_of_ble_eq_true (by kernel_rfl)) (.inl (eO (.same _) eN)) (by exact ED)) (aa (gF true rfl (Nat.le_of_ble_eq_true (by kernel_rfl)) (.inl (eO (.same _) eN)) (by exact ED)) ao)))))) ?_⟩ <;> intro cb ν τ υ π ς ρ own past κ bl p <;> kernel_rfl
theorem vm {w h g s r er X0 Y0 tx ty R F n K t1} (hK:ag K=n) (hn:n≤900):(∀ {X1 Y1 X2 Y2:Nat},a0 X0 Y0 3 2 X1 Y1→a0 X1 Y1 2 0 X2 Y2→CE w h g s r er X0 Y0 tx ty R F n K t1 1551) ∧
 (∀ {X1 Y1 X2 Y2:Nat},a0 X0 Y0 3 2 X1 Y1→a0 X1 Y1 2 1 X2 Y2→CE w h g s r er X0 Y0 tx ty R F n K t1 1551):=by
 refine ⟨fun {X1 Y1 X2 Y2} hD0 hD1=>ba 2053 (ce [DP,zd,1138167476316,sQ,AJ,1060,sQ,BW,1085441,sQ,tI,1060,sQ,rU]) [u (fun A J O=>aJ w.params h g (A 0) (A 1) 0 er (A 19) 0 X0 Y0 2 X1 Y1 tx ty [(.ref (A 15)),(.ref (A 16)),(.ref (A 18))]) [0,1,19] [0],u (fun A J O=>aJ w.params h g (A 0) (A 1) 0 er (A 24) 0 X1 Y1 0 X2 Y2 (J 11) (J 12) [(.ref (A 23)),(.ref (A 9))]) [0,1,24] [0]] [] [17,18] (b9 t1 hK X2 Y2 0 0 2) (aa (aI hD0) (aa (cK hD1) ao)) ?_,
 fun {X1 Y1 X2 Y2} hD0 hD1=>ba 2072 (ce [DP,zy,1138167476316,rQ,Bs,1060,rQ,wa,1166,kV,ai,1138167527566,rQ,tI,1060,rQ,rU]) [u (fun A J O=>aJ w.params h g (A 0) (A 1) 0 er (A 19) 0 X0 Y0 2 X1 Y1 tx ty [(.ref (A 15)),(.ref (A 16)),(.ref (A 18))]) [0,1,19] [0],u (fun A J O=>aJ w.params h g (A 0) (A 1) 0 er (A 24) 0 X1 Y1 1 X2 Y2 (J 11) (J 12) [(.ref (A 23)),(.ref (A 9))]) [0,1,24] [0]] [] [17,18] (b9 t1 hK X2 Y2 0 0 2) (aa (aI hD0) (aa (cK hD1) ao)) ?_⟩ <;> intro cb ν τ υ π ς ρ own past κ bl p <;> kernel_rfl
theorem Ft {w h g s r er X0 Y0 tx ty R F n K t1} (hK:ag K=n) (hn:n≤900):CE w h g s r er X0 Y0 tx ty R F n K t1 1551 :=
 let ⟨d0,X1,Y1,h0⟩:=a0.ex X0 Y0 3
 let ⟨d1,X2,Y2,h1⟩:=a0.ex X1 Y1 2
 match d0,h0.lt (by decide),h0 with
 | 0,_,h0 =>
  match d1,h1.lt (by decide),h1 with
  | 0,_,h1=>(m9 hK hn).1 h0 h1
  | 1,_,h1=>(m9 hK hn).2.1 h0 h1
 | 1,_,h0 =>
  match d1,h1.lt (by decide),h1 with
  | 0,_,h1=>(m9 hK hn).2.2.1 h0 h1
  | 1,_,h1=>(m9 hK hn).2.2.2 h0 h1
 | 2,_,h0 =>
  match d1,h1.lt (by decide),h1 with
  | 0,_,h1=>(vm hK hn).1 h0 h1
  | 1,_,h1=>(vm hK hn).2 h0 h1
theorem p5 {w h g s r er X0 Y0 tx ty R F n K t1} (hK:ag K=n) (hn:n≤900):(∀ {X1 Y1 X2 Y2:Nat},a0 X0 Y0 3 0 X1 Y1→a0 X1 Y1 2 0 X2 Y2→CE w h g s r er X0 Y0 tx ty R F n K t1 1561) ∧
 (∀ {X1 Y1 X2 Y2:Nat},a0 X0 Y0 3 0 X1 Y1→a0 X1 Y1 2 1 X2 Y2→CE w h g s r er X0 Y0 tx ty R F n K t1 1561) ∧
 (∀ {X1 Y1 X2 Y2:Nat},a0 X0 Y0 3 1 X1 Y1→a0 X1 Y1 2 0 X2 Y2→CE w h g s r er X0 Y0 tx ty R F n K t1 1561):=by
 refine ⟨fun {X1 Y1 X2 Y2} hD0 hD1=>ba 2832 (ce [DE,pd,dT,1100585480296,pc]) [u (fun A J O=>aJ w.params h g (A 0) (A 1) 0 er (A 13) 0 X0 Y0 0 X1 Y1 tx ty [(.bytes #[97] (J 7)),(.bytes #[] (J 8)),(.bytes #[97,98] (J 9))]) [0,1,13] [0],u (fun A J O=>bT w.params h g (A 0) (A 1) 0 er (A 14) 0 X1 Y1 0 X2 Y2 (J 10) (J 11) #[97] #[98] (J 12) (J 13)) [0,1,14] [0],u (fun A J O=>vu w.params h g (A 96) (A 100) 1 1 [(.int 97 (J 166))] [(.int 97 (J 167))]) [96,100] [],uT (fun A J O ρ=>lh w.params h g (A 6) (A 0) (A 1) er X2 Y2 (v7 (O 2)) (v7 (O 3)) (A 8) (J 3) (J 4) (J 0) (J 1) (J 5) (.ref (A 7)) (J 6) (J 16) (.bytes (bj #[] [#[97],#[98]] 0) (bj 0 [(J 12),(J 13)] 0)) (J 17) (.bytes #[97] (J 7)) (J 164) (.ref (A 40)) (J 14) (J 15) ρ) [6,0,1,2,3,8] [6,0,2,3] 1158 4] [] [] (b9 t1 hK 0 0 144 0 0) (aa (aI hD0) (aa (cr hD1) (aa (Ac (by exact ⟨⟨_,_,rfl⟩,trivial⟩) (by exact ⟨⟨_,_,rfl⟩,trivial⟩)) (dY n7 ao)))) ?_,
 fun {X1 Y1 X2 Y2} hD0 hD1=>ba 2832 (ce [DE,pd,dT,1100586528872,pc]) [u (fun A J O=>aJ w.params h g (A 0) (A 1) 0 er (A 13) 0 X0 Y0 0 X1 Y1 tx ty [(.bytes #[97] (J 7)),(.bytes #[] (J 8)),(.bytes #[97,98] (J 9))]) [0,1,13] [0],u (fun A J O=>bT w.params h g (A 0) (A 1) 0 er (A 14) 0 X1 Y1 1 X2 Y2 (J 10) (J 11) #[97] #[98] (J 12) (J 13)) [0,1,14] [0],u (fun A J O=>vu w.params h g (A 96) (A 100) 1 1 [(.int 97 (J 166))] [(.int 98 (J 167))]) [96,100] [],uT (fun A J O ρ=>lh w.params h g (A 6) (A 0) (A 1) er X2 Y2 (v7 (O 2)) (v7 (O 3)) (A 8) (J 3) (J 4) (J 0) (J 1) (J 5) (.ref (A 7)) (J 6) (J 16) (.bytes (bj #[] [#[97],#[98]] 1) (bj 0 [(J 12),(J 13)] 1)) (J 17) (.bytes #[97] (J 7)) (J 164) (.ref (A 40)) (J 14) (J 15) ρ) [6,0,1,2,3,8] [6,0,2,3] 1158 4] [] [] (b9 t1 hK 0 0 144 0 0) (aa (aI hD0) (aa (cr hD1) (aa (Ac (by exact ⟨⟨_,_,rfl⟩,trivial⟩) (by exact ⟨⟨_,_,rfl⟩,trivial⟩)) (dY n7 ao)))) ?_,
 fun {X1 Y1 X2 Y2} hD0 hD1=>ba 2804 (ce [Bo]) [u (fun A J O=>aJ w.params h g (A 0) (A 1) 0 er (A 13) 0 X0 Y0 1 X1 Y1 tx ty [(.bytes #[97] (J 7)),(.bytes #[] (J 8)),(.bytes #[97,98] (J 9))]) [0,1,13] [0],u (fun A J O=>bT w.params h g (A 0) (A 1) 0 er (A 14) 0 X1 Y1 0 X2 Y2 (J 10) (J 11) #[97] #[98] (J 12) (J 13)) [0,1,14] [0],u (fun A J O=>vu w.params h g (A 96) (A 100) 0 1 [] [(.int 97 (J 164))]) [96,100] [],uT (fun A J O ρ=>lh w.params h g (A 6) (A 0) (A 1) er X2 Y2 (v7 (O 2)) (v7 (O 3)) (A 8) (J 3) (J 4) (J 0) (J 1) (J 5) (.ref (A 7)) (J 6) (J 16) (.bytes (bj #[] [#[97],#[98]] 0) (bj 0 [(J 12),(J 13)] 0)) (J 17) (.bytes #[] (J 8)) (J 163) (.ref (A 40)) (J 14) (J 15) ρ) [6,0,1,2,3,8] [6,0,2,3] 1158 4] [] [] (b9 t1 hK 0 0 144 0 0) (aa (aI hD0) (aa (cr hD1) (aa (Ac (by exact trivial) (by exact ⟨⟨_,_,rfl⟩,trivial⟩)) (dY n7 ao)))) ?_⟩ <;> intro cb ν τ υ π ς ρ own past κ bl p <;> kernel_rfl
theorem oC {w h g s r er X0 Y0 tx ty R F n K t1} (hK:ag K=n) (hn:n≤900):(∀ {X1 Y1 X2 Y2:Nat},a0 X0 Y0 3 1 X1 Y1→a0 X1 Y1 2 1 X2 Y2→CE w h g s r er X0 Y0 tx ty R F n K t1 1561) ∧
 (∀ {X1 Y1 X2 Y2:Nat},a0 X0 Y0 3 2 X1 Y1→a0 X1 Y1 2 0 X2 Y2→CE w h g s r er X0 Y0 tx ty R F n K t1 1561) ∧
 (∀ {X1 Y1 X2 Y2:Nat},a0 X0 Y0 3 2 X1 Y1→a0 X1 Y1 2 1 X2 Y2→CE w h g s r er X0 Y0 tx ty R F n K t1 1561):=by
 refine ⟨fun {X1 Y1 X2 Y2} hD0 hD1=>ba 2804 (ce [Bo]) [u (fun A J O=>aJ w.params h g (A 0) (A 1) 0 er (A 13) 0 X0 Y0 1 X1 Y1 tx ty [(.bytes #[97] (J 7)),(.bytes #[] (J 8)),(.bytes #[97,98] (J 9))]) [0,1,13] [0],u (fun A J O=>bT w.params h g (A 0) (A 1) 0 er (A 14) 0 X1 Y1 1 X2 Y2 (J 10) (J 11) #[97] #[98] (J 12) (J 13)) [0,1,14] [0],u (fun A J O=>vu w.params h g (A 96) (A 100) 0 1 [] [(.int 98 (J 164))]) [96,100] [],uT (fun A J O ρ=>lh w.params h g (A 6) (A 0) (A 1) er X2 Y2 (v7 (O 2)) (v7 (O 3)) (A 8) (J 3) (J 4) (J 0) (J 1) (J 5) (.ref (A 7)) (J 6) (J 16) (.bytes (bj #[] [#[97],#[98]] 1) (bj 0 [(J 12),(J 13)] 1)) (J 17) (.bytes #[] (J 8)) (J 163) (.ref (A 40)) (J 14) (J 15) ρ) [6,0,1,2,3,8] [6,0,2,3] 1158 4] [] [] (b9 t1 hK 0 0 144 0 0) (aa (aI hD0) (aa (cr hD1) (aa (Ac (by exact trivial) (by exact ⟨⟨_,_,rfl⟩,trivial⟩)) (dY n7 ao)))) ?_,
 fun {X1 Y1 X2 Y2} hD0 hD1=>ba 2860 (ce [Cd,pd,dT,1100585480296,pc]) [u (fun A J O=>aJ w.params h g (A 0) (A 1) 0 er (A 13) 0 X0 Y0 2 X1 Y1 tx ty [(.bytes #[97] (J 7)),(.bytes #[] (J 8)),(.bytes #[97,98] (J 9))]) [0,1,13] [0],u (fun A J O=>bT w.params h g (A 0) (A 1) 0 er (A 14) 0 X1 Y1 0 X2 Y2 (J 10) (J 11) #[97] #[98] (J 12) (J 13)) [0,1,14] [0],u (fun A J O=>vu w.params h g (A 96) (A 100) 2 1 [(.int 97 (J 166)),(.int 98 (J 167))] [(.int 97 (J 168))]) [96,100] [],uT (fun A J O ρ=>lh w.params h g (A 6) (A 0) (A 1) er X2 Y2 (v7 (O 2)) (v7 (O 3)) (A 8) (J 3) (J 4) (J 0) (J 1) (J 5) (.ref (A 7)) (J 6) (J 16) (.bytes (bj #[] [#[97],#[98]] 0) (bj 0 [(J 12),(J 13)] 0)) (J 17) (.bytes #[97,98] (J 9)) (J 164) (.ref (A 40)) (J 14) (J 15) ρ) [6,0,1,2,3,8] [6,0,2,3] 1158 4] [] [] (b9 t1 hK 0 0 144 0 0) (aa (aI hD0) (aa (cr hD1) (aa (Ac (by exact ⟨⟨_,_,rfl⟩,⟨⟨_,_,rfl⟩,trivial⟩⟩) (by exact ⟨⟨_,_,rfl⟩,trivial⟩)) (dY n7 ao)))) ?_,
 fun {X1 Y1 X2 Y2} hD0 hD1=>ba 2860 (ce [Cd,pd,dT,1100586528872,pc]) [u (fun A J O=>aJ w.params h g (A 0) (A 1) 0 er (A 13) 0 X0 Y0 2 X1 Y1 tx ty [(.bytes #[97] (J 7)),(.bytes #[] (J 8)),(.bytes #[97,98] (J 9))]) [0,1,13] [0],u (fun A J O=>bT w.params h g (A 0) (A 1) 0 er (A 14) 0 X1 Y1 1 X2 Y2 (J 10) (J 11) #[97] #[98] (J 12) (J 13)) [0,1,14] [0],u (fun A J O=>vu w.params h g (A 96) (A 100) 2 1 [(.int 97 (J 166)),(.int 98 (J 167))] [(.int 98 (J 168))]) [96,100] [],uT (fun A J O ρ=>lh w.params h g (A 6) (A 0) (A 1) er X2 Y2 (v7 (O 2)) (v7 (O 3)) (A 8) (J 3) (J 4) (J 0) (J 1) (J 5) (.ref (A 7)) (J 6) (J 16) (.bytes (bj #[] [#[97],#[98]] 1) (bj 0 [(J 12),(J 13)] 1)) (J 17) (.bytes #[97,98] (J 9)) (J 164) (.ref (A 40)) (J 14) (J 15) ρ) [6,0,1,2,3,8] [6,0,2,3] 1158 4] [] [] (b9 t1 hK 0 0 144 0 0) (aa (aI hD0) (aa (cr hD1) (aa (Ac (by exact ⟨⟨_,_,rfl⟩,⟨⟨_,_,rfl⟩,trivial⟩⟩) (by exact ⟨⟨_,_,rfl⟩,trivial⟩)) (dY n7 ao)))) ?_⟩ <;> intro cb ν τ υ π ς ρ own past κ bl p <;> kernel_rfl
theorem FA {w h g s r er X0 Y0 tx ty R F n K t1} (hK:ag K=n) (hn:n≤900):CE w h g s r er X0 Y0 tx ty R F n K t1 1561 :=
 let ⟨d0,X1,Y1,h0⟩:=a0.ex X0 Y0 3
 let ⟨d1,X2,Y2,h1⟩:=a0.ex X1 Y1 2
 match d0,h0.lt (by decide),h0 with
 | 0,_,h0 =>
  match d1,h1.lt (by decide),h1 with
  | 0,_,h1=>(p5 hK hn).1 h0 h1
  | 1,_,h1=>(p5 hK hn).2.1 h0 h1
 | 1,_,h0 =>
  match d1,h1.lt (by decide),h1 with
  | 0,_,h1=>(p5 hK hn).2.2 h0 h1
  | 1,_,h1=>(oC hK hn).1 h0 h1
 | 2,_,h0 =>
  match d1,h1.lt (by decide),h1 with
  | 0,_,h1=>(oC hK hn).2.1 h0 h1
  | 1,_,h1=>(oC hK hn).2.2 h0 h1
end
section
open PySem.SeqAt
noncomputable def ST.list:ST→List Cell
 | .nil=>[]
 | .node c l r=>c::(l.list ++ r.list)
theorem ST.get_list:∀ {t:ST} {i:Nat} {c:Cell},t.get i=some c→c∈t.list
 | .nil,i,c,h=>by simp [ST.get] at h
 | .node v l r,i,c,h=>by
  unfold ST.get at h
  unfold ST.list
  split at h
  ·cases h; exact .head _
  ·split at h
   ·exact .tail _ (List.mem_append_left _ (ST.get_list h))
   ·exact .tail _ (List.mem_append_right _ (ST.get_list h))
noncomputable def Spec.lift (S:Spec) (E:List Cell):Spec:={ S with pre:=S.pre ++ bU E }
noncomputable def m4:List Cell→Bool
 | []=>true
 | c::l=>match aU c.o with
  | true=>false
  | false=>m4 l
theorem ot {d:Cell} {l:List Cell} (h:m4 (d::l)=true):aU d.o=false∧m4 l=true:=by
 have e:m4 (d::l)=(match aU d.o with | true=>false | false=>m4 l):=rfl
 rw [e] at h
 generalize aU d.o=b at h
 cases b with
 | true=>exact absurd h Bool.false_ne_true
 | false=>exact ⟨rfl,h⟩
theorem qF {l:List Cell} {c:Cell} (h:m4 l=true) (hc:c∈l):aU c.o=false:=by
 induction l with
 | nil=>exact absurd hc List.not_mem_nil
 | cons d l ih =>
  have hh:=ot h
  rcases List.mem_cons.mp hc with e | hc
  ·rw [e]; exact hh.1
  ·exact ih hh.2 hc
theorem tJ (P:Params) (h g:Nat→Nat):m4 (EN P h g).list=true:=by kernel_rfl
theorem Spec.HoldsE.lift {w:World} {h g:Nat→Nat} {S:Post→Spec} (H:Spec.HoldsE (BB w h g) S) (hdi:∀ ρ,(S ρ).di=false):Spec.HoldsE (B2 w .nil) (fun ρ=>(S ρ).lift (EN w.params h g).list):=by
 intro Γ p s R ρ₀ ok k
 have hp:∀ c,c∈(EN w.params h g).list→s.heap.get? c.a=some c.o:=fun c hc=>by
  have:=(ok.pre (c.a,c.o) (List.mem_append_right _ (dH hc))).1
  rw [show ((S ρ₀).lift (EN w.params h g).list).di=false from hdi ρ₀] at this
  exact this.exact rfl
 have hnd:((S ρ₀).pre.map (·.1) ++ (bU (EN w.params h g).list).map (·.1)).Nodup:=by
  rw [← List.map_append]; exact ok.nd
 have topB:∀ s':Shared,dd (B2 w .nil) s'→(∀ c,c∈(EN w.params h g).list→s'.heap.get? c.a=some c.o)→dd (BB w h g) s':=fun s' ht hh=>⟨ht.1,fun i c e=>hh c (ST.get_list e)⟩
 refine H Γ p s R ρ₀ ⟨ok.code,ok.hand,ok.fit,ok.room,topB s ok.top hp,fun q=>?_,fun x hx=>?_,?_⟩ fun ρ s' bs ts A=>k ρ s' bs ts ⟨⟨A.top.1,fun i c e=>by simp [B2,ST.get] at e⟩,A.keep,A.size,A.gens,A.os,A.po,A.nw,A.new,A.nd,A.len,A.lent⟩
 ·obtain ⟨s1,s2⟩:=ok.stk q
  refine ⟨fun env he=>?_,s2⟩
  obtain ⟨q1,L,o,q2,q3,q4,q5,q6⟩:=s1 env he
  refine ⟨q1,L,o,q2,q3,q4,q5,q6.1,fun i c e ha=>?_⟩
  have hc:=ST.get_list e
  have:=hp c hc
  rw [ha,q3] at this
  cases this
  rw [qF (tJ w.params h g) hc] at q4
  cases q4
 ·obtain ⟨q1,q2⟩:=ok.pre x (List.mem_append_left _ hx)
  refine ⟨q1,q2.1,fun i c e ha=>?_⟩
  have hc:=ST.get_list e
  refine (List.nodup_append.mp hnd).2.2 x.1 (List.mem_map_of_mem hx) c.a ?_ ha.symm
  exact List.mem_map_of_mem (f:=(·.1)) (dH hc)
 ·exact (List.nodup_append.mp hnd).1
end
noncomputable def eY (P:Params) (h g:Nat→Nat) (s r e er X Y tx ty tt:Nat) (ρ:Post):RS:=ah P h g s r e er X Y (m7 ρ.d) ρ.X (ym ρ.Y) 7 tx ty tt
noncomputable def uA:List Nat→List Nat→Nat→Nat
 | k::ks,v::vs,i=>match Nat.beq k i with
  | true=>v
  | false=>uA ks vs i
 | _,_,_=>0
noncomputable def hK:List Nat:=[12,15,16,40,58,59,60,61,62,63,64,65,66,67,68,70,73,75,76,77,79,80,81,82,83,84,85,86,87,88,89,90,91,92,93,94,95,96,98,99,100,101,102,103,104,105,106,107,108,110,111,117,120,124,125,126]
noncomputable def gK:List Nat:=[63,169,171,173,175,177,179,181,183,185,187,189,191,195,198,199,201,203,205,219,221,223,225,226,229,232,235,238,241,244,247,250,253,256,259,262,265,268,271,274,277,279,281,283,285,287,289,291,293,295,297,311,317,325,360,361,363,364,366,368,370,372,374,376]
noncomputable def zp:List Value:=[.ref 1520,.ref 1525,.ref 1532,.ref 1537,.ref 1544,.ref 1551,.ref 1561]
noncomputable def jD (P:Params) (h g:Nat→Nat) (a e d t:Nat):RS:=au (aP Ld [.ref a,.int (Int.ofNat (m7 d)) t]) [⟨false,a,oL e zp⟩] (.ref (A9 (m7 d)))
noncomputable def Bz (P:Params) (h g:Nat→Nat) (d s r er X0 Y0 tx ty:Nat) (R F:V7) (n:Nat) (K:List (Nat × Value)) (t1:Nat) (ρ:Post):RS:={ Av P h g 0 s r er X0 Y0 tx ty R F n K t1 ρ with c:=.call (.ref (A9 d)) ⟨[.ref s,.ref (h 126)],[]⟩ }
noncomputable def RS.onE (D:RS) (E:List Cell):RS:={ D with cells:=D.cells ++ E }
noncomputable def yr (P:Params) (h g:Nat→Nat) (d s r er X0 Y0 tx ty:Nat) (R F:V7) (n:Nat) (K:List (Nat × Value)) (t1:Nat) (ρ:Post):RS:=(Bz P h g d s r er X0 Y0 tx ty R F n K t1 ρ).onE (EN P h g).list
noncomputable def hP (P:Params) (h g:Nat→Nat) (d s r er X0 Y0 tx ty:Nat) (R F:V7) (n:Nat) (K:List (Nat × Value)) (t1 a12 a15 a16 a40 a58 a59 a60 a61 a62 a63 a64 a65 a66 a67 a68 a70 a73 a75 a76 a77 a79 a80 a81 a82 a83 a84 a85 a86 a87 a88 a89 a90 a91 a92 a93 a94 a95 a96 a98 a99 a100 a101 a102 a103 a104 a105 a106 a107 a108 a110 a111 a117 a120 a124 a125 a126 g63 g169 g171 g173 g175 g177 g179 g181 g183 g185 g187 g189 g191 g195 g198 g199 g201 g203 g205 g219 g221 g223 g225 g226 g229 g232 g235 g238 g241 g244 g247 g250 g253 g256 g259 g262 g265 g268 g271 g274 g277 g279 g281 g283 g285 g287 g289 g291 g293 g295 g297 g311 g317 g325 g360 g361 g363 g364 g366 g368 g370 g372 g374 g376:Nat) (ρ:Post):RS:=yr P (uA hK [a12,a15,a16,a40,a58,a59,a60,a61,a62,a63,a64,a65,a66,a67,a68,a70,a73,a75,a76,a77,a79,a80,a81,a82,a83,a84,a85,a86,a87,a88,a89,a90,a91,a92,a93,a94,a95,a96,a98,a99,a100,a101,a102,a103,a104,a105,a106,a107,a108,a110,a111,a117,a120,a124,a125,a126]) (uA gK [g63,g169,g171,g173,g175,g177,g179,g181,g183,g185,g187,g189,g191,g195,g198,g199,g201,g203,g205,g219,g221,g223,g225,g226,g229,g232,g235,g238,g241,g244,g247,g250,g253,g256,g259,g262,g265,g268,g271,g274,g277,g279,g281,g283,g285,g287,g289,g291,g293,g295,g297,g311,g317,g325,g360,g361,g363,g364,g366,g368,g370,g372,g374,g376]) d s r er X0 Y0 tx ty R F n K t1 ρ
noncomputable def zf (P:Params) (h g:Nat→Nat) (d s r er X0 Y0 tx ty:Nat) (R F:V7) (t1 a12 a15 a16 a40 a58 a59 a60 a61 a62 a63 a64 a65 a66 a67 a68 a70 a73 a75 a76 a77 a79 a80 a81 a82 a83 a84 a85 a86 a87 a88 a89 a90 a91 a92 a93 a94 a95 a96 a98 a99 a100 a101 a102 a103 a104 a105 a106 a107 a108 a110 a111 a117 a120 a124 a125 a126 g63 g169 g171 g173 g175 g177 g179 g181 g183 g185 g187 g189 g191 g195 g198 g199 g201 g203 g205 g219 g221 g223 g225 g226 g229 g232 g235 g238 g241 g244 g247 g250 g253 g256 g259 g262 g265 g268 g271 g274 g277 g279 g281 g283 g285 g287 g289 g291 g293 g295 g297 g311 g317 g325 g360 g361 g363 g364 g366 g368 g370 g372 g374 g376:Nat) (ρ:Post):RS:=yr P (uA hK [a12,a15,a16,a40,a58,a59,a60,a61,a62,a63,a64,a65,a66,a67,a68,a70,a73,a75,a76,a77,a79,a80,a81,a82,a83,a84,a85,a86,a87,a88,a89,a90,a91,a92,a93,a94,a95,a96,a98,a99,a100,a101,a102,a103,a104,a105,a106,a107,a108,a110,a111,a117,a120,a124,a125,a126]) (uA gK [g63,g169,g171,g173,g175,g177,g179,g181,g183,g185,g187,g189,g191,g195,g198,g199,g201,g203,g205,g219,g221,g223,g225,g226,g229,g232,g235,g238,g241,g244,g247,g250,g253,g256,g259,g262,g265,g268,g271,g274,g277,g279,g281,g283,g285,g287,g289,g291,g293,g295,g297,g311,g317,g325,g360,g361,g363,g364,g366,g368,g370,g372,g374,g376]) d s r er X0 Y0 tx ty R F 0 [] t1 ρ
noncomputable def CD (P:Params) (h g:Nat→Nat) (s r er X0 Y0 tx ty:Nat) (R F:V7) (n:Nat) (K:List (Nat × Value)) (t1 u1 u2 u3 u4:Nat):RS:=aH 600 (Ab) true (aq 1520 [.ref s,.ref (h 126)]) [⟨true,s,bM 0 X0 Y0 tx ty r⟩,⟨true,r,oL er [.int 1 u1,.int 0 u2,.int 0 u3,.int 2 u4]⟩,cS h true R,d8 h true F,bN P h g true n t1,cW h true n K]
noncomputable def Fz (P:Params) (h g:Nat→Nat) (a e:Nat):RS:=aH 649 [[.caller]] true (aq 1568 [.ref a]) [⟨false,a,oL e []⟩]
noncomputable def mx (P:Params) (h:Nat→Nat) (g:Nat→Nat) (s:Nat) (r:Nat) (er:Nat) (X0:Nat) (Y0:Nat) (tx:Nat) (ty:Nat) (R:V7) (F:V7) (n:Nat) (K:List (Nat × Value)) (t1:Nat) (u1:Nat) (u2:Nat) (u3:Nat) (u4:Nat):RS:=(CD P h g s r er X0 Y0 tx ty R F n K t1 u1 u2 u3 u4).fin [67,68,63] [206,129,130,128,131,132,122,123,124] (fun b t=>[(oL 0 [(.int (Int.ofNat X0) tx),(.int (Int.ofNat Y0) ty),(.ref r)]),(oL (Nat.succ (Nat.succ (Nat.succ (Nat.succ er)))) []),(oL 0 (fG (.bytes #[97,195,169] (nb t 0)) R)),(oL 7 (fG (.bool true) F)),(bN P h g true (n+1) (nb t 1)).o,(oK (n+1) (List.cons (Prod.mk (nb t 1) (.ref (nb b 0))) K))]) (fun b t=>[⟨(.ref 1271),(some (nb b 1)),Data.plain,#[]⟩,⟨(.type L0),none,(Data.dict #[(eS P Q8 (nb t 2) (.str Qa (nb t 3))),(eS P Q9 (nb t 4) (.ref (nb b 2))),(eS P Q7 (nb t 5) (.str Q6 2089))] 3),#[]⟩,(oL 3 [(.int 97 (nb t 6)),(.int 195 (nb t 7)),(.int 169 (nb t 8))])]) (fun b t=>(ok (.bool true)))
noncomputable def wg (P:Params) (h g:Nat→Nat) (s r er X0 Y0 tx ty:Nat) (R F:V7) (t1 u1 u2 u3 u4 a12 a15 a16 a40 a58 a59 a60 a61 a62 a63 a64 a65 a66 a67 a68 a70 a73 a75 a76 a77 a79 a80 a81 a82 a83 a84 a85 a86 a87 a88 a89 a90 a91 a92 a93 a94 a95 a96 a98 a99 a100 a101 a102 a103 a104 a105 a106 a107 a108 a110 a111 a117 a120 a124 a125 a126 g63 g169 g171 g173 g175 g177 g179 g181 g183 g185 g187 g189 g191 g195 g198 g199 g201 g203 g205 g219 g221 g223 g225 g226 g229 g232 g235 g238 g241 g244 g247 g250 g253 g256 g259 g262 g265 g268 g271 g274 g277 g279 g281 g283 g285 g287 g289 g291 g293 g295 g297 g311 g317 g325 g360 g361 g363 g364 g366 g368 g370 g372 g374 g376:Nat):RS:=(mx P (uA hK [a12,a15,a16,a40,a58,a59,a60,a61,a62,a63,a64,a65,a66,a67,a68,a70,a73,a75,a76,a77,a79,a80,a81,a82,a83,a84,a85,a86,a87,a88,a89,a90,a91,a92,a93,a94,a95,a96,a98,a99,a100,a101,a102,a103,a104,a105,a106,a107,a108,a110,a111,a117,a120,a124,a125,a126]) (uA gK [g63,g169,g171,g173,g175,g177,g179,g181,g183,g185,g187,g189,g191,g195,g198,g199,g201,g203,g205,g219,g221,g223,g225,g226,g229,g232,g235,g238,g241,g244,g247,g250,g253,g256,g259,g262,g265,g268,g271,g274,g277,g279,g281,g283,g285,g287,g289,g291,g293,g295,g297,g311,g317,g325,g360,g361,g363,g364,g366,g368,g370,g372,g374,g376]) s r er X0 Y0 tx ty R F 0 [] t1 u1 u2 u3 u4).onE (EN P (uA hK [a12,a15,a16,a40,a58,a59,a60,a61,a62,a63,a64,a65,a66,a67,a68,a70,a73,a75,a76,a77,a79,a80,a81,a82,a83,a84,a85,a86,a87,a88,a89,a90,a91,a92,a93,a94,a95,a96,a98,a99,a100,a101,a102,a103,a104,a105,a106,a107,a108,a110,a111,a117,a120,a124,a125,a126]) (uA gK [g63,g169,g171,g173,g175,g177,g179,g181,g183,g185,g187,g189,g191,g195,g198,g199,g201,g203,g205,g219,g221,g223,g225,g226,g229,g232,g235,g238,g241,g244,g247,g250,g253,g256,g259,g262,g265,g268,g271,g274,g277,g279,g281,g283,g285,g287,g289,g291,g293,g295,g297,g311,g317,g325,g360,g361,g363,g364,g366,g368,g370,g372,g374,g376])).list
section
open PySem.SeqAt
noncomputable def z1:List Value→Nat
 | []=>0
 | _::_=>1
noncomputable def Et (P:Params) (h g:Nat→Nat) (tu:Bool) (a b n:Nat) (m:List Value):RS:=(au (.builtin Mine.SL.s13725091732456768858x13 ⟨[.ref a,.ref b],[]⟩) [⟨true,a,oL 0 []⟩,⟨false,b,match tu with | true=>oT m | false=>oL n m⟩] .none).fin [] [] (fun _ _=>[oL (z1 m) m]) (fun _ _=>[]) (fun _ _=>ok .none)
noncomputable def CL (P:Params) (h g:Nat→Nat) (a b:Nat) (m:List Value):RS:=Et P h g true a b 0 m
noncomputable def vY (P:Params) (h g:Nat→Nat) (a b n:Nat) (m:List Value):RS:=Et P h g false a b n m
theorem nV {B:Base} {D:RS} {s s':Shared} {d:Nat} {o':Obj} (ht:dd B s) (hfree:B.Free d) (hmu:cC D.cells=[d]) (hb:D.bx=[]) (htx:D.tx=[])
 (hpo:D.po [] [] CA q0=[o']) (ne:∀ b,b≠d→s'.heap.get? b=s.heap.get? b) (at_:s'.heap.get? d=some o') (hz:s.heap.objs.size≤s'.heap.objs.size) (h2:s'.gens=s.gens) (h3:s'.os=s.os):After B D.S s s' [] []:=by
 have em:D.S.mu=[d]:=hmu
 refine ⟨⟨fun a x h=>?_,fun i c h=>?_⟩,fun a x h q=>.inl ?_,hz,h2,h3,fun j a x h hx=>?_,fun j a o h=>by simp at h,fun a h=>by simp at h,List.nodup_nil,?_,?_⟩
 ·rw [ne a (fun e=>by subst e; have:=hfree.1; rw [h] at this; cases this)]; exact ht.1 a x h
 ·rw [ne c.a (hfree.2 i c h)]; exact ht.2 i c h
 ·rw [ne a (fun e=>q (by rw [em,e]; exact List.mem_singleton.mpr rfl))]; exact h
 ·rw [em] at h
  have hp:(D.S.po [] [])=[o']:=hpo
  rw [hp] at hx
  cases j with
  | zero =>
   simp only [List.getElem?_cons_zero,Option.some.injEq] at h hx
   subst h hx
   exact .inl at_
  | succ j=>simp at h
 ·show 0=ag D.bx; rw [hb]; rfl
 ·show 0=ag D.tx; rw [htx]; rfl
theorem EJ {en:ST} (w:World) (h g:Nat→Nat) (tu:Bool) (a b n:Nat) (m:List Value) (hm:m.length≤1000):(Et w.params h g tu a b n m).S.Holds (B2 w en):=by
 cases tu
 all_goals
  refine aj rfl fun A s₀ R hh hu hlv ht hcell hnd kk=>?_
  have o1:s₀.heap.get? a=some (oL 0 []):=(hcell _ (.head _)).1
  have o2:s₀.heap.get? b=some _:=(hcell _ (.tail _ (.head _))).1
  have hf:=(hcell _ (.head _)).2
  have o1':=o1
  unfold oL at o1
  rw [fZ] at o1
  show codeAny _ _ (.builtin _ _) _ _
  rw [show Mine.SL.s13725091732456768858x13 = "list.__init__" from aB (by kernel_rfl)]
  refine codeAny_builtin F.entry_list_init ?_
  rw [Around.under_plainId (by first | decide +kernel | kernel_rfl) _]
  have hne:b≠a:=fun e=>by
   subst e
   simp only [Et,RS.fin,RS.finO,au,aH,List.map_cons,List.nodup_cons,List.mem_cons,true_or,not_true,false_and] at hnd
  have hsz:(⟨m⟩:Array Value).size≤sizeLine:=Nat.le_trans hm (by decide)
  have hcd : ∃ T o n', (T = "list" ∨ T = "tuple") ∧ s₀.heap.get? b = some o ∧ o.cls = .type T ∧ o.data = .seq ⟨m⟩ n' := by
   first
    | exact ⟨_,_,_,.inr rfl,o2,mg,rfl⟩
    | exact ⟨_,_,_,.inl rfl,o2,fZ,rfl⟩
  obtain ⟨T,o,n',hT,ho,hc,hd⟩:=hcd
  refine wpAny_list_init_seq (hsz:=hsz) a b hT hne o1 ho hc hd ?_
  have g1:=Heap.get?_update_self (Obj.mapSeq (fun _=>(#[]:Array Value))) o1 rfl
  have g2:=Heap.get?_update_self (Obj.mapSeq (· ++ (⟨m⟩:Array Value))) g1 rfl
  refine kk _ [] [] (nV (d:=a) (o':=oL (z1 m) m) ht hf rfl rfl rfl rfl (fun b hb=>?_) ?_ ?_ rfl rfl)
  ·show ((s₀.heap.update a _).update a _).get? b=_
   rw [Heap.get?_update_ne _ _ _ _ hb,Heap.get?_update_ne _ _ _ _ hb]
  ·refine g2.trans ?_
   cases m with
   | nil => show some (⟨.type "list", _, .seq _ _, _⟩ : Obj) = _; rw [← fZ]; rfl
   | cons v m =>
    show some (⟨.type "list", _, .seq (#[] ++ ⟨v :: m⟩) _, _⟩ : Obj) = _
    rw [← fZ]
    simp [oL,z1]
  ·show _≤((s₀.heap.update a _).update a _).objs.size
   rw [Heap.size_after_update,Heap.size_after_update]; exact Nat.le_refl _
end
noncomputable def yE (P:Params) (h:Nat→Nat) (g:Nat→Nat) (a:Nat) (e:Nat):RS:=(Fz P h g a e).fin [] [] nN nN (fun b t=>(ok (.bool true)))
theorem Bt (w:World) h g a e (cb:Bool):(yE w.params h g a e).Runs2 (B2 w .nil) 5316 (ce [fp,fp,ai,0x408000030200000c08,cy,1050634,cy,1076895744,ae,hE,1032,av,1060876,ak,0x4100000e0000c,xt,0x4100001001c10,xt,bh,1040,xt,0x102003020000400704014,iW,1076895744,hE,hE,1025,ey,1056776,cy,1050646,cy,1077936136,ak,1052,ae,0x107000070000701c,dW,nE,ja,jJ,jJ,jJ,jJ,ni,ni,ae,1070,r4,1101709443120,qY,ni,ni,ni,1119926318,y0,1100589563946,gG,iW,c4,1128267828,ja,1075254,fq,1130420224,ei,pU,0x10001b0e00006c38,ka,ck,0x41b0e0001482814852,ae,rm,ck,0x4001582a15856,ka,ae,ck,1116,lo,ck,1116,lo,ck,1116,lo,0x4380001b0e000,CO,1080,dW,1228360769536,cQ,p6,p6,1073803386,uj,uj,uj,uj,1132519424,dW,1234803226624,cQ,tN,tN,1073806464,ug,ug,ug,ug,1132519424,dW,1241245683712,cQ,1116294,jB,jB,jB,jB,1185792,uK,1158,uK,1158,uK,1158,uK,sq,sq,sq,sq,1078,ei,1078,ei,1078,ei,1078,ei,1078,ei,1078,ei,1078,ei,1078,ei,1078,ei,1078,ei,1078,ei,1078,ei,gG,fN,1237319836,ja,0x49e0004e278001389e,rr,1182,rr,1182,rr,1210526,rr,1182,rr,dW,ae,1247805606,cQ,qQ,1247977640,av,Cy,1218728,av,Cy,dW,1286342883328,cQ,lF,lF,1073831088,uS,uS,uS,uS,s9,s9,s9,s9,qP,pX,pX,pX,pX,pX,uu,c4,ck,pa,pa,pa,pa,pa,0x1358d6358b2358d63586a358d6,pR,pR,pR,pR,pR,1202,iK,1256374486,av,1198,D3,1052672,dW,1359357396992,ja,0x13d0f4000793d0001e4f40007a3d8793d0001e4f4,gZ,ae,1270,bi,1365799854328,ds,Ax,ae,1270,ae,1262,na,ae,1274,ae,0x13d0fc3e0fc000f8000f83f0f83e8003e8003e8fa,gZ,av,Ax,av,0x140100400004000040100,ak,0x502001020010220003409004010000100,lD,lD,lD,lD,lD,lD,lD,0x4f4209064190a40902,gZ,1268,gZ,1268,gZ,1298676,gZ,1298676,gZ,1268,gZ,1268,gZ,1268,gZ,kq,c4,1077937156,ae,CW,kq,c4,0x146118460004600046118,ak,0x12311a2311a4691a468004680046800469184611800118,kq,1077936132,ai,0x51c0008d470002351c,iz,1106253977601,cy,1308,iz,0x1470060080601800018000180601806,ae,0x40401116001160011645916,c3,ak,zJ,1051477,ak,zJ,1051480,ak,zJ,1051483,ak,0x14a11a4691a0011a0011a]) [⟨fun A tk O ρs ρ=>(dX w.params h g true false (DT.s false (A 0) e []) (DT.s false (A 4) 0 []) false []).S,[0,4],[],none⟩,⟨fun A tk O ρs ρ=>(dX w.params h g false false (DT.s false (A 0) e []) (DT.s false (A 10) 0 []) true []).S,[0,10],[],none⟩,⟨fun A tk O ρs ρ=>(vY w.params h g (A 23) (A 14) 0 [(.ref (A 12)),(.ref (A 12)),(.ref (A 12)),(.ref (A 12)),(.ref (A 12)),(.ref (A 12)),(.ref (A 12))]).S,[23,14],[23],none⟩,⟨fun A tk O ρs ρ=>(CL w.params h g (A 123) (A 118) []).S,[123,118],[123],none⟩,⟨fun A tk O ρs ρ=>(dX w.params h g true false (DT.s false (A 2) 0 [(DT.v (.int 0 (tk 1))),(DT.v (.int 1 (tk 2))),(DT.v (.int 0 (tk 3))),(DT.v (.int 0 (tk 4))),(DT.v (.int 2 (tk 5)))]) (DT.s false (A 142) 0 []) true []).S,[2,142],[],none⟩,⟨fun A tk O ρs ρ=>(wg w.params h g (A 11) (A 2) 1 0 820607 (tk 27) (tk 21) (v7 (O 125)) (v7 (O 129)) (tk 196) (tk 2) (tk 3) (tk 4) (tk 5) (A 21) (A 24) (A 25) (A 49) (A 67) (A 68) (A 69) (A 70) (A 71) (A 72) (A 73) (A 74) (A 75) (A 76) (A 77) (A 79) (A 82) (A 84) (A 85) (A 86) (A 88) (A 89) (A 90) (A 91) (A 92) (A 93) (A 94) (A 95) (A 96) (A 97) (A 98) (A 99) (A 100) (A 101) (A 102) (A 103) (A 104) (A 105) (A 107) (A 108) (A 109) (A 110) (A 111) (A 112) (A 113) (A 114) (A 115) (A 116) (A 117) (A 119) (A 120) (A 126) (A 129) (A 133) (A 134) (A 135) (tk 63) (tk 169) (tk 171) (tk 173) (tk 175) (tk 177) (tk 179) (tk 181) (tk 183) (tk 185) (tk 187) (tk 189) (tk 191) (tk 195) (tk 198) (tk 199) (tk 201) (tk 203) (tk 205) (tk 219) (tk 221) (tk 223) (tk 225) (tk 226) (tk 229) (tk 232) (tk 235) (tk 238) (tk 241) (tk 244) (tk 247) (tk 250) (tk 253) (tk 256) (tk 259) (tk 262) (tk 265) (tk 268) (tk 271) (tk 274) (tk 277) (tk 279) (tk 281) (tk 283) (tk 285) (tk 287) (tk 289) (tk 291) (tk 293) (tk 295) (tk 297) (tk 311) (tk 317) (tk 325) (tk 360) (tk 361) (tk 363) (tk 364) (tk 366) (tk 368) (tk 370) (tk 372) (tk 374) (tk 376)).S,[11,2,126,129,76,79,135,86,88,84,97,114,92,108,24,119,103,116,95,110,85,25,120,99,115,94,109,77,90,107,96,111],[11,2,126,129,76,79],none⟩,⟨fun A tk O ρs ρ=>(eY w.params h g (A 11) (A 2) 0 5 0 820607 (tk 27) (tk 21) (tk 403) ρ).S,[11,2],[11],none⟩,⟨fun A tk O ρs ρ=>(jD w.params h g (A 138) 0 (ρs 152).3 (tk 404)).S,[138],[],none⟩,⟨fun A tk O ρs ρ=>(hP w.params h g (m7 (ρs 152).3) (A 11) (A 2) 5 (ρs 152).1 (ym (ρs 152).2) (tk 405) (tk 406) (v7 (O 126)) (v7 (O 129)) 1 [(Prod.mk (tk 393) (.ref (A 143)))] (tk 393) (A 21) (A 24) (A 25) (A 49) (A 67) (A 68) (A 69) (A 70) (A 71) (A 72) (A 73) (A 74) (A 75) (A 76) (A 77) (A 79) (A 82) (A 84) (A 85) (A 86) (A 88) (A 89) (A 90) (A 91) (A 92) (A 93) (A 94) (A 95) (A 96) (A 97) (A 98) (A 99) (A 100) (A 101) (A 102) (A 103) (A 104) (A 105) (A 107) (A 108) (A 109) (A 110) (A 111) (A 112) (A 113) (A 114) (A 115) (A 116) (A 117) (A 119) (A 120) (A 126) (A 129) (A 133) (A 134) (A 135) (tk 63) (tk 169) (tk 171) (tk 173) (tk 175) (tk 177) (tk 179) (tk 181) (tk 183) (tk 185) (tk 187) (tk 189) (tk 191) (tk 195) (tk 198) (tk 199) (tk 201) (tk 203) (tk 205) (tk 219) (tk 221) (tk 223) (tk 225) (tk 226) (tk 229) (tk 232) (tk 235) (tk 238) (tk 241) (tk 244) (tk 247) (tk 250) (tk 253) (tk 256) (tk 259) (tk 262) (tk 265) (tk 268) (tk 271) (tk 274) (tk 277) (tk 279) (tk 281) (tk 283) (tk 285) (tk 287) (tk 289) (tk 291) (tk 293) (tk 295) (tk 297) (tk 311) (tk 317) (tk 325) (tk 360) (tk 361) (tk 363) (tk 364) (tk 366) (tk 368) (tk 370) (tk 372) (tk 374) (tk 376) ρ).S,[11,2,126,129,76,79,135,86,88,84,97,114,92,108,24,119,103,116,95,110,85,25,120,99,115,94,109,77,90,107,96,111],[11,126,129,76,79],none⟩,⟨fun A tk O ρs ρ=>(eY w.params h g (A 11) (A 2) 0 5 (ρs 154).1 (ym (ρs 154).2) ((ρs 154).7 (OfNat.ofNat 0)) ((ρs 154).7 (OfNat.ofNat 1)) (tk 409) ρ).S,[11,2],[11],none⟩,⟨fun A tk O ρs ρ=>(jD w.params h g (A 138) 0 (ρs 155).3 (tk 410)).S,[138],[],none⟩,⟨fun A tk O ρs ρ=>(hP w.params h g (m7 (ρs 155).3) (A 11) (A 2) 5 (ρs 155).1 (ym (ρs 155).2) (tk 411) (tk 412) (v7 (O 126)) (v7 (O 129)) (ag (aG 3 (ρs 154).6)) (aG 3 (ρs 154).6) ((ρs 154).7 (OfNat.ofNat 2)) (A 21) (A 24) (A 25) (A 49) (A 67) (A 68) (A 69) (A 70) (A 71) (A 72) (A 73) (A 74) (A 75) (A 76) (A 77) (A 79) (A 82) (A 84) (A 85) (A 86) (A 88) (A 89) (A 90) (A 91) (A 92) (A 93) (A 94) (A 95) (A 96) (A 97) (A 98) (A 99) (A 100) (A 101) (A 102) (A 103) (A 104) (A 105) (A 107) (A 108) (A 109) (A 110) (A 111) (A 112) (A 113) (A 114) (A 115) (A 116) (A 117) (A 119) (A 120) (A 126) (A 129) (A 133) (A 134) (A 135) (tk 63) (tk 169) (tk 171) (tk 173) (tk 175) (tk 177) (tk 179) (tk 181) (tk 183) (tk 185) (tk 187) (tk 189) (tk 191) (tk 195) (tk 198) (tk 199) (tk 201) (tk 203) (tk 205) (tk 219) (tk 221) (tk 223) (tk 225) (tk 226) (tk 229) (tk 232) (tk 235) (tk 238) (tk 241) (tk 244) (tk 247) (tk 250) (tk 253) (tk 256) (tk 259) (tk 262) (tk 265) (tk 268) (tk 271) (tk 274) (tk 277) (tk 279) (tk 281) (tk 283) (tk 285) (tk 287) (tk 289) (tk 291) (tk 293) (tk 295) (tk 297) (tk 311) (tk 317) (tk 325) (tk 360) (tk 361) (tk 363) (tk 364) (tk 366) (tk 368) (tk 370) (tk 372) (tk 374) (tk 376) ρ).S,[11,2,126,129,76,79,135,86,88,84,97,114,92,108,24,119,103,116,95,110,85,25,120,99,115,94,109,77,90,107,96,111],[11,126,129,76,79],none⟩,⟨fun A tk O ρs ρ=>(eY w.params h g (A 11) (A 2) 0 5 (ρs 157).1 (ym (ρs 157).2) ((ρs 157).7 (OfNat.ofNat 0)) ((ρs 157).7 (OfNat.ofNat 1)) (tk 415) ρ).S,[11,2],[11],none⟩,⟨fun A tk O ρs ρ=>(jD w.params h g (A 138) 0 (ρs 158).3 (tk 416)).S,[138],[],none⟩,⟨fun A tk O ρs ρ=>(hP w.params h g (m7 (ρs 158).3) (A 11) (A 2) 5 (ρs 158).1 (ym (ρs 158).2) (tk 417) (tk 418) (v7 (O 126)) (v7 (O 129)) (ag (aG (Nat.succ (Nat.succ (List.brecOn.go (aG 3 (ρs 154).6) (ag._f)).1)) (ρs 157).6)) (aG (Nat.succ (Nat.succ (List.brecOn.go (aG 3 (ρs 154).6) (ag._f)).1)) (ρs 157).6) ((ρs 157).7 (OfNat.ofNat 2)) (A 21) (A 24) (A 25) (A 49) (A 67) (A 68) (A 69) (A 70) (A 71) (A 72) (A 73) (A 74) (A 75) (A 76) (A 77) (A 79) (A 82) (A 84) (A 85) (A 86) (A 88) (A 89) (A 90) (A 91) (A 92) (A 93) (A 94) (A 95) (A 96) (A 97) (A 98) (A 99) (A 100) (A 101) (A 102) (A 103) (A 104) (A 105) (A 107) (A 108) (A 109) (A 110) (A 111) (A 112) (A 113) (A 114) (A 115) (A 116) (A 117) (A 119) (A 120) (A 126) (A 129) (A 133) (A 134) (A 135) (tk 63) (tk 169) (tk 171) (tk 173) (tk 175) (tk 177) (tk 179) (tk 181) (tk 183) (tk 185) (tk 187) (tk 189) (tk 191) (tk 195) (tk 198) (tk 199) (tk 201) (tk 203) (tk 205) (tk 219) (tk 221) (tk 223) (tk 225) (tk 226) (tk 229) (tk 232) (tk 235) (tk 238) (tk 241) (tk 244) (tk 247) (tk 250) (tk 253) (tk 256) (tk 259) (tk 262) (tk 265) (tk 268) (tk 271) (tk 274) (tk 277) (tk 279) (tk 281) (tk 283) (tk 285) (tk 287) (tk 289) (tk 291) (tk 293) (tk 295) (tk 297) (tk 311) (tk 317) (tk 325) (tk 360) (tk 361) (tk 363) (tk 364) (tk 366) (tk 368) (tk 370) (tk 372) (tk 374) (tk 376) ρ).S,[11,2,126,129,76,79,135,86,88,84,97,114,92,108,24,119,103,116,95,110,85,25,120,99,115,94,109,77,90,107,96,111],[11,126,129,76,79],none⟩] cb:=by
 intro ν τ υ π ς ρ own past κ bl p
 kernel_rfl
theorem xX (w:World) h g s r er X0 Y0 tx ty R F n K t1 u1 u2 u3 u4 (cb:Bool):(mx w.params h g s r er X0 Y0 tx ty R F n K t1 u1 u2 u3 u4).RunsL (BB w h g) (EC w.params h g) 3127 (ce [nv,ek,ai,0x418000180000b0600002c18,ae,1048,ae,pu,1046,ai,sF,1050,pW,1052700,gQ,1101018113,rP,1050,ae,gC,1105229854,ak,1054,lW,wf,1056,wf,1056,wf,1060,dq,yy,oa,1076,ku,av,ai,r5,1105920,ae,1080,ae,0x4360003600036,sm,1082,pW,1052732,gQ,1134588929,rP,1082,ae,0x43600036000360d836,gS,ai,0x440000400001f1000007c40,ae,1088,ae,j4,1086,ai,1081410,l8,1116160,pW,1052740,gQ,1142981633,rP,1090,ae,jK,gS,ai,iG,iG,1094,pW,1052744,gQ,1147177985,rP,1094,ek,uv,1179046193152,ak,1098,jj,A4,1185449848906,kU,jl,jl,jl,1038,r6,0x4520a052148001480014852,ax,nY,1189794021460,yJ,yJ,yJ,0x11685a168580a454,ak,1198392344666,wq,lo,wq,lo,wq,1174451292,wU,BL,e8,1163376,ec,1106034,oj,1165312,aX,p9,bY,1165360,bq,p9,dK,1138,bq,1138,p1,0x11d0741d0130043700064,ak,0x11d8001d87600074,yb,yb,yb,0x10e0720007a0e8761d0761d800,oj,1138,aX,p9,1138,b8,1193396338,ai,0x10003d1f0000f47c0003d1f0000f47c,uD,uD,uD,uD,1148,dl,1148,bq,1148,oh,0x4261f826004120043500028,cU,1112082,av,1148,bi,px,1179711,ax,1210056834,yx,yx,yx,0x11f03d1f00021840208822080020800,mZ,1148,iP,1148,ae,0x4800008000080,ae,1148,ae,0x428000800008000080,cT,1126,av,0x12388e23800238002388e,ak,0x112494250020cc4912047014402408e2388e0008e,w2,1170,nn,xm,av,0x125896258002580025896,ak,0x112c03260962589600096,xy,xy,xy,1048728,nM,0x126852268010384d2709c2b098,kP,1100,iC,1042,xm,1286525335726,om,qz,1106,om,qz,0x4b02c8b000452,kb,1138775,kD,0x12e00016cb80005b2e00016cb8,fy,0x1004bc2f0002f0002f0bc,oI,1025,oI,0x12e05c2e85b2e0003005d2f001,b8,1237178,ai,0x130800180c20006030800180c2,br,1218,pE,1206,e8,1247426,ec,0x131000184c40006131000184c4,aX,1220,pE,1206,bY,1249369,bq,1220,pE,0x13101300437000b6,bq,1220,pE,1206,dK,1281562822,ak,1314469707974,uN,1253475,uN,1253475,uN,1253475,uN,0x13106131000184c4000613100033063,aX,1220,pE,1249462,b8,1279463620,ai,0x4ce0006633800198ce0006633800198ce,dl,1230,dl,1230,oh,gO,1230,dl,1230,oh,1064,bh,1230,br,1230,gR,1289853134,bq,1230,oh,0x42634826004120043500028,cU,1155090,av,1230,av,0x4d0340d0340d0340d0,ak,0x4d0340d4000d0,zS,zS,zS,kj,0x4d636869350d0,lT,1208,av,0x1370dc3700037000370dc,ak,0x11c0e238802170701bc6e0143f378dc370dc000dc,rH,1308856544,dT,1164399]) [⟨fun A tk O ρs ρ=>(bc w.params h g n K t1 (A 63) Qa (tk 128)).S,[4,5],[4,5],none⟩,⟨fun A tk O ρs ρ=>(cj w.params h g 3 97 (tk 122) 195 (tk 123) 169 (tk 124) (A 63) n K (tk 129) (tk 129) (A 67) (A 68) (tk 130) (tk 131) (tk 132) (tk 128) 2089 (tk 129) (tk 146) (A 78) (A 79)).S,[63,78,79,4,5,67,68],[],none⟩,⟨fun A tk O ρs ρ=>(c8 w.params h g 3 97 (tk 122) 195 (tk 123) 169 (tk 124) (A 63) n K (tk 129) (tk 129) (A 67) (A 68) (tk 130) (tk 131) (tk 132) (tk 128) 2089 (tk 129) (tk 149) (A 80) (A 81)).S,[63,80,81,4,5,67,68],[],none⟩,⟨fun A tk O ρs ρ=>(cg w.params h g 3 97 (tk 122) 195 (tk 123) 169 (tk 124) (A 63) n K (tk 129) (tk 129) (A 67) (A 68) (tk 130) (tk 131) (tk 132) (tk 128) 2089 (tk 129) (tk 152) (A 82) (A 83)).S,[63,82,83,4,5,67,68],[],none⟩,⟨fun A tk O ρs ρ=>(fE w.params h g 3 97 (tk 122) 195 (tk 123) 169 (tk 124) (A 63) n K (tk 129) (tk 129) (A 67) (A 68) (tk 130) (tk 131) (tk 132) (tk 128) 2089 (tk 126) (tk 129) (tk 133) (tk 135) (tk 137) (A 69)).S,[63,69,4,5,67,68],[],none⟩] cb:=by
 intro ν τ υ π ς ρ own past κ bl p
 kernel_rfl
section
open PySem.SeqAt
theorem BH {w:World} {h g s r er X0 Y0 tx ty R F n K t1 u1 u2 u3 u4} (hK:ag K=n) (hn:n≤900):(mx w.params h g s r er X0 Y0 tx ty R F n K t1 u1 u2 u3 u4).S.Holds (BB w h g):=RS.doneL (cw w h g) (yX w h g).all (.one fun cb=>xX w h g s r er X0 Y0 tx ty R F n K t1 u1 u2 u3 u4 cb) rfl (fun _ _=>rfl) (aO (fun _ _ _ _=>(dv.2.1 hK (by omega)).e) (aO (fun _ _ _ _=>(dS.2.2.1 hK (by omega)).e) (aO (fun _ _ _ _=>(dS.2.2.2.1 hK (by omega)).e) (aO (fun _ _ _ _=>(dS.2.2.2.2.1 hK (by omega)).e) (aO (fun _ _ _ _=>(l0.2.2.1 hK (by omega)).e) ao)))))
theorem fa:∀ (l m:List Cell),bU (l ++ m)=bU l ++ bU m
 | [],_=>rfl
 | c::l,m=>congrArg ((c.a,c.o)::·) (fa l m)
theorem m0 (l m:List Cell) (h:cC m=[]):cC (l ++ m)=cC l:=by
 induction l with
 | nil=>exact h
 | cons c l ih =>
  show cC (c::(l ++ m))=_
  unfold cC
  rw [ih]
theorem Ai (P:Params) (h g:Nat→Nat):cC (EN P h g).list=[]:=by kernel_rfl
theorem E4 (D:RS) (E:List Cell) (h:cC E=[]):(D.onE E).S=D.S.lift E:=by
 show (⟨D.lv,D.sh,D.c,bU (D.cells ++ E),cC (D.cells ++ E),_,_,_,_,_,_,_⟩:Spec)=⟨D.lv,D.sh,D.c,bU D.cells ++ bU E,cC D.cells,_,_,_,_,_,_,_⟩
 rw [fa,m0 _ _ h]
 rfl
theorem vH {w:World} {h g:Nat→Nat} {S:Post→RS} (H:Spec.HoldsE (BB w h g) (fun ρ=>(S ρ).S)) (hdi:∀ ρ,(S ρ).di=false):Spec.HoldsE (B2 w .nil) (fun ρ=>((S ρ).onE (EN w.params h g).list).S):=by
 have e:(fun ρ=>((S ρ).onE (EN w.params h g).list).S)=fun ρ=>(S ρ).S.lift (EN w.params h g).list:=funext fun ρ=>E4 _ _ (Ai _ _ _)
 rw [e]
 exact Spec.HoldsE.lift H hdi
theorem B7 {w:World} {h g:Nat→Nat} {d s r er X0 Y0 tx ty:Nat} {R F:V7} {n:Nat} {K:List (Nat × Value)} {t1:Nat} (hK:ag K=n) (hn:n≤900) (hd:d<7) :
 Spec.HoldsE (BB w h g) (fun ρ=>(Bz w.params h g d s r er X0 Y0 tx ty R F n K t1 ρ).S) :=
 match d,hd with
 | 0,_=>Fh hK hn
 | 1,_=>EV hK hn
 | 2,_=>Fg hK hn
 | 3,_=>FN hK hn
 | 4,_=>ET hK hn
 | 5,_=>Ft hK hn
 | 6,_=>FA hK hn
theorem pk (d:Nat):m7 d<7:=Nat.mod_lt _ (by decide)
theorem gb {w:World} {h g:Nat→Nat} {d s r er X0 Y0 tx ty:Nat} {R F:V7} {n:Nat} {K:List (Nat × Value)} {t1:Nat} (hK:ag K=n) (hn:n≤900) :
 Spec.HoldsE (B2 w .nil) (fun ρ=>(yr w.params h g (m7 d) s r er X0 Y0 tx ty R F n K t1 ρ).S) :=
 vH (B7 hK hn (pk d)) (fun _=>rfl)
theorem dg {w:World} {en:ST} {h g:Nat→Nat} {s r e er X Y tx ty tt:Nat}:Spec.HoldsE (B2 w en) (fun ρ=>(eY w.params h g s r e er X Y tx ty tt ρ).S):=by
 intro Γ p s₀ R ρ₀ ok k
 obtain ⟨d,X',Y',hD⟩:=a0.ex X Y 7
 have hm:m7 d=d:=Nat.mod_eq_of_lt (hD.lt (by decide))
 have H:(ah w.params h g s r e er X Y (m7 d) X' Y' (Int.ofNat 7) tx ty tt).S.Holds (B2 w en):=by
  rw [hm]
  exact fY w h g s r e er X Y d X' Y' 7 tx ty tt hD (by decide) (by decide)
 exact H Γ p s₀ R ⟨ok.code,ok.hand,ok.fit,ok.room,ok.top,ok.stk,ok.pre,ok.nd⟩ fun s' bs ts A=>k ⟨X',Y',d,⟨.none,.none,.none,.none,.none,.none,.none⟩,⟨.none,.none,.none,.none,.none,.none,.none⟩,[],fun _=>0,fun _=>{ cls:=.none }⟩ s' bs ts A
theorem qd:∀ d,d<7→fv zp d=.ref (A9 d)
 | 0,_=>rfl
 | 1,_=>rfl
 | 2,_=>rfl
 | 3,_=>rfl
 | 4,_=>rfl
 | 5,_=>rfl
 | 6,_=>rfl
theorem l9 {w:World} {en:ST} {h g:Nat→Nat} {a e d t:Nat}:(jD w.params h g a e d t).S.Holds (B2 w en):=by
 have H:=m6 (en:=en) w h g a e (m7 d) t zp (pk d) (Nat.le_of_ble_eq_true rfl)
 unfold lO at H
 rw [qd _ (pk d)] at H
 exact H
set_option smartUnfolding false in
theorem EY {w:World} {h g a e}:(yE w.params h g a e).S.Holds (B2 w .nil):=RS.done (dU w .nil) (.one2 fun cb=>Bt w h g a e cb) rfl (fun _ _=>rfl)
 (aO (fun _ _ _ r=>(gF true rfl (Nat.le_of_ble_eq_true (by kernel_rfl)) (.inl eN) jb).e)
 (aO (fun _ _ _ r=>(gF true rfl (Nat.le_of_ble_eq_true (by kernel_rfl)) (.inl eN) jb).e)
 (aO (fun _ _ _ r=>(EJ _ _ _ false _ _ _ _ (Nat.le_of_ble_eq_true rfl)).e)
 (aO (fun _ _ _ r=>(EJ _ _ _ true _ _ 0 _ (Nat.le_of_ble_eq_true rfl)).e)
 (aO (fun _ _ _ r=>(gF false rfl (Nat.le_of_ble_eq_true (by kernel_rfl)) (.inr ⟨rfl,(.left _ _)⟩) jb).e)
 (aO (fun _ _ _ r=>vH (S:=fun _=>mx _ _ _ _ _ _ _ _ _ _ _ _ _ _ _ _ _ _ _) (BH (n:=0) (K:=[]) rfl (Nat.zero_le _)).e (fun _=>rfl))
 (aO (fun _ _ _ r=>dg)
 (aO (fun _ _ _ r=>l9.e)
 (aO (fun _ _ _ r=>gb rfl (by decide))
 (aO (fun _ _ _ r=>dg)
 (aO (fun _ _ _ r=>l9.e)
 (aO (fun _ _ _ r=>gb rfl (Nat.le_trans (dD _ _) (by decide)))
 (aO (fun _ _ _ r=>dg)
 (aO (fun _ _ _ r=>l9.e)
 (aO (fun _ _ _ r=>gb rfl (Nat.le_trans (dD _ _) (Nat.succ_le_succ (m:=899) (Nat.succ_le_succ (m:=898) (show ag (aG 3 (r 154).K)≤898 from Nat.le_trans (dD _ _) (by decide))))))
 ao)))))))))))))))
end
section
open PySem.SeqAt
noncomputable def EU (P:Params) (h g:Nat→Nat) (b:Bool) (x y:Int) (t u:Nat):RS:=au (aP Mine.SL.s549184847318252788x10 [.int x t,.int y u]) [] (.bool b)
noncomputable def C8 (P:Params) (h g:Nat→Nat) (x y:Int) (t u:Nat):RS:=EU P h g true x y t u
noncomputable def DK (P:Params) (h g:Nat→Nat) (x y:Int) (t u:Nat):RS:=EU P h g false x y t u
noncomputable def F2 (P:Params) (h g:Nat→Nat) (b:Bool) (x y:Int) (t u:Nat):RS:=au (aP Mine.SL.s6631445442719179136x10 [.int x t,.int y u]) [] (.bool b)
noncomputable def Bx (P:Params) (h g:Nat→Nat) (x y:Int) (t u:Nat):RS:=F2 P h g true x y t u
noncomputable def CR (P:Params) (h g:Nat→Nat) (x y:Int) (t u:Nat):RS:=F2 P h g false x y t u
noncomputable def EL (P:Params) (h g:Nat→Nat) (x y z:Int) (t u:Nat):RS:=(au (aP Mine.SL.s10675162408562208479x11 [.int x t,.int y u]) [] .none).fin [] [0] (fun _ _=>[]) (fun _ _=>[]) (fun _ t=>ok (.int z (nb t 0)))
noncomputable def Cw (P:Params) (h g:Nat→Nat) (b t u:Nat):RS:=EL P h g (-1) (Int.ofNat b) (Int.negSucc b) t u
noncomputable def Ek (P:Params) (h g:Nat→Nat) (b t u:Nat):RS:=EL P h g (-1) (Int.negSucc b) (Int.ofNat b) t u
noncomputable def FI (P:Params) (h g:Nat→Nat) (neg:Bool) (a b e:Nat) (v:Value) (l:List Value):RS:=au (aP (iy neg false) [.ref a,.ref b]) [⟨false,a,oL e (v::l)⟩,⟨false,b,oL 0 []⟩] (.bool neg)
noncomputable def rL (P:Params) (h g:Nat→Nat) (a b e:Nat) (v:Value) (l:List Value):RS:=FI P h g true a b e v l
noncomputable def uG (P:Params) (h g:Nat→Nat) (a b e:Nat) (v:Value) (l:List Value):RS:=FI P h g false a b e v l
noncomputable def pY (P:Params) (h g:Nat→Nat) (a e t:Nat) (v:Value) (l:List Value):RS:=au (aP Ld [.ref a,.int 0 t]) [⟨false,a,oL e (v::l)⟩] v
noncomputable def El (P:Params) (h g:Nat→Nat) (a e row:Nat) (v:Value) (l:List Value):RS:=aH 100 [[.func,.caller]] false (aq 1482 [.ref a,.ref row]) [⟨false,a,oL e (v::l)⟩]
noncomputable def BY (P:Params) (h g:Nat→Nat) (a e row b tb Z0 Z1 Z2 Z3 Z4:Nat) (l:List Value):RS:=El P h g a e row (.int (Int.ofNat b) tb) l
noncomputable def AY (P:Params) (h g:Nat→Nat) (a e row b tb Z0 Z1 Z2 Z3 Z4:Nat) (l:List Value):RS:=El P h g a e row (.int (Int.ofNat b) tb) l
noncomputable def B5 (P:Params) (h g:Nat→Nat) (a e row b tb Z0 Z1 Z2 Z3 Z4:Nat) (l:List Value):RS:=El P h g a e row (.int (Int.negSucc b) tb) l
noncomputable def Ce (P:Params) (h g:Nat→Nat) (a e row b tb Z0 Z1 Z2 Z3 Z4:Nat) (l:List Value):RS:=El P h g a e row (.int (Int.negSucc b) tb) l
end
section
open PySem.SeqAt
noncomputable def d9 (P:Params) (h g:Nat→Nat) (a e row:Nat) (v:Value) (l:List Value) (ρ:Post):RS:={ El P h g a e row v l with bx:=[0,0],tx:=[0,0],nw:=fun b t=>[oL 0 [.int (Int.ofNat ρ.X) (nb t 0),.int (Int.ofNat (ym ρ.Y)) (nb t 1),.ref (nb b 1)],oL 0 []],r:=fun b t=>ok (.ref (nb b 0)) }
noncomputable def EW (P:Params) (h g:Nat→Nat) (a e:Nat) (v:Value) (l:List Value):RS:=aH 649 [[.caller]] true (aq 1568 [.ref a]) [⟨false,a,oL e (v::l)⟩]
end
noncomputable def BX (P:Params) (h:Nat→Nat) (g:Nat→Nat) (a:Nat) (e:Nat) (row:Nat) (b:Nat) (tb:Nat) (Z0:Nat) (Z1:Nat) (Z2:Nat) (Z3:Nat) (Z4:Nat) (l:List Value):RS:=(BY P h g a e row b tb Z0 Z1 Z2 Z3 Z4 l).fin [10,9] [21,15] nN (fun b t=>[(oL 0 [(.int (Int.ofNat Z4) (nb t 0)),(.int (Int.ofNat Z3) (nb t 1)),(.ref (nb b 1))]),(oL 0 [])]) rB
theorem yd (w:World) h g a e row b tb Z0 Z1 Z2 Z3 Z4 l (cb:Bool):(BX w.params h g a e row b tb Z0 Z1 Z2 Z3 Z4 l).Runs2 (B2 w .nil) 211 (ce [uw,tf]) [⟨fun A tk O ρs ρ=>(rL w.params h g (A 0) (A 2) e (.int (Int.ofNat b) tb) l).S,[0,2],[],none⟩,⟨fun A tk O ρs ρ=>(pY w.params h g (A 0) e (tk 2) (.int (Int.ofNat b) tb) l).S,[0],[],none⟩,⟨fun A tk O ρs ρ=>(Cw w.params h g b (tk 5) tb).S,[],[],none⟩,⟨fun A tk O ρs ρ=>(DK w.params h g (Int.negSucc b) (Int.ofNat b) (tk 6) tb).S,[],[],none⟩,⟨fun A tk O ρs ρ=>(eC w.params h g b 2147483629 Z0 tb (tk 8)).S,[],[],none⟩,⟨fun A tk O ρs ρ=>(nW w.params h g Z0 17 Z1 (tk 9) (tk 10)).S,[],[],none⟩,⟨fun A tk O ρs ρ=>(gh w.params h g Z1 48271 Z2 (tk 11) (tk 12)).S,[],[],none⟩,⟨fun A tk O ρs ρ=>(eC w.params h g Z2 2147483647 Z3 (tk 13) (tk 14)).S,[],[],none⟩,⟨fun A tk O ρs ρ=>(CR w.params h g (Int.ofNat b) 1000000000000000000 tb (tk 19)).S,[],[],none⟩,⟨fun A tk O ρs ρ=>(gh w.params h g b 0 Z4 tb (tk 20)).S,[],[],none⟩,⟨fun A tk O ρs ρ=>(uG w.params h g (A 0) (A 8) e (.int (Int.ofNat b) tb) l).S,[0,8],[],none⟩] cb:=by
 intro ν τ υ π ς ρ own past κ bl p
 kernel_rfl
noncomputable def Ar (P:Params) (h:Nat→Nat) (g:Nat→Nat) (a:Nat) (e:Nat) (row:Nat) (b:Nat) (tb:Nat) (Z0:Nat) (Z1:Nat) (Z2:Nat) (Z3:Nat) (Z4:Nat) (l:List Value):RS:=(AY P h g a e row b tb Z0 Z1 Z2 Z3 Z4 l).fin [10,9] [21,15] nN (fun b t=>[(oL 0 [(.int (Int.ofNat Z4) (nb t 0)),(.int (Int.ofNat Z3) (nb t 1)),(.ref (nb b 1))]),(oL 0 [])]) rB
theorem zr (w:World) h g a e row b tb Z0 Z1 Z2 Z3 Z4 l (cb:Bool):(Ar w.params h g a e row b tb Z0 Z1 Z2 Z3 Z4 l).Runs2 (B2 w .nil) 211 (ce [uw,tf]) [⟨fun A tk O ρs ρ=>(rL w.params h g (A 0) (A 2) e (.int (Int.ofNat b) tb) l).S,[0,2],[],none⟩,⟨fun A tk O ρs ρ=>(pY w.params h g (A 0) e (tk 2) (.int (Int.ofNat b) tb) l).S,[0],[],none⟩,⟨fun A tk O ρs ρ=>(Cw w.params h g b (tk 5) tb).S,[],[],none⟩,⟨fun A tk O ρs ρ=>(DK w.params h g (Int.negSucc b) (Int.ofNat b) (tk 6) tb).S,[],[],none⟩,⟨fun A tk O ρs ρ=>(eC w.params h g b 2147483629 Z0 tb (tk 8)).S,[],[],none⟩,⟨fun A tk O ρs ρ=>(nW w.params h g Z0 17 Z1 (tk 9) (tk 10)).S,[],[],none⟩,⟨fun A tk O ρs ρ=>(gh w.params h g Z1 48271 Z2 (tk 11) (tk 12)).S,[],[],none⟩,⟨fun A tk O ρs ρ=>(eC w.params h g Z2 2147483647 Z3 (tk 13) (tk 14)).S,[],[],none⟩,⟨fun A tk O ρs ρ=>(Bx w.params h g (Int.ofNat b) 1000000000000000000 tb (tk 19)).S,[],[],none⟩,⟨fun A tk O ρs ρ=>(gh w.params h g b 1 Z4 tb (tk 20)).S,[],[],none⟩,⟨fun A tk O ρs ρ=>(uG w.params h g (A 0) (A 8) e (.int (Int.ofNat b) tb) l).S,[0,8],[],none⟩] cb:=by
 intro ν τ υ π ς ρ own past κ bl p
 kernel_rfl
noncomputable def BP (P:Params) (h:Nat→Nat) (g:Nat→Nat) (a:Nat) (e:Nat) (row:Nat) (b:Nat) (tb:Nat) (Z0:Nat) (Z1:Nat) (Z2:Nat) (Z3:Nat) (Z4:Nat) (l:List Value):RS:=(B5 P h g a e row b tb Z0 Z1 Z2 Z3 Z4 l).fin [10,9] [21,15] nN (fun b t=>[(oL 0 [(.int (Int.ofNat Z4) (nb t 0)),(.int (Int.ofNat Z3) (nb t 1)),(.ref (nb b 1))]),(oL 0 [])]) rB
theorem yz (w:World) h g a e row b tb Z0 Z1 Z2 Z3 Z4 l (cb:Bool):(BP w.params h g a e row b tb Z0 Z1 Z2 Z3 Z4 l).Runs2 (B2 w .nil) 214 (ce [uw,1086329868,tf]) [⟨fun A tk O ρs ρ=>(rL w.params h g (A 0) (A 2) e (.int (Int.negSucc b) tb) l).S,[0,2],[],none⟩,⟨fun A tk O ρs ρ=>(pY w.params h g (A 0) e (tk 2) (.int (Int.negSucc b) tb) l).S,[0],[],none⟩,⟨fun A tk O ρs ρ=>(Ek w.params h g b (tk 5) tb).S,[],[],none⟩,⟨fun A tk O ρs ρ=>(C8 w.params h g (Int.ofNat b) (Int.negSucc b) (tk 6) tb).S,[],[],none⟩,⟨fun A tk O ρs ρ=>(eC w.params h g b 2147483629 Z0 (tk 6) (tk 8)).S,[],[],none⟩,⟨fun A tk O ρs ρ=>(nW w.params h g Z0 17 Z1 (tk 9) (tk 10)).S,[],[],none⟩,⟨fun A tk O ρs ρ=>(gh w.params h g Z1 48271 Z2 (tk 11) (tk 12)).S,[],[],none⟩,⟨fun A tk O ρs ρ=>(eC w.params h g Z2 2147483647 Z3 (tk 13) (tk 14)).S,[],[],none⟩,⟨fun A tk O ρs ρ=>(CR w.params h g (Int.ofNat b) 1000000000000000000 (tk 6) (tk 19)).S,[],[],none⟩,⟨fun A tk O ρs ρ=>(gh w.params h g b 0 Z4 (tk 6) (tk 20)).S,[],[],none⟩,⟨fun A tk O ρs ρ=>(uG w.params h g (A 0) (A 8) e (.int (Int.negSucc b) tb) l).S,[0,8],[],none⟩] cb:=by
 intro ν τ υ π ς ρ own past κ bl p
 kernel_rfl
noncomputable def DU (P:Params) (h:Nat→Nat) (g:Nat→Nat) (a:Nat) (e:Nat) (row:Nat) (b:Nat) (tb:Nat) (Z0:Nat) (Z1:Nat) (Z2:Nat) (Z3:Nat) (Z4:Nat) (l:List Value):RS:=(Ce P h g a e row b tb Z0 Z1 Z2 Z3 Z4 l).fin [10,9] [21,15] nN (fun b t=>[(oL 0 [(.int (Int.ofNat Z4) (nb t 0)),(.int (Int.ofNat Z3) (nb t 1)),(.ref (nb b 1))]),(oL 0 [])]) rB
theorem xU (w:World) h g a e row b tb Z0 Z1 Z2 Z3 Z4 l (cb:Bool):(DU w.params h g a e row b tb Z0 Z1 Z2 Z3 Z4 l).Runs2 (B2 w .nil) 214 (ce [uw,1086329868,tf]) [⟨fun A tk O ρs ρ=>(rL w.params h g (A 0) (A 2) e (.int (Int.negSucc b) tb) l).S,[0,2],[],none⟩,⟨fun A tk O ρs ρ=>(pY w.params h g (A 0) e (tk 2) (.int (Int.negSucc b) tb) l).S,[0],[],none⟩,⟨fun A tk O ρs ρ=>(Ek w.params h g b (tk 5) tb).S,[],[],none⟩,⟨fun A tk O ρs ρ=>(C8 w.params h g (Int.ofNat b) (Int.negSucc b) (tk 6) tb).S,[],[],none⟩,⟨fun A tk O ρs ρ=>(eC w.params h g b 2147483629 Z0 (tk 6) (tk 8)).S,[],[],none⟩,⟨fun A tk O ρs ρ=>(nW w.params h g Z0 17 Z1 (tk 9) (tk 10)).S,[],[],none⟩,⟨fun A tk O ρs ρ=>(gh w.params h g Z1 48271 Z2 (tk 11) (tk 12)).S,[],[],none⟩,⟨fun A tk O ρs ρ=>(eC w.params h g Z2 2147483647 Z3 (tk 13) (tk 14)).S,[],[],none⟩,⟨fun A tk O ρs ρ=>(Bx w.params h g (Int.ofNat b) 1000000000000000000 (tk 6) (tk 19)).S,[],[],none⟩,⟨fun A tk O ρs ρ=>(gh w.params h g b 1 Z4 (tk 6) (tk 20)).S,[],[],none⟩,⟨fun A tk O ρs ρ=>(uG w.params h g (A 0) (A 8) e (.int (Int.negSucc b) tb) l).S,[0,8],[],none⟩] cb:=by
 intro ν τ υ π ς ρ own past κ bl p
 kernel_rfl
section
open PySem.SeqAt
theorem EH {en:ST} {w:World} {h g:Nat→Nat} {x y:Int} {t u:Nat} {b:Bool} (hb:decide (x > y)=b):(EU w.params h g b x y t u).S.Holds (B2 w en):=by
 refine aj rfl fun A s₀ R hh hu _ ht hcell _ kk=>?_
 show codeAny _ _ (.call (.builtin _) _) _ _
 rw [show Mine.SL.s549184847318252788x10 = "int.__gt__" from aB (by kernel_rfl)]
 refine ap F.slot_int_gt F.entry_int_gt (F.args_int_gt_2 _ _) (typeIs_int s₀ _ _) ((AutoIntG4.int___gt___int_int_0 x t y u).meets.inModel _ _) ?_
 show R (.ok (.ret (.bool (decide (x > y))))) s₀
 rw [hb]
 exact kk _ [] [] (aE (s':=s₀) ht rfl rfl rfl rfl rfl rfl)
theorem tp {en:ST} {w:World} {h g:Nat→Nat} {a e t:Nat} {v:Value} {l:List Value} (hl:(v::l).length<1000):(pY w.params h g a e t v l).S.Holds (B2 w en) :=
 m6 (en:=en) w h g a e 0 t (v::l) (Nat.succ_pos _) hl
theorem EB {en:ST} {w:World} {h g:Nat→Nat} {x y:Int} {t u:Nat} {b:Bool} (hb:decide (x ≥ y)=b):(F2 w.params h g b x y t u).S.Holds (B2 w en):=by
 refine aj rfl fun A s₀ R hh hu _ ht hcell _ kk=>?_
 show codeAny _ _ (.call (.builtin _) _) _ _
 rw [show Mine.SL.s6631445442719179136x10 = "int.__ge__" from aB (by kernel_rfl)]
 refine ap F.slot_int_ge F.entry_int_ge (F.args_int_ge_2 _ _) (typeIs_int s₀ _ _) ((AutoIntG9.int___ge___int_int_0 x t y u).meets.inModel _ _) ?_
 show R (.ok (.ret (.bool (decide (x ≥ y))))) s₀
 rw [hb]
 exact kk _ [] [] (aE (s':=s₀) ht rfl rfl rfl rfl rfl rfl)
theorem Ew {en:ST} {w:World} {h g:Nat→Nat} {x y z:Int} {t u:Nat} (hz:x - y=z):(EL w.params h g x y z t u).S.Holds (B2 w en):=by
 subst hz
 refine aj rfl fun A s₀ R hh hu _ ht hcell _ kk=>?_
 show codeAny _ _ (.call (.builtin _) _) _ _
 rw [show Mine.SL.s10675162408562208479x11 = "int.__sub__" from aB (by kernel_rfl)]
 refine ap F.slot_int_sub F.entry_int_sub (F.args_int_sub_2 _ _) (typeIs_int s₀ _ _) ((AutoIntG9.int___sub___int_int_0 x t y u).meets.inModel _ _) ?_
 show R (.ok (.ret (.int (x - y) s₀.toks))) { s₀ with toks:=s₀.toks+1 }
 exact kk { s₀ with toks:=s₀.toks+1 } [] [s₀.toks] ⟨ht,fun a o h _=>.inl h,Nat.le_refl _,rfl,rfl,fun j a o hj=>by simp [RS.S,RS.SO,EL,RS.fin,RS.finO,au,cC] at hj,fun j a o hj=>by simp at hj,fun a hj=>by simp at hj,List.nodup_nil,rfl,rfl⟩
noncomputable def fO (l:List Value):List DT:=match l with
 | []=>[]
 | v::l=>.v v::fO l
theorem fM:∀ l:List Value,aK (fO l)=l
 | []=>rfl
 | v::l=>congrArg (v::·) (fM l)
theorem eW:∀ l:List Value,aQ (fO l)=[]
 | []=>by unfold fO aQ; rfl
 | v::l=>by
  unfold fO aQ
  rw [eW l]
  unfold DT.cells
  rfl
theorem i9:∀ l:List Value,cm (fO l)=0
 | []=>by unfold fO cm; rfl
 | v::l=>by
  unfold fO cm
  rw [i9 l]
  unfold DT.dep
  rfl
theorem vP {en:ST} {w:World} {h g:Nat→Nat} {neg:Bool} {a b e:Nat} {v:Value} {l:List Value}:(FI w.params h g neg a b e v l).S.Holds (B2 w en):=by
 have hd:(DT.s false a e (fO (v::l))).dep≤50:=by
  unfold DT.dep
  rw [i9]
  decide
 have e1:(DT.s false a e (fO (v::l))).cells=[⟨false,a,oL e (v::l)⟩]:=by
  unfold DT.cells
  rw [fM,eW]
 have H:=F6 (en:=en) w h g neg false a b e 0 (fO (v::l)) [] neg [] false (by cases neg <;> rfl) hd (.inr ⟨rfl,.left _ _⟩) fun x hx=>by rw [bP]; exact hx
 unfold dX at H
 rw [bP,e1] at H
 exact H
theorem s5 {w:World} {h g:Nat→Nat} {a e row b tn:Nat} {l:List Value} {Z0 Z1 Z2 Z3 Z4:Nat} (h0:Z0=b % 2147483629) (h1:Z1=Z0+17) (h2:Z2=Z1 * 48271) (h3:Z3=Z2 % 2147483647) (h4:Z4=b * 0) (hl:l.length≤63) (hb:b<1000000000000000000):Spec.HoldsE (B2 w .nil) (fun ρ=>(d9 w.params h g a e row (.int (Int.ofNat b) tn) l ρ).S):=by
 have H:=RS.done (dU w .nil) (.one2 fun cb=>yd w h g a e row b tn Z0 Z1 Z2 Z3 Z4 l cb) rfl (fun _ _=>rfl)
  (aO (fun _ _ _ _=>vP.e)
  (aO (fun _ _ _ _=>(tp (show _+1<1000 by omega)).e)
  (aO (fun _ _ _ _=>(Ew (x:=-1) (y:=Int.ofNat b) (z:=Int.negSucc b) (by have hc:Int.ofNat b=(b:Int):=rfl; omega)).e)
  (aO (fun _ _ _ _=>(EH (decide_eq_false (fun q=>by have q':Int.ofNat b<Int.negSucc b:=q; have hc:Int.ofNat b=(b:Int):=rfl; omega))).e)
  (aO (fun _ _ _ _=>(fg w h g b 2147483629 Z0 _ _ (by decide) h0).e)
  (aO (fun _ _ _ _=>(pB w h g Z0 17 Z1 _ _ h1).e)
  (aO (fun _ _ _ _=>(gX w h g Z1 48271 Z2 _ _ (by decide) h2).e)
  (aO (fun _ _ _ _=>(fg w h g Z2 2147483647 Z3 _ _ (by decide) h3).e)
  (aO (fun _ _ _ _=>(EB (decide_eq_false (fun q=>by have q':(1000000000000000000:Int)≤Int.ofNat b:=q; have hc:Int.ofNat b=(b:Int):=rfl; omega))).e)
  (aO (fun _ _ _ _=>(gX w h g b 0 Z4 _ _ (by decide) h4).e)
  (aO (fun _ _ _ _=>vP.e)
  ao)))))))))))
 intro Γ p s R ρ₀ ok k
 exact H Γ p s R ⟨ok.code,ok.hand,ok.fit,ok.room,ok.top,ok.stk,ok.pre,ok.nd⟩ fun s' bs ts A=>k ⟨Z4,Z3,0,⟨.none,.none,.none,.none,.none,.none,.none⟩,⟨.none,.none,.none,.none,.none,.none,.none⟩,[],fun _=>0,fun _=>{ cls:=.none }⟩ s' bs ts A
theorem rM {w:World} {h g:Nat→Nat} {a e row b tn:Nat} {l:List Value} (hl:l.length≤63) (hb:b<1000000000000000000):Spec.HoldsE (B2 w .nil) (fun ρ=>(d9 w.params h g a e row (.int (Int.ofNat b) tn) l ρ).S):=s5 rfl rfl rfl rfl rfl hl hb
theorem uC {w:World} {h g:Nat→Nat} {a e row b tn:Nat} {l:List Value} {Z0 Z1 Z2 Z3 Z4:Nat} (h0:Z0=b % 2147483629) (h1:Z1=Z0+17) (h2:Z2=Z1 * 48271) (h3:Z3=Z2 % 2147483647) (h4:Z4=b * 1) (hl:l.length≤63) (hb:1000000000000000000≤b):Spec.HoldsE (B2 w .nil) (fun ρ=>(d9 w.params h g a e row (.int (Int.ofNat b) tn) l ρ).S):=by
 have H:=RS.done (dU w .nil) (.one2 fun cb=>zr w h g a e row b tn Z0 Z1 Z2 Z3 Z4 l cb) rfl (fun _ _=>rfl)
  (aO (fun _ _ _ _=>vP.e)
  (aO (fun _ _ _ _=>(tp (show _+1<1000 by omega)).e)
  (aO (fun _ _ _ _=>(Ew (x:=-1) (y:=Int.ofNat b) (z:=Int.negSucc b) (by have hc:Int.ofNat b=(b:Int):=rfl; omega)).e)
  (aO (fun _ _ _ _=>(EH (decide_eq_false (fun q=>by have q':Int.ofNat b<Int.negSucc b:=q; have hc:Int.ofNat b=(b:Int):=rfl; omega))).e)
  (aO (fun _ _ _ _=>(fg w h g b 2147483629 Z0 _ _ (by decide) h0).e)
  (aO (fun _ _ _ _=>(pB w h g Z0 17 Z1 _ _ h1).e)
  (aO (fun _ _ _ _=>(gX w h g Z1 48271 Z2 _ _ (by decide) h2).e)
  (aO (fun _ _ _ _=>(fg w h g Z2 2147483647 Z3 _ _ (by decide) h3).e)
  (aO (fun _ _ _ _=>(EB (decide_eq_true (show (1000000000000000000:Int)≤Int.ofNat b by have hc:Int.ofNat b=(b:Int):=rfl; omega))).e)
  (aO (fun _ _ _ _=>(gX w h g b 1 Z4 _ _ (by decide) h4).e)
  (aO (fun _ _ _ _=>vP.e)
  ao)))))))))))
 intro Γ p s R ρ₀ ok k
 exact H Γ p s R ⟨ok.code,ok.hand,ok.fit,ok.room,ok.top,ok.stk,ok.pre,ok.nd⟩ fun s' bs ts A=>k ⟨Z4,Z3,0,⟨.none,.none,.none,.none,.none,.none,.none⟩,⟨.none,.none,.none,.none,.none,.none,.none⟩,[],fun _=>0,fun _=>{ cls:=.none }⟩ s' bs ts A
theorem ur {w:World} {h g:Nat→Nat} {a e row b tn:Nat} {l:List Value} (hl:l.length≤63) (hb:1000000000000000000≤b):Spec.HoldsE (B2 w .nil) (fun ρ=>(d9 w.params h g a e row (.int (Int.ofNat b) tn) l ρ).S):=uC rfl rfl rfl rfl rfl hl hb
theorem uF {w:World} {h g:Nat→Nat} {a e row b tn:Nat} {l:List Value} {Z0 Z1 Z2 Z3 Z4:Nat} (h0:Z0=b % 2147483629) (h1:Z1=Z0+17) (h2:Z2=Z1 * 48271) (h3:Z3=Z2 % 2147483647) (h4:Z4=b * 0) (hl:l.length≤63) (hb:b<1000000000000000000):Spec.HoldsE (B2 w .nil) (fun ρ=>(d9 w.params h g a e row (.int (Int.negSucc b) tn) l ρ).S):=by
 have H:=RS.done (dU w .nil) (.one2 fun cb=>yz w h g a e row b tn Z0 Z1 Z2 Z3 Z4 l cb) rfl (fun _ _=>rfl)
  (aO (fun _ _ _ _=>vP.e)
  (aO (fun _ _ _ _=>(tp (show _+1<1000 by omega)).e)
  (aO (fun _ _ _ _=>(Ew (x:=-1) (y:=Int.negSucc b) (z:=Int.ofNat b) (by have hc:Int.ofNat b=(b:Int):=rfl; omega)).e)
  (aO (fun _ _ _ _=>(EH (decide_eq_true (show Int.negSucc b<Int.ofNat b by have hc:Int.ofNat b=(b:Int):=rfl; omega))).e)
  (aO (fun _ _ _ _=>(fg w h g b 2147483629 Z0 _ _ (by decide) h0).e)
  (aO (fun _ _ _ _=>(pB w h g Z0 17 Z1 _ _ h1).e)
  (aO (fun _ _ _ _=>(gX w h g Z1 48271 Z2 _ _ (by decide) h2).e)
  (aO (fun _ _ _ _=>(fg w h g Z2 2147483647 Z3 _ _ (by decide) h3).e)
  (aO (fun _ _ _ _=>(EB (decide_eq_false (fun q=>by have q':(1000000000000000000:Int)≤Int.ofNat b:=q; have hc:Int.ofNat b=(b:Int):=rfl; omega))).e)
  (aO (fun _ _ _ _=>(gX w h g b 0 Z4 _ _ (by decide) h4).e)
  (aO (fun _ _ _ _=>vP.e)
  ao)))))))))))
 intro Γ p s R ρ₀ ok k
 exact H Γ p s R ⟨ok.code,ok.hand,ok.fit,ok.room,ok.top,ok.stk,ok.pre,ok.nd⟩ fun s' bs ts A=>k ⟨Z4,Z3,0,⟨.none,.none,.none,.none,.none,.none,.none⟩,⟨.none,.none,.none,.none,.none,.none,.none⟩,[],fun _=>0,fun _=>{ cls:=.none }⟩ s' bs ts A
theorem tE {w:World} {h g:Nat→Nat} {a e row b tn:Nat} {l:List Value} (hl:l.length≤63) (hb:b<1000000000000000000):Spec.HoldsE (B2 w .nil) (fun ρ=>(d9 w.params h g a e row (.int (Int.negSucc b) tn) l ρ).S):=uF rfl rfl rfl rfl rfl hl hb
theorem u6 {w:World} {h g:Nat→Nat} {a e row b tn:Nat} {l:List Value} {Z0 Z1 Z2 Z3 Z4:Nat} (h0:Z0=b % 2147483629) (h1:Z1=Z0+17) (h2:Z2=Z1 * 48271) (h3:Z3=Z2 % 2147483647) (h4:Z4=b * 1) (hl:l.length≤63) (hb:1000000000000000000≤b):Spec.HoldsE (B2 w .nil) (fun ρ=>(d9 w.params h g a e row (.int (Int.negSucc b) tn) l ρ).S):=by
 have H:=RS.done (dU w .nil) (.one2 fun cb=>xU w h g a e row b tn Z0 Z1 Z2 Z3 Z4 l cb) rfl (fun _ _=>rfl)
  (aO (fun _ _ _ _=>vP.e)
  (aO (fun _ _ _ _=>(tp (show _+1<1000 by omega)).e)
  (aO (fun _ _ _ _=>(Ew (x:=-1) (y:=Int.negSucc b) (z:=Int.ofNat b) (by have hc:Int.ofNat b=(b:Int):=rfl; omega)).e)
  (aO (fun _ _ _ _=>(EH (decide_eq_true (show Int.negSucc b<Int.ofNat b by have hc:Int.ofNat b=(b:Int):=rfl; omega))).e)
  (aO (fun _ _ _ _=>(fg w h g b 2147483629 Z0 _ _ (by decide) h0).e)
  (aO (fun _ _ _ _=>(pB w h g Z0 17 Z1 _ _ h1).e)
  (aO (fun _ _ _ _=>(gX w h g Z1 48271 Z2 _ _ (by decide) h2).e)
  (aO (fun _ _ _ _=>(fg w h g Z2 2147483647 Z3 _ _ (by decide) h3).e)
  (aO (fun _ _ _ _=>(EB (decide_eq_true (show (1000000000000000000:Int)≤Int.ofNat b by have hc:Int.ofNat b=(b:Int):=rfl; omega))).e)
  (aO (fun _ _ _ _=>(gX w h g b 1 Z4 _ _ (by decide) h4).e)
  (aO (fun _ _ _ _=>vP.e)
  ao)))))))))))
 intro Γ p s R ρ₀ ok k
 exact H Γ p s R ⟨ok.code,ok.hand,ok.fit,ok.room,ok.top,ok.stk,ok.pre,ok.nd⟩ fun s' bs ts A=>k ⟨Z4,Z3,0,⟨.none,.none,.none,.none,.none,.none,.none⟩,⟨.none,.none,.none,.none,.none,.none,.none⟩,[],fun _=>0,fun _=>{ cls:=.none }⟩ s' bs ts A
theorem tS {w:World} {h g:Nat→Nat} {a e row b tn:Nat} {l:List Value} (hl:l.length≤63) (hb:1000000000000000000≤b):Spec.HoldsE (B2 w .nil) (fun ρ=>(d9 w.params h g a e row (.int (Int.negSucc b) tn) l ρ).S):=u6 rfl rfl rfl rfl rfl hl hb
theorem B1 {w:World} {h g:Nat→Nat} {a e row:Nat} {n:Int} {tn:Nat} {l:List Value} (hl:l.length≤63):Spec.HoldsE (B2 w .nil) (fun ρ=>(d9 w.params h g a e row (.int n tn) l ρ).S):=by
 cases n with
 | ofNat b=>exact if hb:b<1000000000000000000 then rM hl hb else ur hl (Nat.le_of_not_lt hb)
 | negSucc b=>exact if hb:b<1000000000000000000 then tE hl hb else tS hl (Nat.le_of_not_lt hb)
end
noncomputable def y9 (P:Params) (h:Nat→Nat) (g:Nat→Nat) (a:Nat) (e:Nat) (v:Value) (l:List Value):RS:=(EW P h g a e v l).fin [] [] nN nN (fun b t=>(ok (.bool true)))
theorem CT (w:World) h g a e v l (cb:Bool):(y9 w.params h g a e v l).Runs2 (B2 w .nil) 5015 (ce [fp,fp,c3,1052672,ak,1038,ae,0x103800038000380e,dW,1131723913216,ja,xg,gT,gT,gT,gT,gT,lW,r3,nL,gH,bi,0x1080020880008822,r3,r3,r3,r3,nL,kq,gG,iW,c4,1113587750,ja,j6,j6,1113628712,qa,pU,1069098,dQ,dQ,1066,ck,1172560744516,dQ,ae,ck,1176857813064,ck,0x10a8140a8001202312048,ae,ck,1183303415886,ck,1183303415886,ck,1183303415886,dQ,1091584,dW,1204738426880,cQ,gY,gY,gY,gY,gY,ue,ll,ue,ll,ue,ll,ue,0x42a000600bc60,dW,1213328369664,cQ,gv,gv,gx,tL,1182846056,tL,1182846056,tL,1182846056,tL,0x10a82a000680cc68,CO,1091626,dW,ou,cQ,oV,oV,1073802360,tQ,tQ,tQ,tQ,rm,rm,rm,rm,xG,xG,xG,gG,fN,1222639758,ja,0x123890000472400011c90,rj,1194128,rj,1194128,rj,1222787216,rj,1194128,rj,dW,ae,1233125528,cQ,xE,1233283226,BM,1204378,BM,dW,1271310483456,cQ,oZ,yp,pr,1186,pr,1186,pr,1186,pr,sZ,sZ,sZ,sZ,qs,pv,pv,pv,pv,pv,uk,c4,ck,re,re,re,re,re,0x1320c8320a4320c832063320c8,qf,qf,qf,qf,qf,0x4c829051290a4,pr,1052672,dW,1344324997120,ja,0x1398e600072398001c8e6000733a072398001c8e6,hC,ae,1256,bi,1350767454442,ds,Aj,1058,BA,ae,1260,ae,0x1398ee3a8ee000ea000ea3b8ea3b0003b0003b0ec,hC,av,Aj,1058,av,0x13c8f23c8003c8003c8f2,ak,0x11e4033d0f23c8f2000f2,ye,kX,kX,kX,kX,kX,kX,kX,0x13987b3e0f83f0f4,hC,1254,hC,1254,hC,1284326,hC,1284326,hC,1254,hC,1254,hC,1254,hC,kq,c4,1077937156,ae,0x50641106001040010441904,kq,c4,0x14290a42800428004290a,ak,0x40043000430004310a4290a0010a,AD,1862,zR,1865,zR,1868,zR,1051471,ak,0x14410c4310c0010c0010c]) [⟨fun A tk O ρs ρ=>(d9 w.params h g (A 0) e (A 2) v l ρ).S,[0],[],none⟩,⟨fun A tk O ρs ρ=>(vY w.params h g (A 16) (A 7) 0 [(.ref (A 5)),(.ref (A 5)),(.ref (A 5)),(.ref (A 5)),(.ref (A 5)),(.ref (A 5)),(.ref (A 5))]).S,[16,7],[16],none⟩,⟨fun A tk O ρs ρ=>(CL w.params h g (A 116) (A 111) []).S,[116,111],[116],none⟩,⟨fun A tk O ρs ρ=>(eY w.params h g (A 3) (A 4) 0 0 (ρs 2).1 (ym (ρs 2).2) (tk 6) (tk 7) (tk 365) ρ).S,[3,4],[3],none⟩,⟨fun A tk O ρs ρ=>(jD w.params h g (A 131) 0 (ρs 137).3 (tk 366)).S,[131],[],none⟩,⟨fun A tk O ρs ρ=>(zf w.params h g (m7 (ρs 137).3) (A 3) (A 4) 0 (ρs 137).1 (ym (ρs 137).2) (tk 367) (tk 368) (v7 (O 118)) (v7 (O 122)) (tk 176) (A 14) (A 17) (A 18) (A 42) (A 60) (A 61) (A 62) (A 63) (A 64) (A 65) (A 66) (A 67) (A 68) (A 69) (A 70) (A 72) (A 75) (A 77) (A 78) (A 79) (A 81) (A 82) (A 83) (A 84) (A 85) (A 86) (A 87) (A 88) (A 89) (A 90) (A 91) (A 92) (A 93) (A 94) (A 95) (A 96) (A 97) (A 98) (A 100) (A 101) (A 102) (A 103) (A 104) (A 105) (A 106) (A 107) (A 108) (A 109) (A 110) (A 112) (A 113) (A 119) (A 122) (A 126) (A 127) (A 128) (tk 43) (tk 149) (tk 151) (tk 153) (tk 155) (tk 157) (tk 159) (tk 161) (tk 163) (tk 165) (tk 167) (tk 169) (tk 171) (tk 175) (tk 178) (tk 179) (tk 181) (tk 183) (tk 185) (tk 199) (tk 201) (tk 203) (tk 205) (tk 206) (tk 209) (tk 212) (tk 215) (tk 218) (tk 221) (tk 224) (tk 227) (tk 230) (tk 233) (tk 236) (tk 239) (tk 242) (tk 245) (tk 248) (tk 251) (tk 254) (tk 257) (tk 259) (tk 261) (tk 263) (tk 265) (tk 267) (tk 269) (tk 271) (tk 273) (tk 275) (tk 277) (tk 291) (tk 297) (tk 305) (tk 340) (tk 341) (tk 343) (tk 344) (tk 346) (tk 348) (tk 350) (tk 352) (tk 354) (tk 356) ρ).S,[3,4,119,122,69,72,128,79,81,77,90,107,85,101,17,112,96,109,88,103,78,18,113,92,108,87,102,70,83,100,89,104],[3,119,122,69,72],none⟩,⟨fun A tk O ρs ρ=>(eY w.params h g (A 3) (A 4) 0 0 (ρs 139).1 (ym (ρs 139).2) ((ρs 139).7 (OfNat.ofNat 0)) ((ρs 139).7 (OfNat.ofNat 1)) (tk 371) ρ).S,[3,4],[3],none⟩,⟨fun A tk O ρs ρ=>(jD w.params h g (A 131) 0 (ρs 140).3 (tk 372)).S,[131],[],none⟩,⟨fun A tk O ρs ρ=>(hP w.params h g (m7 (ρs 140).3) (A 3) (A 4) 0 (ρs 140).1 (ym (ρs 140).2) (tk 373) (tk 374) (v7 (O 119)) (v7 (O 122)) (ag (aG 2 (ρs 139).6)) (aG 2 (ρs 139).6) ((ρs 139).7 (OfNat.ofNat 2)) (A 14) (A 17) (A 18) (A 42) (A 60) (A 61) (A 62) (A 63) (A 64) (A 65) (A 66) (A 67) (A 68) (A 69) (A 70) (A 72) (A 75) (A 77) (A 78) (A 79) (A 81) (A 82) (A 83) (A 84) (A 85) (A 86) (A 87) (A 88) (A 89) (A 90) (A 91) (A 92) (A 93) (A 94) (A 95) (A 96) (A 97) (A 98) (A 100) (A 101) (A 102) (A 103) (A 104) (A 105) (A 106) (A 107) (A 108) (A 109) (A 110) (A 112) (A 113) (A 119) (A 122) (A 126) (A 127) (A 128) (tk 43) (tk 149) (tk 151) (tk 153) (tk 155) (tk 157) (tk 159) (tk 161) (tk 163) (tk 165) (tk 167) (tk 169) (tk 171) (tk 175) (tk 178) (tk 179) (tk 181) (tk 183) (tk 185) (tk 199) (tk 201) (tk 203) (tk 205) (tk 206) (tk 209) (tk 212) (tk 215) (tk 218) (tk 221) (tk 224) (tk 227) (tk 230) (tk 233) (tk 236) (tk 239) (tk 242) (tk 245) (tk 248) (tk 251) (tk 254) (tk 257) (tk 259) (tk 261) (tk 263) (tk 265) (tk 267) (tk 269) (tk 271) (tk 273) (tk 275) (tk 277) (tk 291) (tk 297) (tk 305) (tk 340) (tk 341) (tk 343) (tk 344) (tk 346) (tk 348) (tk 350) (tk 352) (tk 354) (tk 356) ρ).S,[3,4,119,122,69,72,128,79,81,77,90,107,85,101,17,112,96,109,88,103,78,18,113,92,108,87,102,70,83,100,89,104],[3,119,122,69,72],none⟩,⟨fun A tk O ρs ρ=>(eY w.params h g (A 3) (A 4) 0 0 (ρs 142).1 (ym (ρs 142).2) ((ρs 142).7 (OfNat.ofNat 0)) ((ρs 142).7 (OfNat.ofNat 1)) (tk 377) ρ).S,[3,4],[3],none⟩,⟨fun A tk O ρs ρ=>(jD w.params h g (A 131) 0 (ρs 143).3 (tk 378)).S,[131],[],none⟩,⟨fun A tk O ρs ρ=>(hP w.params h g (m7 (ρs 143).3) (A 3) (A 4) 0 (ρs 143).1 (ym (ρs 143).2) (tk 379) (tk 380) (v7 (O 119)) (v7 (O 122)) (ag (aG (Nat.succ (Nat.succ (List.brecOn.go (aG 2 (ρs 139).6) (ag._f)).1)) (ρs 142).6)) (aG (Nat.succ (Nat.succ (List.brecOn.go (aG 2 (ρs 139).6) (ag._f)).1)) (ρs 142).6) ((ρs 142).7 (OfNat.ofNat 2)) (A 14) (A 17) (A 18) (A 42) (A 60) (A 61) (A 62) (A 63) (A 64) (A 65) (A 66) (A 67) (A 68) (A 69) (A 70) (A 72) (A 75) (A 77) (A 78) (A 79) (A 81) (A 82) (A 83) (A 84) (A 85) (A 86) (A 87) (A 88) (A 89) (A 90) (A 91) (A 92) (A 93) (A 94) (A 95) (A 96) (A 97) (A 98) (A 100) (A 101) (A 102) (A 103) (A 104) (A 105) (A 106) (A 107) (A 108) (A 109) (A 110) (A 112) (A 113) (A 119) (A 122) (A 126) (A 127) (A 128) (tk 43) (tk 149) (tk 151) (tk 153) (tk 155) (tk 157) (tk 159) (tk 161) (tk 163) (tk 165) (tk 167) (tk 169) (tk 171) (tk 175) (tk 178) (tk 179) (tk 181) (tk 183) (tk 185) (tk 199) (tk 201) (tk 203) (tk 205) (tk 206) (tk 209) (tk 212) (tk 215) (tk 218) (tk 221) (tk 224) (tk 227) (tk 230) (tk 233) (tk 236) (tk 239) (tk 242) (tk 245) (tk 248) (tk 251) (tk 254) (tk 257) (tk 259) (tk 261) (tk 263) (tk 265) (tk 267) (tk 269) (tk 271) (tk 273) (tk 275) (tk 277) (tk 291) (tk 297) (tk 305) (tk 340) (tk 341) (tk 343) (tk 344) (tk 346) (tk 348) (tk 350) (tk 352) (tk 354) (tk 356) ρ).S,[3,4,119,122,69,72,128,79,81,77,90,107,85,101,17,112,96,109,88,103,78,18,113,92,108,87,102,70,83,100,89,104],[3,119,122,69,72],none⟩,⟨fun A tk O ρs ρ=>(eY w.params h g (A 3) (A 4) 0 0 (ρs 145).1 (ym (ρs 145).2) ((ρs 145).7 (OfNat.ofNat 0)) ((ρs 145).7 (OfNat.ofNat 1)) (tk 383) ρ).S,[3,4],[3],none⟩,⟨fun A tk O ρs ρ=>(jD w.params h g (A 131) 0 (ρs 146).3 (tk 384)).S,[131],[],none⟩,⟨fun A tk O ρs ρ=>(hP w.params h g (m7 (ρs 146).3) (A 3) (A 4) 0 (ρs 146).1 (ym (ρs 146).2) (tk 385) (tk 386) (v7 (O 119)) (v7 (O 122)) (ag (aG (Nat.succ (Nat.succ (List.brecOn.go (aG (Nat.succ (Nat.succ (List.brecOn.go (aG 2 (ρs 139).6) (ag._f)).1)) (ρs 142).6) (ag._f)).1)) (ρs 145).6)) (aG (Nat.succ (Nat.succ (List.brecOn.go (aG (Nat.succ (Nat.succ (List.brecOn.go (aG 2 (ρs 139).6) (ag._f)).1)) (ρs 142).6) (ag._f)).1)) (ρs 145).6) ((ρs 145).7 (OfNat.ofNat 2)) (A 14) (A 17) (A 18) (A 42) (A 60) (A 61) (A 62) (A 63) (A 64) (A 65) (A 66) (A 67) (A 68) (A 69) (A 70) (A 72) (A 75) (A 77) (A 78) (A 79) (A 81) (A 82) (A 83) (A 84) (A 85) (A 86) (A 87) (A 88) (A 89) (A 90) (A 91) (A 92) (A 93) (A 94) (A 95) (A 96) (A 97) (A 98) (A 100) (A 101) (A 102) (A 103) (A 104) (A 105) (A 106) (A 107) (A 108) (A 109) (A 110) (A 112) (A 113) (A 119) (A 122) (A 126) (A 127) (A 128) (tk 43) (tk 149) (tk 151) (tk 153) (tk 155) (tk 157) (tk 159) (tk 161) (tk 163) (tk 165) (tk 167) (tk 169) (tk 171) (tk 175) (tk 178) (tk 179) (tk 181) (tk 183) (tk 185) (tk 199) (tk 201) (tk 203) (tk 205) (tk 206) (tk 209) (tk 212) (tk 215) (tk 218) (tk 221) (tk 224) (tk 227) (tk 230) (tk 233) (tk 236) (tk 239) (tk 242) (tk 245) (tk 248) (tk 251) (tk 254) (tk 257) (tk 259) (tk 261) (tk 263) (tk 265) (tk 267) (tk 269) (tk 271) (tk 273) (tk 275) (tk 277) (tk 291) (tk 297) (tk 305) (tk 340) (tk 341) (tk 343) (tk 344) (tk 346) (tk 348) (tk 350) (tk 352) (tk 354) (tk 356) ρ).S,[3,4,119,122,69,72,128,79,81,77,90,107,85,101,17,112,96,109,88,103,78,18,113,92,108,87,102,70,83,100,89,104],[3,119,122,69,72],none⟩] cb:=by
 intro ν τ υ π ς ρ own past κ bl p
 kernel_rfl
section
open PySem.SeqAt
theorem cB {b m:Nat} {K:List (Nat × Value)} (h:b≤m):ag (aG b K)≤m:=Nat.le_trans (dD _ _) h
set_option smartUnfolding false in
theorem Fb {w:World} {h g a e n tn l} (hl:l.length≤63):(y9 w.params h g a e (.int n tn) l).S.Holds (B2 w .nil):=RS.done (dU w .nil) (.one2 fun cb=>CT w h g a e (.int n tn) l cb) rfl (fun _ _=>rfl)
 (aO (fun _ _ _ r=>B1 hl)
 (aO (fun _ _ _ r=>(EJ _ _ _ false _ _ _ _ (Nat.le_of_ble_eq_true rfl)).e)
 (aO (fun _ _ _ r=>(EJ _ _ _ true _ _ 0 _ (Nat.le_of_ble_eq_true rfl)).e)
 (aO (fun _ _ _ r=>dg)
 (aO (fun _ _ _ r=>l9.e)
 (aO (fun _ _ _ r=>gb (n:=0) (K:=[]) rfl (Nat.zero_le _))
 (aO (fun _ _ _ r=>dg)
 (aO (fun _ _ _ r=>l9.e)
 (aO (fun _ _ _ r=>gb rfl (cB (by decide)))
 (aO (fun _ _ _ r=>dg)
 (aO (fun _ _ _ r=>l9.e)
 (aO (fun _ _ _ r=>gb rfl (cB (Nat.succ_le_succ (m:=899) (Nat.succ_le_succ (m:=898) (show ag (aG 2 (r 139).K)≤898 from cB (by decide))))))
 (aO (fun _ _ _ r=>dg)
 (aO (fun _ _ _ r=>l9.e)
 (aO (fun _ _ _ r=>gb rfl (cB (Nat.succ_le_succ (m:=899) (Nat.succ_le_succ (m:=898) (show ag (aG (ag (aG 2 (r 139).K)+2) (r 142).K)≤898 from cB (Nat.add_le_add_right (m:=896) (cB (by decide)) 2))))))
 ao)))))))))))))))
end
section
open PySem.W.X PySem.Calls PyProof.Rows
noncomputable abbrev hH:OpenRow:=PySem.Challenge.rw_on0051_01.row
theorem tW (P:Params):∃ o es ep,(Scr.KT0 P).get mainNs=some o∧o.data=.dict es ep∧es.toList.all eQ=true∧nsFind es hH.name=some (.ref 1568):=by
 have h:(match (Scr.KT0 P).get mainNs with
  | some o=>match o.data with
   | .dict es _=>es.toList.all eQ && (match nsFind es hH.name with | some v=>(match v with | .ref a=>Nat.beq a 1568 | _=>false) | none=>false)
   | _=>false
  | none=>false)=true:=by kernel_rfl
 split at h
 ·rename_i o ho
  split at h
  ·rename_i es ep hd
   obtain ⟨h1,h2⟩:=Bool.and_eq_true_iff.mp h
   refine ⟨o,es,ep,ho,hd,h1,?_⟩
   split at h2
   ·rename_i v hv
    split at h2
    ·rw [hv,Nat.eq_of_beq_eq_true h2]
    ·cases h2
   ·cases h2
  ·cases h
 ·cases h
theorem AZ : yL = .type "list" := by kernel_rfl
theorem kA {R:WRecords} {w:World} {s₀ s₁:Shared} {ns:List Int} {a:Addr} {as:List Addr} (L:Laid R w s₀ s₁ [ofPy (PyData.list (ns.map PyData.int))] [.ref a] as):∃ o,s₁.heap=s₀.heap.push o:=by
 obtain ⟨ord,_,e⟩:=L.laid
 simp only [ofPy,layAllW,layW] at e
 cases q:layAllW R (classAt s₀.heap) w.params ord (ofPys (List.map PyData.int ns)) s₀ with
 | none=>rw [q] at e; cases e
 | some r =>
  rw [q] at e
  have hh:=lay_ints ns s₀ r q
  simp only [Option.some.injEq,Prod.mk.injEq] at e
  rw [← e.2]
  exact ⟨_,by rw [← hh]⟩
theorem ps {h:Heap} {o x:Obj} {b:Nat} (g:(h.push o).get? b=some x) (hb:b≠h.objs.size):h.get? b=some x:=by
 have lt:=Heap.lt_size g
 rw [Heap.size_push] at lt
 have hb':b<h.objs.size:=Nat.lt_of_le_of_ne (Nat.le_of_lt_succ lt) hb
 unfold Heap.get? at g ⊢
 have e:(h.push o).objs[b]?=h.objs[b]?:=by
  show (h.objs.push o)[b]?=_
  rw [Array.getElem?_push,if_neg hb]
 rw [e] at g
 exact g
theorem vE {w:World} {s₀ s₁:Shared} (K:Known w s₀) {ns:List Int} {a:Nat} {l:List Value} {as:List Addr} (L:Laid hH.records w s₀ s₁ [ofPy (PyData.list (ns.map PyData.int))] [.ref a] as)
 (hobj:s₁.heap.get? a=some (oL 0 l)) {D:RS} (H:D.S.Holds (B2 w .nil)) (hD:D.lv=649∧D.sh=[[.caller]]∧D.c=aq 1568 [.ref a]∧D.cells=[⟨false,a,oL 0 l⟩]∧D.di=false∧D.dy=true∧∀ bs ts,D.r bs ts=.ok (.ret (.bool true))) :
 Sem.wp (model pw w) h8 (mG hH.name [.ref a]) (Sem.finPost (model pw w) h8 fun res s'=>GoodWG hH.claim (classAt s₀.heap) (ExcName.means s₀.heap) [ofPy (PyData.list (ns.map PyData.int))] s₁ res s')
  (fun e _ s'=>GoodWG hH.claim (classAt s₀.heap) (ExcName.means s₀.heap) [ofPy (PyData.list (ns.map PyData.int))] s₁ (.error e) s') default s₁:=by
 obtain ⟨d1,d2,d3,d4,d5,d6,d7⟩:=hD
 obtain ⟨ea,_⟩:=script_at L
 obtain ⟨ob,hpush⟩:=kA L
 have top:dd (B2 w .nil) s₁:=⟨fun b o h=>L.keeps _ _ (K.at_ b o h),fun i c h=>by simp [B2,ST.get] at h⟩
 have free:(B2 w .nil).Free a:=⟨by
  cases z:(Scr.KT0 w.params).get a with
  | none=>exact z
  | some o=>exact absurd (Heap.lt_size (K.at_ a o z)) (by rw [ea]; exact Nat.lt_irrefl _),fun i c h=>by simp [B2,ST.get] at h⟩
 obtain ⟨o,es,ep,h1,h2,h3,h4⟩:=tW w.params
 have hns:s₁.heap.Ns mainNs (nsFind es):=by
  refine ⟨o,es,ep,top.1 _ _ h1,h2,fun e he=>?_,fun _=>rfl⟩
  have:=List.all_eq_true.mp h3 e (by simpa using he)
  unfold eQ at this
  split at this
  ·exact ⟨_,_,by assumption⟩
  ·cases this
 unfold mG
 rw [Sem.wp_bind',Sem.wp_nsGet _ _ _ _ _ hns,h4]
 show Sem.wp _ h8 (PySem.call (.ref 1568) [.ref a] >>= fun v=>ret v) _ _ default s₁
 unfold PySem.call PySem.runValue PySem.run
 rw [Sem.wp_bind',Sem.wp_bind',Sem.wp_call]
 refine H _ _ s₁ _ ⟨?_,rfl,?_,?_,top,?_,?_,?_⟩ fun s' bs ts A=>?_
 ·exact d3.symm
 ·show gq D.sh _=true
  rw [d2]
  kernel_rfl
 ·show NB D.lv _
  rw [d1]
  exact ⟨by show frameCount [(Code.builtin "claim.caller" {}, (default : Pos))] + 649 ≤ 950; decide +kernel, by show unitsOf [(Code.builtin "claim.caller" {}, (default : Pos))] + 649 ≤ 9000; decide +kernel⟩
 ·intro _
  have e0:envsOf ((h8.enter (.call (.ref 1568) ⟨[.ref a],[]⟩) none default).below)=[]:=rfl
  refine ⟨fun env he=>?_,fun env L he=>?_⟩
  ·rw [e0] at he; cases he
  ·rw [e0] at he; cases he
 ·intro x hx
  have hx:x∈bU D.cells:=hx
  rw [d4] at hx
  obtain rfl:x=(a,oL 0 l):=by simpa [bU] using hx
  exact ⟨.inl hobj,free⟩
 ·show ((bU D.cells).map (·.1)).Nodup
  rw [d4]
  simp [bU]
 ·have er:D.S.r bs ts=.ok (.ret (.bool true)):=d7 bs ts
  rw [er]
  have keep:∀ b o,s₁.heap.get? b=some o→s'.heap.get? b=some o:=fun b o hb=>by
   have hk:=A.keep b o hb (by show b∉cC D.cells; rw [d4]; simp [cC])
   cases hf:aU o with
   | false=>exact hk.exactF hf
   | true =>
    by_cases e:b=a
    ·subst e
     rw [hobj] at hb
     cases hb
     have:aU (oL 0 l)=false:=by
      show aU ⟨yL,none,.seq ⟨l⟩ 0,#[]⟩=false
      kernel_rfl
     rw [this] at hf
     cases hf
    ·rw [hpush] at hb
     have h0:=ps hb (ea▸e)
     obtain ⟨o',ho'⟩:=Option.isSome_iff_exists.mp (K.fr b o h0 hf)
     have:=K.at_ b o' ho'
     rw [h0] at this
     cases this
     exact A.top.1 b o ho'
  have good:GoodWG hH.claim (classAt s₀.heap) (ExcName.means s₀.heap) [ofPy (PyData.list (ns.map PyData.int))] s₁ (.ok (.ret (.bool true))) s' :=
   ⟨.inl ⟨.bool true,.bool true,[],rfl,fun _=>rfl,.bool true,postW_of (r:=hH.toRowW) (by simp [WShape.has,WShape.arms,hH,OpenLaw.row]) (PySem.W.w_eq_bool (PySem.W.w_res rfl) PySem.W.w_lit) rfl,fun _=>⟨List.nodup_nil,fun a h=>nomatch h⟩⟩,.of_keep keep,A.os,.of_eq (A.gens.trans L.gens)⟩
  exact good
theorem n1 (w:World) (s₀ s₁:Shared) (K:Known w s₀) (args:List WData) (vs:List Value) (as:List Addr)
 (L:Laid hH.records w s₀ s₁ args vs as) (hpre:hH.claim.pre args=true) (hlay:WData.layableAll args=true)
 (hrd:ReadsAllW hH.records (classAt s₀.heap) s₁.heap vs args as) (hwl:WellAll w.params s₁.heap vs args) (hlo:∀ a∈as,(a == sysModules)=false) :
  Sem.wp (model pw w) h8 (mG hH.name vs) (Sem.finPost (model pw w) h8 fun res s'=>GoodWG hH.claim (classAt s₀.heap) (ExcName.means s₀.heap) args s₁ res s')
   (fun e _ s'=>GoodWG hH.claim (classAt s₀.heap) (ExcName.means s₀.heap) args s₁ (.error e) s') default s₁:=by
 wrow_args hpre hlay hrd hwl hlo
 rename_i ns _ _ _ _ _ _ _ a vals _ hL _ _ _ hI _ hlen _
 have hobj:=script_obj L hL
 have hlv:vals.length=ns.length:=hI.length
 have hobj:s₁.heap.get? a=some (oL 0 vals):=by
  rw [hobj]
  show _=some (⟨yL,none,.seq ⟨vals⟩ 0,#[]⟩:Obj)
  rw [AZ]
 cases vals with
 | nil=>exact vE K L hobj (D:=yE w.params (fun _=>0) (fun _=>0) a 0) EY ⟨rfl,rfl,rfl,rfl,rfl,rfl,fun _ _=>rfl⟩
 | cons v l =>
  obtain ⟨n,t,rfl⟩:∃ n t,v=.int n t:=by cases hI with | cons n t _=>exact ⟨n,t,rfl⟩
  exact vE K L hobj (D:=y9 w.params (fun _=>0) (fun _=>0) a 0 (.int n t) l) (Fb (by simp only [List.length_cons] at hlv; omega)) ⟨rfl,rfl,rfl,rfl,rfl,rfl,fun _ _=>rfl⟩
end
section
open PySem.W.X PySem.Calls PyProof.Rows
noncomputable def dL:DefRec:=match Scr.sA 133 with
 | .FunctionDef n a b _ _ _ sc _ _ pos=>⟨n,a,b,sc,pos⟩
 | _=>⟨⟨#[]⟩,default,[],default,default⟩
theorem Cz:defOf qv hH.name=some (dL,[]):=by kernel_rfl
theorem Gv:pw.theDef hH.name=some (dL.params,dL.body,dL.scope):=by kernel_rfl
theorem GU:kwWritten? dL.params.kwonlyargs dL.params.kw_defaults=some []:=by kernel_rfl
theorem GJ:(chainsOk qv && opensWell pw && (frees hH.toRowW && hH.within.isEmpty))=true:=by kernel_rfl
theorem Az {p q:Program} {loose mods:List Str} {N:Nat} (hm:mods=importedModules p.main.body) (H:∀ w,∃ s,openEnds treeTable p w N=some s∧openSeen q loose mods xT true s=openGood q loose):LeftO p q loose xT some (fun w=>openEnds treeTable p w N) N:=by
 intro w
 obtain ⟨s,h1,h2⟩:=H w
 subst hm
 have e:(openEnds treeTable p w N).map (fun s=>(openSeen q loose (importedModules p.main.body) xT true s,some s))=some (openGood q loose,openEnds treeTable p w N):=by
  rw [h1,Option.map_some,h2]
 exact e
theorem Au (HV:qb):LeftO pw qv rx xT some (fun w=>openEnds treeTable pw w 10537) 10537:=Az (mods:=C5) rfl fun w=>(jw HV w).imp fun s h=>⟨h.1,h.2.1⟩
theorem yc:pw.tablesWhole=true:=by kernel_rfl
theorem Aw:pw.bare:=⟨rfl,rfl,rfl,rfl,rfl,yc⟩
theorem Ck:hH.toRowW.promised:=⟨[.list []],by decide +kernel,by decide +kernel⟩
theorem xr (HV:qb) (said:PySem.Challenge.rw_on0051_01.wellSaid=true):PySem.Challenge.rw_on0051_01.Holds :=
 holds_law said fun sd=>uR (r:=hH) (q:=qv) (loose:=rx) (Au HV) Cz Gv GU rfl sd GJ Aw Ck fun w s₀ s₁ _ y _ args vs as L hpre hlay hrd hwl hlo=>by
  obtain ⟨s,h1,_,h3⟩:=jw HV w
  have e:some s₀=some s:=y.trans h1
  cases e
  exact n1 w s₀ s₁ h3 args vs as L hpre hlay hrd hwl hlo
end
theorem F8 (HV:qb) (said:PySem.Challenge.rw_on0051_01.wellSaid=true):PySem.Challenge.rw_on0051_01.Holds:=xr HV said
end
end Mine
theorem PySem.Challenge.cw_on0051_01_holds : PySem.Challenge.rw_on0051_01.Holds :=
  Mine.F8 Mine.GQ Mine.FW
