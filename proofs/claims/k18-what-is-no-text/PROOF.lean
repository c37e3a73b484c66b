import PyProof.Rows.All
import Wide.All
import OpenK.AllK
import Wide.FinOn
import HandS.Base
import HandS.Call
import HandS.List
import HandS.Comp
import HandS.Ends
import HandS.Words
import HandS.WordsList
import HandS.Wide
import HandS.IsInst
import HandS.Conv
import HandS.Iter
import HandS.WordsExc
import HandS.Text
import HandS.Zip
import HandS.WideBits
import HandS.Sort
import HandS.ExcIs
import HandS.TryOnly
import HandS.ExcOwn
import HandS.SetFor
import HandS.ExcCtx
import HandS.HotCalls
import HandS.RaiseMore
import HandS.Codes
import HandS.Style
import HandS.CallLocal
import HandS.Exc
import HandS.Dict
import HandS.Strs
import HandS.Set
import HandS.DictComp
import HandS.More
import HandS.Defaults
import PySem.Challenge.RW_paperwright_k18_what_is_no_text
set_option Elab.async false
set_option linter.all false
set_option maxRecDepth 100000
set_option maxHeartbeats 4000000
namespace Pw
open PySem L2
def Ex (H H':Hp):Prop:=∀ a o,H a=some o→H' a=some o
theorem Ex.refl (H:Hp):Ex H H:=fun _ _ h=>h
theorem Ex.trans {H H1 H2:Hp} (a:Ex H H1) (b:Ex H1 H2):Ex H H2:=fun x o h=>b x o (a x o h)
theorem Ex.new {H:Hp} {p:Addr} {o:HO} (h:H p=none):Ex H (upd H p o):=fun a u e=>by
 rw [upd_ne (ne_of_none e h)];exact e
theorem Ex.both {F H:Hp} {p:Addr} {o:HO} (e:Ex F H):Ex (upd F p o) (upd H p o):=fun a u h=>by
 by_cases q:a=p
 ·subst q;rw [upd_same] at h ⊢;exact h
 ·rw [upd_ne q] at h ⊢;exact e a u h
theorem Ex.mut {F H:Hp} {p:Addr} {o:HO} (e:Ex F H) (h:F p=none):Ex F (upd H p o):=fun a u ha=>by
 rw [upd_ne (ne_of_none ha h)];exact e a u ha
theorem Ex.free {F H:Hp} {p:Addr} (e:Ex F H) (h:H p=none):F p=none:=by
 cases q:F p with
 | none=>rfl
 | some o=>rw [e p o q] at h;cases h
theorem ex_rd {H H':Hp} {a:Addr} {u:HO} (e:Ex H H') (h:Rd H a u):Rd H' a u:=by
 rcases h with h | ⟨o,h⟩
 ·exact Or.inl (e a _ h)
 ·exact Or.inr ⟨o,e a _ h⟩
theorem ex_l {K:PySem.W.Frag} {H H':Hp} {a:Addr} {xs:List V} (e:Ex H H') (h:SqL K H a xs):SqL K H' a xs:=by
 rcases h with h | h
 ·exact Or.inl (ex_rd e h)
 ·exact Or.inr h
theorem ex_t {K:PySem.W.Frag} {H H':Hp} {a:Addr} {xs:List V} (e:Ex H H') (h:SqT K H a xs):SqT K H' a xs:=by
 rcases h with h | h
 ·exact Or.inl (ex_rd e h)
 ·exact Or.inr h
structure Ext (F H F' H':Hp):Prop where
 f:Ex F F'
 h:Ex H H'
 i:Ex F' H'
 n:∀ a o,F' a=some o→F a=some o∨H a=none
theorem Ext.refl {F H:Hp} (e:Ex F H):Ext F H F H:=⟨Ex.refl F,Ex.refl H,e,fun _ _ h=>.inl h⟩
theorem Ext.trans {F H F1 H1 F2 H2:Hp} (a:Ext F H F1 H1) (b:Ext F1 H1 F2 H2):Ext F H F2 H2 :=
 ⟨a.f.trans b.f,a.h.trans b.h,b.i,fun x o h=>by
  rcases b.n x o h with q | q
  ·exact a.n x o q
  ·exact .inr (a.h.free q)⟩
theorem Ext.new {F H:Hp} {p:Addr} {o:HO} (e:Ex F H) (h:H p=none):Ext F H (upd F p o) (upd H p o) :=
 ⟨Ex.new (e.free h),Ex.new h,e.both,fun a u q=>by
  by_cases z:a=p
  ·subst z;exact .inr h
  ·rw [upd_ne z] at q;exact .inl q⟩
theorem Ext.aside {F H:Hp} {p:Addr} {o:HO} (e:Ex F H) (h:H p=none):Ext F H F (upd H p o) :=
 ⟨Ex.refl F,Ex.new h,e.trans (Ex.new h),fun _ _ q=>.inl q⟩
structure Cod (α:Type) where
 rep:Hp→V→α→Prop
 mono:∀ {H H':Hp} {v:V} {d:α},Ex H H'→rep H v d→rep H' v d
def cInt:Cod Int:=⟨fun _ v d=>v=.int d,fun _ h=>h⟩
def cBool:Cod Bool:=⟨fun _ v d=>v=.bl d,fun _ h=>h⟩
def cStr:Cod Str:=⟨fun _ v d=>v=.str d,fun _ h=>h⟩
def Reps {α:Type} (c:Cod α) (H:Hp):List V→List α→Prop
 | [],[]=>True
 | v :: vs,d :: ds=>c.rep H v d∧Reps c H vs ds
 | _,_=>False
theorem Reps.mono {α:Type} {c:Cod α} {H H':Hp} (e:Ex H H'):∀ {vs:List V} {ds:List α},Reps c H vs ds→Reps c H' vs ds
 | [],[],_=>trivial
 | _ :: _,_ :: _,h=>⟨c.mono e h.1,Reps.mono e h.2⟩
 | [],_ :: _,h=>h.elim
 | _ :: _,[],h=>h.elim
theorem Reps.len {α:Type} {c:Cod α} {H:Hp}:∀ {vs:List V} {ds:List α},Reps c H vs ds→vs.length=ds.length
 | [],[],_=>rfl
 | _ :: _,_ :: _,h=>by simp [Reps.len h.2]
 | [],_ :: _,h=>h.elim
 | _ :: _,[],h=>h.elim
theorem Reps.get {α:Type} {c:Cod α} {H:Hp}:∀ {vs:List V} {ds:List α} {i:Nat} {d:α},Reps c H vs ds→ds[i]?=some d→∃ v,vs[i]?=some v∧c.rep H v d
 | [],[],_,_,_,e=>by simp at e
 | v :: _,_ :: _,0,_,h,e=>by simp at e;subst e;exact ⟨v,rfl,h.1⟩
 | _ :: _,_ :: _,i+1,d,h,e=>by
  obtain ⟨v,h1,h2⟩:=Reps.get (i:=i) (d:=d) h.2 (by simpa using e)
  exact ⟨v,by simpa using h1,h2⟩
 | [],_ :: _,_,_,h,_=>h.elim
 | _ :: _,[],_,_,h,_=>h.elim
theorem Reps.getV {α:Type} {c:Cod α} {H:Hp} {vs:List V} {ds:List α} {i:Nat} {v:V} (h:Reps c H vs ds) (e:vs[i]?=some v):∃ d,ds[i]?=some d∧c.rep H v d:=by
 have hl:=h.len
 have hi:i < vs.length:=(List.getElem?_eq_some_iff.mp e).1
 obtain ⟨d,hd⟩:∃ d,ds[i]?=some d:=⟨ds[i],List.getElem?_eq_getElem (by omega)⟩
 obtain ⟨w,hw,hr⟩:=h.get hd
 rw [e] at hw;cases hw
 exact ⟨d,hd,hr⟩
theorem Reps.append {α:Type} {c:Cod α} {H:Hp}:∀ {vs ws:List V} {ds es:List α},Reps c H vs ds→Reps c H ws es→Reps c H (vs++ws) (ds++es)
 | [],_,[],_,_,k=>k
 | _ :: _,_,_ :: _,_,h,k=>⟨h.1,Reps.append h.2 k⟩
 | [],_,_ :: _,_,h,_=>h.elim
 | _ :: _,_,[],_,h,_=>h.elim
theorem Reps.set {α:Type} {c:Cod α} {H:Hp} {v:V} {d:α} (k:c.rep H v d):∀ {vs:List V} {ds:List α} (i:Nat),Reps c H vs ds→Reps c H (vs.set i v) (ds.set i d)
 | [],[],_,_=>trivial
 | _ :: _,_ :: _,0,h=>⟨k,h.2⟩
 | _ :: _,_ :: _,i+1,h=>⟨h.1,Reps.set k i h.2⟩
 | [],_ :: _,_,h=>h.elim
 | _ :: _,[],_,h=>h.elim
theorem Reps.take {α:Type} {c:Cod α} {H:Hp}:∀ {vs:List V} {ds:List α} (n:Nat),Reps c H vs ds→Reps c H (vs.take n) (ds.take n)
 | [],[],_,_=>by simp [Reps]
 | _ :: _,_ :: _,0,_=>trivial
 | _ :: _,_ :: _,n+1,h=>⟨h.1,Reps.take n h.2⟩
 | [],_ :: _,_,h=>h.elim
 | _ :: _,[],_,h=>h.elim
theorem Reps.drop {α:Type} {c:Cod α} {H:Hp}:∀ {vs:List V} {ds:List α} (n:Nat),Reps c H vs ds→Reps c H (vs.drop n) (ds.drop n)
 | [],[],_,_=>by simp [Reps]
 | _ :: _,_ :: _,0,h=>h
 | _ :: _,_ :: _,n+1,h=>Reps.drop n h.2
 | [],_ :: _,_,h=>h.elim
 | _ :: _,[],_,h=>h.elim
theorem Reps.reverse {α:Type} {c:Cod α} {H:Hp}:∀ {vs:List V} {ds:List α},Reps c H vs ds→Reps c H vs.reverse ds.reverse
 | [],[],_=>trivial
 | _ :: _,_ :: _,h=>by
  rw [List.reverse_cons,List.reverse_cons]
  exact (Reps.reverse h.2).append ⟨h.1,trivial⟩
 | [],_ :: _,h=>h.elim
 | _ :: _,[],h=>h.elim
theorem Reps.replicate {α:Type} {c:Cod α} {H:Hp} {v:V} {d:α} (h:c.rep H v d):∀ n,Reps c H (List.replicate n v) (List.replicate n d)
 | 0=>trivial
 | n+1=>⟨h,Reps.replicate h n⟩
def cList {α:Type} (K:PySem.W.Frag) (c:Cod α):Cod (List α) :=
 ⟨fun H v ds=>∃ a vs,v=.ref a∧SqL K H a vs∧Reps c H vs ds,fun e ⟨a,vs,h1,h2,h3⟩=>⟨a,vs,h1,ex_l e h2,h3.mono e⟩⟩
def cTupL {α:Type} (K:PySem.W.Frag) (c:Cod α):Cod (List α) :=
 ⟨fun H v ds=>∃ a vs,v=.ref a∧SqT K H a vs∧Reps c H vs ds,fun e ⟨a,vs,h1,h2,h3⟩=>⟨a,vs,h1,ex_t e h2,h3.mono e⟩⟩
structure CodO (α:Type) where
 rep:Hp→Addr→HO→α→Prop
 mono:∀ {H H':Hp} {p:Addr} {o:HO} {d:α},Ex H H'→rep H p o d→rep H' p o d
def cLst {α:Type} (c:Cod α):CodO (List α):=⟨fun F _ o ds=>∃ vs,o=.lst vs∧Reps c F vs ds,fun e ⟨vs,h,k⟩=>⟨vs,h,k.mono e⟩⟩
inductive Ent:Type 1 where
 | any
 | val {α:Type} (c:Cod α) (d:α)
 | ob {α:Type} (c:CodO α) (d:α)
abbrev Ent.own {α:Type} (c:Cod α) (ds:List α):Ent:=.ob (cLst c) ds
abbrev Gam:=List Ent
def EntOk (F H:Hp) (s:Option V):Ent→Prop
 | .any=>True
 | .val c d=>∃ v,s=some v∧c.rep F v d
 | .ob c d=>∃ p o,s=some (.ref p)∧F p=none∧H p=some o∧c.rep F p o d
def IsOwn:Option Ent→Prop
 | some (.ob _ _)=>True
 | _=>False
structure CodA (α:Type) where
 rep:Hp→List V→α→Prop
 mono:∀ {H H':Hp} {v:List V} {d:α},Ex H H'→rep H v d→rep H' v d
 env:α→Gam
 len:∀ {H:Hp} {v:List V} {d:α},rep H v d→v.length=(env d).length
 ok:∀ {H:Hp} {v:List V} {d:α},rep H v d→∀ (i:Nat) x e G,v[i]?=some x→(env d)[i]?=some e→EntOk H G (some x) e
 no:∀ (d:α) (i:Nat),¬IsOwn (env d)[i]?
def aNil:CodA Unit:=⟨fun _ vs _=>vs=[],fun _ h=>h,fun _=>[],fun {H v d} h=>by rw [show v=[] from h];rfl,fun {H v d} h i x e G h1=>by rw [show v=[] from h] at h1;simp at h1,fun d i h=>by simp at h;exact h⟩
def aCons {α β:Type} (c:Cod α) (r:CodA β):CodA (α×β) :=
 ⟨fun H vs d=>∃ v ws,vs=v :: ws∧c.rep H v d.1∧r.rep H ws d.2,fun e ⟨v,ws,h1,h2,h3⟩=>⟨v,ws,h1,c.mono e h2,r.mono e h3⟩,
  fun d=>.val c d.1 :: r.env d.2,fun {H v d} h=>by obtain ⟨v,ws,rfl,h2,h3⟩:=h;simp [r.len h3],
  fun {H v d} h i x e G h1 h2=>by
   obtain ⟨v,ws,rfl,h3,h4⟩:=h
   cases i with
   | zero=>simp at h1 h2;subst h1;subst h2;exact ⟨v,rfl,h3⟩
   | succ i=>exact r.ok h4 i x e G (by simpa using h1) (by simpa using h2),
  fun d i h=>by
   cases i with
   | zero=>simp at h;exact h
   | succ i=>exact r.no d.2 i (by simpa using h)⟩
def cTup {α:Type} (K:PySem.W.Frag) (r:CodA α):Cod α :=
 ⟨fun H v d=>∃ a vs,v=.ref a∧SqT K H a vs∧r.rep H vs d,fun e ⟨a,vs,h1,h2,h3⟩=>⟨a,vs,h1,ex_t e h2,r.mono e h3⟩⟩
def cMap {α β:Type} (c:Cod α) (f:β→α):Cod β:=⟨fun H v d=>c.rep H v (f d),fun e h=>c.mono e h⟩
def cPair {α β:Type} (K:PySem.W.Frag) (c:Cod α) (d:Cod β):Cod (α×β):=cMap (cTup K (aCons c (aCons d aNil))) fun p=>(p.1,p.2,())
abbrev cInts (K:PySem.W.Frag):Cod (List Int):=cList K cInt
structure Sl (F H:Hp) (σ:L2.St) (Γ:Gam):Prop where
 ex:Ex F H
 len:σ.length=Γ.length
 ok:∀ (i:Nat) s e,σ[i]?=some s→Γ[i]?=some e→EntOk F H s e
 dis:∀ (i j:Nat) p,i≠j→IsOwn Γ[i]?→IsOwn Γ[j]?→σ[i]?=some (some (.ref p))→σ[j]?=some (some (.ref p))→False
theorem EntOk.grow {F H F' H':Hp} {s:Option V} {e:Ent} (x:Ext F H F' H') (h:EntOk F H s e):EntOk F' H' s e:=by
 cases e with
 | any=>trivial
 | val c d=>obtain ⟨v,h1,h2⟩:=h;exact ⟨v,h1,c.mono x.f h2⟩
 | ob c d =>
  obtain ⟨p,o,h1,h2,h3,h4⟩:=h
  refine ⟨p,o,h1,?_,x.h p _ h3,c.mono x.f h4⟩
  cases q:F' p with
  | none=>rfl
  | some o =>
   rcases x.n p o q with z | z
   ·rw [h2] at z;cases z
   ·rw [h3] at z;cases z
theorem Sl.grow {F H F' H':Hp} {σ:L2.St} {Γ:Gam} (h:Sl F H σ Γ) (x:Ext F H F' H'):Sl F' H' σ Γ :=
 ⟨x.i,h.len,fun i s e h1 h2=>(h.ok i s e h1 h2).grow x,h.dis⟩
theorem Sl.var {F H:Hp} {σ:L2.St} {Γ:Gam} {i:Nat} {α:Type} {c:Cod α} {d:α} (h:Sl F H σ Γ) (e:Γ[i]?=some (.val c d)):∃ v,σ[i]?=some (some v)∧c.rep F v d:=by
 have hi:i < σ.length:=by rw [h.len];exact (List.getElem?_eq_some_iff.mp e).1
 obtain ⟨v,h1,h2⟩:=h.ok i σ[i] _ (List.getElem?_eq_getElem hi) e
 exact ⟨v,by rw [List.getElem?_eq_getElem hi,h1],h2⟩
theorem Sl.obj {F H:Hp} {σ:L2.St} {Γ:Gam} {i:Nat} {α:Type} {c:CodO α} {d:α} (h:Sl F H σ Γ) (e:Γ[i]?=some (.ob c d)) :
  ∃ p o,σ[i]?=some (some (.ref p))∧F p=none∧H p=some o∧c.rep F p o d:=by
 have hi:i < σ.length:=by rw [h.len];exact (List.getElem?_eq_some_iff.mp e).1
 obtain ⟨p,o,h1,h2⟩:=h.ok i σ[i] _ (List.getElem?_eq_getElem hi) e
 exact ⟨p,o,by rw [List.getElem?_eq_getElem hi,h1],h2⟩
theorem Sl.owned {F H:Hp} {σ:L2.St} {Γ:Gam} {i:Nat} {α:Type} {c:Cod α} {ds:List α} (h:Sl F H σ Γ) (e:Γ[i]?=some (.own c ds)) :
  ∃ p vs,σ[i]?=some (some (.ref p))∧F p=none∧H p=some (.lst vs)∧Reps c F vs ds:=by
 obtain ⟨p,o,h1,h2,h3,vs,rfl,h4⟩:=h.obj e
 exact ⟨p,vs,h1,h2,h3,h4⟩
theorem Sl.set {F H:Hp} {σ:L2.St} {Γ:Gam} {i:Nat} {s:Option V} {e:Ent} (h:Sl F H σ Γ) (ho:¬IsOwn (some e)) (k:EntOk F H s e):Sl F H (σ.set i s) (Γ.set i e):=by
 refine ⟨h.ex,by simp [h.len],fun j t f h1 h2=>?_,fun a b p hab oa ob h1 h2=>?_⟩
 ·rw [List.getElem?_set] at h1 h2
  by_cases hj:i=j
  ·subst hj
   by_cases hl:i < σ.length
   ·have hl2:i < Γ.length:=h.len ▸ hl
    rw [if_pos rfl,if_pos hl] at h1;rw [if_pos rfl,if_pos hl2] at h2
    cases h1;cases h2;exact k
   ·rw [if_pos rfl,if_neg hl] at h1;cases h1
  ·rw [if_neg hj] at h1 h2;exact h.ok j t f h1 h2
 ·have na:i≠a:=fun q=>by
   subst q;rw [List.getElem?_set] at oa
   by_cases hl:i < Γ.length
   ·rw [if_pos rfl,if_pos hl] at oa;exact ho oa
   ·rw [if_pos rfl,if_neg hl] at oa;exact oa
  have nb:i≠b:=fun q=>by
   subst q;rw [List.getElem?_set] at ob
   by_cases hl:i < Γ.length
   ·rw [if_pos rfl,if_pos hl] at ob;exact ho ob
   ·rw [if_pos rfl,if_neg hl] at ob;exact ob
  rw [List.getElem?_set_ne na] at oa h1;rw [List.getElem?_set_ne nb] at ob h2
  exact h.dis a b p hab oa ob h1 h2
theorem Sl.setOb {F H:Hp} {σ:L2.St} {Γ:Gam} {i:Nat} {p:Addr} {o:HO} {α:Type} {c:CodO α} {ds:α} (h:Sl F H σ Γ) (h1:F p=none) (h2:H p=some o) (h3:c.rep F p o ds)
  (hd:∀ j,j≠i→IsOwn Γ[j]?→σ[j]?≠some (some (.ref p))):Sl F H (σ.set i (some (.ref p))) (Γ.set i (.ob c ds)):=by
 refine ⟨h.ex,by simp [h.len],fun j t f e1 e2=>?_,fun a b q hab oa ob e1 e2=>?_⟩
 ·rw [List.getElem?_set] at e1 e2
  by_cases hj:i=j
  ·subst hj
   by_cases hl:i < σ.length
   ·have hl2:i < Γ.length:=h.len ▸ hl
    rw [if_pos rfl,if_pos hl] at e1;rw [if_pos rfl,if_pos hl2] at e2
    cases e1;cases e2;exact ⟨p,o,rfl,h1,h2,h3⟩
   ·rw [if_pos rfl,if_neg hl] at e1;cases e1
  ·rw [if_neg hj] at e1 e2;exact h.ok j t f e1 e2
 ·by_cases ha:i=a
  ·subst ha
   have hb:i≠b:=hab
   rw [List.getElem?_set_ne hb] at ob e2
   rw [List.getElem?_set] at e1
   by_cases hl:i < σ.length
   ·rw [if_pos rfl,if_pos hl] at e1;cases e1;exact hd b (Ne.symm hb) ob e2
   ·rw [if_pos rfl,if_neg hl] at e1;cases e1
  ·rw [List.getElem?_set_ne ha] at oa e1
   by_cases hb:i=b
   ·subst hb
    rw [List.getElem?_set] at e2
    by_cases hl:i < σ.length
    ·rw [if_pos rfl,if_pos hl] at e2;cases e2;exact hd a (Ne.symm ha) oa e1
    ·rw [if_pos rfl,if_neg hl] at e2;cases e2
   ·rw [List.getElem?_set_ne hb] at ob e2;exact h.dis a b q hab oa ob e1 e2
theorem Sl.writeOb {F H:Hp} {σ:L2.St} {Γ:Gam} {i:Nat} {p:Addr} {w:HO} {α β:Type} {c0:CodO β} {ds0:β} {c:CodO α} {ds:α} (h:Sl F H σ Γ) (e:Γ[i]?=some (.ob c0 ds0)) (hp:σ[i]?=some (some (.ref p))) (h1:F p=none) (h3:c.rep F p w ds) :
  Sl F (upd H p w) σ (Γ.set i (.ob c ds)):=by
 refine ⟨h.ex.mut h1,by simp [h.len],fun j t f e1 e2=>?_,fun a b q hab oa ob=>h.dis a b q hab ?_ ?_⟩
 ·rw [List.getElem?_set] at e2
  by_cases hj:i=j
  ·subst hj
   have hl2:i < Γ.length:=(List.getElem?_eq_some_iff.mp e).1
   rw [if_pos rfl,if_pos hl2] at e2
   cases e2;rw [hp] at e1;cases e1
   exact ⟨p,w,rfl,h1,upd_same,h3⟩
  ·rw [if_neg hj] at e2
   have k:=h.ok j t f e1 e2
   cases f with
   | any=>trivial
   | val c d=>exact k
   | ob c ds =>
    obtain ⟨p2,vs2,k1,k2,k3,k4⟩:=k
    subst k1
    refine ⟨p2,vs2,rfl,k2,?_,k4⟩
    have np:p2≠p:=fun z=>by
     subst z
     exact h.dis i j p2 hj (by rw [e];trivial) (by rw [e2];trivial) hp e1
    rw [upd_ne np];exact k3
 ·rw [List.getElem?_set] at oa
  by_cases z:i=a
  ·subst z;rw [e];trivial
  ·rw [if_neg z] at oa;exact oa
 ·rw [List.getElem?_set] at ob
  by_cases z:i=b
  ·subst z;rw [e];trivial
  ·rw [if_neg z] at ob;exact ob
end Pw
namespace Pw
open PySem L2
structure CodD {α:Type} (K:PySem.W.Frag) (c:Cod α) where
 dat:α→PyData
 n:Nat
 dp:∀ {H:Hp} {v:V} {d:α},c.rep H v d→Dp K H v (dat d)
 lay:∀ d,PyData.canLay0 (dat d)=true
 deep:∀ d,PyData.depth (dat d)≤n
 dec:DecidableEq α
 eqv:∀ a b,PyData.eqv (dat a) (dat b)=(dec a b).decide
def dInt {K:PySem.W.Frag}:CodD K cInt:=⟨fun i=>.int i,0,fun {H v d} h=>by cases (show v=.int d from h);exact .int d,fun _=>rfl,fun _=>Nat.le_refl _,inferInstance,fun a b=>by
 show (a == b)=decide (a=b);rfl⟩
theorem dec_decide {α:Type} (i:DecidableEq α) (a b:α):(i a b).decide=true↔a=b:=by
 constructor
 ·intro h;exact of_decide_eq_true h
 ·intro h;exact decide_eq_true h
theorem reps_dp {α:Type} {K:PySem.W.Frag} {c:Cod α} (x:CodD K c) {H:Hp}:∀ {vs:List V} {ds:List α},Reps c H vs ds→DpAll K H vs (ds.map x.dat)
 | [],[],_=>.nil
 | _ :: _,_ :: _,h=>.cons (x.dp h.1) (reps_dp x h.2)
 | [],_ :: _,h=>h.elim
 | _ :: _,[],h=>h.elim
theorem lay_map {α:Type} {K:PySem.W.Frag} {c:Cod α} (x:CodD K c):∀ ds:List α,PyData.canLayAll0 (ds.map x.dat)=true
 | []=>rfl
 | d :: ds=>by show (PyData.canLay0 _ && PyData.canLayAll0 _)=true;rw [x.lay,lay_map x ds];rfl
theorem deep_map {α:Type} {K:PySem.W.Frag} {c:Cod α} (x:CodD K c):∀ ds:List α,PyData.depthAll (ds.map x.dat)≤x.n
 | []=>Nat.zero_le _
 | d :: ds=>by show max (PyData.depth _) (PyData.depthAll _)≤_;have:=x.deep d;have:=deep_map x ds;omega
theorem eqv_map {α:Type} {K:PySem.W.Frag} {c:Cod α} (x:CodD K c):∀ as bs:List α,PyData.eqvAll (as.map x.dat) (bs.map x.dat)=true↔as=bs
 | [],[]=>⟨fun _=>rfl,fun _=>rfl⟩
 | a :: as,b :: bs=>by
  show (PyData.eqv _ _ && PyData.eqvAll _ _)=true↔_
  rw [x.eqv,Bool.and_eq_true,dec_decide,eqv_map x as bs,List.cons.injEq]
 | [],_ :: _=>⟨fun h=>(by cases h),fun h=>(by cases h)⟩
 | _ :: _,[]=>⟨fun h=>(by cases h),fun h=>(by cases h)⟩
def dList {α:Type} {K:PySem.W.Frag} {c:Cod α} (x:CodD K c):CodD K (cList K c) :=
 ⟨fun ds=>.list (ds.map x.dat),x.n+1,fun {H v d} h=>by obtain ⟨a,vs,e,h2,h3⟩:=h;subst e;exact .lst h2 (reps_dp x h3),fun ds=>lay_map x ds,
  fun ds=>Nat.succ_le_succ (deep_map x ds),(letI:=x.dec;inferInstance),fun a b=>by
   refine Bool.eq_iff_iff.mpr ?_;rw [dec_decide];exact eqv_map x a b⟩
theorem CodD.shaped {α:Type} {K:PySem.W.Frag} {c:Cod α} (x:CodD K c) (hn:x.n≤64) (d:α):SeqAt.shaped (x.dat d)=true:=by
 unfold SeqAt.shaped;rw [x.lay,decide_eq_true (Nat.le_trans (x.deep d) hn)];rfl
def Ev {α:Type} (Γ:Gam) (te:TE) (c:Cod α) (d:α):Prop:=∀ F H σ,Sl F H σ Γ→∀ Q:VK,(∀ v F' H',Ext F H F' H'→c.rep F' v d→Q v H')→te σ H Q
def EvN {α:Type} (Γ:Gam) (te:TE) (c:Cod α) (ds:List α):Prop:=∀ F H σ,Sl F H σ Γ→∀ Q:VK,(∀ p vs F' H',Ext F H F' H'→H p=none→F' p=none→H' p=some (.lst vs)→Reps c F' vs ds→Q (.ref p) H')→te σ H Q
def EvT (Γ:Gam) (tt:TT) (b:Bool):Prop:=∀ F H σ,Sl F H σ Γ→∀ Q:Bool→Hp→Prop,(∀ F' H',Ext F H F' H'→Q b H')→tt σ H Q
def EvA {α:Type} (Γ:Gam) (ta:TA) (c:CodA α) (d:α):Prop:=∀ F H σ,Sl F H σ Γ→∀ Q:List V→Hp→Prop,(∀ vs F' H',Ext F H F' H'→c.rep F' vs d→Q vs H')→ta σ H Q
def EvL {α:Type} (Γ:Gam) (ta:TA) (c:Cod α) (ds:List α):Prop:=∀ F H σ,Sl F H σ Γ→∀ Q:List V→Hp→Prop,(∀ vs F' H',Ext F H F' H'→Reps c F' vs ds→Q vs H')→ta σ H Q
def EvO (Γ:Gam) (to:TO) (o:Option Int):Prop:=∀ F H σ,Sl F H σ Γ→∀ Q:Option Int→Hp→Prop,(∀ F' H',Ext F H F' H'→Q o H')→to σ H Q
section
variable {K:PySem.W.Frag} {Γ:Gam} {ta tb tc te:TE} {α β γ:Type} {c:Cod α} {d:α} {c2:Cod β} {d2:β}
theorem ev_is {d':α} (h:Ev Γ te c d) (e:d=d'):Ev Γ te c d':=e ▸ h
theorem evT_is {tt:TT} {b b':Bool} (h:EvT Γ tt b) (e:b=b'):EvT Γ tt b':=e ▸ h
theorem evN_is {d d':List α} (h:EvN Γ te c d) (e:d=d'):EvN Γ te c d':=e ▸ h
theorem ev_var {i:Nat} (e:Γ[i]?=some (.val c d)):Ev Γ (tVar i) c d:=fun F H σ S Q q=>by
 obtain ⟨v,h1,h2⟩:=S.var e
 exact ⟨v,h1,q v F H (Ext.refl S.ex) h2⟩
theorem ev_c {v:V} (h:∀ F,c.rep F v d):Ev Γ (tC v) c d:=fun F H σ S Q q=>q v F H (Ext.refl S.ex) (h F)
theorem ev_int {i:Int}:Ev Γ (tC (.int i)) cInt i:=ev_c fun _=>rfl
theorem EvN.ev {ds:List α} (h:EvN Γ te c ds):Ev Γ te (cList K c) ds:=fun F H σ S Q q=>h F H σ S Q fun p vs F' H' x h1 h2 h3 h4 =>
 q (.ref p) (upd F' p (.lst vs)) H' ⟨x.f.trans (Ex.new h2),x.h,fun a o e=>by
  by_cases z:a=p
  ·subst z;rw [upd_same] at e;cases e;exact h3
  ·rw [upd_ne z] at e;exact x.i a o e,fun a o e=>by
  by_cases z:a=p
  ·subst z;exact .inr h1
  ·rw [upd_ne z] at e;exact x.n a o e⟩ ⟨p,vs,rfl,.inl (.inl upd_same),h4.mono (Ex.new h2)⟩
theorem ev_mono_op {r:R2} {c3:Cod γ} {d3:γ} (h1:Ev Γ ta c d) (h2:Ev Γ tb c2 d2)
  (hr:∀ F H x y,Ex F H→c.rep F x d→c2.rep F y d2→∀ Q:VK,(∀ v F' H',Ext F H F' H'→c3.rep F' v d3→Q v H')→r x y H Q):Ev Γ (tOp r ta tb) c3 d3:=fun F H σ S Q q =>
 h1 F H σ S _ fun x F1 H1 e1 r1=>h2 F1 H1 σ (S.grow e1) _ fun y F2 H2 e2 r2=>hr F2 H2 x y e2.i (c.mono e2.f r1) r2 Q fun v F' H' e3 r3=>q v F' H' ((e1.trans e2).trans e3) r3
theorem ev_ii {C:Int→Int→Prop} {k:Int→Int→Int} {i j:Int} (h1:Ev Γ ta cInt i) (h2:Ev Γ tb cInt j) (hc:C i j):Ev Γ (tOp (rI C fun i j=>.int (k i j)) ta tb) cInt (k i j) :=
 ev_mono_op h1 h2 fun F H x y e r1 r2 Q q=>⟨i,j,r1,r2,hc,q _ F H (Ext.refl e) rfl⟩
theorem ev_ii0 {k:Int→Int→Int} {i j:Int} (h1:Ev Γ ta cInt i) (h2:Ev Γ tb cInt j):Ev Γ (tOp (rI0 fun i j=>.int (k i j)) ta tb) cInt (k i j) :=
 ev_mono_op h1 h2 fun F H x y e r1 r2 Q q=>⟨i,j,r1,r2,q _ F H (Ext.refl e) rfl⟩
theorem ev_iib {k:Int→Int→Bool} {i j:Int} (h1:Ev Γ ta cInt i) (h2:Ev Γ tb cInt j):Ev Γ (tOp (rI0 fun i j=>.bl (k i j)) ta tb) cBool (k i j) :=
 ev_mono_op h1 h2 fun F H x y e r1 r2 Q q=>⟨i,j,r1,r2,q _ F H (Ext.refl e) rfl⟩
theorem ev_neg {i:Int} (h1:Ev Γ ta cInt i):Ev Γ (tUn (rU fun i=>.int (-i)) ta) cInt (-i):=fun F H σ S Q q =>
 h1 F H σ S _ fun x F1 H1 e1 r1=>⟨i,r1,q _ F1 H1 e1 rfl⟩
theorem ev_eqI {i j:Int} (h1:Ev Γ ta cInt i) (h2:Ev Γ tb cInt j):Ev Γ (tOp rEq ta tb) cBool (decide (i=j)) :=
 ev_mono_op h1 h2 fun F H x y e r1 r2 Q q=>by
  cases (show x=.int i from r1);cases (show y=.int j from r2)
  exact ⟨rfl,q _ F H (Ext.refl e) (by show V.bl (decide (V.int i=V.int j))=V.bl (decide (i=j));simp)⟩
theorem ev_neI {i j:Int} (h1:Ev Γ ta cInt i) (h2:Ev Γ tb cInt j):Ev Γ (tOp rNe ta tb) cBool (!decide (i=j)) :=
 ev_mono_op h1 h2 fun F H x y e r1 r2 Q q=>by
  cases (show x=.int i from r1);cases (show y=.int j from r2)
  exact ⟨rfl,q _ F H (Ext.refl e) (by show V.bl (!decide (V.int i=V.int j))=V.bl (!decide (i=j));simp)⟩
theorem ev_eqD {d d2:α} (x:CodD K c) (hn:x.n≤64) (h1:Ev Γ ta c d) (h2:Ev Γ tb c d2):Ev Γ (tOp (rEqD K) ta tb) cBool (x.dec d d2).decide :=
 ev_mono_op h1 h2 fun F H u v e r1 r2 Q q=>⟨x.dat d,x.dat d2,x.dp (c.mono e r1),x.dp (c.mono e r2),x.shaped hn d,x.shaped hn d2,q _ F H (Ext.refl e) (congrArg V.bl (x.eqv d d2))⟩
theorem evT_test {b:Bool} (h:Ev Γ te cBool b):EvT Γ (tTest te) b:=fun F H σ S Q q=>h F H σ S _ fun v F1 H1 e1 r1=>⟨b,r1,q F1 H1 e1⟩
theorem evT_B {b:Bool} (h:Ev Γ te cBool b):EvT Γ (tB te) b:=fun F H σ S Q q=>h F H σ S _ fun v F1 H1 e1 r1=>⟨b,r1,q F1 H1 e1⟩
theorem evT_and {t u:TT} {a b:Bool} (h1:EvT Γ t a) (h2:a=true→EvT Γ u b):EvT Γ (tAnd t u) (a && b):=fun F H σ S Q q=>h1 F H σ S _ fun F1 H1 e1=>by
 cases a with
 | true=>exact iteT (h2 rfl F1 H1 σ (S.grow e1) Q fun F2 H2 e2=>q F2 H2 (e1.trans e2))
 | false=>exact iteF (q F1 H1 e1)
theorem evT_or {t u:TT} {a b:Bool} (h1:EvT Γ t a) (h2:a=false→EvT Γ u b):EvT Γ (tOr t u) (a || b):=fun F H σ S Q q=>h1 F H σ S _ fun F1 H1 e1=>by
 cases a with
 | true=>exact iteT (q F1 H1 e1)
 | false=>exact iteF (h2 rfl F1 H1 σ (S.grow e1) Q fun F2 H2 e2=>q F2 H2 (e1.trans e2))
theorem evT_not {t:TT} {a:Bool} (h1:EvT Γ t a):EvT Γ (tNot t) (!a):=fun F H σ S Q q=>h1 F H σ S _ fun F1 H1 e1=>q F1 H1 e1
theorem ev_andV {a b:Bool} (h1:Ev Γ ta cBool a) (h2:a=true→Ev Γ tb cBool b):Ev Γ (tAndV ta tb) cBool (a && b):=fun F H σ S Q q=>h1 F H σ S _ fun v F1 H1 e1 r1=>⟨a,r1,by
 cases a with
 | true=>exact iteT (h2 rfl F1 H1 σ (S.grow e1) Q fun v F2 H2 e2 r2=>q v F2 H2 (e1.trans e2) r2)
 | false=>exact iteF (q _ F1 H1 e1 rfl)⟩
theorem ea_nil:EvA Γ tNil aNil ():=fun F H σ S Q q=>q [] F H (Ext.refl S.ex) rfl
theorem ea_cons {tr:TA} {r:CodA β} {ds:β} (h:Ev Γ ta c d) (hr:EvA Γ tr r ds):EvA Γ (tCons ta tr) (aCons c r) (d,ds):=fun F H σ S Q q =>
 h F H σ S _ fun v F1 H1 e1 r1=>hr F1 H1 σ (S.grow e1) _ fun vs F2 H2 e2 r2=>q _ F2 H2 (e1.trans e2) ⟨v,vs,rfl,c.mono e2.f r1,r2⟩
theorem el_nil:EvL Γ tNil c []:=fun F H σ S Q q=>q [] F H (Ext.refl S.ex) trivial
theorem el_cons {tr:TA} {ds:List α} (h:Ev Γ ta c d) (hr:EvL Γ tr c ds):EvL Γ (tCons ta tr) c (d :: ds):=fun F H σ S Q q =>
 h F H σ S _ fun v F1 H1 e1 r1=>hr F1 H1 σ (S.grow e1) _ fun vs F2 H2 e2 r2=>q _ F2 H2 (e1.trans e2) ⟨c.mono e2.f r1,r2⟩
theorem sz_of {n:Nat} (h:n≤1000000):n≤sizeLine:=Nat.le_trans h (by decide)
theorem sz_lt {n:Nat} (h:n < 1000000):n < sizeLine:=Nat.lt_of_lt_of_le h (by decide)
theorem ev_tup {tr:TA} {r:CodA α} {ds:α} (h:EvA Γ tr r ds) (n:Nat) (hl:∀ F vs,r.rep F vs ds→vs.length=n) (hn:n≤1000000):Ev Γ (tTup tr) (cTup K r) ds:=fun F H σ S Q q =>
 h F H σ S _ fun vs F1 H1 e1 r1=>⟨by rw [hl _ _ r1];exact sz_of hn,fun p hp=>q _ _ _ (e1.trans (Ext.new e1.i hp)) ⟨p,vs,rfl,.inl (.inl upd_same),r.mono (Ex.new (e1.i.free hp)) r1⟩⟩
theorem ev_pair {c:Cod α} {c2:Cod β} {d:α} {d2:β} (h1:Ev Γ ta c d) (h2:Ev Γ tb c2 d2):Ev Γ (tTup (tCons ta (tCons tb tNil))) (cPair K c c2) (d,d2) :=
 ev_tup (ea_cons h1 (ea_cons h2 ea_nil)) 2 (fun _ _ h=>by obtain ⟨_,_,rfl,_,_,_,rfl,_,h⟩:=h;cases (show _=[] from h);rfl) (by decide)
theorem evN_lst {tr:TA} {ds:List α} (h:EvL Γ tr c ds) (hn:ds.length≤1000000):EvN Γ (tLst tr) c ds:=fun F H σ S Q q =>
 h F H σ S _ fun vs F1 H1 e1 r1=>⟨by rw [r1.len];exact sz_of hn,fun p hp=>q p vs F1 _ (e1.trans (Ext.aside e1.i hp)) (e1.h.free hp) (e1.i.free hp) upd_same r1⟩
theorem atI_nat' {α:Type} {xs:List α} {j:Nat} {x:α} (h:xs[j]?=some x):atI xs (j:Int)=some x:=by
 have hj:j < xs.length:=(List.getElem?_eq_some_iff.mp h).1
 unfold atI ixN
 rw [if_pos (by omega),if_pos (by omega)]
 simpa using h
theorem atI_reps {F:Hp} {vs:List V} {ds:List α} {i:Int} {x:α} (h:Reps c F vs ds) (e:atI ds i=some x):∃ v,atI vs i=some v∧c.rep F v x:=by
 unfold atI at e ⊢
 rw [h.len]
 cases q:ixN ds.length i with
 | none=>rw [q] at e;cases e
 | some j =>
  rw [q] at e
  exact h.get (show ds[j]?=some x from e)
theorem ev_ixL {ds:List α} {i:Int} {x:α} (h1:Ev Γ ta (cList K c) ds) (h2:Ev Γ tb cInt i) (e:atI ds i=some x):Ev Γ (tOp (rIxL K) ta tb) c x :=
 ev_mono_op h1 h2 fun F H u v ex r1 r2 Q q=>by
  obtain ⟨a,vs,rfl,hs,hr⟩:=r1
  obtain ⟨w,hw,rw⟩:=atI_reps hr e
  exact ⟨a,vs,i,w,rfl,r2,ex_l ex hs,hw,q _ F H (Ext.refl ex) rw⟩
theorem ev_cb1 {r:List V→Hp→VK→Prop} (h1:Ev Γ ta c d) (hr:∀ F H x,Ex F H→c.rep F x d→∀ Q:VK,(∀ v F' H',Ext F H F' H'→c2.rep F' v d2→Q v H')→r [x] H Q):Ev Γ (tCB r (tCons ta tNil)) c2 d2:=fun F H σ S Q q =>
 h1 F H σ S _ fun x F1 H1 e1 r1=>hr F1 H1 x e1.i r1 Q fun v F2 H2 e2 r2=>q v F2 H2 (e1.trans e2) r2
theorem ev_abs {i:Int} (h1:Ev Γ ta cInt i):Ev Γ (tCB (fun xs H Q=>∃ i,xs=[.int i]∧Q (.int (if i < 0 then -i else i)) H) (tCons ta tNil)) cInt (i.natAbs:Int) :=
 ev_cb1 h1 fun F H x e r1 Q q=>by
  cases (show x=.int i from r1)
  exact ⟨i,rfl,q _ F H (Ext.refl e) (congrArg V.int (by split<;>omega))⟩
def rMaxI:List V→Hp→VK→Prop:=fun xs H Q=>∃ i j,xs=[.int i,.int j]∧Q (.int (if j > i then j else i)) H
theorem ev_max {i j:Int} (h1:Ev Γ ta cInt i) (h2:Ev Γ tb cInt j):Ev Γ (tCB (fun xs H Q=>∃ i j,xs=[.int i,.int j]∧Q (.int (if j > i then j else i)) H) (tCons ta (tCons tb tNil))) cInt (max i j):=fun F H σ S Q q =>
 h1 F H σ S _ fun x F1 H1 e1 r1=>h2 F1 H1 σ (S.grow e1) _ fun y F2 H2 e2 r2=>by
  cases (show x=.int i from r1);cases (show y=.int j from r2)
  exact ⟨i,j,rfl,q _ F2 H2 (e1.trans e2) (congrArg V.int (by split<;>omega))⟩
abbrev rLenQ (K:PySem.W.Frag):List V→Hp→VK→Prop:=fun xs H Q=>∃ p ys,xs=[.ref p]∧(SqL K H p ys∨SqT K H p ys)∧Q (.int ys.length) H
theorem ev_len {ds:List α} (h1:Ev Γ ta (cList K c) ds):Ev Γ (tCB (rLenQ K) (tCons ta tNil)) cInt (ds.length:Int) :=
 ev_cb1 h1 fun F H x e r1 Q q=>by
  obtain ⟨a,vs,rfl,hs,hr⟩:=r1
  exact ⟨a,vs,rfl,.inl (ex_l e hs),q _ F H (Ext.refl e) (by rw [hr.len];rfl)⟩
theorem eo_none:EvO Γ tNoPart none:=fun F H σ S Q q=>q F H (Ext.refl S.ex)
theorem eo_some {i:Int} (h:Ev Γ te cInt i):EvO Γ (tPart te) (some i):=fun F H σ S Q q=>h F H σ S _ fun v F1 H1 e1 r1=>⟨i,r1,q F1 H1 e1⟩
def cutD {α:Type} (xs:List α) (lo hi:Option Int):List α:=(xs.drop (HT.sIx xs.length 0 lo)).take (HT.sIx xs.length xs.length hi-HT.sIx xs.length 0 lo)
theorem reps_cut {F:Hp} {vs:List V} {ds:List α} {lo hi:Option Int} (h:Reps c F vs ds):Reps c F (cutV vs lo hi) (cutD ds lo hi):=by
 unfold cutV cutD;rw [h.len];exact (h.drop _).take _
theorem evN_sl {tl th:TO} {ds:List α} {lo hi:Option Int} (h:Ev Γ ta (cList K c) ds) (h1:EvO Γ tl lo) (h2:EvO Γ th hi):EvN Γ (tSl (rSlL K) ta tl th) c (cutD ds lo hi):=fun F H σ S Q q =>
 h F H σ S _ fun v F1 H1 e1 r1=>h1 F1 H1 σ (S.grow e1) _ fun F2 H2 e2=>h2 F2 H2 σ (S.grow (e1.trans e2)) _ fun F3 H3 e3=>by
  obtain ⟨a,vs,rfl,hs,hr⟩:=(cList K c).mono (e2.trans e3).f r1
  exact ⟨a,vs,rfl,ex_l e3.i hs,fun l hl=>q l _ F3 _ (((e1.trans e2).trans e3).trans (Ext.aside e3.i hl)) (((e1.trans e2).trans e3).h.free hl) (e3.i.free hl) upd_same (reps_cut hr)⟩
theorem evN_catO {ds es:List α} {k:Nat} (h1:Γ[k]?=some (.own c ds)) (h2:EvN Γ tb c es) (hl:ds.length+es.length≤1000000):EvN Γ (tOp rCat (tVar k) tb) c (ds++es):=fun F H σ S Q q=>by
 obtain ⟨p,vs,k1,k2,k3,k4⟩:=S.owned h1
 exact ⟨.ref p,k1,h2 F H σ S _ fun p2 vs2 F2 H2 e2 m1 m2 m3 m4=>⟨p,p2,vs,vs2,rfl,rfl,e2.h p _ k3,m3,by rw [k4.len,m4.len];exact sz_of hl,
  fun l hl=>q l _ F2 _ (e2.trans (Ext.aside e2.i hl)) (e2.h.free hl) (e2.i.free hl) upd_same ((k4.mono e2.f).append m4)⟩⟩
end
end Pw
namespace Pw
open PySem L2
def SpF {α β:Type} (ca:CodA α) (pre:α→Prop) (c:Cod β) (f:α→β):Sp:=fun vs H Q _=>∃ F a,Ex F H∧ca.rep F vs a∧pre a∧∀ v F' H',Ext F H F' H'→c.rep F' v (f a)→Q v H'
def SpN {α β:Type} (ca:CodA α) (pre:α→Prop) (c:Cod β) (f:α→List β):Sp:=fun vs H Q _=>∃ F a,Ex F H∧ca.rep F vs a∧pre a ∧
 ∀ p vs' F' H',Ext F H F' H'→H p=none→F' p=none→H' p=some (.lst vs')→Reps c F' vs' (f a)→Q (.ref p) H'
def SpX {α β:Type} (ca:CodA α) (pre:α→Prop) (c:Cod β) (f:α→Option β) (C:Addr):Sp:=fun vs H Q E=>∃ F a,Ex F H∧ca.rep F vs a∧pre a ∧
 (∀ b v F' H',f a=some b→Ext F H F' H'→c.rep F' v b→Q v H')∧(f a=none→∀ F' H',Ext F H F' H'→E (.ref C) none H')
section
variable {K:PySem.W.Frag} {Γ:Gam} {ta tb tc te:TE} {α β γ:Type} {c:Cod α} {d:α} {c2:Cod β} {d2:β}
theorem ev_call {ca:CodA α} {a:α} {pre:α→Prop} {f:α→β} {tr:TA} {E:XK} (h:EvA Γ tr ca a) (hp:pre a):Ev Γ (tCall (SpF ca pre c2 f) [] E tr) c2 (f a):=fun F H σ S Q q =>
 h F H σ S _ fun vs F1 H1 e1 r1=>⟨F1,a,e1.i,by rw [List.append_nil];exact r1,hp,fun v F' H' e2 r2=>q v F' H' (e1.trans e2) r2⟩
theorem evN_call {ca:CodA α} {a:α} {pre:α→Prop} {f:α→List β} {tr:TA} {E:XK} (h:EvA Γ tr ca a) (hp:pre a):EvN Γ (tCall (SpN ca pre c2 f) [] E tr) c2 (f a):=fun F H σ S Q q =>
 h F H σ S _ fun vs F1 H1 e1 r1=>⟨F1,a,e1.i,by rw [List.append_nil];exact r1,hp,fun p vs' F' H' e2 k1 k2 k3 k4=>q p vs' F' H' (e1.trans e2) (e1.h.free k1) k2 k3 k4⟩
end
structure Stt (F0 H0 F H:Hp) (σ:L2.St) (Γ:Gam):Prop where
 sl:Sl F H σ Γ
 f:Ex F0 F
 h:Ex H0 H
 n:∀ a o,F a=some o→F0 a=some o∨H0 a=none
 own:∀ (i:Nat) p,IsOwn Γ[i]?→σ[i]?=some (some (.ref p))→H0 p=none
theorem Stt.grow {F0 H0 F H F' H':Hp} {σ:L2.St} {Γ:Gam} (S:Stt F0 H0 F H σ Γ) (e:Ext F H F' H'):Stt F0 H0 F' H' σ Γ :=
 ⟨S.sl.grow e,S.f.trans e.f,S.h.trans e.h,fun a o q=>by
  rcases e.n a o q with z | z
  ·exact S.n a o z
  ·exact .inr (S.h.free z),S.own⟩
theorem Stt.ext {F0 H0 F H:Hp} {σ:L2.St} {Γ:Gam} (S:Stt F0 H0 F H σ Γ):Ext F0 H0 F H:=⟨S.f,S.h,S.sl.ex,S.n⟩
theorem Stt.set {F0 H0 F H:Hp} {σ:L2.St} {Γ:Gam} {i:Nat} {s:Option V} {e:Ent} (S:Stt F0 H0 F H σ Γ) (ho:¬IsOwn (some e)) (k:EntOk F H s e):Stt F0 H0 F H (σ.set i s) (Γ.set i e) :=
 ⟨S.sl.set ho k,S.f,S.h,S.n,fun j p oj hj=>by
  by_cases q:i=j
  ·subst q
   rw [List.getElem?_set] at oj
   by_cases hl:i < Γ.length
   ·rw [if_pos rfl,if_pos hl] at oj;exact (ho oj).elim
   ·rw [if_pos rfl,if_neg hl] at oj;exact oj.elim
  ·rw [List.getElem?_set_ne q] at oj hj;exact S.own j p oj hj⟩
theorem Stt.setOb {F0 H0 F H:Hp} {σ:L2.St} {Γ:Gam} {i:Nat} {p:Addr} {o:HO} {α:Type} {c:CodO α} {ds:α} (S:Stt F0 H0 F H σ Γ) (h0:H0 p=none) (h1:F p=none) (h2:H p=some o) (h3:c.rep F p o ds)
  (hd:∀ j,j≠i→IsOwn Γ[j]?→σ[j]?≠some (some (.ref p))):Stt F0 H0 F H (σ.set i (some (.ref p))) (Γ.set i (.ob c ds)) :=
 ⟨S.sl.setOb h1 h2 h3 hd,S.f,S.h,S.n,fun j q oj hj=>by
  by_cases z:i=j
  ·subst z
   rw [List.getElem?_set] at hj
   by_cases hl:i < σ.length
   ·rw [if_pos rfl,if_pos hl] at hj;cases hj;exact h0
   ·rw [if_pos rfl,if_neg hl] at hj;cases hj
  ·rw [List.getElem?_set_ne z] at oj hj;exact S.own j q oj hj⟩
theorem Stt.setOwn {F0 H0 F H:Hp} {σ:L2.St} {Γ:Gam} {i:Nat} {p:Addr} {vs:List V} {α:Type} {c:Cod α} {ds:List α} (S:Stt F0 H0 F H σ Γ) (h0:H0 p=none) (h1:F p=none) (h2:H p=some (.lst vs)) (h3:Reps c F vs ds)
  (hd:∀ j,j≠i→IsOwn Γ[j]?→σ[j]?≠some (some (.ref p))):Stt F0 H0 F H (σ.set i (some (.ref p))) (Γ.set i (.own c ds)):=S.setOb h0 h1 h2 (c:=cLst c) ⟨vs,rfl,h3⟩ hd
theorem Stt.writeOb {F0 H0 F H:Hp} {σ:L2.St} {Γ:Gam} {i:Nat} {p:Addr} {w:HO} {α β:Type} {c0:CodO β} {ds0:β} {c:CodO α} {ds:α} (S:Stt F0 H0 F H σ Γ) (e:Γ[i]?=some (.ob c0 ds0)) (hp:σ[i]?=some (some (.ref p))) (h1:F p=none) (h3:c.rep F p w ds) :
  Stt F0 H0 F (upd H p w) σ (Γ.set i (.ob c ds)):=by
 have h0:H0 p=none:=S.own i p (by rw [e];trivial) hp
 refine ⟨S.sl.writeOb e hp h1 h3,S.f,S.h.mut h0,S.n,fun j q oj hj=>S.own j q ?_ hj⟩
 rw [List.getElem?_set] at oj
 by_cases z:i=j
 ·subst z;rw [e];trivial
 ·rw [if_neg z] at oj;exact oj
theorem Stt.write {F0 H0 F H:Hp} {σ:L2.St} {Γ:Gam} {i:Nat} {p:Addr} {vs:List V} {α β:Type} {c0:Cod β} {ds0:List β} {c:Cod α} {ds:List α} (S:Stt F0 H0 F H σ Γ) (e:Γ[i]?=some (.own c0 ds0)) (hp:σ[i]?=some (some (.ref p))) (h1:F p=none) (h3:Reps c F vs ds) :
  Stt F0 H0 F (upd H p (.lst vs)) σ (Γ.set i (.own c ds)):=S.writeOb e hp h1 (c:=cLst c) ⟨vs,rfl,h3⟩
theorem Stt.freezeOb {F0 H0 F H:Hp} {σ:L2.St} {Γ:Gam} {i:Nat} {α β:Type} {c:CodO α} {d:α} {c2:Cod β} {d2:β} (S:Stt F0 H0 F H σ Γ) (e:Γ[i]?=some (.ob c d)) (hc:∀ F p o,F p=some o→c.rep F p o d→c2.rep F (.ref p) d2) :
  ∃ F',Ex F F'∧Stt F0 H0 F' H σ (Γ.set i (.val c2 d2)):=by
 obtain ⟨p,vs,k1,k2,k3,k4⟩:=S.sl.obj e
 have h0:H0 p=none:=S.own i p (by rw [e];trivial) k1
 refine ⟨upd F p vs,Ex.new k2,?_⟩
 have hF:Ex F (upd F p vs):=Ex.new k2
 have hFH:Ex (upd F p vs) H:=fun a o q=>by
  by_cases z:a=p
  ·subst z;rw [upd_same] at q;cases q;exact k3
  ·rw [upd_ne z] at q;exact S.sl.ex a o q
 refine ⟨⟨hFH,by simp [S.sl.len],fun j s f e1 e2=>?_,fun a b q hab oa ob=>S.sl.dis a b q hab ?_ ?_⟩,S.f.trans hF,S.h,fun a o q=>?_,fun j q oj=>S.own j q ?_⟩
 ·rw [List.getElem?_set] at e2
  by_cases hj:i=j
  ·subst hj
   have hl2:i < Γ.length:=(List.getElem?_eq_some_iff.mp e).1
   rw [if_pos rfl,if_pos hl2] at e2
   cases e2;rw [k1] at e1;cases e1
   exact ⟨.ref p,rfl,hc _ p vs upd_same (c.mono hF k4)⟩
  ·rw [if_neg hj] at e2
   have k:=S.sl.ok j s f e1 e2
   cases f with
   | any=>trivial
   | val c d=>obtain ⟨v,z1,z2⟩:=k;exact ⟨v,z1,c.mono hF z2⟩
   | ob c d =>
    obtain ⟨p2,vs2,z1,z2,z3,z4⟩:=k
    refine ⟨p2,vs2,z1,?_,z3,c.mono hF z4⟩
    have np:p2≠p:=fun z=>by
     subst z;subst z1
     exact S.sl.dis i j p2 hj (by rw [e];trivial) (by rw [e2];trivial) k1 e1
    rw [upd_ne np];exact z2
 ·rw [List.getElem?_set] at oa
  by_cases z:i=a
  ·subst z;rw [e];trivial
  ·rw [if_neg z] at oa;exact oa
 ·rw [List.getElem?_set] at ob
  by_cases z:i=b
  ·subst z;rw [e];trivial
  ·rw [if_neg z] at ob;exact ob
 ·by_cases z:a=p
  ·subst z;exact .inr h0
  ·rw [upd_ne z] at q;exact S.n a o q
 ·rw [List.getElem?_set] at oj
  by_cases z:i=j
  ·subst z;rw [e];trivial
  ·rw [if_neg z] at oj;exact oj
theorem Stt.freeze {F0 H0 F H:Hp} {σ:L2.St} {Γ:Gam} {i:Nat} {α:Type} {c:Cod α} {ds:List α} (K:PySem.W.Frag) (S:Stt F0 H0 F H σ Γ) (e:Γ[i]?=some (.own c ds)) :
  ∃ F',Ex F F'∧Stt F0 H0 F' H σ (Γ.set i (.val (cList K c) ds)):=S.freezeOb e fun F p o h k=>by
 obtain ⟨vs,rfl,k⟩:=k
 exact ⟨p,vs,rfl,.inl (.inl h),k⟩
theorem Sl.setV {F H:Hp} {σ:L2.St} {Γ:Gam} {i:Nat} {v:V} {α:Type} {c:Cod α} {d:α} (S:Sl F H σ Γ) (k:c.rep F v d):Sl F H (σ.set i (some v)) (Γ.set i (.val c d)) :=
 S.set (e:=.val c d) (fun h=>h) ⟨v,rfl,k⟩
theorem Stt.setV {F0 H0 F H:Hp} {σ:L2.St} {Γ:Gam} {i:Nat} {v:V} {α:Type} {c:Cod α} {d:α} (S:Stt F0 H0 F H σ Γ) (k:c.rep F v d):Stt F0 H0 F H (σ.set i (some v)) (Γ.set i (.val c d)) :=
 S.set (e:=.val c d) (fun h=>h) ⟨v,rfl,k⟩
theorem Sl.setA {F H:Hp} {σ:L2.St} {Γ:Gam} {i:Nat} {s:Option V} (S:Sl F H σ Γ):Sl F H (σ.set i s) (Γ.set i .any):=S.set (e:=.any) (fun h=>h) trivial
theorem Reps.one {α:Type} {c:Cod α} {F:Hp} {v:V} {d:α} (k:c.rep F v d):Reps c F [v] [d]:=⟨k,trivial⟩
inductive Wk:Gam→Gam→Prop where
 | nil:Wk [] []
 | same {e:Ent} {Γ Γ':Gam}:Wk Γ Γ'→Wk (e :: Γ) (e :: Γ')
 | any {e:Ent} {Γ Γ':Gam}:Wk Γ Γ'→Wk (e :: Γ) (.any :: Γ')
theorem Wk.refl:∀ Γ:Gam,Wk Γ Γ
 | []=>.nil
 | _ :: Γ=>.same (Wk.refl Γ)
theorem Wk.len {Γ Γ':Gam} (w:Wk Γ Γ'):Γ.length=Γ'.length:=by
 induction w with
 | nil=>rfl
 | same _ ih=>simp [ih]
 | any _ ih=>simp [ih]
theorem Wk.at {Γ Γ':Gam} (w:Wk Γ Γ'):∀ (i:Nat) e,Γ'[i]?=some e→Γ[i]?=some e∨e=.any:=by
 induction w with
 | nil=>intro i e h;simp at h
 | same _ ih=>intro i e h;cases i with
  | zero=>left;simpa using h
  | succ i=>simpa using ih i e (by simpa using h)
 | any _ ih=>intro i e h;cases i with
  | zero=>right;simpa using h.symm
  | succ i=>simpa using ih i e (by simpa using h)
theorem Wk.own {Γ Γ':Gam} (w:Wk Γ Γ') {i:Nat} (h:IsOwn Γ'[i]?):IsOwn Γ[i]?:=by
 cases q:Γ'[i]? with
 | none=>rw [q] at h;exact h.elim
 | some e =>
  rcases w.at i e q with z | z
  ·rw [z];rw [q] at h;exact h
  ·subst z;rw [q] at h;exact h.elim
theorem Stt.wk {F0 H0 F H:Hp} {σ:L2.St} {Γ Γ':Gam} (S:Stt F0 H0 F H σ Γ) (w:Wk Γ Γ'):Stt F0 H0 F H σ Γ' :=
 ⟨⟨S.sl.ex,by rw [S.sl.len,w.len],fun i s e h1 h2=>by
   rcases w.at i e h2 with z | z
   ·exact S.sl.ok i s e h1 z
   ·subst z;trivial,fun i j p hij oi oj=>S.sl.dis i j p hij (w.own oi) (w.own oj)⟩,S.f,S.h,S.n,fun i p oi=>S.own i p (w.own oi)⟩
abbrev RR (β:Type):=Hp→Hp→Hp→V→β→Prop
def rVal {β:Type} (c:Cod β):RR β:=fun _ F _ v d=>c.rep F v d
def rNew {β:Type} (c:Cod β):RR (List β):=fun H0 F H v ds=>∃ p vs,v=.ref p∧H0 p=none∧F p=none∧H p=some (.lst vs)∧Reps c F vs ds
structure Pst (β:Type) where
 nx:Gam→Prop
 rt:β→Prop
 bk:Gam→Prop
 ct:Gam→Prop
 E:XK:=E0
 ex:Addr→Prop:=fun _=>False
structure Ob {β:Type} (R:RR β) (P:Pst β) (F0 H0:Hp) (D:Ends):Prop where
 nx:∀ F H σ Γ,Stt F0 H0 F H σ Γ→P.nx Γ→D.nx σ H
 rt:∀ F H v d,Ext F0 H0 F H→R H0 F H v d→P.rt d→D.rt v H
 bk:∀ F H σ Γ,Stt F0 H0 F H σ Γ→P.bk Γ→D.bk σ H
 ct:∀ F H σ Γ,Stt F0 H0 F H σ Γ→P.ct Γ→D.ct σ H
 ex:∀ C F H,P.ex C→Ext F0 H0 F H→P.E (.ref C) none H
def SW {β:Type} (R:RR β) (Γ:Gam) (t:TS) (P:Pst β):Prop:=∀ F0 H0 F H σ D,Stt F0 H0 F H σ Γ→Ob R P F0 H0 D→t D σ H
section
variable {K:PySem.W.Frag} {Γ:Gam} {ta tb tc te:TE} {α β γ ρ:Type} {c:Cod α} {d:α} {c2:Cod β} {d2:β} {R:RR ρ} {P:Pst ρ} {t u tz:TS} {i j:Nat}
theorem Ob.seq {F0 H0:Hp} {D:Ends} (o:Ob R P F0 H0 D):Ob R { P with nx:=fun Γ'=>SW R Γ' u P } F0 H0 { D with nx:=u D } :=
 ⟨fun F H σ Γ S h=>h F0 H0 F H σ D S o,o.rt,o.bk,o.ct,o.ex⟩
theorem sw_seq (h:SW R Γ t { P with nx:=fun Γ'=>SW R Γ' u P }):SW R Γ (tSeq t u) P:=fun F0 H0 F H σ D S o=>h F0 H0 F H σ _ S o.seq
theorem sw_next (h:P.nx Γ):SW R Γ tNext P:=fun F0 H0 F H σ D S o=>o.nx F H σ Γ S h
theorem sw_wk {Γ':Gam} (w:Wk Γ Γ') (h:SW R Γ' t P):SW R Γ t P:=fun F0 H0 F H σ D S o=>h F0 H0 F H σ D (S.wk w) o
theorem sw_freeze (K:PySem.W.Frag) {ds:List α} (i:Nat) (e:Γ[i]?=some (.own c ds)) (h:SW R (Γ.set i (.val (cList K c) ds)) t P):SW R Γ t P:=fun F0 H0 F H σ D S o=>by
 obtain ⟨F',_,S'⟩:=S.freeze K e
 exact h F0 H0 F' H σ D S' o
theorem sw_asg (h:Ev Γ te c d) (k:P.nx (Γ.set i (.val c d))):SW R Γ (tAsg te (gName i)) P:=fun F0 H0 F H σ D S o =>
 h F H σ S.sl _ fun v F1 H1 e1 r1=>o.nx F1 H1 _ _ ((S.grow e1).setV (r1)) k
theorem q_asg' (h:Ev Γ te c d) (k:SW R (Γ.set i (.val c d)) tz P):SW R Γ (tSeq (tAsg te (gName i)) tz) P:=sw_seq (sw_asg h k)
theorem sw_asgN {ds:List α} (h:EvN Γ te c ds) (k:P.nx (Γ.set i (.own c ds))):SW R Γ (tAsg te (gName i)) P:=fun F0 H0 F H σ D S o =>
 h F H σ S.sl _ fun p vs F1 H1 e1 k1 k2 k3 k4=>o.nx F1 H1 _ _ ((S.grow e1).setOwn (S.h.free k1) k2 k3 k4 fun j _ oj hj=>by
  cases q:Γ[j]? with
  | none=>rw [q] at oj;exact oj
  | some e =>
   cases e with
   | any=>rw [q] at oj;exact oj
   | val _ _=>rw [q] at oj;exact oj
   | ob c' ds' =>
    obtain ⟨p',vs',z1,z2,z3,z4⟩:=S.sl.obj q
    rw [z1] at hj;cases hj
    rw [k1] at z3;cases z3) k
theorem q_asgN {ds:List α} (h:EvN Γ te c ds) (k:∀ xs,xs=ds→SW R (Γ.set i (.own c xs)) tz P):SW R Γ (tSeq (tAsg te (gName i)) tz) P:=sw_seq (sw_asgN h (k ds rfl))
theorem q_asgN' {ds:List α} (h:EvN Γ te c ds) (k:SW R (Γ.set i (.own c ds)) tz P):SW R Γ (tSeq (tAsg te (gName i)) tz) P:=sw_seq (sw_asgN h k)
theorem sw_un2 {p:α×β} (h:Ev Γ te (cPair K c c2) p) (k:P.nx ((Γ.set i (.val c p.1)).set j (.val c2 p.2))):SW R Γ (tAsg te (gTup K 2 (gCons (gName i) (gCons (gName j) gNil)))) P:=fun F0 H0 F H σ D S o =>
 h F H σ S.sl _ fun v F1 H1 e1 r1=>by
  obtain ⟨a,vs,rfl,hs,x,_,rfl,hx,y,_,rfl,hy,h⟩:=r1
  cases (show _=[] from h)
  exact ⟨a,_,rfl,ex_t e1.i hs,rfl,x,_,rfl,y,_,rfl,rfl,o.nx F1 H1 _ _ (((S.grow e1).setV (hx)).setV (hy)) k⟩
theorem q_un2 {p:α×β} (h:Ev Γ te (cPair K c c2) p) (k:∀ x y,x=p.1→y=p.2→SW R ((Γ.set i (.val c x)).set j (.val c2 y)) tz P):SW R Γ (tSeq (tAsg te (gTup K 2 (gCons (gName i) (gCons (gName j) gNil)))) tz) P:=sw_seq (sw_un2 h (k _ _ rfl rfl))
theorem sw_ret {c:Cod ρ} {P:Pst ρ} {d:ρ} (h:Ev Γ te c d) (k:P.rt d):SW (rVal c) Γ (tRet te) P:=fun F0 H0 F H σ D S o=>h F H σ S.sl _ fun v F1 H1 e1 r1=>o.rt F1 H1 v d (S.grow e1).ext r1 k
theorem sw_retN {c:Cod ρ} {P:Pst (List ρ)} {ds:List ρ} (h:EvN Γ te c ds) (k:P.rt ds):SW (rNew c) Γ (tRet te) P:=fun F0 H0 F H σ D S o=>h F H σ S.sl _ fun p vs F1 H1 e1 k1 k2 k3 k4 =>
 o.rt F1 H1 _ ds (S.grow e1).ext ⟨p,vs,rfl,S.h.free k1,k2,k3,k4⟩ k
theorem sw_retO {c:Cod ρ} {P:Pst (List ρ)} {ds:List ρ} (e:Γ[i]?=some (.own c ds)) (k:P.rt ds):SW (rNew c) Γ (tRet (tVar i)) P:=fun F0 H0 F H σ D S o=>by
 obtain ⟨p,vs,k1,k2,k3,k4⟩:=S.sl.owned e
 exact ⟨.ref p,k1,o.rt F H _ ds S.ext ⟨p,vs,rfl,S.own i p (by rw [e];trivial) k1,k2,k3,k4⟩ k⟩
theorem sw_if {tt:TT} {b:Bool} (h:EvT Γ tt b) (h1:b=true→SW R Γ t P) (h2:b=false→SW R Γ u P):SW R Γ (tIfS tt t u) P:=fun F0 H0 F H σ D S o=>h F H σ S.sl _ fun F1 H1 e1=>by
 cases b with
 | true=>exact iteT (h1 rfl F0 H0 F1 H1 σ D (S.grow e1) o)
 | false=>exact iteF (h2 rfl F0 H0 F1 H1 σ D (S.grow e1) o)
theorem q_when {tt:TT} {b:Bool} (h:EvT Γ tt b) (h1:b=true→SW R Γ t { P with nx:=fun Γ'=>SW R Γ' tz P }) (h2:b=false→SW R Γ tz P):SW R Γ (tSeq (tIfS tt t tNext) tz) P:=sw_seq (sw_if h h1 fun e=>sw_next (h2 e))
theorem sw_when {tt:TT} {b:Bool} (h:EvT Γ tt b) (h1:b=true→SW R Γ t P) (h2:b=false→P.nx Γ):SW R Γ (tIfS tt t tNext) P:=sw_if h h1 fun e=>sw_next (h2 e)
abbrev tApp (K:PySem.W.Frag) (i:Nat) (te:TE):TS:=tDrop (tBM K "list" rAppend (tVar i) (tCons te tNil))
theorem sw_app {ds:List α} (e:Γ[i]?=some (.own c ds)) (h:Ev Γ te c d) (hz:ds.length < 1000000) (k:P.nx (Γ.set i (.own c (ds++[d])))):SW R Γ (tApp K i te) P:=fun F0 H0 F H σ D S o=>by
 obtain ⟨p,vs,k1,k2,k3,k4⟩:=S.sl.owned e
 refine ⟨.ref p,k1,.inl ⟨rfl,vs,.inl (.inl k3)⟩,h F H σ S.sl _ fun v F1 H1 e1 r1=>⟨p,vs,v,rfl,rfl,e1.h p _ k3,by rw [k4.len];exact sz_lt hz,?_⟩⟩
 have S1:=S.grow e1
 obtain ⟨p',vs',z1,z2,z3,z4⟩:=S1.sl.owned e
 rw [k1] at z1;cases z1
 exact o.nx F1 _ σ _ (S1.write e k1 z2 ((k4.mono e1.f).append (Reps.one r1))) k
theorem q_app {ds:List α} (e:Γ[i]?=some (.own c ds)) (h:Ev Γ te c d) (hz:ds.length < 1000000) (k:SW R (Γ.set i (.own c (ds++[d]))) tz P):SW R Γ (tSeq (tApp K i te) tz) P:=sw_seq (sw_app e h hz k)
theorem Ob.turn {F0 H0 F1 H1:Hp} {D:Ends} (o:Ob R P F0 H0 D) {σ:L2.St} {Γ:Gam} (S:Stt F0 H0 F1 H1 σ Γ) {N:L2.St→Hp→Prop} {I:Gam→Prop} (hN:∀ F H σ Γ,Stt F0 H0 F H σ Γ→Ex F1 F→I Γ→N σ H) :
  Ob R { P with nx:=I,ct:=I,bk:=P.nx } F1 H0 { D with nx:=N,ct:=N,bk:=D.nx }:=by
 have up:∀ {F H σ Γ},Stt F1 H0 F H σ Γ→Stt F0 H0 F H σ Γ:=fun T=>⟨T.sl,S.f.trans T.f,T.h,fun a o q=>by
  rcases T.n a o q with z | z
  ·exact S.n a o z
  ·exact .inr z,T.own⟩
 refine ⟨fun F H σ Γ T h=>hN F H σ Γ (up T) T.f h,fun F H v d e r h=>o.rt F H v d ⟨S.f.trans e.f,e.h,e.i,fun a o q=>?_⟩ r h,fun F H σ Γ T h=>o.nx F H σ Γ (up T) h,fun F H σ Γ T h=>hN F H σ Γ (up T) T.f h,fun C F H h e=>o.ex C F H h ⟨S.f.trans e.f,e.h,e.i,fun a o q=>?_⟩⟩
 all_goals
  rcases e.n a o q with z | z
  ·exact S.n a o z
  ·exact .inr z
theorem Stt.base {F0 H0 F H:Hp} {σ:L2.St} {Γ:Gam} (S:Stt F0 H0 F H σ Γ):Stt F H0 F H σ Γ:=⟨S.sl,Ex.refl F,S.h,fun _ _ q=>.inl q,S.own⟩
theorem sw_while {ι:Type} (G:ι→Gam) (I:ι→Prop) (μ:ι→Nat) (b:ι→Bool) (x0:ι) (hG:Wk Γ (G x0)) (h0:I x0) {tt:TT} (ht:∀ x,I x→EvT (G x) tt (b x))
  (hb:∀ x,I x→b x=true→SW R (G x) t { P with nx:=fun Γ'=>∃ y,Wk Γ' (G y)∧I y∧μ y < μ x,ct:=fun Γ'=>∃ y,Wk Γ' (G y)∧I y∧μ y < μ x,bk:=P.nx })
  (hd:∀ x,I x→b x=false→P.nx (G x)):SW R Γ (tWhile tt t) P:=fun F0 H0 F H σ D S o=>by
 refine ⟨fun m σ H=>∃ F x,Stt F0 H0 F H σ (G x)∧I x∧m=μ x,⟨μ x0,F,x0,S.wk hG,h0,rfl⟩,fun m σ H ⟨F,x,S,hI,hm⟩=>ht x hI F H σ S.sl _ fun F1 H1 e1=>?_⟩
 have S1:=S.grow e1
 cases hx:b x with
 | true =>
  refine iteT ⟨fun σ' H'=>∃ F y,Stt F0 H0 F H' σ' (G y)∧I y∧μ y < μ x,fun σ' H' ⟨F,y,T,hy,hl⟩=>⟨μ y,by omega,F,y,T,hy,rfl⟩,?_⟩
  refine hb x hI hx F1 H0 F1 H1 σ _ S1.base (o.turn S1 fun F H σ Γ T _ h=>?_)
  obtain ⟨y,hw,hy,hl⟩:=h
  exact ⟨F,y,T.wk hw,hy,hl⟩
 | false=>exact iteF (o.nx F1 H1 σ _ S1 (hd x hI hx))
theorem q_while {ι:Type} (G:ι→Gam) (I:ι→Prop) (μ:ι→Nat) (b:ι→Bool) (x0:ι) (hG:Wk Γ (G x0)) (h0:I x0) {tt:TT} (ht:∀ x,I x→EvT (G x) tt (b x))
  (hb:∀ x,I x→b x=true→SW R (G x) t { P with nx:=fun Γ'=>∃ y,Wk Γ' (G y)∧I y∧μ y < μ x,ct:=fun Γ'=>∃ y,Wk Γ' (G y)∧I y∧μ y < μ x,bk:=fun Γ'=>SW R Γ' tz P })
  (hd:∀ x,I x→b x=false→SW R (G x) tz P):SW R Γ (tSeq (tWhile tt t) tz) P:=sw_seq (sw_while (P:={ P with nx:=fun Γ'=>SW R Γ' tz P }) G I μ b x0 hG h0 ht hb hd)
theorem sw_forL {ds:List α} (h:Ev Γ te (cList K c) ds) (I:Nat→Gam→Prop) (h0:I 0 Γ)
  (hb:∀ n d Γ',ds[n]?=some d→I n Γ'→SW R (Γ'.set j (.val c d)) t { P with nx:=I (n+1),ct:=I (n+1),bk:=P.nx }) (hd:∀ Γ',I ds.length Γ'→P.nx Γ'):SW R Γ (tFor (iList K te) (gName j) t) P:=fun F0 H0 F H σ D S o =>
 h F H σ S.sl _ fun v F1 H1 e1 r1=>by
  obtain ⟨a,vs,rfl,hs,hr⟩:=r1
  have S1:=S.grow e1
  refine ⟨a,rfl,⟨vs,ex_l S1.sl.ex hs⟩,for_list (xs:=vs) (fun n σ H=>∃ F Γ',Stt F0 H0 F H σ Γ'∧Ex F1 F∧I n Γ') ⟨F1,Γ,S1,Ex.refl _,h0⟩ (fun n σ H _ ⟨F,Γ',T,e,_⟩=>ex_l (e.trans T.sl.ex) hs) ?_ ?_⟩
  ·rintro n x σ H hx ⟨F,Γ',T,e,hI⟩
   obtain ⟨d,hd1,hd2⟩:=hr.getV hx
   have T1:Stt F0 H0 F H (σ.set j (some x)) (Γ'.set j (.val c d)):=T.setV (c.mono e hd2)
   exact hb n d Γ' hd1 hI F H0 F H _ _ T1.base (o.turn T1 fun F2 H2 σ2 Γ2 U e2 h2=>⟨F2,Γ2,U,e.trans e2,h2⟩)
  ·rintro σ H ⟨F,Γ',T,e,hI⟩
   exact o.nx F H σ Γ' T (hd Γ' (hr.len ▸ hI))
theorem q_forL {ds:List α} (h:Ev Γ te (cList K c) ds) (I:Nat→Gam→Prop) (h0:I 0 Γ)
  (hb:∀ n d Γ',ds[n]?=some d→I n Γ'→SW R (Γ'.set j (.val c d)) t { P with nx:=I (n+1),ct:=I (n+1),bk:=fun Γ'=>SW R Γ' tz P }) (hd:∀ Γ',I ds.length Γ'→SW R Γ' tz P):SW R Γ (tSeq (tFor (iList K te) (gName j) t) tz) P :=
 sw_seq (sw_forL (P:={ P with nx:=fun Γ'=>SW R Γ' tz P }) h I h0 hb hd)
theorem sw_forR1 {m:Int} (h:Ev Γ ta cInt m) (hm:m≤2^60) (hm0:-(2^60)≤m) (I:Nat→Gam→Prop) (h0:I 0 Γ)
  (hb:∀ (n:Nat) Γ',(n:Int) < m→I n Γ'→SW R (Γ'.set j (.val cInt (n:Int))) t { P with nx:=I (n+1),ct:=I (n+1),bk:=P.nx }) (hd:∀ Γ',I m.toNat Γ'→P.nx Γ'):SW R Γ (tFor (iRng1 (tCons ta tNil)) (gName j) t) P:=fun F0 H0 F H σ D S o =>
 h F H σ S.sl _ fun v F1 H1 e1 r1=>by
  have S1:=S.grow e1
  cases (show v=.int m from r1)
  refine ⟨m,rfl,by omega,by omega,for_range (lo:=0) (n:=m.toNat) (fun n σ H=>∃ F Γ',Stt F0 H0 F H σ Γ'∧I n Γ') ⟨F1,Γ,S1,h0⟩ ?_ ?_⟩
  ·rintro n σ H hn ⟨F,Γ',T,hI⟩
   have T1:Stt F0 H0 F H (σ.set j (some (.int (0+(n:Int))))) (Γ'.set j (.val cInt (n:Int))):=T.setV (by rw [Int.zero_add];rfl)
   exact hb n Γ' (by omega) hI F H0 F H _ _ T1.base (o.turn T1 fun F2 H2 σ2 Γ2 U e2 h2=>⟨F2,Γ2,U,h2⟩)
  ·rintro σ H ⟨F,Γ',T,hI⟩
   exact o.nx F H σ Γ' T (hd Γ' hI)
theorem q_forR1 {m:Int} (h:Ev Γ ta cInt m) (hm:m≤2^60) (hm0:-(2^60)≤m) (I:Nat→Gam→Prop) (h0:I 0 Γ)
  (hb:∀ (n:Nat) Γ',(n:Int) < m→I n Γ'→SW R (Γ'.set j (.val cInt (n:Int))) t { P with nx:=I (n+1),ct:=I (n+1),bk:=fun Γ'=>SW R Γ' tz P }) (hd:∀ Γ',I m.toNat Γ'→SW R Γ' tz P):SW R Γ (tSeq (tFor (iRng1 (tCons ta tNil)) (gName j) t) tz) P :=
 sw_seq (sw_forR1 (P:={ P with nx:=fun Γ'=>SW R Γ' tz P }) h hm hm0 I h0 hb hd)
theorem sw_forR2 {l m:Int} (hl:Ev Γ ta cInt l) (h:Ev Γ tb cInt m) (hl1:-(2^60)≤l∧l≤2^60) (hm:-(2^60)≤m∧m≤2^60) (I:Nat→Gam→Prop) (h0:I 0 Γ)
  (hb:∀ (n:Nat) Γ',l+(n:Int) < m→I n Γ'→SW R (Γ'.set j (.val cInt (l+(n:Int)))) t { P with nx:=I (n+1),ct:=I (n+1),bk:=P.nx }) (hd:∀ Γ',I (m-l).toNat Γ'→P.nx Γ'):SW R Γ (tFor (iRng2 (tCons ta (tCons tb tNil))) (gName j) t) P:=fun F0 H0 F H σ D S o =>
 hl F H σ S.sl _ fun v F1 H1 e1 r1=>h F1 H1 σ (S.grow e1).sl _ fun w F2 H2 e2 r2=>by
  have S1:=(S.grow e1).grow e2
  cases (show v=.int l from r1);cases (show w=.int m from r2)
  refine ⟨l,m,rfl,⟨by omega,by omega,by omega,by omega⟩,for_range (lo:=l) (n:=(m-l).toNat) (fun n σ H=>∃ F Γ',Stt F0 H0 F H σ Γ'∧I n Γ') ⟨F2,Γ,S1,h0⟩ ?_ ?_⟩
  ·rintro n σ H hn ⟨F,Γ',T,hI⟩
   have T1:Stt F0 H0 F H (σ.set j (some (.int (l+(n:Int))))) (Γ'.set j (.val cInt (l+(n:Int)))):=T.setV (rfl)
   exact hb n Γ' (by omega) hI F H0 F H _ _ T1.base (o.turn T1 fun F2 H2 σ2 Γ2 U e2 h2=>⟨F2,Γ2,U,h2⟩)
  ·rintro σ H ⟨F,Γ',T,hI⟩
   exact o.nx F H σ Γ' T (hd Γ' hI)
theorem q_forR2 {l m:Int} (hl:Ev Γ ta cInt l) (h:Ev Γ tb cInt m) (hl1:-(2^60)≤l∧l≤2^60) (hm:-(2^60)≤m∧m≤2^60) (I:Nat→Gam→Prop) (h0:I 0 Γ)
  (hb:∀ (n:Nat) Γ',l+(n:Int) < m→I n Γ'→SW R (Γ'.set j (.val cInt (l+(n:Int)))) t { P with nx:=I (n+1),ct:=I (n+1),bk:=fun Γ'=>SW R Γ' tz P }) (hd:∀ Γ',I (m-l).toNat Γ'→SW R Γ' tz P):SW R Γ (tSeq (tFor (iRng2 (tCons ta (tCons tb tNil))) (gName j) t) tz) P :=
 sw_seq (sw_forR2 (P:={ P with nx:=fun Γ'=>SW R Γ' tz P }) hl h hl1 hm I h0 hb hd)
end
theorem sl_wipe {F H:Hp} {σ:L2.St} {Γ:Gam} (S:Sl F H σ Γ):∀ vs:List Nat,Sl F H (wipe σ vs) (vs.foldr (fun v G=>G.set v .any) Γ)
 | []=>S
 | v :: vs=>by
  show Sl F H ((wipe σ vs).set v none) _
  exact (sl_wipe S vs).setA
section
variable {K:PySem.W.Frag} {Γ:Gam} {ta tb tc te:TE} {α β γ:Type} {c:Cod α} {d:α} {c2:Cod β} {d2:β}
theorem wipe1 {j:Nat} (σ:L2.St) (x:V):wipe ((wipe σ [j]).set j (some x)) [j]=wipe σ [j]:=by
 show (((σ.set j none).set j (some x)).set j none)=σ.set j none
 rw [List.set_set,List.set_set]
def gvn {α β:Type} (f:α→Bool) (g:α→β) (ds:List α):List β:=(ds.filter f).map g
theorem ev_l_pair {a b:α} (h:Ev Γ te (cPair K c c) (a,b)):Ev Γ te (cTupL K c) [a,b]:=fun F H σ S Q q=>h F H σ S Q fun v F1 H1 e1 r1=>by
 obtain ⟨p,vs,rfl,hs,x,_,rfl,hx,y,_,rfl,hy,h⟩:=r1
 cases (show _=[] from h)
 exact q _ F1 H1 e1 ⟨p,_,rfl,hs,hx,hy,trivial⟩
end
theorem Stt.start {F H:Hp} {σ:L2.St} {Γ:Gam} (S:Sl F H σ Γ) (ho:∀ i:Nat,¬IsOwn Γ[i]?):Stt F H F H σ Γ:=⟨S,Ex.refl _,Ex.refl _,fun _ _ q=>.inl q,fun i p o=>(ho i o).elim⟩
end Pw
namespace Pw
open PySem L2 PyProof.Rows
def PF {β:Type} (d:β):Pst β:=⟨fun _=>False,fun x=>x=d,fun _=>False,fun _=>False,E0,fun _=>False⟩
def PX {β:Type} (d:Option β) (C:Addr) (E:XK):Pst β:=⟨fun _=>False,fun x=>d=some x,fun _=>False,fun _=>False,E,fun D=>D=C∧d=none⟩
theorem sl_start {α:Type} {ca:CodA α} {a:α} {F H:Hp} {vs:List V} {N:List Str} (e:Ex F H) (r:ca.rep F vs a) (m:Nat) (hN:N.length=(ca.env a).length+m):Sl F H (start N vs) (ca.env a++List.replicate m .any):=by
 have hl:=ca.len r
 have h1:start N vs=vs.map some++List.replicate m none:=by unfold L2.start;rw [hN,hl,Nat.add_sub_cancel_left]
 rw [h1]
 refine ⟨e,by simp [hl],fun i s g k1 k2=>?_,fun i j p _ oi=>?_⟩
 ·rw [List.getElem?_append] at k1 k2
  by_cases hi:i < vs.length
  ·rw [if_pos (by simpa using hi)] at k1
   rw [if_pos (by omega)] at k2
   rw [List.getElem?_map] at k1
   cases q:vs[i]? with
   | none=>rw [q] at k1;cases k1
   | some x=>rw [q] at k1;cases k1;exact ca.ok r i x g H q k2
  ·rw [if_neg (by omega)] at k2
   have:g=.any:=by
    have:=List.mem_of_getElem? k2
    exact List.eq_of_mem_replicate this
   subst this;trivial
 ·rw [List.getElem?_append] at oi
  by_cases hi:i < (ca.env a).length
  ·rw [if_pos hi] at oi;exact (ca.no a i oi).elim
  ·rw [if_neg hi] at oi
   cases q:(List.replicate m Ent.any)[i-(ca.env a).length]? with
   | none=>rw [q] at oi;exact oi.elim
   | some g =>
    have:g=.any:=List.eq_of_mem_replicate (List.mem_of_getElem? q)
    subst this;rw [q] at oi;exact oi.elim
theorem stt_start {α:Type} {ca:CodA α} {a:α} {F H:Hp} {vs:List V} {N:List Str} (e:Ex F H) (r:ca.rep F vs a) (m:Nat) (hN:N.length=(ca.env a).length+m):Stt F H F H (start N vs) (ca.env a++List.replicate m .any):=by
 have S:=sl_start (N:=N) e r m hN
 refine ⟨S,Ex.refl _,Ex.refl _,fun _ _ q=>.inl q,fun i p oi=>?_⟩
 rw [List.getElem?_append] at oi
 by_cases hi:i < (ca.env a).length
 ·rw [if_pos hi] at oi;exact (ca.no a i oi).elim
 ·rw [if_neg hi] at oi
  cases q:(List.replicate m Ent.any)[i-(ca.env a).length]? with
  | none=>rw [q] at oi;exact oi.elim
  | some g =>
   have:g=.any:=List.eq_of_mem_replicate (List.mem_of_getElem? q)
   subst this;rw [q] at oi;exact oi.elim
section
variable {α β:Type} {ca:CodA α} {pre:α→Prop} {c:Cod β} {t:TS} {vs:List V} {H:Hp} {Q:VK} {E:XK} {N:List Str}
abbrev ends (Q:VK):Ends:={ nx:=fun _ H'=>Q .non H',rt:=Q }
theorem body_F {f:α→β} (m:Nat) (h:∀ a,pre a→SW (rVal c) (ca.env a++List.replicate m .any) t (PF (f a))) (hN:∀ a,N.length=(ca.env a).length+m) (hs:SpF ca pre c f vs H Q E):t (ends Q) (start N vs) H:=by
 obtain ⟨F,a,e,r,hp,q⟩:=hs
 exact h a hp F H F H _ _ (stt_start e r m (hN a)) ⟨fun _ _ _ _ _ z=>z.elim,fun F' H' v d x r z=>by subst z;exact q v F' H' x r,fun _ _ _ _ _ z=>z.elim,fun _ _ _ _ _ z=>z.elim,fun _ _ _ z=>z.elim⟩
theorem body_N {f:α→List β} (m:Nat) (h:∀ a,pre a→SW (rNew c) (ca.env a++List.replicate m .any) t (PF (f a))) (hN:∀ a,N.length=(ca.env a).length+m) (hs:SpN ca pre c f vs H Q E):t (ends Q) (start N vs) H:=by
 obtain ⟨F,a,e,r,hp,q⟩:=hs
 exact h a hp F H F H _ _ (stt_start e r m (hN a)) ⟨fun _ _ _ _ _ z=>z.elim,fun F' H' v d x r z=>by subst z;obtain ⟨p,vs,rfl,k1,k2,k3,k4⟩:=r;exact q p vs F' H' x k1 k2 k3 k4,fun _ _ _ _ _ z=>z.elim,fun _ _ _ _ _ z=>z.elim,fun _ _ _ z=>z.elim⟩
theorem body_X {f:α→Option β} {C:Addr} (m:Nat) (h:∀ a,pre a→SW (rVal c) (ca.env a++List.replicate m .any) t (PX (f a) C E)) (hN:∀ a,N.length=(ca.env a).length+m) (hs:SpX ca pre c f C vs H Q E):t (ends Q) (start N vs) H:=by
 obtain ⟨F,a,e,r,hp,q,qx⟩:=hs
 exact h a hp F H F H _ _ (stt_start e r m (hN a)) ⟨fun _ _ _ _ _ z=>z.elim,fun F' H' v d x r z=>q d v F' H' z x r,fun _ _ _ _ _ z=>z.elim,fun _ _ _ _ _ z=>z.elim,fun D F' H' z x=>by obtain ⟨z1,z2⟩:=z;subst z1;exact qx z2 F' H' x⟩
theorem len_X {f:α→Option β} {C:Addr} {n:Nat} (hn:∀ a,(ca.env a).length=n) (hs:SpX ca pre c f C vs H Q E):vs.length=n:=by
 obtain ⟨F,a,e,r,_⟩:=hs;rw [ca.len r,hn]
theorem len_F {f:α→β} {n:Nat} (hn:∀ a,(ca.env a).length=n) (hs:SpF ca pre c f vs H Q E):vs.length=n:=by
 obtain ⟨F,a,e,r,_⟩:=hs;rw [ca.len r,hn]
theorem len_N {f:α→List β} {n:Nat} (hn:∀ a,(ca.env a).length=n) (hs:SpN ca pre c f vs H Q E):vs.length=n:=by
 obtain ⟨F,a,e,r,_⟩:=hs;rw [ca.len r,hn]
end
def CDivX (i j:Int):Prop:=j≠0∧j.natAbs.log2 < 9000
section
variable {X:Cx}
theorem op_fdivX:OpR X (binaryOp .FloorDiv) (rI CDivX fun i j=>.int (i.fdiv j)):=opI fun i j _ _ _ _ _ hc q=>floordiv_int hc.1 q (.inl (PyProof.noPylong_of_log2 hc.2))
end
def Bt (n:Nat) (x:Int):Prop:=x.natAbs < 2^n
theorem Bt.wk {n m:Nat} {x:Int} (h:Bt n x) (k:n≤m):Bt m x:=Nat.lt_of_lt_of_le h (Nat.pow_le_pow_right (by decide) k)
theorem Bt.mul {n m:Nat} {x y:Int} (h:Bt n x) (k:Bt m y):Bt (n+m) (x*y):=wide_lt h k
theorem Bt.add {n m:Nat} {x y:Int} (h:Bt n x) (k:Bt m y):Bt (max n m+1) (x+y):=by
 have h1:Bt (max n m) x:=h.wk (Nat.le_max_left _ _)
 have h2:Bt (max n m) y:=k.wk (Nat.le_max_right _ _)
 unfold Bt at *
 rw [Nat.pow_succ];omega
theorem Bt.sub {n m:Nat} {x y:Int} (h:Bt n x) (k:Bt m y):Bt (max n m+1) (x-y):=by
 have h1:Bt (max n m) x:=h.wk (Nat.le_max_left _ _)
 have h2:Bt (max n m) y:=k.wk (Nat.le_max_right _ _)
 unfold Bt at *
 rw [Nat.pow_succ];omega
theorem Bt.le {n:Nat} {x y:Int} (h:Bt n y) (k:x.natAbs≤y.natAbs):Bt n x:=Nat.lt_of_le_of_lt k h
theorem Bt.mulX {n m:Nat} {x y:Int} (h:Bt n x) (k:Bt m y) (hl:n+m≤134217728):CMulX x y:=mulx_ok h k hl
theorem Bt.divX {n:Nat} {x y:Int} (h:Bt n y) (h0:y≠0) (hl:n≤9000):CDivX x y:=⟨h0,by
 have hy:0 < n:=by
  unfold Bt at h
  rcases Nat.eq_zero_or_pos n with z | z
  ·subst z;simp at h;exact absurd h h0
  ·exact z
 exact Nat.lt_of_lt_of_le (PySem.Flt.log2_lt_of hy h) hl⟩
section
variable {K:PySem.W.Frag} {Γ:Gam} {ta tb tc te:TE} {α β γ:Type} {c:Cod α} {d:α} {c2:Cod β} {d2:β}
abbrev rAbs:List V→Hp→VK→Prop:=fun xs H Q=>∃ i,xs=[.int i]∧Q (.int (if i < 0 then -i else i)) H
theorem ev_isi {n:String} {b:Bool} {t:String} (h1:Ev Γ ta c d) (ht:∀ F H x,Ex F H→c.rep F x d→TyX K H x (.type t)) (hu:PySem.W.kitOne K (.type t) (.type n)=some b):Ev Γ (tCB (rIsi K) (tCons ta (tCons (tC (.ty n)) tNil))) cBool b:=fun F H σ S Q q =>
 h1 F H σ S _ fun x F1 H1 e1 r1=>⟨x,.ty n,.type t,.type n,b,rfl,.ty n,ht F1 H1 x e1.i r1,hu,q _ F1 H1 e1 rfl⟩
end
end Pw
namespace Pw
open PySem L2 PyProof.Rows
abbrev oAdd:R2:=rI0 fun i j=>.int (i+j)
abbrev oSub:R2:=rI0 fun i j=>.int (i-j)
abbrev oMul:R2:=rI CMulX fun i j=>.int (i*j)
abbrev oPow:R2:=rI CPow fun i j=>.int (i^j.toNat)
abbrev oDiv:R2:=rI CDiv fun i j=>.int (i/j)
abbrev oDivX:R2:=rI CDivX fun i j=>.int (i.fdiv j)
abbrev oMod:R2:=rI (fun _ j=>0 < j) fun i j=>.int (i % j)
abbrev oModX:R2:=rI (fun _ j=>j≠0) fun i j=>.int (i.fmod j)
abbrev oLt:R2:=rI0 fun i j=>.bl (decide (i < j))
abbrev oLe:R2:=rI0 fun i j=>.bl (decide (i≤j))
abbrev oGt:R2:=rI0 fun i j=>.bl (decide (j < i))
abbrev oGe:R2:=rI0 fun i j=>.bl (decide (j≤i))
abbrev oNeg:V→Hp→VK→Prop:=rU fun i=>.int (-i)
theorem Wk.set {Γ Γ':Gam} (w:Wk Γ Γ') (i:Nat) (e:Ent):Wk (Γ.set i e) (Γ'.set i e):=by
 induction w generalizing i with
 | nil=>exact .nil
 | same w ih=>cases i with
  | zero=>exact .same w
  | succ i=>exact .same (ih i)
 | any w ih=>cases i with
  | zero=>exact .same w
  | succ i=>exact .any (ih i)
section
variable {K:PySem.W.Frag} {Γ:Gam} {ta tb tc te:TE} {α β γ ρ:Type} {c:Cod α} {d:α} {c2:Cod β} {d2:β} {R:RR ρ} {P:Pst ρ} {t u tz:TS} {i j:Nat}
theorem q_forR1G {m:Int} (G:Nat→Gam) (h:Ev Γ ta cInt m) (hm:m≤2^60) (hm0:-(2^60)≤m) (h0:Wk Γ (G 0))
  (hb:∀ n:Nat,(n:Int) < m→SW R ((G n).set j (.val cInt (n:Int))) t { P with nx:=fun Γ'=>Wk Γ' (G (n+1)),ct:=fun Γ'=>Wk Γ' (G (n+1)),bk:=fun Γ'=>SW R Γ' tz P }) (hd:SW R (G m.toNat) tz P):SW R Γ (tSeq (tFor (iRng1 (tCons ta tNil)) (gName j) t) tz) P :=
 q_forR1 h hm hm0 (fun n Γ'=>Wk Γ' (G n)) h0 (fun n Γ' hn w=>sw_wk (w.set j _) (hb n hn)) fun Γ' w=>sw_wk w hd
theorem q_forR2G {l m:Int} (G:Nat→Gam) (hl:Ev Γ ta cInt l) (h:Ev Γ tb cInt m) (hl1:-(2^60)≤l∧l≤2^60) (hm:-(2^60)≤m∧m≤2^60) (h0:Wk Γ (G 0))
  (hb:∀ n:Nat,l+(n:Int) < m→SW R ((G n).set j (.val cInt (l+(n:Int)))) t { P with nx:=fun Γ'=>Wk Γ' (G (n+1)),ct:=fun Γ'=>Wk Γ' (G (n+1)),bk:=fun Γ'=>SW R Γ' tz P }) (hd:SW R (G (m-l).toNat) tz P):SW R Γ (tSeq (tFor (iRng2 (tCons ta (tCons tb tNil))) (gName j) t) tz) P :=
 q_forR2 hl h hl1 hm (fun n Γ'=>Wk Γ' (G n)) h0 (fun n Γ' hn w=>sw_wk (w.set j _) (hb n hn)) fun Γ' w=>sw_wk w hd
theorem q_forLG {ds:List α} (G:Nat→Gam) (h:Ev Γ te (cList K c) ds) (h0:Wk Γ (G 0))
  (hb:∀ n d,ds[n]?=some d→SW R ((G n).set j (.val c d)) t { P with nx:=fun Γ'=>Wk Γ' (G (n+1)),ct:=fun Γ'=>Wk Γ' (G (n+1)),bk:=fun Γ'=>SW R Γ' tz P }) (hd:SW R (G ds.length) tz P):SW R Γ (tSeq (tFor (iList K te) (gName j) t) tz) P :=
 q_forL h (fun n Γ'=>Wk Γ' (G n)) h0 (fun n d Γ' hn w=>sw_wk (w.set j _) (hb n d hn)) fun Γ' w=>sw_wk w hd
theorem q_join (Γ':Gam) (h:SW R Γ t { P with nx:=fun G=>Wk G Γ' }) (k:SW R Γ' tz P):SW R Γ (tSeq t tz) P:=fun F0 H0 F H σ D S o =>
 h F0 H0 F H σ _ S ⟨fun F H σ G S h=>k F0 H0 F H σ D (S.wk h) o,o.rt,o.bk,o.ct,o.ex⟩
theorem q_joinI (I:Gam→Prop) (h:SW R Γ t { P with nx:=I }) (k:∀ Γ',I Γ'→SW R Γ' tz P):SW R Γ (tSeq t tz) P:=fun F0 H0 F H σ D S o =>
 h F0 H0 F H σ _ S ⟨fun F H σ G S h=>k G h F0 H0 F H σ D S o,o.rt,o.bk,o.ct,o.ex⟩
theorem ev_pow {a b:Int} (h1:Ev Γ ta cInt a) (h2:Ev Γ tb cInt b) (hc:CPow a b):Ev Γ (tOp oPow ta tb) cInt (a^b.toNat):=ev_ii (k:=fun i j=>i^j.toNat) h1 h2 hc
theorem ev_mul {a b:Int} (n m:Nat) (h1:Ev Γ ta cInt a) (h2:Ev Γ tb cInt b) (ha:Bt n a) (hb:Bt m b) (hl:n+m≤134217728:=by decide):Ev Γ (tOp oMul ta tb) cInt (a*b):=ev_ii (k:=fun i j=>i*j) h1 h2 (ha.mulX hb hl)
theorem ev_mulS {a b:Int} (h1:Ev Γ ta cInt a) (h2:Ev Γ tb cInt b) (ha:a.natAbs < 18446744073709551616) (hb:b.natAbs < 18446744073709551616):Ev Γ (tOp oMul ta tb) cInt (a*b):=ev_mul 64 64 h1 h2 ha hb
theorem ev_add {a b:Int} (h1:Ev Γ ta cInt a) (h2:Ev Γ tb cInt b):Ev Γ (tOp oAdd ta tb) cInt (a+b):=ev_ii0 (k:=fun i j=>i+j) h1 h2
theorem ev_sub {a b:Int} (h1:Ev Γ ta cInt a) (h2:Ev Γ tb cInt b):Ev Γ (tOp oSub ta tb) cInt (a-b):=ev_ii0 (k:=fun i j=>i-j) h1 h2
theorem ev_mod {a b:Int} (h1:Ev Γ ta cInt a) (h2:Ev Γ tb cInt b) (hb:0 < b):Ev Γ (tOp oMod ta tb) cInt (a % b):=ev_ii (k:=fun i j=>i % j) h1 h2 hb
theorem ev_modX {a b:Int} (h1:Ev Γ ta cInt a) (h2:Ev Γ tb cInt b) (hb:b≠0):Ev Γ (tOp oModX ta tb) cInt (a.fmod b):=ev_ii (k:=fun i j=>i.fmod j) h1 h2 hb
theorem ev_div {a b:Int} (h1:Ev Γ ta cInt a) (h2:Ev Γ tb cInt b) (hb:0 < b∧b < 1073741824):Ev Γ (tOp oDiv ta tb) cInt (a/b):=ev_ii (C:=CDiv) (k:=fun i j=>i/j) h1 h2 hb
theorem ev_divX {a b:Int} (n:Nat) (h1:Ev Γ ta cInt a) (h2:Ev Γ tb cInt b) (hb:b≠0) (hn:Bt n b) (hl:n≤9000:=by decide):Ev Γ (tOp oDivX ta tb) cInt (a.fdiv b):=ev_ii (C:=CDivX) (k:=fun i j=>i.fdiv j) h1 h2 (hn.divX hb hl)
theorem ev_lt {a b:Int} (h1:Ev Γ ta cInt a) (h2:Ev Γ tb cInt b):Ev Γ (tOp oLt ta tb) cBool (decide (a < b)):=ev_iib (k:=fun i j=>decide (i < j)) h1 h2
theorem ev_le {a b:Int} (h1:Ev Γ ta cInt a) (h2:Ev Γ tb cInt b):Ev Γ (tOp oLe ta tb) cBool (decide (a≤b)):=ev_iib (k:=fun i j=>decide (i≤j)) h1 h2
theorem ev_gt {a b:Int} (h1:Ev Γ ta cInt a) (h2:Ev Γ tb cInt b):Ev Γ (tOp oGt ta tb) cBool (decide (b < a)):=ev_iib (k:=fun i j=>decide (j < i)) h1 h2
theorem ev_ge {a b:Int} (h1:Ev Γ ta cInt a) (h2:Ev Γ tb cInt b):Ev Γ (tOp oGe ta tb) cBool (decide (b≤a)):=ev_iib (k:=fun i j=>decide (j≤i)) h1 h2
theorem ev_powL {a b r:Int} (h:(0≤b∧b≤1000000∧a.natAbs < 2^64)∧a^b.toNat=r):Ev Γ (tOp oPow (tC (.int a)) (tC (.int b))) cInt r:=ev_is (ev_pow ev_int ev_int h.1) h.2
end
end Pw
namespace Pw
open PySem L2 PyProof.Rows
section
variable {K:PySem.W.Frag} {Γ:Gam} {ta tb tc te:TE} {α β γ:Type} {c:Cod α} {d:α}
theorem atI_getD {α:Type} {xs:List α} {i:Int} (x0:α) (h:0≤i∧i < xs.length):atI xs i=some (xs.getD i.toNat x0):=by
 obtain ⟨j,rfl⟩:∃ j:Nat,i=(j:Int):=⟨i.toNat,by omega⟩
 have hj:j < xs.length:=by omega
 rw [Int.toNat_natCast,List.getD_eq_getElem?_getD,List.getElem?_eq_getElem hj]
 exact atI_nat' (List.getElem?_eq_getElem hj)
theorem ev_ixG {ds:List α} {i:Int} (x0:α) (h1:Ev Γ ta (cList K c) ds) (h2:Ev Γ tb cInt i) (h:0≤i∧i < ds.length):Ev Γ (tOp (rIxL K) ta tb) c (ds.getD i.toNat x0):=ev_ixL h1 h2 (atI_getD x0 h)
end
end Pw
namespace Pw
open PySem L2 PyProof.Rows
theorem reps_of_ints {H:Hp}:∀ ns:List Int,Reps cInt H (ns.map V.int) ns
 | []=>trivial
 | _ :: ns=>⟨rfl,reps_of_ints ns⟩
end Pw
namespace Pw
open PySem PySem.Spec PyProof.Rows L2
def ExV (cls:Value) (d:Option Addr) (a:Addr):HO:=.ext fun h=>∃ (oe:Obj) (vs:Array Value),h.get? a=some oe∧Zc cls d oe∧oe.data=.fields vs
theorem track {X:Cx} {pins:List (Addr×Obj)} {σ:L2.St} {H:Hp} {s:Shared} {a:Addr} {oe:Obj} {vs:Array Value} {cls:Value} {d:Option Addr} (I:Inv X pins σ H s) (e:s.heap.get? a=some oe) (z:Zc cls d oe) (hd:oe.data=.fields vs) (na:H a=none) (n0:X.s_0.heap.get? a=none)
  (nL:a≠X.env.locals) (np:∀ p∈X.pn++pins,p.1≠a):Inv X pins σ (upd H a (ExV cls d a)) s:=by
 have ne:∀ {b o},H b=some o→b≠a:=fun {b o} q w=>by rw [w,na] at q;cases q
 refine ⟨I.ok,I.os,I.bare,⟨I.base.keep,I.base.slot,fun b o q n hx=>?_,I.base.there,fun b xs q=>?_,fun b o u q=>?_,fun b ps q=>?_⟩,I.loc,I.cell,?_,fun x c q=>?_,fun p hp=>?_,fun b u q=>?_,I.len⟩
 ·rw [upd_ne (fun w=>by rw [w,n0] at q;cases q)];exact I.base.free b o q n hx
 ·have w:=I.base.tups b xs q
  rw [upd_ne (ne w)];exact w
 ·have w:=I.base.frzs b o u q
  rw [upd_ne (ne w)];exact w
 ·obtain ⟨m,w⟩:=I.base.tbls b ps q
  exact ⟨m,by rw [upd_ne (ne w)];exact w⟩
 ·rw [upd_ne (Ne.symm nL)];exact I.free
 ·have nc:c≠a:=fun w=>by
   obtain ⟨v,o,ho,hc⟩:=I.cell x c q
   rw [w,e] at ho;cases ho;rw [hd] at hc;cases hc
  rw [upd_ne nc];exact I.freeC x c q
 ·obtain ⟨h1,h2,h3⟩:=I.pin p hp
  exact ⟨h1,by rw [upd_ne (np p hp)];exact h2,h3⟩
 ·by_cases hb:b=a
  ·subst hb
   rw [upd_same] at q;cases q
   exact ⟨⟨oe,vs,e,z,hd⟩,⟨oe,e⟩,fun _ _ ⟨o,v,q,r⟩ k=>⟨o,v,k o q,r⟩⟩
  ·rw [upd_ne hb] at q
   exact (I.hok b u q).stay (fun _ _ _ r=>r) (fun c r=>by rw [upd_ne (ne r)];exact r) fun c xs r=>by rw [upd_ne (ne r)];exact r
def wHold (K:PySem.W.Frag) (c:Value) (i:Nat) (ts:Addr→Value→Option Addr→TS) (Wout:WX) (D:Ends):WX:=fun cls d σ H =>
 ∃ b,PySem.W.exmOne K cls c=some b∧(b=true→∀ a,H a=none→ts a cls d { nx:=fun σ' H'=>D.nx (σ'.set i none) (upd H' a (ExV cls d a)),rt:=fun _ _=>False,bk:=fun _ _=>False,ct:=fun _ _=>False } (σ.set i (some (.ref a))) H) ∧
  (b=false→Wout cls d σ H)
section
variable {X:Cx} {x n:Str} {c:Value} {i:Nat} {body suite:List Stmt} {b₀:Stmt} {np pos pos':Pos} {tb:WX→TS} {ts:Addr→Value→Option Addr→TS} {Wout:WX}
theorem ps_try_hold (hs:X.stack=X.env :: X.outer) (hf:X.env.frame=some X.env.locals) (hN:X.N.Nodup) (hi:X.N[i]?=some n) (hln:X.env.kindOf n=some .local) (hc:Names X x c) (hx0:X.ex=[]) (tk:Takes X Wout)
  (hb:∀ (W:WX) (pn:List (Addr×Obj)) (xe:Value→Shared→Prop),Takes (X.tr pn xe) W→PassesOwn (model X.prog X.w) X.A X.env xe→PSs (X.tr pn xe) body (tb W))
  (hsu:∀ (a:Addr) (oe:Obj) (cls:Value) (d:Option Addr) (pn:List (Addr×Obj)),Zc cls d oe→(∃ vs,oe.data=.fields vs)→PSs (X.suite a ((a,oe) :: pn)) (b₀ :: suite) (ts a cls d)) :
  PS X (.Try body [.ExceptHandler (some (.Name x np)) (some n) (b₀ :: suite) pos'] [] [] pos) (fun D σ H=>tb (wHold X.K c i ts Wout D) D σ H):=by
 refine ⟨fun pins s σ H D I h=>?_⟩
 have ok:=I.ok
 have hfr:X.A.frames=some (X.env :: X.outer):=by rw [ok.frames,hs]
 have hloc:Loc X.env.scope n:=.inl hln
 refine wpAny_Try_except ?_
 refine wpAny_mono ((hb (wHold X.K c i ts Wout D) (X.pn++pins) (fun e s₁=>wpAny (model X.prog X.w) X.A (noteFrame e X.env) (fun _ s₂=>wpAny (model X.prog X.w) X.A (setFlight e none) (fun _ s₃ =>
  wpAny (model X.prog X.w) X.A (handleBy e X.env [.ExceptHandler (some (.Name x np)) (some n) (b₀ :: suite) pos']) (SP X pins D) X.xe s₃) X.xe s₂) X.xe s₁) (fun u s' xx=>?_) PassesOwn.looking).run [] s σ H D (I.toTry _) h) (fun f s1 hsp=>?_) (fun e s1 he=>he)
 ·
  obtain ⟨a,B,sI,pins',σ',H',cls,d,rfl,J',nb,up,sky,na,os,ag,b,hb1,hyes,hno⟩:=xx
  have J:Inv X pins σ' H' sI:=J'.ofTry ok
  have sky':Sky B (X.env :: X.outer) a (Zc cls d) X.env.locals s'.heap:=by rw [←hs];exact sky
  show wpAny (model X.prog X.w) X.A (noteFrame (.ref a) X.env) _ _ _
  refine Sky.land Zc.steady hfr hf sky' fun h3 fl3 up3=>?_
  have J3:Inv X pins σ' H' { s' with heap:=h3 }:=J.landed nb fl3.1 (up.trans up3) os ag
  obtain ⟨oe3,vs3,he3,hz3,hd3⟩:=fl3.there
  have notFr:∀ {h:Heap} {o:Obj} {vs:Array Value},h.FunFrames B (X.env :: X.outer)→h.get? a=some o→o.data=.fields vs→a ∉ frs (X.env :: X.outer):=fun {h o vs} ff e dd hm=>by
   obtain ⟨_,o',e',hnf⟩:=ff.mem hm
   rw [e] at e';cases e'
   exact hnf _ dd
  have nfr:=notFr fl3.2.2.1 he3 hd3
  have nL:a≠X.env.locals:=fun z=>nfr (List.mem_filterMap.mpr ⟨X.env,List.mem_cons_self,by rw [hf,z]⟩)
  have nF:a ∉ X.fs:=fun hm=>by
   obtain ⟨e,he,q⟩:=List.mem_filterMap.mp hm
   exact nfr (List.mem_filterMap.mpr ⟨e,List.mem_cons_of_mem _ he,q⟩)
  have nI:sI.heap.get? a=none:=by
   cases q:sI.heap.get? a with
   | none=>rfl
   | some o =>
    have z:=nb a o q (by rw [hs];exact nfr)
    rw [fl3.2.1] at z;cases z
  have n0:X.s_0.heap.get? a=none:=by
   cases q:X.s_0.heap.get? a with
   | none=>rfl
   | some o =>
    obtain ⟨o',z⟩:=J.base.there a o q (by rw [hx0];exact fun z=>nomatch z)
    rw [nI] at z;cases z
  have npin:∀ p∈X.pn++pins,p.1≠a:=fun p hp z=>by
   have w:=(J.pin p hp).1
   rw [z,nI] at w;cases w
  have S3:=J3.suite he3 hd3 na nL nF
  refine wpAny_handleBy_cons (codeAny_handlers_test ?_) (by intro q;cases q)
  have LT:PySem.W.Looks (model X.prog X.w) h3 (typeOf (.ref a)) cls:=fun A Q E s k q=>wpAny_typeOf_ref (k _ _ he3) (by rw [hz3.1];exact q)
  have LM:=PySem.W.exm_one (M:=model X.prog X.w) (J3.kIn) LT hb1
  have test:∀ {Q:Value→Shared→Prop} {E:Value→Shared→Prop},Q c { s' with heap:=h3 }→wpAny (model X.prog X.w) (X.A.mark (some (.ref a))) (eval (.Name x np) X.env) Q E { s' with heap:=h3 }:=fun {Q E} q=>by
   obtain ⟨hg,hdbg,hm | ⟨hm,hv,hnn⟩⟩:=hc
   ·exact ld_glob (X:=X.suite a ((a,oe3) :: (X.pn++pins))) S3 hg hm q hdbg
   ·exact ld_blt (X:=X.suite a ((a,oe3) :: (X.pn++pins))) S3 hg hm hv q hnn hdbg
  refine test (LM.here ?_)
  cases b with
  | true =>
   refine codeAny_handlers_suite_as ?_
   refine HandSPX.lands_againZ fl3 fun h4 fl4 up4=>?_
   have J4:Inv X pins σ' H' { s' with heap:=h4 }:=J.landed nb fl4.1 ((up.trans up3).trans up4) os ag
   obtain ⟨oe4,vs4,he4,hz4,hd4⟩:=fl4.there
   have S4:=J4.suite he4 hd4 na nL nF
   refine store_ok (X:=X.suite a ((a,oe4) :: (X.pn++pins))) (v:=.ref a) S4 hN hi hloc rfl (fun s5 S5=>?_) (.inr hln)
   refine wpAny_mono ((hsu a oe4 cls d (X.pn++pins) hz4 ⟨_,hd4⟩).run [] s5 _ H' _ S5 (hyes rfl a na)) (fun f s6 hsp=>?_) (fun _ _ z=>False.elim z)
   cases f with
   | next =>
    obtain ⟨σ6,H6,S6,q6⟩:=hsp
    obtain ⟨e6,n6,_⟩:=S6.pin (a,oe4) (List.mem_append.mpr (.inl List.mem_cons_self))
    have U6:=S6.unsuite ok
    have T6:=track U6 e6 hz4 hd4 n6 n0 nL npin
    exact gone_ok T6 hN hi hln fun s7 J7=>⟨_,_,J7,q6⟩
   | brk =>
    obtain ⟨σ6,H6,S6,q6⟩:=hsp
    exact q6.elim
   | cont =>
    obtain ⟨σ6,H6,S6,q6⟩:=hsp
    exact q6.elim
   | ret u =>
    obtain ⟨v6,σ6,H6,S6,r6,q6⟩:=hsp
    exact q6.elim
  | false =>
   show wpAny _ X.A (handleBy (.ref a) X.env []) _ _ _
   refine wpAny_handleBy_nil ?_
   obtain ⟨k1,k2,k3,oe,vs,T,oT,ts',he,hz,hd,h1,hr⟩:=id fl3
   unfold PySem.passOn
   refine wpAny_bind (wpAny_field he hd h1 ?_)
   rw [if_neg (show ¬((Value.ref T == Value.none)=true) from by simp)]
   have fin:wpAny (model X.prog X.w) X.A (setFlight (.ref a) X.env.frame) (fun _ s4=>wpAny (model X.prog X.w) X.A (throw (.ref a):Sem Flow) (SP X pins D) X.xe s4) X.xe { s' with heap:=h3 }:=by
    rw [hf]
    refine HandSPX.setFlight_upZ fl3 fun h4 hh4 up4=>wpAny_throw (tk _ _ ?_)
    exact ⟨a,B,sI,pins,σ',H',cls,d,rfl,J,nb,(up.trans up3).trans up4,.inr (.inr (by rw [hs];exact hh4)),na,os,ag,hno rfl⟩
   first
    | exact wpAny_bind (wpAny_pure (wpAny_bind fin))
    | exact wpAny_bind fin
 ·cases f with
  | next =>
   obtain ⟨σ',H',J',q⟩:=hsp
   exact wpAny_execs_nil ⟨σ',H',J'.ofTry ok,q⟩
  | brk =>
   obtain ⟨σ',H',J',q⟩:=hsp
   exact ⟨σ',H',J'.ofTry ok,q⟩
  | cont =>
   obtain ⟨σ',H',J',q⟩:=hsp
   exact ⟨σ',H',J'.ofTry ok,q⟩
  | ret u =>
   obtain ⟨v,σ',H',J',r,q⟩:=hsp
   exact ⟨v,σ',H',J'.ofTry ok,r,q⟩
end
def rIsX (K:PySem.W.Frag):List V→Hp→VK→Prop:=fun xs H Q=>∃ (a D:Addr) (c:V) (cv:Value) (b:Bool),xs=[.ref a,c]∧H a=some (ExV (.ref D) none a)∧ExcC K D∧(∀ u,RelV c u→u=cv)∧PySem.W.kitOne K (.ref D) cv=some b∧Q (.bl b) H
theorem call_isX {X:Cx}:CallR X (.builtin "isinstance") (rIsX X.K):=by
 intro pins s σ H xs us Q I r h
 obtain ⟨a,D,c,cv,b,rfl,ha,C,hcv,e,q⟩:=h
 cases r with
 | cons rx rr =>
  cases rr with
  | cons rt rr =>
   cases rr
   cases rx
   have ec:=hcv _ rt
   subst ec
   obtain ⟨⟨oe,vs,hget,hz,hv⟩,_⟩:=I.hok a _ ha
   have J:PySem.W.InstAt s.heap a oe D none:=by
    obtain ⟨oc,od,oda,osl⟩:=oe
    obtain ⟨h1,h2⟩:=hz
    dsimp only at h1 h2 hv
    subst h1 h2 hv
    exact ⟨hget,rfl,rfl,trivial⟩
   exact PySem.W.kia_one (PySem.W.handS_kitx_exc C.hg C.hk C.hs C.hd C.ha C.hn C.ht C.hm) I.kIn J e (fun z=>nomatch z) fun tk=>⟨.bl b,H,I.kept (t':=tk) fun _ _ z=>z,rfl,q⟩
end Pw
namespace Pw
open PySem PySem.Spec PyProof.Rows L2
structure ExA where
 HouseError:Addr
 NoNumber:Addr
 NoRow:Addr
 NoValue:Addr
 NoText:Addr
 NoRoot:Addr
 TooFar:Addr
 NoLine:Addr
structure ExD (K:PySem.W.Frag) (C:ExA) (D:Addr) (i:Int):Prop where
 c:ExcC K D
 h:PySem.W.exmOne K (.ref D) (.ref C.HouseError)=some true
 v:PySem.W.kitOne K (.ref D) (.type "ValueError")=some true
 k0:PySem.W.kitOne K (.ref D) (.ref C.NoNumber)=some (decide ((0:Int)=i))
 k1:PySem.W.kitOne K (.ref D) (.ref C.NoRow)=some (decide ((1:Int)=i))
 k2:PySem.W.kitOne K (.ref D) (.ref C.NoValue)=some (decide ((2:Int)=i))
 k3:PySem.W.kitOne K (.ref D) (.ref C.NoText)=some (decide ((3:Int)=i))
 k4:PySem.W.kitOne K (.ref D) (.ref C.NoRoot)=some (decide ((4:Int)=i))
 k5:PySem.W.kitOne K (.ref D) (.ref C.TooFar)=some (decide ((5:Int)=i))
 k6:PySem.W.kitOne K (.ref D) (.ref C.NoLine)=some (decide ((6:Int)=i))
def cExc:Cod Addr:=⟨fun F v D=>∃ a,v=.ref a∧F a=some (ExV (.ref D) none a),fun e ⟨a,h1,h2⟩=>⟨a,h1,e a _ h2⟩⟩
def tRaise (C:Addr) (E:XK):TS:=fun _ _ H=>E (.ref C) none H
abbrev rNotN:R2:=fun x y H Q=>y=.non∧Q (.bl (!decide (x=.non))) H
abbrev rIsN:R2:=fun x y H Q=>y=.non∧Q (.bl (decide (x=.non))) H
section
variable {K:PySem.W.Frag} {Γ:Gam} {ta tb tc te:TE} {α β γ ρ:Type} {c:Cod α} {d:α} {c2:Cod β} {d2:β} {R:RR ρ} {P:Pst ρ} {t u tz:TS} {i j:Nat}
theorem sw_raise {C:Addr} {E:XK} (hE:P.E=E) (h:P.ex C):SW R Γ (tRaise C E) P:=fun F0 H0 F H σ D S o=>by
 have:=o.ex C F H h S.ext
 rw [hE] at this;exact this
theorem ev_isX {D:Addr} {cv:V} {u:Value} {b:Bool} (h:Ev Γ te cExc D) (C:ExcC K D) (hc:∀ w,RelV cv w→w=u) (hk:PySem.W.kitOne K (.ref D) u=some b):Ev Γ (tCB (rIsX K) (tCons te (tCons (tC cv) tNil))) cBool b:=fun F H σ S Q q =>
 h F H σ S _ fun v F1 H1 e1 r1=>by
  obtain ⟨a,rfl,ha⟩:=r1
  exact ⟨a,D,cv,u,b,rfl,e1.i a _ ha,C,hc,hk,q _ F1 H1 e1 rfl⟩
theorem ev_isXr {D C':Addr} {b:Bool} (h:Ev Γ te cExc D) (C:ExcC K D) (hk:PySem.W.kitOne K (.ref D) (.ref C')=some b):Ev Γ (tCB (rIsX K) (tCons te (tCons (tC (.ref C')) tNil))) cBool b:=ev_isX h C (fun _ r=>r) hk
theorem ev_isXt {D:Addr} {n:String} {b:Bool} (h:Ev Γ te cExc D) (C:ExcC K D) (hk:PySem.W.kitOne K (.ref D) (.type n)=some b):Ev Γ (tCB (rIsX K) (tCons te (tCons (tC (.ty n)) tNil))) cBool b:=ev_isX h C (fun _ r=>r) hk
end
end Pw
namespace Pw
open PySem PySem.W L2
theorem kit_ref {K:Frag} {t:Value} {C:Addr} {b:Bool} (h2:isClsIn K C=true) (h3:typeIn K (.ref C)=some (.type "type")) (s:subIn K t (.ref C)=some b) (n:(t == Value.ref C)=false):kitOne K t (.ref C)=some b:=by
 have e2:((clsIn K C).isSome && typeIn K (.ref C) == some (.type "type"))=true:=by
  have h2':(clsIn K C).isSome=true:=h2
  rw [h2',h3]<;>rfl
 unfold kitOne kitCls
 rw [n,if_neg (by decide)];dsimp only;rw [if_pos e2];exact s
theorem kit_self {K:Frag} {C:Addr}:kitOne K (.ref C) (.ref C)=some true:=by
 unfold kitOne;rw [if_pos (beq_self_eq_true _)]
theorem kit_bt {K:Frag} {D:Addr} {T:String} {b:Bool} (m:kitMeta T=true) (s:subIn K (.ref D) (.type T)=some b):kitOne K (.ref D) (.type T)=some b:=by
 unfold kitOne kitCls
 rw [if_neg (by intro h;cases h)];dsimp only;rw [if_pos m];exact s
theorem exm_up {K:Frag} {S:Addr} {D:Value} (h1:subIn K (.ref S) (.type "BaseException")=some true) (h2:isClsIn K S=true) (h3:typeIn K (.ref S)=some (.type "type")) (h4:subIn K D (.ref S)=some true):exmOne K D (.ref S)=some true:=by
 have e1:(subIn K (.ref S) (.type "BaseException") == some true)=true:=by rw [h1]<;>rfl
 have e2:((clsIn K S).isSome && typeIn K (.ref S) == some (.type "type"))=true:=by
  have h2':(clsIn K S).isSome=true:=h2
  rw [h2',h3]<;>rfl
 unfold exmOne kitCls
 rw [if_pos e1];dsimp only;rw [if_pos e2];exact h4
end Pw
namespace Pw
open PySem PySem.Spec PyProof.Rows L2
section
variable {K:PySem.W.Frag} {Γ:Gam} {ta tb tc te:TE} {α β γ ρ:Type} {c:Cod α} {d:α} {c2:Cod β} {d2:β} {R:RR ρ} {P:Pst ρ} {t u tz:TS} {i j:Nat}
end
end Pw
namespace Pw
open PySem PySem.Spec PyProof.Rows L2
section
variable {K:PySem.W.Frag} {Γ:Gam} {ta tb tc te:TE} {α β γ ρ:Type} {c:Cod α} {d:α} {c2:Cod β} {d2:β} {R:RR ρ} {P:Pst ρ} {t u tz:TS} {i j:Nat}
end
end Pw
namespace Pw
open PySem PySem.Spec PyProof.Rows L2
theorem ex_add {F H:Hp} {p:Addr} {o:HO} (e:Ex F H) (h:H p=some o):Ex (upd F p o) H:=fun a u ha=>by
 by_cases q:a=p
 ·subst q;rw [upd_same] at ha;cases ha;exact h
 ·rw [upd_ne q] at ha;exact e a u ha
section
variable {K:PySem.W.Frag} {Γ:Gam} {ta tb tc te:TE} {α β γ ρ:Type} {c:Cod α} {d:α} {c2:Cod β} {d2:β} {R:RR ρ} {P:Pst ρ} {t u tz:TS} {i j:Nat}
end
end Pw
namespace Pw
open PySem PySem.Spec PyProof.Rows L2
section
variable {K:PySem.W.Frag} {Γ:Gam} {ta tb tc te:TE} {α β γ ρ:Type} {c:Cod α} {d:α} {c2:Cod β} {d2:β} {R:RR ρ} {P:Pst ρ} {t u tz:TS} {i j:Nat}
end
end Pw
namespace Pw
open PySem PySem.Spec PyProof.Rows L2
def cOpt {α:Type} (c:Cod α):Cod (Option α):=⟨fun F v o=>match o with
 | none=>v=.non
 | some d=>c.rep F v d,fun {H H' v o} e h=>by
  cases o with
  | none=>exact h
  | some d=>exact c.mono e h⟩
section
variable {K:PySem.W.Frag} {Γ:Gam} {ta tb tc te:TE} {α β γ ρ:Type} {c:Cod α} {d:α} {c2:Cod β} {d2:β} {R:RR ρ} {P:Pst ρ} {t u tz:TS} {i j l:Nat}
theorem ev_some (h:Ev Γ te c d):Ev Γ te (cOpt c) (some d):=h
theorem ev_unsome (h:Ev Γ te (cOpt c) (some d)):Ev Γ te c d:=h
theorem ev_none:Ev Γ (tC .non) (cOpt c) none:=ev_c fun _=>rfl
end
end Pw
namespace Pw
open PySem PySem.Spec PyProof.Rows L2
section
variable {K:PySem.W.Frag} {Γ:Gam} {te:TE}
end
end Pw
namespace Pw
open PySem PySem.Spec PyProof.Rows L2
section
variable {K:PySem.W.Frag} {Γ:Gam} {ta tb tc te:TE} {α β γ ρ:Type} {c1:Cod α} {c2:Cod β} {R:RR ρ} {P:Pst ρ} {t u tz:TS} {i j l:Nat} {p1 p2:Addr} {ds1:List α} {ds2:List β}
end
end Pw
namespace Pw
open PySem PySem.Spec PyProof.Rows L2
section
variable {α β γ:Type} {ca:CodA α} {pre:α→Prop} {c1:Cod β} {c2:Cod γ} {t:TS} {vs:List V} {H:Hp} {Q:VK} {E:XK} {N:List Str}
end
section
variable {K:PySem.W.Frag} {Γ:Gam} {ta tb tc te:TE} {α β γ ρ:Type} {c1:Cod α} {c2:Cod β} {R:RR ρ} {t u tz:TS} {i j l:Nat} {ds1:List α} {ds2:List β}
end
end Pw
namespace Pw
open PySem PySem.Spec PyProof.Rows L2
section
variable {K:PySem.W.Frag} {Γ:Gam} {α β γ:Type} {c2:Cod β} {s1 s2:Sp}
end
end Pw
namespace Pw
open PySem PySem.Spec PyProof.Rows L2
section
variable {K:PySem.W.Frag} {Γ:Gam} {te:TE} {α β γ ρ:Type} {c1:Cod α} {c2:Cod β} {R:RR ρ} {P:Pst ρ} {tz:TS} {i j:Nat}
end
end Pw
namespace Pw
open PySem PySem.Spec PyProof.Rows L2
section
variable {K:PySem.W.Frag} {Γ:Gam} {te:TE} {α β γ ρ:Type} {c1:Cod α} {c2:Cod β} {d:α} {d2:β} {R:RR ρ} {P:Pst ρ} {tz:TS} {i j:Nat} {p1 p2:Addr} {ds1:List α} {ds2:List β}
end
end Pw
namespace Pw
open PySem PySem.Spec PyProof.Rows L2
section
variable {α β γ:Type} {ca:CodA α} {pre:α→Prop} {c1:Cod β} {c2:Cod γ} {t:TS} {vs:List V} {H:Hp} {Q:VK} {E:XK} {N:List Str}
end
section
variable {K:PySem.W.Frag} {Γ:Gam} {ta tb tc te:TE} {α β γ ρ:Type} {c1:Cod α} {c2:Cod β} {R:RR ρ} {t u tz:TS} {i j l:Nat} {ds1:List α} {ds2:List β} {p1 p2:Addr}
end
end Pw
namespace Pw
open PySem PySem.Spec PyProof.Rows L2
abbrev Os (α:Type):=List (Addr×List α)
def NewL {α:Type} (c:Cod α) (F H0 H:Hp) (os:Os α):Prop:=(os.map Prod.fst).Nodup∧∀ o∈os,F o.1=none∧H0 o.1=none∧∃ ws,H o.1=some (.lst ws)∧Reps c F ws o.2
section
variable {α β:Type} {ca:CodA α} {pre:α→Prop} {c:Cod β} {t:TS} {vs:List V} {H:Hp} {Q:VK} {E:XK} {N:List Str}
end
section
variable {α:Type} {c:Cod α}
theorem NewL.frame:∀ {os:Os α} {F H0 H:Hp},Ex F H→NewL c F H0 H os→∃ F',Ex F F'∧Ex F' H∧(∀ o∈os,∃ ws,F' o.1=some (.lst ws)∧Reps c F' ws o.2)∧(∀ a o,F' a=some o→F a=some o∨∃ x∈os,x.1=a)∧(∀ a,(∀ o∈os,a≠o.1)→F' a=F a)
 | [],F,_,_,e,_=>⟨F,Ex.refl _,e,fun o ho=>(by cases ho),fun _ _ h=>.inl h,fun _ _=>rfl⟩
 | o :: os,F,H0,H,e,h=>by
  have hn:=h.1
  rw [List.map_cons,List.nodup_cons] at hn
  obtain ⟨a,b,ws,x,y⟩:=h.2 o List.mem_cons_self
  have h1:Ex F (upd F o.1 (.lst ws)):=Ex.new a
  have hne:∀ o'∈os,o'.1≠o.1:=fun o' ho' z=>hn.1 (List.mem_map.mpr ⟨o',ho',z⟩)
  have ne:NewL c (upd F o.1 (.lst ws)) H0 H os:=⟨hn.2,fun o' ho'=>by
   obtain ⟨a',b',ws',x',y'⟩:=h.2 o' (List.mem_cons_of_mem _ ho')
   exact ⟨by rw [upd_ne (hne o' ho')];exact a',b',ws',x',y'.mono h1⟩⟩
  obtain ⟨F',f1,f2,f3,f4,f5⟩:=NewL.frame (ex_add e x) ne
  refine ⟨F',h1.trans f1,f2,fun o' ho'=>?_,fun p q hq=>?_,fun p hp=>?_⟩
  ·rcases List.mem_cons.mp ho' with z | z
   ·subst z;exact ⟨ws,f1 _ _ upd_same,y.mono (h1.trans f1)⟩
   ·exact f3 o' z
  ·rcases f4 p q hq with z | ⟨o',z1,z2⟩
   ·by_cases w:p=o.1
    ·exact .inr ⟨o,List.mem_cons_self,w.symm⟩
    ·rw [upd_ne w] at z;exact .inl z
   ·exact .inr ⟨o',List.mem_cons_of_mem _ z1,z2⟩
  ·rw [f5 p fun o' ho'=>hp o' (List.mem_cons_of_mem _ ho'),upd_ne (hp o List.mem_cons_self)]
end
def rCatQ (K:PySem.W.Frag):R2:=fun x y H Q=>∃ l b xs zs,x=.ref l∧y=.ref b∧SqL K H l xs∧SqL K H b zs∧xs.length+zs.length≤sizeLine∧∀ p,H p=none→Q (.ref p) (upd H p (.lst (xs++zs)))
section
variable {X:Cx}
theorem op_catL:OpR X (binaryOp .Add) (rCatQ X.K):=by
 intro pins s σ H x y v u Q I rx ry h
 obtain ⟨l,b,xs,zs,rfl,rfl,hH,hB,hz,q⟩:=h
 cases rx
 cases ry
 obtain ⟨its,r,⟨⟨cls,dd,data,sl⟩,n,ho,hc,hdn,hd⟩,hl⟩:=I.list hH
 obtain ⟨its2,r2,⟨⟨cls2,dd2,data2,sl2⟩,n2,ho2,hc2,hdn2,hd2⟩,hl2⟩:=I.list hB
 simp only at hc hd hc2 hd2
 subst hc hd hc2 hd2
 have e1:=r.length
 have e2:=r2.length
 refine concat_meets ⟨_,ho,rfl⟩ ⟨_,ho2,rfl⟩ noFill_list_add seq_list_add PySem.F.slot_list_add PySem.F.entry_list_add (PySem.F.args_list_add_2 _ _) (list_addW l b its.toArray its2.toArray n n2 dd dd2 sl sl2 (by simp only [List.size_toArray];omega)) ⟨ho,ho2,?_⟩
 have ea:its.toArray++its2.toArray=(its++its2).toArray:=by simp
 rw [ea]
 exact ⟨.ref _,_,I.lnew (t':=s.toks) (r.append r2) (by rw [List.length_append];omega),rfl,q _ I.fresh⟩
end
section
variable {K:PySem.W.Frag} {Γ:Gam} {ta tb tc te:TE} {α β γ ρ:Type} {c:Cod α} {d:α} {R:RR ρ} {P:Pst ρ} {t u tz:TS} {i j l:Nat} {ds1 ds2 ds3:List α} {os:Os α} {p1 p2 p3:Addr}
theorem evN_catQ {ds es:List α} (h1:Ev Γ ta (cList K c) ds) (h2:Ev Γ tb (cList K c) es) (hl:ds.length+es.length≤1000000):EvN Γ (tOp (rCatQ K) ta tb) c (ds++es):=fun F H σ S Q q =>
 h1 F H σ S _ fun v F1 H1 e1 r1=>h2 F1 H1 σ (S.grow e1) _ fun w F2 H2 e2 r2=>by
  obtain ⟨p,vs,rfl,k3,k4⟩:=(cList K c).mono e2.f r1
  obtain ⟨p2,vs2,rfl,m3,m4⟩:=r2
  exact ⟨p,p2,vs,vs2,rfl,rfl,ex_l e2.i k3,ex_l e2.i m3,by rw [k4.len,m4.len];exact sz_of hl,fun l hl=>q l _ F2 _ ((e1.trans e2).trans (Ext.aside e2.i hl)) ((e1.trans e2).h.free hl) (e2.i.free hl) upd_same (k4.append m4)⟩
end
end Pw
namespace Pw
open PySem PySem.Spec PyProof.Rows L2
structure WX (P:Program) (base:Heap):Prop where
 t:P.given.tree=none
 s:base.NoSeer
section
variable {X:Cx}
end
section
variable {K:PySem.W.Frag} {Γ:Gam} {ta tb:TE}
end
end Pw
namespace Pw
open PySem PySem.Spec PyProof.Rows L2
section
variable {g:Heap} {H:Hp}
end
end Pw
namespace Pw
open PySem PySem.Spec PyProof.Rows L2
section
variable {K:PySem.W.Frag} {Γ:Gam} {ta tb tc te:TE} {α β γ ρ:Type} {c:Cod α} {d:α} {c2:Cod β} {d2:β} {R:RR ρ} {P:Pst ρ} {t u tz:TS} {i j:Nat}
end
end Pw
namespace Pw
open PySem PySem.Spec PyProof.Rows L2
section
variable {K:PySem.W.Frag} {Γ:Gam} {ta tb tc te:TE} {α β γ ρ:Type} {c:Cod α} {c1:Cod α} {c2:Cod β} {R:RR ρ} {P:Pst ρ} {t tz:TS} {i j:Nat}
end
section
variable {K:PySem.W.Frag} {Γ:Gam} {ta tb tc te:TE} {α β γ ρ:Type} {c:Cod α} {d:α} {R:RR ρ} {P:Pst ρ} {t u tz:TS} {i j l:Nat} {ds1 ds2:List α} {os:Os α} {p1 p2:Addr}
end
end Pw
namespace PySem.W
open PySem PySem.Spec PySem.Calls PyProof.Rows HotX
section
variable {prog:Program} {w:World} {A:Around} {E:Value→Shared→Prop} {s:Shared}
end
end PySem.W
namespace Pw
open PySem PySem.Spec PyProof.Rows L2
section
variable {K:PySem.W.Frag} {Γ:Gam} {ta:TE}
end
end Pw
namespace Pw
open PySem PySem.Spec PyProof.Rows L2
section
variable {F H F' H':Hp} {σ:L2.St} {Γ:Gam} {p:Addr} {o:HO}
end
section
variable {K:PySem.W.Frag} {Γ:Gam} {ta tb te:TE} {α β γ ρ:Type} {c:Cod β} {x:β} {c2:Cod γ} {p:Addr} {ds ds' ds1:List Int} {i j:Nat}
end
structure PsM (β:Type) where
 nx:List Int→Gam→Prop
 rt:List Int→β→Prop
section
variable {K:PySem.W.Frag} {Γ:Gam} {ta tb te:TE} {α β γ ρ:Type} {cR:Cod ρ} {c:Cod β} {x:β} {p:Addr} {ds ds' ds1:List Int} {i j:Nat} {P:PsM ρ} {t u tz:TS}
end
end Pw
namespace Pw
open PySem PySem.Spec PyProof.Rows L2
section
variable {K:PySem.W.Frag} {Γ:Gam} {ta te:TE} {β:Type} {c:Cod β}
end
end Pw
namespace L2
open PySem PySem.Spec PyProof.Rows
section
variable {X:Cx} {C:Addr} {bmB:List Value} {B newId initId:String}
end
end L2
namespace L2N
open PySem PySem.Spec PyProof.Rows L2
section
variable {X:Cx} {C:Addr} {bmB:List Value} {B newId initId:String}
end
end L2N
namespace Pw
open PySem PySem.Spec PyProof.Rows L2
section
variable {α:Type} {c:Cod α} {F H F' H':Hp} {σ:L2.St} {Γ:Gam} {q:Addr} {os:Os α} {L:List Addr}
end
structure PsL (α ρ:Type) where
 nx:Os α→Gam→Prop
 bk:Os α→Gam→Prop
 rt:ρ→Prop
section
variable {K:PySem.W.Frag} {Γ:Gam} {ta tb te:TE} {α β γ ρ:Type} {c:Cod α} {c2:Cod β} {x:β} {R:RR ρ} {q:Addr} {os:Os α} {i j:Nat} {P:PsL α ρ} {t u tz:TS} {ds1 ds2:List α}
end
end Pw
namespace Pw
open PySem PySem.Spec PyProof.Rows L2
section
variable {α β:Type} {ca:CodA α} {pre:α→Prop} {c:Cod β} {t:TS} {vs:List V} {H:Hp} {Q:VK} {E:XK} {N:List Str}
end
section
variable {K:PySem.W.Frag} {Γ:Gam} {ta tb te:TE} {α β γ ρ:Type} {c:Cod α} {c1:Cod α} {c2:Cod β} {x:α} {R:RR ρ} {q:Addr} {os:Os α} {i j:Nat} {P:PsL α ρ} {t u tz:TS} {ds1 ds2:List α}
end
end Pw
namespace Pw
open PySem PySem.Spec PyProof.Rows L2
section
variable {K:PySem.W.Frag} {Γ:Gam} {ta te:TE} {α β γ δ:Type} {c:Cod α} {c1:Cod β} {c2:Cod γ} {i j:Nat}
end
end Pw
namespace Pw
open PySem PySem.Spec PyProof.Rows L2
section
variable {K:PySem.W.Frag} {Γ:Gam} {α β γ ρ:Type} {c:Cod α} {R:RR ρ} {P:Pst ρ} {tz:TS} {i j:Nat}
end
end Pw
namespace Pw
open PySem PySem.Spec PyProof.Rows L2
abbrev Tx (l:List Nat):Str:=⟨l.toArray⟩
theorem tx_inj {a b:List Nat} (h:Tx a=Tx b):a=b:=by
 have:=congrArg (fun x:Str=>x.cps.toList) h
 simpa using this
theorem tx_len (a:List Nat):(Tx a).length=a.length:=by simp [Str.length]
def cT:Cod (List Nat):=cMap cStr Tx
abbrev rCatS:R2:=fun x y H Q=>∃ i j,x=.str i∧y=.str j∧i.length+j.length≤sizeLine∧Q (.str (i++j)) H
abbrev rLenS:List V→Hp→VK→Prop:=fun xs H Q=>∃ z,xs=[.str z]∧z.length≤sizeLine∧Q (.int z.length) H
abbrev rInSign:R2:=fun x y H Q=>∃ (c:Nat) (z:Str),x=.str ⟨#[c]⟩∧y=.str z∧Q (.bl (decide (c∈z.cps.toList))) H
abbrev rIntS:List V→Hp→VK→Prop:=fun xs H Q=>∃ a n,xs=[.str a]∧PySem.intText? a=some n∧a.length≤640∧Q (.int n) H
abbrev rStrI:List V→Hp→VK→Prop:=fun xs H Q=>∃ i:Int,xs=[.int i]∧i.natAbs.log2 < 1920∧Q (.str (toString i)) H
abbrev rStrS:List V→Hp→VK→Prop:=fun xs H Q=>∃ a,xs=[.str a]∧Q (.str a) H
abbrev rStrB:List V→Hp→VK→Prop:=fun xs H Q=>rStrI xs H Q∨rStrS xs H Q
theorem call_strB {X:Cx}:CallR X (.type "str") rStrB:=call_str_int.or SkE.call_str_str
def rMulS:R2:=fun x y H Q=>∃ z i,x=.str z∧y=.int i∧i≤100000∧0≤i∧z.length≤100∧Q (.str (Tx (List.replicate i.toNat z.cps.toList).flatten)) H
theorem foldl_rep_arr (x:Array Nat):∀ (k:Nat) (acc:Array Nat),((List.replicate k x).foldl (·++·) acc).toList=acc.toList++(List.replicate k x.toList).flatten
 | 0,acc=>by simp
 | k+1,acc=>by
  rw [List.replicate_succ,List.foldl_cons,foldl_rep_arr x k,List.replicate_succ,List.flatten_cons,Array.toList_append,List.append_assoc]
theorem txt_mul (z:Str) (i:Int) (h:0≤i):Txt.mul z i=Tx (List.replicate i.toNat z.cps.toList).flatten:=by
 refine TL.ext_tl ?_
 show TL.tl (Txt.mul z i)=(List.replicate i.toNat z.cps.toList).flatten
 unfold Txt.mul
 by_cases h1:i < 1
 ·rw [if_pos h1,show i.toNat=0 from by omega];rfl
 ·rw [if_neg h1]
  by_cases h2:(i == 1 || z.length == 0)=true
  ·rw [if_pos h2]
   rw [Bool.or_eq_true] at h2
   rcases h2 with h2 | h2
   ·have:i=1:=by simpa using h2
    subst this
    simp [TL.tl]
   ·have hz:z.cps.toList=[]:=by
     have:z.length=0:=by simpa using h2
     exact List.length_eq_zero_iff.mp (by rw [←this];simp [Str.length])
    show z.cps.toList=_
    rw [hz]
    have:∀ k:Nat,(List.replicate k ([]:List Nat)).flatten=[]:=fun k=>by
     induction k with
     | zero=>rfl
     | succ k ih=>rw [List.replicate_succ,List.flatten_cons,ih];rfl
    rw [this]
  ·rw [if_neg h2]
   show ((List.replicate i.toNat z.cps).foldl (·++·) #[]).toList=_
   rw [foldl_rep_arr];simp
theorem op_mulS {X:Cx}:OpR X (binaryOp .Mult) rMulS:=by
 intro pins s σ H x y v u Q I rx ry h
 obtain ⟨z,i,rfl,rfl,h1,h0,hz,q⟩:=h
 obtain ⟨t,rfl⟩:=rx
 obtain ⟨t',rfl⟩:=ry
 refine PySem.SB.mul (x:=z) (n:=i) ⟨?_,fun a b c=>?_,fun a b=>?_⟩ fun t'' k=>?_
 ·rw [decide_eq_false (by omega),decide_eq_false (by omega)];rfl
 ·have hl:(z.length:Int)≤100:=by omega
  have:(100:Int)≤(2^63-1)/i:=by
   rw [Int.le_ediv_iff_mul_le (by omega)];omega
  omega
 ·have h3:z.length*i.toNat≤100*100000:=Nat.mul_le_mul hz (by omega)
  have h4:=sizeLine_eq
  show decide (z.length*i.toNat > sizeLine)=false
  exact decide_eq_false (by omega)
 ·rw [txt_mul z i h0]
  exact ⟨.str _,H,I.tok _,⟨_,rfl⟩,q⟩
section
variable {K:PySem.W.Frag} {Γ:Gam} {ta tb tc te:TE} {α β γ ρ:Type} {c:Cod α} {d:α} {R:RR ρ} {P:Pst ρ} {t u tz:TS} {i j:Nat}
theorem sl_le {n:Nat} (h:n≤1000000):n≤sizeLine:=Nat.le_trans h (by decide)
theorem ev_t {s:Str} (l:List Nat) (h:s=Tx l):Ev Γ (tC (.str s)) cT l:=ev_c fun F=>by subst h;rfl
theorem ev_catS {a b:List Nat} (h1:Ev Γ ta cT a) (h2:Ev Γ tb cT b) (hl:a.length+b.length≤1000000):Ev Γ (tOp rCatS ta tb) cT (a++b) :=
 ev_mono_op h1 h2 fun F H x y e r1 r2 Q q=>⟨_,_,r1,r2,sl_le (by rw [tx_len,tx_len];exact hl),q _ F H (Ext.refl e) (congrArg V.str (SX.S_cat a b))⟩
theorem ev_mulS' {a:List Nat} {i:Int} (h1:Ev Γ ta cT a) (h2:Ev Γ tb cInt i) (hi:0≤i∧i≤100000) (hl:a.length≤100):Ev Γ (tOp rMulS ta tb) cT (List.replicate i.toNat a).flatten :=
 ev_mono_op h1 h2 fun F H x y e r1 r2 Q q=>⟨_,_,r1,r2,hi.2,hi.1,by rw [tx_len];exact hl,q _ F H (Ext.refl e) rfl⟩
theorem ev_lenS {a:List Nat} (h1:Ev Γ ta cT a) (hl:a.length≤1000000):Ev Γ (tCB rLenS (tCons ta tNil)) cInt (a.length:Int) :=
 ev_cb1 h1 fun F H x e r1 Q q=>⟨Tx a,by rw [r1],sl_le (by rw [tx_len];exact hl),q _ F H (Ext.refl e) (by rw [tx_len];rfl)⟩
theorem ev_eqT {a b:List Nat} (h1:Ev Γ ta cT a) (h2:Ev Γ tb cT b):Ev Γ (tOp rEq ta tb) cBool (decide (a=b)) :=
 ev_mono_op h1 h2 fun F H x y e r1 r2 Q q=>by
  cases (show x=.str (Tx a) from r1);cases (show y=.str (Tx b) from r2)
  exact ⟨rfl,q _ F H (Ext.refl e) (by
   show V.bl (decide (V.str (Tx a)=V.str (Tx b)))=V.bl (decide (a=b))
   by_cases z:a=b
   ·subst z;simp
   ·rw [decide_eq_false z,decide_eq_false (fun w=>z (tx_inj (by injection w)))])⟩
theorem ev_neT {a b:List Nat} (h1:Ev Γ ta cT a) (h2:Ev Γ tb cT b):Ev Γ (tOp rNe ta tb) cBool (!decide (a=b)) :=
 ev_mono_op h1 h2 fun F H x y e r1 r2 Q q=>by
  cases (show x=.str (Tx a) from r1);cases (show y=.str (Tx b) from r2)
  exact ⟨rfl,q _ F H (Ext.refl e) (by
   show V.bl (!decide (V.str (Tx a)=V.str (Tx b)))=V.bl (!decide (a=b))
   by_cases z:a=b
   ·subst z;simp
   ·rw [decide_eq_false z,decide_eq_false (fun w=>z (tx_inj (by injection w)))])⟩
theorem cutS_tx (l:List Nat) (i j:Nat):cutS (Tx l) (some (i:Int)) (some (j:Int))=Tx ((l.drop i).take (j-i)):=by
 refine TL.ext_tl ?_
 show ((l.drop _).take _)=_
 have hx:∀ n d:Nat,HT.sIx n d (some (i:Int))=min i n:=fun n d=>by
  have:=clipS_eq n d (some (i:Int))
  unfold clipS at this
  dsimp only at this
  rw [if_neg (by omega)] at this;omega
 have hy:∀ n d:Nat,HT.sIx n d (some (j:Int))=min j n:=fun n d=>by
  have:=clipS_eq n d (some (j:Int))
  unfold clipS at this
  dsimp only at this
  rw [if_neg (by omega)] at this;omega
 rw [hx,hy,tx_len]
 by_cases h:i≤l.length
 ·rw [Nat.min_eq_left h]
  by_cases h2:j≤l.length
  ·rw [Nat.min_eq_left h2]
  ·rw [Nat.min_eq_right (by omega)]
   show _=(l.drop i).take (j-i)
   rw [List.take_of_length_le (by rw [List.length_drop];exact Nat.le_refl _),List.take_of_length_le (by rw [List.length_drop];omega)]
 ·show _=(l.drop i).take (j-i)
  rw [Nat.min_eq_right (Nat.le_of_lt (Nat.lt_of_not_le h)),List.drop_of_length_le (Nat.le_refl _),List.drop_of_length_le (by omega)];simp
theorem ev_slS {tl th:TO} {l:List Nat} {a b:Int} (h:Ev Γ ta cT l) (h1:EvO Γ tl (some a)) (h2:EvO Γ th (some b)) (ha:0≤a) (hb:0≤b) (hl:l.length≤1000000):Ev Γ (tSl rSlS ta tl th) cT ((l.drop a.toNat).take (b.toNat-a.toNat)):=fun F H σ S Q q =>
 h F H σ S _ fun v F1 H1 e1 r1=>h1 F1 H1 σ (S.grow e1) _ fun F2 H2 e2=>h2 F2 H2 σ (S.grow (e1.trans e2)) _ fun F3 H3 e3 =>
  ⟨_,r1,sl_le (by rw [tx_len];exact hl),q _ F3 H3 ((e1.trans e2).trans e3) (by
   show V.str _=V.str _
   rw [←cutS_tx,Int.toNat_of_nonneg ha,Int.toNat_of_nonneg hb])⟩
theorem cutS_tx0 (l:List Nat) (j:Nat):cutS (Tx l) none (some (j:Int))=Tx (l.take j):=by
 have:=cutS_tx l 0 j
 rw [List.drop_zero,Nat.sub_zero] at this
 rw [←this];rfl
theorem ev_slS0 {tl th:TO} {l:List Nat} {b:Int} (h:Ev Γ ta cT l) (h1:EvO Γ tl none) (h2:EvO Γ th (some b)) (hb:0≤b) (hl:l.length≤1000000):Ev Γ (tSl rSlS ta tl th) cT (l.take b.toNat):=fun F H σ S Q q =>
 h F H σ S _ fun v F1 H1 e1 r1=>h1 F1 H1 σ (S.grow e1) _ fun F2 H2 e2=>h2 F2 H2 σ (S.grow (e1.trans e2)) _ fun F3 H3 e3 =>
  ⟨_,r1,sl_le (by rw [tx_len];exact hl),q _ F3 H3 ((e1.trans e2).trans e3) (by
   show V.str _=V.str _
   rw [←cutS_tx0,Int.toNat_of_nonneg hb])⟩
theorem ev_ixS {l:List Nat} {a:Int} {x:Nat} (h:Ev Γ ta cT l) (h1:Ev Γ tb cInt a) (hx:atI l a=some x) (hl:l.length≤1000000):Ev Γ (tOp rIxS ta tb) cT [x] :=
 ev_mono_op h h1 fun F H u v e r1 r2 Q q=>⟨_,_,x,r1,r2,sl_le (by rw [tx_len];exact hl),hx,q _ F H (Ext.refl e) rfl⟩
theorem ev_ixSG {l:List Nat} {a:Int} (h:Ev Γ ta cT l) (h1:Ev Γ tb cInt a) (hx:0≤a∧a < l.length) (hl:l.length≤1000000):Ev Γ (tOp rIxS ta tb) cT [l.getD a.toNat 0]:=ev_ixS h h1 (atI_getD 0 hx) hl
theorem ev_inSign {x:Nat} {l:List Nat} (h:Ev Γ ta cT [x]) (h1:Ev Γ tb cT l):Ev Γ (tOp rInSign ta tb) cBool (decide (x∈l)) :=
 ev_mono_op h h1 fun F H u v e r1 r2 Q q=>⟨x,Tx l,r1,r2,q _ F H (Ext.refl e) rfl⟩
theorem inV_tx (x:List Nat):∀ {F:Hp} {vs:List V} {ds:List (List Nat)},Reps cT F vs ds→vs.all flatV=true∧inV (.str (Tx x)) vs=decide (x∈ds)
 | _,[],[],_=>⟨rfl,rfl⟩
 | _,v :: vs,d :: ds,h=>by
  obtain ⟨h1,h2⟩:=inV_tx x h.2
  have hv:v=.str (Tx d):=h.1
  subst hv
  refine ⟨by rw [List.all_cons,h1];rfl,?_⟩
  unfold inV at h2 ⊢
  rw [List.any_cons,h2]
  show ((Tx d == Tx x) || _)=_
  have:(Tx d == Tx x)=decide (x=d):=by
   rw [show (Tx d == Tx x)=(d == x) from SX.S_beq d x]
   by_cases z:x=d
   ·subst z;simp
   ·rw [decide_eq_false z];simpa using fun w=>z w.symm
  rw [this];simp
 | _,[],_ :: _,h=>h.elim
 | _,_ :: _,[],h=>h.elim
theorem ev_inTL {x:List Nat} {ds:List (List Nat)} (h:Ev Γ ta cT x) (h1:Ev Γ tb (cList K cT) ds):Ev Γ (tOp (rIn K false) ta tb) cBool (decide (x∈ds)) :=
 ev_mono_op h h1 fun F H u v e r1 r2 Q q=>by
  obtain ⟨a,vs,rfl,hs,hr⟩:=r2
  obtain ⟨h1,h2⟩:=inV_tx x hr
  cases (show u=.str (Tx x) from r1)
  exact ⟨a,vs,rfl,.inl (ex_l e hs),rfl,h1,q _ F H (Ext.refl e) (by rw [←h2];rfl)⟩
theorem ev_inTT {x:List Nat} {ds:List (List Nat)} (h:Ev Γ ta cT x) (h1:Ev Γ tb (cTupL K cT) ds):Ev Γ (tOp (rIn K false) ta tb) cBool (decide (x∈ds)) :=
 ev_mono_op h h1 fun F H u v e r1 r2 Q q=>by
  obtain ⟨a,vs,rfl,hs,hr⟩:=r2
  obtain ⟨h1,h2⟩:=inV_tx x hr
  cases (show u=.str (Tx x) from r1)
  exact ⟨a,vs,rfl,.inr (ex_t e hs),rfl,h1,q _ F H (Ext.refl e) (by rw [←h2];rfl)⟩
theorem ev_inTO {x:List Nat} {ds:List (List Nat)} {k:Nat} (h:Ev Γ ta cT x) (h1:Γ[k]?=some (.own cT ds)):Ev Γ (tOp (rIn K false) ta (tVar k)) cBool (decide (x∈ds)):=fun F H σ S Q q =>
 h F H σ S _ fun v F1 H1 e1 r1=>by
  obtain ⟨p,vs,k1,k2,k3,k4⟩:=(S.grow e1).owned h1
  obtain ⟨g1,g2⟩:=inV_tx x k4
  cases (show v=.str (Tx x) from r1)
  exact ⟨.ref p,k1,p,vs,rfl,.inl (.inl (.inl k3)),rfl,g1,q _ F1 H1 e1 (by rw [←g2];rfl)⟩
theorem ev_intS {l:List Nat} (h:Ev Γ ta cT l) (hd:l.all (fun c=>decide (48≤c) && decide (c≤57))=true) (h0:l≠[]) (hl:l.length≤640):Ev Γ (tCB rIntS (tCons ta tNil)) cInt (NumText.digitsVal l:Nat) :=
 ev_cb1 h fun F H x e r1 Q q=>⟨Tx l,_,by rw [r1],SX.int_S hd h0 (by omega),by rw [tx_len];exact hl,q _ F H (Ext.refl e) rfl⟩
theorem ev_strI {n:Nat} (h:Ev Γ ta cInt (n:Int)) (hn:n.log2 < 1920):Ev Γ (tCB rStrI (tCons ta tNil)) cT (TL.numL n) :=
 ev_cb1 h fun F H x e r1 Q q=>⟨n,by rw [r1],hn,q _ F H (Ext.refl e) (congrArg V.str (SX.num_S n))⟩
theorem ev_strBI {n:Nat} (h:Ev Γ ta cInt (n:Int)) (hn:n.log2 < 1920):Ev Γ (tCB rStrB (tCons ta tNil)) cT (TL.numL n) :=
 ev_cb1 h fun F H x e r1 Q q=>.inl ⟨n,by rw [r1],hn,q _ F H (Ext.refl e) (congrArg V.str (SX.num_S n))⟩
theorem ev_strBS {l:List Nat} (h:Ev Γ ta cT l):Ev Γ (tCB rStrB (tCons ta tNil)) cT l :=
 ev_cb1 h fun F H x e r1 Q q=>.inr ⟨Tx l,by rw [r1],q _ F H (Ext.refl e) rfl⟩
theorem ev_isiS {n:String} {b:Bool} {l:List Nat} (h1:Ev Γ ta cT l) (hu:PySem.W.kitOne K (.type "str") (.type n)=some b):Ev Γ (tCB (rIsi K) (tCons ta (tCons (tC (.ty n)) tNil))) cBool b :=
 ev_isi h1 (fun F H x e r=>by cases (show x=.str (Tx l) from r);exact .base (.str _)) hu
theorem evN_revO {ds:List α} {k:Nat} (h:Γ[k]?=some (.own c ds)):EvN Γ (tRevL K (tVar k)) c ds.reverse:=fun F H σ S Q q=>by
 obtain ⟨p,vs,k1,k2,k3,k4⟩:=S.owned h
 exact ⟨.ref p,k1,p,vs,rfl,.inl (.inl k3),fun l hl=>q l _ F _ (Ext.aside S.ex hl) hl (S.ex.free hl) upd_same k4.reverse⟩
end
def rNilQ (K:PySem.W.Frag) (neg:Bool):R2:=fun x y H Q=>∃ p q xs,x=.ref p∧y=.ref q∧SqL K H p xs∧SqL K H q []∧Q (.bl (if neg then !xs.isEmpty else xs.isEmpty)) H
theorem op_eqNil {X:Cx} (hu:X.A.units+64 < cLine):OpR X (compareOp .Eq) (rNilQ X.K false):=by
 intro pins s σ H x y v u Q I rx ry h
 obtain ⟨p,q,xs,rfl,rfl,h1,h2,hq⟩:=h
 cases rx;cases ry
 obtain ⟨its,r,ht,hz⟩:=I.list h1
 obtain ⟨its2,r2,ht2,hz2⟩:=I.list h2
 have e2:its2=[]:=by cases r2;rfl
 subst e2
 cases r with
 | nil =>
  refine SeqAt.eq_listAt (e:=fun _=>true) ht.isList ht2.isList rfl (by omega) (fun j h _=>by simp at h) ?_
  exact ⟨.bl _,H,I,rfl,hq⟩
 | cons r1 r2 =>
  refine SeqAt.eq_list_lengthsAt ht.isList ht2.isList (by simp) (by omega) ?_
  exact ⟨.bl _,H,I,rfl,hq⟩
theorem op_neNil {X:Cx} (hu:X.A.units+64 < cLine):OpR X (compareOp .NotEq) (rNilQ X.K true):=by
 intro pins s σ H x y v u Q I rx ry h
 obtain ⟨p,q,xs,rfl,rfl,h1,h2,hq⟩:=h
 cases rx;cases ry
 obtain ⟨its,r,ht,hz⟩:=I.list h1
 obtain ⟨its2,r2,ht2,hz2⟩:=I.list h2
 have e2:its2=[]:=by cases r2;rfl
 subst e2
 cases r with
 | nil =>
  refine SeqAt.RcNeAt.lists (e:=fun _=>true) ht.isList ht2.isList rfl (by omega) (fun j h _=>by simp at h) _ _ _ _ ?_
  exact ⟨.bl _,H,I,rfl,hq⟩
 | cons r1 r2 =>
  refine SeqAt.RcNeAt.lists_lengths ht.isList ht2.isList (by simp) (by omega) _ _ _ _ ?_
  exact ⟨.bl _,H,I,rfl,hq⟩
section
variable {K:PySem.W.Frag} {Γ:Gam} {ta tb tc te:TE} {α β γ ρ:Type} {c:Cod α} {d:α}
theorem reps_empty {F:Hp} {vs:List V} {ds:List α} (h:Reps c F vs ds):vs.isEmpty=ds.isEmpty:=by
 cases vs<;>cases ds<;>first | rfl | exact h.elim
theorem ev_neNil {ds:List α} (h:Ev Γ ta (cList K c) ds):Ev Γ (tOp (rNilQ K true) ta (tLst tNil)) cBool (!ds.isEmpty):=fun F H σ S Q q =>
 h F H σ S _ fun v F1 H1 e1 r1=>by
  obtain ⟨a,vs,rfl,hs,hr⟩:=r1
  refine ⟨sz_of (by simp),fun p hp=>⟨a,p,vs,rfl,rfl,ex_l (e1.i.trans (Ex.new hp)) hs,.inl (.inl upd_same),?_⟩⟩
  exact q _ F1 _ (e1.trans (Ext.aside e1.i hp)) (congrArg (fun b=>V.bl (!b)) (reps_empty hr))
end
end Pw
namespace Xp
open PySem L2
abbrev T:=List Nat
inductive Ep where
 | num (n:Nat)
 | name (w:T)
 | two (s:Nat) (l r:Ep)
 | pow (b:Ep) (n:Nat)
 | less (e:Ep)
deriving DecidableEq,Inhabited
def bindS (s:Nat):Nat:=if s=43∨s=45 then 0 else 1
def binds:Ep→Nat
 | .num _=>4
 | .name _=>4
 | .two s _ _=>bindS s
 | .pow _ _=>3
 | .less _=>2
def br (b least:Nat) (t:T):T:=if b < least then 40 :: (t++[41]) else t
def sh:Ep→T
 | .num n=>TL.numL n
 | .name w=>w
 | .two s l r=>br (binds l) (bindS s) (sh l)++32 :: s :: 32 :: br (binds r) (bindS s+1) (sh r)
 | .pow b n=>br (binds b) 4 (sh b)++94 :: TL.numL n
 | .less e=>45 :: br (binds e) 2 (sh e)
def isFig (c:Nat):Bool:=48≤c && c≤57
def isLet (c:Nat):Bool:=97≤c && c≤122
def valL (l:T):Nat:=l.foldl (fun a c=>a*10+(c-48)) 0
def runL (p:Nat→Bool) (most:Nat) (l:T):Option T:=let w:=l.takeWhile p;if w=[]∨most < w.length then none else some w
def wholeL (most:Nat) (l:T):Option T:=match runL isFig most l with
 | none=>none
 | some w=>if 1 < w.length∧w.head?=some 48 then none else some w
abbrev Rd:=T→Option (Ep×Nat)
def atomL (sub:Option Rd) (l:T):Option (Ep×Nat) :=
 if l.head?=some 40 then
  match sub with
  | none=>none
  | some p=>match p (l.drop 1) with
   | none=>none
   | some (e,n)=>if (l.drop (1+n)).head?=some 41 then some (e,1+n+1) else none
 else if l.head?.any isFig then
  match wholeL 30 l with
  | none=>none
  | some w=>some (.num (valL w),w.length)
 else match runL isLet 8 l with
  | none=>none
  | some w=>some (.name w,w.length)
def powerL (sub:Option Rd) (l:T):Option (Ep×Nat):=match atomL sub l with
 | none=>none
 | some (e,n)=>if (l.drop n).head?=some 94 then
   match wholeL 2 (l.drop (n+1)) with
   | none=>none
   | some w=>if 12 < valL w then none else some (.pow e (valL w),n+1+w.length)
  else some (e,n)
def lessN:Nat→Ep→Ep
 | 0,e=>e
 | k+1,e=>.less (lessN k e)
def minuses (l:T):Nat:=(l.takeWhile (fun c=>c == 45)).length
def factorL (sub:Option Rd) (l:T):Option (Ep×Nat) :=
 if 30 < minuses l then none else match powerL sub (l.drop (minuses l)) with
  | none=>none
  | some (e,n)=>some (lessN (minuses l) e,minuses l+n)
def ahead (ss:List Nat):T→Option Nat
 | 32 :: s :: 32 :: _=>if s∈ss then some s else none
 | _=>none
def rowGo (ss:List Nat) (p:Rd):Nat→T→Ep→Nat→Option (Ep×Nat)
 | 0,_,_,_=>none
 | k+1,l,e,n=>match ahead ss l with
  | none=>some (e,n)
  | some s=>match p (l.drop 3) with
   | none=>none
   | some (f,m)=>rowGo ss p k (l.drop (3+m)) (.two s e f) (n+(3+m))
def rowL (ss:List Nat) (p:Rd) (l:T):Option (Ep×Nat):=match p l with
 | none=>none
 | some (e,n)=>rowGo ss p (l.length+1) (l.drop n) e n
def termL (sub:Option Rd):Rd:=rowL [42,47] (factorL sub)
def sumL (sub:Option Rd):Rd:=rowL [43,45] (termL sub)
def pS:Nat→Rd
 | 0=>sumL none
 | r+1=>sumL (some (pS r))
def subL:Nat→Option Rd
 | 0=>none
 | r+1=>some (pS r)
theorem pS_eq (r:Nat):pS r=sumL (subL r):=by cases r<;>rfl
def readL (l:T):Option Ep:=if 1000 < l.length then none else match pS 30 l with
 | none=>none
 | some (e,n)=>if n=l.length then some e else none
def WName (w:T):Prop:=w≠[]∧w.length≤8∧∀ c∈w,isLet c=true
inductive G:Nat→Nat→T→Ep→Prop
 | num {r n:Nat}:(TL.numL n).length≤30→G r 4 (TL.numL n) (.num n)
 | name {r:Nat} {w:T}:WName w→G r 4 w (.name w)
 | par {r:Nat} {t:T} {e:Ep}:G r 0 t e→G (r+1) 4 (40 :: (t++[41])) e
 | pow {r n:Nat} {t:T} {e:Ep}:G r 4 t e→n≤12→G r 3 (t++94 :: TL.numL n) (.pow e n)
 | atom {r:Nat} {t:T} {e:Ep}:G r 4 t e→G r 3 t e
 | fac {r k:Nat} {t:T} {e:Ep}:G r 3 t e→k≤30→G r 2 (List.replicate k 45++t) (lessN k e)
 | term {r:Nat} {t:T} {e:Ep}:G r 2 t e→G r 1 t e
 | mul {r s:Nat} {t u:T} {e f:Ep}:G r 1 t e→G r 2 u f→s=42∨s=47→G r 1 (t++32 :: s :: 32 :: u) (.two s e f)
 | sum {r:Nat} {t:T} {e:Ep}:G r 1 t e→G r 0 t e
 | add {r s:Nat} {t u:T} {e f:Ep}:G r 0 t e→G r 1 u f→s=43∨s=45→G r 0 (t++32 :: s :: 32 :: u) (.two s e f)
theorem fig_of {n c:Nat} (h:c∈TL.numL n):isFig c=true:=by
 have:=TL.numL_digits n c h
 unfold isFig;simp;omega
theorem valL_num (n:Nat):valL (TL.numL n)=n:=TL.numL_val n
theorem minuses_rep {t:T} (h:t.head?≠some 45):∀ k,minuses (List.replicate k 45++t)=k
 | 0=>by
  unfold minuses
  cases t with
  | nil=>rfl
  | cons c t =>
   show (List.takeWhile (fun c=>c == 45) (c :: t)).length=0
   rw [List.takeWhile_cons_of_neg (by simpa using h)];rfl
 | k+1=>by
  have:=minuses_rep h k
  unfold minuses at this ⊢
  rw [List.replicate_succ,List.cons_append,List.takeWhile_cons_of_pos (by decide),List.length_cons,this]
def size:Ep→Nat
 | .num _=>1
 | .name _=>1
 | .two _ l r=>size l+size r+1
 | .pow b _=>size b+1
 | .less e=>size e+1
def Wf:Ep→Prop
 | .num n=>(TL.numL n).length≤30
 | .name w=>WName w
 | .two s l r=>(s=43∨s=45∨s=42∨s=47)∧Wf l∧Wf r
 | .pow b n=>Wf b∧n≤12
 | .less e=>Wf e
def chain:Ep→Nat×Ep
 | .less e=>let q:=chain e;(q.1+1,q.2)
 | e=>(0,e)
theorem chain_eq:∀ e:Ep,e=lessN (chain e).1 (chain e).2
 | .less e=>by show Ep.less e=Ep.less (lessN (chain e).1 (chain e).2);rw [←chain_eq e]
 | .num _=>rfl
 | .name _=>rfl
 | .two _ _ _=>rfl
 | .pow _ _=>rfl
def isLess:Ep→Bool
 | .less _=>true
 | _=>false
theorem chain_core:∀ e:Ep,isLess (chain e).2=false
 | .less e=>chain_core e
 | .num _=>rfl
 | .name _=>rfl
 | .two _ _ _=>rfl
 | .pow _ _=>rfl
theorem sh_lessN (c:Ep):∀ k,sh (lessN (k+1) c)=List.replicate (k+1) 45++br (binds c) 2 (sh c)
 | 0=>rfl
 | k+1=>by
  have:=sh_lessN c k
  show 45 :: br (binds (lessN (k+1) c)) 2 (sh (lessN (k+1) c))=_
  rw [this];rfl
theorem size_lessN (c:Ep):∀ k,size (lessN k c)=size c+k
 | 0=>rfl
 | k+1=>by show size (lessN k c)+1=_;rw [size_lessN c k];omega
theorem wf_lessN (c:Ep):∀ k,Wf (lessN k c)→Wf c
 | 0,h=>h
 | k+1,h=>wf_lessN c k h
end Xp
namespace Pw
open PySem PySem.Spec PyProof.Rows L2 Xp
abbrev tagName:List Nat:=[110,97,109,101]
abbrev tagNum:List Nat:=[110,117,109,98,101,114]
abbrev tagLess:List Nat:=[108,101,115,115]
def tag:Ep→List Nat
 | .num _=>tagNum
 | .name _=>tagName
 | .two s _ _=>[s]
 | .pow _ _=>[94]
 | .less _=>tagLess
def trRep (K:PySem.W.Frag) (F:Hp):V→Ep→Prop
 | v,.num n=>∃ a,v=.ref a∧SqT K F a [.str (Tx tagNum),.int n]
 | v,.name w=>∃ a,v=.ref a∧SqT K F a [.str (Tx tagName),.str (Tx w)]
 | v,.two s l r=>∃ a x y,v=.ref a∧SqT K F a [.str (Tx [s]),x,y]∧trRep K F x l∧trRep K F y r
 | v,.pow b n=>∃ a x,v=.ref a∧SqT K F a [.str (Tx [94]),x,.int n]∧trRep K F x b
 | v,.less e=>∃ a x,v=.ref a∧SqT K F a [.str (Tx tagLess),x]∧trRep K F x e
theorem trRep_mono {K:PySem.W.Frag} {F F':Hp} (e:Ex F F'):∀ (t:Ep) (v:V),trRep K F v t→trRep K F' v t
 | .num n,v,⟨a,h1,h2⟩=>⟨a,h1,ex_t e h2⟩
 | .name w,v,⟨a,h1,h2⟩=>⟨a,h1,ex_t e h2⟩
 | .two s l r,v,⟨a,x,y,h1,h2,h3,h4⟩=>⟨a,x,y,h1,ex_t e h2,trRep_mono e l x h3,trRep_mono e r y h4⟩
 | .pow b n,v,⟨a,x,h1,h2,h3⟩=>⟨a,x,h1,ex_t e h2,trRep_mono e b x h3⟩
 | .less b,v,⟨a,x,h1,h2,h3⟩=>⟨a,x,h1,ex_t e h2,trRep_mono e b x h3⟩
def cTr (K:PySem.W.Frag):Cod Ep:=⟨fun F v t=>trRep K F v t,fun e h=>trRep_mono e _ _ h⟩
section
variable {K:PySem.W.Frag} {Γ:Gam} {ta tb tc te:TE} {α β γ ρ:Type} {c:Cod α} {d:α}
theorem tr_at {F:Hp} {v:V} {t:Ep} (h:trRep K F v t):∃ a vs,v=.ref a∧SqT K F a (.str (Tx (tag t)) :: vs):=by
 cases t with
 | num n=>obtain ⟨a,h1,h2⟩:=h;exact ⟨a,_,h1,h2⟩
 | name w=>obtain ⟨a,h1,h2⟩:=h;exact ⟨a,_,h1,h2⟩
 | two s l r=>obtain ⟨a,x,y,h1,h2,_⟩:=h;exact ⟨a,_,h1,h2⟩
 | pow b n=>obtain ⟨a,x,h1,h2,_⟩:=h;exact ⟨a,_,h1,h2⟩
 | less b=>obtain ⟨a,x,h1,h2,_⟩:=h;exact ⟨a,_,h1,h2⟩
theorem ev_tr0 {t:Ep} (h:Ev Γ ta (cTr K) t):Ev Γ (tOp (rIxT K) ta (tC (.int 0))) cT (tag t) :=
 ev_mono_op h ev_int fun F H u v e r1 r2 Q q=>by
  obtain ⟨a,vs,rfl,hs⟩:=tr_at r1
  cases r2
  exact ⟨a,_,0,.str (Tx (tag t)),rfl,rfl,ex_t e hs,atI_nat' (j:=0) rfl,q _ F H (Ext.refl e) rfl⟩
theorem ev_trNum {n:Nat} (h:Ev Γ ta (cTr K) (.num n)):Ev Γ (tOp (rIxT K) ta (tC (.int 1))) cInt (n:Int) :=
 ev_mono_op h ev_int fun F H u v e r1 r2 Q q=>by
  obtain ⟨a,rfl,hs⟩:=r1
  cases r2
  exact ⟨a,_,1,.int n,rfl,rfl,ex_t e hs,rfl,q _ F H (Ext.refl e) rfl⟩
theorem ev_trName {w:List Nat} (h:Ev Γ ta (cTr K) (.name w)):Ev Γ (tOp (rIxT K) ta (tC (.int 1))) cT w :=
 ev_mono_op h ev_int fun F H u v e r1 r2 Q q=>by
  obtain ⟨a,rfl,hs⟩:=r1
  cases r2
  exact ⟨a,_,1,.str (Tx w),rfl,rfl,ex_t e hs,rfl,q _ F H (Ext.refl e) rfl⟩
theorem ev_trL {s:Nat} {l r:Ep} (h:Ev Γ ta (cTr K) (.two s l r)):Ev Γ (tOp (rIxT K) ta (tC (.int 1))) (cTr K) l :=
 ev_mono_op h ev_int fun F H u v e r1 r2 Q q=>by
  obtain ⟨a,x,y,rfl,hs,hx,hy⟩:=r1
  cases r2
  exact ⟨a,_,1,x,rfl,rfl,ex_t e hs,rfl,q _ F H (Ext.refl e) hx⟩
theorem ev_trR {s:Nat} {l r:Ep} (h:Ev Γ ta (cTr K) (.two s l r)):Ev Γ (tOp (rIxT K) ta (tC (.int 2))) (cTr K) r :=
 ev_mono_op h ev_int fun F H u v e r1 r2 Q q=>by
  obtain ⟨a,x,y,rfl,hs,hx,hy⟩:=r1
  cases r2
  exact ⟨a,_,2,y,rfl,rfl,ex_t e hs,rfl,q _ F H (Ext.refl e) hy⟩
theorem ev_trB {b:Ep} {n:Nat} (h:Ev Γ ta (cTr K) (.pow b n)):Ev Γ (tOp (rIxT K) ta (tC (.int 1))) (cTr K) b :=
 ev_mono_op h ev_int fun F H u v e r1 r2 Q q=>by
  obtain ⟨a,x,rfl,hs,hx⟩:=r1
  cases r2
  exact ⟨a,_,1,x,rfl,rfl,ex_t e hs,rfl,q _ F H (Ext.refl e) hx⟩
theorem ev_trN {b:Ep} {n:Nat} (h:Ev Γ ta (cTr K) (.pow b n)):Ev Γ (tOp (rIxT K) ta (tC (.int 2))) cInt (n:Int) :=
 ev_mono_op h ev_int fun F H u v e r1 r2 Q q=>by
  obtain ⟨a,x,rfl,hs,hx⟩:=r1
  cases r2
  exact ⟨a,_,2,.int n,rfl,rfl,ex_t e hs,rfl,q _ F H (Ext.refl e) rfl⟩
theorem ev_trI {b:Ep} (h:Ev Γ ta (cTr K) (.less b)):Ev Γ (tOp (rIxT K) ta (tC (.int 1))) (cTr K) b :=
 ev_mono_op h ev_int fun F H u v e r1 r2 Q q=>by
  obtain ⟨a,x,rfl,hs,hx⟩:=r1
  cases r2
  exact ⟨a,_,1,x,rfl,rfl,ex_t e hs,rfl,q _ F H (Ext.refl e) hx⟩
theorem ev_mkTr2 {t:Ep} {α β:Type} {c:Cod α} {c2:Cod β} {x:α} {y:β} (h1:Ev Γ ta c x) (h2:Ev Γ tb c2 y)
  (hr:∀ F v w a,c.rep F v x→c2.rep F w y→SqT K F a [v,w]→trRep K F (.ref a) t):Ev Γ (tTup (tCons ta (tCons tb tNil))) (cTr K) t:=fun F H σ S Q q =>
 h1 F H σ S _ fun v F1 H1 e1 r1=>h2 F1 H1 σ (S.grow e1) _ fun w F2 H2 e2 r2=>⟨sz_of (by simp),fun p hp =>
  q _ _ _ ((e1.trans e2).trans (Ext.new e2.i hp)) (hr _ v w p (c.mono (e2.f.trans (Ex.new (e2.i.free hp))) r1) (c2.mono (Ex.new (e2.i.free hp)) r2) (.inl (.inl upd_same)))⟩
theorem ev_mkTr3 {t:Ep} {α β γ:Type} {c:Cod α} {c2:Cod β} {c3:Cod γ} {x:α} {y:β} {z:γ} (h1:Ev Γ ta c x) (h2:Ev Γ tb c2 y) (h3:Ev Γ tc c3 z)
  (hr:∀ F v w u a,c.rep F v x→c2.rep F w y→c3.rep F u z→SqT K F a [v,w,u]→trRep K F (.ref a) t):Ev Γ (tTup (tCons ta (tCons tb (tCons tc tNil)))) (cTr K) t:=fun F H σ S Q q =>
 h1 F H σ S _ fun v F1 H1 e1 r1=>h2 F1 H1 σ (S.grow e1) _ fun w F2 H2 e2 r2=>h3 F2 H2 σ ((S.grow e1).grow e2) _ fun u F3 H3 e3 r3=>⟨sz_of (by simp),fun p hp =>
  have en:=Ex.new (o:=.tup [v,w,u]) (e3.i.free hp)
  q _ _ _ (((e1.trans e2).trans e3).trans (Ext.new e3.i hp)) (hr _ v w u p (c.mono ((e2.f.trans e3.f).trans en) r1) (c2.mono (e3.f.trans en) r2) (c3.mono en r3) (.inl (.inl upd_same)))⟩
theorem ev_mkTrNum {n:Nat} (h1:Ev Γ ta cT tagNum) (h2:Ev Γ tb cInt (n:Int)):Ev Γ (tTup (tCons ta (tCons tb tNil))) (cTr K) (.num n) :=
 ev_mkTr2 h1 h2 fun F v w a r1 r2 hs=>⟨a,rfl,by rw [←show v=.str (Tx tagNum) from r1,←show w=.int n from r2];exact hs⟩
theorem ev_mkTrName {w:List Nat} (h1:Ev Γ ta cT tagName) (h2:Ev Γ tb cT w):Ev Γ (tTup (tCons ta (tCons tb tNil))) (cTr K) (.name w) :=
 ev_mkTr2 h1 h2 fun F v x a r1 r2 hs=>⟨a,rfl,by rw [←show v=.str (Tx tagName) from r1,←show x=.str (Tx w) from r2];exact hs⟩
theorem ev_mkTrLess {b:Ep} (h1:Ev Γ ta cT tagLess) (h2:Ev Γ tb (cTr K) b):Ev Γ (tTup (tCons ta (tCons tb tNil))) (cTr K) (.less b) :=
 ev_mkTr2 h1 h2 fun F v x a r1 r2 hs=>⟨a,x,rfl,by rw [←show v=.str (Tx tagLess) from r1];exact hs,r2⟩
theorem ev_mkTrTwo {s:Nat} {l r:Ep} (h1:Ev Γ ta cT [s]) (h2:Ev Γ tb (cTr K) l) (h3:Ev Γ tc (cTr K) r):Ev Γ (tTup (tCons ta (tCons tb (tCons tc tNil)))) (cTr K) (.two s l r) :=
 ev_mkTr3 h1 h2 h3 fun F v x y a r1 r2 r3 hs=>⟨a,x,y,rfl,by rw [←show v=.str (Tx [s]) from r1];exact hs,r2,r3⟩
theorem ev_mkTrPow {b:Ep} {n:Nat} (h1:Ev Γ ta cT [94]) (h2:Ev Γ tb (cTr K) b) (h3:Ev Γ tc cInt (n:Int)):Ev Γ (tTup (tCons ta (tCons tb (tCons tc tNil)))) (cTr K) (.pow b n) :=
 ev_mkTr3 h1 h2 h3 fun F v x y a r1 r2 r3 hs=>⟨a,x,rfl,by rw [←show v=.str (Tx [94]) from r1,←show y=.int n from r3];exact hs,r2⟩
end
structure ExC where
 Number:Addr
 Name:Addr
 Two:Addr
 Power:Addr
 Less:Addr
def clsI:Ep→Nat
 | .num _=>0
 | .name _=>1
 | .two _ _ _=>2
 | .pow _ _=>3
 | .less _=>4
def ExC.at_ (X:ExC):Nat→Addr
 | 0=>X.Number
 | 1=>X.Name
 | 2=>X.Two
 | 3=>X.Power
 | _=>X.Less
abbrev fsNum (x:V):List (Str×V):=[("whole",x)]
abbrev fsName (x:V):List (Str×V):=[("word",x)]
abbrev fsTwo (x y z:V):List (Str×V):=[("sign",x),("left",y),("right",z)]
abbrev fsPow (x y:V):List (Str×V):=[("base",x),("exponent",y)]
abbrev fsLess (x:V):List (Str×V):=[("inner",x)]
def exRep (X:ExC) (F:Hp):V→Ep→Prop
 | v,.num n=>∃ a dx,v=.ref a∧F a=some (.ins X.Number dx (fsNum (.int n)))
 | v,.name w=>∃ a dx,v=.ref a∧F a=some (.ins X.Name dx (fsName (.str (Tx w))))
 | v,.two s l r=>∃ a dx x y,v=.ref a∧F a=some (.ins X.Two dx (fsTwo (.str (Tx [s])) x y))∧exRep X F x l∧exRep X F y r
 | v,.pow b n=>∃ a dx x,v=.ref a∧F a=some (.ins X.Power dx (fsPow x (.int n)))∧exRep X F x b
 | v,.less e=>∃ a dx x,v=.ref a∧F a=some (.ins X.Less dx (fsLess x))∧exRep X F x e
theorem exRep_mono {X:ExC} {F F':Hp} (e:Ex F F'):∀ (t:Ep) (v:V),exRep X F v t→exRep X F' v t
 | .num n,v,⟨a,dx,h1,h2⟩=>⟨a,dx,h1,e _ _ h2⟩
 | .name w,v,⟨a,dx,h1,h2⟩=>⟨a,dx,h1,e _ _ h2⟩
 | .two s l r,v,⟨a,dx,x,y,h1,h2,h3,h4⟩=>⟨a,dx,x,y,h1,e _ _ h2,exRep_mono e l x h3,exRep_mono e r y h4⟩
 | .pow b n,v,⟨a,dx,x,h1,h2,h3⟩=>⟨a,dx,x,h1,e _ _ h2,exRep_mono e b x h3⟩
 | .less b,v,⟨a,dx,x,h1,h2,h3⟩=>⟨a,dx,x,h1,e _ _ h2,exRep_mono e b x h3⟩
def cEx (X:ExC):Cod Ep:=⟨fun F v t=>exRep X F v t,fun e h=>exRep_mono e _ _ h⟩
structure ClsK (K:PySem.W.Frag) (C:Addr):Prop where
 cl:Cls K C
 ha:PySem.W.findIn K (.ref C) "__class__" = some (some (.builtin "object.__class__"))
 hn:PySem.W.specialIn K (.builtin "object.__class__") "__get__" = some (some (.builtin "getset_descriptor.__get__"))
 htk:PySem.W.takesIn K (.builtin "object.__class__")=some true
 hm:PySem.W.mroIn K C (.type "object")=some true
structure ExK (K:PySem.W.Frag) (X:ExC):Prop where
 cNumber:ClsK K X.Number
 cName:ClsK K X.Name
 cTwo:ClsK K X.Two
 cPower:ClsK K X.Power
 cLess:ClsK K X.Less
 f_whole:NoAttr K X.Number "whole"
 f_word:NoAttr K X.Name "word"
 f_sign:NoAttr K X.Two "sign"
 f_left:NoAttr K X.Two "left"
 f_right:NoAttr K X.Two "right"
 f_base:NoAttr K X.Power "base"
 f_exponent:NoAttr K X.Power "exponent"
 f_inner:NoAttr K X.Less "inner"
 i2:∀ e:Ep,PySem.W.kitOne K (.ref (X.at_ (clsI e))) (.ref X.Two)=some (decide (clsI e=2))
 i4:∀ e:Ep,PySem.W.kitOne K (.ref (X.at_ (clsI e))) (.ref X.Less)=some (decide (clsI e=4))
theorem ExK.at_ {K:PySem.W.Frag} {X:ExC} (k:ExK K X) (e:Ep):ClsK K (X.at_ (clsI e)):=by
 cases e
 ·exact k.cNumber
 ·exact k.cName
 ·exact k.cTwo
 ·exact k.cPower
 ·exact k.cLess
def fldNames:List Str:=["whole","word","sign","left","right","base","exponent","inner"]
theorem f_whole:("whole":Str)∈fldNames:=by decide +kernel
theorem f_word:("word":Str)∈fldNames:=by decide +kernel
theorem f_sign:("sign":Str)∈fldNames:=by decide +kernel
theorem f_left:("left":Str)∈fldNames:=by decide +kernel
theorem f_right:("right":Str)∈fldNames:=by decide +kernel
theorem f_base:("base":Str)∈fldNames:=by decide +kernel
theorem f_exp:("exponent":Str)∈fldNames:=by decide +kernel
theorem f_inner:("inner":Str)∈fldNames:=by decide +kernel
theorem look_not {m:Str}:∀ {fs:List (Str×V)},(∀ x∈fs,¬m=x.1)→fs.lookup m=none
 | [],_=>rfl
 | (a,b) :: fs,h=>by
  rw [List.lookup_cons,show (m == a)=false from beq_eq_false_iff_ne.mpr (h (a,b) List.mem_cons_self)]
  exact look_not fun x hx=>h x (List.mem_cons_of_mem _ hx)
section
variable {X:ExC} {F H:Hp} {v:V}
theorem ex_at {e:Ep} (h:exRep X F v e):∃ a dx fs,v=.ref a∧F a=some (.ins (X.at_ (clsI e)) dx fs)∧∀ m:Str,m ∉ fldNames→fs.lookup m=none:=by
 have nn:∀ {m:Str} {fs:List (Str×V)},(∀ x∈fs,x.1∈fldNames)→m ∉ fldNames→fs.lookup m=none:=fun h1 h2=>look_not fun x hx z=>h2 (z ▸ h1 x hx)
 cases e with
 | num n=>obtain ⟨a,dx,h1,h2⟩:=h;exact ⟨a,dx,_,h1,h2,fun m hm=>nn (by intro x hx;simp only [List.mem_singleton] at hx;subst hx;exact f_whole) hm⟩
 | name w=>obtain ⟨a,dx,h1,h2⟩:=h;exact ⟨a,dx,_,h1,h2,fun m hm=>nn (by intro x hx;simp only [List.mem_singleton] at hx;subst hx;exact f_word) hm⟩
 | two s l r=>obtain ⟨a,dx,x,y,h1,h2,_⟩:=h;exact ⟨a,dx,_,h1,h2,fun m hm=>nn (by intro x hx;simp only [List.mem_cons,List.not_mem_nil,or_false] at hx;rcases hx with hx | hx | hx<;>subst hx<;>first | exact f_sign | exact f_left | exact f_right) hm⟩
 | pow b n=>obtain ⟨a,dx,x,h1,h2,_⟩:=h;exact ⟨a,dx,_,h1,h2,fun m hm=>nn (by intro x hx;simp only [List.mem_cons,List.not_mem_nil,or_false] at hx;rcases hx with hx | hx<;>subst hx<;>first | exact f_base | exact f_exp) hm⟩
 | less b=>obtain ⟨a,dx,x,h1,h2,_⟩:=h;exact ⟨a,dx,_,h1,h2,fun m hm=>nn (by intro x hx;simp only [List.mem_singleton] at hx;subst hx;exact f_inner) hm⟩
end
section
variable {K:PySem.W.Frag} {X:ExC} {Γ:Gam} {ta tb tc te:TE} {α β γ ρ:Type} {c:Cod α} {d:α}
theorem ev_fWhole (k:ExK K X) {n:Nat} (h:Ev Γ ta (cEx X) (.num n)):Ev Γ (tFld K ta "whole") cInt (n:Int):=fun F H σ S Q q=>h F H σ S _ fun v F1 H1 e1 r1=>by
 obtain ⟨a,dx,rfl,ha⟩:=r1
 exact ⟨a,_,dx,_,_,rfl,e1.i a _ ha,k.cNumber.cl,k.f_whole,rfl,q _ F1 H1 e1 rfl⟩
theorem ev_fWord (k:ExK K X) {w:List Nat} (h:Ev Γ ta (cEx X) (.name w)):Ev Γ (tFld K ta "word") cT w:=fun F H σ S Q q=>h F H σ S _ fun v F1 H1 e1 r1=>by
 obtain ⟨a,dx,rfl,ha⟩:=r1
 exact ⟨a,_,dx,_,_,rfl,e1.i a _ ha,k.cName.cl,k.f_word,rfl,q _ F1 H1 e1 rfl⟩
theorem ev_fSign (k:ExK K X) {s:Nat} {l r:Ep} (h:Ev Γ ta (cEx X) (.two s l r)):Ev Γ (tFld K ta "sign") cT [s]:=fun F H σ S Q q=>h F H σ S _ fun v F1 H1 e1 r1=>by
 obtain ⟨a,dx,x,y,rfl,ha,hx,hy⟩:=r1
 exact ⟨a,_,dx,_,_,rfl,e1.i a _ ha,k.cTwo.cl,k.f_sign,rfl,q _ F1 H1 e1 rfl⟩
theorem ev_fLeft (k:ExK K X) {s:Nat} {l r:Ep} (h:Ev Γ ta (cEx X) (.two s l r)):Ev Γ (tFld K ta "left") (cEx X) l:=fun F H σ S Q q=>h F H σ S _ fun v F1 H1 e1 r1=>by
 obtain ⟨a,dx,x,y,rfl,ha,hx,hy⟩:=r1
 exact ⟨a,_,dx,_,_,rfl,e1.i a _ ha,k.cTwo.cl,k.f_left,rfl,q _ F1 H1 e1 hx⟩
theorem ev_fRight (k:ExK K X) {s:Nat} {l r:Ep} (h:Ev Γ ta (cEx X) (.two s l r)):Ev Γ (tFld K ta "right") (cEx X) r:=fun F H σ S Q q=>h F H σ S _ fun v F1 H1 e1 r1=>by
 obtain ⟨a,dx,x,y,rfl,ha,hx,hy⟩:=r1
 exact ⟨a,_,dx,_,_,rfl,e1.i a _ ha,k.cTwo.cl,k.f_right,rfl,q _ F1 H1 e1 hy⟩
theorem ev_fBase (k:ExK K X) {b:Ep} {n:Nat} (h:Ev Γ ta (cEx X) (.pow b n)):Ev Γ (tFld K ta "base") (cEx X) b:=fun F H σ S Q q=>h F H σ S _ fun v F1 H1 e1 r1=>by
 obtain ⟨a,dx,x,rfl,ha,hx⟩:=r1
 exact ⟨a,_,dx,_,_,rfl,e1.i a _ ha,k.cPower.cl,k.f_base,rfl,q _ F1 H1 e1 hx⟩
theorem ev_fExp (k:ExK K X) {b:Ep} {n:Nat} (h:Ev Γ ta (cEx X) (.pow b n)):Ev Γ (tFld K ta "exponent") cInt (n:Int):=fun F H σ S Q q=>h F H σ S _ fun v F1 H1 e1 r1=>by
 obtain ⟨a,dx,x,rfl,ha,hx⟩:=r1
 exact ⟨a,_,dx,_,_,rfl,e1.i a _ ha,k.cPower.cl,k.f_exponent,rfl,q _ F1 H1 e1 rfl⟩
theorem ev_fInner (k:ExK K X) {b:Ep} (h:Ev Γ ta (cEx X) (.less b)):Ev Γ (tFld K ta "inner") (cEx X) b:=fun F H σ S Q q=>h F H σ S _ fun v F1 H1 e1 r1=>by
 obtain ⟨a,dx,x,rfl,ha,hx⟩:=r1
 exact ⟨a,_,dx,_,_,rfl,e1.i a _ ha,k.cLess.cl,k.f_inner,rfl,q _ F1 H1 e1 hx⟩
theorem ev_isEx (k:ExK K X) {e:Ep} {D:Addr} {b:Bool} (h:Ev Γ ta (cEx X) e) (hk:PySem.W.kitOne K (.ref (X.at_ (clsI e))) (.ref D)=some b):Ev Γ (tCB (rIsi K) (tCons ta (tCons (tC (.ref D)) tNil))) cBool b:=fun F H σ S Q q =>
 h F H σ S _ fun v F1 H1 e1 r1=>by
  obtain ⟨a,dx,fs,rfl,ha,_⟩:=ex_at r1
  have ck:=k.at_ e
  exact ⟨_,_,_,_,b,rfl,.own D,.base (.ins (e1.i a _ ha) ck.cl ck.ha ck.hn ck.htk ck.hm),hk,q _ F1 H1 e1 rfl⟩
end
def spIni (C:Addr) (n:Nat) (mk:List V→List (Str×V)):Sp:=fun vs H Q _=>∃ x dx us,vs=.ref x :: us∧us.length=n∧H x=some (.ins C dx [])∧Q .non (upd H x (.ins C dx (mk us)))
def mkNum:List V→List (Str×V) | [x]=>fsNum x | _=>[]
def mkName:List V→List (Str×V) | [x]=>fsName x | _=>[]
def mkTwo:List V→List (Str×V) | [x,y,z]=>fsTwo x y z | _=>[]
def mkPow:List V→List (Str×V) | [x,y]=>fsPow x y | _=>[]
def mkLess:List V→List (Str×V) | [x]=>fsLess x | _=>[]
theorem len_Ini {C:Addr} {n:Nat} {mk:List V→List (Str×V)} {vs:List V} {H:Hp} {Q:VK} {E:XK} (h:spIni C n mk vs H Q E):vs.length=n+1:=by
 obtain ⟨x,dx,us,rfl,h,_⟩:=h;simp [h]
theorem ini1 {K:PySem.W.Frag} {C:Addr} {f:Str} {mk:List V→List (Str×V)} (c:Cls K C) (n:NoAttr K C f) (hm:∀ x,mk [x]=[(f,x)]) {N:List Str} (hN:N.length=2) {vs:List V} {H:Hp} {Q:VK} {E:XK} (h:spIni C 1 mk vs H Q E) :
  (sFld K (tVar 0) (tVar 1) f) (ends Q) (start N vs) H:=by
 obtain ⟨x,dx,us,rfl,hl,hx,q⟩:=h
 match us,hl with
 | [y],_ =>
  rw [hm] at q
  have es:start N [.ref x,y]=[some (.ref x),some y]:=by unfold L2.start;rw [hN];rfl
  rw [es]
  exact ⟨y,rfl,.ref x,rfl,x,C,dx,[],rfl,hx,c,n,by decide,q⟩
theorem ini2 {K:PySem.W.Frag} {C:Addr} {f g:Str} {mk:List V→List (Str×V)} (c:Cls K C) (n:NoAttr K C f) (n2:NoAttr K C g) (hm:∀ x y,mk [x,y]=[(f,x),(g,y)]) (hfg:¬f=g) {N:List Str} (hN:N.length=3) {vs:List V} {H:Hp} {Q:VK} {E:XK} (h:spIni C 2 mk vs H Q E) :
  (tSeq (sFld K (tVar 0) (tVar 1) f) (sFld K (tVar 0) (tVar 2) g)) (ends Q) (start N vs) H:=by
 obtain ⟨x,dx,us,rfl,hl,hx,q⟩:=h
 match us,hl with
 | [y,z],_ =>
  rw [hm] at q
  have es:start N [.ref x,y,z]=[some (.ref x),some y,some z]:=by unfold L2.start;rw [hN];rfl
  rw [es]
  refine ⟨y,rfl,.ref x,rfl,x,C,dx,[],rfl,hx,c,n,by decide,z,rfl,.ref x,rfl,x,C,dx,_,rfl,upd_same,c,n2,by show 1 < 1000;decide,?_⟩
  rw [upd_upd]
  have:putF g z (putF f y [])=[(f,y),(g,z)]:=by
   show (if f=g then _ else (f,y) :: putF g z [])=_
   rw [if_neg hfg];rfl
  show Q .non _
  rw [this];exact q
theorem ini3 {K:PySem.W.Frag} {C:Addr} {f g k:Str} {mk:List V→List (Str×V)} (c:Cls K C) (n:NoAttr K C f) (n2:NoAttr K C g) (n3:NoAttr K C k) (hm:∀ x y z,mk [x,y,z]=[(f,x),(g,y),(k,z)]) (hfg:¬f=g) (hfk:¬f=k) (hgk:¬g=k) {N:List Str} (hN:N.length=4) {vs:List V} {H:Hp} {Q:VK} {E:XK} (h:spIni C 3 mk vs H Q E) :
  (tSeq (sFld K (tVar 0) (tVar 1) f) (tSeq (sFld K (tVar 0) (tVar 2) g) (sFld K (tVar 0) (tVar 3) k))) (ends Q) (start N vs) H:=by
 obtain ⟨x,dx,us,rfl,hl,hx,q⟩:=h
 match us,hl with
 | [y,z,u],_ =>
  rw [hm] at q
  have es:start N [.ref x,y,z,u]=[some (.ref x),some y,some z,some u]:=by unfold L2.start;rw [hN];rfl
  rw [es]
  have e1:putF g z (putF f y [])=[(f,y),(g,z)]:=by
   show (if f=g then _ else (f,y) :: putF g z [])=_
   rw [if_neg hfg];rfl
  have e2:putF k u [(f,y),(g,z)]=[(f,y),(g,z),(k,u)]:=by
   show (if f=k then _ else (f,y) :: (if g=k then _ else (g,z) :: putF k u []))=_
   rw [if_neg hfk,if_neg hgk];rfl
  refine ⟨y,rfl,.ref x,rfl,x,C,dx,[],rfl,hx,c,n,by decide,z,rfl,.ref x,rfl,x,C,dx,_,rfl,upd_same,c,n2,by show 1 < 1000;decide,u,rfl,.ref x,rfl,x,C,dx,_,rfl,upd_same,c,n3,by rw [e1];show 2 < 1000;decide,?_⟩
  show Q .non _
  rw [upd_upd,upd_upd,e1,e2];exact q
section
variable {K:PySem.W.Frag} {X:ExC} {Γ:Gam} {ta tb tc te:TE} {α β γ ρ:Type} {c:Cod α} {d:α} {E:XK}
theorem ev_make {ca:CodA α} {a:α} {t:TA} {C:Addr} {n:Nat} {mk:List V→List (Str×V)} {e:Ep} (h:EvA Γ t ca a) (hl:∀ F vs,ca.rep F vs a→vs.length=n)
  (hr:∀ F vs x dx,ca.rep F vs a→F x=some (.ins C dx (mk vs))→exRep X F (.ref x) e):Ev Γ (tMake C (spIni C n mk) [] E t) (cEx X) e:=fun F H σ S Q q =>
 h F H σ S _ fun vs F1 H1 e1 r1 x dx nx ndx ne=>⟨x,dx,vs,by rw [List.append_nil],hl _ _ r1,upd_same,rfl,by
  rw [upd_upd]
  have fx:=e1.i.free nx
  refine q _ (upd F1 x (.ins C dx (mk vs))) _ (e1.trans ?_) (hr _ vs x dx (ca.mono (Ex.new fx) r1) upd_same)
  have e2:Ext F1 H1 F1 (upd H1 dx (.own x)):=Ext.aside e1.i ndx
  exact e2.trans (Ext.new e2.i (by rw [upd_ne ne.symm];exact nx))⟩
theorem ev_mkNum {n:Nat} (h:Ev Γ ta cInt (n:Int)):Ev Γ (tMake X.Number (spIni X.Number 1 mkNum) [] E (tCons ta tNil)) (cEx X) (.num n) :=
 ev_make (ea_cons h ea_nil) (fun _ _ r=>by obtain ⟨_,_,rfl,_,rfl⟩:=r;rfl) fun F vs x dx r hx=>by
  obtain ⟨v,_,rfl,rv,rfl⟩:=r
  cases (show v=.int n from rv)
  exact ⟨x,dx,rfl,hx⟩
theorem ev_mkName {w:List Nat} (h:Ev Γ ta cT w):Ev Γ (tMake X.Name (spIni X.Name 1 mkName) [] E (tCons ta tNil)) (cEx X) (.name w) :=
 ev_make (ea_cons h ea_nil) (fun _ _ r=>by obtain ⟨_,_,rfl,_,rfl⟩:=r;rfl) fun F vs x dx r hx=>by
  obtain ⟨v,_,rfl,rv,rfl⟩:=r
  cases (show v=.str (Tx w) from rv)
  exact ⟨x,dx,rfl,hx⟩
theorem ev_mkLess {e:Ep} (h:Ev Γ ta (cEx X) e):Ev Γ (tMake X.Less (spIni X.Less 1 mkLess) [] E (tCons ta tNil)) (cEx X) (.less e) :=
 ev_make (ea_cons h ea_nil) (fun _ _ r=>by obtain ⟨_,_,rfl,_,rfl⟩:=r;rfl) fun F vs x dx r hx=>by
  obtain ⟨v,_,rfl,rv,rfl⟩:=r
  exact ⟨x,dx,v,rfl,hx,rv⟩
theorem ev_mkPow {e:Ep} {n:Nat} (h:Ev Γ ta (cEx X) e) (h2:Ev Γ tb cInt (n:Int)):Ev Γ (tMake X.Power (spIni X.Power 2 mkPow) [] E (tCons ta (tCons tb tNil))) (cEx X) (.pow e n) :=
 ev_make (ea_cons h (ea_cons h2 ea_nil)) (fun _ _ r=>by obtain ⟨_,_,rfl,_,_,_,rfl,_,rfl⟩:=r;rfl) fun F vs x dx r hx=>by
  obtain ⟨v,_,rfl,rv,w,_,rfl,rw',rfl⟩:=r
  cases (show w=.int n from rw')
  exact ⟨x,dx,v,rfl,hx,rv⟩
theorem ev_mkTwo {s:Nat} {l r:Ep} (h:Ev Γ ta cT [s]) (h2:Ev Γ tb (cEx X) l) (h3:Ev Γ tc (cEx X) r):Ev Γ (tMake X.Two (spIni X.Two 3 mkTwo) [] E (tCons ta (tCons tb (tCons tc tNil)))) (cEx X) (.two s l r) :=
 ev_make (ea_cons h (ea_cons h2 (ea_cons h3 ea_nil))) (fun _ _ r=>by obtain ⟨_,_,rfl,_,_,_,rfl,_,_,_,rfl,_,rfl⟩:=r;rfl) fun F vs x dx r hx=>by
  obtain ⟨v,_,rfl,rv,w,_,rfl,rw',u,_,rfl,ru,rfl⟩:=r
  cases (show v=.str (Tx [s]) from rv)
  exact ⟨x,dx,w,u,rfl,hx,rw',ru⟩
end
end Pw
namespace Pw
open PySem PySem.Spec PyProof.Rows L2 Xp
structure MtOk (P:Program) (w:World) (K:PySem.W.Frag) (mg:Str→Option Value) (base:Heap) (CX:CXT) (k:Nat) (C:Addr) (m:Str) (sp:Sp):Prop where
 ex:∃ (f:Addr) (fd:FuncData) (ps:List Str),Meth K C m f∧FnOk P w K mg base CX k f fd ps sp∧Binds K fd ps []
def tM5 (Y:ExC) (m:Str) (sp:Nat→Sp) (E:XK) (ta:TE) (t:TA):TE:=fun σ H Q=>∃ k,k < 5∧tMeth (Y.at_ k) m (sp k) [] E ta t σ H Q
theorem ExK.cl5 {K:PySem.W.Frag} {Y:ExC} (c:ExK K Y):∀ k,k < 5→Cls K (Y.at_ k)
 | 0,_=>c.cNumber.cl
 | 1,_=>c.cName.cl
 | 2,_=>c.cTwo.cl
 | 3,_=>c.cPower.cl
 | 4,_=>c.cLess.cl
 | _+5,h=>by omega
section
variable {X:Cx} {Y:ExC} {CX:CXT} {k:Nat} {m:Str} {sp:Nat→Sp} {E:XK} {o e:Expr} {es:List Expr} {apos pos:Pos} {ta:TE} {t:TA}
theorem pe_m5 {pl:Sem Bool} (he:PE X o ta) (c:ExK X.K Y) (h:∀ j,j < 5→MtOk X.prog X.w X.K X.mg X.base CX k (Y.at_ j) m (sp j)) (hr:Room k X.A) (hx:Passes CX X E) (ha:PA X (e :: es) t)
  (hst:starEach (e :: es) X.env=(false,eval e X.env) :: starEach es X.env:=by rfl) (hpl:(backTo pos (starEach es X.env)).any (·.1)=false:=by rfl)
  (ht:eval (.Call (.Attribute o m apos) (e :: es) [] pos) X.env=(do
   let ov ←eval o X.env
   standAt apos.atName
   let (f,first) ←holding [ov] (getMethod ov m pl)
   callWith pos f first (backTo pos (starEach (e :: es) X.env)) (backToKw pos (keywordEach [] X.env))):=by rfl) :
  PE X (.Call (.Attribute o m apos) (e :: es) [] pos) (tM5 Y m sp E ta t):=⟨fun pins s σ H Q I hh=>by
 obtain ⟨j,hj,hq⟩:=hh
 obtain ⟨f,fd,ps,hm,F,hb⟩:=(h j hj).ex
 exact (pe_meth (pl:=pl) he (c.cl5 j hj) hm F hr hb .nil hx ha hst hpl ht).run pins s σ H Q I hq⟩
theorem pe_m50 {pl:Sem Bool} (he:PE X o ta) (c:ExK X.K Y) (h:∀ j,j < 5→MtOk X.prog X.w X.K X.mg X.base CX k (Y.at_ j) m (sp j)) (hr:Room k X.A) (hx:Passes CX X E)
  (ht:eval (.Call (.Attribute o m apos) [] [] pos) X.env=(do
   let ov ←eval o X.env
   standAt apos.atName
   let (f,first) ←holding [ov] (getMethod ov m pl)
   callWith pos f first (backTo pos (starEach [] X.env)) (backToKw pos (keywordEach [] X.env))):=by rfl) :
  PE X (.Call (.Attribute o m apos) [] [] pos) (tM5 Y m sp E ta tNil):=⟨fun pins s σ H Q I hh=>by
 obtain ⟨j,hj,hq⟩:=hh
 obtain ⟨f,fd,ps,hm,F,hb⟩:=(h j hj).ex
 exact (pe_meth0 (pl:=pl) he (c.cl5 j hj) hm F hr hb .nil hx ht).run pins s σ H Q I hq⟩
theorem passX {X:Cx} {E:XK} {E₁:Value→Shared→Prop} (hs:X.stack=X.env :: X.outer) (hf:X.env.frame=some X.env.locals) (hex:X.ex=[])
  (hx:X.xe=fun e s'=>wpAny (model X.prog X.w) X.A (leaving X.env e) (fun _ s''=>L2.CX X.prog X.w X.outer X.H_0 X.s_0 E e s'') E₁ s'):Passes (L2.CX X.prog X.w) X E :=
 passes_call (takes_of hs hf hex hx) fun _ _ _ _ h=>h
end
theorem clsI_lt (e:Ep):clsI e < 5:=by cases e<;>simp [clsI]
section
variable {K:PySem.W.Frag} {Y:ExC} {Γ:Gam} {ta tb tc te:TE} {t:TA} {α β γ ρ:Type} {c:Cod β} {m:Str} {sp:Nat→Sp} {E:XK} {R:RR ρ} {P:Pst ρ} {tz u v:TS} {i j:Nat}
theorem m5_of {e:Ep} (h:Ev Γ ta (cEx Y) e) (hm:m ∉ fldNames) {F H:Hp} {σ:L2.St} (S:Sl F H σ Γ) {Q:VK}
  (k:∀ v F1 H1,Ext F H F1 H1→exRep Y F1 v e→t σ H1 fun vs H2=>sp (clsI e) (v :: vs) H2 Q E):tM5 Y m sp E ta t σ H Q :=
 ⟨clsI e,clsI_lt e,h F H σ S _ fun v F1 H1 e1 r1=>by
  obtain ⟨a,dx,fs,rfl,ha,hl⟩:=ex_at r1
  refine ⟨a,dx,fs,rfl,e1.i a _ ha,hl m hm,?_⟩
  have k':=k _ F1 H1 e1 r1
  have e0:(fun (vs:List V) (H2:Hp)=>sp (clsI e) (.ref a :: (vs++[])) H2 Q E)=fun vs H2=>sp (clsI e) (.ref a :: vs) H2 Q E:=by
   funext vs H2;rw [List.append_nil]
  rw [e0];exact k'⟩
abbrev SpMF (Y:ExC) (ca:CodA α) (pre:Ep×α→Prop) (c:Cod β) (f:Ep×α→β):Nat→Sp:=fun k=>SpF (aCons (cEx Y) ca) (fun z=>clsI z.1=k∧pre z) c f
theorem ev_mF {e:Ep} {ca:CodA α} {a:α} {pre:Ep×α→Prop} {f:Ep×α→β} (h:Ev Γ ta (cEx Y) e) (ha:EvA Γ t ca a) (hp:pre (e,a)) (hm:m ∉ fldNames):Ev Γ (tM5 Y m (SpMF Y ca pre c f) E ta t) c (f (e,a)):=fun F H σ S Q q =>
 m5_of h hm S fun v F1 H1 e1 r1=>ha F1 H1 σ (S.grow e1) _ fun vs F2 H2 e2 r2=>⟨F2,(e,a),e2.i,⟨v,vs,rfl,exRep_mono e2.f _ _ r1,r2⟩,⟨rfl,hp⟩,fun w F' H' e3 r3=>q w F' H' ((e1.trans e2).trans e3) r3⟩
def EvX (Γ:Gam) (te:TE) (c:Cod β) (b:Option β) (C:Addr) (E:XK):Prop:=∀ F H σ,Sl F H σ Γ→∀ Q:VK,(∀ x v F' H',b=some x→Ext F H F' H'→c.rep F' v x→Q v H')→(b=none→∀ F' H',Ext F H F' H'→E (.ref C) none H')→te σ H Q
theorem evX_call {ca:CodA α} {a:α} {pre:α→Prop} {f:α→Option β} {C:Addr} (h:EvA Γ t ca a) (hp:pre a):EvX Γ (tCall (SpX ca pre c f C) [] E t) c (f a) C E:=fun F H σ S Q q qx =>
 h F H σ S _ fun vs F1 H1 e1 r1=>⟨F1,a,e1.i,by rw [List.append_nil];exact r1,hp,fun b v F' H' hb e2 r2=>q b v F' H' hb (e1.trans e2) r2,fun hn F' H' e2=>qx hn F' H' (e1.trans e2)⟩
def cFn (f:Addr):Cod Unit:=⟨fun _ v _=>v=.ref f,fun _ h=>h⟩
theorem evX_callL {f0:Addr} {ca:CodA α} {a:α} {pre:α→Prop} {f:α→Option β} {C:Addr} (hs:Γ[i]?=some (.val (cFn f0) ())) (h:EvA Γ t ca a) (hp:pre a):EvX Γ (tCallL i f0 (SpX ca pre c f C) [] E t) c (f a) C E:=fun F H σ S Q q qx=>by
 obtain ⟨v,h1,h2⟩:=S.var hs
 cases (show v=.ref f0 from h2)
 exact ⟨h1,h F H σ S _ fun vs F1 H1 e1 r1=>⟨F1,a,e1.i,by rw [List.append_nil];exact r1,hp,fun b v F' H' hb e2 r2=>q b v F' H' hb (e1.trans e2) r2,fun hn F' H' e2=>qx hn F' H' (e1.trans e2)⟩⟩
theorem sw_asgX {b:Option β} {C:Addr} (h:EvX Γ te c b C E) (hE:P.E=E) (k:∀ x,b=some x→P.nx (Γ.set i (.val c x))) (kx:b=none→P.ex C):SW R Γ (tAsg te (gName i)) P:=fun F0 H0 F H σ D S o =>
 h F H σ S.sl _ (fun x v F1 H1 hb e1 r1=>o.nx F1 H1 _ _ ((S.grow e1).setV r1) (k x hb)) fun hb F1 H1 e1=>by
  have:=o.ex C F1 H1 (kx hb) (S.grow e1).ext
  rw [hE] at this;exact this
theorem q_asgX {b:Option β} {C:Addr} (h:EvX Γ te c b C E) (hE:P.E=E) (k:∀ x,b=some x→SW R (Γ.set i (.val c x)) tz P) (kx:b=none→P.ex C):SW R Γ (tSeq (tAsg te (gName i)) tz) P:=sw_seq (sw_asgX h hE k kx)
theorem sw_un2X {γ:Type} {c2:Cod γ} {b:Option (β×γ)} {C:Addr} (h:EvX Γ te (cPair K c c2) b C E) (hE:P.E=E) (k:∀ x y,b=some (x,y)→P.nx ((Γ.set i (.val c x)).set j (.val c2 y))) (kx:b=none→P.ex C) :
  SW R Γ (tAsg te (gTup K 2 (gCons (gName i) (gCons (gName j) gNil)))) P:=fun F0 H0 F H σ D S o =>
 h F H σ S.sl _ (fun x v F1 H1 hb e1 r1=>by
  obtain ⟨a,vs,rfl,hs,x',_,rfl,hx,y,_,rfl,hy,h⟩:=r1
  cases (show _=[] from h)
  exact ⟨a,_,rfl,ex_t e1.i hs,rfl,x',_,rfl,y,_,rfl,rfl,o.nx F1 H1 _ _ (((S.grow e1).setV hx).setV hy) (k x.1 x.2 hb)⟩) fun hb F1 H1 e1=>by
  have:=o.ex C F1 H1 (kx hb) (S.grow e1).ext
  rw [hE] at this;exact this
theorem q_un2X {γ:Type} {c2:Cod γ} {b:Option (β×γ)} {C:Addr} (h:EvX Γ te (cPair K c c2) b C E) (hE:P.E=E) (k:∀ x y,b=some (x,y)→SW R ((Γ.set i (.val c x)).set j (.val c2 y)) tz P) (kx:b=none→P.ex C) :
  SW R Γ (tSeq (tAsg te (gTup K 2 (gCons (gName i) (gCons (gName j) gNil)))) tz) P:=sw_seq (sw_un2X h hE k kx)
theorem sw_retX {c:Cod ρ} {P:Pst ρ} {b:Option ρ} {C:Addr} (h:EvX Γ te c b C E) (hE:P.E=E) (k:∀ x,b=some x→P.rt x) (kx:b=none→P.ex C):SW (rVal c) Γ (tRet te) P:=fun F0 H0 F H σ D S o =>
 h F H σ S.sl _ (fun x v F1 H1 hb e1 r1=>o.rt F1 H1 v x (S.grow e1).ext r1 (k x hb)) fun hb F1 H1 e1=>by
  have:=o.ex C F1 H1 (kx hb) (S.grow e1).ext
  rw [hE] at this;exact this
end
end Pw
namespace Xp
open PySem L2
theorem tw_le {p:Nat→Bool}:∀ l:T,(l.takeWhile p).length≤l.length
 | []=>Nat.le_refl _
 | c :: l=>by
  by_cases h:p c=true
  ·rw [List.takeWhile_cons_of_pos h];simp;exact tw_le l
  ·rw [List.takeWhile_cons_of_neg h];simp
theorem tw_take {p:Nat→Bool}:∀ l:T,l.take (l.takeWhile p).length=l.takeWhile p
 | []=>rfl
 | c :: l=>by
  by_cases h:p c=true
  ·rw [List.takeWhile_cons_of_pos h,List.length_cons,List.take_succ_cons,tw_take l]
  ·rw [List.takeWhile_cons_of_neg h];rfl
theorem tw_all {p:Nat→Bool}:∀ l:T,∀ c∈l.takeWhile p,p c=true
 | [],c,h=>by simp at h
 | d :: l,c,h=>by
  by_cases hd:p d=true
  ·rw [List.takeWhile_cons_of_pos hd] at h
   rcases List.mem_cons.mp h with rfl | h
   ·exact hd
   ·exact tw_all l c h
  ·rw [List.takeWhile_cons_of_neg hd] at h;simp at h
theorem tw_at {p:Nat→Bool}:∀ (l:T) (x:Nat),x≤(l.takeWhile p).length→((decide (x < l.length)) && (p (l.getD x 0)))=decide (x < (l.takeWhile p).length)
 | [],x,h=>by simp
 | c :: l,0,h=>by
  by_cases hc:p c=true
  ·rw [List.takeWhile_cons_of_pos hc];simp [hc]
  ·rw [List.takeWhile_cons_of_neg hc];simpa using hc
 | c :: l,x+1,h=>by
  by_cases hc:p c=true
  ·rw [List.takeWhile_cons_of_pos hc] at h ⊢
   have:=tw_at l x (by simpa using h)
   simpa using this
  ·rw [List.takeWhile_cons_of_neg hc] at h;simp at h
theorem runL_some {p:Nat→Bool} {most:Nat} {l w:T} (h:runL p most l=some w):w=l.takeWhile p∧w≠[]∧w.length≤most∧w.length≤l.length∧(∀ c∈w,p c=true):=by
 unfold runL at h
 dsimp only at h
 by_cases q:l.takeWhile p=[]∨most < (l.takeWhile p).length
 ·rw [if_pos q] at h;cases h
 ·rw [if_neg q] at h;cases h
  exact ⟨rfl,fun z=>q (.inl z),Nat.le_of_not_lt fun z=>q (.inr z),tw_le l,tw_all l⟩
theorem wholeL_some {most:Nat} {l w:T} (h:wholeL most l=some w):w≠[]∧w.length≤most∧w.length≤l.length∧(∀ c∈w,isFig c=true):=by
 unfold wholeL at h
 cases q:runL isFig most l with
 | none=>rw [q] at h;cases h
 | some v =>
  rw [q] at h
  dsimp only at h
  by_cases z:1 < v.length∧v.head?=some 48
  ·rw [if_pos z] at h;cases h
  ·rw [if_neg z] at h;cases h
   exact (runL_some q).2
def Bd (p:Rd):Prop:=∀ l e n,p l=some (e,n)→n≤l.length
theorem atomL_bd {sub:Option Rd} (hs:∀ p,sub=some p→Bd p):Bd (atomL sub):=fun l e n h=>by
 unfold atomL at h
 by_cases h1:l.head?=some 40
 ·rw [if_pos h1] at h
  cases sub with
  | none=>cases h
  | some p =>
   dsimp only at h
   cases q:p (l.drop 1) with
   | none=>rw [q] at h;cases h
   | some r =>
    obtain ⟨f,m⟩:=r
    rw [q] at h
    dsimp only at h
    by_cases h2:(l.drop (1+m)).head?=some 41
    ·rw [if_pos h2] at h;cases h
     have:l.drop (1+m)≠[]:=fun z=>by rw [z] at h2;cases h2
     have:=List.length_pos_iff.mpr this
     rw [List.length_drop] at this;omega
    ·rw [if_neg h2] at h;cases h
 ·rw [if_neg h1] at h
  by_cases h2:l.head?.any isFig
  ·rw [if_pos h2] at h
   cases q:wholeL 30 l with
   | none=>rw [q] at h;cases h
   | some w=>rw [q] at h;cases h;exact (wholeL_some q).2.2.1
  ·rw [if_neg h2] at h
   cases q:runL isLet 8 l with
   | none=>rw [q] at h;cases h
   | some w=>rw [q] at h;cases h;exact (runL_some q).2.2.2.1
theorem powerL_bd {sub:Option Rd} (hs:Bd (atomL sub)):Bd (powerL sub):=fun l e n h=>by
 unfold powerL at h
 cases q:atomL sub l with
 | none=>rw [q] at h;cases h
 | some r =>
  obtain ⟨f,m⟩:=r
  rw [q] at h
  dsimp only at h
  by_cases h1:(l.drop m).head?=some 94
  ·rw [if_pos h1] at h
   cases q2:wholeL 2 (l.drop (m+1)) with
   | none=>rw [q2] at h;cases h
   | some w =>
    rw [q2] at h
    dsimp only at h
    by_cases h2:12 < valL w
    ·rw [if_pos h2] at h;cases h
    ·rw [if_neg h2] at h;cases h
     have h3:=(wholeL_some q2).2.2.1
     have h4:=(wholeL_some q2).1
     have:=List.length_pos_iff.mpr h4
     rw [List.length_drop] at h3;omega
  ·rw [if_neg h1] at h;cases h;exact hs _ _ _ q
theorem minuses_le (l:T):minuses l≤l.length:=tw_le l
theorem factorL_bd {sub:Option Rd} (hs:Bd (powerL sub)):Bd (factorL sub):=fun l e n h=>by
 unfold factorL at h
 by_cases h1:30 < minuses l
 ·rw [if_pos h1] at h;cases h
 ·rw [if_neg h1] at h
  cases q:powerL sub (l.drop (minuses l)) with
  | none=>rw [q] at h;cases h
  | some r =>
   rw [q] at h;cases h
   have:=hs _ _ _ q
   have:=minuses_le l
   rw [List.length_drop] at *;omega
theorem ahead_len {ss:List Nat} {l:T} {s:Nat} (h:ahead ss l=some s):3≤l.length:=by
 unfold ahead at h
 split at h
 ·simp
 ·cases h
theorem rowGo_bd {ss:List Nat} {p:Rd} (hp:Bd p):∀ (k:Nat) (l:T) (e:Ep) (n:Nat) (f:Ep) (m:Nat),rowGo ss p k l e n=some (f,m)→n≤m∧m≤n+l.length
 | 0,_,_,_,_,_,h=>by cases h
 | k+1,l,e,n,f,m,h=>by
  unfold rowGo at h
  cases ha:ahead ss l with
  | none=>rw [ha] at h;cases h;omega
  | some s =>
   rw [ha] at h
   dsimp only at h
   cases q:p (l.drop 3) with
   | none=>rw [q] at h;cases h
   | some r =>
    rw [q] at h
    dsimp only at h
    have h1:=hp _ _ _ q
    have h2:=rowGo_bd hp k _ _ _ _ _ h
    have h3:=ahead_len ha
    rw [List.length_drop] at h1 h2
    omega
theorem rowL_bd {ss:List Nat} {p:Rd} (hp:Bd p):Bd (rowL ss p):=fun l e n h=>by
 unfold rowL at h
 cases q:p l with
 | none=>rw [q] at h;cases h
 | some r =>
  rw [q] at h
  dsimp only at h
  have h1:=hp _ _ _ q
  have h2:=rowGo_bd hp _ _ _ _ _ _ h
  rw [List.length_drop] at h2;omega
theorem pS_bd:∀ r:Nat,Bd (pS r)∧Bd (atomL (subL r))∧Bd (powerL (subL r))∧Bd (factorL (subL r))∧Bd (termL (subL r)):=fun r=>by
 have go:∀ sub:Option Rd,(∀ p,sub=some p→Bd p)→Bd (sumL sub)∧Bd (atomL sub)∧Bd (powerL sub)∧Bd (factorL sub)∧Bd (termL sub):=fun sub hs=>by
  have h1:=atomL_bd hs
  have h2:=powerL_bd h1
  have h3:=factorL_bd h2
  have h4:Bd (termL sub):=rowL_bd h3
  exact ⟨rowL_bd h4,h1,h2,h3,h4⟩
 induction r with
 | zero=>exact go none fun p h=>by cases h
 | succ r ih=>exact go (some (pS r)) fun p h=>by cases h;exact ih.1
theorem valL_le:∀ (w:T) (a:Nat),(∀ c∈w,isFig c=true)→w.foldl (fun a c=>a*10+(c-48)) a < (a+1)*10^w.length
 | [],a,_=>by simp
 | c :: w,a,h=>by
  rw [List.foldl_cons]
  have hc:=h c List.mem_cons_self
  have:c-48≤9:=by unfold isFig at hc;simp at hc;omega
  have ih:=valL_le w (a*10+(c-48)) fun d hd=>h d (List.mem_cons_of_mem _ hd)
  refine Nat.lt_of_lt_of_le ih ?_
  rw [List.length_cons,Nat.pow_succ]
  have:a*10+(c-48)+1≤(a+1)*10:=by omega
  calc (a*10+(c-48)+1)*10^w.length≤((a+1)*10)*10^w.length:=Nat.mul_le_mul_right _ this
   _=(a+1)*(10^w.length*10):=by rw [Nat.mul_assoc,Nat.mul_comm 10]
theorem valL_lt {w:T} (h:∀ c∈w,isFig c=true):valL w < 10^w.length:=by
 have:=valL_le w 0 h
 simpa [valL] using this
end Xp
namespace Lw.X
open PySem PySem.Spec PyProof.Rows L2 Pw Xp
def figs:T:=[48,49,50,51,52,53,54,55,56,57]
def lets:T:=(List.range 26).map (97+·)
theorem figs_is:(fun c=>decide (c∈figs))=isFig:=by
 funext c
 have:c∈figs↔48≤c∧c≤57:=by unfold figs;simp;omega
 unfold isFig
 rw [←Bool.decide_and]
 exact decide_eq_decide.mpr this
theorem lets_is:(fun c=>decide (c∈lets))=isLet:=by
 funext c
 have:c∈lets↔97≤c∧c≤122:=by
  unfold lets;simp
  constructor
  ·rintro ⟨a,h1,h2⟩;omega
  ·rintro ⟨h1,h2⟩;exact ⟨c-97,by omega,by omega⟩
 unfold isLet
 rw [←Bool.decide_and]
 exact decide_eq_decide.mpr this
theorem getD_drop {l:T} {a x:Nat}:(l.drop a).getD x 0=l.getD (a+x) 0:=by
 rw [List.getD_eq_getElem?_getD,List.getD_eq_getElem?_getD,List.getElem?_drop]
def sp_run_of (K:PySem.W.Frag) (C:ExA):Sp:=SpX (aCons cT (aCons cInt (aCons cT (aCons cInt aNil)))) (fun a=>∃ n m:Nat,a.2.1=n∧a.2.2.2.1=m∧n≤a.1.length∧a.1.length≤1000) cT (fun a=>runL (fun c=>decide (c∈a.2.2.1)) a.2.2.2.1.toNat (a.1.drop a.2.1.toNat)) C.NoText
def t_run_of (K:PySem.W.Frag) (C:ExA) (E:XK):TS:=tSeq (tAsg (tVar 1) (gName 4)) (tSeq (tWhile (tAnd (tTest (tOp oLt (tVar 4) (tCB rLenS (tCons (tVar 0) tNil)))) (tTest (tOp (rInSign) (tOp (rIxS) (tVar 0) (tVar 4)) (tVar 2)))) (tAsg (tOp oAdd (tVar 4) (tC (.int 1))) (gName 4))) (tSeq (tIfS (tOr (tTest (tOp rEq (tVar 4) (tVar 1))) (tTest (tOp oGt (tOp oSub (tVar 4) (tVar 1)) (tVar 3)))) (tRaise C.NoText E) tNext) (tRet (tSl (rSlS) (tVar 0) (tPart (tVar 1)) (tPart (tVar 4))))))
theorem rd_run_of (K:PySem.W.Frag) (C:ExA) (E:XK) (text signs:T) (at_ most:Nat) (h1:at_≤text.length) (h2:text.length≤1000) :
  SW (rVal cT) [.val cT text,.val cInt (at_:Int),.val cT signs,.val cInt (most:Int),.any] (t_run_of K C E) (PX (runL (fun c=>decide (c∈signs)) most (text.drop at_)) C.NoText E):=by
 have hw:∃ w,w=(text.drop at_).takeWhile (fun c=>decide (c∈signs)):=⟨_,rfl⟩
 obtain ⟨w,hw⟩:=hw
 have hl:w.length≤text.length-at_:=by rw [hw,←List.length_drop];exact tw_le _
 have ht:(text.drop at_).take w.length=w:=by rw [hw];exact tw_take _
 unfold t_run_of
 refine q_asg' (ev_var rfl) ?_
 refine q_while (fun x:Nat=>[.val cT text,.val cInt (at_:Int),.val cT signs,.val cInt (most:Int),.val cInt ((at_+x:Nat):Int)]) (fun x=>x≤w.length) (fun x=>w.length-x) (fun x=>decide (x < w.length)) 0 (Wk.refl _) (Nat.zero_le _)
  (fun x hx=>evT_is (evT_and (evT_test (ev_lt (ev_var rfl) (ev_lenS (ev_var rfl) (by omega)))) fun h=>evT_test (ev_inSign (ev_ixSG (ev_var rfl) (ev_var rfl) ⟨by omega,of_decide_eq_true h⟩ (by omega)) (ev_var rfl))) ?_) (fun x hx hb=>?_) (fun x hx hb=>?_)
 ·have:=tw_at (p:=fun c=>decide (c∈signs)) (text.drop at_) x (by rw [←hw];exact hx)
  rw [←hw,getD_drop,List.length_drop] at this
  rw [←this,Int.toNat_natCast]
  congr 1
  exact decide_eq_decide.mpr (by omega)
 ·have hb:=of_decide_eq_true hb
  exact sw_asg (ev_is (ev_add (ev_var rfl) ev_int) (by omega)) ⟨x+1,Wk.refl _,hb,by omega⟩
 ·have hb:=of_decide_eq_false hb
  obtain rfl:x=w.length:=by omega
  refine q_when (evT_or (evT_test (ev_eqI (ev_var rfl) (ev_var rfl))) fun _=>evT_test (ev_gt (ev_sub (ev_var rfl) (ev_var rfl)) (ev_var rfl))) (fun hc=>?_) (fun hc=>?_)
  ·refine sw_raise rfl ⟨rfl,?_⟩
   rw [Bool.or_eq_true,decide_eq_true_eq,decide_eq_true_eq] at hc
   unfold runL
   rw [←hw,if_pos]
   rcases hc with hc | hc
   ·exact .inl (List.length_eq_zero_iff.mp (by omega))
   ·exact .inr (by omega)
  ·rw [Bool.or_eq_false_iff,decide_eq_false_iff_not,decide_eq_false_iff_not] at hc
   refine sw_ret (ev_is (ev_slS (ev_var rfl) (eo_some (ev_var rfl)) (eo_some (ev_var rfl)) (by omega) (by omega) (by omega)) (d':=w) ?_) ?_
   ·rw [Int.toNat_natCast,Int.toNat_natCast,Nat.add_sub_cancel_left];exact ht
   ·show runL _ _ _=some w
    unfold runL
    rw [←hw,if_neg]
    intro z
    rcases z with z | z
    ·rw [z] at hc;exact hc.1 (by simp)
    ·omega
def sp_whole_at (K:PySem.W.Frag) (C:ExA):Sp:=SpX (aCons cT (aCons cInt (aCons cInt aNil))) (fun a=>∃ n m:Nat,a.2.1=n∧a.2.2.1=m∧n≤a.1.length∧a.1.length≤1000) cT (fun a=>wholeL a.2.2.1.toNat (a.1.drop a.2.1.toNat)) C.NoText
def t_whole_at (K:PySem.W.Frag) (C:ExA) (E:XK):TS:=tSeq (tAsg (tCall (sp_run_of K C) [] E (tCons (tVar 0) (tCons (tVar 1) (tCons (tC (.str "0123456789")) (tCons (tVar 2) tNil))))) (gName 3)) (tSeq (tIfS (tAnd (tTest (tOp oGt (tCB rLenS (tCons (tVar 3) tNil)) (tC (.int 1)))) (tTest (tOp rEq (tOp (rIxS) (tVar 3) (tC (.int 0))) (tC (.str "0"))))) (tRaise C.NoText E) tNext) (tRet (tVar 3)))
theorem ev_figs {Γ:Gam}:Ev Γ (tC (.str "0123456789")) cT figs:=ev_t figs (by decide +kernel)
theorem ev_lets {Γ:Gam}:Ev Γ (tC (.str "abcdefghijklmnopqrstuvwxyz")) cT lets:=ev_t lets (by decide +kernel)
theorem rd_whole_at (K:PySem.W.Frag) (C:ExA) (E:XK) (text:T) (at_ most:Nat) (h1:at_≤text.length) (h2:text.length≤1000) :
  SW (rVal cT) [.val cT text,.val cInt (at_:Int),.val cInt (most:Int),.any] (t_whole_at K C E) (PX (wholeL most (text.drop at_)) C.NoText E):=by
 unfold t_whole_at
 have hr:wholeL most (text.drop at_)=match runL isFig most (text.drop at_) with | none=>none | some w=>if 1 < w.length∧w.head?=some 48 then none else some w:=rfl
 refine q_asgX (evX_call (ea_cons (ev_var rfl) (ea_cons (ev_var rfl) (ea_cons ev_figs (ea_cons (ev_var rfl) ea_nil)))) ⟨at_,most,rfl,rfl,h1,h2⟩) rfl (fun w hw=>?_) (fun hw=>?_)
 ·dsimp only at hw
  rw [figs_is,Int.toNat_natCast,Int.toNat_natCast] at hw
  have hs:=runL_some hw
  rw [hw] at hr
  dsimp only at hr
  have h0:=List.length_pos_iff.mpr hs.2.1
  rw [hr]
  refine q_when (evT_and (evT_test (ev_gt (ev_lenS (ev_var rfl) (by have:=hs.2.2.2.1;rw [List.length_drop] at this;omega)) ev_int)) fun _=>evT_test (ev_eqT (ev_ixSG (ev_var rfl) ev_int ⟨by omega,by omega⟩ (by have:=hs.2.2.2.1;rw [List.length_drop] at this;omega)) (ev_t [48] (by decide +kernel)))) (fun hc=>?_) (fun hc=>?_)
  ·rw [Bool.and_eq_true,decide_eq_true_eq,decide_eq_true_eq] at hc
   refine sw_raise rfl ⟨rfl,?_⟩
   rw [if_pos]
   refine ⟨by omega,?_⟩
   have:w.getD 0 0=48:=by simpa using hc.2
   cases w with
   | nil=>cases this
   | cons c w=>simpa using this
  ·refine sw_ret (ev_var rfl) ?_
   show _=some w
   rw [if_neg]
   rintro ⟨z1,z2⟩
   rw [Bool.and_eq_false_iff,decide_eq_false_iff_not,decide_eq_false_iff_not] at hc
   rcases hc with hc | hc
   ·omega
   ·cases w with
    | nil=>cases z2
    | cons c w=>exact hc (by simpa using z2)
 ·dsimp only at hw
  rw [figs_is,Int.toNat_natCast,Int.toNat_natCast] at hw
  rw [hw] at hr
  exact ⟨rfl,hr⟩
def sft (a:Nat) (q:Option (Ep×Nat)):Option (Ep×Int):=q.map fun q=>(q.1,((a+q.2:Nat):Int))
theorem sft_some {a:Nat} {q:Option (Ep×Nat)} {e:Ep} {z:Int} (h:sft a q=some (e,z)):∃ n,q=some (e,n)∧z=((a+n:Nat):Int):=by
 cases q with
 | none=>cases h
 | some q=>obtain ⟨f,n⟩:=q;simp only [sft,Option.map_some,Option.some.injEq,Prod.mk.injEq] at h;exact ⟨n,by rw [h.1],h.2.symm⟩
theorem sft_none {a:Nat} {q:Option (Ep×Nat)} (h:sft a q=none):q=none:=by
 cases q with
 | none=>rfl
 | some q=>cases h
def sp_rd (K:PySem.W.Frag) (Y:ExC) (C:ExA) (p:Rd) (r:Nat):Sp:=SpX (aCons cT (aCons cInt (aCons cInt aNil))) (fun a=>∃ n:Nat,a.2.1=n∧a.2.2.1=30-(r:Int)∧n≤a.1.length∧a.1.length≤1000) (cPair K (cEx Y) cInt) (fun a=>sft a.2.1.toNat (p (a.1.drop a.2.1.toNat))) C.NoText
theorem evX_rd {K:PySem.W.Frag} {Y:ExC} {C:ExA} {p:Rd} {r:Nat} {E:XK} {Γ:Gam} {ta tb tc:TE} {text:T} {n:Nat} {z d:Int} (h1:Ev Γ ta cT text) (h2:Ev Γ tb cInt z) (h3:Ev Γ tc cInt d) (hz:z=n) (hd:d=30-(r:Int)) (hn:n≤text.length) (hl:text.length≤1000) :
  EvX Γ (tCall (sp_rd K Y C p r) [] E (tCons ta (tCons tb (tCons tc tNil)))) (cPair K (cEx Y) cInt) (sft n (p (text.drop n))) C.NoText E:=by
 have:=evX_call (E:=E) (c:=cPair K (cEx Y) cInt) (f:=fun a:T×Int×Int×Unit=>sft a.2.1.toNat (p (a.1.drop a.2.1.toNat))) (C:=C.NoText) (pre:=fun a:T×Int×Int×Unit=>∃ n:Nat,a.2.1=n∧a.2.2.1=30-(r:Int)∧n≤a.1.length∧a.1.length≤1000) (ea_cons h1 (ea_cons h2 (ea_cons h3 ea_nil))) ⟨n,hz,hd,hn,hl⟩
 subst hz
 exact this
theorem evX_rdL {K:PySem.W.Frag} {Y:ExC} {C:ExA} {p:Rd} {r i:Nat} {E:XK} {Γ:Gam} {f0:Addr} {ta tb tc:TE} {text:T} {n:Nat} {z d:Int} (hs:Γ[i]?=some (.val (cFn f0) ())) (h1:Ev Γ ta cT text) (h2:Ev Γ tb cInt z) (h3:Ev Γ tc cInt d) (hz:z=n) (hd:d=30-(r:Int)) (hn:n≤text.length) (hl:text.length≤1000) :
  EvX Γ (tCallL i f0 (sp_rd K Y C p r) [] E (tCons ta (tCons tb (tCons tc tNil)))) (cPair K (cEx Y) cInt) (sft n (p (text.drop n))) C.NoText E:=by
 have:=evX_callL (E:=E) (c:=cPair K (cEx Y) cInt) (f:=fun a:T×Int×Int×Unit=>sft a.2.1.toNat (p (a.1.drop a.2.1.toNat))) (C:=C.NoText) (pre:=fun a:T×Int×Int×Unit=>∃ n:Nat,a.2.1=n∧a.2.2.1=30-(r:Int)∧n≤a.1.length∧a.1.length≤1000) hs (ea_cons h1 (ea_cons h2 (ea_cons h3 ea_nil))) ⟨n,hz,hd,hn,hl⟩
 subst hz
 exact this
theorem ev_sl1 {Γ:Gam} {ta tb tc:TE} {text:T} {n m:Nat} {z y:Int} (h:Ev Γ ta cT text) (h1:Ev Γ tb cInt z) (h2:Ev Γ tc cInt y) (hz:z=n) (hy:y=((n+m:Nat):Int)) (hl:text.length≤1000):Ev Γ (tSl rSlS ta (tPart tb) (tPart tc)) cT ((text.drop n).take m):=by
 subst hz;subst hy
 refine ev_is (ev_slS h (eo_some h1) (eo_some h2) (by omega) (by omega) (by omega)) ?_
 rw [Int.toNat_natCast,Int.toNat_natCast,Nat.add_sub_cancel_left]
theorem take1 {l:T} {c:Nat}:l.take 1=[c]↔l.head?=some c:=by
 cases l<;>simp
def t_atom_at0 (K:PySem.W.Frag) (C:ExA) (Y:ExC) (E:XK):TS:=tSeq (tAsg (tSl (rSlS) (tVar 0) (tPart (tVar 1)) (tPart (tOp oAdd (tVar 1) (tC (.int 1))))) (gName 3)) (tSeq (tIfS (tTest (tOp rEq (tVar 3) (tC (.str "(")))) (tSeq (tIfS (tTest (tOp rEq (tVar 2) (tC (.int 30)))) (tRaise C.NoText E) tNext) (tSeq (tNever) (tSeq (tIfS (tTest (tOp rNe (tSl (rSlS) (tVar 0) (tPart (tVar 1)) (tPart (tOp oAdd (tVar 1) (tC (.int 1))))) (tC (.str ")")))) (tRaise C.NoText E) tNext) (tRet (tTup (tCons (tVar 4) (tCons (tOp oAdd (tVar 1) (tC (.int 1))) tNil))))))) tNext) (tSeq (tIfS (tAnd (tTest (tOp rNe (tVar 3) (tC (.str "")))) (tTest (tOp (rInSign) (tVar 3) (tC (.str "0123456789"))))) (tSeq (tAsg (tCall (sp_whole_at K C) [] E (tCons (tVar 0) (tCons (tVar 1) (tCons (tC (.int 30)) tNil)))) (gName 5)) (tRet (tTup (tCons (tMake Y.Number (spIni Y.Number 1 mkNum) [] E0 (tCons (tCB rIntS (tCons (tVar 5) tNil)) tNil)) (tCons (tOp oAdd (tVar 1) (tCB rLenS (tCons (tVar 5) tNil))) tNil))))) tNext) (tSeq (tAsg (tCall (sp_run_of K C) [] E (tCons (tVar 0) (tCons (tVar 1) (tCons (tC (.str "abcdefghijklmnopqrstuvwxyz")) (tCons (tC (.int 8)) tNil))))) (gName 6)) (tRet (tTup (tCons (tMake Y.Name (spIni Y.Name 1 mkName) [] E0 (tCons (tVar 6) tNil)) (tCons (tOp oAdd (tVar 1) (tCB rLenS (tCons (tVar 6) tNil))) tNil)))))))
def t_atom_at (K:PySem.W.Frag) (C:ExA) (Y:ExC) (r:Nat) (E:XK):TS:=tSeq (tAsg (tSl (rSlS) (tVar 0) (tPart (tVar 1)) (tPart (tOp oAdd (tVar 1) (tC (.int 1))))) (gName 3)) (tSeq (tIfS (tTest (tOp rEq (tVar 3) (tC (.str "(")))) (tSeq (tIfS (tTest (tOp rEq (tVar 2) (tC (.int 30)))) (tRaise C.NoText E) tNext) (tSeq (tAsg (tCall (sp_rd K Y C (pS r) r) [] E (tCons (tVar 0) (tCons (tOp oAdd (tVar 1) (tC (.int 1))) (tCons (tOp oAdd (tVar 2) (tC (.int 1))) tNil)))) (gTup K 2 (gCons (gName 4) (gCons (gName 1) (gNil))))) (tSeq (tIfS (tTest (tOp rNe (tSl (rSlS) (tVar 0) (tPart (tVar 1)) (tPart (tOp oAdd (tVar 1) (tC (.int 1))))) (tC (.str ")")))) (tRaise C.NoText E) tNext) (tRet (tTup (tCons (tVar 4) (tCons (tOp oAdd (tVar 1) (tC (.int 1))) tNil))))))) tNext) (tSeq (tIfS (tAnd (tTest (tOp rNe (tVar 3) (tC (.str "")))) (tTest (tOp (rInSign) (tVar 3) (tC (.str "0123456789"))))) (tSeq (tAsg (tCall (sp_whole_at K C) [] E (tCons (tVar 0) (tCons (tVar 1) (tCons (tC (.int 30)) tNil)))) (gName 5)) (tRet (tTup (tCons (tMake Y.Number (spIni Y.Number 1 mkNum) [] E0 (tCons (tCB rIntS (tCons (tVar 5) tNil)) tNil)) (tCons (tOp oAdd (tVar 1) (tCB rLenS (tCons (tVar 5) tNil))) tNil))))) tNext) (tSeq (tAsg (tCall (sp_run_of K C) [] E (tCons (tVar 0) (tCons (tVar 1) (tCons (tC (.str "abcdefghijklmnopqrstuvwxyz")) (tCons (tC (.int 8)) tNil))))) (gName 6)) (tRet (tTup (tCons (tMake Y.Name (spIni Y.Name 1 mkName) [] E0 (tCons (tVar 6) tNil)) (tCons (tOp oAdd (tVar 1) (tCB rLenS (tCons (tVar 6) tNil))) tNil)))))))
theorem digit_val {w:T} (h:∀ c∈w,isFig c=true):w.all (fun c=>decide (48≤c) && decide (c≤57))=true:=List.all_eq_true.mpr fun c hc=>h c hc
theorem rd_atom_tail (K:PySem.W.Frag) (C:ExA) (Y:ExC) (E:XK) (sub:Option Rd) (text:T) (at_:Nat) (d:Int) (h1:at_≤text.length) (h2:text.length≤1000) (h40:(text.drop at_).head?≠some 40) :
  SW (rVal (cPair K (cEx Y) cInt)) [.val cT text,.val cInt (at_:Int),.val cInt d,.val cT ((text.drop at_).take 1),.any,.any,.any]
   (tSeq (tIfS (tAnd (tTest (tOp rNe (tVar 3) (tC (.str "")))) (tTest (tOp (rInSign) (tVar 3) (tC (.str "0123456789"))))) (tSeq (tAsg (tCall (sp_whole_at K C) [] E (tCons (tVar 0) (tCons (tVar 1) (tCons (tC (.int 30)) tNil)))) (gName 5)) (tRet (tTup (tCons (tMake Y.Number (spIni Y.Number 1 mkNum) [] E0 (tCons (tCB rIntS (tCons (tVar 5) tNil)) tNil)) (tCons (tOp oAdd (tVar 1) (tCB rLenS (tCons (tVar 5) tNil))) tNil))))) tNext) (tSeq (tAsg (tCall (sp_run_of K C) [] E (tCons (tVar 0) (tCons (tVar 1) (tCons (tC (.str "abcdefghijklmnopqrstuvwxyz")) (tCons (tC (.int 8)) tNil))))) (gName 6)) (tRet (tTup (tCons (tMake Y.Name (spIni Y.Name 1 mkName) [] E0 (tCons (tVar 6) tNil)) (tCons (tOp oAdd (tVar 1) (tCB rLenS (tCons (tVar 6) tNil))) tNil)))))) (PX (sft at_ (atomL sub (text.drop at_))) C.NoText E):=by
 have hat:atomL sub (text.drop at_)=if (text.drop at_).head?.any isFig then (match wholeL 30 (text.drop at_) with | none=>none | some w=>some (.num (valL w),w.length)) else match runL isLet 8 (text.drop at_) with | none=>none | some w=>some (.name w,w.length):=by
  unfold atomL;rw [if_neg h40];try rfl
 refine q_when (b:=(text.drop at_).head?.any isFig) (evT_is (b:=!decide ((text.drop at_).take 1=[]) && (match (text.drop at_) with | []=>false | c :: _=>decide (c∈figs))) (evT_and (evT_test (ev_neT (ev_var rfl) (ev_t [] (by decide +kernel)))) fun h=>?_) ?_) (fun hb=>?_) (fun hb=>?_)
 ·cases hl:text.drop at_ with
  | nil=>rw [hl] at h;simp at h
  | cons c l=>exact evT_test (ev_inSign (x:=c) (by rw [show [c]=(c :: l).take 1 from rfl];exact ev_var rfl) ev_figs)
 ·cases hl:text.drop at_ with
  | nil=>rfl
  | cons c l=>rw [←figs_is];simp
 ·rw [hat,if_pos hb]
  refine q_asgX (evX_call (ea_cons (ev_var rfl) (ea_cons (ev_var rfl) (ea_cons ev_int ea_nil))) ⟨at_,30,rfl,rfl,h1,h2⟩) rfl (fun w hw=>?_) (fun hw=>?_)
  ·dsimp only at hw
   rw [Int.toNat_natCast,show (30:Int).toNat=30 from rfl] at hw
   have hs:=wholeL_some hw
   rw [hw]
   dsimp only
   refine sw_ret (ev_is (ev_pair (K:=K) (ev_mkNum (n:=valL w) (ev_intS (ev_var rfl) (digit_val hs.2.2.2) hs.1 (by omega))) (ev_add (ev_var rfl) (ev_lenS (ev_var rfl) (by omega)))) (d':=(Ep.num (valL w),((at_+w.length:Nat):Int))) rfl) rfl
  ·dsimp only at hw
   rw [Int.toNat_natCast,show (30:Int).toNat=30 from rfl] at hw
   rw [hw];exact ⟨rfl,rfl⟩
 ·rw [hat,if_neg (by rw [hb];decide)]
  refine q_asgX (evX_call (ea_cons (ev_var rfl) (ea_cons (ev_var rfl) (ea_cons ev_lets (ea_cons ev_int ea_nil)))) ⟨at_,8,rfl,rfl,h1,h2⟩) rfl (fun w hw=>?_) (fun hw=>?_)
  ·dsimp only at hw
   rw [Int.toNat_natCast,show (8:Int).toNat=8 from rfl,lets_is] at hw
   have hs:=runL_some hw
   rw [hw]
   dsimp only
   refine sw_ret (ev_is (ev_pair (K:=K) (ev_mkName (ev_var rfl)) (ev_add (ev_var rfl) (ev_lenS (ev_var rfl) (by omega)))) (d':=(Ep.name w,((at_+w.length:Nat):Int))) rfl) rfl
  ·dsimp only at hw
   rw [Int.toNat_natCast,show (8:Int).toNat=8 from rfl,lets_is] at hw
   rw [hw];exact ⟨rfl,rfl⟩
theorem rd_atom_at0 (K:PySem.W.Frag) (C:ExA) (Y:ExC) (E:XK) (text:T) (at_:Nat) (h1:at_≤text.length) (h2:text.length≤1000) :
  SW (rVal (cPair K (cEx Y) cInt)) [.val cT text,.val cInt (at_:Int),.val cInt (30-((0:Nat):Int)),.any,.any,.any,.any] (t_atom_at0 K C Y E) (PX (sft at_ (atomL (subL 0) (text.drop at_))) C.NoText E):=by
 unfold t_atom_at0
 refine q_asg' (ev_sl1 (n:=at_) (m:=1) (ev_var rfl) (ev_var rfl) (ev_add (ev_var rfl) ev_int) rfl (by omega) h2) ?_
 refine q_when (evT_test (ev_eqT (ev_var rfl) (ev_t [40] (by decide +kernel)))) (fun hb=>?_) (fun hb=>?_)
 ·have hb:=take1.mp (of_decide_eq_true hb)
  refine q_when (evT_test (ev_eqI (ev_var rfl) ev_int)) (fun hc=>?_) (fun hc=>?_)
  ·refine sw_raise rfl ⟨rfl,?_⟩
   unfold atomL;rw [if_pos hb];rfl
  ·exact absurd rfl (of_decide_eq_false hc)
 ·exact rd_atom_tail K C Y E _ text at_ _ h1 h2 fun z=>of_decide_eq_false hb (take1.mpr z)
theorem rd_atom_at (K:PySem.W.Frag) (C:ExA) (Y:ExC) (r:Nat) (E:XK) (text:T) (at_:Nat) (h1:at_≤text.length) (h2:text.length≤1000) :
  SW (rVal (cPair K (cEx Y) cInt)) [.val cT text,.val cInt (at_:Int),.val cInt (30-((r+1:Nat):Int)),.any,.any,.any,.any] (t_atom_at K C Y r E) (PX (sft at_ (atomL (subL (r+1)) (text.drop at_))) C.NoText E):=by
 unfold t_atom_at
 refine q_asg' (ev_sl1 (n:=at_) (m:=1) (ev_var rfl) (ev_var rfl) (ev_add (ev_var rfl) ev_int) rfl (by omega) h2) ?_
 refine q_when (evT_test (ev_eqT (ev_var rfl) (ev_t [40] (by decide +kernel)))) (fun hb=>?_) (fun hb=>?_)
 ·have hb:=take1.mp (of_decide_eq_true hb)
  have hat:atomL (subL (r+1)) (text.drop at_)=match pS r ((text.drop at_).drop 1) with | none=>none | some (e,n)=>if ((text.drop at_).drop (1+n)).head?=some 41 then some (e,1+n+1) else none:=by
   unfold atomL;rw [if_pos hb];rfl
  rw [List.drop_drop] at hat
  have hlt:at_+1≤text.length:=by
   have:text.drop at_≠[]:=fun z=>by rw [z] at hb;cases hb
   have:=List.length_pos_iff.mpr this
   rw [List.length_drop] at this;omega
  refine q_when (evT_test (ev_eqI (ev_var rfl) ev_int)) (fun hc=>?_) (fun hc=>?_)
  ·have:=of_decide_eq_true hc;omega
  ·refine q_un2X (evX_rd (n:=at_+1) (ev_var rfl) (ev_add (ev_var rfl) ev_int) (ev_add (ev_var rfl) ev_int) (by omega) (by omega) hlt h2) rfl (fun e z he=>?_) (fun he=>?_)
   ·obtain ⟨n,hn,rfl⟩:=sft_some he
    rw [hn] at hat
    dsimp only at hat
    rw [List.drop_drop] at hat
    have hbd:=(pS_bd r).1 _ _ _ hn
    rw [List.length_drop] at hbd
    refine q_when (evT_test (ev_neT (ev_sl1 (n:=at_+1+n) (m:=1) (ev_var rfl) (ev_var rfl) (ev_add (ev_var rfl) ev_int) rfl (by omega) h2) (ev_t [41] (by decide +kernel)))) (fun hd=>?_) (fun hd=>?_)
    ·refine sw_raise rfl ⟨rfl,?_⟩
     rw [hat,if_neg]
     ·rfl
     ·intro z
      rw [←Nat.add_assoc] at z
      simp only [Bool.not_eq_true',decide_eq_false_iff_not] at hd
      exact hd (take1.mpr z)
    ·simp only [Bool.not_eq_false',decide_eq_true_eq] at hd
     have z:=take1.mp hd
     rw [Nat.add_assoc] at z
     rw [hat,if_pos z]
     refine sw_ret (ev_is (ev_pair (K:=K) (ev_var rfl) (ev_add (ev_var rfl) ev_int)) (d':=(e,((at_+(1+n+1):Nat):Int))) (by congr 1;omega)) rfl
   ·rw [sft_none he] at hat
    rw [hat];exact ⟨rfl,rfl⟩
 ·exact rd_atom_tail K C Y E _ text at_ _ h1 h2 fun z=>of_decide_eq_false hb (take1.mpr z)
def t_power_at (K:PySem.W.Frag) (C:ExA) (Y:ExC) (r:Nat) (E:XK):TS:=tSeq (tAsg (tCall (sp_rd K Y C (atomL (subL r)) r) [] E (tCons (tVar 0) (tCons (tVar 1) (tCons (tVar 2) tNil)))) (gTup K 2 (gCons (gName 3) (gCons (gName 1) (gNil))))) (tSeq (tIfS (tTest (tOp rNe (tSl (rSlS) (tVar 0) (tPart (tVar 1)) (tPart (tOp oAdd (tVar 1) (tC (.int 1))))) (tC (.str "^")))) (tRet (tTup (tCons (tVar 3) (tCons (tVar 1) tNil)))) tNext) (tSeq (tAsg (tCall (sp_whole_at K C) [] E (tCons (tVar 0) (tCons (tOp oAdd (tVar 1) (tC (.int 1))) (tCons (tC (.int 2)) tNil)))) (gName 4)) (tSeq (tIfS (tTest (tOp oGt (tCB rIntS (tCons (tVar 4) tNil)) (tC (.int 12)))) (tRaise C.NoText E) tNext) (tRet (tTup (tCons (tMake Y.Power (spIni Y.Power 2 mkPow) [] E0 (tCons (tVar 3) (tCons (tCB rIntS (tCons (tVar 4) tNil)) tNil))) (tCons (tOp oAdd (tOp oAdd (tVar 1) (tC (.int 1))) (tCB rLenS (tCons (tVar 4) tNil))) tNil)))))))
theorem rd_power_at (K:PySem.W.Frag) (C:ExA) (Y:ExC) (r:Nat) (E:XK) (text:T) (at_:Nat) (h1:at_≤text.length) (h2:text.length≤1000) :
  SW (rVal (cPair K (cEx Y) cInt)) [.val cT text,.val cInt (at_:Int),.val cInt (30-(r:Int)),.any,.any] (t_power_at K C Y r E) (PX (sft at_ (powerL (subL r) (text.drop at_))) C.NoText E):=by
 have hat:powerL (subL r) (text.drop at_)=match atomL (subL r) (text.drop at_) with
  | none=>none
  | some (e,n)=>if ((text.drop at_).drop n).head?=some 94 then (match wholeL 2 ((text.drop at_).drop (n+1)) with | none=>none | some w=>if 12 < valL w then none else some (.pow e (valL w),n+1+w.length)) else some (e,n):=rfl
 unfold t_power_at
 refine q_un2X (evX_rd (n:=at_) (ev_var rfl) (ev_var rfl) (ev_var rfl) rfl rfl h1 h2) rfl (fun e z he=>?_) (fun he=>?_)
 ·obtain ⟨n,hn,rfl⟩:=sft_some he
  have hbd:=(pS_bd r).2.1 _ _ _ hn
  rw [List.length_drop] at hbd
  rw [hn] at hat
  dsimp only at hat
  rw [List.drop_drop,List.drop_drop] at hat
  refine q_when (evT_test (ev_neT (ev_sl1 (n:=at_+n) (m:=1) (ev_var rfl) (ev_var rfl) (ev_add (ev_var rfl) ev_int) rfl (by omega) h2) (ev_t [94] (by decide +kernel)))) (fun hd=>?_) (fun hd=>?_)
  ·simp only [Bool.not_eq_true',decide_eq_false_iff_not] at hd
   rw [if_neg (fun z=>hd (take1.mpr z))] at hat
   rw [hat]
   exact sw_ret (ev_pair (K:=K) (ev_var rfl) (ev_var rfl)) rfl
  ·simp only [Bool.not_eq_false',decide_eq_true_eq] at hd
   have hh:=take1.mp hd
   rw [if_pos hh] at hat
   have hlt:at_+n+1≤text.length:=by
    have:text.drop (at_+n)≠[]:=fun z=>by rw [z] at hh;cases hh
    have:=List.length_pos_iff.mpr this
    rw [List.length_drop] at this;omega
   refine q_asgX (evX_call (ea_cons (ev_var rfl) (ea_cons (ev_add (ev_var rfl) ev_int) (ea_cons ev_int ea_nil))) ⟨at_+n+1,2,by show ((at_+n:Nat):Int)+1=((at_+n+1:Nat):Int);omega,rfl,hlt,h2⟩) rfl (fun w hw=>?_) (fun hw=>?_)
   ·dsimp only at hw
    rw [show (((at_+n:Nat):Int)+1).toNat=at_+(n+1) from by omega,show (2:Int).toNat=2 from rfl] at hw
    have hs:=wholeL_some hw
    rw [hw] at hat
    dsimp only at hat
    have ei:∀ {Γ:Gam} {ta:TE},Ev Γ ta cT w→Ev Γ (tCB rIntS (tCons ta tNil)) cInt ((valL w:Nat):Int):=fun h=>ev_intS h (digit_val hs.2.2.2) hs.1 (by omega)
    refine q_when (evT_test (ev_gt (ei (ev_var rfl)) ev_int)) (fun hc=>?_) (fun hc=>?_)
    ·have hc:=of_decide_eq_true hc
     refine sw_raise rfl ⟨rfl,?_⟩
     rw [hat,if_pos (by omega)];rfl
    ·have hc:=of_decide_eq_false hc
     rw [hat,if_neg (by omega)]
     refine sw_ret (ev_is (ev_pair (K:=K) (ev_mkPow (ev_var rfl) (ei (ev_var rfl))) (ev_add (ev_add (ev_var rfl) ev_int) (ev_lenS (ev_var rfl) (by omega)))) (d':=(Ep.pow e (valL w),((at_+(n+1+w.length):Nat):Int))) (by congr 1;omega)) rfl
   ·dsimp only at hw
    rw [show (((at_+n:Nat):Int)+1).toNat=at_+(n+1) from by omega,show (2:Int).toNat=2 from rfl] at hw
    rw [hw] at hat
    rw [hat];exact ⟨rfl,rfl⟩
 ·rw [sft_none he] at hat
  rw [hat];exact ⟨rfl,rfl⟩
def t_factor_at (K:PySem.W.Frag) (C:ExA) (Y:ExC) (r:Nat) (E:XK):TS:=tSeq (tAsg (tC (.int 0)) (gName 3)) (tSeq (tWhile (tTest (tOp rEq (tSl (rSlS) (tVar 0) (tPart (tVar 1)) (tPart (tOp oAdd (tVar 1) (tC (.int 1))))) (tC (.str "-")))) (tSeq (tAsg (tOp oAdd (tVar 3) (tC (.int 1))) (gName 3)) (tAsg (tOp oAdd (tVar 1) (tC (.int 1))) (gName 1)))) (tSeq (tIfS (tTest (tOp oGt (tVar 3) (tC (.int 30)))) (tRaise C.NoText E) tNext) (tSeq (tAsg (tCall (sp_rd K Y C (powerL (subL r)) r) [] E (tCons (tVar 0) (tCons (tVar 1) (tCons (tVar 2) tNil)))) (gTup K 2 (gCons (gName 4) (gCons (gName 1) (gNil))))) (tSeq (tFor (iRng1 (tCons (tVar 3) tNil)) (gName 5) (tAsg (tMake Y.Less (spIni Y.Less 1 mkLess) [] E0 (tCons (tVar 4) tNil)) (gName 4))) (tRet (tTup (tCons (tVar 4) (tCons (tVar 1) tNil))))))))
theorem rd_factor_at (K:PySem.W.Frag) (C:ExA) (Y:ExC) (r:Nat) (E:XK) (text:T) (at_:Nat) (h1:at_≤text.length) (h2:text.length≤1000) :
  SW (rVal (cPair K (cEx Y) cInt)) [.val cT text,.val cInt (at_:Int),.val cInt (30-(r:Int)),.any,.any,.any] (t_factor_at K C Y r E) (PX (sft at_ (factorL (subL r) (text.drop at_))) C.NoText E):=by
 have hw:∃ k,k=minuses (text.drop at_):=⟨_,rfl⟩
 obtain ⟨k,hk⟩:=hw
 have hkl:k≤text.length-at_:=by rw [hk,←List.length_drop];exact minuses_le _
 have hat:factorL (subL r) (text.drop at_)=if 30 < k then none else match powerL (subL r) ((text.drop at_).drop k) with
  | none=>none
  | some (e,n)=>some (lessN k e,k+n):=by rw [hk];rfl
 rw [List.drop_drop] at hat
 unfold t_factor_at
 refine q_asg' ev_int ?_
 refine q_while (fun x:Nat=>[.val cT text,.val cInt ((at_+x:Nat):Int),.val cInt (30-(r:Int)),.val cInt (x:Int),.any,.any]) (fun x=>x≤k) (fun x=>k-x) (fun x=>decide (x < k)) 0 (Wk.refl _) (Nat.zero_le _)
  (fun x hx=>evT_is (evT_test (ev_eqT (ev_sl1 (n:=at_+x) (m:=1) (ev_var rfl) (ev_var rfl) (ev_add (ev_var rfl) ev_int) rfl (by omega) h2) (ev_t [45] (by decide +kernel)))) ?_) (fun x hx hb=>?_) (fun x hx hb=>?_)
 ·have h3:=tw_at (p:=fun c=>c == 45) (text.drop at_) x (by unfold minuses at hk;rw [←hk];exact hx)
  unfold minuses at hk
  rw [←hk] at h3
  rw [←h3,getD_drop,←List.drop_drop]
  by_cases hlt:x < (text.drop at_).length
  ·rw [decide_eq_true hlt,Bool.true_and,List.drop_eq_getElem_cons hlt]
   have:text.getD (at_+x) 0=(text.drop at_)[x]:=by rw [←getD_drop,List.getD_eq_getElem?_getD,List.getElem?_eq_getElem hlt];rfl
   rw [this];simp
   by_cases z:(text.drop at_)[x]=45
   ·rw [List.getElem_drop] at z;rw [z];rfl
   ·rw [List.getElem_drop] at z;rw [decide_eq_false z];symm;simpa using z
  ·rw [decide_eq_false hlt,Bool.false_and,List.drop_of_length_le (by omega)];rfl
 ·have hb:=of_decide_eq_true hb
  refine q_asg' (ev_is (ev_add (ev_var rfl) ev_int) (d':=((x+1:Nat):Int)) (by omega)) ?_
  exact sw_asg (ev_is (ev_add (ev_var rfl) ev_int) (d':=((at_+(x+1):Nat):Int)) (by omega)) ⟨x+1,Wk.refl _,hb,by omega⟩
 ·have hb:=of_decide_eq_false hb
  obtain rfl:x=k:=by omega
  refine q_when (evT_test (ev_gt (ev_var rfl) ev_int)) (fun hc=>?_) (fun hc=>?_)
  ·have hc:=of_decide_eq_true hc
   refine sw_raise rfl ⟨rfl,?_⟩
   rw [hat,if_pos (by omega)];rfl
  ·have hc:=of_decide_eq_false hc
   rw [if_neg (by omega)] at hat
   refine q_un2X (evX_rd (n:=at_+x) (ev_var rfl) (ev_var rfl) (ev_var rfl) rfl rfl (by omega) h2) rfl (fun e z he=>?_) (fun he=>?_)
   ·obtain ⟨n,hn,rfl⟩:=sft_some he
    rw [hn] at hat
    dsimp only at hat
    rw [hat]
    refine q_forR1G (fun i=>[.val cT text,.val cInt ((at_+x+n:Nat):Int),.val cInt (30-(r:Int)),.val cInt (x:Int),.val (cEx Y) (lessN i e),.any]) (ev_var rfl) (by omega) (by omega) (.same (.same (.same (.same (.same (.any .nil)))))) (fun i hi=>?_) ?_
    ·exact sw_asg (ev_mkLess (ev_var rfl)) (.same (.same (.same (.same (.same (.any .nil))))))
    ·rw [Int.toNat_natCast]
     exact sw_ret (ev_is (ev_pair (K:=K) (ev_var rfl) (ev_var rfl)) (d':=(lessN x e,((at_+(x+n):Nat):Int))) (by congr 1;omega)) rfl
   ·rw [sft_none he] at hat
    rw [hat];exact ⟨rfl,rfl⟩
def sp_row (K:PySem.W.Frag) (Y:ExC) (C:ExA) (f0:Addr) (ss:List Nat) (p:Rd) (r:Nat):Sp:=SpX (aCons cT (aCons cInt (aCons cInt (aCons (cTupL K cT) (aCons (cFn f0) aNil))))) (fun a=>∃ n:Nat,a.2.1=n∧a.2.2.1=30-(r:Int)∧a.2.2.2.1=ss.map (fun s=>[s])∧n≤a.1.length∧a.1.length≤1000)
 (cPair K (cEx Y) cInt) (fun a=>sft a.2.1.toNat (rowL ss p (a.1.drop a.2.1.toNat))) C.NoText
def t_row_at (K:PySem.W.Frag) (Y:ExC) (f0:Addr) (sp0:Sp) (E:XK):TS:=tSeq (tAsg (tCallL 4 f0 sp0 [] E (tCons (tVar 0) (tCons (tVar 1) (tCons (tVar 2) tNil)))) (gTup K 2 (gCons (gName 5) (gCons (gName 1) (gNil))))) (tSeq (tWhile (tAnd (tTest (tOp rEq (tSl (rSlS) (tVar 0) (tPart (tVar 1)) (tPart (tOp oAdd (tVar 1) (tC (.int 1))))) (tC (.str " ")))) (tAnd (tTest (tOp (rIn K false) (tSl (rSlS) (tVar 0) (tPart (tOp oAdd (tVar 1) (tC (.int 1)))) (tPart (tOp oAdd (tVar 1) (tC (.int 2))))) (tVar 3))) (tTest (tOp rEq (tSl (rSlS) (tVar 0) (tPart (tOp oAdd (tVar 1) (tC (.int 2)))) (tPart (tOp oAdd (tVar 1) (tC (.int 3))))) (tC (.str " ")))))) (tSeq (tAsg (tOp (rIxS) (tVar 0) (tOp oAdd (tVar 1) (tC (.int 1)))) (gName 6)) (tSeq (tAsg (tCallL 4 f0 sp0 [] E (tCons (tVar 0) (tCons (tOp oAdd (tVar 1) (tC (.int 3))) (tCons (tVar 2) tNil)))) (gTup K 2 (gCons (gName 7) (gCons (gName 1) (gNil))))) (tAsg (tMake Y.Two (spIni Y.Two 3 mkTwo) [] E0 (tCons (tVar 6) (tCons (tVar 5) (tCons (tVar 7) tNil)))) (gName 5))))) (tRet (tTup (tCons (tVar 5) (tCons (tVar 1) tNil)))))
theorem ahead_t {ss:List Nat} {l:T}:(decide (l.take 1=[32]) && (decide ((l.drop 1).take 1∈ss.map (fun s=>[s])) && decide ((l.drop 2).take 1=[32])))=(ahead ss l).isSome∧∀ s,ahead ss l=some s→l.getD 1 0=s∧3≤l.length:=by
 match l with
 | []=>exact ⟨rfl,fun s h=>by cases h⟩
 | [a] =>
  refine ⟨?_,fun s h=>?_⟩
  ·have:ahead ss [a]=none:=by unfold ahead;split<;>first | rfl | (rename_i h;cases h)
   rw [this];simp
  ·unfold ahead at h;split at h
   ·rename_i h';cases h'
   ·cases h
 | [a,b] =>
  refine ⟨?_,fun s h=>?_⟩
  ·have:ahead ss [a,b]=none:=by unfold ahead;split<;>first | rfl | (rename_i h;cases h)
   rw [this];simp
  ·unfold ahead at h;split at h
   ·rename_i h';cases h'
   ·cases h
 | a :: b :: c :: l =>
  refine ⟨?_,fun s h=>?_⟩
  ·by_cases h1:a=32
   ·by_cases h2:c=32
    ·subst h1;subst h2
     show _=(if b∈ss then some b else none).isSome
     by_cases h3:b∈ss
     ·rw [if_pos h3];simp [h3]
     ·rw [if_neg h3];simp [h3]
    ·have:ahead ss (a :: b :: c :: l)=none:=by
      unfold ahead;split
      ·rename_i h;cases h;exact absurd rfl h2
      ·rfl
     rw [this];simp [h2]
   ·have:ahead ss (a :: b :: c :: l)=none:=by
     unfold ahead;split
     ·rename_i h;cases h;exact absurd rfl h1
     ·rfl
    rw [this];simp [h1]
  ·unfold ahead at h;split at h
   ·rename_i h';cases h'
    split at h
    ·cases h;exact ⟨rfl,by simp⟩
    ·cases h
   ·cases h
theorem rd_row_at (K:PySem.W.Frag) (C:ExA) (Y:ExC) (f0:Addr) (ss:List Nat) (p:Rd) (hp:Bd p) (r:Nat) (E:XK) (text:T) (at_:Nat) (h1:at_≤text.length) (h2:text.length≤1000) :
  SW (rVal (cPair K (cEx Y) cInt)) [.val cT text,.val cInt (at_:Int),.val cInt (30-(r:Int)),.val (cTupL K cT) (ss.map (fun s=>[s])),.val (cFn f0) (),.any,.any,.any] (t_row_at K Y f0 (sp_rd K Y C p r) E) (PX (sft at_ (rowL ss p (text.drop at_))) C.NoText E):=by
 have hat:rowL ss p (text.drop at_)=match p (text.drop at_) with
  | none=>none
  | some (e,n)=>rowGo ss p ((text.drop at_).length+1) ((text.drop at_).drop n) e n:=rfl
 unfold t_row_at
 refine q_un2X (evX_rdL (n:=at_) rfl (ev_var rfl) (ev_var rfl) (ev_var rfl) rfl rfl h1 h2) rfl (fun e z he=>?_) (fun he=>?_)
 ·obtain ⟨n,hn,rfl⟩:=sft_some he
  have hbd:=hp _ _ _ hn
  rw [List.length_drop] at hbd
  rw [hn] at hat
  dsimp only at hat
  rw [List.drop_drop] at hat
  refine q_while (fun x:Nat×Ep×Nat=>[.val cT text,.val cInt ((at_+x.2.2:Nat):Int),.val cInt (30-(r:Int)),.val (cTupL K cT) (ss.map (fun s=>[s])),.val (cFn f0) (),.val (cEx Y) x.2.1,.any,.any])
   (fun x=>at_+x.2.2≤text.length∧text.length < at_+x.2.2+x.1∧rowL ss p (text.drop at_)=rowGo ss p x.1 (text.drop (at_+x.2.2)) x.2.1 x.2.2) (fun x=>x.1) (fun x=>(ahead ss (text.drop (at_+x.2.2))).isSome) ((text.drop at_).length+1,e,n)
   (.same (.same (.same (.same (.same (.same (.any (.any .nil)))))))) ⟨by dsimp only;omega,by dsimp only;rw [List.length_drop];omega,hat⟩ (fun x hx=>?_) (fun x hx hb=>?_) (fun x hx hb=>?_)
  ·obtain ⟨k,f,m⟩:=x
   obtain ⟨hx1,hx2,hx3⟩:=hx
   dsimp only at hx1 hx2 hx3 ⊢
   refine evT_is (evT_and (evT_test (ev_eqT (ev_sl1 (n:=at_+m) (m:=1) (ev_var rfl) (ev_var rfl) (ev_add (ev_var rfl) ev_int) rfl (by omega) h2) (ev_t [32] (by decide +kernel)))) fun _=>evT_and (evT_test (ev_inTT (ev_sl1 (n:=at_+m+1) (m:=1) (ev_var rfl) (ev_add (ev_var rfl) ev_int) (ev_add (ev_var rfl) ev_int) (by omega) (by omega) h2) (ev_var rfl))) fun _ =>
    evT_test (ev_eqT (ev_sl1 (n:=at_+m+2) (m:=1) (ev_var rfl) (ev_add (ev_var rfl) ev_int) (ev_add (ev_var rfl) ev_int) (by omega) (by omega) h2) (ev_t [32] (by decide +kernel)))) ?_
   rw [←ahead_t.1,List.drop_drop,List.drop_drop]
  ·obtain ⟨k,f,m⟩:=x
   obtain ⟨hx1,hx2,hx3⟩:=hx
   dsimp only at hx1 hx2 hx3 hb ⊢
   obtain ⟨s,hs⟩:=Option.isSome_iff_exists.mp hb
   obtain ⟨hs1,hs2⟩:=ahead_t.2 s hs
   rw [getD_drop] at hs1
   rw [List.length_drop] at hs2
   obtain ⟨j,rfl⟩:∃ j,k=j+1:=⟨k-1,by omega⟩
   rw [rowGo,hs] at hx3
   dsimp only at hx3
   rw [List.drop_drop] at hx3
   refine q_asg' (ev_is (ev_ixSG (ev_var rfl) (ev_add (ev_var rfl) ev_int) ⟨by omega,by omega⟩ (by omega)) (d':=[s]) (by rw [show (((at_+m:Nat):Int)+1).toNat=at_+m+1 from by omega,hs1])) ?_
   refine q_un2X (evX_rdL (n:=at_+m+3) rfl (ev_var rfl) (ev_add (ev_var rfl) ev_int) (ev_var rfl) (by omega) rfl (by omega) h2) rfl (fun g z hg=>?_) (fun hg=>?_)
   ·obtain ⟨q,hq,rfl⟩:=sft_some hg
    have hbq:=hp _ _ _ hq
    rw [List.length_drop] at hbq
    rw [hq] at hx3
    dsimp only at hx3
    rw [List.drop_drop] at hx3
    refine sw_asg (ev_mkTwo (ev_var rfl) (ev_var rfl) (ev_var rfl)) ⟨(j,.two s f g,m+(3+q)),?_,⟨by dsimp only;omega,by dsimp only;omega,?_⟩,by dsimp only;omega⟩
    ·have:((at_+m+3+q:Nat):Int)=((at_+(m+(3+q)):Nat):Int):=by omega
     show Wk [Ent.val cT text,.val cInt ((at_+m+3+q:Nat):Int),.val cInt (30-(r:Int)),.val (cTupL K cT) (ss.map (fun s=>[s])),.val (cFn f0) (),.val (cEx Y) (.two s f g),.val cT [s],.val (cEx Y) g] _
     rw [this]
     exact .same (.same (.same (.same (.same (.same (.any (.any .nil)))))))
    ·dsimp only
     rw [hx3,show at_+m+(3+q)=at_+(m+(3+q)) from by omega]
   ·rw [sft_none hg] at hx3
    refine ⟨rfl,?_⟩
    rw [hx3];rfl
  ·obtain ⟨k,f,m⟩:=x
   obtain ⟨hx1,hx2,hx3⟩:=hx
   dsimp only at hx1 hx2 hx3 hb ⊢
   have hn':ahead ss (text.drop (at_+m))=none:=by
    cases h:ahead ss (text.drop (at_+m)) with
    | none=>rfl
    | some s=>rw [h] at hb;cases hb
   obtain ⟨j,rfl⟩:∃ j,k=j+1:=⟨k-1,by omega⟩
   rw [rowGo,hn'] at hx3
   rw [hx3]
   exact sw_ret (ev_pair (K:=K) (ev_var rfl) (ev_var rfl)) rfl
 ·rw [sft_none he] at hat
  rw [hat];exact ⟨rfl,rfl⟩
theorem evX_row {K:PySem.W.Frag} {Y:ExC} {C:ExA} {p:Rd} {r s1 s2:Nat} {E:XK} {Γ:Gam} {f0:Addr} {ta tb tc t1 t2 t3:TE} {text:T} {n:Nat} {d:Int} (h1:Ev Γ ta cT text) (h2:Ev Γ tb cInt (n:Int)) (h3:Ev Γ tc cInt d) (g1:Ev Γ t1 cT [s1]) (g2:Ev Γ t2 cT [s2]) (g3:Ev Γ t3 (cFn f0) ())
  (hd:d=30-(r:Int)) (hn:n≤text.length) (hl:text.length≤1000):EvX Γ (tCall (sp_row K Y C f0 [s1,s2] p r) [] E (tCons ta (tCons tb (tCons tc (tCons (tTup (tCons t1 (tCons t2 tNil))) (tCons t3 tNil)))))) (cPair K (cEx Y) cInt) (sft n (rowL [s1,s2] p (text.drop n))) C.NoText E :=
 evX_call (E:=E) (c:=cPair K (cEx Y) cInt) (f:=fun a:T×Int×Int×List T×Unit×Unit=>sft a.2.1.toNat (rowL [s1,s2] p (a.1.drop a.2.1.toNat))) (C:=C.NoText) (pre:=fun a:T×Int×Int×List T×Unit×Unit=>∃ n:Nat,a.2.1=n∧a.2.2.1=30-(r:Int)∧a.2.2.2.1=[s1,s2].map (fun s=>[s])∧n≤a.1.length∧a.1.length≤1000)
  (ea_cons h1 (ea_cons h2 (ea_cons h3 (ea_cons (ev_l_pair (K:=K) (ev_pair (K:=K) g1 g2)) (ea_cons g3 ea_nil))))) ⟨n,rfl,hd,rfl,hn,hl⟩
def t_term_at (K:PySem.W.Frag) (C:ExA) (Y:ExC) (a_factor_at:Addr) (r:Nat) (E:XK):TS:=tRet (tCall (sp_row K Y C a_factor_at [42,47] (factorL (subL r)) r) [] E (tCons (tVar 0) (tCons (tVar 1) (tCons (tVar 2) (tCons (tTup (tCons (tC (.str "*")) (tCons (tC (.str "/")) tNil))) (tCons (tC (.ref a_factor_at)) tNil))))))
theorem rd_term_at (K:PySem.W.Frag) (C:ExA) (Y:ExC) (a_factor_at:Addr) (r:Nat) (E:XK) (text:T) (at_:Nat) (h1:at_≤text.length) (h2:text.length≤1000) :
  SW (rVal (cPair K (cEx Y) cInt)) [.val cT text,.val cInt (at_:Int),.val cInt (30-(r:Int))] (t_term_at K C Y a_factor_at r E) (PX (sft at_ (termL (subL r) (text.drop at_))) C.NoText E):=by
 unfold t_term_at
 exact sw_retX (evX_row (n:=at_) (ev_var rfl) (ev_var rfl) (ev_var rfl) (ev_t [42] (by decide +kernel)) (ev_t [47] (by decide +kernel)) (ev_c fun _=>rfl) rfl h1 h2) rfl (fun x hx=>hx) (fun hx=>⟨rfl,hx⟩)
def t_sum_at (K:PySem.W.Frag) (C:ExA) (Y:ExC) (a_term_at:Addr) (r:Nat) (E:XK):TS:=tRet (tCall (sp_row K Y C a_term_at [43,45] (termL (subL r)) r) [] E (tCons (tVar 0) (tCons (tVar 1) (tCons (tVar 2) (tCons (tTup (tCons (tC (.str "+")) (tCons (tC (.str "-")) tNil))) (tCons (tC (.ref a_term_at)) tNil))))))
theorem rd_sum_at (K:PySem.W.Frag) (C:ExA) (Y:ExC) (a_term_at:Addr) (r:Nat) (E:XK) (text:T) (at_:Nat) (h1:at_≤text.length) (h2:text.length≤1000) :
  SW (rVal (cPair K (cEx Y) cInt)) [.val cT text,.val cInt (at_:Int),.val cInt (30-(r:Int))] (t_sum_at K C Y a_term_at r E) (PX (sft at_ (pS r (text.drop at_))) C.NoText E):=by
 unfold t_sum_at
 rw [pS_eq]
 exact sw_retX (evX_row (n:=at_) (ev_var rfl) (ev_var rfl) (ev_var rfl) (ev_t [43] (by decide +kernel)) (ev_t [45] (by decide +kernel)) (ev_c fun _=>rfl) rfl h1 h2) rfl (fun x hx=>hx) (fun hx=>⟨rfl,hx⟩)
def sp_read (K:PySem.W.Frag) (Y:ExC) (C:ExA):Sp:=SpX (aCons cT aNil) (fun a=>a.1.length≤1000000) (cEx Y) (fun a=>readL a.1) C.NoText
def t_read (K:PySem.W.Frag) (C:ExA) (Y:ExC) (E:XK):TS:=tSeq (tIfS (tTest (tOp oGt (tCB rLenS (tCons (tVar 0) tNil)) (tC (.int 1000)))) (tRaise C.NoText E) tNext) (tSeq (tAsg (tCall (sp_rd K Y C (pS 30) 30) [] E (tCons (tVar 0) (tCons (tC (.int 0)) (tCons (tC (.int 0)) tNil)))) (gTup K 2 (gCons (gName 1) (gCons (gName 2) (gNil))))) (tSeq (tIfS (tTest (tOp rNe (tVar 2) (tCB rLenS (tCons (tVar 0) tNil)))) (tRaise C.NoText E) tNext) (tRet (tVar 1))))
theorem rd_read (K:PySem.W.Frag) (C:ExA) (Y:ExC) (E:XK) (text:T) (h0:text.length≤1000000) :
  SW (rVal (cEx Y)) [.val cT text,.any,.any] (t_read K C Y E) (PX (readL text) C.NoText E):=by
 unfold t_read
 refine q_when (evT_test (ev_gt (ev_lenS (ev_var rfl) h0) ev_int)) (fun hc=>?_) (fun hc=>?_)
 ·have hc:=of_decide_eq_true hc
  refine sw_raise rfl ⟨rfl,?_⟩
  unfold readL;rw [if_pos (by omega)]
 ·have hc:=of_decide_eq_false hc
  have hat:readL text=match pS 30 text with | none=>none | some (e,n)=>if n=text.length then some e else none:=by unfold readL;rw [if_neg (by omega)];try rfl
  refine q_un2X (evX_rd (n:=0) (ev_var rfl) ev_int ev_int rfl rfl (by omega) (by omega)) rfl (fun e z he=>?_) (fun he=>?_)
  ·obtain ⟨n,hn,rfl⟩:=sft_some he
   rw [List.drop_zero] at hn
   rw [hn] at hat
   dsimp only at hat
   refine q_when (evT_test (ev_neI (ev_var rfl) (ev_lenS (ev_var rfl) h0))) (fun hd=>?_) (fun hd=>?_)
   ·simp only [Bool.not_eq_true',decide_eq_false_iff_not] at hd
    refine sw_raise rfl ⟨rfl,?_⟩
    rw [hat,if_neg (by omega)]
   ·simp only [Bool.not_eq_false',decide_eq_true_eq] at hd
    rw [hat,if_pos (by omega)]
    exact sw_ret (ev_var rfl) rfl
  ·have:=sft_none he
   rw [List.drop_zero] at this
   rw [this] at hat
   rw [hat];exact ⟨rfl,rfl⟩
end Lw.X
namespace Xp
open PySem L2
def spineF:Ep→Ep×List Ep
 | .two s l r=>((spineF l).1,(spineF l).2++[.two s l r])
 | e=>(e,[])
def pvx (f:Ep) (xs:List Ep) (i:Nat):Ep:=(f :: xs).getD i f
theorem spine_at:∀ (e:Ep) (i:Nat) (d:Ep),(spineF e).2[i]?=some d→∃ s r,d=.two s (pvx (spineF e).1 (spineF e).2 i) r
 | .two s l r,i,d,h=>by
  have ih:=spine_at l
  show ∃ s' r',d=Ep.two s' (pvx (spineF l).1 ((spineF l).2++[Ep.two s l r]) i) r'
  have h':((spineF l).2++[Ep.two s l r])[i]?=some d:=h
  have hp:i≤(spineF l).2.length→pvx (spineF l).1 ((spineF l).2++[Ep.two s l r]) i=pvx (spineF l).1 (spineF l).2 i:=fun hi=>by
   unfold pvx
   cases i with
   | zero=>rfl
   | succ i=>simp only [List.getD_cons_succ];rw [List.getD_eq_getElem?_getD,List.getD_eq_getElem?_getD,List.getElem?_append_left (by omega)]
  by_cases hi:i < (spineF l).2.length
  ·rw [List.getElem?_append_left hi] at h'
   obtain ⟨s',r',e'⟩:=ih i d h'
   exact ⟨s',r',by rw [hp (by omega)];exact e'⟩
  ·rw [List.getElem?_append_right (by omega)] at h'
   have hi':i=(spineF l).2.length:=by
    have:=(List.getElem?_eq_some_iff.mp h').1
    simp at this;omega
   subst hi'
   simp at h'
   refine ⟨s,r,?_⟩
   rw [hp (by omega),←h']
   congr 1
   exact (spine_last l).symm
 | .num _,i,d,h=>by simp [spineF] at h
 | .name _,i,d,h=>by simp [spineF] at h
 | .pow _ _,i,d,h=>by simp [spineF] at h
 | .less _,i,d,h=>by simp [spineF] at h
where
 spine_last:∀ l:Ep,pvx (spineF l).1 (spineF l).2 (spineF l).2.length=l
  | .two s l r=>by
   show pvx (spineF l).1 ((spineF l).2++[Ep.two s l r]) ((spineF l).2++[Ep.two s l r]).length=_
   unfold pvx
   rw [List.length_append,List.length_singleton,List.getD_cons_succ,List.getD_eq_getElem?_getD,List.getElem?_append_right (by omega)]
   simp
  | .num _=>rfl
  | .name _=>rfl
  | .pow _ _=>rfl
  | .less _=>rfl
theorem spine_end (e:Ep):pvx (spineF e).1 (spineF e).2 (spineF e).2.length=e:=spine_at.spine_last e
theorem spine_size:∀ (e:Ep),(size (spineF e).1≤size e∧(Wf e→Wf (spineF e).1))∧∀ d∈(spineF e).2,size d≤size e∧(Wf e→Wf d)
 | .two s l r=>by
  obtain ⟨⟨h1,h2⟩,h3⟩:=spine_size l
  refine ⟨⟨by show size (spineF l).1≤_;simp [size];omega,fun w=>h2 w.2.1⟩,fun d hd=>?_⟩
  rcases List.mem_append.mp hd with hd | hd
  ·obtain ⟨h4,h5⟩:=h3 d hd
   exact ⟨by simp [size];omega,fun w=>h5 w.2.1⟩
  ·obtain rfl:=List.mem_singleton.mp hd
   exact ⟨Nat.le_refl _,id⟩
 | .num _=>⟨⟨Nat.le_refl _,id⟩,fun d h=>by simp [spineF] at h⟩
 | .name _=>⟨⟨Nat.le_refl _,id⟩,fun d h=>by simp [spineF] at h⟩
 | .pow _ _=>⟨⟨Nat.le_refl _,id⟩,fun d h=>by simp [spineF] at h⟩
 | .less _=>⟨⟨Nat.le_refl _,id⟩,fun d h=>by simp [spineF] at h⟩
theorem size_pos (e:Ep):0 < size e:=by cases e<;>simp [size]
theorem num_lt {n k:Nat} (h:(TL.numL n).length≤k):n < 10^k:=by
 have h1:=valL_lt (w:=TL.numL n) (fun c hc=>fig_of hc)
 rw [valL_num] at h1
 exact Nat.lt_of_lt_of_le h1 (Nat.pow_le_pow_right (by omega) h)
theorem br_len {b l:Nat} {t:T}:(br b l t).length≤t.length+2:=by
 unfold br;split<;>simp
theorem sh_len:∀ e:Ep,Wf e→(sh e).length≤40*size e
 | .num n,w=>by
  have:(TL.numL n).length≤30:=w
  show (TL.numL n).length≤40*1;omega
 | .name w,h=>by
  have:=h.2.1
  show w.length≤40*1;omega
 | .two s l r,w=>by
  have h1:=sh_len l w.2.1
  have h2:=sh_len r w.2.2
  have h3:=br_len (b:=binds l) (l:=bindS s) (t:=sh l)
  have h4:=br_len (b:=binds r) (l:=bindS s+1) (t:=sh r)
  show (br _ _ _++32 :: s :: 32 :: br _ _ _).length≤40*(size l+size r+1)
  rw [List.length_append,List.length_cons,List.length_cons,List.length_cons];omega
 | .pow b n,w=>by
  have h1:=sh_len b w.1
  have h3:=br_len (b:=binds b) (l:=4) (t:=sh b)
  have h5:(TL.numL n).length≤2:=TL.numL_len (by decide) (by have:=w.2;omega)
  show (br _ _ _++94 :: TL.numL n).length≤40*(size b+1)
  rw [List.length_append,List.length_cons];omega
 | .less e,w=>by
  have h1:=sh_len e w
  have h3:=br_len (b:=binds e) (l:=2) (t:=sh e)
  show (45 :: br _ _ _).length≤40*(size e+1)
  rw [List.length_cons];omega
end Xp
namespace Lw.X
open PySem PySem.Spec PyProof.Rows L2 Pw Xp
def sp_binds (K:PySem.W.Frag) (Y:ExC):Nat→Sp:=SpMF Y aNil (fun _=>True) cInt (fun z=>(binds z.1:Int))
def t_Number_binds (K:PySem.W.Frag):TS:=tRet (tC (.int 4))
def t_Name_binds (K:PySem.W.Frag):TS:=tRet (tC (.int 4))
def t_Two_binds (K:PySem.W.Frag):TS:=tSeq (tIfS (tOr (tTest (tOp rEq (tFld K (tVar 0) "sign") (tC (.str "+")))) (tTest (tOp rEq (tFld K (tVar 0) "sign") (tC (.str "-"))))) (tRet (tC (.int 0))) tNext) (tRet (tC (.int 1)))
def t_Power_binds (K:PySem.W.Frag):TS:=tRet (tC (.int 3))
def t_Less_binds (K:PySem.W.Frag):TS:=tRet (tC (.int 2))
theorem nf_binds:("binds":Str) ∉ fldNames:=by decide +kernel
theorem nf_shown:("shown":Str) ∉ fldNames:=by decide +kernel
theorem ev_binds {K:PySem.W.Frag} {Y:ExC} {Γ:Gam} {ta:TE} {e:Ep} {E:XK} (h:Ev Γ ta (cEx Y) e):Ev Γ (tM5 Y "binds" (sp_binds K Y) E ta tNil) cInt (binds e:Int) :=
 ev_mF (f:=fun z:Ep×Unit=>(binds z.1:Int)) (pre:=fun _=>True) h ea_nil trivial nf_binds
theorem rd_Number_binds (K:PySem.W.Frag) (Y:ExC) (e:Ep) (h:clsI e=0):SW (rVal cInt) [.val (cEx Y) e] (t_Number_binds K) (PF (binds e:Int)):=by
 cases e<;>first | exact sw_ret ev_int rfl | cases h
theorem rd_Name_binds (K:PySem.W.Frag) (Y:ExC) (e:Ep) (h:clsI e=1):SW (rVal cInt) [.val (cEx Y) e] (t_Name_binds K) (PF (binds e:Int)):=by
 cases e<;>first | exact sw_ret ev_int rfl | cases h
theorem rd_Power_binds (K:PySem.W.Frag) (Y:ExC) (e:Ep) (h:clsI e=3):SW (rVal cInt) [.val (cEx Y) e] (t_Power_binds K) (PF (binds e:Int)):=by
 cases e<;>first | exact sw_ret ev_int rfl | cases h
theorem rd_Less_binds (K:PySem.W.Frag) (Y:ExC) (e:Ep) (h:clsI e=4):SW (rVal cInt) [.val (cEx Y) e] (t_Less_binds K) (PF (binds e:Int)):=by
 cases e<;>first | exact sw_ret ev_int rfl | cases h
theorem rd_Two_binds (K:PySem.W.Frag) (Y:ExC) (k:ExK K Y) (e:Ep) (h:clsI e=2):SW (rVal cInt) [.val (cEx Y) e] (t_Two_binds K) (PF (binds e:Int)):=by
 cases e with
 | two s l r =>
  unfold t_Two_binds
  refine q_when (evT_or (evT_test (ev_eqT (ev_fSign k (ev_var rfl)) (ev_t [43] (by decide +kernel)))) fun _=>evT_test (ev_eqT (ev_fSign k (ev_var rfl)) (ev_t [45] (by decide +kernel)))) (fun hc=>?_) (fun hc=>?_)
  ·refine sw_ret ev_int ?_
   show (0:Int)=((bindS s:Nat):Int)
   simp at hc
   unfold bindS;rw [if_pos hc];rfl
  ·refine sw_ret ev_int ?_
   show (1:Int)=((bindS s:Nat):Int)
   simp at hc
   unfold bindS;rw [if_neg (by intro z;rcases z with z | z;exact hc.1 z;exact hc.2 z)];rfl
 | _=>cases h
def sp_Two_spine (K:PySem.W.Frag) (Y:ExC):Sp:=SpF (aCons (cEx Y) aNil) (fun a=>clsI a.1=2∧size a.1≤5000) (cPair K (cEx Y) (cList K (cEx Y))) (fun a=>spineF a.1)
def t_Two_spine (K:PySem.W.Frag) (Y:ExC):TS:=tSeq (tAsg (tLst tNil) (gName 1)) (tSeq (tAsg (tVar 0) (gName 2)) (tSeq (tWhile (tB (tCB (rIsi K) (tCons (tVar 2) (tCons (tC (.ref Y.Two)) tNil)))) (tSeq (tDrop (tBM K "list" rAppend (tVar 1) (tCons (tVar 2) tNil))) (tAsg (tFld K (tVar 2) "left") (gName 2)))) (tRet (tTup (tCons (tVar 2) (tCons (tRevL K (tVar 1)) tNil))))))
theorem rd_Two_spine (K:PySem.W.Frag) (Y:ExC) (k:ExK K Y) (e:Ep) (h:clsI e=2) (hs:size e≤5000):SW (rVal (cPair K (cEx Y) (cList K (cEx Y)))) [.val (cEx Y) e,.any,.any] (t_Two_spine K Y) (PF (spineF e)):=by
 unfold t_Two_spine
 refine q_asgN (c:=cEx Y) (evN_lst el_nil (by simp)) (fun xs hx=>?_)
 subst hx
 refine q_asg' (ev_var rfl) ?_
 refine q_while (fun x:List Ep×Ep=>[.val (cEx Y) e,.own (cEx Y) x.1,.val (cEx Y) x.2]) (fun x=>(spineF e).1=(spineF x.2).1∧(spineF e).2=(spineF x.2).2++x.1.reverse∧x.1.length+size x.2≤5000) (fun x=>size x.2) (fun x=>decide (clsI x.2=2)) ([],e)
  (Wk.refl _) ⟨rfl,by simp,by simpa using hs⟩ (fun x hx=>evT_B (ev_isEx k (ev_var rfl) (k.i2 x.2))) (fun x hx hb=>?_) (fun x hx hb=>?_)
 ·obtain ⟨xs,p⟩:=x
  obtain ⟨h1,h2,h3⟩:=hx
  have hb:=of_decide_eq_true hb
  dsimp only at h1 h2 h3 hb ⊢
  cases p with
  | two s l r =>
   have:=size_pos l
   refine q_app (c:=cEx Y) rfl (ev_var rfl) (by omega) ?_
   refine sw_asg (ev_fLeft k (ev_var rfl)) ⟨(xs++[.two s l r],l),Wk.refl _,⟨h1,?_,?_⟩,?_⟩
   ·rw [h2]
    show ((spineF l).2++[Ep.two s l r])++xs.reverse=(spineF l).2++(xs++[Ep.two s l r]).reverse
    simp
   ·simp [size] at h3 ⊢;omega
   ·simp [size];omega
  | _=>cases hb
 ·obtain ⟨xs,p⟩:=x
  obtain ⟨h1,h2,h3⟩:=hx
  have hb:=of_decide_eq_false hb
  dsimp only at h1 h2 h3 hb ⊢
  have e1:spineF p=(p,[]):=by cases p<;>first | rfl | exact absurd rfl hb
  rw [e1] at h1 h2
  refine sw_ret (ev_is (ev_pair (K:=K) (ev_var rfl) (evN_revO rfl).ev) (d':=spineF e) ?_) rfl
  rw [show spineF e=((spineF e).1,(spineF e).2) from rfl,h1,h2];rfl
def sp_Less_core (K:PySem.W.Frag) (Y:ExC):Sp:=SpF (aCons (cEx Y) aNil) (fun a=>clsI a.1=4) (cPair K (cEx Y) cInt) (fun a=>((chain a.1).2,((chain a.1).1:Int)))
def t_Less_core (K:PySem.W.Frag) (Y:ExC):TS:=tSeq (tAsg (tC (.int 0)) (gName 1)) (tSeq (tAsg (tVar 0) (gName 2)) (tSeq (tWhile (tB (tCB (rIsi K) (tCons (tVar 2) (tCons (tC (.ref Y.Less)) tNil)))) (tSeq (tAsg (tOp oAdd (tVar 1) (tC (.int 1))) (gName 1)) (tAsg (tFld K (tVar 2) "inner") (gName 2)))) (tRet (tTup (tCons (tVar 2) (tCons (tVar 1) tNil))))))
theorem rd_Less_core (K:PySem.W.Frag) (Y:ExC) (k:ExK K Y) (e:Ep):SW (rVal (cPair K (cEx Y) cInt)) [.val (cEx Y) e,.any,.any] (t_Less_core K Y) (PF ((chain e).2,((chain e).1:Int))):=by
 unfold t_Less_core
 refine q_asg' ev_int ?_
 refine q_asg' (ev_var rfl) ?_
 refine q_while (fun x:Nat×Ep=>[.val (cEx Y) e,.val cInt (x.1:Int),.val (cEx Y) x.2]) (fun x=>(chain e).1=x.1+(chain x.2).1∧(chain e).2=(chain x.2).2) (fun x=>size x.2) (fun x=>decide (clsI x.2=4)) (0,e)
  (Wk.refl _) ⟨by simp,rfl⟩ (fun x hx=>evT_B (ev_isEx k (ev_var rfl) (k.i4 x.2))) (fun x hx hb=>?_) (fun x hx hb=>?_)
 ·obtain ⟨m,p⟩:=x
  obtain ⟨h1,h2⟩:=hx
  have hb:=of_decide_eq_true hb
  dsimp only at h1 h2 hb ⊢
  cases p with
  | less b =>
   refine q_asg' (ev_is (ev_add (ev_var rfl) ev_int) (d':=((m+1:Nat):Int)) (by omega)) ?_
   refine sw_asg (ev_fInner k (ev_var rfl)) ⟨(m+1,b),Wk.refl _,⟨?_,h2⟩,by simp [size]⟩
   rw [h1];show m+((chain b).1+1)=m+1+(chain b).1;omega
  | _=>cases hb
 ·obtain ⟨m,p⟩:=x
  obtain ⟨h1,h2⟩:=hx
  have hb:=of_decide_eq_false hb
  dsimp only at h1 h2 hb ⊢
  have e1:chain p=(0,p):=by cases p<;>first | rfl | exact absurd rfl hb
  rw [e1] at h1 h2
  dsimp only at h1 h2
  rw [h1,h2]
  exact sw_ret (ev_pair (K:=K) (ev_var rfl) (ev_var rfl)) rfl
end Lw.X
namespace Xp
open PySem L2
def restN (cell:Int):Int:=if cell < 0∨1000000000000000000≤cell then cell.natAbs else 0
def nstep (st:Int×Int×List Int) (j:Nat):Int×Int×List Int :=
 let m:=(st.1*39373+7561*(j:Int)*(j:Int)+1013904223) % 2147483647
 if 0 < st.2.1 then (m,st.2.1.fdiv 1000000,st.2.2++[st.2.1 % 1000000]) else (m,st.2.1,st.2.2++[m*65539 % 998244353 % 1000000])
def nrun (cell:Int) (n:Nat):Int×Int×List Int:=(List.range n).foldl nstep (cell % 2147483647,restN cell,[])
def numsF (script:List Int) (k many:Nat):List Int:=(nrun (script.getD k 0) many).2.2
theorem nrun_succ (cell:Int) (n:Nat):nrun cell (n+1)=nstep (nrun cell n) n:=by
 unfold nrun;rw [List.range_succ,List.foldl_append];rfl
theorem nrun_ok (cell:Int):∀ n:Nat,(0≤(nrun cell n).1∧(nrun cell n).1 < 2147483647)∧0≤(nrun cell n).2.1∧(nrun cell n).2.2.length=n∧∀ x∈(nrun cell n).2.2,0≤x∧x < 1000000
 | 0=>by
  refine ⟨⟨Int.emod_nonneg _ (by decide),Int.emod_lt_of_pos _ (by decide)⟩,?_,rfl,fun x h=>by simp [nrun] at h⟩
  show 0≤restN cell
  unfold restN;split<;>omega
 | n+1=>by
  obtain ⟨h1,h2,h3,h4⟩:=nrun_ok cell n
  rw [nrun_succ]
  generalize nrun cell n=st at h1 h2 h3 h4
  unfold nstep
  dsimp only
  have hm:∀ y:Int,0≤y % 2147483647∧y % 2147483647 < 2147483647:=fun y=>⟨Int.emod_nonneg _ (by decide),Int.emod_lt_of_pos _ (by decide)⟩
  by_cases h:0 < st.2.1
  ·rw [if_pos h]
   refine ⟨hm _,?_,by simp [h3],fun x hx=>?_⟩
   ·show 0≤st.2.1.fdiv 1000000
    rw [Int.fdiv_eq_ediv_of_nonneg _ (by decide)];omega
   ·rcases List.mem_append.mp hx with hx | hx
    ·exact h4 x hx
    ·obtain rfl:=List.mem_singleton.mp hx;omega
  ·rw [if_neg h]
   refine ⟨hm _,h2,by simp [h3],fun x hx=>?_⟩
   rcases List.mem_append.mp hx with hx | hx
   ·exact h4 x hx
   ·obtain rfl:=List.mem_singleton.mp hx;omega
theorem nums_len (s:List Int) (k n:Nat):(numsF s k n).length=n:=(nrun_ok _ n).2.2.1
theorem nums_mem (s:List Int) (k n:Nat):∀ x∈numsF s k n,0≤x∧x < 1000000:=(nrun_ok _ n).2.2.2
def letL:T:=(List.range 26).map (97+·)
def letAt (n d:Int):Nat:=letL.getD ((n.fdiv d) % 26).toNat 0
def word3 (n:Int):T:=[letAt n 8,letAt n 208,letAt n 5408]
def wordF (n:Int):T:=(List.replicate 3 (word3 n)).flatten.take (1+n % 8).toNat
theorem letL_is {i:Nat} (h:i < 26):isLet (letL.getD i 0)=true∧letL.getD i 0=97+i:=by
 have:letL.getD i 0=97+i:=by
  unfold letL
  rw [List.getD_eq_getElem?_getD,List.getElem?_map,List.getElem?_range h];rfl
 rw [this]
 refine ⟨?_,rfl⟩
 unfold isLet;simp;omega
theorem letAt_is (n d:Int):isLet (letAt n d)=true:=(letL_is (by have:=Int.emod_lt_of_pos (n.fdiv d) (show (0:Int) < 26 by decide);have:=Int.emod_nonneg (n.fdiv d) (show (26:Int)≠0 by decide);omega)).1
theorem wordF_ok (n:Int) (h:0≤n):WName (wordF n):=by
 have hl:(List.replicate 3 (word3 n)).flatten.length=9:=rfl
 have h1:0≤n % 8∧n % 8 < 8:=by omega
 have hw:(wordF n).length=(1+n % 8).toNat:=by unfold wordF;rw [List.length_take,hl];omega
 refine ⟨fun z=>?_,by omega,fun c hc=>?_⟩
 ·rw [z] at hw;simp at hw;omega
 ·have hc:=List.mem_of_mem_take hc
  have:c∈word3 n:=by
   have:(List.replicate 3 (word3 n)).flatten=word3 n++(word3 n++(word3 n++[])):=rfl
   rw [this] at hc;simpa using hc
  unfold word3 at this
  simp only [List.mem_cons,List.not_mem_nil,or_false] at this
  rcases this with rfl | rfl | rfl<;>exact letAt_is _ _
def pickGo (found:List T):Nat→Nat→T→T
 | 0,_,w=>w
 | f+1,k,w=>if w∈found then pickGo found f (k+1) [letL.getD k 0] else w
def pickN (found:List T) (w:T):T:=pickGo found 26 0 w
theorem nodup_le {α:Type} [DecidableEq α]:∀ (l m:List α),l.Nodup→(∀ x∈l,x∈m)→l.length≤m.length
 | [],_,_,_=>by simp
 | x :: l,m,hn,h=>by
  have hx:=h x List.mem_cons_self
  have ih:=nodup_le l (m.erase x) (List.nodup_cons.mp hn).2 fun y hy=>by
   have:y≠x:=fun z=>(List.nodup_cons.mp hn).1 (z ▸ hy)
   exact (List.mem_erase_of_ne this).mpr (h y (List.mem_cons_of_mem _ hy))
  rw [List.length_erase_of_mem hx] at ih
  have:=List.length_pos_of_mem hx
  simp;omega
theorem tried_le {found:List T} {k:Nat} (h:∀ i,i < k→[letL.getD i 0]∈found) (hk:k≤26):k≤found.length:=by
 have:=nodup_le ((List.range k).map fun i=>[letL.getD i 0]) found ?_ ?_
 ·simpa using this
 ·show List.Pairwise _ _
  rw [List.pairwise_map]
  refine List.Pairwise.imp_of_mem (fun {a b} ha hb hne e=>hne ?_) (List.nodup_range (n:=k))
  rw [List.mem_range] at ha hb
  have h1:=(letL_is (i:=a) (by omega)).2
  have h2:=(letL_is (i:=b) (by omega)).2
  have:letL.getD a 0=letL.getD b 0:=by simpa using e
  omega
 ·intro x hx
  obtain ⟨i,hi,rfl⟩:=List.mem_map.mp hx
  exact h i (List.mem_range.mp hi)
theorem pickGo_ok {found:List T} (hl:found.length < 26):∀ (f k:Nat) (w:T),f+k=26→(∀ i,i < k→[letL.getD i 0]∈found)→WName w→WName (pickGo found f k w)∧pickGo found f k w ∉ found
 | 0,k,w,hf,h,_=>by
  have:=tried_le (k:=k) h (by omega);omega
 | f+1,k,w,hf,h,hw=>by
  unfold pickGo
  by_cases hm:w∈found
  ·rw [if_pos hm]
   by_cases hk:[letL.getD k 0]∈found
   ·refine pickGo_ok hl f (k+1) _ (by omega) (fun i hi=>?_) ⟨by simp,by simp,fun c hc=>?_⟩
    ·by_cases z:i=k
     ·subst z;exact hk
     ·exact h i (by omega)
    ·obtain rfl:=List.mem_singleton.mp hc;exact (letL_is (by omega)).1
   ·have hn:pickGo found f (k+1) [letL.getD k 0]=[letL.getD k 0]:=by
     cases f with
     | zero=>rfl
     | succ f=>unfold pickGo;rw [if_neg hk]
    rw [hn]
    exact ⟨⟨by simp,by simp,fun c hc=>by obtain rfl:=List.mem_singleton.mp hc;exact (letL_is (by omega)).1⟩,hk⟩
  ·rw [if_neg hm];exact ⟨hw,hm⟩
def nameStep (found:List T) (n:Int):List T:=found++[pickN found (wordF n)]
def namesF (ns:List Int):List T:=ns.foldl nameStep []
structure NamesOk (ws:List T):Prop where
 w:∀ x∈ws,WName x
 n:ws.Nodup
theorem nameStep_ok {ws:List T} (h:NamesOk ws) (hl:ws.length < 26) {n:Int} (hn:0≤n):NamesOk (nameStep ws n):=by
 obtain ⟨h1,h2⟩:=pickGo_ok hl 26 0 (wordF n) rfl (fun i hi=>by omega) (wordF_ok n hn)
 refine ⟨fun x hx=>?_,?_⟩
 ·rcases List.mem_append.mp hx with hx | hx
  ·exact h.w x hx
  ·obtain rfl:=List.mem_singleton.mp hx;exact h1
 ·exact List.nodup_append.mpr ⟨h.n,by simp,fun a ha b hb z=>by
   obtain rfl:=List.mem_singleton.mp hb
   subst z;exact h2 ha⟩
theorem namesFold_ok:∀ (ns:List Int) (ws:List T),NamesOk ws→ws.length+ns.length < 26→(∀ x∈ns,0≤x)→NamesOk (ns.foldl nameStep ws)∧(ns.foldl nameStep ws).length=ws.length+ns.length
 | [],ws,h,_,_=>⟨h,rfl⟩
 | n :: ns,ws,h,hl,hp=>by
  rw [List.foldl_cons]
  have h1:=nameStep_ok h (by simp at hl;omega) (hp n List.mem_cons_self)
  have h2:(nameStep ws n).length=ws.length+1:=by unfold nameStep;simp
  obtain ⟨h3,h4⟩:=namesFold_ok ns _ h1 (by rw [h2];simp at hl;omega) fun x hx=>hp x (List.mem_cons_of_mem _ hx)
  exact ⟨h3,by rw [h4,h2];simp;omega⟩
theorem namesF_ok {ns:List Int} (hl:ns.length < 26) (hp:∀ x∈ns,0≤x):NamesOk (namesF ns)∧(namesF ns).length=ns.length:=by
 have:=namesFold_ok ns [] ⟨fun x h=>by simp at h,by simp⟩ (by simpa using hl) hp
 simpa [namesF] using this
def ms:Ep→Int×Int×Int
 | .num n=>(0,0,if n < 1000 then 3 else 30)
 | .name _=>(1,0,1)
 | .two s l r=>let a:=ms l;let b:=ms r
  if s=43∨s=45 then (max (a.1+b.2.1) (b.1+a.2.1),a.2.1+b.2.1,a.2.2+b.2.2+1) else if s=42 then (a.1+b.1,a.2.1+b.2.1,a.2.2+b.2.2) else (a.1+b.2.1,a.2.1+b.1,a.2.2+b.2.2)
 | .pow b n=>let a:=ms b;(a.1*n,a.2.1*n,a.2.2*max 1 (n:Int))
 | .less e=>ms e
theorem ms_add {s:Nat} {l r:Ep} (h:s=43∨s=45):ms (.two s l r)=(max ((ms l).1+(ms r).2.1) ((ms r).1+(ms l).2.1),(ms l).2.1+(ms r).2.1,(ms l).2.2+(ms r).2.2+1):=by
 show (if s=43∨s=45 then _ else _)=_
 rw [if_pos h]
theorem ms_mul {s:Nat} {l r:Ep} (h:s=42):ms (.two s l r)=((ms l).1+(ms r).1,(ms l).2.1+(ms r).2.1,(ms l).2.2+(ms r).2.2):=by
 subst h;rfl
theorem ms_div {s:Nat} {l r:Ep} (h:¬(s=43∨s=45)) (h2:¬s=42):ms (.two s l r)=((ms l).1+(ms r).2.1,(ms l).2.1+(ms r).1,(ms l).2.2+(ms r).2.2):=by
 show (if s=43∨s=45 then _ else _)=_
 rw [if_neg h,if_neg h2]
def lt (e:Ep):Ep×Int×Int×Int:=(e,ms e)
def fitsF (e:Ep) (most:Int):Bool:=decide (max (ms e).1 (ms e).2.1≤most) && decide ((ms e).2.2≤150)
def signs4:T:=[43,45,42,47]
def leafF (n:Int) (names:List T):Ep :=
 if n % 5 < 3∧names≠[] then .name (names.getD ((n/5).fmod names.length).toNat [])
 else if n % 5=4∧n/5 % 8=0 then .num ((n+1)*100000000000000000000+n*7919).toNat
 else .num ((n/5).fmod ([13,3,1000].getD (n/200 % 3).toNat 1)).toNat
def exps (r:Int):Int:=[2,3,0,1,r/5 % 13].getD (r % 5).toNat 0
def stepF (st:List Ep) (n:Int) (names:List T) (most:Int):List Ep :=
 let way:=n % 8
 let rest:=n/8
 let a:=st.getD (st.length-2) (.num 0)
 let b:=st.getD (st.length-1) (.num 0)
 let two:=Ep.two (signs4.getD (rest % 4).toNat 0) a b
 let pow:=Ep.pow b (exps rest).toNat
 if (2 < way∧way < 6∧1 < st.length)∧fitsF two most then st.take (st.length-2)++[two]
 else if (way=6∧st≠[])∧fitsF pow most then st.take (st.length-1)++[pow]
 else if way=7∧st≠[] then st.take (st.length-1)++[.less b]
 else st++[leafF rest names]
def growGo (len:Int) (most:Int) (st:List Ep) (found:Ep) (k:Nat):Ep :=
 let made:=Ep.two (signs4.getD ((len+k) % 4).toNat 0) found (st.getD k (.num 0))
 if fitsF made most then made else found
def grownF (ns:List Int) (names:List T) (most:Int):Ep :=
 let st:=ns.foldl (fun st n=>stepF st n names most) []
 (List.range (st.length-1)).foldl (fun f i=>growGo ns.length most st f (i+1)) (st.getD 0 (.num 0))
def wgt:Ep→Nat
 | .num _=>30
 | .name _=>30
 | .two _ l r=>wgt l+wgt r+7
 | .pow b _=>wgt b+7
 | .less e=>wgt e+7
def totalW (st:List Ep):Nat:=(st.map wgt).sum
def total (st:List Ep):Nat:=(st.map size).sum
structure Gd (most:Int) (names:List T) (e:Ep):Prop where
 w:Wf e
 f:(ms e).1≤most∧(ms e).2.1≤most∧(ms e).2.2≤150
 p:0≤(ms e).1∧0≤(ms e).2.1∧1≤(ms e).2.2
theorem fits_iff {e:Ep} {most:Int}:fitsF e most=true↔(ms e).1≤most∧(ms e).2.1≤most∧(ms e).2.2≤150:=by
 unfold fitsF
 rw [Bool.and_eq_true,decide_eq_true_eq,decide_eq_true_eq]
 omega
theorem ms_pos:∀ e:Ep,0≤(ms e).1∧0≤(ms e).2.1∧1≤(ms e).2.2
 | .num n=>by
  refine ⟨Int.le_refl _,Int.le_refl _,?_⟩
  show 1≤(if n < 1000 then (3:Int) else 30)
  split<;>omega
 | .name _=>⟨by show (0:Int)≤1;decide,by show (0:Int)≤0;decide,by show (1:Int)≤1;decide⟩
 | .two s l r=>by
  obtain ⟨a1,a2,a3⟩:=ms_pos l
  obtain ⟨b1,b2,b3⟩:=ms_pos r
  unfold ms;dsimp only
  by_cases h:s=43∨s=45
  ·rw [if_pos h];dsimp only;omega
  ·rw [if_neg h]
   by_cases h2:s=42
   ·rw [if_pos h2];dsimp only;omega
   ·rw [if_neg h2];dsimp only;omega
 | .pow b n=>by
  obtain ⟨a1,a2,a3⟩:=ms_pos b
  have h1:(1:Int)≤max 1 (n:Int):=by omega
  refine ⟨Int.mul_nonneg a1 (by omega),Int.mul_nonneg a2 (by omega),?_⟩
  show 1≤(ms b).2.2*max 1 (n:Int)
  have:=Int.mul_le_mul a3 h1 (by decide) (by omega)
  simpa using this
 | .less e=>ms_pos e
theorem leaf_gd {n:Int} {names:List T} {most:Int} (hn:0≤n∧n < 1000000) (hw:NamesOk names) (hm:1≤most):Gd most names (leafF n names)∧size (leafF n names)=1:=by
 unfold leafF
 by_cases h1:n % 5 < 3∧names≠[]
 ·rw [if_pos h1]
  have hl:0 < names.length:=List.length_pos_iff.mpr h1.2
  have hx:((n/5).fmod names.length).toNat < names.length:=by
   rw [Int.fmod_eq_emod_of_nonneg _ (by omega)]
   have:=Int.emod_lt_of_pos (n/5) (show (0:Int) < names.length by omega)
   have:=Int.emod_nonneg (n/5) (show (names.length:Int)≠0 by omega)
   omega
  refine ⟨⟨?_,⟨hm,by show (0:Int)≤_;omega,by show (1:Int)≤150;decide⟩,ms_pos _⟩,rfl⟩
  show WName _
  rw [List.getD_eq_getElem?_getD,List.getElem?_eq_getElem hx]
  exact hw.w _ (List.getElem_mem hx)
 ·rw [if_neg h1]
  have num:∀ m:Nat,m < 10^30→(m < 1000∨True)→Gd most names (.num m)∧size (.num m)=1:=fun m hm' _=>by
   refine ⟨⟨TL.numL_len (by decide) hm',⟨by show (0:Int)≤_;omega,by show (0:Int)≤_;omega,?_⟩,ms_pos _⟩,rfl⟩
   show (if m < 1000 then (3:Int) else 30)≤150
   split<;>decide
  by_cases h2:n % 5=4∧n/5 % 8=0
  ·rw [if_pos h2]
   exact num _ (by have : ((n + 1) * 100000000000000000000 + n * 7919) < 10 ^ 30 := by omega
                   have : (10 : Int) ^ 30 = ((10 ^ 30 : Nat) : Int) := by norm_cast
                   omega) (.inr trivial)
  ·rw [if_neg h2]
   refine num _ ?_ (.inr trivial)
   have hd:∃ d:Int,d=[13,3,1000].getD (n/200 % 3).toNat 1∧0 < d∧d≤1000:=by
    have:n/200 % 3=0∨n/200 % 3=1∨n/200 % 3=2:=by omega
    rcases this with h | h | h<;>rw [h]<;>exact ⟨_,rfl,by decide,by decide⟩
   obtain ⟨d,hd,h0,h3⟩:=hd
   rw [←hd,Int.fmod_eq_emod_of_nonneg _ (by omega)]
   have:=Int.emod_lt_of_pos (n/5) h0
   have:((n/5) % d).toNat < 1000:=by omega
   exact Nat.lt_of_lt_of_le this (by decide)
theorem exps_le (r:Int):0≤exps r∧exps r≤12:=by
 unfold exps
 have h:r % 5=0∨r % 5=1∨r % 5=2∨r % 5=3∨r % 5=4:=by omega
 have:0≤r/5 % 13∧r/5 % 13≤12:=by omega
 rcases h with h | h | h | h | h<;>rw [h]<;>simp<;>omega
theorem signs4_ok (x:Int):(let s:=signs4.getD (x % 4).toNat 0;s=43∨s=45∨s=42∨s=47):=by
 have h:x % 4=0∨x % 4=1∨x % 4=2∨x % 4=3:=by omega
 rcases h with h | h | h | h<;>rw [h]<;>simp [signs4]
theorem total_take (st:List Ep):∀ k,total (st.take k)+total (st.drop k)=total st:=fun k=>by
 unfold total
 rw [←List.sum_append,←List.map_append,List.take_append_drop]
theorem total_app (a b:List Ep):total (a++b)=total a+total b:=by unfold total;simp
theorem totalW_take (st:List Ep):∀ k,totalW (st.take k)+totalW (st.drop k)=totalW st:=fun k=>by
 unfold totalW
 rw [←List.sum_append,←List.map_append,List.take_append_drop]
theorem totalW_app (a b:List Ep):totalW (a++b)=totalW a+totalW b:=by unfold totalW;simp
theorem drop_last2 {st:List Ep} (h:1 < st.length):st.drop (st.length-2)=[st.getD (st.length-2) (.num 0),st.getD (st.length-1) (.num 0)]:=by
 have h1:st.length-2 < st.length:=by omega
 have h2:st.length-2+1 < st.length:=by omega
 rw [List.drop_eq_getElem_cons h1,List.drop_eq_getElem_cons h2,List.drop_of_length_le (by omega),List.getD_eq_getElem?_getD,List.getD_eq_getElem?_getD,List.getElem?_eq_getElem h1,List.getElem?_eq_getElem (by omega:st.length-1 < st.length)]
 have:st.length-2+1=st.length-1:=by omega
 simp [this]
theorem drop_last1 {st:List Ep} (h:st≠[]):st.drop (st.length-1)=[st.getD (st.length-1) (.num 0)]:=by
 have:=List.length_pos_iff.mpr h
 have h1:st.length-1 < st.length:=by omega
 rw [List.drop_eq_getElem_cons h1,List.drop_of_length_le (by omega),List.getD_eq_getElem?_getD,List.getElem?_eq_getElem h1];rfl
structure StOk (most:Int) (names:List T) (n:Nat) (st:List Ep):Prop where
 g:∀ e∈st,Gd most names e
 t:total st≤n
 v:totalW st≤30*n
 l:st.length≤n
 z:0 < n→st≠[]
theorem getD_mem {st:List Ep} {i:Nat} (h:i < st.length):st.getD i (.num 0)∈st:=by
 rw [List.getD_eq_getElem?_getD,List.getElem?_eq_getElem h];exact List.getElem_mem h
theorem step_ok {most:Int} {names:List T} {st:List Ep} {n:Nat} {x:Int} (h:StOk most names n st) (hx:0≤x∧x < 1000000) (hw:NamesOk names) (hm:1≤most):StOk most names (n+1) (stepF st x names most):=by
 unfold stepF
 dsimp only
 have keep:∀ (k:Nat) (e:Ep),Gd most names e→total (st.take k)+size e≤n+1→totalW (st.take k)+wgt e≤30*(n+1)→StOk most names (n+1) (st.take k++[e]):=fun k e ge ht htw=>by
  refine ⟨fun y hy=>?_,by rw [total_app];simpa [total] using ht,by rw [totalW_app];simpa [totalW] using htw,?_,fun _=>by simp⟩
  ·rcases List.mem_append.mp hy with hy | hy
   ·exact h.g y (List.mem_of_mem_take hy)
   ·obtain rfl:=List.mem_singleton.mp hy;exact ge
  ·have:=h.l;simp;omega
 by_cases h1:(2 < x % 8∧x % 8 < 6∧1 < st.length)∧fitsF (Ep.two (signs4.getD (x/8 % 4).toNat 0) (st.getD (st.length-2) (.num 0)) (st.getD (st.length-1) (.num 0))) most=true
 ·rw [if_pos h1]
  have hl:=h1.1.2.2
  have ga:=h.g _ (getD_mem (st:=st) (i:=st.length-2) (by omega))
  have gb:=h.g _ (getD_mem (st:=st) (i:=st.length-1) (by omega))
  have q1:=total_take st (st.length-2)
  rw [drop_last2 hl] at q1
  have e2:∀ a b:Ep,total [a,b]=size a+size b:=fun a b=>by simp [total]
  rw [e2] at q1
  have q2:=totalW_take st (st.length-2)
  rw [drop_last2 hl] at q2
  have e3:∀ a b:Ep,totalW [a,b]=wgt a+wgt b:=fun a b=>by simp [totalW]
  rw [e3] at q2
  have:=h.t
  have:=h.v
  refine keep _ _ ⟨⟨signs4_ok (x/8),ga.w,gb.w⟩,fits_iff.mp h1.2,ms_pos _⟩ ?_ ?_
  ·show _+(size _+size _+1)≤_
   omega
  ·show _+(wgt _+wgt _+7)≤_
   omega
 ·rw [if_neg h1]
  by_cases h2:(x % 8=6∧st≠[])∧fitsF (Ep.pow (st.getD (st.length-1) (.num 0)) (exps (x/8)).toNat) most=true
  ·rw [if_pos h2]
   have hl:=List.length_pos_iff.mpr h2.1.2
   have gb:=h.g _ (getD_mem (st:=st) (i:=st.length-1) (by omega))
   have q1:=total_take st (st.length-1)
   rw [drop_last1 h2.1.2] at q1
   have e1:∀ a:Ep,total [a]=size a:=fun a=>by simp [total]
   rw [e1] at q1
   have q2:=totalW_take st (st.length-1)
   rw [drop_last1 h2.1.2] at q2
   have e2:∀ a:Ep,totalW [a]=wgt a:=fun a=>by simp [totalW]
   rw [e2] at q2
   have:=h.t
   have:=h.v
   refine keep _ _ ⟨⟨gb.w,by have:=exps_le (x/8);omega⟩,fits_iff.mp h2.2,ms_pos _⟩ ?_ ?_
   ·show _+(size _+1)≤_
    omega
   ·show _+(wgt _+7)≤_
    omega
  ·rw [if_neg h2]
   by_cases h3:x % 8=7∧st≠[]
   ·rw [if_pos h3]
    have hl:=List.length_pos_iff.mpr h3.2
    have gb:=h.g _ (getD_mem (st:=st) (i:=st.length-1) (by omega))
    have q1:=total_take st (st.length-1)
    rw [drop_last1 h3.2] at q1
    have e1:∀ a:Ep,total [a]=size a:=fun a=>by simp [total]
    rw [e1] at q1
    have q2:=totalW_take st (st.length-1)
    rw [drop_last1 h3.2] at q2
    have e2:∀ a:Ep,totalW [a]=wgt a:=fun a=>by simp [totalW]
    rw [e2] at q2
    have:=h.t
    have:=h.v
    refine keep _ _ ⟨gb.w,gb.f,gb.p⟩ ?_ ?_
    ·show _+(size _+1)≤_
     omega
    ·show _+(wgt _+7)≤_
     omega
   ·rw [if_neg h3]
    obtain ⟨gl,sl⟩:=leaf_gd (n:=x/8) (most:=most) (by omega) hw hm
    have wl:wgt (leafF (x/8) names)=30:=by unfold leafF;split;rfl;split<;>rfl
    have:=keep st.length _ gl (by rw [sl,List.take_length];have:=h.t;omega) (by rw [wl,List.take_length];have:=h.v;omega)
    rwa [List.take_length] at this
theorem steps_ok {most:Int} {names:List T} (hw:NamesOk names) (hm:1≤most):∀ (ns:List Int) (st:List Ep) (n:Nat),StOk most names n st→(∀ x∈ns,0≤x∧x < 1000000)→StOk most names (n+ns.length) (ns.foldl (fun st n=>stepF st n names most) st)
 | [],st,n,h,_=>h
 | x :: ns,st,n,h,hx=>by
  rw [List.foldl_cons]
  have:=steps_ok hw hm ns _ (n+1) (step_ok h (hx x List.mem_cons_self) hw hm) fun y hy=>hx y (List.mem_cons_of_mem _ hy)
  rw [List.length_cons,show n+(ns.length+1)=n+1+ns.length from by omega];exact this
def grows (len:Int) (most:Int) (st:List Ep) (n:Nat):Ep:=(List.range n).foldl (fun f i=>growGo len most st f (i+1)) (st.getD 0 (.num 0))
theorem grows_succ (len most:Int) (st:List Ep) (n:Nat):grows len most st (n+1)=growGo len most st (grows len most st n) (n+1):=by
 unfold grows;rw [List.range_succ,List.foldl_append];rfl
theorem total_succ {st:List Ep} {n:Nat} (h:n < st.length):total (st.take (n+1))=total (st.take n)+size (st.getD n (.num 0)):=by
 rw [List.take_add_one,List.getElem?_eq_getElem h,List.getD_eq_getElem?_getD,List.getElem?_eq_getElem h,total_app]
 simp [total]
theorem totalW_succ {st:List Ep} {n:Nat} (h:n < st.length):totalW (st.take (n+1))=totalW (st.take n)+wgt (st.getD n (.num 0)):=by
 rw [List.take_add_one,List.getElem?_eq_getElem h,List.getD_eq_getElem?_getD,List.getElem?_eq_getElem h,totalW_app]
 simp [totalW]
theorem growsW {most:Int} {st:List Ep} (len:Int):∀ n,n < st.length→wgt (grows len most st n)≤totalW (st.take (n+1))+7*n
 | 0,h=>by
  rw [totalW_succ h]
  show wgt (st.getD 0 (.num 0))≤_
  omega
 | n+1,h=>by
  have h2:=growsW (most:=most) (st:=st) len n (by omega)
  rw [grows_succ,totalW_succ h]
  generalize grows len most st n=f at h2
  unfold growGo
  dsimp only
  by_cases q:fitsF (Ep.two (signs4.getD ((len+((n+1:Nat):Int)) % 4).toNat 0) f (st.getD (n+1) (.num 0))) most=true
  ·rw [if_pos q]
   show wgt f+wgt _+7≤_
   omega
  ·rw [if_neg q];omega
theorem grows_ok {most:Int} {names:List T} {st:List Ep} (hg:∀ e∈st,Gd most names e) (len:Int) (h0:st≠[]):∀ n,n < st.length→Gd most names (grows len most st n)∧size (grows len most st n)≤total (st.take (n+1))+n
 | 0,h=>by
  refine ⟨hg _ (getD_mem h),?_⟩
  rw [total_succ h]
  show size (st.getD 0 (.num 0))≤_
  omega
 | n+1,h=>by
  obtain ⟨h1,h2⟩:=grows_ok hg len h0 n (by omega)
  rw [grows_succ,total_succ h]
  generalize grows len most st n=f at h1 h2
  unfold growGo
  dsimp only
  by_cases q:fitsF (Ep.two (signs4.getD ((len+((n+1:Nat):Int)) % 4).toNat 0) f (st.getD (n+1) (.num 0))) most=true
  ·rw [if_pos q]
   refine ⟨⟨⟨signs4_ok _,h1.w,(hg _ (getD_mem h)).w⟩,fits_iff.mp q,ms_pos _⟩,?_⟩
   show size f+size _+1≤_
   omega
  ·rw [if_neg q];exact ⟨h1,by omega⟩
theorem grown_ok {ns:List Int} {names:List T} {most:Int} (hn:0 < ns.length) (hx:∀ x∈ns,0≤x∧x < 1000000) (hw:NamesOk names) (hm:1≤most):Gd most names (grownF ns names most)∧size (grownF ns names most) < 2*ns.length∧wgt (grownF ns names most)≤37*ns.length:=by
 have h:=steps_ok hw hm ns [] 0 ⟨fun e h=>by simp at h,by simp [total],by simp [totalW],by simp,fun h=>by omega⟩ hx
 rw [Nat.zero_add] at h
 unfold grownF
 dsimp only
 generalize ns.foldl (fun st n=>stepF st n names most) []=st at h
 have hl:=List.length_pos_iff.mpr (h.z hn)
 obtain ⟨h1,h2⟩:=grows_ok h.g ns.length (h.z hn) (st.length-1) (by omega)
 have e1:st.length-1+1=st.length:=by omega
 have h3:=growsW (most:=most) (st:=st) ns.length (st.length-1) (by omega)
 rw [e1,List.take_length] at h2 h3
 have:=h.t
 have:=h.l
 have:=h.v
 exact ⟨h1,by show size (grows _ _ _ _) < _;omega,by show wgt (grows _ _ _ _)≤_;omega⟩
end Xp
namespace Pw
open PySem PySem.Spec PyProof.Rows L2 Xp
abbrev LT:=Ep×Int×Int×Int
def cLT (K:PySem.W.Frag):Cod LT:=cMap (cTup K (aCons (cTr K) (aCons cInt (aCons cInt (aCons cInt aNil))))) fun p=>(p.1,p.2.1,p.2.2.1,p.2.2.2,())
section
variable {K:PySem.W.Frag} {Γ:Gam} {ta tb tc td te:TE} {α β γ ρ:Type} {c:Cod α} {d:α} {R:RR ρ} {P:Pst ρ} {tz:TS} {i j l m:Nat}
theorem lt_un {F:Hp} {v:V} {p:LT} (h:(cLT K).rep F v p):∃ a x,v=.ref a∧SqT K F a [x,.int p.2.1,.int p.2.2.1,.int p.2.2.2]∧trRep K F x p.1:=by
 obtain ⟨a,vs,rfl,hs,x,_,rfl,hx,y,_,rfl,hy,z,_,rfl,hz,u,_,rfl,hu,h⟩:=h
 cases (show _=[] from h)
 cases (show y=.int _ from hy);cases (show z=.int _ from hz);cases (show u=.int _ from hu)
 exact ⟨a,x,rfl,hs,hx⟩
theorem lt_mk {F:Hp} {a:Addr} {x:V} {p:LT} (hs:SqT K F a [x,.int p.2.1,.int p.2.2.1,.int p.2.2.2]) (hx:trRep K F x p.1):(cLT K).rep F (.ref a) p :=
 ⟨a,_,rfl,hs,x,_,rfl,hx,_,_,rfl,rfl,_,_,rfl,rfl,_,_,rfl,rfl,rfl⟩
theorem ev_q0 {p:LT} (h:Ev Γ ta (cLT K) p):Ev Γ (tOp (rIxT K) ta (tC (.int 0))) (cTr K) p.1 :=
 ev_mono_op h ev_int fun F H u v e r1 r2 Q q=>by
  obtain ⟨a,x,rfl,hs,hx⟩:=lt_un r1
  cases r2
  exact ⟨a,_,0,x,rfl,rfl,ex_t e hs,rfl,q _ F H (Ext.refl e) hx⟩
theorem ev_q1 {p:LT} (h:Ev Γ ta (cLT K) p):Ev Γ (tOp (rIxT K) ta (tC (.int 1))) cInt p.2.1 :=
 ev_mono_op h ev_int fun F H u v e r1 r2 Q q=>by
  obtain ⟨a,x,rfl,hs,hx⟩:=lt_un r1
  cases r2
  exact ⟨a,_,1,_,rfl,rfl,ex_t e hs,rfl,q _ F H (Ext.refl e) rfl⟩
theorem ev_q2 {p:LT} (h:Ev Γ ta (cLT K) p):Ev Γ (tOp (rIxT K) ta (tC (.int 2))) cInt p.2.2.1 :=
 ev_mono_op h ev_int fun F H u v e r1 r2 Q q=>by
  obtain ⟨a,x,rfl,hs,hx⟩:=lt_un r1
  cases r2
  exact ⟨a,_,2,_,rfl,rfl,ex_t e hs,rfl,q _ F H (Ext.refl e) rfl⟩
theorem ev_q3 {p:LT} (h:Ev Γ ta (cLT K) p):Ev Γ (tOp (rIxT K) ta (tC (.int 3))) cInt p.2.2.2 :=
 ev_mono_op h ev_int fun F H u v e r1 r2 Q q=>by
  obtain ⟨a,x,rfl,hs,hx⟩:=lt_un r1
  cases r2
  exact ⟨a,_,3,_,rfl,rfl,ex_t e hs,rfl,q _ F H (Ext.refl e) rfl⟩
theorem ev_mkQ {e:Ep} {x y z:Int} (h1:Ev Γ ta (cTr K) e) (h2:Ev Γ tb cInt x) (h3:Ev Γ tc cInt y) (h4:Ev Γ td cInt z):Ev Γ (tTup (tCons ta (tCons tb (tCons tc (tCons td tNil))))) (cLT K) (e,x,y,z):=fun F H σ S Q q =>
 ev_tup (K:=K) (ea_cons h1 (ea_cons h2 (ea_cons h3 (ea_cons h4 ea_nil)))) 4 (fun _ _ h=>by
  obtain ⟨_,_,rfl,_,_,_,rfl,_,_,_,rfl,_,_,_,rfl,_,h⟩:=h;cases (show _=[] from h);rfl) (by decide) F H σ S Q q
theorem sw_un4 {p:LT} (h:Ev Γ te (cLT K) p) (k:P.nx ((((Γ.set i (.val (cTr K) p.1)).set j (.val cInt p.2.1)).set l (.val cInt p.2.2.1)).set m (.val cInt p.2.2.2))) :
  SW R Γ (tAsg te (gTup K 4 (gCons (gName i) (gCons (gName j) (gCons (gName l) (gCons (gName m) gNil)))))) P:=fun F0 H0 F H σ D S o =>
 h F H σ S.sl _ fun v F1 H1 e1 r1=>by
  obtain ⟨a,x,rfl,hs,hx⟩:=lt_un r1
  exact ⟨a,_,rfl,ex_t e1.i hs,rfl,x,_,rfl,_,_,rfl,_,_,rfl,_,_,rfl,rfl,o.nx F1 H1 _ _ (((((S.grow e1).setV (c:=cTr K) (d:=p.1) hx).setV (c:=cInt) (d:=p.2.1) rfl).setV (c:=cInt) (d:=p.2.2.1) rfl).setV (c:=cInt) (d:=p.2.2.2) rfl) k⟩
theorem q_un4 {p:LT} (h:Ev Γ te (cLT K) p) (k:SW R ((((Γ.set i (.val (cTr K) p.1)).set j (.val cInt p.2.1)).set l (.val cInt p.2.2.1)).set m (.val cInt p.2.2.2)) tz P) :
  SW R Γ (tSeq (tAsg te (gTup K 4 (gCons (gName i) (gCons (gName j) (gCons (gName l) (gCons (gName m) gNil)))))) tz) P:=sw_seq (sw_un4 h k)
theorem ev_catQ {e:Ep} {p:LT} (h1:Ev Γ ta (cTr K) e) (h2:Ev Γ tb (cLT K) p):Ev Γ (tOp (rCatT K) (tTup (tCons ta tNil)) (tSl (rSlT K) tb (tPart (tC (.int 1))) tNoPart)) (cLT K) (e,p.2):=fun F H σ S Q q =>
 h1 F H σ S _ fun v F1 H1 e1 r1=>⟨sz_of (by simp),fun t ht=>by
  have x1:Ext F1 H1 F1 (upd H1 t (.tup [v])):=Ext.aside e1.i ht
  refine h2 F1 _ σ ((S.grow e1).grow x1) _ fun w F2 H2 e2 r2=>⟨1,rfl,?_⟩
  obtain ⟨a,x,rfl,hs,hx⟩:=lt_un r2
  have ht2:H2 t=some (.tup [v]):=e2.h t _ upd_same
  refine ⟨a,_,rfl,ex_t e2.i hs,?_⟩
  refine ⟨by show ¬(HT.sIx 4 0 (some 1)=0∧HT.sIx 4 4 none=4);decide,fun l hl=>?_⟩
  have hc:cutV [x,.int p.2.1,.int p.2.2.1,.int p.2.2.2] (some 1) none=[.int p.2.1,.int p.2.2.1,.int p.2.2.2]:=by
   show List.take (HT.sIx 4 4 none-HT.sIx 4 0 (some 1)) (List.drop (HT.sIx 4 0 (some 1)) [x,V.int p.2.1,V.int p.2.2.1,V.int p.2.2.2])=_
   rw [show HT.sIx 4 0 (some 1)=1 from by decide,show HT.sIx 4 4 none=4 from by decide];rfl
  rw [hc]
  have x2:Ext F2 H2 F2 (upd H2 l (.tup [.int p.2.1,.int p.2.2.1,.int p.2.2.2])):=Ext.aside e2.i hl
  refine ⟨t,l,[v],[.int p.2.1,.int p.2.2.1,.int p.2.2.2],rfl,rfl,.inl (.inl (Ex.new hl _ _ ht2)),.inl (.inl upd_same),by simp,sz_of (by simp),(fun z=>nomatch z),fun _ n hn=>?_⟩
  have xx:=(((e1.trans x1).trans e2).trans x2).trans (Ext.new (o:=.tup [v,.int p.2.1,.int p.2.2.1,.int p.2.2.2]) x2.i hn)
  refine q _ _ _ xx (lt_mk (p:=(e,p.2)) (.inl (.inl upd_same)) ?_)
  exact (cTr K).mono ((e2.f).trans (Ex.new (x2.i.free hn))) r1⟩
abbrev bindsKV:List (Key×V):=[(.inr "less",.int 2),(.inr "^",.int 3),(.inr "name",.int 4),(.inr "number",.int 4)]
theorem binds_merge:mergeK [] bindsKV=bindsKV:=by rfl
theorem ev_bindsD {e:Ep} (he:∀ s l r,e≠.two s l r) (h:Ev Γ te cT (tag e)):Ev Γ (tDGet (tDisp [(tC (.str "less"),tC (.int 2)),(tC (.str "^"),tC (.int 3)),(tC (.str "name"),tC (.int 4)),(tC (.str "number"),tC (.int 4))]) te) cInt (binds e:Int):=fun F H σ S Q q =>
 fun p hp=>⟨upd_same,bindsKV,rfl,by decide,by
  rw [binds_merge,upd_upd]
  have x1:Ext F H F (upd H p (.dK bindsKV)):=Ext.aside S.ex hp
  refine h F _ σ (S.grow x1) _ fun v F1 H1 e1 r1=>⟨p,.int (binds e:Int),rfl,?_,q _ F1 H1 (x1.trans e1) rfl⟩
  refine .inl ⟨bindsKV,.inr (Tx (tag e)),.inl (e1.h p _ upd_same),r1,?_⟩
  cases e with
  | two s l r=>exact absurd rfl (he s l r)
  | num n=>exact (by decide +kernel:some (V.int 4)=valV bindsKV (.inr (Tx tagNum)))
  | name n=>exact (by decide +kernel:some (V.int 4)=valV bindsKV (.inr (Tx tagName)))
  | pow b n=>exact (by decide +kernel:some (V.int 3)=valV bindsKV (.inr (Tx [94])))
  | less n=>exact (by decide +kernel:some (V.int 2)=valV bindsKV (.inr (Tx tagLess)))⟩
end
end Pw
namespace Lw.X
open PySem PySem.Spec PyProof.Rows L2 Pw Xp
def cE4 (K:PySem.W.Frag):Cod Ep:=cMap (cLT K) lt
theorem ev_lt4 {K:PySem.W.Frag} {Γ:Gam} {te:TE} {e:Ep} (h:Ev Γ te (cE4 K) e):Ev Γ te (cLT K) (lt e):=h
theorem ev_lt4I {K:PySem.W.Frag} {Γ:Gam} {te:TE} {e:Ep} {p:LT} (h:Ev Γ te (cLT K) p) (hp:p=lt e):Ev Γ te (cE4 K) e:=by subst hp;exact h
def sp_law_numbers (K:PySem.W.Frag):Sp:=SpN (aCons (cInts K) (aCons cInt (aCons cInt aNil))) (fun a=>∃ k n:Nat,a.2.1=k∧a.2.2.1=n∧n≤100) cInt (fun a=>numsF a.1 a.2.1.toNat a.2.2.1.toNat)
def t_law_numbers (K:PySem.W.Frag):TS:=tSeq (tAsg (tC (.int 0)) (gName 3)) (tSeq (tIfS (tTest (tOp oLt (tVar 1) (tCB (rLenQ K) (tCons (tVar 0) tNil)))) (tAsg (tOp (rIxL K) (tVar 0) (tVar 1)) (gName 3)) tNext) (tSeq (tAsg (tC (.int 0)) (gName 4)) (tSeq (tIfS (tOr (tTest (tOp oLt (tVar 3) (tC (.int 0)))) (tTest (tOp oGe (tVar 3) (tOp oPow (tC (.int 10)) (tC (.int 18)))))) (tAsg (tCB rAbs (tCons (tVar 3) tNil)) (gName 4)) tNext) (tSeq (tAsg (tOp oMod (tVar 3) (tC (.int 2147483647))) (gName 5)) (tSeq (tAsg (tLst tNil) (gName 6)) (tSeq (tFor (iRng1 (tCons (tVar 2) tNil)) (gName 7) (tSeq (tAsg (tOp oMod (tOp oAdd (tOp oAdd (tOp oMul (tVar 5) (tC (.int 39373))) (tOp oMul (tOp oMul (tC (.int 7561)) (tVar 7)) (tVar 7))) (tC (.int 1013904223))) (tC (.int 2147483647))) (gName 5)) (tIfS (tTest (tOp oGt (tVar 4) (tC (.int 0)))) (tSeq (tDrop (tBM K "list" rAppend (tVar 6) (tCons (tOp oMod (tVar 4) (tOp oPow (tC (.int 10)) (tC (.int 6)))) tNil))) (tAsg (tOp oDivX (tVar 4) (tOp oPow (tC (.int 10)) (tC (.int 6)))) (gName 4))) (tDrop (tBM K "list" rAppend (tVar 6) (tCons (tOp oMod (tOp oMod (tOp oMul (tVar 5) (tC (.int 65539))) (tC (.int 998244353))) (tOp oPow (tC (.int 10)) (tC (.int 6)))) tNil)))))) (tRet (tVar 6))))))))
theorem rd_law_numbers (K:PySem.W.Frag) (s:List Int) (k n:Nat) (hn:n≤100):SW (rNew cInt) [.val (cInts K) s,.val cInt (k:Int),.val cInt (n:Int),.any,.any,.any,.any,.any] (t_law_numbers K) (PF (numsF s k n)):=by
 unfold t_law_numbers
 have hc:∃ c,c=s.getD k 0:=⟨_,rfl⟩
 obtain ⟨c,hc⟩:=hc
 have hr:∃ r,r=restN c:=⟨_,rfl⟩
 obtain ⟨r,hr⟩:=hr
 refine q_asg' ev_int ?_
 refine q_join [.val (cInts K) s,.val cInt (k:Int),.val cInt (n:Int),.val cInt c,.any,.any,.any,.any] ?_ ?_
 ·refine sw_when (evT_test (ev_lt (ev_var rfl) (ev_len (ev_var rfl)))) (fun hb=>?_) (fun hb=>?_)
  ·have hb:=of_decide_eq_true hb
   refine sw_asg (ev_is (ev_ixG 0 (ev_var rfl) (ev_var rfl) ⟨by omega,hb⟩) (d':=c) (by rw [hc,Int.toNat_natCast])) (Wk.refl _)
  ·have hb:=of_decide_eq_false hb
   have:c=0:=by rw [hc,List.getD_eq_getElem?_getD,List.getElem?_eq_none (by omega)];rfl
   rw [this];exact Wk.refl _
 refine q_asg' ev_int ?_
 refine q_join [.val (cInts K) s,.val cInt (k:Int),.val cInt (n:Int),.val cInt c,.val cInt r,.any,.any,.any] ?_ ?_
 ·refine sw_when (evT_or (evT_test (ev_lt (ev_var rfl) ev_int)) fun _=>evT_test (ev_ge (ev_var rfl) (ev_powL (r:=1000000000000000000) (by decide)))) (fun hb=>?_) (fun hb=>?_)
  ·simp only [Bool.or_eq_true,decide_eq_true_eq] at hb
   exact sw_asg (ev_is (ev_abs (ev_var rfl)) (d':=r) (by rw [hr];unfold restN;rw [if_pos hb])) (Wk.refl _)
  ·simp only [Bool.or_eq_false_iff,decide_eq_false_iff_not] at hb
   have:r=0:=by rw [hr];unfold restN;rw [if_neg (by intro z;rcases z with z | z;exact hb.1 z;exact hb.2 z)]
   rw [this];exact Wk.refl _
 refine q_asg' (ev_mod (ev_var rfl) ev_int (by decide)) ?_
 refine q_asgN (c:=cInt) (evN_lst el_nil (by simp)) (fun xs hx=>?_)
 subst hx
 refine q_forR1G (fun i=>[.val (cInts K) s,.val cInt (k:Int),.val cInt (n:Int),.val cInt c,.val cInt (nrun c i).2.1,.val cInt (nrun c i).1,.own cInt (nrun c i).2.2,.any]) (ev_var rfl) (by omega) (by omega) ?_ (fun i hi=>?_) ?_
 ·show Wk _ [_,_,_,_,.val cInt (restN c),_,_,_]
  rw [←hr];exact Wk.refl _
 ·obtain ⟨h1,h2,h3,h4⟩:=nrun_ok c i
  generalize hst:nrun c i=st at h1 h2 h3 h4 ⊢
  have hi':i < 100:=by omega
  refine q_asg' (ev_is (ev_mod (ev_add (ev_add (ev_mulS (ev_var rfl) ev_int (by omega) (by omega)) (ev_mulS (ev_mulS ev_int (ev_var rfl) (by omega) (by omega)) (ev_var rfl) (by omega) (by omega))) ev_int) ev_int (by decide)) (d':=(nstep st i).1) ?_) ?_
  ·unfold nstep;dsimp only;split<;>rfl
  have hnx:nrun c (i+1)=nstep st i:=by rw [nrun_succ,hst]
  have hm:0≤(nstep st i).1∧(nstep st i).1 < 2147483647:=by have:=(nrun_ok c (i+1)).1;rw [hnx] at this;exact this
  refine sw_if (evT_test (ev_gt (ev_var rfl) ev_int)) (fun hb=>?_) (fun hb=>?_)
  ·have hb:=of_decide_eq_true hb
   have e1:nstep st i=((nstep st i).1,st.2.1.fdiv 1000000,st.2.2++[st.2.1 % 1000000]):=by unfold nstep;dsimp only;rw [if_pos hb]
   refine q_app (c:=cInt) rfl (ev_mod (ev_var rfl) (ev_powL (r:=1000000) (by decide)) (by decide)) (by omega) ?_
   refine sw_asg (ev_divX 8000 (ev_var rfl) (ev_powL (r:=1000000) (by decide)) (by decide) (by unfold Bt;exact Nat.lt_of_lt_of_le (show (1000000:Int).natAbs < 2^20 by decide) (Nat.pow_le_pow_right (by decide) (by decide)))) ?_
   rw [hnx,e1];exact .same (.same (.same (.same (.same (.same (.same (.any .nil)))))))
  ·have hb:=of_decide_eq_false hb
   have e1:nstep st i=((nstep st i).1,st.2.1,st.2.2++[(nstep st i).1*65539 % 998244353 % 1000000]):=by unfold nstep;dsimp only;rw [if_neg hb]
   refine sw_app (c:=cInt) rfl (ev_mod (ev_mod (ev_mulS (ev_var rfl) ev_int (by omega) (by omega)) ev_int (by decide)) (ev_powL (r:=1000000) (by decide)) (by decide)) (by omega) ?_
   rw [hnx]
   have e2:(nstep st i).2.1=st.2.1:=by rw [e1]
   have e3:(nstep st i).2.2=st.2.2++[(nstep st i).1*65539 % 998244353 % 1000000]:=by rw [e1]
   show Wk _ [_,_,_,_,.val cInt (nstep st i).2.1,.val cInt (nstep st i).1,.own cInt (nstep st i).2.2,.any]
   rw [e2,e3];exact .same (.same (.same (.same (.same (.same (.same (.any .nil)))))))
 ·rw [Int.toNat_natCast]
  refine sw_retO (c:=cInt) rfl ?_
  show _=numsF s k n
  unfold numsF;rw [hc]
def sp_law_names (K:PySem.W.Frag):Sp:=SpN (aCons (cInts K) aNil) (fun a=>a.1.length≤10∧∀ x∈a.1,0≤x∧x < 1000000) cT (fun a=>namesF a.1)
def t_law_names (K:PySem.W.Frag):TS:=tSeq (tAsg (tC (.str "abcdefghijklmnopqrstuvwxyz")) (gName 1)) (tSeq (tAsg (tLst tNil) (gName 2)) (tSeq (tFor (iList K (tVar 0)) (gName 3) (tSeq (tAsg (tC (.str "")) (gName 4)) (tSeq (tFor (iList K (tLst (tCons (tC (.int 8)) (tCons (tC (.int 208)) (tCons (tC (.int 5408)) tNil))))) (gName 5) (tAsg (tOp (rCatS) (tVar 4) (tOp (rIxS) (tVar 1) (tOp oMod (tOp oDivX (tVar 3) (tVar 5)) (tC (.int 26))))) (gName 4))) (tSeq (tAsg (tSl (rSlS) (tOp (rMulS) (tVar 4) (tC (.int 3))) tNoPart (tPart (tOp oAdd (tC (.int 1)) (tOp oMod (tVar 3) (tC (.int 8)))))) (gName 4)) (tSeq (tAsg (tC (.int 0)) (gName 6)) (tSeq (tWhile (tTest (tOp (rIn K false) (tVar 4) (tVar 2))) (tSeq (tAsg (tOp (rIxS) (tVar 1) (tVar 6)) (gName 4)) (tAsg (tOp oAdd (tVar 6) (tC (.int 1))) (gName 6)))) (tDrop (tBM K "list" rAppend (tVar 2) (tCons (tVar 4) tNil))))))))) (tRet (tVar 2))))
theorem rd_law_names (K:PySem.W.Frag) (ns:List Int) (hl:ns.length≤10) (hx:∀ x∈ns,0≤x∧x < 1000000):SW (rNew cT) [.val (cInts K) ns,.any,.any,.any,.any,.any,.any] (t_law_names K) (PF (namesF ns)):=by
 unfold t_law_names
 have hfold:∀ i,i < ns.length→(ns.take (i+1)).foldl nameStep []=nameStep ((ns.take i).foldl nameStep []) (ns.getD i 0):=fun i hi=>by
  rw [List.take_add_one,List.getElem?_eq_getElem hi,List.getD_eq_getElem?_getD,List.getElem?_eq_getElem hi,List.foldl_append];rfl
 have hok:∀ i,i≤ns.length→NamesOk ((ns.take i).foldl nameStep [])∧((ns.take i).foldl nameStep []).length=i:=fun i hi=>by
  have:=namesFold_ok (ns.take i) [] ⟨fun x h=>by simp at h,by simp⟩ (by simp;omega) fun x h=>(hx x (List.mem_of_mem_take h)).1
  rw [List.length_take,Nat.min_eq_left hi] at this
  simpa using this
 refine q_asg' ev_lets ?_
 refine q_asgN (c:=cT) (evN_lst el_nil (by simp)) (fun xs hx'=>?_)
 subst hx'
 refine q_forLG (fun i=>[.val (cInts K) ns,.val cT lets,.own cT ((ns.take i).foldl nameStep []),.any,.any,.any,.any]) (ev_var rfl) (Wk.refl _) (fun i d hd=>?_) ?_
 ·have hi:i < ns.length:=(List.getElem?_eq_some_iff.mp hd).1
  have hdx:=hx d (List.mem_of_getElem? hd)
  have hdd:ns.getD i 0=d:=by rw [List.getD_eq_getElem?_getD,hd];rfl
  obtain ⟨hfo,hfl⟩:=hok i (by omega)
  have hnx:=hfold i hi
  rw [hdd] at hnx
  rw [hnx]
  generalize (ns.take i).foldl nameStep []=fd at hfo hfl
  refine q_asg' (ev_t [] (by decide +kernel)) ?_
  have ix:∀ {Γ:Gam} {tb tc:TE} {x:Int},Γ[1]?=some (.val cT lets)→Ev Γ tb cInt d→Ev Γ tc cInt x→(x=8∨x=208∨x=5408)→Ev Γ (tOp rIxS (tVar 1) (tOp oMod (tOp oDivX tb tc) (tC (.int 26)))) cT [letAt d x]:=fun {Γ tb tc x} e1 h1 h2 hx=>by
   have hb:Bt 8000 x:=by
    unfold Bt
    exact Nat.lt_of_lt_of_le (show x.natAbs < 2^20 by rcases hx with rfl | rfl | rfl<;>decide) (Nat.pow_le_pow_right (by decide) (by decide))
   have h0:x≠0:=by rcases hx with rfl | rfl | rfl<;>decide
   exact ev_ixSG (ev_var e1) (ev_mod (ev_divX 8000 h1 h2 h0 hb) ev_int (by decide)) ⟨by omega,by show _ < ((26:Nat):Int);omega⟩ (by decide)
  refine q_forLG (fun m=>[.val (cInts K) ns,.val cT lets,.own cT fd,.val cInt d,.val cT ((word3 d).take m),.any,.any]) (evN_lst (el_cons ev_int (el_cons ev_int (el_cons ev_int el_nil))) (by simp)).ev (Wk.refl _) (fun m x hm=>?_) ?_
  ·have hm3:m < 3:=(List.getElem?_eq_some_iff.mp hm).1
   have hxx:(m=0∧x=8)∨(m=1∧x=208)∨(m=2∧x=5408):=by
    have:m=0∨m=1∨m=2:=by omega
    rcases this with rfl | rfl | rfl<;>simp at hm<;>simp [hm]
   refine sw_asg (ev_is (ev_catS (ev_var rfl) (ix rfl (ev_var rfl) (ev_var rfl) (by omega)) (by simp;omega)) (d':=(word3 d).take (m+1)) ?_) (.same (.same (.same (.same (.same (.any (.any .nil)))))))
   rcases hxx with ⟨rfl,rfl⟩ | ⟨rfl,rfl⟩ | ⟨rfl,rfl⟩<;>rfl
  ·have h8:0≤d % 8∧d % 8 < 8:=by omega
   refine q_asg' (ev_is (ev_slS0 (ev_mulS' (ev_var rfl) ev_int ⟨by decide,by decide⟩ (by simp [word3])) eo_none (eo_some (ev_add ev_int (ev_mod (ev_var rfl) ev_int (by decide)))) (by omega) (by simp [word3])) (d':=wordF d) rfl) ?_
   refine q_asg' ev_int ?_
   refine q_while (fun x:Nat×T=>[.val (cInts K) ns,.val cT lets,.own cT fd,.val cInt d,.val cT x.2,.any,.val cInt (x.1:Int)]) (fun x=>x.1≤26∧(∀ j,j < x.1→[letL.getD j 0]∈fd∨j+1=x.1)∧(0 < x.1→x.2=[letL.getD (x.1-1) 0])∧pickN fd (wordF d)=pickGo fd (26-x.1) x.1 x.2) (fun x=>26-x.1) (fun x=>decide (x.2∈fd)) (0,wordF d)
    (.same (.same (.same (.same (.same (.any (.same .nil))))))) ⟨by show 0≤26;decide,fun j hj=>by dsimp only at hj;omega,fun h=>by dsimp only at h;omega,rfl⟩ (fun x hx=>evT_test (ev_inTO (ev_var rfl) rfl)) (fun x hx hb=>?_) (fun x hx hb=>?_)
   ·obtain ⟨k,w⟩:=x
    obtain ⟨g1,g2,g3,g4⟩:=hx
    have hb:=of_decide_eq_true hb
    dsimp only at g1 g2 g3 g4 hb ⊢
    have hall:∀ j,j < k→[letL.getD j 0]∈fd:=fun j hj=>by
     rcases g2 j hj with z | z
     ·exact z
     ·have:=g3 (by omega);rw [this] at hb;rw [show j=k-1 from by omega];exact hb
    have hk:=tried_le hall g1
    refine q_asg' (ev_is (ev_ixSG (ev_var rfl) (ev_var rfl) ⟨by omega,by show _ < ((26:Nat):Int);omega⟩ (by decide)) (d':=[letL.getD k 0]) (by rw [Int.toNat_natCast];rfl)) ?_
    refine sw_asg (ev_is (ev_add (ev_var rfl) ev_int) (d':=((k+1:Nat):Int)) (by omega)) ⟨(k+1,[letL.getD k 0]),Wk.refl _,⟨by dsimp only;omega,fun j hj=>?_,fun _=>rfl,?_⟩,by dsimp only;omega⟩
    ·dsimp only at hj ⊢
     by_cases z:j=k
     ·exact .inr (by omega)
     ·exact .inl (hall j (by omega))
    ·dsimp only
     rw [g4,show 26-k=(26-(k+1))+1 from by omega,pickGo,if_pos hb]
   ·obtain ⟨k,w⟩:=x
    obtain ⟨g1,g2,g3,g4⟩:=hx
    have hb:=of_decide_eq_false hb
    dsimp only at g1 g2 g3 g4 hb ⊢
    have e1:pickN fd (wordF d)=w:=by
     rw [g4]
     cases 26-k with
     | zero=>rfl
     | succ j=>rw [pickGo,if_neg hb]
    refine sw_app (c:=cT) rfl (ev_var rfl) (by omega) ?_
    show Wk _ [_,_,.own cT (fd++[pickN fd (wordF d)]),_,_,_,_]
    rw [e1]
    exact .same (.same (.same (.any (.any (.any (.any .nil))))))
 ·rw [List.take_length]
  exact sw_retO (c:=cT) rfl rfl
def sp_law_leaf (K:PySem.W.Frag):Sp:=SpF (aCons cInt (aCons (cList K cT) aNil)) (fun a=>(0≤a.1∧a.1 < 1000000)∧a.2.1.length≤100) (cE4 K) (fun a=>leafF a.1 a.2.1)
def t_law_leaf (K:PySem.W.Frag):TS:=tSeq (tIfS (tAnd (tTest (tOp oLt (tOp oMod (tVar 0) (tC (.int 5))) (tC (.int 3)))) (tTest (tOp (rNilQ K true) (tVar 1) (tLst tNil)))) (tRet (tTup (tCons (tTup (tCons (tC (.str "name")) (tCons (tOp (rIxL K) (tVar 1) (tOp oModX (tOp oDiv (tVar 0) (tC (.int 5))) (tCB (rLenQ K) (tCons (tVar 1) tNil)))) tNil))) (tCons (tC (.int 1)) (tCons (tC (.int 0)) (tCons (tC (.int 1)) tNil)))))) tNext) (tSeq (tIfS (tAnd (tTest (tOp rEq (tOp oMod (tVar 0) (tC (.int 5))) (tC (.int 4)))) (tTest (tOp rEq (tOp oMod (tOp oDiv (tVar 0) (tC (.int 5))) (tC (.int 8))) (tC (.int 0))))) (tSeq (tAsg (tOp oAdd (tOp oMul (tOp oAdd (tVar 0) (tC (.int 1))) (tOp oPow (tC (.int 10)) (tC (.int 20)))) (tOp oMul (tVar 0) (tC (.int 7919)))) (gName 2)) (tRet (tTup (tCons (tTup (tCons (tC (.str "number")) (tCons (tVar 2) tNil))) (tCons (tC (.int 0)) (tCons (tC (.int 0)) (tCons (tC (.int 30)) tNil))))))) tNext) (tRet (tTup (tCons (tTup (tCons (tC (.str "number")) (tCons (tOp oModX (tOp oDiv (tVar 0) (tC (.int 5))) (tOp (rIxL K) (tLst (tCons (tC (.int 13)) (tCons (tC (.int 3)) (tCons (tC (.int 1000)) tNil)))) (tOp oMod (tOp oDiv (tVar 0) (tC (.int 200))) (tC (.int 3))))) tNil))) (tCons (tC (.int 0)) (tCons (tC (.int 0)) (tCons (tC (.int 3)) tNil)))))))
theorem rd_law_leaf (K:PySem.W.Frag) (n:Int) (ws:List T) (hn:0≤n∧n < 1000000) (hl:ws.length≤100):SW (rVal (cE4 K)) [.val cInt n,.val (cList K cT) ws,.any] (t_law_leaf K) (PF (leafF n ws)):=by
 unfold t_law_leaf
 have b8:∀ x:Int,x.natAbs < 2^20→Bt 8000 x:=fun x h=>Nat.lt_of_lt_of_le h (Nat.pow_le_pow_right (by decide) (by decide))
 refine q_when (b:=decide (n % 5 < 3∧ws≠[])) (evT_is (evT_and (evT_test (ev_lt (ev_mod (ev_var rfl) ev_int (by decide)) ev_int)) fun _=>evT_test (ev_neNil (ev_var rfl))) ?_) (fun hb=>?_) (fun hb=>?_)
 ·rw [Bool.decide_and];congr 1;cases ws<;>simp
 ·have hb:=of_decide_eq_true hb
  have hw:=List.length_pos_iff.mpr hb.2
  have hm:0≤(n/5).fmod (ws.length:Int)∧(n/5).fmod (ws.length:Int) < ws.length:=by
   rw [Int.fmod_eq_emod_of_nonneg _ (by omega)]
   exact ⟨Int.emod_nonneg _ (by omega),Int.emod_lt_of_pos _ (by omega)⟩
  have e1:leafF n ws=.name (ws.getD ((n/5).fmod ws.length).toNat []):=by unfold leafF;rw [if_pos hb]
  rw [e1]
  refine sw_ret (ev_lt4I (ev_mkQ (ev_mkTrName (ev_t tagName (by decide +kernel)) (ev_ixG [] (ev_var rfl) (ev_modX (ev_div (ev_var rfl) ev_int (by decide)) (ev_len (ev_var rfl)) (by omega)) hm)) ev_int ev_int ev_int) rfl) rfl
 ·have hb:=of_decide_eq_false hb
  refine q_when (b:=decide (n % 5=4∧n/5 % 8=0)) (evT_is (evT_and (evT_test (ev_eqI (ev_mod (ev_var rfl) ev_int (by decide)) ev_int)) fun _=>evT_test (ev_eqI (ev_mod (ev_div (ev_var rfl) ev_int (by decide)) ev_int (by decide)) ev_int)) (by rw [Bool.decide_and])) (fun hc=>?_) (fun hc=>?_)
  ·have hc:=of_decide_eq_true hc
   refine q_asg' (ev_is (ev_add (ev_mul 64 80 (ev_add (ev_var rfl) ev_int) (ev_powL (r:=100000000000000000000) (by decide)) (by unfold Bt;omega) (by unfold Bt;decide)) (ev_mulS (ev_var rfl) ev_int (by omega) (by omega))) (d':=(((n+1)*100000000000000000000+n*7919).toNat:Int)) (by omega)) ?_
   have e1:leafF n ws=.num ((n+1)*100000000000000000000+n*7919).toNat:=by unfold leafF;rw [if_neg hb,if_pos hc]
   rw [e1]
   refine sw_ret (ev_lt4I (ev_mkQ (ev_mkTrNum (ev_t tagNum (by decide +kernel)) (ev_var rfl)) ev_int ev_int ev_int) ?_) rfl
   show _=(_,(0:Int),(0:Int),if _ < 1000 then (3:Int) else 30)
   rw [if_neg (by omega)]
  ·have hc:=of_decide_eq_false hc
   have hd:∃ d:Int,d=[13,3,1000].getD (n/200 % 3).toNat 1∧0 < d∧d≤1000:=by
    have:n/200 % 3=0∨n/200 % 3=1∨n/200 % 3=2:=by omega
    rcases this with h | h | h<;>rw [h]<;>exact ⟨_,rfl,by decide,by decide⟩
   obtain ⟨d,hd,h0,h3⟩:=hd
   have e1:leafF n ws=.num ((n/5).fmod d).toNat:=by unfold leafF;rw [if_neg hb,if_neg hc,←hd]
   have hm:0≤(n/5).fmod d∧(n/5).fmod d < d:=by
    rw [Int.fmod_eq_emod_of_nonneg _ (by omega)]
    exact ⟨Int.emod_nonneg _ (by omega),Int.emod_lt_of_pos _ h0⟩
   rw [e1]
   refine sw_ret (ev_lt4I (ev_mkQ (ev_mkTrNum (ev_t tagNum (by decide +kernel)) (ev_is (ev_modX (ev_div (ev_var rfl) ev_int (by decide)) (ev_is (ev_ixG 1 (evN_lst (el_cons ev_int (el_cons ev_int (el_cons ev_int el_nil))) (by simp)).ev (ev_mod (ev_div (ev_var rfl) ev_int (by decide)) ev_int (by decide)) ⟨by omega,by show _ < ((3:Nat):Int);omega⟩) hd.symm) (by omega)) (d':=(((n/5).fmod d).toNat:Int)) (by omega))) ev_int ev_int ev_int) ?_) rfl
   show _=(_,(0:Int),(0:Int),if _ < 1000 then (3:Int) else 30)
   rw [if_pos (by omega)]
def Sg (s:Nat):Prop:=s=43∨s=45∨s=42∨s=47
def sp_law_joined (K:PySem.W.Frag):Sp:=SpF (aCons cT (aCons (cE4 K) (aCons (cE4 K) aNil))) (fun a=>∃ s,a.1=[s]∧Sg s) (cE4 K) (fun a=>.two (a.1.headD 0) a.2.1 a.2.2.1)
def t_law_joined (K:PySem.W.Frag):TS:=tSeq (tIfS (tOr (tTest (tOp rEq (tVar 0) (tC (.str "+")))) (tTest (tOp rEq (tVar 0) (tC (.str "-"))))) (tSeq (tAsg (tCB rMaxI (tCons (tOp oAdd (tOp (rIxT K) (tVar 1) (tC (.int 1))) (tOp (rIxT K) (tVar 2) (tC (.int 2)))) (tCons (tOp oAdd (tOp (rIxT K) (tVar 2) (tC (.int 1))) (tOp (rIxT K) (tVar 1) (tC (.int 2)))) tNil))) (gName 3)) (tRet (tTup (tCons (tTup (tCons (tVar 0) (tCons (tOp (rIxT K) (tVar 1) (tC (.int 0))) (tCons (tOp (rIxT K) (tVar 2) (tC (.int 0))) tNil)))) (tCons (tVar 3) (tCons (tOp oAdd (tOp (rIxT K) (tVar 1) (tC (.int 2))) (tOp (rIxT K) (tVar 2) (tC (.int 2)))) (tCons (tOp oAdd (tOp oAdd (tOp (rIxT K) (tVar 1) (tC (.int 3))) (tOp (rIxT K) (tVar 2) (tC (.int 3)))) (tC (.int 1))) tNil))))))) tNext) (tSeq (tIfS (tTest (tOp rEq (tVar 0) (tC (.str "*")))) (tRet (tTup (tCons (tTup (tCons (tVar 0) (tCons (tOp (rIxT K) (tVar 1) (tC (.int 0))) (tCons (tOp (rIxT K) (tVar 2) (tC (.int 0))) tNil)))) (tCons (tOp oAdd (tOp (rIxT K) (tVar 1) (tC (.int 1))) (tOp (rIxT K) (tVar 2) (tC (.int 1)))) (tCons (tOp oAdd (tOp (rIxT K) (tVar 1) (tC (.int 2))) (tOp (rIxT K) (tVar 2) (tC (.int 2)))) (tCons (tOp oAdd (tOp (rIxT K) (tVar 1) (tC (.int 3))) (tOp (rIxT K) (tVar 2) (tC (.int 3)))) tNil)))))) tNext) (tRet (tTup (tCons (tTup (tCons (tVar 0) (tCons (tOp (rIxT K) (tVar 1) (tC (.int 0))) (tCons (tOp (rIxT K) (tVar 2) (tC (.int 0))) tNil)))) (tCons (tOp oAdd (tOp (rIxT K) (tVar 1) (tC (.int 1))) (tOp (rIxT K) (tVar 2) (tC (.int 2)))) (tCons (tOp oAdd (tOp (rIxT K) (tVar 1) (tC (.int 2))) (tOp (rIxT K) (tVar 2) (tC (.int 1)))) (tCons (tOp oAdd (tOp (rIxT K) (tVar 1) (tC (.int 3))) (tOp (rIxT K) (tVar 2) (tC (.int 3)))) tNil)))))))
theorem rd_law_joined (K:PySem.W.Frag) (s:Nat) (a b:Ep) (hs:Sg s):SW (rVal (cE4 K)) [.val cT [s],.val (cE4 K) a,.val (cE4 K) b,.any] (t_law_joined K) (PF (.two s a b)):=by
 unfold t_law_joined
 refine q_when (evT_or (evT_test (ev_eqT (ev_var rfl) (ev_t [43] (by decide +kernel)))) fun _=>evT_test (ev_eqT (ev_var rfl) (ev_t [45] (by decide +kernel)))) (fun hb=>?_) (fun hb=>?_)
 ·have hb':s=43∨s=45:=by simpa using hb
  refine q_asg' (ev_max (ev_add (ev_q1 (ev_lt4 (ev_var rfl))) (ev_q2 (ev_lt4 (ev_var rfl)))) (ev_add (ev_q1 (ev_lt4 (ev_var rfl))) (ev_q2 (ev_lt4 (ev_var rfl))))) ?_
  refine sw_ret (ev_lt4I (ev_mkQ (ev_mkTrTwo (s:=s) (ev_var rfl) (ev_q0 (ev_lt4 (ev_var rfl))) (ev_q0 (ev_lt4 (ev_var rfl)))) (ev_var rfl) (ev_add (ev_q2 (ev_lt4 (ev_var rfl))) (ev_q2 (ev_lt4 (ev_var rfl)))) (ev_add (ev_add (ev_q3 (ev_lt4 (ev_var rfl))) (ev_q3 (ev_lt4 (ev_var rfl)))) ev_int)) ?_) rfl
  show _=(Ep.two s a b,ms (.two s a b));rw [ms_add hb'];rfl
 ·have hb':¬(s=43∨s=45):=by simpa using hb
  refine q_when (evT_test (ev_eqT (ev_var rfl) (ev_t [42] (by decide +kernel)))) (fun hc=>?_) (fun hc=>?_)
  ·have hc':s=42:=by simpa using hc
   refine sw_ret (ev_lt4I (ev_mkQ (ev_mkTrTwo (s:=s) (ev_var rfl) (ev_q0 (ev_lt4 (ev_var rfl))) (ev_q0 (ev_lt4 (ev_var rfl)))) (ev_add (ev_q1 (ev_lt4 (ev_var rfl))) (ev_q1 (ev_lt4 (ev_var rfl)))) (ev_add (ev_q2 (ev_lt4 (ev_var rfl))) (ev_q2 (ev_lt4 (ev_var rfl)))) (ev_add (ev_q3 (ev_lt4 (ev_var rfl))) (ev_q3 (ev_lt4 (ev_var rfl))))) ?_) rfl
   show _=(Ep.two s a b,ms (.two s a b));rw [ms_mul hc'];rfl
  ·have hc':¬s=42:=by simpa using hc
   refine sw_ret (ev_lt4I (ev_mkQ (ev_mkTrTwo (s:=s) (ev_var rfl) (ev_q0 (ev_lt4 (ev_var rfl))) (ev_q0 (ev_lt4 (ev_var rfl)))) (ev_add (ev_q1 (ev_lt4 (ev_var rfl))) (ev_q2 (ev_lt4 (ev_var rfl)))) (ev_add (ev_q2 (ev_lt4 (ev_var rfl))) (ev_q1 (ev_lt4 (ev_var rfl)))) (ev_add (ev_q3 (ev_lt4 (ev_var rfl))) (ev_q3 (ev_lt4 (ev_var rfl))))) ?_) rfl
   show _=(Ep.two s a b,ms (.two s a b));rw [ms_div hb' hc'];rfl
def sp_law_fits (K:PySem.W.Frag):Sp:=SpF (aCons (cE4 K) (aCons cInt aNil)) (fun _=>True) cBool (fun a=>fitsF a.1 a.2.1)
def t_law_fits (K:PySem.W.Frag):TS:=tRet (tAndV (tOp oLe (tCB rMaxI (tCons (tOp (rIxT K) (tVar 0) (tC (.int 1))) (tCons (tOp (rIxT K) (tVar 0) (tC (.int 2))) tNil))) (tVar 1)) (tOp oLe (tOp (rIxT K) (tVar 0) (tC (.int 3))) (tC (.int 150))))
theorem rd_law_fits (K:PySem.W.Frag) (e:Ep) (m:Int):SW (rVal cBool) [.val (cE4 K) e,.val cInt m] (t_law_fits K) (PF (fitsF e m)):=by
 unfold t_law_fits
 exact sw_ret (ev_andV (ev_le (ev_max (ev_q1 (ev_lt4 (ev_var rfl))) (ev_q2 (ev_lt4 (ev_var rfl)))) (ev_var rfl)) fun _=>ev_le (ev_q3 (ev_lt4 (ev_var rfl))) ev_int) rfl
theorem ev_joined {K:PySem.W.Frag} {Γ:Gam} {ta tb tc:TE} {E:XK} {s:Nat} {a b:Ep} (h1:Ev Γ ta cT [s]) (h2:Ev Γ tb (cE4 K) a) (h3:Ev Γ tc (cE4 K) b) (hs:Sg s):Ev Γ (tCall (sp_law_joined K) [] E (tCons ta (tCons tb (tCons tc tNil)))) (cE4 K) (.two s a b) :=
 ev_call (f:=fun a:T×Ep×Ep×Unit=>Ep.two (a.1.headD 0) a.2.1 a.2.2.1) (pre:=fun a:T×Ep×Ep×Unit=>∃ s,a.1=[s]∧Sg s) (ea_cons h1 (ea_cons h2 (ea_cons h3 ea_nil))) ⟨s,rfl,hs⟩
theorem ev_fits {K:PySem.W.Frag} {Γ:Gam} {ta tb:TE} {E:XK} {e:Ep} {m:Int} (h1:Ev Γ ta (cE4 K) e) (h2:Ev Γ tb cInt m):Ev Γ (tCall (sp_law_fits K) [] E (tCons ta (tCons tb tNil))) cBool (fitsF e m) :=
 ev_call (f:=fun a:Ep×Int×Unit=>fitsF a.1 a.2.1) (pre:=fun _=>True) (ea_cons h1 (ea_cons h2 ea_nil)) trivial
theorem ev_leaf {K:PySem.W.Frag} {Γ:Gam} {ta tb:TE} {E:XK} {n:Int} {ws:List T} (h1:Ev Γ ta cInt n) (h2:Ev Γ tb (cList K cT) ws) (hn:0≤n∧n < 1000000) (hl:ws.length≤100):Ev Γ (tCall (sp_law_leaf K) [] E (tCons ta (tCons tb tNil))) (cE4 K) (leafF n ws) :=
 ev_call (f:=fun a:Int×List T×Unit=>leafF a.1 a.2.1) (pre:=fun a:Int×List T×Unit=>(0≤a.1∧a.1 < 1000000)∧a.2.1.length≤100) (ea_cons h1 (ea_cons h2 ea_nil)) ⟨hn,hl⟩
def sp_law_step (K:PySem.W.Frag):Sp:=SpN (aCons (cList K (cE4 K)) (aCons cInt (aCons (cList K cT) (aCons cInt aNil)))) (fun a=>(0≤a.2.1∧a.2.1 < 1000000)∧a.1.length≤1000∧a.2.2.1.length≤100∧∀ e∈a.1,(ms e).1≤1000∧(ms e).2.1≤1000∧(ms e).2.2≤1000) (cE4 K) (fun a=>stepF a.1 a.2.1 a.2.2.1 a.2.2.2.1)
def t_law_step (K:PySem.W.Frag):TS:=tSeq (tAsg (tOp oMod (tVar 1) (tC (.int 8))) (gName 4)) (tSeq (tAsg (tOp oDiv (tVar 1) (tC (.int 8))) (gName 5)) (tSeq (tIfS (tAnd (tTest (tOp oGt (tVar 4) (tC (.int 2)))) (tAnd (tTest (tOp oLt (tVar 4) (tC (.int 6)))) (tTest (tOp oGt (tCB (rLenQ K) (tCons (tVar 0) tNil)) (tC (.int 1)))))) (tSeq (tAsg (tCall (sp_law_joined K) [] E0 (tCons (tOp (rIxS) (tC (.str "+-*/")) (tOp oMod (tVar 5) (tC (.int 4)))) (tCons (tOp (rIxL K) (tVar 0) (tUn oNeg (tC (.int 2)))) (tCons (tOp (rIxL K) (tVar 0) (tUn oNeg (tC (.int 1)))) tNil)))) (gName 6)) (tIfS (tB (tCall (sp_law_fits K) [] E0 (tCons (tVar 6) (tCons (tVar 3) tNil)))) (tRet (tOp (rCatQ K) (tSl (rSlL K) (tVar 0) tNoPart (tPart (tUn oNeg (tC (.int 2))))) (tLst (tCons (tVar 6) tNil)))) tNext)) tNext) (tSeq (tIfS (tAnd (tTest (tOp rEq (tVar 4) (tC (.int 6)))) (tTest (tOp (rNilQ K true) (tVar 0) (tLst tNil)))) (tSeq (tAsg (tOp (rIxL K) (tVar 0) (tUn oNeg (tC (.int 1)))) (gTup K 4 (gCons (gName 7) (gCons (gName 8) (gCons (gName 9) (gCons (gName 10) (gNil))))))) (tSeq (tAsg (tOp (rIxL K) (tLst (tCons (tC (.int 2)) (tCons (tC (.int 3)) (tCons (tC (.int 0)) (tCons (tC (.int 1)) (tCons (tOp oMod (tOp oDiv (tVar 5) (tC (.int 5))) (tC (.int 13))) tNil)))))) (tOp oMod (tVar 5) (tC (.int 5)))) (gName 11)) (tSeq (tAsg (tTup (tCons (tTup (tCons (tC (.str "^")) (tCons (tVar 7) (tCons (tVar 11) tNil)))) (tCons (tOp oMul (tVar 8) (tVar 11)) (tCons (tOp oMul (tVar 9) (tVar 11)) (tCons (tOp oMul (tVar 10) (tCB rMaxI (tCons (tC (.int 1)) (tCons (tVar 11) tNil)))) tNil))))) (gName 6)) (tIfS (tB (tCall (sp_law_fits K) [] E0 (tCons (tVar 6) (tCons (tVar 3) tNil)))) (tRet (tOp (rCatQ K) (tSl (rSlL K) (tVar 0) tNoPart (tPart (tUn oNeg (tC (.int 1))))) (tLst (tCons (tVar 6) tNil)))) tNext)))) tNext) (tSeq (tIfS (tAnd (tTest (tOp rEq (tVar 4) (tC (.int 7)))) (tTest (tOp (rNilQ K true) (tVar 0) (tLst tNil)))) (tRet (tOp (rCatQ K) (tSl (rSlL K) (tVar 0) tNoPart (tPart (tUn oNeg (tC (.int 1))))) (tLst (tCons (tOp (rCatT K) (tTup (tCons (tTup (tCons (tC (.str "less")) (tCons (tOp (rIxT K) (tOp (rIxL K) (tVar 0) (tUn oNeg (tC (.int 1)))) (tC (.int 0))) tNil))) tNil)) (tSl (rSlT K) (tOp (rIxL K) (tVar 0) (tUn oNeg (tC (.int 1)))) (tPart (tC (.int 1))) tNoPart)) tNil)))) tNext) (tRet (tOp (rCatQ K) (tVar 0) (tLst (tCons (tCall (sp_law_leaf K) [] E0 (tCons (tVar 5) (tCons (tVar 2) tNil))) tNil))))))))
theorem cutD_neg {α:Type} (xs:List α) (k:Nat) (hk:k≤xs.length) (h0:0 < k):Pw.cutD xs none (some (-(k:Int)))=xs.take (xs.length-k):=by
 unfold Pw.cutD
 have h1:HT.sIx xs.length xs.length (some (-(k:Int)))=xs.length-k:=by
  have:=clipS_eq xs.length xs.length (some (-(k:Int)))
  unfold clipS at this
  dsimp only at this
  rw [if_pos (by omega)] at this;omega
 have h2:HT.sIx xs.length 0 none=0:=rfl
 rw [h1,h2];rfl
theorem atI_back {α:Type} {xs:List α} {k:Nat} (x0:α) (h0:0 < k) (hk:k≤xs.length):atI xs (-(k:Int))=some (xs.getD (xs.length-k) x0):=by
 unfold atI ixN
 rw [if_neg (by omega),if_pos (by omega)]
 have:(-(k:Int)+(xs.length:Int)).toNat=xs.length-k:=by omega
 first
  | (show xs[(-(k:Int)+(xs.length:Int)).toNat]?=_;rw [this,List.getD_eq_getElem?_getD,List.getElem?_eq_getElem (by omega)];rfl)
  | (show xs[((xs.length:Int)+-(k:Int)).toNat]?=_;rw [Int.add_comm,this,List.getD_eq_getElem?_getD,List.getElem?_eq_getElem (by omega)];rfl)
theorem rd_law_step (K:PySem.W.Frag) (st:List Ep) (n:Int) (ws:List T) (most:Int) (hn:0≤n∧n < 1000000) (hl:st.length≤1000) (hw:ws.length≤100) (hm:∀ e∈st,(ms e).1≤1000∧(ms e).2.1≤1000∧(ms e).2.2≤1000) :
  SW (rNew (cE4 K)) [.val (cList K (cE4 K)) st,.val cInt n,.val (cList K cT) ws,.val cInt most,.any,.any,.any,.any,.any,.any,.any,.any] (t_law_step K) (PF (stepF st n ws most)):=by
 unfold t_law_step
 have e0:stepF st n ws most=if (2 < n % 8∧n % 8 < 6∧1 < st.length)∧fitsF (Ep.two (signs4.getD (n/8 % 4).toNat 0) (st.getD (st.length-2) (.num 0)) (st.getD (st.length-1) (.num 0))) most=true then st.take (st.length-2)++[Ep.two (signs4.getD (n/8 % 4).toNat 0) (st.getD (st.length-2) (.num 0)) (st.getD (st.length-1) (.num 0))]
  else if (n % 8=6∧st≠[])∧fitsF (Ep.pow (st.getD (st.length-1) (.num 0)) (exps (n/8)).toNat) most=true then st.take (st.length-1)++[Ep.pow (st.getD (st.length-1) (.num 0)) (exps (n/8)).toNat]
  else if n % 8=7∧st≠[] then st.take (st.length-1)++[Ep.less (st.getD (st.length-1) (.num 0))]
  else st++[leafF (n/8) ws]:=rfl
 have ne:(!st.isEmpty)=decide (st≠[]):=by cases st<;>simp
 have l1:∀ {Γ:Gam},Γ[0]?=some (.val (cList K (cE4 K)) st)→st≠[]→Ev Γ (tOp (rIxL K) (tVar 0) (tUn oNeg (tC (.int 1)))) (cE4 K) (st.getD (st.length-1) (.num 0)):=fun e h=>by
  have:=List.length_pos_iff.mpr h
  exact ev_ixL (ev_var e) (ev_neg ev_int) (atI_back (xs:=st) (k:=1) (Ep.num 0) (by decide) (by omega))
 have l2:∀ {Γ:Gam},Γ[0]?=some (.val (cList K (cE4 K)) st)→1 < st.length→Ev Γ (tOp (rIxL K) (tVar 0) (tUn oNeg (tC (.int 2)))) (cE4 K) (st.getD (st.length-2) (.num 0)):=fun e h =>
  ev_ixL (ev_var e) (ev_neg ev_int) (atI_back (xs:=st) (k:=2) (Ep.num 0) (by decide) (by omega))
 have s1:∀ {Γ:Gam},Γ[0]?=some (.val (cList K (cE4 K)) st)→st≠[]→EvN Γ (tSl (rSlL K) (tVar 0) tNoPart (tPart (tUn oNeg (tC (.int 1))))) (cE4 K) (st.take (st.length-1)):=fun e h=>by
  have:=List.length_pos_iff.mpr h
  exact evN_is (evN_sl (ev_var e) eo_none (eo_some (ev_neg ev_int))) (cutD_neg st 1 (by omega) (by decide))
 have s2:∀ {Γ:Gam},Γ[0]?=some (.val (cList K (cE4 K)) st)→1 < st.length→EvN Γ (tSl (rSlL K) (tVar 0) tNoPart (tPart (tUn oNeg (tC (.int 2))))) (cE4 K) (st.take (st.length-2)):=fun e h =>
  evN_is (evN_sl (ev_var e) eo_none (eo_some (ev_neg ev_int))) (cutD_neg st 2 (by omega) (by decide))
 refine q_asg' (ev_mod (ev_var rfl) ev_int (by decide)) ?_
 refine q_asg' (ev_div (ev_var rfl) ev_int (by decide)) ?_
 refine q_joinI (fun Γ'=>Wk Γ' [.val (cList K (cE4 K)) st,.val cInt n,.val (cList K cT) ws,.val cInt most,.val cInt (n % 8),.val cInt (n/8),.any,.any,.any,.any,.any,.any]∧¬((2 < n % 8∧n % 8 < 6∧1 < st.length)∧fitsF (Ep.two (signs4.getD (n/8 % 4).toNat 0) (st.getD (st.length-2) (.num 0)) (st.getD (st.length-1) (.num 0))) most=true)) ?_ fun Γ' hG=>sw_wk hG.1 ?_
 ·refine sw_when (b:=decide (2 < n % 8∧n % 8 < 6∧1 < st.length)) (evT_is (evT_and (evT_test (ev_gt (ev_var rfl) ev_int)) fun _=>evT_and (evT_test (ev_lt (ev_var rfl) ev_int)) fun _=>evT_test (ev_gt (ev_len (ev_var rfl)) ev_int)) ?_) (fun hb=>?_) (fun hb=>?_)
  ·rw [Bool.decide_and,Bool.decide_and];congr 2;exact decide_eq_decide.mpr (by omega)
  ·have hb:=of_decide_eq_true hb
   have h4:0≤n/8 % 4∧n/8 % 4 < 4:=by omega
   refine q_asg' (ev_joined (s:=signs4.getD (n/8 % 4).toNat 0) (ev_ixSG (ev_t signs4 (by decide +kernel)) (ev_mod (ev_var rfl) ev_int (by decide)) ⟨by omega,by show _ < ((4:Nat):Int);omega⟩ (by decide)) (l2 rfl hb.2.2) (l1 rfl (fun z=>by rw [z] at hb;simp at hb)) (signs4_ok _)) ?_
   refine sw_when (evT_B (ev_fits (ev_var rfl) (ev_var rfl))) (fun hc=>?_) (fun hc=>?_)
   ·rw [e0,if_pos ⟨hb,hc⟩]
    exact sw_retN (evN_catQ (K:=K) (s2 rfl hb.2.2).ev (evN_lst (el_cons (ev_var rfl) el_nil) (by simp)).ev (by simp;omega)) rfl
   ·refine ⟨.same (.same (.same (.same (.same (.same (.any (.any (.any (.any (.any (.any .nil))))))))))),fun z=>by rw [z.2] at hc;cases hc⟩
  ·have hb:=of_decide_eq_false hb
   exact ⟨Wk.refl _,fun z=>hb z.1⟩
 rw [e0,if_neg hG.2]
 refine q_joinI (fun Γ'=>Wk Γ' [.val (cList K (cE4 K)) st,.val cInt n,.val (cList K cT) ws,.val cInt most,.val cInt (n % 8),.val cInt (n/8),.any,.any,.any,.any,.any,.any]∧¬((n % 8=6∧st≠[])∧fitsF (Ep.pow (st.getD (st.length-1) (.num 0)) (exps (n/8)).toNat) most=true)) ?_ fun Γ' hG2=>sw_wk hG2.1 ?_
 ·refine sw_when (b:=decide (n % 8=6∧st≠[])) (evT_is (evT_and (evT_test (ev_eqI (ev_var rfl) ev_int)) fun _=>evT_test (ev_neNil (ev_var rfl))) (by rw [Bool.decide_and,ne])) (fun hb=>?_) (fun hb=>?_)
  ·have hb:=of_decide_eq_true hb
   have hs:=List.length_pos_iff.mpr hb.2
   have hx:=exps_le (n/8)
   have hms:=hm _ (getD_mem (st:=st) (i:=st.length-1) (by omega))
   have hmp:=ms_pos (st.getD (st.length-1) (.num 0))
   generalize hz:st.getD (st.length-1) (.num 0)=z at hms hmp ⊢
   refine q_un4 (p:=lt z) (ev_lt4 (by rw [←hz];exact l1 rfl hb.2)) ?_
   have h5:0≤n/8 % 5∧n/8 % 5 < 5:=by omega
   refine q_asg' (ev_is (ev_ixG 0 (evN_lst (el_cons ev_int (el_cons ev_int (el_cons ev_int (el_cons ev_int (el_cons (ev_mod (ev_div (ev_var rfl) ev_int (by decide)) ev_int (by decide)) el_nil))))) (by simp)).ev (ev_mod (ev_var rfl) ev_int (by decide)) ⟨by omega,by show _ < ((5:Nat):Int);omega⟩) (d':=((exps (n/8)).toNat:Int)) ?_) ?_
   ·rw [Int.toNat_of_nonneg hx.1];rfl
   have hxn:(exps (n/8)).toNat≤12:=by omega
   generalize (exps (n/8)).toNat=x at hxn ⊢
   have hmx:max 1 (x:Int)≤12:=by omega
   refine q_asg' (ev_lt4I (e:=.pow z x) (ev_mkQ (ev_mkTrPow (ev_t [94] (by decide +kernel)) (ev_var rfl) (ev_var rfl)) (ev_mulS (ev_var rfl) (ev_var rfl) (by show (ms z).1.natAbs < _;omega) (by omega)) (ev_mulS (ev_var rfl) (ev_var rfl) (by show (ms z).2.1.natAbs < _;omega) (by omega)) (ev_mulS (ev_var rfl) (ev_max ev_int (ev_var rfl)) (by show (ms z).2.2.natAbs < _;omega) (by omega))) rfl) ?_
   refine sw_when (evT_B (ev_fits (ev_var rfl) (ev_var rfl))) (fun hc=>?_) (fun hc=>?_)
   ·rw [if_pos ⟨hb,hc⟩]
    exact sw_retN (evN_catQ (K:=K) (s1 rfl hb.2).ev (evN_lst (el_cons (ev_var rfl) el_nil) (by simp)).ev (by simp;omega)) rfl
   ·refine ⟨.same (.same (.same (.same (.same (.same (.any (.any (.any (.any (.any (.any .nil))))))))))),fun z=>by rw [z.2] at hc;cases hc⟩
  ·have hb:=of_decide_eq_false hb
   exact ⟨Wk.refl _,fun z=>hb z.1⟩
 rw [if_neg hG2.2]
 refine q_when (b:=decide (n % 8=7∧st≠[])) (evT_is (evT_and (evT_test (ev_eqI (ev_var rfl) ev_int)) fun _=>evT_test (ev_neNil (ev_var rfl))) (by rw [Bool.decide_and,ne])) (fun hb=>?_) (fun hb=>?_)
 ·have hb:=of_decide_eq_true hb
  rw [if_pos hb]
  exact sw_retN (evN_catQ (K:=K) (s1 rfl hb.2).ev (evN_lst (el_cons (ev_lt4I (ev_catQ (ev_mkTrLess (ev_t tagLess (by decide +kernel)) (ev_q0 (ev_lt4 (l1 rfl hb.2)))) (ev_lt4 (l1 rfl hb.2))) rfl) el_nil) (by simp)).ev (by simp;omega)) rfl
 ·have hb:=of_decide_eq_false hb
  rw [if_neg hb]
  exact sw_retN (evN_catQ (K:=K) (ev_var rfl) (evN_lst (el_cons (ev_leaf (ev_var rfl) (ev_var rfl) (by omega) hw) el_nil) (by simp)).ev (by simp;omega)) rfl
theorem evN_step {K:PySem.W.Frag} {Γ:Gam} {ta tb tc td:TE} {E:XK} {st:List Ep} {n m:Int} {ws:List T} (h1:Ev Γ ta (cList K (cE4 K)) st) (h2:Ev Γ tb cInt n) (h3:Ev Γ tc (cList K cT) ws) (h4:Ev Γ td cInt m) (hn:0≤n∧n < 1000000) (hl:st.length≤1000) (hw:ws.length≤100)
  (hm:∀ e∈st,(ms e).1≤1000∧(ms e).2.1≤1000∧(ms e).2.2≤1000):EvN Γ (tCall (sp_law_step K) [] E (tCons ta (tCons tb (tCons tc (tCons td tNil))))) (cE4 K) (stepF st n ws m) :=
 evN_call (f:=fun a:List Ep×Int×List T×Int×Unit=>stepF a.1 a.2.1 a.2.2.1 a.2.2.2.1) (pre:=fun a:List Ep×Int×List T×Int×Unit=>(0≤a.2.1∧a.2.1 < 1000000)∧a.1.length≤1000∧a.2.2.1.length≤100∧∀ e∈a.1,(ms e).1≤1000∧(ms e).2.1≤1000∧(ms e).2.2≤1000)
  (ea_cons h1 (ea_cons h2 (ea_cons h3 (ea_cons h4 ea_nil)))) ⟨hn,hl,hw,hm⟩
def sp_law_grown (K:PySem.W.Frag):Sp:=SpF (aCons (cInts K) (aCons (cList K cT) (aCons cInt aNil))) (fun a=>(0 < a.1.length∧a.1.length≤100∧∀ x∈a.1,0≤x∧x < 1000000)∧NamesOk a.2.1∧a.2.1.length≤100∧1≤a.2.2.1∧a.2.2.1≤100) (cTr K) (fun a=>grownF a.1 a.2.1 a.2.2.1)
def t_law_grown (K:PySem.W.Frag):TS:=tSeq (tAsg (tLst tNil) (gName 3)) (tSeq (tFor (iList K (tVar 0)) (gName 4) (tAsg (tCall (sp_law_step K) [] E0 (tCons (tVar 3) (tCons (tVar 4) (tCons (tVar 1) (tCons (tVar 2) tNil))))) (gName 3))) (tSeq (tAsg (tOp (rIxL K) (tVar 3) (tC (.int 0))) (gName 5)) (tSeq (tFor (iRng2 (tCons (tC (.int 1)) (tCons (tCB (rLenQ K) (tCons (tVar 3) tNil)) tNil))) (gName 6) (tSeq (tAsg (tCall (sp_law_joined K) [] E0 (tCons (tOp (rIxS) (tC (.str "+-*/")) (tOp oMod (tOp oAdd (tCB (rLenQ K) (tCons (tVar 0) tNil)) (tVar 6)) (tC (.int 4)))) (tCons (tVar 5) (tCons (tOp (rIxL K) (tVar 3) (tVar 6)) tNil)))) (gName 7)) (tIfS (tB (tCall (sp_law_fits K) [] E0 (tCons (tVar 7) (tCons (tVar 2) tNil)))) (tAsg (tVar 7) (gName 5)) tNext))) (tRet (tOp (rIxT K) (tVar 5) (tC (.int 0)))))))
theorem rd_law_grown (K:PySem.W.Frag) (ns:List Int) (ws:List T) (most:Int) (hn:0 < ns.length) (hl:ns.length≤100) (hx:∀ x∈ns,0≤x∧x < 1000000) (hw:NamesOk ws) (hwl:ws.length≤100) (hm:1≤most) (hm2:most≤100) :
  SW (rVal (cTr K)) [.val (cInts K) ns,.val (cList K cT) ws,.val cInt most,.any,.any,.any,.any,.any] (t_law_grown K) (PF (grownF ns ws most)):=by
 unfold t_law_grown
 have ok:∀ i,i≤ns.length→StOk most ws i ((ns.take i).foldl (fun st n=>stepF st n ws most) []):=fun i hi=>by
  have:=steps_ok hw hm (ns.take i) [] 0 ⟨fun e h=>by simp at h,by simp [total],by simp [totalW],by simp,fun h=>by omega⟩ fun x h=>hx x (List.mem_of_mem_take h)
  rw [List.length_take,Nat.min_eq_left hi,Nat.zero_add] at this
  exact this
 have stp:∀ i (hi:i < ns.length),(ns.take (i+1)).foldl (fun st n=>stepF st n ws most) []=stepF ((ns.take i).foldl (fun st n=>stepF st n ws most) []) (ns.getD i 0) ws most:=fun i hi=>by
  rw [List.take_add_one,List.getElem?_eq_getElem hi,List.getD_eq_getElem?_getD,List.getElem?_eq_getElem hi,List.foldl_append];rfl
 refine q_asg' (EvN.ev (K:=K) (evN_lst (c:=cE4 K) el_nil (by simp))) ?_
 refine q_forLG (fun i=>[.val (cInts K) ns,.val (cList K cT) ws,.val cInt most,.val (cList K (cE4 K)) ((ns.take i).foldl (fun st n=>stepF st n ws most) []),.any,.any,.any,.any]) (ev_var rfl) (Wk.refl _) (fun i d hd=>?_) ?_
 ·have hi:i < ns.length:=(List.getElem?_eq_some_iff.mp hd).1
  have hdd:ns.getD i 0=d:=by rw [List.getD_eq_getElem?_getD,hd];rfl
  have hs:=ok i (by omega)
  have hnx:=stp i hi
  rw [hdd] at hnx
  rw [hnx]
  generalize (ns.take i).foldl (fun st n=>stepF st n ws most) []=st at hs
  refine sw_asg (evN_step (ev_var rfl) (ev_var rfl) (ev_var rfl) (ev_var rfl) (hx d (List.mem_of_getElem? hd)) (by have:=hs.l;omega) hwl (fun e he=>by have:=(hs.g e he).f;omega)).ev (.same (.same (.same (.same (.any (.any (.any (.any .nil))))))))
 ·rw [List.take_length]
  have hs:=ok ns.length (Nat.le_refl _)
  rw [List.take_length] at hs
  have e0:grownF ns ws most=grows ns.length most (ns.foldl (fun st n=>stepF st n ws most) []) ((ns.foldl (fun st n=>stepF st n ws most) []).length-1):=rfl
  rw [e0]
  generalize ns.foldl (fun st n=>stepF st n ws most) []=st at hs
  have h0:=hs.z hn
  have hp:=List.length_pos_iff.mpr h0
  have hsl:=hs.l
  refine q_asg' (ev_ixG (.num 0) (ev_var rfl) ev_int ⟨by decide,by omega⟩) ?_
  refine q_forR2G (fun i=>[.val (cInts K) ns,.val (cList K cT) ws,.val cInt most,.val (cList K (cE4 K)) st,.any,.val (cE4 K) (grows ns.length most st i),.any,.any]) ev_int (ev_len (ev_var rfl)) (by decide) (by omega) (Wk.refl _) (fun i hi=>?_) ?_
  ·rw [grows_succ]
   generalize grows ns.length most st i=f
   have h4:0≤((ns.length:Int)+(1+(i:Int))) % 4∧((ns.length:Int)+(1+(i:Int))) % 4 < 4:=by omega
   have e1:((i+1:Nat):Int)=1+(i:Int):=by omega
   refine q_asg' (ev_joined (s:=signs4.getD (((ns.length:Int)+(1+(i:Int))) % 4).toNat 0) (ev_ixSG (ev_t signs4 (by decide +kernel)) (ev_mod (ev_add (ev_len (ev_var rfl)) (ev_var rfl)) ev_int (by decide)) ⟨by omega,by show _ < ((4:Nat):Int);omega⟩ (by decide)) (ev_var rfl) (ev_is (ev_ixG (.num 0) (ev_var rfl) (ev_var rfl) ⟨by omega,hi⟩) (d':=st.getD (i+1) (.num 0)) (by congr 1;omega)) (signs4_ok _)) ?_
   unfold growGo
   dsimp only
   rw [e1]
   refine sw_when (evT_B (ev_fits (ev_var rfl) (ev_var rfl))) (fun hc=>?_) (fun hc=>?_)
   ·rw [if_pos hc]
    exact sw_asg (ev_var rfl) (.same (.same (.same (.same (.any (.same (.any (.any .nil))))))))
   ·rw [if_neg (by rw [hc];decide)]
    exact .same (.same (.same (.same (.any (.same (.any (.any .nil)))))))
  ·rw [show ((st.length:Int)-1).toNat=st.length-1 from by omega]
   exact sw_ret (ev_q0 (ev_lt4 (ev_var rfl))) rfl
def sp_law_binds (K:PySem.W.Frag):Sp:=SpF (aCons (cTr K) aNil) (fun a=>Wf a.1) cInt (fun a=>(binds a.1:Int))
def t_law_binds (K:PySem.W.Frag):TS:=tSeq (tIfS (tOr (tTest (tOp rEq (tOp (rIxT K) (tVar 0) (tC (.int 0))) (tC (.str "+")))) (tTest (tOp rEq (tOp (rIxT K) (tVar 0) (tC (.int 0))) (tC (.str "-"))))) (tRet (tC (.int 0))) tNext) (tSeq (tIfS (tOr (tTest (tOp rEq (tOp (rIxT K) (tVar 0) (tC (.int 0))) (tC (.str "*")))) (tTest (tOp rEq (tOp (rIxT K) (tVar 0) (tC (.int 0))) (tC (.str "/"))))) (tRet (tC (.int 1))) tNext) (tRet (tDGet (tDisp [(tC (.str "less"),tC (.int 2)),(tC (.str "^"),tC (.int 3)),(tC (.str "name"),tC (.int 4)),(tC (.str "number"),tC (.int 4))]) (tOp (rIxT K) (tVar 0) (tC (.int 0))))))
theorem tag_two {e:Ep} (w:Wf e) (s:Nat) (hs:s=43∨s=45∨s=42∨s=47):tag e=[s]↔∃ l r,e=.two s l r:=by
 cases e with
 | two s' l r =>
  constructor
  ·intro h;have:s'=s:=by simpa [tag] using h
   subst this;exact ⟨l,r,rfl⟩
  ·rintro ⟨l',r',h⟩;cases h;rfl
 | num n=>exact ⟨fun h=>by simp [tag,tagNum] at h,fun ⟨_,_,h⟩=>by cases h⟩
 | name n=>exact ⟨fun h=>by simp [tag,tagName] at h,fun ⟨_,_,h⟩=>by cases h⟩
 | less n=>exact ⟨fun h=>by simp [tag,tagLess] at h,fun ⟨_,_,h⟩=>by cases h⟩
 | pow b n=>exact ⟨fun h=>by simp [tag] at h;omega,fun ⟨_,_,h⟩=>by cases h⟩
theorem rd_law_binds (K:PySem.W.Frag) (e:Ep) (w:Wf e):SW (rVal cInt) [.val (cTr K) e] (t_law_binds K) (PF (binds e:Int)):=by
 unfold t_law_binds
 refine q_when (evT_or (evT_test (ev_eqT (ev_tr0 (ev_var rfl)) (ev_t [43] (by decide +kernel)))) fun _=>evT_test (ev_eqT (ev_tr0 (ev_var rfl)) (ev_t [45] (by decide +kernel)))) (fun hb=>?_) (fun hb=>?_)
 ·rw [Bool.or_eq_true,decide_eq_true_eq,decide_eq_true_eq,tag_two w 43 (by omega),tag_two w 45 (by omega)] at hb
  rcases hb with ⟨l,r,rfl⟩ | ⟨l,r,rfl⟩<;>exact sw_ret ev_int rfl
 ·rw [Bool.or_eq_false_iff,decide_eq_false_iff_not,decide_eq_false_iff_not,tag_two w 43 (by omega),tag_two w 45 (by omega)] at hb
  refine q_when (evT_or (evT_test (ev_eqT (ev_tr0 (ev_var rfl)) (ev_t [42] (by decide +kernel)))) fun _=>evT_test (ev_eqT (ev_tr0 (ev_var rfl)) (ev_t [47] (by decide +kernel)))) (fun hc=>?_) (fun hc=>?_)
  ·rw [Bool.or_eq_true,decide_eq_true_eq,decide_eq_true_eq,tag_two w 42 (by omega),tag_two w 47 (by omega)] at hc
   rcases hc with ⟨l,r,rfl⟩ | ⟨l,r,rfl⟩<;>exact sw_ret ev_int rfl
  ·rw [Bool.or_eq_false_iff,decide_eq_false_iff_not,decide_eq_false_iff_not,tag_two w 42 (by omega),tag_two w 47 (by omega)] at hc
   refine sw_ret (ev_bindsD (fun s l r z=>?_) (ev_tr0 (ev_var rfl))) rfl
   subst z
   rcases w.1 with h | h | h | h<;>subst h
   ·exact hb.1 ⟨l,r,rfl⟩
   ·exact hb.2 ⟨l,r,rfl⟩
   ·exact hc.1 ⟨l,r,rfl⟩
   ·exact hc.2 ⟨l,r,rfl⟩
theorem ev_lbinds {K:PySem.W.Frag} {Γ:Gam} {ta:TE} {E:XK} {e:Ep} (h:Ev Γ ta (cTr K) e) (w:Wf e):Ev Γ (tCall (sp_law_binds K) [] E (tCons ta tNil)) cInt (binds e:Int) :=
 ev_call (f:=fun a:Ep×Unit=>(binds a.1:Int)) (pre:=fun a:Ep×Unit=>Wf a.1) (ea_cons h ea_nil) w
theorem num_log {n:Nat} (h:(TL.numL n).length≤30):n.log2 < 1920:=by
 have:n < 10^30:=num_lt h
 by_cases h0:n=0
 ·subst h0;decide
 ·rw [Nat.log2_lt h0];exact Nat.lt_of_lt_of_le this (by decide +kernel)
theorem small_log {n:Nat} (h:n≤12):n.log2 < 1920:=num_log (TL.numL_len (k:=30) (by decide) (Nat.lt_of_le_of_lt h (by decide)))
section
variable {K:PySem.W.Frag} {Γ:Gam} {ta tb tc:TE} {E:XK}
theorem evN_numbers {s:List Int} {k n:Nat} {x y:Int} (h1:Ev Γ ta (cInts K) s) (h2:Ev Γ tb cInt x) (h3:Ev Γ tc cInt y) (hx:x=k) (hy:y=n) (hn:n≤100):EvN Γ (tCall (sp_law_numbers K) [] E (tCons ta (tCons tb (tCons tc tNil)))) cInt (numsF s k n):=by
 subst hx;subst hy
 have h:=evN_call (E:=E) (c2:=cInt) (f:=fun a:List Int×Int×Int×Unit=>numsF a.1 a.2.1.toNat a.2.2.1.toNat) (pre:=fun a:List Int×Int×Int×Unit=>∃ k n:Nat,a.2.1=k∧a.2.2.1=n∧n≤100) (ea_cons h1 (ea_cons h2 (ea_cons h3 ea_nil))) ⟨k,n,rfl,rfl,hn⟩
 dsimp only at h
 rw [Int.toNat_natCast,Int.toNat_natCast] at h
 exact h
theorem evN_names {ns:List Int} (h1:Ev Γ ta (cInts K) ns) (hl:ns.length≤10) (hx:∀ x∈ns,0≤x∧x < 1000000):EvN Γ (tCall (sp_law_names K) [] E (tCons ta tNil)) cT (namesF ns) :=
 evN_is (evN_call (f:=fun a:List Int×Unit=>namesF a.1) (pre:=fun a:List Int×Unit=>a.1.length≤10∧∀ x∈a.1,0≤x∧x < 1000000) (ea_cons h1 ea_nil) ⟨hl,hx⟩) rfl
theorem ev_grown {ns:List Int} {ws:List T} {most:Int} (h1:Ev Γ ta (cInts K) ns) (h2:Ev Γ tb (cList K cT) ws) (h3:Ev Γ tc cInt most) (hn:0 < ns.length) (hl:ns.length≤100) (hx:∀ x∈ns,0≤x∧x < 1000000) (hw:NamesOk ws) (hwl:ws.length≤100) (hm:1≤most) (hm2:most≤100) :
  Ev Γ (tCall (sp_law_grown K) [] E (tCons ta (tCons tb (tCons tc tNil)))) (cTr K) (grownF ns ws most) :=
 ev_is (ev_call (f:=fun a:List Int×List T×Int×Unit=>grownF a.1 a.2.1 a.2.2.1) (pre:=fun a:List Int×List T×Int×Unit=>(0 < a.1.length∧a.1.length≤100∧∀ x∈a.1,0≤x∧x < 1000000)∧NamesOk a.2.1∧a.2.1.length≤100∧1≤a.2.2.1∧a.2.2.1≤100) (ea_cons h1 (ea_cons h2 (ea_cons h3 ea_nil))) ⟨⟨hn,hl,hx⟩,hw,hwl,hm,hm2⟩) rfl
end
theorem numsF_ex (s:List Int) (k n:Nat):∃ xs,xs=numsF s k n∧xs.length=n∧∀ x∈xs,0≤x∧x < 1000000:=⟨_,rfl,nums_len s k n,nums_mem s k n⟩
end Lw.X
namespace Xp
open PySem L2
abbrev LR:=T→Option Ep×Nat
def fgL (l:T):T:=l.takeWhile isFig
def ltL (l:T):T:=l.takeWhile isLet
def zAhead (w:T):Prop:=w.head?=some 48∧w≠[48]
instance (w:T):Decidable (zAhead w):=by unfold zAhead;infer_instance
def latom (sub:Option LR) (l:T):Option Ep×Nat :=
 if l.head?=some 40 then
  match sub with
  | none=>(none,0)
  | some p=>if (l.drop (1+(p (l.drop 1)).2)).head?=some 41 then ((p (l.drop 1)).1,1+(p (l.drop 1)).2+1) else (none,1+(p (l.drop 1)).2)
 else if fgL l≠[] then (if 30 < (fgL l).length∨zAhead (fgL l) then (none,0) else (some (.num (valL (fgL l))),(fgL l).length))
 else if ltL l=[]∨8 < (ltL l).length then (none,0) else (some (.name (ltL l)),(ltL l).length)
def lpower (sub:Option LR) (l:T):Option Ep×Nat :=
 match (latom sub l).1 with
 | none=>(none,(latom sub l).2)
 | some e=>if (l.drop (latom sub l).2).head?=some 94 then
   (if fgL (l.drop ((latom sub l).2+1))=[]∨2 < (fgL (l.drop ((latom sub l).2+1))).length∨zAhead (fgL (l.drop ((latom sub l).2+1)))∨12 < valL (fgL (l.drop ((latom sub l).2+1))) then (none,(latom sub l).2)
   else (some (.pow e (valL (fgL (l.drop ((latom sub l).2+1))))),(latom sub l).2+1+(fgL (l.drop ((latom sub l).2+1))).length))
  else (some e,(latom sub l).2)
def lfactor (sub:Option LR) (l:T):Option Ep×Nat :=
 match (lpower sub (l.drop (minuses l))).1 with
 | none=>(none,minuses l+(lpower sub (l.drop (minuses l))).2)
 | some e=>if 30 < minuses l then (none,minuses l+(lpower sub (l.drop (minuses l))).2) else (some (lessN (minuses l) e),minuses l+(lpower sub (l.drop (minuses l))).2)
def lgo (ss:List Nat) (p:LR):Nat→T→Ep→Nat→Option Ep×Nat
 | 0,_,_,n=>(none,n)
 | k+1,l,e,n=>match ahead ss l with
  | none=>(some e,n)
  | some s=>match (p (l.drop 3)).1 with
   | none=>(none,n+(3+(p (l.drop 3)).2))
   | some f=>lgo ss p k (l.drop (3+(p (l.drop 3)).2)) (.two s e f) (n+(3+(p (l.drop 3)).2))
def lrow (ss:List Nat) (p:LR) (l:T):Option Ep×Nat:=match (p l).1 with
 | none=>(none,(p l).2)
 | some e=>lgo ss p (l.length+1) (l.drop (p l).2) e (p l).2
def lterm (sub:Option LR):LR:=lrow [42,47] (lfactor sub)
def lsum (sub:Option LR):LR:=lrow [43,45] (lterm sub)
def lS:Nat→LR
 | 0=>lsum none
 | r+1=>lsum (some (lS r))
def lsub:Nat→Option LR
 | 0=>none
 | r+1=>some (lS r)
theorem lS_eq (r:Nat):lS r=lsum (lsub r):=by cases r<;>rfl
def ltree (l:T):Option Ep:=if 1000 < l.length then none else if (lS 30 l).2=l.length then (lS 30 l).1 else none
structure Ag (x:Option Ep×Nat) (q:Option (Ep×Nat)):Prop where
 a:x.1=q.map Prod.fst
 b:∀ e n,q=some (e,n)→x.2=n
theorem Ag.no {n:Nat}:Ag (none,n) none:=⟨rfl,fun _ _ h=>by cases h⟩
theorem Ag.yes {e:Ep} {n:Nat}:Ag (some e,n) (some (e,n)):=⟨rfl,fun _ _ h=>by cases h;rfl⟩
inductive AgS:Option LR→Option Rd→Prop
 | no:AgS none none
 | yes {p:LR} {p':Rd}:(∀ l,Ag (p l) (p' l))→AgS (some p) (some p')
theorem whole_is (most:Nat) (l:T):wholeL most l=if fgL l=[]∨most < (fgL l).length∨zAhead (fgL l) then none else some (fgL l):=by
 unfold wholeL runL
 show (match (if fgL l=[]∨most < (fgL l).length then none else some (fgL l):Option T) with | none=>none | some w=>if 1 < w.length∧w.head?=some 48 then none else some w)=_
 by_cases h1:fgL l=[]∨most < (fgL l).length
 ·rw [if_pos h1,if_pos (by rcases h1 with h | h;exact .inl h;exact .inr (.inl h))]
 ·rw [if_neg h1]
  dsimp only
  have z:(1 < (fgL l).length∧(fgL l).head?=some 48)↔zAhead (fgL l):=by
   unfold zAhead
   cases h:fgL l with
   | nil=>exact absurd (.inl h) h1
   | cons c w=>cases w<;>simp
  by_cases h2:zAhead (fgL l)
  ·rw [if_pos (z.mpr h2),if_pos (.inr (.inr h2))]
  ·rw [if_neg (fun k=>h2 (z.mp k)),if_neg (by
    rintro (k | k | k)
    ·exact h1 (.inl k)
    ·exact h1 (.inr k)
    ·exact h2 k)]
theorem fig_any (l:T):l.head?.any isFig=true↔fgL l≠[]:=by
 unfold fgL
 cases l with
 | nil=>simp
 | cons c l=>by_cases h:isFig c=true<;>simp [List.takeWhile_cons,h]
theorem atom_ag {sub:Option LR} {sub':Option Rd} (h:AgS sub sub') (l:T):Ag (latom sub l) (atomL sub' l):=by
 unfold latom atomL
 by_cases h40:l.head?=some 40
 ·rw [if_pos h40,if_pos h40]
  cases h with
  | no=>exact Ag.no
  | @yes p p' hp =>
   dsimp only
   obtain ⟨a,b⟩:=hp (l.drop 1)
   generalize p (l.drop 1)=x at *
   obtain ⟨o,n⟩:=x
   cases hq:p' (l.drop 1) with
   | none =>
    rw [hq] at a
    cases (show o=none from a)
    dsimp only
    split<;>exact Ag.no
   | some q =>
    obtain ⟨e,m⟩:=q
    rw [hq] at a b
    cases (show o=some e from a)
    cases (show n=m from b e m rfl)
    dsimp only
    split
    ·exact Ag.yes
    ·exact Ag.no
 ·rw [if_neg h40,if_neg h40]
  by_cases hf:fgL l=[]
  ·rw [if_neg (by simpa using hf),if_neg (fun z=>(fig_any l).mp z hf)]
   unfold runL
   show Ag _ (match (if ltL l=[]∨8 < (ltL l).length then none else some (ltL l):Option T) with | none=>none | some w=>some (.name w,w.length))
   split
   ·exact Ag.no
   ·exact Ag.yes
  ·rw [if_pos hf,if_pos ((fig_any l).mpr hf),whole_is]
   by_cases h1:30 < (fgL l).length∨zAhead (fgL l)
   ·rw [if_pos h1,if_pos (.inr h1)];exact Ag.no
   ·rw [if_neg h1,if_neg (by
     rintro (k | k)
     ·exact hf k
     ·exact h1 k)];exact Ag.yes
theorem power_ag {sub:Option LR} {sub':Option Rd} (h:AgS sub sub') (l:T):Ag (lpower sub l) (powerL sub' l):=by
 unfold lpower powerL
 obtain ⟨a,b⟩:=atom_ag h l
 generalize latom sub l=x at *
 obtain ⟨o,n⟩:=x
 cases hq:atomL sub' l with
 | none =>
  rw [hq] at a
  cases (show o=none from a)
  exact Ag.no
 | some q =>
  obtain ⟨e,m⟩:=q
  rw [hq] at a b
  cases (show o=some e from a)
  cases (show n=m from b e m rfl)
  dsimp only
  split
  ·rw [whole_is]
   generalize fgL (l.drop (n+1))=w
   by_cases h1:w=[]∨2 < w.length∨zAhead w
   ·rw [if_pos h1,if_pos (by
     rcases h1 with k | k | k
     ·exact .inl k
     ·exact .inr (.inl k)
     ·exact .inr (.inr (.inl k)))];exact Ag.no
   ·rw [if_neg h1]
    dsimp only
    by_cases h2:12 < valL w
    ·rw [if_pos h2,if_pos (.inr (.inr (.inr h2)))];exact Ag.no
    ·rw [if_neg h2,if_neg (by
      rintro (k | k | k | k)
      ·exact h1 (.inl k)
      ·exact h1 (.inr (.inl k))
      ·exact h1 (.inr (.inr k))
      ·exact h2 k)];exact Ag.yes
  ·exact Ag.yes
theorem factor_ag {sub:Option LR} {sub':Option Rd} (h:AgS sub sub') (l:T):Ag (lfactor sub l) (factorL sub' l):=by
 unfold lfactor factorL
 obtain ⟨a,b⟩:=power_ag h (l.drop (minuses l))
 generalize lpower sub (l.drop (minuses l))=x at *
 obtain ⟨o,n⟩:=x
 cases hq:powerL sub' (l.drop (minuses l)) with
 | none =>
  rw [hq] at a
  cases (show o=none from a)
  dsimp only
  split<;>exact Ag.no
 | some q =>
  obtain ⟨e,m⟩:=q
  rw [hq] at a b
  cases (show o=some e from a)
  cases (show n=m from b e m rfl)
  dsimp only
  split
  ·exact Ag.no
  ·exact Ag.yes
theorem go_ag {ss:List Nat} {p:LR} {p':Rd} (h:∀ l,Ag (p l) (p' l)):∀ (k:Nat) (l:T) (e:Ep) (n:Nat),Ag (lgo ss p k l e n) (rowGo ss p' k l e n)
 | 0,_,_,_=>Ag.no
 | k+1,l,e,n=>by
  unfold lgo rowGo
  cases ahead ss l with
  | none=>exact Ag.yes
  | some s =>
   dsimp only
   obtain ⟨a,b⟩:=h (l.drop 3)
   generalize p (l.drop 3)=x at *
   obtain ⟨o,m⟩:=x
   cases hq:p' (l.drop 3) with
   | none =>
    rw [hq] at a
    cases (show o=none from a)
    exact Ag.no
   | some q =>
    obtain ⟨f,m'⟩:=q
    rw [hq] at a b
    cases (show o=some f from a)
    cases (show m=m' from b f m' rfl)
    exact go_ag h k _ _ _
theorem row_ag {ss:List Nat} {p:LR} {p':Rd} (h:∀ l,Ag (p l) (p' l)) (l:T):Ag (lrow ss p l) (rowL ss p' l):=by
 unfold lrow rowL
 obtain ⟨a,b⟩:=h l
 generalize p l=x at *
 obtain ⟨o,n⟩:=x
 cases hq:p' l with
 | none =>
  rw [hq] at a
  cases (show o=none from a)
  exact Ag.no
 | some q =>
  obtain ⟨e,m⟩:=q
  rw [hq] at a b
  cases (show o=some e from a)
  cases (show n=m from b e m rfl)
  exact go_ag h _ _ _ _
theorem sum_ag {sub:Option LR} {sub':Option Rd} (h:AgS sub sub') (l:T):Ag (lsum sub l) (sumL sub' l):=row_ag (fun l=>row_ag (fun l=>factor_ag h l) l) l
theorem lS_ag:∀ (r:Nat) (l:T),Ag (lS r l) (pS r l)
 | 0,l=>sum_ag .no l
 | r+1,l=>sum_ag (.yes (lS_ag r)) l
theorem ltree_is (l:T):ltree l=readL l:=by
 unfold ltree readL
 split
 ·rfl
 obtain ⟨a,b⟩:=lS_ag 30 l
 generalize lS 30 l=x at *
 obtain ⟨o,n⟩:=x
 cases hq:pS 30 l with
 | none =>
  rw [hq] at a
  cases (show o=none from a)
  dsimp only
  split<;>rfl
 | some q =>
  obtain ⟨e,m⟩:=q
  rw [hq] at a b
  cases (show o=some e from a)
  cases (show n=m from b e m rfl)
  rfl
end Xp
namespace Xp
open PySem L2
def isOp (c:Nat):Bool:=c == 43 || c == 45 || c == 42 || c == 47 || c == 94
def ops (l:T):Nat:=(l.filter isOp).length
def isTwo:Ep→Bool
 | .two ..=>true
 | _=>false
def dpt:Ep→Nat
 | .num _=>0
 | .name _=>0
 | .two _ l r=>1+max (dpt l) (dpt r)
 | .pow b _=>1+dpt b
 | .less e=>1+dpt e
def mes:Ep→Nat
 | .num _=>0
 | .name _=>0
 | .two _ l r=>max (mes l+(if isTwo l then 0 else 1)) (mes r+1)
 | .pow b _=>mes b+1
 | .less e=>mes e+(if isLess e then 0 else 1)
theorem ops_app (a b:T):ops (a++b)=ops a+ops b:=by unfold ops;rw [List.filter_append,List.length_append]
theorem ops_add (l:T) (a b:Nat):ops (l.take (a+b))=ops (l.take a)+ops ((l.drop a).take b):=by rw [List.take_add,ops_app]
theorem ops_le (l:T) {a b:Nat} (h:a≤b):ops (l.take a)≤ops (l.take b):=by
 obtain ⟨c,rfl⟩:∃ c,b=a+c:=⟨b-a,by omega⟩
 rw [ops_add];omega
structure KbB (M:Nat) (l:T) (e:Ep) (k:Nat):Prop where
 n:k≤l.length
 p:1≤k
 w:Wf e
 s:size e≤k
 d:dpt e≤ops (l.take k)
 m:mes e≤M
def KqB (M:Nat) (l:T) (q:Option (Ep×Nat)):Prop:=∀ e n,q=some (e,n)→KbB M l e n
theorem val_lt:∀ (w:T) (a k:Nat),(∀ c∈w,isFig c=true)→a < 10^k→w.foldl (fun a c=>a*10+(c-48)) a < 10^(k+w.length)
 | [],a,k,_,h=>h
 | c :: w,a,k,hw,h=>by
  have hc:=hw c List.mem_cons_self
  unfold isFig at hc
  simp at hc
  rw [List.foldl_cons,List.length_cons,show k+(w.length+1)=k+1+w.length by omega]
  refine val_lt w _ (k+1) (fun c h=>hw c (List.mem_cons_of_mem _ h)) ?_
  rw [Nat.pow_succ];omega
theorem kw_all {p:Nat→Bool}:∀ (l:T),∀ c∈l.takeWhile p,p c=true
 | [],c,h=>by simp at h
 | x :: l,c,h=>by
  by_cases hx:p x=true
  ·rw [List.takeWhile_cons_of_pos hx] at h
   rcases List.mem_cons.mp h with rfl | h
   ·exact hx
   ·exact kw_all l c h
  ·rw [List.takeWhile_cons_of_neg hx] at h;cases h
theorem tw_len {p:Nat→Bool} (l:T):(l.takeWhile p).length≤l.length:=(List.takeWhile_prefix p).length_le
theorem head_lt {l:T} {n c:Nat} (h:(l.drop n).head?=some c):n < l.length:=by
 refine Classical.byContradiction fun z=>?_
 rw [List.drop_eq_nil_of_le (by omega)] at h
 cases h
theorem atom_bd {M:Nat} {sub:Option Rd} (h:∀ p,sub=some p→∀ l,KqB M l (p l)) (l:T):KqB M l (atomL sub l):=by
 unfold atomL
 by_cases h40:l.head?=some 40
 ·rw [if_pos h40]
  cases hs:sub with
  | none=>exact fun _ _ z=>by cases z
  | some p =>
   dsimp only
   cases hq:p (l.drop 1) with
   | none=>exact fun _ _ z=>by cases z
   | some q =>
    obtain ⟨e,n⟩:=q
    dsimp only
    have B:=h p hs (l.drop 1) e n hq
    split
    ·rename_i h41
     have:=head_lt h41
     intro e' n' z
     cases z
     refine ⟨by omega,by omega,B.w,by have:=B.s;omega,?_,B.m⟩
     have o:=ops_add l 1 n
     have o2:=ops_le l (show 1+n≤1+n+1 by omega)
     have:=B.d
     omega
    ·exact fun _ _ z=>by cases z
 ·rw [if_neg h40]
  split
  ·rw [whole_is]
   by_cases h1:fgL l=[]∨30 < (fgL l).length∨zAhead (fgL l)
   ·rw [if_pos h1];exact fun _ _ z=>by cases z
   ·rw [if_neg h1]
    dsimp only
    intro e' n' z
    cases z
    have l0:0 < (fgL l).length:=List.length_pos_iff.mpr fun z=>h1 (.inl z)
    refine ⟨tw_len l,l0,?_,l0,Nat.zero_le _,Nat.zero_le _⟩
    have v:=val_lt (fgL l) 0 0 (kw_all l) (by decide)
    rw [Nat.zero_add] at v
    show (TL.numL _).length≤30
    have:=TL.numL_len (n:=valL (fgL l)) l0 v
    have:¬30 < (fgL l).length:=fun z=>h1 (.inr (.inl z))
    omega
  ·unfold runL
   show KqB M l (match (if ltL l=[]∨8 < (ltL l).length then none else some (ltL l):Option T) with | none=>none | some w=>some (.name w,w.length))
   split
   ·exact fun _ _ z=>by cases z
   ·rename_i w hw
    intro e' n' z
    cases z
    split at hw
    ·cases hw
    ·rename_i h1
     cases hw
     have l0:0 < (ltL l).length:=List.length_pos_iff.mpr fun z=>h1 (.inl z)
     exact ⟨tw_len l,l0,⟨fun z=>h1 (.inl z),by omega,kw_all l⟩,l0,Nat.zero_le _,Nat.zero_le _⟩
theorem power_bd {M:Nat} {sub:Option Rd} (h:∀ p,sub=some p→∀ l,KqB M l (p l)) (l:T):KqB (M+1) l (powerL sub l):=by
 unfold powerL
 cases hq:atomL sub l with
 | none=>exact fun _ _ z=>by cases z
 | some q =>
  obtain ⟨e,n⟩:=q
  have B:=atom_bd h l e n hq
  dsimp only
  split
  ·rename_i h94
   have hl:=head_lt h94
   rw [whole_is]
   by_cases h1:fgL (l.drop (n+1))=[]∨2 < (fgL (l.drop (n+1))).length∨zAhead (fgL (l.drop (n+1)))
   ·rw [if_pos h1];exact fun _ _ z=>by cases z
   ·rw [if_neg h1]
    dsimp only
    split
    ·exact fun _ _ z=>by cases z
    ·rename_i h12
     intro e' n' z
     cases z
     have ll:=tw_len (p:=isFig) (l.drop (n+1))
     rw [List.length_drop] at ll
     refine ⟨by unfold fgL;omega,by omega,⟨B.w,by omega⟩,?_,?_,?_⟩
     ·show size e+1≤_
      have:=B.s;omega
     ·show 1+dpt e≤_
      have o:=ops_add l n 1
      have o2:=ops_le l (show n+1≤n+1+(fgL (l.drop (n+1))).length by omega)
      have o3:ops ((l.drop n).take 1)=1:=by
       cases hd:l.drop n with
       | nil=>rw [hd] at h94;cases h94
       | cons c w =>
        rw [hd] at h94
        cases h94
        rfl
      have:=B.d
      omega
     ·show mes e+1≤M+1
      have:=B.m;omega
  ·intro e' n' z
   cases z
   exact ⟨B.n,B.p,B.w,B.s,B.d,by have:=B.m;omega⟩
theorem wf_lessU {e:Ep} (h:Wf e):∀ k,Wf (lessN k e)
 | 0=>h
 | k+1=>wf_lessU h k
theorem dpt_lessN (e:Ep):∀ k,dpt (lessN k e)=k+dpt e
 | 0=>by show dpt e=_;omega
 | k+1=>by show 1+dpt (lessN k e)=_;rw [dpt_lessN e k];omega
theorem mes_lessN (e:Ep):∀ k,mes (lessN k e)≤mes e+1∧(isLess (lessN k e)=false→mes (lessN k e)≤mes e)
 | 0=>⟨Nat.le_succ _,fun _=>Nat.le_refl _⟩
 | k+1=>by
  obtain ⟨a,b⟩:=mes_lessN e k
  refine ⟨?_,fun z=>by cases z⟩
  show mes (lessN k e)+(if isLess (lessN k e) then 0 else 1)≤_
  by_cases h:isLess (lessN k e)=true
  ·rw [if_pos h];omega
  ·rw [if_neg h]
   have:=b (by simpa using h)
   omega
theorem minus_ops (l:T):ops (l.take (minuses l))=minuses l:=by
 unfold minuses
 induction l with
 | nil=>rfl
 | cons c l ih =>
  by_cases h:(c == 45)=true
  ·rw [List.takeWhile_cons_of_pos (p:=fun c=>c == 45) h,List.length_cons,List.take_succ_cons]
   have hc:c=45:=by simpa using h
   subst hc
   show ops (45 :: _)=_
   unfold ops at ih ⊢
   rw [List.filter_cons_of_pos (by rfl),List.length_cons,ih]
  ·rw [List.takeWhile_cons_of_neg (p:=fun c=>c == 45) h];rfl
theorem factor_bd {M:Nat} {sub:Option Rd} (h:∀ p,sub=some p→∀ l,KqB M l (p l)) (l:T):KqB (M+2) l (factorL sub l):=by
 unfold factorL
 split
 ·exact fun _ _ z=>by cases z
 ·cases hq:powerL sub (l.drop (minuses l)) with
  | none=>exact fun _ _ z=>by cases z
  | some q =>
   obtain ⟨e,n⟩:=q
   have B:=power_bd h (l.drop (minuses l)) e n hq
   intro e' n' z
   cases z
   have bn:=B.n
   rw [List.length_drop] at bn
   have ml:=tw_len (p:=fun c=>c == 45) l
   have ml:minuses l≤l.length:=ml
   refine ⟨by omega,by have:=B.p;omega,wf_lessU B.w _,by rw [size_lessN];have:=B.s;omega,?_,by have:=(mes_lessN e (minuses l)).1;have:=B.m;omega⟩
   rw [dpt_lessN,ops_add,minus_ops]
   have:=B.d;omega
theorem ahead_some {ss:List Nat} {l:T} {s:Nat} (h:ahead ss l=some s):s∈ss∧∃ r,l=32 :: s :: 32 :: r:=by
 unfold ahead at h
 split at h
 ·split at h
  ·rename_i s' r hs
   cases h
   exact ⟨hs,r,rfl⟩
  ·cases h
 ·cases h
def mesL (e:Ep):Nat:=mes e+(if isTwo e then 0 else 1)
theorem go_bd {ss:List Nat} {p:Rd} {M:Nat} (hss:∀ s∈ss,isOp s=true∧(s=43∨s=45∨s=42∨s=47)) (h:∀ l,KqB M l (p l)) (L:T):∀ (k:Nat) (e:Ep) (n:Nat),KbB (M+1) L e n→mesL e≤M+1→KqB (M+1) L (rowGo ss p k (L.drop n) e n)
 | 0,_,_,_,_=>fun _ _ z=>by cases z
 | k+1,e,n,B,hm=>by
  unfold rowGo
  cases ha:ahead ss (L.drop n) with
  | none =>
   intro e' n' z
   cases z
   exact B
  | some s =>
   dsimp only
   obtain ⟨hs,r,hr⟩:=ahead_some ha
   rw [List.drop_drop]
   cases hq:p (L.drop (n+3)) with
   | none=>exact fun _ _ z=>by cases z
   | some q =>
    obtain ⟨f,m⟩:=q
    have F:=h (L.drop (n+3)) f m hq
    dsimp only
    rw [List.drop_drop]
    have fn:=F.n
    have fp:=F.p
    have fs:=F.s
    have fd:=F.d
    have fm:=F.m
    have bs:=B.s
    have bd:=B.d
    rw [List.length_drop] at fn
    obtain ⟨o1,o2⟩:=hss s hs
    have mm:mes (.two s e f)≤M+1:=by
     show max (mes e+(if isTwo e then 0 else 1)) (mes f+1)≤M+1
     unfold mesL at hm
     omega
    refine go_bd hss h L k (.two s e f) (n+(3+m)) ⟨by omega,by omega,⟨o2,B.w,F.w⟩,?_,?_,mm⟩ (by show mes _+0≤_;omega)
    ·show size e+size f+1≤_
     omega
    ·show 1+max (dpt e) (dpt f)≤_
     have a1:=ops_add L n (3+m)
     have a2:=ops_add (L.drop n) 3 m
     rw [List.drop_drop] at a2
     have a3:ops ((L.drop n).take 3)=1:=by
      rw [hr]
      show (List.filter isOp [32,s,32]).length=1
      rw [List.filter_cons_of_neg (by decide),List.filter_cons_of_pos o1,List.filter_cons_of_neg (by decide)];rfl
     omega
theorem row_bd {ss:List Nat} {p:Rd} {M:Nat} (hss:∀ s∈ss,isOp s=true∧(s=43∨s=45∨s=42∨s=47)) (h:∀ l,KqB M l (p l)) (l:T):KqB (M+1) l (rowL ss p l):=by
 unfold rowL
 cases hq:p l with
 | none=>exact fun _ _ z=>by cases z
 | some q =>
  obtain ⟨e,n⟩:=q
  have B:=h l e n hq
  have bm:=B.m
  dsimp only
  exact go_bd hss h l _ e n ⟨B.n,B.p,B.w,B.s,B.d,by omega⟩ (by unfold mesL;split<;>omega)
theorem sum_bd {M:Nat} {sub:Option Rd} (h:∀ p,sub=some p→∀ l,KqB M l (p l)) (l:T):KqB (M+4) l (sumL sub l) :=
 row_bd (M:=M+3) (by decide) (fun l=>row_bd (M:=M+2) (by decide) (fun l=>factor_bd h l) l) l
theorem kS_bd:∀ (r:Nat) (l:T),KqB (4*(r+1)) l (pS r l)
 | 0,l=>sum_bd (M:=0) (fun p z=>by cases z) l
 | r+1,l=>sum_bd (M:=4*(r+1)) (fun p z l=>by cases z;exact kS_bd r l) l
theorem read_bd {l:T} {e:Ep} (h:readL l=some e):Wf e∧size e≤1000∧mes e≤124∧dpt e≤ops l:=by
 unfold readL at h
 split at h
 ·cases h
 rename_i hl
 cases hq:pS 30 l with
 | none=>rw [hq] at h;cases h
 | some q =>
  obtain ⟨f,n⟩:=q
  rw [hq] at h
  dsimp only at h
  split at h
  ·rename_i hn
   cases h
   have B:=kS_bd 30 l e n hq
   have bs:=B.s
   have bd:=B.d
   have bm:=B.m
   rw [hn,List.take_length] at bd
   exact ⟨B.w,by omega,by omega,bd⟩
  ·cases h
theorem mes_dpt:∀ e:Ep,mes e≤dpt e
 | .num _=>Nat.le_refl _
 | .name _=>Nat.le_refl _
 | .two _ l r=>by
  have a:=mes_dpt l;have b:=mes_dpt r
  show max (mes l+(if isTwo l then 0 else 1)) (mes r+1)≤1+max (dpt l) (dpt r)
  split<;>omega
 | .pow b _=>by have a:=mes_dpt b;show mes b+1≤1+dpt b;omega
 | .less e=>by have a:=mes_dpt e;show mes e+(if isLess e then 0 else 1)≤1+dpt e;split<;>omega
def NoB (l:T):Prop:=∀ c∈l,c≠40
theorem NoB.drop {l:T} (h:NoB l) (n:Nat):NoB (l.drop n):=fun c hc=>h c (List.mem_of_mem_drop hc)
theorem atom_nb (sub:Option Rd) {l:T} (h:NoB l):atomL sub l=atomL none l:=by
 have h40:l.head?≠some 40:=fun z=>by
  cases l with
  | nil=>cases z
  | cons c l=>cases z;exact h 40 List.mem_cons_self rfl
 unfold atomL
 rw [if_neg h40,if_neg h40]
theorem power_nb (sub:Option Rd) {l:T} (h:NoB l):powerL sub l=powerL none l:=by unfold powerL;rw [atom_nb sub h]
theorem factor_nb (sub:Option Rd) {l:T} (h:NoB l):factorL sub l=factorL none l:=by unfold factorL;rw [power_nb sub (h.drop _)]
theorem go_nb {ss:List Nat} {p p':Rd} (hp:∀ l,NoB l→p l=p' l):∀ (k:Nat) (l:T) (e:Ep) (n:Nat),NoB l→rowGo ss p k l e n=rowGo ss p' k l e n
 | 0,_,_,_,_=>rfl
 | k+1,l,e,n,h=>by
  unfold rowGo
  rw [hp _ (h.drop 3)]
  cases ahead ss l with
  | none=>rfl
  | some s =>
   dsimp only
   cases p' (l.drop 3) with
   | none=>rfl
   | some q=>exact go_nb hp k _ _ _ (h.drop _)
theorem row_nb {ss:List Nat} {p p':Rd} (hp:∀ l,NoB l→p l=p' l) {l:T} (h:NoB l):rowL ss p l=rowL ss p' l:=by
 unfold rowL
 rw [hp l h]
 cases p' l with
 | none=>rfl
 | some q=>exact go_nb hp _ _ _ _ (h.drop _)
theorem sum_nb (sub:Option Rd) {l:T} (h:NoB l):sumL sub l=sumL none l:=row_nb (fun _ h=>row_nb (fun _ h=>factor_nb sub h) h) h
theorem read_nb {l:T} (h:NoB l) {e:Ep} (hr:readL l=some e):mes e≤4:=by
 unfold readL at hr
 split at hr
 ·cases hr
 rw [pS_eq,sum_nb _ h] at hr
 cases hq:sumL none l with
 | none=>rw [hq] at hr;cases hr
 | some q =>
  obtain ⟨f,n⟩:=q
  rw [hq] at hr
  dsimp only at hr
  split at hr
  ·cases hr
   exact (sum_bd (M:=0) (fun p z=>by cases z) l e n hq).m
  ·cases hr
end Xp
namespace Xp
open PySem L2
theorem atom_le {sub:Option LR} (h:∀ p,sub=some p→∀ l,(p l).2≤l.length) (l:T):(latom sub l).2≤l.length:=by
 unfold latom
 by_cases h40:l.head?=some 40
 ·rw [if_pos h40]
  have l0:0 < l.length:=by cases l with
   | nil=>cases h40
   | cons c l=>exact Nat.succ_pos _
  cases hs:sub with
  | none=>exact Nat.zero_le _
  | some p =>
   dsimp only
   have a:=h p hs (l.drop 1)
   rw [List.length_drop] at a
   split
   ·rename_i h41
    have:=head_lt h41
    show 1+(p (l.drop 1)).2+1≤_
    omega
   ·show 1+(p (l.drop 1)).2≤_
    omega
 ·rw [if_neg h40]
  split
  ·split
   ·exact Nat.zero_le _
   ·exact tw_len l
  ·split
   ·exact Nat.zero_le _
   ·exact tw_len l
theorem power_le {sub:Option LR} (h:∀ p,sub=some p→∀ l,(p l).2≤l.length) (l:T):(lpower sub l).2≤l.length:=by
 have a:=atom_le h l
 unfold lpower
 cases hq:(latom sub l).1 with
 | none=>exact a
 | some e =>
  dsimp only
  split
  ·rename_i h94
   have:=head_lt h94
   split
   ·exact a
   ·have ll:=tw_len (p:=isFig) (l.drop ((latom sub l).2+1))
    rw [List.length_drop] at ll
    show (latom sub l).2+1+(fgL (l.drop ((latom sub l).2+1))).length≤_
    unfold fgL
    omega
  ·exact a
theorem minus_le (l:T):minuses l≤l.length:=tw_len (p:=fun c=>c == 45) l
theorem factor_le {sub:Option LR} (h:∀ p,sub=some p→∀ l,(p l).2≤l.length) (l:T):(lfactor sub l).2≤l.length:=by
 have a:=power_le h (l.drop (minuses l))
 have b:=minus_le l
 rw [List.length_drop] at a
 have c:minuses l+(lpower sub (l.drop (minuses l))).2≤l.length:=by omega
 unfold lfactor
 split
 ·exact c
 ·split
  ·exact c
  ·exact c
theorem kahead_len {ss:List Nat} {l:T} {s:Nat} (h:ahead ss l=some s):3≤l.length:=by
 obtain ⟨_,r,e⟩:=ahead_some h
 rw [e];simp
theorem go_le {ss:List Nat} {p:LR} (h:∀ l,(p l).2≤l.length):∀ (k:Nat) (l:T) (e:Ep) (n:Nat),(lgo ss p k l e n).2≤n+l.length
 | 0,_,_,_=>Nat.le_add_right _ _
 | k+1,l,e,n=>by
  unfold lgo
  cases ha:ahead ss l with
  | none=>exact Nat.le_add_right _ _
  | some s =>
   dsimp only
   have l3:=kahead_len ha
   have a:=h (l.drop 3)
   rw [List.length_drop] at a
   cases (p (l.drop 3)).1 with
   | none=>show n+(3+(p (l.drop 3)).2)≤_;omega
   | some f =>
    have:=go_le (ss:=ss) h k (l.drop (3+(p (l.drop 3)).2)) (.two s e f) (n+(3+(p (l.drop 3)).2))
    rw [List.length_drop] at this
    dsimp only
    omega
theorem row_le {ss:List Nat} {p:LR} (h:∀ l,(p l).2≤l.length) (l:T):(lrow ss p l).2≤l.length:=by
 have a:=h l
 unfold lrow
 cases (p l).1 with
 | none=>exact a
 | some e =>
  have:=go_le h (l.length+1) (l.drop (p l).2) e (p l).2 (ss:=ss)
  rw [List.length_drop] at this
  dsimp only
  omega
theorem term_le {sub:Option LR} (h:∀ p,sub=some p→∀ l,(p l).2≤l.length) (l:T):(lterm sub l).2≤l.length:=row_le (factor_le h) l
theorem sum_le {sub:Option LR} (h:∀ p,sub=some p→∀ l,(p l).2≤l.length) (l:T):(lsum sub l).2≤l.length:=row_le (term_le h) l
theorem lS_le:∀ (r:Nat) (l:T),(lS r l).2≤l.length
 | 0,l=>sum_le (fun p z=>by cases z) l
 | r+1,l=>sum_le (fun p z l=>by cases z;exact lS_le r l) l
theorem lsub_le:∀ (r:Nat) (p:LR),lsub r=some p→∀ l,(p l).2≤l.length
 | 0,_,z=>by cases z
 | r+1,p,z=>by cases z;exact lS_le r
end Xp
namespace Pw
open PySem PySem.Spec PyProof.Rows L2
section
variable {P:Program} {w:World} {A:Around} {E:Value→Shared→Prop} {s:Shared} {h h':Heap} {a:Addr} {S:List Str} {n:Nat}
end
section
variable {prog:Program} {w:World} {A:Around} {R:Result→Shared→Prop} {I:Addr} {fp wr:List Addr} {G:Array GenState→Array GenState→Prop} {n:Nat} {P:Nat→Value→Prop} {St:Nat→Shared→Prop}
end
section
variable {prog:Program} {w:World} {A:Around} {E:Value→Shared→Prop} {s:Shared}
end
end Pw
namespace Pw
open PySem PySem.Spec PyProof.Rows L2
section
variable {X:Cx}
end
section
variable {K:PySem.W.Frag} {Γ:Gam} {te:TE}
end
end Pw
namespace Pw
open PySem PySem.Spec PyProof.Rows L2
section
variable {α β:Type} {ca:CodA α} {pre:α→Prop} {c:CodO β} {t:TS} {vs:List V} {H:Hp} {Q:VK} {E:XK} {N:List Str}
end
section
variable {K:PySem.W.Frag} {Γ:Gam} {ta tb tc te tz0:TE} {α β γ ρ:Type} {c:CodO α} {d:α} {R:RR ρ} {P:Pst ρ} {t u tz:TS} {i j:Nat}
end
def DRep {β:Type} (c:Cod β) (F:Hp):List (L2.Key×V)→List (List Nat×β)→Prop
 | [],[]=>True
 | p :: ks,q :: ds=>(p.1=.inr (Tx q.1)∧c.rep F p.2 q.2)∧DRep c F ks ds
 | _,_=>False
section
variable {β:Type} {c:Cod β} {F:Hp}
theorem DRep.mono {F':Hp} (e:Ex F F'):∀ {ks:List (L2.Key×V)} {ds:List (List Nat×β)},DRep c F ks ds→DRep c F' ks ds
 | [],[],_=>trivial
 | _ :: _,_ :: _,h=>⟨⟨h.1.1,c.mono e h.1.2⟩,h.2.mono e⟩
 | [],_ :: _,h=>h.elim
 | _ :: _,[],h=>h.elim
theorem key_eq {a b:List Nat}:((Sum.inr (Tx a):L2.Key)=.inr (Tx b))↔a=b:=⟨fun h=>tx_inj (Sum.inr.inj h),fun h=>by rw [h]⟩
theorem DRep.any (k:List Nat):∀ {ks:List (L2.Key×V)} {ds:List (List Nat×β)},DRep c F ks ds→(ks.any fun p=>decide (p.1=(.inr (Tx k):L2.Key)))=(ds.any fun p=>decide (p.1=k))
 | [],[],_=>rfl
 | p :: ks,q :: ds,h=>by
  rw [List.any_cons,List.any_cons,h.2.any k,h.1.1]
  congr 1
  exact decide_eq_decide.mpr key_eq
 | [],_ :: _,h=>h.elim
 | _ :: _,[],h=>h.elim
end
section
variable {K:PySem.W.Frag} {Γ:Gam} {ta tb td te ty tv:TE} {α β γ ρ:Type} {c:Cod β} {d:List (List Nat×β)} {k:List Nat} {x:β} {R:RR ρ} {P:Pst ρ} {t u tz:TS} {i j:Nat}
end
section
variable {X:Cx} {pins:List (Addr×Obj)} {σ:L2.St} {H:Hp} {s:Shared}
end
section
variable {K:PySem.W.Frag} {Γ:Gam} {ta tb:TE} {β:Type} {c:Cod β} {d:List (List Nat×β)}
theorem DRep.mem {F:Hp}:∀ {ks:List (L2.Key×V)} {ds:List (List Nat×β)},DRep c F ks ds→∀ p∈ks,∃ q∈ds,p.1=.inr (Tx q.1)∧c.rep F p.2 q.2
 | [],[],_,p,hp=>by simp at hp
 | _ :: _,q :: _,h,p,hp=>by
  rcases List.mem_cons.mp hp with rfl | hp
  ·exact ⟨q,List.mem_cons_self,h.1⟩
  ·obtain ⟨r,hr,e⟩:=DRep.mem h.2 p hp
   exact ⟨r,List.mem_cons_of_mem _ hr,e⟩
 | [],_ :: _,h,_,_=>h.elim
 | _ :: _,[],h,_,_=>h.elim
end
end Pw
namespace Pw
open PySem PySem.Spec PyProof.Rows L2
section
variable {K:PySem.W.Frag} {Γ:Gam} {ta tb td te ty tv:TE} {α β γ ρ:Type} {c:Cod β} {d:List (List Nat×β)} {k:List Nat} {x:β} {R:RR ρ} {P:Pst ρ} {t u tz:TS} {i j:Nat}
end
end Pw
namespace Pw
open PySem PySem.Spec PyProof.Rows L2 Xp
section
variable {X:Cx} {Y:ExC} {CX:CXT} {k:Nat} {m:Str} {sp:Nat→Sp} {E:L2.St→XK} {o e:Expr} {es:List Expr} {apos pos:Pos} {ta:TE} {t:TA}
end
section
variable {K:PySem.W.Frag} {Y:ExC} {Γ:Gam} {to te:TE} {α β γ ρ:Type} {c2:Cod β} {m:Str} {R:RR ρ} {P:Pst ρ} {t u tz:TS} {i j l:Nat}
theorem ev_isNo {d:Option β} (hn:∀ F v x,c2.rep F v x→v≠.non) (h:Ev Γ te (cOpt c2) d):Ev Γ (tOp rIsN te (tC .non)) cBool (!d.isSome):=fun F H σ S Q q =>
 h F H σ S _ fun v F1 H1 e1 r1=>by
  cases d with
  | none=>cases (show v=.non from r1);exact ⟨rfl,q _ F1 H1 e1 rfl⟩
  | some x=>exact ⟨rfl,q _ F1 H1 e1 (by show V.bl _=V.bl _;congr 1;exact decide_eq_false (hn _ _ _ r1))⟩
end
section
variable {K:PySem.W.Frag} {Γ:Gam} {ta te:TE} {t:TA} {α β γ:Type} {c:Cod α} {c2:Cod β} {r:CodA γ} {C:Addr} {E:XK}
end
end Pw
namespace Lw.X
namespace P18
open PySem PySem.Spec PyProof.Rows L2 Pw Xp
theorem tr_non {K:PySem.W.Frag}:∀ (F:Hp) (v:V) (x:Ep),(cTr K).rep F v x→v≠.non:=fun F v x h=>by
 obtain ⟨a,vs,rfl,_⟩:=tr_at h
 exact fun z=>by cases z
theorem ev_notNo {β:Type} {c2:Cod β} {d:Option β} {Γ:Gam} {te:TE} (hn:∀ F v x,c2.rep F v x→v≠.non) (h:Ev Γ te (cOpt c2) d):Ev Γ (tOp rNotN te (tC .non)) cBool d.isSome:=fun F H σ S Q q =>
 h F H σ S _ fun v F1 H1 e1 r1=>by
  cases d with
  | none=>cases (show v=.non from r1);exact ⟨rfl,q _ F1 H1 e1 rfl⟩
  | some x=>exact ⟨rfl,q _ F1 H1 e1 (by show V.bl _=V.bl _;rw [decide_eq_false (hn _ _ _ r1)];rfl)⟩
def sp_law_run (K:PySem.W.Frag):Sp:=SpF (aCons cT (aCons cInt (aCons cT aNil))) (fun a=>∃ n:Nat,a.2.1=n∧n≤a.1.length∧a.1.length≤1000) cT (fun a=>(a.1.drop a.2.1.toNat).takeWhile fun c=>decide (c∈a.2.2.1))
def t_law_run (K:PySem.W.Frag):TS:=tSeq (tAsg (tVar 1) (gName 3)) (tSeq (tWhile (tAnd (tTest (tOp oLt (tVar 3) (tCB rLenS (tCons (tVar 0) tNil)))) (tTest (tOp (rInSign) (tOp (rIxS) (tVar 0) (tVar 3)) (tVar 2)))) (tAsg (tOp oAdd (tVar 3) (tC (.int 1))) (gName 3))) (tRet (tSl (rSlS) (tVar 0) (tPart (tVar 1)) (tPart (tVar 3)))))
theorem rd_law_run (K:PySem.W.Frag) (text signs:T) (at_:Nat) (h1:at_≤text.length) (h2:text.length≤1000) :
  SW (rVal cT) [.val cT text,.val cInt (at_:Int),.val cT signs,.any] (t_law_run K) (PF ((text.drop at_).takeWhile fun c=>decide (c∈signs))):=by
 obtain ⟨w,hw⟩:∃ w,w=(text.drop at_).takeWhile (fun c=>decide (c∈signs)):=⟨_,rfl⟩
 have hl:w.length≤text.length-at_:=by rw [hw,←List.length_drop];exact tw_le _
 have ht:(text.drop at_).take w.length=w:=by rw [hw];exact tw_take _
 unfold t_law_run
 refine q_asg' (ev_var rfl) ?_
 refine q_while (fun x:Nat=>[.val cT text,.val cInt (at_:Int),.val cT signs,.val cInt ((at_+x:Nat):Int)]) (fun x=>x≤w.length) (fun x=>w.length-x) (fun x=>decide (x < w.length)) 0 (Wk.refl _) (Nat.zero_le _)
  (fun x hx=>evT_is (evT_and (evT_test (ev_lt (ev_var rfl) (ev_lenS (ev_var rfl) (by omega)))) fun h=>evT_test (ev_inSign (ev_ixSG (ev_var rfl) (ev_var rfl) ⟨by omega,of_decide_eq_true h⟩ (by omega)) (ev_var rfl))) ?_) (fun x hx hb=>?_) (fun x hx hb=>?_)
 ·have:=tw_at (p:=fun c=>decide (c∈signs)) (text.drop at_) x (by rw [←hw];exact hx)
  rw [←hw,getD_drop,List.length_drop] at this
  rw [←this,Int.toNat_natCast]
  congr 1
  exact decide_eq_decide.mpr (by omega)
 ·have hb:=of_decide_eq_true hb
  exact sw_asg (ev_is (ev_add (ev_var rfl) ev_int) (by omega)) ⟨x+1,Wk.refl _,hb,by omega⟩
 ·have hb:=of_decide_eq_false hb
  obtain rfl:x=w.length:=by omega
  refine sw_ret (ev_is (ev_slS (ev_var rfl) (eo_some (ev_var rfl)) (eo_some (ev_var rfl)) (by omega) (by omega) (by omega)) (d':=w) ?_) hw
  rw [Int.toNat_natCast,Int.toNat_natCast,Nat.add_sub_cancel_left];exact ht
theorem ev_run {K:PySem.W.Frag} {Γ:Gam} {ta tb tc:TE} {E:XK} {text signs:T} {n:Nat} {z:Int} (h1:Ev Γ ta cT text) (h2:Ev Γ tb cInt z) (h3:Ev Γ tc cT signs) (hz:z=n) (hn:n≤text.length) (hl:text.length≤1000) :
  Ev Γ (tCall (sp_law_run K) [] E (tCons ta (tCons tb (tCons tc tNil)))) cT ((text.drop n).takeWhile fun c=>decide (c∈signs)):=by
 subst hz
 exact ev_call (f:=fun a:T×Int×T×Unit=>(a.1.drop a.2.1.toNat).takeWhile fun c=>decide (c∈a.2.2.1)) (a:=(text,(n:Int),signs,())) (ea_cons h1 (ea_cons h2 (ea_cons h3 ea_nil))) ⟨n,rfl,hn,hl⟩
theorem ev_runF {K:PySem.W.Frag} {Γ:Gam} {ta tb:TE} {E:XK} {text:T} {n:Nat} {z:Int} (h1:Ev Γ ta cT text) (h2:Ev Γ tb cInt z) (hz:z=n) (hn:n≤text.length) (hl:text.length≤1000) :
  Ev Γ (tCall (sp_law_run K) [] E (tCons ta (tCons tb (tCons (tC (.str "0123456789")) tNil)))) cT (fgL (text.drop n)):=ev_is (ev_run h1 h2 ev_figs hz hn hl) (by rw [figs_is];rfl)
theorem ev_runL {K:PySem.W.Frag} {Γ:Gam} {ta tb:TE} {E:XK} {text:T} {n:Nat} {z:Int} (h1:Ev Γ ta cT text) (h2:Ev Γ tb cInt z) (hz:z=n) (hn:n≤text.length) (hl:text.length≤1000) :
  Ev Γ (tCall (sp_law_run K) [] E (tCons ta (tCons tb (tCons (tC (.str "abcdefghijklmnopqrstuvwxyz")) tNil)))) cT (ltL (text.drop n)):=ev_is (ev_run h1 h2 ev_lets hz hn hl) (by rw [lets_is];rfl)
theorem ev_runM {K:PySem.W.Frag} {Γ:Gam} {ta tb:TE} {E:XK} {text:T} {n:Nat} {z:Int} (h1:Ev Γ ta cT text) (h2:Ev Γ tb cInt z) (hz:z=n) (hn:n≤text.length) (hl:text.length≤1000) :
  Ev Γ (tCB rLenS (tCons (tCall (sp_law_run K) [] E (tCons ta (tCons tb (tCons (tC (.str "-")) tNil)))) tNil)) cInt (minuses (text.drop n):Int):=by
 have e:(fun c=>decide (c∈[45]))=(fun c:Nat=>c == 45):=by
  funext c
  by_cases h:c=45
  ·subst h;rfl
  ·rw [decide_eq_false (by simpa using h)]
   exact (beq_eq_false_iff_ne.mpr h).symm
 have h3:Ev Γ (tC (.str "-")) cT [45]:=ev_t [45] (by decide +kernel)
 have:=ev_lenS (ev_run (K:=K) (E:=E) (signs:=[45]) h1 h2 h3 hz hn hl) (by
  have:=tw_le (p:=fun c=>decide (c∈[45])) (text.drop n)
  rw [List.length_drop] at this;omega)
 rw [e] at this
 exact this
def sp_lr (K:PySem.W.Frag) (p:LR) (r:Nat):Sp:=SpF (aCons cT (aCons cInt (aCons cInt aNil))) (fun a=>∃ n:Nat,a.2.1=n∧a.2.2.1=30-(r:Int)∧n≤a.1.length∧a.1.length≤1000) (cPair K (cOpt (cTr K)) cInt) (fun a=>((p (a.1.drop a.2.1.toNat)).1,((a.2.1.toNat+(p (a.1.drop a.2.1.toNat)).2:Nat):Int)))
theorem ev_lr {K:PySem.W.Frag} {p:LR} {r:Nat} {E:XK} {Γ:Gam} {ta tb tc:TE} {text:T} {n:Nat} {z d:Int} (h1:Ev Γ ta cT text) (h2:Ev Γ tb cInt z) (h3:Ev Γ tc cInt d) (hz:z=n) (hd:d=30-(r:Int)) (hn:n≤text.length) (hl:text.length≤1000) :
  Ev Γ (tCall (sp_lr K p r) [] E (tCons ta (tCons tb (tCons tc tNil)))) (cPair K (cOpt (cTr K)) cInt) ((p (text.drop n)).1,((n+(p (text.drop n)).2:Nat):Int)):=by
 subst hz
 exact ev_call (f:=fun a:T×Int×Int×Unit=>((p (a.1.drop a.2.1.toNat)).1,((a.2.1.toNat+(p (a.1.drop a.2.1.toNat)).2:Nat):Int))) (a:=(text,(n:Int),d,())) (ea_cons h1 (ea_cons h2 (ea_cons h3 ea_nil))) ⟨n,rfl,hd,hn,hl⟩
theorem ev_no {K:PySem.W.Frag} {Γ:Gam} {tb:TE} {z:Int} (h:Ev Γ tb cInt z):Ev Γ (tTup (tCons (tC .non) (tCons tb tNil))) (cPair K (cOpt (cTr K)) cInt) ((none:Option Ep),z):=ev_pair (K:=K) ev_none h
theorem ev_yes {K:PySem.W.Frag} {Γ:Gam} {ta tb:TE} {e:Ep} {z:Int} (h1:Ev Γ ta (cTr K) e) (h:Ev Γ tb cInt z):Ev Γ (tTup (tCons ta (tCons tb tNil))) (cPair K (cOpt (cTr K)) cInt) (some e,z):=ev_pair (K:=K) (ev_some h1) h
theorem z_ev {w:T} {Γ:Gam} {ta:TE} (h:Ev Γ ta cT w) (h0:w≠[]) (hl:w.length≤1000):EvT Γ (tAnd (tTest (tOp rEq (tOp rIxS ta (tC (.int 0))) (tC (.str "0")))) (tTest (tOp rNe ta (tC (.str "0"))))) (decide (zAhead w)):=by
 have l0:=List.length_pos_iff.mpr h0
 refine evT_is (evT_and (evT_test (ev_eqT (ev_ixSG h ev_int ⟨by omega,by omega⟩ (by omega)) (ev_t [48] (by decide +kernel)))) fun _=>evT_test (ev_neT h (ev_t [48] (by decide +kernel)))) ?_
 have e:(decide ([w.getD (0:Int).toNat 0]=[48]))=decide (w.head?=some 48):=by
  cases w with
  | nil=>exact absurd rfl h0
  | cons c w=>exact decide_eq_decide.mpr (by simp)
 rw [e,←decide_not,←Bool.decide_and]
 exact decide_eq_decide.mpr Iff.rfl
def t_law_atom_at0 (K:PySem.W.Frag):TS:=tSeq (tIfS (tTest (tOp rEq (tSl (rSlS) (tVar 0) (tPart (tVar 1)) (tPart (tOp oAdd (tVar 1) (tC (.int 1))))) (tC (.str "(")))) (tSeq (tIfS (tTest (tOp oGt (tVar 2) (tC (.int 29)))) (tRet (tTup (tCons (tC .non) (tCons (tVar 1) tNil)))) tNext) (tSeq (tNever) (tSeq (tIfS (tTest (tOp rNe (tSl (rSlS) (tVar 0) (tPart (tVar 1)) (tPart (tOp oAdd (tVar 1) (tC (.int 1))))) (tC (.str ")")))) (tRet (tTup (tCons (tC .non) (tCons (tVar 1) tNil)))) tNext) (tRet (tTup (tCons (tVar 3) (tCons (tOp oAdd (tVar 1) (tC (.int 1))) tNil))))))) tNext) (tSeq (tAsg (tCall (sp_law_run K) [] E0 (tCons (tVar 0) (tCons (tVar 1) (tCons (tC (.str "0123456789")) tNil)))) (gName 4)) (tSeq (tIfS (tTest (tOp rNe (tVar 4) (tC (.str "")))) (tSeq (tIfS (tOr (tTest (tOp oGt (tCB rLenS (tCons (tVar 4) tNil)) (tC (.int 30)))) (tAnd (tTest (tOp rEq (tOp (rIxS) (tVar 4) (tC (.int 0))) (tC (.str "0")))) (tTest (tOp rNe (tVar 4) (tC (.str "0")))))) (tRet (tTup (tCons (tC .non) (tCons (tVar 1) tNil)))) tNext) (tRet (tTup (tCons (tTup (tCons (tC (.str "number")) (tCons (tCB rIntS (tCons (tVar 4) tNil)) tNil))) (tCons (tOp oAdd (tVar 1) (tCB rLenS (tCons (tVar 4) tNil))) tNil))))) tNext) (tSeq (tAsg (tCall (sp_law_run K) [] E0 (tCons (tVar 0) (tCons (tVar 1) (tCons (tC (.str "abcdefghijklmnopqrstuvwxyz")) tNil)))) (gName 4)) (tSeq (tIfS (tOr (tTest (tOp rEq (tVar 4) (tC (.str "")))) (tTest (tOp oGt (tCB rLenS (tCons (tVar 4) tNil)) (tC (.int 8))))) (tRet (tTup (tCons (tC .non) (tCons (tVar 1) tNil)))) tNext) (tRet (tTup (tCons (tTup (tCons (tC (.str "name")) (tCons (tVar 4) tNil))) (tCons (tOp oAdd (tVar 1) (tCB rLenS (tCons (tVar 4) tNil))) tNil))))))))
def t_law_atom_at (K:PySem.W.Frag) (r:Nat):TS:=tSeq (tIfS (tTest (tOp rEq (tSl (rSlS) (tVar 0) (tPart (tVar 1)) (tPart (tOp oAdd (tVar 1) (tC (.int 1))))) (tC (.str "(")))) (tSeq (tIfS (tTest (tOp oGt (tVar 2) (tC (.int 29)))) (tRet (tTup (tCons (tC .non) (tCons (tVar 1) tNil)))) tNext) (tSeq (tAsg (tCall (sp_lr K (lS r) r) [] E0 (tCons (tVar 0) (tCons (tOp oAdd (tVar 1) (tC (.int 1))) (tCons (tOp oAdd (tVar 2) (tC (.int 1))) tNil)))) (gTup K 2 (gCons (gName 3) (gCons (gName 1) (gNil))))) (tSeq (tIfS (tTest (tOp rNe (tSl (rSlS) (tVar 0) (tPart (tVar 1)) (tPart (tOp oAdd (tVar 1) (tC (.int 1))))) (tC (.str ")")))) (tRet (tTup (tCons (tC .non) (tCons (tVar 1) tNil)))) tNext) (tRet (tTup (tCons (tVar 3) (tCons (tOp oAdd (tVar 1) (tC (.int 1))) tNil))))))) tNext) (tSeq (tAsg (tCall (sp_law_run K) [] E0 (tCons (tVar 0) (tCons (tVar 1) (tCons (tC (.str "0123456789")) tNil)))) (gName 4)) (tSeq (tIfS (tTest (tOp rNe (tVar 4) (tC (.str "")))) (tSeq (tIfS (tOr (tTest (tOp oGt (tCB rLenS (tCons (tVar 4) tNil)) (tC (.int 30)))) (tAnd (tTest (tOp rEq (tOp (rIxS) (tVar 4) (tC (.int 0))) (tC (.str "0")))) (tTest (tOp rNe (tVar 4) (tC (.str "0")))))) (tRet (tTup (tCons (tC .non) (tCons (tVar 1) tNil)))) tNext) (tRet (tTup (tCons (tTup (tCons (tC (.str "number")) (tCons (tCB rIntS (tCons (tVar 4) tNil)) tNil))) (tCons (tOp oAdd (tVar 1) (tCB rLenS (tCons (tVar 4) tNil))) tNil))))) tNext) (tSeq (tAsg (tCall (sp_law_run K) [] E0 (tCons (tVar 0) (tCons (tVar 1) (tCons (tC (.str "abcdefghijklmnopqrstuvwxyz")) tNil)))) (gName 4)) (tSeq (tIfS (tOr (tTest (tOp rEq (tVar 4) (tC (.str "")))) (tTest (tOp oGt (tCB rLenS (tCons (tVar 4) tNil)) (tC (.int 8))))) (tRet (tTup (tCons (tC .non) (tCons (tVar 1) tNil)))) tNext) (tRet (tTup (tCons (tTup (tCons (tC (.str "name")) (tCons (tVar 4) tNil))) (tCons (tOp oAdd (tVar 1) (tCB rLenS (tCons (tVar 4) tNil))) tNil))))))))
theorem fg_len (l:T):(fgL l).length≤l.length:=Xp.tw_len l
theorem lt_len (l:T):(ltL l).length≤l.length:=Xp.tw_len l
theorem fg_all (l:T):(fgL l).all (fun c=>decide (48≤c) && decide (c≤57))=true:=digit_val (Xp.kw_all l)
theorem rd_latom_tail (K:PySem.W.Frag) (sub:Option LR) (text:T) (n:Nat) (d:Int) (h1:n≤text.length) (h2:text.length≤1000) (h40:(text.drop n).head?≠some 40) :
  SW (rVal (cPair K (cOpt (cTr K)) cInt)) [.val cT text,.val cInt (n:Int),.val cInt d,.any,.any]
   (tSeq (tAsg (tCall (sp_law_run K) [] E0 (tCons (tVar 0) (tCons (tVar 1) (tCons (tC (.str "0123456789")) tNil)))) (gName 4)) (tSeq (tIfS (tTest (tOp rNe (tVar 4) (tC (.str "")))) (tSeq (tIfS (tOr (tTest (tOp oGt (tCB rLenS (tCons (tVar 4) tNil)) (tC (.int 30)))) (tAnd (tTest (tOp rEq (tOp (rIxS) (tVar 4) (tC (.int 0))) (tC (.str "0")))) (tTest (tOp rNe (tVar 4) (tC (.str "0")))))) (tRet (tTup (tCons (tC .non) (tCons (tVar 1) tNil)))) tNext) (tRet (tTup (tCons (tTup (tCons (tC (.str "number")) (tCons (tCB rIntS (tCons (tVar 4) tNil)) tNil))) (tCons (tOp oAdd (tVar 1) (tCB rLenS (tCons (tVar 4) tNil))) tNil))))) tNext) (tSeq (tAsg (tCall (sp_law_run K) [] E0 (tCons (tVar 0) (tCons (tVar 1) (tCons (tC (.str "abcdefghijklmnopqrstuvwxyz")) tNil)))) (gName 4)) (tSeq (tIfS (tOr (tTest (tOp rEq (tVar 4) (tC (.str "")))) (tTest (tOp oGt (tCB rLenS (tCons (tVar 4) tNil)) (tC (.int 8))))) (tRet (tTup (tCons (tC .non) (tCons (tVar 1) tNil)))) tNext) (tRet (tTup (tCons (tTup (tCons (tC (.str "name")) (tCons (tVar 4) tNil))) (tCons (tOp oAdd (tVar 1) (tCB rLenS (tCons (tVar 4) tNil))) tNil)))))))) (PF ((latom sub (text.drop n)).1,((n+(latom sub (text.drop n)).2:Nat):Int))):=by
 have hat:latom sub (text.drop n)=if fgL (text.drop n)≠[] then (if 30 < (fgL (text.drop n)).length∨zAhead (fgL (text.drop n)) then (none,0) else (some (.num (valL (fgL (text.drop n)))),(fgL (text.drop n)).length)) else if ltL (text.drop n)=[]∨8 < (ltL (text.drop n)).length then (none,0) else (some (.name (ltL (text.drop n))),(ltL (text.drop n)).length):=by
  unfold latom;rw [if_neg h40]
 rw [hat]
 have lf:=fg_len (text.drop n)
 have ll:=lt_len (text.drop n)
 have fa:=fg_all (text.drop n)
 rw [List.length_drop] at lf ll
 refine q_asg' (ev_runF (n:=n) (ev_var rfl) (ev_var rfl) rfl h1 h2) ?_
 generalize fgL (text.drop n)=w at *
 refine q_when (evT_test (ev_neT (ev_var rfl) (ev_t [] (by decide +kernel)))) (fun hb=>?_) (fun hb=>?_)
 ·have hb:w≠[]:=by simpa using hb
  rw [if_pos hb]
  refine q_when (b:=decide (30 < w.length∨zAhead w)) (evT_is (evT_or (evT_test (ev_gt (ev_lenS (ev_var rfl) (by omega)) ev_int)) fun _=>z_ev (ev_var rfl) hb (by omega)) (by rw [Bool.decide_or];congr 1;exact decide_eq_decide.mpr (by omega))) (fun hc=>?_) (fun hc=>?_)
  ·rw [if_pos (of_decide_eq_true hc)]
   exact sw_ret (ev_no (ev_var rfl)) rfl
  ·have hc:=of_decide_eq_false hc
   rw [if_neg hc]
   have l30:w.length≤30:=by
    refine Nat.le_of_not_lt fun z=>hc (.inl z)
   refine sw_ret (ev_yes (ev_mkTrNum (ev_t tagNum (by decide +kernel)) (ev_intS (ev_var rfl) fa hb (by omega))) (ev_add (ev_var rfl) (ev_lenS (ev_var rfl) (by omega)))) ?_
   show _=(some (Ep.num (valL w)),((n+w.length:Nat):Int))
   rw [Int.natCast_add];rfl
 ·have hb:w=[]:=by simpa using hb
  rw [if_neg (by simpa using hb)]
  refine q_asg' (ev_runL (n:=n) (ev_var rfl) (ev_var rfl) rfl h1 h2) ?_
  generalize ltL (text.drop n)=u at *
  refine q_when (b:=decide (u=[]∨8 < u.length)) (evT_is (evT_or (evT_test (ev_eqT (ev_var rfl) (ev_t [] (by decide +kernel)))) fun _=>evT_test (ev_gt (ev_lenS (ev_var rfl) (by omega)) ev_int)) (by rw [Bool.decide_or];congr 1;exact decide_eq_decide.mpr (by omega))) (fun hc=>?_) (fun hc=>?_)
  ·rw [if_pos (of_decide_eq_true hc)]
   exact sw_ret (ev_no (ev_var rfl)) rfl
  ·rw [if_neg (of_decide_eq_false hc)]
   refine sw_ret (ev_yes (ev_mkTrName (ev_t tagName (by decide +kernel)) (ev_var rfl)) (ev_add (ev_var rfl) (ev_lenS (ev_var rfl) (by omega)))) ?_
   show _=(some (Ep.name u),((n+u.length:Nat):Int))
   rw [Int.natCast_add]
theorem rd_law_atom_at0 (K:PySem.W.Frag) (text:T) (n:Nat) (h1:n≤text.length) (h2:text.length≤1000) :
  SW (rVal (cPair K (cOpt (cTr K)) cInt)) [.val cT text,.val cInt (n:Int),.val cInt (30-((0:Nat):Int)),.any,.any] (t_law_atom_at0 K) (PF ((latom (lsub 0) (text.drop n)).1,((n+(latom (lsub 0) (text.drop n)).2:Nat):Int))):=by
 unfold t_law_atom_at0
 refine q_when (evT_test (ev_eqT (ev_sl1 (n:=n) (m:=1) (ev_var rfl) (ev_var rfl) (ev_add (ev_var rfl) ev_int) rfl (by omega) h2) (ev_t [40] (by decide +kernel)))) (fun hb=>?_) (fun hb=>?_)
 ·have hb:=take1.mp (of_decide_eq_true hb)
  have hat:latom (lsub 0) (text.drop n)=(none,0):=by unfold latom;rw [if_pos hb];rfl
  rw [hat]
  refine q_when (b:=true) (evT_is (evT_test (ev_gt (ev_var rfl) ev_int)) (by decide)) (fun _=>?_) (fun z=>absurd z (by decide))
  exact sw_ret (ev_no (ev_var rfl)) rfl
 ·exact rd_latom_tail K _ text n _ h1 h2 fun z=>of_decide_eq_false hb (take1.mpr z)
theorem rd_law_atom_at (K:PySem.W.Frag) (r:Nat) (hr:r < 30) (text:T) (n:Nat) (h1:n≤text.length) (h2:text.length≤1000) :
  SW (rVal (cPair K (cOpt (cTr K)) cInt)) [.val cT text,.val cInt (n:Int),.val cInt (30-((r+1:Nat):Int)),.any,.any] (t_law_atom_at K r) (PF ((latom (lsub (r+1)) (text.drop n)).1,((n+(latom (lsub (r+1)) (text.drop n)).2:Nat):Int))):=by
 unfold t_law_atom_at
 refine q_when (evT_test (ev_eqT (ev_sl1 (n:=n) (m:=1) (ev_var rfl) (ev_var rfl) (ev_add (ev_var rfl) ev_int) rfl (by omega) h2) (ev_t [40] (by decide +kernel)))) (fun hb=>?_) (fun hb=>?_)
 ·have hb:=take1.mp (of_decide_eq_true hb)
  have hat:latom (lsub (r+1)) (text.drop n)=if ((text.drop n).drop (1+(lS r ((text.drop n).drop 1)).2)).head?=some 41 then ((lS r ((text.drop n).drop 1)).1,1+(lS r ((text.drop n).drop 1)).2+1) else (none,1+(lS r ((text.drop n).drop 1)).2):=by
   unfold latom;rw [if_pos hb];rfl
  rw [List.drop_drop,List.drop_drop] at hat
  rw [hat]
  have hlt:=head_lt hb
  have le:=lS_le r (text.drop (n+1))
  rw [List.length_drop] at le
  refine q_when (b:=false) (evT_is (evT_test (ev_gt (ev_var rfl) ev_int)) (decide_eq_false (by omega))) (fun z=>absurd z (by decide)) (fun _=>?_)
  refine q_un2 (p:=((lS r (text.drop (n+1))).1,((n+1+(lS r (text.drop (n+1))).2:Nat):Int))) (ev_lr (n:=n+1) (ev_var rfl) (ev_add (ev_var rfl) ev_int) (ev_add (ev_var rfl) ev_int) rfl (by omega) (by omega) h2) ?_
  rintro _ _ rfl rfl
  generalize lS r (text.drop (n+1))=x at *
  obtain ⟨o,k⟩:=x
  dsimp only at le ⊢
  have t1:(text.drop (n+1+k)).take 1=[41]↔(text.drop (n+(1+k))).head?=some 41:=by rw [←Nat.add_assoc];exact take1
  refine q_when (evT_test (ev_neT (ev_sl1 (n:=n+1+k) (m:=1) (ev_var rfl) (ev_var rfl) (ev_add (ev_var rfl) ev_int) rfl (by omega) h2) (ev_t [41] (by decide +kernel)))) (fun hc=>?_) (fun hc=>?_)
  ·have hc:¬(text.drop (n+1+k)).take 1=[41]:=by simpa using hc
   rw [if_neg (fun z=>hc (t1.mpr z))]
   refine sw_ret (ev_no (ev_var rfl)) ?_
   show _=((none:Option Ep),((n+(1+k):Nat):Int))
   rw [Nat.add_assoc]
  ·have hc:(text.drop (n+1+k)).take 1=[41]:=by simpa using hc
   rw [if_pos (t1.mp hc)]
   refine sw_ret (ev_pair (K:=K) (ev_var rfl) (ev_add (ev_var rfl) ev_int)) ?_
   show _=(o,((n+(1+k+1):Nat):Int))
   congr 1
   omega
 ·exact rd_latom_tail K _ text n _ h1 h2 fun z=>of_decide_eq_false hb (take1.mpr z)
def t_law_power_at (K:PySem.W.Frag) (r:Nat):TS:=tSeq (tAsg (tCall (sp_lr K (latom (lsub r)) r) [] E0 (tCons (tVar 0) (tCons (tVar 1) (tCons (tVar 2) tNil)))) (gTup K 2 (gCons (gName 3) (gCons (gName 1) (gNil))))) (tSeq (tIfS (tOr (tTest (tOp (rIsN) (tVar 3) (tC .non))) (tTest (tOp rNe (tSl (rSlS) (tVar 0) (tPart (tVar 1)) (tPart (tOp oAdd (tVar 1) (tC (.int 1))))) (tC (.str "^"))))) (tRet (tTup (tCons (tVar 3) (tCons (tVar 1) tNil)))) tNext) (tSeq (tAsg (tCall (sp_law_run K) [] E0 (tCons (tVar 0) (tCons (tOp oAdd (tVar 1) (tC (.int 1))) (tCons (tC (.str "0123456789")) tNil)))) (gName 4)) (tSeq (tIfS (tOr (tTest (tOp rEq (tVar 4) (tC (.str "")))) (tOr (tTest (tOp oGt (tCB rLenS (tCons (tVar 4) tNil)) (tC (.int 2)))) (tOr (tAnd (tTest (tOp rEq (tOp (rIxS) (tVar 4) (tC (.int 0))) (tC (.str "0")))) (tTest (tOp rNe (tVar 4) (tC (.str "0"))))) (tTest (tOp oGt (tCB rIntS (tCons (tVar 4) tNil)) (tC (.int 12))))))) (tRet (tTup (tCons (tC .non) (tCons (tVar 1) tNil)))) tNext) (tRet (tTup (tCons (tTup (tCons (tC (.str "^")) (tCons (tVar 3) (tCons (tCB rIntS (tCons (tVar 4) tNil)) tNil)))) (tCons (tOp oAdd (tOp oAdd (tVar 1) (tC (.int 1))) (tCB rLenS (tCons (tVar 4) tNil))) tNil)))))))
theorem rd_law_power_at (K:PySem.W.Frag) (r:Nat) (text:T) (n:Nat) (h1:n≤text.length) (h2:text.length≤1000) :
  SW (rVal (cPair K (cOpt (cTr K)) cInt)) [.val cT text,.val cInt (n:Int),.val cInt (30-(r:Int)),.any,.any] (t_law_power_at K r) (PF ((lpower (lsub r) (text.drop n)).1,((n+(lpower (lsub r) (text.drop n)).2:Nat):Int))):=by
 unfold t_law_power_at
 have le:=atom_le (lsub_le r) (text.drop n)
 rw [List.length_drop] at le
 refine q_un2 (p:=((latom (lsub r) (text.drop n)).1,((n+(latom (lsub r) (text.drop n)).2:Nat):Int))) (ev_lr (n:=n) (ev_var rfl) (ev_var rfl) (ev_var rfl) rfl rfl h1 h2) ?_
 rintro _ _ rfl rfl
 unfold lpower
 simp only [List.drop_drop]
 generalize latom (lsub r) (text.drop n)=x at *
 obtain ⟨o,k⟩:=x
 dsimp only at le ⊢
 cases o with
 | none =>
  refine q_when (b:=true) (evT_is (evT_or (b:=true) (evT_test (ev_isNo tr_non (ev_var rfl))) fun h=>by cases h) rfl) (fun _=>?_) (fun z=>absurd z (by decide))
  exact sw_ret (ev_pair (K:=K) (ev_var rfl) (ev_var rfl)) rfl
 | some e =>
  dsimp only
  refine q_when (b:=!decide ((text.drop (n+k)).take 1=[94])) (evT_is (evT_or (evT_test (ev_isNo tr_non (ev_var (d:=some e) rfl))) fun _=>evT_test (ev_neT (ev_sl1 (n:=n+k) (m:=1) (ev_var rfl) (ev_var rfl) (ev_add (ev_var rfl) ev_int) rfl (by omega) h2) (ev_t [94] (by decide +kernel)))) rfl) (fun hc=>?_) (fun hc=>?_)
  ·have hc:¬(text.drop (n+k)).take 1=[94]:=by simpa using hc
   rw [if_neg (fun z=>hc (take1.mpr z))]
   exact sw_ret (ev_pair (K:=K) (ev_var rfl) (ev_var rfl)) rfl
  ·have hc:(text.drop (n+k)).take 1=[94]:=by simpa using hc
   have hh:=take1.mp hc
   have hlt:=head_lt hh
   rw [if_pos hh]
   have lf:=fg_len (text.drop (n+(k+1)))
   have fa:=fg_all (text.drop (n+(k+1)))
   rw [List.length_drop] at lf
   refine q_asg' (ev_runF (n:=n+(k+1)) (ev_var rfl) (ev_add (ev_var rfl) ev_int) (by omega) (by omega) h2) ?_
   generalize fgL (text.drop (n+(k+1)))=w at *
   refine q_when (b:=decide (w=[]∨2 < w.length∨zAhead w∨12 < valL w)) (evT_is (b:=decide (w=[]) || (decide (2 < w.length) || (decide (zAhead w) || decide (12 < valL w)))) (evT_or (evT_test (ev_eqT (ev_var rfl) (ev_t [] (by decide +kernel)))) fun g0=>evT_or (b:=decide (zAhead w) || decide (12 < valL w)) (evT_test (ev_is (ev_gt (ev_lenS (ev_var rfl) (by omega)) ev_int) (decide_eq_decide.mpr (by omega)))) fun g1=>evT_or (z_ev (ev_var rfl) (of_decide_eq_false g0) (by omega)) fun _=>evT_test (ev_is (ev_gt (ev_intS (ev_var rfl) fa (of_decide_eq_false g0) (by have:=of_decide_eq_false g1;omega)) ev_int) (decide_eq_decide.mpr (by show ((valL w:Nat):Int) > 12↔_;omega)))) (by rw [Bool.decide_or,Bool.decide_or,Bool.decide_or])) (fun hd=>?_) (fun hd=>?_)
   ·rw [if_pos (of_decide_eq_true hd)]
    exact sw_ret (ev_no (ev_var rfl)) rfl
   ·have hd:=of_decide_eq_false hd
    rw [if_neg hd]
    have w0:w≠[]:=fun z=>hd (.inl z)
    refine sw_ret (ev_yes (ev_mkTrPow (ev_t [94] (by decide +kernel)) (ev_unsome (ev_var (d:=some e) rfl)) (ev_intS (ev_var rfl) fa w0 (by omega))) (ev_add (ev_add (ev_var rfl) ev_int) (ev_lenS (ev_var rfl) (by omega)))) ?_
    show _=(some (Ep.pow e (valL w)),((n+(k+1+w.length):Nat):Int))
    congr 1
    omega
def t_law_factor_at (K:PySem.W.Frag) (r:Nat):TS:=tSeq (tAsg (tCB rLenS (tCons (tCall (sp_law_run K) [] E0 (tCons (tVar 0) (tCons (tVar 1) (tCons (tC (.str "-")) tNil)))) tNil)) (gName 3)) (tSeq (tAsg (tCall (sp_lr K (lpower (lsub r)) r) [] E0 (tCons (tVar 0) (tCons (tOp oAdd (tVar 1) (tVar 3)) (tCons (tVar 2) tNil)))) (gTup K 2 (gCons (gName 4) (gCons (gName 1) (gNil))))) (tSeq (tIfS (tOr (tTest (tOp (rIsN) (tVar 4) (tC .non))) (tTest (tOp oGt (tVar 3) (tC (.int 30))))) (tRet (tTup (tCons (tC .non) (tCons (tVar 1) tNil)))) tNext) (tSeq (tFor (iRng1 (tCons (tVar 3) tNil)) (gName 5) (tAsg (tTup (tCons (tC (.str "less")) (tCons (tVar 4) tNil))) (gName 4))) (tRet (tTup (tCons (tVar 4) (tCons (tVar 1) tNil)))))))
theorem rd_law_factor_at (K:PySem.W.Frag) (r:Nat) (text:T) (n:Nat) (h1:n≤text.length) (h2:text.length≤1000) :
  SW (rVal (cPair K (cOpt (cTr K)) cInt)) [.val cT text,.val cInt (n:Int),.val cInt (30-(r:Int)),.any,.any,.any] (t_law_factor_at K r) (PF ((lfactor (lsub r) (text.drop n)).1,((n+(lfactor (lsub r) (text.drop n)).2:Nat):Int))):=by
 unfold t_law_factor_at
 have ml:=minus_le (text.drop n)
 have le:=power_le (lsub_le r) ((text.drop n).drop (minuses (text.drop n)))
 rw [List.length_drop,List.length_drop] at le
 rw [List.length_drop] at ml
 refine q_asg' (ev_runM (n:=n) (ev_var rfl) (ev_var rfl) rfl h1 h2) ?_
 unfold lfactor
 generalize minuses (text.drop n)=m at *
 rw [List.drop_drop] at le ⊢
 refine q_un2 (p:=((lpower (lsub r) (text.drop (n+m))).1,((n+m+(lpower (lsub r) (text.drop (n+m))).2:Nat):Int))) (ev_lr (n:=n+m) (ev_var rfl) (ev_add (ev_var rfl) (ev_var rfl)) (ev_var rfl) (by omega) rfl (by omega) h2) ?_
 rintro _ _ rfl rfl
 generalize lpower (lsub r) (text.drop (n+m))=x at *
 obtain ⟨o,k⟩:=x
 dsimp only at le ⊢
 have ek:((n+m+k:Nat):Int)=((n+(m+k):Nat):Int):=by rw [Nat.add_assoc]
 rw [ek]
 cases o with
 | none =>
  refine q_when (b:=true) (evT_is (evT_or (b:=true) (evT_test (ev_isNo tr_non (ev_var rfl))) fun h=>by cases h) rfl) (fun _=>?_) (fun z=>absurd z (by decide))
  exact sw_ret (ev_no (ev_var rfl)) rfl
 | some e =>
  dsimp only
  refine q_when (b:=decide (30 < m)) (evT_is (evT_or (evT_test (ev_isNo tr_non (ev_var (d:=some e) rfl))) fun _=>evT_test (ev_gt (ev_var rfl) ev_int)) (by show (false || _)=_;rw [Bool.false_or];exact decide_eq_decide.mpr (by omega))) (fun hc=>?_) (fun hc=>?_)
  ·rw [if_pos (of_decide_eq_true hc)]
   exact sw_ret (ev_no (ev_var rfl)) rfl
  ·rw [if_neg (of_decide_eq_false hc)]
   have hc:=of_decide_eq_false hc
   refine q_forR1G (fun j=>[.val cT text,.val cInt ((n+(m+k):Nat):Int),.val cInt (30-(r:Int)),.val cInt (m:Int),.val (cOpt (cTr K)) (some (lessN j e)),.any]) (ev_var rfl) (by omega) (by omega) (Wk.refl _) (fun j hj=>?_) ?_
   ·exact sw_asg (c:=cOpt (cTr K)) (d:=some (lessN (j+1) e)) (ev_some (ev_mkTrLess (ev_t tagLess (by decide +kernel)) (ev_unsome (ev_var (d:=some (lessN j e)) rfl)))) (.same (.same (.same (.same (.same (.any .nil))))))
   ·rw [Int.toNat_natCast]
    exact sw_ret (ev_pair (K:=K) (ev_var rfl) (ev_var rfl)) rfl
end P18
end Lw.X
namespace Lw.X
namespace P18
open PySem PySem.Spec PyProof.Rows L2 Pw Xp
theorem ahead3 {s1 s2:Nat} {l:T}:decide (l.take 3∈[[32,s1,32],[32,s2,32]])=(ahead [s1,s2] l).isSome:=by
 cases ha:ahead [s1,s2] l with
 | some s =>
  obtain ⟨hs,r,hr⟩:=ahead_some ha
  subst hr
  refine decide_eq_true ?_
  show [32,s,32]∈_
  have:s=s1∨s=s2:=by simpa using hs
  rcases this with rfl | rfl<;>simp
 | none =>
  refine decide_eq_false fun h=>?_
  have key:∀ s,s∈[s1,s2]→l.take 3≠[32,s,32]:=fun s hs e=>by
   match l,e with
   | a :: b :: c :: r,e =>
    have e:[a,b,c]=[32,s,32]:=e
    cases e
    have:ahead [s1,s2] (32 :: s :: 32 :: r)=if s∈[s1,s2] then some s else none:=rfl
    rw [this,if_pos hs] at ha
    cases ha
   | [],e=>cases e
   | [a],e=>cases e
   | [a,b],e=>cases e
  rcases List.mem_cons.mp h with e | h
  ·exact key s1 (by simp) e
  ·exact key s2 (by simp) (List.mem_singleton.mp h)
def t_lrow (K:PySem.W.Frag) (sp0:Sp) (q1 q2:Str):TS:=tSeq (tAsg (tCall sp0 [] E0 (tCons (tVar 0) (tCons (tVar 1) (tCons (tVar 2) tNil)))) (gTup K 2 (gCons (gName 3) (gCons (gName 1) (gNil))))) (tSeq (tWhile (tAnd (tTest (tOp (rNotN) (tVar 3) (tC .non))) (tTest (tOp (rIn K false) (tSl (rSlS) (tVar 0) (tPart (tVar 1)) (tPart (tOp oAdd (tVar 1) (tC (.int 3))))) (tLst (tCons (tC (.str q1)) (tCons (tC (.str q2)) tNil)))))) (tSeq (tAsg (tOp (rIxS) (tVar 0) (tOp oAdd (tVar 1) (tC (.int 1)))) (gName 4)) (tSeq (tAsg (tCall sp0 [] E0 (tCons (tVar 0) (tCons (tOp oAdd (tVar 1) (tC (.int 3))) (tCons (tVar 2) tNil)))) (gTup K 2 (gCons (gName 5) (gCons (gName 1) (gNil))))) (tSeq (tIfS (tTest (tOp (rIsN) (tVar 5) (tC .non))) (tRet (tTup (tCons (tC .non) (tCons (tVar 1) tNil)))) tNext) (tAsg (tTup (tCons (tVar 4) (tCons (tVar 3) (tCons (tVar 5) tNil)))) (gName 3)))))) (tRet (tTup (tCons (tVar 3) (tCons (tVar 1) tNil)))))
theorem rd_lrow (K:PySem.W.Frag) (p:LR) (hp:∀ l,(p l).2≤l.length) (r:Nat) (q1 q2:Str) (s1 s2:Nat) (e1:q1=Tx [32,s1,32]) (e2:q2=Tx [32,s2,32]) (text:T) (n:Nat) (h1:n≤text.length) (h2:text.length≤1000) :
  SW (rVal (cPair K (cOpt (cTr K)) cInt)) [.val cT text,.val cInt (n:Int),.val cInt (30-(r:Int)),.any,.any,.any] (t_lrow K (sp_lr K p r) q1 q2) (PF ((lrow [s1,s2] p (text.drop n)).1,((n+(lrow [s1,s2] p (text.drop n)).2:Nat):Int))):=by
 unfold t_lrow
 have le:=hp (text.drop n)
 rw [List.length_drop] at le
 refine q_un2 (p:=((p (text.drop n)).1,((n+(p (text.drop n)).2:Nat):Int))) (ev_lr (n:=n) (ev_var rfl) (ev_var rfl) (ev_var rfl) rfl rfl h1 h2) ?_
 rintro _ _ rfl rfl
 have hat:lrow [s1,s2] p (text.drop n)=match (p (text.drop n)).1 with | none=>(none,(p (text.drop n)).2) | some e=>lgo [s1,s2] p ((text.drop n).length+1) (text.drop (n+(p (text.drop n)).2)) e (p (text.drop n)).2:=by
  unfold lrow;rw [List.drop_drop];try rfl
 rw [hat]
 clear hat
 generalize p (text.drop n)=x0 at *
 obtain ⟨o,k0⟩:=x0
 dsimp only at le ⊢
 cases o with
 | none =>
  refine q_while (fun _:Unit=>[.val cT text,.val cInt ((n+k0:Nat):Int),.val cInt (30-(r:Int)),.val (cOpt (cTr K)) none,.any,.any]) (fun _=>True) (fun _=>0) (fun _=>false) () (Wk.refl _) trivial (fun x hx=>evT_is (evT_and (a:=false) (b:=true) (evT_test (ev_notNo tr_non (ev_var (d:=(none:Option Ep)) rfl))) fun h=>by cases h) rfl) (fun x hx hb=>absurd hb (by decide)) (fun x hx hb=>?_)
  exact sw_ret (ev_pair (K:=K) (ev_var rfl) (ev_var rfl)) rfl
 | some e0 =>
  dsimp only
  obtain ⟨res,hres⟩:∃ res,res=lgo [s1,s2] p ((text.drop n).length+1) (text.drop (n+k0)) e0 k0:=⟨_,rfl⟩
  rw [←hres]
  refine q_while (fun x:Nat×Ep×Nat=>[.val cT text,.val cInt ((n+x.2.2:Nat):Int),.val cInt (30-(r:Int)),.val (cOpt (cTr K)) (some x.2.1),.any,.any])
   (fun x=>n+x.2.2≤text.length∧text.length < n+x.2.2+x.1∧res=lgo [s1,s2] p x.1 (text.drop (n+x.2.2)) x.2.1 x.2.2) (fun x=>x.1) (fun x=>(ahead [s1,s2] (text.drop (n+x.2.2))).isSome) ((text.drop n).length+1,e0,k0) (Wk.refl _) ⟨by dsimp only;omega,by dsimp only;rw [List.length_drop];omega,hres⟩ (fun x hx=>?_) (fun x hx hb=>?_) (fun x hx hb=>?_)
  ·obtain ⟨k,f,m⟩:=x
   obtain ⟨hx1,hx2,hx3⟩:=hx
   dsimp only at hx1 hx2 hx3 ⊢
   refine evT_is (b:=true && _) (evT_and (evT_test (ev_notNo tr_non (ev_var (d:=some f) rfl))) fun _=>evT_test (ev_inTL (ds:=[[32,s1,32],[32,s2,32]]) (ev_sl1 (n:=n+m) (m:=3) (ev_var rfl) (ev_var rfl) (ev_add (ev_var rfl) ev_int) rfl (by omega) h2) (EvN.ev (K:=K) (evN_lst (el_cons (ev_t _ e1) (el_cons (ev_t _ e2) el_nil)) (by simp))))) ?_
   rw [Bool.true_and,ahead3]
  ·obtain ⟨k,f,m⟩:=x
   obtain ⟨hx1,hx2,hx3⟩:=hx
   dsimp only at hx1 hx2 hx3 hb ⊢
   obtain ⟨s,hs⟩:=Option.isSome_iff_exists.mp hb
   obtain ⟨_,rr,hr⟩:=ahead_some hs
   have l3:=kahead_len hs
   rw [List.length_drop] at l3
   have hs1:text.getD (n+m+1) 0=s:=by
    rw [←getD_drop,hr];rfl
   obtain ⟨j,rfl⟩:∃ j,k=j+1:=⟨k-1,by omega⟩
   rw [lgo,hs] at hx3
   dsimp only at hx3
   rw [List.drop_drop,List.drop_drop] at hx3
   have lp:=hp (text.drop (n+m+3))
   rw [List.length_drop] at lp
   refine q_asg' (ev_is (ev_ixSG (ev_var rfl) (ev_add (ev_var rfl) ev_int) ⟨by omega,by omega⟩ (by omega)) (d':=[s]) (by rw [show (((n+m:Nat):Int)+1).toNat=n+m+1 from by omega,hs1])) ?_
   refine q_un2 (p:=((p (text.drop (n+m+3))).1,((n+m+3+(p (text.drop (n+m+3))).2:Nat):Int))) (ev_lr (n:=n+m+3) (ev_var rfl) (ev_add (ev_var rfl) ev_int) (ev_var rfl) (by omega) rfl (by omega) h2) ?_
   rintro _ _ rfl rfl
   generalize p (text.drop (n+m+3))=y at *
   obtain ⟨o,q⟩:=y
   dsimp only at hx3 lp ⊢
   have eq:((n+m+3+q:Nat):Int)=((n+(m+(3+q)):Nat):Int):=by omega
   rw [eq]
   cases o with
   | none =>
    refine q_when (b:=true) (evT_test (ev_isNo tr_non (ev_var (d:=(none:Option Ep)) rfl))) (fun _=>?_) (fun z=>absurd z (by decide))
    refine sw_ret (ev_no (ev_var rfl)) ?_
    show _=(res.1,((n+res.2:Nat):Int))
    rw [hx3]
   | some g =>
    dsimp only at hx3
    refine q_when (b:=false) (evT_test (ev_isNo tr_non (ev_var (d:=some g) rfl))) (fun z=>absurd z (by decide)) (fun _=>?_)
    refine sw_asg (c:=cOpt (cTr K)) (d:=some (.two s f g)) (ev_some (ev_mkTrTwo (ev_var rfl) (ev_unsome (ev_var (d:=some f) rfl)) (ev_unsome (ev_var (d:=some g) rfl)))) ⟨(j,.two s f g,m+(3+q)),.same (.same (.same (.same (.any (.any .nil))))),⟨by dsimp only;omega,by dsimp only;omega,?_⟩,by dsimp only;omega⟩
    dsimp only
    rw [hx3,show n+m+(3+q)=n+(m+(3+q)) from by omega]
  ·obtain ⟨k,f,m⟩:=x
   obtain ⟨hx1,hx2,hx3⟩:=hx
   dsimp only at hx1 hx2 hx3 hb ⊢
   have hn':ahead [s1,s2] (text.drop (n+m))=none:=by
    cases h:ahead [s1,s2] (text.drop (n+m)) with
    | none=>rfl
    | some s=>rw [h] at hb;cases hb
   obtain ⟨j,rfl⟩:∃ j,k=j+1:=⟨k-1,by omega⟩
   rw [lgo,hn'] at hx3
   rw [hx3]
   exact sw_ret (ev_pair (K:=K) (ev_var rfl) (ev_var rfl)) rfl
def t_law_term_at (K:PySem.W.Frag) (r:Nat):TS:=tSeq (tAsg (tCall (sp_lr K (lfactor (lsub r)) r) [] E0 (tCons (tVar 0) (tCons (tVar 1) (tCons (tVar 2) tNil)))) (gTup K 2 (gCons (gName 3) (gCons (gName 1) (gNil))))) (tSeq (tWhile (tAnd (tTest (tOp (rNotN) (tVar 3) (tC .non))) (tTest (tOp (rIn K false) (tSl (rSlS) (tVar 0) (tPart (tVar 1)) (tPart (tOp oAdd (tVar 1) (tC (.int 3))))) (tLst (tCons (tC (.str " * ")) (tCons (tC (.str " / ")) tNil)))))) (tSeq (tAsg (tOp (rIxS) (tVar 0) (tOp oAdd (tVar 1) (tC (.int 1)))) (gName 4)) (tSeq (tAsg (tCall (sp_lr K (lfactor (lsub r)) r) [] E0 (tCons (tVar 0) (tCons (tOp oAdd (tVar 1) (tC (.int 3))) (tCons (tVar 2) tNil)))) (gTup K 2 (gCons (gName 5) (gCons (gName 1) (gNil))))) (tSeq (tIfS (tTest (tOp (rIsN) (tVar 5) (tC .non))) (tRet (tTup (tCons (tC .non) (tCons (tVar 1) tNil)))) tNext) (tAsg (tTup (tCons (tVar 4) (tCons (tVar 3) (tCons (tVar 5) tNil)))) (gName 3)))))) (tRet (tTup (tCons (tVar 3) (tCons (tVar 1) tNil)))))
theorem rd_law_term_at (K:PySem.W.Frag) (r:Nat) (text:T) (n:Nat) (h1:n≤text.length) (h2:text.length≤1000) :
  SW (rVal (cPair K (cOpt (cTr K)) cInt)) [.val cT text,.val cInt (n:Int),.val cInt (30-(r:Int)),.any,.any,.any] (t_law_term_at K r) (PF ((lterm (lsub r) (text.drop n)).1,((n+(lterm (lsub r) (text.drop n)).2:Nat):Int))) :=
 rd_lrow K (lfactor (lsub r)) (factor_le (lsub_le r)) r " * " " / " 42 47 (by decide +kernel) (by decide +kernel) text n h1 h2
def t_law_sum_at (K:PySem.W.Frag) (r:Nat):TS:=tSeq (tAsg (tCall (sp_lr K (lterm (lsub r)) r) [] E0 (tCons (tVar 0) (tCons (tVar 1) (tCons (tVar 2) tNil)))) (gTup K 2 (gCons (gName 3) (gCons (gName 1) (gNil))))) (tSeq (tWhile (tAnd (tTest (tOp (rNotN) (tVar 3) (tC .non))) (tTest (tOp (rIn K false) (tSl (rSlS) (tVar 0) (tPart (tVar 1)) (tPart (tOp oAdd (tVar 1) (tC (.int 3))))) (tLst (tCons (tC (.str " + ")) (tCons (tC (.str " - ")) tNil)))))) (tSeq (tAsg (tOp (rIxS) (tVar 0) (tOp oAdd (tVar 1) (tC (.int 1)))) (gName 4)) (tSeq (tAsg (tCall (sp_lr K (lterm (lsub r)) r) [] E0 (tCons (tVar 0) (tCons (tOp oAdd (tVar 1) (tC (.int 3))) (tCons (tVar 2) tNil)))) (gTup K 2 (gCons (gName 5) (gCons (gName 1) (gNil))))) (tSeq (tIfS (tTest (tOp (rIsN) (tVar 5) (tC .non))) (tRet (tTup (tCons (tC .non) (tCons (tVar 1) tNil)))) tNext) (tAsg (tTup (tCons (tVar 4) (tCons (tVar 3) (tCons (tVar 5) tNil)))) (gName 3)))))) (tRet (tTup (tCons (tVar 3) (tCons (tVar 1) tNil)))))
theorem rd_law_sum_at (K:PySem.W.Frag) (r:Nat) (text:T) (n:Nat) (h1:n≤text.length) (h2:text.length≤1000) :
  SW (rVal (cPair K (cOpt (cTr K)) cInt)) [.val cT text,.val cInt (n:Int),.val cInt (30-(r:Int)),.any,.any,.any] (t_law_sum_at K r) (PF ((lS r (text.drop n)).1,((n+(lS r (text.drop n)).2:Nat):Int))):=by
 rw [lS_eq]
 exact rd_lrow K (lterm (lsub r)) (term_le (lsub_le r)) r " + " " - " 43 45 (by decide +kernel) (by decide +kernel) text n h1 h2
def sp_law_tree_of (K:PySem.W.Frag):Sp:=SpF (aCons cT aNil) (fun a=>a.1.length≤1000000) (cOpt (cTr K)) (fun a=>readL a.1)
def t_law_tree_of (K:PySem.W.Frag):TS:=tSeq (tIfS (tTest (tOp oGt (tCB rLenS (tCons (tVar 0) tNil)) (tC (.int 1000)))) (tRet (tC .non)) tNext) (tSeq (tAsg (tCall (sp_lr K (lS 30) 30) [] E0 (tCons (tVar 0) (tCons (tC (.int 0)) (tCons (tC (.int 0)) tNil)))) (gTup K 2 (gCons (gName 1) (gCons (gName 2) (gNil))))) (tSeq (tIfS (tTest (tOp rNe (tVar 2) (tCB rLenS (tCons (tVar 0) tNil)))) (tRet (tC .non)) tNext) (tRet (tVar 1))))
theorem rd_law_tree_of (K:PySem.W.Frag) (text:T) (h:text.length≤1000000):SW (rVal (cOpt (cTr K))) [.val cT text,.any,.any] (t_law_tree_of K) (PF (readL text)):=by
 rw [←ltree_is]
 unfold t_law_tree_of ltree
 refine q_when (evT_test (ev_gt (ev_lenS (ev_var rfl) h) ev_int)) (fun hc=>?_) (fun hc=>?_)
 ·have hc:=of_decide_eq_true hc
  rw [if_pos (by omega)]
  exact sw_ret ev_none rfl
 have hc:=of_decide_eq_false hc
 rw [if_neg (by omega)]
 refine q_un2 (p:=((lS 30 text).1,((0+(lS 30 text).2:Nat):Int))) (ev_lr (p:=lS 30) (r:=30) (n:=0) (ev_var rfl) ev_int ev_int rfl (by decide) (Nat.zero_le _) (by omega)) ?_
 rintro _ _ rfl rfl
 rw [Nat.zero_add]
 refine q_when (evT_test (ev_neI (ev_var rfl) (ev_lenS (ev_var rfl) h))) (fun hd=>?_) (fun hd=>?_)
 ·have hd:¬((lS 30 text).2:Int)=(text.length:Int):=by simpa using hd
  rw [if_neg (by omega)]
  exact sw_ret ev_none rfl
 ·have hd:((lS 30 text).2:Int)=(text.length:Int):=by simpa using hd
  rw [if_pos (by omega)]
  exact sw_ret (ev_var rfl) rfl
end P18
end Lw.X
namespace Xp
open PySem L2
theorem mes_lessC {c:Ep} (h:isLess c=false):∀ k,mes (lessN (k+1) c)=mes c+1
 | 0=>by show mes c+(if isLess c then 0 else 1)=_;rw [h];rfl
 | k+1=>by show mes (lessN (k+1) c)+0=_;rw [mes_lessC h k]
theorem mes_right (s:Nat) (l r:Ep):mes r+1≤mes (.two s l r):=by
 show _≤max _ (mes r+1)
 omega
theorem mes_left (s:Nat) (l r:Ep):mes l≤mes (.two s l r):=by
 show _≤max (mes l+_) _
 omega
theorem spine_mes:∀ (e:Ep) (d:Ep),d∈(spineF e).2→mes d≤mes e
 | .two s l r,d,hd=>by
  rcases List.mem_append.mp (show d∈(spineF l).2++[.two s l r] from hd) with h | h
  ·exact Nat.le_trans (spine_mes l d h) (mes_left s l r)
  ·rw [List.mem_singleton.mp h];exact Nat.le_refl _
 | .num _,_,h=>by simp [spineF] at h
 | .name _,_,h=>by simp [spineF] at h
 | .pow _ _,_,h=>by simp [spineF] at h
 | .less _,_,h=>by simp [spineF] at h
theorem spine_mes0:∀ e:Ep,isTwo e=true→mes (spineF e).1+1≤mes e
 | .two s l r,_=>by
  show mes (spineF l).1+1≤max (mes l+(if isTwo l then 0 else 1)) _
  by_cases h:isTwo l=true
  ·have:=spine_mes0 l h;omega
  ·rw [if_neg h]
   have:(spineF l).1=l:=by
    cases l with
    | two s l r=>exact absurd rfl h
    | _=>rfl
   rw [this];omega
 | .num _,h=>by cases h
 | .name _,h=>by cases h
 | .pow _ _,h=>by cases h
 | .less _,h=>by cases h
theorem spine_mes1 (s:Nat) (l r:Ep):mes (spineF (.two s l r)).1+1≤mes (.two s l r):=spine_mes0 _ rfl
end Xp
namespace Lw.X
namespace P18
open PySem PySem.Spec PyProof.Rows L2 Pw Xp
def sp_shown (K:PySem.W.Frag) (Y:ExC) (n:Nat):Nat→Sp:=SpMF Y aNil (fun z=>mes z.1 < n∧size z.1≤5000∧Wf z.1) cT (fun z=>sh z.1)
def sp_bracketed (K:PySem.W.Frag) (Y:ExC) (n:Nat):Sp:=SpF (aCons (cEx Y) (aCons cInt aNil)) (fun a=>mes a.1 < n∧size a.1≤5000∧Wf a.1∧∃ l:Nat,a.2.1=l) cT (fun a=>br (binds a.1) a.2.1.toNat (sh a.1))
theorem ev_shown {K:PySem.W.Frag} {Y:ExC} {Γ:Gam} {ta:TE} {e:Ep} {E:XK} {n:Nat} (h:Ev Γ ta (cEx Y) e) (h1:mes e < n) (h2:size e≤5000) (h3:Wf e):Ev Γ (tM5 Y "shown" (sp_shown K Y n) E ta tNil) cT (sh e) :=
 ev_mF (f:=fun z:Ep×Unit=>sh z.1) (pre:=fun z:Ep×Unit=>mes z.1 < n∧size z.1≤5000∧Wf z.1) h ea_nil ⟨h1,h2,h3⟩ nf_shown
theorem ev_brack {K:PySem.W.Frag} {Y:ExC} {Γ:Gam} {ta tb:TE} {e:Ep} {E:XK} {n l:Nat} (h:Ev Γ ta (cEx Y) e) (hl:Ev Γ tb cInt (l:Int)) (h1:mes e < n) (h2:size e≤5000) (h3:Wf e):Ev Γ (tCall (sp_bracketed K Y n) [] E (tCons ta (tCons tb tNil))) cT (br (binds e) l (sh e)) :=
 ev_call (f:=fun a:Ep×Int×Unit=>br (binds a.1) a.2.1.toNat (sh a.1)) (pre:=fun a:Ep×Int×Unit=>mes a.1 < n∧size a.1≤5000∧Wf a.1∧∃ l:Nat,a.2.1=l) (ea_cons h (ea_cons hl ea_nil)) ⟨h1,h2,h3,l,rfl⟩
def t_bracketed (K:PySem.W.Frag) (Y:ExC) (n:Nat):TS:=tSeq (tIfS (tTest (tOp oLt (tM5 Y "binds" (sp_binds K Y) E0 (tVar 0) tNil) (tVar 1))) (tRet (tOp (rCatS) (tOp (rCatS) (tC (.str "(")) (tM5 Y "shown" (sp_shown K Y n) E0 (tVar 0) tNil)) (tC (.str ")")))) tNext) (tRet (tM5 Y "shown" (sp_shown K Y n) E0 (tVar 0) tNil))
theorem rd_bracketed (K:PySem.W.Frag) (Y:ExC) (n:Nat) (e:Ep) (l:Nat) (h1:mes e < n) (h2:size e≤5000) (h3:Wf e):SW (rVal cT) [.val (cEx Y) e,.val cInt (l:Int)] (t_bracketed K Y n) (PF (br (binds e) l (sh e))):=by
 have hl:=sh_len e h3
 unfold t_bracketed
 refine q_when (evT_test (ev_lt (ev_binds (ev_var rfl)) (ev_var rfl))) (fun hc=>?_) (fun hc=>?_)
 ·have hc:=of_decide_eq_true hc
  refine sw_ret (ev_is (ev_catS (ev_catS (ev_t [40] (by decide +kernel)) (ev_shown (ev_var rfl) h1 h2 h3) (by simp;omega)) (ev_t [41] (by decide +kernel)) (by simp;omega)) ?_) rfl
  unfold br;rw [if_pos (by omega)];simp
 ·have hc:=of_decide_eq_false hc
  refine sw_ret (ev_is (ev_shown (ev_var rfl) h1 h2 h3) ?_) rfl
  unfold br;rw [if_neg (by omega)]
def t_Number_shown (K:PySem.W.Frag):TS:=tRet (tCB rStrI (tCons (tFld K (tVar 0) "whole") tNil))
def t_Name_shown (K:PySem.W.Frag):TS:=tRet (tFld K (tVar 0) "word")
def t_Two_shown (K:PySem.W.Frag) (Y:ExC) (n:Nat):TS:=tSeq (tAsg (tMeth Y.Two "spine" (sp_Two_spine K Y) [] E0 (tVar 0) tNil) (gTup K 2 (gCons (gName 1) (gCons (gName 2) (gNil))))) (tSeq (tAsg (tM5 Y "shown" (sp_shown K Y n) E0 (tVar 1) tNil) (gName 3)) (tSeq (tAsg (tM5 Y "binds" (sp_binds K Y) E0 (tVar 1) tNil) (gName 4)) (tSeq (tFor (iList K (tVar 2)) (gName 5) (tSeq (tIfS (tTest (tOp oLt (tVar 4) (tM5 Y "binds" (sp_binds K Y) E0 (tVar 5) tNil))) (tAsg (tOp (rCatS) (tOp (rCatS) (tC (.str "(")) (tVar 3)) (tC (.str ")"))) (gName 3)) tNext) (tSeq (tAsg (tM5 Y "binds" (sp_binds K Y) E0 (tVar 5) tNil) (gName 4)) (tAsg (tOp (rCatS) (tOp (rCatS) (tOp (rCatS) (tOp (rCatS) (tVar 3) (tC (.str " "))) (tFld K (tVar 5) "sign")) (tC (.str " "))) (tCall (sp_bracketed K Y n) [] E0 (tCons (tFld K (tVar 5) "right") (tCons (tOp oAdd (tVar 4) (tC (.int 1))) tNil)))) (gName 3))))) (tRet (tVar 3)))))
def t_Power_shown (K:PySem.W.Frag) (Y:ExC) (n:Nat):TS:=tRet (tOp (rCatS) (tOp (rCatS) (tCall (sp_bracketed K Y n) [] E0 (tCons (tFld K (tVar 0) "base") (tCons (tC (.int 4)) tNil))) (tC (.str "^"))) (tCB rStrI (tCons (tFld K (tVar 0) "exponent") tNil)))
def t_Less_shown (K:PySem.W.Frag) (Y:ExC) (n:Nat):TS:=tSeq (tAsg (tMeth Y.Less "core" (sp_Less_core K Y) [] E0 (tVar 0) tNil) (gTup K 2 (gCons (gName 1) (gCons (gName 2) (gNil))))) (tRet (tOp (rCatS) (tOp (rMulS) (tC (.str "-")) (tVar 2)) (tCall (sp_bracketed K Y n) [] E0 (tCons (tVar 1) (tCons (tC (.int 2)) tNil)))))
theorem rd_Number_shown (K:PySem.W.Frag) (Y:ExC) (k:ExK K Y) (e:Ep) (h:clsI e=0) (w:Wf e):SW (rVal cT) [.val (cEx Y) e] (t_Number_shown K) (PF (sh e)):=by
 cases e with
 | num n =>
  have:n < 10^30:=num_lt w
  refine sw_ret (ev_strI (ev_fWhole k (ev_var rfl)) ?_) rfl
  by_cases h0:n=0
  ·subst h0;decide
  ·rw [Nat.log2_lt h0];exact Nat.lt_of_lt_of_le this (by decide +kernel)
 | _=>cases h
theorem rd_Name_shown (K:PySem.W.Frag) (Y:ExC) (k:ExK K Y) (e:Ep) (h:clsI e=1):SW (rVal cT) [.val (cEx Y) e] (t_Name_shown K) (PF (sh e)):=by
 cases e with
 | name w=>exact sw_ret (ev_fWord k (ev_var rfl)) rfl
 | _=>cases h
theorem rd_Power_shown (K:PySem.W.Frag) (Y:ExC) (k:ExK K Y) (n:Nat) (e:Ep) (h:clsI e=3) (h1:mes e < n+1) (h2:size e≤5000) (w:Wf e):SW (rVal cT) [.val (cEx Y) e] (t_Power_shown K Y n) (PF (sh e)):=by
 cases e with
 | pow b m =>
  have hl:=sh_len b w.1
  have h1':mes b < n:=by have h1:mes b+1 < n+1:=h1;omega
  have h2':size b≤5000:=by simp [size] at h2;omega
  have hb:=br_len (b:=binds b) (l:=4) (t:=sh b)
  have h5:(TL.numL m).length≤2:=TL.numL_len (by decide) (by have:=w.2;omega)
  have hm:=w.2
  refine sw_ret (ev_is (ev_catS (ev_catS (ev_brack (e:=b) (ev_fBase k (ev_var rfl)) (l:=4) ev_int h1' h2' w.1) (ev_t [94] (by decide +kernel)) (by simp;omega)) (ev_strI (n:=m) (ev_fExp k (ev_var rfl)) ?_) (by simp;omega)) ?_) rfl
  ·by_cases h0:m=0
   ·subst h0;decide
   ·rw [Nat.log2_lt h0];exact Nat.lt_of_le_of_lt hm (Nat.lt_of_lt_of_le (show 12 < 2^4 by decide) (Nat.pow_le_pow_right (by decide) (by decide)))
  ·show _=br (binds b) 4 (sh b)++94 :: TL.numL m
   simp
 | _=>cases h
theorem rd_Less_shown (K:PySem.W.Frag) (Y:ExC) (k:ExK K Y) (n:Nat) (e:Ep) (h:clsI e=4) (h1:mes e < n+1) (h2:size e≤5000) (w:Wf e):SW (rVal cT) [.val (cEx Y) e,.any,.any] (t_Less_shown K Y n) (PF (sh e)):=by
 have hc:=chain_eq e
 generalize hq:chain e=q at hc
 obtain ⟨m,c⟩:=q
 dsimp only at hc
 have hm:∃ j,m=j+1:=by
  cases e with
  | less b=>have:(chain b).1+1=m:=congrArg Prod.fst hq;exact ⟨_,this.symm⟩
  | _=>cases h
 obtain ⟨j,rfl⟩:=hm
 have hs:size e=size c+(j+1):=by rw [hc];exact size_lessN c _
 have core:isLess c=false:=by have:=chain_core e;rw [hq] at this;exact this
 have hme:mes e=mes c+1:=by rw [hc];exact mes_lessC core j
 have wc:Wf c:=wf_lessN c _ (hc ▸ w)
 have hl:=sh_len c wc
 have hb:=br_len (b:=binds c) (l:=2) (t:=sh c)
 unfold t_Less_shown
 have ec:Ev ([.val (cEx Y) e,.any,.any]:Gam) (tMeth Y.Less "core" (sp_Less_core K Y) [] E0 (tVar 0) tNil) (cPair K (cEx Y) cInt) (c,((j+1:Nat):Int)):=fun F H σ S Q q=>by
  obtain ⟨v,h1,h2⟩:=S.var (i:=0) rfl
  obtain ⟨a,dx,fs,rfl,ha,hl⟩:=ex_at h2
  rw [h,show Y.at_ 4=Y.Less from rfl] at ha
  exact ⟨.ref a,h1,a,dx,fs,rfl,S.ex a _ ha,hl _ (by decide +kernel),F,(e,()),S.ex,⟨_,_,rfl,h2,rfl⟩,h,fun v F' H' e' r=>q v F' H' e' (by have r:=r;dsimp only at r;rw [hq] at r;exact r)⟩
 refine q_un2 ec (fun x y hx hy=>?_)
 subst hx;subst hy
 refine sw_ret (ev_is (ev_catS (ev_mulS' (ev_t [45] (by decide +kernel)) (ev_var rfl) ⟨by omega,by omega⟩ (by simp)) (ev_brack (e:=x) (ev_var rfl) (l:=2) ev_int (by omega) (by omega) wc) ?_) ?_) rfl
 ·have e0:(List.replicate ((j+1:Nat):Int).toNat [45]).flatten=List.replicate (j+1) 45:=by
   rw [Int.toNat_natCast]
   have:∀ k:Nat,(List.replicate k [45]).flatten=List.replicate k 45:=fun k=>by
    induction k with
    | zero=>rfl
    | succ k ih=>rw [List.replicate_succ,List.flatten_cons,ih];rfl
   exact this _
  rw [e0,List.length_replicate];omega
 ·rw [hc,sh_lessN,Int.toNat_natCast]
  congr 1
  have:∀ k:Nat,(List.replicate k [45]).flatten=List.replicate k 45:=fun k=>by
   induction k with
   | zero=>rfl
   | succ k ih=>rw [List.replicate_succ,List.flatten_cons,ih];rfl
  exact this _
theorem rd_Two_shown (K:PySem.W.Frag) (Y:ExC) (k:ExK K Y) (n:Nat) (e:Ep) (h:clsI e=2) (h1:mes e < n+1) (h2:size e≤5000) (w:Wf e):SW (rVal cT) [.val (cEx Y) e,.any,.any,.any,.any,.any] (t_Two_shown K Y n) (PF (sh e)):=by
 unfold t_Two_shown
 have ec:Ev ([.val (cEx Y) e,.any,.any,.any,.any,.any]:Gam) (tMeth Y.Two "spine" (sp_Two_spine K Y) [] E0 (tVar 0) tNil) (cPair K (cEx Y) (cList K (cEx Y))) (spineF e):=fun F H σ S Q q=>by
  obtain ⟨v,g1,g2⟩:=S.var (i:=0) rfl
  obtain ⟨a,dx,fs,rfl,ha,hl⟩:=ex_at g2
  rw [h,show Y.at_ 2=Y.Two from rfl] at ha
  exact ⟨.ref a,g1,a,dx,fs,rfl,S.ex a _ ha,hl _ (by decide +kernel),F,(e,()),S.ex,⟨_,_,rfl,g2,rfl⟩,⟨h,by show size e≤5000;omega⟩,fun v F' H' e' r=>q v F' H' e' r⟩
 have hf:mes (spineF e).1 < n:=by
  cases e with
  | two s l r=>have:=spine_mes1 s l r;omega
  | _=>cases h
 have hfs:=(spine_size e).1.1
 have wf1:=(spine_size e).1.2 w
 refine q_un2 ec (fun x y hx hy=>?_)
 subst hx;subst hy
 refine q_asg' (ev_shown (ev_var rfl) hf (by omega) wf1) ?_
 refine q_asg' (ev_binds (ev_var rfl)) ?_
 refine q_forLG (fun i=>[.val (cEx Y) e,.val (cEx Y) (spineF e).1,.val (cList K (cEx Y)) (spineF e).2,.val cT (sh (pvx (spineF e).1 (spineF e).2 i)),.val cInt (binds (pvx (spineF e).1 (spineF e).2 i):Int),.any]) (ev_var rfl) (Wk.refl _) (fun i d hd=>?_) ?_
 ·obtain ⟨s,r,hdr⟩:=spine_at e i d hd
  have hmem:d∈(spineF e).2:=List.mem_of_getElem? hd
  obtain ⟨hz1,hz2⟩:=(spine_size e).2 d hmem
  have wd:=hz2 w
  have hnext:pvx (spineF e).1 (spineF e).2 (i+1)=d:=by
   unfold pvx
   rw [List.getD_cons_succ,List.getD_eq_getElem?_getD,hd];rfl
  generalize hp:pvx (spineF e).1 (spineF e).2 i=p at hdr ⊢
  subst hdr
  have hsz:size p+size r+1≤5000:=by simpa [size] using Nat.le_trans hz1 h2
  have hmr:mes r+1≤mes e:=Nat.le_trans (mes_right s p r) (spine_mes e _ hmem)
  have hlp:=sh_len p wd.2.1
  have hlr:=sh_len r wd.2.2
  have hb1:=br_len (b:=binds p) (l:=bindS s) (t:=sh p)
  have hb2:=br_len (b:=binds r) (l:=bindS s+1) (t:=sh r)
  have:=size_pos p
  refine q_join [.val (cEx Y) e,.val (cEx Y) (spineF e).1,.val (cList K (cEx Y)) (spineF e).2,.val cT (br (binds p) (bindS s) (sh p)),.val cInt (binds p:Int),.val (cEx Y) (.two s p r)] ?_ ?_
  ·refine sw_when (evT_test (ev_lt (ev_var rfl) (ev_binds (ev_var rfl)))) (fun hc=>?_) (fun hc=>?_)
   ·have hc:=of_decide_eq_true hc
    refine sw_asg (ev_is (ev_catS (ev_catS (ev_t [40] (by decide +kernel)) (ev_var rfl) (by simp;omega)) (ev_t [41] (by decide +kernel)) (by simp;omega)) (d':=br (binds p) (bindS s) (sh p)) ?_) (Wk.refl _)
    have:binds p < bindS s:=by have:binds (.two s p r)=bindS s:=rfl;omega
    unfold br;rw [if_pos this];simp
   ·have hc:=of_decide_eq_false hc
    have:¬binds p < bindS s:=by have:binds (.two s p r)=bindS s:=rfl;omega
    show Wk _ _
    unfold br;rw [if_neg this]
    exact Wk.refl _
  ·refine q_asg' (ev_binds (ev_var rfl)) ?_
   refine sw_asg (ev_is (ev_catS (ev_catS (ev_catS (ev_catS (ev_var rfl) (ev_t [32] (by decide +kernel)) (by simp;omega)) (ev_fSign (s:=s) k (ev_var rfl)) (by simp;omega)) (ev_t [32] (by decide +kernel)) (by simp;omega)) (ev_brack (e:=r) (l:=bindS s+1) (ev_fRight k (ev_var rfl)) (ev_is (ev_add (ev_var rfl) ev_int) (by show ((bindS s:Nat):Int)+1=((bindS s+1:Nat):Int);omega)) (by omega) (by omega) wd.2.2) (by simp;omega)) (d':=sh (.two s p r)) ?_) ?_
   ·show _=br (binds p) (bindS s) (sh p)++32 :: s :: 32 :: br (binds r) (bindS s+1) (sh r)
    simp
   ·rw [hnext]
    exact .same (.same (.same (.same (.same (.any .nil)))))
 ·rw [spine_end]
  exact sw_ret (ev_var rfl) rfl
def sp_law_text (K:PySem.W.Frag) (n:Nat):Sp:=SpF (aCons (cTr K) aNil) (fun a=>dpt a.1 < n∧size a.1≤5000∧Wf a.1) cT (fun a=>sh a.1)
def sp_law_inner (K:PySem.W.Frag) (n:Nat):Sp:=SpF (aCons (cTr K) (aCons cInt aNil)) (fun a=>dpt a.1 < n∧size a.1≤5000∧Wf a.1∧∃ l:Nat,a.2.1=l) cT (fun a=>br (binds a.1) a.2.1.toNat (sh a.1))
theorem ev_ltext {K:PySem.W.Frag} {Γ:Gam} {ta:TE} {e:Ep} {E:XK} {n:Nat} (h:Ev Γ ta (cTr K) e) (h1:dpt e < n) (h2:size e≤5000) (h3:Wf e):Ev Γ (tCall (sp_law_text K n) [] E (tCons ta tNil)) cT (sh e) :=
 ev_call (f:=fun z:Ep×Unit=>sh z.1) (pre:=fun z:Ep×Unit=>dpt z.1 < n∧size z.1≤5000∧Wf z.1) (ea_cons h ea_nil) ⟨h1,h2,h3⟩
theorem ev_linner {K:PySem.W.Frag} {Γ:Gam} {ta tb:TE} {e:Ep} {E:XK} {n l:Nat} (h:Ev Γ ta (cTr K) e) (hl:Ev Γ tb cInt (l:Int)) (h1:dpt e < n) (h2:size e≤5000) (h3:Wf e):Ev Γ (tCall (sp_law_inner K n) [] E (tCons ta (tCons tb tNil))) cT (br (binds e) l (sh e)) :=
 ev_call (f:=fun a:Ep×Int×Unit=>br (binds a.1) a.2.1.toNat (sh a.1)) (pre:=fun a:Ep×Int×Unit=>dpt a.1 < n∧size a.1≤5000∧Wf a.1∧∃ l:Nat,a.2.1=l) (ea_cons h (ea_cons hl ea_nil)) ⟨h1,h2,h3,l,rfl⟩
def t_law_inner (K:PySem.W.Frag) (n:Nat):TS:=tSeq (tIfS (tTest (tOp oLt (tCall (sp_law_binds K) [] E0 (tCons (tVar 0) tNil)) (tVar 1))) (tRet (tOp (rCatS) (tOp (rCatS) (tC (.str "(")) (tCall (sp_law_text K n) [] E0 (tCons (tVar 0) tNil))) (tC (.str ")")))) tNext) (tRet (tCall (sp_law_text K n) [] E0 (tCons (tVar 0) tNil)))
theorem rd_law_inner (K:PySem.W.Frag) (n:Nat) (e:Ep) (l:Nat) (h1:dpt e < n) (h2:size e≤5000) (h3:Wf e):SW (rVal cT) [.val (cTr K) e,.val cInt (l:Int)] (t_law_inner K n) (PF (br (binds e) l (sh e))):=by
 have hl:=sh_len e h3
 unfold t_law_inner
 refine q_when (evT_test (ev_lt (ev_lbinds (ev_var rfl) h3) (ev_var rfl))) (fun hc=>?_) (fun hc=>?_)
 ·have hc:=of_decide_eq_true hc
  refine sw_ret (ev_is (ev_catS (ev_catS (ev_t [40] (by decide +kernel)) (ev_ltext (e:=e) (ev_var rfl) h1 h2 h3) (by simp;omega)) (ev_t [41] (by decide +kernel)) (by simp;omega)) ?_) rfl
  unfold br;rw [if_pos (by omega)];simp
 ·have hc:=of_decide_eq_false hc
  refine sw_ret (ev_is (ev_ltext (e:=e) (ev_var rfl) h1 h2 h3) ?_) rfl
  unfold br;rw [if_neg (by omega)]
def t_law_text (K:PySem.W.Frag) (n:Nat):TS:=tSeq (tIfS (tOr (tTest (tOp rEq (tOp (rIxT K) (tVar 0) (tC (.int 0))) (tC (.str "name")))) (tTest (tOp rEq (tOp (rIxT K) (tVar 0) (tC (.int 0))) (tC (.str "number"))))) (tRet (tCB rStrB (tCons (tOp (rIxT K) (tVar 0) (tC (.int 1))) tNil))) tNext) (tSeq (tIfS (tTest (tOp rEq (tOp (rIxT K) (tVar 0) (tC (.int 0))) (tC (.str "less")))) (tRet (tOp (rCatS) (tC (.str "-")) (tCall (sp_law_inner K n) [] E0 (tCons (tOp (rIxT K) (tVar 0) (tC (.int 1))) (tCons (tC (.int 2)) tNil))))) tNext) (tSeq (tIfS (tTest (tOp rEq (tOp (rIxT K) (tVar 0) (tC (.int 0))) (tC (.str "^")))) (tRet (tOp (rCatS) (tOp (rCatS) (tCall (sp_law_inner K n) [] E0 (tCons (tOp (rIxT K) (tVar 0) (tC (.int 1))) (tCons (tC (.int 4)) tNil))) (tC (.str "^"))) (tCB rStrI (tCons (tOp (rIxT K) (tVar 0) (tC (.int 2))) tNil)))) tNext) (tSeq (tAsg (tCall (sp_law_binds K) [] E0 (tCons (tVar 0) tNil)) (gName 1)) (tRet (tOp (rCatS) (tOp (rCatS) (tOp (rCatS) (tOp (rCatS) (tCall (sp_law_inner K n) [] E0 (tCons (tOp (rIxT K) (tVar 0) (tC (.int 1))) (tCons (tVar 1) tNil))) (tC (.str " "))) (tOp (rIxT K) (tVar 0) (tC (.int 0)))) (tC (.str " "))) (tCall (sp_law_inner K n) [] E0 (tCons (tOp (rIxT K) (tVar 0) (tC (.int 2))) (tCons (tOp oAdd (tVar 1) (tC (.int 1))) tNil))))))))
theorem rd_law_text (K:PySem.W.Frag) (n:Nat) (e:Ep) (h1:dpt e < n+1) (h2:size e≤5000) (w:Wf e):SW (rVal cT) [.val (cTr K) e,.any] (t_law_text K n) (PF (sh e)):=by
 unfold t_law_text
 refine q_when (evT_or (evT_test (ev_eqT (ev_tr0 (ev_var rfl)) (ev_t tagName (by decide +kernel)))) fun _=>evT_test (ev_eqT (ev_tr0 (ev_var rfl)) (ev_t tagNum (by decide +kernel)))) (fun hb=>?_) (fun hb=>?_)
 ·cases e with
  | num m=>exact sw_ret (ev_strBI (ev_trNum (ev_var rfl)) (num_log w)) rfl
  | name v=>exact sw_ret (ev_strBS (ev_trName (ev_var rfl))) rfl
  | two s l r=>simp [tag,tagName,tagNum] at hb
  | pow b m=>simp [tag,tagName,tagNum] at hb
  | less b=>simp [tag,tagName,tagNum,tagLess] at hb
 ·refine q_when (evT_test (ev_eqT (ev_tr0 (ev_var rfl)) (ev_t tagLess (by decide +kernel)))) (fun hc=>?_) (fun hc=>?_)
  ·cases e with
   | less b =>
    have hl:=sh_len b w
    have hb':=br_len (b:=binds b) (l:=2) (t:=sh b)
    have hs:dpt b < n:=by have h1:1+dpt b < n+1:=h1;omega
    have h2':size b≤5000:=by simp [size] at h2;omega
    exact sw_ret (ev_is (ev_catS (ev_t [45] (by decide +kernel)) (ev_linner (e:=b) (l:=2) (ev_trI (ev_var rfl)) ev_int hs h2' w) (by simp;omega)) rfl) rfl
   | num m=>simp [tag,tagNum,tagLess] at hc
   | name v=>simp [tag,tagName,tagLess] at hc
   | two s l r=>simp [tag,tagLess] at hc
   | pow b m=>simp [tag,tagLess] at hc
  ·refine q_when (evT_test (ev_eqT (ev_tr0 (ev_var rfl)) (ev_t [94] (by decide +kernel)))) (fun hd=>?_) (fun hd=>?_)
   ·cases e with
    | pow b m =>
     have hl:=sh_len b w.1
     have hb':=br_len (b:=binds b) (l:=4) (t:=sh b)
     have hs:dpt b < n:=by have h1:1+dpt b < n+1:=h1;omega
     have h2':size b≤5000:=by simp [size] at h2;omega
     have h5:(TL.numL m).length≤2:=TL.numL_len (by decide) (by have:=w.2;omega)
     refine sw_ret (ev_is (ev_catS (ev_catS (ev_linner (e:=b) (l:=4) (ev_trB (ev_var rfl)) ev_int hs h2' w.1) (ev_t [94] (by decide +kernel)) (by simp;omega)) (ev_strI (n:=m) (ev_trN (ev_var rfl)) (small_log w.2)) (by simp;omega)) ?_) rfl
     show _=br (binds b) 4 (sh b)++94 :: TL.numL m
     simp
    | two s l r => have : s = 94 := by simpa [tag] using hd
                   have := w.1; omega
    | num m=>simp [tag,tagNum] at hd
    | name v=>simp [tag,tagName] at hd
    | less b=>simp [tag,tagLess] at hd
   ·cases e with
    | two s l r =>
     have hll:=sh_len l w.2.1
     have hlr:=sh_len r w.2.2
     have hb1:=br_len (b:=binds l) (l:=bindS s) (t:=sh l)
     have hb2:=br_len (b:=binds r) (l:=bindS s+1) (t:=sh r)
     have hs:dpt l < n∧dpt r < n:=by have h1:1+max (dpt l) (dpt r) < n+1:=h1;omega
     have h2':size l+size r+1≤5000:=by simpa [size] using h2
     refine q_asg' (ev_is (ev_lbinds (ev_var rfl) w) (d':=((bindS s:Nat):Int)) rfl) ?_
     refine sw_ret (ev_is (ev_catS (ev_catS (ev_catS (ev_catS (ev_linner (e:=l) (l:=bindS s) (ev_trL (ev_var rfl)) (ev_var rfl) hs.1 (by omega) w.2.1) (ev_t [32] (by decide +kernel)) (by simp;omega)) (ev_tr0 (t:=.two s l r) (ev_var rfl)) (by simp [tag];omega)) (ev_t [32] (by decide +kernel)) (by simp [tag];omega))
      (ev_linner (e:=r) (l:=bindS s+1) (ev_trR (ev_var rfl)) (ev_is (ev_add (ev_var rfl) ev_int) (by omega)) hs.2 (by omega) w.2.2) (by simp [tag];omega)) ?_) rfl
     show _=br (binds l) (bindS s) (sh l)++32 :: s :: 32 :: br (binds r) (bindS s+1) (sh r)
     simp [tag]
    | pow b m=>simp [tag] at hd
    | num m=>simp [tag,tagName,tagNum] at hb
    | name v=>simp [tag,tagName,tagNum] at hb
    | less b=>simp [tag,tagLess] at hc
end P18
end Lw.X
namespace Pw
open PySem PySem.Spec PyProof.Rows L2
section
variable {K:PySem.W.Frag} {Γ:Gam} {ta tb tc te:TE} {α β γ:Type} {c:Cod α} {d:α} {c2:Cod β} {d2:β}
theorem evN_lcR1f {m:Int} {j:Nat} {vs:List Nat} {tt:TT} (h:Ev Γ ta cInt m) (f:Nat→Bool) (g:Nat→β) (hm:m≤1000000) (hm0:-(2^60)≤m) (hw:∀ (σ:L2.St) x,wipe ((wipe σ vs).set j (some x)) vs=wipe σ vs)
  (ht:∀ n:Nat,(n:Int) < m→EvT ((vs.foldr (fun v G=>G.set v .any) Γ).set j (.val cInt (n:Int))) tt (f n))
  (he:∀ n:Nat,(n:Int) < m→f n=true→Ev ((vs.foldr (fun v G=>G.set v .any) Γ).set j (.val cInt (n:Int))) te c2 (g n)):EvN Γ (tLc (iRng1 (tCons ta tNil)) (gName j) tt te vs) c2 (gvn f g (List.range m.toNat)):=fun F H σ S Q q=>h F H σ S _ fun v F1 H1 e1 r1=>by
 cases (show v=.int m from r1)
 refine ⟨m,rfl,by omega,by omega,fun D hD=>lc_range (lo:=0) (n:=m.toNat) (fun i H'=>∃ F' acc,Ext F1 H1 F' H'∧F' D=none∧H' D=some (.lst acc)∧Reps c2 F' acc (gvn f g (List.range i)))
  ⟨F1,[],Ext.aside e1.i hD,e1.i.free hD,upd_same,trivial⟩ (fun i H' hi ⟨F',acc,e2,k1,k2,k3⟩=>⟨hw _ _,?_⟩) (fun H' ⟨F',acc,e2,k1,k2,k3⟩=>q D acc F' H' (e1.trans e2) (e1.h.free hD) k1 k2 k3)⟩
 have S2:Sl F' H' ((wipe σ vs).set j (some (.int (0+(i:Int))))) ((vs.foldr (fun v G=>G.set v .any) Γ).set j (.val cInt (i:Int))):=(sl_wipe (S.grow (e1.trans e2)) vs).setV (by rw [Int.zero_add];rfl)
 have hlen:(gvn f g (List.range i)).length≤i:=by
  unfold gvn;rw [List.length_map]
  exact Nat.le_trans (List.length_filter_le _ _) (by rw [List.length_range];exact Nat.le_refl _)
 have ei:List.range (i+1)=List.range i++[i]:=List.range_succ
 refine ht i (by omega) F' H' _ S2 _ fun F3 H3 e3=>?_
 have k1':F3 D=none:=by
  cases q:F3 D with
  | none=>rfl
  | some o =>
   rcases e3.n D o q with z | z
   ·rw [k1] at z;cases z
   ·rw [k2] at z;cases z
 cases hf:f i with
 | true =>
  refine iteT (he i (by omega) hf F3 H3 _ (S2.grow e3) _ fun y F4 H4 e4 r4=>⟨acc,e4.h D _ (e3.h D _ k2),by rw [k3.len];exact sz_lt (by omega),F4,acc++[y],?_⟩)
  have k1'':F4 D=none:=by
   cases q:F4 D with
   | none=>rfl
   | some o =>
    rcases e4.n D o q with z | z
    ·rw [k1'] at z;cases z
    ·rw [e3.h D _ k2] at z;cases z
  have x:=(e2.trans e3).trans e4
  refine ⟨⟨x.f,fun b o q=>?_,x.i.mut k1'',x.n⟩,k1'',upd_same,?_⟩
  ·rw [upd_ne (ne_of_none q hD)];exact x.h b o q
  ·rw [ei];unfold gvn;rw [List.filter_append,List.map_append,List.filter_cons,if_pos hf]
   exact (k3.mono (e3.trans e4).f).append (Reps.one r4)
 | false =>
  refine iteF ⟨F3,acc,e2.trans e3,k1',e3.h D _ k2,?_⟩
  rw [ei];unfold gvn;rw [List.filter_append,List.map_append,List.filter_cons,if_neg (by rw [hf];decide)]
  show Reps c2 F3 acc (_++[])
  rw [List.append_nil];exact k3.mono e3.f
end
end Pw
namespace Pw
open PySem PySem.Spec PyProof.Rows L2
structure RoomD (n k:Nat) (A:Around):Prop where
 no:A.handled=none
 de:A.depth+n+3*k+5 < recursionLimit
 li:A.units+3*n+16*k+200 < cLine
theorem RoomD.room {n k:Nat} {A:Around} (r:RoomD n k A):Room k A:=⟨r.no,by have:=r.de;omega,by have:=r.li;omega⟩
theorem RoomD.down {n k:Nat} {A:Around} (r:RoomD (n+1) k A) (e:Env):RoomD n k (A.deeper e) :=
 ⟨r.no,by have h:=r.de;show A.depth+1+n+3*k+5 < recursionLimit;omega,by have h:=r.li;show A.units+3+3*n+16*k+200 < cLine;omega⟩
theorem RoomD.less {n m k:Nat} {A:Around} (r:RoomD n k A) (h:m≤n):RoomD m k A:=⟨r.no,by have:=r.de;omega,by have:=r.li;omega⟩
theorem roomD_of {n m k:Nat} {A:Around} (r:Room (k+m) A) (h:n≤3*m):RoomD n k A:=⟨r.hd,by have:=r.dp;omega,by have:=r.un;omega⟩
structure FnOkD (P:Program) (w:World) (K:PySem.W.Frag) (mg:Str→Option Value) (base:Heap) (CX:CXT) (n k:Nat) (f:Addr) (fd:FuncData) (ps:List Str) (sp:Sp):Prop where
 l:∀ vs H Q E,sp vs H Q E→vs.length=ps.length
 go:∀ {A:Around} {outer:List Env} {s:Shared} {H:Hp} {args:Args} {us:List Value} {vs:List V} {Q:VK} {E:XK},RoomD n k A→Env0 P w K mg base A outer s H→BindsTo s fd args (ps.zip us)→Vals vs us→sp vs H Q E →
  codeAny (model P w) A (.call (.ref f) args) (CR CX outer P w H s Q E) s
section
variable {CX:CXT} {P:Program} {w:World} {K:PySem.W.Frag} {mg:Str→Option Value} {base:Heap} {n k:Nat} {f:Addr} {fd:FuncData} {ps:List Str} {sp:Sp}
theorem FnOkD.plain {m:Nat} (F:FnOkD P w K mg base CX n k f fd ps sp) (h:n≤3*m):FnOk P w K mg base CX (k+m) f fd ps sp :=
 ⟨F.l,fun _ _ _ _ _ _ _ _ _ r e b v q=>F.go (roomD_of r h) e b v q⟩
theorem fnD_of {name qual:Str} {params:Arguments} {body:List Stmt} {scope:Scope} {dV kV doc pm cdv ct oc:Value} {an od:Option Addr} {osl:Array (Option Value)} {N:List Str} (lk:K.lookup f=some ⟨oc,od,.func (PySem.W.fnOf name qual params body scope dV kV doc pm an cdv ct),osl⟩) (hcd:PySem.W.codeIn K cdv qual=true)
  (S:FnScope N ps scope) (hl:∀ vs H Q E,sp vs H Q E→vs.length=ps.length)
  (hb:∀ (A:Around) (outer:List Env) (s:Shared) (H:Hp) (vs:List V) (Q:VK) (E:XK),RoomD n k (A.deeper (envOfC qual scope s.heap.objs.size f cdv))→sp vs H Q E →
   ∃ t,PSs (cxOf CX P w K mg base N qual scope f cdv A outer s H E) body t∧t { nx:=fun _ H'=>Q .non H',rt:=Q } (L2.start N vs) H):FnOkD P w K mg base CX (n+1) k f (PySem.W.fnOf name qual params body scope dV kV doc pm an cdv ct) ps sp:=by
 refine ⟨hl,fun {A outer s H args us vs Q E} room env0 binds vals hsp=>?_⟩
 have same:=hl _ _ _ _ hsp
 have inK:=env0.mod.kin.keeps fun b o e=>(env0.bs b o e).1
 have lim:=env0.mod.nolimit.keeps fun b o e=>(env0.bs b o e).1
 have deep:A.depth < recursionLimit:=by have:=room.de;omega
 have kinds:∀ y∈ps.zip us,scope.names.lookup y.1=some .local∨(scope.names.lookup y.1=some .cell∧((cellsFrom (s.heap.objs.size+1) scope.names []).lookup y.1).isSome=true):=fun y hy =>
  (S.par y.1 (List.of_mem_zip (show (y.1,y.2)∈ps.zip us from hy)).1).elim .inl fun q=>.inr ⟨q,PySem.W.cellsFrom_some _ _ _ (.inl q)⟩
 refine codeAny_call_function deep (inK _ _ lk) rfl S.co S.gen rfl (PySem.W.codeRec_of inK hcd) (binds _ _ _ _ (wpAny_newFunctionEnv_cells S.kind kinds fun env he s1 x=>?_))
 subst he
 obtain ⟨t,ht,hq⟩:=hb A outer s H vs Q E (room.down _) hsp
 have J:=inv_start (E:=E) (CX:=CX) S room.no env0 same vals x
 refine ⟨lim.keeps x.toInCall.keep,codeAny_func (wpAny_mono (ht.run [] s1 (L2.start N vs) H _ J hq) (fun fl s' hs=>?_) fun _ _ z=>z)⟩
 cases fl with
 | ret u=>obtain ⟨v,σ',H',I,rv,q⟩:=hs;exact ⟨v,H',I.os,I.bare,I.base,I.hok,rv,q⟩
 | next=>obtain ⟨σ',H',I,q⟩:=hs;exact ⟨.non,H',I.os,I.bare,I.base,I.hok,rfl,q⟩
 | brk=>obtain ⟨_,_,_,q⟩:=hs;exact q.elim
 | cont=>obtain ⟨_,_,_,q⟩:=hs;exact q.elim
theorem fun_okD {x qual:Str} {st:Stmt} {N:List Str} (D:Fun K x qual st f fd) (S:FnScope N ps (defScope st)) (hl:∀ vs H Q E,sp vs H Q E→vs.length=ps.length)
  (hb:∀ (cdv:Value) (A:Around) (outer:List Env) (s:Shared) (H:Hp) (vs:List V) (Q:VK) (E:XK),RoomD n k (A.deeper (envOfC qual (defScope st) s.heap.objs.size f cdv))→sp vs H Q E →
   ∃ t,PSs (cxOf CX0 P w K mg base N qual (defScope st) f cdv A outer s H E).nox (defBody st) t∧t { nx:=fun _ H'=>Q .non H',rt:=Q } (L2.start N vs) H):FnOkD P w K mg base CX0 (n+1) k f fd ps sp:=by
 obtain ⟨oc,od,kV,doc,pm,an,cdv,ct,osl,rfl,lk,hcd⟩:=D.ex
 exact fnD_of lk hcd S hl fun A outer s H vs Q E r h=>(hb cdv A outer s H vs Q E r h).elim fun t z=>⟨t,z.1.nox,z.2⟩
end
section
variable {X:Cx} {CX:CXT} {n k:Nat} {f:Addr} {fd:FuncData} {ps:List Str} {sp:Sp} {dvs:List V} {ds:List Value} {E:XK} {x:Str} {p pos:Pos} {e:Expr} {es:List Expr} {t:TA}
theorem pe_callD (F:FnOkD X.prog X.w X.K X.mg X.base CX n k f fd ps sp) (hr:RoomD n k X.A) (hg:Gl X x) (hm:X.mg x=some (.ref f)) (hk:PySem.W.keepIn X.K (.ref f)=true) (hb:Binds X.K fd ps ds) (hd:Vals dvs ds) (hx:Passes CX X E)
  (ha:PA X (e :: es) t) (hdb:(x == ("__debug__":Str))=false:=by decide) (he:starEach (e :: es) X.env=(false,eval e X.env) :: starEach es X.env:=by rfl) (hpl:(backTo pos (starEach es X.env)).any (·.1)=false:=by rfl) :
  PE X (.Call (.Name x p) (e :: es) [] pos) (tCall sp dvs E t):=⟨fun pins s σ H Q I h=>by
 refine wpAny_Call_Name_kw (ld_glob I hg hm (PySem.W.callWith_K (h₀:=X.base) I.ok.mod.kin hk (thn (ha.run pos pins s σ H _ I h) fun us s1 ⟨vs,H1,I1,r,q⟩=>⟨I1.kIn,?_⟩) he hpl) hdb)
 have all:Vals (vs++dvs) (us++ds):=r.append hd
 have num:(us++ds).length=ps.length:=all.length ▸ F.l _ _ _ _ q
 refine wpAny_call (codeAny_mono (F.go (vs:=vs++dvs) (Q:=Q) (E:=E) hr I1.env0 (hb s1 us I1.kIn num) all q) fun z s' hq=>?_)
 cases z with
 | error e=>exact hx pins σ H1 s1 e s' I1 hq
 | ok fl=>cases fl with
  | ret u=>exact I1.after hq
  | next=>exact hq.elim
  | brk=>exact hq.elim
  | cont=>exact hq.elim⟩
end
end Pw
namespace Pw
open PySem PySem.Spec PyProof.Rows L2 Xp
def tTryC (K:PySem.W.Frag) (c:Value) (i j l:Nat) (Y:ExC) (m:Str) (sp:Nat→Sp) (spr:Sp) (ta:TA):TS:=fun D σ H =>
 tAsg (tM5 Y m sp E0 (tCallS spr (WE (wHold K c i (fun _ _ _=>tAsg (tVar i) (gName j)) (fun _ _ _ _=>False) D)) ta) tNil) (gName l) D σ H
section
variable {K:PySem.W.Frag} {Y:ExC} {Γ:Gam} {α β ρ:Type} {c2:Cod β} {m:Str} {R:RR ρ} {P:Pst ρ} {t tz:TS} {i j l:Nat}
theorem sw_tryC {ca:CodA α} {a:α} {pre:α→Prop} {f:α→Option Ep} {C:Addr} {cv:Value} {tr:TA} {pm:Ep×Unit→Prop} {g:Ep×Unit→β} (h:EvA Γ tr ca a) (hp:pre a) (hm:m ∉ fldNames) (h0:∀ b,f a=some b→pm (b,())) (hx:PySem.W.exmOne K (.ref C) cv=some true) (hi:i < Γ.length)
  (k1:∀ b,f a=some b→P.nx (Γ.set l (.val c2 (g (b,()))))) (k2:f a=none→P.nx (((Γ.set i .any).set j (.val cExc C)).set i .any)):SW R Γ (tTryC K cv i j l Y m (SpMF Y aNil pm c2 g) (SpX ca pre (cEx Y) f C) tr) P:=fun F0 H0 F H σ D S o=>by
 obtain ⟨k,hk⟩:∃ k,k=(match f a with | some e=>clsI e | none=>0):=⟨_,rfl⟩
 have k5:k < 5:=by
  rw [hk]
  cases f a with
  | none=>decide
  | some e=>exact clsI_lt e
 refine ⟨k,k5,h F H σ S.sl _ fun vs F1 H1 e1 r1=>⟨F1,a,e1.i,r1,hp,fun b v F' H' eb e2 r2=>?_,fun hn F' H' e2=>⟨true,hx,fun _ x nx=>?_,fun q=>nomatch q⟩⟩⟩
 ·obtain ⟨aa,dx,fs,rfl,ha,hl⟩:=ex_at r2
  have kb:k=clsI b:=by rw [hk,eb]
  subst kb
  exact ⟨aa,dx,fs,rfl,e2.i aa _ ha,hl m hm,F',(b,()),e2.i,⟨_,[],rfl,r2,rfl⟩,⟨rfl,h0 b eb⟩,fun w F3 H3 e3 r3=>o.nx F3 H3 _ _ ((((S.grow e1).grow e2).grow e3).setV (i:=l) r3) (k1 b eb)⟩
 ·have S2:=(S.grow e1).grow e2
  have S3:=S2.grow (Ext.new (o:=ExV (.ref C) none x) e2.i nx)
  have hi':i < σ.length:=by rw [S.sl.len];exact hi
  refine ⟨.ref x,by rw [List.getElem?_set_self hi'],?_⟩
  show D.nx (((σ.set i (some (.ref x))).set j (some (.ref x))).set i none) (upd H' x (ExV (.ref C) none x))
  refine o.nx (upd F' x (ExV (.ref C) none x)) _ _ _ ?_ (k2 hn)
  exact ((S3.set (e:=.any) (i:=i) (s:=some (.ref x)) (fun h=>h) trivial).setV (c:=cExc) (d:=C) (i:=j) ⟨x,rfl,upd_same⟩).set (e:=.any) (i:=i) (s:=none) (fun h=>h) trivial
theorem q_tryC {ca:CodA α} {a:α} {pre:α→Prop} {f:α→Option Ep} {C:Addr} {cv:Value} {tr:TA} {pm:Ep×Unit→Prop} {g:Ep×Unit→β} (h:EvA Γ tr ca a) (hp:pre a) (hm:m ∉ fldNames) (h0:∀ b,f a=some b→pm (b,())) (hx:PySem.W.exmOne K (.ref C) cv=some true) (hi:i < Γ.length)
  (k1:∀ b,f a=some b→SW R (Γ.set l (.val c2 (g (b,())))) tz P) (k2:f a=none→SW R (((Γ.set i .any).set j (.val cExc C)).set i .any) tz P):SW R Γ (tSeq (tTryC K cv i j l Y m (SpMF Y aNil pm c2 g) (SpX ca pre (cEx Y) f C) tr) tz) P:=sw_seq (sw_tryC h hp hm h0 hx hi k1 k2)
end
end Pw
namespace Xp
open PySem L2 Pw PySem.Spec
end Xp
namespace Lw.X
open PySem PySem.Spec PyProof.Rows L2 Pw Xp
end Lw.X
namespace Lw.X
namespace P18
open PySem PySem.Spec PyProof.Rows L2 Pw Xp
def sp_law_kinds (K:PySem.W.Frag) (C:ExA):Sp:=SpN (aCons cExc aNil) (fun a=>a.1=C.NoText) cInt (fun _=>[2,7,8])
def t_law_kinds (K:PySem.W.Frag) (C:ExA):TS:=tSeq (tAsg (tLst (tCons (tCB (rIsX K) (tCons (tVar 0) (tCons (tC (.ref C.NoNumber)) tNil))) (tCons (tCB (rIsX K) (tCons (tVar 0) (tCons (tC (.ref C.NoValue)) tNil))) (tCons (tCB (rIsX K) (tCons (tVar 0) (tCons (tC (.ref C.NoText)) tNil))) tNil)))) (gName 1)) (tSeq (tAsg (tOp rCat (tVar 1) (tLst (tCons (tCB (rIsX K) (tCons (tVar 0) (tCons (tC (.ref C.NoRoot)) tNil))) (tCons (tCB (rIsX K) (tCons (tVar 0) (tCons (tC (.ref C.NoRow)) tNil))) (tCons (tCB (rIsX K) (tCons (tVar 0) (tCons (tC (.ref C.TooFar)) tNil))) tNil))))) (gName 1)) (tSeq (tAsg (tOp rCat (tVar 1) (tLst (tCons (tCB (rIsX K) (tCons (tVar 0) (tCons (tC (.ref C.NoLine)) tNil))) (tCons (tCB (rIsX K) (tCons (tVar 0) (tCons (tC (.ref C.HouseError)) tNil))) (tCons (tCB (rIsX K) (tCons (tVar 0) (tCons (tC (.ty "ValueError")) tNil))) tNil))))) (gName 1)) (tRet (tLc (iRng1 (tCons (tC (.int 9)) tNil)) (gName 2) (tB (tOp (rIxL K) (tVar 1) (tVar 2))) (tVar 2) [2]))))
theorem rd_law_kinds (K:PySem.W.Frag) (C:ExA) (X:ExD K C C.NoText 3) (hh:PySem.W.kitOne K (.ref C.NoText) (.ref C.HouseError)=some true):SW (rNew cInt) [.val cExc C.NoText,.any,.any] (t_law_kinds K C) (PF [2,7,8]):=by
 unfold t_law_kinds
 refine q_asgN' (evN_lst (el_cons (ev_isXr (ev_var rfl) X.c X.k0) (el_cons (ev_isXr (ev_var rfl) X.c X.k2) (el_cons (ev_isXr (ev_var rfl) X.c X.k3) el_nil))) (by simp)) ?_
 refine q_asgN' (evN_catO rfl (evN_lst (el_cons (ev_isXr (ev_var rfl) X.c X.k4) (el_cons (ev_isXr (ev_var rfl) X.c X.k1) (el_cons (ev_isXr (ev_var rfl) X.c X.k5) el_nil))) (by simp)) (by simp)) ?_
 refine q_asgN' (evN_catO rfl (evN_lst (el_cons (ev_isXr (ev_var rfl) X.c X.k6) (el_cons (ev_isXr (ev_var rfl) X.c hh) (el_cons (ev_isXt (ev_var rfl) X.c X.v) el_nil))) (by simp)) (by simp)) ?_
 refine sw_freeze K 1 rfl ?_
 refine sw_retN (evN_is (evN_lcR1f (c2:=cInt) ev_int (fun n=>[false,false,true,false,false,false,false,true,true].getD n false) (fun n=>(n:Int)) (by decide) (by decide) wipe1 (fun n hn=>evT_B (ev_is (ev_ixG false (ev_var rfl) (ev_var rfl) ⟨by omega,by simp;omega⟩) (by rw [Int.toNat_natCast];rfl))) (fun n hn _=>ev_var rfl)) (d':=[2,7,8]) (by decide)) rfl
theorem exc_non:∀ (F:Hp) (v:V) (x:Addr),cExc.rep F v x→v≠.non:=fun F v x h=>by
 obtain ⟨_,rfl,_⟩:=h
 exact fun z=>by cases z
def Jd (t:T):Prop:=t.length≤1000000∧∀ e,readL t=some e→dpt e < 260∧mes e < 70
theorem jd_ops {t:T} (h:t.length≤1000000) (o:ops t < 70):Jd t:=⟨h,fun e he=>by
 have:=(read_bd he).2.2.2;have:=mes_dpt e;omega⟩
theorem jd_nb {t:T} (h:t.length≤1000000) (o:ops t < 260) (b:NoB t):Jd t:=⟨h,fun e he=>by
 have:=(read_bd he).2.2.2;have:=read_nb b he;omega⟩
def sp_law_judged (K:PySem.W.Frag) (Y:ExC) (C:ExA):Sp:=SpF (aCons cT aNil) (fun a=>Jd a.1) cBool (fun _=>true)
def t_law_judged (K:PySem.W.Frag) (C:ExA) (Y:ExC):TS:=tSeq (tAsg (tCall (sp_law_tree_of K) [] E0 (tCons (tVar 0) tNil)) (gName 1)) (tSeq (tAsg (tC .non) (gName 2)) (tSeq (tAsg (tC .non) (gName 3)) (tSeq (tTryC K (.ref C.HouseError) 4 3 2 Y "shown" (sp_shown K Y 70) (sp_read K Y C) (tCons (tVar 0) tNil)) (tSeq (tIfS (tTest (tOp (rIsN) (tVar 1) (tC .non))) (tRet (tOp (rEqD K) (tCall (sp_law_kinds K C) [] E0 (tCons (tVar 3) tNil)) (tLst (tCons (tC (.int 2)) (tCons (tC (.int 7)) (tCons (tC (.int 8)) tNil)))))) tNext) (tRet (tAndV (tOp (rIsN) (tVar 3) (tC .non)) (tAndV (tCB (rIsi K) (tCons (tVar 2) (tCons (tC (.ty "str")) tNil))) (tOp rEq (tVar 2) (tCall (sp_law_text K 260) [] E0 (tCons (tVar 1) tNil))))))))))
theorem rd_law_judged (K:PySem.W.Frag) (C:ExA) (X:ExD K C C.NoText 3) (Y:ExC) (t:T) (h:Jd t):SW (rVal cBool) [.val cT t,.any,.any,.any,.any] (t_law_judged K C Y) (PF true):=by
 obtain ⟨hl,hd⟩:=h
 unfold t_law_judged
 refine q_asg' (c:=cOpt (cTr K)) (d:=readL t) (ev_call (f:=fun a:T×Unit=>readL a.1) (a:=(t,())) (ea_cons (ev_var rfl) ea_nil) hl) ?_
 refine q_asg' (ev_none (c:=cT)) ?_
 refine q_asg' (ev_none (c:=cExc)) ?_
 refine q_tryC (c2:=cT) (f:=fun a:T×Unit=>readL a.1) (a:=(t,())) (pre:=fun a:T×Unit=>a.1.length≤1000000) (pm:=fun z:Ep×Unit=>mes z.1 < 70∧size z.1≤5000∧Wf z.1) (g:=fun z:Ep×Unit=>sh z.1) (ea_cons (ev_var rfl) ea_nil) hl nf_shown (fun b hb=>?_) X.h (by simp) (fun b hb=>?_) (fun hn=>?_)
 ·obtain ⟨w,s,m,_⟩:=read_bd hb
  exact ⟨(hd b hb).2,by show size b≤5000;omega,w⟩
 ·have hb:readL t=some b:=hb
  obtain ⟨w,s,m,_⟩:=read_bd hb
  have d:=(hd b hb).1
  rw [hb]
  refine q_when (b:=false) (evT_test (ev_isNo tr_non (ev_var (d:=some b) rfl))) (fun z=>absurd z (by decide)) (fun _=>?_)
  refine sw_ret (ev_is (ev_andV (ev_isNo exc_non (ev_var (d:=(none:Option Addr)) rfl)) fun _=>(ev_andV (ev_isiS (b:=true) (ev_var rfl) (kit_ty (by decide +kernel))) fun _=>(ev_eqT (ev_var rfl) (ev_ltext (n:=260) (e:=b) (ev_unsome (ev_var (d:=some b) rfl)) d (by omega) w)))) ?_) rfl
  simp
 ·have hn:readL t=none:=hn
  rw [hn]
  refine q_when (b:=true) (evT_test (ev_isNo tr_non (ev_var (d:=(none:Option Ep)) rfl))) (fun _=>?_) (fun z=>absurd z (by decide))
  refine sw_ret (ev_is (ev_eqD (dList dInt) (Nat.le_of_ble_eq_true rfl) (EvN.ev (K:=K) (evN_call (f:=fun _:Addr×Unit=>([2,7,8]:List Int)) (a:=(C.NoText,())) (ea_cons (ev_var rfl) ea_nil) rfl)) (EvN.ev (K:=K) (evN_lst (ds:=[2,7,8]) (el_cons ev_int (el_cons ev_int (el_cons ev_int el_nil))) (by simp)))) ?_) rfl
  simp
end P18
end Lw.X
namespace Xp
open PySem L2
def rep (n:Nat) (a:T):T:=(List.replicate n a).flatten
theorem ops_rep (n:Nat) (a:T):ops (rep n a)=n*ops a:=by
 unfold rep
 induction n with
 | zero=>rw [Nat.zero_mul];rfl
 | succ n ih=>rw [List.replicate_succ,List.flatten_cons,ops_app,ih,Nat.succ_mul];omega
theorem rep_len (n:Nat) (a:T):(rep n a).length=n*a.length:=by
 unfold rep
 induction n with
 | zero=>rw [Nat.zero_mul];rfl
 | succ n ih=>rw [List.replicate_succ,List.flatten_cons,List.length_append,ih,Nat.succ_mul];omega
theorem ops_no {l:T} (h:∀ c∈l,isOp c=false):ops l=0:=by
 unfold ops
 rw [List.filter_eq_nil_iff.mpr fun c hc=>by rw [h c hc];decide];rfl
theorem let_op {c:Nat} (h:isLet c=true):isOp c=false:=by
 unfold isLet at h
 unfold isOp
 simp at h ⊢
 omega
theorem ops_len (l:T):ops l≤l.length:=List.length_filter_le _ _
theorem name_ops {w:T} (h:WName w):ops w=0:=ops_no fun c hc=>let_op (h.2.2 c hc)
theorem num_ops (n:Nat):ops (TL.numL n)=0:=ops_no fun c hc=>by
 have:=TL.numL_digits n c hc
 unfold isOp
 simp
 omega
theorem ops_br (b l:Nat) (t:T):ops (br b l t)=ops t:=by
 unfold br
 split
 ·show ops ([40]++(t++[41]))=_
  rw [ops_app,ops_app]
  show 0+(ops t+0)=_
  omega
 ·rfl
theorem ops_sh:∀ e:Ep,Wf e→ops (sh e)≤size e
 | .num n,_=>by show ops (TL.numL n)≤_;rw [num_ops];exact Nat.zero_le _
 | .name w,h=>by show ops w≤_;rw [name_ops h];exact Nat.zero_le _
 | .two s l r,h=>by
  have a:=ops_sh l h.2.1
  have b:=ops_sh r h.2.2
  show ops (br (binds l) (bindS s) (sh l)++([32,s,32]++br (binds r) (bindS s+1) (sh r)))≤size l+size r+1
  rw [ops_app,ops_app,ops_br,ops_br]
  have:ops [32,s,32]≤1:=by
   unfold ops
   rw [List.filter_cons_of_neg (by decide)]
   by_cases z:isOp s=true
   ·rw [List.filter_cons_of_pos z,List.filter_cons_of_neg (by decide)];exact Nat.le_refl _
   ·rw [List.filter_cons_of_neg z,List.filter_cons_of_neg (by decide)];exact Nat.zero_le _
  omega
 | .pow b n,h=>by
  have a:=ops_sh b h.1
  show ops (br (binds b) 4 (sh b)++([94]++TL.numL n))≤size b+1
  rw [ops_app,ops_app,ops_br,num_ops]
  show ops (sh b)+(1+0)≤_
  omega
 | .less e,h=>by
  have a:=ops_sh e h
  show ops ([45]++br (binds e) 2 (sh e))≤size e+1
  rw [ops_app,ops_br]
  show 1+ops (sh e)≤_
  omega
theorem dpt_size:∀ e:Ep,dpt e < size e
 | .num _=>Nat.zero_lt_one
 | .name _=>Nat.zero_lt_one
 | .two _ l r=>by have:=dpt_size l;have:=dpt_size r;show 1+max (dpt l) (dpt r) < size l+size r+1;omega
 | .pow b _=>by have:=dpt_size b;show 1+dpt b < size b+1;omega
 | .less e=>by have:=dpt_size e;show 1+dpt e < size e+1;omega
def sgL:T:=[48,49,50,51,52,53,54,55,56,57,32,40,41,43,45,42,47,94,97,65,122,95,46,10]
def some1:List T:=[[32,43,32],[32,45,32],[32,42,32],[32,47,32],[94],[94,50],[94,49,50],[94,49,51],[94,48],[94,48,50],[94,45,49],[45],[45,45],[40,41],[40],[41],[120,32,121]]
def some2:List T:=[[48,48],[48],[48,49],rep 30 [49],rep 31 [49],[97,98,99,100,101,102,103,104],[97,98,99,100,101,102,103,104,105],[88],[120,49],[49,120],[43],[32,43],[43,32],[32,32]]
def some3:List T:=[[120,94,50,94,51],[40,120,41,94,50],[45,120,94,50],[40,45,120,41,94,50],[50,94,120],[120,94,40,50,41],[32,43,32,45],[32,42,32,45,120],[45,45,120],[],[10]]
def someL:List T:=some1++some2++some3
def oddL:List T:=[[],[32],[120,32,43],[43,32,120],[120,32,43,121],[120,43,32,121],[120,32,32,43,32,121],[40,41],[40,120],[120,41],[120,32,94,50],[120,94,32,50],[10]]
theorem some_ops:∀ w∈someL,ops w≤3∧w.length≤31:=by decide +kernel
theorem odd_ops:∀ w∈oddL,ops w≤3∧w.length≤10:=by decide +kernel
def tAt (t:T) (ns:List Int):Nat:=((ns.getD 1 0).fmod ((t.length:Int)+1)).toNat
def tFar (t:T) (ns:List Int):Nat:=tAt t ns+1+(ns.getD 2 0 % 7).toNat
def tSg (ns:List Int):T:=[sgL.getD (ns.getD 0 0 % 24).toNat 0]
def tPc (ns:List Int):T:=someL.getD ((ns.getD 4 0).fmod (someL.length:Int)).toNat []
def turnF (t:T) (ns:List Int):T :=
 if ns.getD 3 0 % 6=0 then t.take (tAt t ns)++tSg ns++t.drop (tAt t ns)
 else if ns.getD 3 0 % 6=1 then t.take (tAt t ns)++t.drop (tAt t ns+1)
 else if ns.getD 3 0 % 6=2 then t.take (tAt t ns)++tSg ns++t.drop (tAt t ns+1)
 else if ns.getD 3 0 % 6=3 then t.take (tFar t ns)++t.drop (tAt t ns)
 else if ns.getD 3 0 % 6=4 then t.take (tAt t ns)++tPc ns++t.drop (tFar t ns)
 else t.take (tAt t ns)++tPc ns++t.drop (tAt t ns)
theorem ops_cut (t:T) (a:Nat):ops (t.take a)+ops (t.drop a)=ops t:=by rw [←ops_app,List.take_append_drop]
theorem ops_drop (t:T) {a b:Nat} (h:a≤b):ops (t.drop b)≤ops (t.drop a):=by
 have h1:=ops_cut t a
 have h2:=ops_cut t b
 have h3:=ops_le t h
 omega
theorem pc_ok (ns:List Int):ops (tPc ns)≤3∧(tPc ns).length≤31:=by
 unfold tPc
 rw [List.getD_eq_getElem?_getD]
 cases h:someL[((ns.getD 4 0).fmod (someL.length:Int)).toNat]? with
 | none=>exact ⟨Nat.zero_le _,Nat.zero_le _⟩
 | some w=>exact some_ops w (List.mem_of_getElem? h)
theorem turn_ok (t:T) (ns:List Int):ops (turnF t ns)≤ops t+7∧(turnF t ns).length≤2*t.length+40:=by
 obtain ⟨p1,p2⟩:=pc_ok ns
 have s1:ops (tSg ns)≤1:=ops_len _
 have s2:(tSg ns).length=1:=rfl
 have c:=ops_cut t (tAt t ns)
 have d1:=ops_drop t (show tAt t ns≤tAt t ns+1 by omega)
 have f:tFar t ns≤tAt t ns+7∧tAt t ns≤tFar t ns:=by unfold tFar;omega
 have d2:=ops_drop t f.2
 have f1:ops (t.take (tFar t ns))≤ops (t.take (tAt t ns))+7:=by
  obtain ⟨k,hk⟩:∃ k,tFar t ns=tAt t ns+k:=⟨tFar t ns-tAt t ns,by omega⟩
  rw [hk,ops_add]
  have:=ops_len ((t.drop (tAt t ns)).take k)
  rw [List.length_take] at this
  omega
 unfold turnF
 repeat' split
 all_goals (simp only [ops_app,List.length_append,List.length_take,List.length_drop];omega)
def bdM (n:Int):Nat:=(29+n % 3).toNat
def bdR (w:T):T:=w++rep 240 [32,43,32,49]
def bdL (n:Int) (w:T):Int:=999+n/6 % 3-((bdR w).length:Int)
def bound0 (n:Int) (w:T):List T:=[rep (bdM n) [40]++w++rep (bdM n) [41],rep (bdM n) [45]++w,rep (bdM n) [45,40]++w++rep (bdM n) [41]]
def bound1 (n:Int) (w:T):T:=rep (bdM n) [45]++[40]++rep (30-n/3 % 2).toNat [45]++w++[41,94,50]
def bound2 (n:Int) (w:T):T:=[49,32,43,32,40]++rep (bdM n) [50,32,42,32,40]++w++rep (29+n % 3+1).toNat [41]
def bound3 (n:Int) (w:T):T:=rep (bdM n) [40]++w++rep (bdM n) [41]++[32,45,32]++rep 30 [40]++[48]++rep 30 [41]
def bound4 (n:Int) (w:T):T:=bdR w++rep (bdL n w/4).toNat [32,42,32,49]++[94,49,48].take (bdL n w % 4).toNat
def boundF (n:Int) (w:T):List T:=bound0 n w++[bound1 n w]++[bound2 n w]++[bound3 n w]++[bound4 n w,rep 40 [40]]
theorem bdR_len (w:T):(bdR w).length=w.length+960:=by unfold bdR;rw [List.length_append,rep_len];rfl
theorem rep_nb {n:Nat} {a:T} (h:NoB a):NoB (rep n a):=fun c hc=>by
 unfold rep at hc
 obtain ⟨b,hb,h2⟩:=List.mem_flatten.mp hc
 rw [(List.mem_replicate.mp hb).2] at h2
 exact h c h2
theorem app_nb {a b:T} (h:NoB a) (k:NoB b):NoB (a++b):=fun c hc=>(List.mem_append.mp hc).elim (h c) (k c)
theorem bound4_nb {n:Int} {w:T} (hw:WName w):NoB (bound4 n w):=by
 have l:NoB w:=fun c hc=>by
  have:=hw.2.2 c hc
  unfold isLet at this
  simp at this
  omega
 unfold bound4 bdR
 refine app_nb (app_nb (app_nb l (rep_nb (by unfold NoB;decide))) (rep_nb (by unfold NoB;decide))) fun c hc=>?_
 have:c∈[94,49,48]:=List.mem_of_mem_take hc
 simp at this
 omega
theorem bound_ok {n:Int} {w:T} (hw:WName w):∀ t∈boundF n w,(ops t < 70∨(ops t < 260∧NoB t))∧t.length≤2000:=by
 have nb:=bound4_nb (n:=n) hw
 have o:=name_ops hw
 have l:=hw.2.1
 have m:bdM n≤31:=by unfold bdM;omega
 have m2:(29+n % 3+1).toNat≤32:=by omega
 have m3:(30-n/3 % 2).toNat≤30:=by omega
 have bl:=bdR_len w
 have q:(bdL n w/4).toNat≤10:=by unfold bdL;omega
 have bo:ops (bdR w)=240:=by unfold bdR;rw [ops_app,o,ops_rep];rfl
 have q2:ops ([94,49,48].take (bdL n w % 4).toNat)≤1:=by
  have:(bdL n w % 4).toNat=0∨(bdL n w % 4).toNat=1∨(bdL n w % 4).toNat=2∨(bdL n w % 4).toNat=3:=by omega
  rcases this with e | e | e | e<;>rw [e]<;>decide
 have q3:([94,49,48].take (bdL n w % 4).toNat:T).length≤3:=by rw [List.length_take];exact Nat.min_le_right _ _
 have e0:ops [40]=0:=rfl
 have e1:ops [41]=0:=rfl
 have e2:ops [45]=1:=rfl
 have e3:ops [45,40]=1:=rfl
 have e4:ops [41,94,50]=1:=rfl
 have e5:ops [49,32,43,32,40]=1:=rfl
 have e6:ops [50,32,42,32,40]=1:=rfl
 have e7:ops [32,45,32]=1:=rfl
 have e8:ops [48]=0:=rfl
 have e9:ops [32,42,32,49]=1:=rfl
 intro t ht
 unfold boundF bound0 at ht
 simp only [List.cons_append,List.nil_append,List.mem_cons,List.not_mem_nil,or_false] at ht
 rcases ht with rfl | rfl | rfl | rfl | rfl | rfl | rfl | rfl
 case inr.inr.inr.inr.inr.inr.inl =>
  refine ⟨.inr ⟨?_,nb⟩,?_⟩<;>(unfold bound4;simp only [ops_app,ops_rep,List.length_append,rep_len,e9,bo,bl,List.length_cons,List.length_nil];omega)
 all_goals (try unfold bound1);(try unfold bound2);(try unfold bound3)
 all_goals (refine ⟨.inl ?_,?_⟩<;>simp only [ops_app,ops_rep,List.length_append,rep_len,e0,e1,e2,e3,e4,e5,e6,e7,e8,e9,o,bo,bl,List.length_cons,List.length_nil]<;>omega)
end Xp
namespace Lw.X
namespace P18
open PySem PySem.Spec PyProof.Rows L2 Pw Xp
theorem mem18 {xs:List Int} {i:Nat} (h:i < xs.length):xs.getD i 0∈xs:=by
 rw [List.getD_eq_getElem?_getD,List.getElem?_eq_getElem h]
 exact List.getElem_mem h
theorem cutS_tx1 (l:List Nat) (i:Nat):cutS (Tx l) (some (i:Int)) none=Tx (l.drop i):=by
 have h:=cutS_tx l i l.length
 rw [List.take_of_length_le (by rw [List.length_drop];exact Nat.le_refl _)] at h
 rw [←h]
 refine TL.ext_tl ?_
 show ((l.drop _).take _)=((l.drop _).take _)
 have hy:∀ n:Nat,HT.sIx n n (some (n:Int))=n:=fun n=>by
  have:=clipS_eq n n (some (n:Int))
  unfold clipS at this
  dsimp only at this
  rw [if_neg (by omega)] at this;omega
 rw [show HT.sIx (Tx l).length (Tx l).length (some (l.length:Int))=(Tx l).length from by rw [tx_len];exact hy _]
 rfl
theorem ev_slS1 {K:PySem.W.Frag} {Γ:Gam} {ta:TE} {tl th:TO} {l:List Nat} {a:Int} (h:Ev Γ ta cT l) (h1:EvO Γ tl (some a)) (h2:EvO Γ th none) (ha:0≤a) (hl:l.length≤1000000):Ev Γ (tSl rSlS ta tl th) cT (l.drop a.toNat):=fun F H σ S Q q =>
 h F H σ S _ fun v F1 H1 e1 r1=>h1 F1 H1 σ (S.grow e1) _ fun F2 H2 e2=>h2 F2 H2 σ (S.grow (e1.trans e2)) _ fun F3 H3 e3 =>
  ⟨_,r1,sl_le (by rw [tx_len];exact hl),q _ F3 H3 ((e1.trans e2).trans e3) (by
   show V.str _=V.str _
   rw [←cutS_tx1,Int.toNat_of_nonneg ha])⟩
def sp_law_turned (K:PySem.W.Frag):Sp:=SpF (aCons cT (aCons (cInts K) aNil)) (fun a=>a.1.length≤100000∧a.2.1.length=5∧∀ x∈a.2.1,0≤x∧x < 1000000) cT (fun a=>turnF a.1 a.2.1)
def t_law_turned (K:PySem.W.Frag):TS:=tSeq (tAsg (tOp (rIxS) (tC (.str "0123456789 ()+-*/^aAz_.\n")) (tOp oMod (tOp (rIxL K) (tVar 1) (tC (.int 0))) (tC (.int 24)))) (gName 2)) (tSeq (tAsg (tOp oModX (tOp (rIxL K) (tVar 1) (tC (.int 1))) (tOp oAdd (tCB rLenS (tCons (tVar 0) tNil)) (tC (.int 1)))) (gName 3)) (tSeq (tAsg (tOp oAdd (tOp oAdd (tVar 3) (tC (.int 1))) (tOp oMod (tOp (rIxL K) (tVar 1) (tC (.int 2))) (tC (.int 7)))) (gName 4)) (tSeq (tAsg (tOp oMod (tOp (rIxL K) (tVar 1) (tC (.int 3))) (tC (.int 6))) (gName 5)) (tSeq (tAsg (tLst (tCons (tC (.str " + ")) (tCons (tC (.str " - ")) (tCons (tC (.str " * ")) (tCons (tC (.str " / ")) (tCons (tC (.str "^")) (tCons (tC (.str "^2")) (tCons (tC (.str "^12")) (tCons (tC (.str "^13")) (tCons (tC (.str "^0")) (tCons (tC (.str "^02")) (tCons (tC (.str "^-1")) (tCons (tC (.str "-")) (tCons (tC (.str "--")) (tCons (tC (.str "()")) (tCons (tC (.str "(")) (tCons (tC (.str ")")) (tCons (tC (.str "x y")) tNil)))))))))))))))))) (gName 6)) (tSeq (tAsg (tOp rCat (tVar 6) (tLst (tCons (tC (.str "00")) (tCons (tC (.str "0")) (tCons (tC (.str "01")) (tCons (tOp (rMulS) (tC (.str "1")) (tC (.int 30))) (tCons (tOp (rMulS) (tC (.str "1")) (tC (.int 31))) (tCons (tC (.str "abcdefgh")) (tCons (tC (.str "abcdefghi")) (tCons (tC (.str "X")) (tCons (tC (.str "x1")) (tCons (tC (.str "1x")) (tCons (tC (.str "+")) (tCons (tC (.str " +")) (tCons (tC (.str "+ ")) (tCons (tC (.str "  ")) tNil)))))))))))))))) (gName 6)) (tSeq (tAsg (tOp rCat (tVar 6) (tLst (tCons (tC (.str "x^2^3")) (tCons (tC (.str "(x)^2")) (tCons (tC (.str "-x^2")) (tCons (tC (.str "(-x)^2")) (tCons (tC (.str "2^x")) (tCons (tC (.str "x^(2)")) (tCons (tC (.str " + -")) (tCons (tC (.str " * -x")) (tCons (tC (.str "--x")) (tCons (tC (.str "")) (tCons (tC (.str "\n")) tNil))))))))))))) (gName 6)) (tSeq (tIfS (tTest (tOp rEq (tVar 5) (tC (.int 0)))) (tRet (tOp (rCatS) (tOp (rCatS) (tSl (rSlS) (tVar 0) tNoPart (tPart (tVar 3))) (tVar 2)) (tSl (rSlS) (tVar 0) (tPart (tVar 3)) tNoPart))) tNext) (tSeq (tIfS (tTest (tOp rEq (tVar 5) (tC (.int 1)))) (tRet (tOp (rCatS) (tSl (rSlS) (tVar 0) tNoPart (tPart (tVar 3))) (tSl (rSlS) (tVar 0) (tPart (tOp oAdd (tVar 3) (tC (.int 1)))) tNoPart))) tNext) (tSeq (tIfS (tTest (tOp rEq (tVar 5) (tC (.int 2)))) (tRet (tOp (rCatS) (tOp (rCatS) (tSl (rSlS) (tVar 0) tNoPart (tPart (tVar 3))) (tVar 2)) (tSl (rSlS) (tVar 0) (tPart (tOp oAdd (tVar 3) (tC (.int 1)))) tNoPart))) tNext) (tSeq (tIfS (tTest (tOp rEq (tVar 5) (tC (.int 3)))) (tRet (tOp (rCatS) (tSl (rSlS) (tVar 0) tNoPart (tPart (tVar 4))) (tSl (rSlS) (tVar 0) (tPart (tVar 3)) tNoPart))) tNext) (tSeq (tIfS (tTest (tOp rEq (tVar 5) (tC (.int 4)))) (tRet (tOp (rCatS) (tOp (rCatS) (tSl (rSlS) (tVar 0) tNoPart (tPart (tVar 3))) (tOp (rIxL K) (tVar 6) (tOp oModX (tOp (rIxL K) (tVar 1) (tC (.int 4))) (tCB (rLenQ K) (tCons (tVar 6) tNil))))) (tSl (rSlS) (tVar 0) (tPart (tVar 4)) tNoPart))) tNext) (tRet (tOp (rCatS) (tOp (rCatS) (tSl (rSlS) (tVar 0) tNoPart (tPart (tVar 3))) (tOp (rIxL K) (tVar 6) (tOp oModX (tOp (rIxL K) (tVar 1) (tC (.int 4))) (tCB (rLenQ K) (tCons (tVar 6) tNil))))) (tSl (rSlS) (tVar 0) (tPart (tVar 3)) tNoPart))))))))))))))
theorem rd_law_turned (K:PySem.W.Frag) (t:T) (ns:List Int) (h:t.length≤100000∧ns.length=5∧∀ x∈ns,0≤x∧x < 1000000):SW (rVal cT) [.val cT t,.val (cInts K) ns,.any,.any,.any,.any,.any] (t_law_turned K) (PF (turnF t ns)):=by
 obtain ⟨hl,h5,hx⟩:=h
 have ix:∀ {G:Gam} (j:Nat),j < 5→G[1]?=some (.val (cInts K) ns)→Ev G (tOp (rIxL K) (tVar 1) (tC (.int (j:Int)))) cInt (ns.getD j 0):=fun j hj hg=>ev_is (ev_ixG 0 (ev_var hg) ev_int ⟨by omega,by omega⟩) (by rw [Int.toNat_natCast])
 have nn:∀ j,j < 5→0≤ns.getD j 0:=fun j hj=>(hx _ (mem18 (i:=j) (by omega))).1
 have n1:=nn 1 (by decide)
 have n2:=nn 2 (by decide)
 have n3:=nn 3 (by decide)
 have n4:=nn 4 (by decide)
 have n0:=nn 0 (by decide)
 unfold t_law_turned
 refine q_asg' (c:=cT) (d:=tSg ns) (ev_ixSG (l:=sgL) (ev_t sgL (by decide +kernel)) (ev_mod (ix 0 (by decide) rfl) ev_int (by decide)) ⟨by omega,by show _ < (24:Int);omega⟩ (by decide)) ?_
 have fm:0≤(ns.getD 1 0).fmod ((t.length:Int)+1)∧(ns.getD 1 0).fmod ((t.length:Int)+1) < (t.length:Int)+1:=⟨Int.fmod_nonneg_of_pos _ (by omega),Int.fmod_lt_of_pos _ (by omega)⟩
 have ft:(tAt t ns:Int)=(ns.getD 1 0).fmod ((t.length:Int)+1):=by unfold tAt;omega
 refine q_asg' (c:=cInt) (d:=(tAt t ns:Int)) (ev_is (ev_modX (ix 1 (by decide) rfl) (ev_add (ev_lenS (ev_var rfl) (by omega)) ev_int) (by omega)) ft.symm) ?_
 have ff:(tFar t ns:Int)=(tAt t ns:Int)+1+ns.getD 2 0 % 7:=by unfold tFar;omega
 refine q_asg' (c:=cInt) (d:=(tFar t ns:Int)) (ev_is (ev_add (ev_add (ev_var rfl) ev_int) (ev_mod (ix 2 (by decide) rfl) ev_int (by decide))) ff.symm) ?_
 refine q_asg' (c:=cInt) (d:=ns.getD 3 0 % 6) (ev_mod (ix 3 (by decide) rfl) ev_int (by decide)) ?_
 have r30:(List.replicate (30:Int).toNat [49]).flatten=rep 30 [49]:=rfl
 have r31:(List.replicate (31:Int).toNat [49]).flatten=rep 31 [49]:=rfl
 refine q_asgN' (c:=cT) (ds:=some1) (evN_lst (el_cons (ev_t [32,43,32] (by decide +kernel)) (el_cons (ev_t [32,45,32] (by decide +kernel)) (el_cons (ev_t [32,42,32] (by decide +kernel)) (el_cons (ev_t [32,47,32] (by decide +kernel)) (el_cons (ev_t [94] (by decide +kernel)) (el_cons (ev_t [94,50] (by decide +kernel)) (el_cons (ev_t [94,49,50] (by decide +kernel)) (el_cons (ev_t [94,49,51] (by decide +kernel)) (el_cons (ev_t [94,48] (by decide +kernel)) (el_cons (ev_t [94,48,50] (by decide +kernel)) (el_cons (ev_t [94,45,49] (by decide +kernel)) (el_cons (ev_t [45] (by decide +kernel)) (el_cons (ev_t [45,45] (by decide +kernel)) (el_cons (ev_t [40,41] (by decide +kernel)) (el_cons (ev_t [40] (by decide +kernel)) (el_cons (ev_t [41] (by decide +kernel)) (el_cons (ev_t [120,32,121] (by decide +kernel)) el_nil))))))))))))))))) (by decide)) ?_
 refine q_asgN' (c:=cT) (ds:=some1++some2) (evN_catO rfl (evN_lst (ds:=some2) (el_cons (ev_t [48,48] (by decide +kernel)) (el_cons (ev_t [48] (by decide +kernel)) (el_cons (ev_t [48,49] (by decide +kernel)) (el_cons (ev_is (ev_mulS' (ev_t [49] (by decide +kernel)) ev_int (by decide) (by decide)) r30) (el_cons (ev_is (ev_mulS' (ev_t [49] (by decide +kernel)) ev_int (by decide) (by decide)) r31) (el_cons (ev_t [97,98,99,100,101,102,103,104] (by decide +kernel)) (el_cons (ev_t [97,98,99,100,101,102,103,104,105] (by decide +kernel)) (el_cons (ev_t [88] (by decide +kernel)) (el_cons (ev_t [120,49] (by decide +kernel)) (el_cons (ev_t [49,120] (by decide +kernel)) (el_cons (ev_t [43] (by decide +kernel)) (el_cons (ev_t [32,43] (by decide +kernel)) (el_cons (ev_t [43,32] (by decide +kernel)) (el_cons (ev_t [32,32] (by decide +kernel)) el_nil)))))))))))))) (by decide)) (by decide)) ?_
 refine q_asgN' (c:=cT) (ds:=someL) (evN_catO rfl (evN_lst (ds:=some3) (el_cons (ev_t [120,94,50,94,51] (by decide +kernel)) (el_cons (ev_t [40,120,41,94,50] (by decide +kernel)) (el_cons (ev_t [45,120,94,50] (by decide +kernel)) (el_cons (ev_t [40,45,120,41,94,50] (by decide +kernel)) (el_cons (ev_t [50,94,120] (by decide +kernel)) (el_cons (ev_t [120,94,40,50,41] (by decide +kernel)) (el_cons (ev_t [32,43,32,45] (by decide +kernel)) (el_cons (ev_t [32,42,32,45,120] (by decide +kernel)) (el_cons (ev_t [45,45,120] (by decide +kernel)) (el_cons (ev_t [] (by decide +kernel)) (el_cons (ev_t [10] (by decide +kernel)) el_nil))))))))))) (by decide)) (by decide)) ?_
 refine sw_freeze K 6 rfl ?_
 have sl:someL.length=42:=by decide +kernel
 have pl:=(pc_ok ns).2
 have a1:=tSg ns
 have lo:∀ {G:Gam},G[0]?=some (.val cT t)→G[3]?=some (.val cInt (tAt t ns:Int))→Ev G (tSl rSlS (tVar 0) tNoPart (tPart (tVar 3))) cT (t.take (tAt t ns)):=fun h0 h3=>ev_is (ev_slS0 (ev_var h0) eo_none (eo_some (ev_var h3)) (by omega) (by omega)) (by rw [Int.toNat_natCast])
 have hi:∀ {G:Gam},G[0]?=some (.val cT t)→G[3]?=some (.val cInt (tAt t ns:Int))→Ev G (tSl rSlS (tVar 0) (tPart (tVar 3)) tNoPart) cT (t.drop (tAt t ns)):=fun h0 h3=>ev_is (ev_slS1 (K:=K) (ev_var h0) (eo_some (ev_var h3)) eo_none (by omega) (by omega)) (by rw [Int.toNat_natCast])
 have hi1:∀ {G:Gam},G[0]?=some (.val cT t)→G[3]?=some (.val cInt (tAt t ns:Int))→Ev G (tSl rSlS (tVar 0) (tPart (tOp oAdd (tVar 3) (tC (.int 1)))) tNoPart) cT (t.drop (tAt t ns+1)):=fun h0 h3=>ev_is (ev_slS1 (K:=K) (ev_var h0) (eo_some (ev_add (ev_var h3) ev_int)) eo_none (by omega) (by omega)) (by rw [show ((tAt t ns:Int)+1).toNat=tAt t ns+1 by omega])
 have pc:∀ {G:Gam},G[1]?=some (.val (cInts K) ns)→G[6]?=some (.val (cList K cT) someL)→Ev G (tOp (rIxL K) (tVar 6) (tOp oModX (tOp (rIxL K) (tVar 1) (tC (.int 4))) (tCB (rLenQ K) (tCons (tVar 6) tNil)))) cT (tPc ns):=fun h1 h6=>ev_is (ev_ixG (i:=(ns.getD 4 0).fmod (someL.length:Int)) ([]:T) (ev_var h6) (ev_modX (ix 4 (by decide) h1) (ev_len (ev_var h6)) (by rw [sl];decide)) ⟨Int.fmod_nonneg_of_pos _ (by rw [sl];decide),Int.fmod_lt_of_pos _ (by rw [sl];decide)⟩) rfl
 have tl:∀ k,(t.take k).length≤100000:=fun k=>by rw [List.length_take];omega
 have dl:∀ k,(t.drop k).length≤100000:=fun k=>by rw [List.length_drop];omega
 have sgl:(tSg ns).length=1:=rfl
 have cat3:∀ {G:Gam} {ta tb tc:TE} {a b c:T},Ev G ta cT a→Ev G tb cT b→Ev G tc cT c→a.length≤100000→b.length≤31→c.length≤100000→Ev G (tOp rCatS (tOp rCatS ta tb) tc) cT (a++b++c):=fun h1 h2 h3 l1 l2 l3=>ev_catS (ev_catS h1 h2 (by omega)) h3 (by rw [List.length_append];omega)
 unfold turnF
 refine q_when (evT_test (ev_eqI (ev_var rfl) ev_int)) (fun hb=>?_) (fun hb=>?_)
 ·rw [if_pos (of_decide_eq_true hb)]
  exact sw_ret (cat3 (lo rfl rfl) (ev_var rfl) (hi rfl rfl) (tl _) (by omega) (dl _)) rfl
 rw [if_neg (of_decide_eq_false hb)]
 refine q_when (evT_test (ev_eqI (ev_var rfl) ev_int)) (fun hb=>?_) (fun hb=>?_)
 ·rw [if_pos (of_decide_eq_true hb)]
  exact sw_ret (ev_catS (lo rfl rfl) (hi1 rfl rfl) (by have:=tl (tAt t ns);have:=dl (tAt t ns+1);omega)) rfl
 rw [if_neg (of_decide_eq_false hb)]
 refine q_when (evT_test (ev_eqI (ev_var rfl) ev_int)) (fun hb=>?_) (fun hb=>?_)
 ·rw [if_pos (of_decide_eq_true hb)]
  exact sw_ret (cat3 (lo rfl rfl) (ev_var rfl) (hi1 rfl rfl) (tl _) (by omega) (dl _)) rfl
 rw [if_neg (of_decide_eq_false hb)]
 refine q_when (evT_test (ev_eqI (ev_var rfl) ev_int)) (fun hb=>?_) (fun hb=>?_)
 ·rw [if_pos (of_decide_eq_true hb)]
  exact sw_ret (ev_catS (ev_is (ev_slS0 (ev_var rfl) eo_none (eo_some (ev_var rfl)) (by omega) (by omega)) (by rw [Int.toNat_natCast])) (hi rfl rfl) (by have:=tl (tFar t ns);have:=dl (tAt t ns);omega)) rfl
 rw [if_neg (of_decide_eq_false hb)]
 refine q_when (evT_test (ev_eqI (ev_var rfl) ev_int)) (fun hb=>?_) (fun hb=>?_)
 ·rw [if_pos (of_decide_eq_true hb)]
  exact sw_ret (cat3 (lo rfl rfl) (pc rfl rfl) (ev_is (ev_slS1 (K:=K) (ev_var rfl) (eo_some (ev_var rfl)) eo_none (by omega) (by omega)) (by rw [Int.toNat_natCast])) (tl _) pl (dl _)) rfl
 rw [if_neg (of_decide_eq_false hb)]
 exact sw_ret (cat3 (lo rfl rfl) (pc rfl rfl) (hi rfl rfl) (tl _) pl (dl _)) rfl
end P18
end Lw.X
namespace Lw.X
namespace P18
open PySem PySem.Spec PyProof.Rows L2 Pw Xp
theorem ev_rep {Γ:Gam} {ta tb:TE} {a:T} {i:Int} {n:Nat} (h1:Ev Γ ta cT a) (h2:Ev Γ tb cInt i) (hi:i.toNat=n) (h0:0≤i) (hn:n≤1000) (hl:a.length≤100):Ev Γ (tOp rMulS ta tb) cT (rep n a):=ev_is (ev_mulS' h1 h2 ⟨h0,by omega⟩ hl) (by rw [hi];rfl)
theorem ev_cat {Γ:Gam} {ta tb:TE} {a b:T} (n m:Nat) (h1:Ev Γ ta cT a∧a.length≤n) (h2:Ev Γ tb cT b∧b.length≤m) (h:n+m≤100000):Ev Γ (tOp rCatS ta tb) cT (a++b)∧(a++b).length≤n+m:=⟨ev_catS h1.1 h2.1 (by have:=h1.2;have:=h2.2;omega),by rw [List.length_append];have:=h1.2;have:=h2.2;omega⟩
def sp_law_bounds (K:PySem.W.Frag):Sp:=SpN (aCons cInt (aCons cT aNil)) (fun a=>0≤a.1∧WName a.2.1) cT (fun a=>boundF a.1 a.2.1)
def t_law_bounds (K:PySem.W.Frag):TS:=tSeq (tAsg (tOp oAdd (tC (.int 29)) (tOp oMod (tVar 0) (tC (.int 3)))) (gName 2)) (tSeq (tAsg (tLst (tCons (tOp (rCatS) (tOp (rCatS) (tOp (rMulS) (tC (.str "(")) (tVar 2)) (tVar 1)) (tOp (rMulS) (tC (.str ")")) (tVar 2))) (tCons (tOp (rCatS) (tOp (rMulS) (tC (.str "-")) (tVar 2)) (tVar 1)) (tCons (tOp (rCatS) (tOp (rCatS) (tOp (rMulS) (tC (.str "-(")) (tVar 2)) (tVar 1)) (tOp (rMulS) (tC (.str ")")) (tVar 2))) tNil)))) (gName 3)) (tSeq (tDrop (tBM K "list" rAppend (tVar 3) (tCons (tOp (rCatS) (tOp (rCatS) (tOp (rCatS) (tOp (rCatS) (tOp (rMulS) (tC (.str "-")) (tVar 2)) (tC (.str "("))) (tOp (rMulS) (tC (.str "-")) (tOp oSub (tC (.int 30)) (tOp oMod (tOp oDiv (tVar 0) (tC (.int 3))) (tC (.int 2)))))) (tVar 1)) (tC (.str ")^2"))) tNil))) (tSeq (tDrop (tBM K "list" rAppend (tVar 3) (tCons (tOp (rCatS) (tOp (rCatS) (tOp (rCatS) (tC (.str "1 + (")) (tOp (rMulS) (tC (.str "2 * (")) (tVar 2))) (tVar 1)) (tOp (rMulS) (tC (.str ")")) (tOp oAdd (tVar 2) (tC (.int 1))))) tNil))) (tSeq (tDrop (tBM K "list" rAppend (tVar 3) (tCons (tOp (rCatS) (tOp (rCatS) (tOp (rCatS) (tOp (rCatS) (tOp (rCatS) (tOp (rCatS) (tOp (rMulS) (tC (.str "(")) (tVar 2)) (tVar 1)) (tOp (rMulS) (tC (.str ")")) (tVar 2))) (tC (.str " - "))) (tOp (rMulS) (tC (.str "(")) (tC (.int 30)))) (tC (.str "0"))) (tOp (rMulS) (tC (.str ")")) (tC (.int 30)))) tNil))) (tSeq (tAsg (tOp (rCatS) (tVar 1) (tOp (rMulS) (tC (.str " + 1")) (tC (.int 240)))) (gName 4)) (tSeq (tAsg (tOp oAdd (tC (.int 999)) (tOp oMod (tOp oDiv (tVar 0) (tC (.int 6))) (tC (.int 3)))) (gName 5)) (tSeq (tAsg (tOp oSub (tVar 5) (tCB rLenS (tCons (tVar 4) tNil))) (gName 6)) (tSeq (tAsg (tOp (rCatS) (tOp (rCatS) (tVar 4) (tOp (rMulS) (tC (.str " * 1")) (tOp oDiv (tVar 6) (tC (.int 4))))) (tSl (rSlS) (tC (.str "^10")) tNoPart (tPart (tOp oMod (tVar 6) (tC (.int 4)))))) (gName 4)) (tRet (tOp rCat (tVar 3) (tLst (tCons (tVar 4) (tCons (tOp (rMulS) (tC (.str "(")) (tC (.int 40))) tNil)))))))))))))
theorem rd_law_bounds (K:PySem.W.Frag) (n:Int) (w:T) (h:0≤n∧WName w):SW (rNew cT) [.val cInt n,.val cT w,.any,.any,.any,.any,.any] (t_law_bounds K) (PF (boundF n w)):=by
 obtain ⟨n0,hw⟩:=h
 have wl:=hw.2.1
 have m0:29≤29+n % 3∧29+n % 3≤31:=by omega
 have bm:(bdM n:Int)=29+n % 3:=by unfold bdM;omega
 have bml:bdM n≤31:=by omega
 unfold t_law_bounds
 refine q_asg' (c:=cInt) (d:=(bdM n:Int)) (ev_is (ev_add ev_int (ev_mod (ev_var rfl) ev_int (by decide))) bm.symm) ?_
 have rp:∀ {G:Gam} {s:Str} (a:T),s=Tx a→a.length≤5→G[2]?=some (.val cInt (bdM n:Int))→Ev G (tOp rMulS (tC (.str s)) (tVar 2)) cT (rep (bdM n) a)∧(rep (bdM n) a).length≤155:=fun a ha hl hg=>⟨ev_rep (ev_t a ha) (ev_var hg) (Int.toNat_natCast _) (by omega) (by omega) (by omega),by rw [rep_len];exact Nat.mul_le_mul bml hl⟩
 have nm:∀ {G:Gam},G[1]?=some (.val cT w)→Ev G (tVar 1) cT w∧w.length≤8:=fun hg=>⟨ev_var hg,wl⟩
 have st:∀ {G:Gam} {s:Str} (a:T),s=Tx a→a.length≤20→Ev G (tC (.str s)) cT a∧a.length≤20:=fun a ha hl=>⟨ev_t a ha,hl⟩
 have rk:∀ {G:Gam} {s:Str} {te:TE} {i:Int} (a:T) (k:Nat),s=Tx a→a.length≤5→Ev G te cInt i→i.toNat=k→0≤i→k≤240→Ev G (tOp rMulS (tC (.str s)) te) cT (rep k a)∧(rep k a).length≤1200:=fun a k ha hl he hk hi h2=>⟨ev_rep (ev_t a ha) he hk hi (by omega) (by omega),by rw [rep_len];exact Nat.mul_le_mul h2 hl⟩
 refine q_asgN' (c:=cT) (ds:=bound0 n w) (evN_lst (el_cons (ev_cat _ _ (ev_cat _ _ (rp [40] (by decide +kernel) (by decide) rfl) (nm rfl) (by decide)) (rp [41] (by decide +kernel) (by decide) rfl) (by decide)).1 (el_cons (ev_cat _ _ (rp [45] (by decide +kernel) (by decide) rfl) (nm rfl) (by decide)).1 (el_cons (ev_cat _ _ (ev_cat _ _ (rp [45,40] (by decide +kernel) (by decide) rfl) (nm rfl) (by decide)) (rp [41] (by decide +kernel) (by decide) rfl) (by decide)).1 el_nil))) (by show (3:Nat)≤1000000;decide)) ?_
 refine q_app rfl (ev_cat _ _ (ev_cat _ _ (ev_cat _ _ (ev_cat _ _ (rp [45] (by decide +kernel) (by decide) rfl) (st [40] (by decide +kernel) (by decide)) (by decide)) (rk [45] (30-n/3 % 2).toNat (by decide +kernel) (by decide) (ev_sub ev_int (ev_mod (ev_div (ev_var rfl) ev_int (by decide)) ev_int (by decide))) rfl (by omega) (by omega)) (by decide)) (nm rfl) (by decide)) (st [41,94,50] (by decide +kernel) (by decide)) (by decide)).1 (by show (3:Nat) < _;decide) ?_
 refine q_app rfl (ev_cat _ _ (ev_cat _ _ (ev_cat _ _ (st [49,32,43,32,40] (by decide +kernel) (by decide)) (rp [50,32,42,32,40] (by decide +kernel) (by decide) rfl) (by decide)) (nm rfl) (by decide)) (rk [41] (29+n % 3+1).toNat (by decide +kernel) (by decide) (ev_is (ev_add (ev_var rfl) ev_int) (show (bdM n:Int)+1=29+n % 3+1 by omega)) rfl (by omega) (by omega)) (by decide)).1 (by show (4:Nat) < _;decide) ?_
 refine q_app rfl (ev_cat _ _ (ev_cat _ _ (ev_cat _ _ (ev_cat _ _ (ev_cat _ _ (ev_cat _ _ (rp [40] (by decide +kernel) (by decide) rfl) (nm rfl) (by decide)) (rp [41] (by decide +kernel) (by decide) rfl) (by decide)) (st [32,45,32] (by decide +kernel) (by decide)) (by decide)) (rk [40] 30 (by decide +kernel) (by decide) ev_int rfl (by decide) (by decide)) (by decide)) (st [48] (by decide +kernel) (by decide)) (by decide)) (rk [41] 30 (by decide +kernel) (by decide) ev_int rfl (by decide) (by decide)) (by decide)).1 (by show (5:Nat) < _;decide) ?_
 have bl:=bdR_len w
 refine q_asg' (c:=cT) (d:=bdR w) (ev_cat _ _ (nm rfl) (rk [32,43,32,49] 240 (by decide +kernel) (by decide) ev_int rfl (by decide) (by decide)) (by decide)).1 ?_
 refine q_asg' (c:=cInt) (d:=999+n/6 % 3) (ev_add ev_int (ev_mod (ev_div (ev_var rfl) ev_int (by decide)) ev_int (by decide))) ?_
 refine q_asg' (c:=cInt) (d:=bdL n w) (ev_sub (ev_var rfl) (ev_lenS (ev_var rfl) (by omega))) ?_
 have b0:0≤bdL n w∧bdL n w≤50:=by unfold bdL;omega
 refine q_asg' (c:=cT) (d:=bound4 n w) (ev_cat 1040 20 (ev_cat 980 60 ⟨ev_var rfl,by omega⟩ ⟨(rk [32,42,32,49] (bdL n w/4).toNat (by decide +kernel) (by decide) (ev_div (ev_var rfl) ev_int (by decide)) rfl (by omega) (by omega)).1,by rw [rep_len];show (bdL n w/4).toNat*4≤60;omega⟩ (by decide)) ⟨ev_slS0 (ev_t [94,49,48] (by decide +kernel)) eo_none (eo_some (ev_mod (ev_var rfl) ev_int (by decide))) (by omega) (by decide),by rw [List.length_take];exact Nat.le_trans (Nat.min_le_right _ _) (by decide)⟩ (by decide)).1 ?_
 refine sw_retN (evN_catO rfl (evN_lst (ds:=[bound4 n w,rep 40 [40]]) (el_cons (ev_var rfl) (el_cons (rk [40] 40 (by decide +kernel) (by decide) ev_int rfl (by decide) (by decide)).1 el_nil)) (by show (2:Nat)≤1000000;decide)) (by show (6:Nat)+2≤_;decide)) rfl
end P18
end Lw.X
namespace Lw.X
namespace P18
open PySem PySem.Spec PyProof.Rows L2 Pw Xp
def sp_law (K:PySem.W.Frag):Sp:=SpF (aCons (cInts K) aNil) (fun a=>a.1.length≤63) cBool (fun _=>true)
def t_law (K:PySem.W.Frag) (C:ExA) (Y:ExC):TS:=tSeq (tAsg (tCall (sp_law_numbers K) [] E0 (tCons (tVar 0) (tCons (tC (.int 0)) (tCons (tC (.int 3)) tNil)))) (gName 1)) (tSeq (tAsg (tCall (sp_law_names K) [] E0 (tCons (tCall (sp_law_numbers K) [] E0 (tCons (tVar 0) (tCons (tC (.int 1)) (tCons (tOp oAdd (tC (.int 1)) (tOp oMod (tOp (rIxL K) (tVar 1) (tC (.int 0))) (tC (.int 3)))) tNil)))) tNil)) (gName 2)) (tSeq (tAsg (tCall (sp_law_grown K) [] E0 (tCons (tCall (sp_law_numbers K) [] E0 (tCons (tVar 0) (tCons (tC (.int 2)) (tCons (tOp oAdd (tC (.int 2)) (tOp oMod (tOp (rIxL K) (tVar 1) (tC (.int 1))) (tC (.int 8)))) tNil)))) (tCons (tVar 2) (tCons (tC (.int 5)) tNil)))) (gName 3)) (tSeq (tAsg (tCall (sp_law_text K 260) [] E0 (tCons (tVar 3) tNil)) (gName 4)) (tSeq (tFor (iRng2 (tCons (tC (.int 4)) (tCons (tC (.int 28)) tNil))) (gName 5) (tIfS (tNot (tB (tCall (sp_law_judged K Y C) [] E0 (tCons (tCall (sp_law_turned K) [] E0 (tCons (tVar 4) (tCons (tCall (sp_law_numbers K) [] E0 (tCons (tVar 0) (tCons (tVar 5) (tCons (tC (.int 5)) tNil)))) tNil))) tNil)))) (tRet (tC (.bl false))) tNext)) (tSeq (tFor (iList K (tLst (tCons (tC (.str "")) (tCons (tC (.str " ")) (tCons (tC (.str "x +")) (tCons (tC (.str "+ x")) (tCons (tC (.str "x +y")) (tCons (tC (.str "x+ y")) (tCons (tC (.str "x  + y")) (tCons (tC (.str "()")) (tCons (tC (.str "(x")) (tCons (tC (.str "x)")) (tCons (tC (.str "x ^2")) (tCons (tC (.str "x^ 2")) (tCons (tC (.str "\n")) (tCons (tOp (rCatS) (tVar 4) (tC (.str "\n"))) tNil)))))))))))))))) (gName 6) (tIfS (tNot (tB (tCall (sp_law_judged K Y C) [] E0 (tCons (tVar 6) tNil)))) (tRet (tC (.bl false))) tNext)) (tSeq (tFor (iList K (tCall (sp_law_bounds K) [] E0 (tCons (tOp (rIxL K) (tVar 1) (tC (.int 2))) (tCons (tOp (rIxL K) (tVar 2) (tC (.int 0))) tNil)))) (gName 6) (tIfS (tNot (tB (tCall (sp_law_judged K Y C) [] E0 (tCons (tVar 6) tNil)))) (tRet (tC (.bl false))) tNext)) (tRet (tAndV (tCall (sp_law_judged K Y C) [] E0 (tCons (tOp (rCatS) (tC (.str " ")) (tVar 4)) tNil)) (tAndV (tCall (sp_law_judged K Y C) [] E0 (tCons (tOp (rCatS) (tVar 4) (tC (.str " "))) tNil)) (tCall (sp_law_judged K Y C) [] E0 (tCons (tVar 4) tNil)))))))))))
theorem rd_law (K:PySem.W.Frag) (C:ExA) (Y:ExC) (s:List Int):SW (rVal cBool) [.val (cInts K) s,.any,.any,.any,.any,.any,.any] (t_law K C Y) (PF true):=by
 unfold t_law
 obtain ⟨sh0,e0,l0,x0⟩:=numsF_ex s 0 3
 refine q_asg' (EvN.ev (K:=K) (evN_is (evN_numbers (k:=0) (n:=3) (ev_var rfl) ev_int ev_int rfl rfl (by decide)) e0.symm)) ?_
 have a0:=x0 _ (mem18 (i:=0) (by omega))
 have a1:=x0 _ (mem18 (i:=1) (by omega))
 have a2:=x0 _ (mem18 (i:=2) (by omega))
 obtain ⟨n1,e1,l1,x1⟩:=numsF_ex s 1 (1+sh0.getD 0 0 % 3).toNat
 refine q_asg' (EvN.ev (K:=K) (evN_names (EvN.ev (K:=K) (evN_is (evN_numbers (k:=1) (n:=(1+sh0.getD 0 0 % 3).toNat) (ev_var rfl) ev_int (ev_add ev_int (ev_mod (ev_ixG 0 (ev_var rfl) ev_int ⟨by decide,by omega⟩) ev_int (by decide))) rfl (by show 1+sh0.getD 0 0 % 3=_;omega) (by omega)) e1.symm)) (by omega) x1)) ?_
 have hw:=namesF_ok (ns:=n1) (by omega) fun x h=>(x1 x h).1
 generalize namesF n1=ws at hw
 obtain ⟨hw,hwl⟩:=hw
 obtain ⟨n2,e2,l2,x2⟩:=numsF_ex s 2 (2+sh0.getD 1 0 % 8).toNat
 refine q_asg' (ev_grown (most:=5) (EvN.ev (K:=K) (evN_is (evN_numbers (k:=2) (n:=(2+sh0.getD 1 0 % 8).toNat) (ev_var rfl) ev_int (ev_add ev_int (ev_mod (ev_ixG 0 (ev_var rfl) ev_int ⟨by decide,by omega⟩) ev_int (by decide))) rfl (by show 2+sh0.getD 1 0 % 8=_;omega) (by omega)) e2.symm)) (ev_var rfl) ev_int (by omega) (by omega) x2 hw (by omega) (by decide) (by decide)) ?_
 have hg:=grown_ok (ns:=n2) (most:=5) (by omega) x2 hw (by decide)
 generalize grownF n2 ws 5=e at hg
 obtain ⟨gd,hs,_⟩:=hg
 have w:=gd.w
 have dp:=dpt_size e
 have sl:=sh_len e w
 have so:=ops_sh e w
 refine q_asg' (ev_ltext (n:=260) (e:=e) (ev_var rfl) (by omega) (by omega) w) ?_
 generalize sh e=t at sl so
 have judge:∀ {G:Gam} {ta:TE} {u:T},Ev G ta cT u→Jd u→Ev G (tCall (sp_law_judged K Y C) [] E0 (tCons ta tNil)) cBool true:=fun h j=>ev_call (f:=fun _:T×Unit=>true) (a:=(_,())) (ea_cons h ea_nil) j
 have no:∀ {G:Gam} {ta:TE} {u:T} {P:Pst Bool},Ev G ta cT u→Jd u→P.nx G→SW (rVal cBool) G (tIfS (tNot (tB (tCall (sp_law_judged K Y C) [] E0 (tCons ta tNil)))) (tRet (tC (.bl false))) tNext) P:=fun h j k=>sw_when (b:=false) (evT_is (evT_not (evT_B (judge h j))) rfl) (fun z=>absurd z (by decide)) fun _=>k
 refine q_forR2G (fun _=>[.val (cInts K) s,.val (cInts K) sh0,.val (cList K cT) ws,.any,.val cT t,.any,.any]) ev_int ev_int (by decide) (by decide) ?_ (fun j hj=>?_) ?_
 ·exact .same (.same (.same (.any (.same (.any (.any .nil))))))
 ·obtain ⟨n3,e3,l3,x3⟩:=numsF_ex s (4+j) 5
  obtain ⟨o1,o2⟩:=turn_ok t n3
  refine no (u:=turnF t n3) (ev_call (f:=fun a:T×List Int×Unit=>turnF a.1 a.2.1) (a:=(t,n3,())) (ea_cons (ev_var rfl) (ea_cons (EvN.ev (K:=K) (evN_is (evN_numbers (k:=4+j) (n:=5) (ev_var rfl) (ev_var rfl) ev_int (by omega) rfl (by decide)) e3.symm)) ea_nil)) ⟨by show t.length≤100000;omega,l3,x3⟩) (jd_ops (by omega) (by omega)) ?_
  exact .same (.same (.same (.any (.same (.any (.any .nil))))))
 have tl:∀ (a:T),ops a=0→a.length≤1→Jd (t++a)∧Jd (a++t):=fun a h l=>⟨jd_ops (by rw [List.length_append];omega) (by rw [ops_app];omega),jd_ops (by rw [List.length_append];omega) (by rw [ops_app];omega)⟩
 refine q_forLG (c:=cT) (ds:=oddL++[t++[10]]) (fun _=>[.val (cInts K) s,.val (cInts K) sh0,.val (cList K cT) ws,.any,.val cT t,.any,.any]) (EvN.ev (K:=K) (evN_lst (ds:=oddL++[t++[10]]) (el_cons (ev_t [] (by decide +kernel)) (el_cons (ev_t [32] (by decide +kernel)) (el_cons (ev_t [120,32,43] (by decide +kernel)) (el_cons (ev_t [43,32,120] (by decide +kernel)) (el_cons (ev_t [120,32,43,121] (by decide +kernel)) (el_cons (ev_t [120,43,32,121] (by decide +kernel)) (el_cons (ev_t [120,32,32,43,32,121] (by decide +kernel)) (el_cons (ev_t [40,41] (by decide +kernel)) (el_cons (ev_t [40,120] (by decide +kernel)) (el_cons (ev_t [120,41] (by decide +kernel)) (el_cons (ev_t [120,32,94,50] (by decide +kernel)) (el_cons (ev_t [120,94,32,50] (by decide +kernel)) (el_cons (ev_t [10] (by decide +kernel)) (el_cons (ev_catS (ev_var rfl) (ev_t [10] (by decide +kernel)) (by show t.length+1≤_;omega)) el_nil)))))))))))))) (by show (14:Nat)≤1000000;decide))) (Wk.refl _) (fun j d hd=>?_) ?_
 ·refine no (u:=d) (ev_var rfl) ?_ ?_
  ·rcases List.mem_append.mp (List.mem_of_getElem? hd) with z | z
   ·obtain ⟨z1,z2⟩:=odd_ops d z
    exact jd_ops (by omega) (by omega)
   ·rw [List.mem_singleton.mp z]
    exact (tl [10] rfl (by decide)).1
  ·exact .same (.same (.same (.any (.same (.any (.any .nil))))))
 have w0:WName (ws.getD 0 []):=hw.w _ (by
  rw [List.getD_eq_getElem?_getD,List.getElem?_eq_getElem (show 0 < ws.length by omega)]
  exact List.getElem_mem _)
 have bo:=bound_ok (n:=sh0.getD 2 0) w0
 refine q_forLG (c:=cT) (ds:=boundF (sh0.getD 2 0) (ws.getD 0 [])) (fun _=>[.val (cInts K) s,.val (cInts K) sh0,.val (cList K cT) ws,.any,.val cT t,.any,.any]) (EvN.ev (K:=K) (evN_call (f:=fun a:Int×T×Unit=>boundF a.1 a.2.1) (a:=(sh0.getD 2 0,ws.getD 0 [],())) (ea_cons (ev_is (ev_ixG 0 (ev_var rfl) ev_int ⟨by decide,by omega⟩) rfl) (ea_cons (ev_is (ev_ixG ([]:T) (ev_var rfl) ev_int ⟨by decide,by omega⟩) rfl) ea_nil)) ⟨a2.1,w0⟩)) (Wk.refl _) (fun j d hd=>?_) ?_
 ·obtain ⟨z1,z2⟩:=bo d (List.mem_of_getElem? hd)
  refine no (u:=d) (ev_var rfl) (by
   rcases z1 with z1 | ⟨z1,z3⟩
   ·exact jd_ops (by omega) z1
   ·exact jd_nb (by omega) z1 z3) ?_
  exact .same (.same (.same (.any (.same (.any (.any .nil))))))
 ·refine sw_ret (ev_is (ev_andV (judge (ev_catS (ev_t [32] (by decide +kernel)) (ev_var rfl) (by show 1+t.length≤_;omega)) (tl [32] rfl (by decide)).2) fun _=>(ev_andV (judge (ev_catS (ev_var rfl) (ev_t [32] (by decide +kernel)) (by show t.length+1≤_;omega)) (tl [32] rfl (by decide)).1) fun _=>(judge (ev_var rfl) (jd_ops (by omega) (by omega))))) ?_) rfl
  rfl
end P18
end Lw.X
namespace Lw.X.P18
open PySem L2 Pw PyProof.Rows Xp
theorem pe_gc {X:Cx} {x:Str} {v:V} {pos:Pos} (hg:Gl X x) (h:∃ u,X.mg x=some u∧RelV v u) (hd:(x == ("__debug__":Str))=false:=by decide):PE X (.Name x pos) (tC v) :=
 let ⟨_,hm,r⟩:=h;pe_glob hg hm r hd
def topS (i:Nat):Stmt:=PySem.Challenge.pw_paperwright_k18_what_is_no_text.main.body.getD i (.Pass ⟨0,0,0,0⟩)
abbrev s_law:Stmt:=topS 80
abbrev N_law:List Str:=["_law_script","_law_shape","_law_names_here","_law_tree","_law_text_here","_law_k","_law_odd"]
theorem sc_law:FnScope N_law ["_law_script"] (defScope s_law):=⟨rfl,rfl,rfl,by decide +kernel,rfl,by decide +kernel,by decide +kernel⟩
abbrev s_law_numbers:Stmt:=topS 59
abbrev N_law_numbers:List Str:=["_law_script","_law_k","_law_many","_law_cell","_law_rest","_law_mixed","_law_found","_law_j"]
theorem sc_law_numbers:FnScope N_law_numbers ["_law_script","_law_k","_law_many"] (defScope s_law_numbers):=⟨rfl,rfl,rfl,by decide +kernel,rfl,by decide +kernel,by decide +kernel⟩
abbrev s_law_names:Stmt:=topS 60
abbrev N_law_names:List Str:=["_law_numbers_here","_law_letters","_law_found","_law_number","_law_word","_law_step_here","_law_k"]
theorem sc_law_names:FnScope N_law_names ["_law_numbers_here"] (defScope s_law_names):=⟨rfl,rfl,rfl,by decide +kernel,rfl,by decide +kernel,by decide +kernel⟩
abbrev s_law_grown:Stmt:=topS 65
abbrev N_law_grown:List Str:=["_law_numbers_here","_law_names_here","_law_most","_law_stack","_law_number","_law_found","_law_k","_law_made"]
theorem sc_law_grown:FnScope N_law_grown ["_law_numbers_here","_law_names_here","_law_most"] (defScope s_law_grown):=⟨rfl,rfl,rfl,by decide +kernel,rfl,by decide +kernel,by decide +kernel⟩
abbrev s_law_step:Stmt:=topS 64
abbrev N_law_step:List Str:=["_law_stack","_law_number","_law_names_here","_law_most","_law_way","_law_rest","_law_made","_law_tree","_law_top","_law_bottom","_law_size","_law_exponent"]
theorem sc_law_step:FnScope N_law_step ["_law_stack","_law_number","_law_names_here","_law_most"] (defScope s_law_step):=⟨rfl,rfl,rfl,by decide +kernel,rfl,by decide +kernel,by decide +kernel⟩
abbrev s_law_joined:Stmt:=topS 62
abbrev N_law_joined:List Str:=["_law_sign","_law_one","_law_other","_law_top"]
theorem sc_law_joined:FnScope N_law_joined ["_law_sign","_law_one","_law_other"] (defScope s_law_joined):=⟨rfl,rfl,rfl,by decide +kernel,rfl,by decide +kernel,by decide +kernel⟩
abbrev s_law_fits:Stmt:=topS 63
abbrev N_law_fits:List Str:=["_law_part","_law_most"]
theorem sc_law_fits:FnScope N_law_fits ["_law_part","_law_most"] (defScope s_law_fits):=⟨rfl,rfl,rfl,by decide +kernel,rfl,by decide +kernel,by decide +kernel⟩
abbrev s_law_leaf:Stmt:=topS 61
abbrev N_law_leaf:List Str:=["_law_number","_law_names_here","_law_whole"]
theorem sc_law_leaf:FnScope N_law_leaf ["_law_number","_law_names_here"] (defScope s_law_leaf):=⟨rfl,rfl,rfl,by decide +kernel,rfl,by decide +kernel,by decide +kernel⟩
abbrev s_law_text:Stmt:=topS 68
abbrev N_law_text:List Str:=["_law_tree","_law_least"]
theorem sc_law_text:FnScope N_law_text ["_law_tree"] (defScope s_law_text):=⟨rfl,rfl,rfl,by decide +kernel,rfl,by decide +kernel,by decide +kernel⟩
abbrev s_law_inner:Stmt:=topS 67
abbrev N_law_inner:List Str:=["_law_tree","_law_least"]
theorem sc_law_inner:FnScope N_law_inner ["_law_tree","_law_least"] (defScope s_law_inner):=⟨rfl,rfl,rfl,by decide +kernel,rfl,by decide +kernel,by decide +kernel⟩
abbrev s_law_binds:Stmt:=topS 66
abbrev N_law_binds:List Str:=["_law_tree"]
theorem sc_law_binds:FnScope N_law_binds ["_law_tree"] (defScope s_law_binds):=⟨rfl,rfl,rfl,by decide +kernel,rfl,by decide +kernel,by decide +kernel⟩
abbrev s_law_judged:Stmt:=topS 78
abbrev N_law_judged:List Str:=["_law_text_here","_law_due","_law_found","_law_caught","e"]
theorem sc_law_judged:FnScope N_law_judged ["_law_text_here"] (defScope s_law_judged):=⟨rfl,rfl,rfl,by decide +kernel,rfl,by decide +kernel,by decide +kernel⟩
abbrev s_law_tree_of:Stmt:=topS 75
abbrev N_law_tree_of:List Str:=["_law_text_here","_law_found","_law_at"]
theorem sc_law_tree_of:FnScope N_law_tree_of ["_law_text_here"] (defScope s_law_tree_of):=⟨rfl,rfl,rfl,by decide +kernel,rfl,by decide +kernel,by decide +kernel⟩
abbrev s_law_sum_at:Stmt:=topS 69
abbrev N_law_sum_at:List Str:=["_law_text_here","_law_at","_law_deep","_law_found","_law_sign","_law_part"]
theorem sc_law_sum_at:FnScope N_law_sum_at ["_law_text_here","_law_at","_law_deep"] (defScope s_law_sum_at):=⟨rfl,rfl,rfl,by decide +kernel,rfl,by decide +kernel,by decide +kernel⟩
abbrev s_law_term_at:Stmt:=topS 70
abbrev N_law_term_at:List Str:=["_law_text_here","_law_at","_law_deep","_law_found","_law_sign","_law_part"]
theorem sc_law_term_at:FnScope N_law_term_at ["_law_text_here","_law_at","_law_deep"] (defScope s_law_term_at):=⟨rfl,rfl,rfl,by decide +kernel,rfl,by decide +kernel,by decide +kernel⟩
abbrev s_law_factor_at:Stmt:=topS 71
abbrev N_law_factor_at:List Str:=["_law_text_here","_law_at","_law_deep","_law_many","_law_found","_law_step_here"]
theorem sc_law_factor_at:FnScope N_law_factor_at ["_law_text_here","_law_at","_law_deep"] (defScope s_law_factor_at):=⟨rfl,rfl,rfl,by decide +kernel,rfl,by decide +kernel,by decide +kernel⟩
abbrev s_law_run:Stmt:=topS 73
abbrev N_law_run:List Str:=["_law_text_here","_law_at","_law_signs","_law_end"]
theorem sc_law_run:FnScope N_law_run ["_law_text_here","_law_at","_law_signs"] (defScope s_law_run):=⟨rfl,rfl,rfl,by decide +kernel,rfl,by decide +kernel,by decide +kernel⟩
abbrev s_law_power_at:Stmt:=topS 72
abbrev N_law_power_at:List Str:=["_law_text_here","_law_at","_law_deep","_law_found","_law_word"]
theorem sc_law_power_at:FnScope N_law_power_at ["_law_text_here","_law_at","_law_deep"] (defScope s_law_power_at):=⟨rfl,rfl,rfl,by decide +kernel,rfl,by decide +kernel,by decide +kernel⟩
abbrev s_law_atom_at:Stmt:=topS 74
abbrev N_law_atom_at:List Str:=["_law_text_here","_law_at","_law_deep","_law_found","_law_word"]
theorem sc_law_atom_at:FnScope N_law_atom_at ["_law_text_here","_law_at","_law_deep"] (defScope s_law_atom_at):=⟨rfl,rfl,rfl,by decide +kernel,rfl,by decide +kernel,by decide +kernel⟩
abbrev s_read:Stmt:=topS 57
abbrev N_read:List Str:=["text","found","at"]
theorem sc_read:FnScope N_read ["text"] (defScope s_read):=⟨rfl,rfl,rfl,by decide +kernel,rfl,by decide +kernel,by decide +kernel⟩
abbrev s_sum_at:Stmt:=topS 56
abbrev N_sum_at:List Str:=["text","at","deep"]
theorem sc_sum_at:FnScope N_sum_at ["text","at","deep"] (defScope s_sum_at):=⟨rfl,rfl,rfl,by decide +kernel,rfl,by decide +kernel,by decide +kernel⟩
abbrev s_row_at:Stmt:=topS 54
abbrev N_row_at:List Str:=["text","at","deep","signs","reader","found","sign","part"]
theorem sc_row_at:FnScope N_row_at ["text","at","deep","signs","reader"] (defScope s_row_at):=⟨rfl,rfl,rfl,by decide +kernel,rfl,by decide +kernel,by decide +kernel⟩
abbrev s_Two_init:Stmt:=inClass (topS 41) 0
abbrev N_Two_init:List Str:=["self","sign","left","right"]
theorem sc_Two_init:FnScope N_Two_init ["self","sign","left","right"] (defScope s_Two_init):=⟨rfl,rfl,rfl,by decide +kernel,rfl,by decide +kernel,by decide +kernel⟩
abbrev s_term_at:Stmt:=topS 55
abbrev N_term_at:List Str:=["text","at","deep"]
theorem sc_term_at:FnScope N_term_at ["text","at","deep"] (defScope s_term_at):=⟨rfl,rfl,rfl,by decide +kernel,rfl,by decide +kernel,by decide +kernel⟩
abbrev s_factor_at:Stmt:=topS 53
abbrev N_factor_at:List Str:=["text","at","deep","many","found","step"]
theorem sc_factor_at:FnScope N_factor_at ["text","at","deep"] (defScope s_factor_at):=⟨rfl,rfl,rfl,by decide +kernel,rfl,by decide +kernel,by decide +kernel⟩
abbrev s_power_at:Stmt:=topS 52
abbrev N_power_at:List Str:=["text","at","deep","atom","figures"]
theorem sc_power_at:FnScope N_power_at ["text","at","deep"] (defScope s_power_at):=⟨rfl,rfl,rfl,by decide +kernel,rfl,by decide +kernel,by decide +kernel⟩
abbrev s_atom_at:Stmt:=topS 51
abbrev N_atom_at:List Str:=["text","at","deep","sign","inner","figures","word"]
theorem sc_atom_at:FnScope N_atom_at ["text","at","deep"] (defScope s_atom_at):=⟨rfl,rfl,rfl,by decide +kernel,rfl,by decide +kernel,by decide +kernel⟩
abbrev s_whole_at:Stmt:=topS 50
abbrev N_whole_at:List Str:=["text","at","most","figures"]
theorem sc_whole_at:FnScope N_whole_at ["text","at","most"] (defScope s_whole_at):=⟨rfl,rfl,rfl,by decide +kernel,rfl,by decide +kernel,by decide +kernel⟩
abbrev s_run_of:Stmt:=topS 49
abbrev N_run_of:List Str:=["text","at","signs","most","end"]
theorem sc_run_of:FnScope N_run_of ["text","at","signs","most"] (defScope s_run_of):=⟨rfl,rfl,rfl,by decide +kernel,rfl,by decide +kernel,by decide +kernel⟩
abbrev s_Number_init:Stmt:=inClass (topS 37) 0
abbrev N_Number_init:List Str:=["self","whole"]
theorem sc_Number_init:FnScope N_Number_init ["self","whole"] (defScope s_Number_init):=⟨rfl,rfl,rfl,by decide +kernel,rfl,by decide +kernel,by decide +kernel⟩
abbrev s_Name_init:Stmt:=inClass (topS 38) 0
abbrev N_Name_init:List Str:=["self","word"]
theorem sc_Name_init:FnScope N_Name_init ["self","word"] (defScope s_Name_init):=⟨rfl,rfl,rfl,by decide +kernel,rfl,by decide +kernel,by decide +kernel⟩
abbrev s_Power_init:Stmt:=inClass (topS 42) 0
abbrev N_Power_init:List Str:=["self","base","exponent"]
theorem sc_Power_init:FnScope N_Power_init ["self","base","exponent"] (defScope s_Power_init):=⟨rfl,rfl,rfl,by decide +kernel,rfl,by decide +kernel,by decide +kernel⟩
abbrev s_Less_init:Stmt:=inClass (topS 43) 0
abbrev N_Less_init:List Str:=["self","inner"]
theorem sc_Less_init:FnScope N_Less_init ["self","inner"] (defScope s_Less_init):=⟨rfl,rfl,rfl,by decide +kernel,rfl,by decide +kernel,by decide +kernel⟩
abbrev s_law_kinds:Stmt:=topS 76
abbrev N_law_kinds:List Str:=["_law_caught","_law_some","_law_k"]
theorem sc_law_kinds:FnScope N_law_kinds ["_law_caught"] (defScope s_law_kinds):=⟨rfl,rfl,rfl,by decide +kernel,rfl,by decide +kernel,by decide +kernel⟩
abbrev s_Number_shown:Stmt:=inClass (topS 37) 5
abbrev N_Number_shown:List Str:=["self"]
theorem sc_Number_shown:FnScope N_Number_shown ["self"] (defScope s_Number_shown):=⟨rfl,rfl,rfl,by decide +kernel,rfl,by decide +kernel,by decide +kernel⟩
abbrev s_Name_shown:Stmt:=inClass (topS 38) 5
abbrev N_Name_shown:List Str:=["self"]
theorem sc_Name_shown:FnScope N_Name_shown ["self"] (defScope s_Name_shown):=⟨rfl,rfl,rfl,by decide +kernel,rfl,by decide +kernel,by decide +kernel⟩
abbrev s_Two_shown:Stmt:=inClass (topS 41) 6
abbrev N_Two_shown:List Str:=["self","first","rest","found","held","part"]
theorem sc_Two_shown:FnScope N_Two_shown ["self"] (defScope s_Two_shown):=⟨rfl,rfl,rfl,by decide +kernel,rfl,by decide +kernel,by decide +kernel⟩
abbrev s_Two_spine:Stmt:=inClass (topS 41) 2
abbrev N_Two_spine:List Str:=["self","found","part"]
theorem sc_Two_spine:FnScope N_Two_spine ["self"] (defScope s_Two_spine):=⟨rfl,rfl,rfl,by decide +kernel,rfl,by decide +kernel,by decide +kernel⟩
abbrev s_bracketed:Stmt:=topS 35
abbrev N_bracketed:List Str:=["part","least"]
theorem sc_bracketed:FnScope N_bracketed ["part","least"] (defScope s_bracketed):=⟨rfl,rfl,rfl,by decide +kernel,rfl,by decide +kernel,by decide +kernel⟩
abbrev s_Number_binds:Stmt:=inClass (topS 37) 1
abbrev N_Number_binds:List Str:=["self"]
theorem sc_Number_binds:FnScope N_Number_binds ["self"] (defScope s_Number_binds):=⟨rfl,rfl,rfl,by decide +kernel,rfl,by decide +kernel,by decide +kernel⟩
abbrev s_Name_binds:Stmt:=inClass (topS 38) 1
abbrev N_Name_binds:List Str:=["self"]
theorem sc_Name_binds:FnScope N_Name_binds ["self"] (defScope s_Name_binds):=⟨rfl,rfl,rfl,by decide +kernel,rfl,by decide +kernel,by decide +kernel⟩
abbrev s_Two_binds:Stmt:=inClass (topS 41) 1
abbrev N_Two_binds:List Str:=["self"]
theorem sc_Two_binds:FnScope N_Two_binds ["self"] (defScope s_Two_binds):=⟨rfl,rfl,rfl,by decide +kernel,rfl,by decide +kernel,by decide +kernel⟩
abbrev s_Power_binds:Stmt:=inClass (topS 42) 1
abbrev N_Power_binds:List Str:=["self"]
theorem sc_Power_binds:FnScope N_Power_binds ["self"] (defScope s_Power_binds):=⟨rfl,rfl,rfl,by decide +kernel,rfl,by decide +kernel,by decide +kernel⟩
abbrev s_Less_binds:Stmt:=inClass (topS 43) 1
abbrev N_Less_binds:List Str:=["self"]
theorem sc_Less_binds:FnScope N_Less_binds ["self"] (defScope s_Less_binds):=⟨rfl,rfl,rfl,by decide +kernel,rfl,by decide +kernel,by decide +kernel⟩
abbrev s_Power_shown:Stmt:=inClass (topS 42) 5
abbrev N_Power_shown:List Str:=["self"]
theorem sc_Power_shown:FnScope N_Power_shown ["self"] (defScope s_Power_shown):=⟨rfl,rfl,rfl,by decide +kernel,rfl,by decide +kernel,by decide +kernel⟩
abbrev s_Less_shown:Stmt:=inClass (topS 43) 6
abbrev N_Less_shown:List Str:=["self","part","many"]
theorem sc_Less_shown:FnScope N_Less_shown ["self"] (defScope s_Less_shown):=⟨rfl,rfl,rfl,by decide +kernel,rfl,by decide +kernel,by decide +kernel⟩
abbrev s_Less_core:Stmt:=inClass (topS 43) 2
abbrev N_Less_core:List Str:=["self","many","part"]
theorem sc_Less_core:FnScope N_Less_core ["self"] (defScope s_Less_core):=⟨rfl,rfl,rfl,by decide +kernel,rfl,by decide +kernel,by decide +kernel⟩
abbrev s_law_turned:Stmt:=topS 77
abbrev N_law_turned:List Str:=["_law_text_here","_law_numbers_here","_law_sign","_law_at","_law_far","_law_way","_law_some"]
theorem sc_law_turned:FnScope N_law_turned ["_law_text_here","_law_numbers_here"] (defScope s_law_turned):=⟨rfl,rfl,rfl,by decide +kernel,rfl,by decide +kernel,by decide +kernel⟩
abbrev s_law_bounds:Stmt:=topS 79
abbrev N_law_bounds:List Str:=["_law_number","_law_name","_law_many","_law_found","_law_row","_law_size","_law_left"]
theorem sc_law_bounds:FnScope N_law_bounds ["_law_number","_law_name"] (defScope s_law_bounds):=⟨rfl,rfl,rfl,by decide +kernel,rfl,by decide +kernel,by decide +kernel⟩
set_option genInjectivity false in
structure Txt (K:PySem.W.Frag) (mg:Str→Option Value) where
 a_law:Addr
 d_law:FuncData
 F_law:Fun K "law" "law" s_law a_law d_law
 g_law:mg "law" = some (.ref a_law)
 b_law:Binds K d_law ["_law_script"] []
 a_law_numbers:Addr
 d_law_numbers:FuncData
 F_law_numbers:Fun K "_law_numbers" "_law_numbers" s_law_numbers a_law_numbers d_law_numbers
 g_law_numbers:mg "_law_numbers" = some (.ref a_law_numbers)
 b_law_numbers:Binds K d_law_numbers ["_law_script","_law_k","_law_many"] []
 a_law_names:Addr
 d_law_names:FuncData
 F_law_names:Fun K "_law_names" "_law_names" s_law_names a_law_names d_law_names
 g_law_names:mg "_law_names" = some (.ref a_law_names)
 b_law_names:Binds K d_law_names ["_law_numbers_here"] []
 a_law_grown:Addr
 d_law_grown:FuncData
 F_law_grown:Fun K "_law_grown" "_law_grown" s_law_grown a_law_grown d_law_grown
 g_law_grown:mg "_law_grown" = some (.ref a_law_grown)
 b_law_grown:Binds K d_law_grown ["_law_numbers_here","_law_names_here","_law_most"] []
 a_law_step:Addr
 d_law_step:FuncData
 F_law_step:Fun K "_law_step" "_law_step" s_law_step a_law_step d_law_step
 g_law_step:mg "_law_step" = some (.ref a_law_step)
 b_law_step:Binds K d_law_step ["_law_stack","_law_number","_law_names_here","_law_most"] []
 a_law_joined:Addr
 d_law_joined:FuncData
 F_law_joined:Fun K "_law_joined" "_law_joined" s_law_joined a_law_joined d_law_joined
 g_law_joined:mg "_law_joined" = some (.ref a_law_joined)
 b_law_joined:Binds K d_law_joined ["_law_sign","_law_one","_law_other"] []
 a_law_fits:Addr
 d_law_fits:FuncData
 F_law_fits:Fun K "_law_fits" "_law_fits" s_law_fits a_law_fits d_law_fits
 g_law_fits:mg "_law_fits" = some (.ref a_law_fits)
 b_law_fits:Binds K d_law_fits ["_law_part","_law_most"] []
 a_law_leaf:Addr
 d_law_leaf:FuncData
 F_law_leaf:Fun K "_law_leaf" "_law_leaf" s_law_leaf a_law_leaf d_law_leaf
 g_law_leaf:mg "_law_leaf" = some (.ref a_law_leaf)
 b_law_leaf:Binds K d_law_leaf ["_law_number","_law_names_here"] []
 a_law_text:Addr
 d_law_text:FuncData
 F_law_text:Fun K "_law_text" "_law_text" s_law_text a_law_text d_law_text
 g_law_text:mg "_law_text" = some (.ref a_law_text)
 b_law_text:Binds K d_law_text ["_law_tree"] []
 a_law_inner:Addr
 d_law_inner:FuncData
 F_law_inner:Fun K "_law_inner" "_law_inner" s_law_inner a_law_inner d_law_inner
 g_law_inner:mg "_law_inner" = some (.ref a_law_inner)
 b_law_inner:Binds K d_law_inner ["_law_tree","_law_least"] []
 a_law_binds:Addr
 d_law_binds:FuncData
 F_law_binds:Fun K "_law_binds" "_law_binds" s_law_binds a_law_binds d_law_binds
 g_law_binds:mg "_law_binds" = some (.ref a_law_binds)
 b_law_binds:Binds K d_law_binds ["_law_tree"] []
 a_law_judged:Addr
 d_law_judged:FuncData
 F_law_judged:Fun K "_law_judged" "_law_judged" s_law_judged a_law_judged d_law_judged
 g_law_judged:mg "_law_judged" = some (.ref a_law_judged)
 b_law_judged:Binds K d_law_judged ["_law_text_here"] []
 a_law_tree_of:Addr
 d_law_tree_of:FuncData
 F_law_tree_of:Fun K "_law_tree_of" "_law_tree_of" s_law_tree_of a_law_tree_of d_law_tree_of
 g_law_tree_of:mg "_law_tree_of" = some (.ref a_law_tree_of)
 b_law_tree_of:Binds K d_law_tree_of ["_law_text_here"] []
 a_law_sum_at:Addr
 d_law_sum_at:FuncData
 F_law_sum_at:Fun K "_law_sum_at" "_law_sum_at" s_law_sum_at a_law_sum_at d_law_sum_at
 g_law_sum_at:mg "_law_sum_at" = some (.ref a_law_sum_at)
 b_law_sum_at:Binds K d_law_sum_at ["_law_text_here","_law_at","_law_deep"] []
 a_law_term_at:Addr
 d_law_term_at:FuncData
 F_law_term_at:Fun K "_law_term_at" "_law_term_at" s_law_term_at a_law_term_at d_law_term_at
 g_law_term_at:mg "_law_term_at" = some (.ref a_law_term_at)
 b_law_term_at:Binds K d_law_term_at ["_law_text_here","_law_at","_law_deep"] []
 a_law_factor_at:Addr
 d_law_factor_at:FuncData
 F_law_factor_at:Fun K "_law_factor_at" "_law_factor_at" s_law_factor_at a_law_factor_at d_law_factor_at
 g_law_factor_at:mg "_law_factor_at" = some (.ref a_law_factor_at)
 b_law_factor_at:Binds K d_law_factor_at ["_law_text_here","_law_at","_law_deep"] []
 a_law_run:Addr
 d_law_run:FuncData
 F_law_run:Fun K "_law_run" "_law_run" s_law_run a_law_run d_law_run
 g_law_run:mg "_law_run" = some (.ref a_law_run)
 b_law_run:Binds K d_law_run ["_law_text_here","_law_at","_law_signs"] []
 a_law_power_at:Addr
 d_law_power_at:FuncData
 F_law_power_at:Fun K "_law_power_at" "_law_power_at" s_law_power_at a_law_power_at d_law_power_at
 g_law_power_at:mg "_law_power_at" = some (.ref a_law_power_at)
 b_law_power_at:Binds K d_law_power_at ["_law_text_here","_law_at","_law_deep"] []
 a_law_atom_at:Addr
 d_law_atom_at:FuncData
 F_law_atom_at:Fun K "_law_atom_at" "_law_atom_at" s_law_atom_at a_law_atom_at d_law_atom_at
 g_law_atom_at:mg "_law_atom_at" = some (.ref a_law_atom_at)
 b_law_atom_at:Binds K d_law_atom_at ["_law_text_here","_law_at","_law_deep"] []
 a_read:Addr
 d_read:FuncData
 F_read:Fun K "read" "read" s_read a_read d_read
 g_read:mg "read" = some (.ref a_read)
 b_read:Binds K d_read ["text"] []
 a_sum_at:Addr
 d_sum_at:FuncData
 F_sum_at:Fun K "sum_at" "sum_at" s_sum_at a_sum_at d_sum_at
 g_sum_at:mg "sum_at" = some (.ref a_sum_at)
 b_sum_at:Binds K d_sum_at ["text","at","deep"] []
 a_row_at:Addr
 d_row_at:FuncData
 F_row_at:Fun K "row_at" "row_at" s_row_at a_row_at d_row_at
 g_row_at:mg "row_at" = some (.ref a_row_at)
 b_row_at:Binds K d_row_at ["text","at","deep","signs","reader"] []
 a_Two_init:Addr
 d_Two_init:FuncData
 F_Two_init:Fun K "__init__" "Two.__init__" s_Two_init a_Two_init d_Two_init
 b_Two_init:Binds K d_Two_init ["self","sign","left","right"] []
 a_term_at:Addr
 d_term_at:FuncData
 F_term_at:Fun K "term_at" "term_at" s_term_at a_term_at d_term_at
 g_term_at:mg "term_at" = some (.ref a_term_at)
 b_term_at:Binds K d_term_at ["text","at","deep"] []
 a_factor_at:Addr
 d_factor_at:FuncData
 F_factor_at:Fun K "factor_at" "factor_at" s_factor_at a_factor_at d_factor_at
 g_factor_at:mg "factor_at" = some (.ref a_factor_at)
 b_factor_at:Binds K d_factor_at ["text","at","deep"] []
 a_power_at:Addr
 d_power_at:FuncData
 F_power_at:Fun K "power_at" "power_at" s_power_at a_power_at d_power_at
 g_power_at:mg "power_at" = some (.ref a_power_at)
 b_power_at:Binds K d_power_at ["text","at","deep"] []
 a_atom_at:Addr
 d_atom_at:FuncData
 F_atom_at:Fun K "atom_at" "atom_at" s_atom_at a_atom_at d_atom_at
 g_atom_at:mg "atom_at" = some (.ref a_atom_at)
 b_atom_at:Binds K d_atom_at ["text","at","deep"] []
 a_whole_at:Addr
 d_whole_at:FuncData
 F_whole_at:Fun K "whole_at" "whole_at" s_whole_at a_whole_at d_whole_at
 g_whole_at:mg "whole_at" = some (.ref a_whole_at)
 b_whole_at:Binds K d_whole_at ["text","at","most"] []
 a_run_of:Addr
 d_run_of:FuncData
 F_run_of:Fun K "run_of" "run_of" s_run_of a_run_of d_run_of
 g_run_of:mg "run_of" = some (.ref a_run_of)
 b_run_of:Binds K d_run_of ["text","at","signs","most"] []
 a_Number_init:Addr
 d_Number_init:FuncData
 F_Number_init:Fun K "__init__" "Number.__init__" s_Number_init a_Number_init d_Number_init
 b_Number_init:Binds K d_Number_init ["self","whole"] []
 a_Name_init:Addr
 d_Name_init:FuncData
 F_Name_init:Fun K "__init__" "Name.__init__" s_Name_init a_Name_init d_Name_init
 b_Name_init:Binds K d_Name_init ["self","word"] []
 a_Power_init:Addr
 d_Power_init:FuncData
 F_Power_init:Fun K "__init__" "Power.__init__" s_Power_init a_Power_init d_Power_init
 b_Power_init:Binds K d_Power_init ["self","base","exponent"] []
 a_Less_init:Addr
 d_Less_init:FuncData
 F_Less_init:Fun K "__init__" "Less.__init__" s_Less_init a_Less_init d_Less_init
 b_Less_init:Binds K d_Less_init ["self","inner"] []
 a_law_kinds:Addr
 d_law_kinds:FuncData
 F_law_kinds:Fun K "_law_kinds" "_law_kinds" s_law_kinds a_law_kinds d_law_kinds
 g_law_kinds:mg "_law_kinds" = some (.ref a_law_kinds)
 b_law_kinds:Binds K d_law_kinds ["_law_caught"] []
 a_Number_shown:Addr
 d_Number_shown:FuncData
 F_Number_shown:Fun K "shown" "Number.shown" s_Number_shown a_Number_shown d_Number_shown
 b_Number_shown:Binds K d_Number_shown ["self"] []
 a_Name_shown:Addr
 d_Name_shown:FuncData
 F_Name_shown:Fun K "shown" "Name.shown" s_Name_shown a_Name_shown d_Name_shown
 b_Name_shown:Binds K d_Name_shown ["self"] []
 a_Two_shown:Addr
 d_Two_shown:FuncData
 F_Two_shown:Fun K "shown" "Two.shown" s_Two_shown a_Two_shown d_Two_shown
 b_Two_shown:Binds K d_Two_shown ["self"] []
 a_Two_spine:Addr
 d_Two_spine:FuncData
 F_Two_spine:Fun K "spine" "Two.spine" s_Two_spine a_Two_spine d_Two_spine
 b_Two_spine:Binds K d_Two_spine ["self"] []
 a_bracketed:Addr
 d_bracketed:FuncData
 F_bracketed:Fun K "bracketed" "bracketed" s_bracketed a_bracketed d_bracketed
 g_bracketed:mg "bracketed" = some (.ref a_bracketed)
 b_bracketed:Binds K d_bracketed ["part","least"] []
 a_Number_binds:Addr
 d_Number_binds:FuncData
 F_Number_binds:Fun K "binds" "Number.binds" s_Number_binds a_Number_binds d_Number_binds
 b_Number_binds:Binds K d_Number_binds ["self"] []
 a_Name_binds:Addr
 d_Name_binds:FuncData
 F_Name_binds:Fun K "binds" "Name.binds" s_Name_binds a_Name_binds d_Name_binds
 b_Name_binds:Binds K d_Name_binds ["self"] []
 a_Two_binds:Addr
 d_Two_binds:FuncData
 F_Two_binds:Fun K "binds" "Two.binds" s_Two_binds a_Two_binds d_Two_binds
 b_Two_binds:Binds K d_Two_binds ["self"] []
 a_Power_binds:Addr
 d_Power_binds:FuncData
 F_Power_binds:Fun K "binds" "Power.binds" s_Power_binds a_Power_binds d_Power_binds
 b_Power_binds:Binds K d_Power_binds ["self"] []
 a_Less_binds:Addr
 d_Less_binds:FuncData
 F_Less_binds:Fun K "binds" "Less.binds" s_Less_binds a_Less_binds d_Less_binds
 b_Less_binds:Binds K d_Less_binds ["self"] []
 a_Power_shown:Addr
 d_Power_shown:FuncData
 F_Power_shown:Fun K "shown" "Power.shown" s_Power_shown a_Power_shown d_Power_shown
 b_Power_shown:Binds K d_Power_shown ["self"] []
 a_Less_shown:Addr
 d_Less_shown:FuncData
 F_Less_shown:Fun K "shown" "Less.shown" s_Less_shown a_Less_shown d_Less_shown
 b_Less_shown:Binds K d_Less_shown ["self"] []
 a_Less_core:Addr
 d_Less_core:FuncData
 F_Less_core:Fun K "core" "Less.core" s_Less_core a_Less_core d_Less_core
 b_Less_core:Binds K d_Less_core ["self"] []
 a_law_turned:Addr
 d_law_turned:FuncData
 F_law_turned:Fun K "_law_turned" "_law_turned" s_law_turned a_law_turned d_law_turned
 g_law_turned:mg "_law_turned" = some (.ref a_law_turned)
 b_law_turned:Binds K d_law_turned ["_law_text_here","_law_numbers_here"] []
 a_law_bounds:Addr
 d_law_bounds:FuncData
 F_law_bounds:Fun K "_law_bounds" "_law_bounds" s_law_bounds a_law_bounds d_law_bounds
 g_law_bounds:mg "_law_bounds" = some (.ref a_law_bounds)
 b_law_bounds:Binds K d_law_bounds ["_law_number","_law_name"] []
 C:ExA
 Y:ExC
 x:ExK K Y
 g_Number:mg "Number" = some (.ref Y.Number)
 mk_Number:Mk K Y.Number a_Number_init
 g_Name:mg "Name" = some (.ref Y.Name)
 mk_Name:Mk K Y.Name a_Name_init
 g_Two:mg "Two" = some (.ref Y.Two)
 mk_Two:Mk K Y.Two a_Two_init
 g_Power:mg "Power" = some (.ref Y.Power)
 mk_Power:Mk K Y.Power a_Power_init
 g_Less:mg "Less" = some (.ref Y.Less)
 mk_Less:Mk K Y.Less a_Less_init
 m_Number_shown:Meth K Y.Number "shown" a_Number_shown
 m_Name_shown:Meth K Y.Name "shown" a_Name_shown
 m_Two_shown:Meth K Y.Two "shown" a_Two_shown
 m_Two_spine:Meth K Y.Two "spine" a_Two_spine
 m_Number_binds:Meth K Y.Number "binds" a_Number_binds
 m_Name_binds:Meth K Y.Name "binds" a_Name_binds
 m_Two_binds:Meth K Y.Two "binds" a_Two_binds
 m_Power_binds:Meth K Y.Power "binds" a_Power_binds
 m_Less_binds:Meth K Y.Less "binds" a_Less_binds
 m_Power_shown:Meth K Y.Power "shown" a_Power_shown
 m_Less_shown:Meth K Y.Less "shown" a_Less_shown
 m_Less_core:Meth K Y.Less "core" a_Less_core
 g_HouseError:mg "HouseError" = some (.ref C.HouseError)
 g_NoNumber:mg "NoNumber" = some (.ref C.NoNumber)
 g_NoRow:mg "NoRow" = some (.ref C.NoRow)
 g_NoValue:mg "NoValue" = some (.ref C.NoValue)
 g_NoText:mg "NoText" = some (.ref C.NoText)
 g_NoRoot:mg "NoRoot" = some (.ref C.NoRoot)
 g_TooFar:mg "TooFar" = some (.ref C.TooFar)
 g_NoLine:mg "NoLine" = some (.ref C.NoLine)
 x_NoText:PySem.W.excIn K C.NoText [.type "ValueError",.type "Exception",.type "BaseException",.type "object"] "ValueError.__new__" = true
 k_NoText:PySem.W.keepIn K (.ref C.NoText)=true
 s_NoText:PySem.W.subIn K (.ref C.NoText) (.type "BaseException")=some true
 t_NoText:PySem.W.typeIn K (.ref C.NoText)=some (.type "type")
 e_NoText:ExD K C C.NoText 3
 kh_NoText:PySem.W.kitOne K (.ref C.NoText) (.ref C.HouseError)=some true
 c_ATOM:∃ u,mg "ATOM" = some u∧RelV (.int 4) u
 c_DEEP:∃ u,mg "DEEP" = some u∧RelV (.int 30) u
 c_FACTOR:∃ u,mg "FACTOR" = some u∧RelV (.int 2) u
 c_FIGURES:∃ u,mg "FIGURES" = some u∧RelV (.str "0123456789") u
 c_LETTERS:∃ u,mg "LETTERS" = some u∧RelV (.str "abcdefghijklmnopqrstuvwxyz") u
 c_POWER:∃ u,mg "POWER" = some u∧RelV (.int 3) u
 c_SIGNS:∃ u,mg "SIGNS" = some u∧RelV (.int 1000) u
 c_SUM:∃ u,mg "SUM" = some u∧RelV (.int 0) u
 c_TERM:∃ u,mg "TERM" = some u∧RelV (.int 1) u
 n_ValueError:mg "ValueError" = none
 n_abs:mg "abs" = none
 n_int:mg "int" = none
 n_isinstance:mg "isinstance" = none
 n_len:mg "len" = none
 n_max:mg "max" = none
 n_range:mg "range" = none
 n_str:mg "str" = none
section
variable {P:Program} {w:World} {K:PySem.W.Frag} {mg:Str→Option Value} {base:Heap}
theorem ok_law_numbers (T:Txt K mg):FnOk P w K mg base CX0 1 T.a_law_numbers T.d_law_numbers ["_law_script","_law_k","_law_many"] (sp_law_numbers K):=by
 refine T.F_law_numbers.ok sc_law_numbers (fun vs H Q E h=>len_N (E:=E) (fun _=>rfl) h) (fun cdv A outer s H vs Q E hr h=>⟨t_law_numbers K,?_,body_N (E:=E) 5 (fun a ha=>by obtain ⟨s,x,y,_⟩:=a;obtain ⟨k,n,hk,hn,hl⟩:=ha;dsimp only at hk hn hl;subst hk;subst hn;exact rd_law_numbers K s k n hl) (fun _=>rfl) h⟩)
 exact pss_cons (ps_set (i:=3) sc_law_numbers.nd rfl (Or.inl rfl) pe_int) (pss_cons (ps_if (pt_cmpR op_lt (pv 1) (pe_callB call_len_seq (by rfl) T.n_len (by decide +kernel) (pa_cons (pv 0) pa_nil)) (nomark _)) (pss_one (ps_set (i:=3) sc_law_numbers.nd rfl (Or.inl rfl) (pe_ix ix_list (pv 0) (pv 1) (fun _ _=>rfl)))) pss_nil) (pss_cons (ps_set (i:=4) sc_law_numbers.nd rfl (Or.inl rfl) pe_int) (pss_cons (ps_if (PW.pt (pw_or (pt_cmpR op_lt (pv 3) pe_int (nomark _)) (pw_or1 (pt_cmpR op_ge (pv 3) (pe_op op_pow pe_int pe_int) (nomark _))))) (pss_one (ps_set (i:=4) sc_law_numbers.nd rfl (Or.inl rfl) (pe_callB call_abs (by rfl) T.n_abs (by decide +kernel) (pa_cons (pv 3) pa_nil)))) pss_nil) (pss_cons (ps_set (i:=5) sc_law_numbers.nd rfl (Or.inl rfl) (pe_op op_mod (pv 3) pe_int)) (pss_cons (ps_set (i:=6) sc_law_numbers.nd rfl (Or.inl rfl) (pe_lst pa_nil)) (pss_cons (ps_for (by first | exact PassesOwn.never | exact PassesOwn.leaving) rfl (pi_range1 rfl T.n_range (pa_cons (pv 2) pa_nil)) (pg_name (i:=7) sc_law_numbers.nd rfl (Or.inl rfl)) (pss_cons (ps_set (i:=5) sc_law_numbers.nd rfl (Or.inl rfl) (pe_op op_mod (pe_op op_add (pe_op op_add (pe_op op_mulX (pv 5) pe_int) (pe_op op_mulX (pe_op op_mulX pe_int (pv 7)) (pv 7))) pe_int) pe_int)) (pss_one (ps_if (pt_cmpR op_gt (pv 4) pe_int (nomark _)) (pss_cons (ps_expr (pe_bm PySem.F.plainAttrs_list PySem.F.slot_list_append PySem.F.type_list_append mt_append (pv 6) (pa_cons (pe_op op_mod (pv 4) (pe_op op_pow pe_int pe_int)) pa_nil))) (pss_one (ps_set (i:=4) sc_law_numbers.nd rfl (Or.inl rfl) (pe_op op_fdivX (pv 4) (pe_op op_pow pe_int pe_int))))) (pss_one (ps_expr (pe_bm PySem.F.plainAttrs_list PySem.F.slot_list_append PySem.F.type_list_append mt_append (pv 6) (pa_cons (pe_op op_mod (pe_op op_mod (pe_op op_mulX (pv 5) pe_int) pe_int) (pe_op op_pow pe_int pe_int)) pa_nil)))))))) (pss_one (ps_ret (pv 6)))))))))
theorem ok_law_names (T:Txt K mg):FnOk P w K mg base CX0 1 T.a_law_names T.d_law_names ["_law_numbers_here"] (sp_law_names K):=by
 refine T.F_law_names.ok sc_law_names (fun vs H Q E h=>len_N (E:=E) (fun _=>rfl) h) (fun cdv A outer s H vs Q E hr h=>⟨t_law_names K,?_,body_N (E:=E) 6 (fun a ha=>rd_law_names K a.1 ha.1 ha.2) (fun _=>rfl) h⟩)
 exact pss_cons (ps_set (i:=1) sc_law_names.nd rfl (Or.inl rfl) (pe_str)) (pss_cons (ps_set (i:=2) sc_law_names.nd rfl (Or.inl rfl) (pe_lst pa_nil)) (pss_cons (ps_for (by first | exact PassesOwn.never | exact PassesOwn.leaving) rfl (pi_list (pv 0)) (pg_name (i:=3) sc_law_names.nd rfl (Or.inl rfl)) (pss_cons (ps_set (i:=4) sc_law_names.nd rfl (Or.inl rfl) (pe_str)) (pss_cons (ps_for (by first | exact PassesOwn.never | exact PassesOwn.leaving) rfl (pi_list (pe_lst (pa_cons pe_int (pa_cons pe_int (pa_cons pe_int pa_nil))))) (pg_name (i:=5) sc_law_names.nd rfl (Or.inl rfl)) (pss_one (ps_set (i:=4) sc_law_names.nd rfl (Or.inl rfl) (pe_op op_add_str (pv 4) (pe_ix ix_str (pv 1) (pe_op op_mod (pe_op op_fdivX (pv 3) (pv 5)) pe_int) (fun _ _=>rfl)))))) (pss_cons (ps_set (i:=4) sc_law_names.nd rfl (Or.inl rfl) (pe_slice sl_str (pe_op op_mulS (pv 4) pe_int) po_none (po_some (pe_op op_add pe_int (pe_op op_mod (pv 3) pe_int))))) (pss_cons (ps_set (i:=6) sc_law_names.nd rfl (Or.inl rfl) pe_int) (pss_cons (ps_while (by first | exact PassesOwn.never | exact PassesOwn.leaving) (pt_cmpR op_in_seq (pv 4) (pv 2) (by rfl)) (pss_cons (ps_set (i:=4) sc_law_names.nd rfl (Or.inl rfl) (pe_ix ix_str (pv 1) (pv 6) (fun _ _=>rfl))) (pss_one (ps_set (i:=6) sc_law_names.nd rfl (Or.inl rfl) (pe_op op_add (pv 6) pe_int))))) (pss_one (ps_expr (pe_bm PySem.F.plainAttrs_list PySem.F.slot_list_append PySem.F.type_list_append mt_append (pv 2) (pa_cons (pv 4) pa_nil)))))))))) (pss_one (ps_ret (pv 2)))))
theorem ok_law_joined (T:Txt K mg):FnOk P w K mg base CX0 1 T.a_law_joined T.d_law_joined ["_law_sign","_law_one","_law_other"] (sp_law_joined K):=by
 refine T.F_law_joined.ok sc_law_joined (fun vs H Q E h=>len_F (E:=E) (fun _=>rfl) h) (fun cdv A outer s H vs Q E hr h=>⟨t_law_joined K,?_,body_F (E:=E) 1 (fun a ha=>by obtain ⟨t,x,y,_⟩:=a;obtain ⟨s,hs,h⟩:=ha;dsimp only at hs;subst hs;exact rd_law_joined K s x y h) (fun _=>rfl) h⟩)
 exact pss_cons (ps_if (PW.pt (pw_or (pt_cmpR op_eq (pv 0) (pe_str) (nomark _)) (pw_or1 (pt_cmpR op_eq (pv 0) (pe_str) (nomark _))))) (pss_cons (ps_set (i:=3) sc_law_joined.nd rfl (Or.inl rfl) (pe_callB (call_max2 rfl) (by rfl) T.n_max (by decide +kernel) (pa_cons (pe_op op_add (pe_ix ix_tup (pv 1) pe_int (fun _ _=>rfl)) (pe_ix ix_tup (pv 2) pe_int (fun _ _=>rfl))) (pa_cons (pe_op op_add (pe_ix ix_tup (pv 2) pe_int (fun _ _=>rfl)) (pe_ix ix_tup (pv 1) pe_int (fun _ _=>rfl))) pa_nil)))) (pss_one (ps_ret (pe_tup (pa_cons (pe_tup (pa_cons (pv 0) (pa_cons (pe_ix ix_tup (pv 1) pe_int (fun _ _=>rfl)) (pa_cons (pe_ix ix_tup (pv 2) pe_int (fun _ _=>rfl)) pa_nil)))) (pa_cons (pv 3) (pa_cons (pe_op op_add (pe_ix ix_tup (pv 1) pe_int (fun _ _=>rfl)) (pe_ix ix_tup (pv 2) pe_int (fun _ _=>rfl))) (pa_cons (pe_op op_add (pe_op op_add (pe_ix ix_tup (pv 1) pe_int (fun _ _=>rfl)) (pe_ix ix_tup (pv 2) pe_int (fun _ _=>rfl))) pe_int) pa_nil)))))))) pss_nil) (pss_cons (ps_if (pt_cmpR op_eq (pv 0) (pe_str) (nomark _)) (pss_one (ps_ret (pe_tup (pa_cons (pe_tup (pa_cons (pv 0) (pa_cons (pe_ix ix_tup (pv 1) pe_int (fun _ _=>rfl)) (pa_cons (pe_ix ix_tup (pv 2) pe_int (fun _ _=>rfl)) pa_nil)))) (pa_cons (pe_op op_add (pe_ix ix_tup (pv 1) pe_int (fun _ _=>rfl)) (pe_ix ix_tup (pv 2) pe_int (fun _ _=>rfl))) (pa_cons (pe_op op_add (pe_ix ix_tup (pv 1) pe_int (fun _ _=>rfl)) (pe_ix ix_tup (pv 2) pe_int (fun _ _=>rfl))) (pa_cons (pe_op op_add (pe_ix ix_tup (pv 1) pe_int (fun _ _=>rfl)) (pe_ix ix_tup (pv 2) pe_int (fun _ _=>rfl))) pa_nil))))))) pss_nil) (pss_one (ps_ret (pe_tup (pa_cons (pe_tup (pa_cons (pv 0) (pa_cons (pe_ix ix_tup (pv 1) pe_int (fun _ _=>rfl)) (pa_cons (pe_ix ix_tup (pv 2) pe_int (fun _ _=>rfl)) pa_nil)))) (pa_cons (pe_op op_add (pe_ix ix_tup (pv 1) pe_int (fun _ _=>rfl)) (pe_ix ix_tup (pv 2) pe_int (fun _ _=>rfl))) (pa_cons (pe_op op_add (pe_ix ix_tup (pv 1) pe_int (fun _ _=>rfl)) (pe_ix ix_tup (pv 2) pe_int (fun _ _=>rfl))) (pa_cons (pe_op op_add (pe_ix ix_tup (pv 1) pe_int (fun _ _=>rfl)) (pe_ix ix_tup (pv 2) pe_int (fun _ _=>rfl))) pa_nil))))))))
theorem ok_law_fits (T:Txt K mg):FnOk P w K mg base CX0 1 T.a_law_fits T.d_law_fits ["_law_part","_law_most"] (sp_law_fits K):=by
 refine T.F_law_fits.ok sc_law_fits (fun vs H Q E h=>len_F (E:=E) (fun _=>rfl) h) (fun cdv A outer s H vs Q E hr h=>⟨t_law_fits K,?_,body_F (E:=E) 0 (fun a ha=>rd_law_fits K a.1 a.2.1) (fun _=>rfl) h⟩)
 exact pss_one (ps_ret (pe_and (pe_cmpR op_le (pe_callB (call_max2 rfl) (by rfl) T.n_max (by decide +kernel) (pa_cons (pe_ix ix_tup (pv 0) pe_int (fun _ _=>rfl)) (pa_cons (pe_ix ix_tup (pv 0) pe_int (fun _ _=>rfl)) pa_nil))) (pv 1) (nomark _)) (pe_one (pe_cmpR op_le (pe_ix ix_tup (pv 0) pe_int (fun _ _=>rfl)) pe_int (nomark _)))))
theorem ok_law_leaf (T:Txt K mg):FnOk P w K mg base CX0 1 T.a_law_leaf T.d_law_leaf ["_law_number","_law_names_here"] (sp_law_leaf K):=by
 refine T.F_law_leaf.ok sc_law_leaf (fun vs H Q E h=>len_F (E:=E) (fun _=>rfl) h) (fun cdv A outer s H vs Q E hr h=>⟨t_law_leaf K,?_,body_F (E:=E) 1 (fun a ha=>rd_law_leaf K a.1 a.2.1 ha.1 ha.2) (fun _=>rfl) h⟩)
 exact pss_cons (ps_if (PW.pt (pw_and (pt_cmpR op_lt (pe_op op_mod (pv 0) pe_int) pe_int (nomark _)) (pw_and1 (pt_cmpR (op_neNil hr.units) (pv 1) (pe_lst pa_nil) (nomark _))))) (pss_one (ps_ret (pe_tup (pa_cons (pe_tup (pa_cons (pe_str) (pa_cons (pe_ix ix_list (pv 1) (pe_op op_modN (pe_op op_fdiv (pv 0) pe_int) (pe_callB call_len_seq (by rfl) T.n_len (by decide +kernel) (pa_cons (pv 1) pa_nil))) (fun _ _=>rfl)) pa_nil))) (pa_cons pe_int (pa_cons pe_int (pa_cons pe_int pa_nil))))))) pss_nil) (pss_cons (ps_if (PW.pt (pw_and (pt_cmpR op_eq (pe_op op_mod (pv 0) pe_int) pe_int (nomark _)) (pw_and1 (pt_cmpR op_eq (pe_op op_mod (pe_op op_fdiv (pv 0) pe_int) pe_int) pe_int (nomark _))))) (pss_cons (ps_set (i:=2) sc_law_leaf.nd rfl (Or.inl rfl) (pe_op op_add (pe_op op_mulX (pe_op op_add (pv 0) pe_int) (pe_op op_pow pe_int pe_int)) (pe_op op_mulX (pv 0) pe_int))) (pss_one (ps_ret (pe_tup (pa_cons (pe_tup (pa_cons (pe_str) (pa_cons (pv 2) pa_nil))) (pa_cons pe_int (pa_cons pe_int (pa_cons pe_int pa_nil)))))))) pss_nil) (pss_one (ps_ret (pe_tup (pa_cons (pe_tup (pa_cons (pe_str) (pa_cons (pe_op op_modN (pe_op op_fdiv (pv 0) pe_int) (pe_ix ix_list (pe_lst (pa_cons pe_int (pa_cons pe_int (pa_cons pe_int pa_nil)))) (pe_op op_mod (pe_op op_fdiv (pv 0) pe_int) pe_int) (fun _ _=>rfl))) pa_nil))) (pa_cons pe_int (pa_cons pe_int (pa_cons pe_int pa_nil))))))))
theorem ok_law_step (T:Txt K mg):FnOk P w K mg base CX0 2 T.a_law_step T.d_law_step ["_law_stack","_law_number","_law_names_here","_law_most"] (sp_law_step K):=by
 refine T.F_law_step.ok sc_law_step (fun vs H Q E h=>len_N (E:=E) (fun _=>rfl) h) (fun cdv A outer s H vs Q E hr h=>⟨t_law_step K,?_,body_N (E:=E) 8 (fun a ha=>rd_law_step K a.1 a.2.1 a.2.2.1 a.2.2.2.1 ha.1 ha.2.1 ha.2.2.1 ha.2.2.2) (fun _=>rfl) h⟩)
 exact pss_cons (ps_set (i:=4) sc_law_step.nd rfl (Or.inl rfl) (pe_op op_mod (pv 1) pe_int)) (pss_cons (ps_set (i:=5) sc_law_step.nd rfl (Or.inl rfl) (pe_op op_fdiv (pv 1) pe_int)) (pss_cons (ps_if (PW.pt (pw_and (pt_cmpR op_gt (pv 4) pe_int (nomark _)) (pw_and (pt_cmpR op_lt (pv 4) pe_int (nomark _)) (pw_and1 (pt_cmpR op_gt (pe_callB call_len_seq (by rfl) T.n_len (by decide +kernel) (pa_cons (pv 0) pa_nil)) pe_int (nomark _)))))) (pss_cons (ps_set (i:=6) sc_law_step.nd rfl (Or.inl rfl) (pe_call (ok_law_joined T) (hr.mono (by decide)) (by rfl) T.g_law_joined T.F_law_joined.kp T.b_law_joined .nil pass0 (pa_cons (pe_ix ix_str (pe_str) (pe_op op_mod (pv 5) pe_int) (fun _ _=>rfl)) (pa_cons (pe_ix ix_list (pv 0) (pe_un un_neg pe_int) (fun _ _=>rfl)) (pa_cons (pe_ix ix_list (pv 0) (pe_un un_neg pe_int) (fun _ _=>rfl)) pa_nil))))) (pss_one (ps_if (pt_val (pe_call (ok_law_fits T) (hr.mono (by decide)) (by rfl) T.g_law_fits T.F_law_fits.kp T.b_law_fits .nil pass0 (pa_cons (pv 6) (pa_cons (pv 3) pa_nil)))) (pss_one (ps_ret (pe_op op_catL (pe_slice sl_list (pv 0) po_none (po_some (pe_un un_neg pe_int))) (pe_lst (pa_cons (pv 6) pa_nil))))) pss_nil))) pss_nil) (pss_cons (ps_if (PW.pt (pw_and (pt_cmpR op_eq (pv 4) pe_int (nomark _)) (pw_and1 (pt_cmpR (op_neNil hr.units) (pv 0) (pe_lst pa_nil) (nomark _))))) (pss_cons (ps_asg (pe_ix ix_list (pv 0) (pe_un un_neg pe_int) (fun _ _=>rfl)) (pg_tup rfl (pgs_cons (pg_name (i:=7) sc_law_step.nd rfl (Or.inl rfl)) (pgs_cons (pg_name (i:=8) sc_law_step.nd rfl (Or.inl rfl)) (pgs_cons (pg_name (i:=9) sc_law_step.nd rfl (Or.inl rfl)) (pgs_cons (pg_name (i:=10) sc_law_step.nd rfl (Or.inl rfl)) (pgs_nil))))))) (pss_cons (ps_set (i:=11) sc_law_step.nd rfl (Or.inl rfl) (pe_ix ix_list (pe_lst (pa_cons pe_int (pa_cons pe_int (pa_cons pe_int (pa_cons pe_int (pa_cons (pe_op op_mod (pe_op op_fdiv (pv 5) pe_int) pe_int) pa_nil)))))) (pe_op op_mod (pv 5) pe_int) (fun _ _=>rfl))) (pss_cons (ps_set (i:=6) sc_law_step.nd rfl (Or.inl rfl) (pe_tup (pa_cons (pe_tup (pa_cons (pe_str) (pa_cons (pv 7) (pa_cons (pv 11) pa_nil)))) (pa_cons (pe_op op_mulX (pv 8) (pv 11)) (pa_cons (pe_op op_mulX (pv 9) (pv 11)) (pa_cons (pe_op op_mulX (pv 10) (pe_callB (call_max2 rfl) (by rfl) T.n_max (by decide +kernel) (pa_cons pe_int (pa_cons (pv 11) pa_nil)))) pa_nil)))))) (pss_one (ps_if (pt_val (pe_call (ok_law_fits T) (hr.mono (by decide)) (by rfl) T.g_law_fits T.F_law_fits.kp T.b_law_fits .nil pass0 (pa_cons (pv 6) (pa_cons (pv 3) pa_nil)))) (pss_one (ps_ret (pe_op op_catL (pe_slice sl_list (pv 0) po_none (po_some (pe_un un_neg pe_int))) (pe_lst (pa_cons (pv 6) pa_nil))))) pss_nil))))) pss_nil) (pss_cons (ps_if (PW.pt (pw_and (pt_cmpR op_eq (pv 4) pe_int (nomark _)) (pw_and1 (pt_cmpR (op_neNil hr.units) (pv 0) (pe_lst pa_nil) (nomark _))))) (pss_one (ps_ret (pe_op op_catL (pe_slice sl_list (pv 0) po_none (po_some (pe_un un_neg pe_int))) (pe_lst (pa_cons (pe_op op_catT (pe_tup (pa_cons (pe_tup (pa_cons (pe_str) (pa_cons (pe_ix ix_tup (pe_ix ix_list (pv 0) (pe_un un_neg pe_int) (fun _ _=>rfl)) pe_int (fun _ _=>rfl)) pa_nil))) pa_nil)) (pe_slice sl_tup (pe_ix ix_list (pv 0) (pe_un un_neg pe_int) (fun _ _=>rfl)) (po_some pe_int) po_none)) pa_nil))))) pss_nil) (pss_one (ps_ret (pe_op op_catL (pv 0) (pe_lst (pa_cons (pe_call (ok_law_leaf T) (hr.mono (by decide)) (by rfl) T.g_law_leaf T.F_law_leaf.kp T.b_law_leaf .nil pass0 (pa_cons (pv 5) (pa_cons (pv 2) pa_nil))) pa_nil)))))))))
theorem ok_law_grown (T:Txt K mg):FnOk P w K mg base CX0 3 T.a_law_grown T.d_law_grown ["_law_numbers_here","_law_names_here","_law_most"] (sp_law_grown K):=by
 refine T.F_law_grown.ok sc_law_grown (fun vs H Q E h=>len_F (E:=E) (fun _=>rfl) h) (fun cdv A outer s H vs Q E hr h=>⟨t_law_grown K,?_,body_F (E:=E) 5 (fun a ha=>rd_law_grown K a.1 a.2.1 a.2.2.1 ha.1.1 ha.1.2.1 ha.1.2.2 ha.2.1 ha.2.2.1 ha.2.2.2.1 ha.2.2.2.2) (fun _=>rfl) h⟩)
 exact pss_cons (ps_set (i:=3) sc_law_grown.nd rfl (Or.inl rfl) (pe_lst pa_nil)) (pss_cons (ps_for (by first | exact PassesOwn.never | exact PassesOwn.leaving) rfl (pi_list (pv 0)) (pg_name (i:=4) sc_law_grown.nd rfl (Or.inl rfl)) (pss_one (ps_set (i:=3) sc_law_grown.nd rfl (Or.inl rfl) (pe_call (ok_law_step T) (hr.mono (by decide)) (by rfl) T.g_law_step T.F_law_step.kp T.b_law_step .nil pass0 (pa_cons (pv 3) (pa_cons (pv 4) (pa_cons (pv 1) (pa_cons (pv 2) pa_nil)))))))) (pss_cons (ps_set (i:=5) sc_law_grown.nd rfl (Or.inl rfl) (pe_ix ix_list (pv 3) pe_int (fun _ _=>rfl))) (pss_cons (ps_for (by first | exact PassesOwn.never | exact PassesOwn.leaving) rfl (pi_range2 rfl T.n_range (pa_cons pe_int (pa_cons (pe_callB call_len_seq (by rfl) T.n_len (by decide +kernel) (pa_cons (pv 3) pa_nil)) pa_nil))) (pg_name (i:=6) sc_law_grown.nd rfl (Or.inl rfl)) (pss_cons (ps_set (i:=7) sc_law_grown.nd rfl (Or.inl rfl) (pe_call (ok_law_joined T) (hr.mono (by decide)) (by rfl) T.g_law_joined T.F_law_joined.kp T.b_law_joined .nil pass0 (pa_cons (pe_ix ix_str (pe_str) (pe_op op_mod (pe_op op_add (pe_callB call_len_seq (by rfl) T.n_len (by decide +kernel) (pa_cons (pv 0) pa_nil)) (pv 6)) pe_int) (fun _ _=>rfl)) (pa_cons (pv 5) (pa_cons (pe_ix ix_list (pv 3) (pv 6) (fun _ _=>rfl)) pa_nil))))) (pss_one (ps_if (pt_val (pe_call (ok_law_fits T) (hr.mono (by decide)) (by rfl) T.g_law_fits T.F_law_fits.kp T.b_law_fits .nil pass0 (pa_cons (pv 7) (pa_cons (pv 2) pa_nil)))) (pss_one (ps_set (i:=5) sc_law_grown.nd rfl (Or.inl rfl) (pv 7))) pss_nil)))) (pss_one (ps_ret (pe_ix ix_tup (pv 5) pe_int (fun _ _=>rfl)))))))
theorem ok_law_binds (T:Txt K mg):FnOk P w K mg base CX0 1 T.a_law_binds T.d_law_binds ["_law_tree"] (sp_law_binds K):=by
 refine T.F_law_binds.ok sc_law_binds (fun vs H Q E h=>len_F (E:=E) (fun _=>rfl) h) (fun cdv A outer s H vs Q E hr h=>⟨t_law_binds K,?_,body_F (E:=E) 0 (fun a ha=>rd_law_binds K a.1 ha) (fun _=>rfl) h⟩)
 exact pss_cons (ps_if (PW.pt (pw_or (pt_cmpR op_eq (pe_ix ix_tup (pv 0) pe_int (fun _ _=>rfl)) (pe_str) (nomark _)) (pw_or1 (pt_cmpR op_eq (pe_ix ix_tup (pv 0) pe_int (fun _ _=>rfl)) (pe_str) (nomark _))))) (pss_one (ps_ret pe_int)) pss_nil) (pss_cons (ps_if (PW.pt (pw_or (pt_cmpR op_eq (pe_ix ix_tup (pv 0) pe_int (fun _ _=>rfl)) (pe_str) (nomark _)) (pw_or1 (pt_cmpR op_eq (pe_ix ix_tup (pv 0) pe_int (fun _ _=>rfl)) (pe_str) (nomark _))))) (pss_one (ps_ret pe_int)) pss_nil) (pss_one (ps_ret (pe_dget (hu_of hr) (pe_disp (pps_cons (pe_str) pe_int (pps_cons (pe_str) pe_int (pps_cons (pe_str) pe_int (pps_cons (pe_str) pe_int (pps_nil))))) (by rfl) (by rfl) (fun z=>by cases z) (by decide)) (pe_ix ix_tup (pv 0) pe_int (fun _ _=>rfl)) (fun _ _=>rfl)))))
theorem okg_ltext (T:Txt K mg) (n:Nat):FnOkD P w K mg base CX0 (2*n+1) 2 T.a_law_text T.d_law_text ["_law_tree"] (sp_law_text K n):=by
 induction n with
 | zero =>
  refine Pw.fun_okD T.F_law_text sc_law_text (fun vs H Q E h=>len_F (E:=E) (fun _=>rfl) h) (fun cdv A outer s H vs Q E hr h=>⟨_,pss_never,?_⟩)
  obtain ⟨F,a,_,_,hp,_⟩:=h
  have:=hp.1;omega
 | succ n ih =>
  have h2:FnOkD P w K mg base CX0 (2*n+1+1) 2 T.a_law_inner T.d_law_inner ["_law_tree","_law_least"] (sp_law_inner K n):=by
   refine Pw.fun_okD T.F_law_inner sc_law_inner (fun vs H Q E h=>len_F (E:=E) (fun _=>rfl) h) (fun cdv A outer s H vs Q E hrD h=>⟨t_law_inner K n,?_,body_F (E:=E) 0 (fun a ha=>by obtain ⟨e,z,_⟩:=a;obtain ⟨h1,h2,h3,l,hl⟩:=ha;dsimp only at h1 h2 h3 hl;subst hl;exact rd_law_inner K n e l h1 h2 h3) (fun _=>rfl) h⟩)
   have hr:=hrD.room
   exact pss_cons (ps_if (pt_cmpR op_lt (pe_call (ok_law_binds T) (hr.mono (by omega)) (by rfl) T.g_law_binds T.F_law_binds.kp T.b_law_binds .nil pass0 (pa_cons (pv 0) pa_nil)) (pv 1) (nomark _)) (pss_one (ps_ret (pe_op op_add_str (pe_op op_add_str (pe_str) (pe_callD ih hrD (by rfl) T.g_law_text T.F_law_text.kp T.b_law_text .nil pass0 (pa_cons (pv 0) pa_nil))) (pe_str)))) pss_nil) (pss_one (ps_ret (pe_callD ih hrD (by rfl) T.g_law_text T.F_law_text.kp T.b_law_text .nil pass0 (pa_cons (pv 0) pa_nil))))
  refine Pw.fun_okD T.F_law_text sc_law_text (fun vs H Q E h=>len_F (E:=E) (fun _=>rfl) h) (fun cdv A outer s H vs Q E hrD h=>⟨t_law_text K n,?_,body_F (E:=E) 1 (fun a ha=>by obtain ⟨e,_⟩:=a;obtain ⟨h1,h2,h3⟩:=ha;exact rd_law_text K n e h1 h2 h3) (fun _=>rfl) h⟩)
  have hr:=hrD.room
  exact pss_cons (ps_if (PW.pt (pw_or (pt_cmpR op_eq (pe_ix ix_tup (pv 0) pe_int (fun _ _=>rfl)) (pe_str) (nomark _)) (pw_or1 (pt_cmpR op_eq (pe_ix ix_tup (pv 0) pe_int (fun _ _=>rfl)) (pe_str) (nomark _))))) (pss_one (ps_ret (pe_callTy call_strB (by rfl) T.n_str (by decide +kernel) (pa_cons (pe_ix ix_tup (pv 0) pe_int (fun _ _=>rfl)) pa_nil)))) pss_nil) (pss_cons (ps_if (pt_cmpR op_eq (pe_ix ix_tup (pv 0) pe_int (fun _ _=>rfl)) (pe_str) (nomark _)) (pss_one (ps_ret (pe_op op_add_str (pe_str) (pe_callD h2 hrD (by rfl) T.g_law_inner T.F_law_inner.kp T.b_law_inner .nil pass0 (pa_cons (pe_ix ix_tup (pv 0) pe_int (fun _ _=>rfl)) (pa_cons pe_int pa_nil)))))) pss_nil) (pss_cons (ps_if (pt_cmpR op_eq (pe_ix ix_tup (pv 0) pe_int (fun _ _=>rfl)) (pe_str) (nomark _)) (pss_one (ps_ret (pe_op op_add_str (pe_op op_add_str (pe_callD h2 hrD (by rfl) T.g_law_inner T.F_law_inner.kp T.b_law_inner .nil pass0 (pa_cons (pe_ix ix_tup (pv 0) pe_int (fun _ _=>rfl)) (pa_cons pe_int pa_nil))) (pe_str)) (pe_callTy call_str_int (by rfl) T.n_str (by decide +kernel) (pa_cons (pe_ix ix_tup (pv 0) pe_int (fun _ _=>rfl)) pa_nil))))) pss_nil) (pss_cons (ps_set (i:=1) sc_law_text.nd rfl (Or.inl rfl) (pe_call (ok_law_binds T) (hr.mono (by omega)) (by rfl) T.g_law_binds T.F_law_binds.kp T.b_law_binds .nil pass0 (pa_cons (pv 0) pa_nil))) (pss_one (ps_ret (pe_op op_add_str (pe_op op_add_str (pe_op op_add_str (pe_op op_add_str (pe_callD h2 hrD (by rfl) T.g_law_inner T.F_law_inner.kp T.b_law_inner .nil pass0 (pa_cons (pe_ix ix_tup (pv 0) pe_int (fun _ _=>rfl)) (pa_cons (pv 1) pa_nil))) (pe_str)) (pe_ix ix_tup (pv 0) pe_int (fun _ _=>rfl))) (pe_str)) (pe_callD h2 hrD (by rfl) T.g_law_inner T.F_law_inner.kp T.b_law_inner .nil pass0 (pa_cons (pe_ix ix_tup (pv 0) pe_int (fun _ _=>rfl)) (pa_cons (pe_op op_add (pv 1) pe_int) pa_nil)))))))))
theorem ok_law_run (T:Txt K mg):FnOk P w K mg base CX0 1 T.a_law_run T.d_law_run ["_law_text_here","_law_at","_law_signs"] (sp_law_run K):=by
 refine T.F_law_run.ok sc_law_run (fun vs H Q E h=>len_F (E:=E) (fun _=>rfl) h) (fun cdv A outer s H vs Q E hr h=>⟨t_law_run K,?_,body_F (E:=E) 1 (fun a ha=>by obtain ⟨t,z,sg,_⟩:=a;obtain ⟨n,hn,h1,h2⟩:=ha;dsimp only at hn h1 h2;subst hn;exact rd_law_run K t sg n h1 h2) (fun _=>rfl) h⟩)
 exact pss_cons (ps_set (i:=3) sc_law_run.nd rfl (Or.inl rfl) (pv 1)) (pss_cons (ps_while (by first | exact PassesOwn.never | exact PassesOwn.leaving) (PW.pt (pw_and (pt_cmpR op_lt (pv 3) (pe_callB call_len_str (by rfl) T.n_len (by decide +kernel) (pa_cons (pv 0) pa_nil)) (nomark _)) (pw_and1 (pt_cmpR op_in_sign (pe_ix ix_str (pv 0) (pv 3) (fun _ _=>rfl)) (pv 2) (by rfl))))) (pss_one (ps_set (i:=3) sc_law_run.nd rfl (Or.inl rfl) (pe_op op_add (pv 3) pe_int)))) (pss_one (ps_ret (pe_slice sl_str (pv 0) (po_some (pv 1)) (po_some (pv 3))))))
theorem ok_lread (T:Txt K mg):∀ r:Nat,r≤30→FnOk P w K mg base CX0 (5*r+6) T.a_law_sum_at T.d_law_sum_at ["_law_text_here","_law_at","_law_deep"] (sp_lr K (lS r) r):=by
 have atom0:FnOk P w K mg base CX0 (5*0+2) T.a_law_atom_at T.d_law_atom_at ["_law_text_here","_law_at","_law_deep"] (sp_lr K (latom (lsub 0)) 0):=by
  refine T.F_law_atom_at.ok sc_law_atom_at (fun vs H Q E h=>len_F (E:=E) (fun _=>rfl) h) (fun cdv A outer s H vs Q E hr h=>⟨t_law_atom_at0 K,?_,body_F (E:=E) 2 (fun a ha=>by obtain ⟨text,z,d,_⟩:=a;obtain ⟨n,hn,hd,h1,h2⟩:=ha;dsimp only at hn hd h1 h2;subst hn;subst hd;exact rd_law_atom_at0 K text n h1 h2) (fun _=>rfl) h⟩)
  exact pss_cons (ps_if (pt_cmpR op_eq (pe_slice sl_str (pv 0) (po_some (pv 1)) (po_some (pe_op op_add (pv 1) pe_int))) (pe_str) (nomark _)) (pss_cons (ps_if (pt_cmpR op_gt (pv 2) pe_int (nomark _)) (pss_one (ps_ret (pe_tup (pa_cons pe_non (pa_cons (pv 1) pa_nil))))) pss_nil) (pss_cons (ps_never) (pss_cons (ps_if (pt_cmpR op_ne (pe_slice sl_str (pv 0) (po_some (pv 1)) (po_some (pe_op op_add (pv 1) pe_int))) (pe_str) (nomark _)) (pss_one (ps_ret (pe_tup (pa_cons pe_non (pa_cons (pv 1) pa_nil))))) pss_nil) (pss_one (ps_ret (pe_tup (pa_cons (pv 3) (pa_cons (pe_op op_add (pv 1) pe_int) pa_nil)))))))) pss_nil) (pss_cons (ps_set (i:=4) sc_law_atom_at.nd rfl (Or.inl rfl) (pe_call (ok_law_run T) (hr.mono (by omega)) (by rfl) T.g_law_run T.F_law_run.kp T.b_law_run .nil pass0 (pa_cons (pv 0) (pa_cons (pv 1) (pa_cons (pe_str) pa_nil))))) (pss_cons (ps_if (pt_cmpR op_ne (pv 4) (pe_str) (nomark _)) (pss_cons (ps_if (PW.pt (pw_or (pt_cmpR op_gt (pe_callB call_len_str (by rfl) T.n_len (by decide +kernel) (pa_cons (pv 4) pa_nil)) pe_int (nomark _)) (pw_or1 (PW.pt (pw_and (pt_cmpR op_eq (pe_ix ix_str (pv 4) pe_int (fun _ _=>rfl)) (pe_str) (nomark _)) (pw_and1 (pt_cmpR op_ne (pv 4) (pe_str) (nomark _)))))))) (pss_one (ps_ret (pe_tup (pa_cons pe_non (pa_cons (pv 1) pa_nil))))) pss_nil) (pss_one (ps_ret (pe_tup (pa_cons (pe_tup (pa_cons (pe_str) (pa_cons (pe_callTy call_int_str (by rfl) T.n_int (by decide +kernel) (pa_cons (pv 4) pa_nil)) pa_nil))) (pa_cons (pe_op op_add (pv 1) (pe_callB call_len_str (by rfl) T.n_len (by decide +kernel) (pa_cons (pv 4) pa_nil))) pa_nil)))))) pss_nil) (pss_cons (ps_set (i:=4) sc_law_atom_at.nd rfl (Or.inl rfl) (pe_call (ok_law_run T) (hr.mono (by omega)) (by rfl) T.g_law_run T.F_law_run.kp T.b_law_run .nil pass0 (pa_cons (pv 0) (pa_cons (pv 1) (pa_cons (pe_str) pa_nil))))) (pss_cons (ps_if (PW.pt (pw_or (pt_cmpR op_eq (pv 4) (pe_str) (nomark _)) (pw_or1 (pt_cmpR op_gt (pe_callB call_len_str (by rfl) T.n_len (by decide +kernel) (pa_cons (pv 4) pa_nil)) pe_int (nomark _))))) (pss_one (ps_ret (pe_tup (pa_cons pe_non (pa_cons (pv 1) pa_nil))))) pss_nil) (pss_one (ps_ret (pe_tup (pa_cons (pe_tup (pa_cons (pe_str) (pa_cons (pv 4) pa_nil))) (pa_cons (pe_op op_add (pv 1) (pe_callB call_len_str (by rfl) T.n_len (by decide +kernel) (pa_cons (pv 4) pa_nil))) pa_nil)))))))))
 have atomS:∀ r,r < 30→FnOk P w K mg base CX0 (5*r+6) T.a_law_sum_at T.d_law_sum_at ["_law_text_here","_law_at","_law_deep"] (sp_lr K (lS r) r)→FnOk P w K mg base CX0 (5*(r+1)+2) T.a_law_atom_at T.d_law_atom_at ["_law_text_here","_law_at","_law_deep"] (sp_lr K (latom (lsub (r+1))) (r+1)):=by
  intro r hr30 hs
  refine T.F_law_atom_at.ok sc_law_atom_at (fun vs H Q E h=>len_F (E:=E) (fun _=>rfl) h) (fun cdv A outer s H vs Q E hr h=>⟨t_law_atom_at K r,?_,body_F (E:=E) 2 (fun a ha=>by obtain ⟨text,z,d,_⟩:=a;obtain ⟨n,hn,hd,h1,h2⟩:=ha;dsimp only at hn hd h1 h2;subst hn;subst hd;exact rd_law_atom_at K r hr30 text n h1 h2) (fun _=>rfl) h⟩)
  exact pss_cons (ps_if (pt_cmpR op_eq (pe_slice sl_str (pv 0) (po_some (pv 1)) (po_some (pe_op op_add (pv 1) pe_int))) (pe_str) (nomark _)) (pss_cons (ps_if (pt_cmpR op_gt (pv 2) pe_int (nomark _)) (pss_one (ps_ret (pe_tup (pa_cons pe_non (pa_cons (pv 1) pa_nil))))) pss_nil) (pss_cons (ps_asg (pe_call hs (hr.mono (by omega)) (by rfl) T.g_law_sum_at T.F_law_sum_at.kp T.b_law_sum_at .nil pass0 (pa_cons (pv 0) (pa_cons (pe_op op_add (pv 1) pe_int) (pa_cons (pe_op op_add (pv 2) pe_int) pa_nil)))) (pg_tup rfl (pgs_cons (pg_name (i:=3) sc_law_atom_at.nd rfl (Or.inl rfl)) (pgs_cons (pg_name (i:=1) sc_law_atom_at.nd rfl (Or.inl rfl)) (pgs_nil))))) (pss_cons (ps_if (pt_cmpR op_ne (pe_slice sl_str (pv 0) (po_some (pv 1)) (po_some (pe_op op_add (pv 1) pe_int))) (pe_str) (nomark _)) (pss_one (ps_ret (pe_tup (pa_cons pe_non (pa_cons (pv 1) pa_nil))))) pss_nil) (pss_one (ps_ret (pe_tup (pa_cons (pv 3) (pa_cons (pe_op op_add (pv 1) pe_int) pa_nil)))))))) pss_nil) (pss_cons (ps_set (i:=4) sc_law_atom_at.nd rfl (Or.inl rfl) (pe_call (ok_law_run T) (hr.mono (by omega)) (by rfl) T.g_law_run T.F_law_run.kp T.b_law_run .nil pass0 (pa_cons (pv 0) (pa_cons (pv 1) (pa_cons (pe_str) pa_nil))))) (pss_cons (ps_if (pt_cmpR op_ne (pv 4) (pe_str) (nomark _)) (pss_cons (ps_if (PW.pt (pw_or (pt_cmpR op_gt (pe_callB call_len_str (by rfl) T.n_len (by decide +kernel) (pa_cons (pv 4) pa_nil)) pe_int (nomark _)) (pw_or1 (PW.pt (pw_and (pt_cmpR op_eq (pe_ix ix_str (pv 4) pe_int (fun _ _=>rfl)) (pe_str) (nomark _)) (pw_and1 (pt_cmpR op_ne (pv 4) (pe_str) (nomark _)))))))) (pss_one (ps_ret (pe_tup (pa_cons pe_non (pa_cons (pv 1) pa_nil))))) pss_nil) (pss_one (ps_ret (pe_tup (pa_cons (pe_tup (pa_cons (pe_str) (pa_cons (pe_callTy call_int_str (by rfl) T.n_int (by decide +kernel) (pa_cons (pv 4) pa_nil)) pa_nil))) (pa_cons (pe_op op_add (pv 1) (pe_callB call_len_str (by rfl) T.n_len (by decide +kernel) (pa_cons (pv 4) pa_nil))) pa_nil)))))) pss_nil) (pss_cons (ps_set (i:=4) sc_law_atom_at.nd rfl (Or.inl rfl) (pe_call (ok_law_run T) (hr.mono (by omega)) (by rfl) T.g_law_run T.F_law_run.kp T.b_law_run .nil pass0 (pa_cons (pv 0) (pa_cons (pv 1) (pa_cons (pe_str) pa_nil))))) (pss_cons (ps_if (PW.pt (pw_or (pt_cmpR op_eq (pv 4) (pe_str) (nomark _)) (pw_or1 (pt_cmpR op_gt (pe_callB call_len_str (by rfl) T.n_len (by decide +kernel) (pa_cons (pv 4) pa_nil)) pe_int (nomark _))))) (pss_one (ps_ret (pe_tup (pa_cons pe_non (pa_cons (pv 1) pa_nil))))) pss_nil) (pss_one (ps_ret (pe_tup (pa_cons (pe_tup (pa_cons (pe_str) (pa_cons (pv 4) pa_nil))) (pa_cons (pe_op op_add (pv 1) (pe_callB call_len_str (by rfl) T.n_len (by decide +kernel) (pa_cons (pv 4) pa_nil))) pa_nil)))))))))
 have rest:∀ r,FnOk P w K mg base CX0 (5*r+2) T.a_law_atom_at T.d_law_atom_at ["_law_text_here","_law_at","_law_deep"] (sp_lr K (latom (lsub r)) r)→FnOk P w K mg base CX0 (5*r+6) T.a_law_sum_at T.d_law_sum_at ["_law_text_here","_law_at","_law_deep"] (sp_lr K (lS r) r):=by
  intro r ha
  have hp:FnOk P w K mg base CX0 (5*r+3) T.a_law_power_at T.d_law_power_at ["_law_text_here","_law_at","_law_deep"] (sp_lr K (lpower (lsub r)) r):=by
   refine T.F_law_power_at.ok sc_law_power_at (fun vs H Q E h=>len_F (E:=E) (fun _=>rfl) h) (fun cdv A outer s H vs Q E hr h=>⟨t_law_power_at K r,?_,body_F (E:=E) 2 (fun a ha=>by obtain ⟨text,z,d,_⟩:=a;obtain ⟨n,hn,hd,h1,h2⟩:=ha;dsimp only at hn hd h1 h2;subst hn;subst hd;exact rd_law_power_at K r text n h1 h2) (fun _=>rfl) h⟩)
   exact pss_cons (ps_asg (pe_call ha (hr.mono (by omega)) (by rfl) T.g_law_atom_at T.F_law_atom_at.kp T.b_law_atom_at .nil pass0 (pa_cons (pv 0) (pa_cons (pv 1) (pa_cons (pv 2) pa_nil)))) (pg_tup rfl (pgs_cons (pg_name (i:=3) sc_law_power_at.nd rfl (Or.inl rfl)) (pgs_cons (pg_name (i:=1) sc_law_power_at.nd rfl (Or.inl rfl)) (pgs_nil))))) (pss_cons (ps_if (PW.pt (pw_or (pt_cmpR op_isN (pv 3) pe_non (nomark _)) (pw_or1 (pt_cmpR op_ne (pe_slice sl_str (pv 0) (po_some (pv 1)) (po_some (pe_op op_add (pv 1) pe_int))) (pe_str) (nomark _))))) (pss_one (ps_ret (pe_tup (pa_cons (pv 3) (pa_cons (pv 1) pa_nil))))) pss_nil) (pss_cons (ps_set (i:=4) sc_law_power_at.nd rfl (Or.inl rfl) (pe_call (ok_law_run T) (hr.mono (by omega)) (by rfl) T.g_law_run T.F_law_run.kp T.b_law_run .nil pass0 (pa_cons (pv 0) (pa_cons (pe_op op_add (pv 1) pe_int) (pa_cons (pe_str) pa_nil))))) (pss_cons (ps_if (PW.pt (pw_or (pt_cmpR op_eq (pv 4) (pe_str) (nomark _)) (pw_or (pt_cmpR op_gt (pe_callB call_len_str (by rfl) T.n_len (by decide +kernel) (pa_cons (pv 4) pa_nil)) pe_int (nomark _)) (pw_or (PW.pt (pw_and (pt_cmpR op_eq (pe_ix ix_str (pv 4) pe_int (fun _ _=>rfl)) (pe_str) (nomark _)) (pw_and1 (pt_cmpR op_ne (pv 4) (pe_str) (nomark _))))) (pw_or1 (pt_cmpR op_gt (pe_callTy call_int_str (by rfl) T.n_int (by decide +kernel) (pa_cons (pv 4) pa_nil)) pe_int (nomark _))))))) (pss_one (ps_ret (pe_tup (pa_cons pe_non (pa_cons (pv 1) pa_nil))))) pss_nil) (pss_one (ps_ret (pe_tup (pa_cons (pe_tup (pa_cons (pe_str) (pa_cons (pv 3) (pa_cons (pe_callTy call_int_str (by rfl) T.n_int (by decide +kernel) (pa_cons (pv 4) pa_nil)) pa_nil)))) (pa_cons (pe_op op_add (pe_op op_add (pv 1) pe_int) (pe_callB call_len_str (by rfl) T.n_len (by decide +kernel) (pa_cons (pv 4) pa_nil))) pa_nil))))))))
  have hf:FnOk P w K mg base CX0 (5*r+4) T.a_law_factor_at T.d_law_factor_at ["_law_text_here","_law_at","_law_deep"] (sp_lr K (lfactor (lsub r)) r):=by
   refine T.F_law_factor_at.ok sc_law_factor_at (fun vs H Q E h=>len_F (E:=E) (fun _=>rfl) h) (fun cdv A outer s H vs Q E hr h=>⟨t_law_factor_at K r,?_,body_F (E:=E) 3 (fun a ha=>by obtain ⟨text,z,d,_⟩:=a;obtain ⟨n,hn,hd,h1,h2⟩:=ha;dsimp only at hn hd h1 h2;subst hn;subst hd;exact rd_law_factor_at K r text n h1 h2) (fun _=>rfl) h⟩)
   exact pss_cons (ps_set (i:=3) sc_law_factor_at.nd rfl (Or.inl rfl) (pe_callB call_len_str (by rfl) T.n_len (by decide +kernel) (pa_cons (pe_call (ok_law_run T) (hr.mono (by omega)) (by rfl) T.g_law_run T.F_law_run.kp T.b_law_run .nil pass0 (pa_cons (pv 0) (pa_cons (pv 1) (pa_cons (pe_str) pa_nil)))) pa_nil))) (pss_cons (ps_asg (pe_call hp (hr.mono (by omega)) (by rfl) T.g_law_power_at T.F_law_power_at.kp T.b_law_power_at .nil pass0 (pa_cons (pv 0) (pa_cons (pe_op op_add (pv 1) (pv 3)) (pa_cons (pv 2) pa_nil)))) (pg_tup rfl (pgs_cons (pg_name (i:=4) sc_law_factor_at.nd rfl (Or.inl rfl)) (pgs_cons (pg_name (i:=1) sc_law_factor_at.nd rfl (Or.inl rfl)) (pgs_nil))))) (pss_cons (ps_if (PW.pt (pw_or (pt_cmpR op_isN (pv 4) pe_non (nomark _)) (pw_or1 (pt_cmpR op_gt (pv 3) pe_int (nomark _))))) (pss_one (ps_ret (pe_tup (pa_cons pe_non (pa_cons (pv 1) pa_nil))))) pss_nil) (pss_cons (ps_for (by first | exact PassesOwn.never | exact PassesOwn.leaving) rfl (pi_range1 rfl T.n_range (pa_cons (pv 3) pa_nil)) (pg_name (i:=5) sc_law_factor_at.nd rfl (Or.inl rfl)) (pss_one (ps_set (i:=4) sc_law_factor_at.nd rfl (Or.inl rfl) (pe_tup (pa_cons (pe_str) (pa_cons (pv 4) pa_nil)))))) (pss_one (ps_ret (pe_tup (pa_cons (pv 4) (pa_cons (pv 1) pa_nil))))))))
  have ht:FnOk P w K mg base CX0 (5*r+5) T.a_law_term_at T.d_law_term_at ["_law_text_here","_law_at","_law_deep"] (sp_lr K (lterm (lsub r)) r):=by
   refine T.F_law_term_at.ok sc_law_term_at (fun vs H Q E h=>len_F (E:=E) (fun _=>rfl) h) (fun cdv A outer s H vs Q E hr h=>⟨t_law_term_at K r,?_,body_F (E:=E) 3 (fun a ha=>by obtain ⟨text,z,d,_⟩:=a;obtain ⟨n,hn,hd,h1,h2⟩:=ha;dsimp only at hn hd h1 h2;subst hn;subst hd;exact rd_law_term_at K r text n h1 h2) (fun _=>rfl) h⟩)
   exact pss_cons (ps_asg (pe_call hf (hr.mono (by omega)) (by rfl) T.g_law_factor_at T.F_law_factor_at.kp T.b_law_factor_at .nil pass0 (pa_cons (pv 0) (pa_cons (pv 1) (pa_cons (pv 2) pa_nil)))) (pg_tup rfl (pgs_cons (pg_name (i:=3) sc_law_term_at.nd rfl (Or.inl rfl)) (pgs_cons (pg_name (i:=1) sc_law_term_at.nd rfl (Or.inl rfl)) (pgs_nil))))) (pss_cons (ps_while (by first | exact PassesOwn.never | exact PassesOwn.leaving) (PW.pt (pw_and (pt_cmpR op_notN (pv 3) pe_non (nomark _)) (pw_and1 (pt_cmpR op_in_seq (pe_slice sl_str (pv 0) (po_some (pv 1)) (po_some (pe_op op_add (pv 1) pe_int))) (pe_lst (pa_cons (pe_str) (pa_cons (pe_str) pa_nil))) (by rfl))))) (pss_cons (ps_set (i:=4) sc_law_term_at.nd rfl (Or.inl rfl) (pe_ix ix_str (pv 0) (pe_op op_add (pv 1) pe_int) (fun _ _=>rfl))) (pss_cons (ps_asg (pe_call hf (hr.mono (by omega)) (by rfl) T.g_law_factor_at T.F_law_factor_at.kp T.b_law_factor_at .nil pass0 (pa_cons (pv 0) (pa_cons (pe_op op_add (pv 1) pe_int) (pa_cons (pv 2) pa_nil)))) (pg_tup rfl (pgs_cons (pg_name (i:=5) sc_law_term_at.nd rfl (Or.inl rfl)) (pgs_cons (pg_name (i:=1) sc_law_term_at.nd rfl (Or.inl rfl)) (pgs_nil))))) (pss_cons (ps_if (pt_cmpR op_isN (pv 5) pe_non (nomark _)) (pss_one (ps_ret (pe_tup (pa_cons pe_non (pa_cons (pv 1) pa_nil))))) pss_nil) (pss_one (ps_set (i:=3) sc_law_term_at.nd rfl (Or.inl rfl) (pe_tup (pa_cons (pv 4) (pa_cons (pv 3) (pa_cons (pv 5) pa_nil)))))))))) (pss_one (ps_ret (pe_tup (pa_cons (pv 3) (pa_cons (pv 1) pa_nil))))))
  refine T.F_law_sum_at.ok sc_law_sum_at (fun vs H Q E h=>len_F (E:=E) (fun _=>rfl) h) (fun cdv A outer s H vs Q E hr h=>⟨t_law_sum_at K r,?_,body_F (E:=E) 3 (fun a ha=>by obtain ⟨text,z,d,_⟩:=a;obtain ⟨n,hn,hd,h1,h2⟩:=ha;dsimp only at hn hd h1 h2;subst hn;subst hd;exact rd_law_sum_at K r text n h1 h2) (fun _=>rfl) h⟩)
  exact pss_cons (ps_asg (pe_call ht (hr.mono (by omega)) (by rfl) T.g_law_term_at T.F_law_term_at.kp T.b_law_term_at .nil pass0 (pa_cons (pv 0) (pa_cons (pv 1) (pa_cons (pv 2) pa_nil)))) (pg_tup rfl (pgs_cons (pg_name (i:=3) sc_law_sum_at.nd rfl (Or.inl rfl)) (pgs_cons (pg_name (i:=1) sc_law_sum_at.nd rfl (Or.inl rfl)) (pgs_nil))))) (pss_cons (ps_while (by first | exact PassesOwn.never | exact PassesOwn.leaving) (PW.pt (pw_and (pt_cmpR op_notN (pv 3) pe_non (nomark _)) (pw_and1 (pt_cmpR op_in_seq (pe_slice sl_str (pv 0) (po_some (pv 1)) (po_some (pe_op op_add (pv 1) pe_int))) (pe_lst (pa_cons (pe_str) (pa_cons (pe_str) pa_nil))) (by rfl))))) (pss_cons (ps_set (i:=4) sc_law_sum_at.nd rfl (Or.inl rfl) (pe_ix ix_str (pv 0) (pe_op op_add (pv 1) pe_int) (fun _ _=>rfl))) (pss_cons (ps_asg (pe_call ht (hr.mono (by omega)) (by rfl) T.g_law_term_at T.F_law_term_at.kp T.b_law_term_at .nil pass0 (pa_cons (pv 0) (pa_cons (pe_op op_add (pv 1) pe_int) (pa_cons (pv 2) pa_nil)))) (pg_tup rfl (pgs_cons (pg_name (i:=5) sc_law_sum_at.nd rfl (Or.inl rfl)) (pgs_cons (pg_name (i:=1) sc_law_sum_at.nd rfl (Or.inl rfl)) (pgs_nil))))) (pss_cons (ps_if (pt_cmpR op_isN (pv 5) pe_non (nomark _)) (pss_one (ps_ret (pe_tup (pa_cons pe_non (pa_cons (pv 1) pa_nil))))) pss_nil) (pss_one (ps_set (i:=3) sc_law_sum_at.nd rfl (Or.inl rfl) (pe_tup (pa_cons (pv 4) (pa_cons (pv 3) (pa_cons (pv 5) pa_nil)))))))))) (pss_one (ps_ret (pe_tup (pa_cons (pv 3) (pa_cons (pv 1) pa_nil))))))
 intro r
 induction r with
 | zero=>exact fun _=>rest 0 atom0
 | succ r ih=>exact fun h=>rest (r+1) (atomS r (by omega) (ih (by omega)))
theorem ok_law_tree_of (T:Txt K mg):FnOk P w K mg base CX0 157 T.a_law_tree_of T.d_law_tree_of ["_law_text_here"] (sp_law_tree_of K):=by
 refine T.F_law_tree_of.ok sc_law_tree_of (fun vs H Q E h=>len_F (E:=E) (fun _=>rfl) h) (fun cdv A outer s H vs Q E hr h=>⟨t_law_tree_of K,?_,body_F (E:=E) 2 (fun a ha=>rd_law_tree_of K a.1 ha) (fun _=>rfl) h⟩)
 exact pss_cons (ps_if (pt_cmpR op_gt (pe_callB call_len_str (by rfl) T.n_len (by decide +kernel) (pa_cons (pv 0) pa_nil)) pe_int (nomark _)) (pss_one (ps_ret pe_non)) pss_nil) (pss_cons (ps_asg (pe_call (ok_lread T 30 (by decide)) (hr.mono (by decide)) (by rfl) T.g_law_sum_at T.F_law_sum_at.kp T.b_law_sum_at .nil pass0 (pa_cons (pv 0) (pa_cons pe_int (pa_cons pe_int pa_nil)))) (pg_tup rfl (pgs_cons (pg_name (i:=1) sc_law_tree_of.nd rfl (Or.inl rfl)) (pgs_cons (pg_name (i:=2) sc_law_tree_of.nd rfl (Or.inl rfl)) (pgs_nil))))) (pss_cons (ps_if (pt_cmpR op_ne (pv 2) (pe_callB call_len_str (by rfl) T.n_len (by decide +kernel) (pa_cons (pv 0) pa_nil)) (nomark _)) (pss_one (ps_ret pe_non)) pss_nil) (pss_one (ps_ret (pv 1)))))
theorem ok_Two_init (T:Txt K mg):FnOk P w K mg base CX0 1 T.a_Two_init T.d_Two_init ["self","sign","left","right"] (spIni T.Y.Two 3 mkTwo):=by
 refine T.F_Two_init.ok sc_Two_init (fun vs H Q E h=>len_Ini h) (fun cdv A outer s H vs Q E hr h=>⟨_,?_,ini3 T.x.cTwo.cl T.x.f_sign T.x.f_left T.x.f_right (fun _ _ _=>rfl) (by decide +kernel) (by decide +kernel) (by decide +kernel) rfl h⟩)
 exact pss_cons (ps_fld (pv 0) (pv 1) rfl) (pss_cons (ps_fld (pv 0) (pv 2) rfl) (pss_one (ps_fld (pv 0) (pv 3) rfl)))
theorem ok_Less_init (T:Txt K mg):FnOk P w K mg base CX0 1 T.a_Less_init T.d_Less_init ["self","inner"] (spIni T.Y.Less 1 mkLess):=by
 refine T.F_Less_init.ok sc_Less_init (fun vs H Q E h=>len_Ini h) (fun cdv A outer s H vs Q E hr h=>⟨_,?_,ini1 T.x.cLess.cl T.x.f_inner (fun _=>rfl) rfl h⟩)
 exact pss_one (ps_fld (pv 0) (pv 1) rfl)
theorem ok_run_of (T:Txt K mg):FnOk P w K mg base (L2.CX P w) 1 T.a_run_of T.d_run_of ["text","at","signs","most"] (sp_run_of K T.C):=by
 refine T.F_run_of.okX sc_run_of (fun vs H Q E h=>len_X (E:=E) (fun _=>rfl) h) (fun cdv A outer s H vs Q E hr h=>⟨t_run_of K T.C E,?_,body_X (E:=E) 1 (by exact fun a ha=>by obtain ⟨t,z,sg,y,_⟩:=a;obtain ⟨n,m,hn,hm,h1,h2⟩:=ha;dsimp only at hn hm h1 h2;subst hn;subst hm;exact rd_run_of K T.C E t sg n m h1 h2) (fun _=>rfl) h⟩)
 exact pss_cons (ps_set (i:=4) sc_run_of.nd rfl (Or.inl rfl) (pv 1)) (pss_cons (ps_while (by first | exact PassesOwn.never | exact PassesOwn.leaving) (PW.pt (pw_and (pt_cmpR op_lt (pv 4) (pe_callB call_len_str (by rfl) T.n_len (by decide +kernel) (pa_cons (pv 0) pa_nil)) (nomark _)) (pw_and1 (pt_cmpR op_in_sign (pe_ix ix_str (pv 0) (pv 4) (fun _ _=>rfl)) (pv 2) (by rfl))))) (pss_one (ps_set (i:=4) sc_run_of.nd rfl (Or.inl rfl) (pe_op op_add (pv 4) pe_int)))) (pss_cons (ps_if (PW.pt (pw_or (pt_cmpR op_eq (pv 4) (pv 1) (nomark _)) (pw_or1 (pt_cmpR op_gt (pe_op op_sub (pv 4) (pv 1)) (pv 3) (nomark _))))) (pss_one (ps_raise rfl (takes_of rfl rfl rfl rfl) (pmk_own PySem.F.excBase_ValueError T.x_NoText T.g_NoText T.k_NoText (raises_own T.s_NoText T.t_NoText) (by rfl)))) pss_nil) (pss_one (ps_ret (pe_slice sl_str (pv 0) (po_some (pv 1)) (po_some (pv 4)))))))
theorem ok_whole_at (T:Txt K mg):FnOk P w K mg base (L2.CX P w) 2 T.a_whole_at T.d_whole_at ["text","at","most"] (sp_whole_at K T.C):=by
 refine T.F_whole_at.okX sc_whole_at (fun vs H Q E h=>len_X (E:=E) (fun _=>rfl) h) (fun cdv A outer s H vs Q E hr h=>⟨t_whole_at K T.C E,?_,body_X (E:=E) 1 (by exact fun a ha=>by obtain ⟨t,z,y,_⟩:=a;obtain ⟨n,m,hn,hm,h1,h2⟩:=ha;dsimp only at hn hm h1 h2;subst hn;subst hm;exact rd_whole_at K T.C E t n m h1 h2) (fun _=>rfl) h⟩)
 exact pss_cons (ps_set (i:=3) sc_whole_at.nd rfl (Or.inl rfl) (pe_call (ok_run_of T) (hr.mono (by decide)) (by rfl) T.g_run_of T.F_run_of.kp T.b_run_of .nil (passX rfl rfl rfl rfl) (pa_cons (pv 0) (pa_cons (pv 1) (pa_cons (pe_gc (by rfl) T.c_FIGURES) (pa_cons (pv 2) pa_nil)))))) (pss_cons (ps_if (PW.pt (pw_and (pt_cmpR op_gt (pe_callB call_len_str (by rfl) T.n_len (by decide +kernel) (pa_cons (pv 3) pa_nil)) pe_int (nomark _)) (pw_and1 (pt_cmpR op_eq (pe_ix ix_str (pv 3) pe_int (fun _ _=>rfl)) (pe_str) (nomark _))))) (pss_one (ps_raise rfl (takes_of rfl rfl rfl rfl) (pmk_own PySem.F.excBase_ValueError T.x_NoText T.g_NoText T.k_NoText (raises_own T.s_NoText T.t_NoText) (by rfl)))) pss_nil) (pss_one (ps_ret (pv 3))))
theorem ok_Power_init (T:Txt K mg):FnOk P w K mg base CX0 1 T.a_Power_init T.d_Power_init ["self","base","exponent"] (spIni T.Y.Power 2 mkPow):=by
 refine T.F_Power_init.ok sc_Power_init (fun vs H Q E h=>len_Ini h) (fun cdv A outer s H vs Q E hr h=>⟨_,?_,ini2 T.x.cPower.cl T.x.f_base T.x.f_exponent (fun _ _=>rfl) (by decide +kernel) rfl h⟩)
 exact pss_cons (ps_fld (pv 0) (pv 1) rfl) (pss_one (ps_fld (pv 0) (pv 2) rfl))
theorem ok_Number_init (T:Txt K mg):FnOk P w K mg base CX0 1 T.a_Number_init T.d_Number_init ["self","whole"] (spIni T.Y.Number 1 mkNum):=by
 refine T.F_Number_init.ok sc_Number_init (fun vs H Q E h=>len_Ini h) (fun cdv A outer s H vs Q E hr h=>⟨_,?_,ini1 T.x.cNumber.cl T.x.f_whole (fun _=>rfl) rfl h⟩)
 exact pss_one (ps_fld (pv 0) (pv 1) rfl)
theorem ok_Name_init (T:Txt K mg):FnOk P w K mg base CX0 1 T.a_Name_init T.d_Name_init ["self","word"] (spIni T.Y.Name 1 mkName):=by
 refine T.F_Name_init.ok sc_Name_init (fun vs H Q E h=>len_Ini h) (fun cdv A outer s H vs Q E hr h=>⟨_,?_,ini1 T.x.cName.cl T.x.f_word (fun _=>rfl) rfl h⟩)
 exact pss_one (ps_fld (pv 0) (pv 1) rfl)
theorem ok_parse (T:Txt K mg) (r:Nat):FnOk P w K mg base (L2.CX P w) (7*r+9) T.a_sum_at T.d_sum_at ["text","at","deep"] (sp_rd K T.Y T.C (pS r) r):=by
 have atom0:FnOk P w K mg base (L2.CX P w) (7*0+3) T.a_atom_at T.d_atom_at ["text","at","deep"] (sp_rd K T.Y T.C (atomL (subL 0)) 0):=by
  refine T.F_atom_at.okX sc_atom_at (fun vs H Q E h=>len_X (E:=E) (fun _=>rfl) h) (fun cdv A outer s H vs Q E hr h=>⟨t_atom_at0 K T.C T.Y E,?_,body_X (E:=E) 4 (by exact fun a ha=>by obtain ⟨text,z,d,_⟩:=a;obtain ⟨n,hn,hd,h1,h2⟩:=ha;dsimp only at hn hd h1 h2;subst hn;subst hd;exact rd_atom_at0 K T.C T.Y E text n h1 h2) (fun _=>rfl) h⟩)
  exact pss_cons (ps_set (i:=3) sc_atom_at.nd rfl (Or.inl rfl) (pe_slice sl_str (pv 0) (po_some (pv 1)) (po_some (pe_op op_add (pv 1) pe_int)))) (pss_cons (ps_if (pt_cmpR op_eq (pv 3) (pe_str) (nomark _)) (pss_cons (ps_if (pt_cmpR op_eq (pv 2) (pe_gc (by rfl) T.c_DEEP) (nomark _)) (pss_one (ps_raise rfl (takes_of rfl rfl rfl rfl) (pmk_own PySem.F.excBase_ValueError T.x_NoText T.g_NoText T.k_NoText (raises_own T.s_NoText T.t_NoText) (by rfl)))) pss_nil) (pss_cons (ps_never) (pss_cons (ps_if (pt_cmpR op_ne (pe_slice sl_str (pv 0) (po_some (pv 1)) (po_some (pe_op op_add (pv 1) pe_int))) (pe_str) (nomark _)) (pss_one (ps_raise rfl (takes_of rfl rfl rfl rfl) (pmk_own PySem.F.excBase_ValueError T.x_NoText T.g_NoText T.k_NoText (raises_own T.s_NoText T.t_NoText) (by rfl)))) pss_nil) (pss_one (ps_ret (pe_tup (pa_cons (pv 4) (pa_cons (pe_op op_add (pv 1) pe_int) pa_nil)))))))) pss_nil) (pss_cons (ps_if (PW.pt (pw_and (pt_cmpR op_ne (pv 3) (pe_str) (nomark _)) (pw_and1 (pt_cmpR op_in_sign (pv 3) (pe_gc (by rfl) T.c_FIGURES) (by rfl))))) (pss_cons (ps_set (i:=5) sc_atom_at.nd rfl (Or.inl rfl) (pe_call (ok_whole_at T) (hr.mono (by omega)) (by rfl) T.g_whole_at T.F_whole_at.kp T.b_whole_at .nil (passX rfl rfl rfl rfl) (pa_cons (pv 0) (pa_cons (pv 1) (pa_cons pe_int pa_nil))))) (pss_one (ps_ret (pe_tup (pa_cons (pe_make T.mk_Number (ok_Number_init T) (hr.mono (by omega)) (by rfl) T.g_Number T.b_Number_init .nil pass0 (pa_cons (pe_callTy call_int_str (by rfl) T.n_int (by decide +kernel) (pa_cons (pv 5) pa_nil)) pa_nil)) (pa_cons (pe_op op_add (pv 1) (pe_callB call_len_str (by rfl) T.n_len (by decide +kernel) (pa_cons (pv 5) pa_nil))) pa_nil)))))) pss_nil) (pss_cons (ps_set (i:=6) sc_atom_at.nd rfl (Or.inl rfl) (pe_call (ok_run_of T) (hr.mono (by omega)) (by rfl) T.g_run_of T.F_run_of.kp T.b_run_of .nil (passX rfl rfl rfl rfl) (pa_cons (pv 0) (pa_cons (pv 1) (pa_cons (pe_gc (by rfl) T.c_LETTERS) (pa_cons pe_int pa_nil)))))) (pss_one (ps_ret (pe_tup (pa_cons (pe_make T.mk_Name (ok_Name_init T) (hr.mono (by omega)) (by rfl) T.g_Name T.b_Name_init .nil pass0 (pa_cons (pv 6) pa_nil)) (pa_cons (pe_op op_add (pv 1) (pe_callB call_len_str (by rfl) T.n_len (by decide +kernel) (pa_cons (pv 6) pa_nil))) pa_nil))))))))
 have atomS:∀ r,FnOk P w K mg base (L2.CX P w) (7*r+9) T.a_sum_at T.d_sum_at ["text","at","deep"] (sp_rd K T.Y T.C (pS r) r)→FnOk P w K mg base (L2.CX P w) (7*(r+1)+3) T.a_atom_at T.d_atom_at ["text","at","deep"] (sp_rd K T.Y T.C (atomL (subL (r+1))) (r+1)):=by
  intro r hs
  refine T.F_atom_at.okX sc_atom_at (fun vs H Q E h=>len_X (E:=E) (fun _=>rfl) h) (fun cdv A outer s H vs Q E hr h=>⟨t_atom_at K T.C T.Y r E,?_,body_X (E:=E) 4 (by exact fun a ha=>by obtain ⟨text,z,d,_⟩:=a;obtain ⟨n,hn,hd,h1,h2⟩:=ha;dsimp only at hn hd h1 h2;subst hn;subst hd;exact rd_atom_at K T.C T.Y r E text n h1 h2) (fun _=>rfl) h⟩)
  exact pss_cons (ps_set (i:=3) sc_atom_at.nd rfl (Or.inl rfl) (pe_slice sl_str (pv 0) (po_some (pv 1)) (po_some (pe_op op_add (pv 1) pe_int)))) (pss_cons (ps_if (pt_cmpR op_eq (pv 3) (pe_str) (nomark _)) (pss_cons (ps_if (pt_cmpR op_eq (pv 2) (pe_gc (by rfl) T.c_DEEP) (nomark _)) (pss_one (ps_raise rfl (takes_of rfl rfl rfl rfl) (pmk_own PySem.F.excBase_ValueError T.x_NoText T.g_NoText T.k_NoText (raises_own T.s_NoText T.t_NoText) (by rfl)))) pss_nil) (pss_cons (ps_asg (pe_call hs (hr.mono (by omega)) (by rfl) T.g_sum_at T.F_sum_at.kp T.b_sum_at .nil (passX rfl rfl rfl rfl) (pa_cons (pv 0) (pa_cons (pe_op op_add (pv 1) pe_int) (pa_cons (pe_op op_add (pv 2) pe_int) pa_nil)))) (pg_tup rfl (pgs_cons (pg_name (i:=4) sc_atom_at.nd rfl (Or.inl rfl)) (pgs_cons (pg_name (i:=1) sc_atom_at.nd rfl (Or.inl rfl)) (pgs_nil))))) (pss_cons (ps_if (pt_cmpR op_ne (pe_slice sl_str (pv 0) (po_some (pv 1)) (po_some (pe_op op_add (pv 1) pe_int))) (pe_str) (nomark _)) (pss_one (ps_raise rfl (takes_of rfl rfl rfl rfl) (pmk_own PySem.F.excBase_ValueError T.x_NoText T.g_NoText T.k_NoText (raises_own T.s_NoText T.t_NoText) (by rfl)))) pss_nil) (pss_one (ps_ret (pe_tup (pa_cons (pv 4) (pa_cons (pe_op op_add (pv 1) pe_int) pa_nil)))))))) pss_nil) (pss_cons (ps_if (PW.pt (pw_and (pt_cmpR op_ne (pv 3) (pe_str) (nomark _)) (pw_and1 (pt_cmpR op_in_sign (pv 3) (pe_gc (by rfl) T.c_FIGURES) (by rfl))))) (pss_cons (ps_set (i:=5) sc_atom_at.nd rfl (Or.inl rfl) (pe_call (ok_whole_at T) (hr.mono (by omega)) (by rfl) T.g_whole_at T.F_whole_at.kp T.b_whole_at .nil (passX rfl rfl rfl rfl) (pa_cons (pv 0) (pa_cons (pv 1) (pa_cons pe_int pa_nil))))) (pss_one (ps_ret (pe_tup (pa_cons (pe_make T.mk_Number (ok_Number_init T) (hr.mono (by omega)) (by rfl) T.g_Number T.b_Number_init .nil pass0 (pa_cons (pe_callTy call_int_str (by rfl) T.n_int (by decide +kernel) (pa_cons (pv 5) pa_nil)) pa_nil)) (pa_cons (pe_op op_add (pv 1) (pe_callB call_len_str (by rfl) T.n_len (by decide +kernel) (pa_cons (pv 5) pa_nil))) pa_nil)))))) pss_nil) (pss_cons (ps_set (i:=6) sc_atom_at.nd rfl (Or.inl rfl) (pe_call (ok_run_of T) (hr.mono (by omega)) (by rfl) T.g_run_of T.F_run_of.kp T.b_run_of .nil (passX rfl rfl rfl rfl) (pa_cons (pv 0) (pa_cons (pv 1) (pa_cons (pe_gc (by rfl) T.c_LETTERS) (pa_cons pe_int pa_nil)))))) (pss_one (ps_ret (pe_tup (pa_cons (pe_make T.mk_Name (ok_Name_init T) (hr.mono (by omega)) (by rfl) T.g_Name T.b_Name_init .nil pass0 (pa_cons (pv 6) pa_nil)) (pa_cons (pe_op op_add (pv 1) (pe_callB call_len_str (by rfl) T.n_len (by decide +kernel) (pa_cons (pv 6) pa_nil))) pa_nil))))))))
 have rowS:∀ (r:Nat) (f0:Addr) (fd0:FuncData) (p:Xp.Rd) (ss:List Nat) (k:Nat),Xp.Bd p→FnOk P w K mg base (L2.CX P w) k f0 fd0 ["text","at","deep"] (sp_rd K T.Y T.C p r)→PySem.W.keepIn K (.ref f0)=true→Binds K fd0 ["text","at","deep"] []→2≤k→FnOk P w K mg base (L2.CX P w) (k+1) T.a_row_at T.d_row_at ["text","at","deep","signs","reader"] (sp_row K T.Y T.C f0 ss p r):=by
  intro r f0 fd0 p ss k hp F0 k0 b0 hk
  refine T.F_row_at.okX sc_row_at (fun vs H Q E h=>len_X (E:=E) (fun _=>rfl) h) (fun cdv A outer s H vs Q E hr h=>⟨t_row_at K T.Y f0 (sp_rd K T.Y T.C p r) E,?_,body_X (E:=E) 3 (by exact fun a ha=>by obtain ⟨text,z,d,sg,u,_⟩:=a;obtain ⟨n,hn,hd,hs,h1,h2⟩:=ha;dsimp only at hn hd hs h1 h2;subst hn;subst hd;subst hs;exact rd_row_at K T.C T.Y f0 ss p hp r E text n h1 h2) (fun _=>rfl) h⟩)
  exact pss_cons (ps_asg (pe_callL F0 (hr.mono (by omega)) rfl (.inl rfl) k0 b0 .nil (passX rfl rfl rfl rfl) (pa_cons (pv 0) (pa_cons (pv 1) (pa_cons (pv 2) pa_nil)))) (pg_tup rfl (pgs_cons (pg_name (i:=5) sc_row_at.nd rfl (Or.inl rfl)) (pgs_cons (pg_name (i:=1) sc_row_at.nd rfl (Or.inl rfl)) (pgs_nil))))) (pss_cons (ps_while (by first | exact PassesOwn.never | exact PassesOwn.leaving) (PW.pt (pw_and (pt_cmpR op_eq (pe_slice sl_str (pv 0) (po_some (pv 1)) (po_some (pe_op op_add (pv 1) pe_int))) (pe_str) (nomark _)) (pw_and (pt_cmpR op_in_seq (pe_slice sl_str (pv 0) (po_some (pe_op op_add (pv 1) pe_int)) (po_some (pe_op op_add (pv 1) pe_int))) (pv 3) (by rfl)) (pw_and1 (pt_cmpR op_eq (pe_slice sl_str (pv 0) (po_some (pe_op op_add (pv 1) pe_int)) (po_some (pe_op op_add (pv 1) pe_int))) (pe_str) (nomark _)))))) (pss_cons (ps_set (i:=6) sc_row_at.nd rfl (Or.inl rfl) (pe_ix ix_str (pv 0) (pe_op op_add (pv 1) pe_int) (fun _ _=>rfl))) (pss_cons (ps_asg (pe_callL F0 (hr.mono (by omega)) rfl (.inl rfl) k0 b0 .nil (passX rfl rfl rfl rfl) (pa_cons (pv 0) (pa_cons (pe_op op_add (pv 1) pe_int) (pa_cons (pv 2) pa_nil)))) (pg_tup rfl (pgs_cons (pg_name (i:=7) sc_row_at.nd rfl (Or.inl rfl)) (pgs_cons (pg_name (i:=1) sc_row_at.nd rfl (Or.inl rfl)) (pgs_nil))))) (pss_one (ps_set (i:=5) sc_row_at.nd rfl (Or.inl rfl) (pe_make T.mk_Two (ok_Two_init T) (hr.mono (by omega)) (by rfl) T.g_Two T.b_Two_init .nil pass0 (pa_cons (pv 6) (pa_cons (pv 5) (pa_cons (pv 7) pa_nil))))))))) (pss_one (ps_ret (pe_tup (pa_cons (pv 5) (pa_cons (pv 1) pa_nil))))))
 have rest:∀ r,FnOk P w K mg base (L2.CX P w) (7*r+3) T.a_atom_at T.d_atom_at ["text","at","deep"] (sp_rd K T.Y T.C (atomL (subL r)) r)→FnOk P w K mg base (L2.CX P w) (7*r+9) T.a_sum_at T.d_sum_at ["text","at","deep"] (sp_rd K T.Y T.C (pS r) r):=by
  intro r ha
  have hp:FnOk P w K mg base (L2.CX P w) (7*r+4) T.a_power_at T.d_power_at ["text","at","deep"] (sp_rd K T.Y T.C (powerL (subL r)) r):=by
   refine T.F_power_at.okX sc_power_at (fun vs H Q E h=>len_X (E:=E) (fun _=>rfl) h) (fun cdv A outer s H vs Q E hr h=>⟨t_power_at K T.C T.Y r E,?_,body_X (E:=E) 2 (by exact fun a ha=>by obtain ⟨text,z,d,_⟩:=a;obtain ⟨n,hn,hd,h1,h2⟩:=ha;dsimp only at hn hd h1 h2;subst hn;subst hd;exact rd_power_at K T.C T.Y r E text n h1 h2) (fun _=>rfl) h⟩)
   exact pss_cons (ps_asg (pe_call ha (hr.mono (by omega)) (by rfl) T.g_atom_at T.F_atom_at.kp T.b_atom_at .nil (passX rfl rfl rfl rfl) (pa_cons (pv 0) (pa_cons (pv 1) (pa_cons (pv 2) pa_nil)))) (pg_tup rfl (pgs_cons (pg_name (i:=3) sc_power_at.nd rfl (Or.inl rfl)) (pgs_cons (pg_name (i:=1) sc_power_at.nd rfl (Or.inl rfl)) (pgs_nil))))) (pss_cons (ps_if (pt_cmpR op_ne (pe_slice sl_str (pv 0) (po_some (pv 1)) (po_some (pe_op op_add (pv 1) pe_int))) (pe_str) (nomark _)) (pss_one (ps_ret (pe_tup (pa_cons (pv 3) (pa_cons (pv 1) pa_nil))))) pss_nil) (pss_cons (ps_set (i:=4) sc_power_at.nd rfl (Or.inl rfl) (pe_call (ok_whole_at T) (hr.mono (by omega)) (by rfl) T.g_whole_at T.F_whole_at.kp T.b_whole_at .nil (passX rfl rfl rfl rfl) (pa_cons (pv 0) (pa_cons (pe_op op_add (pv 1) pe_int) (pa_cons pe_int pa_nil))))) (pss_cons (ps_if (pt_cmpR op_gt (pe_callTy call_int_str (by rfl) T.n_int (by decide +kernel) (pa_cons (pv 4) pa_nil)) pe_int (nomark _)) (pss_one (ps_raise rfl (takes_of rfl rfl rfl rfl) (pmk_own PySem.F.excBase_ValueError T.x_NoText T.g_NoText T.k_NoText (raises_own T.s_NoText T.t_NoText) (by rfl)))) pss_nil) (pss_one (ps_ret (pe_tup (pa_cons (pe_make T.mk_Power (ok_Power_init T) (hr.mono (by omega)) (by rfl) T.g_Power T.b_Power_init .nil pass0 (pa_cons (pv 3) (pa_cons (pe_callTy call_int_str (by rfl) T.n_int (by decide +kernel) (pa_cons (pv 4) pa_nil)) pa_nil))) (pa_cons (pe_op op_add (pe_op op_add (pv 1) pe_int) (pe_callB call_len_str (by rfl) T.n_len (by decide +kernel) (pa_cons (pv 4) pa_nil))) pa_nil))))))))
  have hf:FnOk P w K mg base (L2.CX P w) (7*r+5) T.a_factor_at T.d_factor_at ["text","at","deep"] (sp_rd K T.Y T.C (factorL (subL r)) r):=by
   refine T.F_factor_at.okX sc_factor_at (fun vs H Q E h=>len_X (E:=E) (fun _=>rfl) h) (fun cdv A outer s H vs Q E hr h=>⟨t_factor_at K T.C T.Y r E,?_,body_X (E:=E) 3 (by exact fun a ha=>by obtain ⟨text,z,d,_⟩:=a;obtain ⟨n,hn,hd,h1,h2⟩:=ha;dsimp only at hn hd h1 h2;subst hn;subst hd;exact rd_factor_at K T.C T.Y r E text n h1 h2) (fun _=>rfl) h⟩)
   exact pss_cons (ps_set (i:=3) sc_factor_at.nd rfl (Or.inl rfl) pe_int) (pss_cons (ps_while (by first | exact PassesOwn.never | exact PassesOwn.leaving) (pt_cmpR op_eq (pe_slice sl_str (pv 0) (po_some (pv 1)) (po_some (pe_op op_add (pv 1) pe_int))) (pe_str) (nomark _)) (pss_cons (ps_set (i:=3) sc_factor_at.nd rfl (Or.inl rfl) (pe_op op_add (pv 3) pe_int)) (pss_one (ps_set (i:=1) sc_factor_at.nd rfl (Or.inl rfl) (pe_op op_add (pv 1) pe_int))))) (pss_cons (ps_if (pt_cmpR op_gt (pv 3) (pe_gc (by rfl) T.c_DEEP) (nomark _)) (pss_one (ps_raise rfl (takes_of rfl rfl rfl rfl) (pmk_own PySem.F.excBase_ValueError T.x_NoText T.g_NoText T.k_NoText (raises_own T.s_NoText T.t_NoText) (by rfl)))) pss_nil) (pss_cons (ps_asg (pe_call hp (hr.mono (by omega)) (by rfl) T.g_power_at T.F_power_at.kp T.b_power_at .nil (passX rfl rfl rfl rfl) (pa_cons (pv 0) (pa_cons (pv 1) (pa_cons (pv 2) pa_nil)))) (pg_tup rfl (pgs_cons (pg_name (i:=4) sc_factor_at.nd rfl (Or.inl rfl)) (pgs_cons (pg_name (i:=1) sc_factor_at.nd rfl (Or.inl rfl)) (pgs_nil))))) (pss_cons (ps_for (by first | exact PassesOwn.never | exact PassesOwn.leaving) rfl (pi_range1 rfl T.n_range (pa_cons (pv 3) pa_nil)) (pg_name (i:=5) sc_factor_at.nd rfl (Or.inl rfl)) (pss_one (ps_set (i:=4) sc_factor_at.nd rfl (Or.inl rfl) (pe_make T.mk_Less (ok_Less_init T) (hr.mono (by omega)) (by rfl) T.g_Less T.b_Less_init .nil pass0 (pa_cons (pv 4) pa_nil))))) (pss_one (ps_ret (pe_tup (pa_cons (pv 4) (pa_cons (pv 1) pa_nil)))))))))
  have hrf:=rowS r _ _ _ [42,47] _ (pS_bd r).2.2.2.1 hf T.F_factor_at.kp T.b_factor_at (by omega)
  have ht:FnOk P w K mg base (L2.CX P w) (7*r+7) T.a_term_at T.d_term_at ["text","at","deep"] (sp_rd K T.Y T.C (termL (subL r)) r):=by
   refine T.F_term_at.okX sc_term_at (fun vs H Q E h=>len_X (E:=E) (fun _=>rfl) h) (fun cdv A outer s H vs Q E hr h=>⟨t_term_at K T.C T.Y T.a_factor_at r E,?_,body_X (E:=E) 0 (by exact fun a ha=>by obtain ⟨text,z,d,_⟩:=a;obtain ⟨n,hn,hd,h1,h2⟩:=ha;dsimp only at hn hd h1 h2;subst hn;subst hd;exact rd_term_at K T.C T.Y T.a_factor_at r E text n h1 h2) (fun _=>rfl) h⟩)
   exact pss_one (ps_ret (pe_call hrf (hr.mono (by omega)) (by rfl) T.g_row_at T.F_row_at.kp T.b_row_at .nil (passX rfl rfl rfl rfl) (pa_cons (pv 0) (pa_cons (pv 1) (pa_cons (pv 2) (pa_cons (pe_tup (pa_cons (pe_str) (pa_cons (pe_str) pa_nil))) (pa_cons (pe_glob (v:=.ref T.a_factor_at) (by rfl) T.g_factor_at rfl) pa_nil)))))))
  have hrt:=rowS r _ _ _ [43,45] _ (pS_bd r).2.2.2.2 ht T.F_term_at.kp T.b_term_at (by omega)
  refine T.F_sum_at.okX sc_sum_at (fun vs H Q E h=>len_X (E:=E) (fun _=>rfl) h) (fun cdv A outer s H vs Q E hr h=>⟨t_sum_at K T.C T.Y T.a_term_at r E,?_,body_X (E:=E) 0 (by exact fun a ha=>by obtain ⟨text,z,d,_⟩:=a;obtain ⟨n,hn,hd,h1,h2⟩:=ha;dsimp only at hn hd h1 h2;subst hn;subst hd;exact rd_sum_at K T.C T.Y T.a_term_at r E text n h1 h2) (fun _=>rfl) h⟩)
  exact pss_one (ps_ret (pe_call hrt (hr.mono (by omega)) (by rfl) T.g_row_at T.F_row_at.kp T.b_row_at .nil (passX rfl rfl rfl rfl) (pa_cons (pv 0) (pa_cons (pv 1) (pa_cons (pv 2) (pa_cons (pe_tup (pa_cons (pe_str) (pa_cons (pe_str) pa_nil))) (pa_cons (pe_glob (v:=.ref T.a_term_at) (by rfl) T.g_term_at rfl) pa_nil)))))))
 induction r with
 | zero=>exact rest 0 atom0
 | succ r ih=>exact rest (r+1) (atomS r ih)
theorem ok_read (T:Txt K mg):FnOk P w K mg base (L2.CX P w) 220 T.a_read T.d_read ["text"] (sp_read K T.Y T.C):=by
 refine T.F_read.okX sc_read (fun vs H Q E h=>len_X (E:=E) (fun _=>rfl) h) (fun cdv A outer s H vs Q E hr h=>⟨t_read K T.C T.Y E,?_,body_X (E:=E) 2 (by exact fun a ha=>rd_read K T.C T.Y E a.1 ha) (fun _=>rfl) h⟩)
 exact pss_cons (ps_if (pt_cmpR op_gt (pe_callB call_len_str (by rfl) T.n_len (by decide +kernel) (pa_cons (pv 0) pa_nil)) (pe_gc (by rfl) T.c_SIGNS) (nomark _)) (pss_one (ps_raise rfl (takes_of rfl rfl rfl rfl) (pmk_own PySem.F.excBase_ValueError T.x_NoText T.g_NoText T.k_NoText (raises_own T.s_NoText T.t_NoText) (by rfl)))) pss_nil) (pss_cons (ps_asg (pe_call (ok_parse T 30) (hr.mono (by decide)) (by rfl) T.g_sum_at T.F_sum_at.kp T.b_sum_at .nil (passX rfl rfl rfl rfl) (pa_cons (pv 0) (pa_cons pe_int (pa_cons pe_int pa_nil)))) (pg_tup rfl (pgs_cons (pg_name (i:=1) sc_read.nd rfl (Or.inl rfl)) (pgs_cons (pg_name (i:=2) sc_read.nd rfl (Or.inl rfl)) (pgs_nil))))) (pss_cons (ps_if (pt_cmpR op_ne (pv 2) (pe_callB call_len_str (by rfl) T.n_len (by decide +kernel) (pa_cons (pv 0) pa_nil)) (nomark _)) (pss_one (ps_raise rfl (takes_of rfl rfl rfl rfl) (pmk_own PySem.F.excBase_ValueError T.x_NoText T.g_NoText T.k_NoText (raises_own T.s_NoText T.t_NoText) (by rfl)))) pss_nil) (pss_one (ps_ret (pv 1)))))
theorem ok_law_kinds (T:Txt K mg):FnOk P w K mg base CX0 1 T.a_law_kinds T.d_law_kinds ["_law_caught"] (sp_law_kinds K T.C):=by
 refine T.F_law_kinds.ok sc_law_kinds (fun vs H Q E h=>len_N (E:=E) (fun _=>rfl) h) (fun cdv A outer s H vs Q E hr h=>⟨t_law_kinds K T.C,?_,body_N (E:=E) 2 (fun a ha=>by obtain ⟨x,_⟩:=a;obtain rfl:x=_:=ha;exact rd_law_kinds K T.C T.e_NoText T.kh_NoText) (fun _=>rfl) h⟩)
 exact pss_cons (ps_set (i:=1) sc_law_kinds.nd rfl (Or.inr rfl) (pe_lst (pa_cons (pe_callB call_isX (by rfl) T.n_isinstance (by decide +kernel) (pa_cons (pv 0) (pa_cons (pe_glob (v:=.ref T.C.NoNumber) (by rfl) T.g_NoNumber rfl) pa_nil))) (pa_cons (pe_callB call_isX (by rfl) T.n_isinstance (by decide +kernel) (pa_cons (pv 0) (pa_cons (pe_glob (v:=.ref T.C.NoValue) (by rfl) T.g_NoValue rfl) pa_nil))) (pa_cons (pe_callB call_isX (by rfl) T.n_isinstance (by decide +kernel) (pa_cons (pv 0) (pa_cons (pe_glob (v:=.ref T.C.NoText) (by rfl) T.g_NoText rfl) pa_nil))) pa_nil))))) (pss_cons (ps_set (i:=1) sc_law_kinds.nd rfl (Or.inr rfl) (pe_op op_cat (pv 1) (pe_lst (pa_cons (pe_callB call_isX (by rfl) T.n_isinstance (by decide +kernel) (pa_cons (pv 0) (pa_cons (pe_glob (v:=.ref T.C.NoRoot) (by rfl) T.g_NoRoot rfl) pa_nil))) (pa_cons (pe_callB call_isX (by rfl) T.n_isinstance (by decide +kernel) (pa_cons (pv 0) (pa_cons (pe_glob (v:=.ref T.C.NoRow) (by rfl) T.g_NoRow rfl) pa_nil))) (pa_cons (pe_callB call_isX (by rfl) T.n_isinstance (by decide +kernel) (pa_cons (pv 0) (pa_cons (pe_glob (v:=.ref T.C.TooFar) (by rfl) T.g_TooFar rfl) pa_nil))) pa_nil)))))) (pss_cons (ps_set (i:=1) sc_law_kinds.nd rfl (Or.inr rfl) (pe_op op_cat (pv 1) (pe_lst (pa_cons (pe_callB call_isX (by rfl) T.n_isinstance (by decide +kernel) (pa_cons (pv 0) (pa_cons (pe_glob (v:=.ref T.C.NoLine) (by rfl) T.g_NoLine rfl) pa_nil))) (pa_cons (pe_callB call_isX (by rfl) T.n_isinstance (by decide +kernel) (pa_cons (pv 0) (pa_cons (pe_glob (v:=.ref T.C.HouseError) (by rfl) T.g_HouseError rfl) pa_nil))) (pa_cons (pe_callB call_isX (by rfl) T.n_isinstance (by decide +kernel) (pa_cons (pv 0) (pa_cons (pe_bltn (v:=.ty "ValueError") (by rfl) T.n_ValueError (by decide +kernel) rfl) pa_nil))) pa_nil)))))) (pss_one (ps_ret (pe_lc (own:=[("_law_k",2)]) (g:=gName 2) (tt:=tB (tOp (rIxL K) (tVar 1) (tVar 2))) rfl sc_law_kinds.nd (pi_range1 rfl T.n_range (pa_cons pe_int pa_nil)) (blkOk_by (N:=N_law_kinds) (sc:=defScope s_law_kinds) (by decide +kernel)) (fun _ _ _ _ _=>pg_name (i:=2) sc_law_kinds.nd rfl (Or.inl rfl)) (fun _ _ _ _ _=>pts_one (pt_val (pe_ix ix_list (pv 1) (pv 2) (fun _ _=>rfl)))) (fun _ _ _ _ _=>pv 2))))))
theorem ok_Two_spine (T:Txt K mg):FnOk P w K mg base CX0 1 T.a_Two_spine T.d_Two_spine ["self"] (sp_Two_spine K T.Y):=by
 refine T.F_Two_spine.ok sc_Two_spine (fun vs H Q E h=>len_F (E:=E) (fun _=>rfl) h) (fun cdv A outer s H vs Q E hr h=>⟨t_Two_spine K T.Y,?_,body_F (E:=E) 2 (fun a ha=>rd_Two_spine K T.Y T.x a.1 ha.1 ha.2) (fun _=>rfl) h⟩)
 exact pss_cons (ps_set (i:=1) sc_Two_spine.nd rfl (Or.inl rfl) (pe_lst pa_nil)) (pss_cons (ps_set (i:=2) sc_Two_spine.nd rfl (Or.inl rfl) (pv 0)) (pss_cons (ps_while (by first | exact PassesOwn.never | exact PassesOwn.leaving) (pt_val (pe_callB call_isi (by rfl) T.n_isinstance (by decide +kernel) (pa_cons (pv 2) (pa_cons (pe_glob (v:=.ref T.Y.Two) (by rfl) T.g_Two rfl) pa_nil)))) (pss_cons (ps_expr (pe_bm PySem.F.plainAttrs_list PySem.F.slot_list_append PySem.F.type_list_append mt_append (pv 1) (pa_cons (pv 2) pa_nil))) (pss_one (ps_set (i:=2) sc_Two_spine.nd rfl (Or.inl rfl) (pe_fld (pv 2) rfl))))) (pss_one (ps_ret (pe_tup (pa_cons (pv 2) (pa_cons (pe_revL (pv 1)) pa_nil)))))))
theorem ok_Number_binds (T:Txt K mg):FnOk P w K mg base CX0 1 T.a_Number_binds T.d_Number_binds ["self"] (sp_binds K T.Y 0):=by
 refine T.F_Number_binds.ok sc_Number_binds (fun vs H Q E h=>len_F (E:=E) (fun _=>rfl) h) (fun cdv A outer s H vs Q E hr h=>⟨t_Number_binds K,?_,body_F (E:=E) 0 (fun a ha=>rd_Number_binds K T.Y a.1 ha.1) (fun _=>rfl) h⟩)
 exact pss_one (ps_ret (pe_gc (by rfl) T.c_ATOM))
theorem ok_Name_binds (T:Txt K mg):FnOk P w K mg base CX0 1 T.a_Name_binds T.d_Name_binds ["self"] (sp_binds K T.Y 1):=by
 refine T.F_Name_binds.ok sc_Name_binds (fun vs H Q E h=>len_F (E:=E) (fun _=>rfl) h) (fun cdv A outer s H vs Q E hr h=>⟨t_Name_binds K,?_,body_F (E:=E) 0 (fun a ha=>rd_Name_binds K T.Y a.1 ha.1) (fun _=>rfl) h⟩)
 exact pss_one (ps_ret (pe_gc (by rfl) T.c_ATOM))
theorem ok_Two_binds (T:Txt K mg):FnOk P w K mg base CX0 1 T.a_Two_binds T.d_Two_binds ["self"] (sp_binds K T.Y 2):=by
 refine T.F_Two_binds.ok sc_Two_binds (fun vs H Q E h=>len_F (E:=E) (fun _=>rfl) h) (fun cdv A outer s H vs Q E hr h=>⟨t_Two_binds K,?_,body_F (E:=E) 0 (fun a ha=>rd_Two_binds K T.Y T.x a.1 ha.1) (fun _=>rfl) h⟩)
 exact pss_cons (ps_if (PW.pt (pw_or (pt_cmpR op_eq (pe_fld (pv 0) rfl) (pe_str) (nomark _)) (pw_or1 (pt_cmpR op_eq (pe_fld (pv 0) rfl) (pe_str) (nomark _))))) (pss_one (ps_ret (pe_gc (by rfl) T.c_SUM))) pss_nil) (pss_one (ps_ret (pe_gc (by rfl) T.c_TERM)))
theorem ok_Power_binds (T:Txt K mg):FnOk P w K mg base CX0 1 T.a_Power_binds T.d_Power_binds ["self"] (sp_binds K T.Y 3):=by
 refine T.F_Power_binds.ok sc_Power_binds (fun vs H Q E h=>len_F (E:=E) (fun _=>rfl) h) (fun cdv A outer s H vs Q E hr h=>⟨t_Power_binds K,?_,body_F (E:=E) 0 (fun a ha=>rd_Power_binds K T.Y a.1 ha.1) (fun _=>rfl) h⟩)
 exact pss_one (ps_ret (pe_gc (by rfl) T.c_POWER))
theorem ok_Less_binds (T:Txt K mg):FnOk P w K mg base CX0 1 T.a_Less_binds T.d_Less_binds ["self"] (sp_binds K T.Y 4):=by
 refine T.F_Less_binds.ok sc_Less_binds (fun vs H Q E h=>len_F (E:=E) (fun _=>rfl) h) (fun cdv A outer s H vs Q E hr h=>⟨t_Less_binds K,?_,body_F (E:=E) 0 (fun a ha=>rd_Less_binds K T.Y a.1 ha.1) (fun _=>rfl) h⟩)
 exact pss_one (ps_ret (pe_gc (by rfl) T.c_FACTOR))
theorem mt_binds (T:Txt K mg):∀ j,j < 5→MtOk P w K mg base CX0 1 (T.Y.at_ j) "binds" (sp_binds K T.Y j)
 | 0,_=>⟨_,_,_,T.m_Number_binds,ok_Number_binds T,T.b_Number_binds⟩
 | 1,_=>⟨_,_,_,T.m_Name_binds,ok_Name_binds T,T.b_Name_binds⟩
 | 2,_=>⟨_,_,_,T.m_Two_binds,ok_Two_binds T,T.b_Two_binds⟩
 | 3,_=>⟨_,_,_,T.m_Power_binds,ok_Power_binds T,T.b_Power_binds⟩
 | 4,_=>⟨_,_,_,T.m_Less_binds,ok_Less_binds T,T.b_Less_binds⟩
theorem ok_Less_core (T:Txt K mg):FnOk P w K mg base CX0 1 T.a_Less_core T.d_Less_core ["self"] (sp_Less_core K T.Y):=by
 refine T.F_Less_core.ok sc_Less_core (fun vs H Q E h=>len_F (E:=E) (fun _=>rfl) h) (fun cdv A outer s H vs Q E hr h=>⟨t_Less_core K T.Y,?_,body_F (E:=E) 2 (fun a ha=>rd_Less_core K T.Y T.x a.1) (fun _=>rfl) h⟩)
 exact pss_cons (ps_set (i:=1) sc_Less_core.nd rfl (Or.inl rfl) pe_int) (pss_cons (ps_set (i:=2) sc_Less_core.nd rfl (Or.inl rfl) (pv 0)) (pss_cons (ps_while (by first | exact PassesOwn.never | exact PassesOwn.leaving) (pt_val (pe_callB call_isi (by rfl) T.n_isinstance (by decide +kernel) (pa_cons (pv 2) (pa_cons (pe_glob (v:=.ref T.Y.Less) (by rfl) T.g_Less rfl) pa_nil)))) (pss_cons (ps_set (i:=1) sc_Less_core.nd rfl (Or.inl rfl) (pe_op op_add (pv 1) pe_int)) (pss_one (ps_set (i:=2) sc_Less_core.nd rfl (Or.inl rfl) (pe_fld (pv 2) rfl))))) (pss_one (ps_ret (pe_tup (pa_cons (pv 2) (pa_cons (pv 1) pa_nil)))))))
theorem mt_shown (T:Txt K mg) (n:Nat):∀ j,j < 5→MtOk P w K mg base CX0 (2*n+2) (T.Y.at_ j) "shown" (sp_shown K T.Y n j):=by
 induction n with
 | zero =>
  have h0:FnOk P w K mg base CX0 (2*0+2) T.a_Number_shown T.d_Number_shown ["self"] (sp_shown K T.Y 0 0):=by
   refine T.F_Number_shown.ok sc_Number_shown (fun vs H Q E h=>len_F (E:=E) (fun _=>rfl) h) (fun cdv A outer s H vs Q E hr h=>⟨_,pss_never,?_⟩)
   obtain ⟨F,a,_,_,hp,_⟩:=h
   have:=hp.2.1;omega
  have h1:FnOk P w K mg base CX0 (2*0+2) T.a_Name_shown T.d_Name_shown ["self"] (sp_shown K T.Y 0 1):=by
   refine T.F_Name_shown.ok sc_Name_shown (fun vs H Q E h=>len_F (E:=E) (fun _=>rfl) h) (fun cdv A outer s H vs Q E hr h=>⟨_,pss_never,?_⟩)
   obtain ⟨F,a,_,_,hp,_⟩:=h
   have:=hp.2.1;omega
  have h2:FnOk P w K mg base CX0 (2*0+2) T.a_Two_shown T.d_Two_shown ["self"] (sp_shown K T.Y 0 2):=by
   refine T.F_Two_shown.ok sc_Two_shown (fun vs H Q E h=>len_F (E:=E) (fun _=>rfl) h) (fun cdv A outer s H vs Q E hr h=>⟨_,pss_never,?_⟩)
   obtain ⟨F,a,_,_,hp,_⟩:=h
   have:=hp.2.1;omega
  have h3:FnOk P w K mg base CX0 (2*0+2) T.a_Power_shown T.d_Power_shown ["self"] (sp_shown K T.Y 0 3):=by
   refine T.F_Power_shown.ok sc_Power_shown (fun vs H Q E h=>len_F (E:=E) (fun _=>rfl) h) (fun cdv A outer s H vs Q E hr h=>⟨_,pss_never,?_⟩)
   obtain ⟨F,a,_,_,hp,_⟩:=h
   have:=hp.2.1;omega
  have h4:FnOk P w K mg base CX0 (2*0+2) T.a_Less_shown T.d_Less_shown ["self"] (sp_shown K T.Y 0 4):=by
   refine T.F_Less_shown.ok sc_Less_shown (fun vs H Q E h=>len_F (E:=E) (fun _=>rfl) h) (fun cdv A outer s H vs Q E hr h=>⟨_,pss_never,?_⟩)
   obtain ⟨F,a,_,_,hp,_⟩:=h
   have:=hp.2.1;omega
  intro j hj
  match j,hj with
  | 0,_=>exact ⟨_,_,_,T.m_Number_shown,h0,T.b_Number_shown⟩
  | 1,_=>exact ⟨_,_,_,T.m_Name_shown,h1,T.b_Name_shown⟩
  | 2,_=>exact ⟨_,_,_,T.m_Two_shown,h2,T.b_Two_shown⟩
  | 3,_=>exact ⟨_,_,_,T.m_Power_shown,h3,T.b_Power_shown⟩
  | 4,_=>exact ⟨_,_,_,T.m_Less_shown,h4,T.b_Less_shown⟩
 | succ n ih =>
  have hb:FnOk P w K mg base CX0 (2*n+3) T.a_bracketed T.d_bracketed ["part","least"] (sp_bracketed K T.Y n):=by
   refine T.F_bracketed.ok sc_bracketed (fun vs H Q E h=>len_F (E:=E) (fun _=>rfl) h) (fun cdv A outer s H vs Q E hr h=>⟨t_bracketed K T.Y n,?_,body_F (E:=E) 0 (fun a ha=>by obtain ⟨e,z,_⟩:=a;obtain ⟨h1,h2,h3,l,hl⟩:=ha;dsimp only at h1 h2 h3 hl;subst hl;exact rd_bracketed K T.Y n e l h1 h2 h3) (fun _=>rfl) h⟩)
   exact pss_cons (ps_if (pt_cmpR op_lt (pe_m50 (pv 0) T.x (mt_binds T) (hr.mono (by omega)) pass0) (pv 1) (nomark _)) (pss_one (ps_ret (pe_op op_add_str (pe_op op_add_str (pe_str) (pe_m50 (pv 0) T.x ih (hr.mono (by omega)) pass0)) (pe_str)))) pss_nil) (pss_one (ps_ret (pe_m50 (pv 0) T.x ih (hr.mono (by omega)) pass0)))
  have h0:FnOk P w K mg base CX0 (2*(n+1)+2) T.a_Number_shown T.d_Number_shown ["self"] (sp_shown K T.Y (n+1) 0):=by
   refine T.F_Number_shown.ok sc_Number_shown (fun vs H Q E h=>len_F (E:=E) (fun _=>rfl) h) (fun cdv A outer s H vs Q E hr h=>⟨t_Number_shown K,?_,body_F (E:=E) 0 (fun a ha=>rd_Number_shown K T.Y T.x a.1 ha.1 ha.2.2.2) (fun _=>rfl) h⟩)
   exact pss_one (ps_ret (pe_callTy call_str_int (by rfl) T.n_str (by decide +kernel) (pa_cons (pe_fld (pv 0) rfl) pa_nil)))
  have h1:FnOk P w K mg base CX0 (2*(n+1)+2) T.a_Name_shown T.d_Name_shown ["self"] (sp_shown K T.Y (n+1) 1):=by
   refine T.F_Name_shown.ok sc_Name_shown (fun vs H Q E h=>len_F (E:=E) (fun _=>rfl) h) (fun cdv A outer s H vs Q E hr h=>⟨t_Name_shown K,?_,body_F (E:=E) 0 (fun a ha=>rd_Name_shown K T.Y T.x a.1 ha.1) (fun _=>rfl) h⟩)
   exact pss_one (ps_ret (pe_fld (pv 0) rfl))
  have h2:FnOk P w K mg base CX0 (2*(n+1)+2) T.a_Two_shown T.d_Two_shown ["self"] (sp_shown K T.Y (n+1) 2):=by
   refine T.F_Two_shown.ok sc_Two_shown (fun vs H Q E h=>len_F (E:=E) (fun _=>rfl) h) (fun cdv A outer s H vs Q E hr h=>⟨t_Two_shown K T.Y n,?_,body_F (E:=E) 5 (fun a ha=>rd_Two_shown K T.Y T.x n a.1 ha.1 ha.2.1 (by have:=ha.2.2.1;omega) ha.2.2.2) (fun _=>rfl) h⟩)
   exact pss_cons (ps_asg (pe_meth0 (pv 0) T.x.cTwo.cl T.m_Two_spine (ok_Two_spine T) (hr.mono (by omega)) T.b_Two_spine .nil pass0) (pg_tup rfl (pgs_cons (pg_name (i:=1) sc_Two_shown.nd rfl (Or.inl rfl)) (pgs_cons (pg_name (i:=2) sc_Two_shown.nd rfl (Or.inl rfl)) (pgs_nil))))) (pss_cons (ps_set (i:=3) sc_Two_shown.nd rfl (Or.inl rfl) (pe_m50 (pv 1) T.x ih (hr.mono (by omega)) pass0)) (pss_cons (ps_set (i:=4) sc_Two_shown.nd rfl (Or.inl rfl) (pe_m50 (pv 1) T.x (mt_binds T) (hr.mono (by omega)) pass0)) (pss_cons (ps_for (by first | exact PassesOwn.never | exact PassesOwn.leaving) rfl (pi_list (pv 2)) (pg_name (i:=5) sc_Two_shown.nd rfl (Or.inl rfl)) (pss_cons (ps_if (pt_cmpR op_lt (pv 4) (pe_m50 (pv 5) T.x (mt_binds T) (hr.mono (by omega)) pass0) (nomark _)) (pss_one (ps_set (i:=3) sc_Two_shown.nd rfl (Or.inl rfl) (pe_op op_add_str (pe_op op_add_str (pe_str) (pv 3)) (pe_str)))) pss_nil) (pss_cons (ps_set (i:=4) sc_Two_shown.nd rfl (Or.inl rfl) (pe_m50 (pv 5) T.x (mt_binds T) (hr.mono (by omega)) pass0)) (pss_one (ps_set (i:=3) sc_Two_shown.nd rfl (Or.inl rfl) (pe_op op_add_str (pe_op op_add_str (pe_op op_add_str (pe_op op_add_str (pv 3) (pe_str)) (pe_fld (pv 5) rfl)) (pe_str)) (pe_call hb (hr.mono (by omega)) (by rfl) T.g_bracketed T.F_bracketed.kp T.b_bracketed .nil pass0 (pa_cons (pe_fld (pv 5) rfl) (pa_cons (pe_op op_add (pv 4) pe_int) pa_nil))))))))) (pss_one (ps_ret (pv 3))))))
  have h3:FnOk P w K mg base CX0 (2*(n+1)+2) T.a_Power_shown T.d_Power_shown ["self"] (sp_shown K T.Y (n+1) 3):=by
   refine T.F_Power_shown.ok sc_Power_shown (fun vs H Q E h=>len_F (E:=E) (fun _=>rfl) h) (fun cdv A outer s H vs Q E hr h=>⟨t_Power_shown K T.Y n,?_,body_F (E:=E) 0 (fun a ha=>rd_Power_shown K T.Y T.x n a.1 ha.1 ha.2.1 (by have:=ha.2.2.1;omega) ha.2.2.2) (fun _=>rfl) h⟩)
   exact pss_one (ps_ret (pe_op op_add_str (pe_op op_add_str (pe_call hb (hr.mono (by omega)) (by rfl) T.g_bracketed T.F_bracketed.kp T.b_bracketed .nil pass0 (pa_cons (pe_fld (pv 0) rfl) (pa_cons (pe_gc (by rfl) T.c_ATOM) pa_nil))) (pe_str)) (pe_callTy call_str_int (by rfl) T.n_str (by decide +kernel) (pa_cons (pe_fld (pv 0) rfl) pa_nil))))
  have h4:FnOk P w K mg base CX0 (2*(n+1)+2) T.a_Less_shown T.d_Less_shown ["self"] (sp_shown K T.Y (n+1) 4):=by
   refine T.F_Less_shown.ok sc_Less_shown (fun vs H Q E h=>len_F (E:=E) (fun _=>rfl) h) (fun cdv A outer s H vs Q E hr h=>⟨t_Less_shown K T.Y n,?_,body_F (E:=E) 2 (fun a ha=>rd_Less_shown K T.Y T.x n a.1 ha.1 ha.2.1 (by have:=ha.2.2.1;omega) ha.2.2.2) (fun _=>rfl) h⟩)
   exact pss_cons (ps_asg (pe_meth0 (pv 0) T.x.cLess.cl T.m_Less_core (ok_Less_core T) (hr.mono (by omega)) T.b_Less_core .nil pass0) (pg_tup rfl (pgs_cons (pg_name (i:=1) sc_Less_shown.nd rfl (Or.inl rfl)) (pgs_cons (pg_name (i:=2) sc_Less_shown.nd rfl (Or.inl rfl)) (pgs_nil))))) (pss_one (ps_ret (pe_op op_add_str (pe_op op_mulS (pe_str) (pv 2)) (pe_call hb (hr.mono (by omega)) (by rfl) T.g_bracketed T.F_bracketed.kp T.b_bracketed .nil pass0 (pa_cons (pv 1) (pa_cons (pe_gc (by rfl) T.c_FACTOR) pa_nil))))))
  intro j hj
  match j,hj with
  | 0,_=>exact ⟨_,_,_,T.m_Number_shown,h0,T.b_Number_shown⟩
  | 1,_=>exact ⟨_,_,_,T.m_Name_shown,h1,T.b_Name_shown⟩
  | 2,_=>exact ⟨_,_,_,T.m_Two_shown,h2,T.b_Two_shown⟩
  | 3,_=>exact ⟨_,_,_,T.m_Power_shown,h3,T.b_Power_shown⟩
  | 4,_=>exact ⟨_,_,_,T.m_Less_shown,h4,T.b_Less_shown⟩
theorem ok_law_judged (T:Txt K mg):FnOk P w K mg base CX0 221 T.a_law_judged T.d_law_judged ["_law_text_here"] (sp_law_judged K T.Y T.C):=by
 refine T.F_law_judged.ok sc_law_judged (fun vs H Q E h=>len_F (E:=E) (fun _=>rfl) h) (fun cdv A outer s H vs Q E hr h=>⟨t_law_judged K T.C T.Y,?_,body_F (E:=E) 4 (fun a ha=>rd_law_judged K T.C T.e_NoText T.Y a.1 ha) (fun _=>rfl) h⟩)
 exact pss_cons (ps_set (i:=1) sc_law_judged.nd rfl (Or.inl rfl) (pe_call (ok_law_tree_of T) (hr.mono (by decide)) (by rfl) T.g_law_tree_of T.F_law_tree_of.kp T.b_law_tree_of .nil pass0 (pa_cons (pv 0) pa_nil))) (pss_cons (ps_set (i:=2) sc_law_judged.nd rfl (Or.inl rfl) pe_non) (pss_cons (ps_set (i:=3) sc_law_judged.nd rfl (Or.inl rfl) pe_non) (pss_cons (ps_try_hold (i:=4) (tb:=fun W=>tAsg (tM5 T.Y "shown" (sp_shown K T.Y 70) E0 (tCallS (sp_read K T.Y T.C) (WE W) (tCons (tVar 0) tNil)) tNil) (gName 2)) (ts:=fun _ _ _=>tAsg (tVar 4) (gName 3)) (Wout:=fun _ _ _ _=>False) rfl rfl sc_law_judged.nd rfl rfl ⟨by rfl,by decide,Or.inl T.g_HouseError⟩ rfl takes0 (fun W pn xe tk _=>pss_one (ps_set (i:=2) sc_law_judged.nd rfl (Or.inl rfl) (pe_m50 (pe_callS (ok_read T) (hr.mono (by decide)) (by rfl) T.g_read T.F_read.kp T.b_read (fun σ=>passAt tk σ) (pa_cons (pv 0) pa_nil)) T.x (mt_shown T 70) (hr.mono (by decide)) pass0))) (fun a oe cls d pn _ _=>pss_one (ps_set (i:=3) sc_law_judged.nd rfl (Or.inl rfl) (pv 4)))) (pss_cons (ps_if (pt_cmpR op_isN (pv 1) pe_non (nomark _)) (pss_one (ps_ret (pe_cmpR (op_eqD hr.units) (pe_call (ok_law_kinds T) (hr.mono (by decide)) (by rfl) T.g_law_kinds T.F_law_kinds.kp T.b_law_kinds .nil pass0 (pa_cons (pv 3) pa_nil)) (pe_lst (pa_cons pe_int (pa_cons pe_int (pa_cons pe_int pa_nil)))) (nomark _)))) pss_nil) (pss_one (ps_ret (pe_and (pe_cmpR op_isN (pv 3) pe_non (nomark _)) (pe_and (pe_callB call_isi (by rfl) T.n_isinstance (by decide +kernel) (pa_cons (pv 2) (pa_cons (pe_bltn (v:=.ty "str") (by rfl) T.n_str (by decide +kernel) rfl) pa_nil))) (pe_one (pe_cmpR op_eq (pv 2) (pe_call ((okg_ltext T 260).plain (m:=174) (by decide)) (hr.mono (by decide)) (by rfl) T.g_law_text T.F_law_text.kp T.b_law_text .nil pass0 (pa_cons (pv 1) pa_nil)) (nomark _)))))))))))
theorem ok_law_turned (T:Txt K mg):FnOk P w K mg base CX0 1 T.a_law_turned T.d_law_turned ["_law_text_here","_law_numbers_here"] (sp_law_turned K):=by
 refine T.F_law_turned.ok sc_law_turned (fun vs H Q E h=>len_F (E:=E) (fun _=>rfl) h) (fun cdv A outer s H vs Q E hr h=>⟨t_law_turned K,?_,body_F (E:=E) 5 (fun a ha=>rd_law_turned K a.1 a.2.1 ha) (fun _=>rfl) h⟩)
 exact pss_cons (ps_set (i:=2) sc_law_turned.nd rfl (Or.inl rfl) (pe_ix ix_str (pe_str) (pe_op op_mod (pe_ix ix_list (pv 1) pe_int (fun _ _=>rfl)) pe_int) (fun _ _=>rfl))) (pss_cons (ps_set (i:=3) sc_law_turned.nd rfl (Or.inl rfl) (pe_op op_modN (pe_ix ix_list (pv 1) pe_int (fun _ _=>rfl)) (pe_op op_add (pe_callB call_len_str (by rfl) T.n_len (by decide +kernel) (pa_cons (pv 0) pa_nil)) pe_int))) (pss_cons (ps_set (i:=4) sc_law_turned.nd rfl (Or.inl rfl) (pe_op op_add (pe_op op_add (pv 3) pe_int) (pe_op op_mod (pe_ix ix_list (pv 1) pe_int (fun _ _=>rfl)) pe_int))) (pss_cons (ps_set (i:=5) sc_law_turned.nd rfl (Or.inl rfl) (pe_op op_mod (pe_ix ix_list (pv 1) pe_int (fun _ _=>rfl)) pe_int)) (pss_cons (ps_set (i:=6) sc_law_turned.nd rfl (Or.inl rfl) (pe_lst (pa_cons (pe_str) (pa_cons (pe_str) (pa_cons (pe_str) (pa_cons (pe_str) (pa_cons (pe_str) (pa_cons (pe_str) (pa_cons (pe_str) (pa_cons (pe_str) (pa_cons (pe_str) (pa_cons (pe_str) (pa_cons (pe_str) (pa_cons (pe_str) (pa_cons (pe_str) (pa_cons (pe_str) (pa_cons (pe_str) (pa_cons (pe_str) (pa_cons (pe_str) pa_nil))))))))))))))))))) (pss_cons (ps_set (i:=6) sc_law_turned.nd rfl (Or.inl rfl) (pe_op op_cat (pv 6) (pe_lst (pa_cons (pe_str) (pa_cons (pe_str) (pa_cons (pe_str) (pa_cons (pe_op op_mulS (pe_str) pe_int) (pa_cons (pe_op op_mulS (pe_str) pe_int) (pa_cons (pe_str) (pa_cons (pe_str) (pa_cons (pe_str) (pa_cons (pe_str) (pa_cons (pe_str) (pa_cons (pe_str) (pa_cons (pe_str) (pa_cons (pe_str) (pa_cons (pe_str) pa_nil))))))))))))))))) (pss_cons (ps_set (i:=6) sc_law_turned.nd rfl (Or.inl rfl) (pe_op op_cat (pv 6) (pe_lst (pa_cons (pe_str) (pa_cons (pe_str) (pa_cons (pe_str) (pa_cons (pe_str) (pa_cons (pe_str) (pa_cons (pe_str) (pa_cons (pe_str) (pa_cons (pe_str) (pa_cons (pe_str) (pa_cons (pe_str) (pa_cons (pe_str) pa_nil)))))))))))))) (pss_cons (ps_if (pt_cmpR op_eq (pv 5) pe_int (nomark _)) (pss_one (ps_ret (pe_op op_add_str (pe_op op_add_str (pe_slice sl_str (pv 0) po_none (po_some (pv 3))) (pv 2)) (pe_slice sl_str (pv 0) (po_some (pv 3)) po_none)))) pss_nil) (pss_cons (ps_if (pt_cmpR op_eq (pv 5) pe_int (nomark _)) (pss_one (ps_ret (pe_op op_add_str (pe_slice sl_str (pv 0) po_none (po_some (pv 3))) (pe_slice sl_str (pv 0) (po_some (pe_op op_add (pv 3) pe_int)) po_none)))) pss_nil) (pss_cons (ps_if (pt_cmpR op_eq (pv 5) pe_int (nomark _)) (pss_one (ps_ret (pe_op op_add_str (pe_op op_add_str (pe_slice sl_str (pv 0) po_none (po_some (pv 3))) (pv 2)) (pe_slice sl_str (pv 0) (po_some (pe_op op_add (pv 3) pe_int)) po_none)))) pss_nil) (pss_cons (ps_if (pt_cmpR op_eq (pv 5) pe_int (nomark _)) (pss_one (ps_ret (pe_op op_add_str (pe_slice sl_str (pv 0) po_none (po_some (pv 4))) (pe_slice sl_str (pv 0) (po_some (pv 3)) po_none)))) pss_nil) (pss_cons (ps_if (pt_cmpR op_eq (pv 5) pe_int (nomark _)) (pss_one (ps_ret (pe_op op_add_str (pe_op op_add_str (pe_slice sl_str (pv 0) po_none (po_some (pv 3))) (pe_ix ix_list (pv 6) (pe_op op_modN (pe_ix ix_list (pv 1) pe_int (fun _ _=>rfl)) (pe_callB call_len_seq (by rfl) T.n_len (by decide +kernel) (pa_cons (pv 6) pa_nil))) (fun _ _=>rfl))) (pe_slice sl_str (pv 0) (po_some (pv 4)) po_none)))) pss_nil) (pss_one (ps_ret (pe_op op_add_str (pe_op op_add_str (pe_slice sl_str (pv 0) po_none (po_some (pv 3))) (pe_ix ix_list (pv 6) (pe_op op_modN (pe_ix ix_list (pv 1) pe_int (fun _ _=>rfl)) (pe_callB call_len_seq (by rfl) T.n_len (by decide +kernel) (pa_cons (pv 6) pa_nil))) (fun _ _=>rfl))) (pe_slice sl_str (pv 0) (po_some (pv 3)) po_none)))))))))))))))
theorem ok_law_bounds (T:Txt K mg):FnOk P w K mg base CX0 1 T.a_law_bounds T.d_law_bounds ["_law_number","_law_name"] (sp_law_bounds K):=by
 refine T.F_law_bounds.ok sc_law_bounds (fun vs H Q E h=>len_N (E:=E) (fun _=>rfl) h) (fun cdv A outer s H vs Q E hr h=>⟨t_law_bounds K,?_,body_N (E:=E) 5 (fun a ha=>rd_law_bounds K a.1 a.2.1 ha) (fun _=>rfl) h⟩)
 exact pss_cons (ps_set (i:=2) sc_law_bounds.nd rfl (Or.inl rfl) (pe_op op_add pe_int (pe_op op_mod (pv 0) pe_int))) (pss_cons (ps_set (i:=3) sc_law_bounds.nd rfl (Or.inl rfl) (pe_lst (pa_cons (pe_op op_add_str (pe_op op_add_str (pe_op op_mulS (pe_str) (pv 2)) (pv 1)) (pe_op op_mulS (pe_str) (pv 2))) (pa_cons (pe_op op_add_str (pe_op op_mulS (pe_str) (pv 2)) (pv 1)) (pa_cons (pe_op op_add_str (pe_op op_add_str (pe_op op_mulS (pe_str) (pv 2)) (pv 1)) (pe_op op_mulS (pe_str) (pv 2))) pa_nil))))) (pss_cons (ps_expr (pe_bm PySem.F.plainAttrs_list PySem.F.slot_list_append PySem.F.type_list_append mt_append (pv 3) (pa_cons (pe_op op_add_str (pe_op op_add_str (pe_op op_add_str (pe_op op_add_str (pe_op op_mulS (pe_str) (pv 2)) (pe_str)) (pe_op op_mulS (pe_str) (pe_op op_sub pe_int (pe_op op_mod (pe_op op_fdiv (pv 0) pe_int) pe_int)))) (pv 1)) (pe_str)) pa_nil))) (pss_cons (ps_expr (pe_bm PySem.F.plainAttrs_list PySem.F.slot_list_append PySem.F.type_list_append mt_append (pv 3) (pa_cons (pe_op op_add_str (pe_op op_add_str (pe_op op_add_str (pe_str) (pe_op op_mulS (pe_str) (pv 2))) (pv 1)) (pe_op op_mulS (pe_str) (pe_op op_add (pv 2) pe_int))) pa_nil))) (pss_cons (ps_expr (pe_bm PySem.F.plainAttrs_list PySem.F.slot_list_append PySem.F.type_list_append mt_append (pv 3) (pa_cons (pe_op op_add_str (pe_op op_add_str (pe_op op_add_str (pe_op op_add_str (pe_op op_add_str (pe_op op_add_str (pe_op op_mulS (pe_str) (pv 2)) (pv 1)) (pe_op op_mulS (pe_str) (pv 2))) (pe_str)) (pe_op op_mulS (pe_str) pe_int)) (pe_str)) (pe_op op_mulS (pe_str) pe_int)) pa_nil))) (pss_cons (ps_set (i:=4) sc_law_bounds.nd rfl (Or.inl rfl) (pe_op op_add_str (pv 1) (pe_op op_mulS (pe_str) pe_int))) (pss_cons (ps_set (i:=5) sc_law_bounds.nd rfl (Or.inl rfl) (pe_op op_add pe_int (pe_op op_mod (pe_op op_fdiv (pv 0) pe_int) pe_int))) (pss_cons (ps_set (i:=6) sc_law_bounds.nd rfl (Or.inl rfl) (pe_op op_sub (pv 5) (pe_callB call_len_str (by rfl) T.n_len (by decide +kernel) (pa_cons (pv 4) pa_nil)))) (pss_cons (ps_set (i:=4) sc_law_bounds.nd rfl (Or.inl rfl) (pe_op op_add_str (pe_op op_add_str (pv 4) (pe_op op_mulS (pe_str) (pe_op op_fdiv (pv 6) pe_int))) (pe_slice sl_str (pe_str) po_none (po_some (pe_op op_mod (pv 6) pe_int))))) (pss_one (ps_ret (pe_op op_cat (pv 3) (pe_lst (pa_cons (pv 4) (pa_cons (pe_op op_mulS (pe_str) pe_int) pa_nil))))))))))))))
theorem ok_law (T:Txt K mg):FnOk P w K mg base CX0 222 T.a_law T.d_law ["_law_script"] (sp_law K):=by
 refine T.F_law.ok sc_law (fun vs H Q E h=>len_F (E:=E) (fun _=>rfl) h) (fun cdv A outer s H vs Q E hr h=>⟨t_law K T.C T.Y,?_,body_F (E:=E) 6 (fun a ha=>rd_law K T.C T.Y a.1) (fun _=>rfl) h⟩)
 exact pss_cons (ps_set (i:=1) sc_law.nd rfl (Or.inl rfl) (pe_call (ok_law_numbers T) (hr.mono (by decide)) (by rfl) T.g_law_numbers T.F_law_numbers.kp T.b_law_numbers .nil pass0 (pa_cons (pv 0) (pa_cons pe_int (pa_cons pe_int pa_nil))))) (pss_cons (ps_set (i:=2) sc_law.nd rfl (Or.inl rfl) (pe_call (ok_law_names T) (hr.mono (by decide)) (by rfl) T.g_law_names T.F_law_names.kp T.b_law_names .nil pass0 (pa_cons (pe_call (ok_law_numbers T) (hr.mono (by decide)) (by rfl) T.g_law_numbers T.F_law_numbers.kp T.b_law_numbers .nil pass0 (pa_cons (pv 0) (pa_cons pe_int (pa_cons (pe_op op_add pe_int (pe_op op_mod (pe_ix ix_list (pv 1) pe_int (fun _ _=>rfl)) pe_int)) pa_nil)))) pa_nil))) (pss_cons (ps_set (i:=3) sc_law.nd rfl (Or.inl rfl) (pe_call (ok_law_grown T) (hr.mono (by decide)) (by rfl) T.g_law_grown T.F_law_grown.kp T.b_law_grown .nil pass0 (pa_cons (pe_call (ok_law_numbers T) (hr.mono (by decide)) (by rfl) T.g_law_numbers T.F_law_numbers.kp T.b_law_numbers .nil pass0 (pa_cons (pv 0) (pa_cons pe_int (pa_cons (pe_op op_add pe_int (pe_op op_mod (pe_ix ix_list (pv 1) pe_int (fun _ _=>rfl)) pe_int)) pa_nil)))) (pa_cons (pv 2) (pa_cons pe_int pa_nil))))) (pss_cons (ps_set (i:=4) sc_law.nd rfl (Or.inl rfl) (pe_call ((okg_ltext T 260).plain (m:=174) (by decide)) (hr.mono (by decide)) (by rfl) T.g_law_text T.F_law_text.kp T.b_law_text .nil pass0 (pa_cons (pv 3) pa_nil))) (pss_cons (ps_for (by first | exact PassesOwn.never | exact PassesOwn.leaving) rfl (pi_range2 rfl T.n_range (pa_cons pe_int (pa_cons pe_int pa_nil))) (pg_name (i:=5) sc_law.nd rfl (Or.inl rfl)) (pss_one (ps_if (pt_not (pt_val (pe_call (ok_law_judged T) (hr.mono (by decide)) (by rfl) T.g_law_judged T.F_law_judged.kp T.b_law_judged .nil pass0 (pa_cons (pe_call (ok_law_turned T) (hr.mono (by decide)) (by rfl) T.g_law_turned T.F_law_turned.kp T.b_law_turned .nil pass0 (pa_cons (pv 4) (pa_cons (pe_call (ok_law_numbers T) (hr.mono (by decide)) (by rfl) T.g_law_numbers T.F_law_numbers.kp T.b_law_numbers .nil pass0 (pa_cons (pv 0) (pa_cons (pv 5) (pa_cons pe_int pa_nil)))) pa_nil))) pa_nil)))) (pss_one (ps_ret pe_bl)) pss_nil))) (pss_cons (ps_for (by first | exact PassesOwn.never | exact PassesOwn.leaving) rfl (pi_list (pe_lst (pa_cons (pe_str) (pa_cons (pe_str) (pa_cons (pe_str) (pa_cons (pe_str) (pa_cons (pe_str) (pa_cons (pe_str) (pa_cons (pe_str) (pa_cons (pe_str) (pa_cons (pe_str) (pa_cons (pe_str) (pa_cons (pe_str) (pa_cons (pe_str) (pa_cons (pe_str) (pa_cons (pe_op op_add_str (pv 4) (pe_str)) pa_nil)))))))))))))))) (pg_name (i:=6) sc_law.nd rfl (Or.inl rfl)) (pss_one (ps_if (pt_not (pt_val (pe_call (ok_law_judged T) (hr.mono (by decide)) (by rfl) T.g_law_judged T.F_law_judged.kp T.b_law_judged .nil pass0 (pa_cons (pv 6) pa_nil)))) (pss_one (ps_ret pe_bl)) pss_nil))) (pss_cons (ps_for (by first | exact PassesOwn.never | exact PassesOwn.leaving) rfl (pi_list (pe_call (ok_law_bounds T) (hr.mono (by decide)) (by rfl) T.g_law_bounds T.F_law_bounds.kp T.b_law_bounds .nil pass0 (pa_cons (pe_ix ix_list (pv 1) pe_int (fun _ _=>rfl)) (pa_cons (pe_ix ix_list (pv 2) pe_int (fun _ _=>rfl)) pa_nil)))) (pg_name (i:=6) sc_law.nd rfl (Or.inl rfl)) (pss_one (ps_if (pt_not (pt_val (pe_call (ok_law_judged T) (hr.mono (by decide)) (by rfl) T.g_law_judged T.F_law_judged.kp T.b_law_judged .nil pass0 (pa_cons (pv 6) pa_nil)))) (pss_one (ps_ret pe_bl)) pss_nil))) (pss_one (ps_ret (pe_and (pe_call (ok_law_judged T) (hr.mono (by decide)) (by rfl) T.g_law_judged T.F_law_judged.kp T.b_law_judged .nil pass0 (pa_cons (pe_op op_add_str (pe_str) (pv 4)) pa_nil)) (pe_and (pe_call (ok_law_judged T) (hr.mono (by decide)) (by rfl) T.g_law_judged T.F_law_judged.kp T.b_law_judged .nil pass0 (pa_cons (pe_op op_add_str (pv 4) (pe_str)) pa_nil)) (pe_one (pe_call (ok_law_judged T) (hr.mono (by decide)) (by rfl) T.g_law_judged T.F_law_judged.kp T.b_law_judged .nil pass0 (pa_cons (pv 4) pa_nil)))))))))))))
end
theorem all_mk {l:PySem.W.OpenLaw} {w:World} {K:PySem.W.Frag} {h:Heap} {mg:Str→Option Value} {fa:Addr} (X:K.In h) (G:h.Ns mainGlobals mg) (hfa:mg "law" = some (.ref fa))
  {Y_Number Y_Name Y_Two Y_Power Y_Less:Addr}
  {f0:Addr} {od0 an0:Option Addr} {sl0:Array (Option Value)} {oc0 kV0 dc0 pm0 cd0 ct0:Value}
  (a0:PySem.W.nsIn K mainGlobals "law" = some (some (.ref f0)))
  (l0:K.lookup f0=some ⟨oc0,od0,.func (PySem.W.fnOf "law" "law" (defArgs s_law) (defBody s_law) (defScope s_law) .none kV0 dc0 pm0 an0 cd0 ct0),sl0⟩) (c0:PySem.W.codeIn K cd0 "law" = true) (k0:PySem.W.keepIn K (.ref f0)=true)
  {f1:Addr} {od1 an1:Option Addr} {sl1:Array (Option Value)} {oc1 kV1 dc1 pm1 cd1 ct1:Value}
  (a1:PySem.W.nsIn K mainGlobals "_law_numbers" = some (some (.ref f1)))
  (l1:K.lookup f1=some ⟨oc1,od1,.func (PySem.W.fnOf "_law_numbers" "_law_numbers" (defArgs s_law_numbers) (defBody s_law_numbers) (defScope s_law_numbers) .none kV1 dc1 pm1 an1 cd1 ct1),sl1⟩) (c1:PySem.W.codeIn K cd1 "_law_numbers" = true) (k1:PySem.W.keepIn K (.ref f1)=true)
  {f2:Addr} {od2 an2:Option Addr} {sl2:Array (Option Value)} {oc2 kV2 dc2 pm2 cd2 ct2:Value}
  (a2:PySem.W.nsIn K mainGlobals "_law_names" = some (some (.ref f2)))
  (l2:K.lookup f2=some ⟨oc2,od2,.func (PySem.W.fnOf "_law_names" "_law_names" (defArgs s_law_names) (defBody s_law_names) (defScope s_law_names) .none kV2 dc2 pm2 an2 cd2 ct2),sl2⟩) (c2:PySem.W.codeIn K cd2 "_law_names" = true) (k2:PySem.W.keepIn K (.ref f2)=true)
  {f3:Addr} {od3 an3:Option Addr} {sl3:Array (Option Value)} {oc3 kV3 dc3 pm3 cd3 ct3:Value}
  (a3:PySem.W.nsIn K mainGlobals "_law_grown" = some (some (.ref f3)))
  (l3:K.lookup f3=some ⟨oc3,od3,.func (PySem.W.fnOf "_law_grown" "_law_grown" (defArgs s_law_grown) (defBody s_law_grown) (defScope s_law_grown) .none kV3 dc3 pm3 an3 cd3 ct3),sl3⟩) (c3:PySem.W.codeIn K cd3 "_law_grown" = true) (k3:PySem.W.keepIn K (.ref f3)=true)
  {f4:Addr} {od4 an4:Option Addr} {sl4:Array (Option Value)} {oc4 kV4 dc4 pm4 cd4 ct4:Value}
  (a4:PySem.W.nsIn K mainGlobals "_law_step" = some (some (.ref f4)))
  (l4:K.lookup f4=some ⟨oc4,od4,.func (PySem.W.fnOf "_law_step" "_law_step" (defArgs s_law_step) (defBody s_law_step) (defScope s_law_step) .none kV4 dc4 pm4 an4 cd4 ct4),sl4⟩) (c4:PySem.W.codeIn K cd4 "_law_step" = true) (k4:PySem.W.keepIn K (.ref f4)=true)
  {f5:Addr} {od5 an5:Option Addr} {sl5:Array (Option Value)} {oc5 kV5 dc5 pm5 cd5 ct5:Value}
  (a5:PySem.W.nsIn K mainGlobals "_law_joined" = some (some (.ref f5)))
  (l5:K.lookup f5=some ⟨oc5,od5,.func (PySem.W.fnOf "_law_joined" "_law_joined" (defArgs s_law_joined) (defBody s_law_joined) (defScope s_law_joined) .none kV5 dc5 pm5 an5 cd5 ct5),sl5⟩) (c5:PySem.W.codeIn K cd5 "_law_joined" = true) (k5:PySem.W.keepIn K (.ref f5)=true)
  {f6:Addr} {od6 an6:Option Addr} {sl6:Array (Option Value)} {oc6 kV6 dc6 pm6 cd6 ct6:Value}
  (a6:PySem.W.nsIn K mainGlobals "_law_fits" = some (some (.ref f6)))
  (l6:K.lookup f6=some ⟨oc6,od6,.func (PySem.W.fnOf "_law_fits" "_law_fits" (defArgs s_law_fits) (defBody s_law_fits) (defScope s_law_fits) .none kV6 dc6 pm6 an6 cd6 ct6),sl6⟩) (c6:PySem.W.codeIn K cd6 "_law_fits" = true) (k6:PySem.W.keepIn K (.ref f6)=true)
  {f7:Addr} {od7 an7:Option Addr} {sl7:Array (Option Value)} {oc7 kV7 dc7 pm7 cd7 ct7:Value}
  (a7:PySem.W.nsIn K mainGlobals "_law_leaf" = some (some (.ref f7)))
  (l7:K.lookup f7=some ⟨oc7,od7,.func (PySem.W.fnOf "_law_leaf" "_law_leaf" (defArgs s_law_leaf) (defBody s_law_leaf) (defScope s_law_leaf) .none kV7 dc7 pm7 an7 cd7 ct7),sl7⟩) (c7:PySem.W.codeIn K cd7 "_law_leaf" = true) (k7:PySem.W.keepIn K (.ref f7)=true)
  {f8:Addr} {od8 an8:Option Addr} {sl8:Array (Option Value)} {oc8 kV8 dc8 pm8 cd8 ct8:Value}
  (a8:PySem.W.nsIn K mainGlobals "_law_text" = some (some (.ref f8)))
  (l8:K.lookup f8=some ⟨oc8,od8,.func (PySem.W.fnOf "_law_text" "_law_text" (defArgs s_law_text) (defBody s_law_text) (defScope s_law_text) .none kV8 dc8 pm8 an8 cd8 ct8),sl8⟩) (c8:PySem.W.codeIn K cd8 "_law_text" = true) (k8:PySem.W.keepIn K (.ref f8)=true)
  {f9:Addr} {od9 an9:Option Addr} {sl9:Array (Option Value)} {oc9 kV9 dc9 pm9 cd9 ct9:Value}
  (a9:PySem.W.nsIn K mainGlobals "_law_inner" = some (some (.ref f9)))
  (l9:K.lookup f9=some ⟨oc9,od9,.func (PySem.W.fnOf "_law_inner" "_law_inner" (defArgs s_law_inner) (defBody s_law_inner) (defScope s_law_inner) .none kV9 dc9 pm9 an9 cd9 ct9),sl9⟩) (c9:PySem.W.codeIn K cd9 "_law_inner" = true) (k9:PySem.W.keepIn K (.ref f9)=true)
  {f10:Addr} {od10 an10:Option Addr} {sl10:Array (Option Value)} {oc10 kV10 dc10 pm10 cd10 ct10:Value}
  (a10:PySem.W.nsIn K mainGlobals "_law_binds" = some (some (.ref f10)))
  (l10:K.lookup f10=some ⟨oc10,od10,.func (PySem.W.fnOf "_law_binds" "_law_binds" (defArgs s_law_binds) (defBody s_law_binds) (defScope s_law_binds) .none kV10 dc10 pm10 an10 cd10 ct10),sl10⟩) (c10:PySem.W.codeIn K cd10 "_law_binds" = true) (k10:PySem.W.keepIn K (.ref f10)=true)
  {f11:Addr} {od11 an11:Option Addr} {sl11:Array (Option Value)} {oc11 kV11 dc11 pm11 cd11 ct11:Value}
  (a11:PySem.W.nsIn K mainGlobals "_law_judged" = some (some (.ref f11)))
  (l11:K.lookup f11=some ⟨oc11,od11,.func (PySem.W.fnOf "_law_judged" "_law_judged" (defArgs s_law_judged) (defBody s_law_judged) (defScope s_law_judged) .none kV11 dc11 pm11 an11 cd11 ct11),sl11⟩) (c11:PySem.W.codeIn K cd11 "_law_judged" = true) (k11:PySem.W.keepIn K (.ref f11)=true)
  {f12:Addr} {od12 an12:Option Addr} {sl12:Array (Option Value)} {oc12 kV12 dc12 pm12 cd12 ct12:Value}
  (a12:PySem.W.nsIn K mainGlobals "_law_tree_of" = some (some (.ref f12)))
  (l12:K.lookup f12=some ⟨oc12,od12,.func (PySem.W.fnOf "_law_tree_of" "_law_tree_of" (defArgs s_law_tree_of) (defBody s_law_tree_of) (defScope s_law_tree_of) .none kV12 dc12 pm12 an12 cd12 ct12),sl12⟩) (c12:PySem.W.codeIn K cd12 "_law_tree_of" = true) (k12:PySem.W.keepIn K (.ref f12)=true)
  {f13:Addr} {od13 an13:Option Addr} {sl13:Array (Option Value)} {oc13 kV13 dc13 pm13 cd13 ct13:Value}
  (a13:PySem.W.nsIn K mainGlobals "_law_sum_at" = some (some (.ref f13)))
  (l13:K.lookup f13=some ⟨oc13,od13,.func (PySem.W.fnOf "_law_sum_at" "_law_sum_at" (defArgs s_law_sum_at) (defBody s_law_sum_at) (defScope s_law_sum_at) .none kV13 dc13 pm13 an13 cd13 ct13),sl13⟩) (c13:PySem.W.codeIn K cd13 "_law_sum_at" = true) (k13:PySem.W.keepIn K (.ref f13)=true)
  {f14:Addr} {od14 an14:Option Addr} {sl14:Array (Option Value)} {oc14 kV14 dc14 pm14 cd14 ct14:Value}
  (a14:PySem.W.nsIn K mainGlobals "_law_term_at" = some (some (.ref f14)))
  (l14:K.lookup f14=some ⟨oc14,od14,.func (PySem.W.fnOf "_law_term_at" "_law_term_at" (defArgs s_law_term_at) (defBody s_law_term_at) (defScope s_law_term_at) .none kV14 dc14 pm14 an14 cd14 ct14),sl14⟩) (c14:PySem.W.codeIn K cd14 "_law_term_at" = true) (k14:PySem.W.keepIn K (.ref f14)=true)
  {f15:Addr} {od15 an15:Option Addr} {sl15:Array (Option Value)} {oc15 kV15 dc15 pm15 cd15 ct15:Value}
  (a15:PySem.W.nsIn K mainGlobals "_law_factor_at" = some (some (.ref f15)))
  (l15:K.lookup f15=some ⟨oc15,od15,.func (PySem.W.fnOf "_law_factor_at" "_law_factor_at" (defArgs s_law_factor_at) (defBody s_law_factor_at) (defScope s_law_factor_at) .none kV15 dc15 pm15 an15 cd15 ct15),sl15⟩) (c15:PySem.W.codeIn K cd15 "_law_factor_at" = true) (k15:PySem.W.keepIn K (.ref f15)=true)
  {f16:Addr} {od16 an16:Option Addr} {sl16:Array (Option Value)} {oc16 kV16 dc16 pm16 cd16 ct16:Value}
  (a16:PySem.W.nsIn K mainGlobals "_law_run" = some (some (.ref f16)))
  (l16:K.lookup f16=some ⟨oc16,od16,.func (PySem.W.fnOf "_law_run" "_law_run" (defArgs s_law_run) (defBody s_law_run) (defScope s_law_run) .none kV16 dc16 pm16 an16 cd16 ct16),sl16⟩) (c16:PySem.W.codeIn K cd16 "_law_run" = true) (k16:PySem.W.keepIn K (.ref f16)=true)
  {f17:Addr} {od17 an17:Option Addr} {sl17:Array (Option Value)} {oc17 kV17 dc17 pm17 cd17 ct17:Value}
  (a17:PySem.W.nsIn K mainGlobals "_law_power_at" = some (some (.ref f17)))
  (l17:K.lookup f17=some ⟨oc17,od17,.func (PySem.W.fnOf "_law_power_at" "_law_power_at" (defArgs s_law_power_at) (defBody s_law_power_at) (defScope s_law_power_at) .none kV17 dc17 pm17 an17 cd17 ct17),sl17⟩) (c17:PySem.W.codeIn K cd17 "_law_power_at" = true) (k17:PySem.W.keepIn K (.ref f17)=true)
  {f18:Addr} {od18 an18:Option Addr} {sl18:Array (Option Value)} {oc18 kV18 dc18 pm18 cd18 ct18:Value}
  (a18:PySem.W.nsIn K mainGlobals "_law_atom_at" = some (some (.ref f18)))
  (l18:K.lookup f18=some ⟨oc18,od18,.func (PySem.W.fnOf "_law_atom_at" "_law_atom_at" (defArgs s_law_atom_at) (defBody s_law_atom_at) (defScope s_law_atom_at) .none kV18 dc18 pm18 an18 cd18 ct18),sl18⟩) (c18:PySem.W.codeIn K cd18 "_law_atom_at" = true) (k18:PySem.W.keepIn K (.ref f18)=true)
  {f19:Addr} {od19 an19:Option Addr} {sl19:Array (Option Value)} {oc19 kV19 dc19 pm19 cd19 ct19:Value}
  (a19:PySem.W.nsIn K mainGlobals "read" = some (some (.ref f19)))
  (l19:K.lookup f19=some ⟨oc19,od19,.func (PySem.W.fnOf "read" "read" (defArgs s_read) (defBody s_read) (defScope s_read) .none kV19 dc19 pm19 an19 cd19 ct19),sl19⟩) (c19:PySem.W.codeIn K cd19 "read" = true) (k19:PySem.W.keepIn K (.ref f19)=true)
  {f20:Addr} {od20 an20:Option Addr} {sl20:Array (Option Value)} {oc20 kV20 dc20 pm20 cd20 ct20:Value}
  (a20:PySem.W.nsIn K mainGlobals "sum_at" = some (some (.ref f20)))
  (l20:K.lookup f20=some ⟨oc20,od20,.func (PySem.W.fnOf "sum_at" "sum_at" (defArgs s_sum_at) (defBody s_sum_at) (defScope s_sum_at) .none kV20 dc20 pm20 an20 cd20 ct20),sl20⟩) (c20:PySem.W.codeIn K cd20 "sum_at" = true) (k20:PySem.W.keepIn K (.ref f20)=true)
  {f21:Addr} {od21 an21:Option Addr} {sl21:Array (Option Value)} {oc21 kV21 dc21 pm21 cd21 ct21:Value}
  (a21:PySem.W.nsIn K mainGlobals "row_at" = some (some (.ref f21)))
  (l21:K.lookup f21=some ⟨oc21,od21,.func (PySem.W.fnOf "row_at" "row_at" (defArgs s_row_at) (defBody s_row_at) (defScope s_row_at) .none kV21 dc21 pm21 an21 cd21 ct21),sl21⟩) (c21:PySem.W.codeIn K cd21 "row_at" = true) (k21:PySem.W.keepIn K (.ref f21)=true)
  {f22:Addr} {od22 an22:Option Addr} {sl22:Array (Option Value)} {oc22 kV22 dc22 pm22 cd22 ct22:Value}
  (a22Two:PySem.W.findIn K (.ref Y_Two) "__init__" = some (some (.ref f22)))
  (i22:PySem.W.isFn K (.ref f22)=true)
  (l22:K.lookup f22=some ⟨oc22,od22,.func (PySem.W.fnOf "__init__" "Two.__init__" (defArgs s_Two_init) (defBody s_Two_init) (defScope s_Two_init) .none kV22 dc22 pm22 an22 cd22 ct22),sl22⟩) (c22:PySem.W.codeIn K cd22 "Two.__init__" = true) (k22:PySem.W.keepIn K (.ref f22)=true)
  {f23:Addr} {od23 an23:Option Addr} {sl23:Array (Option Value)} {oc23 kV23 dc23 pm23 cd23 ct23:Value}
  (a23:PySem.W.nsIn K mainGlobals "term_at" = some (some (.ref f23)))
  (l23:K.lookup f23=some ⟨oc23,od23,.func (PySem.W.fnOf "term_at" "term_at" (defArgs s_term_at) (defBody s_term_at) (defScope s_term_at) .none kV23 dc23 pm23 an23 cd23 ct23),sl23⟩) (c23:PySem.W.codeIn K cd23 "term_at" = true) (k23:PySem.W.keepIn K (.ref f23)=true)
  {f24:Addr} {od24 an24:Option Addr} {sl24:Array (Option Value)} {oc24 kV24 dc24 pm24 cd24 ct24:Value}
  (a24:PySem.W.nsIn K mainGlobals "factor_at" = some (some (.ref f24)))
  (l24:K.lookup f24=some ⟨oc24,od24,.func (PySem.W.fnOf "factor_at" "factor_at" (defArgs s_factor_at) (defBody s_factor_at) (defScope s_factor_at) .none kV24 dc24 pm24 an24 cd24 ct24),sl24⟩) (c24:PySem.W.codeIn K cd24 "factor_at" = true) (k24:PySem.W.keepIn K (.ref f24)=true)
  {f25:Addr} {od25 an25:Option Addr} {sl25:Array (Option Value)} {oc25 kV25 dc25 pm25 cd25 ct25:Value}
  (a25:PySem.W.nsIn K mainGlobals "power_at" = some (some (.ref f25)))
  (l25:K.lookup f25=some ⟨oc25,od25,.func (PySem.W.fnOf "power_at" "power_at" (defArgs s_power_at) (defBody s_power_at) (defScope s_power_at) .none kV25 dc25 pm25 an25 cd25 ct25),sl25⟩) (c25:PySem.W.codeIn K cd25 "power_at" = true) (k25:PySem.W.keepIn K (.ref f25)=true)
  {f26:Addr} {od26 an26:Option Addr} {sl26:Array (Option Value)} {oc26 kV26 dc26 pm26 cd26 ct26:Value}
  (a26:PySem.W.nsIn K mainGlobals "atom_at" = some (some (.ref f26)))
  (l26:K.lookup f26=some ⟨oc26,od26,.func (PySem.W.fnOf "atom_at" "atom_at" (defArgs s_atom_at) (defBody s_atom_at) (defScope s_atom_at) .none kV26 dc26 pm26 an26 cd26 ct26),sl26⟩) (c26:PySem.W.codeIn K cd26 "atom_at" = true) (k26:PySem.W.keepIn K (.ref f26)=true)
  {f27:Addr} {od27 an27:Option Addr} {sl27:Array (Option Value)} {oc27 kV27 dc27 pm27 cd27 ct27:Value}
  (a27:PySem.W.nsIn K mainGlobals "whole_at" = some (some (.ref f27)))
  (l27:K.lookup f27=some ⟨oc27,od27,.func (PySem.W.fnOf "whole_at" "whole_at" (defArgs s_whole_at) (defBody s_whole_at) (defScope s_whole_at) .none kV27 dc27 pm27 an27 cd27 ct27),sl27⟩) (c27:PySem.W.codeIn K cd27 "whole_at" = true) (k27:PySem.W.keepIn K (.ref f27)=true)
  {f28:Addr} {od28 an28:Option Addr} {sl28:Array (Option Value)} {oc28 kV28 dc28 pm28 cd28 ct28:Value}
  (a28:PySem.W.nsIn K mainGlobals "run_of" = some (some (.ref f28)))
  (l28:K.lookup f28=some ⟨oc28,od28,.func (PySem.W.fnOf "run_of" "run_of" (defArgs s_run_of) (defBody s_run_of) (defScope s_run_of) .none kV28 dc28 pm28 an28 cd28 ct28),sl28⟩) (c28:PySem.W.codeIn K cd28 "run_of" = true) (k28:PySem.W.keepIn K (.ref f28)=true)
  {f29:Addr} {od29 an29:Option Addr} {sl29:Array (Option Value)} {oc29 kV29 dc29 pm29 cd29 ct29:Value}
  (a29Number:PySem.W.findIn K (.ref Y_Number) "__init__" = some (some (.ref f29)))
  (i29:PySem.W.isFn K (.ref f29)=true)
  (l29:K.lookup f29=some ⟨oc29,od29,.func (PySem.W.fnOf "__init__" "Number.__init__" (defArgs s_Number_init) (defBody s_Number_init) (defScope s_Number_init) .none kV29 dc29 pm29 an29 cd29 ct29),sl29⟩) (c29:PySem.W.codeIn K cd29 "Number.__init__" = true) (k29:PySem.W.keepIn K (.ref f29)=true)
  {f30:Addr} {od30 an30:Option Addr} {sl30:Array (Option Value)} {oc30 kV30 dc30 pm30 cd30 ct30:Value}
  (a30Name:PySem.W.findIn K (.ref Y_Name) "__init__" = some (some (.ref f30)))
  (i30:PySem.W.isFn K (.ref f30)=true)
  (l30:K.lookup f30=some ⟨oc30,od30,.func (PySem.W.fnOf "__init__" "Name.__init__" (defArgs s_Name_init) (defBody s_Name_init) (defScope s_Name_init) .none kV30 dc30 pm30 an30 cd30 ct30),sl30⟩) (c30:PySem.W.codeIn K cd30 "Name.__init__" = true) (k30:PySem.W.keepIn K (.ref f30)=true)
  {f31:Addr} {od31 an31:Option Addr} {sl31:Array (Option Value)} {oc31 kV31 dc31 pm31 cd31 ct31:Value}
  (a31Power:PySem.W.findIn K (.ref Y_Power) "__init__" = some (some (.ref f31)))
  (i31:PySem.W.isFn K (.ref f31)=true)
  (l31:K.lookup f31=some ⟨oc31,od31,.func (PySem.W.fnOf "__init__" "Power.__init__" (defArgs s_Power_init) (defBody s_Power_init) (defScope s_Power_init) .none kV31 dc31 pm31 an31 cd31 ct31),sl31⟩) (c31:PySem.W.codeIn K cd31 "Power.__init__" = true) (k31:PySem.W.keepIn K (.ref f31)=true)
  {f32:Addr} {od32 an32:Option Addr} {sl32:Array (Option Value)} {oc32 kV32 dc32 pm32 cd32 ct32:Value}
  (a32Less:PySem.W.findIn K (.ref Y_Less) "__init__" = some (some (.ref f32)))
  (i32:PySem.W.isFn K (.ref f32)=true)
  (l32:K.lookup f32=some ⟨oc32,od32,.func (PySem.W.fnOf "__init__" "Less.__init__" (defArgs s_Less_init) (defBody s_Less_init) (defScope s_Less_init) .none kV32 dc32 pm32 an32 cd32 ct32),sl32⟩) (c32:PySem.W.codeIn K cd32 "Less.__init__" = true) (k32:PySem.W.keepIn K (.ref f32)=true)
  {f33:Addr} {od33 an33:Option Addr} {sl33:Array (Option Value)} {oc33 kV33 dc33 pm33 cd33 ct33:Value}
  (a33:PySem.W.nsIn K mainGlobals "_law_kinds" = some (some (.ref f33)))
  (l33:K.lookup f33=some ⟨oc33,od33,.func (PySem.W.fnOf "_law_kinds" "_law_kinds" (defArgs s_law_kinds) (defBody s_law_kinds) (defScope s_law_kinds) .none kV33 dc33 pm33 an33 cd33 ct33),sl33⟩) (c33:PySem.W.codeIn K cd33 "_law_kinds" = true) (k33:PySem.W.keepIn K (.ref f33)=true)
  {f34:Addr} {od34 an34:Option Addr} {sl34:Array (Option Value)} {oc34 kV34 dc34 pm34 cd34 ct34:Value}
  (a34Number:PySem.W.findIn K (.ref Y_Number) "shown" = some (some (.ref f34)))
  (i34:PySem.W.isFn K (.ref f34)=true)
  (l34:K.lookup f34=some ⟨oc34,od34,.func (PySem.W.fnOf "shown" "Number.shown" (defArgs s_Number_shown) (defBody s_Number_shown) (defScope s_Number_shown) .none kV34 dc34 pm34 an34 cd34 ct34),sl34⟩) (c34:PySem.W.codeIn K cd34 "Number.shown" = true) (k34:PySem.W.keepIn K (.ref f34)=true)
  {f35:Addr} {od35 an35:Option Addr} {sl35:Array (Option Value)} {oc35 kV35 dc35 pm35 cd35 ct35:Value}
  (a35Name:PySem.W.findIn K (.ref Y_Name) "shown" = some (some (.ref f35)))
  (i35:PySem.W.isFn K (.ref f35)=true)
  (l35:K.lookup f35=some ⟨oc35,od35,.func (PySem.W.fnOf "shown" "Name.shown" (defArgs s_Name_shown) (defBody s_Name_shown) (defScope s_Name_shown) .none kV35 dc35 pm35 an35 cd35 ct35),sl35⟩) (c35:PySem.W.codeIn K cd35 "Name.shown" = true) (k35:PySem.W.keepIn K (.ref f35)=true)
  {f36:Addr} {od36 an36:Option Addr} {sl36:Array (Option Value)} {oc36 kV36 dc36 pm36 cd36 ct36:Value}
  (a36Two:PySem.W.findIn K (.ref Y_Two) "shown" = some (some (.ref f36)))
  (i36:PySem.W.isFn K (.ref f36)=true)
  (l36:K.lookup f36=some ⟨oc36,od36,.func (PySem.W.fnOf "shown" "Two.shown" (defArgs s_Two_shown) (defBody s_Two_shown) (defScope s_Two_shown) .none kV36 dc36 pm36 an36 cd36 ct36),sl36⟩) (c36:PySem.W.codeIn K cd36 "Two.shown" = true) (k36:PySem.W.keepIn K (.ref f36)=true)
  {f37:Addr} {od37 an37:Option Addr} {sl37:Array (Option Value)} {oc37 kV37 dc37 pm37 cd37 ct37:Value}
  (a37Two:PySem.W.findIn K (.ref Y_Two) "spine" = some (some (.ref f37)))
  (i37:PySem.W.isFn K (.ref f37)=true)
  (l37:K.lookup f37=some ⟨oc37,od37,.func (PySem.W.fnOf "spine" "Two.spine" (defArgs s_Two_spine) (defBody s_Two_spine) (defScope s_Two_spine) .none kV37 dc37 pm37 an37 cd37 ct37),sl37⟩) (c37:PySem.W.codeIn K cd37 "Two.spine" = true) (k37:PySem.W.keepIn K (.ref f37)=true)
  {f38:Addr} {od38 an38:Option Addr} {sl38:Array (Option Value)} {oc38 kV38 dc38 pm38 cd38 ct38:Value}
  (a38:PySem.W.nsIn K mainGlobals "bracketed" = some (some (.ref f38)))
  (l38:K.lookup f38=some ⟨oc38,od38,.func (PySem.W.fnOf "bracketed" "bracketed" (defArgs s_bracketed) (defBody s_bracketed) (defScope s_bracketed) .none kV38 dc38 pm38 an38 cd38 ct38),sl38⟩) (c38:PySem.W.codeIn K cd38 "bracketed" = true) (k38:PySem.W.keepIn K (.ref f38)=true)
  {f39:Addr} {od39 an39:Option Addr} {sl39:Array (Option Value)} {oc39 kV39 dc39 pm39 cd39 ct39:Value}
  (a39Number:PySem.W.findIn K (.ref Y_Number) "binds" = some (some (.ref f39)))
  (i39:PySem.W.isFn K (.ref f39)=true)
  (l39:K.lookup f39=some ⟨oc39,od39,.func (PySem.W.fnOf "binds" "Number.binds" (defArgs s_Number_binds) (defBody s_Number_binds) (defScope s_Number_binds) .none kV39 dc39 pm39 an39 cd39 ct39),sl39⟩) (c39:PySem.W.codeIn K cd39 "Number.binds" = true) (k39:PySem.W.keepIn K (.ref f39)=true)
  {f40:Addr} {od40 an40:Option Addr} {sl40:Array (Option Value)} {oc40 kV40 dc40 pm40 cd40 ct40:Value}
  (a40Name:PySem.W.findIn K (.ref Y_Name) "binds" = some (some (.ref f40)))
  (i40:PySem.W.isFn K (.ref f40)=true)
  (l40:K.lookup f40=some ⟨oc40,od40,.func (PySem.W.fnOf "binds" "Name.binds" (defArgs s_Name_binds) (defBody s_Name_binds) (defScope s_Name_binds) .none kV40 dc40 pm40 an40 cd40 ct40),sl40⟩) (c40:PySem.W.codeIn K cd40 "Name.binds" = true) (k40:PySem.W.keepIn K (.ref f40)=true)
  {f41:Addr} {od41 an41:Option Addr} {sl41:Array (Option Value)} {oc41 kV41 dc41 pm41 cd41 ct41:Value}
  (a41Two:PySem.W.findIn K (.ref Y_Two) "binds" = some (some (.ref f41)))
  (i41:PySem.W.isFn K (.ref f41)=true)
  (l41:K.lookup f41=some ⟨oc41,od41,.func (PySem.W.fnOf "binds" "Two.binds" (defArgs s_Two_binds) (defBody s_Two_binds) (defScope s_Two_binds) .none kV41 dc41 pm41 an41 cd41 ct41),sl41⟩) (c41:PySem.W.codeIn K cd41 "Two.binds" = true) (k41:PySem.W.keepIn K (.ref f41)=true)
  {f42:Addr} {od42 an42:Option Addr} {sl42:Array (Option Value)} {oc42 kV42 dc42 pm42 cd42 ct42:Value}
  (a42Power:PySem.W.findIn K (.ref Y_Power) "binds" = some (some (.ref f42)))
  (i42:PySem.W.isFn K (.ref f42)=true)
  (l42:K.lookup f42=some ⟨oc42,od42,.func (PySem.W.fnOf "binds" "Power.binds" (defArgs s_Power_binds) (defBody s_Power_binds) (defScope s_Power_binds) .none kV42 dc42 pm42 an42 cd42 ct42),sl42⟩) (c42:PySem.W.codeIn K cd42 "Power.binds" = true) (k42:PySem.W.keepIn K (.ref f42)=true)
  {f43:Addr} {od43 an43:Option Addr} {sl43:Array (Option Value)} {oc43 kV43 dc43 pm43 cd43 ct43:Value}
  (a43Less:PySem.W.findIn K (.ref Y_Less) "binds" = some (some (.ref f43)))
  (i43:PySem.W.isFn K (.ref f43)=true)
  (l43:K.lookup f43=some ⟨oc43,od43,.func (PySem.W.fnOf "binds" "Less.binds" (defArgs s_Less_binds) (defBody s_Less_binds) (defScope s_Less_binds) .none kV43 dc43 pm43 an43 cd43 ct43),sl43⟩) (c43:PySem.W.codeIn K cd43 "Less.binds" = true) (k43:PySem.W.keepIn K (.ref f43)=true)
  {f44:Addr} {od44 an44:Option Addr} {sl44:Array (Option Value)} {oc44 kV44 dc44 pm44 cd44 ct44:Value}
  (a44Power:PySem.W.findIn K (.ref Y_Power) "shown" = some (some (.ref f44)))
  (i44:PySem.W.isFn K (.ref f44)=true)
  (l44:K.lookup f44=some ⟨oc44,od44,.func (PySem.W.fnOf "shown" "Power.shown" (defArgs s_Power_shown) (defBody s_Power_shown) (defScope s_Power_shown) .none kV44 dc44 pm44 an44 cd44 ct44),sl44⟩) (c44:PySem.W.codeIn K cd44 "Power.shown" = true) (k44:PySem.W.keepIn K (.ref f44)=true)
  {f45:Addr} {od45 an45:Option Addr} {sl45:Array (Option Value)} {oc45 kV45 dc45 pm45 cd45 ct45:Value}
  (a45Less:PySem.W.findIn K (.ref Y_Less) "shown" = some (some (.ref f45)))
  (i45:PySem.W.isFn K (.ref f45)=true)
  (l45:K.lookup f45=some ⟨oc45,od45,.func (PySem.W.fnOf "shown" "Less.shown" (defArgs s_Less_shown) (defBody s_Less_shown) (defScope s_Less_shown) .none kV45 dc45 pm45 an45 cd45 ct45),sl45⟩) (c45:PySem.W.codeIn K cd45 "Less.shown" = true) (k45:PySem.W.keepIn K (.ref f45)=true)
  {f46:Addr} {od46 an46:Option Addr} {sl46:Array (Option Value)} {oc46 kV46 dc46 pm46 cd46 ct46:Value}
  (a46Less:PySem.W.findIn K (.ref Y_Less) "core" = some (some (.ref f46)))
  (i46:PySem.W.isFn K (.ref f46)=true)
  (l46:K.lookup f46=some ⟨oc46,od46,.func (PySem.W.fnOf "core" "Less.core" (defArgs s_Less_core) (defBody s_Less_core) (defScope s_Less_core) .none kV46 dc46 pm46 an46 cd46 ct46),sl46⟩) (c46:PySem.W.codeIn K cd46 "Less.core" = true) (k46:PySem.W.keepIn K (.ref f46)=true)
  {f47:Addr} {od47 an47:Option Addr} {sl47:Array (Option Value)} {oc47 kV47 dc47 pm47 cd47 ct47:Value}
  (a47:PySem.W.nsIn K mainGlobals "_law_turned" = some (some (.ref f47)))
  (l47:K.lookup f47=some ⟨oc47,od47,.func (PySem.W.fnOf "_law_turned" "_law_turned" (defArgs s_law_turned) (defBody s_law_turned) (defScope s_law_turned) .none kV47 dc47 pm47 an47 cd47 ct47),sl47⟩) (c47:PySem.W.codeIn K cd47 "_law_turned" = true) (k47:PySem.W.keepIn K (.ref f47)=true)
  {f48:Addr} {od48 an48:Option Addr} {sl48:Array (Option Value)} {oc48 kV48 dc48 pm48 cd48 ct48:Value}
  (a48:PySem.W.nsIn K mainGlobals "_law_bounds" = some (some (.ref f48)))
  (l48:K.lookup f48=some ⟨oc48,od48,.func (PySem.W.fnOf "_law_bounds" "_law_bounds" (defArgs s_law_bounds) (defBody s_law_bounds) (defScope s_law_bounds) .none kV48 dc48 pm48 an48 cd48 ct48),sl48⟩) (c48:PySem.W.codeIn K cd48 "_law_bounds" = true) (k48:PySem.W.keepIn K (.ref f48)=true)
  (gYNumber:PySem.W.nsIn K mainGlobals "Number" = some (some (.ref Y_Number)))
  (pgNumber:PySem.W.plainGet K Y_Number Str.empty=true) (hdNumber:PySem.W.hasDictIn K Y_Number=true) (poNumber:PySem.W.plainOver K Y_Number=true) (saNumber:PySem.W.findIn K (.ref Y_Number) "__setattr__" = some (some (.builtin "object.__setattr__"))) (mkNumber:PySem.W.makesIn K Y_Number=true) (kcNumber:PySem.W.keepIn K (.ref Y_Number)=true)
  (haNumber:PySem.W.findIn K (.ref Y_Number) "__class__" = some (some (.builtin "object.__class__"))) (hnNumber:PySem.W.specialIn K (.builtin "object.__class__") "__get__" = some (some (.builtin "getset_descriptor.__get__"))) (htNumber:PySem.W.takesIn K (.builtin "object.__class__")=some true) (hmNumber:PySem.W.mroIn K Y_Number (.type "object")=some true)
  (f_whole:PySem.W.findIn K (.ref Y_Number) "whole" = some none)
  (gYName:PySem.W.nsIn K mainGlobals "Name" = some (some (.ref Y_Name)))
  (pgName:PySem.W.plainGet K Y_Name Str.empty=true) (hdName:PySem.W.hasDictIn K Y_Name=true) (poName:PySem.W.plainOver K Y_Name=true) (saName:PySem.W.findIn K (.ref Y_Name) "__setattr__" = some (some (.builtin "object.__setattr__"))) (mkName:PySem.W.makesIn K Y_Name=true) (kcName:PySem.W.keepIn K (.ref Y_Name)=true)
  (haName:PySem.W.findIn K (.ref Y_Name) "__class__" = some (some (.builtin "object.__class__"))) (hnName:PySem.W.specialIn K (.builtin "object.__class__") "__get__" = some (some (.builtin "getset_descriptor.__get__"))) (htName:PySem.W.takesIn K (.builtin "object.__class__")=some true) (hmName:PySem.W.mroIn K Y_Name (.type "object")=some true)
  (f_word:PySem.W.findIn K (.ref Y_Name) "word" = some none)
  (gYTwo:PySem.W.nsIn K mainGlobals "Two" = some (some (.ref Y_Two)))
  (pgTwo:PySem.W.plainGet K Y_Two Str.empty=true) (hdTwo:PySem.W.hasDictIn K Y_Two=true) (poTwo:PySem.W.plainOver K Y_Two=true) (saTwo:PySem.W.findIn K (.ref Y_Two) "__setattr__" = some (some (.builtin "object.__setattr__"))) (mkTwo:PySem.W.makesIn K Y_Two=true) (kcTwo:PySem.W.keepIn K (.ref Y_Two)=true)
  (haTwo:PySem.W.findIn K (.ref Y_Two) "__class__" = some (some (.builtin "object.__class__"))) (hnTwo:PySem.W.specialIn K (.builtin "object.__class__") "__get__" = some (some (.builtin "getset_descriptor.__get__"))) (htTwo:PySem.W.takesIn K (.builtin "object.__class__")=some true) (hmTwo:PySem.W.mroIn K Y_Two (.type "object")=some true)
  (f_sign:PySem.W.findIn K (.ref Y_Two) "sign" = some none)
  (f_left:PySem.W.findIn K (.ref Y_Two) "left" = some none)
  (f_right:PySem.W.findIn K (.ref Y_Two) "right" = some none)
  (gYPower:PySem.W.nsIn K mainGlobals "Power" = some (some (.ref Y_Power)))
  (pgPower:PySem.W.plainGet K Y_Power Str.empty=true) (hdPower:PySem.W.hasDictIn K Y_Power=true) (poPower:PySem.W.plainOver K Y_Power=true) (saPower:PySem.W.findIn K (.ref Y_Power) "__setattr__" = some (some (.builtin "object.__setattr__"))) (mkPower:PySem.W.makesIn K Y_Power=true) (kcPower:PySem.W.keepIn K (.ref Y_Power)=true)
  (haPower:PySem.W.findIn K (.ref Y_Power) "__class__" = some (some (.builtin "object.__class__"))) (hnPower:PySem.W.specialIn K (.builtin "object.__class__") "__get__" = some (some (.builtin "getset_descriptor.__get__"))) (htPower:PySem.W.takesIn K (.builtin "object.__class__")=some true) (hmPower:PySem.W.mroIn K Y_Power (.type "object")=some true)
  (f_base:PySem.W.findIn K (.ref Y_Power) "base" = some none)
  (f_exponent:PySem.W.findIn K (.ref Y_Power) "exponent" = some none)
  (gYLess:PySem.W.nsIn K mainGlobals "Less" = some (some (.ref Y_Less)))
  (pgLess:PySem.W.plainGet K Y_Less Str.empty=true) (hdLess:PySem.W.hasDictIn K Y_Less=true) (poLess:PySem.W.plainOver K Y_Less=true) (saLess:PySem.W.findIn K (.ref Y_Less) "__setattr__" = some (some (.builtin "object.__setattr__"))) (mkLess:PySem.W.makesIn K Y_Less=true) (kcLess:PySem.W.keepIn K (.ref Y_Less)=true)
  (haLess:PySem.W.findIn K (.ref Y_Less) "__class__" = some (some (.builtin "object.__class__"))) (hnLess:PySem.W.specialIn K (.builtin "object.__class__") "__get__" = some (some (.builtin "getset_descriptor.__get__"))) (htLess:PySem.W.takesIn K (.builtin "object.__class__")=some true) (hmLess:PySem.W.mroIn K Y_Less (.type "object")=some true)
  (f_inner:PySem.W.findIn K (.ref Y_Less) "inner" = some none)
  (iyTwo:PySem.W.isClsIn K Y_Two=true) (tyTwo:PySem.W.typeIn K (.ref Y_Two)=some (.type "type"))
  (suNumberTwo:PySem.W.subIn K (.ref Y_Number) (.ref Y_Two)=some false) (neNumberTwo:(Value.ref Y_Number == Value.ref Y_Two)=false)
  (suNameTwo:PySem.W.subIn K (.ref Y_Name) (.ref Y_Two)=some false) (neNameTwo:(Value.ref Y_Name == Value.ref Y_Two)=false)
  (suPowerTwo:PySem.W.subIn K (.ref Y_Power) (.ref Y_Two)=some false) (nePowerTwo:(Value.ref Y_Power == Value.ref Y_Two)=false)
  (suLessTwo:PySem.W.subIn K (.ref Y_Less) (.ref Y_Two)=some false) (neLessTwo:(Value.ref Y_Less == Value.ref Y_Two)=false)
  (iyLess:PySem.W.isClsIn K Y_Less=true) (tyLess:PySem.W.typeIn K (.ref Y_Less)=some (.type "type"))
  (suNumberLess:PySem.W.subIn K (.ref Y_Number) (.ref Y_Less)=some false) (neNumberLess:(Value.ref Y_Number == Value.ref Y_Less)=false)
  (suNameLess:PySem.W.subIn K (.ref Y_Name) (.ref Y_Less)=some false) (neNameLess:(Value.ref Y_Name == Value.ref Y_Less)=false)
  (suTwoLess:PySem.W.subIn K (.ref Y_Two) (.ref Y_Less)=some false) (neTwoLess:(Value.ref Y_Two == Value.ref Y_Less)=false)
  (suPowerLess:PySem.W.subIn K (.ref Y_Power) (.ref Y_Less)=some false) (nePowerLess:(Value.ref Y_Power == Value.ref Y_Less)=false)
  {C_HouseError C_NoNumber C_NoRow C_NoValue C_NoText C_NoRoot C_TooFar C_NoLine:Addr}
  (gHouseError:PySem.W.nsIn K mainGlobals "HouseError" = some (some (.ref C_HouseError)))
  (gNoNumber:PySem.W.nsIn K mainGlobals "NoNumber" = some (some (.ref C_NoNumber)))
  (gNoRow:PySem.W.nsIn K mainGlobals "NoRow" = some (some (.ref C_NoRow)))
  (gNoValue:PySem.W.nsIn K mainGlobals "NoValue" = some (some (.ref C_NoValue)))
  (gNoText:PySem.W.nsIn K mainGlobals "NoText" = some (some (.ref C_NoText)))
  (gNoRoot:PySem.W.nsIn K mainGlobals "NoRoot" = some (some (.ref C_NoRoot)))
  (gTooFar:PySem.W.nsIn K mainGlobals "TooFar" = some (some (.ref C_TooFar)))
  (gNoLine:PySem.W.nsIn K mainGlobals "NoLine" = some (some (.ref C_NoLine)))
  (xNoText:PySem.W.excIn K C_NoText [.type "ValueError",.type "Exception",.type "BaseException",.type "object"] "ValueError.__new__" = true) (kNoText:PySem.W.keepIn K (.ref C_NoText)=true) (sNoText:PySem.W.subIn K (.ref C_NoText) (.type "BaseException")=some true) (tNoText:PySem.W.typeIn K (.ref C_NoText)=some (.type "type"))
  (eaNoText:PySem.W.findIn K (.ref C_NoText) "__getattribute__" = some (some (.builtin "BaseException.__getattribute__"))) (ebNoText:PySem.W.findIn K (.ref C_NoText) "__getattr__" = some none) (edNoText:PySem.W.hasDictIn K C_NoText=true) (eeNoText:PySem.W.findIn K (.ref C_NoText) "__class__" = some (some (.builtin "object.__class__"))) (efNoText:PySem.W.specialIn K (.builtin "object.__class__") "__get__" = some (some (.builtin "getset_descriptor.__get__"))) (egNoText:PySem.W.takesIn K (.builtin "object.__class__")=some true) (ehNoText:PySem.W.mroIn K C_NoText (.type "object")=some true)
  (ejNoText:PySem.W.subIn K (.ref C_NoText) (.type "ValueError")=some true)
  (u0NoText:PySem.W.subIn K (.ref C_NoText) (.ref C_HouseError)=some true) (v0NoText:(Value.ref C_NoText == Value.ref C_HouseError)=false)
  (u1NoText:PySem.W.subIn K (.ref C_NoText) (.ref C_NoNumber)=some false) (v1NoText:(Value.ref C_NoText == Value.ref C_NoNumber)=false)
  (u2NoText:PySem.W.subIn K (.ref C_NoText) (.ref C_NoRow)=some false) (v2NoText:(Value.ref C_NoText == Value.ref C_NoRow)=false)
  (u3NoText:PySem.W.subIn K (.ref C_NoText) (.ref C_NoValue)=some false) (v3NoText:(Value.ref C_NoText == Value.ref C_NoValue)=false)
  (u5NoText:PySem.W.subIn K (.ref C_NoText) (.ref C_NoRoot)=some false) (v5NoText:(Value.ref C_NoText == Value.ref C_NoRoot)=false)
  (u6NoText:PySem.W.subIn K (.ref C_NoText) (.ref C_TooFar)=some false) (v6NoText:(Value.ref C_NoText == Value.ref C_TooFar)=false)
  (u7NoText:PySem.W.subIn K (.ref C_NoText) (.ref C_NoLine)=some false) (v7NoText:(Value.ref C_NoText == Value.ref C_NoLine)=false)
  (icHouseError:PySem.W.isClsIn K C_HouseError=true)
  (tHouseError:PySem.W.typeIn K (.ref C_HouseError)=some (.type "type"))
  (icNoNumber:PySem.W.isClsIn K C_NoNumber=true)
  (tNoNumber:PySem.W.typeIn K (.ref C_NoNumber)=some (.type "type"))
  (icNoRow:PySem.W.isClsIn K C_NoRow=true)
  (tNoRow:PySem.W.typeIn K (.ref C_NoRow)=some (.type "type"))
  (icNoValue:PySem.W.isClsIn K C_NoValue=true)
  (tNoValue:PySem.W.typeIn K (.ref C_NoValue)=some (.type "type"))
  (icNoText:PySem.W.isClsIn K C_NoText=true)
  (icNoRoot:PySem.W.isClsIn K C_NoRoot=true)
  (tNoRoot:PySem.W.typeIn K (.ref C_NoRoot)=some (.type "type"))
  (icTooFar:PySem.W.isClsIn K C_TooFar=true)
  (tTooFar:PySem.W.typeIn K (.ref C_TooFar)=some (.type "type"))
  (icNoLine:PySem.W.isClsIn K C_NoLine=true)
  (tNoLine:PySem.W.typeIn K (.ref C_NoLine)=some (.type "type"))
  (sHouseError:PySem.W.subIn K (.ref C_HouseError) (.type "BaseException")=some true)
  {tkATOM:Tok} (qATOM:PySem.W.nsIn K mainGlobals "ATOM" = some (some (.int 4 tkATOM)))
  {tkDEEP:Tok} (qDEEP:PySem.W.nsIn K mainGlobals "DEEP" = some (some (.int 30 tkDEEP)))
  {tkFACTOR:Tok} (qFACTOR:PySem.W.nsIn K mainGlobals "FACTOR" = some (some (.int 2 tkFACTOR)))
  {tkFIGURES:Tok} (qFIGURES:PySem.W.nsIn K mainGlobals "FIGURES" = some (some (.str "0123456789" tkFIGURES)))
  {tkLETTERS:Tok} (qLETTERS:PySem.W.nsIn K mainGlobals "LETTERS" = some (some (.str "abcdefghijklmnopqrstuvwxyz" tkLETTERS)))
  {tkPOWER:Tok} (qPOWER:PySem.W.nsIn K mainGlobals "POWER" = some (some (.int 3 tkPOWER)))
  {tkSIGNS:Tok} (qSIGNS:PySem.W.nsIn K mainGlobals "SIGNS" = some (some (.int 1000 tkSIGNS)))
  {tkSUM:Tok} (qSUM:PySem.W.nsIn K mainGlobals "SUM" = some (some (.int 0 tkSUM)))
  {tkTERM:Tok} (qTERM:PySem.W.nsIn K mainGlobals "TERM" = some (some (.int 1 tkTERM)))
  (z0:PySem.W.nsIn K mainGlobals "ValueError" = some none)
  (z1:PySem.W.nsIn K mainGlobals "abs" = some none)
  (z2:PySem.W.nsIn K mainGlobals "int" = some none)
  (z3:PySem.W.nsIn K mainGlobals "isinstance" = some none)
  (z4:PySem.W.nsIn K mainGlobals "len" = some none)
  (z5:PySem.W.nsIn K mainGlobals "max" = some none)
  (z6:PySem.W.nsIn K mainGlobals "range" = some none)
  (z7:PySem.W.nsIn K mainGlobals "str" = some none)
  : ∃ fd:FuncData,(∀ (s:Shared) (v:Value),BindsTo s fd ⟨[v],[]⟩ [("_law_script",v)])∧∀ base:Heap,K.In base→base.Ns mainGlobals mg→FnOk l.prog w K mg base CX0 222 fa fd ["_law_script"] (sp_law K):=by
 have e:=hfa.symm.trans (PySem.W.mg_of X G a0)
 cases e
 have F0:=fun_mk (st:=s_law) l0 c0 k0
 have b0:=F0.binds (ps:=["_law_script"]) fun _ _ _ _ _ _ us hl=>match us,hl with | [_],_=>rfl
 have F1:=fun_mk (st:=s_law_numbers) l1 c1 k1
 have b1:=F1.binds (ps:=["_law_script","_law_k","_law_many"]) fun _ _ _ _ _ _ us hl=>match us,hl with | [_,_,_],_=>rfl
 have F2:=fun_mk (st:=s_law_names) l2 c2 k2
 have b2:=F2.binds (ps:=["_law_numbers_here"]) fun _ _ _ _ _ _ us hl=>match us,hl with | [_],_=>rfl
 have F3:=fun_mk (st:=s_law_grown) l3 c3 k3
 have b3:=F3.binds (ps:=["_law_numbers_here","_law_names_here","_law_most"]) fun _ _ _ _ _ _ us hl=>match us,hl with | [_,_,_],_=>rfl
 have F4:=fun_mk (st:=s_law_step) l4 c4 k4
 have b4:=F4.binds (ps:=["_law_stack","_law_number","_law_names_here","_law_most"]) fun _ _ _ _ _ _ us hl=>match us,hl with | [_,_,_,_],_=>rfl
 have F5:=fun_mk (st:=s_law_joined) l5 c5 k5
 have b5:=F5.binds (ps:=["_law_sign","_law_one","_law_other"]) fun _ _ _ _ _ _ us hl=>match us,hl with | [_,_,_],_=>rfl
 have F6:=fun_mk (st:=s_law_fits) l6 c6 k6
 have b6:=F6.binds (ps:=["_law_part","_law_most"]) fun _ _ _ _ _ _ us hl=>match us,hl with | [_,_],_=>rfl
 have F7:=fun_mk (st:=s_law_leaf) l7 c7 k7
 have b7:=F7.binds (ps:=["_law_number","_law_names_here"]) fun _ _ _ _ _ _ us hl=>match us,hl with | [_,_],_=>rfl
 have F8:=fun_mk (st:=s_law_text) l8 c8 k8
 have b8:=F8.binds (ps:=["_law_tree"]) fun _ _ _ _ _ _ us hl=>match us,hl with | [_],_=>rfl
 have F9:=fun_mk (st:=s_law_inner) l9 c9 k9
 have b9:=F9.binds (ps:=["_law_tree","_law_least"]) fun _ _ _ _ _ _ us hl=>match us,hl with | [_,_],_=>rfl
 have F10:=fun_mk (st:=s_law_binds) l10 c10 k10
 have b10:=F10.binds (ps:=["_law_tree"]) fun _ _ _ _ _ _ us hl=>match us,hl with | [_],_=>rfl
 have F11:=fun_mk (st:=s_law_judged) l11 c11 k11
 have b11:=F11.binds (ps:=["_law_text_here"]) fun _ _ _ _ _ _ us hl=>match us,hl with | [_],_=>rfl
 have F12:=fun_mk (st:=s_law_tree_of) l12 c12 k12
 have b12:=F12.binds (ps:=["_law_text_here"]) fun _ _ _ _ _ _ us hl=>match us,hl with | [_],_=>rfl
 have F13:=fun_mk (st:=s_law_sum_at) l13 c13 k13
 have b13:=F13.binds (ps:=["_law_text_here","_law_at","_law_deep"]) fun _ _ _ _ _ _ us hl=>match us,hl with | [_,_,_],_=>rfl
 have F14:=fun_mk (st:=s_law_term_at) l14 c14 k14
 have b14:=F14.binds (ps:=["_law_text_here","_law_at","_law_deep"]) fun _ _ _ _ _ _ us hl=>match us,hl with | [_,_,_],_=>rfl
 have F15:=fun_mk (st:=s_law_factor_at) l15 c15 k15
 have b15:=F15.binds (ps:=["_law_text_here","_law_at","_law_deep"]) fun _ _ _ _ _ _ us hl=>match us,hl with | [_,_,_],_=>rfl
 have F16:=fun_mk (st:=s_law_run) l16 c16 k16
 have b16:=F16.binds (ps:=["_law_text_here","_law_at","_law_signs"]) fun _ _ _ _ _ _ us hl=>match us,hl with | [_,_,_],_=>rfl
 have F17:=fun_mk (st:=s_law_power_at) l17 c17 k17
 have b17:=F17.binds (ps:=["_law_text_here","_law_at","_law_deep"]) fun _ _ _ _ _ _ us hl=>match us,hl with | [_,_,_],_=>rfl
 have F18:=fun_mk (st:=s_law_atom_at) l18 c18 k18
 have b18:=F18.binds (ps:=["_law_text_here","_law_at","_law_deep"]) fun _ _ _ _ _ _ us hl=>match us,hl with | [_,_,_],_=>rfl
 have F19:=fun_mk (st:=s_read) l19 c19 k19
 have b19:=F19.binds (ps:=["text"]) fun _ _ _ _ _ _ us hl=>match us,hl with | [_],_=>rfl
 have F20:=fun_mk (st:=s_sum_at) l20 c20 k20
 have b20:=F20.binds (ps:=["text","at","deep"]) fun _ _ _ _ _ _ us hl=>match us,hl with | [_,_,_],_=>rfl
 have F21:=fun_mk (st:=s_row_at) l21 c21 k21
 have b21:=F21.binds (ps:=["text","at","deep","signs","reader"]) fun _ _ _ _ _ _ us hl=>match us,hl with | [_,_,_,_,_],_=>rfl
 have F22:=fun_mk (st:=s_Two_init) l22 c22 k22
 have b22:=F22.binds (ps:=["self","sign","left","right"]) fun _ _ _ _ _ _ us hl=>match us,hl with | [_,_,_,_],_=>rfl
 have F23:=fun_mk (st:=s_term_at) l23 c23 k23
 have b23:=F23.binds (ps:=["text","at","deep"]) fun _ _ _ _ _ _ us hl=>match us,hl with | [_,_,_],_=>rfl
 have F24:=fun_mk (st:=s_factor_at) l24 c24 k24
 have b24:=F24.binds (ps:=["text","at","deep"]) fun _ _ _ _ _ _ us hl=>match us,hl with | [_,_,_],_=>rfl
 have F25:=fun_mk (st:=s_power_at) l25 c25 k25
 have b25:=F25.binds (ps:=["text","at","deep"]) fun _ _ _ _ _ _ us hl=>match us,hl with | [_,_,_],_=>rfl
 have F26:=fun_mk (st:=s_atom_at) l26 c26 k26
 have b26:=F26.binds (ps:=["text","at","deep"]) fun _ _ _ _ _ _ us hl=>match us,hl with | [_,_,_],_=>rfl
 have F27:=fun_mk (st:=s_whole_at) l27 c27 k27
 have b27:=F27.binds (ps:=["text","at","most"]) fun _ _ _ _ _ _ us hl=>match us,hl with | [_,_,_],_=>rfl
 have F28:=fun_mk (st:=s_run_of) l28 c28 k28
 have b28:=F28.binds (ps:=["text","at","signs","most"]) fun _ _ _ _ _ _ us hl=>match us,hl with | [_,_,_,_],_=>rfl
 have F29:=fun_mk (st:=s_Number_init) l29 c29 k29
 have b29:=F29.binds (ps:=["self","whole"]) fun _ _ _ _ _ _ us hl=>match us,hl with | [_,_],_=>rfl
 have F30:=fun_mk (st:=s_Name_init) l30 c30 k30
 have b30:=F30.binds (ps:=["self","word"]) fun _ _ _ _ _ _ us hl=>match us,hl with | [_,_],_=>rfl
 have F31:=fun_mk (st:=s_Power_init) l31 c31 k31
 have b31:=F31.binds (ps:=["self","base","exponent"]) fun _ _ _ _ _ _ us hl=>match us,hl with | [_,_,_],_=>rfl
 have F32:=fun_mk (st:=s_Less_init) l32 c32 k32
 have b32:=F32.binds (ps:=["self","inner"]) fun _ _ _ _ _ _ us hl=>match us,hl with | [_,_],_=>rfl
 have F33:=fun_mk (st:=s_law_kinds) l33 c33 k33
 have b33:=F33.binds (ps:=["_law_caught"]) fun _ _ _ _ _ _ us hl=>match us,hl with | [_],_=>rfl
 have F34:=fun_mk (st:=s_Number_shown) l34 c34 k34
 have b34:=F34.binds (ps:=["self"]) fun _ _ _ _ _ _ us hl=>match us,hl with | [_],_=>rfl
 have F35:=fun_mk (st:=s_Name_shown) l35 c35 k35
 have b35:=F35.binds (ps:=["self"]) fun _ _ _ _ _ _ us hl=>match us,hl with | [_],_=>rfl
 have F36:=fun_mk (st:=s_Two_shown) l36 c36 k36
 have b36:=F36.binds (ps:=["self"]) fun _ _ _ _ _ _ us hl=>match us,hl with | [_],_=>rfl
 have F37:=fun_mk (st:=s_Two_spine) l37 c37 k37
 have b37:=F37.binds (ps:=["self"]) fun _ _ _ _ _ _ us hl=>match us,hl with | [_],_=>rfl
 have F38:=fun_mk (st:=s_bracketed) l38 c38 k38
 have b38:=F38.binds (ps:=["part","least"]) fun _ _ _ _ _ _ us hl=>match us,hl with | [_,_],_=>rfl
 have F39:=fun_mk (st:=s_Number_binds) l39 c39 k39
 have b39:=F39.binds (ps:=["self"]) fun _ _ _ _ _ _ us hl=>match us,hl with | [_],_=>rfl
 have F40:=fun_mk (st:=s_Name_binds) l40 c40 k40
 have b40:=F40.binds (ps:=["self"]) fun _ _ _ _ _ _ us hl=>match us,hl with | [_],_=>rfl
 have F41:=fun_mk (st:=s_Two_binds) l41 c41 k41
 have b41:=F41.binds (ps:=["self"]) fun _ _ _ _ _ _ us hl=>match us,hl with | [_],_=>rfl
 have F42:=fun_mk (st:=s_Power_binds) l42 c42 k42
 have b42:=F42.binds (ps:=["self"]) fun _ _ _ _ _ _ us hl=>match us,hl with | [_],_=>rfl
 have F43:=fun_mk (st:=s_Less_binds) l43 c43 k43
 have b43:=F43.binds (ps:=["self"]) fun _ _ _ _ _ _ us hl=>match us,hl with | [_],_=>rfl
 have F44:=fun_mk (st:=s_Power_shown) l44 c44 k44
 have b44:=F44.binds (ps:=["self"]) fun _ _ _ _ _ _ us hl=>match us,hl with | [_],_=>rfl
 have F45:=fun_mk (st:=s_Less_shown) l45 c45 k45
 have b45:=F45.binds (ps:=["self"]) fun _ _ _ _ _ _ us hl=>match us,hl with | [_],_=>rfl
 have F46:=fun_mk (st:=s_Less_core) l46 c46 k46
 have b46:=F46.binds (ps:=["self"]) fun _ _ _ _ _ _ us hl=>match us,hl with | [_],_=>rfl
 have F47:=fun_mk (st:=s_law_turned) l47 c47 k47
 have b47:=F47.binds (ps:=["_law_text_here","_law_numbers_here"]) fun _ _ _ _ _ _ us hl=>match us,hl with | [_,_],_=>rfl
 have F48:=fun_mk (st:=s_law_bounds) l48 c48 k48
 have b48:=F48.binds (ps:=["_law_number","_law_name"]) fun _ _ _ _ _ _ us hl=>match us,hl with | [_,_],_=>rfl
 have ckNumber:ClsK K Y_Number:=⟨⟨pgNumber,hdNumber,poNumber,saNumber⟩,haNumber,hnNumber,htNumber,hmNumber⟩
 have ckName:ClsK K Y_Name:=⟨⟨pgName,hdName,poName,saName⟩,haName,hnName,htName,hmName⟩
 have ckTwo:ClsK K Y_Two:=⟨⟨pgTwo,hdTwo,poTwo,saTwo⟩,haTwo,hnTwo,htTwo,hmTwo⟩
 have ckPower:ClsK K Y_Power:=⟨⟨pgPower,hdPower,poPower,saPower⟩,haPower,hnPower,htPower,hmPower⟩
 have ckLess:ClsK K Y_Less:=⟨⟨pgLess,hdLess,poLess,saLess⟩,haLess,hnLess,htLess,hmLess⟩
 let Yv:ExC:=⟨Y_Number,Y_Name,Y_Two,Y_Power,Y_Less⟩
 have xk:ExK K Yv:={
  cNumber:=ckNumber,cName:=ckName,cTwo:=ckTwo,cPower:=ckPower,cLess:=ckLess,f_whole:=f_whole,f_word:=f_word,f_sign:=f_sign,f_left:=f_left,f_right:=f_right,f_base:=f_base,f_exponent:=f_exponent,f_inner:=f_inner,
  i2:=fun e=>by cases e with
   | num=>exact kit_ref iyTwo tyTwo suNumberTwo neNumberTwo
   | name=>exact kit_ref iyTwo tyTwo suNameTwo neNameTwo
   | two=>exact kit_self
   | pow=>exact kit_ref iyTwo tyTwo suPowerTwo nePowerTwo
   | less=>exact kit_ref iyTwo tyTwo suLessTwo neLessTwo
  i4:=fun e=>by cases e with
   | num=>exact kit_ref iyLess tyLess suNumberLess neNumberLess
   | name=>exact kit_ref iyLess tyLess suNameLess neNameLess
   | two=>exact kit_ref iyLess tyLess suTwoLess neTwoLess
   | pow=>exact kit_ref iyLess tyLess suPowerLess nePowerLess
   | less=>exact kit_self
 }
 let T:Txt K mg:={
  a_law:=_,
  d_law:=_,
  F_law:=F0,
  b_law:=b0,
  g_law:=PySem.W.mg_of X G a0,
  a_law_numbers:=_,
  d_law_numbers:=_,
  F_law_numbers:=F1,
  b_law_numbers:=b1,
  g_law_numbers:=PySem.W.mg_of X G a1,
  a_law_names:=_,
  d_law_names:=_,
  F_law_names:=F2,
  b_law_names:=b2,
  g_law_names:=PySem.W.mg_of X G a2,
  a_law_grown:=_,
  d_law_grown:=_,
  F_law_grown:=F3,
  b_law_grown:=b3,
  g_law_grown:=PySem.W.mg_of X G a3,
  a_law_step:=_,
  d_law_step:=_,
  F_law_step:=F4,
  b_law_step:=b4,
  g_law_step:=PySem.W.mg_of X G a4,
  a_law_joined:=_,
  d_law_joined:=_,
  F_law_joined:=F5,
  b_law_joined:=b5,
  g_law_joined:=PySem.W.mg_of X G a5,
  a_law_fits:=_,
  d_law_fits:=_,
  F_law_fits:=F6,
  b_law_fits:=b6,
  g_law_fits:=PySem.W.mg_of X G a6,
  a_law_leaf:=_,
  d_law_leaf:=_,
  F_law_leaf:=F7,
  b_law_leaf:=b7,
  g_law_leaf:=PySem.W.mg_of X G a7,
  a_law_text:=_,
  d_law_text:=_,
  F_law_text:=F8,
  b_law_text:=b8,
  g_law_text:=PySem.W.mg_of X G a8,
  a_law_inner:=_,
  d_law_inner:=_,
  F_law_inner:=F9,
  b_law_inner:=b9,
  g_law_inner:=PySem.W.mg_of X G a9,
  a_law_binds:=_,
  d_law_binds:=_,
  F_law_binds:=F10,
  b_law_binds:=b10,
  g_law_binds:=PySem.W.mg_of X G a10,
  a_law_judged:=_,
  d_law_judged:=_,
  F_law_judged:=F11,
  b_law_judged:=b11,
  g_law_judged:=PySem.W.mg_of X G a11,
  a_law_tree_of:=_,
  d_law_tree_of:=_,
  F_law_tree_of:=F12,
  b_law_tree_of:=b12,
  g_law_tree_of:=PySem.W.mg_of X G a12,
  a_law_sum_at:=_,
  d_law_sum_at:=_,
  F_law_sum_at:=F13,
  b_law_sum_at:=b13,
  g_law_sum_at:=PySem.W.mg_of X G a13,
  a_law_term_at:=_,
  d_law_term_at:=_,
  F_law_term_at:=F14,
  b_law_term_at:=b14,
  g_law_term_at:=PySem.W.mg_of X G a14,
  a_law_factor_at:=_,
  d_law_factor_at:=_,
  F_law_factor_at:=F15,
  b_law_factor_at:=b15,
  g_law_factor_at:=PySem.W.mg_of X G a15,
  a_law_run:=_,
  d_law_run:=_,
  F_law_run:=F16,
  b_law_run:=b16,
  g_law_run:=PySem.W.mg_of X G a16,
  a_law_power_at:=_,
  d_law_power_at:=_,
  F_law_power_at:=F17,
  b_law_power_at:=b17,
  g_law_power_at:=PySem.W.mg_of X G a17,
  a_law_atom_at:=_,
  d_law_atom_at:=_,
  F_law_atom_at:=F18,
  b_law_atom_at:=b18,
  g_law_atom_at:=PySem.W.mg_of X G a18,
  a_read:=_,
  d_read:=_,
  F_read:=F19,
  b_read:=b19,
  g_read:=PySem.W.mg_of X G a19,
  a_sum_at:=_,
  d_sum_at:=_,
  F_sum_at:=F20,
  b_sum_at:=b20,
  g_sum_at:=PySem.W.mg_of X G a20,
  a_row_at:=_,
  d_row_at:=_,
  F_row_at:=F21,
  b_row_at:=b21,
  g_row_at:=PySem.W.mg_of X G a21,
  a_Two_init:=_,
  d_Two_init:=_,
  F_Two_init:=F22,
  b_Two_init:=b22,
  mk_Two:=⟨mkTwo,a22Two,i22,kcTwo⟩,
  a_term_at:=_,
  d_term_at:=_,
  F_term_at:=F23,
  b_term_at:=b23,
  g_term_at:=PySem.W.mg_of X G a23,
  a_factor_at:=_,
  d_factor_at:=_,
  F_factor_at:=F24,
  b_factor_at:=b24,
  g_factor_at:=PySem.W.mg_of X G a24,
  a_power_at:=_,
  d_power_at:=_,
  F_power_at:=F25,
  b_power_at:=b25,
  g_power_at:=PySem.W.mg_of X G a25,
  a_atom_at:=_,
  d_atom_at:=_,
  F_atom_at:=F26,
  b_atom_at:=b26,
  g_atom_at:=PySem.W.mg_of X G a26,
  a_whole_at:=_,
  d_whole_at:=_,
  F_whole_at:=F27,
  b_whole_at:=b27,
  g_whole_at:=PySem.W.mg_of X G a27,
  a_run_of:=_,
  d_run_of:=_,
  F_run_of:=F28,
  b_run_of:=b28,
  g_run_of:=PySem.W.mg_of X G a28,
  a_Number_init:=_,
  d_Number_init:=_,
  F_Number_init:=F29,
  b_Number_init:=b29,
  mk_Number:=⟨mkNumber,a29Number,i29,kcNumber⟩,
  a_Name_init:=_,
  d_Name_init:=_,
  F_Name_init:=F30,
  b_Name_init:=b30,
  mk_Name:=⟨mkName,a30Name,i30,kcName⟩,
  a_Power_init:=_,
  d_Power_init:=_,
  F_Power_init:=F31,
  b_Power_init:=b31,
  mk_Power:=⟨mkPower,a31Power,i31,kcPower⟩,
  a_Less_init:=_,
  d_Less_init:=_,
  F_Less_init:=F32,
  b_Less_init:=b32,
  mk_Less:=⟨mkLess,a32Less,i32,kcLess⟩,
  a_law_kinds:=_,
  d_law_kinds:=_,
  F_law_kinds:=F33,
  b_law_kinds:=b33,
  g_law_kinds:=PySem.W.mg_of X G a33,
  a_Number_shown:=_,
  d_Number_shown:=_,
  F_Number_shown:=F34,
  b_Number_shown:=b34,
  m_Number_shown:=⟨a34Number,i34,k34⟩,
  a_Name_shown:=_,
  d_Name_shown:=_,
  F_Name_shown:=F35,
  b_Name_shown:=b35,
  m_Name_shown:=⟨a35Name,i35,k35⟩,
  a_Two_shown:=_,
  d_Two_shown:=_,
  F_Two_shown:=F36,
  b_Two_shown:=b36,
  m_Two_shown:=⟨a36Two,i36,k36⟩,
  a_Two_spine:=_,
  d_Two_spine:=_,
  F_Two_spine:=F37,
  b_Two_spine:=b37,
  m_Two_spine:=⟨a37Two,i37,k37⟩,
  a_bracketed:=_,
  d_bracketed:=_,
  F_bracketed:=F38,
  b_bracketed:=b38,
  g_bracketed:=PySem.W.mg_of X G a38,
  a_Number_binds:=_,
  d_Number_binds:=_,
  F_Number_binds:=F39,
  b_Number_binds:=b39,
  m_Number_binds:=⟨a39Number,i39,k39⟩,
  a_Name_binds:=_,
  d_Name_binds:=_,
  F_Name_binds:=F40,
  b_Name_binds:=b40,
  m_Name_binds:=⟨a40Name,i40,k40⟩,
  a_Two_binds:=_,
  d_Two_binds:=_,
  F_Two_binds:=F41,
  b_Two_binds:=b41,
  m_Two_binds:=⟨a41Two,i41,k41⟩,
  a_Power_binds:=_,
  d_Power_binds:=_,
  F_Power_binds:=F42,
  b_Power_binds:=b42,
  m_Power_binds:=⟨a42Power,i42,k42⟩,
  a_Less_binds:=_,
  d_Less_binds:=_,
  F_Less_binds:=F43,
  b_Less_binds:=b43,
  m_Less_binds:=⟨a43Less,i43,k43⟩,
  a_Power_shown:=_,
  d_Power_shown:=_,
  F_Power_shown:=F44,
  b_Power_shown:=b44,
  m_Power_shown:=⟨a44Power,i44,k44⟩,
  a_Less_shown:=_,
  d_Less_shown:=_,
  F_Less_shown:=F45,
  b_Less_shown:=b45,
  m_Less_shown:=⟨a45Less,i45,k45⟩,
  a_Less_core:=_,
  d_Less_core:=_,
  F_Less_core:=F46,
  b_Less_core:=b46,
  m_Less_core:=⟨a46Less,i46,k46⟩,
  a_law_turned:=_,
  d_law_turned:=_,
  F_law_turned:=F47,
  b_law_turned:=b47,
  g_law_turned:=PySem.W.mg_of X G a47,
  a_law_bounds:=_,
  d_law_bounds:=_,
  F_law_bounds:=F48,
  b_law_bounds:=b48,
  g_law_bounds:=PySem.W.mg_of X G a48,
  C:=⟨C_HouseError,C_NoNumber,C_NoRow,C_NoValue,C_NoText,C_NoRoot,C_TooFar,C_NoLine⟩,
  Y:=Yv,
  x:=xk,
  g_Number:=PySem.W.mg_of X G gYNumber,
  g_Name:=PySem.W.mg_of X G gYName,
  g_Two:=PySem.W.mg_of X G gYTwo,
  g_Power:=PySem.W.mg_of X G gYPower,
  g_Less:=PySem.W.mg_of X G gYLess,
  g_HouseError:=PySem.W.mg_of X G gHouseError,
  g_NoNumber:=PySem.W.mg_of X G gNoNumber,
  g_NoRow:=PySem.W.mg_of X G gNoRow,
  g_NoValue:=PySem.W.mg_of X G gNoValue,
  g_NoText:=PySem.W.mg_of X G gNoText,
  g_NoRoot:=PySem.W.mg_of X G gNoRoot,
  g_TooFar:=PySem.W.mg_of X G gTooFar,
  g_NoLine:=PySem.W.mg_of X G gNoLine,
  x_NoText:=xNoText,
  k_NoText:=kNoText,
  s_NoText:=sNoText,
  t_NoText:=tNoText,
  kh_NoText:=kit_ref icHouseError tHouseError u0NoText v0NoText,
  e_NoText:=⟨⟨eaNoText,ebNoText,sNoText,edNoText,eeNoText,efNoText,egNoText,ehNoText⟩,exm_up sHouseError icHouseError tHouseError u0NoText,kit_bt (by decide +kernel) ejNoText,kit_ref icNoNumber tNoNumber u1NoText v1NoText,kit_ref icNoRow tNoRow u2NoText v2NoText,kit_ref icNoValue tNoValue u3NoText v3NoText,kit_self,kit_ref icNoRoot tNoRoot u5NoText v5NoText,kit_ref icTooFar tTooFar u6NoText v6NoText,kit_ref icNoLine tNoLine u7NoText v7NoText⟩,
  c_ATOM:=⟨_,PySem.W.mg_of X G qATOM,⟨_,rfl⟩⟩,
  c_DEEP:=⟨_,PySem.W.mg_of X G qDEEP,⟨_,rfl⟩⟩,
  c_FACTOR:=⟨_,PySem.W.mg_of X G qFACTOR,⟨_,rfl⟩⟩,
  c_FIGURES:=⟨_,PySem.W.mg_of X G qFIGURES,⟨_,rfl⟩⟩,
  c_LETTERS:=⟨_,PySem.W.mg_of X G qLETTERS,⟨_,rfl⟩⟩,
  c_POWER:=⟨_,PySem.W.mg_of X G qPOWER,⟨_,rfl⟩⟩,
  c_SIGNS:=⟨_,PySem.W.mg_of X G qSIGNS,⟨_,rfl⟩⟩,
  c_SUM:=⟨_,PySem.W.mg_of X G qSUM,⟨_,rfl⟩⟩,
  c_TERM:=⟨_,PySem.W.mg_of X G qTERM,⟨_,rfl⟩⟩,
  n_ValueError:=PySem.W.mg_none_of X G z0,
  n_abs:=PySem.W.mg_none_of X G z1,
  n_int:=PySem.W.mg_none_of X G z2,
  n_isinstance:=PySem.W.mg_none_of X G z3,
  n_len:=PySem.W.mg_none_of X G z4,
  n_max:=PySem.W.mg_none_of X G z5,
  n_range:=PySem.W.mg_none_of X G z6,
  n_str:=PySem.W.mg_none_of X G z7 }
 exact ⟨_,fun s v=>.of_eq rfl,fun base _ _=>ok_law T⟩
theorem walk {l:PySem.W.OpenLaw} {q:Program} {loose:List Str} {XP:(Str→Option Value)→Heap→Prop} {YP:World→Heap→Prop} {d:DefRec} {K:Params→PySem.W.Frag} (hn:l.most=some 63) (hdf:d.params.defaults=[])
  (hY:∀ (w:World) (h:Heap),YP w h→(K w.params).In h)
  (F:∀ (w:World) (mg:Str→Option Value) (fa:Addr) (h:Heap),(K w.params).In h→h.Ns mainGlobals mg→mg d.name=some (.ref fa) →
   ∃ fd:FuncData,(∀ (s:Shared) (u:Value),BindsTo s fd ⟨[u],[]⟩ [("_law_script",u)])∧∀ base:Heap,(K w.params).In base→base.Ns mainGlobals mg→FnOk l.prog w (K w.params) mg base CX0 222 fa fd ["_law_script"] (sp_law (K w.params))) :
  PySem.W.WalkO q loose XP YP l.row.toRowW d [] (fun f vs=>PySem.call f vs) :=
 L2.walk_of (n:=63) (k:=222) (x:="_law_script") (CX:=fun _=>CX0) (sp:=fun w=>sp_law (K w.params)) hn (by decide) hdf ⟨rfl,by decide,by decide⟩ hY F (fun _ H a ns hl _ hS=>⟨H,(ns,()),Ex.refl H,⟨_,_,rfl,⟨a,_,rfl,hS,reps_of_ints ns⟩,rfl⟩,hl,fun _ _ _ _ r=>r⟩) fun _ _ _ _ _ z=>z
end Lw.X.P18
open PySem PySem.W PyProof.Rows
set_option maxRecDepth 100000 in
set_option maxHeartbeats 0 in
theorem PySem.Challenge.cw_paperwright_k18_what_is_no_text_holds : PySem.Challenge.rw_paperwright_k18_what_is_no_text.Holds := by
 w_on;o_law;k_head;(case hw=>w_witness2)
 k_fill
 refine Lw.X.P18.walk (l:=PySem.Challenge.rw_paperwright_k18_what_is_no_text) rfl rfl (fun w h Y=>PySem.W.kIn_of Y) ?F
 case F =>
  intro w mg fa h KX G hmg
  refine' Lw.X.P18.all_mk KX G hmg ?a0 ?l0 ?c0 ?k0 ?a1 ?l1 ?c1 ?k1 ?a2 ?l2 ?c2 ?k2 ?a3 ?l3 ?c3 ?k3 ?a4 ?l4 ?c4 ?k4 ?a5 ?l5 ?c5 ?k5 ?a6 ?l6 ?c6 ?k6 ?a7 ?l7 ?c7 ?k7 ?a8 ?l8 ?c8 ?k8 ?a9 ?l9 ?c9 ?k9 ?a10 ?l10 ?c10 ?k10 ?a11 ?l11 ?c11 ?k11 ?a12 ?l12 ?c12 ?k12 ?a13 ?l13 ?c13 ?k13 ?a14 ?l14 ?c14 ?k14 ?a15 ?l15 ?c15 ?k15 ?a16 ?l16 ?c16 ?k16 ?a17 ?l17 ?c17 ?k17 ?a18 ?l18 ?c18 ?k18 ?a19 ?l19 ?c19 ?k19 ?a20 ?l20 ?c20 ?k20 ?a21 ?l21 ?c21 ?k21 ?a22Two ?i22 ?l22 ?c22 ?k22 ?a23 ?l23 ?c23 ?k23 ?a24 ?l24 ?c24 ?k24 ?a25 ?l25 ?c25 ?k25 ?a26 ?l26 ?c26 ?k26 ?a27 ?l27 ?c27 ?k27 ?a28 ?l28 ?c28 ?k28 ?a29Number ?i29 ?l29 ?c29 ?k29 ?a30Name ?i30 ?l30 ?c30 ?k30 ?a31Power ?i31 ?l31 ?c31 ?k31 ?a32Less ?i32 ?l32 ?c32 ?k32 ?a33 ?l33 ?c33 ?k33 ?a34Number ?i34 ?l34 ?c34 ?k34 ?a35Name ?i35 ?l35 ?c35 ?k35 ?a36Two ?i36 ?l36 ?c36 ?k36 ?a37Two ?i37 ?l37 ?c37 ?k37 ?a38 ?l38 ?c38 ?k38 ?a39Number ?i39 ?l39 ?c39 ?k39 ?a40Name ?i40 ?l40 ?c40 ?k40 ?a41Two ?i41 ?l41 ?c41 ?k41 ?a42Power ?i42 ?l42 ?c42 ?k42 ?a43Less ?i43 ?l43 ?c43 ?k43 ?a44Power ?i44 ?l44 ?c44 ?k44 ?a45Less ?i45 ?l45 ?c45 ?k45 ?a46Less ?i46 ?l46 ?c46 ?k46 ?a47 ?l47 ?c47 ?k47 ?a48 ?l48 ?c48 ?k48 ?gYNumber ?pgNumber ?hdNumber ?poNumber ?saNumber ?mkNumber ?kcNumber ?haNumber ?hnNumber ?htNumber ?hmNumber ?f_whole ?gYName ?pgName ?hdName ?poName ?saName ?mkName ?kcName ?haName ?hnName ?htName ?hmName ?f_word ?gYTwo ?pgTwo ?hdTwo ?poTwo ?saTwo ?mkTwo ?kcTwo ?haTwo ?hnTwo ?htTwo ?hmTwo ?f_sign ?f_left ?f_right ?gYPower ?pgPower ?hdPower ?poPower ?saPower ?mkPower ?kcPower ?haPower ?hnPower ?htPower ?hmPower ?f_base ?f_exponent ?gYLess ?pgLess ?hdLess ?poLess ?saLess ?mkLess ?kcLess ?haLess ?hnLess ?htLess ?hmLess ?f_inner ?iyTwo ?tyTwo ?suNumberTwo ?neNumberTwo ?suNameTwo ?neNameTwo ?suPowerTwo ?nePowerTwo ?suLessTwo ?neLessTwo ?iyLess ?tyLess ?suNumberLess ?neNumberLess ?suNameLess ?neNameLess ?suTwoLess ?neTwoLess ?suPowerLess ?nePowerLess ?gHouseError ?gNoNumber ?gNoRow ?gNoValue ?gNoText ?gNoRoot ?gTooFar ?gNoLine ?xNoText ?kNoText ?sNoText ?tNoText ?eaNoText ?ebNoText ?edNoText ?eeNoText ?efNoText ?egNoText ?ehNoText ?ejNoText ?u0NoText ?v0NoText ?u1NoText ?v1NoText ?u2NoText ?v2NoText ?u3NoText ?v3NoText ?u5NoText ?v5NoText ?u6NoText ?v6NoText ?u7NoText ?v7NoText ?icHouseError ?tHouseError ?icNoNumber ?tNoNumber ?icNoRow ?tNoRow ?icNoValue ?tNoValue ?icNoText ?icNoRoot ?tNoRoot ?icTooFar ?tTooFar ?icNoLine ?tNoLine ?sHouseError ?qATOM ?qDEEP ?qFACTOR ?qFIGURES ?qLETTERS ?qPOWER ?qSIGNS ?qSUM ?qTERM ?z0 ?z1 ?z2 ?z3 ?z4 ?z5 ?z6 ?z7
  (case gYNumber=>k_is)
  (case gYName=>k_is)
  (case gYTwo=>k_is)
  (case gYPower=>k_is)
  (case gYLess=>k_is)
  (case a0=>k_is)
  (case l0=>k_is)
  (case c0=>k_is)
  (case k0=>k_is)
  (case a1=>k_is)
  (case l1=>k_is)
  (case c1=>k_is)
  (case k1=>k_is)
  (case a2=>k_is)
  (case l2=>k_is)
  (case c2=>k_is)
  (case k2=>k_is)
  (case a3=>k_is)
  (case l3=>k_is)
  (case c3=>k_is)
  (case k3=>k_is)
  (case a4=>k_is)
  (case l4=>k_is)
  (case c4=>k_is)
  (case k4=>k_is)
  (case a5=>k_is)
  (case l5=>k_is)
  (case c5=>k_is)
  (case k5=>k_is)
  (case a6=>k_is)
  (case l6=>k_is)
  (case c6=>k_is)
  (case k6=>k_is)
  (case a7=>k_is)
  (case l7=>k_is)
  (case c7=>k_is)
  (case k7=>k_is)
  (case a8=>k_is)
  (case l8=>k_is)
  (case c8=>k_is)
  (case k8=>k_is)
  (case a9=>k_is)
  (case l9=>k_is)
  (case c9=>k_is)
  (case k9=>k_is)
  (case a10=>k_is)
  (case l10=>k_is)
  (case c10=>k_is)
  (case k10=>k_is)
  (case a11=>k_is)
  (case l11=>k_is)
  (case c11=>k_is)
  (case k11=>k_is)
  (case a12=>k_is)
  (case l12=>k_is)
  (case c12=>k_is)
  (case k12=>k_is)
  (case a13=>k_is)
  (case l13=>k_is)
  (case c13=>k_is)
  (case k13=>k_is)
  (case a14=>k_is)
  (case l14=>k_is)
  (case c14=>k_is)
  (case k14=>k_is)
  (case a15=>k_is)
  (case l15=>k_is)
  (case c15=>k_is)
  (case k15=>k_is)
  (case a16=>k_is)
  (case l16=>k_is)
  (case c16=>k_is)
  (case k16=>k_is)
  (case a17=>k_is)
  (case l17=>k_is)
  (case c17=>k_is)
  (case k17=>k_is)
  (case a18=>k_is)
  (case l18=>k_is)
  (case c18=>k_is)
  (case k18=>k_is)
  (case a19=>k_is)
  (case l19=>k_is)
  (case c19=>k_is)
  (case k19=>k_is)
  (case a20=>k_is)
  (case l20=>k_is)
  (case c20=>k_is)
  (case k20=>k_is)
  (case a21=>k_is)
  (case l21=>k_is)
  (case c21=>k_is)
  (case k21=>k_is)
  (case a22Two=>k_is)
  (case i22=>k_is)
  (case l22=>k_is)
  (case c22=>k_is)
  (case k22=>k_is)
  (case a23=>k_is)
  (case l23=>k_is)
  (case c23=>k_is)
  (case k23=>k_is)
  (case a24=>k_is)
  (case l24=>k_is)
  (case c24=>k_is)
  (case k24=>k_is)
  (case a25=>k_is)
  (case l25=>k_is)
  (case c25=>k_is)
  (case k25=>k_is)
  (case a26=>k_is)
  (case l26=>k_is)
  (case c26=>k_is)
  (case k26=>k_is)
  (case a27=>k_is)
  (case l27=>k_is)
  (case c27=>k_is)
  (case k27=>k_is)
  (case a28=>k_is)
  (case l28=>k_is)
  (case c28=>k_is)
  (case k28=>k_is)
  (case a29Number=>k_is)
  (case i29=>k_is)
  (case l29=>k_is)
  (case c29=>k_is)
  (case k29=>k_is)
  (case a30Name=>k_is)
  (case i30=>k_is)
  (case l30=>k_is)
  (case c30=>k_is)
  (case k30=>k_is)
  (case a31Power=>k_is)
  (case i31=>k_is)
  (case l31=>k_is)
  (case c31=>k_is)
  (case k31=>k_is)
  (case a32Less=>k_is)
  (case i32=>k_is)
  (case l32=>k_is)
  (case c32=>k_is)
  (case k32=>k_is)
  (case a33=>k_is)
  (case l33=>k_is)
  (case c33=>k_is)
  (case k33=>k_is)
  (case a34Number=>k_is)
  (case i34=>k_is)
  (case l34=>k_is)
  (case c34=>k_is)
  (case k34=>k_is)
  (case a35Name=>k_is)
  (case i35=>k_is)
  (case l35=>k_is)
  (case c35=>k_is)
  (case k35=>k_is)
  (case a36Two=>k_is)
  (case i36=>k_is)
  (case l36=>k_is)
  (case c36=>k_is)
  (case k36=>k_is)
  (case a37Two=>k_is)
  (case i37=>k_is)
  (case l37=>k_is)
  (case c37=>k_is)
  (case k37=>k_is)
  (case a38=>k_is)
  (case l38=>k_is)
  (case c38=>k_is)
  (case k38=>k_is)
  (case a39Number=>k_is)
  (case i39=>k_is)
  (case l39=>k_is)
  (case c39=>k_is)
  (case k39=>k_is)
  (case a40Name=>k_is)
  (case i40=>k_is)
  (case l40=>k_is)
  (case c40=>k_is)
  (case k40=>k_is)
  (case a41Two=>k_is)
  (case i41=>k_is)
  (case l41=>k_is)
  (case c41=>k_is)
  (case k41=>k_is)
  (case a42Power=>k_is)
  (case i42=>k_is)
  (case l42=>k_is)
  (case c42=>k_is)
  (case k42=>k_is)
  (case a43Less=>k_is)
  (case i43=>k_is)
  (case l43=>k_is)
  (case c43=>k_is)
  (case k43=>k_is)
  (case a44Power=>k_is)
  (case i44=>k_is)
  (case l44=>k_is)
  (case c44=>k_is)
  (case k44=>k_is)
  (case a45Less=>k_is)
  (case i45=>k_is)
  (case l45=>k_is)
  (case c45=>k_is)
  (case k45=>k_is)
  (case a46Less=>k_is)
  (case i46=>k_is)
  (case l46=>k_is)
  (case c46=>k_is)
  (case k46=>k_is)
  (case a47=>k_is)
  (case l47=>k_is)
  (case c47=>k_is)
  (case k47=>k_is)
  (case a48=>k_is)
  (case l48=>k_is)
  (case c48=>k_is)
  (case k48=>k_is)
  (case pgNumber=>k_is)
  (case hdNumber=>k_is)
  (case poNumber=>k_is)
  (case saNumber=>k_is)
  (case mkNumber=>k_is)
  (case kcNumber=>k_is)
  (case haNumber=>k_is)
  (case hnNumber=>k_is)
  (case htNumber=>k_is)
  (case hmNumber=>k_is)
  (case f_whole=>k_is)
  (case pgName=>k_is)
  (case hdName=>k_is)
  (case poName=>k_is)
  (case saName=>k_is)
  (case mkName=>k_is)
  (case kcName=>k_is)
  (case haName=>k_is)
  (case hnName=>k_is)
  (case htName=>k_is)
  (case hmName=>k_is)
  (case f_word=>k_is)
  (case pgTwo=>k_is)
  (case hdTwo=>k_is)
  (case poTwo=>k_is)
  (case saTwo=>k_is)
  (case mkTwo=>k_is)
  (case kcTwo=>k_is)
  (case haTwo=>k_is)
  (case hnTwo=>k_is)
  (case htTwo=>k_is)
  (case hmTwo=>k_is)
  (case f_sign=>k_is)
  (case f_left=>k_is)
  (case f_right=>k_is)
  (case pgPower=>k_is)
  (case hdPower=>k_is)
  (case poPower=>k_is)
  (case saPower=>k_is)
  (case mkPower=>k_is)
  (case kcPower=>k_is)
  (case haPower=>k_is)
  (case hnPower=>k_is)
  (case htPower=>k_is)
  (case hmPower=>k_is)
  (case f_base=>k_is)
  (case f_exponent=>k_is)
  (case pgLess=>k_is)
  (case hdLess=>k_is)
  (case poLess=>k_is)
  (case saLess=>k_is)
  (case mkLess=>k_is)
  (case kcLess=>k_is)
  (case haLess=>k_is)
  (case hnLess=>k_is)
  (case htLess=>k_is)
  (case hmLess=>k_is)
  (case f_inner=>k_is)
  (case iyTwo=>k_is)
  (case tyTwo=>k_is)
  (case suNumberTwo=>k_is)
  (case neNumberTwo=>first | rfl | decide)
  (case suNameTwo=>k_is)
  (case neNameTwo=>first | rfl | decide)
  (case suPowerTwo=>k_is)
  (case nePowerTwo=>first | rfl | decide)
  (case suLessTwo=>k_is)
  (case neLessTwo=>first | rfl | decide)
  (case iyLess=>k_is)
  (case tyLess=>k_is)
  (case suNumberLess=>k_is)
  (case neNumberLess=>first | rfl | decide)
  (case suNameLess=>k_is)
  (case neNameLess=>first | rfl | decide)
  (case suTwoLess=>k_is)
  (case neTwoLess=>first | rfl | decide)
  (case suPowerLess=>k_is)
  (case nePowerLess=>first | rfl | decide)
  (case gHouseError=>k_is)
  (case gNoNumber=>k_is)
  (case gNoRow=>k_is)
  (case gNoValue=>k_is)
  (case gNoText=>k_is)
  (case gNoRoot=>k_is)
  (case gTooFar=>k_is)
  (case gNoLine=>k_is)
  (case xNoText=>k_exc)
  (case kNoText=>k_is)
  (case sNoText=>k_is)
  (case tNoText=>k_is)
  (case eaNoText=>k_is)
  (case ebNoText=>k_is)
  (case edNoText=>k_is)
  (case eeNoText=>k_is)
  (case efNoText=>k_is)
  (case egNoText=>k_is)
  (case ehNoText=>k_is)
  (case ejNoText=>k_is)
  (case u0NoText=>first | rfl | k_is)
  (case v0NoText=>first | rfl | decide)
  (case u1NoText=>first | rfl | k_is)
  (case v1NoText=>first | rfl | decide)
  (case u2NoText=>first | rfl | k_is)
  (case v2NoText=>first | rfl | decide)
  (case u3NoText=>first | rfl | k_is)
  (case v3NoText=>first | rfl | decide)
  (case u5NoText=>first | rfl | k_is)
  (case v5NoText=>first | rfl | decide)
  (case u6NoText=>first | rfl | k_is)
  (case v6NoText=>first | rfl | decide)
  (case u7NoText=>first | rfl | k_is)
  (case v7NoText=>first | rfl | decide)
  (case icHouseError=>k_is)
  (case tHouseError=>k_is)
  (case icNoNumber=>k_is)
  (case tNoNumber=>k_is)
  (case icNoRow=>k_is)
  (case tNoRow=>k_is)
  (case icNoValue=>k_is)
  (case tNoValue=>k_is)
  (case icNoText=>k_is)
  (case icNoRoot=>k_is)
  (case tNoRoot=>k_is)
  (case icTooFar=>k_is)
  (case tTooFar=>k_is)
  (case icNoLine=>k_is)
  (case tNoLine=>k_is)
  (case sHouseError=>k_is)
  (case qATOM=>k_is)
  (case qDEEP=>k_is)
  (case qFACTOR=>k_is)
  (case qFIGURES=>k_is)
  (case qLETTERS=>k_is)
  (case qPOWER=>k_is)
  (case qSIGNS=>k_is)
  (case qSUM=>k_is)
  (case qTERM=>k_is)
  (case z0=>k_is)
  (case z1=>k_is)
  (case z2=>k_is)
  (case z3=>k_is)
  (case z4=>k_is)
  (case z5=>k_is)
  (case z6=>k_is)
  (case z7=>k_is)
