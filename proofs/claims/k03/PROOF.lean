import PyProof.Rows.All
import Wide.All
import OpenK.AllK
import Wide.FinOn
import KE.KStateDown
import HandS.ForMost
import HandS.Conv
import HandS.More
import HandS.Codes
import HandS.NoneIn
import HandS.Flow
import HandS.FStr
import HandS.DictComp
import HandS.IsInst
import HandS.Defaults
import HandS.MakeKw
import HandS.Deep
import HandS.DeepEq
import HandS.Wide
import HandS.Zip
import KE.KUnpackStar
import HandS.OwnEq
import HandS.SlotsOwn
import HandS.RaiseMore
import HandS.Ends
import HandS.Words
import HandS.WordsExc
import HandS.Head0
import HandS.Head1
import HandS.Head2
import HandS.HeadEnd
import HandS.HeadHook1
import HandS.HeadHook2
import HandS.HeadHook3
import HandS.HeadHook4
import HandS.Lambda
import KE.DataEq
import HandS.TupAny
import PyProof.TableCode
import HandS.CallLocal
import Open.Tops
import HandS.ExcCtx
import HandS.ExcInit
import HandS.ExcField
import HandS.TryMany
import KE.KExcInit
import HandS.Finally
import HandS.ClsMeth
import HandS.Style
import KE.SortData
import HandS.ExcIs
import HandS.HotCalls
import HandS.EndTab
import KE.KNest
import HandS.HeadWalk
import HandS.DictTup
import HandS.SetTxt0
import HandS.SetFor
import HandS.Strs
import KE.KDictPairs
import PyProof.ReprRoads
import KE.KFmtOwn
import KE.GoesMore
import KE.GoesEnumKw
import PyProof.StrOps2
import PySem.Challenge.RW_ridepool_k03_texts_that_are_no_programs
set_option Elab.async false
set_option linter.all false
set_option maxRecDepth 100000
set_option maxHeartbeats 0
section
namespace Rp
open PySem PySem.Spec PyProof.Rows L2
inductive Kd where
  | tup | lst | scr | dct (ks:List Key) | ldct (ks:List Key) | tab (ks:List Key) | ins (c:Nat) | cod (p:Addr) (q:Str)
  deriving DecidableEq
inductive AV where
  | non | bl (b:Bool) | int (i:Int) | str (x:Str) | ty (n:String) | gl (x:Str) | ref (n:Nat)
  | nod (k:Kd) (xs:List AV)
mutual
def AV.dec:(a b:AV) → Decidable (a = b)
  | .non,.non=>Decidable.isTrue rfl
  | .bl a,.bl b=>if h:a = b then Decidable.isTrue (by rw [h]) else Decidable.isFalse (fun e=>h (AV.bl.inj e))
  | .int a,.int b=>if h:a = b then Decidable.isTrue (by rw [h]) else Decidable.isFalse (fun e=>h (AV.int.inj e))
  | .str a,.str b=>if h:a = b then Decidable.isTrue (by rw [h]) else Decidable.isFalse (fun e=>h (AV.str.inj e))
  | .ty a,.ty b=>if h:a = b then Decidable.isTrue (by rw [h]) else Decidable.isFalse (fun e=>h (AV.ty.inj e))
  | .gl a,.gl b=>if h:a = b then Decidable.isTrue (by rw [h]) else Decidable.isFalse (fun e=>h (AV.gl.inj e))
  | .ref a,.ref b=>if h:a = b then Decidable.isTrue (by rw [h]) else Decidable.isFalse (fun e=>h (AV.ref.inj e))
  | .nod k xs,.nod l ys=>if h:k = l then match AV.decL xs ys with
      | Decidable.isTrue e=>Decidable.isTrue (by rw [h,e])
      | Decidable.isFalse e=>Decidable.isFalse (fun q=>e (AV.nod.inj q).2)
    else Decidable.isFalse (fun q=>h (AV.nod.inj q).1)
  | .non,.bl _ | .non,.int _ | .non,.str _ | .non,.ty _ | .non,.gl _ | .non,.ref _ | .non,.nod _ _=>Decidable.isFalse nofun
  | .bl _,.non | .bl _,.int _ | .bl _,.str _ | .bl _,.ty _ | .bl _,.gl _ | .bl _,.ref _ | .bl _,.nod _ _=>Decidable.isFalse nofun
  | .int _,.non | .int _,.bl _ | .int _,.str _ | .int _,.ty _ | .int _,.gl _ | .int _,.ref _ | .int _,.nod _ _=>Decidable.isFalse nofun
  | .str _,.non | .str _,.bl _ | .str _,.int _ | .str _,.ty _ | .str _,.gl _ | .str _,.ref _ | .str _,.nod _ _=>Decidable.isFalse nofun
  | .ty _,.non | .ty _,.bl _ | .ty _,.int _ | .ty _,.str _ | .ty _,.gl _ | .ty _,.ref _ | .ty _,.nod _ _=>Decidable.isFalse nofun
  | .gl _,.non | .gl _,.bl _ | .gl _,.int _ | .gl _,.str _ | .gl _,.ty _ | .gl _,.ref _ | .gl _,.nod _ _=>Decidable.isFalse nofun
  | .ref _,.non | .ref _,.bl _ | .ref _,.int _ | .ref _,.str _ | .ref _,.ty _ | .ref _,.gl _ | .ref _,.nod _ _=>Decidable.isFalse nofun
  | .nod _ _,.non | .nod _ _,.bl _ | .nod _ _,.int _ | .nod _ _,.str _ | .nod _ _,.ty _ | .nod _ _,.gl _ | .nod _ _,.ref _=>Decidable.isFalse nofun
def AV.decL:(a b:List AV) → Decidable (a = b)
  | [],[]=>Decidable.isTrue rfl
  | [],_ :: _=>Decidable.isFalse nofun
  | _ :: _,[]=>Decidable.isFalse nofun
  | x :: xs,y :: ys=>match AV.dec x y with
    | Decidable.isFalse e=>Decidable.isFalse (fun q=>e (List.cons.inj q).1)
    | Decidable.isTrue e=>match AV.decL xs ys with
      | Decidable.isTrue f=>Decidable.isTrue (by rw [e,f])
      | Decidable.isFalse f=>Decidable.isFalse (fun q=>f (List.cons.inj q).2)
end
instance:DecidableEq AV:=AV.dec
def Kd.lk:Kd → Bool
  | .ldct _=>true
  | .cod _ _=>true
  | _=>false
structure AH where
  get:Nat → Option (Kd × List AV)
  next:Nat
  wf:∀ n,next ≤ n → get n = none
def AH.set (h:AH) (n:Nat) (c:Kd × List AV) (hn:(h.get n).isSome = true):AH:=⟨fun m=>if m = n then some c else h.get m,h.next,fun m hm=>by
  have:m ≠ n:=fun e=>by rw [← e,h.wf m hm] at hn; cases hn
  rw [if_neg this]; exact h.wf m hm⟩
def AH.put (h:AH) (n:Nat) (c:Kd × List AV):AH:=if hn:(h.get n).isSome = true then h.set n c hn else h
def AH.del (h:AH) (n:Nat):AH:=⟨fun m=>if m = n then none else h.get m,h.next,fun m hm=>by
  by_cases e:m = n
  · rw [if_pos e]
  · rw [if_neg e]; exact h.wf m hm⟩
def AH.new (h:AH) (c:Kd × List AV):AH:=⟨fun m=>if m = h.next then some c else h.get m,h.next + 1,fun m hm=>by
  have:m ≠ h.next:=by omega
  rw [if_neg this]; exact h.wf m (by omega)⟩
theorem AH.lt {h:AH} {n:Nat} {c:Kd × List AV} (e:h.get n = some c):n < h.next:=by
  rcases Nat.lt_or_ge n h.next with q | q
  · exact q
  · rw [h.wf n q] at e; cases e
theorem AH.get_put {h:AH} {n:Nat} {c:Kd × List AV} {c0:Kd × List AV} (e:h.get n = some c0) (m:Nat):(h.put n c).get m = if m = n then some c else h.get m:=by
  have hn:(h.get n).isSome = true:=by rw [e]; rfl
  unfold AH.put
  rw [dif_pos hn]; rfl
theorem AH.next_put {h:AH} {n:Nat} {c:Kd × List AV}:(h.put n c).next = h.next:=by
  unfold AH.put
  split <;> rfl
theorem AH.get_del {h:AH} {n:Nat} (m:Nat):(h.del n).get m = if m = n then none else h.get m:=rfl
structure Ct where
  K:PySem.W.Frag
  w:World
  mg:Str → Option Value
  cl:Nat → Str × List Str
def kIx (ks:List Key) (k:Key):Option Nat:=ks.findIdx? fun j=>decide (j = k)
def KTab (c:Ct) (p:Addr) (ks:List Key) (us:List V):Prop :=
  ks.length = us.length ∧ ∃ es n,KDict c.K c.w p es n ∧ ∀ z:Str,∃ r,PySem.W.nsIn c.K p z = some r ∧ RelO ((kIx ks (Sum.inr z)).bind fun i=>us[i]?) r
def NodeR (c:Ct) (R:Hp) (p:Addr):Kd → List V → Prop
  | .tup,us=>SqT c.K R p us
  | .lst,us=>R p = some (.lst us)
  | .scr,us=>SqL c.K R p us
  | .dct ks,us=>ks.length = us.length ∧ ∃ od,R p = some (.frz od (.dK (ks.zip us)))
  | .ldct _,_=>False
  | .tab ks,us=>KTab c p ks us
  | .ins k,us=>us.length ≤ (c.cl k).2.length ∧ ∃ a dx,c.mg (c.cl k).1 = some (.ref a) ∧ R p = some (.ins a dx ((c.cl k).2.zip us))
  | .cod _ _,_=>False
def NodeM (c:Ct) (H:Hp) (p:Addr):Kd → List V → Prop
  | .tup,_=>False
  | .lst,us=>H p = some (.lst us)
  | .scr,_=>False
  | .dct ks,us=>ks.length = us.length ∧ H p = some (.dK (ks.zip us))
  | .ldct ks,us=>ks.length = us.length ∧ ∃ od,H p = some (.frz od (.dK (ks.zip us)))
  | .tab _,_=>False
  | .ins k,us=>us.length ≤ (c.cl k).2.length ∧ ∃ a dx,c.mg (c.cl k).1 = some (.ref a) ∧ H p = some (.ins a dx ((c.cl k).2.zip us))
  | .cod P q,us=>us = [] ∧ p = P ∧ LamX.TabS H P q
structure Wd where
  i:Nat → Option Addr
  R:Hp
mutual
def RepV (c:Ct) (w:Wd):AV → V → Prop
  | .non,v=>v = .non
  | .bl b,v=>v = .bl b
  | .int i,v=>v = .int i
  | .str x,v=>v = .str x
  | .ty n,v=>v = .ty n
  | .gl x,v=>∃ a,c.mg x = some (.ref a) ∧ v = .ref a
  | .ref n,v=>∃ p,w.i n = some p ∧ v = .ref p
  | .nod k xs,v=>∃ p us,v = .ref p ∧ NodeR c w.R p k us ∧ RepL c w xs us
def RepL (c:Ct) (w:Wd):List AV → List V → Prop
  | [],us=>us = []
  | x :: xs,us=>∃ u us',us = u :: us' ∧ RepV c w x u ∧ RepL c w xs us'
end
structure WLe (w w':Wd):Prop where
  ii:∀ n p,w.i n = some p → w'.i n = some p
  rr:∀ a o,w.R a = some o → w'.R a = some o
theorem WLe.refl (w:Wd):WLe w w:=⟨fun _ _ e=>e,fun _ _ e=>e⟩
theorem WLe.trans {w1 w2 w3:Wd} (a:WLe w1 w2) (b:WLe w2 w3):WLe w1 w3:=⟨fun n p e=>b.ii n p (a.ii n p e),fun x o e=>b.rr x o (a.rr x o e)⟩
theorem Rd.le {R R':Hp} (h:∀ a o,R a = some o → R' a = some o) {a:Addr} {u:HO} (r:Rd R a u):Rd R' a u:=by
  rcases r with r | ⟨o,r⟩
  · exact .inl (h _ _ r)
  · exact .inr ⟨o,h _ _ r⟩
theorem SqL.le {K:PySem.W.Frag} {R R':Hp} (h:∀ a o,R a = some o → R' a = some o) {a:Addr} {us:List V} (r:SqL K R a us):SqL K R' a us:=by
  rcases r with r | r
  · exact .inl (Rd.le h r)
  · exact .inr r
theorem SqT.le {K:PySem.W.Frag} {R R':Hp} (h:∀ a o,R a = some o → R' a = some o) {a:Addr} {us:List V} (r:SqT K R a us):SqT K R' a us:=by
  rcases r with r | r
  · exact .inl (Rd.le h r)
  · exact .inr r
theorem NodeR.le {c:Ct} {R R':Hp} (h:∀ a o,R a = some o → R' a = some o) {p:Addr} {k:Kd} {us:List V} (r:NodeR c R p k us):NodeR c R' p k us:=by
  cases k with
  | tup=>exact SqT.le h r
  | lst=>exact h _ _ r
  | scr=>exact SqL.le h r
  | dct ks =>
    obtain ⟨e,od,r⟩:=r
    exact ⟨e,od,h _ _ r⟩
  | ldct ks=>exact r.elim
  | tab ks=>exact r
  | ins k =>
    obtain ⟨e,a,dx,m,r⟩:=r
    exact ⟨e,a,dx,m,h _ _ r⟩
  | cod P q=>exact r.elim
mutual
theorem RepV.le {c:Ct} {w w':Wd} (h:WLe w w'):∀ (a:AV) (v:V),RepV c w a v → RepV c w' a v
  | .non,_,r=>r
  | .bl _,_,r=>r
  | .int _,_,r=>r
  | .str _,_,r=>r
  | .ty _,_,r=>r
  | .gl _,_,r=>r
  | .ref n,v,r=>by
    obtain ⟨p,e,q⟩:=r
    exact ⟨p,h.ii _ _ e,q⟩
  | .nod k xs,v,r=>by
    obtain ⟨p,us,e,n,l⟩:=r
    exact ⟨p,us,e,n.le h.rr,RepL.le h xs us l⟩
theorem RepL.le {c:Ct} {w w':Wd} (h:WLe w w'):∀ (a:List AV) (v:List V),RepL c w a v → RepL c w' a v
  | [],_,r=>r
  | x :: xs,us,r=>by
    obtain ⟨u,us',e,r1,r2⟩:=r
    exact ⟨u,us',e,RepV.le h x u r1,RepL.le h xs us' r2⟩
end
section
variable {c:Ct} {w:Wd}
theorem RepL.nil:RepL c w [] []:=rfl
theorem RepL.cons {x:AV} {u:V} {xs:List AV} {us:List V} (h1:RepV c w x u) (h2:RepL c w xs us):RepL c w (x :: xs) (u :: us):=⟨u,us,rfl,h1,h2⟩
theorem RepL.len:∀ {xs:List AV} {us:List V},RepL c w xs us → xs.length = us.length
  | [],us,r=>by
    have r':us = []:=r
    subst r'; rfl
  | x :: xs,us,r=>by
    obtain ⟨u,us',e,_,r2⟩:=r
    rw [e,List.length_cons,List.length_cons,RepL.len r2]
theorem RepL.get:∀ {xs:List AV} {us:List V} {n:Nat} {x:AV},RepL c w xs us → xs[n]? = some x → ∃ u,us[n]? = some u ∧ RepV c w x u
  | [],_,n,x,_,e=>by simp at e
  | y :: ys,us,0,x,r,e=>by
    obtain ⟨u,us',e1,r1,_⟩:=r
    simp at e
    subst e e1
    exact ⟨u,rfl,r1⟩
  | y :: ys,us,n + 1,x,r,e=>by
    obtain ⟨u,us',e1,_,r2⟩:=r
    subst e1
    simp at e
    obtain ⟨v,e2,r3⟩:=RepL.get (n:=n) r2 e
    exact ⟨v,by simpa using e2,r3⟩
theorem RepL.append:∀ {xs ys:List AV} {us vs:List V},RepL c w xs us → RepL c w ys vs → RepL c w (xs ++ ys) (us ++ vs)
  | [],_,_,_,r,q=>by rw [show _ = ([]:List V) from r]; exact q
  | x :: xs,ys,us,vs,r,q=>by
    obtain ⟨u,us',e,r1,r2⟩:=r
    subst e
    exact .cons r1 (RepL.append r2 q)
theorem RepL.set:∀ {xs:List AV} {us:List V} {x:AV} {u:V} (n:Nat),RepL c w xs us → RepV c w x u → RepL c w (xs.set n x) (us.set n u)
  | [],_,_,_,n,r,q=>by rw [show _ = ([]:List V) from r]; exact rfl
  | y :: ys,us,x,u,0,r,q=>by
    obtain ⟨v,us',e,r1,r2⟩:=r
    subst e
    exact .cons q r2
  | y :: ys,us,x,u,n + 1,r,q=>by
    obtain ⟨v,us',e,r1,r2⟩:=r
    subst e
    exact .cons r1 (RepL.set n r2 q)
theorem RepL.take:∀ {xs:List AV} {us:List V} (n:Nat),RepL c w xs us → RepL c w (xs.take n) (us.take n)
  | [],_,n,r=>by rw [show _ = ([]:List V) from r]; simp; exact rfl
  | y :: ys,us,0,r=>by simp; exact rfl
  | y :: ys,us,n + 1,r=>by
    obtain ⟨v,us',e,r1,r2⟩:=r
    subst e
    exact .cons r1 (RepL.take n r2)
theorem RepL.drop:∀ {xs:List AV} {us:List V} (n:Nat),RepL c w xs us → RepL c w (xs.drop n) (us.drop n)
  | [],_,n,r=>by rw [show _ = ([]:List V) from r]; simp; exact rfl
  | y :: ys,us,0,r=>r
  | y :: ys,us,n + 1,r=>by
    obtain ⟨v,us',e,r1,r2⟩:=r
    subst e
    exact RepL.drop n r2
theorem RepL.reverse:∀ {xs:List AV} {us:List V},RepL c w xs us → RepL c w xs.reverse us.reverse
  | [],_,r=>by rw [show _ = ([]:List V) from r]; exact rfl
  | y :: ys,us,r=>by
    obtain ⟨v,us',e,r1,r2⟩:=r
    subst e
    rw [List.reverse_cons,List.reverse_cons]
    exact RepL.append (RepL.reverse r2) (.cons r1 .nil)
theorem RepL.strs:∀ {is:List Str} {us:List V},RepL c w (is.map AV.str) us → us = is.map V.str
  | [],_,r=>r
  | i :: is,us,r=>by
    obtain ⟨v,us',e,r1,r2⟩:=r
    rw [e,show v = _ from r1,RepL.strs r2]; rfl
theorem RepL.mk_strs:∀ {is:List Str},RepL c w (is.map AV.str) (is.map V.str)
  | []=>rfl
  | i :: is=>.cons rfl RepL.mk_strs
theorem RepL.mk_ints:∀ {is:List Int},RepL c w (is.map AV.int) (is.map V.int)
  | []=>rfl
  | i :: is=>.cons rfl RepL.mk_ints
end
def Own (w:Wd) (h:AH) (a:Addr):Prop:=w.R a ≠ none ∨ ∃ n,(h.get n).isSome = true ∧ w.i n = some a
structure SR (c:Ct) (w:Wd) (H:Hp) (h:AH):Prop where
  le:∀ a o,w.R a = some o → H a = some o
  cell:∀ n k xs,h.get n = some (k,xs) → ∃ p us,w.i n = some p ∧ NodeM c H p k us ∧ RepL c w xs us
  inj:∀ n m p,(h.get n).isSome = true → (h.get m).isSome = true → w.i n = some p → w.i m = some p → n = m
  sep:∀ n p,(h.get n).isSome = true → w.i n = some p → w.R p = none
  nx:∀ n p,w.i n = some p → n < h.next
structure Tr (w:Wd) (H:Hp) (h:AH) (w':Wd) (H':Hp) (h':AH):Prop where
  le:WLe w w'
  fr:∀ a o,H a = some o → ¬ Own w h a → H' a = some o
  nw:∀ a,Own w' h' a → Own w h a ∨ H a = none
  st:∀ a,H a ≠ none → H' a ≠ none
  fz:∀ a o u,H a = some (.frz o u) → H' a = some (.frz o u)
theorem Tr.refl (w:Wd) (H:Hp) (h:AH):Tr w H h w H h:=⟨.refl w,fun _ _ e _=>e,fun _ o=>.inl o,fun _ e=>e,fun _ _ _ e=>e⟩
theorem Tr.trans {w1 w2 w3:Wd} {H1 H2 H3:Hp} {h1 h2 h3:AH} (a:Tr w1 H1 h1 w2 H2 h2) (b:Tr w2 H2 h2 w3 H3 h3):Tr w1 H1 h1 w3 H3 h3 where
  le:=a.le.trans b.le
  fr:=fun x o e n=>b.fr x o (a.fr x o e n) fun q=>by
    rcases a.nw x q with z | z
    · exact n z
    · rw [z] at e; cases e
  nw:=fun x q=>by
    rcases b.nw x q with z | z
    · exact a.nw x z
    · by_cases e:H1 x = none
      · exact .inr e
      · exact absurd z (a.st x e)
  st:=fun x e=>b.st x (a.st x e)
  fz:=fun x o u e=>b.fz x o u (a.fz x o u e)
theorem NodeM.nofz {c:Ct} {H:Hp} {p:Addr} {k:Kd} {us:List V} (n:NodeM c H p k us) (hk:k.lk = false):∀ o u,H p ≠ some (.frz o u):=by
  cases k with
  | tup=>exact n.elim
  | lst=>intro o u e; have n':H p = some (.lst us):=n; rw [n'] at e; cases e
  | scr=>exact n.elim
  | dct ks=>intro o u e; rw [n.2] at e; cases e
  | ldct ks=>cases hk
  | tab ks=>exact n.elim
  | ins k=>obtain ⟨_,a,dx,_,e⟩:=n; intro o u e2; rw [e] at e2; cases e2
  | cod P q=>obtain ⟨_,rfl,ps,e,_⟩:=n; intro o u e2; rw [e] at e2; cases e2
theorem NodeM.there {c:Ct} {H:Hp} {p:Addr} {k:Kd} {us:List V} (n:NodeM c H p k us):∃ o,H p = some o:=by
  cases k with
  | tup=>exact n.elim
  | lst=>exact ⟨_,n⟩
  | scr=>exact n.elim
  | dct ks=>exact ⟨_,n.2⟩
  | ldct ks=>obtain ⟨_,od,e⟩:=n; exact ⟨_,e⟩
  | tab ks=>exact n.elim
  | ins k=>obtain ⟨_,a,dx,_,e⟩:=n; exact ⟨_,e⟩
  | cod P q=>obtain ⟨_,rfl,ps,e,_⟩:=n; exact ⟨_,e⟩
theorem NodeM.at {c:Ct} {H H':Hp} {p:Addr} {k:Kd} {us:List V} (n:NodeM c H p k us) (e:H' p = H p) (hx:∀ b φ,H b = some (.ext φ) → H' b = some (.ext φ)):NodeM c H' p k us:=by
  cases k with
  | tup=>exact n.elim
  | lst=>exact e.trans n
  | scr=>exact n.elim
  | dct ks=>exact ⟨n.1,e.trans n.2⟩
  | ldct ks=>obtain ⟨l,od,q⟩:=n; exact ⟨l,od,e.trans q⟩
  | tab ks=>exact n.elim
  | ins k=>obtain ⟨l,a,dx,m,q⟩:=n; exact ⟨l,a,dx,m,e.trans q⟩
  | cod P q =>
    obtain ⟨e1,rfl,ps,e2,t,f⟩:=n
    refine ⟨e1,rfl,ps,e.trans e2,t,fun pos cv hc=>?_⟩
    obtain ⟨c',r1,r2⟩:=f pos cv hc
    exact ⟨c',r1,hx _ _ r2⟩
theorem NodeM.noext {c:Ct} {H:Hp} {p:Addr} {k:Kd} {us:List V} (n:NodeM c H p k us):∀ φ,H p ≠ some (.ext φ):=by
  cases k with
  | tup=>exact n.elim
  | lst=>intro φ e; have n':H p = some (.lst us):=n; rw [n'] at e; cases e
  | scr=>exact n.elim
  | dct ks=>intro φ e; rw [n.2] at e; cases e
  | ldct ks=>obtain ⟨_,od,z⟩:=n; intro φ e; rw [z] at e; cases e
  | tab ks=>exact n.elim
  | ins k=>obtain ⟨_,a,dx,_,z⟩:=n; intro φ e; rw [z] at e; cases e
  | cod P q=>obtain ⟨_,rfl,ps,z,_⟩:=n; intro φ e; rw [z] at e; cases e
section
variable {c:Ct} {w:Wd} {H:Hp} {h:AH}
theorem SR.own_there (S:SR c w H h) {a:Addr} (o:Own w h a):H a ≠ none:=by
  rcases o with e | ⟨n,l,e⟩
  · cases q:w.R a with
    | none=>exact absurd q e
    | some o=>rw [S.le a o q]; exact nofun
  · obtain ⟨⟨k,xs⟩,q⟩:=Option.isSome_iff_exists.mp l
    obtain ⟨p,us,e2,nm,_⟩:=S.cell n k xs q
    rw [e] at e2
    cases e2
    obtain ⟨o,z⟩:=nm.there
    rw [z]; exact nofun
theorem SR.frozen (S:SR c w H h) {p:Addr} {o:HO} (hp:H p = none) :
    SR c ⟨w.i,upd w.R p o⟩ (upd H p o) h ∧ Tr w H h ⟨w.i,upd w.R p o⟩ (upd H p o) h:=by
  have np:w.R p = none:=by
    cases q:w.R p with
    | none=>rfl
    | some z=>rw [S.le p z q] at hp; cases hp
  have le:WLe w ⟨w.i,upd w.R p o⟩:=⟨fun _ _ e=>e,fun a z e=>by
    show upd w.R p o a = some z
    rw [upd_ne (ne_of_none e np)]; exact e⟩
  have nc:∀ n q,(h.get n).isSome = true → w.i n = some q → q ≠ p:=fun n q l e z=>by
    have:=S.own_there (.inr ⟨n,l,e⟩)
    rw [z] at this; exact this hp
  refine ⟨⟨fun a z e=>?_,fun n k xs e=>?_,S.inj,fun n q l e=>?_,S.nx⟩,le,fun a z e n=>?_,fun a q=>?_,fun a e=>?_,fun a z v e=>by rw [upd_ne (ne_of_none e hp)]; exact e⟩
  · have e':upd w.R p o a = some z:=e
    by_cases ha:a = p
    · subst ha; rw [upd_same] at e'; rw [upd_same]; exact e'
    · rw [upd_ne ha] at e'; rw [upd_ne ha]; exact S.le a z e'
  · obtain ⟨q,us,e1,nm,r⟩:=S.cell n k xs e
    exact ⟨q,us,e1,nm.at (upd_ne (nc n q (by rw [e]; rfl) e1)) (fun b φ z=>by rw [upd_ne (ne_of_none z hp)]; exact z),RepL.le le _ _ r⟩
  · show upd w.R p o q = none
    rw [upd_ne (nc n q l e)]; exact S.sep n q l e
  · rw [upd_ne (ne_of_none e hp)]; exact e
  · rcases q with q | q
    · by_cases ha:a = p
      · exact .inr (by rw [ha]; exact hp)
      · have q':upd w.R p o a ≠ none:=q
        rw [upd_ne ha] at q'; exact .inl (.inl q')
    · exact .inl (.inr q)
  · by_cases ha:a = p
    · subst ha; rw [upd_same]; exact nofun
    · rw [upd_ne ha]; exact e
theorem SR.newCell (S:SR c w H h) {p:Addr} {H':Hp} {k:Kd} {xs:List AV} {us:List V} (hp:H p = none) (hH:∀ a,a ≠ p → H a ≠ none → H' a = H a) (nm:NodeM c H' p k us) (r:RepL c w xs us) :
    SR c ⟨fun n=>if n = h.next then some p else w.i n,w.R⟩ H' (h.new (k,xs)) ∧ Tr w H h ⟨fun n=>if n = h.next then some p else w.i n,w.R⟩ H' (h.new (k,xs)):=by
  have np:w.R p = none:=by
    cases q:w.R p with
    | none=>rfl
    | some z=>rw [S.le p z q] at hp; cases hp
  have old:∀ n q,w.i n = some q → n ≠ h.next:=fun n q e=>Nat.ne_of_lt (S.nx n q e)
  have le:WLe w ⟨fun n=>if n = h.next then some p else w.i n,w.R⟩:=⟨fun n q e=>by
    show (if n = h.next then some p else w.i n) = some q
    rw [if_neg (old n q e)]; exact e,fun _ _ e=>e⟩
  have nc:∀ n q,(h.get n).isSome = true → w.i n = some q → q ≠ p:=fun n q l e z=>by
    have:=S.own_there (.inr ⟨n,l,e⟩)
    rw [z] at this; exact this hp
  have hn:h.get h.next = none:=h.wf _ (Nat.le_refl _)
  have live:∀ n,n ≠ h.next → ((h.new (k,xs)).get n) = h.get n:=fun n e=>if_neg e
  refine ⟨⟨fun a z e=>?_,fun n k' xs' e=>?_,fun n m q l1 l2 e1 e2=>?_,fun n q l e=>?_,fun n q e=>?_⟩,le,fun a z e n=>?_,fun a q=>?_,fun a e=>?_,fun a z v e=>by rw [hH a (fun q=>by rw [q,hp] at e; cases e) (by rw [e]; exact nofun)]; exact e⟩
  · have:=S.le a z e
    rw [hH a (fun q=>by rw [q,hp] at this; cases this) (by rw [this]; exact nofun)]
    exact this
  · by_cases hn':n = h.next
    · subst hn'
      have e':(if h.next = h.next then some (k,xs) else h.get h.next) = some (k',xs'):=e
      rw [if_pos rfl] at e'
      cases e'
      exact ⟨p,us,if_pos rfl,nm,RepL.le le _ _ r⟩
    · rw [live n hn'] at e
      obtain ⟨q,vs,e1,nm1,r1⟩:=S.cell n k' xs' e
      have hq:=nc n q (by rw [e]; rfl) e1
      exact ⟨q,vs,le.ii _ _ e1,nm1.at (hH q hq (by obtain ⟨o,z⟩:=nm1.there; rw [z]; exact nofun)) (fun b φ z=>by rw [hH b (fun q=>by rw [q,hp] at z; cases z) (by rw [z]; exact nofun)]; exact z),RepL.le le _ _ r1⟩
  · have e1':(if n = h.next then some p else w.i n) = some q:=e1
    have e2':(if m = h.next then some p else w.i m) = some q:=e2
    by_cases h1:n = h.next
    · by_cases h2:m = h.next
      · rw [h1,h2]
      · rw [if_pos h1] at e1'
        rw [if_neg h2] at e2'
        cases e1'
        rw [live m h2] at l2
        exact absurd rfl (nc m p l2 e2')
    · rw [if_neg h1] at e1'
      rw [live n h1] at l1
      by_cases h2:m = h.next
      · rw [if_pos h2] at e2'
        cases e2'
        exact absurd rfl (nc n p l1 e1')
      · rw [if_neg h2] at e2'
        rw [live m h2] at l2
        exact S.inj n m q l1 l2 e1' e2'
  · have e':(if n = h.next then some p else w.i n) = some q:=e
    by_cases h1:n = h.next
    · rw [if_pos h1] at e'; cases e'; exact np
    · rw [if_neg h1] at e'
      rw [live n h1] at l
      exact S.sep n q l e'
  · have e':(if n = h.next then some p else w.i n) = some q:=e
    show n < h.next + 1
    by_cases h1:n = h.next
    · omega
    · rw [if_neg h1] at e'
      have:=S.nx n q e'; omega
  · rw [hH a (fun q=>by rw [q,hp] at e; cases e) (by rw [e]; exact nofun)]; exact e
  · rcases q with q | ⟨n,l,e⟩
    · exact .inl (.inl q)
    · have e':(if n = h.next then some p else w.i n) = some a:=e
      by_cases h1:n = h.next
      · rw [if_pos h1] at e'; cases e'; exact .inr hp
      · rw [if_neg h1] at e'
        rw [live n h1] at l
        exact .inl (.inr ⟨n,l,e'⟩)
  · by_cases ha:a = p
    · subst ha; exact absurd hp e
    · rw [hH a ha e]; exact e
theorem SR.write (S:SR c w H h) {n:Nat} {p:Addr} {k k0:Kd} {xs xs0:List AV} {us:List V} {o:HO} (e0:h.get n = some (k0,xs0)) (ep:w.i n = some p) (nm:NodeM c (upd H p o) p k us) (r:RepL c w xs us) (hk0:k0.lk = false:=by rfl) :
    SR c w (upd H p o) (h.put n (k,xs)) ∧ Tr w H h w (upd H p o) (h.put n (k,xs)):=by
  have l0:(h.get n).isSome = true:=by rw [e0]; rfl
  have np:w.R p = none:=S.sep n p l0 ep
  have live:∀ m,((h.put n (k,xs)).get m).isSome = (h.get m).isSome:=fun m=>by
    rw [AH.get_put e0]
    by_cases hm:m = n
    · rw [if_pos hm,hm,e0]; rfl
    · rw [if_neg hm]
  have hpn:H p ≠ none:=S.own_there (.inr ⟨n,l0,ep⟩)
  have nfz:∀ z v,H p ≠ some (.frz z v):=by
    obtain ⟨p',us',e1,nm',_⟩:=S.cell n k0 xs0 e0
    rw [ep] at e1; cases e1
    exact nm'.nofz hk0
  have nex:∀ b φ,H b = some (.ext φ) → upd H p o b = some (.ext φ):=fun b φ z=>by
    by_cases q:b = p
    · obtain ⟨p',us',e1,nm',_⟩:=S.cell n k0 xs0 e0
      rw [ep] at e1; cases e1
      rw [q] at z
      exact absurd z (nm'.noext φ)
    · rw [upd_ne q]; exact z
  refine ⟨⟨fun a z e=>?_,fun m k' xs' e=>?_,fun m m' q l1 l2 e1 e2=>?_,fun m q l e=>?_,fun m q e=>?_⟩,.refl w,fun a z e nn=>?_,fun a q=>?_,fun a e=>?_,fun a z v e=>by rw [upd_ne (fun q=>by rw [q] at e; exact nfz _ _ e)]; exact e⟩
  · rw [upd_ne (ne_of_none e np)]; exact S.le a z e
  · rw [AH.get_put e0] at e
    by_cases hm:m = n
    · rw [if_pos hm] at e
      cases e
      subst hm
      exact ⟨p,us,ep,nm,r⟩
    · rw [if_neg hm] at e
      obtain ⟨q,vs,e1,nm1,r1⟩:=S.cell m k' xs' e
      have hq:q ≠ p:=fun z=>hm (S.inj m n p (by rw [e]; rfl) l0 (z ▸ e1) ep)
      exact ⟨q,vs,e1,nm1.at (upd_ne hq) nex,r1⟩
  · rw [live] at l1 l2; exact S.inj m m' q l1 l2 e1 e2
  · rw [live] at l; exact S.sep m q l e
  · rw [AH.next_put]; exact S.nx m q e
  · have hap:a ≠ p:=fun z=>nn (.inr ⟨n,l0,by rw [z]; exact ep⟩)
    rw [upd_ne hap]; exact e
  · rcases q with q | ⟨m,l,e⟩
    · exact .inl (.inl q)
    · rw [live] at l; exact .inl (.inr ⟨m,l,e⟩)
  · by_cases ha:a = p
    · subst ha; rw [upd_same]; exact nofun
    · rw [upd_ne ha]; exact e
theorem SR.more (S:SR c w H h) {H':Hp} (hH:∀ a o,H a = some o → H' a = some o):SR c w H' h ∧ Tr w H h w H' h:=by
  refine ⟨⟨fun a o e=>hH a o (S.le a o e),fun n k xs e=>?_,S.inj,S.sep,S.nx⟩,.refl w,fun a o e _=>hH a o e,fun a q=>.inl q,fun a e=>?_,fun a z v e=>hH a _ e⟩
  · obtain ⟨p,us,e1,nm,r⟩:=S.cell n k xs e
    obtain ⟨o,z⟩:=nm.there
    exact ⟨p,us,e1,nm.at (by rw [hH p o z,z]) (fun b φ y=>hH b _ y),r⟩
  · cases q:H a with
    | none=>exact absurd q e
    | some o=>rw [hH a o q]; exact nofun
theorem SR.freeze (S:SR c w H h) {n:Nat} {p:Addr} {k:Kd} {xs:List AV} {o:HO} (e0:h.get n = some (k,xs)) (ep:w.i n = some p) (hk0:k.lk = false:=by rfl) :
    SR c ⟨w.i,upd w.R p o⟩ (upd H p o) (h.del n) ∧ Tr w H h ⟨w.i,upd w.R p o⟩ (upd H p o) (h.del n):=by
  have l0:(h.get n).isSome = true:=by rw [e0]; rfl
  have np:w.R p = none:=S.sep n p l0 ep
  have nfz:∀ z v,H p ≠ some (.frz z v):=by
    obtain ⟨p',us',e1,nm',_⟩:=S.cell n k xs e0
    rw [ep] at e1; cases e1
    exact nm'.nofz hk0
  have nex:∀ b φ,H b = some (.ext φ) → upd H p o b = some (.ext φ):=fun b φ z=>by
    by_cases q:b = p
    · obtain ⟨p',us',e1,nm',_⟩:=S.cell n k xs e0
      rw [ep] at e1; cases e1
      rw [q] at z
      exact absurd z (nm'.noext φ)
    · rw [upd_ne q]; exact z
  have le:WLe w ⟨w.i,upd w.R p o⟩:=⟨fun _ _ e=>e,fun a z e=>by
    show upd w.R p o a = some z
    rw [upd_ne (ne_of_none e np)]; exact e⟩
  have live:∀ m,((h.del n).get m).isSome = true → m ≠ n ∧ (h.get m).isSome = true:=fun m l=>by
    rw [AH.get_del] at l
    by_cases hm:m = n
    · rw [if_pos hm] at l; cases l
    · rw [if_neg hm] at l; exact ⟨hm,l⟩
  have nc:∀ m q,m ≠ n → (h.get m).isSome = true → w.i m = some q → q ≠ p:=fun m q hm l e z=>hm (S.inj m n p l l0 (z ▸ e) ep)
  refine ⟨⟨fun a z e=>?_,fun m k' xs' e=>?_,fun m m' q l1 l2 e1 e2=>?_,fun m q l e=>?_,S.nx⟩,le,fun a z e nn=>?_,fun a q=>?_,fun a e=>?_,fun a z v e=>by rw [upd_ne (fun q=>by rw [q] at e; exact nfz _ _ e)]; exact e⟩
  · have e':upd w.R p o a = some z:=e
    by_cases ha:a = p
    · subst ha; rw [upd_same] at e'; rw [upd_same]; exact e'
    · rw [upd_ne ha] at e'; rw [upd_ne ha]; exact S.le a z e'
  · have l:((h.del n).get m).isSome = true:=by rw [e]; rfl
    obtain ⟨hm,l'⟩:=live m l
    rw [AH.get_del,if_neg hm] at e
    obtain ⟨q,vs,e1,nm1,r1⟩:=S.cell m k' xs' e
    exact ⟨q,vs,e1,nm1.at (upd_ne (nc m q hm l' e1)) nex,RepL.le le _ _ r1⟩
  · exact S.inj m m' q (live m l1).2 (live m' l2).2 e1 e2
  · obtain ⟨hm,l'⟩:=live m l
    show upd w.R p o q = none
    rw [upd_ne (nc m q hm l' e)]; exact S.sep m q l' e
  · have hap:a ≠ p:=fun z=>nn (.inr ⟨n,l0,by rw [z]; exact ep⟩)
    rw [upd_ne hap]; exact e
  · rcases q with q | ⟨m,l,e⟩
    · by_cases ha:a = p
      · subst ha; exact .inl (.inr ⟨n,l0,ep⟩)
      · have q':upd w.R p o a ≠ none:=q
        rw [upd_ne ha] at q'; exact .inl (.inl q')
    · exact .inl (.inr ⟨m,(live m l).2,e⟩)
  · by_cases ha:a = p
    · subst ha; rw [upd_same]; exact nofun
    · rw [upd_ne ha]; exact e
end
def look (h:AH):AV → Option (Kd × List AV)
  | .nod k xs=>some (k,xs)
  | .ref n=>h.get n
  | _=>none
def NodeH (c:Ct) (H:Hp) (p:Addr):Kd → List V → Prop
  | .tup,us=>SqT c.K H p us
  | .lst,us=>H p = some (.lst us)
  | .scr,us=>SqL c.K H p us
  | .dct ks,us=>ks.length = us.length ∧ Rd H p (.dK (ks.zip us))
  | .ldct ks,us=>ks.length = us.length ∧ Rd H p (.dK (ks.zip us))
  | .tab ks,us=>KTab c p ks us
  | .ins k,us=>us.length ≤ (c.cl k).2.length ∧ ∃ a dx,c.mg (c.cl k).1 = some (.ref a) ∧ H p = some (.ins a dx ((c.cl k).2.zip us))
  | .cod _ _,_=>True
theorem NodeM.h {c:Ct} {H:Hp} {p:Addr} {k:Kd} {us:List V} (n:NodeM c H p k us):NodeH c H p k us:=by
  cases k with
  | tup=>exact n.elim
  | lst=>exact n
  | scr=>exact n.elim
  | dct ks=>exact ⟨n.1,.inl n.2⟩
  | ldct ks=>obtain ⟨l,od,e⟩:=n; exact ⟨l,.inr ⟨od,e⟩⟩
  | tab ks=>exact n.elim
  | ins k=>exact n
  | cod P q=>exact trivial
theorem NodeR.h {c:Ct} {R H:Hp} (h:∀ a o,R a = some o → H a = some o) {p:Addr} {k:Kd} {us:List V} (r:NodeR c R p k us):NodeH c H p k us:=by
  cases k with
  | tup=>exact SqT.le h r
  | lst=>exact h _ _ r
  | scr=>exact SqL.le h r
  | dct ks =>
    obtain ⟨e,od,r⟩:=r
    exact ⟨e,.inr ⟨od,h _ _ r⟩⟩
  | ldct ks=>exact r.elim
  | tab ks=>exact r
  | ins k =>
    obtain ⟨e,a,dx,m,r⟩:=r
    exact ⟨e,a,dx,m,h _ _ r⟩
  | cod P q=>exact trivial
theorem look_ok {c:Ct} {w:Wd} {H:Hp} {h:AH} (S:SR c w H h) {a:AV} {u:V} {k:Kd} {xs:List AV} (r:RepV c w a u) (e:look h a = some (k,xs)):∃ p us,u = .ref p ∧ NodeH c H p k us ∧ RepL c w xs us:=by
  cases a with
  | nod k' xs' =>
    have e':some (k',xs') = some (k,xs):=e
    cases e'
    obtain ⟨p,us,e1,n,l⟩:=r
    exact ⟨p,us,e1,n.h S.le,l⟩
  | ref n =>
    obtain ⟨p,us,e1,nm,l⟩:=S.cell n k xs e
    obtain ⟨p',e2,e3⟩:=r
    rw [e1] at e2
    cases e2
    exact ⟨p,us,e3,nm.h,l⟩
  | _=>cases e
end Rp
end
section
namespace Rp
open PySem PySem.Spec PyProof.Rows L2
abbrev LS:=List (Option AV)
abbrev AE:=LS → AH → Option (AV × AH)
abbrev AT:=LS → AH → Option (Bool × AH)
abbrev AA:=LS → AH → Option (List AV × AH)
structure RepS (c:Ct) (w:Wd) (s:LS) (σ:L2.St):Prop where
  len:s.length = σ.length
  at_:∀ (j:Nat) (a:AV),s[j]? = some (some a) → ∃ u,σ[j]? = some (some u) ∧ RepV c w a u
theorem RepS.le {c:Ct} {w w':Wd} {s:LS} {σ:L2.St} (r:RepS c w s σ) (h:WLe w w'):RepS c w' s σ :=
  ⟨r.len,fun j a e=>let ⟨u,e1,e2⟩:=r.at_ j a e; ⟨u,e1,RepV.le h _ _ e2⟩⟩
theorem RepS.set {c:Ct} {w:Wd} {s:LS} {σ:L2.St} {a:AV} {u:V} (r:RepS c w s σ) (i:Nat) (q:RepV c w a u):RepS c w (s.set i (some a)) (σ.set i (some u)):=by
  refine ⟨by rw [List.length_set,List.length_set]; exact r.len,fun j b e=>?_⟩
  by_cases hj:i = j
  · subst hj
    by_cases hl:i < s.length
    · rw [List.getElem?_set_self hl] at e
      cases e
      exact ⟨u,List.getElem?_set_self (by rw [← r.len]; exact hl),q⟩
    · rw [List.getElem?_eq_none (by rw [List.length_set]; omega)] at e; cases e
  · rw [List.getElem?_set_ne hj] at e
    rw [List.getElem?_set_ne hj]
    exact r.at_ j b e
theorem RepS.wipe {c:Ct} {w:Wd} {s:LS} {σ:L2.St} (r:RepS c w s σ) (i:Nat):RepS c w (s.set i none) (σ.set i none):=by
  refine ⟨by rw [List.length_set,List.length_set]; exact r.len,fun j b e=>?_⟩
  by_cases hj:i = j
  · subst hj
    by_cases hl:i < s.length
    · rw [List.getElem?_set_self hl] at e; cases e
    · rw [List.getElem?_eq_none (by rw [List.length_set]; omega)] at e; cases e
  · rw [List.getElem?_set_ne hj] at e
    rw [List.getElem?_set_ne hj]
    exact r.at_ j b e
abbrev ctX (X:Cx) (cl:Nat → Str × List Str):Ct:=⟨X.K,X.w,X.mg,cl⟩
def tA (c:Ct) (f:AE):TE:=fun σ H Q=>∃ w s h v h',RepS c w s σ ∧ SR c w H h ∧ f s h = some (v,h') ∧
  ∀ w' H' u,Tr w H h w' H' h' → SR c w' H' h' → RepV c w' v u → Q u H'
def tT (c:Ct) (f:AT):TT:=fun σ H Q=>∃ w s h v h',RepS c w s σ ∧ SR c w H h ∧ f s h = some (v,h') ∧
  ∀ w' H',Tr w H h w' H' h' → SR c w' H' h' → Q v H'
def tAs (c:Ct) (f:AA):TA:=fun σ H Q=>∃ w s h vs h',RepS c w s σ ∧ SR c w H h ∧ f s h = some (vs,h') ∧
  ∀ w' H' us,Tr w H h w' H' h' → SR c w' H' h' → RepL c w' vs us → Q us H'
theorem _root_.L2.PE.wk {X:Cx} {e:Expr} {t t':TE} (h:PE X e t) (hh:∀ σ H Q,t' σ H Q → t σ H Q):PE X e t':=⟨fun pins s σ H Q I q=>h.run pins s σ H Q I (hh _ _ _ q)⟩
theorem _root_.L2.PT.wk {X:Cx} {e:Expr} {t t':TT} (h:PT X e t) (hh:∀ σ H Q,t' σ H Q → t σ H Q):PT X e t':=⟨fun pins s σ H Q I q=>h.run pins s σ H Q I (hh _ _ _ q)⟩
theorem _root_.L2.PA.wk {X:Cx} {e:List Expr} {t t':TA} (h:PA X e t) (hh:∀ σ H Q,t' σ H Q → t σ H Q):PA X e t':=⟨fun pos pins s σ H Q I q=>h.run pos pins s σ H Q I (hh _ _ _ q)⟩
def aVar (i:Nat):AE:=fun s h=>match s[i]? with
  | some (some v)=>some (v,h)
  | _=>none
def aC (v:AV):AE:=fun _ h=>some (v,h)
def aOp1 (o:AV → AH → Option (AV × AH)) (f:AE):AE:=fun s h=>(f s h).bind fun r=>o r.1 r.2
def aOp2 (o:AV → AV → AH → Option (AV × AH)) (f g:AE):AE:=fun s h=>(f s h).bind fun r=>(g s r.2).bind fun q=>o r.1 q.1 q.2
def aNil:AA:=fun _ h=>some ([],h)
def aCons (f:AE) (g:AA):AA:=fun s h=>(f s h).bind fun r=>(g s r.2).bind fun q=>some (r.1 :: q.1,q.2)
def aArgs (o:List AV → AH → Option (AV × AH)) (g:AA):AE:=fun s h=>(g s h).bind fun r=>o r.1 r.2
def aIf (t:AT) (f g:AE):AE:=fun s h=>(t s h).bind fun r=>if r.1 = true then f s r.2 else g s r.2
def aTst (f:AE):AT:=fun s h=>(f s h).bind fun r=>match r.1 with
  | .bl b=>some (b,r.2)
  | _=>none
def aAnd (f g:AT):AT:=fun s h=>(f s h).bind fun r=>if r.1 = true then g s r.2 else some (false,r.2)
def aOr (f g:AT):AT:=fun s h=>(f s h).bind fun r=>if r.1 = true then some (true,r.2) else g s r.2
def aNot (f:AT):AT:=fun s h=>(f s h).bind fun r=>some (!r.1,r.2)
theorem bind_some {α β:Type} {o:Option α} {f:α → Option β} {b:β} (h:o.bind f = some b):∃ a,o = some a ∧ f a = some b:=Option.bind_eq_some_iff.mp h
def Snd1 (c:Ct) (r:V → Hp → VK → Prop) (o:AV → AH → Option (AV × AH)):Prop:=∀ w H h a u v h' (Q:VK),SR c w H h → RepV c w a u → o a h = some (v,h') →
  (∀ w' H' z,Tr w H h w' H' h' → SR c w' H' h' → RepV c w' v z → Q z H') → r u H Q
def Snd2 (c:Ct) (r:R2) (o:AV → AV → AH → Option (AV × AH)):Prop:=∀ w H h a b u y v h' (Q:VK),SR c w H h → RepV c w a u → RepV c w b y → o a b h = some (v,h') →
  (∀ w' H' z,Tr w H h w' H' h' → SR c w' H' h' → RepV c w' v z → Q z H') → r u y H Q
def SndN (c:Ct) (r:List V → Hp → VK → Prop) (o:List AV → AH → Option (AV × AH)):Prop:=∀ w H h as us v h' (Q:VK),SR c w H h → RepL c w as us → o as h = some (v,h') →
  (∀ w' H' z,Tr w H h w' H' h' → SR c w' H' h' → RepV c w' v z → Q z H') → r us H Q
def SndM (c:Ct) (r:V → List V → Hp → VK → Prop) (o:AV → List AV → AH → Option (AV × AH)):Prop:=∀ w H h a u as us v h' (Q:VK),SR c w H h → RepV c w a u → RepL c w as us → o a as h = some (v,h') →
  (∀ w' H' z,Tr w H h w' H' h' → SR c w' H' h' → RepV c w' v z → Q z H') → r u us H Q
def orO {α:Type} (o o':Option α):Option α:=match o with
  | some x=>some x
  | none=>o'
theorem Snd2.or {c:Ct} {r r':R2} {o o':AV → AV → AH → Option (AV × AH)} (h:Snd2 c r o) (h':Snd2 c r' o'):Snd2 c (fun x y H Q=>r x y H Q ∨ r' x y H Q) (fun a b g=>orO (o a b g) (o' a b g)):=by
  intro w H g a b u y v h1 Q S ra rb e k
  have e':orO (o a b g) (o' a b g) = some (v,h1):=e
  cases q:o a b g with
  | some x =>
    rw [q] at e'
    have:x = (v,h1):=Option.some.inj e'
    subst this
    exact .inl (h w H g a b u y v h1 Q S ra rb q k)
  | none =>
    rw [q] at e'
    exact .inr (h' w H g a b u y v h1 Q S ra rb e' k)
theorem SndN.or {c:Ct} {r r':List V → Hp → VK → Prop} {o o':List AV → AH → Option (AV × AH)} (h:SndN c r o) (h':SndN c r' o'):SndN c (fun x H Q=>r x H Q ∨ r' x H Q) (fun a g=>orO (o a g) (o' a g)):=by
  intro w H g a u v h1 Q S ra e k
  have e':orO (o a g) (o' a g) = some (v,h1):=e
  cases q:o a g with
  | some x =>
    rw [q] at e'
    have:x = (v,h1):=Option.some.inj e'
    subst this
    exact .inl (h w H g a u v h1 Q S ra q k)
  | none =>
    rw [q] at e'
    exact .inr (h' w H g a u v h1 Q S ra e' k)
theorem SndM.or {c:Ct} {r r':V → List V → Hp → VK → Prop} {o o':AV → List AV → AH → Option (AV × AH)} (h:SndM c r o) (h':SndM c r' o'):SndM c (fun x y H Q=>r x y H Q ∨ r' x y H Q) (fun a b g=>orO (o a b g) (o' a b g)):=by
  intro w H g a u as us v h1 Q S ra rb e k
  have e':orO (o a as g) (o' a as g) = some (v,h1):=e
  cases q:o a as g with
  | some x =>
    rw [q] at e'
    have:x = (v,h1):=Option.some.inj e'
    subst this
    exact .inl (h w H g a u as us v h1 Q S ra rb q k)
  | none =>
    rw [q] at e'
    exact .inr (h' w H g a u as us v h1 Q S ra rb e' k)
section
variable {c:Ct}
theorem tOp_of {r:R2} {o:AV → AV → AH → Option (AV × AH)} (hs:Snd2 c r o) {f g:AE} {σ:L2.St} {H:Hp} {Q:VK} (q:tA c (aOp2 o f g) σ H Q):tOp r (tA c f) (tA c g) σ H Q:=by
  obtain ⟨w,s,h,v,h',rs,sr,e,k⟩:=q
  obtain ⟨⟨a,h1⟩,e1,e⟩:=bind_some e
  obtain ⟨⟨b,h2⟩,e2,e⟩:=bind_some e
  refine ⟨w,s,h,a,h1,rs,sr,e1,fun w1 H1 u t1 s1 r1=>⟨w1,s,h1,b,h2,rs.le t1.le,s1,e2,fun w2 H2 y t2 s2 r2=>?_⟩⟩
  exact hs w2 H2 h2 a b u y v h' Q s2 (RepV.le t2.le _ _ r1) r2 e fun w3 H3 z t3 s3 r3=>k w3 H3 z (t1.trans (t2.trans t3)) s3 r3
theorem tUn_of {r:V → Hp → VK → Prop} {o:AV → AH → Option (AV × AH)} (hs:Snd1 c r o) {f:AE} {σ:L2.St} {H:Hp} {Q:VK} (q:tA c (aOp1 o f) σ H Q):tUn r (tA c f) σ H Q:=by
  obtain ⟨w,s,h,v,h',rs,sr,e,k⟩:=q
  obtain ⟨⟨a,h1⟩,e1,e⟩:=bind_some e
  refine ⟨w,s,h,a,h1,rs,sr,e1,fun w1 H1 u t1 s1 r1=>?_⟩
  exact hs w1 H1 h1 a u v h' Q s1 r1 e fun w3 H3 z t3 s3 r3=>k w3 H3 z (t1.trans t3) s3 r3
theorem tCB_of {r:List V → Hp → VK → Prop} {o:List AV → AH → Option (AV × AH)} (hs:SndN c r o) {g:AA} {σ:L2.St} {H:Hp} {Q:VK} (q:tA c (aArgs o g) σ H Q):tCB r (tAs c g) σ H Q:=by
  obtain ⟨w,s,h,v,h',rs,sr,e,k⟩:=q
  obtain ⟨⟨a,h1⟩,e1,e⟩:=bind_some e
  refine ⟨w,s,h,a,h1,rs,sr,e1,fun w1 H1 u t1 s1 r1=>?_⟩
  exact hs w1 H1 h1 a u v h' Q s1 r1 e fun w3 H3 z t3 s3 r3=>k w3 H3 z (t1.trans t3) s3 r3
end
section
variable {X:Cx} {cl:Nat → Str × List Str} {pos:Pos}
theorem ae_var {x:Str} (i:Nat) (hN:X.N[i]? = some x:=by rfl) (hv:Vis X.env.scope x:=by first | exact Or.inl rfl | exact Or.inr (Or.inl rfl) | exact Or.inr (Or.inr rfl)) (hd:(x == ("__debug__" : Str)) = false:=by decide)
    (hcd:(x == ("__classdict__" : Str)) = false:=by decide):PE X (.Name x pos) (tA (ctX X cl) (aVar i)):=by
  refine (pe_var hN hv hd hcd).wk fun σ H Q q=>?_
  obtain ⟨w,s,h,v,h',rs,sr,e,k⟩:=q
  unfold aVar at e
  split at e
  · rename_i z hz
    cases e
    obtain ⟨u,e1,e2⟩:=rs.at_ i v hz
    exact ⟨u,e1,k w H u (.refl _ _ _) sr e2⟩
  · cases e
theorem tC_of {v:AV} {u:V} {c:Ct} (hr:∀ w,RepV c w v u) {σ:L2.St} {H:Hp} {Q:VK} (q:tA c (aC v) σ H Q):tC u σ H Q:=by
  obtain ⟨w,s,h,v',h',rs,sr,e,k⟩:=q
  cases e
  exact k w H u (.refl _ _ _) sr (hr w)
theorem ae_int {i:Int} {j:Nat}:PE X (.Constant (.int i) j pos) (tA (ctX X cl) (aC (.int i))):=pe_int.wk fun _ _ _ q=>tC_of (v:=.int i) (u:=.int i) (fun _=>rfl) q
theorem ae_bl {b:Bool} {j:Nat}:PE X (.Constant (.bool b) j pos) (tA (ctX X cl) (aC (.bl b))):=pe_bl.wk fun _ _ _ q=>tC_of (v:=.bl b) (u:=.bl b) (fun _=>rfl) q
theorem ae_non {j:Nat}:PE X (.Constant .none j pos) (tA (ctX X cl) (aC .non)):=pe_non.wk fun _ _ _ q=>tC_of (v:=.non) (u:=.non) (fun _=>rfl) q
theorem ae_str {x:Str} {j:Nat}:PE X (.Constant (.str x) j pos) (tA (ctX X cl) (aC (.str x))):=pe_str.wk fun _ _ _ q=>tC_of (v:=.str x) (u:=.str x) (fun _=>rfl) q
def GlobV (c:Ct) (x:Str) (v:AV):Prop:=∃ u y,c.mg x = some u ∧ RelV y u ∧ ∀ w,RepV c w v y
theorem ae_glob {x:Str} {v:AV} (hm:GlobV (ctX X cl) x v) (hg:Gl X x:=by rfl) (hd:(x == ("__debug__" : Str)) = false:=by decide):PE X (.Name x pos) (tA (ctX X cl) (aC v)):=by
  obtain ⟨u,y,e,r,h⟩:=hm
  exact (pe_glob hg e r hd).wk fun _ _ _ q=>tC_of h q
variable {a b:Expr} {f g:AE}
theorem ae_bin {op:Operator} {r:R2} {o:AV → AV → AH → Option (AV × AH)} (ho:OpR X (binaryOp op) r) (hs:Snd2 (ctX X cl) r o) (ha:PE X a (tA (ctX X cl) f)) (hb:PE X b (tA (ctX X cl) g)):PE X (.BinOp a op b pos) (tA (ctX X cl) (aOp2 o f g)) :=
  (pe_op ho ha hb).wk fun _ _ _ q=>tOp_of hs q
theorem ae_un {op:UnaryOp} {r:V → Hp → VK → Prop} {o:AV → AH → Option (AV × AH)} (ho:UnR X (unaryOp op) r) (hs:Snd1 (ctX X cl) r o) (ha:PE X a (tA (ctX X cl) f)):PE X (.UnaryOp op a pos) (tA (ctX X cl) (aOp1 o f)) :=
  (pe_un ho ha).wk fun _ _ _ q=>tUn_of hs q
theorem ae_cmp {op:CmpOp} {r:R2} {o:AV → AV → AH → Option (AV × AH)} (ho:OpR X (compareOp op) r) (hs:Snd2 (ctX X cl) r o) (ha:PE X a (tA (ctX X cl) f)) (hb:PE X b (tA (ctX X cl) g)) (hm:behindInMarks op b = false:=by rfl):PE X (.Compare a [op] [b] pos) (tA (ctX X cl) (aOp2 o f g)) :=
  (pe_cmpR ho ha hb hm).wk fun _ _ _ q=>tOp_of hs q
theorem tTest_of {c:Ct} {t:TE} {f:AE} (hh:∀ σ H Q,tA c f σ H Q → t σ H Q) {σ:L2.St} {H:Hp} {Q:Bool → Hp → Prop} (q:tT c (aTst f) σ H Q):tTest t σ H Q:=by
  obtain ⟨w,s,h,v,h',rs,sr,e,k⟩:=q
  obtain ⟨⟨a,h1⟩,e1,e⟩:=bind_some e
  cases a with
  | bl b =>
    cases e
    exact hh σ H _ ⟨w,s,h,.bl v,h1,rs,sr,e1,fun w' H' u t s1 r=>⟨v,r,k w' H' t s1⟩⟩
  | _=>cases e
theorem at_cmp {op:CmpOp} {r:R2} {o:AV → AV → AH → Option (AV × AH)} (ho:OpR X (compareOp op) r) (hs:Snd2 (ctX X cl) r o) (ha:PE X a (tA (ctX X cl) f)) (hb:PE X b (tA (ctX X cl) g)) (hm:behindInMarks op b = false:=by rfl):PT X (.Compare a [op] [b] pos) (tT (ctX X cl) (aTst (aOp2 o f g))) :=
  (pt_cmpR ho ha hb hm).wk fun _ _ _ q=>tTest_of (fun _ _ _ q=>tOp_of hs q) q
def aChain (o o':AV → AV → AH → Option (AV × AH)) (f g k:AE):AE:=fun s h=>(f s h).bind fun r=>(g s r.2).bind fun q=>(o r.1 q.1 q.2).bind fun z=>match z.1 with
  | .bl true=>(k s z.2).bind fun y=>o' q.1 y.1 y.2
  | .bl false=>some (.bl false,z.2)
  | _=>none
theorem tChain_of {c:Ct} {r r':R2} {o o':AV → AV → AH → Option (AV × AH)} (hs:Snd2 c r o) (hs':Snd2 c r' o') {f g k:AE} {σ:L2.St} {H:Hp} {Q:VK} (q:tA c (aChain o o' f g k) σ H Q):tChain r r' (tA c f) (tA c g) (tA c k) σ H Q:=by
  obtain ⟨w,s,h,v,h',rs,sr,e,kk⟩:=q
  obtain ⟨⟨a,h1⟩,e1,e⟩:=bind_some e
  obtain ⟨⟨b,h2⟩,e2,e⟩:=bind_some e
  obtain ⟨⟨z,h3⟩,e3,e⟩:=bind_some e
  refine ⟨w,s,h,a,h1,rs,sr,e1,fun w1 H1 u t1 s1 r1=>⟨w1,s,h1,b,h2,rs.le t1.le,s1,e2,fun w2 H2 y t2 s2 r2=>?_⟩⟩
  refine hs w2 H2 h2 a b u y z h3 _ s2 (RepV.le t2.le _ _ r1) r2 e3 fun w3 H3 zz t3 s3 r3=>?_
  cases z with
  | bl d =>
    refine ⟨d,r3,?_⟩
    cases d with
    | true =>
      rw [if_pos rfl]
      obtain ⟨⟨y',h4⟩,e4,e⟩:=bind_some e
      refine ⟨w3,s,h3,y',h4,(rs.le t1.le).le (t2.trans t3).le,s3,e4,fun w4 H4 y2 t4 s4 r4=>?_⟩
      exact hs' w4 H4 h4 b y' y y2 v h' Q s4 (RepV.le (t3.trans t4).le _ _ r2) r4 e fun w5 H5 z5 t5 s5 r5=>kk w5 H5 z5 (t1.trans (t2.trans (t3.trans (t4.trans t5)))) s5 r5
    | false =>
      rw [if_neg Bool.false_ne_true]
      cases e
      exact kk w3 H3 (.bl false) (t1.trans (t2.trans t3)) s3 rfl
  | _=>cases e
theorem ae_chain {cc:Expr} {k:AE} {op op':CmpOp} {r r':R2} {o o':AV → AV → AH → Option (AV × AH)} (ho:OpR X (compareOp op) r) (ho':OpR X (compareOp op') r') (hs:Snd2 (ctX X cl) r o) (hs':Snd2 (ctX X cl) r' o')
    (ha:PE X a (tA (ctX X cl) f)) (hb:PE X b (tA (ctX X cl) g)) (hc:PE X cc (tA (ctX X cl) k)) (h:∀ {ta tb tc:TE},PE X a ta → PE X b tb → PE X cc tc → PE X (.Compare a [op,op'] [b,cc] pos) (tChain r r' ta tb tc):=by exact fun h1 h2 h3=>pe_chain (by assumption) (by assumption) h1 h2 h3) :
    PE X (.Compare a [op,op'] [b,cc] pos) (tA (ctX X cl) (aChain o o' f g k)):=(h ha hb hc).wk fun _ _ _ q=>tChain_of hs hs' q
theorem at_val (h:PE X a (tA (ctX X cl) f)) (he:∀ whole,isTrue a X.env whole = (do let v ← whole; standAt a.pos; holding [v] (truthy v)):=by intro _; rfl):PT X a (tT (ctX X cl) (aTst f)) :=
  (pt_val h he).wk fun _ _ _ q=>tTest_of (fun _ _ _ q=>q) q
variable {t u:AT} {rest:List Expr}
theorem tAnd_of {c:Ct} {σ:L2.St} {H:Hp} {Q:Bool → Hp → Prop} (q:tT c (aAnd t u) σ H Q):tAnd (tT c t) (tT c u) σ H Q:=by
  obtain ⟨w,s,h,v,h',rs,sr,e,k⟩:=q
  obtain ⟨⟨b,h1⟩,e1,e⟩:=bind_some e
  refine ⟨w,s,h,b,h1,rs,sr,e1,fun w1 H1 t1 s1=>?_⟩
  cases b with
  | true =>
    rw [if_pos rfl]
    exact ⟨w1,s,h1,v,h',rs.le t1.le,s1,e,fun w2 H2 t2 s2=>k w2 H2 (t1.trans t2) s2⟩
  | false =>
    rw [if_neg Bool.false_ne_true]
    cases e
    exact k w1 H1 t1 s1
theorem tOr_of {c:Ct} {σ:L2.St} {H:Hp} {Q:Bool → Hp → Prop} (q:tT c (aOr t u) σ H Q):tOr (tT c t) (tT c u) σ H Q:=by
  obtain ⟨w,s,h,v,h',rs,sr,e,k⟩:=q
  obtain ⟨⟨b,h1⟩,e1,e⟩:=bind_some e
  refine ⟨w,s,h,b,h1,rs,sr,e1,fun w1 H1 t1 s1=>?_⟩
  cases b with
  | false =>
    rw [if_neg Bool.false_ne_true]
    exact ⟨w1,s,h1,v,h',rs.le t1.le,s1,e,fun w2 H2 t2 s2=>k w2 H2 (t1.trans t2) s2⟩
  | true =>
    rw [if_pos rfl]
    cases e
    exact k w1 H1 t1 s1
theorem _root_.L2.PW.wk {X:Cx} {e:Expr} {t t':TT} (h:PW X e t) (hh:∀ σ H Q,t' σ H Q → t σ H Q):PW X e t':=⟨fun wh pins s σ H Q I q=>h.run wh pins s σ H Q I (hh _ _ _ q)⟩
theorem aw_and1 (ha:PT X a (tT (ctX X cl) t)):PW X (.BoolOp .And [a] pos) (tT (ctX X cl) t):=pw_and1 ha
theorem aw_or1 (ha:PT X a (tT (ctX X cl) t)):PW X (.BoolOp .Or [a] pos) (tT (ctX X cl) t):=pw_or1 ha
theorem aw_and (ha:PT X a (tT (ctX X cl) t)) (hb:PW X (.BoolOp .And (b :: rest) pos) (tT (ctX X cl) u)):PW X (.BoolOp .And (a :: b :: rest) pos) (tT (ctX X cl) (aAnd t u)):=(pw_and ha hb).wk fun _ _ _ q=>tAnd_of q
theorem aw_or (ha:PT X a (tT (ctX X cl) t)) (hb:PW X (.BoolOp .Or (b :: rest) pos) (tT (ctX X cl) u)):PW X (.BoolOp .Or (a :: b :: rest) pos) (tT (ctX X cl) (aOr t u)):=(pw_or ha hb).wk fun _ _ _ q=>tOr_of q
theorem at_not (ha:PT X a (tT (ctX X cl) t)):PT X (.UnaryOp .Not a pos) (tT (ctX X cl) (aNot t)):=by
  refine (pt_not ha).wk fun σ H Q q=>?_
  obtain ⟨w,s,h,v,h',rs,sr,e,k⟩:=q
  obtain ⟨⟨b,h1⟩,e1,e⟩:=bind_some e
  cases e
  exact ⟨w,s,h,b,h1,rs,sr,e1,fun w1 H1 t1 s1=>k w1 H1 t1 s1⟩
def aAndV (f g:AE):AE:=fun s h=>(f s h).bind fun r=>match r.1 with
  | .bl true=>g s r.2
  | .bl false=>some (.bl false,r.2)
  | _=>none
theorem ae_one {op:BoolOp} (ha:PE X a (tA (ctX X cl) f)):PE X (.BoolOp op [a] pos) (tA (ctX X cl) f):=pe_one ha
theorem ae_and (ha:PE X a (tA (ctX X cl) f)) (hb:PE X (.BoolOp .And (b :: rest) pos) (tA (ctX X cl) g)):PE X (.BoolOp .And (a :: b :: rest) pos) (tA (ctX X cl) (aAndV f g)):=by
  refine (pe_and ha hb).wk fun σ H Q q=>?_
  obtain ⟨w,s,h,v,h',rs,sr,e,k⟩:=q
  obtain ⟨⟨z,h1⟩,e1,e⟩:=bind_some e
  refine ⟨w,s,h,z,h1,rs,sr,e1,fun w1 H1 y t1 s1 r1=>?_⟩
  cases z with
  | bl d =>
    refine ⟨d,r1,?_⟩
    cases d with
    | true =>
      rw [if_pos rfl]
      exact ⟨w1,s,h1,v,h',rs.le t1.le,s1,e,fun w2 H2 u t2 s2 r2=>k w2 H2 u (t1.trans t2) s2 r2⟩
    | false =>
      rw [if_neg Bool.false_ne_true]
      cases e
      exact k w1 H1 _ t1 s1 rfl
  | _=>cases e
theorem ae_ife {c0:Expr} (hc:PT X c0 (tT (ctX X cl) t)) (ha:PE X a (tA (ctX X cl) f)) (hb:PE X b (tA (ctX X cl) g)):PE X (.IfExp c0 a b pos) (tA (ctX X cl) (aIf t f g)):=by
  refine (pe_ifExp hc ha hb).wk fun σ H Q q=>?_
  obtain ⟨w,s,h,v,h',rs,sr,e,k⟩:=q
  obtain ⟨⟨d,h1⟩,e1,e⟩:=bind_some e
  refine ⟨w,s,h,d,h1,rs,sr,e1,fun w1 H1 t1 s1=>?_⟩
  cases d with
  | true =>
    rw [if_pos rfl]
    exact ⟨w1,s,h1,v,h',rs.le t1.le,s1,e,fun w2 H2 u t2 s2 r2=>k w2 H2 u (t1.trans t2) s2 r2⟩
  | false =>
    rw [if_neg Bool.false_ne_true]
    exact ⟨w1,s,h1,v,h',rs.le t1.le,s1,e,fun w2 H2 u t2 s2 r2=>k w2 H2 u (t1.trans t2) s2 r2⟩
variable {es:List Expr} {e:Expr} {gs:AA}
theorem aa_nil:PA X [] (tAs (ctX X cl) aNil):=pa_nil.wk fun σ H Q q=>by
  obtain ⟨w,s,h,v,h',rs,sr,e,k⟩:=q
  cases e
  exact k w H [] (.refl _ _ _) sr rfl
theorem aa_cons (ha:PE X e (tA (ctX X cl) f)) (hr:PA X es (tAs (ctX X cl) gs)) (hs:starEach (e :: es) X.env = (false,eval e X.env) :: starEach es X.env:=by rfl):PA X (e :: es) (tAs (ctX X cl) (aCons f gs)):=by
  refine (pa_cons ha hr hs).wk fun σ H Q q=>?_
  obtain ⟨w,s,h,v,h',rs,sr,e,k⟩:=q
  obtain ⟨⟨z,h1⟩,e1,e⟩:=bind_some e
  obtain ⟨⟨zs,h2⟩,e2,e⟩:=bind_some e
  cases e
  exact ⟨w,s,h,z,h1,rs,sr,e1,fun w1 H1 u t1 s1 r1=>⟨w1,s,h1,zs,h2,rs.le t1.le,s1,e2,fun w2 H2 us t2 s2 r2=>k w2 H2 (u :: us) (t1.trans t2) s2 (.cons (RepV.le t2.le _ _ r1) r2)⟩⟩
def mkF (k:Kd) (xs:List AV) (h:AH):Option (AV × AH):=if xs.length ≤ sizeLine then some (.nod k xs,h) else none
def mkM (k:Kd) (xs:List AV) (h:AH):Option (AV × AH):=if xs.length ≤ sizeLine then some (.ref h.next,h.new (k,xs)) else none
theorem SR.newF {c:Ct} {w:Wd} {H:Hp} {h:AH} (S:SR c w H h) {p:Addr} {k:Kd} {xs:List AV} {us:List V} {o:HO} (hp:H p = none) (r:RepL c w xs us) (hn:∀ R:Hp,R p = some o → NodeR c R p k us) :
    ∃ w',SR c w' (upd H p o) h ∧ Tr w H h w' (upd H p o) h ∧ RepV c w' (.nod k xs) (.ref p):=by
  obtain ⟨s,t⟩:=S.frozen (o:=o) hp
  exact ⟨_,s,t,p,us,rfl,hn _ upd_same,RepL.le t.le _ _ r⟩
theorem SR.newM {c:Ct} {w:Wd} {H:Hp} {h:AH} (S:SR c w H h) {p:Addr} {k:Kd} {xs:List AV} {us:List V} {o:HO} (hp:H p = none) (r:RepL c w xs us) (hn:∀ H:Hp,H p = some o → NodeM c H p k us) :
    ∃ w',SR c w' (upd H p o) (h.new (k,xs)) ∧ Tr w H h w' (upd H p o) (h.new (k,xs)) ∧ RepV c w' (.ref h.next) (.ref p):=by
  obtain ⟨s,t⟩:=S.newCell (H':=upd H p o) hp (fun a ha _=>upd_ne ha) (hn _ upd_same) r
  exact ⟨_,s,t,p,if_pos rfl,rfl⟩
theorem ae_tup {x1:Nat} (h:PA X es (tAs (ctX X cl) gs)):PE X (.Tuple es x1 pos) (tA (ctX X cl) (aArgs (mkF .tup) gs)):=by
  refine (pe_tup h).wk fun σ H Q q=>?_
  obtain ⟨w,s,h,v,h',rs,sr,e,k⟩:=q
  obtain ⟨⟨zs,h1⟩,e1,e⟩:=bind_some e
  unfold mkF at e
  split at e
  · rename_i hz
    cases e
    refine ⟨w,s,h,zs,h1,rs,sr,e1,fun w1 H1 us t1 s1 r1=>⟨by rw [← r1.len]; exact hz,fun p hp=>?_⟩⟩
    obtain ⟨w2,s2,t2,r2⟩:=s1.newF (k:=.tup) hp r1 fun R e=>SqT.of e
    exact k w2 _ _ (t1.trans t2) s2 r2
  · cases e
theorem ae_lstF (h:PA X es (tAs (ctX X cl) gs)):PE X (.List es pos) (tA (ctX X cl) (aArgs (mkF .lst) gs)):=by
  refine (pe_lst h).wk fun σ H Q q=>?_
  obtain ⟨w,s,h,v,h',rs,sr,e,k⟩:=q
  obtain ⟨⟨zs,h1⟩,e1,e⟩:=bind_some e
  unfold mkF at e
  split at e
  · rename_i hz
    cases e
    refine ⟨w,s,h,zs,h1,rs,sr,e1,fun w1 H1 us t1 s1 r1=>⟨by rw [← r1.len]; exact hz,fun p hp=>?_⟩⟩
    obtain ⟨w2,s2,t2,r2⟩:=s1.newF (k:=.lst) hp r1 fun R e=>e
    exact k w2 _ _ (t1.trans t2) s2 r2
  · cases e
theorem ae_lstM (h:PA X es (tAs (ctX X cl) gs)):PE X (.List es pos) (tA (ctX X cl) (aArgs (mkM .lst) gs)):=by
  refine (pe_lst h).wk fun σ H Q q=>?_
  obtain ⟨w,s,h,v,h',rs,sr,e,k⟩:=q
  obtain ⟨⟨zs,h1⟩,e1,e⟩:=bind_some e
  unfold mkM at e
  split at e
  · rename_i hz
    cases e
    refine ⟨w,s,h,zs,h1,rs,sr,e1,fun w1 H1 us t1 s1 r1=>⟨by rw [← r1.len]; exact hz,fun p hp=>?_⟩⟩
    obtain ⟨w2,s2,t2,r2⟩:=s1.newM (k:=.lst) hp r1 fun H e=>e
    exact k w2 _ _ (t1.trans t2) s2 r2
  · cases e
end
end Rp
end
section
namespace Rp
open PySem PySem.Spec PyProof.Rows L2
mutual
def toD:AV → PyData
  | .non=>.none
  | .bl b=>.bool b
  | .int i=>.int i
  | .str x=>.str x
  | .nod .tup xs=>.tuple (toDs xs)
  | .nod _ xs=>.list (toDs xs)
  | .ty _=>.none
  | .gl _=>.none
  | .ref _=>.none
def toDs:List AV → List PyData
  | []=>[]
  | x :: xs=>toD x :: toDs xs
end
mutual
def isD:Nat → AV → Bool
  | _,.non=>true
  | _,.bl _=>true
  | _,.int _=>true
  | _,.str _=>true
  | n,.nod .tup xs=>Nat.ble 1 n && isDs (n - 1) xs
  | n,.nod .lst xs=>Nat.ble 1 n && isDs (n - 1) xs
  | _,.nod _ _=>false
  | _,.ty _=>false
  | _,.gl _=>false
  | _,.ref _=>false
def isDs:Nat → List AV → Bool
  | _,[]=>true
  | n,x :: xs=>isD n x && isDs n xs
end
mutual
theorem toD_plain:∀ (a:AV) (n:Nat),isD n a = true → (toD a).plain = true
  | .non,_,_=>rfl
  | .bl _,_,_=>rfl
  | .int _,_,_=>rfl
  | .str _,_,_=>rfl
  | .ty _,_,h=>by simp [isD] at h
  | .gl _,_,h=>by simp [isD] at h
  | .ref _,_,h=>by simp [isD] at h
  | .nod k xs,n,h=>by
    cases k with
    | tup =>
      rw [isD,Bool.and_eq_true] at h
      rw [toD]
      exact toDs_plain xs _ h.2
    | lst =>
      rw [isD,Bool.and_eq_true] at h
      rw [toD] <;> first | exact toDs_plain xs _ h.2 | exact nofun
    | _=>simp [isD] at h
theorem toDs_plain:∀ (a:List AV) (n:Nat),isDs n a = true → PyData.plainAll (toDs a) = true
  | [],_,_=>rfl
  | x :: xs,n,h=>by
    rw [isDs,Bool.and_eq_true] at h
    rw [toDs,PyData.plainAll,toD_plain x n h.1,toDs_plain xs n h.2]
    rfl
end
mutual
theorem toD_depth:∀ (a:AV) (n:Nat),isD n a = true → (toD a).depth ≤ n
  | .non,_,_=>Nat.zero_le _
  | .bl _,_,_=>Nat.zero_le _
  | .int _,_,_=>Nat.zero_le _
  | .str _,_,_=>Nat.zero_le _
  | .ty _,_,h=>by simp [isD] at h
  | .gl _,_,h=>by simp [isD] at h
  | .ref _,_,h=>by simp [isD] at h
  | .nod k xs,n,h=>by
    cases k with
    | tup =>
      rw [isD,Bool.and_eq_true] at h
      have h1:=Nat.le_of_ble_eq_true h.1
      have:=toDs_depth xs _ h.2
      rw [toD,PyData.depth]
      omega
    | lst =>
      rw [isD,Bool.and_eq_true] at h
      have h1:=Nat.le_of_ble_eq_true h.1
      have:=toDs_depth xs _ h.2
      rw [toD]
      · rw [PyData.depth]; omega
      · exact nofun
    | _=>simp [isD] at h
theorem toDs_depth:∀ (a:List AV) (n:Nat),isDs n a = true → PyData.depthAll (toDs a) ≤ n
  | [],_,_=>Nat.zero_le _
  | x :: xs,n,h=>by
    rw [isDs,Bool.and_eq_true] at h
    have h1:=toD_depth x n h.1
    have h2:=toDs_depth xs n h.2
    rw [toDs,PyData.depthAll]
    omega
end
theorem SqL.up {K:PySem.W.Frag} {H:Hp} {p:Addr} {us:List V} (h:H p = some (.lst us)):SqL K H p us:=SqL.of h
mutual
theorem dp_of {c:Ct} {w:Wd} {H:Hp} (le:∀ a o,w.R a = some o → H a = some o):∀ (a:AV) (n:Nat) (u:V),isD n a = true → RepV c w a u → Dp c.K H u (toD a)
  | .non,_,u,_,r=>by rw [show u = _ from r]; exact .non
  | .bl b,_,u,_,r=>by rw [show u = _ from r]; exact .bl b
  | .int i,_,u,_,r=>by rw [show u = _ from r]; exact .int i
  | .str x,_,u,_,r=>by rw [show u = _ from r]; exact .str x
  | .ty _,_,_,h,_=>by simp [isD] at h
  | .gl _,_,_,h,_=>by simp [isD] at h
  | .ref _,_,_,h,_=>by simp [isD] at h
  | .nod k xs,n,u,h,r=>by
    obtain ⟨p,us,e,nr,l⟩:=r
    subst e
    cases k with
    | tup =>
      rw [isD,Bool.and_eq_true] at h
      rw [toD]
      exact .tup (SqT.le le nr) (dps_of le xs _ us h.2 l)
    | lst =>
      rw [isD,Bool.and_eq_true] at h
      rw [toD]
      · exact .lst (SqL.of (le _ _ nr)) (dps_of le xs _ us h.2 l)
      · exact nofun
    | _=>simp [isD] at h
theorem dps_of {c:Ct} {w:Wd} {H:Hp} (le:∀ a o,w.R a = some o → H a = some o):∀ (a:List AV) (n:Nat) (us:List V),isDs n a = true → RepL c w a us → DpAll c.K H us (toDs a)
  | [],_,us,_,r=>by rw [show us = [] from r]; exact .nil
  | x :: xs,n,us,h,r=>by
    obtain ⟨u,us',e,r1,r2⟩:=r
    rw [isDs,Bool.and_eq_true] at h
    subst e
    exact .cons (dp_of le x n u h.1 r1) (dps_of le xs n us' h.2 r2)
end
def nrm (h:AH) (a:AV):AV:=match a with
  | .ref n=>match h.get n with
    | some (.lst,xs)=>.nod .lst xs
    | _=>.ref n
  | a=>a
theorem dpn_of {c:Ct} {w:Wd} {H:Hp} {h:AH} (S:SR c w H h) {a:AV} {u:V} (r:RepV c w a u) (n:Nat) (d:isD n (nrm h a) = true):Dp c.K H u (toD (nrm h a)):=by
  cases a with
  | ref m =>
    unfold nrm at d ⊢
    cases e:h.get m with
    | none=>simp only [e] at d; simp [isD] at d
    | some q =>
      obtain ⟨k,xs⟩:=q
      cases k with
      | lst =>
        simp only [e] at d ⊢
        obtain ⟨p,us,e1,nm,l⟩:=S.cell m _ xs e
        obtain ⟨p',e2,e3⟩:=r
        rw [e1] at e2
        cases e2
        subst e3
        rw [isD,Bool.and_eq_true] at d
        rw [toD]
        · exact .lst (SqL.of nm) (dps_of S.le xs _ us d.2 l)
        · exact nofun
      | _=>simp only [e] at d; simp [isD] at d
  | nod k xs=>exact dp_of S.le _ n u d r
  | non=>exact dp_of S.le _ n u d r
  | bl _=>exact dp_of S.le _ n u d r
  | int _=>exact dp_of S.le _ n u d r
  | str _=>exact dp_of S.le _ n u d r
  | ty _=>exact dp_of S.le _ n u d r
  | gl _=>exact dp_of S.le _ n u d r
def aEq (a b:AV) (h:AH):Option (AV × AH):=if (isD 60 (nrm h a) && isD 60 (nrm h b)) = true then some (.bl (PyData.eqv (toD (nrm h a)) (toD (nrm h b))),h) else none
def aNe (a b:AV) (h:AH):Option (AV × AH):=if (isD 60 (nrm h a) && isD 60 (nrm h b)) = true then some (.bl (!PyData.eqv (toD (nrm h a)) (toD (nrm h b))),h) else none
def rEqP (K:PySem.W.Frag):R2:=fun x y H Q=>∃ d e,Dp K H x d ∧ Dp K H y e ∧ d.plain = true ∧ e.plain = true ∧ d.depth ≤ 60 ∧ Q (.bl (PyData.eqv d e)) H
def rNeP (K:PySem.W.Frag):R2:=fun x y H Q=>∃ d e,Dp K H x d ∧ Dp K H y e ∧ d.plain = true ∧ e.plain = true ∧ d.depth ≤ 60 ∧ Q (.bl (!PyData.eqv d e)) H
section
variable {X:Cx}
theorem op_eqP (hu:X.A.units + 64 < cLine):OpR X (compareOp .Eq) (rEqP X.K):=by
  intro pins s σ H x y v u Q I rx ry h
  obtain ⟨d,e,hd,he,sd,se,dp,q⟩:=h
  obtain ⟨as,r1⟩:=Dp.reads I d x v hd rx
  obtain ⟨bs,r2⟩:=Dp.reads I e y u he ry
  exact SeqAt.eq_plain r1 r2 sd se (by omega) ⟨.bl _,H,I,rfl,q⟩
theorem op_neP (hu:X.A.units + 64 < cLine):OpR X (compareOp .NotEq) (rNeP X.K):=by
  intro pins s σ H x y v u Q I rx ry h
  obtain ⟨d,e,hd,he,sd,se,dp,q⟩:=h
  obtain ⟨as,r1⟩:=Dp.reads I d x v hd rx
  obtain ⟨bs,r2⟩:=Dp.reads I e y u he ry
  exact SeqAt.ne_plain r1 r2 sd se (by omega) ⟨.bl _,H,I,rfl,q⟩
end
theorem snd_eq {c:Ct}:Snd2 c (rEqP c.K) aEq:=by
  intro w H h a b u y v h' Q S ra rb e k
  unfold aEq at e
  split at e
  · rename_i hd
    cases e
    rw [Bool.and_eq_true] at hd
    exact ⟨_,_,dpn_of S ra 60 hd.1,dpn_of S rb 60 hd.2,toD_plain _ 60 hd.1,toD_plain _ 60 hd.2,toD_depth _ 60 hd.1,k w H _ (.refl _ _ _) S rfl⟩
  · cases e
theorem snd_ne {c:Ct}:Snd2 c (rNeP c.K) aNe:=by
  intro w H h a b u y v h' Q S ra rb e k
  unfold aNe at e
  split at e
  · rename_i hd
    cases e
    rw [Bool.and_eq_true] at hd
    exact ⟨_,_,dpn_of S ra 60 hd.1,dpn_of S rb 60 hd.2,toD_plain _ 60 hd.1,toD_plain _ 60 hd.2,toD_depth _ 60 hd.1,k w H _ (.refl _ _ _) S rfl⟩
  · cases e
def aI2 (C:Int → Int → Bool) (f:Int → Int → AV):AV → AV → AH → Option (AV × AH)
  | .int i,.int j,h=>if C i j = true then some (f i j,h) else none
  | _,_,_=>none
theorem aI2_inv {C:Int → Int → Bool} {f:Int → Int → AV} {a b:AV} {h:AH} {r:AV × AH} (e:aI2 C f a b h = some r):∃ i j,a = .int i ∧ b = .int j ∧ C i j = true ∧ r = (f i j,h):=by
  cases a with
  | int i =>
    cases b with
    | int j =>
      have e':(if C i j = true then some (f i j,h) else none) = some r:=e
      split at e'
      · rename_i hc
        exact ⟨i,j,rfl,rfl,hc,(Option.some.inj e').symm⟩
      · cases e'
    | _=>cases e
  | _=>cases e
theorem snd_int {c:Ct} {P:Int → Int → Prop} {C:Int → Int → Bool} {f:Int → Int → AV} {g:Int → Int → V} (hC:∀ i j,C i j = true → P i j) (hf:∀ (w:Wd) i j,RepV c w (f i j) (g i j)):Snd2 c (rI P g) (aI2 C f):=by
  intro w H h a b u y v h' Q S ra rb e k
  obtain ⟨i,j,rfl,rfl,hc,er⟩:=aI2_inv e
  cases er
  exact ⟨i,j,ra,rb,hC i j hc,k w H _ (.refl _ _ _) S (hf w i j)⟩
theorem snd_int0 {c:Ct} {f:Int → Int → AV} {g:Int → Int → V} (hf:∀ (w:Wd) i j,RepV c w (f i j) (g i j)):Snd2 c (rI0 g) (aI2 (fun _ _=>true) f):=by
  intro w H h a b u y v h' Q S ra rb e k
  obtain ⟨i,j,rfl,rfl,hc,er⟩:=aI2_inv e
  cases er
  exact ⟨i,j,ra,rb,k w H _ (.refl _ _ _) S (hf w i j)⟩
abbrev aSub:=aI2 (fun _ _=>true) fun i j=>.int (i - j)
abbrev aLt:=aI2 (fun _ _=>true) fun i j=>.bl (decide (i < j))
abbrev aLe:=aI2 (fun _ _=>true) fun i j=>.bl (decide (i ≤ j))
abbrev aGt:=aI2 (fun _ _=>true) fun i j=>.bl (decide (j < i))
abbrev aGe:=aI2 (fun _ _=>true) fun i j=>.bl (decide (j ≤ i))
def mulC (i j:Int):Bool:=(decide (-18446744073709551616 < i) && decide (i < 18446744073709551616)) || (decide (-18446744073709551616 < j) && decide (j < 18446744073709551616))
theorem mulC_ok {i j:Int} (h:mulC i j = true):CMul i j:=by
  unfold mulC at h
  rw [Bool.or_eq_true,Bool.and_eq_true,Bool.and_eq_true,decide_eq_true_eq,decide_eq_true_eq,decide_eq_true_eq,decide_eq_true_eq] at h
  exact h
abbrev aMulI:=aI2 mulC fun i j=>.int (i * j)
abbrev aDiv:=aI2 (fun _ j=>decide (0 < j) && decide (j < 18446744073709551616)) fun i j=>.int (i / j)
abbrev aMod:=aI2 (fun _ j=>decide (0 < j)) fun i j=>.int (i % j)
abbrev aPow:=aI2 (fun i j=>decide (0 ≤ j) && (decide (j ≤ 1000000) && decide (i.natAbs < 18446744073709551616))) fun i j=>.int (i ^ j.toNat)
section
variable {X:Cx} {cl:Nat → Str × List Str} {pos:Pos} {a b:Expr} {f g:AE}
theorem ae_sub (ha:PE X a (tA (ctX X cl) f)) (hb:PE X b (tA (ctX X cl) g)):PE X (.BinOp a .Sub b pos) (tA (ctX X cl) (aOp2 aSub f g)):=ae_bin op_sub (snd_int0 fun _ _ _=>rfl) ha hb
theorem ae_div (ha:PE X a (tA (ctX X cl) f)) (hb:PE X b (tA (ctX X cl) g)):PE X (.BinOp a .FloorDiv b pos) (tA (ctX X cl) (aOp2 aDiv f g)) :=
  ae_bin op_fdivW (snd_int (fun i j h=>by
    rw [Bool.and_eq_true,decide_eq_true_eq,decide_eq_true_eq] at h
    exact wide_div (b:=64) h.1 (by have h2:=h.2; omega) (by decide) (by decide)) fun _ _ _=>rfl) ha hb
theorem ae_mod (ha:PE X a (tA (ctX X cl) f)) (hb:PE X b (tA (ctX X cl) g)):PE X (.BinOp a .Mod b pos) (tA (ctX X cl) (aOp2 aMod f g)) :=
  ae_bin op_mod (snd_int (fun i j h=>of_decide_eq_true h) fun _ _ _=>rfl) ha hb
theorem ae_pow (ha:PE X a (tA (ctX X cl) f)) (hb:PE X b (tA (ctX X cl) g)):PE X (.BinOp a .Pow b pos) (tA (ctX X cl) (aOp2 aPow f g)) :=
  ae_bin op_pow (snd_int (fun i j h=>by rw [Bool.and_eq_true,Bool.and_eq_true,decide_eq_true_eq,decide_eq_true_eq,decide_eq_true_eq] at h; exact h) fun _ _ _=>rfl) ha hb
theorem s_lt {c:Ct}:Snd2 c (rI0 fun i j=>.bl (decide (i < j))) aLt:=snd_int0 fun _ _ _=>rfl
theorem s_le {c:Ct}:Snd2 c (rI0 fun i j=>.bl (decide (i ≤ j))) aLe:=snd_int0 fun _ _ _=>rfl
theorem s_gt {c:Ct}:Snd2 c (rI0 fun i j=>.bl (decide (j < i))) aGt:=snd_int0 fun _ _ _=>rfl
theorem s_ge {c:Ct}:Snd2 c (rI0 fun i j=>.bl (decide (j ≤ i))) aGe:=snd_int0 fun _ _ _=>rfl
def aNeg:AV → AH → Option (AV × AH)
  | .int i,h=>some (.int (-i),h)
  | _,_=>none
theorem ae_neg (ha:PE X a (tA (ctX X cl) f)):PE X (.UnaryOp .USub a pos) (tA (ctX X cl) (aOp1 aNeg f)):=by
  refine ae_un un_neg ?_ ha
  intro w H h a u v h' Q S ra e k
  unfold aNeg at e
  split at e
  · cases e
    exact ⟨_,ra,k w H _ (.refl _ _ _) S rfl⟩
  · cases e
end
def aCat (mk:Kd → List AV → AH → Option (AV × AH)) (a b:AV) (h:AH):Option (AV × AH):=match look h a,look h b with
  | some (.lst,xs),some (.lst,ys)=>mk .lst (xs ++ ys) h
  | _,_=>none
def aAddS:AV → AV → AH → Option (AV × AH)
  | .str x,.str y,h=>if x.length + y.length ≤ sizeLine then some (.str (x ++ y),h) else none
  | _,_,_=>none
theorem snd_adds {c:Ct}:Snd2 c (fun x y H Q=>∃ i j,x = .str i ∧ y = .str j ∧ i.length + j.length ≤ sizeLine ∧ Q (.str (i ++ j)) H) aAddS:=by
  intro w H h a b u y v h' Q S ra rb e k
  unfold aAddS at e
  split at e
  · split at e
    · rename_i hz
      cases e
      exact ⟨_,_,ra,rb,hz,k w H _ (.refl _ _ _) S rfl⟩
    · cases e
  · cases e
theorem aCat_inv {mk:Kd → List AV → AH → Option (AV × AH)} {a b:AV} {h:AH} {r:AV × AH} (e:aCat mk a b h = some r):∃ xs ys,look h a = some (.lst,xs) ∧ look h b = some (.lst,ys) ∧ mk .lst (xs ++ ys) h = some r:=by
  unfold aCat at e
  split at e
  · rename_i xs ys h1 h2
    exact ⟨xs,ys,h1,h2,e⟩
  · cases e
theorem snd_catF {c:Ct}:Snd2 c rCat (aCat mkF):=by
  intro w H h a b u y v h' Q S ra rb e k
  obtain ⟨xs,ys,h1,h2,e⟩:=aCat_inv e
  unfold mkF at e
  split at e
  · rename_i hz
    cases e
    obtain ⟨p,us,rfl,n1,l1⟩:=look_ok S ra h1
    obtain ⟨q,vs,rfl,n2,l2⟩:=look_ok S rb h2
    refine ⟨p,q,us,vs,rfl,rfl,n1,n2,by rw [← l1.len,← l2.len,← List.length_append]; exact hz,fun z hz' => ?_⟩
    obtain ⟨w2,s2,t2,r2⟩:=S.newF (k:=.lst) hz' (l1.append l2) fun R e=>e
    exact k w2 _ _ t2 s2 r2
  · cases e
theorem snd_catM {c:Ct}:Snd2 c rCat (aCat mkM):=by
  intro w H h a b u y v h' Q S ra rb e k
  obtain ⟨xs,ys,h1,h2,e⟩:=aCat_inv e
  unfold mkM at e
  split at e
  · rename_i hz
    cases e
    obtain ⟨p,us,rfl,n1,l1⟩:=look_ok S ra h1
    obtain ⟨q,vs,rfl,n2,l2⟩:=look_ok S rb h2
    refine ⟨p,q,us,vs,rfl,rfl,n1,n2,by rw [← l1.len,← l2.len,← List.length_append]; exact hz,fun z hz' => ?_⟩
    obtain ⟨w2,s2,t2,r2⟩:=S.newM (k:=.lst) hz' (l1.append l2) fun R e=>e
    exact k w2 _ _ t2 s2 r2
  · cases e
abbrev aAddI:=aI2 (fun _ _=>true) fun i j=>.int (i + j)
def aAdd (a b:AV) (h:AH):Option (AV × AH):=orO (aAddI a b h) (orO (aAddS a b h) (aCat mkF a b h))
def aAddM (a b:AV) (h:AH):Option (AV × AH):=aCat mkM a b h
def aRep (mk:Kd → List AV → AH → Option (AV × AH)) (a b:AV) (h:AH):Option (AV × AH):=match look h a,b with
  | some (.lst,xs),.int k=>if -9223372036854775808 ≤ k ∧ k < 9223372036854775808 ∧ xs.length * k.toNat ≤ sizeLine then mk .lst (List.replicate k.toNat xs).flatten h else none
  | _,_=>none
theorem repl_rep {c:Ct} {w:Wd} {xs:List AV} {us:List V} (r:RepL c w xs us):∀ k:Nat,RepL c w (List.replicate k xs).flatten (List.replicate k us).flatten
  | 0=>rfl
  | k + 1=>by
    rw [List.replicate_succ,List.replicate_succ,List.flatten_cons,List.flatten_cons]
    exact r.append (repl_rep r k)
theorem snd_rep {c:Ct}:Snd2 c rRep (aRep mkF):=by
  intro w H h a b u y v h' Q S ra rb e k
  unfold aRep at e
  split at e
  · rename_i xs n h1
    split at e
    · rename_i hz
      unfold mkF at e
      split at e
      · cases e
        obtain ⟨p,us,rfl,n1,l1⟩:=look_ok S ra h1
        refine ⟨p,n,us,rfl,rb,n1,hz.1,hz.2.1,by rw [← l1.len]; exact hz.2.2,fun z hz' => ?_⟩
        obtain ⟨w2,s2,t2,r2⟩:=S.newF (k:=.lst) hz' (repl_rep l1 n.toNat) fun R e=>e
        exact k w2 _ _ t2 s2 r2
      · cases e
    · cases e
  · cases e
def aMul (a b:AV) (h:AH):Option (AV × AH):=orO (aMulI a b h) (aRep mkF a b h)
section
variable {X:Cx} {cl:Nat → Str × List Str} {pos:Pos} {a b:Expr} {f g:AE}
theorem ae_add (ha:PE X a (tA (ctX X cl) f)) (hb:PE X b (tA (ctX X cl) g)):PE X (.BinOp a .Add b pos) (tA (ctX X cl) (aOp2 aAdd f g)) :=
  ae_bin (op_add.or (op_add_str.or op_cat)) ((snd_int0 (f:=fun i j=>.int (i + j)) (g:=fun i j=>.int (i + j)) (fun _ _ _=>rfl)).or (snd_adds.or snd_catF)) ha hb
theorem ae_addM (ha:PE X a (tA (ctX X cl) f)) (hb:PE X b (tA (ctX X cl) g)):PE X (.BinOp a .Add b pos) (tA (ctX X cl) (aOp2 aAddM f g)):=ae_bin op_cat snd_catM ha hb
theorem ae_mul (ha:PE X a (tA (ctX X cl) f)) (hb:PE X b (tA (ctX X cl) g)):PE X (.BinOp a .Mult b pos) (tA (ctX X cl) (aOp2 aMul f g)) :=
  ae_bin (op_mul.or op_rep) ((snd_int (f:=fun i j=>.int (i * j)) (g:=fun i j=>.int (i * j)) (fun i j h=>mulC_ok h) (fun _ _ _=>rfl)).or snd_rep) ha hb
end
def isN:AV → Bool
  | .non=>true
  | _=>false
def aIs (a b:AV) (h:AH):Option (AV × AH):=match b with
  | .non=>some (.bl (isN a),h)
  | _=>none
def aIsNot (a b:AV) (h:AH):Option (AV × AH):=match b with
  | .non=>some (.bl (!isN a),h)
  | _=>none
theorem isN_rep {c:Ct} {w:Wd} {a:AV} {u:V} (r:RepV c w a u):decide (u = .non) = isN a:=by
  cases a with
  | non=>rw [show u = _ from r]; rfl
  | bl b=>rw [show u = _ from r]; rfl
  | int b=>rw [show u = _ from r]; rfl
  | str b=>rw [show u = _ from r]; rfl
  | ty b=>rw [show u = _ from r]; rfl
  | gl x=>obtain ⟨a,_,e⟩:=r; rw [e]; rfl
  | ref n=>obtain ⟨a,_,e⟩:=r; rw [e]; rfl
  | nod k xs=>obtain ⟨p,us,e,_⟩:=r; rw [e]; rfl
theorem snd_is {c:Ct}:Snd2 c (fun x y H Q=>y = .non ∧ Q (.bl (decide (x = .non))) H) aIs:=by
  intro w H h a b u y v h' Q S ra rb e k
  unfold aIs at e
  split at e
  · cases e
    exact ⟨rb,k w H _ (.refl _ _ _) S (by rw [isN_rep ra]; rfl)⟩
  · cases e
theorem snd_isNot {c:Ct}:Snd2 c (fun x y H Q=>y = .non ∧ Q (.bl (!decide (x = .non))) H) aIsNot:=by
  intro w H h a b u y v h' Q S ra rb e k
  unfold aIsNot at e
  split at e
  · cases e
    exact ⟨rb,k w H _ (.refl _ _ _) S (by rw [isN_rep ra]; rfl)⟩
  · cases e
def toKey:AV → Option Key
  | .int i=>some (.inl i)
  | .str x=>some (.inr x)
  | _=>none
theorem toKey_rep {c:Ct} {w:Wd} {a:AV} {u:V} {k:Key} (e:toKey a = some k) (r:RepV c w a u):u = kV k:=by
  unfold toKey at e
  split at e
  · cases e; exact r
  · cases e; exact r
  · cases e
theorem valV_zip:∀ (ks:List Key) (us:List V) (k:Key),ks.length = us.length → valV (ks.zip us) k = (kIx ks k).bind fun i=>us[i]?
  | [],us,k,_=>by simp [kIx,valV]
  | j :: ks,[],k,h=>by simp at h
  | j :: ks,u :: us,k,h=>by
    by_cases e:j = k
    · rw [List.zip_cons_cons,valV_pos (p:=(j,u)) e]
      simp [kIx,List.findIdx?_cons,e]
    · rw [List.zip_cons_cons,valV_neg (p:=(j,u)) e,valV_zip ks us k (by simpa using h)]
      unfold kIx
      rw [List.findIdx?_cons]
      simp only [decide_eq_true_eq,e,if_false]
      cases q:List.findIdx? (fun j=>decide (j = k)) ks <;> simp [q]
theorem kIx_lt {ks:List Key} {k:Key} {i:Nat} (h:kIx ks k = some i):i < ks.length:=by
  unfold kIx at h
  obtain ⟨h1,_⟩:=List.findIdx?_eq_some_iff_getElem.mp h
  exact h1
def dLook (h:AH) (a:AV):Option (List Key × List AV):=match look h a with
  | some (.dct ks,xs)=>some (ks,xs)
  | some (.ldct ks,xs)=>some (ks,xs)
  | some (.tab ks,xs)=>some (ks,xs)
  | _=>none
def DRd (c:Ct) (H:Hp) (p:Addr) (ks:List Key) (us:List V):Prop:=ks.length = us.length ∧ (Rd H p (.dK (ks.zip us)) ∨ KTab c p ks us)
theorem dLook_ok {c:Ct} {w:Wd} {H:Hp} {h:AH} (S:SR c w H h) {a:AV} {u:V} {ks:List Key} {xs:List AV} (r:RepV c w a u) (e:dLook h a = some (ks,xs)):∃ p us,u = .ref p ∧ DRd c H p ks us ∧ RepL c w xs us:=by
  unfold dLook at e
  split at e
  · rename_i ks' xs' q
    cases e
    obtain ⟨p,us,e1,n,l⟩:=look_ok S r q
    exact ⟨p,us,e1,⟨n.1,.inl n.2⟩,l⟩
  · rename_i ks' xs' q
    cases e
    obtain ⟨p,us,e1,n,l⟩:=look_ok S r q
    exact ⟨p,us,e1,⟨n.1,.inl n.2⟩,l⟩
  · rename_i ks' xs' q
    cases e
    obtain ⟨p,us,e1,n,l⟩:=look_ok S r q
    exact ⟨p,us,e1,⟨n.1,.inr n⟩,l⟩
  · cases e
theorem kIx_isSome {ks:List Key} {us:List V} (hl:ks.length = us.length) (k:Key):((kIx ks k).bind fun i=>us[i]?).isSome = (kIx ks k).isSome:=by
  cases e:kIx ks k with
  | none=>rfl
  | some i =>
    have:=kIx_lt e
    simp only [Option.bind_some,Option.isSome_some]
    rw [List.getElem?_eq_getElem (by omega)]; rfl
def ng (neg b:Bool):Bool:=if neg = true then !b else b
def rInK (c:Ct) (neg:Bool):R2:=fun x y H Q=>∃ p ks us k,y = .ref p ∧ x = kV k ∧ ks.length = us.length ∧ Rd H p (.dK (ks.zip us)) ∧ Q (.bl (ng neg (kIx ks k).isSome)) H
def rInT (c:Ct) (neg:Bool):R2:=fun x y H Q=>∃ p ks us z,y = .ref p ∧ x = .str z ∧ KTab c p ks us ∧ Q (.bl (ng neg (kIx ks (.inr z)).isSome)) H
def aInK (neg:Bool) (a b:AV) (h:AH):Option (AV × AH):=match a,dLook h b with
  | .str z,some (ks,_)=>some (.bl (ng neg (kIx ks (.inr z)).isSome),h)
  | _,_=>none
theorem snd_inK {c:Ct} (neg:Bool):Snd2 c (fun x y H Q=>rInK c neg x y H Q ∨ rInT c neg x y H Q) (aInK neg):=by
  intro w H h a b u y v h' Q S ra rb e k
  unfold aInK at e
  split at e
  · rename_i z ks xs hb
    cases e
    obtain ⟨p,us,rfl,⟨hl,hd⟩,l⟩:=dLook_ok S rb hb
    rcases hd with hd | hd
    · exact .inl ⟨p,ks,us,.inr z,rfl,ra,hl,hd,k w H _ (.refl _ _ _) S rfl⟩
    · exact .inr ⟨p,ks,us,z,rfl,ra,hd,k w H _ (.refl _ _ _) S rfl⟩
  · cases e
def rInP (K:PySem.W.Frag) (neg:Bool):R2:=fun x y H Q=>∃ p us d ds,y = .ref p ∧ (SqL K H p us ∨ SqT K H p us) ∧ Dp K H x d ∧ DpAll K H us ds ∧ d.plain = true ∧ PyData.plainAll ds = true ∧ d.depth ≤ 60 ∧ Q (.bl (ng neg (ds.any fun y=>PyData.eqv y d))) H
def aInD (neg:Bool) (a b:AV) (h:AH):Option (AV × AH):=match look h b with
  | some (.lst,xs)=>if (isD 60 (nrm h a) && isDs 60 xs) = true then some (.bl (ng neg ((toDs xs).any fun y=>PyData.eqv y (toD (nrm h a)))),h) else none
  | some (.tup,xs)=>if (isD 60 (nrm h a) && isDs 60 xs) = true then some (.bl (ng neg ((toDs xs).any fun y=>PyData.eqv y (toD (nrm h a)))),h) else none
  | _=>none
theorem snd_inD {c:Ct} (neg:Bool):Snd2 c (rInP c.K neg) (aInD neg):=by
  intro w H h a b u y v h' Q S ra rb e k
  unfold aInD at e
  split at e
  · rename_i xs hb
    split at e
    · rename_i hd
      cases e
      rw [Bool.and_eq_true] at hd
      obtain ⟨p,us,rfl,n,l⟩:=look_ok S rb hb
      exact ⟨p,us,_,_,rfl,.inl (SqL.of n),dpn_of S ra 60 hd.1,dps_of S.le xs 60 us hd.2 l,toD_plain _ 60 hd.1,toDs_plain _ 60 hd.2,toD_depth _ 60 hd.1,k w H _ (.refl _ _ _) S rfl⟩
    · cases e
  · rename_i xs hb
    split at e
    · rename_i hd
      cases e
      rw [Bool.and_eq_true] at hd
      obtain ⟨p,us,rfl,n,l⟩:=look_ok S rb hb
      exact ⟨p,us,_,_,rfl,.inr n,dpn_of S ra 60 hd.1,dps_of S.le xs 60 us hd.2 l,toD_plain _ 60 hd.1,toDs_plain _ 60 hd.2,toD_depth _ 60 hd.1,k w H _ (.refl _ _ _) S rfl⟩
    · cases e
  · cases e
def aInS (neg:Bool) (a b:AV) (h:AH):Option (AV × AH):=match a,b with
  | .str x,.str z=>match x.cps.toList with
    | [n]=>some (.bl (ng neg (decide (n ∈ z.cps.toList))),h)
    | _=>none
  | _,_=>none
def rInS (neg:Bool):R2:=fun x y H Q=>∃ (c:Nat) (z:Str),x = .str ⟨#[c]⟩ ∧ y = .str z ∧ Q (.bl (ng neg (decide (c ∈ z.cps.toList)))) H
theorem snd_inS {c:Ct} (neg:Bool):Snd2 c (rInS neg) (aInS neg):=by
  intro w H h a b u y v h' Q S ra rb e k
  unfold aInS at e
  split at e
  · rename_i x z
    split at e
    · rename_i n hx
      cases e
      refine ⟨n,z,?_,rb,k w H _ (.refl _ _ _) S rfl⟩
      rw [show u = _ from ra]
      congr 1
      cases x with
      | mk cps =>
        have:cps = #[n]:=by
          have h2:cps.toList = [n]:=hx
          rw [← Array.toArray_toList (xs:=cps),h2]
        rw [this]
    · cases e
  · cases e
section
variable {X:Cx} {cl:Nat → Str × List Str}
theorem op_inK (hu:X.A.units + 64 < cLine):OpR X (compareOp .In) (rInK (ctX X cl) false):=by
  intro pins s σ H x y v u Q I rx ry h
  obtain ⟨p,ks,us,k,rfl,rfl,hl,hd,q⟩:=h
  obtain rfl:u = Value.ref p:=ry
  refine d_in (A:=X.A) (by omega) I (o:=valV (ks.zip us) k) (.inl ⟨_,k,hd,rfl,rfl⟩) rx fun s' I' => ?_
  rw [valV_zip ks us k hl,kIx_isSome hl]
  exact ⟨.bl _,H,I',rfl,q⟩
theorem op_notInK (hu:X.A.units + 64 < cLine):OpR X (compareOp .NotIn) (rInK (ctX X cl) true):=by
  intro pins s σ H x y v u Q I rx ry h
  obtain ⟨p,ks,us,k,rfl,rfl,hl,hd,q⟩:=h
  obtain rfl:u = Value.ref p:=ry
  refine d_notIn (A:=X.A) (by omega) I (o:=valV (ks.zip us) k) (.inl ⟨_,k,hd,rfl,rfl⟩) rx fun s' I' => ?_
  rw [valV_zip ks us k hl,kIx_isSome hl]
  exact ⟨.bl _,H,I',rfl,q⟩
theorem op_inT:OpR X (compareOp .In) (rInT (ctX X cl) false):=by
  intro pins s σ H x y v u Q I rx ry h
  obtain ⟨p,ks,us,z,rfl,rfl,⟨hl,es,n,D,lk⟩,q⟩:=h
  obtain ⟨r,e1,e2⟩:=lk z
  refine op_in_kd D pins s σ H _ _ v u Q I rx ry ⟨z,r,rfl,rfl,e1,?_⟩
  rw [← e2.isSome_eq,kIx_isSome hl]
  exact q
theorem op_notInT:OpR X (compareOp .NotIn) (rInT (ctX X cl) true):=by
  intro pins s σ H x y v u Q I rx ry h
  obtain ⟨p,ks,us,z,rfl,rfl,⟨hl,es,n,D,lk⟩,q⟩:=h
  obtain ⟨r,e1,e2⟩:=lk z
  refine op_notIn_kd D pins s σ H _ _ v u Q I rx ry ⟨z,r,rfl,rfl,e1,?_⟩
  rw [← e2.isSome_eq,kIx_isSome hl]
  exact q
theorem op_inP (hu:X.A.units + 64 < cLine):OpR X (compareOp .In) (rInP X.K false):=by
  intro pins s σ H x y v u Q I rx ry h
  obtain ⟨p,us,d,ds,rfl,hs,hd,hds,pd,pds,dp,q⟩:=h
  obtain ⟨as,r1⟩:=Dp.reads I d x v hd rx
  rcases hs with hs | hs
  · obtain ⟨bs,r2⟩:=Dp.reads I (.list ds) (.ref p) u (.lst hs hds) ry
    exact SeqAt.in_list_data r2 r1 pds pd (by omega) ⟨.bl _,H,I,rfl,q⟩
  · obtain ⟨bs,r2⟩:=Dp.reads I (.tuple ds) (.ref p) u (.tup hs hds) ry
    exact SeqAt.in_tuple_data r2 r1 pds pd (by omega) ⟨.bl _,H,I,rfl,q⟩
theorem op_notInP (hu:X.A.units + 64 < cLine):OpR X (compareOp .NotIn) (rInP X.K true):=by
  intro pins s σ H x y v u Q I rx ry h
  obtain ⟨p,us,d,ds,rfl,hs,hd,hds,pd,pds,dp,q⟩:=h
  obtain ⟨as,r1⟩:=Dp.reads I d x v hd rx
  rcases hs with hs | hs
  · obtain ⟨bs,r2⟩:=Dp.reads I (.list ds) (.ref p) u (.lst hs hds) ry
    exact SeqAt.notIn_list_data r2 r1 pds pd (by omega) ⟨.bl _,H,I,rfl,q⟩
  · obtain ⟨bs,r2⟩:=Dp.reads I (.tuple ds) (.ref p) u (.tup hs hds) ry
    exact SeqAt.notIn_tuple_data r2 r1 pds pd (by omega) ⟨.bl _,H,I,rfl,q⟩
theorem op_inS:OpR X (compareOp .In) (rInS false):=op_in_sign
theorem op_notInS:OpR X (compareOp .NotIn) (rInS true):=op_notIn_sign
def rIn3 (c:Ct) (neg:Bool):R2:=fun x y H Q=>rInP c.K neg x y H Q ∨ (rInS neg x y H Q ∨ (rInK c neg x y H Q ∨ rInT c neg x y H Q))
def aIn3 (neg:Bool) (a b:AV) (h:AH):Option (AV × AH):=orO (aInD neg a b h) (orO (aInS neg a b h) (aInK neg a b h))
abbrev aIn:=aIn3 false
abbrev aNotIn:=aIn3 true
theorem s_in {c:Ct} {neg:Bool}:Snd2 c (rIn3 c neg) (aIn3 neg):=(snd_inD neg).or ((snd_inS neg).or (snd_inK neg))
theorem o_in (hu:X.A.units + 64 < cLine):OpR X (compareOp .In) (rIn3 (ctX X cl) false):=(op_inP hu).or (op_inS.or ((op_inK hu).or op_inT))
theorem o_notIn (hu:X.A.units + 64 < cLine):OpR X (compareOp .NotIn) (rIn3 (ctX X cl) true):=(op_notInP hu).or (op_notInS.or ((op_notInK hu).or op_notInT))
theorem s_eq {c:Ct}:Snd2 c (rEqP c.K) aEq:=snd_eq
end
end Rp
end
section
namespace Rp
open PySem PySem.Spec PyProof.Rows L2
def aIxQ (a b:AV) (h:AH):Option (AV × AH):=match look h a,b with
  | some (.lst,xs),.int i=>(atI xs i).bind fun v=>some (v,h)
  | some (.tup,xs),.int i=>(atI xs i).bind fun v=>some (v,h)
  | _,_=>none
def aIxS (a b:AV) (h:AH):Option (AV × AH):=match a,b with
  | .str z,.int i=>if z.length ≤ sizeLine then (atI z.cps.toList i).bind fun c=>some (.str ⟨#[c]⟩,h) else none
  | _,_=>none
def aIxK (a b:AV) (h:AH):Option (AV × AH):=match dLook h a,b with
  | some (ks,xs),.str z=>(kIx ks (.inr z)).bind fun i=>(xs[i]?).bind fun v=>some (v,h)
  | _,_=>none
def aIx (a b:AV) (h:AH):Option (AV × AH):=orO (aIxQ a b h) (orO (aIxS a b h) (aIxK a b h))
theorem atI_rep {c:Ct} {w:Wd} {xs:List AV} {us:List V} (r:RepL c w xs us) {i:Int} {v:AV} (e:atI xs i = some v):∃ u,atI us i = some u ∧ RepV c w v u:=by
  unfold atI at e ⊢
  obtain ⟨j,e1,e2⟩:=bind_some e
  obtain ⟨u,e3,e4⟩:=r.get e2
  exact ⟨u,by rw [← r.len,e1]; exact e3,e4⟩
def rIxK (c:Ct):R2:=fun x y H Q=>∃ p ks us z v i,x = .ref p ∧ y = .str z ∧ DRd c H p ks us ∧ kIx ks (.inr z) = some i ∧ us[i]? = some v ∧ Q v H
def rIxA (c:Ct):R2:=fun x y H Q=>(rIxL c.K x y H Q ∨ rIxT c.K x y H Q) ∨ (rIxS x y H Q ∨ rIxK c x y H Q)
theorem s_ix {c:Ct}:Snd2 c (rIxA c) aIx:=by
  intro w H h a b u y v h' Q S ra rb e k
  have fin:∀ {z:V},RepV c w v z → h' = h → Q z H:=fun {z} r e=>k w H z (by rw [e]; exact .refl _ _ _) (by rw [e]; exact S) r
  unfold aIx orO at e
  split at e
  · rename_i x hx
    cases e
    unfold aIxQ at hx
    split at hx
    · rename_i xs i ha
      obtain ⟨z,e1,e2⟩:=bind_some hx
      cases e2
      obtain ⟨p,us,rfl,n,l⟩:=look_ok S ra ha
      obtain ⟨t,e3,e4⟩:=atI_rep l e1
      exact .inl (.inl ⟨p,us,i,t,rfl,rb,SqL.of n,e3,fin e4 rfl⟩)
    · rename_i xs i ha
      obtain ⟨z,e1,e2⟩:=bind_some hx
      cases e2
      obtain ⟨p,us,rfl,n,l⟩:=look_ok S ra ha
      obtain ⟨t,e3,e4⟩:=atI_rep l e1
      exact .inl (.inr ⟨p,us,i,t,rfl,rb,n,e3,fin e4 rfl⟩)
    · cases hx
  · split at e
    · rename_i x hx
      cases e
      cases a with
      | str z =>
        cases b with
        | int i =>
          have hx':(if z.length ≤ sizeLine then (atI z.cps.toList i).bind fun c=>some (AV.str ⟨#[c]⟩,h) else none) = some (v,h'):=hx
          split at hx'
          · rename_i hz
            obtain ⟨d,e1,e2⟩:=bind_some hx'
            cases e2
            exact .inr (.inl ⟨z,i,d,ra,rb,hz,e1,fin rfl rfl⟩)
          · cases hx'
        | _=>cases hx
      | _=>cases hx
    · unfold aIxK at e
      cases q:dLook h a with
      | none=>rw [q] at e; cases e
      | some r =>
        obtain ⟨ks,xs⟩:=r
        rw [q] at e
        cases b with
        | str z =>
          obtain ⟨i,e1,e2⟩:=bind_some e
          obtain ⟨d,e3,e4⟩:=bind_some e2
          cases e4
          obtain ⟨p,us,rfl,hd,l⟩:=dLook_ok S ra q
          obtain ⟨t,e5,e6⟩:=l.get e3
          exact .inr (.inr ⟨p,ks,us,z,t,i,rfl,rb,hd,e1,e5,fin e6 rfl⟩)
        | _=>cases e
section
variable {X:Cx} {cl:Nat → Str × List Str}
theorem ix_K (hu:X.A.units + 64 < cLine):IxR X (rIxK (ctX X cl)):=by
  intro value slice pins s σ H x y v u Q I rx ry h hs
  obtain ⟨p,ks,us,z,t,i,rfl,rfl,⟨hl,hd⟩,hi,ht,q⟩:=h
  rcases hd with hd | hd
  · obtain rfl:v = Value.ref p:=rx
    have g:DGet H p (.str z) (some t):=.inl ⟨_,.inr z,hd,rfl,by rw [valV_zip ks us _ hl,hi]; exact ht.symm⟩
    exact tail_any (dict_typeIs I g) slot_dict_getitem.lookup (d_getItem (A:=X.A) (by omega) I g ry fun w' s' I' r' => ⟨t,H,I',r',q⟩) hs
  · obtain ⟨_,es,n,D,lk⟩:=hd
    obtain ⟨r,e1,e2⟩:=lk z
    rw [hi] at e2
    have e3:RelO (some t) r:=by
      have:((some i).bind fun i=>us[i]?) = some t:=ht
      rw [this] at e2
      exact e2
    obtain ⟨u0,e4,e5⟩:=e3.some_of
    subst e4
    exact ix_kdict value slice pins s σ H _ _ v u Q I rx ry ⟨p,z,t,rfl,rfl,⟨es,n,u0,D.at_,D.lit,e1,e5⟩,q⟩ hs
theorem ix_A (hu:X.A.units + 64 < cLine):IxR X (rIxA (ctX X cl)):=(ix_list.or ix_tup).or (ix_str.or (ix_K hu))
variable {pos p2:Pos} {a b:Expr} {f g:AE}
theorem ae_ix (hu:X.A.units + 64 < cLine) (ha:PE X a (tA (ctX X cl) f)) (hb:PE X b (tA (ctX X cl) g)) (hs:PlainIx b:=by exact fun _ _=>rfl):PE X (.Subscript a b pos) (tA (ctX X cl) (aOp2 aIx f g)) :=
  (pe_ix (ix_A hu) ha hb hs).wk fun _ _ _ q=>tOp_of s_ix q
end
abbrev AO:=LS → AH → Option (Option Int × AH)
def tO (c:Ct) (f:AO):TO:=fun σ H Q=>∃ w s h v h',RepS c w s σ ∧ SR c w H h ∧ f s h = some (v,h') ∧ ∀ w' H',Tr w H h w' H' h' → SR c w' H' h' → Q v H'
def aNo:AO:=fun _ h=>some (none,h)
def aPart (f:AE):AO:=fun s h=>(f s h).bind fun r=>match r.1 with
  | .int i=>some (some i,r.2)
  | _=>none
def cutA {α:Type} (xs:List α) (lo hi:Option Int):List α:=(xs.drop (HT.sIx xs.length 0 lo)).take (HT.sIx xs.length xs.length hi - HT.sIx xs.length 0 lo)
def aSl (mk:Kd → List AV → AH → Option (AV × AH)) (v:AV) (lo hi:Option Int) (h:AH):Option (AV × AH):=match v with
  | .str z=>if z.length ≤ sizeLine then some (.str (cutS z lo hi),h) else none
  | v=>match look h v with
    | some (.lst,xs)=>mk .lst (cutA xs lo hi) h
    | some (.scr,xs)=>mk .lst (cutA xs lo hi) h
    | some (.tup,xs)=>if HT.sIx xs.length 0 lo = 0 ∧ HT.sIx xs.length xs.length hi = xs.length then some (.nod .tup xs,h) else mkF .tup (cutA xs lo hi) h
    | _=>none
def aSlice (mk:Kd → List AV → AH → Option (AV × AH)) (f:AE) (lo hi:AO):AE:=fun s h=>(f s h).bind fun r=>(lo s r.2).bind fun l=>(hi s l.2).bind fun u=>aSl mk r.1 l.1 u.1 u.2
def mkOk (mk:Kd → List AV → AH → Option (AV × AH)):Prop:=mk = mkF ∨ mk = mkM
theorem mk_ok {mk:Kd → List AV → AH → Option (AV × AH)} (hm:mkOk mk) {c:Ct} {w:Wd} {H:Hp} {h h':AH} (S:SR c w H h) {xs:List AV} {us:List V} {v:AV} (r:RepL c w xs us) (e:mk .lst xs h = some (v,h')) :
    us.length ≤ sizeLine ∧ ∀ p,H p = none → ∃ w',SR c w' (upd H p (.lst us)) h' ∧ Tr w H h w' (upd H p (.lst us)) h' ∧ RepV c w' v (.ref p):=by
  rcases hm with rfl | rfl
  · unfold mkF at e
    split at e
    · rename_i hz
      cases e
      exact ⟨by rw [← r.len]; exact hz,fun p hp=>S.newF (k:=.lst) hp r fun R e=>e⟩
    · cases e
  · unfold mkM at e
    split at e
    · rename_i hz
      cases e
      exact ⟨by rw [← r.len]; exact hz,fun p hp=>S.newM (k:=.lst) hp r fun R e=>e⟩
    · cases e
theorem cut_rep {c:Ct} {w:Wd} {xs:List AV} {us:List V} (r:RepL c w xs us) (lo hi:Option Int):RepL c w (cutA xs lo hi) (cutV us lo hi):=by
  unfold cutA cutV
  rw [r.len]
  exact (r.drop _).take _
section
variable {X:Cx} {cl:Nat → Str × List Str} {pos p2:Pos} {e:Expr} {lo hi:Option Expr} {f g:AE} {l u:AO}
theorem ao_none:PO X none (tO (ctX X cl) aNo):=⟨fun pins s σ H Q I q=>by
  obtain ⟨w,s1,h,v,h',rs,sr,e,k⟩:=q
  cases e
  exact po_none.run pins s σ H Q I (k w H (.refl _ _ _) sr)⟩
theorem ao_some (h:PE X e (tA (ctX X cl) f)):PO X (some e) (tO (ctX X cl) (aPart f)):=⟨fun pins s σ H Q I q=>by
  refine (po_some h).run pins s σ H Q I ?_
  obtain ⟨w,s1,h,v,h',rs,sr,e,k⟩:=q
  obtain ⟨⟨a,h1⟩,e1,e⟩:=bind_some e
  cases a with
  | int i =>
    cases e
    exact ⟨w,s1,h,_,_,rs,sr,e1,fun w' H' z t s2 r=>⟨i,r,k w' H' t s2⟩⟩
  | _=>cases e⟩
theorem ae_slice {mk:Kd → List AV → AH → Option (AV × AH)} (hm:mkOk mk) (he:PE X e (tA (ctX X cl) f)) (hl:PO X lo (tO (ctX X cl) l)) (hu:PO X hi (tO (ctX X cl) u)):PE X (.Subscript e (.Slice lo hi none p2) pos) (tA (ctX X cl) (aSlice mk f l u)):=by
  have hr:SlR X (fun x lo hi H Q=>rSlS x lo hi H Q ∨ (rSlL X.K x lo hi H Q ∨ rSlA X.K x lo hi H Q)):=sl_str.or (sl_list.or sl_tupA)
  refine (pe_slice hr he hl hu).wk fun σ H Q q=>?_
  obtain ⟨w,s1,h,v,h',rs,sr,e,k⟩:=q
  obtain ⟨⟨a,h1⟩,e1,e⟩:=bind_some e
  obtain ⟨⟨lo',h2⟩,e2,e⟩:=bind_some e
  obtain ⟨⟨hi',h3⟩,e3,e⟩:=bind_some e
  refine ⟨w,s1,h,a,h1,rs,sr,e1,fun w1 H1 x t1 sr1 r1=>⟨w1,s1,h1,lo',h2,rs.le t1.le,sr1,e2,fun w2 H2 t2 sr2=>⟨w2,s1,h2,hi',h3,(rs.le t1.le).le t2.le,sr2,e3,fun w3 H3 t3 sr3=>?_⟩⟩⟩
  have r3:RepV (ctX X cl) w3 a x:=RepV.le (t2.trans t3).le _ _ r1
  have t13:=t1.trans (t2.trans t3)
  have seq:∀ {kd:Kd} {xs:List AV},look h3 a = some (kd,xs) → (kd = .lst ∨ kd = .scr) → mk .lst (cutA xs lo' hi') h3 = some (v,h') → rSlL X.K x lo' hi' H3 Q:=fun {kd xs} ha hk e=>by
    obtain ⟨p,us,rfl,n,lr⟩:=look_ok sr3 r3 ha
    obtain ⟨_,hn⟩:=mk_ok hm sr3 (cut_rep lr lo' hi') e
    have hq:SqL X.K H3 p us:=by
      rcases hk with rfl | rfl
      · exact SqL.of n
      · exact n
    refine ⟨p,us,rfl,hq,fun z hz=>?_⟩
    obtain ⟨w4,s4,t4,r4⟩:=hn z hz
    exact k w4 _ _ (t13.trans t4) s4 r4
  have nonstr:∀ (e:(match look h3 a with
    | some (.lst,xs)=>mk .lst (cutA xs lo' hi') h3
    | some (.scr,xs)=>mk .lst (cutA xs lo' hi') h3
    | some (.tup,xs)=>if HT.sIx xs.length 0 lo' = 0 ∧ HT.sIx xs.length xs.length hi' = xs.length then some (.nod .tup xs,h3) else mkF .tup (cutA xs lo' hi') h3
    | _=>none) = some (v,h')),rSlL X.K x lo' hi' H3 Q ∨ rSlA X.K x lo' hi' H3 Q:=fun e=>by
    split at e
    · rename_i xs ha; exact .inl (seq ha (.inl rfl) e)
    · rename_i xs ha; exact .inl (seq ha (.inr rfl) e)
    · rename_i xs ha
      obtain ⟨p,us,rfl,n,lr⟩:=look_ok sr3 r3 ha
      split at e
      · rename_i hz
        cases e
        rw [lr.len] at hz
        refine .inr ⟨p,us,rfl,n,fun _=>k w3 H3 _ t13 sr3 ?_,fun hn=>absurd hz hn⟩
        cases a with
        | nod k' xs' =>
          have e':some (k',xs') = some (.tup,xs):=ha
          cases e'
          exact r3
        | ref m =>
          obtain ⟨p',us',e1,nm,l1⟩:=sr3.cell m _ _ ha
          exact nm.elim
        | _=>cases ha
      · rename_i hz
        rw [lr.len] at hz
        unfold mkF at e
        split at e
        · cases e
          refine .inr ⟨p,us,rfl,n,fun hn=>absurd hn hz,fun _ z hz' => ?_⟩
          obtain ⟨w4,s4,t4,r4⟩:=sr3.newF (k:=.tup) hz' (cut_rep lr lo' hi') fun R e=>SqT.of e
          exact k w4 _ _ (t13.trans t4) s4 r4
        · cases e
    · cases e
  cases a with
  | str z =>
    have e':(if z.length ≤ sizeLine then some (AV.str (cutS z lo' hi'),h3) else none) = some (v,h'):=e
    split at e'
    · rename_i hz
      cases e'
      exact .inl ⟨z,r3,hz,k w3 H3 _ t13 sr3 rfl⟩
    · cases e'
  | _=>exact .inr (nonstr e)
end
end Rp
end
section
namespace Rp
open PySem PySem.Spec PyProof.Rows L2
structure ClsF (c:Ct) (k:Nat) (a:Addr):Prop where
  mg:c.mg (c.cl k).1 = some (.ref a)
  cls:Cls c.K a
  no:∀ f ∈ (c.cl k).2,NoAttr c.K a f
  nd:(c.cl k).2.Nodup
  few:(c.cl k).2.length < 900
theorem zip_lookup:∀ (ns:List Str) (us:List V) (j:Nat) (f:Str) (v:V),ns.Nodup → ns[j]? = some f → us[j]? = some v → (ns.zip us).lookup f = some v
  | [],_,j,f,v,_,h,_=>by simp at h
  | n :: ns,[],j,f,v,_,_,h=>by simp at h
  | n :: ns,u :: us,0,f,v,_,h1,h2=>by
    simp at h1 h2
    subst h1 h2
    simp
  | n :: ns,u :: us,j + 1,f,v,nd,h1,h2=>by
    simp at h1 h2
    have hn:f ≠ n:=fun e=>(List.nodup_cons.mp nd).1 (e ▸ List.mem_of_getElem? h1)
    rw [List.zip_cons_cons,List.lookup_cons,beq_eq_false_iff_ne.mpr hn]
    exact zip_lookup ns us j f v (List.nodup_cons.mp nd).2 h1 h2
theorem zip_none:∀ (ns:List Str) (us:List V) (f:Str),f ∉ ns → (ns.zip us).lookup f = none
  | [],_,f,_=>by simp
  | n :: ns,[],f,_=>by simp
  | n :: ns,u :: us,f,h=>by
    have hn:f ≠ n:=fun e=>h (e ▸ List.mem_cons_self ..)
    rw [List.zip_cons_cons,List.lookup_cons,beq_eq_false_iff_ne.mpr hn]
    exact zip_none ns us f fun q=>h (List.mem_cons_of_mem _ q)
theorem putF_set:∀ (ns:List Str) (us:List V) (j:Nat) (f:Str) (v:V),ns.Nodup → ns[j]? = some f → j < us.length → putF f v (ns.zip us) = ns.zip (us.set j v)
  | [],_,j,f,v,_,h,_=>by simp at h
  | n :: ns,[],j,f,v,_,_,h=>by simp at h
  | n :: ns,u :: us,0,f,v,_,h1,h2=>by
    simp at h1
    subst h1
    rw [List.zip_cons_cons,putF,if_pos rfl]; rfl
  | n :: ns,u :: us,j + 1,f,v,nd,h1,h2=>by
    simp at h1 h2
    have hn:¬ n = f:=fun e=>(List.nodup_cons.mp nd).1 (e ▸ List.mem_of_getElem? h1)
    rw [List.zip_cons_cons,putF]
    first
      | rw [if_neg hn]
      | rw [if_neg (fun e:f = n=>hn e.symm)]
    rw [putF_set ns us j f v (List.nodup_cons.mp nd).2 h1 (by omega)]; rfl
theorem putF_new:∀ (ns:List Str) (us:List V) (f:Str) (v:V),ns.Nodup → ns[us.length]? = some f → putF f v (ns.zip us) = ns.zip (us ++ [v])
  | [],_,f,v,_,h=>by simp at h
  | n :: ns,[],f,v,_,h1=>by
    simp at h1
    subst h1
    rw [List.zip_nil_right,List.nil_append,List.zip_cons_cons,List.zip_nil_right]
    rfl
  | n :: ns,u :: us,f,v,nd,h1=>by
    simp at h1
    have hn:¬ n = f:=fun e=>(List.nodup_cons.mp nd).1 (e ▸ List.mem_of_getElem? h1)
    rw [List.zip_cons_cons,putF]
    first
      | rw [if_neg hn]
      | rw [if_neg (fun e:f = n=>hn e.symm)]
    rw [putF_new ns us f v (List.nodup_cons.mp nd).2 h1]; rfl
def aFldV (k j:Nat) (a:AV) (h:AH):Option (AV × AH):=match look h a with
  | some (.ins k',xs)=>if k' = k then (xs[j]?).bind fun v=>some (v,h) else none
  | _=>none
theorem aFldV_inv {k j:Nat} {a:AV} {h:AH} {r:AV × AH} (e:aFldV k j a h = some r):∃ xs v,look h a = some (.ins k,xs) ∧ xs[j]? = some v ∧ r = (v,h):=by
  unfold aFldV at e
  split at e
  · rename_i k' xs ha
    split at e
    · rename_i hk
      subst hk
      obtain ⟨v,e1,e2⟩:=bind_some e
      exact ⟨xs,v,ha,e1,(Option.some.inj e2).symm⟩
    · cases e
  · cases e
def aFld (k j:Nat) (f:AE):AE:=aOp1 (aFldV k j) f
section
variable {X:Cx} {cl:Nat → Str × List Str} {pos:Pos} {e:Expr} {f:AE}
theorem ae_fld {fn:Str} {k j:Nat} {a:Addr} (F:ClsF (ctX X cl) k a) (hj:(cl k).2[j]? = some fn) (he:PE X e (tA (ctX X cl) f)) (hb:attributeBase e fn X.env (eval e X.env) = eval e X.env:=by rfl):PE X (.Attribute e fn pos) (tA (ctX X cl) (aFld k j f)):=by
  refine (pe_fld he hb).wk fun σ H Q q=>?_
  obtain ⟨w,s,h,v,h',rs,sr,e,kk⟩:=q
  obtain ⟨⟨z,h1⟩,e1,e⟩:=bind_some e
  obtain ⟨xs,v',hl,hv,er⟩:=aFldV_inv e
  cases er
  refine ⟨w,s,h,z,h1,rs,sr,e1,fun w1 H1 u t1 s1 r1=>?_⟩
  obtain ⟨p,us,rfl,⟨n1,a',dx,m,eH⟩,l⟩:=look_ok s1 r1 hl
  have:a' = a:=by
    have:=F.mg.symm.trans m
    cases this; rfl
  subst this
  obtain ⟨y,ey,ry⟩:=l.get hv
  exact ⟨p,a',dx,_,y,rfl,eH,F.cls,F.no fn (List.mem_of_getElem? hj),zip_lookup _ us j fn y F.nd hj ey,kk w1 H1 y t1 s1 ry⟩
end
abbrev AF:=List AV → AH → Option (AV × AH)
def spA (c:Ct) (n:Nat) (F:AF):Sp:=fun vs H Q _=>∃ w h as v h',as.length = n ∧ RepL c w as vs ∧ SR c w H h ∧ F as h = some (v,h') ∧
  ∀ w' H' u,Tr w H h w' H' h' → SR c w' H' h' → RepV c w' v u → Q u H'
section
variable (P:Program) (w:World) (K:PySem.W.Frag) (mg:Str → Option Value) (base:Heap) (cl:Nat → Str × List Str)
def CalF (k:Nat) (x:Str) (n:Nat) (das:List AV) (F:AF):Prop:=∃ f fd ps ds dvs,mg x = some (.ref f) ∧ PySem.W.keepIn K (.ref f) = true ∧ FnOk P w K mg base CX0 k f fd ps (spA ⟨K,w,mg,cl⟩ n F) ∧ Binds K fd ps ds ∧ Vals dvs ds ∧ ∀ wd,RepL ⟨K,w,mg,cl⟩ wd das dvs
def MetF (k c:Nat) (m:Str) (n:Nat) (das:List AV) (F:AF):Prop:=∃ a f fd ps ds dvs,ClsF ⟨K,w,mg,cl⟩ c a ∧ Meth K a m f ∧ m ∉ (cl c).2 ∧ FnOk P w K mg base CX0 k f fd ps (spA ⟨K,w,mg,cl⟩ n F) ∧ Binds K fd ps ds ∧ Vals dvs ds ∧ ∀ wd,RepL ⟨K,w,mg,cl⟩ wd das dvs
def MakF (k c:Nat) (n:Nat) (das:List AV) (F:AF):Prop:=∃ a f fd ps ds dvs,ClsF ⟨K,w,mg,cl⟩ c a ∧ Mk K a f ∧ FnOk P w K mg base CX0 k f fd ps (spA ⟨K,w,mg,cl⟩ n F) ∧ Binds K fd ps ds ∧ Vals dvs ds ∧ ∀ wd,RepL ⟨K,w,mg,cl⟩ wd das dvs
end
theorem CalF.up {P:Program} {w:World} {K:PySem.W.Frag} {mg:Str → Option Value} {base:Heap} {cl:Nat → Str × List Str} {k k':Nat} {x:Str} {n:Nat} {das:List AV} {F:AF} (h:CalF P w K mg base cl k x n das F) (hk:k ≤ k'):CalF P w K mg base cl k' x n das F:=by
  obtain ⟨f,fd,ps,ds,dvs,h1,h2,h3,h4⟩:=h
  exact ⟨f,fd,ps,ds,dvs,h1,h2,h3.mono hk,h4⟩
def aCall (F:AF) (das:List AV) (g:AA):AE:=aArgs (fun as h=>F (as ++ das) h) g
def aMeth (c:Nat) (F:AF) (das:List AV) (f:AE) (g:AA):AE:=fun s h=>(f s h).bind fun r=>match look r.2 r.1 with
  | some (.ins c',_)=>if c' = c then (g s r.2).bind fun q=>F (r.1 :: (q.1 ++ das)) q.2 else none
  | _=>none
def aMake (c:Nat) (F:AF) (das:List AV) (g:AA):AE:=fun s h=>(g s h).bind fun q=>(F (.ref q.2.next :: (q.1 ++ das)) (q.2.new (.ins c,[]))).bind fun r=>match r.1 with
  | .non=>some (.ref q.2.next,r.2)
  | _=>none
section
variable {X:Cx} {cl:Nat → Str × List Str} {pos p apos:Pos} {e o:Expr} {es:List Expr} {f:AE} {g:AA} {k n:Nat} {x m:Str} {das:List AV} {F:AF}
theorem tCall_of {c:Ct} {dvs:List V} (hd:∀ wd,RepL c wd das dvs) {σ:L2.St} {H:Hp} {Q:VK} (hn:∀ as h r,F as h = some r → as.length = n) (q:tA c (aCall F das g) σ H Q):tCall (spA c n F) dvs E0 (tAs c g) σ H Q:=by
  obtain ⟨w,s,h,v,h',rs,sr,e,kk⟩:=q
  obtain ⟨⟨as,h1⟩,e1,e⟩:=bind_some e
  refine ⟨w,s,h,as,h1,rs,sr,e1,fun w1 H1 us t1 s1 r1=>⟨w1,h1,as ++ das,v,h',hn _ _ _ e,r1.append (hd w1),s1,e,fun w2 H2 u t2 s2 r2=>kk w2 H2 u (t1.trans t2) s2 r2⟩⟩
def lenF (n:Nat) (F:AF):AF:=fun as h=>if as.length = n then F as h else none
theorem lenF_len {n:Nat} {F:AF} {as:List AV} {h:AH} {r:AV × AH} (e:lenF n F as h = some r):as.length = n ∧ F as h = some r:=by
  unfold lenF at e
  split at e
  · rename_i hl
    exact ⟨hl,e⟩
  · cases e
theorem ae_call (C:CalF X.prog X.w X.K X.mg X.base cl k x n das (lenF n F)) (hr:Room k X.A) (ha:PA X (e :: es) (tAs (ctX X cl) g)) (hg:Gl X x:=by rfl) (hx:Passes CX0 X E0:=by exact pass0) (hdb:(x == ("__debug__" : Str)) = false:=by decide)
    (he:starEach (e :: es) X.env = (false,eval e X.env) :: starEach es X.env:=by rfl) (hpl:(backTo pos (starEach es X.env)).any (·.1) = false:=by rfl):PE X (.Call (.Name x p) (e :: es) [] pos) (tA (ctX X cl) (aCall (lenF n F) das g)):=by
  obtain ⟨f,fd,ps,ds,dvs,h1,h2,h3,h4,h5,h6⟩:=C
  exact (pe_call h3 hr hg h1 h2 h4 h5 hx ha hdb he hpl).wk fun _ _ _ q=>tCall_of h6 (fun _ _ _ e=>(lenF_len e).1) q
theorem tNil_of {c:Ct} {σ:L2.St} {H:Hp} {Q:List V → Hp → Prop} (q:tAs c aNil σ H Q):tNil σ H Q:=by
  obtain ⟨w,s,h,v,h',rs,sr,e,kk⟩:=q
  cases e
  exact kk w H [] (.refl _ _ _) sr rfl
theorem ae_call0 (C:CalF X.prog X.w X.K X.mg X.base cl k x n das (lenF n F)) (hr:Room k X.A) (hg:Gl X x:=by rfl) (hx:Passes CX0 X E0:=by exact pass0) (hdb:(x == ("__debug__" : Str)) = false:=by decide):PE X (.Call (.Name x p) [] [] pos) (tA (ctX X cl) (aCall (lenF n F) das aNil)):=by
  obtain ⟨f,fd,ps,ds,dvs,h1,h2,h3,h4,h5,h6⟩:=C
  refine (pe_call0 h3 hr hg h1 h2 h4 h5 hx hdb).wk fun σ H Q q=>?_
  have:=tCall_of (n:=n) h6 (fun _ _ _ e=>(lenF_len e).1) q
  exact tNil_of this
theorem aMeth_inv {c:Nat} {F:AF} {s:LS} {h:AH} {y:AV × AH} (q:aMeth c F das f g s h = some y):∃ z h1 xs as h2,f s h = some (z,h1) ∧ look h1 z = some (.ins c,xs) ∧ g s h1 = some (as,h2) ∧ F (z :: (as ++ das)) h2 = some y:=by
  obtain ⟨⟨z,h1⟩,e1,e⟩:=bind_some q
  cases hl:look h1 z with
  | none =>
    have e':(match look h1 z with
      | some (.ins c',_)=>if c' = c then (g s h1).bind fun q=>F (z :: (q.1 ++ das)) q.2 else none
      | _=>none) = some y:=e
    rw [hl] at e'
    cases e'
  | some r =>
    obtain ⟨k,xs⟩:=r
    have e':(match look h1 z with
      | some (.ins c',_)=>if c' = c then (g s h1).bind fun q=>F (z :: (q.1 ++ das)) q.2 else none
      | _=>none) = some y:=e
    rw [hl] at e'
    cases k with
    | ins c' =>
      have e2:(if c' = c then (g s h1).bind fun q=>F (z :: (q.1 ++ das)) q.2 else none) = some y:=e'
      by_cases hc:c' = c
      · rw [if_pos hc] at e2
        obtain ⟨⟨as,h2⟩,e3,e4⟩:=bind_some e2
        exact ⟨z,h1,xs,as,h2,e1,by rw [hl,hc],e3,e4⟩
      · rw [if_neg hc] at e2; cases e2
    | _=>cases e'
theorem tMeth_of {c:Nat} {ct:Ct} {a:Addr} {dvs:List V} (Fc:ClsF ct c a) (hm:m ∉ (ct.cl c).2) (hd:∀ wd,RepL ct wd das dvs) {σ:L2.St} {H:Hp} {Q:VK} (q:tA ct (aMeth c (lenF n F) das f g) σ H Q):tMeth a m (spA ct n (lenF n F)) dvs E0 (tA ct f) (tAs ct g) σ H Q:=by
  obtain ⟨w,s,h,v,h',rs,sr,e,kk⟩:=q
  obtain ⟨z,h1,xs,as,h2,e1,hl,e2,e3⟩:=aMeth_inv e
  refine ⟨w,s,h,z,h1,rs,sr,e1,fun w1 H1 u t1 s1 r1=>?_⟩
  obtain ⟨p,us,rfl,⟨n1,a',dx,mm,eH⟩,l⟩:=look_ok s1 r1 hl
  have:a' = a:=by
    have:=Fc.mg.symm.trans mm
    cases this; rfl
  subst this
  refine ⟨p,dx,_,rfl,eH,zip_none _ _ _ hm,⟨w1,s,h1,as,h2,rs.le t1.le,s1,e2,fun w2 H2 vs t2 s2 r2=>?_⟩⟩
  exact ⟨w2,h2,z :: (as ++ das),v,h',(lenF_len e3).1,.cons (RepV.le t2.le _ _ r1) (r2.append (hd w2)),s2,e3,fun w3 H3 y t3 s3 r3=>kk w3 H3 y (t1.trans (t2.trans t3)) s3 r3⟩
theorem ae_meth0 {c:Nat} {pl:Sem Bool} (C:MetF X.prog X.w X.K X.mg X.base cl k c m n das (lenF n F)) (hr:Room k X.A) (ho:PE X o (tA (ctX X cl) f)) (hx:Passes CX0 X E0:=by exact pass0)
    (ht:eval (.Call (.Attribute o m apos) [] [] pos) X.env = (do
      let ov ← eval o X.env
      standAt apos.atName
      let (f,first) ← holding [ov] (getMethod ov m pl)
      callWith pos f first (backTo pos (starEach [] X.env)) (backToKw pos (keywordEach [] X.env))):=by rfl):PE X (.Call (.Attribute o m apos) [] [] pos) (tA (ctX X cl) (aMeth c (lenF n F) das f aNil)):=by
  obtain ⟨a,fa,fd,ps,ds,dvs,h1,h2,h3,h4,h5,h6,h7⟩:=C
  refine (pe_meth0 (pl:=pl) ho h1.cls h2 h4 hr h5 h6 hx ht).wk fun σ H Q q=>?_
  have:=tMeth_of h1 h3 h7 q
  obtain ⟨w,s,h,v,h',rs,sr,e,kk⟩:=this
  refine ⟨w,s,h,v,h',rs,sr,e,fun w1 H1 u t1 s1 r1=>?_⟩
  obtain ⟨p,dx,fs,e1,e2,e3,e4⟩:=kk w1 H1 u t1 s1 r1
  exact ⟨p,dx,fs,e1,e2,e3,tNil_of e4⟩
theorem tMake_of {c:Nat} {ct:Ct} {a:Addr} {dvs:List V} (Fc:ClsF ct c a) (hd:∀ wd,RepL ct wd das dvs) {σ:L2.St} {H:Hp} {Q:VK} (q:tA ct (aMake c (lenF n F) das g) σ H Q):tMake a (spA ct n (lenF n F)) dvs E0 (tAs ct g) σ H Q:=by
  obtain ⟨w,s,h,v,h',rs,sr,e,kk⟩:=q
  obtain ⟨⟨as,h1⟩,e1,e⟩:=bind_some e
  obtain ⟨⟨z,h2⟩,e2,e⟩:=bind_some e
  refine ⟨w,s,h,as,h1,rs,sr,e1,fun w1 H1 us t1 s1 r1 xx dx hx hdx hne=>?_⟩
  have hH:∀ b,b ≠ xx → H1 b ≠ none → upd (upd H1 dx (.own xx)) xx (.ins a dx []) b = H1 b:=fun b hb hb2=>by
    rw [upd_ne hb,upd_ne (fun e=>hb2 (by rw [e]; exact hdx))]
  have nm:NodeM ct (upd (upd H1 dx (.own xx)) xx (.ins a dx [])) xx (.ins c) []:=⟨Nat.zero_le _,a,dx,Fc.mg,by rw [upd_same,List.zip_nil_right]⟩
  obtain ⟨s2,t2⟩:=s1.newCell hx hH nm (show RepL ct w1 [] [] from rfl)
  refine ⟨_,h1.new (.ins c,[]),.ref h1.next :: (as ++ das),z,h2,(lenF_len e2).1,.cons ⟨xx,if_pos rfl,rfl⟩ ((RepL.le t2.le _ _ r1).append (hd _)),s2,e2,fun w3 H3 u t3 s3 r3=>?_⟩
  cases z with
  | non =>
    cases e
    exact ⟨r3,kk w3 H3 _ (t1.trans (t2.trans t3)) s3 ⟨xx,t3.le.ii _ _ (if_pos rfl),rfl⟩⟩
  | _=>cases e
theorem ae_make0 {c:Nat} (C:MakF X.prog X.w X.K X.mg X.base cl k c n das (lenF n F)) (hr:Room (k + 1) X.A) (hc:(cl c).1 = x) (hg:Gl X x:=by rfl) (hx:Passes CX0 X E0:=by exact pass0) (hdb:(x == ("__debug__" : Str)) = false:=by decide) :
    PE X (.Call (.Name x p) [] [] pos) (tA (ctX X cl) (aMake c (lenF n F) das aNil)):=by
  obtain ⟨a,f,fd,ps,ds,dvs,h1,h2,h3,h4,h5,h6⟩:=C
  refine (pe_make0 h2 h3 hr hg (by rw [← hc]; exact h1.mg) h4 h5 hx hdb).wk fun σ H Q q=>?_
  have:=tMake_of h1 h6 q
  exact tNil_of this
end
section
variable {X:Cx} {cl:Nat → Str × List Str} {pos p apos:Pos} {e o:Expr} {es:List Expr} {f:AE} {g:AA} {x id T:String}
theorem ae_blt {x:Str} {id:String} {r:List V → Hp → VK → Prop} {op:List AV → AH → Option (AV × AH)} (hc:CallR X (.builtin id) r) (hs:SndN (ctX X cl) r op) (hm:X.mg x = none) (hv:bootBuiltins x = some (.builtin id)) (ha:PA X (e :: es) (tAs (ctX X cl) g)) (hg:Gl X x:=by rfl) (hn:x ≠ "__name__" := by decide) (hdb:(x == ("__debug__" : Str)) = false:=by decide)
    (he:starEach (e :: es) X.env = (false,eval e X.env) :: starEach es X.env:=by rfl) (hpl:(backTo pos (starEach es X.env)).any (·.1) = false:=by rfl):PE X (.Call (.Name x p) (e :: es) [] pos) (tA (ctX X cl) (aArgs op g)) :=
  (pe_callB hc hg hm hv ha hn hdb he hpl).wk fun _ _ _ q=>tCB_of hs q
theorem ae_ty {x:Str} {T:String} {r:List V → Hp → VK → Prop} {op:List AV → AH → Option (AV × AH)} (hc:CallR X (.type T) r) (hs:SndN (ctX X cl) r op) (hm:X.mg x = none) (hv:bootBuiltins x = some (.type T)) (ha:PA X (e :: es) (tAs (ctX X cl) g)) (hg:Gl X x:=by rfl) (hn:x ≠ "__name__" := by decide) (hdb:(x == ("__debug__" : Str)) = false:=by decide)
    (he:starEach (e :: es) X.env = (false,eval e X.env) :: starEach es X.env:=by rfl) (hpl:(backTo pos (starEach es X.env)).any (·.1) = false:=by rfl):PE X (.Call (.Name x p) (e :: es) [] pos) (tA (ctX X cl) (aArgs op g)) :=
  (pe_callTy hc hg hm hv ha hn hdb he hpl).wk fun _ _ _ q=>tCB_of hs q
def tyOk (T:String) (a:AV) (h:AH):Bool:=match a with
  | .str _=>T == "str"
  | .int _=>T == "int"
  | a=>match look h a with
    | some (.lst,_)=>T == "list"
    | some (.scr,_)=>T == "list"
    | some (.dct _,_)=>T == "dict"
    | _=>false
def aBM (T:String) (op:AV → List AV → AH → Option (AV × AH)) (f:AE) (g:AA):AE:=fun s h=>(f s h).bind fun r=>if tyOk T r.1 r.2 = true then (g s r.2).bind fun q=>op r.1 q.1 q.2 else none
theorem tBM_of {c:Ct} {T:String} (hT:T = "str" ∨ T = "list" ∨ T = "int") {r:V → List V → Hp → VK → Prop} {op:AV → List AV → AH → Option (AV × AH)} (hs:SndM c r op) {σ:L2.St} {H:Hp} {Q:VK} (q:tA c (aBM T op f g) σ H Q):tBM c.K T r (tA c f) (tAs c g) σ H Q:=by
  obtain ⟨w,s,h,v,h',rs,sr,e,kk⟩:=q
  obtain ⟨⟨z,h1⟩,e1,e⟩:=bind_some e
  split at e
  · rename_i ht
    obtain ⟨⟨as,h2⟩,e2,e⟩:=bind_some e
    refine ⟨w,s,h,z,h1,rs,sr,e1,fun w1 H1 u t1 s1 r1=>⟨?_,w1,s,h1,as,h2,rs.le t1.le,s1,e2,fun w2 H2 vs t2 s2 r2=>?_⟩⟩
    · have go:∀ (kd:Kd) (xs:List AV),look h1 z = some (kd,xs) → (kd = .lst ∨ kd = .scr) → T = "list" → tyV c.K T u H1:=fun kd xs hl hk hT=>by
        obtain ⟨p,us,rfl,n,l⟩:=look_ok s1 r1 hl
        refine .inl ⟨hT,us,?_⟩
        rcases hk with rfl | rfl
        · exact SqL.of n
        · exact n
      have rest:(match look h1 z with
        | some (.lst,_)=>T == "list"
        | some (.scr,_)=>T == "list"
        | some (.dct _,_)=>T == "dict"
        | _=>false) = true → tyV c.K T u H1:=fun ht=>by
        split at ht
        · rename_i xs hl; exact go _ xs hl (.inl rfl) (eq_of_beq ht)
        · rename_i xs hl; exact go _ xs hl (.inr rfl) (eq_of_beq ht)
        · have hd:T = "dict" := eq_of_beq ht
          rcases hT with q | q | q <;> (rw [hd] at q; exact absurd q (by decide))
        · cases ht
      cases z with
      | str y=>rw [show u = _ from r1]; exact eq_of_beq ht
      | int y=>rw [show u = _ from r1]; exact eq_of_beq ht
      | _=>exact rest ht
    · exact hs w2 H2 h2 z u as vs v h' Q s2 (RepV.le t2.le _ _ r1) r2 e fun w3 H3 y t3 s3 r3=>kk w3 H3 y (t1.trans (t2.trans t3)) s3 r3
  · cases e
end
end Rp
end
section
namespace Rp
open PySem PySem.Spec PyProof.Rows L2
def one (o:AV → AH → Option (AV × AH)):List AV → AH → Option (AV × AH)
  | [a],h=>o a h
  | _,_=>none
def two (o:AV → AV → AH → Option (AV × AH)):List AV → AH → Option (AV × AH)
  | [a,b],h=>o a b h
  | _,_=>none
theorem snd_one {c:Ct} {r:List V → Hp → VK → Prop} {o:AV → AH → Option (AV × AH)} (hs:Snd1 c (fun x H Q=>r [x] H Q) o):SndN c r (one o):=by
  intro w H h as us v h' Q S r e k
  cases as with
  | nil=>cases e
  | cons a t =>
    cases t with
    | cons b t=>cases e
    | nil =>
      obtain ⟨u,us',rfl,r1,r2⟩:=r
      have r2':us' = []:=r2
      subst r2'
      exact hs w H h a u v h' Q S r1 e k
theorem snd_two {c:Ct} {r:List V → Hp → VK → Prop} {o:AV → AV → AH → Option (AV × AH)} (hs:Snd2 c (fun x y H Q=>r [x,y] H Q) o):SndN c r (two o):=by
  intro w H h as us v h' Q S r e k
  cases as with
  | nil=>cases e
  | cons a t =>
    cases t with
    | nil=>cases e
    | cons b t =>
      cases t with
      | cons d t=>cases e
      | nil =>
        obtain ⟨u,us',rfl,r1,u2,us2,rfl,r2,r3⟩:=r
        have r3':us2 = []:=r3
        subst r3'
        exact hs w H h a b u u2 v h' Q S r1 r2 e k
theorem Snd1.or {c:Ct} {r r':V → Hp → VK → Prop} {o o':AV → AH → Option (AV × AH)} (h:Snd1 c r o) (h':Snd1 c r' o'):Snd1 c (fun x H Q=>r x H Q ∨ r' x H Q) (fun a g=>orO (o a g) (o' a g)):=by
  intro w H g a u v h1 Q S ra e k
  have e':orO (o a g) (o' a g) = some (v,h1):=e
  cases q:o a g with
  | some x =>
    rw [q] at e'
    have:x = (v,h1):=Option.some.inj e'
    subst this
    exact .inl (h w H g a u v h1 Q S ra q k)
  | none =>
    rw [q] at e'
    exact .inr (h' w H g a u v h1 Q S ra e' k)
def seqOf (h:AH) (a:AV):Option (List AV):=match look h a with
  | some (.lst,xs)=>some xs
  | some (.tup,xs)=>some xs
  | some (.scr,xs)=>some xs
  | _=>none
theorem seqOf_ok {c:Ct} {w:Wd} {H:Hp} {h:AH} (S:SR c w H h) {a:AV} {u:V} {xs:List AV} (r:RepV c w a u) (e:seqOf h a = some xs):∃ p us,u = .ref p ∧ (SqL c.K H p us ∨ SqT c.K H p us) ∧ RepL c w xs us:=by
  unfold seqOf at e
  split at e
  · rename_i ys q
    cases e
    obtain ⟨p,us,e1,n,l⟩:=look_ok S r q
    exact ⟨p,us,e1,.inl (SqL.of n),l⟩
  · rename_i ys q
    cases e
    obtain ⟨p,us,e1,n,l⟩:=look_ok S r q
    exact ⟨p,us,e1,.inr n,l⟩
  · rename_i ys q
    cases e
    obtain ⟨p,us,e1,n,l⟩:=look_ok S r q
    exact ⟨p,us,e1,.inl n,l⟩
  · cases e
def lstOf (h:AH) (a:AV):Option (List AV):=match look h a with
  | some (.lst,xs)=>some xs
  | _=>none
theorem lstOf_ok {c:Ct} {w:Wd} {H:Hp} {h:AH} (S:SR c w H h) {a:AV} {u:V} {xs:List AV} (r:RepV c w a u) (e:lstOf h a = some xs):∃ p us,u = .ref p ∧ H p = some (.lst us) ∧ RepL c w xs us:=by
  unfold lstOf at e
  split at e
  · rename_i ys q
    cases e
    obtain ⟨p,us,e1,n,l⟩:=look_ok S r q
    exact ⟨p,us,e1,n,l⟩
  · cases e
def dctOf (h:AH) (a:AV):Option (List Key × List AV):=match look h a with
  | some (.dct ks,xs)=>some (ks,xs)
  | some (.ldct ks,xs)=>some (ks,xs)
  | _=>none
theorem dctOf_ok {c:Ct} {w:Wd} {H:Hp} {h:AH} (S:SR c w H h) {a:AV} {u:V} {ks:List Key} {xs:List AV} (r:RepV c w a u) (e:dctOf h a = some (ks,xs)):∃ p us,u = .ref p ∧ ks.length = us.length ∧ Rd H p (.dK (ks.zip us)) ∧ RepL c w xs us:=by
  unfold dctOf at e
  split at e
  · rename_i ks' ys q
    cases e
    obtain ⟨p,us,e1,n,l⟩:=look_ok S r q
    exact ⟨p,us,e1,n.1,n.2,l⟩
  · rename_i ks' ys q
    cases e
    obtain ⟨p,us,e1,n,l⟩:=look_ok S r q
    exact ⟨p,us,e1,n.1,n.2,l⟩
  · cases e
def lenS (a:AV) (h:AH):Option (AV × AH):=match a with
  | .str z=>if z.length ≤ sizeLine then some (.int z.length,h) else none
  | _=>none
def lenQ (a:AV) (h:AH):Option (AV × AH):=(seqOf h a).bind fun xs=>some (.int xs.length,h)
def lenD (a:AV) (h:AH):Option (AV × AH):=(dctOf h a).bind fun q=>some (.int q.1.length,h)
def aLenV (a:AV) (h:AH):Option (AV × AH):=orO (orO (lenS a h) (lenQ a h)) (lenD a h)
def rLen2 (K:PySem.W.Frag):List V → Hp → VK → Prop:=fun xs H Q=>(∃ x n,xs = [x] ∧ LenV K x H n ∧ Q (.int n) H) ∨ (∃ p kvs,xs = [.ref p] ∧ Rd H p (.dK kvs) ∧ Q (.int (kvs.length:Nat)) H)
theorem s_len {c:Ct}:SndN c (rLen2 c.K) (one aLenV):=by
  refine snd_one (Snd1.or ?_ ?_)
  · intro w H h a u v h' Q S r e k
    have e':orO (lenS a h) (lenQ a h) = some (v,h'):=e
    unfold orO at e'
    split at e'
    · rename_i x hx
      cases e'
      unfold lenS at hx
      split at hx
      · split at hx
        · rename_i z hz
          cases hx
          rw [show u = _ from r]
          exact ⟨_,z.length,rfl,⟨hz,rfl⟩,k w H _ (.refl _ _ _) S rfl⟩
        · cases hx
      · cases hx
    · obtain ⟨xs,e1,e2⟩:=bind_some e'
      cases e2
      obtain ⟨p,us,rfl,n,l⟩:=seqOf_ok S r e1
      refine ⟨_,us.length,rfl,?_,k w H _ (.refl _ _ _) S (by rw [l.len]; rfl)⟩
      rcases n with n | n
      · exact .inl ⟨us,n,rfl⟩
      · exact .inr ⟨us,n,rfl⟩
  · intro w H h a u v h' Q S r e k
    obtain ⟨⟨ks,xs⟩,e1,e2⟩:=bind_some e
    cases e2
    obtain ⟨p,us,rfl,n1,n2,l⟩:=dctOf_ok S r e1
    exact ⟨p,_,rfl,n2,k w H _ (.refl _ _ _) S (by rw [List.length_zip,n1,Nat.min_self]; rfl)⟩
theorem c_len {X:Cx}:CallR X (.builtin "len") (rLen2 X.K):=by
  refine CallR.or call_len ?_
  intro pins s σ H xs us Q I r h
  obtain ⟨p,kvs,rfl,e,q⟩:=h
  obtain ⟨u,rfl,rx⟩:=vals1 r
  obtain rfl:u = Value.ref p:=rx
  exact d_len I e fun t s' I' => ⟨.int kvs.length,H,I',⟨t,rfl⟩,q⟩
def aStrV (a:AV) (h:AH):Option (AV × AH):=match a with
  | .int i=>if i.natAbs.log2 < 1920 then some (.str (toString i),h) else none
  | _=>none
theorem s_strI {c:Ct}:SndN c (fun xs H Q=>∃ i,xs = [.int i] ∧ i.natAbs.log2 < 1920 ∧ Q (.str (toString i)) H) (one aStrV):=by
  refine snd_one ?_
  intro w H h a u v h' Q S r e k
  unfold aStrV at e
  split at e
  · split at e
    · rename_i hz
      cases e
      rw [show u = _ from r]
      exact ⟨_,rfl,hz,k w H _ (.refl _ _ _) S rfl⟩
    · cases e
  · cases e
def aListV (mk:Kd → List AV → AH → Option (AV × AH)) (a:AV) (h:AH):Option (AV × AH):=(seqOf h a).bind fun xs=>mk .lst xs h
theorem s_list {c:Ct} {mk:Kd → List AV → AH → Option (AV × AH)} (hm:mkOk mk):SndN c (fun xs H Q=>∃ p ys,xs = [.ref p] ∧ (SqL c.K H p ys ∨ SqT c.K H p ys) ∧ ∀ l,H l = none → Q (.ref l) (upd H l (.lst ys))) (one (aListV mk)):=by
  refine snd_one ?_
  intro w H h a u v h' Q S r e k
  obtain ⟨xs,e1,e2⟩:=bind_some e
  obtain ⟨p,us,rfl,n,l⟩:=seqOf_ok S r e1
  obtain ⟨_,hn⟩:=mk_ok hm S l e2
  refine ⟨p,us,rfl,n,fun z hz=>?_⟩
  obtain ⟨w2,s2,t2,r2⟩:=hn z hz
  exact k w2 _ _ t2 s2 r2
def keyA:Key → AV
  | .inl i=>.int i
  | .inr x=>.str x
def aTupV (a:AV) (h:AH):Option (AV × AH):=match look h a with
  | some (.lst,xs)=>mkF .tup xs h
  | _=>none
theorem s_tup {c:Ct}:SndN c (fun xs H Q=>∃ p ys,xs = [.ref p] ∧ ((SqL c.K H p ys ∧ ∀ l,H l = none → Q (.ref l) (upd H l (.tup ys))) ∨ (SqT c.K H p ys ∧ Q (.ref p) H))) (one aTupV):=by
  refine snd_one ?_
  intro w H h a u v h' Q S r e k
  unfold aTupV at e
  split at e
  · rename_i xs hl
    unfold mkF at e
    split at e
    · cases e
      obtain ⟨p,us,rfl,n,l⟩:=look_ok S r hl
      refine ⟨p,us,rfl,.inl ⟨SqL.of n,fun z hz=>?_⟩⟩
      obtain ⟨w2,s2,t2,r2⟩:=S.newF (k:=.tup) hz l fun R e=>SqT.of e
      exact k w2 _ _ t2 s2 r2
    · cases e
  · cases e
def boolsOf:List AV → Option (List Bool)
  | []=>some []
  | .bl i :: xs=>(boolsOf xs).bind fun is=>some (i :: is)
  | _=>none
theorem boolsOf_ok:∀ {xs:List AV} {is:List Bool},boolsOf xs = some is → xs = is.map .bl
  | [],is,h=>by cases h; rfl
  | .bl i :: xs,is,h=>by
    obtain ⟨js,e1,e2⟩:=bind_some h
    cases e2
    rw [boolsOf_ok e1]; rfl
  | .non :: _,_,h=>by cases h
  | .int _ :: _,_,h=>by cases h
  | .str _ :: _,_,h=>by cases h
  | .ty _ :: _,_,h=>by cases h
  | .gl _ :: _,_,h=>by cases h
  | .ref _ :: _,_,h=>by cases h
  | .nod _ _ :: _,_,h=>by cases h
theorem boolsOf_map (is:List Bool):boolsOf (is.map .bl) = some is:=by
  induction is with
  | nil=>rfl
  | cons i is ih=>rw [List.map_cons]; show (boolsOf (is.map .bl)).bind _ = _; rw [ih]; rfl
theorem RepL.bls {c:Ct} {w:Wd}:∀ {is:List Bool} {us:List V},RepL c w (is.map AV.bl) us → us = is.map V.bl
  | [],_,r=>r
  | i :: is,us,r=>by
    obtain ⟨v,us',e,r1,r2⟩:=r
    rw [e,show v = _ from r1,RepL.bls r2]; rfl
def strsOf:List AV → Option (List Str)
  | []=>some []
  | .str i :: xs=>(strsOf xs).bind fun is=>some (i :: is)
  | _=>none
theorem strsOf_ok:∀ {xs:List AV} {is:List Str},strsOf xs = some is → xs = is.map .str
  | [],is,h=>by cases h; rfl
  | .str i :: xs,is,h=>by
    obtain ⟨js,e1,e2⟩:=bind_some h
    cases e2
    rw [strsOf_ok e1]; rfl
  | .non :: _,_,h=>by cases h
  | .bl _ :: _,_,h=>by cases h
  | .int _ :: _,_,h=>by cases h
  | .ty _ :: _,_,h=>by cases h
  | .gl _ :: _,_,h=>by cases h
  | .ref _ :: _,_,h=>by cases h
  | .nod _ _ :: _,_,h=>by cases h
theorem strsOf_map (is:List Str):strsOf (is.map .str) = some is:=by
  induction is with
  | nil=>rfl
  | cons i is ih=>rw [List.map_cons]; show (strsOf (is.map .str)).bind _ = _; rw [ih]; rfl
def aAllV (a:AV) (h:AH):Option (AV × AH):=(lstOf h a).bind fun xs=>(boolsOf xs).bind fun is=>some (.bl (is.all id),h)
theorem s_all {c:Ct}:SndN c (rAll c.K) (one aAllV):=by
  refine snd_one ?_
  intro w H h a u v h' Q S r e k
  obtain ⟨xs,e1,e2⟩:=bind_some e
  obtain ⟨is,e3,e4⟩:=bind_some e2
  cases e4
  obtain ⟨p,us,rfl,n,l⟩:=lstOf_ok S r e1
  rw [boolsOf_ok e3] at l
  exact ⟨p,is,rfl,by rw [← l.bls]; exact SqL.of n,k w H _ (.refl _ _ _) S rfl⟩
def tyN (h:AH) (a:AV):Option String:=match a with
  | .non=>some "NoneType"
  | .bl _=>some "bool"
  | .int _=>some "int"
  | .str _=>some "str"
  | a=>match look h a with
    | some (.lst,_)=>some "list"
    | some (.tup,_)=>some "tuple"
    | _=>none
theorem tyN_ok {c:Ct} {w:Wd} {H:Hp} {h:AH} (S:SR c w H h) {a:AV} {u:V} {T:String} (r:RepV c w a u) (e:tyN h a = some T):TyX c.K H u (.type T) ∧ (T = "NoneType" ∨ T = "bool" ∨ T = "int" ∨ T = "str" ∨ T = "list" ∨ T = "tuple"):=by
  have rest:(match look h a with
    | some (.lst,_)=>some "list"
    | some (.tup,_)=>some "tuple"
    | _=>none) = some T → TyX c.K H u (.type T) ∧ (T = "NoneType" ∨ T = "bool" ∨ T = "int" ∨ T = "str" ∨ T = "list" ∨ T = "tuple"):=fun e=>by
    split at e
    · rename_i xs hl
      cases e
      obtain ⟨p,us,rfl,n,l⟩:=look_ok S r hl
      exact ⟨.base (.lst n),.inr (.inr (.inr (.inr (.inl rfl))))⟩
    · rename_i xs hl
      cases e
      obtain ⟨p,us,rfl,n,l⟩:=look_ok S r hl
      refine ⟨?_,.inr (.inr (.inr (.inr (.inr rfl))))⟩
      rcases n with (n | ⟨o,n⟩) | ⟨o,its,m,n,n2,_⟩
      · exact .base (.tup n)
      · exact .fTuple n
      · exact .kTuple n n2
    · cases e
  cases a with
  | non=>cases e; rw [show u = _ from r]; exact ⟨.base .non,.inl rfl⟩
  | bl b=>cases e; rw [show u = _ from r]; exact ⟨.base (.bl b),.inr (.inl rfl)⟩
  | int b=>cases e; rw [show u = _ from r]; exact ⟨.base (.int b),.inr (.inr (.inl rfl))⟩
  | str b=>cases e; rw [show u = _ from r]; exact ⟨.base (.str b),.inr (.inr (.inr (.inl rfl)))⟩
  | _=>exact rest e
def isTy (T C:String):Bool:=T == C || (T == "bool" && C == "int")
def clsOk (C:String):Bool:=C == "bool" || (C == "int" || (C == "str" || (C == "list" || C == "tuple")))
theorem kit_all (K:PySem.W.Frag) (T C:String) (hT:T = "NoneType" ∨ T = "bool" ∨ T = "int" ∨ T = "str" ∨ T = "list" ∨ T = "tuple") (hC:clsOk C = true):PySem.W.kitOne K (.type T) (.type C) = some (isTy T C):=by
  unfold clsOk at hC
  simp only [Bool.or_eq_true,beq_iff_eq] at hC
  rcases hT with rfl | rfl | rfl | rfl | rfl | rfl <;> rcases hC with rfl | rfl | rfl | rfl | rfl <;> exact kit_ty (by decide +kernel)
def aIsi (a b:AV) (h:AH):Option (AV × AH):=match b with
  | .ty C=>if clsOk C = true then (tyN h a).bind fun T=>some (.bl (isTy T C),h) else none
  | _=>none
theorem s_isi {c:Ct}:SndN c (rIsi c.K) (two aIsi):=by
  refine snd_two ?_
  intro w H h a b u y v h' Q S ra rb e k
  cases b with
  | ty C =>
    have e':(if clsOk C = true then (tyN h a).bind fun T=>some (AV.bl (isTy T C),h) else none) = some (v,h'):=e
    split at e'
    · rename_i hC
      obtain ⟨T,e1,e2⟩:=bind_some e'
      cases e2
      obtain ⟨t1,t2⟩:=tyN_ok S ra e1
      rw [show y = _ from rb]
      exact ⟨u,.ty C,.type T,.type C,isTy T C,rfl,.ty C,t1,kit_all c.K T C t2 hC,k w H _ (.refl _ _ _) S rfl⟩
    · cases e'
  | _=>cases e
end Rp
end
section
namespace Rp
open PySem PySem.Spec PyProof.Rows L2
def cellL (h:AH) (a:AV):Option (Nat × List AV):=match a with
  | .ref n=>match h.get n with
    | some (.lst,xs)=>some (n,xs)
    | _=>none
  | _=>none
theorem cellL_ok {c:Ct} {w:Wd} {H:Hp} {h:AH} (S:SR c w H h) {a:AV} {u:V} {n:Nat} {xs:List AV} (r:RepV c w a u) (e:cellL h a = some (n,xs)) :
    ∃ p us,u = .ref p ∧ H p = some (.lst us) ∧ RepL c w xs us ∧ ∀ (ys:List AV) (vs:List V),RepL c w ys vs → SR c w (upd H p (.lst vs)) (h.put n (.lst,ys)) ∧ Tr w H h w (upd H p (.lst vs)) (h.put n (.lst,ys)):=by
  cases a with
  | ref m =>
    have e':(match h.get m with
      | some (.lst,xs)=>some (m,xs)
      | _=>none) = some (n,xs):=e
    split at e'
    · rename_i ys q
      cases e'
      obtain ⟨p,us,e1,nm,l⟩:=S.cell _ _ _ q
      obtain ⟨p',e2,e3⟩:=r
      rw [e1] at e2
      cases e2
      exact ⟨p,us,e3,nm,l,fun zs vs r2=>S.write q e1 (show NodeM c _ p .lst vs from upd_same) r2⟩
    · cases e'
  | _=>cases e
def aAppend (a:AV) (as:List AV) (h:AH):Option (AV × AH):=(cellL h a).bind fun q=>match as with
  | [y]=>if q.2.length < sizeLine then some (.non,h.put q.1 (.lst,q.2 ++ [y])) else none
  | _=>none
theorem s_append {c:Ct}:SndM c rAppend aAppend:=by
  intro w H h a u as us v h' Q S ra rs e k
  obtain ⟨⟨n,xs⟩,e1,e2⟩:=bind_some e
  obtain ⟨p,vs,rfl,hH,l,wr⟩:=cellL_ok S ra e1
  split at e2
  · rename_i y
    split at e2
    · rename_i hz
      cases e2
      obtain ⟨z,us',rfl,r1,r2⟩:=rs
      have r2':us' = []:=r2
      subst r2'
      obtain ⟨s2,t2⟩:=wr (xs ++ [y]) (vs ++ [z]) (l.append (.cons r1 .nil))
      exact ⟨p,vs,z,rfl,rfl,hH,by rw [← l.len]; exact hz,k w _ _ t2 s2 rfl⟩
    · cases e2
  · cases e2
theorem repl_dropLast {c:Ct} {w:Wd}:∀ {xs:List AV} {us:List V},RepL c w xs us → RepL c w xs.dropLast us.dropLast:=fun {xs us} r=>by
  rw [List.dropLast_eq_take,List.dropLast_eq_take,r.len]
  exact r.take _
def aPop (a:AV) (as:List AV) (h:AH):Option (AV × AH):=(cellL h a).bind fun q=>match as with
  | []=>(q.2[q.2.length - 1]?).bind fun y=>some (y,h.put q.1 (.lst,q.2.dropLast))
  | _=>none
theorem s_pop {c:Ct}:SndM c rPop aPop:=by
  intro w H h a u as us v h' Q S ra rs e k
  obtain ⟨⟨n,xs⟩,e1,e2⟩:=bind_some e
  obtain ⟨p,vs,rfl,hH,l,wr⟩:=cellL_ok S ra e1
  split at e2
  · obtain ⟨y,e3,e4⟩:=bind_some e2
    cases e4
    have rs':us = []:=rs
    subst rs'
    obtain ⟨z,ez,rz⟩:=l.get e3
    obtain ⟨s2,t2⟩:=wr xs.dropLast vs.dropLast (repl_dropLast l)
    exact ⟨p,vs,z,rfl,rfl,hH,by rw [← l.len]; exact ez,k w _ _ t2 s2 rz⟩
  · cases e2
def aSplit (mk:Kd → List AV → AH → Option (AV × AH)) (a:AV) (as:List AV) (h:AH):Option (AV × AH):=match a,as with
  | .str x,[.str y]=>if (y.length == 0) = false ∧ x.length + 2 ≤ sizeLine then mk .lst ((Txt.split x y).map .str) h else none
  | _,_=>none
theorem s_split {c:Ct} {mk:Kd → List AV → AH → Option (AV × AH)} (hm:mkOk mk):SndM c (fun x xs H Q=>∃ a b,x = .str a ∧ xs = [.str b] ∧ (b.length == 0) = false ∧ a.length + 2 ≤ sizeLine ∧ rNewStrs (Txt.split a b) H Q) (aSplit mk):=by
  intro w H h a u as us v h' Q S ra rs e k
  cases a with
  | str x =>
    cases as with
    | nil=>cases e
    | cons b t =>
      cases t with
      | cons _ _=>cases b <;> cases e
      | nil =>
        cases b with
        | str y =>
          have e':(if (y.length == 0) = false ∧ x.length + 2 ≤ sizeLine then mk .lst ((Txt.split x y).map .str) h else none) = some (v,h'):=e
          split at e'
          · rename_i hz
            obtain ⟨z,us',rfl,r1,r2⟩:=rs
            have r2':us' = []:=r2
            subst r2'
            obtain ⟨_,hn⟩:=mk_ok hm S (RepL.mk_strs (is:=Txt.split x y)) e'
            rw [show u = _ from ra,show z = _ from r1]
            refine ⟨x,y,rfl,rfl,hz.1,hz.2,fun p hp=>?_⟩
            obtain ⟨w2,s2,t2,r3⟩:=hn p hp
            exact k w2 _ _ t2 s2 r3
          · cases e'
        | _=>cases e
  | _=>cases e
def aJoin (a:AV) (as:List AV) (h:AH):Option (AV × AH):=match a,as with
  | .str x,[y]=>(seqOf h y).bind fun xs=>(strsOf xs).bind fun ys=>if (ys.map (·.length)).sum + ys.length * x.length ≤ 16777216 then some (.str (Txt.join x ys),h) else none
  | _,_=>none
theorem s_join {c:Ct}:SndM c (fun x xs H Q=>∃ a p,∃ ys:List Str,x = .str a ∧ xs = [.ref p] ∧ (SqL c.K H p (ys.map V.str) ∨ SqT c.K H p (ys.map V.str)) ∧ (ys.map (·.length)).sum + ys.length * a.length ≤ 16777216 ∧ Q (.str (Txt.join a ys)) H) aJoin:=by
  intro w H h a u as us v h' Q S ra rs e k
  cases a with
  | str x =>
    cases as with
    | nil=>cases e
    | cons b t =>
      cases t with
      | cons _ _=>cases e
      | nil =>
        have e':((seqOf h b).bind fun xs=>(strsOf xs).bind fun ys=>if (ys.map (·.length)).sum + ys.length * x.length ≤ 16777216 then some (AV.str (Txt.join x ys),h) else none) = some (v,h'):=e
        obtain ⟨xs,e1,e2⟩:=bind_some e'
        obtain ⟨ys,e3,e4⟩:=bind_some e2
        split at e4
        · rename_i hz
          cases e4
          obtain ⟨z,us',rfl,r1,r2⟩:=rs
          have r2':us' = []:=r2
          subst r2'
          obtain ⟨p,vs,rfl,n,l⟩:=seqOf_ok S r1 e1
          rw [strsOf_ok e3] at l
          have l':=l.strs
          subst l'
          exact ⟨x,p,ys,ra,rfl,n,hz,k w H _ (.refl _ _ _) S rfl⟩
        · cases e4
  | _=>cases e
section
variable {X:Cx} {cl:Nat → Str × List Str} {pos apos cpos:Pos} {o e e2:Expr} {es:List Expr} {f f2 f3:AE} {g:AA}
theorem ae_bm {T id:String} {name:Str} {r:V → List V → Hp → VK → Prop} {op:AV → List AV → AH → Option (AV × AH)} (hT:T = "str" ∨ T = "list" ∨ T = "int") (pa:PlainAttrs T) (slot:Slot T name id) (hty:typeOf (.builtin id) = pure (.type "method_descriptor")) (hm:MtR X id r) (hs:SndM (ctX X cl) r op)
    (ho:PE X o (tA (ctX X cl) f)) (ha:PA X (e :: es) (tAs (ctX X cl) g)) (h:∀ {to:TE} {t:TA},PE X o to → PA X (e :: es) t → PE X (.Call (.Attribute o name apos) (e :: es) [] cpos) (tBM X.K T r to t):=by exact fun h1 h2=>pe_bm (by assumption) (by assumption) (by assumption) (by assumption) h1 h2) :
    PE X (.Call (.Attribute o name apos) (e :: es) [] cpos) (tA (ctX X cl) (aBM T op f g)):=(h ho ha).wk fun _ _ _ q=>tBM_of hT hs q
theorem ae_bm0 {T id:String} {name:Str} {r:V → List V → Hp → VK → Prop} {op:AV → List AV → AH → Option (AV × AH)} (hT:T = "str" ∨ T = "list" ∨ T = "int") (pa:PlainAttrs T) (slot:Slot T name id) (hty:typeOf (.builtin id) = pure (.type "method_descriptor")) (hm:MtR X id r) (hs:SndM (ctX X cl) r op)
    (ho:PE X o (tA (ctX X cl) f)) (h:∀ {to:TE},PE X o to → PE X (.Call (.Attribute o name apos) [] [] cpos) (tBM0 X.K T r to):=by exact fun h1=>pe_bm0 (by assumption) (by assumption) (by assumption) (by assumption) h1) :
    PE X (.Call (.Attribute o name apos) [] [] cpos) (tA (ctX X cl) (aBM T op f aNil)):=by
  refine (h ho).wk fun σ H Q q=>?_
  have:=tBM_of (c:=ctX X cl) hT hs q
  obtain ⟨w,s,h,v,h',rs,sr,e,kk⟩:=this
  refine ⟨w,s,h,v,h',rs,sr,e,fun w1 H1 u t1 s1 r1=>?_⟩
  obtain ⟨p,q2⟩:=kk w1 H1 u t1 s1 r1
  exact ⟨p,tNil_of q2⟩
end
def dPut {α:Type} (ks:List Key) (xs:List α) (k:Key) (v:α):List Key × List α:=if (kIx ks k).isSome = true then (ks,List.zipWith (fun j x=>if j = k then v else x) ks xs) else (ks ++ [k],xs ++ [v])
theorem zip_map_fst {α:Type} (k:Key) (v:α):∀ (ks:List Key) (us:List α),ks.length = us.length → ((ks.zip us).map fun kv=>if kv.1 = k then (kv.1,v) else kv) = ks.zip (List.zipWith (fun j x=>if j = k then v else x) ks us)
  | [],us,_=>by simp
  | j :: ks,[],h=>by simp at h
  | j :: ks,u :: us,h=>by
    rw [List.zip_cons_cons,List.map_cons,List.zipWith_cons_cons,List.zip_cons_cons,zip_map_fst k v ks us (by simpa using h)]
    by_cases e:j = k
    · rw [if_pos e,if_pos e]
    · rw [if_neg e,if_neg e]
theorem any_kIx {α:Type} (k:Key):∀ (ks:List Key) (us:List α),ks.length = us.length → ((ks.zip us).any fun kv=>decide (kv.1 = k)) = (kIx ks k).isSome
  | [],us,_=>by simp [kIx]
  | j :: ks,[],h=>by simp at h
  | j :: ks,u :: us,h=>by
    rw [List.zip_cons_cons,List.any_cons,any_kIx k ks us (by simpa using h)]
    unfold kIx
    rw [List.findIdx?_cons]
    by_cases e:j = k
    · simp [e]
    · simp only [decide_eq_true_eq,e,if_false,decide_false,Bool.false_or]
      cases q:List.findIdx? (fun j=>decide (j = k)) ks <;> simp
theorem putK_zip (ks:List Key) (us:List V) (k:Key) (v:V) (h:ks.length = us.length):putK (ks.zip us) k v = (dPut ks us k v).1.zip (dPut ks us k v).2:=by
  unfold putK dPut
  rw [any_kIx k ks us h]
  split
  · exact zip_map_fst k v ks us h
  · show ks.zip us ++ [(k,v)] = (ks ++ [k]).zip (us ++ [v])
    rw [List.zip_append h]; rfl
theorem dPut_len {α:Type} (ks:List Key) (us:List α) (k:Key) (v:α) (h:ks.length = us.length):(dPut ks us k v).1.length = (dPut ks us k v).2.length:=by
  unfold dPut
  split
  · simp [h]
  · simp [h]
theorem dPut_fst {α β:Type} (ks:List Key) (us:List α) (vs:List β) (k:Key) (v:α) (y:β):(dPut ks us k v).1 = (dPut ks vs k y).1:=by
  unfold dPut
  split <;> rfl
theorem repl_zipWith {c:Ct} {w:Wd} {v:AV} {y:V} (r:RepV c w v y) (k:Key):∀ (ks:List Key) {xs:List AV} {us:List V},RepL c w xs us → RepL c w (List.zipWith (fun j x=>if j = k then v else x) ks xs) (List.zipWith (fun j x=>if j = k then y else x) ks us)
  | [],xs,us,_=>by simp; exact rfl
  | j :: ks,[],us,q=>by rw [show us = [] from q]; simp; exact rfl
  | j :: ks,x :: xs,us,q=>by
    obtain ⟨u,us',rfl,q1,q2⟩:=q
    rw [List.zipWith_cons_cons,List.zipWith_cons_cons]
    refine .cons ?_ (repl_zipWith r k ks q2)
    by_cases e:j = k
    · rw [if_pos e,if_pos e]; exact r
    · rw [if_neg e,if_neg e]; exact q1
theorem dPut_rep {c:Ct} {w:Wd} {ks:List Key} {xs:List AV} {us:List V} {k:Key} {v:AV} {y:V} (r:RepL c w xs us) (q:RepV c w v y):RepL c w (dPut ks xs k v).2 (dPut ks us k y).2:=by
  unfold dPut
  split
  · exact repl_zipWith q k ks r
  · exact r.append (.cons q .nil)
def cellD (h:AH) (a:AV):Option (Nat × List Key × List AV):=match a with
  | .ref n=>match h.get n with
    | some (.dct ks,xs)=>some (n,ks,xs)
    | _=>none
  | _=>none
theorem cellD_ok {c:Ct} {w:Wd} {H:Hp} {h:AH} (S:SR c w H h) {a:AV} {u:V} {n:Nat} {ks:List Key} {xs:List AV} (r:RepV c w a u) (e:cellD h a = some (n,ks,xs)) :
    ∃ p us,u = .ref p ∧ ks.length = us.length ∧ H p = some (.dK (ks.zip us)) ∧ RepL c w xs us ∧ ∀ (js:List Key) (ys:List AV) (vs:List V),js.length = vs.length → RepL c w ys vs → SR c w (upd H p (.dK (js.zip vs))) (h.put n (.dct js,ys)) ∧ Tr w H h w (upd H p (.dK (js.zip vs))) (h.put n (.dct js,ys)):=by
  cases a with
  | ref m =>
    have e':(match h.get m with
      | some (.dct ks,xs)=>some (m,ks,xs)
      | _=>none) = some (n,ks,xs):=e
    split at e'
    · rename_i ks' ys q
      cases e'
      obtain ⟨p,us,e1,nm,l⟩:=S.cell _ _ _ q
      obtain ⟨p',e2,e3⟩:=r
      rw [e1] at e2
      cases e2
      exact ⟨p,us,e3,nm.1,nm.2,l,fun js zs vs hl r2=>S.write q e1 (show NodeM c _ p (.dct js) vs from ⟨hl,upd_same⟩) r2⟩
    · cases e'
  | _=>cases e
def aSetL (o i v:AV) (h:AH):Option AH:=(cellL h o).bind fun q=>match i with
  | .int k=>(ixN q.2.length k).bind fun j=>some (h.put q.1 (.lst,q.2.set j v))
  | _=>none
def aSetD (o i v:AV) (h:AH):Option AH:=(cellD h o).bind fun q=>(toKey i).bind fun k=>if q.2.1.length < sizeLine then some (h.put q.1 (.dct (dPut q.2.1 q.2.2 k v).1,(dPut q.2.1 q.2.2 k v).2)) else none
def aSet (o i v:AV) (h:AH):Option AH:=orO (aSetL o i v h) (aSetD o i v h)
def rSetD:TSet:=fun o i v H Q=>∃ a H',o = .ref a ∧ DPut H a i v H' ∧ Q H'
def rSetA:TSet:=fun o i v H Q=>rSetL o i v H Q ∨ rSetD o i v H Q
theorem pset_A {X:Cx} (hu:X.A.units + 64 < cLine):PSet X rSetA:=by
  intro pins s σ H o i v ov iv u Q I ro ri rv h
  rcases h with h | h
  · exact set_list pins s σ H o i v ov iv u Q I ro ri rv h
  · obtain ⟨a,H',rfl,g,q⟩:=h
    obtain rfl:ov = Value.ref a:=ro
    exact d_setItem (A:=X.A) (by omega) I g ri rv fun s' I' => ⟨H',I',q⟩
def SndS (c:Ct) (r:TSet) (f:AV → AV → AV → AH → Option AH):Prop:=∀ w H h o i v u y z h' (Q:Hp → Prop),SR c w H h → RepV c w o u → RepV c w i y → RepV c w v z → f o i v h = some h' →
  (∀ w' H',Tr w H h w' H' h' → SR c w' H' h' → Q H') → r u y z H Q
theorem s_set {c:Ct}:SndS c rSetA aSet:=by
  intro w H h o i v u y z h' Q S ro ri rv e k
  unfold aSet orO at e
  split at e
  · rename_i x hx
    cases e
    obtain ⟨⟨n,xs⟩,e1,e2⟩:=bind_some hx
    obtain ⟨p,us,rfl,hH,l,wr⟩:=cellL_ok S ro e1
    split at e2
    · rename_i j
      obtain ⟨m,e3,e4⟩:=bind_some e2
      cases e4
      obtain ⟨s2,t2⟩:=wr (xs.set m v) (us.set m z) (l.set m rv)
      exact .inl ⟨p,us,j,m,rfl,ri,hH,by rw [← l.len]; exact e3,k w _ t2 s2⟩
    · cases e2
  · obtain ⟨⟨n,ks,xs⟩,e1,e2⟩:=bind_some e
    obtain ⟨kk,e3,e4⟩:=bind_some e2
    obtain ⟨p,us,rfl,hl,hH,l,wr⟩:=cellD_ok S ro e1
    split at e4
    · rename_i hz
      cases e4
      obtain ⟨s2,t2⟩:=wr (dPut ks us kk z).1 (dPut ks xs kk v).2 (dPut ks us kk z).2 (dPut_len ks us kk z hl) (dPut_rep l rv)
      have ef:(dPut ks us kk z).1 = (dPut ks xs kk v).1:=dPut_fst ks us xs kk z v
      rw [ef] at s2 t2
      refine .inr ⟨p,_,rfl,.inl ⟨_,kk,hH,toKey_rep e3 ri,by rw [List.length_zip,← hl,Nat.min_self]; exact hz,rfl⟩,?_⟩
      rw [putK_zip ks us kk z hl,ef]
      exact k w _ t2 s2
    · cases e4
def aGet2 (f g t:AE):AE:=fun s h=>(f s h).bind fun r=>(dctOf r.2 r.1).bind fun _=>(g s r.2).bind fun q=>(t s q.2).bind fun z=>(dctOf z.2 r.1).bind fun d=>(toKey q.1).bind fun k=>some ((((kIx d.1 k).bind fun i=>d.2[i]?).getD z.1),z.2)
theorem getD_rep {c:Ct} {w:Wd} {ks:List Key} {xs:List AV} {us:List V} {k:Key} {v:AV} {y:V} (l:RepL c w xs us) (hl:ks.length = us.length) (r:RepV c w v y):RepV c w (((kIx ks k).bind fun i=>xs[i]?).getD v) ((valV (ks.zip us) k).getD y):=by
  rw [valV_zip ks us k hl]
  cases e:kIx ks k with
  | none=>exact r
  | some i =>
    have hi:=kIx_lt e
    have hx:i < xs.length:=by rw [l.len,← hl]; exact hi
    obtain ⟨u,e1,e2⟩:=l.get (n:=i) (x:=xs[i]) (List.getElem?_eq_getElem hx)
    show RepV c w ((xs[i]?).getD v) ((us[i]?).getD y)
    rw [e1,List.getElem?_eq_getElem hx]
    exact e2
section
variable {X:Cx} {cl:Nat → Str × List Str} {pos apos cpos:Pos} {o e e2:Expr} {f g t:AE}
theorem ae_get2 (hu:X.A.units + 64 < cLine) (ho:PE X o (tA (ctX X cl) f)) (he:PE X e (tA (ctX X cl) g)) (hf:PE X e2 (tA (ctX X cl) t)) (m:M2 X o "get" apos e e2 cpos:=by exact ⟨rfl,rfl,rfl,rfl⟩):PE X (.Call (.Attribute o "get" apos) [e,e2] [] cpos) (tA (ctX X cl) (aGet2 f g t)):=by
  refine (pe_dget2 (by omega) ho he hf m).wk fun σ H Q q=>?_
  obtain ⟨w,s,h,v,h',rs,sr,e,k⟩:=q
  obtain ⟨⟨a,h1⟩,e1,e⟩:=bind_some e
  obtain ⟨d0,e0,e⟩:=bind_some e
  obtain ⟨⟨b,h2⟩,e2,e⟩:=bind_some e
  obtain ⟨⟨b3,h3⟩,e25,e⟩:=bind_some e
  obtain ⟨⟨ks,xs⟩,e3,e⟩:=bind_some e
  obtain ⟨kk,e4,e⟩:=bind_some e
  cases e
  refine ⟨w,s,h,a,h1,rs,sr,e1,fun w1 H1 u t1 s1 r1=>?_⟩
  obtain ⟨ks0,xs0⟩:=d0
  obtain ⟨p,us,rfl,n1,n2,l⟩:=dctOf_ok s1 r1 e0
  refine ⟨p,rfl,.inl ⟨_,n2⟩,⟨w1,s,h1,b,h2,rs.le t1.le,s1,e2,fun w2 H2 y t2 s2 r2=>⟨w2,s,h2,b3,h3,(rs.le t1.le).le t2.le,s2,e25,fun w3 H3 z t3 s3 r3=>?_⟩⟩⟩
  obtain ⟨p',us',ep,m1,m2,l2⟩:=dctOf_ok s3 (RepV.le (t2.trans t3).le _ _ r1) e3
  cases ep
  exact ⟨_,.inl ⟨_,kk,m2,toKey_rep e4 r2,rfl⟩,k w3 H3 _ (t1.trans (t2.trans t3)) s3 (getD_rep l2 m1 r3)⟩
end
end Rp
end
section
namespace Rp
open PySem PySem.Spec PyProof.Rows L2
inductive AR where
  | nx (s:LS) | rt (v:AV) | bk (s:LS) | ct (s:LS)
abbrev AS:=LS → AH → Option (AR × AH)
def EndsA (c:Ct) (w:Wd) (D:Ends) (H:Hp):AR → Prop
  | .nx s=>∀ σ,RepS c w s σ → D.nx σ H
  | .rt v=>∀ u,RepV c w v u → D.rt u H
  | .bk s=>∀ σ,RepS c w s σ → D.bk σ H
  | .ct s=>∀ σ,RepS c w s σ → D.ct σ H
def tS (c:Ct) (f:AS):TS:=fun D σ H=>∃ w s h r h',RepS c w s σ ∧ SR c w H h ∧ f s h = some (r,h') ∧ ∀ w' H',Tr w H h w' H' h' → SR c w' H' h' → EndsA c w' D H' r
theorem _root_.L2.PS.wk {X:Cx} {e:Stmt} {t t':TS} (h:PS X e t) (hh:∀ D σ H,t' D σ H → t D σ H):PS X e t':=⟨fun pins s σ H D I q=>h.run pins s σ H D I (hh _ _ _ q)⟩
theorem _root_.L2.PSs.wk {X:Cx} {e:List Stmt} {t t':TS} (h:PSs X e t) (hh:∀ D σ H,t' D σ H → t D σ H):PSs X e t':=⟨fun pins s σ H D I q=>h.run pins s σ H D I (hh _ _ _ q)⟩
def aPass:AS:=fun s h=>some (.nx s,h)
def aSeq (f g:AS):AS:=fun s h=>(f s h).bind fun r=>match r.1 with
  | .nx s' => g s' r.2
  | x=>some (x,r.2)
def aRet (f:AE):AS:=fun s h=>(f s h).bind fun r=>some (.rt r.1,r.2)
def aRetN:AS:=fun s h=>some (.rt .non,h)
def aExp (f:AE):AS:=fun s h=>(f s h).bind fun r=>some (.nx s,r.2)
def aIfS (t:AT) (f g:AS):AS:=fun s h=>(t s h).bind fun r=>if r.1 = true then f s r.2 else g s r.2
def aStuck:AS:=fun _ _=>none
section
variable {X:Cx} {cl:Nat → Str × List Str} {pos:Pos} {st:Stmt} {rest a b:List Stmt} {f g:AS} {e:Expr} {fe:AE} {t:AT}
theorem as_nil:PSs X [] (tS (ctX X cl) aPass):=pss_nil.wk fun D σ H q=>by
  obtain ⟨w,s,h,r,h',rs,sr,e,k⟩:=q
  cases e
  exact k w H (.refl _ _ _) sr σ rs
theorem as_cons (h1:PS X st (tS (ctX X cl) f)) (h2:PSs X rest (tS (ctX X cl) g)):PSs X (st :: rest) (tS (ctX X cl) (aSeq f g)):=by
  refine (pss_cons h1 h2).wk fun D σ H q=>?_
  obtain ⟨w,s,h,r,h',rs,sr,e,k⟩:=q
  obtain ⟨⟨x,h1⟩,e1,e⟩:=bind_some e
  refine ⟨w,s,h,x,h1,rs,sr,e1,fun w1 H1 t1 s1=>?_⟩
  cases x with
  | nx s' => exact fun σ' rs' => ⟨w1,s',h1,r,h',rs',s1,e,fun w2 H2 t2 s2=>k w2 H2 (t1.trans t2) s2⟩
  | rt v=>cases e; exact k w1 H1 t1 s1
  | bk s' => cases e; exact k w1 H1 t1 s1
  | ct s' => cases e; exact k w1 H1 t1 s1
theorem as_one (h1:PS X st (tS (ctX X cl) f)):PSs X [st] (tS (ctX X cl) f):=pss_one h1
theorem as_expr (he:PE X e (tA (ctX X cl) fe)) (hs:swapsWith e none pos.line X.env = pure false:=by rfl):PS X (.Expr e pos) (tS (ctX X cl) (aExp fe)):=by
  refine (ps_expr he hs).wk fun D σ H q=>?_
  obtain ⟨w,s,h,r,h',rs,sr,e,k⟩:=q
  obtain ⟨⟨x,h1⟩,e1,e⟩:=bind_some e
  cases e
  exact ⟨w,s,h,x,h1,rs,sr,e1,fun w1 H1 u t1 s1 r1=>k w1 H1 t1 s1 σ (rs.le t1.le)⟩
theorem as_ret (he:PE X e (tA (ctX X cl) fe)):PS X (.Return (some e) pos) (tS (ctX X cl) (aRet fe)):=by
  refine (ps_ret he).wk fun D σ H q=>?_
  obtain ⟨w,s,h,r,h',rs,sr,e,k⟩:=q
  obtain ⟨⟨x,h1⟩,e1,e⟩:=bind_some e
  cases e
  exact ⟨w,s,h,x,h1,rs,sr,e1,fun w1 H1 u t1 s1 r1=>k w1 H1 t1 s1 u r1⟩
theorem as_retN:PS X (.Return none pos) (tS (ctX X cl) aRetN):=ps_retN.wk fun D σ H q=>by
  obtain ⟨w,s,h,r,h',rs,sr,e,k⟩:=q
  cases e
  exact k w H (.refl _ _ _) sr .non rfl
theorem as_if {c0:Expr} (hc:PT X c0 (tT (ctX X cl) t)) (ha:PSs X a (tS (ctX X cl) f)) (hb:PSs X b (tS (ctX X cl) g)):PS X (.If c0 a b pos) (tS (ctX X cl) (aIfS t f g)):=by
  refine (ps_if hc ha hb).wk fun D σ H q=>?_
  obtain ⟨w,s,h,r,h',rs,sr,e,k⟩:=q
  obtain ⟨⟨d,h1⟩,e1,e⟩:=bind_some e
  refine ⟨w,s,h,d,h1,rs,sr,e1,fun w1 H1 t1 s1=>?_⟩
  cases d with
  | true =>
    rw [if_pos rfl]
    exact ⟨w1,s,h1,r,h',rs.le t1.le,s1,e,fun w2 H2 t2 s2=>k w2 H2 (t1.trans t2) s2⟩
  | false =>
    rw [if_neg Bool.false_ne_true]
    exact ⟨w1,s,h1,r,h',rs.le t1.le,s1,e,fun w2 H2 t2 s2=>k w2 H2 (t1.trans t2) s2⟩
end
abbrev AG:=AV → LS → AH → Option (LS × AH)
def tG (c:Ct) (f:AG):TG:=fun v σ H Q=>∃ w a s h s' h',RepV c w a v ∧ RepS c w s σ ∧ SR c w H h ∧ f a s h = some (s',h') ∧ ∀ w' H' σ',Tr w H h w' H' h' → SR c w' H' h' → RepS c w' s' σ' → Q σ' H'
theorem _root_.L2.PG.wk {X:Cx} {e:Expr} {t t':TG} (h:PG X e t) (hh:∀ v σ H Q,t' v σ H Q → t v σ H Q):PG X e t':=⟨fun pins s σ H v u Q I r q=>h.run pins s σ H v u Q I r (hh _ _ _ _ q)⟩
abbrev AGs:=List AV → LS → AH → Option (LS × AH)
def tGs (c:Ct) (f:AGs):TGs:=fun vs σ H Q=>∃ w as s h s' h',RepL c w as vs ∧ RepS c w s σ ∧ SR c w H h ∧ f as s h = some (s',h') ∧ ∀ w' H' σ',Tr w H h w' H' h' → SR c w' H' h' → RepS c w' s' σ' → Q σ' H'
theorem _root_.L2.PGs.wk {X:Cx} {e:List Expr} {t t':TGs} (h:PGs X e t) (hh:∀ v σ H Q,t' v σ H Q → t v σ H Q):PGs X e t':=⟨fun pins s σ H v u Q I r q=>h.run pins s σ H v u Q I r (hh _ _ _ _ q)⟩
def gNm (i:Nat):AG:=fun v s h=>some (s.set i (some v),h)
def gsNil:AGs:=fun vs s h=>match vs with
  | []=>some (s,h)
  | _=>none
def gsCons (f:AG) (g:AGs):AGs:=fun vs s h=>match vs with
  | v :: r=>(f v s h).bind fun q=>g r q.1 q.2
  | _=>none
def gSq (n:Nat) (g:AGs):AG:=fun v s h=>(seqOf h v).bind fun xs=>if xs.length = n then g xs s h else none
def gIx (fo fi:AE):AG:=fun v s h=>(fo s h).bind fun o=>(fi s o.2).bind fun i=>(aSet o.1 i.1 v i.2).bind fun h' => some (s,h')
def setFld (k j:Nat) (o v:AV) (h:AH):Option AH:=match o with
  | .ref n=>match h.get n with
    | some (.ins k',xs)=>if k' = k then (if j < xs.length then some (h.put n (.ins k,xs.set j v)) else if j = xs.length then some (h.put n (.ins k,xs ++ [v])) else none) else none
    | _=>none
  | _=>none
def gFl (k j:Nat) (fo:AE):AG:=fun v s h=>(fo s h).bind fun o=>(setFld k j o.1 v o.2).bind fun h' => some (s,h')
section
variable {X:Cx} {cl:Nat → Str × List Str} {pos pos' tpos:Pos} {e o i tg:Expr} {es:List Expr} {f fo fi fe:AE} {g:AG} {gs:AGs}
theorem ag_name {x:Str} (i:Nat) (hN:X.N.Nodup) (hi:X.N[i]? = some x:=by rfl) (hx:Loc X.env.scope x:=by first | exact Or.inl rfl | exact Or.inr rfl) (hf:X.fn x = true ∨ X.env.scope.names.lookup x = some .local:=by first | exact .inl rfl | exact .inr rfl | assumption):PG X (.Name x pos) (tG (ctX X cl) (gNm i)):=by
  refine (pg_name hN hi hx hf).wk fun v σ H Q q=>?_
  obtain ⟨w,a,s,h,s',h',ra,rs,sr,e,k⟩:=q
  cases e
  exact k w H _ (.refl _ _ _) sr (rs.set i ra)
theorem ags_nil:PGs X [] (tGs (ctX X cl) gsNil):=pgs_nil.wk fun v σ H Q q=>by
  obtain ⟨w,as,s,h,s',h',ra,rs,sr,e,k⟩:=q
  cases as with
  | nil =>
    cases e
    exact ⟨ra,k w H _ (.refl _ _ _) sr rs⟩
  | cons _ _=>cases e
theorem ags_cons (h1:PG X e (tG (ctX X cl) g)) (h2:PGs X es (tGs (ctX X cl) gs)) (hs:(assignEach (e :: es) X.env).map (·.2) = assign e X.env :: (assignEach es X.env).map (·.2):=by rfl):PGs X (e :: es) (tGs (ctX X cl) (gsCons g gs)):=by
  refine (pgs_cons h1 h2 hs).wk fun v σ H Q q=>?_
  obtain ⟨w,as,s,h,s',h',ra,rs,sr,e,k⟩:=q
  cases as with
  | nil=>cases e
  | cons a as =>
    obtain ⟨u,us,rfl,r1,r2⟩:=ra
    obtain ⟨⟨s1,h1⟩,e1,e⟩:=bind_some e
    refine ⟨u,us,rfl,⟨w,a,s,h,s1,h1,r1,rs,sr,e1,fun w1 H1 σ1 t1 sr1 rs1=>?_⟩⟩
    exact ⟨w1,as,s1,h1,s',h',RepL.le t1.le _ _ r2,rs1,sr1,e,fun w2 H2 σ2 t2 sr2 rs2=>k w2 H2 σ2 (t1.trans t2) sr2 rs2⟩
theorem pg_or {e:Expr} {t t':TG} (h:PG X e t) (h':PG X e t'):PG X e (fun v σ H Q=>t v σ H Q ∨ t' v σ H Q):=⟨fun pins s σ H v u Q I r q=>by
  rcases q with q | q
  · exact h.run pins s σ H v u Q I r q
  · exact h'.run pins s σ H v u Q I r q⟩
theorem ag_sq {k n:Nat} (hc:X.calm = true) (h:PGs X es (tGs (ctX X cl) gs)) (hn:(assignEach es X.env).length = n:=by rfl) (hst:(assignEach es X.env).findIdx? (·.1) = none:=by rfl)
    (hu:∀ {t:TGs},PGs X es t → PG X (.Tuple es k pos) (gUnl X.K n t):=by exact fun h=>pg_unl (by assumption) h):PG X (.Tuple es k pos) (tG (ctX X cl) (gSq n gs)):=by
  refine (pg_or (pg_tup hc h hn hst) (hu h)).wk fun v σ H Q q=>?_
  obtain ⟨w,a,s,h,s',h',ra,rs,sr,e,k⟩:=q
  obtain ⟨xs,e1,e⟩:=bind_some e
  split at e
  · rename_i hl
    obtain ⟨p,us,rfl,hq,l⟩:=seqOf_ok sr ra e1
    have go:tGs (ctX X cl) gs us σ H Q:=⟨w,xs,s,h,s',h',l,rs,sr,e,k⟩
    rcases hq with hq | hq
    · exact .inr ⟨p,us,rfl,hq,by rw [← l.len]; exact hl,go⟩
    · exact .inl ⟨p,us,rfl,hq,by rw [← l.len]; exact hl,go⟩
  · cases e
theorem ag_ix (hu:X.A.units + 64 < cLine) (ho:PE X o (tA (ctX X cl) fo)) (hi:PE X i (tA (ctX X cl) fi)) (h:∀ {to ti:TE} {t:TSet},PE X o to → PE X i ti → PSet X t → PG X (.Subscript o i pos) (gSub to ti t):=by exact fun h1 h2 h3=>pg_sub h1 h2 h3):PG X (.Subscript o i pos) (tG (ctX X cl) (gIx fo fi)):=by
  refine (h ho hi (pset_A hu)).wk fun v σ H Q q=>?_
  obtain ⟨w,a,s,h,s',h',ra,rs,sr,e,k⟩:=q
  obtain ⟨⟨x,h1⟩,e1,e⟩:=bind_some e
  obtain ⟨⟨y,h2⟩,e2,e⟩:=bind_some e
  obtain ⟨h3,e3,e⟩:=bind_some e
  injection e with e
  injection e with es eh
  subst es
  refine ⟨w,s,h,x,h1,rs,sr,e1,fun w1 H1 u1 t1 s1 r1=>⟨w1,s,h1,y,h2,rs.le t1.le,s1,e2,fun w2 H2 u2 t2 s2 r2=>?_⟩⟩
  exact s_set w2 H2 h2 x y a u1 u2 v h3 _ s2 (RepV.le t2.le _ _ r1) r2 (RepV.le (t1.trans t2).le _ _ ra) e3 fun w3 H3 t3 s3=>by
    subst eh; exact k w3 H3 σ (t1.trans (t2.trans t3)) s3 (rs.le (t1.trans (t2.trans t3)).le)
theorem setFld_ok {c:Ct} {w:Wd} {H:Hp} {h h':AH} {k j:Nat} {a:Addr} {fn:Str} {ov v:AV} {u y:V} (F:ClsF c k a) (hj:(c.cl k).2[j]? = some fn) (S:SR c w H h) (r:RepV c w ov u) (q:RepV c w v y) (e:setFld k j ov v h = some h') :
    ∃ p dx fs,u = .ref p ∧ H p = some (.ins a dx fs) ∧ fs.length < 1000 ∧ SR c w (upd H p (.ins a dx (putF fn y fs))) h' ∧ Tr w H h w (upd H p (.ins a dx (putF fn y fs))) h':=by
  cases ov with
  | ref n =>
    cases hg:h.get n with
    | none =>
      have e':(match h.get n with
        | some (.ins k',xs)=>if k' = k then (if j < xs.length then some (h.put n (.ins k,xs.set j v)) else if j = xs.length then some (h.put n (.ins k,xs ++ [v])) else none) else none
        | _=>none) = some h':=e
      rw [hg] at e'; cases e'
    | some z =>
      obtain ⟨kd,xs⟩:=z
      have e':(match h.get n with
        | some (.ins k',xs)=>if k' = k then (if j < xs.length then some (h.put n (.ins k,xs.set j v)) else if j = xs.length then some (h.put n (.ins k,xs ++ [v])) else none) else none
        | _=>none) = some h':=e
      rw [hg] at e'
      cases kd with
      | ins k' =>
        have e2:(if k' = k then (if j < xs.length then some (h.put n (.ins k,xs.set j v)) else if j = xs.length then some (h.put n (.ins k,xs ++ [v])) else none) else none) = some h':=e'
        by_cases hk:k' = k
        · rw [if_pos hk] at e2
          subst hk
          obtain ⟨p,us,e1,⟨n1,a',dx,m,eH⟩,l⟩:=S.cell n _ xs hg
          obtain ⟨p',ep,eu⟩:=r
          rw [e1] at ep
          cases ep
          have:a' = a:=by
            have:=F.mg.symm.trans m
            cases this; rfl
          subst this
          refine ⟨p,dx,_,eu,eH,?_,?_⟩
          · rw [List.length_zip]
            have:=F.few
            omega
          · by_cases hlt:j < xs.length
            · rw [if_pos hlt] at e2
              cases e2
              rw [putF_set _ us j fn y F.nd hj (by rw [← l.len]; exact hlt)]
              exact S.write hg e1 (show NodeM c _ p (.ins k') (us.set j y) from ⟨by rw [List.length_set]; exact n1,a',dx,m,upd_same⟩) (l.set j q)
            · rw [if_neg hlt] at e2
              by_cases heq:j = xs.length
              · rw [if_pos heq] at e2
                cases e2
                have hj':(c.cl k').2[us.length]? = some fn:=by rw [← l.len,← heq]; exact hj
                rw [putF_new _ us fn y F.nd hj']
                refine S.write hg e1 (show NodeM c _ p (.ins k') (us ++ [y]) from ⟨?_,a',dx,m,upd_same⟩) (l.append (.cons q .nil))
                have:=(List.getElem?_eq_some_iff.mp hj').1
                rw [List.length_append,List.length_singleton]
                omega
              · rw [if_neg heq] at e2; cases e2
        · rw [if_neg hk] at e2; cases e2
      | _=>cases e'
  | _=>cases e
def aAsg (fe:AE) (g:AG):AS:=fun s h=>(fe s h).bind fun r=>(g r.1 s r.2).bind fun q=>some (.nx q.1,q.2)
theorem tAsg_of {c:Ct} {D:Ends} {σ:L2.St} {H:Hp} (q:tS c (aAsg fe g) D σ H):tAsg (tA c fe) (tG c g) D σ H:=by
  obtain ⟨w,s,h,r,h',rs,sr,e,k⟩:=q
  obtain ⟨⟨x,h1⟩,e1,e⟩:=bind_some e
  obtain ⟨⟨s2,h2⟩,e2,e⟩:=bind_some e
  cases e
  exact ⟨w,s,h,x,h1,rs,sr,e1,fun w1 H1 u t1 s1 r1=>⟨w1,x,s,h1,s2,h2,r1,rs.le t1.le,s1,e2,fun w2 H2 σ2 t2 sr2 rs2=>k w2 H2 (t1.trans t2) sr2 σ2 rs2⟩⟩
theorem as_asg (he:PE X e (tA (ctX X cl) fe)) (hg:PG X tg (tG (ctX X cl) g)) (hs:swapsWithSole [tg] e pos.line X.env = pure false:=by rfl) (hw:swappedStores [tg] e X.env = pure none:=by rfl)
    (h1:(assignEach [tg] X.env).map (·.2) = [assign tg X.env]:=by rfl):PS X (.Assign [tg] e pos) (tS (ctX X cl) (aAsg fe g)):=(ps_asg he hg hs hw h1).wk fun _ _ _ q=>tAsg_of q
theorem as_set {x:Str} (i:Nat) (hN:X.N.Nodup) (he:PE X e (tA (ctX X cl) fe)) (hi:X.N[i]? = some x:=by rfl) (hx:Loc X.env.scope x:=by first | exact Or.inl rfl | exact Or.inr rfl) (hs:swapsWith e (some (.Name x pos')) pos.line X.env = pure false:=by rfl) (hf:X.fn x = true ∨ X.env.scope.names.lookup x = some .local:=by first | exact .inl rfl | exact .inr rfl | assumption) :
    PS X (.Assign [.Name x pos'] e pos) (tS (ctX X cl) (aAsg fe (gNm i))):=by
  refine (ps_set hN hi hx he hs hf).wk fun D σ H q=>?_
  have:=tAsg_of q
  obtain ⟨w,s,h,v,h',rs,sr,e,k⟩:=this
  refine ⟨w,s,h,v,h',rs,sr,e,fun w1 H1 u t1 s1 r1=>?_⟩
  obtain ⟨w2,a,s2,h2,s3,h3,ra,rs2,sr2,e2,k2⟩:=k w1 H1 u t1 s1 r1
  cases e2
  exact k2 w2 H1 _ (.refl _ _ _) sr2 (rs2.set i ra)
def aSetF (fe:AE) (k j:Nat) (fo:AE):AS:=fun s h=>(fe s h).bind fun r=>(fo s r.2).bind fun o=>(setFld k j o.1 r.1 o.2).bind fun h' => some (.nx s,h')
theorem as_setF {fn:Str} {k j:Nat} {a:Addr} (F:ClsF (ctX X cl) k a) (hj:(cl k).2[j]? = some fn) (he:PE X e (tA (ctX X cl) fe)) (ho:PE X o (tA (ctX X cl) fo)) (hs:swapsWith e (some (.Attribute o fn pos')) pos.line X.env = pure false:=by rfl) :
    PS X (.Assign [.Attribute o fn pos'] e pos) (tS (ctX X cl) (aSetF fe k j fo)):=by
  refine (ps_fld ho he hs).wk fun D σ H q=>?_
  obtain ⟨w,s,h,r,h',rs,sr,e,kk⟩:=q
  obtain ⟨⟨x,h1⟩,e1,e⟩:=bind_some e
  obtain ⟨⟨y,h2⟩,e2,e⟩:=bind_some e
  obtain ⟨h3,e3,e⟩:=bind_some e
  cases e
  refine ⟨w,s,h,x,h1,rs,sr,e1,fun w1 H1 u1 t1 s1 r1=>⟨w1,s,h1,y,h2,rs.le t1.le,s1,e2,fun w2 H2 u2 t2 s2 r2=>?_⟩⟩
  obtain ⟨p,dx,fs,rfl,eH,hl,s3,t3⟩:=setFld_ok F hj s2 r2 (RepV.le t2.le _ _ r1) e3
  exact ⟨p,a,dx,fs,rfl,eH,F.cls,F.no fn (List.mem_of_getElem? hj),hl,kk w2 _ (t1.trans (t2.trans t3)) s3 σ (rs.le (t1.trans t2).le)⟩
end
end Rp
end
section
namespace Rp
open PySem PySem.Spec PyProof.Rows L2
theorem upd_id {H:Hp} {p:Addr} {o:HO} (e:H p = some o):upd H p o = H:=by
  funext a
  by_cases h:a = p
  · rw [h,upd_same,e]
  · rw [upd_ne h]
def mapO (f:AV → AH → Option (AV × AH)):List AV → AH → Option (List AV × AH)
  | [],h=>some ([],h)
  | x :: xs,h=>(f x h).bind fun r=>(mapO f xs r.2).bind fun q=>some (r.1 :: q.1,q.2)
def frz1 (a:AV) (h:AH):Option (AV × AH):=match a with
  | .ref m=>match h.get m with
    | some (k,xs)=>if k.lk = false then some (.nod k xs,h.del m) else none
    | none=>none
  | x=>some (x,h)
def frzV:Nat → AV → AH → Option (AV × AH)
  | 0,a,h=>some (a,h)
  | n + 1,a,h=>(frz1 a h).bind fun r=>match r.1 with
    | .nod k xs=>(mapO (frzV n) xs r.2).bind fun q=>some (.nod k q.1,q.2)
    | x=>some (x,r.2)
section
variable {X:Cx} {cl:Nat → Str × List Str} {pins:List (Addr × Obj)} {σ:L2.St} {s:Shared}
theorem frz1_ok {a a':AV} {h h':AH} {w:Wd} {H:Hp} {u:V} (e:frz1 a h = some (a',h')) (I:Inv X pins σ H s) (S:SR (ctX X cl) w H h) (r:RepV (ctX X cl) w a u) :
    ∃ w' H',Inv X pins σ H' s ∧ SR (ctX X cl) w' H' h' ∧ Tr w H h w' H' h' ∧ RepV (ctX X cl) w' a' u:=by
  cases a with
  | ref m =>
    cases hg:h.get m with
    | none =>
      have e':(match h.get m with
        | some (k,xs)=>if k.lk = false then some (AV.nod k xs,h.del m) else none
        | none=>none) = some (a',h'):=e
      rw [hg] at e'; cases e'
    | some z =>
      obtain ⟨k,xs⟩:=z
      have e':(match h.get m with
        | some (k,xs)=>if k.lk = false then some (AV.nod k xs,h.del m) else none
        | none=>none) = some (a',h'):=e
      rw [hg] at e'
      have e2:(if k.lk = false then some (AV.nod k xs,h.del m) else none) = some (a',h'):=e'
      by_cases hk:k.lk = false
      · rw [if_pos hk] at e2
        cases e2
        obtain ⟨p,us,ep,nm,l⟩:=S.cell m k xs hg
        obtain ⟨p',ep',eu⟩:=r
        rw [ep] at ep'
        cases ep'
        have go:∀ o,Inv X pins σ (upd H p o) s → (∀ R:Hp,R p = some o → NodeR (ctX X cl) R p k us) → ∃ w' H',Inv X pins σ H' s ∧ SR (ctX X cl) w' H' (h.del m) ∧ Tr w H h w' H' (h.del m) ∧ RepV (ctX X cl) w' (.nod k xs) u:=fun o I' hn=>by
          obtain ⟨S',T'⟩:=S.freeze (o:=o) hg ep hk
          exact ⟨_,_,I',S',T',p,us,eu,hn _ upd_same,RepL.le T'.le _ _ l⟩
        cases k with
        | tup=>exact nm.elim
        | scr=>exact nm.elim
        | tab ks=>exact nm.elim
        | cod P q=>cases hk
        | ldct ks=>cases hk
        | lst =>
          have nm':H p = some (.lst us):=nm
          refine go (.lst us) ?_ fun R e=>e
          rw [upd_id nm']; exact I
        | dct ks =>
          obtain ⟨hl,nm'⟩:=nm
          obtain ⟨od,I'⟩:=I.lock nm' trivial
          exact go _ I' fun R e=>⟨hl,od,e⟩
        | ins c =>
          obtain ⟨hl,a0,dx,hm,nm'⟩:=nm
          refine go (.ins a0 dx ((cl c).2.zip us)) ?_ fun R e=>⟨hl,a0,dx,hm,e⟩
          rw [upd_id nm']; exact I
      · rw [if_neg hk] at e2; cases e2
  | _=>cases e; exact ⟨w,H,I,S,.refl _ _ _,r⟩
theorem frzV_ok:∀ (n:Nat) {a a':AV} {h h':AH} {w:Wd} {H:Hp} {u:V},frzV n a h = some (a',h') → Inv X pins σ H s → SR (ctX X cl) w H h → RepV (ctX X cl) w a u →
    ∃ w' H',Inv X pins σ H' s ∧ SR (ctX X cl) w' H' h' ∧ Tr w H h w' H' h' ∧ RepV (ctX X cl) w' a' u
  | 0,a,a',h,h',w,H,u,e,I,S,r=>by cases e; exact ⟨w,H,I,S,.refl _ _ _,r⟩
  | n + 1,a,a',h,h',w,H,u,e,I,S,r=>by
    have lst:∀ {xs ys:List AV} {h h':AH} {w:Wd} {H:Hp} {us:List V},mapO (frzV n) xs h = some (ys,h') → Inv X pins σ H s → SR (ctX X cl) w H h → RepL (ctX X cl) w xs us →
        ∃ w' H',Inv X pins σ H' s ∧ SR (ctX X cl) w' H' h' ∧ Tr w H h w' H' h' ∧ RepL (ctX X cl) w' ys us:=by
      intro xs
      induction xs with
      | nil =>
        intro ys h h' w H us e I S r
        cases e
        exact ⟨w,H,I,S,.refl _ _ _,r⟩
      | cons x xs ih =>
        intro ys h h' w H us e I S r
        obtain ⟨⟨x',h1⟩,e1,e⟩:=bind_some e
        obtain ⟨⟨xs',h2⟩,e2,e⟩:=bind_some e
        cases e
        obtain ⟨u,us',rfl,r1,r2⟩:=r
        obtain ⟨w1,H1,I1,S1,T1,q1⟩:=frzV_ok n e1 I S r1
        obtain ⟨w2,H2,I2,S2,T2,q2⟩:=ih e2 I1 S1 (RepL.le T1.le _ _ r2)
        exact ⟨w2,H2,I2,S2,T1.trans T2,RepL.cons (RepV.le T2.le _ _ q1) q2⟩
    obtain ⟨⟨a1,h1⟩,e1,e⟩:=bind_some e
    obtain ⟨w1,H1,I1,S1,T1,q1⟩:=frz1_ok e1 I S r
    cases a1 with
    | nod k xs =>
      obtain ⟨⟨ys,h2⟩,e2,e⟩:=bind_some e
      cases e
      obtain ⟨p,us,rfl,nr,l⟩:=q1
      obtain ⟨w2,H2,I2,S2,T2,q2⟩:=lst e2 I1 S1 l
      exact ⟨w2,H2,I2,S2,T1.trans T2,p,us,rfl,nr.le T2.le.rr,q2⟩
    | _=>cases e; exact ⟨w1,H1,I1,S1,T1,q1⟩
def aFrz (k:Nat) (f:AE):AE:=fun s h=>(f s h).bind fun r=>frzV k r.1 r.2
theorem ae_frz {e:Expr} {f:AE} (k:Nat) (he:PE X e (tA (ctX X cl) f)):PE X e (tA (ctX X cl) (aFrz k f)):=by
  refine ⟨fun pins s σ H Q I q=>?_⟩
  obtain ⟨w,sl,h,v,h',rs,sr,e,kk⟩:=q
  obtain ⟨⟨v1,h1⟩,e1,e2⟩:=bind_some e
  refine thn (he.run pins s σ H (fun u H1=>∃ w1,SR (ctX X cl) w1 H1 h1 ∧ Tr w H h w1 H1 h1 ∧ RepV (ctX X cl) w1 v1 u) I ⟨w,sl,h,v1,h1,rs,sr,e1,fun w1 H1 u t1 s1 r1=>⟨w1,s1,t1,r1⟩⟩) fun v s1 ⟨x,H1,I1,r1,q1⟩=>?_
  obtain ⟨w1,S1,T1,R1⟩:=q1
  obtain ⟨w2,H2,I2,S2,T2,R2⟩:=frzV_ok k e2 I1 S1 R1
  exact ⟨x,H2,I2,r1,kk w2 H2 x (T1.trans T2) S2 R2⟩
end
def aLockG {α:Type} (k:LS → AH → Option Nat) (f:LS → AH → Option (α × AH)):LS → AH → Option (α × AH):=fun s h=>(k s h).bind fun n=>match h.get n with
  | some (.dct ks,xs)=>(f s (h.put n (.ldct ks,xs))).bind fun r=>match r.2.get n with
    | some (.ldct _,_)=>some (r.1,r.2.put n (.dct ks,xs))
    | _=>none
  | _=>none
theorem aLockG_inv {α:Type} {k:LS → AH → Option Nat} {f:LS → AH → Option (α × AH)} {s:LS} {h h':AH} {r:α} (e:aLockG k f s h = some (r,h')) :
    ∃ n ks xs h1 js ys,h.get n = some (.dct ks,xs) ∧ f s (h.put n (.ldct ks,xs)) = some (r,h1) ∧ h1.get n = some (.ldct js,ys) ∧ h' = h1.put n (.dct ks,xs):=by
  obtain ⟨n,_,e⟩:=bind_some e
  cases hg:h.get n with
  | none=>rw [hg] at e; cases e
  | some z =>
    obtain ⟨kd,xs⟩:=z
    rw [hg] at e
    cases kd with
    | dct ks =>
      have e':(f s (h.put n (.ldct ks,xs))).bind (fun r=>match r.2.get n with
        | some (.ldct _,_)=>some (r.1,r.2.put n (.dct ks,xs))
        | _=>none) = some (r,h'):=e
      obtain ⟨⟨r1,h1⟩,e1,e⟩:=bind_some e'
      cases hg1:h1.get n with
      | none =>
        have e2:(match h1.get n with
          | some (.ldct _,_)=>some (r1,h1.put n (.dct ks,xs))
          | _=>none) = some (r,h'):=e
        rw [hg1] at e2; cases e2
      | some z =>
        obtain ⟨kd,ys⟩:=z
        have e2:(match h1.get n with
          | some (.ldct _,_)=>some (r1,h1.put n (.dct ks,xs))
          | _=>none) = some (r,h'):=e
        rw [hg1] at e2
        cases kd with
        | ldct js=>cases e2; exact ⟨n,ks,xs,h1,js,ys,hg,e1,hg1,rfl⟩
        | _=>cases e2
    | _=>cases e
section
variable {c:Ct} {w:Wd} {H:Hp} {h:AH}
theorem SR.lockA (S:SR c w H h) {n:Nat} {ks:List Key} {xs:List AV} (hg:h.get n = some (.dct ks,xs)):∃ p us,w.i n = some p ∧ ks.length = us.length ∧ H p = some (.dK (ks.zip us)) ∧ RepL c w xs us ∧
    ∀ od,SR c w (upd H p (.frz od (.dK (ks.zip us)))) (h.put n (.ldct ks,xs)):=by
  obtain ⟨p,us,ep,⟨hl,nm⟩,l⟩:=S.cell n _ xs hg
  exact ⟨p,us,ep,hl,nm,l,fun od=>(S.write (o:=.frz od (.dK (ks.zip us))) (k:=.ldct ks) hg ep (us:=us) ⟨hl,od,upd_same⟩ l).1⟩
theorem unlockA (S:SR c w H h) {n:Nat} {p:Addr} {ks js:List Key} {xs ys:List AV} {us:List V} {od:Obj} {w2:Wd} {H2:Hp} {h2:AH} (hg:h.get n = some (.dct ks,xs)) (ep:w.i n = some p) (hl:ks.length = us.length) (l:RepL c w xs us)
    (eH:H p = some (.dK (ks.zip us))) (T:Tr w (upd H p (.frz od (.dK (ks.zip us)))) (h.put n (.ldct ks,xs)) w2 H2 h2) (S2:SR c w2 H2 h2) (hg2:h2.get n = some (.ldct js,ys)) :
    H2 p = some (.frz od (.dK (ks.zip us))) ∧ SR c w2 (upd H2 p (.dK (ks.zip us))) (h2.put n (.dct ks,xs)) ∧ Tr w H h w2 (upd H2 p (.dK (ks.zip us))) (h2.put n (.dct ks,xs)):=by
  have l0:(h.get n).isSome = true:=by rw [hg]; rfl
  have l2:(h2.get n).isSome = true:=by rw [hg2]; rfl
  have ep2:w2.i n = some p:=T.le.ii n p ep
  have eH2:H2 p = some (.frz od (.dK (ks.zip us))):=T.fz p _ _ upd_same
  have rp:w2.R p = none:=S2.sep n p l2 ep2
  have live:∀ m,((h2.put n (.dct ks,xs)).get m).isSome = (h2.get m).isSome:=fun m=>by
    rw [AH.get_put hg2]
    by_cases hm:m = n
    · rw [if_pos hm,hm,hg2]; rfl
    · rw [if_neg hm]
  have old:∀ a,Own w (h.put n (.ldct ks,xs)) a → Own w h a:=fun a q=>by
    rcases q with q | ⟨m,l,e⟩
    · exact .inl q
    · refine .inr ⟨m,?_,e⟩
      rw [AH.get_put hg] at l
      by_cases hm:m = n
      · rw [hm]; exact l0
      · rw [if_neg hm] at l; exact l
  refine ⟨eH2,⟨fun a z e=>?_,fun m k' xs' e=>?_,fun m m' q l1 l2 e1 e2=>?_,fun m q l e=>?_,fun m q e=>?_⟩,T.le,fun a z e nn=>?_,fun a q=>?_,fun a e=>?_,fun a z v e=>?_⟩
  · have e':w2.R a = some z:=e
    rw [upd_ne (ne_of_none e' rp)]; exact S2.le a z e'
  · rw [AH.get_put hg2] at e
    by_cases hm:m = n
    · rw [if_pos hm] at e
      cases e
      subst hm
      exact ⟨p,us,ep2,⟨hl,upd_same⟩,RepL.le T.le _ _ l⟩
    · rw [if_neg hm] at e
      obtain ⟨q,vs,e1,nm1,r1⟩:=S2.cell m k' xs' e
      have hq:q ≠ p:=fun z=>hm (S2.inj m n p (by rw [e]; rfl) l2 (z ▸ e1) ep2)
      exact ⟨q,vs,e1,nm1.at (upd_ne hq) (fun b φ z=>by
        by_cases y:b = p
        · rw [y,eH2] at z; cases z
        · rw [upd_ne y]; exact z),r1⟩
  · rw [live] at l1 l2; exact S2.inj m m' q l1 l2 e1 e2
  · rw [live] at l; exact S2.sep m q l e
  · rw [AH.next_put]; exact S2.nx m q e
  · have hap:a ≠ p:=fun q=>nn (.inr ⟨n,l0,by rw [q]; exact ep⟩)
    rw [upd_ne hap]
    exact T.fr a z (by rw [upd_ne hap]; exact e) fun q=>nn (old a q)
  · have q2:Own w2 h2 a:=by
      rcases q with q | ⟨m,l,e⟩
      · exact .inl q
      · rw [live] at l; exact .inr ⟨m,l,e⟩
    rcases T.nw a q2 with z | z
    · exact .inl (old a z)
    · by_cases hap:a = p
      · rw [hap,upd_same] at z; cases z
      · rw [upd_ne hap] at z; exact .inr z
  · by_cases hap:a = p
    · rw [hap,upd_same]; exact nofun
    · rw [upd_ne hap]
      exact T.st a (by rw [upd_ne hap]; exact e)
  · have hap:a ≠ p:=fun q=>by rw [q,eH] at e; cases e
    rw [upd_ne hap]
    exact T.fz a z v (by rw [upd_ne hap]; exact e)
end
section
variable {X:Cx} {cl:Nat → Str × List Str}
theorem as_lock {st:Stmt} {f:AS} (k:LS → AH → Option Nat) (hf:PS X st (tS (ctX X cl) f)):PS X st (tS (ctX X cl) (aLockG k f)):=by
  refine ⟨fun pins s σ H D I q=>?_⟩
  obtain ⟨w,sl,h,r,h',rs,sr,e,kk⟩:=q
  obtain ⟨n,ks,xs,h1,js,ys,hg,e1,hg1,rfl⟩:=aLockG_inv e
  obtain ⟨p,us,ep,hl,eH,l,S1⟩:=sr.lockA hg
  obtain ⟨od,I1⟩:=I.lock eH trivial
  have hn:=I.nofrz eH trivial
  let G (P:Wd → Prop) (H2:Hp):Prop:=∃ w2,Tr w (upd H p (.frz od (.dK (ks.zip us)))) (h.put n (.ldct ks,xs)) w2 H2 h1 ∧ SR (ctX X cl) w2 H2 h1 ∧ P w2
  have fin:∀ {σ2:L2.St} {H2:Hp} {s2:Shared} {P:Wd → Prop},Inv X pins σ2 H2 s2 → G P H2 → ∃ w2 w3 H3,P w2 ∧ WLe w2 w3 ∧ Inv X pins σ2 H3 s2 ∧ Tr w H h w3 H3 (h1.put n (.dct ks,xs)) ∧ SR (ctX X cl) w3 H3 (h1.put n (.dct ks,xs)) ∧ (∀ z,WLe w3 z → WLe w2 z):=by
    rintro σ2 H2 s2 P I2 ⟨w2,T2,S2,p2⟩
    obtain ⟨eH2,S3,T3⟩:=unlockA sr hg ep hl l eH T2 S2 hg1
    exact ⟨w2,w2,_,p2,.refl w2,I2.unlock eH2 hn,T3,S3,fun z q=>q⟩
  have back:∀ {w2 w3:Wd} {s':LS} {σ':L2.St},WLe w2 w3 → RepS (ctX X cl) w2 s' σ' → RepS (ctX X cl) w3 s' σ':=fun q r=>r.le q
  cases r with
  | nx s' =>
    refine thn (hf.run pins s σ _ ⟨fun σ2 H2=>G (fun w2=>RepS (ctX X cl) w2 s' σ2) H2,fun _ _=>False,fun _ _=>False,fun _ _=>False⟩ I1 ⟨_,sl,_,.nx s',h1,rs,S1 od,e1,fun w2 H2 t2 s2 σ2 r2=>⟨w2,t2,s2,r2⟩⟩) fun fl s1 q=>?_
    cases fl with
    | next =>
      obtain ⟨σ2,H2,I2,g⟩:=q
      obtain ⟨w2,w3,H3,r2,le,I3,T3,S3,_⟩:=fin I2 g
      exact ⟨σ2,H3,I3,kk w3 H3 T3 S3 σ2 (r2.le le)⟩
    | brk=>obtain ⟨σ2,H2,I2,g⟩:=q; exact g.elim
    | cont=>obtain ⟨σ2,H2,I2,g⟩:=q; exact g.elim
    | ret v=>obtain ⟨x,σ2,H2,I2,r2,g⟩:=q; exact g.elim
  | bk s' =>
    refine thn (hf.run pins s σ _ ⟨fun _ _=>False,fun _ _=>False,fun σ2 H2=>G (fun w2=>RepS (ctX X cl) w2 s' σ2) H2,fun _ _=>False⟩ I1 ⟨_,sl,_,.bk s',h1,rs,S1 od,e1,fun w2 H2 t2 s2 σ2 r2=>⟨w2,t2,s2,r2⟩⟩) fun fl s1 q=>?_
    cases fl with
    | brk =>
      obtain ⟨σ2,H2,I2,g⟩:=q
      obtain ⟨w2,w3,H3,r2,le,I3,T3,S3,_⟩:=fin I2 g
      exact ⟨σ2,H3,I3,kk w3 H3 T3 S3 σ2 (r2.le le)⟩
    | next=>obtain ⟨σ2,H2,I2,g⟩:=q; exact g.elim
    | cont=>obtain ⟨σ2,H2,I2,g⟩:=q; exact g.elim
    | ret v=>obtain ⟨x,σ2,H2,I2,r2,g⟩:=q; exact g.elim
  | ct s' =>
    refine thn (hf.run pins s σ _ ⟨fun _ _=>False,fun _ _=>False,fun _ _=>False,fun σ2 H2=>G (fun w2=>RepS (ctX X cl) w2 s' σ2) H2⟩ I1 ⟨_,sl,_,.ct s',h1,rs,S1 od,e1,fun w2 H2 t2 s2 σ2 r2=>⟨w2,t2,s2,r2⟩⟩) fun fl s1 q=>?_
    cases fl with
    | cont =>
      obtain ⟨σ2,H2,I2,g⟩:=q
      obtain ⟨w2,w3,H3,r2,le,I3,T3,S3,_⟩:=fin I2 g
      exact ⟨σ2,H3,I3,kk w3 H3 T3 S3 σ2 (r2.le le)⟩
    | next=>obtain ⟨σ2,H2,I2,g⟩:=q; exact g.elim
    | brk=>obtain ⟨σ2,H2,I2,g⟩:=q; exact g.elim
    | ret v=>obtain ⟨x,σ2,H2,I2,r2,g⟩:=q; exact g.elim
  | rt v' =>
    refine thn (hf.run pins s σ _ ⟨fun _ _=>False,fun u H2=>G (fun w2=>RepV (ctX X cl) w2 v' u) H2,fun _ _=>False,fun _ _=>False⟩ I1 ⟨_,sl,_,.rt v',h1,rs,S1 od,e1,fun w2 H2 t2 s2 u r2=>⟨w2,t2,s2,r2⟩⟩) fun fl s1 q=>?_
    cases fl with
    | ret v =>
      obtain ⟨x,σ2,H2,I2,r1,g⟩:=q
      obtain ⟨w2,w3,H3,r2,le,I3,T3,S3,_⟩:=fin I2 g
      exact ⟨x,σ2,H3,I3,r1,kk w3 H3 T3 S3 x (RepV.le le _ _ r2)⟩
    | next=>obtain ⟨σ2,H2,I2,g⟩:=q; exact g.elim
    | brk=>obtain ⟨σ2,H2,I2,g⟩:=q; exact g.elim
    | cont=>obtain ⟨σ2,H2,I2,g⟩:=q; exact g.elim
end
end Rp
end
section
namespace Rp
open PySem PySem.Spec PyProof.Rows L2
abbrev Grd:=List (Nat × List AV)
def chk (G:Grd) (h:AH):Bool:=G.all fun p=>decide (h.get p.1 = some (.lst,p.2))
abbrev ASrc:=LS → AH → Option ((List AV × Grd) × AH)
def ItOk (c:Ct) (w0:Wd) (H0:Hp) (J:It) (xs:List AV) (G:Grd):Prop:=∀ w H h i,WLe w0 w → (∀ a o u,H0 a = some (.frz o u) → H a = some (.frz o u)) → SR c w H h → chk G h = true →
  (∀ x,xs[i]? = some x → J.go i H ∧ ∀ v H',J.yld i H v H' → ∃ w',Tr w H h w' H' h ∧ SR c w' H' h ∧ RepV c w' x v) ∧ (xs.length ≤ i → J.stop i H)
def tI (c:Ct) (f:ASrc):TI:=fun σ H R=>∃ w s h xs G h',RepS c w s σ ∧ SR c w H h ∧ f s h = some ((xs,G),h') ∧ ∀ w' H' J,Tr w H h w' H' h' → SR c w' H' h' → ItOk c w' H' J xs G → R J H'
theorem _root_.L2.PI.wk {X:Cx} {tg e:Expr} {t t':TI} (h:PI X tg e t) (hh:∀ σ H R,t' σ H R → t σ H R):PI X tg e t':=⟨fun pins s σ H R I q=>h.run pins s σ H R I (hh _ _ _ q)⟩
theorem pi_or {X:Cx} {tg e:Expr} {t t':TI} (h:PI X tg e t) (h':PI X tg e t'):PI X tg e (fun σ H R=>t σ H R ∨ t' σ H R):=⟨fun pins s σ H R I q=>by
  rcases q with q | q
  · exact h.run pins s σ H R I q
  · exact h'.run pins s σ H R I q⟩
def grdOf (a:AV) (xs:List AV):Grd:=match a with
  | .ref n=>[(n,xs)]
  | _=>[]
def srcL (a:AV) (h:AH):Option (List AV × Grd):=match look h a with
  | some (.lst,xs)=>some (xs,grdOf a xs)
  | some (.scr,xs)=>some (xs,[])
  | _=>none
def srcT (a:AV) (h:AH):Option (List AV × Grd):=match look h a with
  | some (.tup,xs)=>some (xs,[])
  | _=>none
def chars (x:Str):List AV:=x.cps.toList.map fun c=>.str ⟨#[c]⟩
def srcS (a:AV):Option (List AV × Grd):=match a with
  | .str x=>some (chars x,[])
  | _=>none
def srcK (a:AV) (h:AH):Option (List AV × Grd):=match a,look h a with
  | .nod _ _,some (.dct ks,_)=>some (ks.map keyA,[])
  | .ref _,some (.ldct ks,_)=>some (ks.map keyA,[])
  | _,_=>none
def srcV (a:AV) (h:AH):Option (List AV × Grd):=orO (srcL a h) (orO (srcT a h) (orO (srcS a) (srcK a h)))
def sVal (f:AE):ASrc:=fun s h=>(f s h).bind fun r=>(srcV r.1 r.2).bind fun q=>some (q,r.2)
theorem look_scr {h:AH} {a:AV} {xs:List AV} {c:Ct} {w:Wd} {H:Hp} (S:SR c w H h) (e:look h a = some (.scr,xs)):∃ z,a = .nod .scr z ∧ z = xs:=by
  cases a with
  | nod k z=>cases e; exact ⟨_,rfl,rfl⟩
  | ref n =>
    obtain ⟨p,us,e1,nm,_⟩:=S.cell n _ _ e
    exact nm.elim
  | _=>cases e
theorem look_tup {h:AH} {a:AV} {xs:List AV} {c:Ct} {w:Wd} {H:Hp} (S:SR c w H h) (e:look h a = some (.tup,xs)):∃ z,a = .nod .tup z ∧ z = xs:=by
  cases a with
  | nod k z=>cases e; exact ⟨_,rfl,rfl⟩
  | ref n =>
    obtain ⟨p,us,e1,nm,_⟩:=S.cell n _ _ e
    exact nm.elim
  | _=>cases e
theorem list_still {c:Ct} {w0 w:Wd} {H:Hp} {h0 h:AH} {a:AV} {u:V} {xs:List AV} {G:Grd} (e:srcL a h0 = some (xs,G)) (r:RepV c w0 a u) (le:WLe w0 w) (S:SR c w H h) (S0:∃ H0,SR c w0 H0 h0) (ck:chk G h = true) :
    ∃ p us,u = .ref p ∧ SqL c.K H p us ∧ RepL c w xs us:=by
  unfold srcL at e
  split at e
  · rename_i ys hl
    cases e
    cases a with
    | nod k z =>
      cases hl
      obtain ⟨p,us,e1,n,l⟩:=r
      exact ⟨p,us,e1,SqL.of (S.le _ _ (le.rr _ _ n)),RepL.le le _ _ l⟩
    | ref n =>
      have hg:h.get n = some (.lst,xs):=by
        have:(decide (h.get n = some (.lst,xs)) && true) = true:=ck
        simpa using this
      obtain ⟨p,us,e1,nm,l⟩:=S.cell n _ _ hg
      obtain ⟨p',e2,e3⟩:=r
      have:=le.ii _ _ e2
      rw [e1] at this
      cases this
      exact ⟨p,us,e3,SqL.of nm,l⟩
    | _=>cases hl
  · rename_i ys hl
    cases e
    obtain ⟨H0,S0⟩:=S0
    obtain ⟨z,rfl,rfl⟩:=look_scr S0 hl
    obtain ⟨p,us,e1,n,l⟩:=r
    exact ⟨p,us,e1,SqL.le S.le (SqL.le le.rr n),RepL.le le _ _ l⟩
  · cases e
theorem itok_list {c:Ct} {w0:Wd} {H0:Hp} {h0:AH} {a:AV} {p:Addr} {xs:List AV} {G:Grd} (e:srcL a h0 = some (xs,G)) (r:RepV c w0 a (.ref p)) (S0:SR c w0 H0 h0):ItOk c w0 H0 (Itl c.K p) xs G:=by
  intro w H h i le fz S ck
  obtain ⟨p',us,e1,q,l⟩:=list_still e r le S ⟨_,S0⟩ ck
  cases e1
  refine ⟨fun x hx=>?_,fun hi=>⟨us,q,by rw [← l.len]; exact hi⟩⟩
  obtain ⟨u,hu,ru⟩:=l.get hx
  refine ⟨⟨us,u,q,hu⟩,fun v H' y=>?_⟩
  obtain ⟨e2,y⟩:=y
  subst e2
  have:=y us q
  rw [hu] at this
  cases this
  exact ⟨w,.refl _ _ _,S,ru⟩
theorem itok_tup {c:Ct} {w0:Wd} {H0:Hp} {h0:AH} {a:AV} {p:Addr} {xs:List AV} {G:Grd} (e:srcT a h0 = some (xs,G)) (r:RepV c w0 a (.ref p)) (S0:SR c w0 H0 h0):(∃ us,SqT c.K H0 p us) ∧ ItOk c w0 H0 (Itt c.K p) xs G:=by
  unfold srcT at e
  split at e
  · rename_i ys hl
    cases e
    obtain ⟨z,rfl,rfl⟩:=look_tup S0 hl
    obtain ⟨p',us,e1,n,l⟩:=r
    cases e1
    refine ⟨⟨us,SqT.le S0.le n⟩,fun w H h i le fz S ck=>?_⟩
    have q:SqT c.K H p us:=SqT.le S.le (SqT.le le.rr n)
    have l:=RepL.le le _ _ l
    refine ⟨fun x hx=>?_,fun hi=>⟨us,q,by rw [← l.len]; exact hi⟩⟩
    obtain ⟨u,hu,ru⟩:=l.get hx
    refine ⟨⟨us,u,q,hu⟩,fun v H' y=>?_⟩
    obtain ⟨e2,y⟩:=y
    subst e2
    have:=y us q
    rw [hu] at this
    cases this
    exact ⟨w,.refl _ _ _,S,ru⟩
  · cases e
theorem chars_get (x:Str) (i:Nat):(chars x)[i]? = (x.cps[i]?).map fun c=>AV.str ⟨#[c]⟩:=by
  unfold chars
  rw [List.getElem?_map,Array.getElem?_toList]
theorem itok_str {c:Ct} {w0:Wd} {H0:Hp} (x:Str):ItOk c w0 H0 (Its x) (chars x) []:=by
  intro w H h i le fz S ck
  refine ⟨fun y hy=>?_,fun hi=>by
    show x.cps.size ≤ i
    simpa [chars] using hi⟩
  rw [chars_get] at hy
  cases q:x.cps[i]? with
  | none=>rw [q] at hy; cases hy
  | some z =>
    rw [q] at hy
    cases hy
    refine ⟨(Array.getElem?_eq_some_iff.mp q).1,fun v H' y=>?_⟩
    obtain ⟨e2,c',e3,e4⟩:=y
    subst e2 e4
    rw [q] at e3
    cases e3
    exact ⟨w,.refl _ _ _,S,rfl⟩
theorem itok_keys {c:Ct} {w0:Wd} {H0:Hp} {d:Addr} {o:Obj} {ks:List Key} {us:List V} (hl:ks.length = us.length) (e:H0 d = some (.frz o (.dK (ks.zip us)))):ItOk c w0 H0 (Itk d o (ks.zip us)) (ks.map keyA) []:=by
  intro w H h i le fz S ck
  have q:=fz d o _ e
  have hlen:(ks.zip us).length = ks.length:=by rw [List.length_zip,← hl,Nat.min_self]
  refine ⟨fun x hx=>?_,fun hi=>⟨q,by rw [hlen]; simpa using hi⟩⟩
  rw [List.getElem?_map] at hx
  cases hk:ks[i]? with
  | none=>rw [hk] at hx; cases hx
  | some k =>
    rw [hk] at hx
    cases hx
    refine ⟨⟨q,by rw [hlen]; exact (List.getElem?_eq_some_iff.mp hk).1⟩,fun v H' y=>?_⟩
    obtain ⟨e2,k',v',e3,e4⟩:=y
    subst e2 e4
    have:ks[i]? = some k':=by
      have:=congrArg (Option.map Prod.fst) e3
      rw [← List.getElem?_map,List.map_fst_zip (by omega)] at this
      exact this
    rw [hk] at this
    cases this
    refine ⟨w,.refl _ _ _,S,?_⟩
    cases k with
    | inl i=>rfl
    | inr z=>rfl
section
variable {X:Cx} {cl:Nat → Str × List Str} {tg e:Expr} {f:AE}
theorem ai_val (he:PE X e (tA (ctX X cl) f)):PI X tg e (tI (ctX X cl) (sVal f)):=by
  refine (pi_or (pi_list he) (pi_or (pi_tup he) (pi_or (pi_str he) (pi_keys he)))).wk fun σ H R q=>?_
  obtain ⟨w,s,h,xs,G,h',rs,sr,e,k⟩:=q
  obtain ⟨⟨v,h1⟩,e1,e⟩:=bind_some e
  obtain ⟨⟨xs',G'⟩,e2,e⟩:=bind_some e
  cases e
  have e2':orO (srcL v h1) (orO (srcT v h1) (orO (srcS v) (srcK v h1))) = some (xs,G):=e2
  cases q1:srcL v h1 with
  | some z =>
    rw [q1] at e2'
    cases e2'
    refine .inl ⟨w,s,h,v,h1,rs,sr,e1,fun w1 H1 u t1 s1 r1=>?_⟩
    have:chk G h1 = true:=by
      unfold srcL at q1
      split at q1
      · rename_i zs hl
        cases q1
        cases v with
        | ref n =>
          have hg:h1.get n = some (.lst,xs):=hl
          show (decide (h1.get n = some (.lst,xs)) && true) = true
          rw [hg]; simp
        | _=>rfl
      · cases q1; rfl
      · cases q1
    obtain ⟨p,us,rfl,hq,l⟩:=list_still q1 r1 (.refl _) s1 ⟨_,s1⟩ this
    exact ⟨p,rfl,⟨us,hq⟩,k w1 H1 _ t1 s1 (itok_list q1 r1 s1)⟩
  | none =>
    rw [q1] at e2'
    have e2':orO (srcT v h1) (orO (srcS v) (srcK v h1)) = some (xs,G):=e2'
    refine .inr ?_
    cases q2:srcT v h1 with
    | some z =>
      rw [q2] at e2'
      cases e2'
      refine .inl ⟨w,s,h,v,h1,rs,sr,e1,fun w1 H1 u t1 s1 r1=>?_⟩
      have:∃ p,u = .ref p:=by
        unfold srcT at q2
        split at q2
        · rename_i zs hl
          obtain ⟨p,us,e1,_⟩:=look_ok s1 r1 hl
          exact ⟨p,e1⟩
        · cases q2
      obtain ⟨p,rfl⟩:=this
      obtain ⟨hq,io⟩:=itok_tup q2 r1 s1
      exact ⟨p,rfl,hq,k w1 H1 _ t1 s1 io⟩
    | none =>
      rw [q2] at e2'
      have e2':orO (srcS v) (srcK v h1) = some (xs,G):=e2'
      refine .inr ?_
      cases q3:srcS v with
      | some z =>
        rw [q3] at e2'
        cases e2'
        refine .inl ⟨w,s,h,v,h1,rs,sr,e1,fun w1 H1 u t1 s1 r1=>?_⟩
        cases v with
        | str x =>
          cases q3
          have r1':u = .str x:=r1
          exact ⟨x,r1',k w1 H1 _ t1 s1 (itok_str x)⟩
        | _=>cases q3
      | none =>
        rw [q3] at e2'
        have e2':srcK v h1 = some (xs,G):=e2'
        refine .inr ⟨w,s,h,v,h1,rs,sr,e1,fun w1 H1 u t1 s1 r1=>?_⟩
        unfold srcK at e2'
        split at e2'
        · rename_i kd zs ks zz hl
          cases e2'
          cases hl
          obtain ⟨p,us,rfl,⟨hl,od,n⟩,l⟩:=r1
          exact ⟨p,od,rfl,.inl ⟨_,s1.le _ _ n,k w1 H1 _ t1 s1 (itok_keys hl (s1.le _ _ n))⟩⟩
        · rename_i n ks zz hl
          cases e2'
          obtain ⟨p,us,e3,⟨hl,od,n⟩,l⟩:=s1.cell _ _ _ hl
          obtain ⟨p',e4,e5⟩:=r1
          rw [e3] at e4
          cases e4
          exact ⟨p,od,e5,.inl ⟨_,n,k w1 H1 _ t1 s1 (itok_keys hl n)⟩⟩
        · cases e2'
def rgI (lo:Int) (n:Nat):List AV:=(List.range n).map fun i:Nat=>.int (lo + i)
theorem itok_rng {c:Ct} {w0:Wd} {H0:Hp} (lo:Int) (n:Nat):ItOk c w0 H0 (Itr lo n) (rgI lo n) []:=by
  intro w H h i le fz S ck
  refine ⟨fun x hx=>?_,fun hi=>by
    show n ≤ i
    simpa [rgI] using hi⟩
  unfold rgI at hx
  rw [List.getElem?_map] at hx
  by_cases hlt:i < n
  · rw [List.getElem?_range hlt] at hx
    cases hx
    refine ⟨hlt,fun v H' y=>?_⟩
    obtain ⟨e2,e3⟩:=y
    subst e2 e3
    exact ⟨w,.refl _ _ _,S,rfl⟩
  · rw [List.getElem?_eq_none (by simpa using hlt)] at hx; cases hx
def sm (i:Int):Bool:=decide (-(2 ^ 62) ≤ i) && decide (i < 2 ^ 62)
theorem sm_ok {i:Int} (h:sm i = true):-(2 ^ 62) ≤ i ∧ i < 2 ^ 62:=by
  unfold sm at h
  simpa using h
def sRng1 (g:AA):ASrc:=fun s h=>(g s h).bind fun r=>match r.1 with
  | [.int j]=>if sm j = true then some ((rgI 0 j.toNat,[]),r.2) else none
  | _=>none
theorem ai_range1 {a:Expr} {ga:AA} {p pos:Pos} (hg:Gl X "range") (hm:X.mg "range" = none) (ha:PA X [a] (tAs (ctX X cl) ga)) (hs:starEach [a] X.env = [(false,eval a X.env)]:=by rfl):PI X tg (.Call (.Name "range" p) [a] [] pos) (tI (ctX X cl) (sRng1 ga)):=by
  refine (pi_range1 hg hm ha hs).wk fun σ H R q=>?_
  obtain ⟨w,s,h,xs,G,h',rs,sr,e,k⟩:=q
  obtain ⟨⟨vs,h1⟩,e1,e⟩:=bind_some e
  split at e
  · rename_i j ev
    have ev':vs = [.int j]:=ev
    subst ev'
    split at e
    · rename_i hs
      cases e
      refine ⟨w,s,h,_,h1,rs,sr,e1,fun w1 H1 us t1 s1 r1=>?_⟩
      obtain ⟨u,us',rfl,ru,r2⟩:=r1
      obtain rfl:us' = []:=r2
      obtain rfl:u = .int j:=ru
      exact ⟨j,rfl,(sm_ok hs).1,(sm_ok hs).2,k w1 H1 _ t1 s1 (itok_rng 0 _)⟩
    · cases e
  · cases e
theorem yld_tup {c:Ct} {w:Wd} {H:Hp} {h:AH} (S:SR c w H h) {T:Addr} (hT:H T = none) {xs:List AV} {us:List V} (l:RepL c w xs us):∃ w',Tr w H h w' (upd H T (.tup us)) h ∧ SR c w' (upd H T (.tup us)) h ∧ RepV c w' (.nod .tup xs) (.ref T):=by
  obtain ⟨w',S',T',r⟩:=S.newF (k:=.tup) (o:=.tup us) hT l fun R e=>SqT.of e
  exact ⟨w',T',S',r⟩
def enumL (lo:Nat):List AV → List AV
  | []=>[]
  | x :: xs=>.nod .tup [.int (lo:Nat),x] :: enumL (lo + 1) xs
theorem enumL_get:∀ (lo:Nat) (xs:List AV) (i:Nat),(enumL lo xs)[i]? = (xs[i]?).map fun x=>AV.nod .tup [.int ((lo + i:Nat):Int),x]
  | _,[],i=>rfl
  | lo,x :: xs,0=>rfl
  | lo,x :: xs,i + 1=>by
    show (enumL (lo + 1) xs)[i]? = (xs[i]?).map _
    rw [enumL_get (lo + 1) xs i]
    have:lo + 1 + i = lo + (i + 1):=by omega
    rw [this]
theorem enumL_len:∀ (lo:Nat) (xs:List AV),(enumL lo xs).length = xs.length
  | _,[]=>rfl
  | lo,x :: xs=>by show (enumL (lo + 1) xs).length + 1 = xs.length + 1; rw [enumL_len]
def sEnum (g:AA):ASrc:=fun s h=>(g s h).bind fun r=>match r.1 with
  | [a]=>(srcL a r.2).bind fun q=>some ((enumL 0 q.1,q.2),r.2)
  | _=>none
theorem srcL_chk {a:AV} {h:AH} {xs:List AV} {G:Grd} (e:srcL a h = some (xs,G)):chk G h = true:=by
  unfold srcL at e
  split at e
  · rename_i zs hl
    cases e
    cases a with
    | ref n =>
      have hg:h.get n = some (.lst,xs):=hl
      show (decide (h.get n = some (.lst,xs)) && true) = true
      rw [hg]; simp
    | _=>rfl
  · cases e; rfl
  · cases e
theorem ai_enum {elts:List Expr} {kk:Nat} {tpos p pos:Pos} {ga:AA} (hg:Gl X "enumerate") (hm:X.mg "enumerate" = none) (ha:PA X [e] (tAs (ctX X cl) ga)) (hs:starEach [e] X.env = [(false,eval e X.env)]:=by rfl) :
    PI X (.Tuple elts kk tpos) (.Call (.Name "enumerate" p) [e] [] pos) (tI (ctX X cl) (sEnum ga)):=by
  refine (pi_enum hg hm ha hs).wk fun σ H R q=>?_
  obtain ⟨w,s,h,xs,G,h',rs,sr,e,k⟩:=q
  obtain ⟨⟨vs,h1⟩,e1,e⟩:=bind_some e
  split at e
  · rename_i a ev
    have ev':vs = [a]:=ev
    subst ev'
    obtain ⟨⟨ys,G1⟩,e2,e⟩:=bind_some e
    cases e
    refine ⟨w,s,h,_,h1,rs,sr,e1,fun w1 H1 us t1 s1 r1=>?_⟩
    obtain ⟨u,us',rfl,ru,r2⟩:=r1
    obtain rfl:us' = []:=r2
    obtain ⟨d,zs,rfl,hq,l⟩:=list_still e2 ru (.refl _) s1 ⟨_,s1⟩ (srcL_chk e2)
    refine ⟨d,zs,rfl,hq,k w1 H1 _ t1 s1 fun w2 H2 h2 i le fz S ck=>?_⟩
    obtain ⟨p',us,e3,q,l⟩:=list_still e2 ru le S ⟨_,s1⟩ ck
    cases e3
    refine ⟨fun x hx=>?_,fun hi=>⟨us,q,by rw [← l.len]; rw [enumL_len] at hi; exact hi⟩⟩
    rw [enumL_get] at hx
    cases hy:ys[i]? with
    | none=>rw [hy] at hx; cases hx
    | some y =>
      rw [hy] at hx
      cases hx
      obtain ⟨u,hu,ru⟩:=l.get hy
      refine ⟨⟨us,u,q,hu⟩,fun v H' y=>?_⟩
      obtain ⟨T,x,rfl,hT,rfl,hx⟩:=y
      have:=hx us q
      rw [hu] at this
      cases this
      have:((0 + i:Nat):Int) = (i:Int):=by rw [Nat.zero_add]
      rw [this]
      exact yld_tup S hT (.cons rfl (.cons ru .nil))
  · cases e
def sZip (g:AA):ASrc:=fun s h=>(g s h).bind fun r=>match r.1 with
  | [a,b]=>(srcL a r.2).bind fun q=>(srcL b r.2).bind fun z=>some ((q.1.zipWith (fun x y=>.nod .tup [x,y]) z.1,q.2 ++ z.2),r.2)
  | _=>none
theorem chk_app {G G':Grd} {h:AH} (e:chk (G ++ G') h = true):chk G h = true ∧ chk G' h = true:=by
  unfold chk at e
  rw [List.all_append,Bool.and_eq_true] at e
  exact e
def sZipT (g:AA):ASrc:=fun s h=>(g s h).bind fun r=>match r.1 with
  | [a,b]=>(srcT a r.2).bind fun q=>(srcT b r.2).bind fun z=>some ((q.1.zipWith (fun x y=>.nod .tup [x,y]) z.1,[]),r.2)
  | _=>none
theorem srcT_inv {a:AV} {h:AH} {xs:List AV} {G:Grd} (e:srcT a h = some (xs,G)):G = [] ∧ look h a = some (.tup,xs):=by
  unfold srcT at e
  split at e
  · rename_i ys hl; cases e; exact ⟨rfl,hl⟩
  · cases e
def sZipA (g:AA):ASrc:=fun s h=>orO (sZip g s h) (sZipT g s h)
theorem ai_zip {e2:Expr} {elts:List Expr} {kk:Nat} {tpos p pos:Pos} {ga:AA} (hg:Gl X "zip") (hm:X.mg "zip" = none) (ha:PA X [e,e2] (tAs (ctX X cl) ga))
    (hs:starEach [e,e2] X.env = (false,eval e X.env) :: starEach [e2] X.env:=by rfl) (hpl:(backTo pos (starEach [e2] X.env)).any (·.1) = false:=by rfl) :
    PI X (.Tuple elts kk tpos) (.Call (.Name "zip" p) [e,e2] [] pos) (tI (ctX X cl) (sZipA ga)):=by
  refine (RZ.pi_zipA hg hm ha hs hpl).wk fun σ H R q=>?_
  obtain ⟨w,s,h,xs,G,h',rs,sr,e,k⟩:=q
  have e':orO (sZip ga s h) (sZipT ga s h) = some ((xs,G),h'):=e
  cases q0:sZip ga s h with
  | some z =>
    rw [q0] at e'
    cases e'
    obtain ⟨⟨vs,h1⟩,e1,e⟩:=bind_some q0
    split at e
    · rename_i a b ev
      have ev':vs = [a,b]:=ev
      subst ev'
      obtain ⟨⟨ys,G1⟩,e2,e⟩:=bind_some e
      obtain ⟨⟨zs,G2⟩,e3,e⟩:=bind_some e
      cases e
      refine ⟨w,s,h,_,h1,rs,sr,e1,fun w1 H1 us t1 s1 r1=>?_⟩
      obtain ⟨u,us',rfl,ru,u2,us2,rfl,ru2,r2⟩:=r1
      obtain rfl:us2 = []:=r2
      obtain ⟨d,ys',rfl,hq,l⟩:=list_still e2 ru (.refl _) s1 ⟨_,s1⟩ (srcL_chk e2)
      obtain ⟨d2,zs',rfl,hq2,l2⟩:=list_still e3 ru2 (.refl _) s1 ⟨_,s1⟩ (srcL_chk e3)
      refine ⟨d,d2,ys',zs',rfl,.inl ⟨hq,hq2,k w1 H1 _ t1 s1 fun w2 H2 h2 i le fz S ck=>?_⟩⟩
      obtain ⟨ck1,ck2⟩:=chk_app ck
      obtain ⟨p',us,e4,q,l⟩:=list_still e2 ru le S ⟨_,s1⟩ ck1
      cases e4
      obtain ⟨p',vs,e4,q2,l2⟩:=list_still e3 ru2 le S ⟨_,s1⟩ ck2
      cases e4
      refine ⟨fun x hx=>?_,fun hi=>⟨us,vs,q,q2,by
        rw [← l.len,← l2.len]
        rw [List.length_zipWith] at hi
        dsimp only at hi
        omega⟩⟩
      rw [List.getElem?_zipWith] at hx
      cases hy:ys[i]? with
      | none=>rw [hy] at hx; cases hx
      | some y =>
        cases hz:zs[i]? with
        | none=>rw [hy,hz] at hx; cases hx
        | some z =>
          rw [hy,hz] at hx
          cases hx
          obtain ⟨u,hu,ru⟩:=l.get hy
          obtain ⟨u',hu',ru'⟩:=l2.get hz
          refine ⟨⟨us,vs,u,u',q,q2,hu,hu'⟩,fun v H' y=>?_⟩
          obtain ⟨T,x,y,rfl,hT,rfl,hx,hy⟩:=y
          have:=hx us q
          rw [hu] at this
          cases this
          have:=hy vs q2
          rw [hu'] at this
          cases this
          exact yld_tup S hT (.cons ru (.cons ru' .nil))
    · cases e
  | none =>
    rw [q0] at e'
    have e':sZipT ga s h = some ((xs,G),h'):=e'
    obtain ⟨⟨vs,h1⟩,e1,e⟩:=bind_some e'
    split at e
    · rename_i a b ev
      have ev':vs = [a,b]:=ev
      subst ev'
      obtain ⟨⟨ys,G1⟩,e2,e⟩:=bind_some e
      obtain ⟨⟨zs,G2⟩,e3,e⟩:=bind_some e
      cases e
      refine ⟨w,s,h,_,h1,rs,sr,e1,fun w1 H1 us t1 s1 r1=>?_⟩
      obtain ⟨u,us',rfl,ru,u2,us2,rfl,ru2,r2⟩:=r1
      obtain rfl:us2 = []:=r2
      obtain ⟨_,hl1⟩:=srcT_inv e2
      obtain ⟨_,hl2⟩:=srcT_inv e3
      obtain ⟨ys,rfl,rfl⟩:=look_tup s1 hl1
      obtain ⟨zs,rfl,rfl⟩:=look_tup s1 hl2
      obtain ⟨d,ys',rfl,n1,l⟩:=ru
      obtain ⟨d2,zs',rfl,n2,l2⟩:=ru2
      have n1:SqT (ctX X cl).K w1.R d ys':=n1
      have n2:SqT (ctX X cl).K w1.R d2 zs':=n2
      refine ⟨d,d2,ys',zs',rfl,.inr ⟨SqT.le s1.le n1,SqT.le s1.le n2,k w1 H1 _ t1 s1 fun w2 H2 h2 i le fz S ck=>?_⟩⟩
      have q:SqT (ctX X cl).K H2 d ys':=SqT.le S.le (SqT.le le.rr n1)
      have q2:SqT (ctX X cl).K H2 d2 zs':=SqT.le S.le (SqT.le le.rr n2)
      have l:=RepL.le le _ _ l
      have l2:=RepL.le le _ _ l2
      refine ⟨fun x hx=>?_,fun hi=>⟨ys',zs',q,q2,by
        rw [← l.len,← l2.len]
        rw [List.length_zipWith] at hi
        dsimp only at hi
        omega⟩⟩
      rw [List.getElem?_zipWith] at hx
      cases hy:ys[i]? with
      | none=>rw [hy] at hx; cases hx
      | some y =>
        cases hz:zs[i]? with
        | none=>rw [hy,hz] at hx; cases hx
        | some z =>
          rw [hy,hz] at hx
          cases hx
          obtain ⟨u,hu,ru⟩:=l.get hy
          obtain ⟨u',hu',ru'⟩:=l2.get hz
          refine ⟨⟨ys',zs',u,u',q,q2,hu,hu'⟩,fun v H' y=>?_⟩
          obtain ⟨T,x,y,rfl,hT,rfl,hx,hy⟩:=y
          have:=hx _ q
          rw [hu] at this
          cases this
          have:=hy _ q2
          rw [hu'] at this
          cases this
          exact yld_tup S hT (.cons ru (.cons ru' .nil))
    · cases e
end
def forL (G:Grd) (g:AG) (b:AS):List AV → LS → AH → Option (AR × AH)
  | [],s,h=>if chk G h = true then some (.nx s,h) else none
  | x :: xs,s,h=>if chk G h = true then (g x s h).bind fun q=>(b q.1 q.2).bind fun r=>match r.1 with
      | .nx s' => forL G g b xs s' r.2
      | .ct s' => forL G g b xs s' r.2
      | .bk s' => some (.nx s',r.2)
      | .rt v=>some (.rt v,r.2)
    else none
def aFor (src:ASrc) (g:AG) (b:AS):AS:=fun s h=>(src s h).bind fun q=>forL q.1.2 g b q.1.1 s q.2
section
variable {X:Cx} {cl:Nat → Str × List Str} {tg iter:Expr} {body:List Stmt} {src:ASrc} {g:AG} {b:AS} {pos:Pos}
theorem tFor_of {c:Ct} {D:Ends} {σ:L2.St} {H:Hp} (q:tS c (aFor src g b) D σ H):tFor (tI c src) (tG c g) (tS c b) D σ H:=by
  obtain ⟨w,s,h,r,h',rs,sr,e,k⟩:=q
  obtain ⟨⟨⟨xs,G⟩,h1⟩,e1,e⟩:=bind_some e
  refine ⟨w,s,h,xs,G,h1,rs,sr,e1,fun w1 H1 J t1 s1 io=>?_⟩
  refine ⟨fun i m σ2 H2=>m = xs.length - i ∧ i ≤ xs.length ∧ ∃ w2 s2 h2,RepS c w2 s2 σ2 ∧ SR c w2 H2 h2 ∧ Tr w1 H1 h1 w2 H2 h2 ∧ forL G g b (xs.drop i) s2 h2 = some (r,h'),
    ⟨xs.length,rfl,Nat.zero_le _,w1,s,h1,rs.le t1.le,s1,.refl _ _ _,e⟩,?_⟩
  rintro i m σ2 H2 ⟨rfl,hi,w2,s2,h2,rs2,sr2,t2,e2⟩
  by_cases hlt:i < xs.length
  · have hd:xs.drop i = xs[i] :: xs.drop (i + 1):=(List.drop_eq_getElem_cons hlt)
    rw [hd] at e2
    have e2':(if chk G h2 = true then (g xs[i] s2 h2).bind fun q=>(b q.1 q.2).bind fun r=>match r.1 with
      | .nx s' => forL G g b (xs.drop (i + 1)) s' r.2
      | .ct s' => forL G g b (xs.drop (i + 1)) s' r.2
      | .bk s' => some (.nx s',r.2)
      | .rt v=>some (.rt v,r.2)
    else none) = some (r,h'):=e2
    by_cases hck:chk G h2 = true
    · rw [if_pos hck] at e2'
      obtain ⟨⟨s3,h3⟩,e3,e2'⟩:=bind_some e2'
      obtain ⟨⟨r4,h4⟩,e4,e5⟩:=bind_some e2'
      obtain ⟨io1,_⟩:=io w2 H2 h2 i t2.le t2.fz sr2 hck
      obtain ⟨go,yl⟩:=io1 xs[i] (List.getElem?_eq_getElem hlt)
      refine .inr ⟨go,fun σ3 H3=>∃ w3 s3 h3,RepS c w3 s3 σ3 ∧ SR c w3 H3 h3 ∧ Tr w1 H1 h1 w3 H3 h3 ∧ forL G g b (xs.drop (i + 1)) s3 h3 = some (r,h'),fun σ' H' q=>⟨_,Nat.sub_lt_sub_left hlt (Nat.lt_succ_self i),rfl,hlt,q⟩,fun x H3 y=>?_⟩
      obtain ⟨w3,t3,sr3,rx⟩:=yl x H3 y
      refine ⟨w3,xs[i],s2,h2,s3,h3,rx,rs2.le t3.le,sr3,e3,fun w4 H4 σ4 t4 sr4 rs4=>?_⟩
      refine ⟨w4,s3,h3,r4,h4,rs4,sr4,e4,fun w5 H5 t5 sr5=>?_⟩
      have tt:=t2.trans (t3.trans (t4.trans t5))
      cases r4 with
      | nx s' => exact fun σ5 rs5=>⟨w5,s',h4,rs5,sr5,tt,e5⟩
      | ct s' => exact fun σ5 rs5=>⟨w5,s',h4,rs5,sr5,tt,e5⟩
      | bk s' =>
        cases e5
        exact fun σ5 rs5=>k w5 H5 (t1.trans tt) sr5 σ5 rs5
      | rt v =>
        cases e5
        exact fun u ru=>k w5 H5 (t1.trans tt) sr5 u ru
    · rw [if_neg hck] at e2'; cases e2'
  · have hd:xs.drop i = []:=List.drop_eq_nil_of_le (Nat.le_of_not_lt hlt)
    rw [hd] at e2
    have e2':(if chk G h2 = true then some (AR.nx s2,h2) else none) = some (r,h'):=e2
    by_cases hck:chk G h2 = true
    · rw [if_pos hck] at e2'
      injection e2' with e2'
      injection e2' with ea eb
      subst ea eb
      exact .inl ⟨(io w2 H2 _ i t2.le t2.fz sr2 hck).2 (Nat.le_of_not_lt hlt),k w2 H2 (t1.trans t2) sr2 σ2 rs2⟩
    · rw [if_neg hck] at e2'; cases e2'
theorem as_for (hp:PassesOwn (model X.prog X.w) X.A X.env X.xe) (hc:X.calm = true) (hi:PI X tg iter (tI (ctX X cl) src)) (hg:PG X tg (tG (ctX X cl) g)) (hb:PSs X body (tS (ctX X cl) b))
    (hs:∀ x,foldedSetIterable iter X.env x = pure x:=by intro _; rfl):PS X (.For tg iter body [] pos) (tS (ctX X cl) (aFor src g b)):=(ps_for hp hc hi hg hb hs).wk fun D σ H q=>tFor_of q
end
end Rp
end
section
namespace Rp
open PySem PySem.Spec PyProof.Rows L2
def wipeA (s:LS):List Nat → LS
  | []=>s
  | v :: vs=>(wipeA s vs).set v none
theorem RepS.wipes {c:Ct} {w:Wd} {s:LS} {σ:L2.St} (r:RepS c w s σ):∀ vs:List Nat,RepS c w (wipeA s vs) (L2.wipe σ vs)
  | []=>r
  | v :: vs=>(RepS.wipes r vs).wipe v
theorem wipe_in {σ:L2.St} {i:Nat}:∀ {vs:List Nat},i ∈ vs → (wipe σ vs)[i]? = if i < σ.length then some none else none
  | v :: vs,h=>by
    unfold wipe
    by_cases hv:v = i
    · subst hv
      rw [List.getElem?_set,if_pos rfl,wipe_length]
    · rw [List.getElem?_set,if_neg hv]
      exact wipe_in (by
        rcases List.mem_cons.mp h with e | e
        · exact absurd e.symm hv
        · exact e)
theorem wipe_same {σ τ:L2.St} {vs:List Nat} (hl:σ.length = τ.length) (h:∀ i,i ∉ vs → σ[i]? = τ[i]?):wipe σ vs = wipe τ vs:=by
  refine List.ext_getElem? fun i=>?_
  by_cases hi:i ∈ vs
  · rw [wipe_in hi,wipe_in hi,hl]
  · rw [wipe_out hi,wipe_out hi]; exact h i hi
theorem wipe_set {σ:L2.St} {vs:List Nat} {i:Nat} {x:Option V} (hi:i ∈ vs):wipe (σ.set i x) vs = wipe σ vs :=
  wipe_same (by rw [List.length_set]) fun j hj=>by rw [List.getElem?_set_ne (fun e=>hj (by rw [← e]; exact hi))]
theorem wipe_idem {σ:L2.St} {vs:List Nat}:wipe (wipe σ vs) vs = wipe σ vs:=wipe_same (wipe_length σ vs) fun j hj=>wipe_out hj
def tGv (c:Ct) (vs:List Nat) (f:AG):TG:=fun v σ H Q=>∃ w a s h s' h',RepV c w a v ∧ RepS c w s σ ∧ SR c w H h ∧ f a s h = some (s',h') ∧ ∀ w' H' σ',Tr w H h w' H' h' → SR c w' H' h' → RepS c w' s' σ' → wipe σ' vs = wipe σ vs → Q σ' H'
def tGvs (c:Ct) (vs:List Nat) (f:AGs):TGs:=fun us σ H Q=>∃ w as s h s' h',RepL c w as us ∧ RepS c w s σ ∧ SR c w H h ∧ f as s h = some (s',h') ∧ ∀ w' H' σ',Tr w H h w' H' h' → SR c w' H' h' → RepS c w' s' σ' → wipe σ' vs = wipe σ vs → Q σ' H'
section
variable {X:Cx} {cl:Nat → Str × List Str} {pos:Pos} {e:Expr} {es:List Expr} {g:AG} {gs:AGs} {vs:List Nat}
theorem av_name {x:Str} (i:Nat) (hN:X.N.Nodup) (hv:i ∈ vs:=by decide) (hi:X.N[i]? = some x:=by rfl) (hx:Loc X.env.scope x:=by first | exact Or.inl rfl | exact Or.inr rfl) (hf:X.fn x = true ∨ X.env.scope.names.lookup x = some .local:=by first | exact .inl rfl | exact .inr rfl | assumption):PG X (.Name x pos) (tGv (ctX X cl) vs (gNm i)):=by
  refine (pg_name hN hi hx hf).wk fun v σ H Q q=>?_
  obtain ⟨w,a,s,h,s',h',ra,rs,sr,e,k⟩:=q
  cases e
  exact k w H _ (.refl _ _ _) sr (rs.set i ra) (wipe_set hv)
theorem avs_nil:PGs X [] (tGvs (ctX X cl) vs gsNil):=pgs_nil.wk fun v σ H Q q=>by
  obtain ⟨w,as,s,h,s',h',ra,rs,sr,e,k⟩:=q
  cases as with
  | nil =>
    cases e
    exact ⟨ra,k w H _ (.refl _ _ _) sr rs rfl⟩
  | cons _ _=>cases e
theorem avs_cons (h1:PG X e (tGv (ctX X cl) vs g)) (h2:PGs X es (tGvs (ctX X cl) vs gs)) (hs:(assignEach (e :: es) X.env).map (·.2) = assign e X.env :: (assignEach es X.env).map (·.2):=by rfl):PGs X (e :: es) (tGvs (ctX X cl) vs (gsCons g gs)):=by
  refine (pgs_cons h1 h2 hs).wk fun v σ H Q q=>?_
  obtain ⟨w,as,s,h,s',h',ra,rs,sr,e,k⟩:=q
  cases as with
  | nil=>cases e
  | cons a as =>
    obtain ⟨u,us,rfl,r1,r2⟩:=ra
    obtain ⟨⟨s1,h1⟩,e1,e⟩:=bind_some e
    refine ⟨u,us,rfl,⟨w,a,s,h,s1,h1,r1,rs,sr,e1,fun w1 H1 σ1 t1 sr1 rs1 wp1=>?_⟩⟩
    exact ⟨w1,as,s1,h1,s',h',RepL.le t1.le _ _ r2,rs1,sr1,e,fun w2 H2 σ2 t2 sr2 rs2 wp2=>k w2 H2 σ2 (t1.trans t2) sr2 rs2 (wp2.trans wp1)⟩
theorem av_sq {k n:Nat} (hc:X.calm = true) (h:PGs X es (tGvs (ctX X cl) vs gs)) (hn:(assignEach es X.env).length = n:=by rfl) (hst:(assignEach es X.env).findIdx? (·.1) = none:=by rfl)
    (hu:∀ {t:TGs},PGs X es t → PG X (.Tuple es k pos) (gUnl X.K n t):=by exact fun h=>pg_unl (by assumption) h):PG X (.Tuple es k pos) (tGv (ctX X cl) vs (gSq n gs)):=by
  refine (pg_or (pg_tup hc h hn hst) (hu h)).wk fun v σ H Q q=>?_
  obtain ⟨w,a,s,h,s',h',ra,rs,sr,e,k⟩:=q
  obtain ⟨xs,e1,e⟩:=bind_some e
  split at e
  · rename_i hl
    obtain ⟨p,us,rfl,hq,l⟩:=seqOf_ok sr ra e1
    have go:tGvs (ctX X cl) vs gs us σ H Q:=⟨w,xs,s,h,s',h',l,rs,sr,e,k⟩
    rcases hq with hq | hq
    · exact .inr ⟨p,us,rfl,hq,by rw [← l.len]; exact hl,go⟩
    · exact .inl ⟨p,us,rfl,hq,by rw [← l.len]; exact hl,go⟩
  · cases e
end
def cutH (H:Hp) (D:Addr):Hp:=fun a=>if a = D then none else H a
theorem cut_same {H:Hp} {D:Addr}:cutH H D D = none:=if_pos rfl
theorem cut_ne {H:Hp} {D a:Addr} (h:a ≠ D):cutH H D a = H a:=if_neg h
theorem upd_cut {H:Hp} {D:Addr} {o:HO} (e:H D = some o):upd (cutH H D) D o = H:=by
  funext a
  by_cases h:a = D
  · rw [h,upd_same,e]
  · rw [upd_ne h,cut_ne h]
section
variable {c:Ct} {w w1 w2:Wd} {H H1 H2:Hp} {h h1 h2:AH} {D:Addr} {o:HO}
theorem SR.at_off (S:SR c w H h) (n:¬ Own w h D) (hd:∀ φ,H D ≠ some (.ext φ)) {H':Hp} (hH:∀ a,a ≠ D → H' a = H a):SR c w H' h:=by
  have ne:∀ a,Own w h a → a ≠ D:=fun a q e=>n (e ▸ q)
  refine ⟨fun a z e=>?_,fun m k xs e=>?_,S.inj,S.sep,S.nx⟩
  · rw [hH a (ne a (.inl (by rw [e]; exact nofun)))]; exact S.le a z e
  · obtain ⟨p,us,e1,nm,r⟩:=S.cell m k xs e
    exact ⟨p,us,e1,nm.at (hH p (ne p (.inr ⟨m,by rw [e]; rfl,e1⟩))) (fun b φ z=>by rw [hH b (fun q=>hd φ (q ▸ z))]; exact z),r⟩
theorem Tr.at_off (T:Tr w1 H1 h1 w H h) (hD:H1 D = none) {H':Hp} (hH:∀ a,a ≠ D → H' a = H a):Tr w1 H1 h1 w H' h:=by
  have ne:∀ a,H1 a ≠ none → a ≠ D:=fun a q e=>q (e ▸ hD)
  refine ⟨T.le,fun a z e nn=>?_,T.nw,fun a e=>?_,fun a z u e=>?_⟩
  · rw [hH a (ne a (by rw [e]; exact nofun))]; exact T.fr a z e nn
  · rw [hH a (ne a e)]; exact T.st a e
  · rw [hH a (ne a (by rw [e]; exact nofun))]; exact T.fz a z u e
theorem Tr.off (T:Tr w1 H1 h1 w2 H2 h2) (n:¬ Own w1 h1 D) (e:H1 D = some o):¬ Own w2 h2 D ∧ H2 D = some o:=by
  refine ⟨fun q=>?_,T.fr D o e n⟩
  rcases T.nw D q with z | z
  · exact n z
  · rw [e] at z; cases z
theorem SR.notOwn (S:SR c w H h) (hD:H D = none):¬ Own w h D:=fun q=>S.own_there q hD
end
def aYes:AT:=fun _ h=>some (true,h)
def lcL (G:Grd) (g:AG) (t:AT) (f:AE) (s0:LS):List AV → List AV → AH → Option (List AV × AH)
  | [],acc,h=>if chk G h = true then some (acc,h) else none
  | x :: xs,acc,h=>if chk G h = true then (g x s0 h).bind fun q=>(t q.1 q.2).bind fun b =>
      if b.1 = true then (f q.1 b.2).bind fun y=>if acc.length < sizeLine then lcL G g t f s0 xs (acc ++ [y.1]) y.2 else none
      else lcL G g t f s0 xs acc b.2
    else none
def aLc (mk:Kd → List AV → AH → Option (AV × AH)) (src:ASrc) (g:AG) (t:AT) (f:AE) (vs:List Nat):AE:=fun s h=>(src s h).bind fun q=>(lcL q.1.2 g t f (wipeA s vs) q.1.1 [] q.2).bind fun r=>mk .lst r.1 r.2
def LcI (c:Ct) (w1:Wd) (H1:Hp) (h1:AH) (D:Addr) (P:List AV → AH → Prop) (H:Hp):Prop:=∃ w h acc us,SR c w H h ∧ Tr w1 H1 h1 w H h ∧ ¬ Own w h D ∧ H D = some (.lst us) ∧ RepL c w acc us ∧ P acc h
theorem lcI_start {c:Ct} {w1:Wd} {H1:Hp} {h1:AH} {D:Addr} {P:List AV → AH → Prop} (S:SR c w1 H1 h1) (hD:H1 D = none) (p:P [] h1):LcI c w1 H1 h1 D P (upd H1 D (.lst [])) :=
  ⟨w1,h1,[],[],S.at_off (S.notOwn hD) (fun φ z=>by rw [hD] at z; cases z) fun a ha=>upd_ne ha,(Tr.refl _ _ _).at_off hD fun a ha=>upd_ne ha,S.notOwn hD,upd_same,rfl,p⟩
theorem lcI_end {c:Ct} {w0 w1:Wd} {H0 H1:Hp} {h0 h1:AH} {D:Addr} {mk:Kd → List AV → AH → Option (AV × AH)} (hm:mkOk mk) {acc:List AV} {us:List V} {w:Wd} {H:Hp} {h h':AH} {v:AV} (hD:H1 D = none) (T0:Tr w0 H0 h0 w1 H1 h1)
    (S:SR c w H h) (T:Tr w1 H1 h1 w H h) (n:¬ Own w h D) (e:H D = some (.lst us)) (l:RepL c w acc us) (em:mk .lst acc h = some (v,h')):∃ w',SR c w' H h' ∧ Tr w0 H0 h0 w' H h' ∧ RepV c w' v (.ref D):=by
  have S':SR c w (cutH H D) h:=S.at_off n (fun φ z=>by rw [e] at z; cases z) fun a ha=>cut_ne ha
  have T':Tr w1 H1 h1 w (cutH H D) h:=T.at_off hD fun a ha=>cut_ne ha
  obtain ⟨_,q⟩:=mk_ok hm S' l em
  obtain ⟨w',S2,T2,r⟩:=q D cut_same
  rw [upd_cut e] at S2 T2
  exact ⟨w',S2,T0.trans (T'.trans T2),r⟩
theorem lcI_push {c:Ct} {w1 w2 w3:Wd} {H1 H2 H3:Hp} {h1 h2 h3:AH} {D:Addr} {acc:List AV} {us:List V} {y:AV} {u:V} {P:List AV → AH → Prop} (hD:H1 D = none) (T:Tr w1 H1 h1 w2 H2 h2) (n:¬ Own w2 h2 D) (e:H2 D = some (.lst us)) (l:RepL c w2 acc us)
    (T2:Tr w2 H2 h2 w3 H3 h3) (S3:SR c w3 H3 h3) (r:RepV c w3 y u) (hz:acc.length < sizeLine) (p:P (acc ++ [y]) h3):∃ acc,H3 D = some (.lst acc) ∧ acc.length < sizeLine ∧ LcI c w1 H1 h1 D P (upd H3 D (.lst (acc ++ [u]))):=by
  obtain ⟨n3,e3⟩:=T2.off n e
  refine ⟨us,e3,by rw [← l.len]; exact hz,w3,h3,acc ++ [y],us ++ [u],S3.at_off n3 (fun φ z=>by rw [e3] at z; cases z) fun a ha=>upd_ne ha,(T.trans T2).at_off hD fun a ha=>upd_ne ha,n3,upd_same,?_,p⟩
  exact (RepL.le T2.le _ _ l).append (.cons r .nil)
section
variable {X:Cx} {cl:Nat → Str × List Str} {mk:Kd → List AV → AH → Option (AV × AH)} {src:ASrc} {g:AG} {t:AT} {f:AE} {vs:List Nat}
theorem tLc_of {c:Ct} (hm:mkOk mk) {σ:L2.St} {H:Hp} {Q:VK} (q:tA c (aLc mk src g t f vs) σ H Q):tLc (tI c src) (tGv c vs g) (tT c t) (tA c f) vs σ H Q:=by
  obtain ⟨w,s,h,v,h',rs,sr,e,k⟩:=q
  obtain ⟨⟨⟨xs,G⟩,h1⟩,e1,e⟩:=bind_some e
  obtain ⟨⟨accF,hF⟩,eF,em⟩:=bind_some e
  refine ⟨w,s,h,xs,G,h1,rs,sr,e1,fun w1 H1 J t1 s1 io=>fun D hD=>?_⟩
  have rs1:=(rs.wipes vs).le t1.le
  refine ⟨fun i m H2=>m = xs.length - i ∧ i ≤ xs.length ∧ LcI c w1 H1 h1 D (fun acc h2=>lcL G g t f (wipeA s vs) (xs.drop i) acc h2 = some (accF,hF)) H2,⟨xs.length,rfl,Nat.zero_le _,lcI_start s1 hD eF⟩,?_⟩
  rintro i m H2 ⟨rfl,hi,w2,h2,acc,us,sr2,t2,no,eD,l,e2⟩
  by_cases hlt:i < xs.length
  · have hd:xs.drop i = xs[i] :: xs.drop (i + 1):=(List.drop_eq_getElem_cons hlt)
    rw [hd] at e2
    have e2':(if chk G h2 = true then (g xs[i] (wipeA s vs) h2).bind fun q=>(t q.1 q.2).bind fun b =>
      if b.1 = true then (f q.1 b.2).bind fun y=>if acc.length < sizeLine then lcL G g t f (wipeA s vs) (xs.drop (i + 1)) (acc ++ [y.1]) y.2 else none
      else lcL G g t f (wipeA s vs) (xs.drop (i + 1)) acc b.2 else none) = some (accF,hF):=e2
    by_cases hck:chk G h2 = true
    · rw [if_pos hck] at e2'
      obtain ⟨⟨s3,h3⟩,e3,e2'⟩:=bind_some e2'
      obtain ⟨⟨b4,h4⟩,e4,e5⟩:=bind_some e2'
      obtain ⟨io1,_⟩:=io w2 H2 h2 i t2.le t2.fz sr2 hck
      obtain ⟨go,yl⟩:=io1 xs[i] (List.getElem?_eq_getElem hlt)
      refine .inr ⟨go,LcI c w1 H1 h1 D (fun acc h2=>lcL G g t f (wipeA s vs) (xs.drop (i + 1)) acc h2 = some (accF,hF)),fun H' q=>⟨_,Nat.sub_lt_sub_left hlt (Nat.lt_succ_self i),rfl,hlt,q⟩,fun x H3 y=>?_⟩
      obtain ⟨w3,t3,sr3,rx⟩:=yl x H3 y
      refine ⟨w3,xs[i],wipeA s vs,h2,s3,h3,rx,(rs1.le t2.le).le t3.le,sr3,e3,fun w4 H4 σ4 t4 sr4 rs4 wp=>⟨wp.trans wipe_idem,?_⟩⟩
      refine ⟨w4,s3,h3,b4,h4,rs4,sr4,e4,fun w5 H5 t5 sr5=>?_⟩
      have tt:=t3.trans (t4.trans t5)
      cases b4 with
      | true =>
        rw [if_pos rfl] at e5
        dsimp only
        rw [if_pos rfl]
        obtain ⟨⟨y6,h6⟩,e6,e7⟩:=bind_some e5
        split at e7
        · rename_i hz
          exact ⟨w5,s3,h4,y6,h6,rs4.le t5.le,sr5,e6,fun w6 H6 u t6 sr6 r6=>lcI_push hD t2 no eD l (tt.trans t6) sr6 r6 hz e7⟩
        · cases e7
      | false =>
        rw [if_neg Bool.false_ne_true] at e5
        dsimp only
        rw [if_neg Bool.false_ne_true]
        obtain ⟨no5,eD5⟩:=tt.off no eD
        exact ⟨w5,h4,acc,us,sr5,t2.trans tt,no5,eD5,RepL.le tt.le _ _ l,e5⟩
    · rw [if_neg hck] at e2'; cases e2'
  · have hd:xs.drop i = []:=List.drop_eq_nil_of_le (Nat.le_of_not_lt hlt)
    rw [hd] at e2
    have e2':(if chk G h2 = true then some (acc,h2) else none) = some (accF,hF):=e2
    by_cases hck:chk G h2 = true
    · rw [if_pos hck] at e2'
      injection e2' with e2'
      injection e2' with ea eb
      subst ea eb
      obtain ⟨w',S',T',r'⟩:=lcI_end hm hD t1 sr2 t2 no eD l em
      exact .inl ⟨(io w2 H2 _ i t2.le t2.fz sr2 hck).2 (Nat.le_of_not_lt hlt),k w' H2 _ T' S' r'⟩
    · rw [if_neg hck] at e2'; cases e2'
abbrev InBlk (X:Cx) (scope:Scope) (P:Cx → Prop):Prop:=∀ (s:Shared) (H:Hp) (C:Addr) (l:List (Str × Addr)) (fp:List Addr),P (X.blk s H scope (compEnvC scope l C X.env) fp)
section
variable {elt tg iter:Expr} {ifs:List Expr} {scope:Scope} {own:List (Str × Nat)} {pos spos py:Pos}
theorem ae_lc {own:List (Str × Nat)} (hm:mkOk mk) (hc:X.calm = true) (hN:X.N.Nodup) (hi:PI X tg iter (tI (ctX X cl) src)) (ok:BlkOk X.N X.env.scope scope own)
    (hg:InBlk X scope fun Y=>PG Y tg (tGv (ctX X cl) (own.map (·.2)) g)) (ht:InBlk X scope fun Y=>PTs Y ifs (tT (ctX X cl) t)) (he:InBlk X scope fun Y=>PE Y elt (tA (ctX X cl) f)) (hs:∀ x,foldedSetIterable iter X.env x = pure x:=by intro _; rfl) :
    PE X (.ListComp elt [⟨tg,iter,ifs,0⟩] scope pos) (tA (ctX X cl) (aLc mk src g t f (own.map (·.2)))):=(pe_lc hc hN hi ok hg ht he hs).wk fun _ _ _ q=>tLc_of hm q
theorem as_setLc {own:List (Str × Nat)} {y:Str} (i:Nat) (hm:mkOk mk) (hc:X.calm = true) (hN:X.N.Nodup) (hi:PI X tg iter (tI (ctX X cl) src)) (ok:BlkOk X.N X.env.scope scope own)
    (hg:InBlk X scope fun Y=>PG Y tg (tGv (ctX X cl) (own.map (·.2)) g)) (ht:InBlk X scope fun Y=>PTs Y ifs (tT (ctX X cl) t)) (he:InBlk X scope fun Y=>PE Y elt (tA (ctX X cl) f))
    (hsw:swapsWith (.ListComp elt [⟨tg,iter,ifs,0⟩] scope pos) (some (.Name y py)) spos.line X.env = pure true)
    (hy:X.N[i]? = some y:=by rfl) (hyl:X.env.scope.names.lookup y = some .local:=by rfl) (hs:∀ x,foldedSetIterable iter X.env x = pure x:=by intro _; rfl) :
    PS X (.Assign [.Name y py] (.ListComp elt [⟨tg,iter,ifs,0⟩] scope pos) spos) (tS (ctX X cl) (aAsg (aLc mk src g t f (own.map (·.2))) (gNm i))):=by
  refine (ps_setLc hc hN hy hyl hsw hi ok hg ht he hs).wk fun D σ H q=>?_
  have q1:=tAsg_of q
  refine tLc_of hm ?_
  obtain ⟨w,s,h,v,h',rs,sr,e,kk⟩:=q1
  refine ⟨w,s,h,v,h',rs,sr,e,fun w1 H1 u t1 s1 r1=>?_⟩
  obtain ⟨w2,a,s2,h2,s3,h3,ra,rs2,sr2,e2,k2⟩:=kk w1 H1 u t1 s1 r1
  cases e2
  exact k2 w2 H1 _ (.refl _ _ _) sr2 (rs2.set i ra)
theorem at_none {Y:Cx} {c:Ct}:PTs Y [] (tT c aYes):=⟨fun pins s σ H Q I hw=>pts_nil.run pins s σ H Q I (by
  obtain ⟨w,s,h,v,h',rs,sr,e,k⟩:=hw
  cases e
  exact k w H (.refl _ _ _) sr)⟩
theorem at_one {Y:Cx} {c0:Expr} {tt:TT} (h:PT Y c0 tt):PTs Y [c0] tt:=pts_one h
end
variable {src1:ASrc} {g1:AG} {t':AT} {vs1:List Nat}
section
variable {elt tg iter tg1 iter1:Expr} {ifs ifs1:List Expr} {scope:Scope} {pos spos py:Pos}
end
end
def dcL (G:Grd) (g:AG) (t:AT) (fk fv:AE) (s0:LS):List AV → List Key × List AV → AH → Option ((List Key × List AV) × AH)
  | [],acc,h=>if chk G h = true then some (acc,h) else none
  | x :: xs,acc,h=>if chk G h = true then (g x s0 h).bind fun q=>(t q.1 q.2).bind fun b =>
      if b.1 = true then (fk q.1 b.2).bind fun y=>(fv q.1 y.2).bind fun z=>(toKey y.1).bind fun k=>if acc.1.length < sizeLine then dcL G g t fk fv s0 xs (dPut acc.1 acc.2 k z.1) z.2 else none
      else dcL G g t fk fv s0 xs acc b.2
    else none
def aDc (src:ASrc) (g:AG) (t:AT) (fk fv:AE) (vs:List Nat):AE:=fun s h=>(src s h).bind fun q=>(dcL q.1.2 g t fk fv (wipeA s vs) q.1.1 ([],[]) q.2).bind fun r=>some (.ref r.2.next,r.2.new (.dct r.1.1,r.1.2))
def DcI (c:Ct) (w1:Wd) (H1:Hp) (h1:AH) (D:Addr) (P:List Key × List AV → AH → Prop) (H:Hp):Prop:=∃ w h ks acc us,SR c w H h ∧ Tr w1 H1 h1 w H h ∧ ¬ Own w h D ∧ ks.length = us.length ∧ H D = some (.dK (ks.zip us)) ∧ RepL c w acc us ∧ P (ks,acc) h
section
variable {X:Cx} {cl:Nat → Str × List Str} {src:ASrc} {g:AG} {t:AT} {fk fv:AE} {vs:List Nat}
theorem tDc_of {c:Ct} {σ:L2.St} {H:Hp} {Q:VK} (q:tA c (aDc src g t fk fv vs) σ H Q):tDc (tI c src) (tGv c vs g) (tT c t) (tA c fk) (tA c fv) vs σ H Q:=by
  obtain ⟨w,s,h,v,h',rs,sr,e,k⟩:=q
  obtain ⟨⟨⟨xs,G⟩,h1⟩,e1,e⟩:=bind_some e
  obtain ⟨⟨accF,hF⟩,eF,em⟩:=bind_some e
  refine ⟨w,s,h,xs,G,h1,rs,sr,e1,fun w1 H1 J t1 s1 io=>fun D hD=>?_⟩
  have rs1:=(rs.wipes vs).le t1.le
  refine ⟨fun i m H2=>m = xs.length - i ∧ i ≤ xs.length ∧ DcI c w1 H1 h1 D (fun acc h2=>dcL G g t fk fv (wipeA s vs) (xs.drop i) acc h2 = some (accF,hF)) H2,
    ⟨xs.length,rfl,Nat.zero_le _,w1,h1,[],[],[],s1.at_off (s1.notOwn hD) (fun φ z=>by rw [hD] at z; cases z) fun a ha=>upd_ne ha,(Tr.refl _ _ _).at_off hD fun a ha=>upd_ne ha,s1.notOwn hD,rfl,upd_same,rfl,eF⟩,?_⟩
  rintro i m H2 ⟨rfl,hi,w2,h2,ks,acc,us,sr2,t2,no,hl,eD,l,e2⟩
  by_cases hlt:i < xs.length
  · have hd:xs.drop i = xs[i] :: xs.drop (i + 1):=(List.drop_eq_getElem_cons hlt)
    rw [hd] at e2
    have e2':(if chk G h2 = true then (g xs[i] (wipeA s vs) h2).bind fun q=>(t q.1 q.2).bind fun b =>
      if b.1 = true then (fk q.1 b.2).bind fun y=>(fv q.1 y.2).bind fun z=>(toKey y.1).bind fun k=>if ks.length < sizeLine then dcL G g t fk fv (wipeA s vs) (xs.drop (i + 1)) (dPut ks acc k z.1) z.2 else none
      else dcL G g t fk fv (wipeA s vs) (xs.drop (i + 1)) (ks,acc) b.2
    else none) = some (accF,hF):=e2
    by_cases hck:chk G h2 = true
    · rw [if_pos hck] at e2'
      obtain ⟨⟨s3,h3⟩,e3,e2'⟩:=bind_some e2'
      obtain ⟨⟨b4,h4⟩,e4,e5⟩:=bind_some e2'
      obtain ⟨io1,_⟩:=io w2 H2 h2 i t2.le t2.fz sr2 hck
      obtain ⟨go,yl⟩:=io1 xs[i] (List.getElem?_eq_getElem hlt)
      refine .inr ⟨go,DcI c w1 H1 h1 D (fun acc h2=>dcL G g t fk fv (wipeA s vs) (xs.drop (i + 1)) acc h2 = some (accF,hF)),fun H' q=>⟨_,Nat.sub_lt_sub_left hlt (Nat.lt_succ_self i),rfl,hlt,q⟩,fun x H3 y=>?_⟩
      obtain ⟨w3,t3,sr3,rx⟩:=yl x H3 y
      refine ⟨w3,xs[i],wipeA s vs,h2,s3,h3,rx,(rs1.le t2.le).le t3.le,sr3,e3,fun w4 H4 σ4 t4 sr4 rs4 wp=>⟨wp.trans wipe_idem,?_⟩⟩
      refine ⟨w4,s3,h3,b4,h4,rs4,sr4,e4,fun w5 H5 t5 sr5=>?_⟩
      have tt:=t3.trans (t4.trans t5)
      cases b4 with
      | true =>
        rw [if_pos rfl] at e5
        dsimp only
        rw [if_pos rfl]
        obtain ⟨⟨y6,h6⟩,e6,e7⟩:=bind_some e5
        obtain ⟨⟨z7,h7⟩,e7,e8⟩:=bind_some e7
        obtain ⟨kk,ek,e9⟩:=bind_some e8
        split at e9
        · rename_i hz
          refine ⟨w5,s3,h4,y6,h6,rs4.le t5.le,sr5,e6,fun w6 H6 u t6 sr6 r6=>⟨w6,s3,h6,z7,h7,(rs4.le t5.le).le t6.le,sr6,e7,fun w7 H7 u7 t7 sr7 r7=>?_⟩⟩
          have tv:=tt.trans (t6.trans t7)
          obtain ⟨n3,e3⟩:=tv.off no eD
          have lz:(ks.zip us).length = ks.length:=by rw [List.length_zip,← hl,Nat.min_self]
          refine ⟨ks.zip us,kk,toKey_rep ek r6,e3,by rw [lz]; exact hz,w7,h7,(dPut ks acc kk z7).1,(dPut ks acc kk z7).2,(dPut ks us kk u7).2,sr7.at_off n3 (fun φ z=>by rw [e3] at z; cases z) fun a ha=>upd_ne ha,(t2.trans tv).at_off hD fun a ha=>upd_ne ha,n3,?_,?_,dPut_rep (RepL.le tv.le _ _ l) r7,e9⟩
          · rw [dPut_fst ks acc us kk z7 u7]; exact dPut_len ks us kk u7 hl
          · rw [upd_same,putK_zip ks us kk u7 hl,dPut_fst ks acc us kk z7 u7]
        · cases e9
      | false =>
        rw [if_neg Bool.false_ne_true] at e5
        dsimp only
        rw [if_neg Bool.false_ne_true]
        obtain ⟨no5,eD5⟩:=tt.off no eD
        exact ⟨w5,h4,ks,acc,us,sr5,t2.trans tt,no5,hl,eD5,RepL.le tt.le _ _ l,e5⟩
    · rw [if_neg hck] at e2'; cases e2'
  · have hd:xs.drop i = []:=List.drop_eq_nil_of_le (Nat.le_of_not_lt hlt)
    rw [hd] at e2
    have e2':(if chk G h2 = true then some ((ks,acc),h2) else none) = some (accF,hF):=e2
    by_cases hck:chk G h2 = true
    · rw [if_pos hck] at e2'
      injection e2' with e2'
      injection e2' with ea eb
      subst ea eb
      have em':some (AV.ref h2.next,h2.new (.dct ks,acc)) = some (v,h'):=em
      cases em'
      have S':SR c w2 (cutH H2 D) h2:=sr2.at_off no (fun φ z=>by rw [eD] at z; cases z) fun a ha=>cut_ne ha
      have T':Tr w1 H1 h1 w2 (cutH H2 D) h2:=t2.at_off hD fun a ha=>cut_ne ha
      obtain ⟨w',S2,T2,r⟩:=S'.newM (k:=.dct ks) (o:=.dK (ks.zip us)) cut_same l fun H e=>⟨hl,e⟩
      rw [upd_cut eD] at S2 T2
      exact .inl ⟨(io w2 H2 _ i t2.le t2.fz sr2 hck).2 (Nat.le_of_not_lt hlt),k w' H2 _ (t1.trans (T'.trans T2)) S2 r⟩
    · rw [if_neg hck] at e2'; cases e2'
end
end Rp
end
section
namespace Rp
open PySem PySem.Spec PyProof.Rows L2
section
variable {X:Cx} {cl:Nat → Str × List Str} {pos apos cpos p:Pos} {o e e2:Expr} {es:List Expr} {f:AE} {g:AA} {mk:Kd → List AV → AH → Option (AV × AH)}
def B0 (X:Cx) (o:Expr) (name:Str) (apos cpos:Pos):Prop:=attributeBase o name X.env (eval o X.env) = eval o X.env ∧ (apos.endLine == cpos.line) = true
def B1 (X:Cx) (o:Expr) (name:Str) (e:Expr) (es:List Expr) (apos cpos:Pos):Prop:=attributeBase o name X.env (eval o X.env) = eval o X.env ∧
  ((backTo cpos (starEach (e :: es) X.env)).all (fun x=>!x.1) && (backToKw cpos (keywordEach [] X.env)).all (fun x=>x.1.isSome) && decide ((e :: es).length + ([]:List Keyword).length + (if ([]:List Keyword).isEmpty then 0 else 1) < 30)) = true ∧
  (apos.endLine == cpos.line) = true ∧ starEach (e :: es) X.env = (false,eval e X.env) :: starEach es X.env ∧ (backTo cpos (starEach es X.env)).any (·.1) = false
theorem w_append (ho:PE X o (tA (ctX X cl) f)) (ha:PA X [e] (tAs (ctX X cl) g)) (b:B1 X o "append" e [] apos cpos:=by exact ⟨rfl,rfl,rfl,rfl,rfl⟩):PE X (.Call (.Attribute o "append" apos) [e] [] cpos) (tA (ctX X cl) (aBM "list" aAppend f g)) :=
  ae_bm (.inr (.inl rfl)) PySem.F.plainAttrs_list PySem.F.slot_list_append PySem.F.type_list_append mt_append s_append ho ha (h:=fun h1 h2=>pe_bm PySem.F.plainAttrs_list PySem.F.slot_list_append PySem.F.type_list_append mt_append h1 h2 b.1 b.2.1 b.2.2.1 b.2.2.2.1 b.2.2.2.2)
theorem w_pop (ho:PE X o (tA (ctX X cl) f)) (b:B0 X o "pop" apos cpos:=by exact ⟨rfl,rfl⟩):PE X (.Call (.Attribute o "pop" apos) [] [] cpos) (tA (ctX X cl) (aBM "list" aPop f aNil)) :=
  ae_bm0 (.inr (.inl rfl)) PySem.F.plainAttrs_list PySem.F.slot_list_pop PySem.F.type_list_pop mt_pop s_pop ho (h:=fun h1=>pe_bm0 PySem.F.plainAttrs_list PySem.F.slot_list_pop PySem.F.type_list_pop mt_pop h1 b.1 b.2)
theorem w_split (hm:mkOk mk) (ho:PE X o (tA (ctX X cl) f)) (ha:PA X [e] (tAs (ctX X cl) g)) (b:B1 X o "split" e [] apos cpos:=by exact ⟨rfl,rfl,rfl,rfl,rfl⟩):PE X (.Call (.Attribute o "split" apos) [e] [] cpos) (tA (ctX X cl) (aBM "str" (aSplit mk) f g)) :=
  ae_bm (.inl rfl) PySem.F.plainAttrs_str PySem.F.slot_str_split PySem.F.type_str_split mt_split (s_split hm) ho ha (h:=fun h1 h2=>pe_bm PySem.F.plainAttrs_str PySem.F.slot_str_split PySem.F.type_str_split mt_split h1 h2 b.1 b.2.1 b.2.2.1 b.2.2.2.1 b.2.2.2.2)
theorem w_join (ho:PE X o (tA (ctX X cl) f)) (ha:PA X [e] (tAs (ctX X cl) g)) (b:B1 X o "join" e [] apos cpos:=by exact ⟨rfl,rfl,rfl,rfl,rfl⟩):PE X (.Call (.Attribute o "join" apos) [e] [] cpos) (tA (ctX X cl) (aBM "str" aJoin f g)) :=
  ae_bm (.inl rfl) PySem.F.plainAttrs_str PySem.F.slot_str_join PySem.F.type_str_join mt_join s_join ho ha (h:=fun h1 h2=>pe_bm PySem.F.plainAttrs_str PySem.F.slot_str_join PySem.F.type_str_join mt_join h1 h2 b.1 b.2.1 b.2.2.1 b.2.2.2.1 b.2.2.2.2)
theorem w_len (hm0:X.mg "len" = none) (ha:PA X [e] (tAs (ctX X cl) g)) (hg:Gl X "len" := by rfl) (he:starEach [e] X.env = (false,eval e X.env) :: starEach [] X.env:=by rfl) (hpl:(backTo pos (starEach [] X.env)).any (·.1) = false:=by rfl):PE X (.Call (.Name "len" p) [e] [] pos) (tA (ctX X cl) (aArgs (one aLenV) g)) :=
  ae_blt c_len s_len hm0 boot_len ha hg (by decide) (by decide) he hpl
theorem w_list (hm:mkOk mk) (hm0:X.mg "list" = none) (ha:PA X [e] (tAs (ctX X cl) g)) (hg:Gl X "list" := by rfl) (he:starEach [e] X.env = (false,eval e X.env) :: starEach [] X.env:=by rfl) (hpl:(backTo pos (starEach [] X.env)).any (·.1) = false:=by rfl):PE X (.Call (.Name "list" p) [e] [] pos) (tA (ctX X cl) (aArgs (one (aListV mk)) g)) :=
  ae_ty call_list_of (s_list hm) hm0 boot_list ha hg (by decide) (by decide) he hpl
theorem w_tuple (hm0:X.mg "tuple" = none) (ha:PA X [e] (tAs (ctX X cl) g)) (hg:Gl X "tuple" := by rfl) (he:starEach [e] X.env = (false,eval e X.env) :: starEach [] X.env:=by rfl) (hpl:(backTo pos (starEach [] X.env)).any (·.1) = false:=by rfl):PE X (.Call (.Name "tuple" p) [e] [] pos) (tA (ctX X cl) (aArgs (one aTupV) g)) :=
  ae_ty call_tuple_of s_tup hm0 boot_tuple ha hg (by decide) (by decide) he hpl
theorem w_all (hc:X.calm = true) (hm0:X.mg "all" = none) (ha:PA X [e] (tAs (ctX X cl) g)) (hg:Gl X "all" := by rfl) (he:starEach [e] X.env = (false,eval e X.env) :: starEach [] X.env:=by rfl) (hpl:(backTo pos (starEach [] X.env)).any (·.1) = false:=by rfl):PE X (.Call (.Name "all" p) [e] [] pos) (tA (ctX X cl) (aArgs (one aAllV) g)) :=
  ae_blt (cr_all hc) s_all hm0 rfl ha hg (by decide) (by decide) he hpl
theorem w_isi (hm0:X.mg "isinstance" = none) (ha:PA X [e,e2] (tAs (ctX X cl) g)) (hg:Gl X "isinstance" := by rfl) (he:starEach [e,e2] X.env = (false,eval e X.env) :: starEach [e2] X.env:=by rfl) (hpl:(backTo pos (starEach [e2] X.env)).any (·.1) = false:=by rfl):PE X (.Call (.Name "isinstance" p) [e,e2] [] pos) (tA (ctX X cl) (aArgs (two aIsi) g)) :=
  ae_blt call_isi s_isi hm0 rfl ha hg (by decide) (by decide) he hpl
end
end Rp
end
section
namespace Rp
open PySem PySem.Spec PyProof.Rows L2
def startA (m:Nat) (as:List AV):LS:=as.map some ++ List.replicate (m - as.length) none
def fnA (m:Nat) (f:AS):AF:=fun as h=>(f (startA m as) h).bind fun r=>match r.1 with
  | .nx _=>some (.non,r.2)
  | .rt v=>some (v,r.2)
  | _=>none
theorem reps_start {c:Ct} {w:Wd} {as:List AV} {vs:List V} (l:RepL c w as vs) (N:List Str):RepS c w (startA N.length as) (L2.start N vs):=by
  have hl:=l.len
  refine ⟨?_,fun j a e=>?_⟩
  · unfold startA L2.start
    simp [hl]
  · unfold startA at e
    by_cases hj:j < as.length
    · rw [List.getElem?_append_left (by simpa using hj),List.getElem?_map] at e
      cases q:as[j]? with
      | none=>rw [q] at e; cases e
      | some b =>
        rw [q] at e
        have e':some (some b) = some (some a):=e
        cases e'
        obtain ⟨u,hu,ru⟩:=l.get q
        refine ⟨u,?_,ru⟩
        unfold L2.start
        rw [List.getElem?_append_left (by rw [List.length_map,← hl]; exact hj),List.getElem?_map,hu]; rfl
    · rw [List.getElem?_append_right (by simpa using Nat.le_of_not_lt hj)] at e
      obtain ⟨_,e⟩:=List.getElem?_eq_some_iff.mp e
      rw [List.getElem_replicate] at e
      cases e
section
variable {P:Program} {w:World} {K:PySem.W.Frag} {mg:Str → Option Value} {base:Heap} {x qual:Str} {params:Arguments} {body:List Stmt} {scope:Scope} {dvs:List V} {kws:List (Str × V)} {f:Addr} {fd:FuncData} {N ps:List Str} {cl:Nat → Str × List Str} {k:Nat}
theorem fnA_end {c:Ct} {m n:Nat} {fA:AS} {vs:List V} {H:Hp} {Q:VK} {N:List Str} (hN:N.length = m) (q:∃ w h as v h',as.length = n ∧ RepL c w as vs ∧ SR c w H h ∧ lenF n (fnA m fA) as h = some (v,h') ∧ ∀ w' H' u,Tr w H h w' H' h' → SR c w' H' h' → RepV c w' v u → Q u H') :
    tS c fA { nx:=fun _ H' => Q .non H',rt:=Q } (L2.start N vs) H:=by
  obtain ⟨w,h,as,v,h',hl,l,sr,e,k⟩:=q
  subst hN
  obtain ⟨⟨r,h1⟩,e1,e⟩:=bind_some (lenF_len e).2
  refine ⟨w,_,h,r,h1,reps_start l N,sr,e1,fun w1 H1 t1 s1=>?_⟩
  cases r with
  | nx s=>cases e; exact fun _ _=>k w1 H1 .non t1 s1 rfl
  | rt v=>cases e; exact fun u ru=>k w1 H1 u t1 s1 ru
  | bk s=>cases e
  | ct s=>cases e
theorem fn_ok (F:FunD K x qual params body scope dvs kws f fd) (S:FnScope N ps scope) (m n:Nat) (hm:N.length = m) (hn:ps.length = n) (fA:AS)
    (hb:∀ (cdv:Value) (A:Around) (outer:List Env) (s:Shared) (H:Hp) (E:XK),Room k (cxOf CX0 P w K mg base N qual scope f cdv A outer s H E).nox.A → (cxOf CX0 P w K mg base N qual scope f cdv A outer s H E).nox.A.units + 64 < cLine →
      PSs (cxOf CX0 P w K mg base N qual scope f cdv A outer s H E).nox body (tS ⟨K,w,mg,cl⟩ fA)):FnOk P w K mg base CX0 (k + 1) f fd ps (spA ⟨K,w,mg,cl⟩ n (lenF n (fnA m fA))):=by
  refine F.ok S (fun vs H Q E h=>?_) (fun cdv A outer s H vs Q E hr h=>⟨_,PSs.nox (hb cdv A outer s H E hr hr.units),fnA_end hm h⟩)
  obtain ⟨w',h',as,v,h1,hl,l,_⟩:=h
  rw [← l.len,hl,hn]
theorem fn_none {fd:FuncData} (n:Nat) (hn:ps.length = n):FnOk P w K mg base CX0 0 f fd ps (spA ⟨K,w,mg,cl⟩ n (lenF n fun _ _=>none)):=by
  refine ⟨fun vs H Q E h=>?_,fun A outer s H args us vs Q E hr e0 hb r hsp=>?_⟩
  · obtain ⟨w',h',as,v,h1,hl,l,_⟩:=h
    rw [← l.len,hl,hn]
  · obtain ⟨w',h',as,v,h1,hl,l,sr,e,_⟩:=hsp
    have:=(lenF_len e).2
    cases this
end
end Rp
end
section
namespace Rp
open PySem PySem.Spec PyProof.Rows L2
def tFlG (K:PySem.W.Frag) (ta:TE) (f:Str):TG:=fun y σ H Q=>ta σ H fun x H1=>∃ a C dx fs,x = .ref a ∧ H1 a = some (.ins C dx fs) ∧ Cls K C ∧ NoAttr K C f ∧ fs.length < 1000 ∧ Q σ (upd H1 a (.ins C dx (putF f y fs)))
section
variable {X:Cx} {cl:Nat → Str × List Str} {pos tpos:Pos} {o e:Expr} {f:AE} {fn:Str} {k j:Nat} {a:Addr}
theorem pg_fl {ta:TE} (ho:PE X o ta) (ha:∀ v,assign (.Attribute o fn pos) X.env v = (do
      let ov ← holding [v] (eval o X.env)
      standAt pos.atName
      holding [v,ov] (setAttr ov fn v)
      release [v,ov] []):=by intro _; rfl):PG X (.Attribute o fn pos) (tFlG X.K ta fn):=by
  refine ⟨fun pins s σ H v u Q I r h=>?_⟩
  rw [ha]
  refine wpAny_bind (wpAny_holding (thn (ho.run pins s σ H _ I h) fun ov s1 ⟨x,H1,I1,r1,a,C,dx,fs,ex,eH,c,n,l,q1⟩=>?_))
  subst ex
  obtain rfl:ov = Value.ref a:=r1
  exact wpAny_bind (wpAny_standAt (wpAny_bind (wpAny_holding (setattr_ok I1 eH c n l r fun s2 I2=>wpAny_release ⟨σ,_,I2,q1⟩))))
theorem ag_fl (F:ClsF (ctX X cl) k a) (hj:(cl k).2[j]? = some fn) (ho:PE X o (tA (ctX X cl) f)) (h:∀ {ta:TE},PE X o ta → PG X (.Attribute o fn pos) (tFlG X.K ta fn):=by exact fun h=>pg_fl h):PG X (.Attribute o fn pos) (tG (ctX X cl) (gFl k j f)):=by
  refine (h ho).wk fun v σ H Q q=>?_
  obtain ⟨w,b,s,h,s',h',ra,rs,sr,e,kk⟩:=q
  obtain ⟨⟨x,h1⟩,e1,e⟩:=bind_some e
  obtain ⟨h2,e2,e⟩:=bind_some e
  injection e with e
  injection e with es eh
  subst es eh
  refine ⟨w,s,h,x,h1,rs,sr,e1,fun w1 H1 u1 t1 s1 r1=>?_⟩
  obtain ⟨p,dx,fs,rfl,eH,hl,s3,t3⟩:=setFld_ok F hj s1 r1 (RepV.le t1.le _ _ ra) e2
  exact ⟨p,a,dx,fs,rfl,eH,F.cls,F.no fn (List.mem_of_getElem? hj),hl,kk w1 _ σ (t1.trans t3) s3 (rs.le t1.le)⟩
def aAugF (k j:Nat) (f g:AE):AS:=fun s h=>(f s h).bind fun r=>(aFldV k j r.1 r.2).bind fun x=>match x.1 with
  | .int m=>(g s r.2).bind fun y=>match y.1 with
    | .int n=>(setFld k j r.1 (.int (m + n)) y.2).bind fun h' => some (.nx s,h')
    | _=>none
  | _=>none
theorem as_augF {g:AE} (F:ClsF (ctX X cl) k a) (hj:(cl k).2[j]? = some fn) (ho:PE X o (tA (ctX X cl) f)) (he:PE X e (tA (ctX X cl) g)):PS X (.AugAssign (.Attribute o fn tpos) .Add e pos) (tS (ctX X cl) (aAugF k j f g)):=by
  refine (ps_fldaug ho he in_add).wk fun D σ H q=>?_
  obtain ⟨w,s,h,r,h',rs,sr,e,kk⟩:=q
  obtain ⟨⟨x,h1⟩,e1,e⟩:=bind_some e
  obtain ⟨⟨m',h2⟩,e2,e⟩:=bind_some e
  obtain ⟨xs,v',hl,hv,er⟩:=aFldV_inv e2
  injection er with ea eb
  subst ea eb
  have e:(match (generalizing:=false) m' with
    | AV.int m=>(g s h2).bind fun y=>match y.1 with
      | .int n=>(setFld k j x (.int (m + n)) y.2).bind fun h' => some (AR.nx s,h')
      | _=>none
    | _=>none) = some (r,h'):=e
  cases m' with
  | int m =>
    obtain ⟨⟨n',h3⟩,e3,e⟩:=bind_some e
    have e:(match (generalizing:=false) n' with
      | AV.int n=>(setFld k j x (.int (m + n)) h3).bind fun h' => some (AR.nx s,h')
      | _=>none) = some (r,h'):=e
    cases n' with
    | int n =>
      obtain ⟨h4,e4,e⟩:=bind_some e
      cases e
      refine ⟨w,s,h,x,h2,rs,sr,e1,fun w1 H1 u t1 s1 r1=>?_⟩
      obtain ⟨p,us,rfl,⟨n1,a',dx,mm,eH⟩,l⟩:=look_ok s1 r1 hl
      have:a' = a:=by
        have:=F.mg.symm.trans mm
        cases this; rfl
      subst this
      obtain ⟨y,ey,ry⟩:=l.get hv
      obtain rfl:y = .int m:=ry
      refine ⟨p,a',dx,_,.int m,rfl,eH,F.cls,F.no fn (List.mem_of_getElem? hj),zip_lookup _ us j fn _ F.nd hj ey,w1,s,h2,.int n,h3,rs.le t1.le,s1,e3,fun w2 H2 u2 t2 s2 r2=>?_⟩
      obtain rfl:u2 = .int n:=r2
      obtain ⟨p2,dx2,fs2,e5,eH2,hl2,s3,t3⟩:=setFld_ok (y:=.int (m + n)) (v:=.int (m + n)) F hj s2 (RepV.le t2.le _ _ r1) rfl e4
      cases e5
      exact ⟨m,n,rfl,rfl,dx2,fs2,eH2,hl2,kk w2 _ (t1.trans (t2.trans t3)) s3 σ (rs.le (t1.trans t2).le)⟩
    | _=>cases e
  | _=>cases e
end
section
variable {prog:Program} {w:World} {A:Around} {E:Value → Shared → Prop} {s:Shared}
theorem star_unpack {l:Addr} {items:Array Value} {n i:Nat} {Q:List Value → Shared → Prop} (hl:s.heap.IsList l items) (hh:A.handled = none) (hi:i < n) (hn:n ≤ items.size + 1) (hz:items.size ≤ 16384)
    (h:∀ (h':Heap) (tk:Tok),(∀ b o,b ≠ s.heap.objs.size → s.heap.get? b = some o → h'.get? b = some o) → Q (items.toList.take i ++ [.ref h'.objs.size] ++ (items.toList.drop i).drop (items.size + 1 - n))
      { s with heap:=h'.push { cls:=.type "list",data:=.seq ((items.toList.drop i).take (items.size + 1 - n)).toArray },toks:=tk }):wpAny (model prog w) A (unpackItems (.ref l) n (some i)) Q E s:=by
  have hlt:l ≠ s.heap.objs.size:=by obtain ⟨o,ho,_⟩:=hl; exact Nat.ne_of_lt (Heap.lt_size ho)
  have hll:l < s.heap.objs.size:=by obtain ⟨o,ho,_⟩:=hl; exact Heap.lt_size ho
  unfold unpackItems
  refine wpAny_bind ?_
  unfold notIterableAtAll
  refine wpAny_bind (wpAny_specialOf hl.typeIs slot_list_iter.lookup ?_)
  refine wpAny_pure ?_
  simp only [Bool.false_eq_true,if_false]
  refine wpAny_bind (wpAny_holding (wpAny_pyIter_list hl ?_))
  refine wpAny_bind (wpAny_holding (PySem.W.kun_draw hlt i 0 _ _ ⟨_,Heap.get?_push_size _ rfl,rfl,rfl⟩ (hl.push _) (by omega) fun h₁ hit₁ hs₁=>?_))
  have hl₁:h₁.IsList l items:=(hl.push _).extBut hs₁.extBut hlt
  rw [Nat.zero_add] at hit₁
  have hit₁':=hit₁
  obtain ⟨oi,hoi,_⟩:=hit₁'
  have hl₁':=hl₁
  obtain ⟨ol,hol,_⟩:=hl₁'
  rw [List.drop_zero]
  have hfl:(items.toList.take i).length = i:=by rw [List.length_take,Array.length_toList]; omega
  rw [if_neg (show ¬ ((items.toList.take i).length < i) by rw [hfl]; omega)]
  refine wpAny_bind (wpAny_holding (PySem.W.kun_collect (s:={ s with heap:=h₁ }) (T := "list_iterator") (.inr (.inr (.inl rfl))) (Walks.list (A:=A.in1) hh s.heap.objs.size l hlt items) (fun j u st=>st.1.typeIs) (k:=i) (by omega) ⟨hit₁,hl₁⟩ (Heap.lt_size hoi) (Heap.lt_size hol) (fun h₂ tk hk=>?_) (by rw [sizeLine_eq]; omega)))
  have hrl:(items.toList.drop i).length = items.size - i:=by rw [List.length_drop,Array.length_toList]
  have hmid:(items.toList.drop i).length - (n - 1 - i) = items.size + 1 - n:=by rw [hrl]; omega
  show wpAny _ _ (if (items.toList.drop i).length < n - 1 - i then _ else _) _ _ _
  rw [if_neg (by rw [hrl]; omega)]
  show wpAny _ _ (newList ((items.toList.drop i).take ((items.toList.drop i).length - (n - 1 - i))) >>= fun d=>pure (items.toList.take i ++ [d] ++ (items.toList.drop i).drop ((items.toList.drop i).length - (n - 1 - i)))) _ _ _
  rw [hmid]
  have he:∀ b o,b ≠ s.heap.objs.size → s.heap.get? b = some o → h₂.get? b = some o:=fun b o hb e=>hk b o hb (hs₁.extBut b o hb (Heap.get?_push_of_some _ e))
  exact wpAny_bind (wpAny_newList (wpAny_pure (h h₂ tk he)) (by rw [List.length_take,hrl,sizeLine_eq]; omega))
end
def gStarT (K:PySem.W.Frag) (n i:Nat) (t:TGs):TG:=fun v σ H Q=>∃ a xs,v = .ref a ∧ SqL K H a xs ∧ n ≤ xs.length + 1 ∧ xs.length ≤ 16384 ∧ ∀ D,H D = none →
  t (xs.take i ++ [.ref D] ++ (xs.drop i).drop (xs.length + 1 - n)) σ (upd H D (.lst ((xs.drop i).take (xs.length + 1 - n)))) Q
theorem vals_take {xs:List V} {us:List Value} (r:Vals xs us) (n:Nat):Vals (xs.take n) (us.take n):=by
  induction r generalizing n with
  | nil=>rw [List.take_nil,List.take_nil]; exact .nil
  | cons h t ih =>
    cases n with
    | zero=>exact .nil
    | succ n=>exact .cons h (ih n)
section
variable {X:Cx} {cl:Nat → Str × List Str} {pos:Pos} {es es':List Expr} {k n i:Nat} {gs:AGs}
theorem pg_star {t:TGs} (hc:X.calm = true) (h:PGs X es' t) (hi:i < n) (hm:(assignEach es X.env).map (·.2) = (assignEach es' X.env).map (·.2)) (hn:(assignEach es X.env).length = n) (hst:(assignEach es X.env).findIdx? (·.1) = some i) :
    PG X (.Tuple es k pos) (gStarT X.K n i t):=by
  refine ⟨fun pins s σ H v u Q I r hw=>?_⟩
  obtain ⟨a,xs,e1,hq,hl,hz16,hw⟩:=hw
  subst e1
  cases r
  obtain ⟨its,rv,pl,hz⟩:=I.list hq
  have hl':s.heap.IsList a its.toArray:=by
    obtain ⟨o,m,e,c,d,q⟩:=pl
    exact ⟨o,e,c,m,q⟩
  have hlen:xs.length = its.toArray.size:=rv.length.trans (by simp)
  rw [PyProof.Rows.assign_Tuple]
  refine wpAny_bind (wpAny_standAt ?_)
  unfold unpack
  rw [hn,hst,hm]
  refine wpAny_bind (wpAny_holding (star_unpack hl' (I.ok.hd hc) hi (by omega) (by omega) fun h' tk hx=>?_))
  have I1:Inv X pins σ H { s with heap:=h',toks:=tk }:=I.kept (t':=tk) fun b o e=>hx b o (Nat.ne_of_lt (Heap.lt_size e)) e
  have hD:H h'.objs.size = none:=I1.hok.fresh (Nat.le_refl _)
  have rm:Vals ((xs.drop i).take (xs.length + 1 - n)) ((its.drop i).take (its.toArray.size + 1 - n)):=by
    rw [hlen]
    exact vals_take (rv.drop i) _
  have I2:Inv X pins σ (upd H h'.objs.size (.lst ((xs.drop i).take (xs.length + 1 - n)))) { s with heap:=h'.push { cls:=.type "list",data:=.seq ((its.drop i).take (its.toArray.size + 1 - n)).toArray },toks:=tk }:=by
    refine I1.laid (t':=tk) (fun b o e=>Heap.get?_push_of_some _ e) (Nat.le_refl _) ⟨?_,_,0,rm,Heap.get?_push_size _ rfl⟩
    rw [List.length_take,List.length_drop,sizeLine_eq]
    omega
  have e0:its.toArray.toList = its:=by simp
  rw [e0]
  refine h.run pins _ σ _ (xs.take i ++ [.ref h'.objs.size] ++ (xs.drop i).drop (xs.length + 1 - n)) _ Q I2 ?_ (hw _ hD)
  rw [hlen]
  exact ((vals_take rv i).append (.cons (show L2.RelV (V.ref _) (Value.ref _) from rfl) .nil)).append ((rv.drop i).drop _)
def gStar (n i:Nat) (gs:AGs):AG:=fun v s h=>match look h v with
  | some (.lst,xs)=>if n ≤ xs.length + 1 ∧ xs.length ≤ 16384 then gs (xs.take i ++ [.nod .lst ((xs.drop i).take (xs.length + 1 - n))] ++ (xs.drop i).drop (xs.length + 1 - n)) s h else none
  | _=>none
def unstar:List Expr → List Expr
  | []=>[]
  | .Starred t _ :: r=>t :: unstar r
  | t :: r=>t :: unstar r
theorem ag_star (n i:Nat) (hc:X.calm = true) (h:PGs X (unstar es) (tGs (ctX X cl) gs)) (hi:i < n:=by decide) (hm:(assignEach es X.env).map (·.2) = (assignEach (unstar es) X.env).map (·.2):=by rfl) (hn:(assignEach es X.env).length = n:=by rfl)
    (hst:(assignEach es X.env).findIdx? (·.1) = some i:=by rfl):PG X (.Tuple es k pos) (tG (ctX X cl) (gStar n i gs)):=by
  refine (pg_star hc h hi hm hn hst).wk fun v σ H Q q=>?_
  obtain ⟨w,a,s,h,s',h',ra,rs,sr,e,kk⟩:=q
  unfold gStar at e
  split at e
  · rename_i xs hl
    split at e
    · rename_i hz
      obtain ⟨p,us,rfl,nh,l⟩:=look_ok sr ra hl
      have hle:=l.len
      refine ⟨p,us,rfl,SqL.of nh,by omega,by omega,fun D hD=>?_⟩
      obtain ⟨w1,S1,T1,r1⟩:=sr.newF (k:=.lst) (o:=.lst ((us.drop i).take (us.length + 1 - n))) hD (RepL.take (us.length + 1 - n) (RepL.drop i l)) fun R e=>e
      have l1:=RepL.le T1.le _ _ l
      refine ⟨w1,_,s,h,s',h',((RepL.take i l1).append (.cons r1 .nil)).append (RepL.drop (us.length + 1 - n) (RepL.drop i l1)),rs.le T1.le,S1,?_,fun w2 H2 σ2 t2 s2 r2=>kk w2 H2 σ2 (T1.trans t2) s2 r2⟩
      rw [← hle]; exact e
    · cases e
  · cases e
end
end Rp
end
section
namespace Rp
open PySem PySem.Spec PyProof.Rows L2
def dMrg {α:Type} (acc:List Key × List α) (ps:List (Key × α)):List Key × List α:=ps.foldl (fun acc p=>dPut acc.1 acc.2 p.1 p.2) acc
def PR (c:Ct) (w:Wd) (ps:List (Key × AV)) (vs:List (Key × V)):Prop:=ps.map (·.1) = vs.map (·.1) ∧ RepL c w (ps.map (·.2)) (vs.map (·.2))
theorem PR.le {c:Ct} {w w':Wd} {ps:List (Key × AV)} {vs:List (Key × V)} (h:PR c w ps vs) (l:WLe w w'):PR c w' ps vs:=⟨h.1,RepL.le l _ _ h.2⟩
theorem mergeK_zip:∀ (kvs:List (Key × V)) (ks:List Key) (us:List V),ks.length = us.length → mergeK (ks.zip us) kvs = (dMrg (ks,us) kvs).1.zip (dMrg (ks,us) kvs).2 ∧ (dMrg (ks,us) kvs).1.length = (dMrg (ks,us) kvs).2.length
  | [],ks,us,h=>⟨rfl,h⟩
  | p :: r,ks,us,h=>by
    have e:mergeK (ks.zip us) (p :: r) = mergeK (putK (ks.zip us) p.1 p.2) r:=rfl
    rw [e,putK_zip ks us p.1 p.2 h]
    exact mergeK_zip r _ _ (dPut_len ks us p.1 p.2 h)
theorem dMrg_rep {c:Ct} {w:Wd}:∀ (ps:List (Key × AV)) (vs:List (Key × V)) (ks:List Key) (xs:List AV) (us:List V),PR c w ps vs → RepL c w xs us →
    (dMrg (ks,xs) ps).1 = (dMrg (ks,us) vs).1 ∧ RepL c w (dMrg (ks,xs) ps).2 (dMrg (ks,us) vs).2
  | [],[],ks,xs,us,_,r=>⟨rfl,r⟩
  | [],_ :: _,ks,xs,us,h,r=>by cases h.1
  | _ :: _,[],ks,xs,us,h,r=>by cases h.1
  | p :: ps,q :: vs,ks,xs,us,h,r=>by
    obtain ⟨e,l⟩:=h
    have e1:p.1 = q.1 ∧ ps.map (·.1) = vs.map (·.1):=by simpa using e
    obtain ⟨u,us',e2,r1,r2⟩:=l
    cases e2
    have e3:(dPut ks xs p.1 p.2).1 = (dPut ks us q.1 q.2).1:=by rw [e1.1]; exact dPut_fst ks xs us q.1 p.2 q.2
    have r3:RepL c w (dPut ks xs p.1 p.2).2 (dPut ks us q.1 q.2).2:=by rw [e1.1]; exact dPut_rep r r1
    have:=dMrg_rep ps vs (dPut ks xs p.1 p.2).1 (dPut ks xs p.1 p.2).2 (dPut ks us q.1 q.2).2 ⟨e1.2,r2⟩ r3
    show (dMrg ((dPut ks xs p.1 p.2).1,(dPut ks xs p.1 p.2).2) ps).1 = (dMrg ((dPut ks us q.1 q.2).1,(dPut ks us q.1 q.2).2) vs).1 ∧ RepL c w (dMrg ((dPut ks xs p.1 p.2).1,(dPut ks xs p.1 p.2).2) ps).2 (dMrg ((dPut ks us q.1 q.2).1,(dPut ks us q.1 q.2).2) vs).2
    rw [← e3]
    exact this
def aPairs:List (AE × AE) → LS → AH → Option (List (Key × AV) × AH)
  | [],_,h=>some ([],h)
  | (f,g) :: r,s,h=>(f s h).bind fun x=>(g s x.2).bind fun y=>(toKey x.1).bind fun k=>(aPairs r s y.2).bind fun z=>some ((k,y.1) :: z.1,z.2)
def aDisp (fs:List (AE × AE)):AE:=fun s h=>(aPairs fs s h).bind fun r=>some (.ref r.2.next,r.2.new (.dct (dMrg ([],[]) r.1).1,(dMrg ([],[]) r.1).2))
theorem aPairs_len:∀ {fs:List (AE × AE)} {s:LS} {h:AH} {r:List (Key × AV) × AH},aPairs fs s h = some r → r.1.length = fs.length
  | [],s,h,r,e=>by cases e; rfl
  | (f,g) :: fs,s,h,r,e=>by
    obtain ⟨x,_,e⟩:=bind_some e
    obtain ⟨y,_,e⟩:=bind_some e
    obtain ⟨k,_,e⟩:=bind_some e
    obtain ⟨z,ez,e⟩:=bind_some e
    cases e
    show z.1.length + 1 = fs.length + 1
    rw [aPairs_len ez]
theorem tPairs_of {c:Ct}:∀ {fs:List (AE × AE)} {σ:L2.St} {H:Hp} {Q:List (V × V) → Hp → Prop} {w:Wd} {s:LS} {h h':AH} {ps:List (Key × AV)},RepS c w s σ → SR c w H h → aPairs fs s h = some (ps,h') →
    (∀ w' H' vs,Tr w H h w' H' h' → SR c w' H' h' → PR c w' ps vs → Q (vs.map fun kv=>(kV kv.1,kv.2)) H') → tPairs (fs.map fun p=>(tA c p.1,tA c p.2)) σ H Q
  | [],σ,H,Q,w,s,h,h',ps,rs,sr,e,k=>by
    cases e
    exact k w H [] (.refl _ _ _) sr ⟨rfl,rfl⟩
  | (f,g) :: fs,σ,H,Q,w,s,h,h',ps,rs,sr,e,k=>by
    obtain ⟨⟨x,h1⟩,e1,e⟩:=bind_some e
    obtain ⟨⟨y,h2⟩,e2,e⟩:=bind_some e
    obtain ⟨kk,ek,e⟩:=bind_some e
    obtain ⟨⟨zs,h3⟩,e3,e⟩:=bind_some e
    cases e
    refine ⟨w,s,h,x,h1,rs,sr,e1,fun w1 H1 u t1 s1 r1=>⟨w1,s,h1,y,h2,rs.le t1.le,s1,e2,fun w2 H2 v t2 s2 r2=>?_⟩⟩
    refine tPairs_of ((rs.le t1.le).le t2.le) s2 e3 fun w3 H3 vs t3 s3 p3=>?_
    have:=k w3 H3 ((kk,v) :: vs) (t1.trans (t2.trans t3)) s3 ⟨by rw [List.map_cons,List.map_cons,p3.1],.cons (RepV.le t3.le _ _ r2) p3.2⟩
    rw [toKey_rep ek r1]
    exact this
inductive PDa (X:Cx) (cl:Nat → Str × List Str):List (Option Expr) → List Expr → List (AE × AE) → Prop where
  | nil:PDa X cl [] [] []
  | cons {k v:Expr} {f g:AE} {ks:List (Option Expr)} {vs:List Expr} {fs:List (AE × AE)} (hk:PE X k (tA (ctX X cl) f)) (hv:PE X v (tA (ctX X cl) g)) (r:PDa X cl ks vs fs):PDa X cl (some k :: ks) (v :: vs) ((f,g) :: fs)
section
variable {X:Cx} {cl:Nat → Str × List Str} {pos apos cpos:Pos} {o e:Expr} {f g:AE} {keys:List (Option Expr)} {values:List Expr} {fs:List (AE × AE)}
theorem PDa.pps {pos:Pos}:∀ {ks:List (Option Expr)} {vs:List Expr} {fs:List (AE × AE)},PDa X cl ks vs fs → PPs X pos ks vs (fs.map fun p=>(tA (ctX X cl) p.1,tA (ctX X cl) p.2))
  | _,_,_,.nil=>pps_nil
  | _,_,_,.cons hk hv r=>pps_cons hk hv r.pps
theorem PDa.lens:∀ {ks:List (Option Expr)} {vs:List Expr} {fs:List (AE × AE)},PDa X cl ks vs fs → ks.length = fs.length ∧ ks.length = vs.length ∧ ks.all (·.isSome) = true
  | _,_,_,.nil=>⟨rfl,rfl,rfl⟩
  | _,_,_,.cons hk hv r=>⟨by rw [List.length_cons,List.length_cons,r.lens.1],by rw [List.length_cons,List.length_cons,r.lens.2.1],by rw [List.all_cons,r.lens.2.2]; rfl⟩
theorem disp_new {c:Ct} {w:Wd} {H:Hp} {h:AH} {p:Addr} {w2:Wd} {H2:Hp} {h2:AH} {ps:List (Key × AV)} {vs:List (Key × V)} (hp:H p = none) (T:Tr w H h w2 H2 h2) (S2:SR c w2 H2 h2) (n:¬ Own w2 h2 p) (hd:∀ φ,H2 p ≠ some (.ext φ)) (pr:PR c w2 ps vs) :
    ∃ w',SR c w' (upd H2 p (.dK (mergeK [] vs))) (h2.new (.dct (dMrg ([],[]) ps).1,(dMrg ([],[]) ps).2)) ∧ Tr w H h w' (upd H2 p (.dK (mergeK [] vs))) (h2.new (.dct (dMrg ([],[]) ps).1,(dMrg ([],[]) ps).2)) ∧ RepV c w' (.ref h2.next) (.ref p):=by
  have S':SR c w2 (cutH H2 p) h2:=S2.at_off n hd fun a ha=>cut_ne ha
  have T':Tr w H h w2 (cutH H2 p) h2:=T.at_off hp fun a ha=>cut_ne ha
  obtain ⟨e1,r1⟩:=dMrg_rep ps vs [] [] [] pr (show RepL c w2 [] [] from rfl)
  have hm:=mergeK_zip vs [] [] rfl
  obtain ⟨w',S3,T3,r⟩:=S'.newM (k:=.dct (dMrg ([],[]) ps).1) (o:=.dK (mergeK [] vs)) cut_same r1 fun H e=>⟨by rw [e1]; exact hm.2,by rw [e,e1]; exact congrArg (fun z=>some (HO.dK z)) hm.1⟩
  have:upd (cutH H2 p) p (.dK (mergeK [] vs)) = upd H2 p (.dK (mergeK [] vs)):=by
    funext a
    by_cases ha:a = p
    · rw [ha,upd_same,upd_same]
    · rw [upd_ne ha,upd_ne ha,cut_ne ha]
  rw [this] at S3 T3
  exact ⟨w',S3,T'.trans T3,r⟩
theorem ae_disp (h:PDa X cl keys values fs) (h0:keys ≠ []:=by exact nofun) (h15:fs.length ≤ 15:=by decide):PE X (.Dict keys values pos) (tA (ctX X cl) (aDisp fs)):=by
  refine (pe_disp h.pps h.lens.2.2 h.lens.2.1 h0 (by rw [h.lens.1]; exact h15)).wk fun σ H Q q=>?_
  obtain ⟨w,s,hh,v,h',rs,sr,e,kk⟩:=q
  obtain ⟨⟨ps,h1⟩,e1,e⟩:=bind_some e
  cases e
  intro p hp
  have n0:=sr.notOwn hp
  refine tPairs_of (w:=w) (h:=hh) rs (sr.at_off n0 (fun φ z=>by rw [hp] at z; cases z) fun a ha=>upd_ne ha) e1 fun w2 H2 vs t2 s2 pr=>?_
  obtain ⟨n2,eD⟩:=t2.off n0 upd_same
  have T0:Tr w H hh w2 H2 h1:=((Tr.refl w H hh).at_off hp (H':=upd H p (.dK [])) fun a ha=>upd_ne ha).trans t2
  obtain ⟨w',S3,T3,r⟩:=disp_new hp T0 s2 n2 (fun φ z=>by rw [eD] at z; cases z) pr
  refine ⟨eD,vs,rfl,?_,kk w' _ _ T3 S3 r⟩
  have h1:=aPairs_len e1
  have h2:=congrArg List.length pr.1
  rw [List.length_map,List.length_map] at h2
  have h1':ps.length = fs.length:=h1
  omega
theorem ae_disp0:PE X (.Dict [] [] pos) (tA (ctX X cl) (aDisp [])):=by
  refine pe_dnewK.wk fun σ H Q q=>?_
  obtain ⟨w,s,hh,v,h',rs,sr,e,kk⟩:=q
  cases e
  intro p hp
  obtain ⟨w',S3,T3,r⟩:=disp_new (ps:=[]) (vs:=[]) hp (Tr.refl w H hh) sr (sr.notOwn hp) (fun φ z=>by rw [hp] at z; cases z) (show PR (ctX X cl) w [] [] from ⟨rfl,rfl⟩)
  exact kk w' _ _ T3 S3 r
def aUpd (f g:AE):AE:=fun s h=>(f s h).bind fun r=>(cellD r.2 r.1).bind fun _=>(g s r.2).bind fun q=>(cellD q.2 r.1).bind fun d=>(dctOf q.2 q.1).bind fun z =>
  if q.1 ≠ .ref d.1 ∧ d.2.1.length + z.1.length ≤ sizeLine then some (.non,q.2.put d.1 (.dct (dMrg (d.2.1,d.2.2) (z.1.zip z.2)).1,(dMrg (d.2.1,d.2.2) (z.1.zip z.2)).2)) else none
def tUpd (td te:TE):TE:=fun σ H Q=>td σ H fun x H1=>∃ a,x = .ref a ∧ IsD H1 a ∧ te σ H1 fun y H2=>∃ b kvs more,y = .ref b ∧ a ≠ b ∧ H2 a = some (.dK kvs) ∧ Rd H2 b (.dK more) ∧ kvs.length + more.length ≤ sizeLine ∧ Q .non (upd H2 a (.dK (mergeK kvs more)))
theorem pe_upd {td te:TE} (ho:PE X o td) (he:PE X e te) (m:M1 X o "update" apos e cpos):PE X (.Call (.Attribute o "update" apos) [e] [] cpos) (tUpd td te):=by
  refine ⟨fun pins s σ H Q I h=>?_⟩
  refine wpAny_Call_method m.base m.few m.line PySem.F.plainAttrs_dict PySem.F.slot_dict_update PySem.F.type_dict_update (thn (ho.run pins s σ H _ I h) fun u s1 ⟨x,H1,I1,rx,a,ex,d,q1⟩=>?_)
  subst ex
  obtain rfl:u = Value.ref a:=rx
  obtain ⟨t1,t2,_⟩:=isD_at I1 d
  refine ⟨t1,t2,?_⟩
  rw [m.trees]
  refine Calls.callWith_builtin rfl (Calls.evalArgs_plain (Calls.spliced_cons (thn (he.run pins s1 σ H1 _ I1 q1) fun iv s2 ⟨y,H2,I2,ry,b,kvs,more,ey,hab,ea,eb,hz,q2⟩=>Calls.spliced_nil ?_)))
  subst ey
  obtain rfl:iv = Value.ref b:=ry
  obtain ⟨z1,y1,va,ra,da⟩:=(show ObjOk X.prog X.w H2 s2.heap a (.dK kvs) from I2.hok a _ ea)
  obtain ⟨z2,y2,vb,rb,db⟩:=dk_rd I2.hok eb
  refine call_meetsIn PySem.F.slot_dict_update da.typeIs PySem.F.entry_dict_update (PySem.F.args_dict_update_2 _ _) (meets_dict_update (mixKind X.prog X.w) a b hab y2)
    ⟨va,vb,da,db,(by rw [← ra.length,← rb.length]; exact hz),fun h' hd' ho' hs=>?_⟩
  have new:ObjOk X.prog X.w (upd H2 a (.dK (mergeK kvs more))) h' a (.dK (mergeK kvs more)):=by
    refine ⟨Nat.le_trans (length_mergeK more kvs) hz,y1,_,KV.merge rb ra,hd'⟩
  have ho:∃ o,h'.get? a = some o:=by
    obtain ⟨o,es,ep,e1,_⟩:=hd'
    exact ⟨o,e1⟩
  exact ⟨.non,_,I2.write (x:=a) (e:=a) (t':=s2.toks) (by rw [ea]; exact True.intro) (.inl rfl) (fun c q hc z=>(hs.2 c hc).trans z) ho new,rfl,q2⟩
theorem cellD_ref {h:AH} {a:AV} {n:Nat} {ks:List Key} {xs:List AV} (e:cellD h a = some (n,ks,xs)):a = .ref n ∧ h.get n = some (.dct ks,xs):=by
  unfold cellD at e
  split at e
  · rename_i m
    split at e
    · rename_i js ys hg
      cases e
      exact ⟨rfl,hg⟩
    · cases e
  · cases e
theorem ae_update (ho:PE X o (tA (ctX X cl) f)) (he:PE X e (tA (ctX X cl) g)) (m:M1 X o "update" apos e cpos:=by exact ⟨rfl,rfl,rfl,rfl⟩):PE X (.Call (.Attribute o "update" apos) [e] [] cpos) (tA (ctX X cl) (aUpd f g)):=by
  refine (pe_upd ho he m).wk fun σ H Q q=>?_
  obtain ⟨w,s,h,v,h',rs,sr,e,kk⟩:=q
  obtain ⟨⟨x,h1⟩,e1,e⟩:=bind_some e
  obtain ⟨⟨n0,ks0,xs0⟩,e2,e⟩:=bind_some e
  obtain ⟨⟨y,h2⟩,e3,e⟩:=bind_some e
  obtain ⟨⟨n,ks,xs⟩,e4,e⟩:=bind_some e
  obtain ⟨⟨js,ys⟩,e5,e⟩:=bind_some e
  split at e
  · rename_i hc
    cases e
    refine ⟨w,s,h,x,h1,rs,sr,e1,fun w1 H1 u t1 s1 r1=>?_⟩
    obtain ⟨p,us,rfl,hl,eH,l,_⟩:=cellD_ok s1 r1 e2
    refine ⟨p,rfl,.inl ⟨_,.inl eH⟩,w1,s,h1,y,h2,rs.le t1.le,s1,e3,fun w2 H2 u2 t2 s2 r2=>?_⟩
    have r1':=RepV.le t2.le _ _ r1
    obtain ⟨p',us2,e6,hl2,eH2,l2,wr⟩:=cellD_ok s2 r1' e4
    cases e6
    obtain ⟨b,vs,rfl,hl3,rd,l3⟩:=dctOf_ok s2 r2 e5
    obtain ⟨ex,hg⟩:=cellD_ref e4
    subst ex
    have hab:p ≠ b:=fun z=>by
      subst z
      obtain ⟨q1,i1,q2⟩:=r1'
      cases q2
      cases y with
      | ref m =>
        obtain ⟨q1,i2,q2⟩:=r2
        cases q2
        have hm:(h2.get m).isSome = true:=by
          unfold dctOf at e5
          cases hz:h2.get m with
          | none =>
            have:look h2 (.ref m) = none:=hz
            rw [this] at e5; cases e5
          | some z=>rfl
        have:=s2.inj n m p (by rw [hg]; rfl) hm i1 i2
        exact hc.1 (by rw [this])
      | nod k zs =>
        obtain ⟨q1,us',q2,nr,_⟩:=r2
        cases q2
        have sp:=s2.sep n p (by rw [hg]; rfl) i1
        cases k with
        | dct ls=>obtain ⟨_,od,nr⟩:=nr; rw [sp] at nr; cases nr
        | ldct ls=>exact nr.elim
        | _=>cases e5
      | _=>cases e5
    have lz:(ks.zip us2).length = ks.length:=by rw [List.length_zip,← hl2,Nat.min_self]
    have lz3:(js.zip vs).length = js.length:=by rw [List.length_zip,← hl3,Nat.min_self]
    refine ⟨b,ks.zip us2,js.zip vs,rfl,hab,eH2,rd,by rw [lz,lz3]; exact hc.2,?_⟩
    have pr:PR (ctX X cl) w2 (js.zip ys) (js.zip vs):=by
      have hy:ys.length = vs.length:=l3.len
      exact ⟨by rw [List.map_fst_zip (by omega),List.map_fst_zip (by omega)],by rw [List.map_snd_zip (by omega),List.map_snd_zip (by omega)]; exact l3⟩
    obtain ⟨e7,r7⟩:=dMrg_rep _ _ ks xs us2 pr l2
    obtain ⟨e8,e9⟩:=mergeK_zip (js.zip vs) ks us2 hl2
    rw [e8]
    obtain ⟨S3,T3⟩:=wr (dMrg (ks,us2) (js.zip vs)).1 (dMrg (ks,xs) (js.zip ys)).2 (dMrg (ks,us2) (js.zip vs)).2 e9 r7
    rw [← e7] at S3 T3 ⊢
    exact kk w2 _ .non (t1.trans (t2.trans T3)) S3 rfl
  · cases e
end
end Rp
end
section
namespace Rp
open PySem PySem.Spec PyProof.Rows L2
theorem fnr_of {P:Program} {w:World} {K:PySem.W.Frag} {mg:Str → Option Value} {base:Heap} {CX:CXT} {k:Nat} {f:Addr} {fd:FuncData} {ps:List Str} {sp:Sp} (h:FnOk P w K mg base CX k f fd ps sp) (b:Binds K fd ps []):FnR P w K mg base CX k f sp:=by
  intro A outer s H us vs Q E hr e0 r hs
  have KX:K.In s.heap:=e0.mod.kin.keeps fun b o e=>(e0.bs b o e).1
  refine h.run A outer s H ⟨us,[]⟩ us vs Q E hr e0 ?_ r hs
  have hl:=h.len _ _ _ _ hs
  have:=b s us KX (by rw [List.append_nil,← r.length]; exact hl)
  simpa using this
section
variable {X:Cx} {pins:List (Addr × Obj)} {σ:L2.St} {H:Hp} {s:Shared} {C a g:Addr} {dx:Addr} {fs:List (Str × V)} {n:Nat} {sp:Sp}
theorem own_run {A:Around} {Q:VK} {us:List Value} {ws:List V} (F:FnR X.prog X.w X.K X.mg X.base CX0 n g sp) (hr:Room n A) (e0:Env0 X.prog X.w X.K X.mg X.base A X.stack s H) (I:Inv X pins σ H s) (r:Vals ws us) (h:sp ws H Q E0) {E:Value → Shared → Prop} :
    wpAny (model X.prog X.w) A (call (.ref g) us) (EP X pins σ Q) E s:=by
  refine wpAny_call (codeAny_mono (F A X.stack s H us ws Q E0 hr e0 r h) fun r s' hq=>?_)
  cases r with
  | error e=>exact hq.elim
  | ok fl =>
    cases fl with
    | ret u=>exact I.after hq
    | next=>exact False.elim hq
    | brk=>exact False.elim hq
    | cont=>exact False.elim hq
theorem inst_of (I:Inv X pins σ H s) (e:H a = some (.ins C dx fs)):∃ ox od,PySem.W.InstAt s.heap a ox C (some od):=by
  obtain ⟨mA,J,_⟩:=ins_get I.hok e
  obtain ⟨od,J,_⟩:=J.look
  exact ⟨_,od,J⟩
def rOwn1 (C:Addr) (sp:Sp) (P:V → V → Prop):List V → Hp → VK → Prop:=fun xs H Q=>∃ a dx fs,xs = [.ref a] ∧ H a = some (.ins C dx fs) ∧ sp [.ref a] H (fun v H' => ∃ z,P v z ∧ Q z H') E0
theorem call_strO (hm:Meth X.K C "__str__" g) (F:FnR X.prog X.w X.K X.mg X.base CX0 n g sp) (hr:Room (n + 2) X.A):CallR X (.type "str") (rOwn1 C sp fun v z=>∃ i:Str,v = .str i ∧ z = .str i):=by
  intro pins s σ H xs us Q I r h
  obtain ⟨a,dx,fs,rfl,e,q⟩:=h
  obtain ⟨u,rfl,ru⟩:=r.one
  cases (show u = Value.ref a from ru)
  obtain ⟨ox,od,J⟩:=inst_of I e
  have hr2:Room n X.A.in1.in1:=(show Room (n + 1) X.A.in1 from Room.in1 hr).in1
  refine PySem.W.kso_call hr2.units0 I.kIn J hm.at_ hm.fn (wpAny_mono (own_run F hr2 I.env0.in1.in1 I (.cons (show L2.RelV (V.ref a) (Value.ref a) from rfl) .nil) q) (fun v s' z=>?_) fun _ _ x=>x)
  obtain ⟨v',H',I',rv,z,⟨i,e1,e2⟩,qz⟩:=z
  subst e1 e2
  obtain ⟨t,rfl⟩:=(show ∃ t,v = Value.str i t from rv)
  exact ⟨.str i,H',I',⟨_,rfl⟩,qz⟩
end
section
variable {prog:Program} {w:World} {A:Around} {E:Value → Shared → Prop} {s:Shared} {K:PySem.W.Frag} {x C g:Addr} {ox:Obj} {od:Option Obj}
end
section
variable {X:Cx} {pins:List (Addr × Obj)} {σ:L2.St} {H:Hp} {s:Shared} {C a g:Addr} {dx:Addr} {fs:List (Str × V)} {n:Nat} {sp:Sp}
end
section
variable {prog:Program} {w:World} {A:Around} {E:Value → Shared → Prop} {s:Shared} {K:PySem.W.Frag} {x C g L:Addr} {ox:Obj} {od:Option Obj} {h₀:Heap} {m:Str → Option Value} {b tb:Value}
end
section
variable {X:Cx} {pins:List (Addr × Obj)} {σ:L2.St} {H:Hp} {s:Shared} {C a g:Addr} {n:Nat} {sp:Sp}
end
def aO1 (c:Nat) (F:AF) (P:AV → Option AV) (as:List AV) (h:AH):Option (AV × AH):=match as with
  | [a]=>match look h a with
    | some (.ins c',_)=>if c' = c then (F [a] h).bind fun r=>(P r.1).bind fun z=>some (z,r.2) else none
    | _=>none
  | _=>none
theorem s_O1 {ct:Ct} {k:Nat} {C:Addr} {F:AF} {P:AV → Option AV} {Pc:V → V → Prop} (Fc:ClsF ct k C) (hP:∀ w v z u,P v = some z → RepV ct w v u → ∃ y,Pc u y ∧ RepV ct w z y):SndN ct (rOwn1 C (spA ct 1 (lenF 1 F)) Pc) (aO1 k (lenF 1 F) P):=by
  intro w H h as us v h' Q S r e kk
  unfold aO1 at e
  split at e
  · rename_i a
    split at e
    · rename_i c' xs hl
      split at e
      · rename_i hc
        subst hc
        obtain ⟨⟨b,h1⟩,e1,e⟩:=bind_some e
        obtain ⟨z,e2,e⟩:=bind_some e
        injection e with e
        injection e with ea eb
        subst ea eb
        obtain ⟨u,us',rfl,r1,r2⟩:=r
        obtain rfl:us' = []:=r2
        obtain ⟨p,us,rfl,⟨n1,a',dx,mm,eH⟩,l⟩:=look_ok S r1 hl
        have:a' = C:=by
          have:=Fc.mg.symm.trans mm
          cases this; rfl
        subst this
        refine ⟨p,dx,_,rfl,eH,w,h,[a],b,h1,rfl,.cons r1 .nil,S,e1,fun w1 H1 u t1 s1 r3=>?_⟩
        obtain ⟨y,p1,p2⟩:=hP w1 b _ u e2 r3
        exact ⟨y,p1,kk w1 H1 y t1 s1 p2⟩
      · cases e
    · cases e
  · cases e
def pStr (v:AV):Option AV:=match v with
  | .str i=>some (.str i)
  | _=>none
section
variable {X:Cx} {cl:Nat → Str × List Str} {pos p:Pos} {e e2:Expr} {f:AE} {g:AA} {k c:Nat} {F:AF}
theorem w_strO (M:MetF X.prog X.w X.K X.mg X.base cl k c "__str__" 1 [] (lenF 1 F)) (hr:Room (k + 2) X.A) (hm0:X.mg "str" = none) (ha:PA X [e] (tAs (ctX X cl) g)) (hg:Gl X "str" := by rfl) (he:starEach [e] X.env = (false,eval e X.env) :: starEach [] X.env:=by rfl) (hpl:(backTo pos (starEach [] X.env)).any (·.1) = false:=by rfl) :
    PE X (.Call (.Name "str" p) [e] [] pos) (tA (ctX X cl) (aArgs (aO1 c (lenF 1 F) pStr) g)):=by
  obtain ⟨a,fa,fd,ps,ds,dvs,h1,h2,h3,h4,h5,h6,h7⟩:=M
  have e0:ds = []:=by
    have:=h7 ⟨fun _=>none,fun _=>none⟩
    have e1:dvs = []:=this
    subst e1
    cases h6; rfl
  subst e0
  exact ae_ty (call_strO h2 (fnr_of h4 h5) hr) (s_O1 h1 fun w v z u ev ru=>by
    unfold pStr at ev
    split at ev
    · rename_i i
      cases ev
      exact ⟨.str i,⟨i,ru,rfl⟩,rfl⟩
    · cases ev) hm0 boot_str ha hg (by decide) (by decide) he hpl
end
end Rp
end
section
namespace Rp
open PySem PySem.Spec PyProof.Rows L2
section
variable {X:Cx} {cl:Nat → Str × List Str} {pos p:Pos} {e e2:Expr} {f:AE} {g:AA} {k c:Nat} {F:AF}
theorem w_tyname {x:Str} {T:String} (hm:X.mg x = none) (hv:bootBuiltins x = some (.type T)) (hg:Gl X x:=by rfl) (hn:x ≠ "__name__" := by decide) (hd:(x == ("__debug__" : Str)) = false:=by decide):PE X (.Name x pos) (tA (ctX X cl) (aC (.ty T))) :=
  (pe_bltn (v:=.ty T) hg hm hv rfl hn hd).wk fun _ _ _ q=>tC_of (v:=.ty T) (u:=.ty T) (fun _=>rfl) q
def rIsiS (K:PySem.W.Frag):List V → Hp → VK → Prop:=fun xs H Q=>∃ (x:V) (tp:Addr) (cs:List V) (t:Value) (us:List Value) (b:Bool),xs = [x,.ref tp] ∧ SqT K H tp cs ∧ Paired ClsV cs us ∧ TyX K H x t ∧ PySem.W.kitAny K t us = some b ∧ Q (.bl b) H
theorem call_isiS:CallR X (.builtin "isinstance") (rIsiS X.K):=by
  intro pins s σ H xs us Q I r h
  obtain ⟨x,tp,cs,t,ws,b,rfl,hT,k,ty,e,q⟩:=h
  obtain ⟨u1,u2,rfl,r1,r2⟩:=vals2 r
  cases (show u2 = Value.ref tp from r2)
  obtain ⟨P,Z,p,hx⟩:=kit_of I r1 ty
  obtain ⟨its,rv,⟨o,h1,h2,n,h3⟩,_⟩:=I.tuple hT
  have e3:=ClsV.all k rv
  subst e3
  obtain ⟨oc,od,dt,sl⟩:=o
  simp only at h2 h3
  subst h2 h3
  exact PySem.W.kia_tup Z I.kIn p h1 e hx fun tk=>⟨.bl b,H,I.tok tk,rfl,q⟩
def tysOf:List AV → Option (List String)
  | []=>some []
  | .ty n :: r=>(tysOf r).bind fun q=>some (n :: q)
  | _=>none
theorem tysOf_ok:∀ {xs:List AV} {ns:List String},tysOf xs = some ns → xs = ns.map .ty
  | [],ns,e=>by cases e; rfl
  | x :: r,ns,e=>by
    cases x with
    | ty n =>
      have e':((tysOf r).bind fun q=>some (n :: q)) = some ns:=e
      obtain ⟨q,e1,e2⟩:=bind_some e'
      cases e2
      rw [tysOf_ok e1]; rfl
    | _=>cases e
theorem RepL.tys {ct:Ct} {w:Wd}:∀ {ns:List String} {us:List V},RepL ct w (ns.map AV.ty) us → us = ns.map V.ty
  | [],us,r=>r
  | n :: ns,us,r=>by
    obtain ⟨u,us',rfl,r1,r2⟩:=r
    rw [RepL.tys r2,show u = V.ty n from r1]; rfl
theorem kitAny_all (K:PySem.W.Frag) (T:String) (hT:T = "NoneType" ∨ T = "bool" ∨ T = "int" ∨ T = "str" ∨ T = "list" ∨ T = "tuple"):∀ ns:List String,ns.all clsOk = true → PySem.W.kitAny K (.type T) (ns.map Value.type) = some (ns.any fun n=>isTy T n)
  | [],_=>rfl
  | n :: ns,h=>by
    rw [List.all_cons,Bool.and_eq_true] at h
    have:=kit_all K T n hT h.1
    rw [List.map_cons,PySem.W.kitAny,this,List.any_cons]
    cases isTy T n with
    | true=>rfl
    | false=>exact kitAny_all K T hT ns h.2
def aIsiT (a b:AV) (h:AH):Option (AV × AH):=match b with
  | .nod .tup xs=>(tysOf xs).bind fun ns=>if ns.all clsOk = true then (tyN h a).bind fun T=>some (.bl (ns.any fun n=>isTy T n),h) else none
  | _=>none
theorem paired_tys:∀ ns:List String,Paired ClsV (ns.map V.ty) (ns.map Value.type)
  | []=>.nil
  | n :: ns=>.cons (.ty n) (paired_tys ns)
theorem s_isiT {ct:Ct}:SndN ct (rIsiS ct.K) (two aIsiT):=by
  refine snd_two ?_
  intro w H h a b u y v h' Q S ra rb e k
  unfold aIsiT at e
  split at e
  · rename_i xs
    obtain ⟨ns,e1,e⟩:=bind_some e
    split at e
    · rename_i hC
      obtain ⟨T,e2,e⟩:=bind_some e
      injection e with e
      injection e with ea eb
      subst ea eb
      obtain ⟨t1,t2⟩:=tyN_ok S ra e2
      obtain ⟨p,us,rfl,n,l⟩:=rb
      rw [tysOf_ok e1] at l
      have:=RepL.tys l
      subst this
      have n:SqT ct.K w.R p (ns.map V.ty):=n
      exact ⟨u,p,ns.map V.ty,.type T,ns.map Value.type,_,rfl,SqT.le S.le n,paired_tys ns,t1,kitAny_all ct.K T t2 ns hC,k w H _ (.refl _ _ _) S rfl⟩
    · cases e
  · cases e
theorem w_isiT (hm0:X.mg "isinstance" = none) (ha:PA X [e,e2] (tAs (ctX X cl) g)) (hg:Gl X "isinstance" := by rfl) (he:starEach [e,e2] X.env = (false,eval e X.env) :: starEach [e2] X.env:=by rfl) (hpl:(backTo pos (starEach [e2] X.env)).any (·.1) = false:=by rfl) :
    PE X (.Call (.Name "isinstance" p) [e,e2] [] pos) (tA (ctX X cl) (aArgs (two aIsiT) g)):=ae_blt call_isiS s_isiT hm0 rfl ha hg (by decide) (by decide) he hpl
end
end Rp
end
section
namespace Rp
open PySem PySem.Spec PyProof.Rows L2
theorem sw_trueD {kx vx:Expr} {gs:List Comprehension} {scope:Scope} {pos py:Pos} {y:Str} {l:Nat} {env:Env} (hk:env.scope.kind = .function) (hy:env.scope.names.lookup y = some .local) (hl:(py.line == pos.line) = true)
    (ha:(scope.names.any fun (n,k)=>n == y && (k == .local || k == .cell)) = false):swapsWith (.DictComp kx vx gs scope pos) (some (.Name y py)) l env = pure true:=by
  have ky:env.kindOf y = some .local:=hy
  have hb:env.blockKind = .function:=by unfold Env.blockKind; rw [hk]; rfl
  unfold swapsWith
  simp only [hb,ky,ha,Expr.pos,hl]
  rfl
section
variable {X:Cx} {cl:Nat → Str × List Str} {src:ASrc} {g:AG} {t:AT} {fk fv:AE}
theorem ps_setDc {i:Nat} {y:Str} {py:Pos} {kx vx tg iter:Expr} {ifs:List Expr} {scope:Scope} {own:List (Str × Nat)} {pos spos:Pos} {wi:TI} {g:TG} {tt:TT} {tk tv:TE} (hc:X.calm = true) (hN:X.N.Nodup) (hy:X.N[i]? = some y) (hyl:X.env.scope.names.lookup y = some .local)
    (hsw:swapsWith (.DictComp kx vx [⟨tg,iter,ifs,0⟩] scope pos) (some (.Name y py)) spos.line X.env = pure true) (hi:PI X tg iter wi) (ok:BlkOk X.N X.env.scope scope own)
    (hg:InBlk X scope fun Y=>PG Y tg g) (ht:InBlk X scope fun Y=>PTs Y ifs tt) (hk:InBlk X scope fun Y=>PE Y kx tk) (he:InBlk X scope fun Y=>PE Y vx tv) (hs:∀ x,foldedSetIterable iter X.env x = pure x) :
    PS X (.Assign [.Name y py] (.DictComp kx vx [⟨tg,iter,ifs,0⟩] scope pos) spos) (tAsg (tDc wi g tt tk tv (own.map (·.2))) (gName i)):=by
  refine ⟨fun pins s σ H D I h=>?_⟩
  rw [exec_Assign_Name_used _ _ _ _ hsw]
  refine wpAny_bind (wpAny_standAt (wpAny_bind ?_))
  show wpAny _ X.A (do let _ ← comprehension (.DictComp kx vx [⟨tg,iter,ifs,0⟩] scope pos) scope X.env (firstIterPos [⟨tg,iter,ifs,0⟩] pos) newDict false (eval iter X.env) (some (assign (.Name y py) X.env))) _ _ s
  have h:tDc wi g tt tk tv (own.map (·.2)) σ H (fun x H1=>gName i x σ H1 D.nx):=h
  refine wpAny_bind (thn (dc_core (Qf:=fun _ s' => SP X pins D .next s') hc hN I hi ok hg ht hk he hs h fun L C s' m H' I' q hn f=>?_) fun _ s' hq=>wpAny_pure (wpAny_pure hq))
  show wpAny _ _ (assign (.Name y py) X.env (.ref L)) _ _ _
  refine wpAny_assign_Name (store_ok2 (v:=V.ref L) I' hN hy (.inl hyl) rfl (fun s2 I2 ⟨a,sb,ha⟩=>?_) (.inr hyl))
  obtain ⟨f0,f1,f2,f3,f4,f5⟩:=f
  have haC:C ≠ a:=by
    rcases ha with z | z
    · rw [z]; exact f1
    · exact fun e=>f4 y a z e.symm
  refine ⟨m,hn.sameBut sb haC,fun h3 sb3=>?_⟩
  exact ⟨_,H',I2.turned (t':=s2.toks) (fun b o hb e=>(sb3.2 b hb).trans e) f0 f1 f3 f4 f5,q⟩
theorem as_setDc {own:List (Str × Nat)} {y:Str} {py pos spos:Pos} {kx vx tg iter:Expr} {ifs:List Expr} {scope:Scope} (i:Nat) (hc:X.calm = true) (hN:X.N.Nodup) (hi:PI X tg iter (tI (ctX X cl) src)) (ok:BlkOk X.N X.env.scope scope own)
    (hg:InBlk X scope fun Y=>PG Y tg (tGv (ctX X cl) (own.map (·.2)) g)) (ht:InBlk X scope fun Y=>PTs Y ifs (tT (ctX X cl) t)) (hk:InBlk X scope fun Y=>PE Y kx (tA (ctX X cl) fk)) (he:InBlk X scope fun Y=>PE Y vx (tA (ctX X cl) fv))
    (hsw:swapsWith (.DictComp kx vx [⟨tg,iter,ifs,0⟩] scope pos) (some (.Name y py)) spos.line X.env = pure true)
    (hy:X.N[i]? = some y:=by rfl) (hyl:X.env.scope.names.lookup y = some .local:=by rfl) (hs:∀ x,foldedSetIterable iter X.env x = pure x:=by intro _; rfl) :
    PS X (.Assign [.Name y py] (.DictComp kx vx [⟨tg,iter,ifs,0⟩] scope pos) spos) (tS (ctX X cl) (aAsg (aDc src g t fk fv (own.map (·.2))) (gNm i))):=by
  refine (ps_setDc hc hN hy hyl hsw hi ok hg ht hk he hs).wk fun D σ H q=>?_
  have q1:=tAsg_of q
  refine tDc_of ?_
  obtain ⟨w,s,h,v,h',rs,sr,e,kk⟩:=q1
  refine ⟨w,s,h,v,h',rs,sr,e,fun w1 H1 u t1 s1 r1=>?_⟩
  obtain ⟨w2,a,s2,h2,s3,h3,ra,rs2,sr2,e2,k2⟩:=kk w1 H1 u t1 s1 r1
  cases e2
  exact k2 w2 H1 _ (.refl _ _ _) sr2 (rs2.set i ra)
end
def rEqDE (neg:Bool):R2:=fun x y H Q=>∃ a b ks,x = .ref a ∧ y = .ref b ∧ Rd H a (.dK ks) ∧ Rd H b (.dK []) ∧ Q (.bl (ng neg (decide (ks.length = 0)))) H
theorem op_eqDE {X:Cx} (hu:X.A.units + 64 < cLine):OpR X (compareOp .Eq) (rEqDE false):=by
  intro pins s σ H x y v u Q I rx ry h
  obtain ⟨a,b,ks,rfl,rfl,ea,eb,q⟩:=h
  obtain rfl:v = Value.ref a:=rx
  obtain rfl:u = Value.ref b:=ry
  obtain ⟨_,ya,va,ra,da⟩:=dk_rd I.hok ea
  obtain ⟨_,yb,vb,rb,db⟩:=dk_rd I.hok eb
  have hb:vb = []:=List.eq_nil_of_length_eq_zero rb.length.symm
  subst hb
  refine PySem.W.keq_eq (knd:=mixKind X.prog X.w) (r:=true) ya yb da db (by omega) (fun hl=>?_) ?_
  · have:va = []:=List.eq_nil_of_length_eq_zero (by simpa using hl)
    subst this
    exact .nil
  · have hl:va.length = ks.length:=ra.length.symm
    refine ⟨V.bl ((va.length == ([]:List (Key × Value)).length) && true),H,I,rfl,?_⟩
    have:((va.length == ([]:List (Key × Value)).length) && true) = ng false (decide (ks.length = 0)):=by
      rw [hl]
      cases ks <;> simp [ng]
    rw [this]; exact q
def aEqDE (neg:Bool) (a b:AV) (h:AH):Option (AV × AH):=(dctOf h a).bind fun d=>(dctOf h b).bind fun e=>if e.1.length = 0 then some (.bl (ng neg (decide (d.1.length = 0))),h) else none
theorem s_eqDE {c:Ct} {neg:Bool}:Snd2 c (rEqDE neg) (aEqDE neg):=by
  intro w H h a b u y v h' Q S ra rb e k
  obtain ⟨⟨ks,xs⟩,e1,e⟩:=bind_some e
  obtain ⟨⟨js,ys⟩,e2,e⟩:=bind_some e
  split at e
  · rename_i hj
    have hj':js = []:=List.eq_nil_of_length_eq_zero hj
    subst hj'
    cases e
    obtain ⟨p,us,rfl,hl,rd,l⟩:=dctOf_ok S ra e1
    obtain ⟨p2,us2,rfl,hl2,rd2,l2⟩:=dctOf_ok S rb e2
    refine ⟨p,p2,ks.zip us,rfl,rfl,rd,rd2,?_⟩
    have:(ks.zip us).length = ks.length:=by rw [List.length_zip,← hl,Nat.min_self]
    rw [this]
    exact k w H _ (.refl _ _ _) S rfl
  · cases e
def cellOf (f:AE):LS → AH → Option Nat:=fun s h=>match f s h with
  | some (.ref n,_)=>some n
  | _=>none
def aStrS (a:AV) (h:AH):Option (AV × AH):=match a with
  | .str x=>some (.str x,h)
  | _=>none
theorem s_strS {c:Ct}:SndN c (fun xs H Q=>∃ a,xs = [.str a] ∧ Q (.str a) H) (one aStrS):=by
  refine snd_one ?_
  intro w H h a u v h' Q S r e k
  unfold aStrS at e
  split at e
  · rename_i x
    injection e with e
    injection e with ea eb
    subst ea eb
    rw [show u = V.str x from r]
    exact ⟨x,rfl,k w H _ (.refl _ _ _) S rfl⟩
  · cases e
def aStr2 (as:List AV) (h:AH):Option (AV × AH):=orO (one aStrV as h) (one aStrS as h)
theorem call_str2 {X:Cx}:CallR X (.type "str") (fun xs H Q=>(∃ i,xs = [.int i] ∧ i.natAbs.log2 < 1920 ∧ Q (.str (toString i)) H) ∨ ∃ a,xs = [.str a] ∧ Q (.str a) H):=by
  intro pins s σ H xs us Q I r h
  rcases h with h | h
  · exact call_str_int pins s σ H xs us Q I r h
  · exact SkE.call_str_str pins s σ H xs us Q I r h
theorem w_str {X:Cx} {cl:Nat → Str × List Str} {pos p:Pos} {e:Expr} {g:AA} (hm0:X.mg "str" = none) (ha:PA X [e] (tAs (ctX X cl) g)) (hg:Gl X "str" := by rfl) (he:starEach [e] X.env = (false,eval e X.env) :: starEach [] X.env:=by rfl) (hpl:(backTo pos (starEach [] X.env)).any (·.1) = false:=by rfl):PE X (.Call (.Name "str" p) [e] [] pos) (tA (ctX X cl) (aArgs aStr2 g)) :=
  ae_ty call_str2 (SndN.or s_strI s_strS) hm0 boot_str ha hg (by decide) (by decide) he hpl
end Rp
end
section
namespace Rp
open PySem PySem.Spec PyProof.Rows L2
section
variable {K:PySem.W.Frag} {w:World} {h:Heap} {mg:Str → Option Value} {cl:Nat → Str × List Str}
theorem glob_int (X:K.In h) (G:h.Ns mainGlobals mg) {x:Str} {i:Int} (c:(He.Fa.int x i).ok K = true):GlobV ⟨K,w,mg,cl⟩ x (.int i):=by
  obtain ⟨t,e⟩:=He.int_ok X G c
  exact ⟨_,.int i,e,⟨t,rfl⟩,fun _=>rfl⟩
theorem glob_str (X:K.In h) (G:h.Ns mainGlobals mg) {x z:Str} (c:(He.Fa.str x z).ok K = true):GlobV ⟨K,w,mg,cl⟩ x (.str z):=by
  obtain ⟨t,e⟩:=He.str_ok X G c
  exact ⟨_,.str z,e,⟨t,rfl⟩,fun _=>rfl⟩
def dvA:He.Dv → AV
  | .non=>.non
  | .bl b=>.bl b
  | .int i=>.int i
  | .str x=>.str x
  | .ty n=>.ty n
  | .glo x=>.gl x
  | _=>.non
def dvOk:He.Dv → Bool
  | .non | .bl _ | .int _ | .str _ | .ty _=>true
  | _=>false
theorem dvs_rep {c:Ct} {wd:Wd}:∀ vs:List He.Dv,vs.all dvOk = true → RepL c wd (vs.map dvA) (vs.map (He.Dv.v K))
  | [],_=>rfl
  | v :: vs,e=>by
    rw [List.all_cons,Bool.and_eq_true] at e
    refine .cons ?_ (dvs_rep vs e.2)
    cases v <;> first | rfl | cases e.1
theorem glob_tup (X:K.In h) (G:h.Ns mainGlobals mg) {x:Str} {vs:List He.Dv} (c:(He.Fa.glo x).ok K = true) (ct:He.tupB K x vs = true) (hv:vs.all dvOk = true):GlobV ⟨K,w,mg,cl⟩ x (.nod .tup (vs.map dvA)):=by
  have e:=He.glo_ok X G c
  exact ⟨_,.ref (He.ga K x),e,rfl,fun wd=>⟨_,_,rfl,(show SqT K wd.R (He.ga K x) (vs.map (He.Dv.v K)) from He.tupB_ok ct wd.R),dvs_rep vs hv⟩⟩
def rowB (K:PySem.W.Frag):List DictEntry → List (Str × He.Dv) → Bool
  | [],[]=>true
  | e :: es,kv :: kvs=>(match e.key with
    | .str k _=>decide (k = kv.1)
    | _=>false) && (He.relB (kv.2.v K) e.val && rowB K es kvs)
  | _,_=>false
def tabB (K:PySem.W.Frag) (a:Addr) (kvs:List (Str × He.Dv)):Bool:=match K.lookup a with
  | some ⟨_,_,.dict es _,_⟩=>rowB K es.toList kvs
  | _=>false
def nsL (es:List DictEntry) (z:Str):Option (Option Value):=match es.find? (·.key.isStr z) with
  | some e=>some (some e.val)
  | none=>if es.any (·.refKey) then none else some none
theorem rowB_ok:∀ (es:List DictEntry) (kvs:List (Str × He.Dv)),rowB K es kvs = true → ∀ z:Str,∃ r,nsL es z = some r ∧ RelO ((kIx (kvs.map fun kv=>(Sum.inr kv.1:Key)) (Sum.inr z)).bind fun i=>(kvs.map fun kv=>kv.2.v K)[i]?) r
  | [],[],_,z=>⟨none,rfl,trivial⟩
  | [],_ :: _,e,z=>by cases e
  | _ :: _,[],e,z=>by cases e
  | e :: es,kv :: kvs,hb,z=>by
    have hb':((match e.key with
      | .str k _=>decide (k = kv.1)
      | _=>false) && (He.relB (kv.2.v K) e.val && rowB K es kvs)) = true:=hb
    rw [Bool.and_eq_true,Bool.and_eq_true] at hb'
    obtain ⟨h1,h2,h3⟩:=hb'
    split at h1
    · rename_i k t hk
      have hkk:k = kv.1:=of_decide_eq_true h1
      have rk:e.refKey = false:=by unfold DictEntry.refKey; rw [hk]
      obtain ⟨r,e1,e2⟩:=rowB_ok es kvs h3 z
      by_cases hz:kv.1 = z
      · refine ⟨some e.val,?_,?_⟩
        · have:e.key.isStr z = true:=by rw [hk,hkk,hz]; simp [Value.isStr]
          unfold nsL
          rw [List.find?_cons]
          simp only [this]
        · have:kIx ((kv :: kvs).map fun kv=>(Sum.inr kv.1:Key)) (Sum.inr z) = some 0:=by
            unfold kIx
            rw [List.map_cons,List.findIdx?_cons,if_pos (by simp [hz])]
          rw [this]
          exact He.relB_ok h2
      · refine ⟨r,?_,?_⟩
        · have:e.key.isStr z = false:=by rw [hk,hkk]; simp [Value.isStr,hz]
          unfold nsL at e1 ⊢
          rw [List.find?_cons]
          simp only [this,List.any_cons,rk,Bool.false_or]
          exact e1
        · have:kIx ((kv :: kvs).map fun kv=>(Sum.inr kv.1:Key)) (Sum.inr z) = (kIx (kvs.map fun kv=>(Sum.inr kv.1:Key)) (Sum.inr z)).map (· + 1):=by
            unfold kIx
            rw [List.map_cons,List.findIdx?_cons,if_neg (by simp [hz])]
          rw [this]
          cases hq:kIx (kvs.map fun kv=>(Sum.inr kv.1:Key)) (Sum.inr z) with
          | none=>rw [hq] at e2; exact e2
          | some i=>rw [hq] at e2; exact e2
    · cases h1
theorem ktab_of {a:Addr} {kvs:List (Str × He.Dv)} (c:∃ es n,KDict K w a es n) (hb:tabB K a kvs = true):KTab ⟨K,w,mg,cl⟩ a (kvs.map fun kv=>(Sum.inr kv.1:Key)) (kvs.map fun kv=>kv.2.v K):=by
  obtain ⟨es,n,kd⟩:=c
  refine ⟨by rw [List.length_map,List.length_map],es,n,kd,fun z=>?_⟩
  unfold tabB at hb
  rw [kd.at_] at hb
  obtain ⟨r,e1,e2⟩:=rowB_ok es.toList kvs hb z
  refine ⟨r,?_,e2⟩
  show PySem.W.nsIn K a z = some r
  unfold PySem.W.nsIn
  rw [kd.at_]
  exact e1
theorem glob_tab (X:K.In h) (G:h.Ns mainGlobals mg) {x:Str} {kvs:List (Str × He.Dv)} (c:(He.Fa.glo x).ok K = true) (cd:∃ es n,KDict K w (He.ga K x) es n) (hb:tabB K (He.ga K x) kvs = true) (hv:(kvs.map (·.2)).all dvOk = true) :
    GlobV ⟨K,w,mg,cl⟩ x (.nod (.tab (kvs.map fun kv=>(Sum.inr kv.1:Key))) (kvs.map fun kv=>dvA kv.2)):=by
  have e:=He.glo_ok X G c
  refine ⟨_,.ref (He.ga K x),e,rfl,fun wd=>⟨_,_,rfl,(show KTab ⟨K,w,mg,cl⟩ (He.ga K x) _ _ from ktab_of cd hb),?_⟩⟩
  have:=dvs_rep (K:=K) (c:=⟨K,w,mg,cl⟩) (wd:=wd) (kvs.map (·.2)) hv
  rw [List.map_map,List.map_map] at this
  exact this
theorem clsF_of (X:K.In h) (G:h.Ns mainGlobals mg) {k:Nat} {x:Str} {fs:List Str} (hc:cl k = (x,fs)) (c:(He.Fa.glo x).ok K = true) (cc:(He.Fa.cls x).ok K = true) (cn:∀ f ∈ fs,(He.Fa.noat x f).ok K = true) (nd:fs.Nodup) (few:fs.length < 900):ClsF ⟨K,w,mg,cl⟩ k (He.ga K x):=by
  refine ⟨?_,He.cls_ok cc,fun f hf=>?_,?_,?_⟩
  · show mg (cl k).1 = _
    rw [hc]; exact He.glo_ok X G c
  · have hf':f ∈ (cl k).2:=hf
    rw [hc] at hf'
    exact He.noat_ok (cn f hf')
  · show (cl k).2.Nodup
    rw [hc]; exact nd
  · show (cl k).2.length < 900
    rw [hc]; exact few
end
theorem law_sp {K:PySem.W.Frag} {w:World} {mg:Str → Option Value} {cl:Nat → Str × List Str} {F:AF} {H:Hp} {a:Addr} {ns:List Int} {h':AH} {E:XK} (hS:SqL K H a (ns.map V.int)) (e:F [.nod .scr (ns.map .int)] ⟨fun _=>none,0,fun _ _=>rfl⟩ = some (.bl true,h')) {Q:VK} (q:∀ H',Q (.bl true) H') :
    spA ⟨K,w,mg,cl⟩ 1 F [.ref a] H Q E:=by
  refine ⟨⟨fun _=>none,H⟩,⟨fun _=>none,0,fun _ _=>rfl⟩,[.nod .scr (ns.map .int)],.bl true,h',rfl,.cons ⟨a,ns.map V.int,rfl,hS,RepL.mk_ints⟩ .nil,⟨fun _ _ e=>e,fun _ _ _ e=>(nomatch e),fun _ _ _ e=>(nomatch e),fun _ _ e=>(nomatch e),fun _ _ e=>(nomatch e)⟩,e,fun w' H' u _ _ r=>?_⟩
  rw [show u = V.bl true from r]
  exact q H'
end Rp
end
section
namespace Rp
open PySem PySem.Spec PyProof.Rows L2
section
variable {s s':LS} {h h' h1:AH} {a b v:AV} {f g k:AE} {t u:AT} {A B:AS} {G:AG} {o:AV → AV → AH → Option (AV × AH)}
def seqK (r:Option (AR × AH)) (B:AS):Option (AR × AH):=r.bind fun r=>match r.1 with
  | .nx s' => B s' r.2
  | x=>some (x,r.2)
@[simp] theorem ev_seq:aSeq A B s h = seqK (A s h) B:=id rfl
@[simp] theorem seqK_nx:seqK (some (.nx s',h')) B = B s' h':=id rfl
@[simp] theorem seqK_rt:seqK (some (.rt v,h')) B = some (.rt v,h'):=id rfl
@[simp] theorem seqK_bk:seqK (some (.bk s',h')) B = some (.bk s',h'):=id rfl
@[simp] theorem seqK_ct:seqK (some (.ct s',h')) B = some (.ct s',h'):=id rfl
@[simp] theorem ev_pass:aPass s h = some (.nx s,h):=id rfl
@[simp] theorem ev_retN:aRetN s h = some (.rt .non,h):=id rfl
def retK (r:Option (AV × AH)):Option (AR × AH):=r.bind fun r=>some (.rt r.1,r.2)
@[simp] theorem ev_ret:aRet f s h = retK (f s h):=id rfl
@[simp] theorem retK_some:retK (some (v,h')) = some (.rt v,h'):=id rfl
def expK (r:Option (AV × AH)) (s:LS):Option (AR × AH):=r.bind fun r=>some (.nx s,r.2)
@[simp] theorem ev_exp:aExp f s h = expK (f s h) s:=id rfl
@[simp] theorem expK_some:expK (some (v,h')) s = some (.nx s,h'):=id rfl
def ifK (r:Option (Bool × AH)) (A B:AS) (s:LS):Option (AR × AH):=r.bind fun r=>if r.1 = true then A s r.2 else B s r.2
@[simp] theorem ev_if:aIfS t A B s h = ifK (t s h) A B s:=id rfl
@[simp] theorem ifK_t:ifK (some (true,h')) A B s = A s h':=id rfl
@[simp] theorem ifK_f:ifK (some (false,h')) A B s = B s h':=id rfl
def asgK (r:Option (AV × AH)) (G:AG) (s:LS):Option (AR × AH):=r.bind fun r=>(G r.1 s r.2).bind fun q=>some (.nx q.1,q.2)
def asgJ (r:Option (LS × AH)):Option (AR × AH):=r.bind fun q=>some (.nx q.1,q.2)
@[simp] theorem ev_asg:aAsg f G s h = asgK (f s h) G s:=id rfl
@[simp] theorem asgK_some:asgK (some (v,h')) G s = asgJ (G v s h'):=id rfl
@[simp] theorem asgJ_some:asgJ (some (s',h')) = some (.nx s',h'):=id rfl
@[simp] theorem ev_gNm {i:Nat}:gNm i v s h = some (s.set i (some v),h):=id rfl
def gixK (r:Option (AV × AH)) (g:AE) (v:AV) (s:LS):Option (LS × AH):=r.bind fun o=>(g s o.2).bind fun i=>(aSet o.1 i.1 v i.2).bind fun h' => some (s,h')
def gixJ (a:AV) (r:Option (AV × AH)) (v:AV) (s:LS):Option (LS × AH):=r.bind fun i=>(aSet a i.1 v i.2).bind fun h' => some (s,h')
def gixI (r:Option AH) (s:LS):Option (LS × AH):=r.bind fun h' => some (s,h')
@[simp] theorem ev_gIx:gIx f g v s h = gixK (f s h) g v s:=id rfl
@[simp] theorem gixK_some:gixK (some (a,h')) g v s = gixJ a (g s h') v s:=id rfl
@[simp] theorem gixJ_some:gixJ a (some (b,h')) v s = gixI (aSet a b v h') s:=id rfl
@[simp] theorem gixI_some:gixI (some h') s = some (s,h'):=id rfl
def op2K (o:AV → AV → AH → Option (AV × AH)) (r:Option (AV × AH)) (g:AE) (s:LS):Option (AV × AH):=r.bind fun r=>(g s r.2).bind fun q=>o r.1 q.1 q.2
def op2J (o:AV → AV → AH → Option (AV × AH)) (a:AV) (r:Option (AV × AH)):Option (AV × AH):=r.bind fun q=>o a q.1 q.2
@[simp] theorem ev_op2:aOp2 o f g s h = op2K o (f s h) g s:=id rfl
@[simp] theorem op2K_some:op2K o (some (a,h')) g s = op2J o a (g s h'):=id rfl
@[simp] theorem op2J_some:op2J o a (some (b,h')) = o a b h':=id rfl
@[simp] theorem ev_c:aC v s h = some (v,h):=id rfl
def varK:Option (Option AV) → AH → Option (AV × AH)
  | some (some v),h=>some (v,h)
  | _,_=>none
@[simp] theorem ev_var {i:Nat}:aVar i s h = varK (s[i]?) h:=by
  unfold aVar varK
  split <;> simp_all
@[simp] theorem varK_some:varK (some (some v)) h = some (v,h):=id rfl
def tstK (r:Option (AV × AH)):Option (Bool × AH):=r.bind fun r=>match r.1 with
  | .bl b=>some (b,r.2)
  | _=>none
@[simp] theorem ev_tst:aTst f s h = tstK (f s h):=id rfl
@[simp] theorem tstK_some {z:Bool}:tstK (some (.bl z,h')) = some (z,h'):=id rfl
def andK (r:Option (Bool × AH)) (u:AT) (s:LS):Option (Bool × AH):=r.bind fun r=>if r.1 = true then u s r.2 else some (false,r.2)
def orK (r:Option (Bool × AH)) (u:AT) (s:LS):Option (Bool × AH):=r.bind fun r=>if r.1 = true then some (true,r.2) else u s r.2
@[simp] theorem ev_and:aAnd t u s h = andK (t s h) u s:=id rfl
@[simp] theorem andK_t:andK (some (true,h')) u s = u s h':=id rfl
@[simp] theorem andK_f:andK (some (false,h')) u s = some (false,h'):=id rfl
@[simp] theorem ev_or:aOr t u s h = orK (t s h) u s:=id rfl
@[simp] theorem orK_t:orK (some (true,h')) u s = some (true,h'):=id rfl
@[simp] theorem orK_f:orK (some (false,h')) u s = u s h':=id rfl
def notK (r:Option (Bool × AH)):Option (Bool × AH):=r.bind fun r=>some (!r.1,r.2)
@[simp] theorem ev_not:aNot t s h = notK (t s h):=id rfl
@[simp] theorem notK_some {z:Bool}:notK (some (z,h')) = some (!z,h'):=id rfl
def ifeK (r:Option (Bool × AH)) (f g:AE) (s:LS):Option (AV × AH):=r.bind fun r=>if r.1 = true then f s r.2 else g s r.2
@[simp] theorem ev_ife:aIf t f g s h = ifeK (t s h) f g s:=id rfl
@[simp] theorem ifeK_t:ifeK (some (true,h')) f g s = f s h':=id rfl
@[simp] theorem ifeK_f:ifeK (some (false,h')) f g s = g s h':=id rfl
variable {as:List AV} {gs:AA} {O:List AV → AH → Option (AV × AH)} {F:AF} {das:List AV}
@[simp] theorem ev_nil:aNil s h = some ([],h):=id rfl
def consK (r:Option (AV × AH)) (gs:AA) (s:LS):Option (List AV × AH):=r.bind fun r=>(gs s r.2).bind fun q=>some (r.1 :: q.1,q.2)
def consJ (a:AV) (r:Option (List AV × AH)):Option (List AV × AH):=r.bind fun q=>some (a :: q.1,q.2)
@[simp] theorem ev_cons:aCons f gs s h = consK (f s h) gs s:=id rfl
@[simp] theorem consK_some:consK (some (a,h')) gs s = consJ a (gs s h'):=id rfl
@[simp] theorem consJ_some:consJ a (some (as,h')) = some (a :: as,h'):=id rfl
def argsK (O:List AV → AH → Option (AV × AH)) (r:Option (List AV × AH)):Option (AV × AH):=r.bind fun r=>O r.1 r.2
@[simp] theorem ev_args:aArgs O gs s h = argsK O (gs s h):=id rfl
@[simp] theorem argsK_some:argsK O (some (as,h')) = O as h':=id rfl
@[simp] theorem ev_call:aCall F das gs s h = argsK (fun as h=>F (as ++ das) h) (gs s h):=id rfl
@[simp] theorem ev_one {p:AV → AH → Option (AV × AH)}:one p [a] h = p a h:=id rfl
@[simp] theorem ev_two {p:AV → AV → AH → Option (AV × AH)}:two p [a,b] h = p a b h:=id rfl
def fnK (r:Option (AR × AH)):Option (AV × AH):=r.bind fun r=>match r.1 with
  | .nx _=>some (.non,r.2)
  | .rt v=>some (v,r.2)
  | _=>none
theorem ev_fn {m n:Nat} (e:as.length = n):lenF n (fnA m B) as h = fnK (B (startA m as) h):=by
  unfold lenF
  rw [if_pos e]; rfl
@[simp] theorem fnK_nx:fnK (some (.nx s,h)) = some (.non,h):=id rfl
@[simp] theorem fnK_rt:fnK (some (.rt v,h)) = some (v,h):=id rfl
variable {i j:Int} {n:Nat} {xs:List AV} {ks:List Key}
@[simp] theorem ev_lt:aLt (.int i) (.int j) h = some (.bl (decide (i < j)),h):=id rfl
@[simp] theorem ev_le:aLe (.int i) (.int j) h = some (.bl (decide (i ≤ j)),h):=id rfl
@[simp] theorem ev_gt:aGt (.int i) (.int j) h = some (.bl (decide (j < i)),h):=id rfl
@[simp] theorem ev_ge:aGe (.int i) (.int j) h = some (.bl (decide (j ≤ i)),h):=id rfl
@[simp] theorem ev_addI:aAdd (.int i) (.int j) h = some (.int (i + j),h):=id rfl
@[simp] theorem ev_subI:aSub (.int i) (.int j) h = some (.int (i - j),h):=id rfl
theorem ev_mulI (e:mulC i j = true):aMul (.int i) (.int j) h = some (.int (i * j),h):=by
  have:aMulI (.int i) (.int j) h = some (.int (i * j),h):=by
    show (if mulC i j = true then some (AV.int (i * j),h) else none) = _
    rw [if_pos e]
  unfold aMul
  rw [this]; rfl
theorem ev_mod (e:0 < j):aMod (.int i) (.int j) h = some (.int (i % j),h):=by
  show (if decide (0 < j) = true then some (AV.int (i % j),h) else none) = _
  rw [if_pos (decide_eq_true e)]
theorem ev_div (e:0 < j) (e2:j < 18446744073709551616):aDiv (.int i) (.int j) h = some (.int (i / j),h):=by
  show (if (decide (0 < j) && decide (j < 18446744073709551616)) = true then some (AV.int (i / j),h) else none) = _
  rw [if_pos (by rw [decide_eq_true e,decide_eq_true e2]; rfl)]
@[simp] theorem ev_pow1:aPow (.int 10) (.int 18) h = some (.int 1000000000000000000,h):=by rfl
theorem atI_at {α:Type} {xs:List α} {n:Nat} (e:n < xs.length):atI xs (n:Int) = xs[n]?:=by
  unfold atI ixN
  rw [if_pos (by omega),if_pos (by omega)]
  simp
theorem ev_ixL {v:AV} {k:Nat} (e:look h a = some (.lst,xs)) (ev:xs[k]? = some v):aIx a (.int (k:Nat)) h = some (v,h):=by
  have hk:=(List.getElem?_eq_some_iff.mp ev).1
  unfold aIx aIxQ
  rw [e]
  simp only [atI_at hk,ev,Option.bind_some]
  rfl
@[simp] theorem look_nod {k:Kd}:look h (.nod k xs) = some (k,xs):=id rfl
@[simp] theorem look_ref:look h (.ref n) = h.get n:=id rfl
theorem ev_setL {k:Nat} (e:h.get n = some (.lst,xs)) (hk:k < xs.length):aSet (.ref n) (.int (k:Nat)) v h = some (h.put n (.lst,xs.set k v)):=by
  have hi:ixN xs.length ((k:Nat):Int) = some k:=by
    unfold ixN
    rw [if_pos (by omega),if_pos (by omega)]
    simp
  unfold aSet aSetL cellL
  simp only [e,Option.bind_some,hi]
  rfl
theorem get_putI {m:Nat} {c:Kd × List AV} (hn:(h.get n).isSome = true):(h.put n c).get m = if m = n then some c else h.get m:=by
  obtain ⟨c0,e⟩:=Option.isSome_iff_exists.mp hn
  exact AH.get_put e m
@[simp] theorem next_put {c:Kd × List AV}:(h.put n c).next = h.next:=AH.next_put
@[simp] theorem get_new {m:Nat} {c:Kd × List AV}:(h.new c).get m = if m = h.next then some c else h.get m:=id rfl
@[simp] theorem next_new {c:Kd × List AV}:(h.new c).next = h.next + 1:=id rfl
theorem AH.ext {h h':AH} (e:∀ m,h.get m = h'.get m) (n:h.next = h'.next):h = h':=by
  cases h; cases h'
  have:_ = _:=funext e
  simp_all
theorem put_put {c c':Kd × List AV} (hn:(h.get n).isSome = true):(h.put n c).put n c' = h.put n c':=by
  refine AH.ext (fun m=>?_) (by simp)
  rw [get_putI (by rw [get_putI hn,if_pos rfl]; rfl),get_putI hn,get_putI hn]
  by_cases hm:m = n
  · rw [if_pos hm,if_pos hm]
  · rw [if_neg hm,if_neg hm,if_neg hm]
def ixA (v:Option AV) (h:AH):Option (AV × AH):=v.bind fun v=>some (v,h)
@[simp] theorem ixA_some:ixA (some v) h = some (v,h):=id rfl
def ixR (r:Option (Kd × List AV)) (b:AV) (h:AH):Option (AV × AH):=match r,b with
  | some (.lst,xs),.int i=>ixA (atI xs i) h
  | some (.tup,xs),.int i=>ixA (atI xs i) h
  | some (.dct ks,xs),.str z=>ixA ((kIx ks (.inr z)).bind fun i=>xs[i]?) h
  | some (.ldct ks,xs),.str z=>ixA ((kIx ks (.inr z)).bind fun i=>xs[i]?) h
  | some (.tab ks,xs),.str z=>ixA ((kIx ks (.inr z)).bind fun i=>xs[i]?) h
  | _,_=>none
theorem orO_none {α:Type} (o:Option α):orO none o = o:=rfl
theorem orO_self {α:Type} (o:Option α):orO o none = o:=by cases o <;> rfl
theorem ix_core {a b:AV} (ha:∀ z,a ≠ .str z):aIx a b h = ixR (look h a) b h:=by
  have hs:aIxS a b h = none:=by
    unfold aIxS
    split
    · rename_i z i; exact absurd rfl (ha z)
    · rfl
  unfold aIx
  rw [hs,orO_none]
  unfold aIxQ aIxK dLook ixR
  cases look h a with
  | none=>rfl
  | some q =>
    obtain ⟨kd,xs⟩:=q
    cases kd <;> cases b <;> simp [ixA,orO_self,orO_none,Option.bind_assoc]
@[simp] theorem ix_ref {b:AV}:aIx (.ref n) b h = ixR (h.get n) b h:=ix_core nofun
@[simp] theorem ix_nod {k:Kd} {b:AV}:aIx (.nod k xs) b h = ixR (some (k,xs)) b h:=ix_core nofun
@[simp] theorem ixR_lst:ixR (some (.lst,xs)) (.int i) h = ixA (atI xs i) h:=id rfl
@[simp] theorem ixR_tup:ixR (some (.tup,xs)) (.int i) h = ixA (atI xs i) h:=id rfl
@[simp] theorem ixR_dct {z:Str}:ixR (some (.dct ks,xs)) (.str z) h = ixA ((kIx ks (.inr z)).bind fun i=>xs[i]?) h:=id rfl
@[simp] theorem ixR_ldct {z:Str}:ixR (some (.ldct ks,xs)) (.str z) h = ixA ((kIx ks (.inr z)).bind fun i=>xs[i]?) h:=id rfl
@[simp] theorem ixR_tab {z:Str}:ixR (some (.tab ks,xs)) (.str z) h = ixA ((kIx ks (.inr z)).bind fun i=>xs[i]?) h:=id rfl
@[simp] theorem atI_0 {α:Type} {x:α} {l:List α}:atI (x :: l) 0 = some x:=by simp [atI,ixN]
@[simp] theorem atI_1 {α:Type} {x y:α} {l:List α}:atI (x :: y :: l) 1 = some y:=by
  have:(1:Int) < (l.length:Int) + 1 + 1:=by omega
  simp [atI,ixN,this]
@[simp] theorem atI_2 {α:Type} {x y z:α} {l:List α}:atI (x :: y :: z :: l) 2 = some z:=by
  have:(2:Int) < (l.length:Int) + 1 + 1 + 1:=by omega
  simp [atI,ixN,this]
@[simp] theorem atI_3 {α:Type} {x y z u:α} {l:List α}:atI (x :: y :: z :: u :: l) 3 = some u:=by
  have:(3:Int) < (l.length:Int) + 1 + 1 + 1 + 1:=by omega
  simp [atI,ixN,this]
def setR (r:Option (Kd × List AV)) (n:Nat) (b v:AV) (h:AH):Option AH:=match r,b with
  | some (.lst,xs),.int k=>(ixN xs.length k).bind fun j=>some (h.put n (.lst,xs.set j v))
  | some (.dct ks,xs),b=>(toKey b).bind fun k=>if ks.length < sizeLine then some (h.put n (.dct (dPut ks xs k v).1,(dPut ks xs k v).2)) else none
  | _,_=>none
@[simp] theorem set_ref {b v:AV}:aSet (.ref n) b v h = setR (h.get n) n b v h:=by
  unfold aSet aSetL aSetD cellL cellD setR
  cases hq:h.get n with
  | none=>simp [hq,orO_self,orO_none]
  | some q =>
    obtain ⟨kd,xs⟩:=q
    cases kd <;> cases b <;> simp [hq,orO_self,orO_none]
@[simp] theorem setR_lst {k:Int}:setR (some (.lst,xs)) n (.int k) v h = (ixN xs.length k).bind fun j=>some (h.put n (.lst,xs.set j v)):=id rfl
@[simp] theorem setR_dct {b:AV}:setR (some (.dct ks,xs)) n b v h = (toKey b).bind fun k=>if ks.length < sizeLine then some (h.put n (.dct (dPut ks xs k v).1,(dPut ks xs k v).2)) else none:=id rfl
@[simp] theorem len_lst:aLenV (.nod .lst xs) h = some (.int xs.length,h):=id rfl
@[simp] theorem len_tup:aLenV (.nod .tup xs) h = some (.int xs.length,h):=id rfl
@[simp] theorem len_scr:aLenV (.nod .scr xs) h = some (.int xs.length,h):=id rfl
theorem len_str {z:Str} (e:z.length ≤ sizeLine):aLenV (.str z) h = some (.int z.length,h):=by
  unfold aLenV lenS
  simp only [if_pos e]; rfl
theorem len_cell (e:h.get n = some (.lst,xs)):aLenV (.ref n) h = some (.int xs.length,h):=by
  have h1:lenS (.ref n) h = none:=rfl
  unfold aLenV lenQ seqOf
  rw [h1]
  simp [e,orO_none,orO_self,orO]
end
end Rp
end
section
namespace Rp
open PySem PySem.Spec PyProof.Rows L2
theorem forL_ind {G:Grd} {g:AG} {B:AS} (I:List AV → LS → AH → Prop) (hG:∀ xs s h,I xs s h → chk G h = true)
    (step:∀ x xs s h,I (x :: xs) s h → ∃ s1 h1 r h2 s2,g x s h = some (s1,h1) ∧ B s1 h1 = some (r,h2) ∧ (r = .nx s2 ∨ r = .ct s2) ∧ I xs s2 h2) :
    ∀ xs s h,I xs s h → ∃ s' h',forL G g B xs s h = some (.nx s',h') ∧ I [] s' h'
  | [],s,h,i=>⟨s,h,by unfold forL; rw [if_pos (hG _ _ _ i)],i⟩
  | x :: xs,s,h,i=>by
    obtain ⟨s1,h1,r,h2,s2,e1,e2,e3,i2⟩:=step x xs s h i
    obtain ⟨s',h',e4,i3⟩:=forL_ind I hG step xs s2 h2 i2
    refine ⟨s',h',?_,i3⟩
    unfold forL
    rw [if_pos (hG _ _ _ i),e1]
    simp only [Option.bind_some]
    rw [e2]
    rcases e3 with rfl | rfl
    · exact e4
    · exact e4
theorem lcL_map {G:Grd} {g:AG} {t:AT} {f:AE} {s0:LS} {h:AH} (hG:chk G h = true) (p:AV → Bool) (φ:AV → AV) (σ:AV → LS) :
    ∀ (xs acc:List AV),(∀ x ∈ xs,g x s0 h = some (σ x,h) ∧ t (σ x) h = some (p x,h) ∧ (p x = true → f (σ x) h = some (φ x,h))) → acc.length + xs.length ≤ sizeLine →
      lcL G g t f s0 xs acc h = some (acc ++ (xs.filter p).map φ,h)
  | [],acc,_,_=>by unfold lcL; rw [if_pos hG]; simp
  | x :: xs,acc,hx,hz=>by
    obtain ⟨e1,e2,e3⟩:=hx x List.mem_cons_self
    have hz':acc.length + (xs.length + 1) ≤ sizeLine:=hz
    unfold lcL
    rw [if_pos hG,e1]
    simp only [Option.bind_some]
    rw [e2]
    simp only [Option.bind_some]
    cases hp:p x with
    | true =>
      rw [if_pos rfl,e3 hp]
      simp only [Option.bind_some]
      rw [if_pos (by omega),lcL_map hG p φ σ xs (acc ++ [φ x]) (fun y hy=>hx y (List.mem_cons_of_mem _ hy)) (by rw [List.length_append,List.length_singleton]; omega)]
      simp [List.filter_cons,hp]
    | false =>
      rw [if_neg Bool.false_ne_true,lcL_map hG p φ σ xs acc (fun y hy=>hx y (List.mem_cons_of_mem _ hy)) (by omega)]
      simp [List.filter_cons,hp]
structure Kp (S:List Nat) (h h':AH):Prop where
  nx:h.next ≤ h'.next
  st:∀ n,n < h.next → n ∉ S → h'.get n = h.get n
theorem Kp.refl {S:List Nat} {h:AH}:Kp S h h:=⟨Nat.le_refl _,fun _ _ _=>rfl⟩
theorem Kp.trans {S:List Nat} {h1 h2 h3:AH} (a:Kp S h1 h2) (b:Kp S h2 h3):Kp S h1 h3 :=
  ⟨Nat.le_trans a.nx b.nx,fun n hn hS=>(b.st n (Nat.lt_of_lt_of_le hn a.nx) hS).trans (a.st n hn hS)⟩
theorem Kp.mono {S T:List Nat} {h h':AH} (a:Kp S h h') (hs:∀ n ∈ S,n ∈ T):Kp T h h':=⟨a.nx,fun n hn hT=>a.st n hn fun q=>hT (hs n q)⟩
theorem Kp.put {S:List Nat} {h:AH} {n:Nat} {c:Kd × List AV} (e:(h.get n).isSome = true) (hn:n ∈ S):Kp S h (h.put n c) :=
  ⟨by rw [next_put]; exact Nat.le_refl _,fun m _ hS=>by
    have hm:m ≠ n:=fun q=>hS (by rw [q]; exact hn)
    rw [get_putI e,if_neg hm]⟩
theorem Kp.new {S:List Nat} {h:AH} {c:Kd × List AV}:Kp S h (h.new c):=⟨by rw [next_new]; omega,fun m hm _=>by rw [get_new,if_neg (by omega)]⟩
theorem Kp.get {S:List Nat} {h h':AH} (a:Kp S h h') {n:Nat} {c:Kd × List AV} (e:h.get n = some c) (hn:n ∉ S):h'.get n = some c:=by
  rw [a.st n (AH.lt e) hn]; exact e
end Rp
end
section
namespace Rp
open PySem PySem.Spec PyProof.Rows L2
theorem forL_ix {G:Grd} {g:AG} {B:AS} {xs:List AV} (I:Nat → LS → AH → Prop) (hG:∀ i s h,I i s h → chk G h = true)
    (step:∀ i x s h,xs[i]? = some x → I i s h → ∃ s1 h1 r h2 s2,g x s h = some (s1,h1) ∧ B s1 h1 = some (r,h2) ∧ (r = .nx s2 ∨ r = .ct s2) ∧ I (i + 1) s2 h2) {s:LS} {h:AH} (h0:I 0 s h) :
    ∃ s' h',forL G g B xs s h = some (.nx s',h') ∧ I xs.length s' h':=by
  obtain ⟨s',h',e,i,hd,hi,q⟩:=forL_ind (G:=G) (g:=g) (B:=B) (fun ys s h=>∃ i,ys = xs.drop i ∧ i ≤ xs.length ∧ I i s h) (fun ys s h ⟨i,_,_,q⟩=>hG i s h q)
    (fun x ys s h ⟨i,hd,hi,q⟩=>by
      have hlt:i < xs.length:=by
        rcases Nat.lt_or_ge i xs.length with z | z
        · exact z
        · rw [List.drop_eq_nil_of_le z] at hd; cases hd
      rw [List.drop_eq_getElem_cons hlt] at hd
      obtain ⟨e1,e2⟩:=List.cons.inj hd
      obtain ⟨s1,h1,r,h2,s2,a,b,c,d⟩:=step i x s h (by rw [e1,List.getElem?_eq_getElem hlt]) q
      exact ⟨s1,h1,r,h2,s2,a,b,c,i + 1,e2,hlt,d⟩) xs s h ⟨0,rfl,Nat.zero_le _,h0⟩
  have:xs.length ≤ i:=by
    have:=congrArg List.length hd
    simp at this; omega
  have:i = xs.length:=by omega
  subst this
  exact ⟨s',h',e,q⟩
theorem chk_nil {h:AH}:chk [] h = true:=rfl
theorem rgI_get {n i:Nat} {x:AV} (e:(rgI 0 n)[i]? = some x):i < n ∧ x = .int i:=by
  unfold rgI at e
  simp only [List.getElem?_map,List.getElem?_range,Option.map_eq_some_iff] at e
  obtain ⟨a,e1,e2⟩:=e
  by_cases q:i < n
  · simp [q] at e1
    subst e1
    exact ⟨q,by rw [← e2]; simp⟩
  · simp [List.getElem?_eq_none (show (List.range n).length ≤ i by simp; omega)] at e1
@[simp] theorem rgI_len {lo:Int} {n:Nat}:(rgI lo n).length = n:=by simp [rgI]
variable {s s':LS} {h h' h1:AH} {a b v:AV} {f g k:AE} {t u:AT} {A B:AS} {G:AG} {xs ys:List AV} {n:Nat}
def forK (r:Option ((List AV × Grd) × AH)) (g:AG) (B:AS) (s:LS):Option (AR × AH):=r.bind fun q=>forL q.1.2 g B q.1.1 s q.2
@[simp] theorem ev_for {src:ASrc}:aFor src G B s h = forK (src s h) G B s:=id rfl
@[simp] theorem forK_some {gr:Grd}:forK (some ((xs,gr),h')) G B s = forL gr G B xs s h':=id rfl
def srcVK (r:Option (AV × AH)):Option ((List AV × Grd) × AH):=r.bind fun r=>(srcV r.1 r.2).bind fun q=>some (q,r.2)
@[simp] theorem ev_sVal:sVal f s h = srcVK (f s h):=id rfl
theorem srcVK_lst:srcVK (some (.nod .lst xs,h)) = some ((xs,[]),h):=id rfl
theorem srcVK_ref (e:h.get n = some (.lst,xs)):srcVK (some (.ref n,h)) = some ((xs,[(n,xs)]),h):=by
  simp [srcVK,srcV,srcL,look,e,grdOf,orO]
theorem sm_nat {j:Nat} (hj:j < 1000000):sm (j:Int) = true:=by
    have hp:(2:Int) ^ 62 = 4611686018427387904:=by decide
    unfold sm
    rw [hp]
    simp only [Bool.and_eq_true,decide_eq_true_eq]
    omega
def rngK (S:Int → Bool) (r:Option (List AV × AH)):Option ((List AV × Grd) × AH):=r.bind fun r=>match r.1 with
  | [.int j]=>if S j = true then some ((rgI 0 j.toNat,[]),r.2) else none
  | _=>none
theorem rngK_ok {S:Int → Bool} {k:Int} {h:AH} (hs:S k = true):rngK S (some ([.int k],h)) = some ((rgI 0 k.toNat,[]),h):=by
  simp [rngK,hs]
@[simp] theorem ev_rng {gs:AA} {s:LS} {h:AH}:sRng1 gs s h = rngK sm (gs s h):=id rfl
theorem rngK_nat {j:Nat} {h:AH} (hj:j < 1000000):rngK sm (some ([.int j],h)) = some ((rgI 0 j,[]),h):=rngK_ok (sm_nat hj)
def bmK (T:String) (op:AV → List AV → AH → Option (AV × AH)) (r:Option (AV × AH)) (g:AA) (s:LS):Option (AV × AH):=r.bind fun r=>if tyOk T r.1 r.2 = true then (g s r.2).bind fun q=>op r.1 q.1 q.2 else none
def bmJ (op:AV → List AV → AH → Option (AV × AH)) (a:AV) (r:Option (List AV × AH)):Option (AV × AH):=r.bind fun q=>op a q.1 q.2
@[simp] theorem ev_bm {T:String} {op:AV → List AV → AH → Option (AV × AH)} {gs:AA}:aBM T op f gs s h = bmK T op (f s h) gs s:=id rfl
@[simp] theorem bmJ_some {op:AV → List AV → AH → Option (AV × AH)} {as:List AV}:bmJ op a (some (as,h)) = op a as h:=id rfl
@[simp] theorem bmK_str {op:AV → List AV → AH → Option (AV × AH)} {gs:AA} {z:Str}:bmK "str" op (some (.str z,h)) gs s = bmJ op (.str z) (gs s h):=id rfl
def appR (r:Option (Kd × List AV)) (n:Nat) (v:AV) (h:AH):Option (AV × AH):=match r with
  | some (.lst,xs)=>if xs.length < sizeLine then some (.non,h.put n (.lst,xs ++ [v])) else none
  | _=>none
def bmC (T:String) (op:AV → List AV → AH → Option (AV × AH)) (c:Option (Kd × List AV)) (n:Nat) (h:AH) (gs:AA) (s:LS):Option (AV × AH):=match c with
  | some (.lst,_)=>if T = "list" then bmJ op (.ref n) (gs s h) else none
  | some (.scr,_)=>if T = "list" then bmJ op (.ref n) (gs s h) else none
  | some (.dct _,_)=>if T = "dict" then bmJ op (.ref n) (gs s h) else none
  | _=>none
@[simp] theorem bmK_ref {T:String} {op:AV → List AV → AH → Option (AV × AH)} {gs:AA}:bmK T op (some (.ref n,h)) gs s = bmC T op (h.get n) n h gs s:=by
  unfold bmK bmC
  simp only [Option.bind_some,tyOk,look_ref]
  cases h.get n with
  | none=>rfl
  | some q =>
    obtain ⟨kd,xs⟩:=q
    cases kd <;> simp [bmJ]
@[simp] theorem bmC_lst {op:AV → List AV → AH → Option (AV × AH)} {gs:AA}:bmC "list" op (some (.lst,xs)) n h gs s = bmJ op (.ref n) (gs s h):=id rfl
@[simp] theorem append_ref:aAppend (.ref n) [v] h = appR (h.get n) n v h:=by
  unfold aAppend cellL appR
  cases hq:h.get n with
  | none=>simp [hq]
  | some q =>
    obtain ⟨kd,xs⟩:=q
    cases kd <;> simp [hq]
theorem appR_lst (hl:xs.length < sizeLine):appR (some (.lst,xs)) n v h = some (.non,h.put n (.lst,xs ++ [v])):=by
  simp [appR,hl]
def sliceK (mk:Kd → List AV → AH → Option (AV × AH)) (r:Option (AV × AH)) (lo hi:AO) (s:LS):Option (AV × AH):=r.bind fun r=>(lo s r.2).bind fun l=>(hi s l.2).bind fun u=>aSl mk r.1 l.1 u.1 u.2
def sliceJ (mk:Kd → List AV → AH → Option (AV × AH)) (a:AV) (r:Option (Option Int × AH)) (hi:AO) (s:LS):Option (AV × AH):=r.bind fun l=>(hi s l.2).bind fun u=>aSl mk a l.1 u.1 u.2
def sliceI (mk:Kd → List AV → AH → Option (AV × AH)) (a:AV) (l:Option Int) (r:Option (Option Int × AH)):Option (AV × AH):=r.bind fun u=>aSl mk a l u.1 u.2
@[simp] theorem ev_slice {mk:Kd → List AV → AH → Option (AV × AH)} {lo hi:AO}:aSlice mk f lo hi s h = sliceK mk (f s h) lo hi s:=id rfl
@[simp] theorem sliceK_some {mk:Kd → List AV → AH → Option (AV × AH)} {lo hi:AO}:sliceK mk (some (a,h)) lo hi s = sliceJ mk a (lo s h) hi s:=id rfl
@[simp] theorem sliceJ_some {mk:Kd → List AV → AH → Option (AV × AH)} {l:Option Int} {hi:AO}:sliceJ mk a (some (l,h)) hi s = sliceI mk a l (hi s h):=id rfl
@[simp] theorem sliceI_some {mk:Kd → List AV → AH → Option (AV × AH)} {l u:Option Int}:sliceI mk a l (some (u,h)) = aSl mk a l u h:=id rfl
@[simp] theorem ev_no:aNo s h = some (none,h):=id rfl
def partK (r:Option (AV × AH)):Option (Option Int × AH):=r.bind fun r=>match r.1 with
  | .int i=>some (some i,r.2)
  | _=>none
@[simp] theorem ev_part:aPart f s h = partK (f s h):=id rfl
@[simp] theorem partK_some {i:Int}:partK (some (.int i,h)) = some (some i,h):=id rfl
theorem sl_str {mk:Kd → List AV → AH → Option (AV × AH)} {z:Str} {l u:Option Int} (e:z.length ≤ sizeLine):aSl mk (.str z) l u h = some (.str (cutS z l u),h):=by
  simp [aSl,e]
theorem mkF_ok {kd:Kd} (e:xs.length ≤ sizeLine):mkF kd xs h = some (.nod kd xs,h):=by simp [mkF,e]
theorem mkM_ok {kd:Kd} (e:xs.length ≤ sizeLine):mkM kd xs h = some (.ref h.next,h.new (kd,xs)):=by simp [mkM,e]
def frzK (k:Nat) (r:Option (AV × AH)):Option (AV × AH):=r.bind fun r=>frzV k r.1 r.2
@[simp] theorem ev_frz {j:Nat}:aFrz j f s h = frzK j (f s h):=id rfl
@[simp] theorem frzK_some {j:Nat}:frzK j (some (a,h)) = frzV j a h:=id rfl
theorem mapO_id {φ:AV → AH → Option (AV × AH)}:∀ {xs:List AV},(∀ x ∈ xs,φ x h = some (x,h)) → mapO φ xs h = some (xs,h)
  | [],_=>rfl
  | x :: xs,e=>by
    unfold mapO
    rw [e x List.mem_cons_self]
    simp only [Option.bind_some]
    rw [mapO_id fun y hy=>e y (List.mem_cons_of_mem _ hy)]
    rfl
theorem mapO_0:mapO (frzV 0) xs h = some (xs,h):=mapO_id fun _ _=>rfl
theorem frz1_ref (e:h.get n = some (.lst,xs)):frzV 1 (.ref n) h = some (.nod .lst xs,h.del n):=by
  unfold frzV frz1
  simp only [e]
  show (mapO (frzV 0) xs (h.del n)).bind _ = _
  rw [mapO_0]; rfl
theorem frz1_nod {kd:Kd}:frzV 1 (.nod kd xs) h = some (.nod kd xs,h):=by
  unfold frzV frz1
  show (mapO (frzV 0) xs h).bind _ = _
  rw [mapO_0]; rfl
@[simp] theorem get_del {m:Nat}:(h.del n).get m = if m = n then none else h.get m:=id rfl
@[simp] theorem next_del:(h.del n).next = h.next:=id rfl
theorem Kp.del {S:List Nat} {h0 h:AH} {n:Nat} (k:Kp S h0 h) (hn:h0.next ≤ n):Kp S h0 (h.del n):=⟨k.nx,fun m hm hS=>by
  rw [get_del,if_neg (by omega)]; exact k.st m hm hS⟩
theorem Kp.putL {S:List Nat} {h0 h:AH} {n:Nat} {c:Kd × List AV} (k:Kp S h0 h) (e:(h.get n).isSome = true) (hn:h0.next ≤ n ∨ n ∈ S):Kp S h0 (h.put n c):=⟨by rw [next_put]; exact k.nx,fun m hm hS=>by
  rw [get_putI e,if_neg (by
    rcases hn with q | q
    · omega
    · exact fun z=>hS (z ▸ q))]; exact k.st m hm hS⟩
end Rp
end
section
namespace Rp
open PySem PySem.Spec PyProof.Rows L2
variable {s s':LS} {h h' h1:AH} {a b v:AV} {f g k:AE} {t u:AT} {A B:AS} {G:AG} {xs ys:List AV} {n:Nat} {x y:Str} {i j:Int}
theorem eq_ss:aEq (.str x) (.str y) h = some (.bl (decide (x = y)),h):=by
  simp [aEq,nrm,isD,toD,PyData.eqv]
  by_cases q:x = y <;> simp [q]
theorem eq_ns:aEq .non (.str y) h = some (.bl false,h):=by
  simp [aEq,nrm,isD,toD,PyData.eqv]
theorem eq_ii:aEq (.int i) (.int j) h = some (.bl (decide (i = j)),h):=by
  simp [aEq,nrm,isD,toD,PyData.eqv]
  by_cases q:i = j <;> simp [q]
theorem ne_ss:aNe (.str x) (.str y) h = some (.bl (!decide (x = y)),h):=by
  simp [aNe,nrm,isD,toD,PyData.eqv]
  by_cases q:x = y <;> simp [q]
theorem ne_ii:aNe (.int i) (.int j) h = some (.bl (!decide (i = j)),h):=by
  simp [aNe,nrm,isD,toD,PyData.eqv]
  by_cases q:i = j <;> simp [q]
theorem isDs_str {n:Nat}:∀ {L:List Str},isDs n (L.map .str) = true
  | []=>by simp [isDs]
  | x :: L=>by simp only [List.map_cons,isDs,isD,Bool.true_and]; exact isDs_str
theorem toDs_str:∀ {L:List Str},toDs (L.map .str) = L.map .str
  | []=>by simp [toDs]
  | x :: L=>by simp only [List.map_cons,toDs,toD]; rw [toDs_str]
theorem any_str {L:List Str}:((L.map PyData.str).any fun y=>PyData.eqv y (.str x)) = decide (x ∈ L):=by
  induction L with
  | nil=>simp
  | cons z L ih =>
    simp only [List.map_cons,List.any_cons,ih,PyData.eqv,List.mem_cons]
    by_cases q:z = x
    · subst q; simp
    · have q2:¬ x = z:=fun e=>q e.symm
      simp [q,q2]
theorem inD_lst {ng':Bool} (L:List Str):aInD ng' (.str x) (.nod .lst (L.map .str)) h = some (.bl (ng ng' (decide (x ∈ L))),h):=by
  simp [aInD,look,isDs_str,isD,nrm,toDs_str,toD]
  rw [← any_str]; simp [Function.comp_def]
theorem inD_tup {ng':Bool} (L:List Str):aInD ng' (.str x) (.nod .tup (L.map .str)) h = some (.bl (ng ng' (decide (x ∈ L))),h):=by
  simp [aInD,look,isDs_str,isD,nrm,toDs_str,toD]
  rw [← any_str]; simp [Function.comp_def]
theorem in_lst (L:List Str):aIn (.str x) (.nod .lst (L.map .str)) h = some (.bl (decide (x ∈ L)),h):=by
  show orO (aInD _ _ _ _) _ = _
  rw [inD_lst]; rfl
theorem in_tup (L:List Str):aIn (.str x) (.nod .tup (L.map .str)) h = some (.bl (decide (x ∈ L)),h):=by
  show orO (aInD _ _ _ _) _ = _
  rw [inD_tup]; rfl
theorem notIn_lst (L:List Str):aNotIn (.str x) (.nod .lst (L.map .str)) h = some (.bl (!decide (x ∈ L)),h):=by
  show orO (aInD _ _ _ _) _ = _
  rw [inD_lst]; rfl
theorem notIn_tup (L:List Str):aNotIn (.str x) (.nod .tup (L.map .str)) h = some (.bl (!decide (x ∈ L)),h):=by
  show orO (aInD _ _ _ _) _ = _
  rw [inD_tup]; rfl
theorem in_dct {ng':Bool} {b:AV} {ks:List Key} (e:dLook h b = some (ks,xs)) (e2:aInD ng' (.str x) b h = none) (e3:aInS ng' (.str x) b h = none):aIn3 ng' (.str x) b h = some (.bl (ng ng' (kIx ks (.inr x)).isSome),h):=by
  unfold aIn3 aInK
  rw [e,e2,e3]
  rfl
@[simp] theorem is_nn:aIs .non .non h = some (.bl true,h):=id rfl
@[simp] theorem is_sn:aIs (.str x) .non h = some (.bl false,h):=id rfl
@[simp] theorem is_in:aIs (.int i) .non h = some (.bl false,h):=id rfl
@[simp] theorem is_on {kd:Kd}:aIs (.nod kd xs) .non h = some (.bl false,h):=id rfl
@[simp] theorem isNot_nn:aIsNot .non .non h = some (.bl false,h):=id rfl
@[simp] theorem isNot_sn:aIsNot (.str x) .non h = some (.bl true,h):=id rfl
@[simp] theorem isNot_in:aIsNot (.int i) .non h = some (.bl true,h):=id rfl
@[simp] theorem isNot_on {kd:Kd}:aIsNot (.nod kd xs) .non h = some (.bl true,h):=id rfl
def getK2 (d:Option (List Key × List AV)) (k:AV) (z:AV × AH):Option (AV × AH):=d.bind fun d=>(toKey k).bind fun k=>some ((((kIx d.1 k).bind fun i=>d.2[i]?).getD z.1),z.2)
def get2K (r:Option (AV × AH)) (g t:AE) (s:LS):Option (AV × AH):=r.bind fun r=>(dctOf r.2 r.1).bind fun _=>(g s r.2).bind fun q=>(t s q.2).bind fun z=>getK2 (dctOf z.2 r.1) q.1 z
@[simp] theorem ev_get2 {t:AE}:aGet2 f g t s h = get2K (f s h) g t s:=id rfl
theorem dctOf_cell {ks:List Key} (e:h.get n = some (.dct ks,xs)):dctOf h (.ref n) = some (ks,xs):=by simp [dctOf,e]
theorem cellD_cell {ks:List Key} (e:h.get n = some (.dct ks,xs)):cellD h (.ref n) = some (n,ks,xs):=by simp [cellD,e]
@[simp] theorem ev_fld {k j:Nat}:aFld k j f s h = (f s h).bind fun r=>aFldV k j r.1 r.2:=id rfl
def fldR (r:Option (Kd × List AV)) (k j:Nat) (h:AH):Option (AV × AH):=match r with
  | some (.ins k',xs)=>if k' = k then (xs[j]?).bind fun v=>some (v,h) else none
  | _=>none
@[simp] theorem fld_ref {k j:Nat}:aFldV k j (.ref n) h = fldR (h.get n) k j h:=by
  rfl
@[simp] theorem fldR_ins {k j:Nat}:fldR (some (.ins k,xs)) k j h = (xs[j]?).bind fun v=>some (v,h):=by simp [fldR]
def setFR (r:Option (Kd × List AV)) (k j:Nat) (n:Nat) (v:AV) (h:AH):Option AH:=match r with
  | some (.ins k',xs)=>if k' = k then (if j < xs.length then some (h.put n (.ins k,xs.set j v)) else if j = xs.length then some (h.put n (.ins k,xs ++ [v])) else none) else none
  | _=>none
@[simp] theorem setF_ref {k j:Nat}:setFld k j (.ref n) v h = setFR (h.get n) k j n v h:=by
  rfl
@[simp] theorem setFR_ins {k j:Nat}:setFR (some (.ins k,xs)) k j n v h = if j < xs.length then some (h.put n (.ins k,xs.set j v)) else if j = xs.length then some (h.put n (.ins k,xs ++ [v])) else none:=by simp [setFR]
@[simp] theorem ev_setF {fe fo:AE} {k j:Nat}:aSetF fe k j fo s h = (fe s h).bind fun r=>(fo s r.2).bind fun o=>(setFld k j o.1 r.1 o.2).bind fun h' => some (.nx s,h'):=id rfl
@[simp] theorem ev_augF {k j:Nat}:aAugF k j f g s h = (f s h).bind fun r=>(aFldV k j r.1 r.2).bind fun x=>match x.1 with
  | .int m=>(g s r.2).bind fun y=>match y.1 with
    | .int n=>(setFld k j r.1 (.int (m + n)) y.2).bind fun h' => some (.nx s,h')
    | _=>none
  | _=>none:=id rfl
@[simp] theorem ev_stuck:aStuck s h = none:=id rfl
@[simp] theorem ev_meth {c:Nat} {F:AF} {das:List AV} {gs:AA}:aMeth c F das f gs s h = (f s h).bind fun r=>match look r.2 r.1 with
  | some (.ins c',_)=>if c' = c then (gs s r.2).bind fun q=>F (r.1 :: (q.1 ++ das)) q.2 else none
  | _=>none:=id rfl
@[simp] theorem ev_make {c:Nat} {F:AF} {das:List AV} {gs:AA}:aMake c F das gs s h = (gs s h).bind fun q=>(F (.ref q.2.next :: (q.1 ++ das)) (q.2.new (.ins c,[]))).bind fun r=>match r.1 with
  | .non=>some (.ref q.2.next,r.2)
  | _=>none:=id rfl
@[simp] theorem ev_gsNil:gsNil [] s h = some (s,h):=id rfl
@[simp] theorem ev_gsCons {F:AG} {gs:AGs} {vs:List AV}:gsCons F gs (v :: vs) s h = (F v s h).bind fun q=>gs vs q.1 q.2:=id rfl
theorem seqOf_lst:seqOf h (.nod .lst xs) = some xs:=id rfl
@[simp] theorem ev_gSq_lst {gs:AGs} {n:Nat}:gSq n gs (.nod .lst xs) s h = if xs.length = n then gs xs s h else none:=id rfl
@[simp] theorem ev_gSq_tup {gs:AGs} {n:Nat}:gSq n gs (.nod .tup xs) s h = if xs.length = n then gs xs s h else none:=id rfl
theorem ev_gStar {gs:AGs} {n i:Nat}:gStar n i gs (.nod .lst xs) s h = if n ≤ xs.length + 1 ∧ xs.length ≤ 16384 then gs (xs.take i ++ [.nod .lst ((xs.drop i).take (xs.length + 1 - n))] ++ (xs.drop i).drop (xs.length + 1 - n)) s h else none:=id rfl
@[simp] theorem ev_andV:aAndV f g s h = (f s h).bind fun r=>match r.1 with
  | .bl true=>g s r.2
  | .bl false=>some (.bl false,r.2)
  | _=>none:=id rfl
@[simp] theorem ev_op1 {o:AV → AH → Option (AV × AH)}:aOp1 o f s h = (f s h).bind fun r=>o r.1 r.2:=id rfl
@[simp] theorem ev_chain {o o':AV → AV → AH → Option (AV × AH)}:aChain o o' f g k s h = (f s h).bind fun r=>(g s r.2).bind fun q=>(o r.1 q.1 q.2).bind fun z=>match z.1 with
  | .bl true=>(k s z.2).bind fun y=>o' q.1 y.1 y.2
  | .bl false=>some (.bl false,z.2)
  | _=>none:=id rfl
@[simp] theorem ev_yes:aYes s h = some (true,h):=id rfl
@[simp] theorem ev_lc {mk:Kd → List AV → AH → Option (AV × AH)} {src:ASrc} {vs:List Nat}:aLc mk src G t f vs s h = (src s h).bind fun q=>(lcL q.1.2 G t f (wipeA s vs) q.1.1 [] q.2).bind fun r=>mk .lst r.1 r.2:=id rfl
theorem Kp.tr2 {S T:List Nat} {h h1 h2:AH} (a:Kp S h h1) (b:Kp T h1 h2) (q:∀ x ∈ T,x ∈ S ∨ h.next ≤ x):Kp S h h2 :=
  ⟨Nat.le_trans a.nx b.nx,fun n hn hS=>(b.st n (Nat.lt_of_lt_of_le hn a.nx) fun z=>by
    rcases q n z with y | y
    · exact hS y
    · omega).trans (a.st n hn hS)⟩
theorem lcL_str {G:Grd} {g:AG} {t:AT} {f:AE} {s0:LS} {h:AH} (hG:chk G h = true) (p:Str → Bool) (φ:Str → AV) (σ:Str → LS) (N:List Str)
    (hx:∀ x ∈ N,g (.str x) s0 h = some (σ x,h) ∧ t (σ x) h = some (p x,h) ∧ (p x = true → f (σ x) h = some (φ x,h))) (hz:N.length ≤ sizeLine) :
      lcL G g t f s0 (N.map .str) [] h = some ((N.filter p).map φ,h):=by
  let uns:AV → Str:=fun v=>match v with | .str x=>x | _=>Str.empty
  have:=lcL_map (G:=G) (g:=g) (t:=t) (f:=f) (s0:=s0) (h:=h) hG (fun v=>p (uns v)) (fun v=>φ (uns v)) (fun v=>σ (uns v)) (N.map .str) [] (fun v hv=>by
    obtain ⟨y,hy,rfl⟩:=List.mem_map.mp hv
    exact hx y hy) (by simpa using hz)
  rw [this]
  simp [List.filter_map,Function.comp_def,uns]
theorem getElem?_map_some {α β:Type} {f:α → β} {xs:List α} {i:Nat} {y:β} (e:(xs.map f)[i]? = some y):∃ x,xs[i]? = some x ∧ f x = y:=by
  simpa [List.getElem?_map,Option.map_eq_some_iff] using e
theorem take_succ_of {α:Type} {xs:List α} {i:Nat} {x:α} (e:xs[i]? = some x):xs.take (i + 1) = xs.take i ++ [x]:=by
  rw [List.take_succ,e]; rfl
theorem mem_of_get {α:Type} {xs:List α} {i:Nat} {x:α} (e:xs[i]? = some x):x ∈ xs:=List.mem_of_getElem? e
@[simp] theorem ev_addM {a b:AV}:aAddM a b h = aCat mkM a b h:=id rfl
theorem cat_nod {mk:Kd → List AV → AH → Option (AV × AH)} {ys:List AV}:aCat mk (.nod .lst xs) (.nod .lst ys) h = mk .lst (xs ++ ys) h:=by
  simp [aCat,look]
theorem add_cat {a b:AV} (h1:aAddI a b h = none) (h2:aAddS a b h = none):aAdd a b h = aCat mkF a b h:=by
  unfold aAdd
  rw [h1,h2]; rfl
theorem add_nod {ys:List AV}:aAdd (.nod .lst xs) (.nod .lst ys) h = mkF .lst (xs ++ ys) h:=by
  rw [add_cat rfl rfl,cat_nod]
def frzR (r:Option (Kd × List AV)) (n:Nat) (h:AH):Option (AV × AH):=match r with
  | some (.lst,xs)=>some (.nod .lst xs,h.del n)
  | _=>frzV 1 (.ref n) h
@[simp] theorem frz1_refR:frzV 1 (.ref n) h = frzR (h.get n) n h:=by
  unfold frzR
  split
  · rename_i xs e; exact frz1_ref e
  · rfl
@[simp] theorem frzR_lst:frzR (some (.lst,xs)) n h = some (.nod .lst xs,h.del n):=id rfl
@[simp] theorem frz1_nod' {kd:Kd}:frzV 1 (.nod kd xs) h = some (.nod kd xs,h):=frz1_nod
def catR (mk:Kd → List AV → AH → Option (AV × AH)) (r:Option (Kd × List AV)) (ys:List AV) (h:AH):Option (AV × AH):=match r with
  | some (.lst,xs)=>mk .lst (xs ++ ys) h
  | _=>none
@[simp] theorem catM_ref {ys:List AV}:aCat mkM (.ref n) (.nod .lst ys) h = catR mkM (h.get n) ys h:=by
  unfold aCat catR
  simp only [look_ref,look_nod]
  cases h.get n with
  | none=>rfl
  | some q =>
    obtain ⟨kd,xs⟩:=q
    cases kd <;> rfl
@[simp] theorem catM_nod {mk:Kd → List AV → AH → Option (AV × AH)} {ys:List AV}:aCat mk (.nod .lst xs) (.nod .lst ys) h = mk .lst (xs ++ ys) h:=cat_nod
@[simp] theorem catR_lst {mk:Kd → List AV → AH → Option (AV × AH)} {ys:List AV}:catR mk (some (.lst,xs)) ys h = mk .lst (xs ++ ys) h:=id rfl
@[simp] theorem add_refR {ys:List AV}:aAdd (.ref n) (.nod .lst ys) h = catR mkF (h.get n) ys h:=by
  rw [add_cat rfl rfl]
  unfold aCat catR
  simp only [look_ref,look_nod]
  cases h.get n with
  | none=>rfl
  | some q =>
    obtain ⟨kd,xs⟩:=q
    cases kd <;> rfl
@[simp] theorem add_nod' {ys:List AV}:aAdd (.nod .lst xs) (.nod .lst ys) h = mkF .lst (xs ++ ys) h:=add_nod
def lenR (r:Option (Kd × List AV)) (h:AH):Option (AV × AH):=match r with
  | some (.lst,xs)=>some (.int xs.length,h)
  | some (.tup,xs)=>some (.int xs.length,h)
  | some (.scr,xs)=>some (.int xs.length,h)
  | some (.dct ks,_)=>some (.int ks.length,h)
  | some (.ldct ks,_)=>some (.int ks.length,h)
  | _=>none
@[simp] theorem len_ref:aLenV (.ref n) h = lenR (h.get n) h:=by
  unfold aLenV lenQ lenD lenS seqOf dctOf lenR
  simp only [look_ref]
  cases h.get n with
  | none=>rfl
  | some q =>
    obtain ⟨kd,xs⟩:=q
    cases kd <;> rfl
@[simp] theorem lenR_lst:lenR (some (.lst,xs)) h = some (.int xs.length,h):=id rfl
@[simp] theorem lenR_dct {ks:List Key}:lenR (some (.dct ks,xs)) h = some (.int ks.length,h):=id rfl
theorem isDs_app {m:Nat}:∀ {a b:List AV},isDs m a = true → isDs m b = true → isDs m (a ++ b) = true
  | [],b,_,h=>h
  | x :: a,b,h1,h2=>by
    simp only [isDs,Bool.and_eq_true] at h1
    simp only [List.cons_append,isDs,Bool.and_eq_true]
    exact ⟨h1.1,isDs_app h1.2 h2⟩
theorem get_ne {m:Nat} {c1 c2:Kd × List AV} (e1:h.get n = some c1) (e2:h.get m = some c2) (hk:c1.1 ≠ c2.1):n ≠ m:=by
  intro e
  subst e
  rw [e1] at e2
  exact hk (congrArg Prod.fst (Option.some.inj e2))
theorem put_oth {m:Nat} {c c1 c2:Kd × List AV} (e1:h.get n = some c1) (e2:h.get m = some c2) (hn:n ≠ m):(h.put m c).get n = some c1:=by
  rw [AH.get_put e2,if_neg hn]; exact e1
theorem put_own {c c2:Kd × List AV} (e2:h.get n = some c2):(h.put n c).get n = some c:=by
  rw [AH.get_put e2,if_pos rfl]
theorem new_oth {c c1:Kd × List AV} (e1:h.get n = some c1):(h.new c).get n = some c1:=by
  have:=AH.lt e1
  rw [get_new,if_neg (by omega)]; exact e1
theorem new_own {c:Kd × List AV}:(h.new c).get h.next = some c:=by rw [get_new,if_pos rfl]
end Rp
end
section
namespace Rp
open PySem PySem.Spec PyProof.Rows L2
section
variable {X:Cx} {cl:Nat → Str × List Str} {pos tpos:Pos} {o e:Expr} {f:AE} {fn:Str} {k j:Nat} {a:Addr}
end
section
variable {X:Cx} {cl:Nat → Str × List Str} {e t1 t2 t3:Expr} {fe:AE} {g1 g2 g3:AG} {pos:Pos}
end
section
variable {X:Cx} {cl:Nat → Str × List Str} {x y:Str} {a b:Expr} {g:AA} {px py pt pos:Pos}
end
section
variable {X:Cx} {cl:Nat → Str × List Str} {x:Str} {p pos:Pos} {e:Expr} {es:List Expr} {g:AA} {T:List (Str × Nat × AF)} {k i:Nat}
end
section
variable {K:PySem.W.Frag} {w:World} {h:Heap} {mg:Str → Option Value} {cl:Nat → Str × List Str}
end
end Rp
end
section
namespace Rp
open PySem PySem.Spec PyProof.Rows L2
section
variable {ρ:Type} [DecidableEq ρ]
structure At (h:AH) (ad:ρ → Nat) (ct:ρ → Option (Kd × List AV)):Prop where
  at_:∀ r c,ct r = some c → h.get (ad r) = some c
  inj:∀ r r',(ct r).isSome = true → (ct r').isSome = true → ad r = ad r' → r = r'
def upd1 {α:Type} (f:ρ → α) (r:ρ) (x:α):ρ → α:=fun q=>if q = r then x else f q
theorem upd1_same {α:Type} {f:ρ → α} {r:ρ} {x:α}:upd1 f r x r = x:=if_pos rfl
theorem upd1_ne {α:Type} {f:ρ → α} {r q:ρ} {x:α} (h:q ≠ r):upd1 f r x q = f q:=if_neg h
variable {h h':AH} {ad:ρ → Nat} {ct:ρ → Option (Kd × List AV)} {r:ρ} {c c':Kd × List AV}
theorem At.get (A:At h ad ct) (e:ct r = some c):h.get (ad r) = some c:=A.at_ r c e
theorem At.lt (A:At h ad ct) (e:ct r = some c):ad r < h.next:=AH.lt (A.get e)
theorem At.put (A:At h ad ct) (e:ct r = some c):At (h.put (ad r) c') ad (upd1 ct r (some c')):=by
  have hs:=A.get e
  refine ⟨fun q d hq=>?_,fun q q' hq hq' hqq=>?_⟩
  · by_cases hqr:q = r
    · subst hqr
      rw [upd1_same] at hq
      cases hq
      exact put_own hs
    · rw [upd1_ne hqr] at hq
      have hne:ad q ≠ ad r:=fun z=>hqr (A.inj q r (by rw [hq]; rfl) (by rw [e]; rfl) z)
      exact put_oth (A.get hq) hs hne
  · have f:∀ q,(upd1 ct r (some c') q).isSome = true → (ct q).isSome = true:=by
      intro q hq
      by_cases hqr:q = r
      · subst hqr; rw [e]; rfl
      · rw [upd1_ne hqr] at hq; exact hq
    exact A.inj q q' (f q hq) (f q' hq') hqq
theorem At.new (A:At h ad ct):At (h.new c') (upd1 ad r h.next) (upd1 ct r (some c')):=by
  have lt:∀ q d,ct q = some d → ad q < h.next:=fun q d e=>A.lt e
  refine ⟨fun q d hq=>?_,fun q q' hq hq' hqq=>?_⟩
  · by_cases hqr:q = r
    · subst hqr
      rw [upd1_same] at hq ⊢
      cases hq
      exact new_own
    · rw [upd1_ne hqr] at hq ⊢
      exact new_oth (A.get hq)
  · by_cases hqr:q = r
    · by_cases hqr':q' = r
      · rw [hqr,hqr']
      · subst hqr
        rw [upd1_ne hqr'] at hq' hqq
        rw [upd1_same] at hqq
        obtain ⟨d,hd⟩:=Option.isSome_iff_exists.mp hq'
        have:=lt q' d hd
        omega
    · by_cases hqr':q' = r
      · subst hqr'
        rw [upd1_ne hqr] at hq hqq
        rw [upd1_same] at hqq
        obtain ⟨d,hd⟩:=Option.isSome_iff_exists.mp hq
        have:=lt q d hd
        omega
      · rw [upd1_ne hqr] at hq hqq
        rw [upd1_ne hqr'] at hq' hqq
        exact A.inj q q' hq hq' hqq
theorem At.kp (A:At h ad ct) (k:Kp [] h h'):At h' ad ct:=⟨fun q d hq=>k.get (A.get hq) (by simp),A.inj⟩
end
end Rp
end
section
namespace Rp
open PySem PySem.W PySem.Calls PyProof.Rows HandSHeadRun
theorem left_mid {p q:Program} {loose:List Str} {Xt:Shared → Bool} {α:Type} {Yf:Shared → α} {Ya:World → α} {N M K m0:Nat} {ann:Option Value} {Sk:World → OsState → SharedT} {tk:World → OsState → Thread}
    (e:opening p = plainProg p.main.scope.names) (hN:Nat.ble 600 N = true) (f:∀ s,fenceModules? p s = some s) (le:Nat.ble (K + M) N = true)
    (hm:∀ w:World,(boot_heap w.params).objs.size = m0 ∧ bootAnn w = ann)
    (pre:∀ (w:World) (os:OsState) (n:Nat) (r:Shared),topRun treeTable p w m0 ann n (Sk w os).abs (tk w os) = some r → topRun treeTable p w m0 ann (K + n) ⟨boot_heap w.params,#[],boot_drawn,boot_toks,os⟩ (topStub p) = some r)
    (run:∀ (w:World) (os:OsState),(goF (stepT (denote treeTable) p w) m0 ann M (Sk w os) (tk w os)).map (fun s=>(looksF p (boot_heap w.params) s.abs,openSeen q loose (importedModules p.main.body) Xt true s.abs,Yf s.abs)) = some (true,openGood q loose,Ya w)) :
    LeftO p q loose Xt Yf Ya N true:=fun w=>by
  obtain ⟨⟨h,gs,d,k,os⟩,a,a'⟩:=Option.map_eq_some_iff.mp (boot_open e hN f w)
  obtain ⟨rfl,rfl,rfl,rfl⟩:h = boot_heap w.params ∧ gs = Array.mk [] ∧ d = boot_drawn ∧ k = boot_toks:=by simpa using a'
  obtain ⟨s,hs,hv⟩:=Option.map_eq_some_iff.mp (run w os)
  obtain ⟨l1,l2,l3⟩:_ ∧ _ ∧ _:=by simpa only [Prod.mk.injEq] using hv
  have r:=topRun_mono (N - (K + M)) _ _ _ _ (pre w os M _ (goF_ok hs))
  rw [show K + M + (N - (K + M)) = N by have:=Nat.le_of_ble_eq_true le; omega] at r
  rw [← (hm w).1,← (hm w).2] at r
  have l1':(staticsOk (importedModules p.main.body) (boot_heap w.params) s.abs.heap && namesBound p s.abs.heap && gensDone s.abs && laidKept (boot_heap w.params) s.abs.heap) = true:=l1
  have t:topFrom treeTable p w N ⟨boot_heap w.params,Array.mk [],boot_drawn,boot_toks,os⟩ = some s.abs:=by
    unfold topFrom
    dsimp only
    rw [boot_ns]
    show (topRun treeTable p w (boot_heap w.params).objs.size (bootAnn w) N ⟨boot_heap w.params,#[],boot_drawn,boot_toks,os⟩ (topStub p)).bind _ = _
    rw [r]
    show (match staticsOk (importedModules p.main.body) (boot_heap w.params) s.abs.heap && namesBound p s.abs.heap && gensDone s.abs && laidKept (boot_heap w.params) s.abs.heap with | true=>some s.abs | false=>none) = _
    rw [l1']
  unfold openEnds
  rw [a]
  show (topFrom treeTable p w N _).map _ = _
  rw [t]
  exact congrArg some (Prod.ext l2 l3)
theorem mid_of {p:Program} {w:World} {m0:Nat} {ann:Option Value} {k0 N' K:Nat} {s0 Sa Sb r:Shared} {stub:Thread} {b body2:List Stmt} {env:Env} {c:Code} {pos p' q:Pos}
    (h1:topGo treeTable p w m0 ann k0 s0 stub = some (Sa,⟨denote treeTable (.body b env),c,pos,[topFrame q]⟩))
    (h2:segRun treeTable p w m0 ann 1 1 Sa (blockOf b env c pos [topFrame q]) = some (.next,Sb,c,p')) (eb:body2 = b)
    (h3:topRun treeTable p w m0 ann N' Sb (restOf body2 env c p' [topFrame q]) = some r) (eN:k0 + (1 + N') = K):topRun treeTable p w m0 ann K s0 stub = some r:=by
  subst eb
  subst eN
  exact go_top h1 (piece_block h2 h3)
def RunM {β:Type} (p:Program) (M m0:Nat) (ann:Option Value) (Sk:World → OsState → SharedT) (tk:World → OsState → Thread) (f:World → SharedT → β) (v:World → β) (w:World):Prop :=
  ∀ os:OsState,(goF (stepQ (denQ tabQ) p w) m0 ann M (Sk w os) (tk w os)).map (f w) = some (v w)
theorem RunM.map {β γ:Type} {p:Program} {M m0:Nat} {ann:Option Value} {Sk:World → OsState → SharedT} {tk:World → OsState → Thread} {f:World → SharedT → β} {v:World → β} {w:World} (g:β → γ)
    (a:RunM p M m0 ann Sk tk f v w):RunM p M m0 ann Sk tk (fun w s=>g (f w s)) (fun w=>g (v w)) w:=fun os=>by
  have a:=congrArg (Option.map g) (a os)
  rw [Option.map_map,Option.map_some] at a
  exact a
theorem RunM.pair {β γ:Type} {p:Program} {M m0:Nat} {ann:Option Value} {Sk:World → OsState → SharedT} {tk:World → OsState → Thread} {f:World → SharedT → β} {g:World → SharedT → γ} {v:World → β} {u:World → γ} {w:World}
    (a:RunM p M m0 ann Sk tk f v w) (b:RunM p M m0 ann Sk tk g u w):RunM p M m0 ann Sk tk (fun w s=>(f w s,g w s)) (fun w=>(v w,u w)) w:=fun os=>by
  have a:=a os
  have b:=b os
  cases e:goF (stepQ (denQ tabQ) p w) m0 ann M (Sk w os) (tk w os) with
  | none=>rw [e] at a; cases a
  | some s =>
    rw [e] at a b
    simp only [Option.map_some,Option.some.injEq] at a b ⊢
    rw [a,b]
theorem head_mid {r:OpenRow} {q:Program} {H:Hook} {ob:SharedT → H.α} {M K m0:Nat} {ann:Option Value} {loose:List PySem.Str} {d:DefRec} {kwd:List (PySem.Str × PySem.Expr)} {Sk:World → OsState → SharedT} {tk:World → OsState → Thread} (ho:∀ s:SharedT,ob s = H.obs s.abs)
    (e:opening r.prog = plainProg r.prog.main.scope.names) (f:∀ s,fenceModules? r.prog s = some s)
    (hm:∀ w:World,(boot_heap w.params).objs.size = m0 ∧ bootAnn w = ann)
    (pre:∀ (w:World) (os:OsState) (n:Nat) (s:Shared),topRun treeTable r.prog w m0 ann n (Sk w os).abs (tk w os) = some s → topRun treeTable r.prog w m0 ann (K + n) ⟨boot_heap w.params,#[],boot_drawn,boot_toks,os⟩ (topStub r.prog) = some s)
    (run1:∀ w,RunM r.prog M m0 ann Sk tk (fun w s=>looksF r.prog (boot_heap w.params) s.abs) (fun _=>true) w)
    (run2:∀ w,RunM r.prog M m0 ann Sk tk (fun _ s=>seenQ q loose (importedModules r.prog.main.body) (fun s=>xlAt q [] s && recOk r.toRowW.records s) s.abs) (fun _=>openGood q loose) w)
    (run3:∀ w,RunM r.prog M m0 ann Sk tk (fun _ s=>ob s) H.val w)
    (hdef:defOf q r.name = some (d,kwd)) (hp:r.prog.theDef r.name = some (d.params,d.body,d.scope)) (hk:kwWritten? d.params.kwonlyargs d.params.kw_defaults = some kwd)
    (hwr:(!r.writes || r.records.isEmpty) = true) (k1:r.wellSaid = true) (ok:(chainsOk q && opensWell r.prog && (frees r.toRowW && r.within.isEmpty)) = true) (hb:r.prog.bare) (hw:r.toRowW.promised)
    (call:WalkO q loose (XL q []) H.says r.toRowW d kwd fun f vs=>PySem.call f vs):r.Holds:=by
  have left:LeftO r.prog q loose (fun s=>xlAt q [] s && recOk r.toRowW.records s) H.obs H.val (K + M + 600) true :=
    left_mid (M:=M) (K:=K) (Sk:=Sk) (tk:=tk) e (Nat.ble_eq_true_of_le (by omega)) f (Nat.ble_eq_true_of_le (by omega)) hm pre fun w os=>by
      have z:=((run1 w).pair ((run2 w).pair (run3 w))) os
      have eo:ob = fun s=>H.obs s.abs:=funext ho
      rw [eo,← stepQ_eq,← denQ_eq,← tabQ_eq] at z
      simp only [← seenQ_eq] at z ⊢
      exact z
  exact holds_open (r:=r) (q:=q) (loose:=loose) (XP:=XL q []) (YP:=H.says) (d:=d) (kwd:=kwd) left H.of H.keeps (fun s z=>xl_of s (Bool.and_eq_true_iff.mp z).1) XL.keeps hdef hp hk (fun s z=>recFacts_of (Bool.and_eq_true_iff.mp z).2) hwr k1 ok hb hw call
end Rp
namespace Rp
open PySem PySem.W PySem.Calls PyProof.Rows HandSHeadRun He
def obsL (as:List Addr) (fa:List Fa) (fn:List DefD) (ts:List Tab) (ex:PySem.W.Frag → Bool) (g:Addr → Option Obj):AlX:=(obsT fa fn ts (frT g as),ex (frT g as))
theorem saysL_of {as:List Addr} {fa:List Fa} {fn:List DefD} {ts:List Tab} {ex:PySem.W.Frag → Bool} {w:World} {h:Heap} (e:obsL as fa fn ts ex h.get? = valX fn ts w):SaysX fa fn ts [] ex w h (frT h.get? as):=by
  have e1:obsT fa fn ts (frT h.get? as) = valT fn ts w:=congrArg (fun z:AlX=>z.1) e
  have e2:ex (frT h.get? as) = true:=congrArg (fun z:AlX=>z.2) e
  exact ⟨e1,e2,by simp,by simp,by simp⟩
def hookL (as:List Addr) (fa:List Fa) (fn:List DefD) (ts:List Tab) (ex:PySem.W.Frag → Bool):PySem.W.Hook where
  α:=AlX
  obs:=fun s=>obsL as fa fn ts ex s.heap.get?
  val:=fun w=>valX fn ts w
  says:=fun w h=>∃ K:PySem.W.Frag,K.In h ∧ SaysX fa fn ts [] ex w h K
  of:=fun _ _ e=>⟨_,frT_in,saysL_of e⟩
  keeps:=fun _ _ _ ⟨K,hK,c⟩ k=>⟨K,PySem.W.Frag.In.keeps hK k,⟨c.t,c.more,c.hd,c.out,fun p hp=>k _ _ (c.empty p hp)⟩⟩
theorem obsL_eq {as:List Addr} {fa:List Fa} {fn:List DefD} {ts:List Tab} {ex:PySem.W.Frag → Bool} {g:Addr → Option Obj} {s:Shared} (h:∀ a,g a = s.heap.get? a):obsL as fa fn ts ex g = (hookL as fa fn ts ex).obs s:=by
  have e:g = s.heap.get?:=funext h
  rw [e] <;> rfl
section
variable {p:Program} {M m0:Nat} {ann:Option Value} {Sk:World → OsState → SharedT} {tk:World → OsState → Thread} {w:World}
theorem hook_parts {as:List Addr} {fa:List Fa} {fn:List DefD} {ts:List Tab} {ex:PySem.W.Frag → Bool}
    (a:RunM p M m0 ann Sk tk (fun _ s=>fa.all fun f=>f.ok (frT (HandSHeadRun.getT s) as)) (fun _=>true) w)
    (b:RunM p M m0 ann Sk tk (fun _ s=>(fn.all fun d=>d.ok (frT (HandSHeadRun.getT s) as),fn.map fun d=>fnW (frT (HandSHeadRun.getT s) as) d.at_)) (fun _=>(true,fn.map DefD.val)) w)
    (c:RunM p M m0 ann Sk tk (fun _ s=>(ts.map fun t=>dicW (frT (HandSHeadRun.getT s) as) (t.1 (frT (HandSHeadRun.getT s) as)),ex (frT (HandSHeadRun.getT s) as))) (fun w=>(ts.map fun t=>some (keysIn w.params t.2),true)) w) :
    RunM p M m0 ann Sk tk (fun _ s=>obsL as fa fn ts ex (HandSHeadRun.getT s)) (hookL as fa fn ts ex).val w:=fun os=>by
  have z:=(a.pair (b.pair c)) os
  cases e:HandSHeadRun.goF (HandSHeadRun.stepQ (HandSHeadRun.denQ HandSHeadRun.tabQ) p w) m0 ann M (Sk w os) (tk w os) with
  | none=>rw [e] at z; cases z
  | some s =>
    rw [e] at z
    simp only [Option.map_some,Option.some.injEq,Prod.mk.injEq] at z ⊢
    obtain ⟨z1,⟨z2,z3⟩,z4,z5⟩:=z
    refine congrArg some (?_:obsL as fa fn ts ex (getT s) = valX fn ts w)
    show (((_,_),_),_) = (((true,_),_),true)
    rw [z3,z4,z5,z1,z2]
    rfl
end
end Rp
end
section
namespace Rp
open PySem PySem.Spec PyProof.Rows L2
section
variable {X:Cx} {CX:CXT} {k n:Nat} {f C:Addr} {fd:FuncData} {ps ks:List Str} {sp:Sp} {E:XK} {m:Str} {apos pos:Pos} {e o:Expr} {es:List Expr} {kws:List Keyword} {ta:TE} {t tk:TA}
end
def aMethK (c n k:Nat) (F:AF) (f:AE) (g gk:AA):AE:=fun s h=>(f s h).bind fun r=>match look r.2 r.1 with
  | some (.ins c',_)=>if c' = c then (g s r.2).bind fun q=>(gk s q.2).bind fun z=>if q.1.length = n ∧ z.1.length = k then F ((r.1 :: q.1) ++ z.1) z.2 else none else none
  | _=>none
section
variable {X:Cx} {cl:Nat → Str × List Str} {e o:Expr} {es:List Expr} {kws:List Keyword} {f:AE} {g gk:AA} {nm:Option Str} {kpos pos apos:Pos} {m:Str} {k n N:Nat} {ks:List Str} {F:AF}
end
end Rp
namespace Rp
@[simp] theorem ev_methK {c n k:Nat} {F:AF} {f:AE} {g gk:AA} {s:LS} {h:AH}:aMethK c n k F f g gk s h = (f s h).bind fun r=>match look r.2 r.1 with
  | some (.ins c',_)=>if c' = c then (g s r.2).bind fun q=>(gk s q.2).bind fun z=>if q.1.length = n ∧ z.1.length = k then F ((r.1 :: q.1) ++ z.1) z.2 else none else none
  | _=>none:=id rfl
end Rp
end
section
namespace Rp
open PySem PySem.Spec PyProof.Rows L2 PySem.W PySem.Calls
open Builtin Builtin.ObjectAttr
structure OexG (K:PySem.W.Frag) (C:Addr) (bmB:List Value) (newId:String):Prop where
  ini:excInitIn K C bmB newId = true
  ovr:excOver K C bmB = true
  cls:∃ cd,PySem.W.clsIn K C = some cd ∧ cd.hasDict = true
  sa:PySem.W.findIn K (.ref C) "__setattr__" = some (some (.builtin "object.__setattr__"))
  exC:PySem.W.subIn K (.ref C) (.type "BaseException") = some true
  tyC:PySem.W.typeIn K (.ref C) = some (.type "type")
  kC:PySem.W.keepIn K (.ref C) = true
section
variable {prog:Program} {w:World} {A:Around} {E:Value → Shared → Prop} {R:Result → Shared → Prop} {hp:Heap} {g:Array GenState} {d:Drawn} {t:Nat} {os:OsState} {B newId:String} {bmB:List Value}
theorem taker_none {K:W.Frag} {C:Addr} {name:Str} (ha:W.findIn K (.ref C) name = some none):W.takerIn K C name = some none:=by
  unfold W.takerIn
  rw [ha]
  rfl
theorem osaG_new (SF:StoreFacts B bmB "object.__setattr__" "object") {K:W.Frag} {name:Str} {tk:Tok} {v:Value} {x C:Addr} {fv:Array Value} {cd:ClassData}
    (X:K.In hp) (hx:hp.get? x = some { cls:=.ref C,data:=.fields fv }) (hcd:W.clsIn K C = some cd) (hh:cd.hasDict = true) (ho:excOver K C bmB = true) (ha:W.findIn K (.ref C) name = some none)
    (hq:∀ h' tk' dx,(∀ b o,b ≠ x → hp.get? b = some o → h'.get? b = some o) → hp.objs.size ≤ dx → dx ≠ x → h'.get? x = some { cls:=.ref C,dict:=some dx,data:=.fields fv } →
      h'.Ns1 dx (fun y=>if y = name then some v else none) → R (.ok (.ret .none)) ⟨h',g,d,tk',os⟩) :
    codeAny (model prog w) A (.call (.builtin "object.__setattr__") ⟨[.ref x,.str name tk,v],[]⟩) R ⟨hp,g,d,t,os⟩:=by
  have I:W.InstAt hp x { cls:=.ref C,data:=.fields fv } C none:=⟨hx,rfl,rfl,trivial⟩
  have hxs:x ≠ hp.objs.size:=Nat.ne_of_lt (Heap.lt_size hx)
  have hcls:W.Looks (model prog w) hp (classData C) cd:=W.looks_clsIn X hcd
  refine osa_openX SF X I ho (taker_none ha) fun b=>?_
  obtain ⟨nm,bs,mro,ns,qn,hd,sn,sb,ab,col,del⟩:=cd
  dsimp only at hh
  subst hh
  unfold storeInOwnDict ownDictForStores
  repeat (first | with_reducible refine PySem.HandSPX.store_in_new ?_ ?_ | with_reducible refine wpAny_loadPart_at hx ?_ | with_reducible refine hcls.at ?_ | wp_step)
  · exact ⟨_,#[],_,(Heap.get?_update_ne _ _ _ _ hxs.symm).trans (Heap.get?_push_at rfl rfl),rfl,fun e he=>absurd he (by simp),fun _=>rfl⟩
  · intro h' tk' hn' hs
    have hx₁:(hp.push { cls:=.type "dict",data:=.dict #[] }).get? x = some { cls:=.ref C,data:=.fields fv }:=Heap.get?_push_of_some _ hx
    refine hq h' tk' hp.objs.size (fun b o hb ho=>?_) (Nat.le_refl _) hxs.symm ?_ hn'
    · exact (hs.2 b (Nat.ne_of_lt (Heap.lt_size ho))).trans ((Heap.get?_update_ne _ _ _ _ hb).trans (Heap.get?_push_of_some _ ho))
    · exact (hs.2 x hxs).trans (Heap.get?_update_self _ hx₁ rfl)
end
section
variable {X:Cx} {pins:List (Addr × Obj)} {σ:L2.St} {H:Hp} {s:Shared} {a C dx:Addr} {f:Str} {y:V} {u:Value} {E:Value → Shared → Prop} {A:Around} {B newId initId:String} {bmB:List Value}
theorem ostG_new {Q:Unit → Shared → Prop} (SF:StoreFacts B bmB "object.__setattr__" "object") (T:OexG X.K C bmB newId) (I:Inv X pins σ H s) (e:H a = some (exo a C none)) (hno:PySem.W.findIn X.K (.ref C) f = some none) (ry:RelV y u)
    (h:∀ dx s',H dx = none → dx ≠ a → Inv X pins σ (upd (upd H dx (exd dx [(f,y)])) a (exo a C (some dx))) s' → Q () s'):wpAny (model X.prog X.w) A (setAttr (.ref a) f u) Q E s:=by
  obtain ⟨cd,hcl,hh⟩:=T.cls
  obtain ⟨t1,ho⟩:=exo_at I.hok e
  obtain ⟨hp,g,d,t,os⟩:=s
  refine PySem.W.set_plain I.kIn (ox:={ cls:=.ref C,dict:=none,data:=.fields #[.ref t1,.none,.none,.none,.bool false,.none] }) (od:=none) ⟨ho,rfl,rfl,trivial⟩ T.sa ?_
  refine osaG_new SF I.kIn ho hcl hh T.ovr hno (fun h' tk' dx k dn dne hx hn=>?_)
  have hnd:H dx = none:=I.hok.fresh dn
  have nd:∀ {b:Addr} {o:Obj},hp.get? b = some o → b ≠ dx:=fun {b o} q=>Nat.ne_of_lt (Nat.lt_of_lt_of_le (Heap.lt_size q) dn)
  have na:∀ {b:Addr},H b = none → b ≠ a:=fun {b} n z=>by
    rw [z,e] at n
    cases n
  have U:Un X.fs [] H (upd (upd H dx (exd dx [(f,y)])) a (exo a C (some dx))) hp h':=by
    refine ⟨fun b o q n _ _=>k b o (na n) q,fun b o q n _ _=>⟨o.slots,k b o (na n) q⟩,fun b o q n _=>?_,fun b o q _=>?_,fun b xs q=>?_,fun b o v q=>?_,fun b ps q=>⟨#[],?_⟩⟩
    · rw [upd_ne (na n),upd_ne (nd q)]; exact n
    · by_cases hb:b = a
      · exact ⟨_,by rw [hb]; exact hx⟩
      · exact ⟨o,k b o hb q⟩
    · rw [upd_ne (at_ne e q exo_tup),upd_ne (ne_of_none q hnd)]; exact q
    · rw [upd_ne (at_ne e q exo_frz),upd_ne (ne_of_none q hnd)]; exact q
    · rw [upd_ne (at_ne e q exo_tbl),upd_ne (ne_of_none q hnd),q]; simp
  refine h dx _ hnd dne (I.un (t':=tk') U fun b o q=>?_)
  by_cases hb:b = a
  · subst hb
    rw [upd_same] at q
    cases q
    exact exo_ok hx
  rw [upd_ne hb] at q
  by_cases hd:b = dx
  · subst hd
    rw [upd_same] at q
    cases q
    exact exd_ok hn (relO_put (fs:=[]) ry fun g=>True.intro)
  rw [upd_ne hd] at q
  refine (I.hok b o q).stay (fun c v hc z=>k c v ?_ z) (fun c hc=>?_) (fun c xs hc=>?_)
  · rcases hc with hc | hc
    · rw [hc]; exact hb
    · exact at_ne e hc exo_own
  · rw [upd_ne (at_ne e hc exo_own),upd_ne (ne_of_none hc hnd)]; exact hc
  · rw [upd_ne (at_ne e hc exo_tup),upd_ne (ne_of_none hc hnd)]; exact hc
theorem oinitG {us:List Value} {Q:Value → Shared → Prop} (F:ExcBaseFacts B newId initId bmB) (T:OexG X.K C bmB newId) (I:Inv X pins σ H s) (e:H a = some (exo a C none)) (hl:us.length ≤ sizeLine) (h:∀ s',Inv X pins σ H s' → Q .none s') :
    wpAny (model X.prog X.w) A (call (.builtin initId) (.ref a :: us)) Q E s:=by
  obtain ⟨nm,N,q,bs,bm,hdct,sn,sub,ab,col,dd,k0,k1,k2,k3,k5,hC,hT⟩:=excInit_of I.kIn T.ini
  obtain ⟨t1,ho⟩:=exo_at I.hok e
  obtain ⟨hp,g,d,t,os⟩:=s
  refine wpAny_call (PySem.HandSPX.init_base F hT hC ho hl fun h' t2 k hx=>?_)
  have J:=I.write (t':=t) (x:=a) (e:=a) (o:=exo a C none) (by rw [e]; exact True.intro) (.inl rfl) k ⟨_,hx⟩ (exo_ok hx)
  have eu:upd H a (exo a C none) = H:=by
    funext b
    by_cases hb:b = a
    · rw [hb,upd_same,e]
    · rw [upd_ne hb]
  rw [eu] at J
  exact h _ J
end
section
variable {X:Cx} {o e:Expr} {es:List Expr} {to te:TE} {ta:TA} {f:Str} {p p' p1 p2 pos:Pos}
end
section
variable {X:Cx} {e:Expr} {es:List Expr} {ta:TA} {p pos:Pos}
theorem mk_endN {pins:List (Addr × Obj)} {σ:L2.St} {H1 H2:Hp} {Q:XK} {hp hp2 h2:Heap} {g1 g2:Array GenState} {d1 d2:Drawn} {t1 t2:Nat} {os1 os2:OsState} {a C d:Addr} {fs:List (Str × V)} (T:Raises X (.ref C)) (I1:Inv X pins σ H1 ⟨hp,g1,d1,t1,os1⟩)
    (ha:hp.objs.size ≤ a) (k:∀ b o,hp.get? b = some o → hp2.get? b = some o) (un:Un (frs X.stack) [] (upd H1 a (exo a C none)) H2 hp2 h2) (hok:HOk X.prog X.w H2 h2) (ho:os2 = os1) (hb:AllBare g2)
    (ea:H2 a = some (exo a C (some d))) (ed:H2 d = some (exd d fs)) (hd1:H1 d = none) (q:Q (.ref C) (some d) (upd (del H2 a) d (.xd fs))):L2N.MkP X pins σ Q (.ref a) ⟨h2,g2,d2,t2,os2⟩:=by
  obtain ⟨t0,G,J,kG,ge,hoe,na⟩:=mk_end0 (d2:=d2) (t2:=t2) I1 ha k un hok ho hb ea ed hd1
  exact ⟨a,_,_,⟨G,g2,d2,t2,os2⟩,_,.ref C,some d,rfl,J,kG,ge,hoe,⟨rfl,rfl,fun vs e=>by cases e; rfl⟩,rfl,rfl,na,rfl,hb,T,q⟩
theorem pmk_oexG {CX:CXT} {x:Str} {C fI:Addr} {k:Nat} {fd:FuncData} {ps:List Str} {sp:Sp} {ds:List Value} {dvs:List V} {B newId initId:String} {bmB:List Value} (FB:ExcBaseFacts B newId initId bmB) (T:OexG X.K C bmB newId) (iC:PySem.W.findIn X.K (.ref C) "__init__" = some (some (.ref fI))) (tI:PySem.W.typeIn X.K (.ref fI) = some (.type "function"))
    (F1:FnOk X.prog X.w X.K X.mg X.base CX k fI fd ps sp) (hr:Room (k + 1) X.A) (hb:Binds X.K fd ps ds) (hd:Vals dvs ds) (hx:Passes CX X (fun _ _ _=>False)) (hg:Gl X x) (hm:X.mg x = some (.ref C)) (ha:PA X (e :: es) ta)
    (hdb:(x == ("__debug__" : Str)) = false:=by decide) (he:starEach (e :: es) X.env = (false,eval e X.env) :: starEach es X.env:=by rfl) (hpl:(backTo pos (starEach es X.env)).any (·.1) = false:=by rfl) :
    L2N.PMk X (.Call (.Name x p) (e :: es) [] pos) (tMkO C sp dvs ta):=by
  intro pins s σ H Q I h
  refine wpAny_Call_Name_kw (ld_glob I hg hm ?_ hdb)
  refine PySem.W.callWith_K (h₀:=X.base) I.ok.mod.kin T.kC (thn (ha.run pos pins s σ H _ I h) fun us s1 ⟨vs,H1,I1,r1,hz,q1⟩=>⟨I1.kIn,?_⟩) he hpl
  show wpAny _ _ (call (.ref C) us) _ _ _
  obtain ⟨nm,N,q,bs,bm,hdct,sn,sub,ab,col,dd,k0,k1,k2,k3,k5,hC,hT⟩:=excInit_of I1.kIn T.ini
  obtain ⟨hp,g,dr,tk,os⟩:=s1
  have hsz:hp.objs.size ≤ hp.objs.size + 1:=Nat.le_succ _
  have hn:H1 (hp.objs.size + 1) = none:=I1.hok.fresh hsz
  have hq:=q1 (hp.objs.size + 1) hn
  have kk:∀ b o,hp.get? b = some o → ((hp.push (PySem.W.kdv_tup us)).push (PySem.HandSPX.excO C hp.objs.size)).get? b = some o:=fun b o e=>Heap.get?_push_of_some _ (Heap.get?_push_of_some _ e)
  have hget:((hp.push (PySem.W.kdv_tup us)).push (PySem.HandSPX.excO C hp.objs.size)).get? (hp.objs.size + 1) = some (PySem.HandSPX.excO C hp.objs.size):=by heap_get
  have I2:Inv X pins σ (upd H1 (hp.objs.size + 1) (exo (hp.objs.size + 1) C none)) ⟨(hp.push (PySem.W.kdv_tup us)).push (PySem.HandSPX.excO C hp.objs.size),g,dr,tk,os⟩ :=
    I1.laid (t':=tk) (a:=hp.objs.size + 1) (o:=exo (hp.objs.size + 1) C none) (h':=(hp.push (PySem.W.kdv_tup us)).push (PySem.HandSPX.excO C hp.objs.size)) kk hsz (exo_ok hget)
  have r2:Vals (V.ref (hp.objs.size + 1) :: (vs ++ dvs)) (Value.ref (hp.objs.size + 1) :: (us ++ ds)):=.cons rfl (r1.append hd)
  have hl:(Value.ref (hp.objs.size + 1) :: us ++ ds).length = ps.length:=by
    have e:=r2.length
    rw [F1.len _ _ _ _ hq] at e
    exact e.symm
  have hus:us.length ≤ sizeLine:=by
    rw [← Paired.length r1,sizeLine_eq]
    omega
  refine wpAny_call (PySem.HandSPX.call_own FB hT hC (PySem.W.looks_findIn I1.kIn iC) (fun self=>PySem.W.bind_fn I1.kIn self tI) hus
    (codeAny_mono (F1.run _ X.stack _ _ ⟨Value.ref (hp.objs.size + 1) :: us,[]⟩ (Value.ref (hp.objs.size + 1) :: (us ++ ds)) _ _ (fun _ _ _=>False) (hr.make C us []) (I2.env0.make C us []) (hb _ (Value.ref (hp.objs.size + 1) :: us) I2.kIn hl) r2 hq) fun r s' hq' => ?_))
  cases r with
  | error er=>exact hx pins σ _ _ er s' I2 hq'
  | ok fl =>
    cases fl with
    | ret u =>
      obtain ⟨v,H2,os2,bare2,un2,hok2,rv,ev,d,fs,ea,ed,hd1,q2⟩:=hq'
      subst ev
      obtain ⟨h2,g2,d2,t2,os'⟩:=s'
      exact ⟨rv,mk_endN (raises_own T.exC T.tyC) I1 hsz kk un2 hok2 os2 bare2 ea ed hd1 q2⟩
    | next=>exact False.elim hq'
    | brk=>exact False.elim hq'
    | cont=>exact False.elim hq'
end
end Rp
end
section
namespace Rp
open PySem PySem.Spec PyProof.Rows L2
inductive Out where
  | ok (v:AV) | ex (c:Nat) (v:AV)
inductive ARX where
  | ar (r:AR) | ex (c:Nat) (v:AV) (s:LS)
abbrev AFX:=List AV → AH → Option (Out × AH)
abbrev AEX:=LS → AH → Option (Out × AH)
abbrev ASX:=LS → AH → Option (ARX × AH)
abbrev ATX:=LS → AH → Option ((Bool ⊕ (Nat × AV)) × AH)
abbrev XT:=Nat → Addr × Option Str
def RepX (ct:Ct) (xt:XT) (w:Wd) (H:Hp) (c:Nat) (v:AV) (cls:Value) (d:Option Addr):Prop:=cls = .ref (xt c).1 ∧ match (xt c).2 with
  | none=>d = none
  | some f=>∃ dd u,d = some dd ∧ w.R dd = some (.xd [(f,u)]) ∧ H dd = some (.xd [(f,u)]) ∧ RepV ct w v u
def tAX (ct:Ct) (xt:XT) (W:WX) (f:AEX):TE:=fun σ H Q=>∃ w s h o h',RepS ct w s σ ∧ SR ct w H h ∧ f s h = some (o,h') ∧ match o with
  | .ok v=>∀ w' H' u,Tr w H h w' H' h' → SR ct w' H' h' → RepV ct w' v u → Q u H'
  | .ex c v=>∀ w' H' cls d,Tr w H h w' H' h' → SR ct w' H' h' → RepX ct xt w' H' c v cls d → W cls d σ H'
def tTX (ct:Ct) (xt:XT) (W:WX) (f:ATX):TT:=fun σ H Q=>∃ w s h o h',RepS ct w s σ ∧ SR ct w H h ∧ f s h = some (o,h') ∧ match o with
  | .inl b=>∀ w' H',Tr w H h w' H' h' → SR ct w' H' h' → Q b H'
  | .inr (c,v)=>∀ w' H' cls d,Tr w H h w' H' h' → SR ct w' H' h' → RepX ct xt w' H' c v cls d → W cls d σ H'
def tX (ct:Ct) (xt:XT) (W:WX) (f:ASX):TS:=fun D σ H=>∃ w s h r h',RepS ct w s σ ∧ SR ct w H h ∧ f s h = some (r,h') ∧ match r with
  | .ar r=>∀ w' H',Tr w H h w' H' h' → SR ct w' H' h' → EndsA ct w' D H' r
  | .ex c v s' => ∀ w' H' σ' cls d,Tr w H h w' H' h' → SR ct w' H' h' → RepS ct w' s' σ' → RepX ct xt w' H' c v cls d → W cls d σ' H'
def spX (ct:Ct) (xt:XT) (n:Nat) (F:AFX):Sp:=fun vs H Q E=>∃ w h as o h',as.length = n ∧ RepL ct w as vs ∧ SR ct w H h ∧ F as h = some (o,h') ∧ match o with
  | .ok v=>∀ w' H' u,Tr w H h w' H' h' → SR ct w' H' h' → RepV ct w' v u → Q u H'
  | .ex c v=>∀ w' H' cls d,Tr w H h w' H' h' → SR ct w' H' h' → RepX ct xt w' H' c v cls d → E cls d H'
def lfE (f:AE):AEX:=fun s h=>(f s h).bind fun r=>some (.ok r.1,r.2)
def lfS (f:AS):ASX:=fun s h=>(f s h).bind fun r=>some (.ar r.1,r.2)
def lfT (f:AT):ATX:=fun s h=>(f s h).bind fun r=>some (.inl r.1,r.2)
def xSeq (f g:ASX):ASX:=fun s h=>(f s h).bind fun r=>match r.1 with
  | .ar (.nx s')=>g s' r.2
  | x=>some (x,r.2)
def xIf (t:ATX) (f g:ASX):ASX:=fun s h=>(t s h).bind fun r=>match r.1 with
  | .inl b=>if b = true then f s r.2 else g s r.2
  | .inr (c,v)=>some (.ex c v s,r.2)
def xExp (f:AEX):ASX:=fun s h=>(f s h).bind fun r=>match r.1 with
  | .ok _=>some (.ar (.nx s),r.2)
  | .ex c v=>some (.ex c v s,r.2)
def xRet (f:AEX):ASX:=fun s h=>(f s h).bind fun r=>match r.1 with
  | .ok v=>some (.ar (.rt v),r.2)
  | .ex c v=>some (.ex c v s,r.2)
def xSet (f:AEX) (i:Nat):ASX:=fun s h=>(f s h).bind fun r=>match r.1 with
  | .ok v=>some (.ar (.nx (s.set i (some v))),r.2)
  | .ex c v=>some (.ex c v s,r.2)
section
variable {X:Cx} {cl:Nat → Str × List Str} {xt:XT} {W:WX} {pos:Pos} {st:Stmt} {rest a b:List Stmt} {f g:ASX} {e:Expr} {fe:AEX} {t:ATX}
theorem lT {f:AT} (h:PT X e (tT (ctX X cl) f)):PT X e (tTX (ctX X cl) xt W (lfT f)):=h.wk fun σ H Q q=>by
  obtain ⟨w,s,h,o,h',rs,sr,e,k⟩:=q
  obtain ⟨⟨v,h1⟩,e1,e⟩:=bind_some e
  cases e
  exact ⟨w,s,h,v,h1,rs,sr,e1,k⟩
theorem lS {f:AS} (h:PS X st (tS (ctX X cl) f)):PS X st (tX (ctX X cl) xt W (lfS f)):=h.wk fun D σ H q=>by
  obtain ⟨w,s,h,o,h',rs,sr,e,k⟩:=q
  obtain ⟨⟨v,h1⟩,e1,e⟩:=bind_some e
  cases e
  exact ⟨w,s,h,v,h1,rs,sr,e1,k⟩
theorem xs_nil:PSs X [] (tX (ctX X cl) xt W (lfS aPass)):=pss_nil.wk fun D σ H q=>by
  obtain ⟨w,s,h,r,h',rs,sr,e,k⟩:=q
  cases e
  exact k w H (.refl _ _ _) sr σ rs
theorem xs_one (h1:PS X st (tX (ctX X cl) xt W f)):PSs X [st] (tX (ctX X cl) xt W f):=pss_one h1
theorem xs_cons (h1:PS X st (tX (ctX X cl) xt W f)) (h2:PSs X rest (tX (ctX X cl) xt W g)):PSs X (st :: rest) (tX (ctX X cl) xt W (xSeq f g)):=by
  refine (pss_cons h1 h2).wk fun D σ H q=>?_
  obtain ⟨w,s,h,r,h',rs,sr,e,k⟩:=q
  obtain ⟨⟨x,h1⟩,e1,e⟩:=bind_some e
  refine ⟨w,s,h,x,h1,rs,sr,e1,?_⟩
  cases x with
  | ex c v s' =>
    cases e
    exact k
  | ar x =>
    intro w1 H1 t1 s1
    cases x with
    | nx s' =>
      intro σ' rs'
      refine ⟨w1,s',h1,r,h',rs',s1,e,?_⟩
      cases r with
      | ar r=>exact fun w2 H2 t2 s2=>k w2 H2 (t1.trans t2) s2
      | ex c v s'' => exact fun w2 H2 σ2 cls d t2 s2=>k w2 H2 σ2 cls d (t1.trans t2) s2
    | _=>cases e; exact k w1 H1 t1 s1
theorem xs_if {c0:Expr} (hc:PT X c0 (tTX (ctX X cl) xt W t)) (ha:PSs X a (tX (ctX X cl) xt W f)) (hb:PSs X b (tX (ctX X cl) xt W g)):PS X (.If c0 a b pos) (tX (ctX X cl) xt W (xIf t f g)):=by
  refine (ps_if hc ha hb).wk fun D σ H q=>?_
  obtain ⟨w,s,h,r,h',rs,sr,e,k⟩:=q
  obtain ⟨⟨d,h1⟩,e1,e⟩:=bind_some e
  refine ⟨w,s,h,d,h1,rs,sr,e1,?_⟩
  cases d with
  | inr cv =>
    obtain ⟨c,v⟩:=cv
    cases e
    exact fun w1 H1 cls d t1 s1 rx=>k w1 H1 σ cls d t1 s1 (rs.le t1.le) rx
  | inl d =>
    intro w1 H1 t1 s1
    cases d with
    | true =>
      refine ⟨w1,s,h1,r,h',rs.le t1.le,s1,e,?_⟩
      cases r with
      | ar r=>exact fun w2 H2 t2 s2=>k w2 H2 (t1.trans t2) s2
      | ex c v s'' => exact fun w2 H2 σ2 cls d t2 s2=>k w2 H2 σ2 cls d (t1.trans t2) s2
    | false =>
      refine ⟨w1,s,h1,r,h',rs.le t1.le,s1,e,?_⟩
      cases r with
      | ar r=>exact fun w2 H2 t2 s2=>k w2 H2 (t1.trans t2) s2
      | ex c v s'' => exact fun w2 H2 σ2 cls d t2 s2=>k w2 H2 σ2 cls d (t1.trans t2) s2
theorem xs_expr (he:PE X e (tAX (ctX X cl) xt W fe)) (hs:swapsWith e none pos.line X.env = pure false:=by rfl):PS X (.Expr e pos) (tX (ctX X cl) xt W (xExp fe)):=by
  refine (ps_expr he hs).wk fun D σ H q=>?_
  obtain ⟨w,s,h,r,h',rs,sr,e,k⟩:=q
  obtain ⟨⟨x,h1⟩,e1,e⟩:=bind_some e
  refine ⟨w,s,h,x,h1,rs,sr,e1,?_⟩
  cases x with
  | ok v=>cases e; exact fun w1 H1 u t1 s1 r1=>k w1 H1 t1 s1 σ (rs.le t1.le)
  | ex c v=>cases e; exact fun w1 H1 cls d t1 s1 rx=>k w1 H1 σ cls d t1 s1 (rs.le t1.le) rx
end
section
variable {X:Cx} {k:Nat} {f C:Addr} {fd:FuncData} {ps:List Str} {sp:Sp} {dvs:List V} {ds:List Value} {W:WX} {x m:Str} {p pos apos:Pos} {e o:Expr} {es:List Expr} {ta:TE} {t:TA}
theorem run_fnS {pins:List (Addr × Obj)} {σ:L2.St} {H:Hp} {s:Shared} {Q:VK} {us:List Value} {vs:List V} (F:FnOk X.prog X.w X.K X.mg X.base (L2N.CX X.prog X.w) k f fd ps sp) (hr:Room k X.A) (hb:Binds X.K fd ps ds) (hd:Vals dvs ds) (tk:L2N.Takes X W)
    (I:Inv X pins σ H s) (r:Vals vs us) (h:sp (vs ++ dvs) H Q (fun cls d H' => W cls d σ H')):wpAny (model X.prog X.w) X.A (call (.ref f) us) (EP X pins σ Q) X.xe s:=by
  have r2:Vals (vs ++ dvs) (us ++ ds):=r.append hd
  have hl:(us ++ ds).length = ps.length:=by rw [← r2.length]; exact F.len _ _ _ _ h
  refine wpAny_call (codeAny_mono (F.run X.A X.stack s H ⟨us,[]⟩ (us ++ ds) (vs ++ dvs) Q _ hr I.env0 (hb s us I.kIn hl) r2 h) fun r s' hq=>?_)
  cases r with
  | error e=>exact tk e s' (L2N.XE.of_call I (fun _ _ _ z=>z) hq)
  | ok fl =>
    cases fl with
    | ret u=>exact I.after hq
    | next=>exact False.elim hq
    | brk=>exact False.elim hq
    | cont=>exact False.elim hq
def tMethS (C:Addr) (m:Str) (sp:Sp) (dvs:List V) (W:WX) (ta:TE) (t:TA):TE:=fun σ H Q=>ta σ H fun x H1=>∃ a dx fs,x = .ref a ∧ H1 a = some (.ins C dx fs) ∧ fs.lookup m = none ∧
  t σ H1 fun vs H2=>sp ((x :: vs) ++ dvs) H2 Q (fun cls d H' => W cls d σ H')
theorem pe_methS {pl:Sem Bool} (he:PE X o ta) (c:Cls X.K C) (hm:Meth X.K C m f) (F:FnOk X.prog X.w X.K X.mg X.base (L2N.CX X.prog X.w) k f fd ps sp) (hr:Room k X.A) (hb:Binds X.K fd ps ds) (hd:Vals dvs ds) (tk:L2N.Takes X W) (ha:PA X (e :: es) t)
    (hst:starEach (e :: es) X.env = (false,eval e X.env) :: starEach es X.env:=by rfl) (hpl:(backTo pos (starEach es X.env)).any (·.1) = false:=by rfl)
    (ht:eval (.Call (.Attribute o m apos) (e :: es) [] pos) X.env = (do
      let ov ← eval o X.env
      standAt apos.atName
      let (f,first) ← holding [ov] (getMethod ov m pl)
      callWith pos f first (backTo pos (starEach (e :: es) X.env)) (backToKw pos (keywordEach [] X.env))):=by rfl) :
    PE X (.Call (.Attribute o m apos) (e :: es) [] pos) (tMethS C m sp dvs W ta t):=by
  refine ⟨fun pins s σ H Q I h=>?_⟩
  refine PySem.W.methodCall_KW (pl:=pl) (thn (he.run pins s σ H _ I h) fun u s1 ⟨x,H1,I1,rx,a,dx,fs,ex,ea,l,q⟩=>?_) ht
  subst ex
  obtain rfl:u = Value.ref a:=rx
  refine getmeth_ok I1 ea c hm l ?_
  refine PySem.W.callWith_K (first:=[.ref a]) (h₀:=X.base) I.ok.mod.kin hm.kp (thn (ha.run pos pins s1 σ H1 _ I1 q) fun us s2 ⟨vs,H2,I2,r,q2⟩=>⟨I2.kIn,?_⟩) hst hpl
  exact run_fnS (us:=.ref a :: us) (vs:=.ref a :: vs) F hr hb hd tk I2 (.cons rfl r) q2
end
def lenX (n:Nat) (F:AFX):AFX:=fun as h=>if as.length = n then F as h else none
theorem lenX_len {n:Nat} {F:AFX} {as:List AV} {h:AH} {r:Out × AH} (e:lenX n F as h = some r):as.length = n ∧ F as h = some r:=by
  unfold lenX at e
  by_cases q:as.length = n
  · rw [if_pos q] at e; exact ⟨q,e⟩
  · rw [if_neg q] at e; cases e
def MetX (P:Program) (w:World) (K:PySem.W.Frag) (mg:Str → Option Value) (base:Heap) (cl:Nat → Str × List Str) (xt:XT) (k c:Nat) (m:Str) (n:Nat) (F:AFX):Prop:=∃ a f fd ps,ClsF ⟨K,w,mg,cl⟩ c a ∧ Meth K a m f ∧ m ∉ (cl c).2 ∧ FnOk P w K mg base (L2N.CX P w) k f fd ps (spX ⟨K,w,mg,cl⟩ xt n F) ∧ Binds K fd ps []
def xMeth (c:Nat) (F:AFX) (f:AE) (g:AA):AEX:=fun s h=>(f s h).bind fun r=>match look r.2 r.1 with
  | some (.ins c',_)=>if c' = c then (g s r.2).bind fun q=>F (r.1 :: q.1) q.2 else none
  | _=>none
theorem xMeth_inv {c:Nat} {F:AFX} {f:AE} {g:AA} {s:LS} {h:AH} {y:Out × AH} (q:xMeth c F f g s h = some y):∃ z h1 xs as h2,f s h = some (z,h1) ∧ look h1 z = some (.ins c,xs) ∧ g s h1 = some (as,h2) ∧ F (z :: as) h2 = some y:=by
  obtain ⟨⟨z,h1⟩,e1,e⟩:=bind_some q
  cases hl:look h1 z with
  | none =>
    have e':(match look h1 z with
      | some (.ins c',_)=>if c' = c then (g s h1).bind fun q=>F (z :: q.1) q.2 else none
      | _=>none) = some y:=e
    rw [hl] at e'
    cases e'
  | some r =>
    obtain ⟨kd,xs⟩:=r
    have e':(match look h1 z with
      | some (.ins c',_)=>if c' = c then (g s h1).bind fun q=>F (z :: q.1) q.2 else none
      | _=>none) = some y:=e
    rw [hl] at e'
    cases kd with
    | ins c' =>
      have e2:(if c' = c then (g s h1).bind fun q=>F (z :: q.1) q.2 else none) = some y:=e'
      by_cases hc:c' = c
      · rw [if_pos hc] at e2
        obtain ⟨⟨as,h2⟩,e3,e4⟩:=bind_some e2
        exact ⟨z,h1,xs,as,h2,e1,by rw [hl,hc],e3,e4⟩
      · rw [if_neg hc] at e2; cases e2
    | _=>cases e'
section
variable {X:Cx} {cl:Nat → Str × List Str} {xt:XT} {W:WX} {e o:Expr} {es:List Expr} {f:AE} {g:AA} {pos apos:Pos} {m:Str} {k n:Nat} {F:AFX}
theorem xe_meth {c:Nat} {pl:Sem Bool} (C:MetX X.prog X.w X.K X.mg X.base cl xt k c m n (lenX n F)) (hr:Room k X.A) (tk:L2N.Takes X W) (ho:PE X o (tA (ctX X cl) f)) (ha:PA X (e :: es) (tAs (ctX X cl) g))
    (hst:starEach (e :: es) X.env = (false,eval e X.env) :: starEach es X.env:=by rfl) (hpl:(backTo pos (starEach es X.env)).any (·.1) = false:=by rfl)
    (ht:eval (.Call (.Attribute o m apos) (e :: es) [] pos) X.env = (do
      let ov ← eval o X.env
      standAt apos.atName
      let (f,first) ← holding [ov] (getMethod ov m pl)
      callWith pos f first (backTo pos (starEach (e :: es) X.env)) (backToKw pos (keywordEach [] X.env))):=by rfl) :
    PE X (.Call (.Attribute o m apos) (e :: es) [] pos) (tAX (ctX X cl) xt W (xMeth c (lenX n F) f g)):=by
  obtain ⟨a,fa,fd,ps,h1,h2,h3,h4,h5⟩:=C
  refine (pe_methS (pl:=pl) ho h1.cls h2 h4 hr h5 .nil tk ha hst hpl ht).wk fun σ H Q q=>?_
  obtain ⟨w,s,h,v,h',rs,sr,e,kQ⟩:=q
  obtain ⟨z,g1,xs,as,g2,e1,hl,e2,e4⟩:=xMeth_inv e
  refine ⟨w,s,h,z,g1,rs,sr,e1,fun w1 H1 u t1 s1 r1=>?_⟩
  obtain ⟨p,us,rfl,⟨n1,a',dx,mm,eH⟩,l⟩:=look_ok s1 r1 hl
  have:a' = a:=by
    have:=h1.mg.symm.trans mm
    cases this; rfl
  subst this
  refine ⟨p,dx,_,rfl,eH,zip_none _ _ _ h3,⟨w1,s,g1,as,g2,rs.le t1.le,s1,e2,fun w2 H2 vs t2 s2 r2=>?_⟩⟩
  refine ⟨w2,g2,z :: as,v,h',(lenX_len e4).1,?_,s2,e4,?_⟩
  · rw [List.append_nil]
    exact .cons (RepV.le t2.le _ _ r1) r2
  · cases v with
    | ok v=>exact fun w4 H4 y t4 s4 r4=>kQ w4 H4 y (t1.trans (t2.trans t4)) s4 r4
    | ex c v=>exact fun w4 H4 cls d t4 s4 r4=>kQ w4 H4 cls d (t1.trans (t2.trans t4)) s4 r4
end
end Rp
end
section
namespace Rp
open PySem PySem.Spec PyProof.Rows L2
def fnX (m:Nat) (f:ASX):AFX:=fun as h=>(f (startA m as) h).bind fun r=>match r.1 with
  | .ar (.nx _)=>some (.ok .non,r.2)
  | .ar (.rt v)=>some (.ok v,r.2)
  | .ex c v _=>some (.ex c v,r.2)
  | _=>none
section
variable {P:Program} {w:World} {K:PySem.W.Frag} {mg:Str → Option Value} {base:Heap} {cl:Nat → Str × List Str} {xt:XT} {x qual:Str} {params:Arguments} {body:List Stmt} {scope:Scope} {dvs:List V} {kws:List (Str × V)} {f:Addr} {fd:FuncData} {ps N:List Str} {k:Nat}
theorem takesC {cd:Value} {A:Around} {outer:List Env} {s:Shared} {H:Hp} {E:XK}:L2N.Takes (cxOf (L2N.CX P w) P w K mg base N qual scope f cd A outer s H E) (fun cls d _ H=>E cls d H):=L2N.takes_of rfl rfl rfl rfl
theorem fnX_end {ct:Ct} {m n:Nat} {fA:ASX} {vs:List V} {H:Hp} {Q:VK} {E:XK} (hN:N.length = m) (q:spX ct xt n (lenX n (fnX m fA)) vs H Q E) :
    tX ct xt (fun cls d _ H=>E cls d H) fA { nx:=fun _ H' => Q .non H',rt:=Q } (L2.start N vs) H:=by
  obtain ⟨w,h,as,o,h',hl,l,sr,e,k⟩:=q
  subst hN
  obtain ⟨⟨r,h1⟩,e1,e⟩:=bind_some (lenX_len e).2
  refine ⟨w,_,h,r,h1,reps_start l N,sr,e1,?_⟩
  cases r with
  | ex c v s=>cases e; exact fun w1 H1 _ cls d t1 s1 _ rx=>k w1 H1 cls d t1 s1 rx
  | ar r =>
    intro w1 H1 t1 s1
    cases r with
    | nx s=>cases e; exact fun _ _=>k w1 H1 .non t1 s1 rfl
    | rt v=>cases e; exact fun u ru=>k w1 H1 u t1 s1 ru
    | bk s=>cases e
    | ct s=>cases e
theorem fn_okX (F:FunD K x qual params body scope dvs kws f fd) (S:FnScope N ps scope) (m n:Nat) (hm:N.length = m) (hn:ps.length = n) (fA:ASX)
    (hb:∀ (cdv:Value) (A:Around) (outer:List Env) (s:Shared) (H:Hp) (E:XK),Room k (cxOf (L2N.CX P w) P w K mg base N qual scope f cdv A outer s H E).A → (cxOf (L2N.CX P w) P w K mg base N qual scope f cdv A outer s H E).A.units + 64 < cLine →
      PSs (cxOf (L2N.CX P w) P w K mg base N qual scope f cdv A outer s H E) body (tX ⟨K,w,mg,cl⟩ xt (fun cls d _ H=>E cls d H) fA)):FnOk P w K mg base (L2N.CX P w) (k + 1) f fd ps (spX ⟨K,w,mg,cl⟩ xt n (lenX n (fnX m fA))):=by
  refine F.ok S (fun vs H Q E h=>?_) (fun cdv A outer s H vs Q E hr h=>⟨_,hb cdv A outer s H E hr hr.units,fnX_end hm h⟩)
  obtain ⟨w',h',as,v,h1,hl,l,_⟩:=h
  rw [← l.len,hl,hn]
end
def okArg:AV → Bool
  | .str x=>decide (x.length ≤ 1000000)
  | .int i=>decide (i.natAbs.log2 < 1920) && decide ((toString i:Str).length ≤ 1000000)
  | _=>false
def okV (v:V):Prop:=(∃ y:Str,v = .str y ∧ y.length ≤ 1000000) ∨ ∃ i:Int,v = .int i ∧ i.natAbs.log2 < 1920 ∧ (toString i:Str).length ≤ 1000000
theorem okArg_V {ct:Ct} {w:Wd} {av:AV} {v:V} (e:okArg av = true) (r:RepV ct w av v):okV v:=by
  cases av with
  | str x=>exact .inl ⟨x,r,of_decide_eq_true e⟩
  | int i =>
    have e':(decide (i.natAbs.log2 < 1920) && decide ((toString i:Str).length ≤ 1000000)) = true:=e
    rw [Bool.and_eq_true] at e'
    exact .inr ⟨i,r,of_decide_eq_true e'.1,of_decide_eq_true e'.2⟩
  | _=>cases e
def xRaise (c:Nat) (f:AE):ASX:=fun s h=>(f s h).bind fun r=>if okArg r.1 = true then some (.ex c r.1 s,r.2) else none
section
variable {X:Cx} {cl:Nat → Str × List Str} {xt:XT} {W:WX} {x:Str} {p pos pos':Pos} {e:Expr} {fe:AE} {k c:Nat} {C fI:Addr} {fd:FuncData} {ps:List Str}
end
section
variable {P:Program} {w:World} {K:PySem.W.Frag} {mg:Str → Option Value} {base:Heap} {x qual:Str} {params:Arguments} {body:List Stmt} {scope:Scope} {dvs:List V} {kws:List (Str × V)} {f:Addr} {fd:FuncData} {k:Nat}
end
section
variable {X:Cx} {m:Str} {j:Nat} {p1 p2 p3 p4 p5 p6 p7 p8 p9 q1 q2 q3 q4:Pos}
end
end Rp
end
section
namespace Rp
open PySem PySem.Spec PyProof.Rows L2
def dropN (i:Nat) (D:Ends):Ends:={ nx:=fun σ' H' => D.nx (σ'.set i none) H',rt:=D.rt,bk:=fun σ' H' => D.bk (σ'.set i none) H',ct:=fun σ' H' => D.ct (σ'.set i none) H' }
abbrev Clause:=Value × Option Nat × (Addr → Value → Option Addr → TS)
def clauseW (o:Option Nat) (ts:Addr → Value → Option Addr → TS) (D:Ends) (a:Addr) (cls:Value) (d:Option Addr) (σ:L2.St) (H:Hp):Prop:=match o with
  | none=>ts a cls d D σ H
  | some i=>ts a cls d (dropN i D) (σ.set i (some (.ref a))) H
def wishN (K:PySem.W.Frag) (Wout:WX) (D:Ends):List Clause → WX
  | []=>Wout
  | (c,o,ts) :: r=>fun cls d σ H=>∃ b,PySem.W.exmOne K cls c = some b ∧ (b = true → ∀ a,H a = none → clauseW o ts D a cls d σ H) ∧ (b = false → wishN K Wout D r cls d σ H)
section
variable {X:Cx} {body:List Stmt} {h₀:ExceptHandler} {hds:List ExceptHandler} {l:List Clause} {pos:Pos} {tb:WX → TS} {Wout:WX}
end
end Rp
end
section
namespace Rp
open PySem PySem.Spec PyProof.Rows L2
def xTst (f:AEX):ATX:=fun s h=>(f s h).bind fun r=>match r.1 with
  | .ok (.bl b)=>some (.inl b,r.2)
  | .ok _=>none
  | .ex c v=>some (.inr (c,v),r.2)
def xNot (t:ATX):ATX:=fun s h=>(t s h).bind fun r=>match r.1 with
  | .inl b=>some (.inl (!b),r.2)
  | .inr z=>some (.inr z,r.2)
section
variable {X:Cx} {cl:Nat → Str × List Str} {xt:XT} {W:WX} {pos pos' apos:Pos} {e a o:Expr} {fe:AEX} {t:ATX} {m:Str} {k n:Nat} {F:AFX} {f:AE}
theorem xs_set {x:Str} (i:Nat) (hN:X.N.Nodup) (he:PE X e (tAX (ctX X cl) xt W fe)) (hi:X.N[i]? = some x:=by rfl) (hx:Loc X.env.scope x:=by first | exact Or.inl rfl | exact Or.inr rfl) (hs:swapsWith e (some (.Name x pos')) pos.line X.env = pure false:=by rfl) (hf:X.fn x = true ∨ X.env.scope.names.lookup x = some .local:=by first | exact .inl rfl | exact .inr rfl | assumption) :
    PS X (.Assign [.Name x pos'] e pos) (tX (ctX X cl) xt W (xSet fe i)):=by
  refine (ps_set hN hi hx he hs hf).wk fun D σ H q=>?_
  obtain ⟨w,s,h,r,h',rs,sr,e,k⟩:=q
  obtain ⟨⟨y,h1⟩,e1,e⟩:=bind_some e
  refine ⟨w,s,h,y,h1,rs,sr,e1,?_⟩
  cases y with
  | ex c v=>cases e; exact fun w1 H1 cls d t1 s1 rx=>k w1 H1 σ cls d t1 s1 (rs.le t1.le) rx
  | ok v =>
    cases e
    exact fun w1 H1 u t1 s1 r1=>k w1 H1 t1 s1 _ ((rs.le t1.le).set i r1)
end
abbrev Ph:=Wd → L2.St → Prop
def Stays (Φ:Ph):Prop:=∀ w w' σ,WLe w w' → Φ w σ → Φ w' σ
def tAF (c:Ct) (Φ:Ph) (f:AE):TE:=fun σ H Q=>∃ w s h v h',Φ w σ ∧ RepS c w s σ ∧ SR c w H h ∧ f s h = some (v,h') ∧
  ∀ w' H' u,Tr w H h w' H' h' → SR c w' H' h' → RepV c w' v u → Q u H'
def tSF (c:Ct) (Φ:Ph) (f:AS):TS:=fun D σ H=>∃ w s h r h',Φ w σ ∧ RepS c w s σ ∧ SR c w H h ∧ f s h = some (r,h') ∧ ∀ w' H',Tr w H h w' H' h' → SR c w' H' h' → EndsA c w' D H' r
section
variable {X:Cx} {cl:Nat → Str × List Str} {Φ:Ph} {e a b:Expr} {es:List Expr} {f g k:AE} {t:AT} {gs:AA} {pos:Pos}
theorem fS {st:List Stmt} {f:AS} (h:PSs X st (tS (ctX X cl) f)):PSs X st (tSF (ctX X cl) Φ f):=h.wk fun D σ H q=>by
  obtain ⟨w,s,h,v,h',_,rs,sr,e,k⟩:=q
  exact ⟨w,s,h,v,h',rs,sr,e,k⟩
end
section
variable {X:Cx} {cl:Nat → Str × List Str} {a:Addr} {oe:Obj} {cls:Value} {d:Option Addr} {pn:List (Addr × Obj)} {pos np:Pos} {n f:Str} {i:Nat}
end
section
variable {X:Cx} {cl:Nat → Str × List Str} {Φ:Ph} {es:List Expr} {gs:AA} {pos p:Pos} {e:Expr}
end
end Rp
end
section
namespace Rp
open PySem PySem.Spec PyProof.Rows L2
structure XCl where
  hit:Nat → Bool
  slot:Option Nat
  suite:AV → AS
theorem ex_pss {X:Cx} {α:Type} {st:List Stmt} {t:α → TS} (h:∀ x,PSs X st (t x)):PSs X st (fun D σ H=>∃ x,t x D σ H):=⟨fun pins s σ H D I ⟨x,q⟩=>(h x).run pins s σ H D I q⟩
theorem reps_none {c:Ct} {w:Wd} {s:LS} {σ:L2.St} {i:Nat} {x:Option V} (r:RepS c w s σ):RepS c w (s.set i none) (σ.set i x):=by
  refine ⟨?_,fun j a e=>?_⟩
  · simp only [List.length_set]; exact r.len
  · by_cases q:i = j
    · subst q
      by_cases hl:i < s.length
      · rw [List.getElem?_set_self hl] at e; cases e
      · rw [List.getElem?_eq_none (by simp; omega)] at e; cases e
    · rw [List.getElem?_set_ne q] at e
      rw [List.getElem?_set_ne q]
      exact r.at_ j a e
section
variable {X:Cx} {cl:Nat → Str × List Str} {xt:XT} {nx:Nat} {hds:List ExceptHandler} {L:List XCl} {l:List Clause}
end
section
variable {X:Cx} {cl:Nat → Str × List Str} {xt:XT} {nx:Nat} {body:List Stmt} {h₀:ExceptHandler} {hds:List ExceptHandler} {L:List XCl} {l:List Clause} {pos:Pos} {fB:ASX}
end
section
variable {X:Cx} {cl:Nat → Str × List Str} {Φ:Ph} {e:Expr} {es:List Expr} {g:AA} {p pos:Pos}
end
section
variable {X:Cx} {cl:Nat → Str × List Str} {xt:XT} {W:WX} {k n:Nat} {F:AFX} {f:AE} {o:Expr} {m:Str} {pos apos:Pos} {fI C:Addr} {fd:FuncData} {ps:List Str} {sp:Sp} {dvs:List V} {ds:List Value} {ta:TE}
end
end Rp
end
section
namespace Rp
open PySem PySem.Spec PyProof.Rows L2
section
variable {X:Cx} {cl:Nat → Str × List Str} {xt:XT} {W:WX} {x m:Str} {p pos pos' apos:Pos} {e o:Expr} {fe f:AE} {c k n:Nat} {F:AFX}
end
end Rp
end
section
namespace Rp
open PySem PySem.Spec PyProof.Rows L2
abbrev AAX:=LS → AH → Option ((List AV ⊕ (Nat × AV)) × AH)
def tAsX (ct:Ct) (xt:XT) (W:WX) (g:AAX):TA:=fun σ H Q=>∃ w s h o h',RepS ct w s σ ∧ SR ct w H h ∧ g s h = some (o,h') ∧ match o with
  | .inl vs=>∀ w' H' us,Tr w H h w' H' h' → SR ct w' H' h' → RepL ct w' vs us → Q us H'
  | .inr (c,v)=>∀ w' H' cls d,Tr w H h w' H' h' → SR ct w' H' h' → RepX ct xt w' H' c v cls d → W cls d σ H'
def lfA (g:AA):AAX:=fun s h=>(g s h).bind fun r=>some (.inl r.1,r.2)
def xNilA:AAX:=fun _ h=>some (.inl [],h)
def xCons (f:AEX) (g:AAX):AAX:=fun s h=>(f s h).bind fun r=>match r.1 with
  | .ex c v=>some (.inr (c,v),r.2)
  | .ok v=>(g s r.2).bind fun q=>match q.1 with
    | .inl vs=>some (.inl (v :: vs),q.2)
    | .inr z=>some (.inr z,q.2)
def xArgs (op:List AV → AH → Option (AV × AH)) (g:AAX):AEX:=fun s h=>(g s h).bind fun r=>match r.1 with
  | .inl vs=>(op vs r.2).bind fun q=>some (.ok q.1,q.2)
  | .inr (c,v)=>some (.ex c v,r.2)
def xIfE (t:ATX) (f g:AEX):AEX:=fun s h=>(t s h).bind fun r=>match r.1 with
  | .inl b=>if b = true then f s r.2 else g s r.2
  | .inr (c,v)=>some (.ex c v,r.2)
def xCall (F:AFX) (g:AAX):AEX:=fun s h=>(g s h).bind fun r=>match r.1 with
  | .inl vs=>F vs r.2
  | .inr (c,v)=>some (.ex c v,r.2)
section
variable {X:Cx} {cl:Nat → Str × List Str} {xt:XT} {W:WX} {pos p:Pos} {e a b:Expr} {es:List Expr} {f g:AEX} {gs:AAX} {t:ATX} {x:Str} {k n:Nat} {F:AFX}
theorem lA {h:AA} (q:PA X es (tAs (ctX X cl) h)):PA X es (tAsX (ctX X cl) xt W (lfA h)):=q.wk fun σ H Q q=>by
  obtain ⟨w,s,h,o,h',rs,sr,e,k⟩:=q
  obtain ⟨⟨v,h1⟩,e1,e⟩:=bind_some e
  cases e
  exact ⟨w,s,h,v,h1,rs,sr,e1,k⟩
def CalX (P:Program) (w:World) (K:PySem.W.Frag) (mg:Str → Option Value) (base:Heap) (cl:Nat → Str × List Str) (xt:XT) (k:Nat) (x:Str) (n:Nat) (F:AFX):Prop:=∃ f fd ps,mg x = some (.ref f) ∧ PySem.W.keepIn K (.ref f) = true ∧ FnOk P w K mg base (L2N.CX P w) k f fd ps (spX ⟨K,w,mg,cl⟩ xt n F) ∧ Binds K fd ps []
theorem xe_call (C:CalX X.prog X.w X.K X.mg X.base cl xt k x n (lenX n F)) (hr:Room k X.A) (tk:L2N.Takes X W) (ha:PA X (e :: es) (tAsX (ctX X cl) xt W gs)) (hg:Gl X x:=by rfl) (hdb:(x == ("__debug__" : Str)) = false:=by decide)
    (he:starEach (e :: es) X.env = (false,eval e X.env) :: starEach es X.env:=by rfl) (hpl:(backTo pos (starEach es X.env)).any (·.1) = false:=by rfl):PE X (.Call (.Name x p) (e :: es) [] pos) (tAX (ctX X cl) xt W (xCall (lenX n F) gs)):=by
  obtain ⟨f,fd,ps,h1,h2,h3,h4⟩:=C
  refine (pe_callS (E:=WE W) h3 hr hg h1 h2 h4 (L2N.passAt tk) ha hdb he hpl).wk fun σ H Q q=>?_
  obtain ⟨w,s,h,v,h',rs,sr,e,k⟩:=q
  obtain ⟨⟨zs,h1⟩,e1,e⟩:=bind_some e
  refine ⟨w,s,h,zs,h1,rs,sr,e1,?_⟩
  cases zs with
  | inr z =>
    obtain ⟨c,v⟩:=z
    cases e
    exact k
  | inl zs =>
    intro w1 H1 us t1 s1 r1
    refine ⟨w1,h1,zs,v,h',(lenX_len e).1,r1,s1,e,?_⟩
    cases v with
    | ok v=>exact fun w2 H2 u t2 s2 r2=>k w2 H2 u (t1.trans t2) s2 r2
    | ex c v=>exact fun w2 H2 cls d t2 s2 rx=>k w2 H2 cls d (t1.trans t2) s2 rx
end
section
variable {X:Cx} {cl:Nat → Str × List Str} {xt:XT} {W:WX} {x:Str} {p pos pos':Pos} {e:Expr} {fe:AE} {c:Nat}
end
end Rp
namespace Rp
open PySem PySem.Spec PyProof.Rows L2
section
variable {X:Cx} {cl:Nat → Str × List Str} {xt:XT} {W:WX} {e o:Expr} {es:List Expr} {f:AE} {g:AA} {pos apos:Pos} {m:Str} {k n:Nat} {F:AFX} {das:List AV}
end
theorem lSs {X:Cx} {cl:Nat → Str × List Str} {xt:XT} {W:WX} {st:List Stmt} {f:AS} (h:PSs X st (tS (ctX X cl) f)):PSs X st (tX (ctX X cl) xt W (lfS f)):=h.wk fun D σ H q=>by
  obtain ⟨w,s,h,o,h',rs,sr,e,k⟩:=q
  obtain ⟨⟨v,h1⟩,e1,e⟩:=bind_some e
  cases e
  exact ⟨w,s,h,v,h1,rs,sr,e1,k⟩
end Rp
end
section
namespace Rp
open PySem PySem.Spec PyProof.Rows L2
section
variable {s s':LS} {h h':AH} {as vs:List AV} {v:AV} {c:Nat} {b:Bool}
def fnXK (r:Option (ARX × AH)):Option (Out × AH):=r.bind fun r=>match r.1 with
  | .ar (.nx _)=>some (.ok .non,r.2)
  | .ar (.rt v)=>some (.ok v,r.2)
  | .ex c v _=>some (.ex c v,r.2)
  | _=>none
theorem evx_fn {m n:Nat} {B:ASX} (e:as.length = n):lenX n (fnX m B) as h = fnXK (B (startA m as) h):=by
  unfold lenX
  rw [if_pos e]; rfl
@[simp] theorem fnXK_nx:fnXK (some (.ar (.nx s),h)) = some (.ok .non,h):=id rfl
@[simp] theorem fnXK_rt:fnXK (some (.ar (.rt v),h)) = some (.ok v,h):=id rfl
@[simp] theorem fnXK_ex:fnXK (some (.ex c v s,h)) = some (.ex c v,h):=id rfl
def lfSK (r:Option (AR × AH)):Option (ARX × AH):=r.bind fun r=>some (.ar r.1,r.2)
@[simp] theorem ev_lfS {f:AS}:lfS f s h = lfSK (f s h):=id rfl
@[simp] theorem lfSK_some {r:AR}:lfSK (some (r,h)) = some (.ar r,h):=id rfl
def okK (r:Option (AV × AH)):Option (Out × AH):=r.bind fun r=>some (.ok r.1,r.2)
@[simp] theorem okK_some:okK (some (v,h)) = some (.ok v,h):=id rfl
def xseqK (r:Option (ARX × AH)) (B:ASX):Option (ARX × AH):=r.bind fun r=>match r.1 with
  | .ar (.nx s')=>B s' r.2
  | x=>some (x,r.2)
@[simp] theorem ev_xseq {A B:ASX}:xSeq A B s h = xseqK (A s h) B:=id rfl
@[simp] theorem xseqK_nx {B:ASX}:xseqK (some (.ar (.nx s'),h')) B = B s' h':=id rfl
@[simp] theorem xseqK_rt {B:ASX}:xseqK (some (.ar (.rt v),h')) B = some (.ar (.rt v),h'):=id rfl
@[simp] theorem xseqK_ex {B:ASX}:xseqK (some (.ex c v s',h')) B = some (.ex c v s',h'):=id rfl
theorem xseq_step {A B:ASX} (e:A s h = some (.ar (.nx s'),h')):xSeq A B s h = B s' h':=by
  rw [ev_xseq,e]; rfl
theorem xseq_ex {A B:ASX} (e:A s h = some (.ex c v s',h')):xSeq A B s h = some (.ex c v s',h'):=by
  rw [ev_xseq,e]; rfl
@[simp] theorem ev_lfE {f:AE}:lfE f s h = okK (f s h):=id rfl
def lfTK (r:Option (Bool × AH)):Option ((Bool ⊕ (Nat × AV)) × AH):=r.bind fun r=>some (.inl r.1,r.2)
@[simp] theorem ev_lfT {f:AT}:lfT f s h = lfTK (f s h):=id rfl
@[simp] theorem lfTK_some:lfTK (some (b,h)) = some (.inl b,h):=id rfl
def xtstK (r:Option (Out × AH)):Option ((Bool ⊕ (Nat × AV)) × AH):=r.bind fun r=>match r.1 with
  | .ok (.bl b)=>some (.inl b,r.2)
  | .ok _=>none
  | .ex c v=>some (.inr (c,v),r.2)
@[simp] theorem ev_xtst {f:AEX}:xTst f s h = xtstK (f s h):=id rfl
@[simp] theorem xtstK_ok:xtstK (some (.ok (.bl b),h)) = some (.inl b,h):=id rfl
@[simp] theorem xtstK_ex:xtstK (some (.ex c v,h)) = some (.inr (c,v),h):=id rfl
def xnotK (r:Option ((Bool ⊕ (Nat × AV)) × AH)):Option ((Bool ⊕ (Nat × AV)) × AH):=r.bind fun r=>match r.1 with
  | .inl b=>some (.inl (!b),r.2)
  | .inr z=>some (.inr z,r.2)
@[simp] theorem ev_xnot {f:ATX}:xNot f s h = xnotK (f s h):=id rfl
@[simp] theorem xnotK_ok:xnotK (some (.inl b,h)) = some (.inl (!b),h):=id rfl
@[simp] theorem xnotK_ex {z:Nat × AV}:xnotK (some (.inr z,h)) = some (.inr z,h):=id rfl
def xifK (r:Option ((Bool ⊕ (Nat × AV)) × AH)) (f g:ASX) (s:LS):Option (ARX × AH):=r.bind fun r=>match r.1 with
  | .inl b=>if b = true then f s r.2 else g s r.2
  | .inr (c,v)=>some (.ex c v s,r.2)
@[simp] theorem ev_xif {t:ATX} {f g:ASX}:xIf t f g s h = xifK (t s h) f g s:=id rfl
@[simp] theorem xifK_t {f g:ASX}:xifK (some (.inl true,h)) f g s = f s h:=id rfl
@[simp] theorem xifK_f {f g:ASX}:xifK (some (.inl false,h)) f g s = g s h:=id rfl
@[simp] theorem xifK_ex {f g:ASX}:xifK (some (.inr (c,v),h)) f g s = some (.ex c v s,h):=id rfl
def xexpK (r:Option (Out × AH)) (s:LS):Option (ARX × AH):=r.bind fun r=>match r.1 with
  | .ok _=>some (.ar (.nx s),r.2)
  | .ex c v=>some (.ex c v s,r.2)
@[simp] theorem ev_xexp {f:AEX}:xExp f s h = xexpK (f s h) s:=id rfl
@[simp] theorem xexpK_ok:xexpK (some (.ok v,h)) s = some (.ar (.nx s),h):=id rfl
@[simp] theorem xexpK_ex:xexpK (some (.ex c v,h)) s = some (.ex c v s,h):=id rfl
def xretK (r:Option (Out × AH)) (s:LS):Option (ARX × AH):=r.bind fun r=>match r.1 with
  | .ok v=>some (.ar (.rt v),r.2)
  | .ex c v=>some (.ex c v s,r.2)
@[simp] theorem ev_xret {f:AEX}:xRet f s h = xretK (f s h) s:=id rfl
@[simp] theorem xretK_ok:xretK (some (.ok v,h)) s = some (.ar (.rt v),h):=id rfl
@[simp] theorem xretK_ex:xretK (some (.ex c v,h)) s = some (.ex c v s,h):=id rfl
def xsetK (r:Option (Out × AH)) (i:Nat) (s:LS):Option (ARX × AH):=r.bind fun r=>match r.1 with
  | .ok v=>some (.ar (.nx (s.set i (some v))),r.2)
  | .ex c v=>some (.ex c v s,r.2)
@[simp] theorem ev_xset {f:AEX} {i:Nat}:xSet f i s h = xsetK (f s h) i s:=id rfl
@[simp] theorem xsetK_ok {i:Nat}:xsetK (some (.ok v,h)) i s = some (.ar (.nx (s.set i (some v))),h):=id rfl
@[simp] theorem xsetK_ex {i:Nat}:xsetK (some (.ex c v,h)) i s = some (.ex c v s,h):=id rfl
def lfAK (r:Option (List AV × AH)):Option ((List AV ⊕ (Nat × AV)) × AH):=r.bind fun r=>some (.inl r.1,r.2)
@[simp] theorem ev_lfA {g:AA}:lfA g s h = lfAK (g s h):=id rfl
@[simp] theorem lfAK_some:lfAK (some (vs,h)) = some (.inl vs,h):=id rfl
@[simp] theorem ev_xnil:xNilA s h = some (.inl [],h):=id rfl
def xconsJ (v:AV) (r:Option ((List AV ⊕ (Nat × AV)) × AH)):Option ((List AV ⊕ (Nat × AV)) × AH):=r.bind fun q=>match q.1 with
  | .inl vs=>some (.inl (v :: vs),q.2)
  | .inr z=>some (.inr z,q.2)
@[simp] theorem xconsJ_ok:xconsJ v (some (.inl vs,h)) = some (.inl (v :: vs),h):=id rfl
@[simp] theorem xconsJ_ex {z:Nat × AV}:xconsJ v (some (.inr z,h)) = some (.inr z,h):=id rfl
def xconsK (r:Option (Out × AH)) (g:AAX) (s:LS):Option ((List AV ⊕ (Nat × AV)) × AH):=r.bind fun r=>match r.1 with
  | .ex c v=>some (.inr (c,v),r.2)
  | .ok v=>xconsJ v (g s r.2)
@[simp] theorem ev_xcons {f:AEX} {g:AAX}:xCons f g s h = xconsK (f s h) g s:=id rfl
@[simp] theorem xconsK_ok {g:AAX}:xconsK (some (.ok v,h)) g s = xconsJ v (g s h):=id rfl
@[simp] theorem xconsK_ex {g:AAX}:xconsK (some (.ex c v,h)) g s = some (.inr (c,v),h):=id rfl
def xargsK (r:Option ((List AV ⊕ (Nat × AV)) × AH)) (op:List AV → AH → Option (AV × AH)):Option (Out × AH):=r.bind fun r=>match r.1 with
  | .inl vs=>okK (op vs r.2)
  | .inr (c,v)=>some (.ex c v,r.2)
@[simp] theorem ev_xargs {op:List AV → AH → Option (AV × AH)} {g:AAX}:xArgs op g s h = xargsK (g s h) op:=id rfl
@[simp] theorem xargsK_ok {op:List AV → AH → Option (AV × AH)}:xargsK (some (.inl vs,h)) op = okK (op vs h):=id rfl
@[simp] theorem xargsK_ex {op:List AV → AH → Option (AV × AH)}:xargsK (some (.inr (c,v),h)) op = some (.ex c v,h):=id rfl
def xifeK (r:Option ((Bool ⊕ (Nat × AV)) × AH)) (f g:AEX) (s:LS):Option (Out × AH):=r.bind fun r=>match r.1 with
  | .inl b=>if b = true then f s r.2 else g s r.2
  | .inr (c,v)=>some (.ex c v,r.2)
@[simp] theorem ev_xife {t:ATX} {f g:AEX}:xIfE t f g s h = xifeK (t s h) f g s:=id rfl
@[simp] theorem xifeK_t {f g:AEX}:xifeK (some (.inl true,h)) f g s = f s h:=id rfl
@[simp] theorem xifeK_f {f g:AEX}:xifeK (some (.inl false,h)) f g s = g s h:=id rfl
@[simp] theorem xifeK_ex {f g:AEX}:xifeK (some (.inr (c,v),h)) f g s = some (.ex c v,h):=id rfl
def xcallK (r:Option ((List AV ⊕ (Nat × AV)) × AH)) (F:AFX):Option (Out × AH):=r.bind fun r=>match r.1 with
  | .inl vs=>F vs r.2
  | .inr (c,v)=>some (.ex c v,r.2)
@[simp] theorem ev_xcall {F:AFX} {g:AAX}:xCall F g s h = xcallK (g s h) F:=id rfl
@[simp] theorem xcallK_ok {F:AFX}:xcallK (some (.inl vs,h)) F = F vs h:=id rfl
@[simp] theorem xcallK_ex {F:AFX}:xcallK (some (.inr (c,v),h)) F = some (.ex c v,h):=id rfl
theorem ev_xmeth {k:Nat} {F:AFX} {f:AE} {g:AA} {xs:List AV} {h1 h2:AH} (e1:f s h = some (v,h1)) (e2:look h1 v = some (.ins k,xs)) (e3:g s h1 = some (as,h2)):xMeth k F f g s h = F (v :: as) h2:=by
  unfold xMeth
  rw [e1,Option.bind_some]
  show (match look h1 v with
    | some (.ins c',_)=>if c' = k then (g s h1).bind fun q=>F (v :: q.1) q.2 else none
    | _=>none) = _
  rw [e2]
  show (if k = k then (g s h1).bind fun q=>F (v :: q.1) q.2 else none) = _
  rw [if_pos rfl,e3]; rfl
theorem ev_xraise {f:AE} (e:f s h = some (v,h')) (ok:okArg v = true):xRaise c f s h = some (.ex c v s,h'):=by
  unfold xRaise
  rw [e,Option.bind_some,if_pos ok]
end
end Rp
end
section
namespace Rp
open PySem PySem.Spec PyProof.Rows L2
def aPopAt (a:AV) (as:List AV) (h:AH):Option (AV × AH):=(cellL h a).bind fun q=>match as with
  | [.int (.ofNat k)]=>if k < 1000000 then (q.2[k]?).bind fun y=>some (y,h.put q.1 (.lst,q.2.eraseIdx k)) else none
  | _=>none
theorem repl_eraseIdx {c:Ct} {w:Wd}:∀ {xs:List AV} {us:List V} (k:Nat),RepL c w xs us → RepL c w (xs.eraseIdx k) (us.eraseIdx k)
  | [],us,k,r=>by rw [show us = ([]:List V) from r]; simp; exact rfl
  | x :: xs,us,0,r=>by
    obtain ⟨u,us',rfl,r1,r2⟩:=r
    exact r2
  | x :: xs,us,k + 1,r=>by
    obtain ⟨u,us',rfl,r1,r2⟩:=r
    exact .cons r1 (repl_eraseIdx k r2)
theorem s_popAt {c:Ct}:SndM c rPopAt aPopAt:=by
  intro w H h a u as us v h' Q S ra rs e k
  obtain ⟨⟨n,xs⟩,e1,e2⟩:=bind_some e
  obtain ⟨p,vs,rfl,hH,l,wr⟩:=cellL_ok S ra e1
  split at e2
  · rename_i j
    by_cases hk:j < 1000000
    · rw [if_pos hk] at e2
      obtain ⟨y,e3,e4⟩:=bind_some e2
      cases e4
      obtain ⟨u1,us',rfl,r1,r2⟩:=rs
      obtain rfl:us' = []:=r2
      obtain rfl:u1 = V.int (.ofNat j):=r1
      obtain ⟨z,ez,rz⟩:=l.get e3
      obtain ⟨s2,t2⟩:=wr (xs.eraseIdx j) (vs.eraseIdx j) (repl_eraseIdx j l)
      have hl:j < vs.length:=(List.getElem?_eq_some_iff.mp ez).1
      refine ⟨p,vs,.ofNat j,j,z,rfl,rfl,hH,?_,?_,?_,ez,k w _ _ t2 s2 rz⟩
      · have:(0:Int) ≤ Int.ofNat j:=Int.natCast_nonneg j
        omega
      · show (j:Int) < _
        omega
      · have h0:¬ ((j:Int) < 0):=by omega
        unfold seqIndex?
        simp only [Int.ofNat_eq_natCast]
        rw [if_neg h0]
        simp [hl]
    · rw [if_neg hk] at e2; cases e2
  · cases e2
section
variable {X:Cx} {cl:Nat → Str × List Str} {o e:Expr} {f:AE} {g:AA} {apos cpos:Pos}
theorem w_popAt (ho:PE X o (tA (ctX X cl) f)) (ha:PA X [e] (tAs (ctX X cl) g)) (b:B1 X o "pop" e [] apos cpos:=by exact ⟨rfl,rfl,rfl,rfl,rfl⟩):PE X (.Call (.Attribute o "pop" apos) [e] [] cpos) (tA (ctX X cl) (aBM "list" aPopAt f g)) :=
  ae_bm (.inr (.inl rfl)) PySem.F.plainAttrs_list PySem.F.slot_list_pop PySem.F.type_list_pop mt_popAt s_popAt ho ha (h:=fun h1 h2=>pe_bm PySem.F.plainAttrs_list PySem.F.slot_list_pop PySem.F.type_list_pop mt_popAt h1 h2 b.1 b.2.1 b.2.2.1 b.2.2.2.1 b.2.2.2.2)
end
end Rp
end
section
namespace Rp
open PySem PySem.Spec PyProof.Rows L2
section
variable {X:Cx} {body:List Stmt} {f₀:Stmt} {fs:List Stmt} {pos:Pos} {tb:WX → TS} {tf tfs:TS} {Wout:WX}
end
theorem RepX.le {ct:Ct} {xt:XT} {w w':Wd} {H H':Hp} {h':AH} {c:Nat} {v:AV} {cls:Value} {d:Option Addr} (r:RepX ct xt w H c v cls d) (le:WLe w w') (S:SR ct w' H' h'):RepX ct xt w' H' c v cls d:=by
  refine ⟨r.1,?_⟩
  have r2:=r.2
  cases hx:(xt c).2 with
  | none=>rw [hx] at r2; exact r2
  | some f =>
    rw [hx] at r2
    obtain ⟨dd,u,e,hR,_,rv⟩:=r2
    exact ⟨dd,u,e,le.rr _ _ hR,S.le _ _ (le.rr _ _ hR),RepV.le le _ _ rv⟩
section
variable {X:Cx} {cl:Nat → Str × List Str} {xt:XT} {W:WX} {body:List Stmt} {f₀:Stmt} {fs:List Stmt} {pos:Pos} {b:ASX} {f:AS}
end
end Rp
end
section
namespace Rp
open PySem PySem.Spec PyProof.Rows L2
section
variable {X:Cx} {cl:Nat → Str × List Str} {pos p apos:Pos} {e o:Expr} {es:List Expr} {f:AE} {g:AA} {k n:Nat} {y m:Str} {F:AF}
end
def xAsg (f:AEX) (g:AG):ASX:=fun s h=>(f s h).bind fun r=>match r.1 with
  | .ok v=>(g v s r.2).bind fun q=>some (.ar (.nx q.1),q.2)
  | .ex c v=>some (.ex c v s,r.2)
section
variable {X:Cx} {cl:Nat → Str × List Str} {xt:XT} {W:WX} {pos:Pos} {e tg:Expr} {fe:AEX} {g:AG}
theorem xs_asg (he:PE X e (tAX (ctX X cl) xt W fe)) (hg:PG X tg (tG (ctX X cl) g)) (hs:swapsWithSole [tg] e pos.line X.env = pure false:=by rfl) (hw:swappedStores [tg] e X.env = pure none:=by rfl)
    (h1:(assignEach [tg] X.env).map (·.2) = [assign tg X.env]:=by rfl):PS X (.Assign [tg] e pos) (tX (ctX X cl) xt W (xAsg fe g)):=(ps_asg he hg hs hw h1).wk fun D σ H q=>by
  obtain ⟨w,s,h,r,h',rs,sr,e,k⟩:=q
  obtain ⟨⟨y,h1⟩,e1,e⟩:=bind_some e
  refine ⟨w,s,h,y,h1,rs,sr,e1,?_⟩
  cases y with
  | ex c v=>cases e; exact fun w1 H1 cls d t1 s1 rx=>k w1 H1 σ cls d t1 s1 (rs.le t1.le) rx
  | ok v =>
    obtain ⟨⟨s2,h2⟩,e2,e⟩:=bind_some e
    cases e
    exact fun w1 H1 u t1 s1 r1=>⟨w1,v,s,h1,s2,h2,r1,rs.le t1.le,s1,e2,fun w2 H2 σ2 t2 sr2 rs2=>k w2 H2 (t1.trans t2) sr2 σ2 rs2⟩
end
def xasgK (r:Option (Out × AH)) (g:AG) (s:LS):Option (ARX × AH):=r.bind fun r=>match r.1 with
  | .ok v=>(g v s r.2).bind fun q=>some (.ar (.nx q.1),q.2)
  | .ex c v=>some (.ex c v s,r.2)
@[simp] theorem ev_xasg {f:AEX} {g:AG} {s:LS} {h:AH}:xAsg f g s h = xasgK (f s h) g s:=id rfl
def xasgJ (r:Option (LS × AH)):Option (ARX × AH):=r.bind fun q=>some (.ar (.nx q.1),q.2)
@[simp] theorem xasgK_ok {v:AV} {g:AG} {s:LS} {h:AH}:xasgK (some (.ok v,h)) g s = xasgJ (g v s h):=id rfl
@[simp] theorem xasgK_ex {c:Nat} {v:AV} {g:AG} {s:LS} {h:AH}:xasgK (some (.ex c v,h)) g s = some (.ex c v s,h):=id rfl
@[simp] theorem xasgJ_some {s:LS} {h:AH}:xasgJ (some (s,h)) = some (.ar (.nx s),h):=id rfl
section
variable {X:Cx} {cl:Nat → Str × List Str} {pos p:Pos} {a b:Expr} {g:AA}
end
def aRev (f:AE):AE:=fun s h=>(f s h).bind fun r=>(lstOf r.2 r.1).bind fun xs=>mkF .lst xs.reverse r.2
section
variable {X:Cx} {cl:Nat → Str × List Str} {pos p1 p2 p3:Pos} {e:Expr} {f:AE} {k:Nat}
end
@[simp] theorem ev_rev {f:AE} {s:LS} {h:AH}:aRev f s h = (f s h).bind fun r=>(lstOf r.2 r.1).bind fun xs=>mkF .lst xs.reverse r.2:=id rfl
def aMakeK (c n k:Nat) (F:AF) (g gk:AA):AE:=fun s h=>(g s h).bind fun q=>(gk s q.2).bind fun z=>if q.1.length = n ∧ z.1.length = k then (F ((.ref z.2.next :: q.1) ++ z.1) (z.2.new (.ins c,[]))).bind fun r=>(match r.1 with
  | .non=>some (.ref z.2.next,r.2)
  | _=>none) else none
section
variable {X:Cx} {cl:Nat → Str × List Str} {e:Expr} {es:List Expr} {kws:List Keyword} {g gk:AA} {pos p:Pos} {x:Str} {k n N:Nat} {ks:List Str} {F:AF}
end
@[simp] theorem ev_makeK {c n k:Nat} {F:AF} {g gk:AA} {s:LS} {h:AH}:aMakeK c n k F g gk s h = (g s h).bind fun q=>(gk s q.2).bind fun z=>if q.1.length = n ∧ z.1.length = k then (F ((.ref z.2.next :: q.1) ++ z.1) (z.2.new (.ins c,[]))).bind fun r=>(match r.1 with
  | .non=>some (.ref z.2.next,r.2)
  | _=>none) else none:=id rfl
end Rp
end
section
namespace Rp
open PySem PySem.Spec PyProof.Rows L2
end Rp
end
section
namespace Rp
open PySem PySem.Spec PyProof.Rows L2
structure Got (X:Cx) (a:Addr) (cls:Value) (d:Option Addr) (oe:Obj):Prop where
  z:L2N.Zn cls d oe
  f:∃ vs,oe.data = .fields vs
  b:X.base.get? a = none
  s:a ∉ frs X.stack
inductive HdsG (X:Cx):List ExceptHandler → List Clause → Prop
  | nil:HdsG X [] []
  | plain {x:Str} {c:Value} {ts:Addr → Value → Option Addr → TS} {b₀:Stmt} {suite:List Stmt} {np pos':Pos} {hds:List ExceptHandler} {l:List Clause} (hc:Names X x c)
      (hsu:∀ (a:Addr) (oe:Obj) (cls:Value) (d:Option Addr) (pn:List (Addr × Obj)),Got X a cls d oe → PSs (X.suite a ((a,oe) :: pn)) (b₀ :: suite) (ts a cls d)) (r:HdsG X hds l) :
      HdsG X (.ExceptHandler (some (.Name x np)) none (b₀ :: suite) pos' :: hds) ((c,none,ts) :: l)
  | named {x n:Str} {i:Nat} {c:Value} {ts:Addr → Value → Option Addr → TS} {b₀:Stmt} {suite:List Stmt} {np pos':Pos} {hds:List ExceptHandler} {l:List Clause} (hc:Names X x c) (hi:X.N[i]? = some n) (hln:X.env.kindOf n = some .local)
      (hsu:∀ (a:Addr) (oe:Obj) (cls:Value) (d:Option Addr) (pn:List (Addr × Obj)),Got X a cls d oe → PSs (X.suite a ((a,oe) :: pn)) (b₀ :: suite) (ts a cls d)) (r:HdsG X hds l) :
      HdsG X (.ExceptHandler (some (.Name x np)) (some n) (b₀ :: suite) pos' :: hds) ((c,some i,ts) :: l)
section
variable {X:Cx} {body:List Stmt} {h₀:ExceptHandler} {hds:List ExceptHandler} {l:List Clause} {pos:Pos} {tb:WX → TS} {Wout:WX}
theorem ps_tryG (hs:X.stack = X.env :: X.outer) (hf:X.env.frame = some X.env.locals) (hN:X.N.Nodup) (tk:L2N.Takes X Wout)
    (hb:∀ (W:WX) (pn:List (Addr × Obj)) (xe:Value → Shared → Prop),L2N.Takes (X.tr pn xe) W → PassesOwn (model X.prog X.w) X.A X.env xe → PSs (X.tr pn xe) body (tb W))
    (hh:HdsG X (h₀ :: hds) l):PS X (.Try body (h₀ :: hds) [] [] pos) (fun D σ H=>tb (wishN X.K Wout D l) D σ H):=by
  refine ⟨fun pins s σ H D I h=>?_⟩
  have ok:=I.ok
  have hfr:X.A.frames = some (X.env :: X.outer):=by rw [ok.frames,hs]
  refine wpAny_Try_except ?_
  refine wpAny_mono ((hb (wishN X.K Wout D l) (X.pn ++ pins) (fun e s₁=>wpAny (model X.prog X.w) X.A (noteFrame e X.env) (fun _ s₂=>wpAny (model X.prog X.w) X.A (setFlight e none) (fun _ s₃ =>
    wpAny (model X.prog X.w) X.A (handleBy e X.env (h₀ :: hds)) (SP X pins D) X.xe s₃) X.xe s₂) X.xe s₁) (fun u s' xx=>?_) PassesOwn.looking).run [] s σ H D (I.toTry _) h) (fun f s1 hsp=>?_) (fun e s1 he=>he)
  · obtain ⟨a,B,sI,pins',σ',H',cls,d,rfl,J',nb,up,sky,na,os,ag,w⟩:=xx
    have J:Inv X pins σ' H' sI:=J'.ofTry ok
    have sky':Sky B (X.env :: X.outer) a (L2N.Zn cls d) X.env.locals s'.heap:=by rw [← hs]; exact sky
    show wpAny (model X.prog X.w) X.A (noteFrame (.ref a) X.env) _ _ _
    refine L2N.Sky.land L2N.Zn.steady hfr hf sky' fun h3 fl3 up3=>?_
    have J3:Inv X pins σ' H' { s' with heap:=h3 }:=J.landed nb fl3.1 (up.trans up3) os ag
    obtain ⟨oe3,vs3,he3,hz3,hd3⟩:=fl3.there
    have nfr:a ∉ frs (X.env :: X.outer):=fun hm=>by
      obtain ⟨_,o',e',hnf⟩:=fl3.2.2.1.mem hm
      rw [he3] at e'; cases e'
      exact hnf _ hd3
    have nL:a ≠ X.env.locals:=fun z=>nfr (List.mem_filterMap.mpr ⟨X.env,List.mem_cons_self,by rw [hf,z]⟩)
    have nF:a ∉ X.fs:=fun hm=>by
      obtain ⟨e,he,q⟩:=List.mem_filterMap.mp hm
      exact nfr (List.mem_filterMap.mpr ⟨e,List.mem_cons_of_mem _ he,q⟩)
    have S3:=J3.suite he3 hd3 na nL nF
    have nS:a ∉ frs X.stack:=by rw [hs]; exact nfr
    have nB:X.base.get? a = none:=by
      cases q:X.base.get? a with
      | none=>rfl
      | some o =>
        have:=nb a o (J.bs a o q).1 nS
        rw [fl3.2.1] at this; cases this
    have LT:PySem.W.Looks (model X.prog X.w) h3 (typeOf (.ref a)) cls:=fun A Q E s k q=>wpAny_typeOf_ref (k _ _ he3) (by rw [hz3.1]; exact q)
    have test:∀ {x:Str} {c:Value} {np:Pos} (_:Names X x c) {Q:Value → Shared → Prop} {E:Value → Shared → Prop},Q c { s' with heap:=h3 } → wpAny (model X.prog X.w) (X.A.mark (some (.ref a))) (eval (.Name x np) X.env) Q E { s' with heap:=h3 }:=fun {x c np} hc {Q E} q=>by
      obtain ⟨hg,hdbg,hm | ⟨hm,hv,hnn⟩⟩:=hc
      · exact ld_glob (X:=X.suite a ((a,oe3) :: (X.pn ++ pins))) S3 hg hm q hdbg
      · exact ld_blt (X:=X.suite a ((a,oe3) :: (X.pn ++ pins))) S3 hg hm hv q hnn hdbg
    have go:∀ {hds':List ExceptHandler} {l':List Clause},HdsG X hds' l' → wishN X.K Wout D l' cls d σ' H' →
        wpAny (model X.prog X.w) X.A (handleBy (.ref a) X.env hds') (SP X pins D) X.xe { s' with heap:=h3 }:=by
      intro hds' l' hk
      induction hk with
      | nil =>
        intro w
        refine wpAny_handleBy_nil ?_
        obtain ⟨k1,k2,k3,oe,vs,T,oT,ts',he,hz,hd,h1,hr⟩:=id fl3
        unfold PySem.passOn
        refine wpAny_bind (wpAny_field he hd h1 ?_)
        rw [if_neg (show ¬ ((Value.ref T == Value.none) = true) from by simp)]
        have fin:wpAny (model X.prog X.w) X.A (setFlight (.ref a) X.env.frame) (fun _ s4=>wpAny (model X.prog X.w) X.A (throw (.ref a):Sem Flow) (SP X pins D) X.xe s4) X.xe { s' with heap:=h3 }:=by
          rw [hf]
          refine HandSPX.setFlight_upZ fl3 fun h4 hh4 up4=>wpAny_throw (tk _ _ ?_)
          exact ⟨a,B,sI,pins,σ',H',cls,d,rfl,J,nb,(up.trans up3).trans up4,.inr (.inr (by rw [hs]; exact hh4)),na,os,ag,w⟩
        first
          | exact wpAny_bind (wpAny_pure (wpAny_bind fin))
          | exact wpAny_bind fin
      | @plain x c ts b₀ suite np pos' hds2 l2 hc hsu r ih =>
        intro w
        obtain ⟨b,hb1,hyes,hno⟩:=w
        refine wpAny_handleBy_cons (codeAny_handlers_test ?_) (by intro q; cases q)
        have LM:=PySem.W.exm_one (M:=model X.prog X.w) (J3.kIn) LT hb1
        refine test hc (LM.here ?_)
        cases b with
        | true =>
          refine codeAny_handlers_suite ?_
          refine HandSPX.lands_againZ fl3 fun h4 fl4 up4=>?_
          have J4:Inv X pins σ' H' { s' with heap:=h4 }:=J.landed nb fl4.1 ((up.trans up3).trans up4) os ag
          obtain ⟨oe4,vs4,he4,hz4,hd4⟩:=fl4.there
          have S4:=J4.suite he4 hd4 na nL nF
          refine wpAny_mono ((hsu a oe4 cls d (X.pn ++ pins) ⟨hz4,⟨_,hd4⟩,nB,nS⟩).run [] _ _ H' _ S4 (hyes rfl a na)) (fun f s6 hsp=>?_) (fun _ _ z=>False.elim z)
          cases f with
          | ret u =>
            obtain ⟨v6,σ6,H6,S6,r6,q6⟩:=hsp
            exact ⟨_,_,_,S6.unsuite ok,r6,q6⟩
          | _ =>
            obtain ⟨σ6,H6,S6,q6⟩:=hsp
            exact ⟨_,_,S6.unsuite ok,q6⟩
        | false =>
          show wpAny _ X.A (handleBy (.ref a) X.env hds2) _ _ _
          exact ih (hno rfl)
      | @named x n i c ts b₀ suite np pos' hds2 l2 hc hi hln hsu r ih =>
        intro w
        obtain ⟨b,hb1,hyes,hno⟩:=w
        have hloc:Loc X.env.scope n:=.inl hln
        refine wpAny_handleBy_cons (codeAny_handlers_test ?_) (by intro q; cases q)
        have LM:=PySem.W.exm_one (M:=model X.prog X.w) (J3.kIn) LT hb1
        refine test hc (LM.here ?_)
        cases b with
        | true =>
          refine codeAny_handlers_suite_as ?_
          refine HandSPX.lands_againZ fl3 fun h4 fl4 up4=>?_
          have J4:Inv X pins σ' H' { s' with heap:=h4 }:=J.landed nb fl4.1 ((up.trans up3).trans up4) os ag
          obtain ⟨oe4,vs4,he4,hz4,hd4⟩:=fl4.there
          have S4:=J4.suite he4 hd4 na nL nF
          refine store_ok (X:=X.suite a ((a,oe4) :: (X.pn ++ pins))) (v:=.ref a) S4 hN hi hloc rfl (fun s5 S5=>?_) (.inr hln)
          refine wpAny_mono ((hsu a oe4 cls d (X.pn ++ pins) ⟨hz4,⟨_,hd4⟩,nB,nS⟩).run [] s5 _ H' _ S5 (hyes rfl a na)) (fun f s6 hsp=>?_) (fun _ _ z=>False.elim z)
          have end_:∀ {σ6:L2.St} {H6:Hp} {Q:Shared → Prop},Inv (X.suite a ((a,oe4) :: (X.pn ++ pins))) [] σ6 H6 s6 → (∀ s7,Inv X pins (σ6.set i none) H6 s7 → Q s7) →
              wpAny (model X.prog X.w) X.A (do bindName X.env n .none; unbindBehindTheSuite X.env n pos') (fun _ s7=>Q s7) X.xe s6:=fun {σ6 H6 Q} S6 hq=>gone_ok (S6.unsuite ok) hN hi hln hq
          cases f with
          | ret u =>
            obtain ⟨v6,σ6,H6,S6,r6,q6⟩:=hsp
            exact end_ S6 fun s7 J7=>⟨_,_,_,J7,r6,q6⟩
          | _ =>
            obtain ⟨σ6,H6,S6,q6⟩:=hsp
            exact end_ S6 fun s7 J7=>⟨_,_,J7,q6⟩
        | false =>
          show wpAny _ X.A (handleBy (.ref a) X.env hds2) _ _ _
          exact ih (hno rfl)
    exact go hh w
  · cases f with
    | next =>
      obtain ⟨σ',H',J',q⟩:=hsp
      exact wpAny_execs_nil ⟨σ',H',J'.ofTry ok,q⟩
    | brk =>
      obtain ⟨σ',H',J',q⟩:=hsp
      exact ⟨σ',H',J'.ofTry ok,q⟩
    | cont =>
      obtain ⟨σ',H',J',q⟩:=hsp
      exact ⟨σ',H',J'.ofTry ok,q⟩
    | ret u =>
      obtain ⟨v,σ',H',J',r,q⟩:=hsp
      exact ⟨v,σ',H',J'.ofTry ok,r,q⟩
end
end Rp
end
section
namespace Rp
open PySem PySem.Spec PyProof.Rows L2
def exq (a:Addr) (oe:Obj):HO:=.ext fun h=>h.get? a = some oe
section
variable {X:Cx} {cl:Nat → Str × List Str} {Φ:Ph} {e a b:Expr} {es:List Expr} {f g k:AE} {t:AT} {gs:AA} {pos pos' p p1 p2 p3:Pos}
theorem fs_set {rest:List Stmt} {x:Str} {fr:AS} (j:Nat) (st:Stays Φ) (hΦ:∀ w σ v,Φ w σ → Φ w (σ.set j v)) (hN:X.N.Nodup) (he:PE X e (tAF (ctX X cl) Φ f)) (hr:PSs X rest (tSF (ctX X cl) Φ fr)) (hi:X.N[j]? = some x:=by rfl) (hx:Loc X.env.scope x:=by first | exact Or.inl rfl | exact Or.inr rfl) (hs:swapsWith e (some (.Name x pos')) pos.line X.env = pure false:=by rfl) (hf:X.fn x = true ∨ X.env.scope.names.lookup x = some .local:=by first | exact .inl rfl | exact .inr rfl | assumption) :
    PSs X (.Assign [.Name x pos'] e pos :: rest) (tSF (ctX X cl) Φ (aSeq (aAsg f (gNm j)) fr)):=by
  refine (pss_cons (ps_set hN hi hx he hs hf) hr).wk fun D σ H q=>?_
  obtain ⟨w,s,h,r,h',hR,rs,sr,e,k⟩:=q
  obtain ⟨⟨y,h1⟩,e1,e⟩:=bind_some e
  obtain ⟨⟨v,h2⟩,e2,e3⟩:=bind_some e1
  cases e3
  exact ⟨w,s,h,v,_,hR,rs,sr,e2,fun w1 H1 u t1 s1 r1=>⟨w1,_,_,r,h',hΦ _ _ _ (st _ _ _ t1.le hR),(rs.le t1.le).set j r1,s1,e,fun w2 H2 t2 s2=>k w2 H2 (t1.trans t2) s2⟩⟩
end
def fnW (m:Nat) (g:Nat → AS):Nat → AF:=fun c=>fnA m (g c)
section
variable {P:Program} {w:World} {K:PySem.W.Frag} {mg:Str → Option Value} {base:Heap} {cl:Nat → Str × List Str} {xt:XT} {x qual:Str} {params:Arguments} {body:List Stmt} {scope:Scope} {dvs:List V} {kws:List (Str × V)} {f:Addr} {fd:FuncData} {N ps:List Str} {k nx:Nat}
end
def nx' (o:HO):Prop:=∀ φ,o ≠ .ext φ
def LessR (R R':Hp):Prop:=∀ b o,R b = some o → nx' o → R' b = some o
theorem Rd.less {R R':Hp} (h:LessR R R') {a:Addr} {u:HO} (hu:nx' u) (r:Rd R a u):Rd R' a u:=by
  rcases r with r | ⟨o,r⟩
  · exact .inl (h _ _ r hu)
  · exact .inr ⟨o,h _ _ r (by intro φ q; cases q)⟩
theorem NodeR.less {c:Ct} {R R':Hp} (h:LessR R R') {p:Addr} {k:Kd} {us:List V} (r:NodeR c R p k us):NodeR c R' p k us:=by
  cases k with
  | tup =>
    rcases r with r | r
    · exact .inl (Rd.less h (by intro φ q; cases q) r)
    · exact .inr r
  | lst=>exact h _ _ r (by intro φ q; cases q)
  | scr =>
    rcases r with r | r
    · exact .inl (Rd.less h (by intro φ q; cases q) r)
    · exact .inr r
  | dct ks =>
    obtain ⟨e,od,r⟩:=r
    exact ⟨e,od,h _ _ r (by intro φ q; cases q)⟩
  | ldct ks=>exact r.elim
  | tab ks=>exact r
  | ins k =>
    obtain ⟨e,a,dx,m,r⟩:=r
    exact ⟨e,a,dx,m,h _ _ r (by intro φ q; cases q)⟩
  | cod P q=>exact r.elim
mutual
theorem RepV.less {c:Ct} {w w':Wd} (hi:w'.i = w.i) (h:LessR w.R w'.R):∀ (a:AV) (v:V),RepV c w a v → RepV c w' a v
  | .non,_,r=>r
  | .bl _,_,r=>r
  | .int _,_,r=>r
  | .str _,_,r=>r
  | .ty _,_,r=>r
  | .gl _,_,r=>r
  | .ref n,v,r=>by
    obtain ⟨p,e,q⟩:=r
    exact ⟨p,by rw [hi]; exact e,q⟩
  | .nod k xs,v,r=>by
    obtain ⟨p,us,e,n,l⟩:=r
    exact ⟨p,us,e,n.less h,RepL.less hi h xs us l⟩
theorem RepL.less {c:Ct} {w w':Wd} (hi:w'.i = w.i) (h:LessR w.R w'.R):∀ (a:List AV) (v:List V),RepL c w a v → RepL c w' a v
  | [],_,r=>r
  | x :: xs,us,r=>by
    obtain ⟨u,us',e,r1,r2⟩:=r
    exact ⟨u,us',e,RepV.less hi h x u r1,RepL.less hi h xs us' r2⟩
end
def out1 {α:Type} (f:Addr → Option α) (a:Addr):Addr → Option α:=fun b=>if b = a then none else f b
theorem out1_same {α:Type} {f:Addr → Option α} {a:Addr}:out1 f a a = none:=if_pos rfl
theorem out1_ne {α:Type} {f:Addr → Option α} {a b:Addr} (h:b ≠ a):out1 f a b = f b:=if_neg h
theorem NodeM.out {c:Ct} {H:Hp} {a p:Addr} {k:Kd} {us:List V} (h:p ≠ a) (hq:∀ q,H a ≠ some (LamX.CodeO a q)) (n:NodeM c H p k us):NodeM c (out1 H a) p k us:=by
  cases k with
  | cod P q =>
    obtain ⟨e1,rfl,ps,e2,t,f⟩:=n
    refine ⟨e1,rfl,ps,(out1_ne h).trans e2,t,fun pos cv hc=>?_⟩
    obtain ⟨c',r1,r2⟩:=f pos cv hc
    refine ⟨c',r1,(out1_ne (fun z=>?_)).trans r2⟩
    rw [z] at r2
    exact hq _ r2
  | _=>simp only [NodeM,out1_ne h] at n ⊢ <;> exact n
theorem SR.out {c:Ct} {w w2:Wd} {H H2:Hp} {h h':AH} {a:Addr} {φ:Heap → Prop} (hR:w2.R a = some (.ext φ)) (hc:∀ q,HO.ext φ ≠ LamX.CodeO a q) (S:SR c w2 H2 h') (T:Tr w H h w2 H2 h') (S0:SR c w H h) (na:H a = none) :
    SR c ⟨w2.i,out1 w2.R a⟩ (out1 H2 a) h' ∧ Tr w H h ⟨w2.i,out1 w2.R a⟩ (out1 H2 a) h' ∧ ∀ (v:AV) (u:V),RepV c w2 v u → RepV c ⟨w2.i,out1 w2.R a⟩ v u:=by
  have ls:LessR w2.R (out1 w2.R a):=fun b o e n=>by
    by_cases q:b = a
    · subst q; rw [hR] at e; cases e; exact absurd rfl (n φ)
    · rw [out1_ne q]; exact e
  have wa:w.R a = none:=by
    cases q:w.R a with
    | none=>rfl
    | some o=>rw [S0.le _ _ q] at na; cases na
  have own:∀ b,Own ⟨w2.i,out1 w2.R a⟩ h' b → Own w2 h' b:=fun b hb=>by
    rcases hb with hz | hb
    · refine .inl fun q=>hz ?_
      show (out1 w2.R a) b = none
      by_cases qb:b = a
      · rw [qb,out1_same]
      · rw [out1_ne qb]; exact q
    · exact .inr hb
  refine ⟨⟨fun b o e=>?_,fun n k xs e=>?_,S.inj,fun n p e1 e2=>?_,S.nx⟩,⟨⟨T.le.ii,fun b o e=>?_⟩,fun b o e no=>?_,fun b hb=>T.nw b (own b hb),fun b hb=>?_,fun b o u e=>?_⟩,fun v u r=>RepV.less (w:=w2) (w':=⟨w2.i,out1 w2.R a⟩) rfl ls v u r⟩
  · have e':(out1 w2.R a) b = some o:=e
    by_cases q:b = a
    · subst q; rw [out1_same] at e'; cases e'
    · rw [out1_ne q] at e' ⊢; exact S.le _ _ e'
  · obtain ⟨p,us,h1,h2,h3⟩:=S.cell n k xs e
    have hp:p ≠ a:=fun q=>by
      have:=S.sep n p (by rw [e]; rfl) h1
      rw [q,hR] at this; cases this
    exact ⟨p,us,h1,h2.out hp (fun q z=>hc q (Option.some.inj ((S.le _ _ hR).symm.trans z))),RepL.less (w:=w2) (w':=⟨w2.i,out1 w2.R a⟩) rfl ls xs us h3⟩
  · have:=S.sep n p e1 e2
    show out1 w2.R a p = none
    by_cases q:p = a
    · rw [q,out1_same]
    · rw [out1_ne q]; exact this
  · have q:b ≠ a:=fun q=>by rw [q,wa] at e; cases e
    show out1 w2.R a b = some o
    rw [out1_ne q]; exact T.le.rr _ _ e
  · have q:b ≠ a:=fun q=>by rw [q,na] at e; cases e
    rw [out1_ne q]; exact T.fr b o e no
  · have q:b ≠ a:=fun q=>hb (by rw [q,na])
    rw [out1_ne q]; exact T.st b hb
  · have q:b ≠ a:=fun q=>by rw [q,na] at e; cases e
    rw [out1_ne q]; exact T.fz b o u e
def PhG (a:Addr) (i:Nat) (d:Option Addr) (z:List (Str × V)):Ph:=fun w σ=>(∀ dd,d = some dd → w.R dd = some (.xd z)) ∧ σ[i]? = some (some (.ref a))
theorem phg_stays {a:Addr} {i:Nat} {d:Option Addr} {z:List (Str × V)}:Stays (PhG a i d z):=fun _ _ _ l q=>⟨fun dd e=>l.rr _ _ (q.1 dd e),q.2⟩
def aFC (F:AF):AE:=fun _ h=>F [] h
section
variable {X:Cx} {cl:Nat → Str × List Str} {xt:XT} {a:Addr} {oe:Obj} {cls:Value} {d:Option Addr} {pn:List (Addr × Obj)} {pos p np:Pos} {n y:Str} {i k nx c:Nat} {z:List (Str × V)} {F:Nat → AF}
end
end Rp
end
section
namespace Rp
open PySem PySem.Spec PyProof.Rows L2
structure XG where
  hit:Nat → Bool
  slot:Option Nat
  suite:Nat → AV → AS
def pickG:List XG → Nat → Option XG
  | [],_=>none
  | c :: r,k=>if c.hit k = true then some c else pickG r k
def okG (v:AV):Bool:=okArg v || (match v with
  | .non=>true
  | _=>false)
theorem okG_all {ct:Ct} {w:Wd} {v:AV} {u:V} (e:okG v = true) (r:RepV ct w v u):∀ w',RepV ct w' v u:=fun w' => by
  cases v with
  | str x=>exact r
  | int i=>exact r
  | non=>exact r
  | _=>cases e
structure GFact (ct:Ct) (xt:XT) (nx:Nat) (hit:Nat → Bool) (cls:Value) (d:Option Addr) where
  c:Nat
  v:AV
  z:List (Str × V)
  lt:c < nx
  hc:hit c = true
  hcls:cls = .ref (xt c).1
  fld:match (xt c).2 with
    | none=>d = none
    | some f=>∃ dd u,d = some dd ∧ z = [(f,u)] ∧ ∀ w,RepV ct w v u
def tsG (ct:Ct) (xt:XT) (nx:Nat) (i:Nat) (hit:Nat → Bool) (g:Nat → AV → AS):Addr → Value → Option Addr → TS:=fun a cls d D σ H=>∃ z:GFact ct xt nx hit cls d,tSF ct (PhG a i d z.z) (g z.c z.v) D σ H
inductive ClsOkG (X:Cx) (cl:Nat → Str × List Str) (xt:XT) (nx:Nat):List ExceptHandler → List XG → List Clause → Prop
  | nil:ClsOkG X cl xt nx [] [] []
  | plain {x:Str} {cv:Value} {g:AS} {hit:Nat → Bool} {b₀:Stmt} {suite:List Stmt} {np pos':Pos} {hds:List ExceptHandler} {L:List XG} {l:List Clause} (hc:Names X x cv) (hex:∀ c,c < nx → PySem.W.exmOne X.K (.ref (xt c).1) cv = some (hit c))
      (hsu:∀ (a:Addr) (oe:Obj) (pn:List (Addr × Obj)),PSs (X.suite a ((a,oe) :: pn)) (b₀ :: suite) (tS (ctX X cl) g)) (r:ClsOkG X cl xt nx hds L l) :
      ClsOkG X cl xt nx (.ExceptHandler (some (.Name x np)) none (b₀ :: suite) pos' :: hds) (⟨hit,none,fun _ _=>g⟩ :: L) ((cv,none,fun _ _ _=>tS (ctX X cl) g) :: l)
  | named {x n:Str} {i:Nat} {cv:Value} {g:Nat → AV → AS} {hit:Nat → Bool} {b₀:Stmt} {suite:List Stmt} {np pos':Pos} {hds:List ExceptHandler} {L:List XG} {l:List Clause} (hc:Names X x cv) (hi:X.N[i]? = some n) (hln:X.env.kindOf n = some .local)
      (hex:∀ c,c < nx → PySem.W.exmOne X.K (.ref (xt c).1) cv = some (hit c))
      (hsu:∀ (a:Addr) (oe:Obj) (cls:Value) (d:Option Addr) (pn:List (Addr × Obj)) (z:GFact (ctX X cl) xt nx hit cls d),Got X a cls d oe → PSs (X.suite a ((a,oe) :: pn)) (b₀ :: suite) (tSF (ctX X cl) (PhG a i d z.z) (g z.c z.v))) (r:ClsOkG X cl xt nx hds L l) :
      ClsOkG X cl xt nx (.ExceptHandler (some (.Name x np)) (some n) (b₀ :: suite) pos' :: hds) (⟨hit,some i,g⟩ :: L) ((cv,some i,tsG (ctX X cl) xt nx i hit g) :: l)
section
variable {X:Cx} {cl:Nat → Str × List Str} {xt:XT} {nx:Nat} {hds:List ExceptHandler} {L:List XG} {l:List Clause}
theorem ClsOkG.hdsG (h:ClsOkG X cl xt nx hds L l):HdsG X hds l:=by
  induction h with
  | nil=>exact .nil
  | plain hc hex hsu r ih=>exact .plain hc (fun a oe cls d pn _=>hsu a oe pn) ih
  | named hc hi hln hex hsu r ih=>exact .named hc hi hln (fun a oe cls d pn G=>ex_pss fun q=>hsu a oe cls d pn q G) ih
end
section
variable {X:Cx} {cl:Nat → Str × List Str} {xt:XT} {nx:Nat} {body:List Stmt} {h₀:ExceptHandler} {hds:List ExceptHandler} {L:List XG} {l:List Clause} {pos:Pos} {fB:ASX}
end
section
variable {X:Cx} {cl:Nat → Str × List Str} {xt:XT} {a:Addr} {oe:Obj} {cls:Value} {d:Option Addr} {pn:List (Addr × Obj)} {pos np:Pos} {n f:Str} {i nx:Nat} {hit:Nat → Bool}
theorem fe_xfG (z:GFact (ctX X cl) xt nx hit cls d) (T:XfC X.K (xt z.c).1) (hno:PySem.W.findIn X.K (.ref (xt z.c).1) f = some none) (hf:(xt z.c).2 = some f) (G:Got X a cls d oe)
    (hN:X.N[i]? = some n:=by rfl) (hvis:Vis X.env.scope n:=by first | exact Or.inl rfl | exact Or.inr rfl) (h1:(n == ("__debug__" : Str)) = false:=by decide) (h2:(n == ("__classdict__" : Str)) = false:=by decide)
    (hb:attributeBase (.Name n np) f X.env (eval (.Name n np) X.env) = eval (.Name n np) X.env:=by rfl) :
    PE (X.suite a ((a,oe) :: pn)) (.Attribute (.Name n np) f pos) (tAF (ctX X cl) (PhG a i d z.z) (aC z.v)):=by
  refine (pe_xf (te:=tVar i) T hno G.z.zc G.f (pe_var (X:=X.suite a ((a,oe) :: pn)) hN hvis h1 h2) hb).wk fun σ H Q q=>?_
  obtain ⟨w,s,h,zz,h',hR,rs,sr,e,k⟩:=q
  cases e
  have fl:=z.fld
  rw [hf] at fl
  obtain ⟨dd,u,ed,ez,hv⟩:=fl
  have hRd:=hR.1 dd ed
  rw [ez] at hRd
  exact ⟨.ref a,hR.2,rfl,z.hcls,dd,_,u,ed,sr.le _ _ hRd,by simp,k w H u (.refl _ _ _) sr (hv w)⟩
end
@[simp] theorem ev_fc {F:AF} {s:LS} {h:AH}:aFC F s h = F [] h:=id rfl
end Rp
end
section
namespace Rp
open PySem PySem.Spec PyProof.Rows L2
section
variable {prog:Program} {w:World} {A:Around} {E:Value → Shared → Prop} {s:Shared}
end
section
variable {X:Cx} {cl:Nat → Str × List Str} {pos:Pos} {es es':List Expr} {k n i:Nat} {gs:AGs}
end
end Rp
end
section
namespace Rp
open PySem PySem.Spec PyProof.Rows L2
variable {X:Cx} {cl:Nat → Str × List Str} {Φ:Ph} {a b:Expr} {f g:AE} {pos:Pos}
end Rp
end
section
namespace PySem
open PyProof.Rows
theorem _root_.HotX.HotAt.keep {A:Around} {x1:Addr} {h h':Heap} (hot:HotX.HotAt A x1 h) (k:∀ o,h.get? x1 = some o → h'.get? x1 = some o):HotX.HotAt A x1 h':=by
  obtain ⟨hh,o,vs,h1,d,c⟩:=hot
  exact ⟨hh,o,vs,k _ h1,d,c⟩
section
variable {prog:Program} {w:World} {A:Around} {E:Value → Shared → Prop} {s:Shared}
end
end PySem
namespace Rp
open PySem PySem.Spec PyProof.Rows L2
structure TurnH (aE:Addr) (oE:Obj) (P:Program) (w:World) (K:PySem.W.Frag) (tg:Expr) (J:It) (fp:List Addr) (it:Addr) (tn:Nat → Heap → Prop):Prop where
  mem:it ∈ fp
  obj:∀ i h,tn i h → ∀ b ∈ fp,∃ o,h.get? b = some o ∧ ∀ v,o.data ≠ .cell v
  keep:∀ i h h',tn i h → (∀ b ∈ fp,∀ o,h.get? b = some o → h'.get? b = some o) → tn i h'
  item:∀ (X:Cx),X.prog = P → X.w = w → X.K = K → ∀ (i:Nat) (pins:List (Addr × Obj)) (s:Shared) (σ:L2.St) (H:Hp) (E:Value → Shared → Prop),Inv X pins σ H s → (∀ b ∈ fp,FpOk X pins H b) → tn i s.heap → J.go i H →
    wpAny (model P w) X.A (pyNext (.ref it)) (fun r s1=>∃ u,r = some u ∧
      wpAny (model P w) X.A (letOwnedTupleGo tg (.ref it) u) (fun _ s2=>∃ x H',Inv X pins σ H' s2 ∧ RelV x u ∧ J.yld i H x H' ∧ tn (i + 1) s2.heap ∧ ∀ b ∈ fp,H' b = none) E s1) E s
  done:∀ (X:Cx),X.prog = P → X.w = w → X.K = K → X.A.handled = some (.ref aE) → ∀ (i:Nat) (pins:List (Addr × Obj)) (s:Shared) (σ:L2.St) (H:Hp) (E:Value → Shared → Prop),Inv X pins σ H s → (∀ b ∈ fp,FpOk X pins H b) → tn i s.heap → J.stop i H → H aE = some (exq aE oE) →
    wpAny (model P w) X.A (pyNext (.ref it)) (fun r s1=>r = none ∧ Inv X pins σ H s1) E s
  self:∀ (A:Around) (i:Nat) (s:Shared) (Q:Value → Shared → Prop) (E:Value → Shared → Prop),tn i s.heap → Q (.ref it) s → wpAny (model P w) A (pyIter (.ref it)) Q E s
def PIEH (aE:Addr) (oE:Obj) (X:Cx) (pins:List (Addr × Obj)) (σ:L2.St) (tg:Expr) (R:It → Hp → Prop) (itv:Value) (s2:Shared):Prop :=
  ∃ (it:Addr) (fp:List Addr) (tn:Nat → Heap → Prop) (J:It) (H':Hp),itv = .ref it ∧ Inv X pins σ H' s2 ∧ TurnH aE oE X.prog X.w X.K tg J fp it tn ∧ tn 0 s2.heap ∧ (∀ b ∈ fp,FpOk X pins H' b) ∧ R J H'
structure PIH (aE:Addr) (oE:Obj) (X:Cx) (tg iter:Expr) (wi:TI):Prop where
  run:∀ (pins:List (Addr × Obj)) (s:Shared) (σ:L2.St) (H:Hp) (R:It → Hp → Prop),Inv X pins σ H s → wi σ H R →
    wpAny (model X.prog X.w) X.A (eval iter X.env) (fun v s1=>wpAny (model X.prog X.w) X.A (pyIter v) (PIEH aE oE X pins σ tg R) X.xe s1) X.xe s
theorem PIH.wk {aE:Addr} {oE:Obj} {X:Cx} {tg e:Expr} {t t':TI} (h:PIH aE oE X tg e t) (hh:∀ σ H R,t' σ H R → t σ H R):PIH aE oE X tg e t':=⟨fun pins s σ H R I q=>h.run pins s σ H R I (hh _ _ _ q)⟩
end Rp
end
section
namespace Rp
open PySem PySem.Spec PyProof.Rows L2
section
variable {X:Cx} {cl:Nat → Str × List Str} {aE:Addr} {oE:Obj} {pos:Pos} {es:List Expr} {gs:AGs} {vs:List Nat}
end
section
variable {X:Cx} {cl:Nat → Str × List Str} {mk:Kd → List AV → AH → Option (AV × AH)} {src:ASrc} {g:AG} {t:AT} {f:AE} {vs:List Nat}
end
section
variable {X:Cx} {cl:Nat → Str × List Str} {Φ:Ph} {o e:Expr} {f:AE} {g:AA} {apos cpos:Pos}
end
structure FnE (P:Program) (w:World) (K:PySem.W.Frag) (mg:Str → Option Value) (base:Heap) (k:Nat) (f:Addr) (fd:FuncData) (ps:List Str) (sp:Addr → Sp):Prop where
  len:∀ a vs H Q E,sp a vs H Q E → vs.length = ps.length
  run:∀ (a:Addr) (A:Around) (outer:List Env) (s:Shared) (H:Hp) (args:Args) (us:List Value) (vs:List V) (Q:VK) (E:XK),L2H.RoomH k A → A.handled = some (.ref a) → Env0 P w K mg base A outer s H → BindsTo s fd args (ps.zip us) → Vals vs us → sp a vs H Q E →
    codeAny (model P w) A (.call (.ref f) args) (CR CX0 outer P w H s Q E) s
theorem FnE.mono {P:Program} {w:World} {K:PySem.W.Frag} {mg:Str → Option Value} {base:Heap} {j k:Nat} {f:Addr} {fd:FuncData} {ps:List Str} {sp:Addr → Sp} (F:FnE P w K mg base j f fd ps sp) (h:j ≤ k):FnE P w K mg base k f fd ps sp :=
  ⟨F.len,fun a A outer s H args us vs Q E hr=>F.run a A outer s H args us vs Q E (hr.mono h)⟩
section
variable {P:Program} {w:World} {K:PySem.W.Frag} {mg:Str → Option Value} {base:Heap} {cl:Nat → Str × List Str} {xt:XT} {x qual:Str} {params:Arguments} {body:List Stmt} {scope:Scope} {dvs:List V} {kws:List (Str × V)} {f:Addr} {fd:FuncData} {N ps:List Str} {k nx:Nat}
end
section
variable {X:Cx} {cl:Nat → Str × List Str} {xt:XT} {a:Addr} {oe:Obj} {cls:Value} {d:Option Addr} {pn:List (Addr × Obj)} {pos p np:Pos} {n y:Str} {i k nx c:Nat} {z:List (Str × V)} {F:Nat → AF}
end
end Rp
end
section
namespace Rp
open PySem PySem.Spec PyProof.Rows L2
section
variable {X:Cx} {cl:Nat → Str × List Str} {x y z:Str} {a b c:Expr} {g:AA} {px py pz pt pos:Pos}
end
end Rp
end
section
namespace Rp
open PySem PySem.Spec PyProof.Rows L2
def okA (f:AEX):AE:=fun s h=>(f s h).bind fun r=>match r.1 with
  | .ok v=>some (v,r.2)
  | .ex _ _=>none
section
variable {X:Cx} {cl:Nat → Str × List Str} {xt:XT} {e:Expr} {f:AEX} {s:LS} {h:AH}
@[simp] theorem ev_okA {v:AV} {h':AH} (e:f s h = some (.ok v,h')):okA f s h = some (v,h'):=by
  unfold okA
  rw [e]
  rfl
end
end Rp
end
section
namespace Rp
open PySem PySem.Spec PyProof.Rows L2
section
variable {X:Cx} {pins:List (Addr × Obj)} {σ:L2.St} {H:Hp} {s:Shared}
end
section
variable {X:Cx} {pins:List (Addr × Obj)} {σ:L2.St} {H H0:Hp} {s:Shared}
end
abbrev AskR:=Out → AH → Option (AV × AH)
section
variable {X:Cx} {cl:Nat → Str × List Str} {xt:XT}
end
end Rp
end
section
namespace Rp
open PySem PySem.Spec PyProof.Rows L2
section
variable {P:Program} {w:World} {K:PySem.W.Frag} {mg:Str → Option Value} {base:Heap} {cl:Nat → Str × List Str} {xt:XT} {y:Str} {params:Arguments} {scope:Scope} {kws:List (Str × V)} {g:Addr} {fd:FuncData} {kc m nx:Nat} {a:Str} {Ng:List Str} {h₀:ExceptHandler} {hds:List ExceptHandler} {L:List XCl}
end
section
variable {tn:Nat} {P:Addr} {q:Str} {G:AskR} {fb:AEX} {s:LS} {h h':AH} {m nx:Nat} {told:Option Str} {L:List XCl} {v:AV} {c:Nat}
end
end Rp
end
section
namespace Rp
open PySem PySem.Spec PyProof.Rows L2
section
variable {X:Cx} {k n:Nat} {f:Addr} {fd:FuncData} {ps ks:List Str} {sp:Sp} {W:WX} {x:Str} {p pos:Pos} {e:Expr} {es:List Expr} {kws:List Keyword} {t tk:TA} {g:List Value → List Value → List Value} {gV:List V → List V → List V}
end
section
variable {X:Cx} {cl:Nat → Str × List Str} {xt:XT} {W:WX} {e:Expr} {es:List Expr} {kws:List Keyword} {g gk:AA} {x:Str} {p pos:Pos} {k n N:Nat} {ks:List Str} {F:AFX} {das:List AV}
end
section
variable {X:Cx} {cl:Nat → Str × List Str} {xt:XT} {W:WX} {a b:Expr} {rest:List Expr} {f g:AEX} {ge:AE} {pos:Pos}
end
section
variable {s:LS} {h h1 h2:AH} {n k N:Nat} {F:AFX} {g gk:AA} {as zs das:List AV} {o:AV → AV → AH → Option (AV × AH)} {f:AEX} {ge:AE} {c:Nat} {v a b:AV}
end
end Rp
end
section
namespace Rp
open PySem PySem.Spec PyProof.Rows L2
section
variable {P:Program} {w:World} {K:PySem.W.Frag} {mg:Str → Option Value} {base:Heap} {cl:Nat → Str × List Str} {x qual:Str} {params:Arguments} {body:List Stmt} {scope:Scope} {dvs:List V} {kws:List (Str × V)} {f:Addr} {fd:FuncData} {N ps:List Str} {k:Nat}
end
end Rp
end
section
namespace Rp
open PySem PySem.Spec PyProof.Rows L2
section
variable {X:Cx} {cl:Nat → Str × List Str} {xt:XT} {W:WX} {a:Expr} {f:AEX} {pos:Pos} {s:LS} {h h1:AH} {b:Bool} {c:Nat} {v:AV}
end
end Rp
end
section
namespace Rp
open PySem PySem.Spec PyProof.Rows L2
def forLX (G:Grd) (g:AG) (b:ASX):List AV → LS → AH → Option (ARX × AH)
  | [],s,h=>if chk G h = true then some (.ar (.nx s),h) else none
  | x :: xs,s,h=>if chk G h = true then (g x s h).bind fun q=>(b q.1 q.2).bind fun r=>match r.1 with
      | .ar (.nx s')=>forLX G g b xs s' r.2
      | .ar (.ct s')=>forLX G g b xs s' r.2
      | .ar (.bk s')=>some (.ar (.nx s'),r.2)
      | .ar (.rt v)=>some (.ar (.rt v),r.2)
      | .ex c v s' => some (.ex c v s',r.2)
    else none
def xFor (src:ASrc) (g:AG) (b:ASX):ASX:=fun s h=>(src s h).bind fun q=>forLX q.1.2 g b q.1.1 s q.2
section
variable {X:Cx} {cl:Nat → Str × List Str} {xt:XT} {W:WX} {tg iter:Expr} {body:List Stmt} {src:ASrc} {g:AG} {b:ASX} {pos:Pos}
theorem tFor_ofX {c:Ct} {D:Ends} {σ:L2.St} {H:Hp} (q:tX c xt W (xFor src g b) D σ H):tFor (tI c src) (tG c g) (tX c xt W b) D σ H:=by
  obtain ⟨w,s,h,r,h',rs,sr,e,k⟩:=q
  obtain ⟨⟨⟨xs,G⟩,h1⟩,e1,e⟩:=bind_some e
  refine ⟨w,s,h,xs,G,h1,rs,sr,e1,fun w1 H1 J t1 s1 io=>?_⟩
  refine ⟨fun i m σ2 H2=>m = xs.length - i ∧ i ≤ xs.length ∧ ∃ w2 s2 h2,RepS c w2 s2 σ2 ∧ SR c w2 H2 h2 ∧ Tr w1 H1 h1 w2 H2 h2 ∧ forLX G g b (xs.drop i) s2 h2 = some (r,h'),
    ⟨xs.length,rfl,Nat.zero_le _,w1,s,h1,rs.le t1.le,s1,.refl _ _ _,e⟩,?_⟩
  rintro i m σ2 H2 ⟨rfl,hi,w2,s2,h2,rs2,sr2,t2,e2⟩
  by_cases hlt:i < xs.length
  · have hd:xs.drop i = xs[i] :: xs.drop (i + 1):=(List.drop_eq_getElem_cons hlt)
    rw [hd] at e2
    have e2':(if chk G h2 = true then (g xs[i] s2 h2).bind fun q=>(b q.1 q.2).bind fun r=>match r.1 with
      | .ar (.nx s')=>forLX G g b (xs.drop (i + 1)) s' r.2
      | .ar (.ct s')=>forLX G g b (xs.drop (i + 1)) s' r.2
      | .ar (.bk s')=>some (.ar (.nx s'),r.2)
      | .ar (.rt v)=>some (.ar (.rt v),r.2)
      | .ex c v s' => some (.ex c v s',r.2)
    else none) = some (r,h'):=e2
    by_cases hck:chk G h2 = true
    · rw [if_pos hck] at e2'
      obtain ⟨⟨s3,h3⟩,e3,e2'⟩:=bind_some e2'
      obtain ⟨⟨r4,h4⟩,e4,e5⟩:=bind_some e2'
      obtain ⟨io1,_⟩:=io w2 H2 h2 i t2.le t2.fz sr2 hck
      obtain ⟨go,yl⟩:=io1 xs[i] (List.getElem?_eq_getElem hlt)
      refine .inr ⟨go,fun σ3 H3=>∃ w3 s3 h3,RepS c w3 s3 σ3 ∧ SR c w3 H3 h3 ∧ Tr w1 H1 h1 w3 H3 h3 ∧ forLX G g b (xs.drop (i + 1)) s3 h3 = some (r,h'),fun σ' H' q=>⟨_,Nat.sub_lt_sub_left hlt (Nat.lt_succ_self i),rfl,hlt,q⟩,fun x H3 y=>?_⟩
      obtain ⟨w3,t3,sr3,rx⟩:=yl x H3 y
      refine ⟨w3,xs[i],s2,h2,s3,h3,rx,rs2.le t3.le,sr3,e3,fun w4 H4 σ4 t4 sr4 rs4=>?_⟩
      refine ⟨w4,s3,h3,r4,h4,rs4,sr4,e4,?_⟩
      cases r4 with
      | ex cc v s' =>
        cases e5
        intro w5 H5 σ5 cls d t5 sr5 rs5 rx5
        exact k w5 H5 σ5 cls d (t1.trans (t2.trans (t3.trans (t4.trans t5)))) sr5 rs5 rx5
      | ar r4 =>
        intro w5 H5 t5 sr5
        have tt:=t2.trans (t3.trans (t4.trans t5))
        cases r4 with
        | nx s' => exact fun σ5 rs5=>⟨w5,s',h4,rs5,sr5,tt,e5⟩
        | ct s' => exact fun σ5 rs5=>⟨w5,s',h4,rs5,sr5,tt,e5⟩
        | bk s' =>
          cases e5
          exact fun σ5 rs5=>k w5 H5 (t1.trans tt) sr5 σ5 rs5
        | rt v =>
          cases e5
          exact fun u ru=>k w5 H5 (t1.trans tt) sr5 u ru
    · rw [if_neg hck] at e2'; cases e2'
  · have hd:xs.drop i = []:=List.drop_eq_nil_of_le (Nat.le_of_not_lt hlt)
    rw [hd] at e2
    have e2':(if chk G h2 = true then some (ARX.ar (AR.nx s2),h2) else none) = some (r,h'):=e2
    by_cases hck:chk G h2 = true
    · rw [if_pos hck] at e2'
      injection e2' with e2'
      injection e2' with ea eb
      subst ea eb
      exact .inl ⟨(io w2 H2 _ i t2.le t2.fz sr2 hck).2 (Nat.le_of_not_lt hlt),k w2 H2 (t1.trans t2) sr2 σ2 rs2⟩
    · rw [if_neg hck] at e2'; cases e2'
theorem xs_for (hp:PassesOwn (model X.prog X.w) X.A X.env X.xe) (hc:X.calm = true) (hi:PI X tg iter (tI (ctX X cl) src)) (hg:PG X tg (tG (ctX X cl) g)) (hb:PSs X body (tX (ctX X cl) xt W b))
    (hs:∀ x,foldedSetIterable iter X.env x = pure x:=by intro _; rfl):PS X (.For tg iter body [] pos) (tX (ctX X cl) xt W (xFor src g b)):=(ps_for hp hc hi hg hb hs).wk fun D σ H q=>tFor_ofX q
end
section
variable {X:Cx} {cl:Nat → Str × List Str} {xt:XT} {W:WX} {c0:Expr} {body:List Stmt} {t:AT} {b:ASX} {pos:Pos}
end
end Rp
end
section
namespace Rp
open PySem PySem.Spec PyProof.Rows L2
def tVeI (K:PySem.W.Frag) (ta:TA):TE:=fun σ H Q=>ta σ H fun vs H1=>∃ (a C:Addr) (ws:List V),vs = .ref a :: ws ∧ ws.length ≤ 1000 ∧ OexG K C He.veBase "ValueError.__new__" ∧ H1 a = some (exo a C none) ∧ Q .non H1
def tOsV (K:PySem.W.Frag) (f:Str) (to te:TE):TS:=fun D σ H=>te σ H fun y H1=>to σ H1 fun x H2=>∃ a C:Addr,x = .ref a ∧ OexG K C He.veBase "ValueError.__new__" ∧ PySem.W.findIn K (.ref C) f = some none ∧
  H2 a = some (exo a C none) ∧ ∀ dx,H2 dx = none → dx ≠ a → D.nx σ (upd (upd H2 dx (exd dx [(f,y)])) a (exo a C (some dx)))
def VeC (K:PySem.W.Frag) (mg:Str → Option Value) (y:Str) (RE:Addr):Prop:=mg y = some (.ref RE) ∧ ClX.CRead K RE (.type "type") ∧ PySem.W.findCls K (.ref RE) (.type "type") "__init__" = some (.val (.builtin "ValueError.__init__"))
section
variable {X:Cx} {o e:Expr} {es:List Expr} {to te:TE} {ta:TA} {f y:Str} {p p' p1 p2 pos:Pos} {RE:Addr}
theorem pe_veinit {pl:Sem Bool} (V:VeC X.K X.mg y RE) (hg:Gl X y) (ha:PA X (e :: es) ta)
    (hc:eval (.Call (.Attribute (.Name y p1) "__init__" p2) (e :: es) [] pos) X.env = (do
      let ov ← eval (.Name y p1) X.env
      standAt p2.atName
      let (f,first) ← holding [ov] (getMethod ov "__init__" pl)
      callWith pos f first (backTo pos (starEach (e :: es) X.env)) (backToKw pos (keywordEach [] X.env))):=by rfl)
    (he:starEach (e :: es) X.env = (false,eval e X.env) :: starEach es X.env:=by rfl) (hpl:(backTo pos (starEach es X.env)).any (·.1) = false:=by rfl) (hdb:(y == ("__debug__" : Str)) = false:=by decide) :
    PE X (.Call (.Attribute (.Name y p1) "__init__" p2) (e :: es) [] pos) (tVeI X.K ta):=by
  obtain ⟨hm,r,vV⟩:=V
  have pc:PE X (.Name y p1) (tC (.ref RE)):=pe_glob hg hm rfl hdb
  refine ⟨fun pins s σ H Q I h=>?_⟩
  refine PySem.W.methodCall_KW (pl:=pl) (thn (pc.run pins s σ H (fun v H1=>v = .ref RE ∧ H1 = H) I ⟨rfl,rfl⟩) fun u s1 ⟨x,H1,I1,rx,ex,eH⟩=>?_) hc
  subst ex
  subst eH
  obtain rfl:u = Value.ref RE:=rx
  refine PySem.W.method_cls I1.kIn r.ga (PySem.W.cls_value I1.kIn r.rd vV (by decide +kernel) ?_)
  show wpAny _ _ (callWith pos (Value.builtin "ValueError.__init__") [] (backTo pos (starEach (e :: es) X.env)) []) _ _ _
  refine PyProof.Rows.callWith_method1 (thn (ha.run pos pins _ σ H1 _ (I1.tok _) h) fun us s2 ⟨vs,H2,I2,r1,a,C,ws,ev,hl,T,ea,q⟩=>?_) he hpl
  subst ev
  cases r1 with
  | @cons _ u0 _ ur ra rw' =>
    obtain rfl:u0 = Value.ref a:=ra
    have hlen:ur.length ≤ sizeLine:=by
      rw [← Paired.length rw',sizeLine_eq]
      omega
    exact oinitG F.excBase_ValueError T I2 ea hlen fun s' J=>⟨.non,H2,J,rfl,q⟩
theorem ps_osV (ho:PE X o to) (he:PE X e te) (hs:swapsWith e (some (.Attribute o f p')) pos.line X.env = pure false:=by rfl):PS X (.Assign [.Attribute o f p'] e pos) (tOsV X.K f to te):=by
  refine ⟨fun pins s σ H D I h=>?_⟩
  refine plainObj_wpAny_Assign_Attribute (thn (he.run pins s σ H _ I h) fun v s1 ⟨y,H1,I1,r1,q1⟩=>thn (ho.run pins s1 σ H1 _ I1 q1) fun u s2 ⟨x,H2,I2,r2,a,C,ex,T,hno,ea,q⟩=>?_) hs
  subst ex
  obtain rfl:u = Value.ref a:=r2
  exact ostG_new F.store_ValueError T I2 ea hno r1 fun dx s' n ne J=>⟨σ,_,J,q dx n ne⟩
end
def spVi (K:PySem.W.Frag) (fl:Str):Sp:=fun vs H Q _=>∃ a C v,vs = [.ref a,v] ∧ OexG K C He.veBase "ValueError.__new__" ∧ PySem.W.findIn K (.ref C) fl = some none ∧ H a = some (exo a C none) ∧ okV v ∧
  ∀ dx,H dx = none → dx ≠ a → Q .non (upd (upd H dx (exd dx [(fl,v)])) a (exo a C (some dx)))
section
variable {X:Cx} {cl:Nat → Str × List Str} {xt:XT} {W:WX} {x fl:Str} {p pos pos':Pos} {e:Expr} {fe:AE} {k c:Nat} {C fI:Addr} {fd:FuncData} {ps:List Str}
theorem xs_raiseV (hcx:X.calm = true) (tk:L2N.Takes X W) (hxt:xt c = (C,some fl)) (T:OexG X.K C He.veBase "ValueError.__new__") (hno:PySem.W.findIn X.K (.ref C) fl = some none) (iC:PySem.W.findIn X.K (.ref C) "__init__" = some (some (.ref fI))) (tI:PySem.W.typeIn X.K (.ref fI) = some (.type "function"))
    (F1:FnOk X.prog X.w X.K X.mg X.base CX0 k fI fd ps (spVi X.K fl)) (hr:Room (k + 1) X.A) (hb:Binds X.K fd ps []) (hg:Gl X x) (hm:X.mg x = some (.ref C)) (he:PE X e (tA (ctX X cl) fe))
    (hx:Passes CX0 X (fun _ _ _=>False):=by exact pass0)
    (hdb:(x == ("__debug__" : Str)) = false:=by decide) (hst:starEach [e] X.env = (false,eval e X.env) :: starEach [] X.env:=by rfl) (hpl:(backTo pos (starEach [] X.env)).any (·.1) = false:=by rfl) :
    PS X (.Raise (some (.Call (.Name x p) [e] [] pos)) none pos') (tX (ctX X cl) xt W (xRaise c fe)):=by
  refine (L2N.ps_raise hcx tk (pmk_oexG F.excBase_ValueError T iC tI F1 hr hb .nil hx hg hm (pa_cons he pa_nil hst) hdb hst hpl)).wk fun D σ H q=>?_
  obtain ⟨w,s,h,r,h',rs,sr,e,kk⟩:=q
  obtain ⟨⟨av,h1⟩,e1,e⟩:=bind_some e
  by_cases ok:okArg av = true
  · have e':(if okArg av = true then some (ARX.ex c av s,h1) else none) = some (r,h'):=e
    rw [if_pos ok] at e'
    cases e'
    refine ⟨w,s,h,av,h',rs,sr,e1,fun w1 H1 u t1 s1 r1=>⟨by simp,fun a ha=>?_⟩⟩
    refine ⟨a,C,u,rfl,T,hno,upd_same,okArg_V ok r1,fun dx hdx hne=>⟨rfl,dx,[(fl,u)],upd_same,?_,?_,?_⟩⟩
    · rw [upd_ne hne,upd_same]
    · rw [upd_ne hne] at hdx; exact hdx
    · have hd1:H1 dx = none:=by rw [upd_ne hne] at hdx; exact hdx
      have eH:upd (del (upd (upd (upd H1 a (exo a C none)) dx (exd dx [(fl,u)])) a (exo a C (some dx))) a) dx (.xd [(fl,u)]) = upd H1 dx (.xd [(fl,u)]):=by
        funext b
        by_cases q1:b = dx
        · rw [q1,upd_same,upd_same]
        · rw [upd_ne q1,upd_ne q1]
          by_cases q2:b = a
          · rw [q2,del_same,ha]
          · rw [del_ne q2,upd_ne q2,upd_ne q1,upd_ne q2]
      show W (.ref C) (some dx) σ _
      rw [eH]
      obtain ⟨s3,t3⟩:=s1.frozen (p:=dx) (o:=.xd [(fl,u)]) hd1
      refine kk _ _ σ _ _ (t1.trans t3) s3 (rs.le (t1.trans t3).le) ⟨by rw [hxt],?_⟩
      rw [hxt]
      exact ⟨dx,u,rfl,upd_same,upd_same,RepV.le t3.le _ _ r1⟩
  · have e':(if okArg av = true then some (ARX.ex c av s,h1) else none) = some (r,h'):=e
    rw [if_neg ok] at e'
    cases e'
end
def tVi (K:PySem.W.Frag) (fl m:Str):TS:=tSeq (tDrop (tVeI K (tCons (tVar 0) (tCons (fun σ H Q=>tJs [tC (.str m),tFmt (tVar 1)] Str.empty σ H fun out H1=>Q (.str out) H1) tNil)))) (tSeq (tOsV K fl (tVar 0) (tVar 1)) tNext)
theorem vi_end {K:PySem.W.Frag} {fl m:Str} {vs:List V} {H:Hp} {Q:VK} {E:XK} (hm:m.length ≤ 1000) (q:spVi K fl vs H Q E):tVi K fl m { nx:=fun _ H' => Q .non H',rt:=Q } (L2.start ["self",fl] vs) H:=by
  obtain ⟨a,C,v,rfl,T,hno,ea,ok,k⟩:=q
  have fin:tOsV K fl (tVar 0) (tVar 1) { nx:=fun _ H' => Q .non H',rt:=Q } (L2.start ["self",fl] [.ref a,v]) H :=
    ⟨v,rfl,.ref a,rfl,a,C,rfl,T,hno,ea,k⟩
  have e0:(Str.empty:Str).length = 0:=by decide +kernel
  have hz:∀ a b:Str,(a ++ b).length = a.length + b.length:=fun a b=>by
    have l:∀ x:Str,x.length = x.cps.toList.length:=fun x=>(Array.length_toList (xs:=x.cps)).symm
    rw [l,l a,l b,show (a ++ b).cps.toList = a.cps.toList ++ b.cps.toList from Array.toList_append,List.length_append]
  have z1:(Str.empty ++ m).length ≤ sizeLine:=by rw [hz,e0,sizeLine_eq]; omega
  refine ⟨.ref a,rfl,m,rfl,z1,v,rfl,?_⟩
  rcases ok with ⟨y,rfl,hy⟩ | ⟨i,rfl,hi,hy⟩
  · have z2:((Str.empty ++ m) ++ y).length ≤ sizeLine:=by rw [hz,hz,e0,sizeLine_eq]; omega
    exact .inl ⟨y,rfl,by rw [sizeLine_eq]; omega,y,rfl,z2,a,C,_,rfl,by simp,T,ea,fin⟩
  · have z2:((Str.empty ++ m) ++ (toString i:Str)).length ≤ sizeLine:=by rw [hz,hz,e0,sizeLine_eq]; omega
    exact .inr ⟨i,rfl,hi,_,rfl,z2,a,C,_,rfl,by simp,T,ea,fin⟩
section
variable {P:Program} {w:World} {K:PySem.W.Frag} {mg:Str → Option Value} {base:Heap} {x qual fl:Str} {params:Arguments} {body:List Stmt} {scope:Scope} {dvs:List V} {kws:List (Str × V)} {f:Addr} {fd:FuncData} {k:Nat}
theorem vi_ok {m:Str} (F:FunD K x qual params body scope dvs kws f fd) (S:FnScope ["self",fl] ["self",fl] scope) (hm:m.length ≤ 1000)
    (hb:∀ (cdv:Value) (A:Around) (outer:List Env) (s:Shared) (H:Hp) (E:XK),PSs (cxOf CX0 P w K mg base ["self",fl] qual scope f cdv A outer s H E) body (tVi K fl m)):FnOk P w K mg base CX0 (k + 1) f fd ["self",fl] (spVi K fl):=by
  refine F.ok S (fun vs H Q E h=>?_) (fun cdv A outer s H vs Q E hr h=>⟨_,hb cdv A outer s H E,vi_end hm h⟩)
  obtain ⟨a,C,v,rfl,_⟩:=h
  rfl
end
section
variable {X:Cx} {m fl y:Str} {j:Nat} {RE:Addr} {p1 p2 p3 p4 p5 p6 p7 p8 p9 q1 q2 q3 q4:Pos}
theorem vi_body {pl:Sem Bool} (V:VeC X.K X.mg y RE) (hN0:X.N[0]? = some ("self" : Str)) (hN1:X.N[1]? = some fl) (v0:Vis X.env.scope "self") (v1:Vis X.env.scope fl) (hg:Gl X y)
    (hdb:(y == ("__debug__" : Str)) = false:=by decide) (hd:(fl == ("__debug__" : Str)) = false:=by decide) (hcd:(fl == ("__classdict__" : Str)) = false:=by decide)
    (hc:eval (.Call (.Attribute (.Name y p1) "__init__" p2) [.Name "self" p3,.JoinedStr [.Constant (.str m) j p4,.FormattedValue (.Name fl p5) (-1) none p6] p7] [] p8) X.env = (do
      let ov ← eval (.Name y p1) X.env
      standAt p2.atName
      let (f,first) ← holding [ov] (getMethod ov "__init__" pl)
      callWith p8 f first (backTo p8 (starEach [.Name "self" p3,.JoinedStr [.Constant (.str m) j p4,.FormattedValue (.Name fl p5) (-1) none p6] p7] X.env)) (backToKw p8 (keywordEach [] X.env))):=by rfl)
    (hs1:swapsWith (.Call (.Attribute (.Name y p1) "__init__" p2) [.Name "self" p3,.JoinedStr [.Constant (.str m) j p4,.FormattedValue (.Name fl p5) (-1) none p6] p7] [] p8) none p9.line X.env = pure false:=by rfl)
    (hs2:swapsWith (.Name fl q3) (some (.Attribute (.Name "self" q1) fl q2)) q4.line X.env = pure false:=by rfl) :
    PSs X [.Expr (.Call (.Attribute (.Name y p1) "__init__" p2) [.Name "self" p3,.JoinedStr [.Constant (.str m) j p4,.FormattedValue (.Name fl p5) (-1) none p6] p7] [] p8) p9,.Assign [.Attribute (.Name "self" q1) fl q2] (.Name fl q3) q4] (tVi X.K fl m) :=
  pss_cons (ps_expr (pe_veinit V hg (pa_cons (pe_var hN0 v0) (pa_cons (pe_joined (.cons pe_str (.cons (pe_fmt (pe_var hN1 v1 hd hcd)) .nil))) pa_nil)) hc rfl rfl hdb) hs1)
    (pss_cons (ps_osV (pe_var hN0 v0) (pe_var hN1 v1 hd hcd) hs2) pss_nil)
end
def XFactV (P:Program) (w:World) (K:PySem.W.Frag) (mg:Str → Option Value) (base:Heap) (xt:XT) (c:Nat) (x fl:Str):Prop:=∃ C fI fd ps,xt c = (C,some fl) ∧ mg x = some (.ref C) ∧ OexG K C He.veBase "ValueError.__new__" ∧ PySem.W.findIn K (.ref C) fl = some none ∧
  PySem.W.findIn K (.ref C) "__init__" = some (some (.ref fI)) ∧ PySem.W.typeIn K (.ref fI) = some (.type "function") ∧ FnOk P w K mg base CX0 1 fI fd ps (spVi K fl) ∧ Binds K fd ps []
def XV (K:PySem.W.Frag) (mg:Str → Option Value) (C fI:Addr) (x fl:Str):Prop:=mg x = some (.ref C) ∧ OexG K C He.veBase "ValueError.__new__" ∧ XfC K C ∧ PySem.W.findIn K (.ref C) fl = some none ∧ PySem.W.findIn K (.ref C) "__init__" = some (some (.ref fI)) ∧ PySem.W.typeIn K (.ref fI) = some (.type "function")
section
variable {X:Cx} {cl:Nat → Str × List Str} {xt:XT} {W:WX} {x fl:Str} {p pos pos':Pos} {e:Expr} {fe:AE} {c:Nat}
theorem xs_raiseFV (h:XFactV X.prog X.w X.K X.mg X.base xt c x fl) (hcx:X.calm = true) (tk:L2N.Takes X W) (hr:Room 2 X.A) (he:PE X e (tA (ctX X cl) fe)) (hg:Gl X x:=by rfl)
    (hdb:(x == ("__debug__" : Str)) = false:=by decide) (hst:starEach [e] X.env = (false,eval e X.env) :: starEach [] X.env:=by rfl) (hpl:(backTo pos (starEach [] X.env)).any (·.1) = false:=by rfl) :
    PS X (.Raise (some (.Call (.Name x p) [e] [] pos)) none pos') (tX (ctX X cl) xt W (xRaise c fe)):=by
  obtain ⟨C,fI,fd,ps,h1,h2,h3,h4,h5,h6,h7,h8⟩:=h
  exact xs_raiseV hcx tk h1 h3 h4 h5 h6 h7 hr h8 hg h2 he pass0 hdb hst hpl
end
def oexVB (K:PySem.W.Frag) (C:Addr):Bool:=PySem.W.excInitIn K C He.veBase "ValueError.__new__" && (PySem.W.excOver K C He.veBase && ((match PySem.W.clsIn K C with
  | some cd=>cd.hasDict
  | none=>false) && (He.eqO (PySem.W.findIn K (.ref C) "__setattr__") (some (some (.builtin "object.__setattr__"))) && (decide (PySem.W.subIn K (.ref C) (.type "BaseException") = some true) && (decide (PySem.W.typeIn K (.ref C) = some (.type "type")) && PySem.W.keepIn K (.ref C))))))
theorem oexVB_ok {K:PySem.W.Frag} {C:Addr} (h:oexVB K C = true):OexG K C He.veBase "ValueError.__new__" := by
  unfold oexVB at h
  simp only [Bool.and_eq_true] at h
  obtain ⟨h1,h2,h3,h4,h5,h6,h7⟩:=h
  refine ⟨h1,h2,?_,He.eqO_ok h4,of_decide_eq_true h5,of_decide_eq_true h6,h7⟩
  cases e:PySem.W.clsIn K C with
  | none=>rw [e] at h3; cases h3
  | some cd=>rw [e] at h3; exact ⟨cd,rfl,h3⟩
def xvB (K:PySem.W.Frag) (C:Addr) (fl:Str):Bool:=oexVB K C && (xfB K C && (He.eqO (PySem.W.findIn K (.ref C) fl) (some none) && (He.eqO (PySem.W.findIn K (.ref C) "__init__") (some (some (.ref (He.ma K C "__init__")))) && decide (PySem.W.typeIn K (.ref (He.ma K C "__init__")) = some (.type "function")))))
theorem xvB_ok {K:PySem.W.Frag} {C:Addr} {fl:Str} (h:xvB K C fl = true):OexG K C He.veBase "ValueError.__new__" ∧ XfC K C ∧ PySem.W.findIn K (.ref C) fl = some none ∧ PySem.W.findIn K (.ref C) "__init__" = some (some (.ref (He.ma K C "__init__"))) ∧ PySem.W.typeIn K (.ref (He.ma K C "__init__")) = some (.type "function"):=by
  unfold xvB at h
  simp only [Bool.and_eq_true] at h
  obtain ⟨h1,h2,h3,h4,h5⟩:=h
  exact ⟨oexVB_ok h1,xfB_ok h2,He.eqO_ok h3,He.eqO_ok h4,of_decide_eq_true h5⟩
def clsBfB (K:PySem.W.Frag) (C:Addr) (m:Str) (r:String):Bool:=PySem.W.readsIn K C (.type "type") && (He.eqO (PySem.W.specialIn K (.ref C) "__getattribute__") (some (some (.builtin "type.__getattribute__"))) && (match PySem.W.findCls K (.ref C) (.type "type") m with
  | some (.val (.builtin x))=>decide (x = r)
  | _=>false))
theorem clsBfB_ok {K:PySem.W.Frag} {C:Addr} {m:Str} {r:String} (h:clsBfB K C m r = true):ClX.CRead K C (.type "type") ∧ PySem.W.findCls K (.ref C) (.type "type") m = some (.val (.builtin r)):=by
  unfold clsBfB at h
  simp only [Bool.and_eq_true] at h
  obtain ⟨h1,h2,h3⟩:=h
  refine ⟨⟨h1,He.eqO_ok h2⟩,?_⟩
  split at h3
  · rename_i x e
    rw [e,of_decide_eq_true h3]
  · cases h3
end Rp
end
section
namespace Rp
open PySem PySem.Spec PyProof.Rows L2
section
variable {X:Cx} {cl:Nat → Str × List Str} {xt:XT} {W:WX} {e:Expr} {es:List Expr} {kws:List Keyword} {g gk:AA} {x:Str} {p pos:Pos} {k n N:Nat} {ks:List Str} {F:AFX} {mid post:List AV}
end
section
variable {s:LS} {h h1 h2:AH} {n k:Nat} {F:AFX} {g gk:AA} {as zs mid post:List AV}
end
end Rp
end
section
namespace Rp
open PySem PySem.Spec PyProof.Rows L2
section
variable {X:Cx} {cl:Nat → Str × List Str} {pos p:Pos} {e:Expr} {g:AA}
end
section
variable {X:Cx} {cl:Nat → Str × List Str} {xt:XT} {W:WX} {pos p:Pos} {e:Expr} {gs:AAX}
end
end Rp
end
section
namespace Rp
open PySem PySem.Spec PyProof.Rows L2
section
variable {s:LS} {h h':AH} {g:AG} {B:ASX} {xs:List AV} {G:Grd} {src:ASrc} {t:AT} {m:LS → AH → Nat}
def xforK (r:Option ((List AV × Grd) × AH)) (g:AG) (b:ASX) (s:LS):Option (ARX × AH):=r.bind fun q=>forLX q.1.2 g b q.1.1 s q.2
theorem ev_xfor:xFor src g B s h = xforK (src s h) g B s:=id rfl
theorem xforK_some:xforK (some ((xs,G),h)) g B s = forLX G g B xs s h:=id rfl
end
end Rp
end
section
namespace Rp
open PySem PySem.Spec PyProof.Rows L2
end Rp
end
section
namespace Rp
open PySem PySem.Spec PyProof.Rows L2
section
variable {X:Cx} {cl:Nat → Str × List Str} {pos p:Pos} {e:Expr} {g:AA}
end
end Rp
end
section
namespace Rp
open PySem PySem.Spec PyProof.Rows L2
section
variable {X:Cx} {cl:Nat → Str × List Str} {apos cpos:Pos} {o e:Expr} {f:AE} {g:AA}
end
section
variable {X:Cx} {cl:Nat → Str × List Str} {xt:XT} {W:WX} {c0:Expr} {body:List Stmt} {t:ATX} {b:ASX} {pos:Pos}
end
end Rp
end
section
namespace Rp
open PySem PySem.Spec PyProof.Rows L2
def SetT (P:Program) (w:World) (h:Heap) (a:Addr) (l:List Str):Prop :=
  ∃ D:Froz.SD,h.get? a = some (Froz.sObj "set" D) ∧ Froz.TxOk P w D l ∧ l.Nodup ∧ Ris D.2.2.place.toList ∧ (w.params.followText "set-order" = true ∨ D.2.2.led = true)
section
variable {P:Program} {w:World} {A:Around} {E:Value → Shared → Prop} {s:Shared}
set_option maxHeartbeats 3200000 in
end
theorem SetT.at {P:Program} {w:World} {h h':Heap} {a:Addr} {l:List Str} (T:SetT P w h a l) (k:∀ o,h.get? a = some o → h'.get? a = some o):SetT P w h' a l:=by
  obtain ⟨D,ho,r⟩:=T
  exact ⟨D,k _ ho,r⟩
def SetTO (P:Program) (w:World) (a:Addr) (l:List Str):HO:=.ext fun h=>SetT P w h a l
def rSetL (P:Program) (w:World) (K:PySem.W.Frag):List V → Hp → VK → Prop:=fun xs H Q=>∃ (p:Addr) (ys:List Str),xs = [.ref p] ∧ SqL K H p (ys.map V.str) ∧ ys.length ≤ 4000 ∧ ∀ (a:Addr) (l:List Str),H a = none → l.Nodup → l.length ≤ ys.length → (∀ y,y ∈ l ↔ y ∈ ys) → Q (.ref a) (upd H a (SetTO P w a l))
section
variable {X:Cx} {cl:Nat → Str × List Str} {pos p p2 q2:Pos} {e:Expr} {g:AA}
end
end Rp
end
section
namespace Rp
open PySem PySem.Spec PyProof.Rows L2
section
variable {X:Cx} {cl:Nat → Str × List Str} {pos p:Pos} {e:Expr} {g:AA}
end
end Rp
end
section
namespace Rp
open PySem PySem.Spec PyProof.Rows L2
def aInsert (a:AV) (as:List AV) (h:AH):Option (AV × AH):=(cellL h a).bind fun q=>match as with
  | [.int (.ofNat k),y]=>if k < 1000000 ∧ q.2.length < sizeLine then some (.non,h.put q.1 (.lst,q.2.take k ++ [y] ++ q.2.drop k)) else none
  | _=>none
def rIns:V → List V → Hp → VK → Prop:=fun x vs H Q=>∃ (l:Addr) (xs:List V) (i:Int) (y:V),x = .ref l ∧ vs = [.int i,y] ∧ H l = some (.lst xs) ∧ xs.length < sizeLine ∧ 0 ≤ i ∧ i < 2 ^ 63 ∧ Q .non (upd H l (.lst (xs.take i.toNat ++ [y] ++ xs.drop i.toNat)))
theorem s_insert {c:Ct}:SndM c rIns aInsert:=by
  intro w H h a u as us v h' Q S ra rs e k
  obtain ⟨⟨n,xs⟩,e1,e2⟩:=bind_some e
  obtain ⟨p,vs,rfl,hH,l,wr⟩:=cellL_ok S ra e1
  split at e2
  · rename_i j y
    split at e2
    · rename_i hk
      cases e2
      obtain ⟨u1,us1,rfl,r1,r2⟩:=rs
      obtain ⟨u2,us2,rfl,r3,r4⟩:=r2
      obtain rfl:us2 = []:=r4
      obtain rfl:u1 = V.int (.ofNat j):=r1
      obtain ⟨s2,t2⟩:=wr (xs.take j ++ [y] ++ xs.drop j) (vs.take j ++ [u2] ++ vs.drop j) (((l.take j).append (.cons r3 .nil)).append (l.drop j))
      refine ⟨p,vs,.ofNat j,u2,rfl,rfl,hH,by rw [← l.len]; exact hk.2,Int.natCast_nonneg j,?_,k w _ _ t2 s2 rfl⟩
      show (j:Int) < _
      omega
    · cases e2
  · cases e2
section
variable {X:Cx} {cl:Nat → Str × List Str} {o e e2:Expr} {f:AE} {g:AA} {apos cpos:Pos}
theorem w_insert (ho:PE X o (tA (ctX X cl) f)) (ha:PA X [e,e2] (tAs (ctX X cl) g)) (b:B1 X o "insert" e [e2] apos cpos:=by exact ⟨rfl,rfl,rfl,rfl,rfl⟩):PE X (.Call (.Attribute o "insert" apos) [e,e2] [] cpos) (tA (ctX X cl) (aBM "list" aInsert f g)) :=
  ae_bm (.inr (.inl rfl)) PySem.F.plainAttrs_list PySem.F.slot_list_insert PySem.F.type_list_insert mt_insert s_insert ho ha (h:=fun h1 h2=>pe_bm PySem.F.plainAttrs_list PySem.F.slot_list_insert PySem.F.type_list_insert mt_insert h1 h2 b.1 b.2.1 b.2.2.1 b.2.2.2.1 b.2.2.2.2)
end
end Rp
end
section
namespace Rp
open PySem PySem.Spec PyProof.Rows L2
end Rp
end
section
namespace Rp
open PySem PySem.Spec PyProof.Rows L2
end Rp
end
section
namespace Rp
open PySem PySem.Spec PyProof.Rows L2
section
variable {X:Cx} {body suite:List Stmt} {b₀:Stmt} {x1 x2:Str} {c1 c2:Value} {ts:TS} {kk:Nat} {p1 p2 tp pos pos':Pos} {tb:WX → TS} {Wout:WX}
end
section
variable {X:Cx} {cl:Nat → Str × List Str} {xt:XT} {nx:Nat} {body suite:List Stmt} {b₀:Stmt} {x1 x2:Str} {c1 c2:Value} {g:AS} {kk:Nat} {p1 p2 tp pos pos':Pos} {fB:ASX}
end
section
variable {X:Cx} {cl:Nat → Str × List Str} {apos cpos:Pos} {o e:Expr} {f:AE} {g:AA}
end
end Rp
end
section
namespace Rp
open PySem PySem.Spec PyProof.Rows L2
section
variable {P:Program} {w:World} {K:PySem.W.Frag} {mg:Str → Option Value} {base:Heap} {x qual:Str} {params:Arguments} {body:List Stmt} {scope:Scope} {dvs:List V} {kws:List (Str × V)} {f:Addr} {fd:FuncData} {N ps:List Str} {cl:Nat → Str × List Str} {k:Nat}
end
section
variable {X:Cx} {cl:Nat → Str × List Str} {e:Expr} {es:List Expr} {g:AA} {x:Str} {p pos:Pos} {k n:Nat} {F:AF} {das:List AV}
end
section
variable {X:Cx} {cl:Nat → Str × List Str} {e:Expr} {g:AA} {p pos:Pos}
end
end Rp
end
section
namespace Rp
open PySem PySem.Spec PyProof.Rows L2
section
variable {X:Cx} {cl:Nat → Str × List Str} {a:Expr} {f:AE} {p p2 q pos:Pos}
end
end Rp
end
section
namespace Rp
open PySem PySem.Spec PyProof.Rows L2
section
variable {P:Program} {w:World} {K:PySem.W.Frag} {mg mb:Str → Option Value} {CX:CXT} {k:Nat} {fa a:Addr} {fd:FuncData} {x:Str} {sp:Sp} {t:Shared} {vs:List Value} {ns:List Int}
end
end Rp
end
section
namespace Rp
open PySem PySem.Spec PyProof.Rows L2
end Rp
end
section
namespace Rp
open PySem PySem.Spec PyProof.Rows L2
section
variable {X:Cx} {cl:Nat → Str × List Str} {C g:Addr} {n:Nat} {sp:Sp} {e:Expr} {pos:Pos}
end
end Rp
end
section
namespace PySem
open Sem (wp)
section
variable {prog:Program} {w:World} {A:Around} {E:Value → Shared → Prop} {s:Shared} {fp:List Addr} {it:Addr} {n i:Nat} {P:Nat → Value → Prop} {St:Nat → Heap → Prop}
end
section
variable {prog:Program} {w:World} {A:Around} {E:Value → Shared → Prop} {s:Shared} {z TI TO i1 i2:Addr} {fp1 fp2:List Addr} {n i:Nat} {P1 P2:Nat → Value → Prop} {St1 St2:Nat → Heap → Prop} {a1 a2:Value}
end
end PySem
end
section
namespace PySem
open Sem (wp)
section
variable {prog:Program} {w:World} {A:Around} {E:Value → Shared → Prop} {s:Shared}
end
section
variable {prog:Program} {w:World} {A:Around} {z TI TO i1 i2:Addr} {fp1 fp2:List Addr} {n:Nat} {P1 P2:Nat → Value → Prop} {St1 St2:Nat → Heap → Prop}
end
end PySem
end
section
namespace PySem
open Sem (wp)
section
variable {prog:Program} {w:World} {A:Around} {E:Value → Shared → Prop} {s:Shared}
end
end PySem
end
section
namespace Rp
open PySem PySem.Spec PyProof.Rows L2
end Rp
end
section
namespace Rp
open PySem PySem.Spec PyProof.Rows L2
section
variable {M:Model} {A:Around} {E:Value → Shared → Prop} {s:Shared} {env:Env}
end
end Rp
end
section
namespace Rp
open PySem PySem.Spec PyProof.Rows L2
section
variable {X:Cx} {cl:Nat → Str × List Str}
end
end Rp
end
section
namespace Rp
open PySem PySem.Spec PyProof.Rows L2
section
variable {X:Cx} {cl:Nat → Str × List Str}
end
end Rp
end
section
namespace Rp
open PySem PySem.Spec PyProof.Rows L2
def ownRN (i:Nat) (r:Option (AR × AH)):Option (AR × AH):=r.bind fun r=>match r.1 with
  | .rt v=>some (.rt v,r.2)
  | .nx s=>some (.nx (s.set i none),r.2)
  | _=>none
def runGN (L:List XG) (c:Nat) (v:AV) (s:LS) (h:AH):Option (AR × AH):=match pickG L c with
  | some k=>(match k.slot with
    | none=>k.suite c v s h
    | some i=>if okG v = true ∧ i < s.length then ownRN i (k.suite c v (s.set i none) h) else none)
  | none=>none
section
variable {X:Cx} {cl:Nat → Str × List Str} {xt:XT} {nx:Nat} {hds:List ExceptHandler} {L:List XG} {l:List Clause}
theorem ends_drop {c:Ct} {w:Wd} {D:Ends} {H:Hp} {s:LS} {i:Nat} (k:EndsA c w D H (.nx (s.set i none))):EndsA c w (dropN i D) H (.nx s):=fun σ rs=>k _ (rs.wipe i)
theorem ClsOkG.wishR {D:Ends} {Wout:WX} (h:ClsOkG X cl xt nx hds L l) {c:Nat} (hc:c < nx) {v:AV} {s:LS} {h1 h':AH} {r:AR} {w:Wd} {H:Hp} {σ:L2.St} {cls:Value} {d:Option Addr} (e:runGN L c v s h1 = some (r,h'))
    (S:SR (ctX X cl) w H h1) (rs:RepS (ctX X cl) w s σ) (rx:RepX (ctX X cl) xt w H c v cls d) (k:∀ w' H',Tr w H h1 w' H' h' → SR (ctX X cl) w' H' h' → EndsA (ctX X cl) w' D H' r):wishN X.K Wout D l cls d σ H:=by
  induction h with
  | nil=>cases e
  | @plain x cv g hit b₀ suite np pos' hds2 L2 l2 hn hex hsu q ih =>
    refine ⟨hit c,by rw [rx.1]; exact hex c hc,fun hb a ha=>?_,fun hb=>?_⟩
    · have e':runGN (⟨hit,none,fun _ _=>g⟩ :: L2) c v s h1 = g s h1:=by unfold runGN pickG; rw [if_pos hb]
      rw [e'] at e
      exact ⟨w,s,h1,r,h',rs,S,e,k⟩
    · have e':runGN (⟨hit,none,fun _ _=>g⟩ :: L2) c v s h1 = runGN L2 c v s h1:=by
        have p1:pickG (⟨hit,none,fun _ _=>g⟩ :: L2) c = pickG L2 c:=by
          show (if hit c = true then _ else _) = _
          rw [hb]; rfl
        unfold runGN
        rw [p1]
      exact ih (e' ▸ e)
  | @named x n i cv g hit b₀ suite np pos' hds2 L2 l2 hn hi hln hex hsu q ih =>
    refine ⟨hit c,by rw [rx.1]; exact hex c hc,fun hb a ha=>?_,fun hb=>?_⟩
    · have e':runGN (⟨hit,some i,g⟩ :: L2) c v s h1 = if okG v = true ∧ i < s.length then ownRN i (g c v (s.set i none) h1) else none:=by unfold runGN pickG; rw [if_pos hb]
      rw [e'] at e
      by_cases ok':okG v = true ∧ i < s.length
      · rw [if_pos ok'] at e
        obtain ⟨ok,hl⟩:=ok'
        rw [rs.len] at hl
        obtain ⟨⟨y,h2⟩,e1,e2⟩:=bind_some e
        have rx2:=rx.2
        have key:∃ z:GFact (ctX X cl) xt nx hit cls d,z.c = c ∧ z.v = v ∧ ∀ dd,d = some dd → w.R dd = some (.xd z.z):=by
          cases hf:(xt c).2 with
          | none =>
            rw [hf] at rx2
            exact ⟨⟨c,v,[],hc,hb,rx.1,by rw [hf]; exact rx2⟩,rfl,rfl,fun dd e=>by rw [rx2] at e; cases e⟩
          | some f =>
            rw [hf] at rx2
            obtain ⟨dd,u,ed,hR,_,rv⟩:=rx2
            exact ⟨⟨c,v,[(f,u)],hc,hb,rx.1,by rw [hf]; exact ⟨dd,u,ed,rfl,okG_all ok rv⟩⟩,rfl,rfl,fun d2 e=>by rw [ed] at e; cases e; exact hR⟩
        obtain ⟨z,ec,ev,hz⟩:=key
        cases y with
        | rt zz =>
          cases e2
          exact ⟨z,w,s.set i none,h1,.rt zz,_,⟨hz,List.getElem?_set_self hl⟩,reps_none rs,S,by rw [ec,ev]; exact e1,fun w' H' t s' => k w' H' t s'⟩
        | nx zz =>
          cases e2
          exact ⟨z,w,s.set i none,h1,.nx zz,_,⟨hz,List.getElem?_set_self hl⟩,reps_none rs,S,by rw [ec,ev]; exact e1,fun w' H' t s' => ends_drop (k w' H' t s')⟩
        | _=>cases e2
      · rw [if_neg ok'] at e; cases e
    · have e':runGN (⟨hit,some i,g⟩ :: L2) c v s h1 = runGN L2 c v s h1:=by
        have p1:pickG (⟨hit,some i,g⟩ :: L2) c = pickG L2 c:=by
          show (if hit c = true then _ else _) = _
          rw [hb]; rfl
        unfold runGN
        rw [p1]
      exact ih (e' ▸ e)
end
def xTryN (nx:Nat) (b:ASX) (l:List XG):AS:=fun s h=>(b s h).bind fun r=>match r.1 with
  | .ar x=>some (x,r.2)
  | .ex c v s' => if c < nx then runGN l c v s' r.2 else none
section
variable {X:Cx} {cl:Nat → Str × List Str} {xt:XT} {nx:Nat} {body:List Stmt} {h₀:ExceptHandler} {hds:List ExceptHandler} {L:List XG} {l:List Clause} {pos:Pos} {fB:ASX}
theorem as_tryN (hs:X.stack = X.env :: X.outer) (hf:X.env.frame = some X.env.locals) (hN:X.N.Nodup)
    (hb:∀ (W:WX) (pn:List (Addr × Obj)) (xe:Value → Shared → Prop),L2N.Takes (X.tr pn xe) W → PSs (X.tr pn xe) body (tX (ctX X cl) xt W fB))
    (hk:ClsOkG X cl xt nx (h₀ :: hds) L l):PS X (.Try body (h₀ :: hds) [] [] pos) (tS (ctX X cl) (xTryN nx fB L)):=by
  have tk:L2N.Takes X (fun _ _ _ _=>False):=fun u s' ⟨_,_,_,_,_,_,_,_,_,_,_,_,_,_,_,_,z⟩=>z.elim
  refine (ps_tryG (tb:=fun W=>tX (ctX X cl) xt W fB) hs hf hN tk (fun W pn xe t _=>hb W pn xe t) hk.hdsG).wk fun D σ H q=>?_
  obtain ⟨w,s,h,r,h',rs,sr,e,k⟩:=q
  obtain ⟨⟨x,h1⟩,e1,e⟩:=bind_some e
  refine ⟨w,s,h,x,h1,rs,sr,e1,?_⟩
  cases x with
  | ar y=>cases e; exact k
  | ex c v s' =>
    intro w1 H1 σ1 cls d t1 s1 rs1 rx
    by_cases hc:c < nx
    · have e':(if c < nx then runGN L c v s' h1 else none) = some (r,h'):=e
      rw [if_pos hc] at e'
      exact hk.wishR hc e' s1 rs1 rx fun w' H' t s'' => k w' H' (t1.trans t) s''
    · have e':(if c < nx then runGN L c v s' h1 else none) = some (r,h'):=e
      rw [if_neg hc] at e'; cases e'
end
theorem ev_xtryN_ar {s:LS} {h h':AH} {nx:Nat} {B:ASX} {L:List XG} {r:AR} (e:B s h = some (.ar r,h')):xTryN nx B L s h = some (r,h'):=by
  unfold xTryN; rw [e]; rfl
theorem ev_xtryN_ex {s s':LS} {h h':AH} {nx c:Nat} {v:AV} {B:ASX} {L:List XG} (e:B s h = some (.ex c v s',h')) (hc:c < nx):xTryN nx B L s h = runGN L c v s' h':=by
  unfold xTryN; rw [e]; exact if_pos hc
section
variable {X:Cx} {cl:Nat → Str × List Str} {Φ:Ph} {e o:Expr} {es:List Expr} {f:AE} {g gs:AA} {pos apos cpos:Pos}
end
section
variable {P:Program} {w:World} {K:PySem.W.Frag} {mg:Str → Option Value} {base:Heap} {cl:Nat → Str × List Str} {xt:XT} {x qual:Str} {params:Arguments} {body:List Stmt} {scope:Scope} {dvs:List V} {kws:List (Str × V)} {f:Addr} {fd:FuncData} {N ps:List Str} {k nx:Nat}
end
theorem phg_set {a:Addr} {i k:Nat} {d:Option Addr} {z:List (Str × V)} (h:k ≠ i) {w:Wd} {σ:L2.St} {v:Option V} (q:PhG a i d z w σ):PhG a i d z w (σ.set k v):=⟨q.1,by rw [List.getElem?_set_ne h]; exact q.2⟩
end Rp
end
section
namespace Rp
open PySem PySem.Spec PyProof.Rows L2
section
variable {X:Cx} {cl:Nat → Str × List Str} {f g:AE} {a b:Expr} {pos:Pos}
end
end Rp
end
section
namespace Rp
open PySem PySem.Spec PyProof.Rows L2
section
variable {X:Cx} {cl:Nat → Str × List Str} {pos p:Pos} {e:Expr} {es:List Expr} {gs:AAX} {k n:Nat} {x:Str} {F:AF} {xt:XT} {W:WX}
end
end Rp
end
section
namespace Rp
open PySem PySem.Spec PyProof.Rows L2
section
variable {X:Cx} {body:List Stmt} {hd:ExceptHandler} {hds:List ExceptHandler} {pos:Pos} {tb:TS} {cl:Nat → Str × List Str} {g:AS}
end
section
variable {X:Cx} {cl:Nat → Str × List Str} {apos cpos:Pos} {o e:Expr} {f:AE} {g:AA}
end
section
variable {prog:Program} {w:World} {A:Around} {E:Value → Shared → Prop} {s:Shared}
end
section
variable {X:Cx} {cl:Nat → Str × List Str} {e:Expr}
end
end Rp
end
section
namespace Rp
open PySem PySem.Spec PyProof.Rows L2
abbrev TbX:=List (Str × Nat × (AF ⊕ AFX))
section
variable {X:Cx} {CXg:CXT} {k i:Nat} {f:Addr} {fd:FuncData} {ps:List Str} {sp:Sp} {E:L2.St → XK} {x:Str} {p pos:Pos} {e:Expr} {es:List Expr} {t:TA}
end
section
variable {X:Cx} {cl:Nat → Str × List Str} {xt:XT} {W:WX} {x:Str} {p pos:Pos} {e:Expr} {es:List Expr} {g:AA} {T:TbX} {k i:Nat}
end
section
variable {X:Cx} {cl:Nat → Str × List Str} {xt:XT} {W:WX} {pos p:Pos} {e:Expr} {gs:AAX}
end
section
variable {X:Cx} {cl:Nat → Str × List Str} {apos cpos:Pos} {o e:Expr} {f:AE} {g:AA}
end
end Rp
end
section
namespace Rp
open PySem PySem.Spec PyProof.Rows L2
section
variable {X:Cx} {cl:Nat → Str × List Str} {e:Expr} {g:AA} {p pos:Pos}
end
end Rp
end
section
namespace Rp
open PySem PySem.Spec PyProof.Rows L2
section
variable {X:Cx} {cl:Nat → Str × List Str} {e:Expr} {f g:AE}
end
end Rp
end
section
namespace Rp
open PySem PySem.Spec PyProof.Rows L2
section
variable {X:Cx} {cl:Nat → Str × List Str} {f g:AE} {a b:Expr} {pos:Pos}
end
end Rp
end
section
namespace Rp
open PySem PySem.Spec PyProof.Rows L2
section
variable {X:Cx} {cl:Nat → Str × List Str} {pos:Pos} {a b:Expr} {rest:List Expr} {ta tb:TE} {f g:AE}
end
end Rp
end
section
namespace Rp
open PySem PySem.Spec PyProof.Rows L2
section
variable {X:Cx} {CX:CXT} {k:Nat} {f C:Addr} {fd:FuncData} {ps:List Str} {sp:Sp} {E:L2.St → XK} {x:Str} {p pos:Pos} {e:Expr} {es:List Expr} {t:TA} {ds:List Value} {dvs:List V}
theorem run_makeS {pins:List (Addr × Obj)} {σ:L2.St} {H:Hp} {s:Shared} {Q:VK} {us:List Value} {vs:List V} (M:Mk X.K C f) (F:FnOk X.prog X.w X.K X.mg X.base CX k f fd ps sp) (hr:Room (k + 1) X.A) (hb:Binds X.K fd ps ds) (hd:Vals dvs ds)
    (hx:PassesAt CX X σ (E σ)) (I:Inv X pins σ H s) (r:Vals vs us)
    (h:∀ x dx,H x = none → H dx = none → dx ≠ x → sp (.ref x :: (vs ++ dvs)) (upd (upd H dx (.own x)) x (.ins C dx [])) (fun v H2=>v = .non ∧ Q (.ref x) H2) (E σ)) :
    wpAny (model X.prog X.w) X.A (call (.ref C) us) (EP X pins σ Q) X.xe s:=by
  have hq:=h (s.heap.objs.size + 1) s.heap.objs.size (I.hok.fresh (Nat.le_succ _)) (I.hok.fresh (Nat.le_refl _)) (Nat.ne_of_lt (Nat.lt_succ_self _))
  have I2:=Inv.made (C:=C) I
  have r2:Vals (V.ref (s.heap.objs.size + 1) :: (vs ++ dvs)) (Value.ref (s.heap.objs.size + 1) :: (us ++ ds)):=.cons rfl (r.append hd)
  have hl:(Value.ref (s.heap.objs.size + 1) :: us ++ ds).length = ps.length:=by
    have e:=r2.length
    rw [F.len _ _ _ _ hq] at e
    exact e.symm
  refine wpAny_call (make_map (f:=f) I.kIn M.makes M.init (beq_iff_eq.mp M.fn) (codeAny_mono (F.run _ X.stack _ _ ⟨Value.ref (s.heap.objs.size + 1) :: us,[]⟩ (Value.ref (s.heap.objs.size + 1) :: (us ++ ds)) _ _ (E σ) (hr.make C us [])
    (I2.env0.make C us []) (hb _ (Value.ref (s.heap.objs.size + 1) :: us) I2.kIn hl) r2 hq) fun r s' hq' => ?_))
  cases r with
  | error e=>exact hx pins _ _ e s' I2 hq'
  | ok fl =>
    cases fl with
    | ret u =>
      obtain ⟨v,H',I3,rv,ev,q3⟩:=I2.after hq'
      subst ev
      exact ⟨rv,⟨V.ref (s.heap.objs.size + 1),H',I3,rfl,q3⟩⟩
    | next=>exact False.elim hq'
    | brk=>exact False.elim hq'
    | cont=>exact False.elim hq'
theorem pe_makeS (M:Mk X.K C f) (F:FnOk X.prog X.w X.K X.mg X.base CX k f fd ps sp) (hr:Room (k + 1) X.A) (hg:Gl X x) (hm:X.mg x = some (.ref C)) (hb:Binds X.K fd ps ds) (hd:Vals dvs ds) (hx:∀ σ,PassesAt CX X σ (E σ))
    (ha:PA X (e :: es) t) (hdb:(x == ("__debug__" : Str)) = false:=by decide) (he:starEach (e :: es) X.env = (false,eval e X.env) :: starEach es X.env:=by rfl) (hpl:(backTo pos (starEach es X.env)).any (·.1) = false:=by rfl) :
    PE X (.Call (.Name x p) (e :: es) [] pos) (fun σ H Q=>tMake C sp dvs (E σ) t σ H Q):=by
  refine ⟨fun pins s σ H Q I h=>?_⟩
  refine wpAny_Call_Name_kw (ld_glob I hg hm ?_ hdb)
  refine PySem.W.callWith_K (h₀:=X.base) I.ok.mod.kin M.kp (thn (ha.run pos pins s σ H _ I h) fun us s1 ⟨vs,H1,I1,r,q⟩=>⟨I1.kIn,?_⟩) he hpl
  exact run_makeS M F hr hb hd (hx σ) I1 r q
end
def MakX (P:Program) (w:World) (K:PySem.W.Frag) (mg:Str → Option Value) (base:Heap) (cl:Nat → Str × List Str) (xt:XT) (k c:Nat) (n:Nat) (das:List AV) (F:AFX):Prop:=∃ a f fd ps ds dvs,ClsF ⟨K,w,mg,cl⟩ c a ∧ Mk K a f ∧ FnOk P w K mg base (L2N.CX P w) k f fd ps (spX ⟨K,w,mg,cl⟩ xt n F) ∧ Binds K fd ps ds ∧ Vals dvs ds ∧ ∀ wd,RepL ⟨K,w,mg,cl⟩ wd das dvs
def xMake (c:Nat) (F:AFX) (das:List AV) (g:AA):AEX:=fun s h=>(g s h).bind fun q=>(F (.ref q.2.next :: (q.1 ++ das)) (q.2.new (.ins c,[]))).bind fun r=>match r.1 with
  | .ok .non=>some (.ok (.ref q.2.next),r.2)
  | .ex c v=>some (.ex c v,r.2)
  | _=>none
section
variable {X:Cx} {cl:Nat → Str × List Str} {xt:XT} {W:WX} {pos p:Pos} {e:Expr} {es:List Expr} {g:AA} {x:Str} {k n:Nat} {das:List AV} {F:AFX}
theorem xe_make {c:Nat} (C:MakX X.prog X.w X.K X.mg X.base cl xt k c n das (lenX n F)) (hr:Room (k + 1) X.A) (hc:(cl c).1 = x) (tk:L2N.Takes X W) (ha:PA X (e :: es) (tAs (ctX X cl) g)) (hg:Gl X x:=by rfl) (hdb:(x == ("__debug__" : Str)) = false:=by decide)
    (he:starEach (e :: es) X.env = (false,eval e X.env) :: starEach es X.env:=by rfl) (hpl:(backTo pos (starEach es X.env)).any (·.1) = false:=by rfl):PE X (.Call (.Name x p) (e :: es) [] pos) (tAX (ctX X cl) xt W (xMake c (lenX n F) das g)):=by
  obtain ⟨a,f,fd,ps,ds,dvs,Fc,h2,h3,h4,h5,hd⟩:=C
  refine (pe_makeS (E:=WE W) h2 h3 hr hg (by rw [← hc]; exact Fc.mg) h4 h5 (L2N.passAt tk) ha hdb he hpl).wk fun σ H Q q=>?_
  obtain ⟨w,s,h,v,h',rs,sr,e,kk⟩:=q
  obtain ⟨⟨as,h1⟩,e1,e⟩:=bind_some e
  obtain ⟨⟨z,h2'⟩,e2,e⟩:=bind_some e
  refine ⟨w,s,h,as,h1,rs,sr,e1,fun w1 H1 us t1 s1 r1 xx dx hx hdx hne=>?_⟩
  have hH:∀ b,b ≠ xx → H1 b ≠ none → upd (upd H1 dx (.own xx)) xx (.ins a dx []) b = H1 b:=fun b hb hb2=>by
    rw [upd_ne hb,upd_ne (fun e=>hb2 (by rw [e]; exact hdx))]
  have nm:NodeM (ctX X cl) (upd (upd H1 dx (.own xx)) xx (.ins a dx [])) xx (.ins c) []:=⟨Nat.zero_le _,a,dx,Fc.mg,by rw [upd_same,List.zip_nil_right]⟩
  obtain ⟨s2,t2⟩:=s1.newCell hx hH nm (show RepL (ctX X cl) w1 [] [] from rfl)
  refine ⟨_,h1.new (.ins c,[]),.ref h1.next :: (as ++ das),z,h2',(lenX_len e2).1,.cons ⟨xx,if_pos rfl,rfl⟩ ((RepL.le t2.le _ _ r1).append (hd _)),s2,e2,?_⟩
  cases z with
  | ok z =>
    intro w3 H3 u t3 s3 r3
    cases z with
    | non =>
      cases e
      exact ⟨r3,kk w3 H3 _ (t1.trans (t2.trans t3)) s3 ⟨xx,t3.le.ii _ _ (if_pos rfl),rfl⟩⟩
    | _=>cases e
  | ex c2 v2 =>
    cases e
    exact fun w3 H3 cls d t3 s3 rx=>kk w3 H3 cls d (t1.trans (t2.trans t3)) s3 rx
end
theorem ev_xmake {c:Nat} {F:AFX} {das:List AV} {g:AA} {s:LS} {h h1:AH} {as:List AV} (e:g s h = some (as,h1)):xMake c F das g s h = (F (.ref h1.next :: (as ++ das)) (h1.new (.ins c,[]))).bind fun r=>match r.1 with
  | .ok .non=>some (.ok (.ref h1.next),r.2)
  | .ex c v=>some (.ex c v,r.2)
  | _=>none:=by
  unfold xMake
  rw [e]
  rfl
end Rp
end
section
namespace Rp
open PySem PySem.Spec PyProof.Rows L2
def strRep (x:Str) (k:Nat):Str:=⟨(List.replicate k x.cps).foldl (· ++ ·) #[]⟩
theorem fold_size (a:Array Nat):∀ (k:Nat) (acc:Array Nat),((List.replicate k a).foldl (· ++ ·) acc).size = acc.size + k * a.size
  | 0,acc=>by simp
  | k + 1,acc=>by
    rw [List.replicate_succ,List.foldl_cons,fold_size a k (acc ++ a),Array.size_append,Nat.succ_mul]
    omega
theorem strRep_len {x:Str} {k:Nat}:(strRep x k).length = k * x.length:=by
  show ((List.replicate k x.cps).foldl (· ++ ·) #[]).size = _
  rw [fold_size]
  simp
  rfl
def rRepS:R2:=fun x y H Q=>∃ i k,x = .str i ∧ y = .int k ∧ 2 ≤ k ∧ k ≤ 1000 ∧ 0 < i.length ∧ i.length ≤ 1000 ∧ Q (.str (strRep i k.toNat)) H
theorem op_repS {X:Cx}:OpR X (binaryOp .Mult) rRepS:=by
  intro pins s σ H x y v u Q I rx ry h
  obtain ⟨i,k,rfl,rfl,k1,k2,i1,i2,q⟩:=h
  obtain ⟨t,rfl⟩:=rx
  obtain ⟨t',rfl⟩:=ry
  have kn:k.toNat ≤ 1000:=by omega
  have hz:i.length * k.toNat ≤ 1000000:=Nat.le_trans (Nat.mul_le_mul i2 kn) (by decide)
  have hl:(1000000:Nat) ≤ sizeLine:=by decide
  refine P.mul_str ?_ (fun _ _=>?_) (fun _ _=>?_) ?_
  · rw [decide_eq_false (by omega),decide_eq_false (by omega)]
    rfl
  · have:(1000:Int) ≤ (2 ^ 63 - 1) / k:=Int.le_ediv_of_mul_le (by omega) (by omega)
    omega
  · exact decide_eq_false (by omega)
  · have e1:(k == 1 || i.length == 0) = false:=by
      have a:(k == 1) = false:=by rw [beq_eq_false_iff_ne]; omega
      have b:(i.length == 0) = false:=by rw [beq_eq_false_iff_ne]; omega
      rw [a,b]
      rfl
    rw [if_neg (by omega),e1,if_neg (by simp)]
    refine ⟨?_,.str (strRep i k.toNat),H,I.tok _,⟨_,rfl⟩,q⟩
    show (strRep i k.toNat).length ≤ sizeLine
    rw [strRep_len,Nat.mul_comm]
    omega
def aRepS (a b:AV) (h:AH):Option (AV × AH):=match a,b with
  | .str x,.int k=>if 2 ≤ k ∧ k ≤ 1000 ∧ 0 < x.length ∧ x.length ≤ 1000 then some (.str (strRep x k.toNat),h) else none
  | _,_=>none
theorem snd_repS {c:Ct}:Snd2 c rRepS aRepS:=by
  intro w H h a b u y v h' Q S ra rb e k
  unfold aRepS at e
  split at e
  · split at e
    · rename_i hz
      cases e
      exact ⟨_,_,ra,rb,hz.1,hz.2.1,hz.2.2.1,hz.2.2.2,k w H _ (.refl _ _ _) S rfl⟩
    · cases e
  · cases e
section
variable {X:Cx} {cl:Nat → Str × List Str} {pos:Pos} {a b:Expr} {f g:AE}
theorem ae_mulS (ha:PE X a (tA (ctX X cl) f)) (hb:PE X b (tA (ctX X cl) g)):PE X (.BinOp a .Mult b pos) (tA (ctX X cl) (aOp2 aRepS f g)):=ae_bin op_repS snd_repS ha hb
end
end Rp
end
section
namespace K03
open PySem PySem.Spec PyProof.Rows L2 Rp
def top (i:Nat):Stmt:=PySem.Challenge.pw_ridepool_k03_texts_that_are_no_programs.main.body.getD i (.Pass ⟨0,0,0,0⟩)
def inCls (s:Stmt) (j:Nat):Stmt:=match s with
  | .ClassDef (body:=b) .. => b.getD j (.Pass ⟨0,0,0,0⟩)
  | _=>s
end K03
end
section
open PySem PySem.W
open_shared T03top for PySem.Challenge.pw_ridepool_k03_texts_that_are_no_programs leaving 21
end
section
namespace K03
open PySem PySem.Spec PyProof.Rows L2 Rp
def d0:He.DefD:=(⟨("BadProgram",some "__init__"), "__init__", "BadProgram.__init__",defArgs (inCls (top 3) 0),defBody (inCls (top 3) 0),defScope (inCls (top 3) 0),[.int 0],[]⟩:He.DefD)
def d1:He.DefD:=(⟨("_law_hat",none), "_law_hat", "_law_hat",defArgs (top 32),defBody (top 32),defScope (top 32),[],[]⟩:He.DefD)
def d2:He.DefD:=(⟨("_law_take",none), "_law_take", "_law_take",defArgs (top 33),defBody (top 33),defScope (top 33),[],[]⟩:He.DefD)
def d3:He.DefD:=(⟨("_law_words",none), "_law_words", "_law_words",defArgs (top 41),defBody (top 41),defScope (top 41),[],[]⟩:He.DefD)
def d4:He.DefD:=(⟨("_law_names",none), "_law_names", "_law_names",defArgs (top 36),defBody (top 36),defScope (top 36),[],[]⟩:He.DefD)
def d5:He.DefD:=(⟨("_law_of",none), "_law_of", "_law_of",defArgs (top 34),defBody (top 34),defScope (top 34),[],[]⟩:He.DefD)
def d6:He.DefD:=(⟨("_law_blocks",none), "_law_blocks", "_law_blocks",defArgs (top 38),defBody (top 38),defScope (top 38),[],[]⟩:He.DefD)
def d7:He.DefD:=(⟨("_law_thing",none), "_law_thing", "_law_thing",defArgs (top 37),defBody (top 37),defScope (top 37),[],[]⟩:He.DefD)
def d8:He.DefD:=(⟨("_law_statement",none), "_law_statement", "_law_statement",defArgs (top 39),defBody (top 39),defScope (top 39),[],[]⟩:He.DefD)
def d9:He.DefD:=(⟨("_law_list",none), "_law_list", "_law_list",defArgs (top 40),defBody (top 40),defScope (top 40),[],[]⟩:He.DefD)
def d10:He.DefD:=(⟨("_law_plan",none), "_law_plan", "_law_plan",defArgs (top 42),defBody (top 42),defScope (top 42),[],[]⟩:He.DefD)
def d11:He.DefD:=(⟨("_law_rows_of",none), "_law_rows_of", "_law_rows_of",defArgs (top 43),defBody (top 43),defScope (top 43),[],[]⟩:He.DefD)
def d12:He.DefD:=(⟨("_law_text",none), "_law_text", "_law_text",defArgs (top 44),defBody (top 44),defScope (top 44),[],[]⟩:He.DefD)
def d13:He.DefD:=(⟨("_law_spoilt",none), "_law_spoilt", "_law_spoilt",defArgs (top 50),defBody (top 50),defScope (top 50),[],[]⟩:He.DefD)
def d14:He.DefD:=(⟨("_law_good_name",none), "_law_good_name", "_law_good_name",defArgs (top 45),defBody (top 45),defScope (top 45),[],[]⟩:He.DefD)
def d15:He.DefD:=(⟨("_law_good_row",none), "_law_good_row", "_law_good_row",defArgs (top 46),defBody (top 46),defScope (top 46),[],[]⟩:He.DefD)
def d16:He.DefD:=(⟨("_law_taken",none), "_law_taken", "_law_taken",defArgs (top 47),defBody (top 47),defScope (top 47),[],[]⟩:He.DefD)
def d17:He.DefD:=(⟨("_law_bad_row",none), "_law_bad_row", "_law_bad_row",defArgs (top 48),defBody (top 48),defScope (top 48),[],[]⟩:He.DefD)
def d18:He.DefD:=(⟨("Reader",some "__init__"), "__init__", "Reader.__init__",defArgs (inCls (top 25) 0),defBody (inCls (top 25) 0),defScope (inCls (top 25) 0),[],[]⟩:He.DefD)
def d19:He.DefD:=(⟨("is_name",none), "is_name", "is_name",defArgs (top 22),defBody (top 22),defScope (top 22),[],[]⟩:He.DefD)
def d20:He.DefD:=(⟨("Reader",some "begin"), "begin", "Reader.begin",defArgs (inCls (top 25) 2),defBody (inCls (top 25) 2),defScope (inCls (top 25) 2),[],[]⟩:He.DefD)
def d21:He.DefD:=(⟨("Reader",some "close"), "close", "Reader.close",defArgs (inCls (top 25) 5),defBody (inCls (top 25) 5),defScope (inCls (top 25) 5),[],[]⟩:He.DefD)
def d22:He.DefD:=(⟨("Reader",some "turn"), "turn", "Reader.turn",defArgs (inCls (top 25) 4),defBody (inCls (top 25) 4),defScope (inCls (top 25) 4),[],[]⟩:He.DefD)
def d23:He.DefD:=(⟨("is_row",none), "is_row", "is_row",defArgs (top 23),defBody (top 23),defScope (top 23),[],[]⟩:He.DefD)
def d24:He.DefD:=(⟨("Reader",some "plain"), "plain", "Reader.plain",defArgs (inCls (top 25) 3),defBody (inCls (top 25) 3),defScope (inCls (top 25) 3),[],[]⟩:He.DefD)
def d25:He.DefD:=(⟨("Reader",some "take"), "take", "Reader.take",defArgs (inCls (top 25) 1),defBody (inCls (top 25) 1),defScope (inCls (top 25) 1),[],[]⟩:He.DefD)
def d26:He.DefD:=(⟨("Reader",some "end"), "end", "Reader.end",defArgs (inCls (top 25) 6),defBody (inCls (top 25) 6),defScope (inCls (top 25) 6),[],[]⟩:He.DefD)
def d27:He.DefD:=(⟨("read_steps",none), "read_steps", "read_steps",defArgs (top 26),defBody (top 26),defScope (top 26),[],[]⟩:He.DefD)
def d28:He.DefD:=(⟨("Program",some "__init__"), "__init__", "Program.__init__",defArgs (inCls (top 29) 0),defBody (inCls (top 29) 0),defScope (inCls (top 29) 0),[],[]⟩:He.DefD)
def d29:He.DefD:=(⟨("_law_read",none), "_law_read", "_law_read",defArgs (top 49),defBody (top 49),defScope (top 49),[],[]⟩:He.DefD)
def d30:He.DefD:=(⟨("_law_same",none), "_law_same", "_law_same",defArgs (top 35),defBody (top 35),defScope (top 35),[],[]⟩:He.DefD)
def d31:He.DefD:=(⟨("Program",some "__str__"), "__str__", "Program.__str__",defArgs (inCls (top 29) 3),defBody (inCls (top 29) 3),defScope (inCls (top 29) 3),[],[]⟩:He.DefD)
def d32:He.DefD:=(⟨("law",none), "law", "law",defArgs (top 51),defBody (top 51),defScope (top 51),[],[]⟩:He.DefD)
def fn:List He.DefD:=[d0,d1,d2,d3,d4,d5,d6,d7,d8,d9,d10,d11,d12,d13,d14,d15,d16,d17,d18,d19,d20,d21,d22,d23,d24,d25,d26,d27,d28,d29,d30,d31,d32]
def fa:List He.Fa:=[.free "all",
  .free "bool",
  .free "enumerate",
  .free "int",
  .free "isinstance",
  .free "len",
  .free "list",
  .free "range",
  .free "str",
  .free "tuple",
  .free "zip",
  .glo "ALONE",
  .glo "BLOCKS",
  .str "LETTERS" "abcdefghijklmnopqrstuvwxyz",
  .int "LONGEST" 8,
  .int "MOST_DEEP" 4,
  .int "MOST_ROWS" 24,
  .int "MOST_TASKS" 4,
  .glo "OTHERS",
  .glo "PARTED",
  .glo "SIGNS",
  .noat "Reader" "found",
  .noat "Reader" "asked",
  .noat "Reader" "name",
  .noat "Reader" "rows",
  .noat "Reader" "nested",
  .glo "Reader",
  .cls "Reader",
  .noat "Program" "rows",
  .noat "Program" "later",
  .noat "Program" "writ",
  .glo "Program",
  .cls "Program",
  .glo "BadProgram",
  .glo "RideError",
  .exm "BadProgram" "BadProgram" true,
  .glo "_law_hat",
  .glo "_law_take",
  .glo "_law_words",
  .glo "_law_names",
  .glo "_law_of",
  .glo "_law_blocks",
  .glo "_law_thing",
  .glo "_law_statement",
  .glo "_law_list",
  .glo "_law_plan",
  .glo "_law_rows_of",
  .glo "_law_text",
  .glo "_law_spoilt",
  .glo "_law_good_name",
  .glo "_law_good_row",
  .glo "_law_taken",
  .glo "_law_bad_row",
  .mkr "Reader",
  .glo "is_name",
  .meth "Reader" "begin",
  .meth "Reader" "close",
  .meth "Reader" "turn",
  .glo "is_row",
  .meth "Reader" "plain",
  .meth "Reader" "take",
  .meth "Reader" "end",
  .glo "read_steps",
  .mkr "Program",
  .glo "_law_read",
  .glo "_law_same",
  .meth "Program" "__str__",
  .glo "law"]
def ts:List He.Tab:=[(fun K=>He.ga K "SIGNS",["load", "add", "read", "write", "keep", "own", "ask", "give", "take", "lock", "bind", "loop"])]
def exL (K:PySem.W.Frag):List Bool:=[He.tupB K "ALONE" [.str "mark",.str "peek",.str "yield",.str "call",.str "fail",.str "hold",.str "try",.str "when"],
  He.tupB K "BLOCKS" [.str "lock",.str "hold",.str "bind",.str "loop",.str "try",.str "when"],
  He.tupB K "OTHERS" [.str "start",.str "join"],
  He.tupB K "PARTED" [.str "try",.str "when"],
  tabB K (He.ga K "SIGNS") [("load",.str "01234"),("add",.str "1234"),("read",.str "abcd"),("write",.str "abcd"),("keep",.str "wxyz"),("own",.str "wxyz"),("ask",.str "wxyz"),("give",.str "pq"),("take",.str "pq"),("lock",.str "lm"),("bind",.str "wxyz"),("loop",.str "123")],
  xvB K (He.ga K "BadProgram") "row",
  clsBfB K (He.ga K "RideError") "__init__" "ValueError.__init__"]
def exB (K:PySem.W.Frag):Bool:=(exL K).all id
abbrev Rr:PySem.W.OpenRow:=PySem.W.OpenLaw.row PySem.Challenge.rw_ridepool_k03_texts_that_are_no_programs
def asL:List Addr:=([3,6,4,21,31,52,72,85,97,100,101,102,103,104,109,116,175,184,185,271,282,289,296,303,308,315,322,329,336,343,350,355,362,367,372,379,386,393,400,407,412,0,20,30,51,71,84,96,108,115,174,183,270,281,288,295,302,307,314,321]:List Addr) ++ ([328,335,342,349,354,361,366,371,378,385,392,399,406,411,15,17,18,19,29,32,49,50,69,70,73,83,95,105,107,110,112,113,114,130,137,144,151,158,165,172,173,176,177,180,182,199,206,213,220,225,232,237,244,251,256,263,268,269,272,273]:List Addr) ++ ([276,278,279,280,283,285,286,287,290,292,293,294,297,299,300,301,304,306,309,311,312,313,316,318,319,320,323,325,326,327,330,332,333,334,337,339,340,341,344,346,347,348,351,353,356,358,359,360,363,365,368,370,373,375,376,377,380,382,383,384]:List Addr) ++ ([387,389,390,391,394,396,397,398,401,403,404,405,408,410,48,42,68,62,129,136,143,150,157,164,171,198,205,212,219,224,231,236,243,250,255,262,267,2]:List Addr)
abbrev hk:PySem.W.Hook:=hookL asL fa fn ts exB
def ob (s:PySem.W.SharedT):He.AlX:=obsL asL fa fn ts exB (HandSHeadRun.getT s)
theorem ob_eq (s:PySem.W.SharedT):ob s = hk.obs s.abs:=obsL_eq (HandSHeadRun.getT_eq s)
def loose:List PySem.Str:=(["_wall", "RideError", "BadProgram", "Missing", "NoTask", "NoStep", "BOXES", "LOCKS", "PLACES", "OWN", "LETTERS", "MOST_TASKS", "MOST_ROWS", "MOST_DEEP", "LONGEST", "BLOCKS", "PARTED", "SIGNS", "ALONE", "OTHERS", "is_name", "is_row", "Reader", "read_steps", "ON_CARRIER", "Program", "step_text", "_law_hat", "_law_take", "_law_of"]:List PySem.Str) ++ (["_law_same", "_law_names", "_law_thing", "_law_blocks", "_law_statement", "_law_list", "_law_words", "_law_plan", "_law_rows_of", "_law_text", "_law_good_name", "_law_good_row", "_law_taken", "_law_bad_row", "_law_read", "_law_spoilt"]:List PySem.Str)
open PySem.W PySem.Calls HandSHeadRun in
noncomputable def preR (w:World) (os:OsState):Option (Shared × Thread):=topGo treeTable PySem.Challenge.pw_ridepool_k03_texts_that_are_no_programs w 11 (some (Value.ref 6)) 12 ⟨boot_heap w.params,#[],boot_drawn,boot_toks,os⟩ (topStub PySem.Challenge.pw_ridepool_k03_texts_that_are_no_programs)
open PySem.W PySem.Calls HandSHeadRun in
noncomputable def Sa (w:World) (os:OsState):Shared:=match preR w os with
  | some (s,_)=>s
  | none=>⟨boot_heap w.params,#[],boot_drawn,boot_toks,os⟩
abbrev p0:Pos:={ line:=0,col:=0,endLine:=0,endCol:=0 }
abbrev pB:Pos:={ line:=0,col:=0,endLine:=0,endCol:=0 }
abbrev pK:Pos:={ line:=184,col:=0,endLine:=185,endCol:=55 }
open PySem.W in
def bE:List Stmt:=behindTheImports PySem.Challenge.pw_ridepool_k03_texts_that_are_no_programs
open PySem.W in
noncomputable abbrev SbT (w:World) (os:OsState):SharedT:={ tree:=T03top.tree_4 w.params,n:=15,life:={ },gens:={ toList:=[] },drawn:={ },toks:=187,os:=os }
open PySem.W in
noncomputable abbrev SkT (w:World) (os:OsState):SharedT:={ tree:=T03top.tree_306 w.params,n:=283,life:={ },gens:={ toList:=[] },drawn:={ },toks:=618,os:=os }
def rest:List Stmt:=PySem.Challenge.pw_ridepool_k03_texts_that_are_no_programs.main.body.drop (PySem.Challenge.pw_ridepool_k03_texts_that_are_no_programs.main.body.length - 21)
open PySem.W in
noncomputable abbrev tK:Thread:=restOf rest T03top.env_1 (Code.body bE T03top.env_1) pK [topFrame p0]
open PySem.W PySem.Calls HandSHeadRun in
theorem pre12 (w:World) (os:OsState):topGo treeTable PySem.Challenge.pw_ridepool_k03_texts_that_are_no_programs w 11 (some (Value.ref 6)) 12 ⟨boot_heap w.params,#[],boot_drawn,boot_toks,os⟩ (topStub PySem.Challenge.pw_ridepool_k03_texts_that_are_no_programs) = some (Sa w os,⟨denote treeTable (.body bE T03top.env_1),.body bE T03top.env_1,p0,[topFrame p0]⟩):=by
  kernel_rfl
open PySem.W PySem.Calls HandSHeadRun in
theorem block (w:World) (os:OsState):segRun treeTable PySem.Challenge.pw_ridepool_k03_texts_that_are_no_programs w 11 (some (Value.ref 6)) 1 1 (Sa w os) (blockOf bE T03top.env_1 (.body bE T03top.env_1) p0 [topFrame p0]) = some (.next,(SbT w os).abs,.body bE T03top.env_1,pB):=by
  kernel_rfl
theorem body_eq:T03top.sts_4 ++ (T03top.sts_28 ++ (T03top.sts_52 ++ (T03top.sts_76 ++ (T03top.sts_92 ++ (T03top.sts_110 ++ (T03top.sts_130 ++ (T03top.sts_196 ++ (T03top.sts_205 ++ (T03top.sts_298 ++ rest))))))))) = bE:=by
  kernel_rfl
theorem k_eq (n:Nat):12 + (1 + Nat.add 225 (Nat.add 248 (Nat.add 221 (Nat.add 214 (Nat.add 332 (Nat.add 296 (Nat.add 438 (Nat.add 48 (Nat.add 567 (Nat.add 31 (n))))))))))) = 2633 + n:=by
  simp only [Nat.add_eq]
  omega
open PySem.W PySem.Calls HandSHeadRun in
theorem mid (w:World) (os:OsState) (n:Nat) (r:Shared) (h:topRun treeTable PySem.Challenge.pw_ridepool_k03_texts_that_are_no_programs w 11 (some (Value.ref 6)) n (SkT w os).abs tK = some r):topRun treeTable PySem.Challenge.pw_ridepool_k03_texts_that_are_no_programs w 11 (some (Value.ref 6)) (2633 + n) ⟨boot_heap w.params,#[],boot_drawn,boot_toks,os⟩ (topStub PySem.Challenge.pw_ridepool_k03_texts_that_are_no_programs) = some r:=by
  exact mid_of (pre12 w os) (block w os) body_eq (T03top.chain PySem.Challenge.pw_ridepool_k03_texts_that_are_no_programs bE w os rest n r h) (k_eq n)
open PySem.W PySem.Calls HandSHeadRun in
theorem m0_ok (w:World):(boot_heap w.params).objs.size = 11 ∧ bootAnn w = (some (Value.ref 6)):=by
  refine ⟨?_,?_⟩
  · kernel_rfl
  · kernel_rfl
theorem run1 (w:World):RunM Rr.prog 14000 11 (some (Value.ref 6)) SkT (fun _ _=>tK) (fun w s=>HandSHeadRun.looksF Rr.prog (PySem.W.boot_heap w.params) s.abs) (fun _=>true) w:=by
  intro os
  kernel_rfl
theorem run2 (w:World):RunM Rr.prog 14000 11 (some (Value.ref 6)) SkT (fun _ _=>tK) (fun _ s=>HandSHeadRun.seenQ (PySem.W.view Rr.prog [51]) loose (PySem.importedModules Rr.prog.main.body) (fun s=>PySem.W.xlAt (PySem.W.view Rr.prog [51]) [] s && PySem.W.recOk Rr.toRowW.records s) s.abs) (fun _=>PySem.W.openGood (PySem.W.view Rr.prog [51]) loose) w:=by
  intro os
  kernel_rfl
theorem run3a (w:World):RunM Rr.prog 14000 11 (some (Value.ref 6)) SkT (fun _ _=>tK) (fun _ s=>fa.all fun f=>f.ok (He.frT (HandSHeadRun.getT s) asL)) (fun _=>true) w:=by
  intro os
  kernel_rfl
theorem run3b (w:World):RunM Rr.prog 14000 11 (some (Value.ref 6)) SkT (fun _ _=>tK) (fun _ s=>(fn.all fun d=>d.ok (He.frT (HandSHeadRun.getT s) asL),fn.map fun d=>He.fnW (He.frT (HandSHeadRun.getT s) asL) d.at_)) (fun _=>(true,fn.map He.DefD.val)) w:=by
  intro os
  kernel_rfl
theorem run3c (w:World):RunM Rr.prog 14000 11 (some (Value.ref 6)) SkT (fun _ _=>tK) (fun _ s=>(ts.map fun t=>He.dicW (He.frT (HandSHeadRun.getT s) asL) (t.1 (He.frT (HandSHeadRun.getT s) asL)),exB (He.frT (HandSHeadRun.getT s) asL))) (fun w=>(ts.map fun t=>some (He.keysIn w.params t.2),true)) w:=by
  intro os
  kernel_rfl
theorem run3 (w:World):RunM Rr.prog 14000 11 (some (Value.ref 6)) SkT (fun _ _=>tK) (fun _ s=>ob s) hk.val w:=hook_parts (run3a w) (run3b w) (run3c w)
end K03
section
open PySem PySem.W PySem.Calls PyProof.Rows
theorem K03.early (hc:WalkO (view (OpenLaw.row PySem.Challenge.rw_ridepool_k03_texts_that_are_no_programs).prog [51]) K03.loose (XL (view (OpenLaw.row PySem.Challenge.rw_ridepool_k03_texts_that_are_no_programs).prog [51]) []) K03.hk.says (OpenLaw.row PySem.Challenge.rw_ridepool_k03_texts_that_are_no_programs).toRowW (HandSHeadRun.topDef (OpenLaw.row PySem.Challenge.rw_ridepool_k03_texts_that_are_no_programs).prog 51) [] fun f vs=>PySem.call f vs):PySem.Challenge.rw_ridepool_k03_texts_that_are_no_programs.Holds:=by
  w_on; o_law
  refine Rp.head_mid (r:=OpenLaw.row PySem.Challenge.rw_ridepool_k03_texts_that_are_no_programs) (q:=view (OpenLaw.row PySem.Challenge.rw_ridepool_k03_texts_that_are_no_programs).prog [51]) (H:=K03.hk) (ob:=K03.ob) (M:=14000) (K:=2633) (m0:=11) (ann:=(some (Value.ref 6))) (Sk:=K03.SkT) (tk:=fun _ _=>K03.tK) (loose:=K03.loose) (d:=HandSHeadRun.topDef (OpenLaw.row PySem.Challenge.rw_ridepool_k03_texts_that_are_no_programs).prog 51) (kwd:=[]) K03.ob_eq
    (by kernel_rfl) (fun s=>by kernel_rfl) K03.m0_ok K03.mid K03.run1 K03.run2 K03.run3 (by kernel_rfl) (by kernel_rfl) (by kernel_rfl) (by rfl) (by first | assumption | decide +kernel) (by decide +kernel) ⟨rfl,rfl,rfl,rfl,rfl,by decide +kernel⟩ ?hw hc
  w_witness2
end
end
section
namespace K03
open PySem PySem.Spec PyProof.Rows L2 Rp
def cl:Nat → Str × List Str
  | 0=>("Reader",["found", "asked", "name", "rows", "nested"])
  | 1=>("Program",["rows", "later", "writ"])
  | _=>("",[])
def xtc (ca:Nat → Addr):XT:=fun i=>match i with
  | 0=>(ca 100,some "row")
  | _=>(0,none)
structure Gv (P:Program) (w:World) (K:PySem.W.Frag) (mg:Str → Option Value) (ca:Nat → Addr):Prop where
  b_all:mg "all" = none
  b_bool:mg "bool" = none
  b_enumerate:mg "enumerate" = none
  b_int:mg "int" = none
  b_isinstance:mg "isinstance" = none
  b_len:mg "len" = none
  b_list:mg "list" = none
  b_range:mg "range" = none
  b_str:mg "str" = none
  b_tuple:mg "tuple" = none
  b_zip:mg "zip" = none
  v_ALONE:GlobV ⟨K,w,mg,cl⟩ "ALONE" (.nod .tup [(.str "mark"),(.str "peek"),(.str "yield"),(.str "call"),(.str "fail"),(.str "hold"),(.str "try"),(.str "when")])
  v_BLOCKS:GlobV ⟨K,w,mg,cl⟩ "BLOCKS" (.nod .tup [(.str "lock"),(.str "hold"),(.str "bind"),(.str "loop"),(.str "try"),(.str "when")])
  v_LETTERS:GlobV ⟨K,w,mg,cl⟩ "LETTERS" (.str "abcdefghijklmnopqrstuvwxyz")
  v_LONGEST:GlobV ⟨K,w,mg,cl⟩ "LONGEST" (.int 8)
  v_MOST_DEEP:GlobV ⟨K,w,mg,cl⟩ "MOST_DEEP" (.int 4)
  v_MOST_ROWS:GlobV ⟨K,w,mg,cl⟩ "MOST_ROWS" (.int 24)
  v_MOST_TASKS:GlobV ⟨K,w,mg,cl⟩ "MOST_TASKS" (.int 4)
  v_OTHERS:GlobV ⟨K,w,mg,cl⟩ "OTHERS" (.nod .tup [(.str "start"),(.str "join")])
  v_PARTED:GlobV ⟨K,w,mg,cl⟩ "PARTED" (.nod .tup [(.str "try"),(.str "when")])
  v_SIGNS:GlobV ⟨K,w,mg,cl⟩ "SIGNS" (.nod (.tab [.inr "load",.inr "add",.inr "read",.inr "write",.inr "keep",.inr "own",.inr "ask",.inr "give",.inr "take",.inr "lock",.inr "bind",.inr "loop"]) [(.str "01234"),(.str "1234"),(.str "abcd"),(.str "abcd"),(.str "wxyz"),(.str "wxyz"),(.str "wxyz"),(.str "pq"),(.str "pq"),(.str "lm"),(.str "wxyz"),(.str "123")])
  c0:ClsF ⟨K,w,mg,cl⟩ 0 (ca 0)
  c1:ClsF ⟨K,w,mg,cl⟩ 1 (ca 1)
  xn0:XV K mg (ca 100) (ca 80) "BadProgram" "row"
  xvi0:∃ fd,FunD K "__init__" "BadProgram.__init__" (defArgs (inCls (top 3) 0)) (defBody (inCls (top 3) 0)) (defScope (inCls (top 3) 0)) [.int 0] [] (ca 80) fd
  xve:VeC K mg "RideError" (ca 98)
  my_BadProgram:mg "BadProgram" = some (.ref (ca 100))
  hx_BadProgram:∀ c,c < 1 → PySem.W.exmOne K (.ref (xtc ca c).1) (.ref (ca 100)) = some ((fun c=>([0]:List Nat).contains c) c)
  d__law_hat:∃ f fd,mg "_law_hat" = some (.ref f) ∧ FunD K "_law_hat" "_law_hat" (defArgs (top 32)) (defBody (top 32)) (defScope (top 32)) [] [] f fd
  d__law_take:∃ f fd,mg "_law_take" = some (.ref f) ∧ FunD K "_law_take" "_law_take" (defArgs (top 33)) (defBody (top 33)) (defScope (top 33)) [] [] f fd
  d__law_words:∃ f fd,mg "_law_words" = some (.ref f) ∧ FunD K "_law_words" "_law_words" (defArgs (top 41)) (defBody (top 41)) (defScope (top 41)) [] [] f fd
  d__law_names:∃ f fd,mg "_law_names" = some (.ref f) ∧ FunD K "_law_names" "_law_names" (defArgs (top 36)) (defBody (top 36)) (defScope (top 36)) [] [] f fd
  d__law_of:∃ f fd,mg "_law_of" = some (.ref f) ∧ FunD K "_law_of" "_law_of" (defArgs (top 34)) (defBody (top 34)) (defScope (top 34)) [] [] f fd
  d__law_blocks:∃ f fd,mg "_law_blocks" = some (.ref f) ∧ FunD K "_law_blocks" "_law_blocks" (defArgs (top 38)) (defBody (top 38)) (defScope (top 38)) [] [] f fd
  d__law_thing:∃ f fd,mg "_law_thing" = some (.ref f) ∧ FunD K "_law_thing" "_law_thing" (defArgs (top 37)) (defBody (top 37)) (defScope (top 37)) [] [] f fd
  d__law_statement:∃ f fd,mg "_law_statement" = some (.ref f) ∧ FunD K "_law_statement" "_law_statement" (defArgs (top 39)) (defBody (top 39)) (defScope (top 39)) [] [] f fd
  d__law_list:∃ f fd,mg "_law_list" = some (.ref f) ∧ FunD K "_law_list" "_law_list" (defArgs (top 40)) (defBody (top 40)) (defScope (top 40)) [] [] f fd
  d__law_plan:∃ f fd,mg "_law_plan" = some (.ref f) ∧ FunD K "_law_plan" "_law_plan" (defArgs (top 42)) (defBody (top 42)) (defScope (top 42)) [] [] f fd
  d__law_rows_of:∃ f fd,mg "_law_rows_of" = some (.ref f) ∧ FunD K "_law_rows_of" "_law_rows_of" (defArgs (top 43)) (defBody (top 43)) (defScope (top 43)) [] [] f fd
  d__law_text:∃ f fd,mg "_law_text" = some (.ref f) ∧ FunD K "_law_text" "_law_text" (defArgs (top 44)) (defBody (top 44)) (defScope (top 44)) [] [] f fd
  d__law_spoilt:∃ f fd,mg "_law_spoilt" = some (.ref f) ∧ FunD K "_law_spoilt" "_law_spoilt" (defArgs (top 50)) (defBody (top 50)) (defScope (top 50)) [] [] f fd
  d__law_good_name:∃ f fd,mg "_law_good_name" = some (.ref f) ∧ FunD K "_law_good_name" "_law_good_name" (defArgs (top 45)) (defBody (top 45)) (defScope (top 45)) [] [] f fd
  d__law_good_row:∃ f fd,mg "_law_good_row" = some (.ref f) ∧ FunD K "_law_good_row" "_law_good_row" (defArgs (top 46)) (defBody (top 46)) (defScope (top 46)) [] [] f fd
  d__law_taken:∃ f fd,mg "_law_taken" = some (.ref f) ∧ FunD K "_law_taken" "_law_taken" (defArgs (top 47)) (defBody (top 47)) (defScope (top 47)) [] [] f fd
  d__law_bad_row:∃ f fd,mg "_law_bad_row" = some (.ref f) ∧ FunD K "_law_bad_row" "_law_bad_row" (defArgs (top 48)) (defBody (top 48)) (defScope (top 48)) [] [] f fd
  d_Reader_init:∃ f fd,Mk K (ca 0) f ∧ FunD K "__init__" "Reader.__init__" (defArgs (inCls (top 25) 0)) (defBody (inCls (top 25) 0)) (defScope (inCls (top 25) 0)) [] [] f fd
  d_is_name:∃ f fd,mg "is_name" = some (.ref f) ∧ FunD K "is_name" "is_name" (defArgs (top 22)) (defBody (top 22)) (defScope (top 22)) [] [] f fd
  d_Reader_beginX:∃ f fd,Meth K (ca 0) "begin" f ∧ FunD K "begin" "Reader.begin" (defArgs (inCls (top 25) 2)) (defBody (inCls (top 25) 2)) (defScope (inCls (top 25) 2)) [] [] f fd
  d_Reader_close:∃ f fd,Meth K (ca 0) "close" f ∧ FunD K "close" "Reader.close" (defArgs (inCls (top 25) 5)) (defBody (inCls (top 25) 5)) (defScope (inCls (top 25) 5)) [] [] f fd
  d_Reader_turnX:∃ f fd,Meth K (ca 0) "turn" f ∧ FunD K "turn" "Reader.turn" (defArgs (inCls (top 25) 4)) (defBody (inCls (top 25) 4)) (defScope (inCls (top 25) 4)) [] [] f fd
  d_is_row:∃ f fd,mg "is_row" = some (.ref f) ∧ FunD K "is_row" "is_row" (defArgs (top 23)) (defBody (top 23)) (defScope (top 23)) [] [] f fd
  d_Reader_plainX:∃ f fd,Meth K (ca 0) "plain" f ∧ FunD K "plain" "Reader.plain" (defArgs (inCls (top 25) 3)) (defBody (inCls (top 25) 3)) (defScope (inCls (top 25) 3)) [] [] f fd
  d_Reader_takeX:∃ f fd,Meth K (ca 0) "take" f ∧ FunD K "take" "Reader.take" (defArgs (inCls (top 25) 1)) (defBody (inCls (top 25) 1)) (defScope (inCls (top 25) 1)) [] [] f fd
  d_Reader_endX:∃ f fd,Meth K (ca 0) "end" f ∧ FunD K "end" "Reader.end" (defArgs (inCls (top 25) 6)) (defBody (inCls (top 25) 6)) (defScope (inCls (top 25) 6)) [] [] f fd
  d_read_stepsX:∃ f fd,mg "read_steps" = some (.ref f) ∧ FunD K "read_steps" "read_steps" (defArgs (top 26)) (defBody (top 26)) (defScope (top 26)) [] [] f fd
  d_Program_init_X:∃ f fd,Mk K (ca 1) f ∧ FunD K "__init__" "Program.__init__" (defArgs (inCls (top 29) 0)) (defBody (inCls (top 29) 0)) (defScope (inCls (top 29) 0)) [] [] f fd
  d__law_read:∃ f fd,mg "_law_read" = some (.ref f) ∧ FunD K "_law_read" "_law_read" (defArgs (top 49)) (defBody (top 49)) (defScope (top 49)) [] [] f fd
  d__law_same:∃ f fd,mg "_law_same" = some (.ref f) ∧ FunD K "_law_same" "_law_same" (defArgs (top 35)) (defBody (top 35)) (defScope (top 35)) [] [] f fd
  d_Program_str:∃ f fd,Meth K (ca 1) "__str__" f ∧ FunD K "__str__" "Program.__str__" (defArgs (inCls (top 29) 3)) (defBody (inCls (top 29) 3)) (defScope (inCls (top 29) 3)) [] [] f fd
  d_law:∃ f fd,mg "law" = some (.ref f) ∧ FunD K "law" "law" (defArgs (top 51)) (defBody (top 51)) (defScope (top 51)) [] [] f fd
theorem sc_xvi0:FnScope ["self", "row"] ["self", "row"] (defScope (inCls (top 3) 0)):=⟨rfl,rfl,rfl,by decide +kernel,rfl,by decide +kernel,by decide +kernel⟩
abbrev FunX (K:PySem.W.Frag) (x q:Str) (t:Stmt) (f:Addr) (fd:FuncData):Prop:=FunD K x q (defArgs t) (defBody t) (defScope t) [] [] f fd
variable {P:Program} {w:World} {K:PySem.W.Frag} {mg:Str → Option Value} {base:Heap} {ca:Nat → Addr}
theorem xf_0 (g:Gv P w K mg ca):XFactV P w K mg base (xtc ca) 0 "BadProgram" "row" := by
  obtain ⟨h1,h2,h3,h4,h5,h6⟩:=g.xn0
  obtain ⟨fd,F⟩:=g.xvi0
  obtain ⟨ds,hds,hb⟩:=F.binds1 (ps:=["self", "row"]) 2 1 (by simp) rfl (fun T kV doc pm an cdv ct us its h1 h2=>match us,its,h1,h2 with | [_,_],[_],_,_=>⟨_,rfl,rfl⟩)
  have hds2:Vals [] ds:=hds
  cases hds2
  exact ⟨ca 100,ca 80,fd,_,rfl,h1,h2,h4,h5,h6,vi_ok (m := "no program at row ") F sc_xvi0 (by decide +kernel) fun cdv A outer s H E=>vi_body g.xve rfl rfl (.inl rfl) (.inl rfl) rfl,hb⟩
theorem xfl_BadProgram {ca:Nat → Addr}:∀ c,c < 1 → (fun c=>([0]:List Nat).contains c) c = true → (xtc ca c).2 = some "row" := by
  intro c hc hh
  rcases (by omega:c = 0) with rfl
  · rfl
theorem xT_BadProgram {P:Program} {w:World} {K:PySem.W.Frag} {mg:Str → Option Value} {ca:Nat → Addr} (g:Gv P w K mg ca):∀ c,c < 1 → (fun c=>([0]:List Nat).contains c) c = true → XfC K (xtc ca c).1 ∧ PySem.W.findIn K (.ref (xtc ca c).1) "row" = some none:=by
  intro c hc hh
  rcases (by omega:c = 0) with rfl
  · exact ⟨g.xn0.2.2.1,g.xn0.2.2.2.1⟩
def B__law_hat:AS :=
  (aRet (aArgs (mkM .lst) (aCons (aArgs (one (aListV mkF)) (aCons (aSlice mkF (aVar 0) aNo (aPart (aC (.int 63)))) aNil)) (aCons (aC (.int 0)) (aCons (aC (.int 0)) (aCons (aC (.int 977)) aNil))))))
theorem sc__law_hat:FnScope ["_law_script"] ["_law_script"] (defScope (top 32)):=⟨rfl,rfl,rfl,by decide +kernel,rfl,by decide +kernel,by decide +kernel⟩
def F__law_hat:AF:=lenF 1 (fnA 1 B__law_hat)
theorem ok__law_hat (g:Gv P w K mg ca) {f:Addr} {fd:FuncData} (F:FunX K "_law_hat" "_law_hat" (top 32) f fd):FnOk P w K mg base CX0 1 f fd ["_law_script"] (spA ⟨K,w,mg,cl⟩ 1 F__law_hat):=by
  refine fn_ok F sc__law_hat 1 1 rfl rfl B__law_hat fun cdv A outer s H E hr hu=>?_
  exact (as_one (as_ret (ae_lstM (aa_cons (w_list (.inl rfl) g.b_list (aa_cons (ae_slice (.inl rfl) (ae_var 0) ao_none (ao_some ae_int)) aa_nil)) (aa_cons ae_int (aa_cons ae_int (aa_cons ae_int aa_nil)))))))
theorem cal__law_hat (g:Gv P w K mg ca):CalF P w K mg base cl (1) "_law_hat" 1 [] F__law_hat:=by
  obtain ⟨f,fd,hm,F⟩:=g.d__law_hat
  exact ⟨f,fd,_,[],[],hm,F.kp,(ok__law_hat g F),(F.bindsN fun _ _ _ _ _ _ us hl=>match us,hl with | [_],_=>rfl),.nil,fun _=>rfl⟩
def B__law_take:AS :=
  (aSeq (aIfS (aAnd (aTst (aOp2 aLt (aOp2 aIx (aVar 0) (aC (.int 2))) (aVar 1))) (aTst (aOp2 aLt (aOp2 aIx (aVar 0) (aC (.int 1))) (aArgs (one aLenV) (aCons (aOp2 aIx (aVar 0) (aC (.int 0))) aNil))))) (aSeq (aAsg (aOp2 aIx (aOp2 aIx (aVar 0) (aC (.int 0))) (aOp2 aIx (aVar 0) (aC (.int 1)))) (gNm 2))
    (aSeq (aAsg (aOp2 aAdd (aOp2 aIx (aVar 0) (aC (.int 1))) (aC (.int 1))) (gIx (aVar 0) (aC (.int 1))))
    (aSeq (aAsg (aOp2 aMod (aOp2 aAdd (aOp2 aAdd (aOp2 aMul (aOp2 aIx (aVar 0) (aC (.int 3))) (aC (.int 52391))) (aOp2 aMul (aVar 2) (aC (.int 31)))) (aOp2 aIx (aVar 0) (aC (.int 1)))) (aC (.int 2305843009213693951))) (gIx (aVar 0) (aC (.int 3))))
    (aAsg (aIf (aTst (aOp2 aGe (aVar 2) (aOp2 aPow (aC (.int 10)) (aC (.int 18))))) (aVar 2) (aC (.int 0))) (gIx (aVar 0) (aC (.int 2))))))) aPass)
    (aSeq (aIfS (aTst (aOp2 aGe (aOp2 aIx (aVar 0) (aC (.int 2))) (aVar 1))) (aSeq (aAsg (aOp2 aMod (aOp2 aIx (aVar 0) (aC (.int 2))) (aVar 1)) (gNm 3))
    (aSeq (aAsg (aOp2 aDiv (aOp2 aIx (aVar 0) (aC (.int 2))) (aVar 1)) (gIx (aVar 0) (aC (.int 2))))
    (aRet (aVar 3)))) aPass)
    (aSeq (aAsg (aOp2 aMod (aOp2 aMul (aOp2 aIx (aVar 0) (aC (.int 3))) (aOp2 aIx (aVar 0) (aC (.int 3)))) (aC (.int 2305843009213693951))) (gNm 4))
    (aSeq (aAsg (aOp2 aMod (aOp2 aAdd (aOp2 aAdd (aOp2 aMul (aVar 4) (aC (.int 48271))) (aOp2 aMul (aOp2 aIx (aVar 0) (aC (.int 3))) (aC (.int 16807)))) (aC (.int 12345))) (aC (.int 2305843009213693951))) (gIx (aVar 0) (aC (.int 3))))
    (aRet (aOp2 aMod (aOp2 aDiv (aOp2 aIx (aVar 0) (aC (.int 3))) (aC (.int 1021))) (aVar 1)))))))
theorem sc__law_take:FnScope ["_law_hat_here", "_law_many", "_law_cell", "_law_digit", "_law_mixed"] ["_law_hat_here", "_law_many"] (defScope (top 33)):=⟨rfl,rfl,rfl,by decide +kernel,rfl,by decide +kernel,by decide +kernel⟩
def F__law_take:AF:=lenF 2 (fnA 5 B__law_take)
theorem ok__law_take (g:Gv P w K mg ca) {f:Addr} {fd:FuncData} (F:FunX K "_law_take" "_law_take" (top 33) f fd):FnOk P w K mg base CX0 1 f fd ["_law_hat_here", "_law_many"] (spA ⟨K,w,mg,cl⟩ 2 F__law_take):=by
  refine fn_ok F sc__law_take 5 2 rfl rfl B__law_take fun cdv A outer s H E hr hu=>?_
  have hN:=sc__law_take.nd
  exact (as_cons (as_if (PW.pt (aw_and (at_cmp op_lt s_lt (ae_ix hu (ae_var 0) ae_int) (ae_var 1)) (aw_and1 (at_cmp op_lt s_lt (ae_ix hu (ae_var 0) ae_int) (w_len g.b_len (aa_cons (ae_ix hu (ae_var 0) ae_int) aa_nil)))))) (as_cons (as_set 2 hN (ae_ix hu (ae_ix hu (ae_var 0) ae_int) (ae_ix hu (ae_var 0) ae_int)))
    (as_cons (as_asg (ae_add (ae_ix hu (ae_var 0) ae_int) ae_int) (ag_ix hu (ae_var 0) ae_int (h:=fun h1 h2 h3=>pg_sub h1 h2 h3)))
    (as_cons (as_asg (ae_mod (ae_add (ae_add (ae_mul (ae_ix hu (ae_var 0) ae_int) ae_int) (ae_mul (ae_var 2) ae_int)) (ae_ix hu (ae_var 0) ae_int)) ae_int) (ag_ix hu (ae_var 0) ae_int (h:=fun h1 h2 h3=>pg_sub h1 h2 h3)))
    (as_one (as_asg (ae_ife (at_cmp op_ge s_ge (ae_var 2) (ae_pow ae_int ae_int)) (ae_var 2) ae_int) (ag_ix hu (ae_var 0) ae_int (h:=fun h1 h2 h3=>pg_sub h1 h2 h3))))))) as_nil)
    (as_cons (as_if (at_cmp op_ge s_ge (ae_ix hu (ae_var 0) ae_int) (ae_var 1)) (as_cons (as_set 3 hN (ae_mod (ae_ix hu (ae_var 0) ae_int) (ae_var 1)))
    (as_cons (as_asg (ae_div (ae_ix hu (ae_var 0) ae_int) (ae_var 1)) (ag_ix hu (ae_var 0) ae_int (h:=fun h1 h2 h3=>pg_sub h1 h2 h3)))
    (as_one (as_ret (ae_var 3))))) as_nil)
    (as_cons (as_set 4 hN (ae_mod (ae_mul (ae_ix hu (ae_var 0) ae_int) (ae_ix hu (ae_var 0) ae_int)) ae_int))
    (as_cons (as_asg (ae_mod (ae_add (ae_add (ae_mul (ae_var 4) ae_int) (ae_mul (ae_ix hu (ae_var 0) ae_int) ae_int)) ae_int) ae_int) (ag_ix hu (ae_var 0) ae_int (h:=fun h1 h2 h3=>pg_sub h1 h2 h3)))
    (as_one (as_ret (ae_mod (ae_div (ae_ix hu (ae_var 0) ae_int) ae_int) (ae_var 1))))))))
theorem cal__law_take (g:Gv P w K mg ca):CalF P w K mg base cl (1) "_law_take" 2 [] F__law_take:=by
  obtain ⟨f,fd,hm,F⟩:=g.d__law_take
  exact ⟨f,fd,_,[],[],hm,F.kp,(ok__law_take g F),(F.bindsN fun _ _ _ _ _ _ us hl=>match us,hl with | [_,_],_=>rfl),.nil,fun _=>rfl⟩
def B__law_words:AS :=
  (aSeq (aAsg (aC (.str "load add read write keep own ask give take yield call fail start join mark peek")) (gNm 0))
    (aSeq (aAsg (aOp2 aAdd (aVar 0) (aC (.str " lock hold bind loop try when load add lock hold"))) (gNm 0))
    (aRet (aBM "str" (aSplit mkF) (aVar 0) (aCons (aC (.str " ")) aNil)))))
theorem sc__law_words:FnScope ["_law_words_here"] [] (defScope (top 41)):=⟨rfl,rfl,rfl,by decide +kernel,rfl,by decide +kernel,by decide +kernel⟩
def F__law_words:AF:=lenF 0 (fnA 1 B__law_words)
theorem ok__law_words (g:Gv P w K mg ca) {f:Addr} {fd:FuncData} (F:FunX K "_law_words" "_law_words" (top 41) f fd):FnOk P w K mg base CX0 1 f fd [] (spA ⟨K,w,mg,cl⟩ 0 F__law_words):=by
  refine fn_ok F sc__law_words 1 0 rfl rfl B__law_words fun cdv A outer s H E hr hu=>?_
  have hN:=sc__law_words.nd
  exact (as_cons (as_set 0 hN ae_str)
    (as_cons (as_set 0 hN (ae_add (ae_var 0) ae_str))
    (as_one (as_ret ((w_split (.inl rfl)) (ae_var 0) (aa_cons ae_str aa_nil))))))
theorem cal__law_words (g:Gv P w K mg ca):CalF P w K mg base cl (1) "_law_words" 0 [] F__law_words:=by
  obtain ⟨f,fd,hm,F⟩:=g.d__law_words
  exact ⟨f,fd,_,[],[],hm,F.kp,(ok__law_words g F),(F.bindsN fun _ _ _ _ _ _ us hl=>match us,hl with | [],_=>rfl),.nil,fun _=>rfl⟩
def B__law_names:AS :=
  (aSeq (aAsg (aOp2 aIx (aArgs (mkF .lst) (aCons (aC (.str "")) (aCons (aC (.str "x")) (aCons (aC (.str "pear")) (aCons (aC (.str "aaaaaaa")) (aCons (aC (.str "qzqz")) (aCons (aC (.str "bb")) (aCons (aC (.str "tree")) aNil)))))))) (aCall F__law_take [] (aCons (aVar 0) (aCons (aC (.int 7)) aNil)))) (gNm 2))
    (aSeq (aAsg (aCall F__law_take [] (aCons (aVar 0) (aCons (aOp2 aAdd (aArgs (one aLenV) (aCons (aVar 2) aNil)) (aC (.int 1))) aNil))) (gNm 3))
    (aSeq (aAsg (aCall F__law_take [] (aCons (aVar 0) (aCons (aC (.int 26)) aNil))) (gNm 4))
    (aSeq (aAsg (aOp2 aIx (aArgs (mkF .lst) (aCons (aC (.int 1)) (aCons (aC (.int 3)) (aCons (aC (.int 5)) (aCons (aC (.int 7)) (aCons (aC (.int 9)) (aCons (aC (.int 11)) aNil))))))) (aCall F__law_take [] (aCons (aVar 0) (aCons (aC (.int 6)) aNil)))) (gNm 5))
    (aSeq (aAsg (aArgs (mkM .lst) aNil) (gNm 6))
    (aSeq (aFor (sRng1 (aCons (aVar 1) aNil)) (gNm 7) (aSeq (aAsg (aOp2 aIx (aC (.str "abcdefghijklmnopqrstuvwxyz")) (aOp2 aMod (aOp2 aAdd (aVar 4) (aOp2 aMul (aVar 5) (aVar 7))) (aC (.int 26)))) (gNm 8))
    (aExp (aBM "list" aAppend (aVar 6) (aCons (aOp2 aAdd (aOp2 aAdd (aSlice mkF (aVar 2) aNo (aPart (aVar 3))) (aVar 8)) (aSlice mkF (aVar 2) (aPart (aVar 3)) aNo)) aNil)))))
    (aRet (aFrz 1 (aVar 6)))))))))
theorem sc__law_names:FnScope ["_law_hat_here", "_law_many", "_law_tail", "_law_at", "_law_begin", "_law_pace", "_law_found", "_law_k", "_law_sign"] ["_law_hat_here", "_law_many"] (defScope (top 36)):=⟨rfl,rfl,rfl,by decide +kernel,rfl,by decide +kernel,by decide +kernel⟩
def F__law_names:AF:=lenF 2 (fnA 9 B__law_names)
theorem ok__law_names (g:Gv P w K mg ca) {f:Addr} {fd:FuncData} (F:FunX K "_law_names" "_law_names" (top 36) f fd):FnOk P w K mg base CX0 2 f fd ["_law_hat_here", "_law_many"] (spA ⟨K,w,mg,cl⟩ 2 F__law_names):=by
  refine fn_ok F sc__law_names 9 2 rfl rfl B__law_names fun cdv A outer s H E hr hu=>?_
  have hN:=sc__law_names.nd
  have hc:(cxOf CX0 P w K mg base ["_law_hat_here", "_law_many", "_law_tail", "_law_at", "_law_begin", "_law_pace", "_law_found", "_law_k", "_law_sign"] "_law_names" (defScope (top 36)) f cdv A outer s H E).nox.calm = true:=rfl
  exact (as_cons (as_set 2 hN (ae_ix hu (ae_lstF (aa_cons ae_str (aa_cons ae_str (aa_cons ae_str (aa_cons ae_str (aa_cons ae_str (aa_cons ae_str (aa_cons ae_str aa_nil)))))))) (ae_call (cal__law_take g) (hr.mono (by omega)) (aa_cons (ae_var 0) (aa_cons ae_int aa_nil)))))
    (as_cons (as_set 3 hN (ae_call (cal__law_take g) (hr.mono (by omega)) (aa_cons (ae_var 0) (aa_cons (ae_add (w_len g.b_len (aa_cons (ae_var 2) aa_nil)) ae_int) aa_nil))))
    (as_cons (as_set 4 hN (ae_call (cal__law_take g) (hr.mono (by omega)) (aa_cons (ae_var 0) (aa_cons ae_int aa_nil))))
    (as_cons (as_set 5 hN (ae_ix hu (ae_lstF (aa_cons ae_int (aa_cons ae_int (aa_cons ae_int (aa_cons ae_int (aa_cons ae_int (aa_cons ae_int aa_nil))))))) (ae_call (cal__law_take g) (hr.mono (by omega)) (aa_cons (ae_var 0) (aa_cons ae_int aa_nil)))))
    (as_cons (as_set 6 hN (ae_lstM aa_nil))
    (as_cons (as_for PassesOwn.never hc (ai_range1 rfl g.b_range (aa_cons (ae_var 1) aa_nil)) (ag_name 7 hN) (as_cons (as_set 8 hN (ae_ix hu ae_str (ae_mod (ae_add (ae_var 4) (ae_mul (ae_var 5) (ae_var 7))) ae_int)))
    (as_one (as_expr (w_append (ae_var 6) (aa_cons (ae_add (ae_add (ae_slice (.inl rfl) (ae_var 2) ao_none (ao_some (ae_var 3))) (ae_var 8)) (ae_slice (.inl rfl) (ae_var 2) (ao_some (ae_var 3)) ao_none)) aa_nil))))))
    (as_one (as_ret (ae_frz 1 (ae_var 6))))))))))
theorem cal__law_names (g:Gv P w K mg ca):CalF P w K mg base cl (2) "_law_names" 2 [] F__law_names:=by
  obtain ⟨f,fd,hm,F⟩:=g.d__law_names
  exact ⟨f,fd,_,[],[],hm,F.kp,(ok__law_names g F),(F.bindsN fun _ _ _ _ _ _ us hl=>match us,hl with | [_,_],_=>rfl),.nil,fun _=>rfl⟩
def B__law_of:AS :=
  (aRet (aOp2 aIx (aVar 1) (aCall F__law_take [] (aCons (aVar 0) (aCons (aArgs (one aLenV) (aCons (aVar 1) aNil)) aNil)))))
theorem sc__law_of:FnScope ["_law_hat_here", "_law_some"] ["_law_hat_here", "_law_some"] (defScope (top 34)):=⟨rfl,rfl,rfl,by decide +kernel,rfl,by decide +kernel,by decide +kernel⟩
def F__law_of:AF:=lenF 2 (fnA 2 B__law_of)
theorem ok__law_of (g:Gv P w K mg ca) {f:Addr} {fd:FuncData} (F:FunX K "_law_of" "_law_of" (top 34) f fd):FnOk P w K mg base CX0 2 f fd ["_law_hat_here", "_law_some"] (spA ⟨K,w,mg,cl⟩ 2 F__law_of):=by
  refine fn_ok F sc__law_of 2 2 rfl rfl B__law_of fun cdv A outer s H E hr hu=>?_
  exact (as_one (as_ret (ae_ix hu (ae_var 1) (ae_call (cal__law_take g) (hr.mono (by omega)) (aa_cons (ae_var 0) (aa_cons (w_len g.b_len (aa_cons (ae_var 1) aa_nil)) aa_nil))))))
theorem cal__law_of (g:Gv P w K mg ca):CalF P w K mg base cl (2) "_law_of" 2 [] F__law_of:=by
  obtain ⟨f,fd,hm,F⟩:=g.d__law_of
  exact ⟨f,fd,_,[],[],hm,F.kp,(ok__law_of g F),(F.bindsN fun _ _ _ _ _ _ us hl=>match us,hl with | [_,_],_=>rfl),.nil,fun _=>rfl⟩
def B__law_blocks:AS :=
  (aRet (aArgs (mkF .lst) (aCons (aC (.str "lock")) (aCons (aC (.str "hold")) (aCons (aC (.str "bind")) (aCons (aC (.str "loop")) (aCons (aC (.str "try")) (aCons (aC (.str "when")) aNil))))))))
theorem sc__law_blocks:FnScope [] [] (defScope (top 38)):=⟨rfl,rfl,rfl,by decide +kernel,rfl,by decide +kernel,by decide +kernel⟩
def F__law_blocks:AF:=lenF 0 (fnA 0 B__law_blocks)
theorem ok__law_blocks (g:Gv P w K mg ca) {f:Addr} {fd:FuncData} (F:FunX K "_law_blocks" "_law_blocks" (top 38) f fd):FnOk P w K mg base CX0 1 f fd [] (spA ⟨K,w,mg,cl⟩ 0 F__law_blocks):=by
  refine fn_ok F sc__law_blocks 0 0 rfl rfl B__law_blocks fun cdv A outer s H E hr hu=>?_
  exact (as_one (as_ret (ae_lstF (aa_cons ae_str (aa_cons ae_str (aa_cons ae_str (aa_cons ae_str (aa_cons ae_str (aa_cons ae_str aa_nil)))))))))
theorem cal__law_blocks (g:Gv P w K mg ca):CalF P w K mg base cl (1) "_law_blocks" 0 [] F__law_blocks:=by
  obtain ⟨f,fd,hm,F⟩:=g.d__law_blocks
  exact ⟨f,fd,_,[],[],hm,F.kp,(ok__law_blocks g F),(F.bindsN fun _ _ _ _ _ _ us hl=>match us,hl with | [],_=>rfl),.nil,fun _=>rfl⟩
def B__law_thing:AS :=
  (aSeq (aAsg (aDisp [((aC (.str "load")),(aC (.str "01234"))),((aC (.str "add")),(aC (.str "1234"))),((aC (.str "loop")),(aC (.str "123"))),((aC (.str "lock")),(aC (.str "lm"))),((aC (.str "give")),(aC (.str "pq"))),((aC (.str "take")),(aC (.str "pq")))]) (gNm 3))
    (aSeq (aExp (aUpd (aVar 3) (aDisp [((aC (.str "read")),(aC (.str "aabcd"))),((aC (.str "write")),(aC (.str "aabcd"))),((aC (.str "keep")),(aC (.str "wwxyz"))),((aC (.str "own")),(aC (.str "wwxyz")))])))
    (aSeq (aExp (aUpd (aVar 3) (aDisp [((aC (.str "ask")),(aC (.str "wwxyz"))),((aC (.str "bind")),(aC (.str "wwxyz"))),((aC (.str "start")),(aVar 2)),((aC (.str "join")),(aVar 2))])))
    (aSeq (aAsg (aGet2 (aVar 3) (aVar 1) (aArgs (mkF .lst) (aCons (aC .non) aNil))) (gNm 4))
    (aRet (aIf (aTst (aOp2 aGt (aArgs (one aLenV) (aCons (aVar 4) aNil)) (aC (.int 0)))) (aCall F__law_of [] (aCons (aVar 0) (aCons (aVar 4) aNil))) (aC (.str ""))))))))
theorem sc__law_thing:FnScope ["_law_hat_here", "_law_word", "_law_others", "_law_some", "_law_row"] ["_law_hat_here", "_law_word", "_law_others"] (defScope (top 37)):=⟨rfl,rfl,rfl,by decide +kernel,rfl,by decide +kernel,by decide +kernel⟩
def F__law_thing:AF:=lenF 3 (fnA 5 B__law_thing)
theorem ok__law_thing (g:Gv P w K mg ca) {f:Addr} {fd:FuncData} (F:FunX K "_law_thing" "_law_thing" (top 37) f fd):FnOk P w K mg base CX0 3 f fd ["_law_hat_here", "_law_word", "_law_others"] (spA ⟨K,w,mg,cl⟩ 3 F__law_thing):=by
  refine fn_ok F sc__law_thing 5 3 rfl rfl B__law_thing fun cdv A outer s H E hr hu=>?_
  have hN:=sc__law_thing.nd
  exact (as_cons (as_set 3 hN (ae_disp (.cons ae_str ae_str (.cons ae_str ae_str (.cons ae_str ae_str (.cons ae_str ae_str (.cons ae_str ae_str (.cons ae_str ae_str .nil))))))))
    (as_cons (as_expr (ae_update (ae_var 3) (ae_disp (.cons ae_str ae_str (.cons ae_str ae_str (.cons ae_str ae_str (.cons ae_str ae_str .nil)))))))
    (as_cons (as_expr (ae_update (ae_var 3) (ae_disp (.cons ae_str ae_str (.cons ae_str ae_str (.cons ae_str (ae_var 2) (.cons ae_str (ae_var 2) .nil)))))))
    (as_cons (as_set 4 hN (ae_get2 hu (ae_var 3) (ae_var 1) (ae_lstF (aa_cons ae_non aa_nil))))
    (as_one (as_ret (ae_ife (at_cmp op_gt s_gt (w_len g.b_len (aa_cons (ae_var 4) aa_nil)) ae_int) (ae_call (cal__law_of g) (hr.mono (by omega)) (aa_cons (ae_var 0) (aa_cons (ae_var 4) aa_nil))) ae_str)))))))
theorem cal__law_thing (g:Gv P w K mg ca):CalF P w K mg base cl (3) "_law_thing" 3 [] F__law_thing:=by
  obtain ⟨f,fd,hm,F⟩:=g.d__law_thing
  exact ⟨f,fd,_,[],[],hm,F.kp,(ok__law_thing g F),(F.bindsN fun _ _ _ _ _ _ us hl=>match us,hl with | [_,_,_],_=>rfl),.nil,fun _=>rfl⟩
def B__law_statement (R__law_statement R__law_list:AF):AS :=
  (aSeq (aAsg (aCall F__law_of [] (aCons (aVar 0) (aCons (aVar 1) aNil))) (gNm 5))
    (aSeq (aIfS (aAnd (aTst (aOp2 aIn (aVar 5) (aCall F__law_blocks [] aNil))) (aOr (aTst (aOp2 aGt (aVar 3) (aC (.int 3)))) (aTst (aOp2 aLt (aOp2 aIx (aVar 4) (aC (.int 0))) (aC (.int 4)))))) (aAsg (aC (.str "add")) (gNm 5)) aPass)
    (aSeq (aAsg (aCall F__law_thing [] (aCons (aVar 0) (aCons (aVar 5) (aCons (aVar 2) aNil)))) (gNm 6))
    (aSeq (aIfS (aTst (aOp2 aEq (aVar 6) (aC (.str "")))) (aAsg (aArgs (mkF .tup) (aCons (aC (.str "yield")) (aCons (aC .non) aNil))) (gSq 2 (gsCons (gNm 5) (gsCons (gNm 6) gsNil)))) aPass)
    (aSeq (aAsg (aOp2 aSub (aOp2 aIx (aVar 4) (aC (.int 0))) (aC (.int 1))) (gIx (aVar 4) (aC (.int 0))))
    (aSeq (aIfS (aTst (aOp2 aNotIn (aVar 5) (aCall F__law_blocks [] aNil))) (aRet (aArgs (mkF .tup) (aCons (aVar 5) (aCons (aVar 6) aNil)))) aPass)
    (aSeq (aAsg (aOp2 aSub (aOp2 aIx (aVar 4) (aC (.int 0))) (aC (.int 2))) (gIx (aVar 4) (aC (.int 0))))
    (aSeq (aAsg (aCall (lenF 6 (R__law_list)) [] (aCons (aVar 0) (aCons (aVar 1) (aCons (aVar 2) (aCons (aOp2 aAdd (aVar 3) (aC (.int 1))) (aCons (aVar 4) (aCons (aC (.int 3)) aNil))))))) (gNm 7))
    (aSeq (aAsg (aC .non) (gNm 8))
    (aSeq (aIfS (aAnd (aTst (aOp2 aIn (aVar 5) (aArgs (mkF .tup) (aCons (aC (.str "try")) (aCons (aC (.str "when")) aNil))))) (aTst (aOp2 aEq (aCall F__law_take [] (aCons (aVar 0) (aCons (aC (.int 2)) aNil))) (aC (.int 0))))) (aAsg (aCall (lenF 6 (R__law_list)) [] (aCons (aVar 0) (aCons (aVar 1) (aCons (aVar 2) (aCons (aOp2 aAdd (aVar 3) (aC (.int 1))) (aCons (aVar 4) (aCons (aC (.int 2)) aNil))))))) (gNm 8)) aPass)
    (aRet (aArgs (mkF .tup) (aCons (aVar 5) (aCons (aVar 6) (aCons (aVar 7) (aCons (aVar 8) aNil))))))))))))))))
def B__law_list (R__law_statement R__law_list:AF):AS :=
  (aSeq (aAsg (aArgs (mkM .lst) aNil) (gNm 6))
    (aSeq (aFor (sRng1 (aCons (aCall F__law_take [] (aCons (aVar 0) (aCons (aOp2 aAdd (aVar 5) (aC (.int 1))) aNil))) aNil)) (gNm 7) (aIfS (aTst (aOp2 aGt (aOp2 aIx (aVar 4) (aC (.int 0))) (aC (.int 0)))) (aExp (aBM "list" aAppend (aVar 6) (aCons (aCall (lenF 5 (R__law_statement)) [] (aCons (aVar 0) (aCons (aVar 1) (aCons (aVar 2) (aCons (aVar 3) (aCons (aVar 4) aNil)))))) aNil))) aPass))
    (aRet (aFrz 1 (aVar 6)))))
theorem sc__law_statement:FnScope ["_law_hat_here", "_law_words_here", "_law_others", "_law_deep", "_law_space", "_law_word", "_law_thing_here", "_law_body", "_law_other"] ["_law_hat_here", "_law_words_here", "_law_others", "_law_deep", "_law_space"] (defScope (top 39)):=⟨rfl,rfl,rfl,by decide +kernel,rfl,by decide +kernel,by decide +kernel⟩
theorem sc__law_list:FnScope ["_law_hat_here", "_law_words_here", "_law_others", "_law_deep", "_law_space", "_law_top", "_law_found", "_law_k"] ["_law_hat_here", "_law_words_here", "_law_others", "_law_deep", "_law_space", "_law_top"] (defScope (top 40)):=⟨rfl,rfl,rfl,by decide +kernel,rfl,by decide +kernel,by decide +kernel⟩
def R__law_statement__law_list:Nat → AF × AF
  | 0=>(fun _ _=>none,fun _ _=>none)
  | k + 1=>(fnA 9 (B__law_statement ((R__law_statement__law_list k).1) ((R__law_statement__law_list k).2)),fnA 8 (B__law_list ((R__law_statement__law_list k).1) ((R__law_statement__law_list k).2)))
def F__law_list:AF:=lenF 6 ((R__law_statement__law_list 40).2)
theorem oks__law_statement__law_list {P:Program} {w:World} {K:PySem.W.Frag} {mg:Str → Option Value} {base:Heap} {ca:Nat → Addr} (g:Gv P w K mg ca) {f0:Addr} {fd0:FuncData} (F0:FunD K "_law_statement" "_law_statement" (defArgs (top 39)) (defBody (top 39)) (defScope (top 39)) [] [] f0 fd0) {f1:Addr} {fd1:FuncData} (F1:FunD K "_law_list" "_law_list" (defArgs (top 40)) (defBody (top 40)) (defScope (top 40)) [] [] f1 fd1) (hm0:mg "_law_statement" = some (.ref f0)) (hm1:mg "_law_list" = some (.ref f1)):∀ k:Nat,FnOk P w K mg base CX0 (3 + k) f0 fd0 ["_law_hat_here", "_law_words_here", "_law_others", "_law_deep", "_law_space"] (spA ⟨K,w,mg,cl⟩ 5 (lenF 5 ((R__law_statement__law_list k).1))) ∧ FnOk P w K mg base CX0 (3 + k) f1 fd1 ["_law_hat_here", "_law_words_here", "_law_others", "_law_deep", "_law_space", "_law_top"] (spA ⟨K,w,mg,cl⟩ 6 (lenF 6 ((R__law_statement__law_list k).2)))
  | 0=>⟨(fn_none 5 rfl).mono (Nat.zero_le _),(fn_none 6 rfl).mono (Nat.zero_le _)⟩
  | k + 1=>by
    have ih:=oks__law_statement__law_list (base:=base) g F0 F1 hm0 hm1 k
    have ih__law_statement:=(show CalF P w K mg base cl (3 + k) "_law_statement" 5 [] (lenF 5 _) from ⟨f0,fd0,_,[],[],hm0,F0.kp,(ih.1),(F0.bindsN fun _ _ _ _ _ _ us hl=>match us,hl with | [_,_,_,_,_],_=>rfl),.nil,fun _=>rfl⟩)
    have ih__law_list:=(show CalF P w K mg base cl (3 + k) "_law_list" 6 [] (lenF 6 _) from ⟨f1,fd1,_,[],[],hm1,F1.kp,(ih.2),(F1.bindsN fun _ _ _ _ _ _ us hl=>match us,hl with | [_,_,_,_,_,_],_=>rfl),.nil,fun _=>rfl⟩)
    have o0:FnOk P w K mg base CX0 (3 + (k + 1)) f0 fd0 ["_law_hat_here", "_law_words_here", "_law_others", "_law_deep", "_law_space"] (spA ⟨K,w,mg,cl⟩ 5 (lenF 5 (fnA 9 (B__law_statement ((R__law_statement__law_list k).1) ((R__law_statement__law_list k).2))))):=by
      refine fn_ok (k:=3 + k) F0 sc__law_statement 9 5 rfl rfl (B__law_statement ((R__law_statement__law_list k).1) ((R__law_statement__law_list k).2)) fun cdv A outer s H E hr hu=>?_
      have hN:=sc__law_statement.nd
      have hc:(cxOf CX0 P w K mg base ["_law_hat_here", "_law_words_here", "_law_others", "_law_deep", "_law_space", "_law_word", "_law_thing_here", "_law_body", "_law_other"] "_law_statement" (defScope (top 39)) f0 cdv A outer s H E).nox.calm = true:=rfl
      exact (as_cons (as_set 5 hN (ae_call (cal__law_of g) (hr.mono (by omega)) (aa_cons (ae_var 0) (aa_cons (ae_var 1) aa_nil))))
    (as_cons (as_if (PW.pt (aw_and (at_cmp (o_in hu) s_in (ae_var 5) (ae_call0 (cal__law_blocks g) (hr.mono (by omega)))) (aw_and1 (PW.pt (aw_or (at_cmp op_gt s_gt (ae_var 3) ae_int) (aw_or1 (at_cmp op_lt s_lt (ae_ix hu (ae_var 4) ae_int) ae_int))))))) (as_one (as_set 5 hN ae_str)) as_nil)
    (as_cons (as_set 6 hN (ae_call (cal__law_thing g) (hr.mono (by omega)) (aa_cons (ae_var 0) (aa_cons (ae_var 5) (aa_cons (ae_var 2) aa_nil)))))
    (as_cons (as_if (at_cmp (op_eqP hu) s_eq (ae_var 6) ae_str) (as_one (as_asg (ae_tup (aa_cons ae_str (aa_cons ae_non aa_nil))) (ag_sq (n:=2) hc (ags_cons (ag_name 5 hN) (ags_cons (ag_name 6 hN) ags_nil))))) as_nil)
    (as_cons (as_asg (ae_sub (ae_ix hu (ae_var 4) ae_int) ae_int) (ag_ix hu (ae_var 4) ae_int (h:=fun h1 h2 h3=>pg_sub h1 h2 h3)))
    (as_cons (as_if (at_cmp (o_notIn hu) s_in (ae_var 5) (ae_call0 (cal__law_blocks g) (hr.mono (by omega)))) (as_one (as_ret (ae_tup (aa_cons (ae_var 5) (aa_cons (ae_var 6) aa_nil))))) as_nil)
    (as_cons (as_asg (ae_sub (ae_ix hu (ae_var 4) ae_int) ae_int) (ag_ix hu (ae_var 4) ae_int (h:=fun h1 h2 h3=>pg_sub h1 h2 h3)))
    (as_cons (as_set 7 hN (ae_call ih__law_list (hr.mono (by omega)) (aa_cons (ae_var 0) (aa_cons (ae_var 1) (aa_cons (ae_var 2) (aa_cons (ae_add (ae_var 3) ae_int) (aa_cons (ae_var 4) (aa_cons ae_int aa_nil))))))))
    (as_cons (as_set 8 hN ae_non)
    (as_cons (as_if (PW.pt (aw_and (at_cmp (o_in hu) s_in (ae_var 5) (ae_tup (aa_cons ae_str (aa_cons ae_str aa_nil)))) (aw_and1 (at_cmp (op_eqP hu) s_eq (ae_call (cal__law_take g) (hr.mono (by omega)) (aa_cons (ae_var 0) (aa_cons ae_int aa_nil))) ae_int)))) (as_one (as_set 8 hN (ae_call ih__law_list (hr.mono (by omega)) (aa_cons (ae_var 0) (aa_cons (ae_var 1) (aa_cons (ae_var 2) (aa_cons (ae_add (ae_var 3) ae_int) (aa_cons (ae_var 4) (aa_cons ae_int aa_nil))))))))) as_nil)
    (as_one (as_ret (ae_tup (aa_cons (ae_var 5) (aa_cons (ae_var 6) (aa_cons (ae_var 7) (aa_cons (ae_var 8) aa_nil)))))))))))))))))
    have o1:FnOk P w K mg base CX0 (3 + (k + 1)) f1 fd1 ["_law_hat_here", "_law_words_here", "_law_others", "_law_deep", "_law_space", "_law_top"] (spA ⟨K,w,mg,cl⟩ 6 (lenF 6 (fnA 8 (B__law_list ((R__law_statement__law_list k).1) ((R__law_statement__law_list k).2))))):=by
      refine fn_ok (k:=3 + k) F1 sc__law_list 8 6 rfl rfl (B__law_list ((R__law_statement__law_list k).1) ((R__law_statement__law_list k).2)) fun cdv A outer s H E hr hu=>?_
      have hN:=sc__law_list.nd
      have hc:(cxOf CX0 P w K mg base ["_law_hat_here", "_law_words_here", "_law_others", "_law_deep", "_law_space", "_law_top", "_law_found", "_law_k"] "_law_list" (defScope (top 40)) f1 cdv A outer s H E).nox.calm = true:=rfl
      exact (as_cons (as_set 6 hN (ae_lstM aa_nil))
    (as_cons (as_for PassesOwn.never hc (ai_range1 rfl g.b_range (aa_cons (ae_call (cal__law_take g) (hr.mono (by omega)) (aa_cons (ae_var 0) (aa_cons (ae_add (ae_var 5) ae_int) aa_nil))) aa_nil)) (ag_name 7 hN) (as_one (as_if (at_cmp op_gt s_gt (ae_ix hu (ae_var 4) ae_int) ae_int) (as_one (as_expr (w_append (ae_var 6) (aa_cons (ae_call ih__law_statement (hr.mono (by omega)) (aa_cons (ae_var 0) (aa_cons (ae_var 1) (aa_cons (ae_var 2) (aa_cons (ae_var 3) (aa_cons (ae_var 4) aa_nil)))))) aa_nil)))) as_nil)))
    (as_one (as_ret (ae_frz 1 (ae_var 6))))))
    exact ⟨o0,o1⟩
theorem cal__law_list (g:Gv P w K mg ca):CalF P w K mg base cl (43) "_law_list" 6 [] F__law_list:=by
  obtain ⟨f0,fd0,hm0,F0⟩:=g.d__law_statement
  obtain ⟨f1,fd1,hm1,F1⟩:=g.d__law_list
  have o:=oks__law_statement__law_list (base:=base) g F0 F1 hm0 hm1 40
  exact ⟨f1,fd1,_,[],[],hm1,F1.kp,o.2,(F1.bindsN fun _ _ _ _ _ _ us hl=>match us,hl with | [_,_,_,_,_,_],_=>rfl),.nil,fun _=>rfl⟩
def B__law_plan:AS :=
  (aSeq (aAsg (aCall F__law_names [] (aCons (aVar 0) (aCons (aVar 1) aNil))) (gNm 4))
    (aSeq (aAsg (aArgs (mkM .lst) aNil) (gNm 5))
    (aSeq (aFor (sVal (aVar 4)) (gNm 6) (aSeq (aAsg (aLc mkF (sVal (aVar 4)) (gNm 9) (aTst (aOp2 aNe (aVar 9) (aVar 6))) (aVar 9) [9]) (gNm 7))
    (aSeq (aAsg (aCall F__law_list [] (aCons (aVar 0) (aCons (aVar 3) (aCons (aVar 7) (aCons (aC (.int 0)) (aCons (aArgs (mkM .lst) (aCons (aVar 2) aNil)) (aCons (aVar 2) aNil))))))) (gNm 8))
    (aExp (aBM "list" aAppend (aVar 5) (aCons (aArgs (mkF .tup) (aCons (aVar 6) (aCons (aVar 8) aNil))) aNil))))))
    (aRet (aFrz 1 (aVar 5))))))
theorem sc__law_plan:FnScope ["_law_hat_here", "_law_many", "_law_size", "_law_words_here", "_law_names_here", "_law_found", "_law_name", "_law_others", "_law_body", "_law_other"] ["_law_hat_here", "_law_many", "_law_size", "_law_words_here"] (defScope (top 42)):=⟨rfl,rfl,rfl,by decide +kernel,rfl,by decide +kernel,by decide +kernel⟩
def F__law_plan:AF:=lenF 4 (fnA 10 B__law_plan)
theorem ok__law_plan (g:Gv P w K mg ca) {f:Addr} {fd:FuncData} (F:FunX K "_law_plan" "_law_plan" (top 42) f fd):FnOk P w K mg base CX0 44 f fd ["_law_hat_here", "_law_many", "_law_size", "_law_words_here"] (spA ⟨K,w,mg,cl⟩ 4 F__law_plan):=by
  refine fn_ok F sc__law_plan 10 4 rfl rfl B__law_plan fun cdv A outer s H E hr hu=>?_
  have hN:=sc__law_plan.nd
  have hc:(cxOf CX0 P w K mg base ["_law_hat_here", "_law_many", "_law_size", "_law_words_here", "_law_names_here", "_law_found", "_law_name", "_law_others", "_law_body", "_law_other"] "_law_plan" (defScope (top 42)) f cdv A outer s H E).nox.calm = true:=rfl
  exact (as_cons (as_set 4 hN (ae_call (cal__law_names g) (hr.mono (by omega)) (aa_cons (ae_var 0) (aa_cons (ae_var 1) aa_nil))))
    (as_cons (as_set 5 hN (ae_lstM aa_nil))
    (as_cons (as_for PassesOwn.never hc (ai_val (ae_var 4)) (ag_name 6 hN) (as_cons (as_setLc (own:=[("_law_other",9)]) 7 (.inl rfl) hc hN (ai_val (ae_var 4)) (blkOk_by (by kernel_rfl)) (fun _ _ _ _ _=>(av_name 9 hN)) (fun _ _ _ _ _=>(at_one (at_cmp (op_neP hu) snd_ne (ae_var 9) (ae_var 6)))) (fun _ _ _ _ _=>(ae_var 9)) (sw_true rfl rfl rfl rfl))
    (as_cons (as_set 8 hN (ae_call (cal__law_list g) (hr.mono (by omega)) (aa_cons (ae_var 0) (aa_cons (ae_var 3) (aa_cons (ae_var 7) (aa_cons ae_int (aa_cons (ae_lstM (aa_cons (ae_var 2) aa_nil)) (aa_cons (ae_var 2) aa_nil))))))))
    (as_one (as_expr (w_append (ae_var 5) (aa_cons (ae_tup (aa_cons (ae_var 6) (aa_cons (ae_var 8) aa_nil))) aa_nil)))))))
    (as_one (as_ret (ae_frz 1 (ae_var 5)))))))
theorem cal__law_plan (g:Gv P w K mg ca):CalF P w K mg base cl (44) "_law_plan" 4 [] F__law_plan:=by
  obtain ⟨f,fd,hm,F⟩:=g.d__law_plan
  exact ⟨f,fd,_,[],[],hm,F.kp,(ok__law_plan g F),(F.bindsN fun _ _ _ _ _ _ us hl=>match us,hl with | [_,_,_,_],_=>rfl),.nil,fun _=>rfl⟩
def B__law_rows_of (R__law_rows_of:AF):AS :=
  (aSeq (aAsg (aIf (aTst (aOp2 aIs (aOp2 aIx (aVar 0) (aC (.int 1))) (aC .non))) (aOp2 aIx (aVar 0) (aC (.int 0))) (aOp2 aAdd (aOp2 aAdd (aOp2 aIx (aVar 0) (aC (.int 0))) (aC (.str " "))) (aOp2 aIx (aVar 0) (aC (.int 1))))) (gNm 1))
    (aSeq (aAsg (aArgs (mkM .lst) (aCons (aVar 1) aNil)) (gNm 2))
    (aSeq (aIfS (aTst (aOp2 aEq (aArgs (one aLenV) (aCons (aVar 0) aNil)) (aC (.int 2)))) (aRet (aFrz 1 (aVar 2))) aPass)
    (aSeq (aFor (sVal (aOp2 aIx (aVar 0) (aC (.int 2)))) (gNm 3) (aAsg (aOp2 aAddM (aVar 2) (aCall (lenF 1 (R__law_rows_of)) [] (aCons (aVar 3) aNil))) (gNm 2)))
    (aSeq (aIfS (aTst (aOp2 aIsNot (aOp2 aIx (aVar 0) (aC (.int 3))) (aC .non))) (aSeq (aExp (aBM "list" aAppend (aVar 2) (aCons (aC (.str "else")) aNil)))
    (aFor (sVal (aOp2 aIx (aVar 0) (aC (.int 3)))) (gNm 3) (aAsg (aOp2 aAddM (aVar 2) (aCall (lenF 1 (R__law_rows_of)) [] (aCons (aVar 3) aNil))) (gNm 2)))) aPass)
    (aRet (aOp2 aAdd (aVar 2) (aArgs (mkF .lst) (aCons (aC (.str "end")) aNil)))))))))
theorem sc__law_rows_of:FnScope ["_law_statement_here", "_law_head", "_law_found", "_law_inner"] ["_law_statement_here"] (defScope (top 43)):=⟨rfl,rfl,rfl,by decide +kernel,rfl,by decide +kernel,by decide +kernel⟩
def R__law_rows_of:Nat → AF
  | 0=>fun _ _=>none
  | k + 1=>fnA 4 (B__law_rows_of ((R__law_rows_of k)))
def F__law_rows_of:AF:=lenF 1 ((R__law_rows_of 40))
theorem oks__law_rows_of {P:Program} {w:World} {K:PySem.W.Frag} {mg:Str → Option Value} {base:Heap} {ca:Nat → Addr} (g:Gv P w K mg ca) {f0:Addr} {fd0:FuncData} (F0:FunD K "_law_rows_of" "_law_rows_of" (defArgs (top 43)) (defBody (top 43)) (defScope (top 43)) [] [] f0 fd0) (hm0:mg "_law_rows_of" = some (.ref f0)):∀ k:Nat,FnOk P w K mg base CX0 (0 + k) f0 fd0 ["_law_statement_here"] (spA ⟨K,w,mg,cl⟩ 1 (lenF 1 ((R__law_rows_of k))))
  | 0=>(fn_none 1 rfl).mono (Nat.zero_le _)
  | k + 1=>by
    have ih:=oks__law_rows_of (base:=base) g F0 hm0 k
    have ih__law_rows_of:=(show CalF P w K mg base cl (0 + k) "_law_rows_of" 1 [] (lenF 1 _) from ⟨f0,fd0,_,[],[],hm0,F0.kp,ih,(F0.bindsN fun _ _ _ _ _ _ us hl=>match us,hl with | [_],_=>rfl),.nil,fun _=>rfl⟩)
    have o0:FnOk P w K mg base CX0 (0 + (k + 1)) f0 fd0 ["_law_statement_here"] (spA ⟨K,w,mg,cl⟩ 1 (lenF 1 (fnA 4 (B__law_rows_of ((R__law_rows_of k)))))):=by
      refine fn_ok (k:=0 + k) F0 sc__law_rows_of 4 1 rfl rfl (B__law_rows_of ((R__law_rows_of k))) fun cdv A outer s H E hr hu=>?_
      have hN:=sc__law_rows_of.nd
      have hc:(cxOf CX0 P w K mg base ["_law_statement_here", "_law_head", "_law_found", "_law_inner"] "_law_rows_of" (defScope (top 43)) f0 cdv A outer s H E).nox.calm = true:=rfl
      exact (as_cons (as_set 1 hN (ae_ife (at_cmp op_isN snd_is (ae_ix hu (ae_var 0) ae_int) ae_non) (ae_ix hu (ae_var 0) ae_int) (ae_add (ae_add (ae_ix hu (ae_var 0) ae_int) ae_str) (ae_ix hu (ae_var 0) ae_int))))
    (as_cons (as_set 2 hN (ae_lstM (aa_cons (ae_var 1) aa_nil)))
    (as_cons (as_if (at_cmp (op_eqP hu) s_eq (w_len g.b_len (aa_cons (ae_var 0) aa_nil)) ae_int) (as_one (as_ret (ae_frz 1 (ae_var 2)))) as_nil)
    (as_cons (as_for PassesOwn.never hc (ai_val (ae_ix hu (ae_var 0) ae_int)) (ag_name 3 hN) (as_one (as_set 2 hN (ae_addM (ae_var 2) (ae_call ih__law_rows_of (hr.mono (by omega)) (aa_cons (ae_var 3) aa_nil))))))
    (as_cons (as_if (at_cmp op_notN snd_isNot (ae_ix hu (ae_var 0) ae_int) ae_non) (as_cons (as_expr (w_append (ae_var 2) (aa_cons ae_str aa_nil)))
    (as_one (as_for PassesOwn.never hc (ai_val (ae_ix hu (ae_var 0) ae_int)) (ag_name 3 hN) (as_one (as_set 2 hN (ae_addM (ae_var 2) (ae_call ih__law_rows_of (hr.mono (by omega)) (aa_cons (ae_var 3) aa_nil)))))))) as_nil)
    (as_one (as_ret (ae_add (ae_var 2) (ae_lstF (aa_cons ae_str aa_nil))))))))))
    exact o0
theorem cal__law_rows_of (g:Gv P w K mg ca):CalF P w K mg base cl (40) "_law_rows_of" 1 [] F__law_rows_of:=by
  obtain ⟨f0,fd0,hm0,F0⟩:=g.d__law_rows_of
  have o:=oks__law_rows_of (base:=base) g F0 hm0 40
  exact ⟨f0,fd0,_,[],[],hm0,F0.kp,o,(F0.bindsN fun _ _ _ _ _ _ us hl=>match us,hl with | [_],_=>rfl),.nil,fun _=>rfl⟩
def B__law_text:AS :=
  (aSeq (aAsg (aArgs (mkM .lst) aNil) (gNm 1))
    (aSeq (aFor (sVal (aVar 0)) (gSq 2 (gsCons (gNm 2) (gsCons (gNm 3) gsNil))) (aSeq (aExp (aBM "list" aAppend (aVar 1) (aCons (aOp2 aAdd (aC (.str "task ")) (aVar 2)) aNil)))
    (aSeq (aFor (sVal (aVar 3)) (gNm 4) (aAsg (aOp2 aAddM (aVar 1) (aCall F__law_rows_of [] (aCons (aVar 4) aNil))) (gNm 1)))
    (aExp (aBM "list" aAppend (aVar 1) (aCons (aC (.str "end")) aNil))))))
    (aRet (aBM "str" aJoin (aC (.str "")) (aCons (aLc mkF (sVal (aVar 1)) (gNm 5) aYes (aOp2 aAdd (aVar 5) (aC (.str "\n"))) [5]) aNil)))))
theorem sc__law_text:FnScope ["_law_plan_here", "_law_rows", "_law_name", "_law_body", "_law_statement_here", "_law_row"] ["_law_plan_here"] (defScope (top 44)):=⟨rfl,rfl,rfl,by decide +kernel,rfl,by decide +kernel,by decide +kernel⟩
def F__law_text:AF:=lenF 1 (fnA 6 B__law_text)
theorem ok__law_text (g:Gv P w K mg ca) {f:Addr} {fd:FuncData} (F:FunX K "_law_text" "_law_text" (top 44) f fd):FnOk P w K mg base CX0 41 f fd ["_law_plan_here"] (spA ⟨K,w,mg,cl⟩ 1 F__law_text):=by
  refine fn_ok F sc__law_text 6 1 rfl rfl B__law_text fun cdv A outer s H E hr hu=>?_
  have hN:=sc__law_text.nd
  have hc:(cxOf CX0 P w K mg base ["_law_plan_here", "_law_rows", "_law_name", "_law_body", "_law_statement_here", "_law_row"] "_law_text" (defScope (top 44)) f cdv A outer s H E).nox.calm = true:=rfl
  exact (as_cons (as_set 1 hN (ae_lstM aa_nil))
    (as_cons (as_for PassesOwn.never hc (ai_val (ae_var 0)) (ag_sq (n:=2) hc (ags_cons (ag_name 2 hN) (ags_cons (ag_name 3 hN) ags_nil))) (as_cons (as_expr (w_append (ae_var 1) (aa_cons (ae_add ae_str (ae_var 2)) aa_nil)))
    (as_cons (as_for PassesOwn.never hc (ai_val (ae_var 3)) (ag_name 4 hN) (as_one (as_set 1 hN (ae_addM (ae_var 1) (ae_call (cal__law_rows_of g) (hr.mono (by omega)) (aa_cons (ae_var 4) aa_nil))))))
    (as_one (as_expr (w_append (ae_var 1) (aa_cons ae_str aa_nil)))))))
    (as_one (as_ret (w_join ae_str (aa_cons (ae_lc (own:=[("_law_row",5)]) (.inl rfl) hc hN (ai_val (ae_var 1)) (blkOk_by (by kernel_rfl)) (fun _ _ _ _ _=>(av_name 5 hN)) (fun _ _ _ _ _=>at_none) (fun _ _ _ _ _=>(ae_add (ae_var 5) ae_str))) aa_nil))))))
theorem cal__law_text (g:Gv P w K mg ca):CalF P w K mg base cl (41) "_law_text" 1 [] F__law_text:=by
  obtain ⟨f,fd,hm,F⟩:=g.d__law_text
  exact ⟨f,fd,_,[],[],hm,F.kp,(ok__law_text g F),(F.bindsN fun _ _ _ _ _ _ us hl=>match us,hl with | [_],_=>rfl),.nil,fun _=>rfl⟩
def B__law_spoilt:AS :=
  (aSeq (aAsg (aBM "str" (aSplit mkM) (aVar 1) (aCons (aC (.str "\n")) aNil)) (gNm 2))
    (aSeq (aAsg (aCall F__law_take [] (aCons (aVar 0) (aCons (aArgs (one aLenV) (aCons (aVar 2) aNil)) aNil))) (gNm 3))
    (aSeq (aAsg (aCall F__law_take [] (aCons (aVar 0) (aCons (aArgs (one aLenV) (aCons (aVar 2) aNil)) aNil))) (gNm 4))
    (aSeq (aAsg (aCall F__law_take [] (aCons (aVar 0) (aCons (aOp2 aAdd (aArgs (one aLenV) (aCons (aVar 1) aNil)) (aC (.int 1))) aNil))) (gNm 5))
    (aSeq (aAsg (aOp2 aIx (aC (.str " \nabelpw019A")) (aCall F__law_take [] (aCons (aVar 0) (aCons (aC (.int 12)) aNil)))) (gNm 6))
    (aSeq (aAsg (aArgs (mkF .lst) (aCons (aC (.str "end")) (aCons (aC (.str "else")) (aCons (aC (.str "task z")) (aCons (aC (.str "hold")) (aCons (aC (.str "load 5")) (aCons (aC (.str "add 0")) (aCons (aC (.str "read e")) (aCons (aC (.str "lock n")) (aCons (aC (.str "start nobody")) (aCons (aC (.str "join z")) aNil))))))))))) (gNm 7))
    (aSeq (aAsg (aOp2 aAdd (aVar 7) (aArgs (mkF .lst) (aCons (aC (.str "")) (aCons (aC (.str "try")) (aCons (aC (.str "yield 1")) (aCons (aC (.str "mark")) (aCons (aC (.str "keep v")) (aCons (aC (.str "give r")) (aCons (aC (.str "bind")) (aCons (aC (.str "when")) (aCons (aC (.str "task abcdefghi")) aNil))))))))))) (gNm 7))
    (aSeq (aAsg (aOp2 aAdd (aVar 7) (aArgs (mkF .lst) (aCons (aC (.str "task A")) (aCons (aC (.str "end end")) (aCons (aC (.str "loop 4")) aNil))))) (gNm 7))
    (aSeq (aAsg (aCall F__law_of [] (aCons (aVar 0) (aCons (aVar 7) aNil))) (gNm 8))
    (aSeq (aAsg (aCall F__law_take [] (aCons (aVar 0) (aCons (aC (.int 9)) aNil))) (gNm 9))
    (aSeq (aIfS (aTst (aOp2 aEq (aVar 9) (aC (.int 0)))) (aRet (aOp2 aAdd (aOp2 aAdd (aSlice mkF (aVar 1) aNo (aPart (aVar 5))) (aVar 6)) (aSlice mkF (aVar 1) (aPart (aVar 5)) aNo))) aPass)
    (aSeq (aIfS (aTst (aOp2 aEq (aVar 9) (aC (.int 1)))) (aRet (aOp2 aAdd (aSlice mkF (aVar 1) aNo (aPart (aVar 5))) (aSlice mkF (aVar 1) (aPart (aOp2 aAdd (aVar 5) (aC (.int 1)))) aNo))) aPass)
    (aSeq (aIfS (aTst (aOp2 aEq (aVar 9) (aC (.int 2)))) (aRet (aOp2 aAdd (aOp2 aAdd (aSlice mkF (aVar 1) aNo (aPart (aVar 5))) (aVar 6)) (aSlice mkF (aVar 1) (aPart (aOp2 aAdd (aVar 5) (aC (.int 1)))) aNo))) aPass)
    (aSeq (aIfS (aTst (aOp2 aEq (aVar 9) (aC (.int 3)))) (aExp (aBM "list" aInsert (aVar 2) (aCons (aVar 3) (aCons (aVar 8) aNil)))) aPass)
    (aSeq (aIfS (aTst (aOp2 aEq (aVar 9) (aC (.int 4)))) (aExp (aBM "list" aPopAt (aVar 2) (aCons (aVar 3) aNil))) aPass)
    (aSeq (aIfS (aTst (aOp2 aEq (aVar 9) (aC (.int 5)))) (aExp (aBM "list" aInsert (aVar 2) (aCons (aVar 4) (aCons (aOp2 aIx (aVar 2) (aVar 3)) aNil)))) aPass)
    (aSeq (aIfS (aTst (aOp2 aEq (aVar 9) (aC (.int 6)))) (aAsg (aArgs (mkF .tup) (aCons (aOp2 aIx (aVar 2) (aVar 4)) (aCons (aOp2 aIx (aVar 2) (aVar 3)) aNil))) (gSq 2 (gsCons (gIx (aVar 2) (aVar 3)) (gsCons (gIx (aVar 2) (aVar 4)) gsNil)))) aPass)
    (aSeq (aIfS (aTst (aOp2 aEq (aVar 9) (aC (.int 7)))) (aAsg (aVar 8) (gIx (aVar 2) (aVar 3))) aPass)
    (aRet (aBM "str" aJoin (aC (.str "\n")) (aCons (aVar 2) aNil)))))))))))))))))))))
theorem sc__law_spoilt:FnScope ["_law_hat_here", "_law_text_here", "_law_rows", "_law_at", "_law_to", "_law_cut", "_law_sign", "_law_odds", "_law_odd", "_law_way"] ["_law_hat_here", "_law_text_here"] (defScope (top 50)):=⟨rfl,rfl,rfl,by decide +kernel,rfl,by decide +kernel,by decide +kernel⟩
def F__law_spoilt:AF:=lenF 2 (fnA 10 B__law_spoilt)
theorem ok__law_spoilt (g:Gv P w K mg ca) {f:Addr} {fd:FuncData} (F:FunX K "_law_spoilt" "_law_spoilt" (top 50) f fd):FnOk P w K mg base CX0 3 f fd ["_law_hat_here", "_law_text_here"] (spA ⟨K,w,mg,cl⟩ 2 F__law_spoilt):=by
  refine fn_ok F sc__law_spoilt 10 2 rfl rfl B__law_spoilt fun cdv A outer s H E hr hu=>?_
  have hN:=sc__law_spoilt.nd
  have hc:(cxOf CX0 P w K mg base ["_law_hat_here", "_law_text_here", "_law_rows", "_law_at", "_law_to", "_law_cut", "_law_sign", "_law_odds", "_law_odd", "_law_way"] "_law_spoilt" (defScope (top 50)) f cdv A outer s H E).nox.calm = true:=rfl
  exact (as_cons (as_set 2 hN ((w_split (.inr rfl)) (ae_var 1) (aa_cons ae_str aa_nil)))
    (as_cons (as_set 3 hN (ae_call (cal__law_take g) (hr.mono (by omega)) (aa_cons (ae_var 0) (aa_cons (w_len g.b_len (aa_cons (ae_var 2) aa_nil)) aa_nil))))
    (as_cons (as_set 4 hN (ae_call (cal__law_take g) (hr.mono (by omega)) (aa_cons (ae_var 0) (aa_cons (w_len g.b_len (aa_cons (ae_var 2) aa_nil)) aa_nil))))
    (as_cons (as_set 5 hN (ae_call (cal__law_take g) (hr.mono (by omega)) (aa_cons (ae_var 0) (aa_cons (ae_add (w_len g.b_len (aa_cons (ae_var 1) aa_nil)) ae_int) aa_nil))))
    (as_cons (as_set 6 hN (ae_ix hu ae_str (ae_call (cal__law_take g) (hr.mono (by omega)) (aa_cons (ae_var 0) (aa_cons ae_int aa_nil)))))
    (as_cons (as_set 7 hN (ae_lstF (aa_cons ae_str (aa_cons ae_str (aa_cons ae_str (aa_cons ae_str (aa_cons ae_str (aa_cons ae_str (aa_cons ae_str (aa_cons ae_str (aa_cons ae_str (aa_cons ae_str aa_nil))))))))))))
    (as_cons (as_set 7 hN (ae_add (ae_var 7) (ae_lstF (aa_cons ae_str (aa_cons ae_str (aa_cons ae_str (aa_cons ae_str (aa_cons ae_str (aa_cons ae_str (aa_cons ae_str (aa_cons ae_str (aa_cons ae_str aa_nil))))))))))))
    (as_cons (as_set 7 hN (ae_add (ae_var 7) (ae_lstF (aa_cons ae_str (aa_cons ae_str (aa_cons ae_str aa_nil))))))
    (as_cons (as_set 8 hN (ae_call (cal__law_of g) (hr.mono (by omega)) (aa_cons (ae_var 0) (aa_cons (ae_var 7) aa_nil))))
    (as_cons (as_set 9 hN (ae_call (cal__law_take g) (hr.mono (by omega)) (aa_cons (ae_var 0) (aa_cons ae_int aa_nil))))
    (as_cons (as_if (at_cmp (op_eqP hu) s_eq (ae_var 9) ae_int) (as_one (as_ret (ae_add (ae_add (ae_slice (.inl rfl) (ae_var 1) ao_none (ao_some (ae_var 5))) (ae_var 6)) (ae_slice (.inl rfl) (ae_var 1) (ao_some (ae_var 5)) ao_none)))) as_nil)
    (as_cons (as_if (at_cmp (op_eqP hu) s_eq (ae_var 9) ae_int) (as_one (as_ret (ae_add (ae_slice (.inl rfl) (ae_var 1) ao_none (ao_some (ae_var 5))) (ae_slice (.inl rfl) (ae_var 1) (ao_some (ae_add (ae_var 5) ae_int)) ao_none)))) as_nil)
    (as_cons (as_if (at_cmp (op_eqP hu) s_eq (ae_var 9) ae_int) (as_one (as_ret (ae_add (ae_add (ae_slice (.inl rfl) (ae_var 1) ao_none (ao_some (ae_var 5))) (ae_var 6)) (ae_slice (.inl rfl) (ae_var 1) (ao_some (ae_add (ae_var 5) ae_int)) ao_none)))) as_nil)
    (as_cons (as_if (at_cmp (op_eqP hu) s_eq (ae_var 9) ae_int) (as_one (as_expr (w_insert (ae_var 2) (aa_cons (ae_var 3) (aa_cons (ae_var 8) aa_nil))))) as_nil)
    (as_cons (as_if (at_cmp (op_eqP hu) s_eq (ae_var 9) ae_int) (as_one (as_expr (w_popAt (ae_var 2) (aa_cons (ae_var 3) aa_nil)))) as_nil)
    (as_cons (as_if (at_cmp (op_eqP hu) s_eq (ae_var 9) ae_int) (as_one (as_expr (w_insert (ae_var 2) (aa_cons (ae_var 4) (aa_cons (ae_ix hu (ae_var 2) (ae_var 3)) aa_nil))))) as_nil)
    (as_cons (as_if (at_cmp (op_eqP hu) s_eq (ae_var 9) ae_int) (as_one (as_asg (ae_tup (aa_cons (ae_ix hu (ae_var 2) (ae_var 4)) (aa_cons (ae_ix hu (ae_var 2) (ae_var 3)) aa_nil))) (ag_sq (n:=2) hc (ags_cons (ag_ix hu (ae_var 2) (ae_var 3) (h:=fun h1 h2 h3=>pg_sub h1 h2 h3)) (ags_cons (ag_ix hu (ae_var 2) (ae_var 4) (h:=fun h1 h2 h3=>pg_sub h1 h2 h3)) ags_nil))))) as_nil)
    (as_cons (as_if (at_cmp (op_eqP hu) s_eq (ae_var 9) ae_int) (as_one (as_asg (ae_var 8) (ag_ix hu (ae_var 2) (ae_var 3) (h:=fun h1 h2 h3=>pg_sub h1 h2 h3)))) as_nil)
    (as_one (as_ret (w_join ae_str (aa_cons (ae_var 2) aa_nil))))))))))))))))))))))
theorem cal__law_spoilt (g:Gv P w K mg ca):CalF P w K mg base cl (3) "_law_spoilt" 2 [] F__law_spoilt:=by
  obtain ⟨f,fd,hm,F⟩:=g.d__law_spoilt
  exact ⟨f,fd,_,[],[],hm,F.kp,(ok__law_spoilt g F),(F.bindsN fun _ _ _ _ _ _ us hl=>match us,hl with | [_,_],_=>rfl),.nil,fun _=>rfl⟩
def B__law_good_name:AS :=
  (aRet (aAndV (aChain aLe aLe (aC (.int 1)) (aArgs (one aLenV) (aCons (aVar 0) aNil)) (aC (.int 8))) (aArgs (one aAllV) (aCons (aLc mkF (sVal (aVar 0)) (gNm 1) aYes (aOp2 aIn (aVar 1) (aC (.str "abcdefghijklmnopqrstuvwxyz"))) [1]) aNil))))
theorem sc__law_good_name:FnScope ["_law_word", "_law_sign"] ["_law_word"] (defScope (top 45)):=⟨rfl,rfl,rfl,by decide +kernel,rfl,by decide +kernel,by decide +kernel⟩
def F__law_good_name:AF:=lenF 1 (fnA 2 B__law_good_name)
theorem ok__law_good_name (g:Gv P w K mg ca) {f:Addr} {fd:FuncData} (F:FunX K "_law_good_name" "_law_good_name" (top 45) f fd):FnOk P w K mg base CX0 1 f fd ["_law_word"] (spA ⟨K,w,mg,cl⟩ 1 F__law_good_name):=by
  refine fn_ok F sc__law_good_name 2 1 rfl rfl B__law_good_name fun cdv A outer s H E hr hu=>?_
  have hN:=sc__law_good_name.nd
  have hc:(cxOf CX0 P w K mg base ["_law_word", "_law_sign"] "_law_good_name" (defScope (top 45)) f cdv A outer s H E).nox.calm = true:=rfl
  exact (as_one (as_ret (ae_and (ae_chain op_le op_le s_le s_le ae_int (w_len g.b_len (aa_cons (ae_var 0) aa_nil)) ae_int (h:=fun h1 h2 h3=>pe_chain op_le op_le h1 h2 h3)) (ae_one (w_all hc g.b_all (aa_cons (ae_lc (own:=[("_law_sign",1)]) (.inl rfl) hc hN (ai_val (ae_var 0)) (blkOk_by (by kernel_rfl)) (fun _ _ _ _ _=>(av_name 1 hN)) (fun _ _ _ _ _=>at_none) (fun _ _ _ _ _=>(ae_cmp (o_in hu) s_in (ae_var 1) ae_str))) aa_nil))))))
theorem cal__law_good_name (g:Gv P w K mg ca):CalF P w K mg base cl (1) "_law_good_name" 1 [] F__law_good_name:=by
  obtain ⟨f,fd,hm,F⟩:=g.d__law_good_name
  exact ⟨f,fd,_,[],[],hm,F.kp,(ok__law_good_name g F),(F.bindsN fun _ _ _ _ _ _ us hl=>match us,hl with | [_],_=>rfl),.nil,fun _=>rfl⟩
def B__law_good_row:AS :=
  (aSeq (aIfS (aTst (aOp2 aIn (aOp2 aIx (aVar 0) (aC (.int 0))) (aArgs (mkF .tup) (aCons (aC (.str "mark")) (aCons (aC (.str "peek")) (aCons (aC (.str "yield")) (aCons (aC (.str "call")) (aCons (aC (.str "fail")) (aCons (aC (.str "hold")) (aCons (aC (.str "try")) (aCons (aC (.str "when")) aNil))))))))))) (aRet (aOp2 aEq (aArgs (one aLenV) (aCons (aVar 0) aNil)) (aC (.int 1)))) aPass)
    (aSeq (aIfS (aTst (aOp2 aNe (aArgs (one aLenV) (aCons (aVar 0) aNil)) (aC (.int 2)))) (aRet (aC (.bl false))) aPass)
    (aSeq (aIfS (aTst (aOp2 aIn (aOp2 aIx (aVar 0) (aC (.int 0))) (aArgs (mkF .tup) (aCons (aC (.str "start")) (aCons (aC (.str "join")) aNil))))) (aRet (aCall F__law_good_name [] (aCons (aOp2 aIx (aVar 0) (aC (.int 1))) aNil))) aPass)
    (aSeq (aAsg (aDisp [((aC (.str "load")),(aC (.str "01234"))),((aC (.str "add")),(aC (.str "1234"))),((aC (.str "read")),(aC (.str "abcd"))),((aC (.str "write")),(aC (.str "abcd"))),((aC (.str "keep")),(aC (.str "wxyz"))),((aC (.str "own")),(aC (.str "wxyz")))]) (gNm 1))
    (aSeq (aExp (aUpd (aVar 1) (aDisp [((aC (.str "ask")),(aC (.str "wxyz"))),((aC (.str "give")),(aC (.str "pq"))),((aC (.str "take")),(aC (.str "pq"))),((aC (.str "lock")),(aC (.str "lm"))),((aC (.str "bind")),(aC (.str "wxyz"))),((aC (.str "loop")),(aC (.str "123")))])))
    (aRet (aAndV (aOp2 aEq (aArgs (one aLenV) (aCons (aOp2 aIx (aVar 0) (aC (.int 1))) aNil)) (aC (.int 1))) (aOp2 aIn (aOp2 aIx (aVar 0) (aC (.int 1))) (aGet2 (aVar 1) (aOp2 aIx (aVar 0) (aC (.int 0))) (aC (.str "")))))))))))
theorem sc__law_good_row:FnScope ["_law_words_here", "_law_some"] ["_law_words_here"] (defScope (top 46)):=⟨rfl,rfl,rfl,by decide +kernel,rfl,by decide +kernel,by decide +kernel⟩
def F__law_good_row:AF:=lenF 1 (fnA 2 B__law_good_row)
theorem ok__law_good_row (g:Gv P w K mg ca) {f:Addr} {fd:FuncData} (F:FunX K "_law_good_row" "_law_good_row" (top 46) f fd):FnOk P w K mg base CX0 2 f fd ["_law_words_here"] (spA ⟨K,w,mg,cl⟩ 1 F__law_good_row):=by
  refine fn_ok F sc__law_good_row 2 1 rfl rfl B__law_good_row fun cdv A outer s H E hr hu=>?_
  have hN:=sc__law_good_row.nd
  exact (as_cons (as_if (at_cmp (o_in hu) s_in (ae_ix hu (ae_var 0) ae_int) (ae_tup (aa_cons ae_str (aa_cons ae_str (aa_cons ae_str (aa_cons ae_str (aa_cons ae_str (aa_cons ae_str (aa_cons ae_str (aa_cons ae_str aa_nil)))))))))) (as_one (as_ret (ae_cmp (op_eqP hu) s_eq (w_len g.b_len (aa_cons (ae_var 0) aa_nil)) ae_int))) as_nil)
    (as_cons (as_if (at_cmp (op_neP hu) snd_ne (w_len g.b_len (aa_cons (ae_var 0) aa_nil)) ae_int) (as_one (as_ret ae_bl)) as_nil)
    (as_cons (as_if (at_cmp (o_in hu) s_in (ae_ix hu (ae_var 0) ae_int) (ae_tup (aa_cons ae_str (aa_cons ae_str aa_nil)))) (as_one (as_ret (ae_call (cal__law_good_name g) (hr.mono (by omega)) (aa_cons (ae_ix hu (ae_var 0) ae_int) aa_nil)))) as_nil)
    (as_cons (as_set 1 hN (ae_disp (.cons ae_str ae_str (.cons ae_str ae_str (.cons ae_str ae_str (.cons ae_str ae_str (.cons ae_str ae_str (.cons ae_str ae_str .nil))))))))
    (as_cons (as_expr (ae_update (ae_var 1) (ae_disp (.cons ae_str ae_str (.cons ae_str ae_str (.cons ae_str ae_str (.cons ae_str ae_str (.cons ae_str ae_str (.cons ae_str ae_str .nil)))))))))
    (as_one (as_ret (ae_and (ae_cmp (op_eqP hu) s_eq (w_len g.b_len (aa_cons (ae_ix hu (ae_var 0) ae_int) aa_nil)) ae_int) (ae_one (ae_cmp (o_in hu) s_in (ae_ix hu (ae_var 0) ae_int) (ae_get2 hu (ae_var 1) (ae_ix hu (ae_var 0) ae_int) ae_str)))))))))))
theorem cal__law_good_row (g:Gv P w K mg ca):CalF P w K mg base cl (2) "_law_good_row" 1 [] F__law_good_row:=by
  obtain ⟨f,fd,hm,F⟩:=g.d__law_good_row
  exact ⟨f,fd,_,[],[],hm,F.kp,(ok__law_good_row g F),(F.bindsN fun _ _ _ _ _ _ us hl=>match us,hl with | [_],_=>rfl),.nil,fun _=>rfl⟩
def B__law_taken:AS :=
  (aSeq (aIfS (aTst (aOp2 aEq (aOp2 aIx (aVar 0) (aC (.str "name"))) (aC (.str "")))) (aSeq (aAsg (aAndV (aOp2 aEq (aArgs (one aLenV) (aCons (aVar 1) aNil)) (aC (.int 2))) (aAndV (aOp2 aEq (aOp2 aIx (aVar 1) (aC (.int 0))) (aC (.str "task"))) (aCall F__law_good_name [] (aCons (aOp2 aIx (aVar 1) (aC (.int 1))) aNil)))) (gNm 3))
    (aSeq (aIfS (aOr (aNot (aTst (aVar 3))) (aOr (aTst (aOp2 aIn (aOp2 aIx (aVar 1) (aC (.int 1))) (aOp2 aIx (aVar 0) (aC (.str "names"))))) (aTst (aOp2 aGt (aArgs (one aLenV) (aCons (aOp2 aIx (aVar 0) (aC (.str "names"))) aNil)) (aC (.int 3)))))) (aRet (aC (.bl false))) aPass)
    (aSeq (aAsg (aOp2 aAdd (aOp2 aIx (aVar 0) (aC (.str "names"))) (aArgs (mkF .lst) (aCons (aOp2 aIx (aVar 1) (aC (.int 1))) aNil))) (gIx (aVar 0) (aC (.str "names"))))
    (aSeq (aAsg (aArgs (mkF .tup) (aCons (aOp2 aIx (aVar 1) (aC (.int 1))) (aCons (aC (.int 0)) aNil))) (gSq 2 (gsCons (gIx (aVar 0) (aC (.str "name"))) (gsCons (gIx (aVar 0) (aC (.str "rows"))) gsNil))))
    (aRet (aC (.bl true))))))) aPass)
    (aSeq (aIfS (aAnd (aTst (aOp2 aEq (aVar 1) (aArgs (mkF .lst) (aCons (aC (.str "end")) aNil)))) (aTst (aOp2 aEq (aOp2 aIx (aVar 0) (aC (.str "open"))) (aArgs (mkF .lst) aNil)))) (aSeq (aAsg (aC (.str "")) (gIx (aVar 0) (aC (.str "name"))))
    (aRet (aC (.bl true)))) aPass)
    (aSeq (aAsg (aOp2 aAdd (aOp2 aIx (aVar 0) (aC (.str "rows"))) (aC (.int 1))) (gIx (aVar 0) (aC (.str "rows"))))
    (aSeq (aIfS (aTst (aOp2 aGt (aOp2 aIx (aVar 0) (aC (.str "rows"))) (aC (.int 24)))) (aRet (aC (.bl false))) aPass)
    (aSeq (aIfS (aTst (aOp2 aEq (aVar 1) (aArgs (mkF .lst) (aCons (aC (.str "end")) aNil)))) (aSeq (aAsg (aSlice mkF (aOp2 aIx (aVar 0) (aC (.str "open"))) aNo (aPart (aOp1 aNeg (aC (.int 1))))) (gIx (aVar 0) (aC (.str "open"))))
    (aRet (aC (.bl true)))) aPass)
    (aSeq (aIfS (aTst (aOp2 aEq (aVar 1) (aArgs (mkF .lst) (aCons (aC (.str "else")) aNil)))) (aSeq (aAsg (aOp2 aIn (aSlice mkF (aOp2 aIx (aVar 0) (aC (.str "open"))) (aPart (aOp1 aNeg (aC (.int 1)))) aNo) (aArgs (mkF .tup) (aCons (aArgs (mkF .lst) (aCons (aC (.str "try")) aNil)) (aCons (aArgs (mkF .lst) (aCons (aC (.str "when")) aNil)) aNil)))) (gNm 3))
    (aSeq (aAsg (aOp2 aAdd (aSlice mkF (aOp2 aIx (aVar 0) (aC (.str "open"))) aNo (aPart (aOp1 aNeg (aC (.int 1))))) (aArgs (mkF .lst) (aCons (aC (.str "else")) aNil))) (gIx (aVar 0) (aC (.str "open"))))
    (aRet (aVar 3)))) aPass)
    (aSeq (aIfS (aNot (aTst (aCall F__law_good_row [] (aCons (aVar 1) aNil)))) (aRet (aC (.bl false))) aPass)
    (aSeq (aIfS (aTst (aOp2 aIn (aOp2 aIx (aVar 1) (aC (.int 0))) (aCall F__law_blocks [] aNil))) (aAsg (aOp2 aAdd (aOp2 aIx (aVar 0) (aC (.str "open"))) (aArgs (mkF .lst) (aCons (aOp2 aIx (aVar 1) (aC (.int 0))) aNil))) (gIx (aVar 0) (aC (.str "open")))) aPass)
    (aSeq (aIfS (aTst (aOp2 aGt (aArgs (one aLenV) (aCons (aOp2 aIx (aVar 0) (aC (.str "open"))) aNil)) (aC (.int 4)))) (aRet (aC (.bl false))) aPass)
    (aSeq (aIfS (aTst (aOp2 aIn (aOp2 aIx (aVar 1) (aC (.int 0))) (aArgs (mkF .tup) (aCons (aC (.str "start")) (aCons (aC (.str "join")) aNil))))) (aSeq (aAsg (aArgs (mkF .tup) (aCons (aVar 2) (aCons (aOp2 aIx (aVar 0) (aC (.str "name"))) (aCons (aOp2 aIx (aVar 1) (aC (.int 1))) aNil)))) (gNm 4))
    (aAsg (aOp2 aAdd (aOp2 aIx (aVar 0) (aC (.str "asked"))) (aArgs (mkF .lst) (aCons (aVar 4) aNil))) (gIx (aVar 0) (aC (.str "asked"))))) aPass)
    (aRet (aC (.bl true)))))))))))))
theorem sc__law_taken:FnScope ["_law_state", "_law_words_here", "_law_place", "_law_good", "_law_fresh"] ["_law_state", "_law_words_here", "_law_place"] (defScope (top 47)):=⟨rfl,rfl,rfl,by decide +kernel,rfl,by decide +kernel,by decide +kernel⟩
def F__law_taken:AF:=lenF 3 (fnA 5 B__law_taken)
theorem ok__law_taken (g:Gv P w K mg ca) {f:Addr} {fd:FuncData} (F:FunX K "_law_taken" "_law_taken" (top 47) f fd):FnOk P w K mg base CX0 3 f fd ["_law_state", "_law_words_here", "_law_place"] (spA ⟨K,w,mg,cl⟩ 3 F__law_taken):=by
  refine fn_ok F sc__law_taken 5 3 rfl rfl B__law_taken fun cdv A outer s H E hr hu=>?_
  have hN:=sc__law_taken.nd
  have hc:(cxOf CX0 P w K mg base ["_law_state", "_law_words_here", "_law_place", "_law_good", "_law_fresh"] "_law_taken" (defScope (top 47)) f cdv A outer s H E).nox.calm = true:=rfl
  exact (as_cons (as_if (at_cmp (op_eqP hu) s_eq (ae_ix hu (ae_var 0) ae_str) ae_str) (as_cons (as_set 3 hN (ae_and (ae_cmp (op_eqP hu) s_eq (w_len g.b_len (aa_cons (ae_var 1) aa_nil)) ae_int) (ae_and (ae_cmp (op_eqP hu) s_eq (ae_ix hu (ae_var 1) ae_int) ae_str) (ae_one (ae_call (cal__law_good_name g) (hr.mono (by omega)) (aa_cons (ae_ix hu (ae_var 1) ae_int) aa_nil))))))
    (as_cons (as_if (PW.pt (aw_or (at_not (at_val (ae_var 3))) (aw_or (at_cmp (o_in hu) s_in (ae_ix hu (ae_var 1) ae_int) (ae_ix hu (ae_var 0) ae_str)) (aw_or1 (at_cmp op_gt s_gt (w_len g.b_len (aa_cons (ae_ix hu (ae_var 0) ae_str) aa_nil)) ae_int))))) (as_one (as_ret ae_bl)) as_nil)
    (as_cons (as_asg (ae_add (ae_ix hu (ae_var 0) ae_str) (ae_lstF (aa_cons (ae_ix hu (ae_var 1) ae_int) aa_nil))) (ag_ix hu (ae_var 0) ae_str (h:=fun h1 h2 h3=>pg_sub h1 h2 h3)))
    (as_cons (as_asg (ae_tup (aa_cons (ae_ix hu (ae_var 1) ae_int) (aa_cons ae_int aa_nil))) (ag_sq (n:=2) hc (ags_cons (ag_ix hu (ae_var 0) ae_str (h:=fun h1 h2 h3=>pg_sub h1 h2 h3)) (ags_cons (ag_ix hu (ae_var 0) ae_str (h:=fun h1 h2 h3=>pg_sub h1 h2 h3)) ags_nil))))
    (as_one (as_ret ae_bl)))))) as_nil)
    (as_cons (as_if (PW.pt (aw_and (at_cmp (op_eqP hu) s_eq (ae_var 1) (ae_lstF (aa_cons ae_str aa_nil))) (aw_and1 (at_cmp (op_eqP hu) s_eq (ae_ix hu (ae_var 0) ae_str) (ae_lstF aa_nil))))) (as_cons (as_asg ae_str (ag_ix hu (ae_var 0) ae_str (h:=fun h1 h2 h3=>pg_sub h1 h2 h3)))
    (as_one (as_ret ae_bl))) as_nil)
    (as_cons (as_asg (ae_add (ae_ix hu (ae_var 0) ae_str) ae_int) (ag_ix hu (ae_var 0) ae_str (h:=fun h1 h2 h3=>pg_sub h1 h2 h3)))
    (as_cons (as_if (at_cmp op_gt s_gt (ae_ix hu (ae_var 0) ae_str) ae_int) (as_one (as_ret ae_bl)) as_nil)
    (as_cons (as_if (at_cmp (op_eqP hu) s_eq (ae_var 1) (ae_lstF (aa_cons ae_str aa_nil))) (as_cons (as_asg (ae_slice (.inl rfl) (ae_ix hu (ae_var 0) ae_str) ao_none (ao_some (ae_neg ae_int))) (ag_ix hu (ae_var 0) ae_str (h:=fun h1 h2 h3=>pg_sub h1 h2 h3)))
    (as_one (as_ret ae_bl))) as_nil)
    (as_cons (as_if (at_cmp (op_eqP hu) s_eq (ae_var 1) (ae_lstF (aa_cons ae_str aa_nil))) (as_cons (as_set 3 hN (ae_cmp (o_in hu) s_in (ae_slice (.inl rfl) (ae_ix hu (ae_var 0) ae_str) (ao_some (ae_neg ae_int)) ao_none) (ae_tup (aa_cons (ae_lstF (aa_cons ae_str aa_nil)) (aa_cons (ae_lstF (aa_cons ae_str aa_nil)) aa_nil)))))
    (as_cons (as_asg (ae_add (ae_slice (.inl rfl) (ae_ix hu (ae_var 0) ae_str) ao_none (ao_some (ae_neg ae_int))) (ae_lstF (aa_cons ae_str aa_nil))) (ag_ix hu (ae_var 0) ae_str (h:=fun h1 h2 h3=>pg_sub h1 h2 h3)))
    (as_one (as_ret (ae_var 3))))) as_nil)
    (as_cons (as_if (at_not (at_val (ae_call (cal__law_good_row g) (hr.mono (by omega)) (aa_cons (ae_var 1) aa_nil)))) (as_one (as_ret ae_bl)) as_nil)
    (as_cons (as_if (at_cmp (o_in hu) s_in (ae_ix hu (ae_var 1) ae_int) (ae_call0 (cal__law_blocks g) (hr.mono (by omega)))) (as_one (as_asg (ae_add (ae_ix hu (ae_var 0) ae_str) (ae_lstF (aa_cons (ae_ix hu (ae_var 1) ae_int) aa_nil))) (ag_ix hu (ae_var 0) ae_str (h:=fun h1 h2 h3=>pg_sub h1 h2 h3)))) as_nil)
    (as_cons (as_if (at_cmp op_gt s_gt (w_len g.b_len (aa_cons (ae_ix hu (ae_var 0) ae_str) aa_nil)) ae_int) (as_one (as_ret ae_bl)) as_nil)
    (as_cons (as_if (at_cmp (o_in hu) s_in (ae_ix hu (ae_var 1) ae_int) (ae_tup (aa_cons ae_str (aa_cons ae_str aa_nil)))) (as_cons (as_set 4 hN (ae_tup (aa_cons (ae_var 2) (aa_cons (ae_ix hu (ae_var 0) ae_str) (aa_cons (ae_ix hu (ae_var 1) ae_int) aa_nil)))))
    (as_one (as_asg (ae_add (ae_ix hu (ae_var 0) ae_str) (ae_lstF (aa_cons (ae_var 4) aa_nil))) (ag_ix hu (ae_var 0) ae_str (h:=fun h1 h2 h3=>pg_sub h1 h2 h3))))) as_nil)
    (as_one (as_ret ae_bl))))))))))))
theorem cal__law_taken (g:Gv P w K mg ca):CalF P w K mg base cl (3) "_law_taken" 3 [] F__law_taken:=by
  obtain ⟨f,fd,hm,F⟩:=g.d__law_taken
  exact ⟨f,fd,_,[],[],hm,F.kp,(ok__law_taken g F),(F.bindsN fun _ _ _ _ _ _ us hl=>match us,hl with | [_,_,_],_=>rfl),.nil,fun _=>rfl⟩
def B__law_bad_row:AS :=
  (aSeq (aAsg (aBM "str" (aSplit mkF) (aVar 0) (aCons (aC (.str "\n")) aNil)) (gNm 1))
    (aSeq (aAsg (aDisp [((aC (.str "name")),(aC (.str ""))),((aC (.str "names")),(aArgs (mkF .lst) aNil)),((aC (.str "rows")),(aC (.int 0))),((aC (.str "open")),(aArgs (mkF .lst) aNil)),((aC (.str "asked")),(aArgs (mkF .lst) aNil))]) (gNm 2))
    (aSeq (aFor (sRng1 (aCons (aOp2 aSub (aArgs (one aLenV) (aCons (aVar 1) aNil)) (aC (.int 1))) aNil)) (gNm 3) (aIfS (aNot (aTst (aCall F__law_taken [] (aCons (aVar 2) (aCons (aBM "str" (aSplit mkF) (aOp2 aIx (aVar 1) (aVar 3)) (aCons (aC (.str " ")) aNil)) (aCons (aVar 3) aNil)))))) (aRet (aVar 3)) aPass))
    (aSeq (aIfS (aOr (aTst (aOp2 aNe (aOp2 aIx (aVar 1) (aOp1 aNeg (aC (.int 1)))) (aC (.str "")))) (aOr (aTst (aOp2 aNe (aOp2 aIx (aVar 2) (aC (.str "name"))) (aC (.str "")))) (aTst (aOp2 aEq (aOp2 aIx (aVar 2) (aC (.str "names"))) (aArgs (mkF .lst) aNil))))) (aRet (aOp2 aSub (aArgs (one aLenV) (aCons (aVar 1) aNil)) (aC (.int 1)))) aPass)
    (aSeq (aFor (sVal (aOp2 aIx (aVar 2) (aC (.str "asked")))) (gSq 3 (gsCons (gNm 3) (gsCons (gNm 4) (gsCons (gNm 5) gsNil)))) (aIfS (aOr (aTst (aOp2 aEq (aVar 5) (aVar 4))) (aTst (aOp2 aNotIn (aVar 5) (aOp2 aIx (aVar 2) (aC (.str "names")))))) (aRet (aVar 3)) aPass))
    (aRet (aC .non)))))))
theorem sc__law_bad_row:FnScope ["_law_text_here", "_law_rows", "_law_state", "_law_place", "_law_name", "_law_other"] ["_law_text_here"] (defScope (top 48)):=⟨rfl,rfl,rfl,by decide +kernel,rfl,by decide +kernel,by decide +kernel⟩
def F__law_bad_row:AF:=lenF 1 (fnA 6 B__law_bad_row)
theorem ok__law_bad_row (g:Gv P w K mg ca) {f:Addr} {fd:FuncData} (F:FunX K "_law_bad_row" "_law_bad_row" (top 48) f fd):FnOk P w K mg base CX0 4 f fd ["_law_text_here"] (spA ⟨K,w,mg,cl⟩ 1 F__law_bad_row):=by
  refine fn_ok F sc__law_bad_row 6 1 rfl rfl B__law_bad_row fun cdv A outer s H E hr hu=>?_
  have hN:=sc__law_bad_row.nd
  have hc:(cxOf CX0 P w K mg base ["_law_text_here", "_law_rows", "_law_state", "_law_place", "_law_name", "_law_other"] "_law_bad_row" (defScope (top 48)) f cdv A outer s H E).nox.calm = true:=rfl
  exact (as_cons (as_set 1 hN ((w_split (.inl rfl)) (ae_var 0) (aa_cons ae_str aa_nil)))
    (as_cons (as_set 2 hN (ae_disp (.cons ae_str ae_str (.cons ae_str (ae_lstF aa_nil) (.cons ae_str ae_int (.cons ae_str (ae_lstF aa_nil) (.cons ae_str (ae_lstF aa_nil) .nil)))))))
    (as_cons (as_for PassesOwn.never hc (ai_range1 rfl g.b_range (aa_cons (ae_sub (w_len g.b_len (aa_cons (ae_var 1) aa_nil)) ae_int) aa_nil)) (ag_name 3 hN) (as_one (as_if (at_not (at_val (ae_call (cal__law_taken g) (hr.mono (by omega)) (aa_cons (ae_var 2) (aa_cons ((w_split (.inl rfl)) (ae_ix hu (ae_var 1) (ae_var 3)) (aa_cons ae_str aa_nil)) (aa_cons (ae_var 3) aa_nil)))))) (as_one (as_ret (ae_var 3))) as_nil)))
    (as_cons (as_if (PW.pt (aw_or (at_cmp (op_neP hu) snd_ne (ae_ix hu (ae_var 1) (ae_neg ae_int)) ae_str) (aw_or (at_cmp (op_neP hu) snd_ne (ae_ix hu (ae_var 2) ae_str) ae_str) (aw_or1 (at_cmp (op_eqP hu) s_eq (ae_ix hu (ae_var 2) ae_str) (ae_lstF aa_nil)))))) (as_one (as_ret (ae_sub (w_len g.b_len (aa_cons (ae_var 1) aa_nil)) ae_int))) as_nil)
    (as_cons (as_for PassesOwn.never hc (ai_val (ae_ix hu (ae_var 2) ae_str)) (ag_sq (n:=3) hc (ags_cons (ag_name 3 hN) (ags_cons (ag_name 4 hN) (ags_cons (ag_name 5 hN) ags_nil)))) (as_one (as_if (PW.pt (aw_or (at_cmp (op_eqP hu) s_eq (ae_var 5) (ae_var 4)) (aw_or1 (at_cmp (o_notIn hu) s_in (ae_var 5) (ae_ix hu (ae_var 2) ae_str))))) (as_one (as_ret (ae_var 3))) as_nil)))
    (as_one (as_ret ae_non)))))))
theorem cal__law_bad_row (g:Gv P w K mg ca):CalF P w K mg base cl (4) "_law_bad_row" 1 [] F__law_bad_row:=by
  obtain ⟨f,fd,hm,F⟩:=g.d__law_bad_row
  exact ⟨f,fd,_,[],[],hm,F.kp,(ok__law_bad_row g F),(F.bindsN fun _ _ _ _ _ _ us hl=>match us,hl with | [_],_=>rfl),.nil,fun _=>rfl⟩
def B_Reader_init:AS :=
  (aSeq (aSetF (aDisp []) 0 0 (aVar 0))
    (aSeq (aSetF (aArgs (mkM .lst) aNil) 0 1 (aVar 0))
    (aSeq (aSetF (aC .non) 0 2 (aVar 0))
    (aSeq (aSetF (aC (.int 0)) 0 3 (aVar 0))
    (aSetF (aArgs (mkM .lst) aNil) 0 4 (aVar 0))))))
theorem sc_Reader_init:FnScope ["self"] ["self"] (defScope (inCls (top 25) 0)):=⟨rfl,rfl,rfl,by decide +kernel,rfl,by decide +kernel,by decide +kernel⟩
def F_Reader_init:AF:=lenF 1 (fnA 1 B_Reader_init)
theorem ok_Reader_init (g:Gv P w K mg ca) {f:Addr} {fd:FuncData} (F:FunX K "__init__" "Reader.__init__" (inCls (top 25) 0) f fd):FnOk P w K mg base CX0 1 f fd ["self"] (spA ⟨K,w,mg,cl⟩ 1 F_Reader_init):=by
  refine fn_ok F sc_Reader_init 1 1 rfl rfl B_Reader_init fun cdv A outer s H E hr hu=>?_
  exact (as_cons (as_setF (k:=0) (j:=0) g.c0 rfl ae_disp0 (ae_var 0))
    (as_cons (as_setF (k:=0) (j:=1) g.c0 rfl (ae_lstM aa_nil) (ae_var 0))
    (as_cons (as_setF (k:=0) (j:=2) g.c0 rfl ae_non (ae_var 0))
    (as_cons (as_setF (k:=0) (j:=3) g.c0 rfl ae_int (ae_var 0))
    (as_one (as_setF (k:=0) (j:=4) g.c0 rfl (ae_lstM aa_nil) (ae_var 0)))))))
theorem cal_Reader_init (g:Gv P w K mg ca):MakF P w K mg base cl (1) 0 1 [] F_Reader_init:=by
  obtain ⟨f,fd,hm,F⟩:=g.d_Reader_init
  exact ⟨ca 0,f,fd,_,[],[],g.c0,hm,(ok_Reader_init g F),(F.bindsN fun _ _ _ _ _ _ us hl=>match us,hl with | [_],_=>rfl),.nil,fun _=>rfl⟩
def B_is_name:AS :=
  (aRet (aAndV (aChain aLe aLe (aC (.int 1)) (aArgs (one aLenV) (aCons (aVar 0) aNil)) (aC (.int 8))) (aArgs (one aAllV) (aCons (aLc mkF (sVal (aVar 0)) (gNm 1) aYes (aOp2 aIn (aVar 1) (aC (.str "abcdefghijklmnopqrstuvwxyz"))) [1]) aNil))))
theorem sc_is_name:FnScope ["word", "sign"] ["word"] (defScope (top 22)):=⟨rfl,rfl,rfl,by decide +kernel,rfl,by decide +kernel,by decide +kernel⟩
def F_is_name:AF:=lenF 1 (fnA 2 B_is_name)
theorem ok_is_name (g:Gv P w K mg ca) {f:Addr} {fd:FuncData} (F:FunX K "is_name" "is_name" (top 22) f fd):FnOk P w K mg base CX0 1 f fd ["word"] (spA ⟨K,w,mg,cl⟩ 1 F_is_name):=by
  refine fn_ok F sc_is_name 2 1 rfl rfl B_is_name fun cdv A outer s H E hr hu=>?_
  have hN:=sc_is_name.nd
  have hc:(cxOf CX0 P w K mg base ["word", "sign"] "is_name" (defScope (top 22)) f cdv A outer s H E).nox.calm = true:=rfl
  exact (as_one (as_ret (ae_and (ae_chain op_le op_le s_le s_le ae_int (w_len g.b_len (aa_cons (ae_var 0) aa_nil)) (ae_glob g.v_LONGEST) (h:=fun h1 h2 h3=>pe_chain op_le op_le h1 h2 h3)) (ae_one (w_all hc g.b_all (aa_cons (ae_lc (own:=[("sign",1)]) (.inl rfl) hc hN (ai_val (ae_var 0)) (blkOk_by (by kernel_rfl)) (fun _ _ _ _ _=>(av_name 1 hN)) (fun _ _ _ _ _=>at_none) (fun _ _ _ _ _=>(ae_cmp (o_in hu) s_in (ae_var 1) (ae_glob g.v_LETTERS)))) aa_nil))))))
theorem cal_is_name (g:Gv P w K mg ca):CalF P w K mg base cl (1) "is_name" 1 [] F_is_name:=by
  obtain ⟨f,fd,hm,F⟩:=g.d_is_name
  exact ⟨f,fd,_,[],[],hm,F.kp,(ok_is_name g F),(F.bindsN fun _ _ _ _ _ _ us hl=>match us,hl with | [_],_=>rfl),.nil,fun _=>rfl⟩
def B_Reader_beginX:ASX :=
  (xSeq (lfS (aAsg (aVar 1) (gStar 2 1 (gsCons (gNm 3) (gsCons (gNm 4) gsNil)))))
    (xSeq (xIf (lfT (aOr (aTst (aOp2 aNe (aVar 3) (aC (.str "task")))) (aOr (aTst (aOp2 aNe (aArgs (one aLenV) (aCons (aVar 4) aNil)) (aC (.int 1)))) (aOr (aNot (aTst (aCall F_is_name [] (aCons (aOp2 aIx (aVar 4) (aC (.int 0))) aNil)))) (aTst (aOp2 aIn (aOp2 aIx (aVar 4) (aC (.int 0))) (aFld 0 0 (aVar 0)))))))) (xRaise 0 (aVar 2)) (lfS aPass))
    (xSeq (xIf (lfT (aTst (aOp2 aEq (aArgs (one aLenV) (aCons (aFld 0 0 (aVar 0)) aNil)) (aC (.int 4))))) (xRaise 0 (aVar 2)) (lfS aPass))
    (lfS (aSeq (aSetF (aOp2 aIx (aVar 4) (aC (.int 0))) 0 2 (aVar 0))
    (aSeq (aAsg (aArgs (mkM .lst) aNil) (gIx (aFld 0 0 (aVar 0)) (aFld 0 2 (aVar 0))))
    (aSetF (aC (.int 0)) 0 3 (aVar 0))))))))
theorem sc_Reader_beginX:FnScope ["self", "words", "place", "first", "rest"] ["self", "words", "place"] (defScope (inCls (top 25) 2)):=⟨rfl,rfl,rfl,by decide +kernel,rfl,by decide +kernel,by decide +kernel⟩
def F_Reader_beginX:AFX:=lenX 3 (fnX 5 B_Reader_beginX)
theorem ok_Reader_beginX (g:Gv P w K mg ca) {f:Addr} {fd:FuncData} (F:FunX K "begin" "Reader.begin" (inCls (top 25) 2) f fd):FnOk P w K mg base (L2N.CX P w) 3 f fd ["self", "words", "place"] (spX ⟨K,w,mg,cl⟩ (xtc ca) 3 F_Reader_beginX):=by
  refine fn_okX F sc_Reader_beginX 5 3 rfl rfl B_Reader_beginX fun cdv A outer s H E hr hu=>?_
  have hN:=sc_Reader_beginX.nd
  have hc:(cxOf (L2N.CX P w) P w K mg base ["self", "words", "place", "first", "rest"] "Reader.begin" (defScope (inCls (top 25) 2)) f cdv A outer s H E).calm = true:=rfl
  exact (xs_cons (lS (as_asg (ae_var 1) (ag_star 2 1 hc (ags_cons (ag_name 3 hN) (ags_cons (ag_name 4 hN) ags_nil)))))
    (xs_cons (xs_if (lT (PW.pt (aw_or (at_cmp (op_neP hu) snd_ne (ae_var 3) ae_str) (aw_or (at_cmp (op_neP hu) snd_ne (w_len g.b_len (aa_cons (ae_var 4) aa_nil)) ae_int) (aw_or (at_not (at_val (ae_call (cal_is_name g) (hr.mono (by omega)) (aa_cons (ae_ix hu (ae_var 4) ae_int) aa_nil)))) (aw_or1 (at_cmp (o_in hu) s_in (ae_ix hu (ae_var 4) ae_int) (ae_fld (k:=0) (j:=0) g.c0 rfl (ae_var 0))))))))) (xs_one (xs_raiseFV (xf_0 g) rfl takesC (hr.mono (by omega)) (ae_var 2))) xs_nil)
    (xs_cons (xs_if (lT (at_cmp (op_eqP hu) s_eq (w_len g.b_len (aa_cons (ae_fld (k:=0) (j:=0) g.c0 rfl (ae_var 0)) aa_nil)) (ae_glob g.v_MOST_TASKS))) (xs_one (xs_raiseFV (xf_0 g) rfl takesC (hr.mono (by omega)) (ae_var 2))) xs_nil)
    (lSs (as_cons (as_setF (k:=0) (j:=2) g.c0 rfl (ae_ix hu (ae_var 4) ae_int) (ae_var 0))
    (as_cons (as_asg (ae_lstM aa_nil) (ag_ix hu (ae_fld (k:=0) (j:=0) g.c0 rfl (ae_var 0)) (ae_fld (k:=0) (j:=2) g.c0 rfl (ae_var 0)) (h:=fun h1 h2 h3=>pg_sub h1 h2 h3)))
    (as_one (as_setF (k:=0) (j:=3) g.c0 rfl ae_int (ae_var 0)))))))))
theorem cal_Reader_beginX (g:Gv P w K mg ca):MetX P w K mg base cl (xtc ca) 3 0 "begin" 3 F_Reader_beginX:=by
  obtain ⟨f,fd,hm,F⟩:=g.d_Reader_beginX
  exact ⟨ca 0,f,fd,_,g.c0,hm,by decide,ok_Reader_beginX g F,(F.bindsN fun _ _ _ _ _ _ us hl=>match us,hl with | [_,_,_],_=>rfl)⟩
def B_Reader_close:AS :=
  (aSeq (aAsg (aBM "list" aPop (aFld 0 4 (aVar 0)) aNil) (gSq 3 (gsCons (gNm 1) (gsCons (gNm 2) (gsCons (gNm 3) gsNil)))))
    (aSeq (aAsg (aOp2 aIx (aFld 0 0 (aVar 0)) (aFld 0 2 (aVar 0))) (gNm 4))
    (aIfS (aTst (aOp2 aEq (aVar 1) (aC (.str "loop")))) (aExp (aBM "list" aAppend (aVar 4) (aCons (aArgs (mkM .lst) (aCons (aC (.str "again")) (aCons (aOp2 aAdd (aVar 2) (aC (.int 1))) aNil))) aNil))) (aIfS (aTst (aOp2 aIsNot (aVar 3) (aC .non))) (aAsg (aArgs (one aLenV) (aCons (aVar 4) aNil)) (gIx (aOp2 aIx (aVar 4) (aVar 3)) (aC (.int 1)))) (aSeq (aIfS (aTst (aOp2 aNe (aVar 1) (aC (.str "when")))) (aExp (aBM "list" aAppend (aVar 4) (aCons (aArgs (mkM .lst) (aCons (aC (.str "leave")) (aCons (aOp2 aAdd (aArgs (one aLenV) (aCons (aVar 4) aNil)) (aC (.int 1))) aNil))) aNil))) aPass)
    (aIfS (aTst (aOp2 aIn (aVar 1) (aC (.nod .tup [(.str "try"),(.str "when")])))) (aAsg (aArgs (one aLenV) (aCons (aVar 4) aNil)) (gIx (aOp2 aIx (aVar 4) (aVar 2)) (aC (.int 1)))) aPass))))))
theorem sc_Reader_close:FnScope ["self", "word", "at", "other", "steps"] ["self"] (defScope (inCls (top 25) 5)):=⟨rfl,rfl,rfl,by decide +kernel,rfl,by decide +kernel,by decide +kernel⟩
def F_Reader_close:AF:=lenF 1 (fnA 5 B_Reader_close)
theorem ok_Reader_close (g:Gv P w K mg ca) {f:Addr} {fd:FuncData} (F:FunX K "close" "Reader.close" (inCls (top 25) 5) f fd):FnOk P w K mg base CX0 1 f fd ["self"] (spA ⟨K,w,mg,cl⟩ 1 F_Reader_close):=by
  refine fn_ok F sc_Reader_close 5 1 rfl rfl B_Reader_close fun cdv A outer s H E hr hu=>?_
  have hN:=sc_Reader_close.nd
  have hc:(cxOf CX0 P w K mg base ["self", "word", "at", "other", "steps"] "Reader.close" (defScope (inCls (top 25) 5)) f cdv A outer s H E).nox.calm = true:=rfl
  exact (as_cons (as_asg (w_pop (ae_fld (k:=0) (j:=4) g.c0 rfl (ae_var 0))) (ag_sq (n:=3) hc (ags_cons (ag_name 1 hN) (ags_cons (ag_name 2 hN) (ags_cons (ag_name 3 hN) ags_nil)))))
    (as_cons (as_set 4 hN (ae_ix hu (ae_fld (k:=0) (j:=0) g.c0 rfl (ae_var 0)) (ae_fld (k:=0) (j:=2) g.c0 rfl (ae_var 0))))
    (as_one (as_if (at_cmp (op_eqP hu) s_eq (ae_var 1) ae_str) (as_one (as_expr (w_append (ae_var 4) (aa_cons (ae_lstM (aa_cons ae_str (aa_cons (ae_add (ae_var 2) ae_int) aa_nil))) aa_nil)))) (as_one (as_if (at_cmp op_notN snd_isNot (ae_var 3) ae_non) (as_one (as_asg (w_len g.b_len (aa_cons (ae_var 4) aa_nil)) (ag_ix hu (ae_ix hu (ae_var 4) (ae_var 3)) ae_int (h:=fun h1 h2 h3=>pg_sub h1 h2 h3)))) (as_cons (as_if (at_cmp (op_neP hu) snd_ne (ae_var 1) ae_str) (as_one (as_expr (w_append (ae_var 4) (aa_cons (ae_lstM (aa_cons ae_str (aa_cons (ae_add (w_len g.b_len (aa_cons (ae_var 4) aa_nil)) ae_int) aa_nil))) aa_nil)))) as_nil)
    (as_one (as_if (at_cmp (o_in hu) s_in (ae_var 1) (ae_glob g.v_PARTED)) (as_one (as_asg (w_len g.b_len (aa_cons (ae_var 4) aa_nil)) (ag_ix hu (ae_ix hu (ae_var 4) (ae_var 2)) ae_int (h:=fun h1 h2 h3=>pg_sub h1 h2 h3)))) as_nil)))))))))
theorem cal_Reader_close (g:Gv P w K mg ca):MetF P w K mg base cl (1) 0 "close" 1 [] F_Reader_close:=by
  obtain ⟨f,fd,hm,F⟩:=g.d_Reader_close
  exact ⟨ca 0,f,fd,_,[],[],g.c0,hm,by decide,(ok_Reader_close g F),(F.bindsN fun _ _ _ _ _ _ us hl=>match us,hl with | [_],_=>rfl),.nil,fun _=>rfl⟩
def B_Reader_turnX:ASX :=
  (xSeq (lfS (aAsg (aIf (aTst (aOp2 aNe (aFld 0 4 (aVar 0)) (aArgs (mkF .lst) aNil))) (aOp2 aIx (aFld 0 4 (aVar 0)) (aOp1 aNeg (aC (.int 1)))) (aArgs (mkF .tup) (aCons (aC (.str "")) (aCons (aC (.int 0)) (aCons (aC .non) aNil))))) (gSq 3 (gsCons (gNm 2) (gsCons (gNm 3) (gsCons (gNm 4) gsNil))))))
    (xSeq (xIf (lfT (aOr (aTst (aOp2 aNotIn (aVar 2) (aC (.nod .tup [(.str "try"),(.str "when")])))) (aTst (aOp2 aIsNot (aVar 4) (aC .non))))) (xRaise 0 (aVar 1)) (lfS aPass))
    (lfS (aSeq (aAsg (aOp2 aIx (aFld 0 0 (aVar 0)) (aFld 0 2 (aVar 0))) (gNm 5))
    (aSeq (aAsg (aArgs (mkF .tup) (aCons (aVar 2) (aCons (aVar 3) (aCons (aArgs (one aLenV) (aCons (aVar 5) aNil)) aNil)))) (gIx (aFld 0 4 (aVar 0)) (aOp1 aNeg (aC (.int 1)))))
    (aSeq (aExp (aBM "list" aAppend (aVar 5) (aCons (aArgs (mkM .lst) (aCons (aIf (aTst (aOp2 aEq (aVar 2) (aC (.str "try")))) (aC (.str "leave")) (aC (.str "pass"))) (aCons (aC .non) aNil))) aNil)))
    (aAsg (aArgs (one aLenV) (aCons (aVar 5) aNil)) (gIx (aOp2 aIx (aVar 5) (aVar 3)) (aC (.int 1))))))))))
theorem sc_Reader_turnX:FnScope ["self", "place", "word", "at", "other", "steps"] ["self", "place"] (defScope (inCls (top 25) 4)):=⟨rfl,rfl,rfl,by decide +kernel,rfl,by decide +kernel,by decide +kernel⟩
def F_Reader_turnX:AFX:=lenX 2 (fnX 6 B_Reader_turnX)
theorem ok_Reader_turnX (g:Gv P w K mg ca) {f:Addr} {fd:FuncData} (F:FunX K "turn" "Reader.turn" (inCls (top 25) 4) f fd):FnOk P w K mg base (L2N.CX P w) 3 f fd ["self", "place"] (spX ⟨K,w,mg,cl⟩ (xtc ca) 2 F_Reader_turnX):=by
  refine fn_okX F sc_Reader_turnX 6 2 rfl rfl B_Reader_turnX fun cdv A outer s H E hr hu=>?_
  have hN:=sc_Reader_turnX.nd
  have hc:(cxOf (L2N.CX P w) P w K mg base ["self", "place", "word", "at", "other", "steps"] "Reader.turn" (defScope (inCls (top 25) 4)) f cdv A outer s H E).calm = true:=rfl
  exact (xs_cons (lS (as_asg (ae_ife (at_cmp (op_neP hu) snd_ne (ae_fld (k:=0) (j:=4) g.c0 rfl (ae_var 0)) (ae_lstF aa_nil)) (ae_ix hu (ae_fld (k:=0) (j:=4) g.c0 rfl (ae_var 0)) (ae_neg ae_int)) (ae_tup (aa_cons ae_str (aa_cons ae_int (aa_cons ae_non aa_nil))))) (ag_sq (n:=3) hc (ags_cons (ag_name 2 hN) (ags_cons (ag_name 3 hN) (ags_cons (ag_name 4 hN) ags_nil))))))
    (xs_cons (xs_if (lT (PW.pt (aw_or (at_cmp (o_notIn hu) s_in (ae_var 2) (ae_glob g.v_PARTED)) (aw_or1 (at_cmp op_notN snd_isNot (ae_var 4) ae_non))))) (xs_one (xs_raiseFV (xf_0 g) rfl takesC (hr.mono (by omega)) (ae_var 1))) xs_nil)
    (lSs (as_cons (as_set 5 hN (ae_ix hu (ae_fld (k:=0) (j:=0) g.c0 rfl (ae_var 0)) (ae_fld (k:=0) (j:=2) g.c0 rfl (ae_var 0))))
    (as_cons (as_asg (ae_tup (aa_cons (ae_var 2) (aa_cons (ae_var 3) (aa_cons (w_len g.b_len (aa_cons (ae_var 5) aa_nil)) aa_nil)))) (ag_ix hu (ae_fld (k:=0) (j:=4) g.c0 rfl (ae_var 0)) (ae_neg ae_int) (h:=fun h1 h2 h3=>pg_sub h1 h2 h3)))
    (as_cons (as_expr (w_append (ae_var 5) (aa_cons (ae_lstM (aa_cons (ae_ife (at_cmp (op_eqP hu) s_eq (ae_var 2) ae_str) ae_str ae_str) (aa_cons ae_non aa_nil))) aa_nil)))
    (as_one (as_asg (w_len g.b_len (aa_cons (ae_var 5) aa_nil)) (ag_ix hu (ae_ix hu (ae_var 5) (ae_var 3)) ae_int (h:=fun h1 h2 h3=>pg_sub h1 h2 h3))))))))))
theorem cal_Reader_turnX (g:Gv P w K mg ca):MetX P w K mg base cl (xtc ca) 3 0 "turn" 2 F_Reader_turnX:=by
  obtain ⟨f,fd,hm,F⟩:=g.d_Reader_turnX
  exact ⟨ca 0,f,fd,_,g.c0,hm,by decide,ok_Reader_turnX g F,(F.bindsN fun _ _ _ _ _ _ us hl=>match us,hl with | [_,_],_=>rfl)⟩
def B_is_row:AS :=
  (aSeq (aAsg (aVar 0) (gStar 2 1 (gsCons (gNm 1) (gsCons (gNm 2) gsNil))))
    (aSeq (aIfS (aTst (aOp2 aIn (aVar 1) (aC (.nod .tup [(.str "mark"),(.str "peek"),(.str "yield"),(.str "call"),(.str "fail"),(.str "hold"),(.str "try"),(.str "when")])))) (aRet (aOp2 aEq (aVar 2) (aArgs (mkF .lst) aNil))) aPass)
    (aSeq (aIfS (aTst (aOp2 aNe (aArgs (one aLenV) (aCons (aVar 2) aNil)) (aC (.int 1)))) (aRet (aC (.bl false))) aPass)
    (aSeq (aIfS (aTst (aOp2 aIn (aVar 1) (aC (.nod .tup [(.str "start"),(.str "join")])))) (aRet (aCall F_is_name [] (aCons (aOp2 aIx (aVar 2) (aC (.int 0))) aNil))) aPass)
    (aRet (aAndV (aOp2 aIn (aVar 1) (aC (.nod (.tab [.inr "load",.inr "add",.inr "read",.inr "write",.inr "keep",.inr "own",.inr "ask",.inr "give",.inr "take",.inr "lock",.inr "bind",.inr "loop"]) [(.str "01234"),(.str "1234"),(.str "abcd"),(.str "abcd"),(.str "wxyz"),(.str "wxyz"),(.str "wxyz"),(.str "pq"),(.str "pq"),(.str "lm"),(.str "wxyz"),(.str "123")]))) (aAndV (aOp2 aEq (aArgs (one aLenV) (aCons (aOp2 aIx (aVar 2) (aC (.int 0))) aNil)) (aC (.int 1))) (aOp2 aIn (aOp2 aIx (aVar 2) (aC (.int 0))) (aOp2 aIx (aC (.nod (.tab [.inr "load",.inr "add",.inr "read",.inr "write",.inr "keep",.inr "own",.inr "ask",.inr "give",.inr "take",.inr "lock",.inr "bind",.inr "loop"]) [(.str "01234"),(.str "1234"),(.str "abcd"),(.str "abcd"),(.str "wxyz"),(.str "wxyz"),(.str "wxyz"),(.str "pq"),(.str "pq"),(.str "lm"),(.str "wxyz"),(.str "123")])) (aVar 1))))))))))
theorem sc_is_row:FnScope ["words", "first", "rest"] ["words"] (defScope (top 23)):=⟨rfl,rfl,rfl,by decide +kernel,rfl,by decide +kernel,by decide +kernel⟩
def F_is_row:AF:=lenF 1 (fnA 3 B_is_row)
theorem ok_is_row (g:Gv P w K mg ca) {f:Addr} {fd:FuncData} (F:FunX K "is_row" "is_row" (top 23) f fd):FnOk P w K mg base CX0 2 f fd ["words"] (spA ⟨K,w,mg,cl⟩ 1 F_is_row):=by
  refine fn_ok F sc_is_row 3 1 rfl rfl B_is_row fun cdv A outer s H E hr hu=>?_
  have hN:=sc_is_row.nd
  have hc:(cxOf CX0 P w K mg base ["words", "first", "rest"] "is_row" (defScope (top 23)) f cdv A outer s H E).nox.calm = true:=rfl
  exact (as_cons (as_asg (ae_var 0) (ag_star 2 1 hc (ags_cons (ag_name 1 hN) (ags_cons (ag_name 2 hN) ags_nil))))
    (as_cons (as_if (at_cmp (o_in hu) s_in (ae_var 1) (ae_glob g.v_ALONE)) (as_one (as_ret (ae_cmp (op_eqP hu) s_eq (ae_var 2) (ae_lstF aa_nil)))) as_nil)
    (as_cons (as_if (at_cmp (op_neP hu) snd_ne (w_len g.b_len (aa_cons (ae_var 2) aa_nil)) ae_int) (as_one (as_ret ae_bl)) as_nil)
    (as_cons (as_if (at_cmp (o_in hu) s_in (ae_var 1) (ae_glob g.v_OTHERS)) (as_one (as_ret (ae_call (cal_is_name g) (hr.mono (by omega)) (aa_cons (ae_ix hu (ae_var 2) ae_int) aa_nil)))) as_nil)
    (as_one (as_ret (ae_and (ae_cmp (o_in hu) s_in (ae_var 1) (ae_glob g.v_SIGNS)) (ae_and (ae_cmp (op_eqP hu) s_eq (w_len g.b_len (aa_cons (ae_ix hu (ae_var 2) ae_int) aa_nil)) ae_int) (ae_one (ae_cmp (o_in hu) s_in (ae_ix hu (ae_var 2) ae_int) (ae_ix hu (ae_glob g.v_SIGNS) (ae_var 1))))))))))))
theorem cal_is_row (g:Gv P w K mg ca):CalF P w K mg base cl (2) "is_row" 1 [] F_is_row:=by
  obtain ⟨f,fd,hm,F⟩:=g.d_is_row
  exact ⟨f,fd,_,[],[],hm,F.kp,(ok_is_row g F),(F.bindsN fun _ _ _ _ _ _ us hl=>match us,hl with | [_],_=>rfl),.nil,fun _=>rfl⟩
def B_Reader_plainX:ASX :=
  (xSeq (xIf (lfT (aNot (aTst (aCall F_is_row [] (aCons (aVar 1) aNil))))) (xRaise 0 (aVar 2)) (lfS aPass))
    (xSeq (lfS (aAsg (aVar 1) (gStar 2 1 (gsCons (gNm 3) (gsCons (gNm 4) gsNil)))))
    (xSeq (lfS (aAsg (aOp2 aIx (aFld 0 0 (aVar 0)) (aFld 0 2 (aVar 0))) (gNm 5)))
    (xSeq (xIf (lfT (aTst (aOp2 aIn (aVar 3) (aC (.nod .tup [(.str "lock"),(.str "hold"),(.str "bind"),(.str "loop"),(.str "try"),(.str "when")]))))) (xSeq (xIf (lfT (aTst (aOp2 aEq (aArgs (one aLenV) (aCons (aFld 0 4 (aVar 0)) aNil)) (aC (.int 4))))) (xRaise 0 (aVar 2)) (lfS aPass))
    (lfS (aExp (aBM "list" aAppend (aFld 0 4 (aVar 0)) (aCons (aArgs (mkF .tup) (aCons (aVar 3) (aCons (aArgs (one aLenV) (aCons (aVar 5) aNil)) (aCons (aC .non) aNil)))) aNil))))) (lfS aPass))
    (lfS (aSeq (aIfS (aTst (aOp2 aIn (aVar 3) (aC (.nod .tup [(.str "start"),(.str "join")])))) (aExp (aBM "list" aAppend (aFld 0 1 (aVar 0)) (aCons (aArgs (mkF .tup) (aCons (aVar 2) (aCons (aFld 0 2 (aVar 0)) (aCons (aVar 3) (aCons (aOp2 aIx (aVar 4) (aC (.int 0))) aNil))))) aNil))) aPass)
    (aExp (aBM "list" aAppend (aVar 5) (aCons (aArgs (mkM .lst) (aCons (aVar 3) (aCons (aIf (aTst (aOp2 aNe (aVar 4) (aArgs (mkF .lst) aNil))) (aOp2 aIx (aVar 4) (aC (.int 0))) (aC .non)) aNil))) aNil)))))))))
theorem sc_Reader_plainX:FnScope ["self", "words", "place", "first", "rest", "steps"] ["self", "words", "place"] (defScope (inCls (top 25) 3)):=⟨rfl,rfl,rfl,by decide +kernel,rfl,by decide +kernel,by decide +kernel⟩
def F_Reader_plainX:AFX:=lenX 3 (fnX 6 B_Reader_plainX)
theorem ok_Reader_plainX (g:Gv P w K mg ca) {f:Addr} {fd:FuncData} (F:FunX K "plain" "Reader.plain" (inCls (top 25) 3) f fd):FnOk P w K mg base (L2N.CX P w) 3 f fd ["self", "words", "place"] (spX ⟨K,w,mg,cl⟩ (xtc ca) 3 F_Reader_plainX):=by
  refine fn_okX F sc_Reader_plainX 6 3 rfl rfl B_Reader_plainX fun cdv A outer s H E hr hu=>?_
  have hN:=sc_Reader_plainX.nd
  have hc:(cxOf (L2N.CX P w) P w K mg base ["self", "words", "place", "first", "rest", "steps"] "Reader.plain" (defScope (inCls (top 25) 3)) f cdv A outer s H E).calm = true:=rfl
  exact (xs_cons (xs_if (lT (at_not (at_val (ae_call (cal_is_row g) (hr.mono (by omega)) (aa_cons (ae_var 1) aa_nil))))) (xs_one (xs_raiseFV (xf_0 g) rfl takesC (hr.mono (by omega)) (ae_var 2))) xs_nil)
    (xs_cons (lS (as_asg (ae_var 1) (ag_star 2 1 hc (ags_cons (ag_name 3 hN) (ags_cons (ag_name 4 hN) ags_nil)))))
    (xs_cons (lS (as_set 5 hN (ae_ix hu (ae_fld (k:=0) (j:=0) g.c0 rfl (ae_var 0)) (ae_fld (k:=0) (j:=2) g.c0 rfl (ae_var 0)))))
    (xs_cons (xs_if (lT (at_cmp (o_in hu) s_in (ae_var 3) (ae_glob g.v_BLOCKS))) (xs_cons (xs_if (lT (at_cmp (op_eqP hu) s_eq (w_len g.b_len (aa_cons (ae_fld (k:=0) (j:=4) g.c0 rfl (ae_var 0)) aa_nil)) (ae_glob g.v_MOST_DEEP))) (xs_one (xs_raiseFV (xf_0 g) rfl takesC (hr.mono (by omega)) (ae_var 2))) xs_nil)
    (xs_one (lS (as_expr (w_append (ae_fld (k:=0) (j:=4) g.c0 rfl (ae_var 0)) (aa_cons (ae_tup (aa_cons (ae_var 3) (aa_cons (w_len g.b_len (aa_cons (ae_var 5) aa_nil)) (aa_cons ae_non aa_nil)))) aa_nil)))))) xs_nil)
    (lSs (as_cons (as_if (at_cmp (o_in hu) s_in (ae_var 3) (ae_glob g.v_OTHERS)) (as_one (as_expr (w_append (ae_fld (k:=0) (j:=1) g.c0 rfl (ae_var 0)) (aa_cons (ae_tup (aa_cons (ae_var 2) (aa_cons (ae_fld (k:=0) (j:=2) g.c0 rfl (ae_var 0)) (aa_cons (ae_var 3) (aa_cons (ae_ix hu (ae_var 4) ae_int) aa_nil))))) aa_nil)))) as_nil)
    (as_one (as_expr (w_append (ae_var 5) (aa_cons (ae_lstM (aa_cons (ae_var 3) (aa_cons (ae_ife (at_cmp (op_neP hu) snd_ne (ae_var 4) (ae_lstF aa_nil)) (ae_ix hu (ae_var 4) ae_int) ae_non) aa_nil))) aa_nil))))))))))
theorem cal_Reader_plainX (g:Gv P w K mg ca):MetX P w K mg base cl (xtc ca) 3 0 "plain" 3 F_Reader_plainX:=by
  obtain ⟨f,fd,hm,F⟩:=g.d_Reader_plainX
  exact ⟨ca 0,f,fd,_,g.c0,hm,by decide,ok_Reader_plainX g F,(F.bindsN fun _ _ _ _ _ _ us hl=>match us,hl with | [_,_,_],_=>rfl)⟩
def B_Reader_takeX:ASX :=
  (xSeq (lfS (aAsg (aBM "str" (aSplit mkF) (aVar 1) (aCons (aC (.str " ")) aNil)) (gNm 3)))
    (xSeq (xIf (lfT (aTst (aOp2 aIs (aFld 0 2 (aVar 0)) (aC .non)))) (xSeq (xExp (xMeth 0 F_Reader_beginX (aVar 0) (aCons (aVar 3) (aCons (aVar 2) aNil))))
    (lfS aRetN)) (lfS aPass))
    (xSeq (lfS (aIfS (aAnd (aTst (aOp2 aEq (aVar 3) (aArgs (mkF .lst) (aCons (aC (.str "end")) aNil)))) (aTst (aOp2 aEq (aFld 0 4 (aVar 0)) (aArgs (mkF .lst) aNil)))) (aSeq (aExp (aBM "list" aAppend (aOp2 aIx (aFld 0 0 (aVar 0)) (aFld 0 2 (aVar 0))) (aCons (aArgs (mkM .lst) (aCons (aC (.str "done")) (aCons (aC .non) aNil))) aNil)))
    (aSeq (aSetF (aC .non) 0 2 (aVar 0))
    aRetN)) aPass))
    (xSeq (lfS (aAugF 0 3 (aVar 0) (aC (.int 1))))
    (xSeq (xIf (lfT (aTst (aOp2 aGt (aFld 0 3 (aVar 0)) (aC (.int 24))))) (xRaise 0 (aVar 2)) (lfS aPass))
    (xIf (lfT (aTst (aOp2 aEq (aVar 3) (aArgs (mkF .lst) (aCons (aC (.str "end")) aNil))))) (lfS (aExp (aMeth 0 F_Reader_close [] (aVar 0) aNil))) (xIf (lfT (aTst (aOp2 aEq (aVar 3) (aArgs (mkF .lst) (aCons (aC (.str "else")) aNil))))) (xExp (xMeth 0 F_Reader_turnX (aVar 0) (aCons (aVar 2) aNil))) (xExp (xMeth 0 F_Reader_plainX (aVar 0) (aCons (aVar 3) (aCons (aVar 2) aNil)))))))))))
theorem sc_Reader_takeX:FnScope ["self", "row", "place", "words"] ["self", "row", "place"] (defScope (inCls (top 25) 1)):=⟨rfl,rfl,rfl,by decide +kernel,rfl,by decide +kernel,by decide +kernel⟩
def F_Reader_takeX:AFX:=lenX 3 (fnX 4 B_Reader_takeX)
theorem ok_Reader_takeX (g:Gv P w K mg ca) {f:Addr} {fd:FuncData} (F:FunX K "take" "Reader.take" (inCls (top 25) 1) f fd):FnOk P w K mg base (L2N.CX P w) 4 f fd ["self", "row", "place"] (spX ⟨K,w,mg,cl⟩ (xtc ca) 3 F_Reader_takeX):=by
  refine fn_okX F sc_Reader_takeX 4 3 rfl rfl B_Reader_takeX fun cdv A outer s H E hr hu=>?_
  have hN:=sc_Reader_takeX.nd
  exact (xs_cons (lS (as_set 3 hN ((w_split (.inl rfl)) (ae_var 1) (aa_cons ae_str aa_nil))))
    (xs_cons (xs_if (lT (at_cmp op_isN snd_is (ae_fld (k:=0) (j:=2) g.c0 rfl (ae_var 0)) ae_non)) (xs_cons (xs_expr (xe_meth (cal_Reader_beginX g) (hr.mono (by omega)) takesC (ae_var 0) (aa_cons (ae_var 3) (aa_cons (ae_var 2) aa_nil))))
    (xs_one (lS as_retN))) xs_nil)
    (xs_cons (lS (as_if (PW.pt (aw_and (at_cmp (op_eqP hu) s_eq (ae_var 3) (ae_lstF (aa_cons ae_str aa_nil))) (aw_and1 (at_cmp (op_eqP hu) s_eq (ae_fld (k:=0) (j:=4) g.c0 rfl (ae_var 0)) (ae_lstF aa_nil))))) (as_cons (as_expr (w_append (ae_ix hu (ae_fld (k:=0) (j:=0) g.c0 rfl (ae_var 0)) (ae_fld (k:=0) (j:=2) g.c0 rfl (ae_var 0))) (aa_cons (ae_lstM (aa_cons ae_str (aa_cons ae_non aa_nil))) aa_nil)))
    (as_cons (as_setF (k:=0) (j:=2) g.c0 rfl ae_non (ae_var 0))
    (as_one as_retN))) as_nil))
    (xs_cons (lS (as_augF (k:=0) (j:=3) g.c0 rfl (ae_var 0) ae_int))
    (xs_cons (xs_if (lT (at_cmp op_gt s_gt (ae_fld (k:=0) (j:=3) g.c0 rfl (ae_var 0)) (ae_glob g.v_MOST_ROWS))) (xs_one (xs_raiseFV (xf_0 g) rfl takesC (hr.mono (by omega)) (ae_var 2))) xs_nil)
    (xs_one (xs_if (lT (at_cmp (op_eqP hu) s_eq (ae_var 3) (ae_lstF (aa_cons ae_str aa_nil)))) (lSs (as_one (as_expr (ae_meth0 (cal_Reader_close g) (hr.mono (by omega)) (ae_var 0))))) (xs_one (xs_if (lT (at_cmp (op_eqP hu) s_eq (ae_var 3) (ae_lstF (aa_cons ae_str aa_nil)))) (xs_one (xs_expr (xe_meth (cal_Reader_turnX g) (hr.mono (by omega)) takesC (ae_var 0) (aa_cons (ae_var 2) aa_nil)))) (xs_one (xs_expr (xe_meth (cal_Reader_plainX g) (hr.mono (by omega)) takesC (ae_var 0) (aa_cons (ae_var 3) (aa_cons (ae_var 2) aa_nil))))))))))))))
theorem cal_Reader_takeX (g:Gv P w K mg ca):MetX P w K mg base cl (xtc ca) 4 0 "take" 3 F_Reader_takeX:=by
  obtain ⟨f,fd,hm,F⟩:=g.d_Reader_takeX
  exact ⟨ca 0,f,fd,_,g.c0,hm,by decide,ok_Reader_takeX g F,(F.bindsN fun _ _ _ _ _ _ us hl=>match us,hl with | [_,_,_],_=>rfl)⟩
def B_Reader_endX:ASX :=
  (xSeq (xIf (lfT (aOr (aTst (aOp2 aIsNot (aFld 0 2 (aVar 0)) (aC .non))) (aTst (aOp2 (aEqDE false) (aFld 0 0 (aVar 0)) (aDisp []))))) (xRaise 0 (aVar 1)) (lfS aPass))
    (xFor (sVal (aFld 0 1 (aVar 0))) (gSq 4 (gsCons (gNm 2) (gsCons (gNm 3) (gsCons (gNm 4) (gsCons (gNm 5) gsNil))))) (xIf (lfT (aOr (aTst (aOp2 aEq (aVar 5) (aVar 3))) (aTst (aOp2 aNotIn (aVar 5) (aFld 0 0 (aVar 0)))))) (xRaise 0 (aVar 2)) (lfS aPass))))
theorem sc_Reader_endX:FnScope ["self", "many", "place", "name", "word", "other"] ["self", "many"] (defScope (inCls (top 25) 6)):=⟨rfl,rfl,rfl,by decide +kernel,rfl,by decide +kernel,by decide +kernel⟩
def F_Reader_endX:AFX:=lenX 2 (fnX 6 B_Reader_endX)
theorem ok_Reader_endX (g:Gv P w K mg ca) {f:Addr} {fd:FuncData} (F:FunX K "end" "Reader.end" (inCls (top 25) 6) f fd):FnOk P w K mg base (L2N.CX P w) 3 f fd ["self", "many"] (spX ⟨K,w,mg,cl⟩ (xtc ca) 2 F_Reader_endX):=by
  refine fn_okX F sc_Reader_endX 6 2 rfl rfl B_Reader_endX fun cdv A outer s H E hr hu=>?_
  have hN:=sc_Reader_endX.nd
  have hc:(cxOf (L2N.CX P w) P w K mg base ["self", "many", "place", "name", "word", "other"] "Reader.end" (defScope (inCls (top 25) 6)) f cdv A outer s H E).calm = true:=rfl
  exact (xs_cons (xs_if (lT (PW.pt (aw_or (at_cmp op_notN snd_isNot (ae_fld (k:=0) (j:=2) g.c0 rfl (ae_var 0)) ae_non) (aw_or1 (at_cmp (op_eqDE hu) s_eqDE (ae_fld (k:=0) (j:=0) g.c0 rfl (ae_var 0)) ae_disp0))))) (xs_one (xs_raiseFV (xf_0 g) rfl takesC (hr.mono (by omega)) (ae_var 1))) xs_nil)
    (xs_one (xs_for (passes_of rfl) hc (ai_val (ae_fld (k:=0) (j:=1) g.c0 rfl (ae_var 0))) (ag_sq (n:=4) hc (ags_cons (ag_name 2 hN) (ags_cons (ag_name 3 hN) (ags_cons (ag_name 4 hN) (ags_cons (ag_name 5 hN) ags_nil))))) (xs_one (xs_if (lT (PW.pt (aw_or (at_cmp (op_eqP hu) s_eq (ae_var 5) (ae_var 3)) (aw_or1 (at_cmp (o_notIn hu) s_in (ae_var 5) (ae_fld (k:=0) (j:=0) g.c0 rfl (ae_var 0))))))) (xs_one (xs_raiseFV (xf_0 g) rfl takesC (hr.mono (by omega)) (ae_var 2))) xs_nil)))))
theorem cal_Reader_endX (g:Gv P w K mg ca):MetX P w K mg base cl (xtc ca) 3 0 "end" 2 F_Reader_endX:=by
  obtain ⟨f,fd,hm,F⟩:=g.d_Reader_endX
  exact ⟨ca 0,f,fd,_,g.c0,hm,by decide,ok_Reader_endX g F,(F.bindsN fun _ _ _ _ _ _ us hl=>match us,hl with | [_,_],_=>rfl)⟩
def B_read_stepsX:ASX :=
  (xSeq (lfS (aAsg (aBM "str" (aSplit mkF) (aVar 0) (aCons (aC (.str "\n")) aNil)) (gStar 2 0 (gsCons (gNm 1) (gsCons (gNm 2) gsNil)))))
    (xSeq (lfS (aAsg (aMake 0 F_Reader_init [] aNil) (gNm 3)))
    (xSeq (xFor (sEnum (aCons (aVar 1) aNil)) (gSq 2 (gsCons (gNm 4) (gsCons (gNm 5) gsNil))) (xExp (xMeth 0 F_Reader_takeX (aVar 3) (aCons (aVar 5) (aCons (aVar 4) aNil)))))
    (xSeq (xIf (lfT (aTst (aOp2 aNe (aVar 2) (aC (.str ""))))) (xRaise 0 (aArgs (one aLenV) (aCons (aVar 1) aNil))) (lfS aPass))
    (xSeq (xExp (xMeth 0 F_Reader_endX (aVar 3) (aCons (aArgs (one aLenV) (aCons (aVar 1) aNil)) aNil)))
    (lfS (aSeq (aLockG (cellOf (aFld 0 0 (aVar 3))) (aAsg (aDc (sVal (aFld 0 0 (aVar 3))) (gNm 9) aYes (aVar 9) (aLc mkF (sVal (aOp2 aIx (aFld 0 0 (aVar 3)) (aVar 9))) (gNm 8) aYes (aArgs (one aTupV) (aCons (aVar 8) aNil)) [8]) [9]) (gNm 6)))
    (aSeq (aAsg (aDc (sVal (aFld 0 1 (aVar 3))) (gSq 4 (gsCons (gNm 4) (gsCons (gNm 9) (gsCons (gNm 10) (gsCons (gNm 11) gsNil))))) (aTst (aOp2 aEq (aVar 10) (aC (.str "start")))) (aVar 11) (aC (.bl true)) [4,9,10,11]) (gNm 7))
    (aRet (aFrz 3 (aArgs (mkF .tup) (aCons (aVar 6) (aCons (aVar 7) aNil)))))))))))))
theorem sc_read_stepsX:FnScope ["text", "rows", "last", "reader", "place", "row", "steps", "later", "step", "name", "word", "other"] ["text"] (defScope (top 26)):=⟨rfl,rfl,rfl,by decide +kernel,rfl,by decide +kernel,by decide +kernel⟩
def F_read_stepsX:AFX:=lenX 1 (fnX 12 B_read_stepsX)
theorem ok_read_stepsX (g:Gv P w K mg ca) {f:Addr} {fd:FuncData} (F:FunX K "read_steps" "read_steps" (top 26) f fd):FnOk P w K mg base (L2N.CX P w) 5 f fd ["text"] (spX ⟨K,w,mg,cl⟩ (xtc ca) 1 F_read_stepsX):=by
  refine fn_okX F sc_read_stepsX 12 1 rfl rfl B_read_stepsX fun cdv A outer s H E hr hu=>?_
  have hN:=sc_read_stepsX.nd
  have hc:(cxOf (L2N.CX P w) P w K mg base ["text", "rows", "last", "reader", "place", "row", "steps", "later", "step", "name", "word", "other"] "read_steps" (defScope (top 26)) f cdv A outer s H E).calm = true:=rfl
  exact (xs_cons (lS (as_asg ((w_split (.inl rfl)) (ae_var 0) (aa_cons ae_str aa_nil)) (ag_star 2 0 hc (ags_cons (ag_name 1 hN) (ags_cons (ag_name 2 hN) ags_nil)))))
    (xs_cons (lS (as_set 3 hN (ae_make0 (cal_Reader_init g) (hr.mono (by omega)) rfl)))
    (xs_cons (xs_for (passes_of rfl) hc (ai_enum rfl g.b_enumerate (aa_cons (ae_var 1) aa_nil)) (ag_sq (n:=2) hc (ags_cons (ag_name 4 hN) (ags_cons (ag_name 5 hN) ags_nil))) (xs_one (xs_expr (xe_meth (cal_Reader_takeX g) (hr.mono (by omega)) takesC (ae_var 3) (aa_cons (ae_var 5) (aa_cons (ae_var 4) aa_nil))))))
    (xs_cons (xs_if (lT (at_cmp (op_neP hu) snd_ne (ae_var 2) ae_str)) (xs_one (xs_raiseFV (xf_0 g) rfl takesC (hr.mono (by omega)) (w_len g.b_len (aa_cons (ae_var 1) aa_nil)))) xs_nil)
    (xs_cons (xs_expr (xe_meth (cal_Reader_endX g) (hr.mono (by omega)) takesC (ae_var 3) (aa_cons (w_len g.b_len (aa_cons (ae_var 1) aa_nil)) aa_nil)))
    (lSs (as_cons (as_lock (cellOf (aFld 0 0 (aVar 3))) (as_setDc (own:=[("name",9)]) 6 hc hN (ai_val (ae_fld (k:=0) (j:=0) g.c0 rfl (ae_var 3))) (blkOk_by (by kernel_rfl)) (fun _ _ _ _ _=>(av_name 9 hN)) (fun _ _ _ _ _=>at_none) (fun _ _ _ _ _=>(ae_var 9)) (fun _ _ _ _ _=>(ae_lc (own:=[("step",8)]) (.inl rfl) hc hN (ai_val (ae_ix hu (ae_fld (k:=0) (j:=0) g.c0 rfl (ae_var 3)) (ae_var 9))) (blkOk_by (by kernel_rfl)) (fun _ _ _ _ _=>(av_name 8 hN)) (fun _ _ _ _ _=>at_none) (fun _ _ _ _ _=>(w_tuple g.b_tuple (aa_cons (ae_var 8) aa_nil))))) (sw_trueD rfl rfl rfl rfl)))
    (as_cons (as_setDc (own:=[("place",4),("name",9),("word",10),("other",11)]) 7 hc hN (ai_val (ae_fld (k:=0) (j:=1) g.c0 rfl (ae_var 3))) (blkOk_by (by kernel_rfl)) (fun _ _ _ _ _=>(av_sq (n:=4) hc (avs_cons (av_name 4 hN) (avs_cons (av_name 9 hN) (avs_cons (av_name 10 hN) (avs_cons (av_name 11 hN) avs_nil)))))) (fun _ _ _ _ _=>(at_one (at_cmp (op_eqP hu) s_eq (ae_var 10) ae_str))) (fun _ _ _ _ _=>(ae_var 11)) (fun _ _ _ _ _=>ae_bl) (sw_trueD rfl rfl rfl rfl))
    (as_one (as_ret (ae_frz 3 (ae_tup (aa_cons (ae_var 6) (aa_cons (ae_var 7) aa_nil))))))))))))))
theorem cal_read_stepsX (g:Gv P w K mg ca):CalX P w K mg base cl (xtc ca) 5 "read_steps" 1 F_read_stepsX:=by
  obtain ⟨f,fd,hm,F⟩:=g.d_read_stepsX
  exact ⟨f,fd,_,hm,F.kp,ok_read_stepsX g F,(F.bindsN fun _ _ _ _ _ _ us hl=>match us,hl with | [_],_=>rfl)⟩
def B_Program_init_X:ASX :=
  (xSeq (xAsg (xCall F_read_stepsX (lfA (aCons (aVar 1) aNil))) (gSq 2 (gsCons (gFl 1 0 (aVar 0)) (gsCons (gFl 1 1 (aVar 0)) gsNil))))
    (lfS (aSetF (aVar 1) 1 2 (aVar 0))))
theorem sc_Program_init_X:FnScope ["self", "text"] ["self", "text"] (defScope (inCls (top 29) 0)):=⟨rfl,rfl,rfl,by decide +kernel,rfl,by decide +kernel,by decide +kernel⟩
def F_Program_init_X:AFX:=lenX 2 (fnX 2 B_Program_init_X)
theorem ok_Program_init_X (g:Gv P w K mg ca) {f:Addr} {fd:FuncData} (F:FunX K "__init__" "Program.__init__" (inCls (top 29) 0) f fd):FnOk P w K mg base (L2N.CX P w) 6 f fd ["self", "text"] (spX ⟨K,w,mg,cl⟩ (xtc ca) 2 F_Program_init_X):=by
  refine fn_okX F sc_Program_init_X 2 2 rfl rfl B_Program_init_X fun cdv A outer s H E hr hu=>?_
  have hc:(cxOf (L2N.CX P w) P w K mg base ["self", "text"] "Program.__init__" (defScope (inCls (top 29) 0)) f cdv A outer s H E).calm = true:=rfl
  exact (xs_cons (xs_asg (xe_call (cal_read_stepsX g) (hr.mono (by omega)) takesC (lA (aa_cons (ae_var 1) aa_nil))) (ag_sq (n:=2) hc (ags_cons (ag_fl (k:=1) (j:=0) g.c1 rfl (ae_var 0)) (ags_cons (ag_fl (k:=1) (j:=1) g.c1 rfl (ae_var 0)) ags_nil))))
    (xs_one (lS (as_setF (k:=1) (j:=2) g.c1 rfl (ae_var 1) (ae_var 0)))))
theorem cal_Program_init_X (g:Gv P w K mg ca):MakX P w K mg base cl (xtc ca) 6 1 2 [] F_Program_init_X:=by
  obtain ⟨f,fd,hm,F⟩:=g.d_Program_init_X
  exact ⟨ca 1,f,fd,_,[],[],g.c1,hm,ok_Program_init_X g F,(F.bindsN fun _ _ _ _ _ _ us hl=>match us,hl with | [_,_],_=>rfl),.nil,fun _=>rfl⟩
def B__law_read:AS :=
  (aSeq (aAsg (aC .non) (gNm 1))
    (aSeq (aAsg (aC .non) (gNm 2))
    (aSeq (xTryN 1 (xSet (xMake 1 F_Program_init_X [] (aCons (aVar 0) aNil)) 1) [⟨(fun c=>([0]:List Nat).contains c),some 3,fun c v=>(aSeq (aAsg (aC v) (gNm 2)) aPass)⟩])
    (aRet (aArgs (mkF .tup) (aCons (aVar 1) (aCons (aVar 2) aNil)))))))
theorem sc__law_read:FnScope ["_law_text_here", "_law_found", "_law_row", "e"] ["_law_text_here"] (defScope (top 49)):=⟨rfl,rfl,rfl,by decide +kernel,rfl,by decide +kernel,by decide +kernel⟩
def F__law_read:AF:=lenF 1 (fnA 4 B__law_read)
theorem ok__law_read (g:Gv P w K mg ca) {f:Addr} {fd:FuncData} (F:FunX K "_law_read" "_law_read" (top 49) f fd):FnOk P w K mg base CX0 8 f fd ["_law_text_here"] (spA ⟨K,w,mg,cl⟩ 1 F__law_read):=by
  refine fn_ok F sc__law_read 4 1 rfl rfl B__law_read fun cdv A outer s H E hr hu=>?_
  have hN:=sc__law_read.nd
  have hc:(cxOf CX0 P w K mg base ["_law_text_here", "_law_found", "_law_row", "e"] "_law_read" (defScope (top 49)) f cdv A outer s H E).nox.calm = true:=rfl
  exact (as_cons (as_set 1 hN ae_non)
    (as_cons (as_set 2 hN ae_non)
    (as_cons (as_tryN (nx:=1) (xt:=xtc ca) rfl rfl hN (fun W pn xe tk=>(xs_one (xs_set 1 hN (xe_make (cal_Program_init_X g) (hr.mono (by omega)) rfl tk (aa_cons (ae_var 0) aa_nil))))) (.named (hit:=(fun c=>([0]:List Nat).contains c)) (n := "e") (i:=3) ⟨rfl,by decide,.inl g.my_BadProgram⟩ rfl rfl g.hx_BadProgram (fun a oe cls d pn z G=>fs_set 2 phg_stays (fun _ _ _ q=>phg_set (by decide) q) hN (fe_xfG z (xT_BadProgram g z.c z.lt z.hc).1 (xT_BadProgram g z.c z.lt z.hc).2 (xfl_BadProgram z.c z.lt z.hc) G) (fS as_nil)) .nil))
    (as_one (as_ret (ae_tup (aa_cons (ae_var 1) (aa_cons (ae_var 2) aa_nil))))))))
theorem cal__law_read (g:Gv P w K mg ca):CalF P w K mg base cl (8) "_law_read" 1 [] F__law_read:=by
  obtain ⟨f,fd,hm,F⟩:=g.d__law_read
  exact ⟨f,fd,_,[],[],hm,F.kp,(ok__law_read g F),(F.bindsN fun _ _ _ _ _ _ us hl=>match us,hl with | [_],_=>rfl),.nil,fun _=>rfl⟩
def B__law_same (R__law_same:AF):AS :=
  (aSeq (aIfS (aTst (aOp2 aIs (aVar 1) (aC .non))) (aRet (aOp2 aIs (aVar 0) (aC .non))) aPass)
    (aSeq (aIfS (aOr (aTst (aArgs (two aIsi) (aCons (aVar 1) (aCons (aC (.ty "bool")) aNil)))) (aTst (aArgs (two aIsi) (aCons (aVar 0) (aCons (aC (.ty "bool")) aNil))))) (aRet (aAndV (aArgs (two aIsi) (aCons (aVar 1) (aCons (aC (.ty "bool")) aNil))) (aAndV (aArgs (two aIsi) (aCons (aVar 0) (aCons (aC (.ty "bool")) aNil))) (aOp2 aEq (aVar 0) (aVar 1))))) aPass)
    (aSeq (aIfS (aTst (aArgs (two aIsiT) (aCons (aVar 1) (aCons (aArgs (mkF .tup) (aCons (aC (.ty "int")) (aCons (aC (.ty "str")) aNil))) aNil)))) (aRet (aAndV (aArgs (two aIsiT) (aCons (aVar 0) (aCons (aArgs (mkF .tup) (aCons (aC (.ty "int")) (aCons (aC (.ty "str")) aNil))) aNil))) (aAndV (aOp2 aEq (aArgs (two aIsi) (aCons (aVar 0) (aCons (aC (.ty "int")) aNil))) (aArgs (two aIsi) (aCons (aVar 1) (aCons (aC (.ty "int")) aNil)))) (aOp2 aEq (aVar 0) (aVar 1))))) aPass)
    (aSeq (aIfS (aOr (aTst (aOp2 aNe (aArgs (two aIsi) (aCons (aVar 1) (aCons (aC (.ty "list")) aNil))) (aArgs (two aIsi) (aCons (aVar 0) (aCons (aC (.ty "list")) aNil))))) (aTst (aOp2 aNe (aArgs (two aIsi) (aCons (aVar 1) (aCons (aC (.ty "tuple")) aNil))) (aArgs (two aIsi) (aCons (aVar 0) (aCons (aC (.ty "tuple")) aNil)))))) (aRet (aC (.bl false))) aPass)
    (aSeq (aIfS (aNot (aTst (aArgs (two aIsiT) (aCons (aVar 0) (aCons (aArgs (mkF .tup) (aCons (aC (.ty "list")) (aCons (aC (.ty "tuple")) aNil))) aNil))))) (aRet (aC (.bl false))) aPass)
    (aRet (aAndV (aOp2 aEq (aArgs (one aLenV) (aCons (aVar 0) aNil)) (aArgs (one aLenV) (aCons (aVar 1) aNil))) (aArgs (one aAllV) (aCons (aLc mkF (sZipA (aCons (aVar 0) (aCons (aVar 1) aNil))) (gSq 2 (gsCons (gNm 2) (gsCons (gNm 3) gsNil))) aYes (aCall (lenF 2 (R__law_same)) [] (aCons (aVar 2) (aCons (aVar 3) aNil))) [2,3]) aNil)))))))))
theorem sc__law_same:FnScope ["_law_told", "_law_due", "_law_one", "_law_other"] ["_law_told", "_law_due"] (defScope (top 35)):=⟨rfl,rfl,rfl,by decide +kernel,rfl,by decide +kernel,by decide +kernel⟩
def R__law_same:Nat → AF
  | 0=>fun _ _=>none
  | k + 1=>fnA 4 (B__law_same ((R__law_same k)))
def F__law_same:AF:=lenF 2 ((R__law_same 40))
theorem oks__law_same {P:Program} {w:World} {K:PySem.W.Frag} {mg:Str → Option Value} {base:Heap} {ca:Nat → Addr} (g:Gv P w K mg ca) {f0:Addr} {fd0:FuncData} (F0:FunD K "_law_same" "_law_same" (defArgs (top 35)) (defBody (top 35)) (defScope (top 35)) [] [] f0 fd0) (hm0:mg "_law_same" = some (.ref f0)):∀ k:Nat,FnOk P w K mg base CX0 (0 + k) f0 fd0 ["_law_told", "_law_due"] (spA ⟨K,w,mg,cl⟩ 2 (lenF 2 ((R__law_same k))))
  | 0=>(fn_none 2 rfl).mono (Nat.zero_le _)
  | k + 1=>by
    have ih:=oks__law_same (base:=base) g F0 hm0 k
    have ih__law_same:=(show CalF P w K mg base cl (0 + k) "_law_same" 2 [] (lenF 2 _) from ⟨f0,fd0,_,[],[],hm0,F0.kp,ih,(F0.bindsN fun _ _ _ _ _ _ us hl=>match us,hl with | [_,_],_=>rfl),.nil,fun _=>rfl⟩)
    have o0:FnOk P w K mg base CX0 (0 + (k + 1)) f0 fd0 ["_law_told", "_law_due"] (spA ⟨K,w,mg,cl⟩ 2 (lenF 2 (fnA 4 (B__law_same ((R__law_same k)))))):=by
      refine fn_ok (k:=0 + k) F0 sc__law_same 4 2 rfl rfl (B__law_same ((R__law_same k))) fun cdv A outer s H E hr hu=>?_
      have hN:=sc__law_same.nd
      have hc:(cxOf CX0 P w K mg base ["_law_told", "_law_due", "_law_one", "_law_other"] "_law_same" (defScope (top 35)) f0 cdv A outer s H E).nox.calm = true:=rfl
      exact (as_cons (as_if (at_cmp op_isN snd_is (ae_var 1) ae_non) (as_one (as_ret (ae_cmp op_isN snd_is (ae_var 0) ae_non))) as_nil)
    (as_cons (as_if (PW.pt (aw_or (at_val (w_isi g.b_isinstance (aa_cons (ae_var 1) (aa_cons (w_tyname g.b_bool rfl) aa_nil)))) (aw_or1 (at_val (w_isi g.b_isinstance (aa_cons (ae_var 0) (aa_cons (w_tyname g.b_bool rfl) aa_nil))))))) (as_one (as_ret (ae_and (w_isi g.b_isinstance (aa_cons (ae_var 1) (aa_cons (w_tyname g.b_bool rfl) aa_nil))) (ae_and (w_isi g.b_isinstance (aa_cons (ae_var 0) (aa_cons (w_tyname g.b_bool rfl) aa_nil))) (ae_one (ae_cmp (op_eqP hu) s_eq (ae_var 0) (ae_var 1))))))) as_nil)
    (as_cons (as_if (at_val (w_isiT g.b_isinstance (aa_cons (ae_var 1) (aa_cons (ae_tup (aa_cons (w_tyname g.b_int rfl) (aa_cons (w_tyname g.b_str rfl) aa_nil))) aa_nil)))) (as_one (as_ret (ae_and (w_isiT g.b_isinstance (aa_cons (ae_var 0) (aa_cons (ae_tup (aa_cons (w_tyname g.b_int rfl) (aa_cons (w_tyname g.b_str rfl) aa_nil))) aa_nil))) (ae_and (ae_cmp (op_eqP hu) s_eq (w_isi g.b_isinstance (aa_cons (ae_var 0) (aa_cons (w_tyname g.b_int rfl) aa_nil))) (w_isi g.b_isinstance (aa_cons (ae_var 1) (aa_cons (w_tyname g.b_int rfl) aa_nil)))) (ae_one (ae_cmp (op_eqP hu) s_eq (ae_var 0) (ae_var 1))))))) as_nil)
    (as_cons (as_if (PW.pt (aw_or (at_cmp (op_neP hu) snd_ne (w_isi g.b_isinstance (aa_cons (ae_var 1) (aa_cons (w_tyname g.b_list rfl) aa_nil))) (w_isi g.b_isinstance (aa_cons (ae_var 0) (aa_cons (w_tyname g.b_list rfl) aa_nil)))) (aw_or1 (at_cmp (op_neP hu) snd_ne (w_isi g.b_isinstance (aa_cons (ae_var 1) (aa_cons (w_tyname g.b_tuple rfl) aa_nil))) (w_isi g.b_isinstance (aa_cons (ae_var 0) (aa_cons (w_tyname g.b_tuple rfl) aa_nil))))))) (as_one (as_ret ae_bl)) as_nil)
    (as_cons (as_if (at_not (at_val (w_isiT g.b_isinstance (aa_cons (ae_var 0) (aa_cons (ae_tup (aa_cons (w_tyname g.b_list rfl) (aa_cons (w_tyname g.b_tuple rfl) aa_nil))) aa_nil))))) (as_one (as_ret ae_bl)) as_nil)
    (as_one (as_ret (ae_and (ae_cmp (op_eqP hu) s_eq (w_len g.b_len (aa_cons (ae_var 0) aa_nil)) (w_len g.b_len (aa_cons (ae_var 1) aa_nil))) (ae_one (w_all hc g.b_all (aa_cons (ae_lc (own:=[("_law_one",2),("_law_other",3)]) (.inl rfl) hc hN (ai_zip rfl g.b_zip (aa_cons (ae_var 0) (aa_cons (ae_var 1) aa_nil))) (blkOk_by (by kernel_rfl)) (fun _ _ _ _ _=>(av_sq (n:=2) hc (avs_cons (av_name 2 hN) (avs_cons (av_name 3 hN) avs_nil)))) (fun _ _ _ _ _=>at_none) (fun _ _ _ _ _=>(ae_call ih__law_same (hr.mono (by omega)) (aa_cons (ae_var 2) (aa_cons (ae_var 3) aa_nil))))) aa_nil)))))))))))
    exact o0
theorem cal__law_same (g:Gv P w K mg ca):CalF P w K mg base cl (40) "_law_same" 2 [] F__law_same:=by
  obtain ⟨f0,fd0,hm0,F0⟩:=g.d__law_same
  have o:=oks__law_same (base:=base) g F0 hm0 40
  exact ⟨f0,fd0,_,[],[],hm0,F0.kp,o,(F0.bindsN fun _ _ _ _ _ _ us hl=>match us,hl with | [_,_],_=>rfl),.nil,fun _=>rfl⟩
def B_Program_str:AS :=
  (aRet (aArgs aStr2 (aCons (aFld 1 2 (aVar 0)) aNil)))
theorem sc_Program_str:FnScope ["self"] ["self"] (defScope (inCls (top 29) 3)):=⟨rfl,rfl,rfl,by decide +kernel,rfl,by decide +kernel,by decide +kernel⟩
def F_Program_str:AF:=lenF 1 (fnA 1 B_Program_str)
theorem ok_Program_str (g:Gv P w K mg ca) {f:Addr} {fd:FuncData} (F:FunX K "__str__" "Program.__str__" (inCls (top 29) 3) f fd):FnOk P w K mg base CX0 1 f fd ["self"] (spA ⟨K,w,mg,cl⟩ 1 F_Program_str):=by
  refine fn_ok F sc_Program_str 1 1 rfl rfl B_Program_str fun cdv A outer s H E hr hu=>?_
  exact (as_one (as_ret (w_str g.b_str (aa_cons (ae_fld (k:=1) (j:=2) g.c1 rfl (ae_var 0)) aa_nil))))
theorem cal_Program_str (g:Gv P w K mg ca):MetF P w K mg base cl (1) 1 "__str__" 1 [] F_Program_str:=by
  obtain ⟨f,fd,hm,F⟩:=g.d_Program_str
  exact ⟨ca 1,f,fd,_,[],[],g.c1,hm,by decide,(ok_Program_str g F),(F.bindsN fun _ _ _ _ _ _ us hl=>match us,hl with | [_],_=>rfl),.nil,fun _=>rfl⟩
def B_law:AS :=
  (aSeq (aAsg (aCall F__law_hat [] (aCons (aVar 0) aNil)) (gNm 1))
    (aSeq (aFor (sRng1 (aCons (aC (.int 3)) aNil)) (gNm 2) (aSeq (aAsg (aOp2 aAdd (aC (.int 1)) (aCall F__law_take [] (aCons (aVar 1) (aCons (aC (.int 4)) aNil)))) (gNm 3))
    (aSeq (aAsg (aCall F__law_plan [] (aCons (aVar 1) (aCons (aVar 3) (aCons (aOp2 aIx (aArgs (mkF .lst) (aCons (aC (.int 3)) (aCons (aC (.int 8)) (aCons (aC (.int 24)) aNil)))) (aCall F__law_take [] (aCons (aVar 1) (aCons (aC (.int 3)) aNil)))) (aCons (aCall F__law_words [] aNil) aNil))))) (gNm 4))
    (aSeq (aAsg (aCall F__law_text [] (aCons (aVar 4) aNil)) (gNm 5))
    (aSeq (aIfS (aTst (aOp2 aEq (aCall F__law_take [] (aCons (aVar 1) (aCons (aC (.int 4)) aNil))) (aC (.int 0)))) (aSeq (aAsg (aOp2 aAdd (aC (.int 2)) (aCall F__law_take [] (aCons (aVar 1) (aCons (aC (.int 4)) aNil)))) (gNm 6))
    (aSeq (aAsg (aOp2 aAdd (aOp2 aAdd (aOp2 aAdd (aVar 5) (aC (.str "task z\n"))) (aOp2 aRepS (aC (.str "hold\n")) (aVar 6))) (aOp2 aRepS (aC (.str "end\n")) (aVar 6))) (gNm 5))
    (aAsg (aOp2 aAdd (aOp2 aAdd (aVar 5) (aOp2 aRepS (aC (.str "add 1\n")) (aOp2 aSub (aC (.int 22)) (aCall F__law_take [] (aCons (aVar 1) (aCons (aC (.int 20)) aNil)))))) (aC (.str "end\n"))) (gNm 5)))) aPass)
    (aSeq (aFor (sRng1 (aCons (aCall F__law_take [] (aCons (aVar 1) (aCons (aC (.int 3)) aNil))) aNil)) (gNm 7) (aAsg (aCall F__law_spoilt [] (aCons (aVar 1) (aCons (aVar 5) aNil))) (gNm 5)))
    (aSeq (aAsg (aCall F__law_bad_row [] (aCons (aVar 5) aNil)) (gNm 8))
    (aSeq (aAsg (aCall F__law_read [] (aCons (aVar 5) aNil)) (gSq 2 (gsCons (gNm 9) (gsCons (gNm 10) gsNil))))
    (aSeq (aIfS (aOr (aNot (aTst (aCall F__law_same [] (aCons (aVar 10) (aCons (aVar 8) aNil))))) (aTst (aOp2 aNe (aOp2 aIs (aVar 9) (aC .non)) (aOp2 aIsNot (aVar 8) (aC .non))))) (aRet (aC (.bl false))) aPass)
    (aIfS (aAnd (aTst (aOp2 aIsNot (aVar 9) (aC .non))) (aTst (aOp2 aNe (aArgs (aO1 1 F_Program_str pStr) (aCons (aVar 9) aNil)) (aVar 5)))) (aRet (aC (.bl false))) aPass))))))))))
    (aSeq (aAsg (aArgs (mkF .lst) (aCons (aC (.str "")) (aCons (aC (.str "task a\nend")) (aCons (aC (.str "task a\n")) (aCons (aC (.str "task a\nstart a\nend\n")) (aCons (aC (.str "task a\nadd 1\njoin a\nend\n")) aNil)))))) (gNm 11))
    (aRet (aOp2 aEq (aLc mkF (sVal (aVar 11)) (gNm 5) aYes (aOp2 aIx (aCall F__law_read [] (aCons (aVar 5) aNil)) (aC (.int 1))) [5]) (aArgs (mkF .lst) (aCons (aC (.int 0)) (aCons (aC (.int 1)) (aCons (aC (.int 1)) (aCons (aC (.int 1)) (aCons (aC (.int 2)) aNil)))))))))))
theorem sc_law:FnScope ["_law_script", "_law_hat_here", "_law_turn", "_law_many", "_law_plan_here", "_law_text_here", "_law_deep", "_law_bend", "_law_due", "_law_found", "_law_row", "_law_some"] ["_law_script"] (defScope (top 51)):=⟨rfl,rfl,rfl,by decide +kernel,rfl,by decide +kernel,by decide +kernel⟩
def F_law:AF:=lenF 1 (fnA 12 B_law)
theorem ok_law (g:Gv P w K mg ca) {f:Addr} {fd:FuncData} (F:FunX K "law" "law" (top 51) f fd):FnOk P w K mg base CX0 45 f fd ["_law_script"] (spA ⟨K,w,mg,cl⟩ 1 F_law):=by
  refine fn_ok F sc_law 12 1 rfl rfl B_law fun cdv A outer s H E hr hu=>?_
  have hN:=sc_law.nd
  have hc:(cxOf CX0 P w K mg base ["_law_script", "_law_hat_here", "_law_turn", "_law_many", "_law_plan_here", "_law_text_here", "_law_deep", "_law_bend", "_law_due", "_law_found", "_law_row", "_law_some"] "law" (defScope (top 51)) f cdv A outer s H E).nox.calm = true:=rfl
  exact (as_cons (as_set 1 hN (ae_call (cal__law_hat g) (hr.mono (by omega)) (aa_cons (ae_var 0) aa_nil)))
    (as_cons (as_for PassesOwn.never hc (ai_range1 rfl g.b_range (aa_cons ae_int aa_nil)) (ag_name 2 hN) (as_cons (as_set 3 hN (ae_add ae_int (ae_call (cal__law_take g) (hr.mono (by omega)) (aa_cons (ae_var 1) (aa_cons ae_int aa_nil)))))
    (as_cons (as_set 4 hN (ae_call (cal__law_plan g) (hr.mono (by omega)) (aa_cons (ae_var 1) (aa_cons (ae_var 3) (aa_cons (ae_ix hu (ae_lstF (aa_cons ae_int (aa_cons ae_int (aa_cons ae_int aa_nil)))) (ae_call (cal__law_take g) (hr.mono (by omega)) (aa_cons (ae_var 1) (aa_cons ae_int aa_nil)))) (aa_cons (ae_call0 (cal__law_words g) (hr.mono (by omega))) aa_nil))))))
    (as_cons (as_set 5 hN (ae_call (cal__law_text g) (hr.mono (by omega)) (aa_cons (ae_var 4) aa_nil)))
    (as_cons (as_if (at_cmp (op_eqP hu) s_eq (ae_call (cal__law_take g) (hr.mono (by omega)) (aa_cons (ae_var 1) (aa_cons ae_int aa_nil))) ae_int) (as_cons (as_set 6 hN (ae_add ae_int (ae_call (cal__law_take g) (hr.mono (by omega)) (aa_cons (ae_var 1) (aa_cons ae_int aa_nil)))))
    (as_cons (as_set 5 hN (ae_add (ae_add (ae_add (ae_var 5) ae_str) (ae_mulS ae_str (ae_var 6))) (ae_mulS ae_str (ae_var 6))))
    (as_one (as_set 5 hN (ae_add (ae_add (ae_var 5) (ae_mulS ae_str (ae_sub ae_int (ae_call (cal__law_take g) (hr.mono (by omega)) (aa_cons (ae_var 1) (aa_cons ae_int aa_nil)))))) ae_str))))) as_nil)
    (as_cons (as_for PassesOwn.never hc (ai_range1 rfl g.b_range (aa_cons (ae_call (cal__law_take g) (hr.mono (by omega)) (aa_cons (ae_var 1) (aa_cons ae_int aa_nil))) aa_nil)) (ag_name 7 hN) (as_one (as_set 5 hN (ae_call (cal__law_spoilt g) (hr.mono (by omega)) (aa_cons (ae_var 1) (aa_cons (ae_var 5) aa_nil))))))
    (as_cons (as_set 8 hN (ae_call (cal__law_bad_row g) (hr.mono (by omega)) (aa_cons (ae_var 5) aa_nil)))
    (as_cons (as_asg (ae_call (cal__law_read g) (hr.mono (by omega)) (aa_cons (ae_var 5) aa_nil)) (ag_sq (n:=2) hc (ags_cons (ag_name 9 hN) (ags_cons (ag_name 10 hN) ags_nil))))
    (as_cons (as_if (PW.pt (aw_or (at_not (at_val (ae_call (cal__law_same g) (hr.mono (by omega)) (aa_cons (ae_var 10) (aa_cons (ae_var 8) aa_nil))))) (aw_or1 (at_cmp (op_neP hu) snd_ne (ae_cmp op_isN snd_is (ae_var 9) ae_non) (ae_cmp op_notN snd_isNot (ae_var 8) ae_non))))) (as_one (as_ret ae_bl)) as_nil)
    (as_one (as_if (PW.pt (aw_and (at_cmp op_notN snd_isNot (ae_var 9) ae_non) (aw_and1 (at_cmp (op_neP hu) snd_ne (w_strO (cal_Program_str g) (hr.mono (by omega)) g.b_str (aa_cons (ae_var 9) aa_nil)) (ae_var 5))))) (as_one (as_ret ae_bl)) as_nil)))))))))))
    (as_cons (as_set 11 hN (ae_lstF (aa_cons ae_str (aa_cons ae_str (aa_cons ae_str (aa_cons ae_str (aa_cons ae_str aa_nil)))))))
    (as_one (as_ret (ae_cmp (op_eqP hu) s_eq (ae_lc (own:=[("_law_text_here",5)]) (.inl rfl) hc hN (ai_val (ae_var 11)) (blkOk_by (by kernel_rfl)) (fun _ _ _ _ _=>(av_name 5 hN)) (fun _ _ _ _ _=>at_none) (fun _ _ _ _ _=>(ae_ix hu (ae_call (cal__law_read g) (hr.mono (by omega)) (aa_cons (ae_var 5) aa_nil)) ae_int))) (ae_lstF (aa_cons ae_int (aa_cons ae_int (aa_cons ae_int (aa_cons ae_int (aa_cons ae_int aa_nil))))))))))))
end K03
end
section
open PySem Rp K03
namespace K03
def hatC (ns:List Int) (i:Nat) (c m:Int):Kd × List AV:=(.lst,[.nod .lst (ns.map .int),.int i,.int c,.int m])
structure HatOk (c:Kd × List AV):Prop where
  ex:∃ (ns:List Int) (i:Nat) (d m:Int),c = hatC ns i d m ∧ 0 ≤ m ∧ m < 2305843009213693951
theorem take_ok {h:AH} {n:Nat} {z:Kd × List AV} (e:h.get n = some z) (H:HatOk z) {k:Nat} (hk:0 < k) (hk2:k < 18446744073709551616):∃ (d:Nat) (z':Kd × List AV),d < k ∧ HatOk z' ∧ F__law_take [.ref n,.int k] h = some (.int d,h.put n z'):=by
  obtain ⟨ns,i,c,m,rfl,hm0,hm1⟩:=H
  unfold hatC at e
  have hsome:(h.get n).isSome = true:=by rw [e]; rfl
  have hm:∀ (j:Int) h',aMod (.int j) (.int k) h' = some (.int (j % k),h'):=fun j h' => ev_mod (by omega)
  have hd:∀ (j:Int) h',aDiv (.int j) (.int k) h' = some (.int (j / k),h'):=fun j h' => ev_div (by omega) (by omega)
  have hM:∀ (j:Int) h',aMod (.int j) (.int 2305843009213693951) h' = some (.int (j % 2305843009213693951),h'):=fun j h' => ev_mod (by omega)
  have hD:∀ (j:Int) h',aDiv (.int j) (.int 1021) h' = some (.int (j / 1021),h'):=fun j h' => ev_div (by omega) (by omega)
  have m1:∀ (j:Int) h',aMul (.int j) (.int 52391) h' = some (.int (j * 52391),h'):=fun j h' => ev_mulI (by simp [mulC])
  have m2:∀ (j:Int) h',aMul (.int j) (.int 31) h' = some (.int (j * 31),h'):=fun j h' => ev_mulI (by simp [mulC])
  have m3:∀ (j:Int) h',aMul (.int j) (.int 48271) h' = some (.int (j * 48271),h'):=fun j h' => ev_mulI (by simp [mulC])
  have m4:∀ (j:Int) h',aMul (.int j) (.int 16807) h' = some (.int (j * 16807),h'):=fun j h' => ev_mulI (by simp [mulC])
  have m5:∀ (j:Int) h',0 ≤ j → j < 2305843009213693951 → aMul (.int j) (.int j) h' = some (.int (j * j),h'):=fun j h' a b=>ev_mulI (by
    simp only [mulC,Bool.or_eq_true,Bool.and_eq_true,decide_eq_true_eq]; omega)
  have dig:∀ x:Int,∃ d:Nat,(d:Int) = x % k ∧ d < k:=fun x=>by
    have:=Int.emod_lt_of_pos x (show (0:Int) < k by omega)
    have:=Int.emod_nonneg x (show (k:Int) ≠ 0 by omega)
    exact ⟨(x % k).toNat,by omega,by omega⟩
  have mx:∀ x:Int,0 ≤ x % 2305843009213693951 ∧ x % 2305843009213693951 < 2305843009213693951:=fun x=>⟨Int.emod_nonneg x (by omega),Int.emod_lt_of_pos x (by omega)⟩
  by_cases c1:c < k
  · have c1':¬ ((k:Nat):Int) ≤ c:=by omega
    by_cases c2:i < ns.length
    · have ra:L2.atI (ns.map AV.int) (i:Int) = some (AV.int ns[i]):=by rw [atI_at (by simpa using c2)]; simp [c2]
      have c2':(i:Int) < (ns.length:Int):=by omega
      generalize hM1:(m * 52391 + ns[i] * 31 + (i + 1)) % 2305843009213693951 = M1
      have M1b:0 ≤ M1 ∧ M1 < 2305843009213693951:=by rw [← hM1]; exact mx _
      generalize hv:ns[i] = v at ra hM1
      by_cases c3:(1000000000000000000:Int) ≤ v
      · by_cases c4:((k:Nat):Int) ≤ v
        · obtain ⟨d,hd1,hd2⟩:=dig v
          refine ⟨d,hatC ns (i + 1) (v / k) M1,hd2,⟨ns,i + 1,_,M1,rfl,M1b.1,M1b.2⟩,?_⟩
          simp [F__law_take,ev_fn,B__law_take,startA,e,c1,c2',ra,hm,hd,hM,m1,m2,hM1,c3,c4,L2.ixN,get_putI hsome,put_put hsome,hd1,hatC]
        · have hk0:k ≠ 0:=by omega
          obtain ⟨d,hd1,hd2⟩:=dig (((M1 * M1 % 2305843009213693951 * 48271 + M1 * 16807 + 12345) % 2305843009213693951) / 1021)
          refine ⟨d,hatC ns (i + 1) v ((M1 * M1 % 2305843009213693951 * 48271 + M1 * 16807 + 12345) % 2305843009213693951),hd2,⟨ns,i + 1,v,_,rfl,(mx _).1,(mx _).2⟩,?_⟩
          simp [F__law_take,ev_fn,B__law_take,startA,e,c1,c2',ra,hm,hd,hM,hD,m1,m2,m3,m4,m5 M1 _ M1b.1 M1b.2,hM1,c3,c4,hk0,L2.ixN,get_putI hsome,put_put hsome,hd1,hatC]
      · have c4:¬ ((k:Nat):Int) ≤ 0:=by omega
        have hk0:k ≠ 0:=by omega
        obtain ⟨d,hd1,hd2⟩:=dig (((M1 * M1 % 2305843009213693951 * 48271 + M1 * 16807 + 12345) % 2305843009213693951) / 1021)
        refine ⟨d,hatC ns (i + 1) 0 ((M1 * M1 % 2305843009213693951 * 48271 + M1 * 16807 + 12345) % 2305843009213693951),hd2,⟨ns,i + 1,0,_,rfl,(mx _).1,(mx _).2⟩,?_⟩
        simp [F__law_take,ev_fn,B__law_take,startA,e,c1,c2',ra,hm,hd,hM,hD,m1,m2,m3,m4,m5 M1 _ M1b.1 M1b.2,hM1,c3,c4,hk0,L2.ixN,get_putI hsome,put_put hsome,hd1,hatC]
    · have c2':¬ ((i:Int) < (ns.length:Int)):=by omega
      obtain ⟨d,hd1,hd2⟩:=dig (((m * m % 2305843009213693951 * 48271 + m * 16807 + 12345) % 2305843009213693951) / 1021)
      refine ⟨d,hatC ns i c ((m * m % 2305843009213693951 * 48271 + m * 16807 + 12345) % 2305843009213693951),hd2,⟨ns,i,c,_,rfl,(mx _).1,(mx _).2⟩,?_⟩
      simp [F__law_take,ev_fn,B__law_take,startA,e,c1,c1',c2,c2',hm,hd,hM,hD,m3,m4,m5 m _ hm0 hm1,L2.ixN,get_putI hsome,put_put hsome,hd1,hatC]
  · have h1:((k:Nat):Int) ≤ c:=by omega
    obtain ⟨d,hd1,hd2⟩:=dig c
    refine ⟨d,hatC ns i (c / k) m,hd2,⟨ns,i,_,m,rfl,hm0,hm1⟩,?_⟩
    simp [F__law_take,ev_fn,B__law_take,startA,e,c1,h1,hm,hd,L2.ixN,hd1,hatC]
end K03
end
section
namespace K03
open PySem Rp K03
theorem of_lst {h:AH} {n:Nat} {z:Kd × List AV} (e:h.get n = some z) (H:HatOk z) {xs:List AV} (h0:xs ≠ []) (h1:xs.length < 1000000):∃ x z',x ∈ xs ∧ HatOk z' ∧ F__law_of [.ref n,.nod .lst xs] h = some (x,h.put n z'):=by
  have hp:0 < xs.length:=List.length_pos_iff.mpr h0
  obtain ⟨d,z',hd,hz,et⟩:=take_ok e H hp (by omega)
  refine ⟨xs[d],z',List.getElem_mem hd,hz,?_⟩
  have ea:L2.atI xs (d:Int) = some xs[d]:=by rw [atI_at hd]; simp [hd]
  simp [F__law_of,ev_fn,B__law_of,startA,et,ea]
theorem of_str {h:AH} {n:Nat} {z:Kd × List AV} (e:h.get n = some z) (H:HatOk z) {x:PySem.Str} (h0:0 < x.length) (h1:x.length < 1000000):∃ c z',c ∈ x.cps.toList ∧ HatOk z' ∧ F__law_of [.ref n,.str x] h = some (.str ⟨#[c]⟩,h.put n z'):=by
  obtain ⟨d,z',hd,hz,et⟩:=take_ok e H h0 (by omega)
  have hl:x.length = x.cps.toList.length:=by simp [PySem.Str.length]
  have hd':d < x.cps.toList.length:=by rw [← hl]; exact hd
  have ea:L2.atI x.cps.toList (d:Int) = some x.cps.toList[d]:=by rw [atI_at hd']; simp [hd']
  have hs:x.length ≤ sizeLine:=by rw [sizeLine_eq]; omega
  have len:∀ h',aLenV (.str x) h' = some (.int x.length,h'):=fun h' => len_str hs
  have ix:∀ h',aIx (.str x) (.int d) h' = some (.str ⟨#[x.cps.toList[d]]⟩,h'):=fun h' => by
    have h1:aIxQ (.str x) (.int d) h' = none:=rfl
    unfold aIx
    rw [h1,orO_none]
    unfold aIxS
    simp only [if_pos hs,ea]
    rfl
  refine ⟨x.cps.toList[d],z',List.getElem_mem hd',hz,?_⟩
  simp [F__law_of,ev_fn,B__law_of,startA,et,len,ix]
end K03
end
section
namespace K03
open PySem Rp K03
theorem blocks_ok {h:AH}:F__law_blocks [] h = some (.nod .lst [.str "lock",.str "hold",.str "bind",.str "loop",.str "try",.str "when"],h):=by
  have hz:(6:Nat) ≤ sizeLine:=by rw [sizeLine_eq]; omega
  simp [F__law_blocks,ev_fn,B__law_blocks,startA,mkF,hz]
theorem hat_ok {h:AH} (ns:List Int):∃ z,HatOk z ∧ F__law_hat [.nod .scr (ns.map .int)] h = some (.ref h.next,h.new z):=by
  refine ⟨hatC (ns.take 63) 0 0 977,⟨_,0,0,977,rfl,by omega,by omega⟩,?_⟩
  have hz:(4:Nat) ≤ sizeLine:=by rw [sizeLine_eq]; omega
  have hc:cutA (ns.map AV.int) none (some 63) = (ns.take 63).map AV.int:=by
    have h2:HT.sIx (ns.map AV.int).length (ns.map AV.int).length (some 63) = min 63 (ns.map AV.int).length:=HT.sIx_nat _ _ 63
    unfold cutA
    rw [h2,HT.sIx_none,List.drop_zero,Nat.sub_zero,List.map_take,List.length_map]
    by_cases q:63 ≤ ns.length
    · rw [Nat.min_eq_left q]
    · rw [Nat.min_eq_right (by omega),List.take_of_length_le (by simp),List.take_of_length_le (by simp; omega)]
  have hl:min 63 ns.length ≤ sizeLine:=by rw [sizeLine_eq]; omega
  simp [F__law_hat,ev_fn,B__law_hat,startA,aSlice,aNo,aPart,aSl,look,hc,mkF,mkM,aListV,seqOf,hz,hl,hatC]
end K03
end
section
namespace K03
open PySem PySem.Spec PyProof.Rows L2 Rp K03
def wordsL:List PySem.Str:=["load", "add", "read", "write", "keep", "own", "ask", "give", "take", "yield", "call", "fail", "start", "join", "mark", "peek", "lock", "hold", "bind", "loop", "try", "when", "load", "add", "lock", "hold"]
def wordsT:PySem.Str:=("load add read write keep own ask give take yield call fail start join mark peek" : PySem.Str) ++ (" lock hold bind loop try when load add lock hold" : PySem.Str)
theorem words_split:Txt.split wordsT " " = wordsL:=by decide +kernel
theorem ev_addS {a b:PySem.Str} {h:AH} (e:a.length + b.length ≤ sizeLine):aAdd (.str a) (.str b) h = some (.str (a ++ b),h):=by
  have h1:aAddI (.str a) (.str b) h = none:=rfl
  have h2:aAddS (.str a) (.str b) h = some (.str (a ++ b),h):=by
    show (if a.length + b.length ≤ sizeLine then some (AV.str (a ++ b),h) else none) = _
    rw [if_pos e]
  unfold aAdd
  rw [h1,orO_none,h2]
  rfl
theorem words_ok {h:AH}:F__law_words [] h = some (.nod .lst (wordsL.map .str),h):=by
  have hz:(26:Nat) ≤ sizeLine:=by rw [sizeLine_eq]; omega
  have l1:(Str.ofString "load add read write keep own ask give take yield call fail start join mark peek").length + (Str.ofString " lock hold bind loop try when load add lock hold").length ≤ sizeLine:=by
    have:(Str.ofString "load add read write keep own ask give take yield call fail start join mark peek").length + (Str.ofString " lock hold bind loop try when load add lock hold").length = 127:=by decide +kernel
    rw [this,sizeLine_eq]; omega
  have l2:wordsT.length + 2 ≤ sizeLine:=by
    have:wordsT.length = 127:=by decide +kernel
    rw [this,sizeLine_eq]; omega
  have e1:∀ h',aAdd (.str (Str.ofString "load add read write keep own ask give take yield call fail start join mark peek")) (.str (Str.ofString " lock hold bind loop try when load add lock hold")) h' = some (.str wordsT,h'):=fun _=>ev_addS l1
  have e2:∀ h',aSplit mkF (.str wordsT) [.str (Str.ofString " ")] h' = some (.nod .lst (wordsL.map .str),h'):=fun h' => by
    unfold aSplit
    have:Txt.split wordsT (Str.ofString " ") = wordsL:=words_split
    have hl:(wordsL.map AV.str).length ≤ sizeLine:=hz
    simp only [this,mkF,if_pos hl]
    rw [if_pos ⟨by decide +kernel,l2⟩]
  simp [F__law_words,ev_fn,B__law_words,startA,e1,aBM,e2,tyOk]
end K03
end
section
namespace K03
open PySem PySem.Spec PyProof.Rows L2 Rp K03
theorem strs_ext {a b:Str} (e:a.cps.toList = b.cps.toList):a = b:=by
  cases a; cases b
  simpa using e
end K03
end
section
namespace K03
open PySem PySem.Spec PyProof.Rows L2 Rp K03
theorem app_l {a b:Str}:(a ++ b).cps.toList = a.cps.toList ++ b.cps.toList:=by
  show (a.cps ++ b.cps).toList = _
  simp
theorem len_l {a:Str}:a.length = a.cps.toList.length:=by simp [PySem.Str.length]
theorem app_len {a b:Str}:(a ++ b).length = a.length + b.length:=by rw [len_l,app_l,List.length_append,← len_l,← len_l]
def Str.l (l:List Nat):Str:=⟨l.toArray⟩
theorem sl_l {l:List Nat}:(Str.l l).cps.toList = l:=by simp [Str.l]
theorem join_ne {c:Nat} {y:Str}:Txt.split y ⟨#[c]⟩ ≠ []:=by
  unfold Txt.split
  split
  · simp
  · split
    · simp
    · rw [StrLaws.partsBetween_eq]
      obtain ⟨p,r,e⟩:=StrLaws.partsFrom_ne y (⟨#[c]⟩:Str).length 0 (Builtin.Str.occurrences y ⟨#[c]⟩ 0 y.length (y.length + 1))
      rw [e]; simp
end K03
end
section
namespace K03
open PySem PySem.Spec PyProof.Rows L2 Rp K03
def Hat (h:AH) (n:Nat):Prop:=∃ z,h.get n = some z ∧ HatOk z
theorem Hat.kp {S:List Nat} {h h':AH} {n:Nat} (H:Hat h n) (k:Kp S h h') (hn:n ∉ S):Hat h' n:=by
  obtain ⟨z,e,o⟩:=H
  exact ⟨z,k.get e hn,o⟩
theorem Hat.lt {h:AH} {n:Nat} (H:Hat h n):n < h.next:=by
  obtain ⟨z,e,o⟩:=H
  exact AH.lt e
theorem hat_put {h:AH} {n:Nat} {z z':Kd × List AV} (e:h.get n = some z) (o:HatOk z'):Hat (h.put n z') n:=⟨z',by rw [AH.get_put e,if_pos rfl],o⟩
theorem take_hat {h:AH} {n:Nat} (H:Hat h n) (k:Nat) (K:Int) (hK:K = k:=by rfl) (hk:0 < k:=by omega) (hk2:k < 18446744073709551616:=by omega):∃ (d:Nat) (h':AH),d < k ∧ F__law_take [.ref n,.int K] h = some (.int d,h') ∧ Hat h' n ∧ Kp [n] h h' ∧ h'.next = h.next:=by
  subst hK
  obtain ⟨z,e,o⟩:=H
  obtain ⟨d,z',hd,hz,q⟩:=take_ok e o hk hk2
  exact ⟨d,_,hd,q,hat_put e hz,.put (by rw [e]; rfl) List.mem_cons_self,by simp⟩
theorem ofL_hat {h:AH} {n:Nat} (H:Hat h n) {xs:List AV} (h0:xs ≠ []) (h1:xs.length < 1000000):∃ (x:AV) (h':AH),x ∈ xs ∧ F__law_of [.ref n,.nod .lst xs] h = some (x,h') ∧ Hat h' n ∧ Kp [n] h h' ∧ h'.next = h.next:=by
  obtain ⟨z,e,o⟩:=H
  obtain ⟨x,z',hd,hz,q⟩:=of_lst e o h0 h1
  exact ⟨x,_,hd,q,hat_put e hz,.put (by rw [e]; rfl) List.mem_cons_self,by simp⟩
theorem ofS_hat {h:AH} {n:Nat} (H:Hat h n) {x:Str} (h0:0 < x.length) (h1:x.length < 1000000):∃ (c:Nat) (h':AH),c ∈ x.cps.toList ∧ F__law_of [.ref n,.str x] h = some (.str ⟨#[c]⟩,h') ∧ Hat h' n ∧ Kp [n] h h' ∧ h'.next = h.next:=by
  obtain ⟨z,e,o⟩:=H
  obtain ⟨c,z',hd,hz,q⟩:=of_str e o h0 h1
  exact ⟨c,_,hd,q,hat_put e hz,.put (by rw [e]; rfl) List.mem_cons_self,by simp⟩
structure NameOk (x:Str):Prop where
  pos:1 ≤ x.length
  le:x.length ≤ 8
  let_:∀ c ∈ x.cps.toList,97 ≤ c ∧ c ≤ 122
def tails:List Str:=["", "x", "pear", "aaaaaaa", "qzqz", "bb", "tree"]
def nameAt (t:Str) (a m:Nat):Str:=Str.l (t.cps.toList.take a ++ (97 + m) :: t.cps.toList.drop a)
theorem tails_ok:∀ t ∈ tails,t.length ≤ 7 ∧ ∀ c ∈ t.cps.toList,97 ≤ c ∧ c ≤ 122:=by decide +kernel
theorem nameAt_len {t:Str} {a m:Nat}:(nameAt t a m).length = t.length + 1:=by
  rw [len_l,nameAt,sl_l,List.length_append,List.length_cons,List.length_take,List.length_drop,← len_l]
  omega
theorem nameAt_ok {t:Str} {a m:Nat} (ht:t ∈ tails) (hm:m < 26):NameOk (nameAt t a m):=by
  obtain ⟨h1,h2⟩:=tails_ok t ht
  have hl:(nameAt t a m).length = t.length + 1:=by
    rw [len_l,nameAt,sl_l,List.length_append,List.length_cons,List.length_take,List.length_drop,← len_l]
    omega
  refine ⟨by omega,by omega,fun c hc=>?_⟩
  rw [nameAt,sl_l] at hc
  rcases List.mem_append.mp hc with q | q
  · exact h2 c (List.mem_of_mem_take q)
  · rcases List.mem_cons.mp q with rfl | q
    · omega
    · exact h2 c (List.mem_of_mem_drop q)
theorem nameAt_inj {t:Str} {a m m':Nat} (e:nameAt t a m = nameAt t a m'):m = m':=by
  have:=congrArg (fun s=>s.cps.toList) e
  simp only [nameAt,sl_l] at this
  have:=List.append_cancel_left this
  have:=(List.cons.inj this).1
  omega
theorem cutS_pre {t:Str} {a:Nat} (ha:a ≤ t.length):cutS t none (some (a:Int)) = Str.l (t.cps.toList.take a):=by
  unfold cutS Str.l
  rw [HT.sIx_nat,HT.sIx_none,Nat.min_eq_left ha]
  simp
theorem cutS_post {t:Str} {a:Nat} (ha:a ≤ t.length):cutS t (some (a:Int)) none = Str.l (t.cps.toList.drop a):=by
  unfold cutS Str.l
  rw [HT.sIx_nat,HT.sIx_none,Nat.min_eq_left ha,List.take_of_length_le]
  rw [List.length_drop,← len_l]; exact Nat.le_refl _
theorem name_cat {t:Str} {a m:Nat}:Str.l (t.cps.toList.take a) ++ ⟨#[97 + m]⟩ ++ Str.l (t.cps.toList.drop a) = nameAt t a m:=by
  apply strs_ext
  rw [app_l,app_l,nameAt,sl_l,sl_l,sl_l]
  simp
theorem sz (n:Nat) (h:n ≤ 16777216):n ≤ sizeLine:=by rw [sizeLine_eq]; omega
theorem names_okL {h:AH} {n m:Nat} (H:Hat h n) (hm:m ≤ 4):∃ (N:List Str) (h':AH),N.length = m ∧ N.Nodup ∧ (∀ x ∈ N,NameOk x) ∧
    F__law_names [.ref n,.int m] h = some (.nod .lst (N.map .str),h') ∧ Hat h' n ∧ Kp [n] h h' ∧ ∃ l,∀ x ∈ N,x.length = l:=by
  obtain ⟨d1,h1,hd1,e1,H1,k1,x1⟩:=take_hat H 7 7
  have ht:∃ t ∈ tails,tails[d1]? = some t:=⟨tails[d1]'hd1,List.getElem_mem _,List.getElem?_eq_getElem hd1⟩
  obtain ⟨t,ht,et⟩:=ht
  have htl:=(tails_ok t ht).1
  obtain ⟨a,h2,ha,e2,H2,k2,x2⟩:=take_hat H1 (t.length + 1) (t.length + 1)
  obtain ⟨b,h3,hb,e3,H3,k3,x3⟩:=take_hat H2 26 26
  obtain ⟨d4,h4,hd4,e4,H4,k4,x4⟩:=take_hat H3 6 6
  have kk:=k1.trans (k2.trans (k3.trans k4))
  have hp:∃ p ∈ ([1,3,5,7,9,11]:List Nat),([1,3,5,7,9,11]:List Nat)[d4]? = some p:=⟨_,List.getElem_mem hd4,List.getElem?_eq_getElem hd4⟩
  obtain ⟨p,hp,ep⟩:=hp
  have hp11:p ≤ 11:=by simp at hp; omega
  let nm:Nat → Str:=fun k=>nameAt t a ((b + p * k) % 26)
  refine ⟨(List.range m).map nm,?_⟩
  obtain ⟨s',h',ef,q⟩:=forL_ix (G:=[]) (g:=gNm 7) (B:=(aSeq (aAsg (aOp2 aIx (aC (.str "abcdefghijklmnopqrstuvwxyz")) (aOp2 aMod (aOp2 aAdd (aVar 4) (aOp2 aMul (aVar 5) (aVar 7))) (aC (.int 26)))) (gNm 8))
    (aExp (aBM "list" aAppend (aVar 6) (aCons (aOp2 aAdd (aOp2 aAdd (aSlice mkF (aVar 2) aNo (aPart (aVar 3))) (aVar 8)) (aSlice mkF (aVar 2) (aPart (aVar 3)) aNo)) aNil)))))
    (xs:=rgI 0 m) (fun i s h=>∃ u v,s = [some (.ref n),some (.int m),some (.str t),some (.int a),some (.int b),some (.int p),some (.ref h4.next),u,v] ∧ h = (h4.new (.lst,((List.range i).map nm).map .str)))
    (fun _ _ _ _=>rfl) (fun i x s h hx ⟨u,v,es,eh⟩=>by
      obtain ⟨hi,rfl⟩:=rgI_get hx
      subst es eh
      have hm1:aMul (.int p) (.int i) = fun h=>some (.int (p * i),h):=by
        funext h; exact ev_mulI (by simp only [mulC,Bool.or_eq_true,Bool.and_eq_true,decide_eq_true_eq]; omega)
      have hm2:∀ j:Int,aMod (.int j) (.int 26) = fun h=>some (.int (j % 26),h):=fun j=>by
        funext h; exact ev_mod (by omega)
      obtain ⟨r,hr⟩:∃ r,(b + p * i) % 26 = r:=⟨_,rfl⟩
      have hr26:r < 26:=by rw [← hr]; exact Nat.mod_lt _ (by omega)
      have hl:∀ h',aIx (.str "abcdefghijklmnopqrstuvwxyz") (.int ((r:Nat):Int)) h' = some (.str ⟨#[97 + r]⟩,h'):=fun h' => by
        have key:∀ r:Nat,r < 26 → (aIxS (.str "abcdefghijklmnopqrstuvwxyz") (.int (r:Int)) h' = some (.str ⟨#[97 + r]⟩,h')):=by
          intro r hr
          have hg:(Str.ofString "abcdefghijklmnopqrstuvwxyz").cps.toList = (List.range 26).map (97 + ·):=by decide +kernel
          have hll:(Str.ofString "abcdefghijklmnopqrstuvwxyz").length ≤ sizeLine:=sz _ (by decide +kernel)
          unfold aIxS
          simp only [if_pos hll,hg]
          rw [atI_at (by simpa using hr)]
          simp [hr]
        have h1:aIxQ (.str "abcdefghijklmnopqrstuvwxyz") (.int ((r:Nat):Int)) h' = none:=rfl
        unfold aIx
        rw [h1,orO_none,key _ hr26]
        rfl
      have hc:((b:Int) + (p:Int) * (i:Int)) % 26 = ((r:Nat):Int):=by rw [← hr]; simp
      have hs1:=cutS_pre (t:=t) (a:=a) (by omega)
      have hs2:=cutS_post (t:=t) (a:=a) (by omega)
      have htz:t.length ≤ sizeLine:=sz _ (by omega)
      have l1:(Str.l (t.cps.toList.take a)).length ≤ 7:=by rw [len_l,sl_l,List.length_take,← len_l]; omega
      have l2:(Str.l (t.cps.toList.drop a)).length ≤ 7:=by rw [len_l,sl_l,List.length_drop,← len_l]; omega
      have ad1:∀ h',aAdd (.str (Str.l (t.cps.toList.take a))) (.str ⟨#[97 + r]⟩) h' = some (.str (Str.l (t.cps.toList.take a) ++ ⟨#[97 + r]⟩),h'):=fun _=>ev_addS (sz _ (by
        have:(⟨#[97 + r]⟩:Str).length = 1:=rfl
        omega))
      have ad2:∀ h',aAdd (.str (Str.l (t.cps.toList.take a) ++ ⟨#[97 + r]⟩)) (.str (Str.l (t.cps.toList.drop a))) h' = some (.str (nm i),h'):=fun _=>by
        rw [ev_addS (sz _ (by
          rw [app_len]
          have:(⟨#[97 + r]⟩:Str).length = 1:=rfl
          omega)),name_cat]; show _ = some (AV.str (nameAt t a ((b + p * i) % 26)),_); rw [hr]
      have hsz:i < sizeLine:=by rw [sizeLine_eq]; omega
      refine ⟨_,_,_,_,[some (.ref n),some (.int m),some (.str t),some (.int a),some (.int b),some (.int p),some (.ref h4.next),some (.int i),some (.str ⟨#[97 + r]⟩)],rfl,?_,.inl rfl,_,_,rfl,rfl⟩
      simp [hm1,hm2,hc,hl,sl_str htz,hs1,hs2,ad1,ad2,appR,hsz,List.range_succ]
      exact AH.ext (fun j=>by simp [get_putI]; split <;> simp_all) (by simp)) ⟨none,none,rfl,rfl⟩
  obtain ⟨u,v,es,eh⟩:=q
  rw [rgI_len] at eh
  have eh4:h'.get h4.next = some (.lst,((List.range m).map nm).map .str):=by rw [eh]; simp
  have hk:Kp [n] h (h'.del h4.next):=by
    have:Kp [n] h h':=by rw [eh]; exact kk.trans .new
    exact this.del kk.nx
  refine ⟨h'.del h4.next,by simp,?_,?_,?_,?_,hk,t.length + 1,fun x hx=>by
    obtain ⟨k,_,rfl⟩:=List.mem_map.mp hx
    exact nameAt_len⟩
  · rw [List.nodup_iff_pairwise_ne,List.pairwise_map]
    refine List.Pairwise.imp_of_mem ?_ (List.nodup_iff_pairwise_ne.mp List.nodup_range)
    intro x y hx hy hne e
    have e:=nameAt_inj e
    have hx:=List.mem_range.mp hx
    have hy:=List.mem_range.mp hy
    apply hne
    have:∀ p ∈ ([1,3,5,7,9,11]:List Nat),∀ b < 26,∀ x < 4,∀ y < 4,(b + p * x) % 26 = (b + p * y) % 26 → x = y:=by decide +kernel
    exact this p hp b hb x (by omega) y (by omega) e
  · intro x hx
    obtain ⟨k,_,rfl⟩:=List.mem_map.mp hx
    exact nameAt_ok ht (Nat.mod_lt _ (by omega))
  · have i1:∀ h',aIx (.nod .lst [.str "",.str "x",.str "pear",.str "aaaaaaa",.str "qzqz",.str "bb",.str "tree"]) (.int (d1:Nat)) h' = some (.str t,h'):=fun h' => ev_ixL look_nod (by
      have:[AV.str "",.str "x",.str "pear",.str "aaaaaaa",.str "qzqz",.str "bb",.str "tree"] = tails.map .str:=rfl
      rw [this,List.getElem?_map,et]; rfl)
    have i2:∀ h',aIx (.nod .lst [.int 1,.int 3,.int 5,.int 7,.int 9,.int 11]) (.int (d4:Nat)) h' = some (.int (p:Nat),h'):=fun h' => ev_ixL look_nod (by
      have:[AV.int 1,.int 3,.int 5,.int 7,.int 9,.int 11] = ([1,3,5,7,9,11]:List Nat).map fun k=>AV.int (k:Nat):=rfl
      rw [this,List.getElem?_map,ep]; rfl)
    have z7:7 ≤ sizeLine:=sz _ (by omega)
    have z6:6 ≤ sizeLine:=sz _ (by omega)
    have htz:t.length ≤ sizeLine:=sz _ (by omega)
    simp [F__law_names,ev_fn,B__law_names,startA,mkF,mkM,z7,z6,e1,i1,len_str htz,e2,e3,e4,i2,rngK_nat (show m < 1000000 by omega)]
    rw [show h4.new (Kd.lst,[]) = h4.new (Kd.lst,List.map AV.str (List.map nm (List.range 0))) from rfl,ef,es]
    simp [frz1_ref eh4]
  · obtain ⟨z,ez,oz⟩:=H4
    have:=AH.lt ez
    exact ⟨z,by rw [get_del,if_neg (by omega),eh,get_new,if_neg (by omega)]; exact ez,oz⟩
end K03
end
section
namespace Rp
open PySem
inductive Stm where
  | one (w:Str) (t:Option Str)
  | blk (w:Str) (t:Option Str) (b:List Stm) (e:Bool) (o:List Stm)
def tv:Option Str → AV
  | none=>.non
  | some x=>.str x
mutual
def Stm.av:Stm → AV
  | .one w t=>.nod .tup [.str w,tv t]
  | .blk w t b e o=>.nod .tup [.str w,tv t,.nod .lst (avs b),if e = true then .nod .lst (avs o) else .non]
def avs:List Stm → List AV
  | []=>[]
  | x :: r=>x.av :: avs r
end
mutual
def Stm.rows:Stm → Nat
  | .one _ _=>1
  | .blk _ _ b _ o=>3 + rowss b + rowss o
def rowss:List Stm → Nat
  | []=>0
  | x :: r=>x.rows + rowss r
end
def signsL:List (Str × Str):=[("load", "01234"),("add", "1234"),("loop", "123"),("lock", "lm"),("give", "pq"),("take", "pq"),("read", "aabcd"),("write", "aabcd"),("keep", "wwxyz"),("own", "wwxyz"),("ask", "wwxyz"),("bind", "wwxyz")]
def noThing:List Str:=["yield", "call", "fail", "mark", "peek", "hold", "try", "when"]
def blocksL:List Str:=["lock", "hold", "bind", "loop", "try", "when"]
def othersL:List Str:=["start", "join"]
def TOk (O:List Str) (w:Str) (t:Option Str):Prop :=
  (∃ x ∈ signsL,w = x.1 ∧ ∃ c ∈ x.2.cps.toList,t = some ⟨#[c]⟩) ∨ (w ∈ othersL ∧ ∃ x ∈ O,t = some x) ∨ (w ∈ noThing ∧ t = none)
mutual
def Stm.ok (O:List Str):Nat → Stm → Prop
  | _,.one w t=>w ∉ blocksL ∧ TOk O w t
  | d,.blk w t b e o=>0 < d ∧ w ∈ blocksL ∧ TOk [] w t ∧ (e = true → w = "try" ∨ w = "when") ∧ (e = false → o = []) ∧ oks O (d - 1) b ∧ oks O (d - 1) o
def oks (O:List Str):Nat → List Stm → Prop
  | _,[]=>True
  | d,x :: r=>x.ok O d ∧ oks O d r
end
theorem avs_app:∀ {a b:List Stm},avs (a ++ b) = avs a ++ avs b
  | [],b=>by simp [avs]
  | x :: a,b=>by simp only [List.cons_append,avs]; rw [avs_app]
theorem rowss_app:∀ {a b:List Stm},rowss (a ++ b) = rowss a + rowss b
  | [],b=>by simp [rowss]
  | x :: a,b=>by simp only [List.cons_append,rowss]; rw [rowss_app]; omega
theorem oks_app {O:List Str} {d:Nat}:∀ {a b:List Stm},oks O d a → oks O d b → oks O d (a ++ b)
  | [],b,_,h=>by simpa [oks] using h
  | x :: a,b,h1,h2=>by
    simp only [oks] at h1
    simp only [List.cons_append,oks]
    exact ⟨h1.1,oks_app h1.2 h2⟩
theorem avs_len:∀ {a:List Stm},(avs a).length = a.length
  | []=>rfl
  | x :: a=>by simp only [avs,List.length_cons]; rw [avs_len]
theorem avs_map:∀ {a:List Stm},avs a = a.map Stm.av
  | []=>rfl
  | x :: a=>by simp only [avs,List.map_cons]; rw [avs_map]
end Rp
namespace K03
open PySem PySem.Spec PyProof.Rows L2 Rp K03
def ks3:List Key:=(["load", "add", "loop", "lock", "give", "take", "read", "write", "keep", "own", "ask", "bind", "start", "join"]:List Str).map fun x=>.inr x
def xs3 (A:AV):List AV:=(signsL.map fun x=>.str x.2) ++ [A,A]
theorem mrg1:dMrg ([],[]) [((.inr "load" : Key),AV.str "01234"),(.inr "add",.str "1234"),(.inr "loop",.str "123"),(.inr "lock",.str "lm"),(.inr "give",.str "pq"),(.inr "take",.str "pq")] = (ks3.take 6,(signsL.take 6).map fun x=>.str x.2):=by decide +kernel
theorem mrg2:dMrg ([],[]) [((.inr "read" : Key),AV.str "aabcd"),(.inr "write",.str "aabcd"),(.inr "keep",.str "wwxyz"),(.inr "own",.str "wwxyz")] = ((ks3.drop 6).take 4,((signsL.drop 6).take 4).map fun x=>.str x.2):=by decide +kernel
theorem mrg3 {A:AV}:dMrg ([],[]) [((.inr "ask" : Key),AV.str "wwxyz"),(.inr "bind",.str "wwxyz"),(.inr "start",A),(.inr "join",A)] = (ks3.drop 10,[.str "wwxyz",.str "wwxyz",A,A]):=by kernel_rfl
theorem mrg12:dMrg (ks3.take 6,(signsL.take 6).map fun x=>AV.str x.2) (((ks3.drop 6).take 4).zip (((signsL.drop 6).take 4).map fun x=>AV.str x.2)) = (ks3.take 10,(signsL.take 10).map fun x=>.str x.2):=by decide +kernel
theorem mrg123 {A:AV}:dMrg (ks3.take 10,(signsL.take 10).map fun x=>AV.str x.2) ((ks3.drop 10).zip [.str "wwxyz",.str "wwxyz",A,A]) = (ks3,xs3 A):=by kernel_rfl
def rowOf (A:AV) (w:Str):AV:=(((kIx ks3 (.inr w)).bind fun i=>(xs3 A)[i]?).getD (.nod .lst [.non]))
theorem thing_run {h:AH} {n:Nat} {w:Str} {A:AV}:∃ h1,Kp [] h h1 ∧ h1.next = h.next + 3 ∧ F__law_thing [.ref n,.str w,A] h = fnK (retK (ifeK (tstK (op2K aGt (aLenV (rowOf A w) h1) (aC (.int 0)) [some (.ref n),some (.str w),some A,some (.ref h.next),some (rowOf A w)])) (aCall F__law_of [] (aCons (aVar 0) (aCons (aVar 4) aNil))) (aC (.str "")) [some (.ref n),some (.str w),some A,some (.ref h.next),some (rowOf A w)])):=by
  have z1:1 ≤ sizeLine:=sz _ (by omega)
  have l1:(ks3.take 6).length + ((ks3.drop 6).take 4).length ≤ sizeLine:=sz _ (by decide +kernel)
  have l2:(ks3.take 10).length + (ks3.drop 10).length ≤ sizeLine:=sz _ (by decide +kernel)
  let c1:Kd × List AV:=(.dct (ks3.take 6),(signsL.take 6).map fun x=>AV.str x.2)
  let c2:Kd × List AV:=(.dct ((ks3.drop 6).take 4),((signsL.drop 6).take 4).map fun x=>AV.str x.2)
  let c3:Kd × List AV:=(.dct (ks3.drop 10),[.str "wwxyz",.str "wwxyz",A,A])
  let c12:Kd × List AV:=(.dct (ks3.take 10),(signsL.take 10).map fun x=>AV.str x.2)
  let c123:Kd × List AV:=(.dct ks3,xs3 A)
  let h1:=h.new c1
  let h2:=(h1.new c2).put h.next c12
  let h3:=(h2.new c3).put h.next c123
  have g1:h1.get h.next = some c1:=by simp [h1]
  have g1b:(h1.new c2).get h.next = some c1:=by simp [h1]
  have g2:h2.get h.next = some c12:=by simp only [h2]; rw [AH.get_put g1b,if_pos rfl]
  have g2n:h2.next = h.next + 2:=by simp [h2,h1]
  have g2b:(h2.new c3).get h.next = some c12:=by rw [get_new,if_neg (by omega)]; exact g2
  have g3:h3.get h.next = some c123:=by simp only [h3]; rw [AH.get_put g2b,if_pos rfl]
  have e1:∀ s,aDisp [((aC (.str "load")),(aC (.str "01234"))),((aC (.str "add")),(aC (.str "1234"))),((aC (.str "loop")),(aC (.str "123"))),((aC (.str "lock")),(aC (.str "lm"))),((aC (.str "give")),(aC (.str "pq"))),((aC (.str "take")),(aC (.str "pq")))] s h = some (.ref h.next,h1):=fun s=>by
    simp only [aDisp,aPairs,ev_c,Option.bind_some,toKey,mrg1]; rfl
  have e2:∀ s,aDisp [((aC (.str "read")),(aC (.str "aabcd"))),((aC (.str "write")),(aC (.str "aabcd"))),((aC (.str "keep")),(aC (.str "wwxyz"))),((aC (.str "own")),(aC (.str "wwxyz")))] s h1 = some (.ref (h.next + 1),h1.new c2):=fun s=>by
    simp only [aDisp,aPairs,ev_c,Option.bind_some,toKey,mrg2]; rfl
  have e3:∀ s:LS,s[2]? = some (some A) → aDisp [((aC (.str "ask")),(aC (.str "wwxyz"))),((aC (.str "bind")),(aC (.str "wwxyz"))),((aC (.str "start")),(aVar 2)),((aC (.str "join")),(aVar 2))] s h2 = some (.ref (h.next + 2),h2.new c3):=fun s hs=>by
    simp only [aDisp,aPairs,ev_c,ev_var,hs,varK_some,Option.bind_some,toKey,mrg3,g2n]; rfl
  have n2:(h1.new c2).get (h.next + 1) = some c2:=by simp [h1]
  have n3:(h2.new c3).get (h.next + 2) = some c3:=by simp [g2n]
  have u1:∀ s:LS,s[3]? = some (some (.ref h.next)) → aUpd (aVar 3) (aDisp [((aC (.str "read")),(aC (.str "aabcd"))),((aC (.str "write")),(aC (.str "aabcd"))),((aC (.str "keep")),(aC (.str "wwxyz"))),((aC (.str "own")),(aC (.str "wwxyz")))]) s h1 = some (.non,h2):=fun s hs=>by
    simp only [aUpd,ev_var,hs,varK_some,Option.bind_some,e2,cellD_cell g1,cellD_cell g1b,dctOf_cell n2,mrg12]
    rw [if_pos ⟨by simp,l1⟩]
  have u2:∀ s:LS,s[3]? = some (some (.ref h.next)) → s[2]? = some (some A) → aUpd (aVar 3) (aDisp [((aC (.str "ask")),(aC (.str "wwxyz"))),((aC (.str "bind")),(aC (.str "wwxyz"))),((aC (.str "start")),(aVar 2)),((aC (.str "join")),(aVar 2))]) s h2 = some (.non,h3):=fun s hs hs2=>by
    simp only [aUpd,ev_var,hs,varK_some,Option.bind_some,e3 s hs2,cellD_cell g2,cellD_cell g2b,dctOf_cell n3,mrg123]
    rw [if_pos ⟨by simp,l2⟩]
  have k3:Kp [] h h3:=by
    have a1:Kp [] h (h1.new c2):=(Kp.new (c:=c1)).trans Kp.new
    have a2:Kp [] h h2:=a1.putL (by rw [g1b]; rfl) (.inl (Nat.le_refl _))
    have a3:Kp [] h (h2.new c3):=a2.trans Kp.new
    exact a3.putL (by rw [g2b]; rfl) (.inl (Nat.le_refl _))
  refine ⟨h3,k3,?_,?_⟩
  · simp [h3,g2n]
  · simp only [F__law_thing]
    rw [ev_fn (by rfl)]
    simp [B__law_thing,startA,e1,u1,u2,get2K,getK2,dctOf_cell g3,toKey,mkF,z1,rowOf]
theorem rows_sign {A:AV}:∀ x ∈ signsL,rowOf A x.1 = .str x.2:=by
  have key:∀ x ∈ signsL,∃ i,i < signsL.length ∧ kIx ks3 (.inr x.1) = some i ∧ signsL[i]? = some x:=by decide +kernel
  intro x hx
  obtain ⟨i,hi,e1,e2⟩:=key x hx
  unfold rowOf xs3
  rw [e1,Option.bind_some,List.getElem?_append_left (by simpa using hi),List.getElem?_map,e2]
  rfl
theorem rows_others {A:AV}:∀ w ∈ othersL,rowOf A w = A:=by
  have key:∀ x ∈ othersL,kIx ks3 (.inr x) = some 12 ∨ kIx ks3 (.inr x) = some 13:=by decide +kernel
  intro x hx
  unfold rowOf xs3
  rcases key x hx with e | e <;> rw [e] <;> rfl
theorem rows_none {A:AV}:∀ w ∈ noThing,rowOf A w = .nod .lst [.non]:=by
  have key:∀ x ∈ noThing,kIx ks3 (.inr x) = none:=by decide +kernel
  intro x hx
  unfold rowOf
  rw [key x hx]; rfl
theorem words_split3:∀ w ∈ wordsL,(∃ x ∈ signsL,w = x.1) ∨ w ∈ othersL ∨ w ∈ noThing:=by decide +kernel
theorem signs_len:∀ x ∈ signsL,0 < x.2.length ∧ x.2.length < 100:=by decide +kernel
theorem thing_ok {h:AH} {n:Nat} {w:Str} {O:List Str} (H:Hat h n) (hw:w ∈ wordsL) (hO:O.length ≤ 3):∃ v h',F__law_thing [.ref n,.str w,.nod .lst (O.map .str)] h = some (v,h') ∧ Hat h' n ∧ Kp [n] h h' ∧
    ((∃ t,v = tv t ∧ TOk O w t) ∨ (w ∈ othersL ∧ v = .str "")):=by
  obtain ⟨h1,k1,n1,e1⟩:=thing_run (h:=h) (n:=n) (w:=w) (A:=.nod .lst (O.map .str))
  have H1:=H.kp k1 (by simp)
  have k1':Kp [n] h h1:=k1.mono (by simp)
  rcases words_split3 w hw with ⟨x,hx,rfl⟩ | ho | hn
  · obtain ⟨p1,p2⟩:=signs_len x hx
    obtain ⟨c,h2,hc,e2,H2,k2,x2⟩:=ofS_hat H1 p1 (by omega)
    refine ⟨.str ⟨#[c]⟩,h2,?_,H2,k1'.trans k2,.inl ⟨some ⟨#[c]⟩,rfl,.inl ⟨x,hx,rfl,c,hc,rfl⟩⟩⟩
    rw [e1,rows_sign x hx]
    have hl:x.2.length ≤ sizeLine:=sz _ (by omega)
    simp [len_str hl,p1,e2]
  · by_cases hz:O = []
    · subst hz
      refine ⟨.str "",h1,?_,H1,k1',.inr ⟨ho,rfl⟩⟩
      rw [e1,rows_others w ho]
      simp
    · have hp:0 < O.length:=List.length_pos_iff.mpr hz
      obtain ⟨c,h2,hc,e2,H2,k2,x2⟩:=ofL_hat H1 (xs:=O.map .str) (by simpa using hz) (by simp; omega)
      obtain ⟨y,hy,rfl⟩:=List.mem_map.mp hc
      refine ⟨.str y,h2,?_,H2,k1'.trans k2,.inl ⟨some y,rfl,.inr (.inl ⟨ho,y,hy,rfl⟩)⟩⟩
      rw [e1,rows_others w ho]
      simp [hp,e2]
  · obtain ⟨c,h2,hc,e2,H2,k2,x2⟩:=ofL_hat H1 (xs:=[.non]) (by simp) (by simp)
    have:c = .non:=by simpa using hc
    subst this
    refine ⟨.non,h2,?_,H2,k1'.trans k2,.inl ⟨none,rfl,.inr (.inr ⟨hn,rfl⟩)⟩⟩
    rw [e1,rows_none w hn]
    simp [e2]
end K03
end
section
namespace K03
open PySem PySem.Spec PyProof.Rows L2 Rp K03
abbrev RSL:=R__law_statement__law_list
structure Env (W:List Str) (O:List Str):Prop where
  wok:∀ w ∈ W,w ∈ wordsL
  wne:W ≠ []
  wle:W.length < 1000000
  ole:O.length ≤ 3
  nok:∀ x ∈ O,NameOk x
def SpS (W O:List Str) (n sp:Nat) (k:Nat):Prop:=∀ (d s:Nat) (h:AH),d ≤ 4 → 2 * (4 - d) + 1 ≤ k → Hat h n → h.get sp = some (.lst,[.int s]) → 0 < s →
  ∃ (S:Stm) (s':Nat) (h':AH),lenF 5 (RSL k).1 [.ref n,.nod .lst (W.map .str),.nod .lst (O.map .str),.int d,.ref sp] h = some (S.av,h') ∧ Hat h' n ∧ h'.get sp = some (.lst,[.int s']) ∧ s' + S.rows ≤ s ∧ S.ok O (4 - d) ∧ Kp [n,sp] h h'
def SpL (W O:List Str) (n sp:Nat) (k:Nat):Prop:=∀ (d s m:Nat) (h:AH),d ≤ 4 → 2 * (4 - d) + 2 ≤ k → m ≤ 24 → Hat h n → h.get sp = some (.lst,[.int s]) →
  ∃ (L:List Stm) (s':Nat) (h':AH),lenF 6 (RSL k).2 [.ref n,.nod .lst (W.map .str),.nod .lst (O.map .str),.int d,.ref sp,.int m] h = some (.nod .lst (avs L),h') ∧ Hat h' n ∧ h'.get sp = some (.lst,[.int s']) ∧ s' + rowss L ≤ s ∧ oks O (4 - d) L ∧ Kp [n,sp] h h'
theorem spL_of {W O:List Str} {n sp k:Nat} (hne:n ≠ sp) (E:SpS W O n sp k):SpL W O n sp (k + 1):=by
  intro d s m h hd hk hm H hs
  have hspl:sp < h.next:=AH.lt hs
  have hnl:n < h.next:=H.lt
  let c:=h.next
  have k0:Kp [n] h (h.new (.lst,[])):=.new
  have H0:Hat (h.new (.lst,[])) n:=H.kp (S:=[]) .new (by simp)
  obtain ⟨r,h1,hr,e1,H1,k1,x1⟩:=take_hat H0 (m + 1) ((m:Int) + 1)
  have hs1:h1.get sp = some (.lst,[.int s]):=(k0.trans k1).get hs (by simpa using Ne.symm hne)
  have hc1:h1.get c = some (.lst,[]):=k1.get (by simp [c]) (by simp; omega)
  obtain ⟨s2,h2,e2,q2⟩:=forL_ix (G:=[]) (g:=gNm 7) (B:=(aIfS (aTst (aOp2 aGt (aOp2 aIx (aVar 4) (aC (.int 0))) (aC (.int 0)))) (aExp (aBM "list" aAppend (aVar 6) (aCons (aCall (lenF 5 ((RSL k).1)) [] (aCons (aVar 0) (aCons (aVar 1) (aCons (aVar 2) (aCons (aVar 3) (aCons (aVar 4) aNil)))))) aNil))) aPass))
    (xs:=rgI 0 r) (fun i st g=>∃ (L:List Stm) (s':Nat) (u:Option AV),st = [some (.ref n),some (.nod .lst (W.map .str)),some (.nod .lst (O.map .str)),some (.int d),some (.ref sp),some (.int m),some (.ref c),u] ∧ Hat g n ∧ g.get sp = some (.lst,[.int s']) ∧ g.get c = some (.lst,avs L) ∧ s' + rowss L ≤ s ∧ oks O (4 - d) L ∧ L.length ≤ i ∧ Kp [n,sp] h g)
    (fun _ _ _ _=>rfl) (fun i x st g hx q=>by
      obtain ⟨L,s',u,rfl,Hg,gs,gc,hl,hok,hLi,kg⟩:=q
      obtain ⟨hi,rfl⟩:=rgI_get hx
      by_cases h0:0 < s'
      · obtain ⟨S,s3,g3,e3,H3,gs3,hl3,ok3,k3⟩:=E d s' g hd (by omega) Hg gs h0
        have gc3:g3.get c = some (.lst,avs L):=k3.get gc (by simp; omega)
        have hz:(avs L).length < sizeLine:=by rw [avs_len,sizeLine_eq]; omega
        refine ⟨_,_,_,g3.put c (.lst,avs L ++ [S.av]),[some (.ref n),some (.nod .lst (W.map .str)),some (.nod .lst (O.map .str)),some (.int d),some (.ref sp),some (.int m),some (.ref c),some (.int i)],rfl,?_,.inl rfl,L ++ [S],s3,some (.int i),rfl,?_,?_,?_,?_,?_,?_,?_⟩
        · simp [gs,gc,h0,e3,gc3,appR_lst hz]
        · exact H3.kp (S:=[c]) (.put (by rw [gc3]; rfl) (by simp)) (by simp; omega)
        · rw [AH.get_put gc3,if_neg (by omega)]; exact gs3
        · rw [AH.get_put gc3,if_pos rfl,avs_app]; rfl
        · rw [rowss_app]; simp only [rowss]; omega
        · exact oks_app hok ⟨ok3,by simp [oks]⟩
        · simp; omega
        · exact (kg.trans k3).putL (by rw [gc3]; rfl) (.inl (Nat.le_refl _))
      · refine ⟨_,_,_,g,[some (.ref n),some (.nod .lst (W.map .str)),some (.nod .lst (O.map .str)),some (.int d),some (.ref sp),some (.int m),some (.ref c),some (.int i)],rfl,?_,.inl rfl,L,s',some (.int i),rfl,Hg,gs,gc,hl,hok,by omega,kg⟩
        simp [gs,h0])
    (s:=[some (.ref n),some (.nod .lst (W.map .str)),some (.nod .lst (O.map .str)),some (.int d),some (.ref sp),some (.int m),some (.ref c),none]) (h:=h1)
    ⟨[],s,none,rfl,H1,hs1,hc1,by simp [rowss],by simp [oks],by simp,(k0.trans k1).mono (by simp)⟩
  obtain ⟨L,s',u,rfl,Hg,gs,gc,hl,hok,hLi,kg⟩:=q2
  refine ⟨L,s',h2.del c,?_,?_,?_,hl,hok,kg.del (Nat.le_refl _)⟩
  · have z0:0 ≤ sizeLine:=Nat.zero_le _
    show lenF 6 (fnA 8 _) _ _ = _
    rw [ev_fn (by rfl)]
    simp [B__law_list,startA,e1,mkM,rngK_nat (show r < 1000000 by omega)]
    rw [e2]
    simp [frz1_ref gc]
  · obtain ⟨z,ez,oz⟩:=Hg
    exact ⟨z,by rw [get_del,if_neg (by omega)]; exact ez,oz⟩
  · rw [get_del,if_neg (by omega)]; exact gs
theorem tv_eq {O W:List Str} {w:Str} {t:Option Str} {h:AH} (E:Env W O) (T:TOk O w t):aEq (tv t) (.str "") h = some (.bl false,h):=by
  rcases T with ⟨x,_,_,c,_,rfl⟩ | ⟨_,x,hx,rfl⟩ | ⟨_,rfl⟩
  · rw [tv,eq_ss,decide_eq_false]
    intro e
    have:=congrArg (fun s=>s.cps.size) e
    have h2:(Str.ofString "").cps.size = 0:=by decide +kernel
    simp [h2] at this
  · rw [tv,eq_ss,decide_eq_false]
    intro e
    have:=(E.nok x hx).pos
    have h2:(Str.ofString "").length = 0:=by decide +kernel
    rw [e,h2] at this
    omega
  · rw [tv,eq_ns]
theorem tok_nil {O:List Str} {w:Str} {t:Option Str} (T:TOk O w t) (hw:w ∈ blocksL):TOk [] w t:=by
  have:∀ w ∈ blocksL,w ∉ othersL:=by decide +kernel
  rcases T with a | ⟨a,_⟩ | a
  · exact .inl a
  · exact absurd a (this w hw)
  · exact .inr (.inr a)
theorem spS_of {W O:List Str} {n sp k:Nat} (E0:Env W O) (hne:n ≠ sp) (E:SpL W O n sp k):SpS W O n sp (k + 1):=by
  intro d s h hd hk H hs hs0
  obtain ⟨x,h1,hx,e1,H1,k1,x1⟩:=ofL_hat H (xs:=W.map .str) (by simpa using E0.wne) (by simpa using E0.wle)
  obtain ⟨w,hw,rfl⟩:=List.mem_map.mp hx
  have hw:=E0.wok w hw
  have hs1:h1.get sp = some (.lst,[.int s]):=k1.get hs (by simpa using Ne.symm hne)
  have inb:∀ (w:Str) h',aIn (.str w) (.nod .lst [.str "lock",.str "hold",.str "bind",.str "loop",.str "try",.str "when"]) h' = some (.bl (decide (w ∈ blocksL)),h'):=fun w h' => in_lst blocksL
  have ninb:∀ (w:Str) h',aNotIn (.str w) (.nod .lst [.str "lock",.str "hold",.str "bind",.str "loop",.str "try",.str "when"]) h' = some (.bl (!decide (w ∈ blocksL)),h'):=fun w h' => notIn_lst blocksL
  have itw:∀ (w:Str) h',aIn (.str w) (.nod .tup [.str "try",.str "when"]) h' = some (.bl (decide (w ∈ (["try", "when"]:List Str))),h'):=fun w h' => in_tup ["try", "when"]
  have z2:2 ≤ sizeLine:=sz _ (by omega)
  have z4:4 ≤ sizeLine:=sz _ (by omega)
  have addb:(Str.ofString "add") ∉ blocksL:=by decide +kernel
  have addw:(Str.ofString "add") ∈ wordsL:=by decide +kernel
  have yib:(Str.ofString "yield") ∉ blocksL:=by decide +kernel
  have oth:∀ w ∈ othersL,w ∉ blocksL:=by decide +kernel
  let st:AV → Option AV → Option AV → Option AV → LS:=fun w t b o=>[some (.ref n),some (.nod .lst (W.map .str)),some (.nod .lst (O.map .str)),some (.int d),some (.ref sp),some w,t,b,o]
  have p1:∃ w,w ∈ wordsL ∧ (w ∈ blocksL → d ≤ 3 ∧ 4 ≤ s) ∧ ∀ C:AS,(aSeq (aAsg (aCall F__law_of [] (aCons (aVar 0) (aCons (aVar 1) aNil))) (gNm 5))
     (aSeq (aIfS (aAnd (aTst (aOp2 aIn (aVar 5) (aCall F__law_blocks [] aNil))) (aOr (aTst (aOp2 aGt (aVar 3) (aC (.int 3)))) (aTst (aOp2 aLt (aOp2 aIx (aVar 4) (aC (.int 0))) (aC (.int 4)))))) (aAsg (aC (.str "add")) (gNm 5)) aPass) C))
      [some (.ref n),some (.nod .lst (W.map .str)),some (.nod .lst (O.map .str)),some (.int d),some (.ref sp),none,none,none,none] h = C (st (.str w) none none none) h1:=by
    by_cases hb:w ∈ blocksL
    · by_cases hdd:d ≤ 3
      · by_cases h4:4 ≤ s
        · refine ⟨w,hw,fun _=>⟨hdd,h4⟩,fun C=>?_⟩
          have a1:¬ (3:Int) < d:=by omega
          have a2:¬ (s:Int) < 4:=by omega
          simp [e1,blocks_ok,inb,hb,a1,hs1,a2,st]
        · refine ⟨"add",addw,fun q=>absurd q addb,fun C=>?_⟩
          have a1:¬ (3:Int) < d:=by omega
          have a2:(s:Int) < 4:=by omega
          simp [e1,blocks_ok,inb,hb,a1,hs1,a2,st]
      · refine ⟨"add",addw,fun q=>absurd q addb,fun C=>?_⟩
        have a1:(3:Int) < d:=by omega
        simp [e1,blocks_ok,inb,hb,a1,st]
    · refine ⟨w,hw,fun q=>absurd q hb,fun C=>?_⟩
      simp [e1,blocks_ok,inb,hb,st]
  clear e1 hx hw
  obtain ⟨w0,hw,hbd,e1⟩:=p1
  obtain ⟨v,h2,e2,H2,k2,hv⟩:=thing_ok H1 hw E0.ole
  have hs2:h2.get sp = some (.lst,[.int s]):=k2.get hs1 (by simpa using Ne.symm hne)
  have p2:∃ w t,(w ∈ blocksL → d ≤ 3 ∧ 4 ≤ s) ∧ TOk O w t ∧ ∀ C:AS,(aSeq (aAsg (aCall F__law_thing [] (aCons (aVar 0) (aCons (aVar 5) (aCons (aVar 2) aNil)))) (gNm 6))
     (aSeq (aIfS (aTst (aOp2 aEq (aVar 6) (aC (.str "")))) (aAsg (aArgs (mkF .tup) (aCons (aC (.str "yield")) (aCons (aC .non) aNil))) (gSq 2 (gsCons (gNm 5) (gsCons (gNm 6) gsNil)))) aPass) C))
     (st (.str w0) none none none) h1 = C (st (.str w) (some (tv t)) none none) h2:=by
    rcases hv with ⟨t,rfl,T⟩ | ⟨ho,rfl⟩
    · refine ⟨w0,t,hbd,T,fun C=>?_⟩
      simp [st,e2,tv_eq E0 T]
    · refine ⟨"yield",none,fun q=>absurd q yib,.inr (.inr ⟨by decide +kernel,rfl⟩),fun C=>?_⟩
      simp [st,e2,eq_ss,mkF,z2,tv]
  obtain ⟨w,t,hbd,T,e2⟩:=p2
  let h3:=h2.put sp (.lst,[.int ((s - 1:Nat):Int)])
  have hs3:h3.get sp = some (.lst,[.int ((s - 1:Nat):Int)]):=by simp only [h3]; rw [AH.get_put hs2,if_pos rfl]
  have k3:Kp [n,sp] h h3:=((k1.trans k2).mono (by simp)).putL (by rw [hs2]; rfl) (.inr (by simp))
  have H3:Hat h3 n:=H2.kp (S:=[sp]) (.put (by rw [hs2]; rfl) (by simp)) (by simpa using hne)
  have c1:(s:Int) - 1 = ((s - 1:Nat):Int):=by omega
  by_cases hb:w ∈ blocksL
  · obtain ⟨hd3,h4⟩:=hbd hb
    have c2:((s - 1:Nat):Int) - 2 = ((s - 3:Nat):Int):=by omega
    let h4':=h3.put sp (.lst,[.int ((s - 3:Nat):Int)])
    have hs4:h4'.get sp = some (.lst,[.int ((s - 3:Nat):Int)]):=by simp only [h4']; rw [AH.get_put hs3,if_pos rfl]
    have k4:Kp [n,sp] h h4':=k3.putL (by rw [hs3]; rfl) (.inr (by simp))
    have H4:Hat h4' n:=H3.kp (S:=[sp]) (.put (by rw [hs3]; rfl) (by simp)) (by simpa using hne)
    obtain ⟨L,s5,h5,e5,H5,hs5,hl5,ok5,k5⟩:=E (d + 1) (s - 3) 3 h4' (by omega) (by omega) (by omega) H4 hs4
    have c3:((d + 1:Nat):Int) = (d:Int) + 1:=by omega
    rw [c3] at e5
    simp only [h4',h3] at e5
    rw [show ((3:Nat):Int) = 3 from rfl] at e5
    have okd:4 - (d + 1) = 4 - d - 1:=by omega
    rw [okd] at ok5
    by_cases htw:w ∈ (["try", "when"]:List Str)
    · obtain ⟨r,h6,hr,e6,H6,k6,x6⟩:=take_hat H5 2 2
      have hs6:h6.get sp = some (.lst,[.int s5]):=k6.get hs5 (by simpa using Ne.symm hne)
      by_cases hr0:r = 0
      · subst hr0
        obtain ⟨L7,s7,h7,e7,H7,hs7,hl7,ok7,k7⟩:=E (d + 1) s5 2 h6 (by omega) (by omega) (by omega) H6 hs6
        rw [c3,show ((2:Nat):Int) = 2 from rfl] at e7
        rw [okd] at ok7
        refine ⟨.blk w t L true L7,s7,h7,?_,H7,hs7,?_,?_,k4.trans (k5.trans ((k6.mono (by simp)).trans k7))⟩
        · show lenF 5 (fnA 9 _) _ _ = _
          rw [ev_fn (by rfl)]
          refine (congrArg fnK ((e1 _).trans (e2 _))).trans ?_
          simp [st,hs2,c1,L2.ixN,ninb,blocks_ok,hb,hs3,h3,c2,itw,htw,h4',e5,e6,e7,eq_ii,mkF,z2,z4,Stm.av,get_putI]
        · simp only [Stm.rows]; omega
        · simp only [Stm.ok]
          exact ⟨by omega,hb,tok_nil T hb,fun _=>by simpa using htw,by simp,ok5,ok7⟩
      · have hr1:¬ (r:Int) = 0:=by omega
        refine ⟨.blk w t L false [],s5,h6,?_,H6,hs6,?_,?_,k4.trans (k5.trans (k6.mono (by simp)))⟩
        · show lenF 5 (fnA 9 _) _ _ = _
          rw [ev_fn (by rfl)]
          refine (congrArg fnK ((e1 _).trans (e2 _))).trans ?_
          simp [st,hs2,c1,L2.ixN,ninb,blocks_ok,hb,hs3,h3,c2,itw,htw,h4',e5,e6,hr1,hr0,eq_ii,mkF,z2,z4,Stm.av,get_putI]
        · simp only [Stm.rows,rowss]; omega
        · simp only [Stm.ok]
          exact ⟨by omega,hb,tok_nil T hb,by simp,by simp,ok5,by simp [oks]⟩
    · refine ⟨.blk w t L false [],s5,h5,?_,H5,hs5,?_,?_,k4.trans k5⟩
      · show lenF 5 (fnA 9 _) _ _ = _
        rw [ev_fn (by rfl)]
        refine (congrArg fnK ((e1 _).trans (e2 _))).trans ?_
        simp [st,hs2,c1,L2.ixN,ninb,blocks_ok,hb,hs3,h3,c2,itw,htw,h4',e5,mkF,z2,z4,Stm.av,get_putI]
      · simp only [Stm.rows,rowss]; omega
      · simp only [Stm.ok]
        exact ⟨by omega,hb,tok_nil T hb,by simp,by simp,ok5,by simp [oks]⟩
  · refine ⟨.one w t,s - 1,h3,?_,H3,hs3,?_,⟨hb,T⟩,k3⟩
    · show lenF 5 (fnA 9 _) _ _ = _
      rw [ev_fn (by rfl)]
      refine (congrArg fnK ((e1 _).trans (e2 _))).trans ?_
      simp [st,hs2,c1,L2.ixN,ninb,blocks_ok,hb,mkF,z2,Stm.av,h3]
    · simp only [Stm.rows]; omega
theorem sp_all {W O:List Str} {n sp:Nat} (E0:Env W O) (hne:n ≠ sp):∀ k,SpS W O n sp k ∧ SpL W O n sp k
  | 0=>⟨fun d s h hd hk=>absurd hk (by omega),fun d s m h hd hk=>absurd hk (by omega)⟩
  | k + 1=>⟨spS_of E0 hne (sp_all E0 hne k).2,spL_of hne (sp_all E0 hne k).1⟩
theorem list_ok {W O:List Str} {n sp d s m:Nat} {h:AH} (E0:Env W O) (hne:n ≠ sp) (hd:d ≤ 4) (hm:m ≤ 24) (H:Hat h n) (hs:h.get sp = some (.lst,[.int s])) :
    ∃ (L:List Stm) (s':Nat) (h':AH),F__law_list [.ref n,.nod .lst (W.map .str),.nod .lst (O.map .str),.int d,.ref sp,.int m] h = some (.nod .lst (avs L),h') ∧ Hat h' n ∧ h'.get sp = some (.lst,[.int s']) ∧ s' + rowss L ≤ s ∧ oks O (4 - d) L ∧ Kp [n,sp] h h' :=
  (sp_all E0 hne 40).2 d s m h hd (by omega) hm H hs
end K03
end
section
namespace K03
open PySem PySem.Spec PyProof.Rows L2 Rp K03
abbrev Plan:=List (Str × List Stm)
def pav (p:Str × List Stm):AV:=.nod .tup [.str p.1,.nod .lst (avs p.2)]
structure PlanOk (P:Plan):Prop where
  le:P.length ≤ 4
  nd:(P.map (·.1)).Nodup
  nm:∀ p ∈ P,NameOk p.1
  ok:∀ p ∈ P,oks ((P.map (·.1)).filter fun y=>!decide (y = p.1)) 4 p.2
  rw_:∀ p ∈ P,rowss p.2 ≤ 24
theorem plan_okL {h:AH} {n m z:Nat} {W:List Str} (H:Hat h n) (hm:m ≤ 4) (hz:z ≤ 24) (w1:∀ w ∈ W,w ∈ wordsL) (w2:W ≠ []) (w3:W.length < 1000000) :
    ∃ (P:Plan) (h':AH),P.length = m ∧ PlanOk P ∧ F__law_plan [.ref n,.int m,.int z,.nod .lst (W.map .str)] h = some (.nod .lst (P.map pav),h') ∧ Hat h' n ∧ Kp [n] h h' ∧ ∃ l,∀ x ∈ P.map (·.1),x.length = l:=by
  obtain ⟨N,h1,hl,nd,nok,e1,H1,k1,hlen⟩:=names_okL H hm
  have hnl:n < h.next:=H.lt
  have hn1:n < h1.next:=H1.lt
  let c:=h1.next
  obtain ⟨s2,h2,e2,q2⟩:=forL_ix (G:=[]) (g:=gNm 6) (B:=(aSeq (aAsg (aLc mkF (sVal (aVar 4)) (gNm 9) (aTst (aOp2 aNe (aVar 9) (aVar 6))) (aVar 9) [9]) (gNm 7))
    (aSeq (aAsg (aCall F__law_list [] (aCons (aVar 0) (aCons (aVar 3) (aCons (aVar 7) (aCons (aC (.int 0)) (aCons (aArgs (mkM .lst) (aCons (aVar 2) aNil)) (aCons (aVar 2) aNil))))))) (gNm 8))
    (aExp (aBM "list" aAppend (aVar 5) (aCons (aArgs (mkF .tup) (aCons (aVar 6) (aCons (aVar 8) aNil))) aNil))))))
    (xs:=N.map .str) (fun i st g=>∃ (P:Plan) (u1 u2 u3 u4:Option AV),st = [some (.ref n),some (.int m),some (.int z),some (.nod .lst (W.map .str)),some (.nod .lst (N.map .str)),some (.ref c),u1,u2,u3,u4] ∧ Hat g n ∧ g.get c = some (.lst,P.map pav) ∧ P.map (·.1) = N.take i ∧ (∀ p ∈ P,oks (N.filter fun y=>!decide (y = p.1)) 4 p.2 ∧ rowss p.2 ≤ 24) ∧ Kp [n] h g)
    (fun _ _ _ _=>rfl) (fun i x st g hx q=>by
      obtain ⟨P,u1,u2,u3,u4,rfl,Hg,gc,hP,hok,kg⟩:=q
      obtain ⟨nm,hnm,rfl⟩:=getElem?_map_some hx
      have hnN:=mem_of_get hnm
      have ec:=lcL_str (G:=[]) (g:=gNm 9) (t:=aTst (aOp2 aNe (aVar 9) (aVar 6))) (f:=aVar 9) (s0:=[some (.ref n),some (.int m),some (.int z),some (.nod .lst (W.map .str)),some (.nod .lst (N.map .str)),some (.ref c),some (.str nm),u2,u3,none]) (h:=g) rfl
        (fun y=>!decide (y = nm)) AV.str (fun y=>[some (.ref n),some (.int m),some (.int z),some (.nod .lst (W.map .str)),some (.nod .lst (N.map .str)),some (.ref c),some (.str nm),u2,u3,some (.str y)]) N
        (fun y hy=>⟨rfl,by simp [ne_ss],fun _=>by simp⟩) (sz _ (by omega))
      obtain ⟨O,hO⟩:∃ O,N.filter (fun y=>!decide (y = nm)) = O:=⟨_,rfl⟩
      rw [hO] at ec
      have hOl:O.length ≤ 3:=by
        have h1:O.length < N.length:=by rw [← hO]; exact List.length_filter_lt_length_iff_exists.mpr ⟨nm,hnN,by simp⟩
        omega
      let g1:=g.new (.lst,[.int z])
      have hgn:n < g.next:=Hg.lt
      have hgc:c < g.next:=AH.lt gc
      have Hg1:Hat g1 n:=Hg.kp (S:=[]) .new (by simp)
      obtain ⟨L,s',g3,e3,H3,gs3,hl3,ok3,k3⟩:=list_ok (W:=W) (O:=O) (sp:=g.next) (s:=z) (m:=z) (d:=0) ⟨w1,w2,w3,hOl,fun x hx=>nok x (by rw [← hO] at hx; exact (List.mem_filter.mp hx).1)⟩ (show n ≠ g.next by omega) (by omega) hz Hg1 (by simp [g1])
      rw [show ((0:Nat):Int) = 0 from rfl] at e3
      simp only [g1] at e3
      have gc3:g3.get c = some (.lst,P.map pav):=k3.get (by simp only [g1]; rw [get_new,if_neg (by omega)]; exact gc) (by simp; omega)
      have hPl:P.length ≤ 4:=by
        have:=congrArg List.length hP
        simp at this; omega
      have hz2:(P.map pav).length < sizeLine:=by rw [List.length_map,sizeLine_eq]; omega
      have z2:2 ≤ sizeLine:=sz _ (by omega)
      have z1:1 ≤ sizeLine:=sz _ (by omega)
      have zO:(O.map AV.str).length ≤ sizeLine:=sz _ (by simp; omega)
      have hnc:¬ n = c:=by simp only [c]; omega
      refine ⟨_,_,_,g3.put c (.lst,(P ++ [(nm,L)]).map pav),[some (.ref n),some (.int m),some (.int z),some (.nod .lst (W.map .str)),some (.nod .lst (N.map .str)),some (.ref c),some (.str nm),some (.nod .lst (O.map .str)),some (.nod .lst (avs L)),u4],rfl,?_,.inl rfl,P ++ [(nm,L)],_,_,_,_,rfl,?_,?_,?_,?_,?_⟩
      · simp only [ev_seq,ev_asg,ev_lc,ev_sVal,ev_var]
        simp only [List.set,List.getElem?_cons_succ,List.getElem?_cons_zero,varK_some,srcVK_lst,Option.bind_some,wipeA,ec,mkF_ok zO]
        simp [e3,z1,z2,mkM,mkF,g1,gc3,appR_lst hz2]
        rfl
      · exact H3.kp (S:=[c]) (.put (by rw [gc3]; rfl) (by simp)) (by simpa using hnc)
      · rw [AH.get_put gc3,if_pos rfl]
      · rw [List.map_append,hP,take_succ_of hnm]; rfl
      · intro p hp
        rcases List.mem_append.mp hp with q | q
        · exact hok p q
        · rw [List.mem_singleton] at q
          subst q
          exact ⟨by rw [← hO] at ok3; exact ok3,by simp only; omega⟩
      · refine ((kg.trans (.new (c:=(.lst,[.int z])))).tr2 k3 ?_).putL (by rw [gc3]; rfl) (.inl ?_)
        · intro x hx
          simp at hx
          rcases hx with rfl | rfl
          · exact .inl (by simp)
          · exact .inr kg.nx
        · exact k1.nx)
    (s:=[some (.ref n),some (.int m),some (.int z),some (.nod .lst (W.map .str)),some (.nod .lst (N.map .str)),some (.ref c),none,none,none,none]) (h:=h1.new (.lst,[]))
    ⟨[],none,none,none,none,rfl,H1.kp (S:=[]) .new (by simp),by simp [c],by simp,by simp,k1.trans .new⟩
  obtain ⟨P,u1,u2,u3,u4,rfl,Hg,gc,hP,hok,kg⟩:=q2
  rw [List.length_map,List.take_length] at hP
  refine ⟨P,h2.del c,by rw [← hl,← hP]; simp,⟨?_,?_,?_,?_,?_⟩,?_,?_,kg.del k1.nx,by rw [hP]; exact hlen⟩
  · have:=congrArg List.length hP
    simp at this; omega
  · rw [hP]; exact nd
  · intro p hp; exact nok _ (by rw [← hP]; exact List.mem_map_of_mem hp)
  · intro p hp; rw [hP]; exact (hok p hp).1
  · intro p hp; exact (hok p hp).2
  · have z0:0 ≤ sizeLine:=Nat.zero_le _
    show lenF 4 (fnA 10 _) _ _ = _
    rw [ev_fn (by rfl)]
    simp [B__law_plan,startA,e1,mkM,srcVK_lst]
    rw [e2]
    simp [frz1_ref gc]
  · obtain ⟨y,ey,oy⟩:=Hg
    exact ⟨y,by rw [get_del,if_neg (by omega)]; exact ey,oy⟩
theorem plan_ok {h:AH} {n m z:Nat} {W:List Str} (H:Hat h n) (hm:m ≤ 4) (hz:z ≤ 24) (w1:∀ w ∈ W,w ∈ wordsL) (w2:W ≠ []) (w3:W.length < 1000000) :
    ∃ (P:Plan) (h':AH),P.length = m ∧ PlanOk P ∧ F__law_plan [.ref n,.int m,.int z,.nod .lst (W.map .str)] h = some (.nod .lst (P.map pav),h') ∧ Hat h' n ∧ Kp [n] h h':=by
  obtain ⟨P,h',a1,a2,a3,a4,a5,_⟩:=plan_okL H hm hz w1 w2 w3
  exact ⟨P,h',a1,a2,a3,a4,a5⟩
end K03
end
section
namespace K03
open PySem PySem.Spec PyProof.Rows L2 Rp K03
def headOf (w:Str):Option Str → Str
  | none=>w
  | some x=>w ++ " " ++ x
mutual
def rowsOf:Stm → List Str
  | .one w t=>[headOf w t]
  | .blk w t b e o=>headOf w t :: (rowsOfs b ++ ((if e = true then ("else" : Str) :: rowsOfs o else []) ++ [("end" : Str)]))
def rowsOfs:List Stm → List Str
  | []=>[]
  | x :: r=>rowsOf x ++ rowsOfs r
end
theorem rowsOfs_app:∀ {a b:List Stm},rowsOfs (a ++ b) = rowsOfs a ++ rowsOfs b
  | [],b=>by simp [rowsOfs]
  | x :: a,b=>by simp only [List.cons_append,rowsOfs]; rw [rowsOfs_app,List.append_assoc]
mutual
theorem rowsOf_len:∀ S:Stm,(rowsOf S).length ≤ S.rows
  | .one w t=>by simp [rowsOf,Stm.rows]
  | .blk w t b e o=>by
    have h1:=rowsOfs_len b
    have h2:=rowsOfs_len o
    cases e <;> simp [rowsOf,Stm.rows] <;> omega
theorem rowsOfs_len:∀ L:List Stm,(rowsOfs L).length ≤ rowss L
  | []=>by simp [rowsOfs,rowss]
  | x :: r=>by
    have h1:=rowsOf_len x
    have h2:=rowsOfs_len r
    simp [rowsOfs,rowss]; omega
end
theorem rowss_mem:∀ {L:List Stm} {S:Stm},S ∈ L → S.rows ≤ rowss L
  | x :: r,S,h=>by
    rcases List.mem_cons.mp h with rfl | q
    · simp [rowss]
    · have:=rowss_mem q
      simp [rowss]; omega
theorem oks_mem {O:List Str} {d:Nat}:∀ {L:List Stm} {S:Stm},oks O d L → S ∈ L → S.ok O d
  | x :: r,S,k,h=>by
    simp only [oks] at k
    rcases List.mem_cons.mp h with rfl | q
    · exact k.1
    · exact oks_mem k.2 q
structure WordOk (x:Str):Prop where
  ne:∀ c ∈ x.cps.toList,c ≠ 10 ∧ c ≠ 32
  le:x.length ≤ 8
theorem NameOk.word {x:Str} (h:NameOk x):WordOk x:=⟨fun c hc=>by
  have:=h.let_ c hc
  omega,h.le⟩
theorem tok_word {O:List Str} {w:Str} {t:Option Str} (hO:∀ x ∈ O,NameOk x) (T:TOk O w t):WordOk w ∧ ∀ x,t = some x → WordOk x:=by
  have s1:∀ x ∈ signsL,(∀ c ∈ x.1.cps.toList,c ≠ 10 ∧ c ≠ 32) ∧ x.1.length ≤ 8 ∧ ∀ c ∈ x.2.cps.toList,c ≠ 10 ∧ c ≠ 32:=by decide +kernel
  have s2:∀ x ∈ othersL,(∀ c ∈ x.cps.toList,c ≠ 10 ∧ c ≠ 32) ∧ x.length ≤ 8:=by decide +kernel
  have s3:∀ x ∈ noThing,(∀ c ∈ x.cps.toList,c ≠ 10 ∧ c ≠ 32) ∧ x.length ≤ 8:=by decide +kernel
  rcases T with ⟨x,hx,rfl,c,hc,rfl⟩ | ⟨hw,x,hx,rfl⟩ | ⟨hw,rfl⟩
  · obtain ⟨a,b,d⟩:=s1 x hx
    refine ⟨⟨a,b⟩,fun y hy=>?_⟩
    cases hy
    refine ⟨fun z hz=>?_,by simp [PySem.Str.length]⟩
    simp at hz
    subst hz
    exact d _ hc
  · obtain ⟨a,b⟩:=s2 w hw
    refine ⟨⟨a,b⟩,fun y hy=>?_⟩
    cases hy
    exact (hO x hx).word
  · obtain ⟨a,b⟩:=s3 w hw
    exact ⟨⟨a,b⟩,nofun⟩
theorem sp_len:(Str.ofString " ").length = 1:=by decide +kernel
theorem head_run {w:Str} {t:Option Str} {s:LS} {h:AH} {X:AV} (hs:s[0]? = some (some X)) (h0:∀ h,aIx X (.int 0) h = some (.str w,h)) (h1:∀ h,aIx X (.int 1) h = some (tv t,h)) (ww:WordOk w) (wt:∀ x,t = some x → WordOk x) :
    (aIf (aTst (aOp2 aIs (aOp2 aIx (aVar 0) (aC (.int 1))) (aC .non))) (aOp2 aIx (aVar 0) (aC (.int 0))) (aOp2 aAdd (aOp2 aAdd (aOp2 aIx (aVar 0) (aC (.int 0))) (aC (.str " "))) (aOp2 aIx (aVar 0) (aC (.int 1))))) s h = some (.str (headOf w t),h):=by
  cases t with
  | none =>
    simp only [ev_ife,ev_tst,ev_op2,ev_var,hs,varK_some,op2K_some,ev_c,op2J_some,h1,tv,is_nn,tstK_some,ifeK_t,h0,headOf]
  | some x =>
    have l1:=ww.le
    have l2:=(wt x rfl).le
    have a1:aAdd (.str w) (.str (Str.ofString " ")) h = some (.str (w ++ " "),h):=ev_addS (sz _ (by rw [sp_len]; omega))
    have a2:aAdd (.str (w ++ (Str.ofString " "))) (.str x) h = some (.str (w ++ " " ++ x),h):=ev_addS (sz _ (by rw [app_len,sp_len]; omega))
    simp only [ev_ife,ev_tst,ev_op2,ev_var,hs,varK_some,op2K_some,ev_c,op2J_some,h1,tv,is_sn,tstK_some,ifeK_f,h0,headOf,a1,a2]
theorem rows_loop {k:Nat} {X hd:AV} {h0:AH} {b:List Stm} (IH:∀ S ∈ b,∀ h,∃ h',lenF 1 (R__law_rows_of k) [S.av] h = some (.nod .lst ((rowsOf S).map .str),h') ∧ Kp [] h h')
    {pre:List Str} {c:Nat} {g:AH} {u:Option AV} (gc:g.get c = some (.lst,pre.map .str)) (hc:h0.next ≤ c) (hz:pre.length + rowss b ≤ 2000) :
    ∃ g' c' u',forL [] (gNm 3) (aAsg (aOp2 aAddM (aVar 2) (aCall (lenF 1 (R__law_rows_of k)) [] (aCons (aVar 3) aNil))) (gNm 2)) (avs b) [some X,some hd,some (.ref c),u] g = some (.nx [some X,some hd,some (.ref c'),u'],g') ∧
      g'.get c' = some (.lst,(pre ++ rowsOfs b).map .str) ∧ h0.next ≤ c' ∧ Kp [] g g':=by
  obtain ⟨s2,h2,e2,q2⟩:=forL_ix (G:=[]) (g:=gNm 3) (B:=(aAsg (aOp2 aAddM (aVar 2) (aCall (lenF 1 (R__law_rows_of k)) [] (aCons (aVar 3) aNil))) (gNm 2))) (xs:=avs b)
    (fun i st g1=>∃ c' u',st = [some X,some hd,some (.ref c'),u'] ∧ g1.get c' = some (.lst,(pre ++ rowsOfs (b.take i)).map .str) ∧ h0.next ≤ c' ∧ Kp [] g g1)
    (fun _ _ _ _=>rfl) (fun i x st g1 hx q=>by
      obtain ⟨c',u',rfl,gc',hc',kg⟩:=q
      rw [avs_map] at hx
      obtain ⟨S,hS,rfl⟩:=getElem?_map_some hx
      obtain ⟨g2,e2,k2⟩:=IH S (mem_of_get hS) g1
      have gc2:=k2.get gc' (by simp)
      have hl:(pre ++ rowsOfs (b.take (i + 1))).length ≤ sizeLine:=by
        have h1:=rowsOfs_len (b.take (i + 1))
        have h2:rowss (b.take (i + 1)) ≤ rowss b:=by
          have:=rowss_app (a:=b.take (i + 1)) (b:=b.drop (i + 1))
          rw [List.take_append_drop] at this
          omega
        rw [List.length_append]
        exact sz _ (by omega)
      have et:pre ++ rowsOfs (b.take (i + 1)) = pre ++ rowsOfs (b.take i) ++ rowsOf S:=by
        rw [take_succ_of hS,rowsOfs_app]
        simp [rowsOfs]
      have hl2:(List.map AV.str (pre ++ rowsOfs (b.take i)) ++ List.map AV.str (rowsOf S)).length ≤ sizeLine:=by
        rw [et] at hl
        simpa using hl
      refine ⟨_,_,_,g2.new (.lst,(pre ++ rowsOfs (b.take (i + 1))).map .str),[some X,some hd,some (.ref g2.next),some S.av],rfl,?_,.inl rfl,g2.next,some S.av,rfl,by simp,?_,kg.trans (k2.trans .new)⟩
      · simp only [ev_asg,ev_op2,ev_var,List.set,List.getElem?_cons_succ,List.getElem?_cons_zero,varK_some,op2K_some,ev_call,ev_cons,consK_some,ev_nil,consJ_some,argsK_some,List.append_nil,e2,op2J_some,ev_addM,catM_ref,gc2,catR_lst,mkM_ok hl2]
        simp [et]
      · have:=AH.lt gc2
        omega)
    (s:=[some X,some hd,some (.ref c),u]) (h:=g) ⟨c,u,rfl,by simpa [rowsOfs] using gc,hc,.refl⟩
  obtain ⟨c',u',rfl,gc',hc',kg⟩:=q2
  rw [avs_len,List.take_length] at gc'
  exact ⟨h2,c',u',e2,gc',hc',kg⟩
theorem rows_of_ok {O:List Str} (hO:∀ x ∈ O,NameOk x):∀ (k d:Nat) (S:Stm) (h:AH),d < k → S.ok O d → S.rows ≤ 1000 → ∃ h',lenF 1 (R__law_rows_of k) [S.av] h = some (.nod .lst ((rowsOf S).map .str),h') ∧ Kp [] h h'
  | 0,d,S,h,hd,_,_=>absurd hd (by omega)
  | k + 1,d,.one w t,h,hd,ok,hr=>by
    simp only [Stm.ok] at ok
    obtain ⟨ww,wt⟩:=tok_word hO ok.2
    have z1:1 ≤ sizeLine:=sz _ (by omega)
    have hd1:=head_run (w:=w) (t:=t) (X:=(Stm.one w t).av) (s:=[some (Stm.one w t).av,none,none,none]) (h:=h) rfl (fun _=>by simp [Stm.av]) (fun _=>by simp [Stm.av]) ww wt
    refine ⟨(h.new (.lst,[.str (headOf w t)])).del h.next,?_,Kp.del .new (Nat.le_refl _)⟩
    show lenF 1 (fnA 4 _) _ _ = _
    rw [ev_fn (by rfl)]
    simp only [B__law_rows_of,startA,List.map_cons,List.map_nil,List.length_cons,List.length_nil,List.replicate,List.singleton_append,ev_seq,ev_asg,List.nil_append,List.cons_append]
    rw [hd1]
    simp [mkM,z1,Stm.av,eq_ii,rowsOf]
  | k + 1,d,.blk w t b e o,h,hd,ok,hr=>by
    simp only [Stm.ok] at ok
    obtain ⟨hd0,hb,T,he,he2,okb,oko⟩:=ok
    obtain ⟨ww,wt⟩:=tok_word (O:=[]) (by simp) T
    have z1:1 ≤ sizeLine:=sz _ (by omega)
    simp only [Stm.rows] at hr
    have IHb:∀ S ∈ b,∀ h,∃ h',lenF 1 (R__law_rows_of k) [S.av] h = some (.nod .lst ((rowsOf S).map .str),h') ∧ Kp [] h h':=fun S hS h =>
      rows_of_ok hO k (d - 1) S h (by omega) (oks_mem okb hS) (by have:=rowss_mem hS; omega)
    have IHo:∀ S ∈ o,∀ h,∃ h',lenF 1 (R__law_rows_of k) [S.av] h = some (.nod .lst ((rowsOf S).map .str),h') ∧ Kp [] h h':=fun S hS h =>
      rows_of_ok hO k (d - 1) S h (by omega) (oks_mem oko hS) (by have:=rowss_mem hS; omega)
    have hd1:=head_run (w:=w) (t:=t) (X:=(Stm.blk w t b e o).av) (s:=[some (Stm.blk w t b e o).av,none,none,none]) (h:=h) rfl (fun _=>by simp [Stm.av]) (fun _=>by simp [Stm.av]) ww wt
    let g0:=h.new (.lst,[.str (headOf w t)])
    obtain ⟨g1,c1,u1,e1,gc1,hc1,k1⟩:=rows_loop (X:=(Stm.blk w t b e o).av) (hd:=.str (headOf w t)) (h0:=h) IHb (pre:=[headOf w t]) (c:=h.next) (g:=g0) (u:=none) (by simp [g0]) (Nat.le_refl _) (by simp; omega)
    have hl1:(rowsOfs b).length ≤ rowss b:=rowsOfs_len b
    have hl2:(rowsOfs o).length ≤ rowss o:=rowsOfs_len o
    cases e with
    | false =>
      refine ⟨g1,?_,(Kp.new).trans k1⟩
      show lenF 1 (fnA 4 _) _ _ = _
      rw [ev_fn (by rfl)]
      simp only [B__law_rows_of,startA,List.map_cons,List.map_nil,List.length_cons,List.length_nil,List.replicate,List.singleton_append,ev_seq,ev_asg,List.nil_append,List.cons_append]
      rw [hd1]
      have zz:(rowsOfs b).length + 1 + 1 ≤ sizeLine:=sz _ (by omega)
      have e1':=e1
      simp only [Stm.av,g0] at e1'
      simp [mkM,z1,Stm.av,eq_ii,rowsOf,srcVK_lst]
      simp only [Bool.false_eq_true,if_false] at e1'
      rw [e1']
      simp [gc1,mkF,z1,zz]
    | true =>
      have hg1:(g1.get c1).isSome = true:=by rw [gc1]; rfl
      let g2:=g1.put c1 (.lst,(headOf w t :: rowsOfs b ++ [("else" : Str)]).map .str)
      have gc2:g2.get c1 = some (.lst,(headOf w t :: rowsOfs b ++ [("else" : Str)]).map .str):=by simp only [g2]; rw [AH.get_put gc1,if_pos rfl]
      obtain ⟨g3,c3,u3,e3,gc3,hc3,k3⟩:=rows_loop (X:=(Stm.blk w t b true o).av) (hd:=.str (headOf w t)) (h0:=h) IHo (c:=c1) (g:=g2) (u:=u1) gc2 hc1 (by simp; omega)
      refine ⟨g3,?_,((Kp.new.trans k1).putL hg1 (.inl hc1)).trans k3⟩
      show lenF 1 (fnA 4 _) _ _ = _
      rw [ev_fn (by rfl)]
      simp only [B__law_rows_of,startA,List.map_cons,List.map_nil,List.length_cons,List.length_nil,List.replicate,List.singleton_append,ev_seq,ev_asg,List.nil_append,List.cons_append]
      rw [hd1]
      have zz:(rowsOfs b).length + ((rowsOfs o).length + 1 + 1) + 1 ≤ sizeLine:=sz _ (by omega)
      have zy:(rowsOfs b).length + 1 < sizeLine:=by rw [sizeLine_eq]; omega
      have e1':=e1
      have e3':=e3
      simp only [Stm.av,g0,g2,if_true] at e1' e3'
      simp [mkM,z1,Stm.av,eq_ii,rowsOf,srcVK_lst]
      rw [e1']
      simp [gc1,appR,zy,srcVK_lst]
      simp at e3'
      rw [e3']
      simp at gc3
      simp [gc3,mkF,z1,zz]
end K03
end
section
namespace K03
open PySem PySem.Spec PyProof.Rows L2 Rp K03
structure RowOk (r:Str):Prop where
  nl:10 ∉ r.cps.toList
  le:r.length ≤ 20
theorem head_row {w:Str} {t:Option Str} (ww:WordOk w) (wt:∀ x,t = some x → WordOk x):RowOk (headOf w t):=by
  cases t with
  | none=>exact ⟨fun h=>(ww.ne _ h).1 rfl,by have:=ww.le; simp only [headOf]; omega⟩
  | some x =>
    have e:(Str.ofString " ").cps.toList = [32]:=by decide +kernel
    refine ⟨fun h=>?_,by have:=ww.le; have:=(wt x rfl).le; simp only [headOf]; rw [app_len,app_len,sp_len]; omega⟩
    simp only [headOf] at h
    rw [app_l,app_l,e] at h
    simp only [List.mem_append,List.mem_singleton] at h
    rcases h with (h | h) | h
    · exact (ww.ne _ h).1 rfl
    · omega
    · exact ((wt x rfl).ne _ h).1 rfl
theorem row_end:RowOk ("end" : Str):=⟨by decide +kernel,by decide +kernel⟩
theorem row_else:RowOk ("else" : Str):=⟨by decide +kernel,by decide +kernel⟩
theorem row_task {x:Str} (h:NameOk x):RowOk (("task " : Str) ++ x):=by
  have e:(Str.ofString "task ").cps.toList = [116,97,115,107,32]:=by decide +kernel
  have e2:(Str.ofString "task ").length = 5:=by decide +kernel
  refine ⟨fun q=>?_,by rw [app_len,e2]; have:=h.le; omega⟩
  rw [app_l,e] at q
  simp at q
  exact (h.word.ne _ (by simpa using q)).1 rfl
mutual
theorem rowsOf_row {O:List Str} (hO:∀ x ∈ O,NameOk x):∀ (S:Stm) (d:Nat),S.ok O d → ∀ r ∈ rowsOf S,RowOk r
  | .one w t,d,ok,r,hr=>by
    simp only [Stm.ok] at ok
    obtain ⟨ww,wt⟩:=tok_word hO ok.2
    simp only [rowsOf,List.mem_singleton] at hr
    subst hr; exact head_row ww wt
  | .blk w t b e o,d,ok,r,hr=>by
    simp only [Stm.ok] at ok
    obtain ⟨hd0,hb,T,he,he2,okb,oko⟩:=ok
    obtain ⟨ww,wt⟩:=tok_word (O:=[]) (by simp) T
    simp only [rowsOf,List.mem_cons,List.mem_append,List.mem_singleton,List.not_mem_nil,or_false] at hr
    rcases hr with rfl | hr | hr | rfl
    · exact head_row ww wt
    · exact rowsOfs_row hO b (d - 1) okb r hr
    · cases e with
      | false=>simp at hr
      | true =>
        simp only [if_true,List.mem_cons] at hr
        rcases hr with rfl | hr
        · exact row_else
        · exact rowsOfs_row hO o (d - 1) oko r hr
    · exact row_end
theorem rowsOfs_row {O:List Str} (hO:∀ x ∈ O,NameOk x):∀ (L:List Stm) (d:Nat),oks O d L → ∀ r ∈ rowsOfs L,RowOk r
  | [],d,ok,r,hr=>by simp [rowsOfs] at hr
  | x :: l,d,ok,r,hr=>by
    simp only [oks] at ok
    simp only [rowsOfs,List.mem_append] at hr
    rcases hr with hr | hr
    · exact rowsOf_row hO x d ok.1 r hr
    · exact rowsOfs_row hO l d ok.2 r hr
end
def rowsP:Plan → List Str
  | []=>[]
  | p :: P=>(("task " : Str) ++ p.1) :: (rowsOfs p.2 ++ [("end" : Str)]) ++ rowsP P
theorem rowsP_app:∀ {a b:Plan},rowsP (a ++ b) = rowsP a ++ rowsP b
  | [],b=>rfl
  | x :: a,b=>by simp only [List.cons_append,rowsP]; rw [rowsP_app]; simp
theorem rowsP_len:∀ {P:Plan},(∀ p ∈ P,rowss p.2 ≤ 24) → (rowsP P).length ≤ 26 * P.length
  | [],_=>by simp [rowsP]
  | p :: P,h=>by
    have h1:=rowsOfs_len p.2
    have h2:=h p List.mem_cons_self
    have h3:=rowsP_len (P:=P) fun q hq=>h q (List.mem_cons_of_mem _ hq)
    simp only [rowsP,List.length_append,List.length_cons,List.length_nil]
    omega
theorem PlanOk.rows {P:Plan} (h:PlanOk P):∀ r ∈ rowsP P,RowOk r:=by
  have key:∀ Q:Plan,(∀ p ∈ Q,p ∈ P) → ∀ r ∈ rowsP Q,RowOk r:=by
    intro Q
    induction Q with
    | nil=>intro _ r hr; simp [rowsP] at hr
    | cons p Q ih =>
      intro hQ r hr
      have hp:=hQ p List.mem_cons_self
      simp only [rowsP,List.mem_append,List.mem_cons,List.not_mem_nil,or_false] at hr
      rcases hr with (rfl | hr | rfl) | hr
      · exact row_task (h.nm p hp)
      · refine rowsOfs_row (O:=(P.map (·.1)).filter fun y=>!decide (y = p.1)) (fun x hx=>?_) p.2 4 (h.ok p hp) r hr
        obtain ⟨q,hq,rfl⟩:=List.mem_map.mp (List.mem_filter.mp hx).1
        exact h.nm q hq
      · exact row_end
      · exact ih (fun q hq=>hQ q (List.mem_cons_of_mem _ hq)) r hr
  exact key P fun _ hp=>hp
def textOf (rows:List Str):Str:=Txt.join ("" : Str) (rows.map fun r=>r ++ ("\n" : Str))
def textP (P:Plan):Str:=textOf (rowsP P)
theorem nl_l:(Str.ofString "\n").cps.toList = [10]:=by decide +kernel
theorem join_e:∀ (L:List Str),(Txt.join ("" : Str) L).cps.toList = (L.map fun r=>r.cps.toList).flatten:=by
  intro L
  rw [show Txt.join ("" : Str) L = Str.join ("" : Str) L from StrLaws.glued_eq_join _ _]
  have e:(Str.ofString "").cps.toList = []:=by decide +kernel
  induction L with
  | nil=>rfl
  | cons x L ih =>
    cases L with
    | nil=>simp [Str.join]
    | cons y L =>
      show (x ++ ("" : Str) ++ Str.join ("" : Str) (y :: L)).cps.toList = _
      rw [app_l,app_l,e,ih]
      simp
theorem textOf_l {rows:List Str}:(textOf rows).cps.toList = (rows.map fun r=>r.cps.toList ++ [10]).flatten:=by
  unfold textOf
  rw [join_e,List.map_map]
  congr 1
  refine List.map_congr_left fun r _=>?_
  show (r ++ ("\n" : Str)).cps.toList = _
  rw [app_l,nl_l]
theorem textOf_len {rows:List Str} (h:∀ r ∈ rows,RowOk r):(textOf rows).length ≤ 21 * rows.length:=by
  rw [len_l,textOf_l]
  induction rows with
  | nil=>simp
  | cons r rows ih =>
    have h1:=(h r List.mem_cons_self).le
    have h2:=ih fun q hq=>h q (List.mem_cons_of_mem _ hq)
    simp only [List.map_cons,List.flatten_cons,List.length_append,List.length_cons,List.length_nil] at h2 ⊢
    rw [← len_l]; omega
theorem text_loop {R:AV} {b:List Stm} {O:List Str} (hO:∀ x ∈ O,NameOk x) (ok:oks O 4 b) (hb:rowss b ≤ 24) {h0:AH} {pre:List Str} {c:Nat} {g:AH} {u1 u2 u3 u4:Option AV} (gc:g.get c = some (.lst,pre.map .str)) (hc:h0.next ≤ c) (hz:pre.length ≤ 2000) :
    ∃ g' c' u',forL [] (gNm 4) (aAsg (aOp2 aAddM (aVar 1) (aCall F__law_rows_of [] (aCons (aVar 4) aNil))) (gNm 1)) (avs b) [some R,some (.ref c),u1,u2,u3,u4] g = some (.nx [some R,some (.ref c'),u1,u2,u',u4],g') ∧
      g'.get c' = some (.lst,(pre ++ rowsOfs b).map .str) ∧ h0.next ≤ c' ∧ Kp [] g g':=by
  obtain ⟨s2,h2,e2,q2⟩:=forL_ix (G:=[]) (g:=gNm 4) (B:=(aAsg (aOp2 aAddM (aVar 1) (aCall F__law_rows_of [] (aCons (aVar 4) aNil))) (gNm 1))) (xs:=avs b)
    (fun i st g1=>∃ c' u',st = [some R,some (.ref c'),u1,u2,u',u4] ∧ g1.get c' = some (.lst,(pre ++ rowsOfs (b.take i)).map .str) ∧ h0.next ≤ c' ∧ Kp [] g g1)
    (fun _ _ _ _=>rfl) (fun i x st g1 hx q=>by
      obtain ⟨c',u',rfl,gc',hc',kg⟩:=q
      rw [avs_map] at hx
      obtain ⟨S,hS,rfl⟩:=getElem?_map_some hx
      obtain ⟨g2,e2,k2⟩:=rows_of_ok hO 40 4 S g1 (by omega) (oks_mem ok (mem_of_get hS)) (by have:=rowss_mem (mem_of_get hS); omega)
      have e2':F__law_rows_of [S.av] g1 = some (.nod .lst ((rowsOf S).map .str),g2):=e2
      have gc2:=k2.get gc' (by simp)
      have et:pre ++ rowsOfs (b.take (i + 1)) = pre ++ rowsOfs (b.take i) ++ rowsOf S:=by
        rw [take_succ_of hS,rowsOfs_app]
        simp [rowsOfs]
      have hl:(pre ++ rowsOfs (b.take (i + 1))).length ≤ sizeLine:=by
        have h1:=rowsOfs_len (b.take (i + 1))
        have h2:rowss (b.take (i + 1)) ≤ rowss b:=by
          have:=rowss_app (a:=b.take (i + 1)) (b:=b.drop (i + 1))
          rw [List.take_append_drop] at this
          omega
        rw [List.length_append]
        exact sz _ (by omega)
      have hl2:(List.map AV.str (pre ++ rowsOfs (b.take i)) ++ List.map AV.str (rowsOf S)).length ≤ sizeLine:=by
        rw [et] at hl
        simpa using hl
      refine ⟨_,_,_,g2.new (.lst,(pre ++ rowsOfs (b.take (i + 1))).map .str),[some R,some (.ref g2.next),u1,u2,some S.av,u4],rfl,?_,.inl rfl,g2.next,some S.av,rfl,by simp,?_,kg.trans (k2.trans .new)⟩
      · simp only [ev_asg,ev_op2,ev_var,List.set,List.getElem?_cons_succ,List.getElem?_cons_zero,varK_some,op2K_some,ev_call,ev_cons,consK_some,ev_nil,consJ_some,argsK_some,List.append_nil,e2',op2J_some,ev_addM,catM_ref,gc2,catR_lst,mkM_ok hl2]
        simp [et]
      · have:=AH.lt gc2
        omega)
    (s:=[some R,some (.ref c),u1,u2,u3,u4]) (h:=g) ⟨c,u3,rfl,by simpa [rowsOfs] using gc,hc,.refl⟩
  obtain ⟨c',u',rfl,gc',hc',kg⟩:=q2
  rw [avs_len,List.take_length] at gc'
  exact ⟨h2,c',u',e2,gc',hc',kg⟩
theorem text_ok {P:Plan} (h:AH) (Hp:PlanOk P):∃ h',F__law_text [.nod .lst (P.map pav)] h = some (.str (textP P),h') ∧ Kp [] h h':=by
  have hlen:=rowsP_len Hp.rw_
  have hle:=Hp.le
  obtain ⟨s2,h2,e2,q2⟩:=forL_ix (G:=[]) (g:=(gSq 2 (gsCons (gNm 2) (gsCons (gNm 3) gsNil)))) (B:=(aSeq (aExp (aBM "list" aAppend (aVar 1) (aCons (aOp2 aAdd (aC (.str "task ")) (aVar 2)) aNil)))
    (aSeq (aFor (sVal (aVar 3)) (gNm 4) (aAsg (aOp2 aAddM (aVar 1) (aCall F__law_rows_of [] (aCons (aVar 4) aNil))) (gNm 1)))
    (aExp (aBM "list" aAppend (aVar 1) (aCons (aC (.str "end")) aNil)))))) (xs:=P.map pav)
    (fun i st g=>∃ c u1 u2 u3 u4,st = [some (.nod .lst (P.map pav)),some (.ref c),u1,u2,u3,u4] ∧ g.get c = some (.lst,(rowsP (P.take i)).map .str) ∧ h.next ≤ c ∧ Kp [] h g)
    (fun _ _ _ _=>rfl) (fun i x st g hx q=>by
      obtain ⟨c,u1,u2,u3,u4,rfl,gc,hc,kg⟩:=q
      obtain ⟨p,hp,rfl⟩:=getElem?_map_some hx
      have hpP:=mem_of_get hp
      have hl1:(rowsP (P.take i)).length ≤ 104:=by
        have:=rowsP_len (P:=P.take i) fun q hq=>Hp.rw_ q (List.mem_of_mem_take hq)
        have:(P.take i).length ≤ 4:=by rw [List.length_take]; omega
        omega
      have z1:(rowsP (P.take i)).length < sizeLine:=by rw [sizeLine_eq]; omega
      let g1:=g.put c (.lst,(rowsP (P.take i) ++ [("task " : Str) ++ p.1]).map .str)
      have gc1:g1.get c = some (.lst,(rowsP (P.take i) ++ [("task " : Str) ++ p.1]).map .str):=by simp only [g1]; rw [AH.get_put gc,if_pos rfl]
      have k1:Kp [] h g1:=kg.putL (by rw [gc]; rfl) (.inl hc)
      obtain ⟨g2,c2,u',e2,gc2,hc2,k2⟩:=text_loop (R:=.nod .lst (P.map pav)) (O:=(P.map (·.1)).filter fun y=>!decide (y = p.1)) (b:=p.2) (u1:=some (.str p.1)) (u2:=some (.nod .lst (avs p.2))) (u3:=u3) (u4:=u4) (fun x hx=>by
          obtain ⟨q,hq,rfl⟩:=List.mem_map.mp (List.mem_filter.mp hx).1
          exact Hp.nm q hq) (Hp.ok p hpP) (Hp.rw_ p hpP) (h0:=h) gc1 hc (by simp; omega)
      have hl2:=rowsOfs_len p.2
      have hr2:=Hp.rw_ p hpP
      have z2:(rowsP (P.take i)).length + ((rowsOfs p.2).length + 1) < sizeLine:=by rw [sizeLine_eq]; omega
      have et:rowsP (P.take (i + 1)) = rowsP (P.take i) ++ [("task " : Str) ++ p.1] ++ rowsOfs p.2 ++ [("end" : Str)]:=by
        rw [take_succ_of hp,rowsP_app]
        simp [rowsP]
      have e5:(Str.ofString "task ").length = 5:=by decide +kernel
      have at1:∀ h',aAdd (.str (Str.ofString "task ")) (.str p.1) h' = some (.str (("task " : Str) ++ p.1),h'):=fun _=>ev_addS (sz _ (by rw [e5]; have:=(Hp.nm p hpP).le; omega))
      refine ⟨_,_,_,g2.put c2 (.lst,(rowsP (P.take (i + 1))).map .str),[some (.nod .lst (P.map pav)),some (.ref c2),some (.str p.1),some (.nod .lst (avs p.2)),u',u4],rfl,?_,.inl rfl,c2,some (.str p.1),some (.nod .lst (avs p.2)),u',u4,rfl,by rw [AH.get_put gc2,if_pos rfl],hc2,(k1.trans k2).putL (by rw [gc2]; rfl) (.inl hc2)⟩
      simp only [g1] at e2
      simp at e2
      simp [gc,at1,appR,z1,srcVK_lst]
      rw [e2]
      simp at gc2
      simp [gc2,appR,z2,et])
    (s:=[some (.nod .lst (P.map pav)),some (.ref h.next),none,none,none,none]) (h:=h.new (.lst,[])) ⟨h.next,none,none,none,none,rfl,by simp [rowsP],Nat.le_refl _,.new⟩
  obtain ⟨c,u1,u2,u3,u4,rfl,gc,hc,kg⟩:=q2
  rw [List.length_map,List.take_length] at gc
  refine ⟨h2,?_,kg⟩
  have hl1:(rowsP P).length ≤ 104:=by omega
  have zl:(rowsP P).length ≤ sizeLine:=sz _ (by omega)
  have hg:chk [(c,(rowsP P).map .str)] h2 = true:=by simp [chk,gc]
  have nl1:(Str.ofString "\n").length = 1:=by decide +kernel
  have ec:=lcL_str (G:=[(c,(rowsP P).map .str)]) (g:=gNm 5) (t:=aYes) (f:=(aOp2 aAdd (aVar 5) (aC (.str "\n")))) (s0:=[some (.nod .lst (P.map pav)),some (.ref c),u1,u2,u3,none]) (h:=h2) hg
        (fun y=>true) (fun y=>AV.str (y ++ ("\n" : Str))) (fun y=>[some (.nod .lst (P.map pav)),some (.ref c),u1,u2,u3,some (.str y)]) (rowsP P)
        (fun y hy=>⟨rfl,rfl,fun _=>by
          have:=(Hp.rows y hy).le
          simp
          exact ev_addS (sz _ (by omega))⟩) zl
  rw [List.filter_eq_self.mpr (by simp)] at ec
  have ej:∀ h',aJoin (.str (Str.ofString "")) [.nod .lst ((rowsP P).map fun y=>AV.str (y ++ ("\n" : Str)))] h' = some (.str (textP P),h'):=fun h' => by
    have e0:(Str.ofString "").length = 0:=by decide +kernel
    have hs:∀ L:List Str,(∀ r ∈ L,RowOk r) → (L.map fun y=>(y ++ ("\n" : Str)).length).sum ≤ 21 * L.length:=by
      intro L
      induction L with
      | nil=>simp
      | cons x L ih =>
        intro hL
        have h1:=(hL x List.mem_cons_self).le
        have h2:=ih fun q hq=>hL q (List.mem_cons_of_mem _ hq)
        simp only [List.map_cons,List.sum_cons,List.length_cons]
        rw [app_len,nl1]
        simp only [app_len,nl1] at h2 ⊢
        omega
    have hs:=hs (rowsP P) Hp.rows
    unfold aJoin
    simp only [seqOf_lst,Option.bind_some]
    rw [show ((rowsP P).map fun y=>AV.str (y ++ ("\n" : Str))) = ((rowsP P).map fun y=>(y ++ ("\n" : Str))).map AV.str by simp,strsOf_map]
    simp only [Option.bind_some,e0]
    rw [if_pos (by
      rw [List.map_map]
      have:((fun (x:Str)=>x.length) ∘ fun y=>y ++ ("\n" : Str)) = fun y=>(y ++ ("\n" : Str)).length:=rfl
      rw [this]; omega)]
    rfl
  have z0:0 ≤ sizeLine:=Nat.zero_le _
  show lenF 1 (fnA 6 _) _ _ = _
  rw [ev_fn (by rfl)]
  simp [B__law_text,startA,mkM,srcVK_lst]
  rw [e2]
  simp [srcVK_ref gc,wipeA,ec,mkF,zl,ej]
end K03
end
section
namespace K03
open PySem PySem.Spec PyProof.Rows L2 Rp K03
def tabK:List Key:=[.inr "load",.inr "add",.inr "read",.inr "write",.inr "keep",.inr "own",.inr "ask",.inr "give",.inr "take",.inr "lock",.inr "bind",.inr "loop"]
def tabV:List AV:=[(.str "01234"),(.str "1234"),(.str "abcd"),(.str "abcd"),(.str "wxyz"),(.str "wxyz"),(.str "wxyz"),(.str "pq"),(.str "pq"),(.str "lm"),(.str "wxyz"),(.str "123")]
def aloneL:List Str:=["mark", "peek", "yield", "call", "fail", "hold", "try", "when"]
end K03
end
section
namespace K03
open PySem PySem.Spec PyProof.Rows L2 Rp K03
structure Rd (h:AH) (r f a n c:Nat) (nm:Str) (ks:List Key) (fs A N ss:List AV) (rows:Nat):Prop where
  hr:h.get r = some (.ins 0,[.ref f,.ref a,.str nm,.int rows,.ref n])
  hf:h.get f = some (.dct ks,fs)
  hk:((kIx ks (.inr nm)).bind fun i=>fs[i]?) = some (.ref c)
  ha:h.get a = some (.lst,A)
  hn:h.get n = some (.lst,N)
  hc:h.get c = some (.lst,ss)
  an:a ≠ n
  ac:a ≠ c
  nc:n ≠ c
  hN:isDs 59 N = true
section
variable {h:AH} {r f a n c:Nat} {nm:Str} {ks:List Key} {fs A N ss:List AV} {rows:Nat}
theorem Rd.ra (R:Rd h r f a n c nm ks fs A N ss rows):r ≠ a:=get_ne R.hr R.ha nofun
theorem Rd.rn (R:Rd h r f a n c nm ks fs A N ss rows):r ≠ n:=get_ne R.hr R.hn nofun
theorem Rd.rc (R:Rd h r f a n c nm ks fs A N ss rows):r ≠ c:=get_ne R.hr R.hc nofun
theorem Rd.rf (R:Rd h r f a n c nm ks fs A N ss rows):r ≠ f:=get_ne R.hr R.hf nofun
theorem Rd.fa (R:Rd h r f a n c nm ks fs A N ss rows):f ≠ a:=get_ne R.hf R.ha nofun
theorem Rd.fn (R:Rd h r f a n c nm ks fs A N ss rows):f ≠ n:=get_ne R.hf R.hn nofun
theorem Rd.fc (R:Rd h r f a n c nm ks fs A N ss rows):f ≠ c:=get_ne R.hf R.hc nofun
theorem Rd.setR (R:Rd h r f a n c nm ks fs A N ss rows) (m:Nat):Rd (h.put r (.ins 0,[.ref f,.ref a,.str nm,.int m,.ref n])) r f a n c nm ks fs A N ss m :=
  ⟨put_own R.hr,put_oth R.hf R.hr R.rf.symm,R.hk,put_oth R.ha R.hr R.ra.symm,put_oth R.hn R.hr R.rn.symm,put_oth R.hc R.hr R.rc.symm,R.an,R.ac,R.nc,R.hN⟩
theorem Rd.setA (R:Rd h r f a n c nm ks fs A N ss rows) (A':List AV):Rd (h.put a (.lst,A')) r f a n c nm ks fs A' N ss rows :=
  ⟨put_oth R.hr R.ha R.ra,put_oth R.hf R.ha R.fa,R.hk,put_own R.ha,put_oth R.hn R.ha R.an.symm,put_oth R.hc R.ha R.ac.symm,R.an,R.ac,R.nc,R.hN⟩
theorem Rd.setN (R:Rd h r f a n c nm ks fs A N ss rows) (N':List AV) (hN:isDs 59 N' = true):Rd (h.put n (.lst,N')) r f a n c nm ks fs A N' ss rows :=
  ⟨put_oth R.hr R.hn R.rn,put_oth R.hf R.hn R.fn,R.hk,put_oth R.ha R.hn R.an,put_own R.hn,put_oth R.hc R.hn R.nc.symm,R.an,R.ac,R.nc,hN⟩
theorem Rd.setC (R:Rd h r f a n c nm ks fs A N ss rows) (s':List AV):Rd (h.put c (.lst,s')) r f a n c nm ks fs A N s' rows :=
  ⟨put_oth R.hr R.hc R.rc,put_oth R.hf R.hc R.fc,R.hk,put_oth R.ha R.hc R.ac,put_oth R.hn R.hc R.nc,put_own R.hc,R.an,R.ac,R.nc,R.hN⟩
theorem Rd.new (R:Rd h r f a n c nm ks fs A N ss rows) (z:Kd × List AV):Rd (h.new z) r f a n c nm ks fs A N ss rows :=
  ⟨new_oth R.hr,new_oth R.hf,R.hk,new_oth R.ha,new_oth R.hn,new_oth R.hc,R.an,R.ac,R.nc,R.hN⟩
theorem Rd.setS (R:Rd h r f a n c nm ks fs A N ss rows) {s:Nat} {xs:List AV} (hs:h.get s = some (.lst,xs)) (sa:s ≠ a) (sn:s ≠ n) (sc:s ≠ c) (z:List AV):Rd (h.put s (.lst,z)) r f a n c nm ks fs A N ss rows :=
  ⟨put_oth R.hr hs (get_ne R.hr hs nofun),put_oth R.hf hs (get_ne R.hf hs nofun),R.hk,put_oth R.ha hs sa.symm,put_oth R.hn hs sn.symm,put_oth R.hc hs sc.symm,R.an,R.ac,R.nc,R.hN⟩
end
end K03
end
section
namespace K03
open PySem PySem.Spec PyProof.Rows L2 Rp K03
theorem pop_ok {h:AH} {n:Nat} {N0:List AV} {x:AV} (e:h.get n = some (.lst,N0 ++ [x])):aPop (.ref n) [] h = some (x,h.put n (.lst,N0)):=by
  simp [aPop,cellL,e]
theorem ixN_nat {m k:Nat} (h:k < m):ixN m ((k:Nat):Int) = some k:=by
  unfold ixN
  rw [if_pos (by omega),if_pos (by omega)]
  simp
theorem ixN_last {m:Nat}:ixN (m + 1) (-1) = some m:=by
  unfold ixN
  simp
  omega
theorem atI_last {α:Type} {xs:List α} {x:α}:atI (xs ++ [x]) (-1) = some x:=by
  unfold atI
  rw [List.length_append,List.length_singleton,ixN_last]
  simp
theorem atI_nat {α:Type} {xs:List α} {k:Nat} {x:α} (h:xs[k]? = some x):atI xs ((k:Nat):Int) = some x:=by
  have:=(List.getElem?_eq_some_iff.mp h).1
  rw [atI_at this]; exact h
def midOf (w:Str):Str:=if w = "try" then "leave" else "pass"
theorem ife_bl {b:Bool} {h:AH} {x y:AV} {s:LS}:ifeK (some (b,h)) (aC x) (aC y) s = some (if b = true then x else y,h):=by
  cases b <;> rfl
theorem ife_mid {w:Str} {h:AH} {s:LS}:ifeK (some (decide (w = (Str.ofString "try")),h)) (aC (.str "leave")) (aC (.str "pass")) s = some (.str (midOf w),h):=by
  rw [ife_bl]
  by_cases q:w = ("try" : Str) <;> simp [q,midOf]
theorem tw_in {w:Str} (h:w = "try" ∨ w = "when"):w ∈ (["try", "when"]:List Str):=by simpa using h
section
variable {h:AH} {r f a n c:Nat} {nm:Str} {ks:List Key} {fs A N0 ss:List AV} {rows at_:Nat}
theorem close_loop {x:AV} (R:Rd h r f a n c nm ks fs A (N0 ++ [.nod .tup [.str "loop",.int at_,x]]) ss rows) (hN0:isDs 59 N0 = true) (hl:ss.length < 1000) :
    ∃ h',F_Reader_close [.ref r] h = some (.non,h') ∧ Rd h' r f a n c nm ks fs A N0 (ss ++ [.ref h.next]) rows ∧ h'.get h.next = some (.lst,[.str "again",.int (at_ + 1:Nat)]) ∧ h'.next = h.next + 1 ∧ Kp [n,c] h h':=by
  have zs:ss.length < sizeLine:=by rw [sizeLine_eq]; omega
  have z2:2 ≤ sizeLine:=sz _ (by omega)
  have hcl:=AH.lt R.hc
  obtain ⟨h1,hh1⟩:∃ x,h.put n (.lst,N0) = x:=⟨_,rfl⟩
  have R1:Rd h1 r f a n c nm ks fs A N0 ss rows:=hh1 ▸ R.setN _ hN0
  have hnx:h1.next = h.next:=by simp [← hh1]
  obtain ⟨h2,hh2⟩:∃ x,h1.new (.lst,[.str "again",.int (at_ + 1:Nat)]) = x:=⟨_,rfl⟩
  have R2:Rd h2 _ _ _ _ _ _ _ _ _ _ _ _:=hh2 ▸ R1.new _
  have hm2:h2.get h.next = some (.lst,[.str "again",.int (at_ + 1:Nat)]):=by rw [← hnx,← hh2]; exact new_own
  obtain ⟨h3,hh3⟩:∃ x,h2.put c (.lst,ss ++ [.ref h.next]) = x:=⟨_,rfl⟩
  have R3:Rd h3 _ _ _ _ _ _ _ _ _ _ (ss ++ [.ref h.next]) _:=hh3 ▸ R2.setC _
  have k1:Kp [n,c] h h1:=hh1 ▸ (Kp.refl (S:=[n,c])).putL (by rw [R.hn]; rfl) (.inr (by simp))
  have k2:Kp [n,c] h h2:=hh2 ▸ k1.trans .new
  have k3:Kp [n,c] h h3:=hh3 ▸ k2.putL (by rw [R2.hc]; rfl) (.inr (by simp))
  refine ⟨h3,?_,R3,hh3 ▸ put_oth hm2 R2.hc (by omega),by simp [← hh3,← hh2,hnx],k3⟩
  simp only [F_Reader_close]
  rw [ev_fn (by rfl)]
  simp [B_Reader_close,startA,R.hr,R.hn,pop_ok R.hn,hh1,R1.hr,R1.hf,R1.hk,eq_ss,R1.hc,mkM,z2]
  rw [show (at_:Int) + 1 = ((at_ + 1:Nat):Int) from rfl,hh2,hnx,if_neg (show ¬ c = h.next by omega)]
  simp [appR_lst zs,hh3]
theorem close_else {w:Str} {k s:Nat} {y v:AV} (R:Rd h r f a n c nm ks fs A (N0 ++ [.nod .tup [.str w,.int at_,.int k]]) ss rows) (hw:w ≠ "loop") (hat:ss[k]? = some (.ref s)) (hs:h.get s = some (.lst,[y,v])) (sa:s ≠ a) (sn:s ≠ n) (sc:s ≠ c) (hN0:isDs 59 N0 = true) :
    ∃ h',F_Reader_close [.ref r] h = some (.non,h') ∧ Rd h' r f a n c nm ks fs A N0 ss rows ∧ h'.get s = some (.lst,[y,.int ss.length]) ∧ h'.next = h.next ∧ Kp [n,s] h h':=by
  obtain ⟨h1,hh1⟩:∃ x,h.put n (.lst,N0) = x:=⟨_,rfl⟩
  have R1:Rd h1 r f a n c nm ks fs A N0 ss rows:=hh1 ▸ R.setN _ hN0
  have hnx:h1.next = h.next:=by simp [← hh1]
  have hs1:h1.get s = some (.lst,[y,v]):=hh1 ▸ put_oth hs R.hn sn
  obtain ⟨h2,hh2⟩:∃ x,h1.put s (.lst,[y,.int ss.length]) = x:=⟨_,rfl⟩
  have R2:Rd h2 _ _ _ _ _ _ _ _ _ _ _ _:=hh2 ▸ R1.setS hs1 sa sn sc _
  have k1:Kp [n,s] h h1:=hh1 ▸ (Kp.refl (S:=[n,s])).putL (by rw [R.hn]; rfl) (.inr (by simp))
  have k2:Kp [n,s] h h2:=hh2 ▸ k1.putL (by rw [hs1]; rfl) (.inr (by simp))
  refine ⟨h2,?_,R2,hh2 ▸ put_own hs1,by simp [← hh2,hnx],k2⟩
  simp only [F_Reader_close]
  rw [ev_fn (by rfl)]
  simp [B_Reader_close,startA,R.hr,R.hn,pop_ok R.hn,hh1,R1.hr,R1.hf,R1.hk,eq_ss,hw,R1.hc,atI_nat hat,hs1,ixN,hh2]
theorem close_when {s:Nat} {y v:AV} (R:Rd h r f a n c nm ks fs A (N0 ++ [.nod .tup [.str "when",.int at_,.non]]) ss rows) (hat:ss[at_]? = some (.ref s)) (hs:h.get s = some (.lst,[y,v])) (sa:s ≠ a) (sn:s ≠ n) (sc:s ≠ c) (hN0:isDs 59 N0 = true) :
    ∃ h',F_Reader_close [.ref r] h = some (.non,h') ∧ Rd h' r f a n c nm ks fs A N0 ss rows ∧ h'.get s = some (.lst,[y,.int ss.length]) ∧ h'.next = h.next ∧ Kp [n,s] h h':=by
  obtain ⟨h1,hh1⟩:∃ x,h.put n (.lst,N0) = x:=⟨_,rfl⟩
  have R1:Rd h1 r f a n c nm ks fs A N0 ss rows:=hh1 ▸ R.setN _ hN0
  have hnx:h1.next = h.next:=by simp [← hh1]
  have hs1:h1.get s = some (.lst,[y,v]):=hh1 ▸ put_oth hs R.hn sn
  obtain ⟨h2,hh2⟩:∃ x,h1.put s (.lst,[y,.int ss.length]) = x:=⟨_,rfl⟩
  have R2:Rd h2 _ _ _ _ _ _ _ _ _ _ _ _:=hh2 ▸ R1.setS hs1 sa sn sc _
  have k1:Kp [n,s] h h1:=hh1 ▸ (Kp.refl (S:=[n,s])).putL (by rw [R.hn]; rfl) (.inr (by simp))
  have k2:Kp [n,s] h h2:=hh2 ▸ k1.putL (by rw [hs1]; rfl) (.inr (by simp))
  refine ⟨h2,?_,R2,hh2 ▸ put_own hs1,by simp [← hh2,hnx],k2⟩
  have hwl:¬ (Str.ofString "when" = Str.ofString "loop"):=by decide +kernel
  have itw:∀ h',aIn (.str (Str.ofString "when")) (.nod .tup [.str "try",.str "when"]) h' = some (.bl true,h'):=fun h' => (in_tup ["try", "when"]).trans (by rw [decide_eq_true (by simp)])
  simp only [F_Reader_close]
  rw [ev_fn (by rfl)]
  simp [B_Reader_close,startA,R.hr,R.hn,pop_ok R.hn,hh1,R1.hr,R1.hf,R1.hk,eq_ss,ne_ss,hwl,itw,R1.hc,atI_nat hat,hs1,ixN,hh2]
theorem close_leave {w:Str} (R:Rd h r f a n c nm ks fs A (N0 ++ [.nod .tup [.str w,.int at_,.non]]) ss rows) (h1w:w ≠ "loop") (h2w:w ≠ "when") (h3w:w ≠ "try") (hN0:isDs 59 N0 = true) (hl:ss.length < 1000) :
    ∃ h',F_Reader_close [.ref r] h = some (.non,h') ∧ Rd h' r f a n c nm ks fs A N0 (ss ++ [.ref h.next]) rows ∧ h'.get h.next = some (.lst,[.str "leave",.int (ss.length + 1:Nat)]) ∧ h'.next = h.next + 1 ∧ Kp [n,c] h h':=by
  have zs:ss.length < sizeLine:=by rw [sizeLine_eq]; omega
  have z2:2 ≤ sizeLine:=sz _ (by omega)
  have hcl:=AH.lt R.hc
  obtain ⟨h1,hh1⟩:∃ x,h.put n (.lst,N0) = x:=⟨_,rfl⟩
  have R1:Rd h1 r f a n c nm ks fs A N0 ss rows:=hh1 ▸ R.setN _ hN0
  have hnx:h1.next = h.next:=by simp [← hh1]
  obtain ⟨h2,hh2⟩:∃ x,h1.new (.lst,[.str "leave",.int (ss.length + 1:Nat)]) = x:=⟨_,rfl⟩
  have R2:Rd h2 _ _ _ _ _ _ _ _ _ _ _ _:=hh2 ▸ R1.new _
  have hm2:h2.get h.next = some (.lst,[.str "leave",.int (ss.length + 1:Nat)]):=by rw [← hnx,← hh2]; exact new_own
  obtain ⟨h3,hh3⟩:∃ x,h2.put c (.lst,ss ++ [.ref h.next]) = x:=⟨_,rfl⟩
  have R3:Rd h3 _ _ _ _ _ _ _ _ _ _ (ss ++ [.ref h.next]) _:=hh3 ▸ R2.setC _
  have k1:Kp [n,c] h h1:=hh1 ▸ (Kp.refl (S:=[n,c])).putL (by rw [R.hn]; rfl) (.inr (by simp))
  have k2:Kp [n,c] h h2:=hh2 ▸ k1.trans .new
  have k3:Kp [n,c] h h3:=hh3 ▸ k2.putL (by rw [R2.hc]; rfl) (.inr (by simp))
  refine ⟨h3,?_,R3,hh3 ▸ put_oth hm2 R2.hc (by omega),by simp [← hh3,← hh2,hnx],k3⟩
  have itw:∀ h',aIn (.str w) (.nod .tup [.str "try",.str "when"]) h' = some (.bl false,h'):=fun h' => (in_tup ["try", "when"]).trans (by rw [decide_eq_false (by simp [h2w,h3w])])
  simp only [F_Reader_close]
  rw [ev_fn (by rfl)]
  simp [B_Reader_close,startA,R.hr,R.hn,pop_ok R.hn,hh1,R1.hr,R1.hf,R1.hk,eq_ss,ne_ss,h1w,h2w,R1.hc,mkM,z2]
  rw [show (ss.length:Int) + 1 = ((ss.length + 1:Nat):Int) from rfl,hh2,hnx,if_neg (show ¬ c = h.next by omega)]
  simp [appR_lst zs,hh3,itw]
theorem close_try {s:Nat} {y v:AV} (R:Rd h r f a n c nm ks fs A (N0 ++ [.nod .tup [.str "try",.int at_,.non]]) ss rows) (hat:ss[at_]? = some (.ref s)) (hs:h.get s = some (.lst,[y,v])) (sa:s ≠ a) (sn:s ≠ n) (sc:s ≠ c) (hN0:isDs 59 N0 = true) (hl:ss.length < 1000) :
    ∃ h',F_Reader_close [.ref r] h = some (.non,h') ∧ Rd h' r f a n c nm ks fs A N0 (ss ++ [.ref h.next]) rows ∧ h'.get h.next = some (.lst,[.str "leave",.int (ss.length + 1:Nat)]) ∧ h'.get s = some (.lst,[y,.int (ss.length + 1:Nat)]) ∧ h'.next = h.next + 1 ∧ Kp [n,c,s] h h':=by
  have zs:ss.length < sizeLine:=by rw [sizeLine_eq]; omega
  have z2:2 ≤ sizeLine:=sz _ (by omega)
  have hcl:=AH.lt R.hc
  have hsl:=AH.lt hs
  obtain ⟨h1,hh1⟩:∃ x,h.put n (.lst,N0) = x:=⟨_,rfl⟩
  have R1:Rd h1 r f a n c nm ks fs A N0 ss rows:=hh1 ▸ R.setN _ hN0
  have hs1:h1.get s = some (.lst,[y,v]):=hh1 ▸ put_oth hs R.hn sn
  have hnx:h1.next = h.next:=by simp [← hh1]
  obtain ⟨h2,hh2⟩:∃ x,h1.new (.lst,[.str "leave",.int (ss.length + 1:Nat)]) = x:=⟨_,rfl⟩
  have R2:Rd h2 _ _ _ _ _ _ _ _ _ _ _ _:=hh2 ▸ R1.new _
  have hs2:h2.get s = some (.lst,[y,v]):=hh2 ▸ new_oth hs1
  have hm2:h2.get h.next = some (.lst,[.str "leave",.int (ss.length + 1:Nat)]):=by rw [← hnx,← hh2]; exact new_own
  obtain ⟨h3,hh3⟩:∃ x,h2.put c (.lst,ss ++ [.ref h.next]) = x:=⟨_,rfl⟩
  have R3:Rd h3 _ _ _ _ _ _ _ _ _ _ (ss ++ [.ref h.next]) _:=hh3 ▸ R2.setC _
  have hs3:h3.get s = some (.lst,[y,v]):=hh3 ▸ put_oth hs2 R2.hc sc
  have hm3:h3.get h.next = some (.lst,[.str "leave",.int (ss.length + 1:Nat)]):=hh3 ▸ put_oth hm2 R2.hc (by omega)
  obtain ⟨h4,hh4⟩:∃ x,h3.put s (.lst,[y,.int (ss.length + 1:Nat)]) = x:=⟨_,rfl⟩
  have R4:Rd h4 _ _ _ _ _ _ _ _ _ _ (ss ++ [.ref h.next]) _:=hh4 ▸ R3.setS hs3 sa sn sc _
  have k1:Kp [n,c,s] h h1:=hh1 ▸ (Kp.refl (S:=[n,c,s])).putL (by rw [R.hn]; rfl) (.inr (by simp))
  have k2:Kp [n,c,s] h h2:=hh2 ▸ k1.trans .new
  have k3:Kp [n,c,s] h h3:=hh3 ▸ k2.putL (by rw [R2.hc]; rfl) (.inr (by simp))
  have k4:Kp [n,c,s] h h4:=hh4 ▸ k3.putL (by rw [hs3]; rfl) (.inr (by simp))
  refine ⟨h4,?_,R4,hh4 ▸ put_oth hm3 hs3 (by omega),hh4 ▸ put_own hs3,by simp [← hh4,← hh3,← hh2,hnx],k4⟩
  have hwl:¬ (Str.ofString "try" = Str.ofString "loop"):=by decide +kernel
  have hww:¬ (Str.ofString "try" = Str.ofString "when"):=by decide +kernel
  have itw:∀ h',aIn (.str (Str.ofString "try")) (.nod .tup [.str "try",.str "when"]) h' = some (.bl true,h'):=fun h' => (in_tup ["try", "when"]).trans (by rw [decide_eq_true (by simp)])
  have hat3:(ss ++ [.ref h.next])[at_]? = some (.ref s):=by
    rw [List.getElem?_append_left (List.getElem?_eq_some_iff.mp hat).1]; exact hat
  simp only [F_Reader_close]
  rw [ev_fn (by rfl)]
  simp [B_Reader_close,startA,R.hr,R.hn,pop_ok R.hn,hh1,R1.hr,R1.hf,R1.hk,eq_ss,ne_ss,hwl,hww,R1.hc,mkM,z2]
  rw [show (ss.length:Int) + 1 = ((ss.length + 1:Nat):Int) from rfl,hh2,hnx,if_neg (show ¬ c = h.next by omega)]
  simp [appR_lst zs,hh3,itw,R3.hc,atI_nat hat3,hs3,ixN]
  exact hh4
end
end K03
end
section
namespace K03
open PySem PySem.Spec PyProof.Rows L2 Rp K03
theorem seq_step {A B:AS} {s s':LS} {h h':AH} (e:A s h = some (.nx s',h')):aSeq A B s h = B s' h':=by
  unfold aSeq
  rw [e]
  rfl
theorem seq_rt {A B:AS} {s:LS} {h h':AH} {v:AV} (e:A s h = some (.rt v,h')):aSeq A B s h = some (.rt v,h'):=by
  unfold aSeq
  rw [e]
  rfl
def abcL:List Nat:=(Str.ofString "abcdefghijklmnopqrstuvwxyz").cps.toList
def nameB (x:Str):Bool:=(decide (1 ≤ x.length) && decide (x.length ≤ 8)) && x.cps.toList.all fun c=>decide (c ∈ abcL)
theorem in_one {c:Nat} {z:Str} {h:AH}:aIn (.str ⟨#[c]⟩) (.str z) h = some (.bl (decide (c ∈ z.cps.toList)),h):=by
  have e1:aInS false (.str ⟨#[c]⟩) (.str z) h = some (.bl (decide (c ∈ z.cps.toList)),h):=by
    simp only [aInS]
    rfl
  have e2:aInD false (.str ⟨#[c]⟩) (.str z) h = none:=rfl
  show orO _ _ = _
  rw [e2,orO_none,e1]
  rfl
theorem isname_b {x:Str} {h:AH} (hx:x.length ≤ 100000):F_is_name [.str x] h = some (.bl (nameB x),h):=by
  have hz:x.length ≤ sizeLine:=sz _ (by omega)
  have hl:(chars x).length ≤ sizeLine:=by
    unfold chars; rw [List.length_map,← len_l]; exact hz
  let S:LS:=[some (.str x),none]
  have ch:(aChain aLe aLe (aC (.int 1)) (aArgs (one aLenV) (aCons (aVar 0) aNil)) (aC (.int 8))) S h = some (.bl (decide (1 ≤ x.length) && decide (x.length ≤ 8)),h):=by
    have e1:decide ((1:Int) ≤ (x.length:Int)) = decide (1 ≤ x.length):=decide_eq_decide.mpr (by omega)
    have e2:decide ((x.length:Int) ≤ (8:Int)) = decide (x.length ≤ 8):=decide_eq_decide.mpr (by omega)
    have le:∀ a b:Int,aLe (.int a) (.int b) h = some (.bl (decide (a ≤ b)),h):=fun _ _=>rfl
    simp only [aChain,ev_c,ev_args,ev_cons,Option.bind_some,show (aVar 0) S h = some (.str x,h) from rfl,consK_some,ev_nil,consJ_some,argsK_some,ev_one,len_str hz,le,e1]
    cases decide (1 ≤ x.length) with
    | false=>rfl
    | true =>
      rw [Bool.true_and]
      show aLe (.int (x.length:Int)) (.int 8) h = _
      rw [le,e2]
  have ec:lcL [] (gNm 1) aYes (aOp2 aIn (aVar 1) (aC (.str "abcdefghijklmnopqrstuvwxyz"))) S (chars x) [] h = some ((x.cps.toList.map fun c=>decide (c ∈ abcL)).map AV.bl,h):=by
    have q:=lcL_map (G:=[]) (g:=gNm 1) (t:=aYes) (f:=(aOp2 aIn (aVar 1) (aC (.str "abcdefghijklmnopqrstuvwxyz")))) (s0:=S) (h:=h) rfl (fun _=>true) (fun v=>match v with
      | .str y=>.bl (y.cps.toList.all fun c=>decide (c ∈ abcL))
      | _=>.non) (fun v=>[some (.str x),some v]) (chars x) [] (fun v hv=>by
        obtain ⟨c,hc,rfl⟩:=List.mem_map.mp hv
        refine ⟨rfl,rfl,fun _=>?_⟩
        rw [ev_op2,show (aVar 1) [some (.str x),some (.str ⟨#[c]⟩)] h = some (.str ⟨#[c]⟩,h) from rfl,op2K_some,ev_c,op2J_some,in_one]
        simp [abcL]) (by simpa using hl)
    rw [List.filter_eq_self.mpr (by simp),List.nil_append] at q
    rw [q]
    unfold chars
    rw [List.map_map,List.map_map]
    congr 2
    refine List.map_congr_left fun c _=>?_
    simp
  have al:(aArgs (one aAllV) (aCons (aLc mkF (sVal (aVar 0)) (gNm 1) aYes (aOp2 aIn (aVar 1) (aC (.str "abcdefghijklmnopqrstuvwxyz"))) [1]) aNil)) S h = some (.bl (x.cps.toList.all fun c=>decide (c ∈ abcL)),h):=by
    have hw:wipeA S [1] = S:=rfl
    have lc:(aLc mkF (sVal (aVar 0)) (gNm 1) aYes (aOp2 aIn (aVar 1) (aC (.str "abcdefghijklmnopqrstuvwxyz"))) [1]) S h = some (.nod .lst ((x.cps.toList.map fun c=>decide (c ∈ abcL)).map AV.bl),h):=by
      rw [ev_lc,ev_sVal,show (aVar 0) S h = some (.str x,h) from rfl]
      rw [show srcVK (some (.str x,h)) = some ((chars x,[]),h) from rfl]
      simp only [Option.bind_some,hw]
      rw [ec]
      simp only [Option.bind_some]
      exact mkF_ok (by rw [List.length_map,List.length_map,← len_l]; exact hz)
    have av:∀ L:List Bool,aAllV (.nod .lst (L.map AV.bl)) h = some (.bl (L.all id),h):=fun L=>by
      unfold aAllV lstOf
      simp only [look_nod,Option.bind_some]
      rw [boolsOf_map]
      rfl
    rw [ev_args,ev_cons,lc,consK_some,ev_nil,consJ_some,argsK_some,ev_one,av,List.all_map]
    rfl
  simp only [F_is_name]
  rw [ev_fn (by rfl)]
  show fnK (B_is_name S h) = _
  have av:aAndV (aChain aLe aLe (aC (.int 1)) (aArgs (one aLenV) (aCons (aVar 0) aNil)) (aC (.int 8))) (aArgs (one aAllV) (aCons (aLc mkF (sVal (aVar 0)) (gNm 1) aYes (aOp2 aIn (aVar 1) (aC (.str "abcdefghijklmnopqrstuvwxyz"))) [1]) aNil)) S h = some (.bl (nameB x),h):=by
    unfold aAndV nameB
    rw [ch,Option.bind_some]
    cases decide (1 ≤ x.length) && decide (x.length ≤ 8) with
    | false=>rfl
    | true=>exact al
  rw [B_is_name,ev_ret,av]
  rfl
theorem goodname_b {x:Str} {h:AH} (hx:x.length ≤ 100000):F__law_good_name [.str x] h = some (.bl (nameB x),h):=isname_b hx
def tabS:List (Str × Str):=[("load", "01234"),("add", "1234"),("read", "abcd"),("write", "abcd"),("keep", "wxyz"),("own", "wxyz"),("ask", "wxyz"),("give", "pq"),("take", "pq"),("lock", "lm"),("bind", "wxyz"),("loop", "123")]
def signW (w t:Str):Bool:=decide (t.length = 1) && (match (kIx tabK (.inr w)).bind fun i=>tabS[i]? with
  | some z=>t.cps.toList.all fun c=>decide (c ∈ z.2.cps.toList)
  | none=>false)
def rowB:List Str → Bool
  | []=>false
  | w :: r=>if w ∈ aloneL then decide (r = []) else match r with
    | [t]=>if w ∈ othersL then nameB t else signW w t
    | _=>false
theorem tabV_eq:tabV = tabS.map fun z=>.str z.2:=rfl
theorem one_of {t:Str} (h:t.length = 1):∃ c,t = ⟨#[c]⟩:=by
  obtain ⟨⟨l⟩⟩:=t
  have:l.length = 1:=h
  match l,this with
  | [c],_=>exact ⟨c,rfl⟩
theorem strs_d65:∀ L:List Str,isDs 59 (L.map AV.str) = true
  | []=>rfl
  | x :: L=>by rw [List.map_cons,isDs,strs_d65 L]; rfl
theorem words_lst {r:List Str} {h:AH}:aEq (.nod .lst (r.map .str)) (.nod .lst []) h = some (.bl (decide (r = [])),h):=by
  cases r with
  | nil=>simp [aEq,nrm,isD,isDs,toD,toDs,PyData.eqv,PyData.eqvAll]
  | cons a r =>
    have d:=strs_d65 (a :: r)
    have d2:=strs_d65 r
    simp [aEq,nrm,isD,d,d2,toD,toDs,PyData.eqv,PyData.eqvAll,isDs]
end K03
end
section
namespace K03
open PySem PySem.Spec PyProof.Rows L2 Rp K03
section
variable {h g:AH} {w t:Str} {r:List Str}
theorem tab_get (w:Str):((kIx tabK (.inr w)).bind fun i=>tabV[i]?) = ((kIx tabK (.inr w)).bind fun i=>tabS[i]?).map fun z=>.str z.2:=by
  cases kIx tabK (.inr w) with
  | none=>rfl
  | some i =>
    rw [Option.bind_some,Option.bind_some,tabV_eq,List.getElem?_map]
theorem tab_some (w:Str):(kIx tabK (.inr w)).isSome = ((kIx tabK (.inr w)).bind fun i=>tabS[i]?).isSome:=by
  have key:∀ (ks:List Key) (i:Nat),kIx ks (.inr w) = some i → i < ks.length:=fun ks i h=>by
    exact (kIx_lt h)
  cases hk:kIx tabK (.inr w) with
  | none=>rfl
  | some i =>
    have hi:=key _ _ hk
    have:i < tabS.length:=hi
    rw [Option.bind_some,List.getElem?_eq_getElem this]
    rfl
theorem in_sign (ht:t.length = 1) (z:Str):aIn (.str t) (.str z) h = some (.bl (t.cps.toList.all fun c=>decide (c ∈ z.cps.toList)),h):=by
  obtain ⟨c,rfl⟩:=one_of ht
  rw [in_one]
  simp
theorem len1 (ht:t.length ≤ 100000) {f:AE} {S:LS} (hf:f S h = some (.str t,h)):(aOp2 aEq (aArgs (one aLenV) (aCons f aNil)) (aC (.int 1))) S h = some (.bl (decide (t.length = 1)),h):=by
  have e:decide ((t.length:Int) = 1) = decide (t.length = 1):=decide_eq_decide.mpr (by omega)
  rw [ev_op2,ev_args,ev_cons,hf,consK_some,ev_nil,consJ_some,argsK_some,ev_one,Rp.len_str (sz _ (by omega)),op2K_some,ev_c,op2J_some,eq_ii,e]
theorem isrow_b (hz:∀ x ∈ w :: r,x.length ≤ 100000) (hr:r.length ≤ 16000):F_is_row [.nod .lst ((w :: r).map .str)] h = some (.bl (rowB (w :: r)),h):=by
  let S0:LS:=[some (.nod .lst ((w :: r).map .str)),none,none]
  let S1:LS:=[some (.nod .lst ((w :: r).map .str)),some (.str w),some (.nod .lst (r.map .str))]
  have a0:(aAsg (aVar 0) (gStar 2 1 (gsCons (gNm 1) (gsCons (gNm 2) gsNil)))) S0 h = some (.nx S1,h):=by
    rw [ev_asg,show (aVar 0) S0 h = some (.nod .lst (.str w :: r.map .str),h) from rfl]
    have z:(r.map AV.str).length ≤ sizeLine:=sz _ (by rw [List.length_map]; omega)
    have z0:r.length ≤ sizeLine:=sz _ (by omega)
    have h16:r.length ≤ 16383:=by omega
    have e1:List.drop r.length (r.map AV.str) = []:=List.drop_eq_nil_of_le (by simp)
    have e2:List.take r.length (r.map AV.str) = r.map AV.str:=List.take_of_length_le (by simp)
    simp [ev_gStar,z0,h16,e1,e2]
    rfl
  have ia:aIn (.str w) (.nod .tup [(.str "mark"),(.str "peek"),(.str "yield"),(.str "call"),(.str "fail"),(.str "hold"),(.str "try"),(.str "when")]) h = some (.bl (decide (w ∈ aloneL)),h):=in_tup aloneL
  have io:aIn (.str w) (.nod .tup [(.str "start"),(.str "join")]) h = some (.bl (decide (w ∈ othersL)),h):=in_tup othersL
  have v1:(aVar 1) S1 h = some (.str w,h):=rfl
  have v2:(aVar 2) S1 h = some (.nod .lst (r.map .str),h):=rfl
  have t1:(aTst (aOp2 aIn (aVar 1) (aC (.nod .tup [(.str "mark"),(.str "peek"),(.str "yield"),(.str "call"),(.str "fail"),(.str "hold"),(.str "try"),(.str "when")])))) S1 h = some (decide (w ∈ aloneL),h):=by
    rw [ev_tst,ev_op2,v1,op2K_some,ev_c,op2J_some,ia,tstK_some]
  have t2:(aTst (aOp2 aNe (aArgs (one aLenV) (aCons (aVar 2) aNil)) (aC (.int 1)))) S1 h = some (!decide (r.length = 1),h):=by
    have l:aLenV (.nod .lst (r.map .str)) h = some (.int (r.length:Nat),h):=by simp
    have e:decide ((r.length:Int) = 1) = decide (r.length = 1):=decide_eq_decide.mpr (by omega)
    rw [ev_tst,ev_op2,ev_args,ev_cons,v2,consK_some,ev_nil,consJ_some,argsK_some,ev_one,l,op2K_some,ev_c,op2J_some,ne_ii,e,tstK_some]
  have t3:(aTst (aOp2 aIn (aVar 1) (aC (.nod .tup [(.str "start"),(.str "join")])))) S1 h = some (decide (w ∈ othersL),h):=by
    rw [ev_tst,ev_op2,v1,op2K_some,ev_c,op2J_some,io,tstK_some]
  simp only [F_is_row]
  rw [ev_fn (by rfl)]
  show fnK (B_is_row S0 h) = _
  rw [B_is_row,seq_step a0]
  by_cases h1:w ∈ aloneL
  · rw [decide_eq_true h1] at t1
    have q:(aIfS (aTst (aOp2 aIn (aVar 1) (aC (.nod .tup [(.str "mark"),(.str "peek"),(.str "yield"),(.str "call"),(.str "fail"),(.str "hold"),(.str "try"),(.str "when")])))) (aRet (aOp2 aEq (aVar 2) (aArgs (mkF .lst) aNil))) aPass) S1 h = some (.rt (.bl (decide (r = []))),h):=by
      rw [ev_if,t1,ifK_t,ev_ret,ev_op2,v2,op2K_some,ev_args,ev_nil,argsK_some,mkF_ok (Nat.zero_le _),op2J_some,words_lst]
      rfl
    have e:rowB (w :: r) = decide (r = []):=by unfold rowB; dsimp only; rw [if_pos h1]
    rw [e]
    show fnK (aSeq _ _ S1 h) = _
    unfold aSeq
    rw [q]
    rfl
  rw [decide_eq_false h1] at t1
  have q1:(aIfS (aTst (aOp2 aIn (aVar 1) (aC (.nod .tup [(.str "mark"),(.str "peek"),(.str "yield"),(.str "call"),(.str "fail"),(.str "hold"),(.str "try"),(.str "when")])))) (aRet (aOp2 aEq (aVar 2) (aArgs (mkF .lst) aNil))) aPass) S1 h = some (.nx S1,h):=by
    rw [ev_if,t1,ifK_f]
    rfl
  rw [seq_step q1]
  by_cases h2:r.length = 1
  · obtain ⟨t,rfl⟩:∃ t,r = [t]:=by
      match r,h2 with
      | [t],_=>exact ⟨t,rfl⟩
    have ht:t.length ≤ 100000:=hz t (by simp)
    rw [decide_eq_true h2] at t2
    have q2:(aIfS (aTst (aOp2 aNe (aArgs (one aLenV) (aCons (aVar 2) aNil)) (aC (.int 1)))) (aRet (aC (.bl false))) aPass) S1 h = some (.nx S1,h):=by
      rw [ev_if,t2]
      rfl
    rw [seq_step q2]
    have ix:(aOp2 aIx (aVar 2) (aC (.int 0))) S1 h = some (.str t,h):=by
      rw [ev_op2,v2,op2K_some,ev_c,op2J_some,ix_nod]
      rfl
    by_cases h3:w ∈ othersL
    · rw [decide_eq_true h3] at t3
      have q3:(aIfS (aTst (aOp2 aIn (aVar 1) (aC (.nod .tup [(.str "start"),(.str "join")])))) (aRet (aCall F_is_name [] (aCons (aOp2 aIx (aVar 2) (aC (.int 0))) aNil))) aPass) S1 h = some (.rt (.bl (nameB t)),h):=by
        rw [ev_if,t3,ifK_t,ev_ret,ev_call,ev_cons,ix,consK_some,ev_nil,consJ_some,argsK_some,List.append_nil,isname_b ht]
        rfl
      have e:rowB [w,t] = nameB t:=by unfold rowB; dsimp only; rw [if_neg h1]; rw [if_pos h3]
      rw [e]
      show fnK (aSeq _ _ S1 h) = _
      unfold aSeq
      rw [q3]
      rfl
    · rw [decide_eq_false h3] at t3
      have q3:(aIfS (aTst (aOp2 aIn (aVar 1) (aC (.nod .tup [(.str "start"),(.str "join")])))) (aRet (aCall F_is_name [] (aCons (aOp2 aIx (aVar 2) (aC (.int 0))) aNil))) aPass) S1 h = some (.nx S1,h):=by
        rw [ev_if,t3,ifK_f]
        rfl
      rw [seq_step q3]
      have e:rowB [w,t] = signW w t:=by unfold rowB; dsimp only; rw [if_neg h1]; rw [if_neg h3]
      rw [e]
      have tin:(aOp2 aIn (aVar 1) (aC (.nod (.tab tabK) tabV))) S1 h = some (.bl (kIx tabK (.inr w)).isSome,h):=by
        rw [ev_op2,v1,op2K_some,ev_c,op2J_some]
        exact (in_dct (ng':=false) (ks:=tabK) (xs:=tabV) rfl rfl rfl).trans (by rfl)
      have l1:=len1 (S:=S1) ht ix
      have last:(aAndV (aOp2 aIn (aVar 1) (aC (.nod (.tab tabK) tabV))) (aAndV (aOp2 aEq (aArgs (one aLenV) (aCons (aOp2 aIx (aVar 2) (aC (.int 0))) aNil)) (aC (.int 1))) (aOp2 aIn (aOp2 aIx (aVar 2) (aC (.int 0))) (aOp2 aIx (aC (.nod (.tab tabK) tabV)) (aVar 1))))) S1 h = some (.bl (signW w t),h):=by
        unfold aAndV
        rw [tin,tab_some w,Option.bind_some]
        unfold signW
        have tg:=tab_get w
        cases hg:(kIx tabK (.inr w)).bind fun i=>tabS[i]? with
        | none =>
          cases decide (t.length = 1) <;> rfl
        | some z =>
          rw [hg] at tg
          dsimp only [Option.isSome]
          rw [l1,Option.bind_some]
          by_cases hl:t.length = 1
          · rw [decide_eq_true hl]
            dsimp only
            have i2:(aOp2 aIx (aC (.nod (.tab tabK) tabV)) (aVar 1)) S1 h = some (.str z.2,h):=by
              rw [ev_op2,ev_c,op2K_some,v1,op2J_some,ix_nod,ixR_tab,tg]
              rfl
            rw [ev_op2,ix,op2K_some,i2,op2J_some,in_sign hl,Bool.true_and]
          · rw [decide_eq_false hl]
            rfl
      show fnK (aRet _ S1 h) = _
      rw [ev_ret]
      exact congrArg (fun q=>fnK (retK q)) last
  · rw [decide_eq_false h2] at t2
    have e:rowB (w :: r) = false:=by
      unfold rowB
      dsimp only
      rw [if_neg h1]
      match r,h2 with
      | [],_=>rfl
      | [_],h=>exact absurd rfl h
      | _ :: _ :: _,_=>rfl
    rw [e]
    have q2:(aIfS (aTst (aOp2 aNe (aArgs (one aLenV) (aCons (aVar 2) aNil)) (aC (.int 1)))) (aRet (aC (.bl false))) aPass) S1 h = some (.rt (.bl false),h):=by
      rw [ev_if,t2]
      rfl
    show fnK (aSeq _ _ S1 h) = _
    unfold aSeq
    rw [q2]
    rfl
theorem tmrg1:dMrg ([],[]) [((.inr "load" : Key),AV.str "01234"),(.inr "add",.str "1234"),(.inr "read",.str "abcd"),(.inr "write",.str "abcd"),(.inr "keep",.str "wxyz"),(.inr "own",.str "wxyz")] = (tabK.take 6,tabV.take 6):=by decide +kernel
theorem tmrg2:dMrg ([],[]) [((.inr "ask" : Key),AV.str "wxyz"),(.inr "give",.str "pq"),(.inr "take",.str "pq"),(.inr "lock",.str "lm"),(.inr "bind",.str "wxyz"),(.inr "loop",.str "123")] = (tabK.drop 6,tabV.drop 6):=by decide +kernel
theorem tmrg12:dMrg (tabK.take 6,tabV.take 6) ((tabK.drop 6).zip (tabV.drop 6)) = (tabK,tabV):=by decide +kernel
theorem goodrow_b (hz:∀ x ∈ w :: r,x.length ≤ 100000) (hr:r.length ≤ 16000):∃ g',F__law_good_row [.nod .lst ((w :: r).map .str)] g = some (.bl (rowB (w :: r)),g') ∧ Kp [] g g':=by
  let S0:LS:=[some (.nod .lst ((w :: r).map .str)),none]
  have v0:∀ (S:LS) (o:AH),S[0]? = some (some (.nod .lst ((w :: r).map .str))) → (aVar 0) S o = some (.nod .lst ((w :: r).map .str),o):=fun S o h=>by rw [ev_var,h]; rfl
  have i0:∀ (S:LS) (o:AH),S[0]? = some (some (.nod .lst ((w :: r).map .str))) → (aOp2 aIx (aVar 0) (aC (.int 0))) S o = some (.str w,o):=fun S o h=>by
    rw [ev_op2,v0 S o h,op2K_some,ev_c,op2J_some,ix_nod,List.map_cons,ixR_lst,atI_0]
    rfl
  have ia:aIn (.str w) (.nod .tup [(.str "mark"),(.str "peek"),(.str "yield"),(.str "call"),(.str "fail"),(.str "hold"),(.str "try"),(.str "when")]) g = some (.bl (decide (w ∈ aloneL)),g):=in_tup aloneL
  have io:aIn (.str w) (.nod .tup [(.str "start"),(.str "join")]) g = some (.bl (decide (w ∈ othersL)),g):=in_tup othersL
  have ll:∀ (k:Nat),(aOp2 aEq (aArgs (one aLenV) (aCons (aVar 0) aNil)) (aC (.int (k:Nat)))) S0 g = some (.bl (decide (r.length + 1 = k)),g):=fun k=>by
    have l:aLenV (.nod .lst ((w :: r).map .str)) g = some (.int ((r.length + 1:Nat):Int),g):=by simp
    have e:decide (((r.length + 1:Nat):Int) = (k:Int)) = decide (r.length + 1 = k):=decide_eq_decide.mpr (by omega)
    rw [ev_op2,ev_args,ev_cons,v0 S0 g rfl,consK_some,ev_nil,consJ_some,argsK_some,ev_one,l,op2K_some,ev_c,op2J_some,eq_ii,e]
  have t1:(aTst (aOp2 aIn (aOp2 aIx (aVar 0) (aC (.int 0))) (aArgs (mkF .tup) (aCons (aC (.str "mark")) (aCons (aC (.str "peek")) (aCons (aC (.str "yield")) (aCons (aC (.str "call")) (aCons (aC (.str "fail")) (aCons (aC (.str "hold")) (aCons (aC (.str "try")) (aCons (aC (.str "when")) aNil))))))))))) S0 g = some (decide (w ∈ aloneL),g):=by
    rw [ev_tst,ev_op2,i0 S0 g rfl,op2K_some]
    simp only [ev_args,ev_cons,ev_c,consK_some,ev_nil,consJ_some,argsK_some]
    rw [mkF_ok (sz _ (by simp)),op2J_some,ia,tstK_some]
  have t2:(aTst (aOp2 aNe (aArgs (one aLenV) (aCons (aVar 0) aNil)) (aC (.int 2)))) S0 g = some (!decide (r.length = 1),g):=by
    have l:aLenV (.nod .lst ((w :: r).map .str)) g = some (.int ((r.length + 1:Nat):Int),g):=by simp
    have e:decide (((r.length + 1:Nat):Int) = 2) = decide (r.length = 1):=decide_eq_decide.mpr (by omega)
    rw [ev_tst,ev_op2,ev_args,ev_cons,v0 S0 g rfl,consK_some,ev_nil,consJ_some,argsK_some,ev_one,l,op2K_some,ev_c,op2J_some,ne_ii,e,tstK_some]
  have t3:(aTst (aOp2 aIn (aOp2 aIx (aVar 0) (aC (.int 0))) (aArgs (mkF .tup) (aCons (aC (.str "start")) (aCons (aC (.str "join")) aNil))))) S0 g = some (decide (w ∈ othersL),g):=by
    rw [ev_tst,ev_op2,i0 S0 g rfl,op2K_some]
    simp only [ev_args,ev_cons,ev_c,consK_some,ev_nil,consJ_some,argsK_some]
    rw [mkF_ok (sz _ (by simp)),op2J_some,io,tstK_some]
  have run:F__law_good_row [.nod .lst ((w :: r).map .str)] g = fnK (B__law_good_row S0 g):=by
    simp only [F__law_good_row]
    rw [ev_fn (by rfl)]
    rfl
  rw [run,B__law_good_row]
  by_cases h1:w ∈ aloneL
  · rw [decide_eq_true h1] at t1
    have e:rowB (w :: r) = decide (r.length + 1 = 1):=by
      unfold rowB; dsimp only; rw [if_pos h1]
      cases r <;> simp
    refine ⟨g,?_,.refl⟩
    rw [e,seq_rt (v:=.bl (decide (r.length + 1 = 1))) (h':=g)]
    · rfl
    · rw [ev_if,t1,ifK_t,ev_ret]
      rw [show (aOp2 aEq (aArgs (one aLenV) (aCons (aVar 0) aNil)) (aC (.int 1))) S0 g = _ from ll 1]
      rfl
  rw [decide_eq_false h1] at t1
  rw [seq_step (s':=S0) (h':=g) (by rw [ev_if,t1,ifK_f]; rfl)]
  by_cases h2:r.length = 1
  · obtain ⟨t,rfl⟩:∃ t,r = [t]:=by
      match r,h2 with
      | [t],_=>exact ⟨t,rfl⟩
    have ht:t.length ≤ 100000:=hz t (by simp)
    have i1:∀ (S:LS) (o:AH),S[0]? = some (some (.nod .lst ([w,t].map .str))) → (aOp2 aIx (aVar 0) (aC (.int 1))) S o = some (.str t,o):=fun S o h=>by
      rw [ev_op2,v0 S o h,op2K_some,ev_c,op2J_some,ix_nod]
      rfl
    rw [decide_eq_true h2] at t2
    rw [seq_step (s':=S0) (h':=g) (by rw [ev_if,t2]; rfl)]
    by_cases h3:w ∈ othersL
    · rw [decide_eq_true h3] at t3
      have e:rowB [w,t] = nameB t:=by unfold rowB; dsimp only; rw [if_neg h1,if_pos h3]
      refine ⟨g,?_,.refl⟩
      rw [e,seq_rt (v:=.bl (nameB t)) (h':=g)]
      · rfl
      · rw [ev_if,t3,ifK_t,ev_ret,ev_call,ev_cons,i1 S0 g rfl,consK_some,ev_nil,consJ_some,argsK_some,List.append_nil,goodname_b ht]
        rfl
    rw [decide_eq_false h3] at t3
    rw [seq_step (s':=S0) (h':=g) (by rw [ev_if,t3,ifK_f]; rfl)]
    have e:rowB [w,t] = signW w t:=by unfold rowB; dsimp only; rw [if_neg h1,if_neg h3]
    let c1:Kd × List AV:=(.dct (tabK.take 6),tabV.take 6)
    let c2:Kd × List AV:=(.dct (tabK.drop 6),tabV.drop 6)
    let c12:Kd × List AV:=(.dct tabK,tabV)
    let g1:=g.new c1
    let g2:=(g1.new c2).put g.next c12
    have q1:g1.get g.next = some c1:=by simp [g1]
    have q1b:(g1.new c2).get g.next = some c1:=by simp [g1]
    have q2:g2.get g.next = some c12:=by simp only [g2]; rw [AH.get_put q1b,if_pos rfl]
    have n2:(g1.new c2).get (g.next + 1) = some c2:=by simp [g1]
    have l1:(tabK.take 6).length + (tabK.drop 6).length ≤ sizeLine:=sz _ (by decide +kernel)
    let S1:LS:=[some (.nod .lst ([w,t].map .str)),some (.ref g.next)]
    have d1:aDisp [((aC (.str "load")),(aC (.str "01234"))),((aC (.str "add")),(aC (.str "1234"))),((aC (.str "read")),(aC (.str "abcd"))),((aC (.str "write")),(aC (.str "abcd"))),((aC (.str "keep")),(aC (.str "wxyz"))),((aC (.str "own")),(aC (.str "wxyz")))] S0 g = some (.ref g.next,g1):=by
      simp only [aDisp,aPairs,ev_c,Option.bind_some,toKey,tmrg1]; rfl
    have d2:aDisp [((aC (.str "ask")),(aC (.str "wxyz"))),((aC (.str "give")),(aC (.str "pq"))),((aC (.str "take")),(aC (.str "pq"))),((aC (.str "lock")),(aC (.str "lm"))),((aC (.str "bind")),(aC (.str "wxyz"))),((aC (.str "loop")),(aC (.str "123")))] S1 g1 = some (.ref (g.next + 1),g1.new c2):=by
      simp only [aDisp,aPairs,ev_c,Option.bind_some,toKey,tmrg2]; rfl
    have u:aUpd (aVar 1) (aDisp [((aC (.str "ask")),(aC (.str "wxyz"))),((aC (.str "give")),(aC (.str "pq"))),((aC (.str "take")),(aC (.str "pq"))),((aC (.str "lock")),(aC (.str "lm"))),((aC (.str "bind")),(aC (.str "wxyz"))),((aC (.str "loop")),(aC (.str "123")))]) S1 g1 = some (.non,g2):=by
      simp only [aUpd,ev_var,show S1[1]? = some (some (.ref g.next)) from rfl,varK_some,Option.bind_some,d2,cellD_cell q1,cellD_cell q1b,dctOf_cell n2,tmrg12]
      rw [if_pos ⟨by simp,l1⟩]
    rw [seq_step (s':=S1) (h':=g1) (by rw [ev_asg,d1]; rfl),seq_step (s':=S1) (h':=g2) (by rw [ev_exp,u]; rfl)]
    have kk:Kp [] g g2:=((Kp.new (c:=c1)).trans Kp.new).putL (by rw [q1b]; rfl) (.inl (Nat.le_refl _))
    refine ⟨g2,?_,kk⟩
    rw [e]
    have gt:aGet2 (aVar 1) (aOp2 aIx (aVar 0) (aC (.int 0))) (aC (.str "")) S1 g2 = some ((((kIx tabK (.inr w)).bind fun i=>tabV[i]?).getD (.str "")),g2):=by
      have:=i0 S1 g2 rfl
      simp [this,get2K,getK2,dctOf_cell q2,toKey,S1]
    have ix1:=i1 S1 g2 rfl
    have le1:=len1 (S:=S1) (h:=g2) ht ix1
    have last:(aAndV (aOp2 aEq (aArgs (one aLenV) (aCons (aOp2 aIx (aVar 0) (aC (.int 1))) aNil)) (aC (.int 1))) (aOp2 aIn (aOp2 aIx (aVar 0) (aC (.int 1))) (aGet2 (aVar 1) (aOp2 aIx (aVar 0) (aC (.int 0))) (aC (.str ""))))) S1 g2 = some (.bl (signW w t),g2):=by
      unfold aAndV signW
      rw [le1,Option.bind_some]
      by_cases hl:t.length = 1
      · rw [decide_eq_true hl]
        dsimp only
        rw [ev_op2,ix1,op2K_some,gt,op2J_some,tab_get w]
        cases hg:(kIx tabK (.inr w)).bind fun i=>tabS[i]? with
        | none =>
          show aIn (.str t) (.str "") g2 = _
          rw [in_sign hl]
          obtain ⟨c,rfl⟩:=one_of hl
          rfl
        | some z =>
          show aIn (.str t) (.str z.2) g2 = _
          rw [in_sign hl,Bool.true_and]
      · rw [decide_eq_false hl]
        rfl
    show fnK (aRet _ S1 g2) = _
    rw [ev_ret]
    exact congrArg (fun q=>fnK (retK q)) last
  · rw [decide_eq_false h2] at t2
    have e:rowB (w :: r) = false:=by
      unfold rowB
      dsimp only
      rw [if_neg h1]
      match r,h2 with
      | [],_=>rfl
      | [_],h=>exact absurd rfl h
      | _ :: _ :: _,_=>rfl
    refine ⟨g,?_,.refl⟩
    rw [e,seq_rt (v:=.bl false) (h':=g) (by rw [ev_if,t2]; rfl)]
    rfl
end
end K03
end
section
namespace K03
open PySem PySem.Spec PyProof.Rows L2 Rp K03
structure RS where
  names:List Str
  name:Str
  rows:Nat
  opn:List Str
  asked:List (Nat × Str × Str)
def askV (q:Nat × Str × Str):AV:=.nod .tup [.int (q.1:Nat),.str q.2.1,.str q.2.2]
def strsV (L:List Str):AV:=.nod .lst (L.map .str)
def lkS:List Key:=[.inr "name",.inr "names",.inr "rows",.inr "open",.inr "asked"]
def lawC (σ:RS):Kd × List AV:=(.dct lkS,[.str σ.name,strsV σ.names,.int (σ.rows:Nat),strsV σ.opn,.nod .lst (σ.asked.map askV)])
def begR (σ:RS) (ws:List Str):Option RS:=match ws with
  | [a,b]=>if a = ("task" : Str) ∧ nameB b = true ∧ b ∉ σ.names ∧ σ.names.length ≤ 3 then some { σ with names:=σ.names ++ [b],name:=b,rows:=0 } else none
  | _=>none
def stepR (σ:RS) (ws:List Str) (pl:Nat):Option RS :=
  if σ.name = ("" : Str) then begR σ ws
  else if ws = [("end" : Str)] ∧ σ.opn = [] then some { σ with name := "" }
  else if 24 < σ.rows + 1 then none
  else if ws = [("end" : Str)] then some { σ with rows:=σ.rows + 1,opn:=σ.opn.dropLast }
  else if ws = [("else" : Str)] then (if σ.opn.getLast? = some ("try" : Str) ∨ σ.opn.getLast? = some ("when" : Str) then some { σ with rows:=σ.rows + 1,opn:=σ.opn.dropLast ++ [("else" : Str)] } else none)
  else if rowB ws = true then
    (if 4 < (if ws.headD "" ∈ blocksL then σ.opn ++ [ws.headD ""] else σ.opn).length then none else
      some { σ with rows:=σ.rows + 1,opn:=if ws.headD "" ∈ blocksL then σ.opn ++ [ws.headD ""] else σ.opn,asked:=if ws.headD "" ∈ othersL then σ.asked ++ [(pl,σ.name,ws.getD 1 "")] else σ.asked })
  else none
theorem cut_init {α:Type} {L:List α}:cutA L none (some (-1)) = L.dropLast:=by
  have h:HT.sIx L.length L.length (some (-1)) = L.length - 1:=by
    unfold HT.sIx
    simp
    omega
  have h0:HT.sIx L.length 0 none = 0:=rfl
  unfold cutA
  rw [h,h0,List.drop_zero,Nat.sub_zero,List.dropLast_eq_take]
theorem drop_pred {α:Type}:∀ (a:α) (r:List α),(a :: r).drop r.length = ((a :: r).getLast?).toList
  | a,[]=>rfl
  | a,b :: r=>by
    rw [List.getLast?_cons_cons,← drop_pred b r]
    rfl
theorem cut_last {α:Type} {L:List α}:cutA L (some (-1)) none = L.getLast?.toList:=by
  have h:HT.sIx L.length 0 (some (-1)) = L.length - 1:=by
    unfold HT.sIx
    simp
    omega
  have h0:HT.sIx L.length L.length none = L.length:=rfl
  unfold cutA
  rw [h,h0]
  cases L with
  | nil=>rfl
  | cons a r =>
    have e:(a :: r).length - 1 = r.length:=rfl
    have d:=drop_pred a r
    rw [e,d]
    refine List.take_of_length_le ?_
    rw [← d,List.length_drop]
    exact Nat.le_refl _
theorem strs_d:∀ L:List Str,isDs 59 (L.map AV.str) = true:=strs_d65
theorem strs_toD:∀ L:List Str,toDs (L.map AV.str) = L.map PyData.str
  | []=>rfl
  | x :: L=>by rw [List.map_cons,toDs,strs_toD L]; rfl
theorem eqvAll_strs:∀ L M:List Str,PyData.eqvAll (L.map .str) (M.map .str) = decide (L = M)
  | [],[]=>by simp [PyData.eqvAll]
  | [],y :: M=>by simp [PyData.eqvAll]
  | x :: L,[]=>by simp [PyData.eqvAll]
  | x :: L,y :: M=>by
    have:=eqvAll_strs L M
    simp only [List.map_cons,PyData.eqvAll,this,PyData.eqv]
    by_cases h:x = y <;> by_cases h2:L = M <;> simp [h,h2]
theorem eq_strs {L M:List Str} {h:AH}:aEq (strsV L) (strsV M) h = some (.bl (decide (L = M)),h):=by
  have d:=strs_d L
  have d2:=strs_d M
  unfold strsV
  simp only [aEq,nrm,isD,d,d2]
  simp [toD,strs_toD,PyData.eqv,eqvAll_strs]
section
variable {h h' g:AH} {st pl:Nat} {σ:RS} {w:Str} {r:List Str}
theorem lk_ix:kIx lkS (.inr "name") = some 0 ∧ kIx lkS (.inr "names") = some 1 ∧ kIx lkS (.inr "rows") = some 2 ∧ kIx lkS (.inr "open") = some 3 ∧ kIx lkS (.inr "asked") = some 4:=by decide +kernel
theorem law_get {S:LS} {j i:Nat} {z:Str} {v:AV} (hj:S[j]? = some (some (.ref st))) (e:h.get st = some (.dct lkS,[.str σ.name,strsV σ.names,.int (σ.rows:Nat),strsV σ.opn,.nod .lst (σ.asked.map askV)])) (hk:kIx lkS (.inr z) = some i) (hv:([.str σ.name,strsV σ.names,.int (σ.rows:Nat),strsV σ.opn,.nod .lst (σ.asked.map askV)]:List AV)[i]? = some v):(aOp2 aIx (aVar j) (aC (.str z))) S h = some (v,h):=by
  rw [ev_op2,ev_var,hj,varK_some,op2K_some,ev_c,op2J_some,ix_ref,e,ixR_dct,hk,Option.bind_some,hv]
  rfl
theorem lk_put (v a0 a1 a2 a3 a4:AV):∀ k,k < 5 → dPut lkS [a0,a1,a2,a3,a4] (lkS.getD k (.inr "")) v = (lkS,[a0,a1,a2,a3,a4].set k v):=by
  intro k hk
  match k,hk with
  | 0,_=>kernel_rfl
  | 1,_=>kernel_rfl
  | 2,_=>kernel_rfl
  | 3,_=>kernel_rfl
  | 4,_=>kernel_rfl
theorem law_set {S:LS} {j i:Nat} {z:Str} {v a0 a1 a2 a3 a4:AV} (hj:S[j]? = some (some (.ref st))) (e:h.get st = some (.dct lkS,[a0,a1,a2,a3,a4])) (hi:i < 5) (hk:lkS.getD i (.inr "") = .inr z):(gIx (aVar j) (aC (.str z))) v S h = some (S,h.put st (.dct lkS,[a0,a1,a2,a3,a4].set i v)):=by
  have hl:lkS.length < sizeLine:=by rw [sizeLine_eq]; decide
  have hs:aSet (.ref st) (.str z) v h = some (h.put st (.dct lkS,[a0,a1,a2,a3,a4].set i v)):=by
    have p:=lk_put v a0 a1 a2 a3 a4 i hi
    rw [hk] at p
    rw [set_ref,e,setR_dct]
    simp only [toKey,Option.bind_some,if_pos hl,p]
  rw [ev_gIx,ev_var,hj,varK_some,gixK_some,ev_c,gixJ_some,hs]
  rfl
end
end K03
end
section
namespace K03
open PySem PySem.Spec PyProof.Rows L2 Rp K03
theorem in_two {L:List Str} {h:AH}:aIn (strsV L) (.nod .tup [strsV [("try" : Str)],strsV [("when" : Str)]]) h = some (.bl (decide (L = [("try" : Str)]) || decide (L = [("when" : Str)])),h):=by
  have d:=strs_d L
  have a1:=eqvAll_strs L [("try" : Str)]
  have a2:=eqvAll_strs L [("when" : Str)]
  have b1:=eqvAll_strs [("try" : Str)] L
  have b2:=eqvAll_strs [("when" : Str)] L
  have e:aInD false (strsV L) (.nod .tup [strsV [("try" : Str)],strsV [("when" : Str)]]) h = some (.bl (decide (L = [("try" : Str)]) || decide (L = [("when" : Str)])),h):=by
    unfold strsV
    have q:=strs_toD L
    simp [aInD,look_nod,nrm,isD,isDs,d,toD,toDs,q,PyData.eqv]
    have c1:PyData.eqvAll [PyData.str (Str.ofString "try")] (L.map PyData.str) = decide (L = [("try" : Str)]):=by
      rw [show [PyData.str (Str.ofString "try")] = [("try" : Str)].map PyData.str from rfl,b1]
      exact decide_eq_decide.mpr eq_comm
    have c2:PyData.eqvAll [PyData.str (Str.ofString "when")] (L.map PyData.str) = decide (L = [("when" : Str)]):=by
      rw [show [PyData.str (Str.ofString "when")] = [("when" : Str)].map PyData.str from rfl,b2]
      exact decide_eq_decide.mpr eq_comm
    rw [c1,c2]
    rfl
  show orO (aInD _ _ _ _) _ = _
  rw [e]
  rfl
theorem last_of {L:List Str} {z:Str}:(L.getLast?.toList = [z]) ↔ L.getLast? = some z:=by
  cases L.getLast? <;> simp
section
variable {h h' g:AH} {st pl:Nat} {σ:RS} {w:Str} {r:List Str}
def tkS (st pl:Nat) (ws:List Str) (v3 v4:Option AV):LS:=[some (.ref st),some (strsV ws),some (.int (pl:Nat)),v3,v4]
theorem eq_nilS {L:List Str} {S:LS} {f:AE} (hf:f S h = some (strsV L,h)):(aOp2 aEq f (aArgs (mkF .lst) aNil)) S h = some (.bl (decide (L = [])),h):=by
  rw [ev_op2,hf,op2K_some,ev_args,ev_nil,argsK_some,mkF_ok (Nat.zero_le _),op2J_some]
  exact eq_strs (M:=[])
theorem eq_oneS {L:List Str} {S:LS} {f:AE} {z:Str} (hf:f S h = some (strsV L,h)):(aOp2 aEq f (aArgs (mkF .lst) (aCons (aC (.str z)) aNil))) S h = some (.bl (decide (L = [z])),h):=by
  rw [ev_op2,hf,op2K_some,ev_args,ev_cons,ev_c,consK_some,ev_nil,consJ_some,argsK_some,mkF_ok (sz _ (by simp)),op2J_some]
  exact eq_strs (M:=[z])
theorem taken_ok (hσ:h.get st = some (lawC σ)) (hz:∀ x ∈ w :: r,x.length ≤ 100000) (hr:r.length ≤ 16000) (z1:σ.names.length ≤ 100) (z2:σ.opn.length ≤ 100) (z3:σ.asked.length ≤ 16000) :
    ∃ b h',F__law_taken [.ref st,strsV (w :: r),.int (pl:Nat)] h = some (.bl b,h') ∧ Kp [st] h h' ∧ (match stepR σ (w :: r) pl with
      | some σ' => b = true ∧ h'.get st = some (lawC σ')
      | none=>b = false):=by
  obtain ⟨x0,x1,x2,x3,x4⟩:=lk_ix
  let S0:=tkS st pl (w :: r) none none
  have nm:=law_get (S:=S0) (j:=0) (v:=.str σ.name) rfl hσ x0 rfl
  have v1:∀ (a b:Option AV) (o:AH),(aVar 1) (tkS st pl (w :: r) a b) o = some (strsV (w :: r),o):=fun _ _ _=>rfl
  have run:F__law_taken [.ref st,strsV (w :: r),.int (pl:Nat)] h = fnK (B__law_taken S0 h):=by
    simp only [F__law_taken]
    rw [ev_fn (by rfl)]
    rfl
  have t0:(aTst (aOp2 aEq (aOp2 aIx (aVar 0) (aC (.str "name"))) (aC (.str "")))) S0 h = some (decide (σ.name = ("" : Str)),h):=by
    rw [ev_tst,ev_op2,nm,op2K_some,ev_c,op2J_some,eq_ss,tstK_some]
  have i0:∀ (a b:Option AV) (o:AH),(aOp2 aIx (aVar 1) (aC (.int 0))) (tkS st pl (w :: r) a b) o = some (.str w,o):=fun a b o=>by
    rw [ev_op2,v1,op2K_some,ev_c,op2J_some]
    unfold strsV
    rw [ix_nod,List.map_cons,ixR_lst,atI_0]
    rfl
  have ln:(aOp2 aEq (aArgs (one aLenV) (aCons (aVar 1) aNil)) (aC (.int 2))) S0 h = some (.bl (decide (r.length = 1)),h):=by
    have l:aLenV (strsV (w :: r)) h = some (.int ((r.length + 1:Nat):Int),h):=by simp [strsV]
    have e:decide (((r.length + 1:Nat):Int) = 2) = decide (r.length = 1):=decide_eq_decide.mpr (by omega)
    rw [ev_op2,ev_args,ev_cons,v1,consK_some,ev_nil,consJ_some,argsK_some,ev_one,l,op2K_some,ev_c,op2J_some,eq_ii,e]
  rw [run,B__law_taken]
  by_cases hn:σ.name = ("" : Str)
  · rw [decide_eq_true hn] at t0
    have hstep:stepR σ (w :: r) pl = begR σ (w :: r):=by unfold stepR; rw [if_pos hn]
    by_cases h2:r.length = 1
    · obtain ⟨t,rfl⟩:∃ t,r = [t]:=by
        match r,h2 with
        | [t],_=>exact ⟨t,rfl⟩
      have ht:t.length ≤ 100000:=hz t (by simp)
      have i1:∀ (a b:Option AV) (o:AH),(aOp2 aIx (aVar 1) (aC (.int 1))) (tkS st pl [w,t] a b) o = some (.str t,o):=fun a b o=>by
        rw [ev_op2,v1,op2K_some,ev_c,op2J_some]
        unfold strsV
        rw [ix_nod]
        rfl
      let G:Bool:=decide (w = ("task" : Str)) && nameB t
      have good:(aAndV (aOp2 aEq (aArgs (one aLenV) (aCons (aVar 1) aNil)) (aC (.int 2))) (aAndV (aOp2 aEq (aOp2 aIx (aVar 1) (aC (.int 0))) (aC (.str "task"))) (aCall F__law_good_name [] (aCons (aOp2 aIx (aVar 1) (aC (.int 1))) aNil)))) S0 h = some (.bl G,h):=by
        unfold aAndV
        rw [ln,decide_eq_true h2,Option.bind_some]
        dsimp only
        rw [ev_op2,i0,op2K_some,ev_c,op2J_some,eq_ss,Option.bind_some]
        by_cases hw:w = ("task" : Str)
        · rw [decide_eq_true hw]
          dsimp only
          rw [ev_call,ev_cons,i1,consK_some,ev_nil,consJ_some,argsK_some,List.append_nil,goodname_b ht]
          simp [G,hw]
        · rw [decide_eq_false hw]
          simp [G,hw]
      let S1:=tkS st pl [w,t] (some (.bl G)) none
      have b1:(aAsg (aAndV (aOp2 aEq (aArgs (one aLenV) (aCons (aVar 1) aNil)) (aC (.int 2))) (aAndV (aOp2 aEq (aOp2 aIx (aVar 1) (aC (.int 0))) (aC (.str "task"))) (aCall F__law_good_name [] (aCons (aOp2 aIx (aVar 1) (aC (.int 1))) aNil)))) (gNm 3)) S0 h = some (.nx S1,h):=by
        rw [ev_asg,good]
        rfl
      have ns:=law_get (S:=S1) (j:=0) (v:=strsV σ.names) rfl hσ x1 rfl
      let B3:Bool:=decide (t ∈ σ.names)
      let B4:Bool:=decide (3 < σ.names.length)
      have tt:(aOr (aNot (aTst (aVar 3))) (aOr (aTst (aOp2 aIn (aOp2 aIx (aVar 1) (aC (.int 1))) (aOp2 aIx (aVar 0) (aC (.str "names"))))) (aTst (aOp2 aGt (aArgs (one aLenV) (aCons (aOp2 aIx (aVar 0) (aC (.str "names"))) aNil)) (aC (.int 3)))))) S1 h = some (!G || (B3 || B4),h):=by
        have e1:(aTst (aOp2 aIn (aOp2 aIx (aVar 1) (aC (.int 1))) (aOp2 aIx (aVar 0) (aC (.str "names"))))) S1 h = some (B3,h):=by
          have:=in_lst (x:=t) (h:=h) σ.names
          rw [ev_tst,ev_op2,i1,op2K_some,ns,op2J_some]
          unfold strsV
          rw [this,tstK_some]
        have e2:(aTst (aOp2 aGt (aArgs (one aLenV) (aCons (aOp2 aIx (aVar 0) (aC (.str "names"))) aNil)) (aC (.int 3)))) S1 h = some (B4,h):=by
          have l:aLenV (strsV σ.names) h = some (.int (σ.names.length:Nat),h):=by simp [strsV]
          have e:decide ((3:Int) < (σ.names.length:Int)) = B4:=decide_eq_decide.mpr (by omega)
          rw [ev_tst,ev_op2,ev_args,ev_cons,ns,consK_some,ev_nil,consJ_some,argsK_some,ev_one,l,op2K_some,ev_c,op2J_some,ev_gt,e,tstK_some]
        rw [ev_or,ev_not,ev_tst,show (aVar 3) S1 h = some (.bl G,h) from rfl,tstK_some,notK_some]
        cases G with
        | false=>rfl
        | true =>
          show orK (some (false,h)) _ S1 = _
          rw [orK_f,ev_or,e1]
          cases B3 with
          | true=>rfl
          | false=>rw [orK_f,e2]; rfl
      cases hb:(!G || (B3 || B4)) with
      | true =>
        have hs:stepR σ [w,t] pl = none:=by
          rw [hstep]
          show (if _ then _ else _) = _
          rw [if_neg]
          rintro ⟨q1,q2,q3,q4⟩
          have:(!G || (B3 || B4)) = false:=by
            simp [G,B3,B4,q1,q2,q3]
            omega
          rw [this] at hb
          cases hb
        refine ⟨false,h,?_,.refl,by rw [hs]⟩
        rw [seq_rt (v:=.bl false) (h':=h)]
        · rfl
        · rw [ev_if,t0,ifK_t,seq_step b1,seq_rt (v:=.bl false) (h':=h) (by rw [ev_if,tt,hb]; rfl)]
      | false =>
        have cond:w = ("task" : Str) ∧ nameB t = true ∧ t ∉ σ.names ∧ σ.names.length ≤ 3:=by
          simp only [Bool.or_eq_false_iff,G,B3,B4,Bool.not_eq_false',Bool.and_eq_true,decide_eq_true_eq,decide_eq_false_iff_not] at hb
          exact ⟨hb.1.1,hb.1.2,hb.2.1,by omega⟩
        let σ':RS:={ σ with names:=σ.names ++ [t],name:=t,rows:=0 }
        have hs:stepR σ [w,t] pl = some σ':=by
          rw [hstep]
          show (if _ then _ else _) = _
          rw [if_pos cond]
        obtain ⟨h1,hh1⟩:∃ y,h.put st (.dct lkS,[.str σ.name,strsV (σ.names ++ [t]),.int (σ.rows:Nat),strsV σ.opn,.nod .lst (σ.asked.map askV)]) = y:=⟨_,rfl⟩
        have c1:h1.get st = some (.dct lkS,[.str σ.name,strsV (σ.names ++ [t]),.int (σ.rows:Nat),strsV σ.opn,.nod .lst (σ.asked.map askV)]):=hh1 ▸ put_own hσ
        obtain ⟨h2,hh2⟩:∃ y,h1.put st (.dct lkS,[.str t,strsV (σ.names ++ [t]),.int (σ.rows:Nat),strsV σ.opn,.nod .lst (σ.asked.map askV)]) = y:=⟨_,rfl⟩
        have c2:h2.get st = some (.dct lkS,[.str t,strsV (σ.names ++ [t]),.int (σ.rows:Nat),strsV σ.opn,.nod .lst (σ.asked.map askV)]):=hh2 ▸ put_own c1
        obtain ⟨h3,hh3⟩:∃ y,h2.put st (lawC σ') = y:=⟨_,rfl⟩
        have kk:Kp [st] h h3:=((hh1 ▸ Kp.put (by rw [hσ]; rfl) (by simp):Kp [st] h h1).trans (hh2 ▸ Kp.put (by rw [c1]; rfl) (by simp):Kp [st] h1 h2)).trans (hh3 ▸ Kp.put (by rw [c2]; rfl) (by simp))
        refine ⟨true,h3,?_,kk,by rw [hs]; exact ⟨rfl,hh3 ▸ put_own c2⟩⟩
        have f1:(aAsg (aOp2 aAdd (aOp2 aIx (aVar 0) (aC (.str "names"))) (aArgs (mkF .lst) (aCons (aOp2 aIx (aVar 1) (aC (.int 1))) aNil))) (gIx (aVar 0) (aC (.str "names")))) S1 h = some (.nx S1,h1):=by
          have ad:(aOp2 aAdd (aOp2 aIx (aVar 0) (aC (.str "names"))) (aArgs (mkF .lst) (aCons (aOp2 aIx (aVar 1) (aC (.int 1))) aNil))) S1 h = some (strsV (σ.names ++ [t]),h):=by
            rw [ev_op2,ns,op2K_some,ev_args,ev_cons,i1,consK_some,ev_nil,consJ_some,argsK_some,mkF_ok (sz _ (by simp)),op2J_some]
            unfold strsV
            rw [add_nod,mkF_ok (sz _ (by simp; omega)),List.map_append]
            rfl
          rw [ev_asg,ad]
          show asgJ ((gIx (aVar 0) (aC (.str "names"))) _ S1 h) = _
          rw [law_set (S:=S1) (j:=0) (i:=1) rfl hσ (by decide) rfl]
          show some (AR.nx S1,h.put st _) = _
          rw [← hh1]
          rfl
        have f2:(aAsg (aArgs (mkF .tup) (aCons (aOp2 aIx (aVar 1) (aC (.int 1))) (aCons (aC (.int 0)) aNil))) (gSq 2 (gsCons (gIx (aVar 0) (aC (.str "name"))) (gsCons (gIx (aVar 0) (aC (.str "rows"))) gsNil)))) S1 h1 = some (.nx S1,h3):=by
          have s1:=law_set (S:=S1) (j:=0) (i:=0) (v:=.str t) rfl c1 (by decide) rfl
          have s2:=law_set (S:=S1) (j:=0) (i:=2) (v:=.int 0) rfl c2 (by decide) rfl
          have e2:h1.put st (.dct lkS,([.str σ.name,strsV (σ.names ++ [t]),.int (σ.rows:Nat),strsV σ.opn,.nod .lst (σ.asked.map askV)]:List AV).set 0 (.str t)) = h2:=hh2
          have e3:h2.put st (.dct lkS,([.str t,strsV (σ.names ++ [t]),.int (σ.rows:Nat),strsV σ.opn,.nod .lst (σ.asked.map askV)]:List AV).set 2 (.int 0)) = h3:=hh3
          rw [e2] at s1
          rw [e3] at s2
          rw [ev_asg,ev_args,ev_cons,i1,consK_some,ev_cons,ev_c,consK_some,ev_nil,consJ_some,consJ_some,argsK_some,mkF_ok (sz _ (by simp))]
          show asgJ ((gIx (aVar 0) (aC (.str "name")) (.str t) S1 h1).bind fun q=>(gIx (aVar 0) (aC (.str "rows")) (.int 0) q.1 q.2).bind fun q=>some (q.1,q.2)) = _
          rw [s1,Option.bind_some]
          dsimp only
          rw [s2]
          rfl
        rw [seq_rt (v:=.bl true) (h':=h3)]
        · rfl
        · rw [ev_if,t0,ifK_t,seq_step b1,seq_step (s':=S1) (h':=h) (by rw [ev_if,tt,hb]; rfl),seq_step f1,seq_step f2]
          rfl
    · have hs:stepR σ (w :: r) pl = none:=by
        rw [hstep]
        match r,h2 with
        | [],_=>rfl
        | [_],h=>exact absurd rfl h
        | _ :: _ :: _,_=>rfl
      have good:(aAndV (aOp2 aEq (aArgs (one aLenV) (aCons (aVar 1) aNil)) (aC (.int 2))) (aAndV (aOp2 aEq (aOp2 aIx (aVar 1) (aC (.int 0))) (aC (.str "task"))) (aCall F__law_good_name [] (aCons (aOp2 aIx (aVar 1) (aC (.int 1))) aNil)))) S0 h = some (.bl false,h):=by
        unfold aAndV
        rw [ln,decide_eq_false h2]
        rfl
      refine ⟨false,h,?_,.refl,by rw [hs]⟩
      let S1:=tkS st pl (w :: r) (some (.bl false)) none
      rw [seq_rt (v:=.bl false) (h':=h)]
      · rfl
      · rw [ev_if,t0,ifK_t,seq_step (s':=S1) (h':=h) (by rw [ev_asg,good]; rfl),seq_rt (v:=.bl false) (h':=h)]
        rw [ev_if,ev_or,ev_not,ev_tst,show (aVar 3) S1 h = some (.bl false,h) from rfl,tstK_some,notK_some]
        rfl
  rw [decide_eq_false hn] at t0
  rw [seq_step (s':=S0) (h':=h) (by rw [ev_if,t0,ifK_f]; rfl)]
  have op:=fun (a b:Option AV)=>law_get (S:=tkS st pl (w :: r) a b) (j:=0) (v:=strsV σ.opn) rfl hσ x3 rfl
  have te:(aAnd (aTst (aOp2 aEq (aVar 1) (aArgs (mkF .lst) (aCons (aC (.str "end")) aNil)))) (aTst (aOp2 aEq (aOp2 aIx (aVar 0) (aC (.str "open"))) (aArgs (mkF .lst) aNil)))) S0 h = some (decide (w :: r = [("end" : Str)]) && decide (σ.opn = []),h):=by
    rw [ev_and,ev_tst,eq_oneS (v1 none none h),tstK_some]
    cases decide (w :: r = [("end" : Str)]) with
    | false=>rfl
    | true =>
      rw [andK_t,ev_tst,eq_nilS (op none none),tstK_some]
      rfl
  by_cases h1:w :: r = [("end" : Str)] ∧ σ.opn = []
  · have hs:stepR σ (w :: r) pl = some { σ with name := "" }:=by unfold stepR; rw [if_neg hn,if_pos h1]
    rw [decide_eq_true h1.1,decide_eq_true h1.2] at te
    have st1:=law_set (S:=S0) (j:=0) (i:=0) (v:=.str "") rfl hσ (by decide) rfl
    refine ⟨true,_,?_,Kp.put (c:=lawC { σ with name := "" }) (by rw [hσ]; rfl) (by simp),by rw [hs]; exact ⟨rfl,put_own hσ⟩⟩
    rw [seq_rt (v:=.bl true) (h':=h.put st (lawC { σ with name := "" }))]
    · rfl
    · rw [ev_if,te]
      show ifK (some (true,h)) _ _ S0 = _
      rw [ifK_t,seq_step (s':=S0) (h':=h.put st (lawC { σ with name := "" })) (by
        rw [ev_asg,ev_c]
        show asgJ ((gIx (aVar 0) (aC (.str "name"))) _ S0 h) = _
        rw [st1]
        rfl)]
      rfl
  have te0:(decide (w :: r = [("end" : Str)]) && decide (σ.opn = [])) = false:=by
    by_cases a:w :: r = [("end" : Str)]
    · have:¬ σ.opn = []:=fun b=>h1 ⟨a,b⟩
      rw [decide_eq_false this,Bool.and_false]
    · rw [decide_eq_false a,Bool.false_and]
  rw [te0] at te
  rw [seq_step (s':=S0) (h':=h) (by rw [ev_if,te]; rfl)]
  let σ1:RS:={ σ with rows:=σ.rows + 1 }
  obtain ⟨k1,hk1⟩:∃ y,h.put st (lawC σ1) = y:=⟨_,rfl⟩
  have c1:k1.get st = some (lawC σ1):=hk1 ▸ put_own hσ
  have kk1:Kp [st] h k1:=hk1 ▸ Kp.put (by rw [hσ]; rfl) (by simp)
  have rw0:=law_get (S:=S0) (j:=0) (v:=.int (σ.rows:Nat)) rfl hσ x2 rfl
  have b2:(aAsg (aOp2 aAdd (aOp2 aIx (aVar 0) (aC (.str "rows"))) (aC (.int 1))) (gIx (aVar 0) (aC (.str "rows")))) S0 h = some (.nx S0,k1):=by
    have e:((σ.rows:Int) + 1) = ((σ.rows + 1:Nat):Int):=by omega
    have s2:=law_set (S:=S0) (j:=0) (i:=2) (v:=.int ((σ.rows + 1:Nat):Int)) rfl hσ (by decide) rfl
    rw [ev_asg,ev_op2,rw0,op2K_some,ev_c,op2J_some,ev_addI,e]
    show asgJ ((gIx (aVar 0) (aC (.str "rows"))) _ S0 h) = _
    rw [s2]
    show some (AR.nx S0,h.put st _) = _
    rw [← hk1]
    rfl
  rw [seq_step b2]
  have op1:=fun (a b:Option AV)=>law_get (S:=tkS st pl (w :: r) a b) (j:=0) (σ:=σ1) (v:=strsV σ.opn) rfl c1 x3 rfl
  have rw1:=law_get (S:=S0) (j:=0) (σ:=σ1) (v:=.int ((σ.rows + 1:Nat):Int)) rfl c1 x2 rfl
  have tr:(aTst (aOp2 aGt (aOp2 aIx (aVar 0) (aC (.str "rows"))) (aC (.int 24)))) S0 k1 = some (decide (24 < σ.rows + 1),k1):=by
    have e:decide ((24:Int) < ((σ.rows + 1:Nat):Int)) = decide (24 < σ.rows + 1):=decide_eq_decide.mpr (by omega)
    rw [ev_tst,ev_op2,rw1,op2K_some,ev_c,op2J_some,ev_gt,e,tstK_some]
  by_cases h2:24 < σ.rows + 1
  · have hs:stepR σ (w :: r) pl = none:=by unfold stepR; rw [if_neg hn,if_neg h1,if_pos h2]
    rw [decide_eq_true h2] at tr
    refine ⟨false,k1,?_,kk1,by rw [hs]⟩
    rw [seq_rt (v:=.bl false) (h':=k1) (by rw [ev_if,tr]; rfl)]
    rfl
  rw [decide_eq_false h2] at tr
  rw [seq_step (s':=S0) (h':=k1) (by rw [ev_if,tr]; rfl)]
  have tend:(aTst (aOp2 aEq (aVar 1) (aArgs (mkF .lst) (aCons (aC (.str "end")) aNil)))) S0 k1 = some (decide (w :: r = [("end" : Str)]),k1):=by
    rw [ev_tst,eq_oneS (v1 none none k1),tstK_some]
  have telse:(aTst (aOp2 aEq (aVar 1) (aArgs (mkF .lst) (aCons (aC (.str "else")) aNil)))) S0 k1 = some (decide (w :: r = [("else" : Str)]),k1):=by
    rw [ev_tst,eq_oneS (v1 none none k1),tstK_some]
  have ini:∀ a b,(aSlice mkF (aOp2 aIx (aVar 0) (aC (.str "open"))) aNo (aPart (aOp1 aNeg (aC (.int 1))))) (tkS st pl (w :: r) a b) k1 = some (strsV σ.opn.dropLast,k1):=fun a b=>by
    have p:(aPart (aOp1 aNeg (aC (.int 1)))) (tkS st pl (w :: r) a b) k1 = some (some (-1),k1):=rfl
    rw [ev_slice,op1,sliceK_some,ev_no,sliceJ_some,p,sliceI_some]
    show mkF .lst (cutA (σ.opn.map AV.str) none (some (-1))) k1 = _
    rw [cut_init,← List.map_dropLast,mkF_ok (sz _ (by simp; omega))]
    rfl
  by_cases h3:w :: r = [("end" : Str)]
  · have hs:stepR σ (w :: r) pl = some { σ with rows:=σ.rows + 1,opn:=σ.opn.dropLast }:=by unfold stepR; rw [if_neg hn,if_neg h1,if_neg h2,if_pos h3]
    rw [decide_eq_true h3] at tend
    have s3:=law_set (S:=S0) (j:=0) (i:=3) (v:=strsV σ.opn.dropLast) rfl c1 (by decide) rfl
    refine ⟨true,_,?_,kk1.trans (Kp.put (c:=lawC { σ with rows:=σ.rows + 1,opn:=σ.opn.dropLast }) (by rw [c1]; rfl) (by simp)),by rw [hs]; exact ⟨rfl,put_own c1⟩⟩
    rw [seq_rt (v:=.bl true) (h':=k1.put st (lawC { σ with rows:=σ.rows + 1,opn:=σ.opn.dropLast }))]
    · rfl
    · rw [ev_if,tend,ifK_t,seq_step (s':=S0) (h':=k1.put st (lawC { σ with rows:=σ.rows + 1,opn:=σ.opn.dropLast })) (by
        rw [ev_asg,ini]
        show asgJ ((gIx (aVar 0) (aC (.str "open"))) _ S0 k1) = _
        rw [s3]
        rfl)]
      rfl
  rw [decide_eq_false h3] at tend
  rw [seq_step (s':=S0) (h':=k1) (by rw [ev_if,tend]; rfl)]
  by_cases h4:w :: r = [("else" : Str)]
  · rw [decide_eq_true h4] at telse
    let L:List Str:=σ.opn.getLast?.toList
    let B:Bool:=decide (L = [("try" : Str)]) || decide (L = [("when" : Str)])
    have hL:L.length ≤ 1:=by show (σ.opn.getLast?.toList).length ≤ 1; cases σ.opn.getLast? <;> simp
    have las:(aSlice mkF (aOp2 aIx (aVar 0) (aC (.str "open"))) (aPart (aOp1 aNeg (aC (.int 1)))) aNo) S0 k1 = some (strsV L,k1):=by
      have p:(aPart (aOp1 aNeg (aC (.int 1)))) S0 k1 = some (some (-1),k1):=rfl
      rw [ev_slice,op1 none none,sliceK_some,p,sliceJ_some,ev_no,sliceI_some]
      show mkF .lst (cutA (σ.opn.map AV.str) (some (-1)) none) k1 = _
      have e:(σ.opn.map AV.str).getLast?.toList = L.map AV.str:=by
        show _ = (σ.opn.getLast?.toList).map AV.str
        rw [List.getLast?_map]
        cases σ.opn.getLast? <;> rfl
      rw [cut_last,e,mkF_ok (sz _ (by rw [List.length_map]; omega))]
      rfl
    let S1:=tkS st pl (w :: r) (some (.bl B)) none
    have f1:(aAsg (aOp2 aIn (aSlice mkF (aOp2 aIx (aVar 0) (aC (.str "open"))) (aPart (aOp1 aNeg (aC (.int 1)))) aNo) (aArgs (mkF .tup) (aCons (aArgs (mkF .lst) (aCons (aC (.str "try")) aNil)) (aCons (aArgs (mkF .lst) (aCons (aC (.str "when")) aNil)) aNil)))) (gNm 3)) S0 k1 = some (.nx S1,k1):=by
      have tp:(aArgs (mkF .tup) (aCons (aArgs (mkF .lst) (aCons (aC (.str "try")) aNil)) (aCons (aArgs (mkF .lst) (aCons (aC (.str "when")) aNil)) aNil))) S0 k1 = some (.nod .tup [strsV [("try" : Str)],strsV [("when" : Str)]],k1):=by
        simp only [ev_args,ev_cons,ev_c,consK_some,ev_nil,consJ_some,argsK_some]
        rw [mkF_ok (sz _ (by simp)),consK_some]
        simp only [ev_args,ev_cons,ev_c,consK_some,ev_nil,consJ_some,argsK_some]
        rw [mkF_ok (sz _ (by simp)),consK_some,ev_nil,consJ_some,consJ_some,argsK_some,mkF_ok (sz _ (by simp))]
        rfl
      rw [ev_asg,ev_op2,las,op2K_some,tp,op2J_some,in_two]
      rfl
    have ad:(aOp2 aAdd (aSlice mkF (aOp2 aIx (aVar 0) (aC (.str "open"))) aNo (aPart (aOp1 aNeg (aC (.int 1))))) (aArgs (mkF .lst) (aCons (aC (.str "else")) aNil))) S1 k1 = some (strsV (σ.opn.dropLast ++ [("else" : Str)]),k1):=by
      rw [ev_op2,ini,op2K_some,ev_args,ev_cons,ev_c,consK_some,ev_nil,consJ_some,argsK_some,mkF_ok (sz _ (by simp)),op2J_some]
      unfold strsV
      rw [add_nod,mkF_ok (sz _ (by simp; omega)),List.map_append]
      rfl
    let σ2:RS:={ σ with rows:=σ.rows + 1,opn:=σ.opn.dropLast ++ [("else" : Str)] }
    have s3:=law_set (S:=S1) (j:=0) (i:=3) (v:=strsV (σ.opn.dropLast ++ [("else" : Str)])) rfl c1 (by decide) rfl
    have f2:(aAsg (aOp2 aAdd (aSlice mkF (aOp2 aIx (aVar 0) (aC (.str "open"))) aNo (aPart (aOp1 aNeg (aC (.int 1))))) (aArgs (mkF .lst) (aCons (aC (.str "else")) aNil))) (gIx (aVar 0) (aC (.str "open")))) S1 k1 = some (.nx S1,k1.put st (lawC σ2)):=by
      rw [ev_asg,ad]
      show asgJ ((gIx (aVar 0) (aC (.str "open"))) _ S1 k1) = _
      rw [s3]
      rfl
    have hs:stepR σ (w :: r) pl = if σ.opn.getLast? = some ("try" : Str) ∨ σ.opn.getLast? = some ("when" : Str) then some σ2 else none:=by unfold stepR; rw [if_neg hn,if_neg h1,if_neg h2,if_neg h3,if_pos h4]
    refine ⟨B,_,?_,kk1.trans (Kp.put (c:=lawC σ2) (by rw [c1]; rfl) (by simp)),?_⟩
    · rw [seq_rt (v:=.bl B) (h':=k1.put st (lawC σ2))]
      · rfl
      · rw [ev_if,telse,ifK_t,seq_step f1,seq_step f2]
        rfl
    · rw [hs]
      by_cases hc:σ.opn.getLast? = some ("try" : Str) ∨ σ.opn.getLast? = some ("when" : Str)
      · rw [if_pos hc]
        refine ⟨?_,put_own c1⟩
        show (decide (L = _) || decide (L = _)) = true
        rcases hc with q | q
        · rw [decide_eq_true (last_of.mpr q),Bool.true_or]
        · rw [decide_eq_true (last_of.mpr q),Bool.or_true]
      · rw [if_neg hc]
        show (decide (L = _) || decide (L = _)) = false
        rw [decide_eq_false (fun q=>hc (.inl (last_of.mp q))),decide_eq_false (fun q=>hc (.inr (last_of.mp q)))]
        rfl
  rw [decide_eq_false h4] at telse
  rw [seq_step (s':=S0) (h':=k1) (by rw [ev_if,telse]; rfl)]
  obtain ⟨k2,eg,kg⟩:=goodrow_b (g:=k1) hz hr
  have c2:k2.get st = some (lawC σ1):=kg.get c1 (by simp)
  have kk2:Kp [st] h k2:=kk1.trans (kg.mono (by simp))
  have tg:(aTst (aCall F__law_good_row [] (aCons (aVar 1) aNil))) S0 k1 = some (rowB (w :: r),k2):=by
    rw [ev_tst,ev_call,ev_cons,v1,consK_some,ev_nil,consJ_some,argsK_some,List.append_nil]
    rw [show F__law_good_row [strsV (w :: r)] k1 = _ from eg,tstK_some]
  have sbase:stepR σ (w :: r) pl = if rowB (w :: r) = true then (if 4 < (if w ∈ blocksL then σ.opn ++ [w] else σ.opn).length then none else
      some { σ with rows:=σ.rows + 1,opn:=if w ∈ blocksL then σ.opn ++ [w] else σ.opn,asked:=if w ∈ othersL then σ.asked ++ [(pl,σ.name,(w :: r).getD 1 "")] else σ.asked }) else none:=by
    unfold stepR
    rw [if_neg hn,if_neg h1,if_neg h2,if_neg h3,if_neg h4]
    rfl
  cases hrow:rowB (w :: r) with
  | false =>
    rw [hrow] at tg
    refine ⟨false,k2,?_,kk2,by rw [sbase,hrow]; rfl⟩
    rw [seq_rt (v:=.bl false) (h':=k2) (by rw [ev_if,ev_not,tg]; rfl)]
    rfl
  | true =>
  rw [hrow] at tg
  rw [seq_step (s':=S0) (h':=k2) (by rw [ev_if,ev_not,tg]; rfl)]
  let o:List Str:=if w ∈ blocksL then σ.opn ++ [w] else σ.opn
  have lo:o.length ≤ 101:=by
    show (if w ∈ blocksL then σ.opn ++ [w] else σ.opn).length ≤ 101
    split
    · rw [List.length_append,List.length_singleton]; omega
    · omega
  let σ3:RS:={ σ with rows:=σ.rows + 1,opn:=o }
  have op2:=fun (a b:Option AV)=>law_get (S:=tkS st pl (w :: r) a b) (j:=0) (σ:=σ1) (v:=strsV σ.opn) rfl c2 x3 rfl
  have tb:(aTst (aOp2 aIn (aOp2 aIx (aVar 1) (aC (.int 0))) (aCall F__law_blocks [] aNil))) S0 k2 = some (decide (w ∈ blocksL),k2):=by
    rw [ev_tst,ev_op2,i0,op2K_some,ev_call,ev_nil,argsK_some,List.append_nil,blocks_ok,op2J_some]
    rw [show aIn (.str w) (.nod .lst [.str "lock",.str "hold",.str "bind",.str "loop",.str "try",.str "when"]) k2 = _ from in_lst blocksL,tstK_some]
  obtain ⟨k3,e3,c3,kk3⟩:∃ k3,(aIfS (aTst (aOp2 aIn (aOp2 aIx (aVar 1) (aC (.int 0))) (aCall F__law_blocks [] aNil))) (aAsg (aOp2 aAdd (aOp2 aIx (aVar 0) (aC (.str "open"))) (aArgs (mkF .lst) (aCons (aOp2 aIx (aVar 1) (aC (.int 0))) aNil))) (gIx (aVar 0) (aC (.str "open")))) aPass) S0 k2 = some (.nx S0,k3) ∧ k3.get st = some (lawC σ3) ∧ Kp [st] h k3:=by
    by_cases hb:w ∈ blocksL
    · rw [decide_eq_true hb] at tb
      have ho:o = σ.opn ++ [w]:=if_pos hb
      have s3:=law_set (S:=S0) (j:=0) (i:=3) (v:=strsV (σ.opn ++ [w])) rfl c2 (by decide) rfl
      have e:({ σ with rows:=σ.rows + 1,opn:=σ.opn ++ [w] }:RS) = σ3:=by show _ = ({ σ with rows:=σ.rows + 1,opn:=o }:RS); rw [ho]
      refine ⟨k2.put st (lawC { σ with rows:=σ.rows + 1,opn:=σ.opn ++ [w] }),?_,by rw [← e]; exact put_own c2,kk2.trans (Kp.put (by rw [c2]; rfl) (by simp))⟩
      rw [ev_if,tb,ifK_t,ev_asg,ev_op2,op2 none none,op2K_some,ev_args,ev_cons,i0,consK_some,ev_nil,consJ_some,argsK_some,mkF_ok (sz _ (by simp)),op2J_some]
      rw [show aAdd (strsV σ.opn) (.nod .lst [.str w]) k2 = some (strsV (σ.opn ++ [w]),k2) by
        unfold strsV
        rw [add_nod,mkF_ok (sz _ (by simp; omega)),List.map_append]
        rfl]
      show asgJ ((gIx (aVar 0) (aC (.str "open"))) _ S0 k2) = _
      rw [s3]
      rfl
    · rw [decide_eq_false hb] at tb
      have ho:o = σ.opn:=if_neg hb
      have e:σ1 = σ3:=by show _ = ({ σ with rows:=σ.rows + 1,opn:=o }:RS); rw [ho]
      exact ⟨k2,by rw [ev_if,tb,ifK_f]; rfl,by rw [← e]; exact c2,kk2⟩
  rw [seq_step e3]
  have op3:=law_get (S:=S0) (j:=0) (σ:=σ3) (v:=strsV o) rfl c3 x3 rfl
  have t4:(aTst (aOp2 aGt (aArgs (one aLenV) (aCons (aOp2 aIx (aVar 0) (aC (.str "open"))) aNil)) (aC (.int 4)))) S0 k3 = some (decide (4 < o.length),k3):=by
    have l:aLenV (strsV o) k3 = some (.int (o.length:Nat),k3):=by simp [strsV]
    have e:decide ((4:Int) < (o.length:Int)) = decide (4 < o.length):=decide_eq_decide.mpr (by omega)
    rw [ev_tst,ev_op2,ev_args,ev_cons,op3,consK_some,ev_nil,consJ_some,argsK_some,ev_one,l,op2K_some,ev_c,op2J_some,ev_gt,e,tstK_some]
  by_cases h5:4 < o.length
  · rw [decide_eq_true h5] at t4
    refine ⟨false,k3,?_,kk3,by rw [sbase,hrow,if_pos rfl,if_pos h5]⟩
    rw [seq_rt (v:=.bl false) (h':=k3) (by rw [ev_if,t4]; rfl)]
    rfl
  rw [decide_eq_false h5] at t4
  rw [seq_step (s':=S0) (h':=k3) (by rw [ev_if,t4]; rfl)]
  have to:(aTst (aOp2 aIn (aOp2 aIx (aVar 1) (aC (.int 0))) (aArgs (mkF .tup) (aCons (aC (.str "start")) (aCons (aC (.str "join")) aNil))))) S0 k3 = some (decide (w ∈ othersL),k3):=by
    rw [ev_tst,ev_op2,i0,op2K_some]
    simp only [ev_args,ev_cons,ev_c,consK_some,ev_nil,consJ_some,argsK_some]
    rw [mkF_ok (sz _ (by simp)),op2J_some]
    rw [show aIn (.str w) (.nod .tup [.str "start",.str "join"]) k3 = _ from in_tup othersL,tstK_some]
  by_cases h6:w ∈ othersL
  · rw [decide_eq_true h6] at to
    obtain ⟨t,rfl⟩:∃ t,r = [t]:=by
      have na:w ∉ aloneL:=by
        have:∀ z ∈ othersL,z ∉ aloneL:=by decide +kernel
        exact this w h6
      unfold rowB at hrow
      dsimp only at hrow
      rw [if_neg na] at hrow
      match r,hrow with
      | [t],_=>exact ⟨t,rfl⟩
    let σ4:RS:={ σ with rows:=σ.rows + 1,opn:=o,asked:=σ.asked ++ [(pl,σ.name,t)] }
    have hs:stepR σ [w,t] pl = some σ4:=by
      rw [sbase,hrow,if_pos rfl,if_neg h5,if_pos h6]
      rfl
    have i1:∀ (a b:Option AV) (o:AH),(aOp2 aIx (aVar 1) (aC (.int 1))) (tkS st pl [w,t] a b) o = some (.str t,o):=fun a b o=>by
      rw [ev_op2,v1,op2K_some,ev_c,op2J_some]
      unfold strsV
      rw [ix_nod]
      rfl
    have nm3:=law_get (S:=S0) (j:=0) (σ:=σ3) (v:=.str σ.name) rfl c3 x0 rfl
    let S2:=tkS st pl [w,t] none (some (askV (pl,σ.name,t)))
    have f1:(aAsg (aArgs (mkF .tup) (aCons (aVar 2) (aCons (aOp2 aIx (aVar 0) (aC (.str "name"))) (aCons (aOp2 aIx (aVar 1) (aC (.int 1))) aNil)))) (gNm 4)) S0 k3 = some (.nx S2,k3):=by
      rw [ev_asg,ev_args,ev_cons,show (aVar 2) S0 k3 = some (.int (pl:Nat),k3) from rfl,consK_some,ev_cons,nm3,consK_some,ev_cons,i1,consK_some,ev_nil,consJ_some,consJ_some,consJ_some,argsK_some,mkF_ok (sz _ (by simp))]
      rfl
    have as3:=law_get (S:=S2) (j:=0) (σ:=σ3) (v:=.nod .lst (σ.asked.map askV)) rfl c3 x4 rfl
    have s4:=law_set (S:=S2) (j:=0) (i:=4) (v:=.nod .lst ((σ.asked ++ [(pl,σ.name,t)]).map askV)) rfl c3 (by decide) rfl
    have f2:(aAsg (aOp2 aAdd (aOp2 aIx (aVar 0) (aC (.str "asked"))) (aArgs (mkF .lst) (aCons (aVar 4) aNil))) (gIx (aVar 0) (aC (.str "asked")))) S2 k3 = some (.nx S2,k3.put st (lawC σ4)):=by
      rw [ev_asg,ev_op2,as3,op2K_some,ev_args,ev_cons,show (aVar 4) S2 k3 = some (askV (pl,σ.name,t),k3) from rfl,consK_some,ev_nil,consJ_some,argsK_some,mkF_ok (sz _ (by simp)),op2J_some]
      rw [show aAdd (.nod .lst (σ.asked.map askV)) (.nod .lst [askV (pl,σ.name,t)]) k3 = some (.nod .lst ((σ.asked ++ [(pl,σ.name,t)]).map askV),k3) by
        have z:σ.asked.length + 1 ≤ sizeLine:=by
          rw [sizeLine_eq]
          omega
        rw [add_nod,mkF_ok (by simp; omega),List.map_append]
        rfl]
      show asgJ ((gIx (aVar 0) (aC (.str "asked"))) _ S2 k3) = _
      rw [s4]
      rfl
    refine ⟨true,k3.put st (lawC σ4),?_,kk3.trans (Kp.put (by rw [c3]; rfl) (by simp)),by rw [hs]; exact ⟨rfl,put_own c3⟩⟩
    rw [seq_step (s':=S2) (h':=k3.put st (lawC σ4)) (by rw [ev_if,to,ifK_t,seq_step f1,f2])]
    rfl
  · rw [decide_eq_false h6] at to
    have hs:stepR σ (w :: r) pl = some σ3:=by
      rw [sbase,hrow,if_pos rfl,if_neg h5,if_neg h6]
    refine ⟨true,k3,?_,kk3,by rw [hs]; exact ⟨rfl,c3⟩⟩
    rw [seq_step (s':=S0) (h':=k3) (by rw [ev_if,to,ifK_f]; rfl)]
    rfl
end
end K03
end
section
namespace K03
open PySem PySem.Spec PyProof.Rows L2 Rp K03
theorem xseq_step {A B:ASX} {s s':LS} {h h':AH} (e:A s h = some (.ar (.nx s'),h')):xSeq A B s h = B s' h':=by rw [ev_xseq,e]; rfl
theorem xseq_ex {A B:ASX} {s s':LS} {h h':AH} {c:Nat} {v:AV} (e:A s h = some (.ex c v s',h')):xSeq A B s h = some (.ex c v s',h'):=by rw [ev_xseq,e]; rfl
theorem xseq_rt {A B:ASX} {s:LS} {h h':AH} {v:AV} (e:A s h = some (.ar (.rt v),h')):xSeq A B s h = some (.ar (.rt v),h'):=by rw [ev_xseq,e]; rfl
theorem get_newx {h h':AH} {n:Nat} {c:Kd × List AV} (e:h.new c = h') (hn:h.next = n):h'.get n = some c:=by
  subst e
  subst hn
  exact new_own
theorem numlen (i:Int) (b:i.natAbs < 10 ^ 30):(Str.ofString (toString i)).length ≤ 31:=by
  have hn:∀ n:Nat,n < 10 ^ 30 → (Nat.repr n).toList.length ≤ 30:=fun n h=>by
    rw [Nat.toList_repr]
    exact (Nat.length_toDigits_le_iff (by decide) (by decide)).mpr h
  show (Str.ofString (Int.repr i)).length ≤ 31
  rw [PyProof.Rows.ofString_length]
  cases i with
  | ofNat m =>
    have:=hn m (by simpa using b)
    show (Nat.repr m).toList.length ≤ 31
    omega
  | negSucc m =>
    have:=hn (m + 1) (by simpa using b)
    show ("-" ++ Nat.repr (m + 1)).toList.length ≤ 31
    rw [String.toList_append,List.length_append]
    have : "-".toList.length = 1:=by decide
    omega
theorem loglen {i:Int} (b:i.natAbs < 10 ^ 30):i.natAbs.log2 < 1920:=by
  by_cases z:i.natAbs = 0
  · rw [z]; decide
  · exact (Nat.log2_lt z).mpr (Nat.lt_of_lt_of_le b (by decide +kernel))
theorem okArg_nat {k:Nat} (h:k ≤ 100000):okArg (.int (k:Nat)) = true:=by
  have b:((k:Nat):Int).natAbs < 10 ^ 30:=by
    have:(100000:Nat) < 10 ^ 30:=by decide
    simp
    omega
  have l:=numlen _ b
  have g:=loglen b
  unfold okArg
  rw [Bool.and_eq_true]
  refine ⟨decide_eq_true g,decide_eq_true ?_⟩
  show (Str.ofString (toString ((k:Nat):Int))).length ≤ 1000000
  omega
def askRow (pl:Nat) (nm w:Str) (r:List Str):List AV:=if w ∈ othersL then [.nod .tup [.int (pl:Nat),.str nm,.str w,.str (r.headD "")]] else []
def nestRow (w:Str) (k:Nat):List AV:=if w ∈ blocksL then [.nod .tup [.str w,.int (k:Nat),.non]] else []
def tvR:List Str → AV
  | []=>.non
  | t :: _=>.str t
section
variable {h:AH} {r f a n c pl:Nat} {nm:Str} {ks:List Key} {fs A N ss:List AV} {rows:Nat} {w:Str} {q:List Str}
theorem plainX_ok (R:Rd h r f a n c nm ks fs A N ss rows) (hz:∀ x ∈ w :: q,x.length ≤ 100000) (hr:q.length ≤ 16000) (hA:A.length ≤ 16000) (hs:ss.length ≤ 1000) (hN4:N.length ≤ 4) (hp:pl ≤ 100000) :
    if rowB (w :: q) = true ∧ ¬ (w ∈ blocksL ∧ N.length = 4) then
      ∃ h',F_Reader_plainX [.ref r,strsV (w :: q),.int (pl:Nat)] h = some (.ok .non,h') ∧ Rd h' r f a n c nm ks fs (A ++ askRow pl nm w q) (N ++ nestRow w ss.length) (ss ++ [.ref h.next]) rows ∧ h'.get h.next = some (.lst,[.str w,tvR q]) ∧ h'.next = h.next + 1 ∧ Kp [a,n,c] h h'
    else F_Reader_plainX [.ref r,strsV (w :: q),.int (pl:Nat)] h = some (.ex 0 (.int (pl:Nat)),h):=by
  let S0:LS:=[some (.ref r),some (strsV (w :: q)),some (.int (pl:Nat)),none,none,none]
  let S1:LS:=[some (.ref r),some (strsV (w :: q)),some (.int (pl:Nat)),some (.str w),some (strsV q),none]
  let S2:LS:=[some (.ref r),some (strsV (w :: q)),some (.int (pl:Nat)),some (.str w),some (strsV q),some (.ref c)]
  have run:F_Reader_plainX [.ref r,strsV (w :: q),.int (pl:Nat)] h = fnXK (B_Reader_plainX S0 h):=by
    simp only [F_Reader_plainX]
    rw [evx_fn (by rfl)]
    rfl
  have tg:(aNot (aTst (aCall F_is_row [] (aCons (aVar 1) aNil)))) S0 h = some (!rowB (w :: q),h):=by
    rw [ev_not,ev_tst,ev_call,ev_cons,show (aVar 1) S0 h = some (strsV (w :: q),h) from rfl,consK_some,ev_nil,consJ_some,argsK_some,List.append_nil]
    rw [show F_is_row [strsV (w :: q)] h = _ from isrow_b hz hr,tstK_some,notK_some]
  have rz:∀ S:LS,S[2]? = some (some (.int (pl:Nat))) → ∀ o,xRaise 0 (aVar 2) S o = some (.ex 0 (.int (pl:Nat)) S,o):=fun S hS o=>ev_xraise (by rw [ev_var,hS]; rfl) (okArg_nat hp)
  cases hrow:rowB (w :: q) with
  | false =>
    rw [if_neg (by simp)]
    rw [hrow] at tg
    rw [run,B_Reader_plainX,xseq_ex (c:=0) (v:=.int (pl:Nat)) (s':=S0) (h':=h)]
    · rfl
    · rw [ev_xif]
      show xifK ((aNot _ S0 h).bind _) _ _ S0 = _
      rw [tg]
      exact rz S0 rfl h
  | true =>
  rw [hrow] at tg
  have b0:(xIf (lfT (aNot (aTst (aCall F_is_row [] (aCons (aVar 1) aNil))))) (xRaise 0 (aVar 2)) (lfS aPass)) S0 h = some (.ar (.nx S0),h):=by
    rw [ev_xif]
    show xifK ((aNot _ S0 h).bind _) _ _ S0 = _
    rw [tg]
    rfl
  have b1:(lfS (aAsg (aVar 1) (gStar 2 1 (gsCons (gNm 3) (gsCons (gNm 4) gsNil))))) S0 h = some (.ar (.nx S1),h):=by
    have h16:q.length ≤ 16383:=by omega
    have e1:List.drop q.length (q.map AV.str) = []:=List.drop_eq_nil_of_le (by simp)
    have e2:List.take q.length (q.map AV.str) = q.map AV.str:=List.take_of_length_le (by simp)
    have:(aAsg (aVar 1) (gStar 2 1 (gsCons (gNm 3) (gsCons (gNm 4) gsNil)))) S0 h = some (.nx S1,h):=by
      rw [ev_asg,show (aVar 1) S0 h = some (.nod .lst (.str w :: q.map .str),h) from rfl]
      simp [ev_gStar,h16,e1,e2]
      rfl
    rw [ev_lfS,this]
    rfl
  have b2:(lfS (aAsg (aOp2 aIx (aFld 0 0 (aVar 0)) (aFld 0 2 (aVar 0))) (gNm 5))) S1 h = some (.ar (.nx S2),h):=by
    have:(aOp2 aIx (aFld 0 0 (aVar 0)) (aFld 0 2 (aVar 0))) S1 h = some (.ref c,h):=by
      simp [S1,R.hr,R.hf,R.hk]
    rw [ev_lfS,ev_asg,this]
    rfl
  have ib:(aTst (aOp2 aIn (aVar 3) (aC (.nod .tup [(.str "lock"),(.str "hold"),(.str "bind"),(.str "loop"),(.str "try"),(.str "when")])))) S2 h = some (decide (w ∈ blocksL),h):=by
    rw [ev_tst,ev_op2,show (aVar 3) S2 h = some (.str w,h) from rfl,op2K_some,ev_c,op2J_some]
    rw [show aIn (.str w) (.nod .tup [.str "lock",.str "hold",.str "bind",.str "loop",.str "try",.str "when"]) h = _ from in_tup blocksL,tstK_some]
  have ln:(aTst (aOp2 aEq (aArgs (one aLenV) (aCons (aFld 0 4 (aVar 0)) aNil)) (aC (.int 4)))) S2 h = some (decide (N.length = 4),h):=by
    have e:decide ((N.length:Int) = 4) = decide (N.length = 4):=decide_eq_decide.mpr (by omega)
    have:(aFld 0 4 (aVar 0)) S2 h = some (.ref n,h):=by simp [S2,R.hr]
    have l:aLenV (.ref n) h = some (.int (N.length:Nat),h):=by simp [R.hn]
    rw [ev_tst,ev_op2,ev_args,ev_cons,this,consK_some,ev_nil,consJ_some,argsK_some,ev_one,l,op2K_some,ev_c,op2J_some,eq_ii,e,tstK_some]
  by_cases hb:w ∈ blocksL ∧ N.length = 4
  · rw [if_neg (by simp [hb])]
    rw [run,B_Reader_plainX,xseq_step b0,xseq_step b1,xseq_step b2,xseq_ex (c:=0) (v:=.int (pl:Nat)) (s':=S2) (h':=h)]
    · rfl
    · rw [decide_eq_true hb.1] at ib
      rw [decide_eq_true hb.2] at ln
      rw [ev_xif]
      show xifK ((aTst _ S2 h).bind _) _ _ S2 = _
      rw [ib]
      show (xSeq _ _) S2 h = _
      refine xseq_ex ?_
      rw [ev_xif]
      show xifK ((aTst _ S2 h).bind _) _ _ S2 = _
      rw [ln]
      exact rz S2 rfl h
  rw [if_pos ⟨rfl,hb⟩]
  obtain ⟨h1,e1,R1,n1,k1⟩:∃ h1,(xIf (lfT (aTst (aOp2 aIn (aVar 3) (aC (.nod .tup [(.str "lock"),(.str "hold"),(.str "bind"),(.str "loop"),(.str "try"),(.str "when")]))))) (xSeq (xIf (lfT (aTst (aOp2 aEq (aArgs (one aLenV) (aCons (aFld 0 4 (aVar 0)) aNil)) (aC (.int 4))))) (xRaise 0 (aVar 2)) (lfS aPass))
    (lfS (aExp (aBM "list" aAppend (aFld 0 4 (aVar 0)) (aCons (aArgs (mkF .tup) (aCons (aVar 3) (aCons (aArgs (one aLenV) (aCons (aVar 5) aNil)) (aCons (aC .non) aNil)))) aNil))))) (lfS aPass)) S2 h = some (.ar (.nx S2),h1) ∧ Rd h1 r f a n c nm ks fs A (N ++ nestRow w ss.length) ss rows ∧ h1.next = h.next ∧ Kp [a,n,c] h h1:=by
    by_cases hw:w ∈ blocksL
    · have hn4:¬ N.length = 4:=fun e=>hb ⟨hw,e⟩
      rw [decide_eq_true hw] at ib
      rw [decide_eq_false hn4] at ln
      have hd:isDs 59 (N ++ [AV.nod .tup [.str w,.int (ss.length:Nat),.non]]) = true:=isDs_app R.hN rfl
      have en:nestRow w ss.length = [AV.nod .tup [.str w,.int (ss.length:Nat),.non]]:=if_pos hw
      refine ⟨h.put n (.lst,N ++ [AV.nod .tup [.str w,.int (ss.length:Nat),.non]]),?_,by rw [en]; exact R.setN _ hd,by simp,Kp.put (by rw [R.hn]; rfl) (by simp)⟩
      rw [ev_xif]
      show xifK ((aTst _ S2 h).bind _) _ _ S2 = _
      rw [ib]
      show (xSeq _ _) S2 h = _
      have p0:(xIf (lfT (aTst (aOp2 aEq (aArgs (one aLenV) (aCons (aFld 0 4 (aVar 0)) aNil)) (aC (.int 4))))) (xRaise 0 (aVar 2)) (lfS aPass)) S2 h = some (.ar (.nx S2),h):=by
        rw [ev_xif]
        show xifK ((aTst _ S2 h).bind _) _ _ S2 = _
        rw [ln]
        rfl
      rw [xseq_step p0]
      have zN:N.length < sizeLine:=by rw [sizeLine_eq]; omega
      have z3:3 ≤ sizeLine:=sz _ (by omega)
      have:(aExp (aBM "list" aAppend (aFld 0 4 (aVar 0)) (aCons (aArgs (mkF .tup) (aCons (aVar 3) (aCons (aArgs (one aLenV) (aCons (aVar 5) aNil)) (aCons (aC .non) aNil)))) aNil))) S2 h = some (.nx S2,h.put n (.lst,N ++ [AV.nod .tup [.str w,.int (ss.length:Nat),.non]])):=by
        simp [S2,R.hr,R.hn,R.hc,mkF,z3,appR_lst zN]
      rw [ev_lfS,this]
      rfl
    · rw [decide_eq_false hw] at ib
      have en:nestRow w ss.length = []:=if_neg hw
      refine ⟨h,?_,by rw [en,List.append_nil]; exact R,rfl,.refl⟩
      rw [ev_xif]
      show xifK ((aTst _ S2 h).bind _) _ _ S2 = _
      rw [ib]
      rfl
  have io:(aTst (aOp2 aIn (aVar 3) (aC (.nod .tup [(.str "start"),(.str "join")])))) S2 h1 = some (decide (w ∈ othersL),h1):=by
    rw [ev_tst,ev_op2,show (aVar 3) S2 h1 = some (.str w,h1) from rfl,op2K_some,ev_c,op2J_some]
    rw [show aIn (.str w) (.nod .tup [.str "start",.str "join"]) h1 = _ from in_tup othersL,tstK_some]
  obtain ⟨h2,e2,R2,n2,k2⟩:∃ h2,(aIfS (aTst (aOp2 aIn (aVar 3) (aC (.nod .tup [(.str "start"),(.str "join")])))) (aExp (aBM "list" aAppend (aFld 0 1 (aVar 0)) (aCons (aArgs (mkF .tup) (aCons (aVar 2) (aCons (aFld 0 2 (aVar 0)) (aCons (aVar 3) (aCons (aOp2 aIx (aVar 4) (aC (.int 0))) aNil))))) aNil))) aPass) S2 h1 = some (.nx S2,h2) ∧ Rd h2 r f a n c nm ks fs (A ++ askRow pl nm w q) (N ++ nestRow w ss.length) ss rows ∧ h2.next = h.next ∧ Kp [a,n,c] h h2:=by
    by_cases hw:w ∈ othersL
    · rw [decide_eq_true hw] at io
      obtain ⟨t,rfl⟩:∃ t,q = [t]:=by
        have na:w ∉ aloneL:=by
          have:∀ z ∈ othersL,z ∉ aloneL:=by decide +kernel
          exact this w hw
        unfold rowB at hrow
        dsimp only at hrow
        rw [if_neg na] at hrow
        match q,hrow with
        | [t],_=>exact ⟨t,rfl⟩
      have en:askRow pl nm w [t] = [AV.nod .tup [.int (pl:Nat),.str nm,.str w,.str t]]:=if_pos hw
      refine ⟨h1.put a (.lst,A ++ [AV.nod .tup [.int (pl:Nat),.str nm,.str w,.str t]]),?_,by rw [en]; exact R1.setA _,by simp [n1],k1.trans (Kp.put (by rw [R1.ha]; rfl) (by simp))⟩
      have zA:A.length < sizeLine:=by rw [sizeLine_eq]; omega
      have z4:4 ≤ sizeLine:=sz _ (by omega)
      have ix:(aOp2 aIx (aVar 4) (aC (.int 0))) S2 h1 = some (.str t,h1):=by
        rw [ev_op2,show (aVar 4) S2 h1 = some (strsV [t],h1) from rfl,op2K_some,ev_c,op2J_some]
        unfold strsV
        rw [ix_nod]
        rfl
      have fa:(aFld 0 1 (aVar 0)) S2 h1 = some (.ref a,h1):=by simp [S2,R1.hr]
      have fn:(aFld 0 2 (aVar 0)) S2 h1 = some (.str nm,h1):=by simp [S2,R1.hr]
      have ar:(aCons (aArgs (mkF .tup) (aCons (aVar 2) (aCons (aFld 0 2 (aVar 0)) (aCons (aVar 3) (aCons (aOp2 aIx (aVar 4) (aC (.int 0))) aNil))))) aNil) S2 h1 = some ([AV.nod .tup [.int (pl:Nat),.str nm,.str w,.str t]],h1):=by
        rw [ev_cons,ev_args,ev_cons,show (aVar 2) S2 h1 = some (.int (pl:Nat),h1) from rfl,consK_some,ev_cons,fn,consK_some,ev_cons,show (aVar 3) S2 h1 = some (.str w,h1) from rfl,consK_some,ev_cons,ix,consK_some,ev_nil,consJ_some,consJ_some,consJ_some,consJ_some,argsK_some,mkF_ok (sz _ (by simp)),consK_some,ev_nil,consJ_some]
      rw [ev_if,io,ifK_t,ev_exp,ev_bm,fa]
      simp only [bmK_ref]
      rw [R1.ha,bmC_lst,ar,bmJ_some,append_ref,R1.ha,appR_lst zA]
      rfl
    · rw [decide_eq_false hw] at io
      have en:askRow pl nm w q = []:=if_neg hw
      exact ⟨h1,by rw [ev_if,io]; rfl,by rw [en,List.append_nil]; exact R1,n1,k1⟩
  obtain ⟨h3,hh3⟩:∃ y,h2.new (.lst,[.str w,tvR q]) = y:=⟨_,rfl⟩
  have R3:Rd h3 r f a n c nm ks fs (A ++ askRow pl nm w q) (N ++ nestRow w ss.length) ss rows:=hh3 ▸ R2.new _
  have g3:h3.get h.next = some (.lst,[.str w,tvR q]):=get_newx hh3 n2
  have hcl:c < h.next:=AH.lt R.hc
  obtain ⟨h4,hh4⟩:∃ y,h3.put c (.lst,ss ++ [.ref h.next]) = y:=⟨_,rfl⟩
  refine ⟨h4,?_,hh4 ▸ R3.setC _,hh4 ▸ put_oth g3 R3.hc (by omega),by rw [← hh4]; simp [← hh3,n2],(k2.trans (hh3 ▸ Kp.new)).trans (hh4 ▸ Kp.put (by rw [R3.hc]; rfl) (by simp))⟩
  have zs:ss.length < sizeLine:=by rw [sizeLine_eq]; omega
  have tv:(aIf (aTst (aOp2 aNe (aVar 4) (aArgs (mkF .lst) aNil))) (aOp2 aIx (aVar 4) (aC (.int 0))) (aC .non)) S2 h2 = some (tvR q,h2):=by
    have ne:(aTst (aOp2 aNe (aVar 4) (aArgs (mkF .lst) aNil))) S2 h2 = some (!decide (q = []),h2):=by
      have d:=strs_d q
      rw [ev_tst,ev_op2,show (aVar 4) S2 h2 = some (strsV q,h2) from rfl,op2K_some,ev_args,ev_nil,argsK_some,mkF_ok (Nat.zero_le _),op2J_some]
      have:aNe (strsV q) (.nod .lst []) h2 = some (.bl (!decide (q = [])),h2):=by
        have e:=eqvAll_strs q []
        unfold strsV
        simp only [aNe,nrm,isD,d]
        simp [toD,toDs,strs_toD,PyData.eqv,isDs]
        first
          | (have e':PyData.eqvAll (q.map PyData.str) [] = decide (q = []):=e
             rw [e'])
          | skip
      rw [this,tstK_some]
    rw [ev_ife,ne]
    cases q with
    | nil=>rfl
    | cons t q' =>
      rw [decide_eq_false (by simp)]
      show (aOp2 aIx (aVar 4) (aC (.int 0))) S2 h2 = _
      rw [ev_op2,show (aVar 4) S2 h2 = some (strsV (t :: q'),h2) from rfl,op2K_some,ev_c,op2J_some]
      unfold strsV
      rw [ix_nod,List.map_cons,ixR_lst,atI_0]
      rfl
  have b4:(aExp (aBM "list" aAppend (aVar 5) (aCons (aArgs (mkM .lst) (aCons (aVar 3) (aCons (aIf (aTst (aOp2 aNe (aVar 4) (aArgs (mkF .lst) aNil))) (aOp2 aIx (aVar 4) (aC (.int 0))) (aC .non)) aNil))) aNil))) S2 h2 = some (.nx S2,h4):=by
    have ar:(aCons (aArgs (mkM .lst) (aCons (aVar 3) (aCons (aIf (aTst (aOp2 aNe (aVar 4) (aArgs (mkF .lst) aNil))) (aOp2 aIx (aVar 4) (aC (.int 0))) (aC .non)) aNil))) aNil) S2 h2 = some ([.ref h.next],h3):=by
      rw [ev_cons,ev_args,ev_cons,show (aVar 3) S2 h2 = some (.str w,h2) from rfl,consK_some,ev_cons,tv,consK_some,ev_nil,consJ_some,consJ_some,argsK_some,mkM_ok (sz _ (by simp)),n2,hh3,consK_some,ev_nil,consJ_some]
    rw [ev_exp,ev_bm,show (aVar 5) S2 h2 = some (.ref c,h2) from rfl]
    simp only [bmK_ref]
    rw [R2.hc,bmC_lst,ar,bmJ_some,append_ref,R3.hc,appR_lst zs,hh4]
    rfl
  rw [run,B_Reader_plainX,xseq_step b0,xseq_step b1,xseq_step b2,xseq_step e1]
  rw [ev_lfS,seq_step e2,b4]
  rfl
end
end K03
end
section
namespace K03
open PySem PySem.Spec PyProof.Rows L2 Rp K03
def otV:Option Nat → AV
  | none=>.non
  | some k=>.int (k:Nat)
section
variable {h:AH} {r f a n c pl:Nat} {nm:Str} {ks:List Key} {fs A N N0 ss:List AV} {rows at_ s:Nat} {w:Str} {v:AV} {o:Option Nat}
def tuS (r pl:Nat) (a b e g:Option AV):LS:=[some (.ref r),some (.int (pl:Nat)),a,b,e,g]
theorem turnX_run:F_Reader_turnX [.ref r,.int (pl:Nat)] h = fnXK (B_Reader_turnX (tuS r pl none none none none) h):=by
  simp only [F_Reader_turnX]
  rw [evx_fn (by rfl)]
  rfl
theorem ne_cell0 (hn:h.get n = some (.lst,N)) (hd:isDs 59 N = true):aNe (.ref n) (.nod .lst []) h = some (.bl (!decide (N = [])),h):=by
  have e:isD 59 (.nod .lst []) = true:=rfl
  simp [aNe,nrm,hn,isD,hd,isDs,toD,toDs,PyData.eqv]
  cases N with
  | nil=>simp [toDs,PyData.eqvAll]
  | cons x xs=>simp [toDs,PyData.eqvAll]
theorem turn_look (R:Rd h r f a n c nm ks fs A N ss rows) {W:Str} {k:Int} {O:AV} (hN:(N = [] ∧ W = ("" : Str) ∧ k = 0 ∧ O = .non) ∨ ∃ N0,N = N0 ++ [.nod .tup [.str W,.int k,O]]) :
    (lfS (aAsg (aIf (aTst (aOp2 aNe (aFld 0 4 (aVar 0)) (aArgs (mkF .lst) aNil))) (aOp2 aIx (aFld 0 4 (aVar 0)) (aOp1 aNeg (aC (.int 1)))) (aArgs (mkF .tup) (aCons (aC (.str "")) (aCons (aC (.int 0)) (aCons (aC .non) aNil))))) (gSq 3 (gsCons (gNm 2) (gsCons (gNm 3) (gsCons (gNm 4) gsNil)))))) (tuS r pl none none none none) h = some (.ar (.nx (tuS r pl (some (.str W)) (some (.int k)) (some O) none)),h):=by
  let S0:=tuS r pl none none none none
  have fn:(aFld 0 4 (aVar 0)) S0 h = some (.ref n,h):=by simp [S0,tuS,R.hr]
  have t:(aTst (aOp2 aNe (aFld 0 4 (aVar 0)) (aArgs (mkF .lst) aNil))) S0 h = some (!decide (N = []),h):=by
    rw [ev_tst,ev_op2,fn,op2K_some,ev_args,ev_nil,argsK_some,mkF_ok (Nat.zero_le _),op2J_some,ne_cell0 R.hn R.hN,tstK_some]
  have val:(aIf (aTst (aOp2 aNe (aFld 0 4 (aVar 0)) (aArgs (mkF .lst) aNil))) (aOp2 aIx (aFld 0 4 (aVar 0)) (aOp1 aNeg (aC (.int 1)))) (aArgs (mkF .tup) (aCons (aC (.str "")) (aCons (aC (.int 0)) (aCons (aC .non) aNil))))) S0 h = some (.nod .tup [.str W,.int k,O],h):=by
    rcases hN with ⟨e,rfl,rfl,rfl⟩ | ⟨N0,rfl⟩
    · rw [decide_eq_true e] at t
      rw [ev_ife,t,Bool.not_true,ifeK_f]
      simp only [ev_args,ev_cons,ev_c,consK_some,ev_nil,consJ_some,argsK_some]
      rw [mkF_ok (sz _ (by simp))]
    · rw [decide_eq_false (by simp)] at t
      rw [ev_ife,t,Bool.not_false,ifeK_t,ev_op2,fn,op2K_some,show (aOp1 aNeg (aC (.int 1))) S0 h = some (.int (-1),h) from rfl,op2J_some,ix_ref,R.hn,ixR_lst,atI_last]
      rfl
  rw [ev_lfS,ev_asg,val]
  rfl
theorem turn_cond {W:Str} {k:Int} {O:AV} {o:AH} (hO:∃ b,aIsNot O .non o = some (.bl b,o) ∧ b = !decide (O = .non)):(aOr (aTst (aOp2 aNotIn (aVar 2) (aC (.nod .tup [(.str "try"),(.str "when")])))) (aTst (aOp2 aIsNot (aVar 4) (aC .non)))) (tuS r pl (some (.str W)) (some (.int k)) (some O) none) o = some (!decide (W ∈ (["try", "when"]:List Str)) || !decide (O = .non),o):=by
  let S:=tuS r pl (some (.str W)) (some (.int k)) (some O) none
  have t1:(aTst (aOp2 aNotIn (aVar 2) (aC (.nod .tup [(.str "try"),(.str "when")])))) S o = some (!decide (W ∈ (["try", "when"]:List Str)),o):=by
    rw [ev_tst,ev_op2,show (aVar 2) S o = some (.str W,o) from rfl,op2K_some,ev_c,op2J_some]
    rw [show aNotIn (.str W) (.nod .tup [.str "try",.str "when"]) o = _ from notIn_tup (["try", "when"]:List Str),tstK_some]
  obtain ⟨b,e,hb⟩:=hO
  have t2:(aTst (aOp2 aIsNot (aVar 4) (aC .non))) S o = some (!decide (O = .non),o):=by
    rw [ev_tst,ev_op2,show (aVar 4) S o = some (O,o) from rfl,op2K_some,ev_c,op2J_some,e,tstK_some,hb]
  show (aOr _ _) S o = _
  rw [ev_or,t1]
  cases decide (W ∈ (["try", "when"]:List Str)) with
  | false=>rfl
  | true=>rw [Bool.not_true,orK_f,t2]; rfl
theorem turnX_no (R:Rd h r f a n c nm ks fs A N ss rows) (hp:pl ≤ 100000) {W:Str} {k:Nat} (hN:(N = [] ∧ W = ("" : Str) ∧ k = 0 ∧ o = none) ∨ ∃ N0,N = N0 ++ [.nod .tup [.str W,.int (k:Nat),otV o]]) (hc:¬ ((W = ("try" : Str) ∨ W = ("when" : Str)) ∧ o = none)) :
    F_Reader_turnX [.ref r,.int (pl:Nat)] h = some (.ex 0 (.int (pl:Nat)),h):=by
  have lk:=turn_look (pl:=pl) R (W:=W) (k:=(k:Int)) (O:=otV o) (by
    rcases hN with ⟨e1,e2,e3,e4⟩ | e
    · exact .inl ⟨e1,e2,by rw [e3]; rfl,by rw [e4]; rfl⟩
    · exact .inr e)
  have hO:∃ b,aIsNot (otV o) .non h = some (.bl b,h) ∧ b = !decide (otV o = .non):=by
    cases o with
    | none=>exact ⟨false,by simp [otV],by simp [otV]⟩
    | some k=>exact ⟨true,by simp [otV],by simp [otV]⟩
  have cd:=turn_cond (r:=r) (pl:=pl) (W:=W) (k:=(k:Int)) hO
  have ct:(!decide (W ∈ (["try", "when"]:List Str)) || !decide (otV o = .non)) = true:=by
    by_cases hw:W ∈ (["try", "when"]:List Str)
    · have ho:o ≠ none:=fun e=>hc ⟨by simpa using hw,e⟩
      cases o with
      | none=>exact absurd rfl ho
      | some k=>simp [otV]
    · rw [decide_eq_false hw]
      rfl
  rw [ct] at cd
  rw [turnX_run,B_Reader_turnX,xseq_step lk,xseq_ex (c:=0) (v:=.int (pl:Nat)) (s':=tuS r pl (some (.str W)) (some (.int (k:Nat))) (some (otV o)) none) (h':=h)]
  · rfl
  · rw [ev_xif]
    show xifK ((aOr _ _ _ h).bind _) _ _ _ = _
    rw [cd]
    exact ev_xraise (show (aVar 1) (tuS r pl (some (.str W)) (some (.int (k:Nat))) (some (otV o)) none) h = some (.int (pl:Nat),h) from rfl) (okArg_nat hp)
theorem turnX_ok (R:Rd h r f a n c nm ks fs A (N0 ++ [.nod .tup [.str w,.int (at_:Nat),.non]]) ss rows) (hw:w = "try" ∨ w = "when") (hat:ss[at_]? = some (.ref s)) {y:Str} (hs:h.get s = some (.lst,[.str y,v])) (sa:s ≠ a) (sn:s ≠ n) (sc:s ≠ c) (hN0:isDs 59 N0 = true) (hl:ss.length < 1000) :
    ∃ h',F_Reader_turnX [.ref r,.int (pl:Nat)] h = some (.ok .non,h') ∧ Rd h' r f a n c nm ks fs A (N0 ++ [.nod .tup [.str w,.int at_,.int (ss.length:Nat)]]) (ss ++ [.ref h.next]) rows ∧
      h'.get h.next = some (.lst,[.str (midOf w),.non]) ∧ h'.get s = some (.lst,[.str y,.int (ss.length + 1:Nat)]) ∧ h'.next = h.next + 1 ∧ Kp [n,c,s] h h':=by
  have zs:ss.length < sizeLine:=by rw [sizeLine_eq]; omega
  have hsl:=AH.lt hs
  have hcl:=AH.lt R.hc
  obtain ⟨h1,hh1⟩:∃ x,h.put n (.lst,N0 ++ [.nod .tup [.str w,.int at_,.int (ss.length:Nat)]]) = x:=⟨_,rfl⟩
  have R1:Rd h1 r f a n c nm ks fs A (N0 ++ [.nod .tup [.str w,.int at_,.int (ss.length:Nat)]]) ss rows:=hh1 ▸ R.setN _ (isDs_app hN0 (by simp [isDs,isD]))
  have hs1:h1.get s = some (.lst,[.str y,v]):=hh1 ▸ put_oth hs R.hn sn
  obtain ⟨h2,hh2⟩:∃ x,h1.new (.lst,[.str (midOf w),.non]) = x:=⟨_,rfl⟩
  have R2:Rd h2 r f a n c nm ks fs A (N0 ++ [.nod .tup [.str w,.int at_,.int (ss.length:Nat)]]) ss rows:=hh2 ▸ R1.new _
  have hnx:h1.next = h.next:=by simp [← hh1]
  have hm2:h2.get h.next = some (.lst,[.str (midOf w),.non]):=by rw [← hnx,← hh2]; exact new_own
  have hs2:h2.get s = some (.lst,[.str y,v]):=hh2 ▸ new_oth hs1
  obtain ⟨h3,hh3⟩:∃ x,h2.put c (.lst,ss ++ [.ref h.next]) = x:=⟨_,rfl⟩
  have R3:Rd h3 r f a n c nm ks fs A (N0 ++ [.nod .tup [.str w,.int at_,.int (ss.length:Nat)]]) (ss ++ [.ref h.next]) rows:=hh3 ▸ R2.setC _
  have hm3:h3.get h.next = some (.lst,[.str (midOf w),.non]):=hh3 ▸ put_oth hm2 R2.hc (by omega)
  have hs3:h3.get s = some (.lst,[.str y,v]):=hh3 ▸ put_oth hs2 R2.hc sc
  obtain ⟨h4,hh4⟩:∃ x,h3.put s (.lst,[.str y,.int (ss.length + 1:Nat)]) = x:=⟨_,rfl⟩
  have R4:Rd h4 r f a n c nm ks fs A (N0 ++ [.nod .tup [.str w,.int at_,.int (ss.length:Nat)]]) (ss ++ [.ref h.next]) rows:=hh4 ▸ R3.setS hs3 sa sn sc _
  refine ⟨h4,?_,R4,hh4 ▸ put_oth hm3 hs3 (by omega),hh4 ▸ put_own hs3,by simp [← hh4,← hh3,← hh2,hnx],?_⟩
  · have lk:=turn_look (pl:=pl) R (W:=w) (k:=(at_:Int)) (O:=.non) (.inr ⟨N0,rfl⟩)
    have cd:=turn_cond (r:=r) (pl:=pl) (W:=w) (k:=(at_:Int)) (O:=.non) (o:=h) ⟨false,by simp,by simp⟩
    have ct:(!decide (w ∈ (["try", "when"]:List Str)) || !decide ((AV.non:AV) = .non)) = false:=by
      rw [decide_eq_true (tw_in hw)]
      simp
    rw [ct] at cd
    let S1:=tuS r pl (some (.str w)) (some (.int (at_:Nat))) (some .non) none
    let S2:=tuS r pl (some (.str w)) (some (.int (at_:Nat))) (some .non) (some (.ref c))
    rw [turnX_run,B_Reader_turnX,xseq_step lk,xseq_step (s':=S1) (h':=h) (by
      rw [ev_xif]
      show xifK ((aOr _ _ _ h).bind _) _ _ _ = _
      rw [cd]
      rfl)]
    have p1:(aAsg (aOp2 aIx (aFld 0 0 (aVar 0)) (aFld 0 2 (aVar 0))) (gNm 5)) S1 h = some (.nx S2,h):=by
      have:(aOp2 aIx (aFld 0 0 (aVar 0)) (aFld 0 2 (aVar 0))) S1 h = some (.ref c,h):=by
        simp [S1,tuS,R.hr,R.hf,R.hk]
      rw [ev_asg,this]
      rfl
    have p2:(aAsg (aArgs (mkF .tup) (aCons (aVar 2) (aCons (aVar 3) (aCons (aArgs (one aLenV) (aCons (aVar 5) aNil)) aNil)))) (gIx (aFld 0 4 (aVar 0)) (aOp1 aNeg (aC (.int 1))))) S2 h = some (.nx S2,h1):=by
      have l:aLenV (.ref c) h = some (.int (ss.length:Nat),h):=by simp [R.hc]
      have fn:(aFld 0 4 (aVar 0)) S2 h = some (.ref n,h):=by simp [S2,tuS,R.hr]
      have hset:(N0 ++ [AV.nod Kd.tup [.str w,.int at_,.non]]).set N0.length (.nod .tup [.str w,.int at_,.int (ss.length:Nat)]) = N0 ++ [.nod .tup [.str w,.int at_,.int (ss.length:Nat)]]:=by simp
      rw [ev_asg,ev_args,ev_cons,show (aVar 2) S2 h = some (.str w,h) from rfl,consK_some,ev_cons,show (aVar 3) S2 h = some (.int (at_:Nat),h) from rfl,consK_some,ev_cons,ev_args,ev_cons,show (aVar 5) S2 h = some (.ref c,h) from rfl,consK_some,ev_nil,consJ_some,argsK_some,ev_one,l,consK_some,ev_nil,consJ_some,consJ_some,consJ_some,argsK_some,mkF_ok (sz _ (by simp))]
      show asgJ ((gIx (aFld 0 4 (aVar 0)) (aOp1 aNeg (aC (.int 1)))) _ S2 h) = _
      have nn:(aOp1 aNeg (aC (.int 1))) S2 h = some (.int (-1),h):=rfl
      rw [ev_gIx,fn,gixK_some,nn,gixJ_some]
      simp [R.hn,ixN_last,hset,hh1]
    have p3:(aExp (aBM "list" aAppend (aVar 5) (aCons (aArgs (mkM .lst) (aCons (aIf (aTst (aOp2 aEq (aVar 2) (aC (.str "try")))) (aC (.str "leave")) (aC (.str "pass"))) (aCons (aC .non) aNil))) aNil))) S2 h1 = some (.nx S2,h3):=by
      have md:(aIf (aTst (aOp2 aEq (aVar 2) (aC (.str "try")))) (aC (.str "leave")) (aC (.str "pass"))) S2 h1 = some (.str (midOf w),h1):=by
        rw [ev_ife,ev_tst,ev_op2,show (aVar 2) S2 h1 = some (.str w,h1) from rfl,op2K_some,ev_c,op2J_some,eq_ss,tstK_some]
        exact ife_mid
      have ar:(aCons (aArgs (mkM .lst) (aCons (aIf (aTst (aOp2 aEq (aVar 2) (aC (.str "try")))) (aC (.str "leave")) (aC (.str "pass"))) (aCons (aC .non) aNil))) aNil) S2 h1 = some ([.ref h.next],h2):=by
        rw [ev_cons,ev_args,ev_cons,md,consK_some,ev_cons,ev_c,consK_some,ev_nil,consJ_some,consJ_some,argsK_some,mkM_ok (sz _ (by simp)),hnx,hh2,consK_some,ev_nil,consJ_some]
      rw [ev_exp,ev_bm,show (aVar 5) S2 h1 = some (.ref c,h1) from rfl]
      simp only [bmK_ref]
      rw [R1.hc,bmC_lst,ar,bmJ_some,append_ref,R2.hc,appR_lst zs,hh3]
      rfl
    have p4:(aAsg (aArgs (one aLenV) (aCons (aVar 5) aNil)) (gIx (aOp2 aIx (aVar 5) (aVar 3)) (aC (.int 1)))) S2 h3 = some (.nx S2,h4):=by
      have hat3:(ss ++ [AV.ref h.next])[at_]? = some (.ref s):=by
        rw [List.getElem?_append_left (List.getElem?_eq_some_iff.mp hat).1]; exact hat
      have l:aLenV (.ref c) h3 = some (.int ((ss.length + 1:Nat):Int),h3):=by simp [R3.hc]
      have ix:(aOp2 aIx (aVar 5) (aVar 3)) S2 h3 = some (.ref s,h3):=by
        rw [ev_op2,show (aVar 5) S2 h3 = some (.ref c,h3) from rfl,op2K_some,show (aVar 3) S2 h3 = some (.int (at_:Nat),h3) from rfl,op2J_some,ix_ref,R3.hc,ixR_lst,atI_nat hat3]
        rfl
      have st:aSet (.ref s) (.int 1) (.int ((ss.length + 1:Nat):Int)) h3 = some h4:=by
        have:=ev_setL (v:=.int ((ss.length + 1:Nat):Int)) (k:=1) hs3 (by simp)
        rw [show (AV.int 1) = .int ((1:Nat):Int) from rfl,this,← hh4]
        rfl
      rw [ev_asg,ev_args,ev_cons,show (aVar 5) S2 h3 = some (.ref c,h3) from rfl,consK_some,ev_nil,consJ_some,argsK_some,ev_one,l]
      show asgJ ((gIx (aOp2 aIx (aVar 5) (aVar 3)) (aC (.int 1))) _ S2 h3) = _
      rw [ev_gIx,ix,gixK_some,ev_c,gixJ_some,st]
      rfl
    rw [ev_lfS,seq_step p1,seq_step p2,seq_step p3,p4]
    rfl
  · rw [← hh4]; exact (hh3 ▸ (hh2 ▸ (hh1 ▸ (Kp.refl (S:=[n,c,s])).putL (by rw [R.hn]; rfl) (.inr (by simp)):Kp [n,c,s] h h1).trans .new:Kp [n,c,s] h h2).putL (by rw [R2.hc]; rfl) (.inr (by simp)):Kp [n,c,s] h h3).putL (by rw [hs3]; rfl) (.inr (by simp))
end
end K03
end
section
namespace K03
open PySem PySem.Spec PyProof.Rows L2 Rp K03
abbrev Nst:=Str × Nat × Option Nat
def nestV (q:Nst):AV:=.nod .tup [.str q.1,.int (q.2.1:Nat),otV q.2.2]
def openW (q:Nst):Str:=if q.2.2 = none then q.1 else "else"
inductive PV | non | str (s:Str) | int (i:Int)
def pvV:PV → AV
  | .non=>.non
  | .str s=>.str s
  | .int i=>.int i
def flatV:AV → Bool
  | .non=>true
  | .str _=>true
  | .int _=>true
  | _=>false
def StepC (h:AH) (x:Nat):Prop:=∃ (y:Str) (z:PV),h.get x = some (.lst,[.str y,pvV z])
theorem StepC.of {h:AH} {x:Nat} {y:Str} {z:AV} (hz:flatV z = true) (g:h.get x = some (.lst,[.str y,z])):StepC h x:=by
  cases z with
  | non=>exact ⟨y,.non,g⟩
  | str s=>exact ⟨y,.str s,g⟩
  | int i=>exact ⟨y,.int i,g⟩
  | _=>cases hz
def ListC (h:AH) (a n v:Nat) (xs:List Nat):Prop:=h.get v = some (.lst,xs.map .ref) ∧ v ≠ a ∧ v ≠ n ∧ ∀ x ∈ xs,x ≠ a ∧ x ≠ n ∧ StepC h x
section
variable {h h':AH} {r f a n c pl:Nat} {nm:Str} {ks:List Key} {fs A N N0:List AV} {rows s x v:Nat} {w:Str} {xs ys:List Nat} {M:List Nst} {q:Nst}
theorem step_ne (h1:StepC h x) (h2:h.get v = some (.lst,xs.map .ref)):x ≠ v:=fun e=>by
  subst e
  obtain ⟨y,z,e1⟩:=h1
  rw [e1] at h2
  have:=(Prod.mk.inj (Option.some.inj h2)).2
  cases xs with
  | nil=>cases this
  | cons b xs=>cases this
structure Tsk (h:AH) (r f a n c:Nat) (nm:Str) (ks:List Key) (fs A:List AV) (M:List Nst) (xs:List Nat) (rows:Nat):Prop where
  R:Rd h r f a n c nm ks fs A (M.map nestV) (xs.map .ref) rows
  st:∀ x ∈ xs,x ≠ a ∧ x ≠ n ∧ StepC h x
  at_:∀ q ∈ M,q.2.1 < xs.length ∧ ∀ k,q.2.2 = some k → k < xs.length
theorem nest_d:∀ M:List Nst,isDs 59 (M.map nestV) = true
  | []=>rfl
  | q :: M=>by
    obtain ⟨a,b,o⟩:=q
    rw [List.map_cons,isDs,nest_d M]
    cases o <;> rfl
theorem get_map (hx:xs[s]? = some x):(xs.map AV.ref)[s]? = some (.ref x):=by rw [List.getElem?_map,hx]; rfl
theorem StepC.keep {S:List Nat} (k:Kp S h h') (hx:StepC h x) (ho:x ∈ S → StepC h' x):StepC h' x:=by
  by_cases m:x ∈ S
  · exact ho m
  · obtain ⟨y,z,e⟩:=hx
    exact ⟨y,z,k.get e m⟩
def Lw (h h':AH) (n c:Nat) (xs ys:List Nat):Prop:=∀ lo,lo ≤ n → lo ≤ c → (∀ x ∈ xs,lo ≤ x) → (∀ m,m < lo → h'.get m = h.get m) ∧ ∀ y ∈ ys,lo ≤ y
theorem Lw.of {S:List Nat} (hc:c < h.next) (k:Kp S h h') (hS:∀ y ∈ S,y = n ∨ y = c ∨ y ∈ xs) (hy:∀ y ∈ ys,y ∈ xs ∨ y = h.next):Lw h h' n c xs ys:=fun lo l1 l2 l3=>⟨fun m hm=>k.st m (by omega) fun hmS=>by
  rcases hS m hmS with e | e | e
  · omega
  · omega
  · have:=l3 m e
    omega,fun y hyy=>by
  rcases hy y hyy with e | e
  · exact l3 y e
  · omega⟩
theorem close_ok (T:Tsk h r f a n c nm ks fs A (M ++ [q]) xs rows) (hl:xs.length < 1000) :
    ∃ h' ys,F_Reader_close [.ref r] h = some (.non,h') ∧ Tsk h' r f a n c nm ks fs A M ys rows ∧ ys.length ≤ xs.length + 1 ∧ (∀ v zs,v ≠ c → ListC h a n v zs → ListC h' a n v zs) ∧ h.next ≤ h'.next ∧ Lw h h' n c xs ys:=by
  obtain ⟨R,st,at_⟩:=T
  rw [List.map_append] at R
  have hN0:=nest_d M
  obtain ⟨w,k,o⟩:=q
  have q0:=at_ (w,k,o) (by simp)
  have atM:∀ q ∈ M,q.2.1 < xs.length ∧ ∀ k,q.2.2 = some k → k < xs.length:=fun q hq=>at_ q (List.mem_append_left _ hq)
  have more:∀ q ∈ M,q.2.1 < (xs ++ [h.next]).length ∧ ∀ k,q.2.2 = some k → k < (xs ++ [h.next]).length:=fun q hq=>by
    have:=atM q hq
    rw [List.length_append,List.length_singleton]
    exact ⟨by omega,fun k hk=>by have:=this.2 k hk; omega⟩
  have hc:=R.hc
  have lnx:∀ {m:Nat} {cc:Kd × List AV},h.get m = some cc → m < h.next:=fun e=>AH.lt e
  have oth:∀ {h':AH} {S:List Nat},Kp S h h' → (∀ y ∈ S,y = n ∨ y = c ∨ StepC h y) → (∀ y,StepC h y → StepC h' y) → ∀ v zs,v ≠ c → ListC h a n v zs → ListC h' a n v zs:=fun {h' S} kp hS hst v zs hv L=>by
    obtain ⟨l1,l2,l3,l4⟩:=L
    refine ⟨kp.get l1 fun hm=>?_,l2,l3,fun x hx=>⟨(l4 x hx).1,(l4 x hx).2.1,hst x (l4 x hx).2.2⟩⟩
    rcases hS v hm with e | e | e
    · exact l3 e
    · exact hv e
    · exact step_ne e l1 rfl
  have app:∀ {h':AH} {y:Str} {z:AV},(∀ y,StepC h y → StepC h' y) → flatV z = true → h'.get h.next = some (.lst,[.str y,z]) → ∀ x ∈ xs ++ [h.next],x ≠ a ∧ x ≠ n ∧ StepC h' x:=fun {h' y z} hst fz hn x hx=>by
    rcases List.mem_append.mp hx with hx | hx
    · exact ⟨(st x hx).1,(st x hx).2.1,hst x (st x hx).2.2⟩
    · rw [List.mem_singleton.mp hx]
      exact ⟨fun e=>by have:=lnx R.ha; omega,fun e=>by have:=lnx R.hn; omega,.of fz hn⟩
  have rl:∀ {h':AH},Rd h' r f a n c nm ks fs A (M.map nestV) (xs.map .ref ++ [.ref h.next]) rows → Rd h' r f a n c nm ks fs A (M.map nestV) ((xs ++ [h.next]).map .ref) rows:=fun R' => by
    rw [List.map_append]
    exact R'
  have lm:(xs.map AV.ref).length = xs.length:=List.length_map ..
  have keepn:∀ {h':AH} {S:List Nat},Kp S h h' → (∀ y ∈ S,y = n ∨ y = c) → ∀ y,StepC h y → StepC h' y:=fun {h' S} kp hS y hy=>by
    refine hy.keep kp fun hm=>?_
    rcases hS y hm with e | e
    · subst e
      obtain ⟨b,z,e1⟩:=hy
      have:=R.hn
      rw [e1] at this
      have:=(Prod.mk.inj (Option.some.inj this)).2
      cases M with
      | nil=>cases this
      | cons m M=>cases this
    · exact absurd e (step_ne hy hc)
  have nstep:¬ StepC h n:=fun hu=>by
    obtain ⟨b,z',e1⟩:=hu
    have:=R.hn
    rw [e1] at this
    have:=(Prod.mk.inj (Option.some.inj this)).2
    cases M with
    | nil=>cases this
    | cons m M=>cases this
  cases o with
  | some j =>
    have hj:j < xs.length:=q0.2 j rfl
    by_cases hw:w = ("loop" : Str)
    · subst hw
      obtain ⟨h',e,R',g,nx,kp⟩:=close_loop (x:=.int (j:Nat)) R hN0 (by rw [lm]; exact hl)
      have hst:=keepn kp (by simp)
      exact ⟨h',xs ++ [h.next],e,⟨rl R',app hst rfl g,more⟩,by simp,oth kp (fun y hy=>by simp at hy; rcases hy with e | e <;> simp [e]) hst,by omega,.of (lnx hc) kp (fun u hu=>by simp at hu; rcases hu with e | e <;> simp [e]) (fun y hy=>by simpa using hy)⟩
    · obtain ⟨s,hs⟩:∃ s,xs[j]? = some s:=⟨_,List.getElem?_eq_getElem hj⟩
      obtain ⟨s1,s2,y,z,hy⟩:=st s (List.mem_of_getElem? hs)
      have s3:s ≠ c:=step_ne ⟨y,z,hy⟩ hc
      obtain ⟨h',e,R',g,nx,kp⟩:=close_else R hw (get_map hs) hy s1 s2 s3 hN0
      have hst:∀ y,StepC h y → StepC h' y:=fun u hu=>by
        by_cases e:u = s
        · subst e; exact .of rfl g
        · refine hu.keep kp fun hm=>?_
          simp at hm
          rcases hm with rfl | rfl
          · exact absurd hu nstep
          · exact .of rfl g
      exact ⟨h',xs,e,⟨R',fun x hx=>⟨(st x hx).1,(st x hx).2.1,hst x (st x hx).2.2⟩,atM⟩,by omega,oth kp (fun u hu=>by simp at hu; rcases hu with e | e <;> simp [e]; exact .inr (.inr ⟨y,z,hy⟩)) hst,by omega,.of (lnx hc) kp (fun u hu=>by simp at hu; rcases hu with e | e <;> simp [e]; exact .inr (.inr (List.mem_of_getElem? hs))) (fun y hy=>.inl hy)⟩
  | none =>
    obtain ⟨s,hs⟩:∃ s,xs[k]? = some s:=⟨_,List.getElem?_eq_getElem q0.1⟩
    obtain ⟨s1,s2,y,z,hy⟩:=st s (List.mem_of_getElem? hs)
    have s3:s ≠ c:=step_ne ⟨y,z,hy⟩ hc
    by_cases hw:w = ("loop" : Str)
    · subst hw
      obtain ⟨h',e,R',g,nx,kp⟩:=close_loop (x:=.non) R hN0 (by rw [lm]; exact hl)
      have hst:=keepn kp (by simp)
      exact ⟨h',xs ++ [h.next],e,⟨rl R',app hst rfl g,more⟩,by simp,oth kp (fun y hy=>by simp at hy; rcases hy with e | e <;> simp [e]) hst,by omega,.of (lnx hc) kp (fun u hu=>by simp at hu; rcases hu with e | e <;> simp [e]) (fun y hy=>by simpa using hy)⟩
    by_cases hw2:w = ("when" : Str)
    · subst hw2
      obtain ⟨h',e,R',g,nx,kp⟩:=close_when R (get_map hs) hy s1 s2 s3 hN0
      have hst:∀ y,StepC h y → StepC h' y:=fun u hu=>by
        refine hu.keep kp fun hm=>?_
        simp at hm
        rcases hm with rfl | rfl
        · exact absurd hu nstep
        · exact .of rfl g
      exact ⟨h',xs,e,⟨R',fun x hx=>⟨(st x hx).1,(st x hx).2.1,hst x (st x hx).2.2⟩,atM⟩,by omega,oth kp (fun u hu=>by simp at hu; rcases hu with e | e <;> simp [e]; exact .inr (.inr ⟨y,z,hy⟩)) hst,by omega,.of (lnx hc) kp (fun u hu=>by simp at hu; rcases hu with e | e <;> simp [e]; exact .inr (.inr (List.mem_of_getElem? hs))) (fun y hy=>.inl hy)⟩
    by_cases hw3:w = ("try" : Str)
    · subst hw3
      obtain ⟨h',e,R',g,gs,nx,kp⟩:=close_try R (get_map hs) hy s1 s2 s3 hN0 (by rw [lm]; exact hl)
      have hst:∀ y,StepC h y → StepC h' y:=fun u hu=>by
        refine hu.keep kp fun hm=>?_
        simp at hm
        rcases hm with rfl | rfl | rfl
        · exact absurd hu nstep
        · exact absurd rfl (step_ne hu hc)
        · exact .of rfl gs
      exact ⟨h',xs ++ [h.next],e,⟨rl R',app hst rfl g,more⟩,by simp,oth kp (fun u hu=>by simp at hu; rcases hu with e | e | e <;> simp [e]; exact .inr (.inr ⟨y,z,hy⟩)) hst,by omega,.of (lnx hc) kp (fun u hu=>by simp at hu; rcases hu with e | e | e <;> simp [e]; exact .inr (.inr (List.mem_of_getElem? hs))) (fun y hy=>by simpa using hy)⟩
    · obtain ⟨h',e,R',g,nx,kp⟩:=close_leave R hw hw2 hw3 hN0 (by rw [lm]; exact hl)
      have hst:=keepn kp (by simp)
      exact ⟨h',xs ++ [h.next],e,⟨rl R',app hst rfl g,more⟩,by simp,oth kp (fun y hy=>by simp at hy; rcases hy with e | e <;> simp [e]) hst,by omega,.of (lnx hc) kp (fun u hu=>by simp at hu; rcases hu with e | e <;> simp [e]) (fun y hy=>by simpa using hy)⟩
end
end K03
end
section
namespace K03
open PySem PySem.Spec PyProof.Rows L2 Rp K03
structure Out_ (h:AH) (r f a n:Nat) (ks:List Key) (fs A:List AV) (rows:Nat):Prop where
  hr:h.get r = some (.ins 0,[.ref f,.ref a,.non,.int (rows:Nat),.ref n])
  hf:h.get f = some (.dct ks,fs)
  ha:h.get a = some (.lst,A)
  hn:h.get n = some (.lst,[])
  an:a ≠ n
def taS (r pl:Nat) (row:Str) (v:Option AV):LS:=[some (.ref r),some (.str row),some (.int (pl:Nat)),v]
section
variable {h h':AH} {r f a n c pl:Nat} {nm row:Str} {ks:List Key} {fs A N N0:List AV} {rows s x v:Nat} {w:Str} {q:List Str} {xs ys:List Nat} {M:List Nst} {σ:RS}
theorem takeX_run:F_Reader_takeX [.ref r,.str row,.int (pl:Nat)] h = fnXK (B_Reader_takeX (taS r pl row none) h):=by
  simp only [F_Reader_takeX]
  rw [evx_fn (by rfl)]
  rfl
theorem eq_cell0 (hn:h.get n = some (.lst,N)) (hd:isDs 59 N = true):aEq (.ref n) (.nod .lst []) h = some (.bl (decide (N = [])),h):=by
  simp [aEq,nrm,hn,isD,hd,isDs,toD,toDs,PyData.eqv]
  cases N with
  | nil=>simp [toDs,PyData.eqvAll]
  | cons x xs=>simp [toDs,PyData.eqvAll]
theorem split_any {Z:List Str} (hl:row.length ≤ 100000) (hX:Txt.split row (Str.ofString " ") = Z) (hZ:Z.length ≤ 16000) (S:LS) (hS:S[1]? = some (some (.str row))):(aBM "str" (aSplit mkF) (aVar 1) (aCons (aC (.str " ")) aNil)) S h = some (strsV Z,h):=by
  have sp:aSplit mkF (.str row) [.str (Str.ofString " ")] h = some (strsV Z,h):=by
    unfold aSplit
    simp only [hX]
    rw [if_pos ⟨by decide +kernel,sz _ (by omega)⟩]
    exact mkF_ok (sz _ (by rw [List.length_map]; omega))
  rw [ev_bm,ev_var,hS,varK_some,bmK_str,ev_cons,ev_c,consK_some,ev_nil,consJ_some,bmJ_some]
  exact sp
theorem Tsk.setR (T:Tsk h r f a n c nm ks fs A M xs rows) (m:Nat):Tsk (h.put r (.ins 0,[.ref f,.ref a,.str nm,.int (m:Nat),.ref n])) r f a n c nm ks fs A M xs m ∧ (∀ v zs,ListC h a n v zs → ListC (h.put r (.ins 0,[.ref f,.ref a,.str nm,.int (m:Nat),.ref n])) a n v zs):=by
  have k:∀ {y:Nat} {cs:List AV},h.get y = some (.lst,cs) → (h.put r (.ins 0,[.ref f,.ref a,.str nm,.int (m:Nat),.ref n])).get y = some (.lst,cs):=fun e=>put_oth e T.R.hr (get_ne e T.R.hr nofun)
  have st:∀ y,StepC h y → StepC (h.put r (.ins 0,[.ref f,.ref a,.str nm,.int (m:Nat),.ref n])) y:=fun y ⟨b,z,e⟩=>⟨b,z,k e⟩
  exact ⟨⟨T.R.setR m,fun x hx=>⟨(T.st x hx).1,(T.st x hx).2.1,st x (T.st x hx).2.2⟩,T.at_⟩,fun v zs ⟨l1,l2,l3,l4⟩=>⟨k l1,l2,l3,fun x hx=>⟨(l4 x hx).1,(l4 x hx).2.1,st x (l4 x hx).2.2⟩⟩⟩
theorem step_not_n (T:Tsk h r f a n c nm ks fs A M xs rows):¬ StepC h n:=fun hu=>by
  obtain ⟨b,z',e1⟩:=hu
  have:=T.R.hn
  rw [e1] at this
  have:=(Prod.mk.inj (Option.some.inj this)).2
  cases M with
  | nil=>cases this
  | cons m M=>cases this
def Oth (h h':AH) (a n c:Nat):Prop:=∀ v zs,v ≠ c → ListC h a n v zs → ListC h' a n v zs
theorem take_done (T:Tsk h r f a n c nm ks fs A [] xs rows) (hl:xs.length < 1000) (hrow:row.length ≤ 100000) (hX:Txt.split row (Str.ofString " ") = [("end" : Str)]) :
    ∃ h',F_Reader_takeX [.ref r,.str row,.int (pl:Nat)] h = some (.ok .non,h') ∧ Out_ h' r f a n ks fs A rows ∧ ListC h' a n c (xs ++ [h.next]) ∧ Oth h h' a n c ∧ h.next ≤ h'.next ∧ Kp [c,r] h h':=by
  have R:=T.R
  let S0:=taS r pl row none
  let S1:=taS r pl row (some (strsV [("end" : Str)]))
  have b0:(lfS (aAsg (aBM "str" (aSplit mkF) (aVar 1) (aCons (aC (.str " ")) aNil)) (gNm 3))) S0 h = some (.ar (.nx S1),h):=by
    rw [ev_lfS,ev_asg,split_any hrow hX (by simp) S0 rfl]
    rfl
  have fnm:(aFld 0 2 (aVar 0)) S1 h = some (.str nm,h):=by simp [S1,taS,R.hr]
  have b1:(xIf (lfT (aTst (aOp2 aIs (aFld 0 2 (aVar 0)) (aC .non)))) (xSeq (xExp (xMeth 0 F_Reader_beginX (aVar 0) (aCons (aVar 3) (aCons (aVar 2) aNil)))) (lfS aRetN)) (lfS aPass)) S1 h = some (.ar (.nx S1),h):=by
    have:(aTst (aOp2 aIs (aFld 0 2 (aVar 0)) (aC .non))) S1 h = some (false,h):=by
      rw [ev_tst,ev_op2,fnm,op2K_some,ev_c,op2J_some]
      rfl
    rw [ev_xif]
    show xifK ((aTst _ S1 h).bind _) _ _ S1 = _
    rw [this]
    rfl
  obtain ⟨h1,hh1⟩:∃ y,h.new (.lst,[.str "done",.non]) = y:=⟨_,rfl⟩
  have g1:h1.get h.next = some (.lst,[.str "done",.non]):=hh1 ▸ new_own
  have c1:h1.get c = some (.lst,xs.map .ref):=hh1 ▸ new_oth R.hc
  obtain ⟨h2,hh2⟩:∃ y,h1.put c (.lst,xs.map .ref ++ [.ref h.next]) = y:=⟨_,rfl⟩
  have r2:h2.get r = some (.ins 0,[.ref f,.ref a,.str nm,.int (rows:Nat),.ref n]):=hh2 ▸ put_oth (hh1 ▸ new_oth R.hr) c1 R.rc.symm.symm
  obtain ⟨h3,hh3⟩:∃ y,h2.put r (.ins 0,[.ref f,.ref a,.non,.int (rows:Nat),.ref n]) = y:=⟨_,rfl⟩
  have old:∀ {y:Nat} {cc:Kd × List AV},h.get y = some cc → y ≠ c → y ≠ r → h3.get y = some cc:=fun e n1 n2=>hh3 ▸ put_oth (hh2 ▸ put_oth (hh1 ▸ new_oth e) c1 n1) r2 n2
  have c3:h3.get c = some (.lst,xs.map .ref ++ [.ref h.next]):=hh3 ▸ put_oth (hh2 ▸ put_own c1) r2 R.rc.symm
  have hcl:=AH.lt R.hc
  have hrl:=AH.lt R.hr
  have st3:∀ y,StepC h y → StepC h3 y:=fun y hy=>by
    have nc:=step_ne hy R.hc
    obtain ⟨b,z,e⟩:=hy
    exact ⟨b,z,old e nc (get_ne e R.hr nofun)⟩
  refine ⟨h3,?_,⟨hh3 ▸ put_own r2,old R.hf R.fc R.rf.symm,old R.ha R.ac R.ra.symm,old R.hn R.nc R.rn.symm,R.an⟩,⟨by rw [c3,List.map_append]; rfl,R.ac.symm,R.nc.symm,fun x hx=>?_⟩,fun v zs hv ⟨l1,l2,l3,l4⟩=>⟨old l1 hv (get_ne l1 R.hr nofun),l2,l3,fun x hx=>⟨(l4 x hx).1,(l4 x hx).2.1,st3 x (l4 x hx).2.2⟩⟩,by rw [← hh3,← hh2,← hh1]; simp,((hh1 ▸ Kp.new:Kp [c,r] h h1).trans (hh2 ▸ Kp.put (by rw [c1]; rfl) (by simp))).trans (hh3 ▸ Kp.put (by rw [r2]; rfl) (by simp))⟩
  · have b2:(lfS (aIfS (aAnd (aTst (aOp2 aEq (aVar 3) (aArgs (mkF .lst) (aCons (aC (.str "end")) aNil)))) (aTst (aOp2 aEq (aFld 0 4 (aVar 0)) (aArgs (mkF .lst) aNil)))) (aSeq (aExp (aBM "list" aAppend (aOp2 aIx (aFld 0 0 (aVar 0)) (aFld 0 2 (aVar 0))) (aCons (aArgs (mkM .lst) (aCons (aC (.str "done")) (aCons (aC .non) aNil))) aNil))) (aSeq (aSetF (aC .non) 0 2 (aVar 0)) aRetN)) aPass)) S1 h = some (.ar (.rt .non),h3):=by
      have t1:(aTst (aOp2 aEq (aVar 3) (aArgs (mkF .lst) (aCons (aC (.str "end")) aNil)))) S1 h = some (true,h):=by
        rw [ev_tst,eq_oneS (L:=[("end" : Str)]) rfl,decide_eq_true rfl,tstK_some]
      have fn:(aFld 0 4 (aVar 0)) S1 h = some (.ref n,h):=by simp [S1,taS,R.hr]
      have t2:(aTst (aOp2 aEq (aFld 0 4 (aVar 0)) (aArgs (mkF .lst) aNil))) S1 h = some (true,h):=by
        rw [ev_tst,ev_op2,fn,op2K_some,ev_args,ev_nil,argsK_some,mkF_ok (Nat.zero_le _),op2J_some,eq_cell0 R.hn R.hN]
        rfl
      have p1:(aExp (aBM "list" aAppend (aOp2 aIx (aFld 0 0 (aVar 0)) (aFld 0 2 (aVar 0))) (aCons (aArgs (mkM .lst) (aCons (aC (.str "done")) (aCons (aC .non) aNil))) aNil))) S1 h = some (.nx S1,h2):=by
        have ix:(aOp2 aIx (aFld 0 0 (aVar 0)) (aFld 0 2 (aVar 0))) S1 h = some (.ref c,h):=by simp [S1,taS,R.hr,R.hf,R.hk]
        have ar:(aCons (aArgs (mkM .lst) (aCons (aC (.str "done")) (aCons (aC .non) aNil))) aNil) S1 h = some ([.ref h.next],h1):=by
          rw [ev_cons,ev_args,ev_cons,ev_c,consK_some,ev_cons,ev_c,consK_some,ev_nil,consJ_some,consJ_some,argsK_some,mkM_ok (sz _ (by simp)),hh1,consK_some,ev_nil,consJ_some]
        have zs:(xs.map AV.ref).length < sizeLine:=by rw [sizeLine_eq,List.length_map]; omega
        rw [ev_exp,ev_bm,ix]
        simp only [bmK_ref]
        rw [R.hc,bmC_lst,ar,bmJ_some,append_ref,c1,appR_lst zs,hh2]
        rfl
      have p2:(aSetF (aC .non) 0 2 (aVar 0)) S1 h2 = some (.nx S1,h3):=by
        simp [S1,taS,r2,hh3]
      rw [ev_lfS,ev_if,ev_and,t1,andK_t,t2,ifK_t,seq_step p1,seq_step p2]
      rfl
    rw [takeX_run,B_Reader_takeX,xseq_step b0,xseq_step b1,xseq_rt b2]
    rfl
  · rcases List.mem_append.mp hx with hx | hx
    · exact ⟨(T.st x hx).1,(T.st x hx).2.1,st3 x (T.st x hx).2.2⟩
    · rw [List.mem_singleton.mp hx]
      exact ⟨fun e=>by have:=AH.lt R.ha; omega,fun e=>by have:=AH.lt R.hn; omega,StepC.of (y := "done") (z:=.non) rfl (hh3 ▸ put_oth (hh2 ▸ put_oth g1 c1 (by omega)) r2 (by omega))⟩
end
end K03
end
section
namespace K03
open PySem PySem.Spec PyProof.Rows L2 Rp K03
abbrev Ask:=(Nat × Str × Str) × Str
def askR (q:Ask):AV:=.nod .tup [.int (q.1.1:Nat),.str q.1.2.1,.str q.2,.str q.1.2.2]
def restR (σ:RS) (ws:List Str) (pl:Nat):Option RS :=
  if 24 < σ.rows + 1 then none
  else if ws = [("end" : Str)] then some { σ with rows:=σ.rows + 1,opn:=σ.opn.dropLast }
  else if ws = [("else" : Str)] then (if σ.opn.getLast? = some ("try" : Str) ∨ σ.opn.getLast? = some ("when" : Str) then some { σ with rows:=σ.rows + 1,opn:=σ.opn.dropLast ++ [("else" : Str)] } else none)
  else if rowB ws = true then
    (if 4 < (if ws.headD "" ∈ blocksL then σ.opn ++ [ws.headD ""] else σ.opn).length then none else
      some { σ with rows:=σ.rows + 1,opn:=if ws.headD "" ∈ blocksL then σ.opn ++ [ws.headD ""] else σ.opn,asked:=if ws.headD "" ∈ othersL then σ.asked ++ [(pl,σ.name,ws.getD 1 "")] else σ.asked })
  else none
section
variable {h h':AH} {r f a n c pl:Nat} {nm row:Str} {ks:List Key} {fs A N N0:List AV} {rows s x v:Nat} {w:Str} {q:List Str} {xs ys:List Nat} {M:List Nst} {σ:RS} {B:List Ask}
structure In_ (h:AH) (r f a n c:Nat) (ks:List Key) (fs:List AV) (σ:RS) (xs:List Nat):Prop where
  ex:∃ (M:List Nst) (B:List Ask),Tsk h r f a n c σ.name ks fs (B.map askR) M xs σ.rows ∧ M.map openW = σ.opn ∧ B.map (·.1) = σ.asked
  nm:σ.name ≠ ("" : Str)
theorem ends_ {M:List Nst} (hM:M ≠ []):∃ M0 q0,M = M0 ++ [q0]:=by
  rcases List.eq_nil_or_concat M with e | ⟨M0,q0,e⟩
  · exact absurd e hM
  · exact ⟨M0,q0,by rw [e,List.concat_eq_append]⟩
def LwR (h h':AH) (r a n c:Nat) (xs ys:List Nat):Prop:=∀ lo,lo ≤ r → lo ≤ a → lo ≤ n → lo ≤ c → (∀ x ∈ xs,lo ≤ x) → (∀ m,m < lo → h'.get m = h.get m) ∧ ∀ y ∈ ys,lo ≤ y
theorem LwR.lw {h1:AH} (hr:r < h.next) (k1:Kp [r] h h1) (l:Lw h1 h' n c xs ys):LwR h h' r a n c xs ys:=fun lo l0 _ l1 l2 l3=>⟨fun m hm=>((l lo l1 l2 l3).1 m hm).trans (k1.st m (by omega) (by simp; omega)),(l lo l1 l2 l3).2⟩
theorem LwR.of {S:List Nat} {h1:AH} (hr:r < h.next) (k1:Kp [r] h h1) (hc:c < h1.next) (k:Kp S h1 h') (hS:∀ y ∈ S,y = a ∨ y = n ∨ y = c ∨ y ∈ xs) (hy:∀ y ∈ ys,y ∈ xs ∨ y = h1.next):LwR h h' r a n c xs ys:=fun lo l0 la l1 l2 l3=>⟨fun m hm=>(k.st m (by omega) fun hmS=>by
  rcases hS m hmS with e | e | e | e
  · omega
  · omega
  · omega
  · have:=l3 m e
    omega).trans (k1.st m (by omega) (by simp; omega)),fun y hyy=>by
  rcases hy y hyy with e | e
  · exact l3 y e
  · omega⟩
theorem last_open {M:List Nst} {q:Nst}:(M ++ [q]).map openW = M.map openW ++ [openW q]:=by simp
theorem take_row (I:In_ h r f a n c ks fs σ xs) (hX:Txt.split row (Str.ofString " ") = w :: q) (hrow:row.length ≤ 100000) (hz:∀ x ∈ w :: q,x.length ≤ 100000) (hq:q.length ≤ 15000) (hl:xs.length < 900) (ho:σ.opn.length ≤ 4) (hA:σ.asked.length ≤ 16000) (hp:pl ≤ 100000) (hne:¬ (w :: q = [("end" : Str)] ∧ σ.opn = [])) :
    (∃ h',stepR σ (w :: q) pl = none ∧ F_Reader_takeX [.ref r,.str row,.int (pl:Nat)] h = some (.ex 0 (.int (pl:Nat)),h') ∧ Kp [r] h h') ∨
    ∃ h' σ' ys,stepR σ (w :: q) pl = some σ' ∧ F_Reader_takeX [.ref r,.str row,.int (pl:Nat)] h = some (.ok .non,h') ∧ σ'.name = σ.name ∧ σ'.names = σ.names ∧ In_ h' r f a n c ks fs σ' ys ∧ ys.length ≤ xs.length + 1 ∧ σ'.opn.length ≤ 4 ∧ σ'.asked.length ≤ σ.asked.length + 1 ∧ Oth h h' a n c ∧ h.next ≤ h'.next ∧ LwR h h' r a n c xs ys:=by
  obtain ⟨⟨M,B,T,hM,hB⟩,hnm⟩:=I
  have R:=T.R
  have lM:M.length = σ.opn.length:=by rw [← hM,List.length_map]
  have lB:B.length = σ.asked.length:=by rw [← hB,List.length_map]
  let S0:=taS r pl row none
  let S1:=taS r pl row (some (strsV (w :: q)))
  have b0:(lfS (aAsg (aBM "str" (aSplit mkF) (aVar 1) (aCons (aC (.str " ")) aNil)) (gNm 3))) S0 h = some (.ar (.nx S1),h):=by
    rw [ev_lfS,ev_asg,split_any hrow hX (by simp; omega) S0 rfl]
    rfl
  have fnm:(aFld 0 2 (aVar 0)) S1 h = some (.str σ.name,h):=by simp [S1,taS,R.hr]
  have b1:(xIf (lfT (aTst (aOp2 aIs (aFld 0 2 (aVar 0)) (aC .non)))) (xSeq (xExp (xMeth 0 F_Reader_beginX (aVar 0) (aCons (aVar 3) (aCons (aVar 2) aNil)))) (lfS aRetN)) (lfS aPass)) S1 h = some (.ar (.nx S1),h):=by
    have:(aTst (aOp2 aIs (aFld 0 2 (aVar 0)) (aC .non))) S1 h = some (false,h):=by
      rw [ev_tst,ev_op2,fnm,op2K_some,ev_c,op2J_some]
      rfl
    rw [ev_xif]
    show xifK ((aTst _ S1 h).bind _) _ _ S1 = _
    rw [this]
    rfl
  have v3:∀ o,(aVar 3) S1 o = some (strsV (w :: q),o):=fun o=>rfl
  have b2:(lfS (aIfS (aAnd (aTst (aOp2 aEq (aVar 3) (aArgs (mkF .lst) (aCons (aC (.str "end")) aNil)))) (aTst (aOp2 aEq (aFld 0 4 (aVar 0)) (aArgs (mkF .lst) aNil)))) (aSeq (aExp (aBM "list" aAppend (aOp2 aIx (aFld 0 0 (aVar 0)) (aFld 0 2 (aVar 0))) (aCons (aArgs (mkM .lst) (aCons (aC (.str "done")) (aCons (aC .non) aNil))) aNil))) (aSeq (aSetF (aC .non) 0 2 (aVar 0)) aRetN)) aPass)) S1 h = some (.ar (.nx S1),h):=by
    have fn:(aFld 0 4 (aVar 0)) S1 h = some (.ref n,h):=by simp [S1,taS,R.hr]
    have t:(aAnd (aTst (aOp2 aEq (aVar 3) (aArgs (mkF .lst) (aCons (aC (.str "end")) aNil)))) (aTst (aOp2 aEq (aFld 0 4 (aVar 0)) (aArgs (mkF .lst) aNil)))) S1 h = some (false,h):=by
      rw [ev_and,ev_tst,eq_oneS (v3 h),tstK_some]
      by_cases e:w :: q = [("end" : Str)]
      · have:¬ M.map nestV = []:=fun hm=>hne ⟨e,by
          have:M = []:=by simpa using hm
          rw [← hM,this]
          rfl⟩
        rw [decide_eq_true e,andK_t,ev_tst,ev_op2,fn,op2K_some,ev_args,ev_nil,argsK_some,mkF_ok (Nat.zero_le _),op2J_some,eq_cell0 R.hn R.hN,decide_eq_false this,tstK_some]
      · rw [decide_eq_false e,andK_f]
    rw [ev_lfS,ev_if,t]
    rfl
  obtain ⟨T1,o1⟩:=T.setR (σ.rows + 1)
  obtain ⟨h1,hh1⟩:∃ y,h.put r (.ins 0,[.ref f,.ref a,.str σ.name,.int ((σ.rows + 1:Nat):Int),.ref n]) = y:=⟨_,rfl⟩
  rw [hh1] at T1 o1
  have nx1:h1.next = h.next:=by rw [← hh1]; simp
  have kr:Kp [r] h h1:=hh1 ▸ Kp.put (by rw [R.hr]; rfl) (by simp)
  have hrl:=AH.lt R.hr
  have hcl1:=AH.lt T1.R.hc
  have b3:(lfS (aAugF 0 3 (aVar 0) (aC (.int 1)))) S1 h = some (.ar (.nx S1),h1):=by
    have:(aAugF 0 3 (aVar 0) (aC (.int 1))) S1 h = some (.nx S1,h1):=by
      rw [← hh1]
      simp [S1,taS,R.hr]
    rw [ev_lfS,this]
    rfl
  have R1:=T1.R
  have rz:∀ o,xRaise 0 (aVar 2) S1 o = some (.ex 0 (.int (pl:Nat)) S1,o):=fun o=>ev_xraise (show (aVar 2) S1 o = some (.int (pl:Nat),o) from rfl) (okArg_nat hp)
  have t4:(aTst (aOp2 aGt (aFld 0 3 (aVar 0)) (aC (.int 24)))) S1 h1 = some (decide (24 < σ.rows + 1),h1):=by
    have e:decide ((24:Int) < ((σ.rows + 1:Nat):Int)) = decide (24 < σ.rows + 1):=decide_eq_decide.mpr (by omega)
    have fr:(aFld 0 3 (aVar 0)) S1 h1 = some (.int ((σ.rows + 1:Nat):Int),h1):=by
      have:=R1.hr
      simp [S1,taS,this]
    rw [ev_tst,ev_op2,fr,op2K_some,ev_c,op2J_some,ev_gt,e,tstK_some]
  have pre:∀ {X:Option (ARX × AH)},(xSeq (xIf (lfT (aTst (aOp2 aGt (aFld 0 3 (aVar 0)) (aC (.int 24))))) (xRaise 0 (aVar 2)) (lfS aPass)) (xIf (lfT (aTst (aOp2 aEq (aVar 3) (aArgs (mkF .lst) (aCons (aC (.str "end")) aNil))))) (lfS (aExp (aMeth 0 F_Reader_close [] (aVar 0) aNil))) (xIf (lfT (aTst (aOp2 aEq (aVar 3) (aArgs (mkF .lst) (aCons (aC (.str "else")) aNil))))) (xExp (xMeth 0 F_Reader_turnX (aVar 0) (aCons (aVar 2) aNil))) (xExp (xMeth 0 F_Reader_plainX (aVar 0) (aCons (aVar 3) (aCons (aVar 2) aNil))))))) S1 h1 = X → F_Reader_takeX [.ref r,.str row,.int (pl:Nat)] h = fnXK X:=fun e=>by
    rw [takeX_run,B_Reader_takeX,xseq_step b0,xseq_step b1,xseq_step b2,xseq_step b3,e]
  have u0:stepR σ (w :: q) pl = restR σ (w :: q) pl:=by unfold stepR restR; rw [if_neg hnm,if_neg hne]
  unfold restR at u0
  by_cases h2:24 < σ.rows + 1
  · rw [if_pos h2] at u0
    refine .inl ⟨h1,u0,?_,kr⟩
    rw [decide_eq_true h2] at t4
    rw [pre (xseq_ex (c:=0) (v:=.int (pl:Nat)) (s':=S1) (h':=h1) (by
      rw [ev_xif]
      show xifK ((aTst _ S1 h1).bind _) _ _ S1 = _
      rw [t4]
      exact rz h1))]
    rfl
  rw [if_neg h2] at u0
  rw [decide_eq_false h2] at t4
  have b4:(xIf (lfT (aTst (aOp2 aGt (aFld 0 3 (aVar 0)) (aC (.int 24))))) (xRaise 0 (aVar 2)) (lfS aPass)) S1 h1 = some (.ar (.nx S1),h1):=by
    rw [ev_xif]
    show xifK ((aTst _ S1 h1).bind _) _ _ S1 = _
    rw [t4]
    rfl
  have tend:(aTst (aOp2 aEq (aVar 3) (aArgs (mkF .lst) (aCons (aC (.str "end")) aNil)))) S1 h1 = some (decide (w :: q = [("end" : Str)]),h1):=by
    rw [ev_tst,eq_oneS (v3 h1),tstK_some]
  have telse:(aTst (aOp2 aEq (aVar 3) (aArgs (mkF .lst) (aCons (aC (.str "else")) aNil)))) S1 h1 = some (decide (w :: q = [("else" : Str)]),h1):=by
    rw [ev_tst,eq_oneS (v3 h1),tstK_some]
  have v0:(aVar 0) S1 h1 = some (.ref r,h1):=rfl
  have v2:(aVar 2) S1 h1 = some (.int (pl:Nat),h1):=rfl
  have oth1:∀ {h'},Oth h1 h' a n c → Oth h h' a n c:=fun o v zs hv L=>o v zs hv (o1 v zs L)
  by_cases h3:w :: q = [("end" : Str)]
  · rw [if_pos h3] at u0
    have hM0:M ≠ []:=fun e=>hne ⟨h3,by rw [← hM,e]; rfl⟩
    obtain ⟨M0,q0,rfl⟩:∃ M0 q0,M = M0 ++ [q0]:=ends_ hM0
    obtain ⟨h',ys,e,T',ly,oo,nx,lw⟩:=close_ok T1 (by omega)
    refine .inr ⟨h',_,ys,u0,?_,rfl,rfl,⟨⟨M0,B,T',?_,hB⟩,hnm⟩,ly,?_,Nat.le_succ _,oth1 oo,by omega,.lw hrl kr lw⟩
    · rw [decide_eq_true h3] at tend
      rw [pre (xseq_step b4),ev_xif]
      show fnXK (xifK ((aTst _ S1 h1).bind _) _ _ S1) = _
      rw [tend]
      have ex:(aExp (aMeth 0 F_Reader_close [] (aVar 0) aNil)) S1 h1 = some (.nx S1,h'):=by
        rw [ev_exp,ev_meth,v0]
        simp only [Option.bind_some,look_ref,R1.hr,if_true,ev_nil,List.append_nil,e]
        rfl
      show fnXK (lfS _ S1 h1) = _
      rw [ev_lfS,ex]
      rfl
    · rw [← hM,last_open]
      simp
    · show σ.opn.dropLast.length ≤ 4
      rw [List.length_dropLast]
      omega
  rw [if_neg h3] at u0
  rw [decide_eq_false h3] at tend
  by_cases h4:w :: q = [("else" : Str)]
  · rw [if_pos h4] at u0
    rw [decide_eq_true h4] at telse
    have go:∀ {o:Out} {h':AH},F_Reader_turnX [.ref r,.int (pl:Nat)] h1 = some (o,h') → F_Reader_takeX [.ref r,.str row,.int (pl:Nat)] h = fnXK (xexpK (some (o,h')) S1):=fun {o h'} e=>by
      rw [pre (xseq_step b4),ev_xif]
      show fnXK (xifK ((aTst _ S1 h1).bind _) _ _ S1) = _
      rw [tend]
      show fnXK (xIf _ _ _ S1 h1) = _
      rw [ev_xif]
      show fnXK (xifK ((aTst _ S1 h1).bind _) _ _ S1) = _
      rw [telse]
      show fnXK (xExp _ S1 h1) = _
      rw [ev_xexp,ev_xmeth (v:=.ref r) (h1:=h1) (h2:=h1) (as:=[.int (pl:Nat)]) rfl (by rw [look_ref]; exact R1.hr) (by rw [ev_cons,v2,consK_some,ev_nil,consJ_some]),e]
    by_cases hc:∃ M0 w0 k0,M = M0 ++ [(w0,k0,none)] ∧ (w0 = ("try" : Str) ∨ w0 = ("when" : Str))
    · obtain ⟨M0,w0,k0,rfl,hw0⟩:=hc
      have hlast:σ.opn.getLast? = some w0:=by rw [← hM,last_open]; simp [openW]
      rw [if_pos (by rw [hlast]; rcases hw0 with e | e <;> simp [e])] at u0
      have hk0:k0 < xs.length:=(T1.at_ (w0,k0,none) (by simp)).1
      obtain ⟨s,hs⟩:∃ s,xs[k0]? = some s:=⟨_,List.getElem?_eq_getElem hk0⟩
      obtain ⟨s1,s2,y,z,hy⟩:=T1.st s (List.mem_of_getElem? hs)
      have s3:s ≠ c:=step_ne ⟨y,z,hy⟩ R1.hc
      have R1':=R1
      rw [List.map_append] at R1'
      obtain ⟨h',e,R',g,gs,nx,kp⟩:=turnX_ok (pl:=pl) R1' hw0 (get_map hs) hy s1 s2 s3 (nest_d M0) (by rw [List.length_map]; omega)
      have nst:=step_not_n T1
      have hst:∀ y,StepC h1 y → StepC h' y:=fun u hu=>by
        refine hu.keep kp fun hm=>?_
        simp at hm
        rcases hm with rfl | rfl | rfl
        · exact absurd hu nst
        · exact absurd rfl (step_ne hu R1.hc)
        · exact .of rfl gs
      have lx:(xs.map AV.ref).length = xs.length:=List.length_map ..
      refine .inr ⟨h',_,xs ++ [h1.next],u0,by rw [go e]; rfl,rfl,rfl,⟨⟨M0 ++ [(w0,k0,some xs.length)],B,⟨?_,fun x hx=>?_,fun p hp=>?_⟩,?_,hB⟩,hnm⟩,by simp,?_,Nat.le_succ _,oth1 fun v zs hv ⟨l1,l2,l3,l4⟩=>⟨kp.get l1 fun hm=>?_,l2,l3,fun x hx=>⟨(l4 x hx).1,(l4 x hx).2.1,hst x (l4 x hx).2.2⟩⟩,by omega,.of hrl kr hcl1 kp (fun u hu=>by simp at hu; rcases hu with e | e | e <;> simp [e]; exact .inr (.inr (.inr (List.mem_of_getElem? hs)))) (fun y hy=>by simpa using hy)⟩
      · rw [List.map_append,List.map_append]
        rw [lx] at R'
        exact R'
      · rcases List.mem_append.mp hx with hx | hx
        · exact ⟨(T1.st x hx).1,(T1.st x hx).2.1,hst x (T1.st x hx).2.2⟩
        · rw [List.mem_singleton.mp hx]
          exact ⟨fun e=>by have:=AH.lt R1.ha; omega,fun e=>by have:=AH.lt R1.hn; omega,.of rfl g⟩
      · rw [List.length_append,List.length_singleton]
        rcases List.mem_append.mp hp with hp | hp
        · have:=T1.at_ p (List.mem_append_left _ hp)
          exact ⟨by omega,fun k hk=>by have:=this.2 k hk; omega⟩
        · rw [List.mem_singleton.mp hp]
          refine ⟨by show k0 < _; omega,fun k hk=>?_⟩
          have:xs.length = k:=Option.some.inj hk
          omega
      · show _ = σ.opn.dropLast ++ [("else" : Str)]
        rw [← hM,last_open,last_open]
        simp [openW]
      · show (σ.opn.dropLast ++ [("else" : Str)]).length ≤ 4
        rw [← hM,last_open]
        simp
        have:(M0 ++ [(w0,k0,(none:Option Nat))]).length ≤ 4:=by rw [lM]; exact ho
        simp at this
        omega
      · simp at hm
        rcases hm with e | e | e
        · exact l3 e
        · exact hv e
        · exact step_ne ⟨y,z,hy⟩ l1 e.symm
    · have hno:¬ (σ.opn.getLast? = some ("try" : Str) ∨ σ.opn.getLast? = some ("when" : Str)):=fun hh=>by
        by_cases hM0:M = []
        · rw [← hM,hM0] at hh
          simp at hh
        · obtain ⟨M0,q0,rfl⟩:∃ M0 q0,M = M0 ++ [q0]:=ends_ hM0
          obtain ⟨w0,k0,o0⟩:=q0
          have hlast:σ.opn.getLast? = some (openW (w0,k0,o0)):=by rw [← hM,last_open]; simp
          rw [hlast] at hh
          cases o0 with
          | none=>exact hc ⟨M0,w0,k0,rfl,by simpa [openW] using hh⟩
          | some j =>
            have e1:¬ ("else" : Str) = ("try" : Str):=by decide +kernel
            have e2:¬ ("else" : Str) = ("when" : Str):=by decide +kernel
            simp [openW,e1,e2] at hh
      rw [if_neg hno] at u0
      refine .inl ⟨h1,u0,?_,kr⟩
      by_cases hM0:M = []
      · have e:=turnX_no (pl:=pl) (o:=none) (W := "") (k:=0) R1 hp (.inl ⟨by rw [hM0]; rfl,rfl,rfl,rfl⟩) (fun hh=>by
          have e1:¬ ("" : Str) = ("try" : Str):=by decide +kernel
          have e2:¬ ("" : Str) = ("when" : Str):=by decide +kernel
          rcases hh.1 with e | e
          · exact e1 e
          · exact e2 e)
        rw [go e]
        rfl
      · obtain ⟨M0,q0,rfl⟩:∃ M0 q0,M = M0 ++ [q0]:=ends_ hM0
        obtain ⟨w0,k0,o0⟩:=q0
        have e:=turnX_no (pl:=pl) (o:=o0) (W:=w0) (k:=k0) R1 hp (.inr ⟨M0.map nestV,by rw [List.map_append]; rfl⟩) (fun hh=>hc ⟨M0,w0,k0,by rw [hh.2],hh.1⟩)
        rw [go e]
        rfl
  rw [if_neg h4] at u0
  rw [decide_eq_false h4] at telse
  have go:∀ {o:Out} {h':AH},F_Reader_plainX [.ref r,strsV (w :: q),.int (pl:Nat)] h1 = some (o,h') → F_Reader_takeX [.ref r,.str row,.int (pl:Nat)] h = fnXK (xexpK (some (o,h')) S1):=fun {o h'} e=>by
    rw [pre (xseq_step b4),ev_xif]
    show fnXK (xifK ((aTst _ S1 h1).bind _) _ _ S1) = _
    rw [tend]
    show fnXK (xIf _ _ _ S1 h1) = _
    rw [ev_xif]
    show fnXK (xifK ((aTst _ S1 h1).bind _) _ _ S1) = _
    rw [telse]
    show fnXK (xExp _ S1 h1) = _
    rw [ev_xexp,ev_xmeth (v:=.ref r) (h1:=h1) (h2:=h1) (as:=[strsV (w :: q),.int (pl:Nat)]) rfl (by rw [look_ref]; exact R1.hr) (by rw [ev_cons,v3,consK_some,ev_cons,v2,consK_some,ev_nil,consJ_some,consJ_some]),e]
  have hp1:=plainX_ok (pl:=pl) R1 hz (by omega) (by rw [List.length_map,lB]; exact hA) (by rw [List.length_map]; omega) (by rw [List.length_map,lM]; exact ho) hp
  by_cases hrow2:rowB (w :: q) = true ∧ ¬ (w ∈ blocksL ∧ (M.map nestV).length = 4)
  · rw [if_pos hrow2] at hp1
    obtain ⟨h',e,R',g,nx,kp⟩:=hp1
    rw [if_pos hrow2.1] at u0
    let o':List Str:=if w ∈ blocksL then σ.opn ++ [w] else σ.opn
    have lo:o'.length ≤ 4:=by
      show (if w ∈ blocksL then σ.opn ++ [w] else σ.opn).length ≤ 4
      by_cases hb:w ∈ blocksL
      · have:¬ (M.map nestV).length = 4:=fun e=>hrow2.2 ⟨hb,e⟩
        rw [List.length_map] at this
        rw [if_pos hb,List.length_append,List.length_singleton]
        omega
      · rw [if_neg hb]
        exact ho
    rw [if_neg (by show ¬ 4 < o'.length; omega)] at u0
    have hst:∀ y,StepC h1 y → StepC h' y:=fun u hu=>by
      refine hu.keep kp fun hm=>?_
      simp at hm
      rcases hm with rfl | rfl | rfl
      · obtain ⟨b,z,e1⟩:=hu
        have:=R1.ha
        rw [e1] at this
        have:=(Prod.mk.inj (Option.some.inj this)).2
        cases B with
        | nil=>cases this
        | cons m B=>cases this
      · exact absurd hu (step_not_n T1)
      · exact absurd rfl (step_ne hu R1.hc)
    let B':List Ask:=if w ∈ othersL then B ++ [((pl,σ.name,q.headD ""),w)] else B
    have eA:(B.map askR ++ askRow pl σ.name w q) = B'.map askR:=by
      show _ = (if w ∈ othersL then B ++ [((pl,σ.name,q.headD ""),w)] else B).map askR
      unfold askRow
      split
      · rw [List.map_append]
        rfl
      · simp
    let M':List Nst:=if w ∈ blocksL then M ++ [(w,xs.length,none)] else M
    have eN:M.map nestV ++ nestRow w (xs.map AV.ref).length = M'.map nestV:=by
      show _ = (if w ∈ blocksL then M ++ [(w,xs.length,none)] else M).map nestV
      unfold nestRow
      rw [List.length_map]
      split
      · rw [List.map_append]
        rfl
      · simp
    rw [eA,eN] at R'
    refine .inr ⟨h',_,xs ++ [h1.next],u0,by rw [go e]; rfl,rfl,rfl,⟨⟨M',B',⟨?_,fun x hx=>?_,fun p hp=>?_⟩,?_,?_⟩,hnm⟩,by simp,lo,?_,oth1 fun v zs hv ⟨l1,l2,l3,l4⟩=>⟨kp.get l1 fun hm=>?_,l2,l3,fun x hx=>⟨(l4 x hx).1,(l4 x hx).2.1,hst x (l4 x hx).2.2⟩⟩,by omega,.of hrl kr hcl1 kp (fun u hu=>by simp at hu; rcases hu with e | e | e <;> simp [e]) (fun y hy=>by simpa using hy)⟩
    · rw [List.map_append]
      exact R'
    · rcases List.mem_append.mp hx with hx | hx
      · exact ⟨(T1.st x hx).1,(T1.st x hx).2.1,hst x (T1.st x hx).2.2⟩
      · rw [List.mem_singleton.mp hx]
        exact ⟨fun e=>by have:=AH.lt R1.ha; omega,fun e=>by have:=AH.lt R1.hn; omega,.of (by cases q <;> rfl) g⟩
    · rw [List.length_append,List.length_singleton]
      have hp:p ∈ (if w ∈ blocksL then M ++ [(w,xs.length,none)] else M):=hp
      by_cases hb:w ∈ blocksL
      · rw [if_pos hb] at hp
        rcases List.mem_append.mp hp with hp | hp
        · have:=T1.at_ p hp
          exact ⟨by omega,fun k hk=>by have:=this.2 k hk; omega⟩
        · rw [List.mem_singleton.mp hp]
          exact ⟨Nat.lt_succ_self _,fun k hk=>by cases hk⟩
      · rw [if_neg hb] at hp
        have:=T1.at_ p hp
        exact ⟨by omega,fun k hk=>by have:=this.2 k hk; omega⟩
    · show (if w ∈ blocksL then M ++ [(w,xs.length,none)] else M).map openW = (if w ∈ blocksL then σ.opn ++ [w] else σ.opn)
      by_cases hb:w ∈ blocksL
      · rw [if_pos hb,if_pos hb,last_open,hM]
        rfl
      · rw [if_neg hb,if_neg hb,hM]
    · show (if w ∈ othersL then B ++ [((pl,σ.name,q.headD ""),w)] else B).map (·.1) = (if w ∈ othersL then σ.asked ++ [(pl,σ.name,(w :: q).getD 1 "")] else σ.asked)
      by_cases hb:w ∈ othersL
      · rw [if_pos hb,if_pos hb,List.map_append,hB]
        cases q <;> rfl
      · rw [if_neg hb,if_neg hb,hB]
    · show (if w ∈ othersL then σ.asked ++ [(pl,σ.name,(w :: q).getD 1 "")] else σ.asked).length ≤ _
      split
      · simp
      · omega
    · simp at hm
      rcases hm with e | e | e
      · exact l2 e
      · exact l3 e
      · exact hv e
  · rw [if_neg hrow2] at hp1
    refine .inl ⟨h1,?_,by rw [go hp1]; rfl,kr⟩
    rw [u0]
    by_cases hr1:rowB (w :: q) = true
    · rw [if_pos hr1]
      have hb:w ∈ blocksL ∧ (M.map nestV).length = 4:=by
        by_cases hb:w ∈ blocksL ∧ (M.map nestV).length = 4
        · exact hb
        · exact absurd ⟨hr1,hb⟩ hrow2
      have l4:σ.opn.length = 4:=by rw [← lM,← hb.2,List.length_map]
      have:((w :: q).headD "") = w:=rfl
      rw [this,if_pos hb.1,if_pos (by rw [List.length_append,List.length_singleton]; omega)]
    · rw [if_neg hr1]
end
end K03
end
section
namespace K03
open PySem PySem.Spec PyProof.Rows L2 Rp K03
theorem kIx_none {ks:List Key} {k:Key} (h:k ∉ ks):kIx ks k = none:=by
  unfold kIx
  rw [List.findIdx?_eq_none_iff]
  intro x hx
  exact decide_eq_false fun e=>h (e ▸ hx)
theorem kIx_some {ks:List Key} {k:Key} (h:k ∉ ks):kIx (ks ++ [k]) k = some ks.length:=by
  unfold kIx
  rw [List.findIdx?_append]
  have:=kIx_none h
  unfold kIx at this
  rw [this]
  simp
theorem dPut_new {ks:List Key} {fs:List AV} {k:Key} {v:AV} (h:k ∉ ks):dPut ks fs k v = (ks ++ [k],fs ++ [v]):=by
  unfold dPut
  rw [kIx_none h]
  simp
theorem kIx_mem {ks:List Key} {k:Key}:(kIx ks k).isSome = true ↔ k ∈ ks:=by
  unfold kIx
  induction ks with
  | nil=>simp
  | cons x ks ih =>
    rw [List.findIdx?_cons]
    by_cases q:x = k
    · simp [q]
    · have q2:¬ k = x:=fun e=>q e.symm
      simp [q,q2] at ih ⊢
def keysT (L:List Str):List Key:=L.map fun x=>.inr x
theorem keysT_mem {L:List Str} {b:Str}:(.inr b:Key) ∈ keysT L ↔ b ∈ L:=by
  unfold keysT
  rw [List.mem_map]
  exact ⟨fun ⟨x,hx,e⟩=>by rw [← Sum.inr.inj e]; exact hx,fun hb=>⟨b,hb,rfl⟩⟩
theorem in_cell {L:List Str} {f:Nat} {fs:List AV} {h:AH} {b:Str} (e:h.get f = some (.dct (keysT L),fs)):aIn (.str b) (.ref f) h = some (.bl (decide (b ∈ L)),h):=by
  have:=in_dct (ng':=false) (x:=b) (h:=h) (b:=.ref f) (ks:=keysT L) (xs:=fs) (by simp [dLook,e]) (by simp [aInD,e]) rfl
  have k:(kIx (keysT L) (.inr b)).isSome = decide (b ∈ L):=by
    by_cases hb:b ∈ L
    · rw [decide_eq_true hb,kIx_mem]
      exact keysT_mem.mpr hb
    · rw [decide_eq_false hb,kIx_none (fun m=>hb (keysT_mem.mp m))]
      rfl
  rw [show aIn (.str b) (.ref f) h = aIn3 false (.str b) (.ref f) h from rfl,this,k]
  rfl
def begN (L:List Str):List Str → Bool
  | [b]=>nameB b && !decide (b ∈ L)
  | _=>false
theorem begN_no {L:List Str}:∀ {q:List Str},¬ q.length = 1 → begN L q = false
  | [],_=>rfl
  | [_],h=>absurd rfl h
  | _ :: _ :: _,_=>rfl
def begB (L:List Str) (w:Str) (q:List Str):Bool:=decide (w = ("task" : Str)) && begN L q
section
variable {h h':AH} {r f a n pl:Nat} {L:List Str} {fs A:List AV} {rows:Nat} {w:Str} {q:List Str} {σ:RS}
theorem beginX_ok (O:Out_ h r f a n (keysT L) fs A rows) (hL:L.length ≤ 4) (hF:fs.length = L.length) (hz:∀ x ∈ w :: q,x.length ≤ 100000) (hq:q.length ≤ 16000) (hp:pl ≤ 100000) :
    if begB L w q = true ∧ L.length ≤ 3 then
      ∃ h' b,q = [b] ∧ F_Reader_beginX [.ref r,strsV (w :: q),.int (pl:Nat)] h = some (.ok .non,h') ∧ Rd h' r f a n h.next b (keysT (L ++ [b])) (fs ++ [.ref h.next]) A [] [] 0 ∧ Kp [r,f] h h' ∧ h'.next = h.next + 1
    else F_Reader_beginX [.ref r,strsV (w :: q),.int (pl:Nat)] h = some (.ex 0 (.int (pl:Nat)),h):=by
  let S0:LS:=[some (.ref r),some (strsV (w :: q)),some (.int (pl:Nat)),none,none]
  let S1:LS:=[some (.ref r),some (strsV (w :: q)),some (.int (pl:Nat)),some (.str w),some (strsV q)]
  have run:F_Reader_beginX [.ref r,strsV (w :: q),.int (pl:Nat)] h = fnXK (B_Reader_beginX S0 h):=by
    simp only [F_Reader_beginX]
    rw [evx_fn (by rfl)]
    rfl
  have b1:(lfS (aAsg (aVar 1) (gStar 2 1 (gsCons (gNm 3) (gsCons (gNm 4) gsNil))))) S0 h = some (.ar (.nx S1),h):=by
    have h16:q.length ≤ 16383:=by omega
    have e1:List.drop q.length (q.map AV.str) = []:=List.drop_eq_nil_of_le (by simp)
    have e2:List.take q.length (q.map AV.str) = q.map AV.str:=List.take_of_length_le (by simp)
    have:(aAsg (aVar 1) (gStar 2 1 (gsCons (gNm 3) (gsCons (gNm 4) gsNil)))) S0 h = some (.nx S1,h):=by
      rw [ev_asg,show (aVar 1) S0 h = some (.nod .lst (.str w :: q.map .str),h) from rfl]
      simp [ev_gStar,h16,e1,e2]
      rfl
    rw [ev_lfS,this]
    rfl
  have v4:∀ o,(aVar 4) S1 o = some (strsV q,o):=fun o=>rfl
  have rz:∀ o,xRaise 0 (aVar 2) S1 o = some (.ex 0 (.int (pl:Nat)) S1,o):=fun o=>ev_xraise (show (aVar 2) S1 o = some (.int (pl:Nat),o) from rfl) (okArg_nat hp)
  have t1:(aTst (aOp2 aNe (aVar 3) (aC (.str "task")))) S1 h = some (!decide (w = ("task" : Str)),h):=by
    rw [ev_tst,ev_op2,show (aVar 3) S1 h = some (.str w,h) from rfl,op2K_some,ev_c,op2J_some,ne_ss,tstK_some]
  have t2:(aTst (aOp2 aNe (aArgs (one aLenV) (aCons (aVar 4) aNil)) (aC (.int 1)))) S1 h = some (!decide (q.length = 1),h):=by
    have e:decide ((q.length:Int) = 1) = decide (q.length = 1):=decide_eq_decide.mpr (by omega)
    have l:aLenV (strsV q) h = some (.int (q.length:Nat),h):=by
      unfold strsV
      simp
    rw [ev_tst,ev_op2,ev_args,ev_cons,v4,consK_some,ev_nil,consJ_some,argsK_some,ev_one,l,op2K_some,ev_c,op2J_some,ne_ii,e,tstK_some]
  have ix0:∀ {b:Str},q = [b] → ∀ o,(aOp2 aIx (aVar 4) (aC (.int 0))) S1 o = some (.str b,o):=fun {b} e o=>by
    rw [ev_op2,v4,op2K_some,ev_c,op2J_some,e]
    rfl
  have tt:(aOr (aTst (aOp2 aNe (aVar 3) (aC (.str "task")))) (aOr (aTst (aOp2 aNe (aArgs (one aLenV) (aCons (aVar 4) aNil)) (aC (.int 1)))) (aOr (aNot (aTst (aCall F_is_name [] (aCons (aOp2 aIx (aVar 4) (aC (.int 0))) aNil)))) (aTst (aOp2 aIn (aOp2 aIx (aVar 4) (aC (.int 0))) (aFld 0 0 (aVar 0))))))) S1 h = some (!begB L w q,h):=by
    unfold begB
    rw [ev_or,t1]
    cases hw:decide (w = ("task" : Str)) with
    | false=>rfl
    | true =>
    rw [Bool.true_and]
    rw [Bool.not_true,orK_f,ev_or,t2]
    by_cases hq1:q.length = 1
    · obtain ⟨b,hb⟩:=List.length_eq_one_iff.mp hq1
      have hbz:b.length ≤ 100000:=hz b (by rw [hb]; simp)
      have eb:begN L q = (nameB b && !decide (b ∈ L)):=by rw [hb]; rfl
      have fd:(aFld 0 0 (aVar 0)) S1 h = some (.ref f,h):=by simp [S1,O.hr]
      rw [eb,decide_eq_true hq1,Bool.not_true,orK_f,ev_or,ev_not,ev_tst,ev_call,ev_cons,ix0 hb,consK_some,ev_nil,consJ_some,argsK_some,List.append_nil,isname_b hbz,tstK_some,notK_some]
      cases nameB b with
      | false=>rfl
      | true =>
        rw [Bool.not_true,orK_f,ev_tst,ev_op2,ix0 hb,op2K_some,fd,op2J_some,in_cell O.hf,tstK_some,Bool.true_and,Bool.not_not]
    · rw [begN_no hq1,decide_eq_false hq1]
      rfl
  have b2:∀ g,begB L w q = g → (xIf (lfT (aOr (aTst (aOp2 aNe (aVar 3) (aC (.str "task")))) (aOr (aTst (aOp2 aNe (aArgs (one aLenV) (aCons (aVar 4) aNil)) (aC (.int 1)))) (aOr (aNot (aTst (aCall F_is_name [] (aCons (aOp2 aIx (aVar 4) (aC (.int 0))) aNil)))) (aTst (aOp2 aIn (aOp2 aIx (aVar 4) (aC (.int 0))) (aFld 0 0 (aVar 0)))))))) (xRaise 0 (aVar 2)) (lfS aPass)) S1 h = if g = true then some (.ar (.nx S1),h) else some (.ex 0 (.int (pl:Nat)) S1,h):=fun g e=>by
    rw [ev_xif]
    show xifK ((aOr _ _ S1 h).bind _) _ _ S1 = _
    rw [tt,e]
    cases g with
    | true=>rfl
    | false=>exact rz h
  have lenF:(aTst (aOp2 aEq (aArgs (one aLenV) (aCons (aFld 0 0 (aVar 0)) aNil)) (aC (.int 4)))) S1 h = some (decide (L.length = 4),h):=by
    have e:decide ((L.length:Int) = 4) = decide (L.length = 4):=decide_eq_decide.mpr (by omega)
    have fd:(aFld 0 0 (aVar 0)) S1 h = some (.ref f,h):=by simp [S1,O.hr]
    have l:aLenV (.ref f) h = some (.int (L.length:Nat),h):=by simp [O.hf,keysT]
    rw [ev_tst,ev_op2,ev_args,ev_cons,fd,consK_some,ev_nil,consJ_some,argsK_some,ev_one,l,op2K_some,ev_c,op2J_some,eq_ii,e,tstK_some]
  by_cases hb:begB L w q = true
  · have e2:=b2 true hb
    rw [if_pos rfl] at e2
    by_cases h4:L.length ≤ 3
    · rw [if_pos ⟨hb,h4⟩]
      obtain ⟨b,hqb,hbL⟩:∃ b,q = [b] ∧ b ∉ L:=by
        unfold begB at hb
        by_cases hq1:q.length = 1
        · obtain ⟨b,e⟩:=List.length_eq_one_iff.mp hq1
          rw [e] at hb
          simp [begN] at hb
          exact ⟨b,e,hb.2.2⟩
        · rw [begN_no hq1] at hb
          simp at hb
      have e3:(xIf (lfT (aTst (aOp2 aEq (aArgs (one aLenV) (aCons (aFld 0 0 (aVar 0)) aNil)) (aC (.int 4))))) (xRaise 0 (aVar 2)) (lfS aPass)) S1 h = some (.ar (.nx S1),h):=by
        rw [decide_eq_false (by omega)] at lenF
        rw [ev_xif]
        show xifK ((aTst _ S1 h).bind _) _ _ S1 = _
        rw [lenF]
        rfl
      obtain ⟨h1,hh1⟩:∃ y,h.put r (.ins 0,[.ref f,.ref a,.str b,.int (rows:Nat),.ref n]) = y:=⟨_,rfl⟩
      have r1:h1.get r = some (.ins 0,[.ref f,.ref a,.str b,.int (rows:Nat),.ref n]):=hh1 ▸ put_own O.hr
      have fr:f ≠ r:=get_ne O.hf O.hr nofun
      have ar:a ≠ r:=get_ne O.ha O.hr nofun
      have nr:n ≠ r:=get_ne O.hn O.hr nofun
      have af:a ≠ f:=get_ne O.ha O.hf nofun
      have nf:n ≠ f:=get_ne O.hn O.hf nofun
      have nx1:h1.next = h.next:=by rw [← hh1]; simp
      obtain ⟨h2,hh2⟩:∃ y,h1.new (.lst,[]) = y:=⟨_,rfl⟩
      have g2:h2.get h.next = some (.lst,[]):=nx1 ▸ hh2 ▸ new_own
      have f2:h2.get f = some (.dct (keysT L),fs):=hh2 ▸ new_oth (hh1 ▸ put_oth O.hf O.hr fr)
      have r2:h2.get r = some (.ins 0,[.ref f,.ref a,.str b,.int (rows:Nat),.ref n]):=hh2 ▸ new_oth r1
      have nx2:h2.next = h.next + 1:=by rw [← hh2,← nx1]; simp
      obtain ⟨h3,hh3⟩:∃ y,h2.put f (.dct (keysT L ++ [.inr b]),fs ++ [.ref h.next]) = y:=⟨_,rfl⟩
      have r3:h3.get r = some (.ins 0,[.ref f,.ref a,.str b,.int (rows:Nat),.ref n]):=hh3 ▸ put_oth r2 f2 fr.symm
      obtain ⟨h4',hh4⟩:∃ y,h3.put r (.ins 0,[.ref f,.ref a,.str b,.int 0,.ref n]) = y:=⟨_,rfl⟩
      have nx4:h4'.next = h.next + 1:=by rw [← hh4,← hh3]; simpa using nx2
      have old:∀ {y:Nat} {cc:Kd × List AV},h.get y = some cc → y ≠ f → y ≠ r → h4'.get y = some cc:=fun e n1 n2=>hh4 ▸ put_oth (hh3 ▸ put_oth (hh2 ▸ new_oth (hh1 ▸ put_oth e O.hr n2)) f2 n1) r3 n2
      have lf:=AH.lt O.hf
      have lr:=AH.lt O.hr
      have la:=AH.lt O.ha
      have ln:=AH.lt O.hn
      have nk:(.inr b:Key) ∉ keysT L:=fun m=>hbL (keysT_mem.mp m)
      have lk:(keysT L).length = fs.length:=by rw [hF]; simp [keysT]
      have p1:(aSetF (aOp2 aIx (aVar 4) (aC (.int 0))) 0 2 (aVar 0)) S1 h = some (.nx S1,h1):=by
        rw [ev_setF,ix0 hqb]
        simp [S1,O.hr,hh1]
      have p2:(aAsg (aArgs (mkM .lst) aNil) (gIx (aFld 0 0 (aVar 0)) (aFld 0 2 (aVar 0)))) S1 h1 = some (.nx S1,h3):=by
        have fd:(aFld 0 0 (aVar 0)) S1 h2 = some (.ref f,h2):=by simp [S1,r2]
        have nn:(aFld 0 2 (aVar 0)) S1 h2 = some (.str b,h2):=by simp [S1,r2]
        have st:aSet (.ref f) (.str b) (.ref h.next) h2 = some h3:=by
          have hl:(keysT L).length < sizeLine:=by rw [sizeLine_eq,lk]; omega
          rw [set_ref,f2,setR_dct]
          simp only [toKey,Option.bind_some,if_pos hl,dPut_new nk,hh3]
        rw [ev_asg,ev_args,ev_nil,argsK_some,mkM_ok (Nat.zero_le _),hh2,nx1]
        show Option.bind ((gIx _ _) _ S1 h2) _ = _
        rw [ev_gIx,fd,gixK_some,nn,gixJ_some,st]
        rfl
      have p3:(aSetF (aC (.int 0)) 0 3 (aVar 0)) S1 h3 = some (.nx S1,h4'):=by
        simp [S1,r3,hh4]
      refine ⟨h4',b,hqb,?_,⟨hh4 ▸ put_own r3,?_,?_,old O.ha af ar,old O.hn nf nr,?_,O.an,by omega,by omega,rfl⟩,?_,nx4⟩
      · rw [run,B_Reader_beginX,xseq_step b1,xseq_step e2,xseq_step e3,ev_lfS,seq_step p1,seq_step p2,p3]
        rfl
      · have:keysT (L ++ [b]) = keysT L ++ [.inr b]:=by simp [keysT]
        rw [this]
        exact hh4 ▸ put_oth (hh3 ▸ put_own f2) r3 fr
      · have:keysT (L ++ [b]) = keysT L ++ [.inr b]:=by simp [keysT]
        rw [this,kIx_some nk,lk]
        simp
      · exact hh4 ▸ put_oth (hh3 ▸ put_oth g2 f2 (by omega)) r3 (by omega)
      · exact (((hh1 ▸ Kp.put (by rw [O.hr]; rfl) (by simp):Kp [r,f] h h1).trans (hh2 ▸ Kp.new)).trans (hh3 ▸ Kp.put (by rw [f2]; rfl) (by simp))).trans (hh4 ▸ Kp.put (by rw [r3]; rfl) (by simp))
    · rw [if_neg fun hh=>h4 hh.2]
      rw [run,B_Reader_beginX,xseq_step b1,xseq_step e2,xseq_ex (c:=0) (v:=.int (pl:Nat)) (s':=S1) (h':=h)]
      · rfl
      · rw [decide_eq_true (by omega)] at lenF
        rw [ev_xif]
        show xifK ((aTst _ S1 h).bind _) _ _ S1 = _
        rw [lenF]
        exact rz h
  · rw [if_neg fun hh=>hb hh.1]
    have e2:=b2 false (by simpa using hb)
    rw [if_neg (by simp)] at e2
    rw [run,B_Reader_beginX,xseq_step b1,xseq_ex e2]
    rfl
end
end K03
end
section
namespace K03
open PySem PySem.Spec PyProof.Rows L2 Rp K03
theorem begR_B {σ:RS} {w:Str} {q:List Str}:begR σ (w :: q) = if begB σ.names w q = true ∧ σ.names.length ≤ 3 then some { σ with names:=σ.names ++ [q.headD ""],name:=q.headD "",rows:=0 } else none:=by
  by_cases hq1:q.length = 1
  · obtain ⟨b,rfl⟩:=List.length_eq_one_iff.mp hq1
    show (if w = ("task" : Str) ∧ nameB b = true ∧ b ∉ σ.names ∧ σ.names.length ≤ 3 then _ else none) = _
    have:(w = ("task" : Str) ∧ nameB b = true ∧ b ∉ σ.names ∧ σ.names.length ≤ 3) ↔ (begB σ.names w [b] = true ∧ σ.names.length ≤ 3):=by
      simp [begB,begN,and_assoc]
    by_cases hc:w = ("task" : Str) ∧ nameB b = true ∧ b ∉ σ.names ∧ σ.names.length ≤ 3
    · rw [if_pos hc,if_pos (this.mp hc)]
      rfl
    · rw [if_neg hc,if_neg fun hh=>hc (this.mpr hh)]
  · have e:begB σ.names w q = false:=by
      unfold begB
      rw [begN_no hq1,Bool.and_false]
    rw [e,if_neg (by simp)]
    match q,hq1 with
    | [],_=>rfl
    | [_],h=>exact absurd rfl h
    | _ :: _ :: _,_=>rfl
section
variable {h h':AH} {r f a n pl:Nat} {fs:List AV} {rows:Nat} {row w:Str} {q:List Str} {σ:RS} {B:List Ask}
theorem take_out (O:Out_ h r f a n (keysT σ.names) fs (B.map askR) rows) (hN:σ.name = ("" : Str)) (hO:σ.opn = []) (hB:B.map (·.1) = σ.asked) (hL:σ.names.length ≤ 4) (hF:fs.length = σ.names.length) (hX:Txt.split row (Str.ofString " ") = w :: q) (hrow:row.length ≤ 100000) (hz:∀ x ∈ w :: q,x.length ≤ 100000) (hq:q.length ≤ 15000) (hp:pl ≤ 100000) :
    (stepR σ (w :: q) pl = none ∧ F_Reader_takeX [.ref r,.str row,.int (pl:Nat)] h = some (.ex 0 (.int (pl:Nat)),h)) ∨
    ∃ h' b,stepR σ (w :: q) pl = some { σ with names:=σ.names ++ [b],name:=b,rows:=0 } ∧ F_Reader_takeX [.ref r,.str row,.int (pl:Nat)] h = some (.ok .non,h') ∧ σ.names.length ≤ 3 ∧ In_ h' r f a n h.next (keysT (σ.names ++ [b])) (fs ++ [.ref h.next]) { σ with names:=σ.names ++ [b],name:=b,rows:=0 } [] ∧ (∀ v zs,ListC h a n v zs → ListC h' a n v zs) ∧ h.next ≤ h'.next ∧ Kp [r,f] h h':=by
  let S0:=taS r pl row none
  let S1:=taS r pl row (some (strsV (w :: q)))
  have b0:(lfS (aAsg (aBM "str" (aSplit mkF) (aVar 1) (aCons (aC (.str " ")) aNil)) (gNm 3))) S0 h = some (.ar (.nx S1),h):=by
    rw [ev_lfS,ev_asg,split_any hrow hX (by simp; omega) S0 rfl]
    rfl
  have v0:(aVar 0) S1 h = some (.ref r,h):=rfl
  have v2:(aVar 2) S1 h = some (.int (pl:Nat),h):=rfl
  have v3:(aVar 3) S1 h = some (strsV (w :: q),h):=rfl
  have fnm:(aFld 0 2 (aVar 0)) S1 h = some (.non,h):=by simp [S1,taS,O.hr]
  have t:(aTst (aOp2 aIs (aFld 0 2 (aVar 0)) (aC .non))) S1 h = some (true,h):=by
    rw [ev_tst,ev_op2,fnm,op2K_some,ev_c,op2J_some]
    rfl
  have b1:∀ {o:Out} {h':AH},F_Reader_beginX [.ref r,strsV (w :: q),.int (pl:Nat)] h = some (o,h') → (xIf (lfT (aTst (aOp2 aIs (aFld 0 2 (aVar 0)) (aC .non)))) (xSeq (xExp (xMeth 0 F_Reader_beginX (aVar 0) (aCons (aVar 3) (aCons (aVar 2) aNil)))) (lfS aRetN)) (lfS aPass)) S1 h = (xSeq (xExp (fun _ _=>some (o,h'))) (lfS aRetN)) S1 h:=fun {o h'} e=>by
    rw [ev_xif]
    show xifK ((aTst _ S1 h).bind _) _ _ S1 = _
    rw [t]
    show xSeq _ _ S1 h = _
    rw [ev_xseq,ev_xseq,ev_xexp,ev_xmeth (v:=.ref r) (h1:=h) (h2:=h) (as:=[strsV (w :: q),.int (pl:Nat)]) v0 (by rw [look_ref]; exact O.hr) (by rw [ev_cons,v3,consK_some,ev_cons,v2,consK_some,ev_nil,consJ_some,consJ_some]),e,ev_xexp]
  have u0:stepR σ (w :: q) pl = begR σ (w :: q):=by unfold stepR; rw [if_pos hN]
  rw [begR_B] at u0
  have bg:=beginX_ok (pl:=pl) O hL hF hz (by omega) hp
  by_cases hb:begB σ.names w q = true ∧ σ.names.length ≤ 3
  · rw [if_pos hb] at bg u0
    obtain ⟨h',b,hqb,e,R,kp,nx⟩:=bg
    have hd:q.headD "" = b:=by rw [hqb]; rfl
    rw [hd] at u0
    have bne:b ≠ ("" : Str):=fun e=>by
      have h1:=hb.1
      rw [hqb,e] at h1
      simp [begB,begN] at h1
      have:=h1.2.1
      revert this
      decide +kernel
    refine .inr ⟨h',b,u0,?_,hb.2,⟨⟨[],B,⟨R,fun x hx=>(List.not_mem_nil hx).elim,fun x hx=>(List.not_mem_nil hx).elim⟩,hO.symm,hB⟩,bne⟩,fun v zs ⟨l1,l2,l3,l4⟩=>⟨kp.get l1 fun hm=>?_,l2,l3,fun x hx=>⟨(l4 x hx).1,(l4 x hx).2.1,(l4 x hx).2.2.keep kp fun hm=>?_⟩⟩,by omega,kp⟩
    · rw [takeX_run,B_Reader_takeX,xseq_step b0,xseq_rt (h':=h') (v:=.non)]
      · rfl
      · rw [b1 e]
        rfl
    · simp at hm
      rcases hm with e | e
      · exact get_ne l1 O.hr nofun e
      · exact get_ne l1 O.hf nofun e
    · obtain ⟨y,z,e1⟩:=(l4 x hx).2.2
      simp at hm
      rcases hm with e | e
      · exact absurd e (get_ne e1 O.hr nofun)
      · exact absurd e (get_ne e1 O.hf nofun)
  · rw [if_neg hb] at bg u0
    refine .inl ⟨u0,?_⟩
    rw [takeX_run,B_Reader_takeX,xseq_step b0,xseq_ex (c:=0) (v:=.int (pl:Nat)) (s':=S1) (h':=h)]
    · rfl
    · rw [b1 bg]
      rfl
end
end K03
end
section
namespace K03
open PySem PySem.Spec PyProof.Rows L2 Rp K03
structure Stt (lo:Nat) (h:AH) (r f a n:Nat) (σ:RS) (vs:List Nat):Prop where
  st:(σ.name = ("" : Str) ∧ σ.opn = [] ∧ (∃ (B:List Ask) (rows:Nat),Out_ h r f a n (keysT σ.names) (vs.map .ref) (B.map askR) rows ∧ B.map (·.1) = σ.asked) ∧ ∀ v ∈ vs,∃ zs,ListC h a n v zs ∧ zs.length ≤ 30) ∨ (σ.name ≠ ("" : Str) ∧ ∃ c xs,In_ h r f a n c (keysT σ.names) (vs.map .ref) σ xs ∧ xs.length ≤ σ.rows ∧ σ.rows ≤ 24 ∧ (lo ≤ c ∧ ∀ x ∈ xs,lo ≤ x) ∧ ∀ v ∈ vs,v ≠ c → ∃ zs,ListC h a n v zs ∧ zs.length ≤ 30)
  nd:σ.names.Nodup
  l4:σ.names.length ≤ 4
  lv:vs.length = σ.names.length
  o4:σ.opn.length ≤ 4
  lw:lo ≤ r ∧ lo ≤ f ∧ lo ≤ a ∧ lo ≤ n
section
variable {h h':AH} {lo r f a n pl:Nat} {row w:Str} {q ws:List Str} {σ σ':RS} {vs:List Nat}
theorem step_rows (e:stepR σ ws pl = some σ') (hn:σ.name ≠ ("" : Str)) (hne:¬ (ws = [("end" : Str)] ∧ σ.opn = [])):σ'.rows = σ.rows + 1 ∧ σ'.rows ≤ 24:=by
  unfold stepR at e
  rw [if_neg hn,if_neg hne] at e
  by_cases h1:24 < σ.rows + 1
  · rw [if_pos h1] at e
    cases e
  rw [if_neg h1] at e
  by_cases h2:ws = [("end" : Str)]
  · rw [if_pos h2] at e
    cases e
    exact ⟨rfl,by show σ.rows + 1 ≤ 24; omega⟩
  rw [if_neg h2] at e
  by_cases h3:ws = [("else" : Str)]
  · rw [if_pos h3] at e
    split at e
    · cases e
      exact ⟨rfl,by show σ.rows + 1 ≤ 24; omega⟩
    · cases e
  rw [if_neg h3] at e
  by_cases h4:rowB ws = true
  · rw [if_pos h4] at e
    by_cases h5:4 < (if ws.headD "" ∈ blocksL then σ.opn ++ [ws.headD ""] else σ.opn).length
    · rw [if_pos h5] at e
      cases e
    · rw [if_neg h5] at e
      rw [← Option.some.inj e]
      exact ⟨rfl,by show σ.rows + 1 ≤ 24; omega⟩
  · rw [if_neg h4] at e
    cases e
theorem take_any (S:Stt lo h r f a n σ vs) (hX:Txt.split row (Str.ofString " ") = w :: q) (hrow:row.length ≤ 100000) (hz:∀ x ∈ w :: q,x.length ≤ 100000) (hq:q.length ≤ 15000) (hA:σ.asked.length ≤ 16000) (hp:pl ≤ 100000) :
    (∃ h',stepR σ (w :: q) pl = none ∧ F_Reader_takeX [.ref r,.str row,.int (pl:Nat)] h = some (.ex 0 (.int (pl:Nat)),h') ∧ ∀ m,m < lo → h'.get m = h.get m) ∨
    ∃ h' σ' vs',stepR σ (w :: q) pl = some σ' ∧ F_Reader_takeX [.ref r,.str row,.int (pl:Nat)] h = some (.ok .non,h') ∧ Stt lo h' r f a n σ' vs' ∧ σ'.asked.length ≤ σ.asked.length + 1 ∧ h.next ≤ h'.next ∧ ∀ m,m < lo → h'.get m = h.get m:=by
  rcases S.st with ⟨hN,hO,⟨B,rows,O,hB⟩,hv⟩ | ⟨hN,c,xs,I,hxs,h24,⟨lc0,lx0⟩,hv⟩
  · rcases take_out (row:=row) (w:=w) (q:=q) (pl:=pl) O hN hO hB S.l4 (by rw [List.length_map,S.lv]) hX hrow hz hq hp with ⟨u,e⟩ | ⟨h',b,u,e,l3,I,oth,nx,kp⟩
    · exact .inl ⟨h,u,e,fun _ _=>rfl⟩
    · have hb:b ∉ σ.names:=by
        have u2:begR σ (w :: q) = some { σ with names:=σ.names ++ [b],name:=b,rows:=0 }:=by
          rw [← u]
          unfold stepR
          rw [if_pos hN]
        rw [begR_B] at u2
        split at u2
        · rename_i hc
          have hnm:q.headD "" = b:=congrArg RS.name (Option.some.inj u2)
          by_cases hq1:q.length = 1
          · obtain ⟨b',rfl⟩:=List.length_eq_one_iff.mp hq1
            have h1:=hc.1
            simp [begB,begN] at h1
            rw [← hnm]
            exact h1.2.2
          · have h1:=hc.1
            unfold begB at h1
            rw [begN_no hq1,Bool.and_false] at h1
            cases h1
        · cases u2
      refine .inr ⟨h',_,vs ++ [h.next],u,e,⟨.inr ⟨I.nm,h.next,[],?_,Nat.zero_le _,Nat.zero_le _,⟨by have:=AH.lt O.hr; have:=S.lw.1; omega,fun x hx=>(List.not_mem_nil hx).elim⟩,fun v hvm hne=>?_⟩,?_,?_,?_,?_,S.lw⟩,Nat.le_succ _,nx,fun m hm=>kp.st m (by have:=AH.lt O.hr; have:=S.lw.1; omega) (by have:=S.lw.1; have:=S.lw.2.1; simp; omega)⟩
      · rw [List.map_append]
        exact I
      · rcases List.mem_append.mp hvm with hm | hm
        · obtain ⟨zs,l,lz⟩:=hv v hm
          exact ⟨zs,oth v zs l,lz⟩
        · exact absurd (List.mem_singleton.mp hm) hne
      · show (σ.names ++ [b]).Nodup
        rw [List.nodup_append]
        exact ⟨S.nd,by simp,fun x hx y hy e=>by rw [List.mem_singleton.mp hy] at e; exact hb (e ▸ hx)⟩
      · show (σ.names ++ [b]).length ≤ 4
        rw [List.length_append,List.length_singleton]
        omega
      · show (vs ++ [h.next]).length = (σ.names ++ [b]).length
        rw [List.length_append,List.length_append,S.lv]
        rfl
      · show σ.opn.length ≤ 4
        exact S.o4
  · by_cases hne:w :: q = [("end" : Str)] ∧ σ.opn = []
    · obtain ⟨⟨M,B,T,hM,hB⟩,hnm⟩:=I
      have hM0:M = []:=by
        have:=hM.trans hne.2
        simpa using this
      subst hM0
      obtain ⟨h',e,O,lc,oth,nx,kp⟩:=take_done (row:=row) (pl:=pl) T (by omega) hrow (hne.1 ▸ hX)
      have u:stepR σ (w :: q) pl = some { σ with name := "" }:=by
        unfold stepR
        rw [if_neg hN,if_pos hne]
      refine .inr ⟨h',_,vs,u,e,⟨.inl ⟨rfl,hne.2,⟨B,_,O,hB⟩,fun v hvm=>?_⟩,S.nd,S.l4,S.lv,S.o4,S.lw⟩,Nat.le_succ _,nx,fun m hm=>kp.st m (by have:=AH.lt T.R.hr; have:=S.lw.1; omega) (by have:=S.lw.1; simp; omega)⟩
      by_cases hc:v = c
      · subst hc
        exact ⟨_,lc,by rw [List.length_append,List.length_singleton]; omega⟩
      · obtain ⟨zs,l,lz⟩:=hv v hvm hc
        exact ⟨zs,oth v zs hc l,lz⟩
    · rcases take_row (pl:=pl) I hX hrow hz hq (by omega) S.o4 hA hp hne with ⟨h',u,e,kp⟩ | ⟨h',σ',ys,u,e,en,ens,I',ly,lop,la,oth,nx,lw⟩
      · exact .inl ⟨h',u,e,fun m hm=>kp.st m (by have:=AH.lt (show h.get r = some _ from by obtain ⟨⟨M,B,T',_,_⟩,_⟩:=I; exact T'.R.hr); have:=S.lw.1; omega) (by have:=S.lw.1; simp; omega)⟩
      · obtain ⟨er,e24⟩:=step_rows u hN hne
        refine .inr ⟨h',σ',vs,u,e,⟨.inr ⟨en ▸ hN,c,ys,?_,by omega,e24,⟨lc0,(lw lo S.lw.1 S.lw.2.2.1 S.lw.2.2.2 lc0 lx0).2⟩,fun v hvm hc=>?_⟩,ens ▸ S.nd,ens ▸ S.l4,ens ▸ S.lv,lop,S.lw⟩,la,nx,(lw lo S.lw.1 S.lw.2.2.1 S.lw.2.2.2 lc0 lx0).1⟩
        · rw [ens]
          exact I'
        · obtain ⟨zs,l,lz⟩:=hv v hvm hc
          exact ⟨zs,oth v zs hc l,lz⟩
end
end K03
end
section
namespace K03
open PySem PySem.Spec PyProof.Rows L2 Rp K03
abbrev spc:Str:=Str.ofString " "
def readR (σ:RS) (i:Nat):List Str → Nat ⊕ RS
  | []=>.inr σ
  | x :: L=>match stepR σ (Txt.split x spc) i with
    | none=>.inl i
    | some σ' => readR σ' (i + 1) L
structure RowB (x:Str):Prop where
  l:x.length ≤ 100000
  z:∀ y ∈ Txt.split x spc,y.length ≤ 100000
  q:(Txt.split x spc).length ≤ 15000
def Sm (S S':LS):Prop:=S'.length = S.length ∧ ∀ j,j ≠ 4 → j ≠ 5 → S'[j]? = S[j]?
theorem Sm.rfl' {S:LS}:Sm S S:=⟨rfl,fun _ _ _=>rfl⟩
theorem Sm.trans {S S' S'':LS} (a:Sm S S') (b:Sm S' S''):Sm S S'':=⟨b.1.trans a.1,fun j h4 h5=>(b.2 j h4 h5).trans (a.2 j h4 h5)⟩
abbrev rdG:AG:=gSq 2 (gsCons (gNm 4) (gsCons (gNm 5) gsNil))
abbrev rdB:ASX:=xExp (xMeth 0 F_Reader_takeX (aVar 3) (aCons (aVar 5) (aCons (aVar 4) aNil)))
section
variable {lo r f a n:Nat}
theorem reads_loop:∀ (L:List Str) (i:Nat) (S:LS) (h:AH) (σ:RS) (vs:List Nat),Stt lo h r f a n σ vs → h.get r ≠ none → S[3]? = some (some (.ref r)) → S.length = 12 → (∀ x ∈ L,RowB x) → i + L.length ≤ 15000 → σ.asked.length ≤ i →
    (∃ k S' h',readR σ i L = .inl k ∧ k ≤ i + L.length ∧ forLX [] rdG rdB (enumL i (L.map .str)) S h = some (.ex 0 (.int (k:Nat)) S',h') ∧ ∀ m,m < lo → h'.get m = h.get m) ∨
    ∃ σ' S' h' vs',readR σ i L = .inr σ' ∧ forLX [] rdG rdB (enumL i (L.map .str)) S h = some (.ar (.nx S'),h') ∧ Sm S S' ∧ Stt lo h' r f a n σ' vs' ∧ σ'.asked.length ≤ i + L.length ∧ h.next ≤ h'.next ∧ ∀ m,m < lo → h'.get m = h.get m
  | [],i,S,h,σ,vs,T,_,h3,hl,hL,hi,hA=>.inr ⟨σ,S,h,vs,rfl,rfl,.rfl',T,by simpa using hA,Nat.le_refl _,fun _ _=>rfl⟩
  | x :: L,i,S,h,σ,vs,T,hr,h3,hl,hL,hi,hA=>by
    obtain ⟨xl,xz,xq⟩:=hL x (by simp)
    rw [List.length_cons] at hi
    obtain ⟨w,q,hX⟩:∃ w q,Txt.split x spc = w :: q:=by
      have:Txt.split x spc ≠ []:=join_ne (c:=32) (y:=x)
      cases e:Txt.split x spc with
      | nil=>exact absurd e this
      | cons w q=>exact ⟨w,q,rfl⟩
    obtain ⟨S1,hS1⟩:∃ S1,(S.set 4 (some (.int (i:Nat)))).set 5 (some (.str x)) = S1:=⟨_,rfl⟩
    have s0:S1[3]? = some (some (.ref r)):=by rw [← hS1]; simp [h3]
    have s4:S1[4]? = some (some (.int (i:Nat))):=by rw [← hS1]; simp [hl]
    have s5:S1[5]? = some (some (.str x)):=by rw [← hS1]; simp [hl]
    have sm:Sm S S1:=⟨by rw [← hS1]; simp,fun j n4 n5=>by rw [← hS1]; simp [Ne.symm n4,Ne.symm n5]⟩
    have l1:S1.length = 12:=sm.1.trans hl
    have g:rdG (.nod .tup [.int (i:Nat),.str x]) S h = some (S1,h):=by
      rw [← hS1]
      simp
    obtain ⟨rv,hrv⟩:∃ xs,h.get r = some (.ins 0,xs):=by
      rcases T.st with ⟨_,_,⟨B,rows,O,_⟩,_⟩ | ⟨_,c,xs,⟨⟨M,B,T',_,_⟩,_⟩,_⟩
      · exact ⟨_,O.hr⟩
      · exact ⟨_,T'.R.hr⟩
    have bd:∀ {o:Out} {h':AH},F_Reader_takeX [.ref r,.str x,.int (i:Nat)] h = some (o,h') → rdB S1 h = xexpK (some (o,h')) S1:=fun {o h'} e=>by
      show (xExp _) S1 h = _
      rw [ev_xexp,ev_xmeth (v:=.ref r) (h1:=h) (h2:=h) (as:=[.str x,.int (i:Nat)]) (by rw [ev_var,s0]; rfl) (by rw [look_ref]; exact hrv) (by rw [ev_cons,ev_var,s5,varK_some,consK_some,ev_cons,ev_var,s4,varK_some,consK_some,ev_nil,consJ_some,consJ_some]),e]
    rcases take_any (row:=x) (w:=w) (q:=q) (pl:=i) T hX xl (hX ▸ xz) (by have:=hX ▸ xq; simp at this; omega) (by omega) (by omega) with ⟨h',u,e,lw⟩ | ⟨h',σ',vs',u,e,T',la,nx,lw⟩
    · refine .inl ⟨i,S1,h',?_,by omega,?_,lw⟩
      · unfold readR
        rw [hX,u]
      · show (if chk [] h = true then (rdG (.nod .tup [.int (i:Nat),.str x]) S h).bind _ else none) = _
        rw [if_pos (show chk [] h = true from rfl),g]
        show (rdB S1 h).bind _ = _
        rw [bd e]
        rfl
    · have go:forLX [] rdG rdB (enumL i ((x :: L).map .str)) S h = forLX [] rdG rdB (enumL (i + 1) (L.map .str)) S1 h':=by
        show (if chk [] h = true then (rdG (.nod .tup [.int (i:Nat),.str x]) S h).bind _ else none) = _
        rw [if_pos (show chk [] h = true from rfl),g]
        show (rdB S1 h).bind _ = _
        rw [bd e]
        rfl
      have ge:readR σ i (x :: L) = readR σ' (i + 1) L:=by
        conv=>lhs; unfold readR
        rw [hX,u]
      have hr':h'.get r ≠ none:=by
        rcases T'.st with ⟨_,_,⟨B,rows,O,_⟩,_⟩ | ⟨_,c,xs,⟨⟨M,B,T2,_,_⟩,_⟩,_⟩
        · rw [O.hr]; simp
        · rw [T2.R.hr]; simp
      rcases reads_loop L (i + 1) S1 h' σ' vs' T' hr' s0 l1 (fun y hy=>hL y (by simp [hy])) (by omega) (by omega) with ⟨k,S',h2,e1,e2,e3,e4⟩ | ⟨σ2,S',h2,vs2,e1,e2,e3,e4,e5,e6,e7⟩
      · exact .inl ⟨k,S',h2,by rw [ge,e1],by rw [List.length_cons]; omega,by rw [go,e3],fun m hm=>(e4 m hm).trans (lw m hm)⟩
      · exact .inr ⟨σ2,S',h2,vs2,by rw [ge,e1],by rw [go,e2],sm.trans e3,e4,by rw [List.length_cons]; omega,by omega,fun m hm=>(e7 m hm).trans (lw m hm)⟩
end
end K03
end
section
namespace K03
open PySem PySem.Spec PyProof.Rows L2 Rp K03
def askL (N:List Str):List (Nat × Str × Str) → Option Nat
  | []=>none
  | q :: A=>if q.2.2 = q.2.1 ∨ q.2.2 ∉ N then some q.1 else askL N A
def endR (σ:RS) (m:Nat):Option Nat:=if σ.name ≠ ("" : Str) ∨ σ.names = [] then some m else askL σ.names σ.asked
abbrev enG:AG:=gSq 4 (gsCons (gNm 2) (gsCons (gNm 3) (gsCons (gNm 4) (gsCons (gNm 5) gsNil))))
abbrev enB:ASX:=xIf (lfT (aOr (aTst (aOp2 aEq (aVar 5) (aVar 3))) (aTst (aOp2 aNotIn (aVar 5) (aFld 0 0 (aVar 0)))))) (xRaise 0 (aVar 2)) (lfS aPass)
section
variable {h:AH} {r f a n m:Nat} {N:List Str} {fs A0 F:List AV} {x:Str}
theorem nin_cell (e:h.get f = some (.dct (keysT N),fs)):aNotIn (.str x) (.ref f) h = some (.bl (!decide (x ∈ N)),h):=by
  have:=in_dct (ng':=true) (x:=x) (h:=h) (b:=.ref f) (ks:=keysT N) (xs:=fs) (by simp [dLook,e]) (by simp [aInD,e]) rfl
  have k:(kIx (keysT N) (.inr x)).isSome = decide (x ∈ N):=by
    by_cases hb:x ∈ N
    · rw [decide_eq_true hb,kIx_mem]
      exact keysT_mem.mpr hb
    · rw [decide_eq_false hb,kIx_none (fun m=>hb (keysT_mem.mp m))]
      rfl
  rw [show aNotIn (.str x) (.ref f) h = aIn3 true (.str x) (.ref f) h from rfl,this,k]
  rfl
theorem end_loop (hr:h.get r = some (.ins 0,.ref f :: F)) (hf:h.get f = some (.dct (keysT N),fs)) (ha:h.get a = some (.lst,A0)):∀ (B:List Ask) (u2 u3 u4 u5:Option AV),(∀ q ∈ B,q.1.1 ≤ 100000) →
    match askL N (B.map (·.1)) with
    | some k=>∃ S',forLX [(a,A0)] enG enB (B.map askR) [some (.ref r),some (.int (m:Nat)),u2,u3,u4,u5] h = some (.ex 0 (.int (k:Nat)) S',h)
    | none=>∃ S',forLX [(a,A0)] enG enB (B.map askR) [some (.ref r),some (.int (m:Nat)),u2,u3,u4,u5] h = some (.ar (.nx S'),h)
  | [],u2,u3,u4,u5,_=>⟨_,if_pos (by simp [chk,ha])⟩
  | ((k,p,y),w) :: B,u2,u3,u4,u5,hB=>by
    have hk:k ≤ 100000:=hB _ List.mem_cons_self
    obtain ⟨S1,hS1⟩:∃ S1:LS,[some (.ref r),some (.int (m:Nat)),some (.int (k:Nat)),some (.str p),some (.str w),some (.str y)] = S1:=⟨_,rfl⟩
    have tt:(aOr (aTst (aOp2 aEq (aVar 5) (aVar 3))) (aTst (aOp2 aNotIn (aVar 5) (aFld 0 0 (aVar 0))))) S1 h = some (decide (y = p ∨ y ∉ N),h):=by
      have fd:(aFld 0 0 (aVar 0)) S1 h = some (.ref f,h):=by rw [← hS1]; simp [hr]
      have v5:(aVar 5) S1 h = some (.str y,h):=by rw [← hS1]; rfl
      have v3:(aVar 3) S1 h = some (.str p,h):=by rw [← hS1]; rfl
      rw [ev_or,ev_tst,ev_op2,v5,op2K_some,v3,op2J_some,eq_ss,tstK_some]
      by_cases e:y = p
      · rw [decide_eq_true e,orK_t,decide_eq_true (.inl e)]
      · rw [decide_eq_false e,orK_f,ev_tst,ev_op2,v5,op2K_some,fd,op2J_some,nin_cell hf,tstK_some]
        by_cases e2:y ∈ N
        · rw [decide_eq_true e2,decide_eq_false (by simp [e,e2])]
          rfl
        · rw [decide_eq_false e2,decide_eq_true (.inr e2)]
          rfl
    have st:forLX [(a,A0)] enG enB ((((k,p,y),w) :: B).map askR) [some (.ref r),some (.int (m:Nat)),u2,u3,u4,u5] h = (enB S1 h).bind fun r=>match r.1 with
      | .ar (.nx s')=>forLX [(a,A0)] enG enB (B.map askR) s' r.2
      | .ar (.ct s')=>forLX [(a,A0)] enG enB (B.map askR) s' r.2
      | .ar (.bk s')=>some (.ar (.nx s'),r.2)
      | .ar (.rt v)=>some (.ar (.rt v),r.2)
      | .ex c v s' => some (.ex c v s',r.2):=by
      rw [← hS1]
      exact if_pos (by simp [chk,ha])
    have bd:enB S1 h = if y = p ∨ y ∉ N then some (.ex 0 (.int (k:Nat)) S1,h) else some (.ar (.nx S1),h):=by
      show (xIf _ _ _) S1 h = _
      rw [ev_xif]
      show xifK ((aOr _ _ S1 h).bind _) _ _ S1 = _
      rw [tt]
      by_cases e:y = p ∨ y ∉ N
      · rw [decide_eq_true e,if_pos e]
        exact ev_xraise (by rw [ev_var,← hS1]; rfl) (okArg_nat hk)
      · rw [decide_eq_false e,if_neg e]
        rfl
    have ea:askL N ((((k,p,y),w) :: B).map (·.1)) = if y = p ∨ y ∉ N then some k else askL N (B.map (·.1)):=rfl
    rw [ea,st,bd]
    by_cases e:y = p ∨ y ∉ N
    · rw [if_pos e,if_pos e]
      exact ⟨S1,rfl⟩
    · rw [if_neg e,if_neg e]
      have:=end_loop hr hf ha B (some (.int (k:Nat))) (some (.str p)) (some (.str w)) (some (.str y)) (fun q hq=>hB q (List.mem_cons_of_mem _ hq))
      rw [hS1] at this
      exact this
end
section
variable {h:AH} {lo r f a n m:Nat} {σ:RS} {vs:List Nat}
theorem endX_ok (T:Stt lo h r f a n σ vs) (hm:m ≤ 100000) (hb:∀ q ∈ σ.asked,q.1 ≤ 100000) :
    ∃ h',F_Reader_endX [.ref r,.int (m:Nat)] h = some (match endR σ m with
      | some k=>.ex 0 (.int (k:Nat))
      | none=>.ok .non,h') ∧ Kp [] h h':=by
  have run:F_Reader_endX [.ref r,.int (m:Nat)] h = fnXK (B_Reader_endX [some (.ref r),some (.int (m:Nat)),none,none,none,none] h):=by
    simp only [F_Reader_endX]
    rw [evx_fn (by rfl)]
    rfl
  let S0:LS:=[some (.ref r),some (.int (m:Nat)),none,none,none,none]
  have rz:∀ o,xRaise 0 (aVar 1) S0 o = some (.ex 0 (.int (m:Nat)) S0,o):=fun o=>ev_xraise (show (aVar 1) S0 o = some (.int (m:Nat),o) from rfl) (okArg_nat hm)
  rcases T.st with ⟨hN,hO,⟨B,rows,O,hB⟩,hv⟩ | ⟨hN,c,xs,⟨⟨M,B,T',_,_⟩,_⟩,_⟩
  · obtain ⟨h1,hh1⟩:∃ x,h.new (.dct [],[]) = x:=⟨_,rfl⟩
    have k1:Kp [] h h1:=hh1 ▸ .new
    have r1:=k1.get O.hr (by simp)
    have f1:=k1.get O.hf (by simp)
    have a1:=k1.get O.ha (by simp)
    have d1:h1.get h.next = some (.dct [],[]):=hh1 ▸ new_own
    have hde:aEqDE false (.ref f) (.ref h.next) h1 = some (.bl (decide (σ.names = [])),h1):=by
      unfold aEqDE
      rw [dctOf_cell f1,dctOf_cell d1]
      simp [keysT,ng]
    have tt:(aOr (aTst (aOp2 aIsNot (aFld 0 2 (aVar 0)) (aC .non))) (aTst (aOp2 (aEqDE false) (aFld 0 0 (aVar 0)) (aDisp [])))) S0 h = some (decide (σ.names = []),h1):=by
      have fnm:(aFld 0 2 (aVar 0)) S0 h = some (.non,h):=by simp [S0,O.hr]
      have fd:(aFld 0 0 (aVar 0)) S0 h = some (.ref f,h):=by simp [S0,O.hr]
      have t1:(aTst (aOp2 aIsNot (aFld 0 2 (aVar 0)) (aC .non))) S0 h = some (false,h):=by
        rw [ev_tst,ev_op2,fnm,op2K_some,ev_c,op2J_some]
        rfl
      have dd:(aDisp []) S0 h = some (.ref h.next,h1):=hh1 ▸ rfl
      rw [ev_or,t1,orK_f,ev_tst,ev_op2,fd,op2K_some,dd,op2J_some,hde,tstK_some]
    have b1:(xIf (lfT (aOr (aTst (aOp2 aIsNot (aFld 0 2 (aVar 0)) (aC .non))) (aTst (aOp2 (aEqDE false) (aFld 0 0 (aVar 0)) (aDisp []))))) (xRaise 0 (aVar 1)) (lfS aPass)) S0 h = if σ.names = [] then some (.ex 0 (.int (m:Nat)) S0,h1) else some (.ar (.nx S0),h1):=by
      rw [ev_xif]
      show xifK ((aOr _ _ S0 h).bind _) _ _ S0 = _
      rw [tt]
      by_cases e:σ.names = []
      · rw [decide_eq_true e,if_pos e]
        exact rz h1
      · rw [decide_eq_false e,if_neg e]
        rfl
    refine ⟨h1,?_,k1⟩
    by_cases e:σ.names = []
    · rw [if_pos e] at b1
      rw [run,B_Reader_endX,xseq_ex b1]
      have:endR σ m = some m:=if_pos (.inr e)
      rw [this]
      rfl
    · rw [if_neg e] at b1
      have en:endR σ m = askL σ.names σ.asked:=if_neg (by simp [hN,e])
      have lp:=end_loop (m:=m) r1 f1 a1 B none none none none (fun q hq=>hb q.1 (by rw [← hB]; exact List.mem_map_of_mem hq))
      rw [hB] at lp
      have src:(sVal (aFld 0 1 (aVar 0))) S0 h1 = some ((B.map askR,[(a,B.map askR)]),h1):=by
        have fd:(aFld 0 1 (aVar 0)) S0 h1 = some (.ref a,h1):=by simp [S0,r1]
        rw [ev_sVal,fd,srcVK_ref a1]
      rw [run,B_Reader_endX,xseq_step b1,ev_xfor,src,xforK_some,en]
      cases ek:askL σ.names σ.asked with
      | some k =>
        rw [ek] at lp
        obtain ⟨S',e⟩:=lp
        rw [e]
        rfl
      | none =>
        rw [ek] at lp
        obtain ⟨S',e⟩:=lp
        rw [e]
        rfl
  · refine ⟨h,?_,.refl⟩
    have hr:=T'.R.hr
    have tt:(aOr (aTst (aOp2 aIsNot (aFld 0 2 (aVar 0)) (aC .non))) (aTst (aOp2 (aEqDE false) (aFld 0 0 (aVar 0)) (aDisp [])))) S0 h = some (true,h):=by
      have fnm:(aFld 0 2 (aVar 0)) S0 h = some (.str σ.name,h):=by simp [S0,hr]
      rw [ev_or,ev_tst,ev_op2,fnm,op2K_some,ev_c,op2J_some]
      rfl
    have b1:(xIf (lfT (aOr (aTst (aOp2 aIsNot (aFld 0 2 (aVar 0)) (aC .non))) (aTst (aOp2 (aEqDE false) (aFld 0 0 (aVar 0)) (aDisp []))))) (xRaise 0 (aVar 1)) (lfS aPass)) S0 h = some (.ex 0 (.int (m:Nat)) S0,h):=by
      rw [ev_xif]
      show xifK ((aOr _ _ S0 h).bind _) _ _ S0 = _
      rw [tt]
      exact rz h
    rw [run,B_Reader_endX,xseq_ex b1]
    have:endR σ m = some m:=if_pos (.inl hN)
    rw [this]
    rfl
end
end K03
end
section
namespace K03
open PySem PySem.Spec PyProof.Rows L2 Rp K03
structure Inv (σ:RS) (i:Nat):Prop where
  n4:σ.names.length ≤ 4
  o4:σ.opn.length ≤ 4
  al:σ.asked.length ≤ i
  aq:∀ q ∈ σ.asked,q.1 ≤ i
theorem Inv.up {σ:RS} {i j:Nat} (I:Inv σ i) (h:i ≤ j):Inv σ j:=⟨I.n4,I.o4,Nat.le_trans I.al h,fun q hq=>Nat.le_trans (I.aq q hq) h⟩
theorem step_inv {σ σ':RS} {ws:List Str} {i:Nat} (I:Inv σ i) (e:stepR σ ws i = some σ'):Inv σ' (i + 1):=by
  have J:=I.up (Nat.le_succ i)
  unfold stepR at e
  by_cases h0:σ.name = ("" : Str)
  · rw [if_pos h0] at e
    match ws,e with
    | [],e=>cases e
    | w :: q,e =>
      rw [begR_B] at e
      by_cases hc:begB σ.names w q = true ∧ σ.names.length ≤ 3
      · rw [if_pos hc] at e
        rw [← Option.some.inj e]
        exact ⟨by show (σ.names ++ [_]).length ≤ 4; rw [List.length_append,List.length_singleton]; omega,J.o4,J.al,J.aq⟩
      · rw [if_neg hc] at e
        cases e
  rw [if_neg h0] at e
  by_cases hne:ws = [("end" : Str)] ∧ σ.opn = []
  · rw [if_pos hne] at e
    rw [← Option.some.inj e]
    exact ⟨J.n4,J.o4,J.al,J.aq⟩
  rw [if_neg hne] at e
  by_cases h1:24 < σ.rows + 1
  · rw [if_pos h1] at e
    cases e
  rw [if_neg h1] at e
  by_cases h2:ws = [("end" : Str)]
  · rw [if_pos h2] at e
    rw [← Option.some.inj e]
    exact ⟨J.n4,by show σ.opn.dropLast.length ≤ 4; rw [List.length_dropLast]; have:=J.o4; omega,J.al,J.aq⟩
  rw [if_neg h2] at e
  by_cases h3:ws = [("else" : Str)]
  · rw [if_pos h3] at e
    by_cases h6:σ.opn.getLast? = some ("try" : Str) ∨ σ.opn.getLast? = some ("when" : Str)
    · rw [if_pos h6] at e
      rw [← Option.some.inj e]
      have hl:σ.opn ≠ []:=fun hn=>by rw [hn] at h6; simp at h6
      have:=List.length_pos_iff.mpr hl
      exact ⟨J.n4,by show (σ.opn.dropLast ++ [_]).length ≤ 4; rw [List.length_append,List.length_singleton,List.length_dropLast]; have:=J.o4; omega,J.al,J.aq⟩
    · rw [if_neg h6] at e
      cases e
  rw [if_neg h3] at e
  by_cases h4:rowB ws = true
  · rw [if_pos h4] at e
    by_cases h5:4 < (if ws.headD "" ∈ blocksL then σ.opn ++ [ws.headD ""] else σ.opn).length
    · rw [if_pos h5] at e
      cases e
    · rw [if_neg h5] at e
      rw [← Option.some.inj e]
      refine ⟨J.n4,Nat.le_of_not_lt h5,?_,?_⟩
      · show (if ws.headD "" ∈ othersL then σ.asked ++ [(i,σ.name,ws.getD 1 "")] else σ.asked).length ≤ i + 1
        split
        · rw [List.length_append,List.length_singleton]
          have:=I.al
          omega
        · exact J.al
      · show ∀ q ∈ (if ws.headD "" ∈ othersL then σ.asked ++ [(i,σ.name,ws.getD 1 "")] else σ.asked),q.1 ≤ i + 1
        intro q hq
        split at hq
        · rcases List.mem_append.mp hq with hq | hq
          · exact J.aq q hq
          · rw [List.mem_singleton.mp hq]
            exact Nat.le_succ i
        · exact J.aq q hq
  · rw [if_neg h4] at e
    cases e
theorem read_inv:∀ {L:List Str} {σ σ':RS} {i:Nat},Inv σ i → readR σ i L = .inr σ' → Inv σ' (i + L.length)
  | [],σ,σ',i,I,e=>by cases e; exact I
  | x :: L,σ,σ',i,I,e=>by
    unfold readR at e
    cases u:stepR σ (Txt.split x spc) i with
    | none=>rw [u] at e; cases e
    | some σ1 =>
      rw [u] at e
      have:=read_inv (step_inv I u) e
      rw [List.length_cons]
      exact this.up (by omega)
abbrev bdG:AG:=gNm 3
abbrev bdB:AS:=aIfS (aNot (aTst (aCall F__law_taken [] (aCons (aVar 2) (aCons (aBM "str" (aSplit mkF) (aOp2 aIx (aVar 1) (aVar 3)) (aCons (aC (.str " ")) aNil)) (aCons (aVar 3) aNil)))))) (aRet (aVar 3)) aPass
section
variable {st:Nat} {R0:List Str} {t:AV}
def bdS (st:Nat) (R0:List Str) (t:AV) (u3:Option AV):LS:=[some t,some (strsV R0),some (.ref st),u3,none,none]
theorem bad_loop (hR:R0.length ≤ 16000):∀ (L:List Str) (i:Nat) (u3:Option AV) (h:AH) (σ:RS),h.get st = some (lawC σ) → Inv σ i → (∀ j x,L[j]? = some x → R0[i + j]? = some x) → (∀ x ∈ L,RowB x) → i + L.length ≤ 15000 →
    (∃ k h',readR σ i L = .inl k ∧ forL [] bdG bdB ((List.range' i L.length).map fun (j:Nat)=>AV.int (j:Nat)) (bdS st R0 t u3) h = some (.rt (.int (k:Nat)),h') ∧ Kp [st] h h') ∨
    ∃ σ' u3' h',readR σ i L = .inr σ' ∧ forL [] bdG bdB ((List.range' i L.length).map fun (j:Nat)=>AV.int (j:Nat)) (bdS st R0 t u3) h = some (.nx (bdS st R0 t u3'),h') ∧ h'.get st = some (lawC σ') ∧ Kp [st] h h'
  | [],i,u3,h,σ,hσ,I,hL,hB,hi=>.inr ⟨σ,u3,h,rfl,rfl,hσ,.refl⟩
  | x :: L,i,u3,h,σ,hσ,I,hL,hB,hi=>by
    obtain ⟨xl,xz,xq⟩:=hB x (by simp)
    rw [List.length_cons] at hi
    obtain ⟨w,q,hX⟩:∃ w q,Txt.split x spc = w :: q:=by
      have:Txt.split x spc ≠ []:=join_ne (c:=32) (y:=x)
      cases e:Txt.split x spc with
      | nil=>exact absurd e this
      | cons w q=>exact ⟨w,q,rfl⟩
    have hx:R0[i]? = some x:=hL 0 x rfl
    have ix:(aOp2 aIx (aVar 1) (aVar 3)) (bdS st R0 t (some (.int (i:Nat)))) h = some (.str x,h):=by
      have:(R0.map AV.str)[i]? = some (.str x):=by rw [List.getElem?_map,hx]; rfl
      rw [ev_op2,show (aVar 1) (bdS st R0 t (some (.int (i:Nat)))) h = some (strsV R0,h) from rfl,op2K_some,show (aVar 3) (bdS st R0 t (some (.int (i:Nat)))) h = some (.int (i:Nat),h) from rfl,op2J_some]
      exact ev_ixL (h:=h) rfl this
    have hq:=hX ▸ xq
    rw [List.length_cons] at hq
    have sp:(aBM "str" (aSplit mkF) (aOp2 aIx (aVar 1) (aVar 3)) (aCons (aC (.str " ")) aNil)) (bdS st R0 t (some (.int (i:Nat)))) h = some (strsV (w :: q),h):=by
      have sp:aSplit mkF (.str x) [.str (Str.ofString " ")] h = some (strsV (w :: q),h):=by
        have hX':Txt.split x (Str.ofString " ") = w :: q:=hX
        unfold aSplit
        simp only [hX']
        rw [if_pos ⟨by decide +kernel,sz _ (by omega)⟩]
        exact mkF_ok (sz _ (by rw [List.length_map,List.length_cons]; omega))
      rw [ev_bm,ix,bmK_str,ev_cons,ev_c,consK_some,ev_nil,consJ_some,bmJ_some]
      exact sp
    obtain ⟨b,h',e,kp,m⟩:=taken_ok (pl:=i) hσ (hX ▸ xz) (by omega) (by have:=I.n4; omega) (by have:=I.o4; omega) (by have:=I.al; omega)
    have tt:(aNot (aTst (aCall F__law_taken [] (aCons (aVar 2) (aCons (aBM "str" (aSplit mkF) (aOp2 aIx (aVar 1) (aVar 3)) (aCons (aC (.str " ")) aNil)) (aCons (aVar 3) aNil)))))) (bdS st R0 t (some (.int (i:Nat)))) h = some (!b,h'):=by
      rw [ev_not,ev_tst,ev_call,ev_cons,show (aVar 2) (bdS st R0 t (some (.int (i:Nat)))) h = some (.ref st,h) from rfl,consK_some,ev_cons,sp,consK_some,ev_cons,show (aVar 3) (bdS st R0 t (some (.int (i:Nat)))) h = some (.int (i:Nat),h) from rfl,consK_some,ev_nil,consJ_some,consJ_some,consJ_some,argsK_some,List.append_nil,e,tstK_some,notK_some]
    have go:forL [] bdG bdB ((List.range' i (x :: L).length).map fun (j:Nat)=>AV.int (j:Nat)) (bdS st R0 t u3) h = (bdB (bdS st R0 t (some (.int (i:Nat)))) h).bind fun r=>match r.1 with
      | .nx s' => forL [] bdG bdB ((List.range' (i + 1) L.length).map fun (j:Nat)=>AV.int (j:Nat)) s' r.2
      | .ct s' => forL [] bdG bdB ((List.range' (i + 1) L.length).map fun (j:Nat)=>AV.int (j:Nat)) s' r.2
      | .bk s' => some (.nx s',r.2)
      | .rt v=>some (.rt v,r.2):=rfl
    cases u:stepR σ (w :: q) i with
    | none =>
      rw [u] at m
      have ge:readR σ i (x :: L) = .inl i:=by
        unfold readR
        rw [hX,u]
      subst m
      have bd:bdB (bdS st R0 t (some (.int (i:Nat)))) h = some (.rt (.int (i:Nat)),h'):=by
        show (aIfS _ _ _) _ h = _
        rw [ev_if,tt]
        rfl
      exact .inl ⟨i,h',ge,by rw [go,bd]; rfl,kp⟩
    | some σ1 =>
      rw [u] at m
      have ge:readR σ i (x :: L) = readR σ1 (i + 1) L:=by
        conv=>lhs; unfold readR
        rw [hX,u]
      obtain ⟨rfl,hσ'⟩:=m
      have bd:bdB (bdS st R0 t (some (.int (i:Nat)))) h = some (.nx (bdS st R0 t (some (.int (i:Nat)))),h'):=by
        show (aIfS _ _ _) _ h = _
        rw [ev_if,tt]
        rfl
      have I':=step_inv I u
      rcases bad_loop hR L (i + 1) (some (.int (i:Nat))) h' σ1 hσ' I' (fun j y hy=>by have:=hL (j + 1) y hy; rw [show i + 1 + j = i + (j + 1) by omega]; exact this) (fun y hy=>hB y (by simp [hy])) (by omega) with ⟨k,h2,e1,e2,e3⟩ | ⟨σ2,u3',h2,e1,e2,e3,e4⟩
      · exact .inl ⟨k,h2,ge.trans e1,by rw [go,bd]; exact e2,kp.trans e3⟩
      · exact .inr ⟨σ2,u3',h2,ge.trans e1,by rw [go,bd]; exact e2,e3,kp.trans e4⟩
end
end K03
end
section
namespace K03
open PySem PySem.Spec PyProof.Rows L2 Rp K03
def sg0:RS:=⟨[], "",0,[],[]⟩
theorem inv0:Inv sg0 0:=⟨Nat.zero_le _,Nat.zero_le _,Nat.zero_le _,fun q hq=>(List.not_mem_nil hq).elim⟩
def badR (R0:List Str):Option Nat:=match readR sg0 0 R0.dropLast with
  | .inl k=>some k
  | .inr σ=>if R0.getLast? ≠ some ("" : Str) then some (R0.length - 1) else endR σ (R0.length - 1)
def badV (o:Option Nat):AV:=match o with
  | some k=>.int (k:Nat)
  | none=>.non
abbrev abG:AG:=gSq 3 (gsCons (gNm 3) (gsCons (gNm 4) (gsCons (gNm 5) gsNil)))
abbrev abB:AS:=aIfS (aOr (aTst (aOp2 aEq (aVar 5) (aVar 4))) (aTst (aOp2 aNotIn (aVar 5) (aOp2 aIx (aVar 2) (aC (.str "names")))))) (aRet (aVar 3)) aPass
section
variable {h:AH} {st:Nat} {R0:List Str} {t:AV} {σ:RS}
theorem bad_ask (hσ:h.get st = some (lawC σ)):∀ (A:List (Nat × Str × Str)) (u3 u4 u5:Option AV),
    match askL σ.names A with
    | some k=>forL [] abG abB (A.map askV) [some t,some (strsV R0),some (.ref st),u3,u4,u5] h = some (.rt (.int (k:Nat)),h)
    | none=>∃ S',forL [] abG abB (A.map askV) [some t,some (strsV R0),some (.ref st),u3,u4,u5] h = some (.nx S',h)
  | [],u3,u4,u5=>⟨_,rfl⟩
  | (k,p,y) :: A,u3,u4,u5=>by
    obtain ⟨S1,hS1⟩:∃ S1:LS,[some t,some (strsV R0),some (.ref st),some (.int (k:Nat)),some (.str p),some (.str y)] = S1:=⟨_,rfl⟩
    obtain ⟨x0,x1,x2,x3,x4⟩:=lk_ix
    have s2:S1[2]? = some (some (.ref st)):=by rw [← hS1]; rfl
    have ns:=law_get (σ:=σ) (S:=S1) (j:=2) (v:=strsV σ.names) s2 hσ x1 rfl
    have v5:(aVar 5) S1 h = some (.str y,h):=by rw [← hS1]; rfl
    have v4:(aVar 4) S1 h = some (.str p,h):=by rw [← hS1]; rfl
    have tt:(aOr (aTst (aOp2 aEq (aVar 5) (aVar 4))) (aTst (aOp2 aNotIn (aVar 5) (aOp2 aIx (aVar 2) (aC (.str "names")))))) S1 h = some (decide (y = p ∨ y ∉ σ.names),h):=by
      rw [ev_or,ev_tst,ev_op2,v5,op2K_some,v4,op2J_some,eq_ss,tstK_some]
      by_cases e:y = p
      · rw [decide_eq_true e,orK_t,decide_eq_true (.inl e)]
      · rw [decide_eq_false e,orK_f,ev_tst,ev_op2,v5,op2K_some,ns,op2J_some,show aNotIn (.str y) (strsV σ.names) h = _ from notIn_lst _,tstK_some]
        by_cases e2:y ∈ σ.names
        · rw [decide_eq_true e2,decide_eq_false (by simp [e,e2])]
          rfl
        · rw [decide_eq_false e2,decide_eq_true (.inr e2)]
          rfl
    have go:forL [] abG abB (((k,p,y) :: A).map askV) [some t,some (strsV R0),some (.ref st),u3,u4,u5] h = (abB S1 h).bind fun r=>match r.1 with
      | .nx s' => forL [] abG abB (A.map askV) s' r.2
      | .ct s' => forL [] abG abB (A.map askV) s' r.2
      | .bk s' => some (.nx s',r.2)
      | .rt v=>some (.rt v,r.2):=by
      rw [← hS1]
      rfl
    have ea:askL σ.names ((k,p,y) :: A) = if y = p ∨ y ∉ σ.names then some k else askL σ.names A:=rfl
    rw [ea,go]
    by_cases e:y = p ∨ y ∉ σ.names
    · have bd:abB S1 h = some (.rt (.int (k:Nat)),h):=by
        show (aIfS _ _ _) _ h = _
        rw [ev_if,tt,decide_eq_true e,← hS1]
        rfl
      rw [if_pos e,bd]
      rfl
    · have bd:abB S1 h = some (.nx S1,h):=by
        show (aIfS _ _ _) _ h = _
        rw [ev_if,tt,decide_eq_false e]
        rfl
      rw [if_neg e,bd]
      have:=bad_ask hσ A (some (.int (k:Nat))) (some (.str p)) (some (.str y))
      rw [hS1] at this
      exact this
theorem kp_fresh {h h1 h2:AH} (a:Kp [] h h1) (b:Kp [h.next] h1 h2):Kp [] h h2:=⟨Nat.le_trans a.nx b.nx,fun n hn _=>(b.st n (Nat.lt_of_lt_of_le hn a.nx) (by simp; omega)).trans (a.st n hn (by simp))⟩
theorem rgI_eq (n:Nat):rgI 0 n = (List.range' 0 n).map fun (j:Nat)=>AV.int (j:Nat):=by
  unfold rgI
  rw [List.range_eq_range']
  congr 1
  funext i
  rw [Int.zero_add]
theorem bad_row_ok {x:Str} (hx:x.length ≤ 100000) (hX:Txt.split x (Str.ofString "\n") = R0) (hl:R0.length ≤ 15000) (h0:R0 ≠ []) (hB:∀ y ∈ R0,RowB y) :
    ∃ h',F__law_bad_row [.str x] h = some (badV (badR R0),h') ∧ Kp [] h h':=by
  obtain ⟨x0,x1,x2,x3,x4⟩:=lk_ix
  let S0:LS:=[some (.str x),none,none,none,none,none]
  let S1:LS:=[some (.str x),some (strsV R0),none,none,none,none]
  have l0:1 ≤ R0.length:=List.length_pos_iff.mpr h0
  have lenv:∀ {S:LS} {o:AH},S[1]? = some (some (strsV R0)) → (aOp2 aSub (aArgs (one aLenV) (aCons (aVar 1) aNil)) (aC (.int 1))) S o = some (.int ((R0.length - 1:Nat):Int),o):=fun {S o} hS=>by
    have l:aLenV (strsV R0) o = some (.int (R0.length:Nat),o):=by
      unfold strsV
      simp
    have sb:aSub (.int (R0.length:Nat)) (.int 1) o = some (.int ((R0.length - 1:Nat):Int),o):=by
      have:((R0.length - 1:Nat):Int) = (R0.length:Int) - 1:=by omega
      rw [this]
      rfl
    rw [ev_op2,ev_args,ev_cons,ev_var,hS,varK_some,consK_some,ev_nil,consJ_some,argsK_some,ev_one,l,op2K_some,ev_c,op2J_some,sb]
  have a0:(aAsg (aBM "str" (aSplit mkF) (aVar 0) (aCons (aC (.str "\n")) aNil)) (gNm 1)) S0 h = some (.nx S1,h):=by
    have sp:aSplit mkF (.str x) [.str (Str.ofString "\n")] h = some (strsV R0,h):=by
      unfold aSplit
      simp only [hX]
      rw [if_pos ⟨by decide +kernel,sz _ (by omega)⟩]
      exact mkF_ok (sz _ (by rw [List.length_map]; omega))
    rw [ev_asg,ev_bm,show (aVar 0) S0 h = some (.str x,h) from rfl,bmK_str,ev_cons,ev_c,consK_some,ev_nil,consJ_some,bmJ_some,sp]
    rfl
  obtain ⟨h1,hh1⟩:∃ y,h.new (lawC sg0) = y:=⟨_,rfl⟩
  have g1:h1.get h.next = some (lawC sg0):=hh1 ▸ new_own
  have k1:Kp [] h h1:=hh1 ▸ .new
  have a1:(aAsg (aDisp [((aC (.str "name")),(aC (.str ""))),((aC (.str "names")),(aArgs (mkF .lst) aNil)),((aC (.str "rows")),(aC (.int 0))),((aC (.str "open")),(aArgs (mkF .lst) aNil)),((aC (.str "asked")),(aArgs (mkF .lst) aNil))]) (gNm 2)) S1 h = some (.nx (bdS h.next R0 (.str x) none),h1):=by
    have m0:(aArgs (mkF .lst) aNil) S1 h = some (strsV [],h):=by
      rw [ev_args,ev_nil,argsK_some,mkF_ok (Nat.zero_le _)]
      rfl
    have dd:(aDisp [((aC (.str "name")),(aC (.str ""))),((aC (.str "names")),(aArgs (mkF .lst) aNil)),((aC (.str "rows")),(aC (.int 0))),((aC (.str "open")),(aArgs (mkF .lst) aNil)),((aC (.str "asked")),(aArgs (mkF .lst) aNil))]) S1 h = some (.ref h.next,h1):=by
      have pr:aPairs [((aC (.str "name")),(aC (.str ""))),((aC (.str "names")),(aArgs (mkF .lst) aNil)),((aC (.str "rows")),(aC (.int 0))),((aC (.str "open")),(aArgs (mkF .lst) aNil)),((aC (.str "asked")),(aArgs (mkF .lst) aNil))] S1 h = some ([(.inr "name",.str ""),(.inr "names",strsV []),(.inr "rows",.int 0),(.inr "open",strsV []),(.inr "asked",strsV [])],h):=by
        simp only [aPairs,m0,ev_c,Option.bind_some,toKey]
      have mg:dMrg ([],[]) [(.inr "name",.str ""),(.inr "names",strsV []),(.inr "rows",.int 0),(.inr "open",strsV []),(.inr "asked",strsV [])] = (lkS,[.str "",strsV [],.int 0,strsV [],strsV []]):=by
        kernel_rfl
      unfold aDisp
      rw [pr,Option.bind_some,mg,← hh1]
      rfl
    rw [ev_asg,dd]
    rfl
  have src:(sRng1 (aCons (aOp2 aSub (aArgs (one aLenV) (aCons (aVar 1) aNil)) (aC (.int 1))) aNil)) (bdS h.next R0 (.str x) none) h1 = some (((List.range' 0 R0.dropLast.length).map fun (j:Nat)=>AV.int (j:Nat),[]),h1):=by
    have sm':sm ((R0.length - 1:Nat):Int) = true:=by
      exact sm_nat (by omega)
    rw [ev_rng,ev_cons,lenv rfl,consK_some,ev_nil,consJ_some]
    rw [rngK_ok sm',Int.toNat_natCast,rgI_eq,List.length_dropLast]
  have run:F__law_bad_row [.str x] h = fnK (B__law_bad_row S0 h):=by
    simp only [F__law_bad_row]
    rw [ev_fn (by rfl)]
    rfl
  have lp:=bad_loop (st:=h.next) (t:=.str x) (R0:=R0) (by omega) R0.dropLast 0 none h1 sg0 g1 inv0 (fun j y hy=>by
    rw [Nat.zero_add]
    rw [List.getElem?_dropLast] at hy
    split at hy
    · exact hy
    · cases hy) (fun y hy=>hB y ((List.dropLast_sublist R0).subset hy)) (by rw [List.length_dropLast]; omega)
  have fo:(aFor (sRng1 (aCons (aOp2 aSub (aArgs (one aLenV) (aCons (aVar 1) aNil)) (aC (.int 1))) aNil)) (gNm 3) bdB) (bdS h.next R0 (.str x) none) h1 = forL [] bdG bdB ((List.range' 0 R0.dropLast.length).map fun (j:Nat)=>AV.int (j:Nat)) (bdS h.next R0 (.str x) none) h1:=by
    show ((sRng1 _) _ h1).bind _ = _
    rw [src]
    rfl
  have kq:∀ {h2:AH},Kp [h.next] h1 h2 → Kp [] h h2:=fun {h2} k=>kp_fresh k1 k
  rcases lp with ⟨k,h2,e1,e2,e3⟩ | ⟨σ,u3,h2,e1,e2,e3,e4⟩
  · refine ⟨h2,?_,kq e3⟩
    have eb:badR R0 = some k:=by
      unfold badR
      rw [e1]
    rw [run,B__law_bad_row,seq_step a0,seq_step a1,seq_rt (fo.trans e2),eb]
    rfl
  · refine ⟨h2,?_,kq e4⟩
    let S2:=bdS h.next R0 (.str x) u3
    have s2:S2[2]? = some (some (.ref h.next)):=rfl
    obtain ⟨z,hz⟩:∃ z,R0.getLast? = some z:=⟨_,List.getLast?_eq_some_getLast h0⟩
    have nmv:=law_get (σ:=σ) (S:=S2) (j:=2) (v:=.str σ.name) s2 e3 x0 rfl
    have nsv:=law_get (σ:=σ) (S:=S2) (j:=2) (v:=strsV σ.names) s2 e3 x1 rfl
    have akv:=law_get (σ:=σ) (S:=S2) (j:=2) (v:=.nod .lst (σ.asked.map askV)) s2 e3 x4 rfl
    have lastv:(aOp2 aIx (aVar 1) (aOp1 aNeg (aC (.int 1)))) S2 h2 = some (.str z,h2):=by
      have:atI (R0.map AV.str) (-1) = some (.str z):=by
        have h1:(R0.map AV.str).length = R0.length:=List.length_map ..
        rw [List.getLast?_eq_getElem?] at hz
        have h3:(-1:Int) < 0:=by decide
        have h2:(R0.length:Int) + -1 = ((R0.length - 1:Nat):Int):=by omega
        unfold atI ixN
        rw [if_neg (by omega),h1,if_pos (by omega),show (-1 + (R0.length:Int)).toNat = R0.length - 1 by omega]
        show (R0.map AV.str)[R0.length - 1]? = _
        rw [List.getElem?_map,hz]
        rfl
      rw [ev_op2,show (aVar 1) S2 h2 = some (strsV R0,h2) from rfl,op2K_some,ev_op1,ev_c]
      show aIx (strsV R0) (.int (-1)) h2 = _
      unfold strsV
      rw [ix_nod,ixR_lst,this]
      rfl
    have m0:(aArgs (mkF .lst) aNil) S2 h2 = some (strsV [],h2):=by
      rw [ev_args,ev_nil,argsK_some,mkF_ok (Nat.zero_le _)]
      rfl
    have tt:(aOr (aTst (aOp2 aNe (aOp2 aIx (aVar 1) (aOp1 aNeg (aC (.int 1)))) (aC (.str "")))) (aOr (aTst (aOp2 aNe (aOp2 aIx (aVar 2) (aC (.str "name"))) (aC (.str "")))) (aTst (aOp2 aEq (aOp2 aIx (aVar 2) (aC (.str "names"))) (aArgs (mkF .lst) aNil))))) S2 h2 = some (decide (z ≠ ("" : Str) ∨ σ.name ≠ ("" : Str) ∨ σ.names = []),h2):=by
      rw [ev_or,ev_tst,ev_op2,lastv,op2K_some,ev_c,op2J_some,ne_ss,tstK_some]
      by_cases c1:z = ("" : Str)
      · rw [decide_eq_true c1,Bool.not_true,orK_f,ev_or,ev_tst,ev_op2,nmv,op2K_some,ev_c,op2J_some,ne_ss,tstK_some]
        by_cases c2:σ.name = ("" : Str)
        · rw [decide_eq_true c2,Bool.not_true,orK_f,ev_tst,ev_op2,nsv,op2K_some,m0,op2J_some,eq_strs,tstK_some]
          congr 2
          exact decide_eq_decide.mpr (by simp [c1,c2])
        · rw [decide_eq_false c2,Bool.not_false,orK_t,decide_eq_true (.inr (.inl c2))]
      · rw [decide_eq_false c1,Bool.not_false,orK_t,decide_eq_true (.inl c1)]
    by_cases cc:z ≠ ("" : Str) ∨ σ.name ≠ ("" : Str) ∨ σ.names = []
    · rw [decide_eq_true cc] at tt
      have b3:(aIfS (aOr (aTst (aOp2 aNe (aOp2 aIx (aVar 1) (aOp1 aNeg (aC (.int 1)))) (aC (.str "")))) (aOr (aTst (aOp2 aNe (aOp2 aIx (aVar 2) (aC (.str "name"))) (aC (.str "")))) (aTst (aOp2 aEq (aOp2 aIx (aVar 2) (aC (.str "names"))) (aArgs (mkF .lst) aNil))))) (aRet (aOp2 aSub (aArgs (one aLenV) (aCons (aVar 1) aNil)) (aC (.int 1)))) aPass) S2 h2 = some (.rt (.int ((R0.length - 1:Nat):Int)),h2):=by
        rw [ev_if,tt,ifK_t,ev_ret,lenv rfl]
        rfl
      have eb:badR R0 = some (R0.length - 1):=by
        unfold badR
        rw [e1]
        show (if R0.getLast? ≠ some ("" : Str) then some (R0.length - 1) else endR σ (R0.length - 1)) = _
        by_cases c1:R0.getLast? ≠ some ("" : Str)
        · rw [if_pos c1]
        · rw [if_neg c1]
          have c2:z = ("" : Str):=by
            rw [hz] at c1
            simpa using c1
          exact if_pos (cc.resolve_left fun e=>e c2)
      rw [run,B__law_bad_row,seq_step a0,seq_step a1,seq_step (fo.trans e2),seq_rt b3,eb]
      rfl
    · rw [decide_eq_false cc] at tt
      have b3:(aIfS (aOr (aTst (aOp2 aNe (aOp2 aIx (aVar 1) (aOp1 aNeg (aC (.int 1)))) (aC (.str "")))) (aOr (aTst (aOp2 aNe (aOp2 aIx (aVar 2) (aC (.str "name"))) (aC (.str "")))) (aTst (aOp2 aEq (aOp2 aIx (aVar 2) (aC (.str "names"))) (aArgs (mkF .lst) aNil))))) (aRet (aOp2 aSub (aArgs (one aLenV) (aCons (aVar 1) aNil)) (aC (.int 1)))) aPass) S2 h2 = some (.nx S2,h2):=by
        rw [ev_if,tt]
        rfl
      have eb:badR R0 = askL σ.names σ.asked:=by
        unfold badR
        rw [e1]
        show (if R0.getLast? ≠ some ("" : Str) then some (R0.length - 1) else endR σ (R0.length - 1)) = _
        have c2:z = ("" : Str):=Decidable.not_not.mp fun e=>cc (.inl e)
        rw [if_neg (by rw [hz,c2]; simp)]
        exact if_neg fun e=>cc (.inr e)
      have la:=bad_ask (t:=.str x) (R0:=R0) e3 σ.asked u3 none none
      have f4:(aFor (sVal (aOp2 aIx (aVar 2) (aC (.str "asked")))) (gSq 3 (gsCons (gNm 3) (gsCons (gNm 4) (gsCons (gNm 5) gsNil)))) abB) S2 h2 = forL [] abG abB (σ.asked.map askV) [some (.str x),some (strsV R0),some (.ref h.next),u3,none,none] h2:=by
        show ((sVal _) _ h2).bind _ = _
        rw [ev_sVal,akv]
        rfl
      rw [run,B__law_bad_row,seq_step a0,seq_step a1,seq_step (fo.trans e2),seq_step b3,eb]
      cases ek:askL σ.names σ.asked with
      | some k =>
        rw [ek] at la
        rw [seq_rt (f4.trans la)]
        rfl
      | none =>
        rw [ek] at la
        obtain ⟨S',la⟩:=la
        rw [seq_step (f4.trans la)]
        rfl
end
end K03
end
section
namespace K03
open PySem PySem.Spec PyProof.Rows L2 Rp K03
theorem disp0 {s:LS} {h:AH}:aDisp [] s h = some (.ref h.next,h.new (.dct [],[])):=rfl
theorem initX_ok (h:AH):∃ h',F_Reader_init [.ref h.next] (h.new (.ins 0,[])) = some (.non,h') ∧ Stt h.next h' h.next (h.next + 1) (h.next + 2) (h.next + 3) sg0 [] ∧ h'.next = h.next + 4 ∧ Kp [] h h':=by
  have z0:0 ≤ sizeLine:=Nat.zero_le _
  let r:=h.next
  obtain ⟨h1,hh1⟩:∃ x,h.new (.ins 0,[]) = x:=⟨_,rfl⟩
  have n1:h1.next = h.next + 1:=by simp [← hh1]
  have r1:h1.get h.next = some (.ins 0,[]):=hh1 ▸ new_own
  obtain ⟨h2,hh2⟩:∃ x,h1.new (.dct [],[]) = x:=⟨_,rfl⟩
  have n2:h2.next = h.next + 2:=by rw [← hh2,next_new,n1]
  have r2:h2.get h.next = some (.ins 0,[]):=hh2 ▸ new_oth r1
  have f2:h2.get (h.next + 1) = some (.dct [],[]):=by rw [← hh2,← n1]; exact new_own
  obtain ⟨h3,hh3⟩:∃ x,h2.put h.next (.ins 0,[.ref (h.next + 1)]) = x:=⟨_,rfl⟩
  have n3:h3.next = h.next + 2:=by rw [← hh3,next_put,n2]
  have r3:h3.get h.next = some (.ins 0,[.ref (h.next + 1)]):=hh3 ▸ put_own r2
  have f3:h3.get (h.next + 1) = some (.dct [],[]):=hh3 ▸ put_oth f2 r2 (by omega)
  obtain ⟨h4,hh4⟩:∃ x,h3.new (.lst,[]) = x:=⟨_,rfl⟩
  have n4:h4.next = h.next + 3:=by rw [← hh4,next_new,n3]
  have r4:h4.get h.next = some (.ins 0,[.ref (h.next + 1)]):=hh4 ▸ new_oth r3
  have f4:h4.get (h.next + 1) = some (.dct [],[]):=hh4 ▸ new_oth f3
  have a4:h4.get (h.next + 2) = some (.lst,[]):=by rw [← hh4,← n3]; exact new_own
  obtain ⟨h5,hh5⟩:∃ x,h4.put h.next (.ins 0,[.ref (h.next + 1),.ref (h.next + 2)]) = x:=⟨_,rfl⟩
  have n5:h5.next = h.next + 3:=by rw [← hh5,next_put,n4]
  have r5:h5.get h.next = some (.ins 0,[.ref (h.next + 1),.ref (h.next + 2)]):=hh5 ▸ put_own r4
  have f5:h5.get (h.next + 1) = some (.dct [],[]):=hh5 ▸ put_oth f4 r4 (by omega)
  have a5:h5.get (h.next + 2) = some (.lst,[]):=hh5 ▸ put_oth a4 r4 (by omega)
  obtain ⟨h6,hh6⟩:∃ x,h5.put h.next (.ins 0,[.ref (h.next + 1),.ref (h.next + 2),.non]) = x:=⟨_,rfl⟩
  have n6:h6.next = h.next + 3:=by rw [← hh6,next_put,n5]
  have r6:h6.get h.next = some (.ins 0,[.ref (h.next + 1),.ref (h.next + 2),.non]):=hh6 ▸ put_own r5
  have f6:h6.get (h.next + 1) = some (.dct [],[]):=hh6 ▸ put_oth f5 r5 (by omega)
  have a6:h6.get (h.next + 2) = some (.lst,[]):=hh6 ▸ put_oth a5 r5 (by omega)
  obtain ⟨h7,hh7⟩:∃ x,h6.put h.next (.ins 0,[.ref (h.next + 1),.ref (h.next + 2),.non,.int 0]) = x:=⟨_,rfl⟩
  have n7:h7.next = h.next + 3:=by rw [← hh7,next_put,n6]
  have r7:h7.get h.next = some (.ins 0,[.ref (h.next + 1),.ref (h.next + 2),.non,.int 0]):=hh7 ▸ put_own r6
  have f7:h7.get (h.next + 1) = some (.dct [],[]):=hh7 ▸ put_oth f6 r6 (by omega)
  have a7:h7.get (h.next + 2) = some (.lst,[]):=hh7 ▸ put_oth a6 r6 (by omega)
  obtain ⟨h8,hh8⟩:∃ x,h7.new (.lst,[]) = x:=⟨_,rfl⟩
  have n8:h8.next = h.next + 4:=by rw [← hh8,next_new,n7]
  have r8:h8.get h.next = some (.ins 0,[.ref (h.next + 1),.ref (h.next + 2),.non,.int 0]):=hh8 ▸ new_oth r7
  have f8:h8.get (h.next + 1) = some (.dct [],[]):=hh8 ▸ new_oth f7
  have a8:h8.get (h.next + 2) = some (.lst,[]):=hh8 ▸ new_oth a7
  have e8:h8.get (h.next + 3) = some (.lst,[]):=by rw [← hh8,← n7]; exact new_own
  obtain ⟨h9,hh9⟩:∃ x,h8.put h.next (.ins 0,[.ref (h.next + 1),.ref (h.next + 2),.non,.int 0,.ref (h.next + 3)]) = x:=⟨_,rfl⟩
  have n9:h9.next = h.next + 4:=by rw [← hh9,next_put,n8]
  have k:Kp [] h h9:=by
    have k1:Kp [] h h1:=hh1 ▸ .new
    have k2:Kp [] h h2:=hh2 ▸ k1.trans .new
    have k3:Kp [] h h3:=hh3 ▸ k2.putL (by rw [r2]; rfl) (.inl (Nat.le_refl _))
    have k4:Kp [] h h4:=hh4 ▸ k3.trans .new
    have k5:Kp [] h h5:=hh5 ▸ k4.putL (by rw [r4]; rfl) (.inl (Nat.le_refl _))
    have k6:Kp [] h h6:=hh6 ▸ k5.putL (by rw [r5]; rfl) (.inl (Nat.le_refl _))
    have k7:Kp [] h h7:=hh7 ▸ k6.putL (by rw [r6]; rfl) (.inl (Nat.le_refl _))
    have k8:Kp [] h h8:=hh8 ▸ k7.trans .new
    exact hh9 ▸ k8.putL (by rw [r8]; rfl) (.inl (Nat.le_refl _))
  refine ⟨h9,?_,⟨.inl ⟨rfl,rfl,⟨[],0,⟨hh9 ▸ put_own r8,hh9 ▸ put_oth f8 r8 (by omega),hh9 ▸ put_oth a8 r8 (by omega),hh9 ▸ put_oth e8 r8 (by omega),by omega⟩,rfl⟩,fun v hv=>(List.not_mem_nil hv).elim⟩,List.nodup_nil,Nat.zero_le _,rfl,Nat.zero_le _,⟨Nat.le_refl _,by omega,by omega,by omega⟩⟩,n9,k⟩
  simp only [F_Reader_init]
  rw [ev_fn (by rfl)]
  simp [B_Reader_init,startA,disp0,hh1,n1,hh2,n2,r2,hh3,mkM,z0,n3,hh4,r4,hh5,r5,hh6,r6,hh7,n7,hh8,r8,hh9]
theorem Stt.kp0 {h h':AH} {lo r f a n:Nat} {σ:RS} {vs:List Nat} (T:Stt lo h r f a n σ vs) (hn:σ.name = ("" : Str)) (k:Kp [] h h'):Stt lo h' r f a n σ vs:=by
  obtain ⟨st,nd,l4,lv,o4,lw⟩:=T
  rcases st with ⟨h1,h2,⟨B,rows,O,hB⟩,hv⟩ | ⟨h1,_⟩
  · refine ⟨.inl ⟨h1,h2,⟨B,rows,⟨k.get O.hr (by simp),k.get O.hf (by simp),k.get O.ha (by simp),k.get O.hn (by simp),O.an⟩,hB⟩,fun v hvm=>?_⟩,nd,l4,lv,o4,lw⟩
    obtain ⟨zs,⟨l1,l2,l3,l4⟩,lz⟩:=hv v hvm
    exact ⟨zs,⟨k.get l1 (by simp),l2,l3,fun x hx=>⟨(l4 x hx).1,(l4 x hx).2.1,(l4 x hx).2.2.keep k fun hm=>(List.not_mem_nil hm).elim⟩⟩,lz⟩
  · exact absurd hn h1
section
variable {h:AH} {R0:List Str} {x:Str}
def reS (x:Str) (rows last:Option AV) (r u4 u5:Option AV):LS:=[some (.str x),rows,last,r,u4,u5,none,none,none,none,none,none]
abbrev reEnd:ASX:=(lfS (aSeq (aLockG (cellOf (aFld 0 0 (aVar 3))) (aAsg (aDc (sVal (aFld 0 0 (aVar 3))) (gNm 9) aYes (aVar 9) (aLc mkF (sVal (aOp2 aIx (aFld 0 0 (aVar 3)) (aVar 9))) (gNm 8) aYes (aArgs (one aTupV) (aCons (aVar 8) aNil)) [8]) [9]) (gNm 6)))
    (aSeq (aAsg (aDc (sVal (aFld 0 1 (aVar 3))) (gSq 4 (gsCons (gNm 4) (gsCons (gNm 9) (gsCons (gNm 10) (gsCons (gNm 11) gsNil))))) (aTst (aOp2 aEq (aVar 10) (aC (.str "start")))) (aVar 11) (aC (.bl true)) [4,9,10,11]) (gNm 7))
    (aRet (aFrz 3 (aArgs (mkF .tup) (aCons (aVar 6) (aCons (aVar 7) aNil))))))))
theorem read_ok (hx:x.length ≤ 100000) (hX:Txt.split x (Str.ofString "\n") = R0) (hl:R0.length ≤ 15000) (h0:R0 ≠ []) (hB:∀ y ∈ R0,RowB y) :
    (∃ k h',badR R0 = some k ∧ F_read_stepsX [.str x] h = some (.ex 0 (.int (k:Nat)),h') ∧ ∀ m,m < h.next → h'.get m = h.get m) ∨
    ∃ σ S h' r f a n vs,badR R0 = none ∧ Stt h.next h' r f a n σ vs ∧ (∀ m,m < h.next → h'.get m = h.get m) ∧ σ.name = ("" : Str) ∧ S[3]? = some (some (.ref r)) ∧ S.length = 12 ∧ σ.asked.length ≤ 16000 ∧ F_read_stepsX [.str x] h = fnXK (reEnd S h'):=by
  let S0:=reS x none none none none none
  have l0:1 ≤ R0.length:=List.length_pos_iff.mpr h0
  obtain ⟨z,hz⟩:∃ z,R0 = R0.dropLast ++ [z]:=by
    rcases List.eq_nil_or_concat R0 with e | ⟨M0,q0,e⟩
    · exact absurd e h0
    · rw [List.concat_eq_append] at e
      exact ⟨q0,by rw [e]; simp⟩
  have hgl:R0.getLast? = some z:=by rw [hz]; simp
  have ll:R0.dropLast.length = R0.length - 1:=List.length_dropLast
  let S1:=reS x (some (strsV R0.dropLast)) (some (.str z)) none none none
  have run:F_read_stepsX [.str x] h = fnXK (B_read_stepsX S0 h):=by
    simp only [F_read_stepsX]
    rw [evx_fn (by rfl)]
    rfl
  have a0:(lfS (aAsg (aBM "str" (aSplit mkF) (aVar 0) (aCons (aC (.str "\n")) aNil)) (gStar 2 0 (gsCons (gNm 1) (gsCons (gNm 2) gsNil))))) S0 h = some (.ar (.nx S1),h):=by
    have sp:aSplit mkF (.str x) [.str (Str.ofString "\n")] h = some (strsV R0,h):=by
      unfold aSplit
      simp only [hX]
      rw [if_pos ⟨by decide +kernel,sz _ (by omega)⟩]
      exact mkF_ok (sz _ (by rw [List.length_map]; omega))
    have gg:gStar 2 0 (gsCons (gNm 1) (gsCons (gNm 2) gsNil)) (strsV R0) S0 h = some (S1,h):=by
      have e:strsV R0 = .nod .lst (R0.dropLast.map .str ++ [.str z]):=by
        unfold strsV
        conv=>lhs; rw [hz]
        rw [List.map_append]
        rfl
      rw [e,ev_gStar,if_pos ⟨by simp,by simp; omega⟩]
      have d1:(R0.dropLast.map AV.str ++ [AV.str z]).length + 1 - 2 = (R0.dropLast.map AV.str).length:=by simp
      rw [d1,List.take_zero,List.drop_zero,List.take_left',List.drop_left']
      · rfl
      · rfl
      · rfl
    rw [ev_lfS,ev_asg,ev_bm,show (aVar 0) S0 h = some (.str x,h) from rfl,bmK_str,ev_cons,ev_c,consK_some,ev_nil,consJ_some,bmJ_some,sp]
    show Option.bind (Option.bind (gStar 2 0 _ _ S0 h) _) _ = _
    rw [gg]
    rfl
  obtain ⟨h1,ei,T,n1,k1⟩:=initX_ok h
  let S2:=reS x (some (strsV R0.dropLast)) (some (.str z)) (some (.ref h.next)) none none
  have a1:(lfS (aAsg (aMake 0 F_Reader_init [] aNil) (gNm 3))) S1 h = some (.ar (.nx S2),h1):=by
    rw [ev_lfS,ev_asg,ev_make,ev_nil]
    show Option.bind (Option.bind (Option.bind (F_Reader_init [.ref h.next] (h.new (.ins 0,[]))) _) _) _ = _
    rw [ei]
    rfl
  have src:(sEnum (aCons (aVar 1) aNil)) S2 h1 = some ((enumL 0 (R0.dropLast.map .str),[]),h1):=rfl
  have lenv:∀ {S:LS} {o:AH},S[1]? = some (some (strsV R0.dropLast)) → (aArgs (one aLenV) (aCons (aVar 1) aNil)) S o = some (.int ((R0.dropLast.length:Nat):Int),o):=fun {S o} hS=>by
    have l:aLenV (strsV R0.dropLast) o = some (.int (R0.dropLast.length:Nat),o):=by
      unfold strsV
      simp
    rw [ev_args,ev_cons,ev_var,hS,varK_some,consK_some,ev_nil,consJ_some,argsK_some,ev_one,l]
  have hrn:h1.get h.next ≠ none:=by
    rcases T.st with ⟨_,_,⟨B,rows,O,_⟩,_⟩ | ⟨hN,_⟩
    · rw [O.hr]; simp
    · exact absurd rfl hN
  have lp:=reads_loop R0.dropLast 0 S2 h1 sg0 [] T hrn rfl rfl (fun y hy=>hB y ((List.dropLast_sublist R0).subset hy)) (by rw [ll]; omega) (Nat.zero_le _)
  have fo:(xFor (sEnum (aCons (aVar 1) aNil)) (gSq 2 (gsCons (gNm 4) (gsCons (gNm 5) gsNil))) (xExp (xMeth 0 F_Reader_takeX (aVar 3) (aCons (aVar 5) (aCons (aVar 4) aNil))))) S2 h1 = forLX [] rdG rdB (enumL 0 (R0.dropLast.map .str)) S2 h1:=by
    rw [ev_xfor,src,xforK_some]
  rcases lp with ⟨k,S',h2,e1,e2,e3,e4⟩ | ⟨σ,S',h2,vs,e1,e2,sm,T2,al,nx,lw⟩
  · refine .inl ⟨k,h2,?_,?_,fun m hm=>(e4 m hm).trans (k1.st m hm (by simp))⟩
    · unfold badR
      rw [e1]
    · rw [run,B_read_stepsX,xseq_step a0,xseq_step a1,xseq_ex (fo.trans e3)]
      rfl
  have s1:S'[1]? = some (some (strsV R0.dropLast)):=sm.2 1 (by decide) (by decide)
  have s2:S'[2]? = some (some (.str z)):=sm.2 2 (by decide) (by decide)
  have s3:S'[3]? = some (some (.ref h.next)):=sm.2 3 (by decide) (by decide)
  have eb:badR R0 = if R0.getLast? ≠ some ("" : Str) then some (R0.length - 1) else endR σ (R0.length - 1):=by
    unfold badR
    rw [e1]
  have inv:=read_inv inv0 e1
  have t3:(aTst (aOp2 aNe (aVar 2) (aC (.str "")))) S' h2 = some (!decide (z = ("" : Str)),h2):=by
    rw [ev_tst,ev_op2,ev_var,s2,varK_some,op2K_some,ev_c,op2J_some,ne_ss,tstK_some]
  by_cases hzz:z = ("" : Str)
  · rw [decide_eq_true hzz] at t3
    rw [if_neg (by rw [hgl,hzz]; simp)] at eb
    have a3:(xIf (lfT (aTst (aOp2 aNe (aVar 2) (aC (.str ""))))) (xRaise 0 (aArgs (one aLenV) (aCons (aVar 1) aNil))) (lfS aPass)) S' h2 = some (.ar (.nx S'),h2):=by
      rw [ev_xif]
      show xifK ((aTst _ S' h2).bind _) _ _ S' = _
      rw [t3]
      rfl
    obtain ⟨h3,ee,k3⟩:=endX_ok (m:=R0.dropLast.length) T2 (by rw [ll]; omega) (fun q hq=>by have:=inv.aq q hq; rw [ll] at this; omega)
    obtain ⟨rv,hrv⟩:∃ xs,h2.get h.next = some (.ins 0,xs):=by
      rcases T2.st with ⟨_,_,⟨B,rows,O,_⟩,_⟩ | ⟨_,c,xs,⟨⟨M,B,T',_,_⟩,_⟩,_⟩
      · exact ⟨_,O.hr⟩
      · exact ⟨_,T'.R.hr⟩
    have a4:(xExp (xMeth 0 F_Reader_endX (aVar 3) (aCons (aArgs (one aLenV) (aCons (aVar 1) aNil)) aNil))) S' h2 = xexpK (F_Reader_endX [.ref h.next,.int ((R0.dropLast.length:Nat):Int)] h2) S':=by
      rw [ev_xexp,ev_xmeth (v:=.ref h.next) (h1:=h2) (h2:=h2) (as:=[.int ((R0.dropLast.length:Nat):Int)]) (by rw [ev_var,s3]; rfl) (by rw [look_ref]; exact hrv) (by rw [ev_cons,lenv s1,consK_some,ev_nil,consJ_some])]
    rw [ee] at a4
    rw [← ll] at eb
    cases en:endR σ R0.dropLast.length with
    | some k =>
      rw [en] at a4
      refine .inl ⟨k,h3,by rw [eb,en],?_,fun m hm=>(k3.st m (by have:=k1.nx; omega) (by simp)).trans ((lw m hm).trans (k1.st m hm (by simp)))⟩
      rw [run,B_read_stepsX,xseq_step a0,xseq_step a1,xseq_step (fo.trans e2),xseq_step a3,xseq_ex a4]
      rfl
    | none =>
      rw [en] at a4
      have hne:¬ (σ.name ≠ ("" : Str) ∨ σ.names = []):=fun hh=>by
        unfold endR at en
        rw [if_pos hh] at en
        cases en
      have hnm:σ.name = ("" : Str):=Decidable.not_not.mp fun e=>hne (.inl e)
      refine .inr ⟨σ,S',h3,h.next,h.next + 1,h.next + 2,h.next + 3,vs,by rw [eb,en],T2.kp0 hnm k3,fun m hm=>(k3.st m (by have:=k1.nx; omega) (by simp)).trans ((lw m hm).trans (k1.st m hm (by simp))),hnm,s3,sm.1,by have:=inv.al; omega,?_⟩
      rw [run,B_read_stepsX,xseq_step a0,xseq_step a1,xseq_step (fo.trans e2),xseq_step a3,xseq_step a4]
  · rw [decide_eq_false hzz] at t3
    rw [if_pos (by rw [hgl]; intro e; exact hzz (Option.some.inj e))] at eb
    refine .inl ⟨_,h2,eb,?_,fun m hm=>(lw m hm).trans (k1.st m hm (by simp))⟩
    have a3:(xIf (lfT (aTst (aOp2 aNe (aVar 2) (aC (.str ""))))) (xRaise 0 (aArgs (one aLenV) (aCons (aVar 1) aNil))) (lfS aPass)) S' h2 = some (.ex 0 (.int ((R0.length - 1:Nat):Int)) S',h2):=by
      rw [ev_xif]
      show xifK ((aTst _ S' h2).bind _) _ _ S' = _
      rw [t3,← ll]
      exact ev_xraise (lenv s1) (okArg_nat (by rw [ll]; omega))
    rw [run,B_read_stepsX,xseq_step a0,xseq_step a1,xseq_step (fo.trans e2),xseq_ex a3]
    rfl
end
end K03
end
section
namespace K03
open PySem PySem.Spec PyProof.Rows L2 Rp K03
theorem join_len {c:Nat}:∀ (xs:List Str),xs ≠ [] → xs.length ≤ (Str.join ⟨#[c]⟩ xs).length + 1 ∧ ∀ x ∈ xs,x.length ≤ (Str.join ⟨#[c]⟩ xs).length
  | [],h=>absurd rfl h
  | [x],_=>⟨by simp,fun y hy=>by rw [List.mem_singleton.mp hy]; exact Nat.le_refl _⟩
  | x :: y :: r,_=>by
    obtain ⟨a,b⟩:=join_len (c:=c) (y :: r) (by simp)
    have e:(Str.join ⟨#[c]⟩ (x :: y :: r)).length = x.length + 1 + (Str.join ⟨#[c]⟩ (y :: r)).length:=by
      show (x ++ ⟨#[c]⟩ ++ Str.join ⟨#[c]⟩ (y :: r)).length = _
      rw [app_len,app_len]
      rfl
    rw [e]
    refine ⟨by rw [List.length_cons]; omega,fun z hz=>?_⟩
    rcases List.mem_cons.mp hz with rfl | hz
    · omega
    · have:=b z hz
      omega
theorem split_len {c:Nat} {y:Str}:(Txt.split y ⟨#[c]⟩).length ≤ y.length + 1 ∧ ∀ x ∈ Txt.split y ⟨#[c]⟩,x.length ≤ y.length:=by
  have:=join_len (c:=c) (Txt.split y ⟨#[c]⟩) join_ne
  rw [StrLaws.join_split] at this
  exact this
theorem row_B {y:Str} (h:y.length ≤ 14000):RowB y:=by
  have:=split_len (c:=32) (y:=y)
  exact ⟨by omega,fun z hz=>by have:=this.2 z hz; omega,by have:=this.1; show (Txt.split y ⟨#[32]⟩).length ≤ 15000; omega⟩
theorem text_B {x:Str} (h:x.length ≤ 14000):(Txt.split x (Str.ofString "\n")).length ≤ 15000 ∧ Txt.split x (Str.ofString "\n") ≠ [] ∧ ∀ y ∈ Txt.split x (Str.ofString "\n"),RowB y:=by
  have:=split_len (c:=10) (y:=x)
  exact ⟨by have:=this.1; show (Txt.split x ⟨#[10]⟩).length ≤ 15000; omega,join_ne (c:=10),fun y hy=>row_B (by have:=this.2 y hy; omega)⟩
end K03
end
section
namespace K03
open PySem PySem.Spec PyProof.Rows L2 Rp K03
section
variable {h h':AH} {n:Nat} {xs:List AV}
theorem dPut_mem {ks:List Key} {fs:List AV} {k j:Key} {v:AV}:(j ∈ (dPut ks fs k v).1) ↔ (j ∈ ks ∨ j = k):=by
  unfold dPut
  split
  · rename_i q
    have q:=kIx_mem.mp q
    constructor
    · exact .inl
    · rintro (z | rfl)
      · exact z
      · exact q
  · simp
theorem dcL_new {g:AG} {fk fv:AE} {s0:LS} {h:AH} (φ:Str → AV) (σ:Str → LS):∀ (N:List Str) (ks:List Key) (vs:List AV),N.Nodup → (∀ x ∈ N,(.inr x:Key) ∉ ks) → ks.length + N.length ≤ 16000 →
    (∀ x ∈ N,g (.str x) s0 h = some (σ x,h) ∧ fk (σ x) h = some (.str x,h) ∧ fv (σ x) h = some (φ x,h)) → dcL [] g aYes fk fv s0 (N.map .str) (ks,vs) h = some ((ks ++ N.map .inr,vs ++ N.map φ),h)
  | [],ks,vs,_,_,_,_=>by simp [dcL,chk]
  | x :: N,ks,vs,nd,hk,hl,hx=>by
    obtain ⟨a1,a2,a3⟩:=hx x List.mem_cons_self
    rw [List.nodup_cons] at nd
    have h1:(.inr x:Key) ∉ ks:=hk x List.mem_cons_self
    have hz:ks.length < sizeLine:=by rw [sizeLine_eq]; simp only [List.length_cons] at hl; omega
    have hput:dPut ks vs (.inr x) (φ x) = (ks ++ [.inr x],vs ++ [φ x]):=by
      unfold dPut
      rw [if_neg (fun z=>h1 (kIx_mem.mp z))]
    have ih:=dcL_new (g:=g) (fk:=fk) (fv:=fv) (s0:=s0) (h:=h) φ σ N (ks ++ [.inr x]) (vs ++ [φ x]) nd.2 (fun y hy z=>by
      rcases List.mem_append.mp z with z | z
      · exact hk y (List.mem_cons_of_mem _ hy) z
      · rw [List.mem_singleton] at z
        have:y = x:=by simpa using z
        exact nd.1 (this ▸ hy)) (by simp only [List.length_append,List.length_cons,List.length_nil] at hl ⊢; omega) (fun y hy=>hx y (List.mem_cons_of_mem _ hy))
    simp only [List.map_cons]
    unfold dcL
    rw [if_pos chk_nil,a1]
    simp only [Option.bind_some,ev_yes,if_true,a2,a3,toKey,if_pos hz,hput]
    rw [ih]
    simp
def stA:List AV → List Str
  | []=>[]
  | .nod .tup [_,_,.str w,.str y] :: X=>if w = "start" then y :: stA X else stA X
  | _ :: X=>stA X
theorem later_run {a:Nat} {A:List AV} {s0:LS} (ha:h.get a = some (.lst,A)) {g:AG} {t:AT} {fk fv:AE}
    (hx:∀ i nm w y,∃ σ,g (.nod .tup [i,nm,.str w,.str y]) s0 h = some (σ,h) ∧ t σ h = some (decide (w = ("start" : Str)),h) ∧ fk σ h = some (.str y,h) ∧ fv σ h = some (.bl true,h)) :
    ∀ (X:List AV) (ks:List Key) (vs:List AV),(∀ x ∈ X,∃ i nm w y,x = .nod .tup [i,nm,.str w,.str y]) → (∀ v ∈ vs,v = .bl true) → ks.length = vs.length → ks.length + X.length ≤ 16000 →
    ∃ ks' vs',dcL [(a,A)] g t fk fv s0 X (ks,vs) h = some ((ks',vs'),h) ∧ (∀ v ∈ vs',v = .bl true) ∧ ks'.length = vs'.length ∧ ∀ y:Str,(.inr y:Key) ∈ ks' ↔ ((.inr y:Key) ∈ ks ∨ y ∈ stA X)
  | [],ks,vs,_,hv,hl,_=>⟨ks,vs,by unfold dcL; rw [if_pos (by simp [chk,ha])],hv,hl,fun y=>by simp [stA]⟩
  | x :: X,ks,vs,hX,hv,hl,hz=>by
    obtain ⟨i,nm,w,y,rfl⟩:=hX x List.mem_cons_self
    obtain ⟨σ,a1,a2,a3,a4⟩:=hx i nm w y
    have hc:chk [(a,A)] h = true:=by simp [chk,ha]
    simp only [List.length_cons] at hz
    have hs:ks.length < sizeLine:=by rw [sizeLine_eq]; omega
    by_cases q:w = ("start" : Str)
    · have hp1:(dPut ks vs (.inr y) (.bl true)).1.length ≤ ks.length + 1:=by
        unfold dPut; split <;> simp
      have hp2:(dPut ks vs (.inr y) (.bl true)).1.length = (dPut ks vs (.inr y) (.bl true)).2.length:=by
        unfold dPut; split <;> simp [hl]
      have hp3:∀ v ∈ (dPut ks vs (.inr y) (.bl true)).2,v = .bl true:=by
        unfold dPut
        split
        · intro v hvv
          simp only at hvv
          rw [List.mem_iff_getElem?] at hvv
          obtain ⟨k,hk⟩:=hvv
          rw [List.getElem?_zipWith] at hk
          split at hk
          · rename_i c d e1 e2
            have:=hv d (List.mem_of_getElem? e2)
            cases hk
            split
            · rfl
            · exact this
          · cases hk
        · intro v hvv
          rcases List.mem_append.mp hvv with z | z
          · exact hv v z
          · simpa using z
      obtain ⟨ks',vs',e,b1,b2,b3⟩:=later_run ha hx X (dPut ks vs (.inr y) (.bl true)).1 (dPut ks vs (.inr y) (.bl true)).2 (fun z hz=>hX z (List.mem_cons_of_mem _ hz)) hp3 hp2 (by omega)
      refine ⟨ks',vs',?_,b1,b2,fun z=>?_⟩
      · unfold dcL
        rw [if_pos hc,a1]
        simp only [Option.bind_some,a2,q,decide_true,if_true,a3,a4,toKey,if_pos hs]
        exact e
      · rw [b3,dPut_mem]
        simp [stA,q,or_assoc]
    · obtain ⟨ks',vs',e,b1,b2,b3⟩:=later_run ha hx X ks vs (fun z hz=>hX z (List.mem_cons_of_mem _ hz)) hv hl (by omega)
      refine ⟨ks',vs',?_,b1,b2,fun z=>?_⟩
      · unfold dcL
        rw [if_pos hc,a1]
        simp only [Option.bind_some,a2,decide_eq_false q,Bool.false_eq_true,if_false]
        exact e
      · rw [b3]
        simp [stA,q]
theorem kIx_at {ks:List Key} {k:Key} {i:Nat} (nd:ks.Nodup) (e:ks[i]? = some k):kIx ks k = some i:=by
  unfold kIx
  rw [List.findIdx?_eq_some_iff_getElem]
  obtain ⟨hi,e⟩:=List.getElem?_eq_some_iff.mp e
  refine ⟨hi,by simp [e],fun j hj=>?_⟩
  have:ks[j] ≠ k:=by
    intro q
    have h2:=(List.nodup_iff_pairwise_ne.mp nd)
    rw [List.pairwise_iff_getElem] at h2
    exact h2 j i (by omega) hi hj (by rw [q,e])
  simp [this]
theorem frz2_dct {h:AH} {n:Nat} {ks:List Key} {xs:List AV} (e:h.get n = some (.dct ks,xs)) (hx:∀ x ∈ xs,∀ h,frzV 1 x h = some (x,h)):frzV 2 (.ref n) h = some (.nod (.dct ks) xs,h.del n):=by
  unfold frzV frz1
  simp only [e]
  show (mapO (frzV 1) xs (h.del n)).bind _ = _
  rw [mapO_id fun x hx' => hx x hx' _]
  rfl
theorem frz3_tup {h h1 h2:AH} {a b a' b':AV} (e1:frzV 2 a h = some (a',h1)) (e2:frzV 2 b h1 = some (b',h2)):frzV 3 (.nod .tup [a,b]) h = some (.nod .tup [a',b'],h2):=by
  unfold frzV frz1
  show (mapO (frzV 2) [a,b] h).bind _ = _
  simp [mapO,e1,e2]
end
end K03
end
section
namespace K03
open PySem PySem.Spec PyProof.Rows L2 Rp K03
def tupC (h:AH):AV → AV
  | .ref n=>match h.get n with
    | some (_,R)=>.nod .tup R
    | none=>.non
  | _=>.non
def lstC (h:AH):AV → AV
  | .ref n=>match h.get n with
    | some (_,R)=>.nod .lst (R.map (tupC h))
    | none=>.non
  | _=>.non
def valC (h:AH) (ks:List Key) (vs:List Nat) (x:Str):AV:=((kIx ks (.inr x)).bind fun i=>vs[i]?).elim .non (fun v=>lstC h (.ref v))
theorem valC_some {h:AH} {ks:List Key} {vs:List Nat} {x:Str} {i v:Nat} (e:kIx ks (.inr x) = some i) (e2:vs[i]? = some v):valC h ks vs x = lstC h (.ref v):=by
  unfold valC
  rw [e,Option.bind_some,e2]
  rfl
theorem valC_nod {h:AH} {ks:List Key} {vs:List Nat} {x:Str}:valC h ks vs x = .non ∨ ∃ R,valC h ks vs x = .nod .lst R:=by
  unfold valC
  cases (kIx ks (.inr x)).bind fun i=>vs[i]? with
  | none=>exact .inl rfl
  | some v =>
    show lstC h (.ref v) = .non ∨ ∃ R,lstC h (.ref v) = .nod .lst R
    cases e:h.get v with
    | none=>exact .inl (by simp [lstC,e])
    | some q=>exact .inr ⟨q.2.map (tupC h),by obtain ⟨a,b⟩:=q; simp [lstC,e]⟩
section
variable {h:AH} {lo r f a n:Nat} {σ:RS} {vs:List Nat} {S:LS}
theorem reEnd_ok (T:Stt lo h r f a n σ vs) (hn:σ.name = ("" : Str)) (h3:S[3]? = some (some (.ref r))) (hl:S.length = 12) (hA:σ.asked.length ≤ 16000) (hlo:lo ≤ h.next) :
    ∃ v1 v2 h',fnXK (reEnd S h) = some (.ok (.nod .tup [v1,v2]),h') ∧ h.next ≤ h'.next ∧ ∀ m,m < lo → h'.get m = h.get m:=by
  obtain ⟨B,rows,O,hB,hv⟩:∃ B rows,Out_ h r f a n (keysT σ.names) (vs.map .ref) (List.map askR B) rows ∧ B.map (·.1) = σ.asked ∧ ∀ v ∈ vs,∃ zs,ListC h a n v zs ∧ zs.length ≤ 30:=by
    rcases T.st with ⟨_,_,⟨B,rows,O,hB⟩,hv⟩ | ⟨hx,_⟩
    · exact ⟨B,rows,O,hB,hv⟩
    · exact absurd hn hx
  obtain ⟨hr,hf,ha,hnn,an⟩:=O
  have lf:=AH.lt hf
  have la:=AH.lt ha
  have lr:=AH.lt hr
  have lB:B.length = σ.asked.length:=by rw [← hB,List.length_map]
  have rf:r ≠ f:=get_ne hr hf nofun
  have af:a ≠ f:=get_ne ha hf nofun
  obtain ⟨hL,hhL⟩:∃ x,h.put f (.ldct (keysT σ.names),vs.map .ref) = x:=⟨_,rfl⟩
  have fL:hL.get f = some (.ldct (keysT σ.names),vs.map .ref):=hhL ▸ put_own hf
  have rL:hL.get r = some (.ins 0,[.ref f,.ref a,.non,.int (rows:Nat),.ref n]):=hhL ▸ put_oth hr hf rf
  have gl:∀ {y:Nat} {cs:List AV},h.get y = some (.lst,cs) → hL.get y = some (.lst,cs):=fun e=>hhL ▸ put_oth e hf (get_ne e hf nofun)
  have nL:hL.next = h.next:=by rw [← hhL]; simp
  have ndk:(keysT σ.names).Nodup:=by
    have:=T.nd
    unfold keysT
    rw [List.nodup_iff_pairwise_ne,List.pairwise_map]
    exact (List.nodup_iff_pairwise_ne.mp this).imp fun q e=>q (by simpa using e)
  let val:Str → AV:=valC hL (keysT σ.names) vs
  have nodV:∀ x,val x = .non ∨ ∃ R,val x = .nod .lst R:=fun x=>valC_nod
  obtain ⟨S0,hS0⟩:∃ S0,wipeA S [9] = S0:=⟨_,rfl⟩
  have s03:S0[3]? = some (some (.ref r)):=by rw [← hS0]; simp [wipeA,h3]
  have s0l:S0.length = 12:=by rw [← hS0]; simp [wipeA,hl]
  have edc:dcL [] (gNm 9) aYes (aVar 9) (aLc mkF (sVal (aOp2 aIx (aFld 0 0 (aVar 3)) (aVar 9))) (gNm 8) aYes (aArgs (one aTupV) (aCons (aVar 8) aNil)) [8]) S0 (σ.names.map .str) ([],[]) hL = some ((σ.names.map .inr,σ.names.map val),hL):=by
    have:=dcL_new (g:=gNm 9) (fk:=aVar 9) (fv:=(aLc mkF (sVal (aOp2 aIx (aFld 0 0 (aVar 3)) (aVar 9))) (gNm 8) aYes (aArgs (one aTupV) (aCons (aVar 8) aNil)) [8])) (s0:=S0) (h:=hL) val (fun x=>S0.set 9 (some (.str x))) σ.names [] [] T.nd (by simp) (by have:=T.l4; simp; omega) (fun x hx=>by
      obtain ⟨i,hi⟩:=List.mem_iff_getElem?.mp hx
      have hk:kIx (keysT σ.names) (.inr x) = some i:=kIx_at ndk (by unfold keysT; rw [List.getElem?_map,hi]; rfl)
      obtain ⟨v,hv2⟩:∃ v,vs[i]? = some v:=by
        have:i < vs.length:=by rw [T.lv]; exact (List.getElem?_eq_some_iff.mp hi).1
        exact ⟨_,List.getElem?_eq_getElem this⟩
      obtain ⟨zs,⟨l1,l2,l3,l4⟩,lz⟩:=hv v (List.mem_of_getElem? hv2)
      have gv:=gl l1
      have hval:val x = .nod .lst ((zs.map AV.ref).map (tupC hL)):=by
        show valC hL (keysT σ.names) vs x = _
        rw [valC_some hk hv2]
        simp only [lstC,gv]
      obtain ⟨S1,hS1⟩:∃ S1,S0.set 9 (some (.str x)) = S1:=⟨_,rfl⟩
      have s13:S1[3]? = some (some (.ref r)):=by rw [← hS1]; simp [s03]
      have s19:S1[9]? = some (some (.str x)):=by rw [← hS1]; simp [s0l]
      have s1l:S1.length = 12:=by rw [← hS1]; simp [s0l]
      refine ⟨by simp,by simp [s0l],?_⟩
      show (aLc _ _ _ _ _ _) (S0.set 9 _) hL = _
      rw [hS1]
      obtain ⟨S2,hS2⟩:∃ S2,wipeA S1 [8] = S2:=⟨_,rfl⟩
      have s2l:S2.length = 12:=by rw [← hS2]; simp [wipeA,s1l]
      have el:=lcL_map (G:=[(v,zs.map .ref)]) (g:=gNm 8) (t:=aYes) (f:=aArgs (one aTupV) (aCons (aVar 8) aNil)) (s0:=S2) (h:=hL) (by simp [chk,gv]) (fun _=>true) (tupC hL) (fun y=>S2.set 8 (some y)) (zs.map .ref) [] (fun y hy=>by
        obtain ⟨z,hz,rfl⟩:=List.mem_map.mp hy
        obtain ⟨_,_,w,q,hg⟩:=l4 z hz
        have hg:=gl hg
        have z2:2 ≤ sizeLine:=sz _ (by omega)
        refine ⟨by simp,rfl,fun _=>?_⟩
        simp [s2l,aTupV,look,hg,mkF,z2,tupC]) (by simpa using sz _ (by omega))
      rw [List.filter_eq_self.mpr (by simp),List.nil_append] at el
      have zz:((zs.map AV.ref).map (tupC hL)).length ≤ sizeLine:=sz _ (by rw [List.length_map,List.length_map]; omega)
      have esrc:sVal (aOp2 aIx (aFld 0 0 (aVar 3)) (aVar 9)) S1 hL = some ((zs.map .ref,[(v,zs.map .ref)]),hL):=by
        have e1:(aFld 0 0 (aVar 3)) S1 hL = some (.ref f,hL):=by simp [s13,rL]
        rw [ev_sVal,ev_op2,e1,op2K_some,ev_var,s19,varK_some,op2J_some]
        have e2:aIx (.ref f) (.str x) hL = some (.ref v,hL):=by
          simp [fL,hk,List.getElem?_map,hv2]
        rw [e2,srcVK_ref gv]
      rw [ev_lc,esrc]
      simp only [Option.bind_some]
      rw [hS2,el,hval]
      simp only [Option.bind_some]
      exact mkF_ok zz)
    simpa using this
  obtain ⟨h4a,hh4a⟩:∃ x,hL.new (.dct (σ.names.map .inr),σ.names.map val) = x:=⟨_,rfl⟩
  have f4a:h4a.get f = some (.ldct (keysT σ.names),vs.map .ref):=hh4a ▸ new_oth fL
  have d4a:h4a.get h.next = some (.dct (σ.names.map .inr),σ.names.map val):=by rw [← nL]; exact hh4a ▸ new_own
  obtain ⟨h4,hh4⟩:∃ x,h4a.put f (.dct (keysT σ.names),vs.map .ref) = x:=⟨_,rfl⟩
  have d4:h4.get h.next = some (.dct (σ.names.map .inr),σ.names.map val):=hh4 ▸ put_oth d4a f4a (by omega)
  have r4:h4.get r = some (.ins 0,[.ref f,.ref a,.non,.int (rows:Nat),.ref n]):=hh4 ▸ put_oth (hh4a ▸ new_oth rL) f4a rf
  have a4:h4.get a = some (.lst,B.map askR):=hh4 ▸ put_oth (hh4a ▸ new_oth (gl ha)) f4a af
  have n4:h4.next = h.next + 1:=by rw [← hh4,next_put,← hh4a,next_new,nL]
  have b1:(aLockG (cellOf (aFld 0 0 (aVar 3))) (aAsg (aDc (sVal (aFld 0 0 (aVar 3))) (gNm 9) aYes (aVar 9) (aLc mkF (sVal (aOp2 aIx (aFld 0 0 (aVar 3)) (aVar 9))) (gNm 8) aYes (aArgs (one aTupV) (aCons (aVar 8) aNil)) [8]) [9]) (gNm 6))) S h = some (.nx (S.set 6 (some (.ref h.next))),h4):=by
    have c1:cellOf (aFld 0 0 (aVar 3)) S h = some f:=by simp [Rp.cellOf,h3,hr]
    have esrc:sVal (aFld 0 0 (aVar 3)) S hL = some ((σ.names.map .str,[]),hL):=by
      have e1:(aFld 0 0 (aVar 3)) S hL = some (.ref f,hL):=by simp [h3,rL]
      rw [ev_sVal,e1]
      have:srcV (.ref f) hL = some ((keysT σ.names).map keyA,[]):=by
        simp [srcV,srcL,srcT,srcS,srcK,look,fL,orO]
      simp only [srcVK,Option.bind_some,this]
      simp [keysT,keyA,Function.comp_def]
    have edcx:aDc (sVal (aFld 0 0 (aVar 3))) (gNm 9) aYes (aVar 9) (aLc mkF (sVal (aOp2 aIx (aFld 0 0 (aVar 3)) (aVar 9))) (gNm 8) aYes (aArgs (one aTupV) (aCons (aVar 8) aNil)) [8]) [9] S hL = some (.ref h.next,h4a):=by
      unfold aDc
      rw [esrc]
      simp only [Option.bind_some]
      rw [hS0,edc]
      simp only [Option.bind_some,hh4a,nL]
    unfold aLockG
    rw [c1]
    simp only [Option.bind_some,hf,hhL,ev_asg]
    rw [edcx]
    simp only [asgK_some,ev_gNm,asgJ_some,Option.bind_some,f4a,hh4]
  obtain ⟨S6,hS6⟩:∃ S6,S.set 6 (some (.ref h.next)) = S6:=⟨_,rfl⟩
  rw [hS6] at b1
  have s63:S6[3]? = some (some (.ref r)):=by rw [← hS6]; simp [h3]
  have s66:S6[6]? = some (some (.ref h.next)):=by rw [← hS6]; simp [hl]
  have s6l:S6.length = 12:=by rw [← hS6]; simp [hl]
  obtain ⟨Sw,hSw⟩:∃ Sw,wipeA S6 [4,9,10,11] = Sw:=⟨_,rfl⟩
  have swl:Sw.length = 12:=by rw [← hSw]; simp [wipeA,s6l]
  obtain ⟨lk,lv,elk,hlv,hll,hlk⟩:=later_run (h:=h4) (a:=a) (A:=B.map askR) (s0:=Sw) a4
    (g:=(gSq 4 (gsCons (gNm 4) (gsCons (gNm 9) (gsCons (gNm 10) (gsCons (gNm 11) gsNil)))))) (t:=(aTst (aOp2 aEq (aVar 10) (aC (.str "start"))))) (fk:=(aVar 11)) (fv:=(aC (.bl true)))
    (fun i nm w y=>⟨(((Sw.set 4 (some i)).set 9 (some nm)).set 10 (some (.str w))).set 11 (some (.str y)),by simp,by simp [eq_ss,swl],by simp [swl],by simp⟩)
    (B.map askR) [] [] (fun x hx=>by
      obtain ⟨q,_,rfl⟩:=List.mem_map.mp hx
      exact ⟨_,_,_,_,rfl⟩) (by simp) rfl (by simp; omega)
  obtain ⟨h5,hh5⟩:∃ x,h4.new (.dct lk,lv) = x:=⟨_,rfl⟩
  have d5:h5.get h.next = some (.dct (σ.names.map .inr),σ.names.map val):=hh5 ▸ new_oth d4
  have l5:h5.get h4.next = some (.dct lk,lv):=hh5 ▸ new_own
  have b2:(aAsg (aDc (sVal (aFld 0 1 (aVar 3))) (gSq 4 (gsCons (gNm 4) (gsCons (gNm 9) (gsCons (gNm 10) (gsCons (gNm 11) gsNil))))) (aTst (aOp2 aEq (aVar 10) (aC (.str "start")))) (aVar 11) (aC (.bl true)) [4,9,10,11]) (gNm 7)) S6 h4 = some (.nx (S6.set 7 (some (.ref h4.next))),h5):=by
    have e1:(aFld 0 1 (aVar 3)) S6 h4 = some (.ref a,h4):=by simp [s63,r4]
    have e2:(aDc (sVal (aFld 0 1 (aVar 3))) (gSq 4 (gsCons (gNm 4) (gsCons (gNm 9) (gsCons (gNm 10) (gsCons (gNm 11) gsNil))))) (aTst (aOp2 aEq (aVar 10) (aC (.str "start")))) (aVar 11) (aC (.bl true)) [4,9,10,11]) S6 h4 = some (.ref h4.next,h5):=by
      unfold aDc
      rw [ev_sVal,e1,srcVK_ref a4]
      simp only [Option.bind_some]
      rw [hSw,elk]
      simp only [Option.bind_some,hh5]
    rw [ev_asg,e2]
    simp only [asgK_some,ev_gNm,asgJ_some,Option.bind_some]
  have z2:2 ≤ sizeLine:=sz _ (by omega)
  have fr:frzV 3 (.nod .tup [.ref h.next,.ref h4.next]) h5 = some (.nod .tup [.nod (.dct (σ.names.map .inr)) (σ.names.map val),.nod (.dct lk) lv],(h5.del h.next).del h4.next):=by
    refine frz3_tup (frz2_dct d5 (fun x hx h=>?_)) (frz2_dct (by rw [get_del,if_neg (by omega)]; exact l5) (fun x hx h=>by rw [hlv x hx]; rfl))
    obtain ⟨p,_,rfl⟩:=List.mem_map.mp hx
    rcases nodV p with e | ⟨R,e⟩
    · rw [e]; rfl
    · rw [e]; exact frz1_nod
  have b3:(aRet (aFrz 3 (aArgs (mkF .tup) (aCons (aVar 6) (aCons (aVar 7) aNil))))) (S6.set 7 (some (.ref h4.next))) h5 = some (.rt (.nod .tup [.nod (.dct (σ.names.map .inr)) (σ.names.map val),.nod (.dct lk) lv]),(h5.del h.next).del h4.next):=by
    have v6:(aVar 6) (S6.set 7 (some (.ref h4.next))) h5 = some (.ref h.next,h5):=by
      rw [ev_var,List.getElem?_set_ne (by decide),s66]
      rfl
    have v7:(aVar 7) (S6.set 7 (some (.ref h4.next))) h5 = some (.ref h4.next,h5):=by
      rw [ev_var,List.getElem?_set_self (by omega)]
      rfl
    have ea:(aFrz 3 (aArgs (mkF .tup) (aCons (aVar 6) (aCons (aVar 7) aNil)))) (S6.set 7 (some (.ref h4.next))) h5 = some (.nod .tup [.nod (.dct (σ.names.map .inr)) (σ.names.map val),.nod (.dct lk) lv],(h5.del h.next).del h4.next):=by
      unfold aFrz
      rw [ev_args,ev_cons,v6,consK_some,ev_cons,v7,consK_some,ev_nil,consJ_some,consJ_some,argsK_some,mkF_ok (sz _ (by simp))]
      exact fr
    rw [ev_ret,ea]
    rfl
  have hlr:=T.lw.1
  have hlf:=T.lw.2.1
  refine ⟨.nod (.dct (σ.names.map .inr)) (σ.names.map val),.nod (.dct lk) lv,(h5.del h.next).del h4.next,?_,?_,fun m hm=>?_⟩
  · show fnXK ((lfS _) S h) = _
    rw [ev_lfS,ev_seq,b1]
    rw [seqK_nx,ev_seq,b2,seqK_nx,b3]
    rfl
  · show h.next ≤ h5.next
    rw [← hh5,next_new,n4]
    omega
  · rw [get_del,if_neg (by omega),get_del,if_neg (by omega),← hh5,get_new,if_neg (by omega),← hh4,get_putI (by rw [f4a]; rfl),if_neg (by omega),← hh4a,get_new,if_neg (by omega),← hhL,get_putI (by rw [hf]; rfl),if_neg (by omega)]
end
end K03
end
section
namespace K03
open PySem PySem.Spec PyProof.Rows L2 Rp K03
abbrev badT (x:Str):Option Nat:=badR (Txt.split x (Str.ofString "\n"))
theorem readR_le:∀ {L:List Str} {σ:RS} {i k:Nat},readR σ i L = .inl k → k ≤ i + L.length
  | [],σ,i,k,e=>by cases e
  | x :: L,σ,i,k,e=>by
    unfold readR at e
    rw [List.length_cons]
    cases u:stepR σ (Txt.split x spc) i with
    | none =>
      rw [u] at e
      cases e
      omega
    | some σ' =>
      rw [u] at e
      have:=readR_le e
      omega
theorem askL_mem {N:List Str}:∀ {A:List (Nat × Str × Str)} {k:Nat},askL N A = some k → ∃ q ∈ A,q.1 = k
  | [],k,e=>by cases e
  | q :: A,k,e=>by
    unfold askL at e
    split at e
    · cases e
      exact ⟨q,List.mem_cons_self,rfl⟩
    · obtain ⟨q',h,e'⟩:=askL_mem e
      exact ⟨q',List.mem_cons_of_mem _ h,e'⟩
theorem badR_le {R:List Str} {k:Nat} (e:badR R = some k):k ≤ R.length:=by
  have ll:R.dropLast.length = R.length - 1:=List.length_dropLast
  unfold badR at e
  cases u:readR sg0 0 R.dropLast with
  | inl j =>
    rw [u] at e
    cases e
    have:=readR_le u
    omega
  | inr σ =>
    rw [u] at e
    have I:=read_inv inv0 u
    have e:(if R.getLast? ≠ some ("" : Str) then some (R.length - 1) else endR σ (R.length - 1)) = some k:=e
    split at e
    · cases e
      omega
    · unfold endR at e
      split at e
      · cases e
        omega
      · obtain ⟨q,hq,rfl⟩:=askL_mem e
        have:=I.aq q hq
        omega
theorem bad_ok {x:Str} (hx:x.length ≤ 14000) (g:AH):∃ h',F__law_bad_row [.str x] g = some (badV (badT x),h') ∧ Kp [] g h':=by
  obtain ⟨a,b,c⟩:=text_B hx
  exact bad_row_ok (by omega) rfl a b c
section
variable {g:AH} {x:Str}
theorem init_any (hx:x.length ≤ 14000):∃ h',(∀ m,m < g.next → h'.get m = g.get m) ∧ ((∃ k:Nat,badT x = some k ∧ F_Program_init_X [.ref g.next,.str x] (g.new (.ins 1,[])) = some (.ex 0 (.int (k:Nat)),h')) ∨ (badT x = none ∧ ∃ v1 v2,F_Program_init_X [.ref g.next,.str x] (g.new (.ins 1,[])) = some (.ok .non,h') ∧ h'.get g.next = some (.ins 1,[v1,v2,.str x]))):=by
  obtain ⟨a,b,c⟩:=text_B hx
  obtain ⟨g0,hg0⟩:∃ y,g.new (.ins 1,[]) = y:=⟨_,rfl⟩
  have n0:g0.next = g.next + 1:=by simp [← hg0]
  have o0:∀ m,m < g.next → g0.get m = g.get m:=fun m hm=>by rw [← hg0,get_new,if_neg (by omega)]
  have e0:g0.get g.next = some (.ins 1,[]):=hg0 ▸ new_own
  rw [hg0]
  let S0:LS:=[some (.ref g.next),some (.str x)]
  have run:F_Program_init_X [.ref g.next,.str x] g0 = fnXK (B_Program_init_X S0 g0):=by
    simp only [F_Program_init_X]
    rw [evx_fn (by rfl)]
    rfl
  have ca:∀ r,F_read_stepsX [.str x] g0 = r → (xCall F_read_stepsX (lfA (aCons (aVar 1) aNil))) S0 g0 = r:=fun r e=>by
    rw [ev_xcall,ev_lfA,ev_cons,show (aVar 1) S0 g0 = some (.str x,g0) from rfl,consK_some,ev_nil,consJ_some,lfAK_some]
    exact e
  rcases read_ok (h:=g0) (by omega) rfl a b c with ⟨k,h',e1,e2,e3⟩ | ⟨σ,S,h',r,f,a',n,vs,e1,T,e3,e4,e5,e6,e7,e8⟩
  · refine ⟨h',fun m hm=>(e3 m (by omega)).trans (o0 m hm),.inl ⟨k,e1,?_⟩⟩
    rw [run]
    show fnXK ((xSeq _ _) S0 g0) = _
    have:(xAsg (xCall F_read_stepsX (lfA (aCons (aVar 1) aNil))) (gSq 2 (gsCons (gFl 1 0 (aVar 0)) (gsCons (gFl 1 1 (aVar 0)) gsNil)))) S0 g0 = some (.ex 0 (.int (k:Nat)) S0,h'):=by
      rw [ev_xasg,ca _ e2,xasgK_ex]
    rw [xseq_ex this]
    rfl
  · have hnx:g0.next ≤ h'.next:=by
      have h1:h'.get g.next = some (.ins 1,[]):=(e3 _ (by omega)).trans e0
      have:=AH.lt h1
      omega
    obtain ⟨v1,v2,h1,r1,r2,r3⟩:=reEnd_ok T e4 e5 e6 e7 hnx
    have g1:h1.get g.next = some (.ins 1,[]):=(r3 _ (by omega)).trans ((e3 _ (by omega)).trans e0)
    obtain ⟨h2,hh2⟩:∃ y,h1.put g.next (.ins 1,[v1]) = y:=⟨_,rfl⟩
    have g2:h2.get g.next = some (.ins 1,[v1]):=hh2 ▸ put_own g1
    obtain ⟨h3,hh3⟩:∃ y,h2.put g.next (.ins 1,[v1,v2]) = y:=⟨_,rfl⟩
    have g3:h3.get g.next = some (.ins 1,[v1,v2]):=hh3 ▸ put_own g2
    obtain ⟨h4,hh4⟩:∃ y,h3.put g.next (.ins 1,[v1,v2,.str x]) = y:=⟨_,rfl⟩
    have g4:h4.get g.next = some (.ins 1,[v1,v2,.str x]):=hh4 ▸ put_own g3
    refine ⟨h4,fun m hm=>?_,.inr ⟨e1,v1,v2,?_,g4⟩⟩
    · rw [← hh4,get_putI (by rw [g3]; rfl),if_neg (by omega),← hh3,get_putI (by rw [g2]; rfl),if_neg (by omega),← hh2,get_putI (by rw [g1]; rfl),if_neg (by omega),r3 m (by omega),e3 m (by omega)]
      exact o0 m hm
    · rw [run]
      show fnXK ((xSeq _ _) S0 g0) = _
      have b1:(xAsg (xCall F_read_stepsX (lfA (aCons (aVar 1) aNil))) (gSq 2 (gsCons (gFl 1 0 (aVar 0)) (gsCons (gFl 1 1 (aVar 0)) gsNil)))) S0 g0 = some (.ar (.nx S0),h3):=by
        rw [ev_xasg,ca _ (e8.trans r1),xasgK_ok]
        simp [S0,gFl,g1,hh2,g2,hh3]
      rw [xseq_step b1,ev_lfS]
      have b2:(aSetF (aVar 1) 1 2 (aVar 0)) S0 h3 = some (.nx S0,h4):=by
        simp [S0,g3,hh4]
      rw [b2]
      rfl
theorem law_read_ok (hx:x.length ≤ 14000):∃ h',(∀ m,m < g.next → h'.get m = g.get m) ∧ ((∃ k:Nat,badT x = some k ∧ F__law_read [.str x] g = some (.nod .tup [.non,.int (k:Nat)],h')) ∨ (badT x = none ∧ ∃ p v1 v2,F__law_read [.str x] g = some (.nod .tup [.ref p,.non],h') ∧ h'.get p = some (.ins 1,[v1,v2,.str x]))):=by
  obtain ⟨h',old,q⟩:=init_any (g:=g) hx
  refine ⟨h',old,?_⟩
  let S0:LS:=[some (.str x),none,none,none]
  let S2:LS:=[some (.str x),some .non,some .non,none]
  have run:F__law_read [.str x] g = fnK (B__law_read S0 g):=by
    simp only [F__law_read]
    rw [ev_fn (by rfl)]
    rfl
  have ea:(aCons (aVar 0) aNil) S2 g = some ([.str x],g):=rfl
  have z2:2 ≤ sizeLine:=sz _ (by omega)
  have st:∀ A:AS,(aSeq (aAsg (aC .non) (gNm 1)) (aSeq (aAsg (aC .non) (gNm 2)) A)) S0 g = A S2 g:=fun A=>rfl
  rcases q with ⟨k,e1,e2⟩ | ⟨e1,v1,v2,e2,e3⟩
  · refine .inl ⟨k,e1,?_⟩
    have mk:(xSet (xMake 1 F_Program_init_X [] (aCons (aVar 0) aNil)) 1) S2 g = some (.ex 0 (.int (k:Nat)) S2,h'):=by
      rw [ev_xset,ev_xmake ea]
      show xsetK ((F_Program_init_X [.ref g.next,.str x] (g.new (.ins 1,[]))).bind _) 1 S2 = _
      rw [e2]
      rfl
    have hk:k ≤ 100000:=by
      have a:=badR_le e1
      have b:=(text_B hx).1
      omega
    have ok:=okArg_nat hk
    rw [run,B__law_read,st,ev_seq,ev_xtryN_ex mk (by omega)]
    simp [S2,runGN,pickG,okG,ok,ownRN,mkF,z2]
  · refine .inr ⟨e1,g.next,v1,v2,?_,e3⟩
    have mk:(xSet (xMake 1 F_Program_init_X [] (aCons (aVar 0) aNil)) 1) S2 g = some (.ar (.nx [some (.str x),some (.ref g.next),some .non,none]),h'):=by
      rw [ev_xset,ev_xmake ea]
      show xsetK ((F_Program_init_X [.ref g.next,.str x] (g.new (.ins 1,[]))).bind _) 1 S2 = _
      rw [e2]
      rfl
    rw [run,B__law_read,st,ev_seq,ev_xtryN_ar mk,seqK_nx]
    simp [mkF,z2]
end
end K03
end
section
namespace K03
open PySem PySem.Spec PyProof.Rows L2 Rp K03
theorem cutS_le {z:Str} {l u:Option Int}:(cutS z l u).length ≤ z.length:=by
  rw [len_l,len_l]
  unfold cutS
  simp only [List.length_take,List.length_drop]
  omega
def total (xs:List Str):Nat:=(xs.map fun y=>y.length).sum
theorem total_cons {x:Str} {xs:List Str}:total (x :: xs) = x.length + total xs:=by simp [total]
theorem total_app {xs ys:List Str}:total (xs ++ ys) = total xs + total ys:=by simp [total]
theorem total_join:∀ (xs:List Str),(Txt.join (Str.ofString "\n") xs).length ≤ total xs + xs.length ∧ (xs ≠ [] → (Txt.join (Str.ofString "\n") xs).length + 1 = total xs + xs.length)
  | []=>⟨Nat.le_refl _,fun h=>absurd rfl h⟩
  | [x]=>by
    have e:(Txt.join (Str.ofString "\n") [x]) = x:=by
      rw [show Txt.join (Str.ofString "\n") [x] = Str.join (Str.ofString "\n") [x] from StrLaws.glued_eq_join _ _]; rfl
    rw [e]
    exact ⟨by simp [total],fun _=>by simp [total]⟩
  | x :: y :: r=>by
    obtain ⟨a,b⟩:=total_join (y :: r)
    have b:=b (by simp)
    have e:(Txt.join (Str.ofString "\n") (x :: y :: r)).length = x.length + 1 + (Txt.join (Str.ofString "\n") (y :: r)).length:=by
      rw [show Txt.join (Str.ofString "\n") (x :: y :: r) = Str.join (Str.ofString "\n") (x :: y :: r) from StrLaws.glued_eq_join _ _,show Txt.join (Str.ofString "\n") (y :: r) = Str.join (Str.ofString "\n") (y :: r) from StrLaws.glued_eq_join _ _]
      show (x ++ Str.ofString "\n" ++ Str.join (Str.ofString "\n") (y :: r)).length = _
      rw [app_len,app_len]
      rfl
    rw [e,total_cons,List.length_cons]
    exact ⟨by omega,fun _=>by omega⟩
theorem total_set:∀ {xs:List Str} {i:Nat} {x y:Str},xs[i]? = some x → total (xs.set i y) + x.length = total xs + y.length
  | [],i,x,y,e=>by simp at e
  | a :: xs,0,x,y,e=>by
    simp at e
    subst e
    rw [List.set_cons_zero,total_cons,total_cons]
    omega
  | a :: xs,i + 1,x,y,e=>by
    have:=total_set (xs:=xs) (i:=i) (y:=y) (by simpa using e)
    rw [List.set_cons_succ,total_cons,total_cons]
    omega
theorem total_erase:∀ {xs:List Str} {i:Nat},total (xs.eraseIdx i) ≤ total xs
  | [],i=>by simp
  | a :: xs,0=>by rw [List.eraseIdx_cons_zero,total_cons]; omega
  | a :: xs,i + 1=>by
    have:=total_erase (xs:=xs) (i:=i)
    rw [List.eraseIdx_cons_succ,total_cons,total_cons]
    omega
theorem total_mem {xs:List Str} {x:Str} (h:x ∈ xs):x.length ≤ total xs:=by
  induction xs with
  | nil=>cases h
  | cons a xs ih =>
    rw [total_cons]
    rcases List.mem_cons.mp h with rfl | h
    · omega
    · have:=ih h
      omega
theorem map_eraseIdx {α β:Type} (f:α → β):∀ (xs:List α) (i:Nat),(xs.map f).eraseIdx i = (xs.eraseIdx i).map f
  | [],i=>rfl
  | a :: xs,0=>rfl
  | a :: xs,i + 1=>by
    rw [List.map_cons,List.eraseIdx_cons_succ,List.eraseIdx_cons_succ,List.map_cons,map_eraseIdx f xs i]
theorem map_set {α β:Type} (f:α → β) (xs:List α) (i:Nat) (a:α):(xs.map f).set i (f a) = (xs.set i a).map f:=(List.map_set (f:=f) (l:=xs) (i:=i) (a:=a)).symm
theorem split_total {y:Str}:total (Txt.split y (Str.ofString "\n")) + (Txt.split y (Str.ofString "\n")).length = y.length + 1 ∧ Txt.split y (Str.ofString "\n") ≠ []:=by
  have hne:Txt.split y (Str.ofString "\n") ≠ []:=join_ne (c:=10)
  have a:=(total_join (Txt.split y (Str.ofString "\n"))).2 hne
  have e:Txt.join (Str.ofString "\n") (Txt.split y (Str.ofString "\n")) = y:=by
    rw [show Txt.join (Str.ofString "\n") (Txt.split y (Str.ofString "\n")) = Str.join ⟨#[10]⟩ (Txt.split y ⟨#[10]⟩) from StrLaws.glued_eq_join _ _]
    exact StrLaws.join_split ..
  rw [e] at a
  exact ⟨a.symm,hne⟩
theorem addS {x y:Str} {h:AH} (hz:x.length + y.length ≤ 100000):aAdd (.str x) (.str y) h = some (.str (x ++ y),h):=ev_addS (sz _ (by omega))
theorem sign_ix {d:Nat} {h:AH} (hd:d < 12):∃ c,aIx (.str " \nabelpw019A") (.int (d:Nat)) h = some (.str ⟨#[c]⟩,h):=by
  have hl:(Str.ofString " \nabelpw019A").cps.toList.length = 12:=by decide +kernel
  have hz:(Str.ofString " \nabelpw019A").length ≤ sizeLine:=sz _ (by decide +kernel)
  have e1:aIxQ (.str " \nabelpw019A") (.int (d:Nat)) h = none:=rfl
  refine ⟨(Str.ofString " \nabelpw019A").cps.toList[d],?_⟩
  unfold aIx
  rw [e1,orO_none]
  unfold aIxS
  simp only [if_pos hz]
  rw [atI_at (by rw [hl]; exact hd)]
  simp [hl,hd]
  rfl
def wayB (k:Int) (X:AS):AS:=aIfS (aTst (aOp2 aEq (aVar 9) (aC (.int k)))) X aPass
theorem way_no {S:LS} {h:AH} {d:Nat} {k:Int} {X:AS} (h9:S[9]? = some (some (.int (d:Nat)))) (hd:(d:Int) ≠ k):wayB k X S h = some (.nx S,h):=by
  unfold wayB
  rw [ev_if,ev_tst,ev_op2,ev_var,h9,varK_some,op2K_some,ev_c,op2J_some,eq_ii,tstK_some,decide_eq_false hd]
  rfl
theorem way_yes {S:LS} {h:AH} {d:Nat} {k:Int} {X:AS} (h9:S[9]? = some (some (.int (d:Nat)))) (hd:(d:Int) = k):wayB k X S h = X S h:=by
  unfold wayB
  rw [ev_if,ev_tst,ev_op2,ev_var,h9,varK_some,op2K_some,ev_c,op2J_some,eq_ii,tstK_some,decide_eq_true hd]
  rfl
def odd1:List Str:=["end", "else", "task z", "hold", "load 5", "add 0", "read e", "lock n", "start nobody", "join z"]
def odd2:List Str:=["", "try", "yield 1", "mark", "keep v", "give r", "bind", "when", "task abcdefghi"]
def odd3:List Str:=["task A", "end end", "loop 4"]
def oddL:List Str:=odd1 ++ odd2 ++ odd3
theorem odd_len:∀ x ∈ oddL,x.length ≤ 16:=by decide +kernel
abbrev wx0:AS:=aRet (aOp2 aAdd (aOp2 aAdd (aSlice mkF (aVar 1) aNo (aPart (aVar 5))) (aVar 6)) (aSlice mkF (aVar 1) (aPart (aVar 5)) aNo))
abbrev wx1:AS:=aRet (aOp2 aAdd (aSlice mkF (aVar 1) aNo (aPart (aVar 5))) (aSlice mkF (aVar 1) (aPart (aOp2 aAdd (aVar 5) (aC (.int 1)))) aNo))
abbrev wx2:AS:=aRet (aOp2 aAdd (aOp2 aAdd (aSlice mkF (aVar 1) aNo (aPart (aVar 5))) (aVar 6)) (aSlice mkF (aVar 1) (aPart (aOp2 aAdd (aVar 5) (aC (.int 1)))) aNo))
abbrev wx3:AS:=aExp (aBM "list" aInsert (aVar 2) (aCons (aVar 3) (aCons (aVar 8) aNil)))
abbrev wx4:AS:=aExp (aBM "list" aPopAt (aVar 2) (aCons (aVar 3) aNil))
abbrev wx5:AS:=aExp (aBM "list" aInsert (aVar 2) (aCons (aVar 4) (aCons (aOp2 aIx (aVar 2) (aVar 3)) aNil)))
abbrev wx6:AS:=aAsg (aArgs (mkF .tup) (aCons (aOp2 aIx (aVar 2) (aVar 4)) (aCons (aOp2 aIx (aVar 2) (aVar 3)) aNil))) (gSq 2 (gsCons (gIx (aVar 2) (aVar 3)) (gsCons (gIx (aVar 2) (aVar 4)) gsNil)))
abbrev wx7:AS:=aAsg (aVar 8) (gIx (aVar 2) (aVar 3))
abbrev wxJ:AS:=aRet (aBM "str" aJoin (aC (.str "\n")) (aCons (aVar 2) aNil))
abbrev wxT:AS:=aSeq (wayB 0 wx0) (aSeq (wayB 1 wx1) (aSeq (wayB 2 wx2) (aSeq (wayB 3 wx3) (aSeq (wayB 4 wx4) (aSeq (wayB 5 wx5) (aSeq (wayB 6 wx6) (aSeq (wayB 7 wx7) wxJ)))))))
section
variable {h:AH} {n c:Nat} {r:Str} {R:List Str} {hv:AV} {u7:Option AV}
abbrev spS (hv:AV) (r:Str) (x2 x3 x4 x5 x6 x7 x8 x9:Option AV):LS:=[some hv,some (.str r),x2,x3,x4,x5,x6,x7,x8,x9]
theorem join_end {S:LS} (h2:S[2]? = some (some (.ref c))) (hc:h.get c = some (.lst,R.map .str)) (hb:total R + R.length ≤ 100000):wxJ S h = some (.rt (.str (Txt.join (Str.ofString "\n") R)),h):=by
  have sq:seqOf h (.ref c) = some (R.map .str):=by simp [seqOf,hc]
  have st:∀ L:List Str,strsOf (L.map AV.str) = some L:=fun L=>by
    induction L with
    | nil=>rfl
    | cons a L ih=>simp [strsOf,ih]
  have j:aJoin (.str (Str.ofString "\n")) [.ref c] h = some (.str (Txt.join (Str.ofString "\n") R),h):=by
    unfold aJoin
    simp only [sq,Option.bind_some,st]
    rw [if_pos]
    have:(Str.ofString "\n").length = 1:=by decide +kernel
    rw [this]
    unfold total at hb
    omega
  unfold wxJ
  rw [ev_ret,ev_bm,ev_c,bmK_str,ev_cons,ev_var,h2,varK_some,consK_some,ev_nil,consJ_some,bmJ_some]
  show retK (aJoin (.str (Str.ofString "\n")) [.ref c] h) = _
  rw [j]
  rfl
theorem ways_ok {at_ to cut d:Nat} {sg:Nat} {odd:Str} (hc:h.get c = some (.lst,R.map .str)) (hR:total R + R.length = r.length + 1) (hr:r.length ≤ 6000) (ha:at_ < R.length) (ht:to < R.length) (hcut:cut ≤ r.length) (ho:odd.length ≤ 16) (hd:d < 9) :
    ∃ r' h',wxT (spS hv r (some (.ref c)) (some (.int (at_:Nat))) (some (.int (to:Nat))) (some (.int (cut:Nat))) (some (.str ⟨#[sg]⟩)) u7 (some (.str odd)) (some (.int (d:Nat)))) h = some (.rt (.str r'),h') ∧ r'.length ≤ 2 * r.length + 20 ∧ Kp [c] h h':=by
  obtain ⟨S,hS⟩:∃ S,spS hv r (some (.ref c)) (some (.int (at_:Nat))) (some (.int (to:Nat))) (some (.int (cut:Nat))) (some (.str ⟨#[sg]⟩)) u7 (some (.str odd)) (some (.int (d:Nat))) = S:=⟨_,rfl⟩
  rw [hS]
  have v1:∀ g,(aVar 1) S g = some (.str r,g):=fun g=>by rw [← hS]; rfl
  have v2:∀ g,(aVar 2) S g = some (.ref c,g):=fun g=>by rw [← hS]; rfl
  have v3:∀ g,(aVar 3) S g = some (.int (at_:Nat),g):=fun g=>by rw [← hS]; rfl
  have v4:∀ g,(aVar 4) S g = some (.int (to:Nat),g):=fun g=>by rw [← hS]; rfl
  have v5:∀ g,(aVar 5) S g = some (.int (cut:Nat),g):=fun g=>by rw [← hS]; rfl
  have v6:∀ g,(aVar 6) S g = some (.str ⟨#[sg]⟩,g):=fun g=>by rw [← hS]; rfl
  have v8:∀ g,(aVar 8) S g = some (.str odd,g):=fun g=>by rw [← hS]; rfl
  have h2:S[2]? = some (some (.ref c)):=by rw [← hS]; rfl
  have h9:S[9]? = some (some (.int (d:Nat))):=by rw [← hS]; rfl
  let A:=cutS r none (some (cut:Int))
  let B:=cutS r (some (cut:Int)) none
  let C:=cutS r (some ((cut:Int) + 1)) none
  have lA:A.length ≤ r.length:=cutS_le
  have lB:B.length ≤ r.length:=cutS_le
  have lC:C.length ≤ r.length:=cutS_le
  have l1:(⟨#[sg]⟩:Str).length = 1:=rfl
  have hzr:r.length ≤ sizeLine:=sz _ (by omega)
  have pA:(aSlice mkF (aVar 1) aNo (aPart (aVar 5))) S h = some (.str A,h):=by
    rw [ev_slice,v1,sliceK_some,ev_no,sliceJ_some,ev_part,v5,partK_some,sliceI_some]
    exact sl_str hzr
  have pB:(aSlice mkF (aVar 1) (aPart (aVar 5)) aNo) S h = some (.str B,h):=by
    rw [ev_slice,v1,sliceK_some,ev_part,v5,partK_some,sliceJ_some,ev_no,sliceI_some]
    exact sl_str hzr
  have pC:(aSlice mkF (aVar 1) (aPart (aOp2 aAdd (aVar 5) (aC (.int 1)))) aNo) S h = some (.str C,h):=by
    rw [ev_slice,v1,sliceK_some,ev_part,ev_op2,v5,op2K_some,ev_c,op2J_some,ev_addI,partK_some,sliceJ_some,ev_no,sliceI_some]
    exact sl_str hzr
  have lAs:(A ++ ⟨#[sg]⟩:Str).length = A.length + 1:=by rw [app_len,l1]
  have sAs:(aOp2 aAdd (aSlice mkF (aVar 1) aNo (aPart (aVar 5))) (aVar 6)) S h = some (.str (A ++ ⟨#[sg]⟩),h):=by
    rw [ev_op2,pA,op2K_some,v6,op2J_some]
    exact addS (by omega)
  have no:∀ {k:Int} {X:AS} {g:AH},(d:Int) ≠ k → wayB k X S g = some (.nx S,g):=fun hk=>way_no h9 hk
  have tm:∀ {x:Str},x ∈ R → x.length ≤ total R:=fun hx=>total_mem hx
  have ixv:∀ {i:Nat} {g:AH},i < R.length → g.get c = some (.lst,R.map .str) → aIx (.ref c) (.int (i:Nat)) g = some (.str (R.getD i ""),g):=fun {i g} hi hg=>by
    have e:(R.map AV.str)[i]? = some (.str (R.getD i "")):=by
      rw [List.getElem?_map,List.getElem?_eq_getElem hi]
      simp [hi]
    rw [ix_ref,hg,ixR_lst,atI_at (by rw [List.length_map]; exact hi),e]
    rfl
  have jn:∀ {g:AH} {R':List Str},g.get c = some (.lst,R'.map .str) → total R' + R'.length ≤ 2 * r.length + 20 → wxJ S g = some (.rt (.str (Txt.join (Str.ofString "\n") R')),g) ∧ (Txt.join (Str.ofString "\n") R').length ≤ 2 * r.length + 20:=fun hg hb=>⟨join_end h2 hg (by omega),Nat.le_trans (total_join _).1 hb⟩
  have kput:∀ {X:Kd × List AV},Kp [c] h (h.put c X):=fun {X}=>(Kp.refl (S:=[c])).putL (by rw [hc]; rfl) (.inr (by simp))
  unfold wxT
  by_cases d0:d = 0
  · refine ⟨A ++ ⟨#[sg]⟩ ++ B,h,?_,?_,.refl⟩
    · have:wayB 0 wx0 S h = some (.rt (.str (A ++ ⟨#[sg]⟩ ++ B)),h):=by
        rw [way_yes h9 (by omega)]
        unfold wx0
        rw [ev_ret,ev_op2,sAs,op2K_some,pB,op2J_some,addS (by rw [lAs]; omega)]
        rfl
      rw [ev_seq,this,seqK_rt]
    · rw [app_len,lAs]; omega
  rw [seq_step (no (by omega))]
  by_cases d1:d = 1
  · refine ⟨A ++ C,h,?_,?_,.refl⟩
    · have:wayB 1 wx1 S h = some (.rt (.str (A ++ C)),h):=by
        rw [way_yes h9 (by omega)]
        unfold wx1
        rw [ev_ret,ev_op2,pA,op2K_some,pC,op2J_some,addS (by omega)]
        rfl
      rw [ev_seq,this,seqK_rt]
    · rw [app_len]; omega
  rw [seq_step (no (by omega))]
  by_cases d2:d = 2
  · refine ⟨A ++ ⟨#[sg]⟩ ++ C,h,?_,?_,.refl⟩
    · have:wayB 2 wx2 S h = some (.rt (.str (A ++ ⟨#[sg]⟩ ++ C)),h):=by
        rw [way_yes h9 (by omega)]
        unfold wx2
        rw [ev_ret,ev_op2,sAs,op2K_some,pC,op2J_some,addS (by rw [lAs]; omega)]
        rfl
      rw [ev_seq,this,seqK_rt]
    · rw [app_len,lAs]; omega
  rw [seq_step (no (by omega))]
  have xAt:R[at_]? = some (R.getD at_ ""):=by rw [List.getElem?_eq_getElem ha]; simp [ha]
  have xTo:R[to]? = some (R.getD to ""):=by rw [List.getElem?_eq_getElem ht]; simp [ht]
  have lAt:=tm (List.mem_of_getElem? xAt)
  have lTo:=tm (List.mem_of_getElem? xTo)
  have ins:∀ (i:Nat) (x:Str),i < R.length → (R.map AV.str).take i ++ [.str x] ++ (R.map AV.str).drop i = (R.take i ++ [x] ++ R.drop i).map .str ∧ total (R.take i ++ [x] ++ R.drop i) = total R + x.length ∧ (R.take i ++ [x] ++ R.drop i).length = R.length + 1:=fun i x hi=>by
    refine ⟨by simp,?_,by simp; omega⟩
    rw [total_app,total_app]
    have:total R = total (R.take i) + total (R.drop i):=by rw [← total_app,List.take_append_drop]
    rw [this]
    simp [total]
    omega
  have zR:(R.map AV.str).length < sizeLine:=by rw [sizeLine_eq,List.length_map]; omega
  by_cases d3:d = 3
  · obtain ⟨i1,i2,i3⟩:=ins at_ odd ha
    obtain ⟨g,hg⟩:∃ g,h.put c (.lst,(R.take at_ ++ [odd] ++ R.drop at_).map .str) = g:=⟨_,rfl⟩
    have gc:g.get c = some (.lst,(R.take at_ ++ [odd] ++ R.drop at_).map .str):=hg ▸ put_own hc
    have e:wayB 3 wx3 S h = some (.nx S,g):=by
      rw [way_yes h9 (by omega)]
      unfold wx3
      rw [ev_exp,ev_bm,v2,bmK_ref,hc,bmC_lst]
      have:aInsert (.ref c) [.int (at_:Nat),.str odd] h = some (.non,g):=by
        unfold aInsert
        simp only [cellL,hc,Option.bind_some]
        show (if at_ < 1000000 ∧ (R.map AV.str).length < sizeLine then some (AV.non,h.put c (.lst,(R.map AV.str).take at_ ++ [.str odd] ++ (R.map AV.str).drop at_)) else none) = _
        rw [if_pos ⟨by omega,zR⟩,i1,hg]
      rw [ev_cons,v3,consK_some,ev_cons,v8,consK_some,ev_nil,consJ_some,consJ_some,bmJ_some,this]
      rfl
    obtain ⟨j1,j2⟩:=jn gc (by rw [i2,i3]; omega)
    refine ⟨_,g,?_,j2,hg ▸ kput⟩
    rw [seq_step e,seq_step (no (by omega)),seq_step (no (by omega)),seq_step (no (by omega)),seq_step (no (by omega)),j1]
  rw [seq_step (no (by omega))]
  by_cases d4:d = 4
  · obtain ⟨g,hg⟩:∃ g,h.put c (.lst,(R.eraseIdx at_).map .str) = g:=⟨_,rfl⟩
    have gc:g.get c = some (.lst,(R.eraseIdx at_).map .str):=hg ▸ put_own hc
    have e:wayB 4 wx4 S h = some (.nx S,g):=by
      rw [way_yes h9 (by omega)]
      unfold wx4
      rw [ev_exp,ev_bm,v2,bmK_ref,hc,bmC_lst]
      have:aPopAt (.ref c) [.int (at_:Nat)] h = some (.str (R.getD at_ ""),g):=by
        unfold aPopAt
        simp only [cellL,hc,Option.bind_some]
        show (if at_ < 1000000 then ((R.map AV.str)[at_]?).bind fun y=>some (y,h.put c (.lst,(R.map AV.str).eraseIdx at_)) else none) = _
        rw [if_pos (by omega),List.getElem?_map,xAt,map_eraseIdx,hg]
        rfl
      rw [ev_cons,v3,consK_some,ev_nil,consJ_some,bmJ_some,this]
      rfl
    have t1:=total_erase (xs:=R) (i:=at_)
    have t2:(R.eraseIdx at_).length ≤ R.length:=by rw [List.length_eraseIdx]; split <;> omega
    obtain ⟨j1,j2⟩:=jn gc (by omega)
    refine ⟨_,g,?_,j2,hg ▸ kput⟩
    rw [seq_step e,seq_step (no (by omega)),seq_step (no (by omega)),seq_step (no (by omega)),j1]
  rw [seq_step (no (by omega))]
  by_cases d5:d = 5
  · obtain ⟨i1,i2,i3⟩:=ins to (R.getD at_ "") ht
    obtain ⟨g,hg⟩:∃ g,h.put c (.lst,(R.take to ++ [R.getD at_ ""] ++ R.drop to).map .str) = g:=⟨_,rfl⟩
    have gc:g.get c = some (.lst,(R.take to ++ [R.getD at_ ""] ++ R.drop to).map .str):=hg ▸ put_own hc
    have e:wayB 5 wx5 S h = some (.nx S,g):=by
      rw [way_yes h9 (by omega)]
      unfold wx5
      rw [ev_exp,ev_bm,v2,bmK_ref,hc,bmC_lst]
      have ex:(aOp2 aIx (aVar 2) (aVar 3)) S h = some (.str (R.getD at_ ""),h):=by
        rw [ev_op2,v2,op2K_some,v3,op2J_some,ixv ha hc]
      have:aInsert (.ref c) [.int (to:Nat),.str (R.getD at_ "")] h = some (.non,g):=by
        unfold aInsert
        simp only [cellL,hc,Option.bind_some]
        show (if to < 1000000 ∧ (R.map AV.str).length < sizeLine then some (AV.non,h.put c (.lst,(R.map AV.str).take to ++ [.str (R.getD at_ "")] ++ (R.map AV.str).drop to)) else none) = _
        rw [if_pos ⟨by omega,zR⟩,i1,hg]
      have ec:(aCons (aVar 4) (aCons (aOp2 aIx (aVar 2) (aVar 3)) aNil)) S h = some ([.int (to:Nat),.str (R.getD at_ "")],h):=by
        rw [ev_cons,v4,consK_some,ev_cons,ex,consK_some,ev_nil,consJ_some,consJ_some]
      rw [ec,bmJ_some,this]
      rfl
    obtain ⟨j1,j2⟩:=jn gc (by rw [i2,i3]; omega)
    refine ⟨_,g,?_,j2,hg ▸ kput⟩
    rw [seq_step e,seq_step (no (by omega)),seq_step (no (by omega)),j1]
  rw [seq_step (no (by omega))]
  by_cases d6:d = 6
  · obtain ⟨g1,hg1⟩:∃ g,h.put c (.lst,(R.set at_ (R.getD to "")).map .str) = g:=⟨_,rfl⟩
    have gc1:g1.get c = some (.lst,(R.set at_ (R.getD to "")).map .str):=hg1 ▸ put_own hc
    obtain ⟨g2,hg2⟩:∃ g,g1.put c (.lst,((R.set at_ (R.getD to "")).set to (R.getD at_ "")).map .str) = g:=⟨_,rfl⟩
    have gc2:g2.get c = some (.lst,((R.set at_ (R.getD to "")).set to (R.getD at_ "")).map .str):=hg2 ▸ put_own gc1
    have z2:2 ≤ sizeLine:=sz _ (by omega)
    have e:wayB 6 wx6 S h = some (.nx S,g2):=by
      have ea:(aOp2 aIx (aVar 2) (aVar 4)) S h = some (.str (R.getD to ""),h):=by
        rw [ev_op2,v2,op2K_some,v4,op2J_some,ixv ht hc]
      have eb:(aOp2 aIx (aVar 2) (aVar 3)) S h = some (.str (R.getD at_ ""),h):=by
        rw [ev_op2,v2,op2K_some,v3,op2J_some,ixv ha hc]
      have et:(aArgs (mkF .tup) (aCons (aOp2 aIx (aVar 2) (aVar 4)) (aCons (aOp2 aIx (aVar 2) (aVar 3)) aNil))) S h = some (.nod .tup [.str (R.getD to ""),.str (R.getD at_ "")],h):=by
        rw [ev_args,ev_cons,ea,consK_some,ev_cons,eb,consK_some,ev_nil,consJ_some,consJ_some,argsK_some,mkF_ok (sz _ (by simp))]
      have s1:(gIx (aVar 2) (aVar 3)) (.str (R.getD to "")) S h = some (S,g1):=by
        rw [ev_gIx,v2,gixK_some,v3,gixJ_some,set_ref,hc,setR_lst,List.length_map,ixN_nat ha,Option.bind_some,map_set,hg1]
        rfl
      have s2:(gIx (aVar 2) (aVar 4)) (.str (R.getD at_ "")) S g1 = some (S,g2):=by
        rw [ev_gIx,v2,gixK_some,v4,gixJ_some,set_ref,gc1,setR_lst,List.length_map,List.length_set,ixN_nat ht,Option.bind_some,map_set,hg2]
        rfl
      rw [way_yes h9 (by omega)]
      unfold wx6
      rw [ev_asg,et]
      simp only [asgK_some,ev_gSq_tup,List.length_cons,List.length_nil,if_true,ev_gsCons,s1,Option.bind_some,s2,ev_gsNil]
      rfl
    have t1:=total_set (y:=R.getD to "") xAt
    have x2:(R.set at_ (R.getD to ""))[to]? = some (R.getD to ""):=by
      by_cases q:at_ = to
      · subst q
        rw [List.getElem?_set_self ha]
      · rw [List.getElem?_set_ne q,xTo]
    have t2:=total_set (y:=R.getD at_ "") x2
    obtain ⟨j1,j2⟩:=jn gc2 (by rw [List.length_set,List.length_set]; omega)
    refine ⟨_,g2,?_,j2,?_⟩
    · rw [seq_step e,seq_step (no (by omega)),j1]
    · have k1:Kp [c] h g1:=hg1 ▸ kput
      exact hg2 ▸ k1.putL (by rw [gc1]; rfl) (.inr (by simp))
  rw [seq_step (no (by omega))]
  by_cases d7:d = 7
  · obtain ⟨g1,hg1⟩:∃ g,h.put c (.lst,(R.set at_ odd).map .str) = g:=⟨_,rfl⟩
    have gc1:g1.get c = some (.lst,(R.set at_ odd).map .str):=hg1 ▸ put_own hc
    have e:wayB 7 wx7 S h = some (.nx S,g1):=by
      have s1:(gIx (aVar 2) (aVar 3)) (.str odd) S h = some (S,g1):=by
        rw [ev_gIx,v2,gixK_some,v3,gixJ_some,set_ref,hc,setR_lst,List.length_map,ixN_nat ha,Option.bind_some,map_set,hg1]
        rfl
      rw [way_yes h9 (by omega)]
      unfold wx7
      rw [ev_asg,v8]
      simp only [asgK_some,s1]
      rfl
    have t1:=total_set (y:=odd) xAt
    obtain ⟨j1,j2⟩:=jn gc1 (by rw [List.length_set]; omega)
    refine ⟨_,g1,?_,j2,hg1 ▸ kput⟩
    rw [seq_step e,j1]
  · obtain ⟨j1,j2⟩:=jn hc (by omega)
    refine ⟨_,h,?_,j2,.refl⟩
    rw [seq_step (no (by omega)),j1]
end
end K03
end
section
namespace K03
open PySem PySem.Spec PyProof.Rows L2 Rp K03
theorem spoilt_ok {h:AH} {n:Nat} {r:Str} (H:Hat h n) (hr:r.length ≤ 6000):∃ r' h',F__law_spoilt [.ref n,.str r] h = some (.str r',h') ∧ Hat h' n ∧ r'.length ≤ 2 * r.length + 20 ∧ Kp [n] h h':=by
  have hn:n < h.next:=H.lt
  obtain ⟨hR,hRne⟩:=split_total (y:=r)
  obtain ⟨R,hRR⟩:∃ R,Txt.split r (Str.ofString "\n") = R:=⟨_,rfl⟩
  rw [hRR] at hR hRne
  have hp:0 < R.length:=List.length_pos_iff.mpr hRne
  obtain ⟨h1,hh1⟩:∃ y,h.new (.lst,R.map .str) = y:=⟨_,rfl⟩
  have c1:h1.get h.next = some (.lst,R.map .str):=hh1 ▸ new_own
  have k1:Kp [n] h h1:=hh1 ▸ Kp.new
  have H1:Hat h1 n:=H.kp (S:=[]) (hh1 ▸ .new) (by simp)
  obtain ⟨d2,h2,l2,e2,H2,k2,x2⟩:=take_hat H1 R.length (R.length:Int) rfl hp (by omega)
  have c2:=k2.get c1 (by simp; omega)
  obtain ⟨d3,h3,l3,e3,H3,k3,x3⟩:=take_hat H2 R.length (R.length:Int) rfl hp (by omega)
  have c3:=k3.get c2 (by simp; omega)
  obtain ⟨d4,h4,l4,e4,H4,k4,x4⟩:=take_hat H3 (r.length + 1) ((r.length:Int) + 1) (by omega) (by omega) (by omega)
  have c4:=k4.get c3 (by simp; omega)
  obtain ⟨d5,h5,l5,e5,H5,k5,x5⟩:=take_hat H4 12 12
  have c5:=k5.get c4 (by simp; omega)
  obtain ⟨sg,es⟩:=sign_ix (h:=h5) l5
  obtain ⟨z,ez,oz⟩:=H5
  obtain ⟨ov,z',om,oz',eo⟩:=of_lst (xs:=oddL.map AV.str) ez oz (by decide) (by decide)
  obtain ⟨odd,hodd,rfl⟩:=List.mem_map.mp om
  obtain ⟨h6,hh6⟩:∃ y,h5.put n z' = y:=⟨_,rfl⟩
  rw [hh6] at eo
  have H6:Hat h6 n:=⟨z',hh6 ▸ put_own ez,oz'⟩
  have k6:Kp [n] h5 h6:=hh6 ▸ (Kp.refl (S:=[n])).putL (by rw [ez]; rfl) (.inr (by simp))
  have c6:=k6.get c5 (by simp; omega)
  obtain ⟨d7,h7,l7,e7,H7,k7,x7⟩:=take_hat H6 9 9
  have c7:=k7.get c6 (by simp; omega)
  obtain ⟨r',h8,ew,lr,k8⟩:=ways_ok (hv:=.ref n) (u7:=some (.nod .lst (oddL.map .str))) (sg:=sg) c7 hR hr l2 l3 (show d4 ≤ r.length by omega) (odd_len odd hodd) l7
  have H8:Hat h8 n:=H7.kp k8 (by simp; omega)
  have kk:Kp [n] h h8:=((((((k1.trans k2).trans k3).trans k4).trans k5).trans k6).trans k7).tr2 k8 (by intro y hy; simp at hy; right; omega)
  refine ⟨r',h8,?_,H8,lr,kk⟩
  have run:F__law_spoilt [.ref n,.str r] h = fnK (B__law_spoilt (spS (.ref n) r none none none none none none none none) h):=by
    simp only [F__law_spoilt]
    rw [ev_fn (by rfl)]
    rfl
  have lenr:∀ g,aLenV (.str r) g = some (.int r.length,g):=fun g=>Rp.len_str (sz _ (by omega))
  let rf:Option AV:=some (.ref h.next)
  have a1:(aAsg (aBM "str" (aSplit mkM) (aVar 1) (aCons (aC (.str "\n")) aNil)) (gNm 2)) (spS (.ref n) r none none none none none none none none) h = some (.nx (spS (.ref n) r rf none none none none none none none),h1):=by
    have zz:(R.map AV.str).length ≤ sizeLine:=sz _ (by rw [List.length_map]; omega)
    have sp:aSplit mkM (.str r) [.str (Str.ofString "\n")] h = some (.ref h.next,h1):=by
      unfold aSplit
      simp only [hRR]
      rw [if_pos ⟨by decide +kernel,sz _ (by omega)⟩,mkM_ok zz,hh1]
    rw [ev_asg,ev_bm,show (aVar 1) (spS (.ref n) r none none none none none none none none) h = some (.str r,h) from rfl,bmK_str,ev_cons,ev_c,consK_some,ev_nil,consJ_some,bmJ_some,sp]
    rfl
  have tk:∀ {S:LS} {g g':AH} {c:Nat} {d:Nat},S[0]? = some (some (.ref n)) → S[2]? = some (some (.ref c)) → g.get c = some (.lst,R.map .str) → F__law_take [.ref n,.int (R.length:Int)] g = some (.int d,g') → (aCall F__law_take [] (aCons (aVar 0) (aCons (aArgs (one aLenV) (aCons (aVar 2) aNil)) aNil))) S g = some (.int d,g'):=fun {S g g' c d} s0 s2 hc e=>by
    have le:aLenV (.ref c) g = some (.int (R.length:Nat),g):=by rw [len_cell hc,List.length_map]
    rw [ev_call,ev_cons,ev_var,s0,varK_some,consK_some,ev_cons,ev_args,ev_cons,ev_var,s2,varK_some,consK_some,ev_nil,consJ_some,argsK_some,ev_one,le,consK_some,ev_nil,consJ_some,consJ_some,argsK_some,List.append_nil,e]
  have a2:(aAsg (aCall F__law_take [] (aCons (aVar 0) (aCons (aArgs (one aLenV) (aCons (aVar 2) aNil)) aNil))) (gNm 3)) (spS (.ref n) r rf none none none none none none none) h1 = some (.nx (spS (.ref n) r rf (some (.int d2)) none none none none none none),h2):=by
    rw [ev_asg,tk rfl rfl c1 e2]
    rfl
  have a3:(aAsg (aCall F__law_take [] (aCons (aVar 0) (aCons (aArgs (one aLenV) (aCons (aVar 2) aNil)) aNil))) (gNm 4)) (spS (.ref n) r rf (some (.int d2)) none none none none none none) h2 = some (.nx (spS (.ref n) r rf (some (.int d2)) (some (.int d3)) none none none none none),h3):=by
    rw [ev_asg,tk rfl rfl c2 e3]
    rfl
  have a4:(aAsg (aCall F__law_take [] (aCons (aVar 0) (aCons (aOp2 aAdd (aArgs (one aLenV) (aCons (aVar 1) aNil)) (aC (.int 1))) aNil))) (gNm 5)) (spS (.ref n) r rf (some (.int d2)) (some (.int d3)) none none none none none) h3 = some (.nx (spS (.ref n) r rf (some (.int d2)) (some (.int d3)) (some (.int d4)) none none none none),h4):=by
    have:(aCall F__law_take [] (aCons (aVar 0) (aCons (aOp2 aAdd (aArgs (one aLenV) (aCons (aVar 1) aNil)) (aC (.int 1))) aNil))) (spS (.ref n) r rf (some (.int d2)) (some (.int d3)) none none none none none) h3 = some (.int d4,h4):=by
      rw [ev_call,ev_cons,show (aVar 0) (spS (.ref n) r rf (some (.int d2)) (some (.int d3)) none none none none none) h3 = some (.ref n,h3) from rfl,consK_some,ev_cons,ev_op2,ev_args,ev_cons,show (aVar 1) (spS (.ref n) r rf (some (.int d2)) (some (.int d3)) none none none none none) h3 = some (.str r,h3) from rfl,consK_some,ev_nil,consJ_some,argsK_some,ev_one,lenr,op2K_some,ev_c,op2J_some,ev_addI,consK_some,ev_nil,consJ_some,consJ_some,argsK_some,List.append_nil,e4]
    rw [ev_asg,this]
    rfl
  have a5:(aAsg (aOp2 aIx (aC (.str " \nabelpw019A")) (aCall F__law_take [] (aCons (aVar 0) (aCons (aC (.int 12)) aNil)))) (gNm 6)) (spS (.ref n) r rf (some (.int d2)) (some (.int d3)) (some (.int d4)) none none none none) h4 = some (.nx (spS (.ref n) r rf (some (.int d2)) (some (.int d3)) (some (.int d4)) (some (.str ⟨#[sg]⟩)) none none none),h5):=by
    have:(aCall F__law_take [] (aCons (aVar 0) (aCons (aC (.int 12)) aNil))) (spS (.ref n) r rf (some (.int d2)) (some (.int d3)) (some (.int d4)) none none none none) h4 = some (.int d5,h5):=by
      rw [ev_call,ev_cons,show (aVar 0) (spS (.ref n) r rf (some (.int d2)) (some (.int d3)) (some (.int d4)) none none none none) h4 = some (.ref n,h4) from rfl,consK_some,ev_cons,ev_c,consK_some,ev_nil,consJ_some,consJ_some,argsK_some,List.append_nil,e5]
    rw [ev_asg,ev_op2,ev_c,op2K_some,this,op2J_some,es]
    rfl
  obtain ⟨T,hT⟩:∃ T:Option AV → Option AV → Option AV → LS,T = fun u7 u8 u9=>spS (.ref n) r rf (some (.int d2)) (some (.int d3)) (some (.int d4)) (some (.str ⟨#[sg]⟩)) u7 u8 u9:=⟨_,rfl⟩
  have a6:(aAsg (aArgs (mkF .lst) (aCons (aC (.str "end")) (aCons (aC (.str "else")) (aCons (aC (.str "task z")) (aCons (aC (.str "hold")) (aCons (aC (.str "load 5")) (aCons (aC (.str "add 0")) (aCons (aC (.str "read e")) (aCons (aC (.str "lock n")) (aCons (aC (.str "start nobody")) (aCons (aC (.str "join z")) aNil))))))))))) (gNm 7)) (T none none none) h5 = some (.nx (T (some (.nod .lst (odd1.map .str))) none none),h5):=by
    have zz:(odd1.map AV.str).length ≤ sizeLine:=sz _ (by decide)
    have:(aArgs (mkF .lst) (aCons (aC (.str "end")) (aCons (aC (.str "else")) (aCons (aC (.str "task z")) (aCons (aC (.str "hold")) (aCons (aC (.str "load 5")) (aCons (aC (.str "add 0")) (aCons (aC (.str "read e")) (aCons (aC (.str "lock n")) (aCons (aC (.str "start nobody")) (aCons (aC (.str "join z")) aNil))))))))))) (T none none none) h5 = mkF .lst (odd1.map .str) h5:=rfl
    rw [ev_asg,this,mkF_ok zz,hT]
    rfl
  have a7:(aAsg (aOp2 aAdd (aVar 7) (aArgs (mkF .lst) (aCons (aC (.str "")) (aCons (aC (.str "try")) (aCons (aC (.str "yield 1")) (aCons (aC (.str "mark")) (aCons (aC (.str "keep v")) (aCons (aC (.str "give r")) (aCons (aC (.str "bind")) (aCons (aC (.str "when")) (aCons (aC (.str "task abcdefghi")) aNil))))))))))) (gNm 7)) (T (some (.nod .lst (odd1.map .str))) none none) h5 = some (.nx (T (some (.nod .lst ((odd1 ++ odd2).map .str))) none none),h5):=by
    have zz:(odd2.map AV.str).length ≤ sizeLine:=sz _ (by decide)
    have z2:((odd1 ++ odd2).map AV.str).length ≤ sizeLine:=sz _ (by decide)
    have:∀ S,(aArgs (mkF .lst) (aCons (aC (.str "")) (aCons (aC (.str "try")) (aCons (aC (.str "yield 1")) (aCons (aC (.str "mark")) (aCons (aC (.str "keep v")) (aCons (aC (.str "give r")) (aCons (aC (.str "bind")) (aCons (aC (.str "when")) (aCons (aC (.str "task abcdefghi")) aNil)))))))))) S h5 = mkF .lst (odd2.map .str) h5:=fun S=>rfl
    have v:(aVar 7) (T (some (.nod .lst (odd1.map .str))) none none) h5 = some (.nod .lst (odd1.map .str),h5):=by rw [hT]; rfl
    rw [ev_asg,ev_op2,v,op2K_some,this,mkF_ok zz,op2J_some,add_nod,← List.map_append,mkF_ok z2,hT]
    rfl
  have a8:(aAsg (aOp2 aAdd (aVar 7) (aArgs (mkF .lst) (aCons (aC (.str "task A")) (aCons (aC (.str "end end")) (aCons (aC (.str "loop 4")) aNil))))) (gNm 7)) (T (some (.nod .lst ((odd1 ++ odd2).map .str))) none none) h5 = some (.nx (T (some (.nod .lst (oddL.map .str))) none none),h5):=by
    have zz:(odd3.map AV.str).length ≤ sizeLine:=sz _ (by decide)
    have z2:((odd1 ++ odd2 ++ odd3).map AV.str).length ≤ sizeLine:=sz _ (by decide)
    have:∀ S,(aArgs (mkF .lst) (aCons (aC (.str "task A")) (aCons (aC (.str "end end")) (aCons (aC (.str "loop 4")) aNil)))) S h5 = mkF .lst (odd3.map .str) h5:=fun S=>rfl
    have v:(aVar 7) (T (some (.nod .lst ((odd1 ++ odd2).map .str))) none none) h5 = some (.nod .lst ((odd1 ++ odd2).map .str),h5):=by rw [hT]; rfl
    rw [ev_asg,ev_op2,v,op2K_some,this,mkF_ok zz,op2J_some,add_nod,← List.map_append,mkF_ok z2,hT]
    rfl
  have a9:(aAsg (aCall F__law_of [] (aCons (aVar 0) (aCons (aVar 7) aNil))) (gNm 8)) (T (some (.nod .lst (oddL.map .str))) none none) h5 = some (.nx (T (some (.nod .lst (oddL.map .str))) (some (.str odd)) none),h6):=by
    have:(aCall F__law_of [] (aCons (aVar 0) (aCons (aVar 7) aNil))) (T (some (.nod .lst (oddL.map .str))) none none) h5 = some (.str odd,h6):=by
      rw [ev_call,hT]
      exact eo
    rw [ev_asg,this,hT]
    rfl
  have a10:(aAsg (aCall F__law_take [] (aCons (aVar 0) (aCons (aC (.int 9)) aNil))) (gNm 9)) (T (some (.nod .lst (oddL.map .str))) (some (.str odd)) none) h6 = some (.nx (T (some (.nod .lst (oddL.map .str))) (some (.str odd)) (some (.int d7))),h7):=by
    have:(aCall F__law_take [] (aCons (aVar 0) (aCons (aC (.int 9)) aNil))) (T (some (.nod .lst (oddL.map .str))) (some (.str odd)) none) h6 = some (.int d7,h7):=by
      rw [ev_call,hT]
      exact e7
    rw [ev_asg,this,hT]
    rfl
  have eT:spS (.ref n) r rf (some (.int d2)) (some (.int d3)) (some (.int d4)) (some (.str ⟨#[sg]⟩)) none none none = T none none none:=by rw [hT]
  rw [eT] at a5
  rw [run,B__law_spoilt,seq_step a1,seq_step a2,seq_step a3,seq_step a4,seq_step a5,seq_step a6,seq_step a7,seq_step a8,seq_step a9,seq_step a10]
  have eW:T (some (.nod .lst (oddL.map .str))) (some (.str odd)) (some (.int d7)) = spS (.ref n) r (some (.ref h.next)) (some (.int (d2:Nat))) (some (.int (d3:Nat))) (some (.int (d4:Nat))) (some (.str ⟨#[sg]⟩)) (some (.nod .lst (oddL.map .str))) (some (.str odd)) (some (.int (d7:Nat))):=by rw [hT]
  rw [eW]
  show fnK (wxT _ h7) = _
  rw [ew]
  rfl
end K03
end
section
namespace K03
open PySem PySem.Spec PyProof.Rows L2 Rp K03
theorem isi_b {a:AV} {h:AH} {T C:String} (e:tyN h a = some T) (hc:clsOk C = true):aIsi a (.ty C) h = some (.bl (isTy T C),h):=by
  simp [aIsi,hc,e]
theorem isiT_b {a:AV} {h:AH} {T:String} {c1 c2:String} (e:tyN h a = some T) (hc:(clsOk c1 && clsOk c2) = true):aIsiT a (.nod .tup [.ty c1,.ty c2]) h = some (.bl (isTy T c1 || isTy T c2),h):=by
  simp at hc
  simp [aIsiT,tysOf,hc,e]
theorem same_int {x:Int} {h:AH}:F__law_same [.int x,.int x] h = some (.bl true,h):=by
  show lenF 2 (fnA 4 _) _ _ = _
  rw [ev_fn (by rfl)]
  have t1:tyN h (.int x) = some "int" := rfl
  have z2:2 ≤ sizeLine:=sz _ (by omega)
  have i1:=isi_b (C := "bool") t1 (by decide)
  have i2:=isi_b (C := "int") t1 (by decide)
  have i3:=isiT_b (c1 := "int") (c2 := "str") t1 (by decide)
  have b1:isTy "int" "bool" = false:=by decide
  have b2:isTy "int" "int" = true:=by decide
  have b3:isTy "int" "str" = false:=by decide
  have e1:aEq (.bl true) (.bl true) h = some (.bl true,h):=by simp [aEq,nrm,isD,toD,PyData.eqv]
  simp [B__law_same,startA,i1,i2,i3,b1,b2,b3,mkF,z2,e1,eq_ii]
theorem same_non {h:AH}:F__law_same [.non,.non] h = some (.bl true,h):=by
  show lenF 2 (fnA 4 _) _ _ = _
  rw [ev_fn (by rfl)]
  have n1:aIs .non .non h = some (.bl true,h):=rfl
  simp [B__law_same,startA,n1]
theorem take_e {h h':AH} {n:Nat} {s:LS} {j k d:Nat} {K:Int} (h0:s[j]? = some (some (.ref n))) (e:F__law_take [.ref n,.int K] h = some (.int (d:Nat),h')):aCall F__law_take [] (aCons (aVar j) (aCons (aC (.int K)) aNil)) s h = some (.int (d:Nat),h'):=by
  rw [ev_call,ev_cons,ev_var,h0,varK_some,consK_some,ev_cons,ev_c,consK_some,ev_nil,consJ_some,consJ_some,argsK_some,List.append_nil,e]
abbrev enT:AS:=(aSeq (aAsg (aCall F__law_bad_row [] (aCons (aVar 5) aNil)) (gNm 8))
    (aSeq (aAsg (aCall F__law_read [] (aCons (aVar 5) aNil)) (gSq 2 (gsCons (gNm 9) (gsCons (gNm 10) gsNil))))
    (aSeq (aIfS (aOr (aNot (aTst (aCall F__law_same [] (aCons (aVar 10) (aCons (aVar 8) aNil))))) (aTst (aOp2 aNe (aOp2 aIs (aVar 9) (aC .non)) (aOp2 aIsNot (aVar 8) (aC .non))))) (aRet (aC (.bl false))) aPass)
    (aIfS (aAnd (aTst (aOp2 aIsNot (aVar 9) (aC .non))) (aTst (aOp2 aNe (aArgs (aO1 1 F_Program_str pStr) (aCons (aVar 9) aNil)) (aVar 5)))) (aRet (aC (.bl false))) aPass))))
abbrev lS (a0:AV) (n:Nat) (x2 x3 x4 x5 x6 x7 x8 x9 x10 x11:Option AV):LS:=[some a0,some (.ref n),x2,x3,x4,x5,x6,x7,x8,x9,x10,x11]
section
variable {h:AH} {n:Nat} {r:Str} {a0:AV} {x2 x3 x4 x5 x6 x7 x8 x9 x10 x11:Option AV}
theorem Hat.old {h h':AH} {n:Nat} (H:Hat h n) (o:∀ m,m < h.next → h'.get m = h.get m):Hat h' n:=by
  have hn:=H.lt
  obtain ⟨z,e,q⟩:=H
  exact ⟨z,(o n hn).trans e,q⟩
theorem end_turn (H:Hat h n) (hr:r.length ≤ 14000):∃ h' y8 y9 y10,enT (lS a0 n x2 x3 x4 (some (.str r)) x6 x7 x8 x9 x10 x11) h = some (.nx (lS a0 n x2 x3 x4 (some (.str r)) x6 x7 y8 y9 y10 x11),h') ∧ Hat h' n:=by
  let S (y8 y9 y10:Option AV):LS:=lS a0 n x2 x3 x4 (some (.str r)) x6 x7 y8 y9 y10 x11
  obtain ⟨h1,e1,k1⟩:=bad_ok hr h
  have H1:Hat h1 n:=H.kp k1 (by simp)
  have a1:(aAsg (aCall F__law_bad_row [] (aCons (aVar 5) aNil)) (gNm 8)) (S x8 x9 x10) h = some (.nx (S (some (badV (badT r))) x9 x10),h1):=by
    have:(aCall F__law_bad_row [] (aCons (aVar 5) aNil)) (S x8 x9 x10) h = some (badV (badT r),h1):=by
      rw [ev_call,ev_cons,show (aVar 5) (S x8 x9 x10) h = some (.str r,h) from rfl,consK_some,ev_nil,consJ_some,argsK_some,List.append_nil,e1]
    rw [ev_asg,this]
    rfl
  obtain ⟨h2,old,q⟩:=law_read_ok (g:=h1) hr
  have H2:=H1.old old
  have cl:∀ u,F__law_read [.str r] h1 = some u → (aCall F__law_read [] (aCons (aVar 5) aNil)) (S (some (badV (badT r))) x9 x10) h1 = some u:=fun u e=>by
    rw [ev_call,ev_cons,show (aVar 5) (S (some (badV (badT r))) x9 x10) h1 = some (.str r,h1) from rfl,consK_some,ev_nil,consJ_some,argsK_some,List.append_nil,e]
  rcases q with ⟨k,eb,e2⟩ | ⟨eb,p,v1,v2,e2,gp⟩
  · have a2:(aAsg (aCall F__law_read [] (aCons (aVar 5) aNil)) (gSq 2 (gsCons (gNm 9) (gsCons (gNm 10) gsNil)))) (S (some (badV (badT r))) x9 x10) h1 = some (.nx (S (some (.int (k:Nat))) (some .non) (some (.int (k:Nat)))),h2):=by
      rw [ev_asg,cl _ e2,eb]
      rfl
    have v8:(aVar 8) (S (some (.int (k:Nat))) (some .non) (some (.int (k:Nat)))) h2 = some (.int (k:Nat),h2):=rfl
    have v9:(aVar 9) (S (some (.int (k:Nat))) (some .non) (some (.int (k:Nat)))) h2 = some (.non,h2):=rfl
    have v10:(aVar 10) (S (some (.int (k:Nat))) (some .non) (some (.int (k:Nat)))) h2 = some (.int (k:Nat),h2):=rfl
    have nb:aNe (.bl true) (.bl true) h2 = some (.bl false,h2):=by simp [aNe,nrm,isD,toD,PyData.eqv]
    have a3:(aIfS (aOr (aNot (aTst (aCall F__law_same [] (aCons (aVar 10) (aCons (aVar 8) aNil))))) (aTst (aOp2 aNe (aOp2 aIs (aVar 9) (aC .non)) (aOp2 aIsNot (aVar 8) (aC .non))))) (aRet (aC (.bl false))) aPass) (S (some (.int (k:Nat))) (some .non) (some (.int (k:Nat)))) h2 = some (.nx (S (some (.int (k:Nat))) (some .non) (some (.int (k:Nat)))),h2):=by
      have t:(aOr (aNot (aTst (aCall F__law_same [] (aCons (aVar 10) (aCons (aVar 8) aNil))))) (aTst (aOp2 aNe (aOp2 aIs (aVar 9) (aC .non)) (aOp2 aIsNot (aVar 8) (aC .non))))) (S (some (.int (k:Nat))) (some .non) (some (.int (k:Nat)))) h2 = some (false,h2):=by
        rw [ev_or,ev_not,ev_tst,ev_call,ev_cons,v10,consK_some,ev_cons,v8,consK_some,ev_nil,consJ_some,consJ_some,argsK_some,List.append_nil,same_int,tstK_some,notK_some,Bool.not_true,orK_f,ev_tst,ev_op2,ev_op2,v9,op2K_some,ev_c,op2J_some,is_nn,op2K_some,ev_op2,v8,op2K_some,ev_c,op2J_some,isNot_in,op2J_some,nb,tstK_some]
      rw [ev_if,t]
      rfl
    have a4:(aIfS (aAnd (aTst (aOp2 aIsNot (aVar 9) (aC .non))) (aTst (aOp2 aNe (aArgs (aO1 1 F_Program_str pStr) (aCons (aVar 9) aNil)) (aVar 5)))) (aRet (aC (.bl false))) aPass) (S (some (.int (k:Nat))) (some .non) (some (.int (k:Nat)))) h2 = some (.nx (S (some (.int (k:Nat))) (some .non) (some (.int (k:Nat)))),h2):=by
      have t:(aAnd (aTst (aOp2 aIsNot (aVar 9) (aC .non))) (aTst (aOp2 aNe (aArgs (aO1 1 F_Program_str pStr) (aCons (aVar 9) aNil)) (aVar 5)))) (S (some (.int (k:Nat))) (some .non) (some (.int (k:Nat)))) h2 = some (false,h2):=by
        rw [ev_and,ev_tst,ev_op2,v9,op2K_some,ev_c,op2J_some,isNot_nn,tstK_some,andK_f]
      rw [ev_if,t]
      rfl
    exact ⟨h2,_,_,_,(seq_step a1).trans ((seq_step a2).trans ((seq_step a3).trans a4)),H2⟩
  · have a2:(aAsg (aCall F__law_read [] (aCons (aVar 5) aNil)) (gSq 2 (gsCons (gNm 9) (gsCons (gNm 10) gsNil)))) (S (some (badV (badT r))) x9 x10) h1 = some (.nx (S (some .non) (some (.ref p)) (some .non)),h2):=by
      rw [ev_asg,cl _ e2,eb]
      rfl
    have v5:(aVar 5) (S (some .non) (some (.ref p)) (some .non)) h2 = some (.str r,h2):=rfl
    have v8:(aVar 8) (S (some .non) (some (.ref p)) (some .non)) h2 = some (.non,h2):=rfl
    have v9:(aVar 9) (S (some .non) (some (.ref p)) (some .non)) h2 = some (.ref p,h2):=rfl
    have v10:(aVar 10) (S (some .non) (some (.ref p)) (some .non)) h2 = some (.non,h2):=rfl
    have nb:aNe (.bl false) (.bl false) h2 = some (.bl false,h2):=by simp [aNe,nrm,isD,toD,PyData.eqv]
    have a3:(aIfS (aOr (aNot (aTst (aCall F__law_same [] (aCons (aVar 10) (aCons (aVar 8) aNil))))) (aTst (aOp2 aNe (aOp2 aIs (aVar 9) (aC .non)) (aOp2 aIsNot (aVar 8) (aC .non))))) (aRet (aC (.bl false))) aPass) (S (some .non) (some (.ref p)) (some .non)) h2 = some (.nx (S (some .non) (some (.ref p)) (some .non)),h2):=by
      have t:(aOr (aNot (aTst (aCall F__law_same [] (aCons (aVar 10) (aCons (aVar 8) aNil))))) (aTst (aOp2 aNe (aOp2 aIs (aVar 9) (aC .non)) (aOp2 aIsNot (aVar 8) (aC .non))))) (S (some .non) (some (.ref p)) (some .non)) h2 = some (false,h2):=by
        rw [ev_or,ev_not,ev_tst,ev_call,ev_cons,v10,consK_some,ev_cons,v8,consK_some,ev_nil,consJ_some,consJ_some,argsK_some,List.append_nil,same_non,tstK_some,notK_some,Bool.not_true,orK_f,ev_tst,ev_op2,ev_op2,v9,op2K_some,ev_c,op2J_some,show aIs (.ref p) .non h2 = some (.bl false,h2) from rfl,op2K_some,ev_op2,v8,op2K_some,ev_c,op2J_some,isNot_nn,op2J_some,nb,tstK_some]
      rw [ev_if,t]
      rfl
    have st:F_Program_str [.ref p] h2 = some (.str r,h2):=by
      have zr:r.length ≤ sizeLine:=sz _ (by omega)
      simp only [F_Program_str]
      rw [ev_fn (by rfl)]
      simp [B_Program_str,startA,gp,aStr2,aStrV,aStrS,orO,zr]
    have a4:(aIfS (aAnd (aTst (aOp2 aIsNot (aVar 9) (aC .non))) (aTst (aOp2 aNe (aArgs (aO1 1 F_Program_str pStr) (aCons (aVar 9) aNil)) (aVar 5)))) (aRet (aC (.bl false))) aPass) (S (some .non) (some (.ref p)) (some .non)) h2 = some (.nx (S (some .non) (some (.ref p)) (some .non)),h2):=by
      have o1:aO1 1 F_Program_str pStr [.ref p] h2 = some (.str r,h2):=by
        unfold aO1
        simp only [look_ref,gp,if_true,st]
        rfl
      have t:(aAnd (aTst (aOp2 aIsNot (aVar 9) (aC .non))) (aTst (aOp2 aNe (aArgs (aO1 1 F_Program_str pStr) (aCons (aVar 9) aNil)) (aVar 5)))) (S (some .non) (some (.ref p)) (some .non)) h2 = some (false,h2):=by
        rw [ev_and,ev_tst,ev_op2,v9,op2K_some,ev_c,op2J_some,show aIsNot (.ref p) .non h2 = some (.bl true,h2) from rfl,tstK_some,andK_t,ev_tst,ev_op2,ev_args,ev_cons,v9,consK_some,ev_nil,consJ_some,argsK_some,o1,op2K_some,v5,op2J_some,ne_ss,tstK_some]
        simp
      rw [ev_if,t]
      rfl
    exact ⟨h2,_,_,_,(seq_step a1).trans ((seq_step a2).trans ((seq_step a3).trans a4)),H2⟩
end
end K03
end
section
namespace K03
open PySem PySem.Spec PyProof.Rows L2 Rp K03
def bdT:Nat → Nat
  | 0=>2372
  | 1=>4764
  | _=>9548
theorem bdT_le {i:Nat}:bdT i ≤ 9548:=by
  unfold bdT
  split <;> omega
theorem bdT_step {i:Nat} (h:i < 2):2 * bdT i + 20 ≤ bdT (i + 1) ∧ bdT i ≤ 6000:=by
  match i,h with
  | 0,_=>decide
  | 1,_=>decide
abbrev deB:AS:=(aSeq (aAsg (aOp2 aAdd (aC (.int 2)) (aCall F__law_take [] (aCons (aVar 1) (aCons (aC (.int 4)) aNil)))) (gNm 6))
    (aSeq (aAsg (aOp2 aAdd (aOp2 aAdd (aOp2 aAdd (aVar 5) (aC (.str "task z\n"))) (aOp2 aRepS (aC (.str "hold\n")) (aVar 6))) (aOp2 aRepS (aC (.str "end\n")) (aVar 6))) (gNm 5))
    (aAsg (aOp2 aAdd (aOp2 aAdd (aVar 5) (aOp2 aRepS (aC (.str "add 1\n")) (aOp2 aSub (aC (.int 22)) (aCall F__law_take [] (aCons (aVar 1) (aCons (aC (.int 20)) aNil)))))) (aC (.str "end\n"))) (gNm 5))))
abbrev beB:AS:=(aAsg (aCall F__law_spoilt [] (aCons (aVar 1) (aCons (aVar 5) aNil))) (gNm 5))
abbrev tuB:AS:=(aSeq (aAsg (aOp2 aAdd (aC (.int 1)) (aCall F__law_take [] (aCons (aVar 1) (aCons (aC (.int 4)) aNil)))) (gNm 3))
    (aSeq (aAsg (aCall F__law_plan [] (aCons (aVar 1) (aCons (aVar 3) (aCons (aOp2 aIx (aArgs (mkF .lst) (aCons (aC (.int 3)) (aCons (aC (.int 8)) (aCons (aC (.int 24)) aNil)))) (aCall F__law_take [] (aCons (aVar 1) (aCons (aC (.int 3)) aNil)))) (aCons (aCall F__law_words [] aNil) aNil))))) (gNm 4))
    (aSeq (aAsg (aCall F__law_text [] (aCons (aVar 4) aNil)) (gNm 5))
    (aSeq (aIfS (aTst (aOp2 aEq (aCall F__law_take [] (aCons (aVar 1) (aCons (aC (.int 4)) aNil))) (aC (.int 0)))) deB aPass)
    (aSeq (aFor (sRng1 (aCons (aCall F__law_take [] (aCons (aVar 1) (aCons (aC (.int 3)) aNil))) aNil)) (gNm 7) beB)
    enT)))))
section
variable {h:AH} {n:Nat} {a0:AV} {x2 x3 x4 x5 x6 x7 x8 x9 x10 x11:Option AV}
theorem deep_ok {r:Str} (H:Hat h n) (hr:r.length ≤ 2184):∃ r' h' y6,deB (lS a0 n x2 x3 x4 (some (.str r)) x6 x7 x8 x9 x10 x11) h = some (.nx (lS a0 n x2 x3 x4 (some (.str r')) y6 x7 x8 x9 x10 x11),h') ∧ Hat h' n ∧ r'.length ≤ 2372:=by
  let S (x5 x6:Option AV):LS:=lS a0 n x2 x3 x4 x5 x6 x7 x8 x9 x10 x11
  obtain ⟨d1,h1,l1,e1,H1,k1,_⟩:=take_hat H 4 4
  obtain ⟨d2,h2,l2,e2,H2,k2,_⟩:=take_hat H1 20 20
  have c2:(2:Int) + (d1:Nat) = ((2 + d1:Nat):Int):=by omega
  have a1:(aAsg (aOp2 aAdd (aC (.int 2)) (aCall F__law_take [] (aCons (aVar 1) (aCons (aC (.int 4)) aNil)))) (gNm 6)) (S (some (.str r)) x6) h = some (.nx (S (some (.str r)) (some (.int ((2 + d1:Nat):Int)))),h1):=by
    rw [ev_asg,ev_op2,ev_c,op2K_some,take_e (s:=S (some (.str r)) x6) (j:=1) (k:=0) rfl e1,op2J_some,ev_addI,c2]
    rfl
  let D:Option AV:=some (.int ((2 + d1:Nat):Int))
  have tn:((2 + d1:Nat):Int).toNat = 2 + d1:=by omega
  have rp:∀ (x:Str),0 < x.length → x.length ≤ 1000 → aRepS (.str x) (.int ((2 + d1:Nat):Int)) h1 = some (.str (strRep x (2 + d1)),h1):=fun x hx hx2=>by
    unfold aRepS
    simp only
    rw [if_pos ⟨by omega,by omega,hx,hx2⟩,tn]
  have lt:(Str.ofString "task z\n").length = 7:=by decide +kernel
  have lh:(Str.ofString "hold\n").length = 5:=by decide +kernel
  have le:(Str.ofString "end\n").length = 4:=by decide +kernel
  have la:(Str.ofString "add 1\n").length = 6:=by decide +kernel
  let r1:Str:=r ++ Str.ofString "task z\n" ++ strRep (Str.ofString "hold\n") (2 + d1) ++ strRep (Str.ofString "end\n") (2 + d1)
  have q1:(strRep (Str.ofString "hold\n") (2 + d1)).length ≤ 25:=by
    rw [strRep_len,lh]; omega
  have q2:(strRep (Str.ofString "end\n") (2 + d1)).length ≤ 20:=by
    rw [strRep_len,le]; omega
  have l0:(r ++ Str.ofString "task z\n").length = r.length + 7:=by rw [app_len,lt]
  have l00:(r ++ Str.ofString "task z\n" ++ strRep (Str.ofString "hold\n") (2 + d1)).length ≤ r.length + 32:=by rw [app_len,l0]; omega
  have l1':r1.length ≤ r.length + 52:=by
    show (r ++ Str.ofString "task z\n" ++ strRep (Str.ofString "hold\n") (2 + d1) ++ strRep (Str.ofString "end\n") (2 + d1)).length ≤ _
    rw [app_len]; omega
  have a2:(aAsg (aOp2 aAdd (aOp2 aAdd (aOp2 aAdd (aVar 5) (aC (.str "task z\n"))) (aOp2 aRepS (aC (.str "hold\n")) (aVar 6))) (aOp2 aRepS (aC (.str "end\n")) (aVar 6))) (gNm 5)) (S (some (.str r)) D) h1 = some (.nx (S (some (.str r1)) D),h1):=by
    have v5:(aVar 5) (S (some (.str r)) D) h1 = some (.str r,h1):=rfl
    have v6:(aVar 6) (S (some (.str r)) D) h1 = some (.int ((2 + d1:Nat):Int),h1):=rfl
    have s1:(aOp2 aAdd (aVar 5) (aC (.str "task z\n"))) (S (some (.str r)) D) h1 = some (.str (r ++ Str.ofString "task z\n"),h1):=by
      rw [ev_op2,v5,op2K_some,ev_c,op2J_some]
      exact addS (by show r.length + (Str.ofString "task z\n").length ≤ _; rw [lt]; omega)
    have s2:(aOp2 aRepS (aC (.str "hold\n")) (aVar 6)) (S (some (.str r)) D) h1 = some (.str (strRep (Str.ofString "hold\n") (2 + d1)),h1):=by
      rw [ev_op2,ev_c,op2K_some,v6,op2J_some]
      exact rp _ (by rw [lh]; omega) (by rw [lh]; omega)
    have s3:(aOp2 aRepS (aC (.str "end\n")) (aVar 6)) (S (some (.str r)) D) h1 = some (.str (strRep (Str.ofString "end\n") (2 + d1)),h1):=by
      rw [ev_op2,ev_c,op2K_some,v6,op2J_some]
      exact rp _ (by rw [le]; omega) (by rw [le]; omega)
    rw [ev_asg,ev_op2,ev_op2,s1,op2K_some,s2,op2J_some,addS (by rw [l0]; omega),op2K_some,s3,op2J_some,addS (by omega)]
    rfl
  obtain ⟨m,hm⟩:∃ m:Nat,m = 22 - d2:=⟨_,rfl⟩
  have cm:(22:Int) - (d2:Nat) = (m:Int):=by omega
  let r2:Str:=r1 ++ strRep (Str.ofString "add 1\n") m ++ Str.ofString "end\n"
  have q3:(strRep (Str.ofString "add 1\n") m).length ≤ 132:=by
    rw [strRep_len,la]; omega
  have l2':(r1 ++ strRep (Str.ofString "add 1\n") m).length ≤ r.length + 184:=by rw [app_len]; omega
  have a3:(aAsg (aOp2 aAdd (aOp2 aAdd (aVar 5) (aOp2 aRepS (aC (.str "add 1\n")) (aOp2 aSub (aC (.int 22)) (aCall F__law_take [] (aCons (aVar 1) (aCons (aC (.int 20)) aNil)))))) (aC (.str "end\n"))) (gNm 5)) (S (some (.str r1)) D) h1 = some (.nx (S (some (.str r2)) D),h2):=by
    have v5:(aVar 5) (S (some (.str r1)) D) h1 = some (.str r1,h1):=rfl
    have sb:aSub (.int 22) (.int (d2:Nat)) h2 = some (.int (m:Nat),h2):=by rw [← cm]; rfl
    have s2:(aOp2 aRepS (aC (.str "add 1\n")) (aOp2 aSub (aC (.int 22)) (aCall F__law_take [] (aCons (aVar 1) (aCons (aC (.int 20)) aNil))))) (S (some (.str r1)) D) h1 = some (.str (strRep (Str.ofString "add 1\n") m),h2):=by
      rw [ev_op2,ev_c,op2K_some,ev_op2,ev_c,op2K_some,take_e (s:=S (some (.str r1)) D) (j:=1) (k:=0) rfl e2,op2J_some,sb,op2J_some]
      show aRepS (.str (Str.ofString "add 1\n")) (.int (m:Nat)) h2 = _
      unfold aRepS
      simp only
      rw [if_pos ⟨by omega,by omega,by rw [la]; omega,by rw [la]; omega⟩]
      rfl
    rw [ev_asg,ev_op2,ev_op2,v5,op2K_some,s2,op2J_some,addS (by omega),op2K_some,ev_c,op2J_some]
    rw [show aAdd (.str (r1 ++ strRep (Str.ofString "add 1\n") m)) (.str "end\n") h2 = some (.str r2,h2) from addS (by show _ + (Str.ofString "end\n").length ≤ _; rw [le]; omega)]
    rfl
  refine ⟨r2,h2,D,(seq_step a1).trans ((seq_step a2).trans a3),H2,?_⟩
  show (r1 ++ strRep (Str.ofString "add 1\n") m ++ Str.ofString "end\n").length ≤ _
  rw [app_len,le]
  omega
theorem turn_ok (H:Hat h n):∃ h' y3 y4 y5 y6 y7 y8 y9 y10,tuB (lS a0 n x2 x3 x4 x5 x6 x7 x8 x9 x10 x11) h = some (.nx (lS a0 n x2 y3 y4 y5 y6 y7 y8 y9 y10 x11),h') ∧ Hat h' n:=by
  let S (x3 x4 x5:Option AV):LS:=lS a0 n x2 x3 x4 x5 x6 x7 x8 x9 x10 x11
  obtain ⟨d1,h1,l1,e1,H1,_,_⟩:=take_hat H 4 4
  have c1:(1:Int) + (d1:Nat) = ((1 + d1:Nat):Int):=by omega
  have a1:(aAsg (aOp2 aAdd (aC (.int 1)) (aCall F__law_take [] (aCons (aVar 1) (aCons (aC (.int 4)) aNil)))) (gNm 3)) (S x3 x4 x5) h = some (.nx (S (some (.int ((1 + d1:Nat):Int))) x4 x5),h1):=by
    rw [ev_asg,ev_op2,ev_c,op2K_some,take_e (s:=S x3 x4 x5) (j:=1) (k:=0) rfl e1,op2J_some,ev_addI,c1]
    rfl
  obtain ⟨d2,h2,l2,e2,H2,_,_⟩:=take_hat H1 3 3
  obtain ⟨z,hz,iz⟩:∃ z:Nat,z ≤ 24 ∧ aIx (.nod .lst [.int 3,.int 8,.int 24]) (.int (d2:Nat)) h2 = some (.int (z:Nat),h2):=by
    match d2,l2 with
    | 0,_=>exact ⟨3,by omega,rfl⟩
    | 1,_=>exact ⟨8,by omega,rfl⟩
    | 2,_=>exact ⟨24,by omega,rfl⟩
  obtain ⟨P,h3,hPl,Hp,e3,H3,k3⟩:=plan_ok (m:=1 + d1) (z:=z) (W:=wordsL) H2 (by omega) hz (fun w hw=>hw) (by decide) (by decide)
  let M:Option AV:=some (.int ((1 + d1:Nat):Int))
  have a2:(aAsg (aCall F__law_plan [] (aCons (aVar 1) (aCons (aVar 3) (aCons (aOp2 aIx (aArgs (mkF .lst) (aCons (aC (.int 3)) (aCons (aC (.int 8)) (aCons (aC (.int 24)) aNil)))) (aCall F__law_take [] (aCons (aVar 1) (aCons (aC (.int 3)) aNil)))) (aCons (aCall F__law_words [] aNil) aNil))))) (gNm 4)) (S M x4 x5) h1 = some (.nx (S M (some (.nod .lst (P.map pav))) x5),h3):=by
    have pz:(aOp2 aIx (aArgs (mkF .lst) (aCons (aC (.int 3)) (aCons (aC (.int 8)) (aCons (aC (.int 24)) aNil)))) (aCall F__law_take [] (aCons (aVar 1) (aCons (aC (.int 3)) aNil)))) (S M x4 x5) h1 = some (.int (z:Nat),h2):=by
      rw [ev_op2,ev_args,ev_cons,ev_c,consK_some,ev_cons,ev_c,consK_some,ev_cons,ev_c,consK_some,ev_nil,consJ_some,consJ_some,consJ_some,argsK_some,mkF_ok (sz _ (by simp)),op2K_some,take_e (s:=S M x4 x5) (j:=1) (k:=0) rfl e2,op2J_some,iz]
    have:(aCall F__law_plan [] (aCons (aVar 1) (aCons (aVar 3) (aCons (aOp2 aIx (aArgs (mkF .lst) (aCons (aC (.int 3)) (aCons (aC (.int 8)) (aCons (aC (.int 24)) aNil)))) (aCall F__law_take [] (aCons (aVar 1) (aCons (aC (.int 3)) aNil)))) (aCons (aCall F__law_words [] aNil) aNil))))) (S M x4 x5) h1 = some (.nod .lst (P.map pav),h3):=by
      rw [ev_call,ev_cons,show (aVar 1) (S M x4 x5) h1 = some (.ref n,h1) from rfl,consK_some,ev_cons,show (aVar 3) (S M x4 x5) h1 = some (.int ((1 + d1:Nat):Int),h1) from rfl,consK_some,ev_cons,pz,consK_some,ev_cons,ev_call,ev_nil,argsK_some,List.append_nil,words_ok,consK_some,ev_nil,consJ_some,consJ_some,consJ_some,consJ_some,argsK_some,List.append_nil,e3]
    rw [ev_asg,this]
    rfl
  obtain ⟨h4,e4,k4⟩:=text_ok h3 Hp
  have H4:Hat h4 n:=H3.kp k4 (by simp)
  have lT:(textP P).length ≤ 2184:=by
    have q1:=textOf_len Hp.rows
    have q2:=rowsP_len Hp.rw_
    have q3:=Hp.le
    show (textOf (rowsP P)).length ≤ _
    omega
  let L:Option AV:=some (.nod .lst (P.map pav))
  have a3:(aAsg (aCall F__law_text [] (aCons (aVar 4) aNil)) (gNm 5)) (S M L x5) h3 = some (.nx (S M L (some (.str (textP P)))),h4):=by
    have:(aCall F__law_text [] (aCons (aVar 4) aNil)) (S M L x5) h3 = some (.str (textP P),h4):=by
      rw [ev_call,ev_cons,show (aVar 4) (S M L x5) h3 = some (.nod .lst (P.map pav),h3) from rfl,consK_some,ev_nil,consJ_some,argsK_some,List.append_nil,e4]
    rw [ev_asg,this]
    rfl
  obtain ⟨d5,h5,l5,e5,H5,_,_⟩:=take_hat H4 4 4
  let S2 (x5 x6 x7 x8 x9 x10:Option AV):LS:=lS a0 n x2 M L x5 x6 x7 x8 x9 x10 x11
  obtain ⟨r6,h6,y6,a4,H6,l6⟩:∃ r6 h6 y6,(aIfS (aTst (aOp2 aEq (aCall F__law_take [] (aCons (aVar 1) (aCons (aC (.int 4)) aNil))) (aC (.int 0)))) deB aPass) (S2 (some (.str (textP P))) x6 x7 x8 x9 x10) h4 = some (.nx (S2 (some (.str r6)) y6 x7 x8 x9 x10),h6) ∧ Hat h6 n ∧ r6.length ≤ 2372:=by
    have t:(aTst (aOp2 aEq (aCall F__law_take [] (aCons (aVar 1) (aCons (aC (.int 4)) aNil))) (aC (.int 0)))) (S2 (some (.str (textP P))) x6 x7 x8 x9 x10) h4 = some (decide ((d5:Int) = 0),h5):=by
      rw [ev_tst,ev_op2,take_e (s:=S2 (some (.str (textP P))) x6 x7 x8 x9 x10) (j:=1) (k:=0) rfl e5,op2K_some,ev_c,op2J_some,eq_ii,tstK_some]
    by_cases hd:(d5:Int) = 0
    · obtain ⟨r',h',y6,e,H',l'⟩:=deep_ok (a0:=a0) (x2:=x2) (x3:=M) (x4:=L) (x6:=x6) (x7:=x7) (x8:=x8) (x9:=x9) (x10:=x10) (x11:=x11) H5 lT
      refine ⟨r',h',y6,?_,H',l'⟩
      rw [ev_if,t,decide_eq_true hd]
      exact e
    · refine ⟨textP P,h5,x6,?_,H5,by omega⟩
      rw [ev_if,t,decide_eq_false hd]
      rfl
  obtain ⟨d7,h7,l7,e7,H7,_,_⟩:=take_hat H6 3 3
  have hlr:(rgI 0 d7).length = d7:=rgI_len
  obtain ⟨s8,h8,ec,qc⟩:=forL_ix (G:=[]) (g:=gNm 7) (B:=beB) (xs:=rgI 0 d7)
    (fun i st g=>∃ r z7,st = S2 (some (.str r)) y6 z7 x8 x9 x10 ∧ Hat g n ∧ r.length ≤ bdT i) (fun _ _ _ _=>rfl)
    (fun i x st g hx q=>by
      obtain ⟨r,z7,rfl,Hg,hr⟩:=q
      have hi:=(rgI_get hx).1
      obtain ⟨b1,b2⟩:=bdT_step (i:=i) (by omega)
      obtain ⟨r',g',e,Hg',lr,_⟩:=spoilt_ok (r:=r) Hg (by omega)
      have eb:beB (S2 (some (.str r)) y6 (some x) x8 x9 x10) g = some (.nx (S2 (some (.str r')) y6 (some x) x8 x9 x10),g'):=by
        have:(aCall F__law_spoilt [] (aCons (aVar 1) (aCons (aVar 5) aNil))) (S2 (some (.str r)) y6 (some x) x8 x9 x10) g = some (.str r',g'):=by
          rw [ev_call,ev_cons,show (aVar 1) (S2 (some (.str r)) y6 (some x) x8 x9 x10) g = some (.ref n,g) from rfl,consK_some,ev_cons,show (aVar 5) (S2 (some (.str r)) y6 (some x) x8 x9 x10) g = some (.str r,g) from rfl,consK_some,ev_nil,consJ_some,consJ_some,argsK_some,List.append_nil,e]
        unfold beB
        rw [ev_asg,this]
        rfl
      exact ⟨S2 (some (.str r)) y6 (some x) x8 x9 x10,g,_,g',_,rfl,eb,.inl rfl,r',some x,rfl,Hg',by omega⟩)
    (s:=S2 (some (.str r6)) y6 x7 x8 x9 x10) (h:=h7) ⟨r6,x7,rfl,H7,l6⟩
  obtain ⟨r8,z7,rfl,H8,l8⟩:=qc
  have l8:r8.length ≤ 14000:=by have:=bdT_le (i:=(rgI 0 d7).length); omega
  have a5:(aFor (sRng1 (aCons (aCall F__law_take [] (aCons (aVar 1) (aCons (aC (.int 3)) aNil))) aNil)) (gNm 7) beB) (S2 (some (.str r6)) y6 x7 x8 x9 x10) h6 = some (.nx (S2 (some (.str r8)) y6 z7 x8 x9 x10),h8):=by
    have p:(aCons (aCall F__law_take [] (aCons (aVar 1) (aCons (aC (.int 3)) aNil))) aNil) (S2 (some (.str r6)) y6 x7 x8 x9 x10) h6 = some ([.int (d7:Nat)],h7):=by
      rw [ev_cons,take_e (s:=S2 (some (.str r6)) y6 x7 x8 x9 x10) (j:=1) (k:=0) rfl e7]
      rfl
    have:rngK sm ((aCons (aCall F__law_take [] (aCons (aVar 1) (aCons (aC (.int 3)) aNil))) aNil) (S2 (some (.str r6)) y6 x7 x8 x9 x10) h6) = some ((rgI 0 d7,[]),h7):=by
      rw [p]
      exact rngK_nat (by omega)
    rw [ev_for,ev_rng,this,forK_some]
    exact ec
  obtain ⟨h9,y8,y9,y10,a6,H9⟩:=end_turn (a0:=a0) (x2:=x2) (x3:=M) (x4:=L) (x6:=y6) (x7:=z7) (x8:=x8) (x9:=x9) (x10:=x10) (x11:=x11) H8 l8
  exact ⟨h9,M,L,some (.str r8),y6,z7,y8,y9,y10,(seq_step a1).trans ((seq_step a2).trans ((seq_step a3).trans ((seq_step a4).trans ((seq_step a5).trans a6)))),H9⟩
theorem fix0:badT "" = some 0:=by decide +kernel
theorem fix1:badT "task a\nend" = some 1:=by decide +kernel
theorem fix2:badT "task a\n" = some 1:=by decide +kernel
theorem fix3:badT "task a\nstart a\nend\n" = some 1:=by decide +kernel
theorem fix4:badT "task a\nadd 1\njoin a\nend\n" = some 2:=by decide +kernel
end
end K03
end
section
namespace K03
open PySem PySem.Spec PyProof.Rows L2 Rp K03
abbrev rdE:AE:=aOp2 aIx (aCall F__law_read [] (aCons (aVar 5) aNil)) (aC (.int 1))
theorem fix_loop {s0:LS} (hl:s0.length = 12):∀ (xs:List (Str × Nat)) (acc:List AV) (h:AH),(∀ x ∈ xs,badT x.1 = some x.2 ∧ x.1.length ≤ 14000) → acc.length + xs.length ≤ 1000 →
    ∃ h',lcL [] (gNm 5) aYes rdE s0 (xs.map fun x=>AV.str x.1) acc h = some (acc ++ xs.map fun x=>AV.int (x.2:Nat),h')
  | [],acc,h,_,_=>⟨h,by simp [lcL,chk]⟩
  | (x,k) :: xs,acc,h,hx,hz=>by
    obtain ⟨hb,hx1⟩:=hx (x,k) List.mem_cons_self
    obtain ⟨h1,_,q⟩:=law_read_ok (g:=h) hx1
    obtain ⟨S1,hS1⟩:∃ S1,s0.set 5 (some (.str x)) = S1:=⟨_,rfl⟩
    have s15:S1[5]? = some (some (.str x)):=by rw [← hS1]; simp [hl]
    have e:F__law_read [.str x] h = some (.nod .tup [.non,.int (k:Nat)],h1):=by
      rcases q with ⟨k',e1,e2⟩ | ⟨e1,_⟩
      · rw [show badT x = some k from hb] at e1
        cases e1
        exact e2
      · rw [show badT x = some k from hb] at e1
        cases e1
    have er:rdE S1 h = some (.int (k:Nat),h1):=by
      unfold rdE
      rw [ev_op2,ev_call,ev_cons,ev_var,s15,varK_some,consK_some,ev_nil,consJ_some,argsK_some,List.append_nil,e,op2K_some,ev_c,op2J_some]
      rfl
    rw [List.length_cons] at hz
    obtain ⟨h2,e2⟩:=fix_loop hl xs (acc ++ [.int (k:Nat)]) h1 (fun y hy=>hx y (List.mem_cons_of_mem _ hy)) (by simp; omega)
    refine ⟨h2,?_⟩
    have zl:acc.length < sizeLine:=by rw [sizeLine_eq]; omega
    rw [List.map_cons]
    unfold lcL
    rw [if_pos chk_nil]
    show ((some (s0.set 5 (some (.str x)),h)).bind _) = _
    rw [hS1]
    simp only [Option.bind_some,ev_yes,if_true,er,if_pos zl,e2]
    simp
def fixP:List (Str × Nat):=[("",0),("task a\nend",1),("task a\n",1),("task a\nstart a\nend\n",1),("task a\nadd 1\njoin a\nend\n",2)]
theorem fix_all:∀ x ∈ fixP,badT x.1 = some x.2 ∧ x.1.length ≤ 14000:=by
  intro x hx
  simp only [fixP,List.mem_cons,List.not_mem_nil,or_false] at hx
  rcases hx with rfl | rfl | rfl | rfl | rfl
  · exact ⟨fix0,by decide +kernel⟩
  · exact ⟨fix1,by decide +kernel⟩
  · exact ⟨fix2,by decide +kernel⟩
  · exact ⟨fix3,by decide +kernel⟩
  · exact ⟨fix4,by decide +kernel⟩
theorem law_run (ns:List Int) (h:AH):∃ h',F_law [.nod .scr (ns.map .int)] h = some (.bl true,h'):=by
  obtain ⟨z,oz,e1⟩:=hat_ok (h:=h) ns
  have H1:Hat (h.new z) h.next:=⟨z,new_own,oz⟩
  let a0:AV:=.nod .scr (ns.map .int)
  obtain ⟨s2,g2,e2,q2⟩:=forL_ix (G:=[]) (g:=gNm 2) (B:=tuB) (xs:=rgI 0 3)
    (fun i st g=>∃ u2 u3 u4 u5 u6 u7 u8 u9 u10,st = lS a0 h.next u2 u3 u4 u5 u6 u7 u8 u9 u10 none ∧ Hat g h.next) (fun _ _ _ _=>rfl)
    (fun i x st g hx q=>by
      obtain ⟨u2,u3,u4,u5,u6,u7,u8,u9,u10,rfl,H⟩:=q
      obtain ⟨g',v3,v4,v5,v6,v7,v8,v9,v10,e,H'⟩:=turn_ok (a0:=a0) (x2:=some x) (x3:=u3) (x4:=u4) (x5:=u5) (x6:=u6) (x7:=u7) (x8:=u8) (x9:=u9) (x10:=u10) (x11:=none) H
      exact ⟨lS a0 h.next (some x) u3 u4 u5 u6 u7 u8 u9 u10 none,g,_,g',_,rfl,e,.inl rfl,_,_,_,_,_,_,_,_,_,rfl,H'⟩)
    (s:=lS a0 h.next none none none none none none none none none none) (h:=h.new z) ⟨none,none,none,none,none,none,none,none,none,rfl,H1⟩
  obtain ⟨u2,u3,u4,u5,u6,u7,u8,u9,u10,rfl,H2⟩:=q2
  let S3:LS:=lS a0 h.next u2 u3 u4 u5 u6 u7 u8 u9 u10 (some (.nod .lst (fixP.map fun x=>AV.str x.1)))
  obtain ⟨g3,e3⟩:=fix_loop (s0:=wipeA S3 [5]) rfl fixP [] g2 fix_all (by decide)
  have a1:(aAsg (aCall F__law_hat [] (aCons (aVar 0) aNil)) (gNm 1)) [some a0,none,none,none,none,none,none,none,none,none,none,none] h = some (.nx (lS a0 h.next none none none none none none none none none none),h.new z):=by
    have:(aCall F__law_hat [] (aCons (aVar 0) aNil)) [some a0,none,none,none,none,none,none,none,none,none,none,none] h = some (.ref h.next,h.new z):=by
      rw [ev_call,ev_cons,show (aVar 0) [some a0,none,none,none,none,none,none,none,none,none,none,none] h = some (a0,h) from rfl,consK_some,ev_nil,consJ_some,argsK_some,List.append_nil,e1]
    rw [ev_asg,this]
    rfl
  have a2:(aFor (sRng1 (aCons (aC (.int 3)) aNil)) (gNm 2) tuB) (lS a0 h.next none none none none none none none none none none) (h.new z) = some (.nx (lS a0 h.next u2 u3 u4 u5 u6 u7 u8 u9 u10 none),g2):=by
    rw [ev_for,ev_rng]
    have:rngK sm ((aCons (aC (.int 3)) aNil) (lS a0 h.next none none none none none none none none none none) (h.new z)) = some ((rgI 0 3,[]),h.new z):=rngK_nat (j:=3) (by omega)
    rw [this,forK_some]
    exact e2
  have a3:(aAsg (aArgs (mkF .lst) (aCons (aC (.str "")) (aCons (aC (.str "task a\nend")) (aCons (aC (.str "task a\n")) (aCons (aC (.str "task a\nstart a\nend\n")) (aCons (aC (.str "task a\nadd 1\njoin a\nend\n")) aNil)))))) (gNm 11)) (lS a0 h.next u2 u3 u4 u5 u6 u7 u8 u9 u10 none) g2 = some (.nx S3,g2):=by
    have zz:(fixP.map fun x=>AV.str x.1).length ≤ sizeLine:=sz _ (by decide)
    have:(aArgs (mkF .lst) (aCons (aC (.str "")) (aCons (aC (.str "task a\nend")) (aCons (aC (.str "task a\n")) (aCons (aC (.str "task a\nstart a\nend\n")) (aCons (aC (.str "task a\nadd 1\njoin a\nend\n")) aNil)))))) (lS a0 h.next u2 u3 u4 u5 u6 u7 u8 u9 u10 none) g2 = mkF .lst (fixP.map fun x=>AV.str x.1) g2:=rfl
    rw [ev_asg,this,mkF_ok zz]
    rfl
  have a4:(aRet (aOp2 aEq (aLc mkF (sVal (aVar 11)) (gNm 5) aYes rdE [5]) (aArgs (mkF .lst) (aCons (aC (.int 0)) (aCons (aC (.int 1)) (aCons (aC (.int 1)) (aCons (aC (.int 1)) (aCons (aC (.int 2)) aNil)))))))) S3 g2 = some (.rt (.bl true),g3):=by
    have ec:(aLc mkF (sVal (aVar 11)) (gNm 5) aYes rdE [5]) S3 g2 = some (.nod .lst (fixP.map fun x=>AV.int (x.2:Nat)),g3):=by
      have v:(aVar 11) S3 g2 = some (.nod .lst (fixP.map fun x=>AV.str x.1),g2):=rfl
      rw [ev_lc,ev_sVal,v,srcVK_lst,Option.bind_some]
      dsimp only
      rw [e3,Option.bind_some]
      exact mkF_ok (sz _ (by show (fixP.map fun x=>AV.int (x.2:Nat)).length ≤ 16777216; decide))
    have ed:(aArgs (mkF .lst) (aCons (aC (.int 0)) (aCons (aC (.int 1)) (aCons (aC (.int 1)) (aCons (aC (.int 1)) (aCons (aC (.int 2)) aNil)))))) S3 g3 = some (.nod .lst (fixP.map fun x=>AV.int (x.2:Nat)),g3):=by
      have:(aArgs (mkF .lst) (aCons (aC (.int 0)) (aCons (aC (.int 1)) (aCons (aC (.int 1)) (aCons (aC (.int 1)) (aCons (aC (.int 2)) aNil)))))) S3 g3 = mkF .lst (fixP.map fun x=>AV.int (x.2:Nat)) g3:=rfl
      rw [this,mkF_ok (sz _ (by decide))]
    have eq:aEq (.nod .lst (fixP.map fun x=>AV.int (x.2:Nat))) (.nod .lst (fixP.map fun x=>AV.int (x.2:Nat))) g3 = some (.bl true,g3):=by
      simp [fixP,aEq,nrm,isD,isDs,toD,toDs,PyData.eqv,PyData.eqvAll]
    rw [ev_ret,ev_op2,ec,op2K_some,ed,op2J_some,eq]
    rfl
  refine ⟨g3,?_⟩
  simp only [F_law]
  rw [ev_fn (by rfl)]
  exact (congrArg fnK ((seq_step a1).trans ((seq_step a2).trans ((seq_step a3).trans a4)))).trans rfl
theorem law_true (ns:List Int):∃ h',F_law [.nod .scr (ns.map .int)] ⟨fun _=>none,0,fun _ _=>rfl⟩ = some (.bl true,h'):=law_run ns _
end K03
end
section
namespace K03
open PySem PySem.Spec PyProof.Rows L2 Rp
def caK (K:PySem.W.Frag):Nat → Addr
  | 0=>He.ga K "Reader"
  | 1=>He.ga K "Program"
  | 100=>He.ga K "BadProgram"
  | 80=>He.ma K (He.ga K "BadProgram") "__init__"
  | 98=>He.ga K "RideError"
  | _=>0
theorem gv {P:Program} {w:World} {K:PySem.W.Frag} {h:Heap} {mg:Str → Option Value} (X:K.In h) (G:h.Ns mainGlobals mg) (c:He.SaysX fa fn ts [] exB w h K):Gv P w K mg (caK K):=by
  have hex:∀ x ∈ exL K,id x = true:=List.all_eq_true.mp c.more
  exact {
    b_all:=He.free_ok X G (c.t.d.fact 0 (f:=.free "all") rfl)
    b_bool:=He.free_ok X G (c.t.d.fact 1 (f:=.free "bool") rfl)
    b_enumerate:=He.free_ok X G (c.t.d.fact 2 (f:=.free "enumerate") rfl)
    b_int:=He.free_ok X G (c.t.d.fact 3 (f:=.free "int") rfl)
    b_isinstance:=He.free_ok X G (c.t.d.fact 4 (f:=.free "isinstance") rfl)
    b_len:=He.free_ok X G (c.t.d.fact 5 (f:=.free "len") rfl)
    b_list:=He.free_ok X G (c.t.d.fact 6 (f:=.free "list") rfl)
    b_range:=He.free_ok X G (c.t.d.fact 7 (f:=.free "range") rfl)
    b_str:=He.free_ok X G (c.t.d.fact 8 (f:=.free "str") rfl)
    b_tuple:=He.free_ok X G (c.t.d.fact 9 (f:=.free "tuple") rfl)
    b_zip:=He.free_ok X G (c.t.d.fact 10 (f:=.free "zip") rfl)
    v_ALONE:=glob_tup (vs:=[.str "mark",.str "peek",.str "yield",.str "call",.str "fail",.str "hold",.str "try",.str "when"]) X G (c.t.d.fact 11 (f:=.glo "ALONE") rfl) ((hex _ (List.mem_of_getElem? (i:=0) rfl))) (by decide)
    v_BLOCKS:=glob_tup (vs:=[.str "lock",.str "hold",.str "bind",.str "loop",.str "try",.str "when"]) X G (c.t.d.fact 12 (f:=.glo "BLOCKS") rfl) ((hex _ (List.mem_of_getElem? (i:=1) rfl))) (by decide)
    v_LETTERS:=glob_str X G (c.t.d.fact 13 (f:=.str "LETTERS" "abcdefghijklmnopqrstuvwxyz") rfl)
    v_LONGEST:=glob_int X G (c.t.d.fact 14 (f:=.int "LONGEST" 8) rfl)
    v_MOST_DEEP:=glob_int X G (c.t.d.fact 15 (f:=.int "MOST_DEEP" 4) rfl)
    v_MOST_ROWS:=glob_int X G (c.t.d.fact 16 (f:=.int "MOST_ROWS" 24) rfl)
    v_MOST_TASKS:=glob_int X G (c.t.d.fact 17 (f:=.int "MOST_TASKS" 4) rfl)
    v_OTHERS:=glob_tup (vs:=[.str "start",.str "join"]) X G (c.t.d.fact 18 (f:=.glo "OTHERS") rfl) ((hex _ (List.mem_of_getElem? (i:=2) rfl))) (by decide)
    v_PARTED:=glob_tup (vs:=[.str "try",.str "when"]) X G (c.t.d.fact 19 (f:=.glo "PARTED") rfl) ((hex _ (List.mem_of_getElem? (i:=3) rfl))) (by decide)
    v_SIGNS:=glob_tab (kvs:=[("load",.str "01234"),("add",.str "1234"),("read",.str "abcd"),("write",.str "abcd"),("keep",.str "wxyz"),("own",.str "wxyz"),("ask",.str "wxyz"),("give",.str "pq"),("take",.str "pq"),("lock",.str "lm"),("bind",.str "wxyz"),("loop",.str "123")]) X G (c.t.d.fact 20 (f:=.glo "SIGNS") rfl) (c.t.tab 0 (t:=(fun K=>He.ga K "SIGNS",["load", "add", "read", "write", "keep", "own", "ask", "give", "take", "lock", "bind", "loop"])) rfl) ((hex _ (List.mem_of_getElem? (i:=4) rfl))) (by decide)
    c0:=clsF_of (x := "Reader") (fs:=["found", "asked", "name", "rows", "nested"]) X G rfl (c.t.d.fact 26 (f:=.glo "Reader") rfl) (c.t.d.fact 27 (f:=.cls "Reader") rfl) (by
      intro f hf
      simp only [List.mem_cons,List.not_mem_nil,or_false] at hf
      rcases hf with rfl | rfl | rfl | rfl | rfl
      · exact c.t.d.fact 21 (f:=.noat "Reader" "found") rfl
      · exact c.t.d.fact 22 (f:=.noat "Reader" "asked") rfl
      · exact c.t.d.fact 23 (f:=.noat "Reader" "name") rfl
      · exact c.t.d.fact 24 (f:=.noat "Reader" "rows") rfl
      · exact c.t.d.fact 25 (f:=.noat "Reader" "nested") rfl
    ) (by decide +kernel) (by decide)
    c1:=clsF_of (x := "Program") (fs:=["rows", "later", "writ"]) X G rfl (c.t.d.fact 31 (f:=.glo "Program") rfl) (c.t.d.fact 32 (f:=.cls "Program") rfl) (by
      intro f hf
      simp only [List.mem_cons,List.not_mem_nil,or_false] at hf
      rcases hf with rfl | rfl | rfl
      · exact c.t.d.fact 28 (f:=.noat "Program" "rows") rfl
      · exact c.t.d.fact 29 (f:=.noat "Program" "later") rfl
      · exact c.t.d.fact 30 (f:=.noat "Program" "writ") rfl
    ) (by decide +kernel) (by decide)
    xn0:=(let q:=xvB_ok ((hex _ (List.mem_of_getElem? (i:=5) rfl))); ⟨He.glo_ok X G (c.t.d.fact 33 (f:=.glo "BadProgram") rfl),q.1,q.2.1,q.2.2.1,q.2.2.2.1,q.2.2.2.2⟩)
    xvi0:=c.t.d.def_ 0 (d:=d0) rfl
    xve:=(let q:=clsBfB_ok ((hex _ (List.mem_of_getElem? (i:=6) rfl))); ⟨He.glo_ok X G (c.t.d.fact 34 (f:=.glo "RideError") rfl),q.1,q.2⟩)
    my_BadProgram:=He.glo_ok X G (c.t.d.fact 33 (f:=.glo "BadProgram") rfl)
    hx_BadProgram:=by
      intro c_ hc_
      rcases (by omega:c_ = 0) with rfl
      · exact He.exm_ok (c.t.d.fact 35 (f:=.exm "BadProgram" "BadProgram" true) rfl)
    d__law_hat:=(let ⟨fd,q⟩:=c.t.d.def_ 1 (d:=d1) rfl; ⟨_,fd,He.glo_ok X G (c.t.d.fact 36 (f:=.glo "_law_hat") rfl),q⟩)
    d__law_take:=(let ⟨fd,q⟩:=c.t.d.def_ 2 (d:=d2) rfl; ⟨_,fd,He.glo_ok X G (c.t.d.fact 37 (f:=.glo "_law_take") rfl),q⟩)
    d__law_words:=(let ⟨fd,q⟩:=c.t.d.def_ 3 (d:=d3) rfl; ⟨_,fd,He.glo_ok X G (c.t.d.fact 38 (f:=.glo "_law_words") rfl),q⟩)
    d__law_names:=(let ⟨fd,q⟩:=c.t.d.def_ 4 (d:=d4) rfl; ⟨_,fd,He.glo_ok X G (c.t.d.fact 39 (f:=.glo "_law_names") rfl),q⟩)
    d__law_of:=(let ⟨fd,q⟩:=c.t.d.def_ 5 (d:=d5) rfl; ⟨_,fd,He.glo_ok X G (c.t.d.fact 40 (f:=.glo "_law_of") rfl),q⟩)
    d__law_blocks:=(let ⟨fd,q⟩:=c.t.d.def_ 6 (d:=d6) rfl; ⟨_,fd,He.glo_ok X G (c.t.d.fact 41 (f:=.glo "_law_blocks") rfl),q⟩)
    d__law_thing:=(let ⟨fd,q⟩:=c.t.d.def_ 7 (d:=d7) rfl; ⟨_,fd,He.glo_ok X G (c.t.d.fact 42 (f:=.glo "_law_thing") rfl),q⟩)
    d__law_statement:=(let ⟨fd,q⟩:=c.t.d.def_ 8 (d:=d8) rfl; ⟨_,fd,He.glo_ok X G (c.t.d.fact 43 (f:=.glo "_law_statement") rfl),q⟩)
    d__law_list:=(let ⟨fd,q⟩:=c.t.d.def_ 9 (d:=d9) rfl; ⟨_,fd,He.glo_ok X G (c.t.d.fact 44 (f:=.glo "_law_list") rfl),q⟩)
    d__law_plan:=(let ⟨fd,q⟩:=c.t.d.def_ 10 (d:=d10) rfl; ⟨_,fd,He.glo_ok X G (c.t.d.fact 45 (f:=.glo "_law_plan") rfl),q⟩)
    d__law_rows_of:=(let ⟨fd,q⟩:=c.t.d.def_ 11 (d:=d11) rfl; ⟨_,fd,He.glo_ok X G (c.t.d.fact 46 (f:=.glo "_law_rows_of") rfl),q⟩)
    d__law_text:=(let ⟨fd,q⟩:=c.t.d.def_ 12 (d:=d12) rfl; ⟨_,fd,He.glo_ok X G (c.t.d.fact 47 (f:=.glo "_law_text") rfl),q⟩)
    d__law_spoilt:=(let ⟨fd,q⟩:=c.t.d.def_ 13 (d:=d13) rfl; ⟨_,fd,He.glo_ok X G (c.t.d.fact 48 (f:=.glo "_law_spoilt") rfl),q⟩)
    d__law_good_name:=(let ⟨fd,q⟩:=c.t.d.def_ 14 (d:=d14) rfl; ⟨_,fd,He.glo_ok X G (c.t.d.fact 49 (f:=.glo "_law_good_name") rfl),q⟩)
    d__law_good_row:=(let ⟨fd,q⟩:=c.t.d.def_ 15 (d:=d15) rfl; ⟨_,fd,He.glo_ok X G (c.t.d.fact 50 (f:=.glo "_law_good_row") rfl),q⟩)
    d__law_taken:=(let ⟨fd,q⟩:=c.t.d.def_ 16 (d:=d16) rfl; ⟨_,fd,He.glo_ok X G (c.t.d.fact 51 (f:=.glo "_law_taken") rfl),q⟩)
    d__law_bad_row:=(let ⟨fd,q⟩:=c.t.d.def_ 17 (d:=d17) rfl; ⟨_,fd,He.glo_ok X G (c.t.d.fact 52 (f:=.glo "_law_bad_row") rfl),q⟩)
    d_Reader_init:=(let ⟨fd,q⟩:=c.t.d.def_ 18 (d:=d18) rfl; ⟨_,fd,He.mkr_ok (c.t.d.fact 53 (f:=.mkr "Reader") rfl),q⟩)
    d_is_name:=(let ⟨fd,q⟩:=c.t.d.def_ 19 (d:=d19) rfl; ⟨_,fd,He.glo_ok X G (c.t.d.fact 54 (f:=.glo "is_name") rfl),q⟩)
    d_Reader_beginX:=(let ⟨fd,q⟩:=c.t.d.def_ 20 (d:=d20) rfl; ⟨_,fd,He.meth_ok (c.t.d.fact 55 (f:=.meth "Reader" "begin") rfl),q⟩)
    d_Reader_close:=(let ⟨fd,q⟩:=c.t.d.def_ 21 (d:=d21) rfl; ⟨_,fd,He.meth_ok (c.t.d.fact 56 (f:=.meth "Reader" "close") rfl),q⟩)
    d_Reader_turnX:=(let ⟨fd,q⟩:=c.t.d.def_ 22 (d:=d22) rfl; ⟨_,fd,He.meth_ok (c.t.d.fact 57 (f:=.meth "Reader" "turn") rfl),q⟩)
    d_is_row:=(let ⟨fd,q⟩:=c.t.d.def_ 23 (d:=d23) rfl; ⟨_,fd,He.glo_ok X G (c.t.d.fact 58 (f:=.glo "is_row") rfl),q⟩)
    d_Reader_plainX:=(let ⟨fd,q⟩:=c.t.d.def_ 24 (d:=d24) rfl; ⟨_,fd,He.meth_ok (c.t.d.fact 59 (f:=.meth "Reader" "plain") rfl),q⟩)
    d_Reader_takeX:=(let ⟨fd,q⟩:=c.t.d.def_ 25 (d:=d25) rfl; ⟨_,fd,He.meth_ok (c.t.d.fact 60 (f:=.meth "Reader" "take") rfl),q⟩)
    d_Reader_endX:=(let ⟨fd,q⟩:=c.t.d.def_ 26 (d:=d26) rfl; ⟨_,fd,He.meth_ok (c.t.d.fact 61 (f:=.meth "Reader" "end") rfl),q⟩)
    d_read_stepsX:=(let ⟨fd,q⟩:=c.t.d.def_ 27 (d:=d27) rfl; ⟨_,fd,He.glo_ok X G (c.t.d.fact 62 (f:=.glo "read_steps") rfl),q⟩)
    d_Program_init_X:=(let ⟨fd,q⟩:=c.t.d.def_ 28 (d:=d28) rfl; ⟨_,fd,He.mkr_ok (c.t.d.fact 63 (f:=.mkr "Program") rfl),q⟩)
    d__law_read:=(let ⟨fd,q⟩:=c.t.d.def_ 29 (d:=d29) rfl; ⟨_,fd,He.glo_ok X G (c.t.d.fact 64 (f:=.glo "_law_read") rfl),q⟩)
    d__law_same:=(let ⟨fd,q⟩:=c.t.d.def_ 30 (d:=d30) rfl; ⟨_,fd,He.glo_ok X G (c.t.d.fact 65 (f:=.glo "_law_same") rfl),q⟩)
    d_Program_str:=(let ⟨fd,q⟩:=c.t.d.def_ 31 (d:=d31) rfl; ⟨_,fd,He.meth_ok (c.t.d.fact 66 (f:=.meth "Program" "__str__") rfl),q⟩)
    d_law:=(let ⟨fd,q⟩:=c.t.d.def_ 32 (d:=d32) rfl; ⟨_,fd,He.glo_ok X G (c.t.d.fact 67 (f:=.glo "law") rfl),q⟩)
  }
end K03
open PySem PySem.W PySem.Calls PyProof.Rows
theorem PySem.Challenge.cw_ridepool_k03_texts_that_are_no_programs_holds : PySem.Challenge.rw_ridepool_k03_texts_that_are_no_programs.Holds := by
  refine K03.early ?hc
  case hc =>
    refine L2.walk_ofE (l:=PySem.Challenge.rw_ridepool_k03_texts_that_are_no_programs) (n:=63) (k:=45) (x := "_law_script") (CX:=L2.CX0) rfl (by decide) (by kernel_rfl) ⟨rfl,by decide,by decide⟩ ?F (fun _ _ _ _ z=>z)
    intro w mg fa h Y G hmg0
    obtain ⟨K,KX,c⟩:=Y
    have hmg:mg ("law" : PySem.Str) = some (.ref fa):=by
      have e:(HandSHeadRun.topDef (OpenLaw.row PySem.Challenge.rw_ridepool_k03_texts_that_are_no_programs).prog 51).name = ("law" : PySem.Str):=by kernel_rfl
      rw [← e]
      exact hmg0
    have g:=K03.gv (P:=(PySem.Challenge.rw_ridepool_k03_texts_that_are_no_programs).prog) (w:=w) KX G c
    obtain ⟨f,fd,hm,F⟩:=g.d_law
    have ef:=hmg.symm.trans hm
    cases ef
    have b:=L2.FunD.bindsA (ps:=["_law_script"]) F fun _ _ _ _ _ _ us hl=>match us,hl with | [_],_=>rfl
    exact ⟨K,fd,_,KX,fun s v=>b s [v] rfl,fun H a ns hl _ hS=>(let ⟨h',e⟩:=K03.law_true ns; Rp.law_sp (K:=K) (w:=w) (mg:=mg) (cl:=K03.cl) (E:=L2.E0) hS e (fun _=>rfl)),fun base _ _=>K03.ok_law (base:=base) g F⟩
end
