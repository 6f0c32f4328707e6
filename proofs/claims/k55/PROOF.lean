import PyProof.Rows.All
import Wide.All
import OpenK.AllK
import Wide.FinOn
import KE.KStateDown
import HandS.ForMost
import HandS.Conv
import HandS.More
import HandS.Codes
import HandS.NoneIn
import HandS.Flow
import HandS.FStr
import HandS.DictComp
import HandS.IsInst
import HandS.Defaults
import HandS.MakeKw
import HandS.Deep
import HandS.DeepEq
import HandS.Wide
import HandS.Zip
import KE.KUnpackStar
import HandS.OwnEq
import HandS.SlotsOwn
import HandS.RaiseMore
import HandS.Ends
import HandS.Words
import HandS.WordsExc
import HandS.Head0
import HandS.Head1
import HandS.Head2
import HandS.HeadEnd
import HandS.HeadHook1
import HandS.HeadHook2
import HandS.HeadHook3
import HandS.HeadHook4
import HandS.Lambda
import KE.DataEq
import HandS.TupAny
import PyProof.TableCode
import HandS.CallLocal
import Open.Tops
import HandS.ExcCtx
import HandS.ExcInit
import HandS.ExcField
import HandS.TryMany
import KE.KExcInit
import HandS.Finally
import HandS.ClsMeth
import HandS.Style
import KE.SortData
import HandS.ExcIs
import HandS.HotCalls
import HandS.EndTab
import KE.KNest
import HandS.HeadWalk
import HandS.DictTup
import HandS.SetTxt0
import HandS.SetFor
import HandS.Strs
import KE.KDictPairs
import PyProof.ReprRoads
import KE.KFmtOwn
import KE.GoesMore
import KE.GoesEnumKw
import PySem.Challenge.RW_ridepool_k55_deeds_as_rows
set_option Elab.async false
set_option linter.all false
set_option maxRecDepth 100000
set_option maxHeartbeats 0
section
namespace Rp
open PySem PySem.Spec PyProof.Rows L2
inductive Kd where
  | tup | lst | scr | dct (ks:List Key) | ldct (ks:List Key) | tab (ks:List Key) | ins (c:Nat) | cod (p:Addr) (q:Str)
  deriving DecidableEq
inductive AV where
  | non | bl (b:Bool) | int (i:Int) | str (x:Str) | ty (n:String) | gl (x:Str) | ref (n:Nat)
  | nod (k:Kd) (xs:List AV)
mutual
def AV.dec:(a b:AV) → Decidable (a = b)
  | .non,.non=>Decidable.isTrue rfl
  | .bl a,.bl b=>if h:a = b then Decidable.isTrue (by rw [h]) else Decidable.isFalse (fun e=>h (AV.bl.inj e))
  | .int a,.int b=>if h:a = b then Decidable.isTrue (by rw [h]) else Decidable.isFalse (fun e=>h (AV.int.inj e))
  | .str a,.str b=>if h:a = b then Decidable.isTrue (by rw [h]) else Decidable.isFalse (fun e=>h (AV.str.inj e))
  | .ty a,.ty b=>if h:a = b then Decidable.isTrue (by rw [h]) else Decidable.isFalse (fun e=>h (AV.ty.inj e))
  | .gl a,.gl b=>if h:a = b then Decidable.isTrue (by rw [h]) else Decidable.isFalse (fun e=>h (AV.gl.inj e))
  | .ref a,.ref b=>if h:a = b then Decidable.isTrue (by rw [h]) else Decidable.isFalse (fun e=>h (AV.ref.inj e))
  | .nod k xs,.nod l ys=>if h:k = l then match AV.decL xs ys with
      | Decidable.isTrue e=>Decidable.isTrue (by rw [h,e])
      | Decidable.isFalse e=>Decidable.isFalse (fun q=>e (AV.nod.inj q).2)
    else Decidable.isFalse (fun q=>h (AV.nod.inj q).1)
  | .non,.bl _ | .non,.int _ | .non,.str _ | .non,.ty _ | .non,.gl _ | .non,.ref _ | .non,.nod _ _=>Decidable.isFalse nofun
  | .bl _,.non | .bl _,.int _ | .bl _,.str _ | .bl _,.ty _ | .bl _,.gl _ | .bl _,.ref _ | .bl _,.nod _ _=>Decidable.isFalse nofun
  | .int _,.non | .int _,.bl _ | .int _,.str _ | .int _,.ty _ | .int _,.gl _ | .int _,.ref _ | .int _,.nod _ _=>Decidable.isFalse nofun
  | .str _,.non | .str _,.bl _ | .str _,.int _ | .str _,.ty _ | .str _,.gl _ | .str _,.ref _ | .str _,.nod _ _=>Decidable.isFalse nofun
  | .ty _,.non | .ty _,.bl _ | .ty _,.int _ | .ty _,.str _ | .ty _,.gl _ | .ty _,.ref _ | .ty _,.nod _ _=>Decidable.isFalse nofun
  | .gl _,.non | .gl _,.bl _ | .gl _,.int _ | .gl _,.str _ | .gl _,.ty _ | .gl _,.ref _ | .gl _,.nod _ _=>Decidable.isFalse nofun
  | .ref _,.non | .ref _,.bl _ | .ref _,.int _ | .ref _,.str _ | .ref _,.ty _ | .ref _,.gl _ | .ref _,.nod _ _=>Decidable.isFalse nofun
  | .nod _ _,.non | .nod _ _,.bl _ | .nod _ _,.int _ | .nod _ _,.str _ | .nod _ _,.ty _ | .nod _ _,.gl _ | .nod _ _,.ref _=>Decidable.isFalse nofun
def AV.decL:(a b:List AV) → Decidable (a = b)
  | [],[]=>Decidable.isTrue rfl
  | [],_ :: _=>Decidable.isFalse nofun
  | _ :: _,[]=>Decidable.isFalse nofun
  | x :: xs,y :: ys=>match AV.dec x y with
    | Decidable.isFalse e=>Decidable.isFalse (fun q=>e (List.cons.inj q).1)
    | Decidable.isTrue e=>match AV.decL xs ys with
      | Decidable.isTrue f=>Decidable.isTrue (by rw [e,f])
      | Decidable.isFalse f=>Decidable.isFalse (fun q=>f (List.cons.inj q).2)
end
instance:DecidableEq AV:=AV.dec
def Kd.lk:Kd → Bool
  | .ldct _=>true
  | .cod _ _=>true
  | _=>false
structure AH where
  get:Nat → Option (Kd × List AV)
  next:Nat
  wf:∀ n,next ≤ n → get n = none
def AH.set (h:AH) (n:Nat) (c:Kd × List AV) (hn:(h.get n).isSome = true):AH:=⟨fun m=>if m = n then some c else h.get m,h.next,fun m hm=>by
  have:m ≠ n:=fun e=>by rw [← e,h.wf m hm] at hn; cases hn
  rw [if_neg this]; exact h.wf m hm⟩
def AH.put (h:AH) (n:Nat) (c:Kd × List AV):AH:=if hn:(h.get n).isSome = true then h.set n c hn else h
def AH.del (h:AH) (n:Nat):AH:=⟨fun m=>if m = n then none else h.get m,h.next,fun m hm=>by
  by_cases e:m = n
  · rw [if_pos e]
  · rw [if_neg e]; exact h.wf m hm⟩
def AH.new (h:AH) (c:Kd × List AV):AH:=⟨fun m=>if m = h.next then some c else h.get m,h.next + 1,fun m hm=>by
  have:m ≠ h.next:=by omega
  rw [if_neg this]; exact h.wf m (by omega)⟩
theorem AH.lt {h:AH} {n:Nat} {c:Kd × List AV} (e:h.get n = some c):n < h.next:=by
  rcases Nat.lt_or_ge n h.next with q | q
  · exact q
  · rw [h.wf n q] at e; cases e
theorem AH.get_put {h:AH} {n:Nat} {c:Kd × List AV} {c0:Kd × List AV} (e:h.get n = some c0) (m:Nat):(h.put n c).get m = if m = n then some c else h.get m:=by
  have hn:(h.get n).isSome = true:=by rw [e]; rfl
  unfold AH.put
  rw [dif_pos hn]; rfl
theorem AH.next_put {h:AH} {n:Nat} {c:Kd × List AV}:(h.put n c).next = h.next:=by
  unfold AH.put
  split <;> rfl
theorem AH.get_del {h:AH} {n:Nat} (m:Nat):(h.del n).get m = if m = n then none else h.get m:=rfl
structure Ct where
  K:PySem.W.Frag
  w:World
  mg:Str → Option Value
  cl:Nat → Str × List Str
def kIx (ks:List Key) (k:Key):Option Nat:=ks.findIdx? fun j=>decide (j = k)
def KTab (c:Ct) (p:Addr) (ks:List Key) (us:List V):Prop :=
  ks.length = us.length ∧ ∃ es n,KDict c.K c.w p es n ∧ ∀ z:Str,∃ r,PySem.W.nsIn c.K p z = some r ∧ RelO ((kIx ks (Sum.inr z)).bind fun i=>us[i]?) r
def NodeR (c:Ct) (R:Hp) (p:Addr):Kd → List V → Prop
  | .tup,us=>SqT c.K R p us
  | .lst,us=>R p = some (.lst us)
  | .scr,us=>SqL c.K R p us
  | .dct ks,us=>ks.length = us.length ∧ ∃ od,R p = some (.frz od (.dK (ks.zip us)))
  | .ldct _,_=>False
  | .tab ks,us=>KTab c p ks us
  | .ins k,us=>us.length ≤ (c.cl k).2.length ∧ ∃ a dx,c.mg (c.cl k).1 = some (.ref a) ∧ R p = some (.ins a dx ((c.cl k).2.zip us))
  | .cod _ _,_=>False
def NodeM (c:Ct) (H:Hp) (p:Addr):Kd → List V → Prop
  | .tup,_=>False
  | .lst,us=>H p = some (.lst us)
  | .scr,_=>False
  | .dct ks,us=>ks.length = us.length ∧ H p = some (.dK (ks.zip us))
  | .ldct ks,us=>ks.length = us.length ∧ ∃ od,H p = some (.frz od (.dK (ks.zip us)))
  | .tab _,_=>False
  | .ins k,us=>us.length ≤ (c.cl k).2.length ∧ ∃ a dx,c.mg (c.cl k).1 = some (.ref a) ∧ H p = some (.ins a dx ((c.cl k).2.zip us))
  | .cod P q,us=>us = [] ∧ p = P ∧ LamX.TabS H P q
structure Wd where
  i:Nat → Option Addr
  R:Hp
mutual
def RepV (c:Ct) (w:Wd):AV → V → Prop
  | .non,v=>v = .non
  | .bl b,v=>v = .bl b
  | .int i,v=>v = .int i
  | .str x,v=>v = .str x
  | .ty n,v=>v = .ty n
  | .gl x,v=>∃ a,c.mg x = some (.ref a) ∧ v = .ref a
  | .ref n,v=>∃ p,w.i n = some p ∧ v = .ref p
  | .nod k xs,v=>∃ p us,v = .ref p ∧ NodeR c w.R p k us ∧ RepL c w xs us
def RepL (c:Ct) (w:Wd):List AV → List V → Prop
  | [],us=>us = []
  | x :: xs,us=>∃ u us',us = u :: us' ∧ RepV c w x u ∧ RepL c w xs us'
end
structure WLe (w w':Wd):Prop where
  ii:∀ n p,w.i n = some p → w'.i n = some p
  rr:∀ a o,w.R a = some o → w'.R a = some o
theorem WLe.refl (w:Wd):WLe w w:=⟨fun _ _ e=>e,fun _ _ e=>e⟩
theorem WLe.trans {w1 w2 w3:Wd} (a:WLe w1 w2) (b:WLe w2 w3):WLe w1 w3:=⟨fun n p e=>b.ii n p (a.ii n p e),fun x o e=>b.rr x o (a.rr x o e)⟩
theorem Rd.le {R R':Hp} (h:∀ a o,R a = some o → R' a = some o) {a:Addr} {u:HO} (r:Rd R a u):Rd R' a u:=by
  rcases r with r | ⟨o,r⟩
  · exact .inl (h _ _ r)
  · exact .inr ⟨o,h _ _ r⟩
theorem SqL.le {K:PySem.W.Frag} {R R':Hp} (h:∀ a o,R a = some o → R' a = some o) {a:Addr} {us:List V} (r:SqL K R a us):SqL K R' a us:=by
  rcases r with r | r
  · exact .inl (Rd.le h r)
  · exact .inr r
theorem SqT.le {K:PySem.W.Frag} {R R':Hp} (h:∀ a o,R a = some o → R' a = some o) {a:Addr} {us:List V} (r:SqT K R a us):SqT K R' a us:=by
  rcases r with r | r
  · exact .inl (Rd.le h r)
  · exact .inr r
theorem NodeR.le {c:Ct} {R R':Hp} (h:∀ a o,R a = some o → R' a = some o) {p:Addr} {k:Kd} {us:List V} (r:NodeR c R p k us):NodeR c R' p k us:=by
  cases k with
  | tup=>exact SqT.le h r
  | lst=>exact h _ _ r
  | scr=>exact SqL.le h r
  | dct ks =>
    obtain ⟨e,od,r⟩:=r
    exact ⟨e,od,h _ _ r⟩
  | ldct ks=>exact r.elim
  | tab ks=>exact r
  | ins k =>
    obtain ⟨e,a,dx,m,r⟩:=r
    exact ⟨e,a,dx,m,h _ _ r⟩
  | cod P q=>exact r.elim
mutual
theorem RepV.le {c:Ct} {w w':Wd} (h:WLe w w'):∀ (a:AV) (v:V),RepV c w a v → RepV c w' a v
  | .non,_,r=>r
  | .bl _,_,r=>r
  | .int _,_,r=>r
  | .str _,_,r=>r
  | .ty _,_,r=>r
  | .gl _,_,r=>r
  | .ref n,v,r=>by
    obtain ⟨p,e,q⟩:=r
    exact ⟨p,h.ii _ _ e,q⟩
  | .nod k xs,v,r=>by
    obtain ⟨p,us,e,n,l⟩:=r
    exact ⟨p,us,e,n.le h.rr,RepL.le h xs us l⟩
theorem RepL.le {c:Ct} {w w':Wd} (h:WLe w w'):∀ (a:List AV) (v:List V),RepL c w a v → RepL c w' a v
  | [],_,r=>r
  | x :: xs,us,r=>by
    obtain ⟨u,us',e,r1,r2⟩:=r
    exact ⟨u,us',e,RepV.le h x u r1,RepL.le h xs us' r2⟩
end
section
variable {c:Ct} {w:Wd}
theorem RepL.nil:RepL c w [] []:=rfl
theorem RepL.cons {x:AV} {u:V} {xs:List AV} {us:List V} (h1:RepV c w x u) (h2:RepL c w xs us):RepL c w (x :: xs) (u :: us):=⟨u,us,rfl,h1,h2⟩
theorem RepL.len:∀ {xs:List AV} {us:List V},RepL c w xs us → xs.length = us.length
  | [],us,r=>by
    have r':us = []:=r
    subst r'; rfl
  | x :: xs,us,r=>by
    obtain ⟨u,us',e,_,r2⟩:=r
    rw [e,List.length_cons,List.length_cons,RepL.len r2]
theorem RepL.get:∀ {xs:List AV} {us:List V} {n:Nat} {x:AV},RepL c w xs us → xs[n]? = some x → ∃ u,us[n]? = some u ∧ RepV c w x u
  | [],_,n,x,_,e=>by simp at e
  | y :: ys,us,0,x,r,e=>by
    obtain ⟨u,us',e1,r1,_⟩:=r
    simp at e
    subst e e1
    exact ⟨u,rfl,r1⟩
  | y :: ys,us,n + 1,x,r,e=>by
    obtain ⟨u,us',e1,_,r2⟩:=r
    subst e1
    simp at e
    obtain ⟨v,e2,r3⟩:=RepL.get (n:=n) r2 e
    exact ⟨v,by simpa using e2,r3⟩
theorem RepL.append:∀ {xs ys:List AV} {us vs:List V},RepL c w xs us → RepL c w ys vs → RepL c w (xs ++ ys) (us ++ vs)
  | [],_,_,_,r,q=>by rw [show _ = ([]:List V) from r]; exact q
  | x :: xs,ys,us,vs,r,q=>by
    obtain ⟨u,us',e,r1,r2⟩:=r
    subst e
    exact .cons r1 (RepL.append r2 q)
theorem RepL.set:∀ {xs:List AV} {us:List V} {x:AV} {u:V} (n:Nat),RepL c w xs us → RepV c w x u → RepL c w (xs.set n x) (us.set n u)
  | [],_,_,_,n,r,q=>by rw [show _ = ([]:List V) from r]; exact rfl
  | y :: ys,us,x,u,0,r,q=>by
    obtain ⟨v,us',e,r1,r2⟩:=r
    subst e
    exact .cons q r2
  | y :: ys,us,x,u,n + 1,r,q=>by
    obtain ⟨v,us',e,r1,r2⟩:=r
    subst e
    exact .cons r1 (RepL.set n r2 q)
theorem RepL.take:∀ {xs:List AV} {us:List V} (n:Nat),RepL c w xs us → RepL c w (xs.take n) (us.take n)
  | [],_,n,r=>by rw [show _ = ([]:List V) from r]; simp; exact rfl
  | y :: ys,us,0,r=>by simp; exact rfl
  | y :: ys,us,n + 1,r=>by
    obtain ⟨v,us',e,r1,r2⟩:=r
    subst e
    exact .cons r1 (RepL.take n r2)
theorem RepL.drop:∀ {xs:List AV} {us:List V} (n:Nat),RepL c w xs us → RepL c w (xs.drop n) (us.drop n)
  | [],_,n,r=>by rw [show _ = ([]:List V) from r]; simp; exact rfl
  | y :: ys,us,0,r=>r
  | y :: ys,us,n + 1,r=>by
    obtain ⟨v,us',e,r1,r2⟩:=r
    subst e
    exact RepL.drop n r2
theorem RepL.reverse:∀ {xs:List AV} {us:List V},RepL c w xs us → RepL c w xs.reverse us.reverse
  | [],_,r=>by rw [show _ = ([]:List V) from r]; exact rfl
  | y :: ys,us,r=>by
    obtain ⟨v,us',e,r1,r2⟩:=r
    subst e
    rw [List.reverse_cons,List.reverse_cons]
    exact RepL.append (RepL.reverse r2) (.cons r1 .nil)
theorem RepL.strs:∀ {is:List Str} {us:List V},RepL c w (is.map AV.str) us → us = is.map V.str
  | [],_,r=>r
  | i :: is,us,r=>by
    obtain ⟨v,us',e,r1,r2⟩:=r
    rw [e,show v = _ from r1,RepL.strs r2]; rfl
theorem RepL.mk_strs:∀ {is:List Str},RepL c w (is.map AV.str) (is.map V.str)
  | []=>rfl
  | i :: is=>.cons rfl RepL.mk_strs
theorem RepL.mk_ints:∀ {is:List Int},RepL c w (is.map AV.int) (is.map V.int)
  | []=>rfl
  | i :: is=>.cons rfl RepL.mk_ints
end
def Own (w:Wd) (h:AH) (a:Addr):Prop:=w.R a ≠ none ∨ ∃ n,(h.get n).isSome = true ∧ w.i n = some a
structure SR (c:Ct) (w:Wd) (H:Hp) (h:AH):Prop where
  le:∀ a o,w.R a = some o → H a = some o
  cell:∀ n k xs,h.get n = some (k,xs) → ∃ p us,w.i n = some p ∧ NodeM c H p k us ∧ RepL c w xs us
  inj:∀ n m p,(h.get n).isSome = true → (h.get m).isSome = true → w.i n = some p → w.i m = some p → n = m
  sep:∀ n p,(h.get n).isSome = true → w.i n = some p → w.R p = none
  nx:∀ n p,w.i n = some p → n < h.next
structure Tr (w:Wd) (H:Hp) (h:AH) (w':Wd) (H':Hp) (h':AH):Prop where
  le:WLe w w'
  fr:∀ a o,H a = some o → ¬ Own w h a → H' a = some o
  nw:∀ a,Own w' h' a → Own w h a ∨ H a = none
  st:∀ a,H a ≠ none → H' a ≠ none
  fz:∀ a o u,H a = some (.frz o u) → H' a = some (.frz o u)
theorem Tr.refl (w:Wd) (H:Hp) (h:AH):Tr w H h w H h:=⟨.refl w,fun _ _ e _=>e,fun _ o=>.inl o,fun _ e=>e,fun _ _ _ e=>e⟩
theorem Tr.trans {w1 w2 w3:Wd} {H1 H2 H3:Hp} {h1 h2 h3:AH} (a:Tr w1 H1 h1 w2 H2 h2) (b:Tr w2 H2 h2 w3 H3 h3):Tr w1 H1 h1 w3 H3 h3 where
  le:=a.le.trans b.le
  fr:=fun x o e n=>b.fr x o (a.fr x o e n) fun q=>by
    rcases a.nw x q with z | z
    · exact n z
    · rw [z] at e; cases e
  nw:=fun x q=>by
    rcases b.nw x q with z | z
    · exact a.nw x z
    · by_cases e:H1 x = none
      · exact .inr e
      · exact absurd z (a.st x e)
  st:=fun x e=>b.st x (a.st x e)
  fz:=fun x o u e=>b.fz x o u (a.fz x o u e)
theorem NodeM.nofz {c:Ct} {H:Hp} {p:Addr} {k:Kd} {us:List V} (n:NodeM c H p k us) (hk:k.lk = false):∀ o u,H p ≠ some (.frz o u):=by
  cases k with
  | tup=>exact n.elim
  | lst=>intro o u e; have n':H p = some (.lst us):=n; rw [n'] at e; cases e
  | scr=>exact n.elim
  | dct ks=>intro o u e; rw [n.2] at e; cases e
  | ldct ks=>cases hk
  | tab ks=>exact n.elim
  | ins k=>obtain ⟨_,a,dx,_,e⟩:=n; intro o u e2; rw [e] at e2; cases e2
  | cod P q=>obtain ⟨_,rfl,ps,e,_⟩:=n; intro o u e2; rw [e] at e2; cases e2
theorem NodeM.there {c:Ct} {H:Hp} {p:Addr} {k:Kd} {us:List V} (n:NodeM c H p k us):∃ o,H p = some o:=by
  cases k with
  | tup=>exact n.elim
  | lst=>exact ⟨_,n⟩
  | scr=>exact n.elim
  | dct ks=>exact ⟨_,n.2⟩
  | ldct ks=>obtain ⟨_,od,e⟩:=n; exact ⟨_,e⟩
  | tab ks=>exact n.elim
  | ins k=>obtain ⟨_,a,dx,_,e⟩:=n; exact ⟨_,e⟩
  | cod P q=>obtain ⟨_,rfl,ps,e,_⟩:=n; exact ⟨_,e⟩
theorem NodeM.at {c:Ct} {H H':Hp} {p:Addr} {k:Kd} {us:List V} (n:NodeM c H p k us) (e:H' p = H p) (hx:∀ b φ,H b = some (.ext φ) → H' b = some (.ext φ)):NodeM c H' p k us:=by
  cases k with
  | tup=>exact n.elim
  | lst=>exact e.trans n
  | scr=>exact n.elim
  | dct ks=>exact ⟨n.1,e.trans n.2⟩
  | ldct ks=>obtain ⟨l,od,q⟩:=n; exact ⟨l,od,e.trans q⟩
  | tab ks=>exact n.elim
  | ins k=>obtain ⟨l,a,dx,m,q⟩:=n; exact ⟨l,a,dx,m,e.trans q⟩
  | cod P q =>
    obtain ⟨e1,rfl,ps,e2,t,f⟩:=n
    refine ⟨e1,rfl,ps,e.trans e2,t,fun pos cv hc=>?_⟩
    obtain ⟨c',r1,r2⟩:=f pos cv hc
    exact ⟨c',r1,hx _ _ r2⟩
theorem NodeM.noext {c:Ct} {H:Hp} {p:Addr} {k:Kd} {us:List V} (n:NodeM c H p k us):∀ φ,H p ≠ some (.ext φ):=by
  cases k with
  | tup=>exact n.elim
  | lst=>intro φ e; have n':H p = some (.lst us):=n; rw [n'] at e; cases e
  | scr=>exact n.elim
  | dct ks=>intro φ e; rw [n.2] at e; cases e
  | ldct ks=>obtain ⟨_,od,z⟩:=n; intro φ e; rw [z] at e; cases e
  | tab ks=>exact n.elim
  | ins k=>obtain ⟨_,a,dx,_,z⟩:=n; intro φ e; rw [z] at e; cases e
  | cod P q=>obtain ⟨_,rfl,ps,z,_⟩:=n; intro φ e; rw [z] at e; cases e
section
variable {c:Ct} {w:Wd} {H:Hp} {h:AH}
theorem SR.own_there (S:SR c w H h) {a:Addr} (o:Own w h a):H a ≠ none:=by
  rcases o with e | ⟨n,l,e⟩
  · cases q:w.R a with
    | none=>exact absurd q e
    | some o=>rw [S.le a o q]; exact nofun
  · obtain ⟨⟨k,xs⟩,q⟩:=Option.isSome_iff_exists.mp l
    obtain ⟨p,us,e2,nm,_⟩:=S.cell n k xs q
    rw [e] at e2
    cases e2
    obtain ⟨o,z⟩:=nm.there
    rw [z]; exact nofun
theorem SR.frozen (S:SR c w H h) {p:Addr} {o:HO} (hp:H p = none) :
    SR c ⟨w.i,upd w.R p o⟩ (upd H p o) h ∧ Tr w H h ⟨w.i,upd w.R p o⟩ (upd H p o) h:=by
  have np:w.R p = none:=by
    cases q:w.R p with
    | none=>rfl
    | some z=>rw [S.le p z q] at hp; cases hp
  have le:WLe w ⟨w.i,upd w.R p o⟩:=⟨fun _ _ e=>e,fun a z e=>by
    show upd w.R p o a = some z
    rw [upd_ne (ne_of_none e np)]; exact e⟩
  have nc:∀ n q,(h.get n).isSome = true → w.i n = some q → q ≠ p:=fun n q l e z=>by
    have:=S.own_there (.inr ⟨n,l,e⟩)
    rw [z] at this; exact this hp
  refine ⟨⟨fun a z e=>?_,fun n k xs e=>?_,S.inj,fun n q l e=>?_,S.nx⟩,le,fun a z e n=>?_,fun a q=>?_,fun a e=>?_,fun a z v e=>by rw [upd_ne (ne_of_none e hp)]; exact e⟩
  · have e':upd w.R p o a = some z:=e
    by_cases ha:a = p
    · subst ha; rw [upd_same] at e'; rw [upd_same]; exact e'
    · rw [upd_ne ha] at e'; rw [upd_ne ha]; exact S.le a z e'
  · obtain ⟨q,us,e1,nm,r⟩:=S.cell n k xs e
    exact ⟨q,us,e1,nm.at (upd_ne (nc n q (by rw [e]; rfl) e1)) (fun b φ z=>by rw [upd_ne (ne_of_none z hp)]; exact z),RepL.le le _ _ r⟩
  · show upd w.R p o q = none
    rw [upd_ne (nc n q l e)]; exact S.sep n q l e
  · rw [upd_ne (ne_of_none e hp)]; exact e
  · rcases q with q | q
    · by_cases ha:a = p
      · exact .inr (by rw [ha]; exact hp)
      · have q':upd w.R p o a ≠ none:=q
        rw [upd_ne ha] at q'; exact .inl (.inl q')
    · exact .inl (.inr q)
  · by_cases ha:a = p
    · subst ha; rw [upd_same]; exact nofun
    · rw [upd_ne ha]; exact e
theorem SR.newCell (S:SR c w H h) {p:Addr} {H':Hp} {k:Kd} {xs:List AV} {us:List V} (hp:H p = none) (hH:∀ a,a ≠ p → H a ≠ none → H' a = H a) (nm:NodeM c H' p k us) (r:RepL c w xs us) :
    SR c ⟨fun n=>if n = h.next then some p else w.i n,w.R⟩ H' (h.new (k,xs)) ∧ Tr w H h ⟨fun n=>if n = h.next then some p else w.i n,w.R⟩ H' (h.new (k,xs)):=by
  have np:w.R p = none:=by
    cases q:w.R p with
    | none=>rfl
    | some z=>rw [S.le p z q] at hp; cases hp
  have old:∀ n q,w.i n = some q → n ≠ h.next:=fun n q e=>Nat.ne_of_lt (S.nx n q e)
  have le:WLe w ⟨fun n=>if n = h.next then some p else w.i n,w.R⟩:=⟨fun n q e=>by
    show (if n = h.next then some p else w.i n) = some q
    rw [if_neg (old n q e)]; exact e,fun _ _ e=>e⟩
  have nc:∀ n q,(h.get n).isSome = true → w.i n = some q → q ≠ p:=fun n q l e z=>by
    have:=S.own_there (.inr ⟨n,l,e⟩)
    rw [z] at this; exact this hp
  have hn:h.get h.next = none:=h.wf _ (Nat.le_refl _)
  have live:∀ n,n ≠ h.next → ((h.new (k,xs)).get n) = h.get n:=fun n e=>if_neg e
  refine ⟨⟨fun a z e=>?_,fun n k' xs' e=>?_,fun n m q l1 l2 e1 e2=>?_,fun n q l e=>?_,fun n q e=>?_⟩,le,fun a z e n=>?_,fun a q=>?_,fun a e=>?_,fun a z v e=>by rw [hH a (fun q=>by rw [q,hp] at e; cases e) (by rw [e]; exact nofun)]; exact e⟩
  · have:=S.le a z e
    rw [hH a (fun q=>by rw [q,hp] at this; cases this) (by rw [this]; exact nofun)]
    exact this
  · by_cases hn':n = h.next
    · subst hn'
      have e':(if h.next = h.next then some (k,xs) else h.get h.next) = some (k',xs'):=e
      rw [if_pos rfl] at e'
      cases e'
      exact ⟨p,us,if_pos rfl,nm,RepL.le le _ _ r⟩
    · rw [live n hn'] at e
      obtain ⟨q,vs,e1,nm1,r1⟩:=S.cell n k' xs' e
      have hq:=nc n q (by rw [e]; rfl) e1
      exact ⟨q,vs,le.ii _ _ e1,nm1.at (hH q hq (by obtain ⟨o,z⟩:=nm1.there; rw [z]; exact nofun)) (fun b φ z=>by rw [hH b (fun q=>by rw [q,hp] at z; cases z) (by rw [z]; exact nofun)]; exact z),RepL.le le _ _ r1⟩
  · have e1':(if n = h.next then some p else w.i n) = some q:=e1
    have e2':(if m = h.next then some p else w.i m) = some q:=e2
    by_cases h1:n = h.next
    · by_cases h2:m = h.next
      · rw [h1,h2]
      · rw [if_pos h1] at e1'
        rw [if_neg h2] at e2'
        cases e1'
        rw [live m h2] at l2
        exact absurd rfl (nc m p l2 e2')
    · rw [if_neg h1] at e1'
      rw [live n h1] at l1
      by_cases h2:m = h.next
      · rw [if_pos h2] at e2'
        cases e2'
        exact absurd rfl (nc n p l1 e1')
      · rw [if_neg h2] at e2'
        rw [live m h2] at l2
        exact S.inj n m q l1 l2 e1' e2'
  · have e':(if n = h.next then some p else w.i n) = some q:=e
    by_cases h1:n = h.next
    · rw [if_pos h1] at e'; cases e'; exact np
    · rw [if_neg h1] at e'
      rw [live n h1] at l
      exact S.sep n q l e'
  · have e':(if n = h.next then some p else w.i n) = some q:=e
    show n < h.next + 1
    by_cases h1:n = h.next
    · omega
    · rw [if_neg h1] at e'
      have:=S.nx n q e'; omega
  · rw [hH a (fun q=>by rw [q,hp] at e; cases e) (by rw [e]; exact nofun)]; exact e
  · rcases q with q | ⟨n,l,e⟩
    · exact .inl (.inl q)
    · have e':(if n = h.next then some p else w.i n) = some a:=e
      by_cases h1:n = h.next
      · rw [if_pos h1] at e'; cases e'; exact .inr hp
      · rw [if_neg h1] at e'
        rw [live n h1] at l
        exact .inl (.inr ⟨n,l,e'⟩)
  · by_cases ha:a = p
    · subst ha; exact absurd hp e
    · rw [hH a ha e]; exact e
theorem SR.write (S:SR c w H h) {n:Nat} {p:Addr} {k k0:Kd} {xs xs0:List AV} {us:List V} {o:HO} (e0:h.get n = some (k0,xs0)) (ep:w.i n = some p) (nm:NodeM c (upd H p o) p k us) (r:RepL c w xs us) (hk0:k0.lk = false:=by rfl) :
    SR c w (upd H p o) (h.put n (k,xs)) ∧ Tr w H h w (upd H p o) (h.put n (k,xs)):=by
  have l0:(h.get n).isSome = true:=by rw [e0]; rfl
  have np:w.R p = none:=S.sep n p l0 ep
  have live:∀ m,((h.put n (k,xs)).get m).isSome = (h.get m).isSome:=fun m=>by
    rw [AH.get_put e0]
    by_cases hm:m = n
    · rw [if_pos hm,hm,e0]; rfl
    · rw [if_neg hm]
  have hpn:H p ≠ none:=S.own_there (.inr ⟨n,l0,ep⟩)
  have nfz:∀ z v,H p ≠ some (.frz z v):=by
    obtain ⟨p',us',e1,nm',_⟩:=S.cell n k0 xs0 e0
    rw [ep] at e1; cases e1
    exact nm'.nofz hk0
  have nex:∀ b φ,H b = some (.ext φ) → upd H p o b = some (.ext φ):=fun b φ z=>by
    by_cases q:b = p
    · obtain ⟨p',us',e1,nm',_⟩:=S.cell n k0 xs0 e0
      rw [ep] at e1; cases e1
      rw [q] at z
      exact absurd z (nm'.noext φ)
    · rw [upd_ne q]; exact z
  refine ⟨⟨fun a z e=>?_,fun m k' xs' e=>?_,fun m m' q l1 l2 e1 e2=>?_,fun m q l e=>?_,fun m q e=>?_⟩,.refl w,fun a z e nn=>?_,fun a q=>?_,fun a e=>?_,fun a z v e=>by rw [upd_ne (fun q=>by rw [q] at e; exact nfz _ _ e)]; exact e⟩
  · rw [upd_ne (ne_of_none e np)]; exact S.le a z e
  · rw [AH.get_put e0] at e
    by_cases hm:m = n
    · rw [if_pos hm] at e
      cases e
      subst hm
      exact ⟨p,us,ep,nm,r⟩
    · rw [if_neg hm] at e
      obtain ⟨q,vs,e1,nm1,r1⟩:=S.cell m k' xs' e
      have hq:q ≠ p:=fun z=>hm (S.inj m n p (by rw [e]; rfl) l0 (z ▸ e1) ep)
      exact ⟨q,vs,e1,nm1.at (upd_ne hq) nex,r1⟩
  · rw [live] at l1 l2; exact S.inj m m' q l1 l2 e1 e2
  · rw [live] at l; exact S.sep m q l e
  · rw [AH.next_put]; exact S.nx m q e
  · have hap:a ≠ p:=fun z=>nn (.inr ⟨n,l0,by rw [z]; exact ep⟩)
    rw [upd_ne hap]; exact e
  · rcases q with q | ⟨m,l,e⟩
    · exact .inl (.inl q)
    · rw [live] at l; exact .inl (.inr ⟨m,l,e⟩)
  · by_cases ha:a = p
    · subst ha; rw [upd_same]; exact nofun
    · rw [upd_ne ha]; exact e
theorem SR.more (S:SR c w H h) {H':Hp} (hH:∀ a o,H a = some o → H' a = some o):SR c w H' h ∧ Tr w H h w H' h:=by
  refine ⟨⟨fun a o e=>hH a o (S.le a o e),fun n k xs e=>?_,S.inj,S.sep,S.nx⟩,.refl w,fun a o e _=>hH a o e,fun a q=>.inl q,fun a e=>?_,fun a z v e=>hH a _ e⟩
  · obtain ⟨p,us,e1,nm,r⟩:=S.cell n k xs e
    obtain ⟨o,z⟩:=nm.there
    exact ⟨p,us,e1,nm.at (by rw [hH p o z,z]) (fun b φ y=>hH b _ y),r⟩
  · cases q:H a with
    | none=>exact absurd q e
    | some o=>rw [hH a o q]; exact nofun
theorem SR.freeze (S:SR c w H h) {n:Nat} {p:Addr} {k:Kd} {xs:List AV} {o:HO} (e0:h.get n = some (k,xs)) (ep:w.i n = some p) (hk0:k.lk = false:=by rfl) :
    SR c ⟨w.i,upd w.R p o⟩ (upd H p o) (h.del n) ∧ Tr w H h ⟨w.i,upd w.R p o⟩ (upd H p o) (h.del n):=by
  have l0:(h.get n).isSome = true:=by rw [e0]; rfl
  have np:w.R p = none:=S.sep n p l0 ep
  have nfz:∀ z v,H p ≠ some (.frz z v):=by
    obtain ⟨p',us',e1,nm',_⟩:=S.cell n k xs e0
    rw [ep] at e1; cases e1
    exact nm'.nofz hk0
  have nex:∀ b φ,H b = some (.ext φ) → upd H p o b = some (.ext φ):=fun b φ z=>by
    by_cases q:b = p
    · obtain ⟨p',us',e1,nm',_⟩:=S.cell n k xs e0
      rw [ep] at e1; cases e1
      rw [q] at z
      exact absurd z (nm'.noext φ)
    · rw [upd_ne q]; exact z
  have le:WLe w ⟨w.i,upd w.R p o⟩:=⟨fun _ _ e=>e,fun a z e=>by
    show upd w.R p o a = some z
    rw [upd_ne (ne_of_none e np)]; exact e⟩
  have live:∀ m,((h.del n).get m).isSome = true → m ≠ n ∧ (h.get m).isSome = true:=fun m l=>by
    rw [AH.get_del] at l
    by_cases hm:m = n
    · rw [if_pos hm] at l; cases l
    · rw [if_neg hm] at l; exact ⟨hm,l⟩
  have nc:∀ m q,m ≠ n → (h.get m).isSome = true → w.i m = some q → q ≠ p:=fun m q hm l e z=>hm (S.inj m n p l l0 (z ▸ e) ep)
  refine ⟨⟨fun a z e=>?_,fun m k' xs' e=>?_,fun m m' q l1 l2 e1 e2=>?_,fun m q l e=>?_,S.nx⟩,le,fun a z e nn=>?_,fun a q=>?_,fun a e=>?_,fun a z v e=>by rw [upd_ne (fun q=>by rw [q] at e; exact nfz _ _ e)]; exact e⟩
  · have e':upd w.R p o a = some z:=e
    by_cases ha:a = p
    · subst ha; rw [upd_same] at e'; rw [upd_same]; exact e'
    · rw [upd_ne ha] at e'; rw [upd_ne ha]; exact S.le a z e'
  · have l:((h.del n).get m).isSome = true:=by rw [e]; rfl
    obtain ⟨hm,l'⟩:=live m l
    rw [AH.get_del,if_neg hm] at e
    obtain ⟨q,vs,e1,nm1,r1⟩:=S.cell m k' xs' e
    exact ⟨q,vs,e1,nm1.at (upd_ne (nc m q hm l' e1)) nex,RepL.le le _ _ r1⟩
  · exact S.inj m m' q (live m l1).2 (live m' l2).2 e1 e2
  · obtain ⟨hm,l'⟩:=live m l
    show upd w.R p o q = none
    rw [upd_ne (nc m q hm l' e)]; exact S.sep m q l' e
  · have hap:a ≠ p:=fun z=>nn (.inr ⟨n,l0,by rw [z]; exact ep⟩)
    rw [upd_ne hap]; exact e
  · rcases q with q | ⟨m,l,e⟩
    · by_cases ha:a = p
      · subst ha; exact .inl (.inr ⟨n,l0,ep⟩)
      · have q':upd w.R p o a ≠ none:=q
        rw [upd_ne ha] at q'; exact .inl (.inl q')
    · exact .inl (.inr ⟨m,(live m l).2,e⟩)
  · by_cases ha:a = p
    · subst ha; rw [upd_same]; exact nofun
    · rw [upd_ne ha]; exact e
end
def look (h:AH):AV → Option (Kd × List AV)
  | .nod k xs=>some (k,xs)
  | .ref n=>h.get n
  | _=>none
def NodeH (c:Ct) (H:Hp) (p:Addr):Kd → List V → Prop
  | .tup,us=>SqT c.K H p us
  | .lst,us=>H p = some (.lst us)
  | .scr,us=>SqL c.K H p us
  | .dct ks,us=>ks.length = us.length ∧ Rd H p (.dK (ks.zip us))
  | .ldct ks,us=>ks.length = us.length ∧ Rd H p (.dK (ks.zip us))
  | .tab ks,us=>KTab c p ks us
  | .ins k,us=>us.length ≤ (c.cl k).2.length ∧ ∃ a dx,c.mg (c.cl k).1 = some (.ref a) ∧ H p = some (.ins a dx ((c.cl k).2.zip us))
  | .cod _ _,_=>True
theorem NodeM.h {c:Ct} {H:Hp} {p:Addr} {k:Kd} {us:List V} (n:NodeM c H p k us):NodeH c H p k us:=by
  cases k with
  | tup=>exact n.elim
  | lst=>exact n
  | scr=>exact n.elim
  | dct ks=>exact ⟨n.1,.inl n.2⟩
  | ldct ks=>obtain ⟨l,od,e⟩:=n; exact ⟨l,.inr ⟨od,e⟩⟩
  | tab ks=>exact n.elim
  | ins k=>exact n
  | cod P q=>exact trivial
theorem NodeR.h {c:Ct} {R H:Hp} (h:∀ a o,R a = some o → H a = some o) {p:Addr} {k:Kd} {us:List V} (r:NodeR c R p k us):NodeH c H p k us:=by
  cases k with
  | tup=>exact SqT.le h r
  | lst=>exact h _ _ r
  | scr=>exact SqL.le h r
  | dct ks =>
    obtain ⟨e,od,r⟩:=r
    exact ⟨e,.inr ⟨od,h _ _ r⟩⟩
  | ldct ks=>exact r.elim
  | tab ks=>exact r
  | ins k =>
    obtain ⟨e,a,dx,m,r⟩:=r
    exact ⟨e,a,dx,m,h _ _ r⟩
  | cod P q=>exact trivial
theorem look_ok {c:Ct} {w:Wd} {H:Hp} {h:AH} (S:SR c w H h) {a:AV} {u:V} {k:Kd} {xs:List AV} (r:RepV c w a u) (e:look h a = some (k,xs)):∃ p us,u = .ref p ∧ NodeH c H p k us ∧ RepL c w xs us:=by
  cases a with
  | nod k' xs' =>
    have e':some (k',xs') = some (k,xs):=e
    cases e'
    obtain ⟨p,us,e1,n,l⟩:=r
    exact ⟨p,us,e1,n.h S.le,l⟩
  | ref n =>
    obtain ⟨p,us,e1,nm,l⟩:=S.cell n k xs e
    obtain ⟨p',e2,e3⟩:=r
    rw [e1] at e2
    cases e2
    exact ⟨p,us,e3,nm.h,l⟩
  | _=>cases e
end Rp
end
section
namespace Rp
open PySem PySem.Spec PyProof.Rows L2
abbrev LS:=List (Option AV)
abbrev AE:=LS → AH → Option (AV × AH)
abbrev AT:=LS → AH → Option (Bool × AH)
abbrev AA:=LS → AH → Option (List AV × AH)
structure RepS (c:Ct) (w:Wd) (s:LS) (σ:L2.St):Prop where
  len:s.length = σ.length
  at_:∀ (j:Nat) (a:AV),s[j]? = some (some a) → ∃ u,σ[j]? = some (some u) ∧ RepV c w a u
theorem RepS.le {c:Ct} {w w':Wd} {s:LS} {σ:L2.St} (r:RepS c w s σ) (h:WLe w w'):RepS c w' s σ :=
  ⟨r.len,fun j a e=>let ⟨u,e1,e2⟩:=r.at_ j a e; ⟨u,e1,RepV.le h _ _ e2⟩⟩
theorem RepS.set {c:Ct} {w:Wd} {s:LS} {σ:L2.St} {a:AV} {u:V} (r:RepS c w s σ) (i:Nat) (q:RepV c w a u):RepS c w (s.set i (some a)) (σ.set i (some u)):=by
  refine ⟨by rw [List.length_set,List.length_set]; exact r.len,fun j b e=>?_⟩
  by_cases hj:i = j
  · subst hj
    by_cases hl:i < s.length
    · rw [List.getElem?_set_self hl] at e
      cases e
      exact ⟨u,List.getElem?_set_self (by rw [← r.len]; exact hl),q⟩
    · rw [List.getElem?_eq_none (by rw [List.length_set]; omega)] at e; cases e
  · rw [List.getElem?_set_ne hj] at e
    rw [List.getElem?_set_ne hj]
    exact r.at_ j b e
theorem RepS.wipe {c:Ct} {w:Wd} {s:LS} {σ:L2.St} (r:RepS c w s σ) (i:Nat):RepS c w (s.set i none) (σ.set i none):=by
  refine ⟨by rw [List.length_set,List.length_set]; exact r.len,fun j b e=>?_⟩
  by_cases hj:i = j
  · subst hj
    by_cases hl:i < s.length
    · rw [List.getElem?_set_self hl] at e; cases e
    · rw [List.getElem?_eq_none (by rw [List.length_set]; omega)] at e; cases e
  · rw [List.getElem?_set_ne hj] at e
    rw [List.getElem?_set_ne hj]
    exact r.at_ j b e
abbrev ctX (X:Cx) (cl:Nat → Str × List Str):Ct:=⟨X.K,X.w,X.mg,cl⟩
def tA (c:Ct) (f:AE):TE:=fun σ H Q=>∃ w s h v h',RepS c w s σ ∧ SR c w H h ∧ f s h = some (v,h') ∧
  ∀ w' H' u,Tr w H h w' H' h' → SR c w' H' h' → RepV c w' v u → Q u H'
def tT (c:Ct) (f:AT):TT:=fun σ H Q=>∃ w s h v h',RepS c w s σ ∧ SR c w H h ∧ f s h = some (v,h') ∧
  ∀ w' H',Tr w H h w' H' h' → SR c w' H' h' → Q v H'
def tAs (c:Ct) (f:AA):TA:=fun σ H Q=>∃ w s h vs h',RepS c w s σ ∧ SR c w H h ∧ f s h = some (vs,h') ∧
  ∀ w' H' us,Tr w H h w' H' h' → SR c w' H' h' → RepL c w' vs us → Q us H'
theorem _root_.L2.PE.wk {X:Cx} {e:Expr} {t t':TE} (h:PE X e t) (hh:∀ σ H Q,t' σ H Q → t σ H Q):PE X e t':=⟨fun pins s σ H Q I q=>h.run pins s σ H Q I (hh _ _ _ q)⟩
theorem _root_.L2.PT.wk {X:Cx} {e:Expr} {t t':TT} (h:PT X e t) (hh:∀ σ H Q,t' σ H Q → t σ H Q):PT X e t':=⟨fun pins s σ H Q I q=>h.run pins s σ H Q I (hh _ _ _ q)⟩
theorem _root_.L2.PA.wk {X:Cx} {e:List Expr} {t t':TA} (h:PA X e t) (hh:∀ σ H Q,t' σ H Q → t σ H Q):PA X e t':=⟨fun pos pins s σ H Q I q=>h.run pos pins s σ H Q I (hh _ _ _ q)⟩
def aVar (i:Nat):AE:=fun s h=>match s[i]? with
  | some (some v)=>some (v,h)
  | _=>none
def aC (v:AV):AE:=fun _ h=>some (v,h)
def aOp1 (o:AV → AH → Option (AV × AH)) (f:AE):AE:=fun s h=>(f s h).bind fun r=>o r.1 r.2
def aOp2 (o:AV → AV → AH → Option (AV × AH)) (f g:AE):AE:=fun s h=>(f s h).bind fun r=>(g s r.2).bind fun q=>o r.1 q.1 q.2
def aNil:AA:=fun _ h=>some ([],h)
def aCons (f:AE) (g:AA):AA:=fun s h=>(f s h).bind fun r=>(g s r.2).bind fun q=>some (r.1 :: q.1,q.2)
def aArgs (o:List AV → AH → Option (AV × AH)) (g:AA):AE:=fun s h=>(g s h).bind fun r=>o r.1 r.2
def aIf (t:AT) (f g:AE):AE:=fun s h=>(t s h).bind fun r=>if r.1 = true then f s r.2 else g s r.2
def aTst (f:AE):AT:=fun s h=>(f s h).bind fun r=>match r.1 with
  | .bl b=>some (b,r.2)
  | _=>none
def aAnd (f g:AT):AT:=fun s h=>(f s h).bind fun r=>if r.1 = true then g s r.2 else some (false,r.2)
def aOr (f g:AT):AT:=fun s h=>(f s h).bind fun r=>if r.1 = true then some (true,r.2) else g s r.2
def aNot (f:AT):AT:=fun s h=>(f s h).bind fun r=>some (!r.1,r.2)
theorem bind_some {α β:Type} {o:Option α} {f:α → Option β} {b:β} (h:o.bind f = some b):∃ a,o = some a ∧ f a = some b:=Option.bind_eq_some_iff.mp h
def Snd1 (c:Ct) (r:V → Hp → VK → Prop) (o:AV → AH → Option (AV × AH)):Prop:=∀ w H h a u v h' (Q:VK),SR c w H h → RepV c w a u → o a h = some (v,h') →
  (∀ w' H' z,Tr w H h w' H' h' → SR c w' H' h' → RepV c w' v z → Q z H') → r u H Q
def Snd2 (c:Ct) (r:R2) (o:AV → AV → AH → Option (AV × AH)):Prop:=∀ w H h a b u y v h' (Q:VK),SR c w H h → RepV c w a u → RepV c w b y → o a b h = some (v,h') →
  (∀ w' H' z,Tr w H h w' H' h' → SR c w' H' h' → RepV c w' v z → Q z H') → r u y H Q
def SndN (c:Ct) (r:List V → Hp → VK → Prop) (o:List AV → AH → Option (AV × AH)):Prop:=∀ w H h as us v h' (Q:VK),SR c w H h → RepL c w as us → o as h = some (v,h') →
  (∀ w' H' z,Tr w H h w' H' h' → SR c w' H' h' → RepV c w' v z → Q z H') → r us H Q
def SndM (c:Ct) (r:V → List V → Hp → VK → Prop) (o:AV → List AV → AH → Option (AV × AH)):Prop:=∀ w H h a u as us v h' (Q:VK),SR c w H h → RepV c w a u → RepL c w as us → o a as h = some (v,h') →
  (∀ w' H' z,Tr w H h w' H' h' → SR c w' H' h' → RepV c w' v z → Q z H') → r u us H Q
def orO {α:Type} (o o':Option α):Option α:=match o with
  | some x=>some x
  | none=>o'
theorem Snd2.or {c:Ct} {r r':R2} {o o':AV → AV → AH → Option (AV × AH)} (h:Snd2 c r o) (h':Snd2 c r' o'):Snd2 c (fun x y H Q=>r x y H Q ∨ r' x y H Q) (fun a b g=>orO (o a b g) (o' a b g)):=by
  intro w H g a b u y v h1 Q S ra rb e k
  have e':orO (o a b g) (o' a b g) = some (v,h1):=e
  cases q:o a b g with
  | some x =>
    rw [q] at e'
    have:x = (v,h1):=Option.some.inj e'
    subst this
    exact .inl (h w H g a b u y v h1 Q S ra rb q k)
  | none =>
    rw [q] at e'
    exact .inr (h' w H g a b u y v h1 Q S ra rb e' k)
theorem SndN.or {c:Ct} {r r':List V → Hp → VK → Prop} {o o':List AV → AH → Option (AV × AH)} (h:SndN c r o) (h':SndN c r' o'):SndN c (fun x H Q=>r x H Q ∨ r' x H Q) (fun a g=>orO (o a g) (o' a g)):=by
  intro w H g a u v h1 Q S ra e k
  have e':orO (o a g) (o' a g) = some (v,h1):=e
  cases q:o a g with
  | some x =>
    rw [q] at e'
    have:x = (v,h1):=Option.some.inj e'
    subst this
    exact .inl (h w H g a u v h1 Q S ra q k)
  | none =>
    rw [q] at e'
    exact .inr (h' w H g a u v h1 Q S ra e' k)
theorem SndM.or {c:Ct} {r r':V → List V → Hp → VK → Prop} {o o':AV → List AV → AH → Option (AV × AH)} (h:SndM c r o) (h':SndM c r' o'):SndM c (fun x y H Q=>r x y H Q ∨ r' x y H Q) (fun a b g=>orO (o a b g) (o' a b g)):=by
  intro w H g a u as us v h1 Q S ra rb e k
  have e':orO (o a as g) (o' a as g) = some (v,h1):=e
  cases q:o a as g with
  | some x =>
    rw [q] at e'
    have:x = (v,h1):=Option.some.inj e'
    subst this
    exact .inl (h w H g a u as us v h1 Q S ra rb q k)
  | none =>
    rw [q] at e'
    exact .inr (h' w H g a u as us v h1 Q S ra rb e' k)
section
variable {c:Ct}
theorem tOp_of {r:R2} {o:AV → AV → AH → Option (AV × AH)} (hs:Snd2 c r o) {f g:AE} {σ:L2.St} {H:Hp} {Q:VK} (q:tA c (aOp2 o f g) σ H Q):tOp r (tA c f) (tA c g) σ H Q:=by
  obtain ⟨w,s,h,v,h',rs,sr,e,k⟩:=q
  obtain ⟨⟨a,h1⟩,e1,e⟩:=bind_some e
  obtain ⟨⟨b,h2⟩,e2,e⟩:=bind_some e
  refine ⟨w,s,h,a,h1,rs,sr,e1,fun w1 H1 u t1 s1 r1=>⟨w1,s,h1,b,h2,rs.le t1.le,s1,e2,fun w2 H2 y t2 s2 r2=>?_⟩⟩
  exact hs w2 H2 h2 a b u y v h' Q s2 (RepV.le t2.le _ _ r1) r2 e fun w3 H3 z t3 s3 r3=>k w3 H3 z (t1.trans (t2.trans t3)) s3 r3
theorem tCB_of {r:List V → Hp → VK → Prop} {o:List AV → AH → Option (AV × AH)} (hs:SndN c r o) {g:AA} {σ:L2.St} {H:Hp} {Q:VK} (q:tA c (aArgs o g) σ H Q):tCB r (tAs c g) σ H Q:=by
  obtain ⟨w,s,h,v,h',rs,sr,e,k⟩:=q
  obtain ⟨⟨a,h1⟩,e1,e⟩:=bind_some e
  refine ⟨w,s,h,a,h1,rs,sr,e1,fun w1 H1 u t1 s1 r1=>?_⟩
  exact hs w1 H1 h1 a u v h' Q s1 r1 e fun w3 H3 z t3 s3 r3=>k w3 H3 z (t1.trans t3) s3 r3
end
section
variable {X:Cx} {cl:Nat → Str × List Str} {pos:Pos}
theorem ae_var {x:Str} (i:Nat) (hN:X.N[i]? = some x:=by rfl) (hv:Vis X.env.scope x:=by first | exact Or.inl rfl | exact Or.inr (Or.inl rfl) | exact Or.inr (Or.inr rfl)) (hd:(x == ("__debug__" : Str)) = false:=by decide)
    (hcd:(x == ("__classdict__" : Str)) = false:=by decide):PE X (.Name x pos) (tA (ctX X cl) (aVar i)):=by
  refine (pe_var hN hv hd hcd).wk fun σ H Q q=>?_
  obtain ⟨w,s,h,v,h',rs,sr,e,k⟩:=q
  unfold aVar at e
  split at e
  · rename_i z hz
    cases e
    obtain ⟨u,e1,e2⟩:=rs.at_ i v hz
    exact ⟨u,e1,k w H u (.refl _ _ _) sr e2⟩
  · cases e
theorem tC_of {v:AV} {u:V} {c:Ct} (hr:∀ w,RepV c w v u) {σ:L2.St} {H:Hp} {Q:VK} (q:tA c (aC v) σ H Q):tC u σ H Q:=by
  obtain ⟨w,s,h,v',h',rs,sr,e,k⟩:=q
  cases e
  exact k w H u (.refl _ _ _) sr (hr w)
theorem ae_int {i:Int} {j:Nat}:PE X (.Constant (.int i) j pos) (tA (ctX X cl) (aC (.int i))):=pe_int.wk fun _ _ _ q=>tC_of (v:=.int i) (u:=.int i) (fun _=>rfl) q
theorem ae_bl {b:Bool} {j:Nat}:PE X (.Constant (.bool b) j pos) (tA (ctX X cl) (aC (.bl b))):=pe_bl.wk fun _ _ _ q=>tC_of (v:=.bl b) (u:=.bl b) (fun _=>rfl) q
theorem ae_non {j:Nat}:PE X (.Constant .none j pos) (tA (ctX X cl) (aC .non)):=pe_non.wk fun _ _ _ q=>tC_of (v:=.non) (u:=.non) (fun _=>rfl) q
theorem ae_str {x:Str} {j:Nat}:PE X (.Constant (.str x) j pos) (tA (ctX X cl) (aC (.str x))):=pe_str.wk fun _ _ _ q=>tC_of (v:=.str x) (u:=.str x) (fun _=>rfl) q
def GlobV (c:Ct) (x:Str) (v:AV):Prop:=∃ u y,c.mg x = some u ∧ RelV y u ∧ ∀ w,RepV c w v y
theorem ae_glob {x:Str} {v:AV} (hm:GlobV (ctX X cl) x v) (hg:Gl X x:=by rfl) (hd:(x == ("__debug__" : Str)) = false:=by decide):PE X (.Name x pos) (tA (ctX X cl) (aC v)):=by
  obtain ⟨u,y,e,r,h⟩:=hm
  exact (pe_glob hg e r hd).wk fun _ _ _ q=>tC_of h q
variable {a b:Expr} {f g:AE}
theorem ae_bin {op:Operator} {r:R2} {o:AV → AV → AH → Option (AV × AH)} (ho:OpR X (binaryOp op) r) (hs:Snd2 (ctX X cl) r o) (ha:PE X a (tA (ctX X cl) f)) (hb:PE X b (tA (ctX X cl) g)):PE X (.BinOp a op b pos) (tA (ctX X cl) (aOp2 o f g)) :=
  (pe_op ho ha hb).wk fun _ _ _ q=>tOp_of hs q
theorem ae_cmp {op:CmpOp} {r:R2} {o:AV → AV → AH → Option (AV × AH)} (ho:OpR X (compareOp op) r) (hs:Snd2 (ctX X cl) r o) (ha:PE X a (tA (ctX X cl) f)) (hb:PE X b (tA (ctX X cl) g)) (hm:behindInMarks op b = false:=by rfl):PE X (.Compare a [op] [b] pos) (tA (ctX X cl) (aOp2 o f g)) :=
  (pe_cmpR ho ha hb hm).wk fun _ _ _ q=>tOp_of hs q
theorem tTest_of {c:Ct} {t:TE} {f:AE} (hh:∀ σ H Q,tA c f σ H Q → t σ H Q) {σ:L2.St} {H:Hp} {Q:Bool → Hp → Prop} (q:tT c (aTst f) σ H Q):tTest t σ H Q:=by
  obtain ⟨w,s,h,v,h',rs,sr,e,k⟩:=q
  obtain ⟨⟨a,h1⟩,e1,e⟩:=bind_some e
  cases a with
  | bl b =>
    cases e
    exact hh σ H _ ⟨w,s,h,.bl v,h1,rs,sr,e1,fun w' H' u t s1 r=>⟨v,r,k w' H' t s1⟩⟩
  | _=>cases e
theorem at_cmp {op:CmpOp} {r:R2} {o:AV → AV → AH → Option (AV × AH)} (ho:OpR X (compareOp op) r) (hs:Snd2 (ctX X cl) r o) (ha:PE X a (tA (ctX X cl) f)) (hb:PE X b (tA (ctX X cl) g)) (hm:behindInMarks op b = false:=by rfl):PT X (.Compare a [op] [b] pos) (tT (ctX X cl) (aTst (aOp2 o f g))) :=
  (pt_cmpR ho ha hb hm).wk fun _ _ _ q=>tTest_of (fun _ _ _ q=>tOp_of hs q) q
def aChain (o o':AV → AV → AH → Option (AV × AH)) (f g k:AE):AE:=fun s h=>(f s h).bind fun r=>(g s r.2).bind fun q=>(o r.1 q.1 q.2).bind fun z=>match z.1 with
  | .bl true=>(k s z.2).bind fun y=>o' q.1 y.1 y.2
  | .bl false=>some (.bl false,z.2)
  | _=>none
theorem at_val (h:PE X a (tA (ctX X cl) f)) (he:∀ whole,isTrue a X.env whole = (do let v ← whole; standAt a.pos; holding [v] (truthy v)):=by intro _; rfl):PT X a (tT (ctX X cl) (aTst f)) :=
  (pt_val h he).wk fun _ _ _ q=>tTest_of (fun _ _ _ q=>q) q
variable {t u:AT} {rest:List Expr}
theorem tAnd_of {c:Ct} {σ:L2.St} {H:Hp} {Q:Bool → Hp → Prop} (q:tT c (aAnd t u) σ H Q):tAnd (tT c t) (tT c u) σ H Q:=by
  obtain ⟨w,s,h,v,h',rs,sr,e,k⟩:=q
  obtain ⟨⟨b,h1⟩,e1,e⟩:=bind_some e
  refine ⟨w,s,h,b,h1,rs,sr,e1,fun w1 H1 t1 s1=>?_⟩
  cases b with
  | true =>
    rw [if_pos rfl]
    exact ⟨w1,s,h1,v,h',rs.le t1.le,s1,e,fun w2 H2 t2 s2=>k w2 H2 (t1.trans t2) s2⟩
  | false =>
    rw [if_neg Bool.false_ne_true]
    cases e
    exact k w1 H1 t1 s1
theorem tOr_of {c:Ct} {σ:L2.St} {H:Hp} {Q:Bool → Hp → Prop} (q:tT c (aOr t u) σ H Q):tOr (tT c t) (tT c u) σ H Q:=by
  obtain ⟨w,s,h,v,h',rs,sr,e,k⟩:=q
  obtain ⟨⟨b,h1⟩,e1,e⟩:=bind_some e
  refine ⟨w,s,h,b,h1,rs,sr,e1,fun w1 H1 t1 s1=>?_⟩
  cases b with
  | false =>
    rw [if_neg Bool.false_ne_true]
    exact ⟨w1,s,h1,v,h',rs.le t1.le,s1,e,fun w2 H2 t2 s2=>k w2 H2 (t1.trans t2) s2⟩
  | true =>
    rw [if_pos rfl]
    cases e
    exact k w1 H1 t1 s1
theorem _root_.L2.PW.wk {X:Cx} {e:Expr} {t t':TT} (h:PW X e t) (hh:∀ σ H Q,t' σ H Q → t σ H Q):PW X e t':=⟨fun wh pins s σ H Q I q=>h.run wh pins s σ H Q I (hh _ _ _ q)⟩
theorem aw_and1 (ha:PT X a (tT (ctX X cl) t)):PW X (.BoolOp .And [a] pos) (tT (ctX X cl) t):=pw_and1 ha
theorem aw_or1 (ha:PT X a (tT (ctX X cl) t)):PW X (.BoolOp .Or [a] pos) (tT (ctX X cl) t):=pw_or1 ha
theorem aw_and (ha:PT X a (tT (ctX X cl) t)) (hb:PW X (.BoolOp .And (b :: rest) pos) (tT (ctX X cl) u)):PW X (.BoolOp .And (a :: b :: rest) pos) (tT (ctX X cl) (aAnd t u)):=(pw_and ha hb).wk fun _ _ _ q=>tAnd_of q
theorem aw_or (ha:PT X a (tT (ctX X cl) t)) (hb:PW X (.BoolOp .Or (b :: rest) pos) (tT (ctX X cl) u)):PW X (.BoolOp .Or (a :: b :: rest) pos) (tT (ctX X cl) (aOr t u)):=(pw_or ha hb).wk fun _ _ _ q=>tOr_of q
theorem at_not (ha:PT X a (tT (ctX X cl) t)):PT X (.UnaryOp .Not a pos) (tT (ctX X cl) (aNot t)):=by
  refine (pt_not ha).wk fun σ H Q q=>?_
  obtain ⟨w,s,h,v,h',rs,sr,e,k⟩:=q
  obtain ⟨⟨b,h1⟩,e1,e⟩:=bind_some e
  cases e
  exact ⟨w,s,h,b,h1,rs,sr,e1,fun w1 H1 t1 s1=>k w1 H1 t1 s1⟩
def aAndV (f g:AE):AE:=fun s h=>(f s h).bind fun r=>match r.1 with
  | .bl true=>g s r.2
  | .bl false=>some (.bl false,r.2)
  | _=>none
theorem ae_one {op:BoolOp} (ha:PE X a (tA (ctX X cl) f)):PE X (.BoolOp op [a] pos) (tA (ctX X cl) f):=pe_one ha
theorem ae_and (ha:PE X a (tA (ctX X cl) f)) (hb:PE X (.BoolOp .And (b :: rest) pos) (tA (ctX X cl) g)):PE X (.BoolOp .And (a :: b :: rest) pos) (tA (ctX X cl) (aAndV f g)):=by
  refine (pe_and ha hb).wk fun σ H Q q=>?_
  obtain ⟨w,s,h,v,h',rs,sr,e,k⟩:=q
  obtain ⟨⟨z,h1⟩,e1,e⟩:=bind_some e
  refine ⟨w,s,h,z,h1,rs,sr,e1,fun w1 H1 y t1 s1 r1=>?_⟩
  cases z with
  | bl d =>
    refine ⟨d,r1,?_⟩
    cases d with
    | true =>
      rw [if_pos rfl]
      exact ⟨w1,s,h1,v,h',rs.le t1.le,s1,e,fun w2 H2 u t2 s2 r2=>k w2 H2 u (t1.trans t2) s2 r2⟩
    | false =>
      rw [if_neg Bool.false_ne_true]
      cases e
      exact k w1 H1 _ t1 s1 rfl
  | _=>cases e
theorem ae_ife {c0:Expr} (hc:PT X c0 (tT (ctX X cl) t)) (ha:PE X a (tA (ctX X cl) f)) (hb:PE X b (tA (ctX X cl) g)):PE X (.IfExp c0 a b pos) (tA (ctX X cl) (aIf t f g)):=by
  refine (pe_ifExp hc ha hb).wk fun σ H Q q=>?_
  obtain ⟨w,s,h,v,h',rs,sr,e,k⟩:=q
  obtain ⟨⟨d,h1⟩,e1,e⟩:=bind_some e
  refine ⟨w,s,h,d,h1,rs,sr,e1,fun w1 H1 t1 s1=>?_⟩
  cases d with
  | true =>
    rw [if_pos rfl]
    exact ⟨w1,s,h1,v,h',rs.le t1.le,s1,e,fun w2 H2 u t2 s2 r2=>k w2 H2 u (t1.trans t2) s2 r2⟩
  | false =>
    rw [if_neg Bool.false_ne_true]
    exact ⟨w1,s,h1,v,h',rs.le t1.le,s1,e,fun w2 H2 u t2 s2 r2=>k w2 H2 u (t1.trans t2) s2 r2⟩
variable {es:List Expr} {e:Expr} {gs:AA}
theorem aa_nil:PA X [] (tAs (ctX X cl) aNil):=pa_nil.wk fun σ H Q q=>by
  obtain ⟨w,s,h,v,h',rs,sr,e,k⟩:=q
  cases e
  exact k w H [] (.refl _ _ _) sr rfl
theorem aa_cons (ha:PE X e (tA (ctX X cl) f)) (hr:PA X es (tAs (ctX X cl) gs)) (hs:starEach (e :: es) X.env = (false,eval e X.env) :: starEach es X.env:=by rfl):PA X (e :: es) (tAs (ctX X cl) (aCons f gs)):=by
  refine (pa_cons ha hr hs).wk fun σ H Q q=>?_
  obtain ⟨w,s,h,v,h',rs,sr,e,k⟩:=q
  obtain ⟨⟨z,h1⟩,e1,e⟩:=bind_some e
  obtain ⟨⟨zs,h2⟩,e2,e⟩:=bind_some e
  cases e
  exact ⟨w,s,h,z,h1,rs,sr,e1,fun w1 H1 u t1 s1 r1=>⟨w1,s,h1,zs,h2,rs.le t1.le,s1,e2,fun w2 H2 us t2 s2 r2=>k w2 H2 (u :: us) (t1.trans t2) s2 (.cons (RepV.le t2.le _ _ r1) r2)⟩⟩
def mkF (k:Kd) (xs:List AV) (h:AH):Option (AV × AH):=if xs.length ≤ sizeLine then some (.nod k xs,h) else none
def mkM (k:Kd) (xs:List AV) (h:AH):Option (AV × AH):=if xs.length ≤ sizeLine then some (.ref h.next,h.new (k,xs)) else none
theorem SR.newF {c:Ct} {w:Wd} {H:Hp} {h:AH} (S:SR c w H h) {p:Addr} {k:Kd} {xs:List AV} {us:List V} {o:HO} (hp:H p = none) (r:RepL c w xs us) (hn:∀ R:Hp,R p = some o → NodeR c R p k us) :
    ∃ w',SR c w' (upd H p o) h ∧ Tr w H h w' (upd H p o) h ∧ RepV c w' (.nod k xs) (.ref p):=by
  obtain ⟨s,t⟩:=S.frozen (o:=o) hp
  exact ⟨_,s,t,p,us,rfl,hn _ upd_same,RepL.le t.le _ _ r⟩
theorem SR.newM {c:Ct} {w:Wd} {H:Hp} {h:AH} (S:SR c w H h) {p:Addr} {k:Kd} {xs:List AV} {us:List V} {o:HO} (hp:H p = none) (r:RepL c w xs us) (hn:∀ H:Hp,H p = some o → NodeM c H p k us) :
    ∃ w',SR c w' (upd H p o) (h.new (k,xs)) ∧ Tr w H h w' (upd H p o) (h.new (k,xs)) ∧ RepV c w' (.ref h.next) (.ref p):=by
  obtain ⟨s,t⟩:=S.newCell (H':=upd H p o) hp (fun a ha _=>upd_ne ha) (hn _ upd_same) r
  exact ⟨_,s,t,p,if_pos rfl,rfl⟩
theorem ae_tup {x1:Nat} (h:PA X es (tAs (ctX X cl) gs)):PE X (.Tuple es x1 pos) (tA (ctX X cl) (aArgs (mkF .tup) gs)):=by
  refine (pe_tup h).wk fun σ H Q q=>?_
  obtain ⟨w,s,h,v,h',rs,sr,e,k⟩:=q
  obtain ⟨⟨zs,h1⟩,e1,e⟩:=bind_some e
  unfold mkF at e
  split at e
  · rename_i hz
    cases e
    refine ⟨w,s,h,zs,h1,rs,sr,e1,fun w1 H1 us t1 s1 r1=>⟨by rw [← r1.len]; exact hz,fun p hp=>?_⟩⟩
    obtain ⟨w2,s2,t2,r2⟩:=s1.newF (k:=.tup) hp r1 fun R e=>SqT.of e
    exact k w2 _ _ (t1.trans t2) s2 r2
  · cases e
theorem ae_lstF (h:PA X es (tAs (ctX X cl) gs)):PE X (.List es pos) (tA (ctX X cl) (aArgs (mkF .lst) gs)):=by
  refine (pe_lst h).wk fun σ H Q q=>?_
  obtain ⟨w,s,h,v,h',rs,sr,e,k⟩:=q
  obtain ⟨⟨zs,h1⟩,e1,e⟩:=bind_some e
  unfold mkF at e
  split at e
  · rename_i hz
    cases e
    refine ⟨w,s,h,zs,h1,rs,sr,e1,fun w1 H1 us t1 s1 r1=>⟨by rw [← r1.len]; exact hz,fun p hp=>?_⟩⟩
    obtain ⟨w2,s2,t2,r2⟩:=s1.newF (k:=.lst) hp r1 fun R e=>e
    exact k w2 _ _ (t1.trans t2) s2 r2
  · cases e
theorem ae_lstM (h:PA X es (tAs (ctX X cl) gs)):PE X (.List es pos) (tA (ctX X cl) (aArgs (mkM .lst) gs)):=by
  refine (pe_lst h).wk fun σ H Q q=>?_
  obtain ⟨w,s,h,v,h',rs,sr,e,k⟩:=q
  obtain ⟨⟨zs,h1⟩,e1,e⟩:=bind_some e
  unfold mkM at e
  split at e
  · rename_i hz
    cases e
    refine ⟨w,s,h,zs,h1,rs,sr,e1,fun w1 H1 us t1 s1 r1=>⟨by rw [← r1.len]; exact hz,fun p hp=>?_⟩⟩
    obtain ⟨w2,s2,t2,r2⟩:=s1.newM (k:=.lst) hp r1 fun H e=>e
    exact k w2 _ _ (t1.trans t2) s2 r2
  · cases e
end
end Rp
end
section
namespace Rp
open PySem PySem.Spec PyProof.Rows L2
mutual
def toD:AV → PyData
  | .non=>.none
  | .bl b=>.bool b
  | .int i=>.int i
  | .str x=>.str x
  | .nod .tup xs=>.tuple (toDs xs)
  | .nod _ xs=>.list (toDs xs)
  | .ty _=>.none
  | .gl _=>.none
  | .ref _=>.none
def toDs:List AV → List PyData
  | []=>[]
  | x :: xs=>toD x :: toDs xs
end
mutual
def isD:Nat → AV → Bool
  | _,.non=>true
  | _,.bl _=>true
  | _,.int _=>true
  | _,.str _=>true
  | n,.nod .tup xs=>Nat.ble 1 n && isDs (n - 1) xs
  | n,.nod .lst xs=>Nat.ble 1 n && isDs (n - 1) xs
  | _,.nod _ _=>false
  | _,.ty _=>false
  | _,.gl _=>false
  | _,.ref _=>false
def isDs:Nat → List AV → Bool
  | _,[]=>true
  | n,x :: xs=>isD n x && isDs n xs
end
mutual
theorem toD_plain:∀ (a:AV) (n:Nat),isD n a = true → (toD a).plain = true
  | .non,_,_=>rfl
  | .bl _,_,_=>rfl
  | .int _,_,_=>rfl
  | .str _,_,_=>rfl
  | .ty _,_,h=>by simp [isD] at h
  | .gl _,_,h=>by simp [isD] at h
  | .ref _,_,h=>by simp [isD] at h
  | .nod k xs,n,h=>by
    cases k with
    | tup =>
      rw [isD,Bool.and_eq_true] at h
      rw [toD]
      exact toDs_plain xs _ h.2
    | lst =>
      rw [isD,Bool.and_eq_true] at h
      rw [toD] <;> first | exact toDs_plain xs _ h.2 | exact nofun
    | _=>simp [isD] at h
theorem toDs_plain:∀ (a:List AV) (n:Nat),isDs n a = true → PyData.plainAll (toDs a) = true
  | [],_,_=>rfl
  | x :: xs,n,h=>by
    rw [isDs,Bool.and_eq_true] at h
    rw [toDs,PyData.plainAll,toD_plain x n h.1,toDs_plain xs n h.2]
    rfl
end
mutual
theorem toD_depth:∀ (a:AV) (n:Nat),isD n a = true → (toD a).depth ≤ n
  | .non,_,_=>Nat.zero_le _
  | .bl _,_,_=>Nat.zero_le _
  | .int _,_,_=>Nat.zero_le _
  | .str _,_,_=>Nat.zero_le _
  | .ty _,_,h=>by simp [isD] at h
  | .gl _,_,h=>by simp [isD] at h
  | .ref _,_,h=>by simp [isD] at h
  | .nod k xs,n,h=>by
    cases k with
    | tup =>
      rw [isD,Bool.and_eq_true] at h
      have h1:=Nat.le_of_ble_eq_true h.1
      have:=toDs_depth xs _ h.2
      rw [toD,PyData.depth]
      omega
    | lst =>
      rw [isD,Bool.and_eq_true] at h
      have h1:=Nat.le_of_ble_eq_true h.1
      have:=toDs_depth xs _ h.2
      rw [toD]
      · rw [PyData.depth]; omega
      · exact nofun
    | _=>simp [isD] at h
theorem toDs_depth:∀ (a:List AV) (n:Nat),isDs n a = true → PyData.depthAll (toDs a) ≤ n
  | [],_,_=>Nat.zero_le _
  | x :: xs,n,h=>by
    rw [isDs,Bool.and_eq_true] at h
    have h1:=toD_depth x n h.1
    have h2:=toDs_depth xs n h.2
    rw [toDs,PyData.depthAll]
    omega
end
mutual
theorem dp_of {c:Ct} {w:Wd} {H:Hp} (le:∀ a o,w.R a = some o → H a = some o):∀ (a:AV) (n:Nat) (u:V),isD n a = true → RepV c w a u → Dp c.K H u (toD a)
  | .non,_,u,_,r=>by rw [show u = _ from r]; exact .non
  | .bl b,_,u,_,r=>by rw [show u = _ from r]; exact .bl b
  | .int i,_,u,_,r=>by rw [show u = _ from r]; exact .int i
  | .str x,_,u,_,r=>by rw [show u = _ from r]; exact .str x
  | .ty _,_,_,h,_=>by simp [isD] at h
  | .gl _,_,_,h,_=>by simp [isD] at h
  | .ref _,_,_,h,_=>by simp [isD] at h
  | .nod k xs,n,u,h,r=>by
    obtain ⟨p,us,e,nr,l⟩:=r
    subst e
    cases k with
    | tup =>
      rw [isD,Bool.and_eq_true] at h
      rw [toD]
      exact .tup (SqT.le le nr) (dps_of le xs _ us h.2 l)
    | lst =>
      rw [isD,Bool.and_eq_true] at h
      rw [toD]
      · exact .lst (SqL.of (le _ _ nr)) (dps_of le xs _ us h.2 l)
      · exact nofun
    | _=>simp [isD] at h
theorem dps_of {c:Ct} {w:Wd} {H:Hp} (le:∀ a o,w.R a = some o → H a = some o):∀ (a:List AV) (n:Nat) (us:List V),isDs n a = true → RepL c w a us → DpAll c.K H us (toDs a)
  | [],_,us,_,r=>by rw [show us = [] from r]; exact .nil
  | x :: xs,n,us,h,r=>by
    obtain ⟨u,us',e,r1,r2⟩:=r
    rw [isDs,Bool.and_eq_true] at h
    subst e
    exact .cons (dp_of le x n u h.1 r1) (dps_of le xs n us' h.2 r2)
end
def nrm (h:AH) (a:AV):AV:=match a with
  | .ref n=>match h.get n with
    | some (.lst,xs)=>.nod .lst xs
    | _=>.ref n
  | a=>a
theorem dpn_of {c:Ct} {w:Wd} {H:Hp} {h:AH} (S:SR c w H h) {a:AV} {u:V} (r:RepV c w a u) (n:Nat) (d:isD n (nrm h a) = true):Dp c.K H u (toD (nrm h a)):=by
  cases a with
  | ref m =>
    unfold nrm at d ⊢
    cases e:h.get m with
    | none=>simp only [e] at d; simp [isD] at d
    | some q =>
      obtain ⟨k,xs⟩:=q
      cases k with
      | lst =>
        simp only [e] at d ⊢
        obtain ⟨p,us,e1,nm,l⟩:=S.cell m _ xs e
        obtain ⟨p',e2,e3⟩:=r
        rw [e1] at e2
        cases e2
        subst e3
        rw [isD,Bool.and_eq_true] at d
        rw [toD]
        · exact .lst (SqL.of nm) (dps_of S.le xs _ us d.2 l)
        · exact nofun
      | _=>simp only [e] at d; simp [isD] at d
  | nod k xs=>exact dp_of S.le _ n u d r
  | non=>exact dp_of S.le _ n u d r
  | bl _=>exact dp_of S.le _ n u d r
  | int _=>exact dp_of S.le _ n u d r
  | str _=>exact dp_of S.le _ n u d r
  | ty _=>exact dp_of S.le _ n u d r
  | gl _=>exact dp_of S.le _ n u d r
def aEq (a b:AV) (h:AH):Option (AV × AH):=if (isD 60 (nrm h a) && isD 60 (nrm h b)) = true then some (.bl (PyData.eqv (toD (nrm h a)) (toD (nrm h b))),h) else none
def aNe (a b:AV) (h:AH):Option (AV × AH):=if (isD 60 (nrm h a) && isD 60 (nrm h b)) = true then some (.bl (!PyData.eqv (toD (nrm h a)) (toD (nrm h b))),h) else none
def rEqP (K:PySem.W.Frag):R2:=fun x y H Q=>∃ d e,Dp K H x d ∧ Dp K H y e ∧ d.plain = true ∧ e.plain = true ∧ d.depth ≤ 60 ∧ Q (.bl (PyData.eqv d e)) H
def rNeP (K:PySem.W.Frag):R2:=fun x y H Q=>∃ d e,Dp K H x d ∧ Dp K H y e ∧ d.plain = true ∧ e.plain = true ∧ d.depth ≤ 60 ∧ Q (.bl (!PyData.eqv d e)) H
section
variable {X:Cx}
theorem op_eqP (hu:X.A.units + 64 < cLine):OpR X (compareOp .Eq) (rEqP X.K):=by
  intro pins s σ H x y v u Q I rx ry h
  obtain ⟨d,e,hd,he,sd,se,dp,q⟩:=h
  obtain ⟨as,r1⟩:=Dp.reads I d x v hd rx
  obtain ⟨bs,r2⟩:=Dp.reads I e y u he ry
  exact SeqAt.eq_plain r1 r2 sd se (by omega) ⟨.bl _,H,I,rfl,q⟩
theorem op_neP (hu:X.A.units + 64 < cLine):OpR X (compareOp .NotEq) (rNeP X.K):=by
  intro pins s σ H x y v u Q I rx ry h
  obtain ⟨d,e,hd,he,sd,se,dp,q⟩:=h
  obtain ⟨as,r1⟩:=Dp.reads I d x v hd rx
  obtain ⟨bs,r2⟩:=Dp.reads I e y u he ry
  exact SeqAt.ne_plain r1 r2 sd se (by omega) ⟨.bl _,H,I,rfl,q⟩
end
theorem snd_eq {c:Ct}:Snd2 c (rEqP c.K) aEq:=by
  intro w H h a b u y v h' Q S ra rb e k
  unfold aEq at e
  split at e
  · rename_i hd
    cases e
    rw [Bool.and_eq_true] at hd
    exact ⟨_,_,dpn_of S ra 60 hd.1,dpn_of S rb 60 hd.2,toD_plain _ 60 hd.1,toD_plain _ 60 hd.2,toD_depth _ 60 hd.1,k w H _ (.refl _ _ _) S rfl⟩
  · cases e
theorem snd_ne {c:Ct}:Snd2 c (rNeP c.K) aNe:=by
  intro w H h a b u y v h' Q S ra rb e k
  unfold aNe at e
  split at e
  · rename_i hd
    cases e
    rw [Bool.and_eq_true] at hd
    exact ⟨_,_,dpn_of S ra 60 hd.1,dpn_of S rb 60 hd.2,toD_plain _ 60 hd.1,toD_plain _ 60 hd.2,toD_depth _ 60 hd.1,k w H _ (.refl _ _ _) S rfl⟩
  · cases e
def aI2 (C:Int → Int → Bool) (f:Int → Int → AV):AV → AV → AH → Option (AV × AH)
  | .int i,.int j,h=>if C i j = true then some (f i j,h) else none
  | _,_,_=>none
theorem aI2_inv {C:Int → Int → Bool} {f:Int → Int → AV} {a b:AV} {h:AH} {r:AV × AH} (e:aI2 C f a b h = some r):∃ i j,a = .int i ∧ b = .int j ∧ C i j = true ∧ r = (f i j,h):=by
  cases a with
  | int i =>
    cases b with
    | int j =>
      have e':(if C i j = true then some (f i j,h) else none) = some r:=e
      split at e'
      · rename_i hc
        exact ⟨i,j,rfl,rfl,hc,(Option.some.inj e').symm⟩
      · cases e'
    | _=>cases e
  | _=>cases e
theorem snd_int {c:Ct} {P:Int → Int → Prop} {C:Int → Int → Bool} {f:Int → Int → AV} {g:Int → Int → V} (hC:∀ i j,C i j = true → P i j) (hf:∀ (w:Wd) i j,RepV c w (f i j) (g i j)):Snd2 c (rI P g) (aI2 C f):=by
  intro w H h a b u y v h' Q S ra rb e k
  obtain ⟨i,j,rfl,rfl,hc,er⟩:=aI2_inv e
  cases er
  exact ⟨i,j,ra,rb,hC i j hc,k w H _ (.refl _ _ _) S (hf w i j)⟩
theorem snd_int0 {c:Ct} {f:Int → Int → AV} {g:Int → Int → V} (hf:∀ (w:Wd) i j,RepV c w (f i j) (g i j)):Snd2 c (rI0 g) (aI2 (fun _ _=>true) f):=by
  intro w H h a b u y v h' Q S ra rb e k
  obtain ⟨i,j,rfl,rfl,hc,er⟩:=aI2_inv e
  cases er
  exact ⟨i,j,ra,rb,k w H _ (.refl _ _ _) S (hf w i j)⟩
abbrev aSub:=aI2 (fun _ _=>true) fun i j=>.int (i - j)
abbrev aLt:=aI2 (fun _ _=>true) fun i j=>.bl (decide (i < j))
abbrev aLe:=aI2 (fun _ _=>true) fun i j=>.bl (decide (i ≤ j))
abbrev aGt:=aI2 (fun _ _=>true) fun i j=>.bl (decide (j < i))
abbrev aGe:=aI2 (fun _ _=>true) fun i j=>.bl (decide (j ≤ i))
def mulC (i j:Int):Bool:=(decide (-18446744073709551616 < i) && decide (i < 18446744073709551616)) || (decide (-18446744073709551616 < j) && decide (j < 18446744073709551616))
theorem mulC_ok {i j:Int} (h:mulC i j = true):CMul i j:=by
  unfold mulC at h
  rw [Bool.or_eq_true,Bool.and_eq_true,Bool.and_eq_true,decide_eq_true_eq,decide_eq_true_eq,decide_eq_true_eq,decide_eq_true_eq] at h
  exact h
abbrev aMulI:=aI2 mulC fun i j=>.int (i * j)
abbrev aDiv:=aI2 (fun _ j=>decide (0 < j) && decide (j < 18446744073709551616)) fun i j=>.int (i / j)
abbrev aMod:=aI2 (fun _ j=>decide (0 < j)) fun i j=>.int (i % j)
abbrev aPow:=aI2 (fun i j=>decide (0 ≤ j) && (decide (j ≤ 1000000) && decide (i.natAbs < 18446744073709551616))) fun i j=>.int (i ^ j.toNat)
section
variable {X:Cx} {cl:Nat → Str × List Str} {pos:Pos} {a b:Expr} {f g:AE}
theorem ae_sub (ha:PE X a (tA (ctX X cl) f)) (hb:PE X b (tA (ctX X cl) g)):PE X (.BinOp a .Sub b pos) (tA (ctX X cl) (aOp2 aSub f g)):=ae_bin op_sub (snd_int0 fun _ _ _=>rfl) ha hb
theorem ae_div (ha:PE X a (tA (ctX X cl) f)) (hb:PE X b (tA (ctX X cl) g)):PE X (.BinOp a .FloorDiv b pos) (tA (ctX X cl) (aOp2 aDiv f g)) :=
  ae_bin op_fdivW (snd_int (fun i j h=>by
    rw [Bool.and_eq_true,decide_eq_true_eq,decide_eq_true_eq] at h
    exact wide_div (b:=64) h.1 (by have h2:=h.2; omega) (by decide) (by decide)) fun _ _ _=>rfl) ha hb
theorem ae_mod (ha:PE X a (tA (ctX X cl) f)) (hb:PE X b (tA (ctX X cl) g)):PE X (.BinOp a .Mod b pos) (tA (ctX X cl) (aOp2 aMod f g)) :=
  ae_bin op_mod (snd_int (fun i j h=>of_decide_eq_true h) fun _ _ _=>rfl) ha hb
theorem ae_pow (ha:PE X a (tA (ctX X cl) f)) (hb:PE X b (tA (ctX X cl) g)):PE X (.BinOp a .Pow b pos) (tA (ctX X cl) (aOp2 aPow f g)) :=
  ae_bin op_pow (snd_int (fun i j h=>by rw [Bool.and_eq_true,Bool.and_eq_true,decide_eq_true_eq,decide_eq_true_eq,decide_eq_true_eq] at h; exact h) fun _ _ _=>rfl) ha hb
theorem s_lt {c:Ct}:Snd2 c (rI0 fun i j=>.bl (decide (i < j))) aLt:=snd_int0 fun _ _ _=>rfl
theorem s_ge {c:Ct}:Snd2 c (rI0 fun i j=>.bl (decide (j ≤ i))) aGe:=snd_int0 fun _ _ _=>rfl
end
def aCat (mk:Kd → List AV → AH → Option (AV × AH)) (a b:AV) (h:AH):Option (AV × AH):=match look h a,look h b with
  | some (.lst,xs),some (.lst,ys)=>mk .lst (xs ++ ys) h
  | _,_=>none
def aAddS:AV → AV → AH → Option (AV × AH)
  | .str x,.str y,h=>if x.length + y.length ≤ sizeLine then some (.str (x ++ y),h) else none
  | _,_,_=>none
theorem snd_adds {c:Ct}:Snd2 c (fun x y H Q=>∃ i j,x = .str i ∧ y = .str j ∧ i.length + j.length ≤ sizeLine ∧ Q (.str (i ++ j)) H) aAddS:=by
  intro w H h a b u y v h' Q S ra rb e k
  unfold aAddS at e
  split at e
  · split at e
    · rename_i hz
      cases e
      exact ⟨_,_,ra,rb,hz,k w H _ (.refl _ _ _) S rfl⟩
    · cases e
  · cases e
theorem aCat_inv {mk:Kd → List AV → AH → Option (AV × AH)} {a b:AV} {h:AH} {r:AV × AH} (e:aCat mk a b h = some r):∃ xs ys,look h a = some (.lst,xs) ∧ look h b = some (.lst,ys) ∧ mk .lst (xs ++ ys) h = some r:=by
  unfold aCat at e
  split at e
  · rename_i xs ys h1 h2
    exact ⟨xs,ys,h1,h2,e⟩
  · cases e
theorem snd_catF {c:Ct}:Snd2 c rCat (aCat mkF):=by
  intro w H h a b u y v h' Q S ra rb e k
  obtain ⟨xs,ys,h1,h2,e⟩:=aCat_inv e
  unfold mkF at e
  split at e
  · rename_i hz
    cases e
    obtain ⟨p,us,rfl,n1,l1⟩:=look_ok S ra h1
    obtain ⟨q,vs,rfl,n2,l2⟩:=look_ok S rb h2
    refine ⟨p,q,us,vs,rfl,rfl,n1,n2,by rw [← l1.len,← l2.len,← List.length_append]; exact hz,fun z hz' => ?_⟩
    obtain ⟨w2,s2,t2,r2⟩:=S.newF (k:=.lst) hz' (l1.append l2) fun R e=>e
    exact k w2 _ _ t2 s2 r2
  · cases e
abbrev aAddI:=aI2 (fun _ _=>true) fun i j=>.int (i + j)
def aAdd (a b:AV) (h:AH):Option (AV × AH):=orO (aAddI a b h) (orO (aAddS a b h) (aCat mkF a b h))
def aAddM (a b:AV) (h:AH):Option (AV × AH):=aCat mkM a b h
def aRep (mk:Kd → List AV → AH → Option (AV × AH)) (a b:AV) (h:AH):Option (AV × AH):=match look h a,b with
  | some (.lst,xs),.int k=>if -9223372036854775808 ≤ k ∧ k < 9223372036854775808 ∧ xs.length * k.toNat ≤ sizeLine then mk .lst (List.replicate k.toNat xs).flatten h else none
  | _,_=>none
theorem repl_rep {c:Ct} {w:Wd} {xs:List AV} {us:List V} (r:RepL c w xs us):∀ k:Nat,RepL c w (List.replicate k xs).flatten (List.replicate k us).flatten
  | 0=>rfl
  | k + 1=>by
    rw [List.replicate_succ,List.replicate_succ,List.flatten_cons,List.flatten_cons]
    exact r.append (repl_rep r k)
theorem snd_rep {c:Ct}:Snd2 c rRep (aRep mkF):=by
  intro w H h a b u y v h' Q S ra rb e k
  unfold aRep at e
  split at e
  · rename_i xs n h1
    split at e
    · rename_i hz
      unfold mkF at e
      split at e
      · cases e
        obtain ⟨p,us,rfl,n1,l1⟩:=look_ok S ra h1
        refine ⟨p,n,us,rfl,rb,n1,hz.1,hz.2.1,by rw [← l1.len]; exact hz.2.2,fun z hz' => ?_⟩
        obtain ⟨w2,s2,t2,r2⟩:=S.newF (k:=.lst) hz' (repl_rep l1 n.toNat) fun R e=>e
        exact k w2 _ _ t2 s2 r2
      · cases e
    · cases e
  · cases e
def aMul (a b:AV) (h:AH):Option (AV × AH):=orO (aMulI a b h) (aRep mkF a b h)
section
variable {X:Cx} {cl:Nat → Str × List Str} {pos:Pos} {a b:Expr} {f g:AE}
theorem ae_add (ha:PE X a (tA (ctX X cl) f)) (hb:PE X b (tA (ctX X cl) g)):PE X (.BinOp a .Add b pos) (tA (ctX X cl) (aOp2 aAdd f g)) :=
  ae_bin (op_add.or (op_add_str.or op_cat)) ((snd_int0 (f:=fun i j=>.int (i + j)) (g:=fun i j=>.int (i + j)) (fun _ _ _=>rfl)).or (snd_adds.or snd_catF)) ha hb
theorem ae_mul (ha:PE X a (tA (ctX X cl) f)) (hb:PE X b (tA (ctX X cl) g)):PE X (.BinOp a .Mult b pos) (tA (ctX X cl) (aOp2 aMul f g)) :=
  ae_bin (op_mul.or op_rep) ((snd_int (f:=fun i j=>.int (i * j)) (g:=fun i j=>.int (i * j)) (fun i j h=>mulC_ok h) (fun _ _ _=>rfl)).or snd_rep) ha hb
end
def isN:AV → Bool
  | .non=>true
  | _=>false
def aIs (a b:AV) (h:AH):Option (AV × AH):=match b with
  | .non=>some (.bl (isN a),h)
  | _=>none
def aIsNot (a b:AV) (h:AH):Option (AV × AH):=match b with
  | .non=>some (.bl (!isN a),h)
  | _=>none
theorem isN_rep {c:Ct} {w:Wd} {a:AV} {u:V} (r:RepV c w a u):decide (u = .non) = isN a:=by
  cases a with
  | non=>rw [show u = _ from r]; rfl
  | bl b=>rw [show u = _ from r]; rfl
  | int b=>rw [show u = _ from r]; rfl
  | str b=>rw [show u = _ from r]; rfl
  | ty b=>rw [show u = _ from r]; rfl
  | gl x=>obtain ⟨a,_,e⟩:=r; rw [e]; rfl
  | ref n=>obtain ⟨a,_,e⟩:=r; rw [e]; rfl
  | nod k xs=>obtain ⟨p,us,e,_⟩:=r; rw [e]; rfl
theorem snd_is {c:Ct}:Snd2 c (fun x y H Q=>y = .non ∧ Q (.bl (decide (x = .non))) H) aIs:=by
  intro w H h a b u y v h' Q S ra rb e k
  unfold aIs at e
  split at e
  · cases e
    exact ⟨rb,k w H _ (.refl _ _ _) S (by rw [isN_rep ra]; rfl)⟩
  · cases e
def toKey:AV → Option Key
  | .int i=>some (.inl i)
  | .str x=>some (.inr x)
  | _=>none
theorem toKey_rep {c:Ct} {w:Wd} {a:AV} {u:V} {k:Key} (e:toKey a = some k) (r:RepV c w a u):u = kV k:=by
  unfold toKey at e
  split at e
  · cases e; exact r
  · cases e; exact r
  · cases e
theorem valV_zip:∀ (ks:List Key) (us:List V) (k:Key),ks.length = us.length → valV (ks.zip us) k = (kIx ks k).bind fun i=>us[i]?
  | [],us,k,_=>by simp [kIx,valV]
  | j :: ks,[],k,h=>by simp at h
  | j :: ks,u :: us,k,h=>by
    by_cases e:j = k
    · rw [List.zip_cons_cons,valV_pos (p:=(j,u)) e]
      simp [kIx,List.findIdx?_cons,e]
    · rw [List.zip_cons_cons,valV_neg (p:=(j,u)) e,valV_zip ks us k (by simpa using h)]
      unfold kIx
      rw [List.findIdx?_cons]
      simp only [decide_eq_true_eq,e,if_false]
      cases q:List.findIdx? (fun j=>decide (j = k)) ks <;> simp [q]
theorem kIx_lt {ks:List Key} {k:Key} {i:Nat} (h:kIx ks k = some i):i < ks.length:=by
  unfold kIx at h
  obtain ⟨h1,_⟩:=List.findIdx?_eq_some_iff_getElem.mp h
  exact h1
def dLook (h:AH) (a:AV):Option (List Key × List AV):=match look h a with
  | some (.dct ks,xs)=>some (ks,xs)
  | some (.ldct ks,xs)=>some (ks,xs)
  | some (.tab ks,xs)=>some (ks,xs)
  | _=>none
def DRd (c:Ct) (H:Hp) (p:Addr) (ks:List Key) (us:List V):Prop:=ks.length = us.length ∧ (Rd H p (.dK (ks.zip us)) ∨ KTab c p ks us)
theorem dLook_ok {c:Ct} {w:Wd} {H:Hp} {h:AH} (S:SR c w H h) {a:AV} {u:V} {ks:List Key} {xs:List AV} (r:RepV c w a u) (e:dLook h a = some (ks,xs)):∃ p us,u = .ref p ∧ DRd c H p ks us ∧ RepL c w xs us:=by
  unfold dLook at e
  split at e
  · rename_i ks' xs' q
    cases e
    obtain ⟨p,us,e1,n,l⟩:=look_ok S r q
    exact ⟨p,us,e1,⟨n.1,.inl n.2⟩,l⟩
  · rename_i ks' xs' q
    cases e
    obtain ⟨p,us,e1,n,l⟩:=look_ok S r q
    exact ⟨p,us,e1,⟨n.1,.inl n.2⟩,l⟩
  · rename_i ks' xs' q
    cases e
    obtain ⟨p,us,e1,n,l⟩:=look_ok S r q
    exact ⟨p,us,e1,⟨n.1,.inr n⟩,l⟩
  · cases e
theorem kIx_isSome {ks:List Key} {us:List V} (hl:ks.length = us.length) (k:Key):((kIx ks k).bind fun i=>us[i]?).isSome = (kIx ks k).isSome:=by
  cases e:kIx ks k with
  | none=>rfl
  | some i =>
    have:=kIx_lt e
    simp only [Option.bind_some,Option.isSome_some]
    rw [List.getElem?_eq_getElem (by omega)]; rfl
def ng (neg b:Bool):Bool:=if neg = true then !b else b
def rInK (c:Ct) (neg:Bool):R2:=fun x y H Q=>∃ p ks us k,y = .ref p ∧ x = kV k ∧ ks.length = us.length ∧ Rd H p (.dK (ks.zip us)) ∧ Q (.bl (ng neg (kIx ks k).isSome)) H
def rInT (c:Ct) (neg:Bool):R2:=fun x y H Q=>∃ p ks us z,y = .ref p ∧ x = .str z ∧ KTab c p ks us ∧ Q (.bl (ng neg (kIx ks (.inr z)).isSome)) H
def aInK (neg:Bool) (a b:AV) (h:AH):Option (AV × AH):=match a,dLook h b with
  | .str z,some (ks,_)=>some (.bl (ng neg (kIx ks (.inr z)).isSome),h)
  | _,_=>none
theorem snd_inK {c:Ct} (neg:Bool):Snd2 c (fun x y H Q=>rInK c neg x y H Q ∨ rInT c neg x y H Q) (aInK neg):=by
  intro w H h a b u y v h' Q S ra rb e k
  unfold aInK at e
  split at e
  · rename_i z ks xs hb
    cases e
    obtain ⟨p,us,rfl,⟨hl,hd⟩,l⟩:=dLook_ok S rb hb
    rcases hd with hd | hd
    · exact .inl ⟨p,ks,us,.inr z,rfl,ra,hl,hd,k w H _ (.refl _ _ _) S rfl⟩
    · exact .inr ⟨p,ks,us,z,rfl,ra,hd,k w H _ (.refl _ _ _) S rfl⟩
  · cases e
def rInP (K:PySem.W.Frag) (neg:Bool):R2:=fun x y H Q=>∃ p us d ds,y = .ref p ∧ (SqL K H p us ∨ SqT K H p us) ∧ Dp K H x d ∧ DpAll K H us ds ∧ d.plain = true ∧ PyData.plainAll ds = true ∧ d.depth ≤ 60 ∧ Q (.bl (ng neg (ds.any fun y=>PyData.eqv y d))) H
def aInD (neg:Bool) (a b:AV) (h:AH):Option (AV × AH):=match look h b with
  | some (.lst,xs)=>if (isD 60 (nrm h a) && isDs 60 xs) = true then some (.bl (ng neg ((toDs xs).any fun y=>PyData.eqv y (toD (nrm h a)))),h) else none
  | some (.tup,xs)=>if (isD 60 (nrm h a) && isDs 60 xs) = true then some (.bl (ng neg ((toDs xs).any fun y=>PyData.eqv y (toD (nrm h a)))),h) else none
  | _=>none
theorem snd_inD {c:Ct} (neg:Bool):Snd2 c (rInP c.K neg) (aInD neg):=by
  intro w H h a b u y v h' Q S ra rb e k
  unfold aInD at e
  split at e
  · rename_i xs hb
    split at e
    · rename_i hd
      cases e
      rw [Bool.and_eq_true] at hd
      obtain ⟨p,us,rfl,n,l⟩:=look_ok S rb hb
      exact ⟨p,us,_,_,rfl,.inl (SqL.of n),dpn_of S ra 60 hd.1,dps_of S.le xs 60 us hd.2 l,toD_plain _ 60 hd.1,toDs_plain _ 60 hd.2,toD_depth _ 60 hd.1,k w H _ (.refl _ _ _) S rfl⟩
    · cases e
  · rename_i xs hb
    split at e
    · rename_i hd
      cases e
      rw [Bool.and_eq_true] at hd
      obtain ⟨p,us,rfl,n,l⟩:=look_ok S rb hb
      exact ⟨p,us,_,_,rfl,.inr n,dpn_of S ra 60 hd.1,dps_of S.le xs 60 us hd.2 l,toD_plain _ 60 hd.1,toDs_plain _ 60 hd.2,toD_depth _ 60 hd.1,k w H _ (.refl _ _ _) S rfl⟩
    · cases e
  · cases e
def aInS (neg:Bool) (a b:AV) (h:AH):Option (AV × AH):=match a,b with
  | .str x,.str z=>match x.cps.toList with
    | [n]=>some (.bl (ng neg (decide (n ∈ z.cps.toList))),h)
    | _=>none
  | _,_=>none
def rInS (neg:Bool):R2:=fun x y H Q=>∃ (c:Nat) (z:Str),x = .str ⟨#[c]⟩ ∧ y = .str z ∧ Q (.bl (ng neg (decide (c ∈ z.cps.toList)))) H
theorem snd_inS {c:Ct} (neg:Bool):Snd2 c (rInS neg) (aInS neg):=by
  intro w H h a b u y v h' Q S ra rb e k
  unfold aInS at e
  split at e
  · rename_i x z
    split at e
    · rename_i n hx
      cases e
      refine ⟨n,z,?_,rb,k w H _ (.refl _ _ _) S rfl⟩
      rw [show u = _ from ra]
      congr 1
      cases x with
      | mk cps =>
        have:cps = #[n]:=by
          have h2:cps.toList = [n]:=hx
          rw [← Array.toArray_toList (xs:=cps),h2]
        rw [this]
    · cases e
  · cases e
section
variable {X:Cx} {cl:Nat → Str × List Str}
theorem op_inK (hu:X.A.units + 64 < cLine):OpR X (compareOp .In) (rInK (ctX X cl) false):=by
  intro pins s σ H x y v u Q I rx ry h
  obtain ⟨p,ks,us,k,rfl,rfl,hl,hd,q⟩:=h
  obtain rfl:u = Value.ref p:=ry
  refine d_in (A:=X.A) (by omega) I (o:=valV (ks.zip us) k) (.inl ⟨_,k,hd,rfl,rfl⟩) rx fun s' I' => ?_
  rw [valV_zip ks us k hl,kIx_isSome hl]
  exact ⟨.bl _,H,I',rfl,q⟩
theorem op_notInK (hu:X.A.units + 64 < cLine):OpR X (compareOp .NotIn) (rInK (ctX X cl) true):=by
  intro pins s σ H x y v u Q I rx ry h
  obtain ⟨p,ks,us,k,rfl,rfl,hl,hd,q⟩:=h
  obtain rfl:u = Value.ref p:=ry
  refine d_notIn (A:=X.A) (by omega) I (o:=valV (ks.zip us) k) (.inl ⟨_,k,hd,rfl,rfl⟩) rx fun s' I' => ?_
  rw [valV_zip ks us k hl,kIx_isSome hl]
  exact ⟨.bl _,H,I',rfl,q⟩
theorem op_inT:OpR X (compareOp .In) (rInT (ctX X cl) false):=by
  intro pins s σ H x y v u Q I rx ry h
  obtain ⟨p,ks,us,z,rfl,rfl,⟨hl,es,n,D,lk⟩,q⟩:=h
  obtain ⟨r,e1,e2⟩:=lk z
  refine op_in_kd D pins s σ H _ _ v u Q I rx ry ⟨z,r,rfl,rfl,e1,?_⟩
  rw [← e2.isSome_eq,kIx_isSome hl]
  exact q
theorem op_notInT:OpR X (compareOp .NotIn) (rInT (ctX X cl) true):=by
  intro pins s σ H x y v u Q I rx ry h
  obtain ⟨p,ks,us,z,rfl,rfl,⟨hl,es,n,D,lk⟩,q⟩:=h
  obtain ⟨r,e1,e2⟩:=lk z
  refine op_notIn_kd D pins s σ H _ _ v u Q I rx ry ⟨z,r,rfl,rfl,e1,?_⟩
  rw [← e2.isSome_eq,kIx_isSome hl]
  exact q
theorem op_inP (hu:X.A.units + 64 < cLine):OpR X (compareOp .In) (rInP X.K false):=by
  intro pins s σ H x y v u Q I rx ry h
  obtain ⟨p,us,d,ds,rfl,hs,hd,hds,pd,pds,dp,q⟩:=h
  obtain ⟨as,r1⟩:=Dp.reads I d x v hd rx
  rcases hs with hs | hs
  · obtain ⟨bs,r2⟩:=Dp.reads I (.list ds) (.ref p) u (.lst hs hds) ry
    exact SeqAt.in_list_data r2 r1 pds pd (by omega) ⟨.bl _,H,I,rfl,q⟩
  · obtain ⟨bs,r2⟩:=Dp.reads I (.tuple ds) (.ref p) u (.tup hs hds) ry
    exact SeqAt.in_tuple_data r2 r1 pds pd (by omega) ⟨.bl _,H,I,rfl,q⟩
theorem op_notInP (hu:X.A.units + 64 < cLine):OpR X (compareOp .NotIn) (rInP X.K true):=by
  intro pins s σ H x y v u Q I rx ry h
  obtain ⟨p,us,d,ds,rfl,hs,hd,hds,pd,pds,dp,q⟩:=h
  obtain ⟨as,r1⟩:=Dp.reads I d x v hd rx
  rcases hs with hs | hs
  · obtain ⟨bs,r2⟩:=Dp.reads I (.list ds) (.ref p) u (.lst hs hds) ry
    exact SeqAt.notIn_list_data r2 r1 pds pd (by omega) ⟨.bl _,H,I,rfl,q⟩
  · obtain ⟨bs,r2⟩:=Dp.reads I (.tuple ds) (.ref p) u (.tup hs hds) ry
    exact SeqAt.notIn_tuple_data r2 r1 pds pd (by omega) ⟨.bl _,H,I,rfl,q⟩
theorem op_inS:OpR X (compareOp .In) (rInS false):=op_in_sign
theorem op_notInS:OpR X (compareOp .NotIn) (rInS true):=op_notIn_sign
def rIn3 (c:Ct) (neg:Bool):R2:=fun x y H Q=>rInP c.K neg x y H Q ∨ (rInS neg x y H Q ∨ (rInK c neg x y H Q ∨ rInT c neg x y H Q))
def aIn3 (neg:Bool) (a b:AV) (h:AH):Option (AV × AH):=orO (aInD neg a b h) (orO (aInS neg a b h) (aInK neg a b h))
abbrev aIn:=aIn3 false
abbrev aNotIn:=aIn3 true
theorem s_in {c:Ct} {neg:Bool}:Snd2 c (rIn3 c neg) (aIn3 neg):=(snd_inD neg).or ((snd_inS neg).or (snd_inK neg))
theorem o_in (hu:X.A.units + 64 < cLine):OpR X (compareOp .In) (rIn3 (ctX X cl) false):=(op_inP hu).or (op_inS.or ((op_inK hu).or op_inT))
theorem o_notIn (hu:X.A.units + 64 < cLine):OpR X (compareOp .NotIn) (rIn3 (ctX X cl) true):=(op_notInP hu).or (op_notInS.or ((op_notInK hu).or op_notInT))
theorem s_eq {c:Ct}:Snd2 c (rEqP c.K) aEq:=snd_eq
end
end Rp
end
section
namespace Rp
open PySem PySem.Spec PyProof.Rows L2
def aIxQ (a b:AV) (h:AH):Option (AV × AH):=match look h a,b with
  | some (.lst,xs),.int i=>(atI xs i).bind fun v=>some (v,h)
  | some (.tup,xs),.int i=>(atI xs i).bind fun v=>some (v,h)
  | _,_=>none
def aIxS (a b:AV) (h:AH):Option (AV × AH):=match a,b with
  | .str z,.int i=>if z.length ≤ sizeLine then (atI z.cps.toList i).bind fun c=>some (.str ⟨#[c]⟩,h) else none
  | _,_=>none
def aIxK (a b:AV) (h:AH):Option (AV × AH):=match dLook h a,b with
  | some (ks,xs),.str z=>(kIx ks (.inr z)).bind fun i=>(xs[i]?).bind fun v=>some (v,h)
  | _,_=>none
def aIx (a b:AV) (h:AH):Option (AV × AH):=orO (aIxQ a b h) (orO (aIxS a b h) (aIxK a b h))
theorem atI_rep {c:Ct} {w:Wd} {xs:List AV} {us:List V} (r:RepL c w xs us) {i:Int} {v:AV} (e:atI xs i = some v):∃ u,atI us i = some u ∧ RepV c w v u:=by
  unfold atI at e ⊢
  obtain ⟨j,e1,e2⟩:=bind_some e
  obtain ⟨u,e3,e4⟩:=r.get e2
  exact ⟨u,by rw [← r.len,e1]; exact e3,e4⟩
def rIxK (c:Ct):R2:=fun x y H Q=>∃ p ks us z v i,x = .ref p ∧ y = .str z ∧ DRd c H p ks us ∧ kIx ks (.inr z) = some i ∧ us[i]? = some v ∧ Q v H
def rIxA (c:Ct):R2:=fun x y H Q=>(rIxL c.K x y H Q ∨ rIxT c.K x y H Q) ∨ (rIxS x y H Q ∨ rIxK c x y H Q)
theorem s_ix {c:Ct}:Snd2 c (rIxA c) aIx:=by
  intro w H h a b u y v h' Q S ra rb e k
  have fin:∀ {z:V},RepV c w v z → h' = h → Q z H:=fun {z} r e=>k w H z (by rw [e]; exact .refl _ _ _) (by rw [e]; exact S) r
  unfold aIx orO at e
  split at e
  · rename_i x hx
    cases e
    unfold aIxQ at hx
    split at hx
    · rename_i xs i ha
      obtain ⟨z,e1,e2⟩:=bind_some hx
      cases e2
      obtain ⟨p,us,rfl,n,l⟩:=look_ok S ra ha
      obtain ⟨t,e3,e4⟩:=atI_rep l e1
      exact .inl (.inl ⟨p,us,i,t,rfl,rb,SqL.of n,e3,fin e4 rfl⟩)
    · rename_i xs i ha
      obtain ⟨z,e1,e2⟩:=bind_some hx
      cases e2
      obtain ⟨p,us,rfl,n,l⟩:=look_ok S ra ha
      obtain ⟨t,e3,e4⟩:=atI_rep l e1
      exact .inl (.inr ⟨p,us,i,t,rfl,rb,n,e3,fin e4 rfl⟩)
    · cases hx
  · split at e
    · rename_i x hx
      cases e
      cases a with
      | str z =>
        cases b with
        | int i =>
          have hx':(if z.length ≤ sizeLine then (atI z.cps.toList i).bind fun c=>some (AV.str ⟨#[c]⟩,h) else none) = some (v,h'):=hx
          split at hx'
          · rename_i hz
            obtain ⟨d,e1,e2⟩:=bind_some hx'
            cases e2
            exact .inr (.inl ⟨z,i,d,ra,rb,hz,e1,fin rfl rfl⟩)
          · cases hx'
        | _=>cases hx
      | _=>cases hx
    · unfold aIxK at e
      cases q:dLook h a with
      | none=>rw [q] at e; cases e
      | some r =>
        obtain ⟨ks,xs⟩:=r
        rw [q] at e
        cases b with
        | str z =>
          obtain ⟨i,e1,e2⟩:=bind_some e
          obtain ⟨d,e3,e4⟩:=bind_some e2
          cases e4
          obtain ⟨p,us,rfl,hd,l⟩:=dLook_ok S ra q
          obtain ⟨t,e5,e6⟩:=l.get e3
          exact .inr (.inr ⟨p,ks,us,z,t,i,rfl,rb,hd,e1,e5,fin e6 rfl⟩)
        | _=>cases e
section
variable {X:Cx} {cl:Nat → Str × List Str}
theorem ix_K (hu:X.A.units + 64 < cLine):IxR X (rIxK (ctX X cl)):=by
  intro value slice pins s σ H x y v u Q I rx ry h hs
  obtain ⟨p,ks,us,z,t,i,rfl,rfl,⟨hl,hd⟩,hi,ht,q⟩:=h
  rcases hd with hd | hd
  · obtain rfl:v = Value.ref p:=rx
    have g:DGet H p (.str z) (some t):=.inl ⟨_,.inr z,hd,rfl,by rw [valV_zip ks us _ hl,hi]; exact ht.symm⟩
    exact tail_any (dict_typeIs I g) slot_dict_getitem.lookup (d_getItem (A:=X.A) (by omega) I g ry fun w' s' I' r' => ⟨t,H,I',r',q⟩) hs
  · obtain ⟨_,es,n,D,lk⟩:=hd
    obtain ⟨r,e1,e2⟩:=lk z
    rw [hi] at e2
    have e3:RelO (some t) r:=by
      have:((some i).bind fun i=>us[i]?) = some t:=ht
      rw [this] at e2
      exact e2
    obtain ⟨u0,e4,e5⟩:=e3.some_of
    subst e4
    exact ix_kdict value slice pins s σ H _ _ v u Q I rx ry ⟨p,z,t,rfl,rfl,⟨es,n,u0,D.at_,D.lit,e1,e5⟩,q⟩ hs
theorem ix_A (hu:X.A.units + 64 < cLine):IxR X (rIxA (ctX X cl)):=(ix_list.or ix_tup).or (ix_str.or (ix_K hu))
variable {pos p2:Pos} {a b:Expr} {f g:AE}
theorem ae_ix (hu:X.A.units + 64 < cLine) (ha:PE X a (tA (ctX X cl) f)) (hb:PE X b (tA (ctX X cl) g)) (hs:PlainIx b:=by exact fun _ _=>rfl):PE X (.Subscript a b pos) (tA (ctX X cl) (aOp2 aIx f g)) :=
  (pe_ix (ix_A hu) ha hb hs).wk fun _ _ _ q=>tOp_of s_ix q
end
abbrev AO:=LS → AH → Option (Option Int × AH)
def tO (c:Ct) (f:AO):TO:=fun σ H Q=>∃ w s h v h',RepS c w s σ ∧ SR c w H h ∧ f s h = some (v,h') ∧ ∀ w' H',Tr w H h w' H' h' → SR c w' H' h' → Q v H'
def aNo:AO:=fun _ h=>some (none,h)
def aPart (f:AE):AO:=fun s h=>(f s h).bind fun r=>match r.1 with
  | .int i=>some (some i,r.2)
  | _=>none
def cutA {α:Type} (xs:List α) (lo hi:Option Int):List α:=(xs.drop (HT.sIx xs.length 0 lo)).take (HT.sIx xs.length xs.length hi - HT.sIx xs.length 0 lo)
def aSl (mk:Kd → List AV → AH → Option (AV × AH)) (v:AV) (lo hi:Option Int) (h:AH):Option (AV × AH):=match v with
  | .str z=>if z.length ≤ sizeLine then some (.str (cutS z lo hi),h) else none
  | v=>match look h v with
    | some (.lst,xs)=>mk .lst (cutA xs lo hi) h
    | some (.scr,xs)=>mk .lst (cutA xs lo hi) h
    | some (.tup,xs)=>if HT.sIx xs.length 0 lo = 0 ∧ HT.sIx xs.length xs.length hi = xs.length then some (.nod .tup xs,h) else mkF .tup (cutA xs lo hi) h
    | _=>none
def aSlice (mk:Kd → List AV → AH → Option (AV × AH)) (f:AE) (lo hi:AO):AE:=fun s h=>(f s h).bind fun r=>(lo s r.2).bind fun l=>(hi s l.2).bind fun u=>aSl mk r.1 l.1 u.1 u.2
def mkOk (mk:Kd → List AV → AH → Option (AV × AH)):Prop:=mk = mkF ∨ mk = mkM
theorem mk_ok {mk:Kd → List AV → AH → Option (AV × AH)} (hm:mkOk mk) {c:Ct} {w:Wd} {H:Hp} {h h':AH} (S:SR c w H h) {xs:List AV} {us:List V} {v:AV} (r:RepL c w xs us) (e:mk .lst xs h = some (v,h')) :
    us.length ≤ sizeLine ∧ ∀ p,H p = none → ∃ w',SR c w' (upd H p (.lst us)) h' ∧ Tr w H h w' (upd H p (.lst us)) h' ∧ RepV c w' v (.ref p):=by
  rcases hm with rfl | rfl
  · unfold mkF at e
    split at e
    · rename_i hz
      cases e
      exact ⟨by rw [← r.len]; exact hz,fun p hp=>S.newF (k:=.lst) hp r fun R e=>e⟩
    · cases e
  · unfold mkM at e
    split at e
    · rename_i hz
      cases e
      exact ⟨by rw [← r.len]; exact hz,fun p hp=>S.newM (k:=.lst) hp r fun R e=>e⟩
    · cases e
theorem cut_rep {c:Ct} {w:Wd} {xs:List AV} {us:List V} (r:RepL c w xs us) (lo hi:Option Int):RepL c w (cutA xs lo hi) (cutV us lo hi):=by
  unfold cutA cutV
  rw [r.len]
  exact (r.drop _).take _
section
variable {X:Cx} {cl:Nat → Str × List Str} {pos p2:Pos} {e:Expr} {lo hi:Option Expr} {f g:AE} {l u:AO}
theorem ao_none:PO X none (tO (ctX X cl) aNo):=⟨fun pins s σ H Q I q=>by
  obtain ⟨w,s1,h,v,h',rs,sr,e,k⟩:=q
  cases e
  exact po_none.run pins s σ H Q I (k w H (.refl _ _ _) sr)⟩
theorem ao_some (h:PE X e (tA (ctX X cl) f)):PO X (some e) (tO (ctX X cl) (aPart f)):=⟨fun pins s σ H Q I q=>by
  refine (po_some h).run pins s σ H Q I ?_
  obtain ⟨w,s1,h,v,h',rs,sr,e,k⟩:=q
  obtain ⟨⟨a,h1⟩,e1,e⟩:=bind_some e
  cases a with
  | int i =>
    cases e
    exact ⟨w,s1,h,_,_,rs,sr,e1,fun w' H' z t s2 r=>⟨i,r,k w' H' t s2⟩⟩
  | _=>cases e⟩
theorem ae_slice {mk:Kd → List AV → AH → Option (AV × AH)} (hm:mkOk mk) (he:PE X e (tA (ctX X cl) f)) (hl:PO X lo (tO (ctX X cl) l)) (hu:PO X hi (tO (ctX X cl) u)):PE X (.Subscript e (.Slice lo hi none p2) pos) (tA (ctX X cl) (aSlice mk f l u)):=by
  have hr:SlR X (fun x lo hi H Q=>rSlS x lo hi H Q ∨ (rSlL X.K x lo hi H Q ∨ rSlA X.K x lo hi H Q)):=sl_str.or (sl_list.or sl_tupA)
  refine (pe_slice hr he hl hu).wk fun σ H Q q=>?_
  obtain ⟨w,s1,h,v,h',rs,sr,e,k⟩:=q
  obtain ⟨⟨a,h1⟩,e1,e⟩:=bind_some e
  obtain ⟨⟨lo',h2⟩,e2,e⟩:=bind_some e
  obtain ⟨⟨hi',h3⟩,e3,e⟩:=bind_some e
  refine ⟨w,s1,h,a,h1,rs,sr,e1,fun w1 H1 x t1 sr1 r1=>⟨w1,s1,h1,lo',h2,rs.le t1.le,sr1,e2,fun w2 H2 t2 sr2=>⟨w2,s1,h2,hi',h3,(rs.le t1.le).le t2.le,sr2,e3,fun w3 H3 t3 sr3=>?_⟩⟩⟩
  have r3:RepV (ctX X cl) w3 a x:=RepV.le (t2.trans t3).le _ _ r1
  have t13:=t1.trans (t2.trans t3)
  have seq:∀ {kd:Kd} {xs:List AV},look h3 a = some (kd,xs) → (kd = .lst ∨ kd = .scr) → mk .lst (cutA xs lo' hi') h3 = some (v,h') → rSlL X.K x lo' hi' H3 Q:=fun {kd xs} ha hk e=>by
    obtain ⟨p,us,rfl,n,lr⟩:=look_ok sr3 r3 ha
    obtain ⟨_,hn⟩:=mk_ok hm sr3 (cut_rep lr lo' hi') e
    have hq:SqL X.K H3 p us:=by
      rcases hk with rfl | rfl
      · exact SqL.of n
      · exact n
    refine ⟨p,us,rfl,hq,fun z hz=>?_⟩
    obtain ⟨w4,s4,t4,r4⟩:=hn z hz
    exact k w4 _ _ (t13.trans t4) s4 r4
  have nonstr:∀ (e:(match look h3 a with
    | some (.lst,xs)=>mk .lst (cutA xs lo' hi') h3
    | some (.scr,xs)=>mk .lst (cutA xs lo' hi') h3
    | some (.tup,xs)=>if HT.sIx xs.length 0 lo' = 0 ∧ HT.sIx xs.length xs.length hi' = xs.length then some (.nod .tup xs,h3) else mkF .tup (cutA xs lo' hi') h3
    | _=>none) = some (v,h')),rSlL X.K x lo' hi' H3 Q ∨ rSlA X.K x lo' hi' H3 Q:=fun e=>by
    split at e
    · rename_i xs ha; exact .inl (seq ha (.inl rfl) e)
    · rename_i xs ha; exact .inl (seq ha (.inr rfl) e)
    · rename_i xs ha
      obtain ⟨p,us,rfl,n,lr⟩:=look_ok sr3 r3 ha
      split at e
      · rename_i hz
        cases e
        rw [lr.len] at hz
        refine .inr ⟨p,us,rfl,n,fun _=>k w3 H3 _ t13 sr3 ?_,fun hn=>absurd hz hn⟩
        cases a with
        | nod k' xs' =>
          have e':some (k',xs') = some (.tup,xs):=ha
          cases e'
          exact r3
        | ref m =>
          obtain ⟨p',us',e1,nm,l1⟩:=sr3.cell m _ _ ha
          exact nm.elim
        | _=>cases ha
      · rename_i hz
        rw [lr.len] at hz
        unfold mkF at e
        split at e
        · cases e
          refine .inr ⟨p,us,rfl,n,fun hn=>absurd hn hz,fun _ z hz' => ?_⟩
          obtain ⟨w4,s4,t4,r4⟩:=sr3.newF (k:=.tup) hz' (cut_rep lr lo' hi') fun R e=>SqT.of e
          exact k w4 _ _ (t13.trans t4) s4 r4
        · cases e
    · cases e
  cases a with
  | str z =>
    have e':(if z.length ≤ sizeLine then some (AV.str (cutS z lo' hi'),h3) else none) = some (v,h'):=e
    split at e'
    · rename_i hz
      cases e'
      exact .inl ⟨z,r3,hz,k w3 H3 _ t13 sr3 rfl⟩
    · cases e'
  | _=>exact .inr (nonstr e)
end
end Rp
end
section
namespace Rp
open PySem PySem.Spec PyProof.Rows L2
def aFldV (k j:Nat) (a:AV) (h:AH):Option (AV × AH):=match look h a with
  | some (.ins k',xs)=>if k' = k then (xs[j]?).bind fun v=>some (v,h) else none
  | _=>none
def aFld (k j:Nat) (f:AE):AE:=aOp1 (aFldV k j) f
section
variable {X:Cx} {cl:Nat → Str × List Str} {pos:Pos} {e:Expr} {f:AE}
end
abbrev AF:=List AV → AH → Option (AV × AH)
def spA (c:Ct) (n:Nat) (F:AF):Sp:=fun vs H Q _=>∃ w h as v h',as.length = n ∧ RepL c w as vs ∧ SR c w H h ∧ F as h = some (v,h') ∧
  ∀ w' H' u,Tr w H h w' H' h' → SR c w' H' h' → RepV c w' v u → Q u H'
section
variable (P:Program) (w:World) (K:PySem.W.Frag) (mg:Str → Option Value) (base:Heap) (cl:Nat → Str × List Str)
def CalF (k:Nat) (x:Str) (n:Nat) (das:List AV) (F:AF):Prop:=∃ f fd ps ds dvs,mg x = some (.ref f) ∧ PySem.W.keepIn K (.ref f) = true ∧ FnOk P w K mg base CX0 k f fd ps (spA ⟨K,w,mg,cl⟩ n F) ∧ Binds K fd ps ds ∧ Vals dvs ds ∧ ∀ wd,RepL ⟨K,w,mg,cl⟩ wd das dvs
end
def aCall (F:AF) (das:List AV) (g:AA):AE:=aArgs (fun as h=>F (as ++ das) h) g
def aMeth (c:Nat) (F:AF) (das:List AV) (f:AE) (g:AA):AE:=fun s h=>(f s h).bind fun r=>match look r.2 r.1 with
  | some (.ins c',_)=>if c' = c then (g s r.2).bind fun q=>F (r.1 :: (q.1 ++ das)) q.2 else none
  | _=>none
def aMake (c:Nat) (F:AF) (das:List AV) (g:AA):AE:=fun s h=>(g s h).bind fun q=>(F (.ref q.2.next :: (q.1 ++ das)) (q.2.new (.ins c,[]))).bind fun r=>match r.1 with
  | .non=>some (.ref q.2.next,r.2)
  | _=>none
section
variable {X:Cx} {cl:Nat → Str × List Str} {pos p apos:Pos} {e o:Expr} {es:List Expr} {f:AE} {g:AA} {k n:Nat} {x m:Str} {das:List AV} {F:AF}
theorem tCall_of {c:Ct} {dvs:List V} (hd:∀ wd,RepL c wd das dvs) {σ:L2.St} {H:Hp} {Q:VK} (hn:∀ as h r,F as h = some r → as.length = n) (q:tA c (aCall F das g) σ H Q):tCall (spA c n F) dvs E0 (tAs c g) σ H Q:=by
  obtain ⟨w,s,h,v,h',rs,sr,e,kk⟩:=q
  obtain ⟨⟨as,h1⟩,e1,e⟩:=bind_some e
  refine ⟨w,s,h,as,h1,rs,sr,e1,fun w1 H1 us t1 s1 r1=>⟨w1,h1,as ++ das,v,h',hn _ _ _ e,r1.append (hd w1),s1,e,fun w2 H2 u t2 s2 r2=>kk w2 H2 u (t1.trans t2) s2 r2⟩⟩
def lenF (n:Nat) (F:AF):AF:=fun as h=>if as.length = n then F as h else none
theorem lenF_len {n:Nat} {F:AF} {as:List AV} {h:AH} {r:AV × AH} (e:lenF n F as h = some r):as.length = n ∧ F as h = some r:=by
  unfold lenF at e
  split at e
  · rename_i hl
    exact ⟨hl,e⟩
  · cases e
theorem ae_call (C:CalF X.prog X.w X.K X.mg X.base cl k x n das (lenF n F)) (hr:Room k X.A) (ha:PA X (e :: es) (tAs (ctX X cl) g)) (hg:Gl X x:=by rfl) (hx:Passes CX0 X E0:=by exact pass0) (hdb:(x == ("__debug__" : Str)) = false:=by decide)
    (he:starEach (e :: es) X.env = (false,eval e X.env) :: starEach es X.env:=by rfl) (hpl:(backTo pos (starEach es X.env)).any (·.1) = false:=by rfl):PE X (.Call (.Name x p) (e :: es) [] pos) (tA (ctX X cl) (aCall (lenF n F) das g)):=by
  obtain ⟨f,fd,ps,ds,dvs,h1,h2,h3,h4,h5,h6⟩:=C
  exact (pe_call h3 hr hg h1 h2 h4 h5 hx ha hdb he hpl).wk fun _ _ _ q=>tCall_of h6 (fun _ _ _ e=>(lenF_len e).1) q
end
section
variable {X:Cx} {cl:Nat → Str × List Str} {pos p apos:Pos} {e o:Expr} {es:List Expr} {f:AE} {g:AA} {x id T:String}
theorem ae_blt {x:Str} {id:String} {r:List V → Hp → VK → Prop} {op:List AV → AH → Option (AV × AH)} (hc:CallR X (.builtin id) r) (hs:SndN (ctX X cl) r op) (hm:X.mg x = none) (hv:bootBuiltins x = some (.builtin id)) (ha:PA X (e :: es) (tAs (ctX X cl) g)) (hg:Gl X x:=by rfl) (hn:x ≠ "__name__" := by decide) (hdb:(x == ("__debug__" : Str)) = false:=by decide)
    (he:starEach (e :: es) X.env = (false,eval e X.env) :: starEach es X.env:=by rfl) (hpl:(backTo pos (starEach es X.env)).any (·.1) = false:=by rfl):PE X (.Call (.Name x p) (e :: es) [] pos) (tA (ctX X cl) (aArgs op g)) :=
  (pe_callB hc hg hm hv ha hn hdb he hpl).wk fun _ _ _ q=>tCB_of hs q
theorem ae_ty {x:Str} {T:String} {r:List V → Hp → VK → Prop} {op:List AV → AH → Option (AV × AH)} (hc:CallR X (.type T) r) (hs:SndN (ctX X cl) r op) (hm:X.mg x = none) (hv:bootBuiltins x = some (.type T)) (ha:PA X (e :: es) (tAs (ctX X cl) g)) (hg:Gl X x:=by rfl) (hn:x ≠ "__name__" := by decide) (hdb:(x == ("__debug__" : Str)) = false:=by decide)
    (he:starEach (e :: es) X.env = (false,eval e X.env) :: starEach es X.env:=by rfl) (hpl:(backTo pos (starEach es X.env)).any (·.1) = false:=by rfl):PE X (.Call (.Name x p) (e :: es) [] pos) (tA (ctX X cl) (aArgs op g)) :=
  (pe_callTy hc hg hm hv ha hn hdb he hpl).wk fun _ _ _ q=>tCB_of hs q
def tyOk (T:String) (a:AV) (h:AH):Bool:=match a with
  | .str _=>T == "str"
  | .int _=>T == "int"
  | a=>match look h a with
    | some (.lst,_)=>T == "list"
    | some (.scr,_)=>T == "list"
    | some (.dct _,_)=>T == "dict"
    | _=>false
def aBM (T:String) (op:AV → List AV → AH → Option (AV × AH)) (f:AE) (g:AA):AE:=fun s h=>(f s h).bind fun r=>if tyOk T r.1 r.2 = true then (g s r.2).bind fun q=>op r.1 q.1 q.2 else none
theorem tBM_of {c:Ct} {T:String} (hT:T = "str" ∨ T = "list" ∨ T = "int") {r:V → List V → Hp → VK → Prop} {op:AV → List AV → AH → Option (AV × AH)} (hs:SndM c r op) {σ:L2.St} {H:Hp} {Q:VK} (q:tA c (aBM T op f g) σ H Q):tBM c.K T r (tA c f) (tAs c g) σ H Q:=by
  obtain ⟨w,s,h,v,h',rs,sr,e,kk⟩:=q
  obtain ⟨⟨z,h1⟩,e1,e⟩:=bind_some e
  split at e
  · rename_i ht
    obtain ⟨⟨as,h2⟩,e2,e⟩:=bind_some e
    refine ⟨w,s,h,z,h1,rs,sr,e1,fun w1 H1 u t1 s1 r1=>⟨?_,w1,s,h1,as,h2,rs.le t1.le,s1,e2,fun w2 H2 vs t2 s2 r2=>?_⟩⟩
    · have go:∀ (kd:Kd) (xs:List AV),look h1 z = some (kd,xs) → (kd = .lst ∨ kd = .scr) → T = "list" → tyV c.K T u H1:=fun kd xs hl hk hT=>by
        obtain ⟨p,us,rfl,n,l⟩:=look_ok s1 r1 hl
        refine .inl ⟨hT,us,?_⟩
        rcases hk with rfl | rfl
        · exact SqL.of n
        · exact n
      have rest:(match look h1 z with
        | some (.lst,_)=>T == "list"
        | some (.scr,_)=>T == "list"
        | some (.dct _,_)=>T == "dict"
        | _=>false) = true → tyV c.K T u H1:=fun ht=>by
        split at ht
        · rename_i xs hl; exact go _ xs hl (.inl rfl) (eq_of_beq ht)
        · rename_i xs hl; exact go _ xs hl (.inr rfl) (eq_of_beq ht)
        · have hd:T = "dict" := eq_of_beq ht
          rcases hT with q | q | q <;> (rw [hd] at q; exact absurd q (by decide))
        · cases ht
      cases z with
      | str y=>rw [show u = _ from r1]; exact eq_of_beq ht
      | int y=>rw [show u = _ from r1]; exact eq_of_beq ht
      | _=>exact rest ht
    · exact hs w2 H2 h2 z u as vs v h' Q s2 (RepV.le t2.le _ _ r1) r2 e fun w3 H3 y t3 s3 r3=>kk w3 H3 y (t1.trans (t2.trans t3)) s3 r3
  · cases e
end
end Rp
end
section
namespace Rp
open PySem PySem.Spec PyProof.Rows L2
def one (o:AV → AH → Option (AV × AH)):List AV → AH → Option (AV × AH)
  | [a],h=>o a h
  | _,_=>none
def two (o:AV → AV → AH → Option (AV × AH)):List AV → AH → Option (AV × AH)
  | [a,b],h=>o a b h
  | _,_=>none
theorem snd_one {c:Ct} {r:List V → Hp → VK → Prop} {o:AV → AH → Option (AV × AH)} (hs:Snd1 c (fun x H Q=>r [x] H Q) o):SndN c r (one o):=by
  intro w H h as us v h' Q S r e k
  cases as with
  | nil=>cases e
  | cons a t =>
    cases t with
    | cons b t=>cases e
    | nil =>
      obtain ⟨u,us',rfl,r1,r2⟩:=r
      have r2':us' = []:=r2
      subst r2'
      exact hs w H h a u v h' Q S r1 e k
theorem snd_two {c:Ct} {r:List V → Hp → VK → Prop} {o:AV → AV → AH → Option (AV × AH)} (hs:Snd2 c (fun x y H Q=>r [x,y] H Q) o):SndN c r (two o):=by
  intro w H h as us v h' Q S r e k
  cases as with
  | nil=>cases e
  | cons a t =>
    cases t with
    | nil=>cases e
    | cons b t =>
      cases t with
      | cons d t=>cases e
      | nil =>
        obtain ⟨u,us',rfl,r1,u2,us2,rfl,r2,r3⟩:=r
        have r3':us2 = []:=r3
        subst r3'
        exact hs w H h a b u u2 v h' Q S r1 r2 e k
theorem Snd1.or {c:Ct} {r r':V → Hp → VK → Prop} {o o':AV → AH → Option (AV × AH)} (h:Snd1 c r o) (h':Snd1 c r' o'):Snd1 c (fun x H Q=>r x H Q ∨ r' x H Q) (fun a g=>orO (o a g) (o' a g)):=by
  intro w H g a u v h1 Q S ra e k
  have e':orO (o a g) (o' a g) = some (v,h1):=e
  cases q:o a g with
  | some x =>
    rw [q] at e'
    have:x = (v,h1):=Option.some.inj e'
    subst this
    exact .inl (h w H g a u v h1 Q S ra q k)
  | none =>
    rw [q] at e'
    exact .inr (h' w H g a u v h1 Q S ra e' k)
def seqOf (h:AH) (a:AV):Option (List AV):=match look h a with
  | some (.lst,xs)=>some xs
  | some (.tup,xs)=>some xs
  | some (.scr,xs)=>some xs
  | _=>none
theorem seqOf_ok {c:Ct} {w:Wd} {H:Hp} {h:AH} (S:SR c w H h) {a:AV} {u:V} {xs:List AV} (r:RepV c w a u) (e:seqOf h a = some xs):∃ p us,u = .ref p ∧ (SqL c.K H p us ∨ SqT c.K H p us) ∧ RepL c w xs us:=by
  unfold seqOf at e
  split at e
  · rename_i ys q
    cases e
    obtain ⟨p,us,e1,n,l⟩:=look_ok S r q
    exact ⟨p,us,e1,.inl (SqL.of n),l⟩
  · rename_i ys q
    cases e
    obtain ⟨p,us,e1,n,l⟩:=look_ok S r q
    exact ⟨p,us,e1,.inr n,l⟩
  · rename_i ys q
    cases e
    obtain ⟨p,us,e1,n,l⟩:=look_ok S r q
    exact ⟨p,us,e1,.inl n,l⟩
  · cases e
def lstOf (h:AH) (a:AV):Option (List AV):=match look h a with
  | some (.lst,xs)=>some xs
  | _=>none
theorem lstOf_ok {c:Ct} {w:Wd} {H:Hp} {h:AH} (S:SR c w H h) {a:AV} {u:V} {xs:List AV} (r:RepV c w a u) (e:lstOf h a = some xs):∃ p us,u = .ref p ∧ H p = some (.lst us) ∧ RepL c w xs us:=by
  unfold lstOf at e
  split at e
  · rename_i ys q
    cases e
    obtain ⟨p,us,e1,n,l⟩:=look_ok S r q
    exact ⟨p,us,e1,n,l⟩
  · cases e
def dctOf (h:AH) (a:AV):Option (List Key × List AV):=match look h a with
  | some (.dct ks,xs)=>some (ks,xs)
  | some (.ldct ks,xs)=>some (ks,xs)
  | _=>none
theorem dctOf_ok {c:Ct} {w:Wd} {H:Hp} {h:AH} (S:SR c w H h) {a:AV} {u:V} {ks:List Key} {xs:List AV} (r:RepV c w a u) (e:dctOf h a = some (ks,xs)):∃ p us,u = .ref p ∧ ks.length = us.length ∧ Rd H p (.dK (ks.zip us)) ∧ RepL c w xs us:=by
  unfold dctOf at e
  split at e
  · rename_i ks' ys q
    cases e
    obtain ⟨p,us,e1,n,l⟩:=look_ok S r q
    exact ⟨p,us,e1,n.1,n.2,l⟩
  · rename_i ks' ys q
    cases e
    obtain ⟨p,us,e1,n,l⟩:=look_ok S r q
    exact ⟨p,us,e1,n.1,n.2,l⟩
  · cases e
def lenS (a:AV) (h:AH):Option (AV × AH):=match a with
  | .str z=>if z.length ≤ sizeLine then some (.int z.length,h) else none
  | _=>none
def lenQ (a:AV) (h:AH):Option (AV × AH):=(seqOf h a).bind fun xs=>some (.int xs.length,h)
def lenD (a:AV) (h:AH):Option (AV × AH):=(dctOf h a).bind fun q=>some (.int q.1.length,h)
def aLenV (a:AV) (h:AH):Option (AV × AH):=orO (orO (lenS a h) (lenQ a h)) (lenD a h)
def rLen2 (K:PySem.W.Frag):List V → Hp → VK → Prop:=fun xs H Q=>(∃ x n,xs = [x] ∧ LenV K x H n ∧ Q (.int n) H) ∨ (∃ p kvs,xs = [.ref p] ∧ Rd H p (.dK kvs) ∧ Q (.int (kvs.length:Nat)) H)
theorem s_len {c:Ct}:SndN c (rLen2 c.K) (one aLenV):=by
  refine snd_one (Snd1.or ?_ ?_)
  · intro w H h a u v h' Q S r e k
    have e':orO (lenS a h) (lenQ a h) = some (v,h'):=e
    unfold orO at e'
    split at e'
    · rename_i x hx
      cases e'
      unfold lenS at hx
      split at hx
      · split at hx
        · rename_i z hz
          cases hx
          rw [show u = _ from r]
          exact ⟨_,z.length,rfl,⟨hz,rfl⟩,k w H _ (.refl _ _ _) S rfl⟩
        · cases hx
      · cases hx
    · obtain ⟨xs,e1,e2⟩:=bind_some e'
      cases e2
      obtain ⟨p,us,rfl,n,l⟩:=seqOf_ok S r e1
      refine ⟨_,us.length,rfl,?_,k w H _ (.refl _ _ _) S (by rw [l.len]; rfl)⟩
      rcases n with n | n
      · exact .inl ⟨us,n,rfl⟩
      · exact .inr ⟨us,n,rfl⟩
  · intro w H h a u v h' Q S r e k
    obtain ⟨⟨ks,xs⟩,e1,e2⟩:=bind_some e
    cases e2
    obtain ⟨p,us,rfl,n1,n2,l⟩:=dctOf_ok S r e1
    exact ⟨p,_,rfl,n2,k w H _ (.refl _ _ _) S (by rw [List.length_zip,n1,Nat.min_self]; rfl)⟩
theorem c_len {X:Cx}:CallR X (.builtin "len") (rLen2 X.K):=by
  refine CallR.or call_len ?_
  intro pins s σ H xs us Q I r h
  obtain ⟨p,kvs,rfl,e,q⟩:=h
  obtain ⟨u,rfl,rx⟩:=vals1 r
  obtain rfl:u = Value.ref p:=rx
  exact d_len I e fun t s' I' => ⟨.int kvs.length,H,I',⟨t,rfl⟩,q⟩
def aIntV (a:AV) (h:AH):Option (AV × AH):=match a with
  | .int i=>some (.int i,h)
  | .bl b=>some (.int (if b = true then 1 else 0),h)
  | _=>none
theorem s_int {c:Ct}:SndN c (fun xs H Q=>(∃ i,xs = [.int i] ∧ Q (.int i) H) ∨ ∃ k,xs = [.bl k] ∧ Q (.int (if k then 1 else 0)) H) (one aIntV):=by
  refine snd_one ?_
  intro w H h a u v h' Q S r e k
  unfold aIntV at e
  split at e
  · cases e
    rw [show u = _ from r]
    exact .inl ⟨_,rfl,k w H _ (.refl _ _ _) S rfl⟩
  · cases e
    rw [show u = _ from r]
    exact .inr ⟨_,rfl,k w H _ (.refl _ _ _) S rfl⟩
  · cases e
def aStrV (a:AV) (h:AH):Option (AV × AH):=match a with
  | .int i=>if i.natAbs.log2 < 1920 then some (.str (toString i),h) else none
  | _=>none
theorem s_strI {c:Ct}:SndN c (fun xs H Q=>∃ i,xs = [.int i] ∧ i.natAbs.log2 < 1920 ∧ Q (.str (toString i)) H) (one aStrV):=by
  refine snd_one ?_
  intro w H h a u v h' Q S r e k
  unfold aStrV at e
  split at e
  · split at e
    · rename_i hz
      cases e
      rw [show u = _ from r]
      exact ⟨_,rfl,hz,k w H _ (.refl _ _ _) S rfl⟩
    · cases e
  · cases e
def aListV (mk:Kd → List AV → AH → Option (AV × AH)) (a:AV) (h:AH):Option (AV × AH):=(seqOf h a).bind fun xs=>mk .lst xs h
theorem s_list {c:Ct} {mk:Kd → List AV → AH → Option (AV × AH)} (hm:mkOk mk):SndN c (fun xs H Q=>∃ p ys,xs = [.ref p] ∧ (SqL c.K H p ys ∨ SqT c.K H p ys) ∧ ∀ l,H l = none → Q (.ref l) (upd H l (.lst ys))) (one (aListV mk)):=by
  refine snd_one ?_
  intro w H h a u v h' Q S r e k
  obtain ⟨xs,e1,e2⟩:=bind_some e
  obtain ⟨p,us,rfl,n,l⟩:=seqOf_ok S r e1
  obtain ⟨_,hn⟩:=mk_ok hm S l e2
  refine ⟨p,us,rfl,n,fun z hz=>?_⟩
  obtain ⟨w2,s2,t2,r2⟩:=hn z hz
  exact k w2 _ _ t2 s2 r2
def keyA:Key → AV
  | .inl i=>.int i
  | .inr x=>.str x
def aTupV (a:AV) (h:AH):Option (AV × AH):=match look h a with
  | some (.lst,xs)=>mkF .tup xs h
  | _=>none
theorem s_tup {c:Ct}:SndN c (fun xs H Q=>∃ p ys,xs = [.ref p] ∧ ((SqL c.K H p ys ∧ ∀ l,H l = none → Q (.ref l) (upd H l (.tup ys))) ∨ (SqT c.K H p ys ∧ Q (.ref p) H))) (one aTupV):=by
  refine snd_one ?_
  intro w H h a u v h' Q S r e k
  unfold aTupV at e
  split at e
  · rename_i xs hl
    unfold mkF at e
    split at e
    · cases e
      obtain ⟨p,us,rfl,n,l⟩:=look_ok S r hl
      refine ⟨p,us,rfl,.inl ⟨SqL.of n,fun z hz=>?_⟩⟩
      obtain ⟨w2,s2,t2,r2⟩:=S.newF (k:=.tup) hz l fun R e=>SqT.of e
      exact k w2 _ _ t2 s2 r2
    · cases e
  · cases e
def boolsOf:List AV → Option (List Bool)
  | []=>some []
  | .bl i :: xs=>(boolsOf xs).bind fun is=>some (i :: is)
  | _=>none
theorem boolsOf_ok:∀ {xs:List AV} {is:List Bool},boolsOf xs = some is → xs = is.map .bl
  | [],is,h=>by cases h; rfl
  | .bl i :: xs,is,h=>by
    obtain ⟨js,e1,e2⟩:=bind_some h
    cases e2
    rw [boolsOf_ok e1]; rfl
  | .non :: _,_,h=>by cases h
  | .int _ :: _,_,h=>by cases h
  | .str _ :: _,_,h=>by cases h
  | .ty _ :: _,_,h=>by cases h
  | .gl _ :: _,_,h=>by cases h
  | .ref _ :: _,_,h=>by cases h
  | .nod _ _ :: _,_,h=>by cases h
theorem boolsOf_map (is:List Bool):boolsOf (is.map .bl) = some is:=by
  induction is with
  | nil=>rfl
  | cons i is ih=>rw [List.map_cons]; show (boolsOf (is.map .bl)).bind _ = _; rw [ih]; rfl
theorem RepL.bls {c:Ct} {w:Wd}:∀ {is:List Bool} {us:List V},RepL c w (is.map AV.bl) us → us = is.map V.bl
  | [],_,r=>r
  | i :: is,us,r=>by
    obtain ⟨v,us',e,r1,r2⟩:=r
    rw [e,show v = _ from r1,RepL.bls r2]; rfl
def strsOf:List AV → Option (List Str)
  | []=>some []
  | .str i :: xs=>(strsOf xs).bind fun is=>some (i :: is)
  | _=>none
theorem strsOf_ok:∀ {xs:List AV} {is:List Str},strsOf xs = some is → xs = is.map .str
  | [],is,h=>by cases h; rfl
  | .str i :: xs,is,h=>by
    obtain ⟨js,e1,e2⟩:=bind_some h
    cases e2
    rw [strsOf_ok e1]; rfl
  | .non :: _,_,h=>by cases h
  | .bl _ :: _,_,h=>by cases h
  | .int _ :: _,_,h=>by cases h
  | .ty _ :: _,_,h=>by cases h
  | .gl _ :: _,_,h=>by cases h
  | .ref _ :: _,_,h=>by cases h
  | .nod _ _ :: _,_,h=>by cases h
theorem strsOf_map (is:List Str):strsOf (is.map .str) = some is:=by
  induction is with
  | nil=>rfl
  | cons i is ih=>rw [List.map_cons]; show (strsOf (is.map .str)).bind _ = _; rw [ih]; rfl
def aAllV (a:AV) (h:AH):Option (AV × AH):=(lstOf h a).bind fun xs=>(boolsOf xs).bind fun is=>some (.bl (is.all id),h)
theorem s_all {c:Ct}:SndN c (rAll c.K) (one aAllV):=by
  refine snd_one ?_
  intro w H h a u v h' Q S r e k
  obtain ⟨xs,e1,e2⟩:=bind_some e
  obtain ⟨is,e3,e4⟩:=bind_some e2
  cases e4
  obtain ⟨p,us,rfl,n,l⟩:=lstOf_ok S r e1
  rw [boolsOf_ok e3] at l
  exact ⟨p,is,rfl,by rw [← l.bls]; exact SqL.of n,k w H _ (.refl _ _ _) S rfl⟩
def tyN (h:AH) (a:AV):Option String:=match a with
  | .non=>some "NoneType"
  | .bl _=>some "bool"
  | .int _=>some "int"
  | .str _=>some "str"
  | a=>match look h a with
    | some (.lst,_)=>some "list"
    | some (.tup,_)=>some "tuple"
    | _=>none
theorem tyN_ok {c:Ct} {w:Wd} {H:Hp} {h:AH} (S:SR c w H h) {a:AV} {u:V} {T:String} (r:RepV c w a u) (e:tyN h a = some T):TyX c.K H u (.type T) ∧ (T = "NoneType" ∨ T = "bool" ∨ T = "int" ∨ T = "str" ∨ T = "list" ∨ T = "tuple"):=by
  have rest:(match look h a with
    | some (.lst,_)=>some "list"
    | some (.tup,_)=>some "tuple"
    | _=>none) = some T → TyX c.K H u (.type T) ∧ (T = "NoneType" ∨ T = "bool" ∨ T = "int" ∨ T = "str" ∨ T = "list" ∨ T = "tuple"):=fun e=>by
    split at e
    · rename_i xs hl
      cases e
      obtain ⟨p,us,rfl,n,l⟩:=look_ok S r hl
      exact ⟨.base (.lst n),.inr (.inr (.inr (.inr (.inl rfl))))⟩
    · rename_i xs hl
      cases e
      obtain ⟨p,us,rfl,n,l⟩:=look_ok S r hl
      refine ⟨?_,.inr (.inr (.inr (.inr (.inr rfl))))⟩
      rcases n with (n | ⟨o,n⟩) | ⟨o,its,m,n,n2,_⟩
      · exact .base (.tup n)
      · exact .fTuple n
      · exact .kTuple n n2
    · cases e
  cases a with
  | non=>cases e; rw [show u = _ from r]; exact ⟨.base .non,.inl rfl⟩
  | bl b=>cases e; rw [show u = _ from r]; exact ⟨.base (.bl b),.inr (.inl rfl)⟩
  | int b=>cases e; rw [show u = _ from r]; exact ⟨.base (.int b),.inr (.inr (.inl rfl))⟩
  | str b=>cases e; rw [show u = _ from r]; exact ⟨.base (.str b),.inr (.inr (.inr (.inl rfl)))⟩
  | _=>exact rest e
def isTy (T C:String):Bool:=T == C || (T == "bool" && C == "int")
def clsOk (C:String):Bool:=C == "bool" || (C == "int" || (C == "str" || (C == "list" || C == "tuple")))
theorem kit_all (K:PySem.W.Frag) (T C:String) (hT:T = "NoneType" ∨ T = "bool" ∨ T = "int" ∨ T = "str" ∨ T = "list" ∨ T = "tuple") (hC:clsOk C = true):PySem.W.kitOne K (.type T) (.type C) = some (isTy T C):=by
  unfold clsOk at hC
  simp only [Bool.or_eq_true,beq_iff_eq] at hC
  rcases hT with rfl | rfl | rfl | rfl | rfl | rfl <;> rcases hC with rfl | rfl | rfl | rfl | rfl <;> exact kit_ty (by decide +kernel)
def aIsi (a b:AV) (h:AH):Option (AV × AH):=match b with
  | .ty C=>if clsOk C = true then (tyN h a).bind fun T=>some (.bl (isTy T C),h) else none
  | _=>none
theorem s_isi {c:Ct}:SndN c (rIsi c.K) (two aIsi):=by
  refine snd_two ?_
  intro w H h a b u y v h' Q S ra rb e k
  cases b with
  | ty C =>
    have e':(if clsOk C = true then (tyN h a).bind fun T=>some (AV.bl (isTy T C),h) else none) = some (v,h'):=e
    split at e'
    · rename_i hC
      obtain ⟨T,e1,e2⟩:=bind_some e'
      cases e2
      obtain ⟨t1,t2⟩:=tyN_ok S ra e1
      rw [show y = _ from rb]
      exact ⟨u,.ty C,.type T,.type C,isTy T C,rfl,.ty C,t1,kit_all c.K T C t2 hC,k w H _ (.refl _ _ _) S rfl⟩
    · cases e'
  | _=>cases e
end Rp
end
section
namespace Rp
open PySem PySem.Spec PyProof.Rows L2
def cellL (h:AH) (a:AV):Option (Nat × List AV):=match a with
  | .ref n=>match h.get n with
    | some (.lst,xs)=>some (n,xs)
    | _=>none
  | _=>none
theorem cellL_ok {c:Ct} {w:Wd} {H:Hp} {h:AH} (S:SR c w H h) {a:AV} {u:V} {n:Nat} {xs:List AV} (r:RepV c w a u) (e:cellL h a = some (n,xs)) :
    ∃ p us,u = .ref p ∧ H p = some (.lst us) ∧ RepL c w xs us ∧ ∀ (ys:List AV) (vs:List V),RepL c w ys vs → SR c w (upd H p (.lst vs)) (h.put n (.lst,ys)) ∧ Tr w H h w (upd H p (.lst vs)) (h.put n (.lst,ys)):=by
  cases a with
  | ref m =>
    have e':(match h.get m with
      | some (.lst,xs)=>some (m,xs)
      | _=>none) = some (n,xs):=e
    split at e'
    · rename_i ys q
      cases e'
      obtain ⟨p,us,e1,nm,l⟩:=S.cell _ _ _ q
      obtain ⟨p',e2,e3⟩:=r
      rw [e1] at e2
      cases e2
      exact ⟨p,us,e3,nm,l,fun zs vs r2=>S.write q e1 (show NodeM c _ p .lst vs from upd_same) r2⟩
    · cases e'
  | _=>cases e
def aAppend (a:AV) (as:List AV) (h:AH):Option (AV × AH):=(cellL h a).bind fun q=>match as with
  | [y]=>if q.2.length < sizeLine then some (.non,h.put q.1 (.lst,q.2 ++ [y])) else none
  | _=>none
theorem s_append {c:Ct}:SndM c rAppend aAppend:=by
  intro w H h a u as us v h' Q S ra rs e k
  obtain ⟨⟨n,xs⟩,e1,e2⟩:=bind_some e
  obtain ⟨p,vs,rfl,hH,l,wr⟩:=cellL_ok S ra e1
  split at e2
  · rename_i y
    split at e2
    · rename_i hz
      cases e2
      obtain ⟨z,us',rfl,r1,r2⟩:=rs
      have r2':us' = []:=r2
      subst r2'
      obtain ⟨s2,t2⟩:=wr (xs ++ [y]) (vs ++ [z]) (l.append (.cons r1 .nil))
      exact ⟨p,vs,z,rfl,rfl,hH,by rw [← l.len]; exact hz,k w _ _ t2 s2 rfl⟩
    · cases e2
  · cases e2
def aSplit (mk:Kd → List AV → AH → Option (AV × AH)) (a:AV) (as:List AV) (h:AH):Option (AV × AH):=match a,as with
  | .str x,[.str y]=>if (y.length == 0) = false ∧ x.length + 2 ≤ sizeLine then mk .lst ((Txt.split x y).map .str) h else none
  | _,_=>none
theorem s_split {c:Ct} {mk:Kd → List AV → AH → Option (AV × AH)} (hm:mkOk mk):SndM c (fun x xs H Q=>∃ a b,x = .str a ∧ xs = [.str b] ∧ (b.length == 0) = false ∧ a.length + 2 ≤ sizeLine ∧ rNewStrs (Txt.split a b) H Q) (aSplit mk):=by
  intro w H h a u as us v h' Q S ra rs e k
  cases a with
  | str x =>
    cases as with
    | nil=>cases e
    | cons b t =>
      cases t with
      | cons _ _=>cases b <;> cases e
      | nil =>
        cases b with
        | str y =>
          have e':(if (y.length == 0) = false ∧ x.length + 2 ≤ sizeLine then mk .lst ((Txt.split x y).map .str) h else none) = some (v,h'):=e
          split at e'
          · rename_i hz
            obtain ⟨z,us',rfl,r1,r2⟩:=rs
            have r2':us' = []:=r2
            subst r2'
            obtain ⟨_,hn⟩:=mk_ok hm S (RepL.mk_strs (is:=Txt.split x y)) e'
            rw [show u = _ from ra,show z = _ from r1]
            refine ⟨x,y,rfl,rfl,hz.1,hz.2,fun p hp=>?_⟩
            obtain ⟨w2,s2,t2,r3⟩:=hn p hp
            exact k w2 _ _ t2 s2 r3
          · cases e'
        | _=>cases e
  | _=>cases e
def aJoin (a:AV) (as:List AV) (h:AH):Option (AV × AH):=match a,as with
  | .str x,[y]=>(seqOf h y).bind fun xs=>(strsOf xs).bind fun ys=>if (ys.map (·.length)).sum + ys.length * x.length ≤ 16777216 then some (.str (Txt.join x ys),h) else none
  | _,_=>none
theorem s_join {c:Ct}:SndM c (fun x xs H Q=>∃ a p,∃ ys:List Str,x = .str a ∧ xs = [.ref p] ∧ (SqL c.K H p (ys.map V.str) ∨ SqT c.K H p (ys.map V.str)) ∧ (ys.map (·.length)).sum + ys.length * a.length ≤ 16777216 ∧ Q (.str (Txt.join a ys)) H) aJoin:=by
  intro w H h a u as us v h' Q S ra rs e k
  cases a with
  | str x =>
    cases as with
    | nil=>cases e
    | cons b t =>
      cases t with
      | cons _ _=>cases e
      | nil =>
        have e':((seqOf h b).bind fun xs=>(strsOf xs).bind fun ys=>if (ys.map (·.length)).sum + ys.length * x.length ≤ 16777216 then some (AV.str (Txt.join x ys),h) else none) = some (v,h'):=e
        obtain ⟨xs,e1,e2⟩:=bind_some e'
        obtain ⟨ys,e3,e4⟩:=bind_some e2
        split at e4
        · rename_i hz
          cases e4
          obtain ⟨z,us',rfl,r1,r2⟩:=rs
          have r2':us' = []:=r2
          subst r2'
          obtain ⟨p,vs,rfl,n,l⟩:=seqOf_ok S r1 e1
          rw [strsOf_ok e3] at l
          have l':=l.strs
          subst l'
          exact ⟨x,p,ys,ra,rfl,n,hz,k w H _ (.refl _ _ _) S rfl⟩
        · cases e4
  | _=>cases e
section
variable {X:Cx} {cl:Nat → Str × List Str} {pos apos cpos:Pos} {o e e2:Expr} {es:List Expr} {f f2 f3:AE} {g:AA}
theorem ae_bm {T id:String} {name:Str} {r:V → List V → Hp → VK → Prop} {op:AV → List AV → AH → Option (AV × AH)} (hT:T = "str" ∨ T = "list" ∨ T = "int") (pa:PlainAttrs T) (slot:Slot T name id) (hty:typeOf (.builtin id) = pure (.type "method_descriptor")) (hm:MtR X id r) (hs:SndM (ctX X cl) r op)
    (ho:PE X o (tA (ctX X cl) f)) (ha:PA X (e :: es) (tAs (ctX X cl) g)) (h:∀ {to:TE} {t:TA},PE X o to → PA X (e :: es) t → PE X (.Call (.Attribute o name apos) (e :: es) [] cpos) (tBM X.K T r to t):=by exact fun h1 h2=>pe_bm (by assumption) (by assumption) (by assumption) (by assumption) h1 h2) :
    PE X (.Call (.Attribute o name apos) (e :: es) [] cpos) (tA (ctX X cl) (aBM T op f g)):=(h ho ha).wk fun _ _ _ q=>tBM_of hT hs q
end
def dPut {α:Type} (ks:List Key) (xs:List α) (k:Key) (v:α):List Key × List α:=if (kIx ks k).isSome = true then (ks,List.zipWith (fun j x=>if j = k then v else x) ks xs) else (ks ++ [k],xs ++ [v])
theorem zip_map_fst {α:Type} (k:Key) (v:α):∀ (ks:List Key) (us:List α),ks.length = us.length → ((ks.zip us).map fun kv=>if kv.1 = k then (kv.1,v) else kv) = ks.zip (List.zipWith (fun j x=>if j = k then v else x) ks us)
  | [],us,_=>by simp
  | j :: ks,[],h=>by simp at h
  | j :: ks,u :: us,h=>by
    rw [List.zip_cons_cons,List.map_cons,List.zipWith_cons_cons,List.zip_cons_cons,zip_map_fst k v ks us (by simpa using h)]
    by_cases e:j = k
    · rw [if_pos e,if_pos e]
    · rw [if_neg e,if_neg e]
theorem any_kIx {α:Type} (k:Key):∀ (ks:List Key) (us:List α),ks.length = us.length → ((ks.zip us).any fun kv=>decide (kv.1 = k)) = (kIx ks k).isSome
  | [],us,_=>by simp [kIx]
  | j :: ks,[],h=>by simp at h
  | j :: ks,u :: us,h=>by
    rw [List.zip_cons_cons,List.any_cons,any_kIx k ks us (by simpa using h)]
    unfold kIx
    rw [List.findIdx?_cons]
    by_cases e:j = k
    · simp [e]
    · simp only [decide_eq_true_eq,e,if_false,decide_false,Bool.false_or]
      cases q:List.findIdx? (fun j=>decide (j = k)) ks <;> simp
theorem putK_zip (ks:List Key) (us:List V) (k:Key) (v:V) (h:ks.length = us.length):putK (ks.zip us) k v = (dPut ks us k v).1.zip (dPut ks us k v).2:=by
  unfold putK dPut
  rw [any_kIx k ks us h]
  split
  · exact zip_map_fst k v ks us h
  · show ks.zip us ++ [(k,v)] = (ks ++ [k]).zip (us ++ [v])
    rw [List.zip_append h]; rfl
theorem dPut_len {α:Type} (ks:List Key) (us:List α) (k:Key) (v:α) (h:ks.length = us.length):(dPut ks us k v).1.length = (dPut ks us k v).2.length:=by
  unfold dPut
  split
  · simp [h]
  · simp [h]
theorem dPut_fst {α β:Type} (ks:List Key) (us:List α) (vs:List β) (k:Key) (v:α) (y:β):(dPut ks us k v).1 = (dPut ks vs k y).1:=by
  unfold dPut
  split <;> rfl
theorem repl_zipWith {c:Ct} {w:Wd} {v:AV} {y:V} (r:RepV c w v y) (k:Key):∀ (ks:List Key) {xs:List AV} {us:List V},RepL c w xs us → RepL c w (List.zipWith (fun j x=>if j = k then v else x) ks xs) (List.zipWith (fun j x=>if j = k then y else x) ks us)
  | [],xs,us,_=>by simp; exact rfl
  | j :: ks,[],us,q=>by rw [show us = [] from q]; simp; exact rfl
  | j :: ks,x :: xs,us,q=>by
    obtain ⟨u,us',rfl,q1,q2⟩:=q
    rw [List.zipWith_cons_cons,List.zipWith_cons_cons]
    refine .cons ?_ (repl_zipWith r k ks q2)
    by_cases e:j = k
    · rw [if_pos e,if_pos e]; exact r
    · rw [if_neg e,if_neg e]; exact q1
theorem dPut_rep {c:Ct} {w:Wd} {ks:List Key} {xs:List AV} {us:List V} {k:Key} {v:AV} {y:V} (r:RepL c w xs us) (q:RepV c w v y):RepL c w (dPut ks xs k v).2 (dPut ks us k y).2:=by
  unfold dPut
  split
  · exact repl_zipWith q k ks r
  · exact r.append (.cons q .nil)
def cellD (h:AH) (a:AV):Option (Nat × List Key × List AV):=match a with
  | .ref n=>match h.get n with
    | some (.dct ks,xs)=>some (n,ks,xs)
    | _=>none
  | _=>none
theorem cellD_ok {c:Ct} {w:Wd} {H:Hp} {h:AH} (S:SR c w H h) {a:AV} {u:V} {n:Nat} {ks:List Key} {xs:List AV} (r:RepV c w a u) (e:cellD h a = some (n,ks,xs)) :
    ∃ p us,u = .ref p ∧ ks.length = us.length ∧ H p = some (.dK (ks.zip us)) ∧ RepL c w xs us ∧ ∀ (js:List Key) (ys:List AV) (vs:List V),js.length = vs.length → RepL c w ys vs → SR c w (upd H p (.dK (js.zip vs))) (h.put n (.dct js,ys)) ∧ Tr w H h w (upd H p (.dK (js.zip vs))) (h.put n (.dct js,ys)):=by
  cases a with
  | ref m =>
    have e':(match h.get m with
      | some (.dct ks,xs)=>some (m,ks,xs)
      | _=>none) = some (n,ks,xs):=e
    split at e'
    · rename_i ks' ys q
      cases e'
      obtain ⟨p,us,e1,nm,l⟩:=S.cell _ _ _ q
      obtain ⟨p',e2,e3⟩:=r
      rw [e1] at e2
      cases e2
      exact ⟨p,us,e3,nm.1,nm.2,l,fun js zs vs hl r2=>S.write q e1 (show NodeM c _ p (.dct js) vs from ⟨hl,upd_same⟩) r2⟩
    · cases e'
  | _=>cases e
def aSetL (o i v:AV) (h:AH):Option AH:=(cellL h o).bind fun q=>match i with
  | .int k=>(ixN q.2.length k).bind fun j=>some (h.put q.1 (.lst,q.2.set j v))
  | _=>none
def aSetD (o i v:AV) (h:AH):Option AH:=(cellD h o).bind fun q=>(toKey i).bind fun k=>if q.2.1.length < sizeLine then some (h.put q.1 (.dct (dPut q.2.1 q.2.2 k v).1,(dPut q.2.1 q.2.2 k v).2)) else none
def aSet (o i v:AV) (h:AH):Option AH:=orO (aSetL o i v h) (aSetD o i v h)
def rSetD:TSet:=fun o i v H Q=>∃ a H',o = .ref a ∧ DPut H a i v H' ∧ Q H'
def rSetA:TSet:=fun o i v H Q=>rSetL o i v H Q ∨ rSetD o i v H Q
theorem pset_A {X:Cx} (hu:X.A.units + 64 < cLine):PSet X rSetA:=by
  intro pins s σ H o i v ov iv u Q I ro ri rv h
  rcases h with h | h
  · exact set_list pins s σ H o i v ov iv u Q I ro ri rv h
  · obtain ⟨a,H',rfl,g,q⟩:=h
    obtain rfl:ov = Value.ref a:=ro
    exact d_setItem (A:=X.A) (by omega) I g ri rv fun s' I' => ⟨H',I',q⟩
def SndS (c:Ct) (r:TSet) (f:AV → AV → AV → AH → Option AH):Prop:=∀ w H h o i v u y z h' (Q:Hp → Prop),SR c w H h → RepV c w o u → RepV c w i y → RepV c w v z → f o i v h = some h' →
  (∀ w' H',Tr w H h w' H' h' → SR c w' H' h' → Q H') → r u y z H Q
theorem s_set {c:Ct}:SndS c rSetA aSet:=by
  intro w H h o i v u y z h' Q S ro ri rv e k
  unfold aSet orO at e
  split at e
  · rename_i x hx
    cases e
    obtain ⟨⟨n,xs⟩,e1,e2⟩:=bind_some hx
    obtain ⟨p,us,rfl,hH,l,wr⟩:=cellL_ok S ro e1
    split at e2
    · rename_i j
      obtain ⟨m,e3,e4⟩:=bind_some e2
      cases e4
      obtain ⟨s2,t2⟩:=wr (xs.set m v) (us.set m z) (l.set m rv)
      exact .inl ⟨p,us,j,m,rfl,ri,hH,by rw [← l.len]; exact e3,k w _ t2 s2⟩
    · cases e2
  · obtain ⟨⟨n,ks,xs⟩,e1,e2⟩:=bind_some e
    obtain ⟨kk,e3,e4⟩:=bind_some e2
    obtain ⟨p,us,rfl,hl,hH,l,wr⟩:=cellD_ok S ro e1
    split at e4
    · rename_i hz
      cases e4
      obtain ⟨s2,t2⟩:=wr (dPut ks us kk z).1 (dPut ks xs kk v).2 (dPut ks us kk z).2 (dPut_len ks us kk z hl) (dPut_rep l rv)
      have ef:(dPut ks us kk z).1 = (dPut ks xs kk v).1:=dPut_fst ks us xs kk z v
      rw [ef] at s2 t2
      refine .inr ⟨p,_,rfl,.inl ⟨_,kk,hH,toKey_rep e3 ri,by rw [List.length_zip,← hl,Nat.min_self]; exact hz,rfl⟩,?_⟩
      rw [putK_zip ks us kk z hl,ef]
      exact k w _ t2 s2
    · cases e4
def aGet2 (f g t:AE):AE:=fun s h=>(f s h).bind fun r=>(dctOf r.2 r.1).bind fun _=>(g s r.2).bind fun q=>(t s q.2).bind fun z=>(dctOf z.2 r.1).bind fun d=>(toKey q.1).bind fun k=>some ((((kIx d.1 k).bind fun i=>d.2[i]?).getD z.1),z.2)
theorem getD_rep {c:Ct} {w:Wd} {ks:List Key} {xs:List AV} {us:List V} {k:Key} {v:AV} {y:V} (l:RepL c w xs us) (hl:ks.length = us.length) (r:RepV c w v y):RepV c w (((kIx ks k).bind fun i=>xs[i]?).getD v) ((valV (ks.zip us) k).getD y):=by
  rw [valV_zip ks us k hl]
  cases e:kIx ks k with
  | none=>exact r
  | some i =>
    have hi:=kIx_lt e
    have hx:i < xs.length:=by rw [l.len,← hl]; exact hi
    obtain ⟨u,e1,e2⟩:=l.get (n:=i) (x:=xs[i]) (List.getElem?_eq_getElem hx)
    show RepV c w ((xs[i]?).getD v) ((us[i]?).getD y)
    rw [e1,List.getElem?_eq_getElem hx]
    exact e2
section
variable {X:Cx} {cl:Nat → Str × List Str} {pos apos cpos:Pos} {o e e2:Expr} {f g t:AE}
theorem ae_get2 (hu:X.A.units + 64 < cLine) (ho:PE X o (tA (ctX X cl) f)) (he:PE X e (tA (ctX X cl) g)) (hf:PE X e2 (tA (ctX X cl) t)) (m:M2 X o "get" apos e e2 cpos:=by exact ⟨rfl,rfl,rfl,rfl⟩):PE X (.Call (.Attribute o "get" apos) [e,e2] [] cpos) (tA (ctX X cl) (aGet2 f g t)):=by
  refine (pe_dget2 (by omega) ho he hf m).wk fun σ H Q q=>?_
  obtain ⟨w,s,h,v,h',rs,sr,e,k⟩:=q
  obtain ⟨⟨a,h1⟩,e1,e⟩:=bind_some e
  obtain ⟨d0,e0,e⟩:=bind_some e
  obtain ⟨⟨b,h2⟩,e2,e⟩:=bind_some e
  obtain ⟨⟨b3,h3⟩,e25,e⟩:=bind_some e
  obtain ⟨⟨ks,xs⟩,e3,e⟩:=bind_some e
  obtain ⟨kk,e4,e⟩:=bind_some e
  cases e
  refine ⟨w,s,h,a,h1,rs,sr,e1,fun w1 H1 u t1 s1 r1=>?_⟩
  obtain ⟨ks0,xs0⟩:=d0
  obtain ⟨p,us,rfl,n1,n2,l⟩:=dctOf_ok s1 r1 e0
  refine ⟨p,rfl,.inl ⟨_,n2⟩,⟨w1,s,h1,b,h2,rs.le t1.le,s1,e2,fun w2 H2 y t2 s2 r2=>⟨w2,s,h2,b3,h3,(rs.le t1.le).le t2.le,s2,e25,fun w3 H3 z t3 s3 r3=>?_⟩⟩⟩
  obtain ⟨p',us',ep,m1,m2,l2⟩:=dctOf_ok s3 (RepV.le (t2.trans t3).le _ _ r1) e3
  cases ep
  exact ⟨_,.inl ⟨_,kk,m2,toKey_rep e4 r2,rfl⟩,k w3 H3 _ (t1.trans (t2.trans t3)) s3 (getD_rep l2 m1 r3)⟩
end
end Rp
end
section
namespace Rp
open PySem PySem.Spec PyProof.Rows L2
inductive AR where
  | nx (s:LS) | rt (v:AV) | bk (s:LS) | ct (s:LS)
abbrev AS:=LS → AH → Option (AR × AH)
def EndsA (c:Ct) (w:Wd) (D:Ends) (H:Hp):AR → Prop
  | .nx s=>∀ σ,RepS c w s σ → D.nx σ H
  | .rt v=>∀ u,RepV c w v u → D.rt u H
  | .bk s=>∀ σ,RepS c w s σ → D.bk σ H
  | .ct s=>∀ σ,RepS c w s σ → D.ct σ H
def tS (c:Ct) (f:AS):TS:=fun D σ H=>∃ w s h r h',RepS c w s σ ∧ SR c w H h ∧ f s h = some (r,h') ∧ ∀ w' H',Tr w H h w' H' h' → SR c w' H' h' → EndsA c w' D H' r
theorem _root_.L2.PS.wk {X:Cx} {e:Stmt} {t t':TS} (h:PS X e t) (hh:∀ D σ H,t' D σ H → t D σ H):PS X e t':=⟨fun pins s σ H D I q=>h.run pins s σ H D I (hh _ _ _ q)⟩
theorem _root_.L2.PSs.wk {X:Cx} {e:List Stmt} {t t':TS} (h:PSs X e t) (hh:∀ D σ H,t' D σ H → t D σ H):PSs X e t':=⟨fun pins s σ H D I q=>h.run pins s σ H D I (hh _ _ _ q)⟩
def aPass:AS:=fun s h=>some (.nx s,h)
def aSeq (f g:AS):AS:=fun s h=>(f s h).bind fun r=>match r.1 with
  | .nx s' => g s' r.2
  | x=>some (x,r.2)
def aRet (f:AE):AS:=fun s h=>(f s h).bind fun r=>some (.rt r.1,r.2)
def aRetN:AS:=fun s h=>some (.rt .non,h)
def aExp (f:AE):AS:=fun s h=>(f s h).bind fun r=>some (.nx s,r.2)
def aIfS (t:AT) (f g:AS):AS:=fun s h=>(t s h).bind fun r=>if r.1 = true then f s r.2 else g s r.2
def aStuck:AS:=fun _ _=>none
section
variable {X:Cx} {cl:Nat → Str × List Str} {pos:Pos} {st:Stmt} {rest a b:List Stmt} {f g:AS} {e:Expr} {fe:AE} {t:AT}
theorem as_nil:PSs X [] (tS (ctX X cl) aPass):=pss_nil.wk fun D σ H q=>by
  obtain ⟨w,s,h,r,h',rs,sr,e,k⟩:=q
  cases e
  exact k w H (.refl _ _ _) sr σ rs
theorem as_cons (h1:PS X st (tS (ctX X cl) f)) (h2:PSs X rest (tS (ctX X cl) g)):PSs X (st :: rest) (tS (ctX X cl) (aSeq f g)):=by
  refine (pss_cons h1 h2).wk fun D σ H q=>?_
  obtain ⟨w,s,h,r,h',rs,sr,e,k⟩:=q
  obtain ⟨⟨x,h1⟩,e1,e⟩:=bind_some e
  refine ⟨w,s,h,x,h1,rs,sr,e1,fun w1 H1 t1 s1=>?_⟩
  cases x with
  | nx s' => exact fun σ' rs' => ⟨w1,s',h1,r,h',rs',s1,e,fun w2 H2 t2 s2=>k w2 H2 (t1.trans t2) s2⟩
  | rt v=>cases e; exact k w1 H1 t1 s1
  | bk s' => cases e; exact k w1 H1 t1 s1
  | ct s' => cases e; exact k w1 H1 t1 s1
theorem as_one (h1:PS X st (tS (ctX X cl) f)):PSs X [st] (tS (ctX X cl) f):=pss_one h1
theorem as_never:PS X st (tS (ctX X cl) aStuck):=ps_never.wk fun D σ H q=>by
  obtain ⟨w,s,h,r,h',rs,sr,e,k⟩:=q
  cases e
theorem as_expr (he:PE X e (tA (ctX X cl) fe)) (hs:swapsWith e none pos.line X.env = pure false:=by rfl):PS X (.Expr e pos) (tS (ctX X cl) (aExp fe)):=by
  refine (ps_expr he hs).wk fun D σ H q=>?_
  obtain ⟨w,s,h,r,h',rs,sr,e,k⟩:=q
  obtain ⟨⟨x,h1⟩,e1,e⟩:=bind_some e
  cases e
  exact ⟨w,s,h,x,h1,rs,sr,e1,fun w1 H1 u t1 s1 r1=>k w1 H1 t1 s1 σ (rs.le t1.le)⟩
theorem as_ret (he:PE X e (tA (ctX X cl) fe)):PS X (.Return (some e) pos) (tS (ctX X cl) (aRet fe)):=by
  refine (ps_ret he).wk fun D σ H q=>?_
  obtain ⟨w,s,h,r,h',rs,sr,e,k⟩:=q
  obtain ⟨⟨x,h1⟩,e1,e⟩:=bind_some e
  cases e
  exact ⟨w,s,h,x,h1,rs,sr,e1,fun w1 H1 u t1 s1 r1=>k w1 H1 t1 s1 u r1⟩
theorem as_if {c0:Expr} (hc:PT X c0 (tT (ctX X cl) t)) (ha:PSs X a (tS (ctX X cl) f)) (hb:PSs X b (tS (ctX X cl) g)):PS X (.If c0 a b pos) (tS (ctX X cl) (aIfS t f g)):=by
  refine (ps_if hc ha hb).wk fun D σ H q=>?_
  obtain ⟨w,s,h,r,h',rs,sr,e,k⟩:=q
  obtain ⟨⟨d,h1⟩,e1,e⟩:=bind_some e
  refine ⟨w,s,h,d,h1,rs,sr,e1,fun w1 H1 t1 s1=>?_⟩
  cases d with
  | true =>
    rw [if_pos rfl]
    exact ⟨w1,s,h1,r,h',rs.le t1.le,s1,e,fun w2 H2 t2 s2=>k w2 H2 (t1.trans t2) s2⟩
  | false =>
    rw [if_neg Bool.false_ne_true]
    exact ⟨w1,s,h1,r,h',rs.le t1.le,s1,e,fun w2 H2 t2 s2=>k w2 H2 (t1.trans t2) s2⟩
end
abbrev AG:=AV → LS → AH → Option (LS × AH)
def tG (c:Ct) (f:AG):TG:=fun v σ H Q=>∃ w a s h s' h',RepV c w a v ∧ RepS c w s σ ∧ SR c w H h ∧ f a s h = some (s',h') ∧ ∀ w' H' σ',Tr w H h w' H' h' → SR c w' H' h' → RepS c w' s' σ' → Q σ' H'
theorem _root_.L2.PG.wk {X:Cx} {e:Expr} {t t':TG} (h:PG X e t) (hh:∀ v σ H Q,t' v σ H Q → t v σ H Q):PG X e t':=⟨fun pins s σ H v u Q I r q=>h.run pins s σ H v u Q I r (hh _ _ _ _ q)⟩
abbrev AGs:=List AV → LS → AH → Option (LS × AH)
def tGs (c:Ct) (f:AGs):TGs:=fun vs σ H Q=>∃ w as s h s' h',RepL c w as vs ∧ RepS c w s σ ∧ SR c w H h ∧ f as s h = some (s',h') ∧ ∀ w' H' σ',Tr w H h w' H' h' → SR c w' H' h' → RepS c w' s' σ' → Q σ' H'
theorem _root_.L2.PGs.wk {X:Cx} {e:List Expr} {t t':TGs} (h:PGs X e t) (hh:∀ v σ H Q,t' v σ H Q → t v σ H Q):PGs X e t':=⟨fun pins s σ H v u Q I r q=>h.run pins s σ H v u Q I r (hh _ _ _ _ q)⟩
def gNm (i:Nat):AG:=fun v s h=>some (s.set i (some v),h)
def gsNil:AGs:=fun vs s h=>match vs with
  | []=>some (s,h)
  | _=>none
def gsCons (f:AG) (g:AGs):AGs:=fun vs s h=>match vs with
  | v :: r=>(f v s h).bind fun q=>g r q.1 q.2
  | _=>none
def gSq (n:Nat) (g:AGs):AG:=fun v s h=>(seqOf h v).bind fun xs=>if xs.length = n then g xs s h else none
def gIx (fo fi:AE):AG:=fun v s h=>(fo s h).bind fun o=>(fi s o.2).bind fun i=>(aSet o.1 i.1 v i.2).bind fun h' => some (s,h')
def setFld (k j:Nat) (o v:AV) (h:AH):Option AH:=match o with
  | .ref n=>match h.get n with
    | some (.ins k',xs)=>if k' = k then (if j < xs.length then some (h.put n (.ins k,xs.set j v)) else if j = xs.length then some (h.put n (.ins k,xs ++ [v])) else none) else none
    | _=>none
  | _=>none
section
variable {X:Cx} {cl:Nat → Str × List Str} {pos pos' tpos:Pos} {e o i tg:Expr} {es:List Expr} {f fo fi fe:AE} {g:AG} {gs:AGs}
theorem ag_name {x:Str} (i:Nat) (hN:X.N.Nodup) (hi:X.N[i]? = some x:=by rfl) (hx:Loc X.env.scope x:=by first | exact Or.inl rfl | exact Or.inr rfl) (hf:X.fn x = true ∨ X.env.scope.names.lookup x = some .local:=by first | exact .inl rfl | exact .inr rfl | assumption):PG X (.Name x pos) (tG (ctX X cl) (gNm i)):=by
  refine (pg_name hN hi hx hf).wk fun v σ H Q q=>?_
  obtain ⟨w,a,s,h,s',h',ra,rs,sr,e,k⟩:=q
  cases e
  exact k w H _ (.refl _ _ _) sr (rs.set i ra)
theorem ags_nil:PGs X [] (tGs (ctX X cl) gsNil):=pgs_nil.wk fun v σ H Q q=>by
  obtain ⟨w,as,s,h,s',h',ra,rs,sr,e,k⟩:=q
  cases as with
  | nil =>
    cases e
    exact ⟨ra,k w H _ (.refl _ _ _) sr rs⟩
  | cons _ _=>cases e
theorem ags_cons (h1:PG X e (tG (ctX X cl) g)) (h2:PGs X es (tGs (ctX X cl) gs)) (hs:(assignEach (e :: es) X.env).map (·.2) = assign e X.env :: (assignEach es X.env).map (·.2):=by rfl):PGs X (e :: es) (tGs (ctX X cl) (gsCons g gs)):=by
  refine (pgs_cons h1 h2 hs).wk fun v σ H Q q=>?_
  obtain ⟨w,as,s,h,s',h',ra,rs,sr,e,k⟩:=q
  cases as with
  | nil=>cases e
  | cons a as =>
    obtain ⟨u,us,rfl,r1,r2⟩:=ra
    obtain ⟨⟨s1,h1⟩,e1,e⟩:=bind_some e
    refine ⟨u,us,rfl,⟨w,a,s,h,s1,h1,r1,rs,sr,e1,fun w1 H1 σ1 t1 sr1 rs1=>?_⟩⟩
    exact ⟨w1,as,s1,h1,s',h',RepL.le t1.le _ _ r2,rs1,sr1,e,fun w2 H2 σ2 t2 sr2 rs2=>k w2 H2 σ2 (t1.trans t2) sr2 rs2⟩
theorem pg_or {e:Expr} {t t':TG} (h:PG X e t) (h':PG X e t'):PG X e (fun v σ H Q=>t v σ H Q ∨ t' v σ H Q):=⟨fun pins s σ H v u Q I r q=>by
  rcases q with q | q
  · exact h.run pins s σ H v u Q I r q
  · exact h'.run pins s σ H v u Q I r q⟩
theorem ag_sq {k n:Nat} (hc:X.calm = true) (h:PGs X es (tGs (ctX X cl) gs)) (hn:(assignEach es X.env).length = n:=by rfl) (hst:(assignEach es X.env).findIdx? (·.1) = none:=by rfl)
    (hu:∀ {t:TGs},PGs X es t → PG X (.Tuple es k pos) (gUnl X.K n t):=by exact fun h=>pg_unl (by assumption) h):PG X (.Tuple es k pos) (tG (ctX X cl) (gSq n gs)):=by
  refine (pg_or (pg_tup hc h hn hst) (hu h)).wk fun v σ H Q q=>?_
  obtain ⟨w,a,s,h,s',h',ra,rs,sr,e,k⟩:=q
  obtain ⟨xs,e1,e⟩:=bind_some e
  split at e
  · rename_i hl
    obtain ⟨p,us,rfl,hq,l⟩:=seqOf_ok sr ra e1
    have go:tGs (ctX X cl) gs us σ H Q:=⟨w,xs,s,h,s',h',l,rs,sr,e,k⟩
    rcases hq with hq | hq
    · exact .inr ⟨p,us,rfl,hq,by rw [← l.len]; exact hl,go⟩
    · exact .inl ⟨p,us,rfl,hq,by rw [← l.len]; exact hl,go⟩
  · cases e
theorem ag_ix (hu:X.A.units + 64 < cLine) (ho:PE X o (tA (ctX X cl) fo)) (hi:PE X i (tA (ctX X cl) fi)) (h:∀ {to ti:TE} {t:TSet},PE X o to → PE X i ti → PSet X t → PG X (.Subscript o i pos) (gSub to ti t):=by exact fun h1 h2 h3=>pg_sub h1 h2 h3):PG X (.Subscript o i pos) (tG (ctX X cl) (gIx fo fi)):=by
  refine (h ho hi (pset_A hu)).wk fun v σ H Q q=>?_
  obtain ⟨w,a,s,h,s',h',ra,rs,sr,e,k⟩:=q
  obtain ⟨⟨x,h1⟩,e1,e⟩:=bind_some e
  obtain ⟨⟨y,h2⟩,e2,e⟩:=bind_some e
  obtain ⟨h3,e3,e⟩:=bind_some e
  injection e with e
  injection e with es eh
  subst es
  refine ⟨w,s,h,x,h1,rs,sr,e1,fun w1 H1 u1 t1 s1 r1=>⟨w1,s,h1,y,h2,rs.le t1.le,s1,e2,fun w2 H2 u2 t2 s2 r2=>?_⟩⟩
  exact s_set w2 H2 h2 x y a u1 u2 v h3 _ s2 (RepV.le t2.le _ _ r1) r2 (RepV.le (t1.trans t2).le _ _ ra) e3 fun w3 H3 t3 s3=>by
    subst eh; exact k w3 H3 σ (t1.trans (t2.trans t3)) s3 (rs.le (t1.trans (t2.trans t3)).le)
def aAsg (fe:AE) (g:AG):AS:=fun s h=>(fe s h).bind fun r=>(g r.1 s r.2).bind fun q=>some (.nx q.1,q.2)
theorem tAsg_of {c:Ct} {D:Ends} {σ:L2.St} {H:Hp} (q:tS c (aAsg fe g) D σ H):tAsg (tA c fe) (tG c g) D σ H:=by
  obtain ⟨w,s,h,r,h',rs,sr,e,k⟩:=q
  obtain ⟨⟨x,h1⟩,e1,e⟩:=bind_some e
  obtain ⟨⟨s2,h2⟩,e2,e⟩:=bind_some e
  cases e
  exact ⟨w,s,h,x,h1,rs,sr,e1,fun w1 H1 u t1 s1 r1=>⟨w1,x,s,h1,s2,h2,r1,rs.le t1.le,s1,e2,fun w2 H2 σ2 t2 sr2 rs2=>k w2 H2 (t1.trans t2) sr2 σ2 rs2⟩⟩
theorem as_asg (he:PE X e (tA (ctX X cl) fe)) (hg:PG X tg (tG (ctX X cl) g)) (hs:swapsWithSole [tg] e pos.line X.env = pure false:=by rfl) (hw:swappedStores [tg] e X.env = pure none:=by rfl)
    (h1:(assignEach [tg] X.env).map (·.2) = [assign tg X.env]:=by rfl):PS X (.Assign [tg] e pos) (tS (ctX X cl) (aAsg fe g)):=(ps_asg he hg hs hw h1).wk fun _ _ _ q=>tAsg_of q
theorem as_set {x:Str} (i:Nat) (hN:X.N.Nodup) (he:PE X e (tA (ctX X cl) fe)) (hi:X.N[i]? = some x:=by rfl) (hx:Loc X.env.scope x:=by first | exact Or.inl rfl | exact Or.inr rfl) (hs:swapsWith e (some (.Name x pos')) pos.line X.env = pure false:=by rfl) (hf:X.fn x = true ∨ X.env.scope.names.lookup x = some .local:=by first | exact .inl rfl | exact .inr rfl | assumption) :
    PS X (.Assign [.Name x pos'] e pos) (tS (ctX X cl) (aAsg fe (gNm i))):=by
  refine (ps_set hN hi hx he hs hf).wk fun D σ H q=>?_
  have:=tAsg_of q
  obtain ⟨w,s,h,v,h',rs,sr,e,k⟩:=this
  refine ⟨w,s,h,v,h',rs,sr,e,fun w1 H1 u t1 s1 r1=>?_⟩
  obtain ⟨w2,a,s2,h2,s3,h3,ra,rs2,sr2,e2,k2⟩:=k w1 H1 u t1 s1 r1
  cases e2
  exact k2 w2 H1 _ (.refl _ _ _) sr2 (rs2.set i ra)
def aSetF (fe:AE) (k j:Nat) (fo:AE):AS:=fun s h=>(fe s h).bind fun r=>(fo s r.2).bind fun o=>(setFld k j o.1 r.1 o.2).bind fun h' => some (.nx s,h')
end
end Rp
end
section
namespace Rp
open PySem PySem.Spec PyProof.Rows L2
theorem upd_id {H:Hp} {p:Addr} {o:HO} (e:H p = some o):upd H p o = H:=by
  funext a
  by_cases h:a = p
  · rw [h,upd_same,e]
  · rw [upd_ne h]
def mapO (f:AV → AH → Option (AV × AH)):List AV → AH → Option (List AV × AH)
  | [],h=>some ([],h)
  | x :: xs,h=>(f x h).bind fun r=>(mapO f xs r.2).bind fun q=>some (r.1 :: q.1,q.2)
def frz1 (a:AV) (h:AH):Option (AV × AH):=match a with
  | .ref m=>match h.get m with
    | some (k,xs)=>if k.lk = false then some (.nod k xs,h.del m) else none
    | none=>none
  | x=>some (x,h)
def frzV:Nat → AV → AH → Option (AV × AH)
  | 0,a,h=>some (a,h)
  | n + 1,a,h=>(frz1 a h).bind fun r=>match r.1 with
    | .nod k xs=>(mapO (frzV n) xs r.2).bind fun q=>some (.nod k q.1,q.2)
    | x=>some (x,r.2)
section
variable {X:Cx} {cl:Nat → Str × List Str} {pins:List (Addr × Obj)} {σ:L2.St} {s:Shared}
theorem frz1_ok {a a':AV} {h h':AH} {w:Wd} {H:Hp} {u:V} (e:frz1 a h = some (a',h')) (I:Inv X pins σ H s) (S:SR (ctX X cl) w H h) (r:RepV (ctX X cl) w a u) :
    ∃ w' H',Inv X pins σ H' s ∧ SR (ctX X cl) w' H' h' ∧ Tr w H h w' H' h' ∧ RepV (ctX X cl) w' a' u:=by
  cases a with
  | ref m =>
    cases hg:h.get m with
    | none =>
      have e':(match h.get m with
        | some (k,xs)=>if k.lk = false then some (AV.nod k xs,h.del m) else none
        | none=>none) = some (a',h'):=e
      rw [hg] at e'; cases e'
    | some z =>
      obtain ⟨k,xs⟩:=z
      have e':(match h.get m with
        | some (k,xs)=>if k.lk = false then some (AV.nod k xs,h.del m) else none
        | none=>none) = some (a',h'):=e
      rw [hg] at e'
      have e2:(if k.lk = false then some (AV.nod k xs,h.del m) else none) = some (a',h'):=e'
      by_cases hk:k.lk = false
      · rw [if_pos hk] at e2
        cases e2
        obtain ⟨p,us,ep,nm,l⟩:=S.cell m k xs hg
        obtain ⟨p',ep',eu⟩:=r
        rw [ep] at ep'
        cases ep'
        have go:∀ o,Inv X pins σ (upd H p o) s → (∀ R:Hp,R p = some o → NodeR (ctX X cl) R p k us) → ∃ w' H',Inv X pins σ H' s ∧ SR (ctX X cl) w' H' (h.del m) ∧ Tr w H h w' H' (h.del m) ∧ RepV (ctX X cl) w' (.nod k xs) u:=fun o I' hn=>by
          obtain ⟨S',T'⟩:=S.freeze (o:=o) hg ep hk
          exact ⟨_,_,I',S',T',p,us,eu,hn _ upd_same,RepL.le T'.le _ _ l⟩
        cases k with
        | tup=>exact nm.elim
        | scr=>exact nm.elim
        | tab ks=>exact nm.elim
        | cod P q=>cases hk
        | ldct ks=>cases hk
        | lst =>
          have nm':H p = some (.lst us):=nm
          refine go (.lst us) ?_ fun R e=>e
          rw [upd_id nm']; exact I
        | dct ks =>
          obtain ⟨hl,nm'⟩:=nm
          obtain ⟨od,I'⟩:=I.lock nm' trivial
          exact go _ I' fun R e=>⟨hl,od,e⟩
        | ins c =>
          obtain ⟨hl,a0,dx,hm,nm'⟩:=nm
          refine go (.ins a0 dx ((cl c).2.zip us)) ?_ fun R e=>⟨hl,a0,dx,hm,e⟩
          rw [upd_id nm']; exact I
      · rw [if_neg hk] at e2; cases e2
  | _=>cases e; exact ⟨w,H,I,S,.refl _ _ _,r⟩
theorem frzV_ok:∀ (n:Nat) {a a':AV} {h h':AH} {w:Wd} {H:Hp} {u:V},frzV n a h = some (a',h') → Inv X pins σ H s → SR (ctX X cl) w H h → RepV (ctX X cl) w a u →
    ∃ w' H',Inv X pins σ H' s ∧ SR (ctX X cl) w' H' h' ∧ Tr w H h w' H' h' ∧ RepV (ctX X cl) w' a' u
  | 0,a,a',h,h',w,H,u,e,I,S,r=>by cases e; exact ⟨w,H,I,S,.refl _ _ _,r⟩
  | n + 1,a,a',h,h',w,H,u,e,I,S,r=>by
    have lst:∀ {xs ys:List AV} {h h':AH} {w:Wd} {H:Hp} {us:List V},mapO (frzV n) xs h = some (ys,h') → Inv X pins σ H s → SR (ctX X cl) w H h → RepL (ctX X cl) w xs us →
        ∃ w' H',Inv X pins σ H' s ∧ SR (ctX X cl) w' H' h' ∧ Tr w H h w' H' h' ∧ RepL (ctX X cl) w' ys us:=by
      intro xs
      induction xs with
      | nil =>
        intro ys h h' w H us e I S r
        cases e
        exact ⟨w,H,I,S,.refl _ _ _,r⟩
      | cons x xs ih =>
        intro ys h h' w H us e I S r
        obtain ⟨⟨x',h1⟩,e1,e⟩:=bind_some e
        obtain ⟨⟨xs',h2⟩,e2,e⟩:=bind_some e
        cases e
        obtain ⟨u,us',rfl,r1,r2⟩:=r
        obtain ⟨w1,H1,I1,S1,T1,q1⟩:=frzV_ok n e1 I S r1
        obtain ⟨w2,H2,I2,S2,T2,q2⟩:=ih e2 I1 S1 (RepL.le T1.le _ _ r2)
        exact ⟨w2,H2,I2,S2,T1.trans T2,RepL.cons (RepV.le T2.le _ _ q1) q2⟩
    obtain ⟨⟨a1,h1⟩,e1,e⟩:=bind_some e
    obtain ⟨w1,H1,I1,S1,T1,q1⟩:=frz1_ok e1 I S r
    cases a1 with
    | nod k xs =>
      obtain ⟨⟨ys,h2⟩,e2,e⟩:=bind_some e
      cases e
      obtain ⟨p,us,rfl,nr,l⟩:=q1
      obtain ⟨w2,H2,I2,S2,T2,q2⟩:=lst e2 I1 S1 l
      exact ⟨w2,H2,I2,S2,T1.trans T2,p,us,rfl,nr.le T2.le.rr,q2⟩
    | _=>cases e; exact ⟨w1,H1,I1,S1,T1,q1⟩
def aFrz (k:Nat) (f:AE):AE:=fun s h=>(f s h).bind fun r=>frzV k r.1 r.2
theorem ae_frz {e:Expr} {f:AE} (k:Nat) (he:PE X e (tA (ctX X cl) f)):PE X e (tA (ctX X cl) (aFrz k f)):=by
  refine ⟨fun pins s σ H Q I q=>?_⟩
  obtain ⟨w,sl,h,v,h',rs,sr,e,kk⟩:=q
  obtain ⟨⟨v1,h1⟩,e1,e2⟩:=bind_some e
  refine thn (he.run pins s σ H (fun u H1=>∃ w1,SR (ctX X cl) w1 H1 h1 ∧ Tr w H h w1 H1 h1 ∧ RepV (ctX X cl) w1 v1 u) I ⟨w,sl,h,v1,h1,rs,sr,e1,fun w1 H1 u t1 s1 r1=>⟨w1,s1,t1,r1⟩⟩) fun v s1 ⟨x,H1,I1,r1,q1⟩=>?_
  obtain ⟨w1,S1,T1,R1⟩:=q1
  obtain ⟨w2,H2,I2,S2,T2,R2⟩:=frzV_ok k e2 I1 S1 R1
  exact ⟨x,H2,I2,r1,kk w2 H2 x (T1.trans T2) S2 R2⟩
end
section
variable {c:Ct} {w:Wd} {H:Hp} {h:AH}
end
section
variable {X:Cx} {cl:Nat → Str × List Str}
end
end Rp
end
section
namespace Rp
open PySem PySem.Spec PyProof.Rows L2
abbrev Grd:=List (Nat × List AV)
def chk (G:Grd) (h:AH):Bool:=G.all fun p=>decide (h.get p.1 = some (.lst,p.2))
abbrev ASrc:=LS → AH → Option ((List AV × Grd) × AH)
def ItOk (c:Ct) (w0:Wd) (H0:Hp) (J:It) (xs:List AV) (G:Grd):Prop:=∀ w H h i,WLe w0 w → (∀ a o u,H0 a = some (.frz o u) → H a = some (.frz o u)) → SR c w H h → chk G h = true →
  (∀ x,xs[i]? = some x → J.go i H ∧ ∀ v H',J.yld i H v H' → ∃ w',Tr w H h w' H' h ∧ SR c w' H' h ∧ RepV c w' x v) ∧ (xs.length ≤ i → J.stop i H)
def tI (c:Ct) (f:ASrc):TI:=fun σ H R=>∃ w s h xs G h',RepS c w s σ ∧ SR c w H h ∧ f s h = some ((xs,G),h') ∧ ∀ w' H' J,Tr w H h w' H' h' → SR c w' H' h' → ItOk c w' H' J xs G → R J H'
theorem _root_.L2.PI.wk {X:Cx} {tg e:Expr} {t t':TI} (h:PI X tg e t) (hh:∀ σ H R,t' σ H R → t σ H R):PI X tg e t':=⟨fun pins s σ H R I q=>h.run pins s σ H R I (hh _ _ _ q)⟩
theorem pi_or {X:Cx} {tg e:Expr} {t t':TI} (h:PI X tg e t) (h':PI X tg e t'):PI X tg e (fun σ H R=>t σ H R ∨ t' σ H R):=⟨fun pins s σ H R I q=>by
  rcases q with q | q
  · exact h.run pins s σ H R I q
  · exact h'.run pins s σ H R I q⟩
def grdOf (a:AV) (xs:List AV):Grd:=match a with
  | .ref n=>[(n,xs)]
  | _=>[]
def srcL (a:AV) (h:AH):Option (List AV × Grd):=match look h a with
  | some (.lst,xs)=>some (xs,grdOf a xs)
  | some (.scr,xs)=>some (xs,[])
  | _=>none
def srcT (a:AV) (h:AH):Option (List AV × Grd):=match look h a with
  | some (.tup,xs)=>some (xs,[])
  | _=>none
def chars (x:Str):List AV:=x.cps.toList.map fun c=>.str ⟨#[c]⟩
def srcS (a:AV):Option (List AV × Grd):=match a with
  | .str x=>some (chars x,[])
  | _=>none
def srcK (a:AV) (h:AH):Option (List AV × Grd):=match a,look h a with
  | .nod _ _,some (.dct ks,_)=>some (ks.map keyA,[])
  | .ref _,some (.ldct ks,_)=>some (ks.map keyA,[])
  | _,_=>none
def srcV (a:AV) (h:AH):Option (List AV × Grd):=orO (srcL a h) (orO (srcT a h) (orO (srcS a) (srcK a h)))
def sVal (f:AE):ASrc:=fun s h=>(f s h).bind fun r=>(srcV r.1 r.2).bind fun q=>some (q,r.2)
theorem look_scr {h:AH} {a:AV} {xs:List AV} {c:Ct} {w:Wd} {H:Hp} (S:SR c w H h) (e:look h a = some (.scr,xs)):∃ z,a = .nod .scr z ∧ z = xs:=by
  cases a with
  | nod k z=>cases e; exact ⟨_,rfl,rfl⟩
  | ref n =>
    obtain ⟨p,us,e1,nm,_⟩:=S.cell n _ _ e
    exact nm.elim
  | _=>cases e
theorem look_tup {h:AH} {a:AV} {xs:List AV} {c:Ct} {w:Wd} {H:Hp} (S:SR c w H h) (e:look h a = some (.tup,xs)):∃ z,a = .nod .tup z ∧ z = xs:=by
  cases a with
  | nod k z=>cases e; exact ⟨_,rfl,rfl⟩
  | ref n =>
    obtain ⟨p,us,e1,nm,_⟩:=S.cell n _ _ e
    exact nm.elim
  | _=>cases e
theorem list_still {c:Ct} {w0 w:Wd} {H:Hp} {h0 h:AH} {a:AV} {u:V} {xs:List AV} {G:Grd} (e:srcL a h0 = some (xs,G)) (r:RepV c w0 a u) (le:WLe w0 w) (S:SR c w H h) (S0:∃ H0,SR c w0 H0 h0) (ck:chk G h = true) :
    ∃ p us,u = .ref p ∧ SqL c.K H p us ∧ RepL c w xs us:=by
  unfold srcL at e
  split at e
  · rename_i ys hl
    cases e
    cases a with
    | nod k z =>
      cases hl
      obtain ⟨p,us,e1,n,l⟩:=r
      exact ⟨p,us,e1,SqL.of (S.le _ _ (le.rr _ _ n)),RepL.le le _ _ l⟩
    | ref n =>
      have hg:h.get n = some (.lst,xs):=by
        have:(decide (h.get n = some (.lst,xs)) && true) = true:=ck
        simpa using this
      obtain ⟨p,us,e1,nm,l⟩:=S.cell n _ _ hg
      obtain ⟨p',e2,e3⟩:=r
      have:=le.ii _ _ e2
      rw [e1] at this
      cases this
      exact ⟨p,us,e3,SqL.of nm,l⟩
    | _=>cases hl
  · rename_i ys hl
    cases e
    obtain ⟨H0,S0⟩:=S0
    obtain ⟨z,rfl,rfl⟩:=look_scr S0 hl
    obtain ⟨p,us,e1,n,l⟩:=r
    exact ⟨p,us,e1,SqL.le S.le (SqL.le le.rr n),RepL.le le _ _ l⟩
  · cases e
theorem itok_list {c:Ct} {w0:Wd} {H0:Hp} {h0:AH} {a:AV} {p:Addr} {xs:List AV} {G:Grd} (e:srcL a h0 = some (xs,G)) (r:RepV c w0 a (.ref p)) (S0:SR c w0 H0 h0):ItOk c w0 H0 (Itl c.K p) xs G:=by
  intro w H h i le fz S ck
  obtain ⟨p',us,e1,q,l⟩:=list_still e r le S ⟨_,S0⟩ ck
  cases e1
  refine ⟨fun x hx=>?_,fun hi=>⟨us,q,by rw [← l.len]; exact hi⟩⟩
  obtain ⟨u,hu,ru⟩:=l.get hx
  refine ⟨⟨us,u,q,hu⟩,fun v H' y=>?_⟩
  obtain ⟨e2,y⟩:=y
  subst e2
  have:=y us q
  rw [hu] at this
  cases this
  exact ⟨w,.refl _ _ _,S,ru⟩
theorem itok_tup {c:Ct} {w0:Wd} {H0:Hp} {h0:AH} {a:AV} {p:Addr} {xs:List AV} {G:Grd} (e:srcT a h0 = some (xs,G)) (r:RepV c w0 a (.ref p)) (S0:SR c w0 H0 h0):(∃ us,SqT c.K H0 p us) ∧ ItOk c w0 H0 (Itt c.K p) xs G:=by
  unfold srcT at e
  split at e
  · rename_i ys hl
    cases e
    obtain ⟨z,rfl,rfl⟩:=look_tup S0 hl
    obtain ⟨p',us,e1,n,l⟩:=r
    cases e1
    refine ⟨⟨us,SqT.le S0.le n⟩,fun w H h i le fz S ck=>?_⟩
    have q:SqT c.K H p us:=SqT.le S.le (SqT.le le.rr n)
    have l:=RepL.le le _ _ l
    refine ⟨fun x hx=>?_,fun hi=>⟨us,q,by rw [← l.len]; exact hi⟩⟩
    obtain ⟨u,hu,ru⟩:=l.get hx
    refine ⟨⟨us,u,q,hu⟩,fun v H' y=>?_⟩
    obtain ⟨e2,y⟩:=y
    subst e2
    have:=y us q
    rw [hu] at this
    cases this
    exact ⟨w,.refl _ _ _,S,ru⟩
  · cases e
theorem chars_get (x:Str) (i:Nat):(chars x)[i]? = (x.cps[i]?).map fun c=>AV.str ⟨#[c]⟩:=by
  unfold chars
  rw [List.getElem?_map,Array.getElem?_toList]
theorem itok_str {c:Ct} {w0:Wd} {H0:Hp} (x:Str):ItOk c w0 H0 (Its x) (chars x) []:=by
  intro w H h i le fz S ck
  refine ⟨fun y hy=>?_,fun hi=>by
    show x.cps.size ≤ i
    simpa [chars] using hi⟩
  rw [chars_get] at hy
  cases q:x.cps[i]? with
  | none=>rw [q] at hy; cases hy
  | some z =>
    rw [q] at hy
    cases hy
    refine ⟨(Array.getElem?_eq_some_iff.mp q).1,fun v H' y=>?_⟩
    obtain ⟨e2,c',e3,e4⟩:=y
    subst e2 e4
    rw [q] at e3
    cases e3
    exact ⟨w,.refl _ _ _,S,rfl⟩
theorem itok_keys {c:Ct} {w0:Wd} {H0:Hp} {d:Addr} {o:Obj} {ks:List Key} {us:List V} (hl:ks.length = us.length) (e:H0 d = some (.frz o (.dK (ks.zip us)))):ItOk c w0 H0 (Itk d o (ks.zip us)) (ks.map keyA) []:=by
  intro w H h i le fz S ck
  have q:=fz d o _ e
  have hlen:(ks.zip us).length = ks.length:=by rw [List.length_zip,← hl,Nat.min_self]
  refine ⟨fun x hx=>?_,fun hi=>⟨q,by rw [hlen]; simpa using hi⟩⟩
  rw [List.getElem?_map] at hx
  cases hk:ks[i]? with
  | none=>rw [hk] at hx; cases hx
  | some k =>
    rw [hk] at hx
    cases hx
    refine ⟨⟨q,by rw [hlen]; exact (List.getElem?_eq_some_iff.mp hk).1⟩,fun v H' y=>?_⟩
    obtain ⟨e2,k',v',e3,e4⟩:=y
    subst e2 e4
    have:ks[i]? = some k':=by
      have:=congrArg (Option.map Prod.fst) e3
      rw [← List.getElem?_map,List.map_fst_zip (by omega)] at this
      exact this
    rw [hk] at this
    cases this
    refine ⟨w,.refl _ _ _,S,?_⟩
    cases k with
    | inl i=>rfl
    | inr z=>rfl
section
variable {X:Cx} {cl:Nat → Str × List Str} {tg e:Expr} {f:AE}
theorem ai_val (he:PE X e (tA (ctX X cl) f)):PI X tg e (tI (ctX X cl) (sVal f)):=by
  refine (pi_or (pi_list he) (pi_or (pi_tup he) (pi_or (pi_str he) (pi_keys he)))).wk fun σ H R q=>?_
  obtain ⟨w,s,h,xs,G,h',rs,sr,e,k⟩:=q
  obtain ⟨⟨v,h1⟩,e1,e⟩:=bind_some e
  obtain ⟨⟨xs',G'⟩,e2,e⟩:=bind_some e
  cases e
  have e2':orO (srcL v h1) (orO (srcT v h1) (orO (srcS v) (srcK v h1))) = some (xs,G):=e2
  cases q1:srcL v h1 with
  | some z =>
    rw [q1] at e2'
    cases e2'
    refine .inl ⟨w,s,h,v,h1,rs,sr,e1,fun w1 H1 u t1 s1 r1=>?_⟩
    have:chk G h1 = true:=by
      unfold srcL at q1
      split at q1
      · rename_i zs hl
        cases q1
        cases v with
        | ref n =>
          have hg:h1.get n = some (.lst,xs):=hl
          show (decide (h1.get n = some (.lst,xs)) && true) = true
          rw [hg]; simp
        | _=>rfl
      · cases q1; rfl
      · cases q1
    obtain ⟨p,us,rfl,hq,l⟩:=list_still q1 r1 (.refl _) s1 ⟨_,s1⟩ this
    exact ⟨p,rfl,⟨us,hq⟩,k w1 H1 _ t1 s1 (itok_list q1 r1 s1)⟩
  | none =>
    rw [q1] at e2'
    have e2':orO (srcT v h1) (orO (srcS v) (srcK v h1)) = some (xs,G):=e2'
    refine .inr ?_
    cases q2:srcT v h1 with
    | some z =>
      rw [q2] at e2'
      cases e2'
      refine .inl ⟨w,s,h,v,h1,rs,sr,e1,fun w1 H1 u t1 s1 r1=>?_⟩
      have:∃ p,u = .ref p:=by
        unfold srcT at q2
        split at q2
        · rename_i zs hl
          obtain ⟨p,us,e1,_⟩:=look_ok s1 r1 hl
          exact ⟨p,e1⟩
        · cases q2
      obtain ⟨p,rfl⟩:=this
      obtain ⟨hq,io⟩:=itok_tup q2 r1 s1
      exact ⟨p,rfl,hq,k w1 H1 _ t1 s1 io⟩
    | none =>
      rw [q2] at e2'
      have e2':orO (srcS v) (srcK v h1) = some (xs,G):=e2'
      refine .inr ?_
      cases q3:srcS v with
      | some z =>
        rw [q3] at e2'
        cases e2'
        refine .inl ⟨w,s,h,v,h1,rs,sr,e1,fun w1 H1 u t1 s1 r1=>?_⟩
        cases v with
        | str x =>
          cases q3
          have r1':u = .str x:=r1
          exact ⟨x,r1',k w1 H1 _ t1 s1 (itok_str x)⟩
        | _=>cases q3
      | none =>
        rw [q3] at e2'
        have e2':srcK v h1 = some (xs,G):=e2'
        refine .inr ⟨w,s,h,v,h1,rs,sr,e1,fun w1 H1 u t1 s1 r1=>?_⟩
        unfold srcK at e2'
        split at e2'
        · rename_i kd zs ks zz hl
          cases e2'
          cases hl
          obtain ⟨p,us,rfl,⟨hl,od,n⟩,l⟩:=r1
          exact ⟨p,od,rfl,.inl ⟨_,s1.le _ _ n,k w1 H1 _ t1 s1 (itok_keys hl (s1.le _ _ n))⟩⟩
        · rename_i n ks zz hl
          cases e2'
          obtain ⟨p,us,e3,⟨hl,od,n⟩,l⟩:=s1.cell _ _ _ hl
          obtain ⟨p',e4,e5⟩:=r1
          rw [e3] at e4
          cases e4
          exact ⟨p,od,e5,.inl ⟨_,n,k w1 H1 _ t1 s1 (itok_keys hl n)⟩⟩
        · cases e2'
def rgI (lo:Int) (n:Nat):List AV:=(List.range n).map fun i:Nat=>.int (lo + i)
theorem itok_rng {c:Ct} {w0:Wd} {H0:Hp} (lo:Int) (n:Nat):ItOk c w0 H0 (Itr lo n) (rgI lo n) []:=by
  intro w H h i le fz S ck
  refine ⟨fun x hx=>?_,fun hi=>by
    show n ≤ i
    simpa [rgI] using hi⟩
  unfold rgI at hx
  rw [List.getElem?_map] at hx
  by_cases hlt:i < n
  · rw [List.getElem?_range hlt] at hx
    cases hx
    refine ⟨hlt,fun v H' y=>?_⟩
    obtain ⟨e2,e3⟩:=y
    subst e2 e3
    exact ⟨w,.refl _ _ _,S,rfl⟩
  · rw [List.getElem?_eq_none (by simpa using hlt)] at hx; cases hx
def sm (i:Int):Bool:=decide (-(2 ^ 62) ≤ i) && decide (i < 2 ^ 62)
theorem sm_ok {i:Int} (h:sm i = true):-(2 ^ 62) ≤ i ∧ i < 2 ^ 62:=by
  unfold sm at h
  simpa using h
def sRng1 (g:AA):ASrc:=fun s h=>(g s h).bind fun r=>match r.1 with
  | [.int j]=>if sm j = true then some ((rgI 0 j.toNat,[]),r.2) else none
  | _=>none
theorem ai_range1 {a:Expr} {ga:AA} {p pos:Pos} (hg:Gl X "range") (hm:X.mg "range" = none) (ha:PA X [a] (tAs (ctX X cl) ga)) (hs:starEach [a] X.env = [(false,eval a X.env)]:=by rfl):PI X tg (.Call (.Name "range" p) [a] [] pos) (tI (ctX X cl) (sRng1 ga)):=by
  refine (pi_range1 hg hm ha hs).wk fun σ H R q=>?_
  obtain ⟨w,s,h,xs,G,h',rs,sr,e,k⟩:=q
  obtain ⟨⟨vs,h1⟩,e1,e⟩:=bind_some e
  split at e
  · rename_i j ev
    have ev':vs = [.int j]:=ev
    subst ev'
    split at e
    · rename_i hs
      cases e
      refine ⟨w,s,h,_,h1,rs,sr,e1,fun w1 H1 us t1 s1 r1=>?_⟩
      obtain ⟨u,us',rfl,ru,r2⟩:=r1
      obtain rfl:us' = []:=r2
      obtain rfl:u = .int j:=ru
      exact ⟨j,rfl,(sm_ok hs).1,(sm_ok hs).2,k w1 H1 _ t1 s1 (itok_rng 0 _)⟩
    · cases e
  · cases e
theorem yld_tup {c:Ct} {w:Wd} {H:Hp} {h:AH} (S:SR c w H h) {T:Addr} (hT:H T = none) {xs:List AV} {us:List V} (l:RepL c w xs us):∃ w',Tr w H h w' (upd H T (.tup us)) h ∧ SR c w' (upd H T (.tup us)) h ∧ RepV c w' (.nod .tup xs) (.ref T):=by
  obtain ⟨w',S',T',r⟩:=S.newF (k:=.tup) (o:=.tup us) hT l fun R e=>SqT.of e
  exact ⟨w',T',S',r⟩
theorem srcL_chk {a:AV} {h:AH} {xs:List AV} {G:Grd} (e:srcL a h = some (xs,G)):chk G h = true:=by
  unfold srcL at e
  split at e
  · rename_i zs hl
    cases e
    cases a with
    | ref n =>
      have hg:h.get n = some (.lst,xs):=hl
      show (decide (h.get n = some (.lst,xs)) && true) = true
      rw [hg]; simp
    | _=>rfl
  · cases e; rfl
  · cases e
def sZip (g:AA):ASrc:=fun s h=>(g s h).bind fun r=>match r.1 with
  | [a,b]=>(srcL a r.2).bind fun q=>(srcL b r.2).bind fun z=>some ((q.1.zipWith (fun x y=>.nod .tup [x,y]) z.1,q.2 ++ z.2),r.2)
  | _=>none
theorem chk_app {G G':Grd} {h:AH} (e:chk (G ++ G') h = true):chk G h = true ∧ chk G' h = true:=by
  unfold chk at e
  rw [List.all_append,Bool.and_eq_true] at e
  exact e
def sZipT (g:AA):ASrc:=fun s h=>(g s h).bind fun r=>match r.1 with
  | [a,b]=>(srcT a r.2).bind fun q=>(srcT b r.2).bind fun z=>some ((q.1.zipWith (fun x y=>.nod .tup [x,y]) z.1,[]),r.2)
  | _=>none
theorem srcT_inv {a:AV} {h:AH} {xs:List AV} {G:Grd} (e:srcT a h = some (xs,G)):G = [] ∧ look h a = some (.tup,xs):=by
  unfold srcT at e
  split at e
  · rename_i ys hl; cases e; exact ⟨rfl,hl⟩
  · cases e
def sZipA (g:AA):ASrc:=fun s h=>orO (sZip g s h) (sZipT g s h)
theorem ai_zip {e2:Expr} {elts:List Expr} {kk:Nat} {tpos p pos:Pos} {ga:AA} (hg:Gl X "zip") (hm:X.mg "zip" = none) (ha:PA X [e,e2] (tAs (ctX X cl) ga))
    (hs:starEach [e,e2] X.env = (false,eval e X.env) :: starEach [e2] X.env:=by rfl) (hpl:(backTo pos (starEach [e2] X.env)).any (·.1) = false:=by rfl) :
    PI X (.Tuple elts kk tpos) (.Call (.Name "zip" p) [e,e2] [] pos) (tI (ctX X cl) (sZipA ga)):=by
  refine (RZ.pi_zipA hg hm ha hs hpl).wk fun σ H R q=>?_
  obtain ⟨w,s,h,xs,G,h',rs,sr,e,k⟩:=q
  have e':orO (sZip ga s h) (sZipT ga s h) = some ((xs,G),h'):=e
  cases q0:sZip ga s h with
  | some z =>
    rw [q0] at e'
    cases e'
    obtain ⟨⟨vs,h1⟩,e1,e⟩:=bind_some q0
    split at e
    · rename_i a b ev
      have ev':vs = [a,b]:=ev
      subst ev'
      obtain ⟨⟨ys,G1⟩,e2,e⟩:=bind_some e
      obtain ⟨⟨zs,G2⟩,e3,e⟩:=bind_some e
      cases e
      refine ⟨w,s,h,_,h1,rs,sr,e1,fun w1 H1 us t1 s1 r1=>?_⟩
      obtain ⟨u,us',rfl,ru,u2,us2,rfl,ru2,r2⟩:=r1
      obtain rfl:us2 = []:=r2
      obtain ⟨d,ys',rfl,hq,l⟩:=list_still e2 ru (.refl _) s1 ⟨_,s1⟩ (srcL_chk e2)
      obtain ⟨d2,zs',rfl,hq2,l2⟩:=list_still e3 ru2 (.refl _) s1 ⟨_,s1⟩ (srcL_chk e3)
      refine ⟨d,d2,ys',zs',rfl,.inl ⟨hq,hq2,k w1 H1 _ t1 s1 fun w2 H2 h2 i le fz S ck=>?_⟩⟩
      obtain ⟨ck1,ck2⟩:=chk_app ck
      obtain ⟨p',us,e4,q,l⟩:=list_still e2 ru le S ⟨_,s1⟩ ck1
      cases e4
      obtain ⟨p',vs,e4,q2,l2⟩:=list_still e3 ru2 le S ⟨_,s1⟩ ck2
      cases e4
      refine ⟨fun x hx=>?_,fun hi=>⟨us,vs,q,q2,by
        rw [← l.len,← l2.len]
        rw [List.length_zipWith] at hi
        dsimp only at hi
        omega⟩⟩
      rw [List.getElem?_zipWith] at hx
      cases hy:ys[i]? with
      | none=>rw [hy] at hx; cases hx
      | some y =>
        cases hz:zs[i]? with
        | none=>rw [hy,hz] at hx; cases hx
        | some z =>
          rw [hy,hz] at hx
          cases hx
          obtain ⟨u,hu,ru⟩:=l.get hy
          obtain ⟨u',hu',ru'⟩:=l2.get hz
          refine ⟨⟨us,vs,u,u',q,q2,hu,hu'⟩,fun v H' y=>?_⟩
          obtain ⟨T,x,y,rfl,hT,rfl,hx,hy⟩:=y
          have:=hx us q
          rw [hu] at this
          cases this
          have:=hy vs q2
          rw [hu'] at this
          cases this
          exact yld_tup S hT (.cons ru (.cons ru' .nil))
    · cases e
  | none =>
    rw [q0] at e'
    have e':sZipT ga s h = some ((xs,G),h'):=e'
    obtain ⟨⟨vs,h1⟩,e1,e⟩:=bind_some e'
    split at e
    · rename_i a b ev
      have ev':vs = [a,b]:=ev
      subst ev'
      obtain ⟨⟨ys,G1⟩,e2,e⟩:=bind_some e
      obtain ⟨⟨zs,G2⟩,e3,e⟩:=bind_some e
      cases e
      refine ⟨w,s,h,_,h1,rs,sr,e1,fun w1 H1 us t1 s1 r1=>?_⟩
      obtain ⟨u,us',rfl,ru,u2,us2,rfl,ru2,r2⟩:=r1
      obtain rfl:us2 = []:=r2
      obtain ⟨_,hl1⟩:=srcT_inv e2
      obtain ⟨_,hl2⟩:=srcT_inv e3
      obtain ⟨ys,rfl,rfl⟩:=look_tup s1 hl1
      obtain ⟨zs,rfl,rfl⟩:=look_tup s1 hl2
      obtain ⟨d,ys',rfl,n1,l⟩:=ru
      obtain ⟨d2,zs',rfl,n2,l2⟩:=ru2
      have n1:SqT (ctX X cl).K w1.R d ys':=n1
      have n2:SqT (ctX X cl).K w1.R d2 zs':=n2
      refine ⟨d,d2,ys',zs',rfl,.inr ⟨SqT.le s1.le n1,SqT.le s1.le n2,k w1 H1 _ t1 s1 fun w2 H2 h2 i le fz S ck=>?_⟩⟩
      have q:SqT (ctX X cl).K H2 d ys':=SqT.le S.le (SqT.le le.rr n1)
      have q2:SqT (ctX X cl).K H2 d2 zs':=SqT.le S.le (SqT.le le.rr n2)
      have l:=RepL.le le _ _ l
      have l2:=RepL.le le _ _ l2
      refine ⟨fun x hx=>?_,fun hi=>⟨ys',zs',q,q2,by
        rw [← l.len,← l2.len]
        rw [List.length_zipWith] at hi
        dsimp only at hi
        omega⟩⟩
      rw [List.getElem?_zipWith] at hx
      cases hy:ys[i]? with
      | none=>rw [hy] at hx; cases hx
      | some y =>
        cases hz:zs[i]? with
        | none=>rw [hy,hz] at hx; cases hx
        | some z =>
          rw [hy,hz] at hx
          cases hx
          obtain ⟨u,hu,ru⟩:=l.get hy
          obtain ⟨u',hu',ru'⟩:=l2.get hz
          refine ⟨⟨ys',zs',u,u',q,q2,hu,hu'⟩,fun v H' y=>?_⟩
          obtain ⟨T,x,y,rfl,hT,rfl,hx,hy⟩:=y
          have:=hx _ q
          rw [hu] at this
          cases this
          have:=hy _ q2
          rw [hu'] at this
          cases this
          exact yld_tup S hT (.cons ru (.cons ru' .nil))
    · cases e
end
def forL (G:Grd) (g:AG) (b:AS):List AV → LS → AH → Option (AR × AH)
  | [],s,h=>if chk G h = true then some (.nx s,h) else none
  | x :: xs,s,h=>if chk G h = true then (g x s h).bind fun q=>(b q.1 q.2).bind fun r=>match r.1 with
      | .nx s' => forL G g b xs s' r.2
      | .ct s' => forL G g b xs s' r.2
      | .bk s' => some (.nx s',r.2)
      | .rt v=>some (.rt v,r.2)
    else none
def aFor (src:ASrc) (g:AG) (b:AS):AS:=fun s h=>(src s h).bind fun q=>forL q.1.2 g b q.1.1 s q.2
section
variable {X:Cx} {cl:Nat → Str × List Str} {tg iter:Expr} {body:List Stmt} {src:ASrc} {g:AG} {b:AS} {pos:Pos}
theorem tFor_of {c:Ct} {D:Ends} {σ:L2.St} {H:Hp} (q:tS c (aFor src g b) D σ H):tFor (tI c src) (tG c g) (tS c b) D σ H:=by
  obtain ⟨w,s,h,r,h',rs,sr,e,k⟩:=q
  obtain ⟨⟨⟨xs,G⟩,h1⟩,e1,e⟩:=bind_some e
  refine ⟨w,s,h,xs,G,h1,rs,sr,e1,fun w1 H1 J t1 s1 io=>?_⟩
  refine ⟨fun i m σ2 H2=>m = xs.length - i ∧ i ≤ xs.length ∧ ∃ w2 s2 h2,RepS c w2 s2 σ2 ∧ SR c w2 H2 h2 ∧ Tr w1 H1 h1 w2 H2 h2 ∧ forL G g b (xs.drop i) s2 h2 = some (r,h'),
    ⟨xs.length,rfl,Nat.zero_le _,w1,s,h1,rs.le t1.le,s1,.refl _ _ _,e⟩,?_⟩
  rintro i m σ2 H2 ⟨rfl,hi,w2,s2,h2,rs2,sr2,t2,e2⟩
  by_cases hlt:i < xs.length
  · have hd:xs.drop i = xs[i] :: xs.drop (i + 1):=(List.drop_eq_getElem_cons hlt)
    rw [hd] at e2
    have e2':(if chk G h2 = true then (g xs[i] s2 h2).bind fun q=>(b q.1 q.2).bind fun r=>match r.1 with
      | .nx s' => forL G g b (xs.drop (i + 1)) s' r.2
      | .ct s' => forL G g b (xs.drop (i + 1)) s' r.2
      | .bk s' => some (.nx s',r.2)
      | .rt v=>some (.rt v,r.2)
    else none) = some (r,h'):=e2
    by_cases hck:chk G h2 = true
    · rw [if_pos hck] at e2'
      obtain ⟨⟨s3,h3⟩,e3,e2'⟩:=bind_some e2'
      obtain ⟨⟨r4,h4⟩,e4,e5⟩:=bind_some e2'
      obtain ⟨io1,_⟩:=io w2 H2 h2 i t2.le t2.fz sr2 hck
      obtain ⟨go,yl⟩:=io1 xs[i] (List.getElem?_eq_getElem hlt)
      refine .inr ⟨go,fun σ3 H3=>∃ w3 s3 h3,RepS c w3 s3 σ3 ∧ SR c w3 H3 h3 ∧ Tr w1 H1 h1 w3 H3 h3 ∧ forL G g b (xs.drop (i + 1)) s3 h3 = some (r,h'),fun σ' H' q=>⟨_,Nat.sub_lt_sub_left hlt (Nat.lt_succ_self i),rfl,hlt,q⟩,fun x H3 y=>?_⟩
      obtain ⟨w3,t3,sr3,rx⟩:=yl x H3 y
      refine ⟨w3,xs[i],s2,h2,s3,h3,rx,rs2.le t3.le,sr3,e3,fun w4 H4 σ4 t4 sr4 rs4=>?_⟩
      refine ⟨w4,s3,h3,r4,h4,rs4,sr4,e4,fun w5 H5 t5 sr5=>?_⟩
      have tt:=t2.trans (t3.trans (t4.trans t5))
      cases r4 with
      | nx s' => exact fun σ5 rs5=>⟨w5,s',h4,rs5,sr5,tt,e5⟩
      | ct s' => exact fun σ5 rs5=>⟨w5,s',h4,rs5,sr5,tt,e5⟩
      | bk s' =>
        cases e5
        exact fun σ5 rs5=>k w5 H5 (t1.trans tt) sr5 σ5 rs5
      | rt v =>
        cases e5
        exact fun u ru=>k w5 H5 (t1.trans tt) sr5 u ru
    · rw [if_neg hck] at e2'; cases e2'
  · have hd:xs.drop i = []:=List.drop_eq_nil_of_le (Nat.le_of_not_lt hlt)
    rw [hd] at e2
    have e2':(if chk G h2 = true then some (AR.nx s2,h2) else none) = some (r,h'):=e2
    by_cases hck:chk G h2 = true
    · rw [if_pos hck] at e2'
      injection e2' with e2'
      injection e2' with ea eb
      subst ea eb
      exact .inl ⟨(io w2 H2 _ i t2.le t2.fz sr2 hck).2 (Nat.le_of_not_lt hlt),k w2 H2 (t1.trans t2) sr2 σ2 rs2⟩
    · rw [if_neg hck] at e2'; cases e2'
theorem as_for (hp:PassesOwn (model X.prog X.w) X.A X.env X.xe) (hc:X.calm = true) (hi:PI X tg iter (tI (ctX X cl) src)) (hg:PG X tg (tG (ctX X cl) g)) (hb:PSs X body (tS (ctX X cl) b))
    (hs:∀ x,foldedSetIterable iter X.env x = pure x:=by intro _; rfl):PS X (.For tg iter body [] pos) (tS (ctX X cl) (aFor src g b)):=(ps_for hp hc hi hg hb hs).wk fun D σ H q=>tFor_of q
end
end Rp
end
section
namespace Rp
open PySem PySem.Spec PyProof.Rows L2
def wipeA (s:LS):List Nat → LS
  | []=>s
  | v :: vs=>(wipeA s vs).set v none
theorem RepS.wipes {c:Ct} {w:Wd} {s:LS} {σ:L2.St} (r:RepS c w s σ):∀ vs:List Nat,RepS c w (wipeA s vs) (L2.wipe σ vs)
  | []=>r
  | v :: vs=>(RepS.wipes r vs).wipe v
theorem wipe_in {σ:L2.St} {i:Nat}:∀ {vs:List Nat},i ∈ vs → (wipe σ vs)[i]? = if i < σ.length then some none else none
  | v :: vs,h=>by
    unfold wipe
    by_cases hv:v = i
    · subst hv
      rw [List.getElem?_set,if_pos rfl,wipe_length]
    · rw [List.getElem?_set,if_neg hv]
      exact wipe_in (by
        rcases List.mem_cons.mp h with e | e
        · exact absurd e.symm hv
        · exact e)
theorem wipe_same {σ τ:L2.St} {vs:List Nat} (hl:σ.length = τ.length) (h:∀ i,i ∉ vs → σ[i]? = τ[i]?):wipe σ vs = wipe τ vs:=by
  refine List.ext_getElem? fun i=>?_
  by_cases hi:i ∈ vs
  · rw [wipe_in hi,wipe_in hi,hl]
  · rw [wipe_out hi,wipe_out hi]; exact h i hi
theorem wipe_set {σ:L2.St} {vs:List Nat} {i:Nat} {x:Option V} (hi:i ∈ vs):wipe (σ.set i x) vs = wipe σ vs :=
  wipe_same (by rw [List.length_set]) fun j hj=>by rw [List.getElem?_set_ne (fun e=>hj (by rw [← e]; exact hi))]
theorem wipe_idem {σ:L2.St} {vs:List Nat}:wipe (wipe σ vs) vs = wipe σ vs:=wipe_same (wipe_length σ vs) fun j hj=>wipe_out hj
def tGv (c:Ct) (vs:List Nat) (f:AG):TG:=fun v σ H Q=>∃ w a s h s' h',RepV c w a v ∧ RepS c w s σ ∧ SR c w H h ∧ f a s h = some (s',h') ∧ ∀ w' H' σ',Tr w H h w' H' h' → SR c w' H' h' → RepS c w' s' σ' → wipe σ' vs = wipe σ vs → Q σ' H'
def tGvs (c:Ct) (vs:List Nat) (f:AGs):TGs:=fun us σ H Q=>∃ w as s h s' h',RepL c w as us ∧ RepS c w s σ ∧ SR c w H h ∧ f as s h = some (s',h') ∧ ∀ w' H' σ',Tr w H h w' H' h' → SR c w' H' h' → RepS c w' s' σ' → wipe σ' vs = wipe σ vs → Q σ' H'
section
variable {X:Cx} {cl:Nat → Str × List Str} {pos:Pos} {e:Expr} {es:List Expr} {g:AG} {gs:AGs} {vs:List Nat}
theorem av_name {x:Str} (i:Nat) (hN:X.N.Nodup) (hv:i ∈ vs:=by decide) (hi:X.N[i]? = some x:=by rfl) (hx:Loc X.env.scope x:=by first | exact Or.inl rfl | exact Or.inr rfl) (hf:X.fn x = true ∨ X.env.scope.names.lookup x = some .local:=by first | exact .inl rfl | exact .inr rfl | assumption):PG X (.Name x pos) (tGv (ctX X cl) vs (gNm i)):=by
  refine (pg_name hN hi hx hf).wk fun v σ H Q q=>?_
  obtain ⟨w,a,s,h,s',h',ra,rs,sr,e,k⟩:=q
  cases e
  exact k w H _ (.refl _ _ _) sr (rs.set i ra) (wipe_set hv)
theorem avs_nil:PGs X [] (tGvs (ctX X cl) vs gsNil):=pgs_nil.wk fun v σ H Q q=>by
  obtain ⟨w,as,s,h,s',h',ra,rs,sr,e,k⟩:=q
  cases as with
  | nil =>
    cases e
    exact ⟨ra,k w H _ (.refl _ _ _) sr rs rfl⟩
  | cons _ _=>cases e
theorem avs_cons (h1:PG X e (tGv (ctX X cl) vs g)) (h2:PGs X es (tGvs (ctX X cl) vs gs)) (hs:(assignEach (e :: es) X.env).map (·.2) = assign e X.env :: (assignEach es X.env).map (·.2):=by rfl):PGs X (e :: es) (tGvs (ctX X cl) vs (gsCons g gs)):=by
  refine (pgs_cons h1 h2 hs).wk fun v σ H Q q=>?_
  obtain ⟨w,as,s,h,s',h',ra,rs,sr,e,k⟩:=q
  cases as with
  | nil=>cases e
  | cons a as =>
    obtain ⟨u,us,rfl,r1,r2⟩:=ra
    obtain ⟨⟨s1,h1⟩,e1,e⟩:=bind_some e
    refine ⟨u,us,rfl,⟨w,a,s,h,s1,h1,r1,rs,sr,e1,fun w1 H1 σ1 t1 sr1 rs1 wp1=>?_⟩⟩
    exact ⟨w1,as,s1,h1,s',h',RepL.le t1.le _ _ r2,rs1,sr1,e,fun w2 H2 σ2 t2 sr2 rs2 wp2=>k w2 H2 σ2 (t1.trans t2) sr2 rs2 (wp2.trans wp1)⟩
theorem av_sq {k n:Nat} (hc:X.calm = true) (h:PGs X es (tGvs (ctX X cl) vs gs)) (hn:(assignEach es X.env).length = n:=by rfl) (hst:(assignEach es X.env).findIdx? (·.1) = none:=by rfl)
    (hu:∀ {t:TGs},PGs X es t → PG X (.Tuple es k pos) (gUnl X.K n t):=by exact fun h=>pg_unl (by assumption) h):PG X (.Tuple es k pos) (tGv (ctX X cl) vs (gSq n gs)):=by
  refine (pg_or (pg_tup hc h hn hst) (hu h)).wk fun v σ H Q q=>?_
  obtain ⟨w,a,s,h,s',h',ra,rs,sr,e,k⟩:=q
  obtain ⟨xs,e1,e⟩:=bind_some e
  split at e
  · rename_i hl
    obtain ⟨p,us,rfl,hq,l⟩:=seqOf_ok sr ra e1
    have go:tGvs (ctX X cl) vs gs us σ H Q:=⟨w,xs,s,h,s',h',l,rs,sr,e,k⟩
    rcases hq with hq | hq
    · exact .inr ⟨p,us,rfl,hq,by rw [← l.len]; exact hl,go⟩
    · exact .inl ⟨p,us,rfl,hq,by rw [← l.len]; exact hl,go⟩
  · cases e
end
def cutH (H:Hp) (D:Addr):Hp:=fun a=>if a = D then none else H a
theorem cut_same {H:Hp} {D:Addr}:cutH H D D = none:=if_pos rfl
theorem cut_ne {H:Hp} {D a:Addr} (h:a ≠ D):cutH H D a = H a:=if_neg h
theorem upd_cut {H:Hp} {D:Addr} {o:HO} (e:H D = some o):upd (cutH H D) D o = H:=by
  funext a
  by_cases h:a = D
  · rw [h,upd_same,e]
  · rw [upd_ne h,cut_ne h]
section
variable {c:Ct} {w w1 w2:Wd} {H H1 H2:Hp} {h h1 h2:AH} {D:Addr} {o:HO}
theorem SR.at_off (S:SR c w H h) (n:¬ Own w h D) (hd:∀ φ,H D ≠ some (.ext φ)) {H':Hp} (hH:∀ a,a ≠ D → H' a = H a):SR c w H' h:=by
  have ne:∀ a,Own w h a → a ≠ D:=fun a q e=>n (e ▸ q)
  refine ⟨fun a z e=>?_,fun m k xs e=>?_,S.inj,S.sep,S.nx⟩
  · rw [hH a (ne a (.inl (by rw [e]; exact nofun)))]; exact S.le a z e
  · obtain ⟨p,us,e1,nm,r⟩:=S.cell m k xs e
    exact ⟨p,us,e1,nm.at (hH p (ne p (.inr ⟨m,by rw [e]; rfl,e1⟩))) (fun b φ z=>by rw [hH b (fun q=>hd φ (q ▸ z))]; exact z),r⟩
theorem Tr.at_off (T:Tr w1 H1 h1 w H h) (hD:H1 D = none) {H':Hp} (hH:∀ a,a ≠ D → H' a = H a):Tr w1 H1 h1 w H' h:=by
  have ne:∀ a,H1 a ≠ none → a ≠ D:=fun a q e=>q (e ▸ hD)
  refine ⟨T.le,fun a z e nn=>?_,T.nw,fun a e=>?_,fun a z u e=>?_⟩
  · rw [hH a (ne a (by rw [e]; exact nofun))]; exact T.fr a z e nn
  · rw [hH a (ne a e)]; exact T.st a e
  · rw [hH a (ne a (by rw [e]; exact nofun))]; exact T.fz a z u e
theorem Tr.off (T:Tr w1 H1 h1 w2 H2 h2) (n:¬ Own w1 h1 D) (e:H1 D = some o):¬ Own w2 h2 D ∧ H2 D = some o:=by
  refine ⟨fun q=>?_,T.fr D o e n⟩
  rcases T.nw D q with z | z
  · exact n z
  · rw [e] at z; cases z
theorem SR.notOwn (S:SR c w H h) (hD:H D = none):¬ Own w h D:=fun q=>S.own_there q hD
end
def aYes:AT:=fun _ h=>some (true,h)
def lcL (G:Grd) (g:AG) (t:AT) (f:AE) (s0:LS):List AV → List AV → AH → Option (List AV × AH)
  | [],acc,h=>if chk G h = true then some (acc,h) else none
  | x :: xs,acc,h=>if chk G h = true then (g x s0 h).bind fun q=>(t q.1 q.2).bind fun b =>
      if b.1 = true then (f q.1 b.2).bind fun y=>if acc.length < sizeLine then lcL G g t f s0 xs (acc ++ [y.1]) y.2 else none
      else lcL G g t f s0 xs acc b.2
    else none
def aLc (mk:Kd → List AV → AH → Option (AV × AH)) (src:ASrc) (g:AG) (t:AT) (f:AE) (vs:List Nat):AE:=fun s h=>(src s h).bind fun q=>(lcL q.1.2 g t f (wipeA s vs) q.1.1 [] q.2).bind fun r=>mk .lst r.1 r.2
def LcI (c:Ct) (w1:Wd) (H1:Hp) (h1:AH) (D:Addr) (P:List AV → AH → Prop) (H:Hp):Prop:=∃ w h acc us,SR c w H h ∧ Tr w1 H1 h1 w H h ∧ ¬ Own w h D ∧ H D = some (.lst us) ∧ RepL c w acc us ∧ P acc h
theorem lcI_start {c:Ct} {w1:Wd} {H1:Hp} {h1:AH} {D:Addr} {P:List AV → AH → Prop} (S:SR c w1 H1 h1) (hD:H1 D = none) (p:P [] h1):LcI c w1 H1 h1 D P (upd H1 D (.lst [])) :=
  ⟨w1,h1,[],[],S.at_off (S.notOwn hD) (fun φ z=>by rw [hD] at z; cases z) fun a ha=>upd_ne ha,(Tr.refl _ _ _).at_off hD fun a ha=>upd_ne ha,S.notOwn hD,upd_same,rfl,p⟩
theorem lcI_end {c:Ct} {w0 w1:Wd} {H0 H1:Hp} {h0 h1:AH} {D:Addr} {mk:Kd → List AV → AH → Option (AV × AH)} (hm:mkOk mk) {acc:List AV} {us:List V} {w:Wd} {H:Hp} {h h':AH} {v:AV} (hD:H1 D = none) (T0:Tr w0 H0 h0 w1 H1 h1)
    (S:SR c w H h) (T:Tr w1 H1 h1 w H h) (n:¬ Own w h D) (e:H D = some (.lst us)) (l:RepL c w acc us) (em:mk .lst acc h = some (v,h')):∃ w',SR c w' H h' ∧ Tr w0 H0 h0 w' H h' ∧ RepV c w' v (.ref D):=by
  have S':SR c w (cutH H D) h:=S.at_off n (fun φ z=>by rw [e] at z; cases z) fun a ha=>cut_ne ha
  have T':Tr w1 H1 h1 w (cutH H D) h:=T.at_off hD fun a ha=>cut_ne ha
  obtain ⟨_,q⟩:=mk_ok hm S' l em
  obtain ⟨w',S2,T2,r⟩:=q D cut_same
  rw [upd_cut e] at S2 T2
  exact ⟨w',S2,T0.trans (T'.trans T2),r⟩
theorem lcI_push {c:Ct} {w1 w2 w3:Wd} {H1 H2 H3:Hp} {h1 h2 h3:AH} {D:Addr} {acc:List AV} {us:List V} {y:AV} {u:V} {P:List AV → AH → Prop} (hD:H1 D = none) (T:Tr w1 H1 h1 w2 H2 h2) (n:¬ Own w2 h2 D) (e:H2 D = some (.lst us)) (l:RepL c w2 acc us)
    (T2:Tr w2 H2 h2 w3 H3 h3) (S3:SR c w3 H3 h3) (r:RepV c w3 y u) (hz:acc.length < sizeLine) (p:P (acc ++ [y]) h3):∃ acc,H3 D = some (.lst acc) ∧ acc.length < sizeLine ∧ LcI c w1 H1 h1 D P (upd H3 D (.lst (acc ++ [u]))):=by
  obtain ⟨n3,e3⟩:=T2.off n e
  refine ⟨us,e3,by rw [← l.len]; exact hz,w3,h3,acc ++ [y],us ++ [u],S3.at_off n3 (fun φ z=>by rw [e3] at z; cases z) fun a ha=>upd_ne ha,(T.trans T2).at_off hD fun a ha=>upd_ne ha,n3,upd_same,?_,p⟩
  exact (RepL.le T2.le _ _ l).append (.cons r .nil)
section
variable {X:Cx} {cl:Nat → Str × List Str} {mk:Kd → List AV → AH → Option (AV × AH)} {src:ASrc} {g:AG} {t:AT} {f:AE} {vs:List Nat}
theorem tLc_of {c:Ct} (hm:mkOk mk) {σ:L2.St} {H:Hp} {Q:VK} (q:tA c (aLc mk src g t f vs) σ H Q):tLc (tI c src) (tGv c vs g) (tT c t) (tA c f) vs σ H Q:=by
  obtain ⟨w,s,h,v,h',rs,sr,e,k⟩:=q
  obtain ⟨⟨⟨xs,G⟩,h1⟩,e1,e⟩:=bind_some e
  obtain ⟨⟨accF,hF⟩,eF,em⟩:=bind_some e
  refine ⟨w,s,h,xs,G,h1,rs,sr,e1,fun w1 H1 J t1 s1 io=>fun D hD=>?_⟩
  have rs1:=(rs.wipes vs).le t1.le
  refine ⟨fun i m H2=>m = xs.length - i ∧ i ≤ xs.length ∧ LcI c w1 H1 h1 D (fun acc h2=>lcL G g t f (wipeA s vs) (xs.drop i) acc h2 = some (accF,hF)) H2,⟨xs.length,rfl,Nat.zero_le _,lcI_start s1 hD eF⟩,?_⟩
  rintro i m H2 ⟨rfl,hi,w2,h2,acc,us,sr2,t2,no,eD,l,e2⟩
  by_cases hlt:i < xs.length
  · have hd:xs.drop i = xs[i] :: xs.drop (i + 1):=(List.drop_eq_getElem_cons hlt)
    rw [hd] at e2
    have e2':(if chk G h2 = true then (g xs[i] (wipeA s vs) h2).bind fun q=>(t q.1 q.2).bind fun b =>
      if b.1 = true then (f q.1 b.2).bind fun y=>if acc.length < sizeLine then lcL G g t f (wipeA s vs) (xs.drop (i + 1)) (acc ++ [y.1]) y.2 else none
      else lcL G g t f (wipeA s vs) (xs.drop (i + 1)) acc b.2 else none) = some (accF,hF):=e2
    by_cases hck:chk G h2 = true
    · rw [if_pos hck] at e2'
      obtain ⟨⟨s3,h3⟩,e3,e2'⟩:=bind_some e2'
      obtain ⟨⟨b4,h4⟩,e4,e5⟩:=bind_some e2'
      obtain ⟨io1,_⟩:=io w2 H2 h2 i t2.le t2.fz sr2 hck
      obtain ⟨go,yl⟩:=io1 xs[i] (List.getElem?_eq_getElem hlt)
      refine .inr ⟨go,LcI c w1 H1 h1 D (fun acc h2=>lcL G g t f (wipeA s vs) (xs.drop (i + 1)) acc h2 = some (accF,hF)),fun H' q=>⟨_,Nat.sub_lt_sub_left hlt (Nat.lt_succ_self i),rfl,hlt,q⟩,fun x H3 y=>?_⟩
      obtain ⟨w3,t3,sr3,rx⟩:=yl x H3 y
      refine ⟨w3,xs[i],wipeA s vs,h2,s3,h3,rx,(rs1.le t2.le).le t3.le,sr3,e3,fun w4 H4 σ4 t4 sr4 rs4 wp=>⟨wp.trans wipe_idem,?_⟩⟩
      refine ⟨w4,s3,h3,b4,h4,rs4,sr4,e4,fun w5 H5 t5 sr5=>?_⟩
      have tt:=t3.trans (t4.trans t5)
      cases b4 with
      | true =>
        rw [if_pos rfl] at e5
        dsimp only
        rw [if_pos rfl]
        obtain ⟨⟨y6,h6⟩,e6,e7⟩:=bind_some e5
        split at e7
        · rename_i hz
          exact ⟨w5,s3,h4,y6,h6,rs4.le t5.le,sr5,e6,fun w6 H6 u t6 sr6 r6=>lcI_push hD t2 no eD l (tt.trans t6) sr6 r6 hz e7⟩
        · cases e7
      | false =>
        rw [if_neg Bool.false_ne_true] at e5
        dsimp only
        rw [if_neg Bool.false_ne_true]
        obtain ⟨no5,eD5⟩:=tt.off no eD
        exact ⟨w5,h4,acc,us,sr5,t2.trans tt,no5,eD5,RepL.le tt.le _ _ l,e5⟩
    · rw [if_neg hck] at e2'; cases e2'
  · have hd:xs.drop i = []:=List.drop_eq_nil_of_le (Nat.le_of_not_lt hlt)
    rw [hd] at e2
    have e2':(if chk G h2 = true then some (acc,h2) else none) = some (accF,hF):=e2
    by_cases hck:chk G h2 = true
    · rw [if_pos hck] at e2'
      injection e2' with e2'
      injection e2' with ea eb
      subst ea eb
      obtain ⟨w',S',T',r'⟩:=lcI_end hm hD t1 sr2 t2 no eD l em
      exact .inl ⟨(io w2 H2 _ i t2.le t2.fz sr2 hck).2 (Nat.le_of_not_lt hlt),k w' H2 _ T' S' r'⟩
    · rw [if_neg hck] at e2'; cases e2'
abbrev InBlk (X:Cx) (scope:Scope) (P:Cx → Prop):Prop:=∀ (s:Shared) (H:Hp) (C:Addr) (l:List (Str × Addr)) (fp:List Addr),P (X.blk s H scope (compEnvC scope l C X.env) fp)
section
variable {elt tg iter:Expr} {ifs:List Expr} {scope:Scope} {own:List (Str × Nat)} {pos spos py:Pos}
theorem ae_lc {own:List (Str × Nat)} (hm:mkOk mk) (hc:X.calm = true) (hN:X.N.Nodup) (hi:PI X tg iter (tI (ctX X cl) src)) (ok:BlkOk X.N X.env.scope scope own)
    (hg:InBlk X scope fun Y=>PG Y tg (tGv (ctX X cl) (own.map (·.2)) g)) (ht:InBlk X scope fun Y=>PTs Y ifs (tT (ctX X cl) t)) (he:InBlk X scope fun Y=>PE Y elt (tA (ctX X cl) f)) (hs:∀ x,foldedSetIterable iter X.env x = pure x:=by intro _; rfl) :
    PE X (.ListComp elt [⟨tg,iter,ifs,0⟩] scope pos) (tA (ctX X cl) (aLc mk src g t f (own.map (·.2)))):=(pe_lc hc hN hi ok hg ht he hs).wk fun _ _ _ q=>tLc_of hm q
theorem as_setLc {own:List (Str × Nat)} {y:Str} (i:Nat) (hm:mkOk mk) (hc:X.calm = true) (hN:X.N.Nodup) (hi:PI X tg iter (tI (ctX X cl) src)) (ok:BlkOk X.N X.env.scope scope own)
    (hg:InBlk X scope fun Y=>PG Y tg (tGv (ctX X cl) (own.map (·.2)) g)) (ht:InBlk X scope fun Y=>PTs Y ifs (tT (ctX X cl) t)) (he:InBlk X scope fun Y=>PE Y elt (tA (ctX X cl) f))
    (hsw:swapsWith (.ListComp elt [⟨tg,iter,ifs,0⟩] scope pos) (some (.Name y py)) spos.line X.env = pure true)
    (hy:X.N[i]? = some y:=by rfl) (hyl:X.env.scope.names.lookup y = some .local:=by rfl) (hs:∀ x,foldedSetIterable iter X.env x = pure x:=by intro _; rfl) :
    PS X (.Assign [.Name y py] (.ListComp elt [⟨tg,iter,ifs,0⟩] scope pos) spos) (tS (ctX X cl) (aAsg (aLc mk src g t f (own.map (·.2))) (gNm i))):=by
  refine (ps_setLc hc hN hy hyl hsw hi ok hg ht he hs).wk fun D σ H q=>?_
  have q1:=tAsg_of q
  refine tLc_of hm ?_
  obtain ⟨w,s,h,v,h',rs,sr,e,kk⟩:=q1
  refine ⟨w,s,h,v,h',rs,sr,e,fun w1 H1 u t1 s1 r1=>?_⟩
  obtain ⟨w2,a,s2,h2,s3,h3,ra,rs2,sr2,e2,k2⟩:=kk w1 H1 u t1 s1 r1
  cases e2
  exact k2 w2 H1 _ (.refl _ _ _) sr2 (rs2.set i ra)
theorem at_none {Y:Cx} {c:Ct}:PTs Y [] (tT c aYes):=⟨fun pins s σ H Q I hw=>pts_nil.run pins s σ H Q I (by
  obtain ⟨w,s,h,v,h',rs,sr,e,k⟩:=hw
  cases e
  exact k w H (.refl _ _ _) sr)⟩
end
variable {src1:ASrc} {g1:AG} {t':AT} {vs1:List Nat}
section
variable {elt tg iter tg1 iter1:Expr} {ifs ifs1:List Expr} {scope:Scope} {pos spos py:Pos}
end
end
section
variable {X:Cx} {cl:Nat → Str × List Str} {src:ASrc} {g:AG} {t:AT} {fk fv:AE} {vs:List Nat}
end
end Rp
end
section
namespace Rp
open PySem PySem.Spec PyProof.Rows L2
section
variable {X:Cx} {cl:Nat → Str × List Str} {pos apos cpos p:Pos} {o e e2:Expr} {es:List Expr} {f:AE} {g:AA} {mk:Kd → List AV → AH → Option (AV × AH)}
def B1 (X:Cx) (o:Expr) (name:Str) (e:Expr) (es:List Expr) (apos cpos:Pos):Prop:=attributeBase o name X.env (eval o X.env) = eval o X.env ∧
  ((backTo cpos (starEach (e :: es) X.env)).all (fun x=>!x.1) && (backToKw cpos (keywordEach [] X.env)).all (fun x=>x.1.isSome) && decide ((e :: es).length + ([]:List Keyword).length + (if ([]:List Keyword).isEmpty then 0 else 1) < 30)) = true ∧
  (apos.endLine == cpos.line) = true ∧ starEach (e :: es) X.env = (false,eval e X.env) :: starEach es X.env ∧ (backTo cpos (starEach es X.env)).any (·.1) = false
theorem w_append (ho:PE X o (tA (ctX X cl) f)) (ha:PA X [e] (tAs (ctX X cl) g)) (b:B1 X o "append" e [] apos cpos:=by exact ⟨rfl,rfl,rfl,rfl,rfl⟩):PE X (.Call (.Attribute o "append" apos) [e] [] cpos) (tA (ctX X cl) (aBM "list" aAppend f g)) :=
  ae_bm (.inr (.inl rfl)) PySem.F.plainAttrs_list PySem.F.slot_list_append PySem.F.type_list_append mt_append s_append ho ha (h:=fun h1 h2=>pe_bm PySem.F.plainAttrs_list PySem.F.slot_list_append PySem.F.type_list_append mt_append h1 h2 b.1 b.2.1 b.2.2.1 b.2.2.2.1 b.2.2.2.2)
theorem w_split (hm:mkOk mk) (ho:PE X o (tA (ctX X cl) f)) (ha:PA X [e] (tAs (ctX X cl) g)) (b:B1 X o "split" e [] apos cpos:=by exact ⟨rfl,rfl,rfl,rfl,rfl⟩):PE X (.Call (.Attribute o "split" apos) [e] [] cpos) (tA (ctX X cl) (aBM "str" (aSplit mk) f g)) :=
  ae_bm (.inl rfl) PySem.F.plainAttrs_str PySem.F.slot_str_split PySem.F.type_str_split mt_split (s_split hm) ho ha (h:=fun h1 h2=>pe_bm PySem.F.plainAttrs_str PySem.F.slot_str_split PySem.F.type_str_split mt_split h1 h2 b.1 b.2.1 b.2.2.1 b.2.2.2.1 b.2.2.2.2)
theorem w_join (ho:PE X o (tA (ctX X cl) f)) (ha:PA X [e] (tAs (ctX X cl) g)) (b:B1 X o "join" e [] apos cpos:=by exact ⟨rfl,rfl,rfl,rfl,rfl⟩):PE X (.Call (.Attribute o "join" apos) [e] [] cpos) (tA (ctX X cl) (aBM "str" aJoin f g)) :=
  ae_bm (.inl rfl) PySem.F.plainAttrs_str PySem.F.slot_str_join PySem.F.type_str_join mt_join s_join ho ha (h:=fun h1 h2=>pe_bm PySem.F.plainAttrs_str PySem.F.slot_str_join PySem.F.type_str_join mt_join h1 h2 b.1 b.2.1 b.2.2.1 b.2.2.2.1 b.2.2.2.2)
theorem w_len (hm0:X.mg "len" = none) (ha:PA X [e] (tAs (ctX X cl) g)) (hg:Gl X "len" := by rfl) (he:starEach [e] X.env = (false,eval e X.env) :: starEach [] X.env:=by rfl) (hpl:(backTo pos (starEach [] X.env)).any (·.1) = false:=by rfl):PE X (.Call (.Name "len" p) [e] [] pos) (tA (ctX X cl) (aArgs (one aLenV) g)) :=
  ae_blt c_len s_len hm0 boot_len ha hg (by decide) (by decide) he hpl
theorem w_list (hm:mkOk mk) (hm0:X.mg "list" = none) (ha:PA X [e] (tAs (ctX X cl) g)) (hg:Gl X "list" := by rfl) (he:starEach [e] X.env = (false,eval e X.env) :: starEach [] X.env:=by rfl) (hpl:(backTo pos (starEach [] X.env)).any (·.1) = false:=by rfl):PE X (.Call (.Name "list" p) [e] [] pos) (tA (ctX X cl) (aArgs (one (aListV mk)) g)) :=
  ae_ty call_list_of (s_list hm) hm0 boot_list ha hg (by decide) (by decide) he hpl
theorem w_tuple (hm0:X.mg "tuple" = none) (ha:PA X [e] (tAs (ctX X cl) g)) (hg:Gl X "tuple" := by rfl) (he:starEach [e] X.env = (false,eval e X.env) :: starEach [] X.env:=by rfl) (hpl:(backTo pos (starEach [] X.env)).any (·.1) = false:=by rfl):PE X (.Call (.Name "tuple" p) [e] [] pos) (tA (ctX X cl) (aArgs (one aTupV) g)) :=
  ae_ty call_tuple_of s_tup hm0 boot_tuple ha hg (by decide) (by decide) he hpl
theorem w_all (hc:X.calm = true) (hm0:X.mg "all" = none) (ha:PA X [e] (tAs (ctX X cl) g)) (hg:Gl X "all" := by rfl) (he:starEach [e] X.env = (false,eval e X.env) :: starEach [] X.env:=by rfl) (hpl:(backTo pos (starEach [] X.env)).any (·.1) = false:=by rfl):PE X (.Call (.Name "all" p) [e] [] pos) (tA (ctX X cl) (aArgs (one aAllV) g)) :=
  ae_blt (cr_all hc) s_all hm0 rfl ha hg (by decide) (by decide) he hpl
theorem w_isi (hm0:X.mg "isinstance" = none) (ha:PA X [e,e2] (tAs (ctX X cl) g)) (hg:Gl X "isinstance" := by rfl) (he:starEach [e,e2] X.env = (false,eval e X.env) :: starEach [e2] X.env:=by rfl) (hpl:(backTo pos (starEach [e2] X.env)).any (·.1) = false:=by rfl):PE X (.Call (.Name "isinstance" p) [e,e2] [] pos) (tA (ctX X cl) (aArgs (two aIsi) g)) :=
  ae_blt call_isi s_isi hm0 rfl ha hg (by decide) (by decide) he hpl
end
end Rp
end
section
namespace Rp
open PySem PySem.Spec PyProof.Rows L2
def startA (m:Nat) (as:List AV):LS:=as.map some ++ List.replicate (m - as.length) none
def fnA (m:Nat) (f:AS):AF:=fun as h=>(f (startA m as) h).bind fun r=>match r.1 with
  | .nx _=>some (.non,r.2)
  | .rt v=>some (v,r.2)
  | _=>none
theorem reps_start {c:Ct} {w:Wd} {as:List AV} {vs:List V} (l:RepL c w as vs) (N:List Str):RepS c w (startA N.length as) (L2.start N vs):=by
  have hl:=l.len
  refine ⟨?_,fun j a e=>?_⟩
  · unfold startA L2.start
    simp [hl]
  · unfold startA at e
    by_cases hj:j < as.length
    · rw [List.getElem?_append_left (by simpa using hj),List.getElem?_map] at e
      cases q:as[j]? with
      | none=>rw [q] at e; cases e
      | some b =>
        rw [q] at e
        have e':some (some b) = some (some a):=e
        cases e'
        obtain ⟨u,hu,ru⟩:=l.get q
        refine ⟨u,?_,ru⟩
        unfold L2.start
        rw [List.getElem?_append_left (by rw [List.length_map,← hl]; exact hj),List.getElem?_map,hu]; rfl
    · rw [List.getElem?_append_right (by simpa using Nat.le_of_not_lt hj)] at e
      obtain ⟨_,e⟩:=List.getElem?_eq_some_iff.mp e
      rw [List.getElem_replicate] at e
      cases e
section
variable {P:Program} {w:World} {K:PySem.W.Frag} {mg:Str → Option Value} {base:Heap} {x qual:Str} {params:Arguments} {body:List Stmt} {scope:Scope} {dvs:List V} {kws:List (Str × V)} {f:Addr} {fd:FuncData} {N ps:List Str} {cl:Nat → Str × List Str} {k:Nat}
theorem fnA_end {c:Ct} {m n:Nat} {fA:AS} {vs:List V} {H:Hp} {Q:VK} {N:List Str} (hN:N.length = m) (q:∃ w h as v h',as.length = n ∧ RepL c w as vs ∧ SR c w H h ∧ lenF n (fnA m fA) as h = some (v,h') ∧ ∀ w' H' u,Tr w H h w' H' h' → SR c w' H' h' → RepV c w' v u → Q u H') :
    tS c fA { nx:=fun _ H' => Q .non H',rt:=Q } (L2.start N vs) H:=by
  obtain ⟨w,h,as,v,h',hl,l,sr,e,k⟩:=q
  subst hN
  obtain ⟨⟨r,h1⟩,e1,e⟩:=bind_some (lenF_len e).2
  refine ⟨w,_,h,r,h1,reps_start l N,sr,e1,fun w1 H1 t1 s1=>?_⟩
  cases r with
  | nx s=>cases e; exact fun _ _=>k w1 H1 .non t1 s1 rfl
  | rt v=>cases e; exact fun u ru=>k w1 H1 u t1 s1 ru
  | bk s=>cases e
  | ct s=>cases e
theorem fn_ok (F:FunD K x qual params body scope dvs kws f fd) (S:FnScope N ps scope) (m n:Nat) (hm:N.length = m) (hn:ps.length = n) (fA:AS)
    (hb:∀ (cdv:Value) (A:Around) (outer:List Env) (s:Shared) (H:Hp) (E:XK),Room k (cxOf CX0 P w K mg base N qual scope f cdv A outer s H E).nox.A → (cxOf CX0 P w K mg base N qual scope f cdv A outer s H E).nox.A.units + 64 < cLine →
      PSs (cxOf CX0 P w K mg base N qual scope f cdv A outer s H E).nox body (tS ⟨K,w,mg,cl⟩ fA)):FnOk P w K mg base CX0 (k + 1) f fd ps (spA ⟨K,w,mg,cl⟩ n (lenF n (fnA m fA))):=by
  refine F.ok S (fun vs H Q E h=>?_) (fun cdv A outer s H vs Q E hr h=>⟨_,PSs.nox (hb cdv A outer s H E hr hr.units),fnA_end hm h⟩)
  obtain ⟨w',h',as,v,h1,hl,l,_⟩:=h
  rw [← l.len,hl,hn]
theorem fn_none {fd:FuncData} (n:Nat) (hn:ps.length = n):FnOk P w K mg base CX0 0 f fd ps (spA ⟨K,w,mg,cl⟩ n (lenF n fun _ _=>none)):=by
  refine ⟨fun vs H Q E h=>?_,fun A outer s H args us vs Q E hr e0 hb r hsp=>?_⟩
  · obtain ⟨w',h',as,v,h1,hl,l,_⟩:=h
    rw [← l.len,hl,hn]
  · obtain ⟨w',h',as,v,h1,hl,l,sr,e,_⟩:=hsp
    have:=(lenF_len e).2
    cases this
end
end Rp
end
section
namespace Rp
open PySem PySem.Spec PyProof.Rows L2
section
variable {X:Cx} {cl:Nat → Str × List Str} {pos tpos:Pos} {o e:Expr} {f:AE} {fn:Str} {k j:Nat} {a:Addr}
def aAugF (k j:Nat) (f g:AE):AS:=fun s h=>(f s h).bind fun r=>(aFldV k j r.1 r.2).bind fun x=>match x.1 with
  | .int m=>(g s r.2).bind fun y=>match y.1 with
    | .int n=>(setFld k j r.1 (.int (m + n)) y.2).bind fun h' => some (.nx s,h')
    | _=>none
  | _=>none
end
section
variable {prog:Program} {w:World} {A:Around} {E:Value → Shared → Prop} {s:Shared}
theorem star_unpack {l:Addr} {items:Array Value} {n i:Nat} {Q:List Value → Shared → Prop} (hl:s.heap.IsList l items) (hh:A.handled = none) (hi:i < n) (hn:n ≤ items.size + 1) (hz:items.size ≤ 16384)
    (h:∀ (h':Heap) (tk:Tok),(∀ b o,b ≠ s.heap.objs.size → s.heap.get? b = some o → h'.get? b = some o) → Q (items.toList.take i ++ [.ref h'.objs.size] ++ (items.toList.drop i).drop (items.size + 1 - n))
      { s with heap:=h'.push { cls:=.type "list",data:=.seq ((items.toList.drop i).take (items.size + 1 - n)).toArray },toks:=tk }):wpAny (model prog w) A (unpackItems (.ref l) n (some i)) Q E s:=by
  have hlt:l ≠ s.heap.objs.size:=by obtain ⟨o,ho,_⟩:=hl; exact Nat.ne_of_lt (Heap.lt_size ho)
  have hll:l < s.heap.objs.size:=by obtain ⟨o,ho,_⟩:=hl; exact Heap.lt_size ho
  unfold unpackItems
  refine wpAny_bind ?_
  unfold notIterableAtAll
  refine wpAny_bind (wpAny_specialOf hl.typeIs slot_list_iter.lookup ?_)
  refine wpAny_pure ?_
  simp only [Bool.false_eq_true,if_false]
  refine wpAny_bind (wpAny_holding (wpAny_pyIter_list hl ?_))
  refine wpAny_bind (wpAny_holding (PySem.W.kun_draw hlt i 0 _ _ ⟨_,Heap.get?_push_size _ rfl,rfl,rfl⟩ (hl.push _) (by omega) fun h₁ hit₁ hs₁=>?_))
  have hl₁:h₁.IsList l items:=(hl.push _).extBut hs₁.extBut hlt
  rw [Nat.zero_add] at hit₁
  have hit₁':=hit₁
  obtain ⟨oi,hoi,_⟩:=hit₁'
  have hl₁':=hl₁
  obtain ⟨ol,hol,_⟩:=hl₁'
  rw [List.drop_zero]
  have hfl:(items.toList.take i).length = i:=by rw [List.length_take,Array.length_toList]; omega
  rw [if_neg (show ¬ ((items.toList.take i).length < i) by rw [hfl]; omega)]
  refine wpAny_bind (wpAny_holding (PySem.W.kun_collect (s:={ s with heap:=h₁ }) (T := "list_iterator") (.inr (.inr (.inl rfl))) (Walks.list (A:=A.in1) hh s.heap.objs.size l hlt items) (fun j u st=>st.1.typeIs) (k:=i) (by omega) ⟨hit₁,hl₁⟩ (Heap.lt_size hoi) (Heap.lt_size hol) (fun h₂ tk hk=>?_) (by rw [sizeLine_eq]; omega)))
  have hrl:(items.toList.drop i).length = items.size - i:=by rw [List.length_drop,Array.length_toList]
  have hmid:(items.toList.drop i).length - (n - 1 - i) = items.size + 1 - n:=by rw [hrl]; omega
  show wpAny _ _ (if (items.toList.drop i).length < n - 1 - i then _ else _) _ _ _
  rw [if_neg (by rw [hrl]; omega)]
  show wpAny _ _ (newList ((items.toList.drop i).take ((items.toList.drop i).length - (n - 1 - i))) >>= fun d=>pure (items.toList.take i ++ [d] ++ (items.toList.drop i).drop ((items.toList.drop i).length - (n - 1 - i)))) _ _ _
  rw [hmid]
  have he:∀ b o,b ≠ s.heap.objs.size → s.heap.get? b = some o → h₂.get? b = some o:=fun b o hb e=>hk b o hb (hs₁.extBut b o hb (Heap.get?_push_of_some _ e))
  exact wpAny_bind (wpAny_newList (wpAny_pure (h h₂ tk he)) (by rw [List.length_take,hrl,sizeLine_eq]; omega))
end
def gStarT (K:PySem.W.Frag) (n i:Nat) (t:TGs):TG:=fun v σ H Q=>∃ a xs,v = .ref a ∧ SqL K H a xs ∧ n ≤ xs.length + 1 ∧ xs.length ≤ 16384 ∧ ∀ D,H D = none →
  t (xs.take i ++ [.ref D] ++ (xs.drop i).drop (xs.length + 1 - n)) σ (upd H D (.lst ((xs.drop i).take (xs.length + 1 - n)))) Q
theorem vals_take {xs:List V} {us:List Value} (r:Vals xs us) (n:Nat):Vals (xs.take n) (us.take n):=by
  induction r generalizing n with
  | nil=>rw [List.take_nil,List.take_nil]; exact .nil
  | cons h t ih =>
    cases n with
    | zero=>exact .nil
    | succ n=>exact .cons h (ih n)
section
variable {X:Cx} {cl:Nat → Str × List Str} {pos:Pos} {es es':List Expr} {k n i:Nat} {gs:AGs}
theorem pg_star {t:TGs} (hc:X.calm = true) (h:PGs X es' t) (hi:i < n) (hm:(assignEach es X.env).map (·.2) = (assignEach es' X.env).map (·.2)) (hn:(assignEach es X.env).length = n) (hst:(assignEach es X.env).findIdx? (·.1) = some i) :
    PG X (.Tuple es k pos) (gStarT X.K n i t):=by
  refine ⟨fun pins s σ H v u Q I r hw=>?_⟩
  obtain ⟨a,xs,e1,hq,hl,hz16,hw⟩:=hw
  subst e1
  cases r
  obtain ⟨its,rv,pl,hz⟩:=I.list hq
  have hl':s.heap.IsList a its.toArray:=by
    obtain ⟨o,m,e,c,d,q⟩:=pl
    exact ⟨o,e,c,m,q⟩
  have hlen:xs.length = its.toArray.size:=rv.length.trans (by simp)
  rw [PyProof.Rows.assign_Tuple]
  refine wpAny_bind (wpAny_standAt ?_)
  unfold unpack
  rw [hn,hst,hm]
  refine wpAny_bind (wpAny_holding (star_unpack hl' (I.ok.hd hc) hi (by omega) (by omega) fun h' tk hx=>?_))
  have I1:Inv X pins σ H { s with heap:=h',toks:=tk }:=I.kept (t':=tk) fun b o e=>hx b o (Nat.ne_of_lt (Heap.lt_size e)) e
  have hD:H h'.objs.size = none:=I1.hok.fresh (Nat.le_refl _)
  have rm:Vals ((xs.drop i).take (xs.length + 1 - n)) ((its.drop i).take (its.toArray.size + 1 - n)):=by
    rw [hlen]
    exact vals_take (rv.drop i) _
  have I2:Inv X pins σ (upd H h'.objs.size (.lst ((xs.drop i).take (xs.length + 1 - n)))) { s with heap:=h'.push { cls:=.type "list",data:=.seq ((its.drop i).take (its.toArray.size + 1 - n)).toArray },toks:=tk }:=by
    refine I1.laid (t':=tk) (fun b o e=>Heap.get?_push_of_some _ e) (Nat.le_refl _) ⟨?_,_,0,rm,Heap.get?_push_size _ rfl⟩
    rw [List.length_take,List.length_drop,sizeLine_eq]
    omega
  have e0:its.toArray.toList = its:=by simp
  rw [e0]
  refine h.run pins _ σ _ (xs.take i ++ [.ref h'.objs.size] ++ (xs.drop i).drop (xs.length + 1 - n)) _ Q I2 ?_ (hw _ hD)
  rw [hlen]
  exact ((vals_take rv i).append (.cons (show L2.RelV (V.ref _) (Value.ref _) from rfl) .nil)).append ((rv.drop i).drop _)
def gStar (n i:Nat) (gs:AGs):AG:=fun v s h=>match look h v with
  | some (.lst,xs)=>if n ≤ xs.length + 1 ∧ xs.length ≤ 16384 then gs (xs.take i ++ [.nod .lst ((xs.drop i).take (xs.length + 1 - n))] ++ (xs.drop i).drop (xs.length + 1 - n)) s h else none
  | _=>none
def unstar:List Expr → List Expr
  | []=>[]
  | .Starred t _ :: r=>t :: unstar r
  | t :: r=>t :: unstar r
theorem ag_star (n i:Nat) (hc:X.calm = true) (h:PGs X (unstar es) (tGs (ctX X cl) gs)) (hi:i < n:=by decide) (hm:(assignEach es X.env).map (·.2) = (assignEach (unstar es) X.env).map (·.2):=by rfl) (hn:(assignEach es X.env).length = n:=by rfl)
    (hst:(assignEach es X.env).findIdx? (·.1) = some i:=by rfl):PG X (.Tuple es k pos) (tG (ctX X cl) (gStar n i gs)):=by
  refine (pg_star hc h hi hm hn hst).wk fun v σ H Q q=>?_
  obtain ⟨w,a,s,h,s',h',ra,rs,sr,e,kk⟩:=q
  unfold gStar at e
  split at e
  · rename_i xs hl
    split at e
    · rename_i hz
      obtain ⟨p,us,rfl,nh,l⟩:=look_ok sr ra hl
      have hle:=l.len
      refine ⟨p,us,rfl,SqL.of nh,by omega,by omega,fun D hD=>?_⟩
      obtain ⟨w1,S1,T1,r1⟩:=sr.newF (k:=.lst) (o:=.lst ((us.drop i).take (us.length + 1 - n))) hD (RepL.take (us.length + 1 - n) (RepL.drop i l)) fun R e=>e
      have l1:=RepL.le T1.le _ _ l
      refine ⟨w1,_,s,h,s',h',((RepL.take i l1).append (.cons r1 .nil)).append (RepL.drop (us.length + 1 - n) (RepL.drop i l1)),rs.le T1.le,S1,?_,fun w2 H2 σ2 t2 s2 r2=>kk w2 H2 σ2 (T1.trans t2) s2 r2⟩
      rw [← hle]; exact e
    · cases e
  · cases e
end
end Rp
end
section
namespace Rp
open PySem PySem.Spec PyProof.Rows L2
def dMrg {α:Type} (acc:List Key × List α) (ps:List (Key × α)):List Key × List α:=ps.foldl (fun acc p=>dPut acc.1 acc.2 p.1 p.2) acc
def PR (c:Ct) (w:Wd) (ps:List (Key × AV)) (vs:List (Key × V)):Prop:=ps.map (·.1) = vs.map (·.1) ∧ RepL c w (ps.map (·.2)) (vs.map (·.2))
theorem PR.le {c:Ct} {w w':Wd} {ps:List (Key × AV)} {vs:List (Key × V)} (h:PR c w ps vs) (l:WLe w w'):PR c w' ps vs:=⟨h.1,RepL.le l _ _ h.2⟩
theorem mergeK_zip:∀ (kvs:List (Key × V)) (ks:List Key) (us:List V),ks.length = us.length → mergeK (ks.zip us) kvs = (dMrg (ks,us) kvs).1.zip (dMrg (ks,us) kvs).2 ∧ (dMrg (ks,us) kvs).1.length = (dMrg (ks,us) kvs).2.length
  | [],ks,us,h=>⟨rfl,h⟩
  | p :: r,ks,us,h=>by
    have e:mergeK (ks.zip us) (p :: r) = mergeK (putK (ks.zip us) p.1 p.2) r:=rfl
    rw [e,putK_zip ks us p.1 p.2 h]
    exact mergeK_zip r _ _ (dPut_len ks us p.1 p.2 h)
theorem dMrg_rep {c:Ct} {w:Wd}:∀ (ps:List (Key × AV)) (vs:List (Key × V)) (ks:List Key) (xs:List AV) (us:List V),PR c w ps vs → RepL c w xs us →
    (dMrg (ks,xs) ps).1 = (dMrg (ks,us) vs).1 ∧ RepL c w (dMrg (ks,xs) ps).2 (dMrg (ks,us) vs).2
  | [],[],ks,xs,us,_,r=>⟨rfl,r⟩
  | [],_ :: _,ks,xs,us,h,r=>by cases h.1
  | _ :: _,[],ks,xs,us,h,r=>by cases h.1
  | p :: ps,q :: vs,ks,xs,us,h,r=>by
    obtain ⟨e,l⟩:=h
    have e1:p.1 = q.1 ∧ ps.map (·.1) = vs.map (·.1):=by simpa using e
    obtain ⟨u,us',e2,r1,r2⟩:=l
    cases e2
    have e3:(dPut ks xs p.1 p.2).1 = (dPut ks us q.1 q.2).1:=by rw [e1.1]; exact dPut_fst ks xs us q.1 p.2 q.2
    have r3:RepL c w (dPut ks xs p.1 p.2).2 (dPut ks us q.1 q.2).2:=by rw [e1.1]; exact dPut_rep r r1
    have:=dMrg_rep ps vs (dPut ks xs p.1 p.2).1 (dPut ks xs p.1 p.2).2 (dPut ks us q.1 q.2).2 ⟨e1.2,r2⟩ r3
    show (dMrg ((dPut ks xs p.1 p.2).1,(dPut ks xs p.1 p.2).2) ps).1 = (dMrg ((dPut ks us q.1 q.2).1,(dPut ks us q.1 q.2).2) vs).1 ∧ RepL c w (dMrg ((dPut ks xs p.1 p.2).1,(dPut ks xs p.1 p.2).2) ps).2 (dMrg ((dPut ks us q.1 q.2).1,(dPut ks us q.1 q.2).2) vs).2
    rw [← e3]
    exact this
def aPairs:List (AE × AE) → LS → AH → Option (List (Key × AV) × AH)
  | [],_,h=>some ([],h)
  | (f,g) :: r,s,h=>(f s h).bind fun x=>(g s x.2).bind fun y=>(toKey x.1).bind fun k=>(aPairs r s y.2).bind fun z=>some ((k,y.1) :: z.1,z.2)
def aDisp (fs:List (AE × AE)):AE:=fun s h=>(aPairs fs s h).bind fun r=>some (.ref r.2.next,r.2.new (.dct (dMrg ([],[]) r.1).1,(dMrg ([],[]) r.1).2))
theorem aPairs_len:∀ {fs:List (AE × AE)} {s:LS} {h:AH} {r:List (Key × AV) × AH},aPairs fs s h = some r → r.1.length = fs.length
  | [],s,h,r,e=>by cases e; rfl
  | (f,g) :: fs,s,h,r,e=>by
    obtain ⟨x,_,e⟩:=bind_some e
    obtain ⟨y,_,e⟩:=bind_some e
    obtain ⟨k,_,e⟩:=bind_some e
    obtain ⟨z,ez,e⟩:=bind_some e
    cases e
    show z.1.length + 1 = fs.length + 1
    rw [aPairs_len ez]
theorem tPairs_of {c:Ct}:∀ {fs:List (AE × AE)} {σ:L2.St} {H:Hp} {Q:List (V × V) → Hp → Prop} {w:Wd} {s:LS} {h h':AH} {ps:List (Key × AV)},RepS c w s σ → SR c w H h → aPairs fs s h = some (ps,h') →
    (∀ w' H' vs,Tr w H h w' H' h' → SR c w' H' h' → PR c w' ps vs → Q (vs.map fun kv=>(kV kv.1,kv.2)) H') → tPairs (fs.map fun p=>(tA c p.1,tA c p.2)) σ H Q
  | [],σ,H,Q,w,s,h,h',ps,rs,sr,e,k=>by
    cases e
    exact k w H [] (.refl _ _ _) sr ⟨rfl,rfl⟩
  | (f,g) :: fs,σ,H,Q,w,s,h,h',ps,rs,sr,e,k=>by
    obtain ⟨⟨x,h1⟩,e1,e⟩:=bind_some e
    obtain ⟨⟨y,h2⟩,e2,e⟩:=bind_some e
    obtain ⟨kk,ek,e⟩:=bind_some e
    obtain ⟨⟨zs,h3⟩,e3,e⟩:=bind_some e
    cases e
    refine ⟨w,s,h,x,h1,rs,sr,e1,fun w1 H1 u t1 s1 r1=>⟨w1,s,h1,y,h2,rs.le t1.le,s1,e2,fun w2 H2 v t2 s2 r2=>?_⟩⟩
    refine tPairs_of ((rs.le t1.le).le t2.le) s2 e3 fun w3 H3 vs t3 s3 p3=>?_
    have:=k w3 H3 ((kk,v) :: vs) (t1.trans (t2.trans t3)) s3 ⟨by rw [List.map_cons,List.map_cons,p3.1],.cons (RepV.le t3.le _ _ r2) p3.2⟩
    rw [toKey_rep ek r1]
    exact this
inductive PDa (X:Cx) (cl:Nat → Str × List Str):List (Option Expr) → List Expr → List (AE × AE) → Prop where
  | nil:PDa X cl [] [] []
  | cons {k v:Expr} {f g:AE} {ks:List (Option Expr)} {vs:List Expr} {fs:List (AE × AE)} (hk:PE X k (tA (ctX X cl) f)) (hv:PE X v (tA (ctX X cl) g)) (r:PDa X cl ks vs fs):PDa X cl (some k :: ks) (v :: vs) ((f,g) :: fs)
section
variable {X:Cx} {cl:Nat → Str × List Str} {pos apos cpos:Pos} {o e:Expr} {f g:AE} {keys:List (Option Expr)} {values:List Expr} {fs:List (AE × AE)}
theorem PDa.pps {pos:Pos}:∀ {ks:List (Option Expr)} {vs:List Expr} {fs:List (AE × AE)},PDa X cl ks vs fs → PPs X pos ks vs (fs.map fun p=>(tA (ctX X cl) p.1,tA (ctX X cl) p.2))
  | _,_,_,.nil=>pps_nil
  | _,_,_,.cons hk hv r=>pps_cons hk hv r.pps
theorem PDa.lens:∀ {ks:List (Option Expr)} {vs:List Expr} {fs:List (AE × AE)},PDa X cl ks vs fs → ks.length = fs.length ∧ ks.length = vs.length ∧ ks.all (·.isSome) = true
  | _,_,_,.nil=>⟨rfl,rfl,rfl⟩
  | _,_,_,.cons hk hv r=>⟨by rw [List.length_cons,List.length_cons,r.lens.1],by rw [List.length_cons,List.length_cons,r.lens.2.1],by rw [List.all_cons,r.lens.2.2]; rfl⟩
theorem disp_new {c:Ct} {w:Wd} {H:Hp} {h:AH} {p:Addr} {w2:Wd} {H2:Hp} {h2:AH} {ps:List (Key × AV)} {vs:List (Key × V)} (hp:H p = none) (T:Tr w H h w2 H2 h2) (S2:SR c w2 H2 h2) (n:¬ Own w2 h2 p) (hd:∀ φ,H2 p ≠ some (.ext φ)) (pr:PR c w2 ps vs) :
    ∃ w',SR c w' (upd H2 p (.dK (mergeK [] vs))) (h2.new (.dct (dMrg ([],[]) ps).1,(dMrg ([],[]) ps).2)) ∧ Tr w H h w' (upd H2 p (.dK (mergeK [] vs))) (h2.new (.dct (dMrg ([],[]) ps).1,(dMrg ([],[]) ps).2)) ∧ RepV c w' (.ref h2.next) (.ref p):=by
  have S':SR c w2 (cutH H2 p) h2:=S2.at_off n hd fun a ha=>cut_ne ha
  have T':Tr w H h w2 (cutH H2 p) h2:=T.at_off hp fun a ha=>cut_ne ha
  obtain ⟨e1,r1⟩:=dMrg_rep ps vs [] [] [] pr (show RepL c w2 [] [] from rfl)
  have hm:=mergeK_zip vs [] [] rfl
  obtain ⟨w',S3,T3,r⟩:=S'.newM (k:=.dct (dMrg ([],[]) ps).1) (o:=.dK (mergeK [] vs)) cut_same r1 fun H e=>⟨by rw [e1]; exact hm.2,by rw [e,e1]; exact congrArg (fun z=>some (HO.dK z)) hm.1⟩
  have:upd (cutH H2 p) p (.dK (mergeK [] vs)) = upd H2 p (.dK (mergeK [] vs)):=by
    funext a
    by_cases ha:a = p
    · rw [ha,upd_same,upd_same]
    · rw [upd_ne ha,upd_ne ha,cut_ne ha]
  rw [this] at S3 T3
  exact ⟨w',S3,T'.trans T3,r⟩
theorem ae_disp (h:PDa X cl keys values fs) (h0:keys ≠ []:=by exact nofun) (h15:fs.length ≤ 15:=by decide):PE X (.Dict keys values pos) (tA (ctX X cl) (aDisp fs)):=by
  refine (pe_disp h.pps h.lens.2.2 h.lens.2.1 h0 (by rw [h.lens.1]; exact h15)).wk fun σ H Q q=>?_
  obtain ⟨w,s,hh,v,h',rs,sr,e,kk⟩:=q
  obtain ⟨⟨ps,h1⟩,e1,e⟩:=bind_some e
  cases e
  intro p hp
  have n0:=sr.notOwn hp
  refine tPairs_of (w:=w) (h:=hh) rs (sr.at_off n0 (fun φ z=>by rw [hp] at z; cases z) fun a ha=>upd_ne ha) e1 fun w2 H2 vs t2 s2 pr=>?_
  obtain ⟨n2,eD⟩:=t2.off n0 upd_same
  have T0:Tr w H hh w2 H2 h1:=((Tr.refl w H hh).at_off hp (H':=upd H p (.dK [])) fun a ha=>upd_ne ha).trans t2
  obtain ⟨w',S3,T3,r⟩:=disp_new hp T0 s2 n2 (fun φ z=>by rw [eD] at z; cases z) pr
  refine ⟨eD,vs,rfl,?_,kk w' _ _ T3 S3 r⟩
  have h1:=aPairs_len e1
  have h2:=congrArg List.length pr.1
  rw [List.length_map,List.length_map] at h2
  have h1':ps.length = fs.length:=h1
  omega
end
end Rp
end
section
namespace Rp
open PySem PySem.Spec PyProof.Rows L2
section
variable {X:Cx} {pins:List (Addr × Obj)} {σ:L2.St} {H:Hp} {s:Shared} {C a g:Addr} {dx:Addr} {fs:List (Str × V)} {n:Nat} {sp:Sp}
end
section
variable {prog:Program} {w:World} {A:Around} {E:Value → Shared → Prop} {s:Shared} {K:PySem.W.Frag} {x C g:Addr} {ox:Obj} {od:Option Obj}
end
section
variable {X:Cx} {pins:List (Addr × Obj)} {σ:L2.St} {H:Hp} {s:Shared} {C a g:Addr} {dx:Addr} {fs:List (Str × V)} {n:Nat} {sp:Sp}
end
section
variable {prog:Program} {w:World} {A:Around} {E:Value → Shared → Prop} {s:Shared} {K:PySem.W.Frag} {x C g L:Addr} {ox:Obj} {od:Option Obj} {h₀:Heap} {m:Str → Option Value} {b tb:Value}
end
section
variable {X:Cx} {pins:List (Addr × Obj)} {σ:L2.St} {H:Hp} {s:Shared} {C a g:Addr} {n:Nat} {sp:Sp}
end
section
variable {X:Cx} {cl:Nat → Str × List Str} {pos p:Pos} {e e2:Expr} {f:AE} {g:AA} {k c:Nat} {F:AF}
end
end Rp
end
section
namespace Rp
open PySem PySem.Spec PyProof.Rows L2
section
variable {X:Cx} {cl:Nat → Str × List Str} {pos p:Pos} {e e2:Expr} {f:AE} {g:AA} {k c:Nat} {F:AF}
theorem w_tyname {x:Str} {T:String} (hm:X.mg x = none) (hv:bootBuiltins x = some (.type T)) (hg:Gl X x:=by rfl) (hn:x ≠ "__name__" := by decide) (hd:(x == ("__debug__" : Str)) = false:=by decide):PE X (.Name x pos) (tA (ctX X cl) (aC (.ty T))) :=
  (pe_bltn (v:=.ty T) hg hm hv rfl hn hd).wk fun _ _ _ q=>tC_of (v:=.ty T) (u:=.ty T) (fun _=>rfl) q
def rIsiS (K:PySem.W.Frag):List V → Hp → VK → Prop:=fun xs H Q=>∃ (x:V) (tp:Addr) (cs:List V) (t:Value) (us:List Value) (b:Bool),xs = [x,.ref tp] ∧ SqT K H tp cs ∧ Paired ClsV cs us ∧ TyX K H x t ∧ PySem.W.kitAny K t us = some b ∧ Q (.bl b) H
theorem call_isiS:CallR X (.builtin "isinstance") (rIsiS X.K):=by
  intro pins s σ H xs us Q I r h
  obtain ⟨x,tp,cs,t,ws,b,rfl,hT,k,ty,e,q⟩:=h
  obtain ⟨u1,u2,rfl,r1,r2⟩:=vals2 r
  cases (show u2 = Value.ref tp from r2)
  obtain ⟨P,Z,p,hx⟩:=kit_of I r1 ty
  obtain ⟨its,rv,⟨o,h1,h2,n,h3⟩,_⟩:=I.tuple hT
  have e3:=ClsV.all k rv
  subst e3
  obtain ⟨oc,od,dt,sl⟩:=o
  simp only at h2 h3
  subst h2 h3
  exact PySem.W.kia_tup Z I.kIn p h1 e hx fun tk=>⟨.bl b,H,I.tok tk,rfl,q⟩
def tysOf:List AV → Option (List String)
  | []=>some []
  | .ty n :: r=>(tysOf r).bind fun q=>some (n :: q)
  | _=>none
theorem tysOf_ok:∀ {xs:List AV} {ns:List String},tysOf xs = some ns → xs = ns.map .ty
  | [],ns,e=>by cases e; rfl
  | x :: r,ns,e=>by
    cases x with
    | ty n =>
      have e':((tysOf r).bind fun q=>some (n :: q)) = some ns:=e
      obtain ⟨q,e1,e2⟩:=bind_some e'
      cases e2
      rw [tysOf_ok e1]; rfl
    | _=>cases e
theorem RepL.tys {ct:Ct} {w:Wd}:∀ {ns:List String} {us:List V},RepL ct w (ns.map AV.ty) us → us = ns.map V.ty
  | [],us,r=>r
  | n :: ns,us,r=>by
    obtain ⟨u,us',rfl,r1,r2⟩:=r
    rw [RepL.tys r2,show u = V.ty n from r1]; rfl
theorem kitAny_all (K:PySem.W.Frag) (T:String) (hT:T = "NoneType" ∨ T = "bool" ∨ T = "int" ∨ T = "str" ∨ T = "list" ∨ T = "tuple"):∀ ns:List String,ns.all clsOk = true → PySem.W.kitAny K (.type T) (ns.map Value.type) = some (ns.any fun n=>isTy T n)
  | [],_=>rfl
  | n :: ns,h=>by
    rw [List.all_cons,Bool.and_eq_true] at h
    have:=kit_all K T n hT h.1
    rw [List.map_cons,PySem.W.kitAny,this,List.any_cons]
    cases isTy T n with
    | true=>rfl
    | false=>exact kitAny_all K T hT ns h.2
def aIsiT (a b:AV) (h:AH):Option (AV × AH):=match b with
  | .nod .tup xs=>(tysOf xs).bind fun ns=>if ns.all clsOk = true then (tyN h a).bind fun T=>some (.bl (ns.any fun n=>isTy T n),h) else none
  | _=>none
theorem paired_tys:∀ ns:List String,Paired ClsV (ns.map V.ty) (ns.map Value.type)
  | []=>.nil
  | n :: ns=>.cons (.ty n) (paired_tys ns)
theorem s_isiT {ct:Ct}:SndN ct (rIsiS ct.K) (two aIsiT):=by
  refine snd_two ?_
  intro w H h a b u y v h' Q S ra rb e k
  unfold aIsiT at e
  split at e
  · rename_i xs
    obtain ⟨ns,e1,e⟩:=bind_some e
    split at e
    · rename_i hC
      obtain ⟨T,e2,e⟩:=bind_some e
      injection e with e
      injection e with ea eb
      subst ea eb
      obtain ⟨t1,t2⟩:=tyN_ok S ra e2
      obtain ⟨p,us,rfl,n,l⟩:=rb
      rw [tysOf_ok e1] at l
      have:=RepL.tys l
      subst this
      have n:SqT ct.K w.R p (ns.map V.ty):=n
      exact ⟨u,p,ns.map V.ty,.type T,ns.map Value.type,_,rfl,SqT.le S.le n,paired_tys ns,t1,kitAny_all ct.K T t2 ns hC,k w H _ (.refl _ _ _) S rfl⟩
    · cases e
  · cases e
theorem w_isiT (hm0:X.mg "isinstance" = none) (ha:PA X [e,e2] (tAs (ctX X cl) g)) (hg:Gl X "isinstance" := by rfl) (he:starEach [e,e2] X.env = (false,eval e X.env) :: starEach [e2] X.env:=by rfl) (hpl:(backTo pos (starEach [e2] X.env)).any (·.1) = false:=by rfl) :
    PE X (.Call (.Name "isinstance" p) [e,e2] [] pos) (tA (ctX X cl) (aArgs (two aIsiT) g)):=ae_blt call_isiS s_isiT hm0 rfl ha hg (by decide) (by decide) he hpl
end
end Rp
end
section
namespace Rp
open PySem PySem.Spec PyProof.Rows L2
section
variable {X:Cx} {cl:Nat → Str × List Str} {src:ASrc} {g:AG} {t:AT} {fk fv:AE}
end
def aStrS (a:AV) (h:AH):Option (AV × AH):=match a with
  | .str x=>some (.str x,h)
  | _=>none
theorem s_strS {c:Ct}:SndN c (fun xs H Q=>∃ a,xs = [.str a] ∧ Q (.str a) H) (one aStrS):=by
  refine snd_one ?_
  intro w H h a u v h' Q S r e k
  unfold aStrS at e
  split at e
  · rename_i x
    injection e with e
    injection e with ea eb
    subst ea eb
    rw [show u = V.str x from r]
    exact ⟨x,rfl,k w H _ (.refl _ _ _) S rfl⟩
  · cases e
def aStr2 (as:List AV) (h:AH):Option (AV × AH):=orO (one aStrV as h) (one aStrS as h)
theorem call_str2 {X:Cx}:CallR X (.type "str") (fun xs H Q=>(∃ i,xs = [.int i] ∧ i.natAbs.log2 < 1920 ∧ Q (.str (toString i)) H) ∨ ∃ a,xs = [.str a] ∧ Q (.str a) H):=by
  intro pins s σ H xs us Q I r h
  rcases h with h | h
  · exact call_str_int pins s σ H xs us Q I r h
  · exact SkE.call_str_str pins s σ H xs us Q I r h
theorem w_str {X:Cx} {cl:Nat → Str × List Str} {pos p:Pos} {e:Expr} {g:AA} (hm0:X.mg "str" = none) (ha:PA X [e] (tAs (ctX X cl) g)) (hg:Gl X "str" := by rfl) (he:starEach [e] X.env = (false,eval e X.env) :: starEach [] X.env:=by rfl) (hpl:(backTo pos (starEach [] X.env)).any (·.1) = false:=by rfl):PE X (.Call (.Name "str" p) [e] [] pos) (tA (ctX X cl) (aArgs aStr2 g)) :=
  ae_ty call_str2 (SndN.or s_strI s_strS) hm0 boot_str ha hg (by decide) (by decide) he hpl
end Rp
end
section
namespace Rp
open PySem PySem.Spec PyProof.Rows L2
section
variable {K:PySem.W.Frag} {w:World} {h:Heap} {mg:Str → Option Value} {cl:Nat → Str × List Str}
theorem glob_str (X:K.In h) (G:h.Ns mainGlobals mg) {x z:Str} (c:(He.Fa.str x z).ok K = true):GlobV ⟨K,w,mg,cl⟩ x (.str z):=by
  obtain ⟨t,e⟩:=He.str_ok X G c
  exact ⟨_,.str z,e,⟨t,rfl⟩,fun _=>rfl⟩
def dvA:He.Dv → AV
  | .non=>.non
  | .bl b=>.bl b
  | .int i=>.int i
  | .str x=>.str x
  | .ty n=>.ty n
  | .glo x=>.gl x
  | _=>.non
def dvOk:He.Dv → Bool
  | .non | .bl _ | .int _ | .str _ | .ty _=>true
  | _=>false
theorem dvs_rep {c:Ct} {wd:Wd}:∀ vs:List He.Dv,vs.all dvOk = true → RepL c wd (vs.map dvA) (vs.map (He.Dv.v K))
  | [],_=>rfl
  | v :: vs,e=>by
    rw [List.all_cons,Bool.and_eq_true] at e
    refine .cons ?_ (dvs_rep vs e.2)
    cases v <;> first | rfl | cases e.1
def rowB (K:PySem.W.Frag):List DictEntry → List (Str × He.Dv) → Bool
  | [],[]=>true
  | e :: es,kv :: kvs=>(match e.key with
    | .str k _=>decide (k = kv.1)
    | _=>false) && (He.relB (kv.2.v K) e.val && rowB K es kvs)
  | _,_=>false
def tabB (K:PySem.W.Frag) (a:Addr) (kvs:List (Str × He.Dv)):Bool:=match K.lookup a with
  | some ⟨_,_,.dict es _,_⟩=>rowB K es.toList kvs
  | _=>false
def nsL (es:List DictEntry) (z:Str):Option (Option Value):=match es.find? (·.key.isStr z) with
  | some e=>some (some e.val)
  | none=>if es.any (·.refKey) then none else some none
theorem rowB_ok:∀ (es:List DictEntry) (kvs:List (Str × He.Dv)),rowB K es kvs = true → ∀ z:Str,∃ r,nsL es z = some r ∧ RelO ((kIx (kvs.map fun kv=>(Sum.inr kv.1:Key)) (Sum.inr z)).bind fun i=>(kvs.map fun kv=>kv.2.v K)[i]?) r
  | [],[],_,z=>⟨none,rfl,trivial⟩
  | [],_ :: _,e,z=>by cases e
  | _ :: _,[],e,z=>by cases e
  | e :: es,kv :: kvs,hb,z=>by
    have hb':((match e.key with
      | .str k _=>decide (k = kv.1)
      | _=>false) && (He.relB (kv.2.v K) e.val && rowB K es kvs)) = true:=hb
    rw [Bool.and_eq_true,Bool.and_eq_true] at hb'
    obtain ⟨h1,h2,h3⟩:=hb'
    split at h1
    · rename_i k t hk
      have hkk:k = kv.1:=of_decide_eq_true h1
      have rk:e.refKey = false:=by unfold DictEntry.refKey; rw [hk]
      obtain ⟨r,e1,e2⟩:=rowB_ok es kvs h3 z
      by_cases hz:kv.1 = z
      · refine ⟨some e.val,?_,?_⟩
        · have:e.key.isStr z = true:=by rw [hk,hkk,hz]; simp [Value.isStr]
          unfold nsL
          rw [List.find?_cons]
          simp only [this]
        · have:kIx ((kv :: kvs).map fun kv=>(Sum.inr kv.1:Key)) (Sum.inr z) = some 0:=by
            unfold kIx
            rw [List.map_cons,List.findIdx?_cons,if_pos (by simp [hz])]
          rw [this]
          exact He.relB_ok h2
      · refine ⟨r,?_,?_⟩
        · have:e.key.isStr z = false:=by rw [hk,hkk]; simp [Value.isStr,hz]
          unfold nsL at e1 ⊢
          rw [List.find?_cons]
          simp only [this,List.any_cons,rk,Bool.false_or]
          exact e1
        · have:kIx ((kv :: kvs).map fun kv=>(Sum.inr kv.1:Key)) (Sum.inr z) = (kIx (kvs.map fun kv=>(Sum.inr kv.1:Key)) (Sum.inr z)).map (· + 1):=by
            unfold kIx
            rw [List.map_cons,List.findIdx?_cons,if_neg (by simp [hz])]
          rw [this]
          cases hq:kIx (kvs.map fun kv=>(Sum.inr kv.1:Key)) (Sum.inr z) with
          | none=>rw [hq] at e2; exact e2
          | some i=>rw [hq] at e2; exact e2
    · cases h1
theorem ktab_of {a:Addr} {kvs:List (Str × He.Dv)} (c:∃ es n,KDict K w a es n) (hb:tabB K a kvs = true):KTab ⟨K,w,mg,cl⟩ a (kvs.map fun kv=>(Sum.inr kv.1:Key)) (kvs.map fun kv=>kv.2.v K):=by
  obtain ⟨es,n,kd⟩:=c
  refine ⟨by rw [List.length_map,List.length_map],es,n,kd,fun z=>?_⟩
  unfold tabB at hb
  rw [kd.at_] at hb
  obtain ⟨r,e1,e2⟩:=rowB_ok es.toList kvs hb z
  refine ⟨r,?_,e2⟩
  show PySem.W.nsIn K a z = some r
  unfold PySem.W.nsIn
  rw [kd.at_]
  exact e1
theorem glob_tab (X:K.In h) (G:h.Ns mainGlobals mg) {x:Str} {kvs:List (Str × He.Dv)} (c:(He.Fa.glo x).ok K = true) (cd:∃ es n,KDict K w (He.ga K x) es n) (hb:tabB K (He.ga K x) kvs = true) (hv:(kvs.map (·.2)).all dvOk = true) :
    GlobV ⟨K,w,mg,cl⟩ x (.nod (.tab (kvs.map fun kv=>(Sum.inr kv.1:Key))) (kvs.map fun kv=>dvA kv.2)):=by
  have e:=He.glo_ok X G c
  refine ⟨_,.ref (He.ga K x),e,rfl,fun wd=>⟨_,_,rfl,(show KTab ⟨K,w,mg,cl⟩ (He.ga K x) _ _ from ktab_of cd hb),?_⟩⟩
  have:=dvs_rep (K:=K) (c:=⟨K,w,mg,cl⟩) (wd:=wd) (kvs.map (·.2)) hv
  rw [List.map_map,List.map_map] at this
  exact this
end
end Rp
end
section
namespace Rp
open PySem PySem.Spec PyProof.Rows L2
section
variable {s s':LS} {h h' h1:AH} {a b v:AV} {f g k:AE} {t u:AT} {A B:AS} {G:AG} {o:AV → AV → AH → Option (AV × AH)}
def seqK (r:Option (AR × AH)) (B:AS):Option (AR × AH):=r.bind fun r=>match r.1 with
  | .nx s' => B s' r.2
  | x=>some (x,r.2)
@[simp] theorem ev_seq:aSeq A B s h = seqK (A s h) B:=id rfl
@[simp] theorem seqK_nx:seqK (some (.nx s',h')) B = B s' h':=id rfl
@[simp] theorem seqK_rt:seqK (some (.rt v,h')) B = some (.rt v,h'):=id rfl
@[simp] theorem seqK_bk:seqK (some (.bk s',h')) B = some (.bk s',h'):=id rfl
@[simp] theorem seqK_ct:seqK (some (.ct s',h')) B = some (.ct s',h'):=id rfl
@[simp] theorem ev_pass:aPass s h = some (.nx s,h):=id rfl
@[simp] theorem ev_retN:aRetN s h = some (.rt .non,h):=id rfl
def retK (r:Option (AV × AH)):Option (AR × AH):=r.bind fun r=>some (.rt r.1,r.2)
@[simp] theorem ev_ret:aRet f s h = retK (f s h):=id rfl
@[simp] theorem retK_some:retK (some (v,h')) = some (.rt v,h'):=id rfl
def expK (r:Option (AV × AH)) (s:LS):Option (AR × AH):=r.bind fun r=>some (.nx s,r.2)
@[simp] theorem ev_exp:aExp f s h = expK (f s h) s:=id rfl
@[simp] theorem expK_some:expK (some (v,h')) s = some (.nx s,h'):=id rfl
def ifK (r:Option (Bool × AH)) (A B:AS) (s:LS):Option (AR × AH):=r.bind fun r=>if r.1 = true then A s r.2 else B s r.2
@[simp] theorem ev_if:aIfS t A B s h = ifK (t s h) A B s:=id rfl
@[simp] theorem ifK_t:ifK (some (true,h')) A B s = A s h':=id rfl
@[simp] theorem ifK_f:ifK (some (false,h')) A B s = B s h':=id rfl
def asgK (r:Option (AV × AH)) (G:AG) (s:LS):Option (AR × AH):=r.bind fun r=>(G r.1 s r.2).bind fun q=>some (.nx q.1,q.2)
def asgJ (r:Option (LS × AH)):Option (AR × AH):=r.bind fun q=>some (.nx q.1,q.2)
@[simp] theorem ev_asg:aAsg f G s h = asgK (f s h) G s:=id rfl
@[simp] theorem asgK_some:asgK (some (v,h')) G s = asgJ (G v s h'):=id rfl
@[simp] theorem asgJ_some:asgJ (some (s',h')) = some (.nx s',h'):=id rfl
@[simp] theorem ev_gNm {i:Nat}:gNm i v s h = some (s.set i (some v),h):=id rfl
def gixK (r:Option (AV × AH)) (g:AE) (v:AV) (s:LS):Option (LS × AH):=r.bind fun o=>(g s o.2).bind fun i=>(aSet o.1 i.1 v i.2).bind fun h' => some (s,h')
def gixJ (a:AV) (r:Option (AV × AH)) (v:AV) (s:LS):Option (LS × AH):=r.bind fun i=>(aSet a i.1 v i.2).bind fun h' => some (s,h')
def gixI (r:Option AH) (s:LS):Option (LS × AH):=r.bind fun h' => some (s,h')
@[simp] theorem ev_gIx:gIx f g v s h = gixK (f s h) g v s:=id rfl
@[simp] theorem gixK_some:gixK (some (a,h')) g v s = gixJ a (g s h') v s:=id rfl
@[simp] theorem gixJ_some:gixJ a (some (b,h')) v s = gixI (aSet a b v h') s:=id rfl
@[simp] theorem gixI_some:gixI (some h') s = some (s,h'):=id rfl
def op2K (o:AV → AV → AH → Option (AV × AH)) (r:Option (AV × AH)) (g:AE) (s:LS):Option (AV × AH):=r.bind fun r=>(g s r.2).bind fun q=>o r.1 q.1 q.2
def op2J (o:AV → AV → AH → Option (AV × AH)) (a:AV) (r:Option (AV × AH)):Option (AV × AH):=r.bind fun q=>o a q.1 q.2
@[simp] theorem ev_op2:aOp2 o f g s h = op2K o (f s h) g s:=id rfl
@[simp] theorem op2K_some:op2K o (some (a,h')) g s = op2J o a (g s h'):=id rfl
@[simp] theorem op2J_some:op2J o a (some (b,h')) = o a b h':=id rfl
@[simp] theorem ev_c:aC v s h = some (v,h):=id rfl
def varK:Option (Option AV) → AH → Option (AV × AH)
  | some (some v),h=>some (v,h)
  | _,_=>none
@[simp] theorem ev_var {i:Nat}:aVar i s h = varK (s[i]?) h:=by
  unfold aVar varK
  split <;> simp_all
@[simp] theorem varK_some:varK (some (some v)) h = some (v,h):=id rfl
def tstK (r:Option (AV × AH)):Option (Bool × AH):=r.bind fun r=>match r.1 with
  | .bl b=>some (b,r.2)
  | _=>none
@[simp] theorem ev_tst:aTst f s h = tstK (f s h):=id rfl
@[simp] theorem tstK_some {z:Bool}:tstK (some (.bl z,h')) = some (z,h'):=id rfl
def andK (r:Option (Bool × AH)) (u:AT) (s:LS):Option (Bool × AH):=r.bind fun r=>if r.1 = true then u s r.2 else some (false,r.2)
def orK (r:Option (Bool × AH)) (u:AT) (s:LS):Option (Bool × AH):=r.bind fun r=>if r.1 = true then some (true,r.2) else u s r.2
@[simp] theorem ev_and:aAnd t u s h = andK (t s h) u s:=id rfl
@[simp] theorem andK_t:andK (some (true,h')) u s = u s h':=id rfl
@[simp] theorem andK_f:andK (some (false,h')) u s = some (false,h'):=id rfl
@[simp] theorem ev_or:aOr t u s h = orK (t s h) u s:=id rfl
@[simp] theorem orK_t:orK (some (true,h')) u s = some (true,h'):=id rfl
@[simp] theorem orK_f:orK (some (false,h')) u s = u s h':=id rfl
def notK (r:Option (Bool × AH)):Option (Bool × AH):=r.bind fun r=>some (!r.1,r.2)
@[simp] theorem ev_not:aNot t s h = notK (t s h):=id rfl
@[simp] theorem notK_some {z:Bool}:notK (some (z,h')) = some (!z,h'):=id rfl
def ifeK (r:Option (Bool × AH)) (f g:AE) (s:LS):Option (AV × AH):=r.bind fun r=>if r.1 = true then f s r.2 else g s r.2
@[simp] theorem ev_ife:aIf t f g s h = ifeK (t s h) f g s:=id rfl
@[simp] theorem ifeK_t:ifeK (some (true,h')) f g s = f s h':=id rfl
@[simp] theorem ifeK_f:ifeK (some (false,h')) f g s = g s h':=id rfl
variable {as:List AV} {gs:AA} {O:List AV → AH → Option (AV × AH)} {F:AF} {das:List AV}
@[simp] theorem ev_nil:aNil s h = some ([],h):=id rfl
def consK (r:Option (AV × AH)) (gs:AA) (s:LS):Option (List AV × AH):=r.bind fun r=>(gs s r.2).bind fun q=>some (r.1 :: q.1,q.2)
def consJ (a:AV) (r:Option (List AV × AH)):Option (List AV × AH):=r.bind fun q=>some (a :: q.1,q.2)
@[simp] theorem ev_cons:aCons f gs s h = consK (f s h) gs s:=id rfl
@[simp] theorem consK_some:consK (some (a,h')) gs s = consJ a (gs s h'):=id rfl
@[simp] theorem consJ_some:consJ a (some (as,h')) = some (a :: as,h'):=id rfl
def argsK (O:List AV → AH → Option (AV × AH)) (r:Option (List AV × AH)):Option (AV × AH):=r.bind fun r=>O r.1 r.2
@[simp] theorem ev_args:aArgs O gs s h = argsK O (gs s h):=id rfl
@[simp] theorem argsK_some:argsK O (some (as,h')) = O as h':=id rfl
@[simp] theorem ev_call:aCall F das gs s h = argsK (fun as h=>F (as ++ das) h) (gs s h):=id rfl
@[simp] theorem ev_one {p:AV → AH → Option (AV × AH)}:one p [a] h = p a h:=id rfl
@[simp] theorem ev_two {p:AV → AV → AH → Option (AV × AH)}:two p [a,b] h = p a b h:=id rfl
def fnK (r:Option (AR × AH)):Option (AV × AH):=r.bind fun r=>match r.1 with
  | .nx _=>some (.non,r.2)
  | .rt v=>some (v,r.2)
  | _=>none
theorem ev_fn {m n:Nat} (e:as.length = n):lenF n (fnA m B) as h = fnK (B (startA m as) h):=by
  unfold lenF
  rw [if_pos e]; rfl
@[simp] theorem fnK_nx:fnK (some (.nx s,h)) = some (.non,h):=id rfl
@[simp] theorem fnK_rt:fnK (some (.rt v,h)) = some (v,h):=id rfl
variable {i j:Int} {n:Nat} {xs:List AV} {ks:List Key}
@[simp] theorem ev_lt:aLt (.int i) (.int j) h = some (.bl (decide (i < j)),h):=id rfl
@[simp] theorem ev_le:aLe (.int i) (.int j) h = some (.bl (decide (i ≤ j)),h):=id rfl
@[simp] theorem ev_gt:aGt (.int i) (.int j) h = some (.bl (decide (j < i)),h):=id rfl
@[simp] theorem ev_ge:aGe (.int i) (.int j) h = some (.bl (decide (j ≤ i)),h):=id rfl
@[simp] theorem ev_addI:aAdd (.int i) (.int j) h = some (.int (i + j),h):=id rfl
@[simp] theorem ev_subI:aSub (.int i) (.int j) h = some (.int (i - j),h):=id rfl
theorem ev_mulI (e:mulC i j = true):aMul (.int i) (.int j) h = some (.int (i * j),h):=by
  have:aMulI (.int i) (.int j) h = some (.int (i * j),h):=by
    show (if mulC i j = true then some (AV.int (i * j),h) else none) = _
    rw [if_pos e]
  unfold aMul
  rw [this]; rfl
theorem ev_mod (e:0 < j):aMod (.int i) (.int j) h = some (.int (i % j),h):=by
  show (if decide (0 < j) = true then some (AV.int (i % j),h) else none) = _
  rw [if_pos (decide_eq_true e)]
theorem ev_div (e:0 < j) (e2:j < 18446744073709551616):aDiv (.int i) (.int j) h = some (.int (i / j),h):=by
  show (if (decide (0 < j) && decide (j < 18446744073709551616)) = true then some (AV.int (i / j),h) else none) = _
  rw [if_pos (by rw [decide_eq_true e,decide_eq_true e2]; rfl)]
@[simp] theorem ev_pow1:aPow (.int 10) (.int 18) h = some (.int 1000000000000000000,h):=by rfl
theorem atI_at {α:Type} {xs:List α} {n:Nat} (e:n < xs.length):atI xs (n:Int) = xs[n]?:=by
  unfold atI ixN
  rw [if_pos (by omega),if_pos (by omega)]
  simp
theorem ev_ixL {v:AV} {k:Nat} (e:look h a = some (.lst,xs)) (ev:xs[k]? = some v):aIx a (.int (k:Nat)) h = some (v,h):=by
  have hk:=(List.getElem?_eq_some_iff.mp ev).1
  unfold aIx aIxQ
  rw [e]
  simp only [atI_at hk,ev,Option.bind_some]
  rfl
@[simp] theorem look_nod {k:Kd}:look h (.nod k xs) = some (k,xs):=id rfl
@[simp] theorem look_ref:look h (.ref n) = h.get n:=id rfl
theorem get_putI {m:Nat} {c:Kd × List AV} (hn:(h.get n).isSome = true):(h.put n c).get m = if m = n then some c else h.get m:=by
  obtain ⟨c0,e⟩:=Option.isSome_iff_exists.mp hn
  exact AH.get_put e m
@[simp] theorem next_put {c:Kd × List AV}:(h.put n c).next = h.next:=AH.next_put
@[simp] theorem get_new {m:Nat} {c:Kd × List AV}:(h.new c).get m = if m = h.next then some c else h.get m:=id rfl
@[simp] theorem next_new {c:Kd × List AV}:(h.new c).next = h.next + 1:=id rfl
theorem AH.ext {h h':AH} (e:∀ m,h.get m = h'.get m) (n:h.next = h'.next):h = h':=by
  cases h; cases h'
  have:_ = _:=funext e
  simp_all
theorem put_put {c c':Kd × List AV} (hn:(h.get n).isSome = true):(h.put n c).put n c' = h.put n c':=by
  refine AH.ext (fun m=>?_) (by simp)
  rw [get_putI (by rw [get_putI hn,if_pos rfl]; rfl),get_putI hn,get_putI hn]
  by_cases hm:m = n
  · rw [if_pos hm,if_pos hm]
  · rw [if_neg hm,if_neg hm,if_neg hm]
def ixA (v:Option AV) (h:AH):Option (AV × AH):=v.bind fun v=>some (v,h)
@[simp] theorem ixA_some:ixA (some v) h = some (v,h):=id rfl
def ixR (r:Option (Kd × List AV)) (b:AV) (h:AH):Option (AV × AH):=match r,b with
  | some (.lst,xs),.int i=>ixA (atI xs i) h
  | some (.tup,xs),.int i=>ixA (atI xs i) h
  | some (.dct ks,xs),.str z=>ixA ((kIx ks (.inr z)).bind fun i=>xs[i]?) h
  | some (.ldct ks,xs),.str z=>ixA ((kIx ks (.inr z)).bind fun i=>xs[i]?) h
  | some (.tab ks,xs),.str z=>ixA ((kIx ks (.inr z)).bind fun i=>xs[i]?) h
  | _,_=>none
theorem orO_none {α:Type} (o:Option α):orO none o = o:=rfl
theorem orO_self {α:Type} (o:Option α):orO o none = o:=by cases o <;> rfl
theorem ix_core {a b:AV} (ha:∀ z,a ≠ .str z):aIx a b h = ixR (look h a) b h:=by
  have hs:aIxS a b h = none:=by
    unfold aIxS
    split
    · rename_i z i; exact absurd rfl (ha z)
    · rfl
  unfold aIx
  rw [hs,orO_none]
  unfold aIxQ aIxK dLook ixR
  cases look h a with
  | none=>rfl
  | some q =>
    obtain ⟨kd,xs⟩:=q
    cases kd <;> cases b <;> simp [ixA,orO_self,orO_none,Option.bind_assoc]
@[simp] theorem ix_ref {b:AV}:aIx (.ref n) b h = ixR (h.get n) b h:=ix_core nofun
@[simp] theorem ix_nod {k:Kd} {b:AV}:aIx (.nod k xs) b h = ixR (some (k,xs)) b h:=ix_core nofun
@[simp] theorem ixR_lst:ixR (some (.lst,xs)) (.int i) h = ixA (atI xs i) h:=id rfl
@[simp] theorem ixR_tup:ixR (some (.tup,xs)) (.int i) h = ixA (atI xs i) h:=id rfl
@[simp] theorem ixR_dct {z:Str}:ixR (some (.dct ks,xs)) (.str z) h = ixA ((kIx ks (.inr z)).bind fun i=>xs[i]?) h:=id rfl
@[simp] theorem ixR_ldct {z:Str}:ixR (some (.ldct ks,xs)) (.str z) h = ixA ((kIx ks (.inr z)).bind fun i=>xs[i]?) h:=id rfl
@[simp] theorem ixR_tab {z:Str}:ixR (some (.tab ks,xs)) (.str z) h = ixA ((kIx ks (.inr z)).bind fun i=>xs[i]?) h:=id rfl
@[simp] theorem atI_0 {α:Type} {x:α} {l:List α}:atI (x :: l) 0 = some x:=by simp [atI,ixN]
@[simp] theorem atI_1 {α:Type} {x y:α} {l:List α}:atI (x :: y :: l) 1 = some y:=by
  have:(1:Int) < (l.length:Int) + 1 + 1:=by omega
  simp [atI,ixN,this]
@[simp] theorem atI_2 {α:Type} {x y z:α} {l:List α}:atI (x :: y :: z :: l) 2 = some z:=by
  have:(2:Int) < (l.length:Int) + 1 + 1 + 1:=by omega
  simp [atI,ixN,this]
@[simp] theorem atI_3 {α:Type} {x y z u:α} {l:List α}:atI (x :: y :: z :: u :: l) 3 = some u:=by
  have:(3:Int) < (l.length:Int) + 1 + 1 + 1 + 1:=by omega
  simp [atI,ixN,this]
def setR (r:Option (Kd × List AV)) (n:Nat) (b v:AV) (h:AH):Option AH:=match r,b with
  | some (.lst,xs),.int k=>(ixN xs.length k).bind fun j=>some (h.put n (.lst,xs.set j v))
  | some (.dct ks,xs),b=>(toKey b).bind fun k=>if ks.length < sizeLine then some (h.put n (.dct (dPut ks xs k v).1,(dPut ks xs k v).2)) else none
  | _,_=>none
@[simp] theorem set_ref {b v:AV}:aSet (.ref n) b v h = setR (h.get n) n b v h:=by
  unfold aSet aSetL aSetD cellL cellD setR
  cases hq:h.get n with
  | none=>simp [hq,orO_self,orO_none]
  | some q =>
    obtain ⟨kd,xs⟩:=q
    cases kd <;> cases b <;> simp [hq,orO_self,orO_none]
@[simp] theorem setR_lst {k:Int}:setR (some (.lst,xs)) n (.int k) v h = (ixN xs.length k).bind fun j=>some (h.put n (.lst,xs.set j v)):=id rfl
@[simp] theorem setR_dct {b:AV}:setR (some (.dct ks,xs)) n b v h = (toKey b).bind fun k=>if ks.length < sizeLine then some (h.put n (.dct (dPut ks xs k v).1,(dPut ks xs k v).2)) else none:=id rfl
@[simp] theorem len_lst:aLenV (.nod .lst xs) h = some (.int xs.length,h):=id rfl
@[simp] theorem len_tup:aLenV (.nod .tup xs) h = some (.int xs.length,h):=id rfl
@[simp] theorem len_scr:aLenV (.nod .scr xs) h = some (.int xs.length,h):=id rfl
theorem len_str {z:Str} (e:z.length ≤ sizeLine):aLenV (.str z) h = some (.int z.length,h):=by
  unfold aLenV lenS
  simp only [if_pos e]; rfl
end
end Rp
end
section
namespace Rp
open PySem PySem.Spec PyProof.Rows L2
theorem forL_ind {G:Grd} {g:AG} {B:AS} (I:List AV → LS → AH → Prop) (hG:∀ xs s h,I xs s h → chk G h = true)
    (step:∀ x xs s h,I (x :: xs) s h → ∃ s1 h1 r h2 s2,g x s h = some (s1,h1) ∧ B s1 h1 = some (r,h2) ∧ (r = .nx s2 ∨ r = .ct s2) ∧ I xs s2 h2) :
    ∀ xs s h,I xs s h → ∃ s' h',forL G g B xs s h = some (.nx s',h') ∧ I [] s' h'
  | [],s,h,i=>⟨s,h,by unfold forL; rw [if_pos (hG _ _ _ i)],i⟩
  | x :: xs,s,h,i=>by
    obtain ⟨s1,h1,r,h2,s2,e1,e2,e3,i2⟩:=step x xs s h i
    obtain ⟨s',h',e4,i3⟩:=forL_ind I hG step xs s2 h2 i2
    refine ⟨s',h',?_,i3⟩
    unfold forL
    rw [if_pos (hG _ _ _ i),e1]
    simp only [Option.bind_some]
    rw [e2]
    rcases e3 with rfl | rfl
    · exact e4
    · exact e4
theorem lcL_map {G:Grd} {g:AG} {t:AT} {f:AE} {s0:LS} {h:AH} (hG:chk G h = true) (p:AV → Bool) (φ:AV → AV) (σ:AV → LS) :
    ∀ (xs acc:List AV),(∀ x ∈ xs,g x s0 h = some (σ x,h) ∧ t (σ x) h = some (p x,h) ∧ (p x = true → f (σ x) h = some (φ x,h))) → acc.length + xs.length ≤ sizeLine →
      lcL G g t f s0 xs acc h = some (acc ++ (xs.filter p).map φ,h)
  | [],acc,_,_=>by unfold lcL; rw [if_pos hG]; simp
  | x :: xs,acc,hx,hz=>by
    obtain ⟨e1,e2,e3⟩:=hx x List.mem_cons_self
    have hz':acc.length + (xs.length + 1) ≤ sizeLine:=hz
    unfold lcL
    rw [if_pos hG,e1]
    simp only [Option.bind_some]
    rw [e2]
    simp only [Option.bind_some]
    cases hp:p x with
    | true =>
      rw [if_pos rfl,e3 hp]
      simp only [Option.bind_some]
      rw [if_pos (by omega),lcL_map hG p φ σ xs (acc ++ [φ x]) (fun y hy=>hx y (List.mem_cons_of_mem _ hy)) (by rw [List.length_append,List.length_singleton]; omega)]
      simp [List.filter_cons,hp]
    | false =>
      rw [if_neg Bool.false_ne_true,lcL_map hG p φ σ xs acc (fun y hy=>hx y (List.mem_cons_of_mem _ hy)) (by omega)]
      simp [List.filter_cons,hp]
structure Kp (S:List Nat) (h h':AH):Prop where
  nx:h.next ≤ h'.next
  st:∀ n,n < h.next → n ∉ S → h'.get n = h.get n
theorem Kp.refl {S:List Nat} {h:AH}:Kp S h h:=⟨Nat.le_refl _,fun _ _ _=>rfl⟩
theorem Kp.trans {S:List Nat} {h1 h2 h3:AH} (a:Kp S h1 h2) (b:Kp S h2 h3):Kp S h1 h3 :=
  ⟨Nat.le_trans a.nx b.nx,fun n hn hS=>(b.st n (Nat.lt_of_lt_of_le hn a.nx) hS).trans (a.st n hn hS)⟩
theorem Kp.mono {S T:List Nat} {h h':AH} (a:Kp S h h') (hs:∀ n ∈ S,n ∈ T):Kp T h h':=⟨a.nx,fun n hn hT=>a.st n hn fun q=>hT (hs n q)⟩
theorem Kp.put {S:List Nat} {h:AH} {n:Nat} {c:Kd × List AV} (e:(h.get n).isSome = true) (hn:n ∈ S):Kp S h (h.put n c) :=
  ⟨by rw [next_put]; exact Nat.le_refl _,fun m _ hS=>by
    have hm:m ≠ n:=fun q=>hS (by rw [q]; exact hn)
    rw [get_putI e,if_neg hm]⟩
theorem Kp.new {S:List Nat} {h:AH} {c:Kd × List AV}:Kp S h (h.new c):=⟨by rw [next_new]; omega,fun m hm _=>by rw [get_new,if_neg (by omega)]⟩
theorem Kp.get {S:List Nat} {h h':AH} (a:Kp S h h') {n:Nat} {c:Kd × List AV} (e:h.get n = some c) (hn:n ∉ S):h'.get n = some c:=by
  rw [a.st n (AH.lt e) hn]; exact e
end Rp
end
section
namespace Rp
open PySem PySem.Spec PyProof.Rows L2
theorem forL_ix {G:Grd} {g:AG} {B:AS} {xs:List AV} (I:Nat → LS → AH → Prop) (hG:∀ i s h,I i s h → chk G h = true)
    (step:∀ i x s h,xs[i]? = some x → I i s h → ∃ s1 h1 r h2 s2,g x s h = some (s1,h1) ∧ B s1 h1 = some (r,h2) ∧ (r = .nx s2 ∨ r = .ct s2) ∧ I (i + 1) s2 h2) {s:LS} {h:AH} (h0:I 0 s h) :
    ∃ s' h',forL G g B xs s h = some (.nx s',h') ∧ I xs.length s' h':=by
  obtain ⟨s',h',e,i,hd,hi,q⟩:=forL_ind (G:=G) (g:=g) (B:=B) (fun ys s h=>∃ i,ys = xs.drop i ∧ i ≤ xs.length ∧ I i s h) (fun ys s h ⟨i,_,_,q⟩=>hG i s h q)
    (fun x ys s h ⟨i,hd,hi,q⟩=>by
      have hlt:i < xs.length:=by
        rcases Nat.lt_or_ge i xs.length with z | z
        · exact z
        · rw [List.drop_eq_nil_of_le z] at hd; cases hd
      rw [List.drop_eq_getElem_cons hlt] at hd
      obtain ⟨e1,e2⟩:=List.cons.inj hd
      obtain ⟨s1,h1,r,h2,s2,a,b,c,d⟩:=step i x s h (by rw [e1,List.getElem?_eq_getElem hlt]) q
      exact ⟨s1,h1,r,h2,s2,a,b,c,i + 1,e2,hlt,d⟩) xs s h ⟨0,rfl,Nat.zero_le _,h0⟩
  have:xs.length ≤ i:=by
    have:=congrArg List.length hd
    simp at this; omega
  have:i = xs.length:=by omega
  subst this
  exact ⟨s',h',e,q⟩
theorem chk_nil {h:AH}:chk [] h = true:=rfl
theorem rgI_get {n i:Nat} {x:AV} (e:(rgI 0 n)[i]? = some x):i < n ∧ x = .int i:=by
  unfold rgI at e
  simp only [List.getElem?_map,List.getElem?_range,Option.map_eq_some_iff] at e
  obtain ⟨a,e1,e2⟩:=e
  by_cases q:i < n
  · simp [q] at e1
    subst e1
    exact ⟨q,by rw [← e2]; simp⟩
  · simp [List.getElem?_eq_none (show (List.range n).length ≤ i by simp; omega)] at e1
@[simp] theorem rgI_len {lo:Int} {n:Nat}:(rgI lo n).length = n:=by simp [rgI]
variable {s s':LS} {h h' h1:AH} {a b v:AV} {f g k:AE} {t u:AT} {A B:AS} {G:AG} {xs ys:List AV} {n:Nat}
def forK (r:Option ((List AV × Grd) × AH)) (g:AG) (B:AS) (s:LS):Option (AR × AH):=r.bind fun q=>forL q.1.2 g B q.1.1 s q.2
@[simp] theorem ev_for {src:ASrc}:aFor src G B s h = forK (src s h) G B s:=id rfl
@[simp] theorem forK_some {gr:Grd}:forK (some ((xs,gr),h')) G B s = forL gr G B xs s h':=id rfl
def srcVK (r:Option (AV × AH)):Option ((List AV × Grd) × AH):=r.bind fun r=>(srcV r.1 r.2).bind fun q=>some (q,r.2)
@[simp] theorem ev_sVal:sVal f s h = srcVK (f s h):=id rfl
theorem sm_nat {j:Nat} (hj:j < 1000000):sm (j:Int) = true:=by
    have hp:(2:Int) ^ 62 = 4611686018427387904:=by decide
    unfold sm
    rw [hp]
    simp only [Bool.and_eq_true,decide_eq_true_eq]
    omega
def rngK (S:Int → Bool) (r:Option (List AV × AH)):Option ((List AV × Grd) × AH):=r.bind fun r=>match r.1 with
  | [.int j]=>if S j = true then some ((rgI 0 j.toNat,[]),r.2) else none
  | _=>none
theorem rngK_ok {S:Int → Bool} {k:Int} {h:AH} (hs:S k = true):rngK S (some ([.int k],h)) = some ((rgI 0 k.toNat,[]),h):=by
  simp [rngK,hs]
@[simp] theorem ev_rng {gs:AA} {s:LS} {h:AH}:sRng1 gs s h = rngK sm (gs s h):=id rfl
theorem rngK_nat {j:Nat} {h:AH} (hj:j < 1000000):rngK sm (some ([.int j],h)) = some ((rgI 0 j,[]),h):=rngK_ok (sm_nat hj)
theorem ev_append {as:List AV} (e:h.get n = some (.lst,xs)) (hl:xs.length < sizeLine):aAppend (.ref n) [v] h = some (.non,h.put n (.lst,xs ++ [v])):=by
  simp [aAppend,cellL,e,hl]
def bmK (T:String) (op:AV → List AV → AH → Option (AV × AH)) (r:Option (AV × AH)) (g:AA) (s:LS):Option (AV × AH):=r.bind fun r=>if tyOk T r.1 r.2 = true then (g s r.2).bind fun q=>op r.1 q.1 q.2 else none
def bmJ (op:AV → List AV → AH → Option (AV × AH)) (a:AV) (r:Option (List AV × AH)):Option (AV × AH):=r.bind fun q=>op a q.1 q.2
@[simp] theorem ev_bm {T:String} {op:AV → List AV → AH → Option (AV × AH)} {gs:AA}:aBM T op f gs s h = bmK T op (f s h) gs s:=id rfl
@[simp] theorem bmJ_some {op:AV → List AV → AH → Option (AV × AH)} {as:List AV}:bmJ op a (some (as,h)) = op a as h:=id rfl
@[simp] theorem bmK_str {op:AV → List AV → AH → Option (AV × AH)} {gs:AA} {z:Str}:bmK "str" op (some (.str z,h)) gs s = bmJ op (.str z) (gs s h):=id rfl
def appR (r:Option (Kd × List AV)) (n:Nat) (v:AV) (h:AH):Option (AV × AH):=match r with
  | some (.lst,xs)=>if xs.length < sizeLine then some (.non,h.put n (.lst,xs ++ [v])) else none
  | _=>none
def bmC (T:String) (op:AV → List AV → AH → Option (AV × AH)) (c:Option (Kd × List AV)) (n:Nat) (h:AH) (gs:AA) (s:LS):Option (AV × AH):=match c with
  | some (.lst,_)=>if T = "list" then bmJ op (.ref n) (gs s h) else none
  | some (.scr,_)=>if T = "list" then bmJ op (.ref n) (gs s h) else none
  | some (.dct _,_)=>if T = "dict" then bmJ op (.ref n) (gs s h) else none
  | _=>none
@[simp] theorem bmK_ref {T:String} {op:AV → List AV → AH → Option (AV × AH)} {gs:AA}:bmK T op (some (.ref n,h)) gs s = bmC T op (h.get n) n h gs s:=by
  unfold bmK bmC
  simp only [Option.bind_some,tyOk,look_ref]
  cases h.get n with
  | none=>rfl
  | some q =>
    obtain ⟨kd,xs⟩:=q
    cases kd <;> simp [bmJ]
@[simp] theorem bmC_lst {op:AV → List AV → AH → Option (AV × AH)} {gs:AA}:bmC "list" op (some (.lst,xs)) n h gs s = bmJ op (.ref n) (gs s h):=id rfl
@[simp] theorem append_ref:aAppend (.ref n) [v] h = appR (h.get n) n v h:=by
  unfold aAppend cellL appR
  cases hq:h.get n with
  | none=>simp [hq]
  | some q =>
    obtain ⟨kd,xs⟩:=q
    cases kd <;> simp [hq]
def sliceK (mk:Kd → List AV → AH → Option (AV × AH)) (r:Option (AV × AH)) (lo hi:AO) (s:LS):Option (AV × AH):=r.bind fun r=>(lo s r.2).bind fun l=>(hi s l.2).bind fun u=>aSl mk r.1 l.1 u.1 u.2
def sliceJ (mk:Kd → List AV → AH → Option (AV × AH)) (a:AV) (r:Option (Option Int × AH)) (hi:AO) (s:LS):Option (AV × AH):=r.bind fun l=>(hi s l.2).bind fun u=>aSl mk a l.1 u.1 u.2
def sliceI (mk:Kd → List AV → AH → Option (AV × AH)) (a:AV) (l:Option Int) (r:Option (Option Int × AH)):Option (AV × AH):=r.bind fun u=>aSl mk a l u.1 u.2
@[simp] theorem ev_slice {mk:Kd → List AV → AH → Option (AV × AH)} {lo hi:AO}:aSlice mk f lo hi s h = sliceK mk (f s h) lo hi s:=id rfl
@[simp] theorem sliceK_some {mk:Kd → List AV → AH → Option (AV × AH)} {lo hi:AO}:sliceK mk (some (a,h)) lo hi s = sliceJ mk a (lo s h) hi s:=id rfl
@[simp] theorem sliceJ_some {mk:Kd → List AV → AH → Option (AV × AH)} {l:Option Int} {hi:AO}:sliceJ mk a (some (l,h)) hi s = sliceI mk a l (hi s h):=id rfl
@[simp] theorem sliceI_some {mk:Kd → List AV → AH → Option (AV × AH)} {l u:Option Int}:sliceI mk a l (some (u,h)) = aSl mk a l u h:=id rfl
@[simp] theorem ev_no:aNo s h = some (none,h):=id rfl
def partK (r:Option (AV × AH)):Option (Option Int × AH):=r.bind fun r=>match r.1 with
  | .int i=>some (some i,r.2)
  | _=>none
@[simp] theorem ev_part:aPart f s h = partK (f s h):=id rfl
@[simp] theorem partK_some {i:Int}:partK (some (.int i,h)) = some (some i,h):=id rfl
theorem sl_str {mk:Kd → List AV → AH → Option (AV × AH)} {z:Str} {l u:Option Int} (e:z.length ≤ sizeLine):aSl mk (.str z) l u h = some (.str (cutS z l u),h):=by
  simp [aSl,e]
theorem mkF_ok {kd:Kd} (e:xs.length ≤ sizeLine):mkF kd xs h = some (.nod kd xs,h):=by simp [mkF,e]
theorem mkM_ok {kd:Kd} (e:xs.length ≤ sizeLine):mkM kd xs h = some (.ref h.next,h.new (kd,xs)):=by simp [mkM,e]
def frzK (k:Nat) (r:Option (AV × AH)):Option (AV × AH):=r.bind fun r=>frzV k r.1 r.2
@[simp] theorem ev_frz {j:Nat}:aFrz j f s h = frzK j (f s h):=id rfl
@[simp] theorem frzK_some {j:Nat}:frzK j (some (a,h)) = frzV j a h:=id rfl
theorem mapO_id {φ:AV → AH → Option (AV × AH)}:∀ {xs:List AV},(∀ x ∈ xs,φ x h = some (x,h)) → mapO φ xs h = some (xs,h)
  | [],_=>rfl
  | x :: xs,e=>by
    unfold mapO
    rw [e x List.mem_cons_self]
    simp only [Option.bind_some]
    rw [mapO_id fun y hy=>e y (List.mem_cons_of_mem _ hy)]
    rfl
theorem mapO_0:mapO (frzV 0) xs h = some (xs,h):=mapO_id fun _ _=>rfl
theorem frz1_ref (e:h.get n = some (.lst,xs)):frzV 1 (.ref n) h = some (.nod .lst xs,h.del n):=by
  unfold frzV frz1
  simp only [e]
  show (mapO (frzV 0) xs (h.del n)).bind _ = _
  rw [mapO_0]; rfl
theorem frz1_nod {kd:Kd}:frzV 1 (.nod kd xs) h = some (.nod kd xs,h):=by
  unfold frzV frz1
  show (mapO (frzV 0) xs h).bind _ = _
  rw [mapO_0]; rfl
@[simp] theorem get_del {m:Nat}:(h.del n).get m = if m = n then none else h.get m:=id rfl
@[simp] theorem next_del:(h.del n).next = h.next:=id rfl
theorem Kp.del {S:List Nat} {h0 h:AH} {n:Nat} (k:Kp S h0 h) (hn:h0.next ≤ n):Kp S h0 (h.del n):=⟨k.nx,fun m hm hS=>by
  rw [get_del,if_neg (by omega)]; exact k.st m hm hS⟩
end Rp
end
section
namespace Rp
open PySem PySem.Spec PyProof.Rows L2
variable {s s':LS} {h h' h1:AH} {a b v:AV} {f g k:AE} {t u:AT} {A B:AS} {G:AG} {xs ys:List AV} {n:Nat} {x y:Str} {i j:Int}
theorem eq_ss:aEq (.str x) (.str y) h = some (.bl (decide (x = y)),h):=by
  simp [aEq,nrm,isD,toD,PyData.eqv]
  by_cases q:x = y <;> simp [q]
theorem eq_ii:aEq (.int i) (.int j) h = some (.bl (decide (i = j)),h):=by
  simp [aEq,nrm,isD,toD,PyData.eqv]
  by_cases q:i = j <;> simp [q]
theorem ne_ss:aNe (.str x) (.str y) h = some (.bl (!decide (x = y)),h):=by
  simp [aNe,nrm,isD,toD,PyData.eqv]
  by_cases q:x = y <;> simp [q]
theorem ne_ii:aNe (.int i) (.int j) h = some (.bl (!decide (i = j)),h):=by
  simp [aNe,nrm,isD,toD,PyData.eqv]
  by_cases q:i = j <;> simp [q]
theorem isDs_str {n:Nat}:∀ {L:List Str},isDs n (L.map .str) = true
  | []=>by simp [isDs]
  | x :: L=>by simp only [List.map_cons,isDs,isD,Bool.true_and]; exact isDs_str
theorem toDs_str:∀ {L:List Str},toDs (L.map .str) = L.map .str
  | []=>by simp [toDs]
  | x :: L=>by simp only [List.map_cons,toDs,toD]; rw [toDs_str]
theorem any_str {L:List Str}:((L.map PyData.str).any fun y=>PyData.eqv y (.str x)) = decide (x ∈ L):=by
  induction L with
  | nil=>simp
  | cons z L ih =>
    simp only [List.map_cons,List.any_cons,ih,PyData.eqv,List.mem_cons]
    by_cases q:z = x
    · subst q; simp
    · have q2:¬ x = z:=fun e=>q e.symm
      simp [q,q2]
theorem inD_lst {ng':Bool} (L:List Str):aInD ng' (.str x) (.nod .lst (L.map .str)) h = some (.bl (ng ng' (decide (x ∈ L))),h):=by
  simp [aInD,look,isDs_str,isD,nrm,toDs_str,toD]
  rw [← any_str]; simp [Function.comp_def]
theorem in_lst (L:List Str):aIn (.str x) (.nod .lst (L.map .str)) h = some (.bl (decide (x ∈ L)),h):=by
  show orO (aInD _ _ _ _) _ = _
  rw [inD_lst]; rfl
@[simp] theorem is_nn:aIs .non .non h = some (.bl true,h):=id rfl
@[simp] theorem is_sn:aIs (.str x) .non h = some (.bl false,h):=id rfl
@[simp] theorem is_in:aIs (.int i) .non h = some (.bl false,h):=id rfl
@[simp] theorem is_on {kd:Kd}:aIs (.nod kd xs) .non h = some (.bl false,h):=id rfl
@[simp] theorem isNot_nn:aIsNot .non .non h = some (.bl false,h):=id rfl
@[simp] theorem isNot_sn:aIsNot (.str x) .non h = some (.bl true,h):=id rfl
@[simp] theorem isNot_in:aIsNot (.int i) .non h = some (.bl true,h):=id rfl
@[simp] theorem isNot_on {kd:Kd}:aIsNot (.nod kd xs) .non h = some (.bl true,h):=id rfl
def getK2 (d:Option (List Key × List AV)) (k:AV) (z:AV × AH):Option (AV × AH):=d.bind fun d=>(toKey k).bind fun k=>some ((((kIx d.1 k).bind fun i=>d.2[i]?).getD z.1),z.2)
def get2K (r:Option (AV × AH)) (g t:AE) (s:LS):Option (AV × AH):=r.bind fun r=>(dctOf r.2 r.1).bind fun _=>(g s r.2).bind fun q=>(t s q.2).bind fun z=>getK2 (dctOf z.2 r.1) q.1 z
@[simp] theorem ev_get2 {t:AE}:aGet2 f g t s h = get2K (f s h) g t s:=id rfl
theorem dctOf_cell {ks:List Key} (e:h.get n = some (.dct ks,xs)):dctOf h (.ref n) = some (ks,xs):=by simp [dctOf,e]
@[simp] theorem ev_fld {k j:Nat}:aFld k j f s h = (f s h).bind fun r=>aFldV k j r.1 r.2:=id rfl
def fldR (r:Option (Kd × List AV)) (k j:Nat) (h:AH):Option (AV × AH):=match r with
  | some (.ins k',xs)=>if k' = k then (xs[j]?).bind fun v=>some (v,h) else none
  | _=>none
@[simp] theorem fld_ref {k j:Nat}:aFldV k j (.ref n) h = fldR (h.get n) k j h:=by
  rfl
@[simp] theorem fldR_ins {k j:Nat}:fldR (some (.ins k,xs)) k j h = (xs[j]?).bind fun v=>some (v,h):=by simp [fldR]
def setFR (r:Option (Kd × List AV)) (k j:Nat) (n:Nat) (v:AV) (h:AH):Option AH:=match r with
  | some (.ins k',xs)=>if k' = k then (if j < xs.length then some (h.put n (.ins k,xs.set j v)) else if j = xs.length then some (h.put n (.ins k,xs ++ [v])) else none) else none
  | _=>none
@[simp] theorem setF_ref {k j:Nat}:setFld k j (.ref n) v h = setFR (h.get n) k j n v h:=by
  rfl
@[simp] theorem setFR_ins {k j:Nat}:setFR (some (.ins k,xs)) k j n v h = if j < xs.length then some (h.put n (.ins k,xs.set j v)) else if j = xs.length then some (h.put n (.ins k,xs ++ [v])) else none:=by simp [setFR]
@[simp] theorem ev_setF {fe fo:AE} {k j:Nat}:aSetF fe k j fo s h = (fe s h).bind fun r=>(fo s r.2).bind fun o=>(setFld k j o.1 r.1 o.2).bind fun h' => some (.nx s,h'):=id rfl
@[simp] theorem ev_augF {k j:Nat}:aAugF k j f g s h = (f s h).bind fun r=>(aFldV k j r.1 r.2).bind fun x=>match x.1 with
  | .int m=>(g s r.2).bind fun y=>match y.1 with
    | .int n=>(setFld k j r.1 (.int (m + n)) y.2).bind fun h' => some (.nx s,h')
    | _=>none
  | _=>none:=id rfl
@[simp] theorem ev_stuck:aStuck s h = none:=id rfl
@[simp] theorem ev_meth {c:Nat} {F:AF} {das:List AV} {gs:AA}:aMeth c F das f gs s h = (f s h).bind fun r=>match look r.2 r.1 with
  | some (.ins c',_)=>if c' = c then (gs s r.2).bind fun q=>F (r.1 :: (q.1 ++ das)) q.2 else none
  | _=>none:=id rfl
@[simp] theorem ev_make {c:Nat} {F:AF} {das:List AV} {gs:AA}:aMake c F das gs s h = (gs s h).bind fun q=>(F (.ref q.2.next :: (q.1 ++ das)) (q.2.new (.ins c,[]))).bind fun r=>match r.1 with
  | .non=>some (.ref q.2.next,r.2)
  | _=>none:=id rfl
@[simp] theorem ev_gsNil:gsNil [] s h = some (s,h):=id rfl
@[simp] theorem ev_gsCons {F:AG} {gs:AGs} {vs:List AV}:gsCons F gs (v :: vs) s h = (F v s h).bind fun q=>gs vs q.1 q.2:=id rfl
theorem seqOf_lst:seqOf h (.nod .lst xs) = some xs:=id rfl
@[simp] theorem ev_gSq_lst {gs:AGs} {n:Nat}:gSq n gs (.nod .lst xs) s h = if xs.length = n then gs xs s h else none:=id rfl
@[simp] theorem ev_gSq_tup {gs:AGs} {n:Nat}:gSq n gs (.nod .tup xs) s h = if xs.length = n then gs xs s h else none:=id rfl
@[simp] theorem ev_andV:aAndV f g s h = (f s h).bind fun r=>match r.1 with
  | .bl true=>g s r.2
  | .bl false=>some (.bl false,r.2)
  | _=>none:=id rfl
@[simp] theorem ev_op1 {o:AV → AH → Option (AV × AH)}:aOp1 o f s h = (f s h).bind fun r=>o r.1 r.2:=id rfl
@[simp] theorem ev_chain {o o':AV → AV → AH → Option (AV × AH)}:aChain o o' f g k s h = (f s h).bind fun r=>(g s r.2).bind fun q=>(o r.1 q.1 q.2).bind fun z=>match z.1 with
  | .bl true=>(k s z.2).bind fun y=>o' q.1 y.1 y.2
  | .bl false=>some (.bl false,z.2)
  | _=>none:=id rfl
@[simp] theorem ev_yes:aYes s h = some (true,h):=id rfl
@[simp] theorem ev_lc {mk:Kd → List AV → AH → Option (AV × AH)} {src:ASrc} {vs:List Nat}:aLc mk src G t f vs s h = (src s h).bind fun q=>(lcL q.1.2 G t f (wipeA s vs) q.1.1 [] q.2).bind fun r=>mk .lst r.1 r.2:=id rfl
theorem Kp.tr2 {S T:List Nat} {h h1 h2:AH} (a:Kp S h h1) (b:Kp T h1 h2) (q:∀ x ∈ T,x ∈ S ∨ h.next ≤ x):Kp S h h2 :=
  ⟨Nat.le_trans a.nx b.nx,fun n hn hS=>(b.st n (Nat.lt_of_lt_of_le hn a.nx) fun z=>by
    rcases q n z with y | y
    · exact hS y
    · omega).trans (a.st n hn hS)⟩
@[simp] theorem ev_addM {a b:AV}:aAddM a b h = aCat mkM a b h:=id rfl
theorem cat_nod {mk:Kd → List AV → AH → Option (AV × AH)} {ys:List AV}:aCat mk (.nod .lst xs) (.nod .lst ys) h = mk .lst (xs ++ ys) h:=by
  simp [aCat,look]
theorem add_cat {a b:AV} (h1:aAddI a b h = none) (h2:aAddS a b h = none):aAdd a b h = aCat mkF a b h:=by
  unfold aAdd
  rw [h1,h2]; rfl
theorem add_nod {ys:List AV}:aAdd (.nod .lst xs) (.nod .lst ys) h = mkF .lst (xs ++ ys) h:=by
  rw [add_cat rfl rfl,cat_nod]
def frzR (r:Option (Kd × List AV)) (n:Nat) (h:AH):Option (AV × AH):=match r with
  | some (.lst,xs)=>some (.nod .lst xs,h.del n)
  | _=>frzV 1 (.ref n) h
@[simp] theorem frz1_refR:frzV 1 (.ref n) h = frzR (h.get n) n h:=by
  unfold frzR
  split
  · rename_i xs e; exact frz1_ref e
  · rfl
@[simp] theorem frzR_lst:frzR (some (.lst,xs)) n h = some (.nod .lst xs,h.del n):=id rfl
@[simp] theorem frz1_nod' {kd:Kd}:frzV 1 (.nod kd xs) h = some (.nod kd xs,h):=frz1_nod
def catR (mk:Kd → List AV → AH → Option (AV × AH)) (r:Option (Kd × List AV)) (ys:List AV) (h:AH):Option (AV × AH):=match r with
  | some (.lst,xs)=>mk .lst (xs ++ ys) h
  | _=>none
@[simp] theorem catM_ref {ys:List AV}:aCat mkM (.ref n) (.nod .lst ys) h = catR mkM (h.get n) ys h:=by
  unfold aCat catR
  simp only [look_ref,look_nod]
  cases h.get n with
  | none=>rfl
  | some q =>
    obtain ⟨kd,xs⟩:=q
    cases kd <;> rfl
@[simp] theorem catM_nod {mk:Kd → List AV → AH → Option (AV × AH)} {ys:List AV}:aCat mk (.nod .lst xs) (.nod .lst ys) h = mk .lst (xs ++ ys) h:=cat_nod
@[simp] theorem catR_lst {mk:Kd → List AV → AH → Option (AV × AH)} {ys:List AV}:catR mk (some (.lst,xs)) ys h = mk .lst (xs ++ ys) h:=id rfl
@[simp] theorem add_refR {ys:List AV}:aAdd (.ref n) (.nod .lst ys) h = catR mkF (h.get n) ys h:=by
  rw [add_cat rfl rfl]
  unfold aCat catR
  simp only [look_ref,look_nod]
  cases h.get n with
  | none=>rfl
  | some q =>
    obtain ⟨kd,xs⟩:=q
    cases kd <;> rfl
@[simp] theorem add_nod' {ys:List AV}:aAdd (.nod .lst xs) (.nod .lst ys) h = mkF .lst (xs ++ ys) h:=add_nod
def lenR (r:Option (Kd × List AV)) (h:AH):Option (AV × AH):=match r with
  | some (.lst,xs)=>some (.int xs.length,h)
  | some (.tup,xs)=>some (.int xs.length,h)
  | some (.scr,xs)=>some (.int xs.length,h)
  | some (.dct ks,_)=>some (.int ks.length,h)
  | some (.ldct ks,_)=>some (.int ks.length,h)
  | _=>none
@[simp] theorem len_ref:aLenV (.ref n) h = lenR (h.get n) h:=by
  unfold aLenV lenQ lenD lenS seqOf dctOf lenR
  simp only [look_ref]
  cases h.get n with
  | none=>rfl
  | some q =>
    obtain ⟨kd,xs⟩:=q
    cases kd <;> rfl
@[simp] theorem lenR_lst:lenR (some (.lst,xs)) h = some (.int xs.length,h):=id rfl
@[simp] theorem lenR_dct {ks:List Key}:lenR (some (.dct ks,xs)) h = some (.int ks.length,h):=id rfl
theorem put_oth {m:Nat} {c c1 c2:Kd × List AV} (e1:h.get n = some c1) (e2:h.get m = some c2) (hn:n ≠ m):(h.put m c).get n = some c1:=by
  rw [AH.get_put e2,if_neg hn]; exact e1
theorem put_own {c c2:Kd × List AV} (e2:h.get n = some c2):(h.put n c).get n = some c:=by
  rw [AH.get_put e2,if_pos rfl]
theorem new_oth {c c1:Kd × List AV} (e1:h.get n = some c1):(h.new c).get n = some c1:=by
  have:=AH.lt e1
  rw [get_new,if_neg (by omega)]; exact e1
theorem new_own {c:Kd × List AV}:(h.new c).get h.next = some c:=by rw [get_new,if_pos rfl]
end Rp
end
section
namespace Rp
open PySem PySem.Spec PyProof.Rows L2
section
variable {X:Cx} {cl:Nat → Str × List Str} {pos tpos:Pos} {o e:Expr} {f:AE} {fn:Str} {k j:Nat} {a:Addr}
end
section
variable {X:Cx} {cl:Nat → Str × List Str} {e t1 t2 t3:Expr} {fe:AE} {g1 g2 g3:AG} {pos:Pos}
end
section
variable {X:Cx} {cl:Nat → Str × List Str} {x y:Str} {a b:Expr} {g:AA} {px py pt pos:Pos}
end
section
variable {X:Cx} {cl:Nat → Str × List Str} {x:Str} {p pos:Pos} {e:Expr} {es:List Expr} {g:AA} {T:List (Str × Nat × AF)} {k i:Nat}
end
def aIntS (a:AV) (h:AH):Option (AV × AH):=match a with
  | .str x=>if x.length ≤ 640 then (intText? x).bind fun i=>some (.int i,h) else none
  | _=>none
theorem s_intS {c:Ct}:SndN c (fun xs H Q=>∃ a n,xs = [.str a] ∧ PySem.intText? a = some n ∧ a.length ≤ 640 ∧ Q (.int n) H) (one aIntS):=by
  refine snd_one ?_
  intro w H h a u v h' Q S r e k
  unfold aIntS at e
  split at e
  · split at e
    · rename_i x hz
      obtain ⟨i,e1,e2⟩:=bind_some e
      cases e2
      rw [show u = _ from r]
      exact ⟨_,i,rfl,e1,hz,k w H _ (.refl _ _ _) S rfl⟩
    · cases e
  · cases e
def aInt2 (as:List AV) (h:AH):Option (AV × AH):=orO (one aIntV as h) (one aIntS as h)
theorem w_int2 {X:Cx} {cl:Nat → Str × List Str} {pos p:Pos} {e:Expr} {g:AA} (hm0:X.mg "int" = none) (ha:PA X [e] (tAs (ctX X cl) g)) (hg:Gl X "int" := by rfl) (he:starEach [e] X.env = (false,eval e X.env) :: starEach [] X.env:=by rfl) (hpl:(backTo pos (starEach [] X.env)).any (·.1) = false:=by rfl):PE X (.Call (.Name "int" p) [e] [] pos) (tA (ctX X cl) (aArgs aInt2 g)) :=
  ae_ty (CallR.or call_int1 call_int_str) (SndN.or s_int s_intS) hm0 boot_int ha hg (by decide) (by decide) he hpl
section
variable {K:PySem.W.Frag} {w:World} {h:Heap} {mg:Str → Option Value} {cl:Nat → Str × List Str}
end
end Rp
end
section
namespace Rp
open PySem PySem.Spec PyProof.Rows L2
section
variable {ρ:Type} [DecidableEq ρ]
structure At (h:AH) (ad:ρ → Nat) (ct:ρ → Option (Kd × List AV)):Prop where
  at_:∀ r c,ct r = some c → h.get (ad r) = some c
  inj:∀ r r',(ct r).isSome = true → (ct r').isSome = true → ad r = ad r' → r = r'
def upd1 {α:Type} (f:ρ → α) (r:ρ) (x:α):ρ → α:=fun q=>if q = r then x else f q
theorem upd1_same {α:Type} {f:ρ → α} {r:ρ} {x:α}:upd1 f r x r = x:=if_pos rfl
theorem upd1_ne {α:Type} {f:ρ → α} {r q:ρ} {x:α} (h:q ≠ r):upd1 f r x q = f q:=if_neg h
variable {h h':AH} {ad:ρ → Nat} {ct:ρ → Option (Kd × List AV)} {r:ρ} {c c':Kd × List AV}
theorem At.get (A:At h ad ct) (e:ct r = some c):h.get (ad r) = some c:=A.at_ r c e
theorem At.lt (A:At h ad ct) (e:ct r = some c):ad r < h.next:=AH.lt (A.get e)
theorem At.put (A:At h ad ct) (e:ct r = some c):At (h.put (ad r) c') ad (upd1 ct r (some c')):=by
  have hs:=A.get e
  refine ⟨fun q d hq=>?_,fun q q' hq hq' hqq=>?_⟩
  · by_cases hqr:q = r
    · subst hqr
      rw [upd1_same] at hq
      cases hq
      exact put_own hs
    · rw [upd1_ne hqr] at hq
      have hne:ad q ≠ ad r:=fun z=>hqr (A.inj q r (by rw [hq]; rfl) (by rw [e]; rfl) z)
      exact put_oth (A.get hq) hs hne
  · have f:∀ q,(upd1 ct r (some c') q).isSome = true → (ct q).isSome = true:=by
      intro q hq
      by_cases hqr:q = r
      · subst hqr; rw [e]; rfl
      · rw [upd1_ne hqr] at hq; exact hq
    exact A.inj q q' (f q hq) (f q' hq') hqq
theorem At.new (A:At h ad ct):At (h.new c') (upd1 ad r h.next) (upd1 ct r (some c')):=by
  have lt:∀ q d,ct q = some d → ad q < h.next:=fun q d e=>A.lt e
  refine ⟨fun q d hq=>?_,fun q q' hq hq' hqq=>?_⟩
  · by_cases hqr:q = r
    · subst hqr
      rw [upd1_same] at hq ⊢
      cases hq
      exact new_own
    · rw [upd1_ne hqr] at hq ⊢
      exact new_oth (A.get hq)
  · by_cases hqr:q = r
    · by_cases hqr':q' = r
      · rw [hqr,hqr']
      · subst hqr
        rw [upd1_ne hqr'] at hq' hqq
        rw [upd1_same] at hqq
        obtain ⟨d,hd⟩:=Option.isSome_iff_exists.mp hq'
        have:=lt q' d hd
        omega
    · by_cases hqr':q' = r
      · subst hqr'
        rw [upd1_ne hqr] at hq hqq
        rw [upd1_same] at hqq
        obtain ⟨d,hd⟩:=Option.isSome_iff_exists.mp hq
        have:=lt q d hd
        omega
      · rw [upd1_ne hqr] at hq hqq
        rw [upd1_ne hqr'] at hq' hqq
        exact A.inj q q' hq hq' hqq
theorem At.kp (A:At h ad ct) (k:Kp [] h h'):At h' ad ct:=⟨fun q d hq=>k.get (A.get hq) (by simp),A.inj⟩
end
end Rp
end
section
namespace Rp
open PySem PySem.W PySem.Calls PyProof.Rows HandSHeadRun
theorem left_mid {p q:Program} {loose:List Str} {Xt:Shared → Bool} {α:Type} {Yf:Shared → α} {Ya:World → α} {N M K m0:Nat} {ann:Option Value} {Sk:World → OsState → SharedT} {tk:World → OsState → Thread}
    (e:opening p = plainProg p.main.scope.names) (hN:Nat.ble 600 N = true) (f:∀ s,fenceModules? p s = some s) (le:Nat.ble (K + M) N = true)
    (hm:∀ w:World,(boot_heap w.params).objs.size = m0 ∧ bootAnn w = ann)
    (pre:∀ (w:World) (os:OsState) (n:Nat) (r:Shared),topRun treeTable p w m0 ann n (Sk w os).abs (tk w os) = some r → topRun treeTable p w m0 ann (K + n) ⟨boot_heap w.params,#[],boot_drawn,boot_toks,os⟩ (topStub p) = some r)
    (run:∀ (w:World) (os:OsState),(goF (stepT (denote treeTable) p w) m0 ann M (Sk w os) (tk w os)).map (fun s=>(looksF p (boot_heap w.params) s.abs,openSeen q loose (importedModules p.main.body) Xt true s.abs,Yf s.abs)) = some (true,openGood q loose,Ya w)) :
    LeftO p q loose Xt Yf Ya N true:=fun w=>by
  obtain ⟨⟨h,gs,d,k,os⟩,a,a'⟩:=Option.map_eq_some_iff.mp (boot_open e hN f w)
  obtain ⟨rfl,rfl,rfl,rfl⟩:h = boot_heap w.params ∧ gs = Array.mk [] ∧ d = boot_drawn ∧ k = boot_toks:=by simpa using a'
  obtain ⟨s,hs,hv⟩:=Option.map_eq_some_iff.mp (run w os)
  obtain ⟨l1,l2,l3⟩:_ ∧ _ ∧ _:=by simpa only [Prod.mk.injEq] using hv
  have r:=topRun_mono (N - (K + M)) _ _ _ _ (pre w os M _ (goF_ok hs))
  rw [show K + M + (N - (K + M)) = N by have:=Nat.le_of_ble_eq_true le; omega] at r
  rw [← (hm w).1,← (hm w).2] at r
  have l1':(staticsOk (importedModules p.main.body) (boot_heap w.params) s.abs.heap && namesBound p s.abs.heap && gensDone s.abs && laidKept (boot_heap w.params) s.abs.heap) = true:=l1
  have t:topFrom treeTable p w N ⟨boot_heap w.params,Array.mk [],boot_drawn,boot_toks,os⟩ = some s.abs:=by
    unfold topFrom
    dsimp only
    rw [boot_ns]
    show (topRun treeTable p w (boot_heap w.params).objs.size (bootAnn w) N ⟨boot_heap w.params,#[],boot_drawn,boot_toks,os⟩ (topStub p)).bind _ = _
    rw [r]
    show (match staticsOk (importedModules p.main.body) (boot_heap w.params) s.abs.heap && namesBound p s.abs.heap && gensDone s.abs && laidKept (boot_heap w.params) s.abs.heap with | true=>some s.abs | false=>none) = _
    rw [l1']
  unfold openEnds
  rw [a]
  show (topFrom treeTable p w N _).map _ = _
  rw [t]
  exact congrArg some (Prod.ext l2 l3)
theorem mid_of {p:Program} {w:World} {m0:Nat} {ann:Option Value} {k0 N' K:Nat} {s0 Sa Sb r:Shared} {stub:Thread} {b body2:List Stmt} {env:Env} {c:Code} {pos p' q:Pos}
    (h1:topGo treeTable p w m0 ann k0 s0 stub = some (Sa,⟨denote treeTable (.body b env),c,pos,[topFrame q]⟩))
    (h2:segRun treeTable p w m0 ann 1 1 Sa (blockOf b env c pos [topFrame q]) = some (.next,Sb,c,p')) (eb:body2 = b)
    (h3:topRun treeTable p w m0 ann N' Sb (restOf body2 env c p' [topFrame q]) = some r) (eN:k0 + (1 + N') = K):topRun treeTable p w m0 ann K s0 stub = some r:=by
  subst eb
  subst eN
  exact go_top h1 (piece_block h2 h3)
def RunM {β:Type} (p:Program) (M m0:Nat) (ann:Option Value) (Sk:World → OsState → SharedT) (tk:World → OsState → Thread) (f:World → SharedT → β) (v:World → β) (w:World):Prop :=
  ∀ os:OsState,(goF (stepQ (denQ tabQ) p w) m0 ann M (Sk w os) (tk w os)).map (f w) = some (v w)
theorem RunM.map {β γ:Type} {p:Program} {M m0:Nat} {ann:Option Value} {Sk:World → OsState → SharedT} {tk:World → OsState → Thread} {f:World → SharedT → β} {v:World → β} {w:World} (g:β → γ)
    (a:RunM p M m0 ann Sk tk f v w):RunM p M m0 ann Sk tk (fun w s=>g (f w s)) (fun w=>g (v w)) w:=fun os=>by
  have a:=congrArg (Option.map g) (a os)
  rw [Option.map_map,Option.map_some] at a
  exact a
theorem RunM.pair {β γ:Type} {p:Program} {M m0:Nat} {ann:Option Value} {Sk:World → OsState → SharedT} {tk:World → OsState → Thread} {f:World → SharedT → β} {g:World → SharedT → γ} {v:World → β} {u:World → γ} {w:World}
    (a:RunM p M m0 ann Sk tk f v w) (b:RunM p M m0 ann Sk tk g u w):RunM p M m0 ann Sk tk (fun w s=>(f w s,g w s)) (fun w=>(v w,u w)) w:=fun os=>by
  have a:=a os
  have b:=b os
  cases e:goF (stepQ (denQ tabQ) p w) m0 ann M (Sk w os) (tk w os) with
  | none=>rw [e] at a; cases a
  | some s =>
    rw [e] at a b
    simp only [Option.map_some,Option.some.injEq] at a b ⊢
    rw [a,b]
theorem head_mid {r:OpenRow} {q:Program} {H:Hook} {ob:SharedT → H.α} {M K m0:Nat} {ann:Option Value} {loose:List PySem.Str} {d:DefRec} {kwd:List (PySem.Str × PySem.Expr)} {Sk:World → OsState → SharedT} {tk:World → OsState → Thread} (ho:∀ s:SharedT,ob s = H.obs s.abs)
    (e:opening r.prog = plainProg r.prog.main.scope.names) (f:∀ s,fenceModules? r.prog s = some s)
    (hm:∀ w:World,(boot_heap w.params).objs.size = m0 ∧ bootAnn w = ann)
    (pre:∀ (w:World) (os:OsState) (n:Nat) (s:Shared),topRun treeTable r.prog w m0 ann n (Sk w os).abs (tk w os) = some s → topRun treeTable r.prog w m0 ann (K + n) ⟨boot_heap w.params,#[],boot_drawn,boot_toks,os⟩ (topStub r.prog) = some s)
    (run1:∀ w,RunM r.prog M m0 ann Sk tk (fun w s=>looksF r.prog (boot_heap w.params) s.abs) (fun _=>true) w)
    (run2:∀ w,RunM r.prog M m0 ann Sk tk (fun _ s=>seenQ q loose (importedModules r.prog.main.body) (fun s=>xlAt q [] s && recOk r.toRowW.records s) s.abs) (fun _=>openGood q loose) w)
    (run3:∀ w,RunM r.prog M m0 ann Sk tk (fun _ s=>ob s) H.val w)
    (hdef:defOf q r.name = some (d,kwd)) (hp:r.prog.theDef r.name = some (d.params,d.body,d.scope)) (hk:kwWritten? d.params.kwonlyargs d.params.kw_defaults = some kwd)
    (hwr:(!r.writes || r.records.isEmpty) = true) (k1:r.wellSaid = true) (ok:(chainsOk q && opensWell r.prog && (frees r.toRowW && r.within.isEmpty)) = true) (hb:r.prog.bare) (hw:r.toRowW.promised)
    (call:WalkO q loose (XL q []) H.says r.toRowW d kwd fun f vs=>PySem.call f vs):r.Holds:=by
  have left:LeftO r.prog q loose (fun s=>xlAt q [] s && recOk r.toRowW.records s) H.obs H.val (K + M + 600) true :=
    left_mid (M:=M) (K:=K) (Sk:=Sk) (tk:=tk) e (Nat.ble_eq_true_of_le (by omega)) f (Nat.ble_eq_true_of_le (by omega)) hm pre fun w os=>by
      have z:=((run1 w).pair ((run2 w).pair (run3 w))) os
      have eo:ob = fun s=>H.obs s.abs:=funext ho
      rw [eo,← stepQ_eq,← denQ_eq,← tabQ_eq] at z
      simp only [← seenQ_eq] at z ⊢
      exact z
  exact holds_open (r:=r) (q:=q) (loose:=loose) (XP:=XL q []) (YP:=H.says) (d:=d) (kwd:=kwd) left H.of H.keeps (fun s z=>xl_of s (Bool.and_eq_true_iff.mp z).1) XL.keeps hdef hp hk (fun s z=>recFacts_of (Bool.and_eq_true_iff.mp z).2) hwr k1 ok hb hw call
end Rp
namespace Rp
open PySem PySem.W PySem.Calls PyProof.Rows HandSHeadRun He
def obsL (as:List Addr) (fa:List Fa) (fn:List DefD) (ts:List Tab) (ex:PySem.W.Frag → Bool) (g:Addr → Option Obj):AlX:=(obsT fa fn ts (frT g as),ex (frT g as))
theorem saysL_of {as:List Addr} {fa:List Fa} {fn:List DefD} {ts:List Tab} {ex:PySem.W.Frag → Bool} {w:World} {h:Heap} (e:obsL as fa fn ts ex h.get? = valX fn ts w):SaysX fa fn ts [] ex w h (frT h.get? as):=by
  have e1:obsT fa fn ts (frT h.get? as) = valT fn ts w:=congrArg (fun z:AlX=>z.1) e
  have e2:ex (frT h.get? as) = true:=congrArg (fun z:AlX=>z.2) e
  exact ⟨e1,e2,by simp,by simp,by simp⟩
def hookL (as:List Addr) (fa:List Fa) (fn:List DefD) (ts:List Tab) (ex:PySem.W.Frag → Bool):PySem.W.Hook where
  α:=AlX
  obs:=fun s=>obsL as fa fn ts ex s.heap.get?
  val:=fun w=>valX fn ts w
  says:=fun w h=>∃ K:PySem.W.Frag,K.In h ∧ SaysX fa fn ts [] ex w h K
  of:=fun _ _ e=>⟨_,frT_in,saysL_of e⟩
  keeps:=fun _ _ _ ⟨K,hK,c⟩ k=>⟨K,PySem.W.Frag.In.keeps hK k,⟨c.t,c.more,c.hd,c.out,fun p hp=>k _ _ (c.empty p hp)⟩⟩
theorem obsL_eq {as:List Addr} {fa:List Fa} {fn:List DefD} {ts:List Tab} {ex:PySem.W.Frag → Bool} {g:Addr → Option Obj} {s:Shared} (h:∀ a,g a = s.heap.get? a):obsL as fa fn ts ex g = (hookL as fa fn ts ex).obs s:=by
  have e:g = s.heap.get?:=funext h
  rw [e] <;> rfl
section
variable {p:Program} {M m0:Nat} {ann:Option Value} {Sk:World → OsState → SharedT} {tk:World → OsState → Thread} {w:World}
theorem hook_parts {as:List Addr} {fa:List Fa} {fn:List DefD} {ts:List Tab} {ex:PySem.W.Frag → Bool}
    (a:RunM p M m0 ann Sk tk (fun _ s=>fa.all fun f=>f.ok (frT (HandSHeadRun.getT s) as)) (fun _=>true) w)
    (b:RunM p M m0 ann Sk tk (fun _ s=>(fn.all fun d=>d.ok (frT (HandSHeadRun.getT s) as),fn.map fun d=>fnW (frT (HandSHeadRun.getT s) as) d.at_)) (fun _=>(true,fn.map DefD.val)) w)
    (c:RunM p M m0 ann Sk tk (fun _ s=>(ts.map fun t=>dicW (frT (HandSHeadRun.getT s) as) (t.1 (frT (HandSHeadRun.getT s) as)),ex (frT (HandSHeadRun.getT s) as))) (fun w=>(ts.map fun t=>some (keysIn w.params t.2),true)) w) :
    RunM p M m0 ann Sk tk (fun _ s=>obsL as fa fn ts ex (HandSHeadRun.getT s)) (hookL as fa fn ts ex).val w:=fun os=>by
  have z:=(a.pair (b.pair c)) os
  cases e:HandSHeadRun.goF (HandSHeadRun.stepQ (HandSHeadRun.denQ HandSHeadRun.tabQ) p w) m0 ann M (Sk w os) (tk w os) with
  | none=>rw [e] at z; cases z
  | some s =>
    rw [e] at z
    simp only [Option.map_some,Option.some.injEq,Prod.mk.injEq] at z ⊢
    obtain ⟨z1,⟨z2,z3⟩,z4,z5⟩:=z
    refine congrArg some (?_:obsL as fa fn ts ex (getT s) = valX fn ts w)
    show (((_,_),_),_) = (((true,_),_),true)
    rw [z3,z4,z5,z1,z2]
    rfl
end
end Rp
end
section
namespace Rp
open PySem PySem.Spec PyProof.Rows L2
section
variable {X:Cx} {CX:CXT} {k n:Nat} {f C:Addr} {fd:FuncData} {ps ks:List Str} {sp:Sp} {E:XK} {m:Str} {apos pos:Pos} {e o:Expr} {es:List Expr} {kws:List Keyword} {ta:TE} {t tk:TA}
end
def aMethK (c n k:Nat) (F:AF) (f:AE) (g gk:AA):AE:=fun s h=>(f s h).bind fun r=>match look r.2 r.1 with
  | some (.ins c',_)=>if c' = c then (g s r.2).bind fun q=>(gk s q.2).bind fun z=>if q.1.length = n ∧ z.1.length = k then F ((r.1 :: q.1) ++ z.1) z.2 else none else none
  | _=>none
section
variable {X:Cx} {cl:Nat → Str × List Str} {e o:Expr} {es:List Expr} {kws:List Keyword} {f:AE} {g gk:AA} {nm:Option Str} {kpos pos apos:Pos} {m:Str} {k n N:Nat} {ks:List Str} {F:AF}
end
end Rp
namespace Rp
@[simp] theorem ev_methK {c n k:Nat} {F:AF} {f:AE} {g gk:AA} {s:LS} {h:AH}:aMethK c n k F f g gk s h = (f s h).bind fun r=>match look r.2 r.1 with
  | some (.ins c',_)=>if c' = c then (g s r.2).bind fun q=>(gk s q.2).bind fun z=>if q.1.length = n ∧ z.1.length = k then F ((r.1 :: q.1) ++ z.1) z.2 else none else none
  | _=>none:=id rfl
end Rp
end
section
namespace Rp
open PySem PySem.Spec PyProof.Rows L2 PySem.W PySem.Calls
open Builtin Builtin.ObjectAttr
structure OexG (K:PySem.W.Frag) (C:Addr) (bmB:List Value) (newId:String):Prop where
  ini:excInitIn K C bmB newId = true
  ovr:excOver K C bmB = true
  cls:∃ cd,PySem.W.clsIn K C = some cd ∧ cd.hasDict = true
  sa:PySem.W.findIn K (.ref C) "__setattr__" = some (some (.builtin "object.__setattr__"))
  exC:PySem.W.subIn K (.ref C) (.type "BaseException") = some true
  tyC:PySem.W.typeIn K (.ref C) = some (.type "type")
  kC:PySem.W.keepIn K (.ref C) = true
section
variable {prog:Program} {w:World} {A:Around} {E:Value → Shared → Prop} {R:Result → Shared → Prop} {hp:Heap} {g:Array GenState} {d:Drawn} {t:Nat} {os:OsState} {B newId:String} {bmB:List Value}
theorem taker_none {K:W.Frag} {C:Addr} {name:Str} (ha:W.findIn K (.ref C) name = some none):W.takerIn K C name = some none:=by
  unfold W.takerIn
  rw [ha]
  rfl
theorem osaG_new (SF:StoreFacts B bmB "object.__setattr__" "object") {K:W.Frag} {name:Str} {tk:Tok} {v:Value} {x C:Addr} {fv:Array Value} {cd:ClassData}
    (X:K.In hp) (hx:hp.get? x = some { cls:=.ref C,data:=.fields fv }) (hcd:W.clsIn K C = some cd) (hh:cd.hasDict = true) (ho:excOver K C bmB = true) (ha:W.findIn K (.ref C) name = some none)
    (hq:∀ h' tk' dx,(∀ b o,b ≠ x → hp.get? b = some o → h'.get? b = some o) → hp.objs.size ≤ dx → dx ≠ x → h'.get? x = some { cls:=.ref C,dict:=some dx,data:=.fields fv } →
      h'.Ns1 dx (fun y=>if y = name then some v else none) → R (.ok (.ret .none)) ⟨h',g,d,tk',os⟩) :
    codeAny (model prog w) A (.call (.builtin "object.__setattr__") ⟨[.ref x,.str name tk,v],[]⟩) R ⟨hp,g,d,t,os⟩:=by
  have I:W.InstAt hp x { cls:=.ref C,data:=.fields fv } C none:=⟨hx,rfl,rfl,trivial⟩
  have hxs:x ≠ hp.objs.size:=Nat.ne_of_lt (Heap.lt_size hx)
  have hcls:W.Looks (model prog w) hp (classData C) cd:=W.looks_clsIn X hcd
  refine osa_openX SF X I ho (taker_none ha) fun b=>?_
  obtain ⟨nm,bs,mro,ns,qn,hd,sn,sb,ab,col,del⟩:=cd
  dsimp only at hh
  subst hh
  unfold storeInOwnDict ownDictForStores
  repeat (first | with_reducible refine PySem.HandSPX.store_in_new ?_ ?_ | with_reducible refine wpAny_loadPart_at hx ?_ | with_reducible refine hcls.at ?_ | wp_step)
  · exact ⟨_,#[],_,(Heap.get?_update_ne _ _ _ _ hxs.symm).trans (Heap.get?_push_at rfl rfl),rfl,fun e he=>absurd he (by simp),fun _=>rfl⟩
  · intro h' tk' hn' hs
    have hx₁:(hp.push { cls:=.type "dict",data:=.dict #[] }).get? x = some { cls:=.ref C,data:=.fields fv }:=Heap.get?_push_of_some _ hx
    refine hq h' tk' hp.objs.size (fun b o hb ho=>?_) (Nat.le_refl _) hxs.symm ?_ hn'
    · exact (hs.2 b (Nat.ne_of_lt (Heap.lt_size ho))).trans ((Heap.get?_update_ne _ _ _ _ hb).trans (Heap.get?_push_of_some _ ho))
    · exact (hs.2 x hxs).trans (Heap.get?_update_self _ hx₁ rfl)
end
section
variable {X:Cx} {pins:List (Addr × Obj)} {σ:L2.St} {H:Hp} {s:Shared} {a C dx:Addr} {f:Str} {y:V} {u:Value} {E:Value → Shared → Prop} {A:Around} {B newId initId:String} {bmB:List Value}
theorem ostG_new {Q:Unit → Shared → Prop} (SF:StoreFacts B bmB "object.__setattr__" "object") (T:OexG X.K C bmB newId) (I:Inv X pins σ H s) (e:H a = some (exo a C none)) (hno:PySem.W.findIn X.K (.ref C) f = some none) (ry:RelV y u)
    (h:∀ dx s',H dx = none → dx ≠ a → Inv X pins σ (upd (upd H dx (exd dx [(f,y)])) a (exo a C (some dx))) s' → Q () s'):wpAny (model X.prog X.w) A (setAttr (.ref a) f u) Q E s:=by
  obtain ⟨cd,hcl,hh⟩:=T.cls
  obtain ⟨t1,ho⟩:=exo_at I.hok e
  obtain ⟨hp,g,d,t,os⟩:=s
  refine PySem.W.set_plain I.kIn (ox:={ cls:=.ref C,dict:=none,data:=.fields #[.ref t1,.none,.none,.none,.bool false,.none] }) (od:=none) ⟨ho,rfl,rfl,trivial⟩ T.sa ?_
  refine osaG_new SF I.kIn ho hcl hh T.ovr hno (fun h' tk' dx k dn dne hx hn=>?_)
  have hnd:H dx = none:=I.hok.fresh dn
  have nd:∀ {b:Addr} {o:Obj},hp.get? b = some o → b ≠ dx:=fun {b o} q=>Nat.ne_of_lt (Nat.lt_of_lt_of_le (Heap.lt_size q) dn)
  have na:∀ {b:Addr},H b = none → b ≠ a:=fun {b} n z=>by
    rw [z,e] at n
    cases n
  have U:Un X.fs [] H (upd (upd H dx (exd dx [(f,y)])) a (exo a C (some dx))) hp h':=by
    refine ⟨fun b o q n _ _=>k b o (na n) q,fun b o q n _ _=>⟨o.slots,k b o (na n) q⟩,fun b o q n _=>?_,fun b o q _=>?_,fun b xs q=>?_,fun b o v q=>?_,fun b ps q=>⟨#[],?_⟩⟩
    · rw [upd_ne (na n),upd_ne (nd q)]; exact n
    · by_cases hb:b = a
      · exact ⟨_,by rw [hb]; exact hx⟩
      · exact ⟨o,k b o hb q⟩
    · rw [upd_ne (at_ne e q exo_tup),upd_ne (ne_of_none q hnd)]; exact q
    · rw [upd_ne (at_ne e q exo_frz),upd_ne (ne_of_none q hnd)]; exact q
    · rw [upd_ne (at_ne e q exo_tbl),upd_ne (ne_of_none q hnd),q]; simp
  refine h dx _ hnd dne (I.un (t':=tk') U fun b o q=>?_)
  by_cases hb:b = a
  · subst hb
    rw [upd_same] at q
    cases q
    exact exo_ok hx
  rw [upd_ne hb] at q
  by_cases hd:b = dx
  · subst hd
    rw [upd_same] at q
    cases q
    exact exd_ok hn (relO_put (fs:=[]) ry fun g=>True.intro)
  rw [upd_ne hd] at q
  refine (I.hok b o q).stay (fun c v hc z=>k c v ?_ z) (fun c hc=>?_) (fun c xs hc=>?_)
  · rcases hc with hc | hc
    · rw [hc]; exact hb
    · exact at_ne e hc exo_own
  · rw [upd_ne (at_ne e hc exo_own),upd_ne (ne_of_none hc hnd)]; exact hc
  · rw [upd_ne (at_ne e hc exo_tup),upd_ne (ne_of_none hc hnd)]; exact hc
theorem oinitG {us:List Value} {Q:Value → Shared → Prop} (F:ExcBaseFacts B newId initId bmB) (T:OexG X.K C bmB newId) (I:Inv X pins σ H s) (e:H a = some (exo a C none)) (hl:us.length ≤ sizeLine) (h:∀ s',Inv X pins σ H s' → Q .none s') :
    wpAny (model X.prog X.w) A (call (.builtin initId) (.ref a :: us)) Q E s:=by
  obtain ⟨nm,N,q,bs,bm,hdct,sn,sub,ab,col,dd,k0,k1,k2,k3,k5,hC,hT⟩:=excInit_of I.kIn T.ini
  obtain ⟨t1,ho⟩:=exo_at I.hok e
  obtain ⟨hp,g,d,t,os⟩:=s
  refine wpAny_call (PySem.HandSPX.init_base F hT hC ho hl fun h' t2 k hx=>?_)
  have J:=I.write (t':=t) (x:=a) (e:=a) (o:=exo a C none) (by rw [e]; exact True.intro) (.inl rfl) k ⟨_,hx⟩ (exo_ok hx)
  have eu:upd H a (exo a C none) = H:=by
    funext b
    by_cases hb:b = a
    · rw [hb,upd_same,e]
    · rw [upd_ne hb]
  rw [eu] at J
  exact h _ J
end
section
variable {X:Cx} {o e:Expr} {es:List Expr} {to te:TE} {ta:TA} {f:Str} {p p' p1 p2 pos:Pos}
end
section
variable {X:Cx} {e:Expr} {es:List Expr} {ta:TA} {p pos:Pos}
theorem mk_endN {pins:List (Addr × Obj)} {σ:L2.St} {H1 H2:Hp} {Q:XK} {hp hp2 h2:Heap} {g1 g2:Array GenState} {d1 d2:Drawn} {t1 t2:Nat} {os1 os2:OsState} {a C d:Addr} {fs:List (Str × V)} (T:Raises X (.ref C)) (I1:Inv X pins σ H1 ⟨hp,g1,d1,t1,os1⟩)
    (ha:hp.objs.size ≤ a) (k:∀ b o,hp.get? b = some o → hp2.get? b = some o) (un:Un (frs X.stack) [] (upd H1 a (exo a C none)) H2 hp2 h2) (hok:HOk X.prog X.w H2 h2) (ho:os2 = os1) (hb:AllBare g2)
    (ea:H2 a = some (exo a C (some d))) (ed:H2 d = some (exd d fs)) (hd1:H1 d = none) (q:Q (.ref C) (some d) (upd (del H2 a) d (.xd fs))):L2N.MkP X pins σ Q (.ref a) ⟨h2,g2,d2,t2,os2⟩:=by
  obtain ⟨t0,G,J,kG,ge,hoe,na⟩:=mk_end0 (d2:=d2) (t2:=t2) I1 ha k un hok ho hb ea ed hd1
  exact ⟨a,_,_,⟨G,g2,d2,t2,os2⟩,_,.ref C,some d,rfl,J,kG,ge,hoe,⟨rfl,rfl,fun vs e=>by cases e; rfl⟩,rfl,rfl,na,rfl,hb,T,q⟩
theorem pmk_oexG {CX:CXT} {x:Str} {C fI:Addr} {k:Nat} {fd:FuncData} {ps:List Str} {sp:Sp} {ds:List Value} {dvs:List V} {B newId initId:String} {bmB:List Value} (FB:ExcBaseFacts B newId initId bmB) (T:OexG X.K C bmB newId) (iC:PySem.W.findIn X.K (.ref C) "__init__" = some (some (.ref fI))) (tI:PySem.W.typeIn X.K (.ref fI) = some (.type "function"))
    (F1:FnOk X.prog X.w X.K X.mg X.base CX k fI fd ps sp) (hr:Room (k + 1) X.A) (hb:Binds X.K fd ps ds) (hd:Vals dvs ds) (hx:Passes CX X (fun _ _ _=>False)) (hg:Gl X x) (hm:X.mg x = some (.ref C)) (ha:PA X (e :: es) ta)
    (hdb:(x == ("__debug__" : Str)) = false:=by decide) (he:starEach (e :: es) X.env = (false,eval e X.env) :: starEach es X.env:=by rfl) (hpl:(backTo pos (starEach es X.env)).any (·.1) = false:=by rfl) :
    L2N.PMk X (.Call (.Name x p) (e :: es) [] pos) (tMkO C sp dvs ta):=by
  intro pins s σ H Q I h
  refine wpAny_Call_Name_kw (ld_glob I hg hm ?_ hdb)
  refine PySem.W.callWith_K (h₀:=X.base) I.ok.mod.kin T.kC (thn (ha.run pos pins s σ H _ I h) fun us s1 ⟨vs,H1,I1,r1,hz,q1⟩=>⟨I1.kIn,?_⟩) he hpl
  show wpAny _ _ (call (.ref C) us) _ _ _
  obtain ⟨nm,N,q,bs,bm,hdct,sn,sub,ab,col,dd,k0,k1,k2,k3,k5,hC,hT⟩:=excInit_of I1.kIn T.ini
  obtain ⟨hp,g,dr,tk,os⟩:=s1
  have hsz:hp.objs.size ≤ hp.objs.size + 1:=Nat.le_succ _
  have hn:H1 (hp.objs.size + 1) = none:=I1.hok.fresh hsz
  have hq:=q1 (hp.objs.size + 1) hn
  have kk:∀ b o,hp.get? b = some o → ((hp.push (PySem.W.kdv_tup us)).push (PySem.HandSPX.excO C hp.objs.size)).get? b = some o:=fun b o e=>Heap.get?_push_of_some _ (Heap.get?_push_of_some _ e)
  have hget:((hp.push (PySem.W.kdv_tup us)).push (PySem.HandSPX.excO C hp.objs.size)).get? (hp.objs.size + 1) = some (PySem.HandSPX.excO C hp.objs.size):=by heap_get
  have I2:Inv X pins σ (upd H1 (hp.objs.size + 1) (exo (hp.objs.size + 1) C none)) ⟨(hp.push (PySem.W.kdv_tup us)).push (PySem.HandSPX.excO C hp.objs.size),g,dr,tk,os⟩ :=
    I1.laid (t':=tk) (a:=hp.objs.size + 1) (o:=exo (hp.objs.size + 1) C none) (h':=(hp.push (PySem.W.kdv_tup us)).push (PySem.HandSPX.excO C hp.objs.size)) kk hsz (exo_ok hget)
  have r2:Vals (V.ref (hp.objs.size + 1) :: (vs ++ dvs)) (Value.ref (hp.objs.size + 1) :: (us ++ ds)):=.cons rfl (r1.append hd)
  have hl:(Value.ref (hp.objs.size + 1) :: us ++ ds).length = ps.length:=by
    have e:=r2.length
    rw [F1.len _ _ _ _ hq] at e
    exact e.symm
  have hus:us.length ≤ sizeLine:=by
    rw [← Paired.length r1,sizeLine_eq]
    omega
  refine wpAny_call (PySem.HandSPX.call_own FB hT hC (PySem.W.looks_findIn I1.kIn iC) (fun self=>PySem.W.bind_fn I1.kIn self tI) hus
    (codeAny_mono (F1.run _ X.stack _ _ ⟨Value.ref (hp.objs.size + 1) :: us,[]⟩ (Value.ref (hp.objs.size + 1) :: (us ++ ds)) _ _ (fun _ _ _=>False) (hr.make C us []) (I2.env0.make C us []) (hb _ (Value.ref (hp.objs.size + 1) :: us) I2.kIn hl) r2 hq) fun r s' hq' => ?_))
  cases r with
  | error er=>exact hx pins σ _ _ er s' I2 hq'
  | ok fl =>
    cases fl with
    | ret u =>
      obtain ⟨v,H2,os2,bare2,un2,hok2,rv,ev,d,fs,ea,ed,hd1,q2⟩:=hq'
      subst ev
      obtain ⟨h2,g2,d2,t2,os'⟩:=s'
      exact ⟨rv,mk_endN (raises_own T.exC T.tyC) I1 hsz kk un2 hok2 os2 bare2 ea ed hd1 q2⟩
    | next=>exact False.elim hq'
    | brk=>exact False.elim hq'
    | cont=>exact False.elim hq'
end
end Rp
end
section
namespace Rp
open PySem PySem.Spec PyProof.Rows L2
inductive Out where
  | ok (v:AV) | ex (c:Nat) (v:AV)
inductive ARX where
  | ar (r:AR) | ex (c:Nat) (v:AV) (s:LS)
abbrev AFX:=List AV → AH → Option (Out × AH)
abbrev AEX:=LS → AH → Option (Out × AH)
abbrev ASX:=LS → AH → Option (ARX × AH)
abbrev ATX:=LS → AH → Option ((Bool ⊕ (Nat × AV)) × AH)
abbrev XT:=Nat → Addr × Option Str
def RepX (ct:Ct) (xt:XT) (w:Wd) (H:Hp) (c:Nat) (v:AV) (cls:Value) (d:Option Addr):Prop:=cls = .ref (xt c).1 ∧ match (xt c).2 with
  | none=>d = none
  | some f=>∃ dd u,d = some dd ∧ w.R dd = some (.xd [(f,u)]) ∧ H dd = some (.xd [(f,u)]) ∧ RepV ct w v u
def tAX (ct:Ct) (xt:XT) (W:WX) (f:AEX):TE:=fun σ H Q=>∃ w s h o h',RepS ct w s σ ∧ SR ct w H h ∧ f s h = some (o,h') ∧ match o with
  | .ok v=>∀ w' H' u,Tr w H h w' H' h' → SR ct w' H' h' → RepV ct w' v u → Q u H'
  | .ex c v=>∀ w' H' cls d,Tr w H h w' H' h' → SR ct w' H' h' → RepX ct xt w' H' c v cls d → W cls d σ H'
def tTX (ct:Ct) (xt:XT) (W:WX) (f:ATX):TT:=fun σ H Q=>∃ w s h o h',RepS ct w s σ ∧ SR ct w H h ∧ f s h = some (o,h') ∧ match o with
  | .inl b=>∀ w' H',Tr w H h w' H' h' → SR ct w' H' h' → Q b H'
  | .inr (c,v)=>∀ w' H' cls d,Tr w H h w' H' h' → SR ct w' H' h' → RepX ct xt w' H' c v cls d → W cls d σ H'
def tX (ct:Ct) (xt:XT) (W:WX) (f:ASX):TS:=fun D σ H=>∃ w s h r h',RepS ct w s σ ∧ SR ct w H h ∧ f s h = some (r,h') ∧ match r with
  | .ar r=>∀ w' H',Tr w H h w' H' h' → SR ct w' H' h' → EndsA ct w' D H' r
  | .ex c v s' => ∀ w' H' σ' cls d,Tr w H h w' H' h' → SR ct w' H' h' → RepS ct w' s' σ' → RepX ct xt w' H' c v cls d → W cls d σ' H'
def spX (ct:Ct) (xt:XT) (n:Nat) (F:AFX):Sp:=fun vs H Q E=>∃ w h as o h',as.length = n ∧ RepL ct w as vs ∧ SR ct w H h ∧ F as h = some (o,h') ∧ match o with
  | .ok v=>∀ w' H' u,Tr w H h w' H' h' → SR ct w' H' h' → RepV ct w' v u → Q u H'
  | .ex c v=>∀ w' H' cls d,Tr w H h w' H' h' → SR ct w' H' h' → RepX ct xt w' H' c v cls d → E cls d H'
def lfE (f:AE):AEX:=fun s h=>(f s h).bind fun r=>some (.ok r.1,r.2)
def lfS (f:AS):ASX:=fun s h=>(f s h).bind fun r=>some (.ar r.1,r.2)
def lfT (f:AT):ATX:=fun s h=>(f s h).bind fun r=>some (.inl r.1,r.2)
def xSeq (f g:ASX):ASX:=fun s h=>(f s h).bind fun r=>match r.1 with
  | .ar (.nx s')=>g s' r.2
  | x=>some (x,r.2)
def xIf (t:ATX) (f g:ASX):ASX:=fun s h=>(t s h).bind fun r=>match r.1 with
  | .inl b=>if b = true then f s r.2 else g s r.2
  | .inr (c,v)=>some (.ex c v s,r.2)
def xExp (f:AEX):ASX:=fun s h=>(f s h).bind fun r=>match r.1 with
  | .ok _=>some (.ar (.nx s),r.2)
  | .ex c v=>some (.ex c v s,r.2)
def xRet (f:AEX):ASX:=fun s h=>(f s h).bind fun r=>match r.1 with
  | .ok v=>some (.ar (.rt v),r.2)
  | .ex c v=>some (.ex c v s,r.2)
def xSet (f:AEX) (i:Nat):ASX:=fun s h=>(f s h).bind fun r=>match r.1 with
  | .ok v=>some (.ar (.nx (s.set i (some v))),r.2)
  | .ex c v=>some (.ex c v s,r.2)
section
variable {X:Cx} {cl:Nat → Str × List Str} {xt:XT} {W:WX} {pos:Pos} {st:Stmt} {rest a b:List Stmt} {f g:ASX} {e:Expr} {fe:AEX} {t:ATX}
theorem lT {f:AT} (h:PT X e (tT (ctX X cl) f)):PT X e (tTX (ctX X cl) xt W (lfT f)):=h.wk fun σ H Q q=>by
  obtain ⟨w,s,h,o,h',rs,sr,e,k⟩:=q
  obtain ⟨⟨v,h1⟩,e1,e⟩:=bind_some e
  cases e
  exact ⟨w,s,h,v,h1,rs,sr,e1,k⟩
theorem lS {f:AS} (h:PS X st (tS (ctX X cl) f)):PS X st (tX (ctX X cl) xt W (lfS f)):=h.wk fun D σ H q=>by
  obtain ⟨w,s,h,o,h',rs,sr,e,k⟩:=q
  obtain ⟨⟨v,h1⟩,e1,e⟩:=bind_some e
  cases e
  exact ⟨w,s,h,v,h1,rs,sr,e1,k⟩
theorem xs_nil:PSs X [] (tX (ctX X cl) xt W (lfS aPass)):=pss_nil.wk fun D σ H q=>by
  obtain ⟨w,s,h,r,h',rs,sr,e,k⟩:=q
  cases e
  exact k w H (.refl _ _ _) sr σ rs
theorem xs_one (h1:PS X st (tX (ctX X cl) xt W f)):PSs X [st] (tX (ctX X cl) xt W f):=pss_one h1
theorem xs_cons (h1:PS X st (tX (ctX X cl) xt W f)) (h2:PSs X rest (tX (ctX X cl) xt W g)):PSs X (st :: rest) (tX (ctX X cl) xt W (xSeq f g)):=by
  refine (pss_cons h1 h2).wk fun D σ H q=>?_
  obtain ⟨w,s,h,r,h',rs,sr,e,k⟩:=q
  obtain ⟨⟨x,h1⟩,e1,e⟩:=bind_some e
  refine ⟨w,s,h,x,h1,rs,sr,e1,?_⟩
  cases x with
  | ex c v s' =>
    cases e
    exact k
  | ar x =>
    intro w1 H1 t1 s1
    cases x with
    | nx s' =>
      intro σ' rs'
      refine ⟨w1,s',h1,r,h',rs',s1,e,?_⟩
      cases r with
      | ar r=>exact fun w2 H2 t2 s2=>k w2 H2 (t1.trans t2) s2
      | ex c v s'' => exact fun w2 H2 σ2 cls d t2 s2=>k w2 H2 σ2 cls d (t1.trans t2) s2
    | _=>cases e; exact k w1 H1 t1 s1
theorem xs_if {c0:Expr} (hc:PT X c0 (tTX (ctX X cl) xt W t)) (ha:PSs X a (tX (ctX X cl) xt W f)) (hb:PSs X b (tX (ctX X cl) xt W g)):PS X (.If c0 a b pos) (tX (ctX X cl) xt W (xIf t f g)):=by
  refine (ps_if hc ha hb).wk fun D σ H q=>?_
  obtain ⟨w,s,h,r,h',rs,sr,e,k⟩:=q
  obtain ⟨⟨d,h1⟩,e1,e⟩:=bind_some e
  refine ⟨w,s,h,d,h1,rs,sr,e1,?_⟩
  cases d with
  | inr cv =>
    obtain ⟨c,v⟩:=cv
    cases e
    exact fun w1 H1 cls d t1 s1 rx=>k w1 H1 σ cls d t1 s1 (rs.le t1.le) rx
  | inl d =>
    intro w1 H1 t1 s1
    cases d with
    | true =>
      refine ⟨w1,s,h1,r,h',rs.le t1.le,s1,e,?_⟩
      cases r with
      | ar r=>exact fun w2 H2 t2 s2=>k w2 H2 (t1.trans t2) s2
      | ex c v s'' => exact fun w2 H2 σ2 cls d t2 s2=>k w2 H2 σ2 cls d (t1.trans t2) s2
    | false =>
      refine ⟨w1,s,h1,r,h',rs.le t1.le,s1,e,?_⟩
      cases r with
      | ar r=>exact fun w2 H2 t2 s2=>k w2 H2 (t1.trans t2) s2
      | ex c v s'' => exact fun w2 H2 σ2 cls d t2 s2=>k w2 H2 σ2 cls d (t1.trans t2) s2
end
section
variable {X:Cx} {k:Nat} {f C:Addr} {fd:FuncData} {ps:List Str} {sp:Sp} {dvs:List V} {ds:List Value} {W:WX} {x m:Str} {p pos apos:Pos} {e o:Expr} {es:List Expr} {ta:TE} {t:TA}
end
def lenX (n:Nat) (F:AFX):AFX:=fun as h=>if as.length = n then F as h else none
theorem lenX_len {n:Nat} {F:AFX} {as:List AV} {h:AH} {r:Out × AH} (e:lenX n F as h = some r):as.length = n ∧ F as h = some r:=by
  unfold lenX at e
  by_cases q:as.length = n
  · rw [if_pos q] at e; exact ⟨q,e⟩
  · rw [if_neg q] at e; cases e
section
variable {X:Cx} {cl:Nat → Str × List Str} {xt:XT} {W:WX} {e o:Expr} {es:List Expr} {f:AE} {g:AA} {pos apos:Pos} {m:Str} {k n:Nat} {F:AFX}
end
end Rp
end
section
namespace Rp
open PySem PySem.Spec PyProof.Rows L2
def fnX (m:Nat) (f:ASX):AFX:=fun as h=>(f (startA m as) h).bind fun r=>match r.1 with
  | .ar (.nx _)=>some (.ok .non,r.2)
  | .ar (.rt v)=>some (.ok v,r.2)
  | .ex c v _=>some (.ex c v,r.2)
  | _=>none
section
variable {P:Program} {w:World} {K:PySem.W.Frag} {mg:Str → Option Value} {base:Heap} {cl:Nat → Str × List Str} {xt:XT} {x qual:Str} {params:Arguments} {body:List Stmt} {scope:Scope} {dvs:List V} {kws:List (Str × V)} {f:Addr} {fd:FuncData} {ps N:List Str} {k:Nat}
theorem takesC {cd:Value} {A:Around} {outer:List Env} {s:Shared} {H:Hp} {E:XK}:L2N.Takes (cxOf (L2N.CX P w) P w K mg base N qual scope f cd A outer s H E) (fun cls d _ H=>E cls d H):=L2N.takes_of rfl rfl rfl rfl
theorem fnX_end {ct:Ct} {m n:Nat} {fA:ASX} {vs:List V} {H:Hp} {Q:VK} {E:XK} (hN:N.length = m) (q:spX ct xt n (lenX n (fnX m fA)) vs H Q E) :
    tX ct xt (fun cls d _ H=>E cls d H) fA { nx:=fun _ H' => Q .non H',rt:=Q } (L2.start N vs) H:=by
  obtain ⟨w,h,as,o,h',hl,l,sr,e,k⟩:=q
  subst hN
  obtain ⟨⟨r,h1⟩,e1,e⟩:=bind_some (lenX_len e).2
  refine ⟨w,_,h,r,h1,reps_start l N,sr,e1,?_⟩
  cases r with
  | ex c v s=>cases e; exact fun w1 H1 _ cls d t1 s1 _ rx=>k w1 H1 cls d t1 s1 rx
  | ar r =>
    intro w1 H1 t1 s1
    cases r with
    | nx s=>cases e; exact fun _ _=>k w1 H1 .non t1 s1 rfl
    | rt v=>cases e; exact fun u ru=>k w1 H1 u t1 s1 ru
    | bk s=>cases e
    | ct s=>cases e
theorem fn_okX (F:FunD K x qual params body scope dvs kws f fd) (S:FnScope N ps scope) (m n:Nat) (hm:N.length = m) (hn:ps.length = n) (fA:ASX)
    (hb:∀ (cdv:Value) (A:Around) (outer:List Env) (s:Shared) (H:Hp) (E:XK),Room k (cxOf (L2N.CX P w) P w K mg base N qual scope f cdv A outer s H E).A → (cxOf (L2N.CX P w) P w K mg base N qual scope f cdv A outer s H E).A.units + 64 < cLine →
      PSs (cxOf (L2N.CX P w) P w K mg base N qual scope f cdv A outer s H E) body (tX ⟨K,w,mg,cl⟩ xt (fun cls d _ H=>E cls d H) fA)):FnOk P w K mg base (L2N.CX P w) (k + 1) f fd ps (spX ⟨K,w,mg,cl⟩ xt n (lenX n (fnX m fA))):=by
  refine F.ok S (fun vs H Q E h=>?_) (fun cdv A outer s H vs Q E hr h=>⟨_,hb cdv A outer s H E hr hr.units,fnX_end hm h⟩)
  obtain ⟨w',h',as,v,h1,hl,l,_⟩:=h
  rw [← l.len,hl,hn]
end
def okArg:AV → Bool
  | .str x=>decide (x.length ≤ 1000000)
  | .int i=>decide (i.natAbs.log2 < 1920) && decide ((toString i:Str).length ≤ 1000000)
  | _=>false
def okV (v:V):Prop:=(∃ y:Str,v = .str y ∧ y.length ≤ 1000000) ∨ ∃ i:Int,v = .int i ∧ i.natAbs.log2 < 1920 ∧ (toString i:Str).length ≤ 1000000
theorem okArg_V {ct:Ct} {w:Wd} {av:AV} {v:V} (e:okArg av = true) (r:RepV ct w av v):okV v:=by
  cases av with
  | str x=>exact .inl ⟨x,r,of_decide_eq_true e⟩
  | int i =>
    have e':(decide (i.natAbs.log2 < 1920) && decide ((toString i:Str).length ≤ 1000000)) = true:=e
    rw [Bool.and_eq_true] at e'
    exact .inr ⟨i,r,of_decide_eq_true e'.1,of_decide_eq_true e'.2⟩
  | _=>cases e
def xRaise (c:Nat) (f:AE):ASX:=fun s h=>(f s h).bind fun r=>if okArg r.1 = true then some (.ex c r.1 s,r.2) else none
section
variable {X:Cx} {cl:Nat → Str × List Str} {xt:XT} {W:WX} {x:Str} {p pos pos':Pos} {e:Expr} {fe:AE} {k c:Nat} {C fI:Addr} {fd:FuncData} {ps:List Str}
end
section
variable {P:Program} {w:World} {K:PySem.W.Frag} {mg:Str → Option Value} {base:Heap} {x qual:Str} {params:Arguments} {body:List Stmt} {scope:Scope} {dvs:List V} {kws:List (Str × V)} {f:Addr} {fd:FuncData} {k:Nat}
end
section
variable {X:Cx} {m:Str} {j:Nat} {p1 p2 p3 p4 p5 p6 p7 p8 p9 q1 q2 q3 q4:Pos}
end
end Rp
end
section
namespace Rp
open PySem PySem.Spec PyProof.Rows L2
def dropN (i:Nat) (D:Ends):Ends:={ nx:=fun σ' H' => D.nx (σ'.set i none) H',rt:=D.rt,bk:=fun σ' H' => D.bk (σ'.set i none) H',ct:=fun σ' H' => D.ct (σ'.set i none) H' }
abbrev Clause:=Value × Option Nat × (Addr → Value → Option Addr → TS)
def clauseW (o:Option Nat) (ts:Addr → Value → Option Addr → TS) (D:Ends) (a:Addr) (cls:Value) (d:Option Addr) (σ:L2.St) (H:Hp):Prop:=match o with
  | none=>ts a cls d D σ H
  | some i=>ts a cls d (dropN i D) (σ.set i (some (.ref a))) H
def wishN (K:PySem.W.Frag) (Wout:WX) (D:Ends):List Clause → WX
  | []=>Wout
  | (c,o,ts) :: r=>fun cls d σ H=>∃ b,PySem.W.exmOne K cls c = some b ∧ (b = true → ∀ a,H a = none → clauseW o ts D a cls d σ H) ∧ (b = false → wishN K Wout D r cls d σ H)
inductive HdsN (X:Cx):List ExceptHandler → List Clause → Prop
  | nil:HdsN X [] []
  | plain {x:Str} {c:Value} {ts:Addr → Value → Option Addr → TS} {b₀:Stmt} {suite:List Stmt} {np pos':Pos} {hds:List ExceptHandler} {l:List Clause} (hc:Names X x c)
      (hsu:∀ (a:Addr) (oe:Obj) (cls:Value) (d:Option Addr) (pn:List (Addr × Obj)),L2N.Zn cls d oe → (∃ vs,oe.data = .fields vs) → PSs (X.suite a ((a,oe) :: pn)) (b₀ :: suite) (ts a cls d)) (r:HdsN X hds l) :
      HdsN X (.ExceptHandler (some (.Name x np)) none (b₀ :: suite) pos' :: hds) ((c,none,ts) :: l)
  | named {x n:Str} {i:Nat} {c:Value} {ts:Addr → Value → Option Addr → TS} {b₀:Stmt} {suite:List Stmt} {np pos':Pos} {hds:List ExceptHandler} {l:List Clause} (hc:Names X x c) (hi:X.N[i]? = some n) (hln:X.env.kindOf n = some .local)
      (hsu:∀ (a:Addr) (oe:Obj) (cls:Value) (d:Option Addr) (pn:List (Addr × Obj)),L2N.Zn cls d oe → (∃ vs,oe.data = .fields vs) → PSs (X.suite a ((a,oe) :: pn)) (b₀ :: suite) (ts a cls d)) (r:HdsN X hds l) :
      HdsN X (.ExceptHandler (some (.Name x np)) (some n) (b₀ :: suite) pos' :: hds) ((c,some i,ts) :: l)
section
variable {X:Cx} {body:List Stmt} {h₀:ExceptHandler} {hds:List ExceptHandler} {l:List Clause} {pos:Pos} {tb:WX → TS} {Wout:WX}
theorem ps_tryN (hs:X.stack = X.env :: X.outer) (hf:X.env.frame = some X.env.locals) (hN:X.N.Nodup) (tk:L2N.Takes X Wout)
    (hb:∀ (W:WX) (pn:List (Addr × Obj)) (xe:Value → Shared → Prop),L2N.Takes (X.tr pn xe) W → PassesOwn (model X.prog X.w) X.A X.env xe → PSs (X.tr pn xe) body (tb W))
    (hh:HdsN X (h₀ :: hds) l):PS X (.Try body (h₀ :: hds) [] [] pos) (fun D σ H=>tb (wishN X.K Wout D l) D σ H):=by
  refine ⟨fun pins s σ H D I h=>?_⟩
  have ok:=I.ok
  have hfr:X.A.frames = some (X.env :: X.outer):=by rw [ok.frames,hs]
  refine wpAny_Try_except ?_
  refine wpAny_mono ((hb (wishN X.K Wout D l) (X.pn ++ pins) (fun e s₁=>wpAny (model X.prog X.w) X.A (noteFrame e X.env) (fun _ s₂=>wpAny (model X.prog X.w) X.A (setFlight e none) (fun _ s₃ =>
    wpAny (model X.prog X.w) X.A (handleBy e X.env (h₀ :: hds)) (SP X pins D) X.xe s₃) X.xe s₂) X.xe s₁) (fun u s' xx=>?_) PassesOwn.looking).run [] s σ H D (I.toTry _) h) (fun f s1 hsp=>?_) (fun e s1 he=>he)
  · obtain ⟨a,B,sI,pins',σ',H',cls,d,rfl,J',nb,up,sky,na,os,ag,w⟩:=xx
    have J:Inv X pins σ' H' sI:=J'.ofTry ok
    have sky':Sky B (X.env :: X.outer) a (L2N.Zn cls d) X.env.locals s'.heap:=by rw [← hs]; exact sky
    show wpAny (model X.prog X.w) X.A (noteFrame (.ref a) X.env) _ _ _
    refine L2N.Sky.land L2N.Zn.steady hfr hf sky' fun h3 fl3 up3=>?_
    have J3:Inv X pins σ' H' { s' with heap:=h3 }:=J.landed nb fl3.1 (up.trans up3) os ag
    obtain ⟨oe3,vs3,he3,hz3,hd3⟩:=fl3.there
    have nfr:a ∉ frs (X.env :: X.outer):=fun hm=>by
      obtain ⟨_,o',e',hnf⟩:=fl3.2.2.1.mem hm
      rw [he3] at e'; cases e'
      exact hnf _ hd3
    have nL:a ≠ X.env.locals:=fun z=>nfr (List.mem_filterMap.mpr ⟨X.env,List.mem_cons_self,by rw [hf,z]⟩)
    have nF:a ∉ X.fs:=fun hm=>by
      obtain ⟨e,he,q⟩:=List.mem_filterMap.mp hm
      exact nfr (List.mem_filterMap.mpr ⟨e,List.mem_cons_of_mem _ he,q⟩)
    have S3:=J3.suite he3 hd3 na nL nF
    have LT:PySem.W.Looks (model X.prog X.w) h3 (typeOf (.ref a)) cls:=fun A Q E s k q=>wpAny_typeOf_ref (k _ _ he3) (by rw [hz3.1]; exact q)
    have test:∀ {x:Str} {c:Value} {np:Pos} (_:Names X x c) {Q:Value → Shared → Prop} {E:Value → Shared → Prop},Q c { s' with heap:=h3 } → wpAny (model X.prog X.w) (X.A.mark (some (.ref a))) (eval (.Name x np) X.env) Q E { s' with heap:=h3 }:=fun {x c np} hc {Q E} q=>by
      obtain ⟨hg,hdbg,hm | ⟨hm,hv,hnn⟩⟩:=hc
      · exact ld_glob (X:=X.suite a ((a,oe3) :: (X.pn ++ pins))) S3 hg hm q hdbg
      · exact ld_blt (X:=X.suite a ((a,oe3) :: (X.pn ++ pins))) S3 hg hm hv q hnn hdbg
    have go:∀ {hds':List ExceptHandler} {l':List Clause},HdsN X hds' l' → wishN X.K Wout D l' cls d σ' H' →
        wpAny (model X.prog X.w) X.A (handleBy (.ref a) X.env hds') (SP X pins D) X.xe { s' with heap:=h3 }:=by
      intro hds' l' hk
      induction hk with
      | nil =>
        intro w
        refine wpAny_handleBy_nil ?_
        obtain ⟨k1,k2,k3,oe,vs,T,oT,ts',he,hz,hd,h1,hr⟩:=id fl3
        unfold PySem.passOn
        refine wpAny_bind (wpAny_field he hd h1 ?_)
        rw [if_neg (show ¬ ((Value.ref T == Value.none) = true) from by simp)]
        have fin:wpAny (model X.prog X.w) X.A (setFlight (.ref a) X.env.frame) (fun _ s4=>wpAny (model X.prog X.w) X.A (throw (.ref a):Sem Flow) (SP X pins D) X.xe s4) X.xe { s' with heap:=h3 }:=by
          rw [hf]
          refine HandSPX.setFlight_upZ fl3 fun h4 hh4 up4=>wpAny_throw (tk _ _ ?_)
          exact ⟨a,B,sI,pins,σ',H',cls,d,rfl,J,nb,(up.trans up3).trans up4,.inr (.inr (by rw [hs]; exact hh4)),na,os,ag,w⟩
        first
          | exact wpAny_bind (wpAny_pure (wpAny_bind fin))
          | exact wpAny_bind fin
      | @plain x c ts b₀ suite np pos' hds2 l2 hc hsu r ih =>
        intro w
        obtain ⟨b,hb1,hyes,hno⟩:=w
        refine wpAny_handleBy_cons (codeAny_handlers_test ?_) (by intro q; cases q)
        have LM:=PySem.W.exm_one (M:=model X.prog X.w) (J3.kIn) LT hb1
        refine test hc (LM.here ?_)
        cases b with
        | true =>
          refine codeAny_handlers_suite ?_
          refine HandSPX.lands_againZ fl3 fun h4 fl4 up4=>?_
          have J4:Inv X pins σ' H' { s' with heap:=h4 }:=J.landed nb fl4.1 ((up.trans up3).trans up4) os ag
          obtain ⟨oe4,vs4,he4,hz4,hd4⟩:=fl4.there
          have S4:=J4.suite he4 hd4 na nL nF
          refine wpAny_mono ((hsu a oe4 cls d (X.pn ++ pins) hz4 ⟨_,hd4⟩).run [] _ _ H' _ S4 (hyes rfl a na)) (fun f s6 hsp=>?_) (fun _ _ z=>False.elim z)
          cases f with
          | ret u =>
            obtain ⟨v6,σ6,H6,S6,r6,q6⟩:=hsp
            exact ⟨_,_,_,S6.unsuite ok,r6,q6⟩
          | _ =>
            obtain ⟨σ6,H6,S6,q6⟩:=hsp
            exact ⟨_,_,S6.unsuite ok,q6⟩
        | false =>
          show wpAny _ X.A (handleBy (.ref a) X.env hds2) _ _ _
          exact ih (hno rfl)
      | @named x n i c ts b₀ suite np pos' hds2 l2 hc hi hln hsu r ih =>
        intro w
        obtain ⟨b,hb1,hyes,hno⟩:=w
        have hloc:Loc X.env.scope n:=.inl hln
        refine wpAny_handleBy_cons (codeAny_handlers_test ?_) (by intro q; cases q)
        have LM:=PySem.W.exm_one (M:=model X.prog X.w) (J3.kIn) LT hb1
        refine test hc (LM.here ?_)
        cases b with
        | true =>
          refine codeAny_handlers_suite_as ?_
          refine HandSPX.lands_againZ fl3 fun h4 fl4 up4=>?_
          have J4:Inv X pins σ' H' { s' with heap:=h4 }:=J.landed nb fl4.1 ((up.trans up3).trans up4) os ag
          obtain ⟨oe4,vs4,he4,hz4,hd4⟩:=fl4.there
          have S4:=J4.suite he4 hd4 na nL nF
          refine store_ok (X:=X.suite a ((a,oe4) :: (X.pn ++ pins))) (v:=.ref a) S4 hN hi hloc rfl (fun s5 S5=>?_) (.inr hln)
          refine wpAny_mono ((hsu a oe4 cls d (X.pn ++ pins) hz4 ⟨_,hd4⟩).run [] s5 _ H' _ S5 (hyes rfl a na)) (fun f s6 hsp=>?_) (fun _ _ z=>False.elim z)
          have end_:∀ {σ6:L2.St} {H6:Hp} {Q:Shared → Prop},Inv (X.suite a ((a,oe4) :: (X.pn ++ pins))) [] σ6 H6 s6 → (∀ s7,Inv X pins (σ6.set i none) H6 s7 → Q s7) →
              wpAny (model X.prog X.w) X.A (do bindName X.env n .none; unbindBehindTheSuite X.env n pos') (fun _ s7=>Q s7) X.xe s6:=fun {σ6 H6 Q} S6 hq=>gone_ok (S6.unsuite ok) hN hi hln hq
          cases f with
          | ret u =>
            obtain ⟨v6,σ6,H6,S6,r6,q6⟩:=hsp
            exact end_ S6 fun s7 J7=>⟨_,_,_,J7,r6,q6⟩
          | _ =>
            obtain ⟨σ6,H6,S6,q6⟩:=hsp
            exact end_ S6 fun s7 J7=>⟨_,_,J7,q6⟩
        | false =>
          show wpAny _ X.A (handleBy (.ref a) X.env hds2) _ _ _
          exact ih (hno rfl)
    exact go hh w
  · cases f with
    | next =>
      obtain ⟨σ',H',J',q⟩:=hsp
      exact wpAny_execs_nil ⟨σ',H',J'.ofTry ok,q⟩
    | brk =>
      obtain ⟨σ',H',J',q⟩:=hsp
      exact ⟨σ',H',J'.ofTry ok,q⟩
    | cont =>
      obtain ⟨σ',H',J',q⟩:=hsp
      exact ⟨σ',H',J'.ofTry ok,q⟩
    | ret u =>
      obtain ⟨v,σ',H',J',r,q⟩:=hsp
      exact ⟨v,σ',H',J'.ofTry ok,r,q⟩
end
end Rp
end
section
namespace Rp
open PySem PySem.Spec PyProof.Rows L2
def xTst (f:AEX):ATX:=fun s h=>(f s h).bind fun r=>match r.1 with
  | .ok (.bl b)=>some (.inl b,r.2)
  | .ok _=>none
  | .ex c v=>some (.inr (c,v),r.2)
def xNot (t:ATX):ATX:=fun s h=>(t s h).bind fun r=>match r.1 with
  | .inl b=>some (.inl (!b),r.2)
  | .inr z=>some (.inr z,r.2)
section
variable {X:Cx} {cl:Nat → Str × List Str} {xt:XT} {W:WX} {pos pos' apos:Pos} {e a o:Expr} {fe:AEX} {t:ATX} {m:Str} {k n:Nat} {F:AFX} {f:AE}
end
abbrev Ph:=Wd → L2.St → Prop
def Stays (Φ:Ph):Prop:=∀ w w' σ,WLe w w' → Φ w σ → Φ w' σ
def tAF (c:Ct) (Φ:Ph) (f:AE):TE:=fun σ H Q=>∃ w s h v h',Φ w σ ∧ RepS c w s σ ∧ SR c w H h ∧ f s h = some (v,h') ∧
  ∀ w' H' u,Tr w H h w' H' h' → SR c w' H' h' → RepV c w' v u → Q u H'
def tAsF (c:Ct) (Φ:Ph) (f:AA):TA:=fun σ H Q=>∃ w s h vs h',Φ w σ ∧ RepS c w s σ ∧ SR c w H h ∧ f s h = some (vs,h') ∧
  ∀ w' H' us,Tr w H h w' H' h' → SR c w' H' h' → RepL c w' vs us → Q us H'
def tSF (c:Ct) (Φ:Ph) (f:AS):TS:=fun D σ H=>∃ w s h r h',Φ w σ ∧ RepS c w s σ ∧ SR c w H h ∧ f s h = some (r,h') ∧ ∀ w' H',Tr w H h w' H' h' → SR c w' H' h' → EndsA c w' D H' r
section
variable {X:Cx} {cl:Nat → Str × List Str} {Φ:Ph} {e a b:Expr} {es:List Expr} {f g k:AE} {t:AT} {gs:AA} {pos:Pos}
theorem fE (h:PE X e (tA (ctX X cl) f)):PE X e (tAF (ctX X cl) Φ f):=h.wk fun σ H Q q=>by
  obtain ⟨w,s,h,v,h',_,rs,sr,e,k⟩:=q
  exact ⟨w,s,h,v,h',rs,sr,e,k⟩
theorem fa_nil:PA X [] (tAsF (ctX X cl) Φ aNil):=pa_nil.wk fun σ H Q q=>by
  obtain ⟨w,s,h,v,h',_,rs,sr,e,k⟩:=q
  cases e
  exact k w H [] (.refl _ _ _) sr rfl
theorem fa_cons (st:Stays Φ) (ha:PE X e (tAF (ctX X cl) Φ f)) (hr:PA X es (tAsF (ctX X cl) Φ gs)) (hs:starEach (e :: es) X.env = (false,eval e X.env) :: starEach es X.env:=by rfl):PA X (e :: es) (tAsF (ctX X cl) Φ (aCons f gs)):=by
  refine (pa_cons ha hr hs).wk fun σ H Q q=>?_
  obtain ⟨w,s,h,v,h',hR,rs,sr,e,k⟩:=q
  obtain ⟨⟨z,h1⟩,e1,e⟩:=bind_some e
  obtain ⟨⟨zs,h2⟩,e2,e⟩:=bind_some e
  cases e
  exact ⟨w,s,h,z,h1,hR,rs,sr,e1,fun w1 H1 u t1 s1 r1=>⟨w1,s,h1,zs,h2,st _ _ _ t1.le hR,rs.le t1.le,s1,e2,fun w2 H2 us t2 s2 r2=>k w2 H2 (u :: us) (t1.trans t2) s2 (.cons (RepV.le t2.le _ _ r1) r2)⟩⟩
theorem fs_ret (he:PE X e (tAF (ctX X cl) Φ f)):PSs X [.Return (some e) pos] (tSF (ctX X cl) Φ (aRet f)):=by
  refine (pss_one (ps_ret he)).wk fun D σ H q=>?_
  obtain ⟨w,s,h,r,h',hR,rs,sr,e,k⟩:=q
  obtain ⟨⟨x,h1⟩,e1,e⟩:=bind_some e
  cases e
  exact ⟨w,s,h,x,h1,hR,rs,sr,e1,fun w1 H1 u t1 s1 r1=>k w1 H1 t1 s1 u r1⟩
end
section
variable {X:Cx} {cl:Nat → Str × List Str} {a:Addr} {oe:Obj} {cls:Value} {d:Option Addr} {pn:List (Addr × Obj)} {pos np:Pos} {n f:Str} {i:Nat}
def PhX (a dd:Addr) (i:Nat) (f:Str) (u:V):Ph:=fun w σ=>w.R dd = some (.xd [(f,u)]) ∧ σ[i]? = some (some (.ref a))
theorem phx_stays {dd:Addr} {u:V}:Stays (PhX a dd i f u):=fun _ _ _ l q=>⟨l.rr _ _ q.1,q.2⟩
theorem fe_xf {C dd:Addr} {u:V} {v:AV} (T:XfC X.K C) (hno:PySem.W.findIn X.K (.ref C) f = some none) (hz:L2N.Zn cls d oe) (hf:∃ vs,oe.data = .fields vs) (hcls:cls = .ref C) (hd:d = some dd) (hv:∀ w,RepV (ctX X cl) w v u)
    (hN:X.N[i]? = some n) (hvis:Vis X.env.scope n) (h1:(n == ("__debug__" : Str)) = false:=by decide) (h2:(n == ("__classdict__" : Str)) = false:=by decide)
    (hb:attributeBase (.Name n np) f X.env (eval (.Name n np) X.env) = eval (.Name n np) X.env:=by rfl) :
    PE (X.suite a ((a,oe) :: pn)) (.Attribute (.Name n np) f pos) (tAF (ctX X cl) (PhX a dd i f u) (aC v)):=by
  refine (pe_xf (te:=tVar i) T hno hz.zc hf (pe_var (X:=X.suite a ((a,oe) :: pn)) hN hvis h1 h2) hb).wk fun σ H Q q=>?_
  obtain ⟨w,s,h,z,h',hR,rs,sr,e,k⟩:=q
  cases e
  exact ⟨.ref a,hR.2,rfl,hcls,dd,_,u,hd,sr.le _ _ hR.1,by simp,k w H u (.refl _ _ _) sr (hv w)⟩
end
section
variable {X:Cx} {cl:Nat → Str × List Str} {Φ:Ph} {es:List Expr} {gs:AA} {pos p:Pos} {e:Expr}
theorem fe_tup (st:Stays Φ) {x1:Nat} (h:PA X es (tAsF (ctX X cl) Φ gs)):PE X (.Tuple es x1 pos) (tAF (ctX X cl) Φ (aArgs (mkF .tup) gs)):=by
  refine (pe_tup h).wk fun σ H Q q=>?_
  obtain ⟨w,s,h,v,h',hR,rs,sr,e,k⟩:=q
  obtain ⟨⟨zs,h1⟩,e1,e⟩:=bind_some e
  unfold mkF at e
  split at e
  · rename_i hz
    cases e
    refine ⟨w,s,h,zs,h1,hR,rs,sr,e1,fun w1 H1 us t1 s1 r1=>⟨by rw [← r1.len]; exact hz,fun p hp=>?_⟩⟩
    obtain ⟨w2,s2,t2,r2⟩:=s1.newF (k:=.tup) hp r1 fun R e=>SqT.of e
    exact k w2 _ _ (t1.trans t2) s2 r2
  · cases e
end
end Rp
end
section
namespace Rp
open PySem PySem.Spec PyProof.Rows L2
structure XCl where
  hit:Nat → Bool
  slot:Option Nat
  suite:AV → AS
def pickX:List XCl → Nat → Option XCl
  | [],_=>none
  | c :: r,k=>if c.hit k = true then some c else pickX r k
def onlyRt (r:Option (AR × AH)):Option (AR × AH):=r.bind fun r=>match r.1 with
  | .rt v=>some (.rt v,r.2)
  | _=>none
theorem ex_pss {X:Cx} {α:Type} {st:List Stmt} {t:α → TS} (h:∀ x,PSs X st (t x)):PSs X st (fun D σ H=>∃ x,t x D σ H):=⟨fun pins s σ H D I ⟨x,q⟩=>(h x).run pins s σ H D I q⟩
theorem okArg_all {ct:Ct} {w:Wd} {v:AV} {u:V} (e:okArg v = true) (r:RepV ct w v u):∀ w',RepV ct w' v u:=fun w' => by
  cases v with
  | str x=>exact r
  | int i=>exact r
  | _=>cases e
theorem reps_none {c:Ct} {w:Wd} {s:LS} {σ:L2.St} {i:Nat} {x:Option V} (r:RepS c w s σ):RepS c w (s.set i none) (σ.set i x):=by
  refine ⟨?_,fun j a e=>?_⟩
  · simp only [List.length_set]; exact r.len
  · by_cases q:i = j
    · subst q
      by_cases hl:i < s.length
      · rw [List.getElem?_set_self hl] at e; cases e
      · rw [List.getElem?_eq_none (by simp; omega)] at e; cases e
    · rw [List.getElem?_set_ne q] at e
      rw [List.getElem?_set_ne q]
      exact r.at_ j a e
structure NFact (ct:Ct) (xt:XT) (nx:Nat) (fl:Str) (hit:Nat → Bool) (cls:Value) (d:Option Addr) where
  c:Nat
  dd:Addr
  u:V
  v:AV
  lt:c < nx
  hc:hit c = true
  hf:(xt c).2 = some fl
  hcls:cls = .ref (xt c).1
  hd:d = some dd
  hv:∀ w,RepV ct w v u
  ok:okArg v = true
def tsN (ct:Ct) (xt:XT) (nx:Nat) (fl:Str) (i:Nat) (hit:Nat → Bool) (g:AV → AS):Addr → Value → Option Addr → TS:=fun a cls d D σ H=>∃ z:NFact ct xt nx fl hit cls d,tSF ct (PhX a z.dd i fl z.u) (g z.v) D σ H
inductive ClsOk (X:Cx) (cl:Nat → Str × List Str) (xt:XT) (nx:Nat):List ExceptHandler → List XCl → List Clause → Prop
  | nil:ClsOk X cl xt nx [] [] []
  | plain {x:Str} {cv:Value} {g:AS} {hit:Nat → Bool} {b₀:Stmt} {suite:List Stmt} {np pos':Pos} {hds:List ExceptHandler} {L:List XCl} {l:List Clause} (hc:Names X x cv) (hex:∀ c,c < nx → PySem.W.exmOne X.K (.ref (xt c).1) cv = some (hit c))
      (hsu:∀ (a:Addr) (oe:Obj) (pn:List (Addr × Obj)),PSs (X.suite a ((a,oe) :: pn)) (b₀ :: suite) (tS (ctX X cl) g)) (r:ClsOk X cl xt nx hds L l) :
      ClsOk X cl xt nx (.ExceptHandler (some (.Name x np)) none (b₀ :: suite) pos' :: hds) (⟨hit,none,fun _=>g⟩ :: L) ((cv,none,fun _ _ _=>tS (ctX X cl) g) :: l)
  | named {x n fl:Str} {i:Nat} {cv:Value} {g:AV → AS} {hit:Nat → Bool} {b₀:Stmt} {suite:List Stmt} {np pos':Pos} {hds:List ExceptHandler} {L:List XCl} {l:List Clause} (hc:Names X x cv) (hi:X.N[i]? = some n) (hln:X.env.kindOf n = some .local)
      (hex:∀ c,c < nx → PySem.W.exmOne X.K (.ref (xt c).1) cv = some (hit c)) (hfl:∀ c,c < nx → hit c = true → (xt c).2 = some fl)
      (hsu:∀ (a:Addr) (oe:Obj) (cls:Value) (d:Option Addr) (pn:List (Addr × Obj)) (z:NFact (ctX X cl) xt nx fl hit cls d),L2N.Zn cls d oe → (∃ vs,oe.data = .fields vs) → PSs (X.suite a ((a,oe) :: pn)) (b₀ :: suite) (tSF (ctX X cl) (PhX a z.dd i fl z.u) (g z.v))) (r:ClsOk X cl xt nx hds L l) :
      ClsOk X cl xt nx (.ExceptHandler (some (.Name x np)) (some n) (b₀ :: suite) pos' :: hds) (⟨hit,some i,g⟩ :: L) ((cv,some i,tsN (ctX X cl) xt nx fl i hit g) :: l)
section
variable {X:Cx} {cl:Nat → Str × List Str} {xt:XT} {nx:Nat} {hds:List ExceptHandler} {L:List XCl} {l:List Clause}
theorem ClsOk.hdsN (h:ClsOk X cl xt nx hds L l):HdsN X hds l:=by
  induction h with
  | nil=>exact .nil
  | plain hc hex hsu r ih=>exact .plain hc (fun a oe cls d pn _ _=>hsu a oe pn) ih
  | named hc hi hln hex hfl hsu r ih=>exact .named hc hi hln (fun a oe cls d pn z f=>ex_pss fun q=>hsu a oe cls d pn q z f) ih
def runX (L:List XCl) (c:Nat) (v:AV) (s:LS) (h:AH):Option (AR × AH):=match pickX L c with
  | some k=>(match k.slot with
    | none=>k.suite v s h
    | some i=>if okArg v = true ∧ i < s.length then onlyRt (k.suite v (s.set i none) h) else none)
  | none=>none
theorem ClsOk.wish {D:Ends} {Wout:WX} (h:ClsOk X cl xt nx hds L l) {c:Nat} (hc:c < nx) {v:AV} {s:LS} {h1 h':AH} {r:AR} {w:Wd} {H:Hp} {σ:L2.St} {cls:Value} {d:Option Addr} (e:runX L c v s h1 = some (r,h'))
    (S:SR (ctX X cl) w H h1) (rs:RepS (ctX X cl) w s σ) (rx:RepX (ctX X cl) xt w H c v cls d) (k:∀ w' H',Tr w H h1 w' H' h' → SR (ctX X cl) w' H' h' → EndsA (ctX X cl) w' D H' r):wishN X.K Wout D l cls d σ H:=by
  induction h with
  | nil=>cases e
  | @plain x cv g hit b₀ suite np pos' hds2 L2 l2 hn hex hsu q ih =>
    refine ⟨hit c,by rw [rx.1]; exact hex c hc,fun hb a ha=>?_,fun hb=>?_⟩
    · have e':runX (⟨hit,none,fun _=>g⟩ :: L2) c v s h1 = g s h1:=by unfold runX pickX; rw [if_pos hb]
      rw [e'] at e
      exact ⟨w,s,h1,r,h',rs,S,e,k⟩
    · have e':runX (⟨hit,none,fun _=>g⟩ :: L2) c v s h1 = runX L2 c v s h1:=by
        have p1:pickX (⟨hit,none,fun _=>g⟩ :: L2) c = pickX L2 c:=by
          show (if hit c = true then _ else _) = _
          rw [hb]; rfl
        unfold runX
        rw [p1]
      exact ih (e' ▸ e)
  | @named x n fl i cv g hit b₀ suite np pos' hds2 L2 l2 hn hi hln hex hfl hsu q ih =>
    refine ⟨hit c,by rw [rx.1]; exact hex c hc,fun hb a ha=>?_,fun hb=>?_⟩
    · have e':runX (⟨hit,some i,g⟩ :: L2) c v s h1 = if okArg v = true ∧ i < s.length then onlyRt (g v (s.set i none) h1) else none:=by unfold runX pickX; rw [if_pos hb]
      rw [e'] at e
      by_cases ok':okArg v = true ∧ i < s.length
      · rw [if_pos ok'] at e
        obtain ⟨ok,hl⟩:=ok'
        rw [rs.len] at hl
        obtain ⟨⟨y,h2⟩,e1,e2⟩:=bind_some e
        have hf:=hfl c hc hb
        have rx2:=rx.2
        rw [hf] at rx2
        obtain ⟨dd,u,ed,hR,_,rv⟩:=rx2
        cases y with
        | rt z =>
          cases e2
          exact ⟨⟨c,dd,u,v,hc,hb,hf,rx.1,ed,okArg_all ok rv,ok⟩,w,s.set i none,h1,.rt z,_,⟨hR,List.getElem?_set_self hl⟩,reps_none rs,S,e1,fun w' H' t s' => k w' H' t s'⟩
        | _=>cases e2
      · rw [if_neg ok'] at e; cases e
    · have e':runX (⟨hit,some i,g⟩ :: L2) c v s h1 = runX L2 c v s h1:=by
        have p1:pickX (⟨hit,some i,g⟩ :: L2) c = pickX L2 c:=by
          show (if hit c = true then _ else _) = _
          rw [hb]; rfl
        unfold runX
        rw [p1]
      exact ih (e' ▸ e)
end
section
variable {X:Cx} {cl:Nat → Str × List Str} {xt:XT} {nx:Nat} {body:List Stmt} {h₀:ExceptHandler} {hds:List ExceptHandler} {L:List XCl} {l:List Clause} {pos:Pos} {fB:ASX}
end
section
variable {X:Cx} {cl:Nat → Str × List Str} {Φ:Ph} {e:Expr} {es:List Expr} {g:AA} {p pos:Pos}
end
section
variable {X:Cx} {cl:Nat → Str × List Str} {xt:XT} {W:WX} {k n:Nat} {F:AFX} {f:AE} {o:Expr} {m:Str} {pos apos:Pos} {fI C:Addr} {fd:FuncData} {ps:List Str} {sp:Sp} {dvs:List V} {ds:List Value} {ta:TE}
end
end Rp
end
section
namespace Rp
open PySem PySem.Spec PyProof.Rows L2
section
variable {X:Cx} {cl:Nat → Str × List Str} {xt:XT} {W:WX} {x m:Str} {p pos pos' apos:Pos} {e o:Expr} {fe f:AE} {c k n:Nat} {F:AFX}
end
end Rp
end
section
namespace Rp
open PySem PySem.Spec PyProof.Rows L2
abbrev AAX:=LS → AH → Option ((List AV ⊕ (Nat × AV)) × AH)
def tAsX (ct:Ct) (xt:XT) (W:WX) (g:AAX):TA:=fun σ H Q=>∃ w s h o h',RepS ct w s σ ∧ SR ct w H h ∧ g s h = some (o,h') ∧ match o with
  | .inl vs=>∀ w' H' us,Tr w H h w' H' h' → SR ct w' H' h' → RepL ct w' vs us → Q us H'
  | .inr (c,v)=>∀ w' H' cls d,Tr w H h w' H' h' → SR ct w' H' h' → RepX ct xt w' H' c v cls d → W cls d σ H'
def lfA (g:AA):AAX:=fun s h=>(g s h).bind fun r=>some (.inl r.1,r.2)
def xNilA:AAX:=fun _ h=>some (.inl [],h)
def xCons (f:AEX) (g:AAX):AAX:=fun s h=>(f s h).bind fun r=>match r.1 with
  | .ex c v=>some (.inr (c,v),r.2)
  | .ok v=>(g s r.2).bind fun q=>match q.1 with
    | .inl vs=>some (.inl (v :: vs),q.2)
    | .inr z=>some (.inr z,q.2)
def xArgs (op:List AV → AH → Option (AV × AH)) (g:AAX):AEX:=fun s h=>(g s h).bind fun r=>match r.1 with
  | .inl vs=>(op vs r.2).bind fun q=>some (.ok q.1,q.2)
  | .inr (c,v)=>some (.ex c v,r.2)
def xIfE (t:ATX) (f g:AEX):AEX:=fun s h=>(t s h).bind fun r=>match r.1 with
  | .inl b=>if b = true then f s r.2 else g s r.2
  | .inr (c,v)=>some (.ex c v,r.2)
def xCall (F:AFX) (g:AAX):AEX:=fun s h=>(g s h).bind fun r=>match r.1 with
  | .inl vs=>F vs r.2
  | .inr (c,v)=>some (.ex c v,r.2)
section
variable {X:Cx} {cl:Nat → Str × List Str} {xt:XT} {W:WX} {pos p:Pos} {e a b:Expr} {es:List Expr} {f g:AEX} {gs:AAX} {t:ATX} {x:Str} {k n:Nat} {F:AFX}
theorem lA {h:AA} (q:PA X es (tAs (ctX X cl) h)):PA X es (tAsX (ctX X cl) xt W (lfA h)):=q.wk fun σ H Q q=>by
  obtain ⟨w,s,h,o,h',rs,sr,e,k⟩:=q
  obtain ⟨⟨v,h1⟩,e1,e⟩:=bind_some e
  cases e
  exact ⟨w,s,h,v,h1,rs,sr,e1,k⟩
def CalX (P:Program) (w:World) (K:PySem.W.Frag) (mg:Str → Option Value) (base:Heap) (cl:Nat → Str × List Str) (xt:XT) (k:Nat) (x:Str) (n:Nat) (F:AFX):Prop:=∃ f fd ps,mg x = some (.ref f) ∧ PySem.W.keepIn K (.ref f) = true ∧ FnOk P w K mg base (L2N.CX P w) k f fd ps (spX ⟨K,w,mg,cl⟩ xt n F) ∧ Binds K fd ps []
theorem xe_call (C:CalX X.prog X.w X.K X.mg X.base cl xt k x n (lenX n F)) (hr:Room k X.A) (tk:L2N.Takes X W) (ha:PA X (e :: es) (tAsX (ctX X cl) xt W gs)) (hg:Gl X x:=by rfl) (hdb:(x == ("__debug__" : Str)) = false:=by decide)
    (he:starEach (e :: es) X.env = (false,eval e X.env) :: starEach es X.env:=by rfl) (hpl:(backTo pos (starEach es X.env)).any (·.1) = false:=by rfl):PE X (.Call (.Name x p) (e :: es) [] pos) (tAX (ctX X cl) xt W (xCall (lenX n F) gs)):=by
  obtain ⟨f,fd,ps,h1,h2,h3,h4⟩:=C
  refine (pe_callS (E:=WE W) h3 hr hg h1 h2 h4 (L2N.passAt tk) ha hdb he hpl).wk fun σ H Q q=>?_
  obtain ⟨w,s,h,v,h',rs,sr,e,k⟩:=q
  obtain ⟨⟨zs,h1⟩,e1,e⟩:=bind_some e
  refine ⟨w,s,h,zs,h1,rs,sr,e1,?_⟩
  cases zs with
  | inr z =>
    obtain ⟨c,v⟩:=z
    cases e
    exact k
  | inl zs =>
    intro w1 H1 us t1 s1 r1
    refine ⟨w1,h1,zs,v,h',(lenX_len e).1,r1,s1,e,?_⟩
    cases v with
    | ok v=>exact fun w2 H2 u t2 s2 r2=>k w2 H2 u (t1.trans t2) s2 r2
    | ex c v=>exact fun w2 H2 cls d t2 s2 rx=>k w2 H2 cls d (t1.trans t2) s2 rx
end
section
variable {X:Cx} {cl:Nat → Str × List Str} {xt:XT} {W:WX} {x:Str} {p pos pos':Pos} {e:Expr} {fe:AE} {c:Nat}
end
end Rp
namespace Rp
open PySem PySem.Spec PyProof.Rows L2
section
variable {X:Cx} {cl:Nat → Str × List Str} {xt:XT} {W:WX} {e o:Expr} {es:List Expr} {f:AE} {g:AA} {pos apos:Pos} {m:Str} {k n:Nat} {F:AFX} {das:List AV}
end
end Rp
end
section
namespace Rp
open PySem PySem.Spec PyProof.Rows L2
section
variable {s s':LS} {h h':AH} {as vs:List AV} {v:AV} {c:Nat} {b:Bool}
def fnXK (r:Option (ARX × AH)):Option (Out × AH):=r.bind fun r=>match r.1 with
  | .ar (.nx _)=>some (.ok .non,r.2)
  | .ar (.rt v)=>some (.ok v,r.2)
  | .ex c v _=>some (.ex c v,r.2)
  | _=>none
theorem evx_fn {m n:Nat} {B:ASX} (e:as.length = n):lenX n (fnX m B) as h = fnXK (B (startA m as) h):=by
  unfold lenX
  rw [if_pos e]; rfl
@[simp] theorem fnXK_nx:fnXK (some (.ar (.nx s),h)) = some (.ok .non,h):=id rfl
@[simp] theorem fnXK_rt:fnXK (some (.ar (.rt v),h)) = some (.ok v,h):=id rfl
@[simp] theorem fnXK_ex:fnXK (some (.ex c v s,h)) = some (.ex c v,h):=id rfl
def lfSK (r:Option (AR × AH)):Option (ARX × AH):=r.bind fun r=>some (.ar r.1,r.2)
@[simp] theorem ev_lfS {f:AS}:lfS f s h = lfSK (f s h):=id rfl
@[simp] theorem lfSK_some {r:AR}:lfSK (some (r,h)) = some (.ar r,h):=id rfl
def okK (r:Option (AV × AH)):Option (Out × AH):=r.bind fun r=>some (.ok r.1,r.2)
@[simp] theorem okK_some:okK (some (v,h)) = some (.ok v,h):=id rfl
def xseqK (r:Option (ARX × AH)) (B:ASX):Option (ARX × AH):=r.bind fun r=>match r.1 with
  | .ar (.nx s')=>B s' r.2
  | x=>some (x,r.2)
@[simp] theorem ev_xseq {A B:ASX}:xSeq A B s h = xseqK (A s h) B:=id rfl
@[simp] theorem xseqK_nx {B:ASX}:xseqK (some (.ar (.nx s'),h')) B = B s' h':=id rfl
@[simp] theorem xseqK_rt {B:ASX}:xseqK (some (.ar (.rt v),h')) B = some (.ar (.rt v),h'):=id rfl
@[simp] theorem xseqK_ex {B:ASX}:xseqK (some (.ex c v s',h')) B = some (.ex c v s',h'):=id rfl
theorem xseq_step {A B:ASX} (e:A s h = some (.ar (.nx s'),h')):xSeq A B s h = B s' h':=by
  rw [ev_xseq,e]; rfl
@[simp] theorem ev_lfE {f:AE}:lfE f s h = okK (f s h):=id rfl
def lfTK (r:Option (Bool × AH)):Option ((Bool ⊕ (Nat × AV)) × AH):=r.bind fun r=>some (.inl r.1,r.2)
@[simp] theorem ev_lfT {f:AT}:lfT f s h = lfTK (f s h):=id rfl
@[simp] theorem lfTK_some:lfTK (some (b,h)) = some (.inl b,h):=id rfl
def xtstK (r:Option (Out × AH)):Option ((Bool ⊕ (Nat × AV)) × AH):=r.bind fun r=>match r.1 with
  | .ok (.bl b)=>some (.inl b,r.2)
  | .ok _=>none
  | .ex c v=>some (.inr (c,v),r.2)
@[simp] theorem ev_xtst {f:AEX}:xTst f s h = xtstK (f s h):=id rfl
@[simp] theorem xtstK_ok:xtstK (some (.ok (.bl b),h)) = some (.inl b,h):=id rfl
@[simp] theorem xtstK_ex:xtstK (some (.ex c v,h)) = some (.inr (c,v),h):=id rfl
def xnotK (r:Option ((Bool ⊕ (Nat × AV)) × AH)):Option ((Bool ⊕ (Nat × AV)) × AH):=r.bind fun r=>match r.1 with
  | .inl b=>some (.inl (!b),r.2)
  | .inr z=>some (.inr z,r.2)
@[simp] theorem ev_xnot {f:ATX}:xNot f s h = xnotK (f s h):=id rfl
@[simp] theorem xnotK_ok:xnotK (some (.inl b,h)) = some (.inl (!b),h):=id rfl
@[simp] theorem xnotK_ex {z:Nat × AV}:xnotK (some (.inr z,h)) = some (.inr z,h):=id rfl
def xifK (r:Option ((Bool ⊕ (Nat × AV)) × AH)) (f g:ASX) (s:LS):Option (ARX × AH):=r.bind fun r=>match r.1 with
  | .inl b=>if b = true then f s r.2 else g s r.2
  | .inr (c,v)=>some (.ex c v s,r.2)
@[simp] theorem ev_xif {t:ATX} {f g:ASX}:xIf t f g s h = xifK (t s h) f g s:=id rfl
@[simp] theorem xifK_t {f g:ASX}:xifK (some (.inl true,h)) f g s = f s h:=id rfl
@[simp] theorem xifK_f {f g:ASX}:xifK (some (.inl false,h)) f g s = g s h:=id rfl
@[simp] theorem xifK_ex {f g:ASX}:xifK (some (.inr (c,v),h)) f g s = some (.ex c v s,h):=id rfl
def xexpK (r:Option (Out × AH)) (s:LS):Option (ARX × AH):=r.bind fun r=>match r.1 with
  | .ok _=>some (.ar (.nx s),r.2)
  | .ex c v=>some (.ex c v s,r.2)
@[simp] theorem ev_xexp {f:AEX}:xExp f s h = xexpK (f s h) s:=id rfl
@[simp] theorem xexpK_ok:xexpK (some (.ok v,h)) s = some (.ar (.nx s),h):=id rfl
@[simp] theorem xexpK_ex:xexpK (some (.ex c v,h)) s = some (.ex c v s,h):=id rfl
def xretK (r:Option (Out × AH)) (s:LS):Option (ARX × AH):=r.bind fun r=>match r.1 with
  | .ok v=>some (.ar (.rt v),r.2)
  | .ex c v=>some (.ex c v s,r.2)
@[simp] theorem ev_xret {f:AEX}:xRet f s h = xretK (f s h) s:=id rfl
@[simp] theorem xretK_ok:xretK (some (.ok v,h)) s = some (.ar (.rt v),h):=id rfl
@[simp] theorem xretK_ex:xretK (some (.ex c v,h)) s = some (.ex c v s,h):=id rfl
def xsetK (r:Option (Out × AH)) (i:Nat) (s:LS):Option (ARX × AH):=r.bind fun r=>match r.1 with
  | .ok v=>some (.ar (.nx (s.set i (some v))),r.2)
  | .ex c v=>some (.ex c v s,r.2)
@[simp] theorem ev_xset {f:AEX} {i:Nat}:xSet f i s h = xsetK (f s h) i s:=id rfl
@[simp] theorem xsetK_ok {i:Nat}:xsetK (some (.ok v,h)) i s = some (.ar (.nx (s.set i (some v))),h):=id rfl
@[simp] theorem xsetK_ex {i:Nat}:xsetK (some (.ex c v,h)) i s = some (.ex c v s,h):=id rfl
def lfAK (r:Option (List AV × AH)):Option ((List AV ⊕ (Nat × AV)) × AH):=r.bind fun r=>some (.inl r.1,r.2)
@[simp] theorem ev_lfA {g:AA}:lfA g s h = lfAK (g s h):=id rfl
@[simp] theorem lfAK_some:lfAK (some (vs,h)) = some (.inl vs,h):=id rfl
@[simp] theorem ev_xnil:xNilA s h = some (.inl [],h):=id rfl
def xconsJ (v:AV) (r:Option ((List AV ⊕ (Nat × AV)) × AH)):Option ((List AV ⊕ (Nat × AV)) × AH):=r.bind fun q=>match q.1 with
  | .inl vs=>some (.inl (v :: vs),q.2)
  | .inr z=>some (.inr z,q.2)
@[simp] theorem xconsJ_ok:xconsJ v (some (.inl vs,h)) = some (.inl (v :: vs),h):=id rfl
@[simp] theorem xconsJ_ex {z:Nat × AV}:xconsJ v (some (.inr z,h)) = some (.inr z,h):=id rfl
def xconsK (r:Option (Out × AH)) (g:AAX) (s:LS):Option ((List AV ⊕ (Nat × AV)) × AH):=r.bind fun r=>match r.1 with
  | .ex c v=>some (.inr (c,v),r.2)
  | .ok v=>xconsJ v (g s r.2)
@[simp] theorem ev_xcons {f:AEX} {g:AAX}:xCons f g s h = xconsK (f s h) g s:=id rfl
@[simp] theorem xconsK_ok {g:AAX}:xconsK (some (.ok v,h)) g s = xconsJ v (g s h):=id rfl
@[simp] theorem xconsK_ex {g:AAX}:xconsK (some (.ex c v,h)) g s = some (.inr (c,v),h):=id rfl
def xargsK (r:Option ((List AV ⊕ (Nat × AV)) × AH)) (op:List AV → AH → Option (AV × AH)):Option (Out × AH):=r.bind fun r=>match r.1 with
  | .inl vs=>okK (op vs r.2)
  | .inr (c,v)=>some (.ex c v,r.2)
@[simp] theorem ev_xargs {op:List AV → AH → Option (AV × AH)} {g:AAX}:xArgs op g s h = xargsK (g s h) op:=id rfl
@[simp] theorem xargsK_ok {op:List AV → AH → Option (AV × AH)}:xargsK (some (.inl vs,h)) op = okK (op vs h):=id rfl
@[simp] theorem xargsK_ex {op:List AV → AH → Option (AV × AH)}:xargsK (some (.inr (c,v),h)) op = some (.ex c v,h):=id rfl
def xifeK (r:Option ((Bool ⊕ (Nat × AV)) × AH)) (f g:AEX) (s:LS):Option (Out × AH):=r.bind fun r=>match r.1 with
  | .inl b=>if b = true then f s r.2 else g s r.2
  | .inr (c,v)=>some (.ex c v,r.2)
@[simp] theorem ev_xife {t:ATX} {f g:AEX}:xIfE t f g s h = xifeK (t s h) f g s:=id rfl
@[simp] theorem xifeK_t {f g:AEX}:xifeK (some (.inl true,h)) f g s = f s h:=id rfl
@[simp] theorem xifeK_f {f g:AEX}:xifeK (some (.inl false,h)) f g s = g s h:=id rfl
@[simp] theorem xifeK_ex {f g:AEX}:xifeK (some (.inr (c,v),h)) f g s = some (.ex c v,h):=id rfl
def xcallK (r:Option ((List AV ⊕ (Nat × AV)) × AH)) (F:AFX):Option (Out × AH):=r.bind fun r=>match r.1 with
  | .inl vs=>F vs r.2
  | .inr (c,v)=>some (.ex c v,r.2)
@[simp] theorem ev_xcall {F:AFX} {g:AAX}:xCall F g s h = xcallK (g s h) F:=id rfl
@[simp] theorem xcallK_ok {F:AFX}:xcallK (some (.inl vs,h)) F = F vs h:=id rfl
@[simp] theorem xcallK_ex {F:AFX}:xcallK (some (.inr (c,v),h)) F = some (.ex c v,h):=id rfl
theorem ev_xraise {f:AE} (e:f s h = some (v,h')) (ok:okArg v = true):xRaise c f s h = some (.ex c v s,h'):=by
  unfold xRaise
  rw [e,Option.bind_some,if_pos ok]
end
end Rp
end
section
namespace Rp
open PySem PySem.Spec PyProof.Rows L2
section
variable {X:Cx} {cl:Nat → Str × List Str} {o e:Expr} {f:AE} {g:AA} {apos cpos:Pos}
end
end Rp
end
section
namespace Rp
open PySem PySem.Spec PyProof.Rows L2
section
variable {X:Cx} {body:List Stmt} {f₀:Stmt} {fs:List Stmt} {pos:Pos} {tb:WX → TS} {tf tfs:TS} {Wout:WX}
end
theorem RepX.le {ct:Ct} {xt:XT} {w w':Wd} {H H':Hp} {h':AH} {c:Nat} {v:AV} {cls:Value} {d:Option Addr} (r:RepX ct xt w H c v cls d) (le:WLe w w') (S:SR ct w' H' h'):RepX ct xt w' H' c v cls d:=by
  refine ⟨r.1,?_⟩
  have r2:=r.2
  cases hx:(xt c).2 with
  | none=>rw [hx] at r2; exact r2
  | some f =>
    rw [hx] at r2
    obtain ⟨dd,u,e,hR,_,rv⟩:=r2
    exact ⟨dd,u,e,le.rr _ _ hR,S.le _ _ (le.rr _ _ hR),RepV.le le _ _ rv⟩
section
variable {X:Cx} {cl:Nat → Str × List Str} {xt:XT} {W:WX} {body:List Stmt} {f₀:Stmt} {fs:List Stmt} {pos:Pos} {b:ASX} {f:AS}
end
end Rp
end
section
namespace Rp
open PySem PySem.Spec PyProof.Rows L2
section
variable {X:Cx} {cl:Nat → Str × List Str} {pos p apos:Pos} {e o:Expr} {es:List Expr} {f:AE} {g:AA} {k n:Nat} {y m:Str} {F:AF}
end
def xAsg (f:AEX) (g:AG):ASX:=fun s h=>(f s h).bind fun r=>match r.1 with
  | .ok v=>(g v s r.2).bind fun q=>some (.ar (.nx q.1),q.2)
  | .ex c v=>some (.ex c v s,r.2)
section
variable {X:Cx} {cl:Nat → Str × List Str} {xt:XT} {W:WX} {pos:Pos} {e tg:Expr} {fe:AEX} {g:AG}
end
def xasgK (r:Option (Out × AH)) (g:AG) (s:LS):Option (ARX × AH):=r.bind fun r=>match r.1 with
  | .ok v=>(g v s r.2).bind fun q=>some (.ar (.nx q.1),q.2)
  | .ex c v=>some (.ex c v s,r.2)
@[simp] theorem ev_xasg {f:AEX} {g:AG} {s:LS} {h:AH}:xAsg f g s h = xasgK (f s h) g s:=id rfl
def xasgJ (r:Option (LS × AH)):Option (ARX × AH):=r.bind fun q=>some (.ar (.nx q.1),q.2)
@[simp] theorem xasgK_ok {v:AV} {g:AG} {s:LS} {h:AH}:xasgK (some (.ok v,h)) g s = xasgJ (g v s h):=id rfl
@[simp] theorem xasgK_ex {c:Nat} {v:AV} {g:AG} {s:LS} {h:AH}:xasgK (some (.ex c v,h)) g s = some (.ex c v s,h):=id rfl
@[simp] theorem xasgJ_some {s:LS} {h:AH}:xasgJ (some (s,h)) = some (.ar (.nx s),h):=id rfl
section
variable {X:Cx} {cl:Nat → Str × List Str} {pos p:Pos} {a b:Expr} {g:AA}
end
def aRev (f:AE):AE:=fun s h=>(f s h).bind fun r=>(lstOf r.2 r.1).bind fun xs=>mkF .lst xs.reverse r.2
section
variable {X:Cx} {cl:Nat → Str × List Str} {pos p1 p2 p3:Pos} {e:Expr} {f:AE} {k:Nat}
end
@[simp] theorem ev_rev {f:AE} {s:LS} {h:AH}:aRev f s h = (f s h).bind fun r=>(lstOf r.2 r.1).bind fun xs=>mkF .lst xs.reverse r.2:=id rfl
def aMakeK (c n k:Nat) (F:AF) (g gk:AA):AE:=fun s h=>(g s h).bind fun q=>(gk s q.2).bind fun z=>if q.1.length = n ∧ z.1.length = k then (F ((.ref z.2.next :: q.1) ++ z.1) (z.2.new (.ins c,[]))).bind fun r=>(match r.1 with
  | .non=>some (.ref z.2.next,r.2)
  | _=>none) else none
section
variable {X:Cx} {cl:Nat → Str × List Str} {e:Expr} {es:List Expr} {kws:List Keyword} {g gk:AA} {pos p:Pos} {x:Str} {k n N:Nat} {ks:List Str} {F:AF}
end
@[simp] theorem ev_makeK {c n k:Nat} {F:AF} {g gk:AA} {s:LS} {h:AH}:aMakeK c n k F g gk s h = (g s h).bind fun q=>(gk s q.2).bind fun z=>if q.1.length = n ∧ z.1.length = k then (F ((.ref z.2.next :: q.1) ++ z.1) (z.2.new (.ins c,[]))).bind fun r=>(match r.1 with
  | .non=>some (.ref z.2.next,r.2)
  | _=>none) else none:=id rfl
end Rp
end
section
namespace Rp
open PySem PySem.Spec PyProof.Rows L2
end Rp
end
section
namespace Rp
open PySem PySem.Spec PyProof.Rows L2
structure Got (X:Cx) (a:Addr) (cls:Value) (d:Option Addr) (oe:Obj):Prop where
  z:L2N.Zn cls d oe
  f:∃ vs,oe.data = .fields vs
  b:X.base.get? a = none
  s:a ∉ frs X.stack
section
variable {X:Cx} {body:List Stmt} {h₀:ExceptHandler} {hds:List ExceptHandler} {l:List Clause} {pos:Pos} {tb:WX → TS} {Wout:WX}
end
end Rp
end
section
namespace Rp
open PySem PySem.Spec PyProof.Rows L2
def exq (a:Addr) (oe:Obj):HO:=.ext fun h=>h.get? a = some oe
section
variable {X:Cx} {cl:Nat → Str × List Str} {Φ:Ph} {e a b:Expr} {es:List Expr} {f g k:AE} {t:AT} {gs:AA} {pos pos' p p1 p2 p3:Pos}
end
def fnW (m:Nat) (g:Nat → AS):Nat → AF:=fun c=>fnA m (g c)
section
variable {P:Program} {w:World} {K:PySem.W.Frag} {mg:Str → Option Value} {base:Heap} {cl:Nat → Str × List Str} {xt:XT} {x qual:Str} {params:Arguments} {body:List Stmt} {scope:Scope} {dvs:List V} {kws:List (Str × V)} {f:Addr} {fd:FuncData} {N ps:List Str} {k nx:Nat}
end
def nx' (o:HO):Prop:=∀ φ,o ≠ .ext φ
def LessR (R R':Hp):Prop:=∀ b o,R b = some o → nx' o → R' b = some o
theorem Rd.less {R R':Hp} (h:LessR R R') {a:Addr} {u:HO} (hu:nx' u) (r:Rd R a u):Rd R' a u:=by
  rcases r with r | ⟨o,r⟩
  · exact .inl (h _ _ r hu)
  · exact .inr ⟨o,h _ _ r (by intro φ q; cases q)⟩
theorem NodeR.less {c:Ct} {R R':Hp} (h:LessR R R') {p:Addr} {k:Kd} {us:List V} (r:NodeR c R p k us):NodeR c R' p k us:=by
  cases k with
  | tup =>
    rcases r with r | r
    · exact .inl (Rd.less h (by intro φ q; cases q) r)
    · exact .inr r
  | lst=>exact h _ _ r (by intro φ q; cases q)
  | scr =>
    rcases r with r | r
    · exact .inl (Rd.less h (by intro φ q; cases q) r)
    · exact .inr r
  | dct ks =>
    obtain ⟨e,od,r⟩:=r
    exact ⟨e,od,h _ _ r (by intro φ q; cases q)⟩
  | ldct ks=>exact r.elim
  | tab ks=>exact r
  | ins k =>
    obtain ⟨e,a,dx,m,r⟩:=r
    exact ⟨e,a,dx,m,h _ _ r (by intro φ q; cases q)⟩
  | cod P q=>exact r.elim
mutual
theorem RepV.less {c:Ct} {w w':Wd} (hi:w'.i = w.i) (h:LessR w.R w'.R):∀ (a:AV) (v:V),RepV c w a v → RepV c w' a v
  | .non,_,r=>r
  | .bl _,_,r=>r
  | .int _,_,r=>r
  | .str _,_,r=>r
  | .ty _,_,r=>r
  | .gl _,_,r=>r
  | .ref n,v,r=>by
    obtain ⟨p,e,q⟩:=r
    exact ⟨p,by rw [hi]; exact e,q⟩
  | .nod k xs,v,r=>by
    obtain ⟨p,us,e,n,l⟩:=r
    exact ⟨p,us,e,n.less h,RepL.less hi h xs us l⟩
theorem RepL.less {c:Ct} {w w':Wd} (hi:w'.i = w.i) (h:LessR w.R w'.R):∀ (a:List AV) (v:List V),RepL c w a v → RepL c w' a v
  | [],_,r=>r
  | x :: xs,us,r=>by
    obtain ⟨u,us',e,r1,r2⟩:=r
    exact ⟨u,us',e,RepV.less hi h x u r1,RepL.less hi h xs us' r2⟩
end
def out1 {α:Type} (f:Addr → Option α) (a:Addr):Addr → Option α:=fun b=>if b = a then none else f b
theorem out1_same {α:Type} {f:Addr → Option α} {a:Addr}:out1 f a a = none:=if_pos rfl
theorem out1_ne {α:Type} {f:Addr → Option α} {a b:Addr} (h:b ≠ a):out1 f a b = f b:=if_neg h
theorem NodeM.out {c:Ct} {H:Hp} {a p:Addr} {k:Kd} {us:List V} (h:p ≠ a) (hq:∀ q,H a ≠ some (LamX.CodeO a q)) (n:NodeM c H p k us):NodeM c (out1 H a) p k us:=by
  cases k with
  | cod P q =>
    obtain ⟨e1,rfl,ps,e2,t,f⟩:=n
    refine ⟨e1,rfl,ps,(out1_ne h).trans e2,t,fun pos cv hc=>?_⟩
    obtain ⟨c',r1,r2⟩:=f pos cv hc
    refine ⟨c',r1,(out1_ne (fun z=>?_)).trans r2⟩
    rw [z] at r2
    exact hq _ r2
  | _=>simp only [NodeM,out1_ne h] at n ⊢ <;> exact n
theorem SR.out {c:Ct} {w w2:Wd} {H H2:Hp} {h h':AH} {a:Addr} {φ:Heap → Prop} (hR:w2.R a = some (.ext φ)) (hc:∀ q,HO.ext φ ≠ LamX.CodeO a q) (S:SR c w2 H2 h') (T:Tr w H h w2 H2 h') (S0:SR c w H h) (na:H a = none) :
    SR c ⟨w2.i,out1 w2.R a⟩ (out1 H2 a) h' ∧ Tr w H h ⟨w2.i,out1 w2.R a⟩ (out1 H2 a) h' ∧ ∀ (v:AV) (u:V),RepV c w2 v u → RepV c ⟨w2.i,out1 w2.R a⟩ v u:=by
  have ls:LessR w2.R (out1 w2.R a):=fun b o e n=>by
    by_cases q:b = a
    · subst q; rw [hR] at e; cases e; exact absurd rfl (n φ)
    · rw [out1_ne q]; exact e
  have wa:w.R a = none:=by
    cases q:w.R a with
    | none=>rfl
    | some o=>rw [S0.le _ _ q] at na; cases na
  have own:∀ b,Own ⟨w2.i,out1 w2.R a⟩ h' b → Own w2 h' b:=fun b hb=>by
    rcases hb with hz | hb
    · refine .inl fun q=>hz ?_
      show (out1 w2.R a) b = none
      by_cases qb:b = a
      · rw [qb,out1_same]
      · rw [out1_ne qb]; exact q
    · exact .inr hb
  refine ⟨⟨fun b o e=>?_,fun n k xs e=>?_,S.inj,fun n p e1 e2=>?_,S.nx⟩,⟨⟨T.le.ii,fun b o e=>?_⟩,fun b o e no=>?_,fun b hb=>T.nw b (own b hb),fun b hb=>?_,fun b o u e=>?_⟩,fun v u r=>RepV.less (w:=w2) (w':=⟨w2.i,out1 w2.R a⟩) rfl ls v u r⟩
  · have e':(out1 w2.R a) b = some o:=e
    by_cases q:b = a
    · subst q; rw [out1_same] at e'; cases e'
    · rw [out1_ne q] at e' ⊢; exact S.le _ _ e'
  · obtain ⟨p,us,h1,h2,h3⟩:=S.cell n k xs e
    have hp:p ≠ a:=fun q=>by
      have:=S.sep n p (by rw [e]; rfl) h1
      rw [q,hR] at this; cases this
    exact ⟨p,us,h1,h2.out hp (fun q z=>hc q (Option.some.inj ((S.le _ _ hR).symm.trans z))),RepL.less (w:=w2) (w':=⟨w2.i,out1 w2.R a⟩) rfl ls xs us h3⟩
  · have:=S.sep n p e1 e2
    show out1 w2.R a p = none
    by_cases q:p = a
    · rw [q,out1_same]
    · rw [out1_ne q]; exact this
  · have q:b ≠ a:=fun q=>by rw [q,wa] at e; cases e
    show out1 w2.R a b = some o
    rw [out1_ne q]; exact T.le.rr _ _ e
  · have q:b ≠ a:=fun q=>by rw [q,na] at e; cases e
    rw [out1_ne q]; exact T.fr b o e no
  · have q:b ≠ a:=fun q=>hb (by rw [q,na])
    rw [out1_ne q]; exact T.st b hb
  · have q:b ≠ a:=fun q=>by rw [q,na] at e; cases e
    rw [out1_ne q]; exact T.fz b o u e
def PhG (a:Addr) (i:Nat) (d:Option Addr) (z:List (Str × V)):Ph:=fun w σ=>(∀ dd,d = some dd → w.R dd = some (.xd z)) ∧ σ[i]? = some (some (.ref a))
def aFC (F:AF):AE:=fun _ h=>F [] h
section
variable {X:Cx} {cl:Nat → Str × List Str} {xt:XT} {a:Addr} {oe:Obj} {cls:Value} {d:Option Addr} {pn:List (Addr × Obj)} {pos p np:Pos} {n y:Str} {i k nx c:Nat} {z:List (Str × V)} {F:Nat → AF}
end
end Rp
end
section
namespace Rp
open PySem PySem.Spec PyProof.Rows L2
structure XG where
  hit:Nat → Bool
  slot:Option Nat
  suite:Nat → AV → AS
def pickG:List XG → Nat → Option XG
  | [],_=>none
  | c :: r,k=>if c.hit k = true then some c else pickG r k
def okG (v:AV):Bool:=okArg v || (match v with
  | .non=>true
  | _=>false)
theorem okG_all {ct:Ct} {w:Wd} {v:AV} {u:V} (e:okG v = true) (r:RepV ct w v u):∀ w',RepV ct w' v u:=fun w' => by
  cases v with
  | str x=>exact r
  | int i=>exact r
  | non=>exact r
  | _=>cases e
structure GFact (ct:Ct) (xt:XT) (nx:Nat) (hit:Nat → Bool) (cls:Value) (d:Option Addr) where
  c:Nat
  v:AV
  z:List (Str × V)
  lt:c < nx
  hc:hit c = true
  hcls:cls = .ref (xt c).1
  fld:match (xt c).2 with
    | none=>d = none
    | some f=>∃ dd u,d = some dd ∧ z = [(f,u)] ∧ ∀ w,RepV ct w v u
def tsG (ct:Ct) (xt:XT) (nx:Nat) (i:Nat) (hit:Nat → Bool) (g:Nat → AV → AS):Addr → Value → Option Addr → TS:=fun a cls d D σ H=>∃ z:GFact ct xt nx hit cls d,tSF ct (PhG a i d z.z) (g z.c z.v) D σ H
inductive ClsOkG (X:Cx) (cl:Nat → Str × List Str) (xt:XT) (nx:Nat):List ExceptHandler → List XG → List Clause → Prop
  | nil:ClsOkG X cl xt nx [] [] []
  | plain {x:Str} {cv:Value} {g:AS} {hit:Nat → Bool} {b₀:Stmt} {suite:List Stmt} {np pos':Pos} {hds:List ExceptHandler} {L:List XG} {l:List Clause} (hc:Names X x cv) (hex:∀ c,c < nx → PySem.W.exmOne X.K (.ref (xt c).1) cv = some (hit c))
      (hsu:∀ (a:Addr) (oe:Obj) (pn:List (Addr × Obj)),PSs (X.suite a ((a,oe) :: pn)) (b₀ :: suite) (tS (ctX X cl) g)) (r:ClsOkG X cl xt nx hds L l) :
      ClsOkG X cl xt nx (.ExceptHandler (some (.Name x np)) none (b₀ :: suite) pos' :: hds) (⟨hit,none,fun _ _=>g⟩ :: L) ((cv,none,fun _ _ _=>tS (ctX X cl) g) :: l)
  | named {x n:Str} {i:Nat} {cv:Value} {g:Nat → AV → AS} {hit:Nat → Bool} {b₀:Stmt} {suite:List Stmt} {np pos':Pos} {hds:List ExceptHandler} {L:List XG} {l:List Clause} (hc:Names X x cv) (hi:X.N[i]? = some n) (hln:X.env.kindOf n = some .local)
      (hex:∀ c,c < nx → PySem.W.exmOne X.K (.ref (xt c).1) cv = some (hit c))
      (hsu:∀ (a:Addr) (oe:Obj) (cls:Value) (d:Option Addr) (pn:List (Addr × Obj)) (z:GFact (ctX X cl) xt nx hit cls d),Got X a cls d oe → PSs (X.suite a ((a,oe) :: pn)) (b₀ :: suite) (tSF (ctX X cl) (PhG a i d z.z) (g z.c z.v))) (r:ClsOkG X cl xt nx hds L l) :
      ClsOkG X cl xt nx (.ExceptHandler (some (.Name x np)) (some n) (b₀ :: suite) pos' :: hds) (⟨hit,some i,g⟩ :: L) ((cv,some i,tsG (ctX X cl) xt nx i hit g) :: l)
section
variable {X:Cx} {cl:Nat → Str × List Str} {xt:XT} {nx:Nat} {hds:List ExceptHandler} {L:List XG} {l:List Clause}
def runG (L:List XG) (c:Nat) (v:AV) (s:LS) (h:AH):Option (AR × AH):=match pickG L c with
  | some k=>(match k.slot with
    | none=>k.suite c v s h
    | some i=>if okG v = true ∧ i < s.length then onlyRt (k.suite c v (s.set i none) h) else none)
  | none=>none
theorem ClsOkG.wish {D:Ends} {Wout:WX} (h:ClsOkG X cl xt nx hds L l) {c:Nat} (hc:c < nx) {v:AV} {s:LS} {h1 h':AH} {r:AR} {w:Wd} {H:Hp} {σ:L2.St} {cls:Value} {d:Option Addr} (e:runG L c v s h1 = some (r,h'))
    (S:SR (ctX X cl) w H h1) (rs:RepS (ctX X cl) w s σ) (rx:RepX (ctX X cl) xt w H c v cls d) (k:∀ w' H',Tr w H h1 w' H' h' → SR (ctX X cl) w' H' h' → EndsA (ctX X cl) w' D H' r):wishN X.K Wout D l cls d σ H:=by
  induction h with
  | nil=>cases e
  | @plain x cv g hit b₀ suite np pos' hds2 L2 l2 hn hex hsu q ih =>
    refine ⟨hit c,by rw [rx.1]; exact hex c hc,fun hb a ha=>?_,fun hb=>?_⟩
    · have e':runG (⟨hit,none,fun _ _=>g⟩ :: L2) c v s h1 = g s h1:=by unfold runG pickG; rw [if_pos hb]
      rw [e'] at e
      exact ⟨w,s,h1,r,h',rs,S,e,k⟩
    · have e':runG (⟨hit,none,fun _ _=>g⟩ :: L2) c v s h1 = runG L2 c v s h1:=by
        have p1:pickG (⟨hit,none,fun _ _=>g⟩ :: L2) c = pickG L2 c:=by
          show (if hit c = true then _ else _) = _
          rw [hb]; rfl
        unfold runG
        rw [p1]
      exact ih (e' ▸ e)
  | @named x n i cv g hit b₀ suite np pos' hds2 L2 l2 hn hi hln hex hsu q ih =>
    refine ⟨hit c,by rw [rx.1]; exact hex c hc,fun hb a ha=>?_,fun hb=>?_⟩
    · have e':runG (⟨hit,some i,g⟩ :: L2) c v s h1 = if okG v = true ∧ i < s.length then onlyRt (g c v (s.set i none) h1) else none:=by unfold runG pickG; rw [if_pos hb]
      rw [e'] at e
      by_cases ok':okG v = true ∧ i < s.length
      · rw [if_pos ok'] at e
        obtain ⟨ok,hl⟩:=ok'
        rw [rs.len] at hl
        obtain ⟨⟨y,h2⟩,e1,e2⟩:=bind_some e
        have rx2:=rx.2
        have key:∃ z:GFact (ctX X cl) xt nx hit cls d,z.c = c ∧ z.v = v ∧ ∀ dd,d = some dd → w.R dd = some (.xd z.z):=by
          cases hf:(xt c).2 with
          | none =>
            rw [hf] at rx2
            exact ⟨⟨c,v,[],hc,hb,rx.1,by rw [hf]; exact rx2⟩,rfl,rfl,fun dd e=>by rw [rx2] at e; cases e⟩
          | some f =>
            rw [hf] at rx2
            obtain ⟨dd,u,ed,hR,_,rv⟩:=rx2
            exact ⟨⟨c,v,[(f,u)],hc,hb,rx.1,by rw [hf]; exact ⟨dd,u,ed,rfl,okG_all ok rv⟩⟩,rfl,rfl,fun d2 e=>by rw [ed] at e; cases e; exact hR⟩
        obtain ⟨z,ec,ev,hz⟩:=key
        cases y with
        | rt zz =>
          cases e2
          exact ⟨z,w,s.set i none,h1,.rt zz,_,⟨hz,List.getElem?_set_self hl⟩,reps_none rs,S,by rw [ec,ev]; exact e1,fun w' H' t s' => k w' H' t s'⟩
        | _=>cases e2
      · rw [if_neg ok'] at e; cases e
    · have e':runG (⟨hit,some i,g⟩ :: L2) c v s h1 = runG L2 c v s h1:=by
        have p1:pickG (⟨hit,some i,g⟩ :: L2) c = pickG L2 c:=by
          show (if hit c = true then _ else _) = _
          rw [hb]; rfl
        unfold runG
        rw [p1]
      exact ih (e' ▸ e)
end
section
variable {X:Cx} {cl:Nat → Str × List Str} {xt:XT} {nx:Nat} {body:List Stmt} {h₀:ExceptHandler} {hds:List ExceptHandler} {L:List XG} {l:List Clause} {pos:Pos} {fB:ASX}
end
section
variable {X:Cx} {cl:Nat → Str × List Str} {xt:XT} {a:Addr} {oe:Obj} {cls:Value} {d:Option Addr} {pn:List (Addr × Obj)} {pos np:Pos} {n f:Str} {i nx:Nat} {hit:Nat → Bool}
end
@[simp] theorem ev_fc {F:AF} {s:LS} {h:AH}:aFC F s h = F [] h:=id rfl
end Rp
end
section
namespace Rp
open PySem PySem.Spec PyProof.Rows L2
section
variable {prog:Program} {w:World} {A:Around} {E:Value → Shared → Prop} {s:Shared}
end
section
variable {X:Cx} {cl:Nat → Str × List Str} {pos:Pos} {es es':List Expr} {k n i:Nat} {gs:AGs}
end
end Rp
end
section
namespace Rp
open PySem PySem.Spec PyProof.Rows L2
variable {X:Cx} {cl:Nat → Str × List Str} {Φ:Ph} {a b:Expr} {f g:AE} {pos:Pos}
end Rp
end
section
namespace PySem
open PyProof.Rows
theorem _root_.HotX.HotAt.keep {A:Around} {x1:Addr} {h h':Heap} (hot:HotX.HotAt A x1 h) (k:∀ o,h.get? x1 = some o → h'.get? x1 = some o):HotX.HotAt A x1 h':=by
  obtain ⟨hh,o,vs,h1,d,c⟩:=hot
  exact ⟨hh,o,vs,k _ h1,d,c⟩
section
variable {prog:Program} {w:World} {A:Around} {E:Value → Shared → Prop} {s:Shared}
end
end PySem
namespace Rp
open PySem PySem.Spec PyProof.Rows L2
structure TurnH (aE:Addr) (oE:Obj) (P:Program) (w:World) (K:PySem.W.Frag) (tg:Expr) (J:It) (fp:List Addr) (it:Addr) (tn:Nat → Heap → Prop):Prop where
  mem:it ∈ fp
  obj:∀ i h,tn i h → ∀ b ∈ fp,∃ o,h.get? b = some o ∧ ∀ v,o.data ≠ .cell v
  keep:∀ i h h',tn i h → (∀ b ∈ fp,∀ o,h.get? b = some o → h'.get? b = some o) → tn i h'
  item:∀ (X:Cx),X.prog = P → X.w = w → X.K = K → ∀ (i:Nat) (pins:List (Addr × Obj)) (s:Shared) (σ:L2.St) (H:Hp) (E:Value → Shared → Prop),Inv X pins σ H s → (∀ b ∈ fp,FpOk X pins H b) → tn i s.heap → J.go i H →
    wpAny (model P w) X.A (pyNext (.ref it)) (fun r s1=>∃ u,r = some u ∧
      wpAny (model P w) X.A (letOwnedTupleGo tg (.ref it) u) (fun _ s2=>∃ x H',Inv X pins σ H' s2 ∧ RelV x u ∧ J.yld i H x H' ∧ tn (i + 1) s2.heap ∧ ∀ b ∈ fp,H' b = none) E s1) E s
  done:∀ (X:Cx),X.prog = P → X.w = w → X.K = K → X.A.handled = some (.ref aE) → ∀ (i:Nat) (pins:List (Addr × Obj)) (s:Shared) (σ:L2.St) (H:Hp) (E:Value → Shared → Prop),Inv X pins σ H s → (∀ b ∈ fp,FpOk X pins H b) → tn i s.heap → J.stop i H → H aE = some (exq aE oE) →
    wpAny (model P w) X.A (pyNext (.ref it)) (fun r s1=>r = none ∧ Inv X pins σ H s1) E s
  self:∀ (A:Around) (i:Nat) (s:Shared) (Q:Value → Shared → Prop) (E:Value → Shared → Prop),tn i s.heap → Q (.ref it) s → wpAny (model P w) A (pyIter (.ref it)) Q E s
def PIEH (aE:Addr) (oE:Obj) (X:Cx) (pins:List (Addr × Obj)) (σ:L2.St) (tg:Expr) (R:It → Hp → Prop) (itv:Value) (s2:Shared):Prop :=
  ∃ (it:Addr) (fp:List Addr) (tn:Nat → Heap → Prop) (J:It) (H':Hp),itv = .ref it ∧ Inv X pins σ H' s2 ∧ TurnH aE oE X.prog X.w X.K tg J fp it tn ∧ tn 0 s2.heap ∧ (∀ b ∈ fp,FpOk X pins H' b) ∧ R J H'
structure PIH (aE:Addr) (oE:Obj) (X:Cx) (tg iter:Expr) (wi:TI):Prop where
  run:∀ (pins:List (Addr × Obj)) (s:Shared) (σ:L2.St) (H:Hp) (R:It → Hp → Prop),Inv X pins σ H s → wi σ H R →
    wpAny (model X.prog X.w) X.A (eval iter X.env) (fun v s1=>wpAny (model X.prog X.w) X.A (pyIter v) (PIEH aE oE X pins σ tg R) X.xe s1) X.xe s
theorem PIH.wk {aE:Addr} {oE:Obj} {X:Cx} {tg e:Expr} {t t':TI} (h:PIH aE oE X tg e t) (hh:∀ σ H R,t' σ H R → t σ H R):PIH aE oE X tg e t':=⟨fun pins s σ H R I q=>h.run pins s σ H R I (hh _ _ _ q)⟩
end Rp
end
section
namespace Rp
open PySem PySem.Spec PyProof.Rows L2
section
variable {X:Cx} {cl:Nat → Str × List Str} {aE:Addr} {oE:Obj} {pos:Pos} {es:List Expr} {gs:AGs} {vs:List Nat}
end
section
variable {X:Cx} {cl:Nat → Str × List Str} {mk:Kd → List AV → AH → Option (AV × AH)} {src:ASrc} {g:AG} {t:AT} {f:AE} {vs:List Nat}
end
section
variable {X:Cx} {cl:Nat → Str × List Str} {Φ:Ph} {o e:Expr} {f:AE} {g:AA} {apos cpos:Pos}
end
structure FnE (P:Program) (w:World) (K:PySem.W.Frag) (mg:Str → Option Value) (base:Heap) (k:Nat) (f:Addr) (fd:FuncData) (ps:List Str) (sp:Addr → Sp):Prop where
  len:∀ a vs H Q E,sp a vs H Q E → vs.length = ps.length
  run:∀ (a:Addr) (A:Around) (outer:List Env) (s:Shared) (H:Hp) (args:Args) (us:List Value) (vs:List V) (Q:VK) (E:XK),L2H.RoomH k A → A.handled = some (.ref a) → Env0 P w K mg base A outer s H → BindsTo s fd args (ps.zip us) → Vals vs us → sp a vs H Q E →
    codeAny (model P w) A (.call (.ref f) args) (CR CX0 outer P w H s Q E) s
theorem FnE.mono {P:Program} {w:World} {K:PySem.W.Frag} {mg:Str → Option Value} {base:Heap} {j k:Nat} {f:Addr} {fd:FuncData} {ps:List Str} {sp:Addr → Sp} (F:FnE P w K mg base j f fd ps sp) (h:j ≤ k):FnE P w K mg base k f fd ps sp :=
  ⟨F.len,fun a A outer s H args us vs Q E hr=>F.run a A outer s H args us vs Q E (hr.mono h)⟩
section
variable {P:Program} {w:World} {K:PySem.W.Frag} {mg:Str → Option Value} {base:Heap} {cl:Nat → Str × List Str} {xt:XT} {x qual:Str} {params:Arguments} {body:List Stmt} {scope:Scope} {dvs:List V} {kws:List (Str × V)} {f:Addr} {fd:FuncData} {N ps:List Str} {k nx:Nat}
end
section
variable {X:Cx} {cl:Nat → Str × List Str} {xt:XT} {a:Addr} {oe:Obj} {cls:Value} {d:Option Addr} {pn:List (Addr × Obj)} {pos p np:Pos} {n y:Str} {i k nx c:Nat} {z:List (Str × V)} {F:Nat → AF}
end
end Rp
end
section
namespace Rp
open PySem PySem.Spec PyProof.Rows L2
section
variable {X:Cx} {cl:Nat → Str × List Str} {x y z:Str} {a b c:Expr} {g:AA} {px py pz pt pos:Pos}
end
end Rp
end
section
namespace Rp
open PySem PySem.Spec PyProof.Rows L2
def okA (f:AEX):AE:=fun s h=>(f s h).bind fun r=>match r.1 with
  | .ok v=>some (v,r.2)
  | .ex _ _=>none
section
variable {X:Cx} {cl:Nat → Str × List Str} {xt:XT} {e:Expr} {f:AEX} {s:LS} {h:AH}
@[simp] theorem ev_okA {v:AV} {h':AH} (e:f s h = some (.ok v,h')):okA f s h = some (v,h'):=by
  unfold okA
  rw [e]
  rfl
end
end Rp
end
section
namespace Rp
open PySem PySem.Spec PyProof.Rows L2
abbrev qLam (X:Cx):Str:=X.env.qual ++ "<lambda>"
structure LamAt (X:Cx) (pins:List (Addr × Obj)) (σ:L2.St) (H:Hp) (P:Addr) (params:Arguments) (body:Expr) (scope:Scope) (f z:Addr) (pm ctv:Value) (H1:Hp) (s1:Shared):Prop where
  inv:Inv X pins σ H1 s1
  keep:∀ b o,b ≠ P → H b = some o → H1 b = some o
  tab:LamX.TabS H1 P (qLam X)
  obj:s1.heap.get? f = some (PySem.W.kla_obj "<lambda>" (qLam X) params body scope (cloFrom X.env.cells scope.names []) pm z ctv)
  fn:H1 f = none
  fr:f ∉ frs X.stack
  cod:H1 z = some (LamX.CodeO z (qLam X))
  new:∀ b,H b ≠ none → H1 b ≠ none
section
variable {X:Cx} {pins:List (Addr × Obj)} {σ:L2.St} {H:Hp} {s:Shared}
theorem lam_at {P c:Addr} {params:Arguments} {body:Expr} {scope:Scope} {pos:Pos} {E Q:Value → Shared → Prop} (I:Inv X pins σ H s) (TB:LamX.TabB X.base X.mg c P) (hcode:X.env.code = .ref c) (T:LamX.TabS H P (qLam X)) (hdef:defaultsOf params X.env = ([],[]))
    (hfree:∀ y ∈ scope.names,y.2 = .free → ∃ c,X.env.cells.lookup y.1 = some c) (k:∀ f z pm ctv H1 s1,LamAt X pins σ H P params body scope f z pm ctv H1 s1 → Q (.ref f) s1) :
    wpAny (model X.prog X.w) X.A (eval (.Lambda params body scope pos) X.env) Q E s:=by
  obtain ⟨ps,hP,tr,am⟩:=T
  have bi:s.heap.BuiltinsAt X.mg P:=TB.bm.keeps I.bk
  have oP:s.heap.get? P = some { cls:=.none,data:=.fields ps }:=I.hok P _ hP
  have away:∀ f,s.heap.objs.size ≤ f → f ∉ frs X.stack:=fun f hf q=>by
    rcases List.mem_cons.mp (I.stkSub _ q) with e | e
    · have h1:=I.lt
      rw [← e] at h1
      exact Nat.lt_irrefl _ (Nat.lt_of_lt_of_le h1 hf)
    · exact I.nofs hf e
  have clo:=closure_ok hfree
  have gl:=I.mod.glob.keeps I.bk
  have cdh:=TB.code.keeps I.bk
  refine PySem.W.kla_eval hdef ?_
  rcases hit:codeAmong pos ps.toList with _ | cv
  · refine PySem.W.kla_makeFunction (mg:=X.mg) (c:=c) (P:=P) (ps:=ps) clo I.ok.glob gl hcode cdh oP tr hit TB.gP bi fun z ctv hp tk ext hge hlt hrec htb=>?_
    obtain ⟨z',oc,vs,t,ez,hoc,hd,hv⟩:=hrec
    cases ez
    have nz:H z = none:=I.hok.fresh hge
    have nP:P ≠ z:=fun e=>by rw [← e,hP] at nz; cases nz
    obtain ⟨pm,hpm⟩:∃ pm,(X.mg "__name__").getD .none = pm:=⟨_,rfl⟩
    rw [hpm]
    have J:=LamX.inv_table (t':=tk) (q:=qLam X) (c:=z) (more:=#[rawInt pos.line,rawInt pos.col,.ref z]) (h':=hp.push (PySem.W.kla_obj "<lambda>" (qLam X) params body scope (cloFrom X.env.cells scope.names []) pm z ctv)) I hP
      (fun b o hb e=>Heap.get?_push_of_some _ (ext b o hb e)) (Heap.get?_push_of_some _ htb) hge ⟨oc,vs,t,Heap.get?_push_of_some _ hoc,hd,hv⟩
    have kp:∀ b o,b ≠ P → H b = some o → upd (upd H P (.tbl (ps ++ #[rawInt pos.line,rawInt pos.col,.ref z]))) z (LamX.CodeO z (qLam X)) b = some o:=fun b o hb e=>by
      have hz:b ≠ z:=fun q=>by rw [q,nz] at e; cases e
      rw [upd_ne hz,upd_ne hb,e]
    have lst:(ps ++ #[rawInt pos.line,rawInt pos.col,.ref z]).toList = ps.toList ++ [rawInt pos.line,rawInt pos.col,.ref z]:=by simp
    refine k hp.objs.size z pm ctv _ _ ⟨J,kp,⟨_,by rw [upd_ne nP,upd_same],by rw [lst]; exact PySem.TriplesOk_snoc _ _ _ _ tr,fun p cv hc=>?_⟩,Heap.get?_push_size _ rfl,?_,away _ (Nat.le_trans hge (Nat.le_of_lt hlt)),upd_same,fun b hb=>?_⟩
    · rw [lst] at hc
      rcases LamX.among_app _ tr hc with y | y
      · obtain ⟨c0,e1,e2⟩:=am p cv y
        refine ⟨c0,e1,kp _ _ (fun q=>?_) e2⟩
        rw [q,hP] at e2
        unfold LamX.CodeO at e2
        cases e2
      · exact ⟨z,y,upd_same⟩
    · have l1:=Heap.lt_size oP
      have l2:s.heap.objs.size ≤ hp.objs.size:=Nat.le_trans hge (Nat.le_of_lt hlt)
      rw [upd_ne (Nat.ne_of_gt hlt),upd_ne (Nat.ne_of_gt (Nat.lt_of_lt_of_le l1 l2))]
      exact I.hok.fresh l2
    · by_cases q:b = z
      · rw [q,upd_same]; exact nofun
      · rw [upd_ne q]
        by_cases q2:b = P
        · rw [q2,upd_same]; exact nofun
        · rw [upd_ne q2]; exact hb
  · obtain ⟨z,ez,hz⟩:=am pos cv hit
    subst ez
    refine PySem.W.kla_makeFunctionHit (mg:=X.mg) (c:=c) (P:=P) (ps:=ps) clo I.ok.glob gl hcode cdh oP tr hit bi fun ctv hp tk ext hge=>?_
    obtain ⟨pm,hpm⟩:∃ pm,(X.mg "__name__").getD .none = pm:=⟨_,rfl⟩
    rw [hpm]
    have J:Inv X pins σ H { s with heap:=hp.push (PySem.W.kla_obj "<lambda>" (qLam X) params body scope (cloFrom X.env.cells scope.names []) pm z ctv),toks:=tk }:=I.kept fun b o e=>Heap.get?_push_of_some _ (ext b o e)
    exact k hp.objs.size z pm ctv H _ ⟨J,fun b o _ e=>e,⟨ps,hP,tr,am⟩,Heap.get?_push_size _ rfl,I.hok.fresh hge,away _ hge,hz,fun b e=>e⟩
end
abbrev lamCx (X:Cx) (A:Around) (outer:List Env) (s:Shared) (H:Hp) (E:XK) (scope:Scope) (f z:Addr):Cx :=
  (LamX.lamCx X A outer s H E scope f z).tr [] fun e s1=>wpAny (model X.prog X.w) (A.deeper (LamX.lamEnv X scope s.heap.objs.size f z)) («leaving» (LamX.lamEnv X scope s.heap.objs.size f z) e) (fun _ s2=>L2N.CX X.prog X.w outer H s E e s2) (fun e2 s2=>L2N.CX X.prog X.w outer H s E e2 s2) s1
theorem lam_takes {X:Cx} {A:Around} {outer:List Env} {s:Shared} {H:Hp} {E:XK} {scope:Scope} {f z:Addr}:L2N.Takes (lamCx X A outer s H E scope f z) (fun cls d _ H=>E cls d H):=L2N.takes_of rfl rfl rfl rfl
section
variable {X:Cx} {pins:List (Addr × Obj)} {σ:L2.St} {H H0:Hp} {s:Shared}
theorem pe_act {CXg:CXT} {Eg E:XK} {Ng:List Str} {qg:Str} {sg:Scope} {g f z P:Addr} {cdg pm ctv:Value} {params:Arguments} {body:Expr} {scope:Scope} {k i:Nat} {a:Str} {pn:List (Addr × Obj)} {xe:Value → Shared → Prop} {W:WX} {tb:TE} {p1 p2:Pos}
    (L:LamAt X pins σ H0 P params body scope f z pm ctv H s) (LS:LamX.LamS X.env.scope scope) (hbind:bindArgs (PySem.W.kla_fn "<lambda>" (qLam X) params body scope (cloFrom X.env.cells scope.names []) pm (.ref z) ctv) ⟨[],[]⟩ = pure [])
    (tk:L2N.Takes ((cxOf CXg X.prog X.w X.K X.mg X.base Ng qg sg g cdg X.A X.stack s H Eg).tr pn xe) W) (hr:Room (k + 1) (X.A.deeper (envOfC qg sg s.heap.objs.size g cdg)))
    (hbody:∀ (A:Around) (outer:List Env) (s:Shared) (H:Hp),Room k (A.deeper (LamX.lamEnv X scope s.heap.objs.size f z)) → PE (lamCx X A outer s H E scope f z) body tb)
    (hN:Ng[i]? = some a) (hv:Vis sg a) (hd:(a == ("__debug__" : Str)) = false:=by decide) (hcd:(a == ("__classdict__" : Str)) = false:=by decide) :
    PE ((cxOf CXg X.prog X.w X.K X.mg X.base Ng qg sg g cdg X.A X.stack s H Eg).tr pn xe) (.Call (.Name a p1) [] [] p2)
      (fun σZ HZ Q=>σZ[i]? = some (some (.ref f)) ∧ HZ z = some (LamX.CodeO z (qLam X)) ∧ (∀ cls d H',E cls d H' → W cls d σZ H') ∧ tb σ HZ Q):=by
  refine ⟨fun pinsZ sZ σZ HZ Q IZ ⟨hs,hc,hW,ht⟩=>?_⟩
  have name:=(pe_var (pos:=p1) (i:=i) hN hv hd hcd).run pinsZ sZ σZ HZ (fun v H1=>v = .ref f ∧ H1 = HZ) IZ ⟨.ref f,hs,rfl,rfl⟩
  refine wpAny_Call_Name_kw (thn name fun u s1 ⟨v,H1,I1,ru,ev,eH⟩=>?_)
  subst ev eH
  obtain rfl:u = Value.ref f:=ru
  have fo:=I1.base.keep f _ L.obj L.fn L.fr (fun q=>nomatch (show f ∈ ([]:List Addr) from q))
  obtain ⟨⟨oc,vs,t,hoc,hdc,hvc⟩,_,_⟩:=I1.hok z _ hc
  refine PySem.W.callWith_F0 ⟨_,_,_,_,fo⟩ (wpAny_call (codeAny_mono (?_:codeAny (model X.prog X.w) (X.A.deeper (envOfC qg sg s.heap.objs.size g cdg)) (.call (.ref f) ⟨[],[]⟩) (CR (L2N.CX X.prog X.w) (envOfC qg sg s.heap.objs.size g cdg :: X.stack) X.prog X.w H1 s1 Q E) s1) fun r s2 hq=>?_))
  · refine PySem.W.kla_callFunE hr.depth fo rfl LS.co LS.gen rfl ⟨z,oc,vs,t,rfl,hoc,hdc,hvc⟩ ?_
    rw [hbind]
    refine wpAny_pure (wpAny_newFunctionEnv (fun y hy=>(LS.own y hy).2) (fun y hy=>nomatch hy) (fun hp hns hsb=>⟨I1.nolimit.fresh _ hsb,?_⟩) LS.kind)
    have kp:∀ b o,s1.heap.get? b = some o → hp.get? b = some o:=fun b o e=>hsb.extBut b o (Nat.ne_of_lt (Heap.lt_size e)) (Heap.get?_push_of_some _ e)
    have J:=LamX.lam_start2 (A:=X.A.deeper (envOfC qg sg s.heap.objs.size g cdg)) (outer:=envOfC qg sg s.heap.objs.size g cdg :: X.stack) (E:=E) (scope:=scope) (f:=f) (c':=z) (tk:=s1.toks + ([]:List (Str × Value)).length) L.inv LS I1.env0 hr.hd I1.base hns kp
    have J2:Inv (lamCx X (X.A.deeper (envOfC qg sg s.heap.objs.size g cdg)) (envOfC qg sg s.heap.objs.size g cdg :: X.stack) s1 H1 E scope f z) [] σ H1 { s1 with heap:=hp,toks:=s1.toks + ([]:List (Str × Value)).length }:=J.toTry _
    exact PySem.W.kla_codeExpr (wpAny_mono ((hbody _ _ s1 H1 (hr.deeper _)).run [] _ _ H1 Q J2 ht) (fun v s2 ⟨w2,H2,J3,rv,q⟩=>⟨w2,H2,J3.os,J3.bare,J3.base,J3.hok,rv,q⟩) fun e s2 hq=>hq)
  · cases r with
    | error e=>exact tk e s2 (L2N.XE.of_call I1 hW hq)
    | ok fl =>
      cases fl with
      | ret u=>exact I1.after hq
      | next=>exact hq.elim
      | brk=>exact hq.elim
      | cont=>exact hq.elim
end
abbrev AskR:=Out → AH → Option (AV × AH)
structure AskF (P:Program) (w:World) (K:PySem.W.Frag) (mg:Str → Option Value) (base:Heap) (cl:Nat → Str × List Str) (xt:XT) (kc:Nat) (y:Str) (G:AskR):Prop where
  ex:∃ (g:Addr) (pg:Arguments) (bg:List Stmt) (sg:Scope) (dV kV doc pm:Value) (an:Option Addr) (cdv ct oc:Value) (od:Option Addr) (osl:Array (Option Value)) (Ng:List Str) (a:Str),
    mg y = some (.ref g) ∧ PySem.W.keepIn K (.ref g) = true ∧ K.lookup g = some ⟨oc,od,.func (PySem.W.fnOf y y pg bg sg dV kV doc pm an cdv ct),osl⟩ ∧ PySem.W.codeIn K cdv y = true ∧ L2.Binds K (PySem.W.fnOf y y pg bg sg dV kV doc pm an cdv ct) [a] [] ∧ FnScope Ng [a] sg ∧ Ng[0]? = some a ∧ Vis sg a ∧
    (a == ("__debug__" : Str)) = false ∧ (a == ("__classdict__" : Str)) = false ∧
    ∀ (A:Around) (st:List Env) (s:Shared) (H:Hp) (f z:Addr) (q:Str) (σ:L2.St) (fb:AEX) (w0:Wd) (sl:LS) (h h1 h2:AH) (o:Out) (v:AV) (Q:VK),
      RepS ⟨K,w,mg,cl⟩ w0 sl σ → SR ⟨K,w,mg,cl⟩ w0 H h → fb sl h = some (o,h1) → G o h1 = some (v,h2) → H z = some (LamX.CodeO z q) →
      (∀ (W:WX) (pn:List (Addr × Obj)) (xe:Value → Shared → Prop) (E:XK) (p1 p2:Pos),L2N.Takes ((cxOf CX0 P w K mg base Ng y sg g cdv A st s H E0).tr pn xe) W →
        PE ((cxOf CX0 P w K mg base Ng y sg g cdv A st s H E0).tr pn xe) (.Call (.Name a p1) [] [] p2)
          (fun σZ HZ Q=>σZ[0]? = some (some (.ref f)) ∧ HZ z = some (LamX.CodeO z q) ∧ (∀ cls d H',E cls d H' → W cls d σZ H') ∧ tAX ⟨K,w,mg,cl⟩ xt (fun cls d _ H=>E cls d H) fb σ HZ Q)) →
      (∀ w1 H1 u,Tr w0 H h w1 H1 h2 → SR ⟨K,w,mg,cl⟩ w1 H1 h2 → RepV ⟨K,w,mg,cl⟩ w1 v u → Q u H1) → Room kc (A.deeper (envOfC y sg s.heap.objs.size g cdv)) →
      ∃ t,PSs (cxOf CX0 P w K mg base Ng y sg g cdv A st s H E0).nox bg t ∧ t { nx:=fun _ H1=>Q .non H1,rt:=Q } (L2.start Ng [.ref f]) H
def aAsk (tn:Nat) (P:Addr) (q:Str) (G:AskR) (fb:AEX):AE:=fun s h=>if h.get tn = some (.cod P q,[]) then (fb s h).bind fun r=>G r.1 r.2 else none
theorem SR.lam {c:Ct} {w:Wd} {H H1:Hp} {h:AH} {tn:Nat} {P:Addr} {q:Str} (S:SR c w H h) (e:h.get tn = some (.cod P q,[])) (kp:∀ b o,b ≠ P → H b = some o → H1 b = some o) (T:LamX.TabS H1 P q) (nw:∀ b,H b ≠ none → H1 b ≠ none):SR c w H1 h ∧ Tr w H h w H1 h:=by
  obtain ⟨p,us,ep,⟨_,hpP,_⟩,_⟩:=S.cell tn _ _ e
  subst hpP
  have l0:(h.get tn).isSome = true:=by rw [e]; rfl
  have nR:w.R p = none:=S.sep tn p l0 ep
  refine ⟨⟨fun a o ha=>kp a o (fun z=>by rw [z,nR] at ha; cases ha) (S.le a o ha),fun n k xs en=>?_,S.inj,S.sep,S.nx⟩,.refl w,fun a o ha no=>kp a o (fun z=>no (.inr ⟨tn,l0,by rw [z]; exact ep⟩)) ha,fun a o=>.inl o,nw,fun a o u ha=>kp a _ (fun z=>?_) ha⟩
  · by_cases hn:n = tn
    · subst hn
      rw [e] at en
      cases en
      exact ⟨p,[],ep,⟨rfl,rfl,T⟩,rfl⟩
    · obtain ⟨p2,us2,e1,nm,r⟩:=S.cell n k xs en
      have hp:p2 ≠ p:=fun z=>hn (S.inj n tn p (by rw [en]; rfl) l0 (z ▸ e1) ep)
      obtain ⟨o2,ho⟩:=nm.there
      exact ⟨p2,us2,e1,nm.at ((kp p2 o2 hp ho).trans ho.symm) (fun b φ z=>kp b _ (fun y=>by
        subst y
        obtain ⟨_,_,ep',nm',_⟩:=S.cell tn _ _ e
        rw [ep] at ep'
        cases ep'
        exact nm'.noext φ z) z),r⟩
  · subst z
    obtain ⟨_,_,ep',⟨_,_,ps,eP,_⟩,_⟩:=S.cell tn _ _ e
    rw [eP] at ha
    cases ha
section
variable {X:Cx} {cl:Nat → Str × List Str} {xt:XT}
theorem ae_ask {x:Str} {c P:Addr} {tn k kc:Nat} {q:Str} {G:AskR} {fb:AEX} {params:Arguments} {body:Expr} {scope:Scope} {p lpos pos:Pos} (C:AskF X.prog X.w X.K X.mg X.base cl xt kc x G) (TB:LamX.TabB X.base X.mg c P) (hcode:X.env.code = .ref c)
    (hr:Room (max (kc + 1) (k + 2)) X.A) (hbody:∀ (A:Around) (outer:List Env) (s:Shared) (H:Hp) (E:XK) (f z:Addr),Room k (A.deeper (LamX.lamEnv X scope s.heap.objs.size f z)) → PE (lamCx X A outer s H E scope f z) body (tAX (ctX X cl) xt (fun cls d _ H=>E cls d H) fb))
    (hq:X.env.qual ++ "<lambda>" = q:=by rfl) (L:LamX.LamS X.env.scope scope:=by exact LamX.lamS_by (by rfl)) (hdef:defaultsOf params X.env = ([],[]):=by rfl)
    (hbind:∀ (q:Str) (cl:List (Str × Addr)) (pm cv ctv:Value),bindArgs (PySem.W.kla_fn "<lambda>" q params body scope cl pm cv ctv) ⟨[],[]⟩ = pure []:=by exact fun _ _ _ _ _=>rfl)
    (hg:Gl X x:=by rfl) (hdb:(x == ("__debug__" : Str)) = false:=by decide) :
    PE X (.Call (.Name x p) [.Lambda params body scope lpos] [] pos) (tA (ctX X cl) (aAsk tn P q G fb)):=by
  subst hq
  obtain ⟨g,pg,bg,sg,dV,kV,doc,pm,an,cdv,ct,oc,od,osl,Ng,a,hm,hk,lk,hcg,hb,Sg,hNg,hva,hd,hcd,hG⟩:=C.ex
  refine ⟨fun pins s σ H Q I ⟨w,sl,h,v,h2,rs,sr,e,kq⟩=>?_⟩
  unfold aAsk at e
  by_cases ht:h.get tn = some (.cod P (X.env.qual ++ "<lambda>"),[])
  · rw [if_pos ht] at e
    obtain ⟨⟨o,h1⟩,e1,e2⟩:=bind_some e
    obtain ⟨p0,us0,ep0,⟨_,hp0,T0⟩,_⟩:=sr.cell tn _ _ ht
    refine wpAny_Call_Name_kw (ld_glob I hg hm ?_ hdb)
    refine PySem.W.callWith_K (h₀:=X.base) I.ok.mod.kin hk ?_ (by rfl) (by rfl)
    show wpAny _ _ (spliced ((false,eval (.Lambda params body scope lpos) X.env) :: backTo pos (starEach [] X.env))) _ _ s
    refine Calls.spliced_cons (lam_at I TB hcode T0 hdef (L.has I.ok) fun f z pm2 ctv H1 s1 LA=>?_)
    refine Calls.spliced_nil ⟨LA.inv.kIn,?_⟩
    obtain ⟨S1,T1⟩:=sr.lam ht LA.keep LA.tab LA.new
    have rc:codeAny (model X.prog X.w) X.A (.call (.ref g) ⟨[.ref f],[]⟩) (CR CX0 X.stack X.prog X.w H1 s1 Q E0) s1:=by
      refine LamX.run_ofS (k:=max kc (k + 1)) (N:=Ng) (ps:=[a]) (us:=[.ref f]) (vs:=[.ref f]) lk hcg Sg (hr.mono (by omega)) LA.inv.env0 (hb s1 [.ref f] LA.inv.kIn rfl) (.cons rfl .nil) rfl fun hr' => ?_
      obtain ⟨t,ht1,ht2⟩:=hG X.A X.stack s1 H1 f z (qLam X) σ fb w sl h h1 h2 o v Q rs S1 e1 e2 LA.cod (fun W pn xe E p1 p2 tk=>pe_act (k:=k) (i:=0) LA L (hbind _ _ _ _ _) tk (hr'.mono (by omega)) (fun A outer s H hr2=>hbody A outer s H E f z hr2) hNg hva hd hcd) (fun w1 H2 u t1 s1 r1=>kq w1 H2 u (T1.trans t1) s1 r1) (hr'.mono (by omega))
      exact ⟨t,ht1.nox,ht2⟩
    refine wpAny_call (codeAny_mono rc fun r s2 hq=>?_)
    cases r with
    | error e=>exact (show False from hq).elim
    | ok fl =>
      cases fl with
      | ret u=>exact LA.inv.after hq
      | next=>exact hq.elim
      | brk=>exact hq.elim
      | cont=>exact hq.elim
  · rw [if_neg ht] at e; cases e
end
end Rp
end
section
namespace Rp
open PySem PySem.Spec PyProof.Rows L2
def askG (m nx:Nat) (told:Option Str) (L:List XCl):AskR:=fun o h=>match o with
  | .ok v=>(match told with
    | none=>some (v,h)
    | some t=>mkF .tup [.str t,v] h)
  | .ex c v=>if c < nx then fnK (runX L c v (List.replicate m none) h) else none
section
variable {P:Program} {w:World} {K:PySem.W.Frag} {mg:Str → Option Value} {base:Heap} {cl:Nat → Str × List Str} {xt:XT} {y:Str} {params:Arguments} {scope:Scope} {kws:List (Str × V)} {g:Addr} {fd:FuncData} {kc m nx:Nat} {a:Str} {Ng:List Str} {h₀:ExceptHandler} {hds:List ExceptHandler} {L:List XCl}
theorem reps_nones {c:Ct} {w:Wd} {σ:L2.St} {m:Nat} (h:σ.length = m):RepS c w (List.replicate m none) σ:=by
  refine ⟨by rw [List.length_replicate,h],fun j b e=>?_⟩
  rw [List.getElem?_replicate] at e
  split at e <;> cases e
theorem ask_end {ct:Ct} {w0:Wd} {sl:LS} {σ σ0:L2.St} {H:Hp} {h h1 h2:AH} {fb:AEX} {o:Out} {v:AV} {Q:VK} {W:WX} {told:Option Str} {R:VK} (rs:RepS ct w0 sl σ) (sr:SR ct w0 H h) (e1:fb sl h = some (o,h1)) (e2:askG m nx told L o h1 = some (v,h2))
    (k:∀ w1 H1 u,Tr w0 H h w1 H1 h2 → SR ct w1 H1 h2 → RepV ct w1 v u → Q u H1)
    (hR:∀ v1 w1 H1 u,(match told with
      | none=>some (v1,h1)
      | some t=>mkF .tup [.str t,v1] h1) = some (v,h2) → Tr w0 H h w1 H1 h1 → SR ct w1 H1 h1 → RepV ct w1 v1 u → R u H1)
    (hx:∀ c v1 w1 H1 cls d,c < nx → fnK (runX L c v1 (List.replicate m none) h1) = some (v,h2) → Tr w0 H h w1 H1 h1 → SR ct w1 H1 h1 → RepX ct xt w1 H1 c v1 cls d → W cls d σ0 H1) :
    tAX ct xt (fun cls d _ H' => W cls d σ0 H') fb σ H R:=by
  refine ⟨w0,sl,h,o,h1,rs,sr,e1,?_⟩
  cases o with
  | ok v1=>exact fun w1 H1 u t1 s1 r1=>hR v1 w1 H1 u e2 t1 s1 r1
  | ex c v1 =>
    intro w1 H1 cls d t1 s1 rx
    by_cases hc:c < nx
    · have e3:(if c < nx then fnK (runX L c v1 (List.replicate m none) h1) else none) = some (v,h2):=e2
      rw [if_pos hc] at e3
      exact hx c v1 w1 H1 cls d hc e3 t1 s1 rx
    · have e3:(if c < nx then fnK (runX L c v1 (List.replicate m none) h1) else none) = some (v,h2):=e2
      rw [if_neg hc] at e3
      cases e3
theorem ask_wish {X:Cx} {l:List Clause} {D:Ends} {σ0:L2.St} {Q:VK} {Wout:WX} {w0:Wd} {H:Hp} {h h1 h2:AH} {v:AV} (hk:ClsOk X cl xt nx (h₀ :: hds) L l) (hm:σ0.length = m) (hD:D.rt = Q) (hn:D.nx = fun _ H' => Q .non H')
    (k:∀ w1 H1 u,Tr w0 H h w1 H1 h2 → SR (ctX X cl) w1 H1 h2 → RepV (ctX X cl) w1 v u → Q u H1) {c:Nat} {v1:AV} {w1:Wd} {H1:Hp} {cls:Value} {d:Option Addr} (hc:c < nx) (e:fnK (runX L c v1 (List.replicate m none) h1) = some (v,h2))
    (t1:Tr w0 H h w1 H1 h1) (s1:SR (ctX X cl) w1 H1 h1) (rx:RepX (ctX X cl) xt w1 H1 c v1 cls d):wishN X.K Wout D l cls d σ0 H1:=by
  obtain ⟨⟨r,h3⟩,er,e'⟩:=bind_some e
  cases r with
  | nx s =>
    cases e'
    refine hk.wish hc er s1 (reps_nones hm) rx fun w2 H2 t2 s2 σ2 _=>?_
    rw [hn]
    exact k w2 H2 .non (t1.trans t2) s2 rfl
  | rt u =>
    cases e'
    refine hk.wish hc er s1 (reps_nones hm) rx fun w2 H2 t2 s2 u2 r2=>?_
    rw [hD]
    exact k w2 H2 u2 (t1.trans t2) s2 r2
  | _=>cases e'
theorem ask_none {p1 p2 p3 p4:Pos} (F:FunD K y y params [.Try [.Return (some (.Call (.Name a p1) [] [] p2)) p3] (h₀ :: hds) [] [] p4] scope [] kws g fd) (hm:mg y = some (.ref g)) (hb:L2.Binds K fd [a] []) (S:FnScope Ng [a] scope) (hm2:Ng.length = m) (h0:Ng[0]? = some a) (hv:Vis scope a) (hd:(a == ("__debug__" : Str)) = false) (hcd:(a == ("__classdict__" : Str)) = false) (hst:∀ f:Addr,(L2.start Ng [V.ref f])[0]? = some (some (V.ref f)) ∧ (L2.start Ng [V.ref f]).length = m)
    (hk:∀ (cdv:Value) (A:Around) (st:List Env) (s:Shared) (H:Hp),Room kc (A.deeper (envOfC y scope s.heap.objs.size g cdv)) → ∃ l,ClsOk (cxOf CX0 P w K mg base Ng y scope g cdv A st s H E0).nox cl xt nx (h₀ :: hds) L l) :
    AskF P w K mg base cl xt kc y (askG m nx none L):=by
  have kp:=F.kp
  obtain ⟨oc,od,dV,kV,doc,pm,an,cdv,ct,osl,rfl,lk,hcg,_,_⟩:=F.ex
  refine ⟨g,params,_,scope,dV,kV,doc,pm,an,cdv,ct,oc,od,osl,Ng,a,hm,kp,lk,hcg,hb,S,h0,hv,hd,hcd,fun A st s H f z q σ fb w0 sl h h1 h2 o v Q rs sr e1 e2 hz act k hr=>?_⟩
  obtain ⟨l,hl⟩:=hk cdv A st s H hr
  obtain ⟨Z,hZ⟩:∃ Z,(cxOf CX0 P w K mg base Ng y scope g cdv A st s H E0).nox = Z:=⟨_,rfl⟩
  let σ0:=L2.start Ng [V.ref f]
  have tk:L2N.Takes (cxOf CX0 P w K mg base Ng y scope g cdv A st s H E0).nox (fun _ _ _ _=>False):=fun u s' ⟨_,_,_,_,_,_,_,_,_,_,_,_,_,_,_,_,z⟩=>z.elim
  refine ⟨_,pss_one (ps_tryN (X:=(cxOf CX0 P w K mg base Ng y scope g cdv A st s H E0).nox) (tb:=fun W D σZ HZ=>σZ = σ0 ∧ HZ = H ∧ tAX ⟨K,w,mg,cl⟩ xt (fun cls d _ H' => W cls d σ0 H') fb σ H D.rt) rfl rfl S.nd tk (fun W pn xe tk2 _=>?_) hl.hdsN),?_⟩
  · refine (pss_one (ps_ret (act W pn xe (fun cls d H' => W cls d σ0 H') p1 p2 tk2))).wk fun D σZ HZ ⟨q1,q2,q3⟩=>?_
    subst q1 q2
    exact ⟨(hst f).1,hz,fun _ _ _ q=>q,q3⟩
  · exact ⟨rfl,rfl,ask_end rs sr e1 e2 k (fun v1 w1 H1 u e t1 s1 r1=>by cases e; exact k w1 H1 u t1 s1 r1) fun c v1 w1 H1 cls d hc e t1 s1 rx=>ask_wish hl (hst f).2 rfl rfl k hc e t1 s1 rx⟩
end
section
variable {tn:Nat} {P:Addr} {q:Str} {G:AskR} {fb:AEX} {s:LS} {h h':AH} {m nx:Nat} {told:Option Str} {L:List XCl} {v:AV} {c:Nat}
theorem ev_ask {r:Out × AH} (ht:h.get tn = some (.cod P q,[])) (e:fb s h = some r):aAsk tn P q G fb s h = G r.1 r.2:=by
  unfold aAsk
  rw [if_pos ht,e]
  rfl
theorem askG_none:askG m nx none L (.ok v) h = some (v,h):=rfl
theorem askG_ex (hc:c < nx):askG m nx told L (.ex c v) h = fnK (runX L c v (List.replicate m none) h):=if_pos hc
end
theorem law_spT {K:PySem.W.Frag} {w:World} {mg:Str → Option Value} {cl:Nat → Str × List Str} {F:AF} {H:Hp} {a P:Addr} {q:Str} {ns:List Int} {h':AH} {E:XK} (hP:H P = some (.tbl #[])) (hS:SqL K H a (ns.map V.int))
    (e:F [.nod .scr (ns.map .int)] ⟨fun n=>if n = 0 then some (.cod P q,[]) else none,1,fun n hn=>if_neg (by omega)⟩ = some (.bl true,h')) {Q:VK} (k:∀ H',Q (.bl true) H'):spA ⟨K,w,mg,cl⟩ 1 F [.ref a] H Q E:=by
  have hS':SqL K (fun b=>if b = P then none else H b) a (ns.map V.int):=by
    rcases hS with hS | hS
    · refine .inl ?_
      rcases hS with hS | ⟨o,hS⟩
      · exact .inl ((if_neg (fun z=>by rw [z,hP] at hS; cases hS)).trans hS)
      · exact .inr ⟨o,(if_neg (fun z=>by rw [z,hP] at hS; cases hS)).trans hS⟩
    · exact .inr hS
  refine ⟨⟨fun n=>if n = 0 then some P else none,fun b=>if b = P then none else H b⟩,_,[.nod .scr (ns.map .int)],.bl true,h',rfl,.cons ⟨a,ns.map V.int,rfl,hS',RepL.mk_ints⟩ .nil,⟨fun b o z=>?_,fun n k xs z=>?_,fun n n2 p z1 z2 _ _=>?_,fun n p z1 z2=>?_,fun n p z=>?_⟩,e,fun w' H' u _ _ r=>?_⟩
  · have z':(if b = P then none else H b) = some o:=z
    by_cases hb:b = P
    · rw [if_pos hb] at z'; cases z'
    · rw [if_neg hb] at z'; exact z'
  · have z':(if n = 0 then some (Kd.cod P q,([]:List AV)) else none) = some (k,xs):=z
    by_cases hn:n = 0
    · rw [if_pos hn] at z'
      cases z'
      exact ⟨P,[],if_pos hn,⟨rfl,rfl,LamX.TabS.nil hP⟩,rfl⟩
    · rw [if_neg hn] at z'; cases z'
  · have k0:∀ n:Nat,((if n = 0 then some (Kd.cod P q,([]:List AV)) else none).isSome = true) → n = 0:=fun n h=>by
      by_cases hn:n = 0
      · exact hn
      · rw [if_neg hn] at h; cases h
    rw [k0 n z1,k0 n2 z2]
  · have z':(if n = 0 then some P else none) = some p:=z2
    by_cases hn:n = 0
    · rw [if_pos hn] at z'
      cases z'
      exact if_pos rfl
    · rw [if_neg hn] at z'; cases z'
  · have z':(if n = 0 then some P else none) = some p:=z
    by_cases hn:n = 0
    · rw [hn]; exact Nat.one_pos
    · rw [if_neg hn] at z'; cases z'
  · rw [show u = V.bl true from r]
    exact k H'
end Rp
end
section
namespace Rp
open PySem PySem.Spec PyProof.Rows L2
section
variable {X:Cx} {k n:Nat} {f:Addr} {fd:FuncData} {ps ks:List Str} {sp:Sp} {W:WX} {x:Str} {p pos:Pos} {e:Expr} {es:List Expr} {kws:List Keyword} {t tk:TA} {g:List Value → List Value → List Value} {gV:List V → List V → List V}
end
section
variable {X:Cx} {cl:Nat → Str × List Str} {xt:XT} {W:WX} {e:Expr} {es:List Expr} {kws:List Keyword} {g gk:AA} {x:Str} {p pos:Pos} {k n N:Nat} {ks:List Str} {F:AFX} {das:List AV}
end
section
variable {X:Cx} {cl:Nat → Str × List Str} {xt:XT} {W:WX} {a b:Expr} {rest:List Expr} {f g:AEX} {ge:AE} {pos:Pos}
end
section
variable {s:LS} {h h1 h2:AH} {n k N:Nat} {F:AFX} {g gk:AA} {as zs das:List AV} {o:AV → AV → AH → Option (AV × AH)} {f:AEX} {ge:AE} {c:Nat} {v a b:AV}
end
end Rp
end
section
namespace Rp
open PySem PySem.Spec PyProof.Rows L2
section
variable {P:Program} {w:World} {K:PySem.W.Frag} {mg:Str → Option Value} {base:Heap} {cl:Nat → Str × List Str} {x qual:Str} {params:Arguments} {body:List Stmt} {scope:Scope} {dvs:List V} {kws:List (Str × V)} {f:Addr} {fd:FuncData} {N ps:List Str} {k:Nat}
theorem fn_okL {c:Addr} (F:FunD K x qual params body scope dvs kws f fd) (hc:fd.code = .ref c) (S:FnScope N ps scope) (m n:Nat) (hm:N.length = m) (hn:ps.length = n) (fA:AS)
    (hb:∀ (A:Around) (outer:List Env) (s:Shared) (H:Hp) (E:XK),Room k (cxOf CX0 P w K mg base N qual scope f (.ref c) A outer s H E).nox.A → (cxOf CX0 P w K mg base N qual scope f (.ref c) A outer s H E).nox.A.units + 64 < cLine →
      PSs (cxOf CX0 P w K mg base N qual scope f (.ref c) A outer s H E).nox body (tS ⟨K,w,mg,cl⟩ fA)):FnOk P w K mg base CX0 (k + 1) f fd ps (spA ⟨K,w,mg,cl⟩ n (lenF n (fnA m fA))):=by
  obtain ⟨oc,od,dV,kV,doc,pm,an,cdv,ct,osl,rfl,lk,hcd,_,_⟩:=F.ex
  obtain rfl:cdv = .ref c:=hc
  exact fn_of lk hcd S (fun vs H Q E h=>by
    obtain ⟨w',h',as,v,h1,hl,l,_⟩:=h
    rw [← l.len,hl,hn]) fun A outer s H vs Q E hr hsp=>⟨_,PSs.nox (hb A outer s H E hr hr.units),fnA_end hm hsp⟩
end
def lamB (K:PySem.W.Frag) (x:Str):Bool:=match PySem.W.tabIn K x with
  | some (_,P)=>(K.lookup P).isNone
  | none=>false
theorem lamB_ok {K:PySem.W.Frag} {x:Str} (h:lamB K x = true):∃ c P,PySem.W.tabIn K x = some (c,P) ∧ K.lookup P = none:=by
  unfold lamB at h
  split at h
  · rename_i c P e
    exact ⟨c,P,e,by simpa using h⟩
  · cases h
theorem walk_lam {l:PySem.W.OpenLaw} {n k:Nat} {q:Program} {loose:List Str} {XP:(Str → Option Value) → Heap → Prop} {YP:World → Heap → Prop} {d d0:DefRec} {x:Str} (hn:l.most = some n) (hn2:n ≤ sizeLine) (hdf:d.params.defaults = []) (hr:Room k callerA) (hd0:(recsOf q).find? (fun e=>e.name == d.name) = some d0)
    (F:∀ (w:World) (mg:Str → Option Value) (fa:Addr) (h:Heap),YP w h → h.Ns mainGlobals mg → mg d.name = some (.ref fa) → ∃ (K:PySem.W.Frag) (fd:FuncData) (sp:Sp) (c P:Addr),K.In h ∧ PySem.W.tabIn K d.name = some (c,P) ∧ K.lookup P = none ∧
      (∀ (s:Shared) (u:Value),BindsTo s fd ⟨[u],[]⟩ [(x,u)]) ∧
      (∀ (H:Hp) (a:Addr) (ns:List Int),ns.length ≤ n → H P = some (.tbl #[]) → SqL K H a (ns.map V.int) → sp [.ref a] H (fun v _=>v = .bl true) fun _ _ _=>False) ∧
      ∀ base:Heap,K.In base → base.Ns mainGlobals mg → LamX.TabB base mg c P → FnOk l.prog w K mg base CX0 k fa fd [x] sp) :
    PySem.W.WalkO q loose XP YP l.row.toRowW d [] (fun f vs=>PySem.call f vs):=by
  refine Att.attach_callB hn hdf fun w s0 s1 mg mb fa o pm cd doc a vs ns G Y ho hd hcd hmg hobj hints hlen hbits hg=>?_
  obtain ⟨K,fd,sp,c,P,KX,ht,hP,hb,hsp,hF⟩:=F w mg fa _ Y G.T.g hmg
  obtain ⟨cdh,tab⟩:=PySem.W.tab_of G.T KX hd0 ht
  have one:∀ {φ:Addr × Addr → Prop},φ (c,P) → ∀ p ∈ [(c,P)],φ p:=fun h p hp=>by rw [List.mem_singleton] at hp; rw [hp]; exact h
  exact LamX.law_callTs (cs:=[(c,P)]) KX G.T.g G.T.b G.T.builtins G.T.nolimit hg (one tab) (one hP) (one cdh) G.T.bmain hobj hints (Nat.le_trans hlen hn2) hr (fun base h1 h2 h3=>hF base h1 h2 (h3 (c,P) List.mem_cons_self)) hb (fun H hH hS=>hsp H a ns hlen (hH (c,P) List.mem_cons_self) hS) fun _ _ _ z=>z
end Rp
end
section
namespace Rp
open PySem PySem.Spec PyProof.Rows L2
section
variable {X:Cx} {cl:Nat → Str × List Str} {xt:XT} {W:WX} {a:Expr} {f:AEX} {pos:Pos} {s:LS} {h h1:AH} {b:Bool} {c:Nat} {v:AV}
end
end Rp
end
section
namespace Rp
open PySem PySem.Spec PyProof.Rows L2
section
variable {X:Cx} {cl:Nat → Str × List Str} {xt:XT} {W:WX} {tg iter:Expr} {body:List Stmt} {src:ASrc} {g:AG} {b:ASX} {pos:Pos}
end
section
variable {X:Cx} {cl:Nat → Str × List Str} {xt:XT} {W:WX} {c0:Expr} {body:List Stmt} {t:AT} {b:ASX} {pos:Pos}
end
end Rp
end
section
namespace Rp
open PySem PySem.Spec PyProof.Rows L2
def tVeI (K:PySem.W.Frag) (ta:TA):TE:=fun σ H Q=>ta σ H fun vs H1=>∃ (a C:Addr) (ws:List V),vs = .ref a :: ws ∧ ws.length ≤ 1000 ∧ OexG K C He.veBase "ValueError.__new__" ∧ H1 a = some (exo a C none) ∧ Q .non H1
def tOsV (K:PySem.W.Frag) (f:Str) (to te:TE):TS:=fun D σ H=>te σ H fun y H1=>to σ H1 fun x H2=>∃ a C:Addr,x = .ref a ∧ OexG K C He.veBase "ValueError.__new__" ∧ PySem.W.findIn K (.ref C) f = some none ∧
  H2 a = some (exo a C none) ∧ ∀ dx,H2 dx = none → dx ≠ a → D.nx σ (upd (upd H2 dx (exd dx [(f,y)])) a (exo a C (some dx)))
def VeC (K:PySem.W.Frag) (mg:Str → Option Value) (y:Str) (RE:Addr):Prop:=mg y = some (.ref RE) ∧ ClX.CRead K RE (.type "type") ∧ PySem.W.findCls K (.ref RE) (.type "type") "__init__" = some (.val (.builtin "ValueError.__init__"))
section
variable {X:Cx} {o e:Expr} {es:List Expr} {to te:TE} {ta:TA} {f y:Str} {p p' p1 p2 pos:Pos} {RE:Addr}
theorem pe_veinit {pl:Sem Bool} (V:VeC X.K X.mg y RE) (hg:Gl X y) (ha:PA X (e :: es) ta)
    (hc:eval (.Call (.Attribute (.Name y p1) "__init__" p2) (e :: es) [] pos) X.env = (do
      let ov ← eval (.Name y p1) X.env
      standAt p2.atName
      let (f,first) ← holding [ov] (getMethod ov "__init__" pl)
      callWith pos f first (backTo pos (starEach (e :: es) X.env)) (backToKw pos (keywordEach [] X.env))):=by rfl)
    (he:starEach (e :: es) X.env = (false,eval e X.env) :: starEach es X.env:=by rfl) (hpl:(backTo pos (starEach es X.env)).any (·.1) = false:=by rfl) (hdb:(y == ("__debug__" : Str)) = false:=by decide) :
    PE X (.Call (.Attribute (.Name y p1) "__init__" p2) (e :: es) [] pos) (tVeI X.K ta):=by
  obtain ⟨hm,r,vV⟩:=V
  have pc:PE X (.Name y p1) (tC (.ref RE)):=pe_glob hg hm rfl hdb
  refine ⟨fun pins s σ H Q I h=>?_⟩
  refine PySem.W.methodCall_KW (pl:=pl) (thn (pc.run pins s σ H (fun v H1=>v = .ref RE ∧ H1 = H) I ⟨rfl,rfl⟩) fun u s1 ⟨x,H1,I1,rx,ex,eH⟩=>?_) hc
  subst ex
  subst eH
  obtain rfl:u = Value.ref RE:=rx
  refine PySem.W.method_cls I1.kIn r.ga (PySem.W.cls_value I1.kIn r.rd vV (by decide +kernel) ?_)
  show wpAny _ _ (callWith pos (Value.builtin "ValueError.__init__") [] (backTo pos (starEach (e :: es) X.env)) []) _ _ _
  refine PyProof.Rows.callWith_method1 (thn (ha.run pos pins _ σ H1 _ (I1.tok _) h) fun us s2 ⟨vs,H2,I2,r1,a,C,ws,ev,hl,T,ea,q⟩=>?_) he hpl
  subst ev
  cases r1 with
  | @cons _ u0 _ ur ra rw' =>
    obtain rfl:u0 = Value.ref a:=ra
    have hlen:ur.length ≤ sizeLine:=by
      rw [← Paired.length rw',sizeLine_eq]
      omega
    exact oinitG F.excBase_ValueError T I2 ea hlen fun s' J=>⟨.non,H2,J,rfl,q⟩
theorem ps_osV (ho:PE X o to) (he:PE X e te) (hs:swapsWith e (some (.Attribute o f p')) pos.line X.env = pure false:=by rfl):PS X (.Assign [.Attribute o f p'] e pos) (tOsV X.K f to te):=by
  refine ⟨fun pins s σ H D I h=>?_⟩
  refine plainObj_wpAny_Assign_Attribute (thn (he.run pins s σ H _ I h) fun v s1 ⟨y,H1,I1,r1,q1⟩=>thn (ho.run pins s1 σ H1 _ I1 q1) fun u s2 ⟨x,H2,I2,r2,a,C,ex,T,hno,ea,q⟩=>?_) hs
  subst ex
  obtain rfl:u = Value.ref a:=r2
  exact ostG_new F.store_ValueError T I2 ea hno r1 fun dx s' n ne J=>⟨σ,_,J,q dx n ne⟩
end
def spVi (K:PySem.W.Frag) (fl:Str):Sp:=fun vs H Q _=>∃ a C v,vs = [.ref a,v] ∧ OexG K C He.veBase "ValueError.__new__" ∧ PySem.W.findIn K (.ref C) fl = some none ∧ H a = some (exo a C none) ∧ okV v ∧
  ∀ dx,H dx = none → dx ≠ a → Q .non (upd (upd H dx (exd dx [(fl,v)])) a (exo a C (some dx)))
section
variable {X:Cx} {cl:Nat → Str × List Str} {xt:XT} {W:WX} {x fl:Str} {p pos pos':Pos} {e:Expr} {fe:AE} {k c:Nat} {C fI:Addr} {fd:FuncData} {ps:List Str}
theorem xs_raiseV (hcx:X.calm = true) (tk:L2N.Takes X W) (hxt:xt c = (C,some fl)) (T:OexG X.K C He.veBase "ValueError.__new__") (hno:PySem.W.findIn X.K (.ref C) fl = some none) (iC:PySem.W.findIn X.K (.ref C) "__init__" = some (some (.ref fI))) (tI:PySem.W.typeIn X.K (.ref fI) = some (.type "function"))
    (F1:FnOk X.prog X.w X.K X.mg X.base CX0 k fI fd ps (spVi X.K fl)) (hr:Room (k + 1) X.A) (hb:Binds X.K fd ps []) (hg:Gl X x) (hm:X.mg x = some (.ref C)) (he:PE X e (tA (ctX X cl) fe))
    (hx:Passes CX0 X (fun _ _ _=>False):=by exact pass0)
    (hdb:(x == ("__debug__" : Str)) = false:=by decide) (hst:starEach [e] X.env = (false,eval e X.env) :: starEach [] X.env:=by rfl) (hpl:(backTo pos (starEach [] X.env)).any (·.1) = false:=by rfl) :
    PS X (.Raise (some (.Call (.Name x p) [e] [] pos)) none pos') (tX (ctX X cl) xt W (xRaise c fe)):=by
  refine (L2N.ps_raise hcx tk (pmk_oexG F.excBase_ValueError T iC tI F1 hr hb .nil hx hg hm (pa_cons he pa_nil hst) hdb hst hpl)).wk fun D σ H q=>?_
  obtain ⟨w,s,h,r,h',rs,sr,e,kk⟩:=q
  obtain ⟨⟨av,h1⟩,e1,e⟩:=bind_some e
  by_cases ok:okArg av = true
  · have e':(if okArg av = true then some (ARX.ex c av s,h1) else none) = some (r,h'):=e
    rw [if_pos ok] at e'
    cases e'
    refine ⟨w,s,h,av,h',rs,sr,e1,fun w1 H1 u t1 s1 r1=>⟨by simp,fun a ha=>?_⟩⟩
    refine ⟨a,C,u,rfl,T,hno,upd_same,okArg_V ok r1,fun dx hdx hne=>⟨rfl,dx,[(fl,u)],upd_same,?_,?_,?_⟩⟩
    · rw [upd_ne hne,upd_same]
    · rw [upd_ne hne] at hdx; exact hdx
    · have hd1:H1 dx = none:=by rw [upd_ne hne] at hdx; exact hdx
      have eH:upd (del (upd (upd (upd H1 a (exo a C none)) dx (exd dx [(fl,u)])) a (exo a C (some dx))) a) dx (.xd [(fl,u)]) = upd H1 dx (.xd [(fl,u)]):=by
        funext b
        by_cases q1:b = dx
        · rw [q1,upd_same,upd_same]
        · rw [upd_ne q1,upd_ne q1]
          by_cases q2:b = a
          · rw [q2,del_same,ha]
          · rw [del_ne q2,upd_ne q2,upd_ne q1,upd_ne q2]
      show W (.ref C) (some dx) σ _
      rw [eH]
      obtain ⟨s3,t3⟩:=s1.frozen (p:=dx) (o:=.xd [(fl,u)]) hd1
      refine kk _ _ σ _ _ (t1.trans t3) s3 (rs.le (t1.trans t3).le) ⟨by rw [hxt],?_⟩
      rw [hxt]
      exact ⟨dx,u,rfl,upd_same,upd_same,RepV.le t3.le _ _ r1⟩
  · have e':(if okArg av = true then some (ARX.ex c av s,h1) else none) = some (r,h'):=e
    rw [if_neg ok] at e'
    cases e'
end
def tVi (K:PySem.W.Frag) (fl m:Str):TS:=tSeq (tDrop (tVeI K (tCons (tVar 0) (tCons (fun σ H Q=>tJs [tC (.str m),tFmt (tVar 1)] Str.empty σ H fun out H1=>Q (.str out) H1) tNil)))) (tSeq (tOsV K fl (tVar 0) (tVar 1)) tNext)
theorem vi_end {K:PySem.W.Frag} {fl m:Str} {vs:List V} {H:Hp} {Q:VK} {E:XK} (hm:m.length ≤ 1000) (q:spVi K fl vs H Q E):tVi K fl m { nx:=fun _ H' => Q .non H',rt:=Q } (L2.start ["self",fl] vs) H:=by
  obtain ⟨a,C,v,rfl,T,hno,ea,ok,k⟩:=q
  have fin:tOsV K fl (tVar 0) (tVar 1) { nx:=fun _ H' => Q .non H',rt:=Q } (L2.start ["self",fl] [.ref a,v]) H :=
    ⟨v,rfl,.ref a,rfl,a,C,rfl,T,hno,ea,k⟩
  have e0:(Str.empty:Str).length = 0:=by decide +kernel
  have hz:∀ a b:Str,(a ++ b).length = a.length + b.length:=fun a b=>by
    have l:∀ x:Str,x.length = x.cps.toList.length:=fun x=>(Array.length_toList (xs:=x.cps)).symm
    rw [l,l a,l b,show (a ++ b).cps.toList = a.cps.toList ++ b.cps.toList from Array.toList_append,List.length_append]
  have z1:(Str.empty ++ m).length ≤ sizeLine:=by rw [hz,e0,sizeLine_eq]; omega
  refine ⟨.ref a,rfl,m,rfl,z1,v,rfl,?_⟩
  rcases ok with ⟨y,rfl,hy⟩ | ⟨i,rfl,hi,hy⟩
  · have z2:((Str.empty ++ m) ++ y).length ≤ sizeLine:=by rw [hz,hz,e0,sizeLine_eq]; omega
    exact .inl ⟨y,rfl,by rw [sizeLine_eq]; omega,y,rfl,z2,a,C,_,rfl,by simp,T,ea,fin⟩
  · have z2:((Str.empty ++ m) ++ (toString i:Str)).length ≤ sizeLine:=by rw [hz,hz,e0,sizeLine_eq]; omega
    exact .inr ⟨i,rfl,hi,_,rfl,z2,a,C,_,rfl,by simp,T,ea,fin⟩
section
variable {P:Program} {w:World} {K:PySem.W.Frag} {mg:Str → Option Value} {base:Heap} {x qual fl:Str} {params:Arguments} {body:List Stmt} {scope:Scope} {dvs:List V} {kws:List (Str × V)} {f:Addr} {fd:FuncData} {k:Nat}
theorem vi_ok {m:Str} (F:FunD K x qual params body scope dvs kws f fd) (S:FnScope ["self",fl] ["self",fl] scope) (hm:m.length ≤ 1000)
    (hb:∀ (cdv:Value) (A:Around) (outer:List Env) (s:Shared) (H:Hp) (E:XK),PSs (cxOf CX0 P w K mg base ["self",fl] qual scope f cdv A outer s H E) body (tVi K fl m)):FnOk P w K mg base CX0 (k + 1) f fd ["self",fl] (spVi K fl):=by
  refine F.ok S (fun vs H Q E h=>?_) (fun cdv A outer s H vs Q E hr h=>⟨_,hb cdv A outer s H E,vi_end hm h⟩)
  obtain ⟨a,C,v,rfl,_⟩:=h
  rfl
end
section
variable {X:Cx} {m fl y:Str} {j:Nat} {RE:Addr} {p1 p2 p3 p4 p5 p6 p7 p8 p9 q1 q2 q3 q4:Pos}
theorem vi_body {pl:Sem Bool} (V:VeC X.K X.mg y RE) (hN0:X.N[0]? = some ("self" : Str)) (hN1:X.N[1]? = some fl) (v0:Vis X.env.scope "self") (v1:Vis X.env.scope fl) (hg:Gl X y)
    (hdb:(y == ("__debug__" : Str)) = false:=by decide) (hd:(fl == ("__debug__" : Str)) = false:=by decide) (hcd:(fl == ("__classdict__" : Str)) = false:=by decide)
    (hc:eval (.Call (.Attribute (.Name y p1) "__init__" p2) [.Name "self" p3,.JoinedStr [.Constant (.str m) j p4,.FormattedValue (.Name fl p5) (-1) none p6] p7] [] p8) X.env = (do
      let ov ← eval (.Name y p1) X.env
      standAt p2.atName
      let (f,first) ← holding [ov] (getMethod ov "__init__" pl)
      callWith p8 f first (backTo p8 (starEach [.Name "self" p3,.JoinedStr [.Constant (.str m) j p4,.FormattedValue (.Name fl p5) (-1) none p6] p7] X.env)) (backToKw p8 (keywordEach [] X.env))):=by rfl)
    (hs1:swapsWith (.Call (.Attribute (.Name y p1) "__init__" p2) [.Name "self" p3,.JoinedStr [.Constant (.str m) j p4,.FormattedValue (.Name fl p5) (-1) none p6] p7] [] p8) none p9.line X.env = pure false:=by rfl)
    (hs2:swapsWith (.Name fl q3) (some (.Attribute (.Name "self" q1) fl q2)) q4.line X.env = pure false:=by rfl) :
    PSs X [.Expr (.Call (.Attribute (.Name y p1) "__init__" p2) [.Name "self" p3,.JoinedStr [.Constant (.str m) j p4,.FormattedValue (.Name fl p5) (-1) none p6] p7] [] p8) p9,.Assign [.Attribute (.Name "self" q1) fl q2] (.Name fl q3) q4] (tVi X.K fl m) :=
  pss_cons (ps_expr (pe_veinit V hg (pa_cons (pe_var hN0 v0) (pa_cons (pe_joined (.cons pe_str (.cons (pe_fmt (pe_var hN1 v1 hd hcd)) .nil))) pa_nil)) hc rfl rfl hdb) hs1)
    (pss_cons (ps_osV (pe_var hN0 v0) (pe_var hN1 v1 hd hcd) hs2) pss_nil)
end
def XFactV (P:Program) (w:World) (K:PySem.W.Frag) (mg:Str → Option Value) (base:Heap) (xt:XT) (c:Nat) (x fl:Str):Prop:=∃ C fI fd ps,xt c = (C,some fl) ∧ mg x = some (.ref C) ∧ OexG K C He.veBase "ValueError.__new__" ∧ PySem.W.findIn K (.ref C) fl = some none ∧
  PySem.W.findIn K (.ref C) "__init__" = some (some (.ref fI)) ∧ PySem.W.typeIn K (.ref fI) = some (.type "function") ∧ FnOk P w K mg base CX0 1 fI fd ps (spVi K fl) ∧ Binds K fd ps []
def XV (K:PySem.W.Frag) (mg:Str → Option Value) (C fI:Addr) (x fl:Str):Prop:=mg x = some (.ref C) ∧ OexG K C He.veBase "ValueError.__new__" ∧ XfC K C ∧ PySem.W.findIn K (.ref C) fl = some none ∧ PySem.W.findIn K (.ref C) "__init__" = some (some (.ref fI)) ∧ PySem.W.typeIn K (.ref fI) = some (.type "function")
section
variable {X:Cx} {cl:Nat → Str × List Str} {xt:XT} {W:WX} {x fl:Str} {p pos pos':Pos} {e:Expr} {fe:AE} {c:Nat}
theorem xs_raiseFV (h:XFactV X.prog X.w X.K X.mg X.base xt c x fl) (hcx:X.calm = true) (tk:L2N.Takes X W) (hr:Room 2 X.A) (he:PE X e (tA (ctX X cl) fe)) (hg:Gl X x:=by rfl)
    (hdb:(x == ("__debug__" : Str)) = false:=by decide) (hst:starEach [e] X.env = (false,eval e X.env) :: starEach [] X.env:=by rfl) (hpl:(backTo pos (starEach [] X.env)).any (·.1) = false:=by rfl) :
    PS X (.Raise (some (.Call (.Name x p) [e] [] pos)) none pos') (tX (ctX X cl) xt W (xRaise c fe)):=by
  obtain ⟨C,fI,fd,ps,h1,h2,h3,h4,h5,h6,h7,h8⟩:=h
  exact xs_raiseV hcx tk h1 h3 h4 h5 h6 h7 hr h8 hg h2 he pass0 hdb hst hpl
end
def oexVB (K:PySem.W.Frag) (C:Addr):Bool:=PySem.W.excInitIn K C He.veBase "ValueError.__new__" && (PySem.W.excOver K C He.veBase && ((match PySem.W.clsIn K C with
  | some cd=>cd.hasDict
  | none=>false) && (He.eqO (PySem.W.findIn K (.ref C) "__setattr__") (some (some (.builtin "object.__setattr__"))) && (decide (PySem.W.subIn K (.ref C) (.type "BaseException") = some true) && (decide (PySem.W.typeIn K (.ref C) = some (.type "type")) && PySem.W.keepIn K (.ref C))))))
theorem oexVB_ok {K:PySem.W.Frag} {C:Addr} (h:oexVB K C = true):OexG K C He.veBase "ValueError.__new__" := by
  unfold oexVB at h
  simp only [Bool.and_eq_true] at h
  obtain ⟨h1,h2,h3,h4,h5,h6,h7⟩:=h
  refine ⟨h1,h2,?_,He.eqO_ok h4,of_decide_eq_true h5,of_decide_eq_true h6,h7⟩
  cases e:PySem.W.clsIn K C with
  | none=>rw [e] at h3; cases h3
  | some cd=>rw [e] at h3; exact ⟨cd,rfl,h3⟩
def xvB (K:PySem.W.Frag) (C:Addr) (fl:Str):Bool:=oexVB K C && (xfB K C && (He.eqO (PySem.W.findIn K (.ref C) fl) (some none) && (He.eqO (PySem.W.findIn K (.ref C) "__init__") (some (some (.ref (He.ma K C "__init__")))) && decide (PySem.W.typeIn K (.ref (He.ma K C "__init__")) = some (.type "function")))))
theorem xvB_ok {K:PySem.W.Frag} {C:Addr} {fl:Str} (h:xvB K C fl = true):OexG K C He.veBase "ValueError.__new__" ∧ XfC K C ∧ PySem.W.findIn K (.ref C) fl = some none ∧ PySem.W.findIn K (.ref C) "__init__" = some (some (.ref (He.ma K C "__init__"))) ∧ PySem.W.typeIn K (.ref (He.ma K C "__init__")) = some (.type "function"):=by
  unfold xvB at h
  simp only [Bool.and_eq_true] at h
  obtain ⟨h1,h2,h3,h4,h5⟩:=h
  exact ⟨oexVB_ok h1,xfB_ok h2,He.eqO_ok h3,He.eqO_ok h4,of_decide_eq_true h5⟩
def clsBfB (K:PySem.W.Frag) (C:Addr) (m:Str) (r:String):Bool:=PySem.W.readsIn K C (.type "type") && (He.eqO (PySem.W.specialIn K (.ref C) "__getattribute__") (some (some (.builtin "type.__getattribute__"))) && (match PySem.W.findCls K (.ref C) (.type "type") m with
  | some (.val (.builtin x))=>decide (x = r)
  | _=>false))
theorem clsBfB_ok {K:PySem.W.Frag} {C:Addr} {m:Str} {r:String} (h:clsBfB K C m r = true):ClX.CRead K C (.type "type") ∧ PySem.W.findCls K (.ref C) (.type "type") m = some (.val (.builtin r)):=by
  unfold clsBfB at h
  simp only [Bool.and_eq_true] at h
  obtain ⟨h1,h2,h3⟩:=h
  refine ⟨⟨h1,He.eqO_ok h2⟩,?_⟩
  split at h3
  · rename_i x e
    rw [e,of_decide_eq_true h3]
  · cases h3
end Rp
end
section
namespace Rp
open PySem PySem.Spec PyProof.Rows L2
section
variable {X:Cx} {cl:Nat → Str × List Str} {xt:XT} {W:WX} {e:Expr} {es:List Expr} {kws:List Keyword} {g gk:AA} {x:Str} {p pos:Pos} {k n N:Nat} {ks:List Str} {F:AFX} {mid post:List AV}
end
section
variable {s:LS} {h h1 h2:AH} {n k:Nat} {F:AFX} {g gk:AA} {as zs mid post:List AV}
end
end Rp
end
section
namespace Rp
open PySem PySem.Spec PyProof.Rows L2
section
variable {X:Cx} {cl:Nat → Str × List Str} {pos p:Pos} {e:Expr} {g:AA}
end
section
variable {X:Cx} {cl:Nat → Str × List Str} {xt:XT} {W:WX} {pos p:Pos} {e:Expr} {gs:AAX}
end
end Rp
end
section
namespace Rp
open PySem PySem.Spec PyProof.Rows L2
section
variable {s:LS} {h h':AH} {g:AG} {B:ASX} {xs:List AV} {G:Grd} {src:ASrc} {t:AT} {m:LS → AH → Nat}
end
end Rp
end
section
namespace Rp
open PySem PySem.Spec PyProof.Rows L2
end Rp
end
section
namespace Rp
open PySem PySem.Spec PyProof.Rows L2
section
variable {X:Cx} {cl:Nat → Str × List Str} {pos p:Pos} {e:Expr} {g:AA}
end
end Rp
end
section
namespace Rp
open PySem PySem.Spec PyProof.Rows L2
section
variable {X:Cx} {cl:Nat → Str × List Str} {apos cpos:Pos} {o e:Expr} {f:AE} {g:AA}
end
section
variable {X:Cx} {cl:Nat → Str × List Str} {xt:XT} {W:WX} {c0:Expr} {body:List Stmt} {t:ATX} {b:ASX} {pos:Pos}
end
end Rp
end
section
namespace Rp
open PySem PySem.Spec PyProof.Rows L2
def SetT (P:Program) (w:World) (h:Heap) (a:Addr) (l:List Str):Prop :=
  ∃ D:Froz.SD,h.get? a = some (Froz.sObj "set" D) ∧ Froz.TxOk P w D l ∧ l.Nodup ∧ Ris D.2.2.place.toList ∧ (w.params.followText "set-order" = true ∨ D.2.2.led = true)
section
variable {P:Program} {w:World} {A:Around} {E:Value → Shared → Prop} {s:Shared}
set_option maxHeartbeats 3200000 in
end
theorem SetT.at {P:Program} {w:World} {h h':Heap} {a:Addr} {l:List Str} (T:SetT P w h a l) (k:∀ o,h.get? a = some o → h'.get? a = some o):SetT P w h' a l:=by
  obtain ⟨D,ho,r⟩:=T
  exact ⟨D,k _ ho,r⟩
def SetTO (P:Program) (w:World) (a:Addr) (l:List Str):HO:=.ext fun h=>SetT P w h a l
def rSetL (P:Program) (w:World) (K:PySem.W.Frag):List V → Hp → VK → Prop:=fun xs H Q=>∃ (p:Addr) (ys:List Str),xs = [.ref p] ∧ SqL K H p (ys.map V.str) ∧ ys.length ≤ 4000 ∧ ∀ (a:Addr) (l:List Str),H a = none → l.Nodup → l.length ≤ ys.length → (∀ y,y ∈ l ↔ y ∈ ys) → Q (.ref a) (upd H a (SetTO P w a l))
section
variable {X:Cx} {cl:Nat → Str × List Str} {pos p p2 q2:Pos} {e:Expr} {g:AA}
end
end Rp
end
section
namespace Rp
open PySem PySem.Spec PyProof.Rows L2
section
variable {X:Cx} {cl:Nat → Str × List Str} {pos p:Pos} {e:Expr} {g:AA}
end
end Rp
end
section
namespace Rp
open PySem PySem.Spec PyProof.Rows L2
section
variable {X:Cx} {cl:Nat → Str × List Str} {o e e2:Expr} {f:AE} {g:AA} {apos cpos:Pos}
end
end Rp
end
section
namespace Rp
open PySem PySem.Spec PyProof.Rows L2
end Rp
end
section
namespace Rp
open PySem PySem.Spec PyProof.Rows L2
end Rp
end
section
namespace Rp
open PySem PySem.Spec PyProof.Rows L2
section
variable {X:Cx} {body suite:List Stmt} {b₀:Stmt} {x1 x2:Str} {c1 c2:Value} {ts:TS} {kk:Nat} {p1 p2 tp pos pos':Pos} {tb:WX → TS} {Wout:WX}
end
section
variable {X:Cx} {cl:Nat → Str × List Str} {xt:XT} {nx:Nat} {body suite:List Stmt} {b₀:Stmt} {x1 x2:Str} {c1 c2:Value} {g:AS} {kk:Nat} {p1 p2 tp pos pos':Pos} {fB:ASX}
end
section
variable {X:Cx} {cl:Nat → Str × List Str} {apos cpos:Pos} {o e:Expr} {f:AE} {g:AA}
end
end Rp
end
section
namespace Rp
open PySem PySem.Spec PyProof.Rows L2
section
variable {P:Program} {w:World} {K:PySem.W.Frag} {mg:Str → Option Value} {base:Heap} {x qual:Str} {params:Arguments} {body:List Stmt} {scope:Scope} {dvs:List V} {kws:List (Str × V)} {f:Addr} {fd:FuncData} {N ps:List Str} {cl:Nat → Str × List Str} {k:Nat}
end
section
variable {X:Cx} {cl:Nat → Str × List Str} {e:Expr} {es:List Expr} {g:AA} {x:Str} {p pos:Pos} {k n:Nat} {F:AF} {das:List AV}
end
section
variable {X:Cx} {cl:Nat → Str × List Str} {e:Expr} {g:AA} {p pos:Pos}
end
end Rp
end
section
namespace Rp
open PySem PySem.Spec PyProof.Rows L2
section
variable {X:Cx} {cl:Nat → Str × List Str} {a:Expr} {f:AE} {p p2 q pos:Pos}
end
end Rp
end
section
namespace Rp
open PySem PySem.Spec PyProof.Rows L2
section
variable {P:Program} {w:World} {K:PySem.W.Frag} {mg mb:Str → Option Value} {CX:CXT} {k:Nat} {fa a:Addr} {fd:FuncData} {x:Str} {sp:Sp} {t:Shared} {vs:List Value} {ns:List Int}
end
end Rp
end
section
namespace Rp
open PySem PySem.Spec PyProof.Rows L2
end Rp
end
section
namespace Rp
open PySem PySem.Spec PyProof.Rows L2
section
variable {X:Cx} {cl:Nat → Str × List Str} {C g:Addr} {n:Nat} {sp:Sp} {e:Expr} {pos:Pos}
end
end Rp
end
section
namespace PySem
open Sem (wp)
abbrev SZip (h:Heap) (z TI TO:Addr) (f0:Value):Prop :=
  h.get? z = some { cls:=.type "zip",dict:=none,data:=.fields #[f0,.bool false,.bool true,.ref TI,.ref TO],slots:=#[] }
section
variable {prog:Program} {w:World} {A:Around} {E:Value → Shared → Prop} {s:Shared} {fp:List Addr} {it:Addr} {n i:Nat} {P:Nat → Value → Prop} {St:Nat → Heap → Prop}
theorem Draws.orItem {Q:Option Value → Shared → Prop} (D:Draws prog w A.in1 it fp n P St) (hi:i < n) (st:St i s.heap)
    (h:∀ x h' tk,P i x → St (i + 1) h' → Heap.SameBut it s.heap h' → Q (some x) { s with heap:=h',toks:=tk }) :
    wpAny (model prog w) A.in1 (Builtin.SmallTypes.nextOrEnd (.ref it)) Q E s:=by
  unfold Builtin.SmallTypes.nextOrEnd
  exact wpAny_bind (wpAny_attempt (D.item i s _ _ hi st fun x h' tk px sn sb=>wpAny_pure (h x h' tk px sn sb)))
theorem Draws.orEnd {Q:Option Value → Shared → Prop} (D:Draws prog w A.in1 it fp n P St) (st:St n s.heap)
    (h:∀ h',Heap.ExtBut it s.heap h' → Q none { s with heap:=h' }) :
    wpAny (model prog w) A.in1 (Builtin.SmallTypes.nextOrEnd (.ref it)) Q E s:=by
  unfold Builtin.SmallTypes.nextOrEnd
  refine wpAny_bind (wpAny_attempt (D.done s _ _ st fun h' e hk he=>?_))
  obtain ⟨o,ho,hc⟩:=he
  refine wpAny_bind (wpAny_isInstance (T := "StopIteration") (b:=true) ⟨o,ho,hc⟩ isSubtype_stop ?_)
  exact wpAny_pure (h _ hk)
theorem stops {α:Type} {Q:α → Shared → Prop} (hh:A.handled = none)
    (h:∀ h' e,(∀ c o,s.heap.get? c = some o → h'.get? c = some o) → (∃ o,h'.get? e = some o ∧ o.cls = .type "StopIteration") → E (.ref e) { s with heap:=h' }) :
    wpAny (model prog w) A (Builtin.SmallTypes.stopIteration (α:=α)) Q E s:=by
  obtain ⟨hp,g,d,tk,os⟩:=s
  show wpAny _ _ (newExc (.type "StopIteration") [] >>= _) _ _ _
  refine wpAny_bind ?_
  simp only [newExc,newTuple]
  refine wpAny_bind (wpAny_newObj_type ?_ (by size_fits))
  refine wpAny_bind (m:=firstArgMember _ _) (wpAny_of_eq (a:=Value.none) (by first | rfl | (simp only [firstArgMember]; rfl)) ?_)
  refine wpAny_newObj_type ?_ (by size_fits)
  simp only [raiseNew]
  refine wpAny_bind (wpAny_handled ?_)
  rw [hh]
  refine wpAny_bind (wpAny_pure (wpAny_throw ?_))
  exact h _ _ (fun c o e=>Heap.get?_push_of_some _ (Heap.get?_push_of_some _ e)) ⟨_,Heap.get?_push_size _ rfl,rfl⟩
end
section
variable {prog:Program} {w:World} {A:Around} {E:Value → Shared → Prop} {s:Shared} {z TI TO i1 i2:Addr} {fp1 fp2:List Addr} {n i:Nat} {P1 P2:Nat → Value → Prop} {St1 St2:Nat → Heap → Prop} {a1 a2:Value}
theorem szip_item {Q:Value → Shared → Prop} (S:ZipSep2 z TI TO i1 i2 fp1 fp2) (D1:Draws prog w A.in1 i1 fp1 n P1 St1) (D2:Draws prog w A.in1 i2 fp2 n P2 St2)
    (hz:SZip s.heap z TI TO .none) (hTI:IsTupOf2 s.heap TI (.ref i1) (.ref i2)) (hTO:IsTupOf2 s.heap TO a1 a2) (st1:St1 i s.heap) (st2:St2 i s.heap) (hi:i < n)
    (hQ:∀ x1 x2 h' tk,P1 i x1 → P2 i x2 → SZip h' z TI TO (rawInt s.heap.objs.size) → IsTupOf2 h' TO x1 x2 → St1 (i + 1) h' → St2 (i + 1) h' → IsTupOf2 h' s.heap.objs.size x1 x2 → h'.objs.size = s.heap.objs.size + 1 →
      (∀ c o,c ≠ z → c ≠ TO → c ≠ i1 → c ≠ i2 → s.heap.get? c = some o → h'.get? c = some o) → Q (.ref s.heap.objs.size) { s with heap:=h',toks:=tk }) :
    wpAny (model prog w) A.in1 (Builtin.«zip.__next__» ⟨[.ref z],[]⟩) (fun fin s' => ∃ v,fin = .done (.ret v) ∧ Q v s') E s:=by
  obtain ⟨hp,g,d,t0,os⟩:=s
  replace hz:SZip hp z TI TO .none:=hz
  show wpAny _ _ (field (.ref z) 2 >>= _) _ _ _
  refine wpAny_bind (wpAny_field (s:=⟨hp,g,d,t0,os⟩) hz rfl (x:=.bool true) rfl ?_)
  show wpAny _ _ (field (.ref z) 3 >>= _) _ _ _
  refine wpAny_bind (wpAny_field (s:=⟨hp,g,d,t0,os⟩) hz rfl (x:=.ref TI) rfl (wpAny_bind (wpAny_seqItems hTI rfl ?_)))
  show wpAny _ _ (Builtin.SmallTypes.ownedTupleIsFree (.ref z) >>= _) _ _ _
  refine wpAny_bind ?_
  unfold Builtin.SmallTypes.ownedTupleIsFree
  refine wpAny_bind (wpAny_field (s:=⟨hp,g,d,t0,os⟩) hz rfl (x:=.none) rfl (wpAny_pure ?_))
  simp only [if_true]
  refine wpAny_bind (wpAny_rule (wpAny_bind (wpAny_field (s:=⟨hp,g,d,t0,os⟩) hz rfl (x:=.ref TO) rfl (wpAny_bind (wpAny_setField_rec (s:=⟨hp,g,d,t0,os⟩) hz (by simp) fun u0 z0 k0=>?_)))))
  replace z0:SZip u0 z TI TO .ellipsis:=z0
  replace k0:Heap.SameBut z hp u0:=k0
  refine wpAny_bind ?_
  simp only [List.zipIdx_cons,List.zipIdx_nil,List.forIn_cons,List.forIn_nil]
  refine wpAny_bind (wpAny_bind (wpAny_onRaise ?_))
  show wpAny _ _ (Builtin.SmallTypes.nextOrEnd (.ref i1)) _ _ ⟨u0,g,d,t0,os⟩
  refine D1.orItem hi (D1.over st1 k0 S.zf1) fun x1 v1 t1 px1 sn1 m1=>?_
  replace m1:Heap.SameBut i1 u0 v1:=m1
  have o1:IsTupOf2 v1 TO a1 a2:=m1.extBut _ _ S.Ti1 (k0.extBut _ _ S.TOz hTO)
  refine wpAny_bind (wpAny_seqItems (s:=⟨v1,g,d,t1,os⟩) o1 rfl (wpAny_bind (updateSeq_IsTupOf2 (s:=⟨v1,g,d,t1,os⟩) o1 fun u1 T1 k1=>?_)))
  replace T1:IsTupOf2 u1 TO x1 a2:=T1
  replace k1:Heap.SameBut TO v1 u1:=k1
  refine wpAny_bind (wpAny_letGo (wpAny_pure ?_))
  refine wpAny_bind (wpAny_bind (wpAny_onRaise ?_))
  show wpAny _ _ (Builtin.SmallTypes.nextOrEnd (.ref i2)) _ _ ⟨u1,g,d,t1,os⟩
  refine D2.orItem hi (D2.over (D2.over (D2.over st2 k0 S.zf2) m1 S.sep1_2) k1 S.Tf2) fun x2 v2 t2 px2 sn2 m2=>?_
  replace m2:Heap.SameBut i2 u1 v2:=m2
  have o2:IsTupOf2 v2 TO x1 a2:=m2.extBut _ _ S.Ti2 T1
  refine wpAny_bind (wpAny_seqItems (s:=⟨v2,g,d,t2,os⟩) o2 rfl (wpAny_bind (updateSeq_IsTupOf2 (s:=⟨v2,g,d,t2,os⟩) o2 fun u2 T2 k2=>?_)))
  replace T2:IsTupOf2 u2 TO x1 x2:=T2
  replace k2:Heap.SameBut TO v2 u2:=k2
  refine wpAny_bind (wpAny_letGo (wpAny_pure (wpAny_pure ?_)))
  refine wpAny_bind (wpAny_seqItems (s:=⟨u2,g,d,t2,os⟩) T2 rfl (wpAny_bind (wpAny_newTuple ?_)))
  have sz:u2.objs.size = hp.objs.size:=by rw [k2.1,m2.1,k1.1,m1.1,k0.1]
  have zE:SZip u2 z TI TO .ellipsis:=k2.extBut _ _ S.TOz.symm (m2.extBut _ _ S.zi2 (k1.extBut _ _ S.TOz.symm (m1.extBut _ _ S.zi1 z0)))
  have j1:St1 (i + 1) u2:=D1.over (D1.over (D1.over sn1 k1 S.Tf1) m2 S.sep2_1) k2 S.Tf1
  have j2:St2 (i + 1) u2:=D2.over sn2 k2 S.Tf2
  have zl:u2.objs.size ≠ z:=Nat.ne_of_gt (Heap.lt_size zE)
  show wpAny _ _ (Builtin.SmallTypes.ownedTupleHandOut (.ref z) (.ref u2.objs.size) >>= _) _ _ ⟨u2.push { cls:=.type "tuple",data:=.seq #[x1,x2] },g,d,t2,os⟩
  refine wpAny_bind ?_
  unfold Builtin.SmallTypes.ownedTupleHandOut
  have zP:SZip (u2.push { cls:=.type "tuple",data:=.seq #[x1,x2] }) z TI TO .ellipsis:=Heap.get?_push_of_some _ zE
  refine wpAny_bind (wpAny_setField_rec (s:=⟨_,g,d,t2,os⟩) zP (by simp) fun u3 z3 k3=>?_)
  replace z3:SZip u3 z TI TO (rawInt u2.objs.size):=z3
  replace k3:Heap.SameBut z (u2.push { cls:=.type "tuple",data:=.seq #[x1,x2] }) u3:=k3
  refine wpAny_setField_rec (s:=⟨u3,g,d,t2,os⟩) z3 (by simp) fun u4 z4 k4=>?_
  replace z4:SZip u4 z TI TO (rawInt u2.objs.size):=z4
  replace k4:Heap.SameBut z u3 u4:=k4
  have up:∀ c o,c ≠ z → u2.get? c = some o → u4.get? c = some o:=fun c o c1 e=>k4.extBut _ _ c1 (k3.extBut _ _ c1 (Heap.get?_push_of_some _ e))
  have tN:IsTupOf2 u4 u2.objs.size x1 x2:=k4.extBut _ _ zl (k3.extBut _ _ zl (Heap.get?_push_size _ rfl))
  have s4:u4.objs.size = u2.objs.size + 1:=by rw [k4.1,k3.1,Heap.size_push]
  rw [sz] at z4 tN s4
  refine wpAny_pure ⟨_,rfl,?_⟩
  show Q (.ref u2.objs.size) ⟨u4,g,d,t2,os⟩
  rw [sz]
  exact hQ x1 x2 u4 t2 px1 px2 z4 (up _ _ S.TOz T2) (D1.frame _ _ _ j1 fun b hb o e=>up b o (fun q=>S.zf1 (q ▸ hb)) e) (D2.frame _ _ _ j2 fun b hb o e=>up b o (fun q=>S.zf2 (q ▸ hb)) e) tN s4
    fun c o cz cT c1 c2 e=>up c o cz (k2.extBut _ _ cT (m2.extBut _ _ c2 (k1.extBut _ _ cT (m1.extBut _ _ c1 (k0.extBut _ _ cz e)))))
theorem szip_end {Q:Fin → Shared → Prop} (hh:A.handled = none) (S:ZipSep2 z TI TO i1 i2 fp1 fp2) (D1:Draws prog w A.in1 i1 fp1 n P1 St1) (D2:Draws prog w A.in1 i2 fp2 n P2 St2)
    (hz:SZip s.heap z TI TO .none) (hTI:IsTupOf2 s.heap TI (.ref i1) (.ref i2)) (st1:St1 n s.heap) (st2:St2 n s.heap)
    (hE:∀ h' e,(∀ c o,c ≠ z → c ≠ TO → c ≠ i1 → c ≠ i2 → s.heap.get? c = some o → h'.get? c = some o) → (∃ o,h'.get? e = some o ∧ o.cls = .type "StopIteration") → E (.ref e) { s with heap:=h' }) :
    wpAny (model prog w) A.in1 (Builtin.«zip.__next__» ⟨[.ref z],[]⟩) Q E s:=by
  obtain ⟨hp,g,d,t0,os⟩:=s
  replace hz:SZip hp z TI TO .none:=hz
  show wpAny _ _ (field (.ref z) 2 >>= _) _ _ _
  refine wpAny_bind (wpAny_field (s:=⟨hp,g,d,t0,os⟩) hz rfl (x:=.bool true) rfl ?_)
  show wpAny _ _ (field (.ref z) 3 >>= _) _ _ _
  refine wpAny_bind (wpAny_field (s:=⟨hp,g,d,t0,os⟩) hz rfl (x:=.ref TI) rfl (wpAny_bind (wpAny_seqItems hTI rfl ?_)))
  show wpAny _ _ (Builtin.SmallTypes.ownedTupleIsFree (.ref z) >>= _) _ _ _
  refine wpAny_bind ?_
  unfold Builtin.SmallTypes.ownedTupleIsFree
  refine wpAny_bind (wpAny_field (s:=⟨hp,g,d,t0,os⟩) hz rfl (x:=.none) rfl (wpAny_pure ?_))
  simp only [if_true]
  refine wpAny_bind (wpAny_rule (wpAny_bind (wpAny_field (s:=⟨hp,g,d,t0,os⟩) hz rfl (x:=.ref TO) rfl (wpAny_bind (wpAny_setField_rec (s:=⟨hp,g,d,t0,os⟩) hz (by simp) fun u0 z0 k0=>?_)))))
  replace z0:SZip u0 z TI TO .ellipsis:=z0
  replace k0:Heap.SameBut z hp u0:=k0
  refine wpAny_bind ?_
  simp only [List.zipIdx_cons,List.zipIdx_nil,List.forIn_cons,List.forIn_nil]
  refine wpAny_bind (wpAny_bind (wpAny_onRaise ?_))
  show wpAny _ _ (Builtin.SmallTypes.nextOrEnd (.ref i1)) _ _ ⟨u0,g,d,t0,os⟩
  refine D1.orEnd (D1.over st1 k0 S.zf1) fun q1 m1=>?_
  replace m1:Heap.ExtBut i1 u0 q1:=m1
  have zq:SZip q1 z TI TO .ellipsis:=m1 _ _ S.zi1 z0
  refine wpAny_bind (wpAny_setField_rec (s:=⟨q1,g,d,t0,os⟩) zq (by simp) fun u1 z1 k1=>?_)
  replace k1:Heap.SameBut z q1 u1:=k1
  refine wpAny_bind (wpAny_bind ?_)
  simp only [List.drop_succ_cons,List.drop_zero,List.zipIdx_cons,List.zipIdx_nil,List.forIn_cons,List.forIn_nil]
  have st2':St2 n u1:=D2.over (D2.frame _ _ _ (D2.over st2 k0 S.zf2) fun b hb o e=>m1 _ _ (fun q=>S.sep1_2 (q ▸ hb)) e) k1 S.zf2
  refine wpAny_bind (wpAny_bind (D2.orEnd (s:=⟨u1,g,d,t0,os⟩) st2' fun q2 m2=>?_))
  replace m2:Heap.ExtBut i2 u1 q2:=m2
  refine wpAny_pure (wpAny_pure ?_)
  refine wpAny_bind (wpAny_rule (stops hh fun q3 e m3 he=>?_))
  exact hE q3 e (fun c o cz cT c1 c2 x=>m3 _ _ (m2 _ _ c2 (k1.extBut _ _ cz (m1 _ _ c1 (k0.extBut _ _ cz x))))) he
end
end PySem
end
section
namespace PySem
open Sem (wp)
section
variable {prog:Program} {w:World} {A:Around} {E:Value → Shared → Prop} {s:Shared}
theorem szip_letGo {elts:List Expr} {x1} {pos:Pos} {z TI TO T:Addr} {Q:Unit → Shared → Prop} (hz:SZip s.heap z TI TO (rawInt T))
    (h:∀ h',SZip h' z TI TO .none → Heap.SameBut z s.heap h' → Q () { s with heap:=h' }) :
    wpAny (model prog w) A (letOwnedTupleGo (.Tuple elts x1 pos) (.ref z) (.ref T)) Q E s:=by
  unfold letOwnedTupleGo
  refine wpAny_bind (wpAny_load hz ?_)
  show wpAny _ _ (if (["enumerate", "zip", "dict_itemiterator", "dict_reverseitemiterator", "odict_iterator", "itertools.zip_longest", "itertools.pairwise"].contains "zip" &&
      (#[rawInt T,.bool false,.bool true,.ref TI,.ref TO]:Array Value)[0]? == some (rawInt T)) = true then _ else _) Q E s
  rw [if_pos (by simp)]
  refine wpAny_bind (wpAny_rule ?_)
  show wpAny _ _ (setField (.ref z) 0 .none) Q E s
  exact wpAny_setField_rec hz (by simp) fun h' hz' hs' => h h' hz' hs'
theorem szip_iter {z TI TO:Addr} {f0:Value} {Q:Value → Shared → Prop} (hz:SZip s.heap z TI TO f0) (h:Q (.ref z) s):wpAny (model prog w) A (pyIter (.ref z)) Q E s:=by
  have hT:s.TypeIs (.ref z) "zip" := ⟨_,hz,rfl⟩
  refine wpAny_pyIter_slot hT F.slot_zip_iter (wpAny_call_entry F.slot_zip_iter hT F.entry_zip_iter ?_ (F.args_zip_iter_1 _))
  show wpAny _ _ (ret (.ref z)) _ _ s
  exact wpAny_pure ⟨_,rfl, "zip",_,hT,F.slot_zip_next.lookup,h⟩
end
section
variable {prog:Program} {w:World} {A:Around} {z TI TO i1 i2:Addr} {fp1 fp2:List Addr} {n:Nat} {P1 P2:Nat → Value → Prop} {St1 St2:Nat → Heap → Prop}
end
end PySem
end
section
namespace PySem
open Sem (wp)
theorem tc_szip (a b c:Value):checkTypeCall "zip" ⟨[a,b],[(Str.ofString "strict",c)]⟩ = pure ():=by kernel_rfl
theorem nc_szip (a b c:Value):checkBuiltinCall "zip.__new__" ⟨[.type "zip",a,b],[(Str.ofString "strict",c)]⟩ = pure ():=by kernel_rfl
theorem ai_szip (obj a b c:Value):argsOk "object.__init__" ⟨[obj,a,b],[(Str.ofString "strict",c)]⟩:=by unfold argsOk; kernel_rfl
abbrev szT (h:Heap) (o1 o2:Obj):Heap:=((h.push o1).push o2).push { cls:=.type "tuple",data:=.seq #[.ref h.objs.size,.ref (h.push o1).objs.size] }
abbrev szO (h:Heap) (o1 o2:Obj):Heap:=(szT h o1 o2).push { cls:=.type "tuple",data:=.seq #[.none,.none] }
abbrev szZ (h:Heap) (o1 o2:Obj):Heap:=(szO h o1 o2).push { cls:=.type "zip",data:=.fields #[.none,.bool false,.bool true,.ref ((h.push o1).push o2).objs.size,.ref (szT h o1 o2).objs.size] }
theorem szip_new {v1 v2:Value} {o1 o2:Obj} {H1 H2:Heap → Prop} (B1:Begins v1 o1 H1) (B2:Begins v2 o2 H2) :
    Meets (Builtin.«zip.__new__» ⟨[.type "zip",v1,v2],[(Str.ofString "strict",.bool true)]⟩) (fun _ R s=>(H1 s.heap ∧ H2 s.heap) ∧
      R (.ok (.ret (.ref (szO s.heap o1 o2).objs.size))) { s with heap:=szZ s.heap o1 o2 }) :=
  .of_wp fun prog w A R s h=>by
    obtain ⟨hp,g,d,tk,os⟩:=s; obtain ⟨⟨h1,h2⟩,h⟩:=h
    have hsub:=sub_zip
    have q1:∀ {A':Around} {E:Value → Shared → Prop} {Q:Value → Shared → Prop},Q (.ref hp.objs.size) ⟨(hp.push o1),g,d,tk,os⟩ → wpAny (model prog w) A' (pyIter v1) Q E ⟨hp,g,d,tk,os⟩ :=
      fun q=>B1.iter prog w _ _ ⟨hp,g,d,tk,os⟩ _ (B1.keeps _ _ h1 fun b o' e=>e) q
    have q2:∀ {A':Around} {E:Value → Shared → Prop} {Q:Value → Shared → Prop},Q (.ref (hp.push o1).objs.size) ⟨((hp.push o1).push o2),g,d,tk,os⟩ → wpAny (model prog w) A' (pyIter v2) Q E ⟨(hp.push o1),g,d,tk,os⟩ :=
      fun q=>B2.iter prog w _ _ ⟨(hp.push o1),g,d,tk,os⟩ _ (B2.keeps _ _ h2 fun b o' e=>(Heap.get?_push_of_some _ e)) q
    have e1:(Str.ofString "strict" == ("strict" : Str)) = true:=by decide +kernel
    have e2:(Str.ofString "strict" != ("strict" : Str)) = false:=by decide +kernel
    wp_walk using q1,q2
    exact ⟨_,rfl,h⟩
section
variable {prog:Program} {w:World} {A:Around} {E:Value → Shared → Prop} {s:Shared}
theorem szip_begins {v1 v2:Value} {o1 o2:Obj} {H1 H2:Heap → Prop} {Q:Value → Shared → Prop} (B1:Begins v1 o1 H1) (B2:Begins v2 o2 H2) (h1:H1 s.heap) (h2:H2 s.heap)
    (h:∀ h',SZip h' (s.heap.objs.size + 4) (s.heap.objs.size + 2) (s.heap.objs.size + 3) .none → IsTupOf2 h' (s.heap.objs.size + 2) (.ref s.heap.objs.size) (.ref (s.heap.objs.size + 1)) →
      IsTupOf2 h' (s.heap.objs.size + 3) .none .none → h'.get? s.heap.objs.size = some o1 → h'.get? (s.heap.objs.size + 1) = some o2 → h'.objs.size = s.heap.objs.size + 5 →
      (∀ c o,s.heap.get? c = some o → h'.get? c = some o) → Q (.ref (s.heap.objs.size + 4)) { s with heap:=h' }) :
    wpAny (model prog w) A (call (.type "zip") [v1,v2] [(Str.ofString "strict",.bool true)]) Q E s:=by
  refine callType_newKw F.called_zip (by decide) (tc_szip _ _ _) (nc_szip _ _ _) (fun obj=>ai_szip obj _ _ _) F.entry_zip_new (szip_new B1 B2) ⟨⟨h1,h2⟩,?_⟩
  have z1:(s.heap.push o1).objs.size = s.heap.objs.size + 1:=by rw [Heap.size_push]
  have z2:((s.heap.push o1).push o2).objs.size = s.heap.objs.size + 2:=by rw [Heap.size_push,z1]
  have zT:(szT s.heap o1 o2).objs.size = s.heap.objs.size + 3:=by rw [Heap.size_push,z2]
  have zO:(szO s.heap o1 o2).objs.size = s.heap.objs.size + 4:=by rw [Heap.size_push,zT]
  have zZ:(szZ s.heap o1 o2).objs.size = s.heap.objs.size + 5:=by rw [Heap.size_push,zO]
  have gZ:(szZ s.heap o1 o2).get? (szO s.heap o1 o2).objs.size = some { cls:=.type "zip",data:=.fields #[.none,.bool false,.bool true,.ref ((s.heap.push o1).push o2).objs.size,.ref (szT s.heap o1 o2).objs.size] }:=Heap.get?_push_size _ rfl
  have gO:(szZ s.heap o1 o2).get? (szT s.heap o1 o2).objs.size = some { cls:=.type "tuple",data:=.seq #[.none,.none] }:=Heap.get?_push_of_some _ (Heap.get?_push_size _ rfl)
  have gT:(szZ s.heap o1 o2).get? ((s.heap.push o1).push o2).objs.size = some { cls:=.type "tuple",data:=.seq #[.ref s.heap.objs.size,.ref (s.heap.push o1).objs.size] }:=Heap.get?_push_of_some _ (Heap.get?_push_of_some _ (Heap.get?_push_size _ rfl))
  have g1:(szZ s.heap o1 o2).get? s.heap.objs.size = some o1:=Heap.get?_push_of_some _ (Heap.get?_push_of_some _ (Heap.get?_push_of_some _ (Heap.get?_push_of_some _ (Heap.get?_push_size _ B1.free))))
  have g2:(szZ s.heap o1 o2).get? (s.heap.push o1).objs.size = some o2:=Heap.get?_push_of_some _ (Heap.get?_push_of_some _ (Heap.get?_push_of_some _ (Heap.get?_push_size _ B2.free)))
  rw [zO,zT,z2] at gZ
  rw [zT] at gO
  rw [z2,z1] at gT
  rw [z1] at g2
  show _ ∧ _
  rw [zO]
  exact ⟨⟨_,gZ,rfl⟩,h _ gZ gT gO g1 g2 zZ fun c o e=>Heap.get?_push_of_some _ (Heap.get?_push_of_some _ (Heap.get?_push_of_some _ (Heap.get?_push_of_some _ (Heap.get?_push_of_some _ e))))⟩
end
end PySem
end
section
namespace Rp
open PySem PySem.Spec PyProof.Rows L2
def ItzS (K:PySem.W.Frag) (x:Str) (b:Addr):It :=
  ⟨fun i H=>∃ (ys:List V) (y:V),SqL K H b ys ∧ ys.length = x.cps.size ∧ ys[i]? = some y,
    fun i H v H' => ∃ T c y,v = .ref T ∧ H T = none ∧ H' = upd H T (.tup [.str ⟨#[c]⟩,y]) ∧ x.cps[i]? = some c ∧ ∀ ys,SqL K H b ys → ys[i]? = some y,
    fun i H=>∃ ys:List V,SqL K H b ys ∧ ys.length = x.cps.size ∧ ys.length ≤ i⟩
theorem turn_zipS {P:Program} {w:World} {K:PySem.W.Frag} {elts:List Expr} {kk:Nat} {tpos:Pos} {x:Str} {t:Tok} {b z TI TO i1 i2:Addr} (S:ZipSep2 z TI TO i1 i2 [i1] [i2,b]) (hne:b ≠ i2) :
    Turn P w K (.Tuple elts kk tpos) (ItzS K x b) [z,TI,TO,i1,i2] z (fun i h=>i ≤ x.cps.size ∧ SZip h z TI TO .none ∧ IsTupOf2 h TI (.ref i1) (.ref i2) ∧ (∃ x y,IsTupOf2 h TO x y) ∧ h.IsStrIter i1 (strIterType x) x t i ∧ h.IsListIter i2 b i) where
  mem:=by simp
  obj:=fun i h st c hc=>by
    obtain ⟨hle,hz,hTI,⟨x,y,hTO⟩,⟨o1,e1,_,d1⟩,⟨o2,e2,_,d2⟩⟩:=st
    have e':c = z ∨ c = TI ∨ c = TO ∨ c = i1 ∨ c = i2:=by simpa using hc
    rcases e' with q | q | q | q | q
    · rw [q]; exact ⟨_,hz,fun v q=>nomatch q⟩
    · rw [q]; exact ⟨_,hTI,fun v q=>nomatch q⟩
    · rw [q]; exact ⟨_,hTO,fun v q=>nomatch q⟩
    · rw [q]; exact ⟨o1,e1,fun v q=>by rw [d1] at q; cases q⟩
    · rw [q]; exact ⟨o2,e2,fun v q=>by rw [d2] at q; cases q⟩
  keep:=fun i h h' st k=>by
    obtain ⟨hle,hz,hTI,⟨x,y,hTO⟩,⟨o1,e1,r1⟩,h2⟩:=st
    exact ⟨hle,k z (by simp) _ hz,k TI (by simp) _ hTI,⟨x,y,k TO (by simp) _ hTO⟩,⟨o1,k i1 (by simp) _ e1,r1⟩,h2.at fun o q=>k i2 (by simp) o q⟩
  item:=by
    intro X hP hw hK hc i pins s σ H E I hf st hg
    subst hP hw hK
    obtain ⟨hle,hz,hTI,⟨x0,y0,hTO⟩,h1,h2⟩:=st
    obtain ⟨ys,y,hqy,hl,hy⟩:=hg
    obtain ⟨its,rv,p,_⟩:=I.list hqy
    obtain ⟨u2,hu2,ru2⟩:=rv.get hy
    have hzl:z < s.heap.objs.size:=Heap.lt_size hz
    have hln:its.toArray.size = x.cps.size:=by rw [List.size_toArray,← hl]; exact rv.length.symm
    have hi:i < x.cps.size:=by rw [← hl]; exact (List.getElem?_eq_some_iff.mp hy).1
    have hh:X.A.in1.handled = none:=I.ok.hd hc
    have D1:=Draws.text (prog:=X.prog) (w:=X.w) hh i1 x t
    have D2:=Draws.list (prog:=X.prog) (w:=X.w) hh i2 b hne its.toArray
    rw [hln] at D2
    have hT:s.TypeIs (.ref z) "zip" := ⟨_,hz,rfl⟩
    have lt:∀ {c o},s.heap.get? c = some o → s.heap.objs.size ≠ c:=fun e=>Nat.ne_of_gt (Heap.lt_size e)
    unfold pyNext
    refine wpAny_bind (wpAny_attempt (wpAny_callSpecial?_slot (name:=Str.ofString "__next__") hT F.slot_zip_next
      (wpAny_call_entry F.slot_zip_next hT F.entry_zip_next
        (szip_item S D1 D2 hz hTI hTO h1 ⟨h2,p.isList⟩ hi fun v1 v2 h' tk p1 p2 z' o' s1 s2 tT hsz hk=>wpAny_pure ?_) (F.args_zip_next_1 _))))
    obtain ⟨c,uc,hcx,rfl⟩:=p1
    obtain rfl:v2 = u2:=by
      have:its[i]? = some v2:=by simpa using p2
      rw [hu2] at this
      exact (Option.some.inj this).symm
    refine ⟨_,rfl,szip_letGo (s:={ s with heap:=h',toks:=tk }) z' fun h'' z'' sb=>?_⟩
    have hT2:h''.get? s.heap.objs.size = some { cls:=.type "tuple",data:=.seq #[.str ⟨#[c]⟩ uc,v2] }:=(sb.2 _ (Nat.ne_of_gt hzl)).trans tT
    have new:ObjOk X.prog X.w (upd H s.heap.objs.size (.tup [.str ⟨#[c]⟩,y])) h'' s.heap.objs.size (.tup [.str ⟨#[c]⟩,y]) :=
      ⟨by show 2 ≤ sizeLine; decide,[.str ⟨#[c]⟩ uc,v2],.cons ⟨_,rfl⟩ (.cons ru2 .nil),⟨_,hT2,rfl,_,rfl⟩⟩
    have I1:Inv X pins σ (upd H s.heap.objs.size (.tup [.str ⟨#[c]⟩,y])) { s with heap:=h'',toks:=tk } :=
      I.turnedNew (t':=tk) (ch:=[z,TI,TO,i1,i2]) (fun c o hb q=>(sb.2 c (fun q' => hb (by simp [q']))).trans (hk c o (fun q' => hb (by simp [q'])) (fun q' => hb (by simp [q'])) (fun q' => hb (by simp [q'])) (fun q' => hb (by simp [q'])) q)) hf (Nat.le_refl _) new
    have i2z:i2 ≠ z:=fun e=>S.zi2 e.symm
    refine ⟨.ref s.heap.objs.size,_,I1,rfl,⟨_,c,y,rfl,I.hok.fresh (Nat.le_refl _),rfl,hcx,fun l hl=>by rw [I.list_inj hl hqy]; exact hy⟩,⟨hi,z'',?_,⟨.str ⟨#[c]⟩ uc,v2,?_⟩,?_,?_⟩,fun c hcm=>?_⟩
    · exact (sb.2 _ S.TIz).trans (hk _ _ S.TIz S.TITO S.TIi1 S.TIi2 hTI)
    · exact (sb.2 _ S.TOz).trans o'
    · obtain ⟨o1,e1,r1⟩:=s1
      exact ⟨o1,(sb.2 _ fun e=>S.zi1 e.symm).trans e1,r1⟩
    · exact s2.1.at fun o q=>(sb.2 _ i2z).trans q
    · have hlt:c < s.heap.objs.size:=by
        have e':c = z ∨ c = TI ∨ c = TO ∨ c = i1 ∨ c = i2:=by simpa using hcm
        rcases e' with q | q | q | q | q
        · rw [q]; exact hzl
        · rw [q]; exact Heap.lt_size hTI
        · rw [q]; exact Heap.lt_size hTO
        · rw [q]; obtain ⟨_,e1,_⟩:=h1; exact Heap.lt_size e1
        · rw [q]; obtain ⟨_,e2,_⟩:=h2; exact Heap.lt_size e2
      rw [upd_ne (Nat.ne_of_lt hlt)]
      exact (hf c hcm).1
  done:=by
    intro X hP hw hK hc i pins s σ H E I hf st hg
    subst hP hw hK
    obtain ⟨hle,hz,hTI,⟨x0,y0,hTO⟩,h1,h2⟩:=st
    obtain ⟨ys,hqy,hl,hi⟩:=hg
    obtain ⟨its,rv,p,_⟩:=I.list hqy
    have hln:its.toArray.size = x.cps.size:=by rw [List.size_toArray,← hl]; exact rv.length.symm
    have hi':i = x.cps.size:=Nat.le_antisymm hle (hl ▸ hi)
    have hh:X.A.handled = none:=I.ok.hd hc
    have D1:=Draws.text (prog:=X.prog) (w:=X.w) (A:=X.A.in1) hh i1 x t
    have D2:=Draws.list (prog:=X.prog) (w:=X.w) (A:=X.A.in1) hh i2 b hne its.toArray
    rw [hln] at D2
    have hT:s.TypeIs (.ref z) "zip" := ⟨_,hz,rfl⟩
    unfold pyNext
    refine wpAny_bind (wpAny_attempt (wpAny_callSpecial?_slot (name:=Str.ofString "__next__") hT F.slot_zip_next
      (wpAny_call_entry F.slot_zip_next hT F.entry_zip_next (szip_end hh S D1 D2 hz hTI (hi' ▸ h1) ⟨hi' ▸ h2,p.isList⟩ fun h' e hk he=>?_) (F.args_zip_next_1 _))))
    obtain ⟨o,ho,hce⟩:=he
    refine wpAny_bind (wpAny_isInstance (T := "StopIteration") (b:=true) ⟨o,ho,hce⟩ isSubtype_stop ?_)
    exact wpAny_pure ⟨rfl,I.turnedL (t':=s.toks) (ch:=[z,TI,TO,i1,i2]) (fun c o hb q =>
      hk c o (fun q' => hb (by simp [q'])) (fun q' => hb (by simp [q'])) (fun q' => hb (by simp [q'])) (fun q' => hb (by simp [q'])) q) hf⟩
  self:=fun A i s Q E st h=>szip_iter st.2.1 h
end Rp
end
section
namespace Rp
open PySem PySem.Spec PyProof.Rows L2
section
variable {M:Model} {A:Around} {E:Value → Shared → Prop} {s:Shared} {env:Env}
theorem callWith_typeKw {pos:Pos} {T:String} {first:List Value} {args:List (Bool × Sem Value)} {keywords:List (Option Str × Sem Value)} {Q:Value → Shared → Prop}
    (hplain:args.any (·.1) = false) (hkw:keywords.any (·.1.isNone) = false)
    (h:wpAny M A (evalArgs (.type T) true args keywords) (fun a s₁=>wpAny M A (call (.type T) (first ++ a.pos) a.kw) Q E s₁) E s) :
    wpAny M A (callWith pos (.type T) first args keywords) Q E s:=by
  unfold callWith
  refine wpAny_bind (wpAny_holding (wpAny_mono h (fun a s₁ h₁=>wpAny_bind (wpAny_standAt ?_)) fun _ _ x=>x))
  simp only [hplain,hkw,Bool.or_false]
  refine wpAny_bind (wpAny_pure ?_)
  exact wpAny_bind (wpAny_mono h₁ (fun r s₂ hr=>wpAny_bind (wpAny_holding (wpAny_point (wpAny_pure hr)))) fun _ _ x=>x)
theorem callWith_typeKw1 {pos:Pos} {T:String} {e:Expr} {rest:List Expr} {kws:List Keyword} {Q:Value → Shared → Prop}
    (h:wpAny M A (spliced (backTo pos (starEach (e :: rest) env))) (fun vs s₁=>wpAny M A (evalAll ((backToKw pos (keywordEach kws env)).map (·.2)))
      (fun kvs s₂=>wpAny M A (call (.type T) vs (((backToKw pos (keywordEach kws env)).filterMap (·.1)).zip kvs)) Q E s₂) E s₁) E s)
    (he:backTo pos (starEach (e :: rest) env) = (false,eval e env) :: backTo pos (starEach rest env):=by rfl)
    (hplain:(backTo pos (starEach (e :: rest) env)).any (·.1) = false:=by rfl)
    (hall:(backToKw pos (keywordEach kws env)).all (·.1.isSome) = true:=by rfl)
    (hkw:(backToKw pos (keywordEach kws env)).any (·.1.isNone) = false:=by rfl) :
    wpAny M A (callWith pos (.type T) [] (backTo pos (starEach (e :: rest) env)) (backToKw pos (keywordEach kws env))) Q E s:=by
  refine callWith_typeKw hplain hkw ?_
  rw [he] at h ⊢
  exact evalArgs_kwB hall h
end
theorem zipS_apart {N b:Nat} (hb:b < N):ZipSep2 (N + 4) (N + 2) (N + 3) N (N + 1) [N] [N + 1,b]:=by
  have n1:∀ k,N + k ≠ b:=fun k=>by omega
  constructor <;> simp
  all_goals first | exact n1 4 | exact n1 3 | exact n1 0
def iZipS (K:PySem.W.Frag) (ta tk:TA):TI:=fun σ H R=>ta σ H fun vs H1=>tk σ H1 fun zs H2=>∃ x b ys,vs = [.str x,.ref b] ∧ zs = [.bl true] ∧ SqL K H2 b ys ∧ R (ItzS K x b) H2
theorem pi_zipS {X:Cx} {e e2:Expr} {ta tk:TA} {kws:List Keyword} {p pos tpos:Pos} {elts:List Expr} {kk:Nat} (hg:Gl X "zip") (hm:X.mg "zip" = none) (ha:PA X [e,e2] ta) (hk:PK X kws tk)
    (he:backTo pos (starEach [e,e2] X.env) = (false,eval e X.env) :: backTo pos (starEach [e2] X.env):=by rfl) (hpl:(backTo pos (starEach [e,e2] X.env)).any (·.1) = false:=by rfl)
    (hall:(backToKw pos (keywordEach kws X.env)).all (·.1.isSome) = true:=by rfl) (hnone:(backToKw pos (keywordEach kws X.env)).any (·.1.isNone) = false:=by rfl) (hks:(backToKw pos (keywordEach kws X.env)).filterMap (·.1) = [Str.ofString "strict"]:=by rfl) :
    PI X (.Tuple elts kk tpos) (.Call (.Name "zip" p) [e,e2] kws pos) (iZipS X.K ta tk):=by
  refine ⟨fun pins s σ H R I h=>?_⟩
  refine wpAny_Call_Name_kw (ld_blt I hg hm PyProof.Rows.boot_zip ?_ (by decide) (by decide))
  refine callWith_typeKw1 (thn (ha.run pos pins s σ H _ I h) fun us s1 ⟨vs,H1,I1,r1,q1⟩=>thn (hk.run pos pins s1 σ H1 _ I1 q1) fun ws s2 ⟨zs,H2,I2,r2,q2⟩=>?_) he hpl hall hnone
  rw [hks]
  obtain ⟨x,b,ys,rfl,rfl,hq,q⟩:=q2
  cases r1 with
  | cons r rr =>
    cases rr with
    | cons r' rr =>
      cases rr
      obtain ⟨t,rfl⟩:=r
      cases r'
      cases r2 with
      | cons r3 rr =>
        cases rr
        cases r3
        obtain ⟨its,rv,p1,_⟩:=I2.list hq
        have lb:b < s2.heap.objs.size:=p1.lt
        refine szip_begins (begins_text x t) (begins_list b its.toArray) trivial p1.isList fun h' hz hTI hTO h1 h2 hsz hk=>szip_iter (s:={ s2 with heap:=h' }) hz ?_
        have I3:Inv X pins σ H2 { s2 with heap:=h' }:=I2.kept (t':=s2.toks) hk
        refine ⟨s2.heap.objs.size + 4,[s2.heap.objs.size + 4,s2.heap.objs.size + 2,s2.heap.objs.size + 3,s2.heap.objs.size,s2.heap.objs.size + 1],_,_,H2,rfl,I3,turn_zipS (t:=t) (zipS_apart lb) (Nat.ne_of_lt (Nat.lt_succ_of_lt lb)),⟨Nat.zero_le _,hz,hTI,⟨_,_,hTO⟩,⟨_,h1,rfl,rfl⟩,⟨_,h2,rfl,rfl⟩⟩,fun c hcm=>?_,q⟩
        have e':c = s2.heap.objs.size + 4 ∨ c = s2.heap.objs.size + 2 ∨ c = s2.heap.objs.size + 3 ∨ c = s2.heap.objs.size ∨ c = s2.heap.objs.size + 1:=by simpa using hcm
        have hle:s2.heap.objs.size ≤ c:=by
          rcases e' with z | z | z | z | z <;> (rw [z]; first | exact Nat.le_refl _ | exact Nat.le_add_right _ _)
        exact I2.fpOk hle (I2.hok.fresh hle)
end Rp
end
section
namespace Rp
open PySem PySem.Spec PyProof.Rows L2
def sZipS (g:AA):ASrc:=fun s h=>(g s h).bind fun r=>match r.1 with
  | [.str x,b]=>(srcL b r.2).bind fun z=>if z.1.length = x.cps.size then some (((chars x).zipWith (fun x y=>.nod .tup [x,y]) z.1,z.2),r.2) else none
  | _=>none
section
variable {X:Cx} {cl:Nat → Str × List Str}
theorem ai_zipS {e e2:Expr} {elts:List Expr} {kk j:Nat} {tpos p pos kp kq:Pos} {ga:AA} (hg:Gl X "zip") (hm:X.mg "zip" = none) (ha:PA X [e,e2] (tAs (ctX X cl) ga))
    (he:backTo pos (starEach [e,e2] X.env) = (false,eval e X.env) :: backTo pos (starEach [e2] X.env):=by rfl) (hpl:(backTo pos (starEach [e,e2] X.env)).any (·.1) = false:=by rfl) :
    PI X (.Tuple elts kk tpos) (.Call (.Name "zip" p) [e,e2] [⟨some "strict",.Constant (.bool true) j kp,kq⟩] pos) (tI (ctX X cl) (sZipS ga)):=by
  refine (pi_zipS hg hm ha (pk_cons pe_bl pk_nil) he hpl).wk fun σ H R q=>?_
  obtain ⟨w,s,h,xs,G,h',rs,sr,e,k⟩:=q
  obtain ⟨⟨vs,h1⟩,e1,e⟩:=bind_some e
  split at e
  · rename_i x b ev
    have ev':vs = [.str x,b]:=ev
    subst ev'
    obtain ⟨⟨zs,G2⟩,e3,e⟩:=bind_some e
    split at e
    · rename_i hlen
      cases e
      refine ⟨w,s,h,_,h1,rs,sr,e1,fun w1 H1 us t1 s1 r1=>?_⟩
      obtain ⟨u,us',rfl,ru,u2,us2,rfl,ru2,r2⟩:=r1
      obtain rfl:us2 = []:=r2
      obtain rfl:u = .str x:=ru
      obtain ⟨d2,zs',rfl,hq2,l2⟩:=list_still e3 ru2 (.refl _) s1 ⟨_,s1⟩ (srcL_chk e3)
      refine ⟨x,d2,zs',rfl,rfl,hq2,k w1 H1 _ t1 s1 fun w2 H2 h2 i le fz S ck=>?_⟩
      obtain ⟨p',vs,e4,q2,l2⟩:=list_still e3 ru2 le S ⟨_,s1⟩ ck
      cases e4
      have hc:(chars x).length = x.cps.size:=by simp [chars]
      have hvl:vs.length = x.cps.size:=by rw [← l2.len]; exact hlen
      refine ⟨fun y hx=>?_,fun hi=>⟨vs,q2,hvl,by
        rw [List.length_zipWith,hc] at hi
        have:=l2.len
        dsimp only at hi hlen
        omega⟩⟩
      rw [List.getElem?_zipWith] at hx
      cases hy:(chars x)[i]? with
      | none=>rw [hy] at hx; cases hx
      | some y =>
        cases hz:zs[i]? with
        | none=>rw [hy,hz] at hx; cases hx
        | some z =>
          rw [hy,hz] at hx
          cases hx
          obtain ⟨u',hu',ru'⟩:=l2.get hz
          refine ⟨⟨vs,u',q2,hvl,hu'⟩,fun v H' y' => ?_⟩
          obtain ⟨T,c,y',rfl,hT,rfl,hx,hy'⟩:=y'
          have:=hy' vs q2
          rw [hu'] at this
          cases this
          have hcy:(chars x)[i]? = some (.str ⟨#[c]⟩):=by simp [chars,hx]
          rw [hy] at hcy
          cases hcy
          exact yld_tup S hT (.cons rfl (.cons ru' .nil))
    · cases e
  · cases e
end
end Rp
end
section
namespace Rp
open PySem PySem.Spec PyProof.Rows L2
theorem turn_zipN {P:Program} {w:World} {K:PySem.W.Frag} {elts:List Expr} {kk:Nat} {tpos:Pos} {x:Str} {t:Tok} {b z TI TO i1 i2:Addr} (S:ZipSep2 z TI TO i1 i2 [i1] [i2,b]) (hne:b ≠ i2) :
    Turn P w K (.Tuple elts kk tpos) (ItzS K x b) [z,TI,TO,i1,i2] z (fun i h=>i ≤ x.cps.size ∧ IsZip h z TI TO .none ∧ IsTupOf2 h TI (.ref i1) (.ref i2) ∧ (∃ x y,IsTupOf2 h TO x y) ∧ h.IsStrIter i1 (strIterType x) x t i ∧ h.IsListIter i2 b i) where
  mem:=by simp
  obj:=fun i h st c hc=>by
    obtain ⟨hle,hz,hTI,⟨x,y,hTO⟩,⟨o1,e1,_,d1⟩,⟨o2,e2,_,d2⟩⟩:=st
    have e':c = z ∨ c = TI ∨ c = TO ∨ c = i1 ∨ c = i2:=by simpa using hc
    rcases e' with q | q | q | q | q
    · rw [q]; exact ⟨_,hz,fun v q=>nomatch q⟩
    · rw [q]; exact ⟨_,hTI,fun v q=>nomatch q⟩
    · rw [q]; exact ⟨_,hTO,fun v q=>nomatch q⟩
    · rw [q]; exact ⟨o1,e1,fun v q=>by rw [d1] at q; cases q⟩
    · rw [q]; exact ⟨o2,e2,fun v q=>by rw [d2] at q; cases q⟩
  keep:=fun i h h' st k=>by
    obtain ⟨hle,hz,hTI,⟨x,y,hTO⟩,⟨o1,e1,r1⟩,h2⟩:=st
    exact ⟨hle,k z (by simp) _ hz,k TI (by simp) _ hTI,⟨x,y,k TO (by simp) _ hTO⟩,⟨o1,k i1 (by simp) _ e1,r1⟩,h2.at fun o q=>k i2 (by simp) o q⟩
  item:=by
    intro X hP hw hK hc i pins s σ H E I hf st hg
    subst hP hw hK
    obtain ⟨hle,hz,hTI,⟨x0,y0,hTO⟩,h1,h2⟩:=st
    obtain ⟨ys,y,hqy,hl,hy⟩:=hg
    obtain ⟨its,rv,p,_⟩:=I.list hqy
    obtain ⟨u2,hu2,ru2⟩:=rv.get hy
    have hzl:z < s.heap.objs.size:=Heap.lt_size hz
    have hln:its.toArray.size = x.cps.size:=by rw [List.size_toArray,← hl]; exact rv.length.symm
    have hi:i < x.cps.size:=by rw [← hl]; exact (List.getElem?_eq_some_iff.mp hy).1
    have hh:X.A.in1.handled = none:=I.ok.hd hc
    have D1:=Draws.text (prog:=X.prog) (w:=X.w) hh i1 x t
    have D2:=Draws.list (prog:=X.prog) (w:=X.w) hh i2 b hne its.toArray
    rw [hln] at D2
    have hT:s.TypeIs (.ref z) "zip" := ⟨_,hz,rfl⟩
    have lt:∀ {c o},s.heap.get? c = some o → s.heap.objs.size ≠ c:=fun e=>Nat.ne_of_gt (Heap.lt_size e)
    unfold pyNext
    refine wpAny_bind (wpAny_attempt (wpAny_callSpecial?_slot (name:=Str.ofString "__next__") hT F.slot_zip_next
      (wpAny_call_entry F.slot_zip_next hT F.entry_zip_next
        (zipD2_next_item S D1 D2 hz hTI hTO h1 ⟨h2,p.isList⟩ hi hi fun v1 v2 h' tk p1 p2 z' o' s1 s2 tT hsz hk=>wpAny_pure ?_) (F.args_zip_next_1 _))))
    obtain ⟨c,uc,hcx,rfl⟩:=p1
    obtain rfl:v2 = u2:=by
      have:its[i]? = some v2:=by simpa using p2
      rw [hu2] at this
      exact (Option.some.inj this).symm
    refine ⟨_,rfl,wpAny_letOwnedTupleGo_zip (s:={ s with heap:=h',toks:=tk }) z' fun h'' z'' sb=>?_⟩
    have hT2:h''.get? s.heap.objs.size = some { cls:=.type "tuple",data:=.seq #[.str ⟨#[c]⟩ uc,v2] }:=(sb.2 _ (Nat.ne_of_gt hzl)).trans tT
    have new:ObjOk X.prog X.w (upd H s.heap.objs.size (.tup [.str ⟨#[c]⟩,y])) h'' s.heap.objs.size (.tup [.str ⟨#[c]⟩,y]) :=
      ⟨by show 2 ≤ sizeLine; decide,[.str ⟨#[c]⟩ uc,v2],.cons ⟨_,rfl⟩ (.cons ru2 .nil),⟨_,hT2,rfl,_,rfl⟩⟩
    have I1:Inv X pins σ (upd H s.heap.objs.size (.tup [.str ⟨#[c]⟩,y])) { s with heap:=h'',toks:=tk } :=
      I.turnedNew (t':=tk) (ch:=[z,TI,TO,i1,i2]) (fun c o hb q=>(sb.2 c (fun q' => hb (by simp [q']))).trans (hk c o (fun q' => hb (by simp [q'])) (fun q' => hb (by simp [q'])) (fun q' => hb (by simp [q'])) (fun q' => hb (by simp [q'])) q)) hf (Nat.le_refl _) new
    have i2z:i2 ≠ z:=fun e=>S.zi2 e.symm
    refine ⟨.ref s.heap.objs.size,_,I1,rfl,⟨_,c,y,rfl,I.hok.fresh (Nat.le_refl _),rfl,hcx,fun l hl=>by rw [I.list_inj hl hqy]; exact hy⟩,⟨hi,z'',?_,⟨.str ⟨#[c]⟩ uc,v2,?_⟩,?_,?_⟩,fun c hcm=>?_⟩
    · exact (sb.2 _ S.TIz).trans (hk _ _ S.TIz S.TITO S.TIi1 S.TIi2 hTI)
    · exact (sb.2 _ S.TOz).trans o'
    · obtain ⟨o1,e1,r1⟩:=s1
      exact ⟨o1,(sb.2 _ fun e=>S.zi1 e.symm).trans e1,r1⟩
    · exact s2.1.at fun o q=>(sb.2 _ i2z).trans q
    · have hlt:c < s.heap.objs.size:=by
        have e':c = z ∨ c = TI ∨ c = TO ∨ c = i1 ∨ c = i2:=by simpa using hcm
        rcases e' with q | q | q | q | q
        · rw [q]; exact hzl
        · rw [q]; exact Heap.lt_size hTI
        · rw [q]; exact Heap.lt_size hTO
        · rw [q]; obtain ⟨_,e1,_⟩:=h1; exact Heap.lt_size e1
        · rw [q]; obtain ⟨_,e2,_⟩:=h2; exact Heap.lt_size e2
      rw [upd_ne (Nat.ne_of_lt hlt)]
      exact (hf c hcm).1
  done:=by
    intro X hP hw hK hc i pins s σ H E I hf st hg
    subst hP hw hK
    obtain ⟨hle,hz,hTI,⟨x0,y0,hTO⟩,h1,h2⟩:=st
    obtain ⟨ys,hqy,hl,hi⟩:=hg
    obtain ⟨its,rv,p,_⟩:=I.list hqy
    have hln:its.toArray.size = x.cps.size:=by rw [List.size_toArray,← hl]; exact rv.length.symm
    have hi':i = x.cps.size:=Nat.le_antisymm hle (hl ▸ hi)
    have hh:X.A.handled = none:=I.ok.hd hc
    have D1:=Draws.text (prog:=X.prog) (w:=X.w) (A:=X.A.in1) hh i1 x t
    have D2:=Draws.list (prog:=X.prog) (w:=X.w) (A:=X.A.in1) hh i2 b hne its.toArray
    rw [hln] at D2
    have hT:s.TypeIs (.ref z) "zip" := ⟨_,hz,rfl⟩
    unfold pyNext
    refine wpAny_bind (wpAny_attempt (wpAny_callSpecial?_slot (name:=Str.ofString "__next__") hT F.slot_zip_next
      (wpAny_call_entry F.slot_zip_next hT F.entry_zip_next (zipD2_next_end S D1 D2 hz hTI hTO h1 ⟨h2,p.isList⟩ hle hle (.inl hi') fun h' tk e hk he=>?_) (F.args_zip_next_1 _))))
    obtain ⟨o,ho,hce⟩:=he
    refine wpAny_bind (wpAny_isInstance (T := "StopIteration") (b:=true) ⟨o,ho,hce⟩ isSubtype_stop ?_)
    exact wpAny_pure ⟨rfl,I.turnedL (t':=tk) (ch:=[z,TI,TO,i1,i2]) (fun c o hb q =>
      hk c o (fun q' => hb (by simp [q'])) (fun q' => hb (by simp [q'])) (fun q' => hb (by simp [q'])) (fun q' => hb (by simp [q'])) q) hf⟩
  self:=fun A i s Q E st h=>wpAny_pyIter_zip st.2.1 h
def iZipN (K:PySem.W.Frag) (ta:TA):TI:=fun σ H R=>ta σ H fun vs H2=>∃ x b ys,vs = [.str x,.ref b] ∧ SqL K H2 b ys ∧ R (ItzS K x b) H2
theorem pi_zipN {X:Cx} {e e2:Expr} {ta:TA} {p pos tpos:Pos} {elts:List Expr} {kk:Nat} (hg:Gl X "zip") (hm:X.mg "zip" = none) (ha:PA X [e,e2] ta)
    (hs:starEach [e,e2] X.env = (false,eval e X.env) :: starEach [e2] X.env:=by rfl) (hpl:(backTo pos (starEach [e2] X.env)).any (·.1) = false:=by rfl) :
    PI X (.Tuple elts kk tpos) (.Call (.Name "zip" p) [e,e2] [] pos) (iZipN X.K ta):=by
  refine ⟨fun pins s σ H R I h=>?_⟩
  refine Call_ (ld_blt I hg hm PyProof.Rows.boot_zip (PyProof.Rows.callWith_type1 (thn (ha.run pos pins s σ H _ I h) fun us s2 ⟨vs,H2,I2,r1,q2⟩=>?_) hs hpl))
  obtain ⟨x,b,ys,rfl,hq,q⟩:=q2
  cases r1 with
  | cons r rr =>
    cases rr with
    | cons r' rr =>
      cases rr
      obtain ⟨t,rfl⟩:=r
      cases r'
      obtain ⟨its,rv,p1,_⟩:=I2.list hq
      have lb:b < s2.heap.objs.size:=p1.lt
      refine zip_begins2 (begins_text x t) (begins_list b its.toArray) trivial p1.isList fun h' hz hTI hTO h1 h2 hsz hk=>wpAny_pyIter_zip (s:={ s2 with heap:=h' }) hz ?_
      have I3:Inv X pins σ H2 { s2 with heap:=h' }:=I2.kept (t':=s2.toks) hk
      refine ⟨s2.heap.objs.size + 4,[s2.heap.objs.size + 4,s2.heap.objs.size + 2,s2.heap.objs.size + 3,s2.heap.objs.size,s2.heap.objs.size + 1],_,_,H2,rfl,I3,turn_zipN (t:=t) (zipS_apart lb) (Nat.ne_of_lt (Nat.lt_succ_of_lt lb)),⟨Nat.zero_le _,hz,hTI,⟨_,_,hTO⟩,⟨_,h1,rfl,rfl⟩,⟨_,h2,rfl,rfl⟩⟩,fun c hcm=>?_,q⟩
      have e':c = s2.heap.objs.size + 4 ∨ c = s2.heap.objs.size + 2 ∨ c = s2.heap.objs.size + 3 ∨ c = s2.heap.objs.size ∨ c = s2.heap.objs.size + 1:=by simpa using hcm
      have hle:s2.heap.objs.size ≤ c:=by
        rcases e' with z | z | z | z | z <;> (rw [z]; first | exact Nat.le_refl _ | exact Nat.le_add_right _ _)
      exact I2.fpOk hle (I2.hok.fresh hle)
def sZipN (g:AA):ASrc:=fun s h=>(g s h).bind fun r=>match r.1 with
  | [.str x,b]=>(srcL b r.2).bind fun z=>if z.1.length = x.cps.size then some (((chars x).zipWith (fun x y=>.nod .tup [x,y]) z.1,z.2),r.2) else none
  | _=>none
section
variable {X:Cx} {cl:Nat → Str × List Str}
theorem ai_zipN {e e2:Expr} {elts:List Expr} {kk:Nat} {tpos p pos:Pos} {ga:AA} (hg:Gl X "zip") (hm:X.mg "zip" = none) (ha:PA X [e,e2] (tAs (ctX X cl) ga))
    (hs:starEach [e,e2] X.env = (false,eval e X.env) :: starEach [e2] X.env:=by rfl) (hpl:(backTo pos (starEach [e2] X.env)).any (·.1) = false:=by rfl) :
    PI X (.Tuple elts kk tpos) (.Call (.Name "zip" p) [e,e2] [] pos) (tI (ctX X cl) (sZipN ga)):=by
  refine (pi_zipN hg hm ha hs hpl).wk fun σ H R q=>?_
  obtain ⟨w,s,h,xs,G,h',rs,sr,e,k⟩:=q
  obtain ⟨⟨vs,h1⟩,e1,e⟩:=bind_some e
  split at e
  · rename_i x b ev
    have ev':vs = [.str x,b]:=ev
    subst ev'
    obtain ⟨⟨zs,G2⟩,e3,e⟩:=bind_some e
    split at e
    · rename_i hlen
      cases e
      refine ⟨w,s,h,_,h1,rs,sr,e1,fun w1 H1 us t1 s1 r1=>?_⟩
      obtain ⟨u,us',rfl,ru,u2,us2,rfl,ru2,r2⟩:=r1
      obtain rfl:us2 = []:=r2
      obtain rfl:u = .str x:=ru
      obtain ⟨d2,zs',rfl,hq2,l2⟩:=list_still e3 ru2 (.refl _) s1 ⟨_,s1⟩ (srcL_chk e3)
      refine ⟨x,d2,zs',rfl,hq2,k w1 H1 _ t1 s1 fun w2 H2 h2 i le fz S ck=>?_⟩
      obtain ⟨p',vs,e4,q2,l2⟩:=list_still e3 ru2 le S ⟨_,s1⟩ ck
      cases e4
      have hc:(chars x).length = x.cps.size:=by simp [chars]
      have hvl:vs.length = x.cps.size:=by rw [← l2.len]; exact hlen
      refine ⟨fun y hx=>?_,fun hi=>⟨vs,q2,hvl,by
        rw [List.length_zipWith,hc] at hi
        have:=l2.len
        dsimp only at hi hlen
        omega⟩⟩
      rw [List.getElem?_zipWith] at hx
      cases hy:(chars x)[i]? with
      | none=>rw [hy] at hx; cases hx
      | some y =>
        cases hz:zs[i]? with
        | none=>rw [hy,hz] at hx; cases hx
        | some z =>
          rw [hy,hz] at hx
          cases hx
          obtain ⟨u',hu',ru'⟩:=l2.get hz
          refine ⟨⟨vs,u',q2,hvl,hu'⟩,fun v H' y' => ?_⟩
          obtain ⟨T,c,y',rfl,hT,rfl,hx,hy'⟩:=y'
          have:=hy' vs q2
          rw [hu'] at this
          cases this
          have hcy:(chars x)[i]? = some (.str ⟨#[c]⟩):=by simp [chars,hx]
          rw [hy] at hcy
          cases hcy
          exact yld_tup S hT (.cons rfl (.cons ru' .nil))
    · cases e
  · cases e
end
end Rp
end
section
namespace Rp
open PySem PySem.Spec PyProof.Rows L2
section
variable {X:Cx} {cl:Nat → Str × List Str} {xt:XT} {nx:Nat} {hds:List ExceptHandler} {L:List XG} {l:List Clause}
end
section
variable {X:Cx} {cl:Nat → Str × List Str} {xt:XT} {nx:Nat} {body:List Stmt} {h₀:ExceptHandler} {hds:List ExceptHandler} {L:List XG} {l:List Clause} {pos:Pos} {fB:ASX}
end
section
variable {X:Cx} {cl:Nat → Str × List Str} {Φ:Ph} {e o:Expr} {es:List Expr} {f:AE} {g gs:AA} {pos apos cpos:Pos}
end
end Rp
end
section
namespace K55
open PySem PySem.Spec PyProof.Rows L2 Rp
def top (i:Nat):Stmt:=PySem.Challenge.pw_ridepool_k55_deeds_as_rows.main.body.getD i (.Pass ⟨0,0,0,0⟩)
def inCls (s:Stmt) (j:Nat):Stmt:=match s with
  | .ClassDef (body:=b) .. => b.getD j (.Pass ⟨0,0,0,0⟩)
  | _=>s
end K55
end
section
open PySem PySem.W
open_shared T55top for PySem.Challenge.pw_ridepool_k55_deeds_as_rows leaving 10
end
section
namespace K55
open PySem PySem.Spec PyProof.Rows L2 Rp
def d0:He.DefD:=(⟨("BadRun",some "__init__"), "__init__", "BadRun.__init__",defArgs (inCls (top 2) 0),defBody (inCls (top 2) 0),defScope (inCls (top 2) 0),[.int 0],[]⟩:He.DefD)
def d1:He.DefD:=(⟨("_law_hat",none), "_law_hat", "_law_hat",defArgs (top 11),defBody (top 11),defScope (top 11),[],[]⟩:He.DefD)
def d2:He.DefD:=(⟨("_law_take",none), "_law_take", "_law_take",defArgs (top 12),defBody (top 12),defScope (top 12),[],[]⟩:He.DefD)
def d3:He.DefD:=(⟨("_law_names",none), "_law_names", "_law_names",defArgs (top 15),defBody (top 15),defScope (top 15),[],[]⟩:He.DefD)
def d4:He.DefD:=(⟨("_law_of",none), "_law_of", "_law_of",defArgs (top 13),defBody (top 13),defScope (top 13),[],[]⟩:He.DefD)
def d5:He.DefD:=(⟨("_law_deed_line",none), "_law_deed_line", "_law_deed_line",defArgs (top 16),defBody (top 16),defScope (top 16),[],[]⟩:He.DefD)
def d6:He.DefD:=(⟨("figure",none), "figure", "figure",defArgs (top 6),defBody (top 6),defScope (top 6),[],[]⟩:He.DefD)
def d7:He.DefD:=(⟨("thing_of",none), "thing_of", "thing_of",defArgs (top 7),defBody (top 7),defScope (top 7),[],[]⟩:He.DefD)
def d8:He.DefD:=(⟨("read_deed",none), "read_deed", "read_deed",defArgs (top 9),defBody (top 9),defScope (top 9),[],[]⟩:He.DefD)
def d9:He.DefD:=(⟨("deed_row",none), "deed_row", "deed_row",defArgs (top 8),defBody (top 8),defScope (top 8),[],[]⟩:He.DefD)
def d10:He.DefD:=(⟨("_law_same",none), "_law_same", "_law_same",defArgs (top 14),defBody (top 14),defScope (top 14),[],[]⟩:He.DefD)
def d11:He.DefD:=(⟨("_law_deed_read",none), "_law_deed_read", "_law_deed_read",defArgs (top 17),defBody (top 17),defScope (top 17),[],[]⟩:He.DefD)
def d12:He.DefD:=(⟨("read_deed",none), "read_deed", "read_deed",defArgs (top 9),defBody (top 9),defScope (top 9),[],[]⟩:He.DefD)
def d13:He.DefD:=(⟨("_law_asked_row",none), "_law_asked_row", "_law_asked_row",defArgs (top 18),defBody (top 18),defScope (top 18),[],[]⟩:He.DefD)
def d14:He.DefD:=(⟨("law",none), "law", "law",defArgs (top 19),defBody (top 19),defScope (top 19),[],[]⟩:He.DefD)
def fn:List He.DefD:=[d0,d1,d2,d3,d4,d5,d6,d7,d8,d9,d10,d11,d12,d13,d14]
def fa:List He.Fa:=[.free "all",
  .free "bool",
  .free "int",
  .free "isinstance",
  .free "len",
  .free "list",
  .free "range",
  .free "str",
  .free "tuple",
  .free "zip",
  .str "FIGURES" "0123456789",
  .glo "FORMS",
  .glo "BadRun",
  .glo "RideError",
  .exm "BadRun" "BadRun" true,
  .glo "_law_hat",
  .glo "_law_take",
  .glo "_law_names",
  .glo "_law_of",
  .glo "_law_deed_line",
  .glo "figure",
  .glo "thing_of",
  .glo "read_deed",
  .glo "deed_row",
  .glo "_law_same",
  .glo "_law_deed_read",
  .glo "_law_asked_row",
  .glo "law"]
def ts:List He.Tab:=[(fun K=>He.ga K "FORMS",["on", "off", "step", "answer", "carriers"])]
def exL (K:PySem.W.Frag):List Bool:=[tabB K (He.ga K "FORMS") [("on",.str "n"),("off",.str "t"),("step",.str "t"),("answer",.str "tn"),("carriers",.str "n")],
  xvB K (He.ga K "BadRun") "row",
  clsBfB K (He.ga K "RideError") "__init__" "ValueError.__init__",
  lamB K "law"]
def exB (K:PySem.W.Frag):Bool:=(exL K).all id
abbrev Rr:PySem.W.OpenRow:=PySem.W.OpenLaw.row PySem.Challenge.rw_ridepool_k55_deeds_as_rows
def asL:List Addr:=([3,6,4,24,45,48,55,62,67,72,79,86,93,98,105,110,117,124,131,0,23,44,54,61,66,71,78,85,92,97,104,109,116,123,130,22,25,42,43,49,51,52,53,56,58,59,60,63,65,68,70,73,75,76,77,80,82,83,84,87]:List Addr) ++ ([89,90,91,94,96,99,101,102,103,106,108,111,113,114,115,118,120,121,122,125,127,128,129,41,35,2]:List Addr)
abbrev hk:PySem.W.Hook:=hookL asL fa fn ts exB
def ob (s:PySem.W.SharedT):He.AlX:=obsL asL fa fn ts exB (HandSHeadRun.getT s)
theorem ob_eq (s:PySem.W.SharedT):ob s = hk.obs s.abs:=obsL_eq (HandSHeadRun.getT_eq s)
def loose:List PySem.Str:=(["RideError", "BadRun", "FIGURES", "FORMS", "figure", "thing_of", "deed_row", "read_deed", "_law_hat", "_law_take", "_law_of", "_law_same", "_law_names", "_law_deed_line", "_law_deed_read", "_law_asked_row"]:List PySem.Str)
open PySem.W PySem.Calls HandSHeadRun in
noncomputable def preR (w:World) (os:OsState):Option (Shared × Thread):=topGo treeTable PySem.Challenge.pw_ridepool_k55_deeds_as_rows w 11 (some (Value.ref 6)) 12 ⟨boot_heap w.params,#[],boot_drawn,boot_toks,os⟩ (topStub PySem.Challenge.pw_ridepool_k55_deeds_as_rows)
open PySem.W PySem.Calls HandSHeadRun in
noncomputable def Sa (w:World) (os:OsState):Shared:=match preR w os with
  | some (s,_)=>s
  | none=>⟨boot_heap w.params,#[],boot_drawn,boot_toks,os⟩
abbrev p0:Pos:={ line:=0,col:=0,endLine:=0,endCol:=0 }
abbrev pB:Pos:={ line:=0,col:=0,endLine:=0,endCol:=0 }
abbrev pK:Pos:={ line:=20,col:=0,endLine:=27,endCol:=34 }
open PySem.W in
def bE:List Stmt:=behindTheImports PySem.Challenge.pw_ridepool_k55_deeds_as_rows
open PySem.W in
noncomputable abbrev SbT (w:World) (os:OsState):SharedT:={ tree:=T55top.tree_4 w.params,n:=15,life:={ },gens:={ toList:=[] },drawn:={ },toks:=187,os:=os }
open PySem.W in
noncomputable abbrev SkT (w:World) (os:OsState):SharedT:={ tree:=T55top.tree_73 w.params,n:=73,life:={ },gens:={ toList:=[] },drawn:={ },toks:=280,os:=os }
def rest:List Stmt:=PySem.Challenge.pw_ridepool_k55_deeds_as_rows.main.body.drop (PySem.Challenge.pw_ridepool_k55_deeds_as_rows.main.body.length - 10)
open PySem.W in
noncomputable abbrev tK:Thread:=restOf rest T55top.env_1 (Code.body bE T55top.env_1) pK [topFrame p0]
open PySem.W PySem.Calls HandSHeadRun in
theorem pre12 (w:World) (os:OsState):topGo treeTable PySem.Challenge.pw_ridepool_k55_deeds_as_rows w 11 (some (Value.ref 6)) 12 ⟨boot_heap w.params,#[],boot_drawn,boot_toks,os⟩ (topStub PySem.Challenge.pw_ridepool_k55_deeds_as_rows) = some (Sa w os,⟨denote treeTable (.body bE T55top.env_1),.body bE T55top.env_1,p0,[topFrame p0]⟩):=by
  kernel_rfl
open PySem.W PySem.Calls HandSHeadRun in
theorem block (w:World) (os:OsState):segRun treeTable PySem.Challenge.pw_ridepool_k55_deeds_as_rows w 11 (some (Value.ref 6)) 1 1 (Sa w os) (blockOf bE T55top.env_1 (.body bE T55top.env_1) p0 [topFrame p0]) = some (.next,(SbT w os).abs,.body bE T55top.env_1,pB):=by
  kernel_rfl
theorem body_eq:T55top.sts_4 ++ (T55top.sts_21 ++ (T55top.sts_55 ++ rest)) = bE:=by
  kernel_rfl
theorem k_eq (n:Nat):12 + (1 + Nat.add 196 (Nat.add 380 (Nat.add 83 (n)))) = 672 + n:=by
  simp only [Nat.add_eq]
  omega
open PySem.W PySem.Calls HandSHeadRun in
theorem mid (w:World) (os:OsState) (n:Nat) (r:Shared) (h:topRun treeTable PySem.Challenge.pw_ridepool_k55_deeds_as_rows w 11 (some (Value.ref 6)) n (SkT w os).abs tK = some r):topRun treeTable PySem.Challenge.pw_ridepool_k55_deeds_as_rows w 11 (some (Value.ref 6)) (672 + n) ⟨boot_heap w.params,#[],boot_drawn,boot_toks,os⟩ (topStub PySem.Challenge.pw_ridepool_k55_deeds_as_rows) = some r:=by
  exact mid_of (pre12 w os) (block w os) body_eq (T55top.chain PySem.Challenge.pw_ridepool_k55_deeds_as_rows bE w os rest n r h) (k_eq n)
open PySem.W PySem.Calls HandSHeadRun in
theorem m0_ok (w:World):(boot_heap w.params).objs.size = 11 ∧ bootAnn w = (some (Value.ref 6)):=by
  refine ⟨?_,?_⟩
  · kernel_rfl
  · kernel_rfl
theorem run1 (w:World):RunM Rr.prog 9000 11 (some (Value.ref 6)) SkT (fun _ _=>tK) (fun w s=>HandSHeadRun.looksF Rr.prog (PySem.W.boot_heap w.params) s.abs) (fun _=>true) w:=by
  intro os
  kernel_rfl
theorem run2 (w:World):RunM Rr.prog 9000 11 (some (Value.ref 6)) SkT (fun _ _=>tK) (fun _ s=>HandSHeadRun.seenQ (PySem.W.view Rr.prog [19]) loose (PySem.importedModules Rr.prog.main.body) (fun s=>PySem.W.xlAt (PySem.W.view Rr.prog [19]) [] s && PySem.W.recOk Rr.toRowW.records s) s.abs) (fun _=>PySem.W.openGood (PySem.W.view Rr.prog [19]) loose) w:=by
  intro os
  kernel_rfl
theorem run3a (w:World):RunM Rr.prog 9000 11 (some (Value.ref 6)) SkT (fun _ _=>tK) (fun _ s=>fa.all fun f=>f.ok (He.frT (HandSHeadRun.getT s) asL)) (fun _=>true) w:=by
  intro os
  kernel_rfl
theorem run3b (w:World):RunM Rr.prog 9000 11 (some (Value.ref 6)) SkT (fun _ _=>tK) (fun _ s=>(fn.all fun d=>d.ok (He.frT (HandSHeadRun.getT s) asL),fn.map fun d=>He.fnW (He.frT (HandSHeadRun.getT s) asL) d.at_)) (fun _=>(true,fn.map He.DefD.val)) w:=by
  intro os
  kernel_rfl
theorem run3c (w:World):RunM Rr.prog 9000 11 (some (Value.ref 6)) SkT (fun _ _=>tK) (fun _ s=>(ts.map fun t=>He.dicW (He.frT (HandSHeadRun.getT s) asL) (t.1 (He.frT (HandSHeadRun.getT s) asL)),exB (He.frT (HandSHeadRun.getT s) asL))) (fun w=>(ts.map fun t=>some (He.keysIn w.params t.2),true)) w:=by
  intro os
  kernel_rfl
theorem run3 (w:World):RunM Rr.prog 9000 11 (some (Value.ref 6)) SkT (fun _ _=>tK) (fun _ s=>ob s) hk.val w:=hook_parts (run3a w) (run3b w) (run3c w)
end K55
section
open PySem PySem.W PySem.Calls PyProof.Rows
theorem K55.early (hc:WalkO (view (OpenLaw.row PySem.Challenge.rw_ridepool_k55_deeds_as_rows).prog [19]) K55.loose (XL (view (OpenLaw.row PySem.Challenge.rw_ridepool_k55_deeds_as_rows).prog [19]) []) K55.hk.says (OpenLaw.row PySem.Challenge.rw_ridepool_k55_deeds_as_rows).toRowW (HandSHeadRun.topDef (OpenLaw.row PySem.Challenge.rw_ridepool_k55_deeds_as_rows).prog 19) [] fun f vs=>PySem.call f vs):PySem.Challenge.rw_ridepool_k55_deeds_as_rows.Holds:=by
  w_on; o_law
  refine Rp.head_mid (r:=OpenLaw.row PySem.Challenge.rw_ridepool_k55_deeds_as_rows) (q:=view (OpenLaw.row PySem.Challenge.rw_ridepool_k55_deeds_as_rows).prog [19]) (H:=K55.hk) (ob:=K55.ob) (M:=9000) (K:=672) (m0:=11) (ann:=(some (Value.ref 6))) (Sk:=K55.SkT) (tk:=fun _ _=>K55.tK) (loose:=K55.loose) (d:=HandSHeadRun.topDef (OpenLaw.row PySem.Challenge.rw_ridepool_k55_deeds_as_rows).prog 19) (kwd:=[]) K55.ob_eq
    (by kernel_rfl) (fun s=>by kernel_rfl) K55.m0_ok K55.mid K55.run1 K55.run2 K55.run3 (by kernel_rfl) (by kernel_rfl) (by kernel_rfl) (by rfl) (by first | assumption | decide +kernel) (by decide +kernel) ⟨rfl,rfl,rfl,rfl,rfl,by decide +kernel⟩ ?hw hc
  w_witness2
end
end
section
namespace K55
open PySem PySem.Spec PyProof.Rows L2 Rp
def cl:Nat → Str × List Str
  | _=>("",[])
def xtc (ca:Nat → Addr):XT:=fun i=>match i with
  | 0=>(ca 100,some "row")
  | _=>(0,none)
structure Gv (P:Program) (w:World) (K:PySem.W.Frag) (mg:Str → Option Value) (ca:Nat → Addr):Prop where
  b_all:mg "all" = none
  b_bool:mg "bool" = none
  b_int:mg "int" = none
  b_isinstance:mg "isinstance" = none
  b_len:mg "len" = none
  b_list:mg "list" = none
  b_range:mg "range" = none
  b_str:mg "str" = none
  b_tuple:mg "tuple" = none
  b_zip:mg "zip" = none
  v_FIGURES:GlobV ⟨K,w,mg,cl⟩ "FIGURES" (.str "0123456789")
  v_FORMS:GlobV ⟨K,w,mg,cl⟩ "FORMS" (.nod (.tab [.inr "on",.inr "off",.inr "step",.inr "answer",.inr "carriers"]) [(.str "n"),(.str "t"),(.str "t"),(.str "tn"),(.str "n")])
  xn0:XV K mg (ca 100) (ca 80) "BadRun" "row"
  xvi0:∃ fd,FunD K "__init__" "BadRun.__init__" (defArgs (inCls (top 2) 0)) (defBody (inCls (top 2) 0)) (defScope (inCls (top 2) 0)) [.int 0] [] (ca 80) fd
  xve:VeC K mg "RideError" (ca 98)
  my_BadRun:mg "BadRun" = some (.ref (ca 100))
  hx_BadRun:∀ c,c < 1 → PySem.W.exmOne K (.ref (xtc ca c).1) (.ref (ca 100)) = some ((fun c=>([0]:List Nat).contains c) c)
  d__law_hat:∃ f fd,mg "_law_hat" = some (.ref f) ∧ FunD K "_law_hat" "_law_hat" (defArgs (top 11)) (defBody (top 11)) (defScope (top 11)) [] [] f fd
  d__law_take:∃ f fd,mg "_law_take" = some (.ref f) ∧ FunD K "_law_take" "_law_take" (defArgs (top 12)) (defBody (top 12)) (defScope (top 12)) [] [] f fd
  d__law_names:∃ f fd,mg "_law_names" = some (.ref f) ∧ FunD K "_law_names" "_law_names" (defArgs (top 15)) (defBody (top 15)) (defScope (top 15)) [] [] f fd
  d__law_of:∃ f fd,mg "_law_of" = some (.ref f) ∧ FunD K "_law_of" "_law_of" (defArgs (top 13)) (defBody (top 13)) (defScope (top 13)) [] [] f fd
  d__law_deed_line:∃ f fd,mg "_law_deed_line" = some (.ref f) ∧ FunD K "_law_deed_line" "_law_deed_line" (defArgs (top 16)) (defBody (top 16)) (defScope (top 16)) [] [] f fd
  d_figure:∃ f fd,mg "figure" = some (.ref f) ∧ FunD K "figure" "figure" (defArgs (top 6)) (defBody (top 6)) (defScope (top 6)) [] [] f fd
  d_thing_of:∃ f fd,mg "thing_of" = some (.ref f) ∧ FunD K "thing_of" "thing_of" (defArgs (top 7)) (defBody (top 7)) (defScope (top 7)) [] [] f fd
  d_read_deed:∃ f fd,mg "read_deed" = some (.ref f) ∧ FunD K "read_deed" "read_deed" (defArgs (top 9)) (defBody (top 9)) (defScope (top 9)) [] [] f fd
  d_deed_row:∃ f fd,mg "deed_row" = some (.ref f) ∧ FunD K "deed_row" "deed_row" (defArgs (top 8)) (defBody (top 8)) (defScope (top 8)) [] [] f fd
  d__law_same:∃ f fd,mg "_law_same" = some (.ref f) ∧ FunD K "_law_same" "_law_same" (defArgs (top 14)) (defBody (top 14)) (defScope (top 14)) [] [] f fd
  d__law_deed_read:∃ f fd,mg "_law_deed_read" = some (.ref f) ∧ FunD K "_law_deed_read" "_law_deed_read" (defArgs (top 17)) (defBody (top 17)) (defScope (top 17)) [] [] f fd
  d_read_deedX:∃ f fd,mg "read_deed" = some (.ref f) ∧ FunD K "read_deed" "read_deed" (defArgs (top 9)) (defBody (top 9)) (defScope (top 9)) [] [] f fd
  d__law_asked_row:∃ f fd,mg "_law_asked_row" = some (.ref f) ∧ FunD K "_law_asked_row" "_law_asked_row" (defArgs (top 18)) (defBody (top 18)) (defScope (top 18)) [] [] f fd
  d_law:∃ f fd,mg "law" = some (.ref f) ∧ FunD K "law" "law" (defArgs (top 19)) (defBody (top 19)) (defScope (top 19)) [] [] f fd
theorem sc_xvi0:FnScope ["self", "row"] ["self", "row"] (defScope (inCls (top 2) 0)):=⟨rfl,rfl,rfl,by decide +kernel,rfl,by decide +kernel,by decide +kernel⟩
abbrev FunX (K:PySem.W.Frag) (x q:Str) (t:Stmt) (f:Addr) (fd:FuncData):Prop:=FunD K x q (defArgs t) (defBody t) (defScope t) [] [] f fd
variable {P:Program} {w:World} {K:PySem.W.Frag} {mg:Str → Option Value} {base:Heap} {ca:Nat → Addr}
theorem xf_0 (g:Gv P w K mg ca):XFactV P w K mg base (xtc ca) 0 "BadRun" "row" := by
  obtain ⟨h1,h2,h3,h4,h5,h6⟩:=g.xn0
  obtain ⟨fd,F⟩:=g.xvi0
  obtain ⟨ds,hds,hb⟩:=F.binds1 (ps:=["self", "row"]) 2 1 (by simp) rfl (fun T kV doc pm an cdv ct us its h1 h2=>match us,its,h1,h2 with | [_,_],[_],_,_=>⟨_,rfl,rfl⟩)
  have hds2:Vals [] ds:=hds
  cases hds2
  exact ⟨ca 100,ca 80,fd,_,rfl,h1,h2,h4,h5,h6,vi_ok (m := "no run at ") F sc_xvi0 (by decide +kernel) fun cdv A outer s H E=>vi_body g.xve rfl rfl (.inl rfl) (.inl rfl) rfl,hb⟩
theorem xfl_BadRun {ca:Nat → Addr}:∀ c,c < 1 → (fun c=>([0]:List Nat).contains c) c = true → (xtc ca c).2 = some "row" := by
  intro c hc hh
  rcases (by omega:c = 0) with rfl
  · rfl
theorem xT_BadRun {P:Program} {w:World} {K:PySem.W.Frag} {mg:Str → Option Value} {ca:Nat → Addr} (g:Gv P w K mg ca):∀ c,c < 1 → (fun c=>([0]:List Nat).contains c) c = true → XfC K (xtc ca c).1 ∧ PySem.W.findIn K (.ref (xtc ca c).1) "row" = some none:=by
  intro c hc hh
  rcases (by omega:c = 0) with rfl
  · exact ⟨g.xn0.2.2.1,g.xn0.2.2.2.1⟩
def B__law_hat:AS :=
  (aRet (aArgs (mkM .lst) (aCons (aArgs (one (aListV mkF)) (aCons (aSlice mkF (aVar 0) aNo (aPart (aC (.int 63)))) aNil)) (aCons (aC (.int 0)) (aCons (aC (.int 0)) (aCons (aC (.int 977)) aNil))))))
theorem sc__law_hat:FnScope ["_law_script"] ["_law_script"] (defScope (top 11)):=⟨rfl,rfl,rfl,by decide +kernel,rfl,by decide +kernel,by decide +kernel⟩
def F__law_hat:AF:=lenF 1 (fnA 1 B__law_hat)
theorem ok__law_hat (g:Gv P w K mg ca) {f:Addr} {fd:FuncData} (F:FunX K "_law_hat" "_law_hat" (top 11) f fd):FnOk P w K mg base CX0 1 f fd ["_law_script"] (spA ⟨K,w,mg,cl⟩ 1 F__law_hat):=by
  refine fn_ok F sc__law_hat 1 1 rfl rfl B__law_hat fun cdv A outer s H E hr hu=>?_
  exact (as_one (as_ret (ae_lstM (aa_cons (w_list (.inl rfl) g.b_list (aa_cons (ae_slice (.inl rfl) (ae_var 0) ao_none (ao_some ae_int)) aa_nil)) (aa_cons ae_int (aa_cons ae_int (aa_cons ae_int aa_nil)))))))
theorem cal__law_hat (g:Gv P w K mg ca):CalF P w K mg base cl (1) "_law_hat" 1 [] F__law_hat:=by
  obtain ⟨f,fd,hm,F⟩:=g.d__law_hat
  exact ⟨f,fd,_,[],[],hm,F.kp,(ok__law_hat g F),(F.bindsN fun _ _ _ _ _ _ us hl=>match us,hl with | [_],_=>rfl),.nil,fun _=>rfl⟩
def B__law_take:AS :=
  (aSeq (aIfS (aAnd (aTst (aOp2 aLt (aOp2 aIx (aVar 0) (aC (.int 2))) (aVar 1))) (aTst (aOp2 aLt (aOp2 aIx (aVar 0) (aC (.int 1))) (aArgs (one aLenV) (aCons (aOp2 aIx (aVar 0) (aC (.int 0))) aNil))))) (aSeq (aAsg (aOp2 aIx (aOp2 aIx (aVar 0) (aC (.int 0))) (aOp2 aIx (aVar 0) (aC (.int 1)))) (gNm 2))
    (aSeq (aAsg (aOp2 aAdd (aOp2 aIx (aVar 0) (aC (.int 1))) (aC (.int 1))) (gIx (aVar 0) (aC (.int 1))))
    (aSeq (aAsg (aOp2 aMod (aOp2 aAdd (aOp2 aAdd (aOp2 aMul (aOp2 aIx (aVar 0) (aC (.int 3))) (aC (.int 52391))) (aOp2 aMul (aVar 2) (aC (.int 31)))) (aOp2 aIx (aVar 0) (aC (.int 1)))) (aC (.int 2305843009213693951))) (gIx (aVar 0) (aC (.int 3))))
    (aAsg (aIf (aTst (aOp2 aGe (aVar 2) (aOp2 aPow (aC (.int 10)) (aC (.int 18))))) (aVar 2) (aC (.int 0))) (gIx (aVar 0) (aC (.int 2))))))) aPass)
    (aSeq (aIfS (aTst (aOp2 aGe (aOp2 aIx (aVar 0) (aC (.int 2))) (aVar 1))) (aSeq (aAsg (aOp2 aMod (aOp2 aIx (aVar 0) (aC (.int 2))) (aVar 1)) (gNm 3))
    (aSeq (aAsg (aOp2 aDiv (aOp2 aIx (aVar 0) (aC (.int 2))) (aVar 1)) (gIx (aVar 0) (aC (.int 2))))
    (aRet (aVar 3)))) aPass)
    (aSeq (aAsg (aOp2 aMod (aOp2 aMul (aOp2 aIx (aVar 0) (aC (.int 3))) (aOp2 aIx (aVar 0) (aC (.int 3)))) (aC (.int 2305843009213693951))) (gNm 4))
    (aSeq (aAsg (aOp2 aMod (aOp2 aAdd (aOp2 aAdd (aOp2 aMul (aVar 4) (aC (.int 48271))) (aOp2 aMul (aOp2 aIx (aVar 0) (aC (.int 3))) (aC (.int 16807)))) (aC (.int 12345))) (aC (.int 2305843009213693951))) (gIx (aVar 0) (aC (.int 3))))
    (aRet (aOp2 aMod (aOp2 aDiv (aOp2 aIx (aVar 0) (aC (.int 3))) (aC (.int 1021))) (aVar 1)))))))
theorem sc__law_take:FnScope ["_law_hat_here", "_law_many", "_law_cell", "_law_digit", "_law_mixed"] ["_law_hat_here", "_law_many"] (defScope (top 12)):=⟨rfl,rfl,rfl,by decide +kernel,rfl,by decide +kernel,by decide +kernel⟩
def F__law_take:AF:=lenF 2 (fnA 5 B__law_take)
theorem ok__law_take (g:Gv P w K mg ca) {f:Addr} {fd:FuncData} (F:FunX K "_law_take" "_law_take" (top 12) f fd):FnOk P w K mg base CX0 1 f fd ["_law_hat_here", "_law_many"] (spA ⟨K,w,mg,cl⟩ 2 F__law_take):=by
  refine fn_ok F sc__law_take 5 2 rfl rfl B__law_take fun cdv A outer s H E hr hu=>?_
  have hN:=sc__law_take.nd
  exact (as_cons (as_if (PW.pt (aw_and (at_cmp op_lt s_lt (ae_ix hu (ae_var 0) ae_int) (ae_var 1)) (aw_and1 (at_cmp op_lt s_lt (ae_ix hu (ae_var 0) ae_int) (w_len g.b_len (aa_cons (ae_ix hu (ae_var 0) ae_int) aa_nil)))))) (as_cons (as_set 2 hN (ae_ix hu (ae_ix hu (ae_var 0) ae_int) (ae_ix hu (ae_var 0) ae_int)))
    (as_cons (as_asg (ae_add (ae_ix hu (ae_var 0) ae_int) ae_int) (ag_ix hu (ae_var 0) ae_int (h:=fun h1 h2 h3=>pg_sub h1 h2 h3)))
    (as_cons (as_asg (ae_mod (ae_add (ae_add (ae_mul (ae_ix hu (ae_var 0) ae_int) ae_int) (ae_mul (ae_var 2) ae_int)) (ae_ix hu (ae_var 0) ae_int)) ae_int) (ag_ix hu (ae_var 0) ae_int (h:=fun h1 h2 h3=>pg_sub h1 h2 h3)))
    (as_one (as_asg (ae_ife (at_cmp op_ge s_ge (ae_var 2) (ae_pow ae_int ae_int)) (ae_var 2) ae_int) (ag_ix hu (ae_var 0) ae_int (h:=fun h1 h2 h3=>pg_sub h1 h2 h3))))))) as_nil)
    (as_cons (as_if (at_cmp op_ge s_ge (ae_ix hu (ae_var 0) ae_int) (ae_var 1)) (as_cons (as_set 3 hN (ae_mod (ae_ix hu (ae_var 0) ae_int) (ae_var 1)))
    (as_cons (as_asg (ae_div (ae_ix hu (ae_var 0) ae_int) (ae_var 1)) (ag_ix hu (ae_var 0) ae_int (h:=fun h1 h2 h3=>pg_sub h1 h2 h3)))
    (as_one (as_ret (ae_var 3))))) as_nil)
    (as_cons (as_set 4 hN (ae_mod (ae_mul (ae_ix hu (ae_var 0) ae_int) (ae_ix hu (ae_var 0) ae_int)) ae_int))
    (as_cons (as_asg (ae_mod (ae_add (ae_add (ae_mul (ae_var 4) ae_int) (ae_mul (ae_ix hu (ae_var 0) ae_int) ae_int)) ae_int) ae_int) (ag_ix hu (ae_var 0) ae_int (h:=fun h1 h2 h3=>pg_sub h1 h2 h3)))
    (as_one (as_ret (ae_mod (ae_div (ae_ix hu (ae_var 0) ae_int) ae_int) (ae_var 1))))))))
theorem cal__law_take (g:Gv P w K mg ca):CalF P w K mg base cl (1) "_law_take" 2 [] F__law_take:=by
  obtain ⟨f,fd,hm,F⟩:=g.d__law_take
  exact ⟨f,fd,_,[],[],hm,F.kp,(ok__law_take g F),(F.bindsN fun _ _ _ _ _ _ us hl=>match us,hl with | [_,_],_=>rfl),.nil,fun _=>rfl⟩
def B__law_names:AS :=
  (aSeq (aAsg (aOp2 aIx (aArgs (mkF .lst) (aCons (aC (.str "")) (aCons (aC (.str "x")) (aCons (aC (.str "pear")) (aCons (aC (.str "aaaaaaa")) (aCons (aC (.str "qzqz")) (aCons (aC (.str "bb")) (aCons (aC (.str "tree")) aNil)))))))) (aCall F__law_take [] (aCons (aVar 0) (aCons (aC (.int 7)) aNil)))) (gNm 2))
    (aSeq (aAsg (aCall F__law_take [] (aCons (aVar 0) (aCons (aOp2 aAdd (aArgs (one aLenV) (aCons (aVar 2) aNil)) (aC (.int 1))) aNil))) (gNm 3))
    (aSeq (aAsg (aCall F__law_take [] (aCons (aVar 0) (aCons (aC (.int 26)) aNil))) (gNm 4))
    (aSeq (aAsg (aOp2 aIx (aArgs (mkF .lst) (aCons (aC (.int 1)) (aCons (aC (.int 3)) (aCons (aC (.int 5)) (aCons (aC (.int 7)) (aCons (aC (.int 9)) (aCons (aC (.int 11)) aNil))))))) (aCall F__law_take [] (aCons (aVar 0) (aCons (aC (.int 6)) aNil)))) (gNm 5))
    (aSeq (aAsg (aArgs (mkM .lst) aNil) (gNm 6))
    (aSeq (aFor (sRng1 (aCons (aVar 1) aNil)) (gNm 7) (aSeq (aAsg (aOp2 aIx (aC (.str "abcdefghijklmnopqrstuvwxyz")) (aOp2 aMod (aOp2 aAdd (aVar 4) (aOp2 aMul (aVar 5) (aVar 7))) (aC (.int 26)))) (gNm 8))
    (aExp (aBM "list" aAppend (aVar 6) (aCons (aOp2 aAdd (aOp2 aAdd (aSlice mkF (aVar 2) aNo (aPart (aVar 3))) (aVar 8)) (aSlice mkF (aVar 2) (aPart (aVar 3)) aNo)) aNil)))))
    (aRet (aFrz 1 (aVar 6)))))))))
theorem sc__law_names:FnScope ["_law_hat_here", "_law_many", "_law_tail", "_law_at", "_law_begin", "_law_pace", "_law_found", "_law_k", "_law_sign"] ["_law_hat_here", "_law_many"] (defScope (top 15)):=⟨rfl,rfl,rfl,by decide +kernel,rfl,by decide +kernel,by decide +kernel⟩
def F__law_names:AF:=lenF 2 (fnA 9 B__law_names)
theorem ok__law_names (g:Gv P w K mg ca) {f:Addr} {fd:FuncData} (F:FunX K "_law_names" "_law_names" (top 15) f fd):FnOk P w K mg base CX0 2 f fd ["_law_hat_here", "_law_many"] (spA ⟨K,w,mg,cl⟩ 2 F__law_names):=by
  refine fn_ok F sc__law_names 9 2 rfl rfl B__law_names fun cdv A outer s H E hr hu=>?_
  have hN:=sc__law_names.nd
  have hc:(cxOf CX0 P w K mg base ["_law_hat_here", "_law_many", "_law_tail", "_law_at", "_law_begin", "_law_pace", "_law_found", "_law_k", "_law_sign"] "_law_names" (defScope (top 15)) f cdv A outer s H E).nox.calm = true:=rfl
  exact (as_cons (as_set 2 hN (ae_ix hu (ae_lstF (aa_cons ae_str (aa_cons ae_str (aa_cons ae_str (aa_cons ae_str (aa_cons ae_str (aa_cons ae_str (aa_cons ae_str aa_nil)))))))) (ae_call (cal__law_take g) (hr.mono (by omega)) (aa_cons (ae_var 0) (aa_cons ae_int aa_nil)))))
    (as_cons (as_set 3 hN (ae_call (cal__law_take g) (hr.mono (by omega)) (aa_cons (ae_var 0) (aa_cons (ae_add (w_len g.b_len (aa_cons (ae_var 2) aa_nil)) ae_int) aa_nil))))
    (as_cons (as_set 4 hN (ae_call (cal__law_take g) (hr.mono (by omega)) (aa_cons (ae_var 0) (aa_cons ae_int aa_nil))))
    (as_cons (as_set 5 hN (ae_ix hu (ae_lstF (aa_cons ae_int (aa_cons ae_int (aa_cons ae_int (aa_cons ae_int (aa_cons ae_int (aa_cons ae_int aa_nil))))))) (ae_call (cal__law_take g) (hr.mono (by omega)) (aa_cons (ae_var 0) (aa_cons ae_int aa_nil)))))
    (as_cons (as_set 6 hN (ae_lstM aa_nil))
    (as_cons (as_for PassesOwn.never hc (ai_range1 rfl g.b_range (aa_cons (ae_var 1) aa_nil)) (ag_name 7 hN) (as_cons (as_set 8 hN (ae_ix hu ae_str (ae_mod (ae_add (ae_var 4) (ae_mul (ae_var 5) (ae_var 7))) ae_int)))
    (as_one (as_expr (w_append (ae_var 6) (aa_cons (ae_add (ae_add (ae_slice (.inl rfl) (ae_var 2) ao_none (ao_some (ae_var 3))) (ae_var 8)) (ae_slice (.inl rfl) (ae_var 2) (ao_some (ae_var 3)) ao_none)) aa_nil))))))
    (as_one (as_ret (ae_frz 1 (ae_var 6))))))))))
theorem cal__law_names (g:Gv P w K mg ca):CalF P w K mg base cl (2) "_law_names" 2 [] F__law_names:=by
  obtain ⟨f,fd,hm,F⟩:=g.d__law_names
  exact ⟨f,fd,_,[],[],hm,F.kp,(ok__law_names g F),(F.bindsN fun _ _ _ _ _ _ us hl=>match us,hl with | [_,_],_=>rfl),.nil,fun _=>rfl⟩
def B__law_of:AS :=
  (aRet (aOp2 aIx (aVar 1) (aCall F__law_take [] (aCons (aVar 0) (aCons (aArgs (one aLenV) (aCons (aVar 1) aNil)) aNil)))))
theorem sc__law_of:FnScope ["_law_hat_here", "_law_some"] ["_law_hat_here", "_law_some"] (defScope (top 13)):=⟨rfl,rfl,rfl,by decide +kernel,rfl,by decide +kernel,by decide +kernel⟩
def F__law_of:AF:=lenF 2 (fnA 2 B__law_of)
theorem ok__law_of (g:Gv P w K mg ca) {f:Addr} {fd:FuncData} (F:FunX K "_law_of" "_law_of" (top 13) f fd):FnOk P w K mg base CX0 2 f fd ["_law_hat_here", "_law_some"] (spA ⟨K,w,mg,cl⟩ 2 F__law_of):=by
  refine fn_ok F sc__law_of 2 2 rfl rfl B__law_of fun cdv A outer s H E hr hu=>?_
  exact (as_one (as_ret (ae_ix hu (ae_var 1) (ae_call (cal__law_take g) (hr.mono (by omega)) (aa_cons (ae_var 0) (aa_cons (w_len g.b_len (aa_cons (ae_var 1) aa_nil)) aa_nil))))))
theorem cal__law_of (g:Gv P w K mg ca):CalF P w K mg base cl (2) "_law_of" 2 [] F__law_of:=by
  obtain ⟨f,fd,hm,F⟩:=g.d__law_of
  exact ⟨f,fd,_,[],[],hm,F.kp,(ok__law_of g F),(F.bindsN fun _ _ _ _ _ _ us hl=>match us,hl with | [_,_],_=>rfl),.nil,fun _=>rfl⟩
def B__law_deed_line:AS :=
  (aRet (aBM "str" aJoin (aC (.str " ")) (aCons (aLc mkF (sVal (aVar 0)) (gNm 1) aYes (aArgs aStr2 (aCons (aVar 1) aNil)) [1]) aNil)))
theorem sc__law_deed_line:FnScope ["_law_deed", "_law_thing"] ["_law_deed"] (defScope (top 16)):=⟨rfl,rfl,rfl,by decide +kernel,rfl,by decide +kernel,by decide +kernel⟩
def F__law_deed_line:AF:=lenF 1 (fnA 2 B__law_deed_line)
theorem ok__law_deed_line (g:Gv P w K mg ca) {f:Addr} {fd:FuncData} (F:FunX K "_law_deed_line" "_law_deed_line" (top 16) f fd):FnOk P w K mg base CX0 1 f fd ["_law_deed"] (spA ⟨K,w,mg,cl⟩ 1 F__law_deed_line):=by
  refine fn_ok F sc__law_deed_line 2 1 rfl rfl B__law_deed_line fun cdv A outer s H E hr hu=>?_
  have hN:=sc__law_deed_line.nd
  have hc:(cxOf CX0 P w K mg base ["_law_deed", "_law_thing"] "_law_deed_line" (defScope (top 16)) f cdv A outer s H E).nox.calm = true:=rfl
  exact (as_one (as_ret (w_join ae_str (aa_cons (ae_lc (own:=[("_law_thing",1)]) (.inl rfl) hc hN (ai_val (ae_var 0)) (blkOk_by (by kernel_rfl)) (fun _ _ _ _ _=>(av_name 1 hN)) (fun _ _ _ _ _=>at_none) (fun _ _ _ _ _=>(w_str g.b_str (aa_cons (ae_var 1) aa_nil)))) aa_nil))))
theorem cal__law_deed_line (g:Gv P w K mg ca):CalF P w K mg base cl (1) "_law_deed_line" 1 [] F__law_deed_line:=by
  obtain ⟨f,fd,hm,F⟩:=g.d__law_deed_line
  exact ⟨f,fd,_,[],[],hm,F.kp,(ok__law_deed_line g F),(F.bindsN fun _ _ _ _ _ _ us hl=>match us,hl with | [_],_=>rfl),.nil,fun _=>rfl⟩
def B_figure:AS :=
  (aRet (aIf (aAnd (aTst (aOp2 aEq (aArgs (one aLenV) (aCons (aVar 0) aNil)) (aC (.int 1)))) (aTst (aOp2 aIn (aVar 0) (aC (.str "0123456789"))))) (aArgs aInt2 (aCons (aVar 0) aNil)) (aC .non)))
theorem sc_figure:FnScope ["word"] ["word"] (defScope (top 6)):=⟨rfl,rfl,rfl,by decide +kernel,rfl,by decide +kernel,by decide +kernel⟩
def F_figure:AF:=lenF 1 (fnA 1 B_figure)
theorem ok_figure (g:Gv P w K mg ca) {f:Addr} {fd:FuncData} (F:FunX K "figure" "figure" (top 6) f fd):FnOk P w K mg base CX0 1 f fd ["word"] (spA ⟨K,w,mg,cl⟩ 1 F_figure):=by
  refine fn_ok F sc_figure 1 1 rfl rfl B_figure fun cdv A outer s H E hr hu=>?_
  exact (as_one (as_ret (ae_ife (PW.pt (aw_and (at_cmp (op_eqP hu) s_eq (w_len g.b_len (aa_cons (ae_var 0) aa_nil)) ae_int) (aw_and1 (at_cmp (o_in hu) s_in (ae_var 0) (ae_glob g.v_FIGURES))))) (w_int2 g.b_int (aa_cons (ae_var 0) aa_nil)) ae_non)))
theorem cal_figure (g:Gv P w K mg ca):CalF P w K mg base cl (1) "figure" 1 [] F_figure:=by
  obtain ⟨f,fd,hm,F⟩:=g.d_figure
  exact ⟨f,fd,_,[],[],hm,F.kp,(ok_figure g F),(F.bindsN fun _ _ _ _ _ _ us hl=>match us,hl with | [_],_=>rfl),.nil,fun _=>rfl⟩
def B_thing_of:AS :=
  (aSeq (aIfS (aTst (aOp2 aEq (aVar 0) (aC (.str "n")))) (aRet (aCall F_figure [] (aCons (aVar 1) aNil))) aPass)
    (aRet (aIf (aTst (aOp2 aNe (aVar 1) (aC (.str "")))) (aVar 1) (aC .non))))
theorem sc_thing_of:FnScope ["sign", "word"] ["sign", "word"] (defScope (top 7)):=⟨rfl,rfl,rfl,by decide +kernel,rfl,by decide +kernel,by decide +kernel⟩
def F_thing_of:AF:=lenF 2 (fnA 2 B_thing_of)
theorem ok_thing_of (g:Gv P w K mg ca) {f:Addr} {fd:FuncData} (F:FunX K "thing_of" "thing_of" (top 7) f fd):FnOk P w K mg base CX0 2 f fd ["sign", "word"] (spA ⟨K,w,mg,cl⟩ 2 F_thing_of):=by
  refine fn_ok F sc_thing_of 2 2 rfl rfl B_thing_of fun cdv A outer s H E hr hu=>?_
  exact (as_cons (as_if (at_cmp (op_eqP hu) s_eq (ae_var 0) ae_str) (as_one (as_ret (ae_call (cal_figure g) (hr.mono (by omega)) (aa_cons (ae_var 1) aa_nil)))) as_nil)
    (as_one (as_ret (ae_ife (at_cmp (op_neP hu) snd_ne (ae_var 1) ae_str) (ae_var 1) ae_non))))
theorem cal_thing_of (g:Gv P w K mg ca):CalF P w K mg base cl (2) "thing_of" 2 [] F_thing_of:=by
  obtain ⟨f,fd,hm,F⟩:=g.d_thing_of
  exact ⟨f,fd,_,[],[],hm,F.kp,(ok_thing_of g F),(F.bindsN fun _ _ _ _ _ _ us hl=>match us,hl with | [_,_],_=>rfl),.nil,fun _=>rfl⟩
def B_read_deed:AS :=
  (aSeq (aAsg (aBM "str" (aSplit mkF) (aVar 0) (aCons (aC (.str " ")) aNil)) (gStar 2 1 (gsCons (gNm 1) (gsCons (gNm 2) gsNil))))
    (aSeq (aIfS (aOr (aTst (aOp2 aNotIn (aVar 1) (aC (.nod (.tab [.inr "on",.inr "off",.inr "step",.inr "answer",.inr "carriers"]) [(.str "n"),(.str "t"),(.str "t"),(.str "tn"),(.str "n")])))) (aTst (aOp2 aNe (aArgs (one aLenV) (aCons (aOp2 aIx (aC (.nod (.tab [.inr "on",.inr "off",.inr "step",.inr "answer",.inr "carriers"]) [(.str "n"),(.str "t"),(.str "t"),(.str "tn"),(.str "n")])) (aVar 1)) aNil)) (aArgs (one aLenV) (aCons (aVar 2) aNil))))) aStuck aPass)
    (aSeq (aAsg (aLc mkF (sZipS (aCons (aOp2 aIx (aC (.nod (.tab [.inr "on",.inr "off",.inr "step",.inr "answer",.inr "carriers"]) [(.str "n"),(.str "t"),(.str "t"),(.str "tn"),(.str "n")])) (aVar 1)) (aCons (aVar 2) aNil))) (gSq 2 (gsCons (gNm 4) (gsCons (gNm 5) gsNil))) aYes (aCall F_thing_of [] (aCons (aVar 4) (aCons (aVar 5) aNil))) [4,5]) (gNm 3))
    (aSeq (aIfS (aTst (aOp2 aIn (aC .non) (aVar 3))) aStuck aPass)
    (aRet (aArgs (one aTupV) (aCons (aOp2 aAdd (aArgs (mkF .lst) (aCons (aVar 1) aNil)) (aVar 3)) aNil)))))))
theorem sc_read_deed:FnScope ["row", "first", "rest", "things", "sign", "word"] ["row"] (defScope (top 9)):=⟨rfl,rfl,rfl,by decide +kernel,rfl,by decide +kernel,by decide +kernel⟩
def F_read_deed:AF:=lenF 1 (fnA 6 B_read_deed)
theorem ok_read_deed (g:Gv P w K mg ca) {f:Addr} {fd:FuncData} (F:FunX K "read_deed" "read_deed" (top 9) f fd):FnOk P w K mg base CX0 3 f fd ["row"] (spA ⟨K,w,mg,cl⟩ 1 F_read_deed):=by
  refine fn_ok F sc_read_deed 6 1 rfl rfl B_read_deed fun cdv A outer s H E hr hu=>?_
  have hN:=sc_read_deed.nd
  have hc:(cxOf CX0 P w K mg base ["row", "first", "rest", "things", "sign", "word"] "read_deed" (defScope (top 9)) f cdv A outer s H E).nox.calm = true:=rfl
  exact (as_cons (as_asg ((w_split (.inl rfl)) (ae_var 0) (aa_cons ae_str aa_nil)) (ag_star 2 1 hc (ags_cons (ag_name 1 hN) (ags_cons (ag_name 2 hN) ags_nil))))
    (as_cons (as_if (PW.pt (aw_or (at_cmp (o_notIn hu) s_in (ae_var 1) (ae_glob g.v_FORMS)) (aw_or1 (at_cmp (op_neP hu) snd_ne (w_len g.b_len (aa_cons (ae_ix hu (ae_glob g.v_FORMS) (ae_var 1)) aa_nil)) (w_len g.b_len (aa_cons (ae_var 2) aa_nil)))))) (as_one as_never) as_nil)
    (as_cons (as_setLc (own:=[("sign",4),("word",5)]) 3 (.inl rfl) hc hN (ai_zipS rfl g.b_zip (aa_cons (ae_ix hu (ae_glob g.v_FORMS) (ae_var 1)) (aa_cons (ae_var 2) aa_nil))) (blkOk_by (by kernel_rfl)) (fun _ _ _ _ _=>(av_sq (n:=2) hc (avs_cons (av_name 4 hN) (avs_cons (av_name 5 hN) avs_nil)))) (fun _ _ _ _ _=>at_none) (fun _ _ _ _ _=>(ae_call (cal_thing_of g) (hr.mono (by omega)) (aa_cons (ae_var 4) (aa_cons (ae_var 5) aa_nil)))) (sw_true rfl rfl rfl rfl))
    (as_cons (as_if (at_cmp (o_in hu) s_in ae_non (ae_var 3)) (as_one as_never) as_nil)
    (as_one (as_ret (w_tuple g.b_tuple (aa_cons (ae_add (ae_lstF (aa_cons (ae_var 1) aa_nil)) (ae_var 3)) aa_nil))))))))
theorem cal_read_deed (g:Gv P w K mg ca):CalF P w K mg base cl (3) "read_deed" 1 [] F_read_deed:=by
  obtain ⟨f,fd,hm,F⟩:=g.d_read_deed
  exact ⟨f,fd,_,[],[],hm,F.kp,(ok_read_deed g F),(F.bindsN fun _ _ _ _ _ _ us hl=>match us,hl with | [_],_=>rfl),.nil,fun _=>rfl⟩
def B_deed_row:AS :=
  (aRet (aBM "str" aJoin (aC (.str " ")) (aCons (aLc mkF (sVal (aVar 0)) (gNm 1) aYes (aArgs aStr2 (aCons (aVar 1) aNil)) [1]) aNil)))
theorem sc_deed_row:FnScope ["deed", "thing"] ["deed"] (defScope (top 8)):=⟨rfl,rfl,rfl,by decide +kernel,rfl,by decide +kernel,by decide +kernel⟩
def F_deed_row:AF:=lenF 1 (fnA 2 B_deed_row)
theorem ok_deed_row (g:Gv P w K mg ca) {f:Addr} {fd:FuncData} (F:FunX K "deed_row" "deed_row" (top 8) f fd):FnOk P w K mg base CX0 1 f fd ["deed"] (spA ⟨K,w,mg,cl⟩ 1 F_deed_row):=by
  refine fn_ok F sc_deed_row 2 1 rfl rfl B_deed_row fun cdv A outer s H E hr hu=>?_
  have hN:=sc_deed_row.nd
  have hc:(cxOf CX0 P w K mg base ["deed", "thing"] "deed_row" (defScope (top 8)) f cdv A outer s H E).nox.calm = true:=rfl
  exact (as_one (as_ret (w_join ae_str (aa_cons (ae_lc (own:=[("thing",1)]) (.inl rfl) hc hN (ai_val (ae_var 0)) (blkOk_by (by kernel_rfl)) (fun _ _ _ _ _=>(av_name 1 hN)) (fun _ _ _ _ _=>at_none) (fun _ _ _ _ _=>(w_str g.b_str (aa_cons (ae_var 1) aa_nil)))) aa_nil))))
theorem cal_deed_row (g:Gv P w K mg ca):CalF P w K mg base cl (1) "deed_row" 1 [] F_deed_row:=by
  obtain ⟨f,fd,hm,F⟩:=g.d_deed_row
  exact ⟨f,fd,_,[],[],hm,F.kp,(ok_deed_row g F),(F.bindsN fun _ _ _ _ _ _ us hl=>match us,hl with | [_],_=>rfl),.nil,fun _=>rfl⟩
def B__law_same (R__law_same:AF):AS :=
  (aSeq (aIfS (aTst (aOp2 aIs (aVar 1) (aC .non))) (aRet (aOp2 aIs (aVar 0) (aC .non))) aPass)
    (aSeq (aIfS (aOr (aTst (aArgs (two aIsi) (aCons (aVar 1) (aCons (aC (.ty "bool")) aNil)))) (aTst (aArgs (two aIsi) (aCons (aVar 0) (aCons (aC (.ty "bool")) aNil))))) (aRet (aAndV (aArgs (two aIsi) (aCons (aVar 1) (aCons (aC (.ty "bool")) aNil))) (aAndV (aArgs (two aIsi) (aCons (aVar 0) (aCons (aC (.ty "bool")) aNil))) (aOp2 aEq (aVar 0) (aVar 1))))) aPass)
    (aSeq (aIfS (aTst (aArgs (two aIsiT) (aCons (aVar 1) (aCons (aArgs (mkF .tup) (aCons (aC (.ty "int")) (aCons (aC (.ty "str")) aNil))) aNil)))) (aRet (aAndV (aArgs (two aIsiT) (aCons (aVar 0) (aCons (aArgs (mkF .tup) (aCons (aC (.ty "int")) (aCons (aC (.ty "str")) aNil))) aNil))) (aAndV (aOp2 aEq (aArgs (two aIsi) (aCons (aVar 0) (aCons (aC (.ty "int")) aNil))) (aArgs (two aIsi) (aCons (aVar 1) (aCons (aC (.ty "int")) aNil)))) (aOp2 aEq (aVar 0) (aVar 1))))) aPass)
    (aSeq (aIfS (aOr (aTst (aOp2 aNe (aArgs (two aIsi) (aCons (aVar 1) (aCons (aC (.ty "list")) aNil))) (aArgs (two aIsi) (aCons (aVar 0) (aCons (aC (.ty "list")) aNil))))) (aTst (aOp2 aNe (aArgs (two aIsi) (aCons (aVar 1) (aCons (aC (.ty "tuple")) aNil))) (aArgs (two aIsi) (aCons (aVar 0) (aCons (aC (.ty "tuple")) aNil)))))) (aRet (aC (.bl false))) aPass)
    (aSeq (aIfS (aNot (aTst (aArgs (two aIsiT) (aCons (aVar 0) (aCons (aArgs (mkF .tup) (aCons (aC (.ty "list")) (aCons (aC (.ty "tuple")) aNil))) aNil))))) (aRet (aC (.bl false))) aPass)
    (aRet (aAndV (aOp2 aEq (aArgs (one aLenV) (aCons (aVar 0) aNil)) (aArgs (one aLenV) (aCons (aVar 1) aNil))) (aArgs (one aAllV) (aCons (aLc mkF (sZipA (aCons (aVar 0) (aCons (aVar 1) aNil))) (gSq 2 (gsCons (gNm 2) (gsCons (gNm 3) gsNil))) aYes (aCall (lenF 2 (R__law_same)) [] (aCons (aVar 2) (aCons (aVar 3) aNil))) [2,3]) aNil)))))))))
theorem sc__law_same:FnScope ["_law_told", "_law_due", "_law_one", "_law_other"] ["_law_told", "_law_due"] (defScope (top 14)):=⟨rfl,rfl,rfl,by decide +kernel,rfl,by decide +kernel,by decide +kernel⟩
def R__law_same:Nat → AF
  | 0=>fun _ _=>none
  | k + 1=>fnA 4 (B__law_same ((R__law_same k)))
def F__law_same:AF:=lenF 2 ((R__law_same 40))
theorem oks__law_same {P:Program} {w:World} {K:PySem.W.Frag} {mg:Str → Option Value} {base:Heap} {ca:Nat → Addr} (g:Gv P w K mg ca) {f0:Addr} {fd0:FuncData} (F0:FunD K "_law_same" "_law_same" (defArgs (top 14)) (defBody (top 14)) (defScope (top 14)) [] [] f0 fd0) (hm0:mg "_law_same" = some (.ref f0)):∀ k:Nat,FnOk P w K mg base CX0 (0 + k) f0 fd0 ["_law_told", "_law_due"] (spA ⟨K,w,mg,cl⟩ 2 (lenF 2 ((R__law_same k))))
  | 0=>(fn_none 2 rfl).mono (Nat.zero_le _)
  | k + 1=>by
    have ih:=oks__law_same (base:=base) g F0 hm0 k
    have ih__law_same:=(show CalF P w K mg base cl (0 + k) "_law_same" 2 [] (lenF 2 _) from ⟨f0,fd0,_,[],[],hm0,F0.kp,ih,(F0.bindsN fun _ _ _ _ _ _ us hl=>match us,hl with | [_,_],_=>rfl),.nil,fun _=>rfl⟩)
    have o0:FnOk P w K mg base CX0 (0 + (k + 1)) f0 fd0 ["_law_told", "_law_due"] (spA ⟨K,w,mg,cl⟩ 2 (lenF 2 (fnA 4 (B__law_same ((R__law_same k)))))):=by
      refine fn_ok (k:=0 + k) F0 sc__law_same 4 2 rfl rfl (B__law_same ((R__law_same k))) fun cdv A outer s H E hr hu=>?_
      have hN:=sc__law_same.nd
      have hc:(cxOf CX0 P w K mg base ["_law_told", "_law_due", "_law_one", "_law_other"] "_law_same" (defScope (top 14)) f0 cdv A outer s H E).nox.calm = true:=rfl
      exact (as_cons (as_if (at_cmp op_isN snd_is (ae_var 1) ae_non) (as_one (as_ret (ae_cmp op_isN snd_is (ae_var 0) ae_non))) as_nil)
    (as_cons (as_if (PW.pt (aw_or (at_val (w_isi g.b_isinstance (aa_cons (ae_var 1) (aa_cons (w_tyname g.b_bool rfl) aa_nil)))) (aw_or1 (at_val (w_isi g.b_isinstance (aa_cons (ae_var 0) (aa_cons (w_tyname g.b_bool rfl) aa_nil))))))) (as_one (as_ret (ae_and (w_isi g.b_isinstance (aa_cons (ae_var 1) (aa_cons (w_tyname g.b_bool rfl) aa_nil))) (ae_and (w_isi g.b_isinstance (aa_cons (ae_var 0) (aa_cons (w_tyname g.b_bool rfl) aa_nil))) (ae_one (ae_cmp (op_eqP hu) s_eq (ae_var 0) (ae_var 1))))))) as_nil)
    (as_cons (as_if (at_val (w_isiT g.b_isinstance (aa_cons (ae_var 1) (aa_cons (ae_tup (aa_cons (w_tyname g.b_int rfl) (aa_cons (w_tyname g.b_str rfl) aa_nil))) aa_nil)))) (as_one (as_ret (ae_and (w_isiT g.b_isinstance (aa_cons (ae_var 0) (aa_cons (ae_tup (aa_cons (w_tyname g.b_int rfl) (aa_cons (w_tyname g.b_str rfl) aa_nil))) aa_nil))) (ae_and (ae_cmp (op_eqP hu) s_eq (w_isi g.b_isinstance (aa_cons (ae_var 0) (aa_cons (w_tyname g.b_int rfl) aa_nil))) (w_isi g.b_isinstance (aa_cons (ae_var 1) (aa_cons (w_tyname g.b_int rfl) aa_nil)))) (ae_one (ae_cmp (op_eqP hu) s_eq (ae_var 0) (ae_var 1))))))) as_nil)
    (as_cons (as_if (PW.pt (aw_or (at_cmp (op_neP hu) snd_ne (w_isi g.b_isinstance (aa_cons (ae_var 1) (aa_cons (w_tyname g.b_list rfl) aa_nil))) (w_isi g.b_isinstance (aa_cons (ae_var 0) (aa_cons (w_tyname g.b_list rfl) aa_nil)))) (aw_or1 (at_cmp (op_neP hu) snd_ne (w_isi g.b_isinstance (aa_cons (ae_var 1) (aa_cons (w_tyname g.b_tuple rfl) aa_nil))) (w_isi g.b_isinstance (aa_cons (ae_var 0) (aa_cons (w_tyname g.b_tuple rfl) aa_nil))))))) (as_one (as_ret ae_bl)) as_nil)
    (as_cons (as_if (at_not (at_val (w_isiT g.b_isinstance (aa_cons (ae_var 0) (aa_cons (ae_tup (aa_cons (w_tyname g.b_list rfl) (aa_cons (w_tyname g.b_tuple rfl) aa_nil))) aa_nil))))) (as_one (as_ret ae_bl)) as_nil)
    (as_one (as_ret (ae_and (ae_cmp (op_eqP hu) s_eq (w_len g.b_len (aa_cons (ae_var 0) aa_nil)) (w_len g.b_len (aa_cons (ae_var 1) aa_nil))) (ae_one (w_all hc g.b_all (aa_cons (ae_lc (own:=[("_law_one",2),("_law_other",3)]) (.inl rfl) hc hN (ai_zip rfl g.b_zip (aa_cons (ae_var 0) (aa_cons (ae_var 1) aa_nil))) (blkOk_by (by kernel_rfl)) (fun _ _ _ _ _=>(av_sq (n:=2) hc (avs_cons (av_name 2 hN) (avs_cons (av_name 3 hN) avs_nil)))) (fun _ _ _ _ _=>at_none) (fun _ _ _ _ _=>(ae_call ih__law_same (hr.mono (by omega)) (aa_cons (ae_var 2) (aa_cons (ae_var 3) aa_nil))))) aa_nil)))))))))))
    exact o0
theorem cal__law_same (g:Gv P w K mg ca):CalF P w K mg base cl (40) "_law_same" 2 [] F__law_same:=by
  obtain ⟨f0,fd0,hm0,F0⟩:=g.d__law_same
  have o:=oks__law_same (base:=base) g F0 hm0 40
  exact ⟨f0,fd0,_,[],[],hm0,F0.kp,o,(F0.bindsN fun _ _ _ _ _ _ us hl=>match us,hl with | [_,_],_=>rfl),.nil,fun _=>rfl⟩
def B__law_deed_read:AS :=
  (aSeq (aAsg (aBM "str" (aSplit mkF) (aVar 0) (aCons (aC (.str " ")) aNil)) (gNm 1))
    (aSeq (aAsg (aGet2 (aDisp [((aC (.str "on")),(aC (.str "n"))),((aC (.str "off")),(aC (.str "t"))),((aC (.str "step")),(aC (.str "t"))),((aC (.str "answer")),(aC (.str "tn"))),((aC (.str "carriers")),(aC (.str "n")))]) (aOp2 aIx (aVar 1) (aC (.int 0))) (aC (.str "?"))) (gNm 2))
    (aSeq (aIfS (aOr (aTst (aOp2 aEq (aVar 2) (aC (.str "?")))) (aOr (aTst (aOp2 aNe (aArgs (one aLenV) (aCons (aVar 2) aNil)) (aOp2 aSub (aArgs (one aLenV) (aCons (aVar 1) aNil)) (aC (.int 1))))) (aTst (aOp2 aIn (aC (.str "")) (aVar 1))))) (aRet (aC .non)) aPass)
    (aSeq (aAsg (aArgs (mkM .lst) (aCons (aOp2 aIx (aVar 1) (aC (.int 0))) aNil)) (gNm 3))
    (aSeq (aFor (sZipN (aCons (aVar 2) (aCons (aSlice mkF (aVar 1) (aPart (aC (.int 1))) aNo) aNil))) (gSq 2 (gsCons (gNm 4) (gsCons (gNm 5) gsNil))) (aSeq (aIfS (aAnd (aTst (aOp2 aEq (aVar 4) (aC (.str "n")))) (aOr (aTst (aOp2 aNe (aArgs (one aLenV) (aCons (aVar 5) aNil)) (aC (.int 1)))) (aTst (aOp2 aNotIn (aVar 5) (aC (.str "0123456789")))))) (aRet (aC .non)) aPass)
    (aExp (aBM "list" aAppend (aVar 3) (aCons (aIf (aTst (aOp2 aEq (aVar 4) (aC (.str "n")))) (aArgs aInt2 (aCons (aVar 5) aNil)) (aVar 5)) aNil)))))
    (aRet (aArgs (one aTupV) (aCons (aVar 3) aNil))))))))
theorem sc__law_deed_read:FnScope ["_law_row", "_law_words", "_law_signs", "_law_found", "_law_sign", "_law_word"] ["_law_row"] (defScope (top 17)):=⟨rfl,rfl,rfl,by decide +kernel,rfl,by decide +kernel,by decide +kernel⟩
def F__law_deed_read:AF:=lenF 1 (fnA 6 B__law_deed_read)
theorem ok__law_deed_read (g:Gv P w K mg ca) {f:Addr} {fd:FuncData} (F:FunX K "_law_deed_read" "_law_deed_read" (top 17) f fd):FnOk P w K mg base CX0 1 f fd ["_law_row"] (spA ⟨K,w,mg,cl⟩ 1 F__law_deed_read):=by
  refine fn_ok F sc__law_deed_read 6 1 rfl rfl B__law_deed_read fun cdv A outer s H E hr hu=>?_
  have hN:=sc__law_deed_read.nd
  have hc:(cxOf CX0 P w K mg base ["_law_row", "_law_words", "_law_signs", "_law_found", "_law_sign", "_law_word"] "_law_deed_read" (defScope (top 17)) f cdv A outer s H E).nox.calm = true:=rfl
  exact (as_cons (as_set 1 hN ((w_split (.inl rfl)) (ae_var 0) (aa_cons ae_str aa_nil)))
    (as_cons (as_set 2 hN (ae_get2 hu (ae_disp (.cons ae_str ae_str (.cons ae_str ae_str (.cons ae_str ae_str (.cons ae_str ae_str (.cons ae_str ae_str .nil)))))) (ae_ix hu (ae_var 1) ae_int) ae_str))
    (as_cons (as_if (PW.pt (aw_or (at_cmp (op_eqP hu) s_eq (ae_var 2) ae_str) (aw_or (at_cmp (op_neP hu) snd_ne (w_len g.b_len (aa_cons (ae_var 2) aa_nil)) (ae_sub (w_len g.b_len (aa_cons (ae_var 1) aa_nil)) ae_int)) (aw_or1 (at_cmp (o_in hu) s_in ae_str (ae_var 1)))))) (as_one (as_ret ae_non)) as_nil)
    (as_cons (as_set 3 hN (ae_lstM (aa_cons (ae_ix hu (ae_var 1) ae_int) aa_nil)))
    (as_cons (as_for PassesOwn.never hc (ai_zipN rfl g.b_zip (aa_cons (ae_var 2) (aa_cons (ae_slice (.inl rfl) (ae_var 1) (ao_some ae_int) ao_none) aa_nil))) (ag_sq (n:=2) hc (ags_cons (ag_name 4 hN) (ags_cons (ag_name 5 hN) ags_nil))) (as_cons (as_if (PW.pt (aw_and (at_cmp (op_eqP hu) s_eq (ae_var 4) ae_str) (aw_and1 (PW.pt (aw_or (at_cmp (op_neP hu) snd_ne (w_len g.b_len (aa_cons (ae_var 5) aa_nil)) ae_int) (aw_or1 (at_cmp (o_notIn hu) s_in (ae_var 5) ae_str))))))) (as_one (as_ret ae_non)) as_nil)
    (as_one (as_expr (w_append (ae_var 3) (aa_cons (ae_ife (at_cmp (op_eqP hu) s_eq (ae_var 4) ae_str) (w_int2 g.b_int (aa_cons (ae_var 5) aa_nil)) (ae_var 5)) aa_nil))))))
    (as_one (as_ret (w_tuple g.b_tuple (aa_cons (ae_var 3) aa_nil)))))))))
theorem cal__law_deed_read (g:Gv P w K mg ca):CalF P w K mg base cl (1) "_law_deed_read" 1 [] F__law_deed_read:=by
  obtain ⟨f,fd,hm,F⟩:=g.d__law_deed_read
  exact ⟨f,fd,_,[],[],hm,F.kp,(ok__law_deed_read g F),(F.bindsN fun _ _ _ _ _ _ us hl=>match us,hl with | [_],_=>rfl),.nil,fun _=>rfl⟩
def B_read_deedX:ASX :=
  (xSeq (lfS (aAsg (aBM "str" (aSplit mkF) (aVar 0) (aCons (aC (.str " ")) aNil)) (gStar 2 1 (gsCons (gNm 1) (gsCons (gNm 2) gsNil)))))
    (xSeq (xIf (lfT (aOr (aTst (aOp2 aNotIn (aVar 1) (aC (.nod (.tab [.inr "on",.inr "off",.inr "step",.inr "answer",.inr "carriers"]) [(.str "n"),(.str "t"),(.str "t"),(.str "tn"),(.str "n")])))) (aTst (aOp2 aNe (aArgs (one aLenV) (aCons (aOp2 aIx (aC (.nod (.tab [.inr "on",.inr "off",.inr "step",.inr "answer",.inr "carriers"]) [(.str "n"),(.str "t"),(.str "t"),(.str "tn"),(.str "n")])) (aVar 1)) aNil)) (aArgs (one aLenV) (aCons (aVar 2) aNil)))))) (xRaise 0 (aC (.int 0))) (lfS aPass))
    (xSeq (lfS (aAsg (aLc mkF (sZipS (aCons (aOp2 aIx (aC (.nod (.tab [.inr "on",.inr "off",.inr "step",.inr "answer",.inr "carriers"]) [(.str "n"),(.str "t"),(.str "t"),(.str "tn"),(.str "n")])) (aVar 1)) (aCons (aVar 2) aNil))) (gSq 2 (gsCons (gNm 4) (gsCons (gNm 5) gsNil))) aYes (aCall F_thing_of [] (aCons (aVar 4) (aCons (aVar 5) aNil))) [4,5]) (gNm 3)))
    (xSeq (xIf (lfT (aTst (aOp2 aIn (aC .non) (aVar 3)))) (xRaise 0 (aC (.int 0))) (lfS aPass))
    (lfS (aRet (aArgs (one aTupV) (aCons (aOp2 aAdd (aArgs (mkF .lst) (aCons (aVar 1) aNil)) (aVar 3)) aNil))))))))
theorem sc_read_deedX:FnScope ["row", "first", "rest", "things", "sign", "word"] ["row"] (defScope (top 9)):=⟨rfl,rfl,rfl,by decide +kernel,rfl,by decide +kernel,by decide +kernel⟩
def F_read_deedX:AFX:=lenX 1 (fnX 6 B_read_deedX)
theorem ok_read_deedX (g:Gv P w K mg ca) {f:Addr} {fd:FuncData} (F:FunX K "read_deed" "read_deed" (top 9) f fd):FnOk P w K mg base (L2N.CX P w) 3 f fd ["row"] (spX ⟨K,w,mg,cl⟩ (xtc ca) 1 F_read_deedX):=by
  refine fn_okX F sc_read_deedX 6 1 rfl rfl B_read_deedX fun cdv A outer s H E hr hu=>?_
  have hN:=sc_read_deedX.nd
  have hc:(cxOf (L2N.CX P w) P w K mg base ["row", "first", "rest", "things", "sign", "word"] "read_deed" (defScope (top 9)) f cdv A outer s H E).calm = true:=rfl
  exact (xs_cons (lS (as_asg ((w_split (.inl rfl)) (ae_var 0) (aa_cons ae_str aa_nil)) (ag_star 2 1 hc (ags_cons (ag_name 1 hN) (ags_cons (ag_name 2 hN) ags_nil)))))
    (xs_cons (xs_if (lT (PW.pt (aw_or (at_cmp (o_notIn hu) s_in (ae_var 1) (ae_glob g.v_FORMS)) (aw_or1 (at_cmp (op_neP hu) snd_ne (w_len g.b_len (aa_cons (ae_ix hu (ae_glob g.v_FORMS) (ae_var 1)) aa_nil)) (w_len g.b_len (aa_cons (ae_var 2) aa_nil))))))) (xs_one (xs_raiseFV (xf_0 g) rfl takesC (hr.mono (by omega)) ae_int)) xs_nil)
    (xs_cons (lS (as_setLc (own:=[("sign",4),("word",5)]) 3 (.inl rfl) hc hN (ai_zipS rfl g.b_zip (aa_cons (ae_ix hu (ae_glob g.v_FORMS) (ae_var 1)) (aa_cons (ae_var 2) aa_nil))) (blkOk_by (by kernel_rfl)) (fun _ _ _ _ _=>(av_sq (n:=2) hc (avs_cons (av_name 4 hN) (avs_cons (av_name 5 hN) avs_nil)))) (fun _ _ _ _ _=>at_none) (fun _ _ _ _ _=>(ae_call (cal_thing_of g) (hr.mono (by omega)) (aa_cons (ae_var 4) (aa_cons (ae_var 5) aa_nil)))) (sw_true rfl rfl rfl rfl)))
    (xs_cons (xs_if (lT (at_cmp (o_in hu) s_in ae_non (ae_var 3))) (xs_one (xs_raiseFV (xf_0 g) rfl takesC (hr.mono (by omega)) ae_int)) xs_nil)
    (xs_one (lS (as_ret (w_tuple g.b_tuple (aa_cons (ae_add (ae_lstF (aa_cons (ae_var 1) aa_nil)) (ae_var 3)) aa_nil)))))))))
theorem cal_read_deedX (g:Gv P w K mg ca):CalX P w K mg base cl (xtc ca) 3 "read_deed" 1 F_read_deedX:=by
  obtain ⟨f,fd,hm,F⟩:=g.d_read_deedX
  exact ⟨f,fd,_,hm,F.kp,ok_read_deedX g F,(F.bindsN fun _ _ _ _ _ _ us hl=>match us,hl with | [_],_=>rfl)⟩
def L__law_asked_row:List XCl:=[⟨(fun c=>([0]:List Nat).contains c),some 1,fun v=>(aRet (aArgs (mkF .tup) (aCons (aC (.str "BadRun")) (aCons (aC v) aNil))))⟩]
def G__law_asked_row:AskR:=askG 2 1 none L__law_asked_row
theorem sc__law_asked_row:FnScope ["_law_act", "e"] ["_law_act"] (defScope (top 18)):=⟨rfl,rfl,rfl,by decide +kernel,rfl,by decide +kernel,by decide +kernel⟩
theorem ask__law_asked_row (g:Gv P w K mg ca):AskF P w K mg base cl (xtc ca) 1 "_law_asked_row" G__law_asked_row:=by
  obtain ⟨f,fd,hm,F⟩:=g.d__law_asked_row
  exact ask_none (nx:=1) (kc:=1) F hm ((F.bindsN fun _ _ _ _ _ _ us hl=>match us,hl with | [_],_=>rfl)) sc__law_asked_row rfl rfl (.inl rfl) (by decide) (by decide) (fun _=>⟨rfl,rfl⟩) (fun cdv A st s H hr=>⟨_,(.named (hit:=(fun c=>([0]:List Nat).contains c)) (n := "e") (i:=1) (fl := "row") ⟨rfl,by decide,.inl g.my_BadRun⟩ rfl rfl g.hx_BadRun (xfl_BadRun (ca:=ca)) (fun a oe cls d pn z hz ho=>fs_ret (fe_tup phx_stays (fa_cons phx_stays (fE ae_str) (fa_cons phx_stays (fe_xf (xT_BadRun g z.c z.lt z.hc).1 (xT_BadRun g z.c z.lt z.hc).2 hz ho z.hcls z.hd z.hv rfl (.inl rfl)) fa_nil)))) .nil)⟩)
def B_law (ta:Addr):AS :=
  (aSeq (aAsg (aCall F__law_hat [] (aCons (aVar 0) aNil)) (gNm 1))
    (aSeq (aFor (sRng1 (aCons (aC (.int 8)) aNil)) (gNm 2) (aSeq (aAsg (aCall F__law_of [] (aCons (aVar 1) (aCons (aCall F__law_names [] (aCons (aVar 1) (aCons (aC (.int 2)) aNil))) aNil))) (gNm 3))
    (aSeq (aAsg (aArgs (mkF .lst) (aCons (aArgs (mkF .tup) (aCons (aC (.str "on")) (aCons (aCall F__law_take [] (aCons (aVar 1) (aCons (aC (.int 10)) aNil))) aNil))) (aCons (aArgs (mkF .tup) (aCons (aC (.str "off")) (aCons (aVar 3) aNil))) (aCons (aArgs (mkF .tup) (aCons (aC (.str "step")) (aCons (aVar 3) aNil))) (aCons (aArgs (mkF .tup) (aCons (aC (.str "answer")) (aCons (aVar 3) (aCons (aCall F__law_take [] (aCons (aVar 1) (aCons (aC (.int 10)) aNil))) aNil)))) aNil))))) (gNm 4))
    (aSeq (aAsg (aCall F__law_of [] (aCons (aVar 1) (aCons (aOp2 aAdd (aVar 4) (aArgs (mkF .lst) (aCons (aArgs (mkF .tup) (aCons (aC (.str "carriers")) (aCons (aCall F__law_take [] (aCons (aVar 1) (aCons (aC (.int 10)) aNil))) aNil))) aNil))) aNil))) (gNm 5))
    (aSeq (aAsg (aCall F__law_deed_line [] (aCons (aVar 5) aNil)) (gNm 6))
    (aSeq (aIfS (aNot (aTst (aCall F__law_same [] (aCons (aArgs (mkF .lst) (aCons (aCall F_deed_row [] (aCons (aVar 5) aNil)) (aCons (aCall F_read_deed [] (aCons (aVar 6) aNil)) aNil))) (aCons (aArgs (mkF .lst) (aCons (aVar 6) (aCons (aVar 5) aNil))) aNil))))) (aRet (aC (.bl false))) aPass)
    (aSeq (aFor (sRng1 (aCons (aCall F__law_take [] (aCons (aVar 1) (aCons (aC (.int 3)) aNil))) aNil)) (gNm 7) (aSeq (aAsg (aCall F__law_take [] (aCons (aVar 1) (aCons (aOp2 aAdd (aArgs (one aLenV) (aCons (aVar 6) aNil)) (aC (.int 1))) aNil))) (gNm 8))
    (aSeq (aAsg (aOp2 aIx (aC (.str " 019a-X@")) (aCall F__law_take [] (aCons (aVar 1) (aCons (aC (.int 8)) aNil)))) (gNm 9))
    (aSeq (aAsg (aBM "str" (aSplit mkF) (aVar 6) (aCons (aC (.str " ")) aNil)) (gNm 10))
    (aSeq (aAsg (aCall F__law_take [] (aCons (aVar 1) (aCons (aArgs (one aLenV) (aCons (aVar 10) aNil)) aNil))) (gNm 11))
    (aSeq (aAsg (aArgs (mkF .lst) (aCons (aOp2 aAdd (aOp2 aAdd (aSlice mkF (aVar 6) aNo (aPart (aVar 8))) (aVar 9)) (aSlice mkF (aVar 6) (aPart (aVar 8)) aNo)) (aCons (aOp2 aAdd (aSlice mkF (aVar 6) aNo (aPart (aVar 8))) (aSlice mkF (aVar 6) (aPart (aOp2 aAdd (aVar 8) (aC (.int 1)))) aNo)) (aCons (aOp2 aAdd (aOp2 aAdd (aSlice mkF (aVar 6) aNo (aPart (aVar 8))) (aVar 9)) (aSlice mkF (aVar 6) (aPart (aOp2 aAdd (aVar 8) (aC (.int 1)))) aNo)) aNil)))) (gNm 12))
    (aSeq (aAsg (aOp2 aAdd (aVar 12) (aArgs (mkF .lst) (aCons (aBM "str" aJoin (aC (.str " ")) (aCons (aOp2 aAdd (aSlice mkF (aVar 10) aNo (aPart (aVar 11))) (aSlice mkF (aVar 10) (aPart (aOp2 aAdd (aVar 11) (aC (.int 1)))) aNo)) aNil)) (aCons (aBM "str" aJoin (aC (.str " ")) (aCons (aOp2 aAdd (aVar 10) (aArgs (mkF .lst) (aCons (aOp2 aIx (aVar 10) (aVar 11)) aNil))) aNil)) aNil)))) (gNm 12))
    (aAsg (aCall F__law_of [] (aCons (aVar 1) (aCons (aVar 12) aNil))) (gNm 6)))))))))
    (aSeq (aAsg (aCall F__law_deed_read [] (aCons (aVar 6) aNil)) (gNm 13))
    (aIfS (aNot (aTst (aCall F__law_same [] (aCons (aAsk 0 ta "law.<locals>.<lambda>" G__law_asked_row (xCall F_read_deedX (lfA (aCons (aVar 6) aNil)))) (aCons (aIf (aTst (aOp2 aIs (aVar 13) (aC .non))) (aArgs (mkF .tup) (aCons (aC (.str "BadRun")) (aCons (aC (.int 0)) aNil))) (aVar 13)) aNil))))) (aRet (aC (.bl false))) aPass)))))))))
    (aRet (aOp2 aEq (aAsk 0 ta "law.<locals>.<lambda>" G__law_asked_row (xCall F_read_deedX (lfA (aCons (aC (.str "")) aNil)))) (aArgs (mkF .tup) (aCons (aC (.str "BadRun")) (aCons (aC (.int 0)) aNil)))))))
theorem sc_law:FnScope ["_law_script", "_law_hat_here", "_law_turn", "_law_name", "_law_deeds", "_law_deed", "_law_row", "_law_bend", "_law_at", "_law_sign", "_law_words", "_law_one", "_law_more", "_law_due"] ["_law_script"] (defScope (top 19)):=⟨rfl,rfl,rfl,by decide +kernel,rfl,by decide +kernel,by decide +kernel⟩
def F_law (ta:Addr):AF:=lenF 1 (fnA 14 (B_law ta))
theorem ok_law (g:Gv P w K mg ca) {f:Addr} {fd:FuncData} {lc ta:Addr} (F:FunX K "law" "law" (top 19) f fd) (hfc:fd.code = .ref lc) (TB:LamX.TabB base mg lc ta):FnOk P w K mg base CX0 41 f fd ["_law_script"] (spA ⟨K,w,mg,cl⟩ 1 (F_law ta)):=by
  refine fn_okL F hfc sc_law 14 1 rfl rfl (B_law ta) fun A outer s H E hr hu=>?_
  have hN:=sc_law.nd
  have hc:(cxOf CX0 P w K mg base ["_law_script", "_law_hat_here", "_law_turn", "_law_name", "_law_deeds", "_law_deed", "_law_row", "_law_bend", "_law_at", "_law_sign", "_law_words", "_law_one", "_law_more", "_law_due"] "law" (defScope (top 19)) f (.ref lc) A outer s H E).nox.calm = true:=rfl
  exact (as_cons (as_set 1 hN (ae_call (cal__law_hat g) (hr.mono (by omega)) (aa_cons (ae_var 0) aa_nil)))
    (as_cons (as_for PassesOwn.never hc (ai_range1 rfl g.b_range (aa_cons ae_int aa_nil)) (ag_name 2 hN) (as_cons (as_set 3 hN (ae_call (cal__law_of g) (hr.mono (by omega)) (aa_cons (ae_var 1) (aa_cons (ae_call (cal__law_names g) (hr.mono (by omega)) (aa_cons (ae_var 1) (aa_cons ae_int aa_nil))) aa_nil))))
    (as_cons (as_set 4 hN (ae_lstF (aa_cons (ae_tup (aa_cons ae_str (aa_cons (ae_call (cal__law_take g) (hr.mono (by omega)) (aa_cons (ae_var 1) (aa_cons ae_int aa_nil))) aa_nil))) (aa_cons (ae_tup (aa_cons ae_str (aa_cons (ae_var 3) aa_nil))) (aa_cons (ae_tup (aa_cons ae_str (aa_cons (ae_var 3) aa_nil))) (aa_cons (ae_tup (aa_cons ae_str (aa_cons (ae_var 3) (aa_cons (ae_call (cal__law_take g) (hr.mono (by omega)) (aa_cons (ae_var 1) (aa_cons ae_int aa_nil))) aa_nil)))) aa_nil))))))
    (as_cons (as_set 5 hN (ae_call (cal__law_of g) (hr.mono (by omega)) (aa_cons (ae_var 1) (aa_cons (ae_add (ae_var 4) (ae_lstF (aa_cons (ae_tup (aa_cons ae_str (aa_cons (ae_call (cal__law_take g) (hr.mono (by omega)) (aa_cons (ae_var 1) (aa_cons ae_int aa_nil))) aa_nil))) aa_nil))) aa_nil))))
    (as_cons (as_set 6 hN (ae_call (cal__law_deed_line g) (hr.mono (by omega)) (aa_cons (ae_var 5) aa_nil)))
    (as_cons (as_if (at_not (at_val (ae_call (cal__law_same g) (hr.mono (by omega)) (aa_cons (ae_lstF (aa_cons (ae_call (cal_deed_row g) (hr.mono (by omega)) (aa_cons (ae_var 5) aa_nil)) (aa_cons (ae_call (cal_read_deed g) (hr.mono (by omega)) (aa_cons (ae_var 6) aa_nil)) aa_nil))) (aa_cons (ae_lstF (aa_cons (ae_var 6) (aa_cons (ae_var 5) aa_nil))) aa_nil))))) (as_one (as_ret ae_bl)) as_nil)
    (as_cons (as_for PassesOwn.never hc (ai_range1 rfl g.b_range (aa_cons (ae_call (cal__law_take g) (hr.mono (by omega)) (aa_cons (ae_var 1) (aa_cons ae_int aa_nil))) aa_nil)) (ag_name 7 hN) (as_cons (as_set 8 hN (ae_call (cal__law_take g) (hr.mono (by omega)) (aa_cons (ae_var 1) (aa_cons (ae_add (w_len g.b_len (aa_cons (ae_var 6) aa_nil)) ae_int) aa_nil))))
    (as_cons (as_set 9 hN (ae_ix hu ae_str (ae_call (cal__law_take g) (hr.mono (by omega)) (aa_cons (ae_var 1) (aa_cons ae_int aa_nil)))))
    (as_cons (as_set 10 hN ((w_split (.inl rfl)) (ae_var 6) (aa_cons ae_str aa_nil)))
    (as_cons (as_set 11 hN (ae_call (cal__law_take g) (hr.mono (by omega)) (aa_cons (ae_var 1) (aa_cons (w_len g.b_len (aa_cons (ae_var 10) aa_nil)) aa_nil))))
    (as_cons (as_set 12 hN (ae_lstF (aa_cons (ae_add (ae_add (ae_slice (.inl rfl) (ae_var 6) ao_none (ao_some (ae_var 8))) (ae_var 9)) (ae_slice (.inl rfl) (ae_var 6) (ao_some (ae_var 8)) ao_none)) (aa_cons (ae_add (ae_slice (.inl rfl) (ae_var 6) ao_none (ao_some (ae_var 8))) (ae_slice (.inl rfl) (ae_var 6) (ao_some (ae_add (ae_var 8) ae_int)) ao_none)) (aa_cons (ae_add (ae_add (ae_slice (.inl rfl) (ae_var 6) ao_none (ao_some (ae_var 8))) (ae_var 9)) (ae_slice (.inl rfl) (ae_var 6) (ao_some (ae_add (ae_var 8) ae_int)) ao_none)) aa_nil)))))
    (as_cons (as_set 12 hN (ae_add (ae_var 12) (ae_lstF (aa_cons (w_join ae_str (aa_cons (ae_add (ae_slice (.inl rfl) (ae_var 10) ao_none (ao_some (ae_var 11))) (ae_slice (.inl rfl) (ae_var 10) (ao_some (ae_add (ae_var 11) ae_int)) ao_none)) aa_nil)) (aa_cons (w_join ae_str (aa_cons (ae_add (ae_var 10) (ae_lstF (aa_cons (ae_ix hu (ae_var 10) (ae_var 11)) aa_nil))) aa_nil)) aa_nil)))))
    (as_one (as_set 6 hN (ae_call (cal__law_of g) (hr.mono (by omega)) (aa_cons (ae_var 1) (aa_cons (ae_var 12) aa_nil))))))))))))
    (as_cons (as_set 13 hN (ae_call (cal__law_deed_read g) (hr.mono (by omega)) (aa_cons (ae_var 6) aa_nil)))
    (as_one (as_if (at_not (at_val (ae_call (cal__law_same g) (hr.mono (by omega)) (aa_cons (ae_ask (tn:=0) (k:=3) (ask__law_asked_row g) TB rfl (hr.mono (by omega)) (fun A outer s H E f z hr=>have hu:=hr.units; (xe_call (cal_read_deedX g) (hr.mono (by omega)) lam_takes (lA (aa_cons (ae_var 6) aa_nil))))) (aa_cons (ae_ife (at_cmp op_isN snd_is (ae_var 13) ae_non) (ae_tup (aa_cons ae_str (aa_cons ae_int aa_nil))) (ae_var 13)) aa_nil))))) (as_one (as_ret ae_bl)) as_nil))))))))))
    (as_one (as_ret (ae_cmp (op_eqP hu) s_eq (ae_ask (tn:=0) (k:=3) (ask__law_asked_row g) TB rfl (hr.mono (by omega)) (fun A outer s H E f z hr=>have hu:=hr.units; (xe_call (cal_read_deedX g) (hr.mono (by omega)) lam_takes (lA (aa_cons ae_str aa_nil))))) (ae_tup (aa_cons ae_str (aa_cons ae_int aa_nil))))))))
end K55
end
section
open PySem Rp K55
namespace K55
def hatC (ns:List Int) (i:Nat) (c m:Int):Kd × List AV:=(.lst,[.nod .lst (ns.map .int),.int i,.int c,.int m])
structure HatOk (c:Kd × List AV):Prop where
  ex:∃ (ns:List Int) (i:Nat) (d m:Int),c = hatC ns i d m ∧ 0 ≤ m ∧ m < 2305843009213693951
theorem take_ok {h:AH} {n:Nat} {z:Kd × List AV} (e:h.get n = some z) (H:HatOk z) {k:Nat} (hk:0 < k) (hk2:k < 18446744073709551616):∃ (d:Nat) (z':Kd × List AV),d < k ∧ HatOk z' ∧ F__law_take [.ref n,.int k] h = some (.int d,h.put n z'):=by
  obtain ⟨ns,i,c,m,rfl,hm0,hm1⟩:=H
  unfold hatC at e
  have hsome:(h.get n).isSome = true:=by rw [e]; rfl
  have hm:∀ (j:Int) h',aMod (.int j) (.int k) h' = some (.int (j % k),h'):=fun j h' => ev_mod (by omega)
  have hd:∀ (j:Int) h',aDiv (.int j) (.int k) h' = some (.int (j / k),h'):=fun j h' => ev_div (by omega) (by omega)
  have hM:∀ (j:Int) h',aMod (.int j) (.int 2305843009213693951) h' = some (.int (j % 2305843009213693951),h'):=fun j h' => ev_mod (by omega)
  have hD:∀ (j:Int) h',aDiv (.int j) (.int 1021) h' = some (.int (j / 1021),h'):=fun j h' => ev_div (by omega) (by omega)
  have m1:∀ (j:Int) h',aMul (.int j) (.int 52391) h' = some (.int (j * 52391),h'):=fun j h' => ev_mulI (by simp [mulC])
  have m2:∀ (j:Int) h',aMul (.int j) (.int 31) h' = some (.int (j * 31),h'):=fun j h' => ev_mulI (by simp [mulC])
  have m3:∀ (j:Int) h',aMul (.int j) (.int 48271) h' = some (.int (j * 48271),h'):=fun j h' => ev_mulI (by simp [mulC])
  have m4:∀ (j:Int) h',aMul (.int j) (.int 16807) h' = some (.int (j * 16807),h'):=fun j h' => ev_mulI (by simp [mulC])
  have m5:∀ (j:Int) h',0 ≤ j → j < 2305843009213693951 → aMul (.int j) (.int j) h' = some (.int (j * j),h'):=fun j h' a b=>ev_mulI (by
    simp only [mulC,Bool.or_eq_true,Bool.and_eq_true,decide_eq_true_eq]; omega)
  have dig:∀ x:Int,∃ d:Nat,(d:Int) = x % k ∧ d < k:=fun x=>by
    have:=Int.emod_lt_of_pos x (show (0:Int) < k by omega)
    have:=Int.emod_nonneg x (show (k:Int) ≠ 0 by omega)
    exact ⟨(x % k).toNat,by omega,by omega⟩
  have mx:∀ x:Int,0 ≤ x % 2305843009213693951 ∧ x % 2305843009213693951 < 2305843009213693951:=fun x=>⟨Int.emod_nonneg x (by omega),Int.emod_lt_of_pos x (by omega)⟩
  by_cases c1:c < k
  · have c1':¬ ((k:Nat):Int) ≤ c:=by omega
    by_cases c2:i < ns.length
    · have ra:L2.atI (ns.map AV.int) (i:Int) = some (AV.int ns[i]):=by rw [atI_at (by simpa using c2)]; simp [c2]
      have c2':(i:Int) < (ns.length:Int):=by omega
      generalize hM1:(m * 52391 + ns[i] * 31 + (i + 1)) % 2305843009213693951 = M1
      have M1b:0 ≤ M1 ∧ M1 < 2305843009213693951:=by rw [← hM1]; exact mx _
      generalize hv:ns[i] = v at ra hM1
      by_cases c3:(1000000000000000000:Int) ≤ v
      · by_cases c4:((k:Nat):Int) ≤ v
        · obtain ⟨d,hd1,hd2⟩:=dig v
          refine ⟨d,hatC ns (i + 1) (v / k) M1,hd2,⟨ns,i + 1,_,M1,rfl,M1b.1,M1b.2⟩,?_⟩
          simp [F__law_take,ev_fn,B__law_take,startA,e,c1,c2',ra,hm,hd,hM,m1,m2,hM1,c3,c4,L2.ixN,get_putI hsome,put_put hsome,hd1,hatC]
        · have hk0:k ≠ 0:=by omega
          obtain ⟨d,hd1,hd2⟩:=dig (((M1 * M1 % 2305843009213693951 * 48271 + M1 * 16807 + 12345) % 2305843009213693951) / 1021)
          refine ⟨d,hatC ns (i + 1) v ((M1 * M1 % 2305843009213693951 * 48271 + M1 * 16807 + 12345) % 2305843009213693951),hd2,⟨ns,i + 1,v,_,rfl,(mx _).1,(mx _).2⟩,?_⟩
          simp [F__law_take,ev_fn,B__law_take,startA,e,c1,c2',ra,hm,hd,hM,hD,m1,m2,m3,m4,m5 M1 _ M1b.1 M1b.2,hM1,c3,c4,hk0,L2.ixN,get_putI hsome,put_put hsome,hd1,hatC]
      · have c4:¬ ((k:Nat):Int) ≤ 0:=by omega
        have hk0:k ≠ 0:=by omega
        obtain ⟨d,hd1,hd2⟩:=dig (((M1 * M1 % 2305843009213693951 * 48271 + M1 * 16807 + 12345) % 2305843009213693951) / 1021)
        refine ⟨d,hatC ns (i + 1) 0 ((M1 * M1 % 2305843009213693951 * 48271 + M1 * 16807 + 12345) % 2305843009213693951),hd2,⟨ns,i + 1,0,_,rfl,(mx _).1,(mx _).2⟩,?_⟩
        simp [F__law_take,ev_fn,B__law_take,startA,e,c1,c2',ra,hm,hd,hM,hD,m1,m2,m3,m4,m5 M1 _ M1b.1 M1b.2,hM1,c3,c4,hk0,L2.ixN,get_putI hsome,put_put hsome,hd1,hatC]
    · have c2':¬ ((i:Int) < (ns.length:Int)):=by omega
      obtain ⟨d,hd1,hd2⟩:=dig (((m * m % 2305843009213693951 * 48271 + m * 16807 + 12345) % 2305843009213693951) / 1021)
      refine ⟨d,hatC ns i c ((m * m % 2305843009213693951 * 48271 + m * 16807 + 12345) % 2305843009213693951),hd2,⟨ns,i,c,_,rfl,(mx _).1,(mx _).2⟩,?_⟩
      simp [F__law_take,ev_fn,B__law_take,startA,e,c1,c1',c2,c2',hm,hd,hM,hD,m3,m4,m5 m _ hm0 hm1,L2.ixN,get_putI hsome,put_put hsome,hd1,hatC]
  · have h1:((k:Nat):Int) ≤ c:=by omega
    obtain ⟨d,hd1,hd2⟩:=dig c
    refine ⟨d,hatC ns i (c / k) m,hd2,⟨ns,i,_,m,rfl,hm0,hm1⟩,?_⟩
    simp [F__law_take,ev_fn,B__law_take,startA,e,c1,h1,hm,hd,L2.ixN,hd1,hatC]
end K55
end
section
namespace K55
open PySem Rp K55
theorem of_lst {h:AH} {n:Nat} {z:Kd × List AV} (e:h.get n = some z) (H:HatOk z) {xs:List AV} (h0:xs ≠ []) (h1:xs.length < 1000000):∃ x z',x ∈ xs ∧ HatOk z' ∧ F__law_of [.ref n,.nod .lst xs] h = some (x,h.put n z'):=by
  have hp:0 < xs.length:=List.length_pos_iff.mpr h0
  obtain ⟨d,z',hd,hz,et⟩:=take_ok e H hp (by omega)
  refine ⟨xs[d],z',List.getElem_mem hd,hz,?_⟩
  have ea:L2.atI xs (d:Int) = some xs[d]:=by rw [atI_at hd]; simp [hd]
  simp [F__law_of,ev_fn,B__law_of,startA,et,ea]
end K55
end
section
namespace K55
open PySem Rp K55
theorem hat_ok {h:AH} (ns:List Int):∃ z,HatOk z ∧ F__law_hat [.nod .scr (ns.map .int)] h = some (.ref h.next,h.new z):=by
  refine ⟨hatC (ns.take 63) 0 0 977,⟨_,0,0,977,rfl,by omega,by omega⟩,?_⟩
  have hz:(4:Nat) ≤ sizeLine:=by rw [sizeLine_eq]; omega
  have hc:cutA (ns.map AV.int) none (some 63) = (ns.take 63).map AV.int:=by
    have h2:HT.sIx (ns.map AV.int).length (ns.map AV.int).length (some 63) = min 63 (ns.map AV.int).length:=HT.sIx_nat _ _ 63
    unfold cutA
    rw [h2,HT.sIx_none,List.drop_zero,Nat.sub_zero,List.map_take,List.length_map]
    by_cases q:63 ≤ ns.length
    · rw [Nat.min_eq_left q]
    · rw [Nat.min_eq_right (by omega),List.take_of_length_le (by simp),List.take_of_length_le (by simp; omega)]
  have hl:min 63 ns.length ≤ sizeLine:=by rw [sizeLine_eq]; omega
  simp [F__law_hat,ev_fn,B__law_hat,startA,aSlice,aNo,aPart,aSl,look,hc,mkF,mkM,aListV,seqOf,hz,hl,hatC]
end K55
end
section
namespace K55
open PySem PySem.Spec PyProof.Rows L2 Rp K55
theorem ev_addS {a b:PySem.Str} {h:AH} (e:a.length + b.length ≤ sizeLine):aAdd (.str a) (.str b) h = some (.str (a ++ b),h):=by
  have h1:aAddI (.str a) (.str b) h = none:=rfl
  have h2:aAddS (.str a) (.str b) h = some (.str (a ++ b),h):=by
    show (if a.length + b.length ≤ sizeLine then some (AV.str (a ++ b),h) else none) = _
    rw [if_pos e]
  unfold aAdd
  rw [h1,orO_none,h2]
  rfl
end K55
end
section
namespace K55
open PySem PySem.Spec PyProof.Rows L2 Rp K55
theorem cut_eq {c:Nat}:∀ {a b r t:List Nat},c ∉ a → c ∉ b → a ++ c :: r = b ++ c :: t → a = b ∧ r = t
  | [],[],r,t,_,_,e=>⟨rfl,by simpa using e⟩
  | [],y :: b,r,t,_,hb,e=>by
    have:c = y:=by simpa using (List.cons.inj e).1
    exact absurd (by rw [this]; exact List.mem_cons_self) hb
  | x :: a,[],r,t,ha,_,e=>by
    have:x = c:=by simpa using (List.cons.inj e).1
    exact absurd (by rw [this]; exact List.mem_cons_self) ha
  | x :: a,y :: b,r,t,ha,hb,e=>by
    obtain ⟨e1,e2⟩:=List.cons.inj e
    obtain ⟨e3,e4⟩:=cut_eq (fun q=>ha (List.mem_cons_of_mem _ q)) (fun q=>hb (List.mem_cons_of_mem _ q)) e2
    exact ⟨by rw [e1,e3],e4⟩
theorem strs_ext {a b:Str} (e:a.cps.toList = b.cps.toList):a = b:=by
  cases a; cases b
  simpa using e
end K55
end
section
namespace K55
open PySem PySem.Spec PyProof.Rows L2 Rp K55
theorem app_l {a b:Str}:(a ++ b).cps.toList = a.cps.toList ++ b.cps.toList:=by
  show (a.cps ++ b.cps).toList = _
  simp
theorem len_l {a:Str}:a.length = a.cps.toList.length:=by simp [PySem.Str.length]
theorem app_len {a b:Str}:(a ++ b).length = a.length + b.length:=by rw [len_l,app_l,List.length_append,← len_l,← len_l]
def Str.l (l:List Nat):Str:=⟨l.toArray⟩
theorem sl_l {l:List Nat}:(Str.l l).cps.toList = l:=by simp [Str.l]
theorem join_free {c:Nat}:∀ {xs ys:List Str},xs ≠ [] → ys ≠ [] → (∀ x ∈ xs,c ∉ x.cps.toList) → (∀ x ∈ ys,c ∉ x.cps.toList) → (Str.join ⟨#[c]⟩ xs).cps.toList = (Str.join ⟨#[c]⟩ ys).cps.toList → xs = ys
  | [x],[y],_,_,_,_,e=>by rw [strs_ext (show x.cps.toList = y.cps.toList from e)]
  | [x],y :: z :: r,_,_,h1,_,e=>by
    have e':x.cps.toList = (y ++ ⟨#[c]⟩ ++ Str.join ⟨#[c]⟩ (z :: r)).cps.toList:=e
    rw [app_l,app_l] at e'
    have:c ∈ x.cps.toList:=by rw [e']; simp
    exact absurd this (h1 x List.mem_cons_self)
  | y :: z :: r,[x],_,_,h1,h2,e=>by
    have e':(y ++ ⟨#[c]⟩ ++ Str.join ⟨#[c]⟩ (z :: r)).cps.toList = x.cps.toList:=e
    rw [app_l,app_l] at e'
    have:c ∈ x.cps.toList:=by rw [← e']; simp
    exact absurd this (h2 x List.mem_cons_self)
  | x :: x2 :: r,y :: y2 :: t,_,_,h1,h2,e=>by
    have e':(x ++ ⟨#[c]⟩ ++ Str.join ⟨#[c]⟩ (x2 :: r)).cps.toList = (y ++ ⟨#[c]⟩ ++ Str.join ⟨#[c]⟩ (y2 :: t)).cps.toList:=e
    rw [app_l,app_l,app_l,app_l,List.append_assoc,List.append_assoc] at e'
    obtain ⟨a,b⟩:=cut_eq (h1 x List.mem_cons_self) (h2 y List.mem_cons_self) e'
    rw [strs_ext a,join_free (by simp) (by simp) (fun q hq=>h1 q (List.mem_cons_of_mem _ hq)) (fun q hq=>h2 q (List.mem_cons_of_mem _ hq)) b]
theorem join_ne {c:Nat} {y:Str}:Txt.split y ⟨#[c]⟩ ≠ []:=by
  unfold Txt.split
  split
  · simp
  · split
    · simp
    · rw [StrLaws.partsBetween_eq]
      obtain ⟨p,r,e⟩:=StrLaws.partsFrom_ne y (⟨#[c]⟩:Str).length 0 (Builtin.Str.occurrences y ⟨#[c]⟩ 0 y.length (y.length + 1))
      rw [e]; simp
theorem split_of {c:Nat} {xs:List Str} {t:Str} (h:xs ≠ []) (hf:∀ x ∈ xs,c ∉ x.cps.toList) (e:t.cps.toList = (Str.join ⟨#[c]⟩ xs).cps.toList):Txt.split t ⟨#[c]⟩ = xs:=by
  refine join_free (c:=c) join_ne h (StrLaws.split_free t c) hf ?_
  rw [StrLaws.join_split,e]
end K55
end
section
namespace K55
open PySem PySem.Spec PyProof.Rows L2 Rp K55
def Hat (h:AH) (n:Nat):Prop:=∃ z,h.get n = some z ∧ HatOk z
theorem Hat.kp {S:List Nat} {h h':AH} {n:Nat} (H:Hat h n) (k:Kp S h h') (hn:n ∉ S):Hat h' n:=by
  obtain ⟨z,e,o⟩:=H
  exact ⟨z,k.get e hn,o⟩
theorem Hat.lt {h:AH} {n:Nat} (H:Hat h n):n < h.next:=by
  obtain ⟨z,e,o⟩:=H
  exact AH.lt e
theorem hat_put {h:AH} {n:Nat} {z z':Kd × List AV} (e:h.get n = some z) (o:HatOk z'):Hat (h.put n z') n:=⟨z',by rw [AH.get_put e,if_pos rfl],o⟩
theorem take_hat {h:AH} {n:Nat} (H:Hat h n) (k:Nat) (K:Int) (hK:K = k:=by rfl) (hk:0 < k:=by omega) (hk2:k < 18446744073709551616:=by omega):∃ (d:Nat) (h':AH),d < k ∧ F__law_take [.ref n,.int K] h = some (.int d,h') ∧ Hat h' n ∧ Kp [n] h h' ∧ h'.next = h.next:=by
  subst hK
  obtain ⟨z,e,o⟩:=H
  obtain ⟨d,z',hd,hz,q⟩:=take_ok e o hk hk2
  exact ⟨d,_,hd,q,hat_put e hz,.put (by rw [e]; rfl) List.mem_cons_self,by simp⟩
theorem ofL_hat {h:AH} {n:Nat} (H:Hat h n) {xs:List AV} (h0:xs ≠ []) (h1:xs.length < 1000000):∃ (x:AV) (h':AH),x ∈ xs ∧ F__law_of [.ref n,.nod .lst xs] h = some (x,h') ∧ Hat h' n ∧ Kp [n] h h' ∧ h'.next = h.next:=by
  obtain ⟨z,e,o⟩:=H
  obtain ⟨x,z',hd,hz,q⟩:=of_lst e o h0 h1
  exact ⟨x,_,hd,q,hat_put e hz,.put (by rw [e]; rfl) List.mem_cons_self,by simp⟩
structure NameOk (x:Str):Prop where
  pos:1 ≤ x.length
  le:x.length ≤ 8
  let_:∀ c ∈ x.cps.toList,97 ≤ c ∧ c ≤ 122
def tails:List Str:=["", "x", "pear", "aaaaaaa", "qzqz", "bb", "tree"]
def nameAt (t:Str) (a m:Nat):Str:=Str.l (t.cps.toList.take a ++ (97 + m) :: t.cps.toList.drop a)
theorem tails_ok:∀ t ∈ tails,t.length ≤ 7 ∧ ∀ c ∈ t.cps.toList,97 ≤ c ∧ c ≤ 122:=by decide +kernel
theorem nameAt_len {t:Str} {a m:Nat}:(nameAt t a m).length = t.length + 1:=by
  rw [len_l,nameAt,sl_l,List.length_append,List.length_cons,List.length_take,List.length_drop,← len_l]
  omega
theorem nameAt_ok {t:Str} {a m:Nat} (ht:t ∈ tails) (hm:m < 26):NameOk (nameAt t a m):=by
  obtain ⟨h1,h2⟩:=tails_ok t ht
  have hl:(nameAt t a m).length = t.length + 1:=by
    rw [len_l,nameAt,sl_l,List.length_append,List.length_cons,List.length_take,List.length_drop,← len_l]
    omega
  refine ⟨by omega,by omega,fun c hc=>?_⟩
  rw [nameAt,sl_l] at hc
  rcases List.mem_append.mp hc with q | q
  · exact h2 c (List.mem_of_mem_take q)
  · rcases List.mem_cons.mp q with rfl | q
    · omega
    · exact h2 c (List.mem_of_mem_drop q)
theorem nameAt_inj {t:Str} {a m m':Nat} (e:nameAt t a m = nameAt t a m'):m = m':=by
  have:=congrArg (fun s=>s.cps.toList) e
  simp only [nameAt,sl_l] at this
  have:=List.append_cancel_left this
  have:=(List.cons.inj this).1
  omega
theorem cutS_pre {t:Str} {a:Nat} (ha:a ≤ t.length):cutS t none (some (a:Int)) = Str.l (t.cps.toList.take a):=by
  unfold cutS Str.l
  rw [HT.sIx_nat,HT.sIx_none,Nat.min_eq_left ha]
  simp
theorem cutS_post {t:Str} {a:Nat} (ha:a ≤ t.length):cutS t (some (a:Int)) none = Str.l (t.cps.toList.drop a):=by
  unfold cutS Str.l
  rw [HT.sIx_nat,HT.sIx_none,Nat.min_eq_left ha,List.take_of_length_le]
  rw [List.length_drop,← len_l]; exact Nat.le_refl _
theorem name_cat {t:Str} {a m:Nat}:Str.l (t.cps.toList.take a) ++ ⟨#[97 + m]⟩ ++ Str.l (t.cps.toList.drop a) = nameAt t a m:=by
  apply strs_ext
  rw [app_l,app_l,nameAt,sl_l,sl_l,sl_l]
  simp
theorem sz (n:Nat) (h:n ≤ 16777216):n ≤ sizeLine:=by rw [sizeLine_eq]; omega
theorem names_okL {h:AH} {n m:Nat} (H:Hat h n) (hm:m ≤ 4):∃ (N:List Str) (h':AH),N.length = m ∧ N.Nodup ∧ (∀ x ∈ N,NameOk x) ∧
    F__law_names [.ref n,.int m] h = some (.nod .lst (N.map .str),h') ∧ Hat h' n ∧ Kp [n] h h' ∧ ∃ l,∀ x ∈ N,x.length = l:=by
  obtain ⟨d1,h1,hd1,e1,H1,k1,x1⟩:=take_hat H 7 7
  have ht:∃ t ∈ tails,tails[d1]? = some t:=⟨tails[d1]'hd1,List.getElem_mem _,List.getElem?_eq_getElem hd1⟩
  obtain ⟨t,ht,et⟩:=ht
  have htl:=(tails_ok t ht).1
  obtain ⟨a,h2,ha,e2,H2,k2,x2⟩:=take_hat H1 (t.length + 1) (t.length + 1)
  obtain ⟨b,h3,hb,e3,H3,k3,x3⟩:=take_hat H2 26 26
  obtain ⟨d4,h4,hd4,e4,H4,k4,x4⟩:=take_hat H3 6 6
  have kk:=k1.trans (k2.trans (k3.trans k4))
  have hp:∃ p ∈ ([1,3,5,7,9,11]:List Nat),([1,3,5,7,9,11]:List Nat)[d4]? = some p:=⟨_,List.getElem_mem hd4,List.getElem?_eq_getElem hd4⟩
  obtain ⟨p,hp,ep⟩:=hp
  have hp11:p ≤ 11:=by simp at hp; omega
  let nm:Nat → Str:=fun k=>nameAt t a ((b + p * k) % 26)
  refine ⟨(List.range m).map nm,?_⟩
  obtain ⟨s',h',ef,q⟩:=forL_ix (G:=[]) (g:=gNm 7) (B:=(aSeq (aAsg (aOp2 aIx (aC (.str "abcdefghijklmnopqrstuvwxyz")) (aOp2 aMod (aOp2 aAdd (aVar 4) (aOp2 aMul (aVar 5) (aVar 7))) (aC (.int 26)))) (gNm 8))
    (aExp (aBM "list" aAppend (aVar 6) (aCons (aOp2 aAdd (aOp2 aAdd (aSlice mkF (aVar 2) aNo (aPart (aVar 3))) (aVar 8)) (aSlice mkF (aVar 2) (aPart (aVar 3)) aNo)) aNil)))))
    (xs:=rgI 0 m) (fun i s h=>∃ u v,s = [some (.ref n),some (.int m),some (.str t),some (.int a),some (.int b),some (.int p),some (.ref h4.next),u,v] ∧ h = (h4.new (.lst,((List.range i).map nm).map .str)))
    (fun _ _ _ _=>rfl) (fun i x s h hx ⟨u,v,es,eh⟩=>by
      obtain ⟨hi,rfl⟩:=rgI_get hx
      subst es eh
      have hm1:aMul (.int p) (.int i) = fun h=>some (.int (p * i),h):=by
        funext h; exact ev_mulI (by simp only [mulC,Bool.or_eq_true,Bool.and_eq_true,decide_eq_true_eq]; omega)
      have hm2:∀ j:Int,aMod (.int j) (.int 26) = fun h=>some (.int (j % 26),h):=fun j=>by
        funext h; exact ev_mod (by omega)
      obtain ⟨r,hr⟩:∃ r,(b + p * i) % 26 = r:=⟨_,rfl⟩
      have hr26:r < 26:=by rw [← hr]; exact Nat.mod_lt _ (by omega)
      have hl:∀ h',aIx (.str "abcdefghijklmnopqrstuvwxyz") (.int ((r:Nat):Int)) h' = some (.str ⟨#[97 + r]⟩,h'):=fun h' => by
        have key:∀ r:Nat,r < 26 → (aIxS (.str "abcdefghijklmnopqrstuvwxyz") (.int (r:Int)) h' = some (.str ⟨#[97 + r]⟩,h')):=by
          intro r hr
          have hg:(Str.ofString "abcdefghijklmnopqrstuvwxyz").cps.toList = (List.range 26).map (97 + ·):=by decide +kernel
          have hll:(Str.ofString "abcdefghijklmnopqrstuvwxyz").length ≤ sizeLine:=sz _ (by decide +kernel)
          unfold aIxS
          simp only [if_pos hll,hg]
          rw [atI_at (by simpa using hr)]
          simp [hr]
        have h1:aIxQ (.str "abcdefghijklmnopqrstuvwxyz") (.int ((r:Nat):Int)) h' = none:=rfl
        unfold aIx
        rw [h1,orO_none,key _ hr26]
        rfl
      have hc:((b:Int) + (p:Int) * (i:Int)) % 26 = ((r:Nat):Int):=by rw [← hr]; simp
      have hs1:=cutS_pre (t:=t) (a:=a) (by omega)
      have hs2:=cutS_post (t:=t) (a:=a) (by omega)
      have htz:t.length ≤ sizeLine:=sz _ (by omega)
      have l1:(Str.l (t.cps.toList.take a)).length ≤ 7:=by rw [len_l,sl_l,List.length_take,← len_l]; omega
      have l2:(Str.l (t.cps.toList.drop a)).length ≤ 7:=by rw [len_l,sl_l,List.length_drop,← len_l]; omega
      have ad1:∀ h',aAdd (.str (Str.l (t.cps.toList.take a))) (.str ⟨#[97 + r]⟩) h' = some (.str (Str.l (t.cps.toList.take a) ++ ⟨#[97 + r]⟩),h'):=fun _=>ev_addS (sz _ (by
        have:(⟨#[97 + r]⟩:Str).length = 1:=rfl
        omega))
      have ad2:∀ h',aAdd (.str (Str.l (t.cps.toList.take a) ++ ⟨#[97 + r]⟩)) (.str (Str.l (t.cps.toList.drop a))) h' = some (.str (nm i),h'):=fun _=>by
        rw [ev_addS (sz _ (by
          rw [app_len]
          have:(⟨#[97 + r]⟩:Str).length = 1:=rfl
          omega)),name_cat]; show _ = some (AV.str (nameAt t a ((b + p * i) % 26)),_); rw [hr]
      have hsz:i < sizeLine:=by rw [sizeLine_eq]; omega
      refine ⟨_,_,_,_,[some (.ref n),some (.int m),some (.str t),some (.int a),some (.int b),some (.int p),some (.ref h4.next),some (.int i),some (.str ⟨#[97 + r]⟩)],rfl,?_,.inl rfl,_,_,rfl,rfl⟩
      simp [hm1,hm2,hc,hl,sl_str htz,hs1,hs2,ad1,ad2,appR,hsz,List.range_succ]
      exact AH.ext (fun j=>by simp [get_putI]; split <;> simp_all) (by simp)) ⟨none,none,rfl,rfl⟩
  obtain ⟨u,v,es,eh⟩:=q
  rw [rgI_len] at eh
  have eh4:h'.get h4.next = some (.lst,((List.range m).map nm).map .str):=by rw [eh]; simp
  have hk:Kp [n] h (h'.del h4.next):=by
    have:Kp [n] h h':=by rw [eh]; exact kk.trans .new
    exact this.del kk.nx
  refine ⟨h'.del h4.next,by simp,?_,?_,?_,?_,hk,t.length + 1,fun x hx=>by
    obtain ⟨k,_,rfl⟩:=List.mem_map.mp hx
    exact nameAt_len⟩
  · rw [List.nodup_iff_pairwise_ne,List.pairwise_map]
    refine List.Pairwise.imp_of_mem ?_ (List.nodup_iff_pairwise_ne.mp List.nodup_range)
    intro x y hx hy hne e
    have e:=nameAt_inj e
    have hx:=List.mem_range.mp hx
    have hy:=List.mem_range.mp hy
    apply hne
    have:∀ p ∈ ([1,3,5,7,9,11]:List Nat),∀ b < 26,∀ x < 4,∀ y < 4,(b + p * x) % 26 = (b + p * y) % 26 → x = y:=by decide +kernel
    exact this p hp b hb x (by omega) y (by omega) e
  · intro x hx
    obtain ⟨k,_,rfl⟩:=List.mem_map.mp hx
    exact nameAt_ok ht (Nat.mod_lt _ (by omega))
  · have i1:∀ h',aIx (.nod .lst [.str "",.str "x",.str "pear",.str "aaaaaaa",.str "qzqz",.str "bb",.str "tree"]) (.int (d1:Nat)) h' = some (.str t,h'):=fun h' => ev_ixL look_nod (by
      have:[AV.str "",.str "x",.str "pear",.str "aaaaaaa",.str "qzqz",.str "bb",.str "tree"] = tails.map .str:=rfl
      rw [this,List.getElem?_map,et]; rfl)
    have i2:∀ h',aIx (.nod .lst [.int 1,.int 3,.int 5,.int 7,.int 9,.int 11]) (.int (d4:Nat)) h' = some (.int (p:Nat),h'):=fun h' => ev_ixL look_nod (by
      have:[AV.int 1,.int 3,.int 5,.int 7,.int 9,.int 11] = ([1,3,5,7,9,11]:List Nat).map fun k=>AV.int (k:Nat):=rfl
      rw [this,List.getElem?_map,ep]; rfl)
    have z7:7 ≤ sizeLine:=sz _ (by omega)
    have z6:6 ≤ sizeLine:=sz _ (by omega)
    have htz:t.length ≤ sizeLine:=sz _ (by omega)
    simp [F__law_names,ev_fn,B__law_names,startA,mkF,mkM,z7,z6,e1,i1,len_str htz,e2,e3,e4,i2,rngK_nat (show m < 1000000 by omega)]
    rw [show h4.new (Kd.lst,[]) = h4.new (Kd.lst,List.map AV.str (List.map nm (List.range 0))) from rfl,ef,es]
    simp [frz1_ref eh4]
  · obtain ⟨z,ez,oz⟩:=H4
    have:=AH.lt ez
    exact ⟨z,by rw [get_del,if_neg (by omega),eh,get_new,if_neg (by omega)]; exact ez,oz⟩
theorem names_ok {h:AH} {n m:Nat} (H:Hat h n) (hm:m ≤ 4):∃ (N:List Str) (h':AH),N.length = m ∧ N.Nodup ∧ (∀ x ∈ N,NameOk x) ∧
    F__law_names [.ref n,.int m] h = some (.nod .lst (N.map .str),h') ∧ Hat h' n ∧ Kp [n] h h':=by
  obtain ⟨N,h',a1,a2,a3,a4,a5,a6,_⟩:=names_okL H hm
  exact ⟨N,h',a1,a2,a3,a4,a5,a6⟩
end K55
end
section
namespace K55
open PySem PySem.Spec PyProof.Rows L2 Rp K55
def fstA:AV → AV
  | .nod .tup [a,_]=>a
  | _=>.non
def sndA:AV → AV
  | .nod .tup [_,b]=>b
  | _=>.non
abbrev RSm:=R__law_same
def Same (k:Nat) (a b:AV) (h:AH):Prop:=lenF 2 (RSm k) [a,b] h = some (.bl true,h)
theorem isi_b {a:AV} {h:AH} {T C:String} (e:tyN h a = some T) (hc:clsOk C = true):aIsi a (.ty C) h = some (.bl (isTy T C),h):=by
  simp [aIsi,hc,e]
theorem isiT_b {a:AV} {h:AH} {T:String} {c1 c2:String} (e:tyN h a = some T) (hc:(clsOk c1 && clsOk c2) = true):aIsiT a (.nod .tup [.ty c1,.ty c2]) h = some (.bl (isTy T c1 || isTy T c2),h):=by
  simp at hc
  simp [aIsiT,tysOf,hc,e]
theorem same_str {k:Nat} {x:Str} {h:AH}:Same (k + 1) (.str x) (.str x) h:=by
  show lenF 2 (fnA 4 _) _ _ = _
  rw [ev_fn (by rfl)]
  have t1:tyN h (.str x) = some "str" := rfl
  have z2:2 ≤ sizeLine:=sz _ (by omega)
  have i1:=isi_b (C := "bool") t1 (by decide)
  have i2:=isi_b (C := "int") t1 (by decide)
  have i3:=isiT_b (c1 := "int") (c2 := "str") t1 (by decide)
  have b1:isTy "str" "bool" = false:=by decide
  have b2:isTy "str" "int" = false:=by decide
  have b3:isTy "str" "str" = true:=by decide
  have e1:aEq (.bl false) (.bl false) h = some (.bl true,h):=by simp [aEq,nrm,isD,toD,PyData.eqv]
  simp [B__law_same,startA,i1,i2,i3,b1,b2,b3,mkF,z2,e1,eq_ss]
theorem same_int {k:Nat} {x:Int} {h:AH}:Same (k + 1) (.int x) (.int x) h:=by
  show lenF 2 (fnA 4 _) _ _ = _
  rw [ev_fn (by rfl)]
  have t1:tyN h (.int x) = some "int" := rfl
  have z2:2 ≤ sizeLine:=sz _ (by omega)
  have i1:=isi_b (C := "bool") t1 (by decide)
  have i2:=isi_b (C := "int") t1 (by decide)
  have i3:=isiT_b (c1 := "int") (c2 := "str") t1 (by decide)
  have b1:isTy "int" "bool" = false:=by decide
  have b2:isTy "int" "int" = true:=by decide
  have b3:isTy "int" "str" = false:=by decide
  have e1:aEq (.bl true) (.bl true) h = some (.bl true,h):=by simp [aEq,nrm,isD,toD,PyData.eqv]
  simp [B__law_same,startA,i1,i2,i3,b1,b2,b3,mkF,z2,e1,eq_ii]
theorem same_lst {k:Nat} {a:AV} {xs ys:List AV} {G:Grd} {h:AH} (ha:look h a = some (.lst,xs)) (hs:srcL a h = some (xs,G)) (hG:chk G h = true) (hla:aLenV a h = some (.int xs.length,h)) (hna:tyN h a = some "list") (hl:xs.length = ys.length) (hz:xs.length ≤ 1000)
    (hx:∀ (i:Nat) x y,xs[i]? = some x → ys[i]? = some y → Same k x y h):Same (k + 1) a (.nod .lst ys) h:=by
  show lenF 2 (fnA 4 _) _ _ = _
  rw [ev_fn (by rfl)]
  have t2:tyN h (.nod .lst ys) = some "list" := rfl
  have z2:2 ≤ sizeLine:=sz _ (by omega)
  have i1:=isi_b (C := "bool") hna (by decide)
  have i1':=isi_b (C := "bool") t2 (by decide)
  have i3:=isiT_b (c1 := "int") (c2 := "str") t2 (by decide)
  have i4:=isi_b (C := "list") hna (by decide)
  have i4':=isi_b (C := "list") t2 (by decide)
  have i5:=isi_b (C := "tuple") hna (by decide)
  have i5':=isi_b (C := "tuple") t2 (by decide)
  have i6:=isiT_b (c1 := "list") (c2 := "tuple") hna (by decide)
  have b1:isTy "list" "bool" = false:=by decide
  have b2:isTy "list" "int" = false:=by decide
  have b3:isTy "list" "str" = false:=by decide
  have b4:isTy "list" "list" = true:=by decide
  have b5:isTy "list" "tuple" = false:=by decide
  have e1:∀ b:Bool,aNe (.bl b) (.bl b) h = some (.bl false,h):=fun b=>by simp [aNe,nrm,isD,toD,PyData.eqv]
  obtain ⟨Z,hZ⟩:∃ Z,xs.zipWith (fun x y=>AV.nod .tup [x,y]) ys = Z:=⟨_,rfl⟩
  have hZl:Z.length ≤ 1000:=by rw [← hZ]; simp; omega
  have el:=lcL_map (G:=G ++ []) (g:=(gSq 2 (gsCons (gNm 2) (gsCons (gNm 3) gsNil)))) (t:=aYes) (f:=(aCall (lenF 2 (RSm k)) [] (aCons (aVar 2) (aCons (aVar 3) aNil)))) (s0:=[some a,some (.nod .lst ys),none,none]) (h:=h) (by rw [List.append_nil]; exact hG) (fun _=>true) (fun _=>.bl true) (fun v=>[some a,some (.nod .lst ys),some (fstA v),some (sndA v)]) Z [] (fun v hv=>by
    obtain ⟨i,hi⟩:=List.mem_iff_getElem?.mp hv
    rw [← hZ,List.getElem?_zipWith] at hi
    split at hi
    · rename_i x y e1 e2
      cases hi
      have:=hx i x y e1 e2
      exact ⟨rfl,rfl,fun _=>by simp [fstA,sndA]; exact this⟩
    · cases hi) (sz _ (by simp; omega))
  rw [List.filter_eq_self.mpr (by simp),List.nil_append] at el
  have zl:(Z.map fun _=>AV.bl true).length ≤ sizeLine:=sz _ (by simp; omega)
  have ea:∀ h',aAllV (.nod .lst (Z.map fun _=>AV.bl true)) h' = some (.bl true,h'):=fun h' => by
    unfold aAllV lstOf
    simp only [look_nod,Option.bind_some]
    rw [show (Z.map fun _=>AV.bl true) = (Z.map fun _=>true).map AV.bl by simp,boolsOf_map]
    simp
  have ez:∀ {gs:AA} {s:LS},gs s h = some ([a,.nod .lst ys],h) → sZipA gs s h = some ((Z,G ++ []),h):=fun {gs s} e=>by
    have:srcL (.nod .lst ys) h = some (ys,[]):=rfl
    unfold sZipA sZip
    rw [e]
    simp only [Option.bind_some,hs,this,hZ]
    rfl
  have ez1:sZipA (aCons (aVar 0) (aCons (aVar 1) aNil)) [some a,some (.nod .lst ys),none,none] h = _:=ez (by simp)
  simp only [B__law_same,startA]
  simp [i1,i1',i3,i4,i4',i5,i5',i6,b1,b2,b3,b4,b5,e1,mkF,z2,hla,eq_ii,hl]
  rw [ez1]
  simp only [Option.bind_some]
  have hw:wipeA [some a,some (AV.nod .lst ys),none,none] [2,3] = [some a,some (.nod .lst ys),none,none]:=rfl
  rw [hw,el]
  have zz:Z.length ≤ sizeLine:=sz _ (by omega)
  simp [mkF,zz,ea]
end K55
end
section
namespace Rp
open PySem PySem.Spec PyProof.Rows L2 Rp
section
section
theorem join_ok {x:Str} {ys:List Str} {h:AH} (hz:(ys.map fun y=>y.length).sum + ys.length * x.length ≤ 16777216):aJoin (.str x) [.nod .lst (ys.map .str)] h = some (.str (Txt.join x ys),h):=by
  simp only [aJoin,seqOf_lst,Option.bind_some,strsOf_map]
  rw [if_pos hz]
end
section
theorem sum_le {ys:List Str} {m:Nat} (hy:∀ y ∈ ys,y.length ≤ m):(ys.map fun y=>y.length).sum ≤ m * ys.length:=by
  induction ys with
  | nil=>simp
  | cons y ys ih =>
    have h1:=hy y List.mem_cons_self
    have h2:=ih fun z hz=>hy z (List.mem_cons_of_mem _ hz)
    simp only [List.map_cons,List.sum_cons,List.length_cons,Nat.mul_succ]
    omega
end
end
end Rp
namespace K55
open PySem PySem.Spec PyProof.Rows L2 Rp K55
section
section
theorem join_len {x:Str} {ys:List Str} {m:Nat} (hy:∀ y ∈ ys,y.length ≤ m):(Txt.join x ys).length ≤ m * ys.length + ys.length * x.length:=by
  have h1:=StrLaws.join_length_le x ys
  have h2:=sum_le hy
  rw [show Txt.join x ys = Str.join x ys from StrLaws.glued_eq_join _ _]
  have h3:(ys.map (·.length)).sum = (ys.map fun y=>y.length).sum:=rfl
  omega
end
section
theorem seq_step {A B:AS} {s s':LS} {h h':AH} (e:A s h = some (.nx s',h')):aSeq A B s h = B s' h':=by
  rw [ev_seq,e,seqK_nx]
end
section
variable {h:AH}
theorem lcL_enc {α:Type} (enc:α → AV) {G:Grd} {g:AG} {t:AT} {f:AE} {s0:LS} (hG:chk G h = true) (p:α → Bool) (φ:α → AV) (σ:α → LS):∀ (N:List α) (acc:List AV),
    (∀ x ∈ N,g (enc x) s0 h = some (σ x,h) ∧ t (σ x) h = some (p x,h) ∧ (p x = true → f (σ x) h = some (φ x,h))) → acc.length + N.length ≤ sizeLine →
    lcL G g t f s0 (N.map enc) acc h = some (acc ++ (N.filter p).map φ,h)
  | [],acc,_,_=>by rw [List.map_nil]; unfold lcL; rw [if_pos hG]; simp
  | x :: xs,acc,hx,hz=>by
    obtain ⟨e1,e2,e3⟩:=hx x List.mem_cons_self
    rw [List.map_cons]
    unfold lcL
    rw [if_pos hG,e1,Option.bind_some]
    dsimp only
    rw [e2,Option.bind_some]
    dsimp only
    rw [List.length_cons] at hz
    have ih:=fun acc' hz' => lcL_enc enc hG p φ σ xs acc' (fun y hy=>hx y (List.mem_cons_of_mem _ hy)) hz'
    by_cases hp:p x = true
    · rw [if_pos hp,e3 hp,Option.bind_some,if_pos (by omega)]
      dsimp only
      rw [ih _ (by rw [List.length_append,List.length_singleton]; omega),List.filter_cons_of_pos hp]
      simp
    · rw [if_neg hp,ih _ (by omega),List.filter_cons_of_neg hp]
end
section
theorem same_tup {k:Nat} {xs:List AV} {h:AH} (hz:xs.length ≤ 1000) (hx:∀ v ∈ xs,Same k v v h):Same (k + 1) (.nod .tup xs) (.nod .tup xs) h:=by
  show lenF 2 (fnA 4 _) _ _ = _
  rw [ev_fn (by rfl)]
  have hna:tyN h (.nod .tup xs) = some "tuple" := rfl
  have z2:2 ≤ sizeLine:=sz _ (by omega)
  have i1:=isi_b (C := "bool") hna (by decide)
  have i3:=isiT_b (c1 := "int") (c2 := "str") hna (by decide)
  have i4:=isi_b (C := "list") hna (by decide)
  have i5:=isi_b (C := "tuple") hna (by decide)
  have i6:=isiT_b (c1 := "list") (c2 := "tuple") hna (by decide)
  have b1:isTy "tuple" "bool" = false:=by decide
  have b2:isTy "tuple" "int" = false:=by decide
  have b3:isTy "tuple" "str" = false:=by decide
  have b4:isTy "tuple" "list" = false:=by decide
  have b5:isTy "tuple" "tuple" = true:=by decide
  have e1:∀ b:Bool,aNe (.bl b) (.bl b) h = some (.bl false,h):=fun b=>by simp [aNe,nrm,isD,toD,PyData.eqv]
  obtain ⟨Z,hZ⟩:∃ Z,xs.zipWith (fun x y=>AV.nod .tup [x,y]) xs = Z:=⟨_,rfl⟩
  have hZl:Z.length ≤ 1000:=by rw [← hZ]; simp; omega
  have el:=lcL_map (G:=[]) (g:=(gSq 2 (gsCons (gNm 2) (gsCons (gNm 3) gsNil)))) (t:=aYes) (f:=(aCall (lenF 2 (RSm k)) [] (aCons (aVar 2) (aCons (aVar 3) aNil)))) (s0:=[some (.nod .tup xs),some (.nod .tup xs),none,none]) (h:=h) rfl (fun _=>true) (fun _=>.bl true) (fun v=>[some (.nod .tup xs),some (.nod .tup xs),some (fstA v),some (sndA v)]) Z [] (fun v hv=>by
    obtain ⟨i,hi⟩:=List.mem_iff_getElem?.mp hv
    rw [← hZ,List.getElem?_zipWith] at hi
    split at hi
    · rename_i x y e1 e2
      cases hi
      rw [e1] at e2
      cases e2
      have:=hx x (List.mem_of_getElem? e1)
      exact ⟨rfl,rfl,fun _=>by simp [fstA,sndA]; exact this⟩
    · cases hi) (sz _ (by simp; omega))
  rw [List.filter_eq_self.mpr (by simp),List.nil_append] at el
  have zl:(Z.map fun _=>AV.bl true).length ≤ sizeLine:=sz _ (by simp; omega)
  have ea:∀ h',aAllV (.nod .lst (Z.map fun _=>AV.bl true)) h' = some (.bl true,h'):=fun h' => by
    unfold aAllV lstOf
    simp only [look_nod,Option.bind_some]
    rw [show (Z.map fun _=>AV.bl true) = (Z.map fun _=>true).map AV.bl by simp,boolsOf_map]
    simp
  have ez:∀ {gs:AA} {s:LS},gs s h = some ([.nod .tup xs,.nod .tup xs],h) → sZipA gs s h = some ((Z,[]),h):=fun {gs s} e=>by
    have l1:srcL (.nod .tup xs) h = none:=rfl
    have l2:srcT (.nod .tup xs) h = some (xs,[]):=rfl
    unfold sZipA sZip sZipT
    rw [e]
    simp only [Option.bind_some,l1,l2,hZ,Option.bind_none]
    rfl
  have ez1:sZipA (aCons (aVar 0) (aCons (aVar 1) aNil)) [some (.nod .tup xs),some (.nod .tup xs),none,none] h = _:=ez (by simp)
  have hla:aLenV (.nod .tup xs) h = some (.int xs.length,h):=by simp
  simp only [B__law_same,startA]
  simp [i1,i3,i4,i5,i6,b1,b2,b3,b4,b5,e1,mkF,z2,hla,eq_ii]
  rw [ez1]
  simp only [Option.bind_some]
  have hw:wipeA [some (.nod .tup xs),some (AV.nod .tup xs),none,none] [2,3] = [some (.nod .tup xs),some (.nod .tup xs),none,none]:=rfl
  rw [hw,el]
  have zz:Z.length ≤ sizeLine:=sz _ (by omega)
  simp [mkF,zz,ea]
end
end
end K55
namespace Rp
open PySem PySem.Spec PyProof.Rows L2 Rp
section
section
variable {h h':AH} {n:Nat} {xs:List AV}
theorem kIx_mem {ks:List Key} {k:Key}:(kIx ks k).isSome = true ↔ k ∈ ks:=by
  unfold kIx
  induction ks with
  | nil=>simp
  | cons x ks ih =>
    rw [List.findIdx?_cons]
    by_cases q:x = k
    · simp [q]
    · have q2:¬ k = x:=fun e=>q e.symm
      simp [q,q2] at ih ⊢
end
section
theorem dPut_fresh {α:Type} {ks:List Key} {fs:List α} {k:Key} {v:α} (h:k ∉ ks):dPut ks fs k v = (ks ++ [k],fs ++ [v]):=by
  unfold dPut
  rw [if_neg fun q=>h (kIx_mem.mp q)]
end
section
theorem dMrg_app {α:Type}:∀ (ps:List (Key × α)) (ks:List Key) (xs:List α),(ks ++ ps.map (·.1)).Nodup → dMrg (ks,xs) ps = (ks ++ ps.map (·.1),xs ++ ps.map (·.2))
  | [],ks,xs,_=>by simp [dMrg]
  | p :: ps,ks,xs,h=>by
    have hn:p.1 ∉ ks:=fun q=>by
      rw [List.nodup_append] at h
      exact h.2.2 _ q _ (by simp) rfl
    have:dMrg (ks,xs) (p :: ps) = dMrg (dPut ks xs p.1 p.2) ps:=rfl
    rw [this,dPut_fresh hn,dMrg_app ps _ _ (by simpa using h)]
    simp
end
section
theorem dMrg_new {α:Type} {ps:List (Key × α)} (h:(ps.map (·.1)).Nodup):dMrg ([],[]) ps = (ps.map (·.1),ps.map (·.2)):=by
  rw [dMrg_app _ _ _ (by simpa using h)]
  simp
end
end
end Rp
namespace K55
open PySem PySem.Spec PyProof.Rows L2 Rp K55
section
section
theorem get_newo {g g':AH} {n:Nat} {c c2:Kd × List AV} (hg:g.new c = g') (e:g.get n = some c2):g'.get n = some c2:=by
  rw [← hg]; exact new_oth e
end
section
variable {n:Nat}
theorem take_e {h h':AH} {s:LS} {j k d:Nat} {K:Int} (h0:s[j]? = some (some (.ref n))) (e:F__law_take [.ref n,.int K] h = some (.int (d:Nat),h')):aCall F__law_take [] (aCons (aVar j) (aCons (aC (.int K)) aNil)) s h = some (.int (d:Nat),h'):=by
  simp only [ev_call,ev_cons,ev_var,h0,varK_some,consK_some,ev_c,ev_nil,consJ_some,List.append_nil,argsK_some,e]
end
end
end K55
end
section
namespace K55
open PySem PySem.Spec PyProof.Rows L2 Rp K55
theorem sp_eq:Str.ofString " " = ⟨#[32]⟩:=by decide +kernel
def wordsT (r:Str):List Str:=Txt.split r (Str.ofString " ")
def figT (w:Str):Option Nat:=match w.cps.toList with
  | [d]=>if 48 ≤ d ∧ d ≤ 57 then some (d - 48) else none
  | _=>none
def thingT (c:Nat) (w:Str):Option AV:=if c = 110 then (figT w).map fun k=>.int (k:Nat) else if w = Str.empty then none else some (.str w)
def thingsT:List Nat → List Str → Option (List AV)
  | [],[]=>some []
  | c :: cs,w :: ws=>(thingT c w).bind fun v=>(thingsT cs ws).map (v :: ·)
  | _,_=>none
abbrev ksF:List Key:=[.inr "on",.inr "off",.inr "step",.inr "answer",.inr "carriers"]
abbrev vsF:List AV:=[.str "n",.str "t",.str "t",.str "tn",.str "n"]
def sgF:List (List Nat):=[[110],[116],[116],[116,110],[110]]
def formS (w:Str):Option (List Nat):=(kIx ksF (.inr w)).bind fun i=>sgF[i]?
def readT (r:Str):Option (List AV):=match wordsT r with
  | []=>none
  | w :: ws=>(formS w).bind fun cs=>(thingsT cs ws).map (AV.str w :: ·)
theorem kIx_lt5 {w:Str} {i:Nat} (e:kIx ksF (.inr w) = some i):i < 5:=by
  unfold kIx at e
  have:=List.findIdx?_eq_some_iff_getElem.mp e
  obtain ⟨h,_⟩:=this
  exact h
theorem form_some {w:Str} {i:Nat} (e:kIx ksF (.inr w) = some i):∃ cs,formS w = some cs ∧ vsF[i]? = some (.str ⟨cs.toArray⟩) ∧ cs.length ≤ 2 ∧ (⟨cs.toArray⟩:Str) ≠ "?" := by
  have hi:=kIx_lt5 e
  unfold formS
  rw [e]
  have key:∀ i < 5,∃ cs,(some i).bind (fun i=>sgF[i]?) = some cs ∧ vsF[i]? = some (.str ⟨cs.toArray⟩) ∧ cs.length ≤ 2 ∧ (⟨cs.toArray⟩:Str) ≠ "?" := by
    intro i hi
    match i,hi with
    | 0,_=>exact ⟨[110],rfl,rfl,by decide,by decide +kernel⟩
    | 1,_=>exact ⟨[116],rfl,rfl,by decide,by decide +kernel⟩
    | 2,_=>exact ⟨[116],rfl,rfl,by decide,by decide +kernel⟩
    | 3,_=>exact ⟨[116,110],rfl,rfl,by decide,by decide +kernel⟩
    | 4,_=>exact ⟨[110],rfl,rfl,by decide,by decide +kernel⟩
  exact key i hi
theorem form_none {w:Str} (e:kIx ksF (.inr w) = none):formS w = none:=by
  unfold formS; rw [e]; rfl
theorem form_empty:formS Str.empty = none:=by decide +kernel
theorem figs:(Str.ofString "0123456789").cps.toList = [48,49,50,51,52,53,54,55,56,57]:=by decide +kernel
theorem in_figs {d:Nat}:d ∈ (Str.ofString "0123456789").cps.toList ↔ 48 ≤ d ∧ d ≤ 57:=by
  rw [figs]
  simp only [List.mem_cons,List.not_mem_nil,or_false]
  omega
theorem int_fig:∀ k < 10,PySem.intText? ⟨#[48 + k]⟩ = some (k:Int):=by decide +kernel
theorem one_of {w:Str} (e:w.length = 1):∃ d,w = ⟨#[d]⟩:=by
  rw [len_l] at e
  obtain ⟨d,hd⟩:=List.length_eq_one_iff.mp e
  exact ⟨d,strs_ext (by rw [hd])⟩
theorem fig_one {d:Nat}:figT ⟨#[d]⟩ = if 48 ≤ d ∧ d ≤ 57 then some (d - 48) else none:=rfl
theorem fig_len {w:Str} (e:w.length ≠ 1):figT w = none:=by
  rw [len_l] at e
  unfold figT
  split
  · rename_i d hd
    rw [hd] at e
    exact absurd rfl e
  · rfl
theorem join_n:∀ (xs:List Str),xs.length ≤ (Str.join ⟨#[32]⟩ xs).length + 1 ∧ ∀ x ∈ xs,x.length ≤ (Str.join ⟨#[32]⟩ xs).length
  | []=>⟨by simp,by simp⟩
  | [x]=>⟨by simp,fun y hy=>by rw [List.mem_singleton] at hy; subst hy; exact Nat.le_refl _⟩
  | x :: y :: r=>by
    obtain ⟨h1,h2⟩:=join_n (y :: r)
    have e:(Str.join ⟨#[32]⟩ (x :: y :: r)).length = x.length + 1 + (Str.join ⟨#[32]⟩ (y :: r)).length:=by
      show (x ++ ⟨#[32]⟩ ++ Str.join ⟨#[32]⟩ (y :: r)).length = _
      rw [app_len,app_len]; rfl
    simp only [List.length_cons] at h1 ⊢
    refine ⟨by omega,fun z hz=>?_⟩
    rcases List.mem_cons.mp hz with rfl | hz
    · omega
    · have:=h2 z hz
      omega
theorem words_join {r:Str}:Str.join ⟨#[32]⟩ (wordsT r) = r:=by
  unfold wordsT
  rw [sp_eq]
  exact StrLaws.join_split r ⟨#[32]⟩
theorem words_n {r:Str}:(wordsT r).length ≤ r.length + 1 ∧ ∀ x ∈ wordsT r,x.length ≤ r.length:=by
  have:=join_n (wordsT r)
  rwa [words_join] at this
theorem words_ne {r:Str}:wordsT r ≠ []:=by
  unfold wordsT
  rw [sp_eq]
  exact join_ne
theorem words_of {xs:List Str} (h:xs ≠ []) (hf:∀ x ∈ xs,32 ∉ x.cps.toList):wordsT (Txt.join (Str.ofString " ") xs) = xs:=by
  unfold wordsT
  rw [sp_eq]
  exact split_of h hf (by rw [show Txt.join ⟨#[32]⟩ xs = Str.join ⟨#[32]⟩ xs from StrLaws.glued_eq_join _ _])
theorem things_len:∀ {cs:List Nat} {ws:List Str},cs.length ≠ ws.length → thingsT cs ws = none
  | [],[],h=>absurd rfl h
  | [],_ :: _,_=>rfl
  | _ :: _,[],_=>rfl
  | c :: cs,w :: ws,h=>by
    unfold thingsT
    rw [things_len (cs:=cs) (ws:=ws) (by simpa using h)]
    cases thingT c w <;> rfl
def isNn:AV → Bool
  | .non=>true
  | _=>false
def thV (p:Nat × Str):AV:=(thingT p.1 p.2).getD .non
theorem thing_some {c:Nat} {w:Str} {v:AV} (e:thingT c w = some v):(∃ k:Nat,k < 10 ∧ v = .int (k:Nat)) ∨ v = .str w:=by
  unfold thingT at e
  split at e
  · obtain ⟨k,e1,e2⟩:=Option.map_eq_some_iff.mp e
    unfold figT at e1
    split at e1
    · split at e1
      · cases e1; exact .inl ⟨_,by omega,e2.symm⟩
      · cases e1
    · cases e1
  · split at e
    · cases e
    · cases e; exact .inr rfl
theorem thV_nn {p:Nat × Str}:isNn (thV p) = (thingT p.1 p.2).isNone:=by
  unfold thV
  cases e:thingT p.1 p.2 with
  | none=>rfl
  | some v =>
    rcases thing_some e with ⟨k,_,rfl⟩ | rfl <;> rfl
theorem things_zip:∀ {cs:List Nat} {ws:List Str},cs.length = ws.length → thingsT cs ws = if ((cs.zip ws).map thV).any isNn = true then none else some ((cs.zip ws).map thV)
  | [],[],_=>rfl
  | [],_ :: _,h=>by simp at h
  | _ :: _,[],h=>by simp at h
  | c :: cs,w :: ws,h=>by
    have ih:=things_zip (cs:=cs) (ws:=ws) (by simpa using h)
    unfold thingsT
    rw [List.zip_cons_cons,List.map_cons,List.any_cons,thV_nn,ih]
    cases e:thingT c w with
    | none=>simp
    | some v =>
      have:thV (c,w) = v:=by unfold thV; rw [e]; rfl
      rw [this]
      simp only [Option.bind_some,Option.isNone_some,Bool.false_or]
      split <;> rfl
theorem things_empty:∀ {cs:List Nat} {ws:List Str},Str.empty ∈ ws → thingsT cs ws = none
  | [],_ :: _,_=>rfl
  | [],[],h=>by simp at h
  | _ :: _,[],h=>by simp at h
  | c :: cs,w :: ws,h=>by
    unfold thingsT
    rcases List.mem_cons.mp h with e | h
    · subst e
      have:thingT c Str.empty = none:=by
        unfold thingT
        rw [if_pos rfl]
        have:figT Str.empty = none:=rfl
        rw [this]
        split <;> rfl
      rw [this]
      rfl
    · rw [things_empty (cs:=cs) h]
      cases thingT c w <;> rfl
inductive DOk:List AV → Prop
  | on (n:Nat) (h:n < 10):DOk [.str "on",.int (n:Nat)]
  | off (x:Str) (h:NameOk x):DOk [.str "off",.str x]
  | step (x:Str) (h:NameOk x):DOk [.str "step",.str x]
  | answer (x:Str) (n:Nat) (h:NameOk x) (hn:n < 10):DOk [.str "answer",.str x,.int (n:Nat)]
  | cars (n:Nat) (h:n < 10):DOk [.str "carriers",.int (n:Nat)]
def thT:AV → Str
  | .int i=>toString i
  | .str x=>x
  | _=>Str.empty
def rowT (D:List AV):Str:=Txt.join (Str.ofString " ") (D.map thT)
theorem num_fig:∀ k < 10,Str.ofString (toString ((k:Nat):Int)) = ⟨#[48 + k]⟩:=by decide +kernel
theorem th_fig {k:Nat} (h:k < 10):thT (.int (k:Nat)) = ⟨#[48 + k]⟩:=num_fig k h
theorem fig_of {k:Nat} (h:k < 10):figT ⟨#[48 + k]⟩ = some k:=by
  rw [fig_one,if_pos (by omega)]
  congr 1; omega
theorem name_free {x:Str} (h:NameOk x):32 ∉ x.cps.toList:=fun q=>by have:=h.let_ _ q; omega
theorem name_ne {x:Str} (h:NameOk x):x ≠ Str.empty:=by
  rintro rfl
  have:=h.pos
  exact absurd this (by decide)
theorem fig_free {k:Nat} (h:k < 10):32 ∉ (⟨#[48 + k]⟩:Str).cps.toList:=by simp; omega
theorem word_free:∀ w ∈ (["on", "off", "step", "answer", "carriers"]:List Str),32 ∉ w.cps.toList:=by decide +kernel
theorem f_on:formS "on" = some [110]:=by decide +kernel
theorem f_off:formS "off" = some [116]:=by decide +kernel
theorem f_step:formS "step" = some [116]:=by decide +kernel
theorem f_answer:formS "answer" = some [116,110]:=by decide +kernel
theorem f_cars:formS "carriers" = some [110]:=by decide +kernel
theorem thing_n {k:Nat} (h:k < 10):thingT 110 ⟨#[48 + k]⟩ = some (.int (k:Nat)):=by
  unfold thingT
  rw [if_pos rfl,fig_of h]; rfl
theorem thing_t {x:Str} (h:NameOk x):thingT 116 x = some (.str x):=by
  unfold thingT
  rw [if_neg (by decide),if_neg (name_ne h)]
theorem read_row {D:List AV} (h:DOk D):readT (rowT D) = some D:=by
  have two:∀ {w y:Str} {c:Nat} {v:AV},w ∈ (["on", "off", "step", "answer", "carriers"]:List Str) → 32 ∉ y.cps.toList → formS w = some [c] → thingT c y = some v → readT (Txt.join (Str.ofString " ") [w,y]) = some [.str w,v]:=by
    intro w y c v hw hy ef et
    unfold readT
    rw [words_of (by simp) (by
      intro z hz
      simp only [List.mem_cons,List.not_mem_nil,or_false] at hz
      rcases hz with rfl | rfl
      · exact word_free _ hw
      · exact hy)]
    simp only [ef,Option.bind_some,thingsT,et,Option.map_some]
  cases h with
  | on n h=>show readT (Txt.join _ [thT (.str "on"),thT (.int (n:Nat))]) = _; rw [th_fig h]; exact two (w := "on") (by simp) (fig_free h) f_on (thing_n h)
  | off x h=>exact two (w := "off") (by simp) (name_free h) f_off (thing_t h)
  | step x h=>exact two (w := "step") (by simp) (name_free h) f_step (thing_t h)
  | cars n h=>show readT (Txt.join _ [thT (.str "carriers"),thT (.int (n:Nat))]) = _; rw [th_fig h]; exact two (w := "carriers") (by simp) (fig_free h) f_cars (thing_n h)
  | answer x n h hn =>
    show readT (Txt.join _ [("answer" : Str),x,thT (.int (n:Nat))]) = _
    rw [th_fig hn]
    unfold readT
    rw [words_of (by simp) (by
      intro z hz
      simp only [List.mem_cons,List.not_mem_nil,or_false] at hz
      rcases hz with rfl | rfl | rfl
      · exact word_free _ (by simp)
      · exact name_free h
      · exact fig_free hn)]
    simp only [f_answer,Option.bind_some,thingsT,thing_t h,thing_n hn,Option.map_some]
theorem word_le:∀ w ∈ (["on", "off", "step", "answer", "carriers"]:List Str),w.length ≤ 8:=by decide +kernel
theorem d_words {D:List AV} (h:DOk D):D.length ≤ 3 ∧ ∀ v ∈ D,((∃ k:Nat,k < 10 ∧ v = .int (k:Nat)) ∨ ∃ x:Str,v = .str x) ∧ (thT v).length ≤ 8:=by
  have F:∀ {n:Nat},n < 10 → (thT (.int (n:Nat))).length ≤ 8:=fun h=>by rw [th_fig h]; show 1 ≤ 8; omega
  cases h with
  | on n h=>exact ⟨by simp,fun v hv=>by
      simp only [List.mem_cons,List.not_mem_nil,or_false] at hv
      rcases hv with rfl | rfl
      · exact ⟨.inr ⟨_,rfl⟩,word_le "on" (by simp)⟩
      · exact ⟨.inl ⟨n,h,rfl⟩,F h⟩⟩
  | cars n h=>exact ⟨by simp,fun v hv=>by
      simp only [List.mem_cons,List.not_mem_nil,or_false] at hv
      rcases hv with rfl | rfl
      · exact ⟨.inr ⟨_,rfl⟩,word_le "carriers" (by simp)⟩
      · exact ⟨.inl ⟨n,h,rfl⟩,F h⟩⟩
  | off x h=>exact ⟨by simp,fun v hv=>by
      simp only [List.mem_cons,List.not_mem_nil,or_false] at hv
      rcases hv with rfl | rfl
      · exact ⟨.inr ⟨_,rfl⟩,word_le "off" (by simp)⟩
      · exact ⟨.inr ⟨_,rfl⟩,h.le⟩⟩
  | step x h=>exact ⟨by simp,fun v hv=>by
      simp only [List.mem_cons,List.not_mem_nil,or_false] at hv
      rcases hv with rfl | rfl
      · exact ⟨.inr ⟨_,rfl⟩,word_le "step" (by simp)⟩
      · exact ⟨.inr ⟨_,rfl⟩,h.le⟩⟩
  | answer x n h hn=>exact ⟨by simp,fun v hv=>by
      simp only [List.mem_cons,List.not_mem_nil,or_false] at hv
      rcases hv with rfl | rfl | rfl
      · exact ⟨.inr ⟨_,rfl⟩,word_le "answer" (by simp)⟩
      · exact ⟨.inr ⟨_,rfl⟩,h.le⟩
      · exact ⟨.inl ⟨n,hn,rfl⟩,F hn⟩⟩
theorem row_len {D:List AV} (h:DOk D):(rowT D).length ≤ 27:=by
  obtain ⟨h1,h2⟩:=d_words h
  have:=join_len (x:=Str.ofString " ") (ys:=D.map thT) (m:=8) (fun y hy=>by
    obtain ⟨v,hv,rfl⟩:=List.mem_map.mp hy
    exact (h2 v hv).2)
  have h3:(Str.ofString " ").length = 1:=rfl
  rw [List.length_map,h3] at this
  show (Txt.join _ _).length ≤ _
  omega
end K55
end
section
namespace K55
open PySem PySem.Spec PyProof.Rows L2 Rp K55
abbrev tabF:AV:=.nod (.tab ksF) vsF
theorem cutA_pre {α:Type} {xs:List α} {a:Nat} (ha:a ≤ xs.length):cutA xs none (some (a:Int)) = xs.take a:=by
  unfold cutA
  rw [HT.sIx_nat,HT.sIx_none,Nat.min_eq_left ha]
  simp
theorem cutA_post {α:Type} {xs:List α} {a:Nat} (ha:a ≤ xs.length):cutA xs (some (a:Int)) none = xs.drop a:=by
  unfold cutA
  rw [HT.sIx_nat,HT.sIx_none,Nat.min_eq_left ha,List.take_of_length_le]
  rw [List.length_drop]; exact Nat.le_refl _
theorem slL {xs:List AV} {lo hi:Option Int} {h:AH}:aSl mkF (.nod .lst xs) lo hi h = mkF .lst (cutA xs lo hi) h:=rfl
theorem tail_ok {w:Str} {ws:List Str} {h:AH} (hz:ws.length ≤ 2000):aSl mkF (.nod .lst ((w :: ws).map .str)) (some 1) none h = some (.nod .lst (ws.map .str),h):=by
  rw [slL,show (some (1:Int)) = some ((1:Nat):Int) from rfl,cutA_post (by rw [List.length_map,List.length_cons]; omega)]
  exact mkF_ok (by rw [List.map_cons,List.drop_one,List.tail_cons,List.length_map]; exact sz _ (by omega))
section
variable {h g:AH} {r w:Str} {ws:List Str} {cs:List Nat}
theorem in_fig {neg:Bool} {d:Nat}:aIn3 neg (.str ⟨#[d]⟩) (.str "0123456789") h = some (.bl (ng neg (decide (48 ≤ d ∧ d ≤ 57))),h):=by
  have e1:aInD neg (.str ⟨#[d]⟩) (.str "0123456789") h = none:=rfl
  have e2:aInS neg (.str ⟨#[d]⟩) (.str "0123456789") h = some (.bl (ng neg (decide (d ∈ (Str.ofString "0123456789").cps.toList))),h):=rfl
  unfold aIn3
  rw [e1,orO_none,e2]
  simp only [in_figs]
  rfl
theorem in_tab {neg:Bool}:aIn3 neg (.str w) tabF h = some (.bl (ng neg (kIx ksF (.inr w)).isSome),h):=by
  have e1:aInD neg (.str w) tabF h = none:=rfl
  have e2:aInS neg (.str w) tabF h = none:=by
    unfold aInS
    rfl
  have e3:aInK neg (.str w) tabF h = some (.bl (ng neg (kIx ksF (.inr w)).isSome),h):=rfl
  unfold aIn3
  rw [e1,orO_none,e2,orO_none,e3]
theorem ix_tab {i:Nat} {v:AV} (e:kIx ksF (.inr w) = some i) (ev:vsF[i]? = some v):aIx tabF (.str w) h = some (v,h):=by
  have e1:aIxQ tabF (.str w) h = none:=rfl
  have e2:aIxS tabF (.str w) h = none:=rfl
  have e3:aIxK tabF (.str w) h = (kIx ksF (.inr w)).bind fun i=>(vsF[i]?).bind fun v=>some (v,h):=rfl
  unfold aIx
  rw [e1,orO_none,e2,orO_none,e3,e]
  simp only [Option.bind_some,ev]
theorem int_of {d:Nat} (e2:48 ≤ d ∧ d ≤ 57):aInt2 [.str ⟨#[d]⟩] h = some (.int ((d - 48:Nat):Int),h):=by
  have:=int_fig (d - 48) (by omega)
  rw [show 48 + (d - 48) = d by omega] at this
  show orO none (if (⟨#[d]⟩:Str).length ≤ 640 then (PySem.intText? ⟨#[d]⟩).bind fun i=>some (AV.int i,h) else none) = _
  rw [orO_none,if_pos (by show 1 ≤ 640; omega),this]
  rfl
theorem figure_ok (hw:w.length ≤ 1000):F_figure [.str w] h = some ((match figT w with
    | some k=>AV.int (k:Nat)
    | none=>.non),h):=by
  simp only [F_figure]
  rw [ev_fn (by rfl)]
  show fnK (B_figure [some (.str w)] h) = _
  have hl:aLenV (.str w) h = some (.int w.length,h):=Rp.len_str (sz _ (by omega))
  by_cases e1:w.length = 1
  · obtain ⟨d,rfl⟩:=one_of e1
    rw [fig_one]
    have hl1:aLenV (.str ⟨#[d]⟩) h = some (.int 1,h):=hl
    by_cases e2:48 ≤ d ∧ d ≤ 57
    · have ei:=int_of (h:=h) e2
      simp [B_figure,hl1,eq_ii,in_fig,e2,ei,ng]
    · rw [if_neg e2]
      have ei:aIn (.str ⟨#[d]⟩) (.str "0123456789") h = some (.bl false,h):=(in_fig (neg:=false)).trans (by rw [decide_eq_false e2]; rfl)
      simp [B_figure,hl1,eq_ii,ei]
  · have:((w.length:Nat):Int) ≠ 1:=by omega
    rw [fig_len e1]
    simp [B_figure,hl,eq_ii,this]
theorem n_eq:Str.ofString "n" = ⟨#[110]⟩:=by decide +kernel
theorem e_eq:Str.ofString "" = Str.empty:=rfl
theorem thing_ok {c:Nat} (hw:w.length ≤ 1000):F_thing_of [.str ⟨#[c]⟩,.str w] h = some (thV (c,w),h):=by
  simp only [F_thing_of]
  rw [ev_fn (by rfl)]
  show fnK (B_thing_of [some (.str ⟨#[c]⟩),some (.str w)] h) = _
  unfold thV thingT
  by_cases hc:c = 110
  · subst hc
    simp only [if_true]
    have ef:=figure_ok (h:=h) hw
    cases e:figT w with
    | none=>rw [e] at ef; simp [B_thing_of,eq_ss,n_eq,ef]
    | some k=>rw [e] at ef; simp [B_thing_of,eq_ss,n_eq,ef]
  · have hn:(⟨#[c]⟩:Str) ≠ ⟨#[110]⟩:=fun e=>hc (by cases e; rfl)
    simp only [if_neg hc]
    by_cases hw0:w = Str.empty
    · subst hw0
      simp [B_thing_of,eq_ss,ne_ss,n_eq,hn,e_eq]
    · simp [B_thing_of,eq_ss,ne_ss,n_eq,hn,e_eq,hw0]
theorem split_run (hr:r.length ≤ 1000):aSplit mkF (.str r) [.str (Str.ofString " ")] h = some (.nod .lst ((wordsT r).map .str),h):=by
  have hn:=(words_n (r:=r)).1
  show (if ((Str.ofString " ").length == 0) = false ∧ r.length + 2 ≤ sizeLine then mkF .lst ((Txt.split r (Str.ofString " ")).map .str) h else none) = _
  rw [if_pos ⟨by decide +kernel,sz _ (by omega)⟩]
  exact mkF_ok (by rw [List.length_map]; exact sz _ (by show (wordsT r).length ≤ _; omega))
def badF (w:Str) (ws:List Str):Bool:=match formS w with
  | none=>true
  | some cs=>decide (cs.length ≠ ws.length)
def tsF:AT:=(aOr (aTst (aOp2 aNotIn (aVar 1) (aC tabF))) (aTst (aOp2 aNe (aArgs (one aLenV) (aCons (aOp2 aIx (aC tabF) (aVar 1)) aNil)) (aArgs (one aLenV) (aCons (aVar 2) aNil)))))
def rdS (r w:Str) (ws:List Str) (x:Option AV):LS:=[some (.str r),some (.str w),some (.nod .lst (ws.map .str)),x,none,none]
theorem cs_len:(⟨cs.toArray⟩:Str).length = cs.length:=by rw [len_l]
theorem test_ok:tsF (rdS r w ws none) h = some (badF w ws,h):=by
  have v1:aVar 1 (rdS r w ws none) h = some (.str w,h):=rfl
  have v2:aVar 2 (rdS r w ws none) h = some (.nod .lst (ws.map .str),h):=rfl
  cases e:kIx ksF (.inr w) with
  | none =>
    have e1:aNotIn (.str w) tabF h = some (.bl true,h):=by rw [aNotIn,in_tab,e]; rfl
    have eb:badF w ws = true:=by unfold badF; rw [form_none e]
    rw [eb,tsF,ev_or,ev_tst,ev_op2,v1,op2K_some,ev_c,op2J_some,e1]
    rfl
  | some i =>
    obtain ⟨cs,ef,ev,hl,_⟩:=form_some e
    have e1:aNotIn (.str w) tabF h = some (.bl false,h):=by rw [aNotIn,in_tab,e]; rfl
    have e2:=ix_tab (h:=h) e ev
    have e3:aLenV (.str ⟨cs.toArray⟩) h = some (.int cs.length,h):=by
      rw [Rp.len_str (sz _ (by rw [cs_len]; omega)),cs_len]
    have eb:badF w ws = !decide (cs.length = ws.length):=by unfold badF; rw [ef]; simp
    have e4:(aOp2 aNe (aArgs (one aLenV) (aCons (aOp2 aIx (aC tabF) (aVar 1)) aNil)) (aArgs (one aLenV) (aCons (aVar 2) aNil))) (rdS r w ws none) h = some (.bl (badF w ws),h):=by
      rw [ev_op2,ev_args,ev_cons,ev_op2,ev_c,op2K_some,v1,op2J_some,e2,consK_some,ev_nil,consJ_some,argsK_some]
      rw [show one aLenV [AV.str ⟨cs.toArray⟩] h = _ from e3,op2K_some,ev_args,ev_cons,v2,consK_some,ev_nil,consJ_some,argsK_some]
      rw [show one aLenV [AV.nod .lst (ws.map .str)] h = some (.int ((ws.map AV.str).length:Nat),h) from rfl,op2J_some,List.length_map,ne_ii,eb]
      rw [show decide ((cs.length:Int) = (ws.length:Int)) = decide (cs.length = ws.length) from decide_eq_decide.mpr (by omega)]
    rw [tsF,ev_or,ev_tst,ev_op2,v1,op2K_some,ev_c,op2J_some,e1]
    show orK (some (false,h)) _ _ = _
    rw [show orK (some (false,h)) (aTst (aOp2 aNe (aArgs (one aLenV) (aCons (aOp2 aIx (aC tabF) (aVar 1)) aNil)) (aArgs (one aLenV) (aCons (aVar 2) aNil)))) (rdS r w ws none) = (aTst (aOp2 aNe (aArgs (one aLenV) (aCons (aOp2 aIx (aC tabF) (aVar 1)) aNil)) (aArgs (one aLenV) (aCons (aVar 2) aNil)))) (rdS r w ws none) h from rfl,ev_tst,e4]
    rfl
def spF:AS:=(aAsg (aBM "str" (aSplit mkF) (aVar 0) (aCons (aC (.str " ")) aNil)) (gStar 2 1 (gsCons (gNm 1) (gsCons (gNm 2) gsNil))))
theorem sp_ok (hr:r.length ≤ 1000) (e:wordsT r = w :: ws):spF [some (.str r),none,none,none,none,none] h = some (.nx (rdS r w ws none),h):=by
  have hn:=(words_n (r:=r)).1
  rw [e,List.length_cons] at hn
  have:(aBM "str" (aSplit mkF) (aVar 0) (aCons (aC (.str " ")) aNil)) [some (.str r),none,none,none,none,none] h = some (.nod .lst ((w :: ws).map .str),h):=by
    rw [ev_bm,show aVar 0 [some (.str r),none,none,none,none,none] h = some (.str r,h) from rfl,bmK_str,ev_cons,ev_c,consK_some,ev_nil,consJ_some,bmJ_some]
    rw [show aSplit mkF (.str r) [.str (Str.ofString " ")] h = _ from split_run hr,e]
  rw [spF,ev_asg,this]
  show (gStar 2 1 (gsCons (gNm 1) (gsCons (gNm 2) gsNil)) (.nod .lst ((w :: ws).map .str)) [some (.str r),none,none,none,none,none] h).bind _ = _
  have hg:gStar 2 1 (gsCons (gNm 1) (gsCons (gNm 2) gsNil)) (.nod .lst ((w :: ws).map .str)) [some (.str r),none,none,none,none,none] h = some (rdS r w ws none,h):=by
    show (if 2 ≤ ((w :: ws).map AV.str).length + 1 ∧ ((w :: ws).map AV.str).length ≤ 16384 then gsCons (gNm 1) (gsCons (gNm 2) gsNil) (((w :: ws).map AV.str).take 1 ++ [.nod .lst ((((w :: ws).map AV.str).drop 1).take (((w :: ws).map AV.str).length + 1 - 2))] ++ (((w :: ws).map AV.str).drop 1).drop (((w :: ws).map AV.str).length + 1 - 2)) [some (.str r),none,none,none,none,none] h else none) = _
    rw [if_pos ⟨by rw [List.length_map,List.length_cons]; omega,by rw [List.length_map,List.length_cons]; omega⟩]
    have e1:((w :: ws).map AV.str).take 1 = [.str w]:=rfl
    have e2:((w :: ws).map AV.str).drop 1 = ws.map .str:=rfl
    have e3:((w :: ws).map AV.str).length + 1 - 2 = (ws.map AV.str).length:=by rw [List.map_cons,List.length_cons]; omega
    rw [e1,e2,e3,List.take_length,List.drop_length,List.append_nil]
    rfl
  rw [hg]
  rfl
def thF:AS:=(aAsg (aLc mkF (sZipS (aCons (aOp2 aIx (aC tabF) (aVar 1)) (aCons (aVar 2) aNil))) (gSq 2 (gsCons (gNm 4) (gsCons (gNm 5) gsNil))) aYes (aCall F_thing_of [] (aCons (aVar 4) (aCons (aVar 5) aNil))) [4,5]) (gNm 3))
def zipV (p:Nat × Str):AV:=.nod .tup [.str ⟨#[p.1]⟩,.str p.2]
theorem zip_chars:∀ (cs:List Nat) (ws:List Str),((cs.map fun c=>AV.str ⟨#[c]⟩).zipWith (fun x y=>AV.nod .tup [x,y]) (ws.map .str)) = (cs.zip ws).map zipV
  | [],_=>rfl
  | _ :: _,[]=>rfl
  | c :: cs,w :: ws=>by
    rw [List.map_cons,List.map_cons,List.zipWith_cons_cons,zip_chars cs ws,List.zip_cons_cons,List.map_cons]
    rfl
theorem zip_len:(cs.zip ws).length ≤ ws.length:=by rw [List.length_zip]; omega
theorem th_ok {i:Nat} (e:kIx ksF (.inr w) = some i) (ev:vsF[i]? = some (.str ⟨cs.toArray⟩)) (hl:cs.length = ws.length) (hz:ws.length ≤ 1001) (hw:∀ y ∈ ws,y.length ≤ 1000) :
    thF (rdS r w ws none) h = some (.nx (rdS r w ws (some (.nod .lst ((cs.zip ws).map thV)))),h):=by
  have v1:aVar 1 (rdS r w ws none) h = some (.str w,h):=rfl
  have v2:aVar 2 (rdS r w ws none) h = some (.nod .lst (ws.map .str),h):=rfl
  have src:sZipS (aCons (aOp2 aIx (aC tabF) (aVar 1)) (aCons (aVar 2) aNil)) (rdS r w ws none) h = some (((cs.zip ws).map zipV,[]),h):=by
    have ea:(aCons (aOp2 aIx (aC tabF) (aVar 1)) (aCons (aVar 2) aNil)) (rdS r w ws none) h = some ([.str ⟨cs.toArray⟩,.nod .lst (ws.map .str)],h):=by
      rw [ev_cons,ev_op2,ev_c,op2K_some,v1,op2J_some,ix_tab e ev,consK_some,ev_cons,v2,consK_some,ev_nil,consJ_some,consJ_some]
    unfold sZipS
    rw [ea]
    simp only [Option.bind_some]
    rw [show srcL (.nod .lst (ws.map .str)) h = some (ws.map .str,[]) from rfl]
    simp only [Option.bind_some]
    rw [if_pos (by rw [List.length_map]; simpa using hl.symm),← zip_chars]
    rfl
  have hzl:=zip_len (cs:=cs) (ws:=ws)
  have ec:=lcL_enc (h:=h) zipV (G:=[]) (g:=(gSq 2 (gsCons (gNm 4) (gsCons (gNm 5) gsNil)))) (t:=aYes) (f:=(aCall F_thing_of [] (aCons (aVar 4) (aCons (aVar 5) aNil)))) (s0:=rdS r w ws none) chk_nil (fun _=>true) thV
    (fun p=>[some (.str r),some (.str w),some (.nod .lst (ws.map .str)),none,some (.str ⟨#[p.1]⟩),some (.str p.2)]) (cs.zip ws) [] (fun p hp=>⟨rfl,rfl,fun _=>by
      have hq:p.2 ∈ ws:=(List.of_mem_zip hp).2
      rw [ev_call,ev_cons,show aVar 4 [some (.str r),some (.str w),some (.nod .lst (ws.map .str)),none,some (.str ⟨#[p.1]⟩),some (.str p.2)] h = some (.str ⟨#[p.1]⟩,h) from rfl,consK_some,ev_cons,show aVar 5 [some (.str r),some (.str w),some (.nod .lst (ws.map .str)),none,some (.str ⟨#[p.1]⟩),some (.str p.2)] h = some (.str p.2,h) from rfl,consK_some,ev_nil,consJ_some,consJ_some,argsK_some,List.append_nil,thing_ok (hw _ hq)]⟩) (by rw [List.length_nil]; exact sz _ (by omega))
  rw [List.filter_eq_self.mpr (by simp),List.nil_append] at ec
  have hwp:wipeA (rdS r w ws none) [4,5] = rdS r w ws none:=rfl
  rw [thF,ev_asg,ev_lc,src]
  simp only [Option.bind_some,hwp]
  rw [ec]
  simp only [Option.bind_some]
  rw [mkF_ok (by rw [List.length_map]; exact sz _ (by omega))]
  rfl
theorem isDs_th:∀ (L:List (Nat × Str)),isDs 60 (L.map thV) = true ∧ (toDs (L.map thV)).any (fun y=>PyData.eqv y (toD .non)) = (L.map thV).any isNn
  | []=>⟨rfl,rfl⟩
  | p :: L=>by
    obtain ⟨h1,h2⟩:=isDs_th L
    have key:isD 60 (thV p) = true ∧ PyData.eqv (toD (thV p)) (toD .non) = isNn (thV p):=by
      unfold thV
      cases e:thingT p.1 p.2 with
      | none=>exact ⟨rfl,rfl⟩
      | some v=>rcases thing_some e with ⟨k,_,rfl⟩ | rfl <;> exact ⟨rfl,rfl⟩
    constructor
    · show (isD 60 (thV p) && isDs 60 (L.map thV)) = true
      rw [key.1,h1]; rfl
    · show (PyData.eqv (toD (thV p)) (toD .non) || (toDs (L.map thV)).any _) = _
      rw [key.2,h2]; rfl
theorem nn_in {L:List (Nat × Str)}:aIn .non (.nod .lst (L.map thV)) h = some (.bl ((L.map thV).any isNn),h):=by
  obtain ⟨h1,h2⟩:=isDs_th L
  have e1:aInD false .non (.nod .lst (L.map thV)) h = if (isD 60 (nrm h .non) && isDs 60 (L.map thV)) = true then some (.bl (ng false ((toDs (L.map thV)).any fun y=>PyData.eqv y (toD (nrm h .non)))),h) else none:=rfl
  rw [if_pos (by rw [h1]; rfl)] at e1
  have e2:(toDs (L.map thV)).any (fun y=>PyData.eqv y (toD (nrm h .non))) = (L.map thV).any isNn:=h2
  rw [e2] at e1
  unfold aIn aIn3
  rw [e1]
  rfl
def rtF:AS:=(aRet (aArgs (one aTupV) (aCons (aOp2 aAdd (aArgs (mkF .lst) (aCons (aVar 1) aNil)) (aVar 3)) aNil)))
theorem rt_ok {L:List AV} (hL:L.length ≤ 2000):rtF (rdS r w ws (some (.nod .lst L))) h = some (.rt (.nod .tup (.str w :: L)),h):=by
  have e1:(aArgs (mkF .lst) (aCons (aVar 1) aNil)) (rdS r w ws (some (.nod .lst L))) h = some (.nod .lst [.str w],h):=by
    rw [ev_args,ev_cons,show aVar 1 (rdS r w ws (some (.nod .lst L))) h = some (.str w,h) from rfl,consK_some,ev_nil,consJ_some,argsK_some]
    exact mkF_ok (by rw [List.length_singleton]; exact sz _ (by omega))
  have e2:aAdd (.nod .lst [.str w]) (.nod .lst L) h = some (.nod .lst (.str w :: L),h):=by
    have a1:aAddI (.nod .lst [.str w]) (.nod .lst L) h = none:=rfl
    have a2:aAddS (.nod .lst [.str w]) (.nod .lst L) h = none:=rfl
    unfold aAdd
    rw [a1,orO_none,a2,orO_none]
    show mkF .lst ([.str w] ++ L) h = _
    exact mkF_ok (by rw [List.length_append,List.length_singleton]; exact sz _ (by omega))
  rw [rtF,ev_ret,ev_args,ev_cons,ev_op2,e1,op2K_some,show aVar 3 (rdS r w ws (some (.nod .lst L))) h = some (.nod .lst L,h) from rfl,op2J_some,e2,consK_some,ev_nil,consJ_some,argsK_some]
  have:one aTupV [.nod .lst (.str w :: L)] h = some (.nod .tup (.str w :: L),h):=mkF_ok (by rw [List.length_cons]; exact sz _ (by omega))
  rw [this]
  rfl
theorem read_cases (hr:r.length ≤ 1000):∃ w ws,wordsT r = w :: ws ∧ ((badF w ws = true ∧ readT r = none) ∨ (badF w ws = false ∧ ∃ cs i,kIx ksF (.inr w) = some i ∧ formS w = some cs ∧ vsF[i]? = some (.str ⟨cs.toArray⟩) ∧ cs.length = ws.length ∧ ws.length ≤ 2 ∧ (∀ y ∈ ws,y.length ≤ 1000) ∧ readT r = if ((cs.zip ws).map thV).any isNn = true then none else some (.str w :: (cs.zip ws).map thV))):=by
  obtain ⟨w,ws,e⟩:=List.exists_cons_of_ne_nil (words_ne (r:=r))
  have hn:=words_n (r:=r)
  rw [e] at hn
  refine ⟨w,ws,e,?_⟩
  cases ek:kIx ksF (.inr w) with
  | none =>
    refine .inl ⟨by unfold badF; rw [form_none ek],?_⟩
    unfold readT
    rw [e]
    show (formS w).bind _ = _
    rw [form_none ek]; rfl
  | some i =>
    obtain ⟨cs,ef,ev,hl,_⟩:=form_some ek
    by_cases el:cs.length = ws.length
    · refine .inr ⟨by unfold badF; rw [ef]; simp [el],cs,i,rfl,ef,ev,el,by omega,fun y hy=>Nat.le_trans (hn.2 y (List.mem_cons_of_mem _ hy)) hr,?_⟩
      unfold readT
      rw [e]
      show (formS w).bind _ = _
      rw [ef,Option.bind_some,things_zip el]
      split <;> rfl
    · refine .inl ⟨by unfold badF; rw [ef]; simp [el],?_⟩
      unfold readT
      rw [e]
      show (formS w).bind _ = _
      rw [ef,Option.bind_some,things_len el]; rfl
theorem readX_ok (hr:r.length ≤ 1000):F_read_deedX [.str r] h = some ((match readT r with
    | some D=>.ok (.nod .tup D)
    | none=>.ex 0 (.int 0)),h):=by
  obtain ⟨w,ws,e,C⟩:=read_cases hr
  simp only [F_read_deedX]
  rw [evx_fn (by rfl)]
  show fnXK (xSeq (lfS spF) (xSeq (xIf (lfT tsF) (xRaise 0 (aC (.int 0))) (lfS aPass)) (xSeq (lfS thF) (xSeq (xIf (lfT (aTst (aOp2 aIn (aC .non) (aVar 3)))) (xRaise 0 (aC (.int 0))) (lfS aPass)) (lfS rtF)))) [some (.str r),none,none,none,none,none] h) = _
  have a1:lfS spF [some (.str r),none,none,none,none,none] h = some (.ar (.nx (rdS r w ws none)),h):=by rw [ev_lfS,sp_ok hr e]; rfl
  rw [xseq_step a1]
  have rz:∀ {s:LS},xRaise 0 (aC (.int 0)) s h = some (.ex 0 (.int 0) s,h):=ev_xraise (ev_c ..) rfl
  rcases C with ⟨eb,er⟩ | ⟨eb,cs,i,ek,ef,ev,el,hz,hw,er⟩
  · have a2:xIf (lfT tsF) (xRaise 0 (aC (.int 0))) (lfS aPass) (rdS r w ws none) h = some (.ex 0 (.int 0) (rdS r w ws none),h):=by
      rw [ev_xif,ev_lfT,test_ok,eb,lfTK_some,xifK_t,rz]
    rw [ev_xseq,a2,er]
    rfl
  · have a2:xIf (lfT tsF) (xRaise 0 (aC (.int 0))) (lfS aPass) (rdS r w ws none) h = some (.ar (.nx (rdS r w ws none)),h):=by
      rw [ev_xif,ev_lfT,test_ok,eb,lfTK_some]
      rfl
    have a3:lfS thF (rdS r w ws none) h = some (.ar (.nx (rdS r w ws (some (.nod .lst ((cs.zip ws).map thV))))),h):=by rw [ev_lfS,th_ok ek ev el (by omega) hw]; rfl
    rw [xseq_step a2,xseq_step a3,er]
    have t4:lfT (aTst (aOp2 aIn (aC .non) (aVar 3))) (rdS r w ws (some (.nod .lst ((cs.zip ws).map thV)))) h = some (.inl (((cs.zip ws).map thV).any isNn),h):=by
      rw [ev_lfT,ev_tst,ev_op2,ev_c,op2K_some,show aVar 3 (rdS r w ws (some (.nod .lst ((cs.zip ws).map thV)))) h = some (.nod .lst ((cs.zip ws).map thV),h) from rfl,op2J_some,nn_in]
      rfl
    cases en:((cs.zip ws).map thV).any isNn with
    | true =>
      rw [ev_xseq,ev_xif,t4,en,xifK_t,rz]
      rfl
    | false =>
      have a4:xIf (lfT (aTst (aOp2 aIn (aC .non) (aVar 3)))) (xRaise 0 (aC (.int 0))) (lfS aPass) (rdS r w ws (some (.nod .lst ((cs.zip ws).map thV)))) h = some (.ar (.nx (rdS r w ws (some (.nod .lst ((cs.zip ws).map thV))))),h):=by
        rw [ev_xif,t4,en]
        rfl
      rw [xseq_step a4,ev_lfS,rt_ok (by rw [List.length_map]; have:=zip_len (cs:=cs) (ws:=ws); omega)]
      rfl
theorem readP_ok (hr:r.length ≤ 1000) {D:List AV} (eD:readT r = some D):F_read_deed [.str r] h = some (.nod .tup D,h):=by
  obtain ⟨w,ws,e,C⟩:=read_cases hr
  simp only [F_read_deed]
  rw [ev_fn (by rfl)]
  show fnK (aSeq spF (aSeq (aIfS tsF aStuck aPass) (aSeq thF (aSeq (aIfS (aTst (aOp2 aIn (aC .non) (aVar 3))) aStuck aPass) rtF))) [some (.str r),none,none,none,none,none] h) = _
  rw [seq_step (sp_ok hr e)]
  rcases C with ⟨eb,er⟩ | ⟨eb,cs,i,ek,ef,ev,el,hz,hw,er⟩
  · rw [er] at eD; cases eD
  · have a2:aIfS tsF aStuck aPass (rdS r w ws none) h = some (.nx (rdS r w ws none),h):=by
      rw [ev_if,test_ok,eb]
      rfl
    rw [seq_step a2,seq_step (th_ok ek ev el (by omega) hw)]
    rw [er] at eD
    have t4:(aTst (aOp2 aIn (aC .non) (aVar 3))) (rdS r w ws (some (.nod .lst ((cs.zip ws).map thV)))) h = some (((cs.zip ws).map thV).any isNn,h):=by
      rw [ev_tst,ev_op2,ev_c,op2K_some,show aVar 3 (rdS r w ws (some (.nod .lst ((cs.zip ws).map thV)))) h = some (.nod .lst ((cs.zip ws).map thV),h) from rfl,op2J_some,nn_in]
      rfl
    split at eD
    · cases eD
    · rename_i hn
      have en:((cs.zip ws).map thV).any isNn = false:=by simpa using hn
      have a4:aIfS (aTst (aOp2 aIn (aC .non) (aVar 3))) aStuck aPass (rdS r w ws (some (.nod .lst ((cs.zip ws).map thV)))) h = some (.nx (rdS r w ws (some (.nod .lst ((cs.zip ws).map thV)))),h):=by
        rw [ev_if,t4,en]
        rfl
      cases eD
      rw [seq_step a4,rt_ok (by rw [List.length_map]; have:=zip_len (cs:=cs) (ws:=ws); omega)]
      rfl
end
end K55
end
section
namespace K55
open PySem PySem.Spec PyProof.Rows L2 Rp K55
def lpB:AS:=(aSeq (aIfS (aAnd (aTst (aOp2 aEq (aVar 4) (aC (.str "n")))) (aOr (aTst (aOp2 aNe (aArgs (one aLenV) (aCons (aVar 5) aNil)) (aC (.int 1)))) (aTst (aOp2 aNotIn (aVar 5) (aC (.str "0123456789")))))) (aRet (aC .non)) aPass)
    (aExp (aBM "list" aAppend (aVar 3) (aCons (aIf (aTst (aOp2 aEq (aVar 4) (aC (.str "n")))) (aArgs aInt2 (aCons (aVar 5) aNil)) (aVar 5)) aNil))))
def lrS (r:Str) (W sg:AV) (x v4 v5:Option AV):LS:=[some (.str r),some W,some sg,x,v4,v5]
section
variable {h g:AH} {r w:Str} {W sg:AV} {ws:List Str} {cs:List Nat} {b c:Nat} {acc:List AV}
theorem lp_turn (hw:w.length ≤ 1000) (h0:w ≠ Str.empty) (hb:g.get b = some (.lst,acc)) (ha:acc.length ≤ 1000) :
    lpB (lrS r W sg (some (.ref b)) (some (.str ⟨#[c]⟩)) (some (.str w))) g = match thingT c w with
      | none=>some (.rt .non,g)
      | some v=>some (.nx (lrS r W sg (some (.ref b)) (some (.str ⟨#[c]⟩)) (some (.str w))),g.put b (.lst,acc ++ [v])):=by
  obtain ⟨S,hS⟩:∃ S,lrS r W sg (some (.ref b)) (some (.str ⟨#[c]⟩)) (some (.str w)) = S:=⟨_,rfl⟩
  have v3:aVar 3 S g = some (.ref b,g):=by rw [← hS]; rfl
  have v4:aVar 4 S g = some (.str ⟨#[c]⟩,g):=by rw [← hS]; rfl
  have v5:aVar 5 S g = some (.str w,g):=by rw [← hS]; rfl
  rw [hS]
  have hl:aLenV (.str w) g = some (.int w.length,g):=Rp.len_str (sz _ (by omega))
  have ap:∀ v,aAppend (.ref b) [v] g = some (.non,g.put b (.lst,acc ++ [v])):=fun v=>ev_append (as:=[]) hb (by have:=sizeLine_eq; omega)
  have t1:aTst (aOp2 aEq (aVar 4) (aC (.str "n"))) S g = some (decide (c = 110),g):=by
    rw [ev_tst,ev_op2,v4,op2K_some,ev_c,op2J_some,n_eq,eq_ss]
    by_cases hc:c = 110
    · subst hc
      simp
    · have:(⟨#[c]⟩:Str) ≠ ⟨#[110]⟩:=fun e=>hc (by cases e; rfl)
      simp [hc,this]
  have pA:∀ {f:AE} {v:AV},f S g = some (v,g) → (aExp (aBM "list" aAppend (aVar 3) (aCons f aNil))) S g = some (.nx S,g.put b (.lst,acc ++ [v])):=fun {f v} e=>by
    have:(aBM "list" aAppend (aVar 3) (aCons f aNil)) S g = some (.non,g.put b (.lst,acc ++ [v])):=by
      rw [ev_bm,v3,bmK_ref,hb,bmC_lst,ev_cons,e,consK_some,ev_nil,consJ_some,bmJ_some,ap]
    rw [ev_exp,this]
    rfl
  unfold thingT
  by_cases hc:c = 110
  · subst hc
    rw [if_pos rfl]
    by_cases hl1:w.length = 1
    · obtain ⟨d,rfl⟩:=one_of hl1
      have hl2:aLenV (.str ⟨#[d]⟩) g = some (.int 1,g):=hl
      have t2:(aOr (aTst (aOp2 aNe (aArgs (one aLenV) (aCons (aVar 5) aNil)) (aC (.int 1)))) (aTst (aOp2 aNotIn (aVar 5) (aC (.str "0123456789"))))) S g = some (!decide (48 ≤ d ∧ d ≤ 57),g):=by
        have p1:(aTst (aOp2 aNe (aArgs (one aLenV) (aCons (aVar 5) aNil)) (aC (.int 1)))) S g = some (false,g):=by
          rw [ev_tst,ev_op2,ev_args,ev_cons,v5,consK_some,ev_nil,consJ_some,argsK_some,show one aLenV [AV.str ⟨#[d]⟩] g = _ from hl2,op2K_some,ev_c,op2J_some,ne_ii]
          rfl
        have p2:(aTst (aOp2 aNotIn (aVar 5) (aC (.str "0123456789")))) S g = some (!decide (48 ≤ d ∧ d ≤ 57),g):=by
          rw [ev_tst,ev_op2,v5,op2K_some,ev_c,op2J_some,aNotIn,in_fig]
          rfl
        rw [ev_or,p1]
        exact p2
      have tt:(aAnd (aTst (aOp2 aEq (aVar 4) (aC (.str "n")))) (aOr (aTst (aOp2 aNe (aArgs (one aLenV) (aCons (aVar 5) aNil)) (aC (.int 1)))) (aTst (aOp2 aNotIn (aVar 5) (aC (.str "0123456789")))))) S g = some (!decide (48 ≤ d ∧ d ≤ 57),g):=by
        rw [ev_and,t1]
        exact t2
      rw [fig_one]
      by_cases hd:48 ≤ d ∧ d ≤ 57
      · rw [decide_eq_true hd] at tt
        have a1:(aIfS (aAnd (aTst (aOp2 aEq (aVar 4) (aC (.str "n")))) (aOr (aTst (aOp2 aNe (aArgs (one aLenV) (aCons (aVar 5) aNil)) (aC (.int 1)))) (aTst (aOp2 aNotIn (aVar 5) (aC (.str "0123456789")))))) (aRet (aC .non)) aPass) S g = some (.nx S,g):=by
          rw [ev_if,tt]; rfl
        rw [if_pos hd,lpB,seq_step a1]
        exact pA (by
          rw [ev_ife,t1]
          show (aArgs aInt2 (aCons (aVar 5) aNil)) S g = _
          rw [ev_args,ev_cons,v5,consK_some,ev_nil,consJ_some,argsK_some,int_of hd])
      · rw [decide_eq_false hd] at tt
        rw [if_neg hd,lpB,ev_seq,ev_if,tt]
        rfl
    · have:((w.length:Nat):Int) ≠ 1:=by omega
      have tt:(aAnd (aTst (aOp2 aEq (aVar 4) (aC (.str "n")))) (aOr (aTst (aOp2 aNe (aArgs (one aLenV) (aCons (aVar 5) aNil)) (aC (.int 1)))) (aTst (aOp2 aNotIn (aVar 5) (aC (.str "0123456789")))))) S g = some (true,g):=by
        have t2:(aOr (aTst (aOp2 aNe (aArgs (one aLenV) (aCons (aVar 5) aNil)) (aC (.int 1)))) (aTst (aOp2 aNotIn (aVar 5) (aC (.str "0123456789"))))) S g = some (true,g):=by
          have p1:(aTst (aOp2 aNe (aArgs (one aLenV) (aCons (aVar 5) aNil)) (aC (.int 1)))) S g = some (true,g):=by
            rw [ev_tst,ev_op2,ev_args,ev_cons,v5,consK_some,ev_nil,consJ_some,argsK_some,show one aLenV [AV.str w] g = _ from hl,op2K_some,ev_c,op2J_some,ne_ii,decide_eq_false this]
            rfl
          rw [ev_or,p1]
          rfl
        rw [ev_and,t1]
        exact t2
      rw [fig_len hl1,lpB,ev_seq,ev_if,tt]
      rfl
  · rw [if_neg hc,if_neg h0]
    have tt:(aAnd (aTst (aOp2 aEq (aVar 4) (aC (.str "n")))) (aOr (aTst (aOp2 aNe (aArgs (one aLenV) (aCons (aVar 5) aNil)) (aC (.int 1)))) (aTst (aOp2 aNotIn (aVar 5) (aC (.str "0123456789")))))) S g = some (false,g):=by
      rw [ev_and,t1,decide_eq_false hc]
      rfl
    have a1:(aIfS (aAnd (aTst (aOp2 aEq (aVar 4) (aC (.str "n")))) (aOr (aTst (aOp2 aNe (aArgs (one aLenV) (aCons (aVar 5) aNil)) (aC (.int 1)))) (aTst (aOp2 aNotIn (aVar 5) (aC (.str "0123456789")))))) (aRet (aC .non)) aPass) S g = some (.nx S,g):=by
      rw [ev_if,tt]; rfl
    rw [lpB,seq_step a1]
    exact pA (by
      rw [ev_ife,t1,decide_eq_false hc]
      exact v5)
theorem lp_loop:∀ (L:List (Nat × Str)) (acc:List AV) (g:AH) (x4 x5:Option AV),(∀ p ∈ L,p.2.length ≤ 1000 ∧ p.2 ≠ Str.empty) → g.get b = some (.lst,acc) → acc.length + L.length ≤ 1000 →
    ∃ g' R,forL [] (gSq 2 (gsCons (gNm 4) (gsCons (gNm 5) gsNil))) lpB (L.map zipV) (lrS r W sg (some (.ref b)) x4 x5) g = some (R,g') ∧ Kp [b] g g' ∧
      ((L.map thV).any isNn = true ∧ R = .rt .non ∨ (L.map thV).any isNn = false ∧ ∃ y4 y5,R = .nx (lrS r W sg (some (.ref b)) y4 y5) ∧ g'.get b = some (.lst,acc ++ L.map thV))
  | [],acc,g,x4,x5,_,hb,_=>⟨g,_,by rw [List.map_nil]; unfold forL; rw [if_pos chk_nil],.refl,.inr ⟨rfl,x4,x5,rfl,by rw [List.map_nil,List.append_nil]; exact hb⟩⟩
  | (c,w) :: L,acc,g,x4,x5,ok,hb,ha=>by
    rw [List.length_cons] at ha
    obtain ⟨h1,h2⟩:=ok (c,w) List.mem_cons_self
    have tn:=lp_turn (r:=r) (W:=W) (sg:=sg) (c:=c) h1 h2 hb (by omega)
    have eg:gSq 2 (gsCons (gNm 4) (gsCons (gNm 5) gsNil)) (zipV (c,w)) (lrS r W sg (some (.ref b)) x4 x5) g = some (lrS r W sg (some (.ref b)) (some (.str ⟨#[c]⟩)) (some (.str w)),g):=rfl
    rw [List.map_cons,List.map_cons,List.any_cons,thV_nn]
    unfold forL
    rw [if_pos chk_nil,eg,Option.bind_some]
    dsimp only
    show ∃ g' R,((lpB (lrS r W sg (some (.ref b)) (some (.str ⟨#[c]⟩)) (some (.str w))) g).bind _) = _ ∧ _
    rw [tn]
    show ∃ g' R,_ ∧ _ ∧ (((thingT c w).isNone || _) = true ∧ _ ∨ ((thingT c w).isNone || _) = false ∧ _)
    cases et:thingT c w with
    | none=>exact ⟨g,.rt .non,rfl,.refl,.inl ⟨rfl,rfl⟩⟩
    | some v =>
      have hv:thV (c,w) = v:=by unfold thV; rw [et]; rfl
      obtain ⟨g',R,e,k,C⟩:=lp_loop L (acc ++ [v]) (g.put b (.lst,acc ++ [v])) (some (.str ⟨#[c]⟩)) (some (.str w)) (fun p hp=>ok p (List.mem_cons_of_mem _ hp)) (by rw [AH.get_put (show (g.get b) = some _ from hb),if_pos rfl]) (by rw [List.length_append,List.length_singleton]; omega)
      refine ⟨g',R,e,(Kp.put (by rw [hb]; rfl) List.mem_cons_self).trans k,?_⟩
      rw [hv]
      simp only [Option.isNone_some,Bool.false_or]
      rcases C with ⟨c1,c2⟩ | ⟨c1,y4,y5,c2,c3⟩
      · exact .inl ⟨c1,c2⟩
      · exact .inr ⟨c1,y4,y5,c2,by rw [c3]; simp⟩
theorem disp_ok {S:LS}:aDisp [((aC (.str "on")),(aC (.str "n"))),((aC (.str "off")),(aC (.str "t"))),((aC (.str "step")),(aC (.str "t"))),((aC (.str "answer")),(aC (.str "tn"))),((aC (.str "carriers")),(aC (.str "n")))] S h = some (.ref h.next,h.new (.dct ksF,vsF)):=by
  have d:dMrg (([]:List Key),([]:List AV)) [((.inr "on" : Key),AV.str "n"),(.inr "off",.str "t"),(.inr "step",.str "t"),(.inr "answer",.str "tn"),(.inr "carriers",.str "n")] = (ksF,vsF):=dMrg_new (show ksF.Nodup by decide +kernel)
  unfold aDisp
  simp only [aPairs,ev_c,Option.bind_some,toKey]
  rw [d]
def sgV (w:Str):AV:=match formS w with
  | none=>.str "?"
  | some cs=>.str ⟨cs.toArray⟩
theorem get_form:((kIx ksF (.inr w)).bind fun i=>vsF[i]?).getD (.str "?") = sgV w:=by
  unfold sgV
  cases e:kIx ksF (.inr w) with
  | none=>rw [form_none e]; rfl
  | some i =>
    obtain ⟨cs,ef,ev,_,_⟩:=form_some e
    rw [ef,Option.bind_some,ev]; rfl
def lT3:AT:=(aOr (aTst (aOp2 aEq (aVar 2) (aC (.str "?")))) (aOr (aTst (aOp2 aNe (aArgs (one aLenV) (aCons (aVar 2) aNil)) (aOp2 aSub (aArgs (one aLenV) (aCons (aVar 1) aNil)) (aC (.int 1))))) (aTst (aOp2 aIn (aC (.str "")) (aVar 1)))))
theorem law_read (hr:r.length ≤ 1000):∃ h',F__law_deed_read [.str r] h = some ((match readT r with
    | some D=>AV.nod .tup D
    | none=>.non),h') ∧ Kp [] h h':=by
  obtain ⟨w,ws,e⟩:=List.exists_cons_of_ne_nil (words_ne (r:=r))
  have hn:=words_n (r:=r)
  rw [e,List.length_cons] at hn
  obtain ⟨hn,hw⟩:=hn
  have eR:readT r = (formS w).bind fun cs=>(thingsT cs ws).map (AV.str w :: ·):=by unfold readT; rw [e]
  let Wv:AV:=.nod .lst ((w :: ws).map .str)
  simp only [F__law_deed_read]
  rw [ev_fn (by rfl)]
  show ∃ h',fnK (B__law_deed_read [some (.str r),none,none,none,none,none] h) = _ ∧ _
  have a1:(aAsg (aBM "str" (aSplit mkF) (aVar 0) (aCons (aC (.str " ")) aNil)) (gNm 1)) [some (.str r),none,none,none,none,none] h = some (.nx [some (.str r),some Wv,none,none,none,none],h):=by
    have:(aBM "str" (aSplit mkF) (aVar 0) (aCons (aC (.str " ")) aNil)) [some (.str r),none,none,none,none,none] h = some (Wv,h):=by
      rw [ev_bm,show aVar 0 [some (.str r),none,none,none,none,none] h = some (.str r,h) from rfl,bmK_str,ev_cons,ev_c,consK_some,ev_nil,consJ_some,bmJ_some]
      rw [show aSplit mkF (.str r) [.str (Str.ofString " ")] h = _ from split_run hr,e]
    rw [ev_asg,this]
    rfl
  obtain ⟨h1,hh1⟩:∃ z,h.new (.dct ksF,vsF) = z:=⟨_,rfl⟩
  obtain ⟨a,hna⟩:∃ z,h.next = z:=⟨_,rfl⟩
  have g1:h1.get a = some (.dct ksF,vsF):=by rw [← hh1,get_new,if_pos hna.symm]
  have k1:Kp [] h h1:=hh1 ▸ .new
  have ixW:∀ {S:LS} {g:AH},aVar 1 S g = some (Wv,g) → (aOp2 aIx (aVar 1) (aC (.int 0))) S g = some (.str w,g):=fun {S g} e=>by
    rw [ev_op2,e,op2K_some,ev_c,op2J_some]
    exact ev_ixL (k:=0) look_nod rfl
  have a2:(aAsg (aGet2 (aDisp [((aC (.str "on")),(aC (.str "n"))),((aC (.str "off")),(aC (.str "t"))),((aC (.str "step")),(aC (.str "t"))),((aC (.str "answer")),(aC (.str "tn"))),((aC (.str "carriers")),(aC (.str "n")))]) (aOp2 aIx (aVar 1) (aC (.int 0))) (aC (.str "?"))) (gNm 2)) [some (.str r),some Wv,none,none,none,none] h = some (.nx (lrS r Wv (sgV w) none none none),h1):=by
    have:(aGet2 (aDisp [((aC (.str "on")),(aC (.str "n"))),((aC (.str "off")),(aC (.str "t"))),((aC (.str "step")),(aC (.str "t"))),((aC (.str "answer")),(aC (.str "tn"))),((aC (.str "carriers")),(aC (.str "n")))]) (aOp2 aIx (aVar 1) (aC (.int 0))) (aC (.str "?"))) [some (.str r),some Wv,none,none,none,none] h = some (sgV w,h1):=by
      rw [ev_get2,disp_ok,hh1,hna]
      show (dctOf h1 (.ref a)).bind _ = _
      rw [dctOf_cell g1,Option.bind_some,ixW rfl,Option.bind_some]
      show getK2 (dctOf h1 (.ref a)) (.str w) (.str "?",h1) = _
      rw [dctOf_cell g1]
      show some ((((kIx ksF (.inr w)).bind fun i=>vsF[i]?).getD (.str "?")),h1) = _
      rw [get_form]
    rw [ev_asg,this]
    rfl
  have v1:∀ g,aVar 1 (lrS r Wv (sgV w) none none none) g = some (Wv,g):=fun _=>rfl
  have v2:∀ g,aVar 2 (lrS r Wv (sgV w) none none none) g = some (sgV w,g):=fun _=>rfl
  rw [B__law_deed_read,seq_step a1,seq_step a2]
  have stop:lT3 (lrS r Wv (sgV w) none none none) h1 = some (true,h1) → readT r = none → ∃ h',fnK (aSeq (aIfS lT3 (aRet (aC .non)) aPass) (aSeq (aAsg (aArgs (mkM .lst) (aCons (aOp2 aIx (aVar 1) (aC (.int 0))) aNil)) (gNm 3)) (aSeq (aFor (sZipN (aCons (aVar 2) (aCons (aSlice mkF (aVar 1) (aPart (aC (.int 1))) aNo) aNil))) (gSq 2 (gsCons (gNm 4) (gsCons (gNm 5) gsNil))) lpB) (aRet (aArgs (one aTupV) (aCons (aVar 3) aNil))))) (lrS r Wv (sgV w) none none none) h1) = some ((match readT r with
      | some D=>AV.nod .tup D
      | none=>.non),h') ∧ Kp [] h h':=fun t er=>⟨h1,by rw [ev_seq,ev_if,t,er]; rfl,k1⟩
  cases ek:kIx ksF (.inr w) with
  | none =>
    have ef:=form_none ek
    refine stop ?_ (by rw [eR,ef]; rfl)
    have:sgV w = .str (Str.ofString "?"):=by unfold sgV; rw [ef]
    rw [lT3,ev_or,ev_tst,ev_op2,v2,op2K_some,ev_c,op2J_some,this,eq_ss,decide_eq_true rfl]
    rfl
  | some i =>
    obtain ⟨cs,ef,ev,hl,hq⟩:=form_some ek
    have es:sgV w = .str ⟨cs.toArray⟩:=by unfold sgV; rw [ef]
    have w0:w ≠ Str.empty:=by
      rintro rfl
      rw [form_empty] at ef; cases ef
    have e3:aLenV (.str ⟨cs.toArray⟩) h1 = some (.int cs.length,h1):=by
      rw [Rp.len_str (sz _ (by rw [cs_len]; omega)),cs_len]
    have t3:lT3 (lrS r Wv (sgV w) none none none) h1 = some ((!decide (cs.length = ws.length)) || decide (Str.empty ∈ ws),h1):=by
      have p1:(aTst (aOp2 aEq (aVar 2) (aC (.str "?")))) (lrS r Wv (sgV w) none none none) h1 = some (false,h1):=by
        rw [ev_tst,ev_op2,v2,op2K_some,ev_c,op2J_some,es,eq_ss,decide_eq_false hq]
        rfl
      have p2:(aTst (aOp2 aNe (aArgs (one aLenV) (aCons (aVar 2) aNil)) (aOp2 aSub (aArgs (one aLenV) (aCons (aVar 1) aNil)) (aC (.int 1))))) (lrS r Wv (sgV w) none none none) h1 = some (!decide (cs.length = ws.length),h1):=by
        rw [ev_tst,ev_op2,ev_args,ev_cons,v2,consK_some,ev_nil,consJ_some,argsK_some,es,show one aLenV [AV.str ⟨cs.toArray⟩] h1 = _ from e3,op2K_some,ev_op2,ev_args,ev_cons,show aVar 1 (lrS r Wv (.str ⟨cs.toArray⟩) none none none) h1 = some (Wv,h1) from rfl,consK_some,ev_nil,consJ_some,argsK_some]
        rw [show one aLenV [Wv] h1 = some (.int (((w :: ws).map AV.str).length:Nat),h1) from rfl,op2K_some,ev_c,op2J_some,ev_subI,op2J_some,ne_ii,List.length_map,List.length_cons]
        have:((cs.length:Int) = ((ws.length + 1:Nat):Int) - 1) ↔ cs.length = ws.length:=by omega
        rw [show decide ((cs.length:Int) = ((ws.length + 1:Nat):Int) - 1) = decide (cs.length = ws.length) from decide_eq_decide.mpr this]
        rfl
      have p3:(aTst (aOp2 aIn (aC (.str "")) (aVar 1))) (lrS r Wv (sgV w) none none none) h1 = some (decide (Str.empty ∈ ws),h1):=by
        rw [ev_tst,ev_op2,ev_c,op2K_some,v1,op2J_some,in_lst]
        have:(Str.ofString "" ∈ w :: ws) ↔ Str.empty ∈ ws:=by
          rw [List.mem_cons]
          exact ⟨fun q=>q.resolve_left fun e=>w0 e.symm,.inr⟩
        rw [decide_eq_decide.mpr this]
        rfl
      rw [lT3,ev_or,p1]
      show orK (some (false,h1)) _ _ = _
      show (aOr _ _) (lrS r Wv (sgV w) none none none) h1 = _
      rw [ev_or,p2]
      cases decide (cs.length = ws.length) with
      | true=>exact p3
      | false=>rfl
    by_cases hbad:cs.length = ws.length ∧ Str.empty ∉ ws
    · obtain ⟨el,he⟩:=hbad
      rw [decide_eq_true el,decide_eq_false he] at t3
      have a3:(aIfS lT3 (aRet (aC .non)) aPass) (lrS r Wv (sgV w) none none none) h1 = some (.nx (lrS r Wv (sgV w) none none none),h1):=by
        rw [ev_if,t3]; rfl
      obtain ⟨h2,hh2⟩:∃ z,h1.new (.lst,[AV.str w]) = z:=⟨_,rfl⟩
      obtain ⟨b,hnb⟩:∃ z,h1.next = z:=⟨_,rfl⟩
      have g2:h2.get b = some (.lst,[.str w]):=by rw [← hh2,get_new,if_pos hnb.symm]
      have k2:Kp [] h1 h2:=hh2 ▸ .new
      have a4:(aAsg (aArgs (mkM .lst) (aCons (aOp2 aIx (aVar 1) (aC (.int 0))) aNil)) (gNm 3)) (lrS r Wv (sgV w) none none none) h1 = some (.nx (lrS r Wv (sgV w) (some (.ref b)) none none),h2):=by
        have:(aArgs (mkM .lst) (aCons (aOp2 aIx (aVar 1) (aC (.int 0))) aNil)) (lrS r Wv (sgV w) none none none) h1 = some (.ref b,h2):=by
          rw [ev_args,ev_cons,ixW (v1 _),consK_some,ev_nil,consJ_some,argsK_some,mkM_ok (by rw [List.length_singleton]; exact sz _ (by omega)),hnb,hh2]
        rw [ev_asg,this]
        rfl
      obtain ⟨g',R,eF,kF,C⟩:=lp_loop (r:=r) (W:=Wv) (sg:=sgV w) (cs.zip ws) [.str w] h2 none none (fun p hp=>by
        have hq:p.2 ∈ ws:=(List.of_mem_zip hp).2
        exact ⟨Nat.le_trans (hw _ (List.mem_cons_of_mem _ hq)) hr,fun e0=>he (e0 ▸ hq)⟩) g2 (by have:=zip_len (cs:=cs) (ws:=ws); rw [List.length_singleton]; omega)
      have a5:(aFor (sZipN (aCons (aVar 2) (aCons (aSlice mkF (aVar 1) (aPart (aC (.int 1))) aNo) aNil))) (gSq 2 (gsCons (gNm 4) (gsCons (gNm 5) gsNil))) lpB) (lrS r Wv (sgV w) (some (.ref b)) none none) h2 = some (R,g'):=by
        have src:sZipN (aCons (aVar 2) (aCons (aSlice mkF (aVar 1) (aPart (aC (.int 1))) aNo) aNil)) (lrS r Wv (sgV w) (some (.ref b)) none none) h2 = some (((cs.zip ws).map zipV,[]),h2):=by
          have sl:(aSlice mkF (aVar 1) (aPart (aC (.int 1))) aNo) (lrS r Wv (sgV w) (some (.ref b)) none none) h2 = some (.nod .lst (ws.map .str),h2):=by
            rw [ev_slice,show aVar 1 (lrS r Wv (sgV w) (some (.ref b)) none none) h2 = some (Wv,h2) from rfl,sliceK_some,ev_part,ev_c,partK_some,sliceJ_some,ev_no,sliceI_some]
            exact tail_ok (by omega)
          have ea:(aCons (aVar 2) (aCons (aSlice mkF (aVar 1) (aPart (aC (.int 1))) aNo) aNil)) (lrS r Wv (sgV w) (some (.ref b)) none none) h2 = some ([.str ⟨cs.toArray⟩,.nod .lst (ws.map .str)],h2):=by
            rw [ev_cons,show aVar 2 (lrS r Wv (sgV w) (some (.ref b)) none none) h2 = some (sgV w,h2) from rfl,consK_some,ev_cons,sl,consK_some,ev_nil,consJ_some,consJ_some,es]
          unfold sZipN
          rw [ea]
          simp only [Option.bind_some]
          rw [show srcL (.nod .lst (ws.map .str)) h2 = some (ws.map .str,[]) from rfl]
          simp only [Option.bind_some]
          rw [if_pos (by rw [List.length_map]; simpa using el.symm),← zip_chars]
          rfl
        rw [ev_for,src,forK_some]
        exact eF
      have eR2:readT r = if ((cs.zip ws).map thV).any isNn = true then none else some (.str w :: (cs.zip ws).map thV):=by
        rw [eR,ef,Option.bind_some,things_zip el]
        split <;> rfl
      have kk:Kp [] h g':=by
        refine (k1.trans k2).tr2 kF fun x hx=>?_
        rw [List.mem_singleton] at hx
        subst hx
        have:=k1.nx
        exact .inr (by omega)
      refine ⟨g',?_,kk⟩
      show fnK (aSeq (aIfS lT3 (aRet (aC .non)) aPass) _ (lrS r Wv (sgV w) none none none) h1) = _
      rw [seq_step a3,seq_step a4]
      rcases C with ⟨c1,rfl⟩ | ⟨c1,y4,y5,rfl,c3⟩
      · rw [eR2,if_pos c1]
        show fnK (aSeq (aFor (sZipN (aCons (aVar 2) (aCons (aSlice mkF (aVar 1) (aPart (aC (.int 1))) aNo) aNil))) (gSq 2 (gsCons (gNm 4) (gsCons (gNm 5) gsNil))) lpB) _ (lrS r Wv (sgV w) (some (.ref b)) none none) h2) = _
        rw [ev_seq,a5]
        rfl
      · rw [eR2,if_neg (by rw [c1]; simp)]
        show fnK (aSeq (aFor (sZipN (aCons (aVar 2) (aCons (aSlice mkF (aVar 1) (aPart (aC (.int 1))) aNo) aNil))) (gSq 2 (gsCons (gNm 4) (gsCons (gNm 5) gsNil))) lpB) _ (lrS r Wv (sgV w) (some (.ref b)) none none) h2) = _
        rw [seq_step a5,ev_ret,ev_args,ev_cons,show aVar 3 (lrS r Wv (sgV w) (some (.ref b)) y4 y5) g' = some (.ref b,g') from rfl,consK_some,ev_nil,consJ_some,argsK_some]
        have:one aTupV [.ref b] g' = some (.nod .tup (.str w :: (cs.zip ws).map thV),g'):=by
          show aTupV (.ref b) g' = _
          unfold aTupV
          rw [look_ref,c3]
          exact mkF_ok (by rw [List.length_append,List.length_map,List.length_singleton]; have:=zip_len (cs:=cs) (ws:=ws); exact sz _ (by omega))
        rw [this]
        rfl
    · refine stop ?_ ?_
      · rw [t3]
        have:((!decide (cs.length = ws.length)) || decide (Str.empty ∈ ws)) = true:=by
          by_cases el:cs.length = ws.length
          · have:Str.empty ∈ ws:=Classical.byContradiction fun q=>hbad ⟨el,q⟩
            rw [decide_eq_true this,Bool.or_true]
          · rw [decide_eq_false el]; rfl
        rw [this]
      · rw [eR,ef,Option.bind_some]
        by_cases el:cs.length = ws.length
        · have:Str.empty ∈ ws:=Classical.byContradiction fun q=>hbad ⟨el,q⟩
          rw [things_empty this]; rfl
        · rw [things_len el]; rfl
end
end K55
end
section
namespace K55
open PySem PySem.Spec PyProof.Rows L2 Rp K55
abbrev qL:Str := "law.<locals>.<lambda>"
section
variable {h g:AH} {r w:Str} {D:List AV} {n:Nat} {ta:Addr}
theorem small_log:∀ k < 10,((k:Nat):Int).natAbs.log2 < 1920:=by decide +kernel
theorem th_str {v:AV} (hv:(∃ k:Nat,k < 10 ∧ v = .int (k:Nat)) ∨ ∃ x:Str,v = .str x):aStr2 [v] h = some (.str (thT v),h):=by
  rcases hv with ⟨k,hk,rfl⟩ | ⟨x,rfl⟩
  · simp only [aStr2,one,aStrV]
    rw [if_pos (small_log k hk)]
    rfl
  · rfl
def rowB:AS:=(aRet (aBM "str" aJoin (aC (.str " ")) (aCons (aLc mkF (sVal (aVar 0)) (gNm 1) aYes (aArgs aStr2 (aCons (aVar 1) aNil)) [1]) aNil)))
theorem row_run (k:DOk D):fnK (rowB [some (.nod .tup D),none] h) = some (.str (rowT D),h):=by
  obtain ⟨hl,hd⟩:=d_words k
  let S:LS:=[some (.nod .tup D),none]
  have ec:=lcL_enc (h:=h) (fun v:AV=>v) (G:=[]) (g:=gNm 1) (t:=aYes) (f:=(aArgs aStr2 (aCons (aVar 1) aNil))) (s0:=S) chk_nil (fun _=>true) (fun v=>AV.str (thT v))
    (fun v=>[some (.nod .tup D),some v]) D [] (fun v hv=>⟨rfl,rfl,fun _=>by
      rw [ev_args,ev_cons,show (aVar 1) [some (.nod .tup D),some v] h = some (v,h) from rfl,consK_some,ev_nil,consJ_some,argsK_some,th_str (hd v hv).1]⟩) (by rw [List.length_nil]; exact sz _ (by omega))
  rw [List.filter_eq_self.mpr (by simp),List.nil_append,List.map_id'] at ec
  have hm:(D.map fun v=>AV.str (thT v)) = (D.map thT).map .str:=by rw [List.map_map]; rfl
  rw [hm] at ec
  have hw:wipeA S [1] = S:=rfl
  have src:sVal (aVar 0) S h = some ((D,[]),h):=rfl
  have lc:(aLc mkF (sVal (aVar 0)) (gNm 1) aYes (aArgs aStr2 (aCons (aVar 1) aNil)) [1]) S h = some (.nod .lst ((D.map thT).map .str),h):=by
    rw [ev_lc,src]
    simp only [Option.bind_some,hw]
    rw [ec]
    simp only [Option.bind_some]
    exact mkF_ok (by rw [List.length_map,List.length_map]; exact sz _ (by omega))
  have sm:((D.map thT).map fun y=>y.length).sum ≤ 8 * (D.map thT).length:=sum_le fun y hy=>by
    obtain ⟨v,hv,rfl⟩:=List.mem_map.mp hy
    exact (hd v hv).2
  have e1:(Str.ofString " ").length = 1:=rfl
  have jn:=join_ok (x:=Str.ofString " ") (ys:=D.map thT) (h:=h) (by rw [List.length_map] at sm ⊢; rw [e1]; omega)
  show fnK (rowB S h) = _
  rw [rowB,ev_ret,ev_bm,ev_c,bmK_str,ev_cons,lc,consK_some,ev_nil,consJ_some,bmJ_some]
  rw [show aJoin (.str (Str.ofString " ")) [.nod .lst ((D.map thT).map .str)] h = _ from jn]
  rfl
theorem drow_ok (k:DOk D):F_deed_row [.nod .tup D] h = some (.str (rowT D),h):=by
  simp only [F_deed_row]
  rw [ev_fn (by rfl)]
  exact row_run k
theorem dline_ok (k:DOk D):F__law_deed_line [.nod .tup D] h = some (.str (rowT D),h):=by
  simp only [F__law_deed_line]
  rw [ev_fn (by rfl)]
  exact row_run k
theorem things_elems:∀ {cs:List Nat} {ws:List Str} {L:List AV},thingsT cs ws = some L → L.length = ws.length ∧ ∀ v ∈ L,(∃ i:Int,v = .int i) ∨ ∃ x:Str,v = .str x
  | [],[],L,e=>by cases e; exact ⟨rfl,fun v hv=>by cases hv⟩
  | [],_ :: _,_,e=>by cases e
  | _ :: _,[],_,e=>by cases e
  | c :: cs,w :: ws,L,e=>by
    unfold thingsT at e
    obtain ⟨v,e1,e⟩:=bind_some e
    obtain ⟨L',e2,e3⟩:=Option.map_eq_some_iff.mp e
    subst e3
    obtain ⟨h1,h2⟩:=things_elems e2
    refine ⟨by rw [List.length_cons,List.length_cons,h1],fun z hz=>?_⟩
    rcases List.mem_cons.mp hz with rfl | hz
    · rcases thing_some e1 with ⟨k,_,rfl⟩ | rfl
      · exact .inl ⟨_,rfl⟩
      · exact .inr ⟨_,rfl⟩
    · exact h2 z hz
theorem read_elems (hr:r.length ≤ 900) (e:readT r = some D):D.length ≤ 1000 ∧ ∀ v ∈ D,(∃ i:Int,v = .int i) ∨ ∃ x:Str,v = .str x:=by
  unfold readT at e
  have hn:=(words_n (r:=r)).1
  split at e
  · cases e
  · rename_i w ws ew
    rw [ew,List.length_cons] at hn
    obtain ⟨cs,_,e⟩:=bind_some e
    obtain ⟨L,e2,e3⟩:=Option.map_eq_some_iff.mp e
    subst e3
    obtain ⟨h1,h2⟩:=things_elems e2
    refine ⟨by rw [List.length_cons,h1]; omega,fun z hz=>?_⟩
    rcases List.mem_cons.mp hz with rfl | hz
    · exact .inr ⟨_,rfl⟩
    · exact h2 z hz
theorem same_th {k:Nat} {v:AV} (hv:(∃ i:Int,v = .int i) ∨ ∃ x:Str,v = .str x):Same (k + 1) v v h:=by
  rcases hv with ⟨i,rfl⟩ | ⟨x,rfl⟩
  · exact same_int
  · exact same_str
theorem same_deed {k:Nat} (hl:D.length ≤ 1000) (hv:∀ v ∈ D,(∃ i:Int,v = .int i) ∨ ∃ x:Str,v = .str x):Same (k + 2) (.nod .tup D) (.nod .tup D) h:=same_tup hl fun v m=>same_th (hv v m)
def badV:AV:=.nod .tup [.str "BadRun",.int 0]
def outV (r:Str):AV:=match readT r with
  | some D=>.nod .tup D
  | none=>badV
theorem same_out (hr:r.length ≤ 900):F__law_same [outV r,outV r] h = some (.bl true,h):=by
  show Same (38 + 2) (outV r) (outV r) h
  unfold outV
  cases e:readT r with
  | none =>
    refine same_deed (by simp) fun v hv=>?_
    simp only [List.mem_cons,List.not_mem_nil,or_false] at hv
    rcases hv with rfl | rfl
    · exact .inr ⟨_,rfl⟩
    · exact .inl ⟨_,rfl⟩
  | some D=>exact same_deed (read_elems hr e).1 (read_elems hr e).2
theorem asked_ok {s:LS} {f:AE} (ht:h.get 0 = some (.cod ta qL,[])) (hf:f s h = some (.str r,h)) (hr:r.length ≤ 1000):aAsk 0 ta qL G__law_asked_row (xCall F_read_deedX (lfA (aCons f aNil))) s h = some (outV r,h):=by
  have e:(xCall F_read_deedX (lfA (aCons f aNil))) s h = some ((match readT r with
    | some D=>.ok (.nod .tup D)
    | none=>.ex 0 (.int 0)),h):=by
    rw [ev_xcall,ev_lfA,ev_cons,hf,consK_some,ev_nil,consJ_some,lfAK_some]
    exact readX_ok hr
  rw [ev_ask ht e]
  unfold outV
  cases er:readT r with
  | some D=>exact askG_none
  | none =>
    rw [G__law_asked_row]
    rw [askG_ex (by omega)]
    have ev:∀ S:LS,(aRet (aArgs (mkF .tup) (aCons (aC (.str "BadRun")) (aCons (aC (.int 0)) aNil)))) S h = some (.rt badV,h):=fun S=>by
      rw [ev_ret,ev_args,ev_cons,ev_c,consK_some,ev_cons,ev_c,consK_some,ev_nil,consJ_some,consJ_some,argsK_some,mkF_ok (sz _ (by simp))]
      rfl
    show fnK (if okArg (.int 0) = true ∧ 1 < ([none,none]:LS).length then onlyRt ((aRet (aArgs (mkF .tup) (aCons (aC (.str "BadRun")) (aCons (aC (.int 0)) aNil)))) ([none,none].set 1 none) h) else none) = _
    rw [if_pos ⟨rfl,by decide⟩,ev]
    rfl
def In (h:AH) (n:Nat) (ta:Addr):Prop:=Hat h n ∧ h.get 0 = some (.cod ta qL,[]) ∧ n ≠ 0
theorem In.kp {S:List Nat} (X:In h n ta) (k:Kp S h g) (hS:∀ x ∈ S,x = n) (H:Hat g n):In g n ta:=⟨H,k.get X.2.1 (fun q=>X.2.2 (hS 0 q).symm),X.2.2⟩
theorem In.kp0 (X:In h n ta) (k:Kp [] h g):In g n ta:=X.kp k (fun x hx=>by cases hx) (X.1.kp k (by simp))
theorem In.take (X:In h n ta) (k:Nat) (K:Int) (hK:K = k:=by rfl) (hk:0 < k:=by omega) (hk2:k < 1000000:=by omega):∃ (d:Nat) (h':AH),d < k ∧ F__law_take [.ref n,.int K] h = some (.int d,h') ∧ In h' n ta:=by
  obtain ⟨d,h',hd,e,H,k1,_⟩:=take_hat X.1 k K hK hk (by omega)
  exact ⟨d,h',hd,e,X.kp k1 (by simp) H⟩
theorem In.ofL (X:In h n ta) {xs:List AV} (h0:xs ≠ []) (h1:xs.length < 1000000):∃ (x:AV) (h':AH),x ∈ xs ∧ F__law_of [.ref n,.nod .lst xs] h = some (x,h') ∧ In h' n ta:=by
  obtain ⟨x,h',hx,e,H,k,_⟩:=ofL_hat X.1 h0 h1
  exact ⟨x,h',hx,e,X.kp k (by simp) H⟩
theorem cutS_le {z:Str} {l u:Option Int}:(cutS z l u).length ≤ z.length:=by
  rw [len_l,len_l]
  unfold cutS
  simp only [List.length_take,List.length_drop]
  omega
def total (xs:List Str):Nat:=(xs.map fun y=>y.length + 1).sum
theorem total_join:∀ (xs:List Str),(Txt.join (Str.ofString " ") xs).length ≤ total xs ∧ (xs ≠ [] → (Txt.join (Str.ofString " ") xs).length + 1 = total xs)
  | []=>⟨Nat.le_refl _,fun h=>absurd rfl h⟩
  | [x]=>by
    have e:(Txt.join (Str.ofString " ") [x]) = x:=by
      rw [show Txt.join (Str.ofString " ") [x] = Str.join (Str.ofString " ") [x] from StrLaws.glued_eq_join _ _]; rfl
    rw [e]
    exact ⟨by simp [total],fun _=>by simp [total]⟩
  | x :: y :: r=>by
    have ih:=(total_join (y :: r)).2 (by simp)
    have e:(Txt.join (Str.ofString " ") (x :: y :: r)).length = x.length + 1 + (Txt.join (Str.ofString " ") (y :: r)).length:=by
      rw [show Txt.join (Str.ofString " ") (x :: y :: r) = Str.join (Str.ofString " ") (x :: y :: r) from StrLaws.glued_eq_join _ _,show Txt.join (Str.ofString " ") (y :: r) = Str.join (Str.ofString " ") (y :: r) from StrLaws.glued_eq_join _ _]
      show (x ++ Str.ofString " " ++ Str.join (Str.ofString " ") (y :: r)).length = _
      rw [app_len,app_len]; rfl
    have et:total (x :: y :: r) = x.length + 1 + total (y :: r):=by simp [total]
    rw [e,et]
    exact ⟨by omega,fun _=>by omega⟩
theorem total_words:total (wordsT r) = r.length + 1:=by
  have:=(total_join (wordsT r)).2 words_ne
  rw [← this,show Txt.join (Str.ofString " ") (wordsT r) = Str.join (Str.ofString " ") (wordsT r) from StrLaws.glued_eq_join _ _,sp_eq,words_join]
theorem total_app {xs ys:List Str}:total (xs ++ ys) = total xs + total ys:=by simp [total]
theorem total_out {xs:List Str} {i:Nat}:total (xs.take i ++ xs.drop (i + 1)) ≤ total xs:=by
  have h1:total xs = total (xs.take i) + total (xs.drop i):=by rw [← total_app,List.take_append_drop]
  have h2:total (xs.drop (i + 1)) ≤ total (xs.drop i):=by
    by_cases hi:i < xs.length
    · rw [List.drop_eq_getElem_cons hi]
      simp only [total,List.map_cons,List.sum_cons]
      omega
    · rw [List.drop_eq_nil_of_le (by omega),List.drop_eq_nil_of_le (by omega)]
      exact Nat.le_refl _
  rw [total_app]
  omega
theorem total_sum {xs:List Str}:(xs.map fun y=>y.length).sum + xs.length * 1 = total xs:=by
  induction xs with
  | nil=>rfl
  | cons x xs ih =>
    simp only [total,List.map_cons,List.sum_cons,List.length_cons] at ih ⊢
    omega
theorem joinW {xs:List Str} (hx:total xs ≤ 100000):aJoin (.str (Str.ofString " ")) [.nod .lst (xs.map .str)] h = some (.str (Txt.join (Str.ofString " ") xs),h):=by
  have e1:(Str.ofString " ").length = 1:=rfl
  exact join_ok (by rw [e1,total_sum]; omega)
theorem catL {xs ys:List AV} (hz:xs.length + ys.length ≤ 100000):aAdd (.nod .lst xs) (.nod .lst ys) h = some (.nod .lst (xs ++ ys),h):=by
  have a1:aAddI (.nod .lst xs) (.nod .lst ys) h = none:=rfl
  have a2:aAddS (.nod .lst xs) (.nod .lst ys) h = none:=rfl
  unfold aAdd
  rw [a1,orO_none,a2,orO_none]
  show mkF .lst (xs ++ ys) h = _
  exact mkF_ok (by rw [List.length_append]; exact sz _ (by omega))
end
end K55
end
section
namespace K55
open PySem PySem.Spec PyProof.Rows L2 Rp K55
def lwS (a0:AV) (n:Nat) (x2 x3 x4 x5 x6 x7 x8 x9 x10 x11 x12 x13:Option AV):LS:=[some a0,some (.ref n),x2,x3,x4,x5,x6,x7,x8,x9,x10,x11,x12,x13]
def bd:Nat → Nat
  | 0=>27
  | 1=>55
  | _=>111
theorem bd_le {i:Nat}:bd i ≤ 111:=by
  unfold bd
  split <;> omega
theorem bd_step {i:Nat} (h:i < 2):2 * bd i + 1 ≤ bd (i + 1):=by
  match i,h with
  | 0,_=>decide
  | 1,_=>decide
def bnB:AS:=(aSeq (aAsg (aCall F__law_take [] (aCons (aVar 1) (aCons (aOp2 aAdd (aArgs (one aLenV) (aCons (aVar 6) aNil)) (aC (.int 1))) aNil))) (gNm 8))
    (aSeq (aAsg (aOp2 aIx (aC (.str " 019a-X@")) (aCall F__law_take [] (aCons (aVar 1) (aCons (aC (.int 8)) aNil)))) (gNm 9))
    (aSeq (aAsg (aBM "str" (aSplit mkF) (aVar 6) (aCons (aC (.str " ")) aNil)) (gNm 10))
    (aSeq (aAsg (aCall F__law_take [] (aCons (aVar 1) (aCons (aArgs (one aLenV) (aCons (aVar 10) aNil)) aNil))) (gNm 11))
    (aSeq (aAsg (aArgs (mkF .lst) (aCons (aOp2 aAdd (aOp2 aAdd (aSlice mkF (aVar 6) aNo (aPart (aVar 8))) (aVar 9)) (aSlice mkF (aVar 6) (aPart (aVar 8)) aNo)) (aCons (aOp2 aAdd (aSlice mkF (aVar 6) aNo (aPart (aVar 8))) (aSlice mkF (aVar 6) (aPart (aOp2 aAdd (aVar 8) (aC (.int 1)))) aNo)) (aCons (aOp2 aAdd (aOp2 aAdd (aSlice mkF (aVar 6) aNo (aPart (aVar 8))) (aVar 9)) (aSlice mkF (aVar 6) (aPart (aOp2 aAdd (aVar 8) (aC (.int 1)))) aNo)) aNil)))) (gNm 12))
    (aSeq (aAsg (aOp2 aAdd (aVar 12) (aArgs (mkF .lst) (aCons (aBM "str" aJoin (aC (.str " ")) (aCons (aOp2 aAdd (aSlice mkF (aVar 10) aNo (aPart (aVar 11))) (aSlice mkF (aVar 10) (aPart (aOp2 aAdd (aVar 11) (aC (.int 1)))) aNo)) aNil)) (aCons (aBM "str" aJoin (aC (.str " ")) (aCons (aOp2 aAdd (aVar 10) (aArgs (mkF .lst) (aCons (aOp2 aIx (aVar 10) (aVar 11)) aNil))) aNil)) aNil)))) (gNm 12))
    (aAsg (aCall F__law_of [] (aCons (aVar 1) (aCons (aVar 12) aNil))) (gNm 6))))))))
section
variable {h g:AH} {r w:Str} {D:List AV} {n:Nat} {ta:Addr} {a0:AV} {x2 x3 x4 x5 x6 x7 x8 x9 x10 x11 x12 x13:Option AV}
theorem sign_ix {d:Nat} (hd:d < 8):∃ c,aIx (.str " 019a-X@") (.int (d:Nat)) h = some (.str ⟨#[c]⟩,h):=by
  have hl:(Str.ofString " 019a-X@").cps.toList.length = 8:=by decide +kernel
  have hz:(Str.ofString " 019a-X@").length ≤ sizeLine:=sz _ (by decide +kernel)
  have e1:aIxQ (.str " 019a-X@") (.int (d:Nat)) h = none:=rfl
  refine ⟨(Str.ofString " 019a-X@").cps.toList[d],?_⟩
  unfold aIx
  rw [e1,orO_none]
  unfold aIxS
  simp only [if_pos hz]
  rw [atI_at (by rw [hl]; exact hd)]
  simp [hl,hd]
  rfl
theorem addS {x y:Str} (hz:x.length + y.length ≤ 100000):aAdd (.str x) (.str y) h = some (.str (x ++ y),h):=ev_addS (sz _ (by omega))
theorem bend_ok {i:Nat} (X:In h n ta) (hi:i < 2) (hr:r.length ≤ bd i) :
    ∃ r' g' y8 y9 y10 y11 y12,bnB (lwS a0 n x2 x3 x4 x5 (some (.str r)) x7 x8 x9 x10 x11 x12 x13) h = some (.nx (lwS a0 n x2 x3 x4 x5 (some (.str r')) x7 y8 y9 y10 y11 y12 x13),g') ∧ In g' n ta ∧ r'.length ≤ bd (i + 1):=by
  have hb:=bd_le (i:=i)
  have hs:=bd_step hi
  let S (x6 x8 x9 x10 x11 x12:Option AV):LS:=lwS a0 n x2 x3 x4 x5 x6 x7 x8 x9 x10 x11 x12 x13
  let R:Option AV:=some (.str r)
  have hlr:∀ g,aLenV (.str r) g = some (.int r.length,g):=fun g=>Rp.len_str (sz _ (by omega))
  obtain ⟨d1,g1,hd1,e1,X1⟩:=X.take (r.length + 1) ((r.length:Int) + 1) (by omega) (by omega) (by omega)
  obtain ⟨d2,g2,hd2,e2,X2⟩:=X1.take 8 8
  have hn:=words_n (r:=r)
  have hne:=words_ne (r:=r)
  have hp:0 < (wordsT r).length:=List.length_pos_iff.mpr hne
  obtain ⟨d3,g3,hd3,e3,X3⟩:=X2.take (wordsT r).length ((wordsT r).length:Int) rfl hp (by omega)
  obtain ⟨c,ec⟩:=sign_ix (h:=g2) hd2
  have a1:(aAsg (aCall F__law_take [] (aCons (aVar 1) (aCons (aOp2 aAdd (aArgs (one aLenV) (aCons (aVar 6) aNil)) (aC (.int 1))) aNil))) (gNm 8)) (S R x8 x9 x10 x11 x12) h = some (.nx (S R (some (.int d1)) x9 x10 x11 x12),g1):=by
    have:(aCall F__law_take [] (aCons (aVar 1) (aCons (aOp2 aAdd (aArgs (one aLenV) (aCons (aVar 6) aNil)) (aC (.int 1))) aNil))) (S R x8 x9 x10 x11 x12) h = some (.int d1,g1):=by
      rw [ev_call,ev_cons,show aVar 1 (S R x8 x9 x10 x11 x12) h = some (.ref n,h) from rfl,consK_some,ev_cons,ev_op2,ev_args,ev_cons,show aVar 6 (S R x8 x9 x10 x11 x12) h = some (.str r,h) from rfl,consK_some,ev_nil,consJ_some,argsK_some,show one aLenV [AV.str r] h = _ from hlr h,op2K_some,ev_c,op2J_some,ev_addI,consK_some,ev_nil,consJ_some,consJ_some,argsK_some,List.append_nil,e1]
    rw [ev_asg,this]
    rfl
  have a2:(aAsg (aOp2 aIx (aC (.str " 019a-X@")) (aCall F__law_take [] (aCons (aVar 1) (aCons (aC (.int 8)) aNil)))) (gNm 9)) (S R (some (.int d1)) x9 x10 x11 x12) g1 = some (.nx (S R (some (.int d1)) (some (.str ⟨#[c]⟩)) x10 x11 x12),g2):=by
    have:(aOp2 aIx (aC (.str " 019a-X@")) (aCall F__law_take [] (aCons (aVar 1) (aCons (aC (.int 8)) aNil)))) (S R (some (.int d1)) x9 x10 x11 x12) g1 = some (.str ⟨#[c]⟩,g2):=by
      rw [ev_op2,ev_c,op2K_some,take_e (s:=S R (some (.int d1)) x9 x10 x11 x12) (j:=1) (k:=0) rfl e2,op2J_some,ec]
    rw [ev_asg,this]
    rfl
  let Wv:AV:=.nod .lst ((wordsT r).map .str)
  have a3:(aAsg (aBM "str" (aSplit mkF) (aVar 6) (aCons (aC (.str " ")) aNil)) (gNm 10)) (S R (some (.int d1)) (some (.str ⟨#[c]⟩)) x10 x11 x12) g2 = some (.nx (S R (some (.int d1)) (some (.str ⟨#[c]⟩)) (some Wv) x11 x12),g2):=by
    have:(aBM "str" (aSplit mkF) (aVar 6) (aCons (aC (.str " ")) aNil)) (S R (some (.int d1)) (some (.str ⟨#[c]⟩)) x10 x11 x12) g2 = some (Wv,g2):=by
      rw [ev_bm,show aVar 6 (S R (some (.int d1)) (some (.str ⟨#[c]⟩)) x10 x11 x12) g2 = some (.str r,g2) from rfl,bmK_str,ev_cons,ev_c,consK_some,ev_nil,consJ_some,bmJ_some]
      exact split_run (by omega)
    rw [ev_asg,this]
    rfl
  have a4:(aAsg (aCall F__law_take [] (aCons (aVar 1) (aCons (aArgs (one aLenV) (aCons (aVar 10) aNil)) aNil))) (gNm 11)) (S R (some (.int d1)) (some (.str ⟨#[c]⟩)) (some Wv) x11 x12) g2 = some (.nx (S R (some (.int d1)) (some (.str ⟨#[c]⟩)) (some Wv) (some (.int d3)) x12),g3):=by
    have:(aCall F__law_take [] (aCons (aVar 1) (aCons (aArgs (one aLenV) (aCons (aVar 10) aNil)) aNil))) (S R (some (.int d1)) (some (.str ⟨#[c]⟩)) (some Wv) x11 x12) g2 = some (.int d3,g3):=by
      rw [ev_call,ev_cons,show aVar 1 (S R (some (.int d1)) (some (.str ⟨#[c]⟩)) (some Wv) x11 x12) g2 = some (.ref n,g2) from rfl,consK_some,ev_cons,ev_args,ev_cons,show aVar 10 (S R (some (.int d1)) (some (.str ⟨#[c]⟩)) (some Wv) x11 x12) g2 = some (Wv,g2) from rfl,consK_some,ev_nil,consJ_some,argsK_some,show one aLenV [Wv] g2 = some (.int (((wordsT r).map AV.str).length:Nat),g2) from rfl,consK_some,ev_nil,consJ_some,consJ_some,argsK_some,List.append_nil,List.length_map,e3]
    rw [ev_asg,this]
    rfl
  obtain ⟨T,hT⟩:∃ T,S R (some (.int d1)) (some (.str ⟨#[c]⟩)) (some Wv) (some (.int d3)) x12 = T:=⟨_,rfl⟩
  have v6:∀ z,aVar 6 (S R (some (.int d1)) (some (.str ⟨#[c]⟩)) (some Wv) (some (.int d3)) z) g3 = some (.str r,g3):=fun _=>rfl
  have v8:∀ z,aVar 8 (S R (some (.int d1)) (some (.str ⟨#[c]⟩)) (some Wv) (some (.int d3)) z) g3 = some (.int d1,g3):=fun _=>rfl
  have v9:∀ z,aVar 9 (S R (some (.int d1)) (some (.str ⟨#[c]⟩)) (some Wv) (some (.int d3)) z) g3 = some (.str ⟨#[c]⟩,g3):=fun _=>rfl
  have v10:∀ z,aVar 10 (S R (some (.int d1)) (some (.str ⟨#[c]⟩)) (some Wv) (some (.int d3)) z) g3 = some (Wv,g3):=fun _=>rfl
  have v11:∀ z,aVar 11 (S R (some (.int d1)) (some (.str ⟨#[c]⟩)) (some Wv) (some (.int d3)) z) g3 = some (.int d3,g3):=fun _=>rfl
  have v12:∀ z,aVar 12 (S R (some (.int d1)) (some (.str ⟨#[c]⟩)) (some Wv) (some (.int d3)) (some z)) g3 = some (z,g3):=fun _=>rfl
  let A:=cutS r none (some (d1:Int))
  let B:=cutS r (some (d1:Int)) none
  let C:=cutS r (some ((d1:Int) + 1)) none
  have lA:A.length ≤ r.length:=cutS_le
  have lB:B.length ≤ r.length:=cutS_le
  have lC:C.length ≤ r.length:=cutS_le
  let c1:Str:=⟨#[c]⟩
  have l1:c1.length = 1:=rfl
  have hzr:r.length ≤ sizeLine:=sz _ (by omega)
  have pA:∀ z,(aSlice mkF (aVar 6) aNo (aPart (aVar 8))) (S R (some (.int d1)) (some (.str ⟨#[c]⟩)) (some Wv) (some (.int d3)) z) g3 = some (.str A,g3):=fun z=>by
    rw [ev_slice,v6,sliceK_some,ev_no,sliceJ_some,ev_part,v8,partK_some,sliceI_some]
    exact sl_str hzr
  have pB:∀ z,(aSlice mkF (aVar 6) (aPart (aVar 8)) aNo) (S R (some (.int d1)) (some (.str ⟨#[c]⟩)) (some Wv) (some (.int d3)) z) g3 = some (.str B,g3):=fun z=>by
    rw [ev_slice,v6,sliceK_some,ev_part,v8,partK_some,sliceJ_some,ev_no,sliceI_some]
    exact sl_str hzr
  have pC:∀ z,(aSlice mkF (aVar 6) (aPart (aOp2 aAdd (aVar 8) (aC (.int 1)))) aNo) (S R (some (.int d1)) (some (.str ⟨#[c]⟩)) (some Wv) (some (.int d3)) z) g3 = some (.str C,g3):=fun z=>by
    rw [ev_slice,v6,sliceK_some,ev_part,ev_op2,v8,op2K_some,ev_c,op2J_some,ev_addI,partK_some,sliceJ_some,ev_no,sliceI_some]
    exact sl_str hzr
  have lAc:(A ++ c1).length = A.length + 1:=by rw [app_len,l1]
  let m1:Str:=A ++ c1 ++ B
  let m2:Str:=A ++ C
  let m3:Str:=A ++ c1 ++ C
  have lm1:m1.length ≤ 2 * r.length + 1:=by show (A ++ c1 ++ B).length ≤ _; rw [app_len,lAc]; omega
  have lm2:m2.length ≤ 2 * r.length + 1:=by show (A ++ C).length ≤ _; rw [app_len]; omega
  have lm3:m3.length ≤ 2 * r.length + 1:=by show (A ++ c1 ++ C).length ≤ _; rw [app_len,lAc]; omega
  have sAc:∀ z,(aOp2 aAdd (aSlice mkF (aVar 6) aNo (aPart (aVar 8))) (aVar 9)) (S R (some (.int d1)) (some (.str ⟨#[c]⟩)) (some Wv) (some (.int d3)) z) g3 = some (.str (A ++ c1),g3):=fun z=>by
    rw [ev_op2,pA,op2K_some,v9,op2J_some]
    exact addS (by show A.length + c1.length ≤ _; omega)
  have q1:(aOp2 aAdd (aOp2 aAdd (aSlice mkF (aVar 6) aNo (aPart (aVar 8))) (aVar 9)) (aSlice mkF (aVar 6) (aPart (aVar 8)) aNo)) (S R (some (.int d1)) (some (.str ⟨#[c]⟩)) (some Wv) (some (.int d3)) x12) g3 = some (.str m1,g3):=by
    rw [ev_op2,sAc,op2K_some,pB,op2J_some]
    exact addS (by rw [lAc]; omega)
  have q2:(aOp2 aAdd (aSlice mkF (aVar 6) aNo (aPart (aVar 8))) (aSlice mkF (aVar 6) (aPart (aOp2 aAdd (aVar 8) (aC (.int 1)))) aNo)) (S R (some (.int d1)) (some (.str ⟨#[c]⟩)) (some Wv) (some (.int d3)) x12) g3 = some (.str m2,g3):=by
    rw [ev_op2,pA,op2K_some,pC,op2J_some]
    exact addS (by omega)
  have q3:(aOp2 aAdd (aOp2 aAdd (aSlice mkF (aVar 6) aNo (aPart (aVar 8))) (aVar 9)) (aSlice mkF (aVar 6) (aPart (aOp2 aAdd (aVar 8) (aC (.int 1)))) aNo)) (S R (some (.int d1)) (some (.str ⟨#[c]⟩)) (some Wv) (some (.int d3)) x12) g3 = some (.str m3,g3):=by
    rw [ev_op2,sAc,op2K_some,pC,op2J_some]
    exact addS (by rw [lAc]; omega)
  let M1:AV:=.nod .lst [.str m1,.str m2,.str m3]
  have a5:(aAsg (aArgs (mkF .lst) (aCons (aOp2 aAdd (aOp2 aAdd (aSlice mkF (aVar 6) aNo (aPart (aVar 8))) (aVar 9)) (aSlice mkF (aVar 6) (aPart (aVar 8)) aNo)) (aCons (aOp2 aAdd (aSlice mkF (aVar 6) aNo (aPart (aVar 8))) (aSlice mkF (aVar 6) (aPart (aOp2 aAdd (aVar 8) (aC (.int 1)))) aNo)) (aCons (aOp2 aAdd (aOp2 aAdd (aSlice mkF (aVar 6) aNo (aPart (aVar 8))) (aVar 9)) (aSlice mkF (aVar 6) (aPart (aOp2 aAdd (aVar 8) (aC (.int 1)))) aNo)) aNil)))) (gNm 12)) (S R (some (.int d1)) (some (.str ⟨#[c]⟩)) (some Wv) (some (.int d3)) x12) g3 = some (.nx (S R (some (.int d1)) (some (.str ⟨#[c]⟩)) (some Wv) (some (.int d3)) (some M1)),g3):=by
    rw [ev_asg,ev_args,ev_cons,q1,consK_some,ev_cons,q2,consK_some,ev_cons,q3,consK_some,ev_nil,consJ_some,consJ_some,consJ_some,argsK_some,mkF_ok (sz _ (by simp))]
    rfl
  let W4:List Str:=(wordsT r).take d3 ++ (wordsT r).drop (d3 + 1)
  have hw3:(wordsT r)[d3]? = some ((wordsT r)[d3]'hd3):=List.getElem?_eq_getElem hd3
  let y:Str:=(wordsT r)[d3]'hd3
  have ly:y.length ≤ r.length:=hn.2 _ (List.getElem_mem hd3)
  let W5:List Str:=wordsT r ++ [y]
  have tw:=total_words (r:=r)
  have t4:total W4 ≤ r.length + 1:=tw ▸ total_out
  have t5:total W5 = r.length + 1 + (y.length + 1):=by show total (wordsT r ++ [y]) = _; rw [total_app,tw]; simp [total]
  let m4:Str:=Txt.join (Str.ofString " ") W4
  let m5:Str:=Txt.join (Str.ofString " ") W5
  have lm4:m4.length ≤ 2 * r.length + 1:=by
    have h1:=total_join W4
    show (Txt.join (Str.ofString " ") W4).length ≤ _
    by_cases h0:W4 = []
    · rw [h0]; exact Nat.zero_le _
    · have:=h1.2 h0
      omega
  have lm5:m5.length ≤ 2 * r.length + 1:=by
    have:=(total_join W5).2 (by simp [W5])
    show (Txt.join (Str.ofString " ") W5).length ≤ _
    omega
  have sl1:(aSlice mkF (aVar 10) aNo (aPart (aVar 11))) (S R (some (.int d1)) (some (.str ⟨#[c]⟩)) (some Wv) (some (.int d3)) (some M1)) g3 = some (.nod .lst (((wordsT r).take d3).map .str),g3):=by
    rw [ev_slice,v10,sliceK_some,ev_no,sliceJ_some,ev_part,v11,partK_some,sliceI_some,slL,cutA_pre (by rw [List.length_map]; omega),← List.map_take]
    exact mkF_ok (by rw [List.length_map,List.length_take]; exact sz _ (by omega))
  have sl2:(aSlice mkF (aVar 10) (aPart (aOp2 aAdd (aVar 11) (aC (.int 1)))) aNo) (S R (some (.int d1)) (some (.str ⟨#[c]⟩)) (some Wv) (some (.int d3)) (some M1)) g3 = some (.nod .lst (((wordsT r).drop (d3 + 1)).map .str),g3):=by
    rw [ev_slice,v10,sliceK_some,ev_part,ev_op2,v11,op2K_some,ev_c,op2J_some,ev_addI,partK_some,sliceJ_some,ev_no,sliceI_some,slL,show ((d3:Int) + 1) = ((d3 + 1:Nat):Int) by omega,cutA_post (by rw [List.length_map]; omega),← List.map_drop]
    exact mkF_ok (by rw [List.length_map,List.length_drop]; exact sz _ (by omega))
  have q4:(aBM "str" aJoin (aC (.str " ")) (aCons (aOp2 aAdd (aSlice mkF (aVar 10) aNo (aPart (aVar 11))) (aSlice mkF (aVar 10) (aPart (aOp2 aAdd (aVar 11) (aC (.int 1)))) aNo)) aNil)) (S R (some (.int d1)) (some (.str ⟨#[c]⟩)) (some Wv) (some (.int d3)) (some M1)) g3 = some (.str m4,g3):=by
    rw [ev_bm,ev_c,bmK_str,ev_cons,ev_op2,sl1,op2K_some,sl2,op2J_some,catL (by rw [List.length_map,List.length_map,List.length_take,List.length_drop]; omega),← List.map_append,consK_some,ev_nil,consJ_some,bmJ_some]
    exact joinW (xs:=W4) (by omega)
  have q5:(aBM "str" aJoin (aC (.str " ")) (aCons (aOp2 aAdd (aVar 10) (aArgs (mkF .lst) (aCons (aOp2 aIx (aVar 10) (aVar 11)) aNil))) aNil)) (S R (some (.int d1)) (some (.str ⟨#[c]⟩)) (some Wv) (some (.int d3)) (some M1)) g3 = some (.str m5,g3):=by
    have ix:(aOp2 aIx (aVar 10) (aVar 11)) (S R (some (.int d1)) (some (.str ⟨#[c]⟩)) (some Wv) (some (.int d3)) (some M1)) g3 = some (.str y,g3):=by
      rw [ev_op2,v10,op2K_some,v11,op2J_some]
      exact ev_ixL look_nod (by rw [List.getElem?_map,hw3]; rfl)
    rw [ev_bm,ev_c,bmK_str,ev_cons,ev_op2,v10,op2K_some,ev_args,ev_cons,ix,consK_some,ev_nil,consJ_some,argsK_some,mkF_ok (sz _ (by simp)),op2J_some,catL (by rw [List.length_map,List.length_singleton]; omega)]
    rw [show (wordsT r).map AV.str ++ [AV.str y] = W5.map .str by simp [W5],consK_some,ev_nil,consJ_some,bmJ_some]
    exact joinW (xs:=W5) (by omega)
  let M2:List Str:=[m1,m2,m3,m4,m5]
  have a6:(aAsg (aOp2 aAdd (aVar 12) (aArgs (mkF .lst) (aCons (aBM "str" aJoin (aC (.str " ")) (aCons (aOp2 aAdd (aSlice mkF (aVar 10) aNo (aPart (aVar 11))) (aSlice mkF (aVar 10) (aPart (aOp2 aAdd (aVar 11) (aC (.int 1)))) aNo)) aNil)) (aCons (aBM "str" aJoin (aC (.str " ")) (aCons (aOp2 aAdd (aVar 10) (aArgs (mkF .lst) (aCons (aOp2 aIx (aVar 10) (aVar 11)) aNil))) aNil)) aNil)))) (gNm 12)) (S R (some (.int d1)) (some (.str ⟨#[c]⟩)) (some Wv) (some (.int d3)) (some M1)) g3 = some (.nx (S R (some (.int d1)) (some (.str ⟨#[c]⟩)) (some Wv) (some (.int d3)) (some (.nod .lst (M2.map .str)))),g3):=by
    rw [ev_asg,ev_op2,v12,op2K_some,ev_args,ev_cons,q4,consK_some,ev_cons,q5,consK_some,ev_nil,consJ_some,consJ_some,argsK_some,mkF_ok (sz _ (by simp)),op2J_some,catL (by simp)]
    rfl
  obtain ⟨v,g4,hv,e4,X4⟩:=X3.ofL (xs:=M2.map .str) (by simp [M2]) (by simp [M2])
  obtain ⟨r',hr',rfl⟩:=List.mem_map.mp hv
  have a7:(aAsg (aCall F__law_of [] (aCons (aVar 1) (aCons (aVar 12) aNil))) (gNm 6)) (S R (some (.int d1)) (some (.str ⟨#[c]⟩)) (some Wv) (some (.int d3)) (some (.nod .lst (M2.map .str)))) g3 = some (.nx (S (some (.str r')) (some (.int d1)) (some (.str ⟨#[c]⟩)) (some Wv) (some (.int d3)) (some (.nod .lst (M2.map .str)))),g4):=by
    have:(aCall F__law_of [] (aCons (aVar 1) (aCons (aVar 12) aNil))) (S R (some (.int d1)) (some (.str ⟨#[c]⟩)) (some Wv) (some (.int d3)) (some (.nod .lst (M2.map .str)))) g3 = some (.str r',g4):=by
      rw [ev_call,ev_cons,show aVar 1 (S R (some (.int d1)) (some (.str ⟨#[c]⟩)) (some Wv) (some (.int d3)) (some (.nod .lst (M2.map .str)))) g3 = some (.ref n,g3) from rfl,consK_some,ev_cons,v12,consK_some,ev_nil,consJ_some,consJ_some,argsK_some,List.append_nil,e4]
    rw [ev_asg,this]
    rfl
  refine ⟨r',g4,some (.int d1),some (.str ⟨#[c]⟩),some Wv,some (.int d3),some (.nod .lst (M2.map .str)),?_,X4,?_⟩
  · show bnB (S R x8 x9 x10 x11 x12) h = _
    rw [bnB,seq_step a1,seq_step a2,seq_step a3,seq_step a4,seq_step a5,seq_step a6]
    exact a7
  · have:r'.length ≤ 2 * r.length + 1:=by
      simp only [M2,List.mem_cons,List.not_mem_nil,or_false] at hr'
      rcases hr' with rfl | rfl | rfl | rfl | rfl
      · exact lm1
      · exact lm2
      · exact lm3
      · exact lm4
      · exact lm5
    omega
end
end K55
end
section
namespace K55
open PySem PySem.Spec PyProof.Rows L2 Rp K55
def tuB (ta:Addr):AS:=(aSeq (aAsg (aCall F__law_of [] (aCons (aVar 1) (aCons (aCall F__law_names [] (aCons (aVar 1) (aCons (aC (.int 2)) aNil))) aNil))) (gNm 3))
    (aSeq (aAsg (aArgs (mkF .lst) (aCons (aArgs (mkF .tup) (aCons (aC (.str "on")) (aCons (aCall F__law_take [] (aCons (aVar 1) (aCons (aC (.int 10)) aNil))) aNil))) (aCons (aArgs (mkF .tup) (aCons (aC (.str "off")) (aCons (aVar 3) aNil))) (aCons (aArgs (mkF .tup) (aCons (aC (.str "step")) (aCons (aVar 3) aNil))) (aCons (aArgs (mkF .tup) (aCons (aC (.str "answer")) (aCons (aVar 3) (aCons (aCall F__law_take [] (aCons (aVar 1) (aCons (aC (.int 10)) aNil))) aNil)))) aNil))))) (gNm 4))
    (aSeq (aAsg (aCall F__law_of [] (aCons (aVar 1) (aCons (aOp2 aAdd (aVar 4) (aArgs (mkF .lst) (aCons (aArgs (mkF .tup) (aCons (aC (.str "carriers")) (aCons (aCall F__law_take [] (aCons (aVar 1) (aCons (aC (.int 10)) aNil))) aNil))) aNil))) aNil))) (gNm 5))
    (aSeq (aAsg (aCall F__law_deed_line [] (aCons (aVar 5) aNil)) (gNm 6))
    (aSeq (aIfS (aNot (aTst (aCall F__law_same [] (aCons (aArgs (mkF .lst) (aCons (aCall F_deed_row [] (aCons (aVar 5) aNil)) (aCons (aCall F_read_deed [] (aCons (aVar 6) aNil)) aNil))) (aCons (aArgs (mkF .lst) (aCons (aVar 6) (aCons (aVar 5) aNil))) aNil))))) (aRet (aC (.bl false))) aPass)
    (aSeq (aFor (sRng1 (aCons (aCall F__law_take [] (aCons (aVar 1) (aCons (aC (.int 3)) aNil))) aNil)) (gNm 7) bnB)
    (aSeq (aAsg (aCall F__law_deed_read [] (aCons (aVar 6) aNil)) (gNm 13))
    (aIfS (aNot (aTst (aCall F__law_same [] (aCons (aAsk 0 ta "law.<locals>.<lambda>" G__law_asked_row (xCall F_read_deedX (lfA (aCons (aVar 6) aNil)))) (aCons (aIf (aTst (aOp2 aIs (aVar 13) (aC .non))) (aArgs (mkF .tup) (aCons (aC (.str "BadRun")) (aCons (aC (.int 0)) aNil))) (aVar 13)) aNil))))) (aRet (aC (.bl false))) aPass))))))))
section
variable {h g:AH} {r w:Str} {D:List AV} {n:Nat} {ta:Addr} {a0:AV} {x2 x3 x4 x5 x6 x7 x8 x9 x10 x11 x12 x13:Option AV}
theorem d_elems (k:DOk D):D.length ≤ 1000 ∧ ∀ v ∈ D,(∃ i:Int,v = .int i) ∨ ∃ x:Str,v = .str x:=by
  obtain ⟨h1,h2⟩:=d_words k
  refine ⟨by omega,fun v hv=>?_⟩
  rcases (h2 v hv).1 with ⟨k,_,rfl⟩ | ⟨x,rfl⟩
  · exact .inl ⟨_,rfl⟩
  · exact .inr ⟨_,rfl⟩
theorem same_pair (k:DOk D):F__law_same [.nod .lst [.str r,.nod .tup D],.nod .lst [.str r,.nod .tup D]] h = some (.bl true,h):=by
  show Same (39 + 1) _ _ h
  refine same_lst (xs:=[.str r,.nod .tup D]) (ys:=[.str r,.nod .tup D]) (G:=[]) look_nod rfl chk_nil len_lst rfl rfl (by simp) fun i x y e1 e2=>?_
  rw [e1] at e2
  cases e2
  have:=List.mem_of_getElem? e1
  simp only [List.mem_cons,List.not_mem_nil,or_false] at this
  rcases this with rfl | rfl
  · exact same_str
  · exact same_deed (d_elems k).1 (d_elems k).2
theorem draw_ok (X:In h n ta):∃ D g' y3 y4,(∀ B:AS,aSeq (aAsg (aCall F__law_of [] (aCons (aVar 1) (aCons (aCall F__law_names [] (aCons (aVar 1) (aCons (aC (.int 2)) aNil))) aNil))) (gNm 3))
    (aSeq (aAsg (aArgs (mkF .lst) (aCons (aArgs (mkF .tup) (aCons (aC (.str "on")) (aCons (aCall F__law_take [] (aCons (aVar 1) (aCons (aC (.int 10)) aNil))) aNil))) (aCons (aArgs (mkF .tup) (aCons (aC (.str "off")) (aCons (aVar 3) aNil))) (aCons (aArgs (mkF .tup) (aCons (aC (.str "step")) (aCons (aVar 3) aNil))) (aCons (aArgs (mkF .tup) (aCons (aC (.str "answer")) (aCons (aVar 3) (aCons (aCall F__law_take [] (aCons (aVar 1) (aCons (aC (.int 10)) aNil))) aNil)))) aNil))))) (gNm 4))
    (aSeq (aAsg (aCall F__law_of [] (aCons (aVar 1) (aCons (aOp2 aAdd (aVar 4) (aArgs (mkF .lst) (aCons (aArgs (mkF .tup) (aCons (aC (.str "carriers")) (aCons (aCall F__law_take [] (aCons (aVar 1) (aCons (aC (.int 10)) aNil))) aNil))) aNil))) aNil))) (gNm 5)) B))
    (lwS a0 n x2 x3 x4 x5 x6 x7 x8 x9 x10 x11 x12 x13) h = B (lwS a0 n x2 y3 y4 (some (.nod .tup D)) x6 x7 x8 x9 x10 x11 x12 x13) g') ∧ In g' n ta ∧ DOk D:=by
  let S (x3 x4 x5:Option AV):LS:=lwS a0 n x2 x3 x4 x5 x6 x7 x8 x9 x10 x11 x12 x13
  have z2:2 ≤ sizeLine:=sz _ (by omega)
  obtain ⟨N,g1,hN,_,ok,e1,H1,k1⟩:=names_ok (m:=2) X.1 (by omega)
  have X1:In g1 n ta:=X.kp k1 (by simp) H1
  obtain ⟨v,g2,hv,e2,X2⟩:=X1.ofL (xs:=N.map .str) (by intro q; rw [List.map_eq_nil_iff] at q; rw [q] at hN; cases hN) (by rw [List.length_map]; omega)
  obtain ⟨x,hx,rfl⟩:=List.mem_map.mp hv
  have hx:=ok x hx
  obtain ⟨d3,g3,hd3,e3,X3⟩:=X2.take 10 10
  obtain ⟨d4,g4,hd4,e4,X4⟩:=X3.take 10 10
  obtain ⟨d5,g5,hd5,e5,X5⟩:=X4.take 10 10
  have a1:(aAsg (aCall F__law_of [] (aCons (aVar 1) (aCons (aCall F__law_names [] (aCons (aVar 1) (aCons (aC (.int 2)) aNil))) aNil))) (gNm 3)) (S x3 x4 x5) h = some (.nx (S (some (.str x)) x4 x5),g2):=by
    have:(aCall F__law_of [] (aCons (aVar 1) (aCons (aCall F__law_names [] (aCons (aVar 1) (aCons (aC (.int 2)) aNil))) aNil))) (S x3 x4 x5) h = some (.str x,g2):=by
      rw [ev_call,ev_cons,show aVar 1 (S x3 x4 x5) h = some (.ref n,h) from rfl,consK_some,ev_cons,ev_call,ev_cons,show aVar 1 (S x3 x4 x5) h = some (.ref n,h) from rfl,consK_some,ev_cons,ev_c,consK_some,ev_nil,consJ_some,consJ_some,argsK_some,List.append_nil]
      rw [show F__law_names [.ref n,.int 2] h = _ from e1,consK_some,ev_nil,consJ_some,consJ_some,argsK_some,List.append_nil,e2]
    rw [ev_asg,this]
    rfl
  let D1:List AV:=[.str "on",.int (d3:Nat)]
  let D2:List AV:=[.str "off",.str x]
  let D3:List AV:=[.str "step",.str x]
  let D4:List AV:=[.str "answer",.str x,.int (d4:Nat)]
  let D5:List AV:=[.str "carriers",.int (d5:Nat)]
  let L4:List (List AV):=[D1,D2,D3,D4]
  let L5:List (List AV):=[D1,D2,D3,D4,D5]
  have t2:∀ {f g:AE} {T:LS} {h h' h'':AH} {a b:AV},f T h = some (a,h') → g T h' = some (b,h'') → (aArgs (mkF .tup) (aCons f (aCons g aNil))) T h = some (.nod .tup [a,b],h''):=fun {f g T h h' h'' a b} ea eb=>by
    rw [ev_args,ev_cons,ea,consK_some,ev_cons,eb,consK_some,ev_nil,consJ_some,consJ_some,argsK_some,mkF_ok (sz _ (by simp))]
  let T3:LS:=S (some (.str x)) x4 x5
  have a2:(aAsg (aArgs (mkF .lst) (aCons (aArgs (mkF .tup) (aCons (aC (.str "on")) (aCons (aCall F__law_take [] (aCons (aVar 1) (aCons (aC (.int 10)) aNil))) aNil))) (aCons (aArgs (mkF .tup) (aCons (aC (.str "off")) (aCons (aVar 3) aNil))) (aCons (aArgs (mkF .tup) (aCons (aC (.str "step")) (aCons (aVar 3) aNil))) (aCons (aArgs (mkF .tup) (aCons (aC (.str "answer")) (aCons (aVar 3) (aCons (aCall F__law_take [] (aCons (aVar 1) (aCons (aC (.int 10)) aNil))) aNil)))) aNil))))) (gNm 4)) T3 g2 = some (.nx (S (some (.str x)) (some (.nod .lst (L4.map (.nod .tup)))) x5),g4):=by
    have p1:(aArgs (mkF .tup) (aCons (aC (.str "on")) (aCons (aCall F__law_take [] (aCons (aVar 1) (aCons (aC (.int 10)) aNil))) aNil))) T3 g2 = some (.nod .tup D1,g3):=t2 (by rw [ev_c]) (take_e (s:=T3) (j:=1) (k:=0) rfl e3)
    have p2:(aArgs (mkF .tup) (aCons (aC (.str "off")) (aCons (aVar 3) aNil))) T3 g3 = some (.nod .tup D2,g3):=t2 (by rw [ev_c]) (show aVar 3 T3 g3 = some (.str x,g3) from rfl)
    have p3:(aArgs (mkF .tup) (aCons (aC (.str "step")) (aCons (aVar 3) aNil))) T3 g3 = some (.nod .tup D3,g3):=t2 (by rw [ev_c]) (show aVar 3 T3 g3 = some (.str x,g3) from rfl)
    have p4:(aArgs (mkF .tup) (aCons (aC (.str "answer")) (aCons (aVar 3) (aCons (aCall F__law_take [] (aCons (aVar 1) (aCons (aC (.int 10)) aNil))) aNil)))) T3 g3 = some (.nod .tup D4,g4):=by
      rw [ev_args,ev_cons,ev_c,consK_some,ev_cons,show aVar 3 T3 g3 = some (.str x,g3) from rfl,consK_some,ev_cons,take_e (s:=T3) (j:=1) (k:=0) rfl e4,consK_some,ev_nil,consJ_some,consJ_some,consJ_some,argsK_some,mkF_ok (sz _ (by simp))]
    rw [ev_asg,ev_args,ev_cons,p1,consK_some,ev_cons,p2,consK_some,ev_cons,p3,consK_some,ev_cons,p4,consK_some,ev_nil,consJ_some,consJ_some,consJ_some,consJ_some,argsK_some,mkF_ok (sz _ (by simp))]
    rfl
  obtain ⟨v,g6,hv,e6,X6⟩:=X5.ofL (xs:=L5.map (.nod .tup)) (by simp [L5]) (by simp [L5])
  obtain ⟨D,hD,rfl⟩:=List.mem_map.mp hv
  let T4:LS:=S (some (.str x)) (some (.nod .lst (L4.map (.nod .tup)))) x5
  have a3:(aAsg (aCall F__law_of [] (aCons (aVar 1) (aCons (aOp2 aAdd (aVar 4) (aArgs (mkF .lst) (aCons (aArgs (mkF .tup) (aCons (aC (.str "carriers")) (aCons (aCall F__law_take [] (aCons (aVar 1) (aCons (aC (.int 10)) aNil))) aNil))) aNil))) aNil))) (gNm 5)) T4 g4 = some (.nx (S (some (.str x)) (some (.nod .lst (L4.map (.nod .tup)))) (some (.nod .tup D))),g6):=by
    have p5:(aArgs (mkF .tup) (aCons (aC (.str "carriers")) (aCons (aCall F__law_take [] (aCons (aVar 1) (aCons (aC (.int 10)) aNil))) aNil))) T4 g4 = some (.nod .tup D5,g5):=t2 (by rw [ev_c]) (take_e (s:=T4) (j:=1) (k:=0) rfl e5)
    have p6:(aOp2 aAdd (aVar 4) (aArgs (mkF .lst) (aCons (aArgs (mkF .tup) (aCons (aC (.str "carriers")) (aCons (aCall F__law_take [] (aCons (aVar 1) (aCons (aC (.int 10)) aNil))) aNil))) aNil))) T4 g4 = some (.nod .lst (L5.map (.nod .tup)),g5):=by
      rw [ev_op2,show aVar 4 T4 g4 = some (.nod .lst (L4.map (.nod .tup)),g4) from rfl,op2K_some,ev_args,ev_cons,p5,consK_some,ev_nil,consJ_some,argsK_some,mkF_ok (sz _ (by simp)),op2J_some,catL (by simp [L4])]
      rfl
    have:(aCall F__law_of [] (aCons (aVar 1) (aCons (aOp2 aAdd (aVar 4) (aArgs (mkF .lst) (aCons (aArgs (mkF .tup) (aCons (aC (.str "carriers")) (aCons (aCall F__law_take [] (aCons (aVar 1) (aCons (aC (.int 10)) aNil))) aNil))) aNil))) aNil))) T4 g4 = some (.nod .tup D,g6):=by
      rw [ev_call,ev_cons,show aVar 1 T4 g4 = some (.ref n,g4) from rfl,consK_some,ev_cons,p6,consK_some,ev_nil,consJ_some,consJ_some,argsK_some,List.append_nil,e6]
    rw [ev_asg,this]
    rfl
  refine ⟨D,g6,some (.str x),some (.nod .lst (L4.map (.nod .tup))),fun B=>?_,X6,?_⟩
  · show aSeq _ _ (S x3 x4 x5) h = _
    rw [seq_step a1,seq_step a2,seq_step a3]
  · simp only [L5,List.mem_cons,List.not_mem_nil,or_false] at hD
    rcases hD with rfl | rfl | rfl | rfl | rfl
    · exact .on _ hd3
    · exact .off _ hx
    · exact .step _ hx
    · exact .answer _ _ hx hd4
    · exact .cars _ hd5
theorem turn_ok (X:In h n ta):∃ g' y3 y4 y5 y6 y7 y8 y9 y10 y11 y12 y13,tuB ta (lwS a0 n x2 x3 x4 x5 x6 x7 x8 x9 x10 x11 x12 x13) h = some (.nx (lwS a0 n x2 y3 y4 y5 y6 y7 y8 y9 y10 y11 y12 y13),g') ∧ In g' n ta:=by
  obtain ⟨D,g1,y3,y4,eD,X1,hD⟩:=draw_ok (a0:=a0) (x2:=x2) (x3:=x3) (x4:=x4) (x5:=x5) (x6:=x6) (x7:=x7) (x8:=x8) (x9:=x9) (x10:=x10) (x11:=x11) (x12:=x12) (x13:=x13) X
  let S (x6 x7 x8 x9 x10 x11 x12 x13:Option AV):LS:=lwS a0 n x2 y3 y4 (some (.nod .tup D)) x6 x7 x8 x9 x10 x11 x12 x13
  have rl:=row_len hD
  have a4:(aAsg (aCall F__law_deed_line [] (aCons (aVar 5) aNil)) (gNm 6)) (S x6 x7 x8 x9 x10 x11 x12 x13) g1 = some (.nx (S (some (.str (rowT D))) x7 x8 x9 x10 x11 x12 x13),g1):=by
    have:(aCall F__law_deed_line [] (aCons (aVar 5) aNil)) (S x6 x7 x8 x9 x10 x11 x12 x13) g1 = some (.str (rowT D),g1):=by
      rw [ev_call,ev_cons,show aVar 5 (S x6 x7 x8 x9 x10 x11 x12 x13) g1 = some (.nod .tup D,g1) from rfl,consK_some,ev_nil,consJ_some,argsK_some,List.append_nil,dline_ok hD]
    rw [ev_asg,this]
    rfl
  let T:LS:=S (some (.str (rowT D))) x7 x8 x9 x10 x11 x12 x13
  have v5:aVar 5 T g1 = some (.nod .tup D,g1):=rfl
  have v6:aVar 6 T g1 = some (.str (rowT D),g1):=rfl
  have a5:(aIfS (aNot (aTst (aCall F__law_same [] (aCons (aArgs (mkF .lst) (aCons (aCall F_deed_row [] (aCons (aVar 5) aNil)) (aCons (aCall F_read_deed [] (aCons (aVar 6) aNil)) aNil))) (aCons (aArgs (mkF .lst) (aCons (aVar 6) (aCons (aVar 5) aNil))) aNil))))) (aRet (aC (.bl false))) aPass) T g1 = some (.nx T,g1):=by
    have p1:(aArgs (mkF .lst) (aCons (aCall F_deed_row [] (aCons (aVar 5) aNil)) (aCons (aCall F_read_deed [] (aCons (aVar 6) aNil)) aNil))) T g1 = some (.nod .lst [.str (rowT D),.nod .tup D],g1):=by
      rw [ev_args,ev_cons,ev_call,ev_cons,v5,consK_some,ev_nil,consJ_some,argsK_some,List.append_nil,drow_ok hD,consK_some,ev_cons,ev_call,ev_cons,v6,consK_some,ev_nil,consJ_some,argsK_some,List.append_nil,readP_ok (by omega) (read_row hD),consK_some,ev_nil,consJ_some,consJ_some,argsK_some,mkF_ok (sz _ (by simp))]
    have p2:(aArgs (mkF .lst) (aCons (aVar 6) (aCons (aVar 5) aNil))) T g1 = some (.nod .lst [.str (rowT D),.nod .tup D],g1):=by
      rw [ev_args,ev_cons,v6,consK_some,ev_cons,v5,consK_some,ev_nil,consJ_some,consJ_some,argsK_some,mkF_ok (sz _ (by simp))]
    rw [ev_if,ev_not,ev_tst,ev_call,ev_cons,p1,consK_some,ev_cons,p2,consK_some,ev_nil,consJ_some,consJ_some,argsK_some,List.append_nil,same_pair hD]
    rfl
  obtain ⟨d6,g6,hd6,e6,X6⟩:=X1.take 3 3
  have hlr:(rgI 0 d6).length = d6:=rgI_len
  obtain ⟨s2,g7,ec,qc⟩:=forL_ix (G:=[]) (g:=gNm 7) (B:=bnB) (xs:=rgI 0 d6)
    (fun i st g=>∃ r z7 z8 z9 z10 z11 z12,st = S (some (.str r)) z7 z8 z9 z10 z11 z12 x13 ∧ In g n ta ∧ r.length ≤ bd i) (fun _ _ _ _=>rfl)
    (fun i x st g hx q=>by
      obtain ⟨r,z7,z8,z9,z10,z11,z12,rfl,I,hr⟩:=q
      have hi:=(rgI_get hx).1
      obtain ⟨r',g',w8,w9,w10,w11,w12,e,I',hr'⟩:=bend_ok (a0:=a0) (x2:=x2) (x3:=y3) (x4:=y4) (x5:=some (.nod .tup D)) (x7:=some x) (x8:=z8) (x9:=z9) (x10:=z10) (x11:=z11) (x12:=z12) (x13:=x13) I (by omega) hr
      exact ⟨S (some (.str r)) (some x) z8 z9 z10 z11 z12 x13,g,_,g',_,rfl,e,.inl rfl,r',some x,w8,w9,w10,w11,w12,rfl,I',hr'⟩)
    (s:=T) (h:=g6) ⟨rowT D,x7,x8,x9,x10,x11,x12,rfl,X6,rl⟩
  obtain ⟨r,z7,z8,z9,z10,z11,z12,rfl,X7,hr⟩:=qc
  have hr:r.length ≤ 111:=Nat.le_trans hr bd_le
  have a6:(aFor (sRng1 (aCons (aCall F__law_take [] (aCons (aVar 1) (aCons (aC (.int 3)) aNil))) aNil)) (gNm 7) bnB) T g1 = some (.nx (S (some (.str r)) z7 z8 z9 z10 z11 z12 x13),g7):=by
    have p:(aCons (aCall F__law_take [] (aCons (aVar 1) (aCons (aC (.int 3)) aNil))) aNil) T g1 = some ([.int (d6:Nat)],g6):=by
      rw [ev_cons,take_e (s:=T) (j:=1) (k:=0) rfl e6]
      rfl
    have:rngK sm ((aCons (aCall F__law_take [] (aCons (aVar 1) (aCons (aC (.int 3)) aNil))) aNil) T g1) = some ((rgI 0 d6,[]),g6):=by
      rw [p]
      exact rngK_nat (by omega)
    rw [ev_for,ev_rng,this,forK_some]
    exact ec
  obtain ⟨g8,e8,k8⟩:=law_read (h:=g7) (r:=r) (by omega)
  have X8:=X7.kp0 k8
  let V:AV:=match readT r with
    | some D=>.nod .tup D
    | none=>.non
  have a7:(aAsg (aCall F__law_deed_read [] (aCons (aVar 6) aNil)) (gNm 13)) (S (some (.str r)) z7 z8 z9 z10 z11 z12 x13) g7 = some (.nx (S (some (.str r)) z7 z8 z9 z10 z11 z12 (some V)),g8):=by
    have:(aCall F__law_deed_read [] (aCons (aVar 6) aNil)) (S (some (.str r)) z7 z8 z9 z10 z11 z12 x13) g7 = some (V,g8):=by
      rw [ev_call,ev_cons,show aVar 6 (S (some (.str r)) z7 z8 z9 z10 z11 z12 x13) g7 = some (.str r,g7) from rfl,consK_some,ev_nil,consJ_some,argsK_some,List.append_nil,e8]
      all_goals rfl
    rw [ev_asg,this]
    rfl
  let U:LS:=S (some (.str r)) z7 z8 z9 z10 z11 z12 (some V)
  have a8:(aIfS (aNot (aTst (aCall F__law_same [] (aCons (aAsk 0 ta "law.<locals>.<lambda>" G__law_asked_row (xCall F_read_deedX (lfA (aCons (aVar 6) aNil)))) (aCons (aIf (aTst (aOp2 aIs (aVar 13) (aC .non))) (aArgs (mkF .tup) (aCons (aC (.str "BadRun")) (aCons (aC (.int 0)) aNil))) (aVar 13)) aNil))))) (aRet (aC (.bl false))) aPass) U g8 = some (.nx U,g8):=by
    have p1:=asked_ok (s:=U) (f:=aVar 6) (r:=r) X8.2.1 rfl (by omega)
    have v13:aVar 13 U g8 = some (V,g8):=rfl
    have p2:(aIf (aTst (aOp2 aIs (aVar 13) (aC .non))) (aArgs (mkF .tup) (aCons (aC (.str "BadRun")) (aCons (aC (.int 0)) aNil))) (aVar 13)) U g8 = some (outV r,g8):=by
      rw [ev_ife,ev_tst,ev_op2,v13,op2K_some,ev_c,op2J_some]
      have eV:(V = .non ∧ outV r = badV) ∨ ∃ D,V = .nod .tup D ∧ outV r = .nod .tup D:=by
        simp only [V,outV]
        cases readT r with
        | none=>exact .inl ⟨rfl,rfl⟩
        | some D=>exact .inr ⟨D,rfl,rfl⟩
      rcases eV with ⟨h1,h2⟩ | ⟨D,h1,h2⟩
      · rw [h1,h2]
        show (aArgs (mkF .tup) (aCons (aC (.str "BadRun")) (aCons (aC (.int 0)) aNil))) U g8 = _
        rw [ev_args,ev_cons,ev_c,consK_some,ev_cons,ev_c,consK_some,ev_nil,consJ_some,consJ_some,argsK_some,mkF_ok (sz _ (by simp))]
        rfl
      · rw [h1,h2]
        show aVar 13 U g8 = _
        rw [v13,h1]
    rw [ev_if,ev_not,ev_tst,ev_call,ev_cons]
    rw [show aAsk 0 ta "law.<locals>.<lambda>" G__law_asked_row (xCall F_read_deedX (lfA (aCons (aVar 6) aNil))) U g8 = some (outV r,g8) from p1,consK_some,ev_cons,p2,consK_some,ev_nil,consJ_some,consJ_some,argsK_some,List.append_nil,same_out (by omega)]
    rfl
  refine ⟨g8,y3,y4,some (.nod .tup D),some (.str r),z7,z8,z9,z10,z11,z12,some V,?_,X8⟩
  rw [tuB,eD]
  show aSeq _ _ (S x6 x7 x8 x9 x10 x11 x12 x13) g1 = _
  rw [seq_step a4]
  show aSeq _ _ T g1 = _
  rw [seq_step a5,seq_step a6,seq_step a7]
  exact a8
end
theorem empty_out:outV Str.empty = badV:=by
  have:readT Str.empty = none:=by decide +kernel
  unfold outV
  rw [this]
theorem law_run (ta:Addr) (ns:List Int) (h:AH) (ht:h.get 0 = some (.cod ta qL,[])):∃ h',F_law ta [.nod .scr (ns.map .int)] h = some (.bl true,h'):=by
  obtain ⟨z,oz,e1⟩:=hat_ok (h:=h) ns
  have H1:Hat (h.new z) h.next:=⟨z,new_own,oz⟩
  have l0:=AH.lt ht
  obtain ⟨n,hn⟩:∃ n,h.next = n:=⟨_,rfl⟩
  obtain ⟨g1,hg1⟩:∃ g1,h.new z = g1:=⟨_,rfl⟩
  rw [hn,hg1] at e1
  rw [hn,hg1] at H1
  rw [hn] at l0
  have t1:g1.get 0 = some (.cod ta qL,[]):=get_newo hg1 ht
  have X1:In g1 n ta:=⟨H1,t1,by omega⟩
  let a0:AV:=.nod .scr (ns.map .int)
  let Z0:LS:=[some a0,none,none,none,none,none,none,none,none,none,none,none,none,none]
  let Z1:LS:=lwS a0 n none none none none none none none none none none none none
  have a1:(aAsg (aCall F__law_hat [] (aCons (aVar 0) aNil)) (gNm 1)) Z0 h = some (.nx Z1,g1):=by
    have:aCall F__law_hat [] (aCons (aVar 0) aNil) Z0 h = some (.ref n,g1):=by
      rw [ev_call,ev_cons,show (aVar 0) Z0 h = some (a0,h) from rfl,consK_some,ev_nil,consJ_some,argsK_some,List.append_nil,e1]
    rw [ev_asg,this]
    rfl
  obtain ⟨s2,g2,ec,qc⟩:=forL_ix (G:=[]) (g:=gNm 2) (B:=tuB ta) (xs:=rgI 0 8)
    (fun _ st g=>∃ z2 z3 z4 z5 z6 z7 z8 z9 z10 z11 z12 z13,st = lwS a0 n z2 z3 z4 z5 z6 z7 z8 z9 z10 z11 z12 z13 ∧ In g n ta) (fun _ _ _ _=>rfl)
    (fun i x st g hx q=>by
      obtain ⟨z2,z3,z4,z5,z6,z7,z8,z9,z10,z11,z12,z13,rfl,I⟩:=q
      obtain ⟨g',y3,y4,y5,y6,y7,y8,y9,y10,y11,y12,y13,e,I'⟩:=turn_ok (a0:=a0) (x2:=some x) (x3:=z3) (x4:=z4) (x5:=z5) (x6:=z6) (x7:=z7) (x8:=z8) (x9:=z9) (x10:=z10) (x11:=z11) (x12:=z12) (x13:=z13) I
      exact ⟨lwS a0 n (some x) z3 z4 z5 z6 z7 z8 z9 z10 z11 z12 z13,g,_,g',_,rfl,e,.inl rfl,some x,y3,y4,y5,y6,y7,y8,y9,y10,y11,y12,y13,rfl,I'⟩)
    (s:=Z1) (h:=g1) ⟨_,_,_,_,_,_,_,_,_,_,_,_,rfl,X1⟩
  obtain ⟨z2,z3,z4,z5,z6,z7,z8,z9,z10,z11,z12,z13,rfl,X2⟩:=qc
  let Z2:LS:=lwS a0 n z2 z3 z4 z5 z6 z7 z8 z9 z10 z11 z12 z13
  have a2:(aFor (sRng1 (aCons (aC (.int 8)) aNil)) (gNm 2) (tuB ta)) Z1 g1 = some (.nx Z2,g2):=by
    have:rngK sm ((aCons (aC (.int 8)) aNil) Z1 g1) = some ((rgI 0 8,[]),g1):=rngK_nat (j:=8) (by omega)
    rw [ev_for,ev_rng,this,forK_some]
    exact ec
  refine ⟨g2,?_⟩
  simp only [F_law]
  rw [ev_fn (by rfl)]
  show fnK (B_law ta Z0 h) = _
  have a3:(aRet (aOp2 aEq (aAsk 0 ta "law.<locals>.<lambda>" G__law_asked_row (xCall F_read_deedX (lfA (aCons (aC (.str "")) aNil)))) (aArgs (mkF .tup) (aCons (aC (.str "BadRun")) (aCons (aC (.int 0)) aNil))))) Z2 g2 = some (.rt (.bl true),g2):=by
    have p1:=asked_ok (s:=Z2) (f:=aC (.str "")) (r:=Str.empty) X2.2.1 (by rw [ev_c]; rfl) (by decide)
    rw [empty_out] at p1
    have p2:(aArgs (mkF .tup) (aCons (aC (.str "BadRun")) (aCons (aC (.int 0)) aNil))) Z2 g2 = some (badV,g2):=by
      rw [ev_args,ev_cons,ev_c,consK_some,ev_cons,ev_c,consK_some,ev_nil,consJ_some,consJ_some,argsK_some,mkF_ok (sz _ (by simp))]
      rfl
    have p3:aEq badV badV g2 = some (.bl true,g2):=by
      simp [badV,aEq,nrm,isD,isDs,toD,toDs,PyData.eqv,PyData.eqvAll]
    rw [ev_ret,ev_op2]
    rw [show aAsk 0 ta "law.<locals>.<lambda>" G__law_asked_row (xCall F_read_deedX (lfA (aCons (aC (.str "")) aNil))) Z2 g2 = some (badV,g2) from p1,op2K_some,p2,op2J_some,p3]
    rfl
  have hB:B_law ta = aSeq (aAsg (aCall F__law_hat [] (aCons (aVar 0) aNil)) (gNm 1)) (aSeq (aFor (sRng1 (aCons (aC (.int 8)) aNil)) (gNm 2) (tuB ta)) (aRet (aOp2 aEq (aAsk 0 ta "law.<locals>.<lambda>" G__law_asked_row (xCall F_read_deedX (lfA (aCons (aC (.str "")) aNil)))) (aArgs (mkF .tup) (aCons (aC (.str "BadRun")) (aCons (aC (.int 0)) aNil)))))):=rfl
  rw [hB,seq_step a1,seq_step a2,a3]
  rfl
theorem law_true (ta:Addr) (ns:List Int):∃ h',F_law ta [.nod .scr (ns.map .int)] ⟨fun n=>if n = 0 then some (.cod ta "law.<locals>.<lambda>",[]) else none,1,fun n hn=>if_neg (by omega)⟩ = some (.bl true,h'):=law_run ta ns _ rfl
end K55
end
section
namespace K55
open PySem PySem.Spec PyProof.Rows L2 Rp
def caK (K:PySem.W.Frag):Nat → Addr
  | 100=>He.ga K "BadRun"
  | 80=>He.ma K (He.ga K "BadRun") "__init__"
  | 98=>He.ga K "RideError"
  | _=>0
theorem gv {P:Program} {w:World} {K:PySem.W.Frag} {h:Heap} {mg:Str → Option Value} (X:K.In h) (G:h.Ns mainGlobals mg) (c:He.SaysX fa fn ts [] exB w h K):Gv P w K mg (caK K):=by
  have hex:∀ x ∈ exL K,id x = true:=List.all_eq_true.mp c.more
  exact {
    b_all:=He.free_ok X G (c.t.d.fact 0 (f:=.free "all") rfl)
    b_bool:=He.free_ok X G (c.t.d.fact 1 (f:=.free "bool") rfl)
    b_int:=He.free_ok X G (c.t.d.fact 2 (f:=.free "int") rfl)
    b_isinstance:=He.free_ok X G (c.t.d.fact 3 (f:=.free "isinstance") rfl)
    b_len:=He.free_ok X G (c.t.d.fact 4 (f:=.free "len") rfl)
    b_list:=He.free_ok X G (c.t.d.fact 5 (f:=.free "list") rfl)
    b_range:=He.free_ok X G (c.t.d.fact 6 (f:=.free "range") rfl)
    b_str:=He.free_ok X G (c.t.d.fact 7 (f:=.free "str") rfl)
    b_tuple:=He.free_ok X G (c.t.d.fact 8 (f:=.free "tuple") rfl)
    b_zip:=He.free_ok X G (c.t.d.fact 9 (f:=.free "zip") rfl)
    v_FIGURES:=glob_str X G (c.t.d.fact 10 (f:=.str "FIGURES" "0123456789") rfl)
    v_FORMS:=glob_tab (kvs:=[("on",.str "n"),("off",.str "t"),("step",.str "t"),("answer",.str "tn"),("carriers",.str "n")]) X G (c.t.d.fact 11 (f:=.glo "FORMS") rfl) (c.t.tab 0 (t:=(fun K=>He.ga K "FORMS",["on", "off", "step", "answer", "carriers"])) rfl) ((hex _ (List.mem_of_getElem? (i:=0) rfl))) (by decide)
    xn0:=(let q:=xvB_ok ((hex _ (List.mem_of_getElem? (i:=1) rfl))); ⟨He.glo_ok X G (c.t.d.fact 12 (f:=.glo "BadRun") rfl),q.1,q.2.1,q.2.2.1,q.2.2.2.1,q.2.2.2.2⟩)
    xvi0:=c.t.d.def_ 0 (d:=d0) rfl
    xve:=(let q:=clsBfB_ok ((hex _ (List.mem_of_getElem? (i:=2) rfl))); ⟨He.glo_ok X G (c.t.d.fact 13 (f:=.glo "RideError") rfl),q.1,q.2⟩)
    my_BadRun:=He.glo_ok X G (c.t.d.fact 12 (f:=.glo "BadRun") rfl)
    hx_BadRun:=by
      intro c_ hc_
      rcases (by omega:c_ = 0) with rfl
      · exact He.exm_ok (c.t.d.fact 14 (f:=.exm "BadRun" "BadRun" true) rfl)
    d__law_hat:=(let ⟨fd,q⟩:=c.t.d.def_ 1 (d:=d1) rfl; ⟨_,fd,He.glo_ok X G (c.t.d.fact 15 (f:=.glo "_law_hat") rfl),q⟩)
    d__law_take:=(let ⟨fd,q⟩:=c.t.d.def_ 2 (d:=d2) rfl; ⟨_,fd,He.glo_ok X G (c.t.d.fact 16 (f:=.glo "_law_take") rfl),q⟩)
    d__law_names:=(let ⟨fd,q⟩:=c.t.d.def_ 3 (d:=d3) rfl; ⟨_,fd,He.glo_ok X G (c.t.d.fact 17 (f:=.glo "_law_names") rfl),q⟩)
    d__law_of:=(let ⟨fd,q⟩:=c.t.d.def_ 4 (d:=d4) rfl; ⟨_,fd,He.glo_ok X G (c.t.d.fact 18 (f:=.glo "_law_of") rfl),q⟩)
    d__law_deed_line:=(let ⟨fd,q⟩:=c.t.d.def_ 5 (d:=d5) rfl; ⟨_,fd,He.glo_ok X G (c.t.d.fact 19 (f:=.glo "_law_deed_line") rfl),q⟩)
    d_figure:=(let ⟨fd,q⟩:=c.t.d.def_ 6 (d:=d6) rfl; ⟨_,fd,He.glo_ok X G (c.t.d.fact 20 (f:=.glo "figure") rfl),q⟩)
    d_thing_of:=(let ⟨fd,q⟩:=c.t.d.def_ 7 (d:=d7) rfl; ⟨_,fd,He.glo_ok X G (c.t.d.fact 21 (f:=.glo "thing_of") rfl),q⟩)
    d_read_deed:=(let ⟨fd,q⟩:=c.t.d.def_ 8 (d:=d8) rfl; ⟨_,fd,He.glo_ok X G (c.t.d.fact 22 (f:=.glo "read_deed") rfl),q⟩)
    d_deed_row:=(let ⟨fd,q⟩:=c.t.d.def_ 9 (d:=d9) rfl; ⟨_,fd,He.glo_ok X G (c.t.d.fact 23 (f:=.glo "deed_row") rfl),q⟩)
    d__law_same:=(let ⟨fd,q⟩:=c.t.d.def_ 10 (d:=d10) rfl; ⟨_,fd,He.glo_ok X G (c.t.d.fact 24 (f:=.glo "_law_same") rfl),q⟩)
    d__law_deed_read:=(let ⟨fd,q⟩:=c.t.d.def_ 11 (d:=d11) rfl; ⟨_,fd,He.glo_ok X G (c.t.d.fact 25 (f:=.glo "_law_deed_read") rfl),q⟩)
    d_read_deedX:=(let ⟨fd,q⟩:=c.t.d.def_ 12 (d:=d12) rfl; ⟨_,fd,He.glo_ok X G (c.t.d.fact 22 (f:=.glo "read_deed") rfl),q⟩)
    d__law_asked_row:=(let ⟨fd,q⟩:=c.t.d.def_ 13 (d:=d13) rfl; ⟨_,fd,He.glo_ok X G (c.t.d.fact 26 (f:=.glo "_law_asked_row") rfl),q⟩)
    d_law:=(let ⟨fd,q⟩:=c.t.d.def_ 14 (d:=d14) rfl; ⟨_,fd,He.glo_ok X G (c.t.d.fact 27 (f:=.glo "law") rfl),q⟩)
  }
end K55
open PySem PySem.W PySem.Calls PyProof.Rows
theorem PySem.Challenge.cw_ridepool_k55_deeds_as_rows_holds : PySem.Challenge.rw_ridepool_k55_deeds_as_rows.Holds := by
  refine K55.early ?hc
  case hc =>
    refine Rp.walk_lam (l:=PySem.Challenge.rw_ridepool_k55_deeds_as_rows) (n:=63) (k:=41) (x := "_law_script") (d0:=HandSHeadRun.topDef (OpenLaw.row PySem.Challenge.rw_ridepool_k55_deeds_as_rows).prog 19) rfl (by decide) (by kernel_rfl) ⟨rfl,by decide,by decide⟩ (by kernel_rfl) ?_
    intro w mg fa h Y G hmg0
    obtain ⟨K,KX,c⟩:=Y
    have hmg:mg ("law" : PySem.Str) = some (.ref fa):=by
      have e:(HandSHeadRun.topDef (OpenLaw.row PySem.Challenge.rw_ridepool_k55_deeds_as_rows).prog 19).name = ("law" : PySem.Str):=by kernel_rfl
      rw [← e]
      exact hmg0
    have g:=K55.gv (P:=(PySem.Challenge.rw_ridepool_k55_deeds_as_rows).prog) (w:=w) KX G c
    obtain ⟨f,fd,hm,F⟩:=g.d_law
    have ef:=hmg.symm.trans hm
    cases ef
    have b:=L2.FunD.bindsA (ps:=["_law_script"]) F fun _ _ _ _ _ _ us hl=>match us,hl with | [_],_=>rfl
    obtain ⟨lc,ta,ht,hP⟩:=Rp.lamB_ok (List.all_eq_true.mp c.more _ (List.mem_of_getElem? (i:=3) rfl))
    have hfc:fd.code = .ref lc:=by
      obtain ⟨oc,od,dV,kV,doc,pm,an,cdv,ct,osl,e0,lk,_⟩:=F.ex
      exact PySem.W.law_code KX G ht hmg (KX _ _ lk) rfl
    have ht2:PySem.W.tabIn K (HandSHeadRun.topDef (OpenLaw.row PySem.Challenge.rw_ridepool_k55_deeds_as_rows).prog 19).name = some (lc,ta):=by
      have e:(HandSHeadRun.topDef (OpenLaw.row PySem.Challenge.rw_ridepool_k55_deeds_as_rows).prog 19).name = ("law" : PySem.Str):=by kernel_rfl
      rw [e]
      exact ht
    exact ⟨K,fd,_,lc,ta,KX,ht2,hP,fun s v=>b s [v] rfl,fun H a ns hl hT hS=>(let ⟨h',e⟩:=K55.law_true ta ns; Rp.law_spT (K:=K) (w:=w) (mg:=mg) (cl:=K55.cl) (E:=L2.E0) hT hS e (fun _=>rfl)),fun base _ _ TB=>K55.ok_law (base:=base) g F hfc TB⟩
end
