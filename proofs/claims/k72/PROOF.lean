import PyProof.Rows.All
import Wide.All
import OpenK.AllK
import Wide.FinOn
import HandS.ForMost
import HandS.Exc
import HandS.ExcOwn
import HandS.WordsExc
import HandS.Defaults
import HandS.Flow
import HandS.Deep
import HandS.IsInst
import HandS.Lambda
import HandS.HeadHook1
import HandS.HeadHook2
import HandS.TupAny
import HandS.Style
import HandS.Wide
import HandS.NoneIn
import KE.GoesEnum
import HandS.ExcInit
import HandS.Comp
import HandS.EndBits
import HandS.Ends
import HandS.HeadEnd
import HandS.Head0
import HandS.Head1
import HandS.Head2
import KE.KRevSl
import HandS.OwnEq
import HandS.More
import PyProof.InstNe
import HandS.TryOnly
import HandS.TryElse
import HandS.ExcField
import KE.KExcIs
import HandS.Zip
import HandS.Conv
import HandS.Strs
import KE.GoesMore
import HandS.Text
import HandS.FStr
import HandS.Star
import HandS.TupMul
import PyProof.StrBlock2
import HandS.HeadHook3
import HandS.SetKeys
import HandS.DictComp
import PyProof.DictMoreH
import PyProof.DictCompW
import PyProof.WalkInts
import HandS.SortKw
import KE.SortData
import KE.KSlice
import HandS.SetFor
import KE.DataFind
import HandS.TupLen
import HandS.HeadHook4
import HandS.GenCall
import HandS.GenList
import HandS.SetBool
import KE.GoesZip
import KE.KStar
import HandS.OwnIter
import HandS.IterVal
import HandS.DictSub
import OpenK.KMeth
import KE.SortKeyHeap
import KE.KSortKey
import KE.GoesRaise
import HandS.MakeKwOnly
import KE.KDictWalk
import PyProof.NeKinds
import KE.KDictDisplayH
import KE.KDictCopyH
import PyProof.Rows.RegFStrParts
import PyProof.ReprBulk
import PyProof.Rows.RegStrFacts
import PyProof.Rows.ReprOcc
import PyProof.Rows.SortStrRead
import PySem.Challenge.RW_earlyorlate_k72_shifts_of_kinds
set_option Elab.async false
set_option linter.all false
set_option maxRecDepth 100000
set_option maxHeartbeats 0
theorem Ya {α : Type _} {a : α} {l : List α} : a ∈ a :: l:=List.mem_cons_self
theorem Yb {α : Type _} (y : α) {a : α} {l : List α} : a ∈ l → a ∈ y :: l:=List.mem_cons_of_mem y
theorem Yc {α : Type _} {a b : α} {l : List α} : a ∈ b :: l ↔ a = b ∨ a ∈ l:=List.mem_cons
theorem Yd {α : Type _} {a : α} {s t : List α} : a ∈ s ++ t ↔ a ∈ s ∨ a ∈ t:=List.mem_append
theorem Ye {α β : Type _} {b : β} {f : α → β} {l : List α} : b ∈ l.map f ↔ ∃ a,a ∈ l ∧ f a = b:=List.mem_map
theorem Yg {α : Type _} {a b : α} : a ∈ [b] ↔ a = b:=List.mem_singleton
theorem Yh {α : Type _} {as bs : List α} : (as ++ bs).length = as.length + bs.length:=List.length_append
theorem Yi {α β : Type _} {as : List α} (f : α → β) : (as.map f).length = as.length:=List.length_map f
theorem Yj {c : Prop} {h : Decidable c} (hc : c) {α : Sort _} {t e : α} : (ite c t e) = t:=if_pos hc
theorem Yk {c : Prop} {h : Decidable c} (hnc : ¬c) {α : Sort _} {t e : α} : (ite c t e) = e:=if_neg hnc
theorem Ym {α : Type _} {l : List α} {i : Nat} (h : i < l.length) : l[i]? = some l[i]:=List.getElem?_eq_getElem h
theorem Yn {α : Type _} {a : α} {l : List α} {i : Nat} : l[i]? = some a ↔ ∃ h : i < l.length,l[i] = a:=List.getElem?_eq_some_iff
theorem Yp {p : Prop} [inst : Decidable p] : p → decide p = true:=decide_eq_true
theorem Yq {p : Prop} [inst : Decidable p] : decide p = true → p:=of_decide_eq_true
theorem Yr {α : Type _} {a : α} : [a].length = 1:=rfl
theorem Ys {n : Nat} : (List.range n).length = n:=List.length_range
theorem Yt {α : Type _} (as bs cs : List α) : as ++ bs ++ cs = as ++ (bs ++ cs):=List.append_assoc as bs cs
section
local macro_rules | `(tactic| trivial) => `(tactic| first | exact Or.inl rfl | exact Or.inr rfl)
namespace Dl
open PySem PySem.Spec PyProof.Rows L2
abbrev KF:=PySem.W.Frag
inductive D where
 | non | bl (b : Bool) | int (i : Int) | str (x : Str)
 | lst (xs : List D) | tup (xs : List D)
 | dct (ks vs : List D)
 | ins (c : Str) (ns : List Str) (vs : List D)
 | ty (n : String) | cl (c : Str) | frl (ns : List Int)
 | ldc (ks vs : List D)
def kD : Key → D
 | .inl i => .int i
 | .inr x => .str x
def LdE (o : Obj) (kvs : List (V × V)) : Prop:=o.ExactDict ∧ ∃ (es : Array DictEntry) (ep : Nat),o.data = .dict es ep ∧ Paired (fun p e => RelV p.1 e.key ∧ RelV p.2 e.val) kvs es.toList
mutual
inductive Rep (K : KF) (F : Hp) : V → D → Prop
 | non : Rep K F .non .non
 | bl (b : Bool) : Rep K F (.bl b) (.bl b)
 | int (i : Int) : Rep K F (.int i) (.int i)
 | str (x : Str) : Rep K F (.str x) (.str x)
 | ty (n : String) : Rep K F (.ty n) (.ty n)
 | cl (c : Str) : Rep K F (.ref (He.ga K c)) (.cl c)
 | frl {a : Addr} {ns : List Int} : SqL K F a (ns.map V.int) → ns.length ≤ sizeLine → Rep K F (.ref a) (.frl ns)
 | lst {a : Addr} {vs : List V} {ds : List D} : F a = some (.lst vs) → ds.length ≤ sizeLine → RepL K F vs ds → Rep K F (.ref a) (.lst ds)
 | tup {a : Addr} {vs : List V} {ds : List D} : SqT K F a vs → ds.length ≤ sizeLine → RepL K F vs ds → Rep K F (.ref a) (.tup ds)
 | ins {a C dx : Addr} {fs : List (Str × V)} {c : Str} {ns : List Str} {ds : List D} : F a = some (.ins C dx fs) → C = He.ga K c → fs.map (·.1) = ns → RepL K F (fs.map (·.2)) ds → Rep K F (.ref a) (.ins c ns ds)
 | dk {a : Addr} {o : Obj} {kvs : List (Key × V)} {ks ds : List D} : F a = some (.frz o (.dK kvs)) → kvs.map (fun p => kD p.1) = ks → RepL K F (kvs.map (·.2)) ds → Rep K F (.ref a) (.dct ks ds)
 | dt {a : Addr} {o : Obj} {kvs : List (List Key × V)} {ks ds : List D} : F a = some (.frz o (.dT kvs)) → kvs.map (fun p => D.tup (p.1.map kD)) = ks → RepL K F (kvs.map (·.2)) ds → Rep K F (.ref a) (.dct ks ds)
 | ld {a : Addr} {o : Obj} {u : HO} {kvs : List (V × V)} {ks ds : List D} : F a = some (.frz o u) → (a == sysModules) = false → LdE o kvs → RepL K F (kvs.map (·.1)) ks → RepL K F (kvs.map (·.2)) ds → Rep K F (.ref a) (.ldc ks ds)
inductive RepL (K : KF) (F : Hp) : List V → List D → Prop
 | nil : RepL K F [] []
 | cons {v : V} {vs : List V} {d : D} {ds : List D} : Rep K F v d → RepL K F vs ds → RepL K F (v :: vs) (d :: ds)
end
theorem Z5S {F F' : Hp} {a : Addr} {u : HO} (e : Same F F') (h : Rd F a u) : Rd F' a u:=by
 rcases h with h | ⟨o,h⟩
 · exact .inl (e _ _ h)
 · exact .inr ⟨o,e _ _ h⟩
theorem ZZc {K : KF} {F F' : Hp} {a : Addr} {xs : List V} (e : Same F F') (h : SqT K F a xs) : SqT K F' a xs:=by
 rcases h with h | h
 · exact .inl (Z5S e h)
 · exact .inr h
theorem Z6T {K : KF} {F F' : Hp} {a : Addr} {xs : List V} (e : Same F F') (h : SqL K F a xs) : SqL K F' a xs:=by
 rcases h with h | h
 · exact .inl (Z5S e h)
 · exact .inr h
mutual
theorem Rep.mono {K : KF} {F F' : Hp} (e : Same F F') : ∀ {v : V} (d : D),Rep K F v d → Rep K F' v d
 | _,.non,h => by cases h;exact .non
 | _,.bl b,h => by cases h;exact .bl b
 | _,.int i,h => by cases h;exact .int i
 | _,.str x,h => by cases h;exact .str x
 | _,.ty n,h => by cases h;exact .ty n
 | _,.cl c,h => by cases h;exact .cl c
 | _,.frl ns,h => by
  cases h with
  | frl s z => exact .frl (Z6T e s) z
 | _,.lst ds,h => by
  cases h with
  | lst s z r => exact .lst (e _ _ s) z (RepL.mono e ds r)
 | _,.tup ds,h => by
  cases h with
  | tup s z r => exact .tup (ZZc e s) z (RepL.mono e ds r)
 | _,.dct ks ds,h => by
  cases h with
  | dk s k r => exact .dk (e _ _ s) k (RepL.mono e ds r)
  | dt s k r => exact .dt (e _ _ s) k (RepL.mono e ds r)
 | _,.ldc ks ds,h => by
  cases h with
  | ld s g k q r => exact .ld (e _ _ s) g k (RepL.mono e ks q) (RepL.mono e ds r)
 | _,.ins c ns ds,h => by
  cases h with
  | ins s k n r => exact .ins (e _ _ s) k n (RepL.mono e ds r)
theorem RepL.mono {K : KF} {F F' : Hp} (e : Same F F') : ∀ {vs : List V} (ds : List D),RepL K F vs ds → RepL K F' vs ds
 | _,[],h => by cases h;exact .nil
 | _,d :: ds,h => by
  cases h with
  | cons h1 h2 => exact .cons (Rep.mono e d h1) (RepL.mono e ds h2)
end
def NoFz (F' : Hp) : Prop:=∀ a o u,F' a = some (.frz o u) → ∀ xs,u ≠ .tup xs
theorem RepL.length {K : KF} {F : Hp} : ∀ {vs : List V} {ds : List D},RepL K F vs ds → vs.length = ds.length
 | [],_,h => by cases h;rfl
 | v :: vs,_,h => by
  cases h with
  | cons _ r => rw [List.length_cons,List.length_cons,r.length]
theorem RepL.getV {K : KF} {F : Hp} : ∀ {vs : List V} {ds : List D} {i : Nat} {v : V},RepL K F vs ds → vs[i]? = some v → ∃ d,ds[i]? = some d ∧ Rep K F v d
 | [],_,i,d,h,e => by simp at e
 | v :: vs,_,0,d,h,e => by
  cases h with
  | cons h1 _ => simp at e;subst e;exact ⟨_,rfl,h1⟩
 | v :: vs,_,i + 1,d,h,e => by
  cases h with
  | cons _ h2 =>
   obtain ⟨u,e1,e2⟩:=RepL.getV (i:=i) h2 (by simpa using e);exact ⟨u,by simpa using e1,e2⟩
theorem RepL.set {K : KF} {F : Hp} {v : V} {d : D} (r : Rep K F v d) : ∀ {vs : List V} {ds : List D} (i : Nat),RepL K F vs ds → RepL K F (vs.set i v) (ds.set i d)
 | [],_,_,h => by cases h;exact .nil
 | w :: vs,_,0,h => by
  cases h with
  | cons _ h2 => exact .cons r h2
 | w :: vs,_,i + 1,h => by
  cases h with
  | cons h1 h2 => exact .cons h1 (h2.set r i)
inductive Ow where
 | sh | l (t : Ow) | d (b : Bool) (t : Ow) | o | m (t : Ow) | r (bs : List Bool) | g
deriving DecidableEq
abbrev Lab:=List Nat
abbrev Wm:=Addr → Option Lab
def OwnB (K : KF) (F H : Hp) (W : Wm) : Bool → Lab → V → D → Prop
 | true,lab,v,d => ∃ (p : Addr) (ws : List V) (es : List D),v = .ref p ∧ d = .lst es ∧ W p = some lab ∧ H p = some (.lst ws) ∧ es.length ≤ sizeLine ∧ RepL K F ws es
 | false,_,v,d => Rep K F v d
def DOb : Bool → Hp → Addr → List D → List V → Prop
 | true,H,o,ks,vs => ∃ kvs : List (List Key × V),H o = some (.dT kvs) ∧ kvs.map (fun p => D.tup (p.1.map kD)) = ks ∧ kvs.map (·.2) = vs
 | false,H,o,ks,vs => ∃ kvs : List (Key × V),H o = some (.dK kvs) ∧ kvs.map (fun p => kD p.1) = ks ∧ kvs.map (·.2) = vs
theorem DOb.keep {H H' : Hp} {o : Addr} {ks : List D} {vs : List V} (h : ∀ u,H o = some u → H' o = some u) : ∀ {b : Bool},DOb b H o ks vs → DOb b H' o ks vs
 | true,⟨kvs,e,q⟩ => ⟨kvs,h _ e,q⟩
 | false,⟨kvs,e,q⟩ => ⟨kvs,h _ e,q⟩
def OwnG (K : KF) (F H : Hp) (W : Wm) (lab : Lab) (v : V) (d : D) : Prop:=∃ (a : Addr) (ws : List V) (es : List D),v = .ref a ∧ d = .tup es ∧ SqT K F a ws ∧ es.length ≤ sizeLine ∧ ws.length = es.length ∧
 ∀ (i : Nat) (w : V) (e : D),ws[i]? = some w → es[i]? = some e → OwnB K F H W (decide (0 < i)) (lab ++ [i]) w e
def Jm (K : KF) (F H : Hp) (W : Wm) : Ow → Lab → V → D → Prop
 | .sh,_,v,d => Rep K F v d
 | .g,lab,v,d => ∃ (o : Addr) (vs : List V) (ds : List D),v = .ref o ∧ d = .lst ds ∧ W o = some lab ∧ H o = some (.lst vs) ∧ ds.length ≤ sizeLine ∧ vs.length = ds.length ∧
     ∀ (j : Nat) (v' : V) (d' : D),vs[j]? = some v' → ds[j]? = some d' → OwnG K F H W (lab ++ [j]) v' d'
 | .l t,lab,v,d => ∃ (o : Addr) (vs : List V) (ds : List D),v = .ref o ∧ d = .lst ds ∧ W o = some lab ∧ H o = some (.lst vs) ∧ ds.length ≤ sizeLine ∧ vs.length = ds.length ∧
     ∀ (j : Nat) (v' : V) (d' : D),vs[j]? = some v' → ds[j]? = some d' → Jm K F H W t (lab ++ [j]) v' d'
 | .d b t,lab,v,d => ∃ (o : Addr) (vs : List V) (ks ds : List D),v = .ref o ∧ d = .dct ks ds ∧ W o = some lab ∧ DOb b H o ks vs ∧ vs.length = ds.length ∧
     ∀ (j : Nat) (v' : V) (d' : D),vs[j]? = some v' → ds[j]? = some d' → Jm K F H W t (lab ++ [j]) v' d'
 | .m t,lab,v,d => (∃ (o : Addr) (vs : List V) (ds : List D),v = .ref o ∧ d = .lst ds ∧ W o = some lab ∧ H o = some (.lst vs) ∧ ds.length ≤ sizeLine ∧ vs.length = ds.length ∧
     ∀ (j : Nat) (v' : V) (d' : D),vs[j]? = some v' → ds[j]? = some d' → Jm K F H W t (lab ++ [j]) v' d') ∨ ((∀ ds,d ≠ .lst ds) ∧ Rep K F v d)
 | .r bs,lab,v,d => ∃ (o : Addr) (vs : List V) (ds : List D),v = .ref o ∧ d = .lst ds ∧ W o = some lab ∧ H o = some (.lst vs) ∧ ds.length ≤ sizeLine ∧ vs.length = ds.length ∧ bs.length = ds.length ∧
     ∀ (j : Nat) (v' : V) (d' : D) (t : Bool),vs[j]? = some v' → ds[j]? = some d' → bs[j]? = some t → OwnB K F H W t (lab ++ [j]) v' d'
 | .o,lab,v,d => ∃ (x C dx : Addr) (fs : List (Str × V)) (c : Str) (ns : List Str) (ds : List D),v = .ref x ∧ d = .ins c ns ds ∧ W x = some lab ∧ H x = some (.ins C dx fs) ∧ C = He.ga K c ∧ fs.map (·.1) = ns ∧ fs.length ≤ 100 ∧ RepL K F (fs.map (·.2)) ds
def Z6w : HO → Bool
 | .tup _ => true
 | _ => false
class Tbs where
 n : Addr → Option Str
instance (priority:=low) tbs0 : Tbs:=⟨fun _ => none⟩
section
variable [Tbs]
def TabW (F H : Hp) (W : Wm) (P : Addr) (q : Str) : Prop:=F P = none ∧ W P = none ∧ ∃ ps : Array Value,H P = some (.tbl ps) ∧ (TriplesOk ps.toList ∧ Tbs.n P = some q) ∧ ∀ (pos : Pos) (cv : Value),codeAmong pos ps.toList = some cv → ∃ c,cv = .ref c ∧ W c = none ∧ H c = some (LamX.CodeO c q)
def TCo (o : HO) : Prop:=(∃ ps,o = .tbl ps) ∨ ∃ c q,o = LamX.CodeO c q
theorem TabW.of {F F' H H' : Hp} {W W' : Wm} {P : Addr} {q : Str} (t : TabW F H W P q) (hF : F' P = none) (hW : ∀ a o,W a = none → H a = some o → W' a = none) (hH : ∀ a o,H a = some o → W a = none → TCo o → H' a = some o) : TabW F' H' W' P q:=by
 obtain ⟨h1,h2,ps,h3,h4,h5⟩:=t;refine ⟨hF,hW _ _ h2 h3,ps,hH _ _ h3 h2 (.inl ⟨ps,rfl⟩),h4,fun pos cv e => ?_⟩;obtain ⟨c,e1,e2,e3⟩:=h5 pos cv e;exact ⟨c,e1,hW _ _ e2 e3,hH _ _ e3 e2 (.inr ⟨c,q,rfl⟩)⟩
structure Stp (F : Hp) (W : Wm) (H F' : Hp) (W' : Wm) (H' : Hp) : Prop where
 fx : Same F F'
 fn : ∀ a o,F' a = some o → Z6w o = false → F a = some o ∨ H a = none
 wx : ∀ a l,W a = some l → W' a = some l
 wn : ∀ a l,W' a = some l → W a = some l ∨ H a = none
 hx : ∀ a o,H a = some o → W a = none → (∀ ps,o ≠ .tbl ps) → H' a = some o
 hd : ∀ a o,H a = some o → ∃ o',H' a = some o'
 fk : ∀ a o,F a = some o → H a = some o → H' a = some o
 tb : ∀ P q,TabW F H W P q → TabW F' H' W' P q
theorem Z9e {W W' : Wm} {H : Hp} (wn : ∀ a l,W' a = some l → W a = some l ∨ H a = none) : ∀ a o,W a = none → H a = some o → W' a = none:=fun a o h1 h2 => by
 cases q : W' a with
 | none => rfl
 | some l =>
  rcases wn a l q with z | z
  · rw [h1] at z;cases z
  · rw [h2] at z;cases z
theorem Stp.mk6 {F : Hp} {W : Wm} {H F' : Hp} {W' : Wm} {H' : Hp} (fx : Same F F') (fn : ∀ a o,F' a = some o → Z6w o = false → F a = some o ∨ H a = none) (wx : ∀ a l,W a = some l → W' a = some l) (wn : ∀ a l,W' a = some l → W a = some l ∨ H a = none) (hx : ∀ a o,H a = some o → W a = none → H' a = some o)
    (hd : ∀ a o,H a = some o → ∃ o',H' a = some o') (fk : ∀ a o,F a = some o → H a = some o → H' a = some o) (ft : ∀ P,F P = none → (∃ ps,H P = some (.tbl ps)) → W P = none → F' P = none) : Stp F W H F' W' H' where
 fx:=fx
 fn:=fn
 wx:=wx
 wn:=wn
 hx:=fun a o h n _ => hx a o h n
 hd:=hd
 fk:=fk
 tb:=fun P q t => t.of (ft P t.1 ⟨_,t.2.2.choose_spec.1⟩ t.2.1) (Z9e wn) fun a o h n _ => hx a o h n
theorem Stp.refl (F : Hp) (W : Wm) (H : Hp) : Stp F W H F W H:=.mk6 (Same.refl F) (fun _ _ h _ => .inl h) (fun _ _ h => h) (fun _ _ h => .inl h) (fun _ _ h _ => h) (fun _ o h => ⟨o,h⟩) (fun _ _ _ h => h) fun _ h _ _ => h
theorem Stp.back {F : Hp} {W : Wm} {H F' : Hp} {W' : Wm} {H' : Hp} (s : Stp F W H F' W' H') {a : Addr} (h : H' a = none) : H a = none:=by
 cases q : H a with
 | none => rfl
 | some o =>
  obtain ⟨o',e⟩:=s.hd a o q;rw [h] at e;cases e
theorem Stp.trans {F F1 F2 : Hp} {W W1 W2 : Wm} {H H1 H2 : Hp} (a : Stp F W H F1 W1 H1) (b : Stp F1 W1 H1 F2 W2 H2) : Stp F W H F2 W2 H2 where
 fx:=a.fx.trans b.fx
 fn:=fun x o h n => by
  rcases b.fn x o h n with h | h
  · exact a.fn x o h n
  · exact .inr (a.back h)
 wx:=fun x l h => b.wx x l (a.wx x l h)
 wn:=fun x l h => by
  rcases b.wn x l h with h | h
  · exact a.wn x l h
  · exact .inr (a.back h)
 hx:=fun x o h n t => b.hx x o (a.hx x o h n t) (Z9e a.wn x o n h) t
 hd:=fun x o h => by
  obtain ⟨o1,e1⟩:=a.hd x o h;exact b.hd x o1 e1
 fk:=fun x o f h => b.fk x o (a.fx x o f) (a.fk x o f h)
 tb:=fun P q t => b.tb P q (a.tb P q t)
end
theorem OwnB.keepAt {K : KF} {F F' H H' : Hp} {W W' : Wm} {lab : Lab} {v : V} {d : D} (e : Same F F') (hw : ∀ a,W a = some lab → W' a = some lab) (hh : ∀ a o,W a = some lab → H a = some o → H' a = some o) : ∀ {t : Bool},OwnB K F H W t lab v d → OwnB K F' H' W' t lab v d
 | true,h => by
  obtain ⟨p,ws,es,e1,e2,w,hp,z,r⟩:=h;exact ⟨p,ws,es,e1,e2,hw _ w,hh _ _ w hp,z,r.mono e _⟩
 | false,h => Rep.mono e d h
theorem OwnB.relab {K : KF} {F H : Hp} {W W' : Wm} {lab lab' : Lab} {v : V} {d : D} (hw : ∀ a,W a = some lab → W' a = some lab') : ∀ {t : Bool},OwnB K F H W t lab v d → OwnB K F H W' t lab' v d
 | true,h => by
  obtain ⟨p,ws,es,e1,e2,w,r⟩:=h;exact ⟨p,ws,es,e1,e2,hw _ w,r⟩
 | false,h => h
theorem OwnG.keepAt {K : KF} {F F' H H' : Hp} {W W' : Wm} {lab : Lab} {v : V} {d : D} (e : Same F F') (hw : ∀ a i,W a = some (lab ++ [i]) → W' a = some (lab ++ [i])) (hh : ∀ a i o,W a = some (lab ++ [i]) → H a = some o → H' a = some o) (h : OwnG K F H W lab v d) : OwnG K F' H' W' lab v d:=by
 obtain ⟨a,ws,es,e1,e2,s,z,ln,r⟩:=h;exact ⟨a,ws,es,e1,e2,ZZc e s,z,ln,fun i w d' x y => (r i w d' x y).keepAt e (fun a w => hw a i w) fun a o w h => hh a i o w h⟩
theorem OwnG.relab {K : KF} {F H : Hp} {W W' : Wm} {lab lab' : Lab} {v : V} {d : D} (hw : ∀ a i,W a = some (lab ++ [i]) → W' a = some (lab' ++ [i])) (h : OwnG K F H W lab v d) : OwnG K F H W' lab' v d:=by
 obtain ⟨a,ws,es,e1,e2,s,z,ln,r⟩:=h;exact ⟨a,ws,es,e1,e2,s,z,ln,fun i w d' x y => (r i w d' x y).relab fun a w => hw a i w⟩
theorem Jm.keep {K : KF} {F F' H H' : Hp} {W W' : Wm} (e : Same F F') (hw : ∀ a l,W a = some l → W' a = some l) (hh : ∀ a l o,W a = some l → H a = some o → H' a = some o) : ∀ {t : Ow} {lab : Lab} {v : V} {d : D},Jm K F H W t lab v d → Jm K F' H' W' t lab v d
 | .g,lab,v,d,h => by
  obtain ⟨o,vs,ds,e1,e2,w,ho,z,ln,r⟩:=h;exact ⟨o,vs,ds,e1,e2,hw _ _ w,hh _ _ _ w ho,z,ln,fun j v' d' a b => (r j v' d' a b).keepAt e (fun _ _ w => hw _ _ w) fun _ _ _ w h => hh _ _ _ w h⟩
 | .sh,_,_,d,h => Rep.mono e d h
 | .l t,lab,v,d,h => by
  obtain ⟨o,vs,ds,e1,e2,w,ho,z,ln,r⟩:=h;exact ⟨o,vs,ds,e1,e2,hw _ _ w,hh _ _ _ w ho,z,ln,fun j v' d' a b => Jm.keep e hw hh (r j v' d' a b)⟩
 | .m t,lab,v,d,h => by
  rcases h with ⟨o,vs,ds,e1,e2,w,ho,z,ln,r⟩ | ⟨n,r⟩
  · exact .inl ⟨o,vs,ds,e1,e2,hw _ _ w,hh _ _ _ w ho,z,ln,fun j v' d' a b => Jm.keep e hw hh (r j v' d' a b)⟩
  · exact .inr ⟨n,Rep.mono e d r⟩
 | .r bs,lab,v,d,h => by
  obtain ⟨o,vs,ds,e1,e2,w,ho,z,ln,lb,r⟩:=h;exact ⟨o,vs,ds,e1,e2,hw _ _ w,hh _ _ _ w ho,z,ln,lb,fun j v' d' t a b c => (r j v' d' t a b c).keepAt e (fun _ w => hw _ _ w) fun _ _ w h => hh _ _ _ w h⟩
 | .d b t,lab,v,d,h => by
  obtain ⟨o,vs,ks,ds,e1,e2,w,ho,ln,r⟩:=h;exact ⟨o,vs,ks,ds,e1,e2,hw _ _ w,ho.keep fun u z => hh _ _ u w z,ln,fun j v' d' a b => Jm.keep e hw hh (r j v' d' a b)⟩
 | .o,lab,v,d,h => by
  obtain ⟨x,C,dx,fs,c,ns,ds,e1,e2,w,ho,k,n,z,r⟩:=h;exact ⟨x,C,dx,fs,c,ns,ds,e1,e2,hw _ _ w,hh _ _ _ w ho,k,n,z,r.mono e _⟩
theorem Jm.keepAt {K : KF} {F F' H H' : Hp} {W W' : Wm} {p : Lab} (e : Same F F') (hw : ∀ a q,W a = some (p ++ q) → W' a = some (p ++ q)) (hh : ∀ a q o,W a = some (p ++ q) → H a = some o → H' a = some o) : ∀ {t : Ow} {q : Lab} {v : V} {d : D},Jm K F H W t (p ++ q) v d → Jm K F' H' W' t (p ++ q) v d
 | .g,q,v,d,h => by
  obtain ⟨o,vs,ds,e1,e2,w,ho,z,ln,r⟩:=h;refine ⟨o,vs,ds,e1,e2,hw _ _ w,hh _ _ _ w ho,z,ln,fun j v' d' a b => (r j v' d' a b).keepAt e (fun a i w => ?_) fun a i o w h => ?_⟩
  · rw [Yt,Yt] at w ⊢;exact hw _ _ w
  · rw [Yt,Yt] at w;exact hh _ _ _ w h
 | .sh,_,_,d,h => Rep.mono e d h
 | .l t,q,v,d,h => by
  obtain ⟨o,vs,ds,e1,e2,w,ho,z,ln,r⟩:=h;refine ⟨o,vs,ds,e1,e2,hw _ _ w,hh _ _ _ w ho,z,ln,fun j v' d' a b => ?_⟩;have h1:=r j v' d' a b;rw [Yt] at h1 ⊢;exact Jm.keepAt e hw hh h1
 | .m t,q,v,d,h => by
  rcases h with ⟨o,vs,ds,e1,e2,w,ho,z,ln,r⟩ | ⟨n,r⟩
  · refine .inl ⟨o,vs,ds,e1,e2,hw _ _ w,hh _ _ _ w ho,z,ln,fun j v' d' a b => ?_⟩;have h1:=r j v' d' a b;rw [Yt] at h1 ⊢;exact Jm.keepAt e hw hh h1
  · exact .inr ⟨n,Rep.mono e d r⟩
 | .r bs,q,v,d,h => by
  obtain ⟨o,vs,ds,e1,e2,w,ho,z,ln,lb,r⟩:=h;exact ⟨o,vs,ds,e1,e2,hw _ _ w,hh _ _ _ w ho,z,ln,lb,fun j v' d' t a b c => (r j v' d' t a b c).keepAt e (fun a w => by
   rw [Yt] at w ⊢;exact hw _ _ w) fun a o w h => by
   rw [Yt] at w;exact hh _ _ _ w h⟩
 | .d b t,q,v,d,h => by
  obtain ⟨o,vs,ks,ds,e1,e2,w,ho,ln,r⟩:=h;refine ⟨o,vs,ks,ds,e1,e2,hw _ _ w,ho.keep fun u z => hh _ _ u w z,ln,fun j v' d' a b => ?_⟩
  · have h1:=r j v' d' a b;rw [Yt] at h1 ⊢;exact Jm.keepAt e hw hh h1
 | .o,q,v,d,h => by
  obtain ⟨x,C,dx,fs,c,ns,ds,e1,e2,w,ho,k,n,z,r⟩:=h;exact ⟨x,C,dx,fs,c,ns,ds,e1,e2,hw _ _ w,hh _ _ _ w ho,k,n,z,r.mono e _⟩
theorem Jm.relab {K : KF} {F H : Hp} {W W' : Wm} {p p' : Lab} (hw : ∀ a q,W a = some (p ++ q) → W' a = some (p' ++ q)) : ∀ {t : Ow} {q : Lab} {v : V} {d : D},Jm K F H W t (p ++ q) v d → Jm K F H W' t (p' ++ q) v d
 | .g,q,v,d,h => by
  obtain ⟨o,vs,ds,e1,e2,w,ho,z,ln,r⟩:=h;refine ⟨o,vs,ds,e1,e2,hw _ _ w,ho,z,ln,fun j v' d' a b => (r j v' d' a b).relab fun a i w => ?_⟩;rw [Yt,Yt] at w ⊢;exact hw _ _ w
 | .sh,_,_,d,h => h
 | .l t,q,v,d,h => by
  obtain ⟨o,vs,ds,e1,e2,w,ho,z,ln,r⟩:=h;refine ⟨o,vs,ds,e1,e2,hw _ _ w,ho,z,ln,fun j v' d' a b => ?_⟩;have h1:=r j v' d' a b;rw [Yt] at h1 ⊢;exact Jm.relab hw h1
 | .m t,q,v,d,h => by
  rcases h with ⟨o,vs,ds,e1,e2,w,ho,z,ln,r⟩ | ⟨n,r⟩
  · refine .inl ⟨o,vs,ds,e1,e2,hw _ _ w,ho,z,ln,fun j v' d' a b => ?_⟩;have h1:=r j v' d' a b;rw [Yt] at h1 ⊢;exact Jm.relab hw h1
  · exact .inr ⟨n,r⟩
 | .r bs,q,v,d,h => by
  obtain ⟨o,vs,ds,e1,e2,w,ho,z,ln,lb,r⟩:=h;exact ⟨o,vs,ds,e1,e2,hw _ _ w,ho,z,ln,lb,fun j v' d' t a b c => (r j v' d' t a b c).relab fun a w => by
   rw [Yt] at w ⊢;exact hw _ _ w⟩
 | .d b t,q,v,d,h => by
  obtain ⟨o,vs,ks,ds,e1,e2,w,ho,ln,r⟩:=h;refine ⟨o,vs,ks,ds,e1,e2,hw _ _ w,ho,ln,fun j v' d' a b => ?_⟩;have h1:=r j v' d' a b;rw [Yt] at h1 ⊢;exact Jm.relab hw h1
 | .o,q,v,d,h => by
  obtain ⟨x,C,dx,fs,c,ns,ds,e1,e2,w,r⟩:=h;exact ⟨x,C,dx,fs,c,ns,ds,e1,e2,hw _ _ w,r⟩
theorem Z1x {K : KF} {F : Hp} : ∀ {vs : List V} {ds : List D},vs.length = ds.length → (∀ (j : Nat) v' d',vs[j]? = some v' → ds[j]? = some d' → Rep K F v' d') → RepL K F vs ds
 | [],[],_,_ => .nil
 | [],_ :: _,e,_ => by simp at e
 | _ :: _,[],e,_ => by simp at e
 | v :: vs,d :: ds,e,h => .cons (h 0 v d rfl rfl) (Z1x (by simpa using e) fun j v' d' a b => h (j + 1) v' d' (by simpa using a) (by simpa using b))
end Dl
namespace Dl
open PySem PySem.Spec PyProof.Rows L2
variable [Tbs]
def nxo : HO → Bool
 | .xd _ => false
 | .tup _ => false
 | .tbl _ => false
 | .ext _ => false
 | _ => true
theorem Z1y {o : HO} (h : nxo o = true) : ∀ ps,o ≠ .tbl ps:=fun ps e => by subst e;cases h
theorem Z6U {o : HO} (h : nxo o = true) (t : TCo o) : False:=by
 rcases t with ⟨_,rfl⟩ | ⟨_,_,rfl⟩
 · cases h
 · unfold LamX.CodeO at h;cases h
theorem TabW.w {F H : Hp} {W W' : Wm} {P : Addr} {q : Str} (t : TabW F H W P q) (ow : ∀ a l,W' a = some l → ∃ o,H a = some o ∧ nxo o = true) : TabW F H W' P q:=by
 have no : ∀ a o,H a = some o → TCo o → W' a = none:=fun a o h c => by
  cases q : W' a with
  | none => rfl
  | some l =>
   obtain ⟨o',e1,e2⟩:=ow a l q;rw [h] at e1;cases e1;exact (Z6U e2 c).elim
 obtain ⟨h1,h2,ps,h3,h4,h5⟩:=t;refine ⟨h1,no _ _ h3 (.inl ⟨ps,rfl⟩),ps,h3,h4,fun pos cv e => ?_⟩;obtain ⟨c,e1,e2,e3⟩:=h5 pos cv e;exact ⟨c,e1,no _ _ e3 (.inr ⟨c,q,rfl⟩),e3⟩
theorem Zcc {o : HO} (h : nxo o = true) : Z6w o = false:=by cases o <;> first | rfl | cases h
structure Xn where
 c : Str
 ns : List Str
 vs : List D
abbrev Ent:=Ow × D
abbrev Nv:=List (Option Ent)
inductive Rs (α : Type) where
 | ok (a : α) (E : Nv) | er (x : Xn) (E : Nv) | stk
abbrev M (α : Type):=Nv → Rs α
def Zr {α : Type} (a : α) : M α:=fun E => .ok a E
def Z6x {α : Type} : M α:=fun _ => .stk
def bnd {α β : Type} (m : M α) (k : α → M β) : M β:=fun E => match m E with
 | .ok a E' => k a E'
 | .er x E' => .er x E'
 | .stk => .stk
def ofO {α : Type} : Option α → M α
 | some a => Zr a
 | none => Z6x
def rd (i : Nat) : M D:=fun E => match E[i]? with
 | some (some (.sh,d)) => .ok d E
 | _ => .stk
def XRep (K : KF) (F H : Hp) (x : Xn) (cls : Value) (dx : Option Addr) : Prop :=
 cls = .ref (He.ga K x.c) ∧ ((x.ns = [] ∧ x.vs = []) ∨ ∃ a fs,dx = some a ∧ H a = some (.xd fs) ∧ fs.map (·.1) = x.ns ∧ RepL K F (fs.map (·.2)) x.vs)
structure Bs where
 pn : Nat → Option V
 F0 : Hp
 W0 : Wm
 H0 : Hp
structure Ios where
 l : List Nat
 ok : (Nat → Option V) → Hp → Prop
 mono : ∀ {pn : Nat → Option V} {F F' : Hp},Same F F' → ok pn F → ok pn F'
instance : Membership Nat Ios:=⟨fun s i => i ∈ s.l⟩
def Ios.contains (s : Ios) (i : Nat) : Bool:=s.l.contains i
def Ios.of (l : List Nat) : Ios:=⟨l,fun _ _ => True,fun _ h => h⟩
theorem Ios.no {s : Ios} {i : Nat} (h : s.contains i = false) : i ∉ s:=by
 unfold Ios.contains at h;rw [List.contains_eq_mem,decide_eq_false_iff_not] at h;exact h
def Tbo (F H : Hp) (W : Wm) : Prop:=∀ P q,Tbs.n P = some q → TabW F H W P q
structure St (K : KF) (ios : Ios) (B : Bs) (F : Hp) (W : Wm) (E : Nv) (σ : L2.St) (H : Hp) : Prop where
 fh : Same F H
 st : Stp B.F0 B.W0 B.H0 F W H
 nz : NoFz H
 ow : ∀ a l,W a = some l → F a = none ∧ ∃ o,H a = some o ∧ nxo o = true
 fr : ∀ a l,W a = some l → ∃ i p,l = i :: p ∧ (i ∈ ios ∨ B.H0 a = none)
 w0 : ∀ a l,B.W0 a = some l → ∃ i p,l = i :: p ∧ i ∈ ios
 vr : ∀ i t d,E[i]? = some (some (t,d)) → ∃ v,σ[i]? = some (some v) ∧ Jm K F H W t [i] v d
 pn : ∀ i v,B.pn i = some v → i ∈ ios ∧ σ[i]? = some (some v)
 ln : E.length = σ.length
 xo : ios.ok B.pn B.F0 ∧ Tbo B.F0 B.H0 B.W0
theorem St.tbs {K : KF} {ios : Ios} {B : Bs} {F : Hp} {W : Wm} {E : Nv} {σ : L2.St} {H : Hp} (S : St K ios B F W E σ H) : Tbo F H W:=fun P q n => S.st.tb P q (S.xo.2 P q n)
structure Gr (F H F' H' : Hp) : Prop where
 fx : Same F F'
 hx : Same H H'
 fh : Same F' H'
 nz : NoFz H → NoFz H'
 fn : ∀ a o,F' a = some o → Z6w o = false → F a = some o ∨ H a = none
theorem Gr.refl {F H : Hp} (fh : Same F H) : Gr F H F H:=⟨Same.refl F,Same.refl H,fh,fun z => z,fun _ _ h _ => .inl h⟩
theorem Z1a {H : Hp} {p : Addr} {o : HO} (h : H p = none) : Same H (upd H p o):=fun b x e => by
 rw [upd_ne (ne_of_none e h)];exact e
theorem Gr.new {F H : Hp} {p : Addr} {o : HO} (fh : Same F H) (hp : H p = none) (ho : ∀ ob u,o ≠ .frz ob u) : Gr F H (upd F p o) (upd H p o) where
 fx:=Z1a (fh.free hp)
 hx:=Z1a hp
 fh:=fun b x e => by
  by_cases hb : b = p
  · subst hb;rw [upd_same] at e ⊢;exact e
  · rw [upd_ne hb] at e ⊢;exact fh _ _ e
 nz:=fun z a ob u e => by
  by_cases hb : a = p
  · subst hb;rw [upd_same] at e;exact absurd (Option.some.inj e) (ho _ _)
  · rw [upd_ne hb] at e;exact z _ _ _ e
 fn:=fun a x e _ => by
  by_cases hb : a = p
  · subst hb;exact .inr hp
  · rw [upd_ne hb] at e;exact .inl e
theorem Gr.trans {F H F1 H1 F2 H2 : Hp} (a : Gr F H F1 H1) (b : Gr F1 H1 F2 H2) : Gr F H F2 H2 :=
 ⟨a.fx.trans b.fx,a.hx.trans b.hx,b.fh,fun z => b.nz (a.nz z),fun x o h n => by
  rcases b.fn x o h n with h | h
  · exact a.fn x o h n
  · exact .inr (a.hx.free h)⟩
section
variable {K : KF} {ios : Ios} {B : Bs} {F F' : Hp} {W W' : Wm} {E : Nv} {σ : L2.St} {H H' : Hp}
theorem Stp.nf (s : Stp F W H F' W' H') (fh : Same F' H') {a : Addr} {o o' : HO} (h1 : F a = none) (h2 : H a = some o) (h3 : H' a = some o') (ho : nxo o' = true) : F' a = none:=by
 cases q : F' a with
 | none => rfl
 | some u =>
  have e:=fh a u q;rw [h3] at e;cases e;rcases s.fn a _ q (Zcc ho) with z | z
  · rw [h1] at z;cases z
  · rw [h2] at z;cases z
def Pst (K : KF) (ios : Ios) (B : Bs) (Wx : WX) (σ : L2.St) {α β : Type} (R : Hp → β → α → Prop) (F : Hp) (W : Wm) (H : Hp) (r : Rs α) (Q : β → Hp → Prop) : Prop :=
 match r with
 | .ok a E' => ∀ F' W' H' b,St K ios B F' W' E' σ H' → Stp F W H F' W' H' → R F' b a → Q b H'
 | .er x E' => ∀ F' W' H' c dx,St K ios B F' W' E' σ H' → Stp F W H F' W' H' → XRep K F' H' x c dx → Wx c dx σ H'
 | .stk => False
variable {Wx : WX} {α β γ δ : Type} {R : Hp → β → α → Prop} {R' : Hp → δ → γ → Prop} {Q : β → Hp → Prop} {Q' : δ → Hp → Prop}
theorem Pst.from {F1 : Hp} {W1 : Wm} {H1 : Hp} {r : Rs α} (s : Stp F W H F1 W1 H1) (h : Pst K ios B Wx σ R F W H r Q) : Pst K ios B Wx σ R F1 W1 H1 r Q:=by
 cases r with
 | ok a E' => exact fun F' W' H' b S t rr => h F' W' H' b S (s.trans t) rr
 | er x E' => exact fun F' W' H' c dx S t rr => h F' W' H' c dx S (s.trans t) rr
 | stk => exact h
theorem Pst.seq {m : M α} {k : α → M γ} (h : Pst K ios B Wx σ R' F W H (bnd m k E) Q')
    (g : ∀ F' W' H' b a E',St K ios B F' W' E' σ H' → Stp F W H F' W' H' → R F' b a → Pst K ios B Wx σ R' F' W' H' (k a E') Q' → Q b H') : Pst K ios B Wx σ R F W H (m E) Q:=by
 unfold bnd at h;cases q : m E with
 | ok a E' =>
  rw [q] at h;exact fun F' W' H' b S t rr => g F' W' H' b a E' S t rr (Pst.from t h)
 | er x E' =>
  rw [q] at h;exact h
 | stk =>
  rw [q] at h;exact h.elim
theorem Pst.done {a : α} {b : β} (h : Pst K ios B Wx σ R F W H (Zr a E) Q) (S : St K ios B F W E σ H) (r : R F b a) : Q b H:=h F W H b S (Stp.refl F W H) r
theorem Pst.some {o : Option α} (h : Pst K ios B Wx σ R F W H (ofO o E) Q) : ∃ a,o = Option.some a ∧ Pst K ios B Wx σ R F W H (Zr a E) Q:=by
 cases o with
 | none => exact h.elim
 | some a => exact ⟨a,rfl,h⟩
end
def noW : Wm:=fun _ => none
theorem NoFz.of {F H : Hp} (e : Same F H) (z : NoFz H) : NoFz F:=fun a o u h => z a o u (e _ _ h)
theorem XRep.mono {K : KF} {F F' H : Hp} {x : Xn} {c : Value} {dx : Option Addr} (e : Same F F') (h : XRep K F H x c dx) : XRep K F' H x c dx:=by
 obtain ⟨h1,h2⟩:=h;refine ⟨h1, ?_⟩;rcases h2 with h2 | ⟨a,fs,e1,e2,e3,r⟩
 · exact .inl h2
 · exact .inr ⟨a,fs,e1,e2,e3,RepL.mono e _ r⟩
def Fresh (Wr : Wm) (H F' : Hp) (W' : Wm) (H' : Hp) : Prop:=∀ a l,Wr a = some l → H a = none ∧ W' a = none ∧ F' a = none ∧ ∃ o,H' a = some o ∧ nxo o = true
theorem Fresh.no {H F' : Hp} {W' : Wm} {H' : Hp} : Fresh noW H F' W' H':=fun a l h => by cases (show (none : Option Lab) = some l from h)
def Jy (K : KF) (ios : Ios) (B : Bs) (Wx : WX) (σ : L2.St) (F : Hp) (W : Wm) (H : Hp) (r : Rs Ent) (Q : VK) : Prop :=
 match r with
 | .ok p E' => ∀ F' W' H' v Wr,St K ios B F' W' E' σ H' → Stp F W H F' W' H' → Fresh Wr H F' W' H' → Jm K F' H' Wr p.1 [] v p.2 → Q v H'
 | .er x E' => ∀ F' W' H' c dx,St K ios B F' W' E' σ H' → Stp F W H F' W' H' → XRep K F' H' x c dx → Wx c dx σ H'
 | .stk => False
section
variable {K : KF} {ios : Ios} {B : Bs} {F F' : Hp} {W W' : Wm} {E E' : Nv} {σ : L2.St} {H H' : Hp} {Wx : WX}
theorem Jy.from {F1 : Hp} {W1 : Wm} {H1 : Hp} {r : Rs Ent} {Q : VK} (s : Stp F W H F1 W1 H1) (h : Jy K ios B Wx σ F W H r Q) : Jy K ios B Wx σ F1 W1 H1 r Q:=by
 cases r with
 | ok a E' => exact fun F' W' H' b Wr S t fr rr => h F' W' H' b Wr S (s.trans t) (fun a l z => by
     obtain ⟨z1,z2⟩:=fr a l z;exact ⟨s.back z1,z2⟩) rr
 | er x E' => exact fun F' W' H' c dx S t rr => h F' W' H' c dx S (s.trans t) rr
 | stk => exact h
theorem Jy.seq {α β : Type} {R : Hp → β → α → Prop} {m : M α} {k : α → M Ent} {Q : β → Hp → Prop} {Q' : VK} (h : Jy K ios B Wx σ F W H (bnd m k E) Q')
    (g : ∀ F' W' H' b a E',St K ios B F' W' E' σ H' → Stp F W H F' W' H' → R F' b a → Jy K ios B Wx σ F' W' H' (k a E') Q' → Q b H') : Pst K ios B Wx σ R F W H (m E) Q:=by
 unfold bnd at h;cases q : m E with
 | ok a E' =>
  rw [q] at h;exact fun F' W' H' b S t rr => g F' W' H' b a E' S t rr (Jy.from t h)
 | er x E' =>
  rw [q] at h;exact h
 | stk =>
  rw [q] at h;exact h.elim
theorem St.noW {p : Addr} (S : St K ios B F W E σ H) (hp : H p = none) : W p = none:=by
 cases q : W p with
 | none => rfl
 | some l =>
  obtain ⟨_,o,h,_⟩:=S.ow p l q;rw [hp] at h;cases h
end
inductive Fl where
 | nx (E : Nv) | rt (r : Ent) (E : Nv) | bk (E : Nv) | ct (E : Nv) | er (x : Xn) (E : Nv) | stk
abbrev G:=Nv → Fl
def Ju (K : KF) (ios : Ios) (B : Bs) (Wx : WX) (F : Hp) (r : Fl) (D : Ends) : Prop :=
 match r with
 | .nx E' => ∀ F' W' H' σ',St K ios B F' W' E' σ' H' → Same F F' → D.nx σ' H'
 | .bk E' => ∀ F' W' H' σ',St K ios B F' W' E' σ' H' → Same F F' → D.bk σ' H'
 | .ct E' => ∀ F' W' H' σ',St K ios B F' W' E' σ' H' → Same F F' → D.ct σ' H'
 | .rt p E' => ∀ F' W' H' σ' v Wr,St K ios B F' W' E' σ' H' → Same F F' → Fresh Wr B.H0 F' W' H' → Jm K F' H' Wr p.1 [] v p.2 → D.rt v H'
 | .er x E' => ∀ F' W' H' σ' c dx,St K ios B F' W' E' σ' H' → Same F F' → XRep K F' H' x c dx → Wx c dx σ' H'
 | .stk => False
def Zb (g h : G) : G:=fun E => match g E with
 | .nx E' => h E'
 | .rt p E' => .rt p E'
 | .bk E' => .bk E'
 | .ct E' => .ct E'
 | .er x E' => .er x E'
 | .stk => .stk
def done : G:=fun E => .nx E
def Jf {α : Type} (m : M α) (k : α → G) : G:=fun E => match m E with
 | .ok a E' => k a E'
 | .er x E' => .er x E'
 | .stk => .stk
section
variable {K : KF} {ios : Ios} {B : Bs} {F F' : Hp} {W W' : Wm} {E E' : Nv} {σ : L2.St} {H H' : Hp} {Wx : WX}
theorem Ju.from {F1 : Hp} {r : Fl} {D : Ends} (s : Same F F1) (h : Ju K ios B Wx F r D) : Ju K ios B Wx F1 r D:=by
 cases r with
 | nx E' => exact fun F' W' H' σ' S t => h F' W' H' σ' S (s.trans t)
 | bk E' => exact fun F' W' H' σ' S t => h F' W' H' σ' S (s.trans t)
 | ct E' => exact fun F' W' H' σ' S t => h F' W' H' σ' S (s.trans t)
 | rt p E' => exact fun F' W' H' σ' v Wr S t => h F' W' H' σ' v Wr S (s.trans t)
 | er x E' => exact fun F' W' H' σ' c dx S t => h F' W' H' σ' c dx S (s.trans t)
 | stk => exact h
theorem Ju.seq {α β : Type} {R : Hp → β → α → Prop} {m : M α} {k : α → G} {Q : β → Hp → Prop} {D : Ends} (h : Ju K ios B Wx F (Jf m k E) D)
    (g : ∀ F' W' H' b a E',St K ios B F' W' E' σ H' → Stp F W H F' W' H' → R F' b a → Ju K ios B Wx F' (k a E') D → Q b H') : Pst K ios B Wx σ R F W H (m E) Q:=by
 unfold Jf at h;cases q : m E with
 | ok a E' =>
  rw [q] at h;exact fun F' W' H' b S t rr => g F' W' H' b a E' S t rr (Ju.from t.fx h)
 | er x E' =>
  rw [q] at h;exact fun F' W' H' c dx S t rr => h F' W' H' σ c dx S t.fx rr
 | stk =>
  rw [q] at h;exact h.elim
theorem Ju.then {g h : G} {D : Ends} {D' : Ends} (e1 : D'.rt = D.rt) (e2 : D'.bk = D.bk) (e3 : D'.ct = D.ct) (k : Ju K ios B Wx F (Zb g h E) D)
    (c : ∀ F' W' H' σ' E',St K ios B F' W' E' σ' H' → Same F F' → Ju K ios B Wx F' (h E') D → D'.nx σ' H') : Ju K ios B Wx F (g E) D':=by
 unfold Zb at k;cases q : g E with
 | nx E' => rw [q] at k;exact fun F' W' H' σ' S t => c F' W' H' σ' E' S t (Ju.from t k)
 | rt p E' => rw [q] at k;exact fun F' W' H' σ' v Wr S t fr r => by rw [e1];exact k F' W' H' σ' v Wr S t fr r
 | bk E' => rw [q] at k;exact fun F' W' H' σ' S t => by rw [e2];exact k F' W' H' σ' S t
 | ct E' => rw [q] at k;exact fun F' W' H' σ' S t => by rw [e3];exact k F' W' H' σ' S t
 | er x E' => rw [q] at k;exact k
 | stk => rw [q] at k;exact k.elim
end
mutual
def toP : D → Option PyData
 | .non => some .none
 | .bl b => some (.bool b)
 | .int i => some (.int i)
 | .str x => some (.str x)
 | .lst xs => (toPs xs).map .list
 | .tup xs => (toPs xs).map .tuple
 | .dct _ _ => none
 | .ins _ _ _ => none
 | .ty _ => none
 | .cl _ => none
 | .frl _ => none
 | .ldc _ _ => none
def toPs : List D → Option (List PyData)
 | [] => some []
 | x :: r => match toP x,toPs r with
  | some p,some ps => some (p :: ps)
  | _,_ => none
end
def isNone (d : D) : Bool:=match d with
 | .non => true
 | _ => false
section
variable {K : KF}
theorem Rep.isNone {F : Hp} {v : V} {d : D} (h : Rep K F v d) : decide (v = .non) = isNone d:=by
 cases h <;> first | exact Yp rfl | exact decide_eq_false fun z => by cases z
end
section
variable {X : Cx} {ios : Ios} {Wx : WX} {a b c e : Expr} {es rest : List Expr} {fa fb fc f : M D} {ta tb tc : M Bool} {pos : Pos}
def Z3u : D → Option (List D)
 | .lst xs => some xs
 | .tup xs => some xs
 | _ => none
end
structure Ins (K : KF) (ios : List Nat) (F : Hp) (W : Wm) (H : Hp) (vs : List V) (as : List Ent) : Prop where
 fh : Same F H
 nz : NoFz H
 ow : ∀ a l,W a = some l → F a = none ∧ ∃ o,H a = some o ∧ nxo o = true
 io : ∀ a l,W a = some l → ∃ i p,l = i :: p ∧ i ∈ ios
 ln : vs.length = as.length
 vr : ∀ i v t d,vs[i]? = some v → as[i]? = some (t,d) → Jm K F H W t [i] v d
 tb : Tbo F H W
structure Outs (K : KF) (ios : List Nat) (F : Hp) (W : Wm) (H F' : Hp) (W' : Wm) (H' : Hp) (vs : List V) (E : Nv) : Prop where
 st : Stp F W H F' W' H'
 fh : Same F' H'
 nz : NoFz H'
 ow : ∀ a l,W' a = some l → F' a = none ∧ ∃ o,H' a = some o ∧ nxo o = true
 io : ∀ a l,W' a = some l → ∃ i p,l = i :: p ∧ i ∈ ios
 vr : ∀ i v t d,i ∈ ios → vs[i]? = some v → E[i]? = some (some (t,d)) → Jm K F' H' W' t [i] v d
abbrev Md:=List (Option Nat)
inductive RepA (K : KF) (F : Hp) (σ : L2.St) : Md → List V → List D → Prop
 | nil : RepA K F σ [] [] []
 | sh {md : Md} {v : V} {vs : List V} {d : D} {ds : List D} : Rep K F v d → RepA K F σ md vs ds → RepA K F σ (none :: md) (v :: vs) (d :: ds)
 | io {md : Md} {i : Nat} {v : V} {vs : List V} {ds : List D} : σ[i]? = some (some v) → RepA K F σ md vs ds → RepA K F σ (some i :: md) (v :: vs) ds
theorem RepA.mono {K : KF} {F F' : Hp} {σ : L2.St} (e : Same F F') {md : Md} {vs : List V} {ds : List D} (h : RepA K F σ md vs ds) : RepA K F' σ md vs ds:=by
 induction h with
 | nil => exact .nil
 | sh r _ ih => exact .sh (r.mono e _) ih
 | io r _ ih => exact .io r ih
def back : Nat → Md → Nv → Nv → Nv
 | _,[],_,E => E
 | j,none :: md,O,E => back (j + 1) md O E
 | j,some i :: md,O,E => back (j + 1) md O (E.set i ((O[j]?).join))
def mdOk (ios' : List Nat) : Nat → Md → Bool
 | _,[] => true
 | j,none :: md => mdOk ios' (j + 1) md
 | j,some i :: md => ios'.contains j && !md.contains (some i) && mdOk ios' (j + 1) md
def plc (md : Md) (i : Nat) : Option Nat:=md.findIdx? fun o => o == some i
def toC (md : Md) : Lab → Option Lab
 | i :: p => (plc md i).map fun j => j :: p
 | [] => none
def ofC (md : Md) : Lab → Option Lab
 | j :: p => match md[j]? with
  | some (some i) => some (i :: p)
  | _ => none
 | [] => none
theorem ZaB {md : Md} {i j : Nat} (h : plc md i = some j) : md[j]? = some (some i):=by
 unfold plc at h;rw [List.findIdx?_eq_some_iff_getElem] at h;obtain ⟨hl,e,_⟩:=h;rw [Ym hl];have e' : (md[j] == some i) = true:=e;rw [beq_iff_eq.mp e']
theorem Z4Y {ios' : List Nat} : ∀ {md : Md} {k j i : Nat},mdOk ios' k md = true → md[j]? = some (some i) → (k + j) ∈ ios' ∧ plc md i = some j
 | [],_,_,_,_,h => by simp at h
 | none :: md,k,0,i,_,h => by simp at h
 | none :: md,k,j + 1,i,h,e => by
  have h' : mdOk ios' (k + 1) md = true:=h;obtain ⟨h1,h2⟩:=Z4Y (j:=j) h' (by simpa using e);refine ⟨by rw [show k + (j + 1) = k + 1 + j by omega];exact h1, ?_⟩;unfold plc at h2 ⊢;rw [List.findIdx?_cons,h2];rfl
 | some i0 :: md,k,0,i,h,e => by
  have h' : (ios'.contains k && !md.contains (some i0) && mdOk ios' (k + 1) md) = true:=h;rw [Bool.and_eq_true,Bool.and_eq_true] at h';have e' : i0 = i:=by simpa using e
  subst e';refine ⟨by simpa using h'.1.1, ?_⟩;unfold plc;rw [List.findIdx?_cons];simp
 | some i0 :: md,k,j + 1,i,h,e => by
  have h' : (ios'.contains k && !md.contains (some i0) && mdOk ios' (k + 1) md) = true:=h;rw [Bool.and_eq_true,Bool.and_eq_true] at h';obtain ⟨h1,h2⟩:=Z4Y (j:=j) h'.2 (by simpa using e);refine ⟨by rw [show k + (j + 1) = k + 1 + j by omega];exact h1, ?_⟩;have hne : i0 ≠ i:=fun z => by
   subst z;have hm : md.contains (some i0) = true:=by
    have:=List.mem_of_getElem? (show md[j]? = some (some i0) by simpa using e)
    simpa using this
   rw [hm] at h';exact absurd h'.1.2 (by decide)
  unfold plc at h2 ⊢;rw [List.findIdx?_cons,h2];simp [hne]
theorem Z5C : ∀ {md : Md} {j : Nat} {O E : Nv},(back j md O E).length = E.length
 | [],_,_,_ => rfl
 | none :: md,j,O,E => Z5C (md:=md)
 | some i :: md,j,O,E => by
  have h:=Z5C (md:=md) (j:=j + 1) (O:=O) (E:=E.set i ((O[j]?).join));rw [List.length_set] at h;exact h
theorem Z9f {md : Md} {O : Nv} {i : Nat} : ∀ {k : Nat} {E : Nv},(some i ∉ md) → (back k md O E)[i]? = E[i]?:=by
 induction md with
 | nil => exact fun _ => rfl
 | cons o md ih =>
  intro k E h;have h2 : some i ∉ md:=fun z => h (Yb _ z);cases o with
  | none => exact ih (k:=k + 1) (E:=E) h2
  | some i0 =>
   have hne : i0 ≠ i:=fun z => h (by rw [z];exact Ya);have h1:=ih (k:=k + 1) (E:=E.set i0 ((O[k]?).join)) h2;rw [List.getElem?_set_ne hne] at h1;exact h1
theorem Zcd {ios' : List Nat} {O : Nv} {i : Nat} {md : Md} : ∀ {k j : Nat} {E : Nv},mdOk ios' k md = true → md[j]? = some (some i) → i < E.length → (back k md O E)[i]? = some ((O[k + j]?).join):=by
 induction md with
 | nil => intro k j E _ h;simp at h
 | cons o md ih =>
  intro k j E hm h hl;cases o with
  | none =>
   cases j with
   | zero => simp at h
   | succ j =>
    have h1:=ih (k:=k + 1) (j:=j) (E:=E) hm (by simpa using h) hl;rw [show k + 1 + j = k + (j + 1) by omega] at h1;exact h1
  | some i0 =>
   have hm' : (ios'.contains k && !md.contains (some i0) && mdOk ios' (k + 1) md) = true:=hm;rw [Bool.and_eq_true,Bool.and_eq_true] at hm';cases j with
   | zero =>
    have e' : i0 = i:=by simpa using h
    subst e';have hn : some i0 ∉ md:=by
     have:=hm'.1.2
     simpa using this
    have h1:=Z9f (k:=k + 1) (O:=O) (E:=E.set i0 ((O[k]?).join)) hn;rw [List.getElem?_set_self hl] at h1;exact h1
   | succ j =>
    have h1:=ih (k:=k + 1) (j:=j) (E:=E.set i0 ((O[k]?).join)) hm'.2 (by simpa using h) (by rw [List.length_set];exact hl);rw [show k + 1 + j = k + (j + 1) by omega] at h1;exact h1
theorem Z8p {md : Md} {o : Option Nat} (h : o ∈ md) : ∃ j : Nat,md[j]? = some o:=by
 obtain ⟨j,hj,e⟩:=List.getElem_of_mem h;exact ⟨j,by rw [Ym hj,e]⟩
theorem ZaC {md : Md} {i : Nat} (h : some i ∉ md) : plc md i = none:=by
 unfold plc;rw [List.findIdx?_eq_none_iff];intro o ho;by_cases c : o = some i
 · subst c;exact absurd ho h
 · simpa using c
def inW (W Wf : Wm) (md : Md) : Wm:=fun a => match (W a).bind (toC md) with
 | some l => some l
 | none => Wf a
def outW (W W' : Wm) (md : Md) : Wm:=fun a => match W a with
 | some l => some l
 | none => (W' a).bind (ofC md)
section
variable {K : KF} {ios : Ios} {ios' : List Nat} {B : Bs} {F : Hp} {W Wf : Wm} {E : Nv} {σ : L2.St} {H : Hp} {md : Md} {vs : List V} {as : List Ent}
structure NewW (ios' : List Nat) (md : Md) (F : Hp) (W : Wm) (H : Hp) (B : Bs) (Wf : Wm) : Prop where
 at' : ∀ a l,Wf a = some l → F a = none ∧ W a = none ∧ B.H0 a = none ∧ (∃ o,H a = some o ∧ nxo o = true) ∧ ∃ (j : Nat) (p : Lab),l = j :: p ∧ j ∈ ios' ∧ md[j]? = some none
theorem NewW.no : NewW ios' md F W H B noW:=⟨fun a l h => by cases (show (none : Option Lab) = some l from h)⟩
theorem ZaD {l m : Lab} (h : toC md l = some m) : ∃ (i j : Nat) (p : Lab),l = i :: p ∧ m = j :: p ∧ plc md i = some j ∧ md[j]? = some (some i):=by
 cases l with
 | nil => cases h
 | cons i p =>
  have h' : (plc md i).map (fun j => j :: p) = some m:=h;cases q : plc md i with
  | none => rw [q] at h';cases h'
  | some j =>
   rw [q] at h';cases h';exact ⟨i,j,p,rfl,rfl,q,ZaB q⟩
theorem Z6y {a : Addr} {m : Lab} (h : inW W Wf md a = some m) : (∃ (i j : Nat) (p : Lab),W a = some (i :: p) ∧ m = j :: p ∧ plc md i = some j ∧ md[j]? = some (some i)) ∨ Wf a = some m:=by
 unfold inW at h;cases q : W a with
 | none => rw [q] at h;exact .inr h
 | some l =>
  rw [q] at h;have h' : (match toC md l with | some l => some l | none => Wf a) = some m:=h;cases q2 : toC md l with
  | none => rw [q2] at h';exact .inr h'
  | some m' =>
   rw [q2] at h';cases h';obtain ⟨i,j,p,rfl,e,e2,e3⟩:=ZaD q2;exact .inl ⟨i,j,p,rfl,e,e2,e3⟩
theorem Zg2 {a : Addr} {i j : Nat} {p : Lab} (h : W a = some (i :: p)) (hp : plc md i = some j) : inW W Wf md a = some (j :: p):=by
 unfold inW;rw [h];show (match (plc md i).map (fun j => j :: p) with | some l => some l | none => Wf a) = _;rw [hp];rfl
theorem Zg3 {a : Addr} {m : Lab} (n : NewW ios' md F W H B Wf) (h : Wf a = some m) : inW W Wf md a = some m:=by
 unfold inW;rw [(n.at' a m h).2.1];exact h
theorem ZaE {a : Addr} {i : Nat} {p : Lab} (n : NewW ios' md F W H B Wf) (h : W a = some (i :: p)) (hp : plc md i = none) : inW W Wf md a = none:=by
 cases q : inW W Wf md a with
 | none => rfl
 | some m =>
  rcases Z6y q with ⟨i',j,p',e,_,e2,_⟩ | e
  · rw [h] at e;cases e;rw [hp] at e2;cases e2
  · rw [(n.at' a m e).2.1] at h;cases h
theorem Zce {a : Addr} (h : W a = none) (h2 : Wf a = none) : inW W Wf md a = none:=by
 unfold inW;rw [h];exact h2
def Handed (K : KF) (F H : Hp) (Wf : Wm) (E : Nv) (σ : L2.St) (md : Md) (vs : List V) (as : List Ent) : Prop:=∀ (j : Nat) v t d,vs[j]? = some v → as[j]? = some (t,d) →
 (md[j]? = some none ∧ Jm K F H Wf t [j] v d) ∨ ∃ i,md[j]? = some (some i) ∧ σ[i]? = some (some v) ∧ E[i]? = some (some (t,d))
theorem Handed.ins (S : St K ios B F W E σ H) (n : NewW ios' md F W H B Wf) (ok : mdOk ios' 0 md = true) (hl : vs.length = as.length) (h : Handed K F H Wf E σ md vs as) : Ins K ios' F (inW W Wf md) H vs as where
 fh:=S.fh
 nz:=S.nz
 ow:=fun a l z => by
  rcases Z6y z with ⟨i,j,p,e,_⟩ | e
  · exact S.ow a _ e
  · have:=n.at' a l e;exact ⟨this.1,this.2.2.2.1⟩
 io:=fun a l z => by
  rcases Z6y z with ⟨i,j,p,e,e2,e3,e4⟩ | e
  · refine ⟨j,p,e2, ?_⟩;have:=(Z4Y ok e4).1;rw [Nat.zero_add] at this;exact this
  · obtain ⟨j,p,e1,e2,_⟩:=(n.at' a l e).2.2.2.2;exact ⟨j,p,e1,e2⟩
 ln:=hl
 vr:=fun j v t d e1 e2 => by
  rcases h j v t d e1 e2 with ⟨m,r⟩ | ⟨i,m,sv,ev⟩
  · exact Jm.relab (p:=[j]) (p':=[j]) (q:=[]) (fun a q z => Zg3 n z) r
  · obtain ⟨u,h1,h2⟩:=S.vr i t d ev;rw [sv] at h1;cases h1;exact Jm.relab (p:=[i]) (p':=[j]) (q:=[]) (fun a q z => Zg2 z (Z4Y ok m).2) h2
 tb:=fun P q k => (S.tbs P q k).w fun a l z => by
  rcases Z6y z with ⟨i,j,p,e,_⟩ | e
  · exact (S.ow a _ e).2
  · exact (n.at' a l e).2.2.2.1
variable {F' H' : Hp} {W' : Wm} {O : Nv}
theorem Z5D {a : Addr} {l : Lab} (h : W a = none) (h2 : outW W W' md a = some l) : ∃ (i j : Nat) (p : Lab),W' a = some (j :: p) ∧ md[j]? = some (some i) ∧ l = i :: p:=by
 unfold outW at h2;rw [h] at h2;have h2' : (W' a).bind (ofC md) = some l:=h2;cases q : W' a with
 | none => rw [q] at h2';cases h2'
 | some m =>
  rw [q] at h2';have h3 : ofC md m = some l:=h2';cases m with
  | nil => cases h3
  | cons j p =>
   have h4 : (match md[j]? with | some (some i) => some (i :: p) | _ => none) = some l:=h3;cases q2 : md[j]? with
   | none => rw [q2] at h4;cases h4
   | some o =>
    rw [q2] at h4;cases o with
    | none => cases h4
    | some i => cases h4;exact ⟨i,j,p,rfl,q2,rfl⟩
theorem Z3C {a : Addr} {l : Lab} (h : W a = some l) : outW W W' md a = some l:=by unfold outW;rw [h]
theorem Zcf {a : Addr} {i j : Nat} {p : Lab} (h : W a = none) (h2 : W' a = some (j :: p)) (h3 : md[j]? = some (some i)) : outW W W' md a = some (i :: p):=by
 unfold outW;rw [h,h2];show (match md[j]? with | some (some i) => some (i :: p) | _ => none) = _;rw [h3]
theorem Outs.new (n : NewW ios' md F W H B Wf) (U : Outs K ios' F (inW W Wf md) H F' W' H' vs O) {a : Addr} {l : Lab} (h : W a = none) (h2 : outW W W' md a = some l) : H a = none:=by
 obtain ⟨i,j,p,e1,e2,_⟩:=Z5D h h2;rcases U.st.wn a _ e1 with z | z
 · rcases Z6y z with ⟨i',j',p',e3,_⟩ | e3
   · rw [h] at e3;cases e3
   · obtain ⟨j',p',e4,_,e5⟩:=(n.at' a _ e3).2.2.2.2;cases e4;rw [e2] at e5;cases e5
 · exact z
theorem Outs.step {Hb : Hp} (so : ∀ a l,W a = some l → ∃ o,H a = some o ∧ nxo o = true) (n : NewW ios' md F W H B Wf) (sb : Same Hb H) (nb : ∀ a l,Wf a = some l → Hb a = none) (U : Outs K ios' F (inW W Wf md) H F' W' H' vs O) : Stp F W Hb F' (outW W W' md) H' where
 fx:=U.st.fx
 fn:=fun a o h n' => by
  rcases U.st.fn a o h n' with z | z
  · exact .inl z
  · exact .inr (sb.free z)
 wx:=fun a l h => Z3C h
 wn:=fun a l h => by
  cases q : W a with
  | some m => rw [Z3C q] at h;exact .inl h
  | none => exact .inr (sb.free (U.new n q h))
 hx:=fun a o h q tn => U.st.hx a o (sb _ _ h) (Zce q (by
  cases e : Wf a with
  | none => rfl
  | some l => rw [nb a l e] at h;cases h)) tn
 hd:=fun a o h => U.st.hd a o (sb _ _ h)
 fk:=fun a o f h => U.st.fk a o f (sb _ _ h)
 tb:=fun P q tw => by
  have i0 : ∀ a o,W a = none → Hb a = some o → inW W Wf md a = none:=fun a o h1 h2 => Zce h1 (by
   cases e : Wf a with
   | none => rfl
   | some l => rw [nb a l e] at h2;cases h2)
  have t0 : TabW F H (inW W Wf md) P q:=tw.of tw.1 i0 fun a o h _ _ => sb _ _ h;obtain ⟨g1,g2,ps,g3,g4,g5⟩:=U.st.tb P q t0;have no : ∀ a o,H' a = some o → TCo o → W' a = none → outW W W' md a = none:=fun a o h c w => by
   cases e : W a with
   | some l =>
    obtain ⟨o',e1,e2⟩:=so a l e;cases e3 : inW W Wf md a with
    | some m =>
     rw [U.st.wx a m e3] at w;cases w
    | none =>
     have:=U.st.hx a o' e1 e3 (Z1y e2);rw [h] at this;cases this;exact (Z6U e2 c).elim
   | none =>
    unfold outW;rw [e,w];rfl
  refine ⟨g1,no _ _ g3 (.inl ⟨ps,rfl⟩) g2,ps,g3,g4,fun pos cv e => ?_⟩;obtain ⟨c,e1,e2,e3⟩:=g5 pos cv e;exact ⟨c,e1,no _ _ e3 (.inr ⟨c,q,rfl⟩) e2,e3⟩
theorem Handed.out {Hb : Hp} (Sb : St K ios B F W E σ Hb) (S : St K ios B F W E σ H) (sb : Same Hb H) (n : NewW ios' md F W H B Wf) (nb : ∀ a l,Wf a = some l → Hb a = none) (ok : mdOk ios' 0 md = true) (h : Handed K F H Wf E σ md vs as) (hm : ∀ (j i : Nat),md[j]? = some (some i) → ∃ v,vs[j]? = some v ∧ σ[i]? = some (some v) ∧ i < E.length)
    (U : Outs K ios' F (inW W Wf md) H F' W' H' vs O) : St K ios B F' (outW W W' md) (back 0 md O E) σ H' where
 fh:=U.fh
 st:=Sb.st.trans (U.step (fun a l h => (S.ow a l h).2) n sb nb)
 nz:=U.nz
 ow:=fun a l z => by
  cases q : W a with
  | some m =>
   obtain ⟨h1,o,h2⟩:=S.ow a m q;cases q2 : inW W Wf md a with
   | some m2 => exact U.ow a m2 (U.st.wx a m2 q2)
   | none => exact ⟨U.st.nf U.fh h1 h2.1 (U.st.hx a o h2.1 q2 (Z1y h2.2)) h2.2,o,U.st.hx a o h2.1 q2 (Z1y h2.2),h2.2⟩
  | none =>
   obtain ⟨i,j,p,e1,_⟩:=Z5D q z;exact U.ow a _ e1
 fr:=fun a l z => by
  cases q : W a with
  | some m => rw [Z3C q] at z;cases z;exact S.fr a _ q
  | none =>
   obtain ⟨i,j,p,_,_,e⟩:=Z5D q z;exact ⟨i,p,e,.inr (S.st.back (U.new n q z))⟩
 w0:=S.w0
 vr:=fun i t d z => by
  by_cases c : some i ∈ md
  · obtain ⟨j,e⟩:=Z8p c;obtain ⟨v,e1,e2,e3⟩:=hm j i e;have hj:=Z4Y ok e;rw [Nat.zero_add] at hj;rw [Zcd ok e e3,Nat.zero_add] at z;have z1 : (O[j]?).join = some (t,d):=Option.some.inj z;have z2 : O[j]? = some (some (t,d)):=by
     cases q : O[j]? with
     | none => rw [q] at z1;cases z1
     | some u => rw [q] at z1;exact congrArg some z1
    refine ⟨v,e2,Jm.relab (p:=[j]) (p':=[i]) (q:=[]) (fun a q y => ?_) (U.vr j v t d hj.1 e1 z2)⟩;cases qw : W a with
    | none => exact Zcf qw y e
    | some m =>
     obtain ⟨_,o,ho,_⟩:=S.ow a m qw;rcases U.st.wn a _ y with w | w
     · rcases Z6y w with ⟨i',j',p',e4,e5,e6,e7⟩ | e4
       · have e5' : j = j' ∧ q = p':=by simpa using e5
         obtain ⟨rfl,rfl⟩:=e5';rw [e] at e7;cases e7;rw [Z3C e4];rfl
       · rw [(n.at' a _ e4).2.1] at qw;cases qw
     · rw [ho] at w;cases w
  · rw [Z9f c] at z;obtain ⟨v,h1,h2⟩:=S.vr i t d z;refine ⟨v,h1,Jm.keepAt (p:=[i]) (q:=[]) U.st.fx (fun a q y => Z3C y) (fun a q o y ho => U.st.hx a o ho (ZaE n y (ZaC c)) (by obtain ⟨_,o',z1,z2⟩:=S.ow a _ y;rw [ho] at z1;cases z1;exact Z1y z2)) h2⟩
 pn:=S.pn
 ln:=by rw [Z5C];exact S.ln
 xo:=S.xo
theorem Fresh.out {Hb : Hp} {Wr : Wm} (S : St K ios B F W E σ H) (fr : Fresh Wr H F' W' H') (sb : Same Hb H) : Fresh Wr Hb F' (outW W W' md) H':=fun a l z => by
 obtain ⟨z1,z2,z3⟩:=fr a l z;refine ⟨sb.free z1, ?_,z3⟩;unfold outW;rw [S.noW z1,z2];rfl
end
def frz (F : Hp) (Wr : Wm) (H : Hp) : Hp:=fun a => match Wr a with
 | some _ => H a
 | none => F a
def lkH (p : Addr → Bool) (ob : Addr → Obj) (H : Hp) : Hp:=fun a => match H a with
 | some (.dT kvs) => if p a = true then some (.frz (ob a) (.dT kvs)) else some (.dT kvs)
 | some (.dK kvs) => if p a = true then some (.frz (ob a) (.dK kvs)) else some (.dK kvs)
 | x => x
theorem Z20 {p : Addr → Bool} {ob : Addr → Obj} {H : Hp} {a : Addr} (h : p a = false) : lkH p ob H a = H a:=by
 unfold lkH;cases q : H a with
 | none => rfl
 | some o => cases o <;> first | rfl | (simp only [h];rfl)
theorem Z4B {p : Addr → Bool} {ob : Addr → Obj} {H : Hp} {a : Addr} (h : H a = none) : lkH p ob H a = none:=by
 unfold lkH;rw [h]
theorem Z5E {p : Addr → Bool} {ob : Addr → Obj} {H : Hp} {a : Addr} {o : HO} (h : H a = some o) : lkH p ob H a = some o ∨ lkH p ob H a = some (.frz (ob a) o):=by
 unfold lkH;rw [h];cases o <;> first | exact .inl rfl | skip
 · by_cases c : p a = true
   · exact .inr (by simp only [c,if_true])
   · exact .inl (by simp only [c];rfl)
 · by_cases c : p a = true
   · exact .inr (by simp only [c,if_true])
   · exact .inl (by simp only [c];rfl)
section
variable {K : KF} {ios : Ios} {B : Bs} {F F' : Hp} {W W' Wr : Wm} {E E' : Nv} {σ : L2.St} {H H' : Hp} {p : Addr → Bool} {ob : Addr → Obj}
theorem NoFz.lk (z : NoFz H) : NoFz (lkH p ob H):=fun a o u e xs => by
 cases q : H a with
 | none => rw [Z4B q] at e;cases e
 | some v =>
  rcases Z5E (p:=p) (ob:=ob) q with k | k
  · rw [k] at e;cases e;exact z a o u q xs
  · unfold lkH at e k;rw [q] at e k;intro hu;subst hu
    split at e
    · split at e <;> cases e
    · split at e <;> cases e
    · exact z a o _ (by rw [q];exact e) xs rfl
theorem Zcg {H : Hp} {p : Addr → Bool} {ob : Addr → Obj} {a : Addr} {o : HO} (h : H a = some o) (c : TCo o) : lkH p ob H a = some o:=by
 unfold lkH;rw [h];rcases c with ⟨_,rfl⟩ | ⟨_,_,rfl⟩
 · rfl
 · unfold LamX.CodeO;rfl
theorem Stp.lk (t : Stp F W H F' W' H') (hp : ∀ a,p a = true → H a = none) : Stp F W H F' W' (lkH p ob H') where
 fx:=t.fx
 fn:=t.fn
 wx:=t.wx
 wn:=t.wn
 hx:=fun a o h n tn => by
  have e:=t.hx a o h n tn;cases q : p a with
  | false => rw [Z20 q];exact e
  | true => rw [hp a q] at h;cases h
 hd:=fun a o h => by
  obtain ⟨o',e⟩:=t.hd a o h;rcases Z5E (p:=p) (ob:=ob) e with k | k
  · exact ⟨_,k⟩
  · exact ⟨_,k⟩
 fk:=fun a o f h => by
  have e:=t.fk a o f h;cases q : p a with
  | false => rw [Z20 q];exact e
  | true => rw [hp a q] at h;cases h
 tb:=fun P q tw => by
  have tw':=t.tb P q tw;exact tw'.of tw'.1 (fun _ _ n _ => n) fun a o h _ c => Zcg h c
theorem St.lk (S : St K ios B F W E σ H) (hp : ∀ a,p a = true → F a = none ∧ W a = none ∧ B.H0 a = none) : St K ios B F W E σ (lkH p ob H) where
 fh:=fun a o h => by
  cases q : p a with
  | false => rw [Z20 q];exact S.fh a o h
  | true => rw [(hp a q).1] at h;cases h
 st:=S.st.lk fun a q => (hp a q).2.2
 nz:=NoFz.lk S.nz
 ow:=fun a l h => by
  obtain ⟨h1,o,h2,h3⟩:=S.ow a l h;refine ⟨h1,o, ?_,h3⟩;cases q : p a with
  | false => rw [Z20 q];exact h2
  | true => rw [(hp a q).2.1] at h;cases h
 fr:=S.fr
 w0:=S.w0
 vr:=fun i t d h => by
  obtain ⟨v,h1,h2⟩:=S.vr i t d h;refine ⟨v,h1,h2.keep (Same.refl F) (fun _ _ q => q) fun a l o w q => ?_⟩;cases c : p a with
  | false => rw [Z20 c];exact q
  | true => rw [(hp a c).2.1] at w;cases w
 pn:=S.pn
 ln:=S.ln
 xo:=S.xo
theorem Fresh.lk (fr : Fresh Wr H F' W' H') : Fresh Wr H F' W' (lkH p ob H'):=fun a l h => by
 obtain ⟨h1,h2,h3,o,h4,h5⟩:=fr a l h;refine ⟨h1,h2,h3, ?_⟩;rcases Z5E (p:=p) (ob:=ob) h4 with k | k
 · exact ⟨o,k,h5⟩
 · exact ⟨_,k,rfl⟩
end
section
variable {K : KF} {ios : Ios} {B : Bs} {F : Hp} {W : Wm} {E : Nv} {σ : L2.St} {H : Hp}
theorem Jm.lshE {lab : Lab} {v : V} {d : D} (h : Jm K F H W (.l .sh) lab v d) : ∃ o vs ds,v = .ref o ∧ d = .lst ds ∧ W o = some lab ∧ H o = some (.lst vs) ∧ ds.length ≤ sizeLine ∧ RepL K F vs ds:=by
 obtain ⟨o,vs,ds,e1,e2,w,ho,z,ln,r⟩:=h;exact ⟨o,vs,ds,e1,e2,w,ho,z,Z1x ln r⟩
end
def one {α : Type} (f : D → Option α) : List D → Option α
 | [d] => f d
 | _ => none
theorem RepL.one {K : KF} {F : Hp} {vs : List V} {d : D} (h : RepL K F vs [d]) : ∃ v,vs = [v] ∧ Rep K F v d:=by
 cases h with
 | cons h1 h2 => cases h2;exact ⟨_,rfl,h1⟩
def Z2h : List D → Option D:=one fun d => (Z3u d).map .tup
def tys : List String:=["int", "bool", "str", "list", "tuple", "dict"]
mutual
def repK : Nat → KF → Value → D → Bool
 | _,_,.none,.non => true
 | _,_,.bool b,.bl c => b == c
 | _,_,.int i _,.int j => decide (i = j)
 | _,_,.str x _,.str y => decide (x = y)
 | n + 1,K,.ref a,.tup ds => (match K.lookup a with
  | some ⟨.type "tuple",_,.seq its _,_⟩ => decide (ds.length ≤ sizeLine) && repKs n K its.toList ds
  | _ => false)
 | _,_,_,_ => false
def repKs : Nat → KF → List Value → List D → Bool
 | _,_,[],[] => true
 | n + 1,K,u :: us,d :: ds => repK n K u d && repKs n K us ds
 | _,_,_,_ => false
end
theorem andB {a b : Bool} (h : (a && b) = true) : a = true ∧ b = true:=Bool.and_eq_true_iff.mp h
def cstB (K : KF) (x : Str) (d : D) : Bool:=match PySem.W.nsIn K mainGlobals x with
 | some (some u) => repK 8 K u d
 | _ => false
def icB (K : KF) (c : Str) : Bool:=(He.Fa.cls c).ok K && (He.eqO (PySem.W.findIn K (.ref (He.ga K c)) "__class__") (some (some (.builtin "object.__class__"))) && (He.eqO (PySem.W.specialIn K (.builtin "object.__class__") "__get__") (some (some (.builtin "getset_descriptor.__get__"))) &&
 (decide (PySem.W.takesIn K (.builtin "object.__class__") = some true) && decide (PySem.W.mroIn K (He.ga K c) (.type "object") = some true))))
def icsB (K : KF) (cs : List Str) : Bool:=cs.all (fun c => icB K c) && ((cs.all fun c => tys.all fun T => decide (PySem.W.kitOne K (.ref (He.ga K c)) (.type T) = some false)) && ((cs.all fun c => ("NoneType" :: tys).all fun T => decide (PySem.W.kitOne K (.type T) (.ref (He.ga K c)) = some false)) &&
 (cs.all fun c => cs.all fun c' => decide (PySem.W.kitOne K (.ref (He.ga K c)) (.ref (He.ga K c')) = some (c == c')))))
def oexC (K : KF) (C : Addr) : Bool:=match K.lookup C with
 | some ⟨.type "type",_,.cls cd,sl⟩ => (match cd.mro,sl.toList with
  | .ref C' :: bm,[_,_,_,_,some (.builtin n),_] => C' == C && (n == "ValueError.__new__" && (cd.hasDict && (!cd.hasDel && PySem.HandSPX.refsVE bm)))
  | _,_ => false)
 | _ => false
def oexB (K : KF) (c : Str) : Bool:=oexC K (He.ga K c) && (He.eqO (PySem.W.findIn K (.ref (He.ga K c)) "__setattr__") (some (some (.builtin "object.__setattr__"))) && (decide (PySem.W.subIn K (.ref (He.ga K c)) (.type "BaseException") = some true) &&
 (decide (PySem.W.typeIn K (.ref (He.ga K c)) = some (.type "type")) && PySem.W.keepIn K (.ref (He.ga K c)))))
def oxiB (K : KF) (c : Str) : Bool:=He.eqO (PySem.W.findIn K (.ref (He.ga K c)) "__init__") (some (some (.ref (He.fAd K (c,some "__init__"))))) && decide (PySem.W.typeIn K (.ref (He.fAd K (c,some "__init__"))) = some (.type "function"))
def goes (o : Obj) : List Addr:=match o.data with
 | .dict es _ => es.toList.flatMap fun e => He.refV e.val
 | .func fd => He.refV fd.code ++ He.refV fd.defaults ++ He.refV fd.kwdefaults
 | .cls cd => cd.ns :: cd.mro.flatMap He.refV
 | .seq its _ => its.toList.flatMap He.refV
 | _ => []
def lvs (g : Addr → Option Obj) : Nat → List Addr → List Addr
 | 0,_ => []
 | n + 1,as => as ++ lvs g n (as.flatMap fun a => match g a with
  | some o => goes o
  | none => [])
structure Md2 (fa : List He.Fa) (fn : List He.DefD) (ex : KF → Bool) (K : KF) (mg : Str → Option Value) : Prop where
 hp : ∃ h : Heap,K.In h ∧ h.Ns mainGlobals mg
 sd : He.SaysD fa fn K
 xt : ex K = true
section
variable {fa : List He.Fa} {fn : List He.DefD} {ex : List (KF → Bool)} {K : KF} {mg : Str → Option Value}
abbrev Md3 (fa : List He.Fa) (fn : List He.DefD) (ex : List (KF → Bool)) (K : KF) (mg : Str → Option Value) : Prop:=Md2 fa fn (fun K => ex.all fun f => f K) K mg
theorem Md2.glo (o : Md3 fa fn ex K mg) (i : Nat) {x : Str} (h : fa[i]? = some (.glo x):=by rfl) : mg x = some (.ref (He.ga K x)):=by
 obtain ⟨hp,a,b⟩:=o.hp;exact He.glo_ok a b (o.sd.fact i h)
theorem Md2.free (o : Md3 fa fn ex K mg) (i : Nat) {x : Str} (h : fa[i]? = some (.free x):=by rfl) : mg x = none:=by
 obtain ⟨hp,a,b⟩:=o.hp;exact He.free_ok a b (o.sd.fact i h)
theorem Md2.x (o : Md3 fa fn ex K mg) (i : Nat) {f : KF → Bool} (h : ex[i]? = some f:=by rfl) : f K = true:=List.all_eq_true.mp o.xt f (List.mem_of_getElem? h)
end
section
variable {K : KF} {ios : Ios} {B : Bs} {F : Hp} {W : Wm} {E : Nv} {σ : L2.St} {H : Hp} {i : Nat}
structure Two (K : KF) (F H : Hp) (W : Wm) (i : Nat) (o : Addr) (vs : List V) (dss : List D) : Prop where
 w : W o = some [i]
 h : H o = some (.lst vs)
 z : dss.length ≤ sizeLine
 ln : vs.length = dss.length
 at' : ∀ (j : Nat) v' d',vs[j]? = some v' → dss[j]? = some d' → Jm K F H W (.l .sh) [i,j] v' d'
theorem Two.row {o : Addr} {vs : List V} {dss : List D} (T : Two K F H W i o vs dss) {n : Nat} {ds : List D} (h : dss[n]? = some (.lst ds)) : ∃ p ws,vs[n]? = some (.ref p) ∧ W p = some [i,n] ∧ H p = some (.lst ws) ∧ ds.length ≤ sizeLine ∧ RepL K F ws ds:=by
 have hn : n < vs.length:=by rw [T.ln];exact (Yn.mp h).1
 have e:=Ym hn;obtain ⟨p,ws,ds',e1,e2,w,hp,z,r⟩:=(T.at' n _ _ e h).lshE;cases e2;exact ⟨p,ws,by rw [e,e1],w,hp,z,r⟩
variable {F2 H2 : Hp} {W2 : Wm} {E2 : Nv}
end
def OwnL (K : KF) (F H : Hp) (Wr : Wm) (vs : List V) (ps : List Ent) : Prop:=vs.length = ps.length ∧ ∀ (j : Nat) v t d,vs[j]? = some v → ps[j]? = some (t,d) → Jm K F H Wr t [j] v d
def allO (t : Ow) (ps : List Ent) : Bool:=ps.all fun p => decide (p.1 = t)
theorem OwnL.list {K : KF} {F H : Hp} {Wr : Wm} {vs : List V} {ps : List Ent} {t : Ow} {p : Addr} (h : OwnL K F H Wr vs ps) (ha : allO t ps = true) (hz : ps.length ≤ sizeLine) (hn : Wr p = none) (hp : H p = some (.lst vs)) :
    Jm K F H (fun a => if a = p then some [] else Wr a) (.l t) [] (.ref p) (.lst (ps.map (·.2))):=by
 refine ⟨p,vs,_,rfl,rfl,Yj rfl,hp,by rw [Yi];exact hz,by rw [Yi];exact h.1,fun j v d e1 e2 => ?_⟩;rw [List.getElem?_map] at e2;cases q : ps[j]? with
 | none => rw [q] at e2;cases e2
 | some pr =>
  obtain ⟨t',d'⟩:=pr;rw [q] at e2;cases e2;have et : t' = t:=Yq (List.all_eq_true.mp ha _ (List.mem_of_getElem? q));subst et;exact Jm.relab (p:=[j]) (p':=[j]) (q:=[]) (fun a q z => by
   show (if a = p then some [] else Wr a) = _;rw [Yk (fun c => by subst c;rw [hn] at z;cases z)];exact z) (h.2 j v t' _ e1 q)
theorem OwnL.nil {K : KF} {F H : Hp} : OwnL K F H noW [] []:=⟨rfl,fun j v t d e1 e2 => by simp at e1⟩
def updX (F : Hp) : Option (Addr × List (Str × V)) → Hp
 | none => F
 | some (d,fs) => upd F d (.xd fs)
def knX (K : KF) (y : Xn) (dx : Option Addr) (F : Hp) : Prop:=(y.ns = [] ∧ y.vs = []) ∨ ∃ d fs,dx = some d ∧ F d = some (.xd fs) ∧ fs.map (·.1) = y.ns ∧ RepL K F (fs.map (·.2)) y.vs
section
variable {K : KF} {ios : Ios} {B : Bs} {F : Hp} {W : Wm} {E : Nv} {σ : L2.St} {H : Hp} {A : Option (Addr × List (Str × V))} {i : Nat} {a : Addr} {dx : Option Addr} {y : Xn}
def AtX (H : Hp) : Option (Addr × List (Str × V)) → Prop
 | none => True
 | some (d,fs) => H d = some (.xd fs)
theorem Z8q (hA : AtX H A) (fh : Same F H) : Same F (updX F A):=by
 cases A with
 | none => exact Same.refl F
 | some p =>
  obtain ⟨d,fs⟩:=p;intro b o h;show upd F d (.xd fs) b = some o;by_cases c : b = d
  · subst c;have h1:=fh _ _ h;rw [show H b = some (.xd fs) from hA] at h1;cases h1;exact upd_same
  · rw [upd_ne c];exact h
end
section
variable {X : Cx} {ios : Ios} {Wx : WX} {x n : Str} {C : Str} {i : Nat} {body suite : List Stmt} {b₀ : Stmt} {np pos pos' : Pos} {g : G} {h : Xn → G} {cs no : List Str}
theorem XRep.at {K : KF} {F H : Hp} {y : Xn} {cls : Value} {dx : Option Addr} (fh : Same F H) (r : XRep K F H y cls dx) : ∃ A : Option (Addr × List (Str × V)),AtX H A ∧ knX K y dx (updX F A):=by
 obtain ⟨_,h | ⟨a,fs,e1,e2,e3,r⟩⟩:=r
 · exact ⟨none,trivial,.inl h⟩
 · exact ⟨some (a,fs),e2,.inr ⟨a,fs,e1,upd_same,e3,r.mono (Z8q (A:=some (a,fs)) e2 fh) _⟩⟩
variable {y : Xn} {a : Addr} {oe : Obj} {cls : Value} {d : Option Addr} {pn : List (Addr × Obj)} {f : Str} {p : Pos}
end
end Dl
namespace Dl
open PySem PySem.Spec PyProof.Rows L2 RZ
variable [Tbs]
def SqX (b : Bool) (K : KF) (H : Hp) (p : Addr) (xs : List V) : Prop:=match b with
 | true => SqT K H p xs
 | false => SqL K H p xs
def IrX (b : Bool) (h : Heap) (i p : Addr) (n : Nat) : Prop:=match b with
 | true => h.IsTupleIter i p n
 | false => h.IsListIter i p n
theorem IrX.ob {b : Bool} {h : Heap} {i p : Addr} {n : Nat} (x : IrX b h i p n) : ∃ o,h.get? i = some o ∧ ∀ v,o.data ≠ .cell v:=by
 cases b
 · obtain ⟨o,e,_,d⟩:=(show h.IsListIter i p n from x);exact ⟨o,e,fun v z => by rw [d] at z;cases z⟩
 · obtain ⟨o,e,_,d⟩:=(show h.IsTupleIter i p n from x);exact ⟨o,e,fun v z => by rw [d] at z;cases z⟩
end Dl
namespace Dl
open PySem PySem.Spec PyProof.Rows L2
variable [Tbs]
def ndB (K : KF) (x : Str) : Bool:=match PySem.W.nsIn K mainGlobals x with
 | some (some (.ref a)) => (match K.lookup a with
  | some o => decide (o.cls = .type "tuple") && o.dict.isNone
  | none => false)
 | _ => false
theorem Md2.nd {fa : List He.Fa} {fn : List He.DefD} {ex : List (KF → Bool)} {K : KF} {mg : Str → Option Value} (o : Md3 fa fn ex K mg) {x : Str} (h : ndB K x = true) {v : V} {u : Value} (hm : mg x = some u) (rv : L2.RelV v u) : ∀ a,v = .ref a → ∃ o,K.lookup a = some o ∧ o.cls = .type "tuple" ∧ o.dict = none:=by
 obtain ⟨hp,X,G⟩:=o.hp;unfold ndB at h
 split at h
 · rename_i b q;have e:=PySem.W.mg_of X G q;rw [hm] at e;cases e;intro a ea;subst ea;cases rv
   split at h
   · rename_i ob qo;obtain ⟨h1,h2⟩:=andB h;exact ⟨ob,qo,Yq h1,by simpa using h2⟩
   · cases h
 · cases h
abbrev Ky:=Key ⊕ List Key
def Z1t : List D → Option (List Key)
 | [] => some []
 | .int i :: r => (Z1t r).map (Sum.inl i :: ·)
 | .str x :: r => (Z1t r).map (Sum.inr x :: ·)
 | _ => none
def kyD : D → Option Ky
 | .int i => some (.inl (.inl i))
 | .str x => some (.inl (.inr x))
 | .tup (.int i :: r) => (Z1t r).map fun k => .inr (.inl i :: k)
 | _ => none
def kno (K : KF) : Bool:=K.all fun p => match p.2 with
 | ⟨.type "tuple",_,.seq its _,_⟩ => (match its.toList with
  | .int _ _ :: _ => false
  | _ => true)
 | _ => true
theorem Z4Z : ∀ {K : List (Addr × Obj)} {a : Addr} {o : Obj},K.lookup a = some o → (a,o) ∈ K
 | [],_,_,h => by cases h
 | (b,u) :: r,a,o,h => by
  by_cases c : a = b
  · subst c;have e : ((a,u) :: r).lookup a = some u:=by simp [List.lookup]
    rw [e] at h;cases h;exact Ya
  · have c2 : (a == b) = false:=by simpa using c
    have e : ((b,u) :: r).lookup a = r.lookup a:=by simp [List.lookup,c2]
    rw [e] at h;exact Yb _ (Z4Z h)
theorem Zg4 {K : KF} (h : kno K = true) {a : Addr} {o : Obj} {its : Array Value} {n : Nat} {i : Int} {r : List V} (e : K.lookup a = some o) (hc : o.cls = .type "tuple") (hd : o.data = .seq its n) (v : Vals (V.int i :: r) its.toList) : False:=by
 have h1:=List.all_eq_true.mp h _ (Z4Z e);obtain ⟨oc,od,dt,sl⟩:=o;simp only at hc hd;subst hc hd;generalize hl : its.toList = l at v;cases v with
 | cons r1 r2 =>
  obtain ⟨t,rfl⟩:=r1;simp only [hl] at h1;cases h1
theorem RepL.keys {K : KF} {F : Hp} : ∀ {vs : List V} {ds : List D} {k : List Key},RepL K F vs ds → Z1t ds = some k → vs = k.map kV
 | _,[],k,r,h => by cases h;cases r;rfl
 | vs,d :: ds,k,r,h => by
  cases r with
  | cons r1 r2 =>
   cases d <;> first | (cases h;done) | skip
   · rename_i i;have h' : (Z1t ds).map (Sum.inl i :: ·) = some k:=h;cases q : Z1t ds with
     | none => rw [q] at h';cases h'
     | some k' => rw [q] at h';cases h';cases r1;rw [r2.keys q];rfl
   · rename_i i;have h' : (Z1t ds).map (Sum.inr i :: ·) = some k:=h;cases q : Z1t ds with
     | none => rw [q] at h';cases h'
     | some k' => rw [q] at h';cases h';cases r1;rw [r2.keys q];rfl
def KyAt (H : Hp) (v : V) : Ky → Prop
 | .inl k => v = kV k
 | .inr k => ∃ b,v = .ref b ∧ H b = some (.tup (k.map kV))
theorem KyAt.mono {F H : Hp} (e : Same F H) {v : V} : ∀ {k : Ky},KyAt F v k → KyAt H v k
 | .inl k,h => h
 | .inr k,⟨b,h1,h2⟩ => ⟨b,h1,e _ _ h2⟩
theorem Rep.key {K : KF} {F : Hp} (kn : kno K = true) (nz : NoFz F) {v : V} {d : D} {k : Ky} (r : Rep K F v d) (h : kyD d = some k) : KyAt F v k:=by
 unfold kyD at h
 split at h
 · cases h;cases r;rfl
 · cases h;cases r;rfl
 · rename_i i ds;cases q : Z1t ds with
   | none => rw [q] at h;cases h
   | some k' =>
    rw [q] at h;cases h;cases r with
    | tup s z rl =>
     have e : _ = (Sum.inl i :: k').map kV:=rl.keys (k:=Sum.inl i :: k') (by show (Z1t ds).map _ = _;rw [q];rfl);subst e;rcases s with (s | ⟨o,s⟩) | ⟨o,its,n,e1,e2,e3,_,e4⟩
     · exact ⟨_,rfl,s⟩
     · exact absurd rfl (nz _ _ _ s _)
     · exact (Zg4 kn e1 e2 e3 e4).elim
 · cases h
def DOr : Bool → Hp → Addr → List D → List V → Prop
 | true,H,o,ks,vs => ∃ kvs : List (List Key × V),Rd H o (.dT kvs) ∧ kvs.map (fun p => D.tup (p.1.map kD)) = ks ∧ kvs.map (·.2) = vs
 | false,H,o,ks,vs => ∃ kvs : List (Key × V),Rd H o (.dK kvs) ∧ kvs.map (fun p => kD p.1) = ks ∧ kvs.map (·.2) = vs
theorem DOb.r {H : Hp} {o : Addr} {ks : List D} {vs : List V} : ∀ {b : Bool},DOb b H o ks vs → DOr b H o ks vs
 | true,⟨kvs,e,q⟩ => ⟨kvs,.inl e,q⟩
 | false,⟨kvs,e,q⟩ => ⟨kvs,.inl e,q⟩
theorem DOr.mono {F H : Hp} (e : Same F H) {o : Addr} {ks : List D} {vs : List V} : ∀ {b : Bool},DOr b F o ks vs → DOr b H o ks vs
 | true,⟨kvs,h,q⟩ => ⟨kvs,Z5S e h,q⟩
 | false,⟨kvs,h,q⟩ => ⟨kvs,Z5S e h,q⟩
theorem OwnL.dict {K : KF} {F H : Hp} {Wr : Wm} {vs : List V} {ps : List Ent} {t : Ow} {p : Addr} {ks : List D} {kv : List (List Key × V)} (h : OwnL K F H Wr vs ps) (ha : allO t ps = true) (hn : Wr p = none) (hp : H p = some (.dT kv)) (e1 : kv.map (fun p => D.tup (p.1.map kD)) = ks) (e2 : kv.map (·.2) = vs) :
    Jm K F H (fun a => if a = p then some [] else Wr a) (.d true t) [] (.ref p) (.dct ks (ps.map (·.2))):=by
 refine ⟨p,vs,ks,_,rfl,rfl,Yj rfl,⟨kv,hp,e1,e2⟩,by rw [Yi];exact h.1,fun j v d e1 e2 => ?_⟩;rw [List.getElem?_map] at e2;cases q : ps[j]? with
 | none => rw [q] at e2;cases e2
 | some pr =>
  obtain ⟨t',d'⟩:=pr;rw [q] at e2;cases e2;have et : t' = t:=Yq (List.all_eq_true.mp ha _ (List.mem_of_getElem? q));subst et;exact Jm.relab (p:=[j]) (p':=[j]) (q:=[]) (fun a q z => by
   show (if a = p then some [] else Wr a) = _;rw [Yk (fun c => by subst c;rw [hn] at z;cases z)];exact z) (h.2 j v t' _ e1 q)
section
variable {K : KF} {ios : Ios} {B : Bs} {F : Hp} {W : Wm} {E : Nv} {σ : L2.St} {H : Hp} {i : Nat}
structure DT (K : KF) (F H : Hp) (W : Wm) (i : Nat) (t : Ow) (o : Addr) (vs : List V) (ks ds : List D) : Prop where
 w : W o = some [i]
 h : DOb true H o ks vs
 ln : vs.length = ds.length
 at' : ∀ (j : Nat) (v' : V) (d' : D),vs[j]? = some v' → ds[j]? = some d' → Jm K F H W t [i,j] v' d'
theorem St.dt (S : St K ios B F W E σ H) {t : Ow} {ks ds : List D} (h : E[i]? = some (some (.d true t,.dct ks ds))) : ∃ o vs,σ[i]? = some (some (.ref o)) ∧ DT K F H W i t o vs ks ds:=by
 obtain ⟨v,h1,o,vs,ks',ds',rfl,e,w,ho,ln,r⟩:=S.vr i _ _ h;cases e;exact ⟨o,vs,h1,w,ho,ln,r⟩
end
end Dl
namespace Dl
open PySem PySem.Spec PyProof.Rows L2 LamX
variable [Tbs]
def bl1 : Option Ent → Option Ent
 | some (.sh,d) => some (.sh,d)
 | _ => none
def bl (E : Nv) : Nv:=E.map bl1
end Dl
namespace Dl
open PySem PySem.Spec PyProof.Rows L2 LamX
abbrev Tfs:=List ((Str × Option Str) × Str)
def tbN (K : KF) (tf : Tfs) (P : Addr) : Option Str:=(tf.find? fun p => (He.cT K p.1).2 == P).map (·.2)
def TbOk [Tbs] (K : KF) (mg : Str → Option Value) (base : Heap) (tf : Tfs) : Prop:=∀ p ∈ tf,TabB base mg (He.cT K p.1).1 (He.cT K p.1).2 ∧ Tbs.n (He.cT K p.1).2 = some p.2
theorem TbOk.at [Tbs] {K : KF} {mg : Str → Option Value} {base : Heap} {tf : Tfs} (t : TbOk K mg base tf) (i : Nat) {p : (Str × Option Str) × Str} (h : tf[i]? = some p:=by rfl) : TabB base mg (He.cT K p.1).1 (He.cT K p.1).2 ∧ Tbs.n (He.cT K p.1).2 = some p.2:=t p (List.mem_of_getElem? h)
def tabK (K : KF) (tf : Tfs) : Bool:=tf.all fun p => PySem.W.codeHdIn K (He.cT K p.1).1 (He.cT K p.1).2 && ((K.lookup (He.cT K p.1).2).isNone && decide (tbN K tf (He.cT K p.1).2 = some p.2))
def tabH (g : Addr → Option Obj) (tf : Tfs) (K : KF) : Bool:=tf.all fun p => match g (He.cT K p.1).2 with
 | some o => He.emptyTab o
 | none => false
structure TabF (K : KF) (tf : Tfs) (h : Heap) : Prop where
 hd : ∀ p ∈ tf,PySem.W.codeHdIn K (He.cT K p.1).1 (He.cT K p.1).2 = true
 out : ∀ p ∈ tf,K.lookup (He.cT K p.1).2 = none
 nm : ∀ p ∈ tf,tbN K tf (He.cT K p.1).2 = some p.2
 em : ∀ p ∈ tf,h.get? (He.cT K p.1).2 = some { cls:=.none,data:=.fields #[] }
theorem Zch {K : KF} {tf : Tfs} {h : Heap} (e1 : tabK K tf = true) (e2 : tabH h.get? tf K = true) : TabF K tf h:=by
 have a1 : ∀ p ∈ tf,_:=fun p hp => List.all_eq_true.mp e1 p hp;refine ⟨fun p hp => (andB (a1 p hp)).1,fun p hp => ?_,fun p hp => Yq (andB (andB (a1 p hp)).2).2,fun p hp => ?_⟩
 · have:=(andB (andB (a1 p hp)).2).1;cases q : K.lookup (He.cT K p.1).2 with
   | none => rfl
   | some o => rw [q] at this;cases this
 · have:=List.all_eq_true.mp e2 p hp;cases q : h.get? (He.cT K p.1).2 with
   | none => rw [q] at this;cases this
   | some o => rw [q] at this;rw [He.emptyTab_eq this]
abbrev AlL : Type:=(He.AlD × Bool) × Bool
def obL (n : Nat) (fa : List He.Fa) (fn : List He.DefD) (ex : KF → Bool) (tf : Tfs) (g : Addr → Option Obj) : AlL :=
 (fun K : KF => ((He.obsD fa fn K,ex K),tabK K tf && tabH g tf K)) (He.frG g (lvs g n [mainGlobals]))
def ZhB (n : Nat) (fa : List He.Fa) (fn : List He.DefD) (ex : KF → Bool) (tf : Tfs) : PySem.W.Hook where
 α:=AlL
 obs:=fun s => obL n fa fn ex tf s.heap.get?
 val:=fun _ => ((He.valD fn,true),true)
 says:=fun _ h => ∃ K : KF,K.In h ∧ He.SaysD fa fn K ∧ ex K = true ∧ TabF K tf h
 of:=fun _ s e => ⟨He.frG s.heap.get? (lvs s.heap.get? n [mainGlobals]),He.frG_in,congrArg (fun z : AlL => z.1.1) e,congrArg (fun z : AlL => z.1.2) e,by
  have e2 : (tabK (He.frG s.heap.get? (lvs s.heap.get? n [mainGlobals])) tf && tabH s.heap.get? tf (He.frG s.heap.get? (lvs s.heap.get? n [mainGlobals]))) = true:=congrArg (fun z : AlL => z.2) e;exact Zch (andB e2).1 (andB e2).2⟩
 keeps:=fun _ _ _ ⟨K,hK,c1,c2,t⟩ k => ⟨K,PySem.W.Frag.In.keeps hK k,c1,c2,⟨t.hd,t.out,t.nm,fun p hp => k _ _ (t.em p hp)⟩⟩
theorem Zg5 {n : Nat} {fa : List He.Fa} {fn : List He.DefD} {ex : KF → Bool} {tf : Tfs} {g : Addr → Option Obj} {s : Shared} (h : ∀ a,g a = s.heap.get? a) : obL n fa fn ex tf g = (ZhB n fa fn ex tf).obs s:=by
 have e : g = s.heap.get?:=funext h;rw [e] <;> rfl
end Dl
namespace Ks
open PySem PySem.Spec PyProof.Rows L2
section
variable {P : Program} {w : World} {κ : Type} [DecidableEq κ] {knd : KeyKind P w κ}
structure Set0 (knd : KeyKind P w κ) (es : Array (Int × Value)) (t : SetTable) (zs : List ((Int × Value) × κ)) : Prop where
 pm : es.toList.Perm (zs.map (·.1))
 gd : ∀ z ∈ zs,(knd.is z.2 z.1.2 = true ∧ z.1.1 = knd.hash z.2) ∧ z.1.2.scannable = true
 nd : (zs.map (·.2)).Nodup
 bd : es.size < scanBound
 ft : t.fits es.size = true
 rs : Ris t.place.toList
 ld : w.params.followText "set-order" = true ∨ t.led = true
theorem Set0.size {es : Array (Int × Value)} {t : SetTable} {zs : List ((Int × Value) × κ)} (z : Set0 knd es t zs) : es.size = zs.length:=by
 rw [← Array.length_toList,z.pm.length_eq,Yi]
def SetG (knd : KeyKind P w κ) (h : Heap) (a : Addr) (S : κ → Bool) (n : Nat) : Prop:=∃ o es ep t zs,h.get? a = some o ∧ o.ExactSet ∧ o.data = .set es ep t ∧ Set0 knd es t zs ∧ (∀ k,S k = true ↔ k ∈ zs.map (·.2)) ∧ zs.length = n
theorem SetG.at {h h' : Heap} {a : Addr} {S : κ → Bool} {n : Nat} (R : SetG knd h a S n) (k : ∀ o,h.get? a = some o → h'.get? a = some o) : SetG knd h' a S n:=by
 obtain ⟨o,es,ep,t,zs,ho,r⟩:=R;exact ⟨o,es,ep,t,zs,k o ho,r⟩
end
end Ks
namespace Dl
open PySem PySem.Spec PyProof.Rows L2 GenW
open Sem (wp)
def junk : GenState → GenState
 | .suspended _ l c p fs cl => .suspended (fun _ => .unsupported "no") l c p fs cl
 | A => A
def Zci : GenState → Bool
 | .suspended .. => true
 | _ => false
def Zim : Frame → Bool
 | .ret .. => true
 | .gen .. => false
def noG (fs : List Frame) : Prop:=∀ F ∈ fs,Zim F = true
def okG : GenState → Prop
 | .suspended _ _ _ _ fs _ => noG fs
 | _ => True
def Jk (A B : GenState) : Prop:=(A = B ∧ okG A) ∨ (Zci A = true ∧ B = junk A)
structure Sim (s1 s2 : Shared) : Prop where
 eq : s1 = { s2 with gens:=s1.gens }
 sz : s1.gens.size = s2.gens.size
 at' : ∀ (i : Nat) A B,s1.gens[i]? = some A → s2.gens[i]? = some B → Jk A B
def KpI (i : Nat) (s1 s2 s1' s2' : Shared) : Prop:=(∀ A,s1.gens[i]? = some A → s2.gens[i]? = some (junk A) → Zci A = true → s1'.gens[i]? = some A ∧ s2'.gens[i]? = some (junk A)) ∧
 (s1.gens[i]? = some .running → s2.gens[i]? = some .running → s1'.gens[i]? = some .running ∧ s2'.gens[i]? = some .running)
def Kp (s1 s2 s1' s2' : Shared) : Prop:=∀ i : Nat,KpI i s1 s2 s1' s2'
theorem Kp.refl (s1 s2 : Shared) : Kp s1 s2 s1 s2:=fun _ => ⟨fun _ h1 h2 _ => ⟨h1,h2⟩,fun h1 h2 => ⟨h1,h2⟩⟩
theorem KpI.trans {i : Nat} {a1 a2 b1 b2 c1 c2 : Shared} (h : KpI i a1 a2 b1 b2) (k : KpI i b1 b2 c1 c2) : KpI i a1 a2 c1 c2 :=
 ⟨fun A h1 h2 h3 => let ⟨e1,e2⟩:=h.1 A h1 h2 h3;k.1 A e1 e2 h3,fun h1 h2 => let ⟨e1,e2⟩:=h.2 h1 h2;k.2 e1 e2⟩
theorem Kp.trans {a1 a2 b1 b2 c1 c2 : Shared} (h : Kp a1 a2 b1 b2) (k : Kp b1 b2 c1 c2) : Kp a1 a2 c1 c2:=fun i => (h i).trans (k i)
theorem Sim.hp {s1 s2 : Shared} (S : Sim s1 s2) : s1.heap = s2.heap ∧ s1.toks = s2.toks ∧ s1.drawn = s2.drawn ∧ s1.os = s2.os:=by rw [S.eq];exact ⟨rfl,rfl,rfl,rfl⟩
theorem Z21 {s : Shared} {g i : Nat} {x : GenState} : (s.setGen g x).gens[i]? = if g = i then (if g < s.gens.size then some x else none) else s.gens[i]?:=by
 unfold Shared.setGen;rw [Array.getElem?_setIfInBounds]
theorem Sim.set {s1 s2 : Shared} (S : Sim s1 s2) {g : Nat} {x : GenState} (hx : okG x) : Sim (s1.setGen g x) (s2.setGen g x) ∧ ∀ i,g ≠ i → KpI i s1 s2 (s1.setGen g x) (s2.setGen g x):=by
 have e1 : s1 = { s2 with gens:=s1.gens }:=S.eq;refine ⟨⟨?_, ?_,fun i A B h1 h2 => ?_⟩,fun i ne => ⟨fun A h1 h2 h3 => ?_,fun h1 h2 => ?_⟩⟩
 · rw [e1];rfl
 · rw [setGen_size,setGen_size];exact S.sz
 · rw [Z21] at h1 h2;by_cases c : g = i
   · rw [Yj c] at h1 h2
     split at h1
     · rw [Yj (by rw [← S.sz];assumption)] at h2;cases h1;cases h2;exact .inl ⟨rfl,hx⟩
     · cases h1
   · rw [Yk c] at h1 h2;exact S.at' i A B h1 h2
 · rw [Z21,Z21,Yk ne,Yk ne];exact ⟨h1,h2⟩
 · rw [Z21,Z21,Yk ne,Yk ne];exact ⟨h1,h2⟩
end Dl
namespace Dl
open PySem PySem.Spec PyProof.Rows L2 GenW
structure GE2 (α : Type) where
 lim : Nat
 cnt : α → Nat
 lk : α → List (Addr × Obj) → Prop
 out : α → V → Hp → (α → Hp → Prop) → Prop
 nx : α → L2.St → Hp → Prop
 bk : α → L2.St → Hp → Prop:=fun _ _ _ => False
 ct : α → L2.St → Hp → Prop:=fun _ _ _ => False
end Dl
namespace Dl
open PySem PySem.Spec PyProof.Rows L2 GenW
variable [Tbs]
structure Stg where
 i : Nat
 F : Hp
 H : Hp
 zs : List V
def Gof (J : Stg → Prop) (p : Stg) (F H : Hp) : Stg → Hp → Prop:=fun p' H2 => p'.i = p.i + 1 ∧ p'.H = H2 ∧ Same p'.F H2 ∧ NoFz H2 ∧ Stp F Dl.noW H p'.F Dl.noW H2 ∧ J p'
def OutOk (K : KF) (ds : List D) (J : Stg → Prop) (ge : GE2 Stg) : Prop:=ge.cnt = Stg.i ∧ ds.length ≤ ge.lim ∧ ∀ (p : Stg) (x : V) (F H : Hp) (d : D),J p → ds[p.i]? = some d → Same F H → NoFz H → Tbo F H Dl.noW → Stp p.F Dl.noW p.H F Dl.noW H → Rep K F x d → ge.out p x H (Gof J p F H)
theorem OutOk.of {K : KF} {ds : List D} {J : Stg → Prop} {ge : GE2 Stg} (h : OutOk K ds J ge) {nx bk ct : Stg → L2.St → Hp → Prop} : OutOk K ds J { lim:=ge.lim,cnt:=ge.cnt,lk:=ge.lk,out:=ge.out,nx:=nx,bk:=bk,ct:=ct }:=h
end Dl
namespace Dl
open PySem PySem.Spec PyProof.Rows L2 RZ
variable [Tbs]
abbrev Src:=Bool × Addr × List V
inductive SrcR (K : KF) (F : Hp) : List Src → List (List D) → Prop
 | nil : SrcR K F [] []
 | cons {c : Src} {l : List D} {cs ls} : RepL K F c.2.2 l → (∀ F' H,Same F F' → Same F' H → SqX c.1 K H c.2.1 c.2.2) → SrcR K F cs ls → SrcR K F (c :: cs) (l :: ls)
theorem SrcR.back {K : KF} {F : Hp} : ∀ {cs ls},SrcR K F cs ls → ∀ l ∈ ls,∃ c ∈ cs,c.2.2.length = l.length
 | _,_,.cons r w q,c,h => by
  rcases Yc.mp h with rfl | h
  · exact ⟨_,Ya ..,r.length⟩
  · obtain ⟨l,hl,z⟩:=q.back c h;exact ⟨l,Yb _ hl,z⟩
theorem SrcR.row {K : KF} {F : Hp} {n : Nat} : ∀ {cs ls xs},SrcR K F cs ls → cs.map (fun c : Src => c.2.2[n]?) = xs.map some → RepL K F xs (ls.map fun l => l[n]?.getD .non)
 | _,_,[],.nil,_ => .nil
 | _,_,x :: xs,.cons r w q,h => by
  rw [List.map_cons,List.map_cons] at h;injection h with h1 h2;obtain ⟨d,e,rd⟩:=r.getV h1;rw [List.map_cons,e];exact .cons rd (q.row h2)
end Dl
namespace Dl
open PySem PySem.Spec PyProof.Rows L2 GenW
def XEc (X : Cx) (W : WX) (C : Addr) (u : Value) (s' : Shared) : Prop :=
 ∃ (a : Addr) (B : Heap) (sI : Shared) (pins : List (Addr × Obj)) (σ : L2.St) (H : Hp) (cls : Value) (d : Option Addr),
  u = .ref a ∧ Inv X pins σ H sI ∧ (∀ b o,sI.heap.get? b = some o → b ∉ frs X.stack → B.get? b = some o) ∧ sI.heap.UpToSlots s'.heap ∧
   HandSPX.FlyingZ B X.stack a (Zc cls d) s'.heap ∧ H a = none ∧ s'.os = sI.os ∧ AllBare s'.gens ∧ W cls d σ H ∧ B.get? C = none ∧ sI.heap.get? C = none
section
variable {X : Cx} {pins : List (Addr × Obj)} {σ : L2.St} {H : Hp} {s s' : Shared} {W : WX} {E : XK} {C : Addr}
theorem XEc.gens {u : Value} (x : XEc X W C u s') {G : Array GenState} (ag : AllBare G) : XEc X W C u { s' with gens:=G }:=by
 obtain ⟨a,B,sI,pins,σ,H,cls,d,e,I,nb,up,fl,na,os,_,w,z1,z2⟩:=x;exact ⟨a,B,sI,pins,σ,H,cls,d,e,I,nb,up,fl,na,os,ag,w,z1,z2⟩
end
end Dl
namespace Dl
open PySem PySem.Spec PyProof.Rows L2
variable [Tbs]
def lfV : V → Option Leaf
 | .int i => some (.num i)
 | .bl b => some (.num (if b = true then 1 else 0))
 | .str x => some (.text x)
 | _ => none
def lfD : D → Option Leaf
 | .int i => some (.num i)
 | .bl b => some (.num (if b = true then 1 else 0))
 | .str x => some (.text x)
 | _ => none
def lfsV : List V → Option (List Leaf)
 | [] => some []
 | v :: r => match lfV v,lfsV r with
  | some k,some ks => some (k :: ks)
  | _,_ => none
def lfsD : List D → Option (List Leaf)
 | [] => some []
 | v :: r => match lfD v,lfsD r with
  | some k,some ks => some (k :: ks)
  | _,_ => none
theorem ZaF {K : KF} {F : Hp} {v : V} {d : D} (r : Rep K F v d) {k : Leaf} (e : lfD d = some k) : lfV v = some k:=by
 cases r <;> first | exact e | cases e
theorem Z2F {K : KF} {F : Hp} : ∀ {vs : List V} {ds : List D} {ks : List Leaf},RepL K F vs ds → lfsD ds = some ks → lfsV vs = some ks
 | [],_,ks,r,e => by cases r;exact e
 | v :: vs,_,ks,r,e => by
  cases r with
  | @cons _ _ d ds r1 r2 =>
   unfold lfsD at e;cases q1 : lfD d with
   | none => rw [q1] at e;cases e
   | some k =>
    cases q2 : lfsD ds with
    | none => rw [q1,q2] at e;cases e
    | some kr =>
     rw [q1,q2] at e;unfold lfsV;rw [ZaF r1 q1,Z2F r2 q2];exact e
abbrev Lkv:=List Leaf × Addr × V
def ZaG (K : KF) (H : Hp) (kvs : List Lkv) : Prop:=∀ p ∈ kvs,∃ vs,SqT K H p.2.1 vs ∧ lfsV vs = some p.1
section
variable {X : Cx} {pins : List (Addr × Obj)} {σ : L2.St} {H : Hp} {s : Shared} {a b : Addr} {kvs : List Lkv}
def lval (kvs : List Lkv) (k : List Leaf) : Option V:=(kvs.find? fun p => decide (p.1 = k)).map fun p => p.2.2
end
end Dl
namespace Dl
open PySem PySem.Spec PySem.Calls PyProof.Rows L2 LamX
variable [Tbs]
abbrev Dkv:=List Leaf × D × D
def lvD (dk : List Dkv) (k : List Leaf) : Option D:=(dk.find? fun p => decide (p.1 = k)).map fun p => p.2.2
abbrev LRep (K : KF) (F : Hp) : List Lkv → List Dkv → Prop:=Paired fun p q => p.1 = q.1 ∧ (∃ ds,q.2.1 = .tup ds ∧ lfsD ds = some q.1) ∧ Rep K F (.ref p.2.1) q.2.1 ∧ Rep K F p.2.2 q.2.2
theorem LRep.mono {K : KF} {F F' : Hp} (e : Same F F') {kvs : List Lkv} {dk : List Dkv} (r : LRep K F kvs dk) : LRep K F' kvs dk:=L2.Paired.mapP r fun _ _ h => ⟨h.1,h.2.1,h.2.2.1.mono e _,h.2.2.2.mono e _⟩
theorem LRep.keys {K : KF} {F H : Hp} (fh : Same F H) {kvs : List Lkv} {dk : List Dkv} (r : LRep K F kvs dk) : ZaG K H kvs:=by
 induction r with
 | nil => intro p m;cases m
 | @cons p q ps qs h t ih =>
  intro x m;rcases Yc.mp m with rfl | m
  · obtain ⟨h1,⟨ds,e1,e2⟩,h3,_⟩:=h;rw [e1] at h3;generalize hv : V.ref x.2.1 = vv at h3;cases h3 with
    | tup s z rl =>
     cases hv;exact ⟨_,ZZc fh s,by rw [Z2F rl e2,h1]⟩
  · exact ih x m
theorem LRep.val {K : KF} {F : Hp} {kvs : List Lkv} {dk : List Dkv} (r : LRep K F kvs dk) (k : List Leaf) {v : V} {d : D} (rv : Rep K F v d) : (lval kvs k).isSome = (lvD dk k).isSome ∧ Rep K F ((lval kvs k).getD v) ((lvD dk k).getD d):=by
 unfold lval lvD
 induction r with
 | nil => exact ⟨rfl,rv⟩
 | @cons p q ps qs h t ih =>
  rw [List.find?_cons,List.find?_cons,← h.1];by_cases c : p.1 = k
  · rw [Yp c];exact ⟨rfl,h.2.2.2⟩
  · rw [decide_eq_false c];exact ih
theorem LRep.ks {K : KF} {F : Hp} {kvs : List Lkv} {dk : List Dkv} (r : LRep K F kvs dk) : RepL K F ((kvs.map fun p => (V.ref p.2.1,p.2.2)).map (·.1)) (dk.map fun p => p.2.1):=by
 induction r with
 | nil => exact .nil
 | cons h t ih => exact .cons h.2.2.1 ih
theorem LRep.vs {K : KF} {F : Hp} {kvs : List Lkv} {dk : List Dkv} (r : LRep K F kvs dk) : RepL K F ((kvs.map fun p => (V.ref p.2.1,p.2.2)).map (·.2)) (dk.map fun p => p.2.2):=by
 induction r with
 | nil => exact .nil
 | cons h t ih => exact .cons h.2.2.2 ih
end Dl
namespace Lb
open PySem PySem.Spec PyProof.Rows L2 Dl
structure Sz where
 ev : Int
 wi : Int
def Big (x : Int) : Prop:=-1000000000000000 ≤ x ∧ x ≤ 1000000000000000
inductive Tel (z : Sz) : D → Prop where
 | mk (w e x : Int) : 0 ≤ w → w < z.wi → 0 ≤ e → e < z.ev → Big x → Tel z (.tup [.int w,.int e,.int x])
inductive Gap (z : Sz) : D → Prop where
 | mk (a b g : Int) : 0 ≤ a → a < z.ev → 0 ≤ b → b < z.ev → a ≠ b → Big g → Gap z (.tup [.int a,.int b,.int g])
inductive Sur (z : Sz) : D → Prop where
 | mk (e : Int) (s : Str) (x : Int) : 0 ≤ e → e < z.ev → (s = "least" ∨ s = "most") → Big x → Sur z (.tup [.int e,.str s,.int x])
inductive Cla (z : Sz) : D → Prop where
 | mk (w : Int) (k : Str) (v : Int) (l : Str) : 0 ≤ w → w < z.wi → (k = "early" ∨ k = "late") → 0 ≤ v → v < z.wi → (l = "early" ∨ l = "late") → Cla z (.tup [.int w,.str k,.int v,.str l])
def Itm (z : Sz) : Nat → D → Prop
 | 0 => Tel z
 | 1 => Gap z
 | 2 => Sur z
 | _ => Cla z
inductive Part (z : Sz) (k : Nat) : D → List D → Prop where
 | l (ds : List D) : (∀ d ∈ ds,Itm z k d) → ds.length ≤ 24 → Part z k (.lst ds) ds
 | t (ds : List D) : (∀ d ∈ ds,Itm z k d) → ds.length ≤ 24 → Part z k (.tup ds) ds
theorem Part.seq {z : Sz} {k : Nat} {d : D} {ds : List D} (h : Part z k d ds) : Z3u d = some ds:=by cases h <;> rfl
theorem Part.tup {z : Sz} {k : Nat} {d : D} {ds : List D} (h : Part z k d ds) : Z2h [d] = some (.tup ds):=by cases h <;> rfl
def Fit (k N : Nat) (d : D) : Prop:=∃ p,toP d = some p ∧ p.showable = true ∧ p.hasDict = false ∧ p.canLay0 = true ∧ p.leavesShort 1921 = true ∧ p.depth ≤ k ∧ p.bulk ≤ N
theorem Fit.up {k N k' N' : Nat} {d : D} (h : Fit k N d) (a : k ≤ k') (b : N ≤ N') : Fit k' N' d:=by
 obtain ⟨p,h1,h2,h3,h4,h5,h6,h7⟩:=h;exact ⟨p,h1,h2,h3,h4,h5,Nat.le_trans h6 a,Nat.le_trans h7 b⟩
theorem fits {k N : Nat} : ∀ {xs : List D},(∀ d ∈ xs,Fit k N d) → ∃ ps,toPs xs = some ps ∧ PyData.showableAll ps = true ∧ PyData.hasDictAll ps = false ∧ PyData.canLayAll0 ps = true ∧ PyData.leavesShortAll 1921 ps = true ∧ PyData.depthAll ps ≤ k ∧ PyData.bulkAll ps ≤ xs.length * (N + 1)
 | [],_ => ⟨[],by unfold toPs;rfl,by unfold PyData.showableAll;rfl,by unfold PyData.hasDictAll;rfl,by unfold PyData.canLayAll0;rfl,by unfold PyData.leavesShortAll;rfl,by unfold PyData.depthAll;omega,by unfold PyData.bulkAll;omega⟩
 | x :: xs,h => by
  obtain ⟨p,e1,e2,e3,e4,e5,e6,e7⟩:=h x Ya;obtain ⟨ps,f1,f2,f3,f4,f5,f6,f7⟩:=fits (xs:=xs) fun d m => h d (Yb _ m);refine ⟨p :: ps, ?_, ?_, ?_, ?_, ?_, ?_, ?_⟩
  · unfold toPs;rw [e1,f1]
  · unfold PyData.showableAll;rw [e2,f2];rfl
  · unfold PyData.hasDictAll;rw [e3,f3];rfl
  · unfold PyData.canLayAll0;rw [e4,f4];rfl
  · unfold PyData.leavesShortAll;rw [e5,f5];rfl
  · unfold PyData.depthAll;omega
  · unfold PyData.bulkAll;rw [List.length_cons,Nat.add_mul,Nat.one_mul];omega
end Lb
namespace Gk
open PySem PySem.Spec PyProof.Rows L2 Dl Lb
end Gk
end
local macro_rules | `(~~~$x) => `(some (Dl.Ow.sh,$x))
namespace Gk
open PySem PySem.Spec PyProof.Rows L2 Dl
def top (i : Nat) : Stmt:=PySem.Challenge.pw_earlyorlate_k72_shifts_of_kinds.main.body.getD i (.Pass ⟨0,0,0,0⟩)
def fn0 : List He.DefD:=[⟨("_law_all_kinds",none), "_law_all_kinds", "_law_all_kinds",defArgs (top 50),defBody (top 50),defScope (top 50),[],[]⟩,⟨("_law_bag",none), "_law_bag", "_law_bag",defArgs (top 41),defBody (top 41),defScope (top 41),[],[]⟩,⟨("Wrong",some "__init__"), "__init__", "Wrong.__init__",defArgs (inClass (top 3) 0),defBody (inClass (top 3) 0),defScope (inClass (top 3) 0),[],[]⟩,⟨("BadItem",some "__init__"), "__init__", "BadItem.__init__",defArgs (inClass (top 4) 0),defBody (inClass (top 4) 0),defScope (inClass (top 4) 0),[],[]⟩,⟨("TooMany",some "__init__"), "__init__", "TooMany.__init__",defArgs (inClass (top 5) 0),defBody (inClass (top 5) 0),defScope (inClass (top 5) 0),[],[]⟩,⟨("is_integer",none), "is_integer", "is_integer",defArgs (top 11),defBody (top 11),defScope (top 11),[],[]⟩,⟨("is_index",none), "is_index", "is_index",defArgs (top 14),defBody (top 14),defScope (top 14),[],[]⟩,⟨("is_number",none), "is_number", "is_number",defArgs (top 12),defBody (top 12),defScope (top 12),[],[]⟩,⟨("is_side",none), "is_side", "is_side",defArgs (top 20),defBody (top 20),defScope (top 20),[],[]⟩,⟨("bound_checks",none), "bound_checks", "bound_checks",defArgs (top 23),defBody (top 23),defScope (top 23),[],[]⟩,⟨("is_kind",none), "is_kind", "is_kind",defArgs (top 13),defBody (top 13),defScope (top 13),[],[]⟩,⟨("clause_checks",none), "clause_checks", "clause_checks",defArgs (top 24),defBody (top 24),defScope (top 24),[],[]⟩,⟨("gap_checks",none), "gap_checks", "gap_checks",defArgs (top 22),defBody (top 22),defScope (top 22),[],[]⟩,⟨("telling_checks",none), "telling_checks", "telling_checks",defArgs (top 21),defBody (top 21),defScope (top 21),[],[]⟩,⟨("checks",none), "checks", "checks",defArgs (top 25),defBody (top 25),defScope (top 25),[],[]⟩,⟨("is_row",none), "is_row", "is_row",defArgs (top 15),defBody (top 15),defScope (top 15),[],[]⟩,⟨("check_part",none), "check_part", "check_part",defArgs (top 26),defBody (top 26),defScope (top 26),[],[]⟩,⟨("Book",some "__init__"), "__init__", "Book.__init__",defArgs (inClass (top 27) 0),defBody (inClass (top 27) 0),defScope (inClass (top 27) 0),[.adr (He.dflAt ("Book",some "__init__") 0),.adr (He.dflAt ("Book",some "__init__") 1),.adr (He.dflAt ("Book",some "__init__") 2),.adr (He.dflAt ("Book",some "__init__") 3)],[]⟩,⟨("_law_book",none), "_law_book", "_law_book",defArgs (top 47),defBody (top 47),defScope (top 47),[],[]⟩,⟨("_law_take",none), "_law_take", "_law_take",defArgs (top 42),defBody (top 42),defScope (top 42),[],[]⟩]
def fn1 : List He.DefD:=[⟨("_law_one",none), "_law_one", "_law_one",defArgs (top 43),defBody (top 43),defScope (top 43),[],[]⟩,⟨("_law_far_gaps",none), "_law_far_gaps", "_law_far_gaps",defArgs (top 53),defBody (top 53),defScope (top 53),[],[]⟩,⟨("_law_few",none), "_law_few", "_law_few",defArgs (top 52),defBody (top 52),defScope (top 52),[],[]⟩,⟨("_law_keeps",none), "_law_keeps", "_law_keeps",defArgs (top 48),defBody (top 48),defScope (top 48),[],[]⟩,⟨("_law_kind",none), "_law_kind", "_law_kind",defArgs (top 45),defBody (top 45),defScope (top 45),[],[]⟩,⟨("_law_kept_parts",none), "_law_kept_parts", "_law_kept_parts",defArgs (top 51),defBody (top 51),defScope (top 51),[],[]⟩,⟨("_law_number",none), "_law_number", "_law_number",defArgs (top 44),defBody (top 44),defScope (top 44),[],[]⟩,⟨("_law_parts",none), "_law_parts", "_law_parts",defArgs (top 46),defBody (top 46),defScope (top 46),[],[]⟩,⟨("_law_sums",none), "_law_sums", "_law_sums",defArgs (top 49),defBody (top 49),defScope (top 49),[],[]⟩,⟨("_law_two_clocks",none), "_law_two_clocks", "_law_two_clocks",defArgs (top 54),defBody (top 54),defScope (top 54),[],[]⟩,⟨("NoFit",some "__init__"), "__init__", "NoFit.__init__",defArgs (inClass (top 6) 0),defBody (inClass (top 6) 0),defScope (inClass (top 6) 0),[],[]⟩,⟨("put_together",none), "put_together", "put_together",defArgs (top 30),defBody (top 30),defScope (top 30),[],[]⟩,⟨("searched",none), "searched", "searched",defArgs (top 29),defBody (top 29),defScope (top 29),[],[]⟩,⟨("best_ways",none), "best_ways", "best_ways",defArgs (top 31),defBody (top 31),defScope (top 31),[],[]⟩,⟨("keeps_clauses",none), "keeps_clauses", "keeps_clauses",defArgs (top 34),defBody (top 34),defScope (top 34),[],[]⟩,⟨("ring",none), "ring", "ring",defArgs (top 32),defBody (top 32),defScope (top 32),[],[]⟩,⟨("strongest",none), "strongest", "strongest",defArgs (top 35),defBody (top 35),defScope (top 35),[],[]⟩,⟨("ceilings_of",none), "ceilings_of", "ceilings_of",defArgs (top 37),defBody (top 37),defScope (top 37),[],[]⟩,⟨("floors_of",none), "floors_of", "floors_of",defArgs (top 36),defBody (top 36),defScope (top 36),[],[]⟩,⟨("stretch_by",none), "stretch_by", "stretch_by",defArgs (top 38),defBody (top 38),defScope (top 38),[],[]⟩]
def fn2 : List He.DefD:=[⟨("shift_stretch",none), "shift_stretch", "shift_stretch",defArgs (top 39),defBody (top 39),defScope (top 39),[],[]⟩,⟨("law",none), "law", "law",defArgs (top 55),defBody (top 55),defScope (top 55),[],[]⟩]
def fn : List He.DefD:=fn0 ++ fn1 ++ fn2
def fa0 : List He.Fa:=[.free "range",.free "list",.free "abs",.noat "Wrong" "place",.noat "BadItem" "place",.noat "BadItem" "index",.noat "TooMany" "limit",.free "bool",.free "isinstance",.free "int",.glo "is_integer",.free "str",.glo "is_number",.glo "is_side",.glo "is_index",.glo "is_kind",.glo "telling_checks",.glo "gap_checks",.glo "bound_checks",.glo "clause_checks"]
def fa1 : List He.Fa:=[.free "len",.free "tuple",.glo "TooMany",.free "enumerate",.glo "checks",.free "all",.glo "is_row",.glo "BadItem",.glo "Wrong",.glo "check_part",.noat "Book" "events",.noat "Book" "witnesses",.noat "Book" "tellings",.noat "Book" "gaps",.noat "Book" "sure",.noat "Book" "clauses",.mkr "Book",.glo "Book",.glo "_law_take",.glo "_law_one"]
def fa2 : List He.Fa:=[.glo "_law_kind",.glo "_law_keeps",.glo "_law_number",.glo "_law_sums",.noat "NoFit" "reason",.glo "put_together",.glo "searched",.glo "NoFit",.free "min",.glo "strongest",.free "max",.glo "ceilings_of",.glo "floors_of",.glo "keeps_clauses",.glo "ring",.glo "best_ways",.glo "stretch_by",.glo "_law_bag",.glo "_law_parts",.glo "_law_kept_parts"]
def fa3 : List He.Fa:=[.glo "_law_far_gaps",.glo "_law_few",.glo "_law_book",.glo "_law_all_kinds",.glo "_law_two_clocks",.glo "shift_stretch",.free "repr",.glo "law"]
def fa : List He.Fa:=fa0 ++ fa1 ++ fa2 ++ fa3
def ex0 : List (KF → Bool):=[fun K => oexB K "Wrong",fun K => oexB K "BadItem",fun K => oexB K "TooMany",fun K => icsB K ["Book"],fun K => cstB K "GREATEST" (.int (1000000000000000)),fun K => cstB K "SIDES" (.tup [.str "least",.str "most"]),fun K => cstB K "LATE" (.str "late"),fun K => cstB K "EARLY" (.str "early"),fun K => cstB K "ITEMS" (.int 24),fun K => oxiB K "TooMany",fun K => oxiB K "BadItem",fun K => cstB K "SIZE" (.int 8),fun K => oxiB K "Wrong",fun K => icB K "Book",fun K => oexB K "NoFit",fun K => oxiB K "NoFit"]
def ex : List (KF → Bool):=ex0
def Zg6 : List Str:=["_wall", "CaseError", "Wrong", "BadItem", "TooMany", "NoFit", "EARLY", "LATE", "GREATEST", "is_integer", "is_number", "is_kind", "is_index", "is_row", "SIZE", "ITEMS", "SIDES", "is_side", "telling_checks", "gap_checks"]
def Zg7 : List Str:=["bound_checks", "clause_checks", "checks", "check_part", "Book", "searched", "put_together", "best_ways", "ring", "keeps_clauses", "strongest", "floors_of", "ceilings_of", "stretch_by", "shift_stretch", "_law_bag", "_law_take", "_law_one", "_law_number", "_law_kind"]
def Zg8 : List Str:=["_law_parts", "_law_book", "_law_keeps", "_law_sums", "_law_all_kinds", "_law_kept_parts", "_law_few", "_law_far_gaps", "_law_two_clocks"]
def loose : List Str:=Zg6 ++ Zg7 ++ Zg8
def tfs : Tfs:=[(("ceilings_of",none), "ceilings_of.<locals>.<lambda>"),(("floors_of",none), "floors_of.<locals>.<lambda>")]
abbrev R : PySem.W.OpenRow:=PySem.W.OpenLaw.row PySem.Challenge.rw_earlyorlate_k72_shifts_of_kinds
abbrev hk : PySem.W.Hook:=ZhB 6 fa fn (fun K => ex.all fun f => f K) tfs
def ob (s : PySem.W.SharedT) : AlL:=obL 6 fa fn (fun K => ex.all fun f => f K) tfs (HandSHeadRun.getT s)
theorem Zin (s : PySem.W.SharedT) : ob s = hk.obs s.abs:=Zg5 (HandSHeadRun.getT_eq s)
theorem run (w : World) : HandSHeadRun.RunEq R (PySem.W.view R.prog [55]) hk ob 20000 loose w:=by
 intro os
 kernel_rfl
end Gk
section
namespace Dl
open PySem PySem.Spec PyProof.Rows L2
mutual
def imm : D → Bool
 | .lst _ => false
 | .dct _ _ => false
 | .ldc _ _ => false
 | .tup xs => immL xs
 | .ins _ _ vs => immL vs
 | .non => true
 | .bl _ => true
 | .int _ => true
 | .str _ => true
 | .ty _ => true
 | .cl _ => true
 | .frl _ => false
def immL : List D → Bool
 | [] => true
 | x :: r => imm x && immL r
end
def immO : HO → Bool
 | .tup _ => true
 | .ins _ _ _ => true
 | _ => false
mutual
theorem Rep.restr {K : KF} {F' G : Hp} (e : ∀ a o,F' a = some o → immO o = true → G a = some o) (nz : NoFz F') : ∀ {v : V} (d : D),imm d = true → Rep K F' v d → Rep K G v d
 | _,.non,_,h => by cases h;exact .non
 | _,.bl b,_,h => by cases h;exact .bl b
 | _,.int i,_,h => by cases h;exact .int i
 | _,.str x,_,h => by cases h;exact .str x
 | _,.ty n,_,h => by cases h;exact .ty n
 | _,.cl c,_,h => by cases h;exact .cl c
 | _,.frl ns,i,h => by cases (show false = true from i)
 | _,.lst ds,i,h => by
  have i' : false = true:=i;cases i'
 | _,.tup ds,i,h => by
  cases h with
  | tup s z r =>
   refine .tup ?_ z (RepL.restr e nz ds i r);rcases s with (s | ⟨o,s⟩) | s
   · exact .inl (.inl (e _ _ s rfl))
   · exact absurd rfl (nz _ _ _ s _)
   · exact .inr s
 | _,.dct ks ds,i,h => by
  have i' : false = true:=i;cases i'
 | _,.ldc ks ds,i,h => by
  have i' : false = true:=i;cases i'
 | _,.ins c ns ds,i,h => by
  cases h with
  | ins s k n r => exact .ins (e _ _ s rfl) k n (RepL.restr e nz ds i r)
theorem RepL.restr {K : KF} {F' G : Hp} (e : ∀ a o,F' a = some o → immO o = true → G a = some o) (nz : NoFz F') : ∀ {vs : List V} (ds : List D),immL ds = true → RepL K F' vs ds → RepL K G vs ds
 | _,[],_,h => by cases h;exact .nil
 | _,d :: ds,i,h => by
  have i' : (imm d && immL ds) = true:=i;have ⟨i1,i2⟩:=Bool.and_eq_true_iff.mp i';cases h with
  | cons h1 h2 => exact .cons (Rep.restr e nz d i1 h1) (RepL.restr e nz ds i2 h2)
end
theorem RepL.get {K : KF} {F : Hp} : ∀ {vs : List V} {ds : List D} {i : Nat} {d : D},RepL K F vs ds → ds[i]? = some d → ∃ v,vs[i]? = some v ∧ Rep K F v d
 | [],_,i,d,h,e => by cases h;simp at e
 | v :: vs,_,0,d,h,e => by
  cases h with
  | cons h1 _ => simp at e;subst e;exact ⟨v,rfl,h1⟩
 | v :: vs,_,i + 1,d,h,e => by
  cases h with
  | cons _ h2 =>
   obtain ⟨u,e1,e2⟩:=RepL.get (i:=i) h2 (by simpa using e);exact ⟨u,by simpa using e1,e2⟩
theorem RepL.app {K : KF} {F : Hp} : ∀ {vs ws : List V} {ds es : List D},RepL K F vs ds → RepL K F ws es → RepL K F (vs ++ ws) (ds ++ es)
 | [],_,_,_,h,h' => by cases h;exact h'
 | v :: vs,_,_,_,h,h' => by
  cases h with
  | cons h1 h2 => exact .cons h1 (h2.app h')
theorem RepL.take {K : KF} {F : Hp} : ∀ {vs : List V} {ds : List D} (n : Nat),RepL K F vs ds → RepL K F (vs.take n) (ds.take n)
 | _,_,0,_ => by rw [List.take_zero,List.take_zero];exact .nil
 | [],_,n + 1,h => by cases h;exact .nil
 | v :: vs,_,n + 1,h => by
  cases h with
  | cons h1 h2 => exact .cons h1 (h2.take n)
theorem RepL.drop {K : KF} {F : Hp} : ∀ {vs : List V} {ds : List D} (n : Nat),RepL K F vs ds → RepL K F (vs.drop n) (ds.drop n)
 | _,_,0,h => h
 | [],_,n + 1,h => by cases h;exact .nil
 | v :: vs,_,n + 1,h => by
  cases h with
  | cons h1 h2 => exact h2.drop n
theorem RepL.ofInts {K : KF} {F : Hp} : ∀ (ns : List Int),RepL K F (ns.map V.int) (ns.map D.int)
 | [] => .nil
 | n :: r => .cons (.int n) (RepL.ofInts r)
def Zc4 : HO → Bool
 | .dT _ => true
 | .dK _ => true
 | _ => false
def noO : Ow → Bool
 | .sh => true
 | .l t => noO t
 | .d _ _ => false
 | .m t => noO t
 | .r _ => true
 | .o => false
 | .g => true
section
variable [Tbs]
theorem Zio {F : Hp} {W : Wm} {H F' : Hp} {H' : Hp} (fn : ∀ a o,F' a = some o → Z6w o = false → F a = some o ∨ H a = none) (fh : Same F' H') (hx : ∀ a o,H a = some o → W a = none → TCo o → H' a = some o) : ∀ P,F P = none → (∃ ps,H P = some (.tbl ps)) → W P = none → F' P = none:=fun P h1 ⟨ps,h2⟩ h3 => by
 cases q : F' P with
 | none => rfl
 | some u =>
  have e:=fh P u q;rw [hx P _ h2 h3 (.inl ⟨ps,rfl⟩)] at e;cases e;rcases fn P _ q rfl with z | z
  · rw [h1] at z;cases z
  · rw [h2] at z;cases z
end
theorem OwnB.rep {K : KF} {F H G : Hp} {W : Wm} {lab : Lab} {v : V} {d : D} (e : Same F G) (hh : ∀ a o,W a = some lab → H a = some o → immO o = false ∧ Zc4 o = false → G a = some o) : ∀ {t : Bool},OwnB K F H W t lab v d → Rep K G v d
 | true,h => by
  obtain ⟨p,ws,es,rfl,rfl,w,hp,z,r⟩:=h;exact .lst (hh _ _ w hp ⟨rfl,rfl⟩) z (r.mono e _)
 | false,h => Rep.mono e d h
theorem OwnG.rep {K : KF} {F H G : Hp} {W : Wm} {lab : Lab} {v : V} {d : D} (e : Same F G) (hh : ∀ a i o,W a = some (lab ++ [i]) → H a = some o → immO o = false ∧ Zc4 o = false → G a = some o) (h : OwnG K F H W lab v d) : Rep K G v d:=by
 obtain ⟨a,ws,es,rfl,rfl,s,z,ln,r⟩:=h;exact .tup (ZZc e s) z (Z1x ln fun i w d' x y => (r i w d' x y).rep e fun a o w h i' => hh a i o w h i')
theorem Jm.rep {K : KF} {F H G : Hp} {W : Wm} {p : Lab} (e : Same F G) (hh : ∀ a q o,W a = some (p ++ q) → H a = some o → immO o = false → G a = some o) : ∀ {t : Ow} {q : Lab} {v : V} {d : D},noO t = true → Jm K F H W t (p ++ q) v d → Rep K G v d
 | .g,q,v,d,_,h => by
  obtain ⟨o,vs,ds,rfl,rfl,w,ho,z,ln,r⟩:=h;refine .lst (hh _ _ _ w ho rfl) z (Z1x ln fun j v' d' a b => (r j v' d' a b).rep e fun a i o w h i' => ?_);rw [Yt,Yt] at w;exact hh _ _ _ w h i'.1
 | .sh,_,_,d,_,h => Rep.mono e d h
 | .l t,q,v,d,n,h => by
  obtain ⟨o,vs,ds,rfl,rfl,w,ho,z,ln,r⟩:=h;refine .lst (hh _ _ _ w ho rfl) z (Z1x ln fun j v' d' a b => ?_);have h1:=r j v' d' a b;rw [Yt] at h1;exact Jm.rep e hh (show noO t = true from n) h1
 | .m t,q,v,d,n,h => by
  rcases h with ⟨o,vs,ds,rfl,rfl,w,ho,z,ln,r⟩ | ⟨_,r⟩
  · refine .lst (hh _ _ _ w ho rfl) z (Z1x ln fun j v' d' a b => ?_);have h1:=r j v' d' a b;rw [Yt] at h1;exact Jm.rep e hh (show noO t = true from n) h1
  · exact Rep.mono e d r
 | .r bs,q,v,d,n,h => by
  obtain ⟨o,vs,ds,rfl,rfl,w,ho,z,ln,lb,r⟩:=h;refine .lst (hh _ _ _ w ho rfl) z (Z1x ln fun j v' d' a b => ?_);obtain ⟨t,c⟩ : ∃ t,bs[j]? = some t:=⟨bs[j]'(by rw [lb];exact (Yn.mp b).1),Ym _⟩;exact (r j v' d' t a b c).rep e fun a o w h i => by
   rw [Yt] at w;exact hh _ _ _ w h i.1
 | .d b t,q,v,d,n,h => by cases (show false = true from n)
 | .o,q,v,d,n,h => by cases (show false = true from n)
theorem Jm.repO {K : KF} {F H G : Hp} {W : Wm} {p : Lab} (e : Same F G) (hh : ∀ a q o,W a = some (p ++ q) → H a = some o → Zc4 o = false → G a = some o) (hl : ∀ a q o,W a = some (p ++ q) → H a = some o → Zc4 o = true → ∃ ob,G a = some (.frz ob o)) : ∀ {t : Ow} {q : Lab} {v : V} {d : D},Jm K F H W t (p ++ q) v d → Rep K G v d
 | .g,q,v,d,h => by
  obtain ⟨o,vs,ds,rfl,rfl,w,ho,z,ln,r⟩:=h;refine .lst (hh _ _ _ w ho rfl) z (Z1x ln fun j v' d' a b => (r j v' d' a b).rep e fun a i o w h i' => ?_);rw [Yt,Yt] at w;exact hh _ _ _ w h i'.2
 | .sh,_,_,d,h => Rep.mono e d h
 | .l t,q,v,d,h => by
  obtain ⟨o,vs,ds,rfl,rfl,w,ho,z,ln,r⟩:=h;refine .lst (hh _ _ _ w ho rfl) z (Z1x ln fun j v' d' a b => ?_);have h1:=r j v' d' a b;rw [Yt] at h1;exact Jm.repO e hh hl h1
 | .m t,q,v,d,h => by
  rcases h with ⟨o,vs,ds,rfl,rfl,w,ho,z,ln,r⟩ | ⟨_,r⟩
  · refine .lst (hh _ _ _ w ho rfl) z (Z1x ln fun j v' d' a b => ?_);have h1:=r j v' d' a b;rw [Yt] at h1;exact Jm.repO e hh hl h1
  · exact Rep.mono e d r
 | .r bs,q,v,d,h => by
  obtain ⟨o,vs,ds,rfl,rfl,w,ho,z,ln,lb,r⟩:=h;refine .lst (hh _ _ _ w ho rfl) z (Z1x ln fun j v' d' a b => ?_);obtain ⟨t,c⟩ : ∃ t,bs[j]? = some t:=⟨bs[j]'(by rw [lb];exact (Yn.mp b).1),Ym _⟩;exact (r j v' d' t a b c).rep e fun a o w h i => by
   rw [Yt] at w;exact hh _ _ _ w h i.2
 | .d true t,q,v,d,h => by
  obtain ⟨o,vs,ks,ds,rfl,rfl,w,⟨kvs,ho,k1,k2⟩,ln,r⟩:=h;have r' : RepL K G vs ds:=Z1x ln fun j v' d' a b => by
   have h1:=r j v' d' a b;rw [Yt] at h1;exact Jm.repO e hh hl h1
  subst k2;obtain ⟨ob,hg⟩:=hl _ _ _ w ho rfl;exact .dt hg k1 r'
 | .d false t,q,v,d,h => by
  obtain ⟨o,vs,ks,ds,rfl,rfl,w,⟨kvs,ho,k1,k2⟩,ln,r⟩:=h;have r' : RepL K G vs ds:=Z1x ln fun j v' d' a b => by
   have h1:=r j v' d' a b;rw [Yt] at h1;exact Jm.repO e hh hl h1
  subst k2;obtain ⟨ob,hg⟩:=hl _ _ _ w ho rfl;exact .dk hg k1 r'
 | .o,q,v,d,h => by
  obtain ⟨x,C,dx,fs,c,ns,ds,rfl,rfl,w,ho,k,n,z,r⟩:=h;exact .ins (hh _ _ _ w ho rfl) k n (r.mono e _)
end Dl
namespace Dl
open PySem PySem.Spec PyProof.Rows L2
variable [Tbs]
def nxd : HO → Bool
 | .xd _ => false
 | .ext _ => false
 | _ => true
theorem Gr.stp {F H F' H' : Hp} (g : Gr F H F' H') (W : Wm) : Stp F W H F' W H' :=
 .mk6 g.fx g.fn (fun _ _ h => h) (fun _ _ h => .inl h) (fun a o h _ => g.hx a o h) (fun a o h => ⟨o,g.hx a o h⟩) (fun a o _ h => g.hx a o h) (Zio g.fn g.fh fun a o h _ _ => g.hx a o h)
section
variable {K : KF} {ios : Ios} {B : Bs} {F F' : Hp} {W W' : Wm} {E : Nv} {σ : L2.St} {H H' : Hp}
theorem St.grow (S : St K ios B F W E σ H) (g : Gr F H F' H') : St K ios B F' W E σ H' where
 fh:=g.fh
 st:=S.st.trans (g.stp W)
 nz:=g.nz S.nz
 ow:=fun a l h => by
  obtain ⟨h1,o,h2⟩:=S.ow a l h;exact ⟨(g.stp W).nf g.fh h1 h2.1 (g.hx a o h2.1) h2.2,o,g.hx a o h2.1,h2.2⟩
 fr:=S.fr
 w0:=S.w0
 vr:=fun i t d h => by
  obtain ⟨v,h1,h2⟩:=S.vr i t d h;exact ⟨v,h1,h2.keep g.fx (fun _ _ q => q) fun a l o _ q => g.hx a o q⟩
 pn:=S.pn
 ln:=S.ln
 xo:=S.xo
variable {Wx : WX} {α β γ δ : Type} {R : Hp → β → α → Prop} {R' : Hp → δ → γ → Prop} {Q : β → Hp → Prop} {Q' : δ → Hp → Prop}
theorem Pst.grown {a : α} {b : β} (h : Pst K ios B Wx σ R F W H (Zr a E) Q) (S : St K ios B F W E σ H) (g : Gr F H F' H') (r : R F' b a) : Q b H':=h F' W H' b (S.grow g) (g.stp W) r
end
structure PP (X : Cx) (ios : Ios) (Wx : WX) (e : Expr) (f : M D) : Prop where
 ex : ∃ t : TE,PE X e t ∧ ∀ B F W E σ H Q,St X.K ios B F W E σ H → Pst X.K ios B Wx σ (Rep X.K) F W H (f E) Q → t σ H Q
structure PB (X : Cx) (ios : Ios) (Wx : WX) (e : Expr) (f : M Bool) : Prop where
 ex : ∃ t : TT,PT X e t ∧ ∀ B F W E σ H Q,St X.K ios B F W E σ H → Pst X.K ios B Wx σ (fun _ (b : Bool) a => b = a) F W H (f E) Q → t σ H Q
structure PBW (X : Cx) (ios : Ios) (Wx : WX) (e : Expr) (f : M Bool) : Prop where
 ex : ∃ t : TT,PW X e t ∧ ∀ B F W E σ H Q,St X.K ios B F W E σ H → Pst X.K ios B Wx σ (fun _ (b : Bool) a => b = a) F W H (f E) Q → t σ H Q
structure PL (X : Cx) (ios : Ios) (Wx : WX) (es : List Expr) (f : M (List D)) : Prop where
 ex : ∃ t : TA,PA X es t ∧ ∀ B F W E σ H Q,St X.K ios B F W E σ H → Pst X.K ios B Wx σ (RepL X.K) F W H (f E) Q → t σ H Q
section
variable {X : Cx} {ios : Ios} {Wx : WX} {a b c e : Expr} {es : List Expr} {fa fb fc : M D} {pos : Pos}
theorem Z0 (i : Nat) {x : Str} (hN : X.N[i]? = some x:=by rfl) (hv : Vis X.env.scope x:=by first | exact Or.inl rfl | exact Or.inr (Or.inl rfl) | exact Or.inr (Or.inr rfl)) (hd : (x == ("__debug__" : Str)) = false:=by decide)
    (hcd : (x == ("__classdict__" : Str)) = false:=by decide) : PP X ios Wx (.Name x pos) (rd i):=by
 refine ⟨_,pe_var hN hv hd hcd,fun B F W E σ H Q S h => ?_⟩;unfold rd at h;cases q : E[i]? with
 | none => rw [q] at h;exact h.elim
 | some o =>
  rw [q] at h;cases o with
  | none => exact h.elim
  | some p =>
   obtain ⟨t,d⟩:=p;obtain ⟨v,h1,h2⟩:=S.vr i t d q;cases t with
   | sh => exact ⟨v,h1,h F W H v S (Stp.refl F W H) h2⟩
   | l t => exact h.elim
   | d b t => exact h.elim
   | o => exact h.elim
   | m t => exact h.elim
   | r t => exact h.elim
   | g => exact h.elim
theorem pp_c {v : V} {d : D} (h : PE X e (tC v)) (r : ∀ F : Hp,Rep X.K F v d) : PP X ios Wx e (Zr d):=⟨_,h,fun B F W E σ H Q S k => k.done S (r F)⟩
theorem Z2 {i j} : PP X ios Wx (.Constant (.int i) j pos) (Zr (.int i)):=pp_c pe_int fun _ => .int i
theorem ZfO {b j} : PP X ios Wx (.Constant (.bool b) j pos) (Zr (.bl b)):=pp_c pe_bl fun _ => .bl b
theorem ZQ {j} : PP X ios Wx (.Constant .none j pos) (Zr .non):=pp_c pe_non fun _ => .non
theorem Z2u {x j} : PP X ios Wx (.Constant (.str x) j pos) (Zr (.str x)):=pp_c pe_str fun _ => .str x
theorem Z3e {x : Str} {v : V} {u : Value} {d : D} (hg : Gl X x) (hm : X.mg x = some u) (r : RelV v u) (rep : ∀ F : Hp,Rep X.K F v d) (hd : (x == ("__debug__" : Str)) = false:=by decide) : PP X ios Wx (.Name x pos) (Zr d):=pp_c (pe_glob hg hm r hd) rep
def OpD (K : KF) (r : R2) (g : D → D → Option D) : Prop:=∀ (F H : Hp) (x y : V) (d e z : D) (Q : VK),Same F H → Rep K F x d → Rep K F y e → g d e = some z → (∀ F' H' v,Gr F H F' H' → Rep K F' v z → Q v H') → r x y H Q
theorem OpD.or {K : KF} {r r' : R2} {g g' : D → D → Option D} (h : OpD K r g) (h' : OpD K r' g') : OpD K (fun x y H Q => r x y H Q ∨ r' x y H Q) (fun d e => (g d e).or (g' d e)):=by
 intro F H x y d e z Q fh rx ry hz q;cases q1 : g d e with
 | some z' =>
  have ez : z' = z:=by
   have hz' : ((g d e).or (g' d e)) = some z:=hz;rw [q1] at hz';exact Option.some.inj hz'
  subst ez;exact .inl (h F H x y d e _ Q fh rx ry q1 q)
 | none =>
  have hz' : ((g d e).or (g' d e)) = some z:=hz;rw [q1] at hz';exact .inr (h' F H x y d e _ Q fh rx ry hz' q)
theorem ZI {op : Operator} {r : R2} {g : D → D → Option D} (ho : OpR X (binaryOp op) r) (hd : OpD X.K r g) (ha : PP X ios Wx a fa) (hb : PP X ios Wx b fb) : PP X ios Wx (.BinOp a op b pos) (bnd fa fun x => bnd fb fun y => ofO (g x y)):=by
 obtain ⟨ta,pa,ra⟩:=ha.ex;obtain ⟨tb,pb,rb⟩:=hb.ex;refine ⟨_,pe_op ho pa pb,fun B F W E σ H Q S h => ?_⟩;refine ra B F W E σ H _ S (Pst.seq h fun F1 W1 H1 x d E1 S1 s1 r1 h1 => ?_);refine rb B F1 W1 E1 σ H1 _ S1 (Pst.seq h1 fun F2 W2 H2 y e E2 S2 s2 r2 h2 => ?_);obtain ⟨z,ez,h3⟩:=h2.some;exact hd F2 H2 x y d e z Q S2.fh (r1.mono s2.fx d) r2 ez fun F' H' v g rr => h3.grown S2 g rr
theorem Z1z {op : CmpOp} {r : R2} {g : D → D → Option D} (ho : OpR X (compareOp op) r) (hd : OpD X.K r g) (ha : PP X ios Wx a fa) (hb : PP X ios Wx b fb) (hm : behindInMarks op b = false) : PP X ios Wx (.Compare a [op] [b] pos) (bnd fa fun x => bnd fb fun y => ofO (g x y)):=by
 obtain ⟨ta,pa,ra⟩:=ha.ex;obtain ⟨tb,pb,rb⟩:=hb.ex;refine ⟨_,pe_cmpR ho pa pb hm,fun B F W E σ H Q S h => ?_⟩;refine ra B F W E σ H _ S (Pst.seq h fun F1 W1 H1 x d E1 S1 s1 r1 h1 => ?_);refine rb B F1 W1 E1 σ H1 _ S1 (Pst.seq h1 fun F2 W2 H2 y e E2 S2 s2 r2 h2 => ?_);obtain ⟨z,ez,h3⟩:=h2.some;exact hd F2 H2 x y d e z Q S2.fh (r1.mono s2.fx d) r2 ez fun F' H' v g rr => h3.grown S2 g rr
def toB : D → Option Bool
 | .bl b => some b
 | _ => none
theorem Ze {op : CmpOp} {r : R2} {g : D → D → Option D} (ho : OpR X (compareOp op) r) (hd : OpD X.K r g) (ha : PP X ios Wx a fa) (hb : PP X ios Wx b fb) (hm : behindInMarks op b = false) : PB X ios Wx (.Compare a [op] [b] pos) (bnd fa fun x => bnd fb fun y => ofO ((g x y).bind toB)):=by
 obtain ⟨ta,pa,ra⟩:=ha.ex;obtain ⟨tb,pb,rb⟩:=hb.ex;refine ⟨_,pt_cmpR ho pa pb hm,fun B F W E σ H Q S h => ?_⟩;refine ra B F W E σ H _ S (Pst.seq h fun F1 W1 H1 x d E1 S1 s1 r1 h1 => ?_);refine rb B F1 W1 E1 σ H1 _ S1 (Pst.seq h1 fun F2 W2 H2 y e E2 S2 s2 r2 h2 => ?_);obtain ⟨z,ez,h3⟩:=h2.some;cases q : g d e with
 | none => rw [q] at ez;cases ez
 | some z' =>
  rw [q] at ez;cases z' with
  | bl k =>
   cases ez;refine hd F2 H2 x y d e _ _ S2.fh (r1.mono s2.fx d) r2 q fun F' H' v g rr => ?_;cases rr;exact ⟨_,rfl,h3.grown S2 g rfl⟩
  | _ => cases ez
theorem Z6V {op op' : CmpOp} {r r' : R2} {g g' : D → D → Option D} (ho : OpR X (compareOp op) r) (hd : OpD X.K r g) (ho' : OpR X (compareOp op') r') (hd' : OpD X.K r' g') (ha : PP X ios Wx a fa) (hb : PP X ios Wx b fb) (hc : PP X ios Wx c fc)
    (hm : lastMarks [op,op'] [b,c] = false:=by with_unfolding_all rfl) :
    PP X ios Wx (.Compare a [op,op'] [b,c] pos) (bnd fa fun x => bnd fb fun y => bnd (ofO ((g x y).bind toB)) fun k => if k = true then bnd fc fun z => ofO (g' y z) else Zr (.bl false)):=by
 obtain ⟨ta,pa,ra⟩:=ha.ex;obtain ⟨tb,pb,rb⟩:=hb.ex;obtain ⟨tc,pc,rc⟩:=hc.ex;refine ⟨_,pe_chain ho ho' pa pb pc hm,fun B F W E σ H Q S h => ?_⟩;refine ra B F W E σ H _ S (Pst.seq h fun F1 W1 H1 x d E1 S1 s1 r1 h1 => ?_);refine rb B F1 W1 E1 σ H1 _ S1 (Pst.seq h1 fun F2 W2 H2 y e E2 S2 s2 r2 h2 => ?_);cases q : g d e with
 | none => rw [q] at h2;exact h2.elim
 | some z' =>
  rw [q] at h2;cases z' with
  | bl k =>
   refine hd F2 H2 x y d e _ _ S2.fh (r1.mono s2.fx d) r2 q fun F3 H3 v g3 rr => ?_;cases rr;refine ⟨_,rfl, ?_⟩;have S3:=S2.grow g3;have h3:=Pst.from (g3.stp W2) h2;cases k with
   | false => exact h3.done S3 (.bl false)
   | true =>
    refine rc B F3 W2 E2 σ H3 _ S3 (Pst.seq h3 fun F4 W4 H4 w f E4 S4 s4 r4 h4 => ?_);obtain ⟨u,eu,h5⟩:=h4.some;exact hd' F4 H4 y w e f u Q S4.fh (r2.mono (g3.fx.trans s4.fx) e) r4 eu fun F' H' v g rr => h5.grown S4 g rr
  | _ => exact h2.elim
def UnD (K : KF) (r : V → Hp → VK → Prop) (g : D → Option D) : Prop:=∀ (F H : Hp) (x : V) (d z : D) (Q : VK),Same F H → Rep K F x d → g d = some z → (∀ F' H' v,Gr F H F' H' → Rep K F' v z → Q v H') → r x H Q
theorem Zg9 {op : UnaryOp} {r : V → Hp → VK → Prop} {g : D → Option D} (ho : UnR X (unaryOp op) r) (hd : UnD X.K r g) (ha : PP X ios Wx a fa) : PP X ios Wx (.UnaryOp op a pos) (bnd fa fun x => ofO (g x)):=by
 obtain ⟨ta,pa,ra⟩:=ha.ex;refine ⟨_,pe_un ho pa,fun B F W E σ H Q S h => ?_⟩;refine ra B F W E σ H _ S (Pst.seq h fun F1 W1 H1 x d E1 S1 s1 r1 h1 => ?_);obtain ⟨z,ez,h3⟩:=h1.some;exact hd F1 H1 x d z Q S1.fh r1 ez fun F' H' v g rr => h3.grown S1 g rr
theorem Z4 : PL X ios Wx [] (Zr []):=⟨_,pa_nil,fun B F W E σ H Q S h => h.done S .nil⟩
theorem Z1 {fs : M (List D)} (ha : PP X ios Wx a fa) (hr : PL X ios Wx es fs) (hs : starEach (a :: es) X.env = (false,eval a X.env) :: starEach es X.env:=by rfl) : PL X ios Wx (a :: es) (bnd fa fun x => bnd fs fun xs => Zr (x :: xs)):=by
 obtain ⟨ta,pa,ra⟩:=ha.ex;obtain ⟨tr,pr,rr⟩:=hr.ex;refine ⟨_,pa_cons pa pr hs,fun B F W E σ H Q S h => ?_⟩;refine ra B F W E σ H _ S (Pst.seq h fun F1 W1 H1 x d E1 S1 s1 r1 h1 => ?_);refine rr B F1 W1 E1 σ H1 _ S1 (Pst.seq h1 fun F2 W2 H2 y e E2 S2 s2 r2 h2 => ?_);exact h2.done S2 (.cons (r1.mono s2.fx d) r2)
def Z2X (n : Nat) : Bool:=decide (n ≤ sizeLine)
theorem Zz {k : Nat} {fs : M (List D)} (h : PL X ios Wx es fs) : PP X ios Wx (.Tuple es k pos) (bnd fs fun xs => if Z2X xs.length = true then Zr (.tup xs) else Z6x):=by
 obtain ⟨t,p,r⟩:=h.ex;refine ⟨_,pe_tup p,fun B F W E σ H Q S h => ?_⟩;refine r B F W E σ H _ S (Pst.seq h fun F1 W1 H1 x d E1 S1 s1 r1 h1 => ?_);by_cases hz : Z2X d.length = true
 · rw [Yj hz] at h1;have hz' : d.length ≤ sizeLine:=Yq hz;refine ⟨by rw [r1.length];exact hz',fun p hp => ?_⟩;have g : Gr F1 H1 (upd F1 p (.tup x)) (upd H1 p (.tup x)):=Gr.new S1.fh hp fun _ _ z => by cases z
   exact h1.grown S1 g (.tup (SqT.of upd_same) hz' (r1.mono g.fx d))
 · rw [Yk hz] at h1;exact h1.elim
theorem Z3m {fs : M (List D)} (h : PL X ios Wx es fs) : PP X ios Wx (.List es pos) (bnd fs fun xs => if Z2X xs.length = true then Zr (.lst xs) else Z6x):=by
 obtain ⟨t,p,r⟩:=h.ex;refine ⟨_,pe_lst p,fun B F W E σ H Q S h => ?_⟩;refine r B F W E σ H _ S (Pst.seq h fun F1 W1 H1 x d E1 S1 s1 r1 h1 => ?_);by_cases hz : Z2X d.length = true
 · rw [Yj hz] at h1;have hz' : d.length ≤ sizeLine:=Yq hz;refine ⟨by rw [r1.length];exact hz',fun p hp => ?_⟩;have g : Gr F1 H1 (upd F1 p (.lst x)) (upd H1 p (.lst x)):=Gr.new S1.fh hp fun _ _ z => by cases z
   exact h1.grown S1 g (.lst upd_same hz' (r1.mono g.fx d))
 · rw [Yk hz] at h1;exact h1.elim
end
def shr1 : Option Ent → Option Ent
 | some (t,d) => if noO t = true then ~~~d else none
 | none => none
def shr (E : Nv) : Nv:=E.map shr1
theorem Zcj {E : Nv} {i : Nat} {t : Ow} {d : D} (h : (shr E)[i]? = some (some (t,d))) : t = .sh ∧ ∃ t0,noO t0 = true ∧ E[i]? = some (some (t0,d)):=by
 unfold shr at h;rw [List.getElem?_map] at h;cases q : E[i]? with
 | none => rw [q] at h;cases h
 | some o =>
  rw [q] at h;cases o with
  | none =>
   have h' : (some none : Option (Option Ent)) = some (some (t,d)):=h;cases h'
  | some p =>
   obtain ⟨t0,d0⟩:=p;have h' : (some (if noO t0 = true then some (Ow.sh,d0) else none) : Option (Option Ent)) = some (some (t,d)):=h;by_cases c : noO t0 = true
   · rw [Yj c] at h';cases h';exact ⟨rfl,t0,c,rfl⟩
   · rw [Yk c] at h';cases h'
theorem Zck (E : Nv) : (shr E).length = E.length:=by unfold shr;rw [Yi]
def vis (F : Hp) (W : Wm) (H : Hp) : Hp:=fun a => match W a with
 | some _ => (match H a with
  | some o => if immO o = true then none else some o
  | none => none)
 | none => F a
def gl (F H F' : Hp) : Hp:=fun a => match F a with
 | some o => some o
 | none => match F' a with
  | some o => (match H a with
   | some _ => if Z6w o = true then some o else none
   | none => if immO o = true then some o else none)
  | none => none
theorem Zcl {F : Hp} {W : Wm} {H : Hp} {a : Addr} {o : HO} (h : vis F W H a = some o) : (W a = none ∧ F a = some o) ∨ (H a = some o ∧ immO o = false):=by
 unfold vis at h;cases q : W a with
 | none => rw [q] at h;exact .inl ⟨rfl,h⟩
 | some l =>
  rw [q] at h;cases q2 : H a with
  | none => rw [q2] at h;cases h
  | some u =>
   rw [q2] at h;have h' : (if immO u = true then none else some u) = some o:=h;by_cases c : immO u = true
   · rw [Yj c] at h';cases h'
   · rw [Yk c] at h';cases h';exact .inr ⟨rfl,by simpa using c⟩
theorem Zcm {F : Hp} {W : Wm} {H : Hp} {a : Addr} {l : Lab} {o : HO} (h : W a = some l) (h2 : H a = some o) (h3 : immO o = false) : vis F W H a = some o:=by
 unfold vis;rw [h,h2];show (if immO o = true then none else some o) = some o;rw [h3];rfl
theorem Z5F {F : Hp} {W : Wm} {H : Hp} {a : Addr} (h : W a = none) : vis F W H a = F a:=by
 unfold vis;rw [h]
theorem Zcn {F H F' : Hp} {a : Addr} {o : HO} (h : F a = some o) : gl F H F' a = some o:=by unfold gl;rw [h]
theorem Z9g {o : HO} (h : Z6w o = true) : immO o = true:=by cases o <;> first | rfl | cases h
theorem ZfP {F H F' : Hp} {a : Addr} {o : HO} (h : gl F H F' a = some o) : F a = some o ∨ (F a = none ∧ (H a = none ∨ Z6w o = true) ∧ F' a = some o ∧ immO o = true):=by
 unfold gl at h;cases q : F a with
 | some u => rw [q] at h;exact .inl h
 | none =>
  rw [q] at h;cases q2 : F' a with
  | none => rw [q2] at h;cases h
  | some u =>
   rw [q2] at h;cases q1 : H a with
   | some u2 =>
    rw [q1] at h;have h' : (if Z6w u = true then some u else none) = some o:=h;by_cases i : Z6w u = true
    · rw [Yj i] at h';cases h';exact .inr ⟨rfl,.inr i,rfl,Z9g i⟩
    · rw [Yk i] at h';cases h'
   | none =>
    rw [q1] at h;have h' : (if immO u = true then some u else none) = some o:=h;by_cases i : immO u = true
    · rw [Yj i] at h';cases h';exact .inr ⟨rfl,.inl rfl,rfl,i⟩
    · rw [Yk i] at h';cases h'
theorem Zga {F H F' : Hp} {a : Addr} {o : HO} (e : Same F F') (h2 : F' a = some o) (i : Z6w o = true) : gl F H F' a = some o:=by
 unfold gl;cases q : F a with
 | some u =>
  have:=e a u q;rw [h2] at this;cases this;rfl
 | none =>
  rw [h2];cases H a with
  | some _ => exact Yj i
  | none => exact Yj (Z9g i)
theorem Zgb {F H F' : Hp} {a : Addr} {o : HO} (e : Same F H) (h : H a = none) (h2 : F' a = some o) (i : immO o = true) : gl F H F' a = some o:=by
 unfold gl;rw [e.free h,h2,h];exact Yj i
theorem Z9h {F H F' : Hp} : Same F (gl F H F'):=fun a o h => Zcn h
section
variable {K : KF} {ios : Ios} {B : Bs} {F F' : Hp} {W W' : Wm} {E E' : Nv} {σ : L2.St} {H H' : Hp}
theorem St.noLab (S : St K ios B F W E σ H) {a : Addr} {o : HO} (h : F a = some o) : W a = none:=by
 cases q : W a with
 | none => rfl
 | some l =>
  rw [(S.ow a l q).1] at h;cases h
theorem St.visF (S : St K ios B F W E σ H) : Same F (vis F W H):=fun a o h => by rw [Z5F (S.noLab h)];exact h
theorem St.look (S : St K ios B F W E σ H) : St K ios ⟨B.pn,vis F W H,Dl.noW,H⟩ (vis F W H) Dl.noW (shr E) σ H where
 fh:=fun a o h => by
  rcases Zcl h with ⟨_,q⟩ | ⟨q,_⟩
  · exact S.fh _ _ q
  · exact q
 st:=Stp.refl _ Dl.noW H
 nz:=S.nz
 ow:=fun a l h => by cases (show (none : Option Lab) = some l from h)
 fr:=fun a l h => by cases (show (none : Option Lab) = some l from h)
 w0:=fun a l h => by cases (show (none : Option Lab) = some l from h)
 vr:=fun i t d h => by
  obtain ⟨rfl,t0,n0,h0⟩:=Zcj h;obtain ⟨v,h1,h2⟩:=S.vr i t0 d h0;exact ⟨v,h1,Jm.rep (p:=[i]) (q:=[]) S.visF (fun a q o w z i => Zcm w z i) n0 h2⟩
 pn:=S.pn
 ln:=by rw [Zck];exact S.ln
 xo:=⟨ios.mono (S.st.fx.trans S.visF) S.xo.1,fun P q n => by
  obtain ⟨h1,h2,ps,h3,h4⟩:=S.tbs P q n;have t1 : TabW (vis F W H) H W P q:=⟨by rw [Z5F h2];exact h1,h2,ps,h3,h4⟩;exact t1.w (W':=Dl.noW) fun a l z => by cases z⟩
theorem St.looked (S : St K ios B F W E σ H) (S' : St K ios ⟨B.pn,vis F W H,Dl.noW,H⟩ F' W' E' σ H') :
    St K ios B (gl F H F') W E σ H' ∧ Stp F W H (gl F H F') W H' ∧ ∀ a o,F' a = some o → immO o = true → gl F H F' a = some o:=by
 have t : Stp (vis F W H) Dl.noW H F' W' H':=S'.st;have e : Same F F':=S.visF.trans t.fx;have s : Stp F W H (gl F H F') W H':=by
  refine ⟨Z9h,fun a o h n => ?_,fun _ _ h => h,fun _ _ h => .inl h,fun a o h _ n => t.hx a o h rfl n,t.hd,fun a o f h => t.fk a o (S.visF a o f) h,fun P q tw => ?_⟩
  · rcases ZfP h with h | ⟨_,h | h,_⟩
    · exact .inl h
    · exact .inr h
    · rw [n] at h;cases h
  · obtain ⟨h1,h2,ps,h3,h4⟩:=tw;have t0 : TabW (vis F W H) H Dl.noW P q:=TabW.w ⟨by rw [Z5F h2];exact h1,h2,ps,h3,h4⟩ fun a l z => by cases z
    obtain ⟨g1,g2,g3⟩:=t.tb P q t0;refine TabW.w (W:=W') ⟨?_,g2,g3⟩ fun a l z => ?_
    · cases e : gl F H F' P with
      | none => rfl
      | some o =>
       rcases ZfP e with h | ⟨_,_,h,_⟩
       · rw [h1] at h;cases h
       · rw [g1] at h;cases h
    · obtain ⟨_,o,z1,z2⟩:=S.ow a l z;exact ⟨o,t.hx a o z1 rfl (Z1y z2),z2⟩
 have fh' : Same (gl F H F') H':=fun a o h => by
  rcases ZfP h with h | ⟨_,_,h,_⟩
  · exact t.fk a o (S.visF a o h) (S.fh a o h)
  · exact S'.fh a o h
 refine ⟨⟨fh',S.st.trans s,S'.nz,fun a l h => ?_,S.fr,S.w0,fun i t0 d h => ?_,S.pn,S.ln,S.xo⟩,s,fun a o h i => ?_⟩
 · obtain ⟨h1,o,h2⟩:=S.ow a l h;exact ⟨s.nf fh' h1 h2.1 (t.hx a o h2.1 rfl (Z1y h2.2)) h2.2,o,t.hx a o h2.1 rfl (Z1y h2.2),h2.2⟩
 · obtain ⟨v,h1,h2⟩:=S.vr i t0 d h;exact ⟨v,h1,h2.keep Z9h (fun _ _ q => q) fun a l o w q => t.hx a o q rfl (by obtain ⟨_,o',z1,z2⟩:=S.ow a l w;rw [q] at z1;cases z1;exact Z1y z2)⟩
 · by_cases it : Z6w o = true
   · exact Zga e h it
   rcases t.fn a o h (by simpa using it) with q | q
   · rcases Zcl q with ⟨_,q⟩ | ⟨_,q⟩
     · exact Zcn q
     · rw [i] at q;cases q
   · exact Zgb S.fh q h i
end
def look (f : M D) : M D:=fun E => match f (shr E) with
 | .ok d _ => if imm d = true then .ok d E else .stk
 | .er x _ => if immL x.vs = true then .er x E else .stk
 | .stk => .stk
def Z4X (f : M Bool) : M Bool:=fun E => match f (shr E) with
 | .ok d _ => .ok d E
 | .er x _ => if immL x.vs = true then .er x E else .stk
 | .stk => .stk
theorem XRep.restr {K : KF} {F' G H : Hp} {x : Xn} {c : Value} {dx : Option Addr} (e : ∀ a o,F' a = some o → immO o = true → G a = some o) (nz : NoFz F') (i : immL x.vs = true) (h : XRep K F' H x c dx) : XRep K G H x c dx:=by
 obtain ⟨h1,h2⟩:=h;refine ⟨h1, ?_⟩;rcases h2 with h2 | ⟨a,fs,e1,e2,e3,r⟩
 · exact .inl h2
 · exact .inr ⟨a,fs,e1,e2,e3,RepL.restr e nz _ i r⟩
section
variable {X : Cx} {ios : Ios} {Wx : WX} {a b c e : Expr} {es : List Expr} {fa fb fc f : M D} {pos : Pos}
theorem Z3D (h : PP X ios Wx e f) : PP X ios Wx e (look f):=by
 obtain ⟨t,p,r⟩:=h.ex;refine ⟨t,p,fun B F W E σ H Q S h => r _ (vis F W H) Dl.noW (shr E) σ H Q S.look ?_⟩;unfold look at h;cases q : f (shr E) with
 | ok d E2 =>
  rw [q] at h;by_cases i : imm d = true
  · have h':=h;rw [show (match (Rs.ok d E2 : Rs D) with | .ok d _ => if imm d = true then Rs.ok d E else .stk | .er x _ => if immL x.vs = true then .er x E else .stk | .stk => .stk) = Rs.ok d E from Yj i] at h';intro F' W' H' v S' t' rr;obtain ⟨S2,s2,e⟩:=S.looked S';exact h' _ W H' v S2 s2 (Rep.restr e (NoFz.of S'.fh S'.nz) d i rr)
  · rw [show (match (Rs.ok d E2 : Rs D) with | .ok d _ => if imm d = true then Rs.ok d E else .stk | .er x _ => if immL x.vs = true then .er x E else .stk | .stk => .stk) = Rs.stk from Yk i] at h;exact h.elim
 | er x E2 =>
  rw [q] at h;by_cases i : immL x.vs = true
  · have h':=h;rw [show (match (Rs.er x E2 : Rs D) with | .ok d _ => if imm d = true then Rs.ok d E else .stk | .er x _ => if immL x.vs = true then Rs.er x E else .stk | .stk => .stk) = Rs.er x E from Yj i] at h';intro F' W' H' c dx S' t' rr;obtain ⟨S2,s2,e⟩:=S.looked S';exact h' _ W H' c dx S2 s2 (XRep.restr e (NoFz.of S'.fh S'.nz) i rr)
  · rw [show (match (Rs.er x E2 : Rs D) with | .ok d _ => if imm d = true then Rs.ok d E else .stk | .er x _ => if immL x.vs = true then .er x E else .stk | .stk => .stk) = Rs.stk from Yk i] at h;exact h.elim
 | stk => rw [q] at h;exact h.elim
theorem Z3f {f : M Bool} (h : PB X ios Wx e f) : PB X ios Wx e (Z4X f):=by
 obtain ⟨t,p,r⟩:=h.ex;refine ⟨t,p,fun B F W E σ H Q S h => r _ (vis F W H) Dl.noW (shr E) σ H Q S.look ?_⟩;unfold Z4X at h;cases q : f (shr E) with
 | ok d E2 =>
  rw [q] at h;intro F' W' H' v S' t' rr;obtain ⟨S2,s2,e⟩:=S.looked S';exact h _ W H' v S2 s2 rr
 | er x E2 =>
  rw [q] at h;by_cases i : immL x.vs = true
  · have h':=h;rw [show (match (Rs.er x E2 : Rs Bool) with | .ok d _ => Rs.ok d E | .er x _ => if immL x.vs = true then Rs.er x E else .stk | .stk => .stk) = Rs.er x E from Yj i] at h';intro F' W' H' c dx S' t' rr;obtain ⟨S2,s2,e⟩:=S.looked S';exact h' _ W H' c dx S2 s2 (XRep.restr e (NoFz.of S'.fh S'.nz) i rr)
  · rw [show (match (Rs.er x E2 : Rs Bool) with | .ok d _ => Rs.ok d E | .er x _ => if immL x.vs = true then .er x E else .stk | .stk => .stk) = Rs.stk from Yk i] at h;exact h.elim
 | stk => rw [q] at h;exact h.elim
end
structure PO (X : Cx) (ios : Ios) (Wx : WX) (e : Expr) (f : M Ent) : Prop where
 ex : ∃ t : TE,PE X e t ∧ ∀ B F W E σ H Q,St X.K ios B F W E σ H → Jy X.K ios B Wx σ F W H (f E) Q → t σ H Q
def sh1 (f : M D) : M Ent:=bnd f fun d => Zr (.sh,d)
def J1 (f : M (List D)) : M Ent:=bnd f fun xs => if Z2X xs.length = true then Zr (.l .sh,.lst xs) else Z6x
section
variable {K : KF} {ios : Ios} {B : Bs} {F F' : Hp} {W W' : Wm} {E E' : Nv} {σ : L2.St} {H H' : Hp} {Wx : WX}
theorem Stp.laid {p : Addr} {o : HO} (hp : H p = none) : Stp F W H F W (upd H p o) :=
 .mk6 (Same.refl F) (fun _ _ h _ => .inl h) (fun _ _ h => h) (fun _ _ h => .inl h) (fun a u h _ => Z1a hp a u h) (fun a u h => ⟨u,Z1a hp a u h⟩) (fun a u _ h => Z1a hp a u h) fun _ h _ _ => h
theorem St.laid {p : Addr} {o : HO} (S : St K ios B F W E σ H) (hp : H p = none) (ho : ∀ ob u,o ≠ .frz ob u) : St K ios B F W E σ (upd H p o) where
 fh:=S.fh.trans (Z1a hp)
 st:=S.st.trans (Stp.laid hp)
 nz:=fun a ob u e => by
  by_cases hb : a = p
  · subst hb;rw [upd_same] at e;exact absurd (Option.some.inj e) (ho _ _)
  · rw [upd_ne hb] at e;exact S.nz _ _ _ e
 ow:=fun a l h => by
  obtain ⟨h1,u,h2⟩:=S.ow a l h;exact ⟨h1,u,Z1a hp a u h2.1,h2.2⟩
 fr:=S.fr
 w0:=S.w0
 vr:=fun i t d h => by
  obtain ⟨v,h1,h2⟩:=S.vr i t d h;exact ⟨v,h1,h2.keep (Same.refl F) (fun _ _ q => q) fun a l u _ q => Z1a hp a u q⟩
 pn:=S.pn
 ln:=S.ln
 xo:=S.xo
def oneW (p : Addr) : Wm:=fun a => if a = p then some [] else none
theorem Z4C (p : Addr) : oneW p p = some []:=Yj rfl
theorem Z6W {p a : Addr} {l : Lab} (h : oneW p a = some l) : a = p ∧ l = []:=by
 unfold oneW at h;by_cases e : a = p
 · rw [Yj e] at h;cases h;exact ⟨e,rfl⟩
 · rw [Yk e] at h;cases h
theorem Jy.listed {ds : List D} {vs : List V} {p : Addr} {Q : VK} (h : Jy K ios B Wx σ F W H (Zr (.l .sh,.lst ds) E) Q) (S : St K ios B F W E σ H) (hp : H p = none) (z : ds.length ≤ sizeLine) (r : RepL K F vs ds) : Q (.ref p) (upd H p (.lst vs)):=by
 refine h F W _ _ (oneW p) (S.laid hp fun _ _ z => by cases z) (Stp.laid hp) (fun a l q => ?_) ⟨p,vs,ds,rfl,rfl,Z4C p,upd_same,z,r.length,fun j v' d' e1 e2 => ?_⟩
 · obtain ⟨rfl,_⟩:=Z6W q;exact ⟨hp,S.noW hp,S.fh.free hp,_,upd_same,rfl⟩
 · obtain ⟨w,e3,r3⟩:=r.get e2;rw [e1] at e3;cases e3;exact r3
theorem Jy.ofSh {f : M D} {Q : VK} (h : Jy K ios B Wx σ F W H (sh1 f E) Q) : Pst K ios B Wx σ (Rep K) F W H (f E) Q:=by
 unfold sh1 at h;refine Jy.seq h fun F' W' H' v d E' S t rr h2 => ?_;exact h2 F' W' H' v Dl.noW S (Stp.refl _ _ _) Fresh.no rr
end
section
variable {X : Cx} {ios : Ios} {Wx : WX} {a b c e : Expr} {es : List Expr} {fa fb fc f : M D} {pos : Pos}
theorem ZR (h : PP X ios Wx e f) : PO X ios Wx e (sh1 f):=by
 obtain ⟨t,p,r⟩:=h.ex;exact ⟨t,p,fun B F W E σ H Q S h => r B F W E σ H Q S h.ofSh⟩
theorem Z4a {fs : M (List D)} (h : PL X ios Wx es fs) : PO X ios Wx (.List es pos) (J1 fs):=by
 obtain ⟨t,p,r⟩:=h.ex;refine ⟨_,pe_lst p,fun B F W E σ H Q S h => ?_⟩;refine r B F W E σ H _ S (Jy.seq h fun F1 W1 H1 x d E1 S1 s1 r1 h1 => ?_);by_cases hz : Z2X d.length = true
 · rw [Yj hz] at h1;have hz' : d.length ≤ sizeLine:=Yq hz;exact ⟨by rw [r1.length];exact hz',fun p hp => h1.listed S1 hp hz' r1⟩
 · rw [Yk hz] at h1;exact h1.elim
end
structure PD (X : Cx) (ios : Ios) (Wx : WX) (st : Stmt) (g : G) : Prop where
 ex : ∃ t : TS,PS X st t ∧ ∀ B F W E σ H D,St X.K ios B F W E σ H → Ju X.K ios B Wx F (g E) D → t D σ H
structure PDs (X : Cx) (ios : Ios) (Wx : WX) (st : List Stmt) (g : G) : Prop where
 ex : ∃ t : TS,PSs X st t ∧ ∀ B F W E σ H D,St X.K ios B F W E σ H → Ju X.K ios B Wx F (g E) D → t D σ H
section
variable {K : KF} {ios : Ios} {B : Bs} {F F' : Hp} {W W' : Wm} {E E' : Nv} {σ : L2.St} {H H' : Hp} {Wx : WX}
theorem Ju.seqO {m : M Ent} {k : Ent → G} {Q : VK} {D : Ends} (h : Ju K ios B Wx F (Jf m k E) D)
    (g : ∀ F' W' H' v p E' Wr,St K ios B F' W' E' σ H' → Stp F W H F' W' H' → Fresh Wr H F' W' H' → Jm K F' H' Wr p.1 [] v p.2 → Ju K ios B Wx F' (k p E') D → Q v H') : Jy K ios B Wx σ F W H (m E) Q:=by
 unfold Jf at h;cases q : m E with
 | ok a E' =>
  rw [q] at h;exact fun F' W' H' b Wr S t fr rr => g F' W' H' b a E' Wr S t fr rr (Ju.from t.fx h)
 | er x E' =>
  rw [q] at h;exact fun F' W' H' c dx S t rr => h F' W' H' σ c dx S t.fx rr
 | stk =>
  rw [q] at h;exact h.elim
end
section
variable {X : Cx} {ios : Ios} {Wx : WX} {a b c e : Expr} {es : List Expr} {fa fb fc f : M D} {pos : Pos} {st : Stmt} {sts : List Stmt} {g h : G}
theorem ZA : PDs X ios Wx [] done:=⟨_,pss_nil,fun B F W E σ H D S k => k F W H σ S (Same.refl F)⟩
theorem Z8 (h1 : PD X ios Wx st g) : PDs X ios Wx [st] g:=by
 obtain ⟨t,p,r⟩:=h1.ex;exact ⟨_,pss_one p,r⟩
theorem Z5 (h1 : PD X ios Wx st g) (h2 : PDs X ios Wx sts h) : PDs X ios Wx (st :: sts) (Zb g h):=by
 obtain ⟨t1,p1,r1⟩:=h1.ex;obtain ⟨t2,p2,r2⟩:=h2.ex;refine ⟨_,pss_cons p1 p2,fun B F W E σ H D S k => ?_⟩;exact r1 B F W E σ H _ S (Ju.then (D:=D) (h:=h) rfl rfl rfl k fun F' W' H' σ' E' S' t k' => r2 B F' W' E' σ' H' D S' k')
theorem Z2c {p q : List Stmt} {fc : M Bool} (hc : PB X ios Wx c fc) (ha : PDs X ios Wx p g) (hb : PDs X ios Wx q h) : PD X ios Wx (.If c p q pos) (Jf fc fun k => if k = true then g else h):=by
 obtain ⟨tc,pc,rc⟩:=hc.ex;obtain ⟨t1,p1,r1⟩:=ha.ex;obtain ⟨t2,p2,r2⟩:=hb.ex;refine ⟨_,ps_if pc p1 p2,fun B F W E σ H D S k => ?_⟩;refine rc B F W E σ H _ S (Ju.seq k fun F1 W1 H1 b d E1 S1 s1 rr k1 => ?_);subst rr;cases b with
 | true => exact r1 B F1 W1 E1 σ H1 D S1 k1
 | false => exact r2 B F1 W1 E1 σ H1 D S1 k1
theorem Z2G (he : PP X ios Wx e f) (hs : swapsWith e none pos.line X.env = pure false:=by rfl) : PD X ios Wx (.Expr e pos) (Jf f fun _ => done):=by
 obtain ⟨t,p,r⟩:=he.ex;refine ⟨_,ps_expr p hs,fun B F W E σ H D S k => ?_⟩;exact r B F W E σ H _ S (Ju.seq k fun F1 W1 H1 v d E1 S1 s1 rr k1 => k1 F1 W1 H1 σ S1 (Same.refl F1))
def Je (f : M Ent) : G:=Jf f fun p E => .rt p E
theorem Zg {f : M Ent} (he : PO X ios Wx e f) : PD X ios Wx (.Return (some e) pos) (Je f):=by
 obtain ⟨t,p,r⟩:=he.ex;refine ⟨_,ps_ret p,fun B F W E σ H D S k => ?_⟩;refine r B F W E σ H _ S (Ju.seqO k fun F1 W1 H1 v d E1 Wr S1 s1 fr rr k1 => ?_);exact k1 F1 W1 H1 σ v Wr S1 (Same.refl F1) (fun a l z => by
  obtain ⟨z1,z2⟩:=fr a l z;exact ⟨S.st.back z1,z2⟩) rr
def putW (W Wr : Wm) (i : Nat) : Wm:=fun a => match Wr a with
 | some l => some (i :: l)
 | none => W a
theorem Zgc {W Wr : Wm} {i : Nat} {a : Addr} {l : Lab} (h : Wr a = some l) : putW W Wr i a = some (i :: l):=by unfold putW;rw [h]
theorem Z50 {W Wr : Wm} {i : Nat} {a : Addr} {l : Lab} (h : putW W Wr i a = some l) : (∃ l',Wr a = some l' ∧ l = i :: l') ∨ (Wr a = none ∧ W a = some l):=by
 unfold putW at h;cases q : Wr a with
 | some l' => rw [q] at h;cases h;exact .inl ⟨l',rfl,rfl⟩
 | none => rw [q] at h;exact .inr ⟨rfl,h⟩
end
section
variable {K : KF} {ios : Ios} {B : Bs} {F F' : Hp} {W W' Wr : Wm} {E E' : Nv} {σ : L2.St} {H H' : Hp} {Wx : WX}
theorem St.put (S : St K ios B F W E σ H) {i : Nat} {v : V} {p : Ent} (hi : ios.contains i = false) (fr : Fresh Wr B.H0 F W H) (r : Jm K F H Wr p.1 [] v p.2) :
    St K ios B F (putW W Wr i) (E.set i (some p)) (σ.set i (some v)) H where
 fh:=S.fh
 st:=by
  have s:=S.st;refine ⟨s.fx,s.fn,fun a l h => ?_,fun a l h => ?_,s.hx,s.hd,s.fk,fun P q tw => (s.tb P q tw).w fun a l z => ?_⟩
  · have h1:=s.wx a l h;unfold putW;cases q : Wr a with
    | none => exact h1
    | some l' =>
     obtain ⟨_,z,_⟩:=fr a l' q;rw [h1] at z;cases z
  · rcases Z50 h with ⟨l',q,_⟩ | ⟨_,q⟩
    · exact .inr (fr a l' q).1
    · exact s.wn a l q
  · rcases Z50 z with ⟨l',q,_⟩ | ⟨_,q⟩
    · exact (fr a l' q).2.2.2
    · exact (S.ow a l q).2
 nz:=S.nz
 ow:=fun a l h => by
  rcases Z50 h with ⟨l',q,_⟩ | ⟨_,q⟩
  · obtain ⟨_,_,z3,z4⟩:=fr a l' q;exact ⟨z3,z4⟩
  · exact S.ow a l q
 fr:=fun a l h => by
  rcases Z50 h with ⟨l',q,rfl⟩ | ⟨_,q⟩
  · exact ⟨i,l',rfl,.inr (fr a l' q).1⟩
  · exact S.fr a l q
 w0:=S.w0
 vr:=fun j t d h => by
  by_cases hj : i = j
  · subst hj;rw [List.getElem?_set] at h;rw [Yj rfl] at h;by_cases hl : i < E.length
    · rw [Yj hl] at h;cases h;refine ⟨v, ?_, ?_⟩
      · rw [List.getElem?_set,Yj rfl,Yj (by rw [← S.ln];exact hl)]
      · exact Jm.relab (p:=[]) (p':=[i]) (q:=[]) (fun a q z => Zgc z) r
    · rw [Yk hl] at h;cases h
  · rw [List.getElem?_set,Yk hj] at h;obtain ⟨u,h1,h2⟩:=S.vr j t d h;refine ⟨u, ?_, ?_⟩
    · rw [List.getElem?_set,Yk hj];exact h1
    · refine h2.keep (Same.refl F) (fun a l z => ?_) (fun a l o _ z => z);unfold putW;cases q : Wr a with
      | none => exact z
      | some l' =>
       obtain ⟨_,y,_⟩:=fr a l' q;rw [z] at y;cases y
 pn:=fun j u h => by
  obtain ⟨h1,h2⟩:=S.pn j u h;refine ⟨h1, ?_⟩;have hj : i ≠ j:=fun z => by
   subst z
   replace hi:=Ios.no hi
   exact hi h1
  rw [List.getElem?_set,Yk hj];exact h2
 ln:=by rw [List.length_set,List.length_set];exact S.ln
 xo:=S.xo
end
section
variable {X : Cx} {ios : Ios} {Wx : WX} {a b c e : Expr} {es : List Expr} {fa fb fc : M D} {pos : Pos} {st : Stmt} {sts : List Stmt} {g h : G}
def Jh (i : Nat) (f : M Ent) : G:=Jf f fun p E => .nx (E.set i (some p))
theorem Z12 {i : Nat} {x : Str} {f : M Ent} {pos' : Pos} (hN : X.N.Nodup) (hi : X.N[i]? = some x) (hx : Loc X.env.scope x) (hio : ios.contains i = false) (he : PO X ios Wx e f)
    (hs : swapsWith e (some (.Name x pos')) pos.line X.env = pure false:=by rfl) (hf : X.fn x = true ∨ X.env.scope.names.lookup x = some .local:=by first | exact .inl rfl | exact .inr rfl | assumption) :
    PD X ios Wx (.Assign [.Name x pos'] e pos) (Jh i f):=by
 obtain ⟨t,p,r⟩:=he.ex;refine ⟨_,ps_set hN hi hx p hs hf,fun B F W E σ H D S k => ?_⟩;refine r B F W E σ H _ S (Ju.seqO k fun F1 W1 H1 v d E1 Wr S1 s1 fr rr k1 => ?_);exact k1 F1 _ H1 _ (S1.put hio (fun a l z => by
  obtain ⟨z1,z2⟩:=fr a l z;exact ⟨S.st.back z1,z2⟩) rr) (Same.refl F1)
end
theorem Z5T {x : D} {r : List D} {ps : List PyData} (h : toPs (x :: r) = some ps) : ∃ p q,toP x = some p ∧ toPs r = some q ∧ ps = p :: q:=by
 have h' : (match toP x,toPs r with
  | some p,some ps => some (p :: ps)
  | _,_ => none) = some ps:=by
  have e:=h;unfold toPs at e;exact e
 cases q1 : toP x with
 | none => rw [q1] at h';cases h'
 | some p =>
  rw [q1] at h';cases q2 : toPs r with
  | none => rw [q2] at h';cases h'
  | some q =>
   rw [q2] at h';cases h';exact ⟨p,q,rfl,rfl,rfl⟩
mutual
theorem Rep.dp {K : KF} {F H : Hp} (e : Same F H) : ∀ {v : V} (d : D) {p : PyData},Rep K F v d → toP d = some p → Dp K H v p
 | _,.non,p,h,q => by
  cases h;unfold toP at q;cases q;exact .non
 | _,.bl b,p,h,q => by
  cases h;unfold toP at q;cases q;exact .bl b
 | _,.int i,p,h,q => by
  cases h;unfold toP at q;cases q;exact .int i
 | _,.str x,p,h,q => by
  cases h;unfold toP at q;cases q;exact .str x
 | _,.lst ds,p,h,q => by
  unfold toP at q;cases q2 : toPs ds with
  | none => rw [q2] at q;cases q
  | some ps =>
   rw [q2] at q;cases q;cases h with
   | lst s z r => exact .lst (SqL.of (e _ _ s)) (RepL.dp e ds r q2)
 | _,.tup ds,p,h,q => by
  unfold toP at q;cases q2 : toPs ds with
  | none => rw [q2] at q;cases q
  | some ps =>
   rw [q2] at q;cases q;cases h with
   | tup s z r => exact .tup (ZZc e s) (RepL.dp e ds r q2)
 | _,.dct _ _,p,h,q => by unfold toP at q;cases q
 | _,.ins _ _ _,p,h,q => by unfold toP at q;cases q
 | _,.ty _,p,h,q => by unfold toP at q;cases q
 | _,.cl _,p,h,q => by unfold toP at q;cases q
theorem RepL.dp {K : KF} {F H : Hp} (e : Same F H) : ∀ {vs : List V} (ds : List D) {ps : List PyData},RepL K F vs ds → toPs ds = some ps → DpAll K H vs ps
 | _,[],ps,h,q => by
  cases h;unfold toPs at q;cases q;exact .nil
 | _,d :: ds,ps,h,q => by
  obtain ⟨p,qs,e1,e2,rfl⟩:=Z5T q;cases h with
  | cons h1 h2 => exact .cons (Rep.dp e d h1 e1) (RepL.dp e ds h2 e2)
end
theorem Z5U {K : KF} {F H : Hp} {p : Addr} {vs : List V} {ds : List D} {Q : VK} (q : ∀ F' H' v,Gr F H F' H' → Rep K F' v (.lst ds) → Q v H') (fh : Same F H) (hp : H p = none) (z : ds.length ≤ sizeLine) (r : RepL K F vs ds) : Q (.ref p) (upd H p (.lst vs)):=by
 have g : Gr F H (upd F p (.lst vs)) (upd H p (.lst vs)):=Gr.new fh hp fun _ _ z => by cases z
 exact q _ _ _ g (.lst upd_same z (r.mono g.fx _))
theorem Z9i {K : KF} {F H : Hp} {p : Addr} {vs : List V} {ds : List D} {Q : VK} (q : ∀ F' H' v,Gr F H F' H' → Rep K F' v (.tup ds) → Q v H') (fh : Same F H) (hp : H p = none) (z : ds.length ≤ sizeLine) (r : RepL K F vs ds) : Q (.ref p) (upd H p (.tup vs)):=by
 have g : Gr F H (upd F p (.tup vs)) (upd H p (.tup vs)):=Gr.new fh hp fun _ _ z => by cases z
 exact q _ _ _ g (.tup (SqT.of upd_same) z (r.mono g.fx _))
def inR (b : Nat) (j : Int) : Bool:=match j with
 | .ofNat n => Nat.ble n b
 | .negSucc n => Nat.ble n b
theorem Z1S {b : Nat} {j : Int} : inR b j = true ↔ -(b : Int) - 1 ≤ j ∧ j ≤ (b : Int):=by
 cases j with
 | ofNat n =>
  show Nat.ble n b = true ↔ _;rw [Nat.ble_eq];constructor
  · intro h;exact ⟨by simp only [Int.ofNat_eq_natCast];omega,by simp only [Int.ofNat_eq_natCast];omega⟩
  · intro h;have:=h.2;simp only [Int.ofNat_eq_natCast] at this;omega
 | negSucc n =>
  show Nat.ble n b = true ↔ _;rw [Nat.ble_eq,Int.negSucc_eq];omega
def p30 (j : Int) : Bool:=match j with
 | .ofNat n => Nat.ble 1 n && Nat.ble n 1267650600228229401496703205375
 | .negSucc _ => false
theorem Z9j {j : Int} : p30 j = true ↔ 0 < j ∧ j < 1267650600228229401496703205376:=by
 cases j with
 | ofNat n =>
  show (Nat.ble 1 n && Nat.ble n 1267650600228229401496703205375) = true ↔ _;rw [Bool.and_eq_true,Nat.ble_eq,Nat.ble_eq];simp only [Int.ofNat_eq_natCast];omega
 | negSucc n =>
  show false = true ↔ _;rw [Int.negSucc_eq];constructor
  · intro h;cases h
  · intro h;omega
def Ji : D → D → Option D
 | .int i,.int j => some (.int (i + j))
 | .str x,.str y => if x.length + y.length ≤ sizeLine then some (.str (x ++ y)) else none
 | .lst xs,.lst ys => if xs.length + ys.length ≤ sizeLine then some (.lst (xs ++ ys)) else none
 | .tup xs,.tup ys => if xs.length + ys.length ≤ sizeLine then some (.tup (xs ++ ys)) else none
 | _,_ => none
def Jt : D → D → Option D
 | .int i,.int j => some (.int (i - j))
 | _,_ => none
def cmul (i j : Int) : Bool:=inR 9223372036854775807 i || inR 9223372036854775807 j
def J0 : D → D → Option D
 | .int i,.int j => if cmul i j = true then some (.int (i * j)) else none
 | .lst xs,.int k => if inR 4611686018427387903 k = true ∧ xs.length * k.toNat ≤ sizeLine then some (.lst (List.replicate k.toNat xs).flatten) else none
 | _,_ => none
def divD : D → D → Option D
 | .int i,.int j => if p30 j = true then some (.int (i / j)) else none
 | _,_ => none
def modD : D → D → Option D
 | .int i,.int j => if 0 < j then some (.int (i % j)) else none
 | _,_ => none
def negD : D → Option D
 | .int i => some (.int (-i))
 | _ => none
def cmpI (p : Int → Int → Bool) : D → D → Option D
 | .int i,.int j => some (.bl (p i j))
 | _,_ => none
def ltD : D → D → Option D:=cmpI fun i j => decide (i < j)
def leD : D → D → Option D:=cmpI fun i j => decide (i ≤ j)
def gtD : D → D → Option D:=cmpI fun i j => decide (j < i)
def geD : D → D → Option D:=cmpI fun i j => decide (j ≤ i)
def flat : D → Option V
 | .non => some .non
 | .bl b => some (.bl b)
 | .int i => some (.int i)
 | .str x => some (.str x)
 | _ => none
theorem Rep.flat {K : KF} {F : Hp} {v w : V} {d : D} (h : Rep K F v d) (e : flat d = some w) : v = w:=by
 cases h <;> first | (cases e;rfl) | cases e
def Z3n (d e : D) : Option Bool:=match toP d,toP e with
 | some p,some q => if SeqAt.shaped p = true ∧ SeqAt.shaped q = true then some (PyData.eqv p q) else none
 | _,_ => none
def eqB (d e : D) : Option Bool:=match flat d,flat e with
 | some v,some w => if scal v w = true then some (decide (v = w)) else Z3n d e
 | _,_ => Z3n d e
def eqD (d e : D) : Option D:=(eqB d e).map .bl
def neD (d e : D) : Option D:=(eqB d e).map fun b => .bl (!b)
section
variable {K : KF}
theorem ZhC {C : Int → Int → Prop} {gv : Int → Int → V} {g : D → D → Option D} (h : ∀ d e z,g d e = some z → ∃ i j,d = .int i ∧ e = .int j ∧ C i j ∧ ∀ F : Hp,Rep K F (gv i j) z) : OpD K (rI C gv) g:=by
 intro F H x y d e z Q fh rx ry hz q;obtain ⟨i,j,rfl,rfl,hc,hr⟩:=h d e z hz;cases rx;cases ry;exact ⟨i,j,rfl,rfl,hc,q F H _ (Gr.refl fh) (hr F)⟩
theorem Zco {gv : Int → Int → V} {g : D → D → Option D} (h : ∀ d e z,g d e = some z → ∃ i j,d = .int i ∧ e = .int j ∧ ∀ F : Hp,Rep K F (gv i j) z) : OpD K (rI0 gv) g:=by
 intro F H x y d e z Q fh rx ry hz q;obtain ⟨i,j,rfl,rfl,hr⟩:=h d e z hz;cases rx;cases ry;exact ⟨i,j,rfl,rfl,q F H _ (Gr.refl fh) (hr F)⟩
theorem Z1T : OpD K (rI0 fun i j => .int (i - j)) Jt:=Zco fun d e z h => by
 cases d <;> cases e <;> first | (cases h;done) | skip
 rename_i i j;cases h;exact ⟨i,j,rfl,rfl,fun _ => .int _⟩
theorem Zl (p : Int → Int → Bool) : OpD K (rI0 fun i j => .bl (p i j)) (cmpI p):=Zco fun d e z h => by
 cases d <;> cases e <;> first | (cases h;done) | skip
 rename_i i j;cases h;exact ⟨i,j,rfl,rfl,fun _ => .bl _⟩
theorem ZaH {i j : Int} (h : p30 j = true) : CDivW i j:=by
 obtain ⟨h1,h2⟩:=Z9j.mp h;have e : (2 : Nat) ^ 100 = 1267650600228229401496703205376:=by decide
 have l : j.natAbs < 2 ^ 100:=by rw [e];omega
 exact wide_div (b:=100) h1 l (by decide) (by decide)
theorem Z6X : OpD K (rI CDivW fun i j => .int (i / j)) divD:=ZhC fun d e z h => by
 cases d <;> cases e <;> first | (cases h;done) | skip
 rename_i i j;have h' : (if p30 j = true then some (D.int (i / j)) else none) = some z:=h;by_cases c : p30 j = true
 · rw [Yj c] at h';cases h';exact ⟨i,j,rfl,rfl,ZaH c,fun _ => .int _⟩
 · rw [Yk c] at h';cases h'
theorem Z3g : OpD K (rI (fun _ j => 0 < j) fun i j => .int (i % j)) modD:=ZhC fun d e z h => by
 cases d <;> cases e <;> first | (cases h;done) | skip
 rename_i i j;have h' : (if 0 < j then some (D.int (i % j)) else none) = some z:=h;by_cases c : 0 < j
 · rw [Yj c] at h';cases h';exact ⟨i,j,rfl,rfl,c,fun _ => .int _⟩
 · rw [Yk c] at h';cases h'
def ZhD (K : KF) : R2:=fun x y H Q => (rI0 fun i j => .int (i + j)) x y H Q ∨ (fun x y H Q => ∃ i j,x = .str i ∧ y = .str j ∧ i.length + j.length ≤ sizeLine ∧ Q (.str (i ++ j)) H : R2) x y H Q ∨ rCat x y H Q ∨ rCatA K x y H Q
theorem Zh {X : Cx} : OpR X (binaryOp .Add) (ZhD X.K):=op_add.or (op_add_str.or (op_cat.or op_catA))
theorem Zi : OpD K (ZhD K) Ji:=by
 intro F H x y d e z Q fh rx ry hz q;cases d <;> cases e <;> first | (cases hz;done) | skip
 · cases rx;cases ry;cases hz;exact .inl ⟨_,_,rfl,rfl,q F H _ (Gr.refl fh) (.int _)⟩
 · rename_i a b;cases rx;cases ry;have h' : (if a.length + b.length ≤ sizeLine then some (D.str (a ++ b)) else none) = some z:=hz;by_cases c : a.length + b.length ≤ sizeLine
   · rw [Yj c] at h';cases h';exact .inr (.inl ⟨_,_,rfl,rfl,c,q F H _ (Gr.refl fh) (.str _)⟩)
   · rw [Yk c] at h';cases h'
 · rename_i a b;have h' : (if a.length + b.length ≤ sizeLine then some (D.lst (a ++ b)) else none) = some z:=hz;by_cases c : a.length + b.length ≤ sizeLine
   · rw [Yj c] at h';cases h';cases rx with
     | lst s1 z1 r1 => cases ry with
      | lst s2 z2 r2 =>
       refine .inr (.inr (.inl ⟨_,_,_,_,rfl,rfl,fh _ _ s1,fh _ _ s2,by rw [r1.length,r2.length];exact c,fun p hp => Z5U q fh hp (by rw [Yh];exact c) (r1.app r2)⟩))
   · rw [Yk c] at h';cases h'
 · rename_i a b;have h' : (if a.length + b.length ≤ sizeLine then some (D.tup (a ++ b)) else none) = some z:=hz;by_cases c : a.length + b.length ≤ sizeLine
   · rw [Yj c] at h';cases h';cases rx with
     | tup s1 z1 r1 => cases ry with
      | tup s2 z2 r2 =>
       refine .inr (.inr (.inr ⟨_,_,_,_,rfl,rfl,ZZc fh s1,ZZc fh s2,by rw [r1.length,r2.length];exact c,fun e => ?_,fun _ e => ?_,fun _ _ p hp => ?_⟩))
       · subst e;cases r1;exact q F H _ (Gr.refl fh) (.tup s2 z2 r2)
       · subst e;cases r2;exact q F H _ (Gr.refl fh) (by rw [List.append_nil];exact .tup s1 z1 r1)
       · exact Z9i q fh hp (by rw [Yh];exact c) (r1.app r2)
   · rw [Yk c] at h';cases h'
theorem Z2Z {K : KF} {F : Hp} {vs : List V} {ds : List D} (r : RepL K F vs ds) : ∀ k : Nat,RepL K F (List.replicate k vs).flatten (List.replicate k ds).flatten
 | 0 => .nil
 | k + 1 => by
  rw [List.replicate_succ,List.replicate_succ,List.flatten_cons,List.flatten_cons];exact r.app (Z2Z r k)
theorem Z30 {α : Type} (xs : List α) : ∀ k : Nat,(List.replicate k xs).flatten.length = xs.length * k
 | 0 => rfl
 | k + 1 => by rw [List.replicate_succ,List.flatten_cons,Yh,Z30 xs k,Nat.mul_succ,Nat.add_comm]
def ZhE : R2:=fun x y H Q => (rI CMul fun i j => .int (i * j)) x y H Q ∨ rRep x y H Q
theorem Z1U {X : Cx} : OpR X (binaryOp .Mult) ZhE:=op_mul.or op_rep
theorem Z22 : OpD K ZhE J0:=by
 intro F H x y d e z Q fh rx ry hz q;cases d <;> cases e <;> first | (cases hz;done) | skip
 · rename_i i j;cases rx;cases ry;have h' : (if cmul i j = true then some (D.int (i * j)) else none) = some z:=hz;by_cases c : cmul i j = true
   · rw [Yj c] at h';cases h';refine .inl ⟨_,_,rfl,rfl, ?_,q F H _ (Gr.refl fh) (.int _)⟩;unfold cmul at c;rw [Bool.or_eq_true,Z1S,Z1S] at c;rcases c with c | c
     · exact .inl ⟨by omega,by omega⟩
     · exact .inr ⟨by omega,by omega⟩
   · rw [Yk c] at h';cases h'
 · rename_i a k;have h' : (if inR 4611686018427387903 k = true ∧ a.length * k.toNat ≤ sizeLine then some (D.lst (List.replicate k.toNat a).flatten) else none) = some z:=hz;by_cases c : inR 4611686018427387903 k = true ∧ a.length * k.toNat ≤ sizeLine
   · rw [Yj c] at h';cases h';cases ry;cases rx with
     | lst s1 z1 r1 =>
      have ci:=Z1S.mp c.1;refine .inr ⟨_,_,_,rfl,rfl,fh _ _ s1,by omega,by omega,by rw [r1.length];exact c.2,fun p hp => Z5U q fh hp (by rw [Z30];exact c.2) (Z2Z r1 k.toNat)⟩
   · rw [Yk c] at h';cases h'
theorem Z6Y : UnD K (rU fun i => .int (-i)) negD:=by
 intro F H x d z Q fh rx hz q;cases d <;> first | (cases hz;done) | skip
 cases rx;cases hz;exact ⟨_,rfl,q F H _ (Gr.refl fh) (.int _)⟩
def rEqA (K : KF) : R2:=fun x y H Q => rEq x y H Q ∨ rEqD K x y H Q
def rNeA (K : KF) : R2:=fun x y H Q => rNe x y H Q ∨ rNeD K x y H Q
theorem ZY {X : Cx} (hu : X.A.units + 64 < cLine) : OpR X (compareOp .Eq) (rEqA X.K):=op_eq.or (op_eqD hu)
theorem ZaI {X : Cx} (hu : X.A.units + 64 < cLine) : OpR X (compareOp .NotEq) (rNeA X.K):=op_ne.or (op_neD hu)
theorem Z9k {d e : D} {b : Bool} (h : Z3n d e = some b) : ∃ p q,toP d = some p ∧ toP e = some q ∧ SeqAt.shaped p = true ∧ SeqAt.shaped q = true ∧ b = PyData.eqv p q:=by
 unfold Z3n at h;cases q1 : toP d with
 | none => rw [q1] at h;cases h
 | some p =>
  rw [q1] at h;cases q2 : toP e with
  | none => rw [q2] at h;cases h
  | some q =>
   rw [q2] at h;have h' : (if SeqAt.shaped p = true ∧ SeqAt.shaped q = true then some (PyData.eqv p q) else none) = some b:=h;by_cases c : SeqAt.shaped p = true ∧ SeqAt.shaped q = true
   · rw [Yj c] at h';cases h';exact ⟨p,q,rfl,rfl,c.1,c.2,rfl⟩
   · rw [Yk c] at h';cases h'
theorem Zcp {d e : D} {b : Bool} (h : eqB d e = some b) : (∃ v w,flat d = some v ∧ flat e = some w ∧ scal v w = true ∧ b = decide (v = w)) ∨ Z3n d e = some b:=by
 unfold eqB at h;cases q1 : flat d with
 | none => rw [q1] at h;exact .inr h
 | some v =>
  rw [q1] at h;cases q2 : flat e with
  | none => rw [q2] at h;exact .inr h
  | some w =>
   rw [q2] at h;have h' : (if scal v w = true then some (decide (v = w)) else Z3n d e) = some b:=h;by_cases c : scal v w = true
   · rw [Yj c] at h';cases h';exact .inl ⟨v,w,rfl,rfl,c,rfl⟩
   · rw [Yk c] at h';exact .inr h'
theorem ZZ : OpD K (rEqA K) eqD:=by
 intro F H x y d e z Q fh rx ry hz q;unfold eqD at hz;cases h : eqB d e with
 | none => rw [h] at hz;cases hz
 | some b =>
  rw [h] at hz;cases hz;rcases Zcp h with ⟨v,w,e1,e2,sc,rfl⟩ | h
  · rw [rx.flat e1,ry.flat e2];exact .inl ⟨sc,q F H _ (Gr.refl fh) (.bl _)⟩
  · obtain ⟨p,p2,e1,e2,s1,s2,rfl⟩:=Z9k h;exact .inr ⟨p,p2,rx.dp fh d e1,ry.dp fh e e2,s1,s2,q F H _ (Gr.refl fh) (.bl _)⟩
theorem ZaJ : OpD K (rNeA K) neD:=by
 intro F H x y d e z Q fh rx ry hz q;unfold neD at hz;cases h : eqB d e with
 | none => rw [h] at hz;cases hz
 | some b =>
  rw [h] at hz;cases hz;rcases Zcp h with ⟨v,w,e1,e2,sc,rfl⟩ | h
  · rw [rx.flat e1,ry.flat e2];exact .inl ⟨sc,q F H _ (Gr.refl fh) (.bl _)⟩
  · obtain ⟨p,p2,e1,e2,s1,s2,rfl⟩:=Z9k h;exact .inr ⟨p,p2,rx.dp fh d e1,ry.dp fh e e2,s1,s2,q F H _ (Gr.refl fh) (.bl _)⟩
def Jp (d e : D) : Option D:=match e with
 | .non => some (.bl (isNone d))
 | _ => none
def Z3E (d e : D) : Option D:=match e with
 | .non => some (.bl (!isNone d))
 | _ => none
theorem Z2j : OpD K (fun x y H Q => y = .non ∧ Q (.bl (decide (x = .non))) H) Jp:=by
 intro F H x y d e z Q fh rx ry hz q;cases e <;> first | (cases hz;done) | skip
 cases ry;cases hz;exact ⟨rfl,by rw [rx.isNone];exact q F H _ (Gr.refl fh) (.bl _)⟩
theorem Z23 : OpD K (fun x y H Q => y = .non ∧ Q (.bl (!decide (x = .non))) H) Z3E:=by
 intro F H x y d e z Q fh rx ry hz q;cases e <;> first | (cases hz;done) | skip
 cases ry;cases hz;exact ⟨rfl,by rw [rx.isNone];exact q F H _ (Gr.refl fh) (.bl _)⟩
end
def truD : D → Option Bool
 | .non => some false
 | .bl b => some b
 | .int i => some (i != 0)
 | .str x => if x.length ≤ sizeLine then some ((x.length : Int) != 0) else none
 | .lst xs => some (!xs.isEmpty)
 | .tup xs => some (!xs.isEmpty)
 | _ => none
theorem RepL.isEmpty {K : KF} {F : Hp} {vs : List V} {ds : List D} (r : RepL K F vs ds) : vs.isEmpty = ds.isEmpty:=by
 cases r <;> rfl
theorem Rep.tru {K : KF} {F H : Hp} (e : Same F H) {v : V} {d : D} (h : Rep K F v d) {k : Bool} (q : truD d = some k) : TruV K v H k:=by
 cases h with
 | non => cases q;rfl
 | bl b => cases q;rfl
 | int i => cases q;rfl
 | str x =>
  have q' : (if x.length ≤ sizeLine then some ((x.length : Int) != 0) else none) = some k:=q;by_cases c : x.length ≤ sizeLine
  · rw [Yj c] at q';cases q';exact ⟨c,rfl⟩
  · rw [Yk c] at q';cases q'
 | lst s z r => cases q;exact .inl ⟨_,SqL.of (e _ _ s),by rw [r.isEmpty]⟩
 | tup s z r => cases q;exact .inr (.inl ⟨_,ZZc e s,by rw [r.isEmpty]⟩)
 | ty n => cases q
 | cl c => cases q
 | ins _ _ _ _ => cases q
 | dk _ _ _ => cases q
 | dt _ _ _ => cases q
 | frl _ _ => cases q
 | ld _ _ _ _ _ => cases q
section
variable {X : Cx} {ios : Ios} {Wx : WX} {a b c e : Expr} {es rest : List Expr} {fa fb fc f : M D} {ta tb tc : M Bool} {pos : Pos}
def test (f : M D) : M Bool:=bnd f fun d => ofO (truD d)
theorem Z1l (ha : PP X ios Wx a fa) (he : ∀ whole,isTrue a X.env whole = (do let v ← whole;standAt a.pos;holding [v] (truthy v)):=by intro _;rfl) : PB X ios Wx a (test fa):=by
 obtain ⟨t,p,r⟩:=ha.ex;refine ⟨_,pt_truth p he,fun B F W E σ H Q S h => ?_⟩;refine r B F W E σ H _ S (Pst.seq h fun F1 W1 H1 x d E1 S1 s1 r1 h1 => ?_);obtain ⟨k,ek,h2⟩:=h1.some;exact ⟨k,r1.tru S1.fh ek,h2.done S1 rfl⟩
def Jq (f : M Bool) : M Bool:=bnd f fun b => Zr (!b)
theorem Z51 (ha : PB X ios Wx a ta) : PB X ios Wx (.UnaryOp .Not a pos) (Jq ta):=by
 obtain ⟨t,p,r⟩:=ha.ex;refine ⟨_,pt_not p,fun B F W E σ H Q S h => ?_⟩;refine r B F W E σ H _ S (Pst.seq h fun F1 W1 H1 x d E1 S1 s1 r1 h1 => ?_);exact h1.done S1 (by rw [r1])
def J4 (f g : M Bool) : M Bool:=bnd f fun b => if b = true then g else Zr false
def orM (f g : M Bool) : M Bool:=bnd f fun b => if b = true then Zr true else g
theorem Z2v (ha : PB X ios Wx a ta) : PBW X ios Wx (.BoolOp .And [a] pos) ta:=by
 obtain ⟨t,p,r⟩:=ha.ex;exact ⟨t,pw_and1 p,r⟩
theorem Z2k (ha : PB X ios Wx a ta) : PBW X ios Wx (.BoolOp .Or [a] pos) ta:=by
 obtain ⟨t,p,r⟩:=ha.ex;exact ⟨t,pw_or1 p,r⟩
theorem Z2l (ha : PB X ios Wx a ta) (hb : PBW X ios Wx (.BoolOp .And (b :: rest) pos) tb) : PBW X ios Wx (.BoolOp .And (a :: b :: rest) pos) (J4 ta tb):=by
 obtain ⟨t1,p1,r1⟩:=ha.ex;obtain ⟨t2,p2,r2⟩:=hb.ex;refine ⟨_,pw_and p1 p2,fun B F W E σ H Q S h => ?_⟩;refine r1 B F W E σ H _ S (Pst.seq h fun F1 W1 H1 x d E1 S1 s1 rr h1 => ?_);subst rr;cases x with
 | true => exact r2 B F1 W1 E1 σ H1 Q S1 h1
 | false => exact h1.done S1 rfl
theorem Z4b (ha : PB X ios Wx a ta) (hb : PBW X ios Wx (.BoolOp .Or (b :: rest) pos) tb) : PBW X ios Wx (.BoolOp .Or (a :: b :: rest) pos) (orM ta tb):=by
 obtain ⟨t1,p1,r1⟩:=ha.ex;obtain ⟨t2,p2,r2⟩:=hb.ex;refine ⟨_,pw_or p1 p2,fun B F W E σ H Q S h => ?_⟩;refine r1 B F W E σ H _ S (Pst.seq h fun F1 W1 H1 x d E1 S1 s1 rr h1 => ?_);subst rr;cases x with
 | true => exact h1.done S1 rfl
 | false => exact r2 B F1 W1 E1 σ H1 Q S1 h1
theorem Z24 (h : PBW X ios Wx a ta) : PB X ios Wx a ta:=by
 obtain ⟨t,p,r⟩:=h.ex;exact ⟨t,p.pt,r⟩
theorem Z4c {op} (h : PP X ios Wx a f) : PP X ios Wx (.BoolOp op [a] pos) f:=by
 obtain ⟨t,p,r⟩:=h.ex;exact ⟨t,pe_one p,r⟩
def andV (f g : M D) : M D:=bnd f fun d => bnd (ofO (truD d)) fun k => if k = true then g else Zr d
def orV (f g : M D) : M D:=bnd f fun d => bnd (ofO (truD d)) fun k => if k = true then Zr d else g
theorem Z52 (ha : PP X ios Wx a fa) (hb : PP X ios Wx (.BoolOp .And (b :: rest) pos) fb) : PP X ios Wx (.BoolOp .And (a :: b :: rest) pos) (andV fa fb):=by
 obtain ⟨t1,p1,r1⟩:=ha.ex;obtain ⟨t2,p2,r2⟩:=hb.ex;refine ⟨_,pe_andT p1 p2,fun B F W E σ H Q S h => ?_⟩;refine r1 B F W E σ H _ S (Pst.seq h fun F1 W1 H1 x d E1 S1 s1 rr h1 => ?_);unfold bnd at h1;cases q : truD d with
 | none => rw [q] at h1;exact h1.elim
 | some k =>
  rw [q] at h1;refine ⟨k,rr.tru S1.fh q, ?_⟩;cases k with
  | true => exact r2 B F1 W1 E1 σ H1 Q S1 h1
  | false => exact h1 F1 W1 H1 x S1 (Stp.refl _ _ _) rr
theorem ZhF (ha : PP X ios Wx a fa) (hb : PP X ios Wx (.BoolOp .Or (b :: rest) pos) fb) : PP X ios Wx (.BoolOp .Or (a :: b :: rest) pos) (orV fa fb):=by
 obtain ⟨t1,p1,r1⟩:=ha.ex;obtain ⟨t2,p2,r2⟩:=hb.ex;refine ⟨_,pe_orT p1 p2,fun B F W E σ H Q S h => ?_⟩;refine r1 B F W E σ H _ S (Pst.seq h fun F1 W1 H1 x d E1 S1 s1 rr h1 => ?_);unfold bnd at h1;cases q : truD d with
 | none => rw [q] at h1;exact h1.elim
 | some k =>
  rw [q] at h1;refine ⟨k,rr.tru S1.fh q, ?_⟩;cases k with
  | true => exact h1 F1 W1 H1 x S1 (Stp.refl _ _ _) rr
  | false => exact r2 B F1 W1 E1 σ H1 Q S1 h1
def notV (f : M D) : M D:=bnd f fun d => ofO ((truD d).map fun k => .bl (!k))
theorem Zcq (ha : PP X ios Wx a fa) : PP X ios Wx (.UnaryOp .Not a pos) (notV fa):=by
 obtain ⟨t1,p1,r1⟩:=ha.ex;refine ⟨_,pe_notT p1,fun B F W E σ H Q S h => ?_⟩;refine r1 B F W E σ H _ S (Pst.seq h fun F1 W1 H1 x d E1 S1 s1 rr h1 => ?_);cases q : truD d with
 | none => rw [q] at h1;exact h1.elim
 | some k =>
  rw [q] at h1;exact ⟨k,rr.tru S1.fh q,h1 F1 W1 H1 _ S1 (Stp.refl _ _ _) (.bl _)⟩
def ifM {α : Type} (t : M Bool) (f g : M α) : M α:=bnd t fun k => if k = true then f else g
theorem Zcr (hc : PB X ios Wx c tc) (ha : PP X ios Wx a fa) (hb : PP X ios Wx b fb) : PP X ios Wx (.IfExp c a b pos) (ifM tc fa fb):=by
 obtain ⟨t0,p0,r0⟩:=hc.ex;obtain ⟨t1,p1,r1⟩:=ha.ex;obtain ⟨t2,p2,r2⟩:=hb.ex;refine ⟨_,pe_ifExp p0 p1 p2,fun B F W E σ H Q S h => ?_⟩;refine r0 B F W E σ H _ S (Pst.seq h fun F1 W1 H1 x d E1 S1 s1 rr h1 => ?_);subst rr;cases x with
 | true => exact r1 B F1 W1 E1 σ H1 Q S1 h1
 | false => exact r2 B F1 W1 E1 σ H1 Q S1 h1
theorem Zcs {fa fb : M Ent} (hc : PB X ios Wx c tc) (ha : PO X ios Wx a fa) (hb : PO X ios Wx b fb) : PO X ios Wx (.IfExp c a b pos) (ifM tc fa fb):=by
 obtain ⟨t0,p0,r0⟩:=hc.ex;obtain ⟨t1,p1,r1⟩:=ha.ex;obtain ⟨t2,p2,r2⟩:=hb.ex;refine ⟨_,pe_ifExp p0 p1 p2,fun B F W E σ H Q S h => ?_⟩;refine r0 B F W E σ H _ S (Jy.seq h fun F1 W1 H1 x d E1 S1 s1 rr h1 => ?_);subst rr;cases x with
 | true => exact r1 B F1 W1 E1 σ H1 Q S1 h1
 | false => exact r2 B F1 W1 E1 σ H1 Q S1 h1
def ixD : D → D → Option D
 | .lst xs,.int i => atI xs i
 | .tup xs,.int i => atI xs i
 | .str x,.int i => if x.length ≤ sizeLine then (atI x.cps.toList i).map fun c => .str ⟨#[c]⟩ else none
 | _,_ => none
theorem RepL.atI {K : KF} {F : Hp} {vs : List V} {ds : List D} {i : Int} {d : D} (r : RepL K F vs ds) (h : L2.atI ds i = some d) : ∃ v,L2.atI vs i = some v ∧ Rep K F v d:=by
 unfold L2.atI at h ⊢;rw [r.length];cases q : ixN ds.length i with
 | none => rw [q] at h;cases h
 | some j =>
  rw [q] at h;exact r.get h
theorem Zgd {K : KF} : OpD K (rIx K) ixD:=by
 intro F H x y d e z Q fh rx ry hz q;cases d <;> cases e <;> first | (cases hz;done) | skip
 · rename_i a i;have h' : (if a.length ≤ sizeLine then (L2.atI a.cps.toList i).map fun c => D.str ⟨#[c]⟩ else none) = some z:=hz;by_cases c : a.length ≤ sizeLine
   · rw [Yj c] at h';cases q2 : L2.atI a.cps.toList i with
     | none => rw [q2] at h';cases h'
     | some ch =>
      rw [q2] at h';cases h';cases rx;cases ry;exact .inr (.inr ⟨_,_,_,rfl,rfl,c,q2,q F H _ (Gr.refl fh) (.str _)⟩)
   · rw [Yk c] at h';cases h'
 · cases ry;cases rx with
   | lst s1 z1 r1 =>
    obtain ⟨v,e1,e2⟩:=r1.atI hz;exact .inl ⟨_,_,_,_,rfl,rfl,SqL.of (fh _ _ s1),e1,q F H _ (Gr.refl fh) e2⟩
 · cases ry;cases rx with
   | tup s1 z1 r1 =>
    obtain ⟨v,e1,e2⟩:=r1.atI hz;exact .inr (.inl ⟨_,_,_,_,rfl,rfl,ZZc fh s1,e1,q F H _ (Gr.refl fh) e2⟩)
theorem Zf (ha : PP X ios Wx a fa) (hb : PP X ios Wx b fb) (hs : PlainIx b:=by intro _ _;rfl) : PP X ios Wx (.Subscript a b pos) (bnd fa fun x => bnd fb fun y => ofO (ixD x y)):=by
 obtain ⟨ta,pa,ra⟩:=ha.ex;obtain ⟨tb,pb,rb⟩:=hb.ex;refine ⟨_,pe_ix ix_seq pa pb hs,fun B F W E σ H Q S h => ?_⟩;refine ra B F W E σ H _ S (Pst.seq h fun F1 W1 H1 x d E1 S1 s1 r1 h1 => ?_);refine rb B F1 W1 E1 σ H1 _ S1 (Pst.seq h1 fun F2 W2 H2 y e E2 S2 s2 r2 h2 => ?_);obtain ⟨z,ez,h3⟩:=h2.some;exact Zgd F2 H2 x y d e z Q S2.fh (r1.mono s2.fx d) r2 ez fun F' H' v g rr => h3.grown S2 g rr
structure PPart (X : Cx) (ios : Ios) (Wx : WX) (e : Option Expr) (f : M (Option Int)) : Prop where
 ex : ∃ t : TO,L2.PO X e t ∧ ∀ B F W E σ H Q,St X.K ios B F W E σ H → Pst X.K ios B Wx σ (fun _ (b : Option Int) a => b = a) F W H (f E) Q → t σ H Q
theorem Z5V : PPart X ios Wx none (Zr none):=⟨_,po_none,fun B F W E σ H Q S h => h.done S rfl⟩
def asI : D → Option Int
 | .int i => some i
 | _ => none
theorem Z5W (ha : PP X ios Wx a fa) : PPart X ios Wx (some a) (bnd fa fun d => bnd (ofO (asI d)) fun i => Zr (some i)):=by
 obtain ⟨t,p,r⟩:=ha.ex;refine ⟨_,po_some p,fun B F W E σ H Q S h => ?_⟩;refine r B F W E σ H _ S (Pst.seq h fun F1 W1 H1 x d E1 S1 s1 rr h1 => ?_);cases d <;> first | exact h1.elim | skip
 cases rr;exact ⟨_,rfl,h1 F1 W1 H1 _ S1 (Stp.refl _ _ _) rfl⟩
def cutD (xs : List D) (lo hi : Option Int) : List D:=(xs.drop (HT.sIx xs.length 0 lo)).take (HT.sIx xs.length xs.length hi - HT.sIx xs.length 0 lo)
def ZaK (d : D) (lo hi : Option Int) : Option D:=match d with
 | .lst xs => some (.lst (cutD xs lo hi))
 | .tup xs => some (.tup (cutD xs lo hi))
 | .frl ns => some (.lst (cutD (ns.map .int) lo hi))
 | _ => none
theorem RepL.cut {K : KF} {F : Hp} {vs : List V} {ds : List D} (r : RepL K F vs ds) (lo hi : Option Int) : RepL K F (cutV vs lo hi) (cutD ds lo hi):=by
 unfold cutV cutD;rw [r.length];exact (r.drop _).take _
theorem Z5X (xs : List D) (lo hi : Option Int) : (cutD xs lo hi).length ≤ xs.length:=by
 unfold cutD;rw [List.length_take,List.length_drop];omega
theorem Z6Z {xs : List D} {lo hi : Option Int} (h : HT.sIx xs.length 0 lo = 0 ∧ HT.sIx xs.length xs.length hi = xs.length) : cutD xs lo hi = xs:=by
 unfold cutD;rw [h.1,h.2,List.drop_zero,Nat.sub_zero,List.take_length]
def rSlX (K : KF) : V → Option Int → Option Int → Hp → VK → Prop:=fun x lo hi H Q => rSlL K x lo hi H Q ∨ rSlA K x lo hi H Q
theorem ZaL {lo hi : Option Expr} {fl fh : M (Option Int)} {p2 : Pos} (ha : PP X ios Wx a fa) (hl : PPart X ios Wx lo fl) (hh : PPart X ios Wx hi fh) : PP X ios Wx (.Subscript a (.Slice lo hi none p2) pos) (bnd fa fun x => bnd fl fun l => bnd fh fun u => ofO (ZaK x l u)):=by
 obtain ⟨ta,pa,ra⟩:=ha.ex;obtain ⟨tl,pl,rl⟩:=hl.ex;obtain ⟨th,ph,rh⟩:=hh.ex;refine ⟨_,pe_slice (r:=rSlX X.K) (sl_list.or sl_tupA) pa pl ph,fun B F W E σ H Q S h => ?_⟩;refine ra B F W E σ H _ S (Pst.seq h fun F1 W1 H1 x d E1 S1 s1 r1 h1 => ?_);refine rl B F1 W1 E1 σ H1 _ S1 (Pst.seq h1 fun F2 W2 H2 l l' E2 S2 s2 r2 h2 => ?_);refine rh B F2 W2 E2 σ H2 _ S2 (Pst.seq h2 fun F3 W3 H3 u u' E3 S3 s3 r3 h3 => ?_);subst r2 r3;obtain ⟨z,ez,h4⟩:=h3.some;have rx:=r1.mono (s2.fx.trans s3.fx) d;have q : ∀ F' H' v,Gr F3 H3 F' H' → Rep X.K F' v z → Q v H':=fun F' H' v g rr => h4.grown S3 g rr;cases d <;> first | (cases ez;done) | skip
 · cases ez;cases rx with
   | lst s z r => exact .inl ⟨_,_,rfl,SqL.of (S3.fh _ _ s),fun p hp => Z5U q S3.fh hp (Nat.le_trans (Z5X _ _ _) z) (r.cut _ _)⟩
 · cases ez;cases rx with
   | tup s z r =>
    refine .inr ⟨_,_,rfl,ZZc S3.fh s,fun w => ?_,fun _ p hp => Z9i q S3.fh hp (Nat.le_trans (Z5X _ _ _) z) (r.cut _ _)⟩;rw [r.length] at w;exact q F3 H3 _ (Gr.refl S3.fh) (by rw [Z6Z w];exact .tup s z r)
 · rename_i ns;cases ez;cases rx with
   | frl s z => exact .inl ⟨_,_,rfl,Z6T S3.fh s,fun p hp => Z5U q S3.fh hp (Nat.le_trans (Z5X _ _ _) (by rw [Yi];exact z)) ((RepL.ofInts ns).cut _ _)⟩
def flats : List D → Option (List V)
 | [] => some []
 | d :: r => match flat d,flats r with
  | some v,some vs => some (v :: vs)
  | _,_ => none
theorem RepL.flats {K : KF} {F : Hp} : ∀ {vs ws : List V} {ds : List D},RepL K F vs ds → flats ds = some ws → vs = ws
 | [],_,_,h,e => by cases h;cases e;rfl
 | v :: vs,ws,_,h,e => by
  cases h with
  | cons h1 h2 =>
   rename_i d ds;have e' : (match flat d,Dl.flats ds with
    | some v,some vs => some (v :: vs)
    | _,_ => none) = some ws:=e
   cases q1 : flat d with
   | none => rw [q1] at e';cases e'
   | some x =>
    rw [q1] at e';cases q2 : Dl.flats ds with
    | none => rw [q2] at e';cases e'
    | some xs =>
     rw [q2] at e';cases e';rw [h1.flat q1,h2.flats q2]
def Z4D (d e : D) : Option Bool:=match flat d,Z3u e with
 | some v,some xs => match flats xs with
  | some vs => if flatV v = true ∧ vs.all flatV = true then some (inV v vs) else none
  | none => none
 | _,_ => none
def Z70 (d e : D) : Option Bool:=match toP d,toP e with
 | some p,some (.list qs) => if SeqAt.shaped p = true ∧ SeqAt.shaped (.list qs) = true then some (qs.any fun z => PyData.eqv z p) else none
 | _,_ => none
def inB (d e : D) : Option Bool:=match Z4D d e with
 | some b => some b
 | none => Z70 d e
def inD (d e : D) : Option D:=(inB d e).map .bl
def ninD (d e : D) : Option D:=(inB d e).map fun b => .bl (!b)
def rInA (K : KF) : R2:=fun x y H Q => rIn K false x y H Q ∨ rInD K x y H Q
def ZhG (K : KF) : R2:=fun x y H Q => rIn K true x y H Q ∨ rNotInD K x y H Q
theorem Z71 (hu : X.A.units + 65 < cLine) : OpR X (compareOp .In) (rInA X.K):=op_in_seq.or (op_inD hu)
theorem Zct (hu : X.A.units + 65 < cLine) : OpR X (compareOp .NotIn) (ZhG X.K):=op_notIn_seq.or (op_notInD hu)
theorem Z5Y {d e : D} {b : Bool} (h : Z4D d e = some b) : ∃ v xs vs,flat d = some v ∧ Z3u e = some xs ∧ flats xs = some vs ∧ flatV v = true ∧ vs.all flatV = true ∧ b = inV v vs:=by
 unfold Z4D at h;cases q1 : flat d with
 | none => rw [q1] at h;cases h
 | some v =>
  rw [q1] at h;cases q2 : Z3u e with
  | none => rw [q2] at h;cases h
  | some xs =>
   rw [q2] at h;have h2 : (match flats xs with
    | some vs => if flatV v = true ∧ vs.all flatV = true then some (inV v vs) else none
    | none => none) = some b:=h
   cases q3 : flats xs with
   | none => rw [q3] at h2;cases h2
   | some vs =>
    rw [q3] at h2;have h3 : (if flatV v = true ∧ vs.all flatV = true then some (inV v vs) else none) = some b:=h2;by_cases c : flatV v = true ∧ vs.all flatV = true
    · rw [Yj c] at h3;cases h3;exact ⟨v,xs,vs,rfl,rfl,q3,c.1,c.2,rfl⟩
    · rw [Yk c] at h3;cases h3
theorem Z5Z {d e : D} {b : Bool} (h : Z70 d e = some b) : ∃ p qs,toP d = some p ∧ toP e = some (.list qs) ∧ SeqAt.shaped p = true ∧ SeqAt.shaped (.list qs) = true ∧ b = qs.any fun z => PyData.eqv z p:=by
 unfold Z70 at h;cases q1 : toP d with
 | none => rw [q1] at h;cases h
 | some p =>
  rw [q1] at h;cases q2 : toP e with
  | none => rw [q2] at h;cases h
  | some q =>
   rw [q2] at h;cases q with
   | list qs =>
    have h3 : (if SeqAt.shaped p = true ∧ SeqAt.shaped (.list qs) = true then some (qs.any fun z => PyData.eqv z p) else none) = some b:=h;by_cases c : SeqAt.shaped p = true ∧ SeqAt.shaped (.list qs) = true
    · rw [Yj c] at h3;cases h3;exact ⟨p,qs,rfl,rfl,c.1,c.2,rfl⟩
    · rw [Yk c] at h3;cases h3
   | _ => cases h
theorem Z8r {K : KF} {F H : Hp} (fh : Same F H) {v : V} {d : D} {xs : List D} (h : Rep K F v d) (e : Z3u d = some xs) : ∃ p vs,v = .ref p ∧ (SqL K H p vs ∨ SqT K H p vs) ∧ RepL K F vs xs:=by
 cases h <;> first | (cases e;done) | skip
 · cases e;rename_i s z r;exact ⟨_,_,rfl,.inl (SqL.of (fh _ _ s)),r⟩
 · cases e;rename_i s z r;exact ⟨_,_,rfl,.inr (ZZc fh s),r⟩
theorem Z72 {K : KF} : OpD K (rInA K) inD:=by
 intro F H x y d e z Q fh rx ry hz q;unfold inD inB at hz;cases h : Z4D d e with
 | some b =>
  rw [h] at hz;cases hz;obtain ⟨v,xs,vs,e1,e2,e3,f1,f2,rfl⟩:=Z5Y h;obtain ⟨p,ws,rfl,sq,r⟩:=Z8r fh ry e2;rw [rx.flat e1];refine .inl ⟨p,ws,rfl,sq,f1,by rw [r.flats e3];exact f2, ?_⟩;rw [r.flats e3,Yk Bool.false_ne_true];exact q F H _ (Gr.refl fh) (.bl _)
 | none =>
  rw [h] at hz;cases h2 : Z70 d e with
  | none => rw [h2] at hz;cases hz
  | some b =>
   rw [h2] at hz;cases hz;obtain ⟨p,qs,e1,e2,s1,s2,rfl⟩:=Z5Z h2;exact .inr ⟨p,qs,rx.dp fh d e1,ry.dp fh e e2,s1,s2,q F H _ (Gr.refl fh) (.bl _)⟩
theorem Zcu {K : KF} : OpD K (ZhG K) ninD:=by
 intro F H x y d e z Q fh rx ry hz q;unfold ninD inB at hz;cases h : Z4D d e with
 | some b =>
  rw [h] at hz;cases hz;obtain ⟨v,xs,vs,e1,e2,e3,f1,f2,rfl⟩:=Z5Y h;obtain ⟨p,ws,rfl,sq,r⟩:=Z8r fh ry e2;rw [rx.flat e1];refine .inl ⟨p,ws,rfl,sq,f1,by rw [r.flats e3];exact f2, ?_⟩;rw [r.flats e3,Yj rfl];exact q F H _ (Gr.refl fh) (.bl _)
 | none =>
  rw [h] at hz;cases h2 : Z70 d e with
  | none => rw [h2] at hz;cases hz
  | some b =>
   rw [h2] at hz;cases hz;obtain ⟨p,qs,e1,e2,s1,s2,rfl⟩:=Z5Z h2;exact .inr ⟨p,qs,rx.dp fh d e1,ry.dp fh e e2,s1,s2,q F H _ (Gr.refl fh) (.bl _)⟩
def Zcv : Str → List Str → List D → Option D
 | f,n :: ns,d :: ds => if f = n then some d else Zcv f ns ds
 | _,_,_ => none
def Z5B (cs : List Str) (f : Str) : D → Option D
 | .ins c ns ds => if cs.contains c = true then Zcv f ns ds else none
 | _ => none
theorem Z53 {K : KF} {F : Hp} {f : Str} {d : D} : ∀ {fs : List (Str × V)} {ds : List D},RepL K F (fs.map (·.2)) ds → Zcv f (fs.map (·.1)) ds = some d → ∃ v,fs.lookup f = some v ∧ Rep K F v d
 | [],_,h,e => by cases h;cases e
 | (n,v) :: fs,_,h,e => by
  cases h with
  | cons h1 h2 =>
   rename_i d0 ds;have e' : (if f = n then some d0 else Zcv f (fs.map (·.1)) ds) = some d:=e;by_cases c : f = n
   · rw [Yj c] at e';cases e';subst c;exact ⟨v,by simp [List.lookup],h1⟩
   · rw [Yk c] at e';obtain ⟨u,e1,e2⟩:=Z53 h2 e';have c2 : (f == n) = false:=by simpa using c
     exact ⟨u,by simp [List.lookup,c2,e1],e2⟩
theorem Z3F {f : Str} (cs : List Str) (hc : ∀ c ∈ cs,Cls X.K (He.ga X.K c) ∧ NoAttr X.K (He.ga X.K c) f) (ha : PP X ios Wx a fa) (hb : attributeBase a f X.env (eval a X.env) = eval a X.env:=by rfl) : PP X ios Wx (.Attribute a f pos) (bnd fa fun x => ofO (Z5B cs f x)):=by
 obtain ⟨ta,pa,ra⟩:=ha.ex;refine ⟨_,pe_fld pa hb,fun B F W E σ H Q S h => ?_⟩;refine ra B F W E σ H _ S (Pst.seq h fun F1 W1 H1 x d E1 S1 s1 r1 h1 => ?_);obtain ⟨z,ez,h2⟩:=h1.some;cases d <;> first | (cases ez;done) | skip
 rename_i c ns ds;have e' : (if cs.contains c = true then Zcv f ns ds else none) = some z:=ez;by_cases hin : cs.contains c = true
 · rw [Yj hin] at e';have hm : c ∈ cs:=by simpa using hin
   cases r1 with
   | ins s k n r =>
    subst n k;obtain ⟨v,e1,e2⟩:=Z53 r e';exact ⟨_,_,_,_,v,rfl,S1.fh _ _ s,(hc c hm).1,(hc c hm).2,e1,h2.done S1 e2⟩
 · rw [Yk hin] at e';cases e'
def Z6Q (K : KF) (r : List V → Hp → VK → Prop) (g : List D → Option D) : Prop:=∀ (F H : Hp) (vs : List V) (ds : List D) (z : D) (Q : VK),Same F H → RepL K F vs ds → g ds = some z → (∀ F' H' v,Gr F H F' H' → Rep K F' v z → Q v H') → r vs H Q
theorem ZG {x : Str} {id : String} {p : Pos} {r : List V → Hp → VK → Prop} {g : List D → Option D} {fs : M (List D)} (hc : CallR X (.builtin id) r) (hd : Z6Q X.K r g) (hg : Gl X x) (hm : X.mg x = none) (hv : bootBuiltins x = some (.builtin id)) (ha : PL X ios Wx (e :: es) fs)
    (hn : x ≠ "__name__" := by decide) (hdb : (x == ("__debug__" : Str)) = false:=by decide) (he : starEach (e :: es) X.env = (false,eval e X.env) :: starEach es X.env:=by rfl) (hpl : (backTo pos (starEach es X.env)).any (·.1) = false:=by rfl) :
    PP X ios Wx (.Call (.Name x p) (e :: es) [] pos) (bnd fs fun xs => ofO (g xs)):=by
 obtain ⟨t,pa,ra⟩:=ha.ex;refine ⟨_,pe_callB hc hg hm hv pa hn hdb he hpl,fun B F W E σ H Q S h => ?_⟩;refine ra B F W E σ H _ S (Pst.seq h fun F1 W1 H1 vs ds E1 S1 s1 r1 h1 => ?_);obtain ⟨z,ez,h2⟩:=h1.some;exact hd F1 H1 vs ds z Q S1.fh r1 ez fun F' H' v g rr => h2.grown S1 g rr
theorem Zp {x : Str} {T : String} {p : Pos} {r : List V → Hp → VK → Prop} {g : List D → Option D} {fs : M (List D)} (hc : CallR X (.type T) r) (hd : Z6Q X.K r g) (hg : Gl X x) (hm : X.mg x = none) (hv : bootBuiltins x = some (.type T)) (ha : PL X ios Wx (e :: es) fs)
    (hn : x ≠ "__name__" := by decide) (hdb : (x == ("__debug__" : Str)) = false:=by decide) (he : starEach (e :: es) X.env = (false,eval e X.env) :: starEach es X.env:=by rfl) (hpl : (backTo pos (starEach es X.env)).any (·.1) = false:=by rfl) :
    PP X ios Wx (.Call (.Name x p) (e :: es) [] pos) (bnd fs fun xs => ofO (g xs)):=by
 obtain ⟨t,pa,ra⟩:=ha.ex;refine ⟨_,pe_callTy hc hg hm hv pa hn hdb he hpl,fun B F W E σ H Q S h => ?_⟩;refine ra B F W E σ H _ S (Pst.seq h fun F1 W1 H1 vs ds E1 S1 s1 r1 h1 => ?_);obtain ⟨z,ez,h2⟩:=h1.some;exact hd F1 H1 vs ds z Q S1.fh r1 ez fun F' H' v g rr => h2.grown S1 g rr
end
def Jd (i : Nat) (d : D) (E : Nv) : Option Nv:=some (E.set i (~~~d))
def tgN : List D → Nv → Option Nv
 | [],E => some E
 | _,_ => none
def tgC (h : D → Nv → Option Nv) (hs : List D → Nv → Option Nv) : List D → Nv → Option Nv
 | d :: ds,E => (h d E).bind (hs ds)
 | _,_ => none
def tgT (n : Nat) (hs : List D → Nv → Option Nv) : D → Nv → Option Nv
 | .tup ds,E => if ds.length = n then hs ds E else none
 | .lst ds,E => if ds.length = n then hs ds E else none
 | _,_ => none
theorem PG.or {X : Cx} {e : Expr} {g g' : TG} (h : PG X e g) (h' : PG X e g') : PG X e (fun v σ H Q => g v σ H Q ∨ g' v σ H Q) :=
 ⟨fun pins s σ H v u Q I r q => by
  rcases q with q | q
  · exact h.run pins s σ H v u Q I r q
  · exact h'.run pins s σ H v u Q I r q⟩
structure PT' (X : Cx) (ios : Ios) (tg : Expr) (h : D → Nv → Option Nv) : Prop where
 ex : ∃ g : TG,PG X tg g ∧ ∀ B F W E E' σ H v d Q,St X.K ios B F W E σ H → Rep X.K F v d → h d E = some E' → (∀ σ' W',St X.K ios B F W' E' σ' H → Q σ' H) → g v σ H Q
structure PTs' (X : Cx) (ios : Ios) (tgs : List Expr) (h : List D → Nv → Option Nv) : Prop where
 ex : ∃ g : TGs,PGs X tgs g ∧ ∀ B F W E E' σ H vs ds Q,St X.K ios B F W E σ H → RepL X.K F vs ds → h ds E = some E' → (∀ σ' W',St X.K ios B F W' E' σ' H → Q σ' H) → g vs σ H Q
section
variable {X : Cx} {ios : Ios} {Wx : WX} {a b c e tg : Expr} {es tgs : List Expr} {pos : Pos}
theorem Za {i : Nat} {x : Str} (hN : X.N.Nodup) (hi : X.N[i]? = some x) (hx : Loc X.env.scope x) (hio : ios.contains i = false) (hf : X.fn x = true ∨ X.env.scope.names.lookup x = some .local:=by first | exact .inl rfl | exact .inr rfl | assumption) :
    PT' X ios (.Name x pos) (Jd i):=by
 refine ⟨_,pg_name hN hi hx hf,fun B F W E E' σ H v d Q S r h k => ?_⟩;cases h;exact k _ _ (S.put hio (Wr:=Dl.noW) Fresh.no r)
theorem Z10 : PTs' X ios [] tgN:=by
 refine ⟨_,pgs_nil,fun B F W E E' σ H vs ds Q S r h k => ?_⟩;cases ds with
 | nil => cases r;cases h;exact ⟨rfl,k σ W S⟩
 | cons d ds => cases h
theorem Z9 {h : D → Nv → Option Nv} {hs : List D → Nv → Option Nv} (h1 : PT' X ios tg h) (h2 : PTs' X ios tgs hs)
    (hs' : (assignEach (tg :: tgs) X.env).map (·.2) = assign tg X.env :: (assignEach tgs X.env).map (·.2):=by rfl) : PTs' X ios (tg :: tgs) (tgC h hs):=by
 obtain ⟨g1,p1,r1⟩:=h1.ex;obtain ⟨g2,p2,r2⟩:=h2.ex;refine ⟨_,pgs_cons p1 p2 hs',fun B F W E E' σ H vs ds Q S r hh k => ?_⟩;cases ds with
 | nil => cases hh
 | cons d ds =>
  cases r with
  | cons q1 q2 =>
   have hh' : (h d E).bind (hs ds) = some E':=hh;cases e1 : h d E with
   | none => rw [e1] at hh';cases hh'
   | some E1 =>
    rw [e1] at hh';exact ⟨_,_,rfl,r1 B F W E E1 σ H _ d _ S q1 e1 fun σ1 W1 S1 => r2 B F W1 E1 E' σ1 H _ ds Q S1 q2 hh' k⟩
theorem Z1N {n k : Nat} {hs : List D → Nv → Option Nv} (hc : X.calm = true) (h : PTs' X ios es hs) (hn : (assignEach es X.env).length = n:=by rfl) (hst : (assignEach es X.env).findIdx? (·.1) = none:=by rfl) :
    PT' X ios (.Tuple es k pos) (tgT n hs):=by
 obtain ⟨g,p,r⟩:=h.ex;refine ⟨_,PG.or (pg_tup hc p hn hst) (pg_unl hc p hn hst),fun B F W E E' σ H v d Q S rr hh kk => ?_⟩;cases d <;> first | (cases hh;done) | skip
 · rename_i ds;have hh' : (if ds.length = n then hs ds E else none) = some E':=hh;by_cases c : ds.length = n
   · rw [Yj c] at hh';cases rr with
     | lst s z q => exact .inr ⟨_,_,rfl,SqL.of (S.fh _ _ s),by rw [q.length];exact c,r B F W E E' σ H _ ds Q S q hh' kk⟩
   · rw [Yk c] at hh';cases hh'
 · rename_i ds;have hh' : (if ds.length = n then hs ds E else none) = some E':=hh;by_cases c : ds.length = n
   · rw [Yj c] at hh';cases rr with
     | tup s z q => exact .inl ⟨_,_,rfl,ZZc S.fh s,by rw [q.length];exact c,r B F W E E' σ H _ ds Q S q hh' kk⟩
   · rw [Yk c] at hh';cases hh'
def asgS (h : D → Nv → Option Nv) (f : M D) : G:=Jf f fun d E => match h d E with
 | some E' => .nx E'
 | none => .stk
theorem Z73 {h : D → Nv → Option Nv} {f : M D} (he : PP X ios Wx e f) (hg : PT' X ios tg h) (hs : swapsWithSole [tg] e pos.line X.env = pure false:=by rfl) (hw : swappedStores [tg] e X.env = pure none:=by rfl)
    (h1 : (assignEach [tg] X.env).map (·.2) = [assign tg X.env]:=by rfl) : PD X ios Wx (.Assign [tg] e pos) (asgS h f):=by
 obtain ⟨t,p,r⟩:=he.ex;obtain ⟨g,p2,r2⟩:=hg.ex;refine ⟨_,ps_asg p p2 hs hw h1,fun B F W E σ H D S k => ?_⟩;refine r B F W E σ H _ S (Ju.seq k fun F1 W1 H1 v d E1 S1 s1 rr k1 => ?_);cases q : h d E1 with
 | none => rw [q] at k1;exact k1.elim
 | some E2 =>
  rw [q] at k1;exact r2 B F1 W1 E1 E2 σ H1 v d _ S1 rr q fun σ' W' S' => k1 F1 W' H1 σ' S' (Same.refl F1)
def Z74 (i j : Nat) (f : M (List D)) : G:=Jf f fun ds E => match ds with
 | [d,e] => .nx ((E.set i (~~~d)).set j (~~~e))
 | _ => .stk
theorem Z75 {i j : Nat} {x y : Str} {px py pt : Pos} {kt k2 pt2} {fs : M (List D)} (hc : X.calm = true) (hN : X.N.Nodup) (hi : X.N[i]? = some x) (hj : X.N[j]? = some y) (hij : i ≠ j)
    (hx : X.env.scope.names.lookup x = some .local) (hy : X.env.scope.names.lookup y = some .local) (hio : ios.contains i = false) (hjo : ios.contains j = false) (ha : PL X ios Wx [a,b] fs)
    (hw : swappedStores [.Tuple [.Name x px,.Name y py] kt pt] (.Tuple [a,b] k2 pt2) X.env = pure (some [x,y]))
    (hs : swapsWithSole [.Tuple [.Name x px,.Name y py] kt pt] (.Tuple [a,b] k2 pt2) pos.line X.env = pure false:=by rfl) :
    PD X ios Wx (.Assign [.Tuple [.Name x px,.Name y py] kt pt] (.Tuple [a,b] k2 pt2) pos) (Z74 i j fs):=by
 obtain ⟨t,p,r⟩:=ha.ex;refine ⟨_,ps_par hc hN hi hj hij hx hy p hw hs,fun B F W E σ H D S k => ?_⟩;refine r B F W E σ H _ S (Ju.seq k fun F1 W1 H1 vs ds E1 S1 s1 rr k1 => ?_);cases rr with
 | nil => exact k1.elim
 | cons q1 rr =>
  cases rr with
  | nil => exact k1.elim
  | cons q2 rr =>
   cases rr with
   | nil => exact ⟨_,_,rfl,k1 F1 _ H1 _ ((S1.put hio (p:=(.sh,_)) (Wr:=Dl.noW) Fresh.no q1).put hjo (p:=(.sh,_)) (Wr:=Dl.noW) Fresh.no q2) (Same.refl F1)⟩
   | cons _ _ => exact k1.elim
end
structure Wlk (K : KF) (J : It) (ds : List D) (F0 : Hp) : Prop where
 go : ∀ i F H,Same F0 F → Same F H → i < ds.length → J.go i H
 yld : ∀ i F H x H' d,Same F0 F → Same F H → J.yld i H x H' → ds[i]? = some d → ∃ F',Gr F H F' H' ∧ Rep K F' x d
 stop : ∀ i F H,Same F0 F → Same F H → ds.length ≤ i → J.stop i H
structure PIt (X : Cx) (ios : Ios) (Wx : WX) (tg iter : Expr) (f : M (List D)) : Prop where
 ex : ∃ wi : TI,PI X tg iter wi ∧ ∀ B F W E σ H R,St X.K ios B F W E σ H → Pst X.K ios B Wx σ (fun F' (J : It) ds => Wlk X.K J ds F') F W H (f E) R → wi σ H R
def Z1i (asg : D → Nv → Option Nv) (body : G) : List D → G
 | [],E => .nx E
 | d :: ds,E => match asg d E with
  | none => .stk
  | some E1 => match body E1 with
   | .nx E2 => Z1i asg body ds E2
   | .ct E2 => Z1i asg body ds E2
   | .bk E2 => .nx E2
   | .rt p E2 => .rt p E2
   | .er x E2 => .er x E2
   | .stk => .stk
def Jw (f : M (List D)) (asg : D → Nv → Option Nv) (body : G) : G:=Jf f fun ds => Z1i asg body ds
section
variable {X : Cx} {ios : Ios} {Wx : WX} {a b c e tg iter : Expr} {es tgs : List Expr} {pos : Pos} {body : List Stmt}
theorem Z13 {f : M (List D)} {asg : D → Nv → Option Nv} {g : G} (hp : PassesOwn (model X.prog X.w) X.A X.env X.xe) (hc : X.calm = true) (hi : PIt X ios Wx tg iter f) (hg : PT' X ios tg asg) (hb : PDs X ios Wx body g)
    (hs : ∀ x,foldedSetIterable iter X.env x = pure x:=by intro _;rfl) : PD X ios Wx (.For tg iter body [] pos) (Jw f asg g):=by
 obtain ⟨wi,pi,ri⟩:=hi.ex;obtain ⟨gg,pg,rg⟩:=hg.ex;obtain ⟨tb,pb,rb⟩:=hb.ex;refine ⟨_,ps_for hp hc pi pg pb hs,fun B F W E σ H D S k => ?_⟩;refine ri B F W E σ H _ S (Ju.seq k fun F1 W1 H1 J ds E1 S1 s1 wl k1 => ?_);refine ⟨fun i m σ' H' => m = ds.length - i ∧ i ≤ ds.length ∧ ∃ F' W' E',St X.K ios B F' W' E' σ' H' ∧ Same F1 F' ∧ Ju X.K ios B Wx F' (Z1i asg g (ds.drop i) E') D,
  ⟨ds.length,by simp,Nat.zero_le _,F1,W1,E1,S1,Same.refl F1,k1⟩, ?_⟩
 rintro i m σ' H' ⟨rfl,hi,F',W',E',S',e',k'⟩
 by_cases hlt : i < ds.length
 · refine .inr ⟨wl.go i F' H' e' S'.fh hlt,fun σ2 H2 => ∃ F2 W2 E2,St X.K ios B F2 W2 E2 σ2 H2 ∧ Same F1 F2 ∧ Ju X.K ios B Wx F2 (Z1i asg g (ds.drop (i + 1)) E2) D,fun σ2 H2 h2 => ⟨ds.length - (i + 1),by omega,rfl,hlt,h2⟩,fun x H2 hy => ?_⟩;have ed : ds[i]? = some ds[i]:=Ym hlt;obtain ⟨F2,gr,rx⟩:=wl.yld i F' H' x H2 _ e' S'.fh hy ed;have S2:=S'.grow gr;rw [List.drop_eq_getElem_cons hlt] at k';have k2 : Ju X.K ios B Wx F2 (Z1i asg g (ds[i] :: ds.drop (i + 1)) E') D:=Ju.from gr.fx k';unfold Z1i at k2;cases q : asg ds[i] E' with
   | none => rw [q] at k2;exact k2.elim
   | some E3 =>
    rw [q] at k2;refine rg B F2 W' E' E3 σ' H2 x _ _ S2 rx q fun σ3 W3 S3 => ?_;refine rb B F2 W3 E3 σ3 H2 _ S3 ?_;cases q2 : g E3 with
    | nx E4 => simp only [q2] at k2;exact fun F4 W4 H4 σ4 S4 t4 => ⟨F4,W4,E4,S4,e'.trans (gr.fx.trans t4),Ju.from t4 k2⟩
    | ct E4 => simp only [q2] at k2;exact fun F4 W4 H4 σ4 S4 t4 => ⟨F4,W4,E4,S4,e'.trans (gr.fx.trans t4),Ju.from t4 k2⟩
    | bk E4 => simp only [q2] at k2;exact fun F4 W4 H4 σ4 S4 t4 => k2 F4 W4 H4 σ4 S4 t4
    | rt p E4 => simp only [q2] at k2;exact fun F4 W4 H4 σ4 v Wr S4 t4 => k2 F4 W4 H4 σ4 v Wr S4 t4
    | er x E4 => simp only [q2] at k2;exact fun F4 W4 H4 σ4 c dx S4 t4 => k2 F4 W4 H4 σ4 c dx S4 t4
    | stk => simp only [q2] at k2;exact k2.elim
 · have e : i = ds.length:=by omega
   subst e;rw [List.drop_length] at k';exact .inl ⟨wl.stop _ F' H' e' S'.fh (Nat.le_refl _),k' F' W' H' σ' S' (Same.refl F')⟩
theorem ZaM {K : KF} {F0 : Hp} {a : Addr} {vs : List V} {ds : List D} (h : F0 a = some (.lst vs)) (r : RepL K F0 vs ds) : Wlk K (Itl K a) ds F0 where
 go:=fun i F H e1 e2 hi => by
  have hl:=r.length;exact ⟨vs,vs[i],SqL.of (e2 _ _ (e1 _ _ h)),Ym (by omega)⟩
 yld:=fun i F H x H' d e1 e2 hy hd => by
  obtain ⟨rfl,hq⟩:=hy;obtain ⟨v,ev,rv⟩:=r.get hd;have ex:=hq vs (SqL.of (e2 _ _ (e1 _ _ h)));rw [ev] at ex;cases ex;exact ⟨F,Gr.refl e2,rv.mono e1 d⟩
 stop:=fun i F H e1 e2 hi => ⟨vs,SqL.of (e2 _ _ (e1 _ _ h)),by rw [r.length];exact hi⟩
theorem Zcw {K : KF} {F0 : Hp} {a : Addr} {vs : List V} {ds : List D} (h : SqT K F0 a vs) (r : RepL K F0 vs ds) : Wlk K (Itt K a) ds F0 where
 go:=fun i F H e1 e2 hi => by
  have hl:=r.length;exact ⟨vs,vs[i],ZZc e2 (ZZc e1 h),Ym (by omega)⟩
 yld:=fun i F H x H' d e1 e2 hy hd => by
  obtain ⟨rfl,hq⟩:=hy;obtain ⟨v,ev,rv⟩:=r.get hd;have ex:=hq vs (ZZc e2 (ZZc e1 h));rw [ev] at ex;cases ex;exact ⟨F,Gr.refl e2,rv.mono e1 d⟩
 stop:=fun i F H e1 e2 hi => ⟨vs,ZZc e2 (ZZc e1 h),by rw [r.length];exact hi⟩
def rng (lo : Int) (n : Nat) : List D:=(List.range n).map fun i => .int (lo + (i : Nat))
theorem Zcx {K : KF} {F0 : Hp} {lo : Int} {n : Nat} : Wlk K (Itr lo n) (rng lo n) F0 where
 go:=fun i F H e1 e2 hi => by
  unfold rng at hi;rw [Yi,Ys] at hi;exact hi
 yld:=fun i F H x H' d e1 e2 hy hd => by
  obtain ⟨rfl,rfl⟩:=hy;unfold rng at hd;rw [List.getElem?_map] at hd;cases q : (List.range n)[i]? with
  | none => rw [q] at hd;cases hd
  | some j =>
   rw [q] at hd;have ej : j = i:=by
    rw [List.getElem?_range] at q
    · cases q;rfl
    · have:=(Yn.mp q).1;rw [Ys] at this;exact this
   subst ej;cases hd;exact ⟨F,Gr.refl e2,.int _⟩
 stop:=fun i F H e1 e2 hi => by
  unfold rng at hi;rw [Yi,Ys] at hi;exact hi
def Z3G : List D → Option (List D)
 | [.int j] => if inR 4611686018427387903 j = true then some (rng 0 j.toNat) else none
 | _ => none
def Zcy : List D → Option (List D)
 | [.int i,.int j] => if inR 4611686018427387903 i = true ∧ inR 4611686018427387903 j = true then some (rng i (j - i).toNat) else none
 | _ => none
theorem Zcz {ds z : List D} (h : Z3G ds = some z) : ∃ j,ds = [.int j] ∧ -(2 ^ 62) ≤ j ∧ j < 2 ^ 62 ∧ z = rng 0 j.toNat:=by
 match ds,h with
 | [.int j],h =>
  have h' : (if inR 4611686018427387903 j = true then some (rng 0 j.toNat) else none) = some z:=h;by_cases c : inR 4611686018427387903 j = true
  · rw [Yj c] at h';cases h';have ci:=Z1S.mp c;exact ⟨j,rfl,by omega,by omega,rfl⟩
  · rw [Yk c] at h';cases h'
theorem Zm {fs : M (List D)} {p : Pos} (hg : Gl X "range") (hm : X.mg "range" = none) (ha : PL X ios Wx [a] fs) (hs : starEach [a] X.env = [(false,eval a X.env)]:=by rfl) : PIt X ios Wx tg (.Call (.Name "range" p) [a] [] pos) (bnd fs fun ds => ofO (Z3G ds)):=by
 obtain ⟨t,pa,r⟩:=ha.ex;refine ⟨_,pi_range1 hg hm pa hs,fun B F W E σ H R S h => ?_⟩;refine r B F W E σ H _ S (Pst.seq h fun F1 W1 H1 vs ds E1 S1 s1 rr h1 => ?_);obtain ⟨z,ez,h2⟩:=h1.some;obtain ⟨j,rfl,c1,c2,rfl⟩:=Zcz ez;cases rr with
 | cons q1 rr =>
  cases rr;cases q1;exact ⟨j,rfl,c1,c2,h2 F1 W1 H1 _ S1 (Stp.refl _ _ _) Zcx⟩
end
abbrev Cxt (P : Program) (w : World) : CXT:=L2.CX P w
structure FnG (P : Program) (w : World) (K : KF) (mg : Str → Option Value) (base : Heap) (k : Nat) (f : Addr) (fd : FuncData) (ps : List Str) (sp : Sp) : Prop where
 len : ∀ vs H Q E,sp vs H Q E → vs.length = ps.length
 run : ∀ (A : Around) (outer : List Env) (s : Shared) (H : Hp) (args : Args) (us : List Value) (vs : List V) (Q : VK) (E : XK),Room k A → A.guards = some [] → Env0 P w K mg base A outer s H →
  BindsTo s fd args (ps.zip us) → Vals vs us → sp vs H Q E → codeAny (model P w) A (.call (.ref f) args) (CR (Cxt P w) outer P w H s Q E) s
section
variable {P : Program} {w : World} {K : KF} {mg : Str → Option Value} {base : Heap}
def cOf (K : KF) (f : Addr) : Addr:=match K.lookup f with
 | some ⟨_,_,.func fd,_⟩ => (match fd.code with
  | .ref c => c
  | _ => 0)
 | _ => 0
theorem Zge {K : KF} {f : Addr} {oc : Value} {od : Option Addr} {osl : Array (Option Value)} {fd : FuncData} {q : Str} (lk : K.lookup f = some ⟨oc,od,.func fd,osl⟩) (e : PySem.W.codeIn K fd.code q = true) : fd.code = .ref (cOf K f):=by
 unfold cOf;rw [lk];show fd.code = .ref (match fd.code with | .ref c => c | _ => 0);cases h : fd.code with
 | ref c => rfl
 | _ => rw [h] at e;cases e
theorem ZZip {x qual : Str} {params : Arguments} {body : List Stmt} {scope : Scope} {dvs : List V} {kws : List (Str × V)} {f : Addr} {fd : FuncData} {N ps : List Str} {k : Nat} {sp : Sp}
    (F : FunD K x qual params body scope dvs kws f fd) (S : FnScope N ps scope) (len : ∀ vs H Q E,sp vs H Q E → vs.length = ps.length)
    (hb : ∀ (cdv : Value),cdv = .ref (cOf K f) → ∀ (A : Around) (outer : List Env) (s : Shared) (H : Hp) (vs : List V) (Q : VK) (E : XK),Room k (A.deeper (envOfC qual scope s.heap.objs.size f cdv)) → (A.deeper (envOfC qual scope s.heap.objs.size f cdv)).guards = some [] → sp vs H Q E →
     ∃ t,PSs (cxOf (Cxt P w) P w K mg base N qual scope f cdv A outer s H E) body t ∧ t { nx:=fun _ H' => Q .non H',rt:=Q } (start N vs) H) : FnG P w K mg base (k + 1) f fd ps sp:=by
 obtain ⟨oc,od,dV,kV,doc,pm,an,cdv,ct,osl,efd,lk,hcd,_,_⟩:=F.ex;subst efd;constructor
 · exact len
 intro A outer s H args us vs Q E room guards env binds vals wish;have stays : ∀ b o,base.get? b = some o → s.heap.get? b = some o:=fun b o z => (env.bs b o z).1;have inHeap : K.In s.heap:=env.mod.kin.keeps stays;have vl:=len _ _ _ _ wish;have kinds : ∀ y ∈ ps.zip us,scope.names.lookup y.1 = some .local ∨ (scope.names.lookup y.1 = some .cell ∧ ((cellsFrom (s.heap.objs.size + 1) scope.names []).lookup y.1).isSome = true):=by
  rintro ⟨n,v⟩ hy
  cases S.par n (List.of_mem_zip hy).1 with
  | inl q => exact Or.inl q
  | inr q => exact Or.inr ⟨q,PySem.W.cellsFrom_some _ _ _ (Or.inl q)⟩
 refine codeAny_call_function room.depth (inHeap _ _ lk) rfl S.co S.gen rfl (PySem.W.codeRec_of inHeap hcd) (binds _ _ _ _ (wpAny_newFunctionEnv_cells S.kind kinds ?_));intro env' e' s1 ic;subst e';refine ⟨(env.mod.nolimit.keeps stays).keeps ic.toInCall.keep,codeAny_func ?_⟩;have hcv : cdv = .ref (cOf K f):=Zge lk hcd;obtain ⟨t,pt,rd⟩:=hb cdv hcv A outer s H vs Q E (room.deeper _) guards wish;have inv : Inv (cxOf (Cxt P w) P w K mg base N qual scope f cdv A outer s H E) [] (start N vs) H s1:=inv_start S room.hd env vl vals ic;refine wpAny_mono (pt.run [] s1 (start N vs) H _ inv rd) ?_ fun e s' z => z;intro fl s' z;cases fl with
 | ret u =>
  obtain ⟨v,σ',H',J,rv,q⟩:=z;exact ⟨v,H',J.os,J.bare,J.base,J.hok,rv,q⟩
 | next =>
  obtain ⟨σ',H',J,q⟩:=z;exact ⟨.non,H',J.os,J.bare,J.base,J.hok,rfl,q⟩
 | brk =>
  obtain ⟨_,_,_,q⟩:=z;exact q.elim
 | cont =>
  obtain ⟨_,_,_,q⟩:=z;exact q.elim
end
section
variable {X : Cx} {k : Nat} {f C : Addr} {fd : FuncData} {ps : List Str} {sp : Sp} {dvs : List V} {ds : List Value} {x m : Str} {p pos apos : Pos} {e o : Expr} {es : List Expr} {ta : TE} {t : TA} {W : WX}
theorem Ziq {pins : List (Addr × Obj)} {σ : L2.St} {H : Hp} {s : Shared} {Q : VK} {us : List Value} {vs : List V} (F : FnG X.prog X.w X.K X.mg X.base k f fd ps sp) (hr : Room k X.A) (hg : X.A.guards = some []) (hb : Binds X.K fd ps ds) (hd : Vals dvs ds) (tk : Takes X W)
    (I : Inv X pins σ H s) (r : Vals vs us) (h : sp (vs ++ dvs) H Q (WE W σ)) : wpAny (model X.prog X.w) X.A (call (.ref f) us) (EP X pins σ Q) X.xe s:=by
 have all : Vals (vs ++ dvs) (us ++ ds):=r.append hd;have ll : (us ++ ds).length = ps.length:=all.length.symm.trans (F.len _ _ _ _ h);refine wpAny_call (codeAny_mono (F.run X.A X.stack s H ⟨us,[]⟩ (us ++ ds) (vs ++ dvs) Q _ hr hg I.env0 (hb s us I.kIn ll) all h) ?_);intro z s' hz
 match z,hz with
 | .error ex,hz => exact tk ex s' (XE.of_call I (fun _ _ _ y => y) hz)
 | .ok (.ret u),hz => exact I.after hz
 | .ok .next,hz => exact hz.elim
 | .ok .brk,hz => exact hz.elim
 | .ok .cont,hz => exact hz.elim
def Zgf (sp : Sp) (dvs : List V) (W : WX) (t : TA) : TE:=fun σ H Q => t σ H fun vs H1 => sp (vs ++ dvs) H1 Q (WE W σ)
theorem pe_g (F : FnG X.prog X.w X.K X.mg X.base k f fd ps sp) (hr : Room k X.A) (hgd : X.A.guards = some []) (hg : Gl X x) (hm : X.mg x = some (.ref f)) (hk : PySem.W.keepIn X.K (.ref f) = true) (hb : Binds X.K fd ps ds) (hd : Vals dvs ds) (tk : Takes X W)
    (ha : PA X (e :: es) t) (hdb : (x == ("__debug__" : Str)) = false:=by decide) (he : starEach (e :: es) X.env = (false,eval e X.env) :: starEach es X.env:=by rfl) (hpl : (backTo pos (starEach es X.env)).any (·.1) = false:=by rfl) :
    PE X (.Call (.Name x p) (e :: es) [] pos) (Zgf sp dvs W t):=by
 constructor;intro pins s σ H Q I h;refine wpAny_Call_Name_kw (ld_glob I hg hm (PySem.W.callWith_K (h₀:=X.base) I.ok.mod.kin hk (thn (ha.run pos pins s σ H _ I h) ?_) he hpl) hdb)
 rintro us s1 ⟨vs,H1,I1,r,q⟩
 exact ⟨I1.kIn,Ziq F hr hgd hb hd tk I1 r q⟩
def Zgg (C : Addr) (sp : Sp) (dvs : List V) (W : WX) (t : TA) : TE:=fun σ H Q => t σ H fun vs H1 => ∀ x dx,H1 x = none → H1 dx = none → dx ≠ x →
 sp (.ref x :: (vs ++ dvs)) (upd (upd H1 dx (.own x)) x (.ins C dx [])) (fun v H2 => v = .non ∧ Q (.ref x) H2) (WE W σ)
theorem Z6z {A : Around} {C : Addr} {us : List Value} {kw : List (Str × Value)} : (A.under (.builtin "type.__call__" ⟨.ref C :: us,kw⟩)).guards = A.guards:=by
 simp [Around.under,Code.guards,Code.isGuard,guardIds,pushGuards]
theorem Zgh {pins : List (Addr × Obj)} {σ : L2.St} {H : Hp} {s : Shared} {Q : VK} {us : List Value} {vs : List V} (M : Mk X.K C f) (F : FnG X.prog X.w X.K X.mg X.base k f fd ps sp) (hr : Room (k + 1) X.A) (hgd : X.A.guards = some []) (hb : Binds X.K fd ps ds) (hd : Vals dvs ds)
    (tk : Takes X W) (I : Inv X pins σ H s) (r : Vals vs us)
    (h : ∀ x dx,H x = none → H dx = none → dx ≠ x → sp (.ref x :: (vs ++ dvs)) (upd (upd H dx (.own x)) x (.ins C dx [])) (fun v H2 => v = .non ∧ Q (.ref x) H2) (WE W σ)) :
    wpAny (model X.prog X.w) X.A (call (.ref C) us) (EP X pins σ Q) X.xe s:=by
 have wish:=h (s.heap.objs.size + 1) s.heap.objs.size (I.hok.fresh (Nat.le_succ _)) (I.hok.fresh (Nat.le_refl _)) (Nat.ne_of_lt (Nat.lt_succ_self _));have I2:=Inv.made (C:=C) I;have all : Vals (V.ref (s.heap.objs.size + 1) :: (vs ++ dvs)) (Value.ref (s.heap.objs.size + 1) :: (us ++ ds)):=Paired.cons rfl (r.append hd);have ll : (Value.ref (s.heap.objs.size + 1) :: us ++ ds).length = ps.length:=by
  have z:=F.len _ _ _ _ wish;rw [all.length] at z;exact z
 have runs:=F.run _ X.stack _ _ ⟨Value.ref (s.heap.objs.size + 1) :: us,[]⟩ (Value.ref (s.heap.objs.size + 1) :: (us ++ ds)) _ _ (WE W σ) (hr.make C us []) (by rw [Z6z];exact hgd) (I2.env0.make C us []) (hb _ (Value.ref (s.heap.objs.size + 1) :: us) I2.kIn ll) all wish;refine wpAny_call (make_map (f:=f) I.kIn M.makes M.init (beq_iff_eq.mp M.fn) (codeAny_mono runs ?_));intro z s' hz
 match z,hz with
 | .error ex,hz => exact tk ex s' (XE.of_call I2 (fun _ _ _ y => y) hz)
 | .ok (.ret u),hz =>
  obtain ⟨v,H',I3,rv,ev,q3⟩:=I2.after hz;subst ev;exact ⟨rv,.ref (s.heap.objs.size + 1),H',I3,rfl,q3⟩
 | .ok .next,hz => exact hz.elim
 | .ok .brk,hz => exact hz.elim
 | .ok .cont,hz => exact hz.elim
theorem Zir (M : Mk X.K C f) (F : FnG X.prog X.w X.K X.mg X.base k f fd ps sp) (hr : Room (k + 1) X.A) (hgd : X.A.guards = some []) (hg : Gl X x) (hm : X.mg x = some (.ref C)) (hb : Binds X.K fd ps ds) (hd : Vals dvs ds) (tk : Takes X W)
    (ha : PA X (e :: es) t) (hdb : (x == ("__debug__" : Str)) = false:=by decide) (he : starEach (e :: es) X.env = (false,eval e X.env) :: starEach es X.env:=by rfl) (hpl : (backTo pos (starEach es X.env)).any (·.1) = false:=by rfl) :
    PE X (.Call (.Name x p) (e :: es) [] pos) (Zgg C sp dvs W t):=by
 constructor;intro pins s σ H Q I h;refine wpAny_Call_Name_kw (ld_glob I hg hm (PySem.W.callWith_K (h₀:=X.base) I.ok.mod.kin M.kp (thn (ha.run pos pins s σ H _ I h) ?_) he hpl) hdb)
 rintro us s1 ⟨vs,H1,I1,r,q⟩
 exact ⟨I1.kIn,Zgh M F hr hgd hb hd tk I1 r q⟩
end
inductive Rf where
 | ok (r : Ent) (E : Nv) | er (x : Xn) (E : Nv) | stk
abbrev Fm:=List Ent → Rf
def PstF (K : KF) (ios : List Nat) (F : Hp) (W : Wm) (H : Hp) (vs : List V) (r : Rf) (Q : VK) (Ex : XK) : Prop :=
 match r with
 | .ok p E => ∀ F' W' H' v Wr,Outs K ios F W H F' W' H' vs E → Fresh Wr H F' W' H' → Jm K F' H' Wr p.1 [] v p.2 → Q v H'
 | .er x E => ∀ F' W' H' c dx,Outs K ios F W H F' W' H' vs E → XRep K F' H' x c dx → Ex c dx H'
 | .stk => False
def spD (K : KF) (n : Nat) (ios : List Nat) (m : Fm) : Sp:=fun vs H Q Ex => vs.length = n ∧ ∃ F W as,Ins K ios F W H vs as ∧ PstF K ios F W H vs (m as) Q Ex
def Jj (N : Nat) (g : G) : Fm:=fun as => match g (as.map some ++ List.replicate (N - as.length) none) with
 | .nx E => .ok (.sh,.non) E
 | .rt p E => .ok p E
 | .er x E => .er x E
 | .bk _ => .stk
 | .ct _ => .stk
 | .stk => .stk
def rst (ios : List Nat) (W : Wm) : Wm:=fun a => match W a with
 | some (i :: p) => if ios.contains i = true then some (i :: p) else none
 | _ => none
theorem Z8s {ios : List Nat} {W : Wm} {a : Addr} {l : Lab} (h : rst ios W a = some l) : W a = some l ∧ ∃ i p,l = i :: p ∧ i ∈ ios:=by
 unfold rst at h;cases q : W a with
 | none => rw [q] at h;cases h
 | some l' =>
  rw [q] at h;cases l' with
  | nil => cases h
  | cons i p =>
   have h' : (if ios.contains i = true then some (i :: p) else none) = some l:=h;by_cases c : ios.contains i = true
   · rw [Yj c] at h';cases h';exact ⟨rfl,i,p,rfl,by simpa using c⟩
   · rw [Yk c] at h';cases h'
theorem ZcA {ios : List Nat} {W : Wm} {a : Addr} {i : Nat} {p : Lab} (h : W a = some (i :: p)) (hi : i ∈ ios) : rst ios W a = some (i :: p):=by
 unfold rst;rw [h];exact Yj (by simpa using hi)
theorem ZaN {ios : List Nat} {W : Wm} {a : Addr} (h : W a = none) : rst ios W a = none:=by
 unfold rst;rw [h]
section
variable {K : KF} {ios : List Nat} {F F' : Hp} {W W' : Wm} {E' : Nv} {σ' : L2.St} {H H' : Hp} {vs : List V} {pn : Nat → Option V}
theorem St.outs (S : St K (.of ios) ⟨pn,F,W,H⟩ F' W' E' σ' H') (hp : ∀ i v,i ∈ ios → vs[i]? = some v → pn i = some v) : Outs K ios F W H F' (rst ios W') H' vs E' where
 st:=by
  have s : Stp F W H F' W' H':=S.st;refine ⟨s.fx,s.fn,fun a l h => ?_,fun a l h => s.wn a l (Z8s h).1,s.hx,s.hd,s.fk,fun P q tw => (s.tb P q tw).w fun a l z => (S.ow a l (Z8s z).1).2⟩;obtain ⟨i,p,rfl,hi⟩:=S.w0 a l h;exact ZcA (s.wx a _ h) hi
 fh:=S.fh
 nz:=S.nz
 ow:=fun a l h => S.ow a l (Z8s h).1
 io:=fun a l h => (Z8s h).2
 vr:=fun i v t d hi hv he => by
  obtain ⟨u,h1,h2⟩:=S.vr i t d he;have h3:=(S.pn i v (hp i v hi hv)).2;rw [h1] at h3;cases h3;exact Jm.relab (p:=[i]) (p':=[i]) (q:=[]) (fun a q z => ZcA z hi) h2
end
section
variable {P : Program} {w : World} {K : KF} {mg : Str → Option Value} {base : Heap}
theorem Zgi {x qual : Str} {params : Arguments} {body : List Stmt} {scope : Scope} {dvs : List V} {kws : List (Str × V)} {f : Addr} {fd : FuncData} {N ps : List Str} {k n : Nat} {ios : List Nat} {g : G}
    (F : FunD K x qual params body scope dvs kws f fd) (S : FnScope N ps scope) (hn : ps.length = n)
    (hb : ∀ (cdv : Value),cdv = .ref (cOf K f) → ∀ (A : Around) (outer : List Env) (s : Shared) (H : Hp) (E : XK),Room k (A.deeper (envOfC qual scope s.heap.objs.size f cdv)) → (A.deeper (envOfC qual scope s.heap.objs.size f cdv)).guards = some [] →
     PDs (cxOf (Cxt P w) P w K mg base N qual scope f cdv A outer s H E) (.of ios) (fun c d _ H => E c d H) body g) : FnG P w K mg base (k + 1) f fd ps (spD K n ios (Jj N.length g)):=by
 refine ZZip F S (fun vs H Q E h => h.1.trans hn.symm) fun cdv hcv A outer s H vs Q E hr hg h => ?_;obtain ⟨hl,F0,W0,as,I,post⟩:=h;obtain ⟨t,pt,rt⟩:=(hb cdv hcv A outer s H E hr hg).ex;refine ⟨t,pt, ?_⟩
 let pn : Nat → Option V:=fun i => if ios.contains i = true then vs[i]? else none
 have hpn : ∀ i v,i ∈ ios → vs[i]? = some v → pn i = some v:=fun i v hi hv => by
  show (if ios.contains i = true then vs[i]? else none) = some v;rw [Yj (by simpa using hi)];exact hv
 have hN : ps.length ≤ N.length:=by
  have:=congrArg List.length S.pre;rw [List.length_take] at this;omega
 have S0 : Dl.St K (.of ios) ⟨pn,F0,W0,H⟩ F0 W0 (as.map some ++ List.replicate (N.length - as.length) none) (L2.start N vs) H:=by
  refine ⟨I.fh,Stp.refl _ _ _,I.nz,I.ow,fun a l h => ?_,I.io,fun i t d h => ?_,fun i v h => ?_, ?_,True.intro,I.tb⟩
  · obtain ⟨i,p,e,hi⟩:=I.io a l h;exact ⟨i,p,e,.inl hi⟩
  · have hi : i < as.length:=by
      by_cases c : i < as.length
      · exact c
      · rw [List.getElem?_append_right (by rw [Yi];omega),List.getElem?_replicate] at h
        split at h <;> cases h
    rw [List.getElem?_append_left (by rw [Yi];exact hi),List.getElem?_map] at h;cases q : as[i]? with
    | none => rw [q] at h;cases h
    | some p =>
     rw [q] at h;cases h;have hv : i < vs.length:=by rw [I.ln];exact hi
     refine ⟨vs[i], ?_,I.vr i _ t d (Ym hv) q⟩;unfold L2.start;rw [List.getElem?_append_left (by rw [Yi];exact hv),List.getElem?_map,Ym hv];rfl
  · have h' : (if ios.contains i = true then vs[i]? else none) = some v:=h;by_cases c : ios.contains i = true
    · rw [Yj c] at h';refine ⟨(show i ∈ ios by simpa using c), ?_⟩;have hv : i < vs.length:=(Yn.mp h').1;unfold L2.start;rw [List.getElem?_append_left (by rw [Yi];exact hv),List.getElem?_map,h'];rfl
    · rw [Yk c] at h';cases h'
  · unfold L2.start;rw [Yh,Yh,Yi,Yi,List.length_replicate,List.length_replicate,I.ln]
 refine rt ⟨pn,F0,W0,H⟩ F0 W0 _ (L2.start N vs) H _ S0 ?_;unfold Jj at post;cases q : g (as.map some ++ List.replicate (N.length - as.length) none) with
 | nx E' =>
  rw [q] at post;exact fun F' W' H' σ' S' t' => post F' _ H' .non Dl.noW (S'.outs hpn) Fresh.no .non
 | rt p E' =>
  rw [q] at post;exact fun F' W' H' σ' v Wr S' t' fr r => post F' _ H' v Wr (S'.outs hpn) (fun a l z => by
   obtain ⟨z1,z2,z3⟩:=fr a l z;exact ⟨z1,ZaN z2,z3⟩) r
 | er x E' =>
  rw [q] at post;exact fun F' W' H' σ' c dx S' t' r => post F' _ H' c dx (S'.outs hpn) r
 | bk E' => rw [q] at post;exact post.elim
 | ct E' => rw [q] at post;exact post.elim
 | stk => rw [q] at post;exact post.elim
theorem fn_d {x qual : Str} {params : Arguments} {body : List Stmt} {scope : Scope} {dvs : List V} {kws : List (Str × V)} {f : Addr} {fd : FuncData} {N ps : List Str} {k n : Nat} {ios : List Nat} {g : G}
    (F : FunD K x qual params body scope dvs kws f fd) (S : FnScope N ps scope) (hn : ps.length = n)
    (hb : ∀ (cdv : Value) (A : Around) (outer : List Env) (s : Shared) (H : Hp) (E : XK),Room k (A.deeper (envOfC qual scope s.heap.objs.size f cdv)) → (A.deeper (envOfC qual scope s.heap.objs.size f cdv)).guards = some [] →
     PDs (cxOf (Cxt P w) P w K mg base N qual scope f cdv A outer s H E) (.of ios) (fun c d _ H => E c d H) body g) : FnG P w K mg base (k + 1) f fd ps (spD K n ios (Jj N.length g)):=Zgi F S hn fun cdv _ => hb cdv
end
structure PLm (X : Cx) (ios : Ios) (Wx : WX) (md : Md) (es : List Expr) (f : M (List D)) : Prop where
 ex : ∃ t : TA,PA X es t ∧ ∀ B F W E σ H Q,St X.K ios B F W E σ H → Pst X.K ios B Wx σ (fun F vs ds => RepA X.K F σ md vs ds) F W H (f E) Q → t σ H Q
def ents : Md → List D → Nv → Option (List Ent)
 | [],[],_ => some []
 | none :: md,d :: ds,E => (ents md ds E).map fun r => (.sh,d) :: r
 | some i :: md,ds,E => match E[i]? with
  | some (some p) => (ents md ds E).map fun r => p :: r
  | _ => none
 | _,_,_ => none
section
variable {K : KF} {ios : Ios} {ios' : List Nat} {B : Bs} {F : Hp} {W Wf : Wm} {E : Nv} {σ : L2.St} {H : Hp} {md : Md} {vs : List V} {as : List Ent}
variable {F' H' : Hp} {W' : Wm} {O : Nv}
theorem RepA.len {ds : List D} (h : RepA K F σ md vs ds) : md.length = vs.length:=by
 induction h with
 | nil => rfl
 | sh _ _ ih => rw [List.length_cons,List.length_cons,ih]
 | io _ _ ih => rw [List.length_cons,List.length_cons,ih]
theorem RepA.app {ds es : List D} {ws : List V} (h : RepA K F σ md vs ds) (r : RepL K F ws es) : RepA K F σ (md ++ es.map fun _ => none) (vs ++ ws) (ds ++ es):=by
 induction h with
 | nil =>
  have go : ∀ {ws : List V} {es : List D},RepL K F ws es → RepA K F σ (es.map fun _ => none) ws es:=by
   intro ws es
   induction es generalizing ws with
   | nil => intro r;cases r;exact .nil
   | cons e es ih => intro r;cases r with | cons r1 r2 => exact .sh r1 (ih r2)
  exact go r
 | sh r1 _ ih => exact .sh r1 ih
 | io r1 _ ih => exact .io r1 ih
theorem Z8t {i : Nat} {md : Md} {ds : List D} {E : Nv} {as : List Ent} (h : ents (some i :: md) ds E = some as) : ∃ p r,E[i]? = some (some p) ∧ ents md ds E = some r ∧ as = p :: r:=by
 have h' : (match E[i]? with | some (some p) => (ents md ds E).map fun r => p :: r | _ => none) = some as:=by
  cases ds <;> exact h
 cases q : E[i]? with
 | none => rw [q] at h';cases h'
 | some o =>
  rw [q] at h';cases o with
  | none => cases h'
  | some p =>
   cases q2 : ents md ds E with
   | none => rw [q2] at h';cases h'
   | some r => rw [q2] at h';cases h';exact ⟨p,r,rfl,rfl,rfl⟩
theorem Z8u {d : D} {md : Md} {ds : List D} {E : Nv} {as : List Ent} (h : ents (none :: md) (d :: ds) E = some as) : ∃ r,ents md ds E = some r ∧ as = (.sh,d) :: r:=by
 have h' : ((ents md ds E).map fun r => (Ow.sh,d) :: r) = some as:=h;cases q2 : ents md ds E with
 | none => rw [q2] at h';cases h'
 | some r => rw [q2] at h';cases h';exact ⟨r,rfl,rfl⟩
def Hand0 (K : KF) (F : Hp) (E : Nv) (σ : L2.St) (md : Md) (vs : List V) (as : List Ent) : Prop:=∀ (j : Nat) v t d,vs[j]? = some v → as[j]? = some (t,d) →
 (md[j]? = some none ∧ t = .sh ∧ Rep K F v d) ∨ ∃ i,md[j]? = some (some i) ∧ σ[i]? = some (some v) ∧ E[i]? = some (some (t,d))
theorem Hand0.handed (h : Hand0 K F E σ md vs as) : Handed K F H Wf E σ md vs as:=fun j v t d e1 e2 => by
 rcases h j v t d e1 e2 with ⟨a,rfl,c⟩ | c
 · exact .inl ⟨a,c⟩
 · exact .inr c
theorem RepA.handed {ds : List D} (h : RepA K F σ md vs ds) : ∀ {as : List Ent},ents md ds E = some as → vs.length = as.length ∧ Hand0 K F E σ md vs as ∧ (E.length = σ.length → ∀ (j i : Nat),md[j]? = some (some i) → ∃ v,vs[j]? = some v ∧ σ[i]? = some (some v) ∧ i < E.length):=by
 induction h with
 | nil =>
  intro as e;cases (show some ([] : List Ent) = some as from e);exact ⟨rfl,fun j v t d e1 e2 => by simp at e1,fun _ j i e => by simp at e⟩
 | sh r h ih =>
  intro as e;obtain ⟨rs,e1,rfl⟩:=Z8u e;obtain ⟨l,g,m⟩:=ih e1;refine ⟨by rw [List.length_cons,List.length_cons,l],fun j v t d e1 e2 => ?_,fun hl j i e => ?_⟩
  · cases j with
    | zero =>
     have e1':=Option.some.inj e1;have e2':=Option.some.inj e2;cases e2';subst e1';exact .inl ⟨rfl,rfl,r⟩
    | succ j => exact g j v t d (by simpa using e1) (by simpa using e2)
  · cases j with
    | zero => simp at e
    | succ j => exact m hl j i (by simpa using e)
 | @io md i v vs ds r h ih =>
  intro as e;obtain ⟨p,rs,e0,e1,rfl⟩:=Z8t e;obtain ⟨l,g,m⟩:=ih e1;refine ⟨by rw [List.length_cons,List.length_cons,l],fun j v' t d e1 e2 => ?_,fun hl j i' e => ?_⟩
  · cases j with
    | zero =>
     have e1':=Option.some.inj e1;have e2':=Option.some.inj e2;subst e1';exact .inr ⟨i,rfl,r,by rw [e0];exact congrArg (fun z => some (some z)) e2'⟩
    | succ j => exact g j v' t d (by simpa using e1) (by simpa using e2)
  · cases j with
    | zero =>
     have e' : i = i':=by simpa using e
     subst e';exact ⟨v,rfl,r,(Yn.mp e0).1⟩
    | succ j => exact m hl j i' (by simpa using e)
end
theorem Z7 {X : Cx} {ios : Ios} {Wx : WX} : PLm X ios Wx [] [] (Zr []):=⟨_,pa_nil,fun B F W E σ H Q S h => h.done S .nil⟩
theorem Z6 {X : Cx} {ios : Ios} {Wx : WX} {md : Md} {a : Expr} {es : List Expr} {fa : M D} {fs : M (List D)} (ha : PP X ios Wx a fa) (hr : PLm X ios Wx md es fs) (hs : starEach (a :: es) X.env = (false,eval a X.env) :: starEach es X.env:=by rfl) :
    PLm X ios Wx (none :: md) (a :: es) (bnd fa fun x => bnd fs fun xs => Zr (x :: xs)):=by
 obtain ⟨ta,pa,ra⟩:=ha.ex;obtain ⟨tr,pr,rr⟩:=hr.ex;refine ⟨_,pa_cons pa pr hs,fun B F W E σ H Q S h => ?_⟩;refine ra B F W E σ H _ S (Pst.seq h fun F1 W1 H1 x d E1 S1 s1 r1 h1 => ?_);refine rr B F1 W1 E1 σ H1 _ S1 (Pst.seq h1 fun F2 W2 H2 y e E2 S2 s2 r2 h2 => ?_);exact h2.done S2 (.sh (r1.mono s2.fx d) r2)
theorem ZB (i : Nat) {X : Cx} {ios : Ios} {Wx : WX} {md : Md} {x : Str} {pos : Pos} {es : List Expr} {fs : M (List D)} (hr : PLm X ios Wx md es fs) (hN : X.N[i]? = some x:=by rfl) (hv : Vis X.env.scope x:=by first | exact Or.inl rfl | exact Or.inr (Or.inl rfl) | exact Or.inr (Or.inr rfl))
    (hd : (x == ("__debug__" : Str)) = false:=by decide) (hcd : (x == ("__classdict__" : Str)) = false:=by decide) (hs : starEach (.Name x pos :: es) X.env = (false,eval (.Name x pos) X.env) :: starEach es X.env:=by rfl) : PLm X ios Wx (some i :: md) (.Name x pos :: es) (fun E => match E[i]? with
     | some (some _) => fs E
     | _ => .stk):=by
 obtain ⟨tr,pr,rr⟩:=hr.ex;refine ⟨_,pa_cons (pe_var hN hv hd hcd) pr hs,fun B F W E σ H Q S h => ?_⟩;cases q : E[i]? with
 | none => simp only [q] at h;exact h.elim
 | some o =>
  cases o with
  | none => simp only [q] at h;exact h.elim
  | some p =>
   simp only [q] at h;obtain ⟨t,d⟩:=p;obtain ⟨v,h1,h2⟩:=S.vr i t d q;refine ⟨v,h1,rr B F W E σ H _ S ?_⟩;cases q2 : fs E with
   | ok a E' =>
    rw [q2] at h;exact fun F' W' H' b S' t' r => h F' W' H' _ S' t' (.io h1 r)
   | er x E' => rw [q2] at h;exact h
   | stk => rw [q2] at h;exact h.elim
def Z8m (m : Fm) (md : Md) (ds : List D) : M Ent:=fun E => match ents md ds E with
 | none => .stk
 | some as => match m as with
  | .ok p O => .ok p (back 0 md O E)
  | .er x O => .er x (back 0 md O E)
  | .stk => .stk
section
variable {K : KF} {ios : Ios} {ios' : List Nat} {B : Bs} {F : Hp} {W : Wm} {E : Nv} {σ : L2.St} {H : Hp} {md : Md} {vs : List V} {ds : List D} {Wx : WX} {m : Fm} {n : Nat} {Q : VK}
theorem Zis (S : St K ios B F W E σ H) (r : RepA K F σ md vs ds) (ok : mdOk ios' 0 md = true) (hn : md.length = n) (h : Jy K ios B Wx σ F W H (Z8m m md ds E) Q) : spD K n ios' m vs H Q (WE Wx σ):=by
 refine ⟨r.len.symm.trans hn, ?_⟩;unfold Z8m at h;cases q : ents md ds E with
 | none => rw [q] at h;exact h.elim
 | some as =>
  obtain ⟨hl,hh,hm⟩:=r.handed q;have N : NewW ios' md F W H B Dl.noW:=NewW.no;refine ⟨F,inW W Dl.noW md,as,Handed.ins S N ok hl hh.handed, ?_⟩;have nb : ∀ a l,Dl.noW a = some l → H a = none:=fun a l z => by cases (show (none : Option Lab) = some l from z)
  cases q2 : m as with
  | ok p O =>
   simp only [q,q2] at h;exact fun F' W' H' v Wr U fr rr => h F' _ H' v Wr (Handed.out S S (Same.refl _) N nb ok hh.handed (hm S.ln) U) (U.step (fun a l h => (S.ow a l h).2) N (Same.refl _) nb) (fr.out S (Same.refl _)) rr
  | er x O =>
   simp only [q,q2] at h;exact fun F' W' H' c dx U rr => h F' _ H' c dx (Handed.out S S (Same.refl _) N nb ok hh.handed (hm S.ln) U) (U.step (fun a l h => (S.ow a l h).2) N (Same.refl _) nb) rr
  | stk => simp only [q,q2] at h;exact h.elim
end
section
variable {X : Cx} {ios : Ios} {ios' : List Nat} {Wx : WX} {e o : Expr} {es : List Expr} {pos p apos : Pos} {k n : Nat} {f C : Addr} {fd : FuncData} {ps : List Str} {m : Fm} {md : Md} {fs : M (List D)} {dvs : List V} {dds : List D} {us : List Value} {x mn : Str}
theorem Z4j (F : FnG X.prog X.w X.K X.mg X.base k f fd ps (spD X.K n ios' m)) (hr : Room k X.A) (hgd : X.A.guards = some []) (hg : Gl X x) (hm : X.mg x = some (.ref f)) (hk : PySem.W.keepIn X.K (.ref f) = true) (hb : Binds X.K fd ps us) (hd : Vals dvs us) (rd : ∀ F,RepL X.K F dvs dds) (tk : Takes X Wx)
    (ha : PLm X ios Wx md (e :: es) fs) (ok : mdOk ios' 0 (md ++ dds.map fun _ => none) = true:=by rfl) (hn : (md ++ dds.map fun _ => none).length = n:=by rfl) (hdb : (x == ("__debug__" : Str)) = false:=by decide) (he : starEach (e :: es) X.env = (false,eval e X.env) :: starEach es X.env:=by rfl) (hpl : (backTo pos (starEach es X.env)).any (·.1) = false:=by rfl) :
    PO X ios Wx (.Call (.Name x p) (e :: es) [] pos) (bnd fs fun ds => Z8m m (md ++ dds.map fun _ => none) (ds ++ dds)):=by
 obtain ⟨ta,pa,ra⟩:=ha.ex;refine ⟨_,pe_g F hr hgd hg hm hk hb hd tk pa hdb he hpl,fun B F W E σ H Q S h => ?_⟩;refine ra B F W E σ H _ S (Jy.seq h fun F1 W1 H1 vs ds E1 S1 s1 r1 h1 => ?_);exact Zis S1 (r1.app (rd F1)) ok hn h1
end
def shM (f : M Ent) : M D:=bnd f fun p => Zr p.2
theorem Z2w {H F' : Hp} {W' Wr : Wm} {H' : Hp} (fr : Fresh Wr H F' W' H') : Same F' (frz F' Wr H'):=fun a o h => by
 unfold frz;cases q : Wr a with
 | none => exact h
 | some l => rw [(fr a l q).2.2.1] at h;cases h
section
variable {K : KF} {ios : Ios} {B : Bs} {F F' : Hp} {W W' Wr : Wm} {E E' : Nv} {σ : L2.St} {H H' : Hp}
theorem ZaO (t : Stp F W H F' W' H') (fr : Fresh Wr H F' W' H') : Stp F W H (frz F' Wr H') W' H' where
 fx:=t.fx.trans (Z2w fr)
 fn:=fun a o h n => by
  cases q : Wr a with
  | some l => exact .inr (fr a l q).1
  | none => unfold frz at h;rw [q] at h;exact t.fn a o h n
 wx:=t.wx
 wn:=t.wn
 hx:=t.hx
 hd:=t.hd
 fk:=t.fk
 tb:=fun P q tw => by
  obtain ⟨g1,g2,ps,g3,g4⟩:=t.tb P q tw;refine ⟨?_,g2,ps,g3,g4⟩;unfold frz;cases e : Wr P with
  | none => exact g1
  | some l =>
   have:=(fr P l e).1;rw [tw.2.2.choose_spec.1] at this;cases this
theorem ZaP (S0 : Stp B.F0 B.W0 B.H0 F W H) (S' : St K ios B F' W' E' σ H') (fr : Fresh Wr H F' W' H') : St K ios B (frz F' Wr H') W' E' σ H' where
 fh:=fun a o h => by
  unfold frz at h;cases q : Wr a with
  | some l => rw [q] at h;exact h
  | none => rw [q] at h;exact S'.fh a o h
 st:=by
  have s:=S'.st;refine ⟨s.fx.trans (Z2w fr),fun a o h n => ?_,s.wx,s.wn,s.hx,s.hd,s.fk,fun P q tw => ?_⟩
  · cases q : Wr a with
    | some l => exact .inr (S0.back (fr a l q).1)
    | none => unfold frz at h;rw [q] at h;exact s.fn a o h n
  · obtain ⟨g1,g2,ps,g3,g4⟩:=s.tb P q tw;refine ⟨?_,g2,ps,g3,g4⟩;unfold frz;cases e : Wr P with
    | none => exact g1
    | some l =>
     have:=S0.back (fr P l e).1;rw [tw.2.2.choose_spec.1] at this;cases this
 nz:=S'.nz
 ow:=fun a l h => by
  obtain ⟨h1,h2⟩:=S'.ow a l h;refine ⟨?_,h2⟩;unfold frz;cases q : Wr a with
  | some m => rw [(fr a m q).2.1] at h;cases h
  | none => exact h1
 fr:=S'.fr
 w0:=S'.w0
 vr:=fun i t d h => by
  obtain ⟨v,h1,h2⟩:=S'.vr i t d h;exact ⟨v,h1,h2.keep (Z2w fr) (fun _ _ q => q) (fun _ _ _ _ q => q)⟩
 pn:=S'.pn
 ln:=S'.ln
 xo:=S'.xo
end
theorem Z5G {p : Addr → Bool} {ob : Addr → Obj} {H : Hp} {a : Addr} {o : HO} (h : H a = some o) (n1 : ∀ kvs,o ≠ .dT kvs) (n2 : ∀ kvs,o ≠ .dK kvs) : lkH p ob H a = some o:=by
 unfold lkH;rw [h];cases o <;> first | rfl | exact absurd rfl (n1 _) | exact absurd rfl (n2 _)
theorem Z54 {a n : Nat} (c : a ≠ n) : decide (a < n + 1) = decide (a < n):=by rw [decide_eq_decide];omega
theorem Inv.lks {X : Cx} {pins : List (Addr × Obj)} {σ : L2.St} {H : Hp} {s : Shared} (I : L2.Inv X pins σ H s) (p : Addr → Bool) : ∃ ob,L2.Inv X pins σ (lkH p ob H) s:=by
 have all : ∀ n : Nat,∃ ob,L2.Inv X pins σ (lkH (fun a => p a && decide (a < n)) ob H) s:=by
  intro n
  induction n with
  | zero =>
   refine ⟨fun _ => default, ?_⟩;have e : lkH (fun a => p a && decide (a < 0)) (fun _ => default) H = H:=by
    funext a
    exact Z20 (by simp)
   rw [e];exact I
  | succ n ih =>
   obtain ⟨ob,J⟩:=ih;have keep : (∀ ob',lkH (fun a => p a && decide (a < n + 1)) ob' H n = H n) → lkH (fun a => p a && decide (a < n + 1)) ob H = lkH (fun a => p a && decide (a < n)) ob H:=fun h => by
    funext a
    by_cases c : a = n
    · subst c;rw [h ob,Z20 (by simp)]
    · have e : (decide (a < n + 1)) = decide (a < n):=Z54 c;unfold lkH;simp only [e]
   have lock : ∀ u : HO,H n = some u → Mut (some u) → ((∃ kvs,u = .dT kvs) ∨ ∃ kvs,u = .dK kvs) → p n = true → ∃ ob,L2.Inv X pins σ (lkH (fun a => p a && decide (a < n + 1)) ob H) s:=fun u hu mu hk hp => by
    have h0 : lkH (fun a => p a && decide (a < n)) ob H n = some u:=by rw [Z20 (by simp)];exact hu
    obtain ⟨od,J2⟩:=J.lock h0 mu;refine ⟨fun a => if a = n then od else ob a, ?_⟩;have e : upd (lkH (fun a => p a && decide (a < n)) ob H) n (.frz od u) = lkH (fun a => p a && decide (a < n + 1)) (fun a => if a = n then od else ob a) H:=by
     funext a
     by_cases c : a = n
     · subst c;rw [upd_same];unfold lkH;rw [hu];rcases hk with ⟨kvs,rfl⟩ | ⟨kvs,rfl⟩
       · simp [hp]
       · simp [hp]
     · rw [upd_ne c];have e : (decide (a < n + 1)) = decide (a < n):=Z54 c;unfold lkH;simp only [e,Yk c]
    rw [← e];exact J2
   by_cases hp : p n = true
   · cases q : H n with
     | none =>
      refine ⟨ob, ?_⟩;rw [keep fun ob' => by rw [Z4B q,q]];exact J
     | some u =>
      by_cases k1 : ∃ kvs,u = .dT kvs
      · obtain ⟨kvs,rfl⟩:=k1;exact lock _ q True.intro (.inl ⟨_,rfl⟩) hp
      by_cases k2 : ∃ kvs,u = .dK kvs
      · obtain ⟨kvs,rfl⟩:=k2;exact lock _ q True.intro (.inr ⟨_,rfl⟩) hp
      refine ⟨ob, ?_⟩;rw [keep fun ob' => by rw [Z5G q (fun kvs z => k1 ⟨kvs,z⟩) (fun kvs z => k2 ⟨kvs,z⟩),q]];exact J
   · refine ⟨ob, ?_⟩;rw [keep fun ob' => Z20 (by simp [hp])];exact J
 obtain ⟨ob,J⟩:=all s.heap.objs.size;refine ⟨ob, ?_⟩;have e : lkH (fun a => p a && decide (a < s.heap.objs.size)) ob H = lkH p ob H:=by
  funext a
  by_cases c : a < s.heap.objs.size
  · unfold lkH;simp only [Yp c,Bool.and_true]
  · have n : H a = none:=I.hok.fresh (Nat.le_of_not_lt c);rw [Z4B n,Z4B n]
 rw [← e];exact J
theorem Zit {X : Cx} {e : Expr} {t : TE} (h : PE X e t) : PE X e (fun σ H Q => t σ H fun v H' => ∃ p : Addr → Bool,∀ ob,Q v (lkH p ob H')) :=
 ⟨fun pins s σ H Q I hq => thn (h.run pins s σ H _ I hq) fun u s' ⟨v,H',I',r,p,q⟩ => by
  obtain ⟨ob,I2⟩:=Inv.lks I' p;exact ⟨v,_,I2,r,q ob⟩⟩
theorem ZcB {X : Cx} {sts : List Stmt} {t : TS} (h : PSs X sts t) : PSs X sts (fun D σ H => ∃ p : Addr → Bool,∀ ob,t D σ (lkH p ob H)) :=
 ⟨fun pins s σ H D I ⟨p,k⟩ => by
  obtain ⟨ob,I2⟩:=Inv.lks I p;exact h.run pins s σ _ D I2 (k ob)⟩
section
variable {K : KF} {ios : Ios} {B : Bs} {F F' : Hp} {W W' Wr : Wm} {E E' : Nv} {σ : L2.St} {H H' : Hp} {p : Addr → Bool} {ob : Addr → Obj}
def lkP (Wr : Wm) : Addr → Bool:=fun a => (Wr a).isSome
theorem Z8v {a : Addr} (h : lkP Wr a = true) : ∃ l,Wr a = some l:=Option.isSome_iff_exists.mp h
theorem Z9l {a : Addr} {o : HO} (hp : p a = true) (h : H a = some o) (hd : Zc4 o = true) : lkH p ob H a = some (.frz (ob a) o):=by
 unfold lkH;rw [h];cases o <;> first | (cases hd;done) | exact Yj hp
theorem Z9m {a : Addr} {o : HO} (h : H a = some o) (hd : Zc4 o = false) : lkH p ob H a = some o:=Z5G h (fun _ z => by rw [z] at hd;cases hd) (fun _ z => by rw [z] at hd;cases hd)
theorem Z9n (fr : Fresh Wr H F' W' (lkH (lkP Wr) ob H')) {t : Ow} {v : V} {d : D} (r : Jm K F' H' Wr t [] v d) : Rep K (frz F' Wr (lkH (lkP Wr) ob H')) v d :=
 Jm.repO (p:=[]) (q:=[]) (Z2w fr) (fun a q o h ho hd => by unfold frz;rw [show Wr a = some q from h];exact Z9m ho hd) (fun a q o h ho hd => ⟨ob a,by unfold frz;rw [show Wr a = some q from h];exact Z9l (by unfold lkP;rw [show Wr a = some q from h];rfl) ho hd⟩) r
end
section
variable {X : Cx} {ios : Ios} {Wx : WX} {e : Expr} {f : M Ent}
theorem Zv (h : PO X ios Wx e f) : PP X ios Wx e (shM f):=by
 obtain ⟨t,p,r⟩:=h.ex;refine ⟨_,Zit p,fun B F W E σ H Q S h => r B F W E σ H _ S ?_⟩;unfold shM bnd at h;cases q : f E with
 | ok a E' =>
  simp only [q] at h;exact fun F' W' H' v Wr S' t' fr rr => ⟨lkP Wr,fun ob => by
   have fr':=fr.lk (p:=lkP Wr) (ob:=ob);have S2:=S'.lk (p:=lkP Wr) (ob:=ob) fun a k => by
    obtain ⟨l,hl⟩:=Z8v k;exact ⟨(fr a l hl).2.2.1,(fr a l hl).2.1,S.st.back (fr a l hl).1⟩
   have t2:=t'.lk (p:=lkP Wr) (ob:=ob) fun a k => by
    obtain ⟨l,hl⟩:=Z8v k;exact (fr a l hl).1
   exact h _ W' _ v (ZaP S.st S2 fr') (ZaO t2 fr') (Z9n fr' rr)⟩
 | er x E' => simp only [q] at h;exact h
 | stk => simp only [q] at h;exact h.elim
end
section
variable {X : Cx} {ios : Ios} {ios' : List Nat} {Wx : WX} {e o : Expr} {es : List Expr} {pos p apos : Pos} {k n : Nat} {f C : Addr} {fd : FuncData} {ps : List Str} {m : Fm} {md : Md} {fo : M D} {fs : M (List D)} {dvs : List V} {dds : List D} {us : List Value} {x mn c : Str}
def Z8w (m : Fm) (c : Str) (md : Md) (ds : List D) : M Ent:=fun E => match ents md ds E with
 | none => .stk
 | some as => match m ((Ow.o,D.ins c [] []) :: as) with
  | .ok (Ow.sh,D.non) O => (match O[0]? with
   | some (some (Ow.o,d)) => .ok (Ow.o,d) (back 0 (none :: md) O E)
   | _ => .stk)
  | .er x O => .er x (back 0 (none :: md) O E)
  | _ => .stk
def Zc5 (x : Addr) : Wm:=fun a => if a = x then some [0] else none
theorem Z76 {x a : Addr} {l : Lab} (h : Zc5 x a = some l) : a = x ∧ l = [0]:=by
 unfold Zc5 at h;by_cases e : a = x
 · rw [Yj e] at h;cases h;exact ⟨e,rfl⟩
 · rw [Yk e] at h;cases h
theorem Ziu {K : KF} {B : Bs} {F : Hp} {W : Wm} {E : Nv} {σ : L2.St} {H : Hp} {vs : List V} {ds : List D} {Q : VK} {y dx : Addr} (S : Dl.St K ios B F W E σ H) (r : RepA K F σ md vs ds) (ok : mdOk ios' 0 (none :: md) = true) (h0 : 0 ∈ ios') (hn : (none :: md).length = n) (hx : H y = none) (hdx : H dx = none) (hne : dx ≠ y) (h : Jy K ios B Wx σ F W H (Z8w m c md ds E) Q) :
    spD K n ios' m (.ref y :: vs) (upd (upd H dx (.own y)) y (.ins (He.ga K c) dx [])) (fun v H2 => v = .non ∧ Q (.ref y) H2) (WE Wx σ):=by
 refine ⟨by rw [← hn,List.length_cons,List.length_cons,r.len], ?_⟩;unfold Z8w at h;cases q : ents md ds E with
 | none => rw [q] at h;exact h.elim
 | some as =>
  have hx2 : (upd H dx (.own y)) y = none:=by rw [upd_ne (Ne.symm hne)];exact hx
  have S1 : Dl.St K ios B F W E σ (upd (upd H dx (.own y)) y (.ins (He.ga K c) dx [])):=(S.laid hdx fun _ _ z => by cases z).laid hx2 fun _ _ z => by cases z
  have sb : Same H (upd (upd H dx (.own y)) y (.ins (He.ga K c) dx [])):=(Z1a hdx).trans (Z1a hx2);obtain ⟨hl,hh,hm⟩:=r.handed q;have N : NewW ios' (none :: md) F W (upd (upd H dx (.own y)) y (.ins (He.ga K c) dx [])) B (Zc5 y):=⟨fun a l z => by
   obtain ⟨rfl,rfl⟩:=Z76 z;exact ⟨S.fh.free hx,S.noW hx,S.st.back hx,⟨_,upd_same,rfl⟩,0,[],rfl,h0,rfl⟩⟩
  have nb : ∀ a l,Zc5 y a = some l → H a = none:=fun a l z => by
   obtain ⟨rfl,_⟩:=Z76 z;exact hx
  have hnd : Handed K F (upd (upd H dx (.own y)) y (.ins (He.ga K c) dx [])) (Zc5 y) E σ (none :: md) (.ref y :: vs) ((.o,.ins c [] []) :: as):=fun j v t d e1 e2 => by
   cases j with
   | zero =>
    have e1':=Option.some.inj e1;have e2':=Option.some.inj e2;subst e1';cases e2';exact .inl ⟨rfl,y,He.ga K c,dx,[],c,[],[],rfl,rfl,Yj rfl,upd_same,rfl,rfl,Nat.zero_le _,.nil⟩
   | succ j =>
    rcases hh j v t d (by simpa using e1) (by simpa using e2) with ⟨a,rfl,z⟩ | z
    · exact .inl ⟨a,z⟩
    · exact .inr z
  have hm2 : ∀ (j i : Nat),(none :: md)[j]? = some (some i) → ∃ v,(V.ref y :: vs)[j]? = some v ∧ σ[i]? = some (some v) ∧ i < E.length:=fun j i e => by
   cases j with
   | zero => simp at e
   | succ j => exact hm S.ln j i (by simpa using e)
  refine ⟨F,inW W (Zc5 y) (none :: md),(.o,.ins c [] []) :: as,Handed.ins S1 N ok (by rw [List.length_cons,List.length_cons,hl]) hnd, ?_⟩;cases q2 : m ((.o,.ins c [] []) :: as) with
  | ok p O =>
   simp only [q,q2] at h;obtain ⟨t,d⟩:=p;intro F' W' H' v Wr U fr rr;cases t <;> first | (exact h.elim) | skip
   cases d <;> first | (exact h.elim) | skip
   have rr' : Rep K F' v .non:=rr;cases rr';refine ⟨rfl, ?_⟩;cases q3 : O[0]? with
   | none => simp only [q3] at h;exact h.elim
   | some u =>
    simp only [q3] at h;cases u with
    | none => exact h.elim
    | some p2 =>
     obtain ⟨t2,d2⟩:=p2;cases t2 <;> first | (exact h.elim) | skip
     obtain ⟨y',C,dx',fs,c',ns,dd,e1,e2,w,e3,e4,e5,e6,e7⟩:=U.vr 0 (.ref y) .o d2 h0 rfl q3;cases e1;have ow:=U.ow y _ w;refine h F' _ H' (.ref y) (oneW y) (Handed.out S S1 sb N nb ok hnd hm2 U) (U.step (fun a l h => (S1.ow a l h).2) N sb nb) (fun a l z => ?_) ⟨y,C,dx',fs,c',ns,dd,rfl,e2,Z4C y,e3,e4,e5,e6,e7⟩;obtain ⟨rfl,_⟩:=Z6W z;refine ⟨hx, ?_,ow⟩;unfold outW;rw [S.noW hx,w];rfl
  | er x O =>
   simp only [q,q2] at h;exact fun F' W' H' c' dx' U rr => h F' _ H' c' dx' (Handed.out S S1 sb N nb ok hnd hm2 U) (U.step (fun a l h => (S1.ow a l h).2) N sb nb) rr
  | stk => simp only [q,q2] at h;exact h.elim
theorem ZcC (hM : Mk X.K (He.ga X.K c) f) (F : FnG X.prog X.w X.K X.mg X.base k f fd ps (spD X.K n ios' m)) (hr : Room (k + 1) X.A) (hgd : X.A.guards = some []) (hg : Gl X x) (hm : X.mg x = some (.ref (He.ga X.K c))) (hb : Binds X.K fd ps us) (hd : Vals dvs us) (rd : ∀ F,RepL X.K F dvs dds) (tk : Takes X Wx)
    (ha : PLm X ios Wx md (e :: es) fs) (ok : mdOk ios' 0 (none :: (md ++ dds.map fun _ => none)) = true:=by rfl) (h0 : ios'.contains 0 = true:=by rfl) (hn : (none :: (md ++ dds.map fun _ => none)).length = n:=by rfl) (hdb : (x == ("__debug__" : Str)) = false:=by decide) (he : starEach (e :: es) X.env = (false,eval e X.env) :: starEach es X.env:=by rfl) (hpl : (backTo pos (starEach es X.env)).any (·.1) = false:=by rfl) :
    PO X ios Wx (.Call (.Name x p) (e :: es) [] pos) (bnd fs fun ds => Z8w m c (md ++ dds.map fun _ => none) (ds ++ dds)):=by
 obtain ⟨ta,pa,ra⟩:=ha.ex;refine ⟨_,Zir hM F hr hgd hg hm hb hd tk pa hdb he hpl,fun B F W E σ H Q S h => ?_⟩;refine ra B F W E σ H _ S (Jy.seq h fun F1 W1 H1 vs ds E1 S1 s1 r1 h1 => ?_);exact fun y dx h1' h2' hne => Ziu S1 (r1.app (rd F1)) ok (by simpa using h0) hn h1' h2' hne h1
end
section
variable {K : KF} {ios : Ios} {B : Bs} {F : Hp} {W : Wm} {E : Nv} {σ : L2.St} {H : Hp}
theorem Stp.mut {o : Addr} {l : Lab} {u : HO} (hw : W o = some l) (hF : F o = none) : Stp F W H F W (upd H o u) :=
 .mk6 (Same.refl F) (fun _ _ h _ => .inl h) (fun _ _ h => h) (fun _ _ h => .inl h) (fun a x h n => by
  by_cases c : a = o
  · subst c;rw [hw] at n;cases n
  · rw [upd_ne c];exact h) (fun a x h => by
  by_cases c : a = o
  · subst c;exact ⟨_,upd_same⟩
  · exact ⟨x,by rw [upd_ne c];exact h⟩) (fun a x f h => by rw [upd_ne (fun c => by subst c;rw [hF] at f;cases f)];exact h) fun _ h _ _ => h
theorem St.mut {i : Nat} {p : Lab} {o : Addr} {u : HO} {v : V} {t : Ow} {d : D} (S : St K ios B F W E σ H) (hw : W o = some (i :: p)) (hu : ∀ ob z,u ≠ .frz ob z) (hs : σ[i]? = some (some v)) (r : Jm K F (upd H o u) W t [i] v d) (hn : nxo u = true:=by rfl) : St K ios B F W (E.set i (some (t,d))) σ (upd H o u) where
 fh:=fun a x h => by
  have hne : a ≠ o:=fun z => by
   subst z;rw [(S.ow _ _ hw).1] at h;cases h
  rw [upd_ne hne];exact S.fh a x h
 st:=S.st.trans (Stp.mut hw (S.ow _ _ hw).1)
 nz:=fun a ob z e => by
  by_cases c : a = o
  · subst c;rw [upd_same] at e;exact absurd (Option.some.inj e) (hu _ _)
  · rw [upd_ne c] at e;exact S.nz a ob z e
 ow:=fun a l h => by
  obtain ⟨h1,x,h2⟩:=S.ow a l h;refine ⟨h1, ?_⟩;by_cases c : a = o
  · subst c;exact ⟨_,upd_same,hn⟩
  · exact ⟨x,by rw [upd_ne c];exact h2.1,h2.2⟩
 fr:=S.fr
 w0:=S.w0
 vr:=fun j t' d' h => by
  by_cases c : i = j
  · subst c;rw [List.getElem?_set] at h;rw [Yj rfl] at h;by_cases hl : i < E.length
    · rw [Yj hl] at h;cases h;exact ⟨v,hs,r⟩
    · rw [Yk hl] at h;cases h
  · rw [List.getElem?_set,Yk c] at h;obtain ⟨w,h1,h2⟩:=S.vr j t' d' h;refine ⟨w,h1,Jm.keepAt (p:=[j]) (q:=[]) (Same.refl F) (fun _ _ z => z) (fun a q x z hx => ?_) h2⟩;have hne : a ≠ o:=fun y => by
     subst y;rw [hw] at z;have z' : i = j:=by
      have:=Option.some.inj z;exact (List.cons.inj this).1
     exact c z'
    rw [upd_ne hne];exact hx
 pn:=S.pn
 ln:=by rw [List.length_set];exact S.ln
 xo:=S.xo
theorem Jm.lsh {o : Addr} {vs : List V} {ds : List D} {lab : Lab} (hw : W o = some lab) (ho : H o = some (.lst vs)) (z : ds.length ≤ sizeLine) (r : RepL K F vs ds) : Jm K F H W (.l .sh) lab (.ref o) (.lst ds) :=
 ⟨o,vs,ds,rfl,rfl,hw,ho,z,r.length,fun j v' d' e1 e2 => by
  obtain ⟨w,e3,r3⟩:=r.get e2;rw [e1] at e3;cases e3;exact r3⟩
end
def ownL (i : Nat) (E : Nv) : Option (List D):=match E[i]? with
 | some (some (.l .sh,.lst ds)) => some ds
 | _ => none
theorem Z9o {i : Nat} {E : Nv} {ds : List D} (h : ownL i E = some ds) : E[i]? = some (some (.l .sh,.lst ds)):=by
 unfold ownL at h
 split at h
 · rename_i ds' e;cases h;exact e
 · cases h
def putL (i : Nat) (ds : List D) (E : Nv) : Nv:=E.set i (some (.l .sh,.lst ds))
section
variable {K : KF} {ios : Ios} {B : Bs} {F : Hp} {W : Wm} {E : Nv} {σ : L2.St} {H : Hp}
theorem St.ownl (S : St K ios B F W E σ H) {i : Nat} {ds : List D} (h : ownL i E = some ds) : ∃ o vs,σ[i]? = some (some (.ref o)) ∧ H o = some (.lst vs) ∧ ds.length ≤ sizeLine ∧ RepL K F vs ds ∧ Stp F W H F W H ∧
    ∀ vs' ds',RepL K F vs' ds' → ds'.length ≤ sizeLine → St K ios B F W (putL i ds' E) σ (upd H o (.lst vs')) ∧ Stp F W H F W (upd H o (.lst vs')):=by
 obtain ⟨v,h1,h2⟩:=S.vr i _ _ (Z9o h);obtain ⟨o,vs,ds2,rfl,e,w,ho,z,r⟩:=h2.lshE;cases e;exact ⟨o,vs,h1,ho,z,r,Stp.refl _ _ _,fun vs' ds' r' z' => ⟨S.mut w (fun _ _ q => by cases q) h1 (Jm.lsh w upd_same z' r'),Stp.mut w (S.ow _ _ w).1⟩⟩
end
section
variable {X : Cx} {ios : Ios} {Wx : WX} {a e ix : Expr} {fa fe fi : M D} {pos tpos npos apos : Pos} {i : Nat} {x : Str}
def Z2i (i : Nat) (fe fi : M D) : G:=Jf fe fun y E => match E[i]? with
 | some (some _) => Jf fi (fun k E => match ownL i E,k with
  | some ds,.int j => (match ixN ds.length j with
   | some n => .nx (putL i (ds.set n y) E)
   | none => .stk)
  | _,_ => .stk) E
 | _ => .stk
theorem Z4E (i : Nat) (hN : X.N[i]? = some x) (he : PP X ios Wx e fe) (hi : PP X ios Wx ix fi) (hv : Vis X.env.scope x:=by first | exact Or.inl rfl | exact Or.inr (Or.inl rfl) | exact Or.inr (Or.inr rfl)) (hd : (x == ("__debug__" : Str)) = false:=by decide) (hcd : (x == ("__classdict__" : Str)) = false:=by decide)
    (hs : swapsWith e (some (.Subscript (.Name x npos) ix tpos)) pos.line X.env = pure false:=by rfl)
    (ha : ∀ v,assign (.Subscript (.Name x npos) ix tpos) X.env v = (do
     let ov ← holding [v] (eval (.Name x npos) X.env)
     let iv ← holding [v,ov] (eval ix X.env)
     standAt tpos
     holding [v,ov,iv] (setItem ov iv v)
     release [v,ov,iv] []):=by intro _;rfl) : PD X ios Wx (.Assign [.Subscript (.Name x npos) ix tpos] e pos) (Z2i i fe fi):=by
 obtain ⟨te,pe,re⟩:=he.ex;obtain ⟨ti,pi,ri⟩:=hi.ex;refine ⟨_,ps_asg pe (pg_sub (pe_var hN hv hd hcd) pi set_list ha) hs,fun B F W E σ H Dn S k => ?_⟩;refine re B F W E σ H _ S (Ju.seq k fun F1 W1 H1 y dy E1 S1 s1 r1 k1 => ?_);cases q : E1[i]? with
 | none => simp only [q] at k1;exact k1.elim
 | some o =>
  cases o with
  | none => simp only [q] at k1;exact k1.elim
  | some p =>
   simp only [q] at k1;obtain ⟨t,d⟩:=p;obtain ⟨v,h1,_⟩:=S1.vr i t d q;refine ⟨v,h1,ri B F1 W1 E1 σ H1 _ S1 (Ju.seq k1 fun F2 W2 H2 z dz E2 S2 s2 r2 k2 => ?_)⟩;cases q2 : ownL i E2 with
   | none => simp only [q2] at k2;exact k2.elim
   | some ds =>
    simp only [q2] at k2;cases dz <;> first | (exact k2.elim) | skip
    rename_i j;have k3 : Ju X.K ios B Wx F2 (match ixN ds.length j with | some n => Fl.nx (putL i (ds.set n dy) E2) | none => Fl.stk) Dn:=k2;cases q3 : ixN ds.length j with
    | none => simp only [q3] at k3;exact k3.elim
    | some n =>
     simp only [q3] at k3;obtain ⟨o,vs,h2,h3,h4,h5,_,h6⟩:=S2.ownl q2;rw [h1] at h2;cases h2;cases r2;refine ⟨o,vs,j,n,rfl,rfl,h3,by rw [h5.length];exact q3, ?_⟩;obtain ⟨S3,s3⟩:=h6 _ _ (RepL.set (r1.mono s2.fx dy) n h5) (by rw [List.length_set];exact h4);exact k3 F2 W2 _ σ S3 (Same.refl F2)
theorem ZaQ : PGet X (rIxL X.K):=by
 intro pins s σ H x y v u Q I rx ry h;obtain ⟨p,xs,i,z,rfl,rfl,hq,he,q⟩:=h;cases rx;obtain ⟨t,rfl⟩:=ry;obtain ⟨its,r,pl,hz⟩:=I.list hq;obtain ⟨j,h1,h2,h3,h4,h5⟩:=atI_get he;obtain ⟨w,ew,rw'⟩:=r.get h2;have hl:=r.length;have fin : EP X pins σ Q w s:=⟨z,H,I,rw',q⟩;have hn:=line63;rcases Int.lt_or_le i 0 with h0 | h0
 · have hj : (i + (its.toArray.size : Int)).toNat = j:=by
     rw [seqIndex_neg h0 h4] at h1;rw [List.size_toArray,← hl];exact Option.some.inj h1
   exact wpAny_getItem_list_neg pl.isList h0 (by rw [List.size_toArray] <;> omega) (by omega) (by rw [hj];simpa using ew) fin
 · have hj : i.toNat = j:=by
     rw [seqIndex_of h0 h5] at h1;exact Option.some.inj h1
   exact wpAny_getItem_list pl.isList h0 (by omega) (by rw [hj];simpa using ew) fin
def Z5H (i : Nat) (g : D → D → Option D) (fi fe : M D) : G:=fun E => match E[i]? with
 | some (some _) => Jf fi (fun k E => match ownL i E,k with
  | some ds,.int j => (match L2.atI ds j with
   | some old => Jf fe (fun y E => match g old y,ownL i E with
    | some z,some ds => (match ixN ds.length j with
     | some n => .nx (putL i (ds.set n z) E)
     | none => .stk)
    | _,_ => .stk) E
   | none => .stk)
  | _,_ => .stk) E
 | _ => .stk
theorem ZaR (i : Nat) {op : Operator} {tip : TIp} {g : D → D → Option D} (hN : X.N[i]? = some x) (hp : PIp X op tip) (hg : OpD X.K tip g) (he : PP X ios Wx e fe) (hi : PP X ios Wx ix fi) (hv : Vis X.env.scope x:=by first | exact Or.inl rfl | exact Or.inr (Or.inl rfl) | exact Or.inr (Or.inr rfl)) (hd : (x == ("__debug__" : Str)) = false:=by decide) (hcd : (x == ("__classdict__" : Str)) = false:=by decide)
    (ha : ∀ ov iv new,augStore ix ov iv new = (do holding [new,ov,iv] (setItem ov iv new);release [new,ov,iv] [];pure .next):=by intros;rfl) : PD X ios Wx (.AugAssign (.Subscript (.Name x npos) ix tpos) op e pos) (Z5H i g fi fe):=by
 obtain ⟨te,pe,re⟩:=he.ex;obtain ⟨ti,pi,ri⟩:=hi.ex;refine ⟨_,ps_augS (pe_var hN hv hd hcd) pi ZaQ pe hp set_list ha,fun B F W E σ H Dn S k => ?_⟩;unfold Z5H at k;cases q : E[i]? with
 | none => simp only [q] at k;exact k.elim
 | some o =>
  cases o with
  | none => simp only [q] at k;exact k.elim
  | some p =>
   simp only [q] at k;obtain ⟨t,d⟩:=p;obtain ⟨v,h1,_⟩:=S.vr i t d q;refine ⟨v,h1,ri B F W E σ H _ S (Ju.seq k fun F2 W2 H2 z dz E2 S2 s2 r2 k2 => ?_)⟩;cases q2 : ownL i E2 with
   | none => simp only [q2] at k2;exact k2.elim
   | some ds =>
    simp only [q2] at k2;cases dz <;> first | (exact k2.elim) | skip
    rename_i j;cases q3 : L2.atI ds j with
    | none => simp only [q3] at k2;exact k2.elim
    | some old =>
     simp only [q3] at k2;obtain ⟨o,vs,h2,h3,h4,h5,_,h6⟩:=S2.ownl q2;rw [h1] at h2;cases h2;cases r2;obtain ⟨w,e1,rw'⟩:=h5.atI q3;refine ⟨o,vs,j,w,rfl,rfl,SqL.of h3,e1,re B F2 W2 E2 σ H2 _ S2 (Ju.seq k2 fun F3 W3 H3 y dy E3 S3 s3 r3 k3 => ?_)⟩;cases q4 : g old dy with
     | none => simp only [q4] at k3;exact k3.elim
     | some z' =>
      cases q5 : ownL i E3 with
      | none => simp only [q4,q5] at k3;exact k3.elim
      | some ds3 =>
       cases q6 : ixN ds3.length j with
       | none => simp only [q4,q5,q6] at k3;exact k3.elim
       | some n =>
        simp only [q4,q5,q6] at k3;refine hg F3 H3 w y old dy z' _ S3.fh (rw'.mono s3.fx old) r3 q4 fun F4 H4 v4 g4 r4 => ?_;have S4:=S3.grow g4;obtain ⟨o',vs',h2',h3',h4',h5',_,h6'⟩:=S4.ownl q5;rw [h1] at h2';cases h2';refine ⟨o,vs',j,n,rfl,rfl,h3',by rw [h5'.length];exact q6, ?_⟩;obtain ⟨S5,s5⟩:=h6' _ _ (RepL.set r4 n h5') (by rw [List.length_set];exact h4');exact k3 F4 W3 _ σ S5 g4.fx
def MutD (K : KF) (r : V → List V → Hp → VK → Prop) (g : List D → List D → Option (D × List D)) : Prop:=∀ (F H : Hp) (o : Addr) (vs : List V) (ds : List D) (xs : List V) (as : List D) (z : D) (ds' : List D) (Q : VK),H o = some (.lst vs) → F o = none → Same F H → ds.length ≤ sizeLine → RepL K F vs ds → RepL K F xs as → g ds as = some (z,ds') →
 (∀ v vs',Rep K F v z → RepL K F vs' ds' → Q v (upd H o (.lst vs'))) → r (.ref o) xs H Q
def mutM (i : Nat) (g : List D → List D → Option (D × List D)) (fs : M (List D)) : M D:=fun E => match ownL i E with
 | some _ => bnd fs (fun as E => match ownL i E with
  | some ds => (match g ds as with
   | some (z,ds') => if Z2X ds'.length = true then .ok z (putL i ds' E) else .stk
   | none => .stk)
  | none => .stk) E
 | none => .stk
section
variable {es : List Expr} {fs : M (List D)} {name : Str} {id : String} {r : V → List V → Hp → VK → Prop} {g : List D → List D → Option (D × List D)} {cpos : Pos}
theorem ZcD {B : Bs} {F : Hp} {W : Wm} {E : Nv} {σ : L2.St} {H : Hp} {Q : VK} {o : Addr} {xs : List V} {as : List D} (hr : MutD X.K r g) (S : Dl.St X.K ios B F W E σ H) (h1 : σ[i]? = some (some (.ref o))) (rx : RepL X.K F xs as)
    (k : Pst X.K ios B Wx σ (Rep X.K) F W H (match ownL i E with
     | some ds => (match g ds as with
      | some (z,ds') => if Z2X ds'.length = true then Rs.ok z (putL i ds' E) else .stk
      | none => .stk)
     | none => .stk) Q) : r (.ref o) xs H Q:=by
 cases q2 : ownL i E with
 | none => simp only [q2] at k;exact k.elim
 | some ds =>
  simp only [q2] at k;obtain ⟨v,e1,e2⟩:=S.vr i _ _ (Z9o q2);obtain ⟨o',vs,ds2,rfl,e,w,ho,z,rr⟩:=e2.lshE;cases e;rw [h1] at e1;cases e1;cases q3 : g ds as with
  | none => simp only [q3] at k;exact k.elim
  | some pr =>
   obtain ⟨zz,ds'⟩:=pr;simp only [q3] at k;by_cases hz : Z2X ds'.length = true
   · rw [Yj hz] at k;refine hr F H o vs ds xs as zz ds' Q ho (S.ow _ _ w).1 S.fh z rr rx q3 fun v' vs' r1 r2 => ?_;obtain ⟨_,_,h2,h3,h4,h5,_,h6⟩:=S.ownl q2;rw [h1] at h2;cases h2;obtain ⟨S3,s3⟩:=h6 _ _ r2 (Yq hz);exact k F W _ v' S3 s3 r1
   · rw [Yk hz] at k;exact k.elim
theorem Z8x (i : Nat) (slot : Slot "list" name id) (hty : typeOf (.builtin id) = pure (.type "method_descriptor")) (hm : MtR X id r) (hr : MutD X.K r g) (hN : X.N[i]? = some x) (ha : PL X ios Wx (e :: es) fs) (hv : Vis X.env.scope x:=by first | exact Or.inl rfl | exact Or.inr (Or.inl rfl) | exact Or.inr (Or.inr rfl)) (hd : (x == ("__debug__" : Str)) = false:=by decide) (hcd : (x == ("__classdict__" : Str)) = false:=by decide)
    (hbase : attributeBase (.Name x npos) name X.env (eval (.Name x npos) X.env) = eval (.Name x npos) X.env:=by rfl)
    (hfew : ((backTo cpos (starEach (e :: es) X.env)).all (fun x => !x.1) && (backToKw cpos (keywordEach [] X.env)).all (fun x => x.1.isSome)
     && decide ((e :: es).length + ([] : List Keyword).length + (if ([] : List Keyword).isEmpty then 0 else 1) < 30)) = true:=by rfl)
    (hline : (apos.endLine == cpos.line) = true:=by rfl) (hs : starEach (e :: es) X.env = (false,eval e X.env) :: starEach es X.env:=by rfl) (hplain : (backTo cpos (starEach es X.env)).any (·.1) = false:=by rfl) :
    PP X ios Wx (.Call (.Attribute (.Name x npos) name apos) (e :: es) [] cpos) (mutM i g fs):=by
 obtain ⟨ta,pa,ra⟩:=ha.ex;refine ⟨_,pe_bm PySem.F.plainAttrs_list slot hty hm (pe_var hN hv hd hcd) pa hbase hfew hline hs hplain,fun B F W E σ H Q S k => ?_⟩;unfold mutM at k;cases q : ownL i E with
 | none => simp only [q] at k;exact k.elim
 | some ds0 =>
  simp only [q] at k;obtain ⟨o,vs,h1,h3,h4,h5,_,h6⟩:=S.ownl q;refine ⟨_,h1,.inl ⟨rfl,_,SqL.of h3⟩,ra B F W E σ H _ S (Pst.seq k fun F2 W2 H2 xs as E2 S2 s2 r2 k2 => ?_)⟩;exact ZcD hr S2 h1 r2 k2
end
end
def appG : List D → List D → Option (D × List D)
 | ds,[y] => if ds.length < sizeLine then some (.non,ds ++ [y]) else none
 | _,_ => none
theorem Z3H {K : KF} : MutD K rAppend appG:=by
 intro F H o vs ds xs as z ds' Q ho fo fh hz rr rx hg q;cases as with
 | nil => cases hg
 | cons y r =>
  cases r with
  | cons _ _ => cases hg
  | nil =>
   have hg' : (if ds.length < sizeLine then some (D.non,ds ++ [y]) else none) = some (z,ds'):=hg;by_cases c : ds.length < sizeLine
   · rw [Yj c] at hg';cases hg';cases rx with
     | cons r1 r2 =>
      cases r2;exact ⟨o,vs,_,rfl,rfl,ho,by rw [rr.length];exact c,q _ _ .non (rr.app (.cons r1 .nil))⟩
   · rw [Yk c] at hg';cases hg'
def extG : List D → List D → Option (D × List D)
 | ds,[.lst es] => if ds.length + es.length ≤ sizeLine then some (.non,ds ++ es) else none
 | _,_ => none
theorem ZcE {K : KF} : MutD K rExtend extG:=by
 intro F H o vs ds xs as z ds' Q ho fo fh hz rr rx hg q;unfold extG at hg
 split at hg
 · rename_i es;by_cases c : ds.length + es.length ≤ sizeLine
   · rw [Yj c] at hg;cases hg;cases rx with
     | cons r1 r2 =>
      cases r2;cases r1 with
      | lst s z r =>
       exact ⟨o,_,vs,_,rfl,rfl,ho,fh _ _ s,by rw [rr.length,r.length];exact c,q _ _ .non (rr.app r)⟩
   · rw [Yk c] at hg;cases hg
 · cases hg
theorem RepL.erase {K : KF} {F : Hp} : ∀ {vs : List V} {ds : List D} (n : Nat),RepL K F vs ds → RepL K F (vs.eraseIdx n) (ds.eraseIdx n)
 | [],_,n,h => by cases h;exact .nil
 | v :: vs,_,0,h => by cases h with | cons _ h2 => exact h2
 | v :: vs,_,n + 1,h => by cases h with | cons h1 h2 => exact .cons h1 (h2.erase n)
theorem RepL.reverse {K : KF} {F : Hp} : ∀ {vs : List V} {ds : List D},RepL K F vs ds → RepL K F vs.reverse ds.reverse
 | [],_,h => by cases h;exact .nil
 | v :: vs,_,h => by
  cases h with
  | cons h1 h2 =>
   rw [List.reverse_cons,List.reverse_cons];exact h2.reverse.app (.cons h1 .nil)
def ipD (f : Int → Int → Int) : D → D → Option D
 | .int i,.int j => some (.int (f i j))
 | _,_ => none
theorem Zgj {K : KF} (f : Int → Int → Int) : OpD K (ipI f) (ipD f):=by
 intro F H x y d e z Q fh rx ry hz q;unfold ipD at hz
 split at hz
 · cases hz;cases rx;cases ry;exact ⟨_,_,rfl,rfl,q F H _ (Gr.refl fh) (.int _)⟩
 · cases hz
end Dl
namespace PySem
open Sem (wp)
theorem Z6A {v : Value} {o : Obj} {H : Heap → Prop} (B : Begins v o H) :
    Meets (Builtin.«enumerate.__new__» ⟨[.type "enumerate",v],[]⟩) (fun _ R s => H s.heap ∧
     R (.ok (.ret (.ref (s.heap.push o).objs.size))) { s with heap:=(s.heap.push o).push { cls:=.type "enumerate",data:=.fields #[.none,.bool false,.ref s.heap.objs.size,rawInt 0,.none,.none] } }):=by
 refine .of_wp fun prog w A R s hh => ?_;obtain ⟨hp,g,d,tk,os⟩:=s;have hsub:=sub_enumerate;have start : ∀ {A' : Around} {E : Value → Shared → Prop} {Q : Value → Shared → Prop},Q (.ref hp.objs.size) ⟨hp.push o,g,d,tk,os⟩ → wpAny (model prog w) A' (pyIter v) Q E ⟨hp,g,d,tk,os⟩ :=
  fun q => B.iter prog w _ _ ⟨hp,g,d,tk,os⟩ _ hh.1 q
 wp_walk using start
 refine wpAny_stack_any fun st => wpAny_pure ?_
 split
 next c _ _ _ _ _ => cases (c == Value.type "enumerate") <;> (wp_walk using start;exact ⟨_,rfl,hh.2⟩)
 next => wp_walk using start;exact ⟨_,rfl,hh.2⟩
theorem Z3I {prog : Program} {w : World} {A : Around} {E : Value → Shared → Prop} {s : Shared} {v : Value} {o : Obj} {H : Heap → Prop} {Q : Value → Shared → Prop} (B : Begins v o H) (hh : H s.heap)
    (k : ∀ h',IsEnum h' (s.heap.objs.size + 1) s.heap.objs.size 0 .none → h'.get? s.heap.objs.size = some o → (∀ b u,s.heap.get? b = some u → h'.get? b = some u) → Q (.ref (s.heap.objs.size + 1)) { s with heap:=h' }) :
    wpAny (model prog w) A (call (.type "enumerate") [v]) Q E s:=by
 have two : (s.heap.push o).objs.size = s.heap.objs.size + 1:=Heap.size_push ..;have top:=Heap.get?_push_size (s.heap.push o) (o:={ cls:=.type "enumerate",data:=.fields #[.none,.bool false,.ref s.heap.objs.size,rawInt 0,.none,.none] }) rfl;refine callType_new F.called_enumerate (by decide) (F.typeCall_enumerate_1 _) (F.newCall_enumerate_1 _) (fun obj => F.args_object_init_2 obj _) F.entry_enumerate_new (Z6A B) ⟨hh, ?_⟩;show _ ∧ _;rw [two] at top ⊢;exact ⟨⟨_,top,rfl⟩,k _ top (Heap.get?_push_of_some _ (Heap.get?_push_size _ B.free)) fun b u x => Heap.get?_push_of_some _ (Heap.get?_push_of_some _ x)⟩
end PySem
namespace Dl
open PySem PySem.Spec PyProof.Rows L2
variable [Tbs]
def Itet (K : KF) (a : Addr) : It where
 go:=fun i H => ∃ (xs : List V) (x : V),SqT K H a xs ∧ xs[i]? = some x
 yld:=fun i H v H' => ∃ T x,v = .ref T ∧ H T = none ∧ H' = upd H T (.tup [.int (i : Nat),x]) ∧ ∀ xs,SqT K H a xs → xs[i]? = some x
 stop:=fun i H => ∃ xs : List V,SqT K H a xs ∧ xs.length ≤ i
theorem Z77 {P : Program} {w : World} {K : KF} {elts : List Expr} {kk : Nat} {tpos : Pos} (a e it : Addr) :
    Turn P w K (.Tuple elts kk tpos) (Itet K a) [e,it] e (fun i h => (∃ old,IsEnum h e it ((i : Nat) : Int) old) ∧ h.IsTupleIter it a i ∧ e ≠ it) where
 mem:=Ya
 obj:=fun i h st b hb => by
  obtain ⟨⟨old,he⟩,⟨o,ho,hc,hd⟩,_⟩:=st;rcases Yc.mp hb with rfl | hb
  · exact ⟨_,he,fun v q => nomatch q⟩
  · cases Yg.mp hb;exact ⟨o,ho,fun v q => by rw [hd] at q;cases q⟩
 keep:=fun i h h' st k => by
  obtain ⟨⟨old,he⟩,hi,hne⟩:=st;exact ⟨⟨old,k e (by simp) _ he⟩,hi.at fun o q => k it (by simp) o q,hne⟩
 item:=by
  rintro X rfl rfl rfl hc i pins s σ H E I hf ⟨⟨old,he⟩,hit,hne⟩ ⟨xs,x,hq,hx⟩
  obtain ⟨its,rv,p,hz⟩:=I.tuple hq;obtain ⟨u,hu,ru⟩:=rv.get hx;have hel : e < s.heap.objs.size:=Heap.lt_size he;have hil : it < s.heap.objs.size:=by obtain ⟨_,q,_⟩:=hit;exact Heap.lt_size q
  have tup : s.heap.IsTuple a its.toArray:=p;have hea : e ≠ a:=fun z => by
   subst z;obtain ⟨o,ho,hcl,_⟩:=tup;rw [he] at ho;cases ho;exact absurd (Value.type.inj hcl) (by decide)
  have D:=Draws.tuple (prog:=X.prog) (w:=X.w) (A:=X.A.in1) (I.ok.hd hc) it a (fun z => by
   subst z;obtain ⟨o,ho,hcl,_⟩:=tup;obtain ⟨o',ho',hc',_⟩:=hit;rw [ho] at ho';cases ho';rw [hcl] at hc';exact absurd (Value.type.inj hc') (by decide)) its.toArray
  refine wpAny_pyNext_enum_itemD D he ⟨hit,tup⟩ (by have:=(Yn.mp hu).1;simpa using this) hne (by
   intro z;rcases Yc.mp z with z | z
   · exact hne z
   · exact hea (Yg.mp z)) fun y h' tk hy ho hs' hT hsz hk => ?_
  have hyu : y = u:=by
   have hy' : its.toArray[i]? = some y:=hy;rw [show its.toArray[i]? = some u by simpa using hu] at hy';exact (Option.some.inj hy').symm
  subst hyu;refine ⟨_,rfl,wpAny_letOwnedTupleGo_enum (s:={ s with heap:=h',toks:=tk + 1 }) ho fun h'' he' sb => ?_⟩;have hT2 : h''.get? s.heap.objs.size = some { cls:=.type "tuple",data:=.seq #[.int i tk,y] }:=(sb.2 _ (Nat.ne_of_gt hel)).trans hT;have new : ObjOk X.prog X.w (upd H s.heap.objs.size (.tup [.int (i : Nat),x])) h'' s.heap.objs.size (.tup [.int (i : Nat),x]) :=
   ⟨by show 2 ≤ sizeLine;decide,[.int i tk,y],.cons ⟨_,rfl⟩ (.cons ru .nil),⟨_,hT2,rfl,_,rfl⟩⟩
  have I1 : Inv X pins σ (upd H s.heap.objs.size (.tup [.int (i : Nat),x])) { s with heap:=h'',toks:=tk + 1 } :=
   I.turnedNew (ch:=[e,it]) (fun b ob hb q => (sb.2 b (fun z => hb (by simp [z]))).trans (hk b ob (fun z => hb (by simp [z])) (fun z => hb (by simp [z])) q)) hf (Nat.le_refl _) new
  refine ⟨.ref s.heap.objs.size,_,I1,rfl,⟨_,x,rfl,I.hok.fresh (Nat.le_refl _),rfl,fun ys hy => by rw [I.tuple_inj hy hq];exact hx⟩,⟨⟨y, ?_⟩,hs'.1.at fun o q => (sb.2 it (Ne.symm hne)).trans q,hne⟩,fun b hb => ?_⟩
  · rw [show ((i + 1 : Nat) : Int) = (i : Int) + 1 by omega];exact he'
  · have hb' : b < s.heap.objs.size:=by
      rcases Yc.mp hb with rfl | z
      · exact hel
      · cases Yg.mp z;exact hil
    rw [upd_ne (Nat.ne_of_lt hb')];exact (hf b hb).1
 done:=by
  rintro X rfl rfl rfl hc i pins s σ H E I hf ⟨⟨old,he⟩,hit,hne⟩ ⟨xs,hq,hx⟩
  obtain ⟨its,rv,p,hz⟩:=I.tuple hq;obtain ⟨f0,f1,f2,f3,f4,f5⟩:=hf it (by simp);have tup : s.heap.IsTuple a its.toArray:=p;have hl:=rv.length;have hT : s.TypeIs (.ref e) "enumerate" := ⟨_,he,rfl⟩;have hh : (X.A.in1.in1).handled = none:=I.ok.hd hc;unfold pyNext;refine wpAny_bind (wpAny_attempt (wpAny_callSpecial?_slot (name:=Str.ofString "__next__") hT F.slot_enumerate_next (wpAny_call_entry F.slot_enumerate_next hT F.entry_enumerate_next ?_ (F.args_enumerate_next_1 _))));show wpAny _ _ (field (.ref e) 2 >>= _) _ _ _;refine wpAny_bind (wpAny_field he rfl (x:=.ref it) rfl (wpAny_bind (wpAny_nextOf_tuple_end hh hit tup (by simp;omega) fun h' x he' hx' => ?_)));obtain ⟨o,ho,hcl⟩:=hx';exact wpAny_bind (wpAny_isInstance (T := "StopIteration") (b:=true) ⟨o,ho,hcl⟩ isSubtype_stop (wpAny_pure ⟨rfl,I.turned (t':=s.toks) (fun b o hb q => he' b o hb q) f0 f1 f3 f4 f5⟩))
 self:=fun A i s Q E st h => let ⟨⟨_,he⟩,_⟩:=st;wpAny_pyIter_enum he h
section
variable {X : Cx} {tg e : Expr} {te : TE}
def iSeq (K : KF) (te : TE) : TI:=fun σ H R => te σ H fun x H1 => ∃ a,x = .ref a ∧ (((∃ xs,SqL K H1 a xs) ∧ R (Itl K a) H1) ∨ ((∃ xs,SqT K H1 a xs) ∧ R (Itt K a) H1))
theorem Zgk (he : PE X e te) : PI X tg e (iSeq X.K te):=by
 refine ⟨fun pins s σ H R I h => thn (he.run pins s σ H _ I h) fun v s1 ⟨x,H1,I1,r1,a,ex,q⟩ => ?_⟩;subst ex;cases r1;have at0 : ∀ b ∈ [s1.heap.objs.size],FpOk X pins H1 b:=fun b hb => by
  cases Yg.mp hb;exact I1.fpOk (Nat.le_refl _) (I1.hok.fresh (Nat.le_refl _))
 rcases q with ⟨⟨xs,hq⟩,q⟩ | ⟨⟨xs,hq⟩,q⟩
 · obtain ⟨its,rv,p,hz⟩:=I1.list hq;exact wpAny_pyIter_list p.isList ⟨s1.heap.objs.size,[s1.heap.objs.size],_,_,H1,rfl,I1.kept (t':=s1.toks) fun b o z => Heap.get?_push_of_some _ z,turn_list a _,⟨_,Heap.get?_push_size _ rfl,rfl,rfl⟩,at0,q⟩
 · obtain ⟨its,rv,p,hz⟩:=I1.tuple hq;exact wpAny_pyIter_tuple (show s1.heap.IsTuple a its.toArray from p) ⟨s1.heap.objs.size,[s1.heap.objs.size],_,_,H1,rfl,I1.kept (t':=s1.toks) fun b o z => Heap.get?_push_of_some _ z,turn_tuple a _,⟨_,Heap.get?_push_size _ rfl,rfl,rfl⟩,at0,q⟩
variable {ta : TA} {p pos tpos : Pos} {elts : List Expr} {kk : Nat}
def Zgl (K : KF) (ta : TA) : TI:=fun σ H R => ta σ H fun vs H1 => ∃ a,vs = [.ref a] ∧ (((∃ xs,SqL K H1 a xs) ∧ R (Ite K a) H1) ∨ ((∃ xs,SqT K H1 a xs) ∧ R (Itet K a) H1))
theorem ZaS (hg : Gl X "enumerate") (hm : X.mg "enumerate" = none) (ha : PA X [e] ta) (hs : starEach [e] X.env = [(false,eval e X.env)]:=by rfl) : PI X (.Tuple elts kk tpos) (.Call (.Name "enumerate" p) [e] [] pos) (Zgl X.K ta):=by
 refine ⟨fun pins s σ H R I h => Call_ (ld_blt I hg hm boot_enumerate (PyProof.Rows.callWith_type1 (thn (ha.run pos pins s σ H _ I h) fun us s1 ⟨vs,H1,I1,r1,a,ex,q⟩ => ?_) hs rfl))⟩;subst ex;obtain ⟨u,rfl,ru⟩:=r1.one;cases ru;have at2 : ∀ b ∈ [s1.heap.objs.size + 1,s1.heap.objs.size],FpOk X pins H1 b:=fun b hb => by
  have hle : s1.heap.objs.size ≤ b:=by
   rcases Yc.mp hb with rfl | z
   · exact Nat.le_succ _
   · rw [Yg.mp z];exact Nat.le_refl _
  exact I1.fpOk hle (I1.hok.fresh hle)
 rcases q with ⟨⟨xs,hq⟩,q⟩ | ⟨⟨xs,hq⟩,q⟩
 · obtain ⟨its,rv,pl,hz⟩:=I1.list hq;exact Z3I (begins_list a its.toArray) pl.isList fun h' he hit hk => wpAny_pyIter_enum he
    ⟨s1.heap.objs.size + 1,_,_,_,H1,rfl,I1.kept (t':=s1.toks) hk,turn_enum a (s1.heap.objs.size + 1) s1.heap.objs.size,⟨⟨.none,he⟩,⟨_,hit,rfl,rfl⟩,Nat.succ_ne_self _⟩,at2,q⟩
 · obtain ⟨its,rv,pl,hz⟩:=I1.tuple hq;exact Z3I (begins_tuple a its.toArray) (show s1.heap.IsTuple a its.toArray from pl) fun h' he hit hk => wpAny_pyIter_enum he
    ⟨s1.heap.objs.size + 1,_,_,_,H1,rfl,I1.kept (t':=s1.toks) hk,Z77 a (s1.heap.objs.size + 1) s1.heap.objs.size,⟨⟨.none,he⟩,⟨_,hit,rfl,rfl⟩,Nat.succ_ne_self _⟩,at2,q⟩
end
def prs : Nat → List D → List D
 | _,[] => []
 | n,d :: ds => .tup [.int (n : Nat),d] :: prs (n + 1) ds
theorem Z55 : ∀ (n : Nat) (ds : List D),(prs n ds).length = ds.length
 | _,[] => rfl
 | n,d :: ds => by
  have h : prs n (d :: ds) = .tup [.int (n : Nat),d] :: prs (n + 1) ds:=rfl;rw [h,List.length_cons,List.length_cons,Z55]
theorem Z78 : ∀ (n : Nat) (ds : List D) (i : Nat),(prs n ds)[i]? = (ds[i]?).map fun d => .tup [.int ((n + i : Nat) : Int),d]
 | _,[],i => by show ([] : List D)[i]? = _;simp
 | n,d :: ds,0 => rfl
 | n,d :: ds,i + 1 => by
  have h : (prs n (d :: ds))[i + 1]? = (prs (n + 1) ds)[i]?:=rfl;rw [h,Z78,List.getElem?_cons_succ,show n + 1 + i = n + (i + 1) by omega]
theorem Z60 {K : KF} {F H : Hp} {T : Addr} {x : V} {d : D} {i : Nat} (fh : Same F H) (hT : H T = none) (r : Rep K F x d) : ∃ F',Gr F H F' (upd H T (.tup [.int (i : Nat),x])) ∧ Rep K F' (.ref T) (.tup [.int (i : Nat),d]):=by
 have g : Gr F H (upd F T (.tup [.int (i : Nat),x])) (upd H T (.tup [.int (i : Nat),x])):=Gr.new fh hT fun _ _ z => by cases z
 exact ⟨_,g,.tup (SqT.of upd_same) (by show 2 ≤ sizeLine;decide) (.cons (.int _) (.cons (r.mono g.fx d) .nil))⟩
theorem ZaT {K : KF} {F0 : Hp} {a : Addr} {vs : List V} {ds : List D} (h : F0 a = some (.lst vs)) (r : RepL K F0 vs ds) : Wlk K (Ite K a) (prs 0 ds) F0 where
 go:=fun i F H e1 e2 hi => by
  rw [Z55] at hi;have hl:=r.length;exact ⟨vs,vs[i],SqL.of (e2 _ _ (e1 _ _ h)),Ym (by omega)⟩
 yld:=fun i F H x H' d e1 e2 hy hd => by
  obtain ⟨T,y,rfl,hT,rfl,hq⟩:=hy;rw [Z78,Nat.zero_add] at hd;cases q : ds[i]? with
  | none => rw [q] at hd;cases hd
  | some d0 =>
   rw [q] at hd;cases hd;obtain ⟨v,ev,rv⟩:=r.get q;have ex:=hq vs (SqL.of (e2 _ _ (e1 _ _ h)));rw [ev] at ex;cases ex;exact Z60 e2 hT (rv.mono e1 d0)
 stop:=fun i F H e1 e2 hi => ⟨vs,SqL.of (e2 _ _ (e1 _ _ h)),by rw [r.length,← Z55 0];exact hi⟩
theorem Z8y {K : KF} {F0 : Hp} {a : Addr} {vs : List V} {ds : List D} (h : SqT K F0 a vs) (r : RepL K F0 vs ds) : Wlk K (Itet K a) (prs 0 ds) F0 where
 go:=fun i F H e1 e2 hi => by
  rw [Z55] at hi;have hl:=r.length;exact ⟨vs,vs[i],ZZc e2 (ZZc e1 h),Ym (by omega)⟩
 yld:=fun i F H x H' d e1 e2 hy hd => by
  obtain ⟨T,y,rfl,hT,rfl,hq⟩:=hy;rw [Z78,Nat.zero_add] at hd;cases q : ds[i]? with
  | none => rw [q] at hd;cases hd
  | some d0 =>
   rw [q] at hd;cases hd;obtain ⟨v,ev,rv⟩:=r.get q;have ex:=hq vs (ZZc e2 (ZZc e1 h));rw [ev] at ex;cases ex;exact Z60 e2 hT (rv.mono e1 d0)
 stop:=fun i F H e1 e2 hi => ⟨vs,ZZc e2 (ZZc e1 h),by rw [r.length,← Z55 0];exact hi⟩
section
variable {X : Cx} {ios : Ios} {Wx : WX} {a tg : Expr} {p pos tpos : Pos} {elts : List Expr} {kk : Nat}
theorem Z1u {f : M D} (ha : PP X ios Wx a f) : PIt X ios Wx tg a (bnd f fun d => ofO (Z3u d)):=by
 obtain ⟨ta,pa,ra⟩:=ha.ex;refine ⟨_,Zgk pa,fun B F W E σ H R S h => ?_⟩;refine ra B F W E σ H _ S (Pst.seq h fun F1 W1 H1 x d E1 S1 s1 r1 h1 => ?_);obtain ⟨z,ez,h2⟩:=h1.some;cases r1 <;> first | (cases ez;done) | skip
 · rename_i a vs ds s zz r;cases ez;exact ⟨a,rfl,.inl ⟨⟨vs,SqL.of (S1.fh _ _ s)⟩,h2.done S1 (ZaM s r)⟩⟩
 · rename_i a vs ds s zz r;cases ez;exact ⟨a,rfl,.inr ⟨⟨vs,ZZc S1.fh s⟩,h2.done S1 (Zcw s r)⟩⟩
def Z5I : List D → Option (List D)
 | [d] => (Z3u d).map (prs 0)
 | _ => none
theorem Z56 {fs : M (List D)} (hg : Gl X "enumerate") (hm : X.mg "enumerate" = none) (ha : PL X ios Wx [a] fs) (hs : starEach [a] X.env = [(false,eval a X.env)]:=by rfl) : PIt X ios Wx (.Tuple elts kk tpos) (.Call (.Name "enumerate" p) [a] [] pos) (bnd fs fun ds => ofO (Z5I ds)):=by
 obtain ⟨ta,pa,ra⟩:=ha.ex;refine ⟨_,ZaS hg hm pa hs,fun B F W E σ H R S h => ?_⟩;refine ra B F W E σ H _ S (Pst.seq h fun F1 W1 H1 x d E1 S1 s1 r1 h1 => ?_);obtain ⟨z,ez,h2⟩:=h1.some;cases r1 with
 | nil => cases ez
 | cons r1 r2 =>
  cases r2 with
  | cons _ _ => cases ez
  | nil =>
   cases r1 <;> first | (cases ez;done) | skip
   · rename_i a vs ds s zz r;cases ez;exact ⟨a,rfl,.inl ⟨⟨vs,SqL.of (S1.fh _ _ s)⟩,h2.done S1 (ZaT s r)⟩⟩
   · rename_i a vs ds s zz r;cases ez;exact ⟨a,rfl,.inr ⟨⟨vs,ZZc S1.fh s⟩,h2.done S1 (Z8y s r)⟩⟩
end
def asIs : List D → Option (List Int)
 | [] => some []
 | .int i :: r => (asIs r).map (i :: ·)
 | _ => none
def asBs : List D → Option (List Bool)
 | [] => some []
 | .bl b :: r => (asBs r).map (b :: ·)
 | _ => none
theorem RepL.bools {K : KF} {F : Hp} : ∀ {ds : List D} {vs : List V} {ns : List Bool},RepL K F vs ds → asBs ds = some ns → vs = ns.map V.bl
 | [],_,ns,h,e => by cases h;cases (show some ([] : List Bool) = some ns from e);rfl
 | d :: ds,_,ns,h,e => by
  cases h with
  | cons h1 h2 =>
   cases d <;> first | (cases (show (none : Option (List Bool)) = some ns from e);done) | skip
   rename_i i;have e' : (asBs ds).map (i :: ·) = some ns:=e;cases q : asBs ds with
   | none => rw [q] at e';cases e'
   | some ms =>
    rw [q] at e';cases e';cases h1;rw [h2.bools q];rfl
theorem Z79 {α : Type} {f : D → Option α} {ds : List D} {z : α} (h : one f ds = some z) : ∃ d,ds = [d] ∧ f d = some z:=by
 unfold one at h
 split at h
 · exact ⟨_,rfl,h⟩
 · cases h
theorem RepL.two {K : KF} {F : Hp} {vs : List V} {d e : D} (h : RepL K F vs [d,e]) : ∃ v w,vs = [v,w] ∧ Rep K F v d ∧ Rep K F w e:=by
 cases h with
 | cons h1 h2 =>
  obtain ⟨w,rfl,h3⟩:=h2.one;exact ⟨_,w,rfl,h1,h3⟩
def Jx : D → Option D
 | .str s => if s.length ≤ sizeLine then some (.int s.length) else none
 | .lst ds => some (.int ds.length)
 | .tup ds => some (.int ds.length)
 | _ => none
theorem Z8z {K : KF} : Z6Q K (fun xs H Q => ∃ x n,xs = [x] ∧ LenV K x H n ∧ Q (.int n) H) (one Jx):=by
 intro F H vs ds z Q fh r0 hz q;obtain ⟨d,rfl,hz⟩:=Z79 hz;obtain ⟨v,rfl,r⟩:=r0.one;cases r with
 | str s =>
  have hz' : (if s.length ≤ sizeLine then some (D.int s.length) else none) = some z:=hz;by_cases c : s.length ≤ sizeLine
  · rw [Yj c] at hz';cases hz';exact ⟨_,_,rfl,⟨c,rfl⟩,q F H _ (Gr.refl fh) (.int _)⟩
  · rw [Yk c] at hz';cases hz'
 | @lst a ws es s zz r =>
  cases (show some (D.int es.length) = some z from hz);exact ⟨_,_,rfl,.inl ⟨ws,SqL.of (fh _ _ s),r.length.symm⟩,q F H _ (Gr.refl fh) (.int _)⟩
 | @tup a ws es s zz r =>
  cases (show some (D.int es.length) = some z from hz);exact ⟨_,_,rfl,.inr ⟨ws,ZZc fh s,r.length.symm⟩,q F H _ (Gr.refl fh) (.int _)⟩
 | _ => cases hz
def onL {α : Type} (f : List D → Option α) : D → Option α
 | .lst ds => f ds
 | _ => none
theorem Zgm {α : Type} {f : List D → Option α} {d : D} {z : α} (h : onL f d = some z) : ∃ ds,d = .lst ds ∧ f ds = some z:=by
 cases d <;> first | (cases (show (none : Option α) = some z from h);done) | skip
 exact ⟨_,rfl,h⟩
theorem Rep.lstE {K : KF} {F H : Hp} {v : V} {ds : List D} (fh : Same F H) (h : Rep K F v (.lst ds)) : ∃ a vs,v = .ref a ∧ SqL K H a vs ∧ RepL K F vs ds:=by
 cases h with
 | lst s z r => exact ⟨_,_,rfl,SqL.of (fh _ _ s),r⟩
def allD : List D → Option D:=one (onL fun ds => (asBs ds).map fun bs => .bl (bs.all id))
def sumD : List D → Option D:=one (onL fun ds => (asIs ds).map fun bs => .int bs.sum)
theorem Z7a {α β : Type} {o : Option α} {f : α → β} {z : β} (h : o.map f = some z) : ∃ a,o = some a ∧ f a = z:=by
 cases o with
 | none => cases h
 | some a => exact ⟨a,rfl,Option.some.inj h⟩
theorem ZcF {K : KF} : Z6Q K (rAll K) allD:=by
 intro F H vs ds z Q fh r0 hz q;obtain ⟨d,rfl,hz⟩:=Z79 hz;obtain ⟨v,rfl,r⟩:=r0.one;obtain ⟨es,rfl,hz⟩:=Zgm hz;obtain ⟨bs,e,rfl⟩:=Z7a hz;obtain ⟨a,ws,rfl,s,r⟩:=r.lstE fh;exact ⟨a,bs,rfl,(r.bools e) ▸ s,q F H _ (Gr.refl fh) (.bl _)⟩
def absD : List D → Option D
 | [.int i] => some (.int (if i < 0 then -i else i))
 | _ => none
theorem Zgn {K : KF} : Z6Q K (fun xs H Q => ∃ i,xs = [.int i] ∧ Q (.int (if i < 0 then -i else i)) H) absD:=by
 intro F H vs ds z Q fh r0 hz q;unfold absD at hz
 split at hz
 · obtain ⟨v,rfl,r⟩:=r0.one;cases r;cases hz;exact ⟨_,rfl,q F H _ (Gr.refl fh) (.int _)⟩
 · cases hz
def J3 : List D → Option D
 | [.int i] => some (.int i)
 | [.bl b] => some (.int (if b then 1 else 0))
 | _ => none
theorem Z2H {K : KF} : Z6Q K (fun xs H Q => (∃ i,xs = [.int i] ∧ Q (.int i) H) ∨ ∃ k,xs = [.bl k] ∧ Q (.int (if k then 1 else 0)) H) J3:=by
 intro F H vs ds z Q fh r0 hz q;unfold J3 at hz
 split at hz
 · obtain ⟨v,rfl,r⟩:=r0.one;cases r;cases hz;exact .inl ⟨_,rfl,q F H _ (Gr.refl fh) (.int _)⟩
 · obtain ⟨v,rfl,r⟩:=r0.one;cases r;cases hz;exact .inr ⟨_,rfl,q F H _ (Gr.refl fh) (.int _)⟩
 · cases hz
def ZcG : List D → Option D
 | [.int i,.int j] => some (.int (if j > i then j else i))
 | _ => none
def ZcH : List D → Option D
 | [.int i,.int j] => some (.int (if j < i then j else i))
 | _ => none
theorem ZcI {K : KF} : Z6Q K (fun xs H Q => ∃ i j,xs = [.int i,.int j] ∧ Q (.int (if j > i then j else i)) H) ZcG:=by
 intro F H vs ds z Q fh r0 hz q;unfold ZcG at hz
 split at hz
 · obtain ⟨v,w,rfl,r1,r2⟩:=r0.two;cases r1;cases r2;cases hz;exact ⟨_,_,rfl,q F H _ (Gr.refl fh) (.int _)⟩
 · cases hz
theorem ZcJ {K : KF} : Z6Q K (fun xs H Q => ∃ i j,xs = [.int i,.int j] ∧ Q (.int (if j < i then j else i)) H) ZcH:=by
 intro F H vs ds z Q fh r0 hz q;unfold ZcH at hz
 split at hz
 · obtain ⟨v,w,rfl,r1,r2⟩:=r0.two;cases r1;cases r2;cases hz;exact ⟨_,_,rfl,q F H _ (Gr.refl fh) (.int _)⟩
 · cases hz
theorem Z7b {α β : Type} {o : Option α} {f : α → Option β} {z : β} (h : o.bind f = some z) : ∃ a,o = some a ∧ f a = some z:=by
 cases o with
 | none => cases h
 | some a => exact ⟨a,rfl,h⟩
def ZcK : List D → Option D:=one fun d => (Z3u d).map .lst
theorem Z9p {K : KF} : Z6Q K (fun xs H Q => ∃ p ys,xs = [.ref p] ∧ (SqL K H p ys ∨ SqT K H p ys) ∧ ∀ l,H l = none → Q (.ref l) (upd H l (.lst ys))) ZcK:=by
 intro F H vs ds z Q fh r0 hz q;obtain ⟨d,rfl,hz⟩:=Z79 hz;obtain ⟨v,rfl,r⟩:=r0.one;obtain ⟨es,e,rfl⟩:=Z7a hz;obtain ⟨p,ws,rfl,s,r'⟩:=Z8r fh r e;have hz : es.length ≤ sizeLine:=by
  cases r with
  | lst _ zz _ => cases e;exact zz
  | tup _ zz _ => cases e;exact zz
  | _ => cases e
 refine ⟨p,ws,rfl,s,fun l hl => ?_⟩;have g : Gr F H (upd F l (.lst ws)) (upd H l (.lst ws)):=Gr.new fh hl fun _ _ z => by cases z
 exact q _ _ _ g (.lst upd_same hz (r'.mono g.fx es))
theorem Z3J {K : KF} : Z6Q K (fun xs H Q => ∃ p ys,xs = [.ref p] ∧ ((SqL K H p ys ∧ ∀ l,H l = none → Q (.ref l) (upd H l (.tup ys))) ∨ (SqT K H p ys ∧ Q (.ref p) H))) Z2h:=by
 intro F H vs ds z Q fh r0 hz q;obtain ⟨d,rfl,hz⟩:=Z79 hz;obtain ⟨v,rfl,r⟩:=r0.one;obtain ⟨es,e,rfl⟩:=Z7a hz;cases r with
 | @lst a ws es' s zz r =>
  cases e;refine ⟨a,ws,rfl,.inl ⟨SqL.of (fh _ _ s),fun l hl => ?_⟩⟩;have g : Gr F H (upd F l (.tup ws)) (upd H l (.tup ws)):=Gr.new fh hl fun _ _ z => by cases z
  exact q _ _ _ g (.tup (SqT.of upd_same) zz (r.mono g.fx es))
 | @tup a ws es' s zz r =>
  cases e;exact ⟨a,ws,rfl,.inr ⟨ZZc fh s,q F H _ (Gr.refl fh) (.tup s zz r)⟩⟩
 | _ => cases e
mutual
def toQ : D → Option PyData
 | .non => some .none
 | .bl b => some (.bool b)
 | .int i => some (.int i)
 | .str x => some (.str x)
 | .tup ds => match toQs ds with
  | some ps => some (.tuple ps)
  | none => none
 | .dct [] [] => some (.dict [])
 | _ => none
def toQs : List D → Option (List PyData)
 | [] => some []
 | x :: r => match toQ x,toQs r with
  | some p,some ps => some (p :: ps)
  | _,_ => none
end
def ZfQ (d : D) : Option D:=(toQ d).bind fun p => if p.showable = true ∧ p.shown.length ≤ sizeLine ∧ p.depth ≤ 40 then some (.str p.shown) else none
def Z7c (d : D) : Option D:=(toP d).bind fun p => if p.showable = true ∧ p.hasDict = false ∧ p.shown.length ≤ sizeLine ∧ p.depth ≤ 40 then some (.str p.shown) else none
def Z9q : List D → Option D
 | [.dct [] []] => some (.str "{}")
 | xs => one (fun d => match Z7c d with
  | some z => some z
  | none => ZfQ d) xs
theorem Z8A {x : D} {r : List D} {ps : List PyData} (h : toQs (x :: r) = some ps) : ∃ p q,toQ x = some p ∧ toQs r = some q ∧ ps = p :: q:=by
 have h' : (match toQ x,toQs r with
  | some p,some ps => some (p :: ps)
  | _,_ => none) = some ps:=by
  have e:=h;unfold toQs at e;exact e
 cases q1 : toQ x with
 | none => rw [q1] at h';cases h'
 | some p =>
  rw [q1] at h';cases q2 : toQs r with
  | none => rw [q2] at h';cases h'
  | some q =>
   rw [q2] at h';cases h';exact ⟨p,q,rfl,rfl,rfl⟩
def EmpD (H : Hp) (a : Addr) : Prop:=Rd H a (.dK ([] : List (Key × V))) ∨ Rd H a (.dT ([] : List (List Key × V)))
theorem Rep.empD {K : KF} {F H : Hp} {v : V} (fh : Same F H) (r : Rep K F v (.dct [] [])) : ∃ a,v = .ref a ∧ EmpD H a:=by
 cases r with
 | @dk a o kvs _ _ s k r =>
  cases kvs with
  | nil => exact ⟨a,rfl,.inl (.inr ⟨o,fh _ _ s⟩)⟩
  | cons x r => cases k
 | @dt a o kvs _ _ s k r =>
  cases kvs with
  | nil => exact ⟨a,rfl,.inr (.inr ⟨o,fh _ _ s⟩)⟩
  | cons x r => cases k
theorem EmpD.reads {P : Program} {w : World} {H : Hp} {h : Heap} {a : Addr} (ok : HOk P w H h) (e : EmpD H a) : (a == sysModules) = false ∧ Reads h (.ref a) (.dict []) [a]:=by
 rcases e with e | e
 · obtain ⟨_,y,vs,r,o,es,ep,h1,h2,h3,h4,h5,h6⟩:=dk_rd ok e;cases r;have n : es.toList = []:=by
    cases q : es.toList with
    | nil => rfl
    | cons x r => rw [q] at h5;cases h5
   exact ⟨y,.dict (as:=[]) (bs:=[]) h1 h2.1 h3 (by rw [n];exact .nil) (by rw [n];exact .nil)⟩
 · obtain ⟨_,y,xs,r,o,es,ep,h1,h2,h3,h4,h5⟩:=dt_rd ok e;cases r;have n : es.toList = []:=h4;exact ⟨y,.dict (as:=[]) (bs:=[]) h1 h2.1 h3 (by rw [n];exact .nil) (by rw [n];exact .nil)⟩
def RdQ (K : KF) (H : Hp) (v : V) (p : PyData) : Prop:=∃ F d,Same F H ∧ Rep K F v d ∧ toQ d = some p
section
variable {X : Cx} {pins : List (Addr × Obj)} {σ : L2.St} {H F : Hp} {s : Shared}
mutual
theorem Rep.readsQ (I : Inv X pins σ H s) (fh : Same F H) : ∀ (d : D) {v : V} {u : Value} {p : PyData},Rep X.K F v d → RelV v u → toQ d = some p → ∃ as,Reads s.heap u p as ∧ sysModules ∉ as
 | .non,v,u,p,h,r,q => by
  cases h;cases r;unfold toQ at q;cases q;exact ⟨_,.none,nofun⟩
 | .bl b,v,u,p,h,r,q => by
  cases h;cases r;unfold toQ at q;cases q;exact ⟨_,.bool b,nofun⟩
 | .int i,v,u,p,h,r,q => by
  cases h;obtain ⟨t,rfl⟩:=r;unfold toQ at q;cases q;exact ⟨_,.int i t,nofun⟩
 | .str x,v,u,p,h,r,q => by
  cases h;obtain ⟨t,rfl⟩:=r;unfold toQ at q;cases q;exact ⟨_,.str x t,nofun⟩
 | .tup ds,v,u,p,h,r,q => by
  unfold toQ at q;cases q2 : toQs ds with
  | none => rw [q2] at q;cases q
  | some ps =>
   rw [q2] at q;cases q;cases h with
   | tup ss z rr =>
    cases r;obtain ⟨its,rv,⟨o,ho,hc,n,hd⟩,_⟩:=I.tuple (ZZc fh ss);obtain ⟨as,hr,hn⟩:=RepL.readsQ I fh ds rr rv q2;exact ⟨as,Reads.tuple ho hc hd hr,hn⟩
 | .dct [] [],v,u,p,h,r,q => by
  unfold toQ at q;cases q;obtain ⟨a,rfl,e⟩:=h.empD fh;cases (show u = Value.ref a from r);obtain ⟨n,rr⟩:=e.reads I.hok;exact ⟨_,rr,fun y => by
   cases Yg.mp y;cases n⟩
 | .dct (_ :: _) _,v,u,p,h,r,q => by unfold toQ at q;cases q
 | .dct [] (_ :: _),v,u,p,h,r,q => by unfold toQ at q;cases q
 | .lst _,v,u,p,h,r,q => by unfold toQ at q;cases q
 | .ins _ _ _,v,u,p,h,r,q => by unfold toQ at q;cases q
 | .ty _,v,u,p,h,r,q => by unfold toQ at q;cases q
 | .cl _,v,u,p,h,r,q => by unfold toQ at q;cases q
theorem RepL.readsQ (I : Inv X pins σ H s) (fh : Same F H) : ∀ (ds : List D) {vs : List V} {us : List Value} {ps : List PyData},RepL X.K F vs ds → Vals vs us → toQs ds = some ps → ∃ as,ReadsAll s.heap us ps as ∧ sysModules ∉ as
 | [],vs,us,ps,h,r,q => by
  cases h;cases r;unfold toQs at q;cases q;exact ⟨_,.nil,nofun⟩
 | d :: ds,vs,us,ps,h,r,q => by
  obtain ⟨p,qs,e1,e2,rfl⟩:=Z8A q;cases h with
  | cons h1 h2 =>
   cases r with
   | cons r1 r2 =>
    obtain ⟨as,q1,n1⟩:=Rep.readsQ I fh d h1 r1 e1;obtain ⟨bs,q2,n2⟩:=RepL.readsQ I fh ds h2 r2 e2;exact ⟨_,.cons q1 q2,fun y => by
     rcases Yd.mp y with y | y
     · exact n1 y
     · exact n2 y⟩
end
end
def ZhH (K : KF) : List V → Hp → VK → Prop:=fun xs H Q => (∃ v p,xs = [v] ∧ Dp K H v p ∧ p.showable = true ∧ p.hasDict = false ∧ p.shown.length ≤ sizeLine ∧ p.depth ≤ 40 ∧ Q (.str p.shown) H) ∨ (∃ a,xs = [.ref a] ∧ EmpD H a ∧ Q (.str "{}") H) ∨ ∃ a p,xs = [.ref a] ∧ RdQ K H (.ref a) p ∧ p.showable = true ∧ p.shown.length ≤ sizeLine ∧ p.depth ≤ 40 ∧ Q (.str p.shown) H
theorem ZcL {K : KF} {F : Hp} {v : V} {d : D} {p : PyData} (r : Rep K F v d) (e : toQ d = some p) (n : Z7c d = none) (hs : p.showable = true) (hz : p.shown.length ≤ sizeLine) : ∃ a,v = .ref a:=by
 cases r
 case non =>
  unfold toQ at e;cases e;exact absurd n (by unfold Z7c toP;simp [hs,hz,PyData.hasDict,PyData.depth])
 case bl b =>
  unfold toQ at e;cases e;exact absurd n (by unfold Z7c toP;simp [hs,hz,PyData.hasDict,PyData.depth])
 case int i =>
  unfold toQ at e;cases e;exact absurd n (by unfold Z7c toP;simp [hs,hz,PyData.hasDict,PyData.depth])
 case str x =>
  unfold toQ at e;cases e;exact absurd n (by unfold Z7c toP;simp [hs,hz,PyData.hasDict,PyData.depth])
 all_goals first | exact ⟨_,rfl⟩ | (unfold toQ at e;cases e)
theorem Z9r {K : KF} : Z6Q K (ZhH K) Z9q:=by
 intro F H vs ds z Q fh r0 hz q;unfold Z9q at hz
 split at hz
 · cases hz;obtain ⟨v,rfl,r⟩:=r0.one;obtain ⟨a,rfl,e⟩:=r.empD fh;exact .inr (.inl ⟨a,rfl,e,q F H _ (Gr.refl fh) (.str _)⟩)
 · obtain ⟨d,rfl,hz3⟩:=Z79 hz;obtain ⟨v,rfl,r⟩:=r0.one;cases pp : Z7c d with
   | some z' =>
    rw [pp] at hz3;cases hz3;unfold Z7c at pp;obtain ⟨p,e,hz⟩:=Z7b pp
    split at hz
    · rename_i c;cases hz;exact .inl ⟨v,p,rfl,r.dp fh d e,c.1,c.2.1,c.2.2.1,c.2.2.2,q F H _ (Gr.refl fh) (.str _)⟩
    · cases hz
   | none =>
    rw [pp] at hz3;have hz' : ZfQ d = some z:=hz3;unfold ZfQ at hz';obtain ⟨p,e,hz2⟩:=Z7b hz'
    split at hz2
    · rename_i c;cases hz2;obtain ⟨a,rfl⟩:=ZcL r e pp c.1 c.2.1;exact .inr (.inr ⟨a,p,rfl,⟨F,d,fh,r,e⟩,c.1,c.2.1,c.2.2,q F H _ (Gr.refl fh) (.str _)⟩)
    · cases hz2
theorem Z57 {X : Cx} (hg : X.A.guards = some []) (hu : X.A.units + 65 < cLine) : CallR X (.builtin "repr") (ZhH X.K):=by
 rintro pins s σ H xs us Q I r z
 rcases z with ⟨v,p,rfl,hd,h1,h2,h3,h4,q⟩ | ⟨a,rfl,e,q⟩ | ⟨a,p,rfl,⟨F,d,fh,rd,e⟩,h1,h3,h4,q⟩
 rotate_left
 rotate_left
 · obtain ⟨u,rfl,ru⟩:=r.one;cases (show u = Value.ref a from ru);obtain ⟨as,rr,n⟩:=Rep.readsQ I fh d rd ru e;exact repr_of_reads' rr h1 (fun _ => n) hg (by show X.A.units + (p.depth + 1) < cLine;omega) (fun b o z => z) (fun h' u tk k => ⟨.str _,H,I.kept k,⟨_,rfl⟩,q⟩) h3
 rotate_left
 · obtain ⟨u,rfl,ru⟩:=r.one;cases (show u = Value.ref a from ru);obtain ⟨n,rr⟩:=e.reads I.hok;exact repr_of_reads' rr rfl (fun _ y => by
    cases Yg.mp y;cases n) hg (by show X.A.units + (1 + 1) < cLine;omega) (fun b o z => z) (fun h' u tk k => ⟨.str _,H,I.kept k,⟨_,rfl⟩,q⟩) (by decide)
 obtain ⟨u,rfl,ru⟩:=r.one;cases hd with
 | non => cases (show u = Value.none from ru);exact P.repr_of_none ⟨.str _,H,I.tok _,⟨_,rfl⟩,q⟩
 | bl b => cases (show u = Value.bool b from ru);exact P.repr_of_bool ⟨.str _,H,I.tok _,⟨_,rfl⟩,q⟩
 | int i =>
  obtain ⟨t,rfl⟩:=(show ∃ t,u = Value.int i t from ru);exact P.repr_of_int (Yq h1) ⟨.str _,H,I.tok _,⟨_,rfl⟩,q⟩
 | str x =>
  obtain ⟨t,rfl⟩:=(show ∃ t,u = Value.str x t from ru);exact P.repr_of_str ⟨.str _,H,I.tok _,⟨_,rfl⟩,q⟩ h3
 | lst hs ha =>
  rename_i a xs ds;obtain ⟨as,rr⟩:=Dp.reads I (.list ds) _ u (.lst hs ha) ru;cases (show u = Value.ref a from ru);exact repr_of_reads' rr h1 (PyData.noDict_hsm h2) hg (by omega) (fun b o z => z) (fun h' u tk k => ⟨.str _,H,I.kept k,⟨_,rfl⟩,q⟩) h3
 | tup hs ha =>
  rename_i a xs ds;obtain ⟨as,rr⟩:=Dp.reads I (.tuple ds) _ u (.tup hs ha) ru;cases (show u = Value.ref a from ru);exact repr_of_reads' rr h1 (PyData.noDict_hsm h2) hg (by omega) (fun b o z => z) (fun h' u tk k => ⟨.str _,H,I.kept k,⟨_,rfl⟩,q⟩) h3
def tyN : D → Option String
 | .non => some "NoneType"
 | .bl _ => some "bool"
 | .int _ => some "int"
 | .str _ => some "str"
 | .lst _ => some "list"
 | .tup _ => some "tuple"
 | .dct _ _ => some "dict"
 | _ => none
structure IC (K : KF) (c : Str) : Prop where
 cl : Cls K (He.ga K c)
 ha : PySem.W.findIn K (.ref (He.ga K c)) "__class__" = some (some (.builtin "object.__class__"))
 hn : PySem.W.specialIn K (.builtin "object.__class__") "__get__" = some (some (.builtin "getset_descriptor.__get__"))
 tk : PySem.W.takesIn K (.builtin "object.__class__") = some true
 ob : PySem.W.mroIn K (He.ga K c) (.type "object") = some true
structure ICs (K : KF) (cs : List Str) : Prop where
 ic : ∀ c ∈ cs,IC K c
 ty : ∀ c ∈ cs,∀ T ∈ tys,PySem.W.kitOne K (.ref (He.ga K c)) (.type T) = some false
 yt : ∀ c ∈ cs,∀ T ∈ "NoneType" :: tys,PySem.W.kitOne K (.type T) (.ref (He.ga K c)) = some false
 cc : ∀ c ∈ cs,∀ c' ∈ cs,PySem.W.kitOne K (.ref (He.ga K c)) (.ref (He.ga K c')) = some (c == c')
def insT (cs : List Str) (T : String) : D → Option Bool
 | .ins c _ _ => if cs.contains c = true ∧ tys.contains T = true then some false else none
 | _ => none
def insC (cs : List Str) (c : Str) : D → Option Bool
 | .ins c' _ _ => if cs.contains c' = true then some (c' == c) else none
 | _ => none
def isi1 (cs : List Str) (x : D) : D → Option Bool
 | .ty T => match tyN x with
  | some S => kitB S T
  | none => insT cs T x
 | .cl c => if cs.contains c = true then (match tyN x with
  | some _ => some false
  | none => insC cs c x) else none
 | _ => none
def isiA (cs : List Str) (x : D) : List D → Option Bool
 | [] => some false
 | c :: r => match isi1 cs x c with
  | some true => if (isiA cs x r).isSome = true then some true else none
  | some false => isiA cs x r
  | none => none
inductive TyY (K : KF) (H : Hp) : V → Value → Prop where
 | x {v : V} {t : Value} (h : TyX K H v t) : TyY K H v t
 | fT {a : Addr} {o : Obj} {kvs : List (List Key × V)} (e : H a = some (.frz o (.dT kvs))) : TyY K H (.ref a) (.type "dict")
theorem Z9s {X : Cx} {pins : List (Addr × Obj)} {σ : L2.St} {H : Hp} {s : Shared} {x : V} {u t : Value} (I : L2.Inv X pins σ H s) (rx : RelV x u) (ty : TyY X.K H x t) : ∃ P : Heap → Prop,PySem.W.KitX X.K u t P ∧ P s.heap ∧ u ≠ .builtin "__main__.__loader__#opaque" := by
 cases ty with
 | x b => exact kit_of I rx b
 | @fT a ob kvs ea =>
  cases (show u = Value.ref a from rx);obtain ⟨_,h1,h2,_⟩:=I.frzT ea;exact ⟨_,PySem.W.kitx_dict,⟨ob,h1,h2.1⟩,fun z => nomatch z⟩
def ZhI (K : PySem.W.Frag) : List V → Hp → VK → Prop:=fun xs H Q => ∃ (x c : V) (t u : Value) (b : Bool),xs = [x,c] ∧ ClsV c u ∧ TyY K H x t ∧ PySem.W.kitOne K t u = some b ∧ Q (.bl b) H
def Zgo (K : PySem.W.Frag) : List V → Hp → VK → Prop:=fun xs H Q => ∃ (x : V) (tp : Addr) (cs : List V) (t : Value) (us : List Value) (b : Bool),xs = [x,.ref tp] ∧ H tp = some (.tup cs) ∧ Paired ClsV cs us ∧ TyY K H x t ∧ PySem.W.kitAny K t us = some b ∧ Q (.bl b) H
theorem Z2I {X : Cx} : CallR X (.builtin "isinstance") (ZhI X.K):=by
 intro pins s σ H xs us Q I r h;obtain ⟨x,c,t,u,b,rfl,k,ty,e,q⟩:=h;obtain ⟨u1,u2,rfl,r1,r2⟩:=vals2 r;have e2:=k.eq r2;subst e2;obtain ⟨P,Z,p,hx⟩:=Z9s I r1 ty;exact PySem.W.kia_one Z I.kIn p e hx fun tk => ⟨.bl b,H,I.tok tk,rfl,q⟩
theorem Z7d {X : Cx} : CallR X (.builtin "isinstance") (Zgo X.K):=by
 intro pins s σ H xs us Q I r h;obtain ⟨x,tp,cs,t,ws,b,rfl,hT,k,ty,e,q⟩:=h;obtain ⟨u1,u2,rfl,r1,r2⟩:=vals2 r;cases (show u2 = Value.ref tp from r2);obtain ⟨P,Z,p,hx⟩:=Z9s I r1 ty;obtain ⟨_,its,rv,o,h1,h2,n,h3⟩:=(show ObjOk X.prog X.w H s.heap tp (.tup cs) from I.hok tp _ hT);have e3:=ClsV.all k rv;subst e3;obtain ⟨oc,od,dt,sl⟩:=o;simp only at h2 h3;subst h2 h3;exact PySem.W.kia_tup Z I.kIn p h1 e hx fun tk => ⟨.bl b,H,I.tok tk,rfl,q⟩
theorem ZcM {K : KF} {F H : Hp} (fh : Same F H) {v : V} {d : D} {S : String} (r : Rep K F v d) (h : tyN d = some S) : TyY K H v (.type S):=by
 cases r with
 | non => cases h;exact .x (.base .non)
 | bl b => cases h;exact .x (.base (.bl b))
 | int i => cases h;exact .x (.base (.int i))
 | str x => cases h;exact .x (.base (.str x))
 | lst s z r => cases h;exact .x (.base (.lst (fh _ _ s)))
 | tup s z r =>
  cases h;rcases s with (s | ⟨o,s⟩) | ⟨o,its,n,e1,e2,_⟩
  · exact .x (.base (.tup (fh _ _ s)))
  · exact .x (.fTuple (fh _ _ s))
  · exact .x (.kTuple e1 e2)
 | dk s k r =>
  cases h;exact .x (.fDict (fh _ _ s))
 | dt s k r => cases h;exact .fT (fh _ _ s)
 | _ => cases h
theorem ZhJ {K : KF} {F H : Hp} {c : Str} {ns : List Str} {ds : List D} {v : V} (i : IC K c) (fh : Same F H) (r : Rep K F v (.ins c ns ds)) : TyY K H v (.ref (He.ga K c)):=by
 cases r with
 | ins s k n r => subst k;exact .x (.base (.ins (fh _ _ s) i.cl i.ha i.hn i.tk i.ob))
theorem Z7e {K : KF} {F H : Hp} {cs : List Str} (I : ICs K cs) (fh : Same F H) {x : D} {v : V} {c : D} {w : V} {b : Bool} (r : Rep K F v x) (rc : Rep K F w c) (h : isi1 cs x c = some b) : ∃ t u,ClsV w u ∧ TyY K H v t ∧ PySem.W.kitOne K t u = some b ∧ (∀ S,tyN x = some S → t = .type S) ∧ ((∃ c' ns ds,x = .ins c' ns ds ∧ t = .ref (He.ga K c')) ∨ ∃ S,tyN x = some S):=by
 cases rc with
 | ty T =>
  cases q : tyN x with
  | some S =>
   have h' : kitB S T = some b:=by
    have : isi1 cs x (.ty T) = kitB S T:=by unfold isi1;rw [q]
    rw [this] at h;exact h
   exact ⟨_,_,.ty T,ZcM fh r q,kit_ty h',fun S' e => (by cases e;rfl),.inr ⟨S,rfl⟩⟩
  | none =>
   have h0 : insT cs T x = some b:=by
    have : isi1 cs x (.ty T) = insT cs T x:=by unfold isi1;rw [q]
    rw [this] at h;exact h
   cases x with
   | ins c ns ds =>
    have h' : (if cs.contains c = true ∧ tys.contains T = true then some false else none) = some b:=h0;by_cases k : cs.contains c = true ∧ tys.contains T = true
    · rw [Yj k] at h';cases h';have hc : c ∈ cs:=by simpa using k.1
      have hT : T ∈ tys:=by simpa using k.2
      exact ⟨_,_,.ty T,ZhJ (I.ic c hc) fh r,I.ty c hc T hT,fun S e => (by cases e),.inl ⟨c,ns,ds,rfl,rfl⟩⟩
    · rw [Yk k] at h';cases h'
   | _ => cases h0
 | cl c =>
  have h0 : (if cs.contains c = true then (match tyN x with
   | some _ => some false
   | none => insC cs c x) else none) = some b:=h
  by_cases k : cs.contains c = true
  · rw [Yj k] at h0;have hc : c ∈ cs:=by simpa using k
    cases q : tyN x with
    | some S =>
     simp only [q] at h0;cases h0;have hS : S ∈ "NoneType" :: tys:=by
      cases x with
      | ins _ _ _ => cases q
      | ty _ => cases q
      | cl _ => cases q
      | frl _ => cases q
      | ldc _ _ => cases q
      | _ => cases q;decide
     exact ⟨_,_,.own _,ZcM fh r q,I.yt c hc S hS,fun S' e => (by cases e;rfl),.inr ⟨S,rfl⟩⟩
    | none =>
     simp only [q] at h0;cases x with
     | ins c' ns ds =>
      have h1 : (if cs.contains c' = true then some (c' == c) else none) = some b:=h0;by_cases k2 : cs.contains c' = true
      · rw [Yj k2] at h1;cases h1;have hc' : c' ∈ cs:=by simpa using k2
        exact ⟨_,_,.own _,ZhJ (I.ic c' hc') fh r,I.cc c' hc' c hc,fun S e => (by cases e),.inl ⟨c',ns,ds,rfl,rfl⟩⟩
      · rw [Yk k2] at h1;cases h1
     | _ => cases h0
  · rw [Yk k] at h0;cases h0
 | _ => cases h
def Jz (cs : List Str) : List D → Option D
 | [x,c] => (isi1 cs x c).map .bl
 | _ => none
theorem Z7f {K : KF} {cs : List Str} (I : ICs K cs) : Z6Q K (ZhI K) (Jz cs):=by
 intro F H vs ds z Q fh r0 hz q;unfold Jz at hz
 split at hz
 · rename_i x c;obtain ⟨v,w,rfl,r1,r2⟩:=r0.two;obtain ⟨b,e,rfl⟩:=Z7a hz;obtain ⟨t,u,h1,h2,h3,_⟩:=Z7e I fh r1 r2 e;exact ⟨v,w,t,u,b,rfl,h1,h2,h3,q F H _ (Gr.refl fh) (.bl b)⟩
 · cases hz
theorem Z7g {K : KF} {F H : Hp} {cs : List Str} (I : ICs K cs) (fh : Same F H) {x : D} {v : V} (r : Rep K F v x) {t : Value} (ht : TyY K H v t) (hS : ∀ S,tyN x = some S → t = .type S) (hC : ∀ c ns ds,x = .ins c ns ds → t = .ref (He.ga K c)) : ∀ {ws : List V} {es : List D} {b : Bool},RepL K F ws es → isiA cs x es = some b → ∃ us,Paired ClsV ws us ∧ PySem.W.kitAny K t us = some b
 | _,[],b,h,e => by
  cases h;cases (show some false = some b from e);exact ⟨[],.nil,rfl⟩
 | _,c :: es,b,h,e => by
  cases h with
  | cons h1 h2 =>
   cases q : isi1 cs x c with
   | none => unfold isiA at e;simp only [q] at e;cases e
   | some k =>
    obtain ⟨t',u,k1,k2,k3,k4,k5⟩:=Z7e I fh r h1 q;have et : t' = t:=by
     rcases k5 with ⟨c',ns,ds,e1,e2⟩ | ⟨S,e1⟩
     · rw [e2,hC c' ns ds e1]
     · rw [k4 S e1,hS S e1]
    subst et;unfold isiA at e;cases k with
    | true =>
     simp only [q] at e;by_cases k : (isiA cs x es).isSome = true
     · rw [Yj k] at e;cases e;obtain ⟨b',eb⟩:=Option.isSome_iff_exists.mp k;obtain ⟨us,p1,p2⟩:=Z7g I fh r ht hS hC h2 eb;exact ⟨u :: us,.cons k1 p1,kitAny_cons k3 (fun z => by cases z) fun _ => rfl⟩
     · rw [Yk k] at e;cases e
    | false =>
     simp only [q] at e;obtain ⟨us,p1,p2⟩:=Z7g I fh r ht hS hC h2 e;exact ⟨u :: us,.cons k1 p1,kitAny_cons k3 (fun _ => p2) fun z => by cases z⟩
section
variable {X : Cx} {ios : Ios} {Wx : WX} {a e : Expr} {es : List Expr} {fa : M D} {fs : M (List D)} {p pos tpos : Pos} {k : Nat} {cs : List Str}
def Zc6 (cs : List Str) (fa : M D) (fs : M (List D)) : M D:=bnd fa fun x => bnd fs fun es => if es.isEmpty = true ∨ ¬ Z2X es.length = true then Z6x else ofO ((isiA cs x es).map .bl)
theorem ZcN (I : ICs X.K cs) (hg : Gl X "isinstance") (hm : X.mg "isinstance" = none) (ha : PP X ios Wx a fa) (hes : PL X ios Wx es fs)
    (hs1 : starEach [a,.Tuple es k tpos] X.env = (false,eval a X.env) :: starEach [.Tuple es k tpos] X.env:=by rfl) (hs2 : starEach [.Tuple es k tpos] X.env = (false,eval (.Tuple es k tpos) X.env) :: starEach [] X.env:=by rfl) :
    PP X ios Wx (.Call (.Name "isinstance" p) [a,.Tuple es k tpos] [] pos) (Zc6 cs fa fs):=by
 obtain ⟨ta,pa,ra⟩:=ha.ex;obtain ⟨ts,ps,rs⟩:=hes.ex;refine ⟨_,pe_callB Z7d hg hm rfl (pa_cons pa (pa_cons (pe_tup ps) pa_nil hs2) hs1) (he:=hs1) (hpl:=by rw [hs2];rfl),fun B F W E σ H Q S h => ?_⟩;unfold Zc6 at h;refine ra B F W E σ H _ S (Pst.seq h fun F1 W1 H1 v x E1 S1 s1 r1 h1 => ?_);refine rs B F1 W1 E1 σ H1 _ S1 (Pst.seq h1 fun F2 W2 H2 ws es E2 S2 s2 r2 h2 => ?_);by_cases hz : es.isEmpty = true ∨ ¬ Z2X es.length = true
 · rw [Yj hz] at h2;exact h2.elim
 · rw [Yk hz] at h2;have hz' : es.length ≤ sizeLine:=Yq (Classical.byContradiction fun z => hz (.inr z));refine ⟨by rw [r2.length];exact hz',fun q hq => ?_⟩;obtain ⟨z,ez,h3⟩:=h2.some;obtain ⟨b,eb,rfl⟩:=Z7a ez;have g : Gr F2 H2 (upd F2 q (.tup ws)) (upd H2 q (.tup ws)):=Gr.new S2.fh hq fun _ _ z => by cases z
   have rx:=r1.mono (s2.fx.trans g.fx) x;have re:=r2.mono g.fx es;cases es with
   | nil => exact absurd (.inl rfl) hz
   | cons c es =>
    have re0:=re;cases re with
    | cons h1' h2' =>
     have hb : ∃ k,isi1 cs x c = some k:=by
      unfold isiA at eb;cases q : isi1 cs x c with
      | none => simp only [q] at eb;cases eb
      | some k => exact ⟨k,rfl⟩
     obtain ⟨k,ek⟩:=hb;obtain ⟨t,u,k1,k2,k3,k4,k5⟩:=Z7e I g.fh rx h1' ek;obtain ⟨us,p1,p2⟩:=Z7g I g.fh rx k2 k4 (fun c' ns ds e => by
      rcases k5 with ⟨c2,ns2,ds2,e1,e2⟩ | ⟨S,e1⟩
      · rw [e1] at e;cases e;exact e2
      · rw [e] at e1;cases e1) re0 eb
     exact ⟨v,q,_,t,us,b,rfl,upd_same,p1,k2,p2,h3.grown S2 g (.bl b)⟩
end
def spX (K : KF) (c : Str) (names : List Str) : Sp:=fun vs H Q _ => ∃ a ws,vs = .ref a :: ws ∧ ws.length = names.length ∧ H a = some (exo a (He.ga K c) none) ∧
 ∀ dx,H dx = none → dx ≠ a → Q .non (upd (upd H dx (exd dx (names.zip ws).reverse)) a (exo a (He.ga K c) (some dx)))
section
variable {P : Program} {w : World} {K : KF} {mg : Str → Option Value} {base : Heap} {qual c : Str} {scope : Scope} {f : Addr} {fd : FuncData} {k : Nat} {params : Arguments}
theorem Zgp {x y1 f1 : Str} {p1 p2 p3 p4 : Pos} {sf : Str} (F : FunD K x qual params [.Assign [.Attribute (.Name sf p1) f1 p2] (.Name y1 p3) p4] scope [] [] f fd) (S : FnScope [sf,y1] [sf,y1] scope) (T : OexC K (He.ga K c)) (n1 : PySem.W.findIn K (.ref (He.ga K c)) f1 = some none)
    (v0 : scope.names.lookup sf = some .local) (v1 : scope.names.lookup y1 = some .local) (d0 : (sf == ("__debug__" : Str)) = false:=by decide) (d1 : (y1 == ("__debug__" : Str)) = false:=by decide) (e0 : (sf == ("__classdict__" : Str)) = false:=by decide) (e1 : (y1 == ("__classdict__" : Str)) = false:=by decide) :
    FnOk P w K mg base (L2.CX P w) (k + 1) f fd [sf,y1] (spX K c [f1]):=by
 refine FunD.ok F S (fun vs H Q E h => ?_) fun cdv A outer s H vs Q E hr h => ?_
 · obtain ⟨a,ws,rfl,l,_⟩:=h;show ws.length + 1 = 2;rw [l];rfl
 · refine ⟨_,pss_one (ps_ost (pe_var (i:=0) rfl (.inl v0) d0 e0) (pe_var (i:=1) rfl (.inl v1) d1 e1)), ?_⟩;obtain ⟨a,ws,rfl,l,ha,q⟩:=h
   match ws,l with
   | [z],_ => exact ⟨z,rfl,.ref a,rfl,a,_,rfl,T,n1,.inl ⟨ha,fun dx h1 h2 => q dx h1 h2⟩⟩
theorem Ziv {x y1 f1 y2 f2 : Str} {p1 p2 p3 p4 p5 p6 p7 p8 : Pos} {sf : Str} (F : FunD K x qual params [.Assign [.Attribute (.Name sf p1) f1 p2] (.Name y1 p3) p4,.Assign [.Attribute (.Name sf p5) f2 p6] (.Name y2 p7) p8] scope [] [] f fd) (S : FnScope [sf,y1,y2] [sf,y1,y2] scope) (T : OexC K (He.ga K c))
    (n1 : PySem.W.findIn K (.ref (He.ga K c)) f1 = some none) (n2 : PySem.W.findIn K (.ref (He.ga K c)) f2 = some none)
    (v0 : scope.names.lookup sf = some .local) (v1 : scope.names.lookup y1 = some .local) (v2 : scope.names.lookup y2 = some .local) (d0 : (sf == ("__debug__" : Str)) = false:=by decide) (d1 : (y1 == ("__debug__" : Str)) = false:=by decide) (d2 : (y2 == ("__debug__" : Str)) = false:=by decide)
    (e0 : (sf == ("__classdict__" : Str)) = false:=by decide) (e1 : (y1 == ("__classdict__" : Str)) = false:=by decide) (e2 : (y2 == ("__classdict__" : Str)) = false:=by decide) :
    FnOk P w K mg base (L2.CX P w) (k + 1) f fd [sf,y1,y2] (spX K c [f1,f2]):=by
 refine FunD.ok F S (fun vs H Q E h => ?_) fun cdv A outer s H vs Q E hr h => ?_
 · obtain ⟨a,ws,rfl,l,_⟩:=h;show ws.length + 1 = 3;rw [l];rfl
 · refine ⟨_,pss_cons (ps_ost (pe_var (i:=0) rfl (.inl v0) d0 e0) (pe_var (i:=1) rfl (.inl v1) d1 e1)) (pss_one (ps_ost (pe_var (i:=0) rfl (.inl v0) d0 e0) (pe_var (i:=2) rfl (.inl v2) d2 e2))), ?_⟩;obtain ⟨a,ws,rfl,l,ha,q⟩:=h
   match ws,l with
   | [z,z2],_ =>
    refine ⟨z,rfl,.ref a,rfl,a,_,rfl,T,n1,.inl ⟨ha,fun dx h1 h2 => ?_⟩⟩;refine ⟨z2,rfl,.ref a,rfl,a,_,rfl,T,n2,.inr ⟨dx,[(f1,z)],upd_same, ?_,by show 1 ≤ 900;decide, ?_⟩⟩
    · rw [upd_ne h2,upd_same]
    · have e : upd (upd (upd H dx (exd dx [(f1,z)])) a (exo a (He.ga K c) (some dx))) dx (exd dx ((f2,z2) :: [(f1,z)])) = upd (upd H dx (exd dx ([f1,f2].zip [z,z2]).reverse)) a (exo a (He.ga K c) (some dx)):=by
        funext b
        by_cases c1 : b = dx
        · subst c1;rw [upd_same,upd_ne h2,upd_same];rfl
        · rw [upd_ne c1];by_cases c2 : b = a
          · subst c2;rw [upd_same,upd_same]
          · rw [upd_ne c2,upd_ne c1,upd_ne c2,upd_ne c1]
      show _;rw [e];exact q dx h1 h2
end
def Z3K (c : Str) (names : List Str) (fs : M (List D)) : G:=Jf fs fun ds E => if ds.length = names.length then .er ⟨c,names.reverse,ds.reverse⟩ E else .stk
theorem RepL.zipv {K : KF} {F : Hp} : ∀ {ns : List Str} {ws : List V} {ds : List D},RepL K F ws ds → ds.length = ns.length → (ns.zip ws).map (·.1) = ns ∧ (ns.zip ws).map (·.2) = ws
 | [],ws,ds,h,e => by
  cases h with
  | nil => exact ⟨rfl,rfl⟩
  | cons _ _ => cases e
 | n :: ns,ws,ds,h,e => by
  cases h with
  | nil => cases e
  | cons h1 h2 =>
   obtain ⟨a,b⟩:=RepL.zipv (ns:=ns) h2 (by simpa using e);rw [List.zip_cons_cons,List.map_cons,List.map_cons,a,b];exact ⟨rfl,rfl⟩
section
variable {X : Cx} {ios : Ios} {Wx : WX} {e : Expr} {es : List Expr} {fs : M (List D)} {p pos pos' : Pos} {c x : Str} {names ps : List Str} {fI : Addr} {fd : FuncData} {k : Nat}
theorem Z3L (hc : X.calm = true) (tk : Takes X Wx) (T : OexC X.K (He.ga X.K c)) (iC : PySem.W.findIn X.K (.ref (He.ga X.K c)) "__init__" = some (some (.ref fI))) (tI : PySem.W.typeIn X.K (.ref fI) = some (.type "function")) (F1 : FnOk X.prog X.w X.K X.mg X.base (L2.CX X.prog X.w) k fI fd ps (spX X.K c names))
    (hr : Room (k + 1) X.A) (hb : Binds X.K fd ps []) (hg : Gl X x) (hm : X.mg x = some (.ref (He.ga X.K c))) (ha : PL X ios Wx (e :: es) fs) (hn : names.length ≤ 1000:=by decide)
    (hdb : (x == ("__debug__" : Str)) = false:=by decide) (he : starEach (e :: es) X.env = (false,eval e X.env) :: starEach es X.env:=by rfl) (hpl : (backTo pos (starEach es X.env)).any (·.1) = false:=by rfl) :
    PD X ios Wx (.Raise (some (.Call (.Name x p) (e :: es) [] pos)) none pos') (Z3K c names fs):=by
 obtain ⟨ta,pa,ra⟩:=ha.ex;refine ⟨_,ps_raise hc tk (pmk_oex T iC tI F1 hr hb .nil (passes_call tk fun _ _ _ _ z => z.elim) hg hm pa hdb he hpl),fun B F W E σ H Dn S h => ?_⟩;refine ra B F W E σ H _ S (Ju.seq h fun F1 W1 H1 vs ds E1 S1 s1 r1 h1 => ?_);by_cases hl : ds.length = names.length
 · rw [Yj hl] at h1;refine ⟨by rw [r1.length,hl];exact hn,fun a ha => ⟨a,vs,by rw [List.append_nil],by rw [r1.length];exact hl,upd_same,fun dx hdx hne => ?_⟩⟩;have hdx1 : H1 dx = none:=by rw [upd_ne hne] at hdx;exact hdx
   refine ⟨rfl,dx,_,upd_same,by rw [upd_ne hne,upd_same],hdx1, ?_⟩;have e : upd (del (upd (upd (upd H1 a (exo a (He.ga X.K c) none)) dx (exd dx (names.zip vs).reverse)) a (exo a (He.ga X.K c) (some dx))) a) dx (.xd (names.zip vs).reverse) = upd H1 dx (.xd (names.zip vs).reverse):=by
    funext b
    by_cases c1 : b = dx
    · subst c1;rw [upd_same,upd_same]
    · rw [upd_ne c1,upd_ne c1];by_cases c2 : b = a
      · subst c2;unfold del;rw [Yj rfl];exact ha.symm
      · rw [del_ne c2,upd_ne c2,upd_ne c1,upd_ne c2]
   rw [e];have z:=RepL.zipv r1 hl;exact h1 F1 W1 _ σ _ _ (S1.laid hdx1 fun _ _ z => by cases z) (Same.refl F1) ⟨rfl,.inr ⟨dx,_,rfl,upd_same,by rw [List.map_reverse,z.1],by rw [List.map_reverse,z.2];exact r1.reverse⟩⟩
 · rw [Yk hl] at h1;exact h1.elim
end
def wpe {α : Type} (l : List (Option α)) : List Nat → List (Option α)
 | [] => l
 | v :: vs => (wpe l vs).set v none
theorem ZS (σ : L2.St) : ∀ vs : List Nat,wpe σ vs = wipe σ vs
 | [] => rfl
 | v :: vs => by
  show (wpe σ vs).set v none = (wipe σ vs).set v none;rw [ZS]
theorem Z58 {α : Type} (l : List (Option α)) : ∀ vs : List Nat,(wpe l vs).length = l.length
 | [] => rfl
 | v :: vs => by
  show ((wpe l vs).set v none).length = _;rw [List.length_set,Z58]
theorem Z3M {α : Type} (l : List (Option α)) (i : Nat) : ∀ vs : List Nat,(wpe l vs)[i]? = if i ∈ vs then (l[i]?).map (fun _ => none) else l[i]?
 | [] => by simp [wpe]
 | v :: vs => by
  show ((wpe l vs).set v none)[i]? = _;rw [List.getElem?_set];by_cases c : v = i
  · subst c;rw [Yj rfl,Z58,Yj (show v ∈ v :: vs from Ya)];by_cases h : v < l.length
    · rw [Yj h,Ym h];rfl
    · rw [Yk h,List.getElem?_eq_none (by omega)];rfl
  · rw [Yk c,Z3M l i vs];by_cases m : i ∈ vs
    · rw [Yj m,Yj (Yb _ m)]
    · rw [Yk m,Yk (by simp [m];exact fun z => c z.symm)]
theorem Z9t {α : Type} {l : List (Option α)} {i : Nat} {vs : List Nat} (h : i ∉ vs) : (wpe l vs)[i]? = l[i]?:=by rw [Z3M,Yk h]
theorem Z5J {α : Type} {l : List (Option α)} {i : Nat} {vs : List Nat} {x : α} (h : (wpe l vs)[i]? = some (some x)) : i ∉ vs ∧ l[i]? = some (some x):=by
 rw [Z3M] at h;by_cases m : i ∈ vs
 · rw [Yj m] at h;cases q : l[i]? with
   | none => rw [q] at h;cases h
   | some o => rw [q] at h;cases h
 · rw [Yk m] at h;exact ⟨m,h⟩
theorem ZcO {α : Type} {l : List (Option α)} {i : Nat} {vs : List Nat} {x : Option α} (h : i ∈ vs) : wpe (l.set i x) vs = wpe l vs:=by
 apply List.ext_getElem?;intro j;rw [Z3M,Z3M];by_cases m : j ∈ vs
 · rw [Yj m,Yj m,List.getElem?_set];by_cases c : i = j
   · subst c;rw [Yj rfl];by_cases hl : i < l.length
     · rw [Yj hl,Ym hl];rfl
     · rw [Yk hl,List.getElem?_eq_none (by omega)]
   · rw [Yk c]
 · rw [Yk m,Yk m,List.getElem?_set,Yk (fun c : i = j => m (c ▸ h))]
theorem Z7h {α : Type} {l : List (Option α)} {vs : List Nat} : wpe (wpe l vs) vs = wpe l vs:=by
 apply List.ext_getElem?;intro j;rw [Z3M];by_cases m : j ∈ vs
 · rw [Yj m,Z3M,Yj m];cases l[j]? <;> rfl
 · rw [Yk m]
section
variable {K : KF} {ios : Ios} {B : Bs} {F F' : Hp} {W W' : Wm} {E : Nv} {σ σ' : L2.St} {H H' : Hp} {vs : List Nat}
theorem St.wiped (S : St K ios B F W E σ H) (hv : ∀ i ∈ vs,ios.contains i = false) : St K ios B F W (wpe E vs) (wipe σ vs) H where
 fh:=S.fh
 st:=S.st
 nz:=S.nz
 ow:=S.ow
 fr:=S.fr
 w0:=S.w0
 vr:=fun i t d h => by
  obtain ⟨m,h⟩:=Z5J h;obtain ⟨v,h1,h2⟩:=S.vr i t d h;exact ⟨v,by rw [← ZS,Z9t m];exact h1,h2⟩
 pn:=fun i v h => by
  obtain ⟨h1,h2⟩:=S.pn i v h;refine ⟨h1, ?_⟩;rw [← ZS,Z9t (fun m => by
   have:=hv i m
   replace this:=Ios.no this
   exact this h1)]
  exact h2
 ln:=by rw [← ZS,Z58,Z58];exact S.ln
 xo:=S.xo
theorem St.unwiped (S : St K ios B F W (wpe E vs) (wipe σ vs) H) : St K ios B F W (wpe E vs) σ H where
 fh:=S.fh
 st:=S.st
 nz:=S.nz
 ow:=S.ow
 fr:=S.fr
 w0:=S.w0
 vr:=fun i t d h => by
  obtain ⟨v,h1,h2⟩:=S.vr i t d h;rw [← ZS] at h1;exact ⟨v,(Z5J h1).2,h2⟩
 pn:=fun i v h => by
  obtain ⟨h1,h2⟩:=S.pn i v h;rw [← ZS] at h2;exact ⟨h1,(Z5J h2).2⟩
 ln:=by rw [S.ln,← ZS,Z58]
 xo:=S.xo
theorem St.over {p : Addr} {u : HO} (S : St K ios B F W E σ H) (hF : F p = none) (hW : W p = none) (hB : B.H0 p = none) (hu : ∀ ob z,u ≠ .frz ob z) (hq : ∀ o,H p = some o → ¬ TCo o) : St K ios B F W E σ (upd H p u) where
 fh:=fun a o h => by rw [upd_ne (fun c => by subst c;rw [hF] at h;cases h)];exact S.fh a o h
 st:=by
  have s:=S.st;refine ⟨s.fx,s.fn,s.wx,s.wn,fun a o h n tn => ?_,fun a o h => ?_,fun a o f h => ?_,fun P q tw => ?_⟩
  · rw [upd_ne (fun c => by subst c;rw [hB] at h;cases h)];exact s.hx a o h n tn
  · rw [upd_ne (fun c => by subst c;rw [hB] at h;cases h)];exact s.hd a o h
  · rw [upd_ne (fun c => by subst c;rw [hB] at h;cases h)];exact s.fk a o f h
  · have tw':=s.tb P q tw;exact tw'.of tw'.1 (fun _ _ n _ => n) fun a o ha _ c => by rw [upd_ne (fun z => hq o (by rw [← z];exact ha) c)];exact ha
 nz:=fun a ob z e => by
  by_cases c : a = p
  · subst c;rw [upd_same] at e;exact absurd (Option.some.inj e) (hu _ _)
  · rw [upd_ne c] at e;exact S.nz a ob z e
 ow:=fun a l h => by
  rw [upd_ne (fun c => by subst c;rw [hW] at h;cases h)];exact S.ow a l h
 fr:=S.fr
 w0:=S.w0
 vr:=fun i t d h => by
  obtain ⟨v,h1,h2⟩:=S.vr i t d h;exact ⟨v,h1,h2.keep (Same.refl F) (fun _ _ q => q) fun a l o w q => by rw [upd_ne (fun c => by subst c;rw [hW] at w;cases w)];exact q⟩
 pn:=S.pn
 ln:=S.ln
 xo:=S.xo
theorem Stp.over {p : Addr} {u : HO} (s : Stp F W H F' W' H') (h : H p = none) (hq : ∀ o,H' p = some o → ¬ TCo o) : Stp F W H F' W' (upd H' p u) :=
 ⟨s.fx,s.fn,s.wx,s.wn,fun a o e n tn => by rw [upd_ne (fun c => by subst c;rw [h] at e;cases e)];exact s.hx a o e n tn,fun a o e => by rw [upd_ne (fun c => by subst c;rw [h] at e;cases e)];exact s.hd a o e,fun a o f e => by rw [upd_ne (fun c => by subst c;rw [h] at e;cases e)];exact s.fk a o f e,fun P q tw => by
  have tw':=s.tb P q tw;exact tw'.of tw'.1 (fun _ _ n _ => n) fun a o ha _ c => by rw [upd_ne (fun z => hq o (by rw [← z];exact ha) c)];exact ha⟩
theorem Z4F {H : Hp} {p : Addr} (e : H p = none) : ∀ o,H p = some o → ¬ TCo o:=fun o h => by rw [e] at h;cases h
theorem Z4k {H : Hp} {p : Addr} {u : HO} (e : H p = some u) (n : nxo u = true) : ∀ o,H p = some o → ¬ TCo o:=fun o h => by rw [e] at h;cases h;exact Z6U n
theorem Stp.stays {p : Addr} {u : HO} (s : Stp F W H F' W' H') (fh : Same F' H') (hu : nxo u = true) (hF : F p = none) (hW : W p = none) (hH : H p = some u) : F' p = none ∧ W' p = none ∧ H' p = some u:=by
 refine ⟨s.nf fh hF hH (s.hx p u hH hW (Z1y hu)) hu, ?_,s.hx p u hH hW (Z1y hu)⟩;cases q : W' p with
 | none => rfl
 | some l =>
  rcases s.wn p l q with z | z
  · rw [hW] at z;cases z
  · rw [hH] at z;cases z
end
structure PTw (X : Cx) (ios : Ios) (vs : List Nat) (tg : Expr) (h : D → Nv → Option Nv) : Prop where
 ex : ∃ g : TG,PG X tg g ∧ ∀ B F W E E' σ H v d Q,St X.K ios B F W E σ H → Rep X.K F v d → h d E = some E' → (∀ σ' W',St X.K ios B F W' E' σ' H → Stp F W H F W' H → wipe σ' vs = wipe σ vs → Q σ' H) → g v σ H Q
structure PTws (X : Cx) (ios : Ios) (vs : List Nat) (tgs : List Expr) (h : List D → Nv → Option Nv) : Prop where
 ex : ∃ g : TGs,PGs X tgs g ∧ ∀ B F W E E' σ H ws ds Q,St X.K ios B F W E σ H → RepL X.K F ws ds → h ds E = some E' → (∀ σ' W',St X.K ios B F W' E' σ' H → Stp F W H F W' H → wipe σ' vs = wipe σ vs → Q σ' H) → g ws σ H Q
section
variable {X : Cx} {ios : Ios} {vs : List Nat} {tg : Expr} {es tgs : List Expr} {pos : Pos}
theorem Zj {i : Nat} {x : Str} (hN : X.N.Nodup) (hi : X.N[i]? = some x) (hx : Loc X.env.scope x) (hio : ios.contains i = false) (hv : i ∈ vs) (hf : X.fn x = true ∨ X.env.scope.names.lookup x = some .local:=by first | exact .inl rfl | exact .inr rfl | assumption) : PTw X ios vs (.Name x pos) (Jd i):=by
 refine ⟨_,pg_name hN hi hx hf,fun B F W E E' σ H v d Q S r h k => ?_⟩;cases h;refine k _ W (S.put hio (Wr:=Dl.noW) (p:=(.sh,d)) Fresh.no r) (Stp.refl _ _ _) ?_;rw [← ZS,← ZS,ZcO hv]
theorem Z4l : PTws X ios vs [] tgN:=by
 refine ⟨_,pgs_nil,fun B F W E E' σ H ws ds Q S r h k => ?_⟩;cases ds with
 | nil => cases r;cases h;exact ⟨rfl,k σ W S (Stp.refl _ _ _) rfl⟩
 | cons d ds => cases h
theorem Zs {h : D → Nv → Option Nv} {hs : List D → Nv → Option Nv} (h1 : PTw X ios vs tg h) (h2 : PTws X ios vs tgs hs) (hs' : (assignEach (tg :: tgs) X.env).map (·.2) = assign tg X.env :: (assignEach tgs X.env).map (·.2):=by rfl) : PTws X ios vs (tg :: tgs) (tgC h hs):=by
 obtain ⟨g1,p1,r1⟩:=h1.ex;obtain ⟨g2,p2,r2⟩:=h2.ex;refine ⟨_,pgs_cons p1 p2 hs',fun B F W E E' σ H ws ds Q S r hh k => ?_⟩;cases ds with
 | nil => cases hh
 | cons d ds =>
  cases r with
  | cons q1 q2 =>
   obtain ⟨E1,e1,hh'⟩:=Z7b (show (h d E).bind (hs ds) = some E' from hh);exact ⟨_,_,rfl,r1 B F W E E1 σ H _ d _ S q1 e1 fun σ1 W1 S1 t1 w1 => r2 B F W1 E1 E' σ1 H _ ds Q S1 q2 hh' fun σ2 W2 S2 t2 w2 => k σ2 W2 S2 (t1.trans t2) (w2.trans w1)⟩
theorem Z6B {n k : Nat} {hs : List D → Nv → Option Nv} (hc : X.calm = true) (h : PTws X ios vs es hs) (hn : (assignEach es X.env).length = n:=by rfl) (hst : (assignEach es X.env).findIdx? (·.1) = none:=by rfl) : PTw X ios vs (.Tuple es k pos) (tgT n hs):=by
 obtain ⟨g,p,r⟩:=h.ex;refine ⟨_,PG.or (pg_tup hc p hn hst) (pg_unl hc p hn hst),fun B F W E E' σ H v d Q S rr hh kk => ?_⟩;cases d <;> first | (cases hh;done) | skip
 · rename_i ds;have hh' : (if ds.length = n then hs ds E else none) = some E':=hh;by_cases c : ds.length = n
   · rw [Yj c] at hh';cases rr with
     | lst s z q => exact .inr ⟨_,_,rfl,SqL.of (S.fh _ _ s),by rw [q.length];exact c,r B F W E E' σ H _ ds Q S q hh' kk⟩
   · rw [Yk c] at hh';cases hh'
 · rename_i ds;have hh' : (if ds.length = n then hs ds E else none) = some E':=hh;by_cases c : ds.length = n
   · rw [Yj c] at hh';cases rr with
     | tup s z q => exact .inl ⟨_,_,rfl,ZZc S.fh s,by rw [q.length];exact c,r B F W E E' σ H _ ds Q S q hh' kk⟩
   · rw [Yk c] at hh';cases hh'
end
structure PCs (X : Cx) (ios : Ios) (Wx : WX) (ifs : List Expr) (f : M Bool) : Prop where
 ex : ∃ t : TT,PTs X ifs t ∧ ∀ B F W E σ H Q,St X.K ios B F W E σ H → Pst X.K ios B Wx σ (fun _ (b : Bool) a => b = a) F W H (f E) Q → t σ H Q
theorem Z2J {X : Cx} {ios : Ios} {Wx : WX} : PCs X ios Wx [] (Zr true):=⟨tYes,pts_nil,fun B F W E σ H Q S h => h.done S rfl⟩
theorem Z3h {X : Cx} {ios : Ios} {Wx : WX} {c : Expr} {f : M Bool} (h : PB X ios Wx c f) : PCs X ios Wx [c] f:=by
 obtain ⟨t,p,r⟩:=h.ex;exact ⟨t,pts_one p,r⟩
abbrev Bi:=Shared × Hp × Addr × List (Str × Addr) × List Addr
abbrev bx (X : Cx) (scope : Scope) (i : Bi) : Cx:=X.blk i.1 i.2.1 scope (compEnvC scope i.2.2.2.1 i.2.2.1 X.env) i.2.2.2.2
abbrev W0x : WX:=fun _ _ _ _ => False
section
variable {X : Cx} {ios : Ios} {vs : List Nat} {scope : Scope} {tg elt : Expr} {ifs : List Expr}
theorem ZcP {f : M D} (h : ∀ i,PP (bx X scope i) ios W0x elt f) : ∃ t : TE,(∀ i,PE (bx X scope i) elt t) ∧ ∀ B F W E σ H Q,St X.K ios B F W E σ H → Pst X.K ios B W0x σ (Rep X.K) F W H (f E) Q → t σ H Q :=
 ⟨fun σ H Q => ∀ i,(h i).ex.choose σ H Q,fun i => ⟨fun pins s σ H Q I q => (h i).ex.choose_spec.1.run pins s σ H Q I (q i)⟩,fun B F W E σ H Q S p i => (h i).ex.choose_spec.2 B F W E σ H Q S p⟩
theorem Z8B {f : M Bool} (h : ∀ i,PCs (bx X scope i) ios W0x ifs f) : ∃ t : TT,(∀ i,PTs (bx X scope i) ifs t) ∧ ∀ B F W E σ H Q,St X.K ios B F W E σ H → Pst X.K ios B W0x σ (fun _ (b : Bool) a => b = a) F W H (f E) Q → t σ H Q :=
 ⟨fun σ H Q => ∀ i,(h i).ex.choose σ H Q,fun i => ⟨fun pins s σ H Q I q => (h i).ex.choose_spec.1.run pins s σ H Q I (q i)⟩,fun B F W E σ H Q S p i => (h i).ex.choose_spec.2 B F W E σ H Q S p⟩
theorem Z8C {asg : D → Nv → Option Nv} (h : ∀ i,PTw (bx X scope i) ios vs tg asg) : ∃ g : TG,(∀ i,PG (bx X scope i) tg g) ∧ ∀ B F W E E' σ H v d Q,St X.K ios B F W E σ H → Rep X.K F v d → asg d E = some E' → (∀ σ' W',St X.K ios B F W' E' σ' H → Stp F W H F W' H → wipe σ' vs = wipe σ vs → Q σ' H) → g v σ H Q :=
 ⟨fun v σ H Q => ∀ i,(h i).ex.choose v σ H Q,fun i => ⟨fun pins s σ H v u Q I r q => (h i).ex.choose_spec.1.run pins s σ H v u Q I r (q i)⟩,fun B F W E E' σ H v d Q S r e k i => (h i).ex.choose_spec.2 B F W E E' σ H v d Q S r e k⟩
end
def Z4G (asg : D → Nv → Option Nv) (cond : M Bool) (elt : M D) (vs : List Nat) : List D → List D → Nv → Rs (List D)
 | [],acc,E => .ok acc (wpe E vs)
 | d :: ds,acc,E => match asg d (wpe E vs) with
  | none => .stk
  | some E1 => match cond E1 with
   | .ok true E2 => (match elt E2 with
    | .ok y E3 => if acc.length < sizeLine then Z4G asg cond elt vs ds (acc ++ [y]) E3 else .stk
    | _ => .stk)
   | .ok false E2 => Z4G asg cond elt vs ds acc E2
   | _ => .stk
def Z31 (f : M (List D)) (asg : D → Nv → Option Nv) (cond : M Bool) (elt : M D) (vs : List Nat) : M Ent:=bnd f fun ds => bnd (Z4G asg cond elt vs ds []) fun xs => Zr (.l .sh,.lst xs)
section
variable {X : Cx} {ios : Ios} {Wx : WX} {tg iter elt : Expr} {ifs : List Expr} {scope : Scope} {own : List (Str × Nat)} {pos : Pos} {f : M (List D)} {asg : D → Nv → Option Nv} {cond : M Bool} {fe : M D}
theorem Z7i {wi : TI} {g : TG} {tt : TT} {te : TE} {vs : List Nat} (hv : ∀ i ∈ vs,ios.contains i = false) (ri : ∀ B F W E σ H R,Dl.St X.K ios B F W E σ H → Pst X.K ios B Wx σ (fun F' (J : It) ds => Wlk X.K J ds F') F W H (f E) R → wi σ H R)
    (rg : ∀ B F W E E' σ H v d Q,Dl.St X.K ios B F W E σ H → Rep X.K F v d → asg d E = some E' → (∀ σ' W',Dl.St X.K ios B F W' E' σ' H → Stp F W H F W' H → wipe σ' vs = wipe σ vs → Q σ' H) → g v σ H Q)
    (rt : ∀ B F W E σ H Q,Dl.St X.K ios B F W E σ H → Pst X.K ios B W0x σ (fun _ (b : Bool) a => b = a) F W H (cond E) Q → tt σ H Q) (re : ∀ B F W E σ H Q,Dl.St X.K ios B F W E σ H → Pst X.K ios B W0x σ (Rep X.K) F W H (fe E) Q → te σ H Q)
    (B : Bs) (F : Hp) (W : Wm) (E : Nv) (σ : L2.St) (H : Hp) (Q : VK) (S : Dl.St X.K ios B F W E σ H) (h : Jy X.K ios B Wx σ F W H (Z31 f asg cond fe vs E) Q) : tLc wi g tt te vs σ H Q:=by
 refine ri B F W E σ H _ S (Jy.seq h fun F1 W1 H1 J ds E1 S1 s1 wl h1 Dd hD => ?_);have dF:=S1.fh.free hD;have dW:=S1.noW hD;have dB:=S1.st.back hD;refine ⟨fun i m Hn => m = ds.length - i ∧ i ≤ ds.length ∧ ∃ F' W' E' acc av,St X.K ios B F' W' (wpe E' vs) (wipe σ vs) Hn ∧ Stp F1 W1 H1 F' W' Hn ∧ F' Dd = none ∧ W' Dd = none ∧ Hn Dd = some (.lst av) ∧ RepL X.K F' av acc ∧ acc.length ≤ sizeLine ∧ Jy X.K ios B Wx σ F1 W1 H1 (bnd (Z4G asg cond fe vs (ds.drop i) acc) (fun xs => Zr (.l .sh,.lst xs)) E') Q,
  ⟨ds.length,by simp,Nat.zero_le _,F1,W1,E1,[],[],(S1.over dF dW dB (fun _ _ z => by cases z) (Z4F hD)).wiped hv,(Stp.refl _ _ _).over hD (Z4F hD),dF,dW,upd_same,.nil,Nat.zero_le _,h1⟩, ?_⟩
 rintro i m Hn ⟨rfl,hi,F',W',E',acc,av,S',st',nF,nW,eD,ra,za,k⟩
 by_cases hlt : i < ds.length
 · refine .inr ⟨wl.go i F' Hn st'.fx S'.fh hlt,fun H2 => ∃ F' W' E' acc av,St X.K ios B F' W' (wpe E' vs) (wipe σ vs) H2 ∧ Stp F1 W1 H1 F' W' H2 ∧ F' Dd = none ∧ W' Dd = none ∧ H2 Dd = some (.lst av) ∧ RepL X.K F' av acc ∧ acc.length ≤ sizeLine ∧ Jy X.K ios B Wx σ F1 W1 H1 (bnd (Z4G asg cond fe vs (ds.drop (i + 1)) acc) (fun xs => Zr (.l .sh,.lst xs)) E') Q,fun H2 q => ⟨ds.length - (i + 1),by omega,rfl,hlt,q⟩,fun x H2 hy => ?_⟩;have ed : ds[i]? = some ds[i]:=Ym hlt;obtain ⟨F2,gr,rx⟩:=wl.yld i F' Hn x H2 _ st'.fx S'.fh hy ed;have S2:=S'.grow gr;have t2:=st'.trans (gr.stp W');obtain ⟨nF2,nW2,eD2⟩:=(gr.stp W').stays gr.fh rfl nF nW eD;rw [List.drop_eq_getElem_cons hlt] at k;unfold bnd Z4G at k;cases q1 : asg ds[i] (wpe E' vs) with
   | none => simp only [q1] at k;exact k.elim
   | some E3 =>
    simp only [q1] at k;refine rg B F2 W' _ E3 (wipe σ vs) H2 x _ _ S2 rx q1 fun σ3 W3 S3 t3 w3 => ⟨by rw [w3,← ZS,← ZS,Z7h], ?_⟩;have t3':=t2.trans t3;obtain ⟨nF3,nW3,eD3⟩:=t3.stays S3.fh rfl nF2 nW2 eD2;have w3' : wipe σ3 vs = wipe σ vs:=by rw [w3,← ZS,← ZS,Z7h]
    refine rt B F2 W3 E3 σ3 H2 _ S3 ?_;cases q2 : cond E3 with
    | er z E4 => simp only [q2] at k;exact k.elim
    | stk => simp only [q2] at k;exact k.elim
    | ok b E4 =>
     intro F4 W4 H4 b' S4 t4 eb;subst eb;have t4':=t3'.trans t4;obtain ⟨nF4,nW4,eD4⟩:=t4.stays S4.fh rfl nF3 nW3 eD3;cases b' with
     | false =>
      simp only [q2] at k;refine ⟨F4,W4,E4,acc,av, ?_,t4',nF4,nW4,eD4,RepL.mono (gr.fx.trans t4.fx) acc ra,za,k⟩;have:=S4.wiped hv;rw [w3'] at this;exact this
     | true =>
      simp only [q2] at k;show te σ3 H4 _;refine re B F4 W4 E4 σ3 H4 _ S4 ?_;cases q3 : fe E4 with
      | er z E5 => simp only [q3] at k;exact k.elim
      | stk => simp only [q3] at k;exact k.elim
      | ok y E5 =>
       simp only [q3] at k;intro F5 W5 H5 yv S5 t5 ry;obtain ⟨nF5,nW5,eD5⟩:=t5.stays S5.fh rfl nF4 nW4 eD4;by_cases hz : acc.length < sizeLine
       · rw [Yj hz] at k;have ra5 : RepL X.K F5 av acc:=RepL.mono (gr.fx.trans (t4.fx.trans t5.fx)) acc ra;refine ⟨av,eD5,by rw [ra.length];exact hz,F5,W5,E5,acc ++ [y],av ++ [yv], ?_,(t4'.trans t5).over hD (Z4k eD5 rfl),nF5,nW5,upd_same,ra5.app (.cons ry .nil),by rw [Yh,Yr];exact hz,k⟩;have:=(S5.wiped hv).over (p:=Dd) (u:=.lst (av ++ [yv])) nF5 nW5 dB (fun _ _ z => by cases z) (Z4k eD5 rfl);rw [w3'] at this;exact this
       · rw [Yk hz] at k;exact k.elim
 · have e : i = ds.length:=by omega
   subst e;rw [List.drop_length] at k;refine .inl ⟨wl.stop _ F' Hn st'.fx S'.fh (Nat.le_refl _), ?_⟩;refine k F' W' Hn (.ref Dd) (oneW Dd) S'.unwiped st' (fun a l z => ?_) (Jm.lsh (Z4C Dd) eD za ra);obtain ⟨rfl,_⟩:=Z6W z;exact ⟨hD,nW,nF,_,eD,rfl⟩
theorem Z8n (hc : X.calm = true) (hN : X.N.Nodup) (hi : PIt X ios Wx tg iter f) (ok : BlkOk X.N X.env.scope scope own) (hv : ∀ i ∈ own.map (·.2),ios.contains i = false) (hg : ∀ i,PTw (bx X scope i) ios (own.map (·.2)) tg asg) (ht : ∀ i,PCs (bx X scope i) ios W0x ifs cond) (he : ∀ i,PP (bx X scope i) ios W0x elt fe)
    (hs : ∀ x,foldedSetIterable iter X.env x = pure x:=by intro _;rfl) : PO X ios Wx (.ListComp elt [⟨tg,iter,ifs,0⟩] scope pos) (Z31 f asg cond fe (own.map (·.2))):=by
 obtain ⟨wi,pi,ri⟩:=hi.ex;obtain ⟨g,pg,rg⟩:=Z8C hg;obtain ⟨tt,pt,rt⟩:=Z8B ht;obtain ⟨te,pe,re⟩:=ZcP he;exact ⟨_,pe_lc hc hN pi ok (fun s H C cl fp => pg (s,H,C,cl,fp)) (fun s H C cl fp => pt (s,H,C,cl,fp)) (fun s H C cl fp => pe (s,H,C,cl,fp)) hs,Z7i hv ri rg rt re⟩
theorem Z4H {i : Nat} {y : Str} {py spos : Pos} (hc : X.calm = true) (hN : X.N.Nodup) (hy : X.N[i]? = some y) (hyl : X.env.scope.names.lookup y = some .local) (hio : ios.contains i = false) (hsw : swapsWith (.ListComp elt [⟨tg,iter,ifs,0⟩] scope pos) (some (.Name y py)) spos.line X.env = pure true)
    (hi : PIt X ios Wx tg iter f) (ok : BlkOk X.N X.env.scope scope own) (hv : ∀ i ∈ own.map (·.2),ios.contains i = false) (hg : ∀ i,PTw (bx X scope i) ios (own.map (·.2)) tg asg) (ht : ∀ i,PCs (bx X scope i) ios W0x ifs cond) (he : ∀ i,PP (bx X scope i) ios W0x elt fe)
    (hs : ∀ x,foldedSetIterable iter X.env x = pure x:=by intro _;rfl) : PD X ios Wx (.Assign [.Name y py] (.ListComp elt [⟨tg,iter,ifs,0⟩] scope pos) spos) (Jh i (Z31 f asg cond fe (own.map (·.2)))):=by
 obtain ⟨wi,pi,ri⟩:=hi.ex;obtain ⟨g,pg,rg⟩:=Z8C hg;obtain ⟨tt,pt,rt⟩:=Z8B ht;obtain ⟨te,pe,re⟩:=ZcP he;refine ⟨_,ps_setLc hc hN hy hyl hsw pi ok (fun s H C cl fp => pg (s,H,C,cl,fp)) (fun s H C cl fp => pt (s,H,C,cl,fp)) (fun s H C cl fp => pe (s,H,C,cl,fp)) hs,fun B F W E σ H D S k => ?_⟩;refine Z7i (Wx:=Wx) hv ri rg rt re B F W E σ H _ S (Ju.seqO k fun F1 W1 H1 v d E1 Wr S1 s1 fr rr k1 => ?_);exact k1 F1 _ H1 _ (S1.put hio (fun a l z => by
  obtain ⟨z1,z2⟩:=fr a l z;exact ⟨S.st.back z1,z2⟩) rr) (Same.refl F1)
end
def ZhK (n : Nat) (m : Fm) : Prop:=∀ ns : List Int,ns.length ≤ n → (∀ k ∈ ns,Builtin.Int.intBits k ≤ 1048576) → ∃ E,m [(.sh,.frl ns)] = .ok (.sh,.bl true) E
def lone (K : KF) (a : Addr) (o : Obj) (ns : List Int) : Hp:=fun b => if b = a then (match K.lookup a with
 | some _ => none
 | none => some (.frz o (.lst (ns.map V.int)))) else none
theorem Z9u {K : KF} {a b : Addr} {o : Obj} {ns : List Int} {u : HO} (h : lone K a o ns b = some u) : b = a ∧ K.lookup a = none ∧ u = .frz o (.lst (ns.map V.int)):=by
 unfold lone at h;by_cases c : b = a
 · rw [Yj c] at h;cases q : K.lookup a with
   | some x => rw [q] at h;cases h
   | none => rw [q] at h;cases h;exact ⟨c,rfl,rfl⟩
 · rw [Yk c] at h;cases h
theorem ZcQ {K : KF} {a b : Addr} {o : Obj} {ns : List Int} (h : b ≠ a) : lone K a o ns b = none:=Yk h
theorem Z8D {K : KF} : ∀ n : Nat,(∀ (u : Value) (d : D),repK n K u d = true → ∃ v,RelV v u ∧ ∀ F : Hp,Rep K F v d) ∧ (∀ (us : List Value) (ds : List D),repKs n K us ds = true → ∃ vs,Vals vs us ∧ ∀ F : Hp,RepL K F vs ds):=by
 intro n
 induction n with
 | zero =>
  constructor
  · intro u d h;unfold repK at h
    split at h
    · exact ⟨.non,rfl,fun _ => .non⟩
    · rename_i b c;have e : b = c:=by simpa using h
      subst e;exact ⟨.bl b,rfl,fun _ => .bl b⟩
    · have e:=Yq h;subst e;exact ⟨.int _,⟨_,rfl⟩,fun _ => .int _⟩
    · have e:=Yq h;subst e;exact ⟨.str _,⟨_,rfl⟩,fun _ => .str _⟩
    · rename_i z;cases z
    · cases h
  · intro us ds h;unfold repKs at h
    split at h
    · exact ⟨[],.nil,fun _ => .nil⟩
    · rename_i z;cases z
    · cases h
 | succ n ih =>
  constructor
  · intro u d h;unfold repK at h
    split at h
    · exact ⟨.non,rfl,fun _ => .non⟩
    · rename_i b c;have e : b = c:=by simpa using h
      subst e;exact ⟨.bl b,rfl,fun _ => .bl b⟩
    · have e:=Yq h;subst e;exact ⟨.int _,⟨_,rfl⟩,fun _ => .int _⟩
    · have e:=Yq h;subst e;exact ⟨.str _,⟨_,rfl⟩,fun _ => .str _⟩
    · rename_i n' a ds z;cases z
      split at h
      · rename_i dd its k sl q;obtain ⟨h1,h2⟩:=andB h;obtain ⟨vs,r1,r2⟩:=ih.2 _ _ h2;have hl:=(r2 (fun _ => none)).length;have hv:=r1.length;have z:=Yq h1;refine ⟨.ref _,rfl,fun F => .tup (.inr ⟨_,its,k,q,rfl,rfl, ?_,r1⟩) z (r2 F)⟩;rw [← Array.length_toList,← hv,hl];exact z
      · cases h
    · cases h
  · intro us ds h;unfold repKs at h
    split at h
    · exact ⟨[],.nil,fun _ => .nil⟩
    · rename_i n' u us d ds z;cases z;obtain ⟨h1,h2⟩:=andB h;obtain ⟨v,a1,a2⟩:=ih.1 _ _ h1;obtain ⟨vs,b1,b2⟩:=ih.2 _ _ h2;exact ⟨v :: vs,.cons a1 b1,fun F => .cons (a2 F) (b2 F)⟩
    · cases h
theorem ZcR {K : KF} (n : Nat) (u : Value) (d : D) (h : repK n K u d = true) : ∃ v,RelV v u ∧ ∀ F : Hp,Rep K F v d:=(Z8D n).1 u d h
theorem Zgq {K : KF} {h : Heap} {mg : Str → Option Value} {x : Str} {d : D} (X : K.In h) (G : h.Ns mainGlobals mg) (c : cstB K x d = true) : ∃ v u,mg x = some u ∧ RelV v u ∧ ∀ F : Hp,Rep K F v d:=by
 unfold cstB at c
 split at c
 · rename_i u q;obtain ⟨v,a,b⟩:=ZcR 8 u d c;exact ⟨v,u,PySem.W.mg_of X G q,a,b⟩
 · cases c
theorem Z2K {K : KF} {c : Str} (h : icB K c = true) : IC K c:=by
 obtain ⟨h1,h⟩:=andB h;obtain ⟨h2,h⟩:=andB h;obtain ⟨h3,h⟩:=andB h;obtain ⟨h4,h5⟩:=andB h;exact ⟨He.cls_ok h1,He.eqO_ok h2,He.eqO_ok h3,Yq h4,Yq h5⟩
theorem Z4m {K : KF} {cs : List Str} (h : icsB K cs = true) : ICs K cs:=by
 obtain ⟨h1,h⟩:=andB h;obtain ⟨h2,h⟩:=andB h;obtain ⟨h3,h4⟩:=andB h;exact ⟨fun c hc => Z2K (List.all_eq_true.mp h1 c hc),fun c hc T hT => Yq (List.all_eq_true.mp (List.all_eq_true.mp h2 c hc) T hT),fun c hc T hT => Yq (List.all_eq_true.mp (List.all_eq_true.mp h3 c hc) T hT),
  fun c hc c' hc' => Yq (List.all_eq_true.mp (List.all_eq_true.mp h4 c hc) c' hc')⟩
theorem ZcS {K : KF} {C : Addr} (h : oexC K C = true) : ∃ nm q N bs bm sn sub ab col dd k0 k1 k2 k3 k5,K.lookup C = some (excClassObj nm q C N bs bm true sn sub ab col dd k0 k1 k2 k3 k5 "ValueError.__new__") ∧ PySem.HandSPX.refsVE bm = true:=by
 unfold oexC at h
 split at h
 · rename_i dd cd sl q
   split at h
   · rename_i C' bm k0 k1 k2 k3 n k5 e1 e2;obtain ⟨h1,h⟩:=andB h;obtain ⟨h2,h⟩:=andB h;obtain ⟨h3,h⟩:=andB h;obtain ⟨h4,h5⟩:=andB h;have c1 : C' = C:=by simpa using h1
     have c2 : n = "ValueError.__new__" := by simpa using h2
     have c4 : cd.hasDel = false:=by simpa using h4
     have c6 : sl = #[k0,k1,k2,k3,some (.builtin n),k5]:=by
      apply Array.ext';exact e2
     subst c1 c2 c6;obtain ⟨nm,bs,mro,ns,qn,hd,sn,sub,ab,col,hdel⟩:=cd;simp only at e1 h3 c4;subst e1 h3 c4;exact ⟨nm,qn,ns,bs,bm,sn,sub,ab,col,dd,k0,k1,k2,k3,k5,q,h5⟩
   · cases h
 · cases h
theorem Z2L {K : KF} {c : Str} (h : oexB K c = true) : OexC K (He.ga K c):=by
 obtain ⟨h1,h⟩:=andB h;obtain ⟨h2,h⟩:=andB h;obtain ⟨h3,h⟩:=andB h;obtain ⟨h4,h5⟩:=andB h;exact ⟨ZcS h1,He.eqO_ok h2,Yq h3,Yq h4,h5⟩
theorem Z2m {K : KF} {c : Str} (h : oxiB K c = true) : PySem.W.findIn K (.ref (He.ga K c)) "__init__" = some (some (.ref (He.fAd K (c,some "__init__")))) ∧ PySem.W.typeIn K (.ref (He.fAd K (c,some "__init__"))) = some (.type "function"):=by
 obtain ⟨h1,h2⟩:=andB h;exact ⟨He.eqO_ok h1,Yq h2⟩
def setF (f : Str) (d : D) : List Str → List D → List Str × List D
 | n :: ns,x :: xs => if f = n then (f :: ns,d :: xs) else (n :: (setF f d ns xs).1,x :: (setF f d ns xs).2)
 | _,_ => ([f],[d])
def fldS (i : Nat) (cs : List Str) (f : Str) (fe : M D) : G:=Jf fe fun y E => match E[i]? with
 | some (some (.o,.ins c ns ds)) => if cs.contains c = true ∧ ns.length ≤ 60 then .nx (E.set i (some (.o,.ins c (setF f y ns ds).1 (setF f y ns ds).2))) else .stk
 | _ => .stk
theorem Z7j {K : KF} {F : Hp} {f : Str} {v : V} {d : D} (r : Rep K F v d) : ∀ {fs : List (Str × V)} {ds : List D},RepL K F (fs.map (·.2)) ds → (putF f v fs).map (·.1) = (setF f d (fs.map (·.1)) ds).1 ∧ RepL K F ((putF f v fs).map (·.2)) (setF f d (fs.map (·.1)) ds).2 ∧ (putF f v fs).length ≤ fs.length + 1
 | [],ds,h => by
  cases h;exact ⟨rfl,.cons r .nil,Nat.le_refl _⟩
 | (n,x) :: fs,ds,h => by
  cases h with
  | cons h1 h2 =>
   rename_i d0 ds;obtain ⟨a,b,c⟩:=Z7j r h2;by_cases e : f = n
   · subst e;have e1 : putF f v ((f,x) :: fs) = (f,v) :: fs:=by simp [putF]
     have e2 : setF f d (((f,x) :: fs).map (·.1)) (d0 :: ds) = (f :: fs.map (·.1),d :: ds):=by simp [setF]
     rw [e1,e2];exact ⟨rfl,.cons r h2,by simp⟩
   · have e0 : ¬ n = f:=fun z => e z.symm;have e1 : putF f v ((n,x) :: fs) = (n,x) :: putF f v fs:=by simp [putF,e,e0]
     have e2 : setF f d (((n,x) :: fs).map (·.1)) (d0 :: ds) = (n :: (setF f d (fs.map (·.1)) ds).1,d0 :: (setF f d (fs.map (·.1)) ds).2):=by simp [setF,e]
     rw [e1,e2];exact ⟨by rw [List.map_cons,a],.cons h1 b,by rw [List.length_cons,List.length_cons];omega⟩
section
variable {X : Cx} {ios : Ios} {Wx : WX} {e : Expr} {fe : M D} {pos npos pos' : Pos} {i : Nat} {x f : Str} {sts : List Stmt} {g : G}
theorem Z6C (i : Nat) (cs : List Str) (hN : X.N[i]? = some x) (hc : ∀ c ∈ cs,Cls X.K (He.ga X.K c) ∧ NoAttr X.K (He.ga X.K c) f) (he : PP X ios Wx e fe) (hv : Vis X.env.scope x:=by first | exact Or.inl rfl | exact Or.inr (Or.inl rfl) | exact Or.inr (Or.inr rfl)) (hd : (x == ("__debug__" : Str)) = false:=by decide) (hcd : (x == ("__classdict__" : Str)) = false:=by decide)
    (hs : swapsWith e (some (.Attribute (.Name x npos) f pos')) pos.line X.env = pure false:=by rfl) : PD X ios Wx (.Assign [.Attribute (.Name x npos) f pos'] e pos) (fldS i cs f fe):=by
 obtain ⟨te,pe,re⟩:=he.ex;refine ⟨_,ps_fld (pe_var hN hv hd hcd) pe hs,fun B F W E σ H Dn S k => ?_⟩;refine re B F W E σ H _ S (Ju.seq k fun F1 W1 H1 y dy E1 S1 s1 r1 k1 => ?_);cases q : E1[i]? with
 | none => simp only [q] at k1;exact k1.elim
 | some o =>
  cases o with
  | none => simp only [q] at k1;exact k1.elim
  | some p =>
   obtain ⟨t,d⟩:=p;obtain ⟨v,h1,h2⟩:=S1.vr i t d q;cases t with
   | sh => simp only [q] at k1;exact k1.elim
   | l t => simp only [q] at k1;exact k1.elim
   | d b t => simp only [q] at k1;exact k1.elim
   | m t => simp only [q] at k1;exact k1.elim
   | r t => simp only [q] at k1;exact k1.elim
   | g => simp only [q] at k1;exact k1.elim
   | o =>
    obtain ⟨a,C,dx,fs,c,ns,ds,rfl,rfl,w,ha,rfl,rfl,z,rr⟩:=h2;simp only [q] at k1;by_cases hz : cs.contains c = true ∧ (fs.map (·.1)).length ≤ 60
    · rw [Yj hz] at k1;have hm : c ∈ cs:=by simpa using hz.1
      have hl : fs.length ≤ 60:=by have:=hz.2;rw [Yi] at this;exact this
      obtain ⟨e1,e2,e3⟩:=Z7j (f:=f) r1 rr;refine ⟨_,h1,a,_,dx,fs,rfl,ha,(hc c hm).1,(hc c hm).2,by omega, ?_⟩;exact k1 F1 W1 _ σ (S1.mut w (fun _ _ z => by cases z) h1 ⟨a,_,dx,_,c,_,_,rfl,rfl,w,upd_same,rfl,e1,by omega,e2⟩) (Same.refl F1)
    · rw [Yk hz] at k1;exact k1.elim
end
def Z1A (W : Wm) (i : Nat) : Wm:=fun a => match W a with
 | some (j :: p) => if j = i then some p else none
 | _ => none
def Z1d (W : Wm) (i : Nat) : Wm:=fun a => match W a with
 | some (j :: p) => if j = i then none else some (j :: p)
 | o => o
theorem Z3v {W : Wm} {i : Nat} {a : Addr} {p : Lab} (h : Z1A W i a = some p) : W a = some (i :: p):=by
 unfold Z1A at h
 split at h
 · rename_i j q e;by_cases c : j = i
   · rw [Yj c] at h;cases h;subst c;exact e
   · rw [Yk c] at h;cases h
 · cases h
theorem Z2d {W : Wm} {i : Nat} {a : Addr} {p : Lab} (h : W a = some (i :: p)) : Z1A W i a = some p:=by
 unfold Z1A;rw [h];exact Yj rfl
theorem Z1B {W : Wm} {i : Nat} {a : Addr} {l : Lab} (h : Z1d W i a = some l) : W a = some l ∧ ∀ p,l ≠ i :: p:=by
 unfold Z1d at h
 split at h
 · rename_i j q e;by_cases c : j = i
   · rw [Yj c] at h;cases h
   · rw [Yk c] at h;cases h;exact ⟨e,fun p z => c (List.cons.inj z).1⟩
 · rename_i o e;refine ⟨h,fun p z => ?_⟩;subst z;exact e i p h
theorem Z3N {W : Wm} {i : Nat} {a : Addr} {l : Lab} (h : W a = some l) (hn : ∀ p,l ≠ i :: p) : Z1d W i a = some l:=by
 unfold Z1d
 split
 · rename_i j q e;rw [h] at e;cases e;rw [Yk (fun c => hn q (by rw [c]))]
 · exact h
theorem Z2M {W : Wm} {i : Nat} {a : Addr} {p : Lab} (h : W a = some (i :: p)) : Z1d W i a = none:=by
 unfold Z1d;rw [h];exact Yj rfl
section
variable {K : KF} {ios : Ios} {B : Bs} {F : Hp} {W : Wm} {E : Nv} {σ : L2.St} {H : Hp} {i : Nat}
theorem St.off (S : St K ios B F W E σ H) (hi : ios.contains i = false) : St K ios B F (Z1d W i) (E.set i none) σ H where
 fh:=S.fh
 st:=by
  have s:=S.st;refine ⟨s.fx,s.fn,fun a l h => ?_,fun a l h => s.wn a l (Z1B h).1,s.hx,s.hd,s.fk,fun P q tw => (s.tb P q tw).w fun a l z => (S.ow a l (Z1B z).1).2⟩;refine Z3N (s.wx a l h) fun p z => ?_;subst z;obtain ⟨j,q,e,hj⟩:=S.w0 a _ h;cases e
  replace hi:=Ios.no hi
  exact hi hj
 nz:=S.nz
 ow:=fun a l h => S.ow a l (Z1B h).1
 fr:=fun a l h => S.fr a l (Z1B h).1
 w0:=S.w0
 vr:=fun j t d h => by
  rw [List.getElem?_set] at h;by_cases c : i = j
  · rw [Yj c] at h
    split at h <;> cases h
  · rw [Yk c] at h;obtain ⟨v,h1,h2⟩:=S.vr j t d h;exact ⟨v,h1,Jm.keepAt (p:=[j]) (q:=[]) (Same.refl F) (fun a q z => Z3N z fun p y => c (List.cons.inj y).1.symm) (fun _ _ _ _ z => z) h2⟩
 pn:=S.pn
 ln:=by rw [List.length_set];exact S.ln
 xo:=S.xo
theorem St.freshSlot (S : St K ios B F W E σ H) (hi : ios.contains i = false) : Fresh (Z1A W i) B.H0 F (Z1d W i) H:=fun a p z => by
 have z1:=Z3v z;obtain ⟨h1,h2⟩:=S.ow a _ z1;obtain ⟨j,q,e,hj⟩:=S.fr a _ z1;cases e;refine ⟨?_,Z2M z1,h1,h2⟩;rcases hj with hj | hj
 · replace hi:=Ios.no hi
   exact absurd hj hi
 · exact hj
end
def Z9v (i : Nat) : G:=fun E => match E[i]? with
 | some (some p) => .rt p (E.set i none)
 | _ => .stk
def frzS (i : Nat) (g : G) : G:=fun E => match E[i]? with
 | some (some (_,d)) => g (E.set i (~~~d))
 | _ => g E
section
variable {X : Cx} {ios : Ios} {Wx : WX} {pos npos : Pos} {x : Str} {sts : List Stmt} {g : G}
theorem Z9w (i : Nat) (hN : X.N[i]? = some x) (hio : ios.contains i = false) (hv : Vis X.env.scope x:=by first | exact Or.inl rfl | exact Or.inr (Or.inl rfl) | exact Or.inr (Or.inr rfl)) (hd : (x == ("__debug__" : Str)) = false:=by decide) (hcd : (x == ("__classdict__" : Str)) = false:=by decide) : PD X ios Wx (.Return (some (.Name x npos)) pos) (Z9v i):=by
 refine ⟨_,ps_ret (pe_var hN hv hd hcd),fun B F W E σ H Dn S k => ?_⟩;unfold Z9v at k;cases q : E[i]? with
 | none => simp only [q] at k;exact k.elim
 | some o =>
  cases o with
  | none => simp only [q] at k;exact k.elim
  | some p =>
   simp only [q] at k;obtain ⟨t,d⟩:=p;obtain ⟨v,h1,h2⟩:=S.vr i t d q;exact ⟨v,h1,k F _ H σ v (Z1A W i) (S.off hio) (Same.refl F) (S.freshSlot hio) (Jm.relab (p:=[i]) (p':=[]) (q:=[]) (fun a q z => Z2d z) h2)⟩
theorem Z2n (i : Nat) (hio : ios.contains i = false) (h : PDs X ios Wx sts g) : PDs X ios Wx sts (frzS i g):=by
 obtain ⟨t,p,r⟩:=h.ex;refine ⟨_,ZcB p,fun B F W E σ H Dn S k => ?_⟩;have plain : t Dn σ H → ∃ p : Addr → Bool,∀ ob,t Dn σ (lkH p ob H):=fun h => ⟨fun _ => false,fun ob => by
  rw [show lkH (fun _ => false) ob H = H from funext fun a => Z20 rfl];exact h⟩
 unfold frzS at k;cases q : E[i]? with
 | none => simp only [q] at k;exact plain (r B F W E σ H Dn S k)
 | some o =>
  cases o with
  | none => simp only [q] at k;exact plain (r B F W E σ H Dn S k)
  | some pr =>
   simp only [q] at k;obtain ⟨t0,d⟩:=pr;obtain ⟨v,h1,h2⟩:=S.vr i t0 d q;have fr:=S.freshSlot hio;have S1:=S.off hio;have h3 : Jm X.K F H (Z1A W i) t0 [] v d:=Jm.relab (p:=[i]) (p':=[]) (q:=[]) (fun a q z => Z2d z) h2;refine ⟨lkP (Z1A W i),fun ob => ?_⟩;have fr':=fr.lk (p:=lkP (Z1A W i)) (ob:=ob);have S1':=S1.lk (p:=lkP (Z1A W i)) (ob:=ob) fun a z => by
    obtain ⟨l,hl⟩:=Z8v z;exact ⟨(fr a l hl).2.2.1,(fr a l hl).2.1,(fr a l hl).1⟩
   have S2 : Dl.St X.K ios B (frz F (Z1A W i) (lkH (lkP (Z1A W i)) ob H)) (Z1d W i) (E.set i none) σ (lkH (lkP (Z1A W i)) ob H):=ZaP (Stp.refl _ _ _) S1' fr';have r2 : Rep X.K (frz F (Z1A W i) (lkH (lkP (Z1A W i)) ob H)) v d:=Z9n fr' h3;refine r B _ (Z1d W i) (E.set i (~~~d)) σ _ Dn ⟨S2.fh,S2.st,S2.nz,S2.ow,S2.fr,S2.w0,fun j t d' hj => ?_,S2.pn,by rw [List.length_set];exact S.ln,S2.xo⟩ (Ju.from (Z2w fr') k);rw [List.getElem?_set] at hj;by_cases c : i = j
   · subst c;rw [Yj rfl] at hj
     split at hj
     · cases hj;exact ⟨v,h1,r2⟩
     · cases hj
   · rw [Yk c] at hj;exact S2.vr j t d' (by rw [List.getElem?_set,Yk c];exact hj)
end
def opM (g : D → D → Option D) (fa fb : M D) : M D:=bnd fa fun x => bnd fb fun y => ofO (g x y)
def cmB (g : D → D → Option D) (fa fb : M D) : M Bool:=bnd fa fun x => bnd fb fun y => ofO ((g x y).bind toB)
def chM (g g' : D → D → Option D) (fa fb fc : M D) : M D:=bnd fa fun x => bnd fb fun y => bnd (ofO ((g x y).bind toB)) fun k => if k = true then bnd fc fun z => ofO (g' y z) else Zr (.bl false)
def chB (g g' : D → D → Option D) (fa fb fc : M D) : M Bool:=bnd fa fun x => bnd fb fun y => bnd (ofO ((g x y).bind toB)) fun k => if k = true then bnd fc fun z => ofO ((g' y z).bind toB) else Zr false
def unM (g : D → Option D) (fa : M D) : M D:=bnd fa fun x => ofO (g x)
def Jg (fs : M (List D)) : M D:=bnd fs fun xs => if Z2X xs.length = true then Zr (.tup xs) else Z6x
def Jv (fs : M (List D)) : M D:=bnd fs fun xs => if Z2X xs.length = true then Zr (.lst xs) else Z6x
def Ja (fa : M D) (fs : M (List D)) : M (List D):=bnd fa fun x => bnd fs fun xs => Zr (x :: xs)
def ioM (i : Nat) (fs : M (List D)) : M (List D):=fun E => match E[i]? with
 | some (some _) => fs E
 | _ => .stk
def slM (fa : M D) (fl fh : M (Option Int)) : M D:=bnd fa fun x => bnd fl fun l => bnd fh fun u => ofO (ZaK x l u)
def ixp (fa : M D) : M (Option Int):=bnd fa fun d => bnd (ofO (asI d)) fun i => Zr (some i)
def cbM (g : List D → Option D) (fs : M (List D)) : M D:=bnd fs fun xs => ofO (g xs)
def Jc (m : Fm) (md : Md) (dds : List D) (fs : M (List D)) : M Ent:=bnd fs fun ds => Z8m m (md ++ dds.map fun _ => none) (ds ++ dds)
def mkM (m : Fm) (c : Str) (md : Md) (dds : List D) (fs : M (List D)) : M Ent:=bnd fs fun ds => Z8w m c (md ++ dds.map fun _ => none) (ds ++ dds)
def Jn (f : M D) : M (List D):=bnd f fun d => ofO (Z3u d)
def enI (fs : M (List D)) : M (List D):=bnd fs fun ds => ofO (Z5I ds)
def rg1 (fs : M (List D)) : M (List D):=bnd fs fun ds => ofO (Z3G ds)
def rg2 (fs : M (List D)) : M (List D):=bnd fs fun ds => ofO (Zcy ds)
section
variable {fa : List He.Fa} {fn : List He.DefD} {ex : List (KF → Bool)} {K : KF} {mg : Str → Option Value}
theorem Md2.cst (o : Md3 fa fn ex K mg) {x : Str} {d : D} (h : cstB K x d = true) : ∃ v u,mg x = some u ∧ RelV v u ∧ ∀ F : Hp,Rep K F v d:=by
 obtain ⟨hp,a,b⟩:=o.hp;exact Zgq a b h
end
theorem hc1 {K : KF} {c f : Str} (a : Cls K (He.ga K c)) (b : NoAttr K (He.ga K c) f) : ∀ c' ∈ [c],Cls K (He.ga K c') ∧ NoAttr K (He.ga K c') f:=fun c' h => by
 cases Yg.mp h;exact ⟨a,b⟩
end Dl
namespace Dl
theorem Zt {k : Nat} {A : PySem.Around} (hr : L2.Room k A) : A.units + 65 < PySem.cLine:=by
 have:=hr.un;omega
end Dl
namespace Dl
open PySem PySem.Spec PyProof.Rows L2
variable [Tbs]
def own2 (i : Nat) (E : Nv) : Option (List D):=match E[i]? with
 | some (some (.l (.l .sh),.lst ds)) => some ds
 | _ => none
theorem ZcT {i : Nat} {E : Nv} {ds : List D} (h : own2 i E = some ds) : E[i]? = some (some (.l (.l .sh),.lst ds)):=by
 unfold own2 at h
 split at h
 · rename_i ds' e;cases h;exact e
 · cases h
def put2 (i n : Nat) (dss : List D) (ds : List D) (E : Nv) : Nv:=E.set i (some (.l (.l .sh),.lst (dss.set n (.lst ds))))
section
variable {K : KF} {ios : Ios} {B : Bs} {F : Hp} {W : Wm} {E : Nv} {σ : L2.St} {H : Hp} {i : Nat}
theorem St.two (S : St K ios B F W E σ H) {dss : List D} (h : own2 i E = some dss) : ∃ o vs,σ[i]? = some (some (.ref o)) ∧ Two K F H W i o vs dss:=by
 obtain ⟨v,h1,h2⟩:=S.vr i _ _ (ZcT h);obtain ⟨o,vs,ds,rfl,e,w,ho,z,ln,r⟩:=h2;cases e;exact ⟨o,vs,h1,w,ho,z,ln,r⟩
variable {F2 H2 : Hp} {W2 : Wm} {E2 : Nv}
theorem St.back2 (S : St K ios B F W E σ H) (hio : ios.contains i = false) {o p : Addr} {vs ws : List V} {dss ds' : List D} {n : Nat} (hs : σ[i]? = some (some (.ref o))) (T : Two K F H W i o vs dss) (hp : W p = some [i,n]) (hv : vs[n]? = some (.ref p)) (hk : ∃ u,H p = some u)
    (S2 : St K ios B F2 W2 E2 σ H2) (t : Stp F (Z1d W i) H F2 W2 H2) (r : RepL K F2 ws ds') (z : ds'.length ≤ sizeLine) :
    St K ios B F2 (putW W2 (Z1A W i) i) (put2 i n dss ds' E2) σ (upd H2 p (.lst ws)) ∧ Stp F W H F2 (putW W2 (Z1A W i) i) (upd H2 p (.lst ws)):=by
 have stay : ∀ a q u,W a = some (i :: q) → H a = some u → F2 a = none ∧ W2 a = none ∧ H2 a = some u:=fun a q u w h => t.stays S2.fh (by obtain ⟨_,o',h1,h2⟩:=S.ow a _ w;rw [h] at h1;cases h1;exact h2) (S.ow a _ w).1 (Z2M w) h;obtain ⟨u,hu⟩:=hk;obtain ⟨pF,pW,pH⟩:=stay p [n] u hp hu;have nu : nxo u = true:=by
  obtain ⟨_,o',z1,z2⟩:=S.ow _ _ hp;rw [hu] at z1;cases z1;exact z2
 obtain ⟨oF,oW,oH⟩:=stay o [] _ T.w T.h;have hB : B.H0 p = none:=by
  obtain ⟨j,q,e,hj⟩:=S.fr p _ hp;cases e;rcases hj with hj | hj
  · replace hio:=Ios.no hio;exact absurd hj hio
  · exact hj
 have hne : o ≠ p:=fun c => by
  have w1:=T.w;rw [c,hp] at w1;cases w1
 have S3:=S2.over (u:=.lst ws) pF pW hB (fun _ _ z => by cases z) (Z4k pH nu);have fr : Fresh (Z1A W i) B.H0 F2 W2 (upd H2 p (.lst ws)):=fun a q w => by
  obtain ⟨f1,f2,f3,u',f4,f5⟩:=S.freshSlot hio a q w;obtain ⟨g1,g2,g3⟩:=stay a q u' (Z3v w) f4;refine ⟨f1,g2,g1, ?_⟩;by_cases c : a = p
  · subst c;exact ⟨_,upd_same,rfl⟩
  · exact ⟨u',by rw [upd_ne c];exact g3,f5⟩
 have own : Jm K F2 (upd H2 p (.lst ws)) (Z1A W i) (.l (.l .sh)) [] (.ref o) (.lst (dss.set n (.lst ds'))):=by
  refine ⟨o,vs,_,rfl,rfl,Z2d T.w,by rw [upd_ne hne];exact oH,by rw [List.length_set];exact T.z,by rw [List.length_set];exact T.ln,fun j v' d' e1 e2 => ?_⟩;by_cases c : n = j
  · subst c;rw [hv] at e1;cases e1;rw [List.getElem?_set_self (by rw [← T.ln];exact (Yn.mp hv).1)] at e2;cases e2;exact Jm.lsh (Z2d hp) upd_same z r
  · rw [List.getElem?_set_ne c] at e2;have h1:=T.at' j v' d' e1 e2;have h2 : Jm K F2 (upd H2 p (.lst ws)) W (.l .sh) [i,j] v' d':=Jm.keepAt (p:=[i,j]) (q:=[]) t.fx (fun a q w => w) (fun a q u' w h => by
     have w' : W a = some (i :: (j :: q)):=w;rw [upd_ne (fun ca => by subst ca;rw [hp] at w';cases w';exact c rfl)];exact (stay a _ u' w' h).2.2) h1
    exact Jm.relab (p:=[i]) (p':=[]) (q:=[j]) (fun a q w => Z2d w) h2
 have S4:=S3.put (i:=i) (v:=.ref o) (p:=(.l (.l .sh),.lst (dss.set n (.lst ds')))) hio fr own;have es : σ.set i (some (.ref o)) = σ:=by
  apply List.ext_getElem?;intro j;rw [List.getElem?_set];by_cases c : i = j
  · subst c;rw [Yj rfl,hs,Yj (Yn.mp hs).1]
  · rw [Yk c]
 rw [es] at S4;refine ⟨S4,t.fx,t.fn,fun a l w => ?_,fun a l w => ?_,fun a o' h w tn => ?_,fun a o' h => ?_,fun a o' f h => ?_,fun P q tw => ?_⟩
 · unfold putW;cases q : Z1A W i a with
   | some l' =>
    have:=Z3v q;rw [w] at this;rw [this]
   | none =>
    refine t.wx a l (Z3N w fun q' e => ?_);subst e;rw [Z2d w] at q;cases q
 · rcases Z50 w with ⟨l',w',rfl⟩ | ⟨_,w'⟩
   · exact .inl (Z3v w')
   · rcases t.wn a l w' with z1 | z1
     · exact .inl (Z1B z1).1
     · exact .inr z1
 · rw [upd_ne (fun c => by subst c;rw [hp] at w;cases w)];refine t.hx a o' h ?_ tn;unfold Z1d;rw [w]
 · by_cases c : a = p
   · subst c;exact ⟨_,upd_same⟩
   · rw [upd_ne c];exact t.hd a o' h
 · rw [upd_ne (fun c => by subst c;rw [(S.ow _ _ hp).1] at f;cases f)];exact t.fk a o' f h
 · have t1:=t.tb P q (tw.w fun a l z => (S.ow a l (Z1B z).1).2);exact (t1.of t1.1 (fun _ _ n _ => n) fun a o h _ c => by rw [upd_ne (fun z => by subst z;exact Z4k pH nu _ h c)];exact h).w fun a l z => (S4.ow a l z).2
end
def Z8E (dss : List D) : D → Option (Nat × List D)
 | .int j => match ixN dss.length j with
  | some n => match dss[n]? with
   | some (.lst ds) => some (n,ds)
   | _ => none
  | none => none
 | _ => none
theorem Z7k {dss ds : List D} {k : D} {n : Nat} (h : Z8E dss k = some (n,ds)) : ∃ j,k = .int j ∧ ixN dss.length j = some n ∧ dss[n]? = some (.lst ds):=by
 unfold Z8E at h
 split at h
 · rename_i j
   split at h
   · rename_i n' e
     split at h
     · rename_i ds' e2;cases h;exact ⟨j,rfl,e,e2⟩
     · cases h
   · cases h
 · cases h
def Z6R (i : Nat) (g : List D → List D → Option (D × List D)) (fi : M D) (fs : M (List D)) : M D:=fun E => match own2 i E with
 | some dss => (match fi (E.set i none) with
  | .ok k E1 => (match Z8E dss k with
   | some (n,ds) => (match fs E1 with
    | .ok as E2 => (match g ds as with
     | some (z,ds') => if Z2X ds'.length = true then .ok z (put2 i n dss ds' E2) else .stk
     | none => .stk)
    | _ => .stk)
   | none => .stk)
  | _ => .stk)
 | none => .stk
section
variable {X : Cx} {ios : Ios} {Wx : WX} {e ix : Expr} {es : List Expr} {fi : M D} {fs : M (List D)} {name x : Str} {id : String} {r : V → List V → Hp → VK → Prop} {g : List D → List D → Option (D × List D)} {cpos npos spos apos : Pos}
theorem Z61 (i : Nat) (hio : ios.contains i = false) (slot : Slot "list" name id) (hty : typeOf (.builtin id) = pure (.type "method_descriptor")) (hm : MtR X id r) (hr : MutD X.K r g) (hN : X.N[i]? = some x) (hi : PP X ios Wx ix fi) (ha : PL X ios Wx (e :: es) fs) (hv : Vis X.env.scope x:=by first | exact Or.inl rfl | exact Or.inr (Or.inl rfl) | exact Or.inr (Or.inr rfl)) (hd : (x == ("__debug__" : Str)) = false:=by decide) (hcd : (x == ("__classdict__" : Str)) = false:=by decide)
    (hp : PlainIx ix:=by intro _ _;rfl) (hbase : attributeBase (.Subscript (.Name x npos) ix spos) name X.env (eval (.Subscript (.Name x npos) ix spos) X.env) = eval (.Subscript (.Name x npos) ix spos) X.env:=by rfl)
    (hfew : ((backTo cpos (starEach (e :: es) X.env)).all (fun x => !x.1) && (backToKw cpos (keywordEach [] X.env)).all (fun x => x.1.isSome)
     && decide ((e :: es).length + ([] : List Keyword).length + (if ([] : List Keyword).isEmpty then 0 else 1) < 30)) = true:=by rfl)
    (hline : (apos.endLine == cpos.line) = true:=by rfl) (hs : starEach (e :: es) X.env = (false,eval e X.env) :: starEach es X.env:=by rfl) (hplain : (backTo cpos (starEach es X.env)).any (·.1) = false:=by rfl) :
    PP X ios Wx (.Call (.Attribute (.Subscript (.Name x npos) ix spos) name apos) (e :: es) [] cpos) (Z6R i g fi fs):=by
 obtain ⟨ti,pi,ri⟩:=hi.ex;obtain ⟨ta,pa,ra⟩:=ha.ex;refine ⟨_,pe_bm PySem.F.plainAttrs_list slot hty hm (pe_ix ix_seq (pe_var hN hv hd hcd) pi hp) pa hbase hfew hline hs hplain,fun B F W E σ H Q S k => ?_⟩;unfold Z6R at k;cases q : own2 i E with
 | none => simp only [q] at k;exact k.elim
 | some dss =>
  simp only [q] at k;obtain ⟨o,vs,h1,T⟩:=S.two q;have S0:=S.off hio;refine ⟨_,h1,ri B F (Z1d W i) (E.set i none) σ H _ S0 ?_⟩;cases q1 : fi (E.set i none) with
  | er z E' => simp only [q1] at k;exact k.elim
  | stk => simp only [q1] at k;exact k.elim
  | ok kd E1 =>
   simp only [q1] at k;intro F1 W1 H1 kv S1 t1 rk;cases q2 : Z8E dss kd with
   | none => simp only [q2] at k;exact k.elim
   | some nd =>
    obtain ⟨n,ds⟩:=nd;simp only [q2] at k;obtain ⟨j,rfl,e1,e2⟩:=Z7k q2;cases rk;obtain ⟨p,ws,ep,wp,hp,zp,rp⟩:=T.row e2;have stay : ∀ {F' W' H' : _} (t : Stp F (Z1d W i) H F' W' H') (fh : Same F' H') a q' u,W a = some (i :: q') → H a = some u → F' a = none ∧ W' a = none ∧ H' a = some u:=fun t fh a q' u w h => t.stays fh (by obtain ⟨_,o',h1,h2⟩:=S.ow a _ w;rw [h] at h1;cases h1;exact h2) (S.ow a _ w).1 (Z2M w) h;have oH:=(stay t1 S1.fh o [] _ T.w T.h).2.2;have pH:=(stay t1 S1.fh p [n] _ wp hp).2.2;have hat : L2.atI vs j = some (.ref p):=by
     unfold L2.atI;rw [T.ln,e1];exact ep
    refine .inl ⟨o,vs,j,.ref p,rfl,rfl,SqL.of oH,hat,.inl ⟨rfl,ws,SqL.of pH⟩,ra B F1 W1 E1 σ H1 _ S1 ?_⟩;cases q3 : fs E1 with
    | er z E' => simp only [q3] at k;exact k.elim
    | stk => simp only [q3] at k;exact k.elim
    | ok as E2 =>
     simp only [q3] at k;intro F2 W2 H2 xs S2 t2 rx;have t:=t1.trans t2;have pZ:=stay t S2.fh p [n] _ wp hp;cases q4 : g ds as with
     | none => simp only [q4] at k;exact k.elim
     | some zd =>
      obtain ⟨z,ds'⟩:=zd;simp only [q4] at k;by_cases hz : Z2X ds'.length = true
      · rw [Yj hz] at k;refine hr F2 H2 p ws ds xs as z ds' Q pZ.2.2 pZ.1 S2.fh zp (rp.mono t.fx ds) rx q4 fun v ws' r1 r2 => ?_;obtain ⟨S3,s3⟩:=S.back2 hio h1 T wp ep ⟨_,hp⟩ S2 t r2 (Yq hz);exact k F2 _ _ v S3 s3 r1
      · rw [Yk hz] at k;exact k.elim
end
theorem Fresh.stays {Wr W W' W2 : Wm} {H0 F F2 H H2 : Hp} (fr : Fresh Wr H0 F W H) (t : Stp F W H F2 W2 H2) (fh : Same F2 H2) : Fresh Wr H0 F2 W2 H2 ∧ ∀ a l u,Wr a = some l → H a = some u → H2 a = some u:=by
 refine ⟨fun a l z => ?_,fun a l u z h => ?_⟩
 · obtain ⟨z1,z2,z3,u,z4,z5⟩:=fr a l z;obtain ⟨y1,y2,y3⟩:=t.stays fh z5 z3 z2 z4;exact ⟨z1,y2,y1,u,y3,z5⟩
 · obtain ⟨z1,z2,z3,o',z4,z5⟩:=fr a l z;rw [h] at z4;cases z4;exact (t.stays fh z5 z3 z2 h).2.2
def ZaU (A R : Wm) : Wm:=fun a => match A a with
 | some p => some (0 :: p)
 | none => (match R a with
  | some (j :: p) => some ((j + 1) :: p)
  | _ => none)
theorem ZcU {A R : Wm} {a : Addr} {p : Lab} (h : A a = some p) : ZaU A R a = some (0 :: p):=by unfold ZaU;rw [h]
theorem ZcV {A R : Wm} {a : Addr} {j : Nat} {p : Lab} (h : A a = none) (h2 : R a = some (j :: p)) : ZaU A R a = some ((j + 1) :: p):=by unfold ZaU;rw [h,h2]
theorem ZaV {A R : Wm} {a : Addr} {l : Lab} (h : ZaU A R a = some l) : (∃ p,A a = some p) ∨ ∃ m,R a = some m:=by
 unfold ZaU at h;cases q : A a with
 | some p => exact .inl ⟨p,rfl⟩
 | none =>
  rw [q] at h;cases q2 : R a with
  | none => simp only [q2] at h;cases h
  | some m => exact .inr ⟨m,rfl⟩
def Z8o (R A : Wm) (n : Nat) : Wm:=fun a => match R a with
 | some l => some l
 | none => (A a).map fun p => n :: p
theorem ZcW {A R : Wm} {n : Nat} {a : Addr} {p : Lab} (h : R a = some p) : Z8o R A n a = some p:=by unfold Z8o;rw [h]
theorem ZcX {A R : Wm} {n : Nat} {a : Addr} {p : Lab} (h : R a = none) (h2 : A a = some p) : Z8o R A n a = some (n :: p):=by unfold Z8o;rw [h,h2];rfl
theorem Z7l {A R : Wm} {n : Nat} {a : Addr} {l : Lab} (h : Z8o R A n a = some l) : (∃ p,R a = some p) ∨ ∃ m,A a = some m:=by
 unfold Z8o at h;cases q : R a with
 | some p => exact .inl ⟨p,rfl⟩
 | none =>
  rw [q] at h;cases q2 : A a with
  | none => rw [q2] at h;cases h
  | some m => exact .inr ⟨m,rfl⟩
def Ziw (K : KF) (ios : Ios) (B : Bs) (Wx : WX) (σ : L2.St) (F : Hp) (W : Wm) (H : Hp) (r : Rs (List Ent)) (Q : List V → Hp → Prop) : Prop :=
 match r with
 | .ok ps E' => ∀ F' W' H' vs Wr,St K ios B F' W' E' σ H' → Stp F W H F' W' H' → Fresh Wr H F' W' H' → OwnL K F' H' Wr vs ps → Q vs H'
 | .er x E' => ∀ F' W' H' c dx,St K ios B F' W' E' σ H' → Stp F W H F' W' H' → XRep K F' H' x c dx → Wx c dx σ H'
 | .stk => False
structure PLo (X : Cx) (ios : Ios) (Wx : WX) (es : List Expr) (f : M (List Ent)) : Prop where
 ex : ∃ t : TA,PA X es t ∧ ∀ B F W E σ H Q,St X.K ios B F W E σ H → Ziw X.K ios B Wx σ F W H (f E) Q → t σ H Q
def conO (fa : M Ent) (fs : M (List Ent)) : M (List Ent):=fun E => match fa E with
 | .ok p E1 => (match fs E1 with
  | .ok ps E2 => .ok (p :: ps) E2
  | _ => .stk)
 | _ => .stk
def lstO (t : Ow) (f : M (List Ent)) : M Ent:=fun E => match f E with
 | .ok ps E' => if allO t ps = true ∧ Z2X ps.length = true then .ok (.l t,.lst (ps.map (·.2))) E' else .stk
 | _ => .stk
section
variable {X : Cx} {ios : Ios} {Wx : WX} {e : Expr} {es : List Expr} {fa : M Ent} {fs : M (List Ent)} {pos : Pos} {t : Ow}
theorem ZcY : PLo X ios Wx [] (Zr []):=⟨_,pa_nil,fun B F W E σ H Q S h => h F W H [] Dl.noW S (Stp.refl _ _ _) Fresh.no ⟨rfl,fun j v t d e1 e2 => by simp at e1⟩⟩
theorem Z4I (ha : PO X ios Wx e fa) (hr : PLo X ios Wx es fs) (hs : starEach (e :: es) X.env = (false,eval e X.env) :: starEach es X.env:=by rfl) : PLo X ios Wx (e :: es) (conO fa fs):=by
 obtain ⟨ta,pa,ra⟩:=ha.ex;obtain ⟨tr,pr,rr⟩:=hr.ex;refine ⟨_,pa_cons pa pr hs,fun B F W E σ H Q S h => ?_⟩;unfold conO at h;refine ra B F W E σ H _ S ?_;cases q1 : fa E with
 | er x E' => simp only [q1] at h;exact h.elim
 | stk => simp only [q1] at h;exact h.elim
 | ok p E1 =>
  simp only [q1] at h;intro F1 W1 H1 v Wa S1 t1 f1 r1;refine rr B F1 W1 E1 σ H1 _ S1 ?_;cases q2 : fs E1 with
  | er x E' => simp only [q2] at h;exact h.elim
  | stk => simp only [q2] at h;exact h.elim
  | ok ps E2 =>
   simp only [q2] at h;intro F2 W2 H2 vs Wb S2 t2 f2 r2;obtain ⟨g1,g2⟩:=f1.stays (W':=W1) t2 S2.fh;have apart : ∀ a m,Wb a = some m → Wa a = none:=fun a m z => by
    cases q : Wa a with
    | none => rfl
    | some l =>
     obtain ⟨_,_,_,u,hu,_⟩:=f1 a l q;rw [(f2 a m z).1] at hu;cases hu
   refine h F2 W2 H2 (v :: vs) (ZaU Wa Wb) S2 (t1.trans t2) (fun a l z => ?_) ⟨by rw [List.length_cons,List.length_cons,r2.1],fun j v' t d e1 e2 => ?_⟩
   · rcases ZaV z with ⟨q,z⟩ | ⟨q,z⟩
     · exact g1 a q z
     · obtain ⟨y1,y2⟩:=f2 a q z;exact ⟨t1.back y1,y2⟩
   · cases j with
     | zero =>
      cases (show some v = some v' from e1);cases (show some p = some (t,d) from e2);have r1' : Jm X.K F2 H2 Wa t [] v d:=r1.keep t2.fx (fun _ _ z => z) (fun a l o z hz => g2 a l o z hz);exact Jm.relab (p:=[]) (p':=[0]) (q:=[]) (fun a q z => ZcU z) r1'
     | succ j =>
      exact Jm.relab (p:=[j]) (p':=[j + 1]) (q:=[]) (fun a q z => ZcV (apart a _ z) z) (r2.2 j v' t d (by simpa using e1) (by simpa using e2))
theorem ZcZ (h : PLo X ios Wx es fs) : PO X ios Wx (.List es pos) (lstO t fs):=by
 obtain ⟨tr,pr,rr⟩:=h.ex;refine ⟨_,pe_lst pr,fun B F W E σ H Q S k => rr B F W E σ H _ S ?_⟩;unfold lstO at k;cases q : fs E with
 | er x E' => simp only [q] at k;exact k.elim
 | stk => simp only [q] at k;exact k.elim
 | ok ps E1 =>
  simp only [q] at k;by_cases c : allO t ps = true ∧ Z2X ps.length = true
  · rw [Yj c] at k;intro F1 W1 H1 vs Wr S1 t1 f1 r1;have hz : ps.length ≤ sizeLine:=Yq c.2;refine ⟨by rw [r1.1];exact hz,fun p hp => ?_⟩;have S2:=S1.laid (p:=p) (o:=.lst vs) hp fun _ _ z => by cases z
    have t2 : Stp F1 W1 H1 F1 W1 (upd H1 p (.lst vs)):=Stp.laid hp;obtain ⟨g1,g2⟩:=f1.stays (W':=W1) t2 S2.fh;have hn : Wr p = none:=by
     cases q : Wr p with
     | none => rfl
     | some l =>
      obtain ⟨_,_,_,u,hu,_⟩:=f1 p l q;rw [hp] at hu;cases hu
    have r2 : OwnL X.K F1 (upd H1 p (.lst vs)) Wr vs ps:=⟨r1.1,fun j v t d e1 e2 => (r1.2 j v t d e1 e2).keep (Same.refl _) (fun _ _ z => z) fun a l o z hz => g2 a l o z hz⟩;refine k F1 W1 _ (.ref p) _ S2 (t1.trans t2) (fun a l z => ?_) (r2.list c.1 hz hn upd_same);by_cases ca : a = p
    · subst ca;exact ⟨t1.back hp,S1.noW hp,S1.fh.free hp,_,upd_same,rfl⟩
    · rw [Yk ca] at z;exact g1 a l z
  · rw [Yk c] at k;exact k.elim
end
section
variable {X : Cx} {ios : Ios} {scope : Scope} {elt : Expr}
theorem Zd0 {f : M Ent} (h : ∀ i,PO (bx X scope i) ios W0x elt f) : ∃ t : TE,(∀ i,PE (bx X scope i) elt t) ∧ ∀ B F W E σ H Q,St X.K ios B F W E σ H → Jy X.K ios B W0x σ F W H (f E) Q → t σ H Q :=
 ⟨fun σ H Q => ∀ i,(h i).ex.choose σ H Q,fun i => ⟨fun pins s σ H Q I q => (h i).ex.choose_spec.1.run pins s σ H Q I (q i)⟩,fun B F W E σ H Q S p i => (h i).ex.choose_spec.2 B F W E σ H Q S p⟩
end
def Z59 (asg : D → Nv → Option Nv) (cond : M Bool) (elt : M Ent) (vs : List Nat) : List D → List Ent → Nv → Rs (List Ent)
 | [],acc,E => .ok acc (wpe E vs)
 | d :: ds,acc,E => match asg d (wpe E vs) with
  | none => .stk
  | some E1 => match cond E1 with
   | .ok true E2 => (match elt E2 with
    | .ok y E3 => if acc.length < sizeLine then Z59 asg cond elt vs ds (acc ++ [y]) E3 else .stk
    | _ => .stk)
   | .ok false E2 => Z59 asg cond elt vs ds acc E2
   | _ => .stk
def Z9x (t : Ow) (f : M (List D)) (asg : D → Nv → Option Nv) (cond : M Bool) (elt : M Ent) (vs : List Nat) : M Ent:=bnd f fun ds E => match Z59 asg cond elt vs ds [] E with
 | .ok ps E' => if allO t ps = true then .ok (.l t,.lst (ps.map (·.2))) E' else .stk
 | _ => .stk
theorem OwnL.snoc {K : KF} {F F2 H H2 : Hp} {R A : Wm} {vs : List V} {ps : List Ent} {v : V} {p : Ent} (h : OwnL K F H R vs ps) (fx : Same F F2) (st : ∀ a l u,R a = some l → H a = some u → H2 a = some u) (ap : ∀ a m,A a = some m → R a = none) (r : Jm K F2 H2 A p.1 [] v p.2) : OwnL K F2 H2 (Z8o R A ps.length) (vs ++ [v]) (ps ++ [p]):=by
 refine ⟨by rw [Yh,Yh,h.1];rfl,fun j v' t d e1 e2 => ?_⟩;by_cases c : j < ps.length
 · rw [List.getElem?_append_left (by rw [h.1];exact c)] at e1;rw [List.getElem?_append_left c] at e2;have r1:=(h.2 j v' t d e1 e2).keep (W':=R) fx (fun _ _ z => z) fun a l o z hz => st a l o z hz;exact Jm.relab (p:=[j]) (p':=[j]) (q:=[]) (fun a q z => ZcW z) r1
 · have hj : j = ps.length:=by
     have:=(Yn.mp e2).1;rw [Yh,Yr] at this;omega
   subst hj;rw [← h.1,List.getElem?_concat_length] at e1;rw [List.getElem?_concat_length] at e2;cases e1;cases e2;exact Jm.relab (p:=[]) (p':=[ps.length]) (q:=[]) (fun a q z => ZcX (ap a q z) z) r
section
variable {X : Cx} {ios : Ios} {Wx : WX} {tg iter elt : Expr} {ifs : List Expr} {scope : Scope} {own : List (Str × Nat)} {pos : Pos} {f : M (List D)} {asg : D → Nv → Option Nv} {cond : M Bool} {fe : M Ent} {tO : Ow}
theorem Z62 {wi : TI} {g : TG} {tt : TT} {te : TE} {vs : List Nat} (hv : ∀ i ∈ vs,ios.contains i = false) (ri : ∀ B F W E σ H R,Dl.St X.K ios B F W E σ H → Pst X.K ios B Wx σ (fun F' (J : It) ds => Wlk X.K J ds F') F W H (f E) R → wi σ H R)
    (rg : ∀ B F W E E' σ H v d Q,Dl.St X.K ios B F W E σ H → Rep X.K F v d → asg d E = some E' → (∀ σ' W',Dl.St X.K ios B F W' E' σ' H → Stp F W H F W' H → wipe σ' vs = wipe σ vs → Q σ' H) → g v σ H Q)
    (rt : ∀ B F W E σ H Q,Dl.St X.K ios B F W E σ H → Pst X.K ios B W0x σ (fun _ (b : Bool) a => b = a) F W H (cond E) Q → tt σ H Q) (re : ∀ B F W E σ H Q,Dl.St X.K ios B F W E σ H → Jy X.K ios B W0x σ F W H (fe E) Q → te σ H Q)
    (B : Bs) (F : Hp) (W : Wm) (E : Nv) (σ : L2.St) (H : Hp) (Q : VK) (S : Dl.St X.K ios B F W E σ H) (h : Jy X.K ios B Wx σ F W H (Z9x tO f asg cond fe vs E) Q) : tLc wi g tt te vs σ H Q:=by
 refine ri B F W E σ H _ S (Jy.seq h fun F1 W1 H1 J ds E1 S1 s1 wl h1 Dd hD => ?_);have dF:=S1.fh.free hD;have dW:=S1.noW hD;have dB:=S1.st.back hD
 let fin : List D → List Ent → Nv → Rs Ent:=fun ds acc E => match Z59 asg cond fe vs ds acc E with
  | .ok ps E' => if allO tO ps = true then .ok (.l tO,.lst (ps.map (·.2))) E' else .stk
  | _ => .stk
 let Iv : Nat → Hp → Prop:=fun i Hn => ∃ F' W' E' acc av R,St X.K ios B F' W' (wpe E' vs) (wipe σ vs) Hn ∧ Stp F1 W1 H1 F' W' Hn ∧ F' Dd = none ∧ W' Dd = none ∧ Hn Dd = some (.lst av) ∧ R Dd = none ∧ Fresh R H1 F' W' Hn ∧ OwnL X.K F' Hn R av acc ∧ acc.length ≤ sizeLine ∧ Jy X.K ios B Wx σ F1 W1 H1 (fin (ds.drop i) acc E') Q
 refine ⟨fun i m Hn => m = ds.length - i ∧ i ≤ ds.length ∧ Iv i Hn,
  ⟨ds.length,by simp,Nat.zero_le _,F1,W1,E1,[],[],Dl.noW,(S1.over dF dW dB (fun _ _ z => by cases z) (Z4F hD)).wiped hv,(Stp.refl _ _ _).over hD (Z4F hD),dF,dW,upd_same,rfl,Fresh.no,OwnL.nil,Nat.zero_le _,h1⟩, ?_⟩
 rintro i m Hn ⟨rfl,hi,F',W',E',acc,av,R,S',st',nF,nW,eD,nR,fR,ra,za,k⟩
 by_cases hlt : i < ds.length
 · refine .inr ⟨wl.go i F' Hn st'.fx S'.fh hlt,fun H2 => Iv (i + 1) H2,fun H2 q => ⟨ds.length - (i + 1),by omega,rfl,hlt,q⟩,fun x H2 hy => ?_⟩;have ed : ds[i]? = some ds[i]:=Ym hlt;obtain ⟨F2,gr,rx⟩:=wl.yld i F' Hn x H2 _ st'.fx S'.fh hy ed;have S2:=S'.grow gr;have t2:=st'.trans (gr.stp W');obtain ⟨nF2,nW2,eD2⟩:=(gr.stp W').stays gr.fh rfl nF nW eD;have kk : Jy X.K ios B Wx σ F1 W1 H1 (match Z59 asg cond fe vs (ds[i] :: ds.drop (i + 1)) acc E' with
    | .ok ps E' => if allO tO ps = true then Rs.ok (.l tO,.lst (ps.map (·.2))) E' else .stk
    | _ => .stk) Q:=by rw [← List.drop_eq_getElem_cons hlt];exact k
   unfold Z59 at kk;cases q1 : asg ds[i] (wpe E' vs) with
   | none => simp only [q1] at kk;exact kk.elim
   | some E3 =>
    simp only [q1] at kk;refine rg B F2 W' _ E3 (wipe σ vs) H2 x _ _ S2 rx q1 fun σ3 W3 S3 t3 w3 => ?_;have w3' : wipe σ3 vs = wipe σ vs:=by rw [w3,← ZS,← ZS,Z7h]
    refine ⟨w3', ?_⟩;have t3':=t2.trans t3;obtain ⟨nF3,nW3,eD3⟩:=t3.stays S3.fh rfl nF2 nW2 eD2;refine rt B F2 W3 E3 σ3 H2 _ S3 ?_;cases q2 : cond E3 with
    | er z E4 => simp only [q2] at kk;exact kk.elim
    | stk => simp only [q2] at kk;exact kk.elim
    | ok b E4 =>
     intro F4 W4 H4 b' S4 t4 eb;subst eb;have t4':=t3'.trans t4;have u4:=((gr.stp W').trans t3).trans t4;obtain ⟨nF4,nW4,eD4⟩:=t4.stays S4.fh rfl nF3 nW3 eD3;obtain ⟨fR4,hR4⟩:=fR.stays (W':=W1) u4 S4.fh;cases b' with
     | false =>
      simp only [q2] at kk;have ra4 : OwnL X.K F4 H4 R av acc:=⟨ra.1,fun j v t d e1 e2 => (ra.2 j v t d e1 e2).keep u4.fx (fun _ _ z => z) fun a l o z hz => hR4 a l o z hz⟩;refine ⟨F4,W4,E4,acc,av,R, ?_,t4',nF4,nW4,eD4,nR,fR4,ra4,za,kk⟩;have:=S4.wiped hv;rw [w3'] at this;exact this
     | true =>
      simp only [q2] at kk;show te σ3 H4 _;refine re B F4 W4 E4 σ3 H4 _ S4 ?_;cases q3 : fe E4 with
      | er z E5 => simp only [q3] at kk;exact kk.elim
      | stk => simp only [q3] at kk;exact kk.elim
      | ok y E5 =>
       simp only [q3] at kk;intro F5 W5 H5 yv A S5 t5 fA ry;obtain ⟨nF5,nW5,eD5⟩:=t5.stays S5.fh rfl nF4 nW4 eD4;have u5:=u4.trans t5;obtain ⟨fR5,hR5⟩:=fR.stays (W':=W1) u5 S5.fh;by_cases hz : acc.length < sizeLine
       · rw [Yj hz] at kk;have ap : ∀ a m,A a = some m → R a = none:=fun a m z => by
          cases q : R a with
          | none => rfl
          | some l =>
           obtain ⟨_,_,_,u,hu,_⟩:=fR4 a l q;rw [(fA a m z).1] at hu;cases hu
         have nA : A Dd = none:=by
          cases q : A Dd with
          | none => rfl
          | some l => rw [(fA Dd l q).1] at eD4;cases eD4
         have ne : ∀ {a l},Z8o R A acc.length a = some l → a ≠ Dd:=fun {a l} z c => by
          subst c;rcases Z7l z with ⟨q,y⟩ | ⟨q,y⟩
          · rw [nR] at y;cases y
          · rw [nA] at y;cases y
         have r6:=ra.snoc u5.fx (fun a l u z h => hR5 a l u z h) ap ry;refine ⟨av,eD5,by rw [ra.1];exact hz,F5,W5,E5,acc ++ [y],av ++ [yv],Z8o R A acc.length, ?_,(t4'.trans t5).over hD (Z4k eD5 rfl),nF5,nW5,upd_same, ?_,fun a l z => ?_,⟨r6.1,fun j v t d e1 e2 => (r6.2 j v t d e1 e2).keep (Same.refl _) (fun _ _ z => z) fun a l o z hz => by rw [upd_ne (ne z)];exact hz⟩,by rw [Yh,Yr];exact hz,kk⟩
         · have:=(S5.wiped hv).over (p:=Dd) (u:=.lst (av ++ [yv])) nF5 nW5 dB (fun _ _ z => by cases z) (Z4k eD5 rfl);rw [w3'] at this;exact this
         · unfold Z8o;rw [nR,nA];rfl
         · rcases Z7l z with ⟨q,y⟩ | ⟨q,y⟩
           · obtain ⟨y1,y2,y3,u,y4,y5⟩:=fR5 a q y;exact ⟨y1,y2,y3,u,by rw [upd_ne (ne z)];exact y4,y5⟩
           · obtain ⟨y1,y2,y3,u,y4,y5⟩:=fA a q y;exact ⟨t4'.back y1,y2,y3,u,by rw [upd_ne (ne z)];exact y4,y5⟩
       · rw [Yk hz] at kk;exact kk.elim
 · have e : i = ds.length:=by omega
   subst e;have kk : Jy X.K ios B Wx σ F1 W1 H1 (if allO tO acc = true then Rs.ok (.l tO,.lst (acc.map (·.2))) (wpe E' vs) else .stk) Q:=by
    have:=k;simp only [fin,List.drop_length] at this;exact this
   by_cases c : allO tO acc = true
   · rw [Yj c] at kk;refine .inl ⟨wl.stop _ F' Hn st'.fx S'.fh (Nat.le_refl _), ?_⟩;refine kk F' W' Hn (.ref Dd) _ S'.unwiped st' (fun a l z => ?_) (ra.list c za nR eD);by_cases ca : a = Dd
     · subst ca;exact ⟨hD,nW,nF,_,eD,rfl⟩
     · rw [Yk ca] at z;exact fR a l z
   · rw [Yk c] at kk;exact kk.elim
theorem Zgr (hc : X.calm = true) (hN : X.N.Nodup) (hi : PIt X ios Wx tg iter f) (ok : BlkOk X.N X.env.scope scope own) (hv : ∀ i ∈ own.map (·.2),ios.contains i = false) (hg : ∀ i,PTw (bx X scope i) ios (own.map (·.2)) tg asg) (ht : ∀ i,PCs (bx X scope i) ios W0x ifs cond) (he : ∀ i,PO (bx X scope i) ios W0x elt fe)
    (hs : ∀ x,foldedSetIterable iter X.env x = pure x:=by intro _;rfl) : PO X ios Wx (.ListComp elt [⟨tg,iter,ifs,0⟩] scope pos) (Z9x tO f asg cond fe (own.map (·.2))):=by
 obtain ⟨wi,pi,ri⟩:=hi.ex;obtain ⟨g,pg,rg⟩:=Z8C hg;obtain ⟨tt,pt,rt⟩:=Z8B ht;obtain ⟨te,pe,re⟩:=Zd0 he;exact ⟨_,pe_lc hc hN pi ok (fun s H C cl fp => pg (s,H,C,cl,fp)) (fun s H C cl fp => pt (s,H,C,cl,fp)) (fun s H C cl fp => pe (s,H,C,cl,fp)) hs,Z62 hv ri rg rt re⟩
theorem Z63 {i : Nat} {y : Str} {py spos : Pos} (hc : X.calm = true) (hN : X.N.Nodup) (hy : X.N[i]? = some y) (hyl : X.env.scope.names.lookup y = some .local) (hio : ios.contains i = false) (hsw : swapsWith (.ListComp elt [⟨tg,iter,ifs,0⟩] scope pos) (some (.Name y py)) spos.line X.env = pure true)
    (hi : PIt X ios Wx tg iter f) (ok : BlkOk X.N X.env.scope scope own) (hv : ∀ i ∈ own.map (·.2),ios.contains i = false) (hg : ∀ i,PTw (bx X scope i) ios (own.map (·.2)) tg asg) (ht : ∀ i,PCs (bx X scope i) ios W0x ifs cond) (he : ∀ i,PO (bx X scope i) ios W0x elt fe)
    (hs : ∀ x,foldedSetIterable iter X.env x = pure x:=by intro _;rfl) : PD X ios Wx (.Assign [.Name y py] (.ListComp elt [⟨tg,iter,ifs,0⟩] scope pos) spos) (Jh i (Z9x tO f asg cond fe (own.map (·.2)))):=by
 obtain ⟨wi,pi,ri⟩:=hi.ex;obtain ⟨g,pg,rg⟩:=Z8C hg;obtain ⟨tt,pt,rt⟩:=Z8B ht;obtain ⟨te,pe,re⟩:=Zd0 he;refine ⟨_,ps_setLc hc hN hy hyl hsw pi ok (fun s H C cl fp => pg (s,H,C,cl,fp)) (fun s H C cl fp => pt (s,H,C,cl,fp)) (fun s H C cl fp => pe (s,H,C,cl,fp)) hs,fun B F W E σ H D S k => ?_⟩;refine Z62 (Wx:=Wx) hv ri rg rt re B F W E σ H _ S (Ju.seqO k fun F1 W1 H1 v d E1 Wr S1 s1 fr rr k1 => ?_);exact k1 F1 _ H1 _ (S1.put hio (fun a l z => by
  obtain ⟨z1,z2⟩:=fr a l z;exact ⟨S.st.back z1,z2⟩) rr) (Same.refl F1)
end
section
variable {X : Cx} {ios : Ios} {Wx : WX} {e ix jx a b : Expr} {es : List Expr} {fi fj fe fa fb : M D} {fs : M (List D)} {name x : Str} {cpos npos spos tpos pos : Pos}
def Z1V (i : Nat) (fe fi fj : M D) : G:=Jf fe fun y E => match own2 i E with
 | some dss => (match fi (E.set i none) with
  | .ok k E1 => (match Z8E dss k with
   | some (n,ds) => (match fj E1 with
    | .ok (.int j) E2 => (match ixN ds.length j with
     | some m => .nx (put2 i n dss (ds.set m y) E2)
     | none => .stk)
    | _ => .stk)
   | none => .stk)
  | _ => .stk)
 | none => .stk
theorem Z2N (i : Nat) (hio : ios.contains i = false) (hN : X.N[i]? = some x) (he : PP X ios Wx e fe) (hi : PP X ios Wx ix fi) (hj : PP X ios Wx jx fj) (hv : Vis X.env.scope x:=by first | exact Or.inl rfl | exact Or.inr (Or.inl rfl) | exact Or.inr (Or.inr rfl)) (hd : (x == ("__debug__" : Str)) = false:=by decide) (hcd : (x == ("__classdict__" : Str)) = false:=by decide)
    (hp : PlainIx ix:=by intro _ _;rfl) (hs : swapsWithSole [.Subscript (.Subscript (.Name x npos) ix spos) jx tpos] e pos.line X.env = pure false:=by rfl) (hw : swappedStores [.Subscript (.Subscript (.Name x npos) ix spos) jx tpos] e X.env = pure none:=by rfl)
    (ha : ∀ v,assign (.Subscript (.Subscript (.Name x npos) ix spos) jx tpos) X.env v = (do
     let ov ← holding [v] (eval (.Subscript (.Name x npos) ix spos) X.env)
     let iv ← holding [v,ov] (eval jx X.env)
     standAt tpos
     holding [v,ov,iv] (setItem ov iv v)
     release [v,ov,iv] []):=by intro _;rfl) : PD X ios Wx (.Assign [.Subscript (.Subscript (.Name x npos) ix spos) jx tpos] e pos) (Z1V i fe fi fj):=by
 obtain ⟨te,pe,re⟩:=he.ex;obtain ⟨ti,pi,ri⟩:=hi.ex;obtain ⟨tj,pj,rj⟩:=hj.ex;refine ⟨_,ps_asg pe (pg_sub (pe_ix ix_seq (pe_var hN hv hd hcd) pi hp) pj set_list ha) hs hw,fun B F0 W0 E0 σ H0 Dn S0' k0 => ?_⟩;refine re B F0 W0 E0 σ H0 _ S0' (Ju.seq k0 fun F W H y dy E S s0 ry k => ?_);cases q : own2 i E with
 | none => simp only [q] at k;exact k.elim
 | some dss =>
  simp only [q] at k;obtain ⟨o,vs,h1,T⟩:=S.two q;refine ⟨_,h1,ri B F (Z1d W i) (E.set i none) σ H _ (S.off hio) ?_⟩;cases q1 : fi (E.set i none) with
  | er z E' => simp only [q1] at k;exact k.elim
  | stk => simp only [q1] at k;exact k.elim
  | ok kd E1 =>
   simp only [q1] at k;intro F1 W1 H1 kv S1 t1 rk;cases q2 : Z8E dss kd with
   | none => simp only [q2] at k;exact k.elim
   | some nd =>
    obtain ⟨n,ds⟩:=nd;simp only [q2] at k;obtain ⟨j,rfl,e1,e2⟩:=Z7k q2;cases rk;obtain ⟨p,ws,ep,wp,hp',zp,rp⟩:=T.row e2;have stay : ∀ {F' W' H' : _} (t : Stp F (Z1d W i) H F' W' H') (fh : Same F' H') a q' u,W a = some (i :: q') → H a = some u → F' a = none ∧ W' a = none ∧ H' a = some u:=fun t fh a q' u w h => t.stays fh (by obtain ⟨_,o',h1,h2⟩:=S.ow a _ w;rw [h] at h1;cases h1;exact h2) (S.ow a _ w).1 (Z2M w) h;have oH:=(stay t1 S1.fh o [] _ T.w T.h).2.2;have hat : L2.atI vs j = some (.ref p):=by
     unfold L2.atI;rw [T.ln,e1];exact ep
    refine .inl ⟨o,vs,j,.ref p,rfl,rfl,SqL.of oH,hat,rj B F1 W1 E1 σ H1 _ S1 ?_⟩;cases q3 : fj E1 with
    | er z E' => simp only [q3] at k;exact k.elim
    | stk => simp only [q3] at k;exact k.elim
    | ok jd E2 =>
     simp only [q3] at k;intro F2 W2 H2 jv S2 t2 rj';cases jd <;> first | (exact k.elim) | skip
     rename_i jj;cases rj';have t:=t1.trans t2;have pZ:=stay t S2.fh p [n] _ wp hp';cases q4 : ixN ds.length jj with
     | none => simp only [q4] at k;exact k.elim
     | some m =>
      simp only [q4] at k;refine ⟨p,ws,jj,m,rfl,rfl,pZ.2.2,by rw [rp.length];exact q4, ?_⟩;obtain ⟨S3,s3⟩:=S.back2 hio h1 T wp ep ⟨_,hp'⟩ S2 t (RepL.set (ry.mono t.fx dy) m (rp.mono t.fx ds)) (by rw [List.length_set];exact zp);exact k F2 _ _ σ S3 t.fx
theorem Jy.newL {K : KF} {B : Bs} {F : Hp} {W : Wm} {E : Nv} {σ : L2.St} {H : Hp} {Q : VK} {vs : List V} {ds : List D} (k : Jy K ios B Wx σ F W H (Zr (.l .sh,.lst ds) E) Q) (S : Dl.St K ios B F W E σ H) (r : RepL K F vs ds) (z : ds.length ≤ sizeLine) : ∀ p,H p = none → Q (.ref p) (upd H p (.lst vs)):=fun p hp => k.listed S hp z r
def ZfR (g : D → Option (List D)) (fa : M D) : M Ent:=bnd fa fun d E => match g d with
 | some ds => if Z2X ds.length = true then .ok (.l .sh,.lst ds) E else .stk
 | none => .stk
theorem ZaW {p : Pos} (hg : Gl X "list") (hm : X.mg "list" = none) (ha : PP X ios Wx a fa) (hs : starEach [a] X.env = (false,eval a X.env) :: starEach [] X.env:=by rfl) : PO X ios Wx (.Call (.Name "list" p) [a] [] pos) (ZfR Z3u fa):=by
 obtain ⟨ta,pa,ra⟩:=ha.ex;refine ⟨_,pe_callTy call_list_of hg hm rfl (pa_cons pa pa_nil hs) (he:=hs),fun B F W E σ H Q S k => ?_⟩;refine ra B F W E σ H _ S (Jy.seq k fun F1 W1 H1 v d E1 S1 s1 r1 k1 => ?_);cases q : Z3u d with
 | none => simp only [q] at k1;exact k1.elim
 | some ds =>
  simp only [q] at k1;by_cases c : Z2X ds.length = true
  · rw [Yj c] at k1;obtain ⟨p,ws,rfl,sq,rr⟩:=Z8r S1.fh r1 q;exact ⟨p,ws,rfl,sq,Jy.newL (ds:=ds) k1 S1 rr (Yq c)⟩
  · rw [Yk c] at k1;exact k1.elim
end
section
variable {X : Cx} {ios : Ios} {Wx : WX} {ix : Expr} {fi : M D} {pos npos : Pos} {x : Str}
def ixoM (i : Nat) (fi : M D) : M D:=fun E => match ownL i E with
 | some _ => bnd fi (fun y E2 => match ownL i E2 with
  | some ds => ofO (ixD (.lst ds) y) E2
  | none => .stk) E
 | none => .stk
theorem Zgs (i : Nat) (hN : X.N[i]? = some x) (hi : PP X ios Wx ix fi) (hv : Vis X.env.scope x:=by first | exact Or.inl rfl | exact Or.inr (Or.inl rfl) | exact Or.inr (Or.inr rfl)) (hd : (x == ("__debug__" : Str)) = false:=by decide) (hcd : (x == ("__classdict__" : Str)) = false:=by decide) (hs : PlainIx ix:=by intro _ _;rfl) :
    PP X ios Wx (.Subscript (.Name x npos) ix pos) (ixoM i fi):=by
 obtain ⟨ti,p,ri⟩:=hi.ex;refine ⟨_,pe_ix ix_seq (pe_var hN hv hd hcd) p hs,fun B F W E σ H Q S h => ?_⟩;unfold ixoM at h;cases q : ownL i E with
 | none => simp only [q] at h;exact h.elim
 | some ds0 =>
  simp only [q] at h;obtain ⟨o,vs,h1,_⟩:=S.ownl q;refine ⟨_,h1,ri B F W E σ H _ S (Pst.seq h fun F2 W2 H2 y e E2 S2 s2 r2 h2 => ?_)⟩;cases q2 : ownL i E2 with
  | none => simp only [q2] at h2;exact h2.elim
  | some ds =>
   simp only [q2] at h2;obtain ⟨o2,vs2,g1,g2,g3,g4,_⟩:=S2.ownl q2;rw [h1] at g1;cases g1;obtain ⟨z,ez,h3⟩:=h2.some;cases e with
   | int j =>
    cases r2;obtain ⟨v,e1,e2⟩:=g4.atI ez;exact .inl ⟨_,_,_,_,rfl,rfl,SqL.of g2,e1,h3.grown S2 (Gr.refl S2.fh) e2⟩
   | _ => cases ez
end
end Dl
namespace Dl
open PySem PySem.Spec PyProof.Rows L2
end Dl
namespace Dl
open PySem PySem.Spec PyProof.Rows L2
variable [Tbs]
theorem Zd1 {F G : Hp} {a : Addr} {u : HO} (e : ∀ a o,F a = some o → nxd o = true → G a = some o) (hu : nxd u = true) (h : Rd F a u) : Rd G a u:=by
 rcases h with h | ⟨o,h⟩
 · exact .inl (e _ _ h hu)
 · exact .inr ⟨o,e _ _ h rfl⟩
theorem Z9y {K : KF} {F G : Hp} {a : Addr} {xs : List V} (e : ∀ a o,F a = some o → nxd o = true → G a = some o) (h : SqT K F a xs) : SqT K G a xs:=by
 rcases h with h | h
 · exact .inl (Zd1 e rfl h)
 · exact .inr h
theorem Zd2 {K : KF} {F G : Hp} {a : Addr} {xs : List V} (e : ∀ a o,F a = some o → nxd o = true → G a = some o) (h : SqL K F a xs) : SqL K G a xs:=by
 rcases h with h | h
 · exact .inl (Zd1 e rfl h)
 · exact .inr h
mutual
theorem Rep.off {K : KF} {F G : Hp} (e : ∀ a o,F a = some o → nxd o = true → G a = some o) : ∀ {v : V} (d : D),Rep K F v d → Rep K G v d
 | _,.non,h => by cases h;exact .non
 | _,.bl b,h => by cases h;exact .bl b
 | _,.int i,h => by cases h;exact .int i
 | _,.str x,h => by cases h;exact .str x
 | _,.ty n,h => by cases h;exact .ty n
 | _,.cl c,h => by cases h;exact .cl c
 | _,.frl ns,h => by
  cases h with
  | frl s z => exact .frl (Zd2 e s) z
 | _,.lst ds,h => by
  cases h with
  | lst s z r => exact .lst (e _ _ s rfl) z (RepL.off e ds r)
 | _,.tup ds,h => by
  cases h with
  | tup s z r => exact .tup (Z9y e s) z (RepL.off e ds r)
 | _,.dct ks ds,h => by
  cases h with
  | dk s k r => exact .dk (e _ _ s rfl) k (RepL.off e ds r)
  | dt s k r => exact .dt (e _ _ s rfl) k (RepL.off e ds r)
 | _,.ldc ks ds,h => by
  cases h with
  | ld s g k q r => exact .ld (e _ _ s rfl) g k (RepL.off e ks q) (RepL.off e ds r)
 | _,.ins c ns ds,h => by
  cases h with
  | ins s k n r => exact .ins (e _ _ s rfl) k n (RepL.off e ds r)
theorem RepL.off {K : KF} {F G : Hp} (e : ∀ a o,F a = some o → nxd o = true → G a = some o) : ∀ {vs : List V} (ds : List D),RepL K F vs ds → RepL K G vs ds
 | _,[],h => by cases h;exact .nil
 | _,d :: ds,h => by
  cases h with
  | cons h1 h2 => exact .cons (Rep.off e d h1) (RepL.off e ds h2)
end
theorem Jm.off {K : KF} {F G H : Hp} {W : Wm} (e : ∀ a o,F a = some o → nxd o = true → G a = some o) : ∀ {t : Ow} {lab : Lab} {v : V} {d : D},Jm K F H W t lab v d → Jm K G H W t lab v d
 | .sh,_,_,d,h => Rep.off e d h
 | .g,lab,v,d,h => by
  obtain ⟨o,vs,ds,e1,e2,w,ho,z,ln,r⟩:=h;refine ⟨o,vs,ds,e1,e2,w,ho,z,ln,fun j v' d' a b => ?_⟩;obtain ⟨t,ws,es,e3,e4,s,z2,ln2,r2⟩:=r j v' d' a b;refine ⟨t,ws,es,e3,e4,Z9y e s,z2,ln2,fun i w d'' x y => ?_⟩;have h1:=r2 i w d'' x y;generalize decide (0 < i) = t at h1 ⊢;cases t with
  | true =>
   obtain ⟨p,ws',es',e5,e6,w2,hp,z3,r3⟩:=h1;exact ⟨p,ws',es',e5,e6,w2,hp,z3,RepL.off e _ r3⟩
  | false => exact Rep.off e d'' h1
 | .l t,lab,v,d,h => by
  obtain ⟨o,vs,ds,e1,e2,w,ho,z,ln,r⟩:=h;exact ⟨o,vs,ds,e1,e2,w,ho,z,ln,fun j v' d' a b => Jm.off e (r j v' d' a b)⟩
 | .m t,lab,v,d,h => by
  rcases h with ⟨o,vs,ds,e1,e2,w,ho,z,ln,r⟩ | ⟨n,r⟩
  · exact .inl ⟨o,vs,ds,e1,e2,w,ho,z,ln,fun j v' d' a b => Jm.off e (r j v' d' a b)⟩
  · exact .inr ⟨n,Rep.off e d r⟩
 | .r bs,lab,v,d,h => by
  obtain ⟨o,vs,ds,e1,e2,w,ho,z,ln,lb,r⟩:=h;refine ⟨o,vs,ds,e1,e2,w,ho,z,ln,lb,fun j v' d' t a b c => ?_⟩;have h1:=r j v' d' t a b c;cases t with
  | true =>
   obtain ⟨p,ws,es,e3,e4,w2,hp,z2,r2⟩:=h1;exact ⟨p,ws,es,e3,e4,w2,hp,z2,RepL.off e _ r2⟩
  | false => exact Rep.off e d' h1
 | .d b t,lab,v,d,h => by
  obtain ⟨o,vs,ks,ds,e1,e2,w,ho,ln,r⟩:=h;exact ⟨o,vs,ks,ds,e1,e2,w,ho,ln,fun j v' d' a b => Jm.off e (r j v' d' a b)⟩
 | .o,lab,v,d,h => by
  obtain ⟨x,C,dx,fs,c,ns,ds,e1,e2,w,ho,k,n,z,r⟩:=h;exact ⟨x,C,dx,fs,c,ns,ds,e1,e2,w,ho,k,n,z,RepL.off e _ r⟩
def inW2 (W : Wm) (i : Nat) : Wm:=fun a => match W a with
 | some (j :: k :: p) => if j = i then some (k :: p) else none
 | _ => none
def exW2 (W : Wm) (i : Nat) : Wm:=fun a => match W a with
 | some (j :: k :: p) => if j = i then none else some (j :: k :: p)
 | o => o
theorem Zd3 {W : Wm} {i : Nat} {a : Addr} {q : Lab} (h : inW2 W i a = some q) : ∃ k p,q = k :: p ∧ W a = some (i :: k :: p):=by
 unfold inW2 at h
 split at h
 · rename_i j k p e;by_cases c : j = i
   · rw [Yj c] at h;cases h;subst c;exact ⟨k,p,rfl,e⟩
   · rw [Yk c] at h;cases h
 · cases h
theorem Z7m {W : Wm} {i k : Nat} {a : Addr} {p : Lab} (h : W a = some (i :: k :: p)) : inW2 W i a = some (k :: p):=by
 unfold inW2;rw [h];exact Yj rfl
theorem Z64 {W : Wm} {i : Nat} {a : Addr} {l : Lab} (h : exW2 W i a = some l) : W a = some l ∧ ∀ k p,l ≠ i :: k :: p:=by
 unfold exW2 at h
 split at h
 · rename_i j k p e;by_cases c : j = i
   · rw [Yj c] at h;cases h
   · rw [Yk c] at h;cases h;exact ⟨e,fun k' p' z => c (List.cons.inj z).1⟩
 · rename_i o e;refine ⟨h,fun k p z => ?_⟩;subst z;exact e i k p h
theorem Z7n {W : Wm} {i : Nat} {a : Addr} {l : Lab} (h : W a = some l) (hn : ∀ k p,l ≠ i :: k :: p) : exW2 W i a = some l:=by
 unfold exW2
 split
 · rename_i j k p e;rw [h] at e;cases e;rw [Yk (fun c => hn k p (by rw [c]))]
 · exact h
theorem Zd4 {W : Wm} {i k : Nat} {a : Addr} {p : Lab} (h : W a = some (i :: k :: p)) : exW2 W i a = none:=by
 unfold exW2;rw [h];exact Yj rfl
def Z6D (i : Nat) (g : G) : G:=fun E => match E[i]? with
 | some (some (.l _,d)) => g (E.set i (some (.l .sh,d)))
 | _ => g E
section
variable {X : Cx} {ios : Ios} {Wx : WX} {sts : List Stmt} {g : G}
theorem Z65 (i : Nat) (hio : ios.contains i = false) (h : PDs X ios Wx sts g) : PDs X ios Wx sts (Z6D i g):=by
 obtain ⟨t,p,r⟩:=h.ex;refine ⟨_,ZcB p,fun B F W E σ H Dn S k => ?_⟩;have plain : t Dn σ H → ∃ p : Addr → Bool,∀ ob,t Dn σ (lkH p ob H):=fun h => ⟨fun _ => false,fun ob => by
  rw [show lkH (fun _ => false) ob H = H from funext fun a => Z20 rfl];exact h⟩
 unfold Z6D at k
 split at k
 · rename_i t0 d q;obtain ⟨v,h1,o,vs,ds,rfl,rfl,w,ho,z,ln,rr⟩:=S.vr i _ d q;have nio:=Ios.no hio;have fr : Fresh (inW2 W i) B.H0 F (exW2 W i) H:=fun a l hl => by
    obtain ⟨k,p,rfl,e⟩:=Zd3 hl;obtain ⟨f1,f2⟩:=S.ow a _ e;refine ⟨?_,Zd4 e,f1,f2⟩;obtain ⟨j,q,e2,hj⟩:=S.fr a _ e;cases e2;rcases hj with hj | hj
    · exact absurd hj nio
    · exact hj
   have S1 : Dl.St X.K ios B F (exW2 W i) (E.set i none) σ H:=by
    have s:=S.st;refine ⟨S.fh,⟨s.fx,s.fn,fun a l h => Z7n (s.wx a l h) fun k p z => ?_,fun a l h => s.wn a l (Z64 h).1,s.hx,s.hd,s.fk,fun P q tw => (s.tb P q tw).w fun a l z => (S.ow a l (Z64 z).1).2⟩,S.nz,fun a l h => S.ow a l (Z64 h).1,fun a l h => S.fr a l (Z64 h).1,S.w0,fun j t d h => ?_,S.pn,by rw [List.length_set];exact S.ln,S.xo⟩
    · subst z;obtain ⟨j,q,e,hj⟩:=S.w0 a _ h;cases e;exact nio hj
    · rw [List.getElem?_set] at h;by_cases c : i = j
      · rw [Yj c] at h
        split at h <;> cases h
      · rw [Yk c] at h;obtain ⟨v,h1,h2⟩:=S.vr j t d h;exact ⟨v,h1,Jm.keepAt (p:=[j]) (q:=[]) (Same.refl F) (fun a q z => Z7n z fun k p y => c (List.cons.inj y).1.symm) (fun _ _ _ _ z => z) h2⟩
   refine ⟨lkP (inW2 W i),fun ob => ?_⟩;have fr':=fr.lk (p:=lkP (inW2 W i)) (ob:=ob);have S1':=S1.lk (p:=lkP (inW2 W i)) (ob:=ob) fun a z => by
    obtain ⟨l,hl⟩:=Z8v z;exact ⟨(fr a l hl).2.2.1,(fr a l hl).2.1,(fr a l hl).1⟩
   have S2 : Dl.St X.K ios B (frz F (inW2 W i) (lkH (lkP (inW2 W i)) ob H)) (exW2 W i) (E.set i none) σ (lkH (lkP (inW2 W i)) ob H):=ZaP (Stp.refl _ _ _) S1' fr';refine r B _ (exW2 W i) (E.set i (some (.l .sh,.lst ds))) σ _ Dn ⟨S2.fh,S2.st,S2.nz,S2.ow,S2.fr,S2.w0,fun j t d' hj => ?_,S2.pn,by rw [List.length_set];exact S.ln,S2.xo⟩ (Ju.from (Z2w fr') k);rw [List.getElem?_set] at hj;by_cases c : i = j
   · subst c;rw [Yj rfl] at hj
     split at hj
     · cases hj;refine ⟨.ref o,h1,o,vs,ds,rfl,rfl,Z7n w (fun k p z => by cases z),Z5G ho (fun _ z => nomatch z) (fun _ z => nomatch z),z,ln,fun j v' d' a b => ?_⟩;exact Jm.repO (H:=H) (p:=[i,j]) (q:=[]) (Z2w fr') (fun a q o h ho hd => by unfold frz;rw [Z7m h];exact Z9m ho hd) (fun a q o h ho hd => ⟨ob a,by unfold frz;rw [Z7m h];exact Z9l (by show (inW2 W i a).isSome = true;rw [Z7m h];rfl) ho hd⟩) (rr j v' d' a b)
     · cases hj
   · rw [Yk c] at hj;exact S2.vr j t d' (by rw [List.getElem?_set,Yk c];exact hj)
 · exact plain (r B F W E σ H Dn S k)
end
end Dl
namespace Dl
open PySem PySem.Spec PyProof.Rows L2 RZ
variable [Tbs]
def AsX (b : Bool) (h : Heap) (p : Addr) (us : Array Value) : Prop:=match b with
 | true => h.IsTuple p us
 | false => h.IsList p us
theorem AsX.lt {b : Bool} {h : Heap} {p : Addr} {us : Array Value} (x : AsX b h p us) : p < h.objs.size:=by
 cases b
 · obtain ⟨o,ho,_⟩:=(show h.IsList p us from x);exact Heap.lt_size ho
 · obtain ⟨o,ho,_⟩:=(show h.IsTuple p us from x);exact Heap.lt_size ho
section
variable {X : Cx} {ios : Ios} {Wx : WX} {a b e : Expr} {fa fb : M D} {fs : M (List D)} {p pos tpos : Pos} {elts : List Expr} {kk : Nat}
def rgD (a b : Int) : List D:=(List.range (b - a).toNat).map fun i => D.int (a + (i : Nat))
theorem Zgt {K : KF} {F : Hp} (a b : Int) : RepL K F (rgV a b) (rgD a b):=by
 unfold rgV rgD;generalize List.range (b - a).toNat = l
 induction l with
 | nil => exact .nil
 | cons i l ih => exact .cons (.int _) ih
theorem Zd5 (a b : Int) : (rgD a b).length = (b - a).toNat:=by unfold rgD;rw [Yi,Ys]
def sm24 (j : Int) : Bool:=match j with
 | .ofNat n => decide (n ≤ 16777216)
 | .negSucc n => decide (n ≤ 16777216)
theorem Z7o {j : Int} : sm24 j = true ↔ -16777217 ≤ j ∧ j ≤ 16777216:=by
 unfold sm24;cases j with
 | ofNat n =>
  simp only [decide_eq_true_eq,Int.ofNat_eq_natCast];omega
 | negSucc n =>
  simp only [decide_eq_true_eq];omega
def lrg1 (f : M D) : M Ent:=bnd f fun d => match d with
 | .int n => if sm24 n = true then Zr (.l .sh,.lst (rgD 0 n)) else Z6x
 | _ => Z6x
theorem Zd6 {p2 pos2 : Pos} (hc : X.calm = true) (hl : Gl X "list") (hml : X.mg "list" = none) (hg : Gl X "range") (hm : X.mg "range" = none) (ha : PP X ios Wx a fa)
    (hs : starEach [a] X.env = (false,eval a X.env) :: starEach [] X.env:=by rfl) (hs2 : starEach [.Call (.Name "range" p2) [a] [] pos2] X.env = (false,eval (.Call (.Name "range" p2) [a] [] pos2) X.env) :: starEach [] X.env:=by rfl) :
    PO X ios Wx (.Call (.Name "list" p) [.Call (.Name "range" p2) [a] [] pos2] [] pos) (lrg1 fa):=by
 obtain ⟨ta,pa,ra⟩:=ha.ex;refine ⟨_,pe_listRg hc hl hml (prg_1 hg hm pa hs) hs2,fun B F W E σ H Q S h => ?_⟩;unfold lrg1 at h;refine ra B F W E σ H _ S (Jy.seq h fun F1 W1 H1 x d E1 S1 s1 r1 h1 => ?_);cases r1 with
 | int n =>
  by_cases c : sm24 n = true
  · have h2 : Jy X.K ios B Wx σ F1 W1 H1 (Zr (.l .sh,.lst (rgD 0 n)) E1) Q:=by
      have:=h1;simp only [c,if_true] at this;exact this
    have c2:=Z7o.mp c;have z : (rgD 0 n).length ≤ sizeLine:=by rw [Zd5,sizeLine_eq];omega
    exact ⟨n,rfl,⟨by omega,by omega,by omega,by omega,by omega⟩,fun q hq => h2.listed S1 hq z (Zgt 0 n)⟩
  · have h2:=h1;simp only [c] at h2;exact h2.elim
 | _ => exact h1.elim
end
def kOf : D → Option Key
 | .int i => some (.inl i)
 | .str x => some (.inr x)
 | _ => none
def lkD : List D → List D → Key → Option D
 | k :: ks,v :: vs,key => if kOf k = some key then some v else lkD ks vs key
 | _,_,_ => none
end Dl
namespace L2
open PySem PySem.Spec PyProof.Rows
end L2
namespace Dl
open PySem PySem.Spec PyProof.Rows L2
variable [Tbs]
def Zd7 (f : M Ent) : M Ent:=fun E => match f (shr E) with
 | .ok (.l .sh,.lst xs) _ => if immL xs = true then .ok (.l .sh,.lst xs) E else .stk
 | .er x _ => if immL x.vs = true then .er x E else .stk
 | _ => .stk
theorem Zd8 {xs : List D} (h : immL xs = true) : ∀ {j : Nat} {d : D},xs[j]? = some d → imm d = true:=by
 induction xs with
 | nil => intro j d e;simp at e
 | cons x xs ih =>
  intro j d e;obtain ⟨h1,h2⟩:=Bool.and_eq_true_iff.mp (show (imm x && immL xs) = true from h);cases j with
  | zero => simp at e;subst e;exact h1
  | succ j => exact ih h2 (by simpa using e)
section
variable {X : Cx} {ios : Ios} {Wx : WX} {e : Expr} {f : M Ent}
theorem Zd9 (h : PO X ios Wx e f) : PO X ios Wx e (Zd7 f):=by
 obtain ⟨t,p,r⟩:=h.ex;refine ⟨t,p,fun B F W E σ H Q S h => r _ (vis F W H) Dl.noW (shr E) σ H Q S.look ?_⟩;unfold Zd7 at h;cases q : f (shr E) with
 | ok a E2 =>
  obtain ⟨t0,d⟩:=a;rw [q] at h;cases t0 with
  | l t1 =>
   cases t1 with
   | sh =>
    cases d with
    | lst xs =>
     by_cases i : immL xs = true
     · have h' : Jy X.K ios B Wx σ F W H (.ok (.l .sh,.lst xs) E) Q:=by
         have:=h;simp only [i,if_true] at this;exact this
       intro F' W' H' v Wr S' t' fr rr;obtain ⟨S2,s2,e2⟩:=S.looked S';refine h' _ W H' v Wr S2 s2 (fun a l z => ?_) ?_
       · obtain ⟨z1,z2,z3,z4⟩:=fr a l z;refine ⟨z1,S.noW z1, ?_,z4⟩;cases g : gl F H F' a with
         | none => rfl
         | some o =>
          rcases ZfP g with y | ⟨_,_,y,_⟩
          · rw [S.fh a o y] at z1;cases z1
          · rw [z3] at y;cases y
       · obtain ⟨o,vs,ds,e1,e3,w,ho,zz,ln,rs⟩:=rr;cases e3;exact ⟨o,vs,xs,e1,rfl,w,ho,zz,ln,fun j v' d' a b => Rep.restr e2 (NoFz.of S'.fh S'.nz) d' (Zd8 i b) (rs j v' d' a b)⟩
     · have h':=h;simp only [i] at h';exact h'.elim
    | _ => exact h.elim
   | _ => exact h.elim
  | _ => exact h.elim
 | er x E2 =>
  rw [q] at h;by_cases i : immL x.vs = true
  · have h' : Jy X.K ios B Wx σ F W H (.er x E) Q:=by
      have:=h;simp only [i,if_true] at this;exact this
    intro F' W' H' c dx S' t' rr;obtain ⟨S2,s2,e⟩:=S.looked S';exact h' _ W H' c dx S2 s2 (XRep.restr e (NoFz.of S'.fh S'.nz) i rr)
  · have h':=h;simp only [i] at h';exact h'.elim
 | stk => rw [q] at h;exact h.elim
end
end Dl
namespace Dl
open PySem PySem.Spec PyProof.Rows L2
end Dl
namespace Dl
open PySem PySem.Spec PyProof.Rows L2
variable [Tbs]
section
variable {X : Cx} {ios : Ios} {Wx : WX} {a b : Expr} {fa fb : M D} {pos : Pos}
def mulO (fa fb : M D) : M Ent:=bnd fa fun d => bnd fb fun e E => match d,e with
 | .lst xs,.int k => if inR 4611686018427387903 k = true ∧ xs.length * k.toNat ≤ sizeLine then .ok (.l .sh,.lst (List.replicate k.toNat xs).flatten) E else .stk
 | _,_ => .stk
theorem Zda (ha : PP X ios Wx a fa) (hb : PP X ios Wx b fb) : PO X ios Wx (.BinOp a .Mult b pos) (mulO fa fb):=by
 obtain ⟨ta,pa,ra⟩:=ha.ex;obtain ⟨tb,pb,rb⟩:=hb.ex;refine ⟨_,pe_op Z1U pa pb,fun B F W E σ H Q S k => ?_⟩;refine ra B F W E σ H _ S (Jy.seq k fun F1 W1 H1 v d E1 S1 s1 r1 k1 => ?_);refine rb B F1 W1 E1 σ H1 _ S1 (Jy.seq k1 fun F2 W2 H2 w e E2 S2 s2 r2 k2 => ?_);cases d <;> first | (exact k2.elim) | skip
 rename_i xs;cases e <;> first | (exact k2.elim) | skip
 rename_i n;have k3 : Jy X.K ios B Wx σ F2 W2 H2 (if inR 4611686018427387903 n = true ∧ xs.length * n.toNat ≤ sizeLine then Rs.ok (.l .sh,.lst (List.replicate n.toNat xs).flatten) E2 else .stk) Q:=k2;by_cases c : inR 4611686018427387903 n = true ∧ xs.length * n.toNat ≤ sizeLine
 · rw [Yj c] at k3;have r1':=r1.mono s2.fx _;cases r2;cases r1' with
   | lst sa za ra' =>
    have ci:=Z1S.mp c.1;refine .inr ⟨_,_,_,rfl,rfl,S2.fh _ _ sa,by omega,by omega,by rw [ra'.length];exact c.2, ?_⟩;exact Jy.newL k3 S2 (Z2Z ra' n.toNat) (by rw [Z30];exact c.2)
 · rw [Yk c] at k3;exact k3.elim
end
end Dl
namespace Dl
open PySem PySem.Spec PyProof.Rows L2
end Dl
namespace Dl
open PySem PySem.Spec PyProof.Rows L2
variable [Tbs]
def Dcs (K : KF) (w : World) (ts : List (Str × List Str)) : Prop:=(ts.map fun t => He.dicW K (He.ga K t.1)) = ts.map fun t => some (He.keysIn w.params t.2)
theorem Dcs.tab {K : KF} {w : World} {ts : List (Str × List Str)} (c : Dcs K w ts) (i : Nat) {t : Str × List Str} (h : ts[i]? = some t:=by rfl) : ∃ es n,KDict K w (He.ga K t.1) es n:=by
 have e2 : (ts.map fun t => He.dicW K (He.ga K t.1))[i]? = (ts.map fun t => some (He.keysIn w.params t.2))[i]?:=by rw [c]
 rw [List.getElem?_map,List.getElem?_map,h] at e2;exact He.dicW_ok (Option.some.inj e2)
end Dl
namespace Dl
open PySem PySem.Spec PyProof.Rows L2
end Dl
namespace Dl
open PySem PySem.Spec PyProof.Rows L2
variable [Tbs]
theorem Z2O : ∀ k : List Key,Z1t (k.map kD) = some k
 | [] => rfl
 | .inl i :: r => by
  show (Z1t (r.map kD)).map _ = _;rw [Z2O r];rfl
 | .inr x :: r => by
  show (Z1t (r.map kD)).map _ = _;rw [Z2O r];rfl
theorem Z4J : ∀ {ds : List D} {k : List Key},Z1t ds = some k → ds = k.map kD
 | [],k,h => by cases h;rfl
 | d :: r,k,h => by
  cases d <;> first | (cases h;done) | skip
  · rename_i i;have h' : (Z1t r).map (Sum.inl i :: ·) = some k:=h;cases q : Z1t r with
    | none => rw [q] at h';cases h'
    | some k' =>
     rw [q] at h';cases h';rw [Z4J q];rfl
  · rename_i i;have h' : (Z1t r).map (Sum.inr i :: ·) = some k:=h;cases q : Z1t r with
    | none => rw [q] at h';cases h'
    | some k' =>
     rw [q] at h';cases h';rw [Z4J q];rfl
def kyE : Ky → D
 | .inl k => kD k
 | .inr k => .tup (k.map kD)
theorem Z9z {d : D} {k : List Key} (h : kyD d = some (.inr k)) : d = .tup (k.map kD) ∧ ∃ i r,k = .inl i :: r:=by
 unfold kyD at h
 split at h
 · cases h
 · cases h
 · rename_i i r;cases q : Z1t r with
   | none => rw [q] at h;cases h
   | some k' =>
    rw [q] at h;cases h;rw [Z4J q];exact ⟨rfl,i,k',rfl⟩
 · cases h
theorem ZaX {d : D} {k : Ky} (h : kyD d = some k) : d = kyE k:=by
 cases k with
 | inr k => exact (Z9z h).1
 | inl k =>
  unfold kyD at h
  split at h
  · cases h;rfl
  · cases h;rfl
  · rename_i i r;cases q : Z1t r with
    | none => rw [q] at h;cases h
    | some k' => rw [q] at h;cases h
  · cases h
theorem Zgu {k k' : Key} (h : kD k = kD k') : k = k':=by cases k <;> cases k' <;> cases h <;> rfl
theorem Z8F {k k' : List Key} (h : k.map kD = k'.map kD) : k = k':=by
 have:=congrArg Z1t h;rw [Z2O,Z2O] at this;exact Option.some.inj this
theorem Zdb {k k' : Ky} (h : kyE k = kyE k') : k = k':=by
 cases k <;> cases k'
 · exact congrArg _ (Zgu h)
 · rename_i a b;cases a <;> cases h
 · rename_i a b;cases b <;> cases h
 · exact congrArg _ (Z8F (D.tup.inj h))
theorem Z9A {k : Ky} {d : D} (h : kyD d = some k) (k' : Ky) : kyD (kyE k') = some k ↔ k' = k:=by
 constructor
 · intro e;exact Zdb (ZaX e)
 · intro e;subst e;rw [← ZaX h];exact h
def posD (ks : List D) (k : Ky) : Option Nat:=ks.findIdx? fun d => decide (kyD d = some k)
theorem Z7p {α : Type} {p : α → Bool} : ∀ l : List α,(l.findIdx? p = none ∧ l.find? p = none) ∨ ∃ n x,l.findIdx? p = some n ∧ l[n]? = some x ∧ l.find? p = some x
 | [] => .inl ⟨rfl,rfl⟩
 | x :: r => by
  rw [List.findIdx?_cons,List.find?_cons];cases c : p x with
  | true => exact .inr ⟨0,x,rfl,rfl,rfl⟩
  | false =>
   rcases Z7p (p:=p) r with ⟨h1,h2⟩ | ⟨n,y,h1,h2,h3⟩
   · exact .inl ⟨by rw [h1];rfl,h2⟩
   · exact .inr ⟨n + 1,y,by rw [h1];rfl,by simpa using h2,h3⟩
theorem Z7q {κ : Type} [DecidableEq κ] {enc : κ → D} {k : κ} {K0 : Ky} (h : ∀ k',kyD (enc k') = some K0 ↔ k' = k) (kvs : List (κ × V)) : posD (kvs.map fun p => enc p.1) K0 = kvs.findIdx? fun p => decide (p.1 = k):=by
 unfold posD
 induction kvs with
 | nil => rfl
 | cons p r ih =>
  rw [List.map_cons,List.findIdx?_cons,List.findIdx?_cons,ih];have e : decide (kyD (enc p.1) = some K0) = decide (p.1 = k):=by rw [decide_eq_decide];exact h p.1
  rw [e]
theorem Z9B {κ : Type} [DecidableEq κ] {enc : κ → D} {k : κ} {K0 : Ky} (h : ∀ k',kyD (enc k') = some K0 ↔ k' = k) (kvs : List (κ × V)) :
    (posD (kvs.map fun p => enc p.1) K0 = none ∧ valV kvs k = none) ∨ ∃ n v,posD (kvs.map fun p => enc p.1) K0 = some n ∧ (kvs.map (·.2))[n]? = some v ∧ valV kvs k = some v:=by
 rw [Z7q h];unfold valV;rcases Z7p (p:=fun p : κ × V => decide (p.1 = k)) kvs with ⟨h1,h2⟩ | ⟨n,x,h1,h2,h3⟩
 · exact .inl ⟨h1,by rw [h2];rfl⟩
 · exact .inr ⟨n,x.2,h1,by rw [List.getElem?_map,h2];rfl,by rw [h3];rfl⟩
theorem Z7r {k : Key} {d : D} (h : kyD d = some (.inl k)) (k' : Key) : kyD (kD k') = some (.inl k) ↔ k' = k :=
 (Z9A h (.inl k')).trans ⟨fun e => Sum.inl.inj e,fun e => by rw [e]⟩
theorem Z9C {k : List Key} {d : D} (h : kyD d = some (.inr k)) (k' : List Key) : kyD (.tup (k'.map kD)) = some (.inr k) ↔ k' = k :=
 (Z9A h (.inr k')).trans ⟨fun e => Sum.inr.inj e,fun e => by rw [e]⟩
theorem DOr.get {H : Hp} {o : Addr} {ks : List D} {vs : List V} {y : V} {d : D} {b : Bool} {k : Ky} (h : DOr b H o ks vs) (hd : kyD d = some k) (hb : k.isRight = b) (hy : KyAt H y k) :
    (posD ks k = none ∧ DGet H o y none) ∨ ∃ n v,posD ks k = some n ∧ vs[n]? = some v ∧ DGet H o y (some v):=by
 cases k with
 | inr k =>
  cases (show true = b from hb);obtain ⟨kvs,e,e1,e2⟩:=h;obtain ⟨c,hy,hc⟩:=hy;rw [← e1,← e2];rcases Z9B (Z9C hd) kvs with ⟨h1,h2⟩ | ⟨n,v,h1,h2,h3⟩
  · exact .inl ⟨h1,.inr ⟨kvs,k,c,e,hy,hc,h2.symm⟩⟩
  · exact .inr ⟨n,v,h1,h2,.inr ⟨kvs,k,c,e,hy,hc,h3.symm⟩⟩
 | inl k =>
  cases (show false = b from hb);obtain ⟨kvs,e,e1,e2⟩:=h;rw [← e1,← e2];rcases Z9B (Z7r hd) kvs with ⟨h1,h2⟩ | ⟨n,v,h1,h2,h3⟩
  · exact .inl ⟨h1,.inl ⟨kvs,k,e,hy,h2.symm⟩⟩
  · exact .inr ⟨n,v,h1,h2,.inl ⟨kvs,k,e,hy,h3.symm⟩⟩
def Zgv (ks : List D) (k : Ky) (d : D) : List D:=match posD ks k with
 | some _ => ks
 | none => ks ++ [d]
def putVs {α : Type} (ks : List D) (k : Ky) (ds : List α) (x : α) : List α:=match posD ks k with
 | some _ => List.zipWith (fun k' d' => if kyD k' = some k then x else d') ks ds
 | none => ds ++ [x]
theorem Zdc {κ : Type} [DecidableEq κ] {k : κ} (kvs : List (κ × V)) : (kvs.any fun kv => decide (kv.1 = k)) = (kvs.findIdx? fun p => decide (p.1 = k)).isSome:=by
 induction kvs with
 | nil => rfl
 | cons p r ih =>
  rw [List.any_cons,List.findIdx?_cons,ih];cases c : decide (p.1 = k) with
  | true => rfl
  | false =>
   show (false || _) = _;rw [Bool.false_or];cases r.findIdx? (fun p => decide (p.1 = k)) <;> rfl
theorem Z9D {κ : Type} [DecidableEq κ] {enc : κ → D} {k : κ} {K0 : Ky} {v : V} (h : ∀ k',kyD (enc k') = some K0 ↔ k' = k) (kvs : List (κ × V)) :
    (putK kvs k v).map (fun p => enc p.1) = Zgv (kvs.map fun p => enc p.1) K0 (enc k) ∧ (putK kvs k v).map (·.2) = putVs (kvs.map fun p => enc p.1) K0 (kvs.map (·.2)) v:=by
 unfold putK Zgv putVs;rw [Zdc,Z7q h];cases q : kvs.findIdx? (fun p => decide (p.1 = k)) with
 | none =>
  simp only [Option.isSome_none,Bool.false_eq_true,if_false];exact ⟨by rw [List.map_append];rfl,by rw [List.map_append];rfl⟩
 | some n =>
  simp only [Option.isSome_some,if_true];clear q
  induction kvs with
  | nil => exact ⟨rfl,rfl⟩
  | cons p r ih =>
   simp only [List.map_cons,List.zipWith_cons_cons];refine ⟨?_, ?_⟩
   · rw [ih.1];by_cases c : p.1 = k
     · rw [Yj c]
     · rw [Yk c]
   · rw [ih.2];by_cases c : p.1 = k
     · rw [Yj c,Yj ((h p.1).mpr c)]
     · rw [Yk c,Yk (fun z => c ((h p.1).mp z))]
theorem DOb.put {H : Hp} {o : Addr} {ks : List D} {vs : List V} {y v : V} {d : D} {b : Bool} {k : Ky} (h : DOb b H o ks vs) (hd : kyD d = some k) (hb : k.isRight = b) (hy : KyAt H y k) (hl : ks.length < sizeLine) :
    ∃ u,DPut H o y v (upd H o u) ∧ nxo u = true ∧ (∀ ob z,u ≠ .frz ob z) ∧ DOb b (upd H o u) o (Zgv ks k d) (putVs ks k vs v):=by
 cases k with
 | inr k =>
  cases (show true = b from hb);obtain ⟨kvs,e,e1,e2⟩:=h;obtain ⟨c,hy,hc⟩:=hy;have hl' : kvs.length < sizeLine:=by rw [← e1,Yi] at hl;exact hl
  obtain ⟨m1,m2⟩:=Z9D (v:=v) (Z9C hd) kvs;rw [← e1,← e2];refine ⟨.dT (putK kvs k v),.inr ⟨kvs,k,c,e,hy,hc,hl',rfl⟩,rfl,fun _ _ z => (by cases z),putK kvs k v,upd_same, ?_,m2⟩;rw [m1,(Z9z hd).1]
 | inl k =>
  cases (show false = b from hb);obtain ⟨kvs,e,e1,e2⟩:=h;have hl' : kvs.length < sizeLine:=by rw [← e1,Yi] at hl;exact hl
  obtain ⟨m1,m2⟩:=Z9D (v:=v) (Z7r hd) kvs;rw [← e1,← e2];refine ⟨.dK (putK kvs k v),.inl ⟨kvs,k,e,hy,hl',rfl⟩,rfl,fun _ _ z => (by cases z),putK kvs k v,upd_same, ?_,m2⟩;rw [m1,show d = kD k from ZaX hd]
theorem RepL.putVs {K : KF} {F : Hp} {v : V} {d : D} {k : Ky} (r1 : Rep K F v d) : ∀ {ks : List D} {vs : List V} {ds : List D},RepL K F vs ds → RepL K F (List.zipWith (fun k' d' => if kyD k' = some k then v else d') ks vs) (List.zipWith (fun k' d' => if kyD k' = some k then d else d') ks ds)
 | [],_,_,_ => by simp only [List.zipWith_nil_left];exact .nil
 | k0 :: ks,_,_,.nil => by simp only [List.zipWith_nil_right];exact .nil
 | k0 :: ks,_,_,.cons h1 h2 => by
  simp only [List.zipWith_cons_cons];by_cases c : kyD k0 = some k
  · rw [Yj c,Yj c];exact .cons r1 (h2.putVs r1)
  · rw [Yk c,Yk c];exact .cons h1 (h2.putVs r1)
theorem RepL.put {K : KF} {F : Hp} {v : V} {d : D} {k : Ky} {ks : List D} {vs : List V} {ds : List D} (r1 : Rep K F v d) (r : RepL K F vs ds) : RepL K F (Dl.putVs ks k vs v) (Dl.putVs ks k ds d):=by
 unfold Dl.putVs;cases posD ks k with
 | none => exact r.app (.cons r1 .nil)
 | some n => exact RepL.putVs r1 r
def kyB (ks : List D) (b : Bool) : Bool:=ks.all fun k => match k with
 | .tup _ => b
 | _ => !b
theorem DOr.kind {H : Hp} {o : Addr} {ks : List D} {vs : List V} {b b' : Bool} (h : DOr b H o ks vs) (hn : ks ≠ []) (hb : kyB ks b' = true) : b = b':=by
 cases b with
 | true =>
  obtain ⟨kvs,_,e,_⟩:=h;cases kvs with
  | nil => exact absurd e.symm hn
  | cons p r => subst e;have:=List.all_eq_true.mp hb _ Ya;simpa using this.symm
 | false =>
  obtain ⟨kvs,_,e,_⟩:=h;cases kvs with
  | nil => exact absurd e.symm hn
  | cons p r =>
   subst e;have:=List.all_eq_true.mp hb _ Ya;obtain ⟨k,v⟩:=p;cases k <;> simpa [kD] using this
end Dl
namespace Dl
open PySem PySem.Spec PyProof.Rows L2
end Dl
namespace Dl
open PySem PySem.Spec PyProof.Rows L2
variable [Tbs]
def mmD (mx : Bool) : List Int → Option Int
 | [] => none
 | x :: r => some (r.foldl (fun a b => if mx = true then (if a < b then b else a) else (if b < a then b else a)) x)
theorem Zdd : ∀ {ns : List Int} {m : Int},m ∈ ns → (∀ a ∈ ns,a ≤ m) → mmD true ns = some m:=by
 intro ns;cases ns with
 | nil => intro m h;cases h
 | cons x r =>
  have key : ∀ (r : List Int) (x : Int),(r.foldl (fun a b => if a < b then b else a) x) ∈ x :: r ∧ ∀ a ∈ x :: r,a ≤ r.foldl (fun a b => if a < b then b else a) x:=by
   intro r
   induction r with
   | nil => intro x;exact ⟨Ya,fun a ha => by simp at ha;subst ha;exact Int.le_refl _⟩
   | cons y r ih =>
    intro x;obtain ⟨h1,h2⟩:=ih (if x < y then y else x);refine ⟨?_,fun a ha => ?_⟩
    · rw [List.foldl_cons];rcases Yc.mp h1 with e | e
      · rw [e];by_cases c : x < y
        · rw [Yj c];exact Yb _ Ya
        · rw [Yk c];exact Ya
      · exact Yb _ (Yb _ e)
    · rw [List.foldl_cons];have hx:=h2 _ Ya;rcases Yc.mp ha with e | e
      · subst e;by_cases c : a < y
        · rw [Yj c] at hx ⊢;omega
        · rw [Yk c] at hx ⊢;omega
      · rcases Yc.mp e with e | e
        · subst e;by_cases c : x < a
          · rw [Yj c] at hx ⊢;omega
          · rw [Yk c] at hx ⊢;omega
        · exact h2 a (Yb _ e)
  intro m hm hle;obtain ⟨h1,h2⟩:=key r x;show some _ = some _
  congr 1
  have a:=h2 m hm;have b:=hle _ h1;show r.foldl (fun a b => if a < b then b else a) x = m;omega
end Dl
namespace Dl
open PySem PySem.Spec PyProof.Rows L2
end Dl
namespace Dl
open PySem PySem.Spec PyProof.Rows L2
variable [Tbs]
end Dl
namespace Dl
open PySem PySem.Spec PyProof.Rows L2
end Dl
namespace Dl
open PySem PySem.Spec PyProof.Rows L2 LamX
variable [Tbs]
def LamH (H : Hp) (P : Addr) (q : Str) (ps : Array Value) (pos : Pos) (c' : Addr) (H1 : Hp) : Prop:=H1 = H ∨ (H c' = none ∧ H1 = upd (upd H P (.tbl (ps ++ #[rawInt pos.line,rawInt pos.col,.ref c']))) c' (CodeO c' q))
section
variable {X : Cx} {pins : List (Addr × Obj)} {σ : L2.St} {H : Hp} {s : Shared}
theorem ZaY {c P : Addr} {params : Arguments} {body : Expr} {scope : Scope} {pos : Pos} {ps : Array Value} {E : Value → Shared → Prop} {Q : Value → Shared → Prop} (I : Inv X pins σ H s) (TB : TabB X.base X.mg c P) (hcode : X.env.code = .ref c)
    (hP : H P = some (.tbl ps)) (ht : TriplesOk ps.toList) (ha : ∀ (pos : Pos) (cv : Value),codeAmong pos ps.toList = some cv → ∃ c,cv = .ref c ∧ H c = some (CodeO c (X.env.qual ++ "<lambda>"))) (hdef : defaultsOf params X.env = ([],[])) (hfree : ∀ y ∈ scope.names,y.2 = .free → ∃ c,X.env.cells.lookup y.1 = some c)
    (h : ∀ (f c' : Addr) (pm ctv : Value) (H1 : Hp) (s' : Shared),Inv X pins σ H1 s' → LamH H P (X.env.qual ++ "<lambda>") ps pos c' H1 →
     s'.heap.get? f = some (PySem.W.kla_obj "<lambda>" (X.env.qual ++ "<lambda>") params body scope (cloFrom X.env.cells scope.names []) pm c' ctv) → H1 f = none → f ∉ frs X.stack → H1 c' = some (CodeO c' (X.env.qual ++ "<lambda>")) → Q (.ref f) s') :
    wpAny (model X.prog X.w) X.A (eval (.Lambda params body scope pos) X.env) Q E s:=by
 have bP : s.heap.BuiltinsAt X.mg P:=TB.bm.keeps I.bk;have hP' : s.heap.get? P = some { cls:=.none,data:=.fields ps }:=I.hok P _ hP;have young : ∀ f,s.heap.objs.size ≤ f → f ∉ frs X.stack:=fun f hf z => by
  rcases Yc.mp (I.stkSub _ z) with e | e
  · exact absurd I.lt (by rw [← e];exact Nat.not_lt.mpr hf)
  · exact I.nofs hf e
 refine PySem.W.kla_eval hdef ?_;cases hc : codeAmong pos ps.toList with
 | some cv =>
  obtain ⟨c',rfl,hco⟩:=ha pos cv hc;refine PySem.W.kla_makeFunctionHit (mg:=X.mg) (c:=c) (P:=P) (ps:=ps) (closure_ok hfree) I.ok.glob (I.mod.glob.keeps I.bk) hcode (TB.code.keeps I.bk) hP' ht hc bP fun ctv h' tk hx hsz => ?_;exact h h'.objs.size c' _ ctv H _ (I.kept fun b o e => Heap.get?_push_of_some _ (hx b o e)) (.inl rfl) (Heap.get?_push_size _ rfl) (I.hok.fresh hsz) (young _ hsz) hco
 | none =>
  refine PySem.W.kla_makeFunction (mg:=X.mg) (c:=c) (P:=P) (ps:=ps) (closure_ok hfree) I.ok.glob (I.mod.glob.keeps I.bk) hcode (TB.code.keeps I.bk) hP' ht hc TB.gP bP fun c' ctv h' tk hx hge hlt hrec htb => ?_;obtain ⟨_,oc,vs,t,ec,hoc,hd,hv⟩:=hrec;cases ec;have hsz : s.heap.objs.size ≤ h'.objs.size:=Nat.le_trans hge (Nat.le_of_lt hlt);have nC : H c' = none:=I.hok.fresh hge;have n1 : h'.objs.size ≠ c':=Nat.ne_of_gt hlt;have n2 : h'.objs.size ≠ P:=Nat.ne_of_gt (Nat.lt_of_lt_of_le (Heap.lt_size hP') hsz);refine h h'.objs.size c' ((X.mg "__name__").getD .none) ctv _ _ (inv_table (t':=tk) (more:=#[rawInt pos.line,rawInt pos.col,.ref c']) I hP (fun b o hb e => Heap.get?_push_of_some _ (hx b o hb e)) (Heap.get?_push_of_some _ htb) hge ⟨oc,vs,t,Heap.get?_push_of_some _ hoc,hd,hv⟩) (.inr ⟨nC,rfl⟩) (Heap.get?_push_size _ rfl) ?_ (young _ hsz) upd_same;rw [upd_ne n1,upd_ne n2];exact I.hok.fresh hsz
end
section
variable {K : KF} {ios : Ios} {B : Bs} {F : Hp} {W : Wm} {E : Nv} {σ : L2.St} {H H1 : Hp}
theorem Z9E {P c' : Addr} {q : Str} {ps : Array Value} {pos : Pos} (S : St K ios B F W E σ H) (hn : Tbs.n P = some q) (hP : H P = some (.tbl ps)) (lh : LamH H P q ps pos c' H1) : Stp F W H F W H1:=by
 rcases lh with rfl | ⟨nC,rfl⟩
 · exact Stp.refl _ _ _
 have tw:=S.tbs P q hn;have nPc : P ≠ c':=ne_of_none hP nC;have at_ : ∀ b,b ≠ P → b ≠ c' → upd (upd H P (.tbl (ps ++ #[rawInt pos.line,rawInt pos.col,.ref c']))) c' (CodeO c' q) b = H b:=fun b h1 h2 => by rw [upd_ne h2,upd_ne h1]
 have atP : upd (upd H P (.tbl (ps ++ #[rawInt pos.line,rawInt pos.col,.ref c']))) c' (CodeO c' q) P = some (.tbl (ps ++ #[rawInt pos.line,rawInt pos.col,.ref c'])):=by rw [upd_ne nPc,upd_same]
 have stay : ∀ a o,H a = some o → a ≠ P → upd (upd H P (.tbl (ps ++ #[rawInt pos.line,rawInt pos.col,.ref c']))) c' (CodeO c' q) a = some o:=fun a o h n => by rw [at_ a n (ne_of_none h nC)];exact h
 have nW : W c' = none:=by
  cases e : W c' with
  | none => rfl
  | some l =>
   obtain ⟨_,o,h,_⟩:=S.ow c' l e;rw [nC] at h;cases h
 refine ⟨Same.refl F,fun _ _ h _ => .inl h,fun _ _ h => h,fun _ _ h => .inl h,fun a o h _ tn => stay a o h fun z => ?_,fun a o h => ?_,fun a o f h => stay a o h fun z => ?_,fun P2 q2 tw2 => ?_⟩
 · subst z;rw [hP] at h;cases h;exact tn _ rfl
 · by_cases z : a = P
   · exact ⟨_,by rw [z];exact atP⟩
   · exact ⟨o,stay a o h z⟩
 · subst z;rw [tw.1] at f;cases f
 · by_cases z : P2 = P
   · subst z;obtain ⟨h1,h2,ps',h3,⟨h4,h5⟩,h6⟩:=tw2;rw [hP] at h3;cases h3;rw [hn] at h5;cases h5;have eL : (ps ++ #[rawInt pos.line,rawInt pos.col,Value.ref c']).toList = ps.toList ++ [rawInt pos.line,rawInt pos.col,.ref c']:=by simp
     refine ⟨h1,h2,_,atP,⟨by rw [eL];exact PySem.TriplesOk_snoc _ _ _ _ h4,hn⟩,fun p' cv e => ?_⟩;rw [eL] at e;rcases among_app _ h4 e with e | e
     · obtain ⟨c0,e1,e2,e3⟩:=h6 p' cv e;exact ⟨c0,e1,e2,stay _ _ e3 fun z => by rw [z,hP] at e3;exact codeO_ne ps (Option.some.inj e3).symm⟩
     · exact ⟨c',e,nW,upd_same⟩
   · obtain ⟨h1,h2,ps',h3,h4,h6⟩:=tw2;refine ⟨h1,h2,ps',stay _ _ h3 z,h4,fun p' cv e => ?_⟩;obtain ⟨c0,e1,e2,e3⟩:=h6 p' cv e;exact ⟨c0,e1,e2,stay _ _ e3 fun z => by rw [z,hP] at e3;exact codeO_ne ps (Option.some.inj e3).symm⟩
theorem St.lam {P c' : Addr} {q : Str} {ps : Array Value} {pos : Pos} (S : St K ios B F W E σ H) (hn : Tbs.n P = some q) (hP : H P = some (.tbl ps)) (lh : LamH H P q ps pos c' H1) : St K ios B F W E σ H1:=by
 have t:=Z9E S hn hP lh;have stay : ∀ a o,H a = some o → nxo o = true → H1 a = some o:=fun a o h n => by
  rcases lh with rfl | ⟨nC,rfl⟩
  · exact h
  · rw [upd_ne (ne_of_none h nC),upd_ne (fun z => by subst z;rw [hP] at h;cases h;cases n)];exact h
 refine ⟨fun a o f => t.fk a o f (S.fh a o f),S.st.trans t,fun a ob u e => ?_,fun a l w => ?_,S.fr,S.w0,fun i t0 d e => ?_,S.pn,S.ln,S.xo⟩
 · rcases lh with rfl | ⟨nC,rfl⟩
   · exact S.nz a ob u e
   · by_cases z : a = c'
     · subst z;rw [upd_same] at e;exact absurd e (by unfold CodeO;intro y;cases y)
     · rw [upd_ne z] at e;by_cases z2 : a = P
       · subst z2;rw [upd_same] at e;cases e
       · rw [upd_ne z2] at e;exact S.nz a ob u e
 · obtain ⟨h1,o,h2,h3⟩:=S.ow a l w;exact ⟨h1,o,stay a o h2 h3,h3⟩
 · obtain ⟨v,h1,h2⟩:=S.vr i t0 d e;exact ⟨v,h1,h2.keep (Same.refl F) (fun _ _ z => z) fun a l o w h => by
    obtain ⟨_,o',z1,z2⟩:=S.ow a l w;rw [h] at z1;cases z1;exact stay a o h z2⟩
theorem St.byN {F3 H3 : Hp} {W3 : Wm} (S : St K ios B F W E σ H) (t : Stp F Dl.noW H F3 W3 H3) (fh : Same F3 H3) (nz : NoFz H3) : St K ios B F3 W E σ H3 ∧ Stp F W H F3 W H3:=by
 have own : ∀ a l,W a = some l → ∃ o,H3 a = some o ∧ nxo o = true:=fun a l w => by
  obtain ⟨_,o,z1,z2⟩:=S.ow a l w;exact ⟨o,t.hx a o z1 rfl (Z1y z2),z2⟩
 have s : Stp F W H F3 W H3:=⟨t.fx,t.fn,fun _ _ h => h,fun _ _ h => .inl h,fun a o h _ tn => t.hx a o h rfl tn,t.hd,t.fk,fun P q tw => (t.tb P q (tw.w fun a l z => by cases z)).w own⟩;refine ⟨⟨fh,S.st.trans s,nz,fun a l w => ?_,S.fr,S.w0,fun i t0 d e => ?_,S.pn,S.ln,S.xo⟩,s⟩
 · obtain ⟨h1,o,h2,h3⟩:=S.ow a l w;have h4:=t.hx a o h2 rfl (Z1y h3);exact ⟨s.nf fh h1 h2 h4 h3,o,h4,h3⟩
 · obtain ⟨v,h1,h2⟩:=S.vr i t0 d e;exact ⟨v,h1,h2.keep t.fx (fun _ _ z => z) fun a l o w h => by
    obtain ⟨_,o',z1,z2⟩:=S.ow a l w;rw [h] at z1;cases z1;exact t.hx a o h rfl (Z1y z2)⟩
end
theorem Zgw {E : Nv} {i : Nat} {t : Ow} {d : D} (h : (bl E)[i]? = some (some (t,d))) : t = .sh ∧ E[i]? = some (~~~d):=by
 unfold bl at h;rw [List.getElem?_map] at h;cases q : E[i]? with
 | none => rw [q] at h;cases h
 | some o =>
  rw [q] at h;cases o with
  | none => cases h
  | some p =>
   obtain ⟨t0,d0⟩:=p;cases t0 with
   | sh => cases h;exact ⟨rfl,rfl⟩
   | _ => cases h
theorem Zgx (E : Nv) : (bl E).length = E.length:=by unfold bl;rw [Yi]
section
variable {P : Program} {w : World} {K : KF} {mg : Str → Option Value} {base : Heap}
theorem Zgy {x qual : Str} {params : Arguments} {body : List Stmt} {scope : Scope} {dvs : List V} {kws : List (Str × V)} {f : Addr} {fd : FuncData} {N ps : List Str} {k : Nat} {A : Around} {outer : List Env} {s : Shared} {H : Hp} {args : Args} {us : List Value} {vs : List V} {Q : VK} {E : XK}
    (F : FunD K x qual params body scope dvs kws f fd) (S : FnScope N ps scope) (vl : vs.length = ps.length) (room : Room (k + 1) A) (guards : A.guards = some []) (env : Env0 P w K mg base A outer s H) (binds : BindsTo s fd args (ps.zip us)) (vals : Vals vs us)
    (hb : ∀ (cdv : Value),Room k (A.deeper (envOfC qual scope s.heap.objs.size f cdv)) → (A.deeper (envOfC qual scope s.heap.objs.size f cdv)).guards = some [] →
     ∃ t,PSs (cxOf (Cxt P w) P w K mg base N qual scope f cdv A outer s H E) body t ∧ t { nx:=fun _ H' => Q .non H',rt:=Q } (L2.start N vs) H) : codeAny (model P w) A (.call (.ref f) args) (CR (Cxt P w) outer P w H s Q E) s:=by
 obtain ⟨oc,od,dV,kV,doc,pm,an,cdv,ct,osl,efd,lk,hcd,_,_⟩:=F.ex;subst efd;have stays : ∀ b o,base.get? b = some o → s.heap.get? b = some o:=fun b o z => (env.bs b o z).1;have inHeap : K.In s.heap:=env.mod.kin.keeps stays;have kinds : ∀ y ∈ ps.zip us,scope.names.lookup y.1 = some .local ∨ (scope.names.lookup y.1 = some .cell ∧ ((cellsFrom (s.heap.objs.size + 1) scope.names []).lookup y.1).isSome = true):=by
  rintro ⟨n,v⟩ hy
  cases S.par n (List.of_mem_zip hy).1 with
  | inl q => exact Or.inl q
  | inr q => exact Or.inr ⟨q,PySem.W.cellsFrom_some _ _ _ (Or.inl q)⟩
 refine codeAny_call_function room.depth (inHeap _ _ lk) rfl S.co S.gen rfl (PySem.W.codeRec_of inHeap hcd) (binds _ _ _ _ (wpAny_newFunctionEnv_cells S.kind kinds ?_));intro env' e' s1 ic;subst e';refine ⟨(env.mod.nolimit.keeps stays).keeps ic.toInCall.keep,codeAny_func ?_⟩;obtain ⟨t,pt,rd⟩:=hb cdv (room.deeper _) guards;have inv : Inv (cxOf (Cxt P w) P w K mg base N qual scope f cdv A outer s H E) [] (L2.start N vs) H s1:=inv_start S room.hd env vl vals ic;refine wpAny_mono (pt.run [] s1 (L2.start N vs) H _ inv rd) ?_ fun e s' z => z;intro fl s' z;cases fl with
 | ret u =>
  obtain ⟨v,σ',H',J,rv,q⟩:=z;exact ⟨v,H',J.os,J.bare,J.base,J.hok,rv,q⟩
 | next =>
  obtain ⟨σ',H',J,q⟩:=z;exact ⟨.non,H',J.os,J.bare,J.base,J.hok,rfl,q⟩
 | brk =>
  obtain ⟨_,_,_,q⟩:=z;exact q.elim
 | cont =>
  obtain ⟨_,_,_,q⟩:=z;exact q.elim
end
theorem XRep.off {K : KF} {F G H : Hp} {x : Xn} {c : Value} {dx : Option Addr} (e : ∀ a o,F a = some o → nxd o = true → G a = some o) (h : XRep K F H x c dx) : XRep K G H x c dx:=by
 obtain ⟨h1,h2 | ⟨a,fs,e1,e2,e3,r⟩⟩:=h
 · exact ⟨h1,.inl h2⟩
 · exact ⟨h1,.inr ⟨a,fs,e1,e2,e3,RepL.off e _ r⟩⟩
theorem St.blank2 {K : KF} {ios : Ios} {B : Bs} {F : Hp} {W : Wm} {E : Nv} {σ : L2.St} {H : Hp} (S : St K ios B F W E σ H) : St K ios ⟨B.pn,F,Dl.noW,H⟩ F Dl.noW (bl E) σ H where
 fh:=S.fh
 st:=Stp.refl _ _ _
 nz:=S.nz
 ow:=fun a l z => by cases z
 fr:=fun a l z => by cases z
 w0:=fun a l z => by cases z
 vr:=fun i t d e => by
  obtain ⟨rfl,e2⟩:=Zgw e;obtain ⟨v,h1,h2⟩:=S.vr i _ d e2;exact ⟨v,h1,h2⟩
 pn:=S.pn
 ln:=by rw [Zgx];exact S.ln
 xo:=⟨ios.mono S.st.fx S.xo.1,fun P q n => (S.tbs P q n).w fun a l z => by cases z⟩
theorem Fresh.byN {H F3 : Hp} {W3 W Wr : Wm} {H3 : Hp} (fr : Fresh Wr H F3 W3 H3) (nw : ∀ a,H a = none → W a = none) : Fresh Wr H F3 W H3:=fun a l z => by
 obtain ⟨z1,_,z3⟩:=fr a l z;exact ⟨z1,nw a z1,z3⟩
end Dl
namespace Dl
open PySem PySem.Spec PyProof.Rows L2 LamX
@[reducible] def Z9F (K : KF) (tf : Tfs) : Tbs:=⟨tbN K tf⟩
theorem Z9G {K : KF} {p : Str × Option Str} {cdv : Value} (h : cdv = .ref (cOf K (He.fAd K p))) : cdv = .ref (He.cT K p).1:=h
def Z9H (K : KF) (tf : Tfs) (a : Addr) (o : Obj) (ns : List Int) : Hp:=fun b => if b ∈ tf.map (fun p => (He.cT K p.1).2) then some (.tbl #[]) else lone K a o ns b
theorem Z66 {K : KF} {tf : Tfs} {a b : Addr} {o : Obj} {ns : List Int} (h : b ∈ tf.map (fun p => (He.cT K p.1).2)) : Z9H K tf a o ns b = some (.tbl #[]):=Yj h
theorem Z4K {K : KF} {tf : Tfs} {a b : Addr} {o : Obj} {ns : List Int} {u : HO} (h : Z9H K tf a o ns b = some u) : (b ∈ tf.map (fun p => (He.cT K p.1).2) ∧ u = .tbl #[]) ∨ (b = a ∧ K.lookup a = none ∧ u = .frz o (.lst (ns.map V.int))):=by
 unfold Z9H at h;by_cases c : b ∈ tf.map (fun p => (He.cT K p.1).2)
 · rw [Yj c] at h;cases h;exact .inl ⟨c,rfl⟩
 · rw [Yk c] at h;exact .inr (Z9u h)
theorem Zgz {tf : Tfs} {P : Program} {w : World} {K : KF} {mg mb : Str → Option Value} {k : Nat} {fa a : Addr} {fd : FuncData} {x : Str} {m : Fm} {sA : Shared} {vs : List Value} {ns : List Int}
    (kx : K.In sA.heap) (gl : sA.heap.Ns mainGlobals mg) (bl : sA.heap.Ns builtinsNs mb) (bb : ∀ x : Str,x ≠ "__name__" → mb x = bootBuiltins x) (nl : sA.heap.NoLimit) (ge : sA.gens = #[]) (tt : TabF K tf sA.heap)
    (hbm : ∃ (bm : Addr) (ob : Obj),mg "__builtins__" = some (.ref bm) ∧ bm ≠ builtinsNs ∧ sA.heap.get? bm = some ob ∧ ob.cls = .type "module" ∧ ob.dict = some builtinsNs ∧ ob.data = .plain)
    (ha : sA.heap.get? a = some { cls:=.type "list",data:=.seq vs.toArray }) (hi : IntsAre vs ns) (hl : ns.length ≤ sizeLine) (hr : Room k callerA)
    (F : ∀ base : Heap,K.In base → base.Ns mainGlobals mg → @TbOk (Z9F K tf) K mg base tf → FnG P w K mg base k fa fd [x] (@spD (Z9F K tf) K 1 [] m)) (hbd : ∀ (s : Shared) (u : Value),BindsTo s fd ⟨[u],[]⟩ [(x,u)])
    (hm : ∃ E,m [(.sh,.frl ns)] = .ok (.sh,.bl true) E) :
    codeAny (model P w) callerA (.call (.ref fa) ⟨[.ref a],[]⟩) (fun r s' => r = .ok (.ret (.bool true)) ∧ OldK sA.heap s'.heap ∧ s'.os = sA.os ∧ AllBare s'.gens) sA:=by
 have rv:=vals_ints hi;have nv:=hi.length
 let ts : List Addr:=tf.map fun p => (He.cT K p.1).2
 let oL : Obj:={ cls:=.type "list",data:=.seq vs.toArray }
 let H : Hp:=Z9H K tf a oL ns
 have emp : ∀ b ∈ ts,sA.heap.get? b = some { cls:=.none,data:=.fields #[] }:=fun b hb => by
  obtain ⟨p,hp,rfl⟩:=Ye.mp hb;exact tt.em p hp
 have noK : ∀ b ∈ ts,K.lookup b = none:=fun b hb => by
  obtain ⟨p,hp,rfl⟩:=Ye.mp hb;exact tt.out p hp
 have aN : a ∉ ts:=fun z => by
  have e:=emp a z;rw [ha] at e;have e' : Data.seq vs.toArray _ = Data.fields #[]:=congrArg Obj.data (Option.some.inj e);cases e'
 -- what no list and no table is stays to be seen
 have seen : ∀ {b : Addr} {o : Obj},sA.heap.get? b = some o → b ∉ ts → (b ≠ a ∨ ∃ u,K.lookup a = some u) → (hidT sA.heap H).get? b = some o:=fun {b o} e nt c => hidT_get e (by
  cases q : H b with
  | none => rfl
  | some u =>
   rcases Z4K q with ⟨z,_⟩ | ⟨z1,z2,_⟩
   · exact absurd z nt
   · rcases c with c | ⟨u',c⟩
     · exact absurd z1 c
     · rw [z2] at c;cases c)
 have notT : ∀ {b : Addr} {o : Obj},sA.heap.get? b = some o → o.data ≠ .fields #[] → b ∉ ts:=fun {b o} e d z => by
  have:=emp b z;rw [e] at this;cases this;exact d rfl
 have notA : ∀ {b : Addr} {o : Obj},sA.heap.get? b = some o → (∀ xs n,o.data ≠ .seq xs n) → b ≠ a:=fun {b o} e d z => by
  subst z;rw [ha] at e;cases e;exact d _ _ rfl
 have dictB : ∀ {b : Addr} {m : Str → Option Value},sA.heap.Ns b m → (hidT sA.heap H).Ns b m:=fun {b m} ⟨o,es,ep,e,d,r⟩ => by
  refine ⟨o,es,ep,seen e (notT e fun z => ?_) (.inl (notA e fun xs n z => ?_)),d,r⟩
  · rw [d] at z;cases z
  · rw [d] at z;cases z
 have kB : K.In (hidT sA.heap H):=fun b o e => seen (kx b o e) (fun z => by rw [noK b z] at e;cases e) (by
  by_cases c : b = a
  · subst c;exact .inr ⟨o,e⟩
  · exact .inl c)
 have modB : Mod K mg (hidT sA.heap H):=⟨kB,dictB gl,⟨mb,dictB bl,bb⟩,let ⟨mc,h1,h2⟩:=nl;⟨mc,dictB h1,h2⟩⟩;have hok : HOk P w H sA.heap:=fun b u q => by
  rcases Z4K q with ⟨z,rfl⟩ | ⟨rfl,z2,rfl⟩
  · exact emp b z
  · exact ⟨ha,by rw [Yi];exact hl,vs,_,rv,ha⟩
 have tb : @TbOk (Z9F K tf) K mg (hidT sA.heap H) tf:=fun p hp => by
  refine ⟨⟨PySem.W.codeHd_of_K kB (tt.hd p hp), ?_,fun z => ?_⟩,tt.nm p hp⟩
  · obtain ⟨bm,ob,b1,b2,b3,b4,b5,b6⟩:=hbm;refine ⟨bm,ob,b1,b2,fun z => ?_,fun z => ?_,seen b3 (notT b3 fun z => by rw [b6] at z;cases z) (.inl (notA b3 fun xs n z => by rw [b6] at z;cases z)),b4,b5,b6⟩
    · obtain ⟨o,es,ep,e,hd,_⟩:=gl;rw [z,e] at b3;cases b3;rw [hd] at b6;cases b6
    · rw [z,tt.em p hp] at b3;cases b3;cases b6
  · obtain ⟨o,es,ep,e,hd,_⟩:=gl;rw [z,tt.em p hp] at e;cases e;cases hd
 have env : Env0 P w K mg (hidT sA.heap H) callerA [] sA H :=
  ⟨rfl,modB,fun b o e => of_hidT e,Nat.le_of_eq (hidT_size _ _),trivial,fun b hb => absurd (show b ∈ ([] : List Addr) from hb) List.not_mem_nil,hok,.of_eq ge⟩
 have seq : SqL K H a (ns.map V.int):=by
  cases q : K.lookup a with
  | some o =>
   have e:=kx a o q;rw [ha] at e;cases e;exact .inr ⟨_,vs.toArray,_,q,rfl,rfl,rfl,by rw [List.size_toArray,nv];exact hl,by simpa using rv⟩
  | none =>
   refine .inl (.inr ⟨oL, ?_⟩);show Z9H K tf a oL ns a = _;unfold Z9H lone;rw [Yk aN,Yj rfl,q]
 have seqF : SqL K (lone K a oL ns) a (ns.map V.int):=by
  cases q : K.lookup a with
  | some o =>
   have e:=kx a o q;rw [ha] at e;cases e;exact .inr ⟨_,vs.toArray,_,q,rfl,rfl,rfl,by rw [List.size_toArray,nv];exact hl,by simpa using rv⟩
  | none =>
   refine .inl (.inr ⟨oL, ?_⟩);unfold lone;rw [Yj rfl,q]
 have fh : Same (lone K a oL ns) H:=fun b u q => by
  obtain ⟨rfl,z2,z3⟩:=Z9u q;show Z9H K tf b oL ns b = _;unfold Z9H;rw [Yk aN];exact q
 obtain ⟨E,em⟩:=hm;have wish : @spD (Z9F K tf) K 1 [] m [.ref a] H (fun v _ => v = .bl true) fun _ _ _ => False:=by
  letI : Tbs:=Z9F K tf
  refine ⟨rfl,lone K a oL ns,Dl.noW,[(.sh,.frl ns)],⟨fh,fun b o u q => ?_,fun b l z => ?_,fun b l z => ?_,rfl,fun i v t d e1 e2 => ?_,fun Q q n => ?_⟩, ?_⟩
  · rcases Z4K q with ⟨_,z⟩ | ⟨_,_,z⟩
    · cases z
    · intro xs e;subst e;cases z
  · cases (show (none : Option Lab) = some l from z)
  · cases (show (none : Option Lab) = some l from z)
  · cases i with
    | zero =>
     cases (show some (V.ref a) = some v from e1);cases (show some (Ow.sh,D.frl ns) = some (t,d) from e2);exact Rep.frl seqF hl
    | succ i => simp at e1
  · have n' : tbN K tf Q = some q:=n;unfold tbN at n';obtain ⟨p,hp,rfl⟩:=Option.map_eq_some_iff.mp n';have pm:=List.mem_of_find?_eq_some hp;have e1 : (He.cT K p.1).2 = Q:=by
     have:=List.find?_some (p:=fun p : (Str × Option Str) × Str => (He.cT K p.1).2 == Q) hp
     simpa using this
    subst e1;have qm : (He.cT K p.1).2 ∈ ts:=Ye.mpr ⟨p,pm,rfl⟩;have fN : lone K a oL ns (He.cT K p.1).2 = none:=ZcQ fun z => aN (z ▸ qm);refine ⟨fN,rfl,#[],Z66 qm,⟨True.intro,n⟩,fun pos cv hc => ?_⟩;have z : codeAmong pos [] = some cv:=hc;simp [codeAmong] at z
  · rw [em];intro F' W' H' v Wr _ _ r;cases (show Rep K F' v (.bl true) from r);rfl
 refine codeAny_mono ((F _ kB (dictB gl) tb).run callerA [] sA H ⟨[.ref a],[]⟩ [.ref a] [.ref a] _ _ hr rfl env (hbd sA (.ref a)) (.cons rfl .nil) wish) fun r s' h => ?_
 match r,h with
 | .error e,h =>
  obtain ⟨_,_,_,_,_,_,_,_,_,_,_,_,z⟩:=h;exact z.elim
 | .ok .next,h => exact h.elim
 | .ok .brk,h => exact h.elim
 | .ok .cont,h => exact h.elim
 | .ok (.ret u),h =>
  obtain ⟨v,H',os,bare,un,hok',r',q⟩:=h;cases (show v = .bl true from q);cases (show u = Value.bool true from r');have stay : ∀ b o,b ∉ ts → sA.heap.get? b = some o → s'.heap.get? b = some o:=fun b o nb e => by
   cases q : H b with
   | none => exact un.keep b o e q (fun z => absurd (show b ∈ ([] : List Addr) from z) List.not_mem_nil) (fun z => absurd (show b ∈ ([] : List Addr) from z) List.not_mem_nil)
   | some u =>
    rcases Z4K q with ⟨z,_⟩ | ⟨_,_,rfl⟩
    · exact absurd z nb
    · have z2:=un.frzs b _ _ q;have e1:=(hok b _ q).1;have e2:=(hok' b _ z2).1;rw [e] at e1;cases e1;exact e2
  have more : ∀ p ∈ tf,∃ xs : Array Value,s'.heap.get? (He.cT K p.1).2 = some { cls:=.none,data:=.fields xs }:=fun p hp => by
   obtain ⟨xs,z⟩:=un.tbls _ #[] (Z66 (Ye.mpr ⟨p,hp,rfl⟩));exact ⟨_,hok' _ _ z⟩
  refine ⟨rfl,⟨fun b o e => ?_,fun b o e => ?_⟩,os,bare⟩
  · by_cases c : b ∈ ts
    · obtain ⟨p,hp,rfl⟩:=Ye.mp c;obtain ⟨xs,hx⟩:=more p hp;have e0:=tt.em p hp;rw [e0] at e;cases e;exact .inr (.inl ⟨((PySem.W.codeHd_of_K kx (tt.hd p hp)).tab e0).isCodeTable,rfl,#[],xs,rfl,by rw [Array.empty_append];exact hx⟩)
    · exact .inl (stay b o c e)
  · by_cases c : b ∈ ts
    · obtain ⟨p,hp,rfl⟩:=Ye.mp c;obtain ⟨xs,hx⟩:=more p hp;exact ⟨_,hx⟩
    · exact ⟨o,stay b o c e⟩
theorem Zde {tf : Tfs} {l : PySem.W.OpenLaw} {n k : Nat} {q : Program} {loose : List Str} {XP : (Str → Option Value) → Heap → Prop} {YP : World → Heap → Prop} {d : DefRec} {x : Str} {m : KF → Fm}
    (hn : l.most = some n) (hs : n ≤ sizeLine) (hdf : d.params.defaults = []) (hr : Room k callerA) (hm : ∀ K,ZhK n (m K))
    (F : ∀ (w : World) (mg : Str → Option Value) (fa : Addr) (h : Heap),YP w h → h.Ns mainGlobals mg → mg d.name = some (.ref fa) →
     ∃ (K : KF) (fd : FuncData),K.In h ∧ TabF K tf h ∧ (∀ (s : Shared) (u : Value),BindsTo s fd ⟨[u],[]⟩ [(x,u)]) ∧ ∀ base : Heap,K.In base → base.Ns mainGlobals mg → @TbOk (Z9F K tf) K mg base tf → FnG l.prog w K mg base k fa fd [x] (@spD (Z9F K tf) K 1 [] (m K))) :
    PySem.W.WalkO q loose XP YP l.row.toRowW d [] (fun f vs => PySem.call f vs):=by
 refine _root_.Att.attach_callB hn hdf fun w sO sA mg mb fa o pm cd doc a vs ns Gd Y ho hd hcd hmg hobj hints hlen hbits hg => ?_;obtain ⟨K,fd,kx,tt,hb,hF⟩:=F w mg fa _ Y Gd.T.g hmg;exact Zgz kx Gd.T.g Gd.T.b Gd.T.builtins Gd.T.nolimit hg tt Gd.T.bmain hobj hints (Nat.le_trans hlen hs) hr hF hb (hm K ns hlen hbits)
end Dl
namespace Dl
open PySem PySem.Spec PyProof.Rows L2 GenW
structure Slp (D : Addr) (v : Value) (cp cp' : List (Addr × Obj)) (s s' : Shared) : Prop where
 ad : cp'.map (·.1) = cp.map (·.1)
 os : s'.os = s.os
 bare : AllBare s'.gens
 keep : ∀ b o,b ≠ D → b ∉ cp.map (·.1) → s.heap.get? b = some o → s'.heap.get? b = some o
 at' : ∀ p ∈ cp',s'.heap.get? p.1 = some p.2 ∧ ∀ v,p.2.data ≠ .cell v
 own : ∀ acc c,s.heap.get? D = some (lstObj acc c) → ∃ c',s'.heap.get? D = some (lstObj (acc.push v) c')
structure Gx (X : Cx) (D : Addr) (ca : List Addr) (ip : List (Addr × Obj)) (A : Around) (c : Code) (fs : List Frame) (gd : Bool → Bool) : Prop where
 ne : ∀ p ∈ X.pn ++ ip,p.1 ≠ D ∧ p.1 ∉ ca
 ex : ∀ b,b = D ∨ b ∈ ca → b ∈ X.ex
 over : A.over c fs = X.A
 split : splitAtGen fs = none
 guard : fs.any Frame.guarded = false
 gd : gd false = false
structure Gp (X : Cx) (D : Addr) (a0 : List V) (ca : List Addr) (ip : List (Addr × Obj)) (n : Nat) (s₀ : Shared) (ys : List V) (cp : List (Addr × Obj)) (σ : L2.St) (H : Hp) (s : Shared) : Prop where
 ad : cp.map (·.1) = ca
 z0 : ∀ p ∈ cp,s₀.heap.get? p.1 = some p.2
 nn : n + (a0 ++ ys).length = sizeLine
 I : ∃ acc c,s₀.heap.get? D = some (lstObj acc c) ∧ Vals (a0 ++ ys) acc.toList ∧ Inv X ((D,lstObj acc c) :: (cp ++ ip)) σ H s
def GYd (X : Cx) (D : Addr) (a0 : List V) (ca : List Addr) : Protocol:=fun n s₀ v s kap =>
 ∃ ys x cp ip σ H,RelV x v ∧ Gp X D a0 ca ip (n + 1) s₀ ys cp σ H s ∧ ∀ s' cp',Slp D v cp cp' s s' → kap (.send .none) s'
structure GE where
 lim : Nat
 nx : List V → L2.St → Hp → Prop
 bk : List V → L2.St → Hp → Prop:=fun _ _ _ => False
 ct : List V → L2.St → Hp → Prop:=fun _ _ _ => False
def GPo (E : GE) (ys : List V) (σ : L2.St) (H : Hp) : Flow → Prop
 | .next => E.nx ys σ H
 | .brk => E.bk ys σ H
 | .cont => E.ct ys σ H
 | .ret _ => False
def Gk (X : Cx) (D : Addr) (a0 : List V) (ca : List Addr) (ip : List (Addr × Obj)) (A : Around) (R : GenEnd) (c : Code) (fs : List Frame) (K : Flow → Sem PySem.Fin) (E : GE) : Prop :=
 ∀ n s₀ ys cp σ H s f,Gp X D a0 ca ip n s₀ ys cp σ H s → GPo E ys σ H f → Seg (model X.prog X.w) A R (GYd X D a0 ca) n s₀ c (K f) fs s
end Dl
namespace Dl
open PySem PySem.Spec PyProof.Rows L2 GenW
variable [Tbs]
inductive Yf where
 | nx (E : Nv) | bk (E : Nv) | ct (E : Nv) | stk
def PstY (K : KF) (ios : Ios) (B : Bs) (F : Hp) (ds : List D) (r : List D × Yf) (ge : GE) : Prop:=match r.2 with
 | .nx E' => ∀ F' W' H' σ' ys,St K ios B F' W' E' σ' H' → Same F F' → RepL K F' ys (ds ++ r.1) → ge.nx ys σ' H'
 | .bk E' => ∀ F' W' H' σ' ys,St K ios B F' W' E' σ' H' → Same F F' → RepL K F' ys (ds ++ r.1) → ge.bk ys σ' H'
 | .ct E' => ∀ F' W' H' σ' ys,St K ios B F' W' E' σ' H' → Same F F' → RepL K F' ys (ds ++ r.1) → ge.ct ys σ' H'
 | .stk => False
theorem PstY.app {K : KF} {ios : Ios} {B : Bs} {F : Hp} {ds d1 : List D} {r : List D × Yf} {ge : GE} (h : PstY K ios B F ds (d1 ++ r.1,r.2) ge) : PstY K ios B F (ds ++ d1) r ge:=by
 obtain ⟨y,f⟩:=r;cases f with
 | nx E' => exact fun F' W' H' σ' ys S t rr => h F' W' H' σ' ys S t (by rw [← Yt];exact rr)
 | bk E' => exact fun F' W' H' σ' ys S t rr => h F' W' H' σ' ys S t (by rw [← Yt];exact rr)
 | ct E' => exact fun F' W' H' σ' ys S t rr => h F' W' H' σ' ys S t (by rw [← Yt];exact rr)
 | stk => exact h
end Dl
namespace Dl
open PySem PySem.Spec PyProof.Rows L2
end Dl
namespace L2
open PySem PySem.Spec
end L2
namespace Dl
open PySem PySem.Spec PyProof.Rows L2
end Dl
namespace Ks
open PySem PySem.Spec PyProof.Rows L2
section
variable {P : Program} {w : World} {κ : Type} [DecidableEq κ] {knd : KeyKind P w κ}
theorem Set0.laid {es : Array (Int × Value)} {t : SetTable} {zs : List ((Int × Value) × κ)} (z : Set0 knd es t zs) {k : κ} {v : Value} (hk : knd.is k v = true) (hs : v.scannable = true) (hn : k ∉ zs.map (·.2)) (room : zs.length + 1 < scanBound) : Set0 knd (layNew t es (knd.hash k) v).1 (layNew t es (knd.hash k) v).2.1 (((knd.hash k,v),k) :: zs) where
 pm:=by
  refine (layNew_perm t es (knd.hash k) v).trans ?_;rw [Array.toList_push];exact (List.perm_append_singleton _ _).trans (z.pm.cons _)
 gd:=fun y hy => by
  rcases Yc.mp hy with rfl | hy
  · exact ⟨⟨hk,rfl⟩,hs⟩
  · exact z.gd y hy
 nd:=List.nodup_cons.mpr ⟨hn,z.nd⟩
 bd:=by
  rw [← Array.length_toList,(layNew_perm t es (knd.hash k) v).length_eq,Array.length_toList,Array.size_push,z.size];exact room
 ft:=layNew_fits t es (knd.hash k) v
 rs:=layNew_ris t es (knd.hash k) v z.rs
 ld:=z.ld.imp id fun q => by rw [layNew_led];exact q
end
end Ks
namespace Dl
open PySem PySem.Spec PyProof.Rows L2
end Dl
namespace Dl
open PySem PySem.Spec PyProof.Rows L2 GenW
open Sem (wp)
theorem Z8G (A : GenState) : (junk A).bare = A.bare:=by cases A <;> rfl
theorem Jk.bare {A B : GenState} (h : Jk A B) : A.bare = B.bare:=by
 rcases h with ⟨rfl,_⟩ | ⟨_,rfl⟩
 · rfl
 · exact (Z8G A).symm
theorem Sim.get {s1 s2 : Shared} (S : Sim s1 s2) {i : Nat} {B : GenState} (h : s2.gens[i]? = some B) : ∃ A,s1.gens[i]? = some A ∧ Jk A B:=by
 have hl : i < s1.gens.size:=by rw [S.sz];exact (Array.getElem?_eq_some_iff.mp h).1
 exact ⟨_,Array.getElem?_eq_getElem hl,S.at' i _ _ (Array.getElem?_eq_getElem hl) h⟩
theorem Z5K {α : Type} {a : Array α} {x y : α} {i : Nat} (h : (a.push x)[i]? = some y) : (i < a.size ∧ a[i]? = some y) ∨ (i = a.size ∧ y = x):=by
 rw [Array.getElem?_push] at h
 split at h
 · rename_i e;cases h;exact .inr ⟨e,rfl⟩
 · exact .inl ⟨(Array.getElem?_eq_some_iff.mp h).1,h⟩
theorem Sim.push {s1 s2 : Shared} (S : Sim s1 s2) (c : Code) : Sim { s1 with gens:=s1.gens.push (.fresh c) } { s2 with gens:=s2.gens.push (.fresh c) } ∧ Kp s1 s2 { s1 with gens:=s1.gens.push (.fresh c) } { s2 with gens:=s2.gens.push (.fresh c) }:=by
 have e1 : s1 = { s2 with gens:=s1.gens }:=S.eq;refine ⟨⟨?_, ?_,fun i A B h1 h2 => ?_⟩,fun i => ⟨fun A h1 h2 h3 => ?_,fun h1 h2 => ?_⟩⟩
 · rw [e1]
 · show (s1.gens.push _).size = (s2.gens.push _).size;rw [Array.size_push,Array.size_push,S.sz]
 · rcases Z5K h1 with ⟨l1,z1⟩ | ⟨l1,rfl⟩
   · rcases Z5K h2 with ⟨l2,z2⟩ | ⟨l2,rfl⟩
     · exact S.at' i A B z1 z2
     · rw [S.sz] at l1;omega
   · rcases Z5K h2 with ⟨l2,z2⟩ | ⟨l2,rfl⟩
     · rw [S.sz] at l1;omega
     · exact .inl ⟨rfl,True.intro⟩
 · have l1:=(Array.getElem?_eq_some_iff.mp h1).1;have l2:=(Array.getElem?_eq_some_iff.mp h2).1;refine ⟨?_, ?_⟩
   · show (s1.gens.push _)[i]? = _;rw [Array.getElem?_push,Yk (by omega)];exact h1
   · show (s2.gens.push _)[i]? = _;rw [Array.getElem?_push,Yk (by omega)];exact h2
 · have l1:=(Array.getElem?_eq_some_iff.mp h1).1;have l2:=(Array.getElem?_eq_some_iff.mp h2).1;refine ⟨?_, ?_⟩
   · show (s1.gens.push _)[i]? = _;rw [Array.getElem?_push,Yk (by omega)];exact h1
   · show (s2.gens.push _)[i]? = _;rw [Array.getElem?_push,Yk (by omega)];exact h2
end Dl
namespace Dl
open PySem PySem.Spec PyProof.Rows L2 GenW
end Dl
namespace Dl
open PySem PySem.Spec PyProof.Rows L2 GenW
variable [Tbs]
abbrev Bst (p : Stg) : Bs:=⟨fun _ => none,p.F,Dl.noW,p.H⟩
def PstY2 (K : KF) (J : Stg → Prop) (p : Stg) (F : Hp) (r : List D × Yf) (ge : GE2 Stg) : Prop:=match r.2 with
 | .nx E' => ∀ (p' : Stg) F' W' H' σ',St K (.of []) (Bst p') F' W' E' σ' H' → Same F F' → p'.i = p.i + r.1.length → J p' → ge.nx p' σ' H'
 | .bk E' => ∀ (p' : Stg) F' W' H' σ',St K (.of []) (Bst p') F' W' E' σ' H' → Same F F' → p'.i = p.i + r.1.length → J p' → ge.bk p' σ' H'
 | .ct E' => ∀ (p' : Stg) F' W' H' σ',St K (.of []) (Bst p') F' W' E' σ' H' → Same F F' → p'.i = p.i + r.1.length → J p' → ge.ct p' σ' H'
 | .stk => False
theorem PstY2.app {K : KF} {J : Stg → Prop} {p p' : Stg} {F F1 : Hp} {d1 : List D} {r : List D × Yf} {ge : GE2 Stg} (hp : p'.i = p.i + d1.length) (s : Same F F1) (h : PstY2 K J p F (d1 ++ r.1,r.2) ge) : PstY2 K J p' F1 r ge:=by
 obtain ⟨y,f⟩:=r;have e : ∀ {q : Stg},q.i = p'.i + y.length → q.i = p.i + (d1 ++ y).length:=fun {q} z => by rw [Yh];omega
 cases f with
 | nx E' => exact fun q F' W' H' σ' S t z => h q F' W' H' σ' S (s.trans t) (e z)
 | bk E' => exact fun q F' W' H' σ' S t z => h q F' W' H' σ' S (s.trans t) (e z)
 | ct E' => exact fun q F' W' H' σ' S t z => h q F' W' H' σ' S (s.trans t) (e z)
 | stk => exact h
end Dl
namespace Dl
open PySem PySem.Spec PyProof.Rows L2 GenW
end Dl
namespace PySem
open Sem (wp)
end PySem
namespace Dl
open PySem PySem.Spec PyProof.Rows L2 GenW
variable [Tbs]
theorem AsX.kept {b : Bool} {h h' : Heap} {p : Addr} {us : Array Value} (x : AsX b h p us) (k : ∀ o,h.get? p = some o → h'.get? p = some o) : AsX b h' p us:=by
 cases b
 · exact (show h.IsList p us from x).at k
 · exact (show h.IsTuple p us from x).at k
end Dl
namespace Dl
open PySem PySem.Spec PyProof.Rows L2 GenW
end Dl
namespace Dl
open PySem PySem.Spec PyProof.Rows L2
end Dl
namespace Dl
open PySem PySem.Spec PyProof.Rows L2 GenW
end Dl
namespace Dl
open PySem PySem.Spec PyProof.Rows L2
end Dl
namespace PySem
open Sem (wp)
end PySem
namespace PySem
end PySem
namespace Dl
open PySem PySem.Spec PyProof.Rows L2 RZ
variable [Tbs]
theorem SrcR.len {K : KF} {F : Hp} : ∀ {cs ls},SrcR K F cs ls → cs.length = ls.length
 | _,_,.nil => rfl
 | _,_,.cons _ _ r => by rw [List.length_cons,List.length_cons,r.len]
end Dl
namespace Dl
open PySem PySem.Spec PyProof.Rows L2
end Dl
namespace Dl
open PySem PySem.Spec PySem.Calls PyProof.Rows L2
end Dl
namespace Dl
open PySem PySem.Spec PySem.Calls PyProof.Rows L2 LamX
variable [Tbs]
section
variable {P : Program} {w : World} {K : KF} {mg : Str → Option Value} {base : Heap}
theorem ZgA {q : Str} {lparams : Arguments} {lbody : Expr} {lscope : Scope} {N ps : List Str} {k : Nat} {A : Around} {outer : List Env} {s : Shared} {H : Hp} {us : List Value} {vs : List V} {Q : VK} {E : XK} {f c' : Addr} {pm ctv : Value}
    (S : FnScope N ps lscope) (vl : vs.length = ps.length) (room : Room (k + 1) A) (guards : A.guards = some []) (env : Env0 P w K mg base A outer s H) (hf : s.heap.get? f = some (PySem.W.kla_obj "<lambda>" q lparams lbody lscope [] pm c' ctv)) (hc : H c' = some (CodeO c' q))
    (hbind : bindArgs (PySem.W.kla_fn "<lambda>" q lparams lbody lscope [] pm (.ref c') ctv) ⟨us,[]⟩ = pure (ps.zip us)) (vals : Vals vs us)
    (hb : Room k (A.deeper (envOfC q lscope s.heap.objs.size f (.ref c'))) → (A.deeper (envOfC q lscope s.heap.objs.size f (.ref c'))).guards = some [] →
     ∃ t,PE (cxOf (Cxt P w) P w K mg base N q lscope f (.ref c') A outer s H E) lbody t ∧ t (L2.start N vs) H Q) : codeAny (model P w) A (.call (.ref f) ⟨us,[]⟩) (CR (Cxt P w) outer P w H s Q E) s:=by
 have stays : ∀ b o,base.get? b = some o → s.heap.get? b = some o:=fun b o z => (env.bs b o z).1;have kinds : ∀ y ∈ ps.zip us,lscope.names.lookup y.1 = some .local ∨ (lscope.names.lookup y.1 = some .cell ∧ ((cellsFrom (s.heap.objs.size + 1) lscope.names []).lookup y.1).isSome = true):=by
  rintro ⟨n,v⟩ hy
  cases S.par n (List.of_mem_zip hy).1 with
  | inl q => exact Or.inl q
  | inr q => exact Or.inr ⟨q,PySem.W.cellsFrom_some _ _ _ (Or.inl q)⟩
 obtain ⟨⟨oc,ws,t,hoc,hdc,hvc⟩,_,_⟩:=env.hok c' _ hc;refine PySem.W.kla_callFunE room.depth hf rfl S.co S.gen rfl ⟨c',oc,ws,t,rfl,hoc,hdc,hvc⟩ ?_;rw [hbind];refine wpAny_pure (wpAny_newFunctionEnv_cells S.kind kinds ?_);intro env' e' s1 ic;subst e';refine ⟨(env.mod.nolimit.keeps stays).keeps ic.toInCall.keep,PySem.W.kla_codeExpr ?_⟩;obtain ⟨t,pt,rd⟩:=hb (room.deeper _) guards;have inv : Inv (cxOf (Cxt P w) P w K mg base N q lscope f (.ref c') A outer s H E) [] (L2.start N vs) H s1:=inv_start S room.hd env vl vals ic;refine wpAny_mono (pt.run [] s1 (L2.start N vs) H Q inv rd) (fun u s' z => ?_) fun e s' z => z;obtain ⟨v,H',J,rv,q'⟩:=z;exact ⟨v,H',J.os,J.bare,J.base,J.hok,rv,q'⟩
end
section
variable {X : Cx} {ios : Ios} {Wx : WX} {lparams : Arguments} {lbody : Expr} {lscope : Scope} {one : Str} {N : List Str} {k : Nat} {fe : M D} {f c' : Addr} {pm ctv : Value} {e : Expr} {fs : M (List D)} {p lpos kpos pos : Pos} {c P : Addr}
theorem Zdf {cells : List (Str × Addr)} {names : List (Str × NameKind)} (h : ∀ y ∈ names,y.2 ≠ .free) : cloFrom cells names [] = []:=by
 refine List.eq_nil_iff_forall_not_mem.mpr fun y hy => ?_;rcases cloFrom_mem hy with hm | ⟨h1,_⟩
 · cases hm
 · exact h _ h1 rfl
end
end Dl
namespace Dl
open PySem PySem.Spec PyProof.Rows L2 GenW
end Dl
namespace Dl
open PySem PySem.Spec PyProof.Rows L2
end Dl
namespace Dl
open PySem PySem.Spec PyProof.Rows L2 GenW
end Dl
namespace Dl
open PySem PySem.Spec PyProof.Rows L2
variable [Tbs]
def Z8H : List D → List D → List D
 | k :: ks,d :: ds => .tup [k,d] :: Z8H ks ds
 | _,_ => []
theorem Z67 : ∀ (ks ds : List D),ks.length = ds.length → (Z8H ks ds).length = ks.length
 | [],_,_ => rfl
 | k :: ks,d :: ds,h => congrArg (· + 1) (Z67 ks ds (Nat.succ.inj h))
theorem Z7s : ∀ {ks ds : List D} {i : Nat} {x : D},(Z8H ks ds)[i]? = some x → ∃ k d,ks[i]? = some k ∧ ds[i]? = some d ∧ x = .tup [k,d]
 | [],_,i,x,h => by simp [Z8H] at h
 | k :: ks,[],i,x,h => by simp [Z8H] at h
 | k :: ks,d :: ds,0,x,h => by cases h;exact ⟨k,d,rfl,rfl,rfl⟩
 | k :: ks,d :: ds,i + 1,x,h => Z7s (ks:=ks) (ds:=ds) (i:=i) h
end Dl
namespace Dl
open PySem PySem.Spec PyProof.Rows L2
end Dl
namespace Dl
open PySem PySem.Spec PyProof.Rows L2
variable [Tbs]
section
variable {P : Program} {w : World}
theorem Zdg {v : V} {u : Value} {k : Leaf} (e : lfV v = some k) (r : RelV v u) : (leafKind P w).is k u = true:=by
 unfold lfV at e
 split at e
 · cases e;obtain ⟨t,rfl⟩:=r;exact Yp rfl
 · rename_i b;cases e;cases (show u = Value.bool b from r);cases b
   · exact rfl
   · exact rfl
 · cases e;obtain ⟨t,rfl⟩:=r;rename_i x;show (x == x) = true;exact beq_self_eq_true x
 · cases e
theorem Z68 : ∀ {vs : List V} {us : List Value} {ks : List Leaf},lfsV vs = some ks → Vals vs us → ItemsAre (leafKind P w) ks us
 | [],_,ks,e,r => by cases r;cases e;exact .nil
 | v :: vs,_,ks,e,r => by
  cases r with
  | cons r1 r2 =>
   unfold lfsV at e;cases q1 : lfV v with
   | none => rw [q1] at e;cases e
   | some k =>
    cases q2 : lfsV vs with
    | none => rw [q1,q2] at e;cases e
    | some kr =>
     rw [q1,q2] at e;cases e;exact .cons (Zdg q1 r1) (Z68 q2 r2)
end
abbrev LfK (P : Program) (w : World) : HeapKind P w (List Leaf):=tupleKind (leafKind P w)
section
variable {X : Cx} {pins : List (Addr × Obj)} {σ : L2.St} {H : Hp} {s : Shared} {b : Addr}
theorem Z5L {vs : List V} {ks : List Leaf} (I : Inv X pins σ H s) (h : SqT X.K H b vs) (e : lfsV vs = some ks) : (LfK X.prog X.w).is s.heap ks b:=by
 obtain ⟨its,r,⟨o,ho,hc,n,hd⟩,_⟩:=I.tuple h;exact ⟨o,its.toArray,n,ho,hc,hd,by simpa using Z68 e r⟩
end
abbrev LRel : List Lkv → List (List Leaf × Addr × Value) → Prop:=Paired fun p q => p.1 = q.1 ∧ p.2.1 = q.2.1 ∧ RelV p.2.2 q.2.2
def LdO (P : Program) (w : World) (a : Addr) (kvs : List Lkv) : HO:=.ext fun h => (a == sysModules) = false ∧ kvs.length ≤ sizeLine ∧ ∃ xs,LRel kvs xs ∧ ∃ o es ep,h.get? a = some o ∧ o.ExactDict ∧ o.data = .dict es ep ∧ es.toList = xs.map (entryOfKey (LfK P w)) ∧ (xs.map (·.1)).Nodup
theorem Z9I {P : Program} {w : World} {H : Hp} {h : Heap} {a : Addr} {kvs : List Lkv} {xs : List (List Leaf × Addr × Value)} (ha : (a == sysModules) = false) (z : kvs.length ≤ sizeLine) (r : LRel kvs xs) (d : h.DictOfH (LfK P w) a xs) : ObjOk P w H h a (LdO P w a kvs):=by
 obtain ⟨o,es,ep,h1,h2,h3,h4,_,h5⟩:=d;refine ⟨⟨ha,z,xs,r,o,es,ep,h1,h2,h3,h4,h5⟩,⟨o,h1⟩,fun g1 g2 q k => ?_⟩;obtain ⟨q1,q2,ys,q3,o',es',ep',e1,e2⟩:=q;exact ⟨q1,q2,ys,q3,o',es',ep',k o' e1,e2⟩
theorem ZaZ {kvs : List Lkv} {xs : List (List Leaf × Addr × Value)} (r : LRel kvs xs) : ∀ x ∈ xs,∃ p ∈ kvs,p.1 = x.1 ∧ p.2.1 = x.2.1 ∧ RelV p.2.2 x.2.2:=by
 induction r with
 | nil => intro x m;cases m
 | @cons p q ps qs h t ih =>
  intro x m;rcases Yc.mp m with rfl | m
  · exact ⟨p,Ya,h⟩
  · obtain ⟨p',m',e⟩:=ih x m;exact ⟨p',Yb _ m',e⟩
section
variable {X : Cx} {pins : List (Addr × Obj)} {σ : L2.St} {H : Hp} {s : Shared} {a b : Addr} {kvs : List Lkv}
theorem Zb0 (I : Inv X pins σ H s) (e : H a = some (LdO X.prog X.w a kvs)) (hk : ZaG X.K H kvs) : (a == sysModules) = false ∧ kvs.length ≤ sizeLine ∧ ∃ xs,LRel kvs xs ∧ s.heap.DictOfH (LfK X.prog X.w) a xs:=by
 obtain ⟨⟨h1,h2,xs,r,o,es,ep,e1,e2,e3,e4,e5⟩,_,_⟩:=(show ObjOk X.prog X.w H s.heap a (LdO X.prog X.w a kvs) from I.hok a _ e);refine ⟨h1,h2,xs,r,o,es,ep,e1,e2,e3,e4,fun x m => ?_,e5⟩;obtain ⟨p,mp,q1,q2,_⟩:=ZaZ r x m;obtain ⟨vs,s1,s2⟩:=hk p mp;rw [← q1,← q2];exact Z5L I s1 s2
theorem Z7t {kvs : List Lkv} {xs : List (List Leaf × Addr × Value)} (r : LRel kvs xs) (k : List Leaf) : RelO (lval kvs k) ((atKey xs k).map (·.2)):=by
 unfold lval atKey
 induction r with
 | nil => exact trivial
 | @cons p q ps qs h t ih =>
  rw [List.find?_cons,List.find?_cons,← h.1];by_cases c : p.1 = k
  · rw [Yp c];exact h.2.2
  · rw [decide_eq_false c];exact ih
theorem Zdh {A : Around} {E : Value → Shared → Prop} {Q : Value → Shared → Prop} {vs : List V} {ks : List Leaf} {d : V} {r : Value} (hu : A.units + 1 < cLine) (I : Inv X pins σ H s) (e : H a = some (LdO X.prog X.w a kvs)) (hk : ZaG X.K H kvs) (hb : SqT X.K H b vs) (hl : lfsV vs = some ks) (rd : RelV d r)
    (h : ∀ w' s',Inv X pins σ H s' → RelV ((lval kvs ks).getD d) w' → Q w' s') : wpAny (model X.prog X.w) A (call (.builtin "dict.get") [.ref a,.ref b,r]) Q E s:=by
 obtain ⟨hd,_,xs,rel,dd⟩:=Zb0 I e hk;exact call_meetsIn PySem.F.slot_dict_get dd.typeIs PySem.F.entry_dict_get (PySem.F.args_dict_get_3 _ _ _) (meetsH_dict_get_default (LfK X.prog X.w) a b hd r) ⟨tupleKind_room_in1 hu,ks,xs,Z5L I hb hl,dd,h _ _ (I.tok _) ((Z7t rel ks).getD rd)⟩
end
section
variable {X : Cx}
theorem Zb1 {kvs : List Lkv} {xs : List (List Leaf × Addr × Value)} (r : LRel kvs xs) : kvs.length = xs.length:=Paired.length r
end
theorem Zdi {P : Program} {w : World} {a : Addr} {kvs : List Lkv} : ¬ TCo (LdO P w a kvs):=by
 rintro (⟨ps,h⟩ | ⟨c,q,h⟩)
 · cases h
 · unfold LdO LamX.CodeO at h;injection h with h;have e:=congrFun h { objs:=Array.replicate (c + 1) { cls:=.none,data:=.fields #[.none,.str q 0] } };have r : ∃ (oc : Obj) (vs : Array Value) (t : Tok),Heap.get? { objs:=Array.replicate (c + 1) { cls:=.none,data:=.fields #[.none,.str q 0] } } c = some oc ∧ oc.data = .fields vs ∧ vs[1]? = some (.str q t):=by
    refine ⟨{ cls:=.none,data:=.fields #[.none,.str q 0] },#[.none,.str q 0],0, ?_,rfl,rfl⟩;unfold Heap.get?;rw [Array.getElem?_replicate,Yj (Nat.lt_succ_self c)]
   rw [← e] at r;obtain ⟨_,_,_,_,o,es,ep,e1,_,e2,_⟩:=r;unfold Heap.get? at e1;rw [Array.getElem?_replicate] at e1;by_cases ca : a < c + 1
   · rw [Yj ca] at e1;cases e1;cases e2
   · rw [Yk ca] at e1;cases e1
theorem Zdj {P : Program} {w : World} {a : Addr} {kvs : List Lkv} (ps : Array Value) : LdO P w a kvs ≠ .tbl ps:=fun z => by cases z
def lput (kvs : List Lkv) (k : List Leaf) (q : Addr) (v : V) : List Lkv:=if (lval kvs k).isSome = true then kvs.map fun p => if p.1 = k then (p.1,p.2.1,v) else p else kvs ++ [(k,q,v)]
theorem Zb2 (kvs : List Lkv) (k : List Leaf) (q : Addr) (v : V) : (lput kvs k q v).length ≤ kvs.length + 1:=by
 unfold lput
 split
 · rw [Yi];omega
 · rw [Yh,Yr];omega
theorem Zb3 {kvs : List Lkv} {xs : List (List Leaf × Addr × Value)} (r : LRel kvs xs) (k : List Leaf) (q : Addr) {v : V} {u : Value} (rv : RelV v u) : LRel (lput kvs k q v) (storedH xs k q u):=by
 have e:=(Z7t r k).isSome_eq;rw [Option.isSome_map] at e;unfold lput storedH;rw [← e]
 split
 · rename_i hh;clear e hh
   induction r with
   | nil => exact .nil
   | @cons p x ps qs h t ih =>
    rw [List.map_cons,List.map_cons];refine .cons ?_ ih;unfold putAt;by_cases c : p.1 = k
    · rw [Yj c,Yj (h.1 ▸ c)];exact ⟨h.1,h.2.1,rv⟩
    · rw [Yk c,Yk (h.1 ▸ c)];exact h
 · rename_i hh;clear e hh
   induction r with
   | nil => exact .cons ⟨rfl,rfl,rv⟩ .nil
   | @cons p x ps qs h t ih => exact .cons h ih
section
variable {X : Cx} {pins : List (Addr × Obj)} {σ : L2.St} {H : Hp} {s : Shared} {a b : Addr} {kvs : List Lkv}
theorem ZgB {A : Around} {E : Value → Shared → Prop} {Q : Unit → Shared → Prop} {vs : List V} {ks : List Leaf} {v : V} {r : Value} (hu : A.units + 1 < cLine) (I : Inv X pins σ H s) (e : H a = some (LdO X.prog X.w a kvs)) (hk : ZaG X.K H kvs) (hl : kvs.length < sizeLine) (hb : SqT X.K H b vs) (hf : lfsV vs = some ks) (rv : RelV v r)
    (h : ∀ s',Inv X pins σ (upd H a (LdO X.prog X.w a (lput kvs ks b v))) s' → Q () s') : wpAny (model X.prog X.w) A (setItem (.ref a) (.ref b) r) Q E s:=by
 obtain ⟨hd,z,xs,rel,dd⟩:=Zb0 I e hk;have hz : xs.length ≤ sizeLine:=by rw [← Zb1 rel];exact z
 refine wpAny_setItem_heap (hsz:=hz) (tupleKind_room_in1 hu) (Z5L I hb hf) dd fun h' dd' hs => h _ ?_;have he : ∃ q,h'.get? a = some q:=let ⟨q,_,_,hq,_⟩:=dd';⟨q,hq⟩;have:=Zb2 kvs ks b v;exact d_write I (by rw [e];exact True.intro) hs he (Z9I hd (by omega) (Zb3 rel ks b rv) dd')
end
def Zdk (P : Program) (w : World) : TE:=fun _ H Q => ∀ p,H p = none → Q (.ref p) (upd H p (LdO P w p []))
def Zdl (P : Program) (w : World) (K : KF) (td ty tx : TE) : TE:=fun σ H Q => td σ H fun x H1 => ∃ a kvs,x = .ref a ∧ H1 a = some (LdO P w a kvs) ∧ ZaG K H1 kvs ∧ ty σ H1 fun y H2 => tx σ H2 fun z H3 => H3 a = some (LdO P w a kvs) ∧ ZaG K H3 kvs ∧ ∃ b vs ks,y = .ref b ∧ SqT K H3 b vs ∧ lfsV vs = some ks ∧ Q ((lval kvs ks).getD z) H3
def Zdm (P : Program) (w : World) (K : KF) (td ty tv : TE) : TS:=fun D σ H => tv σ H fun v H1 => td σ H1 fun x H2 => ty σ H2 fun y H3 => ∃ a kvs b vs ks,x = .ref a ∧ H3 a = some (LdO P w a kvs) ∧ ZaG K H3 kvs ∧ kvs.length < sizeLine ∧ y = .ref b ∧ SqT K H3 b vs ∧ lfsV vs = some ks ∧ D.nx σ (upd H3 a (LdO P w a (lput kvs ks b v)))
def ZhL (P : Program) (w : World) (t : TE) : TE:=fun σ H Q => t σ H fun v H1 => ∃ a kvs,v = .ref a ∧ H1 a = some (LdO P w a kvs) ∧ ∀ od,(a == sysModules) = false → LdE od (kvs.map fun p => (.ref p.2.1,p.2.2)) → Q v (upd H1 a (.frz od (LdO P w a kvs)))
theorem ZgC {P : Program} {w : World} {kvs : List Lkv} {xs : List (List Leaf × Addr × Value)} (r : LRel kvs xs) : Paired (fun (p : V × V) (e : DictEntry) => RelV p.1 e.key ∧ RelV p.2 e.val) (kvs.map fun p => (V.ref p.2.1,p.2.2)) (xs.map (entryOfKey (LfK P w))):=by
 induction r with
 | nil => exact .nil
 | @cons p x ps qs h t ih =>
  rw [List.map_cons,List.map_cons];exact .cons ⟨by show Value.ref x.2.1 = Value.ref p.2.1;rw [h.2.1],h.2.2⟩ ih
section
variable {X : Cx} {e o i f value : Expr} {pos pos' apos cpos : Pos} {td ty tv tx t : TE}
theorem Zb4 : PE X (.Dict [] [] pos) (Zdk X.prog X.w):=⟨fun pins s σ H Q I h =>
 wpAny_Dict_empty ⟨.ref s.heap.objs.size,_,I.laid (a:=s.heap.objs.size) (o:=LdO X.prog X.w s.heap.objs.size []) (t':=s.toks) (fun _ _ q => Heap.get?_push_of_some _ q) (Nat.le_refl _) (Z9I (beq_eq_false_iff_ne.mpr (Ne.symm (Nat.ne_of_lt I.big))) (Nat.zero_le _) .nil (Heap.DictOfH.new s.heap)),rfl,h _ (I.hok.fresh (Nat.le_refl _))⟩⟩
theorem Zb5 {d : Expr} (hu : X.A.units + 1 < cLine) (hd : PE X d td) (he : PE X e ty) (hf : PE X f tx) (m : M2 X d "get" apos e f cpos) : PE X (.Call (.Attribute d "get" apos) [e,f] [] cpos) (Zdl X.prog X.w X.K td ty tx):=by
 refine ⟨fun pins s σ H Q I q => ?_⟩;refine wpAny_Call_method m.base m.few m.line PySem.F.plainAttrs_dict PySem.F.slot_dict_get PySem.F.type_dict_get (thn (hd.run pins s σ H _ I q) fun u s1 ⟨x,H1,I1,rx,a,kvs,ex,ea,hk,q1⟩ => ?_);subst ex;obtain rfl : u = Value.ref a:=rx;obtain ⟨hd,_,xs,rel,dd⟩:=Zb0 I1 ea hk;refine ⟨dd.typeIs,fun b q => ?_, ?_⟩
 · cases q;obtain ⟨ob,_,_,h1,h2,_⟩:=dd;exact ⟨ob,h1,h2.2.1⟩
 rw [m.trees];refine Calls.callWith_builtin rfl (Calls.evalArgs_plain (Calls.spliced_cons (thn (he.run pins s1 σ H1 _ I1 q1) fun iv s2 ⟨y,H2,I2,ry,q2⟩ =>
  Calls.spliced_cons (thn (hf.run pins s2 σ H2 _ I2 q2) fun fv s3 ⟨z,H3,I3,rz,ea3,hk3,b,vs,ks,ey,hb,hlf,q3⟩ => Calls.spliced_nil ?_))))
 subst ey;obtain rfl : iv = Value.ref b:=ry;exact Zdh hu I3 ea3 hk3 hb hlf rz fun w' s4 I4 rw' => ⟨_,H3,I4,rw',q3⟩
theorem Zb6 (hu : X.A.units + 1 < cLine) (ho : PE X o td) (hi : PE X i ty) (hv : PE X value tv) (hs : swapsWith value (some (.Subscript o i pos')) pos.line X.env = pure false) :
    PS X (.Assign [.Subscript o i pos'] value pos) (Zdm X.prog X.w X.K td ty tv):=by
 refine ⟨fun pins s σ H D I h => ?_⟩;refine wpAny_Assign_Subscript (thn (hv.run pins s σ H _ I h) fun r s1 ⟨v,H1,I1,rv,q1⟩ => thn (ho.run pins s1 σ H1 _ I1 q1) fun u s2 ⟨x,H2,I2,rx,q2⟩ => thn (hi.run pins s2 σ H2 _ I2 q2) fun iv s3 ⟨y,H3,I3,ry,a,kvs,b,vs,ks,ex,e,hk,hl,ey,hb,hf,q3⟩ => ?_) hs;subst ex ey;obtain rfl : u = Value.ref a:=rx;obtain rfl : iv = Value.ref b:=ry;exact ZgB hu I3 e hk hl hb hf rv fun s4 I4 => ⟨σ,_,I4,q3⟩
theorem Zdn (h : PE X e t) : PE X e (ZhL X.prog X.w t) :=
 ⟨fun pins s σ H Q I hq => thn (h.run pins s σ H _ I hq) fun u s' ⟨v,H',I',r,a,kvs,ev,ea,q⟩ => by
  obtain ⟨od,I2⟩:=I'.lock ea True.intro;obtain ⟨g1,g2⟩:=(show ObjOk X.prog X.w _ s'.heap a (.frz od (LdO X.prog X.w a kvs)) from I2.hok a _ upd_same);obtain ⟨⟨h1,h2,xs,rel,o,es,ep,e1,e2,e3,e4,e5⟩,_,_⟩:=g2;rw [g1] at e1;cases e1;exact ⟨v,_,I2,r,q od h1 ⟨e2,es,ep,e3,by rw [e4];exact ZgC rel⟩⟩⟩
end
section
variable {K : KF} {ios : Ios} {B : Bs} {F F' : Hp} {E : Nv} {σ : L2.St} {H : Hp} {P : Program} {w : World} {a : Addr} {kvs : List Lkv} {o' : HO}
theorem St.putX (S : St K ios B F Dl.noW E σ H) (hb : B.H0 a = none) (hf : F a = none) (h : H a = some (LdO P w a kvs)) (nz : ∀ ob u,o' = .frz ob u → ∀ xs,u ≠ .tup xs) (hF : F' = F ∨ F' = upd F a o') : St K ios B F' Dl.noW E σ (upd H a o'):=by
 have fx : Same F F':=by
  rcases hF with rfl | rfl
  · exact Same.refl _
  · exact Z1a hf
 have off : ∀ b,b ≠ a → F' b = F b:=fun b n => by
  rcases hF with rfl | rfl
  · rfl
  · exact upd_ne n
 have s:=S.st;refine ⟨fun b o e => ?_,⟨s.fx.trans fx,fun b o e n => ?_,s.wx,s.wn,fun b o e n t => ?_,fun b o e => ?_,fun b o f e => ?_,fun P q t => ?_⟩,fun b ob u e => ?_,fun b l z => (by cases z),S.fr,S.w0,fun i t d e => ?_,S.pn,S.ln,S.xo⟩
 · by_cases c : b = a
   · subst c;rcases hF with rfl | rfl
     · rw [hf] at e;cases e
     · rw [upd_same] at e ⊢;exact e
   · rw [off b c] at e;rw [upd_ne c];exact S.fh b o e
 · by_cases c : b = a
   · subst c;exact .inr hb
   · rw [off b c] at e;exact s.fn b o e n
 · rw [upd_ne (ne_of_none e hb)];exact s.hx b o e n t
 · rw [upd_ne (ne_of_none e hb)];exact s.hd b o e
 · rw [upd_ne (ne_of_none e hb)];exact s.fk b o f e
 · have t2:=s.tb P q t;have np : P ≠ a:=fun z => by
    obtain ⟨_,_,ps,h3,_⟩:=t2;rw [z,h] at h3;cases h3
   refine t2.of (by rw [off P np];exact t2.1) (fun _ _ z _ => z) fun b o e _ tc => ?_;rw [upd_ne fun z => ?_]
   · exact e
   · subst z;rw [h] at e;cases e;exact Zdi tc
 · by_cases c : b = a
   · subst c;rw [upd_same] at e;exact nz ob u (Option.some.inj e)
   · rw [upd_ne c] at e;exact S.nz b ob u e
 · obtain ⟨v,h1,h2⟩:=S.vr i t d e;exact ⟨v,h1,h2.keep fx (fun _ _ z => z) fun b l o z _ => by cases z⟩
end
def ItX (d : Addr) (o : Obj) (u : HO) (kvs : List (V × V)) : It :=
 ⟨fun n H => n < kvs.length ∧ H d = some (.frz o u),
  fun n H x G => ∃ (c : Addr) (k v : V),x = .ref c ∧ kvs[n]? = some (k,v) ∧ H c = none ∧ G = upd H c (.tup [k,v]),
  fun n H => kvs.length ≤ n ∧ H d = some (.frz o u)⟩
theorem Z69 {α β : Type} {R : α → β → Prop} : ∀ {xs : List α} {ys : List β},Paired R xs ys → ∀ {i : Nat} {x : α},xs[i]? = some x → ∃ y,ys[i]? = some y ∧ R x y
 | _,_,.nil,i,x,e => by simp at e
 | _,_,.cons h t,0,x,e => by cases e;exact ⟨_,rfl,h⟩
 | _,_,.cons h t,i + 1,x,e => Z69 t (i:=i) e
section
variable {P : Program} {w : World} {K : PySem.W.Frag} {d : Addr} {o : Obj} {u0 : HO} {es : Array DictEntry} {ep : Nat} {kvs : List (V × V)}
theorem Zb7 {elts : List Expr} {kk : Nat} {tpos : Pos} (it : Addr) (hx : o.ExactDict) (hod : o.data = .dict es ep) (pr : Paired (fun (p : V × V) (e : DictEntry) => RelV p.1 e.key ∧ RelV p.2 e.val) kvs es.toList) :
    Turn P w K (.Tuple elts kk tpos) (ItX d o u0 kvs) [it] it (fun i h => ∃ ok ov,IsItemIter h it d i kvs.length ep ok ov) where
 mem:=by simp
 obj:=fun i h st b hb => by
  cases (show b = it by simpa using hb);obtain ⟨ok,ov,e⟩:=st;exact ⟨_,e,fun v z => (by cases z)⟩
 keep:=fun i h h' st k => by
  obtain ⟨ok,ov,e⟩:=st;exact ⟨ok,ov,k it (by simp) _ e⟩
 item:=by
  intro X hP hw hK hc i pins s σ H E I hf st hg;subst hP hw hK;obtain ⟨hi,hd⟩:=hg;obtain ⟨g1,_⟩:=(show ObjOk X.prog X.w H s.heap d (.frz o u0) from I.hok d _ hd);have raw : s.heap.DictRaw d es ep:=⟨o,g1,hx,hod⟩;have hsz : es.size = kvs.length:=by
   have:=Paired.length pr;rw [Array.length_toList] at this;exact this.symm
  obtain ⟨⟨k,v⟩,hkv⟩ : ∃ p,kvs[i]? = some p:=⟨kvs[i],Ym hi⟩;obtain ⟨en,he0,rk,rv⟩:=Z69 pr hkv;have lt : i < es.size:=by omega
  have een : es[i] = en:=by
   rw [Array.getElem?_toList,Array.getElem?_eq_getElem lt] at he0;exact Option.some.inj he0
  obtain ⟨ok,ov,he⟩:=st;rw [← hsz] at he;have itl : it < s.heap.objs.size:=Heap.lt_size he;refine wpAny_pyNext_items_item_raw he raw lt fun h1 ho hT hz hk => ?_;refine ⟨_,rfl,wpAny_letOwnedTupleGo_items (s:={ s with heap:=h1 }) ho fun h2 ho2 sb => ?_⟩;have t2:=(sb.2 _ (Nat.ne_of_gt itl)).trans hT;have nw : ObjOk X.prog X.w (upd H s.heap.objs.size (.tup [k,v])) h2 s.heap.objs.size (.tup [k,v]) :=
   ⟨by show 2 ≤ sizeLine;decide,[es[i].key,es[i].val],.cons (show RelV k es[i].key by rw [een];exact rk) (.cons (show RelV v es[i].val by rw [een];exact rv) .nil),⟨_,t2,rfl,_,rfl⟩⟩
  have I2:=I.turnedNew (t':=s.toks) (ch:=[it]) (fun b ob hb e => (sb.2 b (by simpa using hb)).trans (hk b ob (by simpa using hb) e)) hf (Nat.le_refl _) nw;refine ⟨.ref s.heap.objs.size,_,I2,rfl,⟨_,k,v,rfl,hkv,I.hok.fresh (Nat.le_refl _),rfl⟩,⟨es[i].key,es[i].val,by rw [← hsz];exact ho2⟩,fun b hb => ?_⟩;cases (show b = it by simpa using hb);rw [upd_ne (Nat.ne_of_lt itl)];exact (hf it (by simp)).1
 done:=by
  intro X hP hw hK hc i pins s σ H E I hf st hg;subst hP hw hK;obtain ⟨hi,hd⟩:=hg;obtain ⟨f0,f1,f2,f3,f4,f5⟩:=hf it (by simp);obtain ⟨g1,_⟩:=(show ObjOk X.prog X.w H s.heap d (.frz o u0) from I.hok d _ hd);have raw : s.heap.DictRaw d es ep:=⟨o,g1,hx,hod⟩;have hsz : es.size = kvs.length:=by
   have:=Paired.length pr;rw [Array.length_toList] at this;exact this.symm
  obtain ⟨ok,ov,he⟩:=st;rw [← hsz] at he;exact wpAny_pyNext_items_end_raw (I.ok.hd hc) he raw (by omega) fun h1 eb => ⟨rfl,I.turned (t':=s.toks) (fun b ob hb e => eb b ob hb e) f0 f1 f3 f4 f5⟩
 self:=fun A i s Q E st h => by
  obtain ⟨_,_,e⟩:=st;exact PySem.W.kcp_self e h
end
def Zix (td : TE) : TI:=fun σ H R => td σ H fun x H1 => ∃ d o u kvs,x = .ref d ∧ (d == sysModules) = false ∧ LdE o kvs ∧ H1 d = some (.frz o u) ∧ R (ItX d o u kvs) H1
section
variable {X : Cx} {e : Expr} {td : TE} {apos cpos : Pos}
theorem Zdo {elts : List Expr} {kk : Nat} {tpos : Pos} (he : PE X e td) (hbase : attributeBase e "items" X.env (eval e X.env) = eval e X.env:=by rfl) (hline : (apos.endLine == cpos.line) = true:=by rfl) :
    PI X (.Tuple elts kk tpos) (.Call (.Attribute e "items" apos) [] [] cpos) (Zix td):=by
 refine ⟨fun pins s σ H R I h => ?_⟩;refine wpAny_Call_method (T := "dict") (id := "dict.items") hbase rfl hline F.plainAttrs_dict F.slot_dict_items F.type_dict_items (thn (he.run pins s σ H _ I h) fun u s1 ⟨x,H1,I1,rx,d,o,u0,kvs,ex,hs,⟨x1,es,ep,hdt,pr⟩,hd,q⟩ => ?_);subst ex;cases (show u = Value.ref d from rx);have I2 : Inv X pins σ H1 { s1 with heap:=s1.heap.push { cls:=.type "dict_items",data:=.fields #[.ref d] } }:=I1.kept (t':=s1.toks) fun b ob q => Heap.get?_push_of_some _ q;obtain ⟨g1,_⟩:=(show ObjOk X.prog X.w H1 s1.heap d (.frz o u0) from I1.hok d _ hd);have hsz : es.size = kvs.length:=by
  have:=Paired.length pr;rw [Array.length_toList] at this;exact this.symm
 have raw : s1.heap.DictRaw d es ep:=⟨o,g1,x1,hdt⟩;refine ⟨⟨o,g1,x1.1⟩,fun z ez => (by cases ez;exact ⟨o,g1,x1.2.1⟩), ?_⟩;refine method_meetsIn F.slot_dict_items F.entry_dict_items rfl (PySem.evalArgs_none ⟨rfl,⟨o,g1,x1.1⟩,F.args_dict_items_1 _,_,meets_dict_items_raw d hs,⟨es,ep,raw⟩, ?_⟩);refine wpAny_pyIter_items_raw (d:=d) ⟨_,Heap.get?_push_size _ rfl,rfl,rfl⟩ ⟨o,Heap.get?_push_of_some _ g1,x1,hdt⟩ (pi_one (tk:=s1.toks) I2 _ (Zb7 _ x1 hdt pr) ⟨.none,.none, ?_⟩ q);rw [← hsz];exact Heap.get?_push_size _ rfl
end
theorem Zdp {K : KF} {F0 : Hp} {a : Addr} {ob : Obj} {u : HO} {kvs : List (V × V)} {ks ds : List D} (h : F0 a = some (.frz ob u)) (hk : RepL K F0 (kvs.map (·.1)) ks) (hr : RepL K F0 (kvs.map (·.2)) ds) : Wlk K (ItX a ob u kvs) (Z8H ks ds) F0:=by
 have l1 : ks.length = kvs.length:=by have:=hk.length;rw [Yi] at this;omega
 have l2 : ds.length = kvs.length:=by have:=hr.length;rw [Yi] at this;omega
 have ll:=Z67 ks ds (by omega);refine ⟨fun i F H e1 e2 hi => ⟨by omega,e2 _ _ (e1 _ _ h)⟩,fun i F H x H' d e1 e2 hy hd => ?_,fun i F H e1 e2 hi => ⟨by omega,e2 _ _ (e1 _ _ h)⟩⟩;obtain ⟨c,k,v,rfl,hkv,hc,rfl⟩:=hy;obtain ⟨kd,vd,m1,m2,rfl⟩:=Z7s hd;have hkr : Rep K F k kd:=by
  obtain ⟨y,hy,ry⟩:=hk.get (i:=i) (d:=kd) m1;rw [List.getElem?_map,hkv] at hy;cases hy;exact ry.mono e1 _
 have hv : Rep K F v vd:=by
  obtain ⟨y,hy,ry⟩:=hr.get (i:=i) (d:=vd) m2;rw [List.getElem?_map,hkv] at hy;cases hy;exact ry.mono e1 _
 have g2:=Gr.new (F:=F) (o:=.tup [k,v]) e2 hc (fun _ _ z => (by cases z));exact ⟨_,g2,.tup (SqT.of upd_same) (by show 2 ≤ sizeLine;decide) (.cons (hkr.mono g2.fx _) (.cons (hv.mono g2.fx _) .nil))⟩
def itmX : D → Option (List D)
 | .ldc ks ds => some (Z8H ks ds)
 | _ => none
def Zdq (f : M D) : M (List D):=bnd f fun d => ofO (itmX d)
section
variable {X : Cx} {ios : Ios} {Wx : WX} {a : Expr} {f : M D} {apos cpos tpos : Pos} {elts : List Expr} {kk : Nat}
theorem Z9J (ha : PP X ios Wx a f) (hbase : attributeBase a "items" X.env (eval a X.env) = eval a X.env:=by rfl) (hline : (apos.endLine == cpos.line) = true:=by rfl) : PIt X ios Wx (.Tuple elts kk tpos) (.Call (.Attribute a "items" apos) [] [] cpos) (Zdq f):=by
 obtain ⟨t,p,r⟩:=ha.ex;refine ⟨_,Zdo p hbase hline,fun B F W E σ H R S h => ?_⟩;refine r B F W E σ H _ S (Pst.seq h fun F1 W1 H1 x d E1 S1 s1 rr h1 => ?_);obtain ⟨z,ez,h2⟩:=h1.some;cases d <;> first | (cases ez;done) | skip
 rename_i ks ds;cases ez;cases rr with
 | @ld a o u kvs _ _ s g k q r => exact ⟨_,_,_,_,rfl,g,k,S1.fh _ _ s,h2 F1 W1 H1 _ S1 (Stp.refl _ _ _) (Zdp s q r)⟩
end
end Dl
namespace Dl
open PySem PySem.Spec PySem.Calls PyProof.Rows L2 LamX
variable [Tbs]
def Zb8 (dk : List Dkv) (k : List Leaf) (kd v : D) : List Dkv:=if (lvD dk k).isSome = true then dk.map fun p => if p.1 = k then (p.1,p.2.1,v) else p else dk ++ [(k,kd,v)]
def lam2 (N : Nat) (fe : M D) (x y : D) : Option D:=match fe (~~~x :: ~~~y :: List.replicate (N - 2) none) with
 | .ok z _ => some z
 | _ => none
def Z5a (N : Nat) (fe : M D) (dk : List Dkv) : D → Option (List Dkv)
 | .tup [e,m,x] => (match lfsD [e,m] with
  | some ks => if dk.length < sizeLine then (lam2 N fe ((lvD dk ks).getD x) x).map fun z => Zb8 dk ks (.tup [e,m]) z else none
  | none => none)
 | _ => none
def Z3o (N : Nat) (fe : M D) : List D → List Dkv → Option (List Dkv)
 | [],dk => some dk
 | d :: r,dk => (Z5a N fe dk d).bind (Z3o N fe r)
def strD (N : Nat) (fe : M D) : D → Option D
 | .lst ds => (Z3o N fe ds []).map fun dk => .ldc (dk.map fun p => p.2.1) (dk.map fun p => p.2.2)
 | _ => none
theorem LRep.put {K : KF} {F : Hp} {kvs : List Lkv} {dk : List Dkv} (r : LRep K F kvs dk) (k : List Leaf) {q : Addr} {ds : List D} {v : V} {d : D} (rq : Rep K F (.ref q) (.tup ds)) (el : lfsD ds = some k) (rv : Rep K F v d) : LRep K F (lput kvs k q v) (Zb8 dk k (.tup ds) d):=by
 have e:=(r.val k rv).1;unfold lput Zb8;rw [e]
 split
 · rename_i hh;clear e hh
   induction r with
   | nil => exact .nil
   | @cons p x ps qs h t ih =>
    rw [List.map_cons,List.map_cons];refine .cons ?_ ih;by_cases c : p.1 = k
    · rw [Yj c,Yj (h.1 ▸ c)];exact ⟨h.1,h.2.1,h.2.2.1,rv⟩
    · rw [Yk c,Yk (h.1 ▸ c)];exact h
 · rename_i hh;clear e hh
   induction r with
   | nil => exact .cons ⟨rfl,⟨ds,rfl,el⟩,rq,rv⟩ .nil
   | @cons p x ps qs h t ih => exact .cons h ih
def LamT (P : Program) (w : World) (K : KF) (mg : Str → Option Value) (base : Heap) (N2 : List Str) (q : Str) (lscope : Scope) (lbody : Expr) (f c' : Addr) (k : Nat) (vs : List V) : Hp → VK → Prop:=fun H Q =>
 ∀ (A : Around) (outer : List Env) (s : Shared),Room k (A.deeper (envOfC q lscope s.heap.objs.size f (.ref c'))) → (A.deeper (envOfC q lscope s.heap.objs.size f (.ref c'))).guards = some [] →
  ∃ t,PE (cxOf (Cxt P w) P w K mg base N2 q lscope f (.ref c') A outer s H (fun _ _ _ => False)) lbody t ∧ t (L2.start N2 vs) H Q
section
variable {X : Cx} {pins : List (Addr × Obj)} {σ : L2.St} {H : Hp} {s : Shared}
theorem Zdr {CXg : CXT} {Eg : XK} {Ng N2 ps2 : List Str} {qg q : Str} {sg : Scope} {g f c' : Addr} {cdg pm ctv : Value} {lparams : Arguments} {lbody : Expr} {lscope : Scope} {k i : Nat} {a : Str} {e1 e2 : Expr} {ta : TA} {p1 p2 : Pos}
    (I : Inv X pins σ H s) (S2 : FnScope N2 ps2 lscope) (l2 : ps2.length = 2) (hf : s.heap.get? f = some (PySem.W.kla_obj "<lambda>" q lparams lbody lscope [] pm c' ctv)) (hfn : H f = none) (hfr : f ∉ frs X.stack)
    (hbind : ∀ us : List Value,us.length = 2 → bindArgs (PySem.W.kla_fn "<lambda>" q lparams lbody lscope [] pm (.ref c') ctv) ⟨us,[]⟩ = pure (ps2.zip us))
    (hr : Room (k + 1) (X.A.deeper (envOfC qg sg s.heap.objs.size g cdg))) (hgd : (X.A.deeper (envOfC qg sg s.heap.objs.size g cdg)).guards = some [])
    (ha : PA (cxOf CXg X.prog X.w X.K X.mg X.base Ng qg sg g cdg X.A X.stack s H Eg) [e1,e2] ta)
    (hN : Ng[i]? = some a) (hv : Vis sg a) (hd : (a == ("__debug__" : Str)) = false) (hcd : (a == ("__classdict__" : Str)) = false)
    (he : starEach [e1,e2] (envOfC qg sg s.heap.objs.size g cdg) = (false,eval e1 (envOfC qg sg s.heap.objs.size g cdg)) :: starEach [e2] (envOfC qg sg s.heap.objs.size g cdg):=by rfl)
    (hpl : (backTo p2 (starEach [e2] (envOfC qg sg s.heap.objs.size g cdg))).any (·.1) = false:=by rfl) :
    PE (cxOf CXg X.prog X.w X.K X.mg X.base Ng qg sg g cdg X.A X.stack s H Eg) (.Call (.Name a p1) [e1,e2] [] p2)
     (fun σZ HZ Q => σZ[i]? = some (some (.ref f)) ∧ ta σZ HZ fun vs H1 => vs.length = 2 ∧ H1 c' = some (CodeO c' q) ∧ LamT X.prog X.w X.K X.mg X.base N2 q lscope lbody f c' k vs H1 Q):=by
 constructor
 rintro pinsZ sZ σZ HZ Q IZ ⟨hs,ht⟩
 refine wpAny_Call_Name_kw (thn ((pe_var (pos:=p1) (i:=i) hN hv hd hcd).run pinsZ sZ σZ HZ (fun v H1 => v = .ref f ∧ H1 = HZ) IZ ⟨.ref f,hs,rfl,rfl⟩) ?_)
 rintro u s1 ⟨v,H1,I1,r1,rfl,rfl⟩
 cases (show u = Value.ref f from r1);have at1:=I1.base.keep f _ hf hfn hfr (fun z => nomatch (show f ∈ ([] : List Addr) from z));refine PySem.W.callWith_F ⟨_,_,_,_,at1⟩ (thn (ha.run p2 pinsZ s1 σZ _ _ I1 ht) fun us s2 ⟨vs,H2,I2,r2,hl,hc,q2⟩ => ?_) he hpl;have at2:=I2.base.keep f _ hf hfn hfr (fun z => nomatch (show f ∈ ([] : List Addr) from z));have hus : us.length = 2:=by rw [← r2.length];exact hl
 refine ⟨⟨_,_,_,_,at2⟩, ?_⟩;refine wpAny_call (codeAny_mono (ZgA (Q:=Q) (E:=fun _ _ _ => False) (ps:=ps2) (us:=us) (vs:=vs) S2 (by rw [hl,l2]) hr hgd I2.env0 at2 hc (hbind us hus) r2 fun r1 g1 => q2 _ _ _ r1 g1) fun z s' hz => ?_)
 match z,hz with
 | .error ex,hz =>
  obtain ⟨_,_,_,_,_,_,_,_,_,_,_,_,z⟩:=hz;exact z.elim
 | .ok (.ret u),hz => exact I2.after hz
 | .ok .next,hz => exact hz.elim
 | .ok .brk,hz => exact hz.elim
 | .ok .cont,hz => exact hz.elim
end
def strN : List Str:=["items", "best", "found", "e", "moved", "x"]
def Z8I : Scope:={ kind:=ScopeKind.function,names:=strN.map fun x => (x,NameKind.local),isGenerator:=false,isCoroutine:=false,more:=[] }
def strB (p0 p1 p2 p3 p4 p5 p6 p7 p8 p9 p10 p11 p12 p13 p14 p15 p16 p17 p18 p19 p20 p21 p22 p23 p24 p25 p26 : Pos) : List Stmt :=
 [.Assign [.Name "found" p0] (.Dict [] [] p1) p2,
  .For (.Tuple [.Name "e" p3,.Name "moved" p4,.Name "x" p5] 0 p6) (.Name "items" p7)
   [.Assign [.Subscript (.Name "found" p8) (.Tuple [.Name "e" p9,.Name "moved" p10] 0 p11) p12]
    (.Call (.Name "best" p13) [.Call (.Attribute (.Name "found" p14) "get" p15) [.Tuple [.Name "e" p16,.Name "moved" p17] 0 p18,.Name "x" p19] [] p20,.Name "x" p21] [] p22) p23] [] p24,
  .Return (some (.Name "found" p25)) p26]
theorem Ziy : FnScope strN ["items", "best"] Z8I:=.mk rfl rfl rfl (by decide +kernel) rfl (by decide +kernel) (by decide +kernel)
def Z9K (P : Program) (w : World) (K : KF) : TE:=Zdl P w K (tVar 2) (tTup (tCons (tVar 3) (tCons (tVar 4) tNil))) (tVar 5)
def ZhM (P : Program) (w : World) (K : KF) (tact : TE) : TS :=
 tSeq (tAsg (Zdk P w) (gName 2)) (tSeq (tFor (iList K (tVar 0)) (gTup K 3 (gCons (gName 3) (gCons (gName 4) (gCons (gName 5) gNil)))) (Zdm P w K (tVar 2) (tTup (tCons (tVar 3) (tCons (tVar 4) tNil))) tact))
  (tRet (ZhL P w (tVar 2))))
section
variable {CXg : CXT} {Eg : XK} {P : Program} {w : World} {K : KF} {mg : Str → Option Value} {base : Heap} {x : Str} {g : Addr} {cdv : Value} {A : Around} {outer : List Env} {s : Shared} {H : Hp}
theorem Zb9 {k : Nat} {p14 p15 p16 p17 p18 p19 p20 p21 : Pos} (hline : (p15.endLine == p20.line) = true) (hr : Room k (A.deeper (envOfC x Z8I s.heap.objs.size g cdv))) :
    PA (cxOf (Cxt P w) P w K mg base strN x Z8I g cdv A outer s H Eg) [.Call (.Attribute (.Name "found" p14) "get" p15) [.Tuple [.Name "e" p16,.Name "moved" p17] 0 p18,.Name "x" p19] [] p20,.Name "x" p21] (tCons (Z9K P w K) (tCons (tVar 5) tNil)):=by
 have hu:=hr.units;exact pa_cons (Zb5 (X:=(cxOf (Cxt P w) P w K mg base strN x Z8I g cdv A outer s H Eg)) (by show (A.deeper _).units + 1 < cLine;omega) (pe_var (i:=2) rfl (.inl rfl) rfl rfl) (pe_tup (pa_cons (pe_var (i:=3) rfl (.inl rfl) rfl rfl) (pa_cons (pe_var (i:=4) rfl (.inl rfl) rfl rfl) pa_nil))) (pe_var (i:=5) rfl (.inl rfl) rfl rfl) (by exact ⟨rfl,rfl,hline,rfl⟩)) (pa_cons (pe_var (i:=5) rfl (.inl rfl) rfl rfl) pa_nil)
theorem Zds {k : Nat} {p0 p1 p2 p3 p4 p5 p6 p7 p8 p9 p10 p11 p12 p13 p14 p15 p16 p17 p18 p19 p20 p21 p22 p23 p24 p25 p26 : Pos} {tact : TE} (hr : Room k (A.deeper (envOfC x Z8I s.heap.objs.size g cdv)))
    (hact : PE (cxOf (Cxt P w) P w K mg base strN x Z8I g cdv A outer s H Eg) (.Call (.Name "best" p13) [.Call (.Attribute (.Name "found" p14) "get" p15) [.Tuple [.Name "e" p16,.Name "moved" p17] 0 p18,.Name "x" p19] [] p20,.Name "x" p21] [] p22) tact) :
    PSs (cxOf (Cxt P w) P w K mg base strN x Z8I g cdv A outer s H Eg) (strB p0 p1 p2 p3 p4 p5 p6 p7 p8 p9 p10 p11 p12 p13 p14 p15 p16 p17 p18 p19 p20 p21 p22 p23 p24 p25 p26) (ZhM P w K tact):=by
 have hu:=hr.units;exact pss_cons (ps_set (i:=2) (by show strN.Nodup;decide) rfl (.inl rfl) Zb4) (pss_cons (ps_for (passes_of rfl) rfl (pi_list (pe_var (i:=0) rfl (.inl rfl) rfl rfl)) (pg_tup rfl (pgs_cons (pg_name (i:=3) (by show strN.Nodup;decide) rfl (.inl rfl)) (pgs_cons (pg_name (i:=4) (by show strN.Nodup;decide) rfl (.inl rfl)) (pgs_cons (pg_name (i:=5) (by show strN.Nodup;decide) rfl (.inl rfl)) pgs_nil))))
  (pss_one (Zb6 (X:=(cxOf (Cxt P w) P w K mg base strN x Z8I g cdv A outer s H Eg)) (by show (A.deeper _).units + 1 < cLine;omega) (pe_var (i:=2) rfl (.inl rfl) rfl rfl) (pe_tup (pa_cons (pe_var (i:=3) rfl (.inl rfl) rfl rfl) (pa_cons (pe_var (i:=4) rfl (.inl rfl) rfl rfl) pa_nil))) hact rfl)) (by intro _;rfl))
  (pss_one (ps_ret (Zdn (pe_var (i:=2) rfl (.inl rfl) rfl rfl)))))
end
section
variable {K : KF} {ios : Ios} {pn : Nat → Option V} {F0 H1 : Hp} {E0 : Nv} {σ0 : L2.St} {P : Program} {w : World} {mg : Str → Option Value} {base : Heap} {N2 : List Str} {q : Str} {lscope : Scope} {lbody : Expr} {f c' : Addr} {k N : Nat} {fe : M D}
def ZhN (K : KF) (ios : Ios) (pn : Nat → Option V) (F0 H1 : Hp) (E0 : Nv) (σ0 : L2.St) (P : Program) (w : World) (mg : Str → Option Value) (base : Heap) (N2 : List Str) (q : Str) (lscope : Scope) (lbody : Expr) (f c' : Addr) (k N : Nat) (fe : M D) : Prop :=
 ∀ (F' H' : Hp) (v1 v2 : V) (d1 d2 z : D) (Q : VK),Dl.St K ios ⟨pn,F0,Dl.noW,H1⟩ F' Dl.noW E0 σ0 H' → Rep K F' v1 d1 → Rep K F' v2 d2 → lam2 N fe d1 d2 = some z →
  (∀ F2 H2 v,Dl.St K ios ⟨pn,F0,Dl.noW,H1⟩ F2 Dl.noW E0 σ0 H2 → Stp F' Dl.noW H' F2 Dl.noW H2 → Rep K F2 v z → Q v H2) → LamT P w K mg base N2 q lscope lbody f c' k [v1,v2] H' Q
def Zdt (P : Program) (w : World) (K : KF) (mg : Str → Option Value) (base : Heap) (N2 : List Str) (q : Str) (lscope : Scope) (lbody : Expr) (f c' : Addr) (k : Nat) : TE:=fun σZ HZ Q => σZ[1]? = some (some (.ref f)) ∧ tCons (Z9K P w K) (tCons (tVar 5) tNil) σZ HZ fun vs H1 => vs.length = 2 ∧ H1 c' = some (CodeO c' q) ∧ LamT P w K mg base N2 q lscope lbody f c' k vs H1 Q
theorem notF {F H F' H' : Hp} {W W' : Wm} {a : Addr} {o o' : HO} (s : Stp F W H F' W' H') (fh : Same F' H') (h1 : F a = none) (h2 : H a = some o) (h3 : H' a = some o') (n : Z6w o' = false) : F' a = none:=by
 cases e : F' a with
 | none => rfl
 | some u =>
  have e2:=fh a u e;rw [h3] at e2;cases e2;rcases s.fn a _ e n with z | z
  · rw [h1] at z;cases z
  · rw [h2] at z;cases z
theorem ZgD {v0 : V} {d z : D} (SL : Dl.St K ios ⟨pn,F0,Dl.noW,H1⟩ F0 Dl.noW E0 σ0 H1) (hc : H1 c' = some (CodeO c' q)) (r0 : Rep K F0 v0 d) (hz : strD N fe d = some z) (hl : ZhN K ios pn F0 H1 E0 σ0 P w mg base N2 q lscope lbody f c' k N fe) :
    ZhM P w K (Zdt P w K mg base N2 q lscope lbody f c' k) { nx:=fun _ H' => ∃ F',Dl.St K ios ⟨pn,F0,Dl.noW,H1⟩ F' Dl.noW E0 σ0 H' ∧ Rep K F' .non z,rt:=fun v H' => ∃ F',Dl.St K ios ⟨pn,F0,Dl.noW,H1⟩ F' Dl.noW E0 σ0 H' ∧ Rep K F' v z } (L2.start strN [v0,.ref f]) H1:=by
 cases d <;> first | (cases hz;done) | skip
 rename_i ds;cases r0 with
 | @lst o vs _ s0 zz rl =>
 cases hfin : Z3o N fe ds [] with
 | none =>
  have hz' : (Z3o N fe ds []).map (fun dk => D.ldc (dk.map fun p => p.2.1) (dk.map fun p => p.2.2)) = some z:=hz;rw [hfin] at hz';cases hz'
 | some fin =>
 have hz' : (Z3o N fe ds []).map (fun dk => D.ldc (dk.map fun p => p.2.1) (dk.map fun p => p.2.2)) = some z:=hz;rw [hfin] at hz';cases hz';have sz : 2000 ≤ sizeLine:=by decide
 intro a ha;have nF : F0 a = none:=SL.fh.free ha;have S1:=SL.laid (o:=LdO P w a []) ha (fun _ _ z => by cases z);refine ⟨.ref o,rfl,o,rfl,⟨vs,SqL.of (S1.fh _ _ s0)⟩, ?_⟩;have ln:=rl.length;refine ⟨fun n m σ' H' => m = ds.length - n ∧ n ≤ ds.length ∧ σ'.length = 6 ∧ σ'[0]? = some (some (.ref o)) ∧ σ'[1]? = some (some (.ref f)) ∧ σ'[2]? = some (some (.ref a)) ∧ ∃ F' kvs dk,Dl.St K ios ⟨pn,F0,Dl.noW,H1⟩ F' Dl.noW E0 σ0 H' ∧ F' a = none ∧ H' a = some (LdO P w a kvs) ∧ LRep K F' kvs dk ∧ Z3o N fe (ds.drop n) dk = some fin,
  ⟨ds.length,by simp,Nat.zero_le _,rfl,rfl,rfl,rfl,F0,[],[],S1,nF,upd_same,.nil,by simpa using hfin⟩, ?_⟩
 rintro n m σ' H' ⟨rfl,hn,len,s_0,s_1,s_2,F',kvs,dk,S',nF',hH,LR,run⟩
 have fx0 : Same F0 F':=S'.st.fx;have hvs : SqL K H' o vs:=SqL.of (S'.fh _ _ (fx0 _ _ s0));by_cases hlt : n < ds.length
 · refine .inr ⟨⟨vs,vs[n]'(by omega),hvs,Ym (by omega)⟩,fun σ2 H2 => σ2.length = 6 ∧ σ2[0]? = some (some (.ref o)) ∧ σ2[1]? = some (some (.ref f)) ∧ σ2[2]? = some (some (.ref a)) ∧ ∃ F' kvs dk,Dl.St K ios ⟨pn,F0,Dl.noW,H1⟩ F' Dl.noW E0 σ0 H2 ∧ F' a = none ∧ H2 a = some (LdO P w a kvs) ∧ LRep K F' kvs dk ∧ Z3o N fe (ds.drop (n + 1)) dk = some fin,
     fun σ2 H2 h2 => ⟨ds.length - (n + 1),by omega,rfl,by omega,h2⟩,fun xx H2 hy => ?_⟩
   obtain ⟨rfl,hq⟩:=hy;have ev:=hq vs hvs;rw [List.drop_eq_getElem_cons hlt] at run;have run' : (Z5a N fe dk ds[n]).bind (Z3o N fe (ds.drop (n + 1))) = some fin:=run;obtain ⟨dk2,st1,run2⟩:=Option.bind_eq_some_iff.mp run';obtain ⟨vv,evv,rvv⟩:=rl.get (i:=n) (d:=ds[n]) (Ym hlt);rw [ev] at evv;cases evv;generalize hdn : ds[n] = dn at st1 rvv;obtain ⟨de,dm,dx,ks,rfl,eks,lt,y,hy,rfl⟩ : ∃ de dm dx ks,dn = .tup [de,dm,dx] ∧ lfsD [de,dm] = some ks ∧ dk.length < sizeLine ∧ ∃ y,lam2 N fe ((lvD dk ks).getD dx) dx = some y ∧ dk2 = Zb8 dk ks (.tup [de,dm]) y:=by
    unfold Z5a at st1
    split at st1
    · rename_i e m x;cases hks : lfsD [e,m] with
      | none => rw [hks] at st1;cases st1
      | some ks =>
       rw [hks] at st1;simp only at st1
       split at st1
       · rename_i hlt;cases hy : lam2 N fe ((lvD dk ks).getD x) x with
         | none => rw [hy] at st1;cases st1
         | some y =>
          rw [hy] at st1;cases st1;exact ⟨_,_,_,_,rfl,hks,hlt,y,hy,rfl⟩
       · cases st1
    · cases st1
   cases rvv with
   | @tup t ws _ st z2 rws =>
   obtain ⟨we,wm,wx,rfl⟩ : ∃ we wm wx,ws = [we,wm,wx]:=by
    have:=rws.length
    match ws,this with
    | [a,b,c],_ => exact ⟨a,b,c,rfl⟩
   cases rws with
   | cons re rws =>
   cases rws with
   | cons rm rws =>
   cases rws with
   | cons rx rws =>
   have re:=re.mono fx0 _;have rm:=rm.mono fx0 _;have rx:=rx.mono fx0 _;refine ⟨t,[we,wm,wx],rfl,ZZc S'.fh (ZZc fx0 st),rfl,we,[wm,wx],rfl, ?_⟩;show gCons (gName 4) (gCons (gName 5) gNil) [wm,wx] (σ'.set 3 (some we)) H2 _;refine ⟨wm,[wx],rfl, ?_⟩;show gCons (gName 5) gNil [wx] ((σ'.set 3 (some we)).set 4 (some wm)) H2 _;refine ⟨wx,[],rfl, ?_⟩;show gNil [] (((σ'.set 3 (some we)).set 4 (some wm)).set 5 (some wx)) H2 _;refine ⟨rfl, ?_⟩;have t0 : (((σ'.set 3 (some we)).set 4 (some wm)).set 5 (some wx))[0]? = some (some (.ref o)):=by
    rw [List.getElem?_set_ne (by decide),List.getElem?_set_ne (by decide),List.getElem?_set_ne (by decide)];exact s_0
   have t1 : (((σ'.set 3 (some we)).set 4 (some wm)).set 5 (some wx))[1]? = some (some (.ref f)):=by
    rw [List.getElem?_set_ne (by decide),List.getElem?_set_ne (by decide),List.getElem?_set_ne (by decide)];exact s_1
   have t2 : (((σ'.set 3 (some we)).set 4 (some wm)).set 5 (some wx))[2]? = some (some (.ref a)):=by
    rw [List.getElem?_set_ne (by decide),List.getElem?_set_ne (by decide),List.getElem?_set_ne (by decide)];exact s_2
   have t3 : (((σ'.set 3 (some we)).set 4 (some wm)).set 5 (some wx))[3]? = some (some we):=by
    rw [List.getElem?_set_ne (by decide),List.getElem?_set_ne (by decide),List.getElem?_set_self (by omega)]
   have t4 : (((σ'.set 3 (some we)).set 4 (some wm)).set 5 (some wx))[4]? = some (some wm):=by
    rw [List.getElem?_set_ne (by decide),List.getElem?_set_self (by rw [List.length_set];omega)]
   have t5 : (((σ'.set 3 (some we)).set 4 (some wm)).set 5 (some wx))[5]? = some (some wx):=by
    rw [List.getElem?_set_self (by rw [List.length_set,List.length_set];omega)]
   have tl : (((σ'.set 3 (some we)).set 4 (some wm)).set 5 (some wx)).length = 6:=by
    rw [List.length_set,List.length_set,List.length_set];exact len
   generalize ((σ'.set 3 (some we)).set 4 (some wm)).set 5 (some wx) = σ3 at t0 t1 t2 t3 t4 t5 tl
   -- the value
   refine ⟨t1, ?_⟩;refine ⟨.ref a,t2,a,kvs,rfl,hH,LR.keys S'.fh,we,t3,wm,t4,by show 2 ≤ sizeLine;omega,fun b1 hb1 => ?_⟩;have na1 : a ≠ b1:=fun z => by subst z;rw [hH] at hb1;cases hb1
   have g1:=Gr.new (o:=.tup [we,wm]) S'.fh hb1 (fun _ _ z => by cases z);have Sa:=S'.grow g1;have LRa:=LR.mono g1.fx;refine ⟨wx,t5,by rw [upd_ne na1];exact hH,LRa.keys Sa.fh,b1,[we,wm],ks,rfl,.inl (.inl upd_same),Z2F (.cons re (.cons rm .nil)) eks,wx,t5,rfl, ?_, ?_⟩
   · have h1:=Sa.st.hx c' _ hc rfl (fun ps z => codeO_ne ps z);exact h1
   have nFa : upd F' b1 (.tup [we,wm]) a = none:=by rw [upd_ne na1];exact nF'
   refine hl _ _ _ _ _ _ _ _ Sa (LRa.val ks (rx.mono g1.fx _)).2 (rx.mono g1.fx _) hy fun F2 H3 v S2 s2 rv => ?_;have hH3 : H3 a = some (LdO P w a kvs):=s2.hx a _ (by rw [upd_ne na1];exact hH) rfl (fun ps => Zdj ps);have nF2 : F2 a = none:=notF s2 S2.fh nFa (by rw [upd_ne na1];exact hH) hH3 rfl;refine ⟨.ref a,t2,we,t3,wm,t4,by show 2 ≤ sizeLine;omega,fun b2 hb2 => ?_⟩;have na2 : a ≠ b2:=fun z => by subst z;rw [hH3] at hb2;cases hb2
   have g2:=Gr.new (o:=.tup [we,wm]) S2.fh hb2 (fun _ _ z => by cases z);have Sb:=S2.grow g2;have fx2 : Same F' (upd F2 b2 (.tup [we,wm])):=(g1.fx.trans s2.fx).trans g2.fx;have LRb:=LR.mono fx2;have llen:=Paired.length LR;have hHb : upd H3 b2 (.tup [we,wm]) a = some (LdO P w a kvs):=by rw [upd_ne na2];exact hH3
   have nFb : upd F2 b2 (.tup [we,wm]) a = none:=by rw [upd_ne na2];exact nF2
   refine ⟨a,kvs,b2,[we,wm],ks,rfl,hHb,LRb.keys Sb.fh,by omega,rfl,.inl (.inl upd_same),Z2F (.cons re (.cons rm .nil)) eks, ?_⟩;have Sc:=Sb.putX (o':=LdO P w a (lput kvs ks b2 v)) ha nFb hHb (fun _ _ z => by cases z) (.inl rfl);exact ⟨tl,t0,t1,t2,_,_,_,Sc,nFb,upd_same,LRb.put ks (.tup (.inl (.inl upd_same)) (by show 2 ≤ sizeLine;omega) (.cons (re.mono fx2 _) (.cons (rm.mono fx2 _) .nil))) eks (rv.mono g2.fx _),run2⟩
 · have e : n = ds.length:=by omega
   subst e;rw [List.drop_length] at run;cases (show some dk = some fin from run);refine .inl ⟨⟨vs,hvs,by omega⟩, ?_⟩;refine ⟨.ref a,s_2,a,kvs,rfl,hH,fun od hs hE => ?_⟩;have Sd:=S'.putX (F':=upd F' a (.frz od (LdO P w a kvs))) (o':=.frz od (LdO P w a kvs)) ha nF' hH (fun ob u z xs zz => by cases z;cases zz) (.inr rfl);have LRd:=LR.mono (F':=upd F' a (.frz od (LdO P w a kvs))) (Z1a nF');exact ⟨_,Sd,.ld upd_same hs hE LRd.ks LRd.vs⟩
end
section
variable {X : Cx} {ios : Ios} {Wx : WX} {x one other : Str} {g c P : Addr} {k : Nat} {pg : Arguments} {fd : FuncData} {lparams : Arguments} {lbody : Expr} {lscope : Scope} {fe : M D} {N2 : List Str} {e0 : Expr} {f0 : M D} {p lpos pos p0 p1 p2 p3 p4 p5 p6 p7 p8 p9 p10 p11 p12 p13 p14 p15 p16 p17 p18 p19 p20 p21 p22 p23 p24 p25 p26 : Pos}
theorem Z6a (hg : Gl X x) (hm : X.mg x = some (.ref g)) (hk : PySem.W.keepIn X.K (.ref g) = true) (F : FunD X.K x x pg (strB p0 p1 p2 p3 p4 p5 p6 p7 p8 p9 p10 p11 p12 p13 p14 p15 p16 p17 p18 p19 p20 p21 p22 p23 p24 p25 p26) Z8I [] [] g fd) (hb : L2.Binds X.K fd ["items", "best"] [])
    (hline : (p15.endLine == p20.line) = true)
    (TB : TabB X.base X.mg c P) (hcode : X.env.code = .ref c) (hq : Tbs.n P = some (X.env.qual ++ "<lambda>")) (hr : Room (k + 3) X.A) (hgd : X.A.guards = some []) (S2 : FnScope N2 [one,other] lscope) (hdef : defaultsOf lparams X.env = ([],[]))
    (hbind : ∀ (q : Str) (cl : List (Str × Addr)) (pm cv ctv u1 u2 : Value),bindArgs (PySem.W.kla_fn "<lambda>" q lparams lbody lscope cl pm cv ctv) ⟨[u1,u2],[]⟩ = pure [(one,u1),(other,u2)]) (h0 : PP X ios Wx e0 f0)
    (hbody : ∀ (f c' : Addr) (A : Around) (outer : List Env) (s : Shared) (H : Hp) (E : XK),Room (k + 1) (A.deeper (envOfC (X.env.qual ++ "<lambda>") lscope s.heap.objs.size f (.ref c'))) → (A.deeper (envOfC (X.env.qual ++ "<lambda>") lscope s.heap.objs.size f (.ref c'))).guards = some [] →
     PP (cxOf (Cxt X.prog X.w) X.prog X.w X.K X.mg X.base N2 (X.env.qual ++ "<lambda>") lscope f (.ref c') A outer s H E) (.of []) (fun c d _ H => E c d H) lbody fe)
    (hs0 : starEach [e0,.Lambda lparams lbody lscope lpos] X.env = (false,eval e0 X.env) :: starEach [.Lambda lparams lbody lscope lpos] X.env:=by rfl)
    (hdb : (x == ("__debug__" : Str)) = false:=by decide) :
    PP X ios Wx (.Call (.Name x p) [e0,.Lambda lparams lbody lscope lpos] [] pos) (bnd f0 fun d => ofO (strD N2.length fe d)):=by
 obtain ⟨t0,q0,r0⟩:=h0.ex;refine ⟨fun σ H Q => t0 σ H fun v H2 => ∃ B F W E d z,Dl.St X.K ios B F W E σ H2 ∧ Rep X.K F v d ∧ strD N2.length fe d = some z ∧ ∀ F' W' H' v',Dl.St X.K ios B F' W' E σ H' → Stp F W H2 F' W' H' → Rep X.K F' v' z → Q v' H',⟨fun pins s σ H Q I ht => ?_⟩,fun B F W E σ H Q S h => r0 B F W E σ H _ S (Pst.seq h fun F1 W1 H1 v d E1 S1 s1 rr h1 => ?_)⟩
 · refine wpAny_Call_Name_kw (ld_glob I hg hm ?_ hdb);refine PySem.W.callWith_K (h₀:=X.base) I.ok.mod.kin hk ?_ hs0 (by rfl);rw [hs0];show wpAny _ _ (spliced ((false,eval e0 X.env) :: backTo pos ((false,eval (.Lambda lparams lbody lscope lpos) X.env) :: starEach [] X.env))) _ _ s;refine Calls.spliced_cons (thn (q0.run pins s σ H _ I ht) ?_)
   rintro u0 s1 ⟨v0,H0,I0,rv0,B,F0,W,E,d,z,S,rr,hz,post⟩
   obtain ⟨tF,tW,tps,tP,⟨tr,_⟩,ta⟩:=S.tbs P _ hq;show wpAny _ _ (spliced ((false,eval (.Lambda lparams lbody lscope lpos) X.env) :: backTo pos (starEach [] X.env))) _ _ s1;refine Calls.spliced_cons (ZaY I0 TB hcode tP tr (fun pos cv e => by obtain ⟨c,e1,_,e3⟩:=ta pos cv e;exact ⟨c,e1,e3⟩) hdef (fun y hy e => absurd e (S2.nofree y hy)) fun f c' pm ctv H1 s' I1 lh hf hfn hfr hco => ?_);refine Calls.spliced_nil ⟨I1.kIn, ?_⟩;rw [Zdf S2.nofree] at hf;have S1:=S.lam hq tP lh;have st1:=Z9E S hq tP lh;have SL:=S1.blank2;have hlen : N2.length ≥ 2:=by
    have:=congrArg List.length S2.pre;rw [List.length_take] at this;simp at this;omega
   have hlam : ZhN X.K ios B.pn F0 H1 (bl E) σ X.prog X.w X.mg X.base N2 (X.env.qual ++ "<lambda>") lscope lbody f c' (k + 1) N2.length fe:=by
    intro F' H' v1 v2 d1 d2 zz Q' S' r1 r2 hy post' A outer s3 hr3 hg3;obtain ⟨t,pt,rt⟩:=(hbody f c' A outer s3 H' (fun _ _ _ => False) hr3 hg3).ex;refine ⟨t,pt, ?_⟩;have SB : Dl.St X.K (.of []) ⟨fun _ => none,F',Dl.noW,H'⟩ F' Dl.noW (~~~d1 :: ~~~d2 :: List.replicate (N2.length - 2) none) (L2.start N2 [v1,v2]) H':=by
     refine ⟨S'.fh,Stp.refl _ _ _,S'.nz,fun a l z => (by cases z),fun a l z => (by cases z),fun a l z => (by cases z),fun i t0 d0 e => ?_,fun i v e => (by cases e), ?_,True.intro,fun P q n => (S'.tbs P q n).w fun a l z => by cases z⟩
     · match i,e with
       | 0,e => cases e;exact ⟨v1,rfl,r1⟩
       | 1,e => cases e;exact ⟨v2,rfl,r2⟩
       | i + 2,e =>
        rw [List.getElem?_cons_succ,List.getElem?_cons_succ,List.getElem?_replicate] at e
        split at e <;> cases e
     · unfold L2.start;rw [List.length_cons,List.length_cons,List.length_replicate,Yh,Yi,List.length_replicate];show N2.length - 2 + 1 + 1 = 2 + (N2.length - 2);omega
    refine rt _ F' Dl.noW _ _ H' _ SB ?_;unfold lam2 at hy
    split at hy
    · rename_i k2 E2 hm2;cases hy;rw [hm2];intro F2 W2 H2 v S3 st3 rr3;obtain ⟨S4,s4⟩:=S'.byN st3 S3.fh S3.nz;exact post' F2 H2 v S4 s4 rr3
    · cases hy
   have rc : codeAny (model X.prog X.w) X.A (.call (.ref g) ⟨[u0,.ref f],[]⟩) (CR (Cxt X.prog X.w) X.stack X.prog X.w H1 s' (fun v H' => ∃ F',Dl.St X.K ios ⟨B.pn,F0,Dl.noW,H1⟩ F' Dl.noW (bl E) σ H' ∧ Rep X.K F' v z) (fun _ _ _ => False)) s':=by
    refine Zgy (N:=strN) (ps:=["items", "best"]) (us:=[u0,.ref f]) (vs:=[v0,.ref f]) F Ziy rfl hr hgd I1.env0 ?_ (.cons rv0 (.cons (show L2.RelV (V.ref f) (Value.ref f) from rfl) .nil)) fun cdv hr2 hg2 => ?_
    · have:=hb s' [u0,.ref f] I1.kIn rfl;rw [List.append_nil] at this;exact this
    · refine ⟨_,Zds (k:=k + 2) hr2 (Zdr (k:=k + 1) (i:=1) I1 S2 rfl hf hfn hfr (fun us hl => ?_) hr2 hg2 (Zb9 hline hr2) rfl (.inl rfl) rfl rfl), ?_⟩
      · match us,hl with
        | [u1,u2],_ => exact hbind _ _ _ _ _ u1 u2
      · have key:=ZgD (P:=X.prog) (w:=X.w) (mg:=X.mg) (base:=X.base) (N2:=N2) (q:=X.env.qual ++ "<lambda>") (lscope:=lscope) (lbody:=lbody) (f:=f) (k:=k + 1) SL hco rr hz hlam;exact key
   refine wpAny_call (codeAny_mono rc fun r s2 hq => ?_)
   match r,hq with
   | .error ex,hq =>
    obtain ⟨_,_,_,_,_,_,_,_,_,_,_,_,z⟩:=hq;exact z.elim
   | .ok (.ret u),hq =>
    obtain ⟨v',H',I',rv',F',SU,rr'⟩:=I1.after hq;obtain ⟨S3,s3⟩:=S1.byN SU.st SU.fh SU.nz;exact ⟨v',H',I',rv',post F' W H' v' S3 (st1.trans s3) rr'⟩
   | .ok .next,hq => exact hq.elim
   | .ok .brk,hq => exact hq.elim
   | .ok .cont,hq => exact hq.elim
 · obtain ⟨z,ez,h2⟩:=h1.some;exact ⟨B,F1,W1,E1,d,z,S1,rr,ez,fun F' W' H' v' S' s' r' => h2 F' W' H' v' S' s' r'⟩
end
end Dl
namespace Dl
open PySem PySem.Spec PyProof.Rows L2
variable [Tbs]
def slO1 : D → Option Int → Option Int → Option (List D)
 | .lst xs,l,u => some (Dl.cutD xs l u)
 | _,_,_ => none
def slO (fa : M D) (fl fh : M (Option Int)) : M Ent:=bnd fa fun x => bnd fl fun l => bnd fh fun u => bnd (ofO (slO1 x l u)) fun ys => Zr (.l .sh,.lst ys)
section
variable {X : Cx} {ios : Ios} {Wx : WX} {a : Expr} {fa : M D} {pos : Pos}
theorem Zba {lo hi : Option Expr} {fl fh : M (Option Int)} {p2 : Pos} (ha : PP X ios Wx a fa) (hl : PPart X ios Wx lo fl) (hh : PPart X ios Wx hi fh) : PO X ios Wx (.Subscript a (.Slice lo hi none p2) pos) (slO fa fl fh):=by
 obtain ⟨ta,pa,ra⟩:=ha.ex;obtain ⟨tl,pl,rl⟩:=hl.ex;obtain ⟨th,ph,rh⟩:=hh.ex;refine ⟨_,pe_slice (r:=rSlX X.K) (sl_list.or sl_tupA) pa pl ph,fun B F W E σ H Q S h => ?_⟩;refine ra B F W E σ H _ S (Jy.seq h fun F1 W1 H1 x d E1 S1 s1 r1 h1 => ?_);refine rl B F1 W1 E1 σ H1 _ S1 (Jy.seq h1 fun F2 W2 H2 l l' E2 S2 s2 r2 h2 => ?_);refine rh B F2 W2 E2 σ H2 _ S2 (Jy.seq h2 fun F3 W3 H3 u u' E3 S3 s3 r3 h3 => ?_);subst r2 r3;have rx:=r1.mono (s2.fx.trans s3.fx) d;cases d <;> first | exact h3.elim | skip
 rename_i xs;have h4 : Jy X.K ios B Wx σ F3 W3 H3 (Zr (.l .sh,.lst (Dl.cutD xs _ _)) E3) Q:=h3;cases rx with
 | lst s z r => exact .inl ⟨_,_,rfl,SqL.of (S3.fh _ _ s),fun p hp => h4.listed S3 hp (Nat.le_trans (Dl.Z5X _ _ _) z) (r.cut _ _)⟩
end
end Dl
namespace Dl
open PySem PySem.Spec PyProof.Rows L2
def bdR {α β : Type} : Rs α → (α → M β) → Rs β
 | .ok a E,k => k a E
 | .er x E,_ => .er x E
 | .stk,_ => .stk
def anR {α : Type} : Rs α → (α → G) → Fl
 | .ok a E,k => k a E
 | .er x E,_ => .er x E
 | .stk,_ => .stk
def thF : Fl → G → Fl
 | .nx E,h => h E
 | .rt p E,_ => .rt p E
 | .bk E,_ => .bk E
 | .ct E,_ => .ct E
 | .er x E,_ => .er x E
 | .stk,_ => .stk
def lkR : Rs D → Nv → Rs D
 | .ok d _,E => if imm d = true then .ok d E else .stk
 | .er x _,E => if immL x.vs = true then .er x E else .stk
 | .stk,_ => .stk
def lkB : Rs Bool → Nv → Rs Bool
 | .ok d _,E => .ok d E
 | .er x _,E => if immL x.vs = true then .er x E else .stk
 | .stk,_ => .stk
theorem Z8J {α : Type} (a : α) (E : Nv) : Zr a E = .ok a E:=rfl
theorem Z7u {α : Type} (E : Nv) : (Z6x : M α) E = .stk:=rfl
theorem Zw {α β : Type} (m : M α) (k : α → M β) (E : Nv) : bnd m k E = bdR (m E) k:=by unfold bnd bdR;cases m E <;> rfl
theorem Z4d {α β : Type} (a : α) (E : Nv) (k : α → M β) : bdR (.ok a E) k = k a E:=rfl
theorem Zdu {α β : Type} (x : Xn) (E : Nv) (k : α → M β) : bdR (.er x E) k = .er x E:=rfl
theorem Z14 {α : Type} (m : M α) (k : α → G) (E : Nv) : Jf m k E = anR (m E) k:=by unfold Jf anR;cases m E <;> rfl
theorem Z3p {α : Type} (a : α) (E : Nv) (k : α → G) : anR (.ok a E) k = k a E:=rfl
theorem Zdv {α : Type} (x : Xn) (E : Nv) (k : α → G) : anR (.er x E) k = .er x E:=rfl
theorem ZJ (g h : G) (E : Nv) : Zb g h E = thF (g E) h:=by unfold Zb thF;cases g E <;> rfl
theorem Z1v (E : Nv) (h : G) : thF (.nx E) h = h E:=rfl
theorem Z8K (p : Ent) (E : Nv) (h : G) : thF (.rt p E) h = .rt p E:=rfl
theorem Zdw (x : Xn) (E : Nv) (h : G) : thF (.er x E) h = .er x E:=rfl
theorem Zdx (E : Nv) (h : G) : thF (.bk E) h = .bk E:=rfl
theorem Zdy (E : Nv) (h : G) : thF (.ct E) h = .ct E:=rfl
theorem Z9L (E : Nv) : done E = .nx E:=rfl
theorem Z7v {α : Type} (a : α) : ofO (some a) = Zr a:=rfl
theorem Z9M (i : Nat) (f : M Ent) (E : Nv) : Jh i f E = anR (f E) fun p E => .nx (E.set i (some p)):=by unfold Jh;exact Z14 _ _ _
theorem Z9N (f : M Ent) (E : Nv) : Je f E = anR (f E) fun p E => .rt p E:=by unfold Je;exact Z14 _ _ _
theorem Zdz (f : M D) (E : Nv) : sh1 f E = bdR (f E) fun d => Zr (.sh,d):=by unfold sh1;exact Zw _ _ _
theorem ZdA (f : M Ent) (E : Nv) : shM f E = bdR (f E) fun p => Zr p.2:=by unfold shM;exact Zw _ _ _
theorem ZK (f : M D) (E : Nv) : look f E = lkR (f (shr E)) E:=by unfold look lkR;cases f (shr E) <;> rfl
theorem Zq (f : M Bool) (E : Nv) : Z4X f E = lkB (f (shr E)) E:=by unfold Z4X lkB;cases f (shr E) <;> rfl
theorem ZdB (d : D) (E' E : Nv) (h : imm d = true) : lkR (.ok d E') E = .ok d E:=Yj h
theorem Z9O (i : Int) (E' E : Nv) : lkR (.ok (.int i) E') E = .ok (.int i) E:=rfl
theorem ZdC (i : Bool) (E' E : Nv) : lkR (.ok (.bl i) E') E = .ok (.bl i) E:=rfl
theorem Z9P (i : Str) (E' E : Nv) : lkR (.ok (.str i) E') E = .ok (.str i) E:=rfl
theorem ZdD (d : Bool) (E' E : Nv) : lkB (.ok d E') E = .ok d E:=rfl
theorem ZdE (g : D → D → Option D) (fa fb : M D) (E : Nv) : opM g fa fb E = bdR (fa E) fun x => bnd fb fun y => ofO (g x y):=by unfold opM;exact Zw _ _ _
theorem ZdF (g : D → D → Option D) (fa fb : M D) (E : Nv) : cmB g fa fb E = bdR (fa E) fun x => bnd fb fun y => ofO ((g x y).bind toB):=by unfold cmB;exact Zw _ _ _
theorem ZdG (g : D → Option D) (fa : M D) (E : Nv) : unM g fa E = bdR (fa E) fun x => ofO (g x):=by unfold unM;exact Zw _ _ _
theorem ZdH (g : List D → Option D) (fs : M (List D)) (E : Nv) : cbM g fs E = bdR (fs E) fun xs => ofO (g xs):=by unfold cbM;exact Zw _ _ _
theorem Z9Q (fa : M D) (fs : M (List D)) (E : Nv) : Ja fa fs E = bdR (fa E) fun x => bnd fs fun xs => Zr (x :: xs):=by unfold Ja;exact Zw _ _ _
theorem Z9R (fs : M (List D)) (E : Nv) : Jg fs E = bdR (fs E) fun xs => if Z2X xs.length = true then Zr (.tup xs) else Z6x:=by unfold Jg;exact Zw _ _ _
theorem Z9S (fs : M (List D)) (E : Nv) : Jv fs E = bdR (fs E) fun xs => if Z2X xs.length = true then Zr (.lst xs) else Z6x:=by unfold Jv;exact Zw _ _ _
theorem Z9T (fs : M (List D)) (E : Nv) : J1 fs E = bdR (fs E) fun xs => if Z2X xs.length = true then Zr (.l .sh,.lst xs) else Z6x:=by unfold J1;exact Zw _ _ _
theorem ZdI {α : Type} (t : M Bool) (f g : M α) (E : Nv) : ifM t f g E = bdR (t E) fun k => if k = true then f else g:=by unfold ifM;exact Zw _ _ _
theorem Z9U (f g : M D) (E : Nv) : andV f g E = bdR (f E) fun d => bnd (ofO (truD d)) fun k => if k = true then g else Zr d:=by unfold andV;exact Zw _ _ _
theorem ZdJ (f g : M D) (E : Nv) : orV f g E = bdR (f E) fun d => bnd (ofO (truD d)) fun k => if k = true then Zr d else g:=by unfold orV;exact Zw _ _ _
theorem Z9V (f : M D) (E : Nv) : notV f E = bdR (f E) fun d => ofO ((truD d).map fun k => .bl (!k)):=by unfold notV;exact Zw _ _ _
theorem Z9W (f g : M Bool) (E : Nv) : J4 f g E = bdR (f E) fun b => if b = true then g else Zr false:=by unfold J4;exact Zw _ _ _
theorem ZdK (f g : M Bool) (E : Nv) : orM f g E = bdR (f E) fun b => if b = true then Zr true else g:=by unfold orM;exact Zw _ _ _
theorem Z9X (f : M Bool) (E : Nv) : Jq f E = bdR (f E) fun b => Zr (!b):=by unfold Jq;exact Zw _ _ _
theorem Z9Y (f : M D) (E : Nv) : test f E = bdR (f E) fun d => ofO (truD d):=by unfold test;exact Zw _ _ _
theorem ZdL (g g' : D → D → Option D) (fa fb fc : M D) (E : Nv) : chM g g' fa fb fc E = bdR (fa E) fun x => bnd fb fun y => bnd (ofO ((g x y).bind toB)) fun k => if k = true then bnd fc fun z => ofO (g' y z) else Zr (.bl false):=by unfold chM;exact Zw _ _ _
theorem ZdM (g g' : D → D → Option D) (fa fb fc : M D) (E : Nv) : chB g g' fa fb fc E = bdR (fa E) fun x => bnd fb fun y => bnd (ofO ((g x y).bind toB)) fun k => if k = true then bnd fc fun z => ofO ((g' y z).bind toB) else Zr false:=by unfold chB;exact Zw _ _ _
theorem Z9Z (m : Fm) (md : Md) (dds : List D) (fs : M (List D)) (E : Nv) : Jc m md dds fs E = bdR (fs E) fun ds => Z8m m (md ++ dds.map fun _ => none) (ds ++ dds):=by unfold Jc;exact Zw _ _ _
def clR : Rf → Md → Nv → Rs Ent
 | .ok p O,md,E => .ok p (back 0 md O E)
 | .er x O,md,E => .er x (back 0 md O E)
 | .stk,_,_ => .stk
theorem Zbb {m : Fm} {md : Md} {ds : List D} {E : Nv} {as : List Ent} (h : ents md ds E = some as) : Z8m m md ds E = clR (m as) md E:=by
 unfold Z8m clR;rw [h];cases q : m as <;> simp [q]
theorem ZdN (p : Ent) (O : Nv) (md : Md) (E : Nv) : clR (.ok p O) md E = .ok p (back 0 md O E):=rfl
theorem ZdO (x : Xn) (O : Nv) (md : Md) (E : Nv) : clR (.er x O) md E = .er x (back 0 md O E):=rfl
theorem Z7w (j : Nat) (O E : Nv) : back j [] O E = E:=rfl
theorem Z6b (j : Nat) (md : Md) (O E : Nv) : back j (none :: md) O E = back (j + 1) md O E:=rfl
theorem Z6c (j i : Nat) (md : Md) (O E : Nv) : back j (some i :: md) O E = back (j + 1) md O (E.set i ((O[j]?).join)):=rfl
theorem Z7x (E : Nv) : ents [] [] E = some []:=rfl
theorem Za0 (md : Md) (d : D) (ds : List D) (E : Nv) : ents (none :: md) (d :: ds) E = (ents md ds E).map fun r => (.sh,d) :: r:=rfl
def rnF : Fl → Rf
 | .nx E => .ok (.sh,.non) E
 | .rt p E => .ok p E
 | .er x E => .er x E
 | _ => .stk
theorem Z3O (N : Nat) (g : G) (as : List Ent) : Jj N g as = rnF (g (as.map some ++ List.replicate (N - as.length) none)):=by
 unfold Jj rnF;cases g (as.map some ++ List.replicate (N - as.length) none) <;> rfl
theorem Z7y (p : Ent) (E : Nv) : rnF (.rt p E) = .ok p E:=rfl
theorem ZdP (E : Nv) : rnF (.nx E) = .ok (.sh,.non) E:=rfl
theorem ZdQ (x : Xn) (E : Nv) : rnF (.er x E) = .er x E:=rfl
theorem Z8L {i : Nat} {fe fi : M D} {E : Nv} : Z2i i fe fi E = anR (fe E) fun y E => match E[i]? with
 | some (some _) => Jf fi (fun k E => match ownL i E,k with
  | some ds,.int j => (match ixN ds.length j with
   | some n => .nx (putL i (ds.set n y) E)
   | none => .stk)
  | _,_ => .stk) E
 | _ => .stk:=by unfold Z2i;exact Z14 _ _ _
theorem eqI (i j : Int) : eqD (.int i) (.int j) = some (.bl (decide (i = j))):=by
 by_cases c : i = j
 · subst c;simp [eqD,eqB,flat,scal]
 · simp [eqD,eqB,flat,scal,c]
theorem addI (i j : Int) : Ji (.int i) (.int j) = some (.int (i + j)):=rfl
theorem subI (i j : Int) : Jt (.int i) (.int j) = some (.int (i - j)):=rfl
theorem ltI (i j : Int) : ltD (.int i) (.int j) = some (.bl (decide (i < j))):=rfl
theorem leI (i j : Int) : leD (.int i) (.int j) = some (.bl (decide (i ≤ j))):=rfl
theorem gtI (i j : Int) : gtD (.int i) (.int j) = some (.bl (decide (j < i))):=rfl
theorem geI (i j : Int) : geD (.int i) (.int j) = some (.bl (decide (j ≤ i))):=rfl
theorem modI {i j : Int} (h : 0 < j) : modD (.int i) (.int j) = some (.int (i % j)):=Yj h
theorem divI {i j : Int} (h : 0 < j ∧ j < 1267650600228229401496703205376) : divD (.int i) (.int j) = some (.int (i / j)):=Yj (Z9j.mpr h)
theorem mulI {i j : Int} (h : cmul i j = true) : J0 (.int i) (.int j) = some (.int (i * j)):=Yj h
theorem Ziz {i j : Int} (h : -9223372036854775808 < j ∧ j < 9223372036854775808) : cmul i j = true:=by
 unfold cmul;rw [Bool.or_eq_true,Z1S,Z1S];exact .inr ⟨by omega,by omega⟩
theorem ZiA {i j : Int} (h : -9223372036854775808 < i ∧ i < 9223372036854775808) : cmul i j = true:=by
 unfold cmul;rw [Bool.or_eq_true,Z1S,Z1S];exact .inl ⟨by omega,by omega⟩
theorem negI (i : Int) : negD (.int i) = some (.int (-i)):=rfl
theorem intI (i : Int) : J3 [.int i] = some (.int i):=rfl
theorem ZdR (b : Bool) : toB (.bl b) = some b:=rfl
theorem Z5b {α β : Type} (a : α) (f : α → Option β) : (some a).bind f = f a:=rfl
theorem ixL (xs : List D) (i : Int) : ixD (.lst xs) (.int i) = L2.atI xs i:=rfl
theorem ixT (xs : List D) (i : Int) : ixD (.tup xs) (.int i) = L2.atI xs i:=rfl
theorem Z6E {α : Type} {xs : List α} {i : Int} (h : 0 ≤ i) : L2.atI xs i = xs[i.toNat]?:=by
 unfold L2.atI ixN;rw [Yj h];by_cases c : i < (xs.length : Int)
 · rw [Yj c];rfl
 · rw [Yk c,List.getElem?_eq_none (by omega)];rfl
theorem ZgE {n : Nat} {i : Int} (h : 0 ≤ i) (c : i < n) : ixN n i = some i.toNat:=by
 unfold ixN;rw [Yj h,Yj c]
theorem ZhO (ds : List D) : one Jx [.lst ds] = some (.int ds.length):=rfl
theorem ZhP (ds : List D) : one Jx [.tup ds] = some (.int ds.length):=rfl
theorem Z32 {n : Nat} (h : n ≤ sizeLine) : Z2X n = true:=Yp h
def rdR : Option (Option Ent) → Nv → Rs D
 | some (~~~d),E => .ok d E
 | _,_ => .stk
theorem ZhQ (i : Nat) (E : Nv) : rd i E = rdR (E[i]?) E:=by
 unfold rd rdR;cases E[i]? with
 | none => rfl
 | some o =>
  cases o with
  | none => rfl
  | some p =>
   obtain ⟨t,d⟩:=p;cases t <;> rfl
theorem ZdS (d : D) (E : Nv) : rdR (some (~~~d)) E = .ok d E:=rfl
def ioR {α : Type} : Option (Option Ent) → M α → Nv → Rs α
 | some (some _),f,E => f E
 | _,_,_ => .stk
theorem ZdT (i : Nat) (fs : M (List D)) (E : Nv) : ioM i fs E = ioR (E[i]?) fs E:=by
 unfold ioM ioR;cases E[i]? with
 | none => rfl
 | some o => cases o <;> rfl
theorem ZdU {α : Type} (p : Ent) (f : M α) (E : Nv) : ioR (some (some p)) f E = f E:=rfl
def enR : Option (Option Ent) → Option (List Ent) → Option (List Ent)
 | some (some p),o => o.map fun r => p :: r
 | _,_ => none
theorem Za1 (i : Nat) (md : Md) (ds : List D) (E : Nv) : ents (some i :: md) ds E = enR (E[i]?) (ents md ds E):=by
 have h : ents (some i :: md) ds E = (match E[i]? with
  | some (some p) => (ents md ds E).map fun r => p :: r
  | _ => none):=by cases ds <;> rfl
 rw [h];unfold enR;cases E[i]? with
 | none => rfl
 | some o => cases o <;> rfl
theorem ZdV (p : Ent) (o : Option (List Ent)) : enR (some (some p)) o = o.map fun r => p :: r:=rfl
def caR (m : Fm) : Option (List Ent) → Md → Nv → Rs Ent
 | some as,md,E => clR (m as) md E
 | none,_,_ => .stk
theorem Z7z (m : Fm) (md : Md) (ds : List D) (E : Nv) : Z8m m md ds E = caR m (ents md ds E) md E:=by
 cases q : ents md ds E with
 | none => unfold Z8m caR;rw [q]
 | some as => exact Zbb q
theorem ZdW (m : Fm) (as : List Ent) (md : Md) (E : Nv) : caR m (some as) md E = clR (m as) md E:=rfl
def owR : Option (Option Ent) → Option (List D)
 | some (some (.l .sh,.lst ds)) => some ds
 | _ => none
theorem Z6d (i : Nat) (E : Nv) : ownL i E = owR (E[i]?):=by
 unfold ownL owR;rcases E[i]? with _ | _ | ⟨t,d⟩
 · rfl
 · rfl
 · cases t with
   | l t => cases t <;> first | rfl | (cases d <;> rfl)
   | _ => rfl
theorem Zbc (ds : List D) : owR (some (some (.l .sh,.lst ds))) = some ds:=rfl
def siR : Option (List D) → D → D → Nat → Nv → Fl
 | some ds,.int j,y,i,E => (match ixN ds.length j with
  | some n => .nx (putL i (ds.set n y) E)
  | none => .stk)
 | _,_,_,_,_ => .stk
theorem Z4L (i : Nat) (fe fi : M D) (E : Nv) : Z2i i fe fi E = anR (fe E) fun y E => match E[i]? with
 | some (some _) => anR (fi E) fun k E => siR (ownL i E) k y i E
 | _ => .stk:=by
 rw [Z8L]
 congr 1
 funext y E
 rcases E[i]? with _ | _ | p
 · rfl
 · rfl
 · show Jf fi _ E = _;rw [Z14]
   congr 1
   funext k E
   unfold siR;rcases ownL i E with _ | ds
   · rfl
   · cases k <;> rfl
theorem Zbd {ds : List D} {j : Int} {y : D} {i : Nat} {E : Nv} (h : 0 ≤ j) (c : j < (ds.length : Int)) : siR (some ds) (.int j) y i E = .nx (putL i (ds.set j.toNat y) E):=by
 show (match ixN ds.length j with | some n => Fl.nx (putL i (ds.set n y) E) | none => Fl.stk) = _;rw [ZgE h c]
theorem Z6e (i : Nat) (g : D → D → Option D) (fi fe : M D) (E : Nv) : Z5H i g fi fe E = match E[i]? with
 | some (some _) => anR (fi E) fun k E => match ownL i E,k with
  | some ds,.int j => (match L2.atI ds j with
   | some old => anR (fe E) fun y E => (match g old y,ownL i E with
    | some z,some ds => siR (some ds) (.int j) z i E
    | _,_ => .stk)
   | none => .stk)
  | _,_ => .stk
 | _ => .stk:=by
 unfold Z5H;rcases E[i]? with _ | _ | p
 · rfl
 · rfl
 · show Jf fi _ E = _;rw [Z14]
   congr 1
   funext k E
   rcases ownL i E with _ | ds
   · rfl
   · cases k with
     | int j =>
      simp only;cases L2.atI ds j with
      | none => rfl
      | some old =>
       simp only;rw [Z14]
       congr 1
     | _ => rfl
theorem mulR {i j : Int} (h : -9223372036854775808 < j ∧ j < 9223372036854775808) : J0 (.int i) (.int j) = some (.int (i * j)):=mulI (Ziz h)
theorem mulL {i j : Int} (h : -9223372036854775808 < i ∧ i < 9223372036854775808) : J0 (.int i) (.int j) = some (.int (i * j)):=mulI (ZiA h)
theorem addL {xs ys : List D} (h : xs.length + ys.length ≤ sizeLine) : Ji (.lst xs) (.lst ys) = some (.lst (xs ++ ys)):=Yj h
theorem addT {xs ys : List D} (h : xs.length + ys.length ≤ sizeLine) : Ji (.tup xs) (.tup ys) = some (.tup (xs ++ ys)):=Yj h
theorem Z7A {asg : D → Nv → Option Nv} {body : G} {I : Nv → Prop} : ∀ {ds : List D} {E : Nv},(∀ d ∈ ds,∀ E,I E → ∃ E1 E2,asg d E = some E1 ∧ body E1 = .nx E2 ∧ I E2) → I E → ∃ E',Z1i asg body ds E = .nx E' ∧ I E'
 | [],E,_,i => ⟨E,rfl,i⟩
 | d :: ds,E,h,i => by
  obtain ⟨E1,E2,a,b,i2⟩:=h d Ya E i;obtain ⟨E',e,i3⟩:=Z7A (ds:=ds) (fun d' hd => h d' (Yb _ hd)) i2;refine ⟨E', ?_,i3⟩;rw [← e];show (match asg d E with
   | none => Fl.stk
   | some E1 => match body E1 with
    | .nx E2 => Z1i asg body ds E2
    | .ct E2 => Z1i asg body ds E2
    | .bk E2 => .nx E2
    | .rt p E2 => .rt p E2
    | .er x E2 => .er x E2
    | .stk => Fl.stk) = _
  rw [a];simp only [b]
theorem Z2P (f : M (List D)) (asg : D → Nv → Option Nv) (body : G) (E : Nv) : Jw f asg body E = anR (f E) fun ds => Z1i asg body ds:=by unfold Jw;exact Z14 _ _ _
theorem ZdX (fs : M (List D)) (E : Nv) : rg1 fs E = bdR (fs E) fun ds => ofO (Z3G ds):=by unfold rg1;exact Zw _ _ _
theorem ZdY (fs : M (List D)) (E : Nv) : rg2 fs E = bdR (fs E) fun ds => ofO (Zcy ds):=by unfold rg2;exact Zw _ _ _
theorem Za2 (f : M D) (E : Nv) : Jn f E = bdR (f E) fun d => ofO (Z3u d):=by unfold Jn;exact Zw _ _ _
theorem ZdZ (fs : M (List D)) (E : Nv) : enI fs E = bdR (fs E) fun ds => ofO (Z5I ds):=by unfold enI;exact Zw _ _ _
theorem Ze0 (m : Fm) (c : Str) (md : Md) (dds : List D) (fs : M (List D)) (E : Nv) : mkM m c md dds fs E = bdR (fs E) fun ds => Z8w m c (md ++ dds.map fun _ => none) (ds ++ dds):=by unfold mkM;exact Zw _ _ _
theorem Zd {asg : D → Nv → Option Nv} {body : G} {d : D} {ds : List D} {E E1 E2 : Nv} (a : asg d E = some E1) (b : body E1 = .nx E2) : Z1i asg body (d :: ds) E = Z1i asg body ds E2:=by
 show (match asg d E with
  | none => Fl.stk
  | some E1 => match body E1 with
   | .nx E2 => Z1i asg body ds E2
   | .ct E2 => Z1i asg body ds E2
   | .bk E2 => .nx E2
   | .rt p E2 => .rt p E2
   | .er x E2 => .er x E2
   | .stk => Fl.stk) = _
 rw [a];simp only [b]
theorem Ze1 (xs : List D) : Z3u (.lst xs) = some xs:=rfl
theorem Ze2 (xs : List D) : Z3u (.tup xs) = some xs:=rfl
theorem Zbe {m : Fm} {c : Str} {md : Md} {ds : List D} {E O : Nv} {as : List Ent} {d : D} (h : ents md ds E = some as) (e : m ((Ow.o,D.ins c [] []) :: as) = .ok (Ow.sh,D.non) O) (e2 : O[0]? = some (some (Ow.o,d))) : Z8w m c md ds E = .ok (.o,d) (back 0 (none :: md) O E):=by
 unfold Z8w;rw [h];simp only [e,e2]
end Dl
local macro_rules | `(tactic| push_cast only [$xs,*]) => `(tactic| simp (discharger:=(first | assumption | omega | decide | (simp only [List.length_cons,List.length_nil,Yi];first | omega | decide) | rfl)) only [Dl.Z8J,Dl.Z7u,Dl.Zw,Dl.Z4d,Dl.Zdu,Dl.Z14,Dl.Z3p,Dl.Zdv,Dl.ZJ,Dl.Z1v,Dl.Z8K,Dl.Zdw,Dl.Zdx,Dl.Zdy,Dl.Z9L,Dl.Z7v,Dl.Z9M,Dl.Z9N,Dl.Zdz,Dl.ZdA,Dl.ZK,Dl.Zq,Dl.Z9O,Dl.ZdC,Dl.Z9P,Dl.ZdD,Dl.ZdE,Dl.ZdF,Dl.ZdG,Dl.ZdH,Dl.Z9Q,Dl.Z9R,Dl.Z9S,Dl.Z9T,Dl.ZdI,Dl.Z9U,Dl.ZdJ,Dl.Z9V,Dl.Z9W,Dl.ZdK,Dl.Z9X,Dl.Z9Y,Dl.ZdL,Dl.ZdM,Dl.Z9Z,Dl.Z7z,Dl.ZdW,Dl.Za1,Dl.ZdV,Dl.ZhQ,Dl.ZdS,Dl.ZdT,Dl.ZdU,Dl.Z4L,Dl.Z6d,Dl.Zbc,Dl.Zbd,Dl.putL,Dl.Z6e,Dl.ZdN,Dl.ZdO,Dl.Z7w,Dl.Z6b,Dl.Z6c,Dl.Z7x,Dl.Za0,Dl.Z3O,Dl.Z7y,Dl.ZdP,Dl.ZdQ,Dl.eqI,Dl.addI,Dl.subI,Dl.ltI,Dl.leI,Dl.gtI,Dl.geI,Dl.negI,Dl.intI,Dl.ZdR,Dl.Z5b,Dl.ixL,Dl.ixT,Dl.Z6E,Int.reduceToNat,Int.toNat_zero,Int.toNat_one,Dl.ZhO,Dl.ZhP,List.map_cons,List.map_nil,List.cons_append,List.nil_append,List.append_nil,List.length_cons,List.length_nil,List.replicate,List.getElem?_cons_zero,List.getElem?_cons_succ,List.set_cons_zero,List.set_cons_succ,if_true,if_false,Bool.false_eq_true,Option.map_some,Option.join_some,decide_true,decide_false,decide_eq_true_eq,Dl.modI,Dl.divI,Dl.mulR,Dl.mulL,Dl.Z32,Dl.addL,Dl.addT,Dl.Z2P,Dl.ZdX,Dl.ZdY,Dl.Za2,Dl.ZdZ,Dl.Ze0,Dl.Ze1,Dl.Ze2,$xs,*])
namespace Dl
open PySem PySem.Spec PyProof.Rows L2
def gBag : G:=(Je (J1 (Ja (Zr (.int 0)) (Ja (Zr (.int 1234567891)) (Ja (Zr (.int 0)) (Ja (shM (Z31 (Jn (slM (rd 0) (Zr none) (ixp (Zr (.int 63))))) (Jd 1) (Zr true) (cbM absD (Ja (rd 1) (Zr []))) [1])) (Zr [])))))))
def mBag : Fm:=Jj 2 gBag
def ZhR : G:=(Zb (Jf (Z4X (cmB eqD (opM ixD (rd 0) (Zr (.int 0))) (Zr (.int 0)))) fun k => if k = true then (Zb (Jh 2 (sh1 (Zr (.int 0)))) (Zb (Jf (Z4X (cmB ltD (opM ixD (rd 0) (Zr (.int 2))) (cbM (one Jx) (Ja (opM ixD (rd 0) (Zr (.int 3))) (Zr []))))) fun k => if k = true then (Jh 2 (sh1 (look (opM ixD (opM ixD (rd 0) (Zr (.int 3))) (opM ixD (rd 0) (Zr (.int 2))))))) else done) (Zb (Z5H 0 (ipD fun i j => i + j) (Zr (.int 2)) (Zr (.int 1))) (Zb (Jf (cmB geD (rd 2) (Zr (.int 1000000000000000000))) fun k => if k = true then (Z2i 0 (rd 2) (Zr (.int 0))) else done) (Zb (Jh 3 (sh1 (look (opM Ji (opM Ji (opM J0 (opM ixD (rd 0) (Zr (.int 1))) (Zr (.int 48271))) (opM modD (cbM J3 (Ja (rd 2) (Zr []))) (Zr (.int 2147483647)))) (opM J0 (Zr (.int 7919)) (opM ixD (rd 0) (Zr (.int 2)))))))) (Z2i 0 (opM modD (cbM J3 (Ja (rd 3) (Zr []))) (Zr (.int 2147483647))) (Zr (.int 1)))))))) else done) (Zb (Jf (Z4X (cmB gtD (opM ixD (rd 0) (Zr (.int 0))) (Zr (.int 0)))) fun k => if k = true then (Zb (Jh 4 (sh1 (look (opM modD (cbM J3 (Ja (opM ixD (rd 0) (Zr (.int 0))) (Zr []))) (rd 1))))) (Zb (Z2i 0 (look (opM divD (cbM J3 (Ja (opM ixD (rd 0) (Zr (.int 0))) (Zr []))) (rd 1))) (Zr (.int 0))) (Je (sh1 (rd 4))))) else done) (Zb (Jh 5 (sh1 (look (opM modD (cbM J3 (Ja (opM J0 (opM Ji (opM ixD (rd 0) (Zr (.int 1))) (Zr (.int 1))) (Zr (.int 39373))) (Zr []))) (Zr (.int 1000000007)))))) (Zb (Jh 6 (sh1 (opM modD (cbM J3 (Ja (opM J0 (opM modD (cbM J3 (Ja (opM J0 (rd 5) (rd 5)) (Zr []))) (Zr (.int 998244353))) (Zr (.int 30011))) (Zr []))) (Zr (.int 998244353))))) (Je (sh1 (opM modD (cbM J3 (Ja (opM divD (rd 6) (Zr (.int 7))) (Zr []))) (rd 1))))))))
def Ze3 : Fm:=Jj 7 ZhR
def mOne : Fm:=Jj 2 (Je (sh1 (opM ixD (rd 1) (shM (Jc Ze3 [some 0,none] [] (ioM 0 (Ja (cbM (one Jx) (Ja (rd 1) (Zr []))) (Zr []))))))))
def bagD (x y z : Int) (cs : List Int) : List D:=[.int x,.int y,.int z,.lst (cs.map .int)]
structure BagOk (b : List D) : Prop where
 ex : ∃ x y z cs,b = bagD x y z cs ∧ 0 ≤ x ∧ 0 ≤ z ∧ ∀ c ∈ cs,0 ≤ c
def gT2 : G:=(Jf (Z4X (cmB gtD (opM ixD (rd 0) (Zr (.int 0))) (Zr (.int 0)))) fun k => if k = true then (Zb (Jh 4 (sh1 (look (opM modD (cbM J3 (Ja (opM ixD (rd 0) (Zr (.int 0))) (Zr []))) (rd 1))))) (Zb (Z2i 0 (look (opM divD (cbM J3 (Ja (opM ixD (rd 0) (Zr (.int 0))) (Zr []))) (rd 1))) (Zr (.int 0))) (Je (sh1 (rd 4))))) else done)
theorem ZhS (x y z m : Int) (cs : List Int) (c d e f g : Option Ent) (hx : 0 < x) (hm : 0 < m) (hm2 : m < 1267650600228229401496703205376) : gT2 [some (.l .sh,.lst (bagD x y z cs)),~~~(.int m),c,d,e,f,g] = .rt (.sh,.int (x % m)) [some (.l .sh,.lst (bagD (x / m) y z cs)),~~~(.int m),c,d,~~~(.int (x % m)),f,g]:=by
 unfold gT2
 push_cast only [shr,shr1,noO,bagD,hx]
theorem ZiB (y z m : Int) (cs : List Int) (c d e f g : Option Ent) : gT2 [some (.l .sh,.lst (bagD 0 y z cs)),~~~(.int m),c,d,e,f,g] = .nx [some (.l .sh,.lst (bagD 0 y z cs)),~~~(.int m),c,d,e,f,g]:=by
 unfold gT2
 push_cast only [shr,shr1,noO,bagD,Int.lt_irrefl]
def gT1b : G:=(Zb (Jh 2 (sh1 (Zr (.int 0)))) (Zb (Jf (Z4X (cmB ltD (opM ixD (rd 0) (Zr (.int 2))) (cbM (one Jx) (Ja (opM ixD (rd 0) (Zr (.int 3))) (Zr []))))) fun k => if k = true then (Jh 2 (sh1 (look (opM ixD (opM ixD (rd 0) (Zr (.int 3))) (opM ixD (rd 0) (Zr (.int 2))))))) else done) (Zb (Z5H 0 (ipD fun i j => i + j) (Zr (.int 2)) (Zr (.int 1))) (Zb (Jf (cmB geD (rd 2) (Zr (.int 1000000000000000000))) fun k => if k = true then (Z2i 0 (rd 2) (Zr (.int 0))) else done) (Zb (Jh 3 (sh1 (look (opM Ji (opM Ji (opM J0 (opM ixD (rd 0) (Zr (.int 1))) (Zr (.int 48271))) (opM modD (cbM J3 (Ja (rd 2) (Zr []))) (Zr (.int 2147483647)))) (opM J0 (Zr (.int 7919)) (opM ixD (rd 0) (Zr (.int 2)))))))) (Z2i 0 (opM modD (cbM J3 (Ja (rd 3) (Zr []))) (Zr (.int 2147483647))) (Zr (.int 1))))))))
def gT1 : G:=(Jf (Z4X (cmB eqD (opM ixD (rd 0) (Zr (.int 0))) (Zr (.int 0)))) fun k => if k = true then gT1b else done)
def gT3 : G:=(Zb (Jh 5 (sh1 (look (opM modD (cbM J3 (Ja (opM J0 (opM Ji (opM ixD (rd 0) (Zr (.int 1))) (Zr (.int 1))) (Zr (.int 39373))) (Zr []))) (Zr (.int 1000000007)))))) (Zb (Jh 6 (sh1 (opM modD (cbM J3 (Ja (opM J0 (opM modD (cbM J3 (Ja (opM J0 (rd 5) (rd 5)) (Zr []))) (Zr (.int 998244353))) (Zr (.int 30011))) (Zr []))) (Zr (.int 998244353))))) (Je (sh1 (opM modD (cbM J3 (Ja (opM divD (rd 6) (Zr (.int 7))) (Zr []))) (rd 1))))))
theorem Zbf : ZhR = Zb gT1 (Zb gT2 gT3):=rfl
theorem tk0 (x y z m : Int) (cs : List Int) (c d e f g : Option Ent) (hx : 0 < x) : gT1 [some (.l .sh,.lst (bagD x y z cs)),~~~(.int m),c,d,e,f,g] = .nx [some (.l .sh,.lst (bagD x y z cs)),~~~(.int m),c,d,e,f,g]:=by
 have h0 : ¬ x = 0:=by omega
 unfold gT1
 push_cast only [shr,shr1,noO,bagD,h0]
theorem tk1 (y z m : Int) (cs : List Int) (c d e f g : Option Ent) : gT1 [some (.l .sh,.lst (bagD 0 y z cs)),~~~(.int m),c,d,e,f,g] = gT1b [some (.l .sh,.lst (bagD 0 y z cs)),~~~(.int m),c,d,e,f,g]:=by
 unfold gT1
 push_cast only [shr,shr1,noO,bagD]
def Z5c (z : Int) (cs : List Int) : Int:=(cs[z.toNat]?).getD 0
def Ze4 (y w z : Int) : Int:=(y * 48271 + w % 2147483647 + 7919 * (z + 1)) % 2147483647
theorem tk2 (y z m : Int) (cs : List Int) (c d e f g : Option Ent) (hz : 0 ≤ z) : ∃ h,gT1b [some (.l .sh,.lst (bagD 0 y z cs)),~~~(.int m),c,d,e,f,g] =
    .nx [some (.l .sh,.lst (bagD (if 1000000000000000000 ≤ Z5c z cs then Z5c z cs else 0) (Ze4 y (Z5c z cs) z) (z + 1) cs)),~~~(.int m),~~~(.int (Z5c z cs)),h,e,f,g]:=by
 unfold gT1b Z5c;by_cases hl : z < (cs.length : Int)
 · have e1 : (cs.map D.int)[z.toNat]? = some (.int cs[z.toNat]):=by rw [List.getElem?_map,Ym (by omega)];rfl
   have e2 : cs[z.toNat]? = some cs[z.toNat]:=Ym (by omega);rw [e2];generalize cs[z.toNat] = w at *;by_cases hw : 1000000000000000000 ≤ w
   · refine ⟨~~~(.int (y * 48271 + w % 2147483647 + 7919 * (z + 1))), ?_⟩
     push_cast only [shr,shr1,noO,bagD,Yi,hl,e1,hw,ipD,Ze4,Option.getD_some]
   · refine ⟨~~~(.int (y * 48271 + w % 2147483647 + 7919 * (z + 1))), ?_⟩
     push_cast only [shr,shr1,noO,bagD,Yi,hl,e1,hw,ipD,Ze4,Option.getD_some]
 · have e2 : cs[z.toNat]? = none:=List.getElem?_eq_none (by omega);rw [e2];have hw : ¬ (1000000000000000000 : Int) ≤ 0:=by decide
   refine ⟨~~~(.int (y * 48271 + 0 % 2147483647 + 7919 * (z + 1))), ?_⟩
   push_cast only [shr,shr1,noO,bagD,Yi,hl,ipD,Ze4,hw,Option.getD_none]
theorem tk3 (y z m : Int) (cs : List Int) (c d e f g : Option Ent) (hm : 0 < m) : ∃ v h i,gT3 [some (.l .sh,.lst (bagD 0 y z cs)),~~~(.int m),c,d,e,f,g] = .rt (.sh,.int v) [some (.l .sh,.lst (bagD 0 y z cs)),~~~(.int m),c,d,e,h,i] ∧ 0 ≤ v ∧ v < m:=by
 unfold gT3;have h1 : 0 ≤ (y + 1) * 39373 % 1000000007 ∧ (y + 1) * 39373 % 1000000007 < 1000000007:=⟨Int.emod_nonneg _ (by decide),Int.emod_lt_of_pos _ (by decide)⟩;generalize he : (y + 1) * 39373 % 1000000007 = w at h1;have h2 : -9223372036854775808 < w ∧ w < 9223372036854775808:=by omega
 refine ⟨w * w % 998244353 * 30011 % 998244353 / 7 % m,~~~(.int w),~~~(.int (w * w % 998244353 * 30011 % 998244353)), ?_,Int.emod_nonneg _ (by omega),Int.emod_lt_of_pos _ hm⟩
 push_cast only [shr,shr1,noO,bagD,he]
theorem Z15 {b : List D} {m : Int} (hb : BagOk b) (hm : 0 < m) (hm2 : m < 1267650600228229401496703205376) : ∃ b' v O,Ze3 [(.l .sh,.lst b),(.sh,.int m)] = .ok (.sh,.int v) (some (.l .sh,.lst b') :: O) ∧ BagOk b' ∧ 0 ≤ v ∧ v < m:=by
 obtain ⟨x,y,z,cs,rfl,hx,hz,hc⟩:=hb.ex;have st : ([((Ow.l .sh,D.lst (bagD x y z cs)) : Ent),(.sh,.int m)].map some ++ List.replicate (7 - [((Ow.l .sh,D.lst (bagD x y z cs)) : Ent),(.sh,.int m)].length) none : Nv) = [some (.l .sh,.lst (bagD x y z cs)),~~~(.int m),none,none,none,none,none]:=rfl;unfold Ze3;rw [Z3O,st,Zbf,ZJ];by_cases h0 : 0 < x
 · rw [tk0 _ _ _ _ _ _ _ _ _ _ h0,Z1v,ZJ,ZhS _ _ _ _ _ _ _ _ _ _ h0 hm hm2,Z8K,Z7y];exact ⟨_,_,_,rfl,⟨_,_,_,_,rfl,Int.ediv_nonneg hx (by omega),hz,hc⟩,Int.emod_nonneg _ (by omega),Int.emod_lt_of_pos _ hm⟩
 · have e : x = 0:=by omega
   subst e;obtain ⟨h,e2⟩:=tk2 y z m cs none none none none none hz;rw [tk1,e2,Z1v,ZJ];by_cases hw : 1000000000000000000 ≤ Z5c z cs
   · rw [Yj hw,ZhS _ _ _ _ _ _ _ _ _ _ (by omega) hm hm2,Z8K,Z7y];exact ⟨_,_,_,rfl,⟨_,_,_,_,rfl,Int.ediv_nonneg (by omega) (by omega),by omega,hc⟩,Int.emod_nonneg _ (by omega),Int.emod_lt_of_pos _ hm⟩
   · rw [Yk hw,ZiB,Z1v];obtain ⟨v,h',i',e3,h1,h2⟩:=tk3 (Ze4 y (Z5c z cs) z) (z + 1) m cs (~~~(.int (Z5c z cs))) h none none none hm;rw [e3,Z7y];exact ⟨_,_,_,rfl,⟨_,_,_,_,rfl,Int.le_refl _,by omega,hc⟩,h1,h2⟩
theorem ZgF {b : List D} {xs : List D} (hb : BagOk b) (h0 : 0 < xs.length) (h1 : xs.length < 1267650600228229401496703205376) : ∃ b' d O,mOne [(.l .sh,.lst b),(.sh,.lst xs)] = .ok (.sh,d) (some (.l .sh,.lst b') :: O) ∧ BagOk b' ∧ d ∈ xs:=by
 obtain ⟨b',v,O,e,hb',v0,v1⟩:=Z15 (m:=(xs.length : Int)) hb (by omega) (by omega);have hv : v.toNat < xs.length:=by omega
 refine ⟨b',xs[v.toNat],[~~~(.lst xs)], ?_,hb',List.getElem_mem hv⟩;have e2 : xs[v.toNat]? = some xs[v.toNat]:=Ym hv;unfold mOne
 push_cast only [e,e2]
 rfl
def absI (i : Int) : Int:=if i < 0 then -i else i
theorem Ze5 (i : Int) : 0 ≤ absI i:=by unfold absI;split <;> omega
theorem Z7B (a : Option Ent) : ∀ (is : List Int) (acc : List D) (b : Option Ent),acc.length + is.length ≤ 100 → Z4G (Jd 1) (Zr true) (cbM absD (Ja (rd 1) (Zr []))) [1] (is.map .int) acc [a,b] = .ok (acc ++ (is.map absI).map .int) [a,none]
 | [],acc,b,_ => by
  show Rs.ok acc (wpe [a,b] [1]) = _;rw [List.map_nil,List.map_nil,List.append_nil];rfl
 | i :: is,acc,b,h => by
  rw [List.length_cons] at h;have z : acc.length < sizeLine:=by rw [sizeLine_eq];omega
  have e : absD [.int i] = some (.int (absI i)):=rfl;have e1 : cbM absD (Ja (rd 1) (Zr [])) [a,~~~(.int i)] = .ok (.int (absI i)) [a,~~~(.int i)]:=by push_cast only [e]
  have e2 : Z4G (Jd 1) (Zr true) (cbM absD (Ja (rd 1) (Zr []))) [1] ((i :: is).map .int) acc [a,b] = (match cbM absD (Ja (rd 1) (Zr [])) [a,~~~(.int i)] with
      | .ok y E3 => if acc.length < sizeLine then Z4G (Jd 1) (Zr true) (cbM absD (Ja (rd 1) (Zr []))) [1] (is.map .int) (acc ++ [y]) E3 else .stk
      | _ => .stk):=rfl
  rw [e2,e1];simp only;rw [Yj z,Z7B a is (acc ++ [D.int (absI i)]) (some (Ow.sh,D.int i)) (by rw [Yh,Yr];omega)];rw [List.map_cons,List.map_cons,Yt];rfl
theorem Ze6 {ns : List Int} (h : ns.length ≤ 63) : ∃ b O,mBag [(.sh,.frl ns)] = .ok (.l .sh,.lst b) O ∧ BagOk b:=by
 let is : List Int:=((ns.drop (HT.sIx ns.length 0 none)).take (HT.sIx ns.length ns.length (some 63) - HT.sIx ns.length 0 none))
 have hl : is.length ≤ 63:=by
  show ((ns.drop _).take _).length ≤ 63;rw [List.length_take,List.length_drop];omega
 have ec : cutD (ns.map .int) none (some 63) = is.map .int:=by
  unfold cutD;rw [Yi,← List.map_drop,← List.map_take]
 refine ⟨bagD 0 1234567891 0 (is.map absI),[~~~(.frl ns),none], ?_,⟨0,1234567891,0,is.map absI,rfl,by decide,by decide,fun c hc => ?_⟩⟩
 rotate_left 1
 · obtain ⟨i,_,rfl⟩:=Ye.mp hc;exact Ze5 i
 · have s1 : ZaK (.frl ns) none (some 63) = some (.lst (is.map .int)):=by rw [← ec];rfl
   have s2 : slM (rd 0) (Zr none) (ixp (Zr (.int 63))) [~~~(.frl ns),none] = .ok (.lst (is.map .int)) [~~~(.frl ns),none]:=by
    have a1 : asI (.int 63) = some 63:=rfl;unfold slM ixp
    push_cast only [a1,s1]
   have s3:=Z7B (~~~(.frl ns)) is [] none (by rw [List.length_nil];omega);rw [List.nil_append] at s3;have s4 : Z2X 4 = true:=by decide
   have st : ([((Ow.sh,D.frl ns) : Ent)].map some ++ List.replicate (2 - [((Ow.sh,D.frl ns) : Ent)].length) none : Nv) = [~~~(.frl ns),none]:=rfl;unfold mBag gBag Z31;rw [Z3O,st]
   push_cast only [s2,s3,s4]
   rfl
end Dl
namespace Lb
open PySem PySem.Spec PyProof.Rows L2 Dl
def Z3P : G:=(Je (sh1 (andV (cbM (Jz ["Book"]) (Ja (rd 0) (Ja (Zr (.ty "int")) (Zr [])))) (notV (cbM (Jz ["Book"]) (Ja (rd 0) (Ja (Zr (.ty "bool")) (Zr []))))))))
def Z1m : Fm:=Jj 1 Z3P
def Z5d : G:=(Je (sh1 (andV (shM (Jc Z1m [none] [] (Ja (rd 0) (Zr [])))) (chM leD ltD (Zr (.int 0)) (rd 0) (rd 1)))))
def Zx : Fm:=Jj 2 Z5d
def Z7C : G:=(Je (sh1 (andV (cbM (Jz ["Book"]) (Ja (rd 0) (Ja (Zr (.ty "tuple")) (Zr [])))) (opM eqD (cbM (one Jx) (Ja (rd 0) (Zr []))) (rd 1)))))
def Z3Q : Fm:=Jj 2 Z7C
def Z4n : G:=(Je (sh1 (andV (shM (Jc Z1m [none] [] (Ja (rd 0) (Zr [])))) (chM leD leD (unM negD (Zr (.int (1000000000000000)))) (rd 0) (Zr (.int (1000000000000000)))))))
def Z1j : Fm:=Jj 1 Z4n
def Z25 : G:=(Je (J1 (Ja (shM (Jc Zx [none,none] [] (Ja (opM ixD (rd 2) (Zr (.int 0))) (Ja (rd 1) (Zr []))))) (Ja (shM (Jc Zx [none,none] [] (Ja (opM ixD (rd 2) (Zr (.int 1))) (Ja (rd 0) (Zr []))))) (Ja (shM (Jc Z1j [none] [] (Ja (opM ixD (rd 2) (Zr (.int 2))) (Zr [])))) (Zr []))))))
def Z1n : Fm:=Jj 3 Z25
def Z3R : G:=(Zb (Jh 2 (sh1 (shM (Jc Zx [none,none] [] (Ja (opM ixD (rd 1) (Zr (.int 0))) (Ja (rd 0) (Zr []))))))) (Je (J1 (Ja (rd 2) (Ja (andV (shM (Jc Zx [none,none] [] (Ja (opM ixD (rd 1) (Zr (.int 1))) (Ja (rd 0) (Zr []))))) (notV (andV (rd 2) (opM eqD (opM ixD (rd 1) (Zr (.int 0))) (opM ixD (rd 1) (Zr (.int 1))))))) (Ja (shM (Jc Z1j [none] [] (Ja (opM ixD (rd 1) (Zr (.int 2))) (Zr [])))) (Zr [])))))))
def Z2x : Fm:=Jj 3 Z3R
def Z6f : G:=(Je (sh1 (andV (cbM (Jz ["Book"]) (Ja (rd 0) (Ja (Zr (.ty "str")) (Zr [])))) (opM inD (rd 0) (Zr (.tup [.str "least",.str "most"]))))))
def Z3w : Fm:=Jj 1 Z6f
def Z2Q : G:=(Je (J1 (Ja (shM (Jc Zx [none,none] [] (Ja (opM ixD (rd 1) (Zr (.int 0))) (Ja (rd 0) (Zr []))))) (Ja (shM (Jc Z3w [none] [] (Ja (opM ixD (rd 1) (Zr (.int 1))) (Zr [])))) (Ja (shM (Jc Z1j [none] [] (Ja (opM ixD (rd 1) (Zr (.int 2))) (Zr [])))) (Zr []))))))
def Z1O : Fm:=Jj 2 Z2Q
def Z6g : G:=(Je (sh1 (andV (cbM (Jz ["Book"]) (Ja (rd 0) (Ja (Zr (.ty "str")) (Zr [])))) (opM inD (rd 0) (Jg (Ja (Zr (.str "early")) (Ja (Zr (.str "late")) (Zr []))))))))
def Z2R : Fm:=Jj 1 Z6g
def Z2o : G:=(Je (J1 (Ja (shM (Jc Zx [none,none] [] (Ja (opM ixD (rd 1) (Zr (.int 0))) (Ja (rd 0) (Zr []))))) (Ja (shM (Jc Z2R [none] [] (Ja (opM ixD (rd 1) (Zr (.int 1))) (Zr [])))) (Ja (shM (Jc Zx [none,none] [] (Ja (opM ixD (rd 1) (Zr (.int 2))) (Ja (rd 0) (Zr []))))) (Ja (shM (Jc Z2R [none] [] (Ja (opM ixD (rd 1) (Zr (.int 3))) (Zr [])))) (Zr [])))))))
def Z1w : Fm:=Jj 2 Z2o
def Z3S : G:=(Zb (Jf (cmB eqD (rd 2) (Zr (.int 0))) fun k => if k = true then (Je (Jc Z1n [none,none,none] [] (Ja (rd 0) (Ja (rd 1) (Ja (rd 3) (Zr [])))))) else done) (Zb (Jf (cmB eqD (rd 2) (Zr (.int 1))) fun k => if k = true then (Je (Jc Z2x [none,none] [] (Ja (rd 0) (Ja (rd 3) (Zr []))))) else done) (Je (ifM (cmB eqD (rd 2) (Zr (.int 2))) (Jc Z1O [none,none] [] (Ja (rd 0) (Ja (rd 3) (Zr [])))) (Jc Z1w [none,none] [] (Ja (rd 1) (Ja (rd 3) (Zr []))))))))
def Z16 : Fm:=Jj 4 Z3S
def Z3T : G:=(Zb (Jf (cmB gtD (cbM (one Jx) (Ja (rd 3) (Zr []))) (Zr (.int 24))) fun k => if k = true then (Z3K "TooMany" ["limit"] (Ja (Zr (.int 24)) (Zr []))) else done) (Jw (enI (Ja (rd 3) (Zr []))) (tgT 2 (tgC (Jd 4) (tgC (Jd 5) tgN))) (Jf (orM (Jq (test (shM (Jc Z3Q [none,none] [] (Ja (rd 5) (Ja (ifM (cmB eqD (rd 2) (Zr (.int 3))) (Zr (.int 4)) (Zr (.int 3))) (Zr []))))))) (Jq (test (cbM allD (Ja (shM (Jc Z16 [none,none,none,none] [] (Ja (rd 0) (Ja (rd 1) (Ja (rd 2) (Ja (rd 5) (Zr []))))))) (Zr [])))))) fun k => if k = true then (Z3K "BadItem" ["place", "index"] (Ja (opM Ji (rd 2) (Zr (.int 2))) (Ja (rd 4) (Zr [])))) else done)))
def Z1o : Fm:=Jj 6 Z3T
def Z4o : G:=(Zb (Jw (enI (Ja (Jv (Ja (rd 1) (Ja (rd 2) (Zr [])))) (Zr []))) (tgT 2 (tgC (Jd 7) (tgC (Jd 8) tgN))) (Jf (Jq (test (shM (Jc Zx [none,none] [] (Ja (rd 8) (Ja (opM Ji (Zr (.int 8)) (Zr (.int 1))) (Zr []))))))) fun k => if k = true then (Z3K "Wrong" ["place"] (Ja (rd 7) (Zr []))) else done)) (Zb (Jh 9 (sh1 (Jv (Ja (rd 3) (Ja (rd 4) (Ja (rd 5) (Ja (rd 6) (Zr [])))))))) (Zb (Jw (enI (Ja (rd 9) (Zr []))) (tgT 2 (tgC (Jd 7) (tgC (Jd 10) tgN))) (Jf (Jq (test (Zc6 ["Book"] (rd 10) (Ja (Zr (.ty "list")) (Ja (Zr (.ty "tuple")) (Zr [])))))) fun k => if k = true then (Z3K "Wrong" ["place"] (Ja (opM Ji (rd 7) (Zr (.int 2))) (Zr []))) else done)) (Zb (Jw (enI (Ja (rd 9) (Zr []))) (tgT 2 (tgC (Jd 11) (tgC (Jd 10) tgN))) (Jf (shM (Jc Z1o [none,none,none,none] [] (Ja (rd 1) (Ja (rd 2) (Ja (rd 11) (Ja (rd 10) (Zr []))))))) fun _ => done)) (Zb (fldS 0 ["Book"] "events" (rd 1)) (Zb (fldS 0 ["Book"] "witnesses" (rd 2)) (Zb (fldS 0 ["Book"] "tellings" (cbM Z2h (Ja (rd 3) (Zr [])))) (Zb (fldS 0 ["Book"] "gaps" (cbM Z2h (Ja (rd 4) (Zr [])))) (Zb (fldS 0 ["Book"] "sure" (cbM Z2h (Ja (rd 5) (Zr [])))) (fldS 0 ["Book"] "clauses" (cbM Z2h (Ja (rd 6) (Zr [])))))))))))))
def ZT : Fm:=Jj 12 Z4o
def Z1g : G:=(Zb (Jf (orM (cmB Jp (rd 0) (Zr (.non))) (cmB Jp (rd 1) (Zr (.non)))) fun k => if k = true then (Je (sh1 (Zr (.non)))) else done) (Je (sh1 (Jg (Ja (opM Ji (opM ixD (rd 0) (Zr (.int 0))) (opM ixD (rd 1) (Zr (.int 0)))) (Ja (opM Ji (opM ixD (rd 0) (Zr (.int 1))) (opM ixD (rd 1) (Zr (.int 1)))) (Zr [])))))))
def Zn : Fm:=Jj 2 Z1g
def Z4p : M Ent:=(Z31 (Jn (rd 1)) (Jd 5) (Zr true) (ifM (cmB eqD (rd 4) (rd 5)) (Jg (Ja (Zr (.int 0)) (Ja (Jg (Zr [])) (Zr [])))) (Zr (.non))) [5])
def Z33 : M Ent:=(Z9x (.l .sh) (Jn (rd 1)) (Jd 4) (Zr true) Z4p [4])
def Z2e : G:=(Jf (Z4X (orM (cmB Jp (opM ixD (opM ixD (rd 2) (rd 4)) (rd 5)) (Zr (.non))) (cmB ltD (opM ixD (opM ixD (opM ixD (rd 2) (rd 4)) (rd 5)) (Zr (.int 0))) (rd 6)))) fun k => if k = true then (Z1V 2 (Jg (Ja (rd 6) (Ja (Jg (Ja (rd 3) (Zr []))) (Zr [])))) (rd 4) (rd 5)) else done)
def Z34 : G:=(Jw (enI (Ja (unM (Z5B ["Book"] "gaps") (rd 0)) (Zr []))) (tgT 2 (tgC (Jd 3) (tgC (tgT 3 (tgC (Jd 4) (tgC (Jd 5) (tgC (Jd 6) tgN)))) tgN))) Z2e)
def Zy : G:=(Zb (Jh 8 (sh1 (look (shM (Jc Zn [none,none] [] (Ja (opM ixD (opM ixD (rd 2) (rd 4)) (rd 7)) (Ja (opM ixD (opM ixD (rd 2) (rd 7)) (rd 5)) (Zr [])))))))) (Jf (Z4X (J4 (cmB Z3E (rd 8) (Zr (.non))) (orM (cmB Jp (opM ixD (opM ixD (rd 2) (rd 4)) (rd 5)) (Zr (.non))) (cmB ltD (opM ixD (opM ixD (opM ixD (rd 2) (rd 4)) (rd 5)) (Zr (.int 0))) (opM ixD (rd 8) (Zr (.int 0))))))) fun k => if k = true then (Zb (Jf (cmB eqD (rd 4) (rd 5)) fun k => if k = true then (frzS 2 (Je (sh1 (Jg (Ja (rd 2) (Ja (opM ixD (rd 8) (Zr (.int 1))) (Zr []))))))) else done) (Z1V 2 (rd 8) (rd 4) (rd 5))) else done))
def Z35 : G:=(Jw (Jn (rd 1)) (Jd 5) Zy)
abbrev Z4q : G:=Z35
def Z36 : G:=(Jw (Jn (rd 1)) (Jd 4) Z4q)
abbrev Z4r : G:=Z36
def Z37 : G:=(Jw (Jn (rd 1)) (Jd 7) Z4r)
def Z3U : G:=(Zb (Jh 1 (sh1 (shM (lrg1 (unM (Z5B ["Book"] "events") (rd 0)))))) (Zb (Jh 2 Z33) (Zb Z34 (Zb Z37 (frzS 2 (Je (sh1 (Jg (Ja (rd 2) (Ja (Zr (.non)) (Zr [])))))))))))
def Z1C : Fm:=Jj 9 Z3U

def Zbg : G:=(Je (sh1 (opM ixD (shM (Jc Z1C [none] [] (Ja (rd 0) (Zr [])))) (Zr (.int 1)))))
def Z6F : Fm:=Jj 1 Zbg
def Z38 : G:=(Zb (asgS (tgT 2 (tgC (Jd 1) (tgC (Jd 2) tgN))) (shM (Jc Z1C [none] [] (Ja (rd 0) (Zr []))))) (Zb (Jf (cmB Z3E (rd 2) (Zr (.non))) fun k => if k = true then (Z3K "NoFit" ["reason"] (Ja (Jg (Ja (Zr (.str "gaps")) (Ja (rd 2) (Zr [])))) (Zr []))) else done) (Je (sh1 (rd 1)))))
def Z1k : Fm:=Jj 3 Z38
def Z1p : M Ent:=(Z31 (Jn (unM (Z5B ["Book"] "clauses") (rd 0))) (tgT 4 (tgC (Jd 2) (tgC (Jd 3) (tgC (Jd 4) (tgC (Jd 5) tgN))))) (Zr true) (orV (opM eqD (opM ixD (rd 1) (rd 2)) (rd 3)) (opM eqD (opM ixD (rd 1) (rd 4)) (rd 5))) [2,3,4,5])
def Z2p : G:=(Je (sh1 (cbM allD (Ja (shM Z1p) (Zr [])))))
def Z17 : Fm:=Jj 6 Z2p

def ZC : G:=(Jf (mutM 3 extG (Ja (Jv (Ja (opM Ji (rd 4) (Jg (Ja (Zr (.str "early")) (Zr [])))) (Ja (opM Ji (rd 4) (Jg (Ja (Zr (.str "late")) (Zr [])))) (Zr [])))) (Zr []))) fun _ => done)
def Z26 : G:=(Jw (Jn (cbM ZcK (Ja (rd 1) (Zr [])))) (Jd 4) ZC)
def Z11 : G:=(Zb (Jh 3 (J1 (Zr []))) (Zb Z26 (frzS 3 (Jh 1 (sh1 (rd 3))))))
def Z27 : G:=(Jw (rg1 (Ja (rd 0) (Zr []))) (Jd 2) Z11)
def Z2q : G:=(Zb (Jh 1 (sh1 (Jv (Ja (Jg (Zr [])) (Zr []))))) (Zb Z27 (Je (sh1 (rd 1)))))
def ZL : Fm:=Jj 5 Z2q

def Z1D : G:=(Zb (Jf (cmB eqD (rd 0) (Zr (.int 0))) fun k => if k = true then (Je (ifM (cmB eqD (opM ixD (rd 2) (opM ixD (rd 1) (Zr (.int 0)))) (Zr (.str "early"))) (sh1 (opM geD (opM ixD (rd 3) (opM ixD (rd 1) (Zr (.int 1)))) (opM ixD (rd 1) (Zr (.int 2))))) (sh1 (opM leD (opM ixD (rd 3) (opM ixD (rd 1) (Zr (.int 1)))) (opM ixD (rd 1) (Zr (.int 2))))))) else done) (Zb (Jf (cmB eqD (rd 0) (Zr (.int 1))) fun k => if k = true then (Je (sh1 (opM geD (opM ixD (rd 3) (opM ixD (rd 1) (Zr (.int 1)))) (opM Ji (opM ixD (rd 3) (opM ixD (rd 1) (Zr (.int 0)))) (opM ixD (rd 1) (Zr (.int 2))))))) else done) (Zb (Jf (cmB eqD (rd 0) (Zr (.int 2))) fun k => if k = true then (Je (ifM (cmB eqD (opM ixD (rd 1) (Zr (.int 1))) (Zr (.str "least"))) (sh1 (opM geD (opM ixD (rd 3) (opM ixD (rd 1) (Zr (.int 0)))) (opM ixD (rd 1) (Zr (.int 2))))) (sh1 (opM leD (opM ixD (rd 3) (opM ixD (rd 1) (Zr (.int 0)))) (opM ixD (rd 1) (Zr (.int 2))))))) else done) (Je (sh1 (orV (opM eqD (opM ixD (rd 2) (opM ixD (rd 1) (Zr (.int 0)))) (opM ixD (rd 1) (Zr (.int 1)))) (opM eqD (opM ixD (rd 2) (opM ixD (rd 1) (Zr (.int 2)))) (opM ixD (rd 1) (Zr (.int 3))))))))))
def Zk : Fm:=Jj 4 Z1D
def Z1E : M Ent:=(Z9x (.l .sh) (rg1 (Ja (opM Ji (rd 0) (Zr (.int 1))) (Zr []))) (Jd 3) (Zr true) (mulO (Jv (Ja (Zr (.non)) (Zr []))) (opM Ji (rd 0) (Zr (.int 1)))) [3])
def Z1F : G:=(Z1V 2 (Zr (.int 0)) (rd 3) (rd 3))
def Z1G : G:=(Jw (rg1 (Ja (opM Ji (rd 0) (Zr (.int 1))) (Zr []))) (Jd 3) Z1F)
def Z2f : G:=(Jf (Z4X (orM (cmB Jp (opM ixD (opM ixD (rd 2) (rd 3)) (rd 4)) (Zr (.non))) (cmB ltD (opM ixD (opM ixD (rd 2) (rd 3)) (rd 4)) (rd 5)))) fun k => if k = true then (Z1V 2 (rd 5) (rd 3) (rd 4)) else done)
def Z39 : G:=(Jw (Jn (rd 1)) (tgT 3 (tgC (Jd 3) (tgC (Jd 4) (tgC (Jd 5) tgN)))) Z2f)
def Z1H : G:=(Jf (Z4X (J4 (cmB Z3E (opM ixD (opM ixD (rd 2) (rd 3)) (rd 6)) (Zr (.non))) (cmB Z3E (opM ixD (opM ixD (rd 2) (rd 6)) (rd 4)) (Zr (.non))))) fun k => if k = true then (Jf (Z4X (orM (cmB Jp (opM ixD (opM ixD (rd 2) (rd 3)) (rd 4)) (Zr (.non))) (cmB ltD (opM ixD (opM ixD (rd 2) (rd 3)) (rd 4)) (opM Ji (opM ixD (opM ixD (rd 2) (rd 3)) (rd 6)) (opM ixD (opM ixD (rd 2) (rd 6)) (rd 4)))))) fun k => if k = true then (Z1V 2 (look (opM Ji (opM ixD (opM ixD (rd 2) (rd 3)) (rd 6)) (opM ixD (opM ixD (rd 2) (rd 6)) (rd 4)))) (rd 3) (rd 4)) else done) else done)
def Z1I : G:=(Jw (rg1 (Ja (opM Ji (rd 0) (Zr (.int 1))) (Zr []))) (Jd 4) Z1H)
abbrev Z3a : G:=Z1I
def Z1J : G:=(Jw (rg1 (Ja (opM Ji (rd 0) (Zr (.int 1))) (Zr []))) (Jd 3) Z3a)
abbrev Z3b : G:=Z1J
def Z1K : G:=(Jw (rg1 (Ja (opM Ji (rd 0) (Zr (.int 1))) (Zr []))) (Jd 6) Z3b)
def ZU : G:=(Jf (cmB gtD (opM ixD (opM ixD (rd 2) (rd 3)) (rd 3)) (Zr (.int 0))) fun k => if k = true then (Je (sh1 (Zr (.non)))) else done)
def Z1L : G:=(Jw (rg1 (Ja (opM Ji (rd 0) (Zr (.int 1))) (Zr []))) (Jd 3) ZU)
def Z28 : G:=(Zb (Jh 2 Z1E) (Zb Z1G (Zb Z39 (Zb Z1K (frzS 2 (Zb Z1L (Je (sh1 (rd 2)))))))))
def Z18 : Fm:=Jj 7 Z28

def Z1b : M Ent:=(Z31 (Jn (opM ixD (rd 1) (Zr (.int 3)))) (Jd 13) (Jq (test (shM (Jc Zk [none,none,none,none] [] (Ja (Zr (.int 3)) (Ja (rd 13) (Ja (rd 3) (Ja (Jg (Zr [])) (Zr []))))))))) (rd 13) [13])
def ZN : G:=(Zb (Jh 8 (sh1 (opM Ji (rd 0) (cbM J3 (Ja (opM inD (rd 5) (rd 2)) (Zr [])))))) (Jf (mutM 4 appG (Ja (ifM (cmB eqD (opM ixD (rd 3) (rd 5)) (Zr (.str "early"))) (Jg (Ja (rd 8) (Ja (rd 6) (Ja (rd 7) (Zr []))))) (Jg (Ja (rd 6) (Ja (rd 8) (Ja (opM Jt (Zr (.int 0)) (rd 7)) (Zr [])))))) (Zr []))) fun _ => done))
def Z1W : G:=(Jw (Jn (opM ixD (rd 1) (Zr (.int 0)))) (tgT 3 (tgC (Jd 5) (tgC (Jd 6) (tgC (Jd 7) tgN)))) ZN)
def ZO : G:=(Jf (mutM 4 appG (Ja (ifM (cmB eqD (rd 9) (Zr (.str "least"))) (Jg (Ja (rd 0) (Ja (rd 6) (Ja (rd 7) (Zr []))))) (Jg (Ja (rd 6) (Ja (rd 0) (Ja (opM Jt (Zr (.int 0)) (rd 7)) (Zr [])))))) (Zr []))) fun _ => done)
def Z1X : G:=(Jw (Jn (opM ixD (rd 1) (Zr (.int 2)))) (tgT 3 (tgC (Jd 6) (tgC (Jd 9) (tgC (Jd 7) tgN)))) ZO)
def Z29 : G:=(Zb (Jf (cmB neD (shM Z1b) (Jv (Zr []))) fun k => if k = true then (Je (sh1 (Zr (.non)))) else done) (Zb (Jh 4 (ZfR Z3u (opM ixD (rd 1) (Zr (.int 1))))) (Zb Z1W (Zb Z1X (frzS 4 (Zb (Jh 10 (sh1 (shM (Jc Z18 [none,none] [] (Ja (opM Ji (rd 0) (Zr (.int 1))) (Ja (rd 4) (Zr []))))))) (Zb (Jf (cmB Jp (rd 10) (Zr (.non))) fun k => if k = true then (Je (sh1 (Zr (.non)))) else done) (Zb (Z74 11 12 (Ja (opM ixD (opM ixD (rd 10) (opM Ji (rd 0) (Zr (.int 1)))) (rd 0)) (Ja (opM ixD (opM ixD (rd 10) (rd 0)) (opM Ji (rd 0) (Zr (.int 1)))) (Zr [])))) (Je (sh1 (Jg (Ja (rd 11) (Ja (ifM (cmB Jp (rd 12) (Zr (.non))) (Zr (.non)) (opM Jt (Zr (.int 0)) (rd 12))) (Zr []))))))))))))))
def ZD : Fm:=Jj 14 Z29

def Z8M : G:=(Je (J1 (Ja (Zr (.int 0)) (Ja (Zr (.int 1234567891)) (Ja (Zr (.int 0)) (Ja (shM (Z31 (Jn (slM (rd 0) (Zr none) (ixp (Zr (.int 63))))) (Jd 1) (Zr true) (cbM absD (Ja (rd 1) (Zr []))) [1])) (Zr [])))))))
def Z3x : Fm:=Jj 2 Z8M
def Z7D : G:=(Zb (Jf (Z4X (cmB eqD (opM ixD (rd 0) (Zr (.int 0))) (Zr (.int 0)))) fun k => if k = true then (Zb (Jh 2 (sh1 (Zr (.int 0)))) (Zb (Jf (Z4X (cmB ltD (opM ixD (rd 0) (Zr (.int 2))) (cbM (one Jx) (Ja (opM ixD (rd 0) (Zr (.int 3))) (Zr []))))) fun k => if k = true then (Jh 2 (sh1 (look (opM ixD (opM ixD (rd 0) (Zr (.int 3))) (opM ixD (rd 0) (Zr (.int 2))))))) else done) (Zb (Z5H 0 (ipD fun i j => i + j) (Zr (.int 2)) (Zr (.int 1))) (Zb (Jf (cmB geD (rd 2) (Zr (.int 1000000000000000000))) fun k => if k = true then (Z2i 0 (rd 2) (Zr (.int 0))) else done) (Zb (Jh 3 (sh1 (look (opM Ji (opM Ji (opM J0 (opM ixD (rd 0) (Zr (.int 1))) (Zr (.int 48271))) (opM modD (cbM J3 (Ja (rd 2) (Zr []))) (Zr (.int 2147483647)))) (opM J0 (Zr (.int 7919)) (opM ixD (rd 0) (Zr (.int 2)))))))) (Z2i 0 (opM modD (cbM J3 (Ja (rd 3) (Zr []))) (Zr (.int 2147483647))) (Zr (.int 1)))))))) else done) (Zb (Jf (Z4X (cmB gtD (opM ixD (rd 0) (Zr (.int 0))) (Zr (.int 0)))) fun k => if k = true then (Zb (Jh 4 (sh1 (look (opM modD (cbM J3 (Ja (opM ixD (rd 0) (Zr (.int 0))) (Zr []))) (rd 1))))) (Zb (Z2i 0 (look (opM divD (cbM J3 (Ja (opM ixD (rd 0) (Zr (.int 0))) (Zr []))) (rd 1))) (Zr (.int 0))) (Je (sh1 (rd 4))))) else done) (Zb (Jh 5 (sh1 (look (opM modD (cbM J3 (Ja (opM J0 (opM Ji (opM ixD (rd 0) (Zr (.int 1))) (Zr (.int 1))) (Zr (.int 39373))) (Zr []))) (Zr (.int 1000000007)))))) (Zb (Jh 6 (sh1 (opM modD (cbM J3 (Ja (opM J0 (opM modD (cbM J3 (Ja (opM J0 (rd 5) (rd 5)) (Zr []))) (Zr (.int 998244353))) (Zr (.int 30011))) (Zr []))) (Zr (.int 998244353))))) (Je (sh1 (opM modD (cbM J3 (Ja (opM divD (rd 6) (Zr (.int 7))) (Zr []))) (rd 1))))))))
def Z3 : Fm:=Jj 7 Z7D
def Z8N : G:=(Je (sh1 (opM ixD (rd 1) (shM (Jc Z3 [some 0,none] [] (ioM 0 (Ja (cbM (one Jx) (Ja (rd 1) (Zr []))) (Zr []))))))))
def Z1h : Fm:=Jj 2 Z8N
def g_law_book : G:=(Zb (Jh 1 (sh1 (opM ixD (rd 0) (Zr (.int 2))))) (Je (mkM ZT "Book" [none,none,none,none,none,none] [] (Ja (opM ixD (rd 0) (Zr (.int 0))) (Ja (opM ixD (rd 0) (Zr (.int 1))) (Ja (opM ixD (rd 1) (Zr (.int 0))) (Ja (cbM Z2h (Ja (opM ixD (rd 1) (Zr (.int 1))) (Zr []))) (Ja (opM ixD (rd 1) (Zr (.int 2))) (Ja (cbM Z2h (Ja (opM ixD (rd 1) (Zr (.int 3))) (Zr []))) (Zr []))))))))))
def m_law_book : Fm:=Jj 2 g_law_book
def Z3V : G:=(Zb (Z74 1 2 (Ja (shM (Jc Z3 [some 0,none] [] (ioM 0 (Ja (Zr (.int 10)) (Zr []))))) (Ja (opM Jt (shM (Jc Z3 [some 0,none] [] (ioM 0 (Ja (Zr (.int 12)) (Zr []))))) (Zr (.int 3))) (Zr [])))) (Zb (Jf (cmB ltD (rd 1) (Zr (.int 8))) fun k => if k = true then (Je (sh1 (rd 2))) else done) (Je (ifM (cmB eqD (rd 1) (Zr (.int 8))) (sh1 (opM Ji (Zr (.int 999999999900)) (rd 2))) (sh1 (opM Jt (rd 2) (Zr (.int 999999999900))))))))
def Zu : Fm:=Jj 3 Z3V
def Z5e : G:=(Je (sh1 (opM ixD (Jv (Ja (Zr (.str "early")) (Ja (Zr (.str "late")) (Zr [])))) (shM (Jc Z3 [some 0,none] [] (ioM 0 (Ja (Zr (.int 2)) (Zr []))))))))
def Zo : Fm:=Jj 1 Z5e
def Z4s : G:=(Zb (Jh 4 (lstO (.l .sh) (conO (J1 (Zr [])) (conO (J1 (Zr [])) (conO (J1 (Zr [])) (conO (J1 (Zr [])) (Zr []))))))) (Zb (Jw (rg1 (Ja (opM J0 (shM (Jc Z3 [some 0,none] [] (ioM 0 (Ja (opM Ji (rd 3) (Zr (.int 1))) (Zr []))))) (cbM J3 (Ja (opM gtD (opM J0 (rd 1) (rd 2)) (Zr (.int 0))) (Zr [])))) (Zr []))) (Jd 5) (Jf (Z6R 4 appG (Zr (.int 0)) (Ja (Jg (Ja (shM (Jc Z3 [some 0,none] [] (ioM 0 (Ja (rd 2) (Zr []))))) (Ja (shM (Jc Z3 [some 0,none] [] (ioM 0 (Ja (rd 1) (Zr []))))) (Ja (shM (Jc Zu [some 0] [] (ioM 0 (Zr [])))) (Zr []))))) (Zr []))) fun _ => done)) (Zb (Jw (rg1 (Ja (opM J0 (shM (Jc Z3 [some 0,none] [] (ioM 0 (Ja (opM Ji (opM divD (rd 3) (Zr (.int 2))) (Zr (.int 2))) (Zr []))))) (cbM J3 (Ja (opM gtD (rd 1) (Zr (.int 1))) (Zr [])))) (Zr []))) (Jd 5) (Zb (Jh 6 (sh1 (shM (Jc Z3 [some 0,none] [] (ioM 0 (Ja (rd 1) (Zr []))))))) (Jf (Z6R 4 appG (Zr (.int 1)) (Ja (Jg (Ja (rd 6) (Ja (opM modD (cbM J3 (Ja (opM Ji (opM Ji (rd 6) (Zr (.int 1))) (shM (Jc Z3 [some 0,none] [] (ioM 0 (Ja (opM Jt (rd 1) (Zr (.int 1))) (Zr [])))))) (Zr []))) (rd 1)) (Ja (opM Jt (shM (Jc Z3 [some 0,none] [] (ioM 0 (Ja (Zr (.int 9)) (Zr []))))) (Zr (.int 4))) (Zr []))))) (Zr []))) fun _ => done))) (Zb (Jw (rg1 (Ja (opM J0 (shM (Jc Z3 [some 0,none] [] (ioM 0 (Ja (Zr (.int 4)) (Zr []))))) (cbM J3 (Ja (opM gtD (rd 1) (Zr (.int 0))) (Zr [])))) (Zr []))) (Jd 5) (Jf (Z6R 4 appG (Zr (.int 2)) (Ja (Jg (Ja (shM (Jc Z3 [some 0,none] [] (ioM 0 (Ja (rd 1) (Zr []))))) (Ja (opM ixD (Jv (Ja (Zr (.str "least")) (Ja (Zr (.str "most")) (Zr [])))) (shM (Jc Z3 [some 0,none] [] (ioM 0 (Ja (Zr (.int 2)) (Zr [])))))) (Ja (shM (Jc Zu [some 0] [] (ioM 0 (Zr [])))) (Zr []))))) (Zr []))) fun _ => done)) (Zb (Jw (rg1 (Ja (opM J0 (shM (Jc Z3 [some 0,none] [] (ioM 0 (Ja (Zr (.int 4)) (Zr []))))) (cbM J3 (Ja (opM gtD (rd 2) (Zr (.int 0))) (Zr [])))) (Zr []))) (Jd 5) (Zb (Jh 7 (sh1 (Jg (Ja (shM (Jc Z3 [some 0,none] [] (ioM 0 (Ja (rd 2) (Zr []))))) (Ja (shM (Jc Zo [some 0] [] (ioM 0 (Zr [])))) (Ja (shM (Jc Z3 [some 0,none] [] (ioM 0 (Ja (rd 2) (Zr []))))) (Ja (shM (Jc Zo [some 0] [] (ioM 0 (Zr [])))) (Zr [])))))))) (Jf (Z6R 4 appG (Zr (.int 3)) (Ja (rd 7) (Zr []))) fun _ => done))) (Z9v 4))))))
def ZF : Fm:=Jj 8 Z4s
def Z1Y : M Ent:=(Z31 (rg1 (Ja (rd 2) (Zr []))) (Jd 6) (Zr true) (shM (Jc Zo [some 0] [] (ioM 0 (Zr [])))) [6])
def Z1Z : M Ent:=(Z31 (rg1 (Ja (rd 1) (Zr []))) (Jd 7) (Zr true) (opM Jt (shM (Jc Z3 [some 0,none] [] (ioM 0 (Ja (Zr (.int 12)) (Zr []))))) (Zr (.int 2))) [7])
def ZP : M Ent:=(Z31 (Jn (opM ixD (rd 3) (rd 8))) (Jd 9) (test (shM (Jc Zk [none,none,none,none] [] (Ja (rd 8) (Ja (rd 9) (Ja (rd 4) (Ja (rd 5) (Zr [])))))))) (rd 9) [9])
def Z1c : M Ent:=(Z9x (.l .sh) (rg1 (Ja (Zr (.int 4)) (Zr []))) (Jd 8) (Zr true) ZP [8])
def Z2a : G:=(Zb (asgS (tgT 2 (tgC (Jd 4) (tgC (Jd 5) tgN))) (Jg (Ja (shM Z1Y) (Ja (shM Z1Z) (Zr []))))) (Je Z1c))
def ZZr : Fm:=Jj 10 Z2a

def c0_law_far_gaps : M Ent:=(Z31 (Jn (rd 1)) (tgT 3 (tgC (Jd 3) (tgC (Jd 4) (tgC (Jd 5) tgN)))) (Zr true) (Jg (Ja (rd 3) (Ja (rd 4) (Ja (opM J0 (rd 5) (Zr (.int 200000000000))) (Zr []))))) [3,4,5])
def b0_law_far_gaps : G:=(Jf (mutM 2 appG (Ja (Jg (Ja (rd 4) (Ja (rd 3) (Ja (opM Jt (opM Jt (Zr (.int 0)) (rd 5)) (shM (Jc Z1h [some 0,none] [] (ioM 0 (Ja (Jv (Ja (Zr (.int 0)) (Ja (Zr (.int 1)) (Ja (Zr (.int 7)) (Ja (Zr (.int 100000000000)) (Zr [])))))) (Zr [])))))) (Zr []))))) (Zr []))) fun _ => done)
def l0_law_far_gaps : G:=(Jw (Jn (look (slM (rd 2) (Zr none) (ixp (Zr (.int 1)))))) (tgT 3 (tgC (Jd 3) (tgC (Jd 4) (tgC (Jd 5) tgN)))) b0_law_far_gaps)
def g_law_far_gaps : G:=(Zb (Jf (cmB ltD (shM (Jc Z3 [some 0,none] [] (ioM 0 (Ja (Zr (.int 6)) (Zr []))))) (Zr (.int 5))) fun k => if k = true then (Je (sh1 (rd 1))) else done) (Zb (Jh 2 c0_law_far_gaps) (Zb l0_law_far_gaps (Z9v 2))))
def m_law_far_gaps : Fm:=Jj 6 g_law_far_gaps

def Z6h : G:=(Je (Z31 (rg1 (Ja (rd 1) (Zr []))) (Jd 2) (cmB eqD (shM (Jc Z3 [some 0,none] [] (ioM 0 (Ja (Zr (.int 2)) (Zr []))))) (Zr (.int 1))) (rd 2) [2]))
def Z2S : Fm:=Jj 3 Z6h
def Z1P : M Ent:=(Z31 (Jn (unM (Z5B ["Book"] "sure") (rd 0))) (tgT 3 (tgC (Jd 4) (tgC (Jd 5) (tgC (Jd 6) tgN)))) (cmB eqD (rd 5) (Zr (.str "most"))) (Jg (Ja (rd 4) (Ja (Zr (.bl false)) (Ja (rd 6) (Zr []))))) [4,5,6])
def Z1Q : M Ent:=(Z31 (Jn (unM (Z5B ["Book"] "tellings") (rd 0))) (tgT 3 (tgC (Jd 7) (tgC (Jd 4) (tgC (Jd 6) tgN)))) (cmB eqD (opM ixD (rd 2) (rd 7)) (Zr (.str "late"))) (Jg (Ja (rd 4) (Ja (opM inD (rd 7) (rd 1)) (Ja (rd 6) (Zr []))))) [7,4,6])
def Z3i : G:=(Zb (Jh 3 Z1P) (frzS 3 (Zb (Jh 3 (sh1 (opM Ji (rd 3) (shM Z1Q)))) (Je (sh1 (bnd (rd 3) fun d => ofO (strD 2 (cbM ZcH (Ja (rd 0) (Ja (rd 1) (Zr [])))) d)))))))
def Z1s : Fm:=Jj 8 Z3i

def Z2y : M Ent:=(Z31 (Jn (unM (Z5B ["Book"] "sure") (rd 0))) (tgT 3 (tgC (Jd 4) (tgC (Jd 5) (tgC (Jd 6) tgN)))) (cmB eqD (rd 5) (Zr (.str "least"))) (Jg (Ja (rd 4) (Ja (Zr (.bl false)) (Ja (rd 6) (Zr []))))) [4,5,6])
def Z2z : M Ent:=(Z31 (Jn (unM (Z5B ["Book"] "tellings") (rd 0))) (tgT 3 (tgC (Jd 7) (tgC (Jd 4) (tgC (Jd 6) tgN)))) (cmB eqD (opM ixD (rd 2) (rd 7)) (Zr (.str "early"))) (Jg (Ja (rd 4) (Ja (opM inD (rd 7) (rd 1)) (Ja (rd 6) (Zr []))))) [7,4,6])
def Z4t : G:=(Zb (Jh 3 Z2y) (frzS 3 (Zb (Jh 3 (sh1 (opM Ji (rd 3) (shM Z2z)))) (Je (sh1 (bnd (rd 3) fun d => ofO (strD 2 (cbM ZcG (Ja (rd 0) (Ja (rd 1) (Zr [])))) d)))))))
def Z2g : Fm:=Jj 8 Z4t

def ZV : G:=(Jf (cmB Z3E (opM ixD (opM ixD (rd 3) (rd 8)) (rd 11)) (Zr (.non))) fun k => if k = true then (Zb (Jh 14 (sh1 (opM Jt (opM Jt (rd 13) (rd 10)) (opM ixD (opM ixD (opM ixD (rd 3) (rd 8)) (rd 11)) (Zr (.int 0)))))) (Zb (Jf (J4 (cmB eqD (rd 9) (rd 12)) (cmB ltD (rd 14) (Zr (.int 0)))) fun k => if k = true then (Je (sh1 (Zr (.non)))) else done) (Zb (Jf (J4 (test (rd 9)) (J4 (Jq (test (rd 12))) (orM (cmB Jp (rd 6) (Zr (.non))) (cmB gtD (unM negD (rd 14)) (rd 6))))) fun k => if k = true then (Jh 6 (sh1 (unM negD (rd 14)))) else done) (Jf (J4 (test (rd 12)) (J4 (Jq (test (rd 9))) (orM (cmB Jp (rd 7) (Zr (.non))) (cmB ltD (rd 14) (rd 7))))) fun k => if k = true then (Jh 7 (sh1 (rd 14))) else done)))) else done)
def Z19 : G:=(Jw (Zdq (rd 5)) (tgT 2 (tgC (tgT 2 (tgC (Jd 11) (tgC (Jd 12) tgN))) (tgC (Jd 13) tgN))) ZV)
abbrev Z2b : G:=Z19
def ZE : G:=(Jw (Zdq (rd 4)) (tgT 2 (tgC (tgT 2 (tgC (Jd 8) (tgC (Jd 9) tgN))) (tgC (Jd 10) tgN))) Z2b)
def Z3W : G:=(Zb (Z74 4 5 (Ja (shM (Jc Z2g [none,none,none] [] (Ja (rd 0) (Ja (rd 1) (Ja (rd 2) (Zr [])))))) (Ja (shM (Jc Z1s [none,none,none] [] (Ja (rd 0) (Ja (rd 1) (Ja (rd 2) (Zr [])))))) (Zr [])))) (Zb (asgS (tgT 2 (tgC (Jd 6) (tgC (Jd 7) tgN))) (Jg (Ja (Zr (.non)) (Ja (Zr (.non)) (Zr []))))) (Zb ZE (Je (ifM (J4 (cmB Z3E (rd 6) (Zr (.non))) (J4 (cmB Z3E (rd 7) (Zr (.non))) (cmB gtD (rd 6) (rd 7)))) (sh1 (Zr (.non))) (sh1 (Jg (Ja (rd 6) (Ja (rd 7) (Zr []))))))))))
def Z1R : Fm:=Jj 15 Z3W

def Z2r : G:=(Zb (Jf (orM (cmB Z3E (shM (Jc Z6F [none] [] (Ja (rd 0) (Zr [])))) (Zr (.non))) (Jq (test (shM (Jc Z17 [none,none] [] (Ja (rd 0) (Ja (rd 2) (Zr [])))))))) fun k => if k = true then (Je (sh1 (Zr (.non)))) else done) (Je (Jc Z1R [none,none,none,none] [] (Ja (rd 0) (Ja (rd 1) (Ja (rd 2) (Ja (shM (Jc Z1k [none] [] (Ja (rd 0) (Zr [])))) (Zr []))))))))
def ZM : Fm:=Jj 3 Z2r
theorem Z1q : Z3 = Ze3:=rfl
theorem truB (b : Bool) : truD (.bl b) = some b:=rfl
def Z6S : D → Bool
 | .ty _ => false
 | .cl _ => false
 | .frl _ => false
 | .ldc _ _ => false
 | .ins c _ _ => c == "Book"
 | _ => true
theorem Z4M {c : Str} {ns : List Str} {ds : List D} (h : Z6S (.ins c ns ds) = true) : c = "Book" := by
 have h' : (c == "Book") = true:=h
 simpa using h'
def isI : D → Bool
 | .int _ => true
 | _ => false
def isIB : D → Bool
 | .int _ => true
 | .bl _ => true
 | _ => false
def isBl : D → Bool
 | .bl _ => true
 | _ => false
def isS : D → Bool
 | .str _ => true
 | _ => false
def isT : D → Bool
 | .tup _ => true
 | _ => false
theorem Ze7 {d : D} (h : Z6S d = true) : Jz ["Book"] [d,.ty "int"] = some (.bl (isIB d)):=by
 cases d <;> first | rfl | (cases h;done) | (cases Z4M h;rfl)
theorem Zbh {d : D} (h : Z6S d = true) : Jz ["Book"] [d,.ty "bool"] = some (.bl (isBl d)):=by
 cases d <;> first | rfl | (cases h;done) | (cases Z4M h;rfl)
theorem Za3 {d : D} (h : Z6S d = true) : Jz ["Book"] [d,.ty "str"] = some (.bl (isS d)):=by
 cases d <;> first | rfl | (cases h;done) | (cases Z4M h;rfl)
theorem Ze8 {d : D} (h : Z6S d = true) : Jz ["Book"] [d,.ty "tuple"] = some (.bl (isT d)):=by
 cases d <;> first | rfl | (cases h;done) | (cases Z4M h;rfl)
theorem Z3j {d : D} (h : Z6S d = true) : Z1m [(.sh,d)] = .ok (.sh,.bl (isI d)) [~~~d]:=by
 unfold Z1m Z3P;have e1:=Ze7 h;have e2:=Zbh h;cases d <;> first | (cases h;done) | (push_cast only [e1,e2,truB,Option.map_some];rfl)
def idxB (n : Int) : D → Bool
 | .int i => decide (0 ≤ i) && decide (i < n)
 | _ => false
theorem ZW {d : D} {n : Int} (h : Z6S d = true) : Zx [(.sh,d),(.sh,.int n)] = .ok (.sh,.bl (idxB n d)) [~~~d,~~~(.int n)]:=by
 unfold Zx Z5d;have e1:=Z3j h;cases d with
 | int i =>
  by_cases c1 : 0 ≤ i
  · by_cases c2 : i < n
    · push_cast only [e1,truB,isI,c1,c2,idxB,Bool.and_self];rfl
    · push_cast only [e1,truB,isI,c1,c2,idxB,Bool.and_false];rfl
  · push_cast only [e1,truB,isI,c1,idxB,Bool.false_and];rfl
 | _ => first | (cases h;done) | (push_cast only [e1,truB,isI];rfl)
def numB : D → Bool
 | .int i => decide (-1000000000000000 ≤ i) && decide (i ≤ 1000000000000000)
 | _ => false
theorem Z2A {d : D} (h : Z6S d = true) : Z1j [(.sh,d)] = .ok (.sh,.bl (numB d)) [~~~d]:=by
 unfold Z1j Z4n;have e1:=Z3j h;cases d with
 | int i =>
  by_cases c1 : -1000000000000000 ≤ i
  · by_cases c2 : i ≤ 1000000000000000
    · push_cast only [e1,truB,isI,c1,c2,numB,Bool.and_self];rfl
    · push_cast only [e1,truB,isI,c1,c2,numB,Bool.and_false];rfl
  · push_cast only [e1,truB,isI,c1,numB,Bool.false_and];rfl
 | _ => first | (cases h;done) | (push_cast only [e1,truB,isI];rfl)
theorem in2 (x a b : Str) : inD (.str x) (.tup [.str a,.str b]) = some (.bl (decide (x = a) || decide (x = b))):=by
 have e : eqV (.str a) (.str x) = decide (x = a):=by
  show (a == x) = _;by_cases c : x = a
  · subst c;simp
  · rw [decide_eq_false c];simpa using fun z : a = x => c z.symm
 have e2 : eqV (.str b) (.str x) = decide (x = b):=by
  show (b == x) = _;by_cases c : x = b
  · subst c;simp
  · rw [decide_eq_false c];simpa using fun z : b = x => c z.symm
 have e3 : inB (.str x) (.tup [.str a,.str b]) = some (inV (.str x) [.str a,.str b]):=rfl;unfold inD;rw [e3];show some (D.bl (([V.str a,V.str b]).any fun y => eqV y (.str x))) = _;simp only [List.any_cons,List.any_nil,Bool.or_false,e,e2]
def ZgG : D → Bool
 | .str x => decide (x = "early") || decide (x = "late")
 | _ => false
theorem Z5f {d : D} (h : Z6S d = true) : Z2R [(.sh,d)] = .ok (.sh,.bl (ZgG d)) [~~~d]:=by
 unfold Z2R Z6g;have e1:=Za3 h;cases d with
 | str x => push_cast only [e1,truB,isS,in2,ZgG];rfl
 | _ => first | (cases h;done) | (push_cast only [e1,truB,isS];rfl)
def ZgH : D → Bool
 | .str x => decide (x = "least") || decide (x = "most")
 | _ => false
theorem Z7E {d : D} (h : Z6S d = true) : Z3w [(.sh,d)] = .ok (.sh,.bl (ZgH d)) [~~~d]:=by
 unfold Z3w Z6f;have e1:=Za3 h;cases d with
 | str x => push_cast only [e1,truB,isS,in2,ZgH];rfl
 | _ => first | (cases h;done) | (push_cast only [e1,truB,isS];rfl)
def rowB (n : Int) : D → Bool
 | .tup ds => decide ((ds.length : Int) = n)
 | _ => false
theorem Z6i {d : D} {n : Int} (h : Z6S d = true) : Z3Q [(.sh,d),(.sh,.int n)] = .ok (.sh,.bl (rowB n d)) [~~~d,~~~(.int n)]:=by
 unfold Z3Q Z7C;have e1:=Ze8 h;cases d with
 | tup ds => push_cast only [e1,truB,isT,rowB];rfl
 | _ => first | (cases h;done) | (push_cast only [e1,truB,isT];rfl)
theorem idxT {i n : Int} (h : 0 ≤ i) (h2 : i < n) : idxB n (.int i) = true:=by show (decide (0 ≤ i) && decide (i < n)) = true;rw [Yp h,Yp h2];rfl
theorem numT {x : Int} (h : Big x) : numB (.int x) = true:=by show (decide (-1000000000000000 ≤ x) && decide (x ≤ 1000000000000000)) = true;rw [Yp h.1,Yp h.2];rfl
theorem ZhT {k : Str} (h : k = "early" ∨ k = "late") : ZgG (.str k) = true:=by rcases h with rfl | rfl <;> rfl
theorem ZiC {k : Str} (h : k = "least" ∨ k = "most") : ZgH (.str k) = true:=by rcases h with rfl | rfl <;> rfl
theorem Ze9 {z : Sz} {d : D} (h : Tel z d) : ∃ O,Z16 [(.sh,.int z.ev),(.sh,.int z.wi),(.sh,.int 0),(.sh,d)] = .ok (.l .sh,.lst [.bl true,.bl true,.bl true]) O:=by
 cases h with
 | mk w e x h1 h2 h3 h4 h5 =>
  have i1:=ZW (d:=.int w) (n:=z.wi) rfl;have i2:=ZW (d:=.int e) (n:=z.ev) rfl;have i3:=Z2A (d:=.int x) rfl;rw [idxT h1 h2] at i1;rw [idxT h3 h4] at i2;rw [numT h5] at i3;refine ⟨[~~~(.int z.ev),~~~(.int z.wi),~~~(.int 0),~~~(.tup [.int w,.int e,.int x])], ?_⟩;unfold Z16 Z3S Z1n Z25
  push_cast only [i1,i2,i3]
  rfl
theorem Zea {z : Sz} {d : D} (h : Gap z d) : ∃ O,Z16 [(.sh,.int z.ev),(.sh,.int z.wi),(.sh,.int 1),(.sh,d)] = .ok (.l .sh,.lst [.bl true,.bl true,.bl true]) O:=by
 cases h with
 | mk a b x h1 h2 h3 h4 h5 h6 =>
  have i1:=ZW (d:=.int a) (n:=z.ev) rfl;have i2:=ZW (d:=.int b) (n:=z.ev) rfl;have i3:=Z2A (d:=.int x) rfl;rw [idxT h1 h2] at i1;rw [idxT h3 h4] at i2;rw [numT h6] at i3;have t1 : ¬ ((1 : Int) = 0):=by decide
  refine ⟨[~~~(.int z.ev),~~~(.int z.wi),~~~(.int 1),~~~(.tup [.int a,.int b,.int x])], ?_⟩;unfold Z16 Z3S Z2x Z3R
  push_cast only [i1,i2,i3,truB,t1,h5,Option.map_some,Bool.not_false]
  rfl
theorem Zeb {z : Sz} {d : D} (h : Sur z d) : ∃ O,Z16 [(.sh,.int z.ev),(.sh,.int z.wi),(.sh,.int 2),(.sh,d)] = .ok (.l .sh,.lst [.bl true,.bl true,.bl true]) O:=by
 cases h with
 | mk e s x h1 h2 h3 h4 =>
  have i1:=ZW (d:=.int e) (n:=z.ev) rfl;have i2:=Z7E (d:=.str s) rfl;have i3:=Z2A (d:=.int x) rfl;rw [idxT h1 h2] at i1;rw [ZiC h3] at i2;rw [numT h4] at i3;have t1 : ¬ ((2 : Int) = 0):=by decide
  have t2 : ¬ ((2 : Int) = 1):=by decide
  refine ⟨[~~~(.int z.ev),~~~(.int z.wi),~~~(.int 2),~~~(.tup [.int e,.str s,.int x])], ?_⟩;unfold Z16 Z3S Z1O Z2Q
  push_cast only [i1,i2,i3,t1,t2]
  rfl
theorem Zec {z : Sz} {d : D} (h : Cla z d) : ∃ O,Z16 [(.sh,.int z.ev),(.sh,.int z.wi),(.sh,.int 3),(.sh,d)] = .ok (.l .sh,.lst [.bl true,.bl true,.bl true,.bl true]) O:=by
 cases h with
 | mk w k v l h1 h2 h3 h4 h5 h6 =>
  have i1:=ZW (d:=.int w) (n:=z.wi) rfl;have i2:=Z5f (d:=.str k) rfl;have i3:=ZW (d:=.int v) (n:=z.wi) rfl;have i4:=Z5f (d:=.str l) rfl;rw [idxT h1 h2] at i1;rw [ZhT h3] at i2;rw [idxT h4 h5] at i3;rw [ZhT h6] at i4;have t1 : ¬ ((3 : Int) = 0):=by decide
  have t2 : ¬ ((3 : Int) = 1):=by decide
  have t3 : ¬ ((3 : Int) = 2):=by decide
  refine ⟨[~~~(.int z.ev),~~~(.int z.wi),~~~(.int 3),~~~(.tup [.int w,.str k,.int v,.str l])], ?_⟩;unfold Z16 Z3S Z1w Z2o
  push_cast only [i1,i2,i3,i4,t1,t2,t3]
  rfl
theorem Z8O {z : Sz} {k : Nat} {d : D} (hk : k < 4) (h : Itm z k d) : (∃ bs O,Z16 [(.sh,.int z.ev),(.sh,.int z.wi),(.sh,.int (k : Nat)),(.sh,d)] = .ok (.l .sh,.lst bs) O ∧ allD [.lst bs] = some (.bl true)) ∧ Z6S d = true ∧ rowB (if k = 3 then 4 else 3) d = true:=by
 match k,hk,h with
 | 0,_,h =>
  obtain ⟨O,e⟩:=Ze9 h;refine ⟨⟨_,O,e,rfl⟩, ?_⟩;cases h;exact ⟨rfl,rfl⟩
 | 1,_,h =>
  obtain ⟨O,e⟩:=Zea h;refine ⟨⟨_,O,e,rfl⟩, ?_⟩;cases h;exact ⟨rfl,rfl⟩
 | 2,_,h =>
  obtain ⟨O,e⟩:=Zeb h;refine ⟨⟨_,O,e,rfl⟩, ?_⟩;cases h;exact ⟨rfl,rfl⟩
 | 3,_,h =>
  obtain ⟨O,e⟩:=Zec h;refine ⟨⟨_,O,e,rfl⟩, ?_⟩;cases h;exact ⟨rfl,rfl⟩
theorem Za4 {d : D} : ∀ {n : Nat} {ds : List D},d ∈ prs n ds → ∃ i x,d = .tup [.int i,x] ∧ x ∈ ds
 | _,[],h => by cases h
 | n,x :: ds,h => by
  rcases Yc.mp (show d ∈ .tup [.int (n : Nat),x] :: prs (n + 1) ds from h) with rfl | h
  · exact ⟨_,x,rfl,Ya⟩
  · obtain ⟨i,y,e,hy⟩:=Za4 h;exact ⟨i,y,e,Yb _ hy⟩
theorem Part.len {z : Sz} {k : Nat} {d : D} {ds : List D} (h : Part z k d ds) : one Jx [d] = some (.int ds.length):=by cases h <;> rfl
theorem Part.itm {z : Sz} {k : Nat} {d : D} {ds : List D} (h : Part z k d ds) : ∀ x ∈ ds,Itm z k x:=by
 cases h with
 | l _ h _ => exact h
 | t _ h _ => exact h
theorem Part.le {z : Sz} {k : Nat} {d : D} {ds : List D} (h : Part z k d ds) : ds.length ≤ 24:=by
 cases h with
 | l _ _ h => exact h
 | t _ _ h => exact h
def Z6G : G:=(Jf (orM (Jq (test (shM (Jc Z3Q [none,none] [] (Ja (rd 5) (Ja (ifM (cmB eqD (rd 2) (Zr (.int 3))) (Zr (.int 4)) (Zr (.int 3))) (Zr []))))))) (Jq (test (cbM allD (Ja (shM (Jc Z16 [none,none,none,none] [] (Ja (rd 0) (Ja (rd 1) (Ja (rd 2) (Ja (rd 5) (Zr []))))))) (Zr [])))))) fun k => if k = true then (Z3K "BadItem" ["place", "index"] (Ja (opM Ji (rd 2) (Zr (.int 2))) (Ja (rd 4) (Zr [])))) else done)
theorem Z8P {z : Sz} {k : Nat} {x it i : D} (hk : k < 4) (h : Itm z k x) : Z6G [~~~(.int z.ev),~~~(.int z.wi),~~~(.int (k : Nat)),~~~it,~~~i,~~~x] = .nx [~~~(.int z.ev),~~~(.int z.wi),~~~(.int (k : Nat)),~~~it,~~~i,~~~x]:=by
 obtain ⟨⟨bs,O,e1,e2⟩,hf,hr⟩:=Z8O hk h;by_cases c : k = 3
 · subst c;have r:=Z6i (n:=4) hf;rw [show rowB 4 x = true from hr] at r;have e3 : Z16 [(.sh,.int z.ev),(.sh,.int z.wi),(.sh,.int 3),(.sh,x)] = .ok (.l .sh,.lst bs) O:=e1;show Z6G [~~~(.int z.ev),~~~(.int z.wi),~~~(.int 3),~~~it,~~~i,~~~x] = .nx [~~~(.int z.ev),~~~(.int z.wi),~~~(.int 3),~~~it,~~~i,~~~x];unfold Z6G
   push_cast only [r,e3,e2,truB,Bool.not_true]
 · have r:=Z6i (n:=3) hf;rw [Yk c] at hr;rw [show rowB 3 x = true from hr] at r;have t : ¬ ((k : Int) = 3):=by omega
   unfold Z6G
   push_cast only [r,e1,e2,truB,Bool.not_true,t]
theorem Z5g {z : Sz} {k : Nat} {it : D} {ds : List D} (hk : k < 4) (h : Part z k it ds) : ∃ O,Z1o [(.sh,.int z.ev),(.sh,.int z.wi),(.sh,.int (k : Nat)),(.sh,it)] = .ok (.sh,.non) O:=by
 have hl:=h.len;have h24 : ¬ ((24 : Int) < (ds.length : Int)):=by have:=h.le;omega
 have hen : Z5I [it] = some (prs 0 ds):=by show (Z3u it).map (prs 0) = _;rw [h.seq];rfl
 obtain ⟨E',e,i⟩:=Z7A (asg:=tgT 2 (tgC (Jd 4) (tgC (Jd 5) tgN))) (body:=Z6G) (I:=fun E => ∃ s4 s5,E = [~~~(.int z.ev),~~~(.int z.wi),~~~(.int (k : Nat)),~~~it,s4,s5]) (ds:=prs 0 ds) (fun d hd E hE => by
  obtain ⟨s4,s5,rfl⟩:=hE;obtain ⟨j,x,rfl,hx⟩:=Za4 hd;exact ⟨_,_,rfl,Z8P hk (h.itm x hx),_,_,rfl⟩) (E:=[~~~(.int z.ev),~~~(.int z.wi),~~~(.int (k : Nat)),~~~it,none,none]) ⟨_,_,rfl⟩
 refine ⟨E', ?_⟩;have eg : Z3T = Zb (Jf (cmB gtD (cbM (one Jx) (Ja (rd 3) (Zr []))) (Zr (.int 24))) fun k => if k = true then (Z3K "TooMany" ["limit"] (Ja (Zr (.int 24)) (Zr []))) else done) (Jw (enI (Ja (rd 3) (Zr []))) (tgT 2 (tgC (Jd 4) (tgC (Jd 5) tgN))) Z6G):=rfl;unfold Z1o;rw [eg]
 push_cast only [hl,h24,hen,e]
def ZiD : List Str:=["events", "witnesses", "tellings", "gaps", "sure", "clauses"]
def ZgI (z : Sz) (a b c d : List D) : D:=.ins "Book" ZiD [.int z.ev,.int z.wi,.tup a,.tup b,.tup c,.tup d]
structure SzOk (z : Sz) : Prop where
 e0 : 0 ≤ z.ev
 e8 : z.ev ≤ 8
 w0 : 0 ≤ z.wi
 w8 : z.wi ≤ 8
theorem Z4N {z : Sz} {k : Nat} {d : D} {ds : List D} (h : Part z k d ds) : isiA ["Book"] d [.ty "list",.ty "tuple"] = some true:=by cases h <;> rfl
def bi1 : G:=(Jf (Jq (test (shM (Jc Zx [none,none] [] (Ja (rd 8) (Ja (opM Ji (Zr (.int 8)) (Zr (.int 1))) (Zr []))))))) fun k => if k = true then (Z3K "Wrong" ["place"] (Ja (rd 7) (Zr []))) else done)
def bi2 : G:=(Jf (Jq (test (Zc6 ["Book"] (rd 10) (Ja (Zr (.ty "list")) (Ja (Zr (.ty "tuple")) (Zr [])))))) fun k => if k = true then (Z3K "Wrong" ["place"] (Ja (opM Ji (rd 7) (Zr (.int 2))) (Zr []))) else done)
def bi3 : G:=(Jf (shM (Jc Z1o [none,none,none,none] [] (Ja (rd 1) (Ja (rd 2) (Ja (rd 11) (Ja (rd 10) (Zr []))))))) fun _ => done)
def Bst (se : D) (z : Sz) (p0 p1 p2 p3 : D) (s7 s8 s9 s10 s11 : Option Ent) : Nv:=[some (.o,se),~~~(.int z.ev),~~~(.int z.wi),~~~p0,~~~p1,~~~p2,~~~p3,s7,s8,s9,s10,s11]
theorem Zed {se : D} {z : Sz} {p0 p1 p2 p3 : D} {s7 s9 s10 s11 : Option Ent} {i : Int} (h0 : 0 ≤ i) (h8 : i ≤ 8) : bi1 (Bst se z p0 p1 p2 p3 s7 (~~~(.int i)) s9 s10 s11) = .nx (Bst se z p0 p1 p2 p3 s7 (~~~(.int i)) s9 s10 s11):=by
 have r:=ZW (d:=.int i) (n:=8 + 1) rfl;rw [idxT h0 (by omega)] at r;unfold bi1 Bst
 push_cast only [r,truB,Bool.not_true]
theorem Z8Q {se : D} {z : Sz} {p0 p1 p2 p3 it : D} {s7 s8 s9 s11 : Option Ent} (h : isiA ["Book"] it [.ty "list",.ty "tuple"] = some true) : bi2 (Bst se z p0 p1 p2 p3 s7 s8 s9 (~~~it) s11) = .nx (Bst se z p0 p1 p2 p3 s7 s8 s9 (~~~it) s11):=by
 have e : Zc6 ["Book"] (rd 10) (Ja (Zr (.ty "list")) (Ja (Zr (.ty "tuple")) (Zr []))) (Bst se z p0 p1 p2 p3 s7 s8 s9 (~~~it) s11) = .ok (.bl true) (Bst se z p0 p1 p2 p3 s7 s8 s9 (~~~it) s11):=by
  have t : ¬ (([D.ty "list",.ty "tuple"]).isEmpty = true ∨ ¬ Z2X ([D.ty "list",.ty "tuple"]).length = true):=by decide
  unfold Zc6 Bst
  push_cast only [List.isEmpty_cons,not_true_eq_false,or_self,h,Option.map_some]
 unfold bi2
 push_cast only [e,truB,Bool.not_true]
theorem Z8R {se : D} {z : Sz} {p0 p1 p2 p3 it : D} {k : Nat} {ds : List D} {s7 s8 s9 : Option Ent} (hk : k < 4) (h : Part z k it ds) : bi3 (Bst se z p0 p1 p2 p3 s7 s8 s9 (~~~it) (~~~(.int (k : Nat)))) = .nx (Bst se z p0 p1 p2 p3 s7 s8 s9 (~~~it) (~~~(.int (k : Nat)))):=by
 obtain ⟨O,e⟩:=Z5g hk h;unfold bi3 Bst
 push_cast only [e]
theorem Zee : Z4o = Zb (Jw (enI (Ja (Jv (Ja (rd 1) (Ja (rd 2) (Zr [])))) (Zr []))) (tgT 2 (tgC (Jd 7) (tgC (Jd 8) tgN))) bi1) (Zb (Jh 9 (sh1 (Jv (Ja (rd 3) (Ja (rd 4) (Ja (rd 5) (Ja (rd 6) (Zr [])))))))) (Zb (Jw (enI (Ja (rd 9) (Zr []))) (tgT 2 (tgC (Jd 7) (tgC (Jd 10) tgN))) bi2) (Zb (Jw (enI (Ja (rd 9) (Zr []))) (tgT 2 (tgC (Jd 11) (tgC (Jd 10) tgN))) bi3)
 (Zb (fldS 0 ["Book"] "events" (rd 1)) (Zb (fldS 0 ["Book"] "witnesses" (rd 2)) (Zb (fldS 0 ["Book"] "tellings" (cbM Z2h (Ja (rd 3) (Zr [])))) (Zb (fldS 0 ["Book"] "gaps" (cbM Z2h (Ja (rd 4) (Zr [])))) (Zb (fldS 0 ["Book"] "sure" (cbM Z2h (Ja (rd 5) (Zr [])))) (fldS 0 ["Book"] "clauses" (cbM Z2h (Ja (rd 6) (Zr [])))))))))))):=rfl
theorem Zef {i : Nat} {cs : List Str} {f c : Str} {fe : M D} {E E' : Nv} {y : D} {ns : List Str} {ds : List D} (he : fe E = .ok y E') (hs : E'[i]? = some (some (.o,.ins c ns ds))) (hc : cs.contains c = true ∧ ns.length ≤ 60) : fldS i cs f fe E = .nx (E'.set i (some (.o,.ins c (setF f y ns ds).1 (setF f y ns ds).2))):=by
 unfold fldS;rw [Z14,he,Z3p];simp only [hs];exact Yj hc
theorem Zeg {z : Sz} {p0 p1 p2 p3 : D} {a b c d : List D} (hz : SzOk z) (h0 : Part z 0 p0 a) (h1 : Part z 1 p1 b) (h2 : Part z 2 p2 c) (h3 : Part z 3 p3 d) : ∃ O,ZT [(.o,.ins "Book" [] []),(.sh,.int z.ev),(.sh,.int z.wi),(.sh,p0),(.sh,p1),(.sh,p2),(.sh,p3)] = .ok (.sh,.non) (some (.o,ZgI z a b c d) :: O):=by
 let S:=D.ins "Book" [] []
 have st : ([((Ow.o,D.ins "Book" [] []) : Ent),(.sh,.int z.ev),(.sh,.int z.wi),(.sh,p0),(.sh,p1),(.sh,p2),(.sh,p3)].map some ++ List.replicate (12 - [((Ow.o,D.ins "Book" [] []) : Ent),(.sh,.int z.ev),(.sh,.int z.wi),(.sh,p0),(.sh,p1),(.sh,p2),(.sh,p3)].length) none : Nv) = Bst S z p0 p1 p2 p3 none none none none none:=rfl;have f1 : enI (Ja (Jv (Ja (rd 1) (Ja (rd 2) (Zr [])))) (Zr [])) (Bst S z p0 p1 p2 p3 none none none none none) = .ok [.tup [.int 0,.int z.ev],.tup [.int 1,.int z.wi]] (Bst S z p0 p1 p2 p3 none none none none none):=by
  have e : Z5I [.lst [.int z.ev,.int z.wi]] = some [.tup [.int 0,.int z.ev],.tup [.int 1,.int z.wi]]:=rfl;unfold Bst
  push_cast only [e]
 have l1 : Z1i (tgT 2 (tgC (Jd 7) (tgC (Jd 8) tgN))) bi1 [.tup [.int 0,.int z.ev],.tup [.int 1,.int z.wi]] (Bst S z p0 p1 p2 p3 none none none none none) = .nx (Bst S z p0 p1 p2 p3 (~~~(.int 1)) (~~~(.int z.wi)) none none none):=by
  rw [Zd (E1:=Bst S z p0 p1 p2 p3 (~~~(.int 0)) (~~~(.int z.ev)) none none none) rfl (Zed hz.e0 hz.e8)];rw [Zd (E1:=Bst S z p0 p1 p2 p3 (~~~(.int 1)) (~~~(.int z.wi)) none none none) rfl (Zed hz.w0 hz.w8)];rfl
 let L:=D.lst [p0,p1,p2,p3]
 have f2 : Jh 9 (sh1 (Jv (Ja (rd 3) (Ja (rd 4) (Ja (rd 5) (Ja (rd 6) (Zr []))))))) (Bst S z p0 p1 p2 p3 (~~~(.int 1)) (~~~(.int z.wi)) none none none) = .nx (Bst S z p0 p1 p2 p3 (~~~(.int 1)) (~~~(.int z.wi)) (~~~L) none none):=by
  unfold Bst
  push_cast only []
  rfl
 have f3 : ∀ s7 s8 s10 s11,enI (Ja (rd 9) (Zr [])) (Bst S z p0 p1 p2 p3 s7 s8 (~~~L) s10 s11) = .ok [.tup [.int 0,p0],.tup [.int 1,p1],.tup [.int 2,p2],.tup [.int 3,p3]] (Bst S z p0 p1 p2 p3 s7 s8 (~~~L) s10 s11):=fun s7 s8 s10 s11 => by
  have e : Z5I [.lst [p0,p1,p2,p3]] = some [.tup [.int 0,p0],.tup [.int 1,p1],.tup [.int 2,p2],.tup [.int 3,p3]]:=rfl;unfold Bst
  push_cast only [L,e]
 have l2 : Z1i (tgT 2 (tgC (Jd 7) (tgC (Jd 10) tgN))) bi2 [.tup [.int 0,p0],.tup [.int 1,p1],.tup [.int 2,p2],.tup [.int 3,p3]] (Bst S z p0 p1 p2 p3 (~~~(.int 1)) (~~~(.int z.wi)) (~~~L) none none) = .nx (Bst S z p0 p1 p2 p3 (~~~(.int 3)) (~~~(.int z.wi)) (~~~L) (~~~p3) none):=by
  rw [Zd (E1:=Bst S z p0 p1 p2 p3 (~~~(.int 0)) (~~~(.int z.wi)) (~~~L) (~~~p0) none) rfl (Z8Q (Z4N h0))];rw [Zd (E1:=Bst S z p0 p1 p2 p3 (~~~(.int 1)) (~~~(.int z.wi)) (~~~L) (~~~p1) none) rfl (Z8Q (Z4N h1))];rw [Zd (E1:=Bst S z p0 p1 p2 p3 (~~~(.int 2)) (~~~(.int z.wi)) (~~~L) (~~~p2) none) rfl (Z8Q (Z4N h2))];rw [Zd (E1:=Bst S z p0 p1 p2 p3 (~~~(.int 3)) (~~~(.int z.wi)) (~~~L) (~~~p3) none) rfl (Z8Q (Z4N h3))];rfl
 have l3 : Z1i (tgT 2 (tgC (Jd 11) (tgC (Jd 10) tgN))) bi3 [.tup [.int 0,p0],.tup [.int 1,p1],.tup [.int 2,p2],.tup [.int 3,p3]] (Bst S z p0 p1 p2 p3 (~~~(.int 3)) (~~~(.int z.wi)) (~~~L) (~~~p3) none) = .nx (Bst S z p0 p1 p2 p3 (~~~(.int 3)) (~~~(.int z.wi)) (~~~L) (~~~p3) (~~~(.int 3))):=by
  rw [Zd (E1:=Bst S z p0 p1 p2 p3 (~~~(.int 3)) (~~~(.int z.wi)) (~~~L) (~~~p0) (~~~(.int ((0 : Nat) : Int)))) rfl (Z8R (by decide) h0)];rw [Zd (E1:=Bst S z p0 p1 p2 p3 (~~~(.int 3)) (~~~(.int z.wi)) (~~~L) (~~~p1) (~~~(.int ((1 : Nat) : Int)))) rfl (Z8R (by decide) h1)];rw [Zd (E1:=Bst S z p0 p1 p2 p3 (~~~(.int 3)) (~~~(.int z.wi)) (~~~L) (~~~p2) (~~~(.int ((2 : Nat) : Int)))) rfl (Z8R (by decide) h2)];rw [Zd (E1:=Bst S z p0 p1 p2 p3 (~~~(.int 3)) (~~~(.int z.wi)) (~~~L) (~~~p3) (~~~(.int ((3 : Nat) : Int)))) rfl (Z8R (by decide) h3)];rfl
 let B:=fun se => Bst se z p0 p1 p2 p3 (~~~(.int 3)) (~~~(.int z.wi)) (~~~L) (~~~p3) (~~~(.int 3))
 have tp : ∀ (j : Nat) (p : D) (ds : List D) (se : D),(B se)[j]? = some (~~~p) → Z2h [p] = some (.tup ds) → cbM Z2h (Ja (rd j) (Zr [])) (B se) = .ok (.tup ds) (B se):=fun j p ds se e1 e2 => by
  push_cast only [e1,e2]
 have g : ∀ (f : Str) (fe : M D) (y : D) (ns : List Str) (ds : List D),fe (B (.ins "Book" ns ds)) = .ok y (B (.ins "Book" ns ds)) → ns.length ≤ 60 → fldS 0 ["Book"] f fe (B (.ins "Book" ns ds)) = .nx (B (.ins "Book" (setF f y ns ds).1 (setF f y ns ds).2)):=fun f fe y ns ds h hl => by
  rw [Zef (c := "Book") (ns:=ns) (ds:=ds) h rfl ⟨by decide,hl⟩];rfl
 refine ⟨(B (ZgI z a b c d)).tail, ?_⟩;unfold ZT;rw [Z3O,st,Zee,ZJ,Z2P,f1,Z3p,l1,Z1v,ZJ,f2,Z1v,ZJ,Z2P,f3,Z3p,l2,Z1v,ZJ,Z2P,f3,Z3p,l3,Z1v];rw [ZJ,g "events" (rd 1) (.int z.ev) [] [] rfl (by decide),Z1v];rw [ZJ,g "witnesses" (rd 2) (.int z.wi) _ _ rfl (by show (1 : Nat) ≤ 60;decide),Z1v];rw [ZJ,g "tellings" _ (.tup a) _ _ (tp 3 p0 a _ rfl h0.tup) (by show (2 : Nat) ≤ 60;decide),Z1v];rw [ZJ,g "gaps" _ (.tup b) _ _ (tp 4 p1 b _ rfl h1.tup) (by show (3 : Nat) ≤ 60;decide),Z1v];rw [ZJ,g "sure" _ (.tup c) _ _ (tp 5 p2 c _ rfl h2.tup) (by show (4 : Nat) ≤ 60;decide),Z1v];rw [g "clauses" _ (.tup d) _ _ (tp 6 p3 d _ rfl h3.tup) (by show (5 : Nat) ≤ 60;decide)];rfl
theorem Zbi (i j : Nat) (f : M (List D)) (E : Nv) {d e : D} {E' : Nv} (h : f E = .ok [d,e] E') : Z74 i j f E = .nx ((E'.set i (~~~d)).set j (~~~e)):=by
 unfold Z74;rw [Z14,h];rfl
theorem Z6j {b : List D} (hb : BagOk b) : ∃ b' x O,Zu [(.l .sh,.lst b)] = .ok (.sh,.int x) (some (.l .sh,.lst b') :: O) ∧ BagOk b' ∧ -1000000000000 ≤ x ∧ x ≤ 1000000000000:=by
 obtain ⟨b1,v,O1,e1,hb1,v0,v1⟩:=Z15 (m:=10) hb (by decide) (by decide);obtain ⟨b2,w,O2,e2,hb2,w0,w1⟩:=Z15 (m:=12) hb1 (by decide) (by decide);have hp : Z74 1 2 (Ja (shM (Jc Z3 [some 0,none] [] (ioM 0 (Ja (Zr (.int 10)) (Zr []))))) (Ja (opM Jt (shM (Jc Z3 [some 0,none] [] (ioM 0 (Ja (Zr (.int 12)) (Zr []))))) (Zr (.int 3))) (Zr []))) [some (.l .sh,.lst b),none,none] = .nx [some (.l .sh,.lst b2),~~~(.int v),~~~(.int (w - 3))]:=by
  rw [Zbi 1 2 _ _ (d:=.int v) (e:=.int (w - 3)) (E':=[some (.l .sh,.lst b2),none,none]) (by rw [Z1q];push_cast only [e1,e2])];rfl
 unfold Zu Z3V;by_cases c : v < 8
 · refine ⟨b2,w - 3,[~~~(.int v),~~~(.int (w - 3))], ?_,hb2,by omega,by omega⟩
   push_cast only [hp,c]
 · by_cases c2 : v = 8
   · refine ⟨b2,999999999900 + (w - 3),[~~~(.int v),~~~(.int (w - 3))], ?_,hb2,by omega,by omega⟩;subst c2
     push_cast only [hp,Int.lt_irrefl]
   · refine ⟨b2,w - 3 - 999999999900,[~~~(.int v),~~~(.int (w - 3))], ?_,hb2,by omega,by omega⟩
     push_cast only [hp,c,c2]
theorem kind_ok {b : List D} (hb : BagOk b) : ∃ b' k O,Zo [(.l .sh,.lst b)] = .ok (.sh,.str k) (some (.l .sh,.lst b') :: O) ∧ BagOk b' ∧ (k = "early" ∨ k = "late"):=by
 obtain ⟨b1,v,O1,e1,hb1,v0,v1⟩:=Z15 (m:=2) hb (by decide) (by decide);unfold Zo Z5e;rw [Z1q];have hv : v = 0 ∨ v = 1:=by omega
 rcases hv with rfl | rfl
 · exact ⟨b1, "early",[],(by push_cast only [e1];rfl),hb1,.inl rfl⟩
 · exact ⟨b1, "late",[],(by push_cast only [e1];rfl),hb1,.inr rfl⟩
def DTel (z : Sz) (d : D) : Prop:=∃ w e x : Int,d = .tup [.int w,.int e,.int x] ∧ 0 ≤ w ∧ w < z.wi ∧ 0 ≤ e ∧ e < z.ev ∧ -1000000000000 ≤ x ∧ x ≤ 1000000000000
def DGap (z : Sz) (d : D) : Prop:=∃ a b g : Int,d = .tup [.int a,.int b,.int g] ∧ 0 ≤ a ∧ a < z.ev ∧ 0 ≤ b ∧ b < z.ev ∧ a ≠ b ∧ -4 ≤ g ∧ g ≤ 4
def DSur (z : Sz) (d : D) : Prop:=∃ (e : Int) (s : Str) (x : Int),d = .tup [.int e,.str s,.int x] ∧ 0 ≤ e ∧ e < z.ev ∧ (s = "least" ∨ s = "most") ∧ -1000000000000 ≤ x ∧ x ≤ 1000000000000
theorem DTel.tel {z : Sz} {d : D} (h : DTel z d) : Tel z d:=by
 obtain ⟨w,e,x,rfl,h1,h2,h3,h4,h5,h6⟩:=h;exact .mk w e x h1 h2 h3 h4 ⟨by omega,by omega⟩
theorem DGap.gap {z : Sz} {d : D} (h : DGap z d) : Gap z d:=by
 obtain ⟨a,b,g,rfl,h1,h2,h3,h4,h5,h6,h7⟩:=h;exact .mk a b g h1 h2 h3 h4 h5 ⟨by omega,by omega⟩
theorem DSur.sur {z : Sz} {d : D} (h : DSur z d) : Sur z d:=by
 obtain ⟨e,s,x,rfl,h1,h2,h3,h4,h5⟩:=h;exact .mk e s x h1 h2 h3 ⟨by omega,by omega⟩
theorem Z7F {asg : D → Nv → Option Nv} {body : G} {I : Nat → Nv → Prop} : ∀ {ds : List D} {k n : Nat} {E : Nv},k + ds.length = n → (∀ j d E,j < n → I j E → ∃ E1 E2,asg d E = some E1 ∧ body E1 = .nx E2 ∧ I (j + 1) E2) → I k E → ∃ E',Z1i asg body ds E = .nx E' ∧ I n E'
 | [],k,n,E,hn,_,i => by
  rw [List.length_nil,Nat.add_zero] at hn;subst hn;exact ⟨E,rfl,i⟩
 | d :: ds,k,n,E,hn,h,i => by
  rw [List.length_cons] at hn;obtain ⟨E1,E2,a,b,i2⟩:=h k d E (by omega) i;obtain ⟨E',e,i3⟩:=Z7F (ds:=ds) (k:=k + 1) (n:=n) (by omega) h i2;exact ⟨E',by rw [Zd a b,e],i3⟩
theorem Zeh (lo : Int) (n : Nat) : (rng lo n).length = n:=by unfold rng;rw [Yi,Ys]
theorem Z4O {asg : D → Nv → Option Nv} {body : G} {I : Nat → Nv → Prop} {n : Nat} {lo : Int} {E : Nv} (h : ∀ j d E,j < n → I j E → ∃ E1 E2,asg d E = some E1 ∧ body E1 = .nx E2 ∧ I (j + 1) E2) (i : I 0 E) : ∃ E',Z1i asg body (rng lo n) E = .nx E' ∧ I n E':=Z7F (k:=0) (by rw [Zeh];omega) h i
theorem Z4P {i : Nat} {k : Int} {n : Nat} {E E2 : Nv} {dss ds : List D} {y : D} {fs : M (List D)} (h : E[i]? = some (some (.l (.l .sh),.lst dss))) (hr : Z8E dss (.int k) = some (n,ds)) (hf : fs (E.set i none) = .ok [y] E2) (hz : ds.length < 100) : Z6R i appG (Zr (.int k)) fs E = .ok .non (put2 i n dss (ds ++ [y]) E2):=by
 have o : own2 i E = some dss:=by unfold own2;rw [h]
 have z1 : ds.length < sizeLine:=by rw [sizeLine_eq];omega
 have e : appG ds [y] = some (.non,ds ++ [y]):=Yj z1;have z2 : Z2X (ds ++ [y]).length = true:=Z32 (by rw [Yh,Yr];exact z1);unfold Z6R;simp only [o,Z8J,hr,hf,e,z2,if_true]
def four (a b c d : List D) : List D:=[.lst a,.lst b,.lst c,.lst d]
def pS (b : List D) (z : Sz) (m : Int) (p0 p1 p2 p3 : List D) (s5 s6 s7 : Option Ent) : Nv:=[some (.l .sh,.lst b),~~~(.int z.ev),~~~(.int z.wi),~~~(.int m),some (.l (.l .sh),.lst (four p0 p1 p2 p3)),s5,s6,s7]
def pb0 : G:=(Jf (Z6R 4 appG (Zr (.int 0)) (Ja (Jg (Ja (shM (Jc Z3 [some 0,none] [] (ioM 0 (Ja (rd 2) (Zr []))))) (Ja (shM (Jc Z3 [some 0,none] [] (ioM 0 (Ja (rd 1) (Zr []))))) (Ja (shM (Jc Zu [some 0] [] (ioM 0 (Zr [])))) (Zr []))))) (Zr []))) fun _ => done)
theorem ZgJ {b : List D} {z : Sz} {m : Int} {p0 p1 p2 p3 : List D} {s5 s6 s7 : Option Ent} (hb : BagOk b) (hz : SzOk z) (he : 0 < z.ev) (hw : 0 < z.wi) (hl : p0.length < 100) : ∃ b' d,pb0 (pS b z m p0 p1 p2 p3 s5 s6 s7) = .nx (pS b' z m (p0 ++ [d]) p1 p2 p3 s5 s6 s7) ∧ BagOk b' ∧ DTel z d:=by
 obtain ⟨b1,v,O1,e1,hb1,v0,v1⟩:=Z15 (m:=z.wi) hb hw (by have:=hz.w8;omega);obtain ⟨b2,w,O2,e2,hb2,w0,w1⟩:=Z15 (m:=z.ev) hb1 he (by have:=hz.e8;omega);obtain ⟨b3,x,O3,e3,hb3,x0,x1⟩:=Z6j hb2;refine ⟨b3,.tup [.int v,.int w,.int x], ?_,hb3,v,w,x,rfl,v0,v1,w0,w1,x0,x1⟩;have hf : (Ja (Jg (Ja (shM (Jc Z3 [some 0,none] [] (ioM 0 (Ja (rd 2) (Zr []))))) (Ja (shM (Jc Z3 [some 0,none] [] (ioM 0 (Ja (rd 1) (Zr []))))) (Ja (shM (Jc Zu [some 0] [] (ioM 0 (Zr [])))) (Zr []))))) (Zr [])) ((pS b z m p0 p1 p2 p3 s5 s6 s7).set 4 none) = .ok [.tup [.int v,.int w,.int x]] [some (.l .sh,.lst b3),~~~(.int z.ev),~~~(.int z.wi),~~~(.int m),none,s5,s6,s7]:=by
  unfold pS;rw [Z1q]
  push_cast only [e1,e2,e3]
 unfold pb0;rw [Z14,Z4P (dss:=four p0 p1 p2 p3) (n:=0) (ds:=p0) rfl rfl hf hl];rfl
def pb1 : G:=(Zb (Jh 6 (sh1 (shM (Jc Z3 [some 0,none] [] (ioM 0 (Ja (rd 1) (Zr []))))))) (Jf (Z6R 4 appG (Zr (.int 1)) (Ja (Jg (Ja (rd 6) (Ja (opM modD (cbM J3 (Ja (opM Ji (opM Ji (rd 6) (Zr (.int 1))) (shM (Jc Z3 [some 0,none] [] (ioM 0 (Ja (opM Jt (rd 1) (Zr (.int 1))) (Zr [])))))) (Zr []))) (rd 1)) (Ja (opM Jt (shM (Jc Z3 [some 0,none] [] (ioM 0 (Ja (Zr (.int 9)) (Zr []))))) (Zr (.int 4))) (Zr []))))) (Zr []))) fun _ => done))
theorem ZgK {b : List D} {z : Sz} {m : Int} {p0 p1 p2 p3 : List D} {s5 s6 s7 : Option Ent} (hb : BagOk b) (hz : SzOk z) (he : 1 < z.ev) (hl : p1.length < 100) : ∃ b' d t,pb1 (pS b z m p0 p1 p2 p3 s5 s6 s7) = .nx (pS b' z m p0 (p1 ++ [d]) p2 p3 s5 t s7) ∧ BagOk b' ∧ DGap z d:=by
 obtain ⟨b1,v,O1,e1,hb1,v0,v1⟩:=Z15 (m:=z.ev) hb (by omega) (by have:=hz.e8;omega);obtain ⟨b2,w,O2,e2,hb2,w0,w1⟩:=Z15 (m:=z.ev - 1) hb1 (by omega) (by have:=hz.e8;omega);obtain ⟨b3,x,O3,e3,hb3,x0,x1⟩:=Z15 (m:=9) hb2 (by decide) (by decide);have hpos : 0 < z.ev:=by omega
 have m0 : 0 ≤ (v + 1 + w) % z.ev:=Int.emod_nonneg _ (by omega);have m1 : (v + 1 + w) % z.ev < z.ev:=Int.emod_lt_of_pos _ hpos;have m2 : v ≠ (v + 1 + w) % z.ev:=fun c => by
  have h1:=Int.emod_add_mul_ediv (v + 1 + w) z.ev;by_cases q : v + 1 + w < z.ev
  · rw [Int.emod_eq_of_lt (by omega) q] at c;omega
  · have h2 : (v + 1 + w) % z.ev = v + 1 + w - z.ev:=by
      rw [← Int.sub_emod_right];exact Int.emod_eq_of_lt (by omega) (by omega)
    rw [h2] at c;omega
 refine ⟨b3,.tup [.int v,.int ((v + 1 + w) % z.ev),.int (x - 4)],~~~(.int v), ?_,hb3,v,_,_,rfl,v0,v1,m0,m1,m2,by omega,by omega⟩;have h6 : Jh 6 (sh1 (shM (Jc Z3 [some 0,none] [] (ioM 0 (Ja (rd 1) (Zr [])))))) (pS b z m p0 p1 p2 p3 s5 s6 s7) = .nx (pS b1 z m p0 p1 p2 p3 s5 (~~~(.int v)) s7):=by
  unfold pS;rw [Z1q]
  push_cast only [e1]
 have hf : (Ja (Jg (Ja (rd 6) (Ja (opM modD (cbM J3 (Ja (opM Ji (opM Ji (rd 6) (Zr (.int 1))) (shM (Jc Z3 [some 0,none] [] (ioM 0 (Ja (opM Jt (rd 1) (Zr (.int 1))) (Zr [])))))) (Zr []))) (rd 1)) (Ja (opM Jt (shM (Jc Z3 [some 0,none] [] (ioM 0 (Ja (Zr (.int 9)) (Zr []))))) (Zr (.int 4))) (Zr []))))) (Zr [])) ((pS b1 z m p0 p1 p2 p3 s5 (~~~(.int v)) s7).set 4 none) = .ok [.tup [.int v,.int ((v + 1 + w) % z.ev),.int (x - 4)]] [some (.l .sh,.lst b3),~~~(.int z.ev),~~~(.int z.wi),~~~(.int m),none,s5,~~~(.int v),s7]:=by
  unfold pS;rw [Z1q]
  push_cast only [e2,e3]
 unfold pb1;rw [ZJ,h6,Z1v,Z14,Z4P (dss:=four p0 p1 p2 p3) (n:=1) (ds:=p1) rfl rfl hf hl];rfl
def pb2 : G:=(Jf (Z6R 4 appG (Zr (.int 2)) (Ja (Jg (Ja (shM (Jc Z3 [some 0,none] [] (ioM 0 (Ja (rd 1) (Zr []))))) (Ja (opM ixD (Jv (Ja (Zr (.str "least")) (Ja (Zr (.str "most")) (Zr [])))) (shM (Jc Z3 [some 0,none] [] (ioM 0 (Ja (Zr (.int 2)) (Zr [])))))) (Ja (shM (Jc Zu [some 0] [] (ioM 0 (Zr [])))) (Zr []))))) (Zr []))) fun _ => done)
theorem ZgL {b : List D} {z : Sz} {m : Int} {p0 p1 p2 p3 : List D} {s5 s6 s7 : Option Ent} (hb : BagOk b) (hz : SzOk z) (he : 0 < z.ev) (hl : p2.length < 100) : ∃ b' d,pb2 (pS b z m p0 p1 p2 p3 s5 s6 s7) = .nx (pS b' z m p0 p1 (p2 ++ [d]) p3 s5 s6 s7) ∧ BagOk b' ∧ DSur z d:=by
 obtain ⟨b1,v,O1,e1,hb1,v0,v1⟩:=Z15 (m:=z.ev) hb he (by have:=hz.e8;omega);obtain ⟨b2,w,O2,e2,hb2,w0,w1⟩:=Z15 (m:=2) hb1 (by decide) (by decide);obtain ⟨b3,x,O3,e3,hb3,x0,x1⟩:=Z6j hb2;have hs : ∃ s : Str,(s = "least" ∨ s = "most") ∧ ([D.str "least",D.str "most"])[w.toNat]? = some (.str s):=by
  have hw : w = 0 ∨ w = 1:=by omega
  rcases hw with rfl | rfl
  · exact ⟨"least",.inl rfl,rfl⟩
  · exact ⟨"most",.inr rfl,rfl⟩
 obtain ⟨s,hs1,hs2⟩:=hs;refine ⟨b3,.tup [.int v,.str s,.int x], ?_,hb3,v,s,x,rfl,v0,v1,hs1,x0,x1⟩;have hf : (Ja (Jg (Ja (shM (Jc Z3 [some 0,none] [] (ioM 0 (Ja (rd 1) (Zr []))))) (Ja (opM ixD (Jv (Ja (Zr (.str "least")) (Ja (Zr (.str "most")) (Zr [])))) (shM (Jc Z3 [some 0,none] [] (ioM 0 (Ja (Zr (.int 2)) (Zr [])))))) (Ja (shM (Jc Zu [some 0] [] (ioM 0 (Zr [])))) (Zr []))))) (Zr [])) ((pS b z m p0 p1 p2 p3 s5 s6 s7).set 4 none) = .ok [.tup [.int v,.str s,.int x]] [some (.l .sh,.lst b3),~~~(.int z.ev),~~~(.int z.wi),~~~(.int m),none,s5,s6,s7]:=by
  unfold pS;rw [Z1q]
  push_cast only [e1,e2,e3,hs2]
 unfold pb2;rw [Z14,Z4P (dss:=four p0 p1 p2 p3) (n:=2) (ds:=p2) rfl rfl hf hl];rfl
def pb3 : G:=(Zb (Jh 7 (sh1 (Jg (Ja (shM (Jc Z3 [some 0,none] [] (ioM 0 (Ja (rd 2) (Zr []))))) (Ja (shM (Jc Zo [some 0] [] (ioM 0 (Zr [])))) (Ja (shM (Jc Z3 [some 0,none] [] (ioM 0 (Ja (rd 2) (Zr []))))) (Ja (shM (Jc Zo [some 0] [] (ioM 0 (Zr [])))) (Zr [])))))))) (Jf (Z6R 4 appG (Zr (.int 3)) (Ja (rd 7) (Zr []))) fun _ => done))
theorem ZgM {b : List D} {z : Sz} {m : Int} {p0 p1 p2 p3 : List D} {s5 s6 s7 : Option Ent} (hb : BagOk b) (hz : SzOk z) (hw : 0 < z.wi) (hl : p3.length < 100) : ∃ b' d t,pb3 (pS b z m p0 p1 p2 p3 s5 s6 s7) = .nx (pS b' z m p0 p1 p2 (p3 ++ [d]) s5 s6 t) ∧ BagOk b' ∧ Cla z d:=by
 obtain ⟨b1,v,O1,e1,hb1,v0,v1⟩:=Z15 (m:=z.wi) hb hw (by have:=hz.w8;omega);obtain ⟨b2,k,O2,e2,hb2,hk⟩:=kind_ok hb1;obtain ⟨b3,w,O3,e3,hb3,w0,w1⟩:=Z15 (m:=z.wi) hb2 hw (by have:=hz.w8;omega);obtain ⟨b4,l,O4,e4,hb4,hl4⟩:=kind_ok hb3;refine ⟨b4,.tup [.int v,.str k,.int w,.str l],~~~(.tup [.int v,.str k,.int w,.str l]), ?_,hb4,.mk v k w l v0 v1 hk w0 w1 hl4⟩;have h7 : Jh 7 (sh1 (Jg (Ja (shM (Jc Z3 [some 0,none] [] (ioM 0 (Ja (rd 2) (Zr []))))) (Ja (shM (Jc Zo [some 0] [] (ioM 0 (Zr [])))) (Ja (shM (Jc Z3 [some 0,none] [] (ioM 0 (Ja (rd 2) (Zr []))))) (Ja (shM (Jc Zo [some 0] [] (ioM 0 (Zr [])))) (Zr []))))))) (pS b z m p0 p1 p2 p3 s5 s6 s7) = .nx (pS b4 z m p0 p1 p2 p3 s5 s6 (~~~(.tup [.int v,.str k,.int w,.str l]))):=by
  unfold pS;rw [Z1q]
  push_cast only [e1,e2,e3,e4]
 have hf : (Ja (rd 7) (Zr [])) ((pS b4 z m p0 p1 p2 p3 s5 s6 (~~~(.tup [.int v,.str k,.int w,.str l]))).set 4 none) = .ok [.tup [.int v,.str k,.int w,.str l]] [some (.l .sh,.lst b4),~~~(.int z.ev),~~~(.int z.wi),~~~(.int m),none,s5,s6,~~~(.tup [.int v,.str k,.int w,.str l])]:=by
  unfold pS
  push_cast only []
 unfold pb3;rw [ZJ,h7,Z1v,Z14,Z4P (dss:=four p0 p1 p2 p3) (n:=3) (ds:=p3) rfl rfl hf hl];rfl
theorem Za5 (b : Bool) : J3 [.bl b] = some (.int (if b then 1 else 0)):=rfl
theorem Z8S (n : Int) (h0 : -(2 ^ 62) ≤ n) (h1 : n < 2 ^ 62) : Z3G [.int n] = some (rng 0 n.toNat):=by
 unfold Z3G;exact Yj (Z1S.mpr ⟨by omega,by omega⟩)
structure Drawn (z : Sz) (p0 p1 p2 p3 : List D) : Prop where
 t : ∀ d ∈ p0,DTel z d
 g : ∀ d ∈ p1,DGap z d
 s : ∀ d ∈ p2,DSur z d
 c : ∀ d ∈ p3,Cla z d
theorem Z8T {b : List D} {z : Sz} {m : Int} (hb : BagOk b) (hz : SzOk z) (m0 : 0 ≤ m) (m1 : m ≤ 44) : ∃ b' p0 p1 p2 p3 O,ZF [(.l .sh,.lst b),(.sh,.int z.ev),(.sh,.int z.wi),(.sh,.int m)] = .ok (.l (.l .sh),.lst (four p0 p1 p2 p3)) (some (.l .sh,.lst b') :: O) ∧ BagOk b' ∧ Drawn z p0 p1 p2 p3 ∧ (p0.length : Int) ≤ m ∧ (p1.length : Int) ≤ m / 2 + 1 ∧ p2.length ≤ 3 ∧ p3.length ≤ 3:=by
 have st : ([((Ow.l .sh,D.lst b) : Ent),(.sh,.int z.ev),(.sh,.int z.wi),(.sh,.int m)].map some ++ List.replicate (8 - [((Ow.l .sh,D.lst b) : Ent),(.sh,.int z.ev),(.sh,.int z.wi),(.sh,.int m)].length) none : Nv) = [some (.l .sh,.lst b),~~~(.int z.ev),~~~(.int z.wi),~~~(.int m),none,none,none,none]:=rfl;have s0 : Jh 4 (lstO (.l .sh) (conO (J1 (Zr [])) (conO (J1 (Zr [])) (conO (J1 (Zr [])) (conO (J1 (Zr [])) (Zr [])))))) [some (.l .sh,.lst b),~~~(.int z.ev),~~~(.int z.wi),~~~(.int m),none,none,none,none] = .nx (pS b z m [] [] [] [] none none none):=rfl;have he8:=hz.e8;have hw8:=hz.w8;have he0:=hz.e0;have hw0:=hz.w0
 -- the first loop
 obtain ⟨b1,v1,O1,e1,hb1,v10,v11⟩:=Z15 (m:=m + 1) hb (by omega) (by omega);have cm : -9223372036854775808 < z.ev ∧ z.ev < 9223372036854775808:=by omega
 have i1 : ∃ n : Nat,(n : Int) ≤ m ∧ (0 < n → 0 < z.ev ∧ 0 < z.wi) ∧ ∀ s5 s6 s7,rg1 (Ja (opM J0 (shM (Jc Z3 [some 0,none] [] (ioM 0 (Ja (opM Ji (rd 3) (Zr (.int 1))) (Zr []))))) (cbM J3 (Ja (opM gtD (opM J0 (rd 1) (rd 2)) (Zr (.int 0))) (Zr [])))) (Zr [])) (pS b z m [] [] [] [] s5 s6 s7) = .ok (rng 0 n) (pS b1 z m [] [] [] [] s5 s6 s7):=by
  by_cases c : 0 < z.ev * z.wi
  · have hp : 0 < z.ev ∧ 0 < z.wi:=by
      constructor
      · rcases Int.lt_or_le 0 z.ev with h | h
        · exact h
        · have : z.ev = 0:=by omega
          rw [this,Int.zero_mul] at c;omega
      · rcases Int.lt_or_le 0 z.wi with h | h
        · exact h
        · have : z.wi = 0:=by omega
          rw [this,Int.mul_zero] at c;omega
    refine ⟨v1.toNat,by omega,fun _ => hp,fun s5 s6 s7 => ?_⟩;have r:=Z8S v1 (by omega) (by omega);unfold pS;rw [Z1q]
    push_cast only [e1,Za5,c,Int.mul_one,r,ite_true]
  · refine ⟨0,by omega,fun h => by omega,fun s5 s6 s7 => ?_⟩;have r:=Z8S 0 (by omega) (by omega);have c' : decide (0 < z.ev * z.wi) = false:=decide_eq_false c;unfold pS;rw [Z1q]
    push_cast only [e1,Za5,c',Int.mul_zero,r,ite_false]
 obtain ⟨n1,hn1,hp1,r1⟩:=i1;obtain ⟨E1,l1,b2,p0,s5,rfl,hb2,ht,hl0⟩:=Z4O (I:=fun k E => ∃ b2 p0 s5,E = pS b2 z m p0 [] [] [] s5 none none ∧ BagOk b2 ∧ (∀ d ∈ p0,DTel z d) ∧ p0.length = k) (asg:=Jd 5) (body:=pb0) (n:=n1) (lo:=0) (E:=pS b1 z m [] [] [] [] none none none) (fun j d E hj hE => by
  obtain ⟨b2,p0,s5,rfl,h1,h2,h3⟩:=hE;have hn : 0 < n1:=by omega
  obtain ⟨b3,dd,e3,hb3,hd3⟩:=ZgJ (m:=m) (p1:=[]) (p2:=[]) (p3:=[]) (s5 := ~~~d) (s6:=none) (s7:=none) h1 hz (hp1 hn).1 (hp1 hn).2 (show p0.length < 100 by omega);refine ⟨_,_,rfl,e3,b3,p0 ++ [dd],_,rfl,hb3,fun x hx => ?_,by rw [Yh,h3];rfl⟩;rcases Yd.mp hx with q | q
  · exact h2 x q
  · cases Yg.mp q;exact hd3) ⟨b1,[],none,rfl,hb1,(fun d h => nomatch h),rfl⟩
 -- the second loop
 obtain ⟨b3,v2,O2,e2,hb3,v20,v21⟩:=Z15 (m:=m / 2 + 2) hb2 (by omega) (by omega);have i2 : ∃ n : Nat,(n : Int) ≤ m / 2 + 1 ∧ (0 < n → 1 < z.ev) ∧ rg1 (Ja (opM J0 (shM (Jc Z3 [some 0,none] [] (ioM 0 (Ja (opM Ji (opM divD (rd 3) (Zr (.int 2))) (Zr (.int 2))) (Zr []))))) (cbM J3 (Ja (opM gtD (rd 1) (Zr (.int 1))) (Zr [])))) (Zr [])) (pS b2 z m p0 [] [] [] s5 none none) = .ok (rng 0 n) (pS b3 z m p0 [] [] [] s5 none none):=by
  by_cases c : 1 < z.ev
  · refine ⟨v2.toNat,by omega,fun _ => c, ?_⟩;have r:=Z8S v2 (by omega) (by omega);unfold pS;rw [Z1q]
    push_cast only [e2,Za5,c,Int.mul_one,r,ite_true]
  · refine ⟨0,by omega,fun h => by omega, ?_⟩;have r:=Z8S 0 (by omega) (by omega);have c' : decide (1 < z.ev) = false:=decide_eq_false c;unfold pS;rw [Z1q]
    push_cast only [e2,Za5,c',Int.mul_zero,r,ite_false]
 obtain ⟨n2,hn2,hp2,r2⟩:=i2;obtain ⟨E2,l2,b4,p1,s5b,s6b,rfl,hb4,hg,hl1⟩:=Z4O (I:=fun k E => ∃ b2 p1 s5 s6,E = pS b2 z m p0 p1 [] [] s5 s6 none ∧ BagOk b2 ∧ (∀ d ∈ p1,DGap z d) ∧ p1.length = k) (asg:=Jd 5) (body:=pb1) (n:=n2) (lo:=0) (E:=pS b3 z m p0 [] [] [] s5 none none) (fun j d E hj hE => by
  obtain ⟨b2,p1,s5,s6,rfl,h1,h2,h3⟩:=hE;have hn : 0 < n2:=by omega
  obtain ⟨b3,dd,t,e3,hb3,hd3⟩:=ZgK (m:=m) (p0:=p0) (p2:=[]) (p3:=[]) (s5 := ~~~d) (s6:=s6) (s7:=none) h1 hz (hp2 hn) (show p1.length < 100 by omega);refine ⟨_,_,rfl,e3,b3,p1 ++ [dd],_,_,rfl,hb3,fun x hx => ?_,by rw [Yh,h3];rfl⟩;rcases Yd.mp hx with q | q
  · exact h2 x q
  · cases Yg.mp q;exact hd3) ⟨b3,[],_,_,rfl,hb3,(fun d h => nomatch h),rfl⟩
 -- the third loop
 obtain ⟨b5,v3,O3,e3,hb5,v30,v31⟩:=Z15 (m:=4) hb4 (by decide) (by decide);have i3 : ∃ n : Nat,n ≤ 3 ∧ (0 < n → 0 < z.ev) ∧ rg1 (Ja (opM J0 (shM (Jc Z3 [some 0,none] [] (ioM 0 (Ja (Zr (.int 4)) (Zr []))))) (cbM J3 (Ja (opM gtD (rd 1) (Zr (.int 0))) (Zr [])))) (Zr [])) (pS b4 z m p0 p1 [] [] s5b s6b none) = .ok (rng 0 n) (pS b5 z m p0 p1 [] [] s5b s6b none):=by
  by_cases c : 0 < z.ev
  · refine ⟨v3.toNat,by omega,fun _ => c, ?_⟩;have r:=Z8S v3 (by omega) (by omega);unfold pS;rw [Z1q]
    push_cast only [e3,Za5,c,Int.mul_one,r,ite_true]
  · refine ⟨0,by omega,fun h => by omega, ?_⟩;have r:=Z8S 0 (by omega) (by omega);have c' : decide (0 < z.ev) = false:=decide_eq_false c;unfold pS;rw [Z1q]
    push_cast only [e3,Za5,c',Int.mul_zero,r,ite_false]
 obtain ⟨n3,hn3,hp3,r3⟩:=i3;obtain ⟨E3,l3,b6,p2,s5c,rfl,hb6,hs,hl2⟩:=Z4O (I:=fun k E => ∃ b2 p2 s5,E = pS b2 z m p0 p1 p2 [] s5 s6b none ∧ BagOk b2 ∧ (∀ d ∈ p2,DSur z d) ∧ p2.length = k) (asg:=Jd 5) (body:=pb2) (n:=n3) (lo:=0) (E:=pS b5 z m p0 p1 [] [] s5b s6b none) (fun j d E hj hE => by
  obtain ⟨b2,p2,s5,rfl,h1,h2,h3⟩:=hE;have hn : 0 < n3:=by omega
  obtain ⟨b3,dd,e3,hb3,hd3⟩:=ZgL (m:=m) (p0:=p0) (p1:=p1) (p3:=[]) (s5 := ~~~d) (s6:=s6b) (s7:=none) h1 hz (hp3 hn) (show p2.length < 100 by omega);refine ⟨_,_,rfl,e3,b3,p2 ++ [dd],_,rfl,hb3,fun x hx => ?_,by rw [Yh,h3];rfl⟩;rcases Yd.mp hx with q | q
  · exact h2 x q
  · cases Yg.mp q;exact hd3) ⟨b5,[],_,rfl,hb5,(fun d h => nomatch h),rfl⟩
 -- the fourth loop
 obtain ⟨b7,v4,O4,e4,hb7,v40,v41⟩:=Z15 (m:=4) hb6 (by decide) (by decide);have i4 : ∃ n : Nat,n ≤ 3 ∧ (0 < n → 0 < z.wi) ∧ rg1 (Ja (opM J0 (shM (Jc Z3 [some 0,none] [] (ioM 0 (Ja (Zr (.int 4)) (Zr []))))) (cbM J3 (Ja (opM gtD (rd 2) (Zr (.int 0))) (Zr [])))) (Zr [])) (pS b6 z m p0 p1 p2 [] s5c s6b none) = .ok (rng 0 n) (pS b7 z m p0 p1 p2 [] s5c s6b none):=by
  by_cases c : 0 < z.wi
  · refine ⟨v4.toNat,by omega,fun _ => c, ?_⟩;have r:=Z8S v4 (by omega) (by omega);unfold pS;rw [Z1q]
    push_cast only [e4,Za5,c,Int.mul_one,r,ite_true]
  · refine ⟨0,by omega,fun h => by omega, ?_⟩;have r:=Z8S 0 (by omega) (by omega);have c' : decide (0 < z.wi) = false:=decide_eq_false c;unfold pS;rw [Z1q]
    push_cast only [e4,Za5,c',Int.mul_zero,r,ite_false]
 obtain ⟨n4,hn4,hp4,r4⟩:=i4;obtain ⟨E4,l4,b8,p3,s5d,s7d,rfl,hb8,hc,hl3⟩:=Z4O (I:=fun k E => ∃ b2 p3 s5 s7,E = pS b2 z m p0 p1 p2 p3 s5 s6b s7 ∧ BagOk b2 ∧ (∀ d ∈ p3,Cla z d) ∧ p3.length = k) (asg:=Jd 5) (body:=pb3) (n:=n4) (lo:=0) (E:=pS b7 z m p0 p1 p2 [] s5c s6b none) (fun j d E hj hE => by
  obtain ⟨b2,p3,s5,s7,rfl,h1,h2,h3⟩:=hE;have hn : 0 < n4:=by omega
  obtain ⟨b3,dd,t,e3,hb3,hd3⟩:=ZgM (m:=m) (p0:=p0) (p1:=p1) (p2:=p2) (s5 := ~~~d) (s6:=s6b) (s7:=s7) h1 hz (hp4 hn) (show p3.length < 100 by omega);refine ⟨_,_,rfl,e3,b3,p3 ++ [dd],_,_,rfl,hb3,fun x hx => ?_,by rw [Yh,h3];rfl⟩;rcases Yd.mp hx with q | q
  · exact h2 x q
  · cases Yg.mp q;exact hd3) ⟨b7,[],_,_,rfl,hb7,(fun d h => nomatch h),rfl⟩
 refine ⟨b8,p0,p1,p2,p3,((pS b8 z m p0 p1 p2 p3 s5d s6b s7d).set 4 none).tail, ?_,hb8,⟨ht,hg,hs,hc⟩,by omega,by omega,by omega,by omega⟩;have eg : Z4s = Zb (Jh 4 (lstO (.l .sh) (conO (J1 (Zr [])) (conO (J1 (Zr [])) (conO (J1 (Zr [])) (conO (J1 (Zr [])) (Zr []))))))) (Zb (Jw (rg1 (Ja (opM J0 (shM (Jc Z3 [some 0,none] [] (ioM 0 (Ja (opM Ji (rd 3) (Zr (.int 1))) (Zr []))))) (cbM J3 (Ja (opM gtD (opM J0 (rd 1) (rd 2)) (Zr (.int 0))) (Zr [])))) (Zr []))) (Jd 5) pb0) (Zb (Jw (rg1 (Ja (opM J0 (shM (Jc Z3 [some 0,none] [] (ioM 0 (Ja (opM Ji (opM divD (rd 3) (Zr (.int 2))) (Zr (.int 2))) (Zr []))))) (cbM J3 (Ja (opM gtD (rd 1) (Zr (.int 1))) (Zr [])))) (Zr []))) (Jd 5) pb1) (Zb (Jw (rg1 (Ja (opM J0 (shM (Jc Z3 [some 0,none] [] (ioM 0 (Ja (Zr (.int 4)) (Zr []))))) (cbM J3 (Ja (opM gtD (rd 1) (Zr (.int 0))) (Zr [])))) (Zr []))) (Jd 5) pb2) (Zb (Jw (rg1 (Ja (opM J0 (shM (Jc Z3 [some 0,none] [] (ioM 0 (Ja (Zr (.int 4)) (Zr []))))) (cbM J3 (Ja (opM gtD (rd 2) (Zr (.int 0))) (Zr [])))) (Zr []))) (Jd 5) pb3) (Z9v 4))))):=rfl;unfold ZF;rw [Z3O,st,eg,ZJ,s0,Z1v,ZJ,Z2P,r1,Z3p,l1,Z1v,ZJ,Z2P,r2,Z3p,l2,Z1v,ZJ,Z2P,r3,Z3p,l3,Z1v,ZJ,Z2P,r4,Z3p,l4,Z1v];rfl
theorem Zbj {b : List D} {z : Sz} {m : Int} (hb : BagOk b) (hz : SzOk z) (m0 : 0 ≤ m) (m1 : m ≤ 20) : ∃ b' p0 p1 p2 p3 O,ZF [(.l .sh,.lst b),(.sh,.int z.ev),(.sh,.int z.wi),(.sh,.int m)] = .ok (.l (.l .sh),.lst (four p0 p1 p2 p3)) (some (.l .sh,.lst b') :: O) ∧ BagOk b' ∧ Drawn z p0 p1 p2 p3 ∧ (p0.length : Int) ≤ m ∧ p1.length ≤ 11 ∧ p2.length ≤ 3 ∧ p3.length ≤ 3:=by
 obtain ⟨b',p0,p1,p2,p3,O,e,hb',hd,n0,n1,n2,n3⟩:=Z8T hb hz m0 (by omega);exact ⟨b',p0,p1,p2,p3,O,e,hb',hd,n0,by omega,n2,n3⟩
theorem Z7G (g : D → Bool) : ∀ ds : List D,asBs (ds.map fun d => .bl (g d)) = some (ds.map g)
 | [] => rfl
 | d :: ds => by
  show (asBs (ds.map fun d => .bl (g d))).map (g d :: ·) = _;rw [Z7G g ds];rfl
theorem allB (g : D → Bool) (ds : List D) : allD [.lst (ds.map fun d => .bl (g d))] = some (.bl (ds.all g)):=by
 show (asBs (ds.map fun d => .bl (g d))).map (fun bs => D.bl (bs.all id)) = _;rw [Z7G];simp [List.all_map]
theorem eqS (x y : Str) : eqD (.str x) (.str y) = some (.bl (decide (x = y))):=by
 by_cases c : x = y
 · subst c;simp [eqD,eqB,flat,scal]
 · simp [eqD,eqB,flat,scal,c]
theorem neSS (x y : Str) : neD (.str x) (.str y) = some (.bl (!decide (x = y))):=by
 by_cases c : x = y
 · subst c;simp [neD,eqB,flat,scal]
 · simp [neD,eqB,flat,scal,c]
section
variable {z : Sz} {a b c d : List D} {ks : List Str} {ts : List Int}
theorem fT (ds : List D) : ds.filter (fun _ => true) = ds:=List.filter_eq_self.mpr fun _ _ => rfl
end
def Lay (d : D) : Prop:=∃ p,toP d = some p ∧ p.canLay0 = true ∧ p.depth ≤ 60
theorem lays : ∀ {xs : List D},(∀ d ∈ xs,Lay d) → ∃ ps,toPs xs = some ps ∧ PyData.canLayAll0 ps = true ∧ PyData.depthAll ps ≤ 60 ∧ ps.length = xs.length
 | [],_ => ⟨[],by unfold toPs;rfl,by unfold PyData.canLayAll0;rfl,by unfold PyData.depthAll;omega,rfl⟩
 | x :: xs,h => by
  obtain ⟨p,e1,e2,e3⟩:=h x Ya;obtain ⟨ps,f1,f2,f3,f4⟩:=lays (xs:=xs) fun d m => h d (Yb _ m);refine ⟨p :: ps, ?_, ?_, ?_, ?_⟩
  · unfold toPs;rw [e1,f1]
  · unfold PyData.canLayAll0;rw [e2,f2];rfl
  · unfold PyData.depthAll;omega
  · rw [List.length_cons,List.length_cons,f4]
theorem neL {xs : List D} (h : ∀ d ∈ xs,Lay d) : neD (.lst xs) (.lst []) = some (.bl (!xs.isEmpty)):=by
 obtain ⟨ps,f1,f2,f3,f4⟩:=lays h;have e1 : toP (.lst xs) = some (.list ps):=by unfold toP;rw [f1];rfl
 have e2 : toP (.lst []) = some (.list []):=by unfold toP toPs;rfl
 have s1 : SeqAt.shaped (.list ps) = true:=by
  unfold SeqAt.shaped;simp only [PyData.canLay0,PyData.depth,f2,Bool.true_and];refine Yp ?_;omega
 have s2 : SeqAt.shaped (.list []) = true:=by
  unfold SeqAt.shaped;simp [PyData.canLay0,PyData.depth,PyData.canLayAll0,PyData.depthAll]
 have e3 : PyData.eqv (.list ps) (.list []) = xs.isEmpty:=by
  cases ps with
  | nil =>
   cases xs with
   | nil => simp [PyData.eqv,PyData.eqvAll]
   | cons x xs => cases f4
  | cons p ps =>
   cases xs with
   | nil => cases f4
   | cons x xs => simp [PyData.eqv,PyData.eqvAll]
 show (match flat (D.lst xs),flat (D.lst []) with
  | some v,some w => if scal v w = true then some (decide (v = w)) else Z3n (D.lst xs) (D.lst [])
  | _,_ => Z3n (D.lst xs) (D.lst [])).map (fun b => D.bl (!b)) = _
 show (Z3n (D.lst xs) (D.lst [])).map (fun b => D.bl (!b)) = _;unfold Z3n;rw [e1,e2];show (if SeqAt.shaped (.list ps) = true ∧ SeqAt.shaped (.list []) = true then some (PyData.eqv (.list ps) (.list [])) else none).map (fun b => D.bl (!b)) = _;rw [Yj ⟨s1,s2⟩,e3];rfl
theorem Z7H {s : Str} (h : s = "least" ∨ s = "most") : PyData.strOk s = true:=by
 rcases h with rfl | rfl <;> decide +kernel
theorem Z2T {s : Str} (h : s = "early" ∨ s = "late") : PyData.strOk s = true:=by
 rcases h with rfl | rfl <;> decide +kernel
theorem Itm.lay {z : Sz} {k : Nat} {d : D} (hk : k < 4) (h : Itm z k d) : Lay d:=by
 match k,hk,h with
 | 0,_,h =>
  cases h with
  | mk w e x => exact ⟨.tuple [.int w,.int e,.int x],by simp [toP,toPs],by simp [PyData.canLay0,PyData.canLayAll0],by simp [PyData.depth,PyData.depthAll]⟩
 | 1,_,h =>
  cases h with
  | mk w e x => exact ⟨.tuple [.int w,.int e,.int x],by simp [toP,toPs],by simp [PyData.canLay0,PyData.canLayAll0],by simp [PyData.depth,PyData.depthAll]⟩
 | 2,_,h =>
  cases h with
  | mk e s x h1 h2 h3 => exact ⟨.tuple [.int e,.str s,.int x],by simp [toP,toPs],by simp [PyData.canLay0,PyData.canLayAll0,Z7H h3],by simp [PyData.depth,PyData.depthAll]⟩
 | 3,_,h =>
  cases h with
  | mk w k v l h1 h2 h3 h4 h5 h6 => exact ⟨.tuple [.int w,.str k,.int v,.str l],by simp [toP,toPs],by simp [PyData.canLay0,PyData.canLayAll0,Z2T h3,Z2T h6],by simp [PyData.depth,PyData.depthAll]⟩
theorem Z6k (h : D → Nv → Option Nv) (f : M D) (E : Nv) : asgS h f E = anR (f E) fun d E => match h d E with
 | some E' => .nx E'
 | none => .stk:=by unfold asgS;exact Z14 _ _ _
theorem Fit.lay {k N : Nat} {d : D} (h : Fit k N d) (a : k ≤ 60) : Lay d:=by
 obtain ⟨p,h1,h2,h3,h4,h5,h6,h7⟩:=h;exact ⟨p,h1,h4,Nat.le_trans h6 a⟩
theorem Zei : Fit 0 0 .non:=⟨.none,by simp [toP],by simp [PyData.showable],by simp [PyData.hasDict],by simp [PyData.canLay0],by simp [PyData.leavesShort],by simp [PyData.depth],by simp [PyData.bulk]⟩
theorem Zej {i : Int} (h : i.natAbs < 2 ^ 200) : Fit 0 0 (.int i):=by
 have l : i.natAbs.log2 < 1920:=by
  by_cases z : i.natAbs = 0
  · rw [z];decide
  · exact Nat.lt_of_lt_of_le ((Nat.log2_lt z).mpr h) (by decide)
 refine ⟨.int i,by simp [toP],by simp only [PyData.showable];exact Yp l,by simp [PyData.hasDict],by simp [PyData.canLay0], ?_,by simp [PyData.depth],by simp [PyData.bulk]⟩;simp only [PyData.leavesShort,PyData.shown];exact Yp (int_text_len_1921 l)
theorem Zek {x : Str} {n : Nat} (h : PyData.strOk x = true) (l : PyData.leavesShort 1921 (.str x) = true) (z : x.cps.size ≤ n) : Fit 0 n (.str x):=by
 refine ⟨.str x,by simp [toP],by simp [PyData.showable],by simp [PyData.hasDict],by simp only [PyData.canLay0];exact h,l,by simp [PyData.depth], ?_⟩;simp only [PyData.bulk];exact z
theorem Zbk {k N : Nat} {d : D} (h : Fit k N d) (a : k ≤ 40) (b : N ≤ 2000) : ∃ s,Z9q [d] = some (.str s):=by
 obtain ⟨p,h1,h2,h3,h4,h5,h6,h7⟩:=h;have l:=PyData.shown_le_bulk 1921 (by decide) p h5;have l2 : p.shown.length ≤ sizeLine:=by
  have : 1923 * 2000 + 1921 ≤ sizeLine:=by decide
  omega
 refine ⟨p.shown, ?_⟩;have e : Z7c d = some (.str p.shown):=by
  unfold Z7c;rw [h1];exact Yj ⟨h2,h3,l2,Nat.le_trans h6 a⟩
 unfold Z9q
 split
 · rename_i q;cases q;cases h1
 · show (match Z7c d with
     | some z => some z
     | none => ZfQ d) = _
   rw [e]
theorem Z7I {asg : D → Nv → Option Nv} {cond : M Bool} {elt : M D} {vs : List Nat} {I : Nv → Prop} {p : D → Prop} : ∀ {ds acc : List D} {E : Nv},I (wpe E vs) → (∀ d ∈ ds,∀ E,I E → ∃ E1 E2 y,asg d E = some E1 ∧ cond E1 = .ok true E1 ∧ elt E1 = .ok y E2 ∧ I (wpe E2 vs) ∧ p y) → acc.length + ds.length ≤ sizeLine →
    ∃ ys E',Z4G asg cond elt vs ds acc E = .ok (acc ++ ys) E' ∧ I E' ∧ ys.length = ds.length ∧ ∀ y ∈ ys,p y
 | [],acc,E,i,_,_ => ⟨[],wpe E vs,by rw [List.append_nil];rfl,i,rfl,fun _ m => nomatch m⟩
 | d :: ds,acc,E,i,h,z => by
  obtain ⟨E1,E2,y,h1,h2,h3,h4,h5⟩:=h d Ya _ i;rw [List.length_cons] at z;obtain ⟨ys,E',e,i',l,q⟩:=Z7I (ds:=ds) (acc:=acc ++ [y]) h4 (fun d' m => h d' (Yb _ m)) (by rw [Yh,Yr];omega);refine ⟨y :: ys,E', ?_,i',by rw [List.length_cons,List.length_cons,l],fun x m => ?_⟩
  · show (match asg d (wpe E vs) with
      | none => Rs.stk
      | some E1 => match cond E1 with
       | .ok true E2 => (match elt E2 with
        | .ok y E3 => if acc.length < sizeLine then Z4G asg cond elt vs ds (acc ++ [y]) E3 else .stk
        | _ => .stk)
       | .ok false E2 => Z4G asg cond elt vs ds acc E2
       | _ => Rs.stk) = _
    rw [h1];simp only [h2,h3];rw [Yj (by omega),e,Yt];rfl
  · rcases Yc.mp m with rfl | m
    · exact h5
    · exact q x m
end Lb
namespace Gk
open PySem PySem.Spec PyProof.Rows L2 Dl Lb
variable [Tbs]
theorem pcl {X : Cx} {ios : Ios} {Wx : WX} {e : Expr} {es : List Expr} {fs : M (List D)} {pos p : Pos} {k n : Nat} {f : Addr} {fd : FuncData} {ps : List Str} {x : Str} {ios' : List Nat} {m : Fm} {md : Md} (F : FnG X.prog X.w X.K X.mg X.base k f fd ps (spD X.K n ios' m)) (hm : X.mg x = some (.ref f)) (hk : PySem.W.keepIn X.K (.ref f) = true) (hb : Binds X.K fd ps []) (ha : PLm X ios Wx md (e :: es) fs) (hr : Room k X.A:=by exact Room.mono (by assumption) (by decide)) (hgd : X.A.guards = some []:=by assumption) (hg : Gl X x:=by exact rfl) (tk : Takes X Wx:=by exact takes_of rfl rfl rfl rfl) (ok : mdOk ios' 0 (md ++ ([] : List D).map fun _ => none) = true:=by rfl) (hn : (md ++ ([] : List D).map fun _ => none).length = n:=by rfl) (hdb : (x == ("__debug__" : Str)) = false:=by decide) (he : starEach (e :: es) X.env = (false,eval e X.env) :: starEach es X.env:=by rfl) (hpl : (backTo pos (starEach es X.env)).any (·.1) = false:=by rfl) : Dl.PO X ios Wx (.Call (.Name x p) (e :: es) [] pos) (bnd fs fun ds => Z8m m (md ++ ([] : List D).map fun _ => none) (ds ++ [])):=Z4j F hr hgd hg hm hk hb .nil (fun _ => .nil) tk ha ok hn hdb he hpl
local macro_rules | `(tactic| trivial) => `(tactic| first | exact Or.inl rfl | exact Or.inr rfl | exact ⟨rfl,rfl,rfl,by decide +kernel,rfl,by decide +kernel,by decide +kernel⟩ | (intro _ _ _ _ _ _ us hl;first | exact (match us,hl with | [_],_ => rfl) | exact (match us,hl with | [_,_],_ => rfl) | exact (match us,hl with | [_,_,_],_ => rfl) | exact (match us,hl with | [_,_,_,_],_ => rfl) | exact (match us,hl with | [_,_,_,_,_],_ => rfl) | exact (match us,hl with | [_,_,_,_,_,_],_ => rfl)))
section
variable {P : Program} {w : World} {base : Heap} {K : KF} {mg : Str → Option Value} (o : Md3 fa fn ex K mg) (tb : TbOk K mg base tfs)
include o tb
theorem Z3X : ∃ fd,FnG P w K mg base 1 (He.fAd K ("_law_all_kinds",none)) fd ["_law_witnesses"] (spD K 1 [] ZL) ∧ PySem.W.keepIn K (.ref (He.fAd K ("_law_all_kinds",none))) = true ∧ Binds K fd ["_law_witnesses"] []:=by
 obtain ⟨fd,F⟩:=o.sd.def_ 0 rfl;have sc : FnScope ["_law_witnesses", "_law_found", "_law_w", "_law_longer", "_law_kinds"] ["_law_witnesses"] (defScope (top 50)):=by trivial
 refine ⟨fd,fn_d F sc rfl fun cdv A outer s H E hr hgd => ?_,F.kp,F.bindsN (by trivial)⟩;have hu:=hr.units;have hu2:=Zt hr;exact (Z5 (Z12 sc.nd rfl (by trivial) rfl (ZR (Z3m (Z1 (Zz Z4) Z4)))) (Z5 (Z13 (passes_of rfl) rfl (Zm rfl (o.free 0) (Z1 (Z0 0) Z4)) (Za sc.nd rfl (by trivial) rfl) (Z5 (Z12 sc.nd rfl (by trivial) rfl (Z4a Z4)) (Z5 (Z13 (passes_of rfl) rfl (Z1u (Zp call_list_of Z9p rfl (o.free 1) rfl (Z1 (Z0 1) Z4))) (Za sc.nd rfl (by trivial) rfl) (Z8 (Z2G (Z8x 3 PySem.F.slot_list_extend PySem.F.type_list_extend mt_extend ZcE rfl (Z1 (Z3m (Z1 (ZI Zh Zi (Z0 4) (Zz (Z1 Z2u Z4))) (Z1 (ZI Zh Zi (Z0 4) (Zz (Z1 Z2u Z4))) Z4))) Z4))))) (Z2n 3 rfl (Z8 (Z12 sc.nd rfl (by trivial) rfl (ZR (Z0 3)))))))) (Z8 (Zg (ZR (Z0 1))))))
theorem Z7J : ∃ fd,FnG P w K mg base 1 (He.fAd K ("_law_bag",none)) fd ["_law_script"] (spD K 1 [] Z3x) ∧ PySem.W.keepIn K (.ref (He.fAd K ("_law_bag",none))) = true ∧ Binds K fd ["_law_script"] []:=by
 obtain ⟨fd,F⟩:=o.sd.def_ 1 rfl;have sc : FnScope ["_law_script", "_law_cell"] ["_law_script"] (defScope (top 41)):=by trivial
 refine ⟨fd,fn_d F sc rfl fun cdv A outer s H E hr hgd => ?_,F.kp,F.bindsN (by trivial)⟩;have hu:=hr.units;have hu2:=Zt hr;exact (Z8 (Zg (Z4a (Z1 Z2 (Z1 Z2 (Z1 Z2 (Z1 (Zv (Z8n (own:=[("_law_cell",1)]) rfl sc.nd (Z1u (ZaL (Z0 0) Z5V (Z5W Z2))) (blkOk_by (N:=["_law_script", "_law_cell"]) (sc:=defScope (top 41)) (by decide +kernel)) (by decide) (fun _ => (Zj sc.nd rfl (by trivial) rfl (by decide))) (fun _ => Z2J) (fun _ => (ZG call_abs Zgn rfl (o.free 2) rfl (Z1 (Z0 1) Z4))))) Z4)))))))
theorem Z5h : ∃ fd,FnOk P w K mg base (L2.CX P w) 1 (He.fAd K ("Wrong",some "__init__")) fd ["self", "place"] (spX K "Wrong" ["place"]) ∧ Binds K fd ["self", "place"] [] ∧ True:=by
 obtain ⟨fd,F⟩:=o.sd.def_ 2 rfl;exact ⟨fd,Zgp F ⟨rfl,rfl,rfl,by decide +kernel,rfl,by decide +kernel,by decide +kernel⟩ (Z2L (o.x 0)) (He.noat_ok (o.sd.fact 3 rfl)) rfl rfl,F.bindsN (by trivial),True.intro⟩
theorem Z4e : ∃ fd,FnOk P w K mg base (L2.CX P w) 1 (He.fAd K ("BadItem",some "__init__")) fd ["self", "place", "index"] (spX K "BadItem" ["place", "index"]) ∧ Binds K fd ["self", "place", "index"] [] ∧ True:=by
 obtain ⟨fd,F⟩:=o.sd.def_ 3 rfl;exact ⟨fd,Ziv F ⟨rfl,rfl,rfl,by decide +kernel,rfl,by decide +kernel,by decide +kernel⟩ (Z2L (o.x 1)) (He.noat_ok (o.sd.fact 4 rfl)) (He.noat_ok (o.sd.fact 5 rfl)) rfl rfl rfl,F.bindsN (by trivial),True.intro⟩
theorem Z4f : ∃ fd,FnOk P w K mg base (L2.CX P w) 1 (He.fAd K ("TooMany",some "__init__")) fd ["self", "limit"] (spX K "TooMany" ["limit"]) ∧ Binds K fd ["self", "limit"] [] ∧ True:=by
 obtain ⟨fd,F⟩:=o.sd.def_ 4 rfl;exact ⟨fd,Zgp F ⟨rfl,rfl,rfl,by decide +kernel,rfl,by decide +kernel,by decide +kernel⟩ (Z2L (o.x 2)) (He.noat_ok (o.sd.fact 6 rfl)) rfl rfl,F.bindsN (by trivial),True.intro⟩
theorem Z3k : ∃ fd,FnG P w K mg base 1 (He.fAd K ("is_integer",none)) fd ["thing"] (spD K 1 [] Z1m) ∧ PySem.W.keepIn K (.ref (He.fAd K ("is_integer",none))) = true ∧ Binds K fd ["thing"] []:=by
 obtain ⟨fd,F⟩:=o.sd.def_ 5 rfl;have sc : FnScope ["thing"] ["thing"] (defScope (top 11)):=by trivial
 refine ⟨fd,fn_d F sc rfl fun cdv A outer s H E hr hgd => ?_,F.kp,F.bindsN (by trivial)⟩;have hu:=hr.units;have hu2:=Zt hr;exact (Z8 (Zg (ZR (Z52 (ZG Z2I (Z7f (Z4m (o.x 3))) rfl (o.free 8) rfl (Z1 (Z0 0) (Z1 (pp_c (pe_bltn (v:=.ty "int") (u:=.type "int") rfl (o.free 9) rfl rfl) (fun _ => .ty "int")) Z4))) (Z4c (Zcq (ZG Z2I (Z7f (Z4m (o.x 3))) rfl (o.free 8) rfl (Z1 (Z0 0) (Z1 (pp_c (pe_bltn (v:=.ty "bool") (u:=.type "bool") rfl (o.free 7) rfl rfl) (fun _ => .ty "bool")) Z4)))))))))
theorem Z1M : ∃ fd,FnG P w K mg base 2 (He.fAd K ("is_index",none)) fd ["thing", "many"] (spD K 2 [] Zx) ∧ PySem.W.keepIn K (.ref (He.fAd K ("is_index",none))) = true ∧ Binds K fd ["thing", "many"] []:=by
 obtain ⟨fd,F⟩:=o.sd.def_ 6 rfl;obtain ⟨ybw,yw,yq,yr⟩:=Z3k (P:=P) (w:=w) o tb;have sc : FnScope ["thing", "many"] ["thing", "many"] (defScope (top 14)):=by trivial
 refine ⟨fd,fn_d F sc rfl fun cdv A outer s H E hr hgd => ?_,F.kp,F.bindsN (by trivial)⟩;have hu:=hr.units;have hu2:=Zt hr;exact (Z8 (Zg (ZR (Z52 (Zv (pcl yw (o.glo 10) yq yr (Z6 (Z0 0) Z7))) (Z4c (Z6V op_le (Zl _) op_lt (Zl _) Z2 (Z0 0) (Z0 1)))))))
theorem Z2B : ∃ fd,FnG P w K mg base 2 (He.fAd K ("is_number",none)) fd ["thing"] (spD K 1 [] Z1j) ∧ PySem.W.keepIn K (.ref (He.fAd K ("is_number",none))) = true ∧ Binds K fd ["thing"] []:=by
 obtain ⟨fd,F⟩:=o.sd.def_ 7 rfl;obtain ⟨ybw,yw,yq,yr⟩:=Z3k (P:=P) (w:=w) o tb;obtain ⟨v_GREATEST,ycQ,m_GREATEST,r_GREATEST,p_GREATEST⟩:=o.cst (o.x 4);have sc : FnScope ["thing"] ["thing"] (defScope (top 12)):=by trivial
 refine ⟨fd,fn_d F sc rfl fun cdv A outer s H E hr hgd => ?_,F.kp,F.bindsN (by trivial)⟩;have hu:=hr.units;have hu2:=Zt hr;exact (Z8 (Zg (ZR (Z52 (Zv (pcl yw (o.glo 10) yq yr (Z6 (Z0 0) Z7))) (Z4c (Z6V op_le (Zl _) op_le (Zl _) (Zg9 un_neg Z6Y (Z3e rfl m_GREATEST r_GREATEST p_GREATEST)) (Z0 0) (Z3e rfl m_GREATEST r_GREATEST p_GREATEST)))))))
theorem Z7K : ∃ fd,FnG P w K mg base 1 (He.fAd K ("is_side",none)) fd ["thing"] (spD K 1 [] Z3w) ∧ PySem.W.keepIn K (.ref (He.fAd K ("is_side",none))) = true ∧ Binds K fd ["thing"] []:=by
 obtain ⟨fd,F⟩:=o.sd.def_ 8 rfl;obtain ⟨v_SIDES,ycX,m_SIDES,r_SIDES,p_SIDES⟩:=o.cst (o.x 5);have sc : FnScope ["thing"] ["thing"] (defScope (top 20)):=by trivial
 refine ⟨fd,fn_d F sc rfl fun cdv A outer s H E hr hgd => ?_,F.kp,F.bindsN (by trivial)⟩;have hu:=hr.units;have hu2:=Zt hr;exact (Z8 (Zg (ZR (Z52 (ZG Z2I (Z7f (Z4m (o.x 3))) rfl (o.free 8) rfl (Z1 (Z0 0) (Z1 (pp_c (pe_bltn (v:=.ty "str") (u:=.type "str") rfl (o.free 11) rfl rfl) (fun _ => .ty "str")) Z4))) (Z4c (Z1z (Z71 hu2) Z72 (Z0 0) (Z3e rfl m_SIDES r_SIDES p_SIDES) rfl))))))
theorem Z4g : ∃ fd,FnG P w K mg base 3 (He.fAd K ("bound_checks",none)) fd ["events", "item"] (spD K 2 [] Z1O) ∧ PySem.W.keepIn K (.ref (He.fAd K ("bound_checks",none))) = true ∧ Binds K fd ["events", "item"] []:=by
 obtain ⟨fd,F⟩:=o.sd.def_ 9 rfl;obtain ⟨ym,yf,yd,ye⟩:=Z1M (P:=P) (w:=w) o tb;obtain ⟨yM,yj,yh,yi⟩:=Z2B (P:=P) (w:=w) o tb;obtain ⟨ycR,yca,yb1,yb2⟩:=Z7K (P:=P) (w:=w) o tb;have sc : FnScope ["events", "item"] ["events", "item"] (defScope (top 23)):=by trivial
 refine ⟨fd,fn_d F sc rfl fun cdv A outer s H E hr hgd => ?_,F.kp,F.bindsN (by trivial)⟩;have hu:=hr.units;have hu2:=Zt hr;exact (Z8 (Zg (Z4a (Z1 (Zv (pcl yf (o.glo 14) yd ye (Z6 (Zf (Z0 1) Z2) (Z6 (Z0 0) Z7)))) (Z1 (Zv (pcl yca (o.glo 13) yb1 yb2 (Z6 (Zf (Z0 1) Z2) Z7))) (Z1 (Zv (pcl yj (o.glo 12) yh yi (Z6 (Zf (Z0 1) Z2) Z7))) Z4))))))
theorem Z7L : ∃ fd,FnG P w K mg base 1 (He.fAd K ("is_kind",none)) fd ["thing"] (spD K 1 [] Z2R) ∧ PySem.W.keepIn K (.ref (He.fAd K ("is_kind",none))) = true ∧ Binds K fd ["thing"] []:=by
 obtain ⟨fd,F⟩:=o.sd.def_ 10 rfl;obtain ⟨v_EARLY,ycY,m_EARLY,r_EARLY,p_EARLY⟩:=o.cst (o.x 7);obtain ⟨v_LATE,yc1,m_LATE,r_LATE,p_LATE⟩:=o.cst (o.x 6);have sc : FnScope ["thing"] ["thing"] (defScope (top 13)):=by trivial
 refine ⟨fd,fn_d F sc rfl fun cdv A outer s H E hr hgd => ?_,F.kp,F.bindsN (by trivial)⟩;have hu:=hr.units;have hu2:=Zt hr;exact (Z8 (Zg (ZR (Z52 (ZG Z2I (Z7f (Z4m (o.x 3))) rfl (o.free 8) rfl (Z1 (Z0 0) (Z1 (pp_c (pe_bltn (v:=.ty "str") (u:=.type "str") rfl (o.free 11) rfl rfl) (fun _ => .ty "str")) Z4))) (Z4c (Z1z (Z71 hu2) Z72 (Z0 0) (Zz (Z1 (Z3e rfl m_EARLY r_EARLY p_EARLY) (Z1 (Z3e rfl m_LATE r_LATE p_LATE) Z4))) rfl))))))
theorem Z3Y : ∃ fd,FnG P w K mg base 3 (He.fAd K ("clause_checks",none)) fd ["witnesses", "item"] (spD K 2 [] Z1w) ∧ PySem.W.keepIn K (.ref (He.fAd K ("clause_checks",none))) = true ∧ Binds K fd ["witnesses", "item"] []:=by
 obtain ⟨fd,F⟩:=o.sd.def_ 11 rfl;obtain ⟨ym,yf,yd,ye⟩:=Z1M (P:=P) (w:=w) o tb;obtain ⟨ycS,ybv,ybb,ybc⟩:=Z7L (P:=P) (w:=w) o tb;have sc : FnScope ["witnesses", "item"] ["witnesses", "item"] (defScope (top 24)):=by trivial
 refine ⟨fd,fn_d F sc rfl fun cdv A outer s H E hr hgd => ?_,F.kp,F.bindsN (by trivial)⟩;have hu:=hr.units;have hu2:=Zt hr;exact (Z8 (Zg (Z4a (Z1 (Zv (pcl yf (o.glo 14) yd ye (Z6 (Zf (Z0 1) Z2) (Z6 (Z0 0) Z7)))) (Z1 (Zv (pcl ybv (o.glo 15) ybb ybc (Z6 (Zf (Z0 1) Z2) Z7))) (Z1 (Zv (pcl yf (o.glo 14) yd ye (Z6 (Zf (Z0 1) Z2) (Z6 (Z0 0) Z7)))) (Z1 (Zv (pcl ybv (o.glo 15) ybb ybc (Z6 (Zf (Z0 1) Z2) Z7))) Z4)))))))
theorem Z5i : ∃ fd,FnG P w K mg base 3 (He.fAd K ("gap_checks",none)) fd ["events", "item"] (spD K 2 [] Z2x) ∧ PySem.W.keepIn K (.ref (He.fAd K ("gap_checks",none))) = true ∧ Binds K fd ["events", "item"] []:=by
 obtain ⟨fd,F⟩:=o.sd.def_ 12 rfl;obtain ⟨ym,yf,yd,ye⟩:=Z1M (P:=P) (w:=w) o tb;obtain ⟨yM,yj,yh,yi⟩:=Z2B (P:=P) (w:=w) o tb;have sc : FnScope ["events", "item", "fine"] ["events", "item"] (defScope (top 22)):=by trivial
 refine ⟨fd,fn_d F sc rfl fun cdv A outer s H E hr hgd => ?_,F.kp,F.bindsN (by trivial)⟩;have hu:=hr.units;have hu2:=Zt hr;exact (Z5 (Z12 sc.nd rfl (by trivial) rfl (ZR (Zv (pcl yf (o.glo 14) yd ye (Z6 (Zf (Z0 1) Z2) (Z6 (Z0 0) Z7)))))) (Z8 (Zg (Z4a (Z1 (Z0 2) (Z1 (Z52 (Zv (pcl yf (o.glo 14) yd ye (Z6 (Zf (Z0 1) Z2) (Z6 (Z0 0) Z7)))) (Z4c (Zcq (Z52 (Z0 2) (Z4c (Z1z (ZY hu) ZZ (Zf (Z0 1) Z2) (Zf (Z0 1) Z2) rfl)))))) (Z1 (Zv (pcl yj (o.glo 12) yh yi (Z6 (Zf (Z0 1) Z2) Z7))) Z4)))))))
theorem Z3q : ∃ fd,FnG P w K mg base 3 (He.fAd K ("telling_checks",none)) fd ["events", "witnesses", "item"] (spD K 3 [] Z1n) ∧ PySem.W.keepIn K (.ref (He.fAd K ("telling_checks",none))) = true ∧ Binds K fd ["events", "witnesses", "item"] []:=by
 obtain ⟨fd,F⟩:=o.sd.def_ 13 rfl;obtain ⟨ym,yf,yd,ye⟩:=Z1M (P:=P) (w:=w) o tb;obtain ⟨yM,yj,yh,yi⟩:=Z2B (P:=P) (w:=w) o tb;have sc : FnScope ["events", "witnesses", "item"] ["events", "witnesses", "item"] (defScope (top 21)):=by trivial
 refine ⟨fd,fn_d F sc rfl fun cdv A outer s H E hr hgd => ?_,F.kp,F.bindsN (by trivial)⟩;have hu:=hr.units;have hu2:=Zt hr;exact (Z8 (Zg (Z4a (Z1 (Zv (pcl yf (o.glo 14) yd ye (Z6 (Zf (Z0 2) Z2) (Z6 (Z0 1) Z7)))) (Z1 (Zv (pcl yf (o.glo 14) yd ye (Z6 (Zf (Z0 2) Z2) (Z6 (Z0 0) Z7)))) (Z1 (Zv (pcl yj (o.glo 12) yh yi (Z6 (Zf (Z0 2) Z2) Z7))) Z4))))))
theorem Z8U : ∃ fd,FnG P w K mg base 4 (He.fAd K ("checks",none)) fd ["events", "witnesses", "part", "item"] (spD K 4 [] Z16) ∧ PySem.W.keepIn K (.ref (He.fAd K ("checks",none))) = true ∧ Binds K fd ["events", "witnesses", "part", "item"] []:=by
 obtain ⟨fd,F⟩:=o.sd.def_ 14 rfl;obtain ⟨ycq,ybo,ybd,ybe⟩:=Z4g (P:=P) (w:=w) o tb;obtain ⟨yck,ybf,yW,yX⟩:=Z3Y (P:=P) (w:=w) o tb;obtain ⟨ycA,ybF,ybx,yby⟩:=Z5i (P:=P) (w:=w) o tb;obtain ⟨ych,yY,yQ,yR⟩:=Z3q (P:=P) (w:=w) o tb;have sc : FnScope ["events", "witnesses", "part", "item"] ["events", "witnesses", "part", "item"] (defScope (top 25)):=by trivial
 refine ⟨fd,fn_d F sc rfl fun cdv A outer s H E hr hgd => ?_,F.kp,F.bindsN (by trivial)⟩;have hu:=hr.units;have hu2:=Zt hr;exact (Z5 (Z2c (Ze (ZY hu) ZZ (Z0 2) Z2 rfl) (Z8 (Zg (pcl yY (o.glo 16) yQ yR (Z6 (Z0 0) (Z6 (Z0 1) (Z6 (Z0 3) Z7)))))) ZA) (Z5 (Z2c (Ze (ZY hu) ZZ (Z0 2) Z2 rfl) (Z8 (Zg (pcl ybF (o.glo 17) ybx yby (Z6 (Z0 0) (Z6 (Z0 3) Z7))))) ZA) (Z8 (Zg (Zcs (Ze (ZY hu) ZZ (Z0 2) Z2 rfl) (pcl ybo (o.glo 18) ybd ybe (Z6 (Z0 0) (Z6 (Z0 3) Z7))) (pcl ybf (o.glo 19) yW yX (Z6 (Z0 1) (Z6 (Z0 3) Z7))))))))
theorem Z8V : ∃ fd,FnG P w K mg base 1 (He.fAd K ("is_row",none)) fd ["thing", "many"] (spD K 2 [] Z3Q) ∧ PySem.W.keepIn K (.ref (He.fAd K ("is_row",none))) = true ∧ Binds K fd ["thing", "many"] []:=by
 obtain ⟨fd,F⟩:=o.sd.def_ 15 rfl;have sc : FnScope ["thing", "many"] ["thing", "many"] (defScope (top 15)):=by trivial
 refine ⟨fd,fn_d F sc rfl fun cdv A outer s H E hr hgd => ?_,F.kp,F.bindsN (by trivial)⟩;have hu:=hr.units;have hu2:=Zt hr;exact (Z8 (Zg (ZR (Z52 (ZG Z2I (Z7f (Z4m (o.x 3))) rfl (o.free 8) rfl (Z1 (Z0 0) (Z1 (pp_c (pe_bltn (v:=.ty "tuple") (u:=.type "tuple") rfl (o.free 21) rfl rfl) (fun _ => .ty "tuple")) Z4))) (Z4c (Z1z (ZY hu) ZZ (ZG call_len Z8z rfl (o.free 20) rfl (Z1 (Z0 0) Z4)) (Z0 1) rfl))))))
theorem Z5j : ∃ fd,FnG P w K mg base 5 (He.fAd K ("check_part",none)) fd ["events", "witnesses", "part", "items"] (spD K 4 [] Z1o) ∧ PySem.W.keepIn K (.ref (He.fAd K ("check_part",none))) = true ∧ Binds K fd ["events", "witnesses", "part", "items"] []:=by
 obtain ⟨fd,F⟩:=o.sd.def_ 16 rfl;obtain ⟨ycr,ybp,ybg,ycs⟩:=Z4e (P:=P) (w:=w) o tb;obtain ⟨yct,ybq,ybh,ycu⟩:=Z4f (P:=P) (w:=w) o tb;obtain ⟨ycV,ycl,ycb,ycc⟩:=Z8U (P:=P) (w:=w) o tb;obtain ⟨ycW,ycm,ycd,yce⟩:=Z8V (P:=P) (w:=w) o tb;obtain ⟨v_ITEMS,ycZ,m_ITEMS,r_ITEMS,p_ITEMS⟩:=o.cst (o.x 8);have sc : FnScope ["events", "witnesses", "part", "items", "index", "item"] ["events", "witnesses", "part", "items"] (defScope (top 26)):=by trivial
 refine ⟨fd,fn_d F sc rfl fun cdv A outer s H E hr hgd => ?_,F.kp,F.bindsN (by trivial)⟩;have hu:=hr.units;have hu2:=Zt hr;exact (Z5 (Z2c (Ze op_gt (Zl _) (ZG call_len Z8z rfl (o.free 20) rfl (Z1 (Z0 3) Z4)) (Z3e rfl m_ITEMS r_ITEMS p_ITEMS) rfl) (Z8 (Z3L rfl (takes_of rfl rfl rfl rfl) (Z2L (o.x 2)) (Z2m (o.x 9)).1 (Z2m (o.x 9)).2 ybq (hr.mono (by decide)) ybh rfl (o.glo 22) (Z1 (Z3e rfl m_ITEMS r_ITEMS p_ITEMS) Z4))) ZA) (Z8 (Z13 (passes_of rfl) rfl (Z56 rfl (o.free 23) (Z1 (Z0 3) Z4)) (Z1N rfl (Z9 (Za sc.nd rfl (by trivial) rfl) (Z9 (Za sc.nd rfl (by trivial) rfl) Z10))) (Z8 (Z2c (Z24 (Z4b (Z51 (Z1l (Zv (pcl ycm (o.glo 26) ycd yce (Z6 (Z0 5) (Z6 (Zcr (Ze (ZY hu) ZZ (Z0 2) Z2 rfl) Z2 Z2) Z7)))))) (Z2k (Z51 (Z1l (ZG (cr_all rfl) ZcF rfl (o.free 25) rfl (Z1 (Zv (pcl ycl (o.glo 24) ycb ycc (Z6 (Z0 0) (Z6 (Z0 1) (Z6 (Z0 2) (Z6 (Z0 5) Z7)))))) Z4))))))) (Z8 (Z3L rfl (takes_of rfl rfl rfl rfl) (Z2L (o.x 1)) (Z2m (o.x 10)).1 (Z2m (o.x 10)).2 ybp (hr.mono (by decide)) ybg rfl (o.glo 27) (Z1 (ZI Zh Zi (Z0 2) Z2) (Z1 (Z0 4) Z4)))) ZA)))))
theorem Z5M : ∃ fd,FnG P w K mg base 6 (He.fAd K ("Book",some "__init__")) fd ["self", "events", "witnesses", "tellings", "gaps", "sure", "clauses"] (spD K 7 [0] ZT) ∧ PySem.W.keepIn K (.ref (He.fAd K ("Book",some "__init__"))) = true ∧ (∃ us,Vals [] us ∧ Binds K fd ["self", "events", "witnesses", "tellings", "gaps", "sure", "clauses"] us):=by
 obtain ⟨fd,F⟩:=o.sd.def_ 17 rfl;obtain ⟨ycB,yN,yJ,ycC⟩:=Z5h (P:=P) (w:=w) o tb;obtain ⟨ycD,ybG,ybz,ybA⟩:=Z5j (P:=P) (w:=w) o tb;obtain ⟨ym,yf,yd,ye⟩:=Z1M (P:=P) (w:=w) o tb;obtain ⟨v_SIZE,yc2,m_SIZE,r_SIZE,p_SIZE⟩:=o.cst (o.x 11);have sc : FnScope ["self", "events", "witnesses", "tellings", "gaps", "sure", "clauses", "place", "size", "parts", "items", "part"] ["self", "events", "witnesses", "tellings", "gaps", "sure", "clauses"] (defScope (inClass (top 27) 0)):=by trivial
 refine ⟨fd,fn_d F sc rfl fun cdv A outer s H E hr hgd => ?_,F.kp,F.binds1 7 4 (by simp [He.DefD.dvs]) rfl fun _ _ _ _ _ _ _ us its h1 h2 => match us,h1,its,h2 with | [_,_,_,_,_,_,_],_,[_,_,_,_],_ => ⟨_,rfl,rfl⟩⟩;have hu:=hr.units;have hu2:=Zt hr;exact (Z5 (Z13 (passes_of rfl) rfl (Z56 rfl (o.free 23) (Z1 (Z3m (Z1 (Z0 1) (Z1 (Z0 2) Z4))) Z4)) (Z1N rfl (Z9 (Za sc.nd rfl (by trivial) rfl) (Z9 (Za sc.nd rfl (by trivial) rfl) Z10))) (Z8 (Z2c (Z51 (Z1l (Zv (pcl yf (o.glo 14) yd ye (Z6 (Z0 8) (Z6 (ZI Zh Zi (Z3e rfl m_SIZE r_SIZE p_SIZE) Z2) Z7)))))) (Z8 (Z3L rfl (takes_of rfl rfl rfl rfl) (Z2L (o.x 0)) (Z2m (o.x 12)).1 (Z2m (o.x 12)).2 yN (hr.mono (by decide)) yJ rfl (o.glo 28) (Z1 (Z0 7) Z4))) ZA))) (Z5 (Z12 sc.nd rfl (by trivial) rfl (ZR (Z3m (Z1 (Z0 3) (Z1 (Z0 4) (Z1 (Z0 5) (Z1 (Z0 6) Z4))))))) (Z5 (Z13 (passes_of rfl) rfl (Z56 rfl (o.free 23) (Z1 (Z0 9) Z4)) (Z1N rfl (Z9 (Za sc.nd rfl (by trivial) rfl) (Z9 (Za sc.nd rfl (by trivial) rfl) Z10))) (Z8 (Z2c (Z51 (Z1l (ZcN (Z4m (o.x 3)) rfl (o.free 8) (Z0 10) (Z1 (pp_c (pe_bltn (v:=.ty "list") (u:=.type "list") rfl (o.free 1) rfl rfl) (fun _ => .ty "list")) (Z1 (pp_c (pe_bltn (v:=.ty "tuple") (u:=.type "tuple") rfl (o.free 21) rfl rfl) (fun _ => .ty "tuple")) Z4))))) (Z8 (Z3L rfl (takes_of rfl rfl rfl rfl) (Z2L (o.x 0)) (Z2m (o.x 12)).1 (Z2m (o.x 12)).2 yN (hr.mono (by decide)) yJ rfl (o.glo 28) (Z1 (ZI Zh Zi (Z0 7) Z2) Z4))) ZA))) (Z5 (Z13 (passes_of rfl) rfl (Z56 rfl (o.free 23) (Z1 (Z0 9) Z4)) (Z1N rfl (Z9 (Za sc.nd rfl (by trivial) rfl) (Z9 (Za sc.nd rfl (by trivial) rfl) Z10))) (Z8 (Z2G (Zv (pcl ybG (o.glo 29) ybz ybA (Z6 (Z0 1) (Z6 (Z0 2) (Z6 (Z0 11) (Z6 (Z0 10) Z7))))))))) (Z5 (Z6C 0 ["Book"] rfl (hc1 (Z2K (o.x 13)).cl (He.noat_ok (o.sd.fact 30 rfl))) (Z0 1)) (Z5 (Z6C 0 ["Book"] rfl (hc1 (Z2K (o.x 13)).cl (He.noat_ok (o.sd.fact 31 rfl))) (Z0 2)) (Z5 (Z6C 0 ["Book"] rfl (hc1 (Z2K (o.x 13)).cl (He.noat_ok (o.sd.fact 32 rfl))) (Zp call_tuple_of Z3J rfl (o.free 21) rfl (Z1 (Z0 3) Z4))) (Z5 (Z6C 0 ["Book"] rfl (hc1 (Z2K (o.x 13)).cl (He.noat_ok (o.sd.fact 33 rfl))) (Zp call_tuple_of Z3J rfl (o.free 21) rfl (Z1 (Z0 4) Z4))) (Z5 (Z6C 0 ["Book"] rfl (hc1 (Z2K (o.x 13)).cl (He.noat_ok (o.sd.fact 34 rfl))) (Zp call_tuple_of Z3J rfl (o.free 21) rfl (Z1 (Z0 5) Z4))) (Z8 (Z6C 0 ["Book"] rfl (hc1 (Z2K (o.x 13)).cl (He.noat_ok (o.sd.fact 35 rfl))) (Zp call_tuple_of Z3J rfl (o.free 21) rfl (Z1 (Z0 6) Z4)))))))))))))
end
def g_law_book : G:=(Je (mkM ZT "Book" [none,none,none,none,none,none] [] (Ja (rd 0) (Ja (rd 1) (Ja (opM ixD (rd 2) (Zr (.int 0))) (Ja (opM ixD (rd 2) (Zr (.int 1))) (Ja (opM ixD (rd 2) (Zr (.int 2))) (Ja (opM ixD (rd 2) (Zr (.int 3))) (Zr [])))))))))
def m_law_book : Fm:=Jj 3 g_law_book
section
variable {P : Program} {w : World} {base : Heap} {K : KF} {mg : Str → Option Value} (o : Md3 fa fn ex K mg) (tb : TbOk K mg base tfs)
include o tb
theorem Z6H : ∃ fd,FnG P w K mg base 8 (He.fAd K ("_law_book",none)) fd ["_law_events", "_law_witnesses", "_law_parts_here"] (spD K 3 [] m_law_book) ∧ PySem.W.keepIn K (.ref (He.fAd K ("_law_book",none))) = true ∧ Binds K fd ["_law_events", "_law_witnesses", "_law_parts_here"] []:=by
 obtain ⟨fd,F⟩:=o.sd.def_ 18 rfl;obtain ⟨ycI,ybR,ycJ,yO⟩:=Z5M (P:=P) (w:=w) o tb;have sc : FnScope ["_law_events", "_law_witnesses", "_law_parts_here"] ["_law_events", "_law_witnesses", "_law_parts_here"] (defScope (top 47)):=by trivial
 refine ⟨fd,fn_d F sc rfl fun cdv A outer s H E hr hgd => ?_,F.kp,F.bindsN (by trivial)⟩;have hu:=hr.units;have hu2:=Zt hr;exact (Z8 (Zg (ZcC (He.mkr_ok (o.sd.fact 36 rfl)) ybR (hr.mono (by decide)) hgd rfl (o.glo 37) yO.choose_spec.2 yO.choose_spec.1 (fun F => RepL.nil) (takes_of rfl rfl rfl rfl) (Z6 (Z0 0) (Z6 (Z0 1) (Z6 (Zf (Z0 2) Z2) (Z6 (Zf (Z0 2) Z2) (Z6 (Zf (Z0 2) Z2) (Z6 (Zf (Z0 2) Z2) Z7)))))))))
theorem ZX : ∃ fd,FnG P w K mg base 1 (He.fAd K ("_law_take",none)) fd ["_law_bag_here", "_law_many"] (spD K 2 [0] Z3) ∧ PySem.W.keepIn K (.ref (He.fAd K ("_law_take",none))) = true ∧ Binds K fd ["_law_bag_here", "_law_many"] []:=by
 obtain ⟨fd,F⟩:=o.sd.def_ 19 rfl;have sc : FnScope ["_law_bag_here", "_law_many", "_law_cell", "_law_mixed", "_law_drawn", "_law_early", "_law_second"] ["_law_bag_here", "_law_many"] (defScope (top 42)):=by trivial
 refine ⟨fd,fn_d F sc rfl fun cdv A outer s H E hr hgd => ?_,F.kp,F.bindsN (by trivial)⟩;have hu:=hr.units;have hu2:=Zt hr;exact (Z5 (Z2c (Z3f (Ze (ZY hu) ZZ (Zf (Z0 0) Z2) Z2 rfl)) (Z5 (Z12 sc.nd rfl (by trivial) rfl (ZR Z2)) (Z5 (Z2c (Z3f (Ze op_lt (Zl _) (Zf (Z0 0) Z2) (ZG call_len Z8z rfl (o.free 20) rfl (Z1 (Zf (Z0 0) Z2) Z4)) rfl)) (Z8 (Z12 sc.nd rfl (by trivial) rfl (ZR (Z3D (Zf (Zf (Z0 0) Z2) (Zf (Z0 0) Z2)))))) ZA) (Z5 (ZaR 0 rfl ip_add (Zgj _) Z2 Z2) (Z5 (Z2c (Ze op_ge (Zl _) (Z0 2) Z2 rfl) (Z8 (Z4E 0 rfl (Z0 2) Z2)) ZA) (Z5 (Z12 sc.nd rfl (by trivial) rfl (ZR (Z3D (ZI Zh Zi (ZI Zh Zi (ZI Z1U Z22 (Zf (Z0 0) Z2) Z2) (ZI op_mod Z3g (Zp call_int1 Z2H rfl (o.free 9) rfl (Z1 (Z0 2) Z4)) Z2)) (ZI Z1U Z22 Z2 (Zf (Z0 0) Z2)))))) (Z8 (Z4E 0 rfl (ZI op_mod Z3g (Zp call_int1 Z2H rfl (o.free 9) rfl (Z1 (Z0 3) Z4)) Z2) Z2))))))) ZA) (Z5 (Z2c (Z3f (Ze op_gt (Zl _) (Zf (Z0 0) Z2) Z2 rfl)) (Z5 (Z12 sc.nd rfl (by trivial) rfl (ZR (Z3D (ZI op_mod Z3g (Zp call_int1 Z2H rfl (o.free 9) rfl (Z1 (Zf (Z0 0) Z2) Z4)) (Z0 1))))) (Z5 (Z4E 0 rfl (Z3D (ZI op_fdivW Z6X (Zp call_int1 Z2H rfl (o.free 9) rfl (Z1 (Zf (Z0 0) Z2) Z4)) (Z0 1))) Z2) (Z8 (Zg (ZR (Z0 4)))))) ZA) (Z5 (Z12 sc.nd rfl (by trivial) rfl (ZR (Z3D (ZI op_mod Z3g (Zp call_int1 Z2H rfl (o.free 9) rfl (Z1 (ZI Z1U Z22 (ZI Zh Zi (Zf (Z0 0) Z2) Z2) Z2) Z4)) Z2)))) (Z5 (Z12 sc.nd rfl (by trivial) rfl (ZR (ZI op_mod Z3g (Zp call_int1 Z2H rfl (o.free 9) rfl (Z1 (ZI Z1U Z22 (ZI op_mod Z3g (Zp call_int1 Z2H rfl (o.free 9) rfl (Z1 (ZI Z1U Z22 (Z0 5) (Z0 5)) Z4)) Z2) Z2) Z4)) Z2))) (Z8 (Zg (ZR (ZI op_mod Z3g (Zp call_int1 Z2H rfl (o.free 9) rfl (Z1 (ZI op_fdivW Z6X (Z0 6) Z2) Z4)) (Z0 1)))))))))
theorem Z5k : ∃ fd,FnG P w K mg base 2 (He.fAd K ("_law_one",none)) fd ["_law_bag_here", "_law_menu"] (spD K 2 [0] Z1h) ∧ PySem.W.keepIn K (.ref (He.fAd K ("_law_one",none))) = true ∧ Binds K fd ["_law_bag_here", "_law_menu"] []:=by
 obtain ⟨fd,F⟩:=o.sd.def_ 20 rfl;obtain ⟨yg,yc,ya,yb⟩:=ZX (P:=P) (w:=w) o tb;have sc : FnScope ["_law_bag_here", "_law_menu"] ["_law_bag_here", "_law_menu"] (defScope (top 43)):=by trivial
 refine ⟨fd,fn_d F sc rfl fun cdv A outer s H E hr hgd => ?_,F.kp,F.bindsN (by trivial)⟩;have hu:=hr.units;have hu2:=Zt hr;exact (Z8 (Zg (ZR (Zf (Z0 1) (Zv (pcl yc (o.glo 38) ya yb (ZB 0 (Z6 (ZG call_len Z8z rfl (o.free 20) rfl (Z1 (Z0 1) Z4)) Z7))))))))
end
def c0_law_far_gaps : M Ent:=(Z31 (Jn (rd 1)) (tgT 3 (tgC (Jd 3) (tgC (Jd 4) (tgC (Jd 5) tgN)))) (Zr true) (Jg (Ja (rd 3) (Ja (rd 4) (Ja (opM J0 (rd 5) (Zr (.int 200000000000))) (Zr []))))) [3,4,5])
def b0_law_far_gaps : G:=(Jf (mutM 2 appG (Ja (Jg (Ja (rd 4) (Ja (rd 3) (Ja (opM Jt (opM Jt (Zr (.int 0)) (rd 5)) (shM (Jc Z1h [some 0,none] [] (ioM 0 (Ja (Jv (Ja (Zr (.int 0)) (Ja (Zr (.int 1)) (Ja (Zr (.int 7)) (Ja (Zr (.int 100000000000)) (Zr [])))))) (Zr [])))))) (Zr []))))) (Zr []))) fun _ => done)
def l0_law_far_gaps : G:=(Jw (Jn (shM (Zd7 (slO (rd 2) (Zr none) (ixp (Zr (.int 1))))))) (tgT 3 (tgC (Jd 3) (tgC (Jd 4) (tgC (Jd 5) tgN)))) b0_law_far_gaps)
def g_law_far_gaps : G:=(Zb (Jf (cmB ltD (shM (Jc Z3 [some 0,none] [] (ioM 0 (Ja (Zr (.int 6)) (Zr []))))) (Zr (.int 5))) fun k => if k = true then (Je (sh1 (rd 1))) else done) (Zb (Jh 2 c0_law_far_gaps) (Zb l0_law_far_gaps (Z9v 2))))
def m_law_far_gaps : Fm:=Jj 6 g_law_far_gaps

section
variable {P : Program} {w : World} {base : Heap} {K : KF} {mg : Str → Option Value} (o : Md3 fa fn ex K mg) (tb : TbOk K mg base tfs)
include o tb
theorem Z4h : ∃ fd,FnG P w K mg base 3 (He.fAd K ("_law_far_gaps",none)) fd ["_law_bag_here", "_law_gaps"] (spD K 2 [0] m_law_far_gaps) ∧ PySem.W.keepIn K (.ref (He.fAd K ("_law_far_gaps",none))) = true ∧ Binds K fd ["_law_bag_here", "_law_gaps"] []:=by
 obtain ⟨fd,F⟩:=o.sd.def_ 21 rfl;obtain ⟨yb3,yp,yk,yl⟩:=Z5k (P:=P) (w:=w) o tb;obtain ⟨yg,yc,ya,yb⟩:=ZX (P:=P) (w:=w) o tb;have sc : FnScope ["_law_bag_here", "_law_gaps", "_law_found", "_law_a", "_law_b", "_law_g"] ["_law_bag_here", "_law_gaps"] (defScope (top 53)):=by trivial
 refine ⟨fd,fn_d F sc rfl fun cdv A outer s H E hr hgd => ?_,F.kp,F.bindsN (by trivial)⟩;have hu:=hr.units;have hu2:=Zt hr;exact (Z5 (Z2c (Ze op_lt (Zl _) (Zv (pcl yc (o.glo 38) ya yb (ZB 0 (Z6 Z2 Z7)))) Z2 rfl) (Z8 (Zg (ZR (Z0 1)))) ZA) (Z5 (Z4H (own:=[("_law_a",3),("_law_b",4),("_law_g",5)]) rfl sc.nd rfl rfl rfl (sw_true rfl rfl rfl (by decide +kernel)) (Z1u (Z0 1)) (blkOk_by (N:=["_law_bag_here", "_law_gaps", "_law_found", "_law_a", "_law_b", "_law_g"]) (sc:=defScope (top 53)) (by decide +kernel)) (by decide) (fun _ => (Z6B rfl (Zs (Zj sc.nd rfl (by trivial) rfl (by decide)) (Zs (Zj sc.nd rfl (by trivial) rfl (by decide)) (Zs (Zj sc.nd rfl (by trivial) rfl (by decide)) Z4l))))) (fun _ => Z2J) (fun _ => (Zz (Z1 (Z0 3) (Z1 (Z0 4) (Z1 (ZI Z1U Z22 (Z0 5) Z2) Z4)))))) (Z5 (Z13 (passes_of rfl) rfl (Z1u (Zv (Zd9 (Zba (Z0 2) Z5V (Z5W Z2))))) (Z1N rfl (Z9 (Za sc.nd rfl (by trivial) rfl) (Z9 (Za sc.nd rfl (by trivial) rfl) (Z9 (Za sc.nd rfl (by trivial) rfl) Z10)))) (Z8 (Z2G (Z8x 2 PySem.F.slot_list_append PySem.F.type_list_append mt_append Z3H rfl (Z1 (Zz (Z1 (Z0 4) (Z1 (Z0 3) (Z1 (ZI op_sub Z1T (ZI op_sub Z1T Z2 (Z0 5)) (Zv (pcl yp (o.glo 39) yk yl (ZB 0 (Z6 (Z3m (Z1 Z2 (Z1 Z2 (Z1 Z2 (Z1 Z2 Z4))))) Z7))))) Z4)))) Z4))))) (Z8 (Z9w 2 rfl rfl)))))
theorem Z7M : ∃ fd,FnG P w K mg base 2 (He.fAd K ("_law_few",none)) fd ["_law_bag_here", "_law_witnesses"] (spD K 2 [0] Z2S) ∧ PySem.W.keepIn K (.ref (He.fAd K ("_law_few",none))) = true ∧ Binds K fd ["_law_bag_here", "_law_witnesses"] []:=by
 obtain ⟨fd,F⟩:=o.sd.def_ 22 rfl;obtain ⟨yg,yc,ya,yb⟩:=ZX (P:=P) (w:=w) o tb;have sc : FnScope ["_law_bag_here", "_law_witnesses", "_law_w"] ["_law_bag_here", "_law_witnesses"] (defScope (top 52)):=by trivial
 refine ⟨fd,fn_d F sc rfl fun cdv A outer s H E hr hgd => ?_,F.kp,F.bindsN (by trivial)⟩;have hu:=hr.units;have hu2:=Zt hr;exact (Z8 (Zg (Z8n (own:=[("_law_w",2)]) rfl sc.nd (Zm rfl (o.free 0) (Z1 (Z0 1) Z4)) (blkOk_by (N:=["_law_bag_here", "_law_witnesses", "_law_w"]) (sc:=defScope (top 52)) (by decide +kernel)) (by decide) (fun _ => (Zj sc.nd rfl (by trivial) rfl (by decide))) (fun _ => (Z3h (Ze (ZY hu) ZZ (Zv (Z4j yc (hr.mono (by decide)) hgd rfl (o.glo 38) ya yb .nil (fun _ => .nil) takes0 (ZB 0 (Z6 Z2 Z7)))) Z2 rfl))) (fun _ => (Z0 2)))))
theorem Z3Z : ∃ fd,FnG P w K mg base 1 (He.fAd K ("_law_keeps",none)) fd ["_law_part", "_law_item", "_law_kinds", "_law_times"] (spD K 4 [] Zk) ∧ PySem.W.keepIn K (.ref (He.fAd K ("_law_keeps",none))) = true ∧ Binds K fd ["_law_part", "_law_item", "_law_kinds", "_law_times"] []:=by
 obtain ⟨fd,F⟩:=o.sd.def_ 23 rfl;have sc : FnScope ["_law_part", "_law_item", "_law_kinds", "_law_times"] ["_law_part", "_law_item", "_law_kinds", "_law_times"] (defScope (top 48)):=by trivial
 refine ⟨fd,fn_d F sc rfl fun cdv A outer s H E hr hgd => ?_,F.kp,F.bindsN (by trivial)⟩;have hu:=hr.units;have hu2:=Zt hr;exact (Z5 (Z2c (Ze (ZY hu) ZZ (Z0 0) Z2 rfl) (Z8 (Zg (Zcs (Ze (ZY hu) ZZ (Zf (Z0 2) (Zf (Z0 1) Z2)) Z2u rfl) (ZR (Z1z op_ge (Zl _) (Zf (Z0 3) (Zf (Z0 1) Z2)) (Zf (Z0 1) Z2) rfl)) (ZR (Z1z op_le (Zl _) (Zf (Z0 3) (Zf (Z0 1) Z2)) (Zf (Z0 1) Z2) rfl))))) ZA) (Z5 (Z2c (Ze (ZY hu) ZZ (Z0 0) Z2 rfl) (Z8 (Zg (ZR (Z1z op_ge (Zl _) (Zf (Z0 3) (Zf (Z0 1) Z2)) (ZI Zh Zi (Zf (Z0 3) (Zf (Z0 1) Z2)) (Zf (Z0 1) Z2)) rfl)))) ZA) (Z5 (Z2c (Ze (ZY hu) ZZ (Z0 0) Z2 rfl) (Z8 (Zg (Zcs (Ze (ZY hu) ZZ (Zf (Z0 1) Z2) Z2u rfl) (ZR (Z1z op_ge (Zl _) (Zf (Z0 3) (Zf (Z0 1) Z2)) (Zf (Z0 1) Z2) rfl)) (ZR (Z1z op_le (Zl _) (Zf (Z0 3) (Zf (Z0 1) Z2)) (Zf (Z0 1) Z2) rfl))))) ZA) (Z8 (Zg (ZR (ZhF (Z1z (ZY hu) ZZ (Zf (Z0 2) (Zf (Z0 1) Z2)) (Zf (Z0 1) Z2) rfl) (Z4c (Z1z (ZY hu) ZZ (Zf (Z0 2) (Zf (Z0 1) Z2)) (Zf (Z0 1) Z2) rfl)))))))))
theorem Z4u : ∃ fd,FnG P w K mg base 2 (He.fAd K ("_law_kind",none)) fd ["_law_bag_here"] (spD K 1 [0] Zo) ∧ PySem.W.keepIn K (.ref (He.fAd K ("_law_kind",none))) = true ∧ Binds K fd ["_law_bag_here"] []:=by
 obtain ⟨fd,F⟩:=o.sd.def_ 24 rfl;obtain ⟨yg,yc,ya,yb⟩:=ZX (P:=P) (w:=w) o tb;have sc : FnScope ["_law_bag_here"] ["_law_bag_here"] (defScope (top 45)):=by trivial
 refine ⟨fd,fn_d F sc rfl fun cdv A outer s H E hr hgd => ?_,F.kp,F.bindsN (by trivial)⟩;have hu:=hr.units;have hu2:=Zt hr;exact (Z8 (Zg (ZR (Zf (Z3m (Z1 Z2u (Z1 Z2u Z4))) (Zv (pcl yc (o.glo 38) ya yb (ZB 0 (Z6 Z2 Z7))))))))
theorem Z3r : ∃ fd,FnG P w K mg base 3 (He.fAd K ("_law_kept_parts",none)) fd ["_law_bag_here", "_law_events", "_law_witnesses", "_law_parts_here"] (spD K 4 [0] ZZr) ∧ PySem.W.keepIn K (.ref (He.fAd K ("_law_kept_parts",none))) = true ∧ Binds K fd ["_law_bag_here", "_law_events", "_law_witnesses", "_law_parts_here"] []:=by
 obtain ⟨fd,F⟩:=o.sd.def_ 25 rfl;obtain ⟨ybH,yE,yx,yy⟩:=Z3Z (P:=P) (w:=w) o tb;obtain ⟨ybS,yu,yn,yo⟩:=Z4u (P:=P) (w:=w) o tb;obtain ⟨yg,yc,ya,yb⟩:=ZX (P:=P) (w:=w) o tb;have sc : FnScope ["_law_bag_here", "_law_events", "_law_witnesses", "_law_parts_here", "_law_kinds", "_law_times", "_law_w", "_law_e", "_law_part", "_law_item"] ["_law_bag_here", "_law_events", "_law_witnesses", "_law_parts_here"] (defScope (top 51)):=by trivial
 refine ⟨fd,fn_d F sc rfl fun cdv A outer s H E hr hgd => ?_,F.kp,F.bindsN (by trivial)⟩;have hu:=hr.units;have hu2:=Zt hr;exact (Z5 (Z73 (Zz (Z1 (Zv (Z8n (own:=[("_law_w",6)]) rfl sc.nd (Zm rfl (o.free 0) (Z1 (Z0 2) Z4)) (blkOk_by (N:=["_law_bag_here", "_law_events", "_law_witnesses", "_law_parts_here", "_law_kinds", "_law_times", "_law_w", "_law_e", "_law_part", "_law_item"]) (sc:=defScope (top 51)) (by decide +kernel)) (by decide) (fun _ => (Zj sc.nd rfl (by trivial) rfl (by decide))) (fun _ => Z2J) (fun _ => (Zv (Z4j yu (hr.mono (by decide)) hgd rfl (o.glo 40) yn yo .nil (fun _ => .nil) takes0 (ZB 0 Z7)))))) (Z1 (Zv (Z8n (own:=[("_law_e",7)]) rfl sc.nd (Zm rfl (o.free 0) (Z1 (Z0 1) Z4)) (blkOk_by (N:=["_law_bag_here", "_law_events", "_law_witnesses", "_law_parts_here", "_law_kinds", "_law_times", "_law_w", "_law_e", "_law_part", "_law_item"]) (sc:=defScope (top 51)) (by decide +kernel)) (by decide) (fun _ => (Zj sc.nd rfl (by trivial) rfl (by decide))) (fun _ => Z2J) (fun _ => (ZI op_sub Z1T (Zv (Z4j yc (hr.mono (by decide)) hgd rfl (o.glo 38) ya yb .nil (fun _ => .nil) takes0 (ZB 0 (Z6 Z2 Z7)))) Z2)))) Z4))) (Z1N rfl (Z9 (Za sc.nd rfl (by trivial) rfl) (Z9 (Za sc.nd rfl (by trivial) rfl) Z10)))) (Z8 (Zg (Zgr (tO:=.l .sh) (own:=[("_law_part",8)]) rfl sc.nd (Zm rfl (o.free 0) (Z1 Z2 Z4)) (blkOk_by (N:=["_law_bag_here", "_law_events", "_law_witnesses", "_law_parts_here", "_law_kinds", "_law_times", "_law_w", "_law_e", "_law_part", "_law_item"]) (sc:=defScope (top 51)) (by decide +kernel)) (by decide) (fun _ => (Zj sc.nd rfl (by trivial) rfl (by decide))) (fun _ => Z2J) (fun _ => (Z8n (own:=[("_law_item",9)]) rfl sc.nd (Z1u (Zf (Z0 3) (Z0 8))) (blkOk_by (by first | rfl | decide +kernel)) (by decide) (fun _ => (Zj sc.nd rfl (by trivial) rfl (by decide))) (fun _ => (Z3h (Z1l (Zv (Z4j yE (hr.mono (by decide)) hgd rfl (o.glo 41) yx yy .nil (fun _ => .nil) takes0 (Z6 (Z0 8) (Z6 (Z0 9) (Z6 (Z0 4) (Z6 (Z0 5) Z7))))))))) (fun _ => (Z0 9))))))))
theorem Z5l : ∃ fd,FnG P w K mg base 2 (He.fAd K ("_law_number",none)) fd ["_law_bag_here"] (spD K 1 [0] Zu) ∧ PySem.W.keepIn K (.ref (He.fAd K ("_law_number",none))) = true ∧ Binds K fd ["_law_bag_here"] []:=by
 obtain ⟨fd,F⟩:=o.sd.def_ 26 rfl;obtain ⟨yg,yc,ya,yb⟩:=ZX (P:=P) (w:=w) o tb;have sc : FnScope ["_law_bag_here", "_law_mode", "_law_small"] ["_law_bag_here"] (defScope (top 44)):=by trivial
 refine ⟨fd,fn_d F sc rfl fun cdv A outer s H E hr hgd => ?_,F.kp,F.bindsN (by trivial)⟩;have hu:=hr.units;have hu2:=Zt hr;exact (Z5 (Z75 rfl sc.nd rfl rfl (by decide) rfl rfl rfl rfl (Z1 (Zv (pcl yc (o.glo 38) ya yb (ZB 0 (Z6 Z2 Z7)))) (Z1 (ZI op_sub Z1T (Zv (pcl yc (o.glo 38) ya yb (ZB 0 (Z6 Z2 Z7)))) Z2) Z4)) rfl) (Z5 (Z2c (Ze op_lt (Zl _) (Z0 1) Z2 rfl) (Z8 (Zg (ZR (Z0 2)))) ZA) (Z8 (Zg (Zcs (Ze (ZY hu) ZZ (Z0 1) Z2 rfl) (ZR (ZI Zh Zi Z2 (Z0 2))) (ZR (ZI op_sub Z1T (Z0 2) Z2)))))))
theorem Z5N : ∃ fd,FnG P w K mg base 3 (He.fAd K ("_law_parts",none)) fd ["_law_bag_here", "_law_events", "_law_witnesses", "_law_most"] (spD K 4 [0] ZF) ∧ PySem.W.keepIn K (.ref (He.fAd K ("_law_parts",none))) = true ∧ Binds K fd ["_law_bag_here", "_law_events", "_law_witnesses", "_law_most"] []:=by
 obtain ⟨fd,F⟩:=o.sd.def_ 27 rfl;obtain ⟨ybS,yu,yn,yo⟩:=Z4u (P:=P) (w:=w) o tb;obtain ⟨ycE,yP,yK,yL⟩:=Z5l (P:=P) (w:=w) o tb;obtain ⟨yg,yc,ya,yb⟩:=ZX (P:=P) (w:=w) o tb;have sc : FnScope ["_law_bag_here", "_law_events", "_law_witnesses", "_law_most", "_law_parts_here", "_law_k", "_law_a", "_law_pair"] ["_law_bag_here", "_law_events", "_law_witnesses", "_law_most"] (defScope (top 46)):=by trivial
 refine ⟨fd,fn_d F sc rfl fun cdv A outer s H E hr hgd => ?_,F.kp,F.bindsN (by trivial)⟩;have hu:=hr.units;have hu2:=Zt hr;exact (Z5 (Z12 sc.nd rfl (by trivial) rfl (ZcZ (t:=.l .sh) (Z4I (Z4a Z4) (Z4I (Z4a Z4) (Z4I (Z4a Z4) (Z4I (Z4a Z4) ZcY)))))) (Z5 (Z13 (passes_of rfl) rfl (Zm rfl (o.free 0) (Z1 (ZI Z1U Z22 (Zv (pcl yc (o.glo 38) ya yb (ZB 0 (Z6 (ZI Zh Zi (Z0 3) Z2) Z7)))) (Zp call_int1 Z2H rfl (o.free 9) rfl (Z1 (Z1z op_gt (Zl _) (ZI Z1U Z22 (Z0 1) (Z0 2)) Z2 rfl) Z4))) Z4)) (Za sc.nd rfl (by trivial) rfl) (Z8 (Z2G (Z61 4 rfl PySem.F.slot_list_append PySem.F.type_list_append mt_append Z3H rfl Z2 (Z1 (Zz (Z1 (Zv (pcl yc (o.glo 38) ya yb (ZB 0 (Z6 (Z0 2) Z7)))) (Z1 (Zv (pcl yc (o.glo 38) ya yb (ZB 0 (Z6 (Z0 1) Z7)))) (Z1 (Zv (pcl yP (o.glo 42) yK yL (ZB 0 Z7))) Z4)))) Z4))))) (Z5 (Z13 (passes_of rfl) rfl (Zm rfl (o.free 0) (Z1 (ZI Z1U Z22 (Zv (pcl yc (o.glo 38) ya yb (ZB 0 (Z6 (ZI Zh Zi (ZI op_fdivW Z6X (Z0 3) Z2) Z2) Z7)))) (Zp call_int1 Z2H rfl (o.free 9) rfl (Z1 (Z1z op_gt (Zl _) (Z0 1) Z2 rfl) Z4))) Z4)) (Za sc.nd rfl (by trivial) rfl) (Z5 (Z12 sc.nd rfl (by trivial) rfl (ZR (Zv (pcl yc (o.glo 38) ya yb (ZB 0 (Z6 (Z0 1) Z7)))))) (Z8 (Z2G (Z61 4 rfl PySem.F.slot_list_append PySem.F.type_list_append mt_append Z3H rfl Z2 (Z1 (Zz (Z1 (Z0 6) (Z1 (ZI op_mod Z3g (Zp call_int1 Z2H rfl (o.free 9) rfl (Z1 (ZI Zh Zi (ZI Zh Zi (Z0 6) Z2) (Zv (pcl yc (o.glo 38) ya yb (ZB 0 (Z6 (ZI op_sub Z1T (Z0 1) Z2) Z7))))) Z4)) (Z0 1)) (Z1 (ZI op_sub Z1T (Zv (pcl yc (o.glo 38) ya yb (ZB 0 (Z6 Z2 Z7)))) Z2) Z4)))) Z4)))))) (Z5 (Z13 (passes_of rfl) rfl (Zm rfl (o.free 0) (Z1 (ZI Z1U Z22 (Zv (pcl yc (o.glo 38) ya yb (ZB 0 (Z6 Z2 Z7)))) (Zp call_int1 Z2H rfl (o.free 9) rfl (Z1 (Z1z op_gt (Zl _) (Z0 1) Z2 rfl) Z4))) Z4)) (Za sc.nd rfl (by trivial) rfl) (Z8 (Z2G (Z61 4 rfl PySem.F.slot_list_append PySem.F.type_list_append mt_append Z3H rfl Z2 (Z1 (Zz (Z1 (Zv (pcl yc (o.glo 38) ya yb (ZB 0 (Z6 (Z0 1) Z7)))) (Z1 (Zf (Z3m (Z1 Z2u (Z1 Z2u Z4))) (Zv (pcl yc (o.glo 38) ya yb (ZB 0 (Z6 Z2 Z7))))) (Z1 (Zv (pcl yP (o.glo 42) yK yL (ZB 0 Z7))) Z4)))) Z4))))) (Z5 (Z13 (passes_of rfl) rfl (Zm rfl (o.free 0) (Z1 (ZI Z1U Z22 (Zv (pcl yc (o.glo 38) ya yb (ZB 0 (Z6 Z2 Z7)))) (Zp call_int1 Z2H rfl (o.free 9) rfl (Z1 (Z1z op_gt (Zl _) (Z0 2) Z2 rfl) Z4))) Z4)) (Za sc.nd rfl (by trivial) rfl) (Z5 (Z12 sc.nd rfl (by trivial) rfl (ZR (Zz (Z1 (Zv (pcl yc (o.glo 38) ya yb (ZB 0 (Z6 (Z0 2) Z7)))) (Z1 (Zv (pcl yu (o.glo 40) yn yo (ZB 0 Z7))) (Z1 (Zv (pcl yc (o.glo 38) ya yb (ZB 0 (Z6 (Z0 2) Z7)))) (Z1 (Zv (pcl yu (o.glo 40) yn yo (ZB 0 Z7))) Z4))))))) (Z8 (Z2G (Z61 4 rfl PySem.F.slot_list_append PySem.F.type_list_append mt_append Z3H rfl Z2 (Z1 (Z0 7) Z4)))))) (Z8 (Z9w 4 rfl rfl)))))))
theorem Z6I : ∃ fd,FnG P w K mg base 1 (He.fAd K ("_law_sums",none)) fd ["_law_events", "_law_edges"] (spD K 2 [] Z18) ∧ PySem.W.keepIn K (.ref (He.fAd K ("_law_sums",none))) = true ∧ Binds K fd ["_law_events", "_law_edges"] []:=by
 obtain ⟨fd,F⟩:=o.sd.def_ 28 rfl;have sc : FnScope ["_law_events", "_law_edges", "_law_best", "_law_u", "_law_v", "_law_g", "_law_mid"] ["_law_events", "_law_edges"] (defScope (top 49)):=by trivial
 refine ⟨fd,fn_d F sc rfl fun cdv A outer s H E hr hgd => ?_,F.kp,F.bindsN (by trivial)⟩;have hu:=hr.units;have hu2:=Zt hr;exact (Z5 (Z63 (tO:=.l .sh) (own:=[("_law_u",3)]) rfl sc.nd rfl rfl rfl (sw_true rfl rfl rfl (by decide +kernel)) (Zm rfl (o.free 0) (Z1 (ZI Zh Zi (Z0 0) Z2) Z4)) (blkOk_by (N:=["_law_events", "_law_edges", "_law_best", "_law_u", "_law_v", "_law_g", "_law_mid"]) (sc:=defScope (top 49)) (by decide +kernel)) (by decide) (fun _ => (Zj sc.nd rfl (by trivial) rfl (by decide))) (fun _ => Z2J) (fun _ => (Zda (Z3m (Z1 ZQ Z4)) (ZI Zh Zi (Z0 0) Z2)))) (Z5 (Z13 (passes_of rfl) rfl (Zm rfl (o.free 0) (Z1 (ZI Zh Zi (Z0 0) Z2) Z4)) (Za sc.nd rfl (by trivial) rfl) (Z8 (Z2N 2 rfl rfl Z2 (Z0 3) (Z0 3)))) (Z5 (Z13 (passes_of rfl) rfl (Z1u (Z0 1)) (Z1N rfl (Z9 (Za sc.nd rfl (by trivial) rfl) (Z9 (Za sc.nd rfl (by trivial) rfl) (Z9 (Za sc.nd rfl (by trivial) rfl) Z10)))) (Z8 (Z2c (Z3f (Z24 (Z4b (Ze op_isN Z2j (Zf (Zf (Z0 2) (Z0 3)) (Z0 4)) ZQ rfl) (Z2k (Ze op_lt (Zl _) (Zf (Zf (Z0 2) (Z0 3)) (Z0 4)) (Z0 5) rfl))))) (Z8 (Z2N 2 rfl rfl (Z0 5) (Z0 3) (Z0 4))) ZA))) (Z5 (Z13 (passes_of rfl) rfl (Zm rfl (o.free 0) (Z1 (ZI Zh Zi (Z0 0) Z2) Z4)) (Za sc.nd rfl (by trivial) rfl) (Z8 (Z13 (passes_of rfl) rfl (Zm rfl (o.free 0) (Z1 (ZI Zh Zi (Z0 0) Z2) Z4)) (Za sc.nd rfl (by trivial) rfl) (Z8 (Z13 (passes_of rfl) rfl (Zm rfl (o.free 0) (Z1 (ZI Zh Zi (Z0 0) Z2) Z4)) (Za sc.nd rfl (by trivial) rfl) (Z8 (Z2c (Z3f (Z24 (Z2l (Ze op_notN Z23 (Zf (Zf (Z0 2) (Z0 3)) (Z0 6)) ZQ rfl) (Z2v (Ze op_notN Z23 (Zf (Zf (Z0 2) (Z0 6)) (Z0 4)) ZQ rfl))))) (Z8 (Z2c (Z3f (Z24 (Z4b (Ze op_isN Z2j (Zf (Zf (Z0 2) (Z0 3)) (Z0 4)) ZQ rfl) (Z2k (Ze op_lt (Zl _) (Zf (Zf (Z0 2) (Z0 3)) (Z0 4)) (ZI Zh Zi (Zf (Zf (Z0 2) (Z0 3)) (Z0 6)) (Zf (Zf (Z0 2) (Z0 6)) (Z0 4))) rfl))))) (Z8 (Z2N 2 rfl rfl (Z3D (ZI Zh Zi (Zf (Zf (Z0 2) (Z0 3)) (Z0 6)) (Zf (Zf (Z0 2) (Z0 6)) (Z0 4)))) (Z0 3) (Z0 4))) ZA)) ZA))))))) (Z2n 2 rfl (Z5 (Z13 (passes_of rfl) rfl (Zm rfl (o.free 0) (Z1 (ZI Zh Zi (Z0 0) Z2) Z4)) (Za sc.nd rfl (by trivial) rfl) (Z8 (Z2c (Ze op_gt (Zl _) (Zf (Zf (Z0 2) (Z0 3)) (Z0 3)) Z2 rfl) (Z8 (Zg (ZR ZQ))) ZA))) (Z8 (Zg (ZR (Z0 2))))))))))
theorem Z3s : ∃ fd,FnG P w K mg base 2 (He.fAd K ("_law_two_clocks",none)) fd ["_law_events", "_law_parts_here", "_law_others", "_law_kinds"] (spD K 4 [] ZD) ∧ PySem.W.keepIn K (.ref (He.fAd K ("_law_two_clocks",none))) = true ∧ Binds K fd ["_law_events", "_law_parts_here", "_law_others", "_law_kinds"] []:=by
 obtain ⟨fd,F⟩:=o.sd.def_ 29 rfl;obtain ⟨ybH,yE,yx,yy⟩:=Z3Z (P:=P) (w:=w) o tb;obtain ⟨ycO,yb4,ybT,ybU⟩:=Z6I (P:=P) (w:=w) o tb;have sc : FnScope ["_law_events", "_law_parts_here", "_law_others", "_law_kinds", "_law_edges", "_law_w", "_law_e", "_law_x", "_law_zero", "_law_side", "_law_best", "_law_low", "_law_high", "_law_item"] ["_law_events", "_law_parts_here", "_law_others", "_law_kinds"] (defScope (top 54)):=by trivial
 refine ⟨fd,fn_d F sc rfl fun cdv A outer s H E hr hgd => ?_,F.kp,F.bindsN (by trivial)⟩;have hu:=hr.units;have hu2:=Zt hr;exact (Z5 (Z2c (Ze (ZaI hu) ZaJ (Zv (Z8n (own:=[("_law_item",13)]) rfl sc.nd (Z1u (Zf (Z0 1) Z2)) (blkOk_by (N:=["_law_events", "_law_parts_here", "_law_others", "_law_kinds", "_law_edges", "_law_w", "_law_e", "_law_x", "_law_zero", "_law_side", "_law_best", "_law_low", "_law_high", "_law_item"]) (sc:=defScope (top 54)) (by decide +kernel)) (by decide) (fun _ => (Zj sc.nd rfl (by trivial) rfl (by decide))) (fun _ => (Z3h (Z51 (Z1l (Zv (Z4j yE (hr.mono (by decide)) hgd rfl (o.glo 41) yx yy .nil (fun _ => .nil) takes0 (Z6 Z2 (Z6 (Z0 13) (Z6 (Z0 3) (Z6 (Zz Z4) Z7)))))))))) (fun _ => (Z0 13)))) (Z3m Z4) rfl) (Z8 (Zg (ZR ZQ))) ZA) (Z5 (Z12 sc.nd rfl (by trivial) rfl (ZaW rfl (o.free 1) (Zf (Z0 1) Z2))) (Z5 (Z13 (passes_of rfl) rfl (Z1u (Zf (Z0 1) Z2)) (Z1N rfl (Z9 (Za sc.nd rfl (by trivial) rfl) (Z9 (Za sc.nd rfl (by trivial) rfl) (Z9 (Za sc.nd rfl (by trivial) rfl) Z10)))) (Z5 (Z12 sc.nd rfl (by trivial) rfl (ZR (ZI Zh Zi (Z0 0) (Zp call_int1 Z2H rfl (o.free 9) rfl (Z1 (Z1z (Z71 hu2) Z72 (Z0 5) (Z0 2) rfl) Z4))))) (Z8 (Z2G (Z8x 4 PySem.F.slot_list_append PySem.F.type_list_append mt_append Z3H rfl (Z1 (Zcr (Ze (ZY hu) ZZ (Zf (Z0 3) (Z0 5)) Z2u rfl) (Zz (Z1 (Z0 8) (Z1 (Z0 6) (Z1 (Z0 7) Z4)))) (Zz (Z1 (Z0 6) (Z1 (Z0 8) (Z1 (ZI op_sub Z1T Z2 (Z0 7)) Z4))))) Z4)))))) (Z5 (Z13 (passes_of rfl) rfl (Z1u (Zf (Z0 1) Z2)) (Z1N rfl (Z9 (Za sc.nd rfl (by trivial) rfl) (Z9 (Za sc.nd rfl (by trivial) rfl) (Z9 (Za sc.nd rfl (by trivial) rfl) Z10)))) (Z8 (Z2G (Z8x 4 PySem.F.slot_list_append PySem.F.type_list_append mt_append Z3H rfl (Z1 (Zcr (Ze (ZY hu) ZZ (Z0 9) Z2u rfl) (Zz (Z1 (Z0 0) (Z1 (Z0 6) (Z1 (Z0 7) Z4)))) (Zz (Z1 (Z0 6) (Z1 (Z0 0) (Z1 (ZI op_sub Z1T Z2 (Z0 7)) Z4))))) Z4))))) (Z2n 4 rfl (Z5 (Z12 sc.nd rfl (by trivial) rfl (ZR (Zv (pcl yb4 (o.glo 43) ybT ybU (Z6 (ZI Zh Zi (Z0 0) Z2) (Z6 (Z0 4) Z7)))))) (Z5 (Z2c (Ze op_isN Z2j (Z0 10) ZQ rfl) (Z8 (Zg (ZR ZQ))) ZA) (Z5 (Z75 rfl sc.nd rfl rfl (by decide) rfl rfl rfl rfl (Z1 (Zf (Zf (Z0 10) (ZI Zh Zi (Z0 0) Z2)) (Z0 0)) (Z1 (Zf (Zf (Z0 10) (Z0 0)) (ZI Zh Zi (Z0 0) Z2)) Z4)) rfl) (Z8 (Zg (ZR (Zz (Z1 (Z0 11) (Z1 (Zcr (Ze op_isN Z2j (Z0 12) ZQ rfl) ZQ (ZI op_sub Z1T Z2 (Z0 12))) Z4))))))))))))))
theorem Z5m : ∃ fd,FnOk P w K mg base (L2.CX P w) 1 (He.fAd K ("NoFit",some "__init__")) fd ["self", "reason"] (spX K "NoFit" ["reason"]) ∧ Binds K fd ["self", "reason"] [] ∧ True:=by
 obtain ⟨fd,F⟩:=o.sd.def_ 30 rfl;exact ⟨fd,Zgp F ⟨rfl,rfl,rfl,by decide +kernel,rfl,by decide +kernel,by decide +kernel⟩ (Z2L (o.x 14)) (He.noat_ok (o.sd.fact 44 rfl)) rfl rfl,F.bindsN (by trivial),True.intro⟩
theorem Z4i : ∃ fd,FnG P w K mg base 1 (He.fAd K ("put_together",none)) fd ["one", "other"] (spD K 2 [] Zn) ∧ PySem.W.keepIn K (.ref (He.fAd K ("put_together",none))) = true ∧ Binds K fd ["one", "other"] []:=by
 obtain ⟨fd,F⟩:=o.sd.def_ 31 rfl;have sc : FnScope ["one", "other"] ["one", "other"] (defScope (top 30)):=by trivial
 refine ⟨fd,fn_d F sc rfl fun cdv A outer s H E hr hgd => ?_,F.kp,F.bindsN (by trivial)⟩;have hu:=hr.units;have hu2:=Zt hr;exact (Z5 (Z2c (Z24 (Z4b (Ze op_isN Z2j (Z0 0) ZQ rfl) (Z2k (Ze op_isN Z2j (Z0 1) ZQ rfl)))) (Z8 (Zg (ZR ZQ))) ZA) (Z8 (Zg (ZR (Zz (Z1 (ZI Zh Zi (Zf (Z0 0) Z2) (Zf (Z0 1) Z2)) (Z1 (ZI Zh Zi (Zf (Z0 0) Z2) (Zf (Z0 1) Z2)) Z4)))))))
theorem Z4v : ∃ fd,FnG P w K mg base 2 (He.fAd K ("searched",none)) fd ["book"] (spD K 1 [] Z1C) ∧ PySem.W.keepIn K (.ref (He.fAd K ("searched",none))) = true ∧ Binds K fd ["book"] []:=by
 obtain ⟨fd,F⟩:=o.sd.def_ 32 rfl;obtain ⟨ycv,ybr,ybi,ybj⟩:=Z4i (P:=P) (w:=w) o tb;have sc : FnScope ["book", "every", "best", "index", "a", "b", "g", "mid", "found"] ["book"] (defScope (top 29)):=by trivial
 refine ⟨fd,fn_d F sc rfl fun cdv A outer s H E hr hgd => ?_,F.kp,F.bindsN (by trivial)⟩;have hu:=hr.units;have hu2:=Zt hr;exact (Z5 (Z12 sc.nd rfl (by trivial) rfl (ZR (Zv (Zd6 rfl rfl (o.free 1) rfl (o.free 0) (Z3F ["Book"] (hc1 (Z2K (o.x 13)).cl (He.noat_ok (o.sd.fact 30 rfl))) (Z0 0)))))) (Z5 (Z63 (tO:=.l .sh) (own:=[("a",4)]) rfl sc.nd rfl rfl rfl (sw_true rfl rfl rfl (by decide +kernel)) (Z1u (Z0 1)) (blkOk_by (N:=["book", "every", "best", "index", "a", "b", "g", "mid", "found"]) (sc:=defScope (top 29)) (by decide +kernel)) (by decide) (fun _ => (Zj sc.nd rfl (by trivial) rfl (by decide))) (fun _ => Z2J) (fun _ => (Z8n (own:=[("b",5)]) rfl sc.nd (Z1u (Z0 1)) (blkOk_by (by first | rfl | decide +kernel)) (by decide) (fun _ => (Zj sc.nd rfl (by trivial) rfl (by decide))) (fun _ => Z2J) (fun _ => (Zcr (Ze (ZY hu) ZZ (Z0 4) (Z0 5) rfl) (Zz (Z1 Z2 (Z1 (Zz Z4) Z4))) ZQ))))) (Z5 (Z13 (passes_of rfl) rfl (Z56 rfl (o.free 23) (Z1 (Z3F ["Book"] (hc1 (Z2K (o.x 13)).cl (He.noat_ok (o.sd.fact 33 rfl))) (Z0 0)) Z4)) (Z1N rfl (Z9 (Za sc.nd rfl (by trivial) rfl) (Z9 (Z1N rfl (Z9 (Za sc.nd rfl (by trivial) rfl) (Z9 (Za sc.nd rfl (by trivial) rfl) (Z9 (Za sc.nd rfl (by trivial) rfl) Z10)))) Z10))) (Z8 (Z2c (Z3f (Z24 (Z4b (Ze op_isN Z2j (Zf (Zf (Z0 2) (Z0 4)) (Z0 5)) ZQ rfl) (Z2k (Ze op_lt (Zl _) (Zf (Zf (Zf (Z0 2) (Z0 4)) (Z0 5)) Z2) (Z0 6) rfl))))) (Z8 (Z2N 2 rfl rfl (Zz (Z1 (Z0 6) (Z1 (Zz (Z1 (Z0 3) Z4)) Z4))) (Z0 4) (Z0 5))) ZA))) (Z5 (Z13 (passes_of rfl) rfl (Z1u (Z0 1)) (Za sc.nd rfl (by trivial) rfl) (Z8 (Z13 (passes_of rfl) rfl (Z1u (Z0 1)) (Za sc.nd rfl (by trivial) rfl) (Z8 (Z13 (passes_of rfl) rfl (Z1u (Z0 1)) (Za sc.nd rfl (by trivial) rfl) (Z5 (Z12 sc.nd rfl (by trivial) rfl (ZR (Z3D (Zv (pcl ybr (o.glo 45) ybi ybj (Z6 (Zf (Zf (Z0 2) (Z0 4)) (Z0 7)) (Z6 (Zf (Zf (Z0 2) (Z0 7)) (Z0 5)) Z7))))))) (Z8 (Z2c (Z3f (Z24 (Z2l (Ze op_notN Z23 (Z0 8) ZQ rfl) (Z2v (Z24 (Z4b (Ze op_isN Z2j (Zf (Zf (Z0 2) (Z0 4)) (Z0 5)) ZQ rfl) (Z2k (Ze op_lt (Zl _) (Zf (Zf (Zf (Z0 2) (Z0 4)) (Z0 5)) Z2) (Zf (Z0 8) Z2) rfl)))))))) (Z5 (Z2c (Ze (ZY hu) ZZ (Z0 4) (Z0 5) rfl) (Z2n 2 rfl (Z8 (Zg (ZR (Zz (Z1 (Z0 2) (Z1 (Zf (Z0 8) Z2) Z4))))))) ZA) (Z8 (Z2N 2 rfl rfl (Z0 8) (Z0 4) (Z0 5)))) ZA)))))))) (Z2n 2 rfl (Z8 (Zg (ZR (Zz (Z1 (Z0 2) (Z1 ZQ Z4)))))))))))
theorem Z5O : ∃ fd,FnG P w K mg base 3 (He.fAd K ("best_ways",none)) fd ["book"] (spD K 1 [] Z1k) ∧ PySem.W.keepIn K (.ref (He.fAd K ("best_ways",none))) = true ∧ Binds K fd ["book"] []:=by
 obtain ⟨fd,F⟩:=o.sd.def_ 33 rfl;obtain ⟨ycF,ybI,ybB,ycG⟩:=Z5m (P:=P) (w:=w) o tb;obtain ⟨ybV,yI,yF,yG⟩:=Z4v (P:=P) (w:=w) o tb;have sc : FnScope ["book", "best", "found"] ["book"] (defScope (top 31)):=by trivial
 refine ⟨fd,fn_d F sc rfl fun cdv A outer s H E hr hgd => ?_,F.kp,F.bindsN (by trivial)⟩;have hu:=hr.units;have hu2:=Zt hr;exact (Z5 (Z73 (Zv (pcl yI (o.glo 46) yF yG (Z6 (Z0 0) Z7))) (Z1N rfl (Z9 (Za sc.nd rfl (by trivial) rfl) (Z9 (Za sc.nd rfl (by trivial) rfl) Z10)))) (Z5 (Z2c (Ze op_notN Z23 (Z0 2) ZQ rfl) (Z8 (Z3L rfl (takes_of rfl rfl rfl rfl) (Z2L (o.x 14)) (Z2m (o.x 15)).1 (Z2m (o.x 15)).2 ybI (hr.mono (by decide)) ybB rfl (o.glo 47) (Z1 (Zz (Z1 Z2u (Z1 (Z0 2) Z4))) Z4))) ZA) (Z8 (Zg (ZR (Z0 1))))))
theorem Z40 : ∃ fd,FnG P w K mg base 1 (He.fAd K ("keeps_clauses",none)) fd ["book", "kinds"] (spD K 2 [] Z17) ∧ PySem.W.keepIn K (.ref (He.fAd K ("keeps_clauses",none))) = true ∧ Binds K fd ["book", "kinds"] []:=by
 obtain ⟨fd,F⟩:=o.sd.def_ 34 rfl;have sc : FnScope ["book", "kinds", "w", "kind", "v", "other"] ["book", "kinds"] (defScope (top 34)):=by trivial
 refine ⟨fd,fn_d F sc rfl fun cdv A outer s H E hr hgd => ?_,F.kp,F.bindsN (by trivial)⟩;have hu:=hr.units;have hu2:=Zt hr;exact (Z8 (Zg (ZR (ZG (cr_all rfl) ZcF rfl (o.free 25) rfl (Z1 (Zv (Z8n (own:=[("w",2),("kind",3),("v",4),("other",5)]) rfl sc.nd (Z1u (Z3F ["Book"] (hc1 (Z2K (o.x 13)).cl (He.noat_ok (o.sd.fact 35 rfl))) (Z0 0))) (blkOk_by (N:=["book", "kinds", "w", "kind", "v", "other"]) (sc:=defScope (top 34)) (by decide +kernel)) (by decide) (fun _ => (Z6B rfl (Zs (Zj sc.nd rfl (by trivial) rfl (by decide)) (Zs (Zj sc.nd rfl (by trivial) rfl (by decide)) (Zs (Zj sc.nd rfl (by trivial) rfl (by decide)) (Zs (Zj sc.nd rfl (by trivial) rfl (by decide)) Z4l)))))) (fun _ => Z2J) (fun _ => (ZhF (Z1z (ZY hu) ZZ (Zf (Z0 1) (Z0 2)) (Z0 3) rfl) (Z4c (Z1z (ZY hu) ZZ (Zf (Z0 1) (Z0 4)) (Z0 5) rfl)))))) Z4)))))
theorem Zel : ∃ fd,FnG P w K mg base 3 (He.fAd K ("ring",none)) fd ["book"] (spD K 1 [] Z6F) ∧ PySem.W.keepIn K (.ref (He.fAd K ("ring",none))) = true ∧ Binds K fd ["book"] []:=by
 obtain ⟨fd,F⟩:=o.sd.def_ 35 rfl;obtain ⟨ybV,yI,yF,yG⟩:=Z4v (P:=P) (w:=w) o tb;have sc : FnScope ["book"] ["book"] (defScope (top 32)):=by trivial
 refine ⟨fd,fn_d F sc rfl fun cdv A outer s H E hr hgd => ?_,F.kp,F.bindsN (by trivial)⟩;have hu:=hr.units;have hu2:=Zt hr;exact (Z8 (Zg (ZR (Zf (Zv (pcl yI (o.glo 46) yF yG (Z6 (Z0 0) Z7))) Z2))))
end
theorem Z41 {K : KF} {mg : Str → Option Value} (o : Md3 fa fn ex K mg) : ∃ fd,FunD K "strongest" "strongest" (defArgs (top 35)) (defBody (top 35)) (defScope (top 35)) [] [] (He.fAd K ("strongest",none)) fd ∧ PySem.W.keepIn K (.ref (He.fAd K ("strongest",none))) = true ∧ Binds K fd ["items", "best"] []:=by
 obtain ⟨fd,F⟩:=o.sd.def_ 36 rfl;exact ⟨fd,F,F.kp,F.bindsN (by trivial)⟩
section
variable {P : Program} {w : World} {base : Heap} {K : KF} {mg : Str → Option Value} (o : Md3 fa fn ex K mg) (tb : TbOk K mg base tfs)
include o tb
theorem Z4Q : ∃ fd,FnG P w K mg base 5 (He.fAd K ("ceilings_of",none)) fd ["book", "others", "kinds"] (spD K 3 [] Z1s) ∧ PySem.W.keepIn K (.ref (He.fAd K ("ceilings_of",none))) = true ∧ Binds K fd ["book", "others", "kinds"] []:=by
 obtain ⟨fd,F⟩:=o.sd.def_ 37 rfl;obtain ⟨ybJ,yH,yz,yA⟩:=Z41 (K:=K) (mg:=mg) o;have sc : FnScope ["book", "others", "kinds", "items", "e", "side", "x", "w"] ["book", "others", "kinds"] (defScope (top 37)):=by trivial
 refine ⟨fd,Zgi F sc rfl fun cdv hcv A outer s H E hr hgd => ?_,F.kp,F.bindsN (by trivial)⟩;have hu:=hr.units;have hu2:=Zt hr;exact (Z5 (Z4H (own:=[("e",4),("side",5),("x",6)]) rfl sc.nd rfl rfl rfl (sw_true rfl rfl rfl (by decide +kernel)) (Z1u (Z3F ["Book"] (hc1 (Z2K (o.x 13)).cl (He.noat_ok (o.sd.fact 34 rfl))) (Z0 0))) (blkOk_by (N:=["book", "others", "kinds", "items", "e", "side", "x", "w"]) (sc:=defScope (top 37)) (by decide +kernel)) (by decide) (fun _ => (Z6B rfl (Zs (Zj sc.nd rfl (by trivial) rfl (by decide)) (Zs (Zj sc.nd rfl (by trivial) rfl (by decide)) (Zs (Zj sc.nd rfl (by trivial) rfl (by decide)) Z4l))))) (fun _ => (Z3h (Ze (ZY hu) ZZ (Z0 5) Z2u rfl))) (fun _ => (Zz (Z1 (Z0 4) (Z1 ZfO (Z1 (Z0 6) Z4)))))) (Z2n 3 rfl (Z5 (Z12 sc.nd rfl (by trivial) rfl (ZR (ZI Zh Zi (Z0 3) (Zv (Z8n (own:=[("w",7),("e",4),("x",6)]) rfl sc.nd (Z1u (Z3F ["Book"] (hc1 (Z2K (o.x 13)).cl (He.noat_ok (o.sd.fact 32 rfl))) (Z0 0))) (blkOk_by (N:=["book", "others", "kinds", "items", "e", "side", "x", "w"]) (sc:=defScope (top 37)) (by decide +kernel)) (by decide) (fun _ => (Z6B rfl (Zs (Zj sc.nd rfl (by trivial) rfl (by decide)) (Zs (Zj sc.nd rfl (by trivial) rfl (by decide)) (Zs (Zj sc.nd rfl (by trivial) rfl (by decide)) Z4l))))) (fun _ => (Z3h (Ze (ZY hu) ZZ (Zf (Z0 2) (Z0 7)) Z2u rfl))) (fun _ => (Zz (Z1 (Z0 4) (Z1 (Z1z (Z71 hu2) Z72 (Z0 7) (Z0 1) rfl) (Z1 (Z0 6) Z4)))))))))) (Z8 (Zg (ZR (Z6a (N2:=["one", "other"]) (one := "one") (other := "other") (k:=0) (by rfl) (o.glo 49) yz yH yA rfl (tb.at 0 (p:=(("ceilings_of",none), "ceilings_of.<locals>.<lambda>"))).1 (Z9G hcv) (tb.at 0 (p:=(("ceilings_of",none), "ceilings_of.<locals>.<lambda>"))).2 (hr.mono (by decide)) hgd ⟨rfl,rfl,rfl,by decide +kernel,rfl,by decide +kernel,by decide +kernel⟩ rfl (fun _ _ _ _ _ _ _ => rfl) (Z0 3) (fun f c' A outer s H E hr hgd => have hu:=hr.units;have hu2:=Zt hr;(ZG (call_min2 rfl) ZcJ rfl (o.free 48) rfl (Z1 (Z0 0) (Z1 (Z0 1) Z4)))))))))))
theorem Z5P : ∃ fd,FnG P w K mg base 5 (He.fAd K ("floors_of",none)) fd ["book", "others", "kinds"] (spD K 3 [] Z2g) ∧ PySem.W.keepIn K (.ref (He.fAd K ("floors_of",none))) = true ∧ Binds K fd ["book", "others", "kinds"] []:=by
 obtain ⟨fd,F⟩:=o.sd.def_ 38 rfl;obtain ⟨ybJ,yH,yz,yA⟩:=Z41 (K:=K) (mg:=mg) o;have sc : FnScope ["book", "others", "kinds", "items", "e", "side", "x", "w"] ["book", "others", "kinds"] (defScope (top 36)):=by trivial
 refine ⟨fd,Zgi F sc rfl fun cdv hcv A outer s H E hr hgd => ?_,F.kp,F.bindsN (by trivial)⟩;have hu:=hr.units;have hu2:=Zt hr;exact (Z5 (Z4H (own:=[("e",4),("side",5),("x",6)]) rfl sc.nd rfl rfl rfl (sw_true rfl rfl rfl (by decide +kernel)) (Z1u (Z3F ["Book"] (hc1 (Z2K (o.x 13)).cl (He.noat_ok (o.sd.fact 34 rfl))) (Z0 0))) (blkOk_by (N:=["book", "others", "kinds", "items", "e", "side", "x", "w"]) (sc:=defScope (top 36)) (by decide +kernel)) (by decide) (fun _ => (Z6B rfl (Zs (Zj sc.nd rfl (by trivial) rfl (by decide)) (Zs (Zj sc.nd rfl (by trivial) rfl (by decide)) (Zs (Zj sc.nd rfl (by trivial) rfl (by decide)) Z4l))))) (fun _ => (Z3h (Ze (ZY hu) ZZ (Z0 5) Z2u rfl))) (fun _ => (Zz (Z1 (Z0 4) (Z1 ZfO (Z1 (Z0 6) Z4)))))) (Z2n 3 rfl (Z5 (Z12 sc.nd rfl (by trivial) rfl (ZR (ZI Zh Zi (Z0 3) (Zv (Z8n (own:=[("w",7),("e",4),("x",6)]) rfl sc.nd (Z1u (Z3F ["Book"] (hc1 (Z2K (o.x 13)).cl (He.noat_ok (o.sd.fact 32 rfl))) (Z0 0))) (blkOk_by (N:=["book", "others", "kinds", "items", "e", "side", "x", "w"]) (sc:=defScope (top 36)) (by decide +kernel)) (by decide) (fun _ => (Z6B rfl (Zs (Zj sc.nd rfl (by trivial) rfl (by decide)) (Zs (Zj sc.nd rfl (by trivial) rfl (by decide)) (Zs (Zj sc.nd rfl (by trivial) rfl (by decide)) Z4l))))) (fun _ => (Z3h (Ze (ZY hu) ZZ (Zf (Z0 2) (Z0 7)) Z2u rfl))) (fun _ => (Zz (Z1 (Z0 4) (Z1 (Z1z (Z71 hu2) Z72 (Z0 7) (Z0 1) rfl) (Z1 (Z0 6) Z4)))))))))) (Z8 (Zg (ZR (Z6a (N2:=["one", "other"]) (one := "one") (other := "other") (k:=0) (by rfl) (o.glo 49) yz yH yA rfl (tb.at 1 (p:=(("floors_of",none), "floors_of.<locals>.<lambda>"))).1 (Z9G hcv) (tb.at 1 (p:=(("floors_of",none), "floors_of.<locals>.<lambda>"))).2 (hr.mono (by decide)) hgd ⟨rfl,rfl,rfl,by decide +kernel,rfl,by decide +kernel,by decide +kernel⟩ rfl (fun _ _ _ _ _ _ _ => rfl) (Z0 3) (fun f c' A outer s H E hr hgd => have hu:=hr.units;have hu2:=Zt hr;(ZG (call_max2 rfl) ZcI rfl (o.free 50) rfl (Z1 (Z0 0) (Z1 (Z0 1) Z4)))))))))))
theorem Z5n : ∃ fd,FnG P w K mg base 6 (He.fAd K ("stretch_by",none)) fd ["book", "others", "kinds", "best"] (spD K 4 [] Z1R) ∧ PySem.W.keepIn K (.ref (He.fAd K ("stretch_by",none))) = true ∧ Binds K fd ["book", "others", "kinds", "best"] []:=by
 obtain ⟨fd,F⟩:=o.sd.def_ 39 rfl;obtain ⟨ycx,ybC,ybs,ybt⟩:=Z4Q (P:=P) (w:=w) o tb;obtain ⟨ycK,ybW,ybK,ybL⟩:=Z5P (P:=P) (w:=w) o tb;have sc : FnScope ["book", "others", "kinds", "best", "floors", "ceilings", "low", "high", "a", "moved", "x", "b", "late", "y", "room"] ["book", "others", "kinds", "best"] (defScope (top 38)):=by trivial
 refine ⟨fd,fn_d F sc rfl fun cdv A outer s H E hr hgd => ?_,F.kp,F.bindsN (by trivial)⟩;have hu:=hr.units;have hu2:=Zt hr;exact (Z5 (Z75 rfl sc.nd rfl rfl (by decide) rfl rfl rfl rfl (Z1 (Zv (pcl ybW (o.glo 52) ybK ybL (Z6 (Z0 0) (Z6 (Z0 1) (Z6 (Z0 2) Z7))))) (Z1 (Zv (pcl ybC (o.glo 51) ybs ybt (Z6 (Z0 0) (Z6 (Z0 1) (Z6 (Z0 2) Z7))))) Z4)) rfl) (Z5 (Z73 (Zz (Z1 ZQ (Z1 ZQ Z4))) (Z1N rfl (Z9 (Za sc.nd rfl (by trivial) rfl) (Z9 (Za sc.nd rfl (by trivial) rfl) Z10)))) (Z5 (Z13 (passes_of rfl) rfl (Z9J (Z0 4)) (Z1N rfl (Z9 (Z1N rfl (Z9 (Za sc.nd rfl (by trivial) rfl) (Z9 (Za sc.nd rfl (by trivial) rfl) Z10))) (Z9 (Za sc.nd rfl (by trivial) rfl) Z10))) (Z8 (Z13 (passes_of rfl) rfl (Z9J (Z0 5)) (Z1N rfl (Z9 (Z1N rfl (Z9 (Za sc.nd rfl (by trivial) rfl) (Z9 (Za sc.nd rfl (by trivial) rfl) Z10))) (Z9 (Za sc.nd rfl (by trivial) rfl) Z10))) (Z8 (Z2c (Ze op_notN Z23 (Zf (Zf (Z0 3) (Z0 8)) (Z0 11)) ZQ rfl) (Z5 (Z12 sc.nd rfl (by trivial) rfl (ZR (ZI op_sub Z1T (ZI op_sub Z1T (Z0 13) (Z0 10)) (Zf (Zf (Zf (Z0 3) (Z0 8)) (Z0 11)) Z2)))) (Z5 (Z2c (Z24 (Z2l (Ze (ZY hu) ZZ (Z0 9) (Z0 12) rfl) (Z2v (Ze op_lt (Zl _) (Z0 14) Z2 rfl)))) (Z8 (Zg (ZR ZQ))) ZA) (Z5 (Z2c (Z24 (Z2l (Z1l (Z0 9)) (Z2l (Z51 (Z1l (Z0 12))) (Z2v (Z24 (Z4b (Ze op_isN Z2j (Z0 6) ZQ rfl) (Z2k (Ze op_gt (Zl _) (Zg9 un_neg Z6Y (Z0 14)) (Z0 6) rfl)))))))) (Z8 (Z12 sc.nd rfl (by trivial) rfl (ZR (Zg9 un_neg Z6Y (Z0 14))))) ZA) (Z8 (Z2c (Z24 (Z2l (Z1l (Z0 12)) (Z2l (Z51 (Z1l (Z0 9))) (Z2v (Z24 (Z4b (Ze op_isN Z2j (Z0 7) ZQ rfl) (Z2k (Ze op_lt (Zl _) (Z0 14) (Z0 7) rfl)))))))) (Z8 (Z12 sc.nd rfl (by trivial) rfl (ZR (Z0 14)))) ZA))))) ZA))))) (Z8 (Zg (Zcs (Z24 (Z2l (Ze op_notN Z23 (Z0 6) ZQ rfl) (Z2l (Ze op_notN Z23 (Z0 7) ZQ rfl) (Z2v (Ze op_gt (Zl _) (Z0 6) (Z0 7) rfl))))) (ZR ZQ) (ZR (Zz (Z1 (Z0 6) (Z1 (Z0 7) Z4))))))))))
theorem Z42 : ∃ fd,FnG P w K mg base 7 (He.fAd K ("shift_stretch",none)) fd ["book", "others", "kinds"] (spD K 3 [] ZM) ∧ PySem.W.keepIn K (.ref (He.fAd K ("shift_stretch",none))) = true ∧ Binds K fd ["book", "others", "kinds"] []:=by
 obtain ⟨fd,F⟩:=o.sd.def_ 40 rfl;obtain ⟨ycL,ybX,ybM,ybN⟩:=Z5O (P:=P) (w:=w) o tb;obtain ⟨ycn,ybk,yZ,y6⟩:=Z40 (P:=P) (w:=w) o tb;obtain ⟨yc0,ycM,ycy,ycz⟩:=Zel (P:=P) (w:=w) o tb;obtain ⟨ycH,ybO,ybD,ybE⟩:=Z5n (P:=P) (w:=w) o tb;have sc : FnScope ["book", "others", "kinds"] ["book", "others", "kinds"] (defScope (top 39)):=by trivial
 refine ⟨fd,fn_d F sc rfl fun cdv A outer s H E hr hgd => ?_,F.kp,F.bindsN (by trivial)⟩;have hu:=hr.units;have hu2:=Zt hr;exact (Z5 (Z2c (Z24 (Z4b (Ze op_notN Z23 (Zv (pcl ycM (o.glo 54) ycy ycz (Z6 (Z0 0) Z7))) ZQ rfl) (Z2k (Z51 (Z1l (Zv (pcl ybk (o.glo 53) yZ y6 (Z6 (Z0 0) (Z6 (Z0 2) Z7))))))))) (Z8 (Zg (ZR ZQ))) ZA) (Z8 (Zg (pcl ybO (o.glo 56) ybD ybE (Z6 (Z0 0) (Z6 (Z0 1) (Z6 (Z0 2) (Z6 (Zv (pcl ybX (o.glo 55) ybM ybN (Z6 (Z0 0) Z7))) Z7))))))))
end
def Zbl : G:=(Jf (J4 (cmB eqD (rd 2) (Zr (.int 3))) (cmB eqD (shM (Jc Z3 [some 1,none] [] (ioM 1 (Ja (Zr (.int 4)) (Zr []))))) (Zr (.int 0)))) fun k => if k = true then (asgS (tgT 2 (tgC (Jd 3) (tgC (Jd 4) tgN))) (shM (Jc Z1h [some 1,none] [] (ioM 1 (Ja (Jv (Ja (Jg (Ja (Zr (.int 8)) (Ja (Zr (.int 2)) (Zr [])))) (Ja (Jg (Ja (Zr (.int 1)) (Ja (Zr (.int 6)) (Zr [])))) (Zr [])))) (Zr [])))))) else done)
def Z8W : G:=(Jf (cmB gtD (shM (Jc Z3 [some 1,none] [] (ioM 1 (Ja (Zr (.int 3)) (Zr []))))) (Zr (.int 0))) fun k => if k = true then (frzS 5 (Zb (Jh 5 (Jc ZZr [some 1,none,none,none] [] (ioM 1 (Ja (rd 3) (Ja (rd 4) (Ja (rd 5) (Zr []))))))) (Z6D 5 done))) else done)
def Zbm : M Ent:=(Z31 (rg1 (Ja (rd 4) (Zr []))) (Jd 14) (cmB ninD (rd 14) (rd 7)) (rd 14) [14])
def Z6J : G:=(Zb (Z74 11 12 (Ja (shM (Jc ZD [none,none,none,none] [] (Ja (rd 3) (Ja (rd 5) (Ja (rd 10) (Ja (rd 9) (Zr []))))))) (Ja (cbM ZcK (Ja (rd 10) (Zr []))) (Zr [])))) (Zb (Jh 13 (sh1 (Jg (Ja (shM (Jc ZM [none,none,none] [] (Ja (rd 6) (Ja (rd 10) (Ja (rd 9) (Zr [])))))) (Ja (shM (Jc ZM [none,none,none] [] (Ja (rd 6) (Ja (cbM Z2h (Ja (rd 10) (Zr []))) (Ja (rd 9) (Zr [])))))) (Zr [])))))) (Jf (orM (cmB neD (cbM Z9q (Ja (rd 13) (Zr []))) (cbM Z9q (Ja (Jg (Ja (rd 11) (Ja (rd 11) (Zr [])))) (Zr [])))) (cmB neD (rd 10) (rd 12))) fun k => if k = true then (Je (sh1 (Zr (.bl false)))) else done)))
def Z8X : G:=(Jw (Jn (Jg (Ja (rd 7) (Ja (rd 8) (Ja (rd 7) (Zr [])))))) (Jd 10) Z6J)
abbrev Zbn : G:=Z8X
def Z8Y : G:=(Jw (Jn (shM (Jc ZL [none] [] (Ja (rd 4) (Zr []))))) (Jd 9) Zbn)
def Z8Z : G:=(Zb (Z74 3 4 (Ja (shM (Jc Z1h [some 1,none] [] (ioM 1 (Ja (Jv (Ja (Zr (.int 2)) (Ja (Zr (.int 3)) (Ja (Zr (.int 1)) (Ja (Zr (.int 4)) (Ja (Zr (.int 0)) (Zr []))))))) (Zr []))))) (Ja (shM (Jc Z1h [some 1,none] [] (ioM 1 (Ja (Jv (Ja (Zr (.int 2)) (Ja (Zr (.int 3)) (Ja (Zr (.int 1)) (Ja (Zr (.int 4)) (Ja (Zr (.int 0)) (Zr []))))))) (Zr []))))) (Zr [])))) (Zb Zbl (Zb (Jh 5 (Jc ZF [some 1,none,none,none] [] (ioM 1 (Ja (rd 3) (Ja (rd 4) (Ja (Zr (.int 9)) (Zr []))))))) (Z6D 5 (Zb Z8W (Zb (Z2i 5 (shM (Jc m_law_far_gaps [some 1,none] [] (ioM 1 (Ja (ixoM 5 (Zr (.int 1))) (Zr []))))) (Zr (.int 1))) (frzS 5 (Zb (asgS (tgT 2 (tgC (Jd 6) (tgC (Jd 7) tgN))) (Jg (Ja (shM (Jc m_law_book [none,none,none] [] (Ja (rd 3) (Ja (rd 4) (Ja (rd 5) (Zr [])))))) (Ja (shM (Jc Z2S [some 1,none] [] (ioM 1 (Ja (rd 4) (Zr []))))) (Zr []))))) (Zb (Jh 8 Zbm) (frzS 8 Z8Y))))))))))
def Zem : G:=(Jw (rg1 (Ja (Zr (.int 4)) (Zr []))) (Jd 2) Z8Z)
def ZfS : G:=(Zb (Jh 1 (Jc Z3x [none] [] (Ja (rd 0) (Zr [])))) (Zb Zem (Je (sh1 (Zr (.bl true))))))
def ZgN : Fm:=Jj 15 ZfS

theorem ZgO {P : Program} {w : World} {K : KF} {mg : Str → Option Value} (o : Md3 fa fn ex K mg) : ∃ fd,(∀ base : Heap,TbOk K mg base tfs → FnG P w K mg base 9 (He.fAd K ("law",none)) fd ["_law_script"] (spD K 1 [] ZgN)) ∧ ∀ (s : Shared) (u : Value),BindsTo s fd ⟨[u],[]⟩ [("_law_script",u)]:=by
 obtain ⟨fd,F⟩:=o.sd.def_ 41 rfl;refine ⟨fd,fun base tb => ?_,fun s u => F.bindsA (ps:=["_law_script"]) (fun _ _ _ _ _ _ us hl => match us,hl with | [_],_ => rfl) s [u] rfl⟩;obtain ⟨yco,ybl,y7,y8⟩:=Z3X (P:=P) (w:=w) o tb;obtain ⟨ycT,ycf,yb5,yb6⟩:=Z7J (P:=P) (w:=w) o tb;obtain ⟨ycP,yb7,ybY,ybZ⟩:=Z6H (P:=P) (w:=w) o tb;obtain ⟨ycw,ybu,ybm,ybn⟩:=Z4h (P:=P) (w:=w) o tb;obtain ⟨ycU,ycg,yb8,yb9⟩:=Z7M (P:=P) (w:=w) o tb;obtain ⟨yci,y9,yS,yT⟩:=Z3r (P:=P) (w:=w) o tb;obtain ⟨yb3,yp,yk,yl⟩:=Z5k (P:=P) (w:=w) o tb;obtain ⟨ycN,yb0,ybP,ybQ⟩:=Z5N (P:=P) (w:=w) o tb;obtain ⟨yg,yc,ya,yb⟩:=ZX (P:=P) (w:=w) o tb;obtain ⟨ycj,yba,yU,yV⟩:=Z3s (P:=P) (w:=w) o tb;obtain ⟨ycp,yD,yB,yC⟩:=Z42 (P:=P) (w:=w) o tb;have sc : FnScope ["_law_script", "_law_bag_here", "_law_trip", "_law_events", "_law_witnesses", "_law_parts_here", "_law_book_here", "_law_others", "_law_rest", "_law_kinds", "_law_some", "_law_due", "_law_kept", "_law_told", "_law_w"] ["_law_script"] (defScope (top 55)):=by trivial
 refine fn_d F sc rfl fun cdv A outer s H E hr hgd => ?_;have hu:=hr.units;have hu2:=Zt hr;exact (Z5 (Z12 sc.nd rfl (by trivial) rfl (pcl ycf (o.glo 57) yb5 yb6 (Z6 (Z0 0) Z7))) (Z5 (Z13 (passes_of rfl) rfl (Zm rfl (o.free 0) (Z1 Z2 Z4)) (Za sc.nd rfl (by trivial) rfl) (Z5 (Z75 rfl sc.nd rfl rfl (by decide) rfl rfl rfl rfl (Z1 (Zv (pcl yp (o.glo 39) yk yl (ZB 1 (Z6 (Z3m (Z1 Z2 (Z1 Z2 (Z1 Z2 (Z1 Z2 (Z1 Z2 Z4)))))) Z7)))) (Z1 (Zv (pcl yp (o.glo 39) yk yl (ZB 1 (Z6 (Z3m (Z1 Z2 (Z1 Z2 (Z1 Z2 (Z1 Z2 (Z1 Z2 Z4)))))) Z7)))) Z4)) rfl) (Z5 (Z2c (Z24 (Z2l (Ze (ZY hu) ZZ (Z0 2) Z2 rfl) (Z2v (Ze (ZY hu) ZZ (Zv (pcl yc (o.glo 38) ya yb (ZB 1 (Z6 Z2 Z7)))) Z2 rfl)))) (Z8 (Z73 (Zv (pcl yp (o.glo 39) yk yl (ZB 1 (Z6 (Z3m (Z1 (Zz (Z1 Z2 (Z1 Z2 Z4))) (Z1 (Zz (Z1 Z2 (Z1 Z2 Z4))) Z4))) Z7)))) (Z1N rfl (Z9 (Za sc.nd rfl (by trivial) rfl) (Z9 (Za sc.nd rfl (by trivial) rfl) Z10))))) ZA) (Z5 (Z12 sc.nd rfl (by trivial) rfl (pcl yb0 (o.glo 58) ybP ybQ (ZB 1 (Z6 (Z0 3) (Z6 (Z0 4) (Z6 Z2 Z7)))))) (Z65 5 rfl (Z5 (Z2c (Ze op_gt (Zl _) (Zv (pcl yc (o.glo 38) ya yb (ZB 1 (Z6 Z2 Z7)))) Z2 rfl) (Z2n 5 rfl (Z5 (Z12 sc.nd rfl (by trivial) rfl (pcl y9 (o.glo 59) yS yT (ZB 1 (Z6 (Z0 3) (Z6 (Z0 4) (Z6 (Z0 5) Z7)))))) (Z65 5 rfl ZA))) ZA) (Z5 (Z4E 5 rfl (Zv (pcl ybu (o.glo 60) ybm ybn (ZB 1 (Z6 (Zgs 5 rfl Z2) Z7)))) Z2) (Z2n 5 rfl (Z5 (Z73 (Zz (Z1 (Zv (pcl yb7 (o.glo 62) ybY ybZ (Z6 (Z0 3) (Z6 (Z0 4) (Z6 (Z0 5) Z7))))) (Z1 (Zv (pcl ycg (o.glo 61) yb8 yb9 (ZB 1 (Z6 (Z0 4) Z7)))) Z4))) (Z1N rfl (Z9 (Za sc.nd rfl (by trivial) rfl) (Z9 (Za sc.nd rfl (by trivial) rfl) Z10)))) (Z5 (Z4H (own:=[("_law_w",14)]) rfl sc.nd rfl rfl rfl (sw_true rfl rfl rfl (by decide +kernel)) (Zm rfl (o.free 0) (Z1 (Z0 4) Z4)) (blkOk_by (N:=["_law_script", "_law_bag_here", "_law_trip", "_law_events", "_law_witnesses", "_law_parts_here", "_law_book_here", "_law_others", "_law_rest", "_law_kinds", "_law_some", "_law_due", "_law_kept", "_law_told", "_law_w"]) (sc:=defScope (top 55)) (by decide +kernel)) (by decide) (fun _ => (Zj sc.nd rfl (by trivial) rfl (by decide))) (fun _ => (Z3h (Ze (Zct hu2) Zcu (Z0 14) (Z0 7) rfl))) (fun _ => (Z0 14))) (Z2n 8 rfl (Z8 (Z13 (passes_of rfl) rfl (Z1u (Zv (pcl ybl (o.glo 63) y7 y8 (Z6 (Z0 4) Z7)))) (Za sc.nd rfl (by trivial) rfl) (Z8 (Z13 (passes_of rfl) rfl (Z1u (Zz (Z1 (Z0 7) (Z1 (Z0 8) (Z1 (Z0 7) Z4))))) (Za sc.nd rfl (by trivial) rfl) (Z5 (Z75 rfl sc.nd rfl rfl (by decide) rfl rfl rfl rfl (Z1 (Zv (pcl yba (o.glo 64) yU yV (Z6 (Z0 3) (Z6 (Z0 5) (Z6 (Z0 10) (Z6 (Z0 9) Z7)))))) (Z1 (Zp call_list_of Z9p rfl (o.free 1) rfl (Z1 (Z0 10) Z4)) Z4)) rfl) (Z5 (Z12 sc.nd rfl (by trivial) rfl (ZR (Zz (Z1 (Zv (pcl yD (o.glo 65) yB yC (Z6 (Z0 6) (Z6 (Z0 10) (Z6 (Z0 9) Z7))))) (Z1 (Zv (pcl yD (o.glo 65) yB yC (Z6 (Z0 6) (Z6 (Zp call_tuple_of Z3J rfl (o.free 21) rfl (Z1 (Z0 10) Z4)) (Z6 (Z0 9) Z7))))) Z4))))) (Z8 (Z2c (Z24 (Z4b (Ze (ZaI hu) ZaJ (ZG (Z57 hgd hu2) Z9r rfl (o.free 66) rfl (Z1 (Z0 13) Z4)) (ZG (Z57 hgd hu2) Z9r rfl (o.free 66) rfl (Z1 (Zz (Z1 (Z0 11) (Z1 (Z0 11) Z4))) Z4)) rfl) (Z2k (Ze (ZaI hu) ZaJ (Z0 10) (Z0 12) rfl)))) (Z8 (Zg (ZR ZfO))) ZA))))))))))))))))))) (Z8 (Zg (ZR ZfO)))))
end Gk
namespace Lb
open PySem PySem.Spec PyProof.Rows L2 Dl
abbrev Bg:={b : List D // BagOk b}
theorem Z43 (B : Bg) (m : Int) : ∃ p : Bg × Nat × Nv,(0 < m → (p.2.1 : Int) < m) ∧ (0 < m → m < 1267650600228229401496703205376 → Z3 [(.l .sh,.lst B.1),(.sh,.int m)] = .ok (.sh,.int (p.2.1 : Nat)) (some (.l .sh,.lst p.1.1) :: p.2.2)):=by
 by_cases h : 0 < m ∧ m < 1267650600228229401496703205376
 · obtain ⟨b',v,O,e,hb,v0,v1⟩:=Z15 B.2 h.1 h.2;refine ⟨(⟨b',hb⟩,v.toNat,O),fun _ => by show ((v.toNat : Nat) : Int) < m;omega,fun _ _ => ?_⟩;show Ze3 _ = .ok (.sh,.int ((v.toNat : Nat) : Int)) _;rw [Int.toNat_of_nonneg v0];exact e
 · exact ⟨(B,0,[]),fun h0 => by show ((0 : Nat) : Int) < m;omega,fun h1 h2 => absurd ⟨h1,h2⟩ h⟩
noncomputable def tkB (B : Bg) (m : Int) : Bg:=(Z43 B m).choose.1
noncomputable def tk (B : Bg) (m : Int) : Nat:=(Z43 B m).choose.2.1
noncomputable def tkO (B : Bg) (m : Int) : Nv:=(Z43 B m).choose.2.2
theorem ZiE {B : Bg} {m : Int} (h : 0 < m) : (tk B m : Int) < m:=(Z43 B m).choose_spec.1 h
theorem Zen {B : Bg} {m : Int} (h : 0 < m) (h2 : m < 1267650600228229401496703205376) : Z3 [(.l .sh,.lst B.1),(.sh,.int m)] = .ok (.sh,.int (tk B m : Nat)) (some (.l .sh,.lst (tkB B m).1) :: tkO B m):=(Z43 B m).choose_spec.2 h h2
theorem Z5o (B : Bg) (xs : List D) : ∃ p : Bg × D × Nv,(0 < xs.length → p.2.1 ∈ xs) ∧ (0 < xs.length → xs.length < 1267650600228229401496703205376 → Z1h [(.l .sh,.lst B.1),(.sh,.lst xs)] = .ok (.sh,p.2.1) (some (.l .sh,.lst p.1.1) :: p.2.2)):=by
 by_cases h : 0 < xs.length ∧ xs.length < 1267650600228229401496703205376
 · obtain ⟨b',v,O,e,hb,hv⟩:=ZgF B.2 h.1 h.2;exact ⟨(⟨b',hb⟩,v,O),fun _ => hv,fun _ _ => e⟩
 · cases xs with
   | nil => exact ⟨(B,.non,[]),fun h0 => by simp at h0,fun h0 => by simp at h0⟩
   | cons x xs => exact ⟨(B,x,[]),fun _ => Ya,fun h1 h2 => absurd ⟨h1,h2⟩ h⟩
noncomputable def oneB (B : Bg) (xs : List D) : Bg:=(Z5o B xs).choose.1
noncomputable def oneV (B : Bg) (xs : List D) : D:=(Z5o B xs).choose.2.1
noncomputable def oneO (B : Bg) (xs : List D) : Nv:=(Z5o B xs).choose.2.2
theorem Zbo {B : Bg} {xs : List D} (h : 0 < xs.length) : oneV B xs ∈ xs:=(Z5o B xs).choose_spec.1 h
theorem ZgP {B : Bg} {xs : List D} (h : 0 < xs.length) (h2 : xs.length < 1267650600228229401496703205376) : Z1h [(.l .sh,.lst B.1),(.sh,.lst xs)] = .ok (.sh,oneV B xs) (some (.l .sh,.lst (oneB B xs).1) :: oneO B xs):=(Z5o B xs).choose_spec.2 h h2
def kiS : Bool → Str
 | true => "early"
 | false => "late"
def siS : Bool → Str
 | true => "least"
 | false => "most"
theorem Z4R (B : Bg) : ∃ p : Bg × Bool × Nv,Zo [(.l .sh,.lst B.1)] = .ok (.sh,.str (kiS p.2.1)) (some (.l .sh,.lst p.1.1) :: p.2.2):=by
 obtain ⟨b',v,O,e,hb,h⟩:=kind_ok B.2;rcases h with rfl | rfl
 · exact ⟨(⟨b',hb⟩,true,O),e⟩
 · exact ⟨(⟨b',hb⟩,false,O),e⟩
noncomputable def kdB (B : Bg) : Bg:=(Z4R B).choose.1
noncomputable def kdV (B : Bg) : Bool:=(Z4R B).choose.2.1
noncomputable def kdO (B : Bg) : Nv:=(Z4R B).choose.2.2
theorem Zeo (B : Bg) : Zo [(.l .sh,.lst B.1)] = .ok (.sh,.str (kiS (kdV B))) (some (.l .sh,.lst (kdB B).1) :: kdO B):=(Z4R B).choose_spec
theorem Z7N (ns : List Int) : ∃ p : Bg × Nv,ns.length ≤ 63 → Z3x [(.sh,.frl ns)] = .ok (.l .sh,.lst p.1.1) p.2:=by
 by_cases h : ns.length ≤ 63
 · obtain ⟨b,O,e,hb⟩:=Ze6 h;exact ⟨(⟨b,hb⟩,O),fun _ => e⟩
 · obtain ⟨b,O,e,hb⟩:=Ze6 (ns:=[]) (by decide);exact ⟨(⟨b,hb⟩,O),fun z => absurd z h⟩
noncomputable def bag0 (ns : List Int) : Bg:=(Z7N ns).choose.1
noncomputable def bagO (ns : List Int) : Nv:=(Z7N ns).choose.2
theorem ZgQ {ns : List Int} (h : ns.length ≤ 63) : Z3x [(.sh,.frl ns)] = .ok (.l .sh,.lst (bag0 ns).1) (bagO ns):=(Z7N ns).choose_spec h
structure Tl where
 w : Nat
 e : Nat
 x : Int
deriving DecidableEq
structure Gp where
 a : Nat
 b : Nat
 g : Int
deriving DecidableEq
structure Sr where
 e : Nat
 s : Bool
 x : Int
deriving DecidableEq
structure Cl where
 w : Nat
 k : Bool
 v : Nat
 l : Bool
deriving DecidableEq
def Tl.d (t : Tl) : D:=.tup [.int (t.w : Nat),.int (t.e : Nat),.int t.x]
def Gp.d (t : Gp) : D:=.tup [.int (t.a : Nat),.int (t.b : Nat),.int t.g]
def Sr.d (t : Sr) : D:=.tup [.int (t.e : Nat),.str (siS t.s),.int t.x]
def Cl.d (t : Cl) : D:=.tup [.int (t.w : Nat),.str (kiS t.k),.int (t.v : Nat),.str (kiS t.l)]
structure Bk where
 ev : Nat
 wi : Nat
 tel : List Tl
 gap : List Gp
 sur : List Sr
 cla : List Cl
abbrev Bk.z (b : Bk) : Sz:=⟨(b.ev : Nat),(b.wi : Nat)⟩
def TlOk (ev wi : Nat) (t : Tl) : Prop:=t.w < wi ∧ t.e < ev ∧ Big t.x
def GpOk (ev : Nat) (t : Gp) : Prop:=t.a < ev ∧ t.b < ev ∧ t.a ≠ t.b ∧ Big t.g
def SrOk (ev : Nat) (t : Sr) : Prop:=t.e < ev ∧ Big t.x
def ClOk (wi : Nat) (t : Cl) : Prop:=t.w < wi ∧ t.v < wi
structure BkO (b : Bk) : Prop where
 e8 : b.ev ≤ 8
 w8 : b.wi ≤ 8
 t : ∀ t ∈ b.tel,TlOk b.ev b.wi t
 g : ∀ t ∈ b.gap,GpOk b.ev t
 s : ∀ t ∈ b.sur,SrOk b.ev t
 c : ∀ t ∈ b.cla,ClOk b.wi t
 tn : b.tel.length ≤ 24
 gn : b.gap.length ≤ 24
 sn : b.sur.length ≤ 24
 cn : b.cla.length ≤ 24
def Bk.d (b : Bk) : D:=ZgI b.z (b.tel.map Tl.d) (b.gap.map Gp.d) (b.sur.map Sr.d) (b.cla.map Cl.d)
theorem Z90 (k : Bool) : kiS k = "early" ∨ kiS k = "late" := by cases k;exact .inr rfl;exact .inl rfl
theorem ZgR (k : Bool) : siS k = "least" ∨ siS k = "most" := by cases k;exact .inr rfl;exact .inl rfl
theorem TlOk.tel {ev wi : Nat} {t : Tl} (h : TlOk ev wi t) : Tel ⟨(ev : Nat),(wi : Nat)⟩ t.d:=.mk _ _ _ (by omega) (by have:=h.1;show (t.w : Int) < wi;omega) (by omega) (by have:=h.2.1;show (t.e : Int) < ev;omega) h.2.2
theorem GpOk.gap {ev : Nat} {wi : Int} {t : Gp} (h : GpOk ev t) : Gap ⟨(ev : Nat),wi⟩ t.d:=.mk _ _ _ (by omega) (by have:=h.1;show (t.a : Int) < ev;omega) (by omega) (by have:=h.2.1;show (t.b : Int) < ev;omega) (by have:=h.2.2.1;omega) h.2.2.2
theorem SrOk.sur {ev : Nat} {wi : Int} {t : Sr} (h : SrOk ev t) : Sur ⟨(ev : Nat),wi⟩ t.d:=.mk _ _ _ (by omega) (by have:=h.1;show (t.e : Int) < ev;omega) (ZgR _) h.2
theorem ClOk.cla {ev : Int} {wi : Nat} {t : Cl} (h : ClOk wi t) : Cla ⟨ev,(wi : Nat)⟩ t.d:=.mk _ _ _ _ (by omega) (by have:=h.1;show (t.w : Int) < wi;omega) (Z90 _) (by omega) (by have:=h.2;show (t.v : Int) < wi;omega) (Z90 _)
theorem BkO.sz {b : Bk} (h : BkO b) : SzOk b.z:=⟨by show (0 : Int) ≤ b.ev;omega,by have:=h.e8;show (b.ev : Int) ≤ 8;omega,by show (0 : Int) ≤ b.wi;omega,by have:=h.w8;show (b.wi : Int) ≤ 8;omega⟩
def Pt (p : D) (ds : List D) : Prop:=p = .lst ds ∨ p = .tup ds
theorem Pt.part {z : Sz} {k : Nat} {p : D} {ds : List D} (h : Pt p ds) (i : ∀ d ∈ ds,Itm z k d) (n : ds.length ≤ 24) : Part z k p ds:=by
 rcases h with rfl | rfl
 · exact .l _ i n
 · exact .t _ i n
theorem Zbp {b : Bk} {p0 p1 p2 p3 : D} (h : BkO b) (h0 : Pt p0 (b.tel.map Tl.d)) (h1 : Pt p1 (b.gap.map Gp.d)) (h2 : Pt p2 (b.sur.map Sr.d)) (h3 : Pt p3 (b.cla.map Cl.d)) :
    ∃ O,ZT [(.o,.ins "Book" [] []),(.sh,.int (b.ev : Nat)),(.sh,.int (b.wi : Nat)),(.sh,p0),(.sh,p1),(.sh,p2),(.sh,p3)] = .ok (.sh,.non) (some (.o,b.d) :: O) :=
 Zeg h.sz (h0.part (fun d m => by obtain ⟨t,ht,rfl⟩:=Ye.mp m;exact (h.t t ht).tel) (by rw [Yi];exact h.tn))
  (h1.part (fun d m => by obtain ⟨t,ht,rfl⟩:=Ye.mp m;exact (h.g t ht).gap) (by rw [Yi];exact h.gn))
  (h2.part (fun d m => by obtain ⟨t,ht,rfl⟩:=Ye.mp m;exact (h.s t ht).sur) (by rw [Yi];exact h.sn))
  (h3.part (fun d m => by obtain ⟨t,ht,rfl⟩:=Ye.mp m;exact (h.c t ht).cla) (by rw [Yi];exact h.cn))
theorem Zep {b : Bk} {p0 p1 p2 p3 : D} {E : Nv} (h : BkO b) (h0 : Pt p0 (b.tel.map Tl.d)) (h1 : Pt p1 (b.gap.map Gp.d)) (h2 : Pt p2 (b.sur.map Sr.d)) (h3 : Pt p3 (b.cla.map Cl.d)) :
    Z8w ZT "Book" [none,none,none,none,none,none] [.int (b.ev : Nat),.int (b.wi : Nat),p0,p1,p2,p3] E = .ok (.o,b.d) E:=by
 obtain ⟨O,e⟩:=Zbp h h0 h1 h2 h3;exact Zbe rfl e rfl
theorem Za6 {z : Sz} {ev wi : Nat} (e : z.ev = ev) (w : z.wi = wi) : ∀ {ds : List D},(∀ d ∈ ds,DTel z d) → ∃ l : List Tl,ds = l.map Tl.d ∧ ∀ t ∈ l,t.w < wi ∧ t.e < ev ∧ -1000000000000 ≤ t.x ∧ t.x ≤ 1000000000000
 | [],_ => ⟨[],rfl,fun t m => nomatch m⟩
 | d :: ds,h => by
  obtain ⟨l,rfl,hl⟩:=Za6 (ds:=ds) e w fun d m => h d (Yb _ m);obtain ⟨w',e',x,rfl,h1,h2,h3,h4,h5⟩:=h d Ya;refine ⟨⟨w'.toNat,e'.toNat,x⟩ :: l, ?_,fun t m => ?_⟩
  · show _ = Tl.d ⟨w'.toNat,e'.toNat,x⟩ :: _;unfold Tl.d;rw [Int.toNat_of_nonneg h1,Int.toNat_of_nonneg h3]
  · rcases Yc.mp m with rfl | m
    · exact ⟨by show w'.toNat < wi;omega,by show e'.toNat < ev;omega,h5⟩
    · exact hl t m
theorem Za7 {z : Sz} {ev : Nat} (e : z.ev = ev) : ∀ {ds : List D},(∀ d ∈ ds,DGap z d) → ∃ l : List Gp,ds = l.map Gp.d ∧ ∀ t ∈ l,t.a < ev ∧ t.b < ev ∧ t.a ≠ t.b ∧ -4 ≤ t.g ∧ t.g ≤ 4
 | [],_ => ⟨[],rfl,fun t m => nomatch m⟩
 | d :: ds,h => by
  obtain ⟨l,rfl,hl⟩:=Za7 (ds:=ds) e fun d m => h d (Yb _ m);obtain ⟨w',e',x,rfl,h1,h2,h3,h4,h5,h6⟩:=h d Ya;refine ⟨⟨w'.toNat,e'.toNat,x⟩ :: l, ?_,fun t m => ?_⟩
  · show _ = Gp.d ⟨w'.toNat,e'.toNat,x⟩ :: _;unfold Gp.d;rw [Int.toNat_of_nonneg h1,Int.toNat_of_nonneg h3]
  · rcases Yc.mp m with rfl | m
    · exact ⟨by show w'.toNat < ev;omega,by show e'.toNat < ev;omega,by show w'.toNat ≠ e'.toNat;omega,h6⟩
    · exact hl t m
theorem Za8 {z : Sz} {ev : Nat} (e : z.ev = ev) : ∀ {ds : List D},(∀ d ∈ ds,DSur z d) → ∃ l : List Sr,ds = l.map Sr.d ∧ ∀ t ∈ l,t.e < ev ∧ -1000000000000 ≤ t.x ∧ t.x ≤ 1000000000000
 | [],_ => ⟨[],rfl,fun t m => nomatch m⟩
 | d :: ds,h => by
  obtain ⟨l,rfl,hl⟩:=Za8 (ds:=ds) e fun d m => h d (Yb _ m);obtain ⟨e',s,x,rfl,h1,h2,h3,h4⟩:=h d Ya;obtain ⟨b,hb⟩ : ∃ b,s = siS b:=by rcases h3 with rfl | rfl;exact ⟨true,rfl⟩;exact ⟨false,rfl⟩
  subst hb;refine ⟨⟨e'.toNat,b,x⟩ :: l, ?_,fun t m => ?_⟩
  · show _ = Sr.d ⟨e'.toNat,b,x⟩ :: _;unfold Sr.d;rw [Int.toNat_of_nonneg h1]
  · rcases Yc.mp m with rfl | m
    · exact ⟨by show e'.toNat < ev;omega,h4⟩
    · exact hl t m
theorem Za9 {z : Sz} {wi : Nat} (w : z.wi = wi) : ∀ {ds : List D},(∀ d ∈ ds,Cla z d) → ∃ l : List Cl,ds = l.map Cl.d ∧ ∀ t ∈ l,t.w < wi ∧ t.v < wi
 | [],_ => ⟨[],rfl,fun t m => nomatch m⟩
 | d :: ds,h => by
  obtain ⟨l,rfl,hl⟩:=Za9 (ds:=ds) w fun d m => h d (Yb _ m);cases h d Ya with
  | mk w' k v l' h1 h2 h3 h4 h5 h6 =>
   obtain ⟨a,ha⟩ : ∃ b,k = kiS b:=by rcases h3 with rfl | rfl;exact ⟨true,rfl⟩;exact ⟨false,rfl⟩
   obtain ⟨b,hb⟩ : ∃ b,l' = kiS b:=by rcases h6 with rfl | rfl;exact ⟨true,rfl⟩;exact ⟨false,rfl⟩
   subst ha hb;refine ⟨⟨w'.toNat,a,v.toNat,b⟩ :: l, ?_,fun t m => ?_⟩
   · show _ = Cl.d ⟨w'.toNat,a,v.toNat,b⟩ :: _;unfold Cl.d;rw [Int.toNat_of_nonneg h1,Int.toNat_of_nonneg h4]
   · rcases Yc.mp m with rfl | m
     · exact ⟨by show w'.toNat < wi;omega,by show v.toNat < wi;omega⟩
     · exact hl t m
structure P4 where
 a : List Tl
 b : List Gp
 c : List Sr
 d : List Cl
structure DrawnP (ev wi : Nat) (m : Int) (p : P4) : Prop where
 t : ∀ t ∈ p.a,t.w < wi ∧ t.e < ev ∧ -1000000000000 ≤ t.x ∧ t.x ≤ 1000000000000
 g : ∀ t ∈ p.b,t.a < ev ∧ t.b < ev ∧ t.a ≠ t.b ∧ -4 ≤ t.g ∧ t.g ≤ 4
 s : ∀ t ∈ p.c,t.e < ev ∧ -1000000000000 ≤ t.x ∧ t.x ≤ 1000000000000
 c : ∀ t ∈ p.d,t.w < wi ∧ t.v < wi
 tn : (p.a.length : Int) ≤ m
 gn : p.b.length ≤ 11
 sn : p.c.length ≤ 3
 cn : p.d.length ≤ 3
def P4.l (p : P4) : List D:=[.lst (p.a.map Tl.d),.lst (p.b.map Gp.d),.lst (p.c.map Sr.d),.lst (p.d.map Cl.d)]
def P4.k (p : P4) (ev wi : Nat) : Bk:=⟨ev,wi,p.a,p.b,p.c,p.d⟩
theorem DrawnP.bk {ev wi : Nat} {m : Int} {p : P4} (h : DrawnP ev wi m p) (e : ev ≤ 8) (w : wi ≤ 8) (hm : m ≤ 24) : BkO (p.k ev wi) where
 e8:=e
 w8:=w
 t:=fun t i => by obtain ⟨h1,h2,h3,h4⟩:=h.t t i;exact ⟨h1,h2,by omega,by omega⟩
 g:=fun t i => by obtain ⟨h1,h2,h3,h4,h5⟩:=h.g t i;exact ⟨h1,h2,h3,by omega,by omega⟩
 s:=fun t i => by obtain ⟨h1,h2,h3⟩:=h.s t i;exact ⟨h1,by omega,by omega⟩
 c:=fun t i => by obtain ⟨h1,h2⟩:=h.c t i;exact ⟨h1,h2⟩
 tn:=by have:=h.tn;show p.a.length ≤ 24;omega
 gn:=Nat.le_trans h.gn (by decide)
 sn:=Nat.le_trans h.sn (by decide)
 cn:=Nat.le_trans h.cn (by decide)
theorem Z2U (B : Bg) (ev wi : Nat) (m : Int) : ∃ p : Bg × P4 × Nv,(0 ≤ m → DrawnP ev wi m p.2.1) ∧ (ev ≤ 8 → wi ≤ 8 → 0 ≤ m → m ≤ 20 → ZF [(.l .sh,.lst B.1),(.sh,.int (ev : Nat)),(.sh,.int (wi : Nat)),(.sh,.int m)] = .ok (.l (.l .sh),.lst p.2.1.l) (some (.l .sh,.lst p.1.1) :: p.2.2)):=by
 by_cases h : ev ≤ 8 ∧ wi ≤ 8 ∧ 0 ≤ m ∧ m ≤ 20
 · obtain ⟨h1,h2,h3,h4⟩:=h;obtain ⟨b',p0,p1,p2,p3,O,e,hb,hd,n0,n1,n2,n3⟩:=Zbj (z:=⟨(ev : Nat),(wi : Nat)⟩) B.2 ⟨by show (0 : Int) ≤ ev;omega,by show (ev : Int) ≤ 8;omega,by show (0 : Int) ≤ wi;omega,by show (wi : Int) ≤ 8;omega⟩ h3 h4;obtain ⟨a,rfl,ha⟩:=Za6 (ev:=ev) (wi:=wi) rfl rfl hd.t;obtain ⟨b,rfl,hb2⟩:=Za7 (ev:=ev) rfl hd.g;obtain ⟨c,rfl,hc⟩:=Za8 (ev:=ev) rfl hd.s;obtain ⟨d,rfl,hd2⟩:=Za9 (wi:=wi) rfl hd.c;rw [Yi] at n0 n1 n2 n3;exact ⟨(⟨b',hb⟩,⟨a,b,c,d⟩,O),fun _ => ⟨ha,hb2,hc,hd2,n0,n1,n2,n3⟩,fun _ _ _ _ => e⟩
 · exact ⟨(B,⟨[],[],[],[]⟩,[]),fun hm => ⟨fun t m => (nomatch m),fun t m => (nomatch m),fun t m => (nomatch m),fun t m => (nomatch m),hm,Nat.zero_le _,Nat.zero_le _,Nat.zero_le _⟩,fun h1 h2 h3 h4 => absurd ⟨h1,h2,h3,h4⟩ h⟩
noncomputable def ptB (B : Bg) (ev wi : Nat) (m : Int) : Bg:=(Z2U B ev wi m).choose.1
noncomputable def ptV (B : Bg) (ev wi : Nat) (m : Int) : P4:=(Z2U B ev wi m).choose.2.1
noncomputable def ptO (B : Bg) (ev wi : Nat) (m : Int) : Nv:=(Z2U B ev wi m).choose.2.2
theorem ZgS {B : Bg} {ev wi : Nat} {m : Int} (h : 0 ≤ m) : DrawnP ev wi m (ptV B ev wi m):=(Z2U B ev wi m).choose_spec.1 h
theorem Zbq {B : Bg} {ev wi : Nat} {m : Int} (h1 : ev ≤ 8) (h2 : wi ≤ 8) (h3 : 0 ≤ m) (h4 : m ≤ 20) : ZF [(.l .sh,.lst B.1),(.sh,.int (ev : Nat)),(.sh,.int (wi : Nat)),(.sh,.int m)] = .ok (.l (.l .sh),.lst (ptV B ev wi m).l) (some (.l .sh,.lst (ptB B ev wi m).1) :: ptO B ev wi m):=(Z2U B ev wi m).choose_spec.2 h1 h2 h3 h4
mutual
def okD : D → Bool
 | .lst xs => okDs xs
 | .tup xs => okDs xs
 | .dct _ _ => true
 | .ins c _ _ => c == "Book"
 | .ty _ => false
 | .cl _ => false
 | .frl _ => false
 | .ldc _ _ => false
 | .non => true
 | .bl _ => true
 | .int _ => true
 | .str _ => true
def okDs : List D → Bool
 | [] => true
 | x :: r => okD x && okDs r
end
structure ThL (k N : Nat) (xs : List D) : Prop where
 ex : ∃ ps,toPs xs = some ps ∧ PyData.showableAll ps = true ∧ PyData.hasDictAll ps = false ∧ PyData.canLayAll0 ps = true ∧ PyData.leavesShortAll 1921 ps = true ∧ PyData.depthAll ps ≤ k ∧ PyData.bulkAll ps ≤ N
 ok : okDs xs = true
structure Th (k N : Nat) (d : D) : Prop where
 fit : Fit k N d
 ok : okD d = true
theorem Th.up {k N k' N' : Nat} {d : D} (h : Th k N d) (a : k ≤ k') (b : N ≤ N') : Th k' N' d:=⟨h.fit.up a b,h.ok⟩
theorem Th.lay {k N : Nat} {d : D} (h : Th k N d) (a : k ≤ 60) : Lay d:=h.fit.lay a
theorem ThL.up {k N k' N' : Nat} {xs : List D} (h : ThL k N xs) (a : k ≤ k') (b : N ≤ N') : ThL k' N' xs:=by
 obtain ⟨⟨ps,h1,h2,h3,h4,h5,h6,h7⟩,o⟩:=h;exact ⟨⟨ps,h1,h2,h3,h4,h5,Nat.le_trans h6 a,Nat.le_trans h7 b⟩,o⟩
theorem Zbr : Th 0 0 .non:=⟨Zei,rfl⟩
theorem Zeq {i : Int} (h : i.natAbs < 2 ^ 200) : Th 0 0 (.int i):=⟨Zej h,rfl⟩
theorem th_i {i : Int} (h : -1000000000000000000000000000000000 ≤ i) (h2 : i ≤ 1000000000000000000000000000000000) : Th 0 0 (.int i):=Zeq (by omega)
theorem th_n {i : Nat} (h : i ≤ 1000000000000000000000000000000000) : Th 0 0 (.int (i : Nat)):=Zeq (by omega)
theorem Z6K {x : Str} {n : Nat} (h : PyData.strOk x = true) (l : (x.cps.toList.all fun c => decide (c < 16 ^ 8)) = true) (z : x.cps.size ≤ n) : Th 0 n (.str x):=⟨Zek h (by simp only [PyData.leavesShort];exact l) z,rfl⟩
theorem Z7O : ThL 0 0 []:=⟨⟨[],by unfold toPs;rfl,by unfold PyData.showableAll;rfl,by unfold PyData.hasDictAll;rfl,by unfold PyData.canLayAll0;rfl,by unfold PyData.leavesShortAll;rfl,by unfold PyData.depthAll;omega,by unfold PyData.bulkAll;omega⟩,rfl⟩
theorem ZH {k k' n m : Nat} {x : D} {xs : List D} (h : Th k n x) (hs : ThL k' m xs) : ThL (max k k') (n + 1 + m) (x :: xs):=by
 obtain ⟨⟨p,e1,e2,e3,e4,e5,e6,e7⟩,o⟩:=h;obtain ⟨⟨ps,f1,f2,f3,f4,f5,f6,f7⟩,os⟩:=hs;refine ⟨⟨p :: ps, ?_, ?_, ?_, ?_, ?_, ?_, ?_⟩, ?_⟩
 · unfold toPs;rw [e1,f1]
 · unfold PyData.showableAll;rw [e2,f2];rfl
 · unfold PyData.hasDictAll;rw [e3,f3];rfl
 · unfold PyData.canLayAll0;rw [e4,f4];rfl
 · unfold PyData.leavesShortAll;rw [e5,f5];rfl
 · unfold PyData.depthAll;omega
 · unfold PyData.bulkAll;omega
 · show (okD x && okDs xs) = true;rw [o,os];rfl
theorem Z2V {k n : Nat} {x : D} (h : Th k n x) : ThL k (n + 1) [x]:=(ZH h Z7O).up (by omega) (by omega)
theorem Zaa {k n : Nat} : ∀ {xs : List D},(∀ x ∈ xs,Th k n x) → ThL k (xs.length * (n + 1)) xs
 | [],_ => Z7O.up (Nat.zero_le _) (Nat.zero_le _)
 | x :: xs,h => (ZH (h x Ya) (Zaa fun y m => h y (Yb _ m))).up (by omega) (by rw [List.length_cons,Nat.add_mul,Nat.one_mul];omega)
theorem Zab {α : Type} {k n : Nat} {f : α → D} {l : List α} (h : ∀ x ∈ l,Th k n (f x)) : ThL k (l.length * (n + 1)) (l.map f):=by
 have r:=Zaa (xs:=l.map f) (k:=k) (n:=n) fun x m => by
  obtain ⟨y,hy,rfl⟩:=Ye.mp m;exact h y hy
 rw [Yi] at r;exact r
theorem Z44 {k N : Nat} {xs : List D} (h : ThL k N xs) : Th (k + 1) N (.tup xs):=by
 obtain ⟨⟨ps,f1,f2,f3,f4,f5,f6,f7⟩,o⟩:=h;exact ⟨⟨.tuple ps,by unfold toP;rw [f1];rfl,by simp only [PyData.showable];exact f2,by simp only [PyData.hasDict];exact f3,by simp only [PyData.canLay0];exact f4,by simp only [PyData.leavesShort];exact f5,by simp only [PyData.depth];omega,by simp only [PyData.bulk];exact f7⟩,o⟩
theorem ZgT {k N : Nat} {xs : List D} (h : ThL k N xs) : Th (k + 1) N (.lst xs):=by
 obtain ⟨⟨ps,f1,f2,f3,f4,f5,f6,f7⟩,o⟩:=h;exact ⟨⟨.list ps,by unfold toP;rw [f1];rfl,by simp only [PyData.showable];exact f2,by simp only [PyData.hasDict];exact f3,by simp only [PyData.canLay0];exact f4,by simp only [PyData.leavesShort];exact f5,by simp only [PyData.depth];omega,by simp only [PyData.bulk];exact f7⟩,o⟩
theorem Zer (b : Bool) : Th 0 5 (.str (kiS b)):=by
 cases b
 · exact Z6K (by decide +kernel) (by decide +kernel) (by decide +kernel)
 · exact Z6K (by decide +kernel) (by decide +kernel) (by decide +kernel)
theorem Z7P (d : D) : ∃ s : Str,(∃ k N,Th k N d ∧ k ≤ 40 ∧ N ≤ 2000) ∨ d = .dct [] [] → Z9q [d] = some (.str s):=by
 by_cases h : (∃ k N,Th k N d ∧ k ≤ 40 ∧ N ≤ 2000) ∨ d = .dct [] []
 · rcases h with ⟨k,N,h1,h2,h3⟩ | rfl
   · obtain ⟨s,e⟩:=Zbk h1.fit h2 h3;exact ⟨s,fun _ => e⟩
   · exact ⟨"{}",fun _ => rfl⟩
 · exact ⟨"",fun z => absurd z h⟩
noncomputable def rpS (d : D) : Str:=(Z7P d).choose
theorem Zes {k N : Nat} {d : D} (h : Th k N d) (a : k ≤ 40) (b : N ≤ 2000) : Z9q [d] = some (.str (rpS d)):=(Z7P d).choose_spec (.inl ⟨k,N,h,a,b⟩)
def deq (d e : D) : Bool:=match toP d,toP e with
 | some p,some q => PyData.eqv p q
 | _,_ => false
theorem ZgU {d e : D} (h : Lay d) (h' : Lay e) : eqB d e = some (deq d e):=by
 obtain ⟨p,e1,c1,d1⟩:=h;obtain ⟨q,e2,c2,d2⟩:=h';have s1 : SeqAt.shaped p = true:=by unfold SeqAt.shaped;rw [c1,Yp (show p.depth ≤ 64 by omega)];rfl
 have s2 : SeqAt.shaped q = true:=by unfold SeqAt.shaped;rw [c2,Yp (show q.depth ≤ 64 by omega)];rfl
 have dp : Z3n d e = some (PyData.eqv p q):=by
  unfold Z3n;rw [e1,e2];simp only;rw [Yj ⟨s1,s2⟩]
 unfold deq;rw [e1,e2];simp only;unfold eqB;cases f1 : flat d with
 | none => exact dp
 | some v =>
  cases f2 : flat e with
  | none => exact dp
  | some w =>
   simp only;by_cases c : scal v w = true
   · rw [Yj c]
     congr 1
     cases d <;> cases f1 <;> cases e <;> cases f2 <;> first | (cases c;done) | skip
     all_goals
      unfold toP at e1 e2;cases e1;cases e2;simp [PyData.eqv]
      try (rw [Bool.eq_iff_iff];simp)
   · rw [Yk c];exact dp
theorem ZgV {d e : D} (h : Lay d) (h' : Lay e) : neD d e = some (.bl (!deq d e)):=by unfold neD;rw [ZgU h h'];rfl
mutual
theorem Z7Q : ∀ p : PyData,p.hasDict = false → PyData.eqv p p = true
 | .none,_ => by simp [PyData.eqv]
 | .bool b,_ => by simp [PyData.eqv]
 | .int i,_ => by simp [PyData.eqv]
 | .str x,_ => by simp [PyData.eqv]
 | .list xs,h => by
  simp only [PyData.eqv];exact eqv_selfs xs (by simpa only [PyData.hasDict] using h)
 | .tuple xs,h => by
  simp only [PyData.eqv];exact eqv_selfs xs (by simpa only [PyData.hasDict] using h)
 | .dict kvs,h => by simp [PyData.hasDict] at h
theorem eqv_selfs : ∀ ps : List PyData,PyData.hasDictAll ps = false → PyData.eqvAll ps ps = true
 | [],_ => by simp [PyData.eqvAll]
 | p :: ps,h => by
  unfold PyData.hasDictAll at h;rw [Bool.or_eq_false_iff] at h;simp only [PyData.eqvAll];rw [Z7Q p h.1,eqv_selfs ps h.2];rfl
end
theorem Zbs {k N : Nat} {d : D} (h : Th k N d) : deq d d = true:=by
 obtain ⟨⟨p,f1,f2,f3,f4,f5,f6,f7⟩,o⟩:=h;unfold deq;rw [f1];exact Z7Q p f3
theorem Zet {k N : Nat} {d : D} (h : Th k N d) (a : k ≤ 60) : neD d d = some (.bl false):=by rw [ZgV (h.lay a) (h.lay a),Zbs h];rfl
theorem neSt (s : Str) : neD (.str s) (.str s) = some (.bl false):=by simp [neD,eqB,flat,scal]
theorem eqSt (s : Str) : eqD (.str s) (.str s) = some (.bl true):=by simp [eqD,eqB,flat,scal]
theorem b_ev (b : Bk) : Z5B ["Book"] "events" b.d = some (.int (b.ev : Nat)):=rfl
theorem b_wi (b : Bk) : Z5B ["Book"] "witnesses" b.d = some (.int (b.wi : Nat)):=rfl
theorem b_te (b : Bk) : Z5B ["Book"] "tellings" b.d = some (.tup (b.tel.map Tl.d)):=rfl
theorem b_ga (b : Bk) : Z5B ["Book"] "gaps" b.d = some (.tup (b.gap.map Gp.d)):=rfl
theorem b_su (b : Bk) : Z5B ["Book"] "sure" b.d = some (.tup (b.sur.map Sr.d)):=rfl
theorem b_cl (b : Bk) : Z5B ["Book"] "clauses" b.d = some (.tup (b.cla.map Cl.d)):=rfl
def Bk.l (b : Bk) : List D:=[.lst (b.tel.map Tl.d),.lst (b.gap.map Gp.d),.lst (b.sur.map Sr.d),.lst (b.cla.map Cl.d)]
theorem bl_0 (b : Bk) : b.l[0]? = some (.lst (b.tel.map Tl.d)):=rfl
theorem bl_1 (b : Bk) : b.l[1]? = some (.lst (b.gap.map Gp.d)):=rfl
theorem bl_2 (b : Bk) : b.l[2]? = some (.lst (b.sur.map Sr.d)):=rfl
theorem bl_3 (b : Bk) : b.l[3]? = some (.lst (b.cla.map Cl.d)):=rfl
theorem neI (i j : Int) : neD (.int i) (.int j) = some (.bl (!decide (i = j))):=by
 have e:=eqI i j;unfold eqD at e;unfold neD;cases q : eqB (D.int i) (D.int j) with
 | none => rw [q] at e;cases e
 | some b => rw [q] at e;cases e;rfl
theorem isNI (i : Int) : Jp (.int i) .non = some (.bl false):=rfl
theorem isNN : Jp .non .non = some (.bl true):=rfl
theorem isNT (xs : List D) : Jp (.tup xs) .non = some (.bl false):=rfl
theorem isNS (x : Str) : Jp (.str x) .non = some (.bl false):=rfl
theorem snt : ((("sure" : Str)) = "told") = False:=eq_false (by decide)
theorem lne : ((("late" : Str)) = "early") = False:=eq_false (by decide)
theorem eln : ((("early" : Str)) = "late") = False:=eq_false (by decide)
theorem mnl : ((("most" : Str)) = "least") = False:=eq_false (by decide)
theorem lnm : ((("least" : Str)) = "most") = False:=eq_false (by decide)
theorem siL (s : Bool) : (siS s = "least") = (s = true):=by cases s <;> simp [siS] <;> decide
theorem siM (s : Bool) : (siS s = "most") = (s = false):=by cases s <;> simp [siS] <;> decide
theorem kiE (s : Bool) : (kiS s = "early") = (s = true):=by cases s <;> simp [kiS] <;> decide
theorem kiL (s : Bool) : (kiS s = "late") = (s = false):=by cases s <;> simp [kiS] <;> decide
theorem kiK (s t : Bool) : (kiS s = kiS t) = (s = t):=by cases s <;> cases t <;> simp [kiS] <;> decide
theorem siI (s t : Bool) : (siS s = siS t) = (s = t):=by cases s <;> cases t <;> simp [siS] <;> decide
theorem dtt (s : Bool) : decide (s = true) = s:=by cases s <;> rfl
theorem dff (s : Bool) : decide (s = false) = !s:=by cases s <;> rfl
theorem cst0 : ((0 : Nat) : Int) = 0:=rfl
theorem cst1 : ((0 + 1 : Nat) : Int) = 1:=rfl
theorem cst2 : ((0 + 1 + 1 : Nat) : Int) = 2:=rfl
theorem cst3 : ((0 + 1 + 1 + 1 : Nat) : Int) = 3:=rfl
theorem cst4 : ((0 + 1 + 1 + 1 + 1 : Nat) : Int) = 4:=rfl
theorem cst5 : ((0 + 1 + 1 + 1 + 1 + 1 : Nat) : Int) = 5:=rfl
theorem cst6 : ((0 + 1 + 1 + 1 + 1 + 1 + 1 : Nat) : Int) = 6:=rfl
theorem ZgW (E : Nv) : tgN [] E = some E:=rfl
theorem ZgX (h : D → Nv → Option Nv) (hs : List D → Nv → Option Nv) (d : D) (ds : List D) (E : Nv) : tgC h hs (d :: ds) E = (h d E).bind (hs ds):=rfl
theorem Zeu (i : Nat) (d : D) (E : Nv) : Jd i d E = some (E.set i (~~~d)):=rfl
theorem Zev (hs : List D → Nv → Option Nv) (a b : D) (E : Nv) : tgT 2 hs (.lst [a,b]) E = hs [a,b] E:=rfl
theorem Zew (hs : List D → Nv → Option Nv) (a b c : D) (E : Nv) : tgT 3 hs (.lst [a,b,c]) E = hs [a,b,c] E:=rfl
theorem Zex (hs : List D → Nv → Option Nv) (a b c d : D) (E : Nv) : tgT 4 hs (.lst [a,b,c,d]) E = hs [a,b,c,d] E:=rfl
theorem Zey (hs : List D → Nv → Option Nv) (a b : D) (E : Nv) : tgT 2 hs (.tup [a,b]) E = hs [a,b] E:=rfl
theorem Zez (hs : List D → Nv → Option Nv) (a b c : D) (E : Nv) : tgT 3 hs (.tup [a,b,c]) E = hs [a,b,c] E:=rfl
theorem ZeA (hs : List D → Nv → Option Nv) (a b c d : D) (E : Nv) : tgT 4 hs (.tup [a,b,c,d]) E = hs [a,b,c,d] E:=rfl
theorem ZeB (hs : List D → Nv → Option Nv) (a b c d e : D) (E : Nv) : tgT 5 hs (.tup [a,b,c,d,e]) E = hs [a,b,c,d,e] E:=rfl
theorem ZeC (hs : List D → Nv → Option Nv) (a b c d e f : D) (E : Nv) : tgT 6 hs (.tup [a,b,c,d,e,f]) E = hs [a,b,c,d,e,f] E:=rfl
theorem Z2s (i j : Nat) (f : M (List D)) (E : Nv) : Z74 i j f E = anR (f E) fun ds E => match ds with
 | [d,e] => .nx ((E.set i (~~~d)).set j (~~~e))
 | _ => .stk:=by unfold Z74;exact Z14 _ _ _
theorem ZeD {asg : D → Nv → Option Nv} {body : G} {d : D} {ds : List D} {E E1 E2 : Nv} {p : Ent} (a : asg d E = some E1) (b : body E1 = .rt p E2) : Z1i asg body (d :: ds) E = .rt p E2:=by
 show (match asg d E with
  | none => Fl.stk
  | some E1 => match body E1 with
   | .nx E2 => Z1i asg body ds E2
   | .ct E2 => Z1i asg body ds E2
   | .bk E2 => .nx E2
   | .rt p E2 => .rt p E2
   | .er x E2 => .er x E2
   | .stk => Fl.stk) = _
 rw [a];simp only [b]
theorem Zac {α : Type} {l : List α} {emb g : α → D} {c : α → Bool} {f0 : M (List D)} {asg : D → Nv → Option Nv} {cond : M Bool} {elt : M D} {vs : List Nat} {E EA E0 : Nv} {E1 : α → Nv} (h0 : f0 E = .ok (l.map emb) EA) (w : wpe EA vs = E0)
    (h : ∀ x ∈ l,asg (emb x) E0 = some (E1 x) ∧ cond (E1 x) = .ok (c x) (E1 x) ∧ (c x = true → elt (E1 x) = .ok (g x) (E1 x)) ∧ wpe (E1 x) vs = E0) (z : l.length ≤ sizeLine) :
    Z31 f0 asg cond elt vs E = .ok (.l .sh,.lst ((l.filter c).map g)) E0:=by
 have main : ∀ (l : List α) (acc : List D) (E : Nv),wpe E vs = E0 → (∀ x ∈ l,asg (emb x) E0 = some (E1 x) ∧ cond (E1 x) = .ok (c x) (E1 x) ∧ (c x = true → elt (E1 x) = .ok (g x) (E1 x)) ∧ wpe (E1 x) vs = E0) → acc.length + l.length ≤ sizeLine →
     Z4G asg cond elt vs (l.map emb) acc E = .ok (acc ++ (l.filter c).map g) E0:=by
  intro l
  induction l with
  | nil =>
   intro acc E w _ _;show Rs.ok acc (wpe E vs) = _;rw [w,List.filter_nil,List.map_nil,List.append_nil]
  | cons x l ih =>
   intro acc E w h z;obtain ⟨h1,h2,h3,h4⟩:=h x Ya;rw [List.length_cons] at z;show (match asg (emb x) (wpe E vs) with
    | none => Rs.stk
    | some E1 => match cond E1 with
     | .ok true E2 => (match elt E2 with
      | .ok y E3 => if acc.length < sizeLine then Z4G asg cond elt vs (l.map emb) (acc ++ [y]) E3 else .stk
      | _ => .stk)
     | .ok false E2 => Z4G asg cond elt vs (l.map emb) acc E2
     | _ => Rs.stk) = _
   rw [w,h1];simp only [h2];cases q : c x with
   | true =>
    simp only [h3 q];rw [Yj (by omega),ih _ _ h4 (fun y m => h y (Yb _ m)) (by rw [Yh,Yr];omega),List.filter_cons_of_pos q,List.map_cons,Yt];rfl
   | false =>
    simp only;rw [ih _ _ h4 (fun y m => h y (Yb _ m)) (by omega),List.filter_cons_of_neg (by rw [q];exact Bool.false_ne_true)]
 unfold Z31;rw [Zw,h0,Z4d,Zw,main l [] EA w h (by rw [List.length_nil];omega),Z4d,List.nil_append];rfl
theorem ZgY {α : Type} {l : List α} {emb g : α → D} {f0 : M (List D)} {asg : D → Nv → Option Nv} {elt : M D} {vs : List Nat} {E EA E0 : Nv} {E1 : α → Nv} (h0 : f0 E = .ok (l.map emb) EA) (w : wpe EA vs = E0)
    (h : ∀ x ∈ l,asg (emb x) E0 = some (E1 x) ∧ elt (E1 x) = .ok (g x) (E1 x) ∧ wpe (E1 x) vs = E0) (z : l.length ≤ sizeLine) :
    Z31 f0 asg (Zr true) elt vs E = .ok (.l .sh,.lst (l.map g)) E0:=by
 have r:=Zac (c:=fun _ => true) (cond:=Zr true) h0 w (fun x m => ⟨(h x m).1,rfl,fun _ => (h x m).2.1,(h x m).2.2⟩) z;rw [List.filter_eq_self.mpr fun _ _ => rfl] at r;exact r
def idxN (n : Nat) : D → Option Nat
 | .int i => if 0 ≤ i ∧ i < (n : Int) then some i.toNat else none
 | _ => none
def wayR (gap : List Gp) : Nat → List D → Option Nat
 | here,[] => some here
 | here,x :: r => match (idxN gap.length x).bind (fun i => gap[i]?) with
  | some g => if g.a = here then wayR gap g.b r else none
  | none => none
theorem Zbt {gap : List Gp} {here i : Nat} {x : D} {r : List D} {g : Gp} (h : idxN gap.length x = some i) (hg : gap[i]? = some g) : wayR gap here (x :: r) = if g.a = here then wayR gap g.b r else none:=by
 show (match (idxN gap.length x).bind (fun i => gap[i]?) with
  | some g => if g.a = here then wayR gap g.b r else none
  | none => none) = _
 rw [h];show (match gap[i]? with
  | some g => if g.a = here then wayR gap g.b r else none
  | none => none) = _
 rw [hg]
def wayB (gap : List Gp) (a c : Nat) (t : D) : Bool:=match t with
 | .tup xs => (match wayR gap a xs with
  | some h => decide (h = c)
  | none => false)
 | _ => false
def iD (i : Nat) : D:=.int (i : Nat)
def gAt (gap : List Gp) (i : Nat) : Int:=(gap[i]?.map Gp.g).getD 0
def sumG (gap : List Gp) (is : List Nat) : Int:=(is.map (gAt gap)).sum
inductive Sc where
 | told (i : Nat)
 | sure (i : Nat)
deriving DecidableEq
def Sc.d : Sc → D
 | .told i => .tup [.str "told",.int (i : Nat)]
 | .sure i => .tup [.str "sure",.int (i : Nat)]
def Sc.ok (b : Bk) : Sc → Prop
 | .told i => i < b.tel.length
 | .sure i => i < b.sur.length
def scOf (b : Bk) : D → Option Sc
 | .tup [.str s,x] => if s = "told" then (idxN b.tel.length x).map .told else if s = "sure" then (idxN b.sur.length x).map .sure else none
 | _ => none
def evS (b : Bk) : Sc → Nat
 | .told i => (b.tel[i]?.map Tl.e).getD 0
 | .sure i => (b.sur[i]?.map Sr.e).getD 0
def nuS (b : Bk) : Sc → Int
 | .told i => (b.tel[i]?.map Tl.x).getD 0
 | .sure i => (b.sur[i]?.map Sr.x).getD 0
def loS (b : Bk) : Sc → Bool
 | .told _ => true
 | .sure i => (b.sur[i]?.map Sr.s).getD false
def hiS (b : Bk) : Sc → Bool
 | .told _ => true
 | .sure i => (b.sur[i]?.map fun t => !t.s).getD false
def wiS (b : Bk) : Sc → Option Nat
 | .told i => b.tel[i]?.map Tl.w
 | .sure _ => none
theorem Sc.getT {b : Bk} {i : Nat} (h : (Sc.told i).ok b) : b.tel[i]? = some (b.tel[i]'h):=Ym h
theorem ThL.len {k N : Nat} {xs : List D} (h : ThL k N xs) : xs.length ≤ N:=by
 obtain ⟨⟨ps,h1,h2,h3,h4,h5,h6,h7⟩,o⟩:=h;have e : ∀ {xs : List D} {ps : List PyData},toPs xs = some ps → xs.length ≤ PyData.bulkAll ps:=by
  intro xs
  induction xs with
  | nil => intro ps _;exact Nat.zero_le _
  | cons x xs ih =>
   intro ps h;obtain ⟨p,qs,e1,e2,rfl⟩:=Z5T h;have:=ih e2;unfold PyData.bulkAll;rw [List.length_cons];omega
 exact Nat.le_trans (e h1) h7
def sumW (gap : List Gp) : D → Int
 | .tup xs => (xs.map fun x => match idxN gap.length x with
  | some i => gAt gap i
  | none => 0).sum
 | _ => 0
theorem Z4w {n i : Nat} (h : i < n) : idxN n (iD i) = some i:=by
 show (if 0 ≤ (i : Int) ∧ (i : Int) < (n : Int) then some (i : Int).toNat else none) = _;rw [Yj ⟨by omega,by omega⟩,Int.toNat_natCast]
theorem ZeE {gap : List Gp} {is : List Nat} (h : ∀ i ∈ is,i < gap.length) : sumW gap (.tup (is.map iD)) = sumG gap is:=by
 show ((is.map iD).map _).sum = (is.map (gAt gap)).sum;rw [List.map_map]
 congr 1
 refine List.map_congr_left fun i m => ?_;show (match idxN gap.length (iD i) with
  | some i => gAt gap i
  | none => 0) = _
 rw [Z4w (h i m)]
def ZeF (b : Bk) (t : D) : Bool:=match t with
 | .tup [x,y,z] => (match scOf b x,scOf b z with
  | some s,some e => loS b s && (hiS b e && (wayB b.gap (evS b s) (evS b e) y && decide (nuS b e < nuS b s + sumW b.gap y)))
  | _,_ => false)
 | _ => false
theorem ZeG (b : Bk) (x y z : D) : ZeF b (.tup [x,y,z]) = (match scOf b x,scOf b z with
    | some s,some e => loS b s && (hiS b e && (wayB b.gap (evS b s) (evS b e) y && decide (nuS b e < nuS b s + sumW b.gap y)))
    | _,_ => false):=rfl
abbrev Lit:=Nat × Bool
def Jb (l : Lit) : D:=.tup [.int (l.1 : Nat),.str (kiS l.2)]
def Zc7 (wi : Nat) : D → Option Lit
 | .tup [x,.str s] => (match idxN wi x with
  | some w => if s = "early" then some (w,true) else if s = "late" then some (w,false) else none
  | none => none)
 | _ => none
theorem Z91 {wi : Nat} {i : Nat} {k : Bool} (h : i < wi) : Zc7 wi (.tup [.int (i : Nat),.str (kiS k)]) = some (i,k):=by
 show (match idxN wi (iD i) with
  | some w => if kiS k = "early" then some (w,true) else if kiS k = "late" then some (w,false) else none
  | none => none) = _
 rw [Z4w h];cases k <;> rfl
def Z5p (b : Bk) (s e : Sc) : List (Lit × Lit):=match wiS b s,wiS b e with
 | none,none => []
 | none,some v => [((v,false),(v,true))]
 | some w,none => [((w,true),(w,false))]
 | some w,some v => [((w,true),(v,true)),((v,false),(w,false))]
def Z6L (c : Cl) : List (Lit × Lit):=[((c.w,!c.k),(c.v,c.l)),((c.v,!c.l),(c.w,c.k))]
def frR (o : Option (Option Ent)) (i : Nat) (g : G) (E : Nv) : Fl:=match o with
 | some (some (_,d)) => g (E.set i (~~~d))
 | _ => g E
theorem Z1r (i : Nat) (g : G) (E : Nv) : frzS i g E = frR (E[i]?) i g E:=by
 unfold frzS frR;rcases E[i]? with _ | _ | ⟨t,d⟩ <;> rfl
theorem Z2C (t : Ow) (d : D) (i : Nat) (g : G) (E : Nv) : frR (some (some (t,d))) i g E = g (E.set i (~~~d)):=rfl
def rvR (o : Option (Option Ent)) (i : Nat) (E : Nv) : Fl:=match o with
 | some (some p) => .rt p (E.set i none)
 | _ => .stk
theorem Z7R (i : Nat) (E : Nv) : Z9v i E = rvR (E[i]?) i E:=by
 unfold Z9v rvR;rcases E[i]? with _ | _ | p <;> rfl
theorem ZeH (p : Ent) (i : Nat) (E : Nv) : rvR (some (some p)) i E = .rt p (E.set i none):=rfl
def muC (o : Option (D × List D)) (i : Nat) (E : Nv) : Rs D:=match o with
 | some (z,ds') => if Z2X ds'.length = true then .ok z (putL i ds' E) else .stk
 | none => .stk
def muB (o : Option (List D)) (as : List D) (g : List D → List D → Option (D × List D)) (i : Nat) (E : Nv) : Rs D:=match o with
 | some ds => muC (g ds as) i E
 | none => .stk
def muA (o : Option (List D)) (g : List D → List D → Option (D × List D)) (i : Nat) (fs : M (List D)) (E : Nv) : Rs D:=match o with
 | some _ => bdR (fs E) fun as E => muB (owR (E[i]?)) as g i E
 | none => .stk
theorem Z4x (i : Nat) (g : List D → List D → Option (D × List D)) (fs : M (List D)) (E : Nv) : mutM i g fs E = muA (owR (E[i]?)) g i fs E:=by
 unfold mutM muA;rw [Z6d];cases owR (E[i]?) with
 | none => rfl
 | some ds =>
  simp only [Zw]
  congr 1
theorem Z6M (ds : List D) (g : List D → List D → Option (D × List D)) (i : Nat) (fs : M (List D)) (E : Nv) : muA (some ds) g i fs E = bdR (fs E) fun as E => muB (owR (E[i]?)) as g i E:=rfl
theorem Z6N (ds as : List D) (g : List D → List D → Option (D × List D)) (i : Nat) (E : Nv) : muB (some ds) as g i E = muC (g ds as) i E:=rfl
theorem ZeI (z : D) (ds : List D) (i : Nat) (E : Nv) (h : ds.length ≤ sizeLine) : muC (some (z,ds)) i E = .ok z (putL i ds E):=Yj (Z32 h)
theorem Z7S (ds : List D) (y : D) (h : ds.length < sizeLine) : appG ds [y] = some (.non,ds ++ [y]):=Yj h
theorem lenA (xs : List D) (y : D) : (xs ++ [y]).length = xs.length + 1:=by rw [Yh,Yr]
theorem rng0 (n : Nat) : rng 0 n = (List.range n).map iD:=by
 unfold rng
 congr 1
 funext i
 unfold iD;rw [Int.zero_add]
theorem Z2D (n : Nat) (h : n ≤ 1000000000) : Z3G [.int (n : Nat)] = some ((List.range n).map iD):=by
 rw [Z8S n (by omega) (by omega),Int.toNat_natCast,rng0]
theorem Zbu {α : Type} {f : α → D} (h : ∀ x,Lay (f x)) (l : List α) : ∀ x ∈ l.map f,Lay x:=fun x m => by
 obtain ⟨y,_,rfl⟩:=Ye.mp m;exact h y
def Z92 (b : Bk) : D → List (Lit × Lit)
 | .tup [x,_,z] => (match scOf b x,scOf b z with
  | some s,some e => Z5p b s e
  | _,_ => [])
 | _ => []
def whyB (b : Bk) (l m : Lit) : D → Bool
 | .tup [.str s,v] => if s = "clause" then (match (idxN b.cla.length v).bind (fun i => b.cla[i]?) with
     | some c => decide ((l,m) ∈ Z6L c)
     | none => false)
  else if s = "link" then ZeF b v && decide ((l,m) ∈ Z92 b v) else false
 | _ => false
def ZgZ (b : Bk) : D → Bool
 | .tup [x,y,z] => (match Zc7 b.wi x,Zc7 b.wi z with
  | some l,some m => whyB b l m y
  | _,_ => false)
 | _ => false
theorem ZeJ (b : Bk) (x y z : D) : ZgZ b (.tup [x,y,z]) = (match Zc7 b.wi x,Zc7 b.wi z with
    | some l,some m => whyB b l m y
    | _,_ => false):=rfl
def scs (b : Bk) : List Sc:=(List.range b.tel.length).map Sc.told ++ (List.range b.sur.length).map Sc.sure
theorem ZeK {b : Bk} {s : Sc} (h : s ∈ scs b) : s.ok b:=by
 rcases Yd.mp h with m | m
 · obtain ⟨i,hi,rfl⟩:=Ye.mp m;exact List.mem_range.mp hi
 · obtain ⟨i,hi,rfl⟩:=Ye.mp m;exact List.mem_range.mp hi
theorem ZhU {f0 : M (List D)} {asg : D → Nv → Option Nv} {elt : M D} {vs : List Nat} {I : Nv → Prop} {p : D → Prop} {ds : List D} {E EA : Nv} (h0 : f0 E = .ok ds EA) (i : I (wpe EA vs)) (h : ∀ d ∈ ds,∀ E,I E → ∃ E1 E2 y,asg d E = some E1 ∧ elt E1 = .ok y E2 ∧ I (wpe E2 vs) ∧ p y) (z : ds.length ≤ sizeLine) :
    ∃ ys E',Z31 f0 asg (Zr true) elt vs E = .ok (.l .sh,.lst ys) E' ∧ I E' ∧ ys.length = ds.length ∧ ∀ y ∈ ys,p y:=by
 obtain ⟨ys,E',e,i',l,q⟩:=Z7I (asg:=asg) (cond:=Zr true) (elt:=elt) (vs:=vs) (I:=I) (p:=p) (ds:=ds) (acc:=[]) (E:=EA) i (fun d m E hE => by
  obtain ⟨E1,E2,y,h1,h2,h3,h4⟩:=h d m E hE;exact ⟨E1,E2,y,h1,rfl,h2,h3,h4⟩) (by rw [List.length_nil];omega)
 refine ⟨ys,E', ?_,i',l,q⟩;unfold Z31;rw [Zw,h0,Z4d,Zw,e,Z4d,List.nil_append];rfl
def ixB (o : Option (List D)) (y : D) (E : Nv) : Rs D:=match o with
 | some ds => ofO (ixD (.lst ds) y) E
 | none => .stk
def ixA (o : Option (List D)) (i : Nat) (fi : M D) (E : Nv) : Rs D:=match o with
 | some _ => bdR (fi E) fun y E2 => ixB (owR (E2[i]?)) y E2
 | none => .stk
theorem ZeL (i : Nat) (fi : M D) (E : Nv) : ixoM i fi E = ixA (owR (E[i]?)) i fi E:=by
 unfold ixoM ixA;rw [Z6d];cases owR (E[i]?) with
 | none => rfl
 | some ds =>
  simp only [Zw]
  congr 1
theorem Zh0 (ds : List D) (i : Nat) (fi : M D) (E : Nv) : ixA (some ds) i fi E = bdR (fi E) fun y E2 => ixB (owR (E2[i]?)) y E2:=rfl
theorem Zh1 (ds : List D) (y : D) (E : Nv) : ixB (some ds) y E = ofO (ixD (.lst ds) y) E:=rfl
theorem ZeM (B : Bg) {m : Int} (h : 0 < m) (h2 : m < 1267650600228229401496703205376) : ∃ (B2 : Bg) (i : Nat) (O : Nv),Z3 [(.l .sh,.lst B.1),(.sh,.int m)] = .ok (.sh,.int (i : Nat)) (some (.l .sh,.lst B2.1) :: O) ∧ (i : Int) < m :=
 ⟨_,_,_,Zen h h2,ZiE h⟩
theorem oneL (B : Bg) {xs : List D} (h : 0 < xs.length) (h2 : xs.length < 1267650600228229401496703205376) : ∃ (B2 : Bg) (x : D) (O : Nv),Z1h [(.l .sh,.lst B.1),(.sh,.lst xs)] = .ok (.sh,x) (some (.l .sh,.lst B2.1) :: O) ∧ x ∈ xs :=
 ⟨_,_,_,ZgP h h2,Zbo h⟩
theorem ZiF (B : Bg) : ∃ (B2 : Bg) (k : Bool) (O : Nv),Zo [(.l .sh,.lst B.1)] = .ok (.sh,.str (kiS k)) (some (.l .sh,.lst B2.1) :: O):=⟨_,_,_,Zeo B⟩
theorem Zh2 (B : Bg) {ev wi : Nat} {m : Int} (h1 : ev ≤ 8) (h2 : wi ≤ 8) (h3 : 0 ≤ m) (h4 : m ≤ 20) : ∃ (B2 : Bg) (p : P4) (O : Nv),ZF [(.l .sh,.lst B.1),(.sh,.int (ev : Nat)),(.sh,.int (wi : Nat)),(.sh,.int m)] = .ok (.l (.l .sh),.lst p.l) (some (.l .sh,.lst B2.1) :: O) ∧ DrawnP ev wi m p:=⟨_,_,_,Zbq h1 h2 h3 h4,ZgS h3⟩
theorem Sc.th {b : Bk} (hb : BkO b) {s : Sc} (h : s.ok b) : Th 1 6 s.d:=by
 cases s with
 | told i =>
  have : i < b.tel.length:=h;have:=hb.tn;exact (Z44 (ZH (Z6K (n:=4) (by decide +kernel) (by decide +kernel) (by decide +kernel)) (Z2V (th_n (by omega))))).up (by decide) (by decide)
 | sure i =>
  have : i < b.sur.length:=h;have:=hb.sn;exact (Z44 (ZH (Z6K (n:=4) (by decide +kernel) (by decide +kernel) (by decide +kernel)) (Z2V (th_n (by omega))))).up (by decide) (by decide)
theorem ZeN {l : Lit} (h : l.1 ≤ 100) : Th 1 7 (Jb l):=(Z44 (ZH (th_n (by omega)) (Z2V (Zer _)))).up (by decide) (by decide)
def WI (b : Bk) (k : Int) (t : D) (cs : List D) (s4 s5 : Option Ent) : Nv:=[~~~b.d,~~~(.int k),~~~t,~~~(.lst cs),s4,s5]
inductive It where
 | t (t : Tl)
 | g (t : Gp)
 | s (t : Sr)
 | c (t : Cl)
def It.d : It → D
 | .t x => x.d
 | .g x => x.d
 | .s x => x.d
 | .c x => x.d
def It.n : It → Str
 | .t _ => "tellings"
 | .g _ => "gaps"
 | .s _ => "sure"
 | .c _ => "clauses"
def It.k : It → Int
 | .t _ => 0
 | .g _ => 1
 | .s _ => 2
 | .c _ => 3
def Mid (x : Int) : Prop:=-100000000000000 ≤ x ∧ x ≤ 100000000000000
def It.ok (b : Bk) : It → Prop
 | .t x => x.w < b.wi ∧ x.e < b.ev ∧ Mid x.x
 | .g x => x.a < b.ev ∧ x.b < b.ev ∧ x.a ≠ x.b ∧ Mid x.g
 | .s x => x.e < b.ev ∧ Mid x.x
 | .c x => x.w < b.wi ∧ x.v < b.wi
def Wp (Q : Fl → Prop) (r : Fl) : Prop:=Q r
def nxQ (I : Nv → Prop) : Fl → Prop:=fun r => ∃ E,r = .nx E ∧ I E
def okQ (J : Ent → Nv → Prop) : Fl → Prop:=fun r => ∃ p O,rnF r = .ok p O ∧ J p O
theorem ZiG {I : Nv → Prop} {E : Nv} (h : I E) : Wp (nxQ I) (.nx E):=⟨E,rfl,h⟩
theorem ZiH {J : Ent → Nv → Prop} {p : Ent} {E : Nv} (h : J p E) : Wp (okQ J) (.rt p E):=⟨p,E,rfl,h⟩
theorem ZiI {N : Nat} {g : G} {as : List Ent} {J : Ent → Nv → Prop} (h : Wp (okQ J) (g (as.map some ++ List.replicate (N - as.length) none))) : ∃ p O,Jj N g as = .ok p O ∧ J p O:=by
 obtain ⟨p,O,e,j⟩:=h;exact ⟨p,O,by rw [Z3O];exact e,j⟩
theorem Z4S {I : Nv → Prop} {asg : D → Nv → Option Nv} {body : G} : ∀ {ds : List D} {E : Nv},I E → (∀ d ∈ ds,∀ E,I E → ∃ E1,asg d E = some E1 ∧ Wp (nxQ I) (body E1)) → ∃ E',Z1i asg body ds E = .nx E' ∧ I E'
 | [],E,i,_ => ⟨E,rfl,i⟩
 | d :: ds,E,i,h => by
  obtain ⟨E1,a,E2,b,i2⟩:=h d Ya E i;obtain ⟨E',e,i'⟩:=Z4S (ds:=ds) i2 fun d' m => h d' (Yb _ m);exact ⟨E',by rw [Zd a b];exact e,i'⟩
theorem Zbv {Q : Fl → Prop} {k : G} {I : Nv → Prop} {asg : D → Nv → Option Nv} {body : G} {ds : List D} {E : Nv} (i : I E) (h : ∀ d ∈ ds,∀ E,I E → ∃ E1,asg d E = some E1 ∧ Wp (nxQ I) (body E1)) (q : ∀ E',I E' → Wp Q (k E')) : Wp Q (thF (Z1i asg body ds E) k):=by
 obtain ⟨E',e,i'⟩:=Z4S i h;rw [e];exact q E' i'
theorem Z6l {α : Type} {emb : α → D} {asg : D → Nv → Option Nv} {body : G} {S : Nat → Nv → Prop} : ∀ {l : List α} {E : Nv} {n : Nat},S n E → (∀ (j : Nat) (x : α) E,l[j]? = some x → S (n + j) E → ∃ E1 E2,asg (emb x) E = some E1 ∧ body E1 = .nx E2 ∧ S (n + j + 1) E2) → ∃ E',Z1i asg body (l.map emb) E = .nx E' ∧ S (n + l.length) E'
 | [],E,n,s,_ => ⟨E,rfl,s⟩
 | x :: l,E,n,s,h => by
  obtain ⟨E1,E2,a,b,s2⟩:=h 0 x E rfl s;obtain ⟨E',e,s'⟩:=Z6l (l:=l) (n:=n + 1) s2 fun j y E hj hs => by
   obtain ⟨E3,E4,q1,q2,q3⟩:=h (j + 1) y E (by simpa using hj) (by rw [show n + (j + 1) = n + 1 + j by omega];exact hs);exact ⟨E3,E4,q1,q2,by rw [show n + 1 + j + 1 = n + (j + 1) + 1 by omega];exact q3⟩
  refine ⟨E', ?_,by rw [List.length_cons,show n + (l.length + 1) = n + 1 + l.length by omega];exact s'⟩;rw [List.map_cons,Zd a b];exact e
theorem Z7T {α : Type} {emb g : α → D} {asg : D → Nv → Option Nv} {cond : M Bool} {elt : M D} {vs : List Nat} {I : Nv → Prop} : ∀ {l : List α} {acc : List D} {E : Nv},I (wpe E vs) → (∀ x ∈ l,∀ E,I E → ∃ E1,asg (emb x) E = some E1 ∧ ((∃ E2,cond E1 = .ok false E2 ∧ I (wpe E2 vs)) ∨ (∃ E2 E3,cond E1 = .ok true E2 ∧ elt E2 = .ok (g x) E3 ∧ I (wpe E3 vs)))) → acc.length + l.length ≤ sizeLine →
    ∃ (ys : List α) (E' : Nv),Z4G asg cond elt vs (l.map emb) acc E = .ok (acc ++ ys.map g) E' ∧ I E' ∧ (∀ y ∈ ys,y ∈ l) ∧ ys.length ≤ l.length
 | [],acc,E,i,_,_ => ⟨[],wpe E vs,by rw [List.map_nil,List.map_nil,List.append_nil];rfl,i,(fun _ m => nomatch m),Nat.le_refl _⟩
 | x :: l,acc,E,i,h,z => by
  rw [List.length_cons] at z;obtain ⟨E1,h1,h2⟩:=h x Ya _ i;have un : ∀ r : Rs (List D),(match asg (emb x) (wpe E vs) with
      | none => Rs.stk
      | some E1 => match cond E1 with
       | .ok true E2 => (match elt E2 with
        | .ok y E3 => if acc.length < sizeLine then Z4G asg cond elt vs (l.map emb) (acc ++ [y]) E3 else .stk
        | _ => .stk)
       | .ok false E2 => Z4G asg cond elt vs (l.map emb) acc E2
       | _ => Rs.stk) = r → Z4G asg cond elt vs ((x :: l).map emb) acc E = r:=fun r h => h
  rcases h2 with ⟨E2,c1,i2⟩ | ⟨E2,E3,c1,c2,i2⟩
  · obtain ⟨ys,E',e,i',q,n⟩:=Z7T (l:=l) (acc:=acc) (E:=E2) i2 (fun y m => h y (Yb _ m)) (by omega);refine ⟨ys,E',un _ ?_,i',fun y m => Yb _ (q y m),by rw [List.length_cons];omega⟩;rw [h1];simp only [c1];exact e
  · obtain ⟨ys,E',e,i',q,n⟩:=Z7T (l:=l) (acc:=acc ++ [g x]) (E:=E3) i2 (fun y m => h y (Yb _ m)) (by rw [Yh,Yr];omega);refine ⟨x :: ys,E',un _ ?_,i',fun y m => ?_,by rw [List.length_cons,List.length_cons];omega⟩
    · rw [h1];simp only [c1,c2];rw [Yj (by omega),e,Yt];rfl
    · rcases Yc.mp m with rfl | m
      · exact Ya
      · exact Yb _ (q y m)
theorem ZiJ {α : Type} {emb g : α → D} {f0 : M (List D)} {asg : D → Nv → Option Nv} {cond : M Bool} {elt : M D} {vs : List Nat} {I : Nv → Prop} {l : List α} {E EA : Nv} (h0 : f0 E = .ok (l.map emb) EA) (i : I (wpe EA vs)) (h : ∀ x ∈ l,∀ E,I E → ∃ E1,asg (emb x) E = some E1 ∧ ((∃ E2,cond E1 = .ok false E2 ∧ I (wpe E2 vs)) ∨ (∃ E2 E3,cond E1 = .ok true E2 ∧ elt E2 = .ok (g x) E3 ∧ I (wpe E3 vs)))) (z : l.length ≤ sizeLine) :
    ∃ (ys : List α) (E' : Nv),Z31 f0 asg cond elt vs E = .ok (.l .sh,.lst (ys.map g)) E' ∧ I E' ∧ (∀ y ∈ ys,y ∈ l) ∧ ys.length ≤ l.length:=by
 obtain ⟨ys,E',e,i',q,n⟩:=Z7T (asg:=asg) (cond:=cond) (elt:=elt) (vs:=vs) (I:=I) (acc:=[]) (E:=EA) i h (by rw [List.length_nil];omega);refine ⟨ys,E', ?_,i',q,n⟩;unfold Z31;rw [Zw,h0,Z4d,Zw,e,Z4d,List.nil_append];rfl
theorem Z45 : ∀ l : List Int,flats (l.map D.int) = some (l.map V.int)
 | [] => rfl
 | i :: l => by
  show (match flat (D.int i),flats (l.map D.int) with
   | some v,some vs => some (v :: vs)
   | _,_ => none) = _
  rw [Z45 l];rfl
theorem Z5q (l : List Int) : (l.map V.int).all flatV = true:=by
 rw [List.all_eq_true];intro x m;obtain ⟨i,_,rfl⟩:=Ye.mp m;rfl
theorem Z7U (i : Int) (l : List Int) : inV (.int i) (l.map V.int) = decide (i ∈ l):=by
 unfold inV;rw [Bool.eq_iff_iff];simp only [List.any_map,List.any_eq_true,Function.comp,decide_eq_true_eq];constructor
 · rintro ⟨x,m,e⟩
   have : x = i:=by simpa [eqV] using e
   subst this;exact m
 · exact fun m => ⟨i,m,by simp [eqV]⟩
theorem Zbw (i : Int) (l : List Int) : inD (.int i) (.lst (l.map D.int)) = some (.bl (decide (i ∈ l))):=by
 have e : Z4D (.int i) (.lst (l.map D.int)) = some (decide (i ∈ l)):=by
  unfold Z4D;simp only [show flat (D.int i) = some (V.int i) from rfl,show Z3u (.lst (l.map D.int)) = some (l.map D.int) from rfl,Z45];rw [Yj ⟨rfl,Z5q l⟩,Z7U]
 unfold inD inB;rw [e];rfl
theorem Zbx (i : Int) (l : List Int) : inD (.int i) (.tup (l.map D.int)) = some (.bl (decide (i ∈ l))):=by
 have e : Z4D (.int i) (.tup (l.map D.int)) = some (decide (i ∈ l)):=by
  unfold Z4D;simp only [show flat (D.int i) = some (V.int i) from rfl,show Z3u (.tup (l.map D.int)) = some (l.map D.int) from rfl,Z45];rw [Yj ⟨rfl,Z5q l⟩,Z7U]
 unfold inD inB;rw [e];rfl
theorem Z6m (l : List Nat) : l.map iD = (l.map fun i : Nat => (i : Int)).map D.int:=by rw [List.map_map];rfl
theorem Z7V (i : Nat) (l : List Nat) : ((i : Int) ∈ l.map fun i : Nat => (i : Int)) ↔ i ∈ l:=by
 rw [Ye];constructor
 · rintro ⟨j,m,e⟩
   have : j = i:=by omega
   subst this;exact m
 · exact fun m => ⟨i,m,rfl⟩
theorem Z7W (i : Nat) (l : List Nat) : inD (.int (i : Nat)) (.lst (l.map iD)) = some (.bl (decide (i ∈ l))):=by
 rw [Z6m,Zbw];simp only [Z7V]
theorem Zby (i : Nat) (l : List Nat) : inD (.int (i : Nat)) (.tup (l.map iD)) = some (.bl (decide (i ∈ l))):=by
 rw [Z6m,Zbx];simp only [Z7V]
def fiR : Option (Option Ent) → Nat → G → G
 | some (some (.l _,d)),i,g => fun E => g (E.set i (some (.l .sh,d)))
 | _,_,g => g
theorem Z6n (i : Nat) (g : G) (E : Nv) : Z6D i g E = fiR (E[i]?) i g E:=by
 unfold Z6D fiR
 split <;> simp_all
theorem ZhV (t : Ow) (d : D) (i : Nat) (g : G) (E : Nv) : fiR (some (some (.l t,d))) i g E = g (E.set i (some (.l .sh,d))):=rfl
theorem Z7X {α : Type} {f : α → D} (h : ∀ x,imm (f x) = true) : ∀ l : List α,immL (l.map f) = true
 | [] => rfl
 | x :: l => by
  show (imm (f x) && immL (l.map f)) = true;rw [h x,Z7X h l];rfl
mutual
def pl : D → Bool
 | .non => true
 | .int _ => true
 | .str _ => true
 | .lst xs => plL xs
 | .tup xs => plL xs
 | .bl _ => false
 | .dct _ _ => false
 | .ins _ _ _ => false
 | .ty _ => false
 | .cl _ => false
 | .frl _ => false
 | .ldc _ _ => false
def plL : List D → Bool
 | [] => true
 | x :: r => pl x && plL r
end
def Tl.tn (t : Tl) : Tl:=⟨t.w,t.e,-t.x⟩
def Gp.tn (t : Gp) : Gp:=⟨t.b,t.a,t.g⟩
def Sr.tn (t : Sr) : Sr:=⟨t.e,!t.s,-t.x⟩
def Cl.tn (t : Cl) : Cl:=⟨t.w,!t.k,t.v,!t.l⟩
def Bk.tn (b : Bk) : Bk:=⟨b.ev,b.wi,b.tel.map Tl.tn,b.gap.map Gp.tn,b.sur.map Sr.tn,b.cla.map Cl.tn⟩
def nat0 (l : List Nat) (i : Nat) : Nat:=l.getD i 0
def Bk.st (os : List Nat) (b : Bk) : Bk:=⟨b.ev,b.wi,b.tel.filter (fun t => !decide (t.w ∈ os)),b.gap,b.sur,b.cla.filter (fun t => !decide (t.w ∈ os) && !decide (t.v ∈ os))⟩
structure Nm (n : Nat) (l : List Nat) : Prop where
 len : l.length = n
 lt : ∀ i ∈ l,i < n
 nd : l.Nodup
theorem Nm.at {n : Nat} {l : List Nat} (h : Nm n l) {i : Nat} (hi : i < n) : nat0 l i < n:=by
 unfold nat0;rw [List.getD_eq_getElem?_getD,Ym (by rw [h.len];exact hi)];exact h.lt _ (List.getElem_mem _)
theorem Nm.inj {n : Nat} {l : List Nat} (h : Nm n l) {i j : Nat} (hi : i < n) (hj : j < n) (e : nat0 l i = nat0 l j) : i = j:=by
 unfold nat0 at e;rw [List.getD_eq_getElem?_getD,List.getD_eq_getElem?_getD,Ym (by rw [h.len];exact hi),Ym (by rw [h.len];exact hj)] at e;exact (List.getElem_inj h.nd).mp e
theorem Z93 (i : Nat) (l : List Nat) : ninD (.int (i : Nat)) (.lst (l.map iD)) = some (.bl (!decide (i ∈ l))):=by
 have h:=Z7W i l;unfold inD at h;unfold ninD;cases q : inB (.int (i : Nat)) (.lst (l.map iD)) with
 | none => rw [q] at h;cases h
 | some k => rw [q] at h;cases h;rfl
theorem ZeO (bs : List Bool) : allD [.lst (bs.map .bl)] = some (.bl (bs.all id)):=by
 have:=allB (fun d => match d with | .bl b => b | _ => false) (bs.map .bl);rw [List.map_map] at this;have e : (fun d => D.bl (match d with | .bl b => b | _ => false)) ∘ D.bl = D.bl:=by funext b;rfl
 rw [e] at this;rw [this,List.all_map];rfl
structure BkL (b : Bk) : Prop where
 e8 : b.ev ≤ 8
 w8 : b.wi ≤ 8
 t : ∀ t ∈ b.tel,TlOk b.ev b.wi t
 g : ∀ t ∈ b.gap,GpOk b.ev t
 s : ∀ t ∈ b.sur,SrOk b.ev t
 c : ∀ t ∈ b.cla,ClOk b.wi t
def Bk.long (b : Bk) : Prop:=24 < b.tel.length ∨ 24 < b.gap.length ∨ 24 < b.sur.length ∨ 24 < b.cla.length
theorem BkL.ok {b : Bk} (h : BkL b) (n : ¬ b.long) : BkO b:=⟨h.e8,h.w8,h.t,h.g,h.s,h.c,by unfold Bk.long at n;omega,by unfold Bk.long at n;omega,by unfold Bk.long at n;omega,by unfold Bk.long at n;omega⟩
theorem BkO.bl {b : Bk} (h : BkO b) : BkL b:=⟨h.e8,h.w8,h.t,h.g,h.s,h.c⟩
def owO (g : D → Option (List D)) : Rs D → Rs Ent
 | .ok d E => (match g d with
  | some ds => if Z2X ds.length = true then .ok (.l .sh,.lst ds) E else .stk
  | none => .stk)
 | .er x E => .er x E
 | .stk => .stk
theorem Z5Q (g : D → Option (List D)) (fa : M D) (E : Nv) : Dl.ZfR g fa E = owO g (fa E):=by
 unfold Dl.ZfR owO bnd;cases fa E <;> rfl
theorem ZiK (xs : List D) (E : Nv) (h : xs.length ≤ sizeLine) : owO Z3u (.ok (.lst xs) E) = .ok (.l .sh,.lst xs) E:=Yj (Z32 h)
theorem ZiL (xs : List D) (E : Nv) (h : xs.length ≤ sizeLine) : owO Z3u (.ok (.tup xs) E) = .ok (.l .sh,.lst xs) E:=Yj (Z32 h)
theorem Zbz (l : List Nat) : immL (l.map iD) = true:=Z7X (fun _ => rfl) l
abbrev Tp:=Nat → Nat → Option (Int × List Nat)
abbrev Ts:=Nat → Nat → Option Int
def upT {α : Type} (f : Nat → Nat → α) (a b : Nat) (x : α) : Nat → Nat → α:=fun u v => if u = a ∧ v = b then x else f u v
def beP (o : Option (Int × List Nat)) (s : Int) : Bool:=match o with
 | none => true
 | some x => decide (x.1 < s)
def beS (o : Option Int) (s : Int) : Bool:=match o with
 | none => true
 | some x => decide (x < s)
def ptP (x y : Option (Int × List Nat)) : Option (Int × List Nat):=match x,y with
 | some p,some q => some (p.1 + q.1,p.2 ++ q.2)
 | _,_ => none
def ptS (x y : Option Int) : Option Int:=match x,y with
 | some p,some q => some (p + q)
 | _,_ => none
def rlP (m a b : Nat) : Except (List Nat) Tp → Except (List Nat) Tp
 | .error w => .error w
 | .ok f => match ptP (f a m) (f m b) with
  | none => .ok f
  | some c => if beP (f a b) c.1 = true then (if a = b then .error c.2 else .ok (upT f a b (some c))) else .ok f
def rlS (m a b : Nat) (h : Ts) : Ts:=match ptS (h a m) (h m b) with
 | none => h
 | some c => if beS (h a b) c = true then upT h a b (some c) else h
def inP : Tp:=fun a b => if a = b then some (0,[]) else none
def inS : Ts:=fun a b => if a = b then some 0 else none
def egP (i : Nat) (t : Gp) (f : Tp) : Tp:=if beP (f t.a t.b) t.g = true then upT f t.a t.b (some (t.g,[i])) else f
def egS (t : Gp) (h : Ts) : Ts:=if beS (h t.a t.b) t.g = true then upT h t.a t.b (some t.g) else h
def wyP (g : List Gp) : Nat → List Nat → Option Nat
 | a,[] => some a
 | a,i :: r => match g[i]? with
  | some t => if t.a = a then wyP g t.b r else none
  | none => none
def smP (g : List Gp) : List Nat → Int
 | [] => 0
 | i :: r => (match g[i]? with | some t => t.g | none => 0) + smP g r
theorem ZbA {g : List Gp} : ∀ {w v : List Nat} {a b : Nat},wyP g a w = some b → wyP g a (w ++ v) = wyP g b v
 | [],v,a,b,h => by cases h;rfl
 | i :: r,v,a,b,h => by
  have h' : (match g[i]? with | some t => if t.a = a then wyP g t.b r else none | none => none) = some b:=h;show (match g[i]? with | some t => if t.a = a then wyP g t.b (r ++ v) else none | none => none) = _;cases q : g[i]? with
  | none => rw [q] at h';cases h'
  | some t =>
   rw [q] at h';simp only at h' ⊢;by_cases c : t.a = a
   · rw [Yj c] at h' ⊢;exact ZbA h'
   · rw [Yk c] at h';cases h'
theorem Z94 (g : List Gp) : ∀ w v : List Nat,smP g (w ++ v) = smP g w + smP g v
 | [],v => by show smP g v = 0 + _;rw [Int.zero_add]
 | i :: r,v => by
  show (match g[i]? with | some t => t.g | none => 0) + smP g (r ++ v) = (match g[i]? with | some t => t.g | none => 0) + smP g r + smP g v;rw [Z94 g r v,Int.add_assoc]
def EnOk (g : List Gp) (f : Tp) : Prop:=∀ a b s w,f a b = some (s,w) → wyP g a w = some b ∧ smP g w = s
structure Sd (n : Nat) (g : List Gp) (f : Tp) (h : Ts) : Prop where
 r : ∀ a b,a < n → b < n → h a b = (f a b).map (·.1)
 d : ∀ a,a < n → f a a = some (0,[])
 w : EnOk g f
def Rl (n : Nat) (g : List Gp) : Except (List Nat) Tp → Ts → Prop
 | .ok f,h => Sd n g f h
 | .error w,h => (∃ a x,a < n ∧ h a a = some x ∧ 0 < x) ∧ ∃ a,a < n ∧ wyP g a w = some a ∧ 0 < smP g w
theorem Z1e {α : Type} (f : Nat → Nat → α) (a b : Nat) (x : α) : upT f a b x a b = x:=Yj ⟨rfl,rfl⟩
theorem Z3c {α : Type} {f : Nat → Nat → α} {a b u v : Nat} {x : α} (h : ¬ (u = a ∧ v = b)) : upT f a b x u v = f u v:=Yk h
theorem ZbB {m a b u : Nat} {h : Ts} {x : Int} (e : h u u = some x) (p : 0 < x) : ∃ y,rlS m a b h u u = some y ∧ 0 < y:=by
 unfold rlS;cases q : ptS (h a m) (h m b) with
 | none => exact ⟨x,e,p⟩
 | some c =>
  simp only;by_cases z : beS (h a b) c = true
  · rw [Yj z];by_cases k : u = a ∧ u = b
    · obtain ⟨rfl,k2⟩:=k;subst k2;rw [Z1e];rw [e] at z;have : x < c:=Yq z;exact ⟨c,rfl,by omega⟩
    · rw [Z3c k];exact ⟨x,e,p⟩
  · rw [Yk z];exact ⟨x,e,p⟩
theorem Z95 (m a b : Nat) (f : Tp) : rlP m a b (.ok f) = (match ptP (f a m) (f m b) with
    | none => .ok f
    | some c => if beP (f a b) c.1 = true then (if a = b then .error c.2 else .ok (upT f a b (some c))) else .ok f):=rfl
theorem Z5r (m a b : Nat) (h : Ts) : rlS m a b h = (match ptS (h a m) (h m b) with
 | none => h
 | some c => if beS (h a b) c = true then upT h a b (some c) else h):=rfl
theorem ZeP {n : Nat} {g : List Gp} {m a b : Nat} (hm : m < n) (ha : a < n) (hb : b < n) {s : Except (List Nat) Tp} {h : Ts} (k : Rl n g s h) : Rl n g (rlP m a b s) (rlS m a b h):=by
 cases s with
 | error w =>
  obtain ⟨⟨u,x,hu,e,p⟩,k2⟩:=k;obtain ⟨y,e2,p2⟩:=ZbB (m:=m) (a:=a) (b:=b) e p;exact ⟨⟨u,y,hu,e2,p2⟩,k2⟩
 | ok f =>
  have k' : Sd n g f h:=k;have r1:=k'.r a m ha hm;have r2:=k'.r m b hm hb;have r3:=k'.r a b ha hb;rw [Z95,Z5r];cases q1 : f a m with
  | none =>
   rw [q1] at r1;rw [r1];exact k
  | some p1 =>
   cases q2 : f m b with
   | none =>
    rw [q2] at r2;rw [r2];cases h a m <;> exact k
   | some p2 =>
    rw [q1] at r1;rw [q2] at r2;rw [r1,r2];have w1:=k'.w a m p1.1 p1.2 q1;have w2:=k'.w m b p2.1 p2.2 q2;have w3 : wyP g a (p1.2 ++ p2.2) = some b:=by rw [ZbA w1.1];exact w2.1
    have w4 : smP g (p1.2 ++ p2.2) = p1.1 + p2.1:=by rw [Z94,w1.2,w2.2]
    simp only [ptP,ptS,Option.map_some];have be : beS (h a b) (p1.1 + p2.1) = beP (f a b) (p1.1 + p2.1):=by
     rw [r3];cases f a b <;> rfl
    rw [be];by_cases z : beP (f a b) (p1.1 + p2.1) = true
    · rw [Yj z,Yj z];by_cases c : a = b
      · subst c;rw [Yj rfl];have dd:=k'.d a ha;rw [dd] at z;have pos : 0 < p1.1 + p2.1:=Yq z;exact ⟨⟨a,p1.1 + p2.1,ha,Z1e _ _ _ _,pos⟩,a,ha,w3,by rw [w4];exact pos⟩
      · rw [Yk c];refine ⟨fun u v hu hv => ?_,fun u hu => ?_,fun u v s w e => ?_⟩
        · by_cases x : u = a ∧ v = b
          · obtain ⟨rfl,rfl⟩:=x;rw [Z1e,Z1e];rfl
          · rw [Z3c x,Z3c x];exact k'.r u v hu hv
        · rw [Z3c (fun x => c (x.1.symm.trans x.2))];exact k'.d u hu
        · by_cases x : u = a ∧ v = b
          · obtain ⟨rfl,rfl⟩:=x;rw [Z1e] at e;cases e;exact ⟨w3,w4⟩
          · rw [Z3c x] at e;exact k'.w u v s w e
    · rw [Yk z,Yk z];exact k
theorem ZeQ {n : Nat} {g : List Gp} {i : Nat} {t : Gp} (e : g[i]? = some t) (ne : t.a ≠ t.b) (ha : t.a < n) (hb : t.b < n) {f : Tp} {h : Ts} (k : Sd n g f h) : Sd n g (egP i t f) (egS t h):=by
 have be : beS (h t.a t.b) t.g = beP (f t.a t.b) t.g:=by
  rw [k.r _ _ ha hb];cases f t.a t.b <;> rfl
 have w3 : wyP g t.a [i] = some t.b:=by
  show (match g[i]? with | some u => if u.a = t.a then wyP g u.b [] else none | none => none) = _;rw [e];show (if t.a = t.a then some t.b else none) = _;rw [Yj rfl]
 have w4 : smP g [i] = t.g:=by
  show (match g[i]? with | some t => t.g | none => 0) + 0 = _;rw [e,Int.add_zero]
 unfold egP egS;rw [be];by_cases z : beP (f t.a t.b) t.g = true
 · rw [Yj z,Yj z];refine ⟨fun u v hu hv => ?_,fun u hu => ?_,fun u v s w e => ?_⟩
   · by_cases x : u = t.a ∧ v = t.b
     · obtain ⟨rfl,rfl⟩:=x;rw [Z1e,Z1e];rfl
     · rw [Z3c x,Z3c x];exact k.r u v hu hv
   · rw [Z3c (fun x => ne (x.1.symm.trans x.2))];exact k.d u hu
   · by_cases x : u = t.a ∧ v = t.b
     · obtain ⟨rfl,rfl⟩:=x;rw [Z1e] at e;cases e;exact ⟨w3,w4⟩
     · rw [Z3c x] at e;exact k.w u v s w e
 · rw [Yk z,Yk z];exact k
theorem ZiM (n : Nat) (g : List Gp) : Sd n g inP inS:=⟨fun a b _ _ => by
 unfold inP inS;by_cases c : a = b
 · rw [Yj c,Yj c];rfl
 · rw [Yk c,Yk c];rfl,fun a _ => Yj rfl,fun a b s w e => by
 unfold inP at e;by_cases c : a = b
 · rw [Yj c] at e;cases e;exact ⟨by rw [c];rfl,rfl⟩
 · rw [Yk c] at e;cases e⟩
def egsP : Nat → List Gp → Tp → Tp
 | _,[],f => f
 | k,t :: l,f => egsP (k + 1) l (egP k t f)
def egsS (l : List Gp) (h : Ts) : Ts:=l.foldl (fun h t => egS t h) h
theorem ZeR {n : Nat} {g : List Gp} : ∀ {l : List Gp} {k : Nat} {f : Tp} {h : Ts},(∀ j t,l[j]? = some t → g[k + j]? = some t) → (∀ t ∈ l,t.a ≠ t.b ∧ t.a < n ∧ t.b < n) → Sd n g f h → Sd n g (egsP k l f) (egsS l h)
 | [],k,f,h,_,_,s => s
 | t :: l,k,f,h,e,o,s => by
  have ot:=o t (Ya ..);have s2:=ZeQ (e 0 t rfl) ot.1 ot.2.1 ot.2.2 s;rw [Nat.add_zero] at s2;exact ZeR (k:=k + 1) (fun j u hu => by rw [show k + 1 + j = k + (j + 1) by omega];exact e (j + 1) u hu) (fun u m => o u (Yb _ m)) s2
structure No (n : Nat) (h : Ts) : Prop where
 c : ∀ a,a < n → h a n = none
 r : ∀ a,a < n → h n a = none
 d : h n n = some 0
theorem ZiN (n : Nat) : No n inS:=⟨fun a ha => Yk (by omega),fun a ha => Yk (by omega),Yj rfl⟩
theorem ZhW {n a b : Nat} (ha : a < n) (hb : b < n) {h : Ts} (k : No n h) (x : Option Int) : No n (upT h a b x):=⟨fun u hu => by rw [Z3c (by omega)];exact k.c u hu,fun u hu => by rw [Z3c (by omega)];exact k.r u hu,by rw [Z3c (by omega)];exact k.d⟩
theorem ZeS {n m a b : Nat} (ha : a < n) (hb : b < n) {h : Ts} (k : No n h) : No n (rlS m a b h):=by
 rw [Z5r]
 split
 · exact k
 · split
   · exact ZhW ha hb k _
   · exact k
theorem ZiO {n : Nat} {t : Gp} (ha : t.a < n) (hb : t.b < n) {h : Ts} (k : No n h) : No n (egS t h):=by
 unfold egS
 split
 · exact ZhW ha hb k _
 · exact k
theorem ZeT {n : Nat} : ∀ {l : List Gp} {h : Ts},(∀ t ∈ l,t.a < n ∧ t.b < n) → No n h → No n (egsS l h)
 | [],h,_,k => k
 | t :: l,h,o,k => ZeT (l:=l) (fun u m => o u (Yb _ m)) (ZiO (o t (Ya ..)).1 (o t (Ya ..)).2 k)
theorem ZhX {n m a b : Nat} (hm : m ≤ n) (ha : a ≤ n) (hb : b ≤ n) (e : m = n ∨ a = n ∨ b = n) {h : Ts} (k : No n h) : rlS m a b h = h:=by
 rw [Z5r];by_cases c1 : a = n
 · subst c1;by_cases c2 : m = a
   · subst c2;by_cases c3 : b = m
     · subst c3;rw [k.d];show (if beS (some 0) (0 + 0) = true then _ else h) = h;rw [Yk (by decide)]
     · rw [k.r b (by omega),k.d];rfl
   · rw [k.r m (by omega)];rfl
 · by_cases c2 : m = n
   · subst c2;rw [k.c a (by omega)];rfl
   · have : b = n:=by omega
     subst this;rw [k.c m (by omega)];cases h a m <;> rfl
def l3P (n m a : Nat) (s : Except (List Nat) Tp) : Except (List Nat) Tp:=(List.range n).foldl (fun s b => rlP m a b s) s
def l2P (n m : Nat) (s : Except (List Nat) Tp) : Except (List Nat) Tp:=(List.range n).foldl (fun s a => l3P n m a s) s
def l1P (n : Nat) (s : Except (List Nat) Tp) : Except (List Nat) Tp:=(List.range n).foldl (fun s m => l2P n m s) s
def l3S (n m a : Nat) (h : Ts) : Ts:=(List.range n).foldl (fun h b => rlS m a b h) h
def l2S (n m : Nat) (h : Ts) : Ts:=(List.range n).foldl (fun h a => l3S n m a h) h
def l1S (n : Nat) (h : Ts) : Ts:=(List.range n).foldl (fun h m => l2S n m h) h
def Rn (n : Nat) (g : List Gp) (s : Except (List Nat) Tp) (h : Ts) : Prop:=Rl n g s h ∧ No n h
theorem ZfT {α β γ : Type} {R : α → β → Prop} {p : α → γ → α} {q : β → γ → β} : ∀ {l : List γ},(∀ x ∈ l,∀ s h,R s h → R (p s x) (q h x)) → ∀ {s : α} {h : β},R s h → R (l.foldl p s) (l.foldl q h)
 | [],_,_,_,r => r
 | x :: l,o,s,h,r => ZfT (l:=l) (fun y m => o y (Yb _ m)) (o x (Ya ..) s h r)
theorem Z7Y {β γ : Type} {I : β → Prop} {q : β → γ → β} : ∀ {l : List γ},(∀ x ∈ l,∀ h,I h → q h x = h) → ∀ {h : β},I h → l.foldl q h = h
 | [],_,_,_ => rfl
 | x :: l,o,h,i => by
  rw [List.foldl_cons,o x (Ya ..) h i];exact Z7Y (fun y m => o y (Yb _ m)) i
theorem ZiP {n : Nat} {g : List Gp} {m a : Nat} (hm : m < n) (ha : a < n) {s : Except (List Nat) Tp} {h : Ts} (k : Rn n g s h) : Rn n g (l3P n m a s) (l3S (n + 1) m a h):=by
 unfold l3P l3S;rw [List.range_succ,List.foldl_append];have k2 : Rn n g _ _:=ZfT (R:=Rn n g) (l:=List.range n) (p:=fun s b => rlP m a b s) (q:=fun h b => rlS m a b h) (fun b hb s h r => ⟨ZeP hm ha (List.mem_range.mp hb) r.1,ZeS ha (List.mem_range.mp hb) r.2⟩) k;rw [List.foldl_cons,List.foldl_nil,ZhX (by omega) (by omega) (Nat.le_refl _) (.inr (.inr rfl)) k2.2];exact k2
theorem ZhY {n m a : Nat} (hm : m ≤ n) (ha : a ≤ n) (e : m = n ∨ a = n) {h : Ts} (k : No n h) : l3S (n + 1) m a h = h:=Z7Y (I:=No n) (fun b hb h i => ZhX hm ha (by have:=List.mem_range.mp hb;omega) (by omega) i) k
theorem ZiQ {n : Nat} {g : List Gp} {m : Nat} (hm : m < n) {s : Except (List Nat) Tp} {h : Ts} (k : Rn n g s h) : Rn n g (l2P n m s) (l2S (n + 1) m h):=by
 unfold l2P l2S;rw [List.range_succ,List.foldl_append];have k2 : Rn n g _ _:=ZfT (R:=Rn n g) (l:=List.range n) (p:=fun s a => l3P n m a s) (q:=fun h a => l3S (n + 1) m a h) (fun a ha s h r => ZiP hm (List.mem_range.mp ha) r) k;rw [List.foldl_cons,List.foldl_nil,ZhY (by omega) (Nat.le_refl _) (.inr rfl) k2.2];exact k2
theorem ZiR {n : Nat} {h : Ts} (k : No n h) : l2S (n + 1) n h = h:=Z7Y (I:=No n) (fun a ha h i => ZhY (Nat.le_refl _) (by have:=List.mem_range.mp ha;omega) (.inl rfl) i) k
theorem l1_ok {n : Nat} {g : List Gp} {s : Except (List Nat) Tp} {h : Ts} (k : Rn n g s h) : Rn n g (l1P n s) (l1S (n + 1) h):=by
 unfold l1P l1S;rw [List.range_succ,List.foldl_append];have k2 : Rn n g _ _:=ZfT (R:=Rn n g) (l:=List.range n) (p:=fun s m => l2P n m s) (q:=fun h m => l2S (n + 1) m h) (fun m hm s h r => ZiQ (List.mem_range.mp hm) r) k;rw [List.foldl_cons,List.foldl_nil,ZiR k2.2];exact k2
def Z2Y (n : Nat) (g : List Gp) : Except (List Nat) Tp:=l1P n (.ok (egsP 0 g inP))
def Z1f (n : Nat) (g : List Gp) : Ts:=l1S (n + 1) (egsS g inS)
theorem Zad {n : Nat} {g : List Gp} (o : ∀ t ∈ g,t.a ≠ t.b ∧ t.a < n ∧ t.b < n) : Rn n g (Z2Y n g) (Z1f n g):=by
 refine l1_ok ⟨?_,ZeT (fun t m => (o t m).2) (ZiN n)⟩;exact ZeR (k:=0) (fun j t e => by rw [Nat.zero_add];exact e) o (ZiM n g)
def rwD (n : Nat) (f : Nat → D) : List D:=(List.range n).map f
def tbD (n : Nat) (f : Nat → Nat → D) : List D:=(List.range n).map fun a => .lst (rwD n (f a))
theorem ZbC (n : Nat) (f : Nat → D) : (rwD n f).length = n:=by unfold rwD;rw [Yi,Ys]
theorem ZbD (n : Nat) (f : Nat → Nat → D) : (tbD n f).length = n:=by unfold tbD;rw [Yi,Ys]
theorem Zh3 {n : Nat} {f : Nat → D} {a : Nat} (h : a < n) : (rwD n f)[a]? = some (f a):=by
 unfold rwD;rw [List.getElem?_map,List.getElem?_range h];rfl
theorem ZfU {n : Nat} {f : Nat → Nat → D} {a : Nat} (h : a < n) : (tbD n f)[a]? = some (.lst (rwD n (f a))):=by
 unfold tbD;rw [List.getElem?_map,List.getElem?_range h];rfl
theorem Z7Z {n : Nat} {f : Nat → D} {a : Nat} (h : a < n) : ixD (.lst (rwD n f)) (.int (a : Nat)) = some (f a):=by
 have e : L2.atI (rwD n f) ((a : Nat) : Int) = some (f a):=by
  rw [Z6E (by omega),Int.toNat_natCast,Zh3 h]
 exact e
theorem ZhZ {n : Nat} {f : Nat → Nat → D} {a : Nat} (h : a < n) : ixD (.lst (tbD n f)) (.int (a : Nat)) = some (.lst (rwD n (f a))):=by
 have e : L2.atI (tbD n f) ((a : Nat) : Int) = some (.lst (rwD n (f a))):=by
  rw [Z6E (by omega),Int.toNat_natCast,ZfU h]
 exact e
theorem Zae {n a : Nat} (h : a < n) : L2.ixN n ((a : Nat) : Int) = some a:=by
 unfold L2.ixN;rw [Yj (by omega),Yj (by omega)];rfl
theorem Zh4 {n : Nat} {f : Nat → Nat → D} {a : Nat} (h : a < n) : Z8E (tbD n f) (.int (a : Nat)) = some (a,rwD n (f a)):=by
 unfold Z8E;simp only [ZbD,Zae h,ZfU h]
theorem Zi0 {n : Nat} {f : Nat → D} {a : Nat} (h : ¬ a < n) : (rwD n f)[a]? = none:=List.getElem?_eq_none (by rw [ZbC];omega)
theorem Zi1 {n : Nat} {f : Nat → Nat → D} {a : Nat} (h : ¬ a < n) : (tbD n f)[a]? = none:=List.getElem?_eq_none (by rw [ZbD];omega)
theorem rw_set {n : Nat} {f : Nat → D} {b : Nat} (y : D) : (rwD n f).set b y = rwD n (fun v => if v = b then y else f v):=by
 refine List.ext_getElem? fun i => ?_;rw [List.getElem?_set,ZbC];by_cases h : i < n
 · rw [Zh3 h,Zh3 h];by_cases c : b = i
   · subst c;rw [Yj rfl,Yj h,Yj rfl]
   · rw [Yk c,Yk (fun z => c z.symm)]
 · rw [Zi0 h,Zi0 h];by_cases c : b = i
   · subst c;rw [Yj rfl,Yk h]
   · rw [Yk c]
theorem Zh5 {n : Nat} {f : Nat → Nat → D} {a b : Nat} (y : D) : (tbD n f).set a (.lst ((rwD n (f a)).set b y)) = tbD n (upT f a b y):=by
 refine List.ext_getElem? fun i => ?_;rw [List.getElem?_set,ZbD];by_cases h : i < n
 · rw [ZfU h,ZfU h];by_cases c : a = i
   · subst c;rw [Yj rfl,Yj h,rw_set]
     congr 3
     funext v
     unfold upT;by_cases d : v = b
     · rw [Yj d,Yj ⟨rfl,d⟩]
     · rw [Yk d,Yk (fun z => d z.2)]
   · rw [Yk c]
     congr 3
     funext v
     unfold upT;rw [Yk (fun z => c z.1.symm)]
 · rw [Zi1 h,Zi1 h];by_cases c : a = i
   · subst c;rw [Yj rfl,Yk h]
   · rw [Yk c]
theorem Z4y {i n : Nat} {f : Nat → Nat → D} {a b : Nat} {y : D} {E E1 E2 E3 : Nv} {fe fi fj : M D} (ha : a < n) (hb : b < n) (h0 : fe E = .ok y E1) (h1 : E1[i]? = some (some (.l (.l .sh),.lst (tbD n f)))) (h2 : fi (E1.set i none) = .ok (.int (a : Nat)) E2) (h3 : fj E2 = .ok (.int (b : Nat)) E3) :
    Z1V i fe fi fj E = .nx (E3.set i (some (.l (.l .sh),.lst (tbD n (upT f a b y))))):=by
 have o : own2 i E1 = some (tbD n f):=by unfold own2;rw [h1]
 unfold Z1V;rw [Z14,h0,Z3p];simp only [o,h2,Zh4 ha,h3,ZbC,Zae hb];unfold put2;rw [Zh5]
def enP : Option (Int × List Nat) → D
 | none => .non
 | some x => .tup [.int x.1,.tup (x.2.map iD)]
def enS : Option Int → D
 | none => .non
 | some x => .int x
def tPw (n : Nat) (f : Tp) : List D:=tbD n fun a b => enP (f a b)
def tSm (n : Nat) (h : Ts) : List D:=tbD n fun a b => enS (h a b)
theorem ZeU {α : Type} (e : α → D) (f : Nat → Nat → α) (a b : Nat) (x : α) : upT (fun u v => e (f u v)) a b (e x) = fun u v => e (upT f a b x u v):=by
 funext u v
 unfold upT;by_cases c : u = a ∧ v = b
 · rw [Yj c,Yj c]
 · rw [Yk c,Yk c]
theorem Zi2 (n : Nat) (f : Tp) (a b : Nat) (x : Option (Int × List Nat)) : tbD n (upT (fun u v => enP (f u v)) a b (enP x)) = tPw n (upT f a b x):=by
 rw [ZeU];rfl
theorem ZfV (n : Nat) (f : Ts) (a b : Nat) (x : Option Int) : tbD n (upT (fun u v => enS (f u v)) a b (enS x)) = tSm n (upT f a b x):=by
 rw [ZeU];rfl
structure Gn (n m : Nat) (f : Tp) : Prop where
 d : ∀ a,a < n → f a a = some (0,[])
 l : ∀ a b s w,f a b = some (s,w) → w.length ≤ 2 ^ (m + 1)
 c : ∀ a s w,f a m = some (s,w) → w.length ≤ 2 ^ m
 r : ∀ b s w,f m b = some (s,w) → w.length ≤ 2 ^ m
theorem Zaf {n m a b : Nat} (hm : m < n) {f f2 : Tp} (k : Gn n m f) (e : rlP m a b (.ok f) = .ok f2) : Gn n m f2:=by
 rw [Z95] at e;cases q1 : f a m with
 | none =>
  rw [q1] at e;cases e;exact k
 | some x =>
  cases q2 : f m b with
  | none =>
   rw [q1,q2] at e;cases e;exact k
  | some y =>
   rw [q1,q2] at e;simp only [ptP] at e;by_cases z : beP (f a b) (x.1 + y.1) = true
   · rw [Yj z] at e;by_cases c : a = b
     · rw [Yj c] at e;cases e
     · rw [Yk c] at e;cases e;have l1:=k.c a x.1 x.2 q1;have l2:=k.r b y.1 y.2 q2;have dm:=k.d m hm;have nb : b ≠ m:=fun w => by
        subst w;rw [dm] at q2;cases q2;rw [q1] at z;have : x.1 < x.1 + 0:=Yq z;omega
       have na : a ≠ m:=fun w => by
        subst w;rw [dm] at q1;cases q1;rw [q2] at z;have : y.1 < 0 + y.1:=Yq z;omega
       have p2 : 2 ^ (m + 1) = 2 ^ m + 2 ^ m:=by rw [Nat.pow_succ];omega
       refine ⟨fun u hu => ?_,fun u v s w e => ?_,fun u s w e => ?_,fun v s w e => ?_⟩
       · rw [Z3c (fun w => c (w.1.symm.trans w.2))];exact k.d u hu
       · by_cases t : u = a ∧ v = b
         · obtain ⟨rfl,rfl⟩:=t;rw [Z1e] at e;cases e;rw [Yh];omega
         · rw [Z3c t] at e;exact k.l u v s w e
       · rw [Z3c (fun w => nb w.2.symm)] at e;exact k.c u s w e
       · rw [Z3c (fun w => na w.1.symm)] at e;exact k.r v s w e
   · rw [Yk z] at e;cases e;exact k
theorem Zag {n m : Nat} {f : Tp} (k : Gn n m f) : Gn n (m + 1) f:=by
 refine ⟨k.d,fun a b s w e => ?_,fun a s w e => k.l a _ s w e,fun b s w e => k.l _ b s w e⟩;have:=k.l a b s w e;have p2 : 2 ^ (m + 1 + 1) = 2 ^ (m + 1) + 2 ^ (m + 1):=by rw [Nat.pow_succ];omega
 omega
structure Ge (n : Nat) (f : Tp) : Prop where
 d : ∀ a,a < n → f a a = some (0,[])
 l : ∀ a b s w,f a b = some (s,w) → w.length ≤ 1
theorem Zi3 (n : Nat) : Ge n inP:=⟨fun a _ => Yj rfl,fun a b s w e => by
 unfold inP at e;by_cases c : a = b
 · rw [Yj c] at e;cases e;exact Nat.zero_le _
 · rw [Yk c] at e;cases e⟩
theorem Zi4 {n i : Nat} {t : Gp} (ne : t.a ≠ t.b) {f : Tp} (k : Ge n f) : Ge n (egP i t f):=by
 unfold egP;by_cases z : beP (f t.a t.b) t.g = true
 · rw [Yj z];refine ⟨fun u hu => by rw [Z3c (fun x => ne (x.1.symm.trans x.2))];exact k.d u hu,fun u v s w e => ?_⟩;by_cases x : u = t.a ∧ v = t.b
   · obtain ⟨rfl,rfl⟩:=x;rw [Z1e] at e;cases e;exact Nat.le_refl _
   · rw [Z3c x] at e;exact k.l u v s w e
 · rw [Yk z];exact k
theorem Ge.gn {n : Nat} {f : Tp} (k : Ge n f) : Gn n 0 f:=⟨k.d,fun a b s w e => by have:=k.l a b s w e;show w.length ≤ 2;omega,fun a s w e => k.l a _ s w e,fun b s w e => k.l _ b s w e⟩
theorem Zah {g : List Gp} : ∀ {w : List Nat} {a b : Nat},wyP g a w = some b → wayR g a (w.map iD) = some b
 | [],a,b,h => h
 | i :: r,a,b,h => by
  have h' : (match g[i]? with | some t => if t.a = a then wyP g t.b r else none | none => none) = some b:=h;cases q : g[i]? with
  | none => rw [q] at h';cases h'
  | some t =>
   rw [q] at h';simp only at h';have hi : i < g.length:=(Yn.mp q).1;rw [List.map_cons,Zbt (Z4w hi) q];by_cases c : t.a = a
   · rw [Yj c] at h' ⊢;exact Zah h'
   · rw [Yk c] at h';cases h'
theorem ZfW {g : List Gp} : ∀ {w : List Nat} {a b : Nat},wyP g a w = some b → ∀ i ∈ w,i < g.length
 | [],a,b,h => fun i m => nomatch m
 | i :: r,a,b,h => by
  have h' : (match g[i]? with | some t => if t.a = a then wyP g t.b r else none | none => none) = some b:=h;cases q : g[i]? with
  | none => rw [q] at h';cases h'
  | some t =>
   rw [q] at h';simp only at h';have hi : i < g.length:=(Yn.mp q).1;by_cases c : t.a = a
   · rw [Yj c] at h';intro j m;rcases Yc.mp m with rfl | m
     · exact hi
     · exact ZfW h' j m
   · rw [Yk c] at h';cases h'
theorem Zai {g : List Gp} : ∀ w : List Nat,smP g w = sumG g w
 | [] => rfl
 | i :: r => by
  show (match g[i]? with | some t => t.g | none => 0) + smP g r = gAt g i + sumG g r;rw [Zai r]
  congr 1
  unfold gAt;cases g[i]? <;> rfl
theorem ZeV {g : List Gp} {w : List Nat} {a b : Nat} (h : wyP g a w = some b) : wayB g a b (.tup (w.map iD)) = true:=by
 show (match wayR g a (w.map iD) with
  | some h => decide (h = b)
  | none => false) = true
 rw [Zah h];exact Yp rfl
def Gx (n m : Nat) : Except (List Nat) Tp → Prop
 | .ok f => Gn n m f
 | .error w => w.length ≤ 2 ^ (n + 1)
theorem ZiS {n m a b : Nat} (hm : m < n) {s : Except (List Nat) Tp} (k : Gx n m s) : Gx n m (rlP m a b s):=by
 cases s with
 | error w => exact k
 | ok f =>
  cases e : rlP m a b (.ok f) with
  | ok f2 => exact Zaf hm k e
  | error w =>
   show w.length ≤ 2 ^ (n + 1);have k' : Gn n m f:=k;rw [Z95] at e;cases q1 : f a m with
   | none => rw [q1] at e;cases e
   | some x =>
    cases q2 : f m b with
    | none => rw [q1,q2] at e;cases e
    | some y =>
     rw [q1,q2] at e;simp only [ptP] at e;by_cases z : beP (f a b) (x.1 + y.1) = true
     · rw [Yj z] at e;by_cases c : a = b
       · rw [Yj c] at e;cases e;have l1:=k'.c a x.1 x.2 q1;have l2:=k'.r b y.1 y.2 q2;have p2 : 2 ^ (m + 1) = 2 ^ m + 2 ^ m:=by rw [Nat.pow_succ];omega
         have p3 : 2 ^ (m + 1) ≤ 2 ^ (n + 1):=Nat.pow_le_pow_right (by decide) (by omega);rw [Yh];omega
       · rw [Yk c] at e;cases e
     · rw [Yk z] at e;cases e
theorem Zh6 {α γ : Type} {R : α → Prop} {p : α → γ → α} : ∀ {l : List γ},(∀ x ∈ l,∀ s,R s → R (p s x)) → ∀ {s : α},R s → R (l.foldl p s)
 | [],_,s,k => k
 | x :: l,h,s,k => Zh6 (l:=l) (fun y m => h y (Yb _ m)) (h x Ya s k)
theorem ZiT {n m a : Nat} (hm : m < n) {s : Except (List Nat) Tp} (k : Gx n m s) : Gx n m (l3P n m a s):=Zh6 (R:=Gx n m) (fun b _ s k => ZiS hm k) k
theorem ZiU {n m : Nat} (hm : m < n) {s : Except (List Nat) Tp} (k : Gx n m s) : Gx n m (l2P n m s):=Zh6 (R:=Gx n m) (fun a _ s k => ZiT hm k) k
theorem ZeW {n m : Nat} {s : Except (List Nat) Tp} (k : Gx n m s) : Gx n (m + 1) s:=by
 cases s with
 | ok f => exact Zag k
 | error w => exact k
theorem ZiV {n : Nat} {s : Except (List Nat) Tp} (k : Gx n 0 s) : Gx n n (l1P n s):=by
 have e : ∀ j,j ≤ n → Gx n j ((List.range j).foldl (fun s m => l2P n m s) s):=by
  intro j
  induction j with
  | zero => intro _;exact k
  | succ j ih =>
   intro h;rw [List.range_succ,List.foldl_append,List.foldl_cons,List.foldl_nil];exact ZeW (ZiU (by omega) (ih (by omega)))
 exact e n (Nat.le_refl _)
theorem ZeX {n : Nat} : ∀ {l : List Gp} {k : Nat} {f : Tp},(∀ t ∈ l,t.a ≠ t.b) → Ge n f → Ge n (egsP k l f)
 | [],k,f,_,g => g
 | t :: l,k,f,o,g => ZeX (l:=l) (k:=k + 1) (fun u m => o u (Yb _ m)) (Zi4 (o t Ya) g)
theorem Zaj {n : Nat} {g : List Gp} (o : ∀ t ∈ g,t.a ≠ t.b) : Gx n n (Z2Y n g):=ZiV (Ge.gn (ZeX o (Zi3 n)))
theorem BkO.gaps {b : Bk} (h : BkO b) : ∀ t ∈ b.gap,t.a ≠ t.b ∧ t.a < b.ev ∧ t.b < b.ev:=fun t m => by
 have:=h.g t m;exact ⟨this.2.2.1,this.1,this.2.1⟩
theorem Z6O {b : Bk} (h : BkO b) {f : Tp} (e : Z2Y b.ev b.gap = .ok f) : Sd b.ev b.gap f (Z1f b.ev b.gap) ∧ No b.ev (Z1f b.ev b.gap):=by
 have r:=Zad h.gaps;rw [e] at r;exact r
theorem ZeY {b : Bk} (h : BkO b) {w : List Nat} (e : Z2Y b.ev b.gap = .error w) : (∃ a x,a < b.ev ∧ Z1f b.ev b.gap a a = some x ∧ 0 < x) ∧ ∃ a,a < b.ev ∧ wyP b.gap a w = some a ∧ 0 < smP b.gap w:=by
 have r:=Zad h.gaps;rw [e] at r;exact r.1
theorem Zak {b : Bk} (h : BkO b) {f : Tp} (e : Z2Y b.ev b.gap = .ok f) {a c : Nat} {s : Int} {w : List Nat} (q : f a c = some (s,w)) : w.length ≤ 512:=by
 have g:=Zaj (n:=b.ev) (g:=b.gap) (fun t m => (h.gaps t m).1);rw [e] at g;have g' : Gn b.ev b.ev f:=g;have:=g'.l a c s w q;have p : 2 ^ (b.ev + 1) ≤ 2 ^ 9:=Nat.pow_le_pow_right (by decide) (by have:=h.e8;omega);omega
theorem ZeZ {b : Bk} (h : BkO b) {w : List Nat} {a c : Nat} (y : wyP b.gap a w = some c) (l : w.length ≤ 512) : Th 1 512 (.tup (w.map iD)):=(Z44 (Zab fun i m => th_n (by have:=ZfW y i m;have:=h.gn;omega))).up (by decide) (by omega)
end Lb
namespace Lb
open PySem PySem.Spec PyProof.Rows L2 Dl TL
def AsL (l : List Nat) : Prop:=∀ c ∈ l,c < 128
theorem AsL.app {l m : List Nat} (h : AsL l) (h2 : AsL m) : AsL (l ++ m):=fun c hc => (Yd.mp hc).elim (h c) (h2 c)
theorem Z6o (S : List Nat) : ∀ (l : List Nat) (k : Nat) (acc : List Nat),(spl S k acc l).length ≤ l.length + 1
 | [],k,acc => by rw [spl_nil];exact Nat.le_refl _
 | c :: r,0,acc => by
  cases q : pre S (c :: r) with
  | true => rw [spl_hit q,List.length_cons,List.length_cons];have:=Z6o S r (S.length - 1) [];omega
  | false => rw [spl_miss q,List.length_cons];have:=Z6o S r 0 (acc ++ [c]);omega
 | c :: r,k + 1,acc => by
  rw [List.length_cons];have:=Z6o S r k acc;show (spl S k acc r).length ≤ _;omega
structure Sep (y : Str) (c : Nat) : Prop where
 e : tl y = [c]
 k : y.cps.all (· < 256) = true
theorem Sep.sp {y : Str} {c : Nat} (h : Sep y c) (x : Str) : (Txt.split x y).map tl = spl [c] 0 [] (tl x):=by
 rw [split_spl x y (by rw [h.e];simp) (TL.kind_ok h.k),h.e]
theorem Sep.len {y : Str} {c : Nat} (h : Sep y c) (x : Str) : (Txt.split x y).length ≤ x.length + 1:=by
 have:=Z6o [c] (tl x) 0 [];rw [← h.sp x,Yi] at this;rw [len_tl];exact this
theorem Sep.back {y : Str} {c : Nat} (h : Sep y c) {parts : List Str} (hne : parts ≠ []) (hp : ∀ p ∈ parts,c ∉ tl p) : Txt.split (Txt.join y parts) y = parts:=split_join (S:=[]) h.e h.k hne hp
theorem Sep.one {y : Str} {c : Nat} (h : Sep y c) {x : Str} (n : c ∉ tl x) : Txt.split x y = [x]:=by
 have e:=h.back (parts:=[x]) (by simp) (fun p m => by rw [Yg.mp m];exact n);have e2 : Txt.join y [x] = x:=by rw [join_eq];rfl
 rw [e2] at e;exact e
def Fb (B k N : Nat) (d : D) : Prop:=∃ p,toP d = some p ∧ p.showable = true ∧ p.hasDict = false ∧ p.leavesShort B = true ∧ p.depth ≤ k ∧ p.bulk ≤ N
theorem Fb.up {B k N k' N' : Nat} {d : D} (h : Fb B k N d) (a : k ≤ k') (b : N ≤ N') : Fb B k' N' d:=by
 obtain ⟨p,e1,e2,e3,e5,e6,e7⟩:=h;exact ⟨p,e1,e2,e3,e5,Nat.le_trans e6 a,Nat.le_trans e7 b⟩
end Lb
local macro_rules | `(tactic| push_cast [$xs,*]) => `(tactic| simp (discharger:=(first | assumption | omega | decide | (simp only [List.length_cons,List.length_nil,Yi];first | omega | decide) | rfl)) only [Dl.Z8J,Dl.Z7u,Dl.Zw,Dl.Z4d,Dl.Zdu,Dl.Z14,Dl.Z3p,Dl.Zdv,Dl.ZJ,Dl.Z1v,Dl.Z8K,Dl.Zdw,Dl.Zdx,Dl.Zdy,Dl.Z9L,Dl.Z7v,Dl.Z9M,Dl.Z9N,Dl.Zdz,Dl.ZdA,Dl.ZK,Dl.Zq,Dl.Z9O,Dl.ZdC,Dl.Z9P,Dl.ZdD,Dl.ZdE,Dl.ZdF,Dl.ZdG,Dl.ZdH,Dl.Z9Q,Dl.Z9R,Dl.Z9S,Dl.Z9T,Dl.ZdI,Dl.Z9U,Dl.ZdJ,Dl.Z9V,Dl.Z9W,Dl.ZdK,Dl.Z9X,Dl.Z9Y,Dl.ZdL,Dl.ZdM,Dl.Z9Z,Dl.Z7z,Dl.ZdW,Dl.Za1,Dl.ZdV,Dl.ZhQ,Dl.ZdS,Dl.ZdT,Dl.ZdU,Dl.Z4L,Dl.Z6d,Dl.Zbc,Dl.Zbd,Dl.putL,Dl.Z6e,Dl.ZdN,Dl.ZdO,Dl.Z7w,Dl.Z6b,Dl.Z6c,Dl.Z7x,Dl.Za0,Dl.Z3O,Dl.Z7y,Dl.ZdP,Dl.ZdQ,Dl.eqI,Dl.addI,Dl.subI,Dl.ltI,Dl.leI,Dl.gtI,Dl.geI,Dl.negI,Dl.intI,Dl.ZdR,Dl.Z5b,Dl.ixL,Dl.ixT,Dl.Z6E,Int.reduceToNat,Int.toNat_zero,Int.toNat_one,Dl.ZhO,Dl.ZhP,List.map_cons,List.map_nil,List.cons_append,List.nil_append,List.append_nil,List.length_cons,List.length_nil,List.replicate,List.getElem?_cons_zero,List.getElem?_cons_succ,List.set_cons_zero,List.set_cons_succ,if_true,if_false,Bool.false_eq_true,Option.map_some,Option.join_some,decide_true,decide_false,decide_eq_true_eq,Dl.modI,Dl.divI,Dl.mulR,Dl.mulL,Dl.Z32,Dl.addL,Dl.addT,Dl.Z2P,Dl.ZdX,Dl.ZdY,Dl.Za2,Dl.ZdZ,Dl.Ze0,Dl.Ze1,Dl.Ze2,Yi,Int.toNat_natCast,List.getElem?_map,Lb.b_ev,Lb.b_wi,Lb.b_te,Lb.b_ga,Lb.b_su,Lb.b_cl,Lb.truB,Bool.not_true,Bool.not_false,Lb.Z6k,Lb.Zey,Lb.Zez,Lb.ZeA,Lb.ZeB,Lb.ZeC,Lb.Zev,Lb.Zew,Lb.Zex,Lb.ZgX,Lb.ZgW,Lb.Zeu,Lb.eqSt,Lb.neSt,Lb.eqS,Lb.neSS,Lb.neI,Lb.isNI,Lb.isNN,Lb.isNT,Lb.isNS,Bool.true_and,Bool.false_and,Bool.and_true,Bool.and_false,Bool.true_or,Bool.false_or,Bool.or_true,Bool.or_false,Lb.snt,Lb.lne,Lb.eln,Lb.mnl,Lb.lnm,Lb.siL,Lb.siM,Lb.kiE,Lb.kiL,Lb.kiK,Lb.siI,Lb.dtt,Lb.dff,Lb.cst0,Lb.cst1,Lb.cst2,Lb.cst3,Lb.cst4,Lb.cst5,Lb.cst6,Lb.bl_0,Lb.bl_1,Lb.bl_2,Lb.bl_3,Int.reduceEq,Int.reduceLT,Int.reduceLE,$xs,*])
namespace Kf
open PySem PySem.Spec PyProof.Rows L2 Dl Lb
def SE (s0 s1 : Option Ent) (N : Nat) (h : Ts) (s3 s4 s5 s6 : Option Ent) : Nv:=[s0,s1,some (.l (.l .sh),.lst (tSm N h)),s3,s4,s5,s6]
theorem Zc8 {N : Nat} (h : Ts) {a : Nat} (ha : a < N) : ixD (.lst (tSm N h)) (.int (a : Nat)) = some (.lst (rwD N fun v => enS (h a v))):=ZhZ ha
theorem notS (x : Int) : Z3E (enS (some x)) .non = some (.bl true):=rfl
theorem Zi5 : Z3E (enS none) .non = some (.bl false):=rfl
theorem isS (x : Int) : Jp (enS (some x)) .non = some (.bl false):=rfl
theorem isS0 : Jp (enS none) .non = some (.bl true):=rfl
theorem Zal {N a b m : Nat} (ha : a < N) (hb : b < N) (hm : m < N) (h : Ts) (s0 s1 s5 : Option Ent) : Z1H (SE s0 s1 N h (~~~(.int (a : Nat))) (~~~(.int (b : Nat))) s5 (~~~(.int (m : Nat)))) = .nx (SE s0 s1 N (rlS m a b h) (~~~(.int (a : Nat))) (~~~(.int (b : Nat))) s5 (~~~(.int (m : Nat)))):=by
 have ga:=Zc8 h ha;have gm:=Zc8 h hm;have ra : ∀ v,v < N → ixD (.lst (rwD N fun v => enS (h a v))) (.int (v : Nat)) = some (enS (h a v)):=fun v hv => Z7Z hv;have rm : ∀ v,v < N → ixD (.lst (rwD N fun v => enS (h m v))) (.int (v : Nat)) = some (enS (h m v)):=fun v hv => Z7Z hv;have ram:=ra m hm;have rab:=ra b hb;have rmb:=rm b hb;rw [Z5r];unfold SE Z1H;cases q1 : h a m with
 | none =>
  rw [q1] at ram
  (push_cast [ZK,Zq,shr,shr1,noO,ite_true,ga,ram,Zi5]) <;> (try rfl)
 | some x =>
  cases q2 : h m b with
  | none =>
   rw [q1] at ram;rw [q2] at rmb
   (push_cast [ZK,Zq,shr,shr1,noO,ite_true,ga,gm,ram,rmb,notS,Zi5]) <;> (try rfl)
  | some y =>
   rw [q1] at ram;rw [q2] at rmb;have ad : Ji (enS (some x)) (enS (some y)) = some (.int (x + y)):=rfl;have sx : Z1V 2 (look (opM Ji (opM ixD (opM ixD (rd 2) (rd 3)) (rd 6)) (opM ixD (opM ixD (rd 2) (rd 6)) (rd 4)))) (rd 3) (rd 4) [s0,s1,some (.l (.l .sh),.lst (tSm N h)),~~~(.int (a : Nat)),~~~(.int (b : Nat)),s5,~~~(.int (m : Nat))] = .nx [s0,s1,some (.l (.l .sh),.lst (tSm N (upT h a b (some (x + y))))),~~~(.int (a : Nat)),~~~(.int (b : Nat)),s5,~~~(.int (m : Nat))]:=by
    rw [← ZfV];refine (Z4y (i:=2) (fi:=rd 3) (fj:=rd 4) (y:=.int (x + y)) (E1:=[s0,s1,some (.l (.l .sh),.lst (tSm N h)),~~~(.int (a : Nat)),~~~(.int (b : Nat)),s5,~~~(.int (m : Nat))]) (E2:=[s0,s1,none,~~~(.int (a : Nat)),~~~(.int (b : Nat)),s5,~~~(.int (m : Nat))]) (E3:=[s0,s1,none,~~~(.int (a : Nat)),~~~(.int (b : Nat)),s5,~~~(.int (m : Nat))]) ha hb ?_ rfl rfl rfl).trans ?_
    · (push_cast [ZK,shr,shr1,noO,ite_true,ga,gm,ram,rmb,ad]) <;> (try rfl)
    · rfl
   simp only [ptS];cases q3 : h a b with
   | none =>
    rw [q3] at rab
    (push_cast [ZK,Zq,shr,shr1,noO,ite_true,ga,gm,ram,rmb,rab,notS,isS0,beS,sx]) <;> (try rfl)
   | some z =>
    rw [q3] at rab;have lt : ltD (enS (some z)) (.int (x + y)) = some (.bl (decide (z < x + y))):=rfl;by_cases c : z < x + y
    · (push_cast [ZK,Zq,shr,shr1,noO,ite_true,ga,gm,ram,rmb,rab,notS,isS,ad,lt,beS,c,sx]) <;> (try rfl)
    · (push_cast [ZK,Zq,shr,shr1,noO,ite_true,ga,gm,ram,rmb,rab,notS,isS,ad,lt,beS,c]) <;> (try rfl)
theorem Z2W {β : Type} {S : β → Nv → Prop} {q : β → Nat → β} {asg : D → Nv → Option Nv} {body : G} : ∀ {l : List Nat},(∀ x ∈ l,∀ t E,S t E → ∃ E1 E2,asg (iD x) E = some E1 ∧ body E1 = .nx E2 ∧ S (q t x) E2) → ∀ {t : β} {E : Nv},S t E → ∃ E',Z1i asg body (l.map iD) E = .nx E' ∧ S (l.foldl q t) E'
 | [],_,t,E,s => ⟨E,rfl,s⟩
 | x :: l,h,t,E,s => by
  obtain ⟨E1,E2,a,b,s2⟩:=h x (Ya ..) t E s;obtain ⟨E',e,s3⟩:=Z2W (l:=l) (fun y m => h y (Yb _ m)) s2;exact ⟨E',by rw [List.map_cons,Zd a b,e],s3⟩
def S0 (n : Nat) (s1 : Option Ent) (h : Ts) (E : Nv) : Prop:=∃ s3 s4 s5 s6,E = SE (~~~(.int (n : Nat))) s1 (n + 1) h s3 s4 s5 s6
def S2 (n : Nat) (s1 s5 : Option Ent) (m a : Nat) (h : Ts) (E : Nv) : Prop:=∃ s4,E = SE (~~~(.int (n : Nat))) s1 (n + 1) h (~~~(.int (a : Nat))) s4 s5 (~~~(.int (m : Nat)))
def S3 (n : Nat) (s1 s5 : Option Ent) (m : Nat) (h : Ts) (E : Nv) : Prop:=∃ s3 s4,E = SE (~~~(.int (n : Nat))) s1 (n + 1) h s3 s4 s5 (~~~(.int (m : Nat)))
theorem rgN {n : Nat} (hn : n ≤ 8) : Z3G [.int ((n : Nat) + 1)] = some ((List.range (n + 1)).map iD):=Z2D (n + 1) (by omega)
theorem sums_l2 {n m a : Nat} (hn : n ≤ 8) (hm : m < n + 1) (ha : a < n + 1) {s1 s5 : Option Ent} {h : Ts} {E : Nv} (s : S2 n s1 s5 m a h E) : ∃ E',Z1I E = .nx E' ∧ S2 n s1 s5 m a (l3S (n + 1) m a h) E':=by
 obtain ⟨E',e,s'⟩:=Z2W (S:=S2 n s1 s5 m a) (q:=fun h b => rlS m a b h) (asg:=Jd 4) (body:=Z1H) (l:=List.range (n + 1)) (fun x hx t E r => by
  obtain ⟨s4,rfl⟩:=r;refine ⟨_,_,rfl,Zal ha (List.mem_range.mp hx) hm t _ _ _,_,rfl⟩) s
 refine ⟨E', ?_,s'⟩;obtain ⟨s4,rfl⟩:=s;have r:=rgN hn;unfold Z1I SE at *
 push_cast [r]
 exact e
theorem sums_l3 {n m : Nat} (hn : n ≤ 8) (hm : m < n + 1) {s1 s5 : Option Ent} {h : Ts} {E : Nv} (s : S3 n s1 s5 m h E) : ∃ E',Z1J E = .nx E' ∧ S3 n s1 s5 m (l2S (n + 1) m h) E':=by
 obtain ⟨E',e,s'⟩:=Z2W (S:=S3 n s1 s5 m) (q:=fun h a => l3S (n + 1) m a h) (asg:=Jd 3) (body:=Z3a) (l:=List.range (n + 1)) (fun x hx t E r => by
  obtain ⟨s3,s4,rfl⟩:=r;obtain ⟨E2,e2,s4',rfl⟩:=sums_l2 (s1:=s1) (s5:=s5) (h:=t) (E:=SE (~~~(.int (n : Nat))) s1 (n + 1) t (~~~(.int (x : Nat))) s4 s5 (~~~(.int (m : Nat)))) hn hm (List.mem_range.mp hx) ⟨s4,rfl⟩;exact ⟨_,_,rfl,e2,_,_,rfl⟩) s
 refine ⟨E', ?_,s'⟩;obtain ⟨s3,s4,rfl⟩:=s;have r:=rgN hn;unfold Z1J SE at *
 push_cast [r]
 exact e
theorem sums_l4 {n : Nat} (hn : n ≤ 8) {s1 : Option Ent} {h : Ts} {E : Nv} (s : S0 n s1 h E) : ∃ E',Z1K E = .nx E' ∧ S0 n s1 (l1S (n + 1) h) E':=by
 obtain ⟨E',e,s'⟩:=Z2W (S:=S0 n s1) (q:=fun h m => l2S (n + 1) m h) (asg:=Jd 6) (body:=Z3b) (l:=List.range (n + 1)) (fun x hx t E r => by
  obtain ⟨s3,s4,s5,s6,rfl⟩:=r;obtain ⟨E2,e2,s3',s4',rfl⟩:=sums_l3 (s1:=s1) (s5:=s5) (h:=t) (E:=SE (~~~(.int (n : Nat))) s1 (n + 1) t s3 s4 s5 (~~~(.int (x : Nat)))) hn (List.mem_range.mp hx) ⟨s3,s4,rfl⟩;exact ⟨_,_,rfl,e2,_,_,_,_,rfl⟩) s
 refine ⟨E', ?_,s'⟩;obtain ⟨s3,s4,s5,s6,rfl⟩:=s;have r:=rgN hn;unfold Z1K SE at *
 push_cast [r]
 exact e
theorem Z5s {α : Type} {emb g : α → D} {asg : D → Nv → Option Nv} {elt : M Ent} {vs : List Nat} {E0 : Nv} {E1 : α → Nv} : ∀ {l : List α},(∀ x ∈ l,asg (emb x) E0 = some (E1 x) ∧ elt (E1 x) = .ok (.l .sh,g x) (E1 x) ∧ wpe (E1 x) vs = E0) → ∀ {acc : List Ent} {E : Nv},wpe E vs = E0 → acc.length + l.length ≤ sizeLine → Z59 asg (Zr true) elt vs (l.map emb) acc E = .ok (acc ++ l.map fun x => ((.l .sh,g x) : Ent)) E0
 | [],_,acc,E,w,_ => by
  show Rs.ok acc (wpe E vs) = _;rw [w,List.map_nil,List.append_nil]
 | x :: l,h,acc,E,w,z => by
  obtain ⟨h1,h2,h3⟩:=h x (Ya ..);rw [List.length_cons] at z;rw [List.map_cons];unfold Z59;rw [w,h1];simp only [Z8J,h2];rw [Yj (by omega),Z5s (l:=l) (fun y m => h y (Yb _ m)) h3 (by rw [Yh,Yr];omega),List.map_cons,Yt,List.singleton_append]
theorem Z3y {α : Type} {l : List α} {emb g : α → D} {f0 : M (List D)} {asg : D → Nv → Option Nv} {elt : M Ent} {vs : List Nat} {E EA E0 : Nv} {E1 : α → Nv} (h0 : f0 E = .ok (l.map emb) EA) (w : wpe EA vs = E0)
    (h : ∀ x ∈ l,asg (emb x) E0 = some (E1 x) ∧ elt (E1 x) = .ok (.l .sh,g x) (E1 x) ∧ wpe (E1 x) vs = E0) (z : l.length ≤ sizeLine) : Z9x (.l .sh) f0 asg (Zr true) elt vs E = .ok (.l (.l .sh),.lst (l.map g)) E0:=by
 unfold Z9x;rw [Zw,h0,Z4d,Z5s h w (by show 0 + l.length ≤ _;omega)];simp only [List.nil_append];have al : allO (.l .sh) (l.map fun x => ((.l .sh,g x) : Ent)) = true:=by
  unfold allO;rw [List.all_map,List.all_eq_true];intro x _;rfl
 rw [Yj al,List.map_map];rfl
theorem Z6p {N : Nat} {h k : Ts} (e : ∀ a b,a < N → b < N → h a b = k a b) : tSm N h = tSm N k:=by
 unfold tSm tbD rwD;refine List.map_congr_left fun a ha => ?_
 congr 1
 refine List.map_congr_left fun b hb => ?_;show enS (h a b) = enS (k a b);rw [e a b (List.mem_range.mp ha) (List.mem_range.mp hb)]
theorem Z80 (n : Nat) (x : D) : (List.replicate n [x]).flatten = (List.range n).map fun _ => x:=by
 induction n with
 | zero => rfl
 | succ n ih => rw [List.range_succ,List.map_append,← ih,List.replicate_succ',List.flatten_append];rfl
theorem sums_c0 {n : Nat} (hn : n ≤ 8) (s1 : Option Ent) : Z1E [~~~(.int (n : Nat)),s1,none,none,none,none,none] = .ok (.l (.l .sh),.lst (tSm (n + 1) fun _ _ => none)) [~~~(.int (n : Nat)),s1,none,none,none,none,none]:=by
 have sz : 2000 ≤ sizeLine:=by decide
 have r:=rgN hn;have rp:=Z80 (n + 1) .non;rw [List.replicate_succ] at rp;unfold Z1E;refine (Z3y (l:=List.range (n + 1)) (emb:=iD) (g:=fun _ => .lst (rwD (n + 1) fun _ => enS none)) (EA:=[~~~(.int (n : Nat)),s1,none,none,none,none,none]) (E1:=fun x => [~~~(.int (n : Nat)),s1,none,~~~(iD x),none,none,none]) (by (push_cast [r]) <;> (try rfl)) rfl (fun x m => ⟨rfl, ?_,rfl⟩) (by rw [Ys];omega)).trans ?_
 · have i : Dl.inR 4611686018427387903 ((n : Int) + 1) = true:=Z1S.mpr (by omega);have t : ((n : Int) + 1).toNat = n + 1:=by omega
   have z : [D.non].length * (n + 1) ≤ sizeLine:=by show 1 * (n + 1) ≤ _;omega
   unfold mulO
   push_cast [i,t,true_and]
   rw [Yj (by omega),rp];rfl
 · rfl
theorem sums_l0 {n : Nat} (hn : n ≤ 8) {s1 : Option Ent} {E : Nv} (s : S0 n s1 (fun _ _ => none) E) : ∃ E',Z1G E = .nx E' ∧ S0 n s1 inS E':=by
 obtain ⟨E',e,s3,s4,s5,s6,rfl⟩:=Z2W (S:=S0 n s1) (q:=fun h a => upT h a a (some 0)) (asg:=Jd 3) (body:=Z1F) (l:=List.range (n + 1)) (fun x hx t E r => by
  obtain ⟨s3,s4,s5,s6,rfl⟩:=r;refine ⟨SE (~~~(.int (n : Nat))) s1 (n + 1) t (~~~(.int (x : Nat))) s4 s5 s6,SE (~~~(.int (n : Nat))) s1 (n + 1) (upT t x x (some 0)) (~~~(.int (x : Nat))) s4 s5 s6,rfl, ?_,_,_,_,_,rfl⟩;unfold Z1F SE;rw [← ZfV];exact (Z4y (i:=2) (fi:=rd 3) (fj:=rd 3) (y:=.int 0) (E1:=[~~~(.int (n : Nat)),s1,some (.l (.l .sh),.lst (tSm (n + 1) t)),~~~(.int (x : Nat)),s4,s5,s6]) (E2:=[~~~(.int (n : Nat)),s1,none,~~~(.int (x : Nat)),s4,s5,s6]) (E3:=[~~~(.int (n : Nat)),s1,none,~~~(.int (x : Nat)),s4,s5,s6]) (List.mem_range.mp hx) (List.mem_range.mp hx) rfl rfl rfl rfl).trans rfl) s
 have fo : ∀ (N : Nat) (a b : Nat),a < N → (List.range N).foldl (fun h a => upT h a a (some (0 : Int))) (fun _ _ => none) a b = inS a b:=by
  intro N
  induction N with
  | zero => intro a b h;omega
  | succ N ih =>
   intro a b ha;rw [List.range_succ,List.foldl_append,List.foldl_cons,List.foldl_nil];by_cases c : a = N
   · subst c;by_cases d : b = a
     · subst d;rw [Z1e];exact (Yj rfl).symm
     · rw [Z3c (fun z => d z.2)];have none_ : ∀ (M : Nat) (u v : Nat),M ≤ u → (List.range M).foldl (fun h a => upT h a a (some (0 : Int))) (fun _ _ => none) u v = none:=by
        intro M
        induction M with
        | zero => intro u v _;rfl
        | succ M ih2 =>
         intro u v hu;rw [List.range_succ,List.foldl_append,List.foldl_cons,List.foldl_nil,Z3c (by omega)];exact ih2 u v (by omega)
       rw [none_ a a b (Nat.le_refl _)];exact (Yk (fun z => d z.symm)).symm
   · rw [Z3c (fun z => c z.1)];exact ih a b (by omega)
 refine ⟨_, ?_,s3,s4,s5,s6,rfl⟩;obtain ⟨t3,t4,t5,t6,rfl⟩:=s;have r:=rgN hn;have cg : tSm (n + 1) ((List.range (n + 1)).foldl (fun h a => upT h a a (some 0)) (fun _ _ => none)) = tSm (n + 1) inS:=Z6p fun a b ha _ => fo (n + 1) a b ha;unfold SE at e;rw [cg] at e;unfold Z1G SE at *
 push_cast [r]
 exact e
theorem Zam {α β : Type} {emb : α → D} {S : β → Nv → Prop} {q : β → α → β} {asg : D → Nv → Option Nv} {body : G} : ∀ {l : List α},(∀ x ∈ l,∀ t E,S t E → ∃ E1 E2,asg (emb x) E = some E1 ∧ body E1 = .nx E2 ∧ S (q t x) E2) → ∀ {t : β} {E : Nv},S t E → ∃ E',Z1i asg body (l.map emb) E = .nx E' ∧ S (l.foldl q t) E'
 | [],_,t,E,s => ⟨E,rfl,s⟩
 | x :: l,h,t,E,s => by
  obtain ⟨E1,E2,a,b,s2⟩:=h x (Ya ..) t E s;obtain ⟨E',e,s3⟩:=Zam (l:=l) (fun y m => h y (Yb _ m)) s2;exact ⟨E',by rw [List.map_cons,Zd a b,e],s3⟩
theorem Zf0 {n : Nat} {t : Gp} (ha : t.a < n + 1) (hb : t.b < n + 1) (h : Ts) (s1 s6 : Option Ent) : Z2f (SE (~~~(.int (n : Nat))) s1 (n + 1) h (~~~(.int (t.a : Nat))) (~~~(.int (t.b : Nat))) (~~~(.int t.g)) s6) = .nx (SE (~~~(.int (n : Nat))) s1 (n + 1) (egS t h) (~~~(.int (t.a : Nat))) (~~~(.int (t.b : Nat))) (~~~(.int t.g)) s6):=by
 have ga:=Zc8 h ha;have rab : ixD (.lst (rwD (n + 1) fun v => enS (h t.a v))) (.int (t.b : Nat)) = some (enS (h t.a t.b)):=Z7Z hb;have sx : Z1V 2 (rd 5) (rd 3) (rd 4) [~~~(.int (n : Nat)),s1,some (.l (.l .sh),.lst (tSm (n + 1) h)),~~~(.int (t.a : Nat)),~~~(.int (t.b : Nat)),~~~(.int t.g),s6] = .nx [~~~(.int (n : Nat)),s1,some (.l (.l .sh),.lst (tSm (n + 1) (upT h t.a t.b (some t.g)))),~~~(.int (t.a : Nat)),~~~(.int (t.b : Nat)),~~~(.int t.g),s6]:=by
  rw [← ZfV];exact (Z4y (i:=2) (fi:=rd 3) (fj:=rd 4) (y:=.int t.g) (E1:=[~~~(.int (n : Nat)),s1,some (.l (.l .sh),.lst (tSm (n + 1) h)),~~~(.int (t.a : Nat)),~~~(.int (t.b : Nat)),~~~(.int t.g),s6]) (E2:=[~~~(.int (n : Nat)),s1,none,~~~(.int (t.a : Nat)),~~~(.int (t.b : Nat)),~~~(.int t.g),s6]) (E3:=[~~~(.int (n : Nat)),s1,none,~~~(.int (t.a : Nat)),~~~(.int (t.b : Nat)),~~~(.int t.g),s6]) ha hb rfl rfl rfl rfl).trans rfl
 unfold SE Z2f egS;cases q3 : h t.a t.b with
 | none =>
  rw [q3] at rab
  (push_cast [ZK,Zq,shr,shr1,noO,ite_true,ga,rab,isS0,beS,sx]) <;> (try rfl)
 | some z =>
  rw [q3] at rab;have lt : ltD (enS (some z)) (.int t.g) = some (.bl (decide (z < t.g))):=rfl;by_cases c : z < t.g
  · (push_cast [ZK,Zq,shr,shr1,noO,ite_true,ga,rab,isS,lt,beS,c,sx]) <;> (try rfl)
  · (push_cast [ZK,Zq,shr,shr1,noO,ite_true,ga,rab,isS,lt,beS,c]) <;> (try rfl)
theorem Zan {n : Nat} {g : List Gp} (o : ∀ t ∈ g,t.a < n + 1 ∧ t.b < n + 1) {h : Ts} {E : Nv} (s : S0 n (~~~(.lst (g.map Gp.d))) h E) : ∃ E',Z39 E = .nx E' ∧ S0 n (~~~(.lst (g.map Gp.d))) (egsS g h) E':=by
 obtain ⟨E',e,s'⟩:=Zam (emb:=Gp.d) (S:=S0 n (~~~(.lst (g.map Gp.d)))) (q:=fun h t => egS t h) (asg:=tgT 3 (tgC (Jd 3) (tgC (Jd 4) (tgC (Jd 5) tgN)))) (body:=Z2f) (l:=g) (fun t m h E r => by
  obtain ⟨s3,s4,s5,s6,rfl⟩:=r;have:=o t m;exact ⟨_,_,rfl,Zf0 (by omega) (by omega) h _ s6,_,_,_,_,rfl⟩) s
 refine ⟨E', ?_,s'⟩;obtain ⟨s3,s4,s5,s6,rfl⟩:=s;unfold Z39 SE at *
 push_cast []
 exact e
def posS (h : Ts) (u : Nat) : Bool:=match h u u with
 | some x => decide (0 < x)
 | none => false
def sumD (n : Nat) (h : Ts) : D:=if (List.range (n + 1)).any (posS h) = true then .non else .lst (tSm (n + 1) h)
def Dg (N : Nat) (h : Ts) : Prop:=∀ u,u < N → ∃ x,h u u = some x
theorem Zi6 {N : Nat} {h : Ts} (k : Dg N h) (a b : Nat) (x : Int) : Dg N (upT h a b (some x)):=fun u hu => by
 by_cases c : u = a ∧ u = b
 · exact ⟨x,Yj c⟩
 · rw [Z3c c];exact k u hu
theorem ZiW {N m a b : Nat} {h : Ts} (k : Dg N h) : Dg N (rlS m a b h):=by
 rw [Z5r]
 split
 · exact k
 · split
   · exact Zi6 k _ _ _
   · exact k
theorem ZiX {N : Nat} {t : Gp} {h : Ts} (k : Dg N h) : Dg N (egS t h):=by
 unfold egS
 split
 · exact Zi6 k _ _ _
 · exact k
theorem Z5t {β γ : Type} {I : β → Prop} {q : β → γ → β} : ∀ {l : List γ},(∀ x h,I h → I (q h x)) → ∀ {h : β},I h → I (l.foldl q h)
 | [],_,_,i => i
 | x :: l,o,h,i => Z5t (l:=l) o (o x h i)
theorem Zao (n : Nat) (g : List Gp) : Dg (n + 1) (Z1f n g) :=
 Z5t (fun m _ k => Z5t (fun a _ k => Z5t (fun b _ k => ZiW k) k) k) (Z5t (fun t _ k => ZiX k) (fun u _ => ⟨0,Yj rfl⟩))
theorem Z4T {asg : D → Nv → Option Nv} {body : G} {d : D} {ds : List D} {E E1 E2 : Nv} {p : Ent} (a : asg d E = some E1) (b : body E1 = .rt p E2) : Z1i asg body (d :: ds) E = .rt p E2:=by
 unfold Z1i;rw [a];simp only [b]
theorem Z81 {n : Nat} {h : Ts} (k : Dg (n + 1) h) {s0 s1 s4 s5 s6 : Option Ent} : ∀ {l : List Nat} {s3 : Option Ent},(∀ u ∈ l,u < n + 1) →
    (l.any (posS h) = true → ∃ E',Z1i (Jd 3) ZU (l.map iD) [s0,s1,~~~(.lst (tSm (n + 1) h)),s3,s4,s5,s6] = .rt (.sh,.non) E') ∧
    (l.any (posS h) = false → ∃ s3',Z1i (Jd 3) ZU (l.map iD) [s0,s1,~~~(.lst (tSm (n + 1) h)),s3,s4,s5,s6] = .nx [s0,s1,~~~(.lst (tSm (n + 1) h)),s3',s4,s5,s6])
 | [],s3,_ => ⟨fun e => (by cases e),fun _ => ⟨s3,rfl⟩⟩
 | u :: l,s3,o => by
  have hu:=o u (Ya ..);obtain ⟨x,e⟩:=k u hu;have ga:=Zc8 h hu;have ru : ixD (.lst (rwD (n + 1) fun v => enS (h u v))) (.int (u : Nat)) = some (.int x):=by
   rw [Z7Z hu,e];rfl
  have ih:=fun s3 => Z81 k (s0:=s0) (s1:=s1) (s4:=s4) (s5:=s5) (s6:=s6) (l:=l) (s3:=s3) (fun v m => o v (Yb _ m));have ps : posS h u = decide (0 < x):=by unfold posS;rw [e]
  rw [List.any_cons,ps];by_cases c : 0 < x
  · have bd : ZU [s0,s1,~~~(.lst (tSm (n + 1) h)),~~~(.int (u : Nat)),s4,s5,s6] = .rt (.sh,.non) [s0,s1,~~~(.lst (tSm (n + 1) h)),~~~(.int (u : Nat)),s4,s5,s6]:=by
      unfold ZU
      (push_cast [ga,ru,c]) <;> (try rfl)
    refine ⟨fun _ => ⟨_,Z4T rfl bd⟩,fun z => ?_⟩;rw [Yp c] at z;cases z
  · have bd : ZU [s0,s1,~~~(.lst (tSm (n + 1) h)),~~~(.int (u : Nat)),s4,s5,s6] = .nx [s0,s1,~~~(.lst (tSm (n + 1) h)),~~~(.int (u : Nat)),s4,s5,s6]:=by
      unfold ZU
      (push_cast [ga,ru,c]) <;> (try rfl)
    rw [decide_eq_false c,Bool.false_or];have e1:=fun s3 => Zd (asg:=Jd 3) (body:=ZU) (d:=iD u) (ds:=l.map iD) (E:=[s0,s1,~~~(.lst (tSm (n + 1) h)),s3,s4,s5,s6]) rfl bd;rw [List.map_cons];refine ⟨fun z => ?_,fun z => ?_⟩
    · obtain ⟨E',q⟩:=(ih (~~~(.int (u : Nat)))).1 z;exact ⟨E',by rw [e1];exact q⟩
    · obtain ⟨s3',q⟩:=(ih (~~~(.int (u : Nat)))).2 z;exact ⟨s3',by rw [e1];exact q⟩
theorem sums_ev {n : Nat} (hn : n ≤ 8) {g : List Gp} (o : ∀ t ∈ g,t.a < n + 1 ∧ t.b < n + 1) : ∃ O,Z18 [(.sh,.int (n : Nat)),(.sh,.lst (g.map Gp.d))] = .ok (.sh,sumD n (Z1f n g)) O:=by
 have c0:=sums_c0 hn (~~~(.lst (g.map Gp.d)));obtain ⟨E1,e1,k1⟩:=sums_l0 hn (s1 := ~~~(.lst (g.map Gp.d))) (E:=[~~~(.int (n : Nat)),~~~(.lst (g.map Gp.d)),some (.l (.l .sh),.lst (tSm (n + 1) fun _ _ => none)),none,none,none,none]) ⟨none,none,none,none,rfl⟩;obtain ⟨E2,e2,k2⟩:=Zan o k1;obtain ⟨E3,e3,s3,s4,s5,s6,rfl⟩:=sums_l4 hn k2;have r:=rgN hn;have l5:=Z81 (Zao n g) (s0 := ~~~(.int (n : Nat))) (s1 := ~~~(.lst (g.map Gp.d))) (s4:=s4) (s5:=s5) (s6:=s6) (l:=List.range (n + 1)) (s3:=s3) (fun u m => List.mem_range.mp m);have d4 : l1S (n + 1) (egsS g inS) = Z1f n g:=rfl;unfold SE at e3;rw [d4] at e3;unfold sumD;by_cases c : (List.range (n + 1)).any (posS (Z1f n g)) = true
 · rw [Yj c];obtain ⟨E',q⟩:=l5.1 c;refine ⟨E', ?_⟩;unfold Z18;rw [Z28];unfold Z1L
   (push_cast [c0,e1,e2,e3,Z1r,Z2C,r,q]) <;> (try rfl)
 · rw [Yk c];obtain ⟨s3',q⟩:=l5.2 (by simpa using c);refine ⟨[~~~(.int (n : Nat)),~~~(.lst (g.map Gp.d)),~~~(.lst (tSm (n + 1) (Z1f n g))),s3',s4,s5,s6], ?_⟩;unfold Z18;rw [Z28];unfold Z1L
   (push_cast [c0,e1,e2,e3,Z1r,Z2C,r,q]) <;> (try rfl)
def Out (S : Tp → Nv → Prop) (R : List Nat → Ent → Prop) (r : Fl) : Except (List Nat) Tp → Prop
 | .ok f => ∃ E,r = .nx E ∧ S f E
 | .error w => ∃ p E,r = .rt p E ∧ R w p
theorem Z3d {α : Type} {q : Except (List Nat) Tp → α → Except (List Nat) Tp} (qe : ∀ w x,q (.error w) x = .error w) (w : List Nat) : ∀ l : List α,l.foldl q (.error w) = .error w
 | [] => rfl
 | x :: l => by rw [List.foldl_cons,qe];exact Z3d qe w l
theorem Z82 {α : Type} {emb : α → D} {S : Tp → Nv → Prop} {R : List Nat → Ent → Prop} {q : Except (List Nat) Tp → α → Except (List Nat) Tp} {asg : D → Nv → Option Nv} {body : G} (qe : ∀ w x,q (.error w) x = .error w) : ∀ {l : List α},(∀ x ∈ l,∀ f E,S f E → ∃ E1,asg (emb x) E = some E1 ∧ Out S R (body E1) (q (.ok f) x)) → ∀ {f : Tp} {E : Nv},S f E → Out S R (Z1i asg body (l.map emb) E) (l.foldl q (.ok f))
 | [],_,f,E,s => ⟨E,rfl,s⟩
 | x :: l,h,f,E,s => by
  obtain ⟨E1,a,o⟩:=h x (Ya ..) f E s;rw [List.foldl_cons,List.map_cons];cases z : q (.ok f) x with
  | ok f2 =>
   rw [z] at o;obtain ⟨E2,b,s2⟩:=o;rw [Zd a b];exact Z82 qe (l:=l) (fun y m => h y (Yb _ m)) s2
  | error w =>
   rw [z] at o;obtain ⟨p,E2,b,r⟩:=o;rw [Z4T a b,Z3d qe];exact ⟨p,E2,rfl,r⟩
def Rg (w : List Nat) (p : Ent) : Prop:=∃ T : List D,p = (.sh,.tup [.lst T,.tup (w.map iD)])
def PE (b : Bk) (n : Nat) (f : Tp) (s3 s4 s5 s6 s7 s8 : Option Ent) : Nv:=[~~~b.d,~~~(.lst ((List.range n).map iD)),some (.l (.l .sh),.lst (tPw n f)),s3,s4,s5,s6,s7,s8]
theorem ZfX {N : Nat} (h : Tp) {a : Nat} (ha : a < N) : ixD (.lst (tPw N h)) (.int (a : Nat)) = some (.lst (rwD N fun v => enP (h a v))):=ZhZ ha
theorem Zf1 (y : D) : ∃ O,Zn [(.sh,enP none),(.sh,y)] = .ok (.sh,.non) O:=by
 refine ⟨[~~~(.non),~~~y], ?_⟩;have i : Jp (enP none) .non = some (.bl true):=rfl;unfold Zn Z1g
 (push_cast [i]) <;> (try rfl)
theorem Zf2 (x : Int × List Nat) : ∃ O,Zn [(.sh,enP (some x)),(.sh,enP none)] = .ok (.sh,.non) O:=by
 refine ⟨[~~~(enP (some x)),~~~(.non)], ?_⟩;have i : Jp (enP none) .non = some (.bl true):=rfl;have j : Jp (enP (some x)) .non = some (.bl false):=rfl;unfold Zn Z1g
 (push_cast [i,j]) <;> (try rfl)
theorem Zh7 (x y : Int × List Nat) (z : x.2.length + y.2.length ≤ 1000) : ∃ O,Zn [(.sh,enP (some x)),(.sh,enP (some y))] = .ok (.sh,enP (some (x.1 + y.1,x.2 ++ y.2))) O:=by
 have sz : 2000 ≤ sizeLine:=by decide
 refine ⟨[~~~(enP (some x)),~~~(enP (some y))], ?_⟩;have j : ∀ x,Jp (enP (some x)) .non = some (.bl false):=fun _ => rfl;have g0 : ∀ x : Int × List Nat,ixD (enP (some x)) (.int 0) = some (.int x.1):=fun _ => rfl;have g1 : ∀ x : Int × List Nat,ixD (enP (some x)) (.int 1) = some (.tup (x.2.map iD)):=fun _ => rfl;have ad : Ji (.tup (x.2.map iD)) (.tup (y.2.map iD)) = some (.tup ((x.2 ++ y.2).map iD)):=by
  rw [List.map_append];exact addT (by rw [Yi,Yi];omega)
 unfold Zn Z1g
 (push_cast [j,g0,g1,ad]) <;> (try rfl)
theorem Zh8 (x : Int × List Nat) : imm (enP (some x)) = true:=by
 show (imm (.int x.1) && immL [D.tup (x.2.map iD)]) = true;have : immL (x.2.map iD) = true:=Zbz x.2;show (true && (imm (D.tup (x.2.map iD)) && true)) = true;show (true && (immL (x.2.map iD) && true)) = true;rw [this];rfl
theorem Zf3 {bk : Bk} {n m a b : Nat} (hn : n ≤ 8) (hm : m < n) (ha : a < n) (hb : b < n) {f : Tp} (k : Gn n m f) {s3 s6 s8 : Option Ent} :
    Out (fun f' E => ∃ s8,E = PE bk n f' s3 (~~~(.int (a : Nat))) (~~~(.int (b : Nat))) s6 (~~~(.int (m : Nat))) s8) Rg (Zy (PE bk n f s3 (~~~(.int (a : Nat))) (~~~(.int (b : Nat))) s6 (~~~(.int (m : Nat))) s8)) (rlP m a b (.ok f)):=by
 have ga:=ZfX f ha;have gm:=ZfX f hm;have ram : ixD (.lst (rwD n fun v => enP (f a v))) (.int (m : Nat)) = some (enP (f a m)):=Z7Z hm;have rab : ixD (.lst (rwD n fun v => enP (f a v))) (.int (b : Nat)) = some (enP (f a b)):=Z7Z hb;have rmb : ixD (.lst (rwD n fun v => enP (f m v))) (.int (b : Nat)) = some (enP (f m b)):=Z7Z hb;have lk0 : ∀ E' E : Nv,lkR (.ok .non E') E = .ok .non E:=fun _ _ => ZdB _ _ _ rfl;have lk1 : ∀ (x : Int × List Nat) (E' E : Nv),lkR (.ok (enP (some x)) E') E = .ok (enP (some x)) E:=fun x _ _ => ZdB _ _ _ (Zh8 x);have n0 : Z3E (.non) .non = some (.bl false):=rfl;have n1 : ∀ x,Z3E (enP (some x)) .non = some (.bl true):=fun _ => rfl;have i0 : Jp (enP none) .non = some (.bl true):=rfl;have i1 : ∀ x,Jp (enP (some x)) .non = some (.bl false):=fun _ => rfl;have g0 : ∀ x : Int × List Nat,ixD (enP (some x)) (.int 0) = some (.int x.1):=fun _ => rfl;have g1 : ∀ x : Int × List Nat,ixD (enP (some x)) (.int 1) = some (.tup (x.2.map iD)):=fun _ => rfl;rw [Z95];cases q1 : f a m with
 | none =>
  obtain ⟨O,e⟩:=Zf1 (enP (f m b));rw [q1] at ram;refine ⟨PE bk n f s3 (~~~(.int (a : Nat))) (~~~(.int (b : Nat))) s6 (~~~(.int (m : Nat))) (~~~(.non)), ?_,_,rfl⟩;unfold PE Zy
  (push_cast [ZK,Zq,shr,shr1,noO,ite_true,ga,gm,ram,rmb,e,lk0,n0]) <;> (try rfl)
 | some x =>
  cases q2 : f m b with
  | none =>
   obtain ⟨O,e⟩:=Zf2 x;rw [q1] at ram;rw [q2] at rmb;refine ⟨PE bk n f s3 (~~~(.int (a : Nat))) (~~~(.int (b : Nat))) s6 (~~~(.int (m : Nat))) (~~~(.non)), ?_,_,rfl⟩;unfold PE Zy
   (push_cast [ZK,Zq,shr,shr1,noO,ite_true,ga,gm,ram,rmb,e,lk0,n0]) <;> (try rfl)
  | some y =>
   have z1:=k.c a x.1 x.2 q1;have z2:=k.r b y.1 y.2 q2;have z3 : 2 ^ m ≤ 2 ^ 8:=Nat.pow_le_pow_right (by decide) (by omega);obtain ⟨O,e⟩:=Zh7 x y (by omega);rw [q1] at ram;rw [q2] at rmb;simp only [ptP];have sx : Z1V 2 (rd 8) (rd 4) (rd 5) [~~~bk.d,~~~(.lst ((List.range n).map iD)),some (.l (.l .sh),.lst (tPw n f)),s3,~~~(.int (a : Nat)),~~~(.int (b : Nat)),s6,~~~(.int (m : Nat)),~~~(enP (some (x.1 + y.1,x.2 ++ y.2)))] = .nx [~~~bk.d,~~~(.lst ((List.range n).map iD)),some (.l (.l .sh),.lst (tPw n (upT f a b (some (x.1 + y.1,x.2 ++ y.2))))),s3,~~~(.int (a : Nat)),~~~(.int (b : Nat)),s6,~~~(.int (m : Nat)),~~~(enP (some (x.1 + y.1,x.2 ++ y.2)))]:=by
    rw [← Zi2];exact (Z4y (i:=2) (fi:=rd 4) (fj:=rd 5) (y:=enP (some (x.1 + y.1,x.2 ++ y.2))) (E1:=[~~~bk.d,~~~(.lst ((List.range n).map iD)),some (.l (.l .sh),.lst (tPw n f)),s3,~~~(.int (a : Nat)),~~~(.int (b : Nat)),s6,~~~(.int (m : Nat)),~~~(enP (some (x.1 + y.1,x.2 ++ y.2)))]) (E2:=[~~~bk.d,~~~(.lst ((List.range n).map iD)),none,s3,~~~(.int (a : Nat)),~~~(.int (b : Nat)),s6,~~~(.int (m : Nat)),~~~(enP (some (x.1 + y.1,x.2 ++ y.2)))]) (E3:=[~~~bk.d,~~~(.lst ((List.range n).map iD)),none,s3,~~~(.int (a : Nat)),~~~(.int (b : Nat)),s6,~~~(.int (m : Nat)),~~~(enP (some (x.1 + y.1,x.2 ++ y.2)))]) ha hb rfl rfl rfl rfl).trans rfl
   generalize hc : ((x.1 + y.1,x.2 ++ y.2) : Int × List Nat) = c at *;have c1 : x.1 + y.1 = c.1:=by rw [← hc]
   rw [c1];have bs : beP (f a b) c.1 = true ∨ ¬ beP (f a b) c.1 = true:=Classical.em _;have cd : ∀ E : Nv,True:=fun _ => trivial;cases q3 : f a b with
   | none =>
    rw [q3] at rab;rw [Yj (show beP none c.1 = true from rfl)];by_cases d : a = b
    · rw [Yj d];subst d;have d' : decide (((a : Nat) : Int) = (a : Nat)) = true:=Yp rfl;refine ⟨(.sh,.tup [.lst (tPw n f),.tup (c.2.map iD)]),[~~~bk.d,~~~(.lst ((List.range n).map iD)),~~~(.lst (tPw n f)),s3,~~~(.int (a : Nat)),~~~(.int (a : Nat)),s6,~~~(.int (m : Nat)),~~~(enP (some c))], ?_,tPw n f,by rw [← hc]⟩;unfold PE Zy
      (push_cast [ZK,Zq,shr,shr1,noO,ite_true,ga,gm,ram,rmb,e,lk1,n1,rab,i0,d',Z1r,Z2C,g1]) <;> (try rfl)
    · rw [Yk d];have d' : ¬ ((a : Nat) : Int) = (b : Nat):=by omega
      refine ⟨PE bk n (upT f a b (some c)) s3 (~~~(.int (a : Nat))) (~~~(.int (b : Nat))) s6 (~~~(.int (m : Nat))) (~~~(enP (some c))), ?_,_,rfl⟩;unfold PE Zy
      (push_cast [ZK,Zq,shr,shr1,noO,ite_true,ga,gm,ram,rmb,e,lk1,n1,rab,i0,d',sx]) <;> (try rfl)
   | some w =>
    rw [q3] at rab;by_cases t : w.1 < c.1
    · rw [Yj (show beP (some w) c.1 = true from Yp t)];by_cases d : a = b
      · rw [Yj d];subst d;have d' : decide (((a : Nat) : Int) = (a : Nat)) = true:=Yp rfl;refine ⟨(.sh,.tup [.lst (tPw n f),.tup (c.2.map iD)]),[~~~bk.d,~~~(.lst ((List.range n).map iD)),~~~(.lst (tPw n f)),s3,~~~(.int (a : Nat)),~~~(.int (a : Nat)),s6,~~~(.int (m : Nat)),~~~(enP (some c))], ?_,tPw n f,by rw [← hc]⟩;unfold PE Zy
        (push_cast [ZK,Zq,shr,shr1,noO,ite_true,ga,gm,ram,rmb,e,lk1,n1,rab,i1,g0,t,d',Z1r,Z2C,g1]) <;> (try rfl)
      · rw [Yk d];have d' : ¬ ((a : Nat) : Int) = (b : Nat):=by omega
        refine ⟨PE bk n (upT f a b (some c)) s3 (~~~(.int (a : Nat))) (~~~(.int (b : Nat))) s6 (~~~(.int (m : Nat))) (~~~(enP (some c))), ?_,_,rfl⟩;unfold PE Zy
        (push_cast [ZK,Zq,shr,shr1,noO,ite_true,ga,gm,ram,rmb,e,lk1,n1,rab,i1,g0,t,d',sx]) <;> (try rfl)
    · rw [Yk (show ¬ beP (some w) c.1 = true from fun z => t (Yq z))];refine ⟨PE bk n f s3 (~~~(.int (a : Nat))) (~~~(.int (b : Nat))) s6 (~~~(.int (m : Nat))) (~~~(enP (some c))), ?_,_,rfl⟩;unfold PE Zy
      (push_cast [ZK,Zq,shr,shr1,noO,ite_true,ga,gm,ram,rmb,e,lk1,n1,rab,i1,g0,t]) <;> (try rfl)
theorem Out.mono {S S' : Tp → Nv → Prop} {R : List Nat → Ent → Prop} {r : Fl} {s : Except (List Nat) Tp} (h : Out S R r s) (q : ∀ f E,s = .ok f → S f E → S' f E) : Out S' R r s:=by
 cases s with
 | ok f =>
  obtain ⟨E,e,k⟩:=h;exact ⟨E,e,q f E rfl k⟩
 | error w => exact h
def P2 (bk : Bk) (n m a : Nat) (s3 s6 : Option Ent) (f : Tp) (E : Nv) : Prop:=Gn n m f ∧ ∃ s5 s8,E = PE bk n f s3 (~~~(.int (a : Nat))) s5 s6 (~~~(.int (m : Nat))) s8
def P3 (bk : Bk) (n m : Nat) (s3 s6 : Option Ent) (f : Tp) (E : Nv) : Prop:=Gn n m f ∧ ∃ s4 s5 s8,E = PE bk n f s3 s4 s5 s6 (~~~(.int (m : Nat))) s8
theorem Zf4 {bk : Bk} {n m a : Nat} (hn : n ≤ 8) (hm : m < n) (ha : a < n) {s3 s6 : Option Ent} {f : Tp} {E : Nv} (s : P2 bk n m a s3 s6 f E) : Out (P2 bk n m a s3 s6) Rg (Z35 E) (l3P n m a (.ok f)):=by
 have o:=Z82 (S:=P2 bk n m a s3 s6) (R:=Rg) (q:=fun s b => rlP m a b s) (asg:=Jd 5) (body:=Zy) (emb:=iD) (fun w x => rfl) (l:=List.range n) (fun x hx f E r => by
  obtain ⟨k,s5,s8,rfl⟩:=r;refine ⟨_,rfl,(Zf3 (s8:=s8) hn hm ha (List.mem_range.mp hx) k).mono fun f2 E2 e q => ?_⟩;obtain ⟨s8',rfl⟩:=q;exact ⟨Zaf hm k e,_,_,rfl⟩) s
 obtain ⟨k,s5,s8,rfl⟩:=s;unfold Z35 PE at *
 push_cast []
 exact o
theorem Zf5 {bk : Bk} {n m : Nat} (hn : n ≤ 8) (hm : m < n) {s3 s6 : Option Ent} {f : Tp} {E : Nv} (s : P3 bk n m s3 s6 f E) : Out (P3 bk n m s3 s6) Rg (Z36 E) (l2P n m (.ok f)):=by
 have o:=Z82 (S:=P3 bk n m s3 s6) (R:=Rg) (q:=fun s a => l3P n m a s) (asg:=Jd 4) (body:=Z4q) (emb:=iD) (fun w x => Z3d (fun _ _ => rfl) w _) (l:=List.range n) (fun x hx f E r => by
  obtain ⟨k,s4,s5,s8,rfl⟩:=r;refine ⟨_,rfl,(Zf4 (s3:=s3) (s6:=s6) (E:=PE bk n f s3 (~~~(.int (x : Nat))) s5 s6 (~~~(.int (m : Nat))) s8) hn hm (List.mem_range.mp hx) ⟨k,s5,s8,rfl⟩).mono fun f2 E2 e q => ?_⟩;obtain ⟨k2,s5',s8',rfl⟩:=q;exact ⟨k2,_,_,_,rfl⟩) s
 obtain ⟨k,s4,s5,s8,rfl⟩:=s;unfold Z36 PE at *
 push_cast []
 exact o
theorem Zap {S : Nat → Tp → Nv → Prop} {R : List Nat → Ent → Prop} {q : Except (List Nat) Tp → Nat → Except (List Nat) Tp} {asg : D → Nv → Option Nv} {body : G} (qe : ∀ w x,q (.error w) x = .error w) : ∀ {k j : Nat},(∀ x,j ≤ x → x < j + k → ∀ f E,S x f E → ∃ E1,asg (iD x) E = some E1 ∧ Out (S (x + 1)) R (body E1) (q (.ok f) x)) → ∀ {f : Tp} {E : Nv},S j f E → Out (S (j + k)) R (Z1i asg body ((List.range' j k).map iD) E) ((List.range' j k).foldl q (.ok f))
 | 0,j,_,f,E,s => ⟨E,rfl,s⟩
 | k + 1,j,h,f,E,s => by
  obtain ⟨E1,a,o⟩:=h j (Nat.le_refl _) (by omega) f E s;rw [List.range'_succ,List.foldl_cons,List.map_cons];cases z : q (.ok f) j with
  | ok f2 =>
   rw [z] at o;obtain ⟨E2,b,s2⟩:=o;rw [Zd a b];have r:=Zap qe (S:=S) (R:=R) (asg:=asg) (body:=body) (k:=k) (j:=j + 1) (fun x h1 h2 => h x (by omega) (by omega)) s2;rw [show j + (k + 1) = j + 1 + k by omega];exact r
  | error w =>
   rw [z] at o;obtain ⟨p,E2,b,r⟩:=o;rw [Z4T a b,Z3d qe];exact ⟨p,E2,rfl,r⟩
theorem Zh9 (n m a : Nat) (w : List Nat) : l3P n m a (.error w) = .error w:=Z3d (q:=fun s b => rlP m a b s) (fun _ _ => rfl) w _
theorem Zha (n m : Nat) (w : List Nat) : l2P n m (.error w) = .error w:=Z3d (q:=fun s a => l3P n m a s) (fun w a => Zh9 n m a w) w _
def P4s (bk : Bk) (n : Nat) (s3 s6 : Option Ent) (m : Nat) (f : Tp) (E : Nv) : Prop:=Gn n m f ∧ ∃ s4 s5 s7 s8,E = PE bk n f s3 s4 s5 s6 s7 s8
theorem Zf6 {bk : Bk} {n : Nat} (hn : n ≤ 8) {s3 s6 : Option Ent} {f : Tp} {E : Nv} (s : P4s bk n s3 s6 0 f E) : Out (P4s bk n s3 s6 n) Rg (Z37 E) (l1P n (.ok f)):=by
 have o:=Zap (S:=P4s bk n s3 s6) (R:=Rg) (q:=fun s m => l2P n m s) (asg:=Jd 7) (body:=Z4r) (fun w x => Zha n x w) (k:=n) (j:=0) (fun x h1 h2 f E r => by
  obtain ⟨k,s4,s5,s7,s8,rfl⟩:=r;refine ⟨_,rfl,(Zf5 (s3:=s3) (s6:=s6) (E:=PE bk n f s3 s4 s5 s6 (~~~(.int (x : Nat))) s8) hn (by omega) ⟨k,s4,s5,s8,rfl⟩).mono fun f2 E2 e q => ?_⟩;obtain ⟨k2,s4',s5',s8',rfl⟩:=q;exact ⟨Zag k2,_,_,_,_,rfl⟩) s
 rw [Nat.zero_add,← List.range_eq_range'] at o;obtain ⟨k,s4,s5,s7,s8,rfl⟩:=s;unfold Z37 PE at *
 push_cast []
 exact o
theorem Zf7 {bk : Bk} {n i : Nat} {t : Gp} (ha : t.a < n) (hb : t.b < n) (f : Tp) (s7 s8 : Option Ent) : Z2e (PE bk n f (~~~(.int (i : Nat))) (~~~(.int (t.a : Nat))) (~~~(.int (t.b : Nat))) (~~~(.int t.g)) s7 s8) = .nx (PE bk n (egP i t f) (~~~(.int (i : Nat))) (~~~(.int (t.a : Nat))) (~~~(.int (t.b : Nat))) (~~~(.int t.g)) s7 s8):=by
 have ga:=ZfX f ha;have rab : ixD (.lst (rwD n fun v => enP (f t.a v))) (.int (t.b : Nat)) = some (enP (f t.a t.b)):=Z7Z hb;have i0 : Jp (enP none) .non = some (.bl true):=rfl;have i1 : ∀ x,Jp (enP (some x)) .non = some (.bl false):=fun _ => rfl;have g0 : ∀ x : Int × List Nat,ixD (enP (some x)) (.int 0) = some (.int x.1):=fun _ => rfl;have sx : Z1V 2 (Jg (Ja (rd 6) (Ja (Jg (Ja (rd 3) (Zr []))) (Zr [])))) (rd 4) (rd 5) (PE bk n f (~~~(.int (i : Nat))) (~~~(.int (t.a : Nat))) (~~~(.int (t.b : Nat))) (~~~(.int t.g)) s7 s8) = .nx (PE bk n (upT f t.a t.b (some (t.g,[i]))) (~~~(.int (i : Nat))) (~~~(.int (t.a : Nat))) (~~~(.int (t.b : Nat))) (~~~(.int t.g)) s7 s8):=by
  unfold PE;rw [← Zi2];exact (Z4y (i:=2) (fi:=rd 4) (fj:=rd 5) (y:=enP (some (t.g,[i]))) (E1:=[~~~bk.d,~~~(.lst ((List.range n).map iD)),some (.l (.l .sh),.lst (tPw n f)),~~~(.int (i : Nat)),~~~(.int (t.a : Nat)),~~~(.int (t.b : Nat)),~~~(.int t.g),s7,s8]) (E2:=[~~~bk.d,~~~(.lst ((List.range n).map iD)),none,~~~(.int (i : Nat)),~~~(.int (t.a : Nat)),~~~(.int (t.b : Nat)),~~~(.int t.g),s7,s8]) (E3:=[~~~bk.d,~~~(.lst ((List.range n).map iD)),none,~~~(.int (i : Nat)),~~~(.int (t.a : Nat)),~~~(.int (t.b : Nat)),~~~(.int t.g),s7,s8]) ha hb (by (push_cast []) <;> (try rfl)) rfl rfl rfl).trans rfl
 unfold PE at *;unfold Z2e egP;cases q3 : f t.a t.b with
 | none =>
  rw [q3] at rab;rw [Yj (show beP none t.g = true from rfl)]
  (push_cast [ZK,Zq,shr,shr1,noO,ite_true,ga,rab,i0,sx]) <;> (try rfl)
 | some w =>
  rw [q3] at rab;by_cases c : w.1 < t.g
  · rw [Yj (show beP (some w) t.g = true from Yp c)]
    (push_cast [ZK,Zq,shr,shr1,noO,ite_true,ga,rab,i1,g0,c,sx]) <;> (try rfl)
  · rw [Yk (show ¬ beP (some w) t.g = true from fun z => c (Yq z))]
    (push_cast [ZK,Zq,shr,shr1,noO,ite_true,ga,rab,i1,g0,c]) <;> (try rfl)
def P0 (bk : Bk) (n : Nat) (f : Tp) (E : Nv) : Prop:=Ge n f ∧ ∃ s3 s4 s5 s6 s7 s8,E = PE bk n f s3 s4 s5 s6 s7 s8
theorem Z83 {bk : Bk} {n : Nat} : ∀ {l : List Gp} {j : Nat} {f : Tp} {E : Nv},(∀ t ∈ l,t.a ≠ t.b ∧ t.a < n ∧ t.b < n) → P0 bk n f E → ∃ E',Z1i (tgT 2 (tgC (Jd 3) (tgC (tgT 3 (tgC (Jd 4) (tgC (Jd 5) (tgC (Jd 6) tgN)))) tgN))) Z2e (prs j (l.map Gp.d)) E = .nx E' ∧ P0 bk n (egsP j l f) E'
 | [],j,f,E,_,s => ⟨E,rfl,s⟩
 | t :: l,j,f,E,o,s => by
  obtain ⟨ne,ha,hb⟩:=o t (Ya ..);obtain ⟨k,s3,s4,s5,s6,s7,s8,rfl⟩:=s;have b:=Zf7 (bk:=bk) (i:=j) ha hb f s7 s8;obtain ⟨E',e,r⟩:=Z83 (l:=l) (j:=j + 1) (f:=egP j t f) (E:=PE bk n (egP j t f) (~~~(.int (j : Nat))) (~~~(.int (t.a : Nat))) (~~~(.int (t.b : Nat))) (~~~(.int t.g)) s7 s8) (fun u m => o u (Yb _ m)) ⟨Zi4 ne k,_,_,_,_,_,_,rfl⟩;refine ⟨E', ?_,r⟩;rw [List.map_cons];show Z1i _ _ (.tup [.int (j : Nat),t.d] :: prs (j + 1) (l.map Gp.d)) _ = _;rw [Zd (E1:=PE bk n f (~~~(.int (j : Nat))) (~~~(.int (t.a : Nat))) (~~~(.int (t.b : Nat))) (~~~(.int t.g)) s7 s8) rfl b];exact e
theorem Zf8 {bk : Bk} {n : Nat} (o : ∀ t ∈ bk.gap,t.a ≠ t.b ∧ t.a < n ∧ t.b < n) {f : Tp} {E : Nv} (s : P0 bk n f E) : ∃ E',Z34 E = .nx E' ∧ P0 bk n (egsP 0 bk.gap f) E':=by
 obtain ⟨E',e,r⟩:=Z83 (j:=0) o s;refine ⟨E', ?_,r⟩;obtain ⟨k,s3,s4,s5,s6,s7,s8,rfl⟩:=s;have en : Z5I [.tup (bk.gap.map Gp.d)] = some (prs 0 (bk.gap.map Gp.d)):=rfl;unfold Z34 PE at *
 push_cast [en]
 exact e
theorem Zf9 {fa : M D} {E E' : Nv} {n : Nat} (h : fa E = .ok (.int (n : Nat)) E') (hn : n ≤ 16777216) : lrg1 fa E = .ok (.l .sh,.lst ((List.range n).map iD)) E':=by
 have e : rgD 0 (n : Nat) = (List.range n).map iD:=by
  unfold rgD;rw [show (((n : Nat) : Int) - 0).toNat = n by omega];refine List.map_congr_left fun i _ => ?_;show D.int (0 + (i : Nat)) = _;rw [Int.zero_add];rfl
 unfold lrg1;rw [Zw,h,Z4d];simp only;rw [Yj (Z7o.mpr (by omega)),e];rfl
theorem Zfa {bk : Bk} {n : Nat} (hn : n ≤ 8) : Z33 [~~~bk.d,~~~(.lst ((List.range n).map iD)),none,none,none,none,none,none,none] = .ok (.l (.l .sh),.lst (tPw n inP)) [~~~bk.d,~~~(.lst ((List.range n).map iD)),none,none,none,none,none,none,none]:=by
 have sz : 2000 ≤ sizeLine:=by decide
 unfold Z33;refine (Z3y (l:=List.range n) (emb:=iD) (g:=fun a => .lst (rwD n fun b => enP (inP a b))) (EA:=[~~~bk.d,~~~(.lst ((List.range n).map iD)),none,none,none,none,none,none,none]) (E1:=fun a => [~~~bk.d,~~~(.lst ((List.range n).map iD)),none,none,~~~(iD a),none,none,none,none]) (by (push_cast []) <;> (try rfl)) rfl (fun a m => ⟨rfl, ?_,rfl⟩) (by rw [Ys];omega)).trans rfl;unfold Z4p;refine (ZgY (l:=List.range n) (emb:=iD) (g:=fun b => enP (inP a b)) (EA:=[~~~bk.d,~~~(.lst ((List.range n).map iD)),none,none,~~~(iD a),none,none,none,none]) (E1:=fun b => [~~~bk.d,~~~(.lst ((List.range n).map iD)),none,none,~~~(iD a),~~~(iD b),none,none,none]) (by (push_cast []) <;> (try rfl)) rfl (fun b m => ⟨rfl, ?_,rfl⟩) (by rw [Ys];omega)).trans rfl;unfold iD inP;by_cases c : a = b
 · subst c;rw [Yj rfl];have d' : decide (((a : Nat) : Int) = (a : Nat)) = true:=Yp rfl
   (push_cast [d']) <;> (try rfl)
 · rw [Yk c];have d' : ¬ ((a : Nat) : Int) = (b : Nat):=by omega
   (push_cast [d']) <;> (try rfl)
theorem Zaq {b : Bk} (h : BkO b) : ∃ v O,Z1C [(.sh,b.d)] = .ok (.sh,v) O ∧ (∀ f,Z2Y b.ev b.gap = .ok f → v = .tup [.lst (tPw b.ev f),.non]) ∧ (∀ w,Z2Y b.ev b.gap = .error w → ∃ T,v = .tup [.lst T,.tup (w.map iD)]):=by
 have e8:=h.e8;have o : ∀ t ∈ b.gap,t.a ≠ t.b ∧ t.a < b.ev ∧ t.b < b.ev:=fun t m => by have:=h.g t m;exact ⟨this.2.2.1,this.1,this.2.1⟩
 have at_ : Z5B ["Book"] "events" b.d = some (.int (b.ev : Nat)):=rfl;have lr:=Zf9 (fa:=unM (Z5B ["Book"] "events") (rd 0)) (E:=[~~~b.d,none,none,none,none,none,none,none,none]) (E':=[~~~b.d,none,none,none,none,none,none,none,none]) (n:=b.ev) (by (push_cast [at_]) <;> (try rfl)) (by omega);have c1:=Zfa (bk:=b) e8;obtain ⟨E1,e1,k1,s3,s4,s5,s6,s7,s8,rfl⟩:=Zf8 (bk:=b) o (f:=inP) (E:=PE b b.ev inP none none none none none none) ⟨Zi3 b.ev,_,_,_,_,_,_,rfl⟩;have l3:=Zf6 (bk:=b) e8 (s3:=s3) (s6:=s6) (E:=PE b b.ev (egsP 0 b.gap inP) s3 s4 s5 s6 s7 s8) ⟨k1.gn,_,_,_,_,rfl⟩;have sp : l1P b.ev (.ok (egsP 0 b.gap inP)) = Z2Y b.ev b.gap:=rfl;rw [sp] at l3;unfold PE at e1 l3;cases z : Z2Y b.ev b.gap with
 | ok f =>
  rw [z] at l3;obtain ⟨E2,e2,-,t4,t5,t7,t8,rfl⟩:=l3;unfold PE at e2;refine ⟨.tup [.lst (tPw b.ev f),.non],[~~~b.d,~~~(.lst ((List.range b.ev).map iD)),~~~(.lst (tPw b.ev f)),s3,t4,t5,s6,t7,t8], ?_,fun g e => (by cases e;rfl),fun w e => (by cases e)⟩;unfold Z1C;rw [Z3U]
  (push_cast [lr,c1,e1,e2,Z1r,Z2C]) <;> (try rfl)
 | error w =>
  rw [z] at l3;obtain ⟨p,E2,e2,T,rfl⟩:=l3;refine ⟨.tup [.lst T,.tup (w.map iD)],E2, ?_,fun g e => (by cases e),fun w' e => (by cases e;exact ⟨T,rfl⟩)⟩;unfold Z1C;rw [Z3U]
  (push_cast [lr,c1,e1,e2]) <;> (try rfl)
def nfX (w : List Nat) : Xn:=⟨"NoFit",["reason"],[.tup [.str "gaps",.tup (w.map iD)]]⟩
theorem Zfb {b : Bk} (h : BkO b) : (∀ f,Z2Y b.ev b.gap = .ok f → ∃ O,Z1k [(.sh,b.d)] = .ok (.sh,.lst (tPw b.ev f)) O) ∧ (∀ w,Z2Y b.ev b.gap = .error w → ∃ O,Z1k [(.sh,b.d)] = .er (nfX w) O):=by
 obtain ⟨v,O,e,h1,h2⟩:=Zaq h;refine ⟨fun f z => ?_,fun w z => ?_⟩
 · have hv:=h1 f z;subst hv;have n0 : Z3E (.non) .non = some (.bl false):=rfl;refine ⟨[~~~b.d,~~~(.lst (tPw b.ev f)),~~~(.non)], ?_⟩;unfold Z1k Z38
   (push_cast [e,n0]) <;> (try rfl)
 · obtain ⟨T,hv⟩:=h2 w z;subst hv;have n1 : Z3E (.tup (w.map iD)) .non = some (.bl true):=rfl;refine ⟨[~~~b.d,~~~(.lst T),~~~(.tup (w.map iD))], ?_⟩;unfold Z1k Z38 Z3K
   (push_cast [e,n1]) <;> (try rfl)
def lkD (b : Bk) (f : Tp) (s t : Sc) : D:=match f (evS b s) (evS b t) with
 | none => .non
 | some x => if nuS b s + x.1 ≤ nuS b t then .non else .tup [s.d,.tup (x.2.map iD),t.d]
def loL (b : Bk) : List Sc:=(scs b).filter (loS b)
def hiL (b : Bk) : List Sc:=(scs b).filter (hiS b)
theorem ZbE {b : Bk} {s : Sc} (m : s ∈ loL b) : s.ok b ∧ loS b s = true:=⟨ZeK (List.mem_filter.mp m).1,(List.mem_filter.mp m).2⟩
theorem ZbF {b : Bk} {s : Sc} (m : s ∈ hiL b) : s.ok b ∧ hiS b s = true:=⟨ZeK (List.mem_filter.mp m).1,(List.mem_filter.mp m).2⟩
def dueF (b : Bk) (f : Tp) (s t : Sc) : Bool:=match f (evS b s) (evS b t) with
 | none => false
 | some x => decide (nuS b t < nuS b s + x.1)
theorem Zfc {b : Bk} {f : Tp} {s t : Sc} (h : dueF b f s t = true) : ∃ x,f (evS b s) (evS b t) = some x ∧ nuS b t < nuS b s + x.1 ∧ lkD b f s t = .tup [s.d,.tup (x.2.map iD),t.d]:=by
 unfold dueF at h;unfold lkD;cases q : f (evS b s) (evS b t) with
 | none => rw [q] at h;cases h
 | some x =>
  rw [q] at h;have h':=Yq h;exact ⟨x,rfl,h',Yk (by omega)⟩
theorem ZiY {b : Bk} {f : Tp} {s t : Sc} (h : dueF b f s t = false) : lkD b f s t = .non:=by
 unfold dueF at h;unfold lkD;cases q : f (evS b s) (evS b t) with
 | none => rfl
 | some x =>
  rw [q] at h;have h':=of_decide_eq_false h;exact Yj (by omega)
def lkP (b : Bk) (f : Tp) (p : Sc × Sc) : D:=lkD b f p.1 p.2
def prL1 (b : Bk) (f : Tp) (l : List Sc) : List (Sc × Sc):=l.flatMap fun s => ((hiL b).filter (dueF b f s)).map fun t => (s,t)
def prL (b : Bk) (f : Tp) : List (Sc × Sc):=prL1 b f (loL b)
theorem Zfd {b : Bk} {f : Tp} {p : Sc × Sc} (m : p ∈ prL b f) : p.1 ∈ loL b ∧ p.2 ∈ hiL b ∧ dueF b f p.1 p.2 = true:=by
 obtain ⟨s,ms,m⟩:=List.mem_flatMap.mp m;obtain ⟨t,mt,rfl⟩:=Ye.mp m;exact ⟨ms,(List.mem_filter.mp mt).1,(List.mem_filter.mp mt).2⟩
def Gw (g : List Gp) (a b : Nat) (s : Int) : Prop:=∃ w,wyP g a w = some b ∧ smP g w = s
theorem Z5u (g : List Gp) (a : Nat) : Gw g a a 0:=⟨[],rfl,rfl⟩
theorem Zfe {g : List Gp} {i : Nat} {t : Gp} (e : g[i]? = some t) : wyP g t.a [i] = some t.b ∧ smP g [i] = t.g:=by
 refine ⟨?_, ?_⟩
 · show (match g[i]? with | some u => if u.a = t.a then wyP g u.b [] else none | none => none) = _;rw [e];exact Yj rfl
 · show (match g[i]? with | some t => t.g | none => 0) + 0 = _;rw [e,Int.add_zero]
theorem Z2t {g : List Gp} {t : Gp} (m : t ∈ g) : Gw g t.a t.b t.g:=by
 obtain ⟨i,hi⟩:=List.mem_iff_getElem?.mp m;exact ⟨[i],(Zfe hi).1,(Zfe hi).2⟩
theorem Z3t {g : List Gp} {a c b : Nat} {x y : Int} (h1 : Gw g a c x) (h2 : Gw g c b y) : Gw g a b (x + y):=by
 obtain ⟨w,e1,rfl⟩:=h1;obtain ⟨v,e2,rfl⟩:=h2;exact ⟨w ++ v,by rw [ZbA e1];exact e2,Z94 g w v⟩
theorem Z46 {g : List Gp} {i a b : Nat} {r : List Nat} (h : wyP g a (i :: r) = some b) : ∃ t,g[i]? = some t ∧ t.a = a ∧ wyP g t.b r = some b:=by
 have h' : (match g[i]? with | some t => if t.a = a then wyP g t.b r else none | none => none) = some b:=h;cases q : g[i]? with
 | none => rw [q] at h';cases h'
 | some t =>
  rw [q] at h';simp only at h';by_cases c : t.a = a
  · rw [Yj c] at h';exact ⟨t,rfl,c,h'⟩
  · rw [Yk c] at h';cases h'
theorem ZfY {g : List Gp} {i b : Nat} {t : Gp} {r : List Nat} (e : g[i]? = some t) (h : wyP g t.b r = some b) : wyP g t.a (i :: r) = some b:=by
 show (match g[i]? with | some u => if u.a = t.a then wyP g u.b r else none | none => none) = _;rw [e];simp only [if_true];exact h
theorem Z3l {g : List Gp} {i : Nat} {t : Gp} {r : List Nat} (e : g[i]? = some t) : smP g (i :: r) = t.g + smP g r:=by
 show (match g[i]? with | some t => t.g | none => 0) + smP g r = _;rw [e]
theorem Z84 {g : List Gp} : ∀ {u v : List Nat} {a b : Nat},wyP g a (u ++ v) = some b → ∃ c,wyP g a u = some c ∧ wyP g c v = some b
 | [],v,a,b,h => ⟨a,rfl,h⟩
 | i :: u,v,a,b,h => by
  obtain ⟨t,e,rfl,h2⟩:=Z46 (show wyP g a (i :: (u ++ v)) = some b from h);obtain ⟨c,h3,h4⟩:=Z84 h2;exact ⟨c,ZfY e h3,h4⟩
def Np (g : List Gp) : Prop:=∀ a s,Gw g a a s → s ≤ 0
theorem Z6q {g : List Gp} (np : Np g) : ∀ {w : List Nat} {a b : Nat},wyP g a w = some b → ∃ v,wyP g a v = some b ∧ v.Nodup ∧ smP g w ≤ smP g v
 | [],a,b,h => ⟨[],h,.nil,Int.le_refl _⟩
 | i :: r,a,b,h => by
  obtain ⟨t,e,rfl,h2⟩:=Z46 h;obtain ⟨v,h3,nd,le⟩:=Z6q np h2;by_cases m : i ∈ v
  · obtain ⟨p,q,rfl⟩:=List.append_of_mem m;obtain ⟨c,h4,h5⟩:=Z84 h3;obtain ⟨t',e',h6,h7⟩:=Z46 h5;rw [e] at e';cases e';subst h6;have z:=np t.a _ ⟨i :: p,ZfY e h4,rfl⟩;rw [Z3l e] at z;rw [Z94] at le;refine ⟨i :: q,h5,(List.nodup_append.mp nd).2.1, ?_⟩;rw [Z3l e];omega
  · refine ⟨i :: v,ZfY e h3,List.nodup_cons.mpr ⟨m,nd⟩, ?_⟩;rw [Z3l e,Z3l e];omega
theorem Zar (f : Nat → Nat) : ∀ {w l : List Nat},w.Nodup → (∀ i ∈ w,i ∈ l) → (w.map f).sum ≤ (l.map f).sum
 | [],l,_,_ => Nat.zero_le _
 | i :: r,l,nd,h => by
  obtain ⟨p,q,rfl⟩:=List.append_of_mem (h i Ya);have nd2:=List.nodup_cons.mp nd;have:=Zar f (l:=p ++ q) nd2.2 fun j m => by
   rcases Yd.mp (h j (Yb _ m)) with z | z
   · exact List.mem_append_left _ z
   · rcases Yc.mp z with z | z
     · subst z;exact absurd m nd2.1
     · exact List.mem_append_right _ z
  simp only [List.map_append,List.map_cons,List.sum_append,List.sum_cons] at this ⊢;omega
def absS (g : List Gp) : Nat:=(g.map fun t => t.g.natAbs).sum
theorem Zff (g : List Gp) : ∀ w : List Nat,smP g w ≤ ((w.map fun i => (g[i]?.map fun t => t.g.natAbs).getD 0).sum : Nat)
 | [] => Int.le_refl _
 | i :: r => by
  have:=Zff g r;show (match g[i]? with | some t => t.g | none => 0) + smP g r ≤ _;rw [List.map_cons,List.sum_cons];cases q : g[i]? with
  | none => simp only [Option.map_none,Option.getD_none];omega
  | some t => simp only [Option.map_some,Option.getD_some];omega
theorem Z96 (g : List Gp) : ((List.range g.length).map fun i => (g[i]?.map fun t => t.g.natAbs).getD 0).sum = absS g:=by
 unfold absS
 congr 1
 apply List.ext_getElem?;intro j;rw [List.getElem?_map,List.getElem?_map];by_cases h : j < g.length
 · rw [List.getElem?_range h,Ym h];simp [h]
 · rw [List.getElem?_eq_none (by rw [Ys];omega),List.getElem?_eq_none (by omega)];rfl
theorem Zhb {g : List Gp} (np : Np g) {a b : Nat} {s : Int} (h : Gw g a b s) : s ≤ absS g:=by
 obtain ⟨w,e,rfl⟩:=h;obtain ⟨v,e2,nd,le⟩:=Z6q np e;have h1:=Zff g v;have h2:=Zar (fun i => (g[i]?.map fun t => t.g.natAbs).getD 0) (l:=List.range g.length) nd fun i m => List.mem_range.mpr (ZfW e2 i m);rw [Z96] at h2;omega
def Wm (g : List Gp) : Nat → Nat → Nat → Int → Prop
 | 0,a,b,s => (a = b ∧ s = 0) ∨ ∃ t ∈ g,t.a = a ∧ t.b = b ∧ t.g = s
 | m + 1,a,b,s => Wm g m a b s ∨ ∃ x y,Wm g m a m x ∧ Wm g m m b y ∧ s = x + y
theorem ZfZ {g : List Gp} : ∀ {m a b : Nat} {s : Int},Wm g m a b s → Gw g a b s
 | 0,a,b,s,h => by
  rcases h with ⟨rfl,rfl⟩ | ⟨t,m,rfl,rfl,rfl⟩
  · exact Z5u g a
  · exact Z2t m
 | m + 1,a,b,s,h => by
  rcases h with h | ⟨x,y,h1,h2,rfl⟩
  · exact ZfZ h
  · exact Z3t (ZfZ h1) (ZfZ h2)
theorem Z85 {g : List Gp} {m k : Nat} (h : m ≤ k) {a b : Nat} {s : Int} (w : Wm g m a b s) : Wm g k a b s:=by
 induction h with
 | refl => exact w
 | step _ ih => exact .inl ih
theorem Z5v {g : List Gp} {N : Nat} (np : ∀ a s,Wm g N a a s → s ≤ 0) : ∀ {m : Nat},m ≤ N → ∀ {a b c : Nat} {x y : Int},c < m → Wm g m a c x → Wm g m c b y → ∃ z,Wm g m a b z ∧ x + y ≤ z
 | 0,_,a,b,c,x,y,h,_,_ => absurd h (Nat.not_lt_zero _)
 | m + 1,hm,a,b,c,x,y,h,h1,h2 => by
  have npm : ∀ a s,Wm g m a a s → s ≤ 0:=fun a s w => np a s (Z85 (by omega) w);by_cases e : c = m
  · subst e;have l1 : ∃ z,Wm g c a c z ∧ x ≤ z:=by
     rcases h1 with h1 | ⟨p,q,w1,w2,rfl⟩
     · exact ⟨x,h1,Int.le_refl _⟩
     · have:=npm c q w2;exact ⟨p,w1,by omega⟩
    have l2 : ∃ z,Wm g c c b z ∧ y ≤ z:=by
     rcases h2 with h2 | ⟨p,q,w1,w2,rfl⟩
     · exact ⟨y,h2,Int.le_refl _⟩
     · have:=npm c p w1;exact ⟨q,w2,by omega⟩
    obtain ⟨z1,w1,i1⟩:=l1;obtain ⟨z2,w2,i2⟩:=l2;exact ⟨z1 + z2,.inr ⟨z1,z2,w1,w2,rfl⟩,by omega⟩
  · have cm : c < m:=by omega
    rcases h1 with h1 | ⟨p1,p2,w1,w2,rfl⟩
    · rcases h2 with h2 | ⟨q1,q2,v1,v2,rfl⟩
      · obtain ⟨z,w,le⟩:=Z5v np (by omega) cm h1 h2;exact ⟨z,.inl w,le⟩
      · obtain ⟨z,w,le⟩:=Z5v np (by omega) cm h1 v1;exact ⟨z + q2,.inr ⟨z,q2,w,v2,rfl⟩,by omega⟩
    · rcases h2 with h2 | ⟨q1,q2,v1,v2,rfl⟩
      · obtain ⟨z,w,le⟩:=Z5v np (by omega) cm w2 h2;exact ⟨p1 + z,.inr ⟨p1,z,w1,w,rfl⟩,by omega⟩
      · obtain ⟨z,w,le⟩:=Z5v np (by omega) cm w2 v1;have:=npm m z w;exact ⟨p1 + q2,.inr ⟨p1,q2,w1,v2,rfl⟩,by omega⟩
theorem Zhc {g : List Gp} {N : Nat} (np : ∀ a s,Wm g N a a s → s ≤ 0) (o : ∀ t ∈ g,t.a < N ∧ t.b < N) : ∀ {w : List Nat} {a b : Nat},wyP g a w = some b → ∃ z,Wm g N a b z ∧ smP g w ≤ z
 | [],a,b,h => by cases h;exact ⟨0,Z85 (Nat.zero_le _) (.inl ⟨rfl,rfl⟩),Int.le_refl _⟩
 | i :: r,a,b,h => by
  obtain ⟨t,e,rfl,h2⟩:=Z46 h;obtain ⟨z,w,le⟩:=Zhc np o h2;have m:=List.mem_of_getElem? e;obtain ⟨z2,w2,le2⟩:=Z5v np (Nat.le_refl N) (o t m).2 (Z85 (Nat.zero_le _) (.inr ⟨t,m,rfl,rfl,rfl⟩)) w;exact ⟨z2,w2,by rw [Z3l e];omega⟩
def Le (h k : Ts) : Prop:=∀ a b x,h a b = some x → ∃ y,k a b = some y ∧ x ≤ y
theorem Le.refl (h : Ts) : Le h h:=fun a b x e => ⟨x,e,Int.le_refl _⟩
theorem Le.trans {h k l : Ts} (p : Le h k) (q : Le k l) : Le h l:=fun a b x e => by
 obtain ⟨y,e1,l1⟩:=p a b x e;obtain ⟨z,e2,l2⟩:=q a b y e1;exact ⟨z,e2,by omega⟩
theorem Zi7 {h : Ts} {a b : Nat} {c : Int} (z : beS (h a b) c = true) : Le h (upT h a b (some c)):=fun u v x e => by
 by_cases k : u = a ∧ v = b
 · obtain ⟨rfl,rfl⟩:=k;rw [Z1e];rw [e] at z;have : x < c:=Yq z;exact ⟨c,rfl,by omega⟩
 · rw [Z3c k];exact ⟨x,e,Int.le_refl _⟩
theorem Zi8 (t : Gp) (h : Ts) : Le h (egS t h):=by
 unfold egS
 split
 · rename_i z;exact Zi7 z
 · exact Le.refl h
theorem Zi9 (m a b : Nat) (h : Ts) : Le h (rlS m a b h):=by
 rw [Z5r]
 split
 · exact Le.refl h
 · split
   · rename_i z;exact Zi7 z
   · exact Le.refl h
theorem Z5w {γ : Type} {q : Ts → γ → Ts} (mo : ∀ x h,Le h (q h x)) : ∀ (l : List γ) (h : Ts),Le h (l.foldl q h)
 | [],h => Le.refl h
 | x :: l,h => (mo x h).trans (Z5w mo l (q h x))
theorem Z4U {γ : Type} {q : Ts → γ → Ts} (mo : ∀ x h,Le h (q h x)) : ∀ {l : List γ} {x : γ} {h : Ts},x ∈ l → ∃ k,Le h k ∧ Le (q k x) (l.foldl q h)
 | y :: l,x,h,m => by
  rcases Yc.mp m with e | m
  · subst e;exact ⟨h,Le.refl h,Z5w mo l (q h x)⟩
  · obtain ⟨k,h1,h2⟩:=Z4U mo (h:=q h y) m;exact ⟨k,(mo y h).trans h1,h2⟩
theorem Zia (n m a : Nat) (h : Ts) : Le h (l3S n m a h):=Z5w (fun b h => Zi9 m a b h) _ h
theorem ZiZ (n m : Nat) (h : Ts) : Le h (l2S n m h):=Z5w (fun a h => Zia n m a h) _ h
theorem Zib {h : Ts} {a b : Nat} {c : Int} (z : ¬ beS (h a b) c = true) : ∃ y,h a b = some y ∧ c ≤ y:=by
 cases q : h a b with
 | none => rw [q] at z;exact absurd rfl z
 | some y =>
  rw [q] at z;refine ⟨y,rfl, ?_⟩;have : ¬ y < c:=fun w => z (Yp w);omega
theorem Zj0 (t : Gp) (h : Ts) : ∃ y,egS t h t.a t.b = some y ∧ t.g ≤ y:=by
 unfold egS;by_cases z : beS (h t.a t.b) t.g = true
 · rw [Yj z,Z1e];exact ⟨t.g,rfl,Int.le_refl _⟩
 · rw [Yk z];exact Zib z
theorem Zj1 {m a b : Nat} {h : Ts} {x y : Int} (e1 : h a m = some x) (e2 : h m b = some y) : ∃ z,rlS m a b h a b = some z ∧ x + y ≤ z:=by
 rw [Z5r,e1,e2];show ∃ z,(if beS (h a b) (x + y) = true then upT h a b (some (x + y)) else h) a b = some z ∧ x + y ≤ z;by_cases z : beS (h a b) (x + y) = true
 · rw [Yj z,Z1e];exact ⟨_,rfl,Int.le_refl _⟩
 · rw [Yk z];exact Zib z
theorem Zj2 {N m a b : Nat} {h : Ts} {x y : Int} (ha : a < N) (hb : b < N) (e1 : h a m = some x) (e2 : h m b = some y) : ∃ z,l2S N m h a b = some z ∧ x + y ≤ z:=by
 obtain ⟨k,h1,h2⟩:=Z4U (q:=fun h a => l3S N m a h) (fun a h => Zia N m a h) (h:=h) (List.mem_range.mpr ha);obtain ⟨k2,h3,h4⟩:=Z4U (q:=fun h b => rlS m a b h) (fun b h => Zi9 m a b h) (h:=k) (List.mem_range.mpr hb);obtain ⟨x',f1,i1⟩:=(h1.trans h3) a m x e1;obtain ⟨y',f2,i2⟩:=(h1.trans h3) m b y e2;obtain ⟨z,g1,i3⟩:=Zj1 f1 f2;obtain ⟨z2,g2,i4⟩:=(h4.trans h2) a b z g1;exact ⟨z2,g2,by omega⟩
def preS (N : Nat) (g : List Gp) (m : Nat) : Ts:=(List.range m).foldl (fun h m => l2S N m h) (egsS g inS)
theorem ZbG (N : Nat) (g : List Gp) (m : Nat) : preS N g (m + 1) = l2S N m (preS N g m):=by
 unfold preS;rw [List.range_succ,List.foldl_append];rfl
theorem Zhd (l : List Gp) (h : Ts) : Le h (egsS l h):=Z5w (fun t h => Zi8 t h) l h
theorem Z86 {N : Nat} {g : List Gp} (o : ∀ t ∈ g,t.a < N ∧ t.b < N) : ∀ {m : Nat},m ≤ N → ∀ {a b : Nat} {s : Int},a < N → b < N → Wm g m a b s → ∃ z,preS N g m a b = some z ∧ s ≤ z
 | 0,_,a,b,s,ha,hb,w => by
  show ∃ z,egsS g inS a b = some z ∧ s ≤ z;rcases w with ⟨rfl,rfl⟩ | ⟨t,m,rfl,rfl,rfl⟩
  · obtain ⟨y,e,l⟩:=Zhd g inS a a 0 (Yj rfl);exact ⟨y,e,l⟩
  · obtain ⟨k,_,h2⟩:=Z4U (q:=fun h t => egS t h) (fun t h => Zi8 t h) (h:=inS) m;obtain ⟨y,e,l⟩:=Zj0 t k;obtain ⟨z,e2,l2⟩:=h2 _ _ y e;exact ⟨z,e2,by omega⟩
 | m + 1,hm,a,b,s,ha,hb,w => by
  rw [ZbG];rcases w with w | ⟨x,y,w1,w2,rfl⟩
  · obtain ⟨z,e,l⟩:=Z86 o (by omega) ha hb w;obtain ⟨z2,e2,l2⟩:=ZiZ N m _ a b z e;exact ⟨z2,e2,by omega⟩
  · obtain ⟨z1,e1,l1⟩:=Z86 o (by omega) ha (by omega : m < N) w1;obtain ⟨z2,e2,l2⟩:=Z86 o (by omega) (by omega : m < N) hb w2;obtain ⟨z,e,l⟩:=Zj2 ha hb e1 e2;exact ⟨z,e,by omega⟩
def So (g : List Gp) (h : Ts) : Prop:=∀ a b s,h a b = some s → Gw g a b s
theorem Zic {g : List Gp} {h : Ts} (k : So g h) {a b : Nat} {c : Int} (w : Gw g a b c) : So g (upT h a b (some c)):=fun u v s e => by
 by_cases z : u = a ∧ v = b
 · obtain ⟨rfl,rfl⟩:=z;rw [Z1e] at e;cases e;exact w
 · rw [Z3c z] at e;exact k u v s e
theorem Zj3 {g : List Gp} {t : Gp} (m : t ∈ g) {h : Ts} (k : So g h) : So g (egS t h):=by
 unfold egS
 split
 · exact Zic k (Z2t m)
 · exact k
theorem Zj4 {g : List Gp} {m a b : Nat} {h : Ts} (k : So g h) : So g (rlS m a b h):=by
 rw [Z5r];cases q1 : h a m with
 | none => exact k
 | some x =>
  cases q2 : h m b with
  | none => exact k
  | some y =>
   show So g (if beS (h a b) (x + y) = true then upT h a b (some (x + y)) else h)
   split
   · exact Zic k (Z3t (k _ _ _ q1) (k _ _ _ q2))
   · exact k
theorem Zfg {g : List Gp} : ∀ {l : List Gp} {h : Ts},(∀ t ∈ l,t ∈ g) → So g h → So g (egsS l h)
 | [],h,_,k => k
 | t :: l,h,o,k => Zfg (l:=l) (fun u m => o u (Yb _ m)) (Zj3 (o t Ya) k)
theorem Z6r (n : Nat) (g : List Gp) : So g (Z1f n g):=by
 refine Z5t (I:=So g) (fun m h k => Z5t (I:=So g) (fun a h k => Z5t (I:=So g) (fun b h k => Zj4 k) k) k) (Zfg (fun t m => m) fun a b s e => ?_);unfold inS at e;by_cases c : a = b
 · rw [Yj c] at e;cases e;subst c;exact Z5u g a
 · rw [Yk c] at e;cases e
def okS (n : Nat) (g : List Gp) : Bool:=!(List.range (n + 1)).any (posS (Z1f n g))
theorem Zhe {n : Nat} {g : List Gp} (h : okS n g = true) {a : Nat} (ha : a < n + 1) {x : Int} (e : Z1f n g a a = some x) : x ≤ 0:=by
 unfold okS at h;rw [Bool.not_eq_true'] at h;have:=List.any_eq_false.mp h a (List.mem_range.mpr ha);unfold posS at this;rw [e] at this;simp only [decide_eq_true_eq] at this;omega
theorem ZbH {n : Nat} {g : List Gp} (o : ∀ t ∈ g,t.a < n + 1 ∧ t.b < n + 1) (h : okS n g = true) : ∀ a s,Wm g (n + 1) a a s → s ≤ 0:=fun a s w => by
 by_cases ha : a < n + 1
 · obtain ⟨z,e,l⟩:=Z86 o (Nat.le_refl _) ha ha w;have:=Zhe h ha e;omega
 · -- no edge leaves such a place
   obtain ⟨v,e,rfl⟩:=ZfZ w;cases v with
   | nil => exact Int.le_refl _
   | cons i r =>
    obtain ⟨t,e1,rfl,_⟩:=Z46 e;exact absurd (o t (List.mem_of_getElem? e1)).1 ha
theorem Z3z {n : Nat} {g : List Gp} (o : ∀ t ∈ g,t.a < n + 1 ∧ t.b < n + 1) (h : okS n g = true) {a b : Nat} {s : Int} (ha : a < n + 1) (hb : b < n + 1) (w : Gw g a b s) : ∃ z,Z1f n g a b = some z ∧ s ≤ z:=by
 obtain ⟨v,e,rfl⟩:=w;obtain ⟨z,w,l⟩:=Zhc (ZbH o h) o e;obtain ⟨z2,e2,l2⟩:=Z86 o (Nat.le_refl _) ha hb w;exact ⟨z2,e2,by omega⟩
theorem Z47 {n : Nat} {g : List Gp} (o : ∀ t ∈ g,t.a < n + 1 ∧ t.b < n + 1) : okS n g = true ↔ Np g:=by
 constructor
 · intro h a s w;obtain ⟨v,e,rfl⟩:=w;obtain ⟨z,w,l⟩:=Zhc (ZbH o h) o e;have:=ZbH o h a z w;omega
 · intro np;unfold okS;rw [Bool.not_eq_true'];refine List.any_eq_false.mpr fun u hu => ?_;unfold posS
   split
   · rename_i x e;have:=np u x (Z6r n g u u x e);simp only [decide_eq_true_eq];omega
   · simp
theorem ZbI {g : List Gp} {P : Nat → Nat → Int → Prop} (h0 : ∀ a,P a a 0) (h1 : ∀ t ∈ g,∀ b s,P t.b b s → P t.a b (t.g + s)) {a b : Nat} {s : Int} (k : Gw g a b s) : P a b s:=by
 obtain ⟨w,e,rfl⟩:=k;have key : ∀ (w : List Nat) (a : Nat),wyP g a w = some b → P a b (smP g w):=by
  intro w
  induction w with
  | nil => intro a e;cases e;exact h0 _
  | cons i r ih =>
   intro a e;obtain ⟨t,e1,rfl,e2⟩:=Z46 e;rw [Z3l e1];exact h1 t (List.mem_of_getElem? e1) b _ (ih _ e2)
 exact key w a e
theorem Z87 {g h : List Gp} (o : ∀ t ∈ g,t ∈ h) {a b : Nat} {s : Int} (w : Gw g a b s) : Gw h a b s :=
 ZbI (P:=fun a b s => Gw h a b s) (fun a => Z5u h a) (fun t m b s k => Z3t (Z2t (o t m)) k) w
theorem Zfh {g : List Gp} {τ : Nat → Int} (o : ∀ t ∈ g,τ t.a + t.g ≤ τ t.b) {a b : Nat} {s : Int} (w : Gw g a b s) : τ a + s ≤ τ b :=
 ZbI (P:=fun a b s => τ a + s ≤ τ b) (fun a => by omega) (fun t m b s k => by have:=o t m;omega) w
theorem ZbJ {g : List Gp} {τ : Nat → Int} (o : ∀ t ∈ g,τ t.a + t.g ≤ τ t.b) : Np g:=fun a s w => by
 have:=Zfh o w;omega
theorem Z88 : ∀ {l : List Int},l ≠ [] → ∃ m,mmD true l = some m ∧ m ∈ l ∧ ∀ a ∈ l,a ≤ m:=by
 intro l;have key : ∀ l : List Int,l ≠ [] → ∃ m,m ∈ l ∧ ∀ a ∈ l,a ≤ m:=by
  intro l
  induction l with
  | nil => intro h;exact absurd rfl h
  | cons x r ih =>
   intro _;cases r with
   | nil => exact ⟨x,Ya,fun a m => by rcases Yc.mp m with rfl | m;exact Int.le_refl _;cases m⟩
   | cons y r =>
    obtain ⟨m,h1,h2⟩:=ih (by simp);by_cases c : x ≤ m
    · exact ⟨m,Yb _ h1,fun a ha => by rcases Yc.mp ha with rfl | ha;exact c;exact h2 a ha⟩
    · exact ⟨x,Ya,fun a ha => by
        rcases Yc.mp ha with rfl | ha
        · exact Int.le_refl _
        · have:=h2 a ha;omega⟩
 intro h;obtain ⟨m,h1,h2⟩:=key l h;exact ⟨m,Zdd h1 h2,h1,h2⟩
structure Ws (n : Nat) (gap : List Gp) (bw : Nat → Nat → Option Int) : Prop where
 s : ∀ a b x,bw a b = some x → Gw gap a b x
 f : ∀ a b x,a < n → b < n → Gw gap a b x → ∃ z,bw a b = some z ∧ x ≤ z
structure Es (n : Nat) (gap : List Gp) (F C : List (Nat × Int)) (E : List Gp) : Prop where
 o : ∀ t ∈ gap,t.a < n ∧ t.b < n
 fo : ∀ p ∈ F,p.1 < n
 co : ∀ p ∈ C,p.1 < n
 m : ∀ t,t ∈ E ↔ t ∈ gap ∨ (∃ p ∈ F,t = ⟨n,p.1,p.2⟩) ∨ (∃ p ∈ C,t = ⟨p.1,n,0 - p.2⟩)
def Due (bw : Nat → Nat → Option Int) (F C : List (Nat × Int)) : Prop:=∃ p ∈ F,∃ q ∈ C,∃ x,bw p.1 q.1 = some x ∧ q.2 < p.2 + x
def lowA (n : Nat) (bw : Nat → Nat → Option Int) (far : Int) (e : Nat) : List Int:=(List.range n).filterMap fun a => (bw a e).map fun x => x - far
def lowV (bw : Nat → Nat → Option Int) (F : List (Nat × Int)) (e : Nat) : List Int:=F.filterMap fun p => (bw p.1 e).map fun x => p.2 + x
def Zhf (bw : Nat → Nat → Option Int) (C : List (Nat × Int)) (e : Nat) : List Int:=C.filterMap fun p => (bw e p.1).map fun x => p.2 - x
theorem Z4V {n : Nat} {bw : Nat → Nat → Option Int} {far : Int} {e : Nat} {y : Int} : y ∈ lowA n bw far e ↔ ∃ a,a < n ∧ ∃ x,bw a e = some x ∧ y = x - far:=by
 unfold lowA;rw [List.mem_filterMap];constructor
 · rintro ⟨a,h1,h2⟩
   cases q : bw a e with
   | none => rw [q] at h2;cases h2
   | some x => rw [q] at h2;cases h2;exact ⟨a,List.mem_range.mp h1,x,q,rfl⟩
 · rintro ⟨a,h1,x,q,rfl⟩
   exact ⟨a,List.mem_range.mpr h1,by rw [q];rfl⟩
theorem Z48 {bw : Nat → Nat → Option Int} {F : List (Nat × Int)} {e : Nat} {y : Int} : y ∈ lowV bw F e ↔ ∃ p ∈ F,∃ x,bw p.1 e = some x ∧ y = p.2 + x:=by
 unfold lowV;rw [List.mem_filterMap];constructor
 · rintro ⟨p,h1,h2⟩
   cases q : bw p.1 e with
   | none => rw [q] at h2;cases h2
   | some x => rw [q] at h2;cases h2;exact ⟨p,h1,x,q,rfl⟩
 · rintro ⟨p,h1,x,q,rfl⟩
   exact ⟨p,h1,by rw [q];rfl⟩
theorem Z97 {bw : Nat → Nat → Option Int} {C : List (Nat × Int)} {e : Nat} {y : Int} : y ∈ Zhf bw C e ↔ ∃ p ∈ C,∃ x,bw e p.1 = some x ∧ y = p.2 - x:=by
 unfold Zhf;rw [List.mem_filterMap];constructor
 · rintro ⟨p,h1,h2⟩
   cases q : bw e p.1 with
   | none => rw [q] at h2;cases h2
   | some x => rw [q] at h2;cases h2;exact ⟨p,h1,x,q,rfl⟩
 · rintro ⟨p,h1,x,q,rfl⟩
   exact ⟨p,h1,by rw [q];rfl⟩
def tauA (n : Nat) (bw : Nat → Nat → Option Int) (F : List (Nat × Int)) (far : Int) (e : Nat) : Int:=if e < n then (mmD true (lowA n bw far e ++ lowV bw F e)).getD 0 else 0
theorem Zid {n : Nat} {bw : Nat → Nat → Option Int} {F : List (Nat × Int)} {far : Int} : tauA n bw F far n = 0:=Yk (by omega)
theorem Z98 {n : Nat} {gap : List Gp} {bw : Nat → Nat → Option Int} (W : Ws n gap bw) (F : List (Nat × Int)) (far : Int) {e : Nat} (he : e < n) : tauA n bw F far e ∈ lowA n bw far e ++ lowV bw F e ∧ ∀ y ∈ lowA n bw far e ++ lowV bw F e,y ≤ tauA n bw F far e:=by
 obtain ⟨z,q,_⟩:=W.f e e 0 he he (Z5u gap e);have ne : lowA n bw far e ++ lowV bw F e ≠ []:=List.ne_nil_of_mem (List.mem_append_left _ (Z4V.mpr ⟨e,he,z,q,rfl⟩));obtain ⟨m,h1,h2,h3⟩:=Z88 ne;unfold tauA;rw [Yj he,h1];exact ⟨h2,h3⟩
theorem ZbK {n : Nat} {gap E : List Gp} {bw : Nat → Nat → Option Int} {F C : List (Nat × Int)} (W : Ws n gap bw) (S : Es n gap F C E) (nd : ¬ Due bw F C) {far : Int} (hf : ∀ q ∈ C,∀ a x,bw a q.1 = some x → x - far ≤ q.2) : ∀ t ∈ E,tauA n bw F far t.a + t.g ≤ tauA n bw F far t.b:=by
 intro t m0;rcases (S.m t).mp m0 with m | ⟨p,m,rfl⟩ | ⟨q,m,rfl⟩
 · obtain ⟨ha,hb⟩:=S.o t m;obtain ⟨h1,_⟩:=Z98 W F far ha;obtain ⟨_,h2⟩:=Z98 W F far hb;rcases Yd.mp h1 with h1 | h1
   · obtain ⟨c,hc,x,q,e⟩:=Z4V.mp h1;obtain ⟨z,q2,le⟩:=W.f c t.b (x + t.g) hc hb (Z3t (W.s _ _ _ q) (Z2t m));have:=h2 _ (List.mem_append_left _ (Z4V.mpr ⟨c,hc,z,q2,rfl⟩));omega
   · obtain ⟨p,hp,x,q,e⟩:=Z48.mp h1;obtain ⟨z,q2,le⟩:=W.f p.1 t.b (x + t.g) (S.fo p hp) hb (Z3t (W.s _ _ _ q) (Z2t m));have:=h2 _ (List.mem_append_right _ (Z48.mpr ⟨p,hp,z,q2,rfl⟩));omega
 · have hp:=S.fo p m;obtain ⟨_,h2⟩:=Z98 W F far hp;obtain ⟨z,q,le⟩:=W.f p.1 p.1 0 hp hp (Z5u gap p.1);have:=h2 _ (List.mem_append_right _ (Z48.mpr ⟨p,m,z,q,rfl⟩));show tauA n bw F far n + p.2 ≤ tauA n bw F far p.1;rw [Zid];omega
 · have hp:=S.co q m;obtain ⟨h1,_⟩:=Z98 W F far hp;show tauA n bw F far q.1 + (0 - q.2) ≤ tauA n bw F far n;rw [Zid];rcases Yd.mp h1 with h1 | h1
   · obtain ⟨c,hc,x,q2,e⟩:=Z4V.mp h1;have:=hf q m c x q2;omega
   · obtain ⟨p,hp,x,q2,e⟩:=Z48.mp h1;have : ¬ q.2 < p.2 + x:=fun lt => nd ⟨p,hp,q,m,x,q2,lt⟩;omega
def absC (C : List (Nat × Int)) : Nat:=(C.map fun q => q.2.natAbs).sum
theorem Zhg {C : List (Nat × Int)} {q : Nat × Int} (m : q ∈ C) : q.2.natAbs ≤ absC C:=by
 unfold absC;obtain ⟨u,v,rfl⟩:=List.append_of_mem m;simp only [List.map_append,List.map_cons,List.sum_append,List.sum_cons];omega
theorem Zhh {n : Nat} {gap : List Gp} {bw : Nat → Nat → Option Int} (W : Ws n gap bw) (np : Np gap) {C : List (Nat × Int)} {far : Int} (h : ∀ q ∈ C,(absS gap : Int) + q.2.natAbs ≤ far) : ∀ q ∈ C,∀ a x,bw a q.1 = some x → x - far ≤ q.2:=fun q m a x e => by
 have h1:=Zhb np (W.s _ _ _ e);have h2:=h q m;omega
theorem Zj5 {n : Nat} {gap E : List Gp} {bw : Nat → Nat → Option Int} {F C : List (Nat × Int)} (W : Ws n gap bw) (S : Es n gap F C E) (np : Np gap) (nd : ¬ Due bw F C) : Np E :=
 ZbJ (ZbK W S nd (far:=absS gap + absC C) (Zhh W np fun q m => by have:=Zhg m;omega))
theorem Zj6 {n : Nat} {gap E : List Gp} {bw : Nat → Nat → Option Int} {F C : List (Nat × Int)} (W : Ws n gap bw) (S : Es n gap F C E) (np : Np E) : Np gap ∧ ¬ Due bw F C:=by
 have sb : ∀ t ∈ gap,t ∈ E:=fun t m => (S.m t).mpr (.inl m);refine ⟨fun a s w => np a s (Z87 sb w),fun ⟨p,hp,q,hq,x,e,lt⟩ => ?_⟩;have w1 : Gw E n p.1 p.2:=Z2t (t:=⟨n,p.1,p.2⟩) ((S.m _).mpr (.inr (.inl ⟨p,hp,rfl⟩)));have w2 : Gw E p.1 q.1 x:=Z87 sb (W.s _ _ _ e);have w3 : Gw E q.1 n (0 - q.2):=Z2t (t:=⟨q.1,n,0 - q.2⟩) ((S.m _).mpr (.inr (.inr ⟨q,hq,rfl⟩)));have:=np n _ (Z3t w1 (Z3t w2 w3));omega
theorem es_o {n : Nat} {gap E : List Gp} {F C : List (Nat × Int)} (S : Es n gap F C E) : ∀ t ∈ E,t.a < n + 1 ∧ t.b < n + 1:=fun t m0 => by
 rcases (S.m t).mp m0 with m | ⟨p,m,rfl⟩ | ⟨q,m,rfl⟩
 · have:=S.o t m;omega
 · have:=S.fo p m;exact ⟨Nat.lt_succ_self n,Nat.lt_succ_of_lt this⟩
 · have:=S.co q m;exact ⟨Nat.lt_succ_of_lt this,Nat.lt_succ_self n⟩
def acS (b : Bk) (κ : Nat → Bool) (lo : Bool) : Sc → Bool
 | .sure _ => true
 | .told i => (b.tel[i]?.map fun t => κ t.w == lo).getD false
def acL (b : Bk) (κ : Nat → Bool) : List Sc:=(loL b).filter (acS b κ true)
def acH (b : Bk) (κ : Nat → Bool) : List Sc:=(hiL b).filter (acS b κ false)
def pvS (b : Bk) (s : Sc) : Nat × Int:=(evS b s,nuS b s)
def sedK (n : Nat) (t : Sr) : Gp:=if t.s = true then ⟨n,t.e,t.x⟩ else ⟨t.e,n,0 - t.x⟩
theorem Z4z {b : Bk} {s : Sc} : s ∈ scs b ↔ s.ok b:=by
 unfold scs;rw [Yd,Ye,Ye];constructor
 · rintro (⟨i,h,rfl⟩ | ⟨i,h,rfl⟩)
   · exact List.mem_range.mp h
   · exact List.mem_range.mp h
 · intro h;cases s with
   | told i => exact .inl ⟨i,List.mem_range.mpr h,rfl⟩
   | sure i => exact .inr ⟨i,List.mem_range.mpr h,rfl⟩
theorem Z6s {b : Bk} {i : Nat} (h : i < b.tel.length) : ∃ t ∈ b.tel,b.tel[i]? = some t ∧ evS b (.told i) = t.e ∧ nuS b (.told i) = t.x ∧ wiS b (.told i) = some t.w ∧ (∀ κ lo,acS b κ lo (.told i) = (κ t.w == lo)):=by
 have e:=Ym h;refine ⟨b.tel[i],List.getElem_mem h,e, ?_, ?_, ?_,fun κ lo => ?_⟩
 · show (b.tel[i]?.map Tl.e).getD 0 = _;rw [e];rfl
 · show (b.tel[i]?.map Tl.x).getD 0 = _;rw [e];rfl
 · show b.tel[i]?.map Tl.w = _;rw [e];rfl
 · show (b.tel[i]?.map fun t => κ t.w == lo).getD false = _;rw [e];rfl
theorem Z6t {b : Bk} {i : Nat} (h : i < b.sur.length) : ∃ t ∈ b.sur,b.sur[i]? = some t ∧ evS b (.sure i) = t.e ∧ nuS b (.sure i) = t.x ∧ loS b (.sure i) = t.s ∧ hiS b (.sure i) = !t.s:=by
 have e:=Ym h;refine ⟨b.sur[i],List.getElem_mem h,e, ?_, ?_, ?_, ?_⟩
 · show (b.sur[i]?.map Sr.e).getD 0 = _;rw [e];rfl
 · show (b.sur[i]?.map Sr.x).getD 0 = _;rw [e];rfl
 · show (b.sur[i]?.map Sr.s).getD false = _;rw [e];rfl
 · show (b.sur[i]?.map fun t => !t.s).getD false = _;rw [e];rfl
theorem Zfi {b : Bk} {κ : Nat → Bool} {p : Nat × Int} : p ∈ (acL b κ).map (pvS b) ↔ (∃ t ∈ b.tel,κ t.w = true ∧ p = (t.e,t.x)) ∨ (∃ t ∈ b.sur,t.s = true ∧ p = (t.e,t.x)):=by
 unfold acL loL;rw [Ye];constructor
 · rintro ⟨s,m,rfl⟩
   obtain ⟨m,ac⟩:=List.mem_filter.mp m;obtain ⟨m,lo⟩:=List.mem_filter.mp m;have ok:=Z4z.mp m;cases s with
   | told i =>
    obtain ⟨t,mt,_,e1,e2,_,e3⟩:=Z6s ok;rw [e3] at ac;refine .inl ⟨t,mt,by simpa using ac, ?_⟩;show (evS b (.told i),nuS b (.told i)) = _;rw [e1,e2]
   | sure i =>
    obtain ⟨t,mt,_,e1,e2,e3,_⟩:=Z6t ok;rw [e3] at lo;refine .inr ⟨t,mt,lo, ?_⟩;show (evS b (.sure i),nuS b (.sure i)) = _;rw [e1,e2]
 · rintro (⟨t,m,k,rfl⟩ | ⟨t,m,k,rfl⟩)
   · obtain ⟨i,hi⟩:=List.mem_iff_getElem?.mp m;have hl : i < b.tel.length:=(Yn.mp hi).1;obtain ⟨u,mt,e0,e1,e2,_,e3⟩:=Z6s hl;rw [hi] at e0;cases e0;refine ⟨.told i,List.mem_filter.mpr ⟨List.mem_filter.mpr ⟨Z4z.mpr hl,rfl⟩,by rw [e3,k];rfl⟩, ?_⟩;show (evS b (.told i),nuS b (.told i)) = _;rw [e1,e2]
   · obtain ⟨i,hi⟩:=List.mem_iff_getElem?.mp m;have hl : i < b.sur.length:=(Yn.mp hi).1;obtain ⟨u,mt,e0,e1,e2,e3,_⟩:=Z6t hl;rw [hi] at e0;cases e0;refine ⟨.sure i,List.mem_filter.mpr ⟨List.mem_filter.mpr ⟨Z4z.mpr hl,by rw [e3,k]⟩,rfl⟩, ?_⟩;show (evS b (.sure i),nuS b (.sure i)) = _;rw [e1,e2]
theorem Zfj {b : Bk} {κ : Nat → Bool} {p : Nat × Int} : p ∈ (acH b κ).map (pvS b) ↔ (∃ t ∈ b.tel,κ t.w = false ∧ p = (t.e,t.x)) ∨ (∃ t ∈ b.sur,t.s = false ∧ p = (t.e,t.x)):=by
 unfold acH hiL;rw [Ye];constructor
 · rintro ⟨s,m,rfl⟩
   obtain ⟨m,ac⟩:=List.mem_filter.mp m;obtain ⟨m,lo⟩:=List.mem_filter.mp m;have ok:=Z4z.mp m;cases s with
   | told i =>
    obtain ⟨t,mt,_,e1,e2,_,e3⟩:=Z6s ok;rw [e3] at ac;refine .inl ⟨t,mt,by simpa using ac, ?_⟩;show (evS b (.told i),nuS b (.told i)) = _;rw [e1,e2]
   | sure i =>
    obtain ⟨t,mt,_,e1,e2,_,e3⟩:=Z6t ok;rw [e3] at lo;refine .inr ⟨t,mt,by simpa using lo, ?_⟩;show (evS b (.sure i),nuS b (.sure i)) = _;rw [e1,e2]
 · rintro (⟨t,m,k,rfl⟩ | ⟨t,m,k,rfl⟩)
   · obtain ⟨i,hi⟩:=List.mem_iff_getElem?.mp m;have hl : i < b.tel.length:=(Yn.mp hi).1;obtain ⟨u,mt,e0,e1,e2,_,e3⟩:=Z6s hl;rw [hi] at e0;cases e0;refine ⟨.told i,List.mem_filter.mpr ⟨List.mem_filter.mpr ⟨Z4z.mpr hl,rfl⟩,by rw [e3,k];rfl⟩, ?_⟩;show (evS b (.told i),nuS b (.told i)) = _;rw [e1,e2]
   · obtain ⟨i,hi⟩:=List.mem_iff_getElem?.mp m;have hl : i < b.sur.length:=(Yn.mp hi).1;obtain ⟨u,mt,e0,e1,e2,_,e3⟩:=Z6t hl;rw [hi] at e0;cases e0;refine ⟨.sure i,List.mem_filter.mpr ⟨List.mem_filter.mpr ⟨Z4z.mpr hl,by rw [e3,k];rfl⟩,rfl⟩, ?_⟩;show (evS b (.sure i),nuS b (.sure i)) = _;rw [e1,e2]
def bwF (f : Tp) (a c : Nat) : Option Int:=(f a c).map (·.1)
theorem Zas {b : Bk} (h : BkO b) {f : Tp} (e : Z2Y b.ev b.gap = .ok f) : okS b.ev b.gap = true:=by
 obtain ⟨sd,no⟩:=Z6O h e;unfold okS;rw [Bool.not_eq_true'];refine List.any_eq_false.mpr fun u hu => ?_;have hu:=List.mem_range.mp hu;unfold posS;by_cases c : u < b.ev
 · rw [sd.r u u c c,sd.d u c];simp
 · have : u = b.ev:=by omega
   subst this;rw [no.d];simp
theorem ws_f {b : Bk} (h : BkO b) {f : Tp} (e : Z2Y b.ev b.gap = .ok f) : Ws b.ev b.gap (bwF f):=by
 obtain ⟨sd,no⟩:=Z6O h e;refine ⟨fun a c x q => ?_,fun a c x ha hc w => ?_⟩
 · unfold bwF at q;cases q2 : f a c with
   | none => rw [q2] at q;cases q
   | some y =>
    rw [q2] at q;cases q;exact ⟨y.2,sd.w a c y.1 y.2 q2⟩
 · obtain ⟨z,e2,le⟩:=Z3z (fun t m => ⟨Nat.lt_succ_of_lt (h.gaps t m).2.1,Nat.lt_succ_of_lt (h.gaps t m).2.2⟩) (Zas h e) (Nat.lt_succ_of_lt ha) (Nat.lt_succ_of_lt hc) w;exact ⟨z,by rw [← e2,sd.r a c ha hc];rfl,le⟩
structure Kp (b : Bk) (κ : Nat → Bool) (τ : Nat → Int) : Prop where
 t : ∀ t ∈ b.tel,if κ t.w = true then t.x ≤ τ t.e else τ t.e ≤ t.x
 g : ∀ t ∈ b.gap,τ t.a + t.g ≤ τ t.b
 s : ∀ t ∈ b.sur,if t.s = true then t.x ≤ τ t.e else τ t.e ≤ t.x
abbrev Rwl:=List (Lit × D)
def rwK (r : Rwl) : D:=.dct (r.map fun p => Jb p.1) (r.map (·.2))
def tbK (ls : List Lit) (h : Lit → Rwl) : D:=.dct (ls.map Jb) (ls.map fun l => rwK (h l))
def upL (h : Lit → Rwl) (l : Lit) (r : Rwl) : Lit → Rwl:=fun m => if m = l then r else h m
def adR (r : Rwl) (o : Lit) (v : D) : Rwl:=if o ∈ r.map (·.1) then r else r ++ [(o,v)]
def lts (n : Nat) : List Lit:=(List.range n).flatMap fun w => [(w,true),(w,false)]
theorem ZbL (n : Nat) : lts (n + 1) = lts n ++ [(n,true),(n,false)]:=by
 unfold lts;rw [List.range_succ,List.flatMap_append];rfl
theorem Z89 {n : Nat} {l : Lit} : l ∈ lts n ↔ l.1 < n:=by
 unfold lts;rw [List.mem_flatMap];constructor
 · rintro ⟨w,m,m2⟩
   have:=List.mem_range.mp m;rcases Yc.mp m2 with rfl | m2
   · exact this
   · rcases Yc.mp m2 with rfl | m2
     · exact this
     · cases m2
 · intro h;refine ⟨l.1,List.mem_range.mpr h, ?_⟩;obtain ⟨w,k⟩:=l;cases k
   · exact Yb _ Ya
   · exact Ya
theorem Z8a (n : Nat) : (lts n).length = 2 * n:=by
 induction n with
 | zero => rfl
 | succ n ih => rw [ZbL,Yh,ih];rfl
theorem Z99 {α : Type} [DecidableEq α] : ∀ {w l : List α},w.Nodup → (∀ x ∈ w,x ∈ l) → w.length ≤ l.length
 | [],l,_,_ => Nat.zero_le _
 | x :: w,l,nd,h => by
  obtain ⟨n1,n2⟩:=List.nodup_cons.mp nd;have mx:=h x Ya;have:=Z99 (w:=w) (l:=l.erase x) n2 fun y m => (List.mem_erase_of_ne (by rintro rfl;exact n1 m)).mpr (h y (Yb _ m));rw [List.length_erase_of_mem mx] at this;have : 0 < l.length:=List.length_pos_of_mem mx;rw [List.length_cons];omega
theorem Zj7 {α β : Type} (f g : α → β) (l : List α) : (l.flatMap fun x => [f x,g x]).length = 2 * l.length:=by
 induction l with
 | nil => rfl
 | cons x l ih => simp only [List.flatMap_cons,Yh,ih,List.length_cons,List.length_nil];omega
def clV (i : Nat) (p : Lit × Lit) : D:=.tup [Jb p.1,.tup [.str "clause",iD i],Jb p.2]
def lkV (y : D) (p : Lit × Lit) : D:=.tup [Jb p.1,.tup [.str "link",y],Jb p.2]
def adP (v : Lit × Lit → D) (h : Lit → Rwl) (p : Lit × Lit) : Lit → Rwl:=if p.1 = p.2 then h else upL h p.1 (adR (h p.1) p.2 (v p))
def stC (h : Lit → Rwl) (q : Cl × Nat) : Lit → Rwl:=(Z6L q.1).foldl (adP (clV q.2)) h
def stL (b : Bk) (f : Tp) (h : Lit → Rwl) (q : Sc × Sc) : Lit → Rwl:=(Z5p b q.1 q.2).foldl (adP (lkV (lkP b f q))) h
def stA (b : Bk) (f : Tp) : Lit → Rwl:=(prL b f).foldl (stL b f) (b.cla.zipIdx.foldl stC fun _ => [])
def RwO (n : Nat) (h : Lit → Rwl) : Prop:=∀ l,((h l).map (·.1)).Nodup ∧ ∀ p ∈ h l,p.1.1 < n
theorem RwO.len {n : Nat} {h : Lit → Rwl} (k : RwO n h) (l : Lit) : (h l).length ≤ 2 * n:=by
 have:=Z99 (k l).1 (l:=lts n) fun x m => by
  obtain ⟨p,mp,rfl⟩:=Ye.mp m;exact Z89.mpr ((k l).2 p mp)
 rw [Yi,Z8a] at this;exact this
theorem RwO.nil (n : Nat) : RwO n fun _ => []:=fun l => ⟨List.nodup_nil,fun _ m => nomatch m⟩
def Kyd (h : Lit → Rwl) (l m : Lit) : Prop:=m ∈ (h l).map (·.1)
def WhS (b : Bk) (f : Tp) (l m : Lit) (v : D) : Prop:=∃ y,v = .tup [Jb l,y,Jb m] ∧ ((∃ i c,b.cla[i]? = some c ∧ (l,m) ∈ Z6L c ∧ y = .tup [.str "clause",iD i]) ∨ ∃ p ∈ prL b f,(l,m) ∈ Z5p b p.1 p.2 ∧ y = .tup [.str "link",lkP b f p])
def kdD (ks : List Bool) : D:=.tup (ks.map fun k => .str (kiS k))
def kap (ks : List Bool) (w : Nat) : Bool:=(ks[w]?).getD false
theorem Zie {ks : List Bool} {w : Nat} (h : w < ks.length) : ixD (kdD ks) (.int (w : Nat)) = some (.str (kiS (kap ks w))):=by
 unfold kdD kap;rw [ixT,Z6E (by omega),Int.toNat_natCast,List.getElem?_map,Ym h];rfl
def ClH (κ : Nat → Bool) (c : Cl) : Prop:=κ c.w = c.k ∨ κ c.v = c.l
instance (κ : Nat → Bool) (c : Cl) : Decidable (ClH κ c):=by unfold ClH;infer_instance
theorem Zfk {b : Bk} (h : BkO b) : (∀ f,Z2Y b.ev b.gap = .ok f → ∃ O,Z6F [(.sh,b.d)] = .ok (.sh,.non) O) ∧ (∀ w,Z2Y b.ev b.gap = .error w → ∃ O,Z6F [(.sh,b.d)] = .ok (.sh,.tup (w.map iD)) O):=by
 obtain ⟨v,O,e,q1,q2⟩:=Zaq h;refine ⟨fun f z => ?_,fun w z => ?_⟩
 · have:=q1 f z;subst this;refine ⟨[~~~b.d], ?_⟩;unfold Z6F Zbg
   (push_cast [e]) <;> (try rfl)
 · obtain ⟨T,rfl⟩:=q2 w z;refine ⟨[~~~b.d], ?_⟩;unfold Z6F Zbg
   (push_cast [e]) <;> (try rfl)
def loE (b : Bk) (f : Tp) (κ : Nat → Bool) (e : Nat) : Option Int:=mmD true (lowV (bwF f) ((acL b κ).map (pvS b)) e)
def hiE (b : Bk) (f : Tp) (κ : Nat → Bool) (e : Nat) : Option Int:=mmD false (Zhf (bwF f) ((acH b κ).map (pvS b)) e)
theorem Z5x {ds : List D} {y : D} {i : Nat} {E : Nv} (h : ds.length < sizeLine) : muC (some (.non,ds ++ [y])) i E = .ok .non (putL i (ds ++ [y]) E):=ZeI _ _ _ _ (by rw [Lb.lenA];omega)
theorem Zhi {n j x : Nat} (h : (List.range n)[j]? = some x) : x = j ∧ j < n:=by
 obtain ⟨h1,h2⟩:=Yn.mp h;rw [List.getElem_range] at h2;rw [Ys] at h1;exact ⟨h2.symm,h1⟩
def KdO (K : D) (n : Nat) (κ : Nat → Bool) : Prop:=∀ w,w < n → ixD K (.int (w : Nat)) = some (.str (kiS (κ w)))
def TmO (T : D) (n : Nat) (τ : Nat → Int) : Prop:=∀ e,e < n → ixD T (.int (e : Nat)) = some (.int (τ e))
theorem kdO {ks : List Bool} {n : Nat} (h : ks.length = n) : KdO (kdD ks) n (kap ks):=fun w hw => Zie (by omega)
theorem kdL {ks : List Bool} {n : Nat} (h : ks.length = n) : KdO (.lst (ks.map fun k => .str (kiS k))) n (kap ks):=fun w hw => by
 have:=Zie (ks:=ks) (w:=w) (by omega);unfold kdD at this;rw [ixT] at this;rw [ixL,this]
def tap (ts : List Int) (e : Nat) : Int:=(ts[e]?).getD 0
theorem tmL {ts : List Int} {n : Nat} (h : ts.length = n) : TmO (.lst (ts.map .int)) n (tap ts):=fun e he => by
 unfold tap;rw [ixL,Z6E (by omega),Int.toNat_natCast,List.getElem?_map,Ym (by omega)];rfl
def Zc9 (κ : Nat → Bool) (τ : Nat → Int) (t : Tl) : Bool:=if κ t.w = true then decide (t.x ≤ τ t.e) else decide (τ t.e ≤ t.x)
def Zca (τ : Nat → Int) (t : Gp) : Bool:=decide (τ t.a + t.g ≤ τ t.b)
def Zcb (τ : Nat → Int) (t : Sr) : Bool:=if t.s = true then decide (t.x ≤ τ t.e) else decide (τ t.e ≤ t.x)
def Z5y (κ : Nat → Bool) (c : Cl) : Bool:=decide (κ c.w = c.k) || decide (κ c.v = c.l)
theorem Zfl {K T : D} {n m : Nat} {κ : Nat → Bool} {τ : Nat → Int} (hK : KdO K n κ) (hT : TmO T m τ) {t : Tl} (h1 : t.w < n) (h2 : t.e < m) : ∃ O,Zk [(.sh,.int 0),(.sh,t.d),(.sh,K),(.sh,T)] = .ok (.sh,.bl (Zc9 κ τ t)) O:=by
 have a1:=hK _ h1;have a2:=hT _ h2;refine ⟨[~~~(.int 0),~~~t.d,~~~K,~~~T], ?_⟩;unfold Zk Z1D Zc9;cases c : κ t.w with
 | true =>
  rw [c] at a1
  (push_cast [Tl.d,a1,a2]) <;> (try rfl)
 | false =>
  rw [c] at a1
  (push_cast [Tl.d,a1,a2]) <;> (try rfl)
theorem Zfm {K T : D} {m : Nat} {τ : Nat → Int} (hT : TmO T m τ) {t : Gp} (h1 : t.a < m) (h2 : t.b < m) : ∃ O,Zk [(.sh,.int 1),(.sh,t.d),(.sh,K),(.sh,T)] = .ok (.sh,.bl (Zca τ t)) O:=by
 have a1:=hT _ h1;have a2:=hT _ h2;refine ⟨[~~~(.int 1),~~~t.d,~~~K,~~~T], ?_⟩;unfold Zk Z1D Zca
 (push_cast [Gp.d,a1,a2]) <;> (try rfl)
theorem Zfn {K T : D} {m : Nat} {τ : Nat → Int} (hT : TmO T m τ) {t : Sr} (h1 : t.e < m) : ∃ O,Zk [(.sh,.int 2),(.sh,t.d),(.sh,K),(.sh,T)] = .ok (.sh,.bl (Zcb τ t)) O:=by
 have a1:=hT _ h1;refine ⟨[~~~(.int 2),~~~t.d,~~~K,~~~T], ?_⟩;unfold Zk Z1D Zcb;cases c : t.s with
 | true => (push_cast [Sr.d,a1,c]) <;> (try rfl)
 | false => (push_cast [Sr.d,a1,c]) <;> (try rfl)
theorem Zat {K T : D} {n : Nat} {κ : Nat → Bool} (hK : KdO K n κ) {t : Cl} (h1 : t.w < n) (h2 : t.v < n) : ∃ O,Zk [(.sh,.int 3),(.sh,t.d),(.sh,K),(.sh,T)] = .ok (.sh,.bl (Z5y κ t)) O:=by
 have a1:=hK _ h1;have a2:=hK _ h2;refine ⟨[~~~(.int 3),~~~t.d,~~~K,~~~T], ?_⟩;unfold Zk Z1D Z5y;by_cases c : κ t.w = t.k
 · (push_cast [Cl.d,a1,a2,c]) <;> (try rfl)
 · (push_cast [Cl.d,a1,a2,c]) <;> (try rfl)
theorem Zhj (t : Cl) : Lay t.d:=⟨.tuple [.int (t.w : Nat),.str (kiS t.k),.int (t.v : Nat),.str (kiS t.l)],by simp [Cl.d,toP,toPs],by simp [PyData.canLay0,PyData.canLayAll0,Z2T (Z90 t.k),Z2T (Z90 t.l)],by simp [PyData.depth,PyData.depthAll]⟩
theorem Zfo {α : Type} {f : α → D} (h : ∀ x,Lay (f x)) (l : List α) : neD (.lst (l.map f)) (.lst []) = some (.bl (!l.isEmpty)):=by
 rw [neL (Zbu h l)];cases l <;> rfl
theorem ZbM {α : Type} (k : α → Bool) (l : List α) : (l.filter fun x => !k x).isEmpty = l.all k:=by
 induction l with
 | nil => rfl
 | cons x l ih =>
  rw [List.all_cons,List.filter_cons];cases k x with
  | true => exact ih
  | false => rfl
structure Pq (b : Bk) (p0 p1 p2 p3 : D) : Prop where
 t : Pt p0 (b.tel.map Tl.d)
 g : Pt p1 (b.gap.map Gp.d)
 s : Pt p2 (b.sur.map Sr.d)
 c : Pt p3 (b.cla.map Cl.d)
theorem pq_l (b : Bk) : Pq b (.lst (b.tel.map Tl.d)) (.lst (b.gap.map Gp.d)) (.lst (b.sur.map Sr.d)) (.lst (b.cla.map Cl.d)):=⟨.inl rfl,.inl rfl,.inl rfl,.inl rfl⟩
theorem ZbN {p : D} {ds : List D} (h : Pt p ds) : Z3u p = some ds:=by rcases h with rfl | rfl <;> rfl
theorem Zj8 {p : D} {ds : List D} (h : Pt p ds) (z : ds.length ≤ sizeLine) (E : Nv) : owO Z3u (.ok p E) = .ok (.l .sh,.lst ds) E:=by
 rcases h with rfl | rfl
 · exact ZiK ds E z
 · exact ZiL ds E z
def kpB (b : Bk) (κ : Nat → Bool) (τ : Nat → Int) : Bool:=b.tel.all (Zc9 κ τ) && (b.gap.all (Zca τ) && (b.sur.all (Zcb τ) && b.cla.all (Z5y κ)))
theorem rng4 : Z3G [.int 4] = some [.int (0 : Nat),.int (1 : Nat),.int (2 : Nat),.int (3 : Nat)]:=rfl
def allK : Nat → List (List Bool)
 | 0 => [[]]
 | n + 1 => (allK n).flatMap fun ks => [ks ++ [true],ks ++ [false]]
theorem Z4W : ∀ {n : Nat} {ks : List Bool},ks ∈ allK n ↔ ks.length = n
 | 0,ks => by
  show ks ∈ [[]] ↔ _;rw [Yg];exact List.length_eq_zero_iff.symm
 | n + 1,ks => by
  show ks ∈ (allK n).flatMap _ ↔ _;rw [List.mem_flatMap];constructor
  · rintro ⟨ls,m,m2⟩
    have:=Z4W.mp m;rcases Yc.mp m2 with rfl | m2
    · rw [Yh,this];rfl
    · rcases Yc.mp m2 with rfl | m2
      · rw [Yh,this];rfl
      · cases m2
  · intro e;rcases List.eq_nil_or_concat ks with rfl | ⟨ls,k,rfl⟩
    · cases e
    · rw [List.concat_eq_append,Yh] at e;have e' : ls.length = n:=by rw [Yr] at e;omega
      refine ⟨ls,Z4W.mpr e', ?_⟩;rw [List.concat_eq_append];cases k
      · exact Yb _ Ya
      · exact Ya
theorem Z8b : ∀ n,(allK n).length = 2 ^ n
 | 0 => rfl
 | n + 1 => by
  show ((allK n).flatMap _).length = _;rw [Zj7,Z8b n,Nat.pow_succ];omega
theorem Zau (ks : List Bool) (k : Bool) (z : ks.length ≤ 1000) : Ji (kdD ks) (.tup [.str (kiS k)]) = some (kdD (ks ++ [k])):=by
 have sz : 2000 ≤ sizeLine:=by decide
 unfold kdD;rw [addT (by rw [Yi,Yr];omega),List.map_append];rfl
def AK (n : Nat) (found : List D) (s2 : Option Ent) (longer : List D) (s4 : Option Ent) : Nv:=[~~~(.int (n : Nat)),~~~(.lst found),s2,some (.l .sh,.lst longer),s4]
theorem Zif {n : Nat} {found : List D} {s2 : Option Ent} : ∀ {l : List (List Bool)} {acc : List (List Bool)} {s4 : Option Ent},(∀ ks ∈ l,ks.length ≤ 1000) → acc.length + 2 * l.length ≤ 2000 → ∃ t4,Z1i (Jd 4) ZC (l.map kdD) (AK n found s2 (acc.map kdD) s4) = .nx (AK n found s2 ((acc ++ l.flatMap fun ks => [ks ++ [true],ks ++ [false]]).map kdD) t4)
 | [],acc,s4,_,_ => ⟨s4,by rw [List.flatMap_nil,List.append_nil];rfl⟩
 | ks :: l,acc,s4,o,z => by
  have sz : 2000 ≤ sizeLine:=by decide
  rw [List.length_cons] at z;have a1:=Zau ks true (o ks Ya);have a2:=Zau ks false (o ks Ya);have a1' : Ji (kdD ks) (.tup [.str "early"]) = some (kdD (ks ++ [true])):=a1;have a2' : Ji (kdD ks) (.tup [.str "late"]) = some (kdD (ks ++ [false])):=a2;have ex : extG (acc.map kdD) [.lst [kdD (ks ++ [true]),kdD (ks ++ [false])]] = some (.non,(acc ++ [ks ++ [true],ks ++ [false]]).map kdD):=by
   show (if (acc.map kdD).length + 2 ≤ sizeLine then _ else none) = _;rw [Yj (by rw [Yi];omega),List.map_append];rfl
  have zl : ((acc ++ [ks ++ [true],ks ++ [false]]).map kdD).length ≤ sizeLine:=by
   rw [Yi,Yh];show acc.length + 2 ≤ _;omega
  obtain ⟨t4,e⟩:=Zif (n:=n) (found:=found) (s2:=s2) (l:=l) (acc:=acc ++ [ks ++ [true],ks ++ [false]]) (s4 := ~~~(kdD ks)) (fun u m => o u (Yb _ m)) (by rw [Yh];show acc.length + 2 + _ ≤ _;omega);have hb : ZC (AK n found s2 (acc.map kdD) (~~~(kdD ks))) = .nx (AK n found s2 ((acc ++ [ks ++ [true],ks ++ [false]]).map kdD) (~~~(kdD ks))):=by
   unfold ZC AK
   (push_cast [a1',a2',Z4x,Z6M,Z6N,ex,ZeI,zl]) <;> (try rfl)
  refine ⟨t4, ?_⟩;rw [List.map_cons,Zd (E1:=AK n found s2 (acc.map kdD) (~~~(kdD ks))) rfl hb,e,Yt];rfl
theorem Z49 {n : Nat} (hn : n ≤ 8) : ∃ O,ZL [(.sh,.int (n : Nat))] = .ok (.sh,.lst ((allK n).map kdD)) O:=by
 have sz : 2000 ≤ sizeLine:=by decide
 have r1:=Z2D n (by omega);obtain ⟨E',e,s2,s3,s4,rfl⟩:=Z6l (emb:=iD) (asg:=Jd 2) (body:=Z11) (S:=fun m E => ∃ s2 s3 s4,E = [~~~(.int (n : Nat)),~~~(.lst ((allK m).map kdD)),s2,s3,s4]) (l:=List.range n) (n:=0) (E:=[~~~(.int (n : Nat)),~~~(.lst ((allK 0).map kdD)),none,none,none]) ⟨_,_,_,rfl⟩ (fun j x E hj s => by
  obtain ⟨rfl,hx⟩:=Zhi hj;obtain ⟨s2,s3,s4,rfl⟩:=s;rw [Nat.zero_add];have le : (allK x).length ≤ 256:=by
   rw [Z8b];exact Nat.le_trans (Nat.pow_le_pow_right (by decide) (by omega : x ≤ 8)) (by decide)
  obtain ⟨t4,e⟩:=Zif (n:=n) (found:=(allK x).map kdD) (s2 := ~~~(iD x)) (l:=allK x) (acc:=[]) (s4:=s4) (fun ks m => by have:=Z4W.mp m;omega) (by rw [List.length_nil];omega);rw [List.nil_append] at e;have e' : Z1i (Jd 4) ZC ((allK x).map kdD) (AK n ((allK x).map kdD) (~~~(iD x)) [] s4) = .nx (AK n ((allK x).map kdD) (~~~(iD x)) ((allK (x + 1)).map kdD) t4):=e;have ld : ZcK [.lst ((allK x).map kdD)] = some (.lst ((allK x).map kdD)):=rfl;refine ⟨[~~~(.int (n : Nat)),~~~(.lst ((allK x).map kdD)),~~~(iD x),s3,s4],[~~~(.int (n : Nat)),~~~(.lst ((allK (x + 1)).map kdD)),~~~(iD x),~~~(.lst ((allK (x + 1)).map kdD)),t4],rfl, ?_,_,_,_,rfl⟩;unfold Z11 Z26;unfold AK at e'
  (push_cast [ld,e',Z1r,Z2C]) <;> (try rfl))
 rw [Nat.zero_add,Ys] at e;have e' : Z1i (Jd 2) Z11 ((List.range n).map iD) [~~~(.int (n : Nat)),~~~(.lst [.tup []]),none,none,none] = _:=e;refine ⟨[~~~(.int (n : Nat)),~~~(.lst ((allK n).map kdD)),s2,s3,s4], ?_⟩;unfold ZL;rw [Z2q];unfold Z27
 (push_cast [r1,e']) <;> (try rfl)
def clB (b : Bk) (κ : Nat → Bool) : Bool:=b.cla.all (Z5y κ)
theorem ZbO {ys : List D} (h : ∀ y ∈ ys,∃ k : Bool,y = .str (kiS k)) : ∃ ks : List Bool,ys = ks.map fun k => .str (kiS k):=by
 induction ys with
 | nil => exact ⟨[],rfl⟩
 | cons y ys ih =>
  obtain ⟨k,rfl⟩:=h y Ya;obtain ⟨ks,rfl⟩:=ih fun z m => h z (Yb _ m);exact ⟨k :: ks,rfl⟩
theorem Zfp {p : Int → Prop} {ys : List D} (h : ∀ y ∈ ys,∃ k : Int,y = .int k ∧ p k) : ∃ ks : List Int,ys = ks.map D.int ∧ ∀ k ∈ ks,p k:=by
 induction ys with
 | nil => exact ⟨[],rfl,fun _ m => nomatch m⟩
 | cons y ys ih =>
  obtain ⟨k,rfl,hk⟩:=h y Ya;obtain ⟨ks,rfl,hs⟩:=ih fun z m => h z (Yb _ m);refine ⟨k :: ks,rfl,fun x m => ?_⟩;rcases Yc.mp m with rfl | m
  · exact hk
  · exact hs x m
def Z8c (b : Bk) (κ : Nat → Bool) (τ : Nat → Int) : Bk:=⟨b.ev,b.wi,b.tel.filter (Zc9 κ τ),b.gap.filter (Zca τ),b.sur.filter (Zcb τ),b.cla.filter (Z5y κ)⟩
theorem ZbP {b : Bk} (h : BkO b) (κ : Nat → Bool) (τ : Nat → Int) : BkO (Z8c b κ τ) :=
 ⟨h.e8,h.w8,fun t m => h.t t (List.mem_filter.mp m).1,fun t m => h.g t (List.mem_filter.mp m).1,fun t m => h.s t (List.mem_filter.mp m).1,fun t m => h.c t (List.mem_filter.mp m).1,Nat.le_trans (List.length_filter_le _ _) h.tn,Nat.le_trans (List.length_filter_le _ _) h.gn,Nat.le_trans (List.length_filter_le _ _) h.sn,Nat.le_trans (List.length_filter_le _ _) h.cn⟩
theorem Zg0 {α : Type} {B : D} {t0 : Ow} {e w : D} {P K T : D} {i : Nat} {p : D} {l : List α} {emb : α → D} {k : α → Bool} (ix : ixD P (.int (i : Nat)) = some p) (hp : Z3u p = some (l.map emb)) (hk : ∀ x ∈ l,∃ O,Zk [(.sh,.int (i : Nat)),(.sh,emb x),(.sh,K),(.sh,T)] = .ok (.sh,.bl (k x)) O) (z : l.length ≤ 1000) :
    ZP [some (t0,B),~~~e,~~~w,~~~P,~~~K,~~~T,none,none,~~~(.int (i : Nat)),none] = .ok (.l .sh,.lst ((l.filter k).map emb)) [some (t0,B),~~~e,~~~w,~~~P,~~~K,~~~T,none,none,~~~(.int (i : Nat)),none]:=by
 have sz : 2000 ≤ sizeLine:=by decide
 unfold ZP;refine Zac (l:=l) (emb:=emb) (c:=k) (EA:=[some (t0,B),~~~e,~~~w,~~~P,~~~K,~~~T,none,none,~~~(.int (i : Nat)),none]) (E1:=fun x => [some (t0,B),~~~e,~~~w,~~~P,~~~K,~~~T,none,none,~~~(.int (i : Nat)),~~~(emb x)]) (by (push_cast [ix,hp]) <;> (try rfl)) rfl (fun x m => ⟨rfl, ?_,fun _ => (by (push_cast []) <;> (try rfl)),rfl⟩) (by omega);obtain ⟨O,q⟩:=hk x m
 (push_cast [q]) <;> (try rfl)
theorem Z5z (B : Bg) {b : Bk} (h : BkO b) {p0 p1 p2 p3 : D} (q : Pq b p0 p1 p2 p3) : ∃ (B2 : Bg) (ks : List Bool) (ts : List Int) (O : Nv),ZZr [(.l .sh,.lst B.1),(.sh,.int (b.ev : Nat)),(.sh,.int (b.wi : Nat)),(.sh,.lst [p0,p1,p2,p3])] = .ok (.l (.l .sh),.lst (Z8c b (kap ks) (tap ts)).l) (some (.l .sh,.lst B2.1) :: O) ∧ ks.length = b.wi ∧ ts.length = b.ev ∧ ∀ x ∈ ts,-2 ≤ x ∧ x ≤ 9:=by
 have sz : 2000 ≤ sizeLine:=by decide
 have h8:=h.e8;have w8:=h.w8;have r1:=Z2D b.wi (by omega);have r2:=Z2D b.ev (by omega);have r4:=rng4;obtain ⟨P,hP⟩ : ∃ P,P = D.lst [p0,p1,p2,p3]:=⟨_,rfl⟩;rw [← hP];obtain ⟨ys,E1,c1,⟨B1,rfl⟩,ly,hy⟩:=ZhU (f0:=rg1 (Ja (rd 2) (Zr []))) (asg:=Jd 6) (elt:=shM (Jc Zo [some 0] [] (ioM 0 (Zr [])))) (vs:=[6]) (I:=fun E => ∃ B1 : Bg,E = [some (.l .sh,.lst B1.1),~~~(.int (b.ev : Nat)),~~~(.int (b.wi : Nat)),~~~P,none,none,none,none,none,none]) (p:=fun y => ∃ k : Bool,y = .str (kiS k)) (ds:=(List.range b.wi).map iD) (E:=[some (.l .sh,.lst B.1),~~~(.int (b.ev : Nat)),~~~(.int (b.wi : Nat)),~~~P,none,none,none,none,none,none]) (EA:=[some (.l .sh,.lst B.1),~~~(.int (b.ev : Nat)),~~~(.int (b.wi : Nat)),~~~P,none,none,none,none,none,none]) (by (push_cast [r1]) <;> (try rfl)) ⟨B,rfl⟩ (by
  rintro d m E ⟨B1,rfl⟩
  obtain ⟨B2,k,O,e⟩:=ZiF B1;exact ⟨_,[some (.l .sh,.lst B2.1),~~~(.int (b.ev : Nat)),~~~(.int (b.wi : Nat)),~~~P,none,none,~~~d,none,none,none],.str (kiS k),rfl,by (push_cast [e]) <;> (try rfl),⟨B2,rfl⟩,k,rfl⟩) (by rw [Yi,Ys];omega)
 obtain ⟨ks,rfl⟩:=ZbO hy;rw [Yi,Yi,Ys] at ly;obtain ⟨zs,E2,c0,⟨B2,rfl⟩,lz,hz⟩:=ZhU (f0:=rg1 (Ja (rd 1) (Zr []))) (asg:=Jd 7) (elt:=opM Jt (shM (Jc Z3 [some 0,none] [] (ioM 0 (Ja (Zr (.int 12)) (Zr []))))) (Zr (.int 2))) (vs:=[7]) (I:=fun E => ∃ B1 : Bg,E = [some (.l .sh,.lst B1.1),~~~(.int (b.ev : Nat)),~~~(.int (b.wi : Nat)),~~~P,none,none,none,none,none,none]) (p:=fun y => ∃ k : Int,y = .int k ∧ -2 ≤ k ∧ k ≤ 9) (ds:=(List.range b.ev).map iD) (E:=[some (.l .sh,.lst B1.1),~~~(.int (b.ev : Nat)),~~~(.int (b.wi : Nat)),~~~P,none,none,none,none,none,none]) (EA:=[some (.l .sh,.lst B1.1),~~~(.int (b.ev : Nat)),~~~(.int (b.wi : Nat)),~~~P,none,none,none,none,none,none]) (by (push_cast [r2]) <;> (try rfl)) ⟨B1,rfl⟩ (by
  rintro d m E ⟨B1,rfl⟩
  obtain ⟨B2,k,O,e,hk⟩:=ZeM B1 (m:=12) (by omega) (by omega);exact ⟨_,[some (.l .sh,.lst B2.1),~~~(.int (b.ev : Nat)),~~~(.int (b.wi : Nat)),~~~P,none,none,none,~~~d,none,none],.int ((k : Nat) - 2),rfl,by (push_cast [e]) <;> (try rfl),⟨B2,rfl⟩,(k : Nat) - 2,rfl,by omega,by omega⟩) (by rw [Yi,Ys];omega)
 obtain ⟨ts,rfl,ht⟩:=Zfp hz;rw [Yi,Yi,Ys] at lz;have hK:=kdL ly;have hT:=tmL lz;obtain ⟨K,hKe⟩ : ∃ K,K = D.lst (ks.map fun k => .str (kiS k)):=⟨_,rfl⟩;obtain ⟨T,hTe⟩ : ∃ T,T = D.lst (ts.map .int):=⟨_,rfl⟩;rw [← hKe] at c1 hK;rw [← hTe] at c0 hT;have hn:=h.tn;have gn:=h.gn;have sn:=h.sn;have cn:=h.cn;have a0:=Zg0 (B:=.lst B2.1) (t0:=.l .sh) (e:=.int (b.ev : Nat)) (w:=.int (b.wi : Nat)) (P:=P) (K:=K) (T:=T) (i:=0) (k:=Zc9 (kap ks) (tap ts)) (by rw [hP];rfl) (ZbN q.t) (fun t m => Zfl hK hT (h.t t m).1 (h.t t m).2.1) (by omega);have a1:=Zg0 (B:=.lst B2.1) (t0:=.l .sh) (e:=.int (b.ev : Nat)) (w:=.int (b.wi : Nat)) (P:=P) (K:=K) (T:=T) (i:=1) (k:=Zca (tap ts)) (by rw [hP];rfl) (ZbN q.g) (fun t m => Zfm hT (h.gaps t m).2.1 (h.gaps t m).2.2) (by omega);have a2:=Zg0 (B:=.lst B2.1) (t0:=.l .sh) (e:=.int (b.ev : Nat)) (w:=.int (b.wi : Nat)) (P:=P) (K:=K) (T:=T) (i:=2) (k:=Zcb (tap ts)) (by rw [hP];rfl) (ZbN q.s) (fun t m => Zfn hT (h.s t m).1) (by omega);have a3:=Zg0 (B:=.lst B2.1) (t0:=.l .sh) (e:=.int (b.ev : Nat)) (w:=.int (b.wi : Nat)) (P:=P) (K:=K) (T:=T) (i:=3) (k:=Z5y (kap ks)) (by rw [hP];rfl) (ZbN q.c) (fun t m => Zat hK (h.c t m).1 (h.c t m).2) (by omega);obtain ⟨L,hL⟩ : ∃ L,L = (Z8c b (kap ks) (tap ts)).l:=⟨_,rfl⟩;have c3 : Z1c [some (.l .sh,.lst B2.1),~~~(.int (b.ev : Nat)),~~~(.int (b.wi : Nat)),~~~P,~~~K,~~~T,none,none,none,none] = .ok (.l (.l .sh),.lst L) [some (.l .sh,.lst B2.1),~~~(.int (b.ev : Nat)),~~~(.int (b.wi : Nat)),~~~P,~~~K,~~~T,none,none,none,none]:=by
  unfold Z1c;have r:=Z3y (l:=[0,1,2,3]) (emb:=iD) (g:=fun i => (L[i]?).getD .non) (f0:=rg1 (Ja (Zr (.int 4)) (Zr []))) (asg:=Jd 8) (elt:=ZP) (vs:=[8]) (E:=[some (.l .sh,.lst B2.1),~~~(.int (b.ev : Nat)),~~~(.int (b.wi : Nat)),~~~P,~~~K,~~~T,none,none,none,none]) (EA:=[some (.l .sh,.lst B2.1),~~~(.int (b.ev : Nat)),~~~(.int (b.wi : Nat)),~~~P,~~~K,~~~T,none,none,none,none]) (E0:=[some (.l .sh,.lst B2.1),~~~(.int (b.ev : Nat)),~~~(.int (b.wi : Nat)),~~~P,~~~K,~~~T,none,none,none,none]) (E1:=fun i => [some (.l .sh,.lst B2.1),~~~(.int (b.ev : Nat)),~~~(.int (b.wi : Nat)),~~~P,~~~K,~~~T,none,none,~~~(iD i),none]) (by (push_cast [r4]) <;> rfl) rfl (fun i m => ⟨rfl,(by
   rcases Yc.mp m with rfl | m
   · rw [hL];exact a0
   · rcases Yc.mp m with rfl | m
     · rw [hL];exact a1
     · rcases Yc.mp m with rfl | m
       · rw [hL];exact a2
       · rcases Yc.mp m with rfl | m
         · rw [hL];exact a3
         · cases m),rfl⟩) (by show 4 ≤ sizeLine;omega)
  rw [hL] at r ⊢;exact r
 refine ⟨B2,ks,ts,[~~~(.int (b.ev : Nat)),~~~(.int (b.wi : Nat)),~~~P,~~~K,~~~T,none,none,none,none], ?_,ly,lz,ht⟩;rw [← hL];unfold ZZr;rw [Z2a];unfold Z1Y Z1Z
 (push_cast [c1,c0,c3]) <;> (try rfl)
theorem Zig (mx : Bool) : ∀ {l : List Int} {m : Int},mmD mx l = some m → m ∈ l:=by
 have key : ∀ (r : List Int) (x : Int),r.foldl (fun a b => if mx = true then (if a < b then b else a) else (if b < a then b else a)) x ∈ x :: r:=by
  intro r
  induction r with
  | nil => intro x;exact Ya
  | cons y r ih =>
   intro x;rw [List.foldl_cons];have:=ih (if mx = true then (if x < y then y else x) else (if y < x then y else x));rcases Yc.mp this with e | m
   · rw [e]
     split
     · split
       · exact Yb _ Ya
       · exact Ya
     · split
       · exact Yb _ Ya
       · exact Ya
   · exact Yb _ (Yb _ m)
 intro l m h;cases l with
 | nil => cases h
 | cons x r =>
  cases h;exact key r x
theorem Zfq {b : Bk} (h : BkO b) : ∀ w : List Nat,(smP b.gap w).natAbs ≤ w.length * 1000000000000000
 | [] => by show (0 : Int).natAbs ≤ _;omega
 | i :: w => by
  have ih:=Zfq h w;cases q : b.gap[i]? with
  | none =>
   have e : smP b.gap (i :: w) = 0 + smP b.gap w:=by
    show (match b.gap[i]? with | some t => t.g | none => 0) + smP b.gap w = _;rw [q]
   rw [e,List.length_cons];omega
  | some t =>
   have bt:=(h.g t (List.mem_of_getElem? q)).2.2.2;rw [Z3l q,List.length_cons];obtain ⟨b1,b2⟩:=bt;omega
theorem Zfr {b : Bk} (h : BkO b) {f : Tp} (z : Z2Y b.ev b.gap = .ok f) {a c : Nat} {x : Int × List Nat} (e : f a c = some x) : x.1.natAbs ≤ 512000000000000000:=by
 obtain ⟨s,w⟩:=x;obtain ⟨sd,_⟩:=Z6O h z;have l:=Zak h z e;have:=Zfq h w;rw [(sd.w a c s w e).2] at this;show s.natAbs ≤ _;omega
theorem Zfs {b : Bk} (h : BkO b) {f : Tp} (z : Z2Y b.ev b.gap = .ok f) {a c : Nat} {x : Int} (e : bwF f a c = some x) : x.natAbs ≤ 512000000000000000:=by
 unfold bwF at e;cases q : f a c with
 | none => rw [q] at e;cases e
 | some y =>
  rw [q] at e;cases e;exact Zfr h z q
theorem Zft (B : Bg) {b : Bk} (h : BkO b) : ∃ (B2 : Bg) (ks : List Bool) (ts : List Int) (O : Nv),ZZr [(.l .sh,.lst B.1),(.sh,.int (b.ev : Nat)),(.sh,.int (b.wi : Nat)),(.sh,.lst b.l)] = .ok (.l (.l .sh),.lst (Z8c b (kap ks) (tap ts)).l) (some (.l .sh,.lst B2.1) :: O) ∧ ks.length = b.wi ∧ ts.length = b.ev ∧ ∀ x ∈ ts,-2 ≤ x ∧ x ≤ 9:=Z5z B h (pq_l b)
def t0 (n : Nat) (τ : Nat → Int) (e : Nat) : Int:=if e < n then τ e else 0
def tmD (ts : List Int) : D:=.tup (ts.map .int)
inductive Chn (h : Lit → Rwl) (l : Lit) : Lit → List D → Prop where
 | nil : Chn h l l []
 | snoc {k m : Lit} {w : List D} {v : D} : Chn h l k w → (m,v) ∈ h k → Chn h l m (w ++ [v])
inductive Rc (h : Lit → Rwl) (l : Lit) : Lit → Prop where
 | refl : Rc h l l
 | tail {k m : Lit} : Rc h l k → Kyd h k m → Rc h l m
theorem Rc.trans {h : Lit → Rwl} {l m k : Lit} (a : Rc h l m) (b : Rc h m k) : Rc h l k:=by
 induction b with
 | refl => exact a
 | tail _ s ih => exact .tail ih s
abbrev Cm:=List (Lit × List D)
def cmD (C : Cm) : D:=.dct (C.map fun p => Jb p.1) (C.map fun p => .lst p.2)
def ck (C : Cm) : List Lit:=C.map (·.1)
structure Js (n : Nat) (h : Lit → Rwl) (one : Lit) (C : Cm) (Q : List Lit) : Prop where
 nd : (ck C).Nodup
 lt : ∀ l ∈ ck C,l.1 < n
 ch : ∀ p ∈ C,Chn h one p.1 p.2
 ln : ∀ p ∈ C,p.2.length < C.length
 qs : ∀ l ∈ Q,l ∈ ck C
 st : one ∈ ck C
theorem Js.len {n : Nat} {h : Lit → Rwl} {one : Lit} {C : Cm} {Q : List Lit} (j : Js n h one C Q) : C.length ≤ 2 * n:=by
 have:=Z99 j.nd (l:=lts n) fun x m => Z89.mpr (j.lt x m);unfold ck at this;rw [Yi,Z8a] at this;exact this
def PS (b : Bk) (h : Lit → Rwl) (one other : Lit) (C : Cm) (Q : List Lit) (s5 s6 : Option Ent) : Nv:=[~~~(tbK (lts b.wi) h),~~~(Jb one),~~~(Jb other),some (.d true .sh,cmD C),some (.l .sh,.lst (Q.map Jb)),s5,s6]
def ng (l : Lit) : Lit:=(l.1,!l.2)
structure Jr (n : Nat) (h : Lit → Rwl) (one : Lit) (F Q : List Lit) : Prop where
 nd : F.Nodup
 lt : ∀ l ∈ F,l.1 < n
 rc : ∀ l ∈ F,Rc h one l
 qs : ∀ l ∈ Q,l ∈ F
 st : one ∈ F
theorem Jr.len {n : Nat} {h : Lit → Rwl} {one : Lit} {F Q : List Lit} (j : Jr n h one F Q) : F.length ≤ 2 * n:=by
 have:=Z99 j.nd (l:=lts n) fun x m => Z89.mpr (j.lt x m);rw [Z8a] at this;exact this
def RS (b : Bk) (h : Lit → Rwl) (one : Lit) (F Q : List Lit) (s4 : Option Ent) : Nv:=[~~~(tbK (lts b.wi) h),~~~(Jb one),some (.l .sh,.lst (F.map Jb)),some (.l .sh,.lst (Q.map Jb)),s4]
abbrev Cd:=List (Nat × Bool)
def gtC (C : Cd) (w : Nat) : Option Bool:=(C.find? fun p => decide (p.1 = w)).map (·.2)
structure Jk (b : Bk) (f : Tp) (C : Cd) : Prop where
 cl : ∀ l m : Lit,gtC C l.1 = some l.2 → Rc (stA b f) l m → gtC C m.1 = some m.2
abbrev Stp:=Lit × D × Lit
def spD (s : Stp) : D:=.tup [Jb s.1,s.2.1,Jb s.2.2]
def rot {α : Type} : List α → List α
 | [] => []
 | x :: r => r ++ [x]
def chB (ss : List Stp) : Bool:=((ss.zip (rot ss)).map fun p => decide (p.1.2.2 = p.2.1)).all id
theorem Zg1 {b : Bk} {s : Sc} (h : s.ok b) : scOf b s.d = some s:=by
 cases s with
 | told i =>
  show (idxN b.tel.length (iD i)).map Sc.told = _;rw [Z4w h];rfl
 | sure i =>
  show (idxN b.sur.length (iD i)).map Sc.sure = _;rw [Z4w h];rfl
theorem Zhk {b : Bk} (h : BkO b) {f : Tp} (e : Z2Y b.ev b.gap = .ok f) {s t : Sc} (hs : s.ok b) (ht : t.ok b) : Th 2 540 (lkD b f s t):=by
 cases d : dueF b f s t with
 | false => rw [ZiY d];exact Zbr.up (by decide) (by decide)
 | true =>
  obtain ⟨x,q,c,e2⟩:=Zfc d;obtain ⟨k,no⟩:=Z6O h e;rw [e2];exact (Z44 (ZH (Sc.th h hs) (ZH (ZeZ h (k.w _ _ x.1 x.2 q).1 (Zak h e q)) (Z2V (Sc.th h ht))))).up (by decide) (by decide)
structure Cry (b c : Bk) (y : Int) : Prop where
 g : ∀ (i : Nat) (t : Gp),b.gap[i]? = some t → c.gap[i]? = some t
 cl : ∀ (i : Nat) (t : Cl),b.cla[i]? = some t → c.cla[i]? = some t
 t : ∀ (i : Nat) (t : Tl),b.tel[i]? = some t → c.tel[i]? = some ⟨t.w,t.e,t.x + y⟩
 s : ∀ (i : Nat) (t : Sr),b.sur[i]? = some t → c.sur[i]? = some ⟨t.e,t.s,t.x + y⟩
 w : b.wi ≤ c.wi
section
variable {b c : Bk} {y : Int}
theorem Z3A {α : Type} {l : List α} {i : Nat} {x : α} (h : l[i]? = some x) : i < l.length:=(Yn.mp h).1
theorem Cry.sc (k : Cry b c y) {s : Sc} (h : s.ok b) : s.ok c ∧ evS c s = evS b s ∧ nuS c s = nuS b s + y ∧ loS c s = loS b s ∧ hiS c s = hiS b s ∧ wiS c s = wiS b s:=by
 cases s with
 | told i =>
  have e : b.tel[i]? = some b.tel[i]:=Ym h;have e':=k.t _ _ e;refine ⟨Z3A e', ?_, ?_,rfl,rfl, ?_⟩
  · show (c.tel[i]?.map Tl.e).getD 0 = (b.tel[i]?.map Tl.e).getD 0;rw [e,e'];rfl
  · show (c.tel[i]?.map Tl.x).getD 0 = (b.tel[i]?.map Tl.x).getD 0 + y;rw [e,e'];rfl
  · show c.tel[i]?.map Tl.w = b.tel[i]?.map Tl.w;rw [e,e'];rfl
 | sure i =>
  have e : b.sur[i]? = some b.sur[i]:=Ym h;have e':=k.s _ _ e;refine ⟨Z3A e', ?_, ?_, ?_, ?_,rfl⟩
  · show (c.sur[i]?.map Sr.e).getD 0 = (b.sur[i]?.map Sr.e).getD 0;rw [e,e'];rfl
  · show (c.sur[i]?.map Sr.x).getD 0 = (b.sur[i]?.map Sr.x).getD 0 + y;rw [e,e'];rfl
  · show (c.sur[i]?.map Sr.s).getD false = (b.sur[i]?.map Sr.s).getD false;rw [e,e'];rfl
  · show (c.sur[i]?.map fun t => !t.s).getD false = (b.sur[i]?.map fun t => !t.s).getD false;rw [e,e'];rfl
theorem Cry.wy (k : Cry b c y) : ∀ {w : List Nat} {a d : Nat},wyP b.gap a w = some d → wyP c.gap a w = some d ∧ smP c.gap w = smP b.gap w
 | [],a,d,h => ⟨h,rfl⟩
 | i :: r,a,d,h => by
  obtain ⟨t,e,ea,er⟩:=Z46 h;have e':=k.g _ _ e;obtain ⟨h1,h2⟩:=k.wy er;refine ⟨?_, ?_⟩
  · rw [← ea];exact ZfY e' h1
  · show (match c.gap[i]? with | some t => t.g | none => 0) + smP c.gap r = (match b.gap[i]? with | some t => t.g | none => 0) + smP b.gap r;rw [e,e',h2]
theorem Cry.link (k : Cry b c y) (hb : BkO b) {f : Tp} (z : Z2Y b.ev b.gap = .ok f) {p : Sc × Sc} (m : p ∈ prL b f) : ZeF c (lkP b f p) = true ∧ Z92 c (lkP b f p) = Z5p b p.1 p.2 ∧ ∃ w,lkP b f p = .tup [p.1.d,w,p.2.d]:=by
 obtain ⟨s,t⟩:=p;obtain ⟨hs,ht,d⟩:=Zfd m;obtain ⟨x,q,cc,e2⟩:=Zfc d;obtain ⟨tk,no⟩:=Z6O hb z;obtain ⟨hw,hm⟩:=tk.w _ _ x.1 x.2 q;obtain ⟨s1,s2,s3,s4,s5,s6⟩:=k.sc (ZbE hs).1;obtain ⟨t1,t2,t3,t4,t5,t6⟩:=k.sc (ZbF ht).1;obtain ⟨w1,w2⟩:=k.wy hw;have e3 : lkP b f (s,t) = .tup [s.d,.tup (x.2.map iD),t.d]:=e2;rw [e3];refine ⟨?_, ?_,_,rfl⟩
 · rw [ZeG,Zg1 s1,Zg1 t1];simp only;rw [s4,(ZbE hs).2,t5,(ZbF ht).2,s2,t2,ZeV w1,ZeE (ZfW w1),← Zai,w2,hm,s3,t3];have cc : nuS b t < nuS b s + x.1:=cc;have : decide (nuS b t + y < nuS b s + y + x.1) = true:=Yp (by omega);rw [this];rfl
 · show (match scOf c s.d,scOf c t.d with
     | some s,some e => Z5p c s e
     | _,_ => []) = _
   rw [Zg1 s1,Zg1 t1];show Z5p c s t = Z5p b s t;unfold Z5p;rw [s6,t6]
theorem Zfu {wi : Nat} {l : Lit} (h : l.1 < wi) : Zc7 wi (Jb l) = some l:=by
 obtain ⟨w,q⟩:=l;exact Z91 h
theorem Zfv {l m : Lit} (v : D) : whyB c l m (.tup [.str "link",v]) = (ZeF c v && decide ((l,m) ∈ Z92 c v)):=by
 show (if ("link" : Str) = "clause" then (match (idxN c.cla.length v).bind (fun i => c.cla[i]?) with
     | some c => decide ((l,m) ∈ Z6L c)
     | none => false)
  else if ("link" : Str) = "link" then ZeF c v && decide ((l,m) ∈ Z92 c v) else false) = _
 rw [Yk (by decide),Yj rfl]
theorem Cry.step (k : Cry b c y) (hb : BkO b) {f : Tp} (z : Z2Y b.ev b.gap = .ok f) {l m : Lit} {v : D} (h : WhS b f l m v) (hl : l.1 < b.wi) (hm : m.1 < b.wi) : ZgZ c v = true ∧ (∃ u,v = spD (l,u,m)) ∧ Th 5 700 v:=by
 obtain ⟨u,rfl,q⟩:=h;have hw:=k.w;have w8:=hb.w8;have st : ZgZ c (.tup [Jb l,u,Jb m]) = whyB c l m u:=by
  rw [ZeJ,Zfu (by omega),Zfu (by omega)]
 rw [st];have tl : Th 1 7 (Jb l):=ZeN (by omega);have tm : Th 1 7 (Jb m):=ZeN (by omega);rcases q with ⟨i,cl,ec,mc,rfl⟩ | ⟨p,mp,mc,rfl⟩
 · refine ⟨?_,⟨_,rfl⟩, ?_⟩
   · have e':=k.cl _ _ ec;show (match (idxN c.cla.length (iD i)).bind (fun i => c.cla[i]?) with
      | some c => decide ((l,m) ∈ Z6L c)
      | none => false) = true
     rw [Z4w (Z3A e')];show (match c.cla[i]? with
      | some c => decide ((l,m) ∈ Z6L c)
      | none => false) = true
     rw [e'];exact Yp mc
   · have:=Z3A ec;have cn:=hb.cn;exact (Z44 (ZH tl (ZH (Z44 (ZH (Z6K (n:=6) (by decide +kernel) (by decide +kernel) (by decide +kernel)) (Z2V (th_n (by omega))))) (Z2V tm)))).up (by decide) (by decide)
 · obtain ⟨l1,l2,_⟩:=k.link hb z mp;refine ⟨?_,⟨_,rfl⟩, ?_⟩
   · rw [Zfv,l1,l2,Yp mc];rfl
   · obtain ⟨m1,m2,_⟩:=Zfd mp;have tk : Th 2 540 (lkP b f p):=Zhk hb z (ZbE m1).1 (ZbF m2).1;exact (Z44 (ZH tl (ZH (Z44 (ZH (Z6K (n:=4) (by decide +kernel) (by decide +kernel) (by decide +kernel)) (Z2V tk))) (Z2V tm)))).up (by decide) (by decide)
end
theorem ph : ∀ (n : Nat) (l : List Nat),l.Nodup → (∀ i ∈ l,i < n) → l.length ≤ n
 | 0,l,_,h => by
  cases l with
  | nil => exact Nat.le_refl _
  | cons x l => exact absurd (h x (Ya ..)) (by omega)
 | n + 1,l,nd,h => by
  have:=ph n (l.erase n) (nd.erase n) fun i m => by
   have a:=(nd.mem_erase_iff).mp m;have:=h i a.2;have:=a.1;omega
  rw [List.length_erase] at this
  split at this <;> omega
def Zj9 (i : Lb.It) (κ : Nat → Bool) (τ : Nat → Int) : Bool:=match i with
 | .t t => Zc9 κ τ t
 | .g t => Zca τ t
 | .s t => Zcb τ t
 | .c c => Z5y κ c
theorem Zfw {n : Nat} {g : List Gp} (h : okS n g = true) : Kf.sumD n (Z1f n g) = .lst (tSm (n + 1) (Z1f n g)):=by
 unfold Kf.sumD;unfold okS at h;rw [Bool.not_eq_true'] at h;rw [h,Yk Bool.false_ne_true]
def LayK (k : Nat) (d : D) : Prop:=∃ p,toP d = some p ∧ p.canLay0 = true ∧ p.depth ≤ k
theorem lays {k : Nat} : ∀ {xs : List D},(∀ x ∈ xs,LayK k x) → ∃ ps,toPs xs = some ps ∧ PyData.canLayAll0 ps = true ∧ PyData.depthAll ps ≤ k
 | [],_ => ⟨[],rfl,rfl,Nat.zero_le _⟩
 | x :: xs,h => by
  obtain ⟨p,a,b,c⟩:=h x Ya;obtain ⟨ps,d,e,f⟩:=lays fun y m => h y (Yb _ m);refine ⟨p :: ps, ?_, ?_, ?_⟩
  · unfold toPs;rw [a,d]
  · show (p.canLay0 && PyData.canLayAll0 ps) = true;rw [b,e];rfl
  · show max p.depth (PyData.depthAll ps) ≤ k;omega
theorem LayK.up {k l : Nat} {d : D} (h : LayK k d) (z : k ≤ l) : LayK l d:=by
 obtain ⟨p,a,b,c⟩:=h;exact ⟨p,a,b,Nat.le_trans c z⟩
def itsB (b : Bk) : List Lb.It:=b.tel.map .t ++ (b.gap.map .g ++ (b.sur.map .s ++ b.cla.map .c))
structure Nr (b : Bk) : Prop where
 e8 : b.ev ≤ 8
 w8 : b.wi ≤ 8
 t : ∀ t ∈ b.tel,t.w < b.wi ∧ t.e < b.ev ∧ -2000000000000 ≤ t.x ∧ t.x ≤ 2000000000000
 g : ∀ t ∈ b.gap,t.a < b.ev ∧ t.b < b.ev ∧ t.a ≠ t.b ∧ -2000000000000 ≤ t.g ∧ t.g ≤ 2000000000000
 s : ∀ t ∈ b.sur,t.e < b.ev ∧ -2000000000000 ≤ t.x ∧ t.x ≤ 2000000000000
 c : ∀ t ∈ b.cla,t.w < b.wi ∧ t.v < b.wi
 tn : b.tel.length ≤ 20
 gn : b.gap.length ≤ 20
 sn : b.sur.length ≤ 20
 cn : b.cla.length ≤ 20
theorem Nr.o {b : Bk} (h : Nr b) : BkO b where
 e8:=h.e8
 w8:=h.w8
 t:=fun t m => by obtain ⟨h1,h2,h3,h4⟩:=h.t t m;exact ⟨h1,h2,by omega,by omega⟩
 g:=fun t m => by obtain ⟨h1,h2,h3,h4,h5⟩:=h.g t m;exact ⟨h1,h2,h3,by omega,by omega⟩
 s:=fun t m => by obtain ⟨h1,h3,h4⟩:=h.s t m;exact ⟨h1,by omega,by omega⟩
 c:=fun t m => h.c t m
 tn:=Nat.le_trans h.tn (by decide)
 gn:=Nat.le_trans h.gn (by decide)
 sn:=Nat.le_trans h.sn (by decide)
 cn:=Nat.le_trans h.cn (by decide)
structure Nq (ev wi : Nat) (m : Int) (n : Nat) (p : P4) : Prop where
 t : ∀ t ∈ p.a,t.w < wi ∧ t.e < ev ∧ -m ≤ t.x ∧ t.x ≤ m
 g : ∀ t ∈ p.b,t.a < ev ∧ t.b < ev ∧ t.a ≠ t.b ∧ -m ≤ t.g ∧ t.g ≤ m
 s : ∀ t ∈ p.c,t.e < ev ∧ -m ≤ t.x ∧ t.x ≤ m
 c : ∀ t ∈ p.d,t.w < wi ∧ t.v < wi
 tn : p.a.length ≤ n
 gn : p.b.length ≤ n
 sn : p.c.length ≤ n
 cn : p.d.length ≤ n
theorem Nq.of {ev wi : Nat} {m : Int} {p : P4} (h : DrawnP ev wi m p) (hm : m ≤ 11) : Nq ev wi 1000000000000 11 p where
 t:=h.t
 g:=fun t i => by obtain ⟨h1,h2,h3,h4,h5⟩:=h.g t i;exact ⟨h1,h2,h3,by omega,by omega⟩
 s:=h.s
 c:=h.c
 tn:=by have:=h.tn;omega
 gn:=h.gn
 sn:=Nat.le_trans h.sn (by decide)
 cn:=Nat.le_trans h.cn (by decide)
theorem Nq.up {ev wi : Nat} {m m' : Int} {n n' : Nat} {p : P4} (h : Nq ev wi m n p) (a : m ≤ m') (b : n ≤ n') : Nq ev wi m' n' p where
 t:=fun t i => by obtain ⟨h1,h2,h3,h4⟩:=h.t t i;exact ⟨h1,h2,by omega,by omega⟩
 g:=fun t i => by obtain ⟨h1,h2,h3,h4,h5⟩:=h.g t i;exact ⟨h1,h2,h3,by omega,by omega⟩
 s:=fun t i => by obtain ⟨h1,h2,h3⟩:=h.s t i;exact ⟨h1,by omega,by omega⟩
 c:=h.c
 tn:=Nat.le_trans h.tn b
 gn:=Nat.le_trans h.gn b
 sn:=Nat.le_trans h.sn b
 cn:=Nat.le_trans h.cn b
def bigP (p : P4) : P4:=⟨p.a,p.b.map fun t => ⟨t.a,t.b,t.g * 200000000000⟩,p.c,p.d⟩
theorem Nq.big {ev wi : Nat} {p : P4} (h : DrawnP ev wi 7 p) : Nq ev wi 1000000000000 11 (bigP p) where
 t:=h.t
 g:=fun t i => by
  obtain ⟨u,m,rfl⟩:=Ye.mp i;obtain ⟨h1,h2,h3,h4,h5⟩:=h.g u m;exact ⟨h1,h2,h3,by show _ ≤ u.g * 200000000000;omega,by show u.g * 200000000000 ≤ _;omega⟩
 s:=h.s
 c:=h.c
 tn:=by have:=h.tn;show p.a.length ≤ 11;omega
 gn:=by show (p.b.map _).length ≤ 11;rw [Yi];exact h.gn
 sn:=Nat.le_trans h.sn (by decide)
 cn:=Nat.le_trans h.cn (by decide)
theorem four {P : Nat → Prop} (h0 : P 0) (h1 : P 1) (h2 : P 2) (h3 : P 3) : ∀ k,k < 4 → P k:=by
 intro k hk
 match k,hk with
 | 0,_ => exact h0
 | 1,_ => exact h1
 | 2,_ => exact h2
 | 3,_ => exact h3
def PT (b c : Bk) (s2 s3 s4 : Option Ent) : Nv:=[~~~b.d,~~~c.d,s2,s3,s4]
def Part (b : Bk) (i : Lb.It) (v : D) : Prop:=∃ (ks : List Bool) (ts : List Int),v = .tup [kdD ks,tmD ts] ∧ ks.length = b.wi ∧ ts.length = b.ev ∧ kpB b (kap ks) (tap ts) = true ∧ Zj9 i (kap ks) (tap ts) = false ∧ Th 1 8 (tmD ts)
end Kf
namespace Kf
open PySem PySem.Spec PyProof.Rows L2 Dl Lb TL
end Kf
namespace Kf
open PySem PySem.Spec PyProof.Rows L2 Dl Lb
theorem Zfx {b : Bk} (h : BkO b) {f : Tp} (z : Z2Y b.ev b.gap = .ok f) : Np b.gap:=(Z47 fun t m => by obtain ⟨h1,h2,_⟩:=h.g t m;exact ⟨Nat.lt_succ_of_lt h1,Nat.lt_succ_of_lt h2⟩).mp (Zas h z)
def rl (ws : List Nat) (l : Lit) : Lit:=(nat0 ws l.1,l.2)
structure Sb (b c : Bk) : Prop where
 e : b.ev = c.ev
 w : b.wi = c.wi
 s : ∀ i ∈ itsB b,i ∈ itsB c
theorem rw_set {n : Nat} {f : Nat → D} {a : Nat} (y : D) : (rwD n f).set a y = rwD n (fun v => if v = a then y else f v):=by
 refine List.ext_getElem? fun j => ?_;unfold rwD;rw [List.getElem?_set,Yi,Ys,List.getElem?_map,List.getElem?_map];by_cases c : a = j
 · subst c;rw [Yj rfl];by_cases h : a < n
   · rw [Yj h,List.getElem?_range h];show some y = some (if a = a then y else f a);rw [Yj rfl]
   · rw [Yk h,List.getElem?_eq_none (by rw [Ys];omega)];rfl
 · rw [Yk c];by_cases h : j < n
   · rw [List.getElem?_range h];show some (f j) = some (if j = a then y else f j);rw [Yk (fun z => c z.symm)]
   · rw [List.getElem?_eq_none (by rw [Ys];omega)];rfl
def wy (sg : Bool) (f : Tp) (a e : Nat) : Option (Int × List Nat):=if sg = true then f a e else f e a
theorem st1 : (((("always" : Str)) = "from") = False):=by simp <;> decide
theorem st3 : (((("never" : Str)) = "always") = False):=by simp <;> decide
def CL (b : Bk) (B : Bg) (acc : List Cl) (s4 s5 : Option Ent) : Nv:=[some (.l .sh,.lst B.1),~~~(.int (b.wi : Nat)),~~~(.lst b.l),some (.l .sh,.lst (acc.map Cl.d)),s4,s5]
abbrev Se:=Option Int × Option Int
def seD (p : Se) : D:=.tup [enS p.1,enS p.2]
def negE : Option Int → Option Int
 | some x => some (-x)
 | none => none
theorem Zja {p : Se} (h : ∀ x,p.1 = some x ∨ p.2 = some x → x.natAbs ≤ 4000000000000000000) : Th 1 2 (seD p):=by
 have one : ∀ {o : Option Int},(∀ x,o = some x → x.natAbs ≤ 4000000000000000000) → Th 0 0 (enS o):=fun {o} ho => by
  cases o with
  | none => exact Zbr
  | some x => exact th_i (by have:=ho x rfl;omega) (by have:=ho x rfl;omega)
 exact (Z44 (ZH (one fun x e => h x (.inl e)) (ZH (one fun x e => h x (.inr e)) Z7O))).up (by decide) (by decide)
def Sm (x : Int) : Prop:=-1000000000000 ≤ x ∧ x ≤ 1000000000000
structure Fb (b : Bk) (G : Int) : Prop where
 t : ∀ t ∈ b.tel,Sm t.x
 g : ∀ t ∈ b.gap,-G ≤ t.g ∧ t.g ≤ G
 s : ∀ t ∈ b.sur,Sm t.x
def Nb (b : Bk) : Prop:=Fb b 4 ∨ b.ev ≤ 4 ∧ Fb b 1000000000000
theorem Nb.x {b : Bk} (h : Nb b) : (∀ t ∈ b.tel,Sm t.x) ∧ ∀ t ∈ b.sur,Sm t.x:=by
 rcases h with h | ⟨_,h⟩
 · exact ⟨h.t,h.s⟩
 · exact ⟨h.t,h.s⟩
theorem Zhl {b : Bk} {G : Int} (g0 : 0 ≤ G) (h : ∀ t ∈ b.gap,-G ≤ t.g ∧ t.g ≤ G) : ∀ w : List Nat,(smP b.gap w).natAbs ≤ w.length * G.toNat
 | [] => by show (0 : Int).natAbs ≤ _;simp
 | i :: w => by
  have ih:=Zhl g0 h w;rw [List.length_cons,Nat.succ_mul];cases q : b.gap[i]? with
  | none =>
   have e : smP b.gap (i :: w) = 0 + smP b.gap w:=by
    show (match b.gap[i]? with | some t => t.g | none => 0) + smP b.gap w = _;rw [q]
   rw [e];omega
  | some t =>
   have bt:=h t (List.mem_of_getElem? q);rw [Z3l q];obtain ⟨b1,b2⟩:=bt;omega
theorem ZbQ {b : Bk} (h : BkO b) {f : Tp} (e : Z2Y b.ev b.gap = .ok f) {a c : Nat} {s : Int} {w : List Nat} (q : f a c = some (s,w)) : w.length ≤ 2 ^ (b.ev + 1):=by
 have g:=Zaj (n:=b.ev) (g:=b.gap) (fun t m => (h.gaps t m).1);rw [e] at g;have g' : Gn b.ev b.ev f:=g;have:=g'.l a c s w q;omega
theorem Zih {b : Bk} (h : BkO b) (nb : Nb b) {f : Tp} (z : Z2Y b.ev b.gap = .ok f) {a c : Nat} {x : Int} (e : bwF f a c = some x) : x.natAbs ≤ 32000000000000:=by
 unfold bwF at e;cases q : f a c with
 | none => rw [q] at e;cases e
 | some y =>
  rw [q] at e;obtain ⟨s,w⟩:=y;have e : s = x:=Option.some.inj e;subst e;obtain ⟨sd,_⟩:=Z6O h z;have l:=ZbQ h z q;have hs:=(sd.w a c s w q).2;rcases nb with nb | ⟨e4,nb⟩
  · have p : 2 ^ (b.ev + 1) ≤ 2 ^ 9:=Nat.pow_le_pow_right (by decide) (by have:=h.e8;omega);have:=Zhl (by decide) nb.g w;rw [hs] at this;have g : (4 : Int).toNat = 4:=rfl;rw [g] at this;omega
  · have p : 2 ^ (b.ev + 1) ≤ 2 ^ 5:=Nat.pow_le_pow_right (by decide) (by omega);have:=Zhl (by decide) nb.g w;rw [hs] at this;have g : (1000000000000 : Int).toNat = 1000000000000:=rfl;rw [g] at this;omega
theorem Zfy {b : Bk} (nb : Nb b) {κ : Nat → Bool} {p : Nat × Int} (m : p ∈ (acL b κ).map (pvS b) ∨ p ∈ (acH b κ).map (pvS b)) : p.2.natAbs ≤ 1000000000000:=by
 obtain ⟨n1,n2⟩:=nb.x;rcases m with m | m
 · rcases Zfi.mp m with ⟨t,m1,_,rfl⟩ | ⟨t,m1,_,rfl⟩
   · obtain ⟨b1,b2⟩:=n1 t m1;show t.x.natAbs ≤ _;omega
   · obtain ⟨b1,b2⟩:=n2 t m1;show t.x.natAbs ≤ _;omega
 · rcases Zfj.mp m with ⟨t,m1,_,rfl⟩ | ⟨t,m1,_,rfl⟩
   · obtain ⟨b1,b2⟩:=n1 t m1;show t.x.natAbs ≤ _;omega
   · obtain ⟨b1,b2⟩:=n2 t m1;show t.x.natAbs ≤ _;omega
theorem lo_sm {b : Bk} (h : BkO b) (nb : Nb b) {f : Tp} (z : Z2Y b.ev b.gap = .ok f) {κ : Nat → Bool} {e : Nat} {y : Int} (q : loE b f κ e = some y) : y.natAbs ≤ 33000000000000:=by
 obtain ⟨p,m,x,e1,rfl⟩:=Z48.mp (Zig true q);have h1:=Zih h nb z e1;have h2:=Zfy nb (.inl m);omega
theorem hi_sm {b : Bk} (h : BkO b) (nb : Nb b) {f : Tp} (z : Z2Y b.ev b.gap = .ok f) {κ : Nat → Bool} {e : Nat} {y : Int} (q : hiE b f κ e = some y) : y.natAbs ≤ 33000000000000:=by
 obtain ⟨p,m,x,e1,rfl⟩:=Z97.mp (Zig false q);have h1:=Zih h nb z e1;have h2:=Zfy nb (.inr m);omega
def inQ (q : Se) (x : Int) : Bool:=q.1.all (fun y => decide (y ≤ x)) && q.2.all (fun y => decide (x ≤ y))
def inB (l : List Se) (x : Int) : Bool:=l.any fun q => inQ q x
theorem Zhm {E E' : List Gp} {i j : Nat} {v : Int} (m : ∀ t,t ∈ E' ↔ t ∈ E ∨ t = ⟨j,i,v⟩) : Np E' ↔ Np E ∧ ∀ z,Gw E i j z → z + v ≤ 0:=by
 have sub : ∀ t ∈ E,t ∈ E':=fun t h => (m t).mpr (.inl h);constructor
 · intro np;have e1 : Gw E' j i v:=Z2t (t:=⟨j,i,v⟩) ((m _).mpr (.inr rfl));exact ⟨fun a s w => np a s (Z87 sub w),fun z w => np _ _ (Z3t (Z87 sub w) e1)⟩
 · rintro ⟨np,h1⟩
   have key : ∀ {a c : Nat} {s : Int},Gw E' a c s → (∃ s',Gw E a c s' ∧ s ≤ s') ∨ ∃ p q,Gw E a j p ∧ Gw E i c q ∧ s ≤ p + v + q:=fun {a c s} w => by
    refine ZbI (g:=E') (P:=fun a c s => (∃ s',Gw E a c s' ∧ s ≤ s') ∨ ∃ p q,Gw E a j p ∧ Gw E i c q ∧ s ≤ p + v + q) (fun a => .inl ⟨0,Z5u E a,Int.le_refl _⟩) (fun t mt c s k => ?_) w;rcases (m t).mp mt with me | rfl
    · have g:=Z2t me;rcases k with ⟨s',w1,l⟩ | ⟨p,q,w1,w2,l⟩
      · exact .inl ⟨t.g + s',Z3t g w1,by omega⟩
      · exact .inr ⟨t.g + p,q,Z3t g w1,w2,by omega⟩
    · rcases k with ⟨s',w1,l⟩ | ⟨p,q,w1,w2,l⟩
      · exact .inr ⟨0,s',Z5u E j,w1,by show v + s ≤ _;omega⟩
      · have:=h1 p w1;exact .inr ⟨0,q,Z5u E j,w2,by show v + s ≤ _;omega⟩
   intro a s w;rcases key w with ⟨s',w1,l⟩ | ⟨p,q,w1,w2,l⟩
   · have:=np a s' w1;omega
   · have:=h1 _ (Z3t w2 w1);omega
theorem Zfz {n : Nat} {E E' : List Gp} (o : ∀ t ∈ E,t.a < n + 1 ∧ t.b < n + 1) (o' : ∀ t ∈ E',t.a < n + 1 ∧ t.b < n + 1) {i j : Nat} {v : Int} (hi : i < n + 1) (hj : j < n + 1) (m : ∀ t,t ∈ E' ↔ t ∈ E ∨ t = ⟨j,i,v⟩) : okS n E' = true ↔ okS n E = true ∧ ∀ z,Z1f n E i j = some z → z + v ≤ 0:=by
 rw [Z47 o',Zhm m];have so:=Z6r n E;constructor
 · rintro ⟨np,h1⟩
   exact ⟨(Z47 o).mpr np,fun z e => h1 z (so i j z e)⟩
 · rintro ⟨k,h1⟩
   refine ⟨(Z47 o).mp k,fun z w => ?_⟩;obtain ⟨s,e,l⟩:=Z3z o k hi hj w;have:=h1 s e;omega
def shL : Option Int → Int → Bool
 | some s,g => decide (g ≤ s)
 | none,_ => false
def shH : Option Int → Int → Bool
 | some s,x => decide (s ≤ x)
 | none,_ => false
def Apt (l : List Se) : Prop:=∀ (k : Nat) (q r : Se),l[k]? = some q → l[k + 1]? = some r → ∃ e s,q.2 = some e ∧ r.1 = some s ∧ e + 1 < s
theorem Apt.tail {q : Se} {t : List Se} (h : Apt (q :: t)) : Apt t:=fun k a b h1 h2 => h (k + 1) a b (by rw [List.getElem?_cons_succ];exact h1) (by rw [List.getElem?_cons_succ];exact h2)
theorem ZbR {n : Nat} {E : List Gp} (o : ∀ t ∈ E,t.a < n + 1 ∧ t.b < n + 1) (k : okS n E = true) : ∃ τ : Nat → Int,τ n = 0 ∧ ∀ t ∈ E,τ t.a + t.g ≤ τ t.b:=by
 have hs : ∀ v : Nat,∃ m : Int,(m = 0 ∨ ∃ u s,u < n + 1 ∧ Z1f n E u v = some s ∧ m = s) ∧ 0 ≤ m ∧ ∀ u s,u < n + 1 → Z1f n E u v = some s → s ≤ m:=fun v => by
  obtain ⟨m,_,i,l⟩:=Z88 (l:=0 :: (List.range (n + 1)).filterMap fun u => Z1f n E u v) (by simp);refine ⟨m, ?_,l 0 Ya,fun u s hu e => l s (Yb _ (List.mem_filterMap.mpr ⟨u,List.mem_range.mpr hu,e⟩))⟩;rcases Yc.mp i with e | i
  · exact .inl e
  · obtain ⟨u,hu,e⟩:=List.mem_filterMap.mp i;exact .inr ⟨u,m,List.mem_range.mp hu,e,rfl⟩
 have hc:=Classical.axiomOfChoice hs;obtain ⟨σ,hσ⟩:=hc;refine ⟨fun v => σ v - σ n,by show σ n - σ n = 0;omega,fun t mt => ?_⟩;obtain ⟨ta,tb⟩:=o t mt;have key : σ t.a + t.g ≤ σ t.b:=by
  obtain ⟨h1,_,_⟩:=hσ t.a;obtain ⟨_,_,h6⟩:=hσ t.b;have ed:=Z2t mt;rcases h1 with e | ⟨u,s,hu,e,q⟩
  · obtain ⟨z,ez,lz⟩:=Z3z o k ta tb ed;have:=h6 _ _ ta ez;omega
  · obtain ⟨z,ez,lz⟩:=Z3z o k hu tb (Z3t (Z6r n E u t.a s e) ed);have:=h6 _ _ hu ez;omega
 show σ t.a - σ n + t.g ≤ σ t.b - σ n;omega
theorem Zav {n : Nat} {E : List Gp} (o : ∀ t ∈ E,t.a < n + 1 ∧ t.b < n + 1) (k : okS n E = true) {i j : Nat} (hi : i < n + 1) (hj : j < n + 1) (g : Int) : (∀ τ : Nat → Int,τ n = 0 → (∀ t ∈ E,τ t.a + t.g ≤ τ t.b) → τ i + g ≤ τ j) ↔ shL (Z1f n E i j) g = true:=by
 constructor
 · intro h;cases c : shL (Z1f n E i j) g with
   | true => rfl
   | false =>
    have o' : ∀ t ∈ ((⟨j,i,1 - g⟩ : Gp) :: E),t.a < n + 1 ∧ t.b < n + 1:=fun t m => by
     rcases Yc.mp m with rfl | m
     · exact ⟨hj,hi⟩
     · exact o t m
    have k':=(Zfz o o' hi hj (v:=1 - g) (fun t => by rw [Yc];exact or_comm)).mpr ⟨k,fun z e => by
     rw [e] at c;have : ¬ g ≤ z:=of_decide_eq_false c;omega⟩
    obtain ⟨τ,z,p⟩:=ZbR o' k';have a:=h τ z fun t m => p t (Yb _ m);have b:=p _ Ya;have b : τ j + (1 - g) ≤ τ i:=b;omega
 · intro h τ _ p;cases e : Z1f n E i j with
   | none => rw [e] at h;cases h
   | some s =>
    rw [e] at h;have l : g ≤ s:=Yq h;have:=Zfh p (Z6r n E i j s e);omega
theorem Zaw {a c : Option Int} (h : ∀ g,shL a g = true ↔ shL c g = true) : a = c:=by
 cases a with
 | none =>
  cases c with
  | none => rfl
  | some y => exact absurd ((h y).mpr (Yp (Int.le_refl y))) Bool.false_ne_true
 | some x =>
  cases c with
  | none => exact absurd ((h x).mp (Yp (Int.le_refl x))) Bool.false_ne_true
  | some y =>
   have h1 : x ≤ y:=Yq ((h x).mp (Yp (Int.le_refl x)));have h2 : y ≤ x:=Yq ((h y).mpr (Yp (Int.le_refl y)));rw [show x = y by omega]
theorem Zhn {o : Option Int} {x y : Int} (h : shL o x = true) (l : y ≤ x) : shL o y = true:=by
 cases o with
 | none => cases h
 | some z =>
  have h : x ≤ z:=Yq h;exact Yp (by omega)
theorem neg_neg (o : Option Int) : negE (negE o) = o:=by
 cases o with
 | none => rfl
 | some x => show some (- -x) = _;rw [Int.neg_neg]
theorem ZfA (o : Option Int) (g : Int) : shH o (-g) = shL (negE o) g:=by
 cases o with
 | none => rfl
 | some x =>
  show decide (x ≤ -g) = decide (g ≤ -x);exact decide_eq_decide.mpr ⟨fun h => by omega,fun h => by omega⟩
end Kf
namespace Kn
open PySem PySem.Spec PyProof.Rows L2 Dl Lb Kf
theorem rgN {n : Nat} (hn : n ≤ 20) : Z3G [.int ((n : Nat) + 1)] = some ((List.range (n + 1)).map iD):=Z2D (n + 1) (by omega)
theorem sums_l2 {n m a : Nat} (hn : n ≤ 20) (hm : m < n + 1) (ha : a < n + 1) {s1 s5 : Option Ent} {h : Ts} {E : Nv} (s : S2 n s1 s5 m a h E) : ∃ E',Z1I E = .nx E' ∧ S2 n s1 s5 m a (l3S (n + 1) m a h) E':=by
 obtain ⟨E',e,s'⟩:=Z2W (S:=S2 n s1 s5 m a) (q:=fun h b => rlS m a b h) (asg:=Jd 4) (body:=Z1H) (l:=List.range (n + 1)) (fun x hx t E r => by
  obtain ⟨s4,rfl⟩:=r;refine ⟨_,_,rfl,Zal ha (List.mem_range.mp hx) hm t _ _ _,_,rfl⟩) s
 refine ⟨E', ?_,s'⟩;obtain ⟨s4,rfl⟩:=s;have r:=rgN hn;unfold Z1I SE at *
 push_cast [r]
 exact e
theorem sums_l3 {n m : Nat} (hn : n ≤ 20) (hm : m < n + 1) {s1 s5 : Option Ent} {h : Ts} {E : Nv} (s : S3 n s1 s5 m h E) : ∃ E',Z1J E = .nx E' ∧ S3 n s1 s5 m (l2S (n + 1) m h) E':=by
 obtain ⟨E',e,s'⟩:=Z2W (S:=S3 n s1 s5 m) (q:=fun h a => l3S (n + 1) m a h) (asg:=Jd 3) (body:=Z3a) (l:=List.range (n + 1)) (fun x hx t E r => by
  obtain ⟨s3,s4,rfl⟩:=r;obtain ⟨E2,e2,s4',rfl⟩:=sums_l2 (s1:=s1) (s5:=s5) (h:=t) (E:=SE (~~~(.int (n : Nat))) s1 (n + 1) t (~~~(.int (x : Nat))) s4 s5 (~~~(.int (m : Nat)))) hn hm (List.mem_range.mp hx) ⟨s4,rfl⟩;exact ⟨_,_,rfl,e2,_,_,rfl⟩) s
 refine ⟨E', ?_,s'⟩;obtain ⟨s3,s4,rfl⟩:=s;have r:=rgN hn;unfold Z1J SE at *
 push_cast [r]
 exact e
theorem sums_l4 {n : Nat} (hn : n ≤ 20) {s1 : Option Ent} {h : Ts} {E : Nv} (s : S0 n s1 h E) : ∃ E',Z1K E = .nx E' ∧ S0 n s1 (l1S (n + 1) h) E':=by
 obtain ⟨E',e,s'⟩:=Z2W (S:=S0 n s1) (q:=fun h m => l2S (n + 1) m h) (asg:=Jd 6) (body:=Z3b) (l:=List.range (n + 1)) (fun x hx t E r => by
  obtain ⟨s3,s4,s5,s6,rfl⟩:=r;obtain ⟨E2,e2,s3',s4',rfl⟩:=sums_l3 (s1:=s1) (s5:=s5) (h:=t) (E:=SE (~~~(.int (n : Nat))) s1 (n + 1) t s3 s4 s5 (~~~(.int (x : Nat)))) hn (List.mem_range.mp hx) ⟨s3,s4,rfl⟩;exact ⟨_,_,rfl,e2,_,_,_,_,rfl⟩) s
 refine ⟨E', ?_,s'⟩;obtain ⟨s3,s4,s5,s6,rfl⟩:=s;have r:=rgN hn;unfold Z1K SE at *
 push_cast [r]
 exact e
theorem sums_c0 {n : Nat} (hn : n ≤ 20) (s1 : Option Ent) : Z1E [~~~(.int (n : Nat)),s1,none,none,none,none,none] = .ok (.l (.l .sh),.lst (tSm (n + 1) fun _ _ => none)) [~~~(.int (n : Nat)),s1,none,none,none,none,none]:=by
 have sz : 2000 ≤ sizeLine:=by decide
 have r:=rgN hn;have rp:=Z80 (n + 1) .non;rw [List.replicate_succ] at rp;unfold Z1E;refine (Z3y (l:=List.range (n + 1)) (emb:=iD) (g:=fun _ => .lst (rwD (n + 1) fun _ => enS none)) (EA:=[~~~(.int (n : Nat)),s1,none,none,none,none,none]) (E1:=fun x => [~~~(.int (n : Nat)),s1,none,~~~(iD x),none,none,none]) (by (push_cast [r]) <;> (try rfl)) rfl (fun x m => ⟨rfl, ?_,rfl⟩) (by rw [Ys];omega)).trans ?_
 · have i : Dl.inR 4611686018427387903 ((n : Int) + 1) = true:=Z1S.mpr (by omega);have t : ((n : Int) + 1).toNat = n + 1:=by omega
   have z : [D.non].length * (n + 1) ≤ sizeLine:=by show 1 * (n + 1) ≤ _;omega
   unfold mulO
   push_cast [i,t,true_and]
   rw [Yj (by omega),rp];rfl
 · rfl
theorem sums_l0 {n : Nat} (hn : n ≤ 20) {s1 : Option Ent} {E : Nv} (s : S0 n s1 (fun _ _ => none) E) : ∃ E',Z1G E = .nx E' ∧ S0 n s1 inS E':=by
 obtain ⟨E',e,s3,s4,s5,s6,rfl⟩:=Z2W (S:=S0 n s1) (q:=fun h a => upT h a a (some 0)) (asg:=Jd 3) (body:=Z1F) (l:=List.range (n + 1)) (fun x hx t E r => by
  obtain ⟨s3,s4,s5,s6,rfl⟩:=r;refine ⟨SE (~~~(.int (n : Nat))) s1 (n + 1) t (~~~(.int (x : Nat))) s4 s5 s6,SE (~~~(.int (n : Nat))) s1 (n + 1) (upT t x x (some 0)) (~~~(.int (x : Nat))) s4 s5 s6,rfl, ?_,_,_,_,_,rfl⟩;unfold Z1F SE;rw [← ZfV];exact (Z4y (i:=2) (fi:=rd 3) (fj:=rd 3) (y:=.int 0) (E1:=[~~~(.int (n : Nat)),s1,some (.l (.l .sh),.lst (tSm (n + 1) t)),~~~(.int (x : Nat)),s4,s5,s6]) (E2:=[~~~(.int (n : Nat)),s1,none,~~~(.int (x : Nat)),s4,s5,s6]) (E3:=[~~~(.int (n : Nat)),s1,none,~~~(.int (x : Nat)),s4,s5,s6]) (List.mem_range.mp hx) (List.mem_range.mp hx) rfl rfl rfl rfl).trans rfl) s
 have fo : ∀ (N : Nat) (a b : Nat),a < N → (List.range N).foldl (fun h a => upT h a a (some (0 : Int))) (fun _ _ => none) a b = inS a b:=by
  intro N
  induction N with
  | zero => intro a b h;omega
  | succ N ih =>
   intro a b ha;rw [List.range_succ,List.foldl_append,List.foldl_cons,List.foldl_nil];by_cases c : a = N
   · subst c;by_cases d : b = a
     · subst d;rw [Z1e];exact (Yj rfl).symm
     · rw [Z3c (fun z => d z.2)];have none_ : ∀ (M : Nat) (u v : Nat),M ≤ u → (List.range M).foldl (fun h a => upT h a a (some (0 : Int))) (fun _ _ => none) u v = none:=by
        intro M
        induction M with
        | zero => intro u v _;rfl
        | succ M ih2 =>
         intro u v hu;rw [List.range_succ,List.foldl_append,List.foldl_cons,List.foldl_nil,Z3c (by omega)];exact ih2 u v (by omega)
       rw [none_ a a b (Nat.le_refl _)];exact (Yk (fun z => d z.symm)).symm
   · rw [Z3c (fun z => c z.1)];exact ih a b (by omega)
 refine ⟨_, ?_,s3,s4,s5,s6,rfl⟩;obtain ⟨t3,t4,t5,t6,rfl⟩:=s;have r:=rgN hn;have cg : tSm (n + 1) ((List.range (n + 1)).foldl (fun h a => upT h a a (some 0)) (fun _ _ => none)) = tSm (n + 1) inS:=Z6p fun a b ha _ => fo (n + 1) a b ha;unfold SE at e;rw [cg] at e;unfold Z1G SE at *
 push_cast [r]
 exact e
theorem sums_ev {n : Nat} (hn : n ≤ 20) {g : List Gp} (o : ∀ t ∈ g,t.a < n + 1 ∧ t.b < n + 1) : ∃ O,Z18 [(.sh,.int (n : Nat)),(.sh,.lst (g.map Gp.d))] = .ok (.sh,Kf.sumD n (Z1f n g)) O:=by
 have c0:=sums_c0 hn (~~~(.lst (g.map Gp.d)));obtain ⟨E1,e1,k1⟩:=sums_l0 hn (s1 := ~~~(.lst (g.map Gp.d))) (E:=[~~~(.int (n : Nat)),~~~(.lst (g.map Gp.d)),some (.l (.l .sh),.lst (tSm (n + 1) fun _ _ => none)),none,none,none,none]) ⟨none,none,none,none,rfl⟩;obtain ⟨E2,e2,k2⟩:=Zan o k1;obtain ⟨E3,e3,s3,s4,s5,s6,rfl⟩:=sums_l4 hn k2;have r:=rgN hn;have l5:=Z81 (Zao n g) (s0 := ~~~(.int (n : Nat))) (s1 := ~~~(.lst (g.map Gp.d))) (s4:=s4) (s5:=s5) (s6:=s6) (l:=List.range (n + 1)) (s3:=s3) (fun u m => List.mem_range.mp m);have d4 : l1S (n + 1) (egsS g inS) = Z1f n g:=rfl;unfold SE at e3;rw [d4] at e3;unfold Kf.sumD;by_cases c : (List.range (n + 1)).any (posS (Z1f n g)) = true
 · rw [Yj c];obtain ⟨E',q⟩:=l5.1 c;refine ⟨E', ?_⟩;unfold Z18;rw [Z28];unfold Z1L
   (push_cast [c0,e1,e2,e3,Z1r,Z2C,r,q]) <;> (try rfl)
 · rw [Yk c];obtain ⟨s3',q⟩:=l5.2 (by simpa using c);refine ⟨[~~~(.int (n : Nat)),~~~(.lst (g.map Gp.d)),~~~(.lst (tSm (n + 1) (Z1f n g))),s3',s4,s5,s6], ?_⟩;unfold Z18;rw [Z28];unfold Z1L
   (push_cast [c0,e1,e2,e3,Z1r,Z2C,r,q]) <;> (try rfl)
abbrev I3:=Nat × Bool × Int
def LoG (bw : Nat → Nat → Option Int) (F C : List I3) (g : Int) : Prop:=∃ p ∈ F,∃ q ∈ C,∃ w,bw p.1 q.1 = some w ∧ p.2.1 = true ∧ q.2.1 = false ∧ g ≤ -(q.2.2 - p.2.2 - w)
def HiG (bw : Nat → Nat → Option Int) (F C : List I3) (g : Int) : Prop:=∃ p ∈ F,∃ q ∈ C,∃ w,bw p.1 q.1 = some w ∧ p.2.1 = false ∧ q.2.1 = true ∧ q.2.2 - p.2.2 - w ≤ g
def BadG (bw : Nat → Nat → Option Int) (F C : List I3) : Prop:=∃ p ∈ F,∃ q ∈ C,∃ w,bw p.1 q.1 = some w ∧ p.2.1 = q.2.1 ∧ q.2.2 - p.2.2 - w < 0
def FeaG (bw : Nat → Nat → Option Int) (F C : List I3) (s : Int) : Prop:=¬ BadG bw F C ∧ ¬ LoG bw F C (s + 1) ∧ ¬ HiG bw F C (s - 1)
section
variable {bw : Nat → Nat → Option Int} {F C : List I3} {g h s : Int}
theorem LoG.dn (k : LoG bw F C g) (l : h ≤ g) : LoG bw F C h:=by
 obtain ⟨p,mp,q,mq,w,e,a,b,c⟩:=k;exact ⟨p,mp,q,mq,w,e,a,b,by omega⟩
theorem HiG.up (k : HiG bw F C g) (l : g ≤ h) : HiG bw F C h:=by
 obtain ⟨p,mp,q,mq,w,e,a,b,c⟩:=k;exact ⟨p,mp,q,mq,w,e,a,b,by omega⟩
theorem ZfB : (∀ g,¬ LoG bw F C g) ∨ ∃ m,LoG bw F C m ∧ ¬ LoG bw F C (m + 1):=by
 let L:=F.flatMap fun p => C.filterMap fun q => if p.2.1 = true ∧ q.2.1 = false then (bw p.1 q.1).map fun w => -(q.2.2 - p.2.2 - w) else none
 have mem : ∀ v,v ∈ L ↔ ∃ p ∈ F,∃ q ∈ C,∃ w,bw p.1 q.1 = some w ∧ p.2.1 = true ∧ q.2.1 = false ∧ v = -(q.2.2 - p.2.2 - w):=fun v => by
  rw [List.mem_flatMap];constructor
  · rintro ⟨p,mp,m⟩
    obtain ⟨q,mq,e⟩:=List.mem_filterMap.mp m
    split at e
    · rename_i c;cases k : bw p.1 q.1 with
      | none => rw [k] at e;cases e
      | some w =>
       rw [k] at e;cases e;exact ⟨p,mp,q,mq,w,k,c.1,c.2,rfl⟩
    · cases e
  · rintro ⟨p,mp,q,mq,w,e,a,b,rfl⟩
    exact ⟨p,mp,List.mem_filterMap.mpr ⟨q,mq,by rw [Yj ⟨a,b⟩,e];rfl⟩⟩
 by_cases c : L = []
 · refine .inl fun g ⟨p,mp,q,mq,w,e,a,b,_⟩ => ?_;have : -(q.2.2 - p.2.2 - w) ∈ L:=(mem _).mpr ⟨p,mp,q,mq,w,e,a,b,rfl⟩;rw [c] at this;cases this
 · obtain ⟨m,_,i,l⟩:=Z88 c;obtain ⟨p,mp,q,mq,w,e,a,b,rfl⟩:=(mem _).mp i;refine .inr ⟨_,⟨p,mp,q,mq,w,e,a,b,Int.le_refl _⟩,fun ⟨p',mp',q',mq',w',e',a',b',c'⟩ => ?_⟩;have:=l _ ((mem _).mpr ⟨p',mp',q',mq',w',e',a',b',rfl⟩);omega
def fl3 (p : I3) : I3:=(p.1,!p.2.1,p.2.2)
theorem Zho : HiG bw F C g ↔ LoG bw (F.map fl3) (C.map fl3) (-g):=by
 constructor
 · rintro ⟨p,mp,q,mq,w,e,a,b,c⟩
   exact ⟨fl3 p,List.mem_map_of_mem mp,fl3 q,List.mem_map_of_mem mq,w,e,by show (!p.2.1) = true;rw [a];rfl,by show (!q.2.1) = false;rw [b];rfl,by show -g ≤ -(q.2.2 - p.2.2 - w);omega⟩
 · rintro ⟨p',mp,q',mq,w,e,a,b,c⟩
   obtain ⟨p,np,rfl⟩:=Ye.mp mp;obtain ⟨q,nq,rfl⟩:=Ye.mp mq;have c : -g ≤ -(q.2.2 - p.2.2 - w):=c;exact ⟨p,np,q,nq,w,e,by have a : (!p.2.1) = true:=a;simpa using a,by have b : (!q.2.1) = false:=b;simpa using b,by omega⟩
theorem Zhp : (∀ g,¬ HiG bw F C g) ∨ ∃ m,HiG bw F C m ∧ ¬ HiG bw F C (m - 1):=by
 rcases ZfB (bw:=bw) (F:=F.map fl3) (C:=C.map fl3) with k | ⟨m,k1,k2⟩
 · exact .inl fun g h => k _ (Zho.mp h)
 · exact .inr ⟨-m,Zho.mpr (by rw [Int.neg_neg];exact k1),fun h => k2 (by have:=Zho.mp h;rw [show -(-m - 1) = m + 1 by omega] at this;exact this)⟩
theorem ZbS : (∃ s,FeaG bw F C s) ↔ ¬ BadG bw F C ∧ ¬ ∃ g,LoG bw F C (g + 1) ∧ HiG bw F C g:=by
 constructor
 · rintro ⟨s,nb,nl,nh⟩
   refine ⟨nb,fun ⟨g,l,h⟩ => ?_⟩;by_cases c : s ≤ g
   · exact nl (l.dn (by omega))
   · exact nh (h.up (by omega))
 · rintro ⟨nb,nx⟩
   rcases ZfB (bw:=bw) (F:=F) (C:=C) with k | ⟨m,k1,k2⟩
   · rcases Zhp (bw:=bw) (F:=F) (C:=C) with j | ⟨m,j1,j2⟩
     · exact ⟨0,nb,k _,j _⟩
     · exact ⟨m,nb,k _,j2⟩
   · exact ⟨m,nb,k2,fun h => nx ⟨m - 1,by rw [show m - 1 + 1 = m by omega];exact k1,h⟩⟩
theorem Zhq (s0 : Int) (f0 : FeaG bw F C s0) : (∀ s,FeaG bw F C s → g ≤ s) ↔ LoG bw F C g:=by
 obtain ⟨nb,nl,nh⟩:=f0;constructor
 · intro k;refine Classical.byContradiction fun c => ?_;by_cases l : s0 ≤ g - 1
   · have:=k s0 ⟨nb,nl,nh⟩;omega
   · have:=k (g - 1) ⟨nb,by rw [show g - 1 + 1 = g by omega];exact c,fun h => nh (h.up (by omega))⟩;omega
 · intro k s ⟨_,l,_⟩;refine Classical.byContradiction fun c => ?_;exact l (k.dn (by omega))
theorem Zhr (s0 : Int) (f0 : FeaG bw F C s0) : (∀ s,FeaG bw F C s → s ≤ g) ↔ HiG bw F C g:=by
 obtain ⟨nb,nl,nh⟩:=f0;constructor
 · intro k;refine Classical.byContradiction fun c => ?_;by_cases l : g + 1 ≤ s0
   · have:=k s0 ⟨nb,nl,nh⟩;omega
   · have:=k (g + 1) ⟨nb,fun h => nl (h.dn (by omega)),by rw [show g + 1 - 1 = g by omega];exact c⟩;omega
 · intro k s ⟨_,_,h⟩;refine Classical.byContradiction fun c => ?_;exact h (k.up (by omega))
end
def shI (s : Int) (p : I3) : Nat × Int:=(p.1,if p.2.1 = true then p.2.2 - s else p.2.2)
theorem Zax {bw : Nat → Nat → Option Int} {F C : List I3} {s : Int} : Due bw (F.map (shI s)) (C.map (shI s)) ↔ ¬ FeaG bw F C s:=by
 constructor
 · rintro ⟨p',mp,q',mq,w,e,lt⟩ ⟨nb,nl,nh⟩
   obtain ⟨p,np,rfl⟩:=Ye.mp mp;obtain ⟨q,nq,rfl⟩:=Ye.mp mq;have lt : (if q.2.1 = true then q.2.2 - s else q.2.2) < (if p.2.1 = true then p.2.2 - s else p.2.2) + w:=lt;cases a : p.2.1 with
   | true =>
    cases b : q.2.1 with
    | true =>
     rw [a,b,Yj rfl,Yj rfl] at lt;exact nb ⟨p,np,q,nq,w,e,by rw [a,b],by omega⟩
    | false =>
     rw [a,b,Yj rfl,Yk Bool.false_ne_true] at lt;exact nl ⟨p,np,q,nq,w,e,a,b,by omega⟩
   | false =>
    cases b : q.2.1 with
    | true =>
     rw [a,b,Yj rfl,Yk Bool.false_ne_true] at lt;exact nh ⟨p,np,q,nq,w,e,a,b,by omega⟩
    | false =>
     rw [a,b,Yk Bool.false_ne_true,Yk Bool.false_ne_true] at lt;exact nb ⟨p,np,q,nq,w,e,by rw [a,b],by omega⟩
 · intro k;have key : ∀ p ∈ F,∀ q ∈ C,∀ w,bw p.1 q.1 = some w → (shI s q).2 < (shI s p).2 + w → Due bw (F.map (shI s)) (C.map (shI s)):=fun p mp q mq w e lt => ⟨_,List.mem_map_of_mem mp,_,List.mem_map_of_mem mq,w,e,lt⟩;refine Classical.byContradiction fun nd => k ⟨fun ⟨p,mp,q,mq,w,e,a,c⟩ => nd (key p mp q mq w e ?_),fun ⟨p,mp,q,mq,w,e,a,b,c⟩ => nd (key p mp q mq w e ?_),fun ⟨p,mp,q,mq,w,e,a,b,c⟩ => nd (key p mp q mq w e ?_)⟩
   · unfold shI;simp only [a]
     split <;> omega
   · unfold shI;simp only [a,b,if_true,Bool.false_eq_true,if_false];omega
   · unfold shI;simp only [a,b,if_true,Bool.false_eq_true,if_false];omega
def zn (n : Nat) (m : Bool) : Nat:=if m = true then n + 1 else n
structure E2s (n : Nat) (gap : List Gp) (F C : List I3) (E : List Gp) : Prop where
 o : ∀ t ∈ gap,t.a < n ∧ t.b < n
 fo : ∀ p ∈ F,p.1 < n
 co : ∀ p ∈ C,p.1 < n
 m : ∀ t,t ∈ E ↔ t ∈ gap ∨ (∃ p ∈ F,t = ⟨zn n p.2.1,p.1,p.2.2⟩) ∨ (∃ p ∈ C,t = ⟨p.1,zn n p.2.1,0 - p.2.2⟩)
section
variable {n : Nat} {gap E : List Gp} {F C : List I3} {bw : Nat → Nat → Option Int}
theorem Zii (n : Nat) (m : Bool) : zn n m < n + 1 + 1:=by unfold zn;split <;> omega
theorem E2s.ends (S : E2s n gap F C E) : ∀ t ∈ E,t.a < n + 1 + 1 ∧ t.b < n + 1 + 1:=fun t m0 => by
 rcases (S.m t).mp m0 with m | ⟨p,m,rfl⟩ | ⟨p,m,rfl⟩
 · have:=S.o t m;omega
 · have:=S.fo p m;exact ⟨Zii n _,by show p.1 < _;omega⟩
 · have:=S.co p m;exact ⟨by show p.1 < _;omega,Zii n _⟩
def eS (n : Nat) (gap : List Gp) (F C : List I3) (s : Int) : List Gp:=gap ++ (F.map (shI s)).map (fun p => ⟨n,p.1,p.2⟩) ++ (C.map (shI s)).map fun p => ⟨p.1,n,0 - p.2⟩
theorem Zjb (S : E2s n gap F C E) (s : Int) : Es n gap (F.map (shI s)) (C.map (shI s)) (eS n gap F C s):=by
 refine ⟨S.o,fun p m0 => ?_,fun p m0 => ?_,fun t => ?_⟩
 · obtain ⟨q,m,rfl⟩:=Ye.mp m0;exact S.fo q m
 · obtain ⟨q,m,rfl⟩:=Ye.mp m0;exact S.co q m
 · unfold eS;rw [Yd,Yd,Ye (l:=F.map (shI s)),Ye (l:=C.map (shI s)),or_assoc];constructor
   · rintro (m | ⟨p,m,rfl⟩ | ⟨p,m,rfl⟩)
     · exact .inl m
     · exact .inr (.inl ⟨p,m,rfl⟩)
     · exact .inr (.inr ⟨p,m,rfl⟩)
   · rintro (m | ⟨p,m,rfl⟩ | ⟨p,m,rfl⟩)
     · exact .inl m
     · exact .inr (.inl ⟨p,m,rfl⟩)
     · exact .inr (.inr ⟨p,m,rfl⟩)
theorem Z4A (W : Ws n gap bw) (np : Np gap) (S : E2s n gap F C E) (s : Int) : (∃ τ : Nat → Int,τ (n + 1) = 0 ∧ τ n = s ∧ ∀ t ∈ E,τ t.a + t.g ≤ τ t.b) ↔ FeaG bw F C s:=by
 have Ss:=Zjb S s;have fe : Np (eS n gap F C s) ↔ FeaG bw F C s:=by
  constructor
  · intro k;exact Classical.byContradiction fun c => (Zj6 W Ss k).2 (Zax.mpr c)
  · intro k;exact Zj5 W Ss np fun d => Zax.mp d k
 rw [← fe];constructor
 · rintro ⟨τ,z1,z2,k⟩
   refine ZbJ (τ:=fun v => τ v - s) fun t m0 => ?_;rcases (Ss.m t).mp m0 with m | ⟨p',m1,rfl⟩ | ⟨p',m1,rfl⟩
   · have:=k t ((S.m t).mpr (.inl m));show τ t.a - s + t.g ≤ τ t.b - s;omega
   · obtain ⟨p,m,rfl⟩:=Ye.mp m1;have:=k _ ((S.m _).mpr (.inr (.inl ⟨p,m,rfl⟩)));have : τ (zn n p.2.1) + p.2.2 ≤ τ p.1:=this;show τ n - s + (if p.2.1 = true then p.2.2 - s else p.2.2) ≤ τ p.1 - s;cases a : p.2.1 with
     | true =>
      rw [a] at this;have : τ (n + 1) + p.2.2 ≤ τ p.1:=this;rw [Yj rfl];omega
     | false =>
      rw [a] at this;have : τ n + p.2.2 ≤ τ p.1:=this;rw [Yk Bool.false_ne_true];omega
   · obtain ⟨p,m,rfl⟩:=Ye.mp m1;have:=k _ ((S.m _).mpr (.inr (.inr ⟨p,m,rfl⟩)));have : τ p.1 + (0 - p.2.2) ≤ τ (zn n p.2.1):=this;show τ p.1 - s + (0 - (if p.2.1 = true then p.2.2 - s else p.2.2)) ≤ τ n - s;cases a : p.2.1 with
     | true =>
      rw [a] at this;have : τ p.1 + (0 - p.2.2) ≤ τ (n + 1):=this;rw [Yj rfl];omega
     | false =>
      rw [a] at this;have : τ p.1 + (0 - p.2.2) ≤ τ n:=this;rw [Yk Bool.false_ne_true];omega
 · intro k;obtain ⟨σ,z,k⟩:=ZbR (es_o Ss) ((Z47 (es_o Ss)).mpr k);have lt : ∀ v,v < n → (if v = n + 1 then (0 : Int) else σ v + s) = σ v + s:=fun v h => Yk (by omega);have zz : (if n = n + 1 then (0 : Int) else σ n + s) = s:=by rw [Yk (by omega),z];omega
   refine ⟨fun v => if v = n + 1 then 0 else σ v + s,Yj rfl,zz,fun t m0 => ?_⟩;show (if t.a = n + 1 then (0 : Int) else σ t.a + s) + t.g ≤ (if t.b = n + 1 then (0 : Int) else σ t.b + s);rcases (S.m t).mp m0 with m | ⟨p,m,rfl⟩ | ⟨p,m,rfl⟩
   · have o:=S.o t m;rw [lt _ o.1,lt _ o.2];have:=k t ((Ss.m t).mpr (.inl m));omega
   · have o:=S.fo p m;have:=k _ ((Ss.m _).mpr (.inr (.inl ⟨_,List.mem_map_of_mem m,rfl⟩)));have this : σ n + (if p.2.1 = true then p.2.2 - s else p.2.2) ≤ σ p.1:=this;show (if zn n p.2.1 = n + 1 then (0 : Int) else σ (zn n p.2.1) + s) + p.2.2 ≤ (if p.1 = n + 1 then (0 : Int) else σ p.1 + s);rw [lt _ o];cases a : p.2.1 with
     | true =>
      rw [a,Yj rfl] at this;rw [show zn n true = n + 1 from rfl,Yj rfl];omega
     | false =>
      rw [a,Yk Bool.false_ne_true] at this;rw [show zn n false = n from rfl,zz];omega
   · have o:=S.co p m;have:=k _ ((Ss.m _).mpr (.inr (.inr ⟨_,List.mem_map_of_mem m,rfl⟩)));have this : σ p.1 + (0 - (if p.2.1 = true then p.2.2 - s else p.2.2)) ≤ σ n:=this;show (if p.1 = n + 1 then (0 : Int) else σ p.1 + s) + (0 - p.2.2) ≤ (if zn n p.2.1 = n + 1 then (0 : Int) else σ (zn n p.2.1) + s);rw [lt _ o];cases a : p.2.1 with
     | true =>
      rw [a,Yj rfl] at this;rw [show zn n true = n + 1 from rfl,Yj rfl];omega
     | false =>
      rw [a,Yk Bool.false_ne_true] at this;rw [show zn n false = n from rfl,zz];omega
theorem ZbT (W : Ws n gap bw) (np : Np gap) (S : E2s n gap F C E) : okS (n + 1) E = true ↔ ¬ BadG bw F C ∧ ¬ ∃ g,LoG bw F C (g + 1) ∧ HiG bw F C g:=by
 rw [← ZbS];constructor
 · intro k;obtain ⟨τ,z,k⟩:=ZbR S.ends k;exact ⟨τ n,(Z4A W np S _).mp ⟨τ,z,rfl,k⟩⟩
 · rintro ⟨s,f⟩
   obtain ⟨τ,z,_,k⟩:=(Z4A W np S _).mpr f;exact (Z47 S.ends).mpr (ZbJ k)
theorem ZbU (W : Ws n gap bw) (np : Np gap) (S : E2s n gap F C E) (k : okS (n + 1) E = true) (g : Int) : shL (Z1f (n + 1) E (n + 1) n) g = true ↔ LoG bw F C g:=by
 obtain ⟨s0,f0⟩:=ZbS.mpr ((ZbT W np S).mp k);rw [← Zav S.ends k (by omega) (by omega) g,← Zhq s0 f0];constructor
 · intro h s f;obtain ⟨τ,z,e,k⟩:=(Z4A W np S _).mpr f;have:=h τ z k;omega
 · intro h τ z k;have:=h (τ n) ((Z4A W np S _).mp ⟨τ,z,rfl,k⟩);omega
theorem ZbV (W : Ws n gap bw) (np : Np gap) (S : E2s n gap F C E) (k : okS (n + 1) E = true) (g : Int) : shL (Z1f (n + 1) E n (n + 1)) g = true ↔ HiG bw F C (-g):=by
 obtain ⟨s0,f0⟩:=ZbS.mpr ((ZbT W np S).mp k);rw [← Zav S.ends k (by omega) (by omega) g,← Zhr s0 f0];constructor
 · intro h s f;obtain ⟨τ,z,e,k⟩:=(Z4A W np S _).mpr f;have:=h τ z k;omega
 · intro h τ z k;have:=h (τ n) ((Z4A W np S _).mp ⟨τ,z,rfl,k⟩);omega
theorem ZbW (S : E2s n gap F C E) (k : okS (n + 1) E = true) : Np gap:=fun a s w => (Z47 S.ends).mp k a s (Z87 (fun t m => (S.m t).mpr (.inl m)) w)
end
abbrev LH:=Option Int × Option Int
def stp (bw : Nat → Nat → Option Int) (p : I3) (x : LH) (q : I3) : Option LH:=match bw p.1 q.1 with
 | none => some x
 | some w => if p.2.1 = q.2.1 ∧ q.2.2 - p.2.2 - w < 0 then none else
  some (if p.2.1 = true ∧ q.2.1 = false ∧ shL x.1 (-(q.2.2 - p.2.2 - w)) = false then some (-(q.2.2 - p.2.2 - w)) else x.1,if q.2.1 = true ∧ p.2.1 = false ∧ shH x.2 (q.2.2 - p.2.2 - w) = false then some (q.2.2 - p.2.2 - w) else x.2)
def Z3B {α β : Type} (f : β → α → Option β) : List α → β → Option β
 | [],x => some x
 | a :: l,x => (f x a).bind (Z3B f l)
def stR (bw : Nat → Nat → Option Int) (F C : List I3) : Option LH:=(Z3B (fun x p => Z3B (stp bw p) C x) F (none,none)).bind fun x => match x with
 | (some l,some h) => if h < l then none else some x
 | x => some x
section
variable {bw : Nat → Nat → Option Int} {F C : List I3} {g : Int}
def lo1 (bw : Nat → Nat → Option Int) (p q : I3) (g : Int) : Prop:=∃ w,bw p.1 q.1 = some w ∧ p.2.1 = true ∧ q.2.1 = false ∧ g ≤ -(q.2.2 - p.2.2 - w)
def hi1 (bw : Nat → Nat → Option Int) (p q : I3) (g : Int) : Prop:=∃ w,bw p.1 q.1 = some w ∧ p.2.1 = false ∧ q.2.1 = true ∧ q.2.2 - p.2.2 - w ≤ g
def bad1 (bw : Nat → Nat → Option Int) (p q : I3) : Prop:=∃ w,bw p.1 q.1 = some w ∧ p.2.1 = q.2.1 ∧ q.2.2 - p.2.2 - w < 0
theorem Zhs {o : Option Int} {r g : Int} (h : shL o r = false) : shL (some r) g = true ↔ shL o g = true ∨ g ≤ r:=by
 cases o with
 | none => exact ⟨fun k => .inr (Yq k),fun k => by rcases k with k | k;cases k;exact Yp k⟩
 | some l =>
  have h : ¬ r ≤ l:=of_decide_eq_false h;constructor
  · intro k;exact .inr (Yq k)
  · rintro (k | k)
    · have k : g ≤ l:=Yq k;exact Yp (by omega)
    · exact Yp k
theorem Zht {o : Option Int} {r g : Int} (h : shH o r = false) : shH (some r) g = true ↔ shH o g = true ∨ r ≤ g:=by
 cases o with
 | none => exact ⟨fun k => .inr (Yq k),fun k => by rcases k with k | k;cases k;exact Yp k⟩
 | some l =>
  have h : ¬ l ≤ r:=of_decide_eq_false h;constructor
  · intro k;exact .inr (Yq k)
  · rintro (k | k)
    · have k : l ≤ g:=Yq k;exact Yp (by omega)
    · exact Yp k
theorem ZbX (p : I3) (x : LH) (q : I3) : (stp bw p x q = none ∧ bad1 bw p q) ∨ (¬ bad1 bw p q ∧ ∃ y,stp bw p x q = some y ∧ (∀ g,shL y.1 g = true ↔ shL x.1 g = true ∨ lo1 bw p q g) ∧ ∀ g,shH y.2 g = true ↔ shH x.2 g = true ∨ hi1 bw p q g):=by
 unfold stp;cases e : bw p.1 q.1 with
 | none =>
  refine .inr ⟨fun ⟨w,k,_⟩ => (by rw [e] at k;cases k),x,rfl,fun g => ⟨.inl,fun k => ?_⟩,fun g => ⟨.inl,fun k => ?_⟩⟩
  · rcases k with k | ⟨w,k,_⟩
    · exact k
    · rw [e] at k;cases k
  · rcases k with k | ⟨w,k,_⟩
    · exact k
    · rw [e] at k;cases k
 | some w =>
  simp only;by_cases c : p.2.1 = q.2.1 ∧ q.2.2 - p.2.2 - w < 0
  · rw [Yj c];exact .inl ⟨rfl,w,e,c⟩
  · rw [Yk c];refine .inr ⟨fun ⟨w',e',k⟩ => by rw [e] at e';cases e';exact c k,_,rfl,fun g => ?_,fun g => ?_⟩
    · show shL (if _ then _ else _) g = true ↔ _;by_cases d : p.2.1 = true ∧ q.2.1 = false ∧ shL x.1 (-(q.2.2 - p.2.2 - w)) = false
      · rw [Yj d,Zhs d.2.2];refine or_congr_right ⟨fun k => ⟨w,e,d.1,d.2.1,k⟩,fun ⟨w',e',_,_,k⟩ => ?_⟩;rw [e] at e';cases e';exact k
      · rw [Yk d];refine ⟨.inl,fun k => ?_⟩;rcases k with k | ⟨w',e',a,b,k⟩
        · exact k
        · rw [e] at e';cases e';cases f : shL x.1 (-(q.2.2 - p.2.2 - w)) with
          | false => exact absurd ⟨a,b,f⟩ d
          | true => exact Zhn f k
    · show shH (if _ then _ else _) g = true ↔ _;by_cases d : q.2.1 = true ∧ p.2.1 = false ∧ shH x.2 (q.2.2 - p.2.2 - w) = false
      · rw [Yj d,Zht d.2.2];refine or_congr_right ⟨fun k => ⟨w,e,d.2.1,d.1,k⟩,fun ⟨w',e',_,_,k⟩ => ?_⟩;rw [e] at e';cases e';exact k
      · rw [Yk d];refine ⟨.inl,fun k => ?_⟩;rcases k with k | ⟨w',e',a,b,k⟩
        · exact k
        · rw [e] at e';cases e';cases f : shH x.2 (q.2.2 - p.2.2 - w) with
          | false => exact absurd ⟨b,a,f⟩ d
          | true =>
           cases hx : x.2 with
           | none => rw [hx] at f;cases f
           | some l =>
            rw [hx] at f;have f : l ≤ q.2.2 - p.2.2 - w:=Yq f;exact Yp (by omega)
theorem Z8d (p : I3) : ∀ (C : List I3) (x : LH),(Z3B (stp bw p) C x = none ∧ ∃ q ∈ C,bad1 bw p q) ∨ ((∀ q ∈ C,¬ bad1 bw p q) ∧ ∃ y,Z3B (stp bw p) C x = some y ∧ (∀ g,shL y.1 g = true ↔ shL x.1 g = true ∨ ∃ q ∈ C,lo1 bw p q g) ∧ ∀ g,shH y.2 g = true ↔ shH x.2 g = true ∨ ∃ q ∈ C,hi1 bw p q g)
 | [],x => .inr ⟨fun q m => (by cases m),x,rfl,fun g => ⟨.inl,fun k => k.elim id fun ⟨q,m,_⟩ => by cases m⟩,fun g => ⟨.inl,fun k => k.elim id fun ⟨q,m,_⟩ => by cases m⟩⟩
 | q :: C,x => by
  unfold Z3B;rcases ZbX (bw:=bw) p x q with ⟨e,b⟩ | ⟨nb,y,e,l,h⟩
  · rw [e];exact .inl ⟨rfl,q,Ya,b⟩
  · rw [e];show (Z3B (stp bw p) C y = none ∧ _) ∨ _;rcases Z8d p C y with ⟨e2,q2,m2,b2⟩ | ⟨nb2,y2,e2,l2,h2⟩
    · exact .inl ⟨e2,q2,Yb _ m2,b2⟩
    · refine .inr ⟨fun q' m => ?_,y2,e2,fun g => ?_,fun g => ?_⟩
      · rcases Yc.mp m with rfl | m
        · exact nb
        · exact nb2 q' m
      · rw [l2,l,or_assoc];refine or_congr_right ⟨fun k => ?_,fun ⟨q',m,k⟩ => ?_⟩
        · rcases k with k | ⟨q',m,k⟩
          · exact ⟨q,Ya,k⟩
          · exact ⟨q',Yb _ m,k⟩
        · rcases Yc.mp m with rfl | m
          · exact .inl k
          · exact .inr ⟨q',m,k⟩
      · rw [h2,h,or_assoc];refine or_congr_right ⟨fun k => ?_,fun ⟨q',m,k⟩ => ?_⟩
        · rcases k with k | ⟨q',m,k⟩
          · exact ⟨q,Ya,k⟩
          · exact ⟨q',Yb _ m,k⟩
        · rcases Yc.mp m with rfl | m
          · exact .inl k
          · exact .inr ⟨q',m,k⟩
theorem Z8e (C : List I3) : ∀ (F : List I3) (x : LH),(Z3B (fun x p => Z3B (stp bw p) C x) F x = none ∧ BadG bw F C) ∨ (¬ BadG bw F C ∧ ∃ y,Z3B (fun x p => Z3B (stp bw p) C x) F x = some y ∧ (∀ g,shL y.1 g = true ↔ shL x.1 g = true ∨ LoG bw F C g) ∧ ∀ g,shH y.2 g = true ↔ shH x.2 g = true ∨ HiG bw F C g)
 | [],x => .inr ⟨fun ⟨p,m,_⟩ => (by cases m),x,rfl,fun g => ⟨.inl,fun k => k.elim id fun ⟨q,m,_⟩ => by cases m⟩,fun g => ⟨.inl,fun k => k.elim id fun ⟨q,m,_⟩ => by cases m⟩⟩
 | p :: F,x => by
  unfold Z3B;rcases Z8d (bw:=bw) p C x with ⟨e,q,m,b⟩ | ⟨nb,y,e,l,h⟩
  · rw [e];exact .inl ⟨rfl,p,Ya,q,m,b⟩
  · rw [e];show (Z3B _ F y = none ∧ _) ∨ _;rcases Z8e C F y with ⟨e2,p2,m2,b2⟩ | ⟨nb2,y2,e2,l2,h2⟩
    · exact .inl ⟨e2,p2,Yb _ m2,b2⟩
    · refine .inr ⟨fun ⟨p',m,q',mq,k⟩ => ?_,y2,e2,fun g => ?_,fun g => ?_⟩
      · rcases Yc.mp m with rfl | m
        · exact nb q' mq k
        · exact nb2 ⟨p',m,q',mq,k⟩
      · rw [l2,l,or_assoc];refine or_congr_right ⟨fun k => ?_,fun ⟨p',m,k⟩ => ?_⟩
        · rcases k with ⟨q',m,k⟩ | ⟨p',m,k⟩
          · exact ⟨p,Ya,q',m,k⟩
          · exact ⟨p',Yb _ m,k⟩
        · rcases Yc.mp m with rfl | m
          · exact .inl k
          · exact .inr ⟨p',m,k⟩
      · rw [h2,h,or_assoc];refine or_congr_right ⟨fun k => ?_,fun ⟨p',m,k⟩ => ?_⟩
        · rcases k with ⟨q',m,k⟩ | ⟨p',m,k⟩
          · exact ⟨p,Ya,q',m,k⟩
          · exact ⟨p',Yb _ m,k⟩
        · rcases Yc.mp m with rfl | m
          · exact .inl k
          · exact .inr ⟨p',m,k⟩
def SmF (F F' : List I3) : Prop:=∀ e m v,(∃ x,(e,m,x) ∈ F ∧ v ≤ x) ↔ ∃ x,(e,m,x) ∈ F' ∧ v ≤ x
def SmC (C C' : List I3) : Prop:=∀ e m v,(∃ x,(e,m,x) ∈ C ∧ x ≤ v) ↔ ∃ x,(e,m,x) ∈ C' ∧ x ≤ v
theorem Z8f {F F' C C' : List I3} (f : SmF F F') (c : SmC C C') {p q : I3} (mp : p ∈ F) (mq : q ∈ C) : ∃ p' ∈ F',∃ q' ∈ C',p'.1 = p.1 ∧ p'.2.1 = p.2.1 ∧ p.2.2 ≤ p'.2.2 ∧ q'.1 = q.1 ∧ q'.2.1 = q.2.1 ∧ q'.2.2 ≤ q.2.2:=by
 obtain ⟨x,m1,l1⟩:=(f p.1 p.2.1 p.2.2).mp ⟨p.2.2,mp,Int.le_refl _⟩;obtain ⟨y,m2,l2⟩:=(c q.1 q.2.1 q.2.2).mp ⟨q.2.2,mq,Int.le_refl _⟩;exact ⟨_,m1,_,m2,rfl,rfl,l1,rfl,rfl,l2⟩
theorem SmF.symm {F F' : List I3} (f : SmF F F') : SmF F' F:=fun e m v => (f e m v).symm
theorem SmC.symm {F F' : List I3} (f : SmC F F') : SmC F' F:=fun e m v => (f e m v).symm
theorem ZfC {F F' C C' : List I3} (f : SmF F F') (c : SmC C C') : BadG bw F C → BadG bw F' C':=fun ⟨p,mp,q,mq,w,e,a,k⟩ => by
 obtain ⟨p',m1,q',m2,e1,e2,l1,e3,e4,l2⟩:=Z8f f c mp mq;exact ⟨p',m1,q',m2,w,by rw [e1,e3];exact e,by rw [e2,e4];exact a,by omega⟩
theorem lo_sm {F F' C C' : List I3} (f : SmF F F') (c : SmC C C') : LoG bw F C g → LoG bw F' C' g:=fun ⟨p,mp,q,mq,w,e,a,b,k⟩ => by
 obtain ⟨p',m1,q',m2,e1,e2,l1,e3,e4,l2⟩:=Z8f f c mp mq;exact ⟨p',m1,q',m2,w,by rw [e1,e3];exact e,by rw [e2];exact a,by rw [e4];exact b,by omega⟩
theorem hi_sm {F F' C C' : List I3} (f : SmF F F') (c : SmC C C') : HiG bw F C g → HiG bw F' C' g:=fun ⟨p,mp,q,mq,w,e,a,b,k⟩ => by
 obtain ⟨p',m1,q',m2,e1,e2,l1,e3,e4,l2⟩:=Z8f f c mp mq;exact ⟨p',m1,q',m2,w,by rw [e1,e3];exact e,by rw [e2];exact a,by rw [e4];exact b,by omega⟩
def lawR (n : Nat) (E : List Gp) : Option LH:=if okS (n + 1) E = true then some (Z1f (n + 1) E (n + 1) n,(Z1f (n + 1) E n (n + 1)).map fun x => 0 - x) else none
theorem Z6u {y : LH} (hl : ∀ g,shL y.1 g = true ↔ LoG bw F C g) (hh : ∀ g,shH y.2 g = true ↔ HiG bw F C g) : (∃ l h,y = (some l,some h) ∧ h < l) ↔ ∃ g,LoG bw F C (g + 1) ∧ HiG bw F C g:=by
 constructor
 · rintro ⟨l,h,rfl,lt⟩
   exact ⟨h,(hl _).mp (Yp (by omega)),(hh _).mp (Yp (Int.le_refl _))⟩
 · rintro ⟨g,a,b⟩
   have a:=(hl _).mpr a;have b:=(hh _).mpr b;obtain ⟨y1,y2⟩:=y;cases y1 with
   | none => cases a
   | some l =>
    cases y2 with
    | none => cases b
    | some h =>
     have a : g + 1 ≤ l:=Yq a;have b : h ≤ g:=Yq b;exact ⟨l,h,rfl,by omega⟩
theorem ZbY {y : LH} : (∃ l h,y = (some l,some h) ∧ h < l) ∧ (match y with
    | (some l,some h) => if h < l then none else some y
    | y => some y) = none ∨ (¬ (∃ l h,y = (some l,some h) ∧ h < l)) ∧ (match y with
    | (some l,some h) => if h < l then none else some y
    | y => some y) = some y:=by
 obtain ⟨y1,y2⟩:=y;cases y1 with
 | none => exact .inr ⟨fun ⟨l,h,e,_⟩ => (by cases e),rfl⟩
 | some l =>
  cases y2 with
  | none => exact .inr ⟨fun ⟨l,h,e,_⟩ => (by cases e),rfl⟩
  | some h =>
   by_cases c : h < l
   · exact .inl ⟨⟨l,h,rfl,c⟩,Yj c⟩
   · exact .inr ⟨fun ⟨l',h',e,k⟩ => by cases e;exact c k,Yk c⟩
theorem Zhu {n : Nat} {gap E : List Gp} {F' C' : List I3} (W : Ws n gap bw) (np : Np gap) (S : E2s n gap F C E) (f : SmF F F') (c : SmC C C') : stR bw F' C' = lawR n E:=by
 have ok:=ZbT W np S;have bi : BadG bw F' C' ↔ BadG bw F C:=⟨ZfC f.symm c.symm,ZfC f c⟩;have li : ∀ g,LoG bw F' C' g ↔ LoG bw F C g:=fun g => ⟨lo_sm f.symm c.symm,lo_sm f c⟩;have hi : ∀ g,HiG bw F' C' g ↔ HiG bw F C g:=fun g => ⟨hi_sm f.symm c.symm,hi_sm f c⟩;unfold stR lawR;rcases Z8e (bw:=bw) C' F' (none,none) with ⟨e,b⟩ | ⟨nb,y,e,l,h⟩
 · rw [e,Yk fun k => (ok.mp k).1 (bi.mp b)];rfl
 · have l : ∀ g,shL y.1 g = true ↔ LoG bw F C g:=fun g => by rw [l,li];exact ⟨fun k => k.elim (fun z => by cases z) id,.inr⟩
   have h : ∀ g,shH y.2 g = true ↔ HiG bw F C g:=fun g => by rw [h,hi];exact ⟨fun k => k.elim (fun z => by cases z) id,.inr⟩
   rw [e];show (match y with
    | (some l,some h) => if h < l then none else some y
    | y => some y) = _
   rcases ZbY (y:=y) with ⟨k,q⟩ | ⟨k,q⟩
   · rw [q,Yk fun z => (ok.mp z).2 ((Z6u l h).mp k)]
   · have o : okS (n + 1) E = true:=ok.mpr ⟨fun z => nb (bi.mpr z),fun z => k ((Z6u l h).mpr z)⟩;rw [q,Yj o];have e1 : y.1 = Z1f (n + 1) E (n + 1) n:=Zaw fun g => by rw [l,ZbU W np S o]
     have e2 : negE y.2 = Z1f (n + 1) E n (n + 1):=Zaw fun g => by rw [ZbV W np S o,← h,ZfA]
     refine congrArg some (Prod.ext e1 ?_);rw [← e2];show y.2 = (negE y.2).map fun x => 0 - x;cases y.2 with
     | none => rfl
     | some v =>
      show some v = some (0 - -v)
      congr 1
      omega
end
def OsO (O : D) (μ : Nat → Bool) : Prop:=∀ i : Nat,inD (.int (i : Nat)) O = some (.bl (μ i))
def tedO (n : Nat) (μ κ : Nat → Bool) (t : Tl) : Gp:=if κ t.w = true then ⟨zn n (μ t.w),t.e,t.x⟩ else ⟨t.e,zn n (μ t.w),0 - t.x⟩
def edO (b : Bk) (μ κ : Nat → Bool) : List Gp:=b.gap ++ b.tel.map (tedO b.ev μ κ) ++ b.sur.map (sedK b.ev)
def FI (b : Bk) (μ κ : Nat → Bool) : List I3:=(b.sur.filter fun t => t.s).map (fun t => (t.e,false,t.x)) ++ (b.tel.filter fun t => κ t.w).map fun t => (t.e,μ t.w,t.x)
def CI (b : Bk) (μ κ : Nat → Bool) : List I3:=(b.sur.filter fun t => !t.s).map (fun t => (t.e,false,t.x)) ++ (b.tel.filter fun t => !κ t.w).map fun t => (t.e,μ t.w,t.x)
def okP : Rf → Option Ent
 | .ok p _ => some p
 | _ => none
theorem Z2E (p : Ent) (E : Nv) : okP (.ok p E) = some p:=rfl
theorem Z9a {r : Rf} {p : Ent} (h : okP r = some p) : ∃ R,r = .ok p R:=by
 cases r with
 | ok q E => cases h;exact ⟨E,rfl⟩
 | er x E => cases h
 | stk => cases h
theorem ZfD {b : Bk} (h : BkO b) (μ κ : Nat → Bool) : E2s b.ev b.gap (FI b μ κ) (CI b μ κ) (edO b μ κ):=by
 refine ⟨fun t m => (h.gaps t m).2,fun p m => ?_,fun p m => ?_,fun t => ?_⟩
 · rcases Yd.mp m with m | m
   · obtain ⟨t,mt,rfl⟩:=Ye.mp m;exact (h.s t (List.mem_filter.mp mt).1).1
   · obtain ⟨t,mt,rfl⟩:=Ye.mp m;exact (h.t t (List.mem_filter.mp mt).1).2.1
 · rcases Yd.mp m with m | m
   · obtain ⟨t,mt,rfl⟩:=Ye.mp m;exact (h.s t (List.mem_filter.mp mt).1).1
   · obtain ⟨t,mt,rfl⟩:=Ye.mp m;exact (h.t t (List.mem_filter.mp mt).1).2.1
 · unfold edO FI CI;rw [Yd,Yd];constructor
   · rintro ((m | m) | m)
     · exact .inl m
     · obtain ⟨u,mu,rfl⟩:=Ye.mp m;cases c : κ u.w with
       | true => exact .inr (.inl ⟨(u.e,μ u.w,u.x),List.mem_append_right _ (Ye.mpr ⟨u,List.mem_filter.mpr ⟨mu,c⟩,rfl⟩),by unfold tedO;rw [Yj c]⟩)
       | false => exact .inr (.inr ⟨(u.e,μ u.w,u.x),List.mem_append_right _ (Ye.mpr ⟨u,List.mem_filter.mpr ⟨mu,by rw [c];rfl⟩,rfl⟩),by unfold tedO;rw [Yk (by rw [c];exact Bool.false_ne_true)]⟩)
     · obtain ⟨u,mu,rfl⟩:=Ye.mp m;cases c : u.s with
       | true => exact .inr (.inl ⟨(u.e,false,u.x),List.mem_append_left _ (Ye.mpr ⟨u,List.mem_filter.mpr ⟨mu,c⟩,rfl⟩),by unfold sedK;rw [Yj c];rfl⟩)
       | false => exact .inr (.inr ⟨(u.e,false,u.x),List.mem_append_left _ (Ye.mpr ⟨u,List.mem_filter.mpr ⟨mu,by rw [c];rfl⟩,rfl⟩),by unfold sedK;rw [Yk (by rw [c];exact Bool.false_ne_true)];rfl⟩)
   · rintro (m | ⟨p,m,rfl⟩ | ⟨p,m,rfl⟩)
     · exact .inl (.inl m)
     · rcases Yd.mp m with m | m
       · obtain ⟨u,mu,rfl⟩:=Ye.mp m;obtain ⟨m1,c⟩:=List.mem_filter.mp mu;exact .inr (Ye.mpr ⟨u,m1,by unfold sedK;rw [Yj c];rfl⟩)
       · obtain ⟨u,mu,rfl⟩:=Ye.mp m;obtain ⟨m1,c⟩:=List.mem_filter.mp mu;exact .inl (.inr (Ye.mpr ⟨u,m1,by unfold tedO;rw [Yj c]⟩))
     · rcases Yd.mp m with m | m
       · obtain ⟨u,mu,rfl⟩:=Ye.mp m;obtain ⟨m1,c⟩:=List.mem_filter.mp mu;exact .inr (Ye.mpr ⟨u,m1,by unfold sedK;rw [Yk (by intro z;rw [z] at c;cases c)];rfl⟩)
       · obtain ⟨u,mu,rfl⟩:=Ye.mp m;obtain ⟨m1,c⟩:=List.mem_filter.mp mu;exact .inl (.inr (Ye.mpr ⟨u,m1,by unfold tedO;rw [Yk (by intro z;rw [z] at c;cases c)]⟩))
def lhD : Option LH → D
 | none => .non
 | some x => .tup [enS x.1,enS x.2]
def two (b : Bk) (μ κ : Nat → Bool) : Option LH:=if clB b κ = true then lawR b.ev (edO b μ κ) else none
def EO (n : Nat) (P O K : D) (acc : List Gp) (s5 s6 s7 s8 s9 : Option Ent) : Nv:=[~~~(.int (n : Nat)),~~~P,~~~O,~~~K,some (.l .sh,.lst (acc.map Gp.d)),s5,s6,s7,s8,s9,none,none,none,none]
theorem Zhv (m : Bool) : J3 [.bl m] = some (.int (if m = true then 1 else 0)):=by cases m <;> rfl
theorem Zhw (n : Nat) (m : Bool) : Ji (.int (n : Nat)) (.int (if m = true then 1 else 0)) = some (.int (zn n m : Nat)):=by
 cases m with
 | true => rfl
 | false => show some (D.int ((n : Int) + 0)) = some (D.int (n : Int));rw [Int.add_zero]
theorem Zij {n wi : Nat} {P O K : D} {μ κ : Nat → Bool} (hO : OsO O μ) (hK : KdO K wi κ) {s9 : Option Ent} : ∀ {l : List Tl} {acc : List Gp} {s5 s6 s7 s8 : Option Ent},(∀ t ∈ l,t.w < wi) → acc.length + l.length ≤ 1000 → ∃ t5 t6 t7 t8,Z1i (tgT 3 (tgC (Jd 5) (tgC (Jd 6) (tgC (Jd 7) tgN)))) ZN (l.map Tl.d) (EO n P O K acc s5 s6 s7 s8 s9) = .nx (EO n P O K (acc ++ l.map (tedO n μ κ)) t5 t6 t7 t8 s9)
 | [],acc,s5,s6,s7,s8,_,_ => ⟨s5,s6,s7,s8,by simp only [List.map_nil,List.append_nil];rfl⟩
 | t :: l,acc,s5,s6,s7,s8,o,z => by
  have sz : 2000 ≤ sizeLine:=by decide
  rw [List.length_cons] at z;have a1:=hK _ (o t Ya);have a2:=hO t.w;have a3:=Zhv (μ t.w);have a4:=Zhw n (μ t.w);obtain ⟨t5,t6,t7,t8,e⟩:=Zij (n:=n) (P:=P) hO hK (s9:=s9) (l:=l) (acc:=acc ++ [tedO n μ κ t]) (s5 := ~~~(iD t.w)) (s6 := ~~~(iD t.e)) (s7 := ~~~(.int t.x)) (s8 := ~~~(iD (zn n (μ t.w)))) (fun u m => o u (Yb _ m)) (by rw [Yh,Yr];omega);have hb : ZN (EO n P O K acc (~~~(iD t.w)) (~~~(iD t.e)) (~~~(.int t.x)) s8 s9) = .nx (EO n P O K (acc ++ [tedO n μ κ t]) (~~~(iD t.w)) (~~~(iD t.e)) (~~~(.int t.x)) (~~~(iD (zn n (μ t.w)))) s9):=by
   unfold ZN EO tedO;generalize hm : (if μ t.w = true then (1 : Int) else 0) = m1 at *;cases c : κ t.w with
   | true =>
    rw [c] at a1
    (push_cast [iD,a1,a2,a3,a4,Z4x,Z6M,Z6N,Lb.Z7S,Z5x,List.map_append,Gp.d]) <;> (try rfl)
   | false =>
    rw [c] at a1
    (push_cast [iD,a1,a2,a3,a4,Z4x,Z6M,Z6N,Lb.Z7S,Z5x,List.map_append,Gp.d]) <;> (try rfl)
  refine ⟨t5,t6,t7,t8, ?_⟩;rw [List.map_cons,Zd (E1:=EO n P O K acc (~~~(iD t.w)) (~~~(iD t.e)) (~~~(.int t.x)) s8 s9) rfl hb,e,Yt];rfl
theorem Zik {n : Nat} {P O K : D} {s5 s8 : Option Ent} : ∀ {l : List Sr} {acc : List Gp} {s6 s7 s9 : Option Ent},acc.length + l.length ≤ 1000 → ∃ t6 t7 t9,Z1i (tgT 3 (tgC (Jd 6) (tgC (Jd 9) (tgC (Jd 7) tgN)))) ZO (l.map Sr.d) (EO n P O K acc s5 s6 s7 s8 s9) = .nx (EO n P O K (acc ++ l.map (sedK n)) s5 t6 t7 s8 t9)
 | [],acc,s6,s7,s9,_ => ⟨s6,s7,s9,by simp only [List.map_nil,List.append_nil];rfl⟩
 | t :: l,acc,s6,s7,s9,z => by
  have sz : 2000 ≤ sizeLine:=by decide
  rw [List.length_cons] at z;obtain ⟨t6,t7,t9,e⟩:=Zik (n:=n) (P:=P) (O:=O) (K:=K) (s5:=s5) (s8:=s8) (l:=l) (acc:=acc ++ [sedK n t]) (s6 := ~~~(iD t.e)) (s9 := ~~~(.str (siS t.s))) (s7 := ~~~(.int t.x)) (by rw [Yh,Yr];omega);have hb : ZO (EO n P O K acc s5 (~~~(iD t.e)) (~~~(.int t.x)) s8 (~~~(.str (siS t.s)))) = .nx (EO n P O K (acc ++ [sedK n t]) s5 (~~~(iD t.e)) (~~~(.int t.x)) s8 (~~~(.str (siS t.s)))):=by
   unfold ZO EO sedK;cases c : t.s with
   | true => (push_cast [iD,c,Z4x,Z6M,Z6N,Lb.Z7S,Z5x,List.map_append,Gp.d]) <;> (try rfl)
   | false => (push_cast [iD,c,Z4x,Z6M,Z6N,Lb.Z7S,Z5x,List.map_append,Gp.d]) <;> (try rfl)
  refine ⟨t6,t7,t9, ?_⟩;rw [List.map_cons,Zd (E1:=EO n P O K acc s5 (~~~(iD t.e)) (~~~(.int t.x)) s8 (~~~(.str (siS t.s)))) rfl hb,e,Yt];rfl
theorem Z8g {b : Bk} (h : BkO b) {p0 p1 p2 p3 O : D} (q : Pq b p0 p1 p2 p3) {μ : Nat → Bool} (hO : OsO O μ) {ks : List Bool} (hk : ks.length = b.wi) : ∃ R,ZD [(.sh,.int (b.ev : Nat)),(.sh,.lst [p0,p1,p2,p3]),(.sh,O),(.sh,kdD ks)] = .ok (.sh,lhD (two b μ (kap ks))) R:=by
 have sz : 2000 ≤ sizeLine:=by decide
 have hc:=h.cn;have hg:=h.gn;have ht:=h.tn;have hs:=h.sn;have c0 : Z1b [~~~(.int (b.ev : Nat)),~~~(.lst [p0,p1,p2,p3]),~~~O,~~~(kdD ks),none,none,none,none,none,none,none,none,none,none] = .ok (.l .sh,.lst ((b.cla.filter fun c => !Z5y (kap ks) c).map Cl.d)) [~~~(.int (b.ev : Nat)),~~~(.lst [p0,p1,p2,p3]),~~~O,~~~(kdD ks),none,none,none,none,none,none,none,none,none,none]:=by
  have s3:=(ZbN q.c);unfold Z1b;refine Zac (l:=b.cla) (emb:=Cl.d) (c:=fun c => !Z5y (kap ks) c) (EA:=[~~~(.int (b.ev : Nat)),~~~(.lst [p0,p1,p2,p3]),~~~O,~~~(kdD ks),none,none,none,none,none,none,none,none,none,none]) (E1:=fun c => [~~~(.int (b.ev : Nat)),~~~(.lst [p0,p1,p2,p3]),~~~O,~~~(kdD ks),none,none,none,none,none,none,none,none,none,~~~c.d]) (by (push_cast [s3]) <;> (try rfl)) rfl (fun c m => ⟨rfl, ?_,fun _ => (by (push_cast []) <;> (try rfl)),rfl⟩) (by omega);obtain ⟨R,e⟩:=Zat (K:=kdD ks) (T:=.tup []) (kdO hk) (h.c c m).1 (h.c c m).2
  (push_cast [e]) <;> (try rfl)
 have eq:=Zfo Zhj (b.cla.filter fun c => !Z5y (kap ks) c);rw [ZbM] at eq;have eq' : neD (.lst ((b.cla.filter fun c => !Z5y (kap ks) c).map Cl.d)) (.lst []) = some (.bl (!clB b (kap ks))):=eq;obtain ⟨t5,t6,t7,t8,e1⟩:=Zij (n:=b.ev) (P:=.lst [p0,p1,p2,p3]) hO (kdO hk) (s9:=none) (l:=b.tel) (acc:=b.gap) (s5:=none) (s6:=none) (s7:=none) (s8:=none) (fun t m => (h.t t m).1) (by omega);obtain ⟨u6,u7,u9,e2⟩:=Zik (n:=b.ev) (P:=.lst [p0,p1,p2,p3]) (O:=O) (K:=kdD ks) (s5:=t5) (s8:=t8) (l:=b.sur) (acc:=b.gap ++ b.tel.map (tedO b.ev μ (kap ks))) (s6:=t6) (s7:=t7) (s9:=none) (by rw [Yh,Yi];omega);have ow:=Zj8 q.g (by rw [Yi];omega);have s0:=(ZbN q.t);have s2:=(ZbN q.s);have S:=ZfD h μ (kap ks);obtain ⟨R2,su⟩:=sums_ev (n:=b.ev + 1) (by have:=h.e8;omega) (g:=edO b μ (kap ks)) S.ends;have ad : Ji (.int (b.ev : Nat)) (.int 1) = some (.int ((b.ev + 1 : Nat) : Int)):=rfl;unfold ZD two;rw [Z29];unfold Z1W Z1X;unfold EO at e1 e2;cases q1 : clB b (kap ks) with
 | false =>
  rw [q1] at eq';refine Z9a ?_
  (push_cast [Z2E,c0,eq',lhD]) <;> (try rfl)
 | true =>
  rw [q1] at eq';unfold lawR;cases q2 : okS (b.ev + 1) (edO b μ (kap ks)) with
  | false =>
   have dn : Kf.sumD (b.ev + 1) (Z1f (b.ev + 1) (edO b μ (kap ks))) = .non:=by
    unfold okS at q2;unfold Kf.sumD;rw [Yj (by simpa using q2)]
   rw [dn] at su;unfold edO at su;have i : Jp D.non .non = some (.bl true):=rfl;refine Z9a ?_
   (push_cast [Z2E,Z2s,Z1r,Z2C,Option.map_none,Option.map_some,c0,eq',Z5Q,ow,s0,e1,s2,e2,ad,su,i,lhD,edO]) <;> (try rfl)
  | true =>
   rw [Zfw q2] at su;have i1 : ixD (.lst (tSm (b.ev + 1 + 1) (Z1f (b.ev + 1) (edO b μ (kap ks))))) (.int ((b.ev + 1 : Nat) : Int)) = some _:=Zc8 _ (by omega);have i2 : ixD (.lst (tSm (b.ev + 1 + 1) (Z1f (b.ev + 1) (edO b μ (kap ks))))) (.int (b.ev : Nat)) = some _:=Zc8 _ (by omega);have r1 : ixD (.lst (rwD (b.ev + 1 + 1) fun v => enS (Z1f (b.ev + 1) (edO b μ (kap ks)) (b.ev + 1) v))) (.int (b.ev : Nat)) = some (enS (Z1f (b.ev + 1) (edO b μ (kap ks)) (b.ev + 1) b.ev)):=Z7Z (by omega);have r2 : ixD (.lst (rwD (b.ev + 1 + 1) fun v => enS (Z1f (b.ev + 1) (edO b μ (kap ks)) b.ev v))) (.int ((b.ev + 1 : Nat) : Int)) = some (enS (Z1f (b.ev + 1) (edO b μ (kap ks)) b.ev (b.ev + 1))):=Z7Z (by omega);have ni : ∀ T : List D,Jp (.lst T) .non = some (.bl false):=fun _ => rfl;generalize D.lst (rwD (b.ev + 1 + 1) fun v => enS (Z1f (b.ev + 1) (edO b μ (kap ks)) (b.ev + 1) v)) = R1 at *;generalize D.lst (rwD (b.ev + 1 + 1) fun v => enS (Z1f (b.ev + 1) (edO b μ (kap ks)) b.ev v)) = R2 at *;generalize Z1f (b.ev + 1) (edO b μ (kap ks)) (b.ev + 1) b.ev = lo at *;generalize Z1f (b.ev + 1) (edO b μ (kap ks)) b.ev (b.ev + 1) = hi at *;generalize tSm (b.ev + 1 + 1) (Z1f (b.ev + 1) (edO b μ (kap ks))) = T at *;unfold edO at su;cases hi with
   | none =>
    have j : Jp (enS none) .non = some (.bl true):=rfl;refine Z9a ?_
    (push_cast [Z2E,Z2s,Z1r,Z2C,Option.map_none,Option.map_some,c0,eq',Z5Q,ow,s0,e1,s2,e2,ad,su,ni,i1,i2,r1,r2,j,lhD]) <;> (try rfl)
   | some v =>
    have j : Jp (enS (some v)) .non = some (.bl false):=rfl;have k : Jt (.int 0) (enS (some v)) = some (enS (some (0 - v))):=rfl;refine Z9a ?_
    (push_cast [Z2E,Z2s,Z1r,Z2C,Option.map_none,Option.map_some,c0,eq',Z5Q,ow,s0,e1,s2,e2,ad,su,ni,i1,i2,r1,r2,j,k,lhD]) <;> (try rfl)
def i3D (p : I3) : D:=.tup [iD p.1,.bl p.2.1,.int p.2.2]
def Z6v (acc : List I3) (e : Nat) (m : Bool) : Option Int:=(acc.find? fun p => decide (p.1 = e ∧ p.2.1 = m)).map fun p => p.2.2
def insI (op : Int → Int → Int) (acc : List I3) (p : I3) : List I3 :=
 if (Z6v acc p.1 p.2.1).isSome = true then acc.map fun r => if r.1 = p.1 ∧ r.2.1 = p.2.1 then (r.1,r.2.1,op ((Z6v acc p.1 p.2.1).getD p.2.2) p.2.2) else r
 else acc ++ [(p.1,p.2.1,op p.2.2 p.2.2)]
def Z5R (op : Int → Int → Int) (l : List I3) : List I3:=l.foldl (insI op) []
def lfI (e : Nat) (m : Bool) : List Leaf:=[.num (e : Nat),.num (if m = true then 1 else 0)]
def encI (p : I3) : Dkv:=(lfI p.1 p.2.1,.tup [iD p.1,.bl p.2.1],.int p.2.2)
theorem Zjc (e : Nat) (m : Bool) : lfsD [iD e,.bl m] = some (lfI e m):=rfl
theorem Z8h {e e' : Nat} {m m' : Bool} : lfI e m = lfI e' m' ↔ e = e' ∧ m = m':=by
 constructor
 · intro h;unfold lfI at h;injection h with h1 h2;injection h2 with h2 _;injection h1 with h1;injection h2 with h2;refine ⟨by omega, ?_⟩;cases m <;> cases m' <;> first | rfl | exact absurd h2 (by decide)
 · rintro ⟨rfl,rfl⟩;rfl
theorem Z8i (acc : List I3) (e : Nat) (m : Bool) : lvD (acc.map encI) (lfI e m) = (Z6v acc e m).map D.int:=by
 unfold lvD Z6v
 induction acc with
 | nil => rfl
 | cons p acc ih =>
  rw [List.map_cons,List.find?_cons,List.find?_cons];have k : decide ((encI p).1 = lfI e m) = decide (p.1 = e ∧ p.2.1 = m):=by
   rw [decide_eq_decide];exact Z8h
  rw [k];cases decide (p.1 = e ∧ p.2.1 = m) with
  | true => rfl
  | false => exact ih
theorem ZfE (op : Int → Int → Int) (acc : List I3) (p : I3) : Zb8 (acc.map encI) (lfI p.1 p.2.1) (.tup [iD p.1,.bl p.2.1]) (.int (op ((Z6v acc p.1 p.2.1).getD p.2.2) p.2.2)) = (insI op acc p).map encI:=by
 unfold Zb8 insI;rw [Z8i,Option.isSome_map];cases q : Z6v acc p.1 p.2.1 with
 | some y =>
  rw [Yj (show (some y).isSome = true from rfl),Yj (show (some y).isSome = true from rfl),List.map_map,List.map_map];refine List.map_congr_left fun r _ => ?_;show (if (encI r).1 = lfI p.1 p.2.1 then ((encI r).1,(encI r).2.1,D.int _) else encI r) = encI (if r.1 = p.1 ∧ r.2.1 = p.2.1 then (r.1,r.2.1,_) else r);by_cases c : r.1 = p.1 ∧ r.2.1 = p.2.1
  · rw [Yj c,Yj (show (encI r).1 = lfI p.1 p.2.1 from Z8h.mpr c)];rfl
  · rw [Yk c,Yk (show ¬ (encI r).1 = lfI p.1 p.2.1 from fun z => c (Z8h.mp z))]
 | none =>
  rw [Yk (by simp),Yk (by simp),List.map_append];rfl
theorem ZbZ (op : Int → Int → Int) (acc : List I3) (p : I3) : (insI op acc p).length ≤ acc.length + 1:=by
 unfold insI
 split
 · rw [Yi];omega
 · rw [Yh,Yr];omega
theorem Zc0 {fe : M D} {op : Int → Int → Int} (hf : ∀ x y : Int,lam2 2 fe (.int x) (.int y) = some (.int (op x y))) (acc : List I3) (p : I3) (z : acc.length ≤ 1000) : Z5a 2 fe (acc.map encI) (i3D p) = some ((insI op acc p).map encI):=by
 have sz : 2000 ≤ sizeLine:=by decide
 show (match lfsD [iD p.1,.bl p.2.1] with
  | some ks => if (acc.map encI).length < sizeLine then (lam2 2 fe ((lvD (acc.map encI) ks).getD (.int p.2.2)) (.int p.2.2)).map fun z => Zb8 (acc.map encI) ks (.tup [iD p.1,.bl p.2.1]) z else none
  | none => none) = _
 rw [Zjc];simp only;rw [Yj (by rw [Yi];omega),Z8i];have g : ((Z6v acc p.1 p.2.1).map D.int).getD (.int p.2.2) = .int ((Z6v acc p.1 p.2.1).getD p.2.2):=by cases Z6v acc p.1 p.2.1 <;> rfl
 rw [g,hf,Option.map_some,ZfE]
theorem Zay {fe : M D} {op : Int → Int → Int} (hf : ∀ x y : Int,lam2 2 fe (.int x) (.int y) = some (.int (op x y))) : ∀ (l acc : List I3),acc.length + l.length ≤ 1000 → Z3o 2 fe (l.map i3D) (acc.map encI) = some ((l.foldl (insI op) acc).map encI)
 | [],acc,_ => rfl
 | p :: l,acc,z => by
  rw [List.length_cons] at z;show (Z5a 2 fe (acc.map encI) (i3D p)).bind (Z3o 2 fe (l.map i3D)) = _;rw [Zc0 hf acc p (by omega)];have:=ZbZ op acc p;exact Zay hf l (insI op acc p) (by omega)
def ldI (l : List I3) : D:=.ldc (l.map fun p => .tup [iD p.1,.bl p.2.1]) (l.map fun p => .int p.2.2)
theorem ZfF {fe : M D} {op : Int → Int → Int} (hf : ∀ x y : Int,lam2 2 fe (.int x) (.int y) = some (.int (op x y))) (l : List I3) (z : l.length ≤ 1000) : strD 2 fe (.lst (l.map i3D)) = some (ldI (Z5R op l)):=by
 have r:=Zay hf l [] (by rw [List.length_nil];omega);show (Z3o 2 fe (l.map i3D) []).map _ = _;rw [show Z3o 2 fe (l.map i3D) [] = _ from r];unfold ldI Z5R;rw [Option.map_some,List.map_map,List.map_map];rfl
def Uq (acc : List I3) : Prop:=∀ e m x y,(e,m,x) ∈ acc → (e,m,y) ∈ acc → x = y
theorem Z9b {acc : List I3} {e : Nat} {m : Bool} {x : Int} (h : Z6v acc e m = some x) : (e,m,x) ∈ acc:=by
 unfold Z6v at h;cases q : acc.find? fun p => decide (p.1 = e ∧ p.2.1 = m) with
 | none => rw [q] at h;cases h
 | some r =>
  rw [q] at h;cases h;have h3:=List.find?_some (p:=fun p : I3 => decide (p.1 = e ∧ p.2.1 = m)) q;obtain ⟨h1,h2⟩:=Yq h3;have:=List.mem_of_find?_eq_some q;rw [← h1,← h2];exact this
theorem Z9c {acc : List I3} {e : Nat} {m : Bool} (h : Z6v acc e m = none) (x : Int) : (e,m,x) ∉ acc:=fun k => by
 unfold Z6v at h;rw [Option.map_eq_none_iff,List.find?_eq_none] at h;exact h _ k (Yp ⟨rfl,rfl⟩)
section
variable {R : Int → Int → Prop} {op : Int → Int → Int} (hop : ∀ v a b,R v (op a b) ↔ R v a ∨ R v b)
include hop
theorem ZfG {acc : List I3} (u : Uq acc) (p : I3) : Uq (insI op acc p) ∧ ∀ e m v,(∃ x,(e,m,x) ∈ insI op acc p ∧ R v x) ↔ (∃ x,(e,m,x) ∈ acc ∧ R v x) ∨ (p.1 = e ∧ p.2.1 = m ∧ R v p.2.2):=by
 unfold insI;cases q : Z6v acc p.1 p.2.1 with
 | none =>
  rw [Yk (by simp)];have no:=Z9c q;refine ⟨fun e m x y hx hy => ?_,fun e m v => ?_⟩
  · rcases Yd.mp hx with hx | hx <;> rcases Yd.mp hy with hy | hy
    · exact u e m x y hx hy
    · cases Yg.mp hy;exact absurd hx (no x)
    · cases Yg.mp hx;exact absurd hy (no y)
    · cases Yg.mp hx;cases Yg.mp hy;rfl
  · constructor
    · rintro ⟨x,hx,r⟩
      rcases Yd.mp hx with hx | hx
      · exact .inl ⟨x,hx,r⟩
      · cases Yg.mp hx;exact .inr ⟨rfl,rfl,((hop _ _ _).mp r).elim id id⟩
    · rintro (⟨x,hx,r⟩ | ⟨rfl,rfl,r⟩)
      · exact ⟨x,List.mem_append_left _ hx,r⟩
      · exact ⟨_,List.mem_append_right _ (Yg.mpr rfl),(hop _ _ _).mpr (.inl r)⟩
 | some y0 =>
  rw [Yj (show (some y0).isSome = true from rfl)];have m0:=Z9b q;have mem : ∀ e m x,(e,m,x) ∈ (acc.map fun r => if r.1 = p.1 ∧ r.2.1 = p.2.1 then (r.1,r.2.1,op ((some y0).getD p.2.2) p.2.2) else r) ↔ (¬ (e = p.1 ∧ m = p.2.1) ∧ (e,m,x) ∈ acc) ∨ (e = p.1 ∧ m = p.2.1 ∧ x = op y0 p.2.2):=fun e m x => by
   rw [Ye];constructor
   · rintro ⟨r,mr,er⟩
     by_cases c : r.1 = p.1 ∧ r.2.1 = p.2.1
     · rw [Yj c] at er;cases er;exact .inr ⟨c.1,c.2,rfl⟩
     · rw [Yk c] at er;subst er;exact .inl ⟨c,mr⟩
   · rintro (⟨c,mr⟩ | ⟨rfl,rfl,rfl⟩)
     · exact ⟨_,mr,Yk c⟩
     · exact ⟨_,m0,Yj ⟨rfl,rfl⟩⟩
  refine ⟨fun e m x y hx hy => ?_,fun e m v => ?_⟩
  · rcases (mem e m x).mp hx with ⟨c,hx⟩ | ⟨c1,c2,hx⟩ <;> rcases (mem e m y).mp hy with ⟨d,hy⟩ | ⟨d1,d2,hy⟩
    · exact u e m x y hx hy
    · exact absurd ⟨d1,d2⟩ c
    · exact absurd ⟨c1,c2⟩ d
    · rw [hx,hy]
  · constructor
    · rintro ⟨x,hx,r⟩
      rcases (mem e m x).mp hx with ⟨c,hx⟩ | ⟨rfl,rfl,rfl⟩
      · exact .inl ⟨x,hx,r⟩
      · rcases (hop _ _ _).mp r with r | r
        · exact .inl ⟨y0,m0,r⟩
        · exact .inr ⟨rfl,rfl,r⟩
    · rintro (⟨x,hx,r⟩ | ⟨rfl,rfl,r⟩)
      · by_cases c : e = p.1 ∧ m = p.2.1
        · obtain ⟨rfl,rfl⟩:=c;rw [u _ _ _ _ hx m0] at r;exact ⟨_,(mem _ _ _).mpr (.inr ⟨rfl,rfl,rfl⟩),(hop _ _ _).mpr (.inl r)⟩
        · exact ⟨x,(mem _ _ _).mpr (.inl ⟨c,hx⟩),r⟩
      · exact ⟨_,(mem _ _ _).mpr (.inr ⟨rfl,rfl,rfl⟩),(hop _ _ _).mpr (.inr r)⟩
theorem Z8j : ∀ (l : List I3) {acc : List I3},Uq acc → ∀ e m v,(∃ x,(e,m,x) ∈ l.foldl (insI op) acc ∧ R v x) ↔ (∃ x,(e,m,x) ∈ acc ∧ R v x) ∨ ∃ x,(e,m,x) ∈ l ∧ R v x
 | [],acc,_,e,m,v => ⟨.inl,fun k => k.elim id fun ⟨_,k,_⟩ => by cases k⟩
 | p :: l,acc,u,e,m,v => by
  obtain ⟨u2,h2⟩:=ZfG hop u p;rw [List.foldl_cons,Z8j l u2,h2,or_assoc];refine or_congr_right ⟨fun k => ?_,fun ⟨x,mx,r⟩ => ?_⟩
  · rcases k with ⟨rfl,rfl,r⟩ | ⟨x,mx,r⟩
    · exact ⟨_,Ya,r⟩
    · exact ⟨x,Yb _ mx,r⟩
  · rcases Yc.mp mx with e | mx
    · cases e;exact .inl ⟨rfl,rfl,r⟩
    · exact .inr ⟨x,mx,r⟩
theorem Zaz (l : List I3) (e : Nat) (m : Bool) (v : Int) : (∃ x,(e,m,x) ∈ l ∧ R v x) ↔ ∃ x,(e,m,x) ∈ Z5R op l ∧ R v x:=by
 have k:=Z8j hop l (acc:=[]) (fun _ _ _ _ z => by cases z) e m v;unfold Z5R;rw [k];exact ⟨.inr,fun z => z.elim (fun ⟨_,w,_⟩ => by cases w) id⟩
end
def mxI (x y : Int) : Int:=if y > x then y else x
def mnI (x y : Int) : Int:=if y < x then y else x
theorem Zc1 (l : List I3) : SmF l (Z5R mxI l):=fun e m v => Zaz (R:=fun v x => v ≤ x) (fun v a b => by unfold mxI;split <;> omega) l e m v
theorem Zc2 (l : List I3) : SmC l (Z5R mnI l):=fun e m v => Zaz (R:=fun v x => x ≤ v) (fun v a b => by unfold mnI;split <;> omega) l e m v
theorem ZaA {n : Nat} {l : List I3} (h : ∀ p ∈ l,p.1 < n) {op : Int → Int → Int} : ∀ p ∈ Z5R op l,p.1 < n:=by
 have key : ∀ (l acc : List I3),(∀ p ∈ l,p.1 < n) → (∀ p ∈ acc,p.1 < n) → ∀ p ∈ l.foldl (insI op) acc,p.1 < n:=by
  intro l
  induction l with
  | nil => intro acc _ h2;exact h2
  | cons p l ih =>
   intro acc h1 h2;refine ih _ (fun q m => h1 q (Yb _ m)) fun q m => ?_;unfold insI at m
   split at m
   · obtain ⟨r,mr,er⟩:=Ye.mp m;have:=h2 r mr
     split at er
     · cases er;exact this
     · cases er;exact this
   · rcases Yd.mp m with m | m
     · exact h2 q m
     · cases Yg.mp m;exact h1 p Ya
 exact key l [] h fun p m => by cases m
theorem ZfH (x y : Int) : lam2 2 (cbM ZcG (Ja (rd 0) (Ja (rd 1) (Zr [])))) (.int x) (.int y) = some (.int (mxI x y)):=rfl
theorem ZfI (x y : Int) : lam2 2 (cbM ZcH (Ja (rd 0) (Ja (rd 1) (Zr [])))) (.int x) (.int y) = some (.int (mnI x y)):=rfl
theorem Z9d {b : Bk} (h : BkO b) {O : D} {μ : Nat → Bool} (hO : OsO O μ) {ks : List Bool} (hk : ks.length = b.wi) : ∃ R,Z2g [(.sh,b.d),(.sh,O),(.sh,kdD ks)] = .ok (.sh,ldI (Z5R mxI (FI b μ (kap ks)))) R:=by
 have sz : 2000 ≤ sizeLine:=by decide
 have ht:=h.tn;have hs:=h.sn;have hK:=kdO hk;have c0 : Z2y [~~~b.d,~~~O,~~~(kdD ks),none,none,none,none,none] = .ok (.l .sh,.lst ((b.sur.filter fun t => t.s).map fun t => i3D (t.e,false,t.x))) [~~~b.d,~~~O,~~~(kdD ks),none,none,none,none,none]:=by
  unfold Z2y;refine Zac (l:=b.sur) (emb:=Sr.d) (c:=fun t => t.s) (g:=fun t => i3D (t.e,false,t.x)) (EA:=[~~~b.d,~~~O,~~~(kdD ks),none,none,none,none,none]) (E1:=fun t => [~~~b.d,~~~O,~~~(kdD ks),none,~~~(iD t.e),~~~(.str (siS t.s)),~~~(.int t.x),none]) (by (push_cast [Bk.d]) <;> (try rfl)) rfl (fun t m => ⟨rfl, ?_,fun _ => (by (push_cast [i3D]) <;> (try rfl)),rfl⟩) (by omega);cases c : t.s with
  | true => (push_cast [c]) <;> (try rfl)
  | false => (push_cast [c]) <;> (try rfl)
 have c1 : ∀ s3 : Option Ent,Z2z [~~~b.d,~~~O,~~~(kdD ks),s3,none,none,none,none] = .ok (.l .sh,.lst ((b.tel.filter fun t => kap ks t.w).map fun t => i3D (t.e,μ t.w,t.x))) [~~~b.d,~~~O,~~~(kdD ks),s3,none,none,none,none]:=fun s3 => by
  unfold Z2z;refine Zac (l:=b.tel) (emb:=Tl.d) (c:=fun t => kap ks t.w) (g:=fun t => i3D (t.e,μ t.w,t.x)) (EA:=[~~~b.d,~~~O,~~~(kdD ks),s3,none,none,none,none]) (E1:=fun t => [~~~b.d,~~~O,~~~(kdD ks),s3,~~~(iD t.e),none,~~~(.int t.x),~~~(iD t.w)]) (by (push_cast [Bk.d]) <;> (try rfl)) rfl (fun t m => ⟨rfl, ?_,fun _ => ?_,rfl⟩) (by omega)
  · have a1:=hK _ (h.t t m).1;cases c : kap ks t.w with
    | true => rw [c] at a1;(push_cast [iD,a1]) <;> (try rfl)
    | false => rw [c] at a1;(push_cast [iD,a1]) <;> (try rfl)
  · have a2:=hO t.w
    (push_cast [iD,a2,i3D]) <;> (try rfl)
 have ad : Ji (.lst ((b.sur.filter fun t => t.s).map fun t => i3D (t.e,false,t.x))) (.lst ((b.tel.filter fun t => kap ks t.w).map fun t => i3D (t.e,μ t.w,t.x))) = some (.lst ((FI b μ (kap ks)).map i3D)):=by
  have l1:=List.length_filter_le (fun t : Sr => t.s) b.sur;have l2:=List.length_filter_le (fun t : Tl => kap ks t.w) b.tel;unfold FI;rw [List.map_append,List.map_map,List.map_map];exact addL (by rw [Yi,Yi];omega)
 have fl : (FI b μ (kap ks)).length ≤ 1000:=by
  have l1:=List.length_filter_le (fun t : Sr => t.s) b.sur;have l2:=List.length_filter_le (fun t : Tl => kap ks t.w) b.tel;unfold FI;rw [Yh,Yi,Yi];omega
 have st:=ZfF ZfH (FI b μ (kap ks)) fl;unfold Z2g;rw [Z4t];refine Z9a ?_;generalize cbM ZcG (Ja (rd 0) (Ja (rd 1) (Zr []))) = fe at *;generalize D.lst ((b.sur.filter fun t => t.s).map fun t => i3D (t.e,false,t.x)) = L0 at *;generalize D.lst ((b.tel.filter fun t => kap ks t.w).map fun t => i3D (t.e,μ t.w,t.x)) = L1 at *
 (push_cast [Z2E,Z1r,Z2C,c0,c1,ad,st]) <;> (try rfl)
theorem ZfJ {b : Bk} (h : BkO b) {O : D} {μ : Nat → Bool} (hO : OsO O μ) {ks : List Bool} (hk : ks.length = b.wi) : ∃ R,Z1s [(.sh,b.d),(.sh,O),(.sh,kdD ks)] = .ok (.sh,ldI (Z5R mnI (CI b μ (kap ks)))) R:=by
 have sz : 2000 ≤ sizeLine:=by decide
 have ht:=h.tn;have hs:=h.sn;have hK:=kdO hk;have c0 : Z1P [~~~b.d,~~~O,~~~(kdD ks),none,none,none,none,none] = .ok (.l .sh,.lst ((b.sur.filter fun t => !t.s).map fun t => i3D (t.e,false,t.x))) [~~~b.d,~~~O,~~~(kdD ks),none,none,none,none,none]:=by
  unfold Z1P;refine Zac (l:=b.sur) (emb:=Sr.d) (c:=fun t => !t.s) (g:=fun t => i3D (t.e,false,t.x)) (EA:=[~~~b.d,~~~O,~~~(kdD ks),none,none,none,none,none]) (E1:=fun t => [~~~b.d,~~~O,~~~(kdD ks),none,~~~(iD t.e),~~~(.str (siS t.s)),~~~(.int t.x),none]) (by (push_cast [Bk.d]) <;> (try rfl)) rfl (fun t m => ⟨rfl, ?_,fun _ => (by (push_cast [i3D]) <;> (try rfl)),rfl⟩) (by omega);cases c : t.s with
  | true => (push_cast [c]) <;> (try rfl)
  | false => (push_cast [c]) <;> (try rfl)
 have c1 : ∀ s3 : Option Ent,Z1Q [~~~b.d,~~~O,~~~(kdD ks),s3,none,none,none,none] = .ok (.l .sh,.lst ((b.tel.filter fun t => !kap ks t.w).map fun t => i3D (t.e,μ t.w,t.x))) [~~~b.d,~~~O,~~~(kdD ks),s3,none,none,none,none]:=fun s3 => by
  unfold Z1Q;refine Zac (l:=b.tel) (emb:=Tl.d) (c:=fun t => !kap ks t.w) (g:=fun t => i3D (t.e,μ t.w,t.x)) (EA:=[~~~b.d,~~~O,~~~(kdD ks),s3,none,none,none,none]) (E1:=fun t => [~~~b.d,~~~O,~~~(kdD ks),s3,~~~(iD t.e),none,~~~(.int t.x),~~~(iD t.w)]) (by (push_cast [Bk.d]) <;> (try rfl)) rfl (fun t m => ⟨rfl, ?_,fun _ => ?_,rfl⟩) (by omega)
  · have a1:=hK _ (h.t t m).1;cases c : kap ks t.w with
    | true => rw [c] at a1;(push_cast [iD,a1]) <;> (try rfl)
    | false => rw [c] at a1;(push_cast [iD,a1]) <;> (try rfl)
  · have a2:=hO t.w
    (push_cast [iD,a2,i3D]) <;> (try rfl)
 have ad : Ji (.lst ((b.sur.filter fun t => !t.s).map fun t => i3D (t.e,false,t.x))) (.lst ((b.tel.filter fun t => !kap ks t.w).map fun t => i3D (t.e,μ t.w,t.x))) = some (.lst ((CI b μ (kap ks)).map i3D)):=by
  have l1:=List.length_filter_le (fun t : Sr => !t.s) b.sur;have l2:=List.length_filter_le (fun t : Tl => !kap ks t.w) b.tel;unfold CI;rw [List.map_append,List.map_map,List.map_map];exact addL (by rw [Yi,Yi];omega)
 have fl : (CI b μ (kap ks)).length ≤ 1000:=by
  have l1:=List.length_filter_le (fun t : Sr => !t.s) b.sur;have l2:=List.length_filter_le (fun t : Tl => !kap ks t.w) b.tel;unfold CI;rw [Yh,Yi,Yi];omega
 have st:=ZfF ZfI (CI b μ (kap ks)) fl;unfold Z1s;rw [Z3i];refine Z9a ?_;generalize cbM ZcH (Ja (rd 0) (Ja (rd 1) (Zr []))) = fe at *;generalize D.lst ((b.sur.filter fun t => !t.s).map fun t => i3D (t.e,false,t.x)) = L0 at *;generalize D.lst ((b.tel.filter fun t => !kap ks t.w).map fun t => i3D (t.e,μ t.w,t.x)) = L1 at *
 (push_cast [Z2E,Z1r,Z2C,c0,c1,ad,st]) <;> (try rfl)
def SBv (B O K T FL CL : D) (x : LH) (s8 s9 s10 s11 s12 s13 s14 : Option Ent) : Nv:=[~~~B,~~~O,~~~K,~~~T,~~~FL,~~~CL,~~~(enS x.1),~~~(enS x.2),s8,s9,s10,s11,s12,s13,s14]
def flP : Fl → Option Ent
 | .rt p _ => some p
 | _ => none
theorem ZfK (p : Ent) (E : Nv) : flP (.rt p E) = some p:=rfl
theorem Zil {r : Fl} {p : Ent} (h : flP r = some p) : ∃ E,r = .rt p E:=by
 cases r <;> first | (cases h;exact ⟨_,rfl⟩) | cases h
theorem Zjd : Z3E (enP none) .non = some (.bl false):=rfl
theorem Zje (x : Int × List Nat) : Z3E (enP (some x)) .non = some (.bl true):=rfl
theorem ixP0 (x : Int × List Nat) : ixD (enP (some x)) (.int 0) = some (.int x.1):=rfl
theorem Zjf {n : Nat} {f : Tp} {B O K FL CL : D} {x : LH} {p q : I3} (hp : p.1 < n) (hq : q.1 < n) (s14 : Option Ent) : (∃ y s,stp (bwF f) p x q = some y ∧ ZV (SBv B O K (.lst (tPw n f)) FL CL x (~~~(iD p.1)) (~~~(.bl p.2.1)) (~~~(.int p.2.2)) (~~~(iD q.1)) (~~~(.bl q.2.1)) (~~~(.int q.2.2)) s14) = .nx (SBv B O K (.lst (tPw n f)) FL CL y (~~~(iD p.1)) (~~~(.bl p.2.1)) (~~~(.int p.2.2)) (~~~(iD q.1)) (~~~(.bl q.2.1)) (~~~(.int q.2.2)) s))
    ∨ (stp (bwF f) p x q = none ∧ ∃ E',ZV (SBv B O K (.lst (tPw n f)) FL CL x (~~~(iD p.1)) (~~~(.bl p.2.1)) (~~~(.int p.2.2)) (~~~(iD q.1)) (~~~(.bl q.2.1)) (~~~(.int q.2.2)) s14) = .rt (.sh,.non) E'):=by
 have i1 : ixD (.lst (tPw n f)) (iD p.1) = some (.lst (rwD n fun v => enP (f p.1 v))):=ZfX f hp;have i2 : ixD (.lst (rwD n fun v => enP (f p.1 v))) (iD q.1) = some (enP (f p.1 q.1)):=Z7Z hq;have ebw : bwF f p.1 q.1 = (f p.1 q.1).map (·.1):=rfl;unfold stp;rw [ebw];unfold ZV SBv;generalize D.lst (tPw n f) = T at *;generalize D.lst (rwD n fun v => enP (f p.1 v)) = TR at *;obtain ⟨a,m,px⟩:=p;obtain ⟨c,l,qx⟩:=q;obtain ⟨lo,hi⟩:=x;simp only at *;generalize iD a = AD at *;generalize iD c = CD at *;cases k : f a c with
 | none =>
  rw [k] at i2;refine .inl ⟨_,s14,rfl, ?_⟩
  (push_cast [shr,shr1,noO,ite_true,i1,i2,Zjd]) <;> (try rfl)
 | some w =>
  rw [k] at i2;have sb : ∀ i j : Int,Jt (.int i) (.int j) = some (.int (i - j)):=fun _ _ => rfl;have lz : ∀ i j : Int,ltD (.int i) (.int j) = some (.bl (decide (i < j))):=fun _ _ => rfl;have gz : ∀ i j : Int,gtD (.int i) (.int j) = some (.bl (decide (i > j))):=fun _ _ => rfl;have ng : ∀ i : Int,negD (.int i) = some (.int (-i)):=fun _ => rfl;have i3:=ixP0 w;have n1:=Zje w;have ex : ((some w).map (·.1) : Option Int) = some w.1:=rfl;rw [ex];simp only;generalize enP (some w) = W at *;generalize w.1 = wx at *;generalize hr : qx - px - wx = r;have s2 : Jt (.int (qx - px)) (.int wx) = some (.int r):=by rw [sb,hr]
  have s1:=sb qx px;cases m <;> cases l
  · have e : eqD (.bl false) (.bl false) = some (.bl true):=rfl;by_cases c0 : r < 0
    · rw [Yj ⟨rfl,c0⟩];refine .inr ⟨rfl,Zil ?_⟩
      (push_cast [ZfK,shr,shr1,noO,ite_true,i1,i2,i3,n1,s1,s2,e,lz,c0,decide_true]) <;> (try rfl)
    · rw [Yk fun z => c0 z.2];refine .inl ⟨_,~~~(.int r),rfl, ?_⟩
      (push_cast [shr,shr1,noO,ite_true,i1,i2,i3,n1,s1,s2,e,lz,c0,decide_false]) <;> (try rfl)
  · have e : eqD (.bl false) (.bl true) = some (.bl false):=rfl;rw [Yk fun z => by cases z.1];refine .inl ⟨_,~~~(.int r),rfl, ?_⟩;cases hi with
    | none =>
     have j : Jp (enS none) .non = some (.bl true):=rfl
     (push_cast [shr,shr1,noO,ite_true,i1,i2,i3,n1,s1,s2,e,lz,j,shH,enS]) <;> (try rfl)
    | some h =>
     have j : Jp (enS (some h)) .non = some (.bl false):=rfl;have lt : ltD (.int r) (enS (some h)) = some (.bl (decide (r < h))):=rfl;by_cases c0 : r < h
     · have c1 : ¬ h ≤ r:=by omega
       (push_cast [shr,shr1,noO,ite_true,i1,i2,i3,n1,s1,s2,e,lz,j,lt,c0,c1,shH,decide_true,decide_false]) <;> (try rfl)
     · have c1 : h ≤ r:=by omega
       (push_cast [shr,shr1,noO,ite_true,i1,i2,i3,n1,s1,s2,e,lz,j,lt,c0,c1,shH,decide_true,decide_false]) <;> (try rfl)
  · have e : eqD (.bl true) (.bl false) = some (.bl false):=rfl;rw [Yk fun z => by cases z.1];refine .inl ⟨_,~~~(.int r),rfl, ?_⟩;cases lo with
    | none =>
     have j : Jp (enS none) .non = some (.bl true):=rfl
     (push_cast [shr,shr1,noO,ite_true,i1,i2,i3,n1,s1,s2,e,lz,j,ng,shL,enS]) <;> (try rfl)
    | some h =>
     have j : Jp (enS (some h)) .non = some (.bl false):=rfl;have lt : gtD (.int (-r)) (enS (some h)) = some (.bl (decide (-r > h))):=rfl;by_cases c0 : -r > h
     · have c1 : ¬ -r ≤ h:=by omega
       (push_cast [shr,shr1,noO,ite_true,i1,i2,i3,n1,s1,s2,e,lz,j,ng,lt,c0,c1,shL,decide_true,decide_false]) <;> (try rfl)
     · have c1 : -r ≤ h:=by omega
       (push_cast [shr,shr1,noO,ite_true,i1,i2,i3,n1,s1,s2,e,lz,j,ng,lt,c0,c1,shL,decide_true,decide_false]) <;> (try rfl)
  · have e : eqD (.bl true) (.bl true) = some (.bl true):=rfl;by_cases c0 : r < 0
    · rw [Yj ⟨rfl,c0⟩];refine .inr ⟨rfl,Zil ?_⟩
      (push_cast [ZfK,shr,shr1,noO,ite_true,i1,i2,i3,n1,s1,s2,e,lz,c0,decide_true]) <;> (try rfl)
    · rw [Yk fun z => c0 z.2];refine .inl ⟨_,~~~(.int r),rfl, ?_⟩
      (push_cast [shr,shr1,noO,ite_true,i1,i2,i3,n1,s1,s2,e,lz,c0,decide_false]) <;> (try rfl)
theorem Z8k {α β : Type} {emb : α → D} {S : β → Nv → Prop} {st : β → α → Option β} {asg : D → Nv → Option Nv} {body : G} {p : Ent} : ∀ {l : List α},(∀ x ∈ l,∀ t E,S t E → ∃ E1,asg (emb x) E = some E1 ∧ ((∃ y E2,st t x = some y ∧ body E1 = .nx E2 ∧ S y E2) ∨ (st t x = none ∧ ∃ E2,body E1 = .rt p E2))) → ∀ {t : β} {E : Nv},S t E →
    (∃ y E',Z3B st l t = some y ∧ Z1i asg body (l.map emb) E = .nx E' ∧ S y E') ∨ (Z3B st l t = none ∧ ∃ E',Z1i asg body (l.map emb) E = .rt p E')
 | [],_,t,E,s => .inl ⟨t,E,rfl,rfl,s⟩
 | x :: l,h,t,E,s => by
  obtain ⟨E1,a,⟨y,E2,e,b,s2⟩ | ⟨e,E2,b⟩⟩:=h x Ya t E s
  · rw [List.map_cons,Zd a b];unfold Z3B;rw [e];exact Z8k (l:=l) (fun y m => h y (Yb _ m)) s2
  · rw [List.map_cons,ZeD a b];unfold Z3B;rw [e];exact .inr ⟨rfl,E2,rfl⟩
def pr3 (p : I3) : D:=.tup [.tup [iD p.1,.bl p.2.1],.int p.2.2]
theorem ZfL (l : List I3) : itmX (ldI l) = some (l.map pr3):=by
 have key : ∀ l : List I3,Z8H (l.map fun p => D.tup [iD p.1,.bl p.2.1]) (l.map fun p => .int p.2.2) = l.map pr3:=by
  intro l
  induction l with
  | nil => rfl
  | cons p l ih =>
   rw [List.map_cons,List.map_cons,List.map_cons,← ih];rfl
 show some (Z8H _ _) = _;rw [key]
section
variable {n : Nat} {f : Tp} {B O K FL : D} {F C : List I3}
theorem Zjg {p : I3} {x : LH} (hp : p.1 < n) (hC : ∀ q ∈ C,q.1 < n) (s11 s12 s13 s14 : Option Ent) : (∃ y t11 t12 t13 t14,Z3B (stp (bwF f) p) C x = some y ∧ Z19 (SBv B O K (.lst (tPw n f)) FL (ldI C) x (~~~(iD p.1)) (~~~(.bl p.2.1)) (~~~(.int p.2.2)) s11 s12 s13 s14) = .nx (SBv B O K (.lst (tPw n f)) FL (ldI C) y (~~~(iD p.1)) (~~~(.bl p.2.1)) (~~~(.int p.2.2)) t11 t12 t13 t14))
    ∨ (Z3B (stp (bwF f) p) C x = none ∧ ∃ E',Z19 (SBv B O K (.lst (tPw n f)) FL (ldI C) x (~~~(iD p.1)) (~~~(.bl p.2.1)) (~~~(.int p.2.2)) s11 s12 s13 s14) = .rt (.sh,.non) E'):=by
 have hi:=ZfL C;have un : ∀ (x : LH) (s11 s12 s13 s14 : Option Ent),Z19 (SBv B O K (.lst (tPw n f)) FL (ldI C) x (~~~(iD p.1)) (~~~(.bl p.2.1)) (~~~(.int p.2.2)) s11 s12 s13 s14) = Z1i (tgT 2 (tgC (tgT 2 (tgC (Jd 11) (tgC (Jd 12) tgN))) (tgC (Jd 13) tgN))) ZV (C.map pr3) (SBv B O K (.lst (tPw n f)) FL (ldI C) x (~~~(iD p.1)) (~~~(.bl p.2.1)) (~~~(.int p.2.2)) s11 s12 s13 s14):=by
  intro x s11 s12 s13 s14;unfold Z19 SBv;generalize ldI C = CL at *
  push_cast [Zdq,hi]
 rw [un];rcases Z8k (l:=C) (emb:=pr3) (S:=fun y E => ∃ s11 s12 s13 s14,E = SBv B O K (.lst (tPw n f)) FL (ldI C) y (~~~(iD p.1)) (~~~(.bl p.2.1)) (~~~(.int p.2.2)) s11 s12 s13 s14) (st:=stp (bwF f) p) (asg:=tgT 2 (tgC (tgT 2 (tgC (Jd 11) (tgC (Jd 12) tgN))) (tgC (Jd 13) tgN))) (body:=ZV) (p:=(.sh,.non)) (fun q mq t E s => by
  obtain ⟨s11,s12,s13,s14,rfl⟩:=s;refine ⟨SBv B O K (.lst (tPw n f)) FL (ldI C) t (~~~(iD p.1)) (~~~(.bl p.2.1)) (~~~(.int p.2.2)) (~~~(iD q.1)) (~~~(.bl q.2.1)) (~~~(.int q.2.2)) s14,rfl, ?_⟩;rcases Zjf (n:=n) (f:=f) (B:=B) (O:=O) (K:=K) (FL:=FL) (CL:=ldI C) (x:=t) hp (hC q mq) s14 with ⟨y,s,e,b⟩ | ⟨e,E',b⟩
  · exact .inl ⟨y,_,e,b,_,_,_,_,rfl⟩
  · exact .inr ⟨e,E',b⟩) ⟨s11,s12,s13,s14,rfl⟩ with ⟨y,E',e,l,t11,t12,t13,t14,rfl⟩ | ⟨e,E',l⟩
 · exact .inl ⟨y,t11,t12,t13,t14,e,l⟩
 · exact .inr ⟨e,E',l⟩
theorem Zjh {x : LH} (hF : ∀ p ∈ F,p.1 < n) (hC : ∀ q ∈ C,q.1 < n) : (∃ y t8 t9 t10 t11 t12 t13 t14,Z3B (fun x p => Z3B (stp (bwF f) p) C x) F x = some y ∧ ZE (SBv B O K (.lst (tPw n f)) (ldI F) (ldI C) x none none none none none none none) = .nx (SBv B O K (.lst (tPw n f)) (ldI F) (ldI C) y t8 t9 t10 t11 t12 t13 t14))
    ∨ (Z3B (fun x p => Z3B (stp (bwF f) p) C x) F x = none ∧ ∃ E',ZE (SBv B O K (.lst (tPw n f)) (ldI F) (ldI C) x none none none none none none none) = .rt (.sh,.non) E'):=by
 have hi:=ZfL F;have un : ZE (SBv B O K (.lst (tPw n f)) (ldI F) (ldI C) x none none none none none none none) = Z1i (tgT 2 (tgC (tgT 2 (tgC (Jd 8) (tgC (Jd 9) tgN))) (tgC (Jd 10) tgN))) Z2b (F.map pr3) (SBv B O K (.lst (tPw n f)) (ldI F) (ldI C) x none none none none none none none):=by
  unfold ZE SBv;generalize ldI F = FL at *;generalize ldI C = CL at *
  push_cast [Zdq,hi]
 rw [un];rcases Z8k (l:=F) (emb:=pr3) (S:=fun y E => ∃ s8 s9 s10 s11 s12 s13 s14,E = SBv B O K (.lst (tPw n f)) (ldI F) (ldI C) y s8 s9 s10 s11 s12 s13 s14) (st:=fun x p => Z3B (stp (bwF f) p) C x) (asg:=tgT 2 (tgC (tgT 2 (tgC (Jd 8) (tgC (Jd 9) tgN))) (tgC (Jd 10) tgN))) (body:=Z2b) (p:=(.sh,.non)) (fun p mp t E s => by
  obtain ⟨s8,s9,s10,s11,s12,s13,s14,rfl⟩:=s;refine ⟨SBv B O K (.lst (tPw n f)) (ldI F) (ldI C) t (~~~(iD p.1)) (~~~(.bl p.2.1)) (~~~(.int p.2.2)) s11 s12 s13 s14,rfl, ?_⟩;rcases Zjg (n:=n) (f:=f) (B:=B) (O:=O) (K:=K) (FL:=ldI F) (C:=C) (x:=t) (hF p mp) hC s11 s12 s13 s14 with ⟨y,t11,t12,t13,t14,e,b⟩ | ⟨e,E',b⟩
  · exact .inl ⟨y,_,e,b,_,_,_,_,_,_,_,rfl⟩
  · exact .inr ⟨e,E',b⟩) ⟨none,none,none,none,none,none,none,rfl⟩ with ⟨y,E',e,l,t8,t9,t10,t11,t12,t13,t14,rfl⟩ | ⟨e,E',l⟩
 · exact .inl ⟨y,t8,t9,t10,t11,t12,t13,t14,e,l⟩
 · exact .inr ⟨e,E',l⟩
end
theorem Z5A {b : Bk} (h : BkO b) {f : Tp} {O : D} {μ : Nat → Bool} (hO : OsO O μ) {ks : List Bool} (hk : ks.length = b.wi) : ∃ R,Z1R [(.sh,b.d),(.sh,O),(.sh,kdD ks),(.sh,.lst (tPw b.ev f))] = .ok (.sh,lhD (stR (bwF f) (Z5R mxI (FI b μ (kap ks))) (Z5R mnI (CI b μ (kap ks))))) R:=by
 obtain ⟨R1,e1⟩:=Z9d h hO hk;obtain ⟨R2,e2⟩:=ZfJ h hO hk;have S:=ZfD h μ (kap ks);have hF : ∀ p ∈ Z5R mxI (FI b μ (kap ks)),p.1 < b.ev:=ZaA S.fo;have hC : ∀ p ∈ Z5R mnI (CI b μ (kap ks)),p.1 < b.ev:=ZaA S.co;generalize Z5R mxI (FI b μ (kap ks)) = F at *;generalize Z5R mnI (CI b μ (kap ks)) = C at *;unfold stR Z1R;rw [Z3W];refine Z9a ?_;rcases Zjh (n:=b.ev) (f:=f) (B:=b.d) (O:=O) (K:=kdD ks) (F:=F) (C:=C) (x:=(none,none)) hF hC with ⟨y,t8,t9,t10,t11,t12,t13,t14,e,l⟩ | ⟨e,E',l⟩
 · rw [e];unfold SBv at l;have l : ZE [~~~b.d,~~~O,~~~(kdD ks),~~~(.lst (tPw b.ev f)),~~~(ldI F),~~~(ldI C),~~~(.non),~~~(.non),none,none,none,none,none,none,none] = _:=l;obtain ⟨lo,hi⟩:=y;generalize D.lst (tPw b.ev f) = T at *;generalize ldI F = FL at *;generalize ldI C = CL at *;cases lo with
   | none =>
    have j : Z3E (enS none) .non = some (.bl false):=rfl
    (push_cast [Z2E,Z2s,e1,e2,l,j,lhD,Option.bind_some]) <;> (try rfl)
   | some u =>
    have j1 : Z3E (enS (some u)) .non = some (.bl true):=rfl;cases hi with
    | none =>
     have j : Z3E (enS none) .non = some (.bl false):=rfl
     (push_cast [Z2E,Z2s,e1,e2,l,j1,j,lhD,Option.bind_some]) <;> (try rfl)
    | some v =>
     have j2 : Z3E (enS (some v)) .non = some (.bl true):=rfl;have gt : gtD (enS (some u)) (enS (some v)) = some (.bl (decide (v < u))):=rfl;by_cases c : v < u
     · (push_cast [Z2E,Z2s,e1,e2,l,j1,j2,gt,c,decide_true,lhD,Option.bind_some,if_true]) <;> (try rfl)
     · (push_cast [Z2E,Z2s,e1,e2,l,j1,j2,gt,c,decide_false,lhD,Option.bind_some,if_false]) <;> (try rfl)
 · rw [e];unfold SBv at l;have l : ZE [~~~b.d,~~~O,~~~(kdD ks),~~~(.lst (tPw b.ev f)),~~~(ldI F),~~~(ldI C),~~~(.non),~~~(.non),none,none,none,none,none,none,none] = _:=l;generalize D.lst (tPw b.ev f) = T at *;generalize ldI F = FL at *;generalize ldI C = CL at *
   (push_cast [Z2E,Z2s,e1,e2,l,lhD,Option.bind_none]) <;> (try rfl)
theorem Z6P {b : Bk} (h : BkO b) {ks : List Bool} (hk : ks.length = b.wi) : ∃ R,Z17 [(.sh,b.d),(.sh,kdD ks)] = .ok (.sh,.bl (clB b (kap ks))) R:=by
 have sz : 2000 ≤ sizeLine:=by decide
 have hc:=h.cn;have hK:=kdO hk;have c0 : Z1p [~~~b.d,~~~(kdD ks),none,none,none,none] = .ok (.l .sh,.lst (b.cla.map fun c => D.bl (Z5y (kap ks) c))) [~~~b.d,~~~(kdD ks),none,none,none,none]:=by
  unfold Z1p;refine ZgY (l:=b.cla) (emb:=Cl.d) (g:=fun c => D.bl (Z5y (kap ks) c)) (EA:=[~~~b.d,~~~(kdD ks),none,none,none,none]) (E1:=fun c => [~~~b.d,~~~(kdD ks),~~~(iD c.w),~~~(.str (kiS c.k)),~~~(iD c.v),~~~(.str (kiS c.l))]) (by (push_cast [Bk.d]) <;> (try rfl)) rfl (fun t m => ⟨rfl, ?_,rfl⟩) (by omega);have a1:=hK _ (h.c t m).1;have a2:=hK _ (h.c t m).2;unfold Z5y;by_cases c : kap ks t.w = t.k
  · (push_cast [iD,a1,a2,c]) <;> (try rfl)
  · (push_cast [iD,a1,a2,c]) <;> (try rfl)
 have al : allD [.lst (b.cla.map fun c => D.bl (Z5y (kap ks) c))] = some (.bl (clB b (kap ks))):=by
  have:=ZeO (b.cla.map (Z5y (kap ks)));rw [List.map_map] at this;refine this.trans ?_;unfold clB;rw [List.all_map];rfl
 unfold Z17;rw [Z2p];refine Z9a ?_;generalize D.lst (b.cla.map fun c => D.bl (Z5y (kap ks) c)) = L at *
 (push_cast [Z2E,c0,al]) <;> (try rfl)
theorem ZfM {b : Bk} (h : BkO b) {w : List Nat} (e : Z2Y b.ev b.gap = .error w) (μ κ : Nat → Bool) : okS (b.ev + 1) (edO b μ κ) = false:=by
 cases c : okS (b.ev + 1) (edO b μ κ) with
 | false => rfl
 | true =>
  have np:=ZbW (ZfD h μ κ) c;obtain ⟨_,a,_,w1,w2⟩:=ZeY h e;have:=np a _ ⟨w,w1,rfl⟩;omega
theorem Z8l {b : Bk} (h : BkO b) {O : D} {μ : Nat → Bool} (hO : OsO O μ) {ks : List Bool} (hk : ks.length = b.wi) : ∃ R,ZM [(.sh,b.d),(.sh,O),(.sh,kdD ks)] = .ok (.sh,lhD (two b μ (kap ks))) R:=by
 obtain ⟨r1,r2⟩:=Zfk h;obtain ⟨R2,kc⟩:=Z6P h hk;unfold ZM Z2r two;refine Z9a ?_;cases z : Z2Y b.ev b.gap with
 | error w =>
  obtain ⟨R1,e1⟩:=r2 w z;have nn : Z3E (.tup (w.map iD)) .non = some (.bl true):=rfl;have lr : (if clB b (kap ks) = true then lawR b.ev (edO b μ (kap ks)) else none) = none:=by
   unfold lawR;rw [ZfM h z]
   split <;> rfl
  rw [lr];generalize D.tup (w.map iD) = WD at *
  (push_cast [Z2E,e1,nn,lhD]) <;> (try rfl)
 | ok f =>
  obtain ⟨R1,e1⟩:=r1 f z;have nn : Z3E .non .non = some (.bl false):=rfl;cases c : clB b (kap ks) with
  | false =>
   rw [c] at kc
   (push_cast [Z2E,e1,nn,kc,lhD]) <;> (try rfl)
  | true =>
   rw [c] at kc;obtain ⟨R3,e3⟩:=(Zfb h).1 f z;obtain ⟨R4,e4⟩:=Z5A h (f:=f) hO hk;rw [Zhu (ws_f h z) (Zfx h z) (ZfD h μ (kap ks)) (Zc1 _) (Zc2 _)] at e4;rw [Yj rfl];generalize D.lst (tPw b.ev f) = T at *
   (push_cast [Z2E,e1,nn,kc,e3,e4]) <;> (try rfl)
theorem Zhx (B : Bg) {wi : Nat} (h : wi ≤ 8) : ∃ (B2 : Bg) (ws : List Nat) (O : Nv),Z2S [(.l .sh,.lst B.1),(.sh,.int (wi : Nat))] = .ok (.l .sh,.lst (ws.map iD)) (some (.l .sh,.lst B2.1) :: O) ∧ (∀ w ∈ ws,w < wi) ∧ ws.length ≤ 8:=by
 have sz : 2000 ≤ sizeLine:=by decide
 have r:=Z2D wi (by omega);obtain ⟨ws,E',e,⟨B2,rfl⟩,m,n⟩:=ZiJ (emb:=iD) (g:=iD) (l:=List.range wi) (f0:=rg1 (Ja (rd 1) (Zr []))) (asg:=Jd 2) (cond:=cmB eqD (shM (Jc Z3 [some 0,none] [] (ioM 0 (Ja (Zr (.int 2)) (Zr []))))) (Zr (.int 1))) (elt:=rd 2) (vs:=[2])
  (I:=fun E => ∃ B2 : Bg,E = [some (.l .sh,.lst B2.1),~~~(.int (wi : Nat)),none]) (E:=[some (.l .sh,.lst B.1),~~~(.int (wi : Nat)),none]) (EA:=[some (.l .sh,.lst B.1),~~~(.int (wi : Nat)),none])
  (by (push_cast [r]) <;> (try rfl)) ⟨B,rfl⟩ (by
   rintro x - E ⟨B2,rfl⟩
   refine ⟨[some (.l .sh,.lst B2.1),~~~(.int (wi : Nat)),~~~(iD x)],rfl, ?_⟩;obtain ⟨B3,k,O,e,hk⟩:=ZeM B2 (m:=2) (by decide) (by decide);by_cases c : (k : Int) = 1
   · right;refine ⟨[some (.l .sh,.lst B3.1),~~~(.int (wi : Nat)),~~~(iD x)],[some (.l .sh,.lst B3.1),~~~(.int (wi : Nat)),~~~(iD x)], ?_, ?_,B3,rfl⟩
     · (push_cast [e,c]) <;> (try rfl)
     · (push_cast []) <;> (try rfl)
   · left;refine ⟨[some (.l .sh,.lst B3.1),~~~(.int (wi : Nat)),~~~(iD x)], ?_,B3,rfl⟩
     (push_cast [e,c]) <;> (try rfl)) (by rw [Ys];omega)
 refine ⟨B2,ws,[~~~(.int (wi : Nat)),none], ?_,fun w hw => List.mem_range.mp (m w hw),by rw [Ys] at n;omega⟩;unfold Z2S Z6h
 (push_cast [e]) <;> (try rfl)
theorem Zhy {b : Bk} (h : BkO b) {μ κ : Nat → Bool} : (∀ p ∈ FI b μ κ,p.1 < b.ev ∧ Big p.2.2) ∧ ∀ p ∈ CI b μ κ,p.1 < b.ev ∧ Big p.2.2:=by
 constructor
 · intro p m;rcases Yd.mp m with m | m
   · obtain ⟨t,mt,rfl⟩:=Ye.mp m;exact h.s t (List.mem_filter.mp mt).1
   · obtain ⟨t,mt,rfl⟩:=Ye.mp m;exact (h.t t (List.mem_filter.mp mt).1).2
 · intro p m;rcases Yd.mp m with m | m
   · obtain ⟨t,mt,rfl⟩:=Ye.mp m;exact h.s t (List.mem_filter.mp mt).1
   · obtain ⟨t,mt,rfl⟩:=Ye.mp m;exact (h.t t (List.mem_filter.mp mt).1).2
theorem ZfN {b : Bk} (h : BkO b) {μ κ : Nat → Bool} {y : LH} (e : two b μ κ = some y) : ∀ x,y.1 = some x ∨ y.2 = some x → x.natAbs ≤ 4000000000000000000:=by
 unfold two at e
 split at e
 case isFalse => cases e
 unfold lawR at e
 split at e
 case isFalse => cases e
 rename_i k;cases e;cases z : Z2Y b.ev b.gap with
 | error w => rw [ZfM h z] at k;cases k
 | ok f =>
  have W:=ws_f h z;have np:=Zfx h z;have S:=ZfD h μ κ;obtain ⟨bf,bc⟩:=Zhy h (μ:=μ) (κ:=κ);intro x hx;rcases hx with hx | hx
  · have hl : shL (Z1f (b.ev + 1) (edO b μ κ) (b.ev + 1) b.ev) x = true:=by
      have hx : Z1f (b.ev + 1) (edO b μ κ) (b.ev + 1) b.ev = some x:=hx;rw [hx];exact Yp (Int.le_refl _)
    obtain ⟨p,mp,q,mq,w,ew,a,c,l⟩:=(ZbU W np S k x).mp hl;have h2:=(ZbU W np S k _).mpr ⟨p,mp,q,mq,w,ew,a,c,Int.le_refl _⟩;have hx : Z1f (b.ev + 1) (edO b μ κ) (b.ev + 1) b.ev = some x:=hx;rw [hx] at h2;have h2 : -(q.2.2 - p.2.2 - w) ≤ x:=Yq h2;have h3:=Zfs h z ew;have h4:=(bf p mp).2;have h5:=(bc q mq).2;unfold Big at h4 h5;omega
  · have hx : (Z1f (b.ev + 1) (edO b μ κ) b.ev (b.ev + 1)).map (fun x => 0 - x) = some x:=hx;cases hu : Z1f (b.ev + 1) (edO b μ κ) b.ev (b.ev + 1) with
    | none => rw [hu] at hx;cases hx
    | some u =>
     rw [hu] at hx;cases hx;have hl : shL (Z1f (b.ev + 1) (edO b μ κ) b.ev (b.ev + 1)) u = true:=by
      rw [hu];exact Yp (Int.le_refl _)
     obtain ⟨p,mp,q,mq,w,ew,a,c,l⟩:=(ZbV W np S k u).mp hl;have h2:=(ZbV W np S k (-(q.2.2 - p.2.2 - w))).mpr (by rw [Int.neg_neg];exact ⟨p,mp,q,mq,w,ew,a,c,Int.le_refl _⟩);rw [hu] at h2;have h2 : -(q.2.2 - p.2.2 - w) ≤ u:=Yq h2;have h3:=Zfs h z ew;have h4:=(bf p mp).2;have h5:=(bc q mq).2;unfold Big at h4 h5;show (0 - u).natAbs ≤ _;omega
theorem Zhz {b : Bk} (h : BkO b) {μ κ : Nat → Bool} : Th 1 2 (lhD (two b μ κ)):=by
 cases e : two b μ κ with
 | none => exact Zbr.up (by decide) (by decide)
 | some y => exact Zja (p:=y) (ZfN h e)
end Kn
namespace Gk
open PySem PySem.Spec PyProof.Rows L2 Dl Lb Kf Kn
def GpF (ev : Nat) (t : Gp) : Prop:=t.a < ev ∧ t.b < ev ∧ t.a ≠ t.b ∧ -4 ≤ t.g ∧ t.g ≤ 4
def farG (t : Gp) : Gp:=⟨t.a,t.b,t.g * 200000000000⟩
theorem ZhA (B : Bg) {ev : Nat} {l : List Gp} (h : ∀ t ∈ l,GpF ev t) (z : l.length ≤ 20) : ∃ (B2 : Bg) (t : Ow) (l' : List Gp) (O : Nv),m_law_far_gaps [(.l .sh,.lst B.1),(.sh,.lst (l.map Gp.d))] = .ok (t,.lst (l'.map Gp.d)) (some (.l .sh,.lst B2.1) :: O) ∧ (∀ u ∈ l',GpOk ev u) ∧ l'.length ≤ 21:=by
 have sz : 2000 ≤ sizeLine:=by decide
 obtain ⟨B1,k,O1,e1,hk⟩:=ZeM B (m:=6) (by decide) (by decide);unfold m_law_far_gaps;rw [g_law_far_gaps];by_cases c : (k : Int) < 5
 · refine ⟨B1,.sh,l,[~~~(.lst (l.map Gp.d)),none,none,none,none], ?_,fun u m => ?_,by omega⟩
   · (push_cast [e1,c,decide_true]) <;> (try rfl)
   · obtain ⟨h1,h2,h3,h4,h5⟩:=h u m;exact ⟨h1,h2,h3,by constructor <;> omega⟩
 · have c0 : ∀ (B1 : Bg) (L0 LF : D),L0 = .lst (l.map Gp.d) → LF = .lst ((l.map farG).map Gp.d) → c0_law_far_gaps [some (.l .sh,.lst B1.1),~~~L0,none,none,none,none] = .ok (.l .sh,LF) [some (.l .sh,.lst B1.1),~~~L0,none,none,none,none]:=by
     rintro B1 L0 LF rfl rfl
     unfold c0_law_far_gaps;rw [List.map_map];exact ZgY (l:=l) (emb:=Gp.d) (g:=fun t => (farG t).d) (EA:=[some (.l .sh,.lst B1.1),~~~(.lst (l.map Gp.d)),none,none,none,none]) (E1:=fun t => [some (.l .sh,.lst B1.1),~~~(.lst (l.map Gp.d)),none,~~~(iD t.a),~~~(iD t.b),~~~(.int t.g)]) (by (push_cast []) <;> (try rfl)) rfl (fun t m => ⟨rfl,(by
      have mu : J0 (.int t.g) (.int 200000000000) = some (.int (t.g * 200000000000)):=mulR (by have:=h t m;unfold GpF at this;omega)
      (push_cast [mu,iD,farG,Gp.d]) <;> (try rfl)),rfl⟩) (by omega)
   have fo : ∀ u ∈ l.map farG,GpOk ev u:=fun u m => by
    obtain ⟨t,mt,rfl⟩:=Ye.mp m;obtain ⟨h1,h2,h3,h4,h5⟩:=h t mt;exact ⟨h1,h2,h3,by show Big (t.g * 200000000000);constructor <;> omega⟩
   cases l with
   | nil =>
    have sl : (Zd7 (slO (rd 2) (Zr none) (ixp (Zr (.int 1))))) [some (.l .sh,.lst B1.1),~~~(.lst []),some (.l .sh,.lst []),none,none,none] = .ok (.l .sh,.lst []) [some (.l .sh,.lst B1.1),~~~(.lst []),some (.l .sh,.lst []),none,none,none]:=rfl;have c0':=c0 B1 (.lst []) (.lst []) rfl rfl;refine ⟨B1,.l .sh,[],[~~~(.lst []),none,none,none,none], ?_,fun u m => (by cases m),by decide⟩;unfold l0_law_far_gaps
    (push_cast [e1,c,decide_false,c0',sl,Z7R,ZeH]) <;> (try rfl)
   | cons t r =>
    obtain ⟨B2,x,O2,e2,hx⟩:=oneL B1 (xs:=[.int 0,.int 1,.int 7,.int 100000000000]) (by decide) (by decide);obtain ⟨y,rfl,hy1,hy2⟩ : ∃ y : Int,x = .int y ∧ 0 ≤ y ∧ y ≤ 100000000000:=by
     simp only [Yc,List.not_mem_nil,or_false] at hx;rcases hx with rfl | rfl | rfl | rfl
     · exact ⟨0,rfl,by decide,by decide⟩
     · exact ⟨1,rfl,by decide,by decide⟩
     · exact ⟨7,rfl,by decide,by decide⟩
     · exact ⟨100000000000,rfl,by decide,by decide⟩
    have sl : ∀ L0 : List D,(Zd7 (slO (rd 2) (Zr none) (ixp (Zr (.int 1))))) [some (.l .sh,.lst B1.1),~~~(.lst L0),some (.l .sh,.lst (((t :: r).map farG).map Gp.d)),none,none,none] = .ok (.l .sh,.lst [(farG t).d]) [some (.l .sh,.lst B1.1),~~~(.lst L0),some (.l .sh,.lst (((t :: r).map farG).map Gp.d)),none,none,none]:=fun _ => rfl;have ht:=h t Ya;have zz : (((t :: r).map farG).map Gp.d).length ≤ 20:=by rw [Yi,Yi];exact z
    have fd : (farG t).d = .tup [iD t.a,iD t.b,.int (t.g * 200000000000)]:=rfl;have c0':=c0 B1 _ _ rfl rfl;refine ⟨B2,.l .sh,(t :: r).map farG ++ [⟨t.b,t.a,0 - t.g * 200000000000 - y⟩],[~~~(.lst ((t :: r).map Gp.d)),none,~~~(iD t.a),~~~(iD t.b),~~~(.int (t.g * 200000000000))], ?_,fun u m => ?_,by rw [Yh,Yi,Yr];omega⟩
    · rw [List.map_append];clear c0 fo;generalize ((t :: r).map farG).map Gp.d = L at *;generalize (t :: r).map Gp.d = L0 at *;generalize t.g * 200000000000 = gg at *;have lp : Z1i (tgT 3 (tgC (Jd 3) (tgC (Jd 4) (tgC (Jd 5) tgN)))) b0_law_far_gaps [(farG t).d] [some (.l .sh,.lst B1.1),~~~(.lst L0),some (.l .sh,.lst L),none,none,none] = .nx [some (.l .sh,.lst B2.1),~~~(.lst L0),some (.l .sh,.lst (L ++ [Gp.d ⟨t.b,t.a,0 - gg - y⟩])),~~~(iD t.a),~~~(iD t.b),~~~(.int gg)]:=by
       rw [fd,Zd (E1:=[some (.l .sh,.lst B1.1),~~~(.lst L0),some (.l .sh,.lst L),~~~(iD t.a),~~~(iD t.b),~~~(.int gg)]) (E2:=[some (.l .sh,.lst B2.1),~~~(.lst L0),some (.l .sh,.lst (L ++ [Gp.d ⟨t.b,t.a,0 - gg - y⟩])),~~~(iD t.a),~~~(iD t.b),~~~(.int gg)]) rfl]
       · rfl
       · unfold b0_law_far_gaps;have s1 : Jt (.int 0) (.int gg) = some (.int (0 - gg)):=rfl;have s2 : Jt (.int (0 - gg)) (.int y) = some (.int (0 - gg - y)):=rfl
         (push_cast [s1,s2,e2,Z4x,Z6M,Z6N,Lb.Z7S,Z5x,Gp.d,iD]) <;> (try rfl)
      generalize hFD : (farG t).d = FD at *;unfold l0_law_far_gaps
      (push_cast [e1,c,decide_false,c0',sl,lp,Z7R,ZeH]) <;> (try rfl)
    · rcases Yd.mp m with m | m
      · exact fo u m
      · cases Yg.mp m;obtain ⟨h1,h2,h3,h4,h5⟩:=ht;exact ⟨h2,h1,fun z => h3 z.symm,by show Big (0 - t.g * 200000000000 - y);constructor <;> omega⟩
theorem Zc3 {b : Bk} (h : BkO b) : m_law_book [(.sh,.int (b.ev : Nat)),(.sh,.int (b.wi : Nat)),(.sh,.lst b.l)] = .ok (.o,b.d) [~~~(.int (b.ev : Nat)),~~~(.int (b.wi : Nat)),~~~(.lst b.l)]:=by
 have mk : ∀ E,Z8w ZT "Book" [none,none,none,none,none,none] [.int (b.ev : Nat),.int (b.wi : Nat),.lst (b.tel.map Tl.d),.lst (b.gap.map Gp.d),.lst (b.sur.map Sr.d),.lst (b.cla.map Cl.d)] E = .ok (.o,b.d) E:=fun E => Zep (b:=b) h (.inl rfl) (.inl rfl) (.inl rfl) (.inl rfl);unfold m_law_book g_law_book
 (push_cast [mk]) <;> (try rfl)
def E72 (s0 : Option Ent) (B : Bg) (s2 : Option Ent) (b : Bk) (os rs : List Nat) (s9 s10 s11 s12 s13 s14 : Option Ent) : Nv:=[s0,some (.l .sh,.lst B.1),s2,~~~(iD b.ev),~~~(iD b.wi),~~~(.lst b.l),~~~b.d,~~~(.lst (os.map iD)),~~~(.lst (rs.map iD)),s9,s10,s11,s12,s13,s14]
theorem Zji {b : Bk} (h : BkO b) {os : List Nat} (ho : ∀ w ∈ os,w < b.wi) (hl : os.length ≤ 8) {ks : List Bool} (hk : ks.length = b.wi) (s0 s1 s2 s7 s8 s11 s12 s13 s14 : Option Ent) : ∃ t11 t12 t13,Z6J [s0,s1,s2,~~~(iD b.ev),~~~(iD b.wi),~~~(.lst b.l),~~~b.d,s7,s8,~~~(kdD ks),~~~(.lst (os.map iD)),s11,s12,s13,s14]
    = .nx [s0,s1,s2,~~~(iD b.ev),~~~(iD b.wi),~~~(.lst b.l),~~~b.d,s7,s8,~~~(kdD ks),~~~(.lst (os.map iD)),t11,t12,t13,s14]:=by
 have sz : 2000 ≤ sizeLine:=by decide
 have o1 : OsO (.lst (os.map iD)) (fun i => decide (i ∈ os)):=fun i => Z7W i os;have o2 : OsO (.tup (os.map iD)) (fun i => decide (i ∈ os)):=fun i => Zby i os;obtain ⟨R1,e1⟩:=Z8g h (pq_l b) o1 hk;obtain ⟨R2,e2⟩:=Z8l h o1 hk;obtain ⟨R3,e3⟩:=Z8l h o2 hk;have e1 : ZD [(.sh,iD b.ev),(.sh,.lst b.l),(.sh,.lst (os.map iD)),(.sh,kdD ks)] = _:=e1;have th:=Zhz h (μ:=fun i => decide (i ∈ os)) (κ:=kap ks);generalize lhD (two b (fun i => decide (i ∈ os)) (kap ks)) = A at *;have li : ZcK [.lst (os.map iD)] = some (.lst (os.map iD)):=rfl;have ti : Z2h [.lst (os.map iD)] = some (.tup (os.map iD)):=rfl;have tho : Th 2 200 (.lst (os.map iD)):=(ZgT (Zab (k:=0) (n:=0) fun i m => th_n (by have:=ho i m;have:=h.w8;omega))).up (by decide) (by omega);have ne:=Zet tho (by decide);have rp:=Zes (Z44 (ZH th (Z2V th))) (by decide) (by decide);have nst:=neSt (rpS (.tup [A,A]));refine ⟨~~~A,~~~(.lst (os.map iD)),~~~(.tup [A,A]), ?_⟩;unfold Z6J;generalize D.lst b.l = BL at *;generalize b.d = BD at *;generalize kdD ks = KD at *;generalize D.lst (os.map iD) = OL at *;generalize D.tup (os.map iD) = OT at *;generalize iD b.ev = EV at *;generalize iD b.wi = WI at *
 (push_cast [Z2s,e1,li,e2,ti,e3,rp,nst,ne]) <;> (try rfl)
theorem Zjj {b : Bk} (h : BkO b) {os rs : List Nat} (ho : ∀ w ∈ os,w < b.wi) (hl : os.length ≤ 8) (hr : ∀ w ∈ rs,w < b.wi) (hrl : rs.length ≤ 8) {ks : List Bool} (hk : ks.length = b.wi) (s0 : Option Ent) (B : Bg) (s2 s10 s11 s12 s13 s14 : Option Ent) : ∃ t10 t11 t12 t13 t14,Z8X (E72 s0 B s2 b os rs (~~~(kdD ks)) s10 s11 s12 s13 s14) = .nx (E72 s0 B s2 b os rs (~~~(kdD ks)) t10 t11 t12 t13 t14):=by
 have un : Z8X (E72 s0 B s2 b os rs (~~~(kdD ks)) s10 s11 s12 s13 s14) = Z1i (Jd 10) Z6J [.lst (os.map iD),.lst (rs.map iD),.lst (os.map iD)] (E72 s0 B s2 b os rs (~~~(kdD ks)) s10 s11 s12 s13 s14):=by
  have sz : 2000 ≤ sizeLine:=by decide
  unfold Z8X E72
  push_cast []
 rw [un];obtain ⟨E',e,t10,t11,t12,t13,t14,rfl⟩:=Z4S (I:=fun E => ∃ s10 s11 s12 s13 s14,E = E72 s0 B s2 b os rs (~~~(kdD ks)) s10 s11 s12 s13 s14) (asg:=Jd 10) (body:=Z6J) (ds:=[.lst (os.map iD),.lst (rs.map iD),.lst (os.map iD)]) ⟨s10,s11,s12,s13,s14,rfl⟩ (fun d md E i => by
  obtain ⟨s10,s11,s12,s13,s14,rfl⟩:=i;have one : ∀ {qs : List Nat},(∀ w ∈ qs,w < b.wi) → qs.length ≤ 8 → ∃ E1,Jd 10 (.lst (qs.map iD)) (E72 s0 B s2 b os rs (~~~(kdD ks)) s10 s11 s12 s13 s14) = some E1 ∧ Wp (nxQ fun E => ∃ s10 s11 s12 s13 s14,E = E72 s0 B s2 b os rs (~~~(kdD ks)) s10 s11 s12 s13 s14) (Z6J E1):=fun {qs} hq hql => by
   obtain ⟨t11,t12,t13,e⟩:=Zji h hq hql hk s0 (some (.l .sh,.lst B.1)) s2 (~~~(.lst (os.map iD))) (~~~(.lst (rs.map iD))) s11 s12 s13 s14;refine ⟨_,rfl,_,e,_,_,_,_,_,rfl⟩
  simp only [Yc,List.not_mem_nil,or_false] at md;rcases md with rfl | rfl | rfl
  · exact one ho hl
  · exact one hr hrl
  · exact one ho hl)
 exact ⟨t10,t11,t12,t13,t14,e⟩
theorem l1_ok {b : Bk} (h : BkO b) {os rs : List Nat} (ho : ∀ w ∈ os,w < b.wi) (hl : os.length ≤ 8) (hr : ∀ w ∈ rs,w < b.wi) (hrl : rs.length ≤ 8) (s0 : Option Ent) (B : Bg) (s2 s9 s10 s11 s12 s13 s14 : Option Ent) : ∃ t9 t10 t11 t12 t13 t14,Z8Y (E72 s0 B s2 b os rs s9 s10 s11 s12 s13 s14) = .nx (E72 s0 B s2 b os rs t9 t10 t11 t12 t13 t14):=by
 obtain ⟨O,ak⟩:=Z49 h.w8;have ak : ZL [(.sh,iD b.wi)] = _:=ak;have un : Z8Y (E72 s0 B s2 b os rs s9 s10 s11 s12 s13 s14) = Z1i (Jd 9) Zbn ((allK b.wi).map kdD) (E72 s0 B s2 b os rs s9 s10 s11 s12 s13 s14):=by
  unfold Z8Y E72;generalize iD b.wi = WI at *
  push_cast [ak]
 rw [un];obtain ⟨E',e,t9,t10,t11,t12,t13,t14,rfl⟩:=Z4S (I:=fun E => ∃ s9 s10 s11 s12 s13 s14,E = E72 s0 B s2 b os rs s9 s10 s11 s12 s13 s14) (asg:=Jd 9) (body:=Zbn) (ds:=(allK b.wi).map kdD) ⟨s9,s10,s11,s12,s13,s14,rfl⟩ (fun d md E i => by
  obtain ⟨s9,s10,s11,s12,s13,s14,rfl⟩:=i;obtain ⟨ks,mk,rfl⟩:=Ye.mp md;obtain ⟨t10,t11,t12,t13,t14,e⟩:=Zjj h ho hl hr hrl (Z4W.mp mk) s0 B s2 s10 s11 s12 s13 s14;exact ⟨_,rfl,_,e,_,_,_,_,_,_,rfl⟩)
 exact ⟨t9,t10,t11,t12,t13,t14,e⟩
structure Bg72 (b : Bk) : Prop where
 o : BkO b
 g : ∀ t ∈ b.gap,GpF b.ev t
 gl : b.gap.length ≤ 20
theorem Zjk (s0 : Option Ent) (B : Bg) (x : Int) {ev wi : Nat} (h1 : ev ≤ 8) (h2 : wi ≤ 6) (s5 s6 s7 s8 s9 s10 s11 s12 s13 s14 : Option Ent) : ∃ (B2 : Bg) (ev' wi' : Nat),ev' ≤ 8 ∧ wi' ≤ 6 ∧ Zbl [s0,some (.l .sh,.lst B.1),~~~(.int x),~~~(iD ev),~~~(iD wi),s5,s6,s7,s8,s9,s10,s11,s12,s13,s14] = .nx [s0,some (.l .sh,.lst B2.1),~~~(.int x),~~~(iD ev'),~~~(iD wi'),s5,s6,s7,s8,s9,s10,s11,s12,s13,s14]:=by
 have sz : 2000 ≤ sizeLine:=by decide
 unfold Zbl;by_cases c : x = 3
 · obtain ⟨B1,k,O1,e1,hk⟩:=ZeM B (m:=4) (by decide) (by decide);by_cases c2 : (k : Int) = 0
   · obtain ⟨B2,y,O2,e2,hy⟩:=oneL B1 (xs:=[.tup [.int 8,.int 2],.tup [.int 1,.int 6]]) (by decide) (by decide);simp only [Yc,List.not_mem_nil,or_false] at hy;rcases hy with rfl | rfl
     · refine ⟨B2,8,2,by decide,by decide, ?_⟩;have d8 : iD 8 = .int 8:=rfl;have d2 : iD 2 = .int 2:=rfl
       (push_cast [c,e1,c2,Z6k,e2,d8,d2]) <;> (try rfl)
     · refine ⟨B2,1,6,by decide,by decide, ?_⟩;have d8 : iD 1 = .int 1:=rfl;have d2 : iD 6 = .int 6:=rfl
       (push_cast [c,e1,c2,Z6k,e2,d8,d2]) <;> (try rfl)
   · refine ⟨B1,ev,wi,h1,h2, ?_⟩
     (push_cast [c,e1,c2]) <;> (try rfl)
 · refine ⟨B,ev,wi,h1,h2, ?_⟩
   (push_cast [c]) <;> (try rfl)
theorem Zjl (s0 : Option Ent) (B : Bg) (s2 : Option Ent) {b : Bk} (h : Bg72 b) (s6 s7 s8 s9 s10 s11 s12 s13 s14 : Option Ent) : ∃ (B2 : Bg) (b' : Bk),Bg72 b' ∧ b'.ev = b.ev ∧ b'.wi = b.wi ∧ Z8W [s0,some (.l .sh,.lst B.1),s2,~~~(iD b.ev),~~~(iD b.wi),some (.l .sh,.lst b.l),s6,s7,s8,s9,s10,s11,s12,s13,s14] = .nx [s0,some (.l .sh,.lst B2.1),s2,~~~(iD b.ev),~~~(iD b.wi),some (.l .sh,.lst b'.l),s6,s7,s8,s9,s10,s11,s12,s13,s14]:=by
 have sz : 2000 ≤ sizeLine:=by decide
 unfold Z8W;obtain ⟨B1,k,O1,e1,hk⟩:=ZeM B (m:=3) (by decide) (by decide);have gt : gtD (.int (k : Nat)) (.int 0) = some (.bl (decide ((k : Int) > 0))):=rfl;by_cases c : (k : Int) > 0
 · obtain ⟨B2,ks,ts,O2,e2,_,_,_⟩:=Zft B1 h.o;refine ⟨B2,Z8c b (kap ks) (tap ts),⟨ZbP h.o _ _,fun t m => h.g t (List.mem_filter.mp m).1,Nat.le_trans (List.length_filter_le _ _) h.gl⟩,rfl,rfl, ?_⟩;have e2 : ZZr [(.l .sh,.lst B1.1),(.sh,iD b.ev),(.sh,iD b.wi),(.sh,.lst b.l)] = _:=e2;generalize iD b.ev = EV at *;generalize iD b.wi = WI at *;generalize b.l = BL at *;have kl : (Z8c b (kap ks) (tap ts)).l = [.lst ((Z8c b (kap ks) (tap ts)).tel.map Tl.d),.lst ((Z8c b (kap ks) (tap ts)).gap.map Gp.d),.lst ((Z8c b (kap ks) (tap ts)).sur.map Sr.d),.lst ((Z8c b (kap ks) (tap ts)).cla.map Cl.d)]:=rfl;generalize (Z8c b (kap ks) (tap ts)).l = KL at *
   (push_cast [e1,gt,c,decide_true,Z1r,Z2C,e2,Z6n,ZhV]) <;> (try rfl)
 · refine ⟨B1,b,h,rfl,rfl, ?_⟩
   (push_cast [e1,gt,c,decide_false]) <;> (try rfl)
def farK (b : Bk) (l : List Gp) : Bk:=⟨b.ev,b.wi,b.tel,l,b.sur,b.cla⟩
theorem Zjm (s0 : Option Ent) (B : Bg) (s2 s3 s4 : Option Ent) {b : Bk} (h : Bg72 b) (s6 s7 s8 s9 s10 s11 s12 s13 s14 : Option Ent) : ∃ (B2 : Bg) (b' : Bk),BkO b' ∧ b'.ev = b.ev ∧ b'.wi = b.wi ∧ Z2i 5 (shM (Jc m_law_far_gaps [some 1,none] [] (ioM 1 (Ja (ixoM 5 (Zr (.int 1))) (Zr []))))) (Zr (.int 1)) [s0,some (.l .sh,.lst B.1),s2,s3,s4,some (.l .sh,.lst b.l),s6,s7,s8,s9,s10,s11,s12,s13,s14] = .nx [s0,some (.l .sh,.lst B2.1),s2,s3,s4,some (.l .sh,.lst b'.l),s6,s7,s8,s9,s10,s11,s12,s13,s14]:=by
 have sz : 2000 ≤ sizeLine:=by decide
 obtain ⟨B2,t,l',O,e,g,n⟩:=ZhA B h.g h.gl;have i1 : ixD (.lst b.l) (.int 1) = some (.lst (b.gap.map Gp.d)):=rfl;refine ⟨B2,farK b l',⟨h.o.e8,h.o.w8,h.o.t,g,h.o.s,h.o.c,h.o.tn,by show l'.length ≤ 24;omega,h.o.sn,h.o.cn⟩,rfl,rfl, ?_⟩;have bl : b.l.length = 4:=rfl;have st : b.l.set 1 (.lst (l'.map Gp.d)) = (farK b l').l:=rfl;have ca : shM (Jc m_law_far_gaps [some 1,none] [] (ioM 1 (Ja (ixoM 5 (Zr (.int 1))) (Zr [])))) [s0,some (.l .sh,.lst B.1),s2,s3,s4,some (.l .sh,.lst b.l),s6,s7,s8,s9,s10,s11,s12,s13,s14] = .ok (.lst (l'.map Gp.d)) [s0,some (.l .sh,.lst B2.1),s2,s3,s4,some (.l .sh,.lst b.l),s6,s7,s8,s9,s10,s11,s12,s13,s14]:=by
  generalize D.lst (l'.map Gp.d) = LF at *;generalize D.lst (b.gap.map Gp.d) = LG at *;generalize b.l = BL at *
  (push_cast [ZeL,Zbc,Zh0,Zh1,i1,e]) <;> (try rfl)
 rw [Z4L,ca,Z3p];show siR (some b.l) (.int 1) (.lst (l'.map Gp.d)) 5 _ = _;rw [Zbd (by omega) (by show (1 : Int) < ((4 : Nat) : Int);omega)];show Fl.nx [s0,some (.l .sh,.lst B2.1),s2,s3,s4,some (.l .sh,.lst (b.l.set 1 (.lst (l'.map Gp.d)))),s6,s7,s8,s9,s10,s11,s12,s13,s14] = _;rw [st]
theorem sz72 {x : D} (h : x ∈ [D.int 2,.int 3,.int 1,.int 4,.int 0]) : ∃ n : Nat,x = iD n ∧ n ≤ 4:=by
 simp only [Yc,List.not_mem_nil,or_false] at h;rcases h with rfl | rfl | rfl | rfl | rfl
 · exact ⟨2,rfl,by decide⟩
 · exact ⟨3,rfl,by decide⟩
 · exact ⟨1,rfl,by decide⟩
 · exact ⟨4,rfl,by decide⟩
 · exact ⟨0,rfl,by decide⟩
def L72 (E : Nv) : Prop:=∃ s0 B s2 s3 s4 s5 s6 s7 s8 s9 s10 s11 s12 s13 s14,E = [s0,some (.l .sh,.lst (B : Bg).1),s2,s3,s4,s5,s6,s7,s8,s9,s10,s11,s12,s13,s14]
theorem Zjn (s0 : Option Ent) (B : Bg) (x : Int) (s3 s4 s5 s6 s7 s8 s9 s10 s11 s12 s13 s14 : Option Ent) : Wp (nxQ L72) (Z8Z [s0,some (.l .sh,.lst B.1),~~~(.int x),s3,s4,s5,s6,s7,s8,s9,s10,s11,s12,s13,s14]):=by
 have sz : 2000 ≤ sizeLine:=by decide
 obtain ⟨B1,y1,O1,e1,hy1⟩:=oneL B (xs:=[.int 2,.int 3,.int 1,.int 4,.int 0]) (by decide) (by decide);obtain ⟨ev,rfl,h4⟩:=sz72 hy1;obtain ⟨B2,y2,O2,e2,hy2⟩:=oneL B1 (xs:=[.int 2,.int 3,.int 1,.int 4,.int 0]) (by decide) (by decide);obtain ⟨wi,rfl,w4⟩:=sz72 hy2;obtain ⟨B3,ev',wi',h8,h6,e3⟩:=Zjk s0 B2 x (ev:=ev) (wi:=wi) (by omega) (by omega) s5 s6 s7 s8 s9 s10 s11 s12 s13 s14;obtain ⟨B4,p,O4,e4,hp⟩:=Zh2 B3 (ev:=ev') (wi:=wi') (m:=9) (by omega) (by omega) (by decide) (by decide);have hb : Bg72 (p.k ev' wi'):=⟨hp.bk (by omega) (by omega) (by decide),hp.g,by have:=hp.gn;show p.b.length ≤ 20;omega⟩;have e4 : ZF [(.l .sh,.lst B3.1),(.sh,iD ev'),(.sh,iD wi'),(.sh,.int 9)] = .ok (.l (.l .sh),.lst (p.k ev' wi').l) (some (.l .sh,.lst B4.1) :: O4):=e4;obtain ⟨B5,b1,hb1,v1,w1,e5⟩:=Zjl s0 B4 (~~~(.int x)) hb s6 s7 s8 s9 s10 s11 s12 s13 s14;have v1 : b1.ev = ev':=v1;have w1 : b1.wi = wi':=w1;have e5 : Z8W [s0,some (.l .sh,.lst B4.1),~~~(.int x),~~~(iD ev'),~~~(iD wi'),some (.l .sh,.lst (p.k ev' wi').l),s6,s7,s8,s9,s10,s11,s12,s13,s14] = .nx [s0,some (.l .sh,.lst B5.1),~~~(.int x),~~~(iD ev'),~~~(iD wi'),some (.l .sh,.lst b1.l),s6,s7,s8,s9,s10,s11,s12,s13,s14]:=e5;obtain ⟨B6,b,hb2,v2,w2,e6⟩:=Zjm s0 B5 (~~~(.int x)) (~~~(iD ev')) (~~~(iD wi')) hb1 s6 s7 s8 s9 s10 s11 s12 s13 s14;have ve : b.ev = ev':=v2.trans v1;have we : b.wi = wi':=w2.trans w1;have e7:=Zc3 hb2;obtain ⟨B7,os,O7,e8,ho,hol⟩:=Zhx B6 (wi:=b.wi) hb2.w8;have hrl : ((List.range b.wi).filter fun i => !decide (i ∈ os)).length ≤ 8:=by
  have:=List.length_filter_le (fun i => !decide (i ∈ os)) (List.range b.wi);rw [Ys] at this;have:=hb2.w8;omega
 obtain ⟨t9,t10,t11,t12,t13,t14,e10⟩:=l1_ok hb2 (rs:=(List.range b.wi).filter fun i => !decide (i ∈ os)) ho hol (fun w m => List.mem_range.mp (List.mem_filter.mp m).1) hrl s0 B7 (~~~(.int x)) s9 s10 s11 s12 s13 none;have e9 : ∀ s8 : Option Ent,Zbm [s0,some (.l .sh,.lst B7.1),~~~(.int x),~~~(iD b.ev),~~~(iD b.wi),~~~(.lst b.l),~~~b.d,~~~(.lst (os.map iD)),s8,s9,s10,s11,s12,s13,s14] = .ok (.l .sh,.lst (((List.range b.wi).filter fun i => !decide (i ∈ os)).map iD)) [s0,some (.l .sh,.lst B7.1),~~~(.int x),~~~(iD b.ev),~~~(iD b.wi),~~~(.lst b.l),~~~b.d,~~~(.lst (os.map iD)),s8,s9,s10,s11,s12,s13,none]:=fun s8 => by
  have r:=Z2D b.wi (by have:=hb2.w8;omega);unfold Zbm;generalize D.lst b.l = BL at *;generalize b.d = BD at *;refine Zac (l:=List.range b.wi) (emb:=iD) (c:=fun i => !decide (i ∈ os)) (g:=iD) (EA:=[s0,some (.l .sh,.lst B7.1),~~~(.int x),~~~(iD b.ev),~~~(iD b.wi),~~~BL,~~~BD,~~~(.lst (os.map iD)),s8,s9,s10,s11,s12,s13,s14]) (E1:=fun i => [s0,some (.l .sh,.lst B7.1),~~~(.int x),~~~(iD b.ev),~~~(iD b.wi),~~~BL,~~~BD,~~~(.lst (os.map iD)),s8,s9,s10,s11,s12,s13,~~~(iD i)]) (by (push_cast [iD,r]) <;> (try rfl)) rfl (fun i m => ⟨rfl,(by
   have n : ninD (iD i) (.lst (os.map iD)) = some (.bl (!decide (i ∈ os))):=Z93 i os;generalize iD i = I at *
   (push_cast [n]) <;> (try rfl)),fun _ => (by (push_cast []) <;> (try rfl)),rfl⟩) (by rw [Ys];have:=hb2.w8;omega)
 unfold E72 at e10;have e7 : m_law_book [(.sh,iD b.ev),(.sh,iD b.wi),(.sh,.lst b.l)] = .ok (.o,b.d) [~~~(iD b.ev),~~~(iD b.wi),~~~(.lst b.l)]:=e7;have e8 : Z2S [(.l .sh,.lst B6.1),(.sh,iD b.wi)] = .ok (.l .sh,.lst (os.map iD)) (some (.l .sh,.lst B7.1) :: O7):=e8;have d1 : b1.l = [.lst (b1.tel.map Tl.d),.lst (b1.gap.map Gp.d),.lst (b1.sur.map Sr.d),.lst (b1.cla.map Cl.d)]:=rfl;clear hb hb1 hb2 hrl ho hol d1 hp hy1 hy2;rw [we] at e8;rw [ve,we] at e7 e10;simp only [ve,we] at e9;generalize ((List.range wi').filter fun i => !decide (i ∈ os)).map iD = RS at *;generalize (p.k ev' wi').l = PL at *;generalize b1.l = L1 at *;generalize b.l = BL at *;generalize b.d = BD at *;generalize os.map iD = OL at *;generalize iD ev' = EV at *;generalize iD wi' = WI at *;have key : Z8Z [s0,some (.l .sh,.lst B.1),~~~(.int x),s3,s4,s5,s6,s7,s8,s9,s10,s11,s12,s13,s14] = .nx [s0,some (.l .sh,.lst B7.1),~~~(.int x),~~~EV,~~~WI,~~~(.lst BL),~~~BD,~~~(.lst OL),~~~(.lst RS),t9,t10,t11,t12,t13,t14]:=by
  unfold Z8Z;generalize Z2i 5 (shM (Jc m_law_far_gaps [some 1,none] [] (ioM 1 (Ja (ixoM 5 (Zr (.int 1))) (Zr []))))) (Zr (.int 1)) = G6 at *
  (push_cast [Z2s,e1,e2,e3,e4,Z6n,ZhV,e5,e6,Z1r,Z2C,Z6k,e7,e8,e9,e10]) <;> (try rfl)
 rw [key];exact ZiG ⟨_,_,_,_,_,_,_,_,_,_,_,_,_,_,_,rfl⟩
theorem keeps : ZhK 63 ZgN:=by
 intro ns hl _;have eb:=ZgQ hl;have r4 : Z3G [.int 4] = some [.int 0,.int 1,.int 2,.int 3]:=rfl;have main : Wp (okQ fun p _ => p = (.sh,.bl true)) (ZfS [~~~(.frl ns),none,none,none,none,none,none,none,none,none,none,none,none,none,none]):=by
  rw [ZfS];unfold Zem
  push_cast [eb,r4]
  refine Zbv (I:=L72) ⟨_,_,_,_,_,_,_,_,_,_,_,_,_,_,_,rfl⟩ ?_ ?_
  · rintro d md E ⟨s0,B,s2,s3,s4,s5,s6,s7,s8,s9,s10,s11,s12,s13,s14,rfl⟩
    obtain ⟨x,rfl⟩ : ∃ x : Int,d = .int x:=by
     simp only [Yc,List.not_mem_nil,or_false] at md;rcases md with rfl | rfl | rfl | rfl <;> exact ⟨_,rfl⟩
    exact ⟨_,rfl,Zjn s0 B x s3 s4 s5 s6 s7 s8 s9 s10 s11 s12 s13 s14⟩
  · rintro E ⟨s0,B,s2,s3,s4,s5,s6,s7,s8,s9,s10,s11,s12,s13,s14,rfl⟩
    push_cast []
    exact ZiH rfl
 obtain ⟨p,O,e,rfl⟩:=ZiI (N:=15) (g:=ZfS) (as:=[(.sh,.frl ns)]) (J:=fun p _ => p = (.sh,.bl true)) main;exact ⟨O,e⟩
end Gk
open PySem PySem.W PySem.Calls PyProof.Rows
theorem PySem.Challenge.cw_earlyorlate_k72_shifts_of_kinds_holds : PySem.Challenge.rw_earlyorlate_k72_shifts_of_kinds.Holds := by
 w_on;o_law
 refine HandSHeadRun.head_any (r:=OpenLaw.row PySem.Challenge.rw_earlyorlate_k72_shifts_of_kinds) (q:=view (OpenLaw.row PySem.Challenge.rw_earlyorlate_k72_shifts_of_kinds).prog [55]) (H:=Gk.hk) (ob:=Gk.ob) (M:=20000) (loose:=Gk.loose) (d:=HandSHeadRun.topDef (OpenLaw.row PySem.Challenge.rw_earlyorlate_k72_shifts_of_kinds).prog 55) (kwd:=[]) Gk.Zin
  (by kernel_rfl) (fun s => by kernel_rfl) Gk.run (by kernel_rfl) (by kernel_rfl) (by kernel_rfl) (by rfl) (by first | assumption | decide +kernel) (by decide +kernel) ⟨rfl,rfl,rfl,rfl,rfl,by decide +kernel⟩ ?hw ?hc
 case hw => w_witness2
 case hc =>
  refine Dl.Zde (tf:=Gk.tfs) (l:=PySem.Challenge.rw_earlyorlate_k72_shifts_of_kinds) (n:=63) (k:=9) (x := "_law_script") (m:=fun _ => Gk.ZgN) rfl (by decide) (by kernel_rfl) ⟨rfl,by decide,by decide⟩ (fun _ => Gk.keeps) ?F;intro w mg fa h Y G hmg0;obtain ⟨K,KX,c1,c2,tt⟩:=Y;have hmg : mg ("law" : PySem.Str) = some (.ref fa):=by
   have e : (HandSHeadRun.topDef (OpenLaw.row PySem.Challenge.rw_earlyorlate_k72_shifts_of_kinds).prog 55).name = ("law" : PySem.Str):=by kernel_rfl
   rw [← e];exact hmg0
  have o : Dl.Md3 Gk.fa Gk.fn Gk.ex K mg:=⟨⟨h,KX,G⟩,c1,c2⟩;have e1:=hmg.symm.trans (o.glo 67);cases e1
  letI : Dl.Tbs:=Dl.Z9F K Gk.tfs
  obtain ⟨fd,F,hb⟩:=Gk.ZgO (P:=(PySem.Challenge.rw_earlyorlate_k72_shifts_of_kinds).prog) (w:=w) o;exact ⟨K,fd,KX,tt,hb,fun base _ _ tb => F base tb⟩
end
