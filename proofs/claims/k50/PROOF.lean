import PyProof.Rows.All
import Wide.All
import OpenK.AllK
import Wide.FinOn
import HandS.ForMost
import HandS.Exc
import HandS.ExcOwn
import HandS.WordsExc
import HandS.Defaults
import HandS.Flow
import HandS.Deep
import HandS.IsInst
import HandS.Lambda
import HandS.HeadHook1
import HandS.HeadHook2
import HandS.TupAny
import HandS.Style
import HandS.Wide
import HandS.NoneIn
import KE.GoesEnum
import HandS.ExcInit
import HandS.Comp
import HandS.EndBits
import HandS.Ends
import HandS.HeadEnd
import HandS.Head0
import HandS.Head1
import HandS.Head2
import KE.KRevSl
import HandS.OwnEq
import HandS.More
import PyProof.InstNe
import HandS.TryOnly
import HandS.TryElse
import HandS.ExcField
import KE.KExcIs
import HandS.Zip
import HandS.Conv
import HandS.Strs
import KE.GoesMore
import HandS.Text
import HandS.FStr
import HandS.Star
import HandS.TupMul
import PyProof.StrBlock2
import HandS.HeadHook3
import HandS.SetKeys
import HandS.DictComp
import PyProof.DictMoreH
import PyProof.DictCompW
import PyProof.WalkInts
import HandS.SortKw
import KE.SortData
import KE.KSlice
import HandS.SetFor
import KE.DataFind
import HandS.TupLen
import HandS.HeadHook4
import HandS.GenCall
import HandS.GenList
import HandS.SetBool
import KE.GoesZip
import KE.KStar
import HandS.OwnIter
import HandS.IterVal
import HandS.DictSub
import OpenK.KMeth
import KE.SortKeyHeap
import KE.KSortKey
import KE.GoesRaise
import HandS.MakeKwOnly
import KE.KDictWalk
import PyProof.Rows.RegFStrParts
import PyProof.ReprBulk
import PyProof.Rows.RegStrFacts
import PyProof.Rows.ReprOcc
import PyProof.Rows.SortStrRead
import PySem.Challenge.RW_earlyorlate_k50_middles_reckoned
set_option Elab.async false
set_option linter.all false
set_option maxRecDepth 100000
set_option maxHeartbeats 0
section
namespace Dl
open PySem PySem.Spec PyProof.Rows L2
abbrev KF := PySem.W.Frag
inductive D where
  | non | bl (b : Bool) | int (i : Int) | str (x : Str)
  | lst (xs : List D) | tup (xs : List D)
  | dct (ks vs : List D)
  | ins (c : Str) (ns : List Str) (vs : List D)
  | ty (n : String) | cl (c : Str) | frl (ns : List Int)
mutual
def imm : D → Bool
  | .lst _ => false
  | .dct _ _ => false
  | .tup xs => immL xs
  | .ins _ _ vs => immL vs
  | .non => true
  | .bl _ => true
  | .int _ => true
  | .str _ => true
  | .ty _ => true
  | .cl _ => true
  | .frl _ => false
def immL : List D → Bool
  | [] => true
  | x :: r => imm x && immL r
end
def immO : HO → Bool
  | .tup _ => true
  | .ins _ _ _ => true
  | _ => false
def kD : Key → D
  | .inl i => .int i
  | .inr x => .str x
mutual
inductive Rep (K : KF) (F : Hp) : V → D → Prop
  | non : Rep K F .non .non
  | bl (b : Bool) : Rep K F (.bl b) (.bl b)
  | int (i : Int) : Rep K F (.int i) (.int i)
  | str (x : Str) : Rep K F (.str x) (.str x)
  | ty (n : String) : Rep K F (.ty n) (.ty n)
  | cl (c : Str) : Rep K F (.ref (He.ga K c)) (.cl c)
  | frl {a : Addr} {ns : List Int} : SqL K F a (ns.map V.int) → ns.length ≤ sizeLine → Rep K F (.ref a) (.frl ns)
  | lst {a : Addr} {vs : List V} {ds : List D} : F a = some (.lst vs) → ds.length ≤ sizeLine → RepL K F vs ds → Rep K F (.ref a) (.lst ds)
  | tup {a : Addr} {vs : List V} {ds : List D} : SqT K F a vs → ds.length ≤ sizeLine → RepL K F vs ds → Rep K F (.ref a) (.tup ds)
  | ins {a C dx : Addr} {fs : List (Str × V)} {c : Str} {ns : List Str} {ds : List D} : F a = some (.ins C dx fs) → C = He.ga K c → fs.map (·.1) = ns → RepL K F (fs.map (·.2)) ds → Rep K F (.ref a) (.ins c ns ds)
  | dk {a : Addr} {o : Obj} {kvs : List (Key × V)} {ks ds : List D} : F a = some (.frz o (.dK kvs)) → kvs.map (fun p => kD p.1) = ks → RepL K F (kvs.map (·.2)) ds → Rep K F (.ref a) (.dct ks ds)
  | dt {a : Addr} {o : Obj} {kvs : List (List Key × V)} {ks ds : List D} : F a = some (.frz o (.dT kvs)) → kvs.map (fun p => D.tup (p.1.map kD)) = ks → RepL K F (kvs.map (·.2)) ds → Rep K F (.ref a) (.dct ks ds)
inductive RepL (K : KF) (F : Hp) : List V → List D → Prop
  | nil : RepL K F [] []
  | cons {v : V} {vs : List V} {d : D} {ds : List D} : Rep K F v d → RepL K F vs ds → RepL K F (v :: vs) (d :: ds)
end
theorem rd_mono {F F' : Hp} {a : Addr} {u : HO} (e : Same F F') (h : Rd F a u) : Rd F' a u := by
  rcases h with h | ⟨o, h⟩
  · exact .inl (e _ _ h)
  · exact .inr ⟨o, e _ _ h⟩
theorem sqT_mono {K : KF} {F F' : Hp} {a : Addr} {xs : List V} (e : Same F F') (h : SqT K F a xs) : SqT K F' a xs := by
  rcases h with h | h
  · exact .inl (rd_mono e h)
  · exact .inr h
theorem sqL_mono {K : KF} {F F' : Hp} {a : Addr} {xs : List V} (e : Same F F') (h : SqL K F a xs) : SqL K F' a xs := by
  rcases h with h | h
  · exact .inl (rd_mono e h)
  · exact .inr h
mutual
theorem Rep.mono {K : KF} {F F' : Hp} (e : Same F F') : ∀ {v : V} (d : D), Rep K F v d → Rep K F' v d
  | _, .non, h => by cases h; exact .non
  | _, .bl b, h => by cases h; exact .bl b
  | _, .int i, h => by cases h; exact .int i
  | _, .str x, h => by cases h; exact .str x
  | _, .ty n, h => by cases h; exact .ty n
  | _, .cl c, h => by cases h; exact .cl c
  | _, .frl ns, h => by
    cases h with
    | frl s z => exact .frl (sqL_mono e s) z
  | _, .lst ds, h => by
    cases h with
    | lst s z r => exact .lst (e _ _ s) z (RepL.mono e ds r)
  | _, .tup ds, h => by
    cases h with
    | tup s z r => exact .tup (sqT_mono e s) z (RepL.mono e ds r)
  | _, .dct ks ds, h => by
    cases h with
    | dk s k r => exact .dk (e _ _ s) k (RepL.mono e ds r)
    | dt s k r => exact .dt (e _ _ s) k (RepL.mono e ds r)
  | _, .ins c ns ds, h => by
    cases h with
    | ins s k n r => exact .ins (e _ _ s) k n (RepL.mono e ds r)
theorem RepL.mono {K : KF} {F F' : Hp} (e : Same F F') : ∀ {vs : List V} (ds : List D), RepL K F vs ds → RepL K F' vs ds
  | _, [], h => by cases h; exact .nil
  | _, d :: ds, h => by
    cases h with
    | cons h1 h2 => exact .cons (Rep.mono e d h1) (RepL.mono e ds h2)
end
def NoFz (F' : Hp) : Prop := ∀ a o u, F' a = some (.frz o u) → ∀ xs, u ≠ .tup xs
mutual
theorem Rep.restr {K : KF} {F' G : Hp} (e : ∀ a o, F' a = some o → immO o = true → G a = some o) (nz : NoFz F') : ∀ {v : V} (d : D), imm d = true → Rep K F' v d → Rep K G v d
  | _, .non, _, h => by cases h; exact .non
  | _, .bl b, _, h => by cases h; exact .bl b
  | _, .int i, _, h => by cases h; exact .int i
  | _, .str x, _, h => by cases h; exact .str x
  | _, .ty n, _, h => by cases h; exact .ty n
  | _, .cl c, _, h => by cases h; exact .cl c
  | _, .frl ns, i, h => by cases (show false = true from i)
  | _, .lst ds, i, h => by
    have i' : false = true := i
    cases i'
  | _, .tup ds, i, h => by
    cases h with
    | tup s z r =>
      refine .tup ?_ z (RepL.restr e nz ds i r)
      rcases s with (s | ⟨o, s⟩) | s
      · exact .inl (.inl (e _ _ s rfl))
      · exact absurd rfl (nz _ _ _ s _)
      · exact .inr s
  | _, .dct ks ds, i, h => by
    have i' : false = true := i
    cases i'
  | _, .ins c ns ds, i, h => by
    cases h with
    | ins s k n r => exact .ins (e _ _ s rfl) k n (RepL.restr e nz ds i r)
theorem RepL.restr {K : KF} {F' G : Hp} (e : ∀ a o, F' a = some o → immO o = true → G a = some o) (nz : NoFz F') : ∀ {vs : List V} (ds : List D), immL ds = true → RepL K F' vs ds → RepL K G vs ds
  | _, [], _, h => by cases h; exact .nil
  | _, d :: ds, i, h => by
    have i' : (imm d && immL ds) = true := i
    have ⟨i1, i2⟩ := Bool.and_eq_true_iff.mp i'
    cases h with
    | cons h1 h2 => exact .cons (Rep.restr e nz d i1 h1) (RepL.restr e nz ds i2 h2)
end
theorem RepL.length {K : KF} {F : Hp} : ∀ {vs : List V} {ds : List D}, RepL K F vs ds → vs.length = ds.length
  | [], _, h => by cases h; rfl
  | v :: vs, _, h => by
    cases h with
    | cons _ r => rw [List.length_cons, List.length_cons, r.length]
theorem RepL.get {K : KF} {F : Hp} : ∀ {vs : List V} {ds : List D} {i : Nat} {d : D}, RepL K F vs ds → ds[i]? = some d → ∃ v, vs[i]? = some v ∧ Rep K F v d
  | [], _, i, d, h, e => by cases h; simp at e
  | v :: vs, _, 0, d, h, e => by
    cases h with
    | cons h1 _ => simp at e; subst e; exact ⟨v, rfl, h1⟩
  | v :: vs, _, i + 1, d, h, e => by
    cases h with
    | cons _ h2 =>
      obtain ⟨u, e1, e2⟩ := RepL.get (i := i) h2 (by simpa using e)
      exact ⟨u, by simpa using e1, e2⟩
theorem RepL.getV {K : KF} {F : Hp} : ∀ {vs : List V} {ds : List D} {i : Nat} {v : V}, RepL K F vs ds → vs[i]? = some v → ∃ d, ds[i]? = some d ∧ Rep K F v d
  | [], _, i, d, h, e => by simp at e
  | v :: vs, _, 0, d, h, e => by
    cases h with
    | cons h1 _ => simp at e; subst e; exact ⟨_, rfl, h1⟩
  | v :: vs, _, i + 1, d, h, e => by
    cases h with
    | cons _ h2 =>
      obtain ⟨u, e1, e2⟩ := RepL.getV (i := i) h2 (by simpa using e)
      exact ⟨u, by simpa using e1, e2⟩
theorem RepL.app {K : KF} {F : Hp} : ∀ {vs ws : List V} {ds es : List D}, RepL K F vs ds → RepL K F ws es → RepL K F (vs ++ ws) (ds ++ es)
  | [], _, _, _, h, h' => by cases h; exact h'
  | v :: vs, _, _, _, h, h' => by
    cases h with
    | cons h1 h2 => exact .cons h1 (h2.app h')
theorem RepL.take {K : KF} {F : Hp} : ∀ {vs : List V} {ds : List D} (n : Nat), RepL K F vs ds → RepL K F (vs.take n) (ds.take n)
  | _, _, 0, _ => by rw [List.take_zero, List.take_zero]; exact .nil
  | [], _, n + 1, h => by cases h; exact .nil
  | v :: vs, _, n + 1, h => by
    cases h with
    | cons h1 h2 => exact .cons h1 (h2.take n)
theorem RepL.drop {K : KF} {F : Hp} : ∀ {vs : List V} {ds : List D} (n : Nat), RepL K F vs ds → RepL K F (vs.drop n) (ds.drop n)
  | _, _, 0, h => h
  | [], _, n + 1, h => by cases h; exact .nil
  | v :: vs, _, n + 1, h => by
    cases h with
    | cons h1 h2 => exact h2.drop n
theorem RepL.set {K : KF} {F : Hp} {v : V} {d : D} (r : Rep K F v d) : ∀ {vs : List V} {ds : List D} (i : Nat), RepL K F vs ds → RepL K F (vs.set i v) (ds.set i d)
  | [], _, _, h => by cases h; exact .nil
  | w :: vs, _, 0, h => by
    cases h with
    | cons _ h2 => exact .cons r h2
  | w :: vs, _, i + 1, h => by
    cases h with
    | cons h1 h2 => exact .cons h1 (h2.set r i)
theorem RepL.ofInts {K : KF} {F : Hp} : ∀ (ns : List Int), RepL K F (ns.map V.int) (ns.map D.int)
  | [] => .nil
  | n :: r => .cons (.int n) (RepL.ofInts r)
inductive Ow where
  | sh | l (t : Ow) | d (b : Bool) (t : Ow) | o | m (t : Ow) | r (bs : List Bool) | g
deriving DecidableEq
abbrev Lab := List Nat
abbrev Wm := Addr → Option Lab
def OwnB (K : KF) (F H : Hp) (W : Wm) : Bool → Lab → V → D → Prop
  | true, lab, v, d => ∃ (p : Addr) (ws : List V) (es : List D), v = .ref p ∧ d = .lst es ∧ W p = some lab ∧ H p = some (.lst ws) ∧ es.length ≤ sizeLine ∧ RepL K F ws es
  | false, _, v, d => Rep K F v d
def DOb : Bool → Hp → Addr → List D → List V → Prop
  | true, H, o, ks, vs => ∃ kvs : List (List Key × V), H o = some (.dT kvs) ∧ kvs.map (fun p => D.tup (p.1.map kD)) = ks ∧ kvs.map (·.2) = vs
  | false, H, o, ks, vs => ∃ kvs : List (Key × V), H o = some (.dK kvs) ∧ kvs.map (fun p => kD p.1) = ks ∧ kvs.map (·.2) = vs
theorem DOb.keep {H H' : Hp} {o : Addr} {ks : List D} {vs : List V} (h : ∀ u, H o = some u → H' o = some u) : ∀ {b : Bool}, DOb b H o ks vs → DOb b H' o ks vs
  | true, ⟨kvs, e, q⟩ => ⟨kvs, h _ e, q⟩
  | false, ⟨kvs, e, q⟩ => ⟨kvs, h _ e, q⟩
def isDct : HO → Bool
  | .dT _ => true
  | .dK _ => true
  | _ => false
def RegH (F H : Hp) (W : Wm) (lab : Lab) (G : Hp) : Prop := ∀ a o, G a = some o → F a = some o ∨ ∃ (q : Lab) (vs : List V), W a = some (lab ++ q) ∧ H a = some o ∧ o = .lst vs
def OwnT (K : KF) (F H : Hp) (W : Wm) : Ow → Lab → V → D → Prop
  | .sh, _, v, d => Rep K F v d
  | .g, lab, v, d => ∃ G : Hp, RegH F H W lab G ∧ Rep K G v d
  | .l t, lab, v, d => ∃ (o : Addr) (vs : List V) (ds : List D), v = .ref o ∧ d = .lst ds ∧ W o = some lab ∧ H o = some (.lst vs) ∧ ds.length ≤ sizeLine ∧ vs.length = ds.length ∧
      ∀ (j : Nat) (v' : V) (d' : D), vs[j]? = some v' → ds[j]? = some d' → OwnT K F H W t (lab ++ [j]) v' d'
  | .d b t, lab, v, d => ∃ (o : Addr) (vs : List V) (ks ds : List D), v = .ref o ∧ d = .dct ks ds ∧ W o = some lab ∧ DOb b H o ks vs ∧ vs.length = ds.length ∧
      ∀ (j : Nat) (v' : V) (d' : D), vs[j]? = some v' → ds[j]? = some d' → OwnT K F H W t (lab ++ [j]) v' d'
  | .m t, lab, v, d => (∃ (o : Addr) (vs : List V) (ds : List D), v = .ref o ∧ d = .lst ds ∧ W o = some lab ∧ H o = some (.lst vs) ∧ ds.length ≤ sizeLine ∧ vs.length = ds.length ∧
      ∀ (j : Nat) (v' : V) (d' : D), vs[j]? = some v' → ds[j]? = some d' → OwnT K F H W t (lab ++ [j]) v' d') ∨ ((∀ ds, d ≠ .lst ds) ∧ Rep K F v d)
  | .r bs, lab, v, d => ∃ (o : Addr) (vs : List V) (ds : List D), v = .ref o ∧ d = .lst ds ∧ W o = some lab ∧ H o = some (.lst vs) ∧ ds.length ≤ sizeLine ∧ vs.length = ds.length ∧ bs.length = ds.length ∧
      ∀ (j : Nat) (v' : V) (d' : D) (t : Bool), vs[j]? = some v' → ds[j]? = some d' → bs[j]? = some t → OwnB K F H W t (lab ++ [j]) v' d'
  | .o, lab, v, d => ∃ (x C dx : Addr) (fs : List (Str × V)) (c : Str) (ns : List Str) (ds : List D), v = .ref x ∧ d = .ins c ns ds ∧ W x = some lab ∧ H x = some (.ins C dx fs) ∧ C = He.ga K c ∧ fs.map (·.1) = ns ∧ fs.length ≤ 100 ∧ RepL K F (fs.map (·.2)) ds
def noO : Ow → Bool
  | .sh => true
  | .l t => noO t
  | .d _ _ => false
  | .m t => noO t
  | .r _ => true
  | .o => false
  | .g => true
def isTup : HO → Bool
  | .tup _ => true
  | _ => false
class Tbs where
  n : Addr → Option Str
instance (priority := low) tbs0 : Tbs := ⟨fun _ => none⟩
section
variable [Tbs]
def TabW (F H : Hp) (W : Wm) (P : Addr) (q : Str) : Prop := F P = none ∧ W P = none ∧ ∃ ps : Array Value, H P = some (.tbl ps) ∧ (TriplesOk ps.toList ∧ Tbs.n P = some q) ∧ ∀ (pos : Pos) (cv : Value), codeAmong pos ps.toList = some cv → ∃ c, cv = .ref c ∧ W c = none ∧ H c = some (LamX.CodeO c q)
def TCo (o : HO) : Prop := (∃ ps, o = .tbl ps) ∨ ∃ c q, o = LamX.CodeO c q
theorem TabW.of {F F' H H' : Hp} {W W' : Wm} {P : Addr} {q : Str} (t : TabW F H W P q) (hF : F' P = none) (hW : ∀ a o, W a = none → H a = some o → W' a = none) (hH : ∀ a o, H a = some o → W a = none → TCo o → H' a = some o) : TabW F' H' W' P q := by
  obtain ⟨h1, h2, ps, h3, h4, h5⟩ := t
  refine ⟨hF, hW _ _ h2 h3, ps, hH _ _ h3 h2 (.inl ⟨ps, rfl⟩), h4, fun pos cv e => ?_⟩
  obtain ⟨c, e1, e2, e3⟩ := h5 pos cv e
  exact ⟨c, e1, hW _ _ e2 e3, hH _ _ e3 e2 (.inr ⟨c, q, rfl⟩)⟩
structure Stp (F : Hp) (W : Wm) (H F' : Hp) (W' : Wm) (H' : Hp) : Prop where
  fx : Same F F'
  fn : ∀ a o, F' a = some o → isTup o = false → F a = some o ∨ H a = none
  wx : ∀ a l, W a = some l → W' a = some l
  wn : ∀ a l, W' a = some l → W a = some l ∨ H a = none
  hx : ∀ a o, H a = some o → W a = none → (∀ ps, o ≠ .tbl ps) → H' a = some o
  hd : ∀ a o, H a = some o → ∃ o', H' a = some o'
  fk : ∀ a o, F a = some o → H a = some o → H' a = some o
  tb : ∀ P q, TabW F H W P q → TabW F' H' W' P q
theorem wn_keep {W W' : Wm} {H : Hp} (wn : ∀ a l, W' a = some l → W a = some l ∨ H a = none) : ∀ a o, W a = none → H a = some o → W' a = none := fun a o h1 h2 => by
  cases q : W' a with
  | none => rfl
  | some l =>
    rcases wn a l q with z | z
    · rw [h1] at z; cases z
    · rw [h2] at z; cases z
theorem Stp.mk6 {F : Hp} {W : Wm} {H F' : Hp} {W' : Wm} {H' : Hp} (fx : Same F F') (fn : ∀ a o, F' a = some o → isTup o = false → F a = some o ∨ H a = none) (wx : ∀ a l, W a = some l → W' a = some l) (wn : ∀ a l, W' a = some l → W a = some l ∨ H a = none) (hx : ∀ a o, H a = some o → W a = none → H' a = some o)
    (hd : ∀ a o, H a = some o → ∃ o', H' a = some o') (fk : ∀ a o, F a = some o → H a = some o → H' a = some o) (ft : ∀ P, F P = none → (∃ ps, H P = some (.tbl ps)) → W P = none → F' P = none) : Stp F W H F' W' H' where
  fx := fx
  fn := fn
  wx := wx
  wn := wn
  hx := fun a o h n _ => hx a o h n
  hd := hd
  fk := fk
  tb := fun P q t => t.of (ft P t.1 ⟨_, t.2.2.choose_spec.1⟩ t.2.1) (wn_keep wn) fun a o h n _ => hx a o h n
theorem ft_of {F : Hp} {W : Wm} {H F' : Hp} {H' : Hp} (fn : ∀ a o, F' a = some o → isTup o = false → F a = some o ∨ H a = none) (fh : Same F' H') (hx : ∀ a o, H a = some o → W a = none → TCo o → H' a = some o) : ∀ P, F P = none → (∃ ps, H P = some (.tbl ps)) → W P = none → F' P = none := fun P h1 ⟨ps, h2⟩ h3 => by
  cases q : F' P with
  | none => rfl
  | some u =>
    have e := fh P u q
    rw [hx P _ h2 h3 (.inl ⟨ps, rfl⟩)] at e
    cases e
    rcases fn P _ q rfl with z | z
    · rw [h1] at z; cases z
    · rw [h2] at z; cases z
theorem Stp.refl (F : Hp) (W : Wm) (H : Hp) : Stp F W H F W H := .mk6 (Same.refl F) (fun _ _ h _ => .inl h) (fun _ _ h => h) (fun _ _ h => .inl h) (fun _ _ h _ => h) (fun _ o h => ⟨o, h⟩) (fun _ _ _ h => h) fun _ h _ _ => h
theorem Stp.back {F : Hp} {W : Wm} {H F' : Hp} {W' : Wm} {H' : Hp} (s : Stp F W H F' W' H') {a : Addr} (h : H' a = none) : H a = none := by
  cases q : H a with
  | none => rfl
  | some o =>
    obtain ⟨o', e⟩ := s.hd a o q
    rw [h] at e
    cases e
theorem Stp.trans {F F1 F2 : Hp} {W W1 W2 : Wm} {H H1 H2 : Hp} (a : Stp F W H F1 W1 H1) (b : Stp F1 W1 H1 F2 W2 H2) : Stp F W H F2 W2 H2 where
  fx := a.fx.trans b.fx
  fn := fun x o h n => by
    rcases b.fn x o h n with h | h
    · exact a.fn x o h n
    · exact .inr (a.back h)
  wx := fun x l h => b.wx x l (a.wx x l h)
  wn := fun x l h => by
    rcases b.wn x l h with h | h
    · exact a.wn x l h
    · exact .inr (a.back h)
  hx := fun x o h n t => b.hx x o (a.hx x o h n t) (wn_keep a.wn x o n h) t
  hd := fun x o h => by
    obtain ⟨o1, e1⟩ := a.hd x o h
    exact b.hd x o1 e1
  fk := fun x o f h => b.fk x o (a.fx x o f) (a.fk x o f h)
  tb := fun P q t => b.tb P q (a.tb P q t)
end
theorem OwnB.keepAt {K : KF} {F F' H H' : Hp} {W W' : Wm} {lab : Lab} {v : V} {d : D} (e : Same F F') (hw : ∀ a, W a = some lab → W' a = some lab) (hh : ∀ a o, W a = some lab → H a = some o → H' a = some o) : ∀ {t : Bool}, OwnB K F H W t lab v d → OwnB K F' H' W' t lab v d
  | true, h => by
    obtain ⟨p, ws, es, e1, e2, w, hp, z, r⟩ := h
    exact ⟨p, ws, es, e1, e2, hw _ w, hh _ _ w hp, z, r.mono e _⟩
  | false, h => Rep.mono e d h
theorem OwnB.relab {K : KF} {F H : Hp} {W W' : Wm} {lab lab' : Lab} {v : V} {d : D} (hw : ∀ a, W a = some lab → W' a = some lab') : ∀ {t : Bool}, OwnB K F H W t lab v d → OwnB K F H W' t lab' v d
  | true, h => by
    obtain ⟨p, ws, es, e1, e2, w, r⟩ := h
    exact ⟨p, ws, es, e1, e2, hw _ w, r⟩
  | false, h => h
theorem OwnB.rep {K : KF} {F H G : Hp} {W : Wm} {lab : Lab} {v : V} {d : D} (e : Same F G) (hh : ∀ a o, W a = some lab → H a = some o → immO o = false ∧ isDct o = false → G a = some o) : ∀ {t : Bool}, OwnB K F H W t lab v d → Rep K G v d
  | true, h => by
    obtain ⟨p, ws, es, rfl, rfl, w, hp, z, r⟩ := h
    exact .lst (hh _ _ w hp ⟨rfl, rfl⟩) z (r.mono e _)
  | false, h => Rep.mono e d h
theorem OwnT.keep {K : KF} {F F' H H' : Hp} {W W' : Wm} (e : Same F F') (hw : ∀ a l, W a = some l → W' a = some l) (hh : ∀ a l o, W a = some l → H a = some o → H' a = some o) : ∀ {t : Ow} {lab : Lab} {v : V} {d : D}, OwnT K F H W t lab v d → OwnT K F' H' W' t lab v d
  | .g, _, _, d, ⟨G, r, h⟩ => ⟨G, fun a o z => (r a o z).elim (fun y => .inl (e _ _ y)) fun ⟨q, vs, y1, y2, y3⟩ => .inr ⟨q, vs, hw _ _ y1, hh _ _ _ y1 y2, y3⟩, h⟩
  | .sh, _, _, d, h => Rep.mono e d h
  | .l t, lab, v, d, h => by
    obtain ⟨o, vs, ds, e1, e2, w, ho, z, ln, r⟩ := h
    exact ⟨o, vs, ds, e1, e2, hw _ _ w, hh _ _ _ w ho, z, ln, fun j v' d' a b => OwnT.keep e hw hh (r j v' d' a b)⟩
  | .m t, lab, v, d, h => by
    rcases h with ⟨o, vs, ds, e1, e2, w, ho, z, ln, r⟩ | ⟨n, r⟩
    · exact .inl ⟨o, vs, ds, e1, e2, hw _ _ w, hh _ _ _ w ho, z, ln, fun j v' d' a b => OwnT.keep e hw hh (r j v' d' a b)⟩
    · exact .inr ⟨n, Rep.mono e d r⟩
  | .r bs, lab, v, d, h => by
    obtain ⟨o, vs, ds, e1, e2, w, ho, z, ln, lb, r⟩ := h
    exact ⟨o, vs, ds, e1, e2, hw _ _ w, hh _ _ _ w ho, z, ln, lb, fun j v' d' t a b c => (r j v' d' t a b c).keepAt e (fun _ w => hw _ _ w) fun _ _ w h => hh _ _ _ w h⟩
  | .d b t, lab, v, d, h => by
    obtain ⟨o, vs, ks, ds, e1, e2, w, ho, ln, r⟩ := h
    exact ⟨o, vs, ks, ds, e1, e2, hw _ _ w, ho.keep fun u z => hh _ _ u w z, ln, fun j v' d' a b => OwnT.keep e hw hh (r j v' d' a b)⟩
  | .o, lab, v, d, h => by
    obtain ⟨x, C, dx, fs, c, ns, ds, e1, e2, w, ho, k, n, z, r⟩ := h
    exact ⟨x, C, dx, fs, c, ns, ds, e1, e2, hw _ _ w, hh _ _ _ w ho, k, n, z, r.mono e _⟩
theorem OwnT.keepAt {K : KF} {F F' H H' : Hp} {W W' : Wm} {p : Lab} (e : Same F F') (hw : ∀ a q, W a = some (p ++ q) → W' a = some (p ++ q)) (hh : ∀ a q o, W a = some (p ++ q) → H a = some o → H' a = some o) : ∀ {t : Ow} {q : Lab} {v : V} {d : D}, OwnT K F H W t (p ++ q) v d → OwnT K F' H' W' t (p ++ q) v d
  | .g, q0, _, d, ⟨G, r, h⟩ => ⟨G, fun a o z => (r a o z).elim (fun y => .inl (e _ _ y)) fun ⟨q, vs, y1, y2, y3⟩ => .inr ⟨q, vs, by rw [List.append_assoc] at y1 ⊢; exact hw _ _ y1, by rw [List.append_assoc] at y1; exact hh _ _ _ y1 y2, y3⟩, h⟩
  | .sh, _, _, d, h => Rep.mono e d h
  | .l t, q, v, d, h => by
    obtain ⟨o, vs, ds, e1, e2, w, ho, z, ln, r⟩ := h
    refine ⟨o, vs, ds, e1, e2, hw _ _ w, hh _ _ _ w ho, z, ln, fun j v' d' a b => ?_⟩
    have h1 := r j v' d' a b
    rw [List.append_assoc] at h1 ⊢
    exact OwnT.keepAt e hw hh h1
  | .m t, q, v, d, h => by
    rcases h with ⟨o, vs, ds, e1, e2, w, ho, z, ln, r⟩ | ⟨n, r⟩
    · refine .inl ⟨o, vs, ds, e1, e2, hw _ _ w, hh _ _ _ w ho, z, ln, fun j v' d' a b => ?_⟩
      have h1 := r j v' d' a b
      rw [List.append_assoc] at h1 ⊢
      exact OwnT.keepAt e hw hh h1
    · exact .inr ⟨n, Rep.mono e d r⟩
  | .r bs, q, v, d, h => by
    obtain ⟨o, vs, ds, e1, e2, w, ho, z, ln, lb, r⟩ := h
    exact ⟨o, vs, ds, e1, e2, hw _ _ w, hh _ _ _ w ho, z, ln, lb, fun j v' d' t a b c => (r j v' d' t a b c).keepAt e (fun a w => by
      rw [List.append_assoc] at w ⊢
      exact hw _ _ w) fun a o w h => by
      rw [List.append_assoc] at w
      exact hh _ _ _ w h⟩
  | .d b t, q, v, d, h => by
    obtain ⟨o, vs, ks, ds, e1, e2, w, ho, ln, r⟩ := h
    refine ⟨o, vs, ks, ds, e1, e2, hw _ _ w, ho.keep fun u z => hh _ _ u w z, ln, fun j v' d' a b => ?_⟩
    · have h1 := r j v' d' a b
      rw [List.append_assoc] at h1 ⊢
      exact OwnT.keepAt e hw hh h1
  | .o, q, v, d, h => by
    obtain ⟨x, C, dx, fs, c, ns, ds, e1, e2, w, ho, k, n, z, r⟩ := h
    exact ⟨x, C, dx, fs, c, ns, ds, e1, e2, hw _ _ w, hh _ _ _ w ho, k, n, z, r.mono e _⟩
theorem OwnT.relab {K : KF} {F H : Hp} {W W' : Wm} {p p' : Lab} (hw : ∀ a q, W a = some (p ++ q) → W' a = some (p' ++ q)) : ∀ {t : Ow} {q : Lab} {v : V} {d : D}, OwnT K F H W t (p ++ q) v d → OwnT K F H W' t (p' ++ q) v d
  | .g, q0, _, d, ⟨G, r, h⟩ => ⟨G, fun a o z => (r a o z).elim .inl fun ⟨q, vs, y1, y2, y3⟩ => .inr ⟨q, vs, by rw [List.append_assoc] at y1 ⊢; exact hw _ _ y1, y2, y3⟩, h⟩
  | .sh, _, _, d, h => h
  | .l t, q, v, d, h => by
    obtain ⟨o, vs, ds, e1, e2, w, ho, z, ln, r⟩ := h
    refine ⟨o, vs, ds, e1, e2, hw _ _ w, ho, z, ln, fun j v' d' a b => ?_⟩
    have h1 := r j v' d' a b
    rw [List.append_assoc] at h1 ⊢
    exact OwnT.relab hw h1
  | .m t, q, v, d, h => by
    rcases h with ⟨o, vs, ds, e1, e2, w, ho, z, ln, r⟩ | ⟨n, r⟩
    · refine .inl ⟨o, vs, ds, e1, e2, hw _ _ w, ho, z, ln, fun j v' d' a b => ?_⟩
      have h1 := r j v' d' a b
      rw [List.append_assoc] at h1 ⊢
      exact OwnT.relab hw h1
    · exact .inr ⟨n, r⟩
  | .r bs, q, v, d, h => by
    obtain ⟨o, vs, ds, e1, e2, w, ho, z, ln, lb, r⟩ := h
    exact ⟨o, vs, ds, e1, e2, hw _ _ w, ho, z, ln, lb, fun j v' d' t a b c => (r j v' d' t a b c).relab fun a w => by
      rw [List.append_assoc] at w ⊢
      exact hw _ _ w⟩
  | .d b t, q, v, d, h => by
    obtain ⟨o, vs, ks, ds, e1, e2, w, ho, ln, r⟩ := h
    refine ⟨o, vs, ks, ds, e1, e2, hw _ _ w, ho, ln, fun j v' d' a b => ?_⟩
    have h1 := r j v' d' a b
    rw [List.append_assoc] at h1 ⊢
    exact OwnT.relab hw h1
  | .o, q, v, d, h => by
    obtain ⟨x, C, dx, fs, c, ns, ds, e1, e2, w, r⟩ := h
    exact ⟨x, C, dx, fs, c, ns, ds, e1, e2, hw _ _ w, r⟩
theorem repL_of {K : KF} {F : Hp} : ∀ {vs : List V} {ds : List D}, vs.length = ds.length → (∀ (j : Nat) v' d', vs[j]? = some v' → ds[j]? = some d' → Rep K F v' d') → RepL K F vs ds
  | [], [], _, _ => .nil
  | [], _ :: _, e, _ => by simp at e
  | _ :: _, [], e, _ => by simp at e
  | v :: vs, d :: ds, e, h => .cons (h 0 v d rfl rfl) (repL_of (by simpa using e) fun j v' d' a b => h (j + 1) v' d' (by simpa using a) (by simpa using b))
theorem OwnT.rep {K : KF} {F H G : Hp} {W : Wm} {p : Lab} (e : Same F G) (hh : ∀ a q o, W a = some (p ++ q) → H a = some o → immO o = false → G a = some o) : ∀ {t : Ow} {q : Lab} {v : V} {d : D}, noO t = true → OwnT K F H W t (p ++ q) v d → Rep K G v d
  | .g, q0, _, d, _, ⟨G', r, h⟩ => Rep.mono (fun a o z => (r a o z).elim (fun y => e _ _ y) fun ⟨q, vs, y1, y2, y3⟩ => hh a (q0 ++ q) o (by rw [List.append_assoc] at y1; exact y1) y2 (by rw [y3]; rfl)) d h
  | .sh, _, _, d, _, h => Rep.mono e d h
  | .l t, q, v, d, n, h => by
    obtain ⟨o, vs, ds, rfl, rfl, w, ho, z, ln, r⟩ := h
    refine .lst (hh _ _ _ w ho rfl) z (repL_of ln fun j v' d' a b => ?_)
    have h1 := r j v' d' a b
    rw [List.append_assoc] at h1
    exact OwnT.rep e hh (show noO t = true from n) h1
  | .m t, q, v, d, n, h => by
    rcases h with ⟨o, vs, ds, rfl, rfl, w, ho, z, ln, r⟩ | ⟨_, r⟩
    · refine .lst (hh _ _ _ w ho rfl) z (repL_of ln fun j v' d' a b => ?_)
      have h1 := r j v' d' a b
      rw [List.append_assoc] at h1
      exact OwnT.rep e hh (show noO t = true from n) h1
    · exact Rep.mono e d r
  | .r bs, q, v, d, n, h => by
    obtain ⟨o, vs, ds, rfl, rfl, w, ho, z, ln, lb, r⟩ := h
    refine .lst (hh _ _ _ w ho rfl) z (repL_of ln fun j v' d' a b => ?_)
    obtain ⟨t, c⟩ : ∃ t, bs[j]? = some t := ⟨bs[j]'(by rw [lb]; exact (List.getElem?_eq_some_iff.mp b).1), List.getElem?_eq_getElem _⟩
    exact (r j v' d' t a b c).rep e fun a o w h i => by
      rw [List.append_assoc] at w
      exact hh _ _ _ w h i.1
  | .d b t, q, v, d, n, h => by cases (show false = true from n)
  | .o, q, v, d, n, h => by cases (show false = true from n)
theorem OwnT.repO {K : KF} {F H G : Hp} {W : Wm} {p : Lab} (e : Same F G) (hh : ∀ a q o, W a = some (p ++ q) → H a = some o → isDct o = false → G a = some o) (hl : ∀ a q o, W a = some (p ++ q) → H a = some o → isDct o = true → ∃ ob, G a = some (.frz ob o)) : ∀ {t : Ow} {q : Lab} {v : V} {d : D}, OwnT K F H W t (p ++ q) v d → Rep K G v d
  | .g, q0, _, d, ⟨G', r, h⟩ => Rep.mono (fun a o z => (r a o z).elim (fun y => e _ _ y) fun ⟨q, vs, y1, y2, y3⟩ => hh a (q0 ++ q) o (by rw [List.append_assoc] at y1; exact y1) y2 (by rw [y3]; rfl)) d h
  | .sh, _, _, d, h => Rep.mono e d h
  | .l t, q, v, d, h => by
    obtain ⟨o, vs, ds, rfl, rfl, w, ho, z, ln, r⟩ := h
    refine .lst (hh _ _ _ w ho rfl) z (repL_of ln fun j v' d' a b => ?_)
    have h1 := r j v' d' a b
    rw [List.append_assoc] at h1
    exact OwnT.repO e hh hl h1
  | .m t, q, v, d, h => by
    rcases h with ⟨o, vs, ds, rfl, rfl, w, ho, z, ln, r⟩ | ⟨_, r⟩
    · refine .lst (hh _ _ _ w ho rfl) z (repL_of ln fun j v' d' a b => ?_)
      have h1 := r j v' d' a b
      rw [List.append_assoc] at h1
      exact OwnT.repO e hh hl h1
    · exact Rep.mono e d r
  | .r bs, q, v, d, h => by
    obtain ⟨o, vs, ds, rfl, rfl, w, ho, z, ln, lb, r⟩ := h
    refine .lst (hh _ _ _ w ho rfl) z (repL_of ln fun j v' d' a b => ?_)
    obtain ⟨t, c⟩ : ∃ t, bs[j]? = some t := ⟨bs[j]'(by rw [lb]; exact (List.getElem?_eq_some_iff.mp b).1), List.getElem?_eq_getElem _⟩
    exact (r j v' d' t a b c).rep e fun a o w h i => by
      rw [List.append_assoc] at w
      exact hh _ _ _ w h i.2
  | .d true t, q, v, d, h => by
    obtain ⟨o, vs, ks, ds, rfl, rfl, w, ⟨kvs, ho, k1, k2⟩, ln, r⟩ := h
    have r' : RepL K G vs ds := repL_of ln fun j v' d' a b => by
      have h1 := r j v' d' a b
      rw [List.append_assoc] at h1
      exact OwnT.repO e hh hl h1
    subst k2
    obtain ⟨ob, hg⟩ := hl _ _ _ w ho rfl
    exact .dt hg k1 r'
  | .d false t, q, v, d, h => by
    obtain ⟨o, vs, ks, ds, rfl, rfl, w, ⟨kvs, ho, k1, k2⟩, ln, r⟩ := h
    have r' : RepL K G vs ds := repL_of ln fun j v' d' a b => by
      have h1 := r j v' d' a b
      rw [List.append_assoc] at h1
      exact OwnT.repO e hh hl h1
    subst k2
    obtain ⟨ob, hg⟩ := hl _ _ _ w ho rfl
    exact .dk hg k1 r'
  | .o, q, v, d, h => by
    obtain ⟨x, C, dx, fs, c, ns, ds, rfl, rfl, w, ho, k, n, z, r⟩ := h
    exact .ins (hh _ _ _ w ho rfl) k n (r.mono e _)
end Dl
namespace Dl
open PySem PySem.Spec PyProof.Rows L2
variable [Tbs]
def nxd : HO → Bool
  | .xd _ => false
  | .ext _ => false
  | _ => true
def nxo : HO → Bool
  | .xd _ => false
  | .tup _ => false
  | .tbl _ => false
  | .ext _ => false
  | _ => true
theorem nxo_tbl {o : HO} (h : nxo o = true) : ∀ ps, o ≠ .tbl ps := fun ps e => by subst e; cases h
theorem nxo_tco {o : HO} (h : nxo o = true) (t : TCo o) : False := by
  rcases t with ⟨_, rfl⟩ | ⟨_, _, rfl⟩
  · cases h
  · unfold LamX.CodeO at h; cases h
theorem TabW.w {F H : Hp} {W W' : Wm} {P : Addr} {q : Str} (t : TabW F H W P q) (ow : ∀ a l, W' a = some l → ∃ o, H a = some o ∧ nxo o = true) : TabW F H W' P q := by
  have no : ∀ a o, H a = some o → TCo o → W' a = none := fun a o h c => by
    cases q : W' a with
    | none => rfl
    | some l =>
      obtain ⟨o', e1, e2⟩ := ow a l q
      rw [h] at e1
      cases e1
      exact (nxo_tco e2 c).elim
  obtain ⟨h1, h2, ps, h3, h4, h5⟩ := t
  refine ⟨h1, no _ _ h3 (.inl ⟨ps, rfl⟩), ps, h3, h4, fun pos cv e => ?_⟩
  obtain ⟨c, e1, e2, e3⟩ := h5 pos cv e
  exact ⟨c, e1, no _ _ e3 (.inr ⟨c, q, rfl⟩), e3⟩
theorem nxo_tup {o : HO} (h : nxo o = true) : isTup o = false := by cases o <;> first | rfl | cases h
structure Xn where
  c : Str
  ns : List Str
  vs : List D
abbrev Ent := Ow × D
abbrev Nv := List (Option Ent)
inductive Rs (α : Type) where
  | ok (a : α) (E : Nv) | er (x : Xn) (E : Nv) | stk
abbrev M (α : Type) := Nv → Rs α
def ret {α : Type} (a : α) : M α := fun E => .ok a E
def stuck {α : Type} : M α := fun _ => .stk
def bnd {α β : Type} (m : M α) (k : α → M β) : M β := fun E => match m E with
  | .ok a E' => k a E'
  | .er x E' => .er x E'
  | .stk => .stk
def ofO {α : Type} : Option α → M α
  | some a => ret a
  | none => stuck
def rd (i : Nat) : M D := fun E => match E[i]? with
  | some (some (.sh, d)) => .ok d E
  | _ => .stk
def XRep (K : KF) (F H : Hp) (x : Xn) (cls : Value) (dx : Option Addr) : Prop :=
  cls = .ref (He.ga K x.c) ∧ ((x.ns = [] ∧ x.vs = []) ∨ ∃ a fs, dx = some a ∧ H a = some (.xd fs) ∧ fs.map (·.1) = x.ns ∧ RepL K F (fs.map (·.2)) x.vs)
structure Bs where
  pn : Nat → Option V
  F0 : Hp
  W0 : Wm
  H0 : Hp
structure Ios where
  l : List Nat
  ok : (Nat → Option V) → Hp → Prop
  mono : ∀ {pn : Nat → Option V} {F F' : Hp}, Same F F' → ok pn F → ok pn F'
instance : Membership Nat Ios := ⟨fun s i => i ∈ s.l⟩
def Ios.contains (s : Ios) (i : Nat) : Bool := s.l.contains i
def Ios.of (l : List Nat) : Ios := ⟨l, fun _ _ => True, fun _ h => h⟩
theorem Ios.no {s : Ios} {i : Nat} (h : s.contains i = false) : i ∉ s := by
  unfold Ios.contains at h
  rw [List.contains_eq_mem, decide_eq_false_iff_not] at h
  exact h
def Tbo (F H : Hp) (W : Wm) : Prop := ∀ P q, Tbs.n P = some q → TabW F H W P q
structure St (K : KF) (ios : Ios) (B : Bs) (F : Hp) (W : Wm) (E : Nv) (σ : L2.St) (H : Hp) : Prop where
  fh : Same F H
  st : Stp B.F0 B.W0 B.H0 F W H
  nz : NoFz H
  ow : ∀ a l, W a = some l → F a = none ∧ ∃ o, H a = some o ∧ nxo o = true
  fr : ∀ a l, W a = some l → ∃ i p, l = i :: p ∧ (i ∈ ios ∨ B.H0 a = none)
  w0 : ∀ a l, B.W0 a = some l → ∃ i p, l = i :: p ∧ i ∈ ios
  vr : ∀ i t d, E[i]? = some (some (t, d)) → ∃ v, σ[i]? = some (some v) ∧ OwnT K F H W t [i] v d
  pn : ∀ i v, B.pn i = some v → i ∈ ios ∧ σ[i]? = some (some v)
  ln : E.length = σ.length
  xo : ios.ok B.pn B.F0 ∧ Tbo B.F0 B.H0 B.W0
theorem St.tbs {K : KF} {ios : Ios} {B : Bs} {F : Hp} {W : Wm} {E : Nv} {σ : L2.St} {H : Hp} (S : St K ios B F W E σ H) : Tbo F H W := fun P q n => S.st.tb P q (S.xo.2 P q n)
structure Gr (F H F' H' : Hp) : Prop where
  fx : Same F F'
  hx : Same H H'
  fh : Same F' H'
  nz : NoFz H → NoFz H'
  fn : ∀ a o, F' a = some o → isTup o = false → F a = some o ∨ H a = none
theorem Gr.refl {F H : Hp} (fh : Same F H) : Gr F H F H := ⟨Same.refl F, Same.refl H, fh, fun z => z, fun _ _ h _ => .inl h⟩
theorem same_new {H : Hp} {p : Addr} {o : HO} (h : H p = none) : Same H (upd H p o) := fun b x e => by
  rw [upd_ne (ne_of_none e h)]
  exact e
theorem Gr.new {F H : Hp} {p : Addr} {o : HO} (fh : Same F H) (hp : H p = none) (ho : ∀ ob u, o ≠ .frz ob u) : Gr F H (upd F p o) (upd H p o) where
  fx := same_new (fh.free hp)
  hx := same_new hp
  fh := fun b x e => by
    by_cases hb : b = p
    · subst hb; rw [upd_same] at e ⊢; exact e
    · rw [upd_ne hb] at e ⊢; exact fh _ _ e
  nz := fun z a ob u e => by
    by_cases hb : a = p
    · subst hb; rw [upd_same] at e; exact absurd (Option.some.inj e) (ho _ _)
    · rw [upd_ne hb] at e; exact z _ _ _ e
  fn := fun a x e _ => by
    by_cases hb : a = p
    · subst hb; exact .inr hp
    · rw [upd_ne hb] at e; exact .inl e
theorem Gr.trans {F H F1 H1 F2 H2 : Hp} (a : Gr F H F1 H1) (b : Gr F1 H1 F2 H2) : Gr F H F2 H2 :=
  ⟨a.fx.trans b.fx, a.hx.trans b.hx, b.fh, fun z => b.nz (a.nz z), fun x o h n => by
    rcases b.fn x o h n with h | h
    · exact a.fn x o h n
    · exact .inr (a.hx.free h)⟩
theorem Gr.stp {F H F' H' : Hp} (g : Gr F H F' H') (W : Wm) : Stp F W H F' W H' :=
  .mk6 g.fx g.fn (fun _ _ h => h) (fun _ _ h => .inl h) (fun a o h _ => g.hx a o h) (fun a o h => ⟨o, g.hx a o h⟩) (fun a o _ h => g.hx a o h) (ft_of g.fn g.fh fun a o h _ _ => g.hx a o h)
section
variable {K : KF} {ios : Ios} {B : Bs} {F F' : Hp} {W W' : Wm} {E : Nv} {σ : L2.St} {H H' : Hp}
theorem Stp.nf (s : Stp F W H F' W' H') (fh : Same F' H') {a : Addr} {o o' : HO} (h1 : F a = none) (h2 : H a = some o) (h3 : H' a = some o') (ho : nxo o' = true) : F' a = none := by
  cases q : F' a with
  | none => rfl
  | some u =>
    have e := fh a u q
    rw [h3] at e
    cases e
    rcases s.fn a _ q (nxo_tup ho) with z | z
    · rw [h1] at z; cases z
    · rw [h2] at z; cases z
theorem St.grow (S : St K ios B F W E σ H) (g : Gr F H F' H') : St K ios B F' W E σ H' where
  fh := g.fh
  st := S.st.trans (g.stp W)
  nz := g.nz S.nz
  ow := fun a l h => by
    obtain ⟨h1, o, h2⟩ := S.ow a l h
    exact ⟨(g.stp W).nf g.fh h1 h2.1 (g.hx a o h2.1) h2.2, o, g.hx a o h2.1, h2.2⟩
  fr := S.fr
  w0 := S.w0
  vr := fun i t d h => by
    obtain ⟨v, h1, h2⟩ := S.vr i t d h
    exact ⟨v, h1, h2.keep g.fx (fun _ _ q => q) fun a l o _ q => g.hx a o q⟩
  pn := S.pn
  ln := S.ln
  xo := S.xo
def Pst (K : KF) (ios : Ios) (B : Bs) (Wx : WX) (σ : L2.St) {α β : Type} (R : Hp → β → α → Prop) (F : Hp) (W : Wm) (H : Hp) (r : Rs α) (Q : β → Hp → Prop) : Prop :=
  match r with
  | .ok a E' => ∀ F' W' H' b, St K ios B F' W' E' σ H' → Stp F W H F' W' H' → R F' b a → Q b H'
  | .er x E' => ∀ F' W' H' c dx, St K ios B F' W' E' σ H' → Stp F W H F' W' H' → XRep K F' H' x c dx → Wx c dx σ H'
  | .stk => False
variable {Wx : WX} {α β γ δ : Type} {R : Hp → β → α → Prop} {R' : Hp → δ → γ → Prop} {Q : β → Hp → Prop} {Q' : δ → Hp → Prop}
theorem Pst.from {F1 : Hp} {W1 : Wm} {H1 : Hp} {r : Rs α} (s : Stp F W H F1 W1 H1) (h : Pst K ios B Wx σ R F W H r Q) : Pst K ios B Wx σ R F1 W1 H1 r Q := by
  cases r with
  | ok a E' => exact fun F' W' H' b S t rr => h F' W' H' b S (s.trans t) rr
  | er x E' => exact fun F' W' H' c dx S t rr => h F' W' H' c dx S (s.trans t) rr
  | stk => exact h
theorem Pst.seq {m : M α} {k : α → M γ} (h : Pst K ios B Wx σ R' F W H (bnd m k E) Q')
    (g : ∀ F' W' H' b a E', St K ios B F' W' E' σ H' → Stp F W H F' W' H' → R F' b a → Pst K ios B Wx σ R' F' W' H' (k a E') Q' → Q b H') : Pst K ios B Wx σ R F W H (m E) Q := by
  unfold bnd at h
  cases q : m E with
  | ok a E' =>
    rw [q] at h
    exact fun F' W' H' b S t rr => g F' W' H' b a E' S t rr (Pst.from t h)
  | er x E' =>
    rw [q] at h
    exact h
  | stk =>
    rw [q] at h
    exact h.elim
theorem Pst.done {a : α} {b : β} (h : Pst K ios B Wx σ R F W H (ret a E) Q) (S : St K ios B F W E σ H) (r : R F b a) : Q b H := h F W H b S (Stp.refl F W H) r
theorem Pst.grown {a : α} {b : β} (h : Pst K ios B Wx σ R F W H (ret a E) Q) (S : St K ios B F W E σ H) (g : Gr F H F' H') (r : R F' b a) : Q b H' := h F' W H' b (S.grow g) (g.stp W) r
theorem Pst.some {o : Option α} (h : Pst K ios B Wx σ R F W H (ofO o E) Q) : ∃ a, o = Option.some a ∧ Pst K ios B Wx σ R F W H (ret a E) Q := by
  cases o with
  | none => exact h.elim
  | some a => exact ⟨a, rfl, h⟩
end
structure PP (X : Cx) (ios : Ios) (Wx : WX) (e : Expr) (f : M D) : Prop where
  ex : ∃ t : TE, PE X e t ∧ ∀ B F W E σ H Q, St X.K ios B F W E σ H → Pst X.K ios B Wx σ (Rep X.K) F W H (f E) Q → t σ H Q
structure PB (X : Cx) (ios : Ios) (Wx : WX) (e : Expr) (f : M Bool) : Prop where
  ex : ∃ t : TT, PT X e t ∧ ∀ B F W E σ H Q, St X.K ios B F W E σ H → Pst X.K ios B Wx σ (fun _ (b : Bool) a => b = a) F W H (f E) Q → t σ H Q
structure PBW (X : Cx) (ios : Ios) (Wx : WX) (e : Expr) (f : M Bool) : Prop where
  ex : ∃ t : TT, PW X e t ∧ ∀ B F W E σ H Q, St X.K ios B F W E σ H → Pst X.K ios B Wx σ (fun _ (b : Bool) a => b = a) F W H (f E) Q → t σ H Q
structure PL (X : Cx) (ios : Ios) (Wx : WX) (es : List Expr) (f : M (List D)) : Prop where
  ex : ∃ t : TA, PA X es t ∧ ∀ B F W E σ H Q, St X.K ios B F W E σ H → Pst X.K ios B Wx σ (RepL X.K) F W H (f E) Q → t σ H Q
section
variable {X : Cx} {ios : Ios} {Wx : WX} {a b c e : Expr} {es : List Expr} {fa fb fc : M D} {pos : Pos}
theorem pp_var (i : Nat) {x : Str} (hN : X.N[i]? = some x := by rfl) (hv : Vis X.env.scope x := by first | exact Or.inl rfl | exact Or.inr (Or.inl rfl) | exact Or.inr (Or.inr rfl)) (hd : (x == ("__debug__" : Str)) = false := by decide)
    (hcd : (x == ("__classdict__" : Str)) = false := by decide) : PP X ios Wx (.Name x pos) (rd i) := by
  refine ⟨_, pe_var hN hv hd hcd, fun B F W E σ H Q S h => ?_⟩
  unfold rd at h
  cases q : E[i]? with
  | none => rw [q] at h; exact h.elim
  | some o =>
    rw [q] at h
    cases o with
    | none => exact h.elim
    | some p =>
      obtain ⟨t, d⟩ := p
      obtain ⟨v, h1, h2⟩ := S.vr i t d q
      cases t with
      | sh => exact ⟨v, h1, h F W H v S (Stp.refl F W H) h2⟩
      | l t => exact h.elim
      | d b t => exact h.elim
      | o => exact h.elim
      | m t => exact h.elim
      | r t => exact h.elim
      | g => exact h.elim
theorem pp_c {v : V} {d : D} (h : PE X e (tC v)) (r : ∀ F : Hp, Rep X.K F v d) : PP X ios Wx e (ret d) := ⟨_, h, fun B F W E σ H Q S k => k.done S (r F)⟩
theorem pp_int {i j} : PP X ios Wx (.Constant (.int i) j pos) (ret (.int i)) := pp_c pe_int fun _ => .int i
theorem pp_bl {b j} : PP X ios Wx (.Constant (.bool b) j pos) (ret (.bl b)) := pp_c pe_bl fun _ => .bl b
theorem pp_non {j} : PP X ios Wx (.Constant .none j pos) (ret .non) := pp_c pe_non fun _ => .non
theorem pp_str {x j} : PP X ios Wx (.Constant (.str x) j pos) (ret (.str x)) := pp_c pe_str fun _ => .str x
theorem pp_glob {x : Str} {v : V} {u : Value} {d : D} (hg : Gl X x) (hm : X.mg x = some u) (r : RelV v u) (rep : ∀ F : Hp, Rep X.K F v d) (hd : (x == ("__debug__" : Str)) = false := by decide) : PP X ios Wx (.Name x pos) (ret d) := pp_c (pe_glob hg hm r hd) rep
def OpD (K : KF) (r : R2) (g : D → D → Option D) : Prop := ∀ (F H : Hp) (x y : V) (d e z : D) (Q : VK), Same F H → Rep K F x d → Rep K F y e → g d e = some z → (∀ F' H' v, Gr F H F' H' → Rep K F' v z → Q v H') → r x y H Q
theorem OpD.or {K : KF} {r r' : R2} {g g' : D → D → Option D} (h : OpD K r g) (h' : OpD K r' g') : OpD K (fun x y H Q => r x y H Q ∨ r' x y H Q) (fun d e => (g d e).or (g' d e)) := by
  intro F H x y d e z Q fh rx ry hz q
  cases q1 : g d e with
  | some z' =>
    have ez : z' = z := by
      have hz' : ((g d e).or (g' d e)) = some z := hz
      rw [q1] at hz'
      exact Option.some.inj hz'
    subst ez
    exact .inl (h F H x y d e _ Q fh rx ry q1 q)
  | none =>
    have hz' : ((g d e).or (g' d e)) = some z := hz
    rw [q1] at hz'
    exact .inr (h' F H x y d e _ Q fh rx ry hz' q)
theorem pp_op {op : Operator} {r : R2} {g : D → D → Option D} (ho : OpR X (binaryOp op) r) (hd : OpD X.K r g) (ha : PP X ios Wx a fa) (hb : PP X ios Wx b fb) : PP X ios Wx (.BinOp a op b pos) (bnd fa fun x => bnd fb fun y => ofO (g x y)) := by
  obtain ⟨ta, pa, ra⟩ := ha.ex
  obtain ⟨tb, pb, rb⟩ := hb.ex
  refine ⟨_, pe_op ho pa pb, fun B F W E σ H Q S h => ?_⟩
  refine ra B F W E σ H _ S (Pst.seq h fun F1 W1 H1 x d E1 S1 s1 r1 h1 => ?_)
  refine rb B F1 W1 E1 σ H1 _ S1 (Pst.seq h1 fun F2 W2 H2 y e E2 S2 s2 r2 h2 => ?_)
  obtain ⟨z, ez, h3⟩ := h2.some
  exact hd F2 H2 x y d e z Q S2.fh (r1.mono s2.fx d) r2 ez fun F' H' v g rr => h3.grown S2 g rr
theorem pp_cmp {op : CmpOp} {r : R2} {g : D → D → Option D} (ho : OpR X (compareOp op) r) (hd : OpD X.K r g) (ha : PP X ios Wx a fa) (hb : PP X ios Wx b fb) (hm : behindInMarks op b = false) : PP X ios Wx (.Compare a [op] [b] pos) (bnd fa fun x => bnd fb fun y => ofO (g x y)) := by
  obtain ⟨ta, pa, ra⟩ := ha.ex
  obtain ⟨tb, pb, rb⟩ := hb.ex
  refine ⟨_, pe_cmpR ho pa pb hm, fun B F W E σ H Q S h => ?_⟩
  refine ra B F W E σ H _ S (Pst.seq h fun F1 W1 H1 x d E1 S1 s1 r1 h1 => ?_)
  refine rb B F1 W1 E1 σ H1 _ S1 (Pst.seq h1 fun F2 W2 H2 y e E2 S2 s2 r2 h2 => ?_)
  obtain ⟨z, ez, h3⟩ := h2.some
  exact hd F2 H2 x y d e z Q S2.fh (r1.mono s2.fx d) r2 ez fun F' H' v g rr => h3.grown S2 g rr
def toB : D → Option Bool
  | .bl b => some b
  | _ => none
theorem pb_cmp {op : CmpOp} {r : R2} {g : D → D → Option D} (ho : OpR X (compareOp op) r) (hd : OpD X.K r g) (ha : PP X ios Wx a fa) (hb : PP X ios Wx b fb) (hm : behindInMarks op b = false) : PB X ios Wx (.Compare a [op] [b] pos) (bnd fa fun x => bnd fb fun y => ofO ((g x y).bind toB)) := by
  obtain ⟨ta, pa, ra⟩ := ha.ex
  obtain ⟨tb, pb, rb⟩ := hb.ex
  refine ⟨_, pt_cmpR ho pa pb hm, fun B F W E σ H Q S h => ?_⟩
  refine ra B F W E σ H _ S (Pst.seq h fun F1 W1 H1 x d E1 S1 s1 r1 h1 => ?_)
  refine rb B F1 W1 E1 σ H1 _ S1 (Pst.seq h1 fun F2 W2 H2 y e E2 S2 s2 r2 h2 => ?_)
  obtain ⟨z, ez, h3⟩ := h2.some
  cases q : g d e with
  | none => rw [q] at ez; cases ez
  | some z' =>
    rw [q] at ez
    cases z' with
    | bl k =>
      cases ez
      refine hd F2 H2 x y d e _ _ S2.fh (r1.mono s2.fx d) r2 q fun F' H' v g rr => ?_
      cases rr
      exact ⟨_, rfl, h3.grown S2 g rfl⟩
    | _ => cases ez
def UnD (K : KF) (r : V → Hp → VK → Prop) (g : D → Option D) : Prop := ∀ (F H : Hp) (x : V) (d z : D) (Q : VK), Same F H → Rep K F x d → g d = some z → (∀ F' H' v, Gr F H F' H' → Rep K F' v z → Q v H') → r x H Q
theorem pp_un {op : UnaryOp} {r : V → Hp → VK → Prop} {g : D → Option D} (ho : UnR X (unaryOp op) r) (hd : UnD X.K r g) (ha : PP X ios Wx a fa) : PP X ios Wx (.UnaryOp op a pos) (bnd fa fun x => ofO (g x)) := by
  obtain ⟨ta, pa, ra⟩ := ha.ex
  refine ⟨_, pe_un ho pa, fun B F W E σ H Q S h => ?_⟩
  refine ra B F W E σ H _ S (Pst.seq h fun F1 W1 H1 x d E1 S1 s1 r1 h1 => ?_)
  obtain ⟨z, ez, h3⟩ := h1.some
  exact hd F1 H1 x d z Q S1.fh r1 ez fun F' H' v g rr => h3.grown S1 g rr
theorem pl_nil : PL X ios Wx [] (ret []) := ⟨_, pa_nil, fun B F W E σ H Q S h => h.done S .nil⟩
theorem pl_cons {fs : M (List D)} (ha : PP X ios Wx a fa) (hr : PL X ios Wx es fs) (hs : starEach (a :: es) X.env = (false, eval a X.env) :: starEach es X.env := by rfl) : PL X ios Wx (a :: es) (bnd fa fun x => bnd fs fun xs => ret (x :: xs)) := by
  obtain ⟨ta, pa, ra⟩ := ha.ex
  obtain ⟨tr, pr, rr⟩ := hr.ex
  refine ⟨_, pa_cons pa pr hs, fun B F W E σ H Q S h => ?_⟩
  refine ra B F W E σ H _ S (Pst.seq h fun F1 W1 H1 x d E1 S1 s1 r1 h1 => ?_)
  refine rr B F1 W1 E1 σ H1 _ S1 (Pst.seq h1 fun F2 W2 H2 y e E2 S2 s2 r2 h2 => ?_)
  exact h2.done S2 (.cons (r1.mono s2.fx d) r2)
def small (n : Nat) : Bool := decide (n ≤ sizeLine)
theorem pp_tup {k : Nat} {fs : M (List D)} (h : PL X ios Wx es fs) : PP X ios Wx (.Tuple es k pos) (bnd fs fun xs => if small xs.length = true then ret (.tup xs) else stuck) := by
  obtain ⟨t, p, r⟩ := h.ex
  refine ⟨_, pe_tup p, fun B F W E σ H Q S h => ?_⟩
  refine r B F W E σ H _ S (Pst.seq h fun F1 W1 H1 x d E1 S1 s1 r1 h1 => ?_)
  by_cases hz : small d.length = true
  · rw [if_pos hz] at h1
    have hz' : d.length ≤ sizeLine := of_decide_eq_true hz
    refine ⟨by rw [r1.length]; exact hz', fun p hp => ?_⟩
    have g : Gr F1 H1 (upd F1 p (.tup x)) (upd H1 p (.tup x)) := Gr.new S1.fh hp fun _ _ z => by cases z
    exact h1.grown S1 g (.tup (SqT.of upd_same) hz' (r1.mono g.fx d))
  · rw [if_neg hz] at h1; exact h1.elim
theorem pp_lst {fs : M (List D)} (h : PL X ios Wx es fs) : PP X ios Wx (.List es pos) (bnd fs fun xs => if small xs.length = true then ret (.lst xs) else stuck) := by
  obtain ⟨t, p, r⟩ := h.ex
  refine ⟨_, pe_lst p, fun B F W E σ H Q S h => ?_⟩
  refine r B F W E σ H _ S (Pst.seq h fun F1 W1 H1 x d E1 S1 s1 r1 h1 => ?_)
  by_cases hz : small d.length = true
  · rw [if_pos hz] at h1
    have hz' : d.length ≤ sizeLine := of_decide_eq_true hz
    refine ⟨by rw [r1.length]; exact hz', fun p hp => ?_⟩
    have g : Gr F1 H1 (upd F1 p (.lst x)) (upd H1 p (.lst x)) := Gr.new S1.fh hp fun _ _ z => by cases z
    exact h1.grown S1 g (.lst upd_same hz' (r1.mono g.fx d))
  · rw [if_neg hz] at h1; exact h1.elim
end
end Dl
namespace Dl
open PySem PySem.Spec PyProof.Rows L2
variable [Tbs]
def shr1 : Option Ent → Option Ent
  | some (t, d) => if noO t = true then some (.sh, d) else none
  | none => none
def shr (E : Nv) : Nv := E.map shr1
theorem shr_get {E : Nv} {i : Nat} {t : Ow} {d : D} (h : (shr E)[i]? = some (some (t, d))) : t = .sh ∧ ∃ t0, noO t0 = true ∧ E[i]? = some (some (t0, d)) := by
  unfold shr at h
  rw [List.getElem?_map] at h
  cases q : E[i]? with
  | none => rw [q] at h; cases h
  | some o =>
    rw [q] at h
    cases o with
    | none =>
      have h' : (some none : Option (Option Ent)) = some (some (t, d)) := h
      cases h'
    | some p =>
      obtain ⟨t0, d0⟩ := p
      have h' : (some (if noO t0 = true then some (Ow.sh, d0) else none) : Option (Option Ent)) = some (some (t, d)) := h
      by_cases c : noO t0 = true
      · rw [if_pos c] at h'
        cases h'
        exact ⟨rfl, t0, c, rfl⟩
      · rw [if_neg c] at h'
        cases h'
theorem shr_len (E : Nv) : (shr E).length = E.length := by unfold shr; rw [List.length_map]
def noW : Wm := fun _ => none
def vis (F : Hp) (W : Wm) (H : Hp) : Hp := fun a => match W a with
  | some _ => (match H a with
    | some o => if immO o = true then none else some o
    | none => none)
  | none => F a
def gl (F H F' : Hp) : Hp := fun a => match F a with
  | some o => some o
  | none => match F' a with
    | some o => (match H a with
      | some _ => if isTup o = true then some o else none
      | none => if immO o = true then some o else none)
    | none => none
theorem vis_of {F : Hp} {W : Wm} {H : Hp} {a : Addr} {o : HO} (h : vis F W H a = some o) : (W a = none ∧ F a = some o) ∨ (H a = some o ∧ immO o = false) := by
  unfold vis at h
  cases q : W a with
  | none => rw [q] at h; exact .inl ⟨rfl, h⟩
  | some l =>
    rw [q] at h
    cases q2 : H a with
    | none => rw [q2] at h; cases h
    | some u =>
      rw [q2] at h
      have h' : (if immO u = true then none else some u) = some o := h
      by_cases c : immO u = true
      · rw [if_pos c] at h'; cases h'
      · rw [if_neg c] at h'; cases h'
        exact .inr ⟨rfl, by simpa using c⟩
theorem vis_own {F : Hp} {W : Wm} {H : Hp} {a : Addr} {l : Lab} {o : HO} (h : W a = some l) (h2 : H a = some o) (h3 : immO o = false) : vis F W H a = some o := by
  unfold vis
  rw [h, h2]
  show (if immO o = true then none else some o) = some o
  rw [h3]
  rfl
theorem vis_none {F : Hp} {W : Wm} {H : Hp} {a : Addr} (h : W a = none) : vis F W H a = F a := by
  unfold vis
  rw [h]
theorem gl_old {F H F' : Hp} {a : Addr} {o : HO} (h : F a = some o) : gl F H F' a = some o := by unfold gl; rw [h]
theorem tup_imm {o : HO} (h : isTup o = true) : immO o = true := by cases o <;> first | rfl | cases h
theorem gl_of {F H F' : Hp} {a : Addr} {o : HO} (h : gl F H F' a = some o) : F a = some o ∨ (F a = none ∧ (H a = none ∨ isTup o = true) ∧ F' a = some o ∧ immO o = true) := by
  unfold gl at h
  cases q : F a with
  | some u => rw [q] at h; exact .inl h
  | none =>
    rw [q] at h
    cases q2 : F' a with
    | none => rw [q2] at h; cases h
    | some u =>
      rw [q2] at h
      cases q1 : H a with
      | some u2 =>
        rw [q1] at h
        have h' : (if isTup u = true then some u else none) = some o := h
        by_cases i : isTup u = true
        · rw [if_pos i] at h'; cases h'; exact .inr ⟨rfl, .inr i, rfl, tup_imm i⟩
        · rw [if_neg i] at h'; cases h'
      | none =>
        rw [q1] at h
        have h' : (if immO u = true then some u else none) = some o := h
        by_cases i : immO u = true
        · rw [if_pos i] at h'; cases h'; exact .inr ⟨rfl, .inl rfl, rfl, i⟩
        · rw [if_neg i] at h'; cases h'
theorem gl_tup {F H F' : Hp} {a : Addr} {o : HO} (e : Same F F') (h2 : F' a = some o) (i : isTup o = true) : gl F H F' a = some o := by
  unfold gl
  cases q : F a with
  | some u =>
    have := e a u q
    rw [h2] at this
    cases this
    rfl
  | none =>
    rw [h2]
    cases H a with
    | some _ => exact if_pos i
    | none => exact if_pos (tup_imm i)
theorem gl_new {F H F' : Hp} {a : Addr} {o : HO} (e : Same F H) (h : H a = none) (h2 : F' a = some o) (i : immO o = true) : gl F H F' a = some o := by
  unfold gl
  rw [e.free h, h2, h]
  exact if_pos i
theorem gl_same {F H F' : Hp} : Same F (gl F H F') := fun a o h => gl_old h
section
variable {K : KF} {ios : Ios} {B : Bs} {F F' : Hp} {W W' : Wm} {E E' : Nv} {σ : L2.St} {H H' : Hp}
theorem St.noLab (S : St K ios B F W E σ H) {a : Addr} {o : HO} (h : F a = some o) : W a = none := by
  cases q : W a with
  | none => rfl
  | some l =>
    rw [(S.ow a l q).1] at h
    cases h
theorem St.visF (S : St K ios B F W E σ H) : Same F (vis F W H) := fun a o h => by rw [vis_none (S.noLab h)]; exact h
theorem St.look (S : St K ios B F W E σ H) : St K ios ⟨B.pn, vis F W H, noW, H⟩ (vis F W H) noW (shr E) σ H where
  fh := fun a o h => by
    rcases vis_of h with ⟨_, q⟩ | ⟨q, _⟩
    · exact S.fh _ _ q
    · exact q
  st := Stp.refl _ noW H
  nz := S.nz
  ow := fun a l h => by cases (show (none : Option Lab) = some l from h)
  fr := fun a l h => by cases (show (none : Option Lab) = some l from h)
  w0 := fun a l h => by cases (show (none : Option Lab) = some l from h)
  vr := fun i t d h => by
    obtain ⟨rfl, t0, n0, h0⟩ := shr_get h
    obtain ⟨v, h1, h2⟩ := S.vr i t0 d h0
    exact ⟨v, h1, OwnT.rep (p := [i]) (q := []) S.visF (fun a q o w z i => vis_own w z i) n0 h2⟩
  pn := S.pn
  ln := by rw [shr_len]; exact S.ln
  xo := ⟨ios.mono (S.st.fx.trans S.visF) S.xo.1, fun P q n => by
    obtain ⟨h1, h2, ps, h3, h4⟩ := S.tbs P q n
    have t1 : TabW (vis F W H) H W P q := ⟨by rw [vis_none h2]; exact h1, h2, ps, h3, h4⟩
    exact t1.w (W' := noW) fun a l z => by cases z⟩
theorem St.looked (S : St K ios B F W E σ H) (S' : St K ios ⟨B.pn, vis F W H, noW, H⟩ F' W' E' σ H') :
    St K ios B (gl F H F') W E σ H' ∧ Stp F W H (gl F H F') W H' ∧ ∀ a o, F' a = some o → immO o = true → gl F H F' a = some o := by
  have t : Stp (vis F W H) noW H F' W' H' := S'.st
  have e : Same F F' := S.visF.trans t.fx
  have s : Stp F W H (gl F H F') W H' := by
    refine ⟨gl_same, fun a o h n => ?_, fun _ _ h => h, fun _ _ h => .inl h, fun a o h _ n => t.hx a o h rfl n, t.hd, fun a o f h => t.fk a o (S.visF a o f) h, fun P q tw => ?_⟩
    · rcases gl_of h with h | ⟨_, h | h, _⟩
      · exact .inl h
      · exact .inr h
      · rw [n] at h; cases h
    · obtain ⟨h1, h2, ps, h3, h4⟩ := tw
      have t0 : TabW (vis F W H) H noW P q := TabW.w ⟨by rw [vis_none h2]; exact h1, h2, ps, h3, h4⟩ fun a l z => by cases z
      obtain ⟨g1, g2, g3⟩ := t.tb P q t0
      refine TabW.w (W := W') ⟨?_, g2, g3⟩ fun a l z => ?_
      · cases e : gl F H F' P with
        | none => rfl
        | some o =>
          rcases gl_of e with h | ⟨_, _, h, _⟩
          · rw [h1] at h; cases h
          · rw [g1] at h; cases h
      · obtain ⟨_, o, z1, z2⟩ := S.ow a l z
        exact ⟨o, t.hx a o z1 rfl (nxo_tbl z2), z2⟩
  have fh' : Same (gl F H F') H' := fun a o h => by
    rcases gl_of h with h | ⟨_, _, h, _⟩
    · exact t.fk a o (S.visF a o h) (S.fh a o h)
    · exact S'.fh a o h
  refine ⟨⟨fh', S.st.trans s, S'.nz, fun a l h => ?_, S.fr, S.w0, fun i t0 d h => ?_, S.pn, S.ln, S.xo⟩, s, fun a o h i => ?_⟩
  · obtain ⟨h1, o, h2⟩ := S.ow a l h
    exact ⟨s.nf fh' h1 h2.1 (t.hx a o h2.1 rfl (nxo_tbl h2.2)) h2.2, o, t.hx a o h2.1 rfl (nxo_tbl h2.2), h2.2⟩
  · obtain ⟨v, h1, h2⟩ := S.vr i t0 d h
    exact ⟨v, h1, h2.keep gl_same (fun _ _ q => q) fun a l o w q => t.hx a o q rfl (by obtain ⟨_, o', z1, z2⟩ := S.ow a l w; rw [q] at z1; cases z1; exact nxo_tbl z2)⟩
  · by_cases it : isTup o = true
    · exact gl_tup e h it
    rcases t.fn a o h (by simpa using it) with q | q
    · rcases vis_of q with ⟨_, q⟩ | ⟨_, q⟩
      · exact gl_old q
      · rw [i] at q; cases q
    · exact gl_new S.fh q h i
end
theorem NoFz.of {F H : Hp} (e : Same F H) (z : NoFz H) : NoFz F := fun a o u h => z a o u (e _ _ h)
def look (f : M D) : M D := fun E => match f (shr E) with
  | .ok d _ => if imm d = true then .ok d E else .stk
  | .er x _ => if immL x.vs = true then .er x E else .stk
  | .stk => .stk
def lookB (f : M Bool) : M Bool := fun E => match f (shr E) with
  | .ok d _ => .ok d E
  | .er x _ => if immL x.vs = true then .er x E else .stk
  | .stk => .stk
theorem XRep.restr {K : KF} {F' G H : Hp} {x : Xn} {c : Value} {dx : Option Addr} (e : ∀ a o, F' a = some o → immO o = true → G a = some o) (nz : NoFz F') (i : immL x.vs = true) (h : XRep K F' H x c dx) : XRep K G H x c dx := by
  obtain ⟨h1, h2⟩ := h
  refine ⟨h1, ?_⟩
  rcases h2 with h2 | ⟨a, fs, e1, e2, e3, r⟩
  · exact .inl h2
  · exact .inr ⟨a, fs, e1, e2, e3, RepL.restr e nz _ i r⟩
theorem XRep.mono {K : KF} {F F' H : Hp} {x : Xn} {c : Value} {dx : Option Addr} (e : Same F F') (h : XRep K F H x c dx) : XRep K F' H x c dx := by
  obtain ⟨h1, h2⟩ := h
  refine ⟨h1, ?_⟩
  rcases h2 with h2 | ⟨a, fs, e1, e2, e3, r⟩
  · exact .inl h2
  · exact .inr ⟨a, fs, e1, e2, e3, RepL.mono e _ r⟩
section
variable {X : Cx} {ios : Ios} {Wx : WX} {a b c e : Expr} {es : List Expr} {fa fb fc f : M D} {pos : Pos}
theorem pp_look (h : PP X ios Wx e f) : PP X ios Wx e (look f) := by
  obtain ⟨t, p, r⟩ := h.ex
  refine ⟨t, p, fun B F W E σ H Q S h => r _ (vis F W H) noW (shr E) σ H Q S.look ?_⟩
  unfold look at h
  cases q : f (shr E) with
  | ok d E2 =>
    rw [q] at h
    by_cases i : imm d = true
    · have h' := h
      rw [show (match (Rs.ok d E2 : Rs D) with | .ok d _ => if imm d = true then Rs.ok d E else .stk | .er x _ => if immL x.vs = true then .er x E else .stk | .stk => .stk) = Rs.ok d E from if_pos i] at h'
      intro F' W' H' v S' t' rr
      obtain ⟨S2, s2, e⟩ := S.looked S'
      exact h' _ W H' v S2 s2 (Rep.restr e (NoFz.of S'.fh S'.nz) d i rr)
    · rw [show (match (Rs.ok d E2 : Rs D) with | .ok d _ => if imm d = true then Rs.ok d E else .stk | .er x _ => if immL x.vs = true then .er x E else .stk | .stk => .stk) = Rs.stk from if_neg i] at h
      exact h.elim
  | er x E2 =>
    rw [q] at h
    by_cases i : immL x.vs = true
    · have h' := h
      rw [show (match (Rs.er x E2 : Rs D) with | .ok d _ => if imm d = true then Rs.ok d E else .stk | .er x _ => if immL x.vs = true then Rs.er x E else .stk | .stk => .stk) = Rs.er x E from if_pos i] at h'
      intro F' W' H' c dx S' t' rr
      obtain ⟨S2, s2, e⟩ := S.looked S'
      exact h' _ W H' c dx S2 s2 (XRep.restr e (NoFz.of S'.fh S'.nz) i rr)
    · rw [show (match (Rs.er x E2 : Rs D) with | .ok d _ => if imm d = true then Rs.ok d E else .stk | .er x _ => if immL x.vs = true then .er x E else .stk | .stk => .stk) = Rs.stk from if_neg i] at h
      exact h.elim
  | stk => rw [q] at h; exact h.elim
theorem pb_look {f : M Bool} (h : PB X ios Wx e f) : PB X ios Wx e (lookB f) := by
  obtain ⟨t, p, r⟩ := h.ex
  refine ⟨t, p, fun B F W E σ H Q S h => r _ (vis F W H) noW (shr E) σ H Q S.look ?_⟩
  unfold lookB at h
  cases q : f (shr E) with
  | ok d E2 =>
    rw [q] at h
    intro F' W' H' v S' t' rr
    obtain ⟨S2, s2, e⟩ := S.looked S'
    exact h _ W H' v S2 s2 rr
  | er x E2 =>
    rw [q] at h
    by_cases i : immL x.vs = true
    · have h' := h
      rw [show (match (Rs.er x E2 : Rs Bool) with | .ok d _ => Rs.ok d E | .er x _ => if immL x.vs = true then Rs.er x E else .stk | .stk => .stk) = Rs.er x E from if_pos i] at h'
      intro F' W' H' c dx S' t' rr
      obtain ⟨S2, s2, e⟩ := S.looked S'
      exact h' _ W H' c dx S2 s2 (XRep.restr e (NoFz.of S'.fh S'.nz) i rr)
    · rw [show (match (Rs.er x E2 : Rs Bool) with | .ok d _ => Rs.ok d E | .er x _ => if immL x.vs = true then .er x E else .stk | .stk => .stk) = Rs.stk from if_neg i] at h
      exact h.elim
  | stk => rw [q] at h; exact h.elim
end
def Fresh (Wr : Wm) (H F' : Hp) (W' : Wm) (H' : Hp) : Prop := ∀ a l, Wr a = some l → H a = none ∧ W' a = none ∧ F' a = none ∧ ∃ o, H' a = some o ∧ nxo o = true
theorem Fresh.no {H F' : Hp} {W' : Wm} {H' : Hp} : Fresh noW H F' W' H' := fun a l h => by cases (show (none : Option Lab) = some l from h)
def PstO (K : KF) (ios : Ios) (B : Bs) (Wx : WX) (σ : L2.St) (F : Hp) (W : Wm) (H : Hp) (r : Rs Ent) (Q : VK) : Prop :=
  match r with
  | .ok p E' => ∀ F' W' H' v Wr, St K ios B F' W' E' σ H' → Stp F W H F' W' H' → Fresh Wr H F' W' H' → OwnT K F' H' Wr p.1 [] v p.2 → Q v H'
  | .er x E' => ∀ F' W' H' c dx, St K ios B F' W' E' σ H' → Stp F W H F' W' H' → XRep K F' H' x c dx → Wx c dx σ H'
  | .stk => False
structure PO (X : Cx) (ios : Ios) (Wx : WX) (e : Expr) (f : M Ent) : Prop where
  ex : ∃ t : TE, PE X e t ∧ ∀ B F W E σ H Q, St X.K ios B F W E σ H → PstO X.K ios B Wx σ F W H (f E) Q → t σ H Q
def sh1 (f : M D) : M Ent := bnd f fun d => ret (.sh, d)
def own1 (f : M (List D)) : M Ent := bnd f fun xs => if small xs.length = true then ret (.l .sh, .lst xs) else stuck
section
variable {K : KF} {ios : Ios} {B : Bs} {F F' : Hp} {W W' : Wm} {E E' : Nv} {σ : L2.St} {H H' : Hp} {Wx : WX}
theorem PstO.from {F1 : Hp} {W1 : Wm} {H1 : Hp} {r : Rs Ent} {Q : VK} (s : Stp F W H F1 W1 H1) (h : PstO K ios B Wx σ F W H r Q) : PstO K ios B Wx σ F1 W1 H1 r Q := by
  cases r with
  | ok a E' => exact fun F' W' H' b Wr S t fr rr => h F' W' H' b Wr S (s.trans t) (fun a l z => by
      obtain ⟨z1, z2⟩ := fr a l z
      exact ⟨s.back z1, z2⟩) rr
  | er x E' => exact fun F' W' H' c dx S t rr => h F' W' H' c dx S (s.trans t) rr
  | stk => exact h
theorem PstO.seq {α β : Type} {R : Hp → β → α → Prop} {m : M α} {k : α → M Ent} {Q : β → Hp → Prop} {Q' : VK} (h : PstO K ios B Wx σ F W H (bnd m k E) Q')
    (g : ∀ F' W' H' b a E', St K ios B F' W' E' σ H' → Stp F W H F' W' H' → R F' b a → PstO K ios B Wx σ F' W' H' (k a E') Q' → Q b H') : Pst K ios B Wx σ R F W H (m E) Q := by
  unfold bnd at h
  cases q : m E with
  | ok a E' =>
    rw [q] at h
    exact fun F' W' H' b S t rr => g F' W' H' b a E' S t rr (PstO.from t h)
  | er x E' =>
    rw [q] at h
    exact h
  | stk =>
    rw [q] at h
    exact h.elim
theorem Stp.laid {p : Addr} {o : HO} (hp : H p = none) : Stp F W H F W (upd H p o) :=
  .mk6 (Same.refl F) (fun _ _ h _ => .inl h) (fun _ _ h => h) (fun _ _ h => .inl h) (fun a u h _ => same_new hp a u h) (fun a u h => ⟨u, same_new hp a u h⟩) (fun a u _ h => same_new hp a u h) fun _ h _ _ => h
theorem St.laid {p : Addr} {o : HO} (S : St K ios B F W E σ H) (hp : H p = none) (ho : ∀ ob u, o ≠ .frz ob u) : St K ios B F W E σ (upd H p o) where
  fh := S.fh.trans (same_new hp)
  st := S.st.trans (Stp.laid hp)
  nz := fun a ob u e => by
    by_cases hb : a = p
    · subst hb; rw [upd_same] at e; exact absurd (Option.some.inj e) (ho _ _)
    · rw [upd_ne hb] at e; exact S.nz _ _ _ e
  ow := fun a l h => by
    obtain ⟨h1, u, h2⟩ := S.ow a l h
    exact ⟨h1, u, same_new hp a u h2.1, h2.2⟩
  fr := S.fr
  w0 := S.w0
  vr := fun i t d h => by
    obtain ⟨v, h1, h2⟩ := S.vr i t d h
    exact ⟨v, h1, h2.keep (Same.refl F) (fun _ _ q => q) fun a l u _ q => same_new hp a u q⟩
  pn := S.pn
  ln := S.ln
  xo := S.xo
theorem St.noW {p : Addr} (S : St K ios B F W E σ H) (hp : H p = none) : W p = none := by
  cases q : W p with
  | none => rfl
  | some l =>
    obtain ⟨_, o, h, _⟩ := S.ow p l q
    rw [hp] at h; cases h
def oneW (p : Addr) : Wm := fun a => if a = p then some [] else none
theorem oneW_self (p : Addr) : oneW p p = some [] := if_pos rfl
theorem oneW_of {p a : Addr} {l : Lab} (h : oneW p a = some l) : a = p ∧ l = [] := by
  unfold oneW at h
  by_cases e : a = p
  · rw [if_pos e] at h; cases h; exact ⟨e, rfl⟩
  · rw [if_neg e] at h; cases h
theorem PstO.listed {ds : List D} {vs : List V} {p : Addr} {Q : VK} (h : PstO K ios B Wx σ F W H (ret (.l .sh, .lst ds) E) Q) (S : St K ios B F W E σ H) (hp : H p = none) (z : ds.length ≤ sizeLine) (r : RepL K F vs ds) : Q (.ref p) (upd H p (.lst vs)) := by
  refine h F W _ _ (oneW p) (S.laid hp fun _ _ z => by cases z) (Stp.laid hp) (fun a l q => ?_) ⟨p, vs, ds, rfl, rfl, oneW_self p, upd_same, z, r.length, fun j v' d' e1 e2 => ?_⟩
  · obtain ⟨rfl, _⟩ := oneW_of q
    exact ⟨hp, S.noW hp, S.fh.free hp, _, upd_same, rfl⟩
  · obtain ⟨w, e3, r3⟩ := r.get e2
    rw [e1] at e3
    cases e3
    exact r3
theorem PstO.ofSh {f : M D} {Q : VK} (h : PstO K ios B Wx σ F W H (sh1 f E) Q) : Pst K ios B Wx σ (Rep K) F W H (f E) Q := by
  unfold sh1 at h
  refine PstO.seq h fun F' W' H' v d E' S t rr h2 => ?_
  exact h2 F' W' H' v noW S (Stp.refl _ _ _) Fresh.no rr
end
section
variable {X : Cx} {ios : Ios} {Wx : WX} {a b c e : Expr} {es : List Expr} {fa fb fc f : M D} {pos : Pos}
theorem po_sh (h : PP X ios Wx e f) : PO X ios Wx e (sh1 f) := by
  obtain ⟨t, p, r⟩ := h.ex
  exact ⟨t, p, fun B F W E σ H Q S h => r B F W E σ H Q S h.ofSh⟩
theorem po_lst {fs : M (List D)} (h : PL X ios Wx es fs) : PO X ios Wx (.List es pos) (own1 fs) := by
  obtain ⟨t, p, r⟩ := h.ex
  refine ⟨_, pe_lst p, fun B F W E σ H Q S h => ?_⟩
  refine r B F W E σ H _ S (PstO.seq h fun F1 W1 H1 x d E1 S1 s1 r1 h1 => ?_)
  by_cases hz : small d.length = true
  · rw [if_pos hz] at h1
    have hz' : d.length ≤ sizeLine := of_decide_eq_true hz
    exact ⟨by rw [r1.length]; exact hz', fun p hp => h1.listed S1 hp hz' r1⟩
  · rw [if_neg hz] at h1; exact h1.elim
end
inductive Fl where
  | nx (E : Nv) | rt (r : Ent) (E : Nv) | bk (E : Nv) | ct (E : Nv) | er (x : Xn) (E : Nv) | stk
abbrev G := Nv → Fl
def PstS (K : KF) (ios : Ios) (B : Bs) (Wx : WX) (F : Hp) (r : Fl) (D : Ends) : Prop :=
  match r with
  | .nx E' => ∀ F' W' H' σ', St K ios B F' W' E' σ' H' → Same F F' → D.nx σ' H'
  | .bk E' => ∀ F' W' H' σ', St K ios B F' W' E' σ' H' → Same F F' → D.bk σ' H'
  | .ct E' => ∀ F' W' H' σ', St K ios B F' W' E' σ' H' → Same F F' → D.ct σ' H'
  | .rt p E' => ∀ F' W' H' σ' v Wr, St K ios B F' W' E' σ' H' → Same F F' → Fresh Wr B.H0 F' W' H' → OwnT K F' H' Wr p.1 [] v p.2 → D.rt v H'
  | .er x E' => ∀ F' W' H' σ' c dx, St K ios B F' W' E' σ' H' → Same F F' → XRep K F' H' x c dx → Wx c dx σ' H'
  | .stk => False
structure PD (X : Cx) (ios : Ios) (Wx : WX) (st : Stmt) (g : G) : Prop where
  ex : ∃ t : TS, PS X st t ∧ ∀ B F W E σ H D, St X.K ios B F W E σ H → PstS X.K ios B Wx F (g E) D → t D σ H
structure PDs (X : Cx) (ios : Ios) (Wx : WX) (st : List Stmt) (g : G) : Prop where
  ex : ∃ t : TS, PSs X st t ∧ ∀ B F W E σ H D, St X.K ios B F W E σ H → PstS X.K ios B Wx F (g E) D → t D σ H
def then_ (g h : G) : G := fun E => match g E with
  | .nx E' => h E'
  | .rt p E' => .rt p E'
  | .bk E' => .bk E'
  | .ct E' => .ct E'
  | .er x E' => .er x E'
  | .stk => .stk
def done : G := fun E => .nx E
def andS {α : Type} (m : M α) (k : α → G) : G := fun E => match m E with
  | .ok a E' => k a E'
  | .er x E' => .er x E'
  | .stk => .stk
section
variable {K : KF} {ios : Ios} {B : Bs} {F F' : Hp} {W W' : Wm} {E E' : Nv} {σ : L2.St} {H H' : Hp} {Wx : WX}
theorem PstS.from {F1 : Hp} {r : Fl} {D : Ends} (s : Same F F1) (h : PstS K ios B Wx F r D) : PstS K ios B Wx F1 r D := by
  cases r with
  | nx E' => exact fun F' W' H' σ' S t => h F' W' H' σ' S (s.trans t)
  | bk E' => exact fun F' W' H' σ' S t => h F' W' H' σ' S (s.trans t)
  | ct E' => exact fun F' W' H' σ' S t => h F' W' H' σ' S (s.trans t)
  | rt p E' => exact fun F' W' H' σ' v Wr S t => h F' W' H' σ' v Wr S (s.trans t)
  | er x E' => exact fun F' W' H' σ' c dx S t => h F' W' H' σ' c dx S (s.trans t)
  | stk => exact h
theorem PstS.seq {α β : Type} {R : Hp → β → α → Prop} {m : M α} {k : α → G} {Q : β → Hp → Prop} {D : Ends} (h : PstS K ios B Wx F (andS m k E) D)
    (g : ∀ F' W' H' b a E', St K ios B F' W' E' σ H' → Stp F W H F' W' H' → R F' b a → PstS K ios B Wx F' (k a E') D → Q b H') : Pst K ios B Wx σ R F W H (m E) Q := by
  unfold andS at h
  cases q : m E with
  | ok a E' =>
    rw [q] at h
    exact fun F' W' H' b S t rr => g F' W' H' b a E' S t rr (PstS.from t.fx h)
  | er x E' =>
    rw [q] at h
    exact fun F' W' H' c dx S t rr => h F' W' H' σ c dx S t.fx rr
  | stk =>
    rw [q] at h
    exact h.elim
theorem PstS.seqO {m : M Ent} {k : Ent → G} {Q : VK} {D : Ends} (h : PstS K ios B Wx F (andS m k E) D)
    (g : ∀ F' W' H' v p E' Wr, St K ios B F' W' E' σ H' → Stp F W H F' W' H' → Fresh Wr H F' W' H' → OwnT K F' H' Wr p.1 [] v p.2 → PstS K ios B Wx F' (k p E') D → Q v H') : PstO K ios B Wx σ F W H (m E) Q := by
  unfold andS at h
  cases q : m E with
  | ok a E' =>
    rw [q] at h
    exact fun F' W' H' b Wr S t fr rr => g F' W' H' b a E' Wr S t fr rr (PstS.from t.fx h)
  | er x E' =>
    rw [q] at h
    exact fun F' W' H' c dx S t rr => h F' W' H' σ c dx S t.fx rr
  | stk =>
    rw [q] at h
    exact h.elim
theorem PstS.then {g h : G} {D : Ends} {D' : Ends} (e1 : D'.rt = D.rt) (e2 : D'.bk = D.bk) (e3 : D'.ct = D.ct) (k : PstS K ios B Wx F (then_ g h E) D)
    (c : ∀ F' W' H' σ' E', St K ios B F' W' E' σ' H' → Same F F' → PstS K ios B Wx F' (h E') D → D'.nx σ' H') : PstS K ios B Wx F (g E) D' := by
  unfold then_ at k
  cases q : g E with
  | nx E' => rw [q] at k; exact fun F' W' H' σ' S t => c F' W' H' σ' E' S t (PstS.from t k)
  | rt p E' => rw [q] at k; exact fun F' W' H' σ' v Wr S t fr r => by rw [e1]; exact k F' W' H' σ' v Wr S t fr r
  | bk E' => rw [q] at k; exact fun F' W' H' σ' S t => by rw [e2]; exact k F' W' H' σ' S t
  | ct E' => rw [q] at k; exact fun F' W' H' σ' S t => by rw [e3]; exact k F' W' H' σ' S t
  | er x E' => rw [q] at k; exact k
  | stk => rw [q] at k; exact k.elim
end
section
variable {X : Cx} {ios : Ios} {Wx : WX} {a b c e : Expr} {es : List Expr} {fa fb fc f : M D} {pos : Pos} {st : Stmt} {sts : List Stmt} {g h : G}
theorem pd_nil : PDs X ios Wx [] done := ⟨_, pss_nil, fun B F W E σ H D S k => k F W H σ S (Same.refl F)⟩
theorem pd_one (h1 : PD X ios Wx st g) : PDs X ios Wx [st] g := by
  obtain ⟨t, p, r⟩ := h1.ex
  exact ⟨_, pss_one p, r⟩
theorem pd_cons (h1 : PD X ios Wx st g) (h2 : PDs X ios Wx sts h) : PDs X ios Wx (st :: sts) (then_ g h) := by
  obtain ⟨t1, p1, r1⟩ := h1.ex
  obtain ⟨t2, p2, r2⟩ := h2.ex
  refine ⟨_, pss_cons p1 p2, fun B F W E σ H D S k => ?_⟩
  exact r1 B F W E σ H _ S (PstS.then (D := D) (h := h) rfl rfl rfl k fun F' W' H' σ' E' S' t k' => r2 B F' W' E' σ' H' D S' k')
theorem pd_if {p q : List Stmt} {fc : M Bool} (hc : PB X ios Wx c fc) (ha : PDs X ios Wx p g) (hb : PDs X ios Wx q h) : PD X ios Wx (.If c p q pos) (andS fc fun k => if k = true then g else h) := by
  obtain ⟨tc, pc, rc⟩ := hc.ex
  obtain ⟨t1, p1, r1⟩ := ha.ex
  obtain ⟨t2, p2, r2⟩ := hb.ex
  refine ⟨_, ps_if pc p1 p2, fun B F W E σ H D S k => ?_⟩
  refine rc B F W E σ H _ S (PstS.seq k fun F1 W1 H1 b d E1 S1 s1 rr k1 => ?_)
  subst rr
  cases b with
  | true => exact r1 B F1 W1 E1 σ H1 D S1 k1
  | false => exact r2 B F1 W1 E1 σ H1 D S1 k1
theorem pd_expr (he : PP X ios Wx e f) (hs : swapsWith e none pos.line X.env = pure false := by rfl) : PD X ios Wx (.Expr e pos) (andS f fun _ => done) := by
  obtain ⟨t, p, r⟩ := he.ex
  refine ⟨_, ps_expr p hs, fun B F W E σ H D S k => ?_⟩
  exact r B F W E σ H _ S (PstS.seq k fun F1 W1 H1 v d E1 S1 s1 rr k1 => k1 F1 W1 H1 σ S1 (Same.refl F1))
def retS (f : M Ent) : G := andS f fun p E => .rt p E
theorem pd_ret {f : M Ent} (he : PO X ios Wx e f) : PD X ios Wx (.Return (some e) pos) (retS f) := by
  obtain ⟨t, p, r⟩ := he.ex
  refine ⟨_, ps_ret p, fun B F W E σ H D S k => ?_⟩
  refine r B F W E σ H _ S (PstS.seqO k fun F1 W1 H1 v d E1 Wr S1 s1 fr rr k1 => ?_)
  exact k1 F1 W1 H1 σ v Wr S1 (Same.refl F1) (fun a l z => by
    obtain ⟨z1, z2⟩ := fr a l z
    exact ⟨S.st.back z1, z2⟩) rr
def putW (W Wr : Wm) (i : Nat) : Wm := fun a => match Wr a with
  | some l => some (i :: l)
  | none => W a
theorem putW_r {W Wr : Wm} {i : Nat} {a : Addr} {l : Lab} (h : Wr a = some l) : putW W Wr i a = some (i :: l) := by unfold putW; rw [h]
theorem putW_of {W Wr : Wm} {i : Nat} {a : Addr} {l : Lab} (h : putW W Wr i a = some l) : (∃ l', Wr a = some l' ∧ l = i :: l') ∨ (Wr a = none ∧ W a = some l) := by
  unfold putW at h
  cases q : Wr a with
  | some l' => rw [q] at h; cases h; exact .inl ⟨l', rfl, rfl⟩
  | none => rw [q] at h; exact .inr ⟨rfl, h⟩
end
section
variable {K : KF} {ios : Ios} {B : Bs} {F F' : Hp} {W W' Wr : Wm} {E E' : Nv} {σ : L2.St} {H H' : Hp} {Wx : WX}
theorem St.put (S : St K ios B F W E σ H) {i : Nat} {v : V} {p : Ent} (hi : ios.contains i = false) (fr : Fresh Wr B.H0 F W H) (r : OwnT K F H Wr p.1 [] v p.2) :
    St K ios B F (putW W Wr i) (E.set i (some p)) (σ.set i (some v)) H where
  fh := S.fh
  st := by
    have s := S.st
    refine ⟨s.fx, s.fn, fun a l h => ?_, fun a l h => ?_, s.hx, s.hd, s.fk, fun P q tw => (s.tb P q tw).w fun a l z => ?_⟩
    · have h1 := s.wx a l h
      unfold putW
      cases q : Wr a with
      | none => exact h1
      | some l' =>
        obtain ⟨_, z, _⟩ := fr a l' q
        rw [h1] at z; cases z
    · rcases putW_of h with ⟨l', q, _⟩ | ⟨_, q⟩
      · exact .inr (fr a l' q).1
      · exact s.wn a l q
    · rcases putW_of z with ⟨l', q, _⟩ | ⟨_, q⟩
      · exact (fr a l' q).2.2.2
      · exact (S.ow a l q).2
  nz := S.nz
  ow := fun a l h => by
    rcases putW_of h with ⟨l', q, _⟩ | ⟨_, q⟩
    · obtain ⟨_, _, z3, z4⟩ := fr a l' q
      exact ⟨z3, z4⟩
    · exact S.ow a l q
  fr := fun a l h => by
    rcases putW_of h with ⟨l', q, rfl⟩ | ⟨_, q⟩
    · exact ⟨i, l', rfl, .inr (fr a l' q).1⟩
    · exact S.fr a l q
  w0 := S.w0
  vr := fun j t d h => by
    by_cases hj : i = j
    · subst hj
      rw [List.getElem?_set] at h
      rw [if_pos rfl] at h
      by_cases hl : i < E.length
      · rw [if_pos hl] at h
        cases h
        refine ⟨v, ?_, ?_⟩
        · rw [List.getElem?_set, if_pos rfl, if_pos (by rw [← S.ln]; exact hl)]
        · exact OwnT.relab (p := []) (p' := [i]) (q := []) (fun a q z => putW_r z) r
      · rw [if_neg hl] at h; cases h
    · rw [List.getElem?_set, if_neg hj] at h
      obtain ⟨u, h1, h2⟩ := S.vr j t d h
      refine ⟨u, ?_, ?_⟩
      · rw [List.getElem?_set, if_neg hj]; exact h1
      · refine h2.keep (Same.refl F) (fun a l z => ?_) (fun a l o _ z => z)
        unfold putW
        cases q : Wr a with
        | none => exact z
        | some l' =>
          obtain ⟨_, y, _⟩ := fr a l' q
          rw [z] at y; cases y
  pn := fun j u h => by
    obtain ⟨h1, h2⟩ := S.pn j u h
    refine ⟨h1, ?_⟩
    have hj : i ≠ j := fun z => by
      subst z
      replace hi := Ios.no hi
      exact hi h1
    rw [List.getElem?_set, if_neg hj]; exact h2
  ln := by rw [List.length_set, List.length_set]; exact S.ln
  xo := S.xo
end
section
variable {X : Cx} {ios : Ios} {Wx : WX} {a b c e : Expr} {es : List Expr} {fa fb fc : M D} {pos : Pos} {st : Stmt} {sts : List Stmt} {g h : G}
def setS (i : Nat) (f : M Ent) : G := andS f fun p E => .nx (E.set i (some p))
theorem pd_set {i : Nat} {x : Str} {f : M Ent} {pos' : Pos} (hN : X.N.Nodup) (hi : X.N[i]? = some x) (hx : Loc X.env.scope x) (hio : ios.contains i = false) (he : PO X ios Wx e f)
    (hs : swapsWith e (some (.Name x pos')) pos.line X.env = pure false := by rfl) (hf : X.fn x = true ∨ X.env.scope.names.lookup x = some .local := by first | exact .inl rfl | exact .inr rfl | assumption) :
    PD X ios Wx (.Assign [.Name x pos'] e pos) (setS i f) := by
  obtain ⟨t, p, r⟩ := he.ex
  refine ⟨_, ps_set hN hi hx p hs hf, fun B F W E σ H D S k => ?_⟩
  refine r B F W E σ H _ S (PstS.seqO k fun F1 W1 H1 v d E1 Wr S1 s1 fr rr k1 => ?_)
  exact k1 F1 _ H1 _ (S1.put hio (fun a l z => by
    obtain ⟨z1, z2⟩ := fr a l z
    exact ⟨S.st.back z1, z2⟩) rr) (Same.refl F1)
end
end Dl
namespace Dl
open PySem PySem.Spec PyProof.Rows L2
variable [Tbs]
mutual
def toP : D → Option PyData
  | .non => some .none
  | .bl b => some (.bool b)
  | .int i => some (.int i)
  | .str x => some (.str x)
  | .lst xs => (toPs xs).map .list
  | .tup xs => (toPs xs).map .tuple
  | .dct _ _ => none
  | .ins _ _ _ => none
  | .ty _ => none
  | .cl _ => none
  | .frl _ => none
def toPs : List D → Option (List PyData)
  | [] => some []
  | x :: r => match toP x, toPs r with
    | some p, some ps => some (p :: ps)
    | _, _ => none
end
theorem toPs_cons {x : D} {r : List D} {ps : List PyData} (h : toPs (x :: r) = some ps) : ∃ p q, toP x = some p ∧ toPs r = some q ∧ ps = p :: q := by
  have h' : (match toP x, toPs r with
    | some p, some ps => some (p :: ps)
    | _, _ => none) = some ps := by
    have e := h
    unfold toPs at e
    exact e
  cases q1 : toP x with
  | none => rw [q1] at h'; cases h'
  | some p =>
    rw [q1] at h'
    cases q2 : toPs r with
    | none => rw [q2] at h'; cases h'
    | some q =>
      rw [q2] at h'
      cases h'
      exact ⟨p, q, rfl, rfl, rfl⟩
mutual
theorem Rep.dp {K : KF} {F H : Hp} (e : Same F H) : ∀ {v : V} (d : D) {p : PyData}, Rep K F v d → toP d = some p → Dp K H v p
  | _, .non, p, h, q => by
    cases h
    unfold toP at q
    cases q
    exact .non
  | _, .bl b, p, h, q => by
    cases h
    unfold toP at q
    cases q
    exact .bl b
  | _, .int i, p, h, q => by
    cases h
    unfold toP at q
    cases q
    exact .int i
  | _, .str x, p, h, q => by
    cases h
    unfold toP at q
    cases q
    exact .str x
  | _, .lst ds, p, h, q => by
    unfold toP at q
    cases q2 : toPs ds with
    | none => rw [q2] at q; cases q
    | some ps =>
      rw [q2] at q
      cases q
      cases h with
      | lst s z r => exact .lst (SqL.of (e _ _ s)) (RepL.dp e ds r q2)
  | _, .tup ds, p, h, q => by
    unfold toP at q
    cases q2 : toPs ds with
    | none => rw [q2] at q; cases q
    | some ps =>
      rw [q2] at q
      cases q
      cases h with
      | tup s z r => exact .tup (sqT_mono e s) (RepL.dp e ds r q2)
  | _, .dct _ _, p, h, q => by unfold toP at q; cases q
  | _, .ins _ _ _, p, h, q => by unfold toP at q; cases q
  | _, .ty _, p, h, q => by unfold toP at q; cases q
  | _, .cl _, p, h, q => by unfold toP at q; cases q
theorem RepL.dp {K : KF} {F H : Hp} (e : Same F H) : ∀ {vs : List V} (ds : List D) {ps : List PyData}, RepL K F vs ds → toPs ds = some ps → DpAll K H vs ps
  | _, [], ps, h, q => by
    cases h
    unfold toPs at q
    cases q
    exact .nil
  | _, d :: ds, ps, h, q => by
    obtain ⟨p, qs, e1, e2, rfl⟩ := toPs_cons q
    cases h with
    | cons h1 h2 => exact .cons (Rep.dp e d h1 e1) (RepL.dp e ds h2 e2)
end
theorem new_lst {K : KF} {F H : Hp} {p : Addr} {vs : List V} {ds : List D} {Q : VK} (q : ∀ F' H' v, Gr F H F' H' → Rep K F' v (.lst ds) → Q v H') (fh : Same F H) (hp : H p = none) (z : ds.length ≤ sizeLine) (r : RepL K F vs ds) : Q (.ref p) (upd H p (.lst vs)) := by
  have g : Gr F H (upd F p (.lst vs)) (upd H p (.lst vs)) := Gr.new fh hp fun _ _ z => by cases z
  exact q _ _ _ g (.lst upd_same z (r.mono g.fx _))
theorem new_tup {K : KF} {F H : Hp} {p : Addr} {vs : List V} {ds : List D} {Q : VK} (q : ∀ F' H' v, Gr F H F' H' → Rep K F' v (.tup ds) → Q v H') (fh : Same F H) (hp : H p = none) (z : ds.length ≤ sizeLine) (r : RepL K F vs ds) : Q (.ref p) (upd H p (.tup vs)) := by
  have g : Gr F H (upd F p (.tup vs)) (upd H p (.tup vs)) := Gr.new fh hp fun _ _ z => by cases z
  exact q _ _ _ g (.tup (SqT.of upd_same) z (r.mono g.fx _))
def inR (b : Nat) (j : Int) : Bool := match j with
  | .ofNat n => Nat.ble n b
  | .negSucc n => Nat.ble n b
theorem inR_iff {b : Nat} {j : Int} : inR b j = true ↔ -(b : Int) - 1 ≤ j ∧ j ≤ (b : Int) := by
  cases j with
  | ofNat n =>
    show Nat.ble n b = true ↔ _
    rw [Nat.ble_eq]
    constructor
    · intro h; exact ⟨by simp only [Int.ofNat_eq_natCast]; omega, by simp only [Int.ofNat_eq_natCast]; omega⟩
    · intro h; have := h.2; simp only [Int.ofNat_eq_natCast] at this; omega
  | negSucc n =>
    show Nat.ble n b = true ↔ _
    rw [Nat.ble_eq, Int.negSucc_eq]
    omega
def p30 (j : Int) : Bool := match j with
  | .ofNat n => Nat.ble 1 n && Nat.ble n 1267650600228229401496703205375
  | .negSucc _ => false
theorem p30_iff {j : Int} : p30 j = true ↔ 0 < j ∧ j < 1267650600228229401496703205376 := by
  cases j with
  | ofNat n =>
    show (Nat.ble 1 n && Nat.ble n 1267650600228229401496703205375) = true ↔ _
    rw [Bool.and_eq_true, Nat.ble_eq, Nat.ble_eq]
    simp only [Int.ofNat_eq_natCast]
    omega
  | negSucc n =>
    show false = true ↔ _
    rw [Int.negSucc_eq]
    constructor
    · intro h; cases h
    · intro h; omega
def addD : D → D → Option D
  | .int i, .int j => some (.int (i + j))
  | .str x, .str y => if x.length + y.length ≤ sizeLine then some (.str (x ++ y)) else none
  | .lst xs, .lst ys => if xs.length + ys.length ≤ sizeLine then some (.lst (xs ++ ys)) else none
  | .tup xs, .tup ys => if xs.length + ys.length ≤ sizeLine then some (.tup (xs ++ ys)) else none
  | _, _ => none
def subD : D → D → Option D
  | .int i, .int j => some (.int (i - j))
  | _, _ => none
def cmul (i j : Int) : Bool := inR 9223372036854775807 i || inR 9223372036854775807 j
def mulD : D → D → Option D
  | .int i, .int j => if cmul i j = true then some (.int (i * j)) else none
  | .lst xs, .int k => if inR 4611686018427387903 k = true ∧ xs.length * k.toNat ≤ sizeLine then some (.lst (List.replicate k.toNat xs).flatten) else none
  | _, _ => none
def divD : D → D → Option D
  | .int i, .int j => if p30 j = true then some (.int (i / j)) else none
  | _, _ => none
def modD : D → D → Option D
  | .int i, .int j => if 0 < j then some (.int (i % j)) else none
  | _, _ => none
def powD : D → D → Option D
  | .int i, .int j => if 0 ≤ j ∧ j ≤ 1000000 ∧ i.natAbs < 2 ^ 64 then some (.int (i ^ j.toNat)) else none
  | _, _ => none
def negD : D → Option D
  | .int i => some (.int (-i))
  | _ => none
def cmpI (p : Int → Int → Bool) : D → D → Option D
  | .int i, .int j => some (.bl (p i j))
  | _, _ => none
def ltD : D → D → Option D := cmpI fun i j => decide (i < j)
def leD : D → D → Option D := cmpI fun i j => decide (i ≤ j)
def gtD : D → D → Option D := cmpI fun i j => decide (j < i)
def geD : D → D → Option D := cmpI fun i j => decide (j ≤ i)
def flat : D → Option V
  | .non => some .non
  | .bl b => some (.bl b)
  | .int i => some (.int i)
  | .str x => some (.str x)
  | _ => none
theorem Rep.flat {K : KF} {F : Hp} {v w : V} {d : D} (h : Rep K F v d) (e : flat d = some w) : v = w := by
  cases h <;> first | (cases e; rfl) | cases e
def deepEq (d e : D) : Option Bool := match toP d, toP e with
  | some p, some q => if SeqAt.shaped p = true ∧ SeqAt.shaped q = true then some (PyData.eqv p q) else none
  | _, _ => none
def eqB (d e : D) : Option Bool := match flat d, flat e with
  | some v, some w => if scal v w = true then some (decide (v = w)) else deepEq d e
  | _, _ => deepEq d e
def eqD (d e : D) : Option D := (eqB d e).map .bl
def neD (d e : D) : Option D := (eqB d e).map fun b => .bl (!b)
def isNone (d : D) : Bool := match d with
  | .non => true
  | _ => false
section
variable {K : KF}
theorem opd_I {C : Int → Int → Prop} {gv : Int → Int → V} {g : D → D → Option D} (h : ∀ d e z, g d e = some z → ∃ i j, d = .int i ∧ e = .int j ∧ C i j ∧ ∀ F : Hp, Rep K F (gv i j) z) : OpD K (rI C gv) g := by
  intro F H x y d e z Q fh rx ry hz q
  obtain ⟨i, j, rfl, rfl, hc, hr⟩ := h d e z hz
  cases rx
  cases ry
  exact ⟨i, j, rfl, rfl, hc, q F H _ (Gr.refl fh) (hr F)⟩
theorem opd_I0 {gv : Int → Int → V} {g : D → D → Option D} (h : ∀ d e z, g d e = some z → ∃ i j, d = .int i ∧ e = .int j ∧ ∀ F : Hp, Rep K F (gv i j) z) : OpD K (rI0 gv) g := by
  intro F H x y d e z Q fh rx ry hz q
  obtain ⟨i, j, rfl, rfl, hr⟩ := h d e z hz
  cases rx
  cases ry
  exact ⟨i, j, rfl, rfl, q F H _ (Gr.refl fh) (hr F)⟩
theorem opd_sub : OpD K (rI0 fun i j => .int (i - j)) subD := opd_I0 fun d e z h => by
  cases d <;> cases e <;> first | (cases h; done) | skip
  rename_i i j
  cases h
  exact ⟨i, j, rfl, rfl, fun _ => .int _⟩
theorem opd_cmp (p : Int → Int → Bool) : OpD K (rI0 fun i j => .bl (p i j)) (cmpI p) := opd_I0 fun d e z h => by
  cases d <;> cases e <;> first | (cases h; done) | skip
  rename_i i j
  cases h
  exact ⟨i, j, rfl, rfl, fun _ => .bl _⟩
theorem p30_wide {i j : Int} (h : p30 j = true) : CDivW i j := by
  obtain ⟨h1, h2⟩ := p30_iff.mp h
  have e : (2 : Nat) ^ 100 = 1267650600228229401496703205376 := by decide
  have l : j.natAbs < 2 ^ 100 := by rw [e]; omega
  exact wide_div (b := 100) h1 l (by decide) (by decide)
theorem opd_div : OpD K (rI CDivW fun i j => .int (i / j)) divD := opd_I fun d e z h => by
  cases d <;> cases e <;> first | (cases h; done) | skip
  rename_i i j
  have h' : (if p30 j = true then some (D.int (i / j)) else none) = some z := h
  by_cases c : p30 j = true
  · rw [if_pos c] at h'; cases h'; exact ⟨i, j, rfl, rfl, p30_wide c, fun _ => .int _⟩
  · rw [if_neg c] at h'; cases h'
theorem opd_mod : OpD K (rI (fun _ j => 0 < j) fun i j => .int (i % j)) modD := opd_I fun d e z h => by
  cases d <;> cases e <;> first | (cases h; done) | skip
  rename_i i j
  have h' : (if 0 < j then some (D.int (i % j)) else none) = some z := h
  by_cases c : 0 < j
  · rw [if_pos c] at h'; cases h'; exact ⟨i, j, rfl, rfl, c, fun _ => .int _⟩
  · rw [if_neg c] at h'; cases h'
theorem opd_pow : OpD K (rI CPow fun i j => .int (i ^ j.toNat)) powD := opd_I fun d e z h => by
  cases d <;> cases e <;> first | (cases h; done) | skip
  rename_i i j
  have h' : (if 0 ≤ j ∧ j ≤ 1000000 ∧ i.natAbs < 2 ^ 64 then some (D.int (i ^ j.toNat)) else none) = some z := h
  by_cases c : 0 ≤ j ∧ j ≤ 1000000 ∧ i.natAbs < 2 ^ 64
  · rw [if_pos c] at h'; cases h'; exact ⟨i, j, rfl, rfl, c, fun _ => .int _⟩
  · rw [if_neg c] at h'; cases h'
def rAddA (K : KF) : R2 := fun x y H Q => (rI0 fun i j => .int (i + j)) x y H Q ∨ (fun x y H Q => ∃ i j, x = .str i ∧ y = .str j ∧ i.length + j.length ≤ sizeLine ∧ Q (.str (i ++ j)) H : R2) x y H Q ∨ rCat x y H Q ∨ rCatA K x y H Q
theorem op_addA {X : Cx} : OpR X (binaryOp .Add) (rAddA X.K) := op_add.or (op_add_str.or (op_cat.or op_catA))
theorem opd_add : OpD K (rAddA K) addD := by
  intro F H x y d e z Q fh rx ry hz q
  cases d <;> cases e <;> first | (cases hz; done) | skip
  · cases rx; cases ry; cases hz
    exact .inl ⟨_, _, rfl, rfl, q F H _ (Gr.refl fh) (.int _)⟩
  · rename_i a b
    cases rx; cases ry
    have h' : (if a.length + b.length ≤ sizeLine then some (D.str (a ++ b)) else none) = some z := hz
    by_cases c : a.length + b.length ≤ sizeLine
    · rw [if_pos c] at h'; cases h'
      exact .inr (.inl ⟨_, _, rfl, rfl, c, q F H _ (Gr.refl fh) (.str _)⟩)
    · rw [if_neg c] at h'; cases h'
  · rename_i a b
    have h' : (if a.length + b.length ≤ sizeLine then some (D.lst (a ++ b)) else none) = some z := hz
    by_cases c : a.length + b.length ≤ sizeLine
    · rw [if_pos c] at h'; cases h'
      cases rx with
      | lst s1 z1 r1 => cases ry with
        | lst s2 z2 r2 =>
          refine .inr (.inr (.inl ⟨_, _, _, _, rfl, rfl, fh _ _ s1, fh _ _ s2, by rw [r1.length, r2.length]; exact c, fun p hp => new_lst q fh hp (by rw [List.length_append]; exact c) (r1.app r2)⟩))
    · rw [if_neg c] at h'; cases h'
  · rename_i a b
    have h' : (if a.length + b.length ≤ sizeLine then some (D.tup (a ++ b)) else none) = some z := hz
    by_cases c : a.length + b.length ≤ sizeLine
    · rw [if_pos c] at h'; cases h'
      cases rx with
      | tup s1 z1 r1 => cases ry with
        | tup s2 z2 r2 =>
          refine .inr (.inr (.inr ⟨_, _, _, _, rfl, rfl, sqT_mono fh s1, sqT_mono fh s2, by rw [r1.length, r2.length]; exact c, fun e => ?_, fun _ e => ?_, fun _ _ p hp => ?_⟩))
          · subst e
            cases r1
            exact q F H _ (Gr.refl fh) (.tup s2 z2 r2)
          · subst e
            cases r2
            exact q F H _ (Gr.refl fh) (by rw [List.append_nil]; exact .tup s1 z1 r1)
          · exact new_tup q fh hp (by rw [List.length_append]; exact c) (r1.app r2)
    · rw [if_neg c] at h'; cases h'
theorem rep_flatten {K : KF} {F : Hp} {vs : List V} {ds : List D} (r : RepL K F vs ds) : ∀ k : Nat, RepL K F (List.replicate k vs).flatten (List.replicate k ds).flatten
  | 0 => .nil
  | k + 1 => by
    rw [List.replicate_succ, List.replicate_succ, List.flatten_cons, List.flatten_cons]
    exact r.app (rep_flatten r k)
theorem len_flatten {α : Type} (xs : List α) : ∀ k : Nat, (List.replicate k xs).flatten.length = xs.length * k
  | 0 => rfl
  | k + 1 => by rw [List.replicate_succ, List.flatten_cons, List.length_append, len_flatten xs k, Nat.mul_succ, Nat.add_comm]
def rMulA : R2 := fun x y H Q => (rI CMul fun i j => .int (i * j)) x y H Q ∨ rRep x y H Q
theorem op_mulA {X : Cx} : OpR X (binaryOp .Mult) rMulA := op_mul.or op_rep
theorem opd_mul : OpD K rMulA mulD := by
  intro F H x y d e z Q fh rx ry hz q
  cases d <;> cases e <;> first | (cases hz; done) | skip
  · rename_i i j
    cases rx; cases ry
    have h' : (if cmul i j = true then some (D.int (i * j)) else none) = some z := hz
    by_cases c : cmul i j = true
    · rw [if_pos c] at h'; cases h'
      refine .inl ⟨_, _, rfl, rfl, ?_, q F H _ (Gr.refl fh) (.int _)⟩
      unfold cmul at c
      rw [Bool.or_eq_true, inR_iff, inR_iff] at c
      rcases c with c | c
      · exact .inl ⟨by omega, by omega⟩
      · exact .inr ⟨by omega, by omega⟩
    · rw [if_neg c] at h'; cases h'
  · rename_i a k
    have h' : (if inR 4611686018427387903 k = true ∧ a.length * k.toNat ≤ sizeLine then some (D.lst (List.replicate k.toNat a).flatten) else none) = some z := hz
    by_cases c : inR 4611686018427387903 k = true ∧ a.length * k.toNat ≤ sizeLine
    · rw [if_pos c] at h'; cases h'
      cases ry
      cases rx with
      | lst s1 z1 r1 =>
        have ci := inR_iff.mp c.1
        refine .inr ⟨_, _, _, rfl, rfl, fh _ _ s1, by omega, by omega, by rw [r1.length]; exact c.2, fun p hp => new_lst q fh hp (by rw [len_flatten]; exact c.2) (rep_flatten r1 k.toNat)⟩
    · rw [if_neg c] at h'; cases h'
theorem und_neg : UnD K (rU fun i => .int (-i)) negD := by
  intro F H x d z Q fh rx hz q
  cases d <;> first | (cases hz; done) | skip
  cases rx; cases hz
  exact ⟨_, rfl, q F H _ (Gr.refl fh) (.int _)⟩
def rEqA (K : KF) : R2 := fun x y H Q => rEq x y H Q ∨ rEqD K x y H Q
def rNeA (K : KF) : R2 := fun x y H Q => rNe x y H Q ∨ rNeD K x y H Q
theorem op_eqA {X : Cx} (hu : X.A.units + 64 < cLine) : OpR X (compareOp .Eq) (rEqA X.K) := op_eq.or (op_eqD hu)
theorem op_neA {X : Cx} (hu : X.A.units + 64 < cLine) : OpR X (compareOp .NotEq) (rNeA X.K) := op_ne.or (op_neD hu)
theorem deep_of {d e : D} {b : Bool} (h : deepEq d e = some b) : ∃ p q, toP d = some p ∧ toP e = some q ∧ SeqAt.shaped p = true ∧ SeqAt.shaped q = true ∧ b = PyData.eqv p q := by
  unfold deepEq at h
  cases q1 : toP d with
  | none => rw [q1] at h; cases h
  | some p =>
    rw [q1] at h
    cases q2 : toP e with
    | none => rw [q2] at h; cases h
    | some q =>
      rw [q2] at h
      have h' : (if SeqAt.shaped p = true ∧ SeqAt.shaped q = true then some (PyData.eqv p q) else none) = some b := h
      by_cases c : SeqAt.shaped p = true ∧ SeqAt.shaped q = true
      · rw [if_pos c] at h'; cases h'; exact ⟨p, q, rfl, rfl, c.1, c.2, rfl⟩
      · rw [if_neg c] at h'; cases h'
theorem eqB_of {d e : D} {b : Bool} (h : eqB d e = some b) : (∃ v w, flat d = some v ∧ flat e = some w ∧ scal v w = true ∧ b = decide (v = w)) ∨ deepEq d e = some b := by
  unfold eqB at h
  cases q1 : flat d with
  | none => rw [q1] at h; exact .inr h
  | some v =>
    rw [q1] at h
    cases q2 : flat e with
    | none => rw [q2] at h; exact .inr h
    | some w =>
      rw [q2] at h
      have h' : (if scal v w = true then some (decide (v = w)) else deepEq d e) = some b := h
      by_cases c : scal v w = true
      · rw [if_pos c] at h'; cases h'; exact .inl ⟨v, w, rfl, rfl, c, rfl⟩
      · rw [if_neg c] at h'; exact .inr h'
theorem opd_eq : OpD K (rEqA K) eqD := by
  intro F H x y d e z Q fh rx ry hz q
  unfold eqD at hz
  cases h : eqB d e with
  | none => rw [h] at hz; cases hz
  | some b =>
    rw [h] at hz
    cases hz
    rcases eqB_of h with ⟨v, w, e1, e2, sc, rfl⟩ | h
    · rw [rx.flat e1, ry.flat e2]
      exact .inl ⟨sc, q F H _ (Gr.refl fh) (.bl _)⟩
    · obtain ⟨p, p2, e1, e2, s1, s2, rfl⟩ := deep_of h
      exact .inr ⟨p, p2, rx.dp fh d e1, ry.dp fh e e2, s1, s2, q F H _ (Gr.refl fh) (.bl _)⟩
theorem opd_ne : OpD K (rNeA K) neD := by
  intro F H x y d e z Q fh rx ry hz q
  unfold neD at hz
  cases h : eqB d e with
  | none => rw [h] at hz; cases hz
  | some b =>
    rw [h] at hz
    cases hz
    rcases eqB_of h with ⟨v, w, e1, e2, sc, rfl⟩ | h
    · rw [rx.flat e1, ry.flat e2]
      exact .inl ⟨sc, q F H _ (Gr.refl fh) (.bl _)⟩
    · obtain ⟨p, p2, e1, e2, s1, s2, rfl⟩ := deep_of h
      exact .inr ⟨p, p2, rx.dp fh d e1, ry.dp fh e e2, s1, s2, q F H _ (Gr.refl fh) (.bl _)⟩
def isND (d e : D) : Option D := match e with
  | .non => some (.bl (isNone d))
  | _ => none
def notND (d e : D) : Option D := match e with
  | .non => some (.bl (!isNone d))
  | _ => none
theorem Rep.isNone {F : Hp} {v : V} {d : D} (h : Rep K F v d) : decide (v = .non) = isNone d := by
  cases h <;> first | exact decide_eq_true rfl | exact decide_eq_false fun z => by cases z
theorem opd_notN : OpD K (fun x y H Q => y = .non ∧ Q (.bl (!decide (x = .non))) H) notND := by
  intro F H x y d e z Q fh rx ry hz q
  cases e <;> first | (cases hz; done) | skip
  cases ry; cases hz
  exact ⟨rfl, by rw [rx.isNone]; exact q F H _ (Gr.refl fh) (.bl _)⟩
end
end Dl
namespace Dl
open PySem PySem.Spec PyProof.Rows L2
variable [Tbs]
def truD : D → Option Bool
  | .non => some false
  | .bl b => some b
  | .int i => some (i != 0)
  | .str x => if x.length ≤ sizeLine then some ((x.length : Int) != 0) else none
  | .lst xs => some (!xs.isEmpty)
  | .tup xs => some (!xs.isEmpty)
  | _ => none
theorem RepL.isEmpty {K : KF} {F : Hp} {vs : List V} {ds : List D} (r : RepL K F vs ds) : vs.isEmpty = ds.isEmpty := by
  cases r <;> rfl
theorem Rep.tru {K : KF} {F H : Hp} (e : Same F H) {v : V} {d : D} (h : Rep K F v d) {k : Bool} (q : truD d = some k) : TruV K v H k := by
  cases h with
  | non => cases q; rfl
  | bl b => cases q; rfl
  | int i => cases q; rfl
  | str x =>
    have q' : (if x.length ≤ sizeLine then some ((x.length : Int) != 0) else none) = some k := q
    by_cases c : x.length ≤ sizeLine
    · rw [if_pos c] at q'; cases q'; exact ⟨c, rfl⟩
    · rw [if_neg c] at q'; cases q'
  | lst s z r => cases q; exact .inl ⟨_, SqL.of (e _ _ s), by rw [r.isEmpty]⟩
  | tup s z r => cases q; exact .inr (.inl ⟨_, sqT_mono e s, by rw [r.isEmpty]⟩)
  | ty n => cases q
  | cl c => cases q
  | ins _ _ _ _ => cases q
  | dk _ _ _ => cases q
  | dt _ _ _ => cases q
  | frl _ _ => cases q
section
variable {X : Cx} {ios : Ios} {Wx : WX} {a b c e : Expr} {es rest : List Expr} {fa fb fc f : M D} {ta tb tc : M Bool} {pos : Pos}
def test (f : M D) : M Bool := bnd f fun d => ofO (truD d)
theorem pb_truth (ha : PP X ios Wx a fa) (he : ∀ whole, isTrue a X.env whole = (do let v ← whole; standAt a.pos; holding [v] (truthy v)) := by intro _; rfl) : PB X ios Wx a (test fa) := by
  obtain ⟨t, p, r⟩ := ha.ex
  refine ⟨_, pt_truth p he, fun B F W E σ H Q S h => ?_⟩
  refine r B F W E σ H _ S (Pst.seq h fun F1 W1 H1 x d E1 S1 s1 r1 h1 => ?_)
  obtain ⟨k, ek, h2⟩ := h1.some
  exact ⟨k, r1.tru S1.fh ek, h2.done S1 rfl⟩
def notM (f : M Bool) : M Bool := bnd f fun b => ret (!b)
theorem pb_not (ha : PB X ios Wx a ta) : PB X ios Wx (.UnaryOp .Not a pos) (notM ta) := by
  obtain ⟨t, p, r⟩ := ha.ex
  refine ⟨_, pt_not p, fun B F W E σ H Q S h => ?_⟩
  refine r B F W E σ H _ S (Pst.seq h fun F1 W1 H1 x d E1 S1 s1 r1 h1 => ?_)
  exact h1.done S1 (by rw [r1])
def andM (f g : M Bool) : M Bool := bnd f fun b => if b = true then g else ret false
def orM (f g : M Bool) : M Bool := bnd f fun b => if b = true then ret true else g
theorem pbw_or1 (ha : PB X ios Wx a ta) : PBW X ios Wx (.BoolOp .Or [a] pos) ta := by
  obtain ⟨t, p, r⟩ := ha.ex
  exact ⟨t, pw_or1 p, r⟩
theorem pbw_or (ha : PB X ios Wx a ta) (hb : PBW X ios Wx (.BoolOp .Or (b :: rest) pos) tb) : PBW X ios Wx (.BoolOp .Or (a :: b :: rest) pos) (orM ta tb) := by
  obtain ⟨t1, p1, r1⟩ := ha.ex
  obtain ⟨t2, p2, r2⟩ := hb.ex
  refine ⟨_, pw_or p1 p2, fun B F W E σ H Q S h => ?_⟩
  refine r1 B F W E σ H _ S (Pst.seq h fun F1 W1 H1 x d E1 S1 s1 rr h1 => ?_)
  subst rr
  cases x with
  | true => exact h1.done S1 rfl
  | false => exact r2 B F1 W1 E1 σ H1 Q S1 h1
theorem pbw_pb (h : PBW X ios Wx a ta) : PB X ios Wx a ta := by
  obtain ⟨t, p, r⟩ := h.ex
  exact ⟨t, p.pt, r⟩
theorem pp_one {op} (h : PP X ios Wx a f) : PP X ios Wx (.BoolOp op [a] pos) f := by
  obtain ⟨t, p, r⟩ := h.ex
  exact ⟨t, pe_one p, r⟩
def andV (f g : M D) : M D := bnd f fun d => bnd (ofO (truD d)) fun k => if k = true then g else ret d
def orV (f g : M D) : M D := bnd f fun d => bnd (ofO (truD d)) fun k => if k = true then ret d else g
theorem pp_and (ha : PP X ios Wx a fa) (hb : PP X ios Wx (.BoolOp .And (b :: rest) pos) fb) : PP X ios Wx (.BoolOp .And (a :: b :: rest) pos) (andV fa fb) := by
  obtain ⟨t1, p1, r1⟩ := ha.ex
  obtain ⟨t2, p2, r2⟩ := hb.ex
  refine ⟨_, pe_andT p1 p2, fun B F W E σ H Q S h => ?_⟩
  refine r1 B F W E σ H _ S (Pst.seq h fun F1 W1 H1 x d E1 S1 s1 rr h1 => ?_)
  unfold bnd at h1
  cases q : truD d with
  | none => rw [q] at h1; exact h1.elim
  | some k =>
    rw [q] at h1
    refine ⟨k, rr.tru S1.fh q, ?_⟩
    cases k with
    | true => exact r2 B F1 W1 E1 σ H1 Q S1 h1
    | false => exact h1 F1 W1 H1 x S1 (Stp.refl _ _ _) rr
def notV (f : M D) : M D := bnd f fun d => ofO ((truD d).map fun k => .bl (!k))
def ifM {α : Type} (t : M Bool) (f g : M α) : M α := bnd t fun k => if k = true then f else g
theorem pp_if (hc : PB X ios Wx c tc) (ha : PP X ios Wx a fa) (hb : PP X ios Wx b fb) : PP X ios Wx (.IfExp c a b pos) (ifM tc fa fb) := by
  obtain ⟨t0, p0, r0⟩ := hc.ex
  obtain ⟨t1, p1, r1⟩ := ha.ex
  obtain ⟨t2, p2, r2⟩ := hb.ex
  refine ⟨_, pe_ifExp p0 p1 p2, fun B F W E σ H Q S h => ?_⟩
  refine r0 B F W E σ H _ S (Pst.seq h fun F1 W1 H1 x d E1 S1 s1 rr h1 => ?_)
  subst rr
  cases x with
  | true => exact r1 B F1 W1 E1 σ H1 Q S1 h1
  | false => exact r2 B F1 W1 E1 σ H1 Q S1 h1
theorem po_if {fa fb : M Ent} (hc : PB X ios Wx c tc) (ha : PO X ios Wx a fa) (hb : PO X ios Wx b fb) : PO X ios Wx (.IfExp c a b pos) (ifM tc fa fb) := by
  obtain ⟨t0, p0, r0⟩ := hc.ex
  obtain ⟨t1, p1, r1⟩ := ha.ex
  obtain ⟨t2, p2, r2⟩ := hb.ex
  refine ⟨_, pe_ifExp p0 p1 p2, fun B F W E σ H Q S h => ?_⟩
  refine r0 B F W E σ H _ S (PstO.seq h fun F1 W1 H1 x d E1 S1 s1 rr h1 => ?_)
  subst rr
  cases x with
  | true => exact r1 B F1 W1 E1 σ H1 Q S1 h1
  | false => exact r2 B F1 W1 E1 σ H1 Q S1 h1
def ixD : D → D → Option D
  | .lst xs, .int i => atI xs i
  | .tup xs, .int i => atI xs i
  | .str x, .int i => if x.length ≤ sizeLine then (atI x.cps.toList i).map fun c => .str ⟨#[c]⟩ else none
  | _, _ => none
theorem RepL.atI {K : KF} {F : Hp} {vs : List V} {ds : List D} {i : Int} {d : D} (r : RepL K F vs ds) (h : L2.atI ds i = some d) : ∃ v, L2.atI vs i = some v ∧ Rep K F v d := by
  unfold L2.atI at h ⊢
  rw [r.length]
  cases q : ixN ds.length i with
  | none => rw [q] at h; cases h
  | some j =>
    rw [q] at h
    exact r.get h
theorem opd_ix {K : KF} : OpD K (rIx K) ixD := by
  intro F H x y d e z Q fh rx ry hz q
  cases d <;> cases e <;> first | (cases hz; done) | skip
  · rename_i a i
    have h' : (if a.length ≤ sizeLine then (L2.atI a.cps.toList i).map fun c => D.str ⟨#[c]⟩ else none) = some z := hz
    by_cases c : a.length ≤ sizeLine
    · rw [if_pos c] at h'
      cases q2 : L2.atI a.cps.toList i with
      | none => rw [q2] at h'; cases h'
      | some ch =>
        rw [q2] at h'
        cases h'
        cases rx; cases ry
        exact .inr (.inr ⟨_, _, _, rfl, rfl, c, q2, q F H _ (Gr.refl fh) (.str _)⟩)
    · rw [if_neg c] at h'; cases h'
  · cases ry
    cases rx with
    | lst s1 z1 r1 =>
      obtain ⟨v, e1, e2⟩ := r1.atI hz
      exact .inl ⟨_, _, _, _, rfl, rfl, SqL.of (fh _ _ s1), e1, q F H _ (Gr.refl fh) e2⟩
  · cases ry
    cases rx with
    | tup s1 z1 r1 =>
      obtain ⟨v, e1, e2⟩ := r1.atI hz
      exact .inr (.inl ⟨_, _, _, _, rfl, rfl, sqT_mono fh s1, e1, q F H _ (Gr.refl fh) e2⟩)
theorem pp_ix (ha : PP X ios Wx a fa) (hb : PP X ios Wx b fb) (hs : PlainIx b := by intro _ _; rfl) : PP X ios Wx (.Subscript a b pos) (bnd fa fun x => bnd fb fun y => ofO (ixD x y)) := by
  obtain ⟨ta, pa, ra⟩ := ha.ex
  obtain ⟨tb, pb, rb⟩ := hb.ex
  refine ⟨_, pe_ix ix_seq pa pb hs, fun B F W E σ H Q S h => ?_⟩
  refine ra B F W E σ H _ S (Pst.seq h fun F1 W1 H1 x d E1 S1 s1 r1 h1 => ?_)
  refine rb B F1 W1 E1 σ H1 _ S1 (Pst.seq h1 fun F2 W2 H2 y e E2 S2 s2 r2 h2 => ?_)
  obtain ⟨z, ez, h3⟩ := h2.some
  exact opd_ix F2 H2 x y d e z Q S2.fh (r1.mono s2.fx d) r2 ez fun F' H' v g rr => h3.grown S2 g rr
structure PPart (X : Cx) (ios : Ios) (Wx : WX) (e : Option Expr) (f : M (Option Int)) : Prop where
  ex : ∃ t : TO, L2.PO X e t ∧ ∀ B F W E σ H Q, St X.K ios B F W E σ H → Pst X.K ios B Wx σ (fun _ (b : Option Int) a => b = a) F W H (f E) Q → t σ H Q
theorem part_none : PPart X ios Wx none (ret none) := ⟨_, po_none, fun B F W E σ H Q S h => h.done S rfl⟩
def asI : D → Option Int
  | .int i => some i
  | _ => none
theorem part_some (ha : PP X ios Wx a fa) : PPart X ios Wx (some a) (bnd fa fun d => bnd (ofO (asI d)) fun i => ret (some i)) := by
  obtain ⟨t, p, r⟩ := ha.ex
  refine ⟨_, po_some p, fun B F W E σ H Q S h => ?_⟩
  refine r B F W E σ H _ S (Pst.seq h fun F1 W1 H1 x d E1 S1 s1 rr h1 => ?_)
  cases d <;> first | exact h1.elim | skip
  cases rr
  exact ⟨_, rfl, h1 F1 W1 H1 _ S1 (Stp.refl _ _ _) rfl⟩
def cutD (xs : List D) (lo hi : Option Int) : List D := (xs.drop (HT.sIx xs.length 0 lo)).take (HT.sIx xs.length xs.length hi - HT.sIx xs.length 0 lo)
def sliceD (d : D) (lo hi : Option Int) : Option D := match d with
  | .lst xs => some (.lst (cutD xs lo hi))
  | .tup xs => some (.tup (cutD xs lo hi))
  | .frl ns => some (.lst (cutD (ns.map .int) lo hi))
  | _ => none
theorem RepL.cut {K : KF} {F : Hp} {vs : List V} {ds : List D} (r : RepL K F vs ds) (lo hi : Option Int) : RepL K F (cutV vs lo hi) (cutD ds lo hi) := by
  unfold cutV cutD
  rw [r.length]
  exact (r.drop _).take _
theorem cutD_le (xs : List D) (lo hi : Option Int) : (cutD xs lo hi).length ≤ xs.length := by
  unfold cutD
  rw [List.length_take, List.length_drop]
  omega
theorem cutD_whole {xs : List D} {lo hi : Option Int} (h : HT.sIx xs.length 0 lo = 0 ∧ HT.sIx xs.length xs.length hi = xs.length) : cutD xs lo hi = xs := by
  unfold cutD
  rw [h.1, h.2, List.drop_zero, Nat.sub_zero, List.take_length]
def rSlX (K : KF) : V → Option Int → Option Int → Hp → VK → Prop := fun x lo hi H Q => rSlL K x lo hi H Q ∨ rSlA K x lo hi H Q
theorem pp_slice {lo hi : Option Expr} {fl fh : M (Option Int)} {p2 : Pos} (ha : PP X ios Wx a fa) (hl : PPart X ios Wx lo fl) (hh : PPart X ios Wx hi fh) : PP X ios Wx (.Subscript a (.Slice lo hi none p2) pos) (bnd fa fun x => bnd fl fun l => bnd fh fun u => ofO (sliceD x l u)) := by
  obtain ⟨ta, pa, ra⟩ := ha.ex
  obtain ⟨tl, pl, rl⟩ := hl.ex
  obtain ⟨th, ph, rh⟩ := hh.ex
  refine ⟨_, pe_slice (r := rSlX X.K) (sl_list.or sl_tupA) pa pl ph, fun B F W E σ H Q S h => ?_⟩
  refine ra B F W E σ H _ S (Pst.seq h fun F1 W1 H1 x d E1 S1 s1 r1 h1 => ?_)
  refine rl B F1 W1 E1 σ H1 _ S1 (Pst.seq h1 fun F2 W2 H2 l l' E2 S2 s2 r2 h2 => ?_)
  refine rh B F2 W2 E2 σ H2 _ S2 (Pst.seq h2 fun F3 W3 H3 u u' E3 S3 s3 r3 h3 => ?_)
  subst r2 r3
  obtain ⟨z, ez, h4⟩ := h3.some
  have rx := r1.mono (s2.fx.trans s3.fx) d
  have q : ∀ F' H' v, Gr F3 H3 F' H' → Rep X.K F' v z → Q v H' := fun F' H' v g rr => h4.grown S3 g rr
  cases d <;> first | (cases ez; done) | skip
  · cases ez
    cases rx with
    | lst s z r => exact .inl ⟨_, _, rfl, SqL.of (S3.fh _ _ s), fun p hp => new_lst q S3.fh hp (Nat.le_trans (cutD_le _ _ _) z) (r.cut _ _)⟩
  · cases ez
    cases rx with
    | tup s z r =>
      refine .inr ⟨_, _, rfl, sqT_mono S3.fh s, fun w => ?_, fun _ p hp => new_tup q S3.fh hp (Nat.le_trans (cutD_le _ _ _) z) (r.cut _ _)⟩
      rw [r.length] at w
      exact q F3 H3 _ (Gr.refl S3.fh) (by rw [cutD_whole w]; exact .tup s z r)
  · rename_i ns
    cases ez
    cases rx with
    | frl s z => exact .inl ⟨_, _, rfl, sqL_mono S3.fh s, fun p hp => new_lst q S3.fh hp (Nat.le_trans (cutD_le _ _ _) (by rw [List.length_map]; exact z)) ((RepL.ofInts ns).cut _ _)⟩
def flats : List D → Option (List V)
  | [] => some []
  | d :: r => match flat d, flats r with
    | some v, some vs => some (v :: vs)
    | _, _ => none
theorem RepL.flats {K : KF} {F : Hp} : ∀ {vs ws : List V} {ds : List D}, RepL K F vs ds → flats ds = some ws → vs = ws
  | [], _, _, h, e => by cases h; cases e; rfl
  | v :: vs, ws, _, h, e => by
    cases h with
    | cons h1 h2 =>
      rename_i d ds
      have e' : (match flat d, Dl.flats ds with
        | some v, some vs => some (v :: vs)
        | _, _ => none) = some ws := e
      cases q1 : flat d with
      | none => rw [q1] at e'; cases e'
      | some x =>
        rw [q1] at e'
        cases q2 : Dl.flats ds with
        | none => rw [q2] at e'; cases e'
        | some xs =>
          rw [q2] at e'
          cases e'
          rw [h1.flat q1, h2.flats q2]
def seqOf : D → Option (List D)
  | .lst xs => some xs
  | .tup xs => some xs
  | _ => none
def flatIn (d e : D) : Option Bool := match flat d, seqOf e with
  | some v, some xs => match flats xs with
    | some vs => if flatV v = true ∧ vs.all flatV = true then some (inV v vs) else none
    | none => none
  | _, _ => none
def deepIn (d e : D) : Option Bool := match toP d, toP e with
  | some p, some (.list qs) => if SeqAt.shaped p = true ∧ SeqAt.shaped (.list qs) = true then some (qs.any fun z => PyData.eqv z p) else none
  | _, _ => none
def inB (d e : D) : Option Bool := match flatIn d e with
  | some b => some b
  | none => deepIn d e
def inD (d e : D) : Option D := (inB d e).map .bl
def ninD (d e : D) : Option D := (inB d e).map fun b => .bl (!b)
def rInA (K : KF) : R2 := fun x y H Q => rIn K false x y H Q ∨ rInD K x y H Q
theorem op_inA (hu : X.A.units + 65 < cLine) : OpR X (compareOp .In) (rInA X.K) := op_in_seq.or (op_inD hu)
theorem flatIn_of {d e : D} {b : Bool} (h : flatIn d e = some b) : ∃ v xs vs, flat d = some v ∧ seqOf e = some xs ∧ flats xs = some vs ∧ flatV v = true ∧ vs.all flatV = true ∧ b = inV v vs := by
  unfold flatIn at h
  cases q1 : flat d with
  | none => rw [q1] at h; cases h
  | some v =>
    rw [q1] at h
    cases q2 : seqOf e with
    | none => rw [q2] at h; cases h
    | some xs =>
      rw [q2] at h
      have h2 : (match flats xs with
        | some vs => if flatV v = true ∧ vs.all flatV = true then some (inV v vs) else none
        | none => none) = some b := h
      cases q3 : flats xs with
      | none => rw [q3] at h2; cases h2
      | some vs =>
        rw [q3] at h2
        have h3 : (if flatV v = true ∧ vs.all flatV = true then some (inV v vs) else none) = some b := h2
        by_cases c : flatV v = true ∧ vs.all flatV = true
        · rw [if_pos c] at h3; cases h3; exact ⟨v, xs, vs, rfl, rfl, q3, c.1, c.2, rfl⟩
        · rw [if_neg c] at h3; cases h3
theorem deepIn_of {d e : D} {b : Bool} (h : deepIn d e = some b) : ∃ p qs, toP d = some p ∧ toP e = some (.list qs) ∧ SeqAt.shaped p = true ∧ SeqAt.shaped (.list qs) = true ∧ b = qs.any fun z => PyData.eqv z p := by
  unfold deepIn at h
  cases q1 : toP d with
  | none => rw [q1] at h; cases h
  | some p =>
    rw [q1] at h
    cases q2 : toP e with
    | none => rw [q2] at h; cases h
    | some q =>
      rw [q2] at h
      cases q with
      | list qs =>
        have h3 : (if SeqAt.shaped p = true ∧ SeqAt.shaped (.list qs) = true then some (qs.any fun z => PyData.eqv z p) else none) = some b := h
        by_cases c : SeqAt.shaped p = true ∧ SeqAt.shaped (.list qs) = true
        · rw [if_pos c] at h3; cases h3; exact ⟨p, qs, rfl, rfl, c.1, c.2, rfl⟩
        · rw [if_neg c] at h3; cases h3
      | _ => cases h
theorem seq_of {K : KF} {F H : Hp} (fh : Same F H) {v : V} {d : D} {xs : List D} (h : Rep K F v d) (e : seqOf d = some xs) : ∃ p vs, v = .ref p ∧ (SqL K H p vs ∨ SqT K H p vs) ∧ RepL K F vs xs := by
  cases h <;> first | (cases e; done) | skip
  · cases e
    rename_i s z r
    exact ⟨_, _, rfl, .inl (SqL.of (fh _ _ s)), r⟩
  · cases e
    rename_i s z r
    exact ⟨_, _, rfl, .inr (sqT_mono fh s), r⟩
theorem opd_in {K : KF} : OpD K (rInA K) inD := by
  intro F H x y d e z Q fh rx ry hz q
  unfold inD inB at hz
  cases h : flatIn d e with
  | some b =>
    rw [h] at hz
    cases hz
    obtain ⟨v, xs, vs, e1, e2, e3, f1, f2, rfl⟩ := flatIn_of h
    obtain ⟨p, ws, rfl, sq, r⟩ := seq_of fh ry e2
    rw [rx.flat e1]
    refine .inl ⟨p, ws, rfl, sq, f1, by rw [r.flats e3]; exact f2, ?_⟩
    rw [r.flats e3, if_neg Bool.false_ne_true]
    exact q F H _ (Gr.refl fh) (.bl _)
  | none =>
    rw [h] at hz
    cases h2 : deepIn d e with
    | none => rw [h2] at hz; cases hz
    | some b =>
      rw [h2] at hz
      cases hz
      obtain ⟨p, qs, e1, e2, s1, s2, rfl⟩ := deepIn_of h2
      exact .inr ⟨p, qs, rx.dp fh d e1, ry.dp fh e e2, s1, s2, q F H _ (Gr.refl fh) (.bl _)⟩
def fldAt : Str → List Str → List D → Option D
  | f, n :: ns, d :: ds => if f = n then some d else fldAt f ns ds
  | _, _, _ => none
def attrD (cs : List Str) (f : Str) : D → Option D
  | .ins c ns ds => if cs.contains c = true then fldAt f ns ds else none
  | _ => none
def CallD (K : KF) (r : List V → Hp → VK → Prop) (g : List D → Option D) : Prop := ∀ (F H : Hp) (vs : List V) (ds : List D) (z : D) (Q : VK), Same F H → RepL K F vs ds → g ds = some z → (∀ F' H' v, Gr F H F' H' → Rep K F' v z → Q v H') → r vs H Q
theorem pp_callB {x : Str} {id : String} {p : Pos} {r : List V → Hp → VK → Prop} {g : List D → Option D} {fs : M (List D)} (hc : CallR X (.builtin id) r) (hd : CallD X.K r g) (hg : Gl X x) (hm : X.mg x = none) (hv : bootBuiltins x = some (.builtin id)) (ha : PL X ios Wx (e :: es) fs)
    (hn : x ≠ "__name__" := by decide) (hdb : (x == ("__debug__" : Str)) = false := by decide) (he : starEach (e :: es) X.env = (false, eval e X.env) :: starEach es X.env := by rfl) (hpl : (backTo pos (starEach es X.env)).any (·.1) = false := by rfl) :
    PP X ios Wx (.Call (.Name x p) (e :: es) [] pos) (bnd fs fun xs => ofO (g xs)) := by
  obtain ⟨t, pa, ra⟩ := ha.ex
  refine ⟨_, pe_callB hc hg hm hv pa hn hdb he hpl, fun B F W E σ H Q S h => ?_⟩
  refine ra B F W E σ H _ S (Pst.seq h fun F1 W1 H1 vs ds E1 S1 s1 r1 h1 => ?_)
  obtain ⟨z, ez, h2⟩ := h1.some
  exact hd F1 H1 vs ds z Q S1.fh r1 ez fun F' H' v g rr => h2.grown S1 g rr
theorem pp_callT {x : Str} {T : String} {p : Pos} {r : List V → Hp → VK → Prop} {g : List D → Option D} {fs : M (List D)} (hc : CallR X (.type T) r) (hd : CallD X.K r g) (hg : Gl X x) (hm : X.mg x = none) (hv : bootBuiltins x = some (.type T)) (ha : PL X ios Wx (e :: es) fs)
    (hn : x ≠ "__name__" := by decide) (hdb : (x == ("__debug__" : Str)) = false := by decide) (he : starEach (e :: es) X.env = (false, eval e X.env) :: starEach es X.env := by rfl) (hpl : (backTo pos (starEach es X.env)).any (·.1) = false := by rfl) :
    PP X ios Wx (.Call (.Name x p) (e :: es) [] pos) (bnd fs fun xs => ofO (g xs)) := by
  obtain ⟨t, pa, ra⟩ := ha.ex
  refine ⟨_, pe_callTy hc hg hm hv pa hn hdb he hpl, fun B F W E σ H Q S h => ?_⟩
  refine ra B F W E σ H _ S (Pst.seq h fun F1 W1 H1 vs ds E1 S1 s1 r1 h1 => ?_)
  obtain ⟨z, ez, h2⟩ := h1.some
  exact hd F1 H1 vs ds z Q S1.fh r1 ez fun F' H' v g rr => h2.grown S1 g rr
end
end Dl
namespace Dl
open PySem PySem.Spec PyProof.Rows L2
variable [Tbs]
def putE (i : Nat) (d : D) (E : Nv) : Option Nv := some (E.set i (some (.sh, d)))
def tgN : List D → Nv → Option Nv
  | [], E => some E
  | _, _ => none
def tgC (h : D → Nv → Option Nv) (hs : List D → Nv → Option Nv) : List D → Nv → Option Nv
  | d :: ds, E => (h d E).bind (hs ds)
  | _, _ => none
def tgT (n : Nat) (hs : List D → Nv → Option Nv) : D → Nv → Option Nv
  | .tup ds, E => if ds.length = n then hs ds E else none
  | .lst ds, E => if ds.length = n then hs ds E else none
  | _, _ => none
theorem PG.or {X : Cx} {e : Expr} {g g' : TG} (h : PG X e g) (h' : PG X e g') : PG X e (fun v σ H Q => g v σ H Q ∨ g' v σ H Q) :=
  ⟨fun pins s σ H v u Q I r q => by
    rcases q with q | q
    · exact h.run pins s σ H v u Q I r q
    · exact h'.run pins s σ H v u Q I r q⟩
structure PT' (X : Cx) (ios : Ios) (tg : Expr) (h : D → Nv → Option Nv) : Prop where
  ex : ∃ g : TG, PG X tg g ∧ ∀ B F W E E' σ H v d Q, St X.K ios B F W E σ H → Rep X.K F v d → h d E = some E' → (∀ σ' W', St X.K ios B F W' E' σ' H → Q σ' H) → g v σ H Q
section
variable {X : Cx} {ios : Ios} {Wx : WX} {a b c e tg : Expr} {es tgs : List Expr} {pos : Pos}
theorem tg_name {i : Nat} {x : Str} (hN : X.N.Nodup) (hi : X.N[i]? = some x) (hx : Loc X.env.scope x) (hio : ios.contains i = false) (hf : X.fn x = true ∨ X.env.scope.names.lookup x = some .local := by first | exact .inl rfl | exact .inr rfl | assumption) :
    PT' X ios (.Name x pos) (putE i) := by
  refine ⟨_, pg_name hN hi hx hf, fun B F W E E' σ H v d Q S r h k => ?_⟩
  cases h
  exact k _ _ (S.put hio (Wr := noW) Fresh.no r)
def asgS (h : D → Nv → Option Nv) (f : M D) : G := andS f fun d E => match h d E with
  | some E' => .nx E'
  | none => .stk
def par2S (i j : Nat) (f : M (List D)) : G := andS f fun ds E => match ds with
  | [d, e] => .nx ((E.set i (some (.sh, d))).set j (some (.sh, e)))
  | _ => .stk
theorem pd_par {i j : Nat} {x y : Str} {px py pt : Pos} {kt k2 pt2} {fs : M (List D)} (hc : X.calm = true) (hN : X.N.Nodup) (hi : X.N[i]? = some x) (hj : X.N[j]? = some y) (hij : i ≠ j)
    (hx : X.env.scope.names.lookup x = some .local) (hy : X.env.scope.names.lookup y = some .local) (hio : ios.contains i = false) (hjo : ios.contains j = false) (ha : PL X ios Wx [a, b] fs)
    (hw : swappedStores [.Tuple [.Name x px, .Name y py] kt pt] (.Tuple [a, b] k2 pt2) X.env = pure (some [x, y]))
    (hs : swapsWithSole [.Tuple [.Name x px, .Name y py] kt pt] (.Tuple [a, b] k2 pt2) pos.line X.env = pure false := by rfl) :
    PD X ios Wx (.Assign [.Tuple [.Name x px, .Name y py] kt pt] (.Tuple [a, b] k2 pt2) pos) (par2S i j fs) := by
  obtain ⟨t, p, r⟩ := ha.ex
  refine ⟨_, ps_par hc hN hi hj hij hx hy p hw hs, fun B F W E σ H D S k => ?_⟩
  refine r B F W E σ H _ S (PstS.seq k fun F1 W1 H1 vs ds E1 S1 s1 rr k1 => ?_)
  cases rr with
  | nil => exact k1.elim
  | cons q1 rr =>
    cases rr with
    | nil => exact k1.elim
    | cons q2 rr =>
      cases rr with
      | nil => exact ⟨_, _, rfl, k1 F1 _ H1 _ ((S1.put hio (p := (.sh, _)) (Wr := noW) Fresh.no q1).put hjo (p := (.sh, _)) (Wr := noW) Fresh.no q2) (Same.refl F1)⟩
      | cons _ _ => exact k1.elim
def par3S (i j l : Nat) (f : M (List D)) : G := andS f fun ds E => match ds with
  | [d, e, g] => .nx (((E.set i (some (.sh, d))).set j (some (.sh, e))).set l (some (.sh, g)))
  | _ => .stk
end
structure Wlk (K : KF) (J : It) (ds : List D) (F0 : Hp) : Prop where
  go : ∀ i F H, Same F0 F → Same F H → i < ds.length → J.go i H
  yld : ∀ i F H x H' d, Same F0 F → Same F H → J.yld i H x H' → ds[i]? = some d → ∃ F', Gr F H F' H' ∧ Rep K F' x d
  stop : ∀ i F H, Same F0 F → Same F H → ds.length ≤ i → J.stop i H
structure PIt (X : Cx) (ios : Ios) (Wx : WX) (tg iter : Expr) (f : M (List D)) : Prop where
  ex : ∃ wi : TI, PI X tg iter wi ∧ ∀ B F W E σ H R, St X.K ios B F W E σ H → Pst X.K ios B Wx σ (fun F' (J : It) ds => Wlk X.K J ds F') F W H (f E) R → wi σ H R
def loopS (asg : D → Nv → Option Nv) (body : G) : List D → G
  | [], E => .nx E
  | d :: ds, E => match asg d E with
    | none => .stk
    | some E1 => match body E1 with
      | .nx E2 => loopS asg body ds E2
      | .ct E2 => loopS asg body ds E2
      | .bk E2 => .nx E2
      | .rt p E2 => .rt p E2
      | .er x E2 => .er x E2
      | .stk => .stk
def forS (f : M (List D)) (asg : D → Nv → Option Nv) (body : G) : G := andS f fun ds => loopS asg body ds
section
variable {X : Cx} {ios : Ios} {Wx : WX} {a b c e tg iter : Expr} {es tgs : List Expr} {pos : Pos} {body : List Stmt}
theorem pd_for {f : M (List D)} {asg : D → Nv → Option Nv} {g : G} (hp : PassesOwn (model X.prog X.w) X.A X.env X.xe) (hc : X.calm = true) (hi : PIt X ios Wx tg iter f) (hg : PT' X ios tg asg) (hb : PDs X ios Wx body g)
    (hs : ∀ x, foldedSetIterable iter X.env x = pure x := by intro _; rfl) : PD X ios Wx (.For tg iter body [] pos) (forS f asg g) := by
  obtain ⟨wi, pi, ri⟩ := hi.ex
  obtain ⟨gg, pg, rg⟩ := hg.ex
  obtain ⟨tb, pb, rb⟩ := hb.ex
  refine ⟨_, ps_for hp hc pi pg pb hs, fun B F W E σ H D S k => ?_⟩
  refine ri B F W E σ H _ S (PstS.seq k fun F1 W1 H1 J ds E1 S1 s1 wl k1 => ?_)
  refine ⟨fun i m σ' H' => m = ds.length - i ∧ i ≤ ds.length ∧ ∃ F' W' E', St X.K ios B F' W' E' σ' H' ∧ Same F1 F' ∧ PstS X.K ios B Wx F' (loopS asg g (ds.drop i) E') D,
    ⟨ds.length, by simp, Nat.zero_le _, F1, W1, E1, S1, Same.refl F1, k1⟩, ?_⟩
  rintro i m σ' H' ⟨rfl, hi, F', W', E', S', e', k'⟩
  by_cases hlt : i < ds.length
  · refine .inr ⟨wl.go i F' H' e' S'.fh hlt, fun σ2 H2 => ∃ F2 W2 E2, St X.K ios B F2 W2 E2 σ2 H2 ∧ Same F1 F2 ∧ PstS X.K ios B Wx F2 (loopS asg g (ds.drop (i + 1)) E2) D, fun σ2 H2 h2 => ⟨ds.length - (i + 1), by omega, rfl, hlt, h2⟩, fun x H2 hy => ?_⟩
    have ed : ds[i]? = some ds[i] := List.getElem?_eq_getElem hlt
    obtain ⟨F2, gr, rx⟩ := wl.yld i F' H' x H2 _ e' S'.fh hy ed
    have S2 := S'.grow gr
    rw [List.drop_eq_getElem_cons hlt] at k'
    have k2 : PstS X.K ios B Wx F2 (loopS asg g (ds[i] :: ds.drop (i + 1)) E') D := PstS.from gr.fx k'
    unfold loopS at k2
    cases q : asg ds[i] E' with
    | none => rw [q] at k2; exact k2.elim
    | some E3 =>
      rw [q] at k2
      refine rg B F2 W' E' E3 σ' H2 x _ _ S2 rx q fun σ3 W3 S3 => ?_
      refine rb B F2 W3 E3 σ3 H2 _ S3 ?_
      cases q2 : g E3 with
      | nx E4 => simp only [q2] at k2; exact fun F4 W4 H4 σ4 S4 t4 => ⟨F4, W4, E4, S4, e'.trans (gr.fx.trans t4), PstS.from t4 k2⟩
      | ct E4 => simp only [q2] at k2; exact fun F4 W4 H4 σ4 S4 t4 => ⟨F4, W4, E4, S4, e'.trans (gr.fx.trans t4), PstS.from t4 k2⟩
      | bk E4 => simp only [q2] at k2; exact fun F4 W4 H4 σ4 S4 t4 => k2 F4 W4 H4 σ4 S4 t4
      | rt p E4 => simp only [q2] at k2; exact fun F4 W4 H4 σ4 v Wr S4 t4 => k2 F4 W4 H4 σ4 v Wr S4 t4
      | er x E4 => simp only [q2] at k2; exact fun F4 W4 H4 σ4 c dx S4 t4 => k2 F4 W4 H4 σ4 c dx S4 t4
      | stk => simp only [q2] at k2; exact k2.elim
  · have e : i = ds.length := by omega
    subst e
    rw [List.drop_length] at k'
    exact .inl ⟨wl.stop _ F' H' e' S'.fh (Nat.le_refl _), k' F' W' H' σ' S' (Same.refl F')⟩
theorem wlk_list {K : KF} {F0 : Hp} {a : Addr} {vs : List V} {ds : List D} (h : F0 a = some (.lst vs)) (r : RepL K F0 vs ds) : Wlk K (Itl K a) ds F0 where
  go := fun i F H e1 e2 hi => by
    have hl := r.length
    exact ⟨vs, vs[i], SqL.of (e2 _ _ (e1 _ _ h)), List.getElem?_eq_getElem (by omega)⟩
  yld := fun i F H x H' d e1 e2 hy hd => by
    obtain ⟨rfl, hq⟩ := hy
    obtain ⟨v, ev, rv⟩ := r.get hd
    have ex := hq vs (SqL.of (e2 _ _ (e1 _ _ h)))
    rw [ev] at ex
    cases ex
    exact ⟨F, Gr.refl e2, rv.mono e1 d⟩
  stop := fun i F H e1 e2 hi => ⟨vs, SqL.of (e2 _ _ (e1 _ _ h)), by rw [r.length]; exact hi⟩
theorem wlk_tup {K : KF} {F0 : Hp} {a : Addr} {vs : List V} {ds : List D} (h : SqT K F0 a vs) (r : RepL K F0 vs ds) : Wlk K (Itt K a) ds F0 where
  go := fun i F H e1 e2 hi => by
    have hl := r.length
    exact ⟨vs, vs[i], sqT_mono e2 (sqT_mono e1 h), List.getElem?_eq_getElem (by omega)⟩
  yld := fun i F H x H' d e1 e2 hy hd => by
    obtain ⟨rfl, hq⟩ := hy
    obtain ⟨v, ev, rv⟩ := r.get hd
    have ex := hq vs (sqT_mono e2 (sqT_mono e1 h))
    rw [ev] at ex
    cases ex
    exact ⟨F, Gr.refl e2, rv.mono e1 d⟩
  stop := fun i F H e1 e2 hi => ⟨vs, sqT_mono e2 (sqT_mono e1 h), by rw [r.length]; exact hi⟩
def rng (lo : Int) (n : Nat) : List D := (List.range n).map fun i => .int (lo + (i : Nat))
theorem wlk_rng {K : KF} {F0 : Hp} {lo : Int} {n : Nat} : Wlk K (Itr lo n) (rng lo n) F0 where
  go := fun i F H e1 e2 hi => by
    unfold rng at hi
    rw [List.length_map, List.length_range] at hi
    exact hi
  yld := fun i F H x H' d e1 e2 hy hd => by
    obtain ⟨rfl, rfl⟩ := hy
    unfold rng at hd
    rw [List.getElem?_map] at hd
    cases q : (List.range n)[i]? with
    | none => rw [q] at hd; cases hd
    | some j =>
      rw [q] at hd
      have ej : j = i := by
        rw [List.getElem?_range] at q
        · cases q; rfl
        · have := (List.getElem?_eq_some_iff.mp q).1
          rw [List.length_range] at this; exact this
      subst ej
      cases hd
      exact ⟨F, Gr.refl e2, .int _⟩
  stop := fun i F H e1 e2 hi => by
    unfold rng at hi
    rw [List.length_map, List.length_range] at hi
    exact hi
def rng1Of : List D → Option (List D)
  | [.int j] => if inR 4611686018427387903 j = true then some (rng 0 j.toNat) else none
  | _ => none
def rng2Of : List D → Option (List D)
  | [.int i, .int j] => if inR 4611686018427387903 i = true ∧ inR 4611686018427387903 j = true then some (rng i (j - i).toNat) else none
  | _ => none
theorem rng1_of {ds z : List D} (h : rng1Of ds = some z) : ∃ j, ds = [.int j] ∧ -(2 ^ 62) ≤ j ∧ j < 2 ^ 62 ∧ z = rng 0 j.toNat := by
  match ds, h with
  | [.int j], h =>
    have h' : (if inR 4611686018427387903 j = true then some (rng 0 j.toNat) else none) = some z := h
    by_cases c : inR 4611686018427387903 j = true
    · rw [if_pos c] at h'
      cases h'
      have ci := inR_iff.mp c
      exact ⟨j, rfl, by omega, by omega, rfl⟩
    · rw [if_neg c] at h'; cases h'
theorem it_range1 {fs : M (List D)} {p : Pos} (hg : Gl X "range") (hm : X.mg "range" = none) (ha : PL X ios Wx [a] fs) (hs : starEach [a] X.env = [(false, eval a X.env)] := by rfl) : PIt X ios Wx tg (.Call (.Name "range" p) [a] [] pos) (bnd fs fun ds => ofO (rng1Of ds)) := by
  obtain ⟨t, pa, r⟩ := ha.ex
  refine ⟨_, pi_range1 hg hm pa hs, fun B F W E σ H R S h => ?_⟩
  refine r B F W E σ H _ S (Pst.seq h fun F1 W1 H1 vs ds E1 S1 s1 rr h1 => ?_)
  obtain ⟨z, ez, h2⟩ := h1.some
  obtain ⟨j, rfl, c1, c2, rfl⟩ := rng1_of ez
  cases rr with
  | cons q1 rr =>
    cases rr
    cases q1
    exact ⟨j, rfl, c1, c2, h2 F1 W1 H1 _ S1 (Stp.refl _ _ _) wlk_rng⟩
end
end Dl
namespace Dl
open PySem PySem.Spec PyProof.Rows L2
variable [Tbs]
abbrev Cxt (P : Program) (w : World) : CXT := L2.CX P w
structure FnG (P : Program) (w : World) (K : KF) (mg : Str → Option Value) (base : Heap) (k : Nat) (f : Addr) (fd : FuncData) (ps : List Str) (sp : Sp) : Prop where
  len : ∀ vs H Q E, sp vs H Q E → vs.length = ps.length
  run : ∀ (A : Around) (outer : List Env) (s : Shared) (H : Hp) (args : Args) (us : List Value) (vs : List V) (Q : VK) (E : XK), Room k A → A.guards = some [] → Env0 P w K mg base A outer s H →
    BindsTo s fd args (ps.zip us) → Vals vs us → sp vs H Q E → codeAny (model P w) A (.call (.ref f) args) (CR (Cxt P w) outer P w H s Q E) s
section
variable {P : Program} {w : World} {K : KF} {mg : Str → Option Value} {base : Heap}
def cOf (K : KF) (f : Addr) : Addr := match K.lookup f with
  | some ⟨_, _, .func fd, _⟩ => (match fd.code with
    | .ref c => c
    | _ => 0)
  | _ => 0
theorem cOf_eq {K : KF} {f : Addr} {oc : Value} {od : Option Addr} {osl : Array (Option Value)} {fd : FuncData} {q : Str} (lk : K.lookup f = some ⟨oc, od, .func fd, osl⟩) (e : PySem.W.codeIn K fd.code q = true) : fd.code = .ref (cOf K f) := by
  unfold cOf
  rw [lk]
  show fd.code = .ref (match fd.code with | .ref c => c | _ => 0)
  cases h : fd.code with
  | ref c => rfl
  | _ => rw [h] at e; cases e
theorem fn_gL {x qual : Str} {params : Arguments} {body : List Stmt} {scope : Scope} {dvs : List V} {kws : List (Str × V)} {f : Addr} {fd : FuncData} {N ps : List Str} {k : Nat} {sp : Sp}
    (F : FunD K x qual params body scope dvs kws f fd) (S : FnScope N ps scope) (len : ∀ vs H Q E, sp vs H Q E → vs.length = ps.length)
    (hb : ∀ (cdv : Value), cdv = .ref (cOf K f) → ∀ (A : Around) (outer : List Env) (s : Shared) (H : Hp) (vs : List V) (Q : VK) (E : XK), Room k (A.deeper (envOfC qual scope s.heap.objs.size f cdv)) → (A.deeper (envOfC qual scope s.heap.objs.size f cdv)).guards = some [] → sp vs H Q E →
      ∃ t, PSs (cxOf (Cxt P w) P w K mg base N qual scope f cdv A outer s H E) body t ∧ t { nx := fun _ H' => Q .non H', rt := Q } (start N vs) H) : FnG P w K mg base (k + 1) f fd ps sp := by
  obtain ⟨oc, od, dV, kV, doc, pm, an, cdv, ct, osl, efd, lk, hcd, _, _⟩ := F.ex
  subst efd
  constructor
  · exact len
  intro A outer s H args us vs Q E room guards env binds vals wish
  have stays : ∀ b o, base.get? b = some o → s.heap.get? b = some o := fun b o z => (env.bs b o z).1
  have inHeap : K.In s.heap := env.mod.kin.keeps stays
  have vl := len _ _ _ _ wish
  have kinds : ∀ y ∈ ps.zip us, scope.names.lookup y.1 = some .local ∨ (scope.names.lookup y.1 = some .cell ∧ ((cellsFrom (s.heap.objs.size + 1) scope.names []).lookup y.1).isSome = true) := by
    rintro ⟨n, v⟩ hy
    cases S.par n (List.of_mem_zip hy).1 with
    | inl q => exact Or.inl q
    | inr q => exact Or.inr ⟨q, PySem.W.cellsFrom_some _ _ _ (Or.inl q)⟩
  refine codeAny_call_function room.depth (inHeap _ _ lk) rfl S.co S.gen rfl (PySem.W.codeRec_of inHeap hcd) (binds _ _ _ _ (wpAny_newFunctionEnv_cells S.kind kinds ?_))
  intro env' e' s1 ic
  subst e'
  refine ⟨(env.mod.nolimit.keeps stays).keeps ic.toInCall.keep, codeAny_func ?_⟩
  have hcv : cdv = .ref (cOf K f) := cOf_eq lk hcd
  obtain ⟨t, pt, rd⟩ := hb cdv hcv A outer s H vs Q E (room.deeper _) guards wish
  have inv : Inv (cxOf (Cxt P w) P w K mg base N qual scope f cdv A outer s H E) [] (start N vs) H s1 := inv_start S room.hd env vl vals ic
  refine wpAny_mono (pt.run [] s1 (start N vs) H _ inv rd) ?_ fun e s' z => z
  intro fl s' z
  cases fl with
  | ret u =>
    obtain ⟨v, σ', H', J, rv, q⟩ := z
    exact ⟨v, H', J.os, J.bare, J.base, J.hok, rv, q⟩
  | next =>
    obtain ⟨σ', H', J, q⟩ := z
    exact ⟨.non, H', J.os, J.bare, J.base, J.hok, rfl, q⟩
  | brk =>
    obtain ⟨_, _, _, q⟩ := z
    exact q.elim
  | cont =>
    obtain ⟨_, _, _, q⟩ := z
    exact q.elim
end
section
variable {X : Cx} {k : Nat} {f C : Addr} {fd : FuncData} {ps : List Str} {sp : Sp} {dvs : List V} {ds : List Value} {x m : Str} {p pos apos : Pos} {e o : Expr} {es : List Expr} {ta : TE} {t : TA} {W : WX}
theorem run_g {pins : List (Addr × Obj)} {σ : L2.St} {H : Hp} {s : Shared} {Q : VK} {us : List Value} {vs : List V} (F : FnG X.prog X.w X.K X.mg X.base k f fd ps sp) (hr : Room k X.A) (hg : X.A.guards = some []) (hb : Binds X.K fd ps ds) (hd : Vals dvs ds) (tk : Takes X W)
    (I : Inv X pins σ H s) (r : Vals vs us) (h : sp (vs ++ dvs) H Q (WE W σ)) : wpAny (model X.prog X.w) X.A (call (.ref f) us) (EP X pins σ Q) X.xe s := by
  have all : Vals (vs ++ dvs) (us ++ ds) := r.append hd
  have ll : (us ++ ds).length = ps.length := all.length.symm.trans (F.len _ _ _ _ h)
  refine wpAny_call (codeAny_mono (F.run X.A X.stack s H ⟨us, []⟩ (us ++ ds) (vs ++ dvs) Q _ hr hg I.env0 (hb s us I.kIn ll) all h) ?_)
  intro z s' hz
  match z, hz with
  | .error ex, hz => exact tk ex s' (XE.of_call I (fun _ _ _ y => y) hz)
  | .ok (.ret u), hz => exact I.after hz
  | .ok .next, hz => exact hz.elim
  | .ok .brk, hz => exact hz.elim
  | .ok .cont, hz => exact hz.elim
def tCallG (sp : Sp) (dvs : List V) (W : WX) (t : TA) : TE := fun σ H Q => t σ H fun vs H1 => sp (vs ++ dvs) H1 Q (WE W σ)
theorem pe_g (F : FnG X.prog X.w X.K X.mg X.base k f fd ps sp) (hr : Room k X.A) (hgd : X.A.guards = some []) (hg : Gl X x) (hm : X.mg x = some (.ref f)) (hk : PySem.W.keepIn X.K (.ref f) = true) (hb : Binds X.K fd ps ds) (hd : Vals dvs ds) (tk : Takes X W)
    (ha : PA X (e :: es) t) (hdb : (x == ("__debug__" : Str)) = false := by decide) (he : starEach (e :: es) X.env = (false, eval e X.env) :: starEach es X.env := by rfl) (hpl : (backTo pos (starEach es X.env)).any (·.1) = false := by rfl) :
    PE X (.Call (.Name x p) (e :: es) [] pos) (tCallG sp dvs W t) := by
  constructor
  intro pins s σ H Q I h
  refine wpAny_Call_Name_kw (ld_glob I hg hm (PySem.W.callWith_K (h₀ := X.base) I.ok.mod.kin hk (thn (ha.run pos pins s σ H _ I h) ?_) he hpl) hdb)
  rintro us s1 ⟨vs, H1, I1, r, q⟩
  exact ⟨I1.kIn, run_g F hr hgd hb hd tk I1 r q⟩
end
end Dl
namespace Dl
open PySem PySem.Spec PyProof.Rows L2
variable [Tbs]
inductive Rf where
  | ok (r : Ent) (E : Nv) | er (x : Xn) (E : Nv) | stk
abbrev Fm := List Ent → Rf
structure Ins (K : KF) (ios : List Nat) (F : Hp) (W : Wm) (H : Hp) (vs : List V) (as : List Ent) : Prop where
  fh : Same F H
  nz : NoFz H
  ow : ∀ a l, W a = some l → F a = none ∧ ∃ o, H a = some o ∧ nxo o = true
  io : ∀ a l, W a = some l → ∃ i p, l = i :: p ∧ i ∈ ios
  ln : vs.length = as.length
  vr : ∀ i v t d, vs[i]? = some v → as[i]? = some (t, d) → OwnT K F H W t [i] v d
  tb : Tbo F H W
structure Outs (K : KF) (ios : List Nat) (F : Hp) (W : Wm) (H F' : Hp) (W' : Wm) (H' : Hp) (vs : List V) (E : Nv) : Prop where
  st : Stp F W H F' W' H'
  fh : Same F' H'
  nz : NoFz H'
  ow : ∀ a l, W' a = some l → F' a = none ∧ ∃ o, H' a = some o ∧ nxo o = true
  io : ∀ a l, W' a = some l → ∃ i p, l = i :: p ∧ i ∈ ios
  vr : ∀ i v t d, i ∈ ios → vs[i]? = some v → E[i]? = some (some (t, d)) → OwnT K F' H' W' t [i] v d
def PstF (K : KF) (ios : List Nat) (F : Hp) (W : Wm) (H : Hp) (vs : List V) (r : Rf) (Q : VK) (Ex : XK) : Prop :=
  match r with
  | .ok p E => ∀ F' W' H' v Wr, Outs K ios F W H F' W' H' vs E → Fresh Wr H F' W' H' → OwnT K F' H' Wr p.1 [] v p.2 → Q v H'
  | .er x E => ∀ F' W' H' c dx, Outs K ios F W H F' W' H' vs E → XRep K F' H' x c dx → Ex c dx H'
  | .stk => False
def spD (K : KF) (n : Nat) (ios : List Nat) (m : Fm) : Sp := fun vs H Q Ex => vs.length = n ∧ ∃ F W as, Ins K ios F W H vs as ∧ PstF K ios F W H vs (m as) Q Ex
def runG (N : Nat) (g : G) : Fm := fun as => match g (as.map some ++ List.replicate (N - as.length) none) with
  | .nx E => .ok (.sh, .non) E
  | .rt p E => .ok p E
  | .er x E => .er x E
  | .bk _ => .stk
  | .ct _ => .stk
  | .stk => .stk
def rst (ios : List Nat) (W : Wm) : Wm := fun a => match W a with
  | some (i :: p) => if ios.contains i = true then some (i :: p) else none
  | _ => none
theorem rst_of {ios : List Nat} {W : Wm} {a : Addr} {l : Lab} (h : rst ios W a = some l) : W a = some l ∧ ∃ i p, l = i :: p ∧ i ∈ ios := by
  unfold rst at h
  cases q : W a with
  | none => rw [q] at h; cases h
  | some l' =>
    rw [q] at h
    cases l' with
    | nil => cases h
    | cons i p =>
      have h' : (if ios.contains i = true then some (i :: p) else none) = some l := h
      by_cases c : ios.contains i = true
      · rw [if_pos c] at h'; cases h'; exact ⟨rfl, i, p, rfl, by simpa using c⟩
      · rw [if_neg c] at h'; cases h'
theorem rst_in {ios : List Nat} {W : Wm} {a : Addr} {i : Nat} {p : Lab} (h : W a = some (i :: p)) (hi : i ∈ ios) : rst ios W a = some (i :: p) := by
  unfold rst
  rw [h]
  exact if_pos (by simpa using hi)
theorem rst_none {ios : List Nat} {W : Wm} {a : Addr} (h : W a = none) : rst ios W a = none := by
  unfold rst
  rw [h]
section
variable {K : KF} {ios : List Nat} {F F' : Hp} {W W' : Wm} {E' : Nv} {σ' : L2.St} {H H' : Hp} {vs : List V} {pn : Nat → Option V}
theorem St.outs (S : St K (.of ios) ⟨pn, F, W, H⟩ F' W' E' σ' H') (hp : ∀ i v, i ∈ ios → vs[i]? = some v → pn i = some v) : Outs K ios F W H F' (rst ios W') H' vs E' where
  st := by
    have s : Stp F W H F' W' H' := S.st
    refine ⟨s.fx, s.fn, fun a l h => ?_, fun a l h => s.wn a l (rst_of h).1, s.hx, s.hd, s.fk, fun P q tw => (s.tb P q tw).w fun a l z => (S.ow a l (rst_of z).1).2⟩
    obtain ⟨i, p, rfl, hi⟩ := S.w0 a l h
    exact rst_in (s.wx a _ h) hi
  fh := S.fh
  nz := S.nz
  ow := fun a l h => S.ow a l (rst_of h).1
  io := fun a l h => (rst_of h).2
  vr := fun i v t d hi hv he => by
    obtain ⟨u, h1, h2⟩ := S.vr i t d he
    have h3 := (S.pn i v (hp i v hi hv)).2
    rw [h1] at h3
    cases h3
    exact OwnT.relab (p := [i]) (p' := [i]) (q := []) (fun a q z => rst_in z hi) h2
end
section
variable {P : Program} {w : World} {K : KF} {mg : Str → Option Value} {base : Heap}
theorem fn_dL {x qual : Str} {params : Arguments} {body : List Stmt} {scope : Scope} {dvs : List V} {kws : List (Str × V)} {f : Addr} {fd : FuncData} {N ps : List Str} {k n : Nat} {ios : List Nat} {g : G}
    (F : FunD K x qual params body scope dvs kws f fd) (S : FnScope N ps scope) (hn : ps.length = n)
    (hb : ∀ (cdv : Value), cdv = .ref (cOf K f) → ∀ (A : Around) (outer : List Env) (s : Shared) (H : Hp) (E : XK), Room k (A.deeper (envOfC qual scope s.heap.objs.size f cdv)) → (A.deeper (envOfC qual scope s.heap.objs.size f cdv)).guards = some [] →
      PDs (cxOf (Cxt P w) P w K mg base N qual scope f cdv A outer s H E) (.of ios) (fun c d _ H => E c d H) body g) : FnG P w K mg base (k + 1) f fd ps (spD K n ios (runG N.length g)) := by
  refine fn_gL F S (fun vs H Q E h => h.1.trans hn.symm) fun cdv hcv A outer s H vs Q E hr hg h => ?_
  obtain ⟨hl, F0, W0, as, I, post⟩ := h
  obtain ⟨t, pt, rt⟩ := (hb cdv hcv A outer s H E hr hg).ex
  refine ⟨t, pt, ?_⟩
  let pn : Nat → Option V := fun i => if ios.contains i = true then vs[i]? else none
  have hpn : ∀ i v, i ∈ ios → vs[i]? = some v → pn i = some v := fun i v hi hv => by
    show (if ios.contains i = true then vs[i]? else none) = some v
    rw [if_pos (by simpa using hi)]; exact hv
  have hN : ps.length ≤ N.length := by
    have := congrArg List.length S.pre
    rw [List.length_take] at this
    omega
  have S0 : Dl.St K (.of ios) ⟨pn, F0, W0, H⟩ F0 W0 (as.map some ++ List.replicate (N.length - as.length) none) (L2.start N vs) H := by
    refine ⟨I.fh, Stp.refl _ _ _, I.nz, I.ow, fun a l h => ?_, I.io, fun i t d h => ?_, fun i v h => ?_, ?_, True.intro, I.tb⟩
    · obtain ⟨i, p, e, hi⟩ := I.io a l h
      exact ⟨i, p, e, .inl hi⟩
    · have hi : i < as.length := by
        by_cases c : i < as.length
        · exact c
        · rw [List.getElem?_append_right (by rw [List.length_map]; omega), List.getElem?_replicate] at h
          split at h <;> cases h
      rw [List.getElem?_append_left (by rw [List.length_map]; exact hi), List.getElem?_map] at h
      cases q : as[i]? with
      | none => rw [q] at h; cases h
      | some p =>
        rw [q] at h
        cases h
        have hv : i < vs.length := by rw [I.ln]; exact hi
        refine ⟨vs[i], ?_, I.vr i _ t d (List.getElem?_eq_getElem hv) q⟩
        unfold L2.start
        rw [List.getElem?_append_left (by rw [List.length_map]; exact hv), List.getElem?_map, List.getElem?_eq_getElem hv]
        rfl
    · have h' : (if ios.contains i = true then vs[i]? else none) = some v := h
      by_cases c : ios.contains i = true
      · rw [if_pos c] at h'
        refine ⟨(show i ∈ ios by simpa using c), ?_⟩
        have hv : i < vs.length := (List.getElem?_eq_some_iff.mp h').1
        unfold L2.start
        rw [List.getElem?_append_left (by rw [List.length_map]; exact hv), List.getElem?_map, h']
        rfl
      · rw [if_neg c] at h'; cases h'
    · unfold L2.start
      rw [List.length_append, List.length_append, List.length_map, List.length_map, List.length_replicate, List.length_replicate, I.ln]
  refine rt ⟨pn, F0, W0, H⟩ F0 W0 _ (L2.start N vs) H _ S0 ?_
  unfold runG at post
  cases q : g (as.map some ++ List.replicate (N.length - as.length) none) with
  | nx E' =>
    rw [q] at post
    exact fun F' W' H' σ' S' t' => post F' _ H' .non noW (S'.outs hpn) Fresh.no .non
  | rt p E' =>
    rw [q] at post
    exact fun F' W' H' σ' v Wr S' t' fr r => post F' _ H' v Wr (S'.outs hpn) (fun a l z => by
      obtain ⟨z1, z2, z3⟩ := fr a l z
      exact ⟨z1, rst_none z2, z3⟩) r
  | er x E' =>
    rw [q] at post
    exact fun F' W' H' σ' c dx S' t' r => post F' _ H' c dx (S'.outs hpn) r
  | bk E' => rw [q] at post; exact post.elim
  | ct E' => rw [q] at post; exact post.elim
  | stk => rw [q] at post; exact post.elim
theorem fn_d {x qual : Str} {params : Arguments} {body : List Stmt} {scope : Scope} {dvs : List V} {kws : List (Str × V)} {f : Addr} {fd : FuncData} {N ps : List Str} {k n : Nat} {ios : List Nat} {g : G}
    (F : FunD K x qual params body scope dvs kws f fd) (S : FnScope N ps scope) (hn : ps.length = n)
    (hb : ∀ (cdv : Value) (A : Around) (outer : List Env) (s : Shared) (H : Hp) (E : XK), Room k (A.deeper (envOfC qual scope s.heap.objs.size f cdv)) → (A.deeper (envOfC qual scope s.heap.objs.size f cdv)).guards = some [] →
      PDs (cxOf (Cxt P w) P w K mg base N qual scope f cdv A outer s H E) (.of ios) (fun c d _ H => E c d H) body g) : FnG P w K mg base (k + 1) f fd ps (spD K n ios (runG N.length g)) := fn_dL F S hn fun cdv _ => hb cdv
end
abbrev Md := List (Option Nat)
inductive RepA (K : KF) (F : Hp) (σ : L2.St) : Md → List V → List D → Prop
  | nil : RepA K F σ [] [] []
  | sh {md : Md} {v : V} {vs : List V} {d : D} {ds : List D} : Rep K F v d → RepA K F σ md vs ds → RepA K F σ (none :: md) (v :: vs) (d :: ds)
  | io {md : Md} {i : Nat} {v : V} {vs : List V} {ds : List D} : σ[i]? = some (some v) → RepA K F σ md vs ds → RepA K F σ (some i :: md) (v :: vs) ds
structure PLm (X : Cx) (ios : Ios) (Wx : WX) (md : Md) (es : List Expr) (f : M (List D)) : Prop where
  ex : ∃ t : TA, PA X es t ∧ ∀ B F W E σ H Q, St X.K ios B F W E σ H → Pst X.K ios B Wx σ (fun F vs ds => RepA X.K F σ md vs ds) F W H (f E) Q → t σ H Q
theorem RepA.mono {K : KF} {F F' : Hp} {σ : L2.St} (e : Same F F') {md : Md} {vs : List V} {ds : List D} (h : RepA K F σ md vs ds) : RepA K F' σ md vs ds := by
  induction h with
  | nil => exact .nil
  | sh r _ ih => exact .sh (r.mono e _) ih
  | io r _ ih => exact .io r ih
def ents : Md → List D → Nv → Option (List Ent)
  | [], [], _ => some []
  | none :: md, d :: ds, E => (ents md ds E).map fun r => (.sh, d) :: r
  | some i :: md, ds, E => match E[i]? with
    | some (some p) => (ents md ds E).map fun r => p :: r
    | _ => none
  | _, _, _ => none
def back : Nat → Md → Nv → Nv → Nv
  | _, [], _, E => E
  | j, none :: md, O, E => back (j + 1) md O E
  | j, some i :: md, O, E => back (j + 1) md O (E.set i ((O[j]?).join))
def mdOk (ios' : List Nat) : Nat → Md → Bool
  | _, [] => true
  | j, none :: md => mdOk ios' (j + 1) md
  | j, some i :: md => ios'.contains j && !md.contains (some i) && mdOk ios' (j + 1) md
def plc (md : Md) (i : Nat) : Option Nat := md.findIdx? fun o => o == some i
def toC (md : Md) : Lab → Option Lab
  | i :: p => (plc md i).map fun j => j :: p
  | [] => none
def ofC (md : Md) : Lab → Option Lab
  | j :: p => match md[j]? with
    | some (some i) => some (i :: p)
    | _ => none
  | [] => none
theorem plc_some {md : Md} {i j : Nat} (h : plc md i = some j) : md[j]? = some (some i) := by
  unfold plc at h
  rw [List.findIdx?_eq_some_iff_getElem] at h
  obtain ⟨hl, e, _⟩ := h
  rw [List.getElem?_eq_getElem hl]
  have e' : (md[j] == some i) = true := e
  rw [beq_iff_eq.mp e']
theorem mdOk_at {ios' : List Nat} : ∀ {md : Md} {k j i : Nat}, mdOk ios' k md = true → md[j]? = some (some i) → (k + j) ∈ ios' ∧ plc md i = some j
  | [], _, _, _, _, h => by simp at h
  | none :: md, k, 0, i, _, h => by simp at h
  | none :: md, k, j + 1, i, h, e => by
    have h' : mdOk ios' (k + 1) md = true := h
    obtain ⟨h1, h2⟩ := mdOk_at (j := j) h' (by simpa using e)
    refine ⟨by rw [show k + (j + 1) = k + 1 + j by omega]; exact h1, ?_⟩
    unfold plc at h2 ⊢
    rw [List.findIdx?_cons, h2]
    rfl
  | some i0 :: md, k, 0, i, h, e => by
    have h' : (ios'.contains k && !md.contains (some i0) && mdOk ios' (k + 1) md) = true := h
    rw [Bool.and_eq_true, Bool.and_eq_true] at h'
    have e' : i0 = i := by simpa using e
    subst e'
    refine ⟨by simpa using h'.1.1, ?_⟩
    unfold plc
    rw [List.findIdx?_cons]
    simp
  | some i0 :: md, k, j + 1, i, h, e => by
    have h' : (ios'.contains k && !md.contains (some i0) && mdOk ios' (k + 1) md) = true := h
    rw [Bool.and_eq_true, Bool.and_eq_true] at h'
    obtain ⟨h1, h2⟩ := mdOk_at (j := j) h'.2 (by simpa using e)
    refine ⟨by rw [show k + (j + 1) = k + 1 + j by omega]; exact h1, ?_⟩
    have hne : i0 ≠ i := fun z => by
      subst z
      have hm : md.contains (some i0) = true := by
        have := List.mem_of_getElem? (show md[j]? = some (some i0) by simpa using e)
        simpa using this
      rw [hm] at h'
      exact absurd h'.1.2 (by decide)
    unfold plc at h2 ⊢
    rw [List.findIdx?_cons, h2]
    simp [hne]
theorem back_len : ∀ {md : Md} {j : Nat} {O E : Nv}, (back j md O E).length = E.length
  | [], _, _, _ => rfl
  | none :: md, j, O, E => back_len (md := md)
  | some i :: md, j, O, E => by
    have h := back_len (md := md) (j := j + 1) (O := O) (E := E.set i ((O[j]?).join))
    rw [List.length_set] at h
    exact h
theorem back_no {md : Md} {O : Nv} {i : Nat} : ∀ {k : Nat} {E : Nv}, (some i ∉ md) → (back k md O E)[i]? = E[i]? := by
  induction md with
  | nil => exact fun _ => rfl
  | cons o md ih =>
    intro k E h
    have h2 : some i ∉ md := fun z => h (List.mem_cons_of_mem _ z)
    cases o with
    | none => exact ih (k := k + 1) (E := E) h2
    | some i0 =>
      have hne : i0 ≠ i := fun z => h (by rw [z]; exact List.mem_cons_self)
      have h1 := ih (k := k + 1) (E := E.set i0 ((O[k]?).join)) h2
      rw [List.getElem?_set_ne hne] at h1
      exact h1
theorem back_at {ios' : List Nat} {O : Nv} {i : Nat} {md : Md} : ∀ {k j : Nat} {E : Nv}, mdOk ios' k md = true → md[j]? = some (some i) → i < E.length → (back k md O E)[i]? = some ((O[k + j]?).join) := by
  induction md with
  | nil => intro k j E _ h; simp at h
  | cons o md ih =>
    intro k j E hm h hl
    cases o with
    | none =>
      cases j with
      | zero => simp at h
      | succ j =>
        have h1 := ih (k := k + 1) (j := j) (E := E) hm (by simpa using h) hl
        rw [show k + 1 + j = k + (j + 1) by omega] at h1
        exact h1
    | some i0 =>
      have hm' : (ios'.contains k && !md.contains (some i0) && mdOk ios' (k + 1) md) = true := hm
      rw [Bool.and_eq_true, Bool.and_eq_true] at hm'
      cases j with
      | zero =>
        have e' : i0 = i := by simpa using h
        subst e'
        have hn : some i0 ∉ md := by
          have := hm'.1.2
          simpa using this
        have h1 := back_no (k := k + 1) (O := O) (E := E.set i0 ((O[k]?).join)) hn
        rw [List.getElem?_set_self hl] at h1
        exact h1
      | succ j =>
        have h1 := ih (k := k + 1) (j := j) (E := E.set i0 ((O[k]?).join)) hm'.2 (by simpa using h) (by rw [List.length_set]; exact hl)
        rw [show k + 1 + j = k + (j + 1) by omega] at h1
        exact h1
theorem mem_of_at {md : Md} {o : Option Nat} (h : o ∈ md) : ∃ j : Nat, md[j]? = some o := by
  obtain ⟨j, hj, e⟩ := List.getElem_of_mem h
  exact ⟨j, by rw [List.getElem?_eq_getElem hj, e]⟩
theorem plc_none {md : Md} {i : Nat} (h : some i ∉ md) : plc md i = none := by
  unfold plc
  rw [List.findIdx?_eq_none_iff]
  intro o ho
  by_cases c : o = some i
  · subst c; exact absurd ho h
  · simpa using c
def inW (W Wf : Wm) (md : Md) : Wm := fun a => match (W a).bind (toC md) with
  | some l => some l
  | none => Wf a
def outW (W W' : Wm) (md : Md) : Wm := fun a => match W a with
  | some l => some l
  | none => (W' a).bind (ofC md)
section
variable {K : KF} {ios : Ios} {ios' : List Nat} {B : Bs} {F : Hp} {W Wf : Wm} {E : Nv} {σ : L2.St} {H : Hp} {md : Md} {vs : List V} {as : List Ent}
structure NewW (ios' : List Nat) (md : Md) (F : Hp) (W : Wm) (H : Hp) (B : Bs) (Wf : Wm) : Prop where
  at' : ∀ a l, Wf a = some l → F a = none ∧ W a = none ∧ B.H0 a = none ∧ (∃ o, H a = some o ∧ nxo o = true) ∧ ∃ (j : Nat) (p : Lab), l = j :: p ∧ j ∈ ios' ∧ md[j]? = some none
theorem NewW.no : NewW ios' md F W H B noW := ⟨fun a l h => by cases (show (none : Option Lab) = some l from h)⟩
theorem toC_some {l m : Lab} (h : toC md l = some m) : ∃ (i j : Nat) (p : Lab), l = i :: p ∧ m = j :: p ∧ plc md i = some j ∧ md[j]? = some (some i) := by
  cases l with
  | nil => cases h
  | cons i p =>
    have h' : (plc md i).map (fun j => j :: p) = some m := h
    cases q : plc md i with
    | none => rw [q] at h'; cases h'
    | some j =>
      rw [q] at h'
      cases h'
      exact ⟨i, j, p, rfl, rfl, q, plc_some q⟩
theorem inW_of {a : Addr} {m : Lab} (h : inW W Wf md a = some m) : (∃ (i j : Nat) (p : Lab), W a = some (i :: p) ∧ m = j :: p ∧ plc md i = some j ∧ md[j]? = some (some i)) ∨ Wf a = some m := by
  unfold inW at h
  cases q : W a with
  | none => rw [q] at h; exact .inr h
  | some l =>
    rw [q] at h
    have h' : (match toC md l with | some l => some l | none => Wf a) = some m := h
    cases q2 : toC md l with
    | none => rw [q2] at h'; exact .inr h'
    | some m' =>
      rw [q2] at h'
      cases h'
      obtain ⟨i, j, p, rfl, e, e2, e3⟩ := toC_some q2
      exact .inl ⟨i, j, p, rfl, e, e2, e3⟩
theorem inW_at {a : Addr} {i j : Nat} {p : Lab} (h : W a = some (i :: p)) (hp : plc md i = some j) : inW W Wf md a = some (j :: p) := by
  unfold inW
  rw [h]
  show (match (plc md i).map (fun j => j :: p) with | some l => some l | none => Wf a) = _
  rw [hp]
  rfl
theorem inW_nf {a : Addr} {m : Lab} (n : NewW ios' md F W H B Wf) (h : Wf a = some m) : inW W Wf md a = some m := by
  unfold inW
  rw [(n.at' a m h).2.1]
  exact h
theorem inW_none {a : Addr} {i : Nat} {p : Lab} (n : NewW ios' md F W H B Wf) (h : W a = some (i :: p)) (hp : plc md i = none) : inW W Wf md a = none := by
  cases q : inW W Wf md a with
  | none => rfl
  | some m =>
    rcases inW_of q with ⟨i', j, p', e, _, e2, _⟩ | e
    · rw [h] at e; cases e; rw [hp] at e2; cases e2
    · rw [(n.at' a m e).2.1] at h; cases h
theorem inW_no {a : Addr} (h : W a = none) (h2 : Wf a = none) : inW W Wf md a = none := by
  unfold inW
  rw [h]
  exact h2
def Handed (K : KF) (F H : Hp) (Wf : Wm) (E : Nv) (σ : L2.St) (md : Md) (vs : List V) (as : List Ent) : Prop := ∀ (j : Nat) v t d, vs[j]? = some v → as[j]? = some (t, d) →
  (md[j]? = some none ∧ OwnT K F H Wf t [j] v d) ∨ ∃ i, md[j]? = some (some i) ∧ σ[i]? = some (some v) ∧ E[i]? = some (some (t, d))
theorem Handed.ins (S : St K ios B F W E σ H) (n : NewW ios' md F W H B Wf) (ok : mdOk ios' 0 md = true) (hl : vs.length = as.length) (h : Handed K F H Wf E σ md vs as) : Ins K ios' F (inW W Wf md) H vs as where
  fh := S.fh
  nz := S.nz
  ow := fun a l z => by
    rcases inW_of z with ⟨i, j, p, e, _⟩ | e
    · exact S.ow a _ e
    · have := n.at' a l e
      exact ⟨this.1, this.2.2.2.1⟩
  io := fun a l z => by
    rcases inW_of z with ⟨i, j, p, e, e2, e3, e4⟩ | e
    · refine ⟨j, p, e2, ?_⟩
      have := (mdOk_at ok e4).1
      rw [Nat.zero_add] at this
      exact this
    · obtain ⟨j, p, e1, e2, _⟩ := (n.at' a l e).2.2.2.2
      exact ⟨j, p, e1, e2⟩
  ln := hl
  vr := fun j v t d e1 e2 => by
    rcases h j v t d e1 e2 with ⟨m, r⟩ | ⟨i, m, sv, ev⟩
    · exact OwnT.relab (p := [j]) (p' := [j]) (q := []) (fun a q z => inW_nf n z) r
    · obtain ⟨u, h1, h2⟩ := S.vr i t d ev
      rw [sv] at h1
      cases h1
      exact OwnT.relab (p := [i]) (p' := [j]) (q := []) (fun a q z => inW_at z (mdOk_at ok m).2) h2
  tb := fun P q k => (S.tbs P q k).w fun a l z => by
    rcases inW_of z with ⟨i, j, p, e, _⟩ | e
    · exact (S.ow a _ e).2
    · exact (n.at' a l e).2.2.2.1
variable {F' H' : Hp} {W' : Wm} {O : Nv}
theorem outW_new {a : Addr} {l : Lab} (h : W a = none) (h2 : outW W W' md a = some l) : ∃ (i j : Nat) (p : Lab), W' a = some (j :: p) ∧ md[j]? = some (some i) ∧ l = i :: p := by
  unfold outW at h2
  rw [h] at h2
  have h2' : (W' a).bind (ofC md) = some l := h2
  cases q : W' a with
  | none => rw [q] at h2'; cases h2'
  | some m =>
    rw [q] at h2'
    have h3 : ofC md m = some l := h2'
    cases m with
    | nil => cases h3
    | cons j p =>
      have h4 : (match md[j]? with | some (some i) => some (i :: p) | _ => none) = some l := h3
      cases q2 : md[j]? with
      | none => rw [q2] at h4; cases h4
      | some o =>
        rw [q2] at h4
        cases o with
        | none => cases h4
        | some i => cases h4; exact ⟨i, j, p, rfl, q2, rfl⟩
theorem outW_old {a : Addr} {l : Lab} (h : W a = some l) : outW W W' md a = some l := by unfold outW; rw [h]
theorem outW_at {a : Addr} {i j : Nat} {p : Lab} (h : W a = none) (h2 : W' a = some (j :: p)) (h3 : md[j]? = some (some i)) : outW W W' md a = some (i :: p) := by
  unfold outW
  rw [h, h2]
  show (match md[j]? with | some (some i) => some (i :: p) | _ => none) = _
  rw [h3]
theorem Outs.new (n : NewW ios' md F W H B Wf) (U : Outs K ios' F (inW W Wf md) H F' W' H' vs O) {a : Addr} {l : Lab} (h : W a = none) (h2 : outW W W' md a = some l) : H a = none := by
  obtain ⟨i, j, p, e1, e2, _⟩ := outW_new h h2
  rcases U.st.wn a _ e1 with z | z
  · rcases inW_of z with ⟨i', j', p', e3, _⟩ | e3
    · rw [h] at e3; cases e3
    · obtain ⟨j', p', e4, _, e5⟩ := (n.at' a _ e3).2.2.2.2
      cases e4
      rw [e2] at e5; cases e5
  · exact z
theorem Outs.step {Hb : Hp} (so : ∀ a l, W a = some l → ∃ o, H a = some o ∧ nxo o = true) (n : NewW ios' md F W H B Wf) (sb : Same Hb H) (nb : ∀ a l, Wf a = some l → Hb a = none) (U : Outs K ios' F (inW W Wf md) H F' W' H' vs O) : Stp F W Hb F' (outW W W' md) H' where
  fx := U.st.fx
  fn := fun a o h n' => by
    rcases U.st.fn a o h n' with z | z
    · exact .inl z
    · exact .inr (sb.free z)
  wx := fun a l h => outW_old h
  wn := fun a l h => by
    cases q : W a with
    | some m => rw [outW_old q] at h; exact .inl h
    | none => exact .inr (sb.free (U.new n q h))
  hx := fun a o h q tn => U.st.hx a o (sb _ _ h) (inW_no q (by
    cases e : Wf a with
    | none => rfl
    | some l => rw [nb a l e] at h; cases h)) tn
  hd := fun a o h => U.st.hd a o (sb _ _ h)
  fk := fun a o f h => U.st.fk a o f (sb _ _ h)
  tb := fun P q tw => by
    have i0 : ∀ a o, W a = none → Hb a = some o → inW W Wf md a = none := fun a o h1 h2 => inW_no h1 (by
      cases e : Wf a with
      | none => rfl
      | some l => rw [nb a l e] at h2; cases h2)
    have t0 : TabW F H (inW W Wf md) P q := tw.of tw.1 i0 fun a o h _ _ => sb _ _ h
    obtain ⟨g1, g2, ps, g3, g4, g5⟩ := U.st.tb P q t0
    have no : ∀ a o, H' a = some o → TCo o → W' a = none → outW W W' md a = none := fun a o h c w => by
      cases e : W a with
      | some l =>
        obtain ⟨o', e1, e2⟩ := so a l e
        cases e3 : inW W Wf md a with
        | some m =>
          rw [U.st.wx a m e3] at w; cases w
        | none =>
          have := U.st.hx a o' e1 e3 (nxo_tbl e2)
          rw [h] at this
          cases this
          exact (nxo_tco e2 c).elim
      | none =>
        unfold outW
        rw [e, w]
        rfl
    refine ⟨g1, no _ _ g3 (.inl ⟨ps, rfl⟩) g2, ps, g3, g4, fun pos cv e => ?_⟩
    obtain ⟨c, e1, e2, e3⟩ := g5 pos cv e
    exact ⟨c, e1, no _ _ e3 (.inr ⟨c, q, rfl⟩) e2, e3⟩
theorem Handed.out {Hb : Hp} (Sb : St K ios B F W E σ Hb) (S : St K ios B F W E σ H) (sb : Same Hb H) (n : NewW ios' md F W H B Wf) (nb : ∀ a l, Wf a = some l → Hb a = none) (ok : mdOk ios' 0 md = true) (h : Handed K F H Wf E σ md vs as) (hm : ∀ (j i : Nat), md[j]? = some (some i) → ∃ v, vs[j]? = some v ∧ σ[i]? = some (some v) ∧ i < E.length)
    (U : Outs K ios' F (inW W Wf md) H F' W' H' vs O) : St K ios B F' (outW W W' md) (back 0 md O E) σ H' where
  fh := U.fh
  st := Sb.st.trans (U.step (fun a l h => (S.ow a l h).2) n sb nb)
  nz := U.nz
  ow := fun a l z => by
    cases q : W a with
    | some m =>
      obtain ⟨h1, o, h2⟩ := S.ow a m q
      cases q2 : inW W Wf md a with
      | some m2 => exact U.ow a m2 (U.st.wx a m2 q2)
      | none => exact ⟨U.st.nf U.fh h1 h2.1 (U.st.hx a o h2.1 q2 (nxo_tbl h2.2)) h2.2, o, U.st.hx a o h2.1 q2 (nxo_tbl h2.2), h2.2⟩
    | none =>
      obtain ⟨i, j, p, e1, _⟩ := outW_new q z
      exact U.ow a _ e1
  fr := fun a l z => by
    cases q : W a with
    | some m => rw [outW_old q] at z; cases z; exact S.fr a _ q
    | none =>
      obtain ⟨i, j, p, _, _, e⟩ := outW_new q z
      exact ⟨i, p, e, .inr (S.st.back (U.new n q z))⟩
  w0 := S.w0
  vr := fun i t d z => by
    by_cases c : some i ∈ md
    · obtain ⟨j, e⟩ := mem_of_at c
      obtain ⟨v, e1, e2, e3⟩ := hm j i e
      have hj := mdOk_at ok e
      rw [Nat.zero_add] at hj
      rw [back_at ok e e3, Nat.zero_add] at z
      have z1 : (O[j]?).join = some (t, d) := Option.some.inj z
      have z2 : O[j]? = some (some (t, d)) := by
        cases q : O[j]? with
        | none => rw [q] at z1; cases z1
        | some u => rw [q] at z1; exact congrArg some z1
      refine ⟨v, e2, OwnT.relab (p := [j]) (p' := [i]) (q := []) (fun a q y => ?_) (U.vr j v t d hj.1 e1 z2)⟩
      cases qw : W a with
      | none => exact outW_at qw y e
      | some m =>
        obtain ⟨_, o, ho, _⟩ := S.ow a m qw
        rcases U.st.wn a _ y with w | w
        · rcases inW_of w with ⟨i', j', p', e4, e5, e6, e7⟩ | e4
          · have e5' : j = j' ∧ q = p' := by simpa using e5
            obtain ⟨rfl, rfl⟩ := e5'
            rw [e] at e7
            cases e7
            rw [outW_old e4]; rfl
          · rw [(n.at' a _ e4).2.1] at qw; cases qw
        · rw [ho] at w; cases w
    · rw [back_no c] at z
      obtain ⟨v, h1, h2⟩ := S.vr i t d z
      refine ⟨v, h1, OwnT.keepAt (p := [i]) (q := []) U.st.fx (fun a q y => outW_old y) (fun a q o y ho => U.st.hx a o ho (inW_none n y (plc_none c)) (by obtain ⟨_, o', z1, z2⟩ := S.ow a _ y; rw [ho] at z1; cases z1; exact nxo_tbl z2)) h2⟩
  pn := S.pn
  ln := by rw [back_len]; exact S.ln
  xo := S.xo
theorem Fresh.out {Hb : Hp} {Wr : Wm} (S : St K ios B F W E σ H) (fr : Fresh Wr H F' W' H') (sb : Same Hb H) : Fresh Wr Hb F' (outW W W' md) H' := fun a l z => by
  obtain ⟨z1, z2, z3⟩ := fr a l z
  refine ⟨sb.free z1, ?_, z3⟩
  unfold outW
  rw [S.noW z1, z2]
  rfl
theorem RepA.len {ds : List D} (h : RepA K F σ md vs ds) : md.length = vs.length := by
  induction h with
  | nil => rfl
  | sh _ _ ih => rw [List.length_cons, List.length_cons, ih]
  | io _ _ ih => rw [List.length_cons, List.length_cons, ih]
theorem RepA.app {ds es : List D} {ws : List V} (h : RepA K F σ md vs ds) (r : RepL K F ws es) : RepA K F σ (md ++ es.map fun _ => none) (vs ++ ws) (ds ++ es) := by
  induction h with
  | nil =>
    have go : ∀ {ws : List V} {es : List D}, RepL K F ws es → RepA K F σ (es.map fun _ => none) ws es := by
      intro ws es
      induction es generalizing ws with
      | nil => intro r; cases r; exact .nil
      | cons e es ih => intro r; cases r with | cons r1 r2 => exact .sh r1 (ih r2)
    exact go r
  | sh r1 _ ih => exact .sh r1 ih
  | io r1 _ ih => exact .io r1 ih
theorem ents_some {i : Nat} {md : Md} {ds : List D} {E : Nv} {as : List Ent} (h : ents (some i :: md) ds E = some as) : ∃ p r, E[i]? = some (some p) ∧ ents md ds E = some r ∧ as = p :: r := by
  have h' : (match E[i]? with | some (some p) => (ents md ds E).map fun r => p :: r | _ => none) = some as := by
    cases ds <;> exact h
  cases q : E[i]? with
  | none => rw [q] at h'; cases h'
  | some o =>
    rw [q] at h'
    cases o with
    | none => cases h'
    | some p =>
      cases q2 : ents md ds E with
      | none => rw [q2] at h'; cases h'
      | some r => rw [q2] at h'; cases h'; exact ⟨p, r, rfl, rfl, rfl⟩
theorem ents_none {d : D} {md : Md} {ds : List D} {E : Nv} {as : List Ent} (h : ents (none :: md) (d :: ds) E = some as) : ∃ r, ents md ds E = some r ∧ as = (.sh, d) :: r := by
  have h' : ((ents md ds E).map fun r => (Ow.sh, d) :: r) = some as := h
  cases q2 : ents md ds E with
  | none => rw [q2] at h'; cases h'
  | some r => rw [q2] at h'; cases h'; exact ⟨r, rfl, rfl⟩
def Hand0 (K : KF) (F : Hp) (E : Nv) (σ : L2.St) (md : Md) (vs : List V) (as : List Ent) : Prop := ∀ (j : Nat) v t d, vs[j]? = some v → as[j]? = some (t, d) →
  (md[j]? = some none ∧ t = .sh ∧ Rep K F v d) ∨ ∃ i, md[j]? = some (some i) ∧ σ[i]? = some (some v) ∧ E[i]? = some (some (t, d))
theorem Hand0.handed (h : Hand0 K F E σ md vs as) : Handed K F H Wf E σ md vs as := fun j v t d e1 e2 => by
  rcases h j v t d e1 e2 with ⟨a, rfl, c⟩ | c
  · exact .inl ⟨a, c⟩
  · exact .inr c
theorem RepA.handed {ds : List D} (h : RepA K F σ md vs ds) : ∀ {as : List Ent}, ents md ds E = some as → vs.length = as.length ∧ Hand0 K F E σ md vs as ∧ (E.length = σ.length → ∀ (j i : Nat), md[j]? = some (some i) → ∃ v, vs[j]? = some v ∧ σ[i]? = some (some v) ∧ i < E.length) := by
  induction h with
  | nil =>
    intro as e
    cases (show some ([] : List Ent) = some as from e)
    exact ⟨rfl, fun j v t d e1 e2 => by simp at e1, fun _ j i e => by simp at e⟩
  | sh r h ih =>
    intro as e
    obtain ⟨rs, e1, rfl⟩ := ents_none e
    obtain ⟨l, g, m⟩ := ih e1
    refine ⟨by rw [List.length_cons, List.length_cons, l], fun j v t d e1 e2 => ?_, fun hl j i e => ?_⟩
    · cases j with
      | zero =>
        have e1' := Option.some.inj e1
        have e2' := Option.some.inj e2
        cases e2'
        subst e1'
        exact .inl ⟨rfl, rfl, r⟩
      | succ j => exact g j v t d (by simpa using e1) (by simpa using e2)
    · cases j with
      | zero => simp at e
      | succ j => exact m hl j i (by simpa using e)
  | @io md i v vs ds r h ih =>
    intro as e
    obtain ⟨p, rs, e0, e1, rfl⟩ := ents_some e
    obtain ⟨l, g, m⟩ := ih e1
    refine ⟨by rw [List.length_cons, List.length_cons, l], fun j v' t d e1 e2 => ?_, fun hl j i' e => ?_⟩
    · cases j with
      | zero =>
        have e1' := Option.some.inj e1
        have e2' := Option.some.inj e2
        subst e1'
        exact .inr ⟨i, rfl, r, by rw [e0]; exact congrArg (fun z => some (some z)) e2'⟩
      | succ j => exact g j v' t d (by simpa using e1) (by simpa using e2)
    · cases j with
      | zero =>
        have e' : i = i' := by simpa using e
        subst e'
        exact ⟨v, rfl, r, (List.getElem?_eq_some_iff.mp e0).1⟩
      | succ j => exact m hl j i' (by simpa using e)
end
theorem plm_nil {X : Cx} {ios : Ios} {Wx : WX} : PLm X ios Wx [] [] (ret []) := ⟨_, pa_nil, fun B F W E σ H Q S h => h.done S .nil⟩
theorem plm_sh {X : Cx} {ios : Ios} {Wx : WX} {md : Md} {a : Expr} {es : List Expr} {fa : M D} {fs : M (List D)} (ha : PP X ios Wx a fa) (hr : PLm X ios Wx md es fs) (hs : starEach (a :: es) X.env = (false, eval a X.env) :: starEach es X.env := by rfl) :
    PLm X ios Wx (none :: md) (a :: es) (bnd fa fun x => bnd fs fun xs => ret (x :: xs)) := by
  obtain ⟨ta, pa, ra⟩ := ha.ex
  obtain ⟨tr, pr, rr⟩ := hr.ex
  refine ⟨_, pa_cons pa pr hs, fun B F W E σ H Q S h => ?_⟩
  refine ra B F W E σ H _ S (Pst.seq h fun F1 W1 H1 x d E1 S1 s1 r1 h1 => ?_)
  refine rr B F1 W1 E1 σ H1 _ S1 (Pst.seq h1 fun F2 W2 H2 y e E2 S2 s2 r2 h2 => ?_)
  exact h2.done S2 (.sh (r1.mono s2.fx d) r2)
theorem plm_io (i : Nat) {X : Cx} {ios : Ios} {Wx : WX} {md : Md} {x : Str} {pos : Pos} {es : List Expr} {fs : M (List D)} (hr : PLm X ios Wx md es fs) (hN : X.N[i]? = some x := by rfl) (hv : Vis X.env.scope x := by first | exact Or.inl rfl | exact Or.inr (Or.inl rfl) | exact Or.inr (Or.inr rfl))
    (hd : (x == ("__debug__" : Str)) = false := by decide) (hcd : (x == ("__classdict__" : Str)) = false := by decide) (hs : starEach (.Name x pos :: es) X.env = (false, eval (.Name x pos) X.env) :: starEach es X.env := by rfl) : PLm X ios Wx (some i :: md) (.Name x pos :: es) (fun E => match E[i]? with
      | some (some _) => fs E
      | _ => .stk) := by
  obtain ⟨tr, pr, rr⟩ := hr.ex
  refine ⟨_, pa_cons (pe_var hN hv hd hcd) pr hs, fun B F W E σ H Q S h => ?_⟩
  cases q : E[i]? with
  | none => simp only [q] at h; exact h.elim
  | some o =>
    cases o with
    | none => simp only [q] at h; exact h.elim
    | some p =>
      simp only [q] at h
      obtain ⟨t, d⟩ := p
      obtain ⟨v, h1, h2⟩ := S.vr i t d q
      refine ⟨v, h1, rr B F W E σ H _ S ?_⟩
      cases q2 : fs E with
      | ok a E' =>
        rw [q2] at h
        exact fun F' W' H' b S' t' r => h F' W' H' _ S' t' (.io h1 r)
      | er x E' => rw [q2] at h; exact h
      | stk => rw [q2] at h; exact h.elim
def callM (m : Fm) (md : Md) (ds : List D) : M Ent := fun E => match ents md ds E with
  | none => .stk
  | some as => match m as with
    | .ok p O => .ok p (back 0 md O E)
    | .er x O => .er x (back 0 md O E)
    | .stk => .stk
section
variable {K : KF} {ios : Ios} {ios' : List Nat} {B : Bs} {F : Hp} {W : Wm} {E : Nv} {σ : L2.St} {H : Hp} {md : Md} {vs : List V} {ds : List D} {Wx : WX} {m : Fm} {n : Nat} {Q : VK}
theorem callG (S : St K ios B F W E σ H) (r : RepA K F σ md vs ds) (ok : mdOk ios' 0 md = true) (hn : md.length = n) (h : PstO K ios B Wx σ F W H (callM m md ds E) Q) : spD K n ios' m vs H Q (WE Wx σ) := by
  refine ⟨r.len.symm.trans hn, ?_⟩
  unfold callM at h
  cases q : ents md ds E with
  | none => rw [q] at h; exact h.elim
  | some as =>
    obtain ⟨hl, hh, hm⟩ := r.handed q
    have N : NewW ios' md F W H B noW := NewW.no
    refine ⟨F, inW W noW md, as, Handed.ins S N ok hl hh.handed, ?_⟩
    have nb : ∀ a l, noW a = some l → H a = none := fun a l z => by cases (show (none : Option Lab) = some l from z)
    cases q2 : m as with
    | ok p O =>
      simp only [q, q2] at h
      exact fun F' W' H' v Wr U fr rr => h F' _ H' v Wr (Handed.out S S (Same.refl _) N nb ok hh.handed (hm S.ln) U) (U.step (fun a l h => (S.ow a l h).2) N (Same.refl _) nb) (fr.out S (Same.refl _)) rr
    | er x O =>
      simp only [q, q2] at h
      exact fun F' W' H' c dx U rr => h F' _ H' c dx (Handed.out S S (Same.refl _) N nb ok hh.handed (hm S.ln) U) (U.step (fun a l h => (S.ow a l h).2) N (Same.refl _) nb) rr
    | stk => simp only [q, q2] at h; exact h.elim
end
section
variable {X : Cx} {ios : Ios} {ios' : List Nat} {Wx : WX} {e o : Expr} {es : List Expr} {pos p apos : Pos} {k n : Nat} {f C : Addr} {fd : FuncData} {ps : List Str} {m : Fm} {md : Md} {fs : M (List D)} {dvs : List V} {dds : List D} {us : List Value} {x mn : Str}
theorem po_call (F : FnG X.prog X.w X.K X.mg X.base k f fd ps (spD X.K n ios' m)) (hr : Room k X.A) (hgd : X.A.guards = some []) (hg : Gl X x) (hm : X.mg x = some (.ref f)) (hk : PySem.W.keepIn X.K (.ref f) = true) (hb : Binds X.K fd ps us) (hd : Vals dvs us) (rd : ∀ F, RepL X.K F dvs dds) (tk : Takes X Wx)
    (ha : PLm X ios Wx md (e :: es) fs) (ok : mdOk ios' 0 (md ++ dds.map fun _ => none) = true := by rfl) (hn : (md ++ dds.map fun _ => none).length = n := by rfl) (hdb : (x == ("__debug__" : Str)) = false := by decide) (he : starEach (e :: es) X.env = (false, eval e X.env) :: starEach es X.env := by rfl) (hpl : (backTo pos (starEach es X.env)).any (·.1) = false := by rfl) :
    PO X ios Wx (.Call (.Name x p) (e :: es) [] pos) (bnd fs fun ds => callM m (md ++ dds.map fun _ => none) (ds ++ dds)) := by
  obtain ⟨ta, pa, ra⟩ := ha.ex
  refine ⟨_, pe_g F hr hgd hg hm hk hb hd tk pa hdb he hpl, fun B F W E σ H Q S h => ?_⟩
  refine ra B F W E σ H _ S (PstO.seq h fun F1 W1 H1 vs ds E1 S1 s1 r1 h1 => ?_)
  exact callG S1 (r1.app (rd F1)) ok hn h1
end
end Dl
namespace Dl
open PySem PySem.Spec PyProof.Rows L2
variable [Tbs]
def shM (f : M Ent) : M D := bnd f fun p => ret p.2
def frz (F : Hp) (Wr : Wm) (H : Hp) : Hp := fun a => match Wr a with
  | some _ => H a
  | none => F a
theorem frz_same {H F' : Hp} {W' Wr : Wm} {H' : Hp} (fr : Fresh Wr H F' W' H') : Same F' (frz F' Wr H') := fun a o h => by
  unfold frz
  cases q : Wr a with
  | none => exact h
  | some l => rw [(fr a l q).2.2.1] at h; cases h
section
variable {K : KF} {ios : Ios} {B : Bs} {F F' : Hp} {W W' Wr : Wm} {E E' : Nv} {σ : L2.St} {H H' : Hp}
theorem frz_step (t : Stp F W H F' W' H') (fr : Fresh Wr H F' W' H') : Stp F W H (frz F' Wr H') W' H' where
  fx := t.fx.trans (frz_same fr)
  fn := fun a o h n => by
    cases q : Wr a with
    | some l => exact .inr (fr a l q).1
    | none => unfold frz at h; rw [q] at h; exact t.fn a o h n
  wx := t.wx
  wn := t.wn
  hx := t.hx
  hd := t.hd
  fk := t.fk
  tb := fun P q tw => by
    obtain ⟨g1, g2, ps, g3, g4⟩ := t.tb P q tw
    refine ⟨?_, g2, ps, g3, g4⟩
    unfold frz
    cases e : Wr P with
    | none => exact g1
    | some l =>
      have := (fr P l e).1
      rw [tw.2.2.choose_spec.1] at this
      cases this
theorem frz_st (S0 : Stp B.F0 B.W0 B.H0 F W H) (S' : St K ios B F' W' E' σ H') (fr : Fresh Wr H F' W' H') : St K ios B (frz F' Wr H') W' E' σ H' where
  fh := fun a o h => by
    unfold frz at h
    cases q : Wr a with
    | some l => rw [q] at h; exact h
    | none => rw [q] at h; exact S'.fh a o h
  st := by
    have s := S'.st
    refine ⟨s.fx.trans (frz_same fr), fun a o h n => ?_, s.wx, s.wn, s.hx, s.hd, s.fk, fun P q tw => ?_⟩
    · cases q : Wr a with
      | some l => exact .inr (S0.back (fr a l q).1)
      | none => unfold frz at h; rw [q] at h; exact s.fn a o h n
    · obtain ⟨g1, g2, ps, g3, g4⟩ := s.tb P q tw
      refine ⟨?_, g2, ps, g3, g4⟩
      unfold frz
      cases e : Wr P with
      | none => exact g1
      | some l =>
        have := S0.back (fr P l e).1
        rw [tw.2.2.choose_spec.1] at this
        cases this
  nz := S'.nz
  ow := fun a l h => by
    obtain ⟨h1, h2⟩ := S'.ow a l h
    refine ⟨?_, h2⟩
    unfold frz
    cases q : Wr a with
    | some m => rw [(fr a m q).2.1] at h; cases h
    | none => exact h1
  fr := S'.fr
  w0 := S'.w0
  vr := fun i t d h => by
    obtain ⟨v, h1, h2⟩ := S'.vr i t d h
    exact ⟨v, h1, h2.keep (frz_same fr) (fun _ _ q => q) (fun _ _ _ _ q => q)⟩
  pn := S'.pn
  ln := S'.ln
  xo := S'.xo
end
def lkH (p : Addr → Bool) (ob : Addr → Obj) (H : Hp) : Hp := fun a => match H a with
  | some (.dT kvs) => if p a = true then some (.frz (ob a) (.dT kvs)) else some (.dT kvs)
  | some (.dK kvs) => if p a = true then some (.frz (ob a) (.dK kvs)) else some (.dK kvs)
  | x => x
theorem lkH_off {p : Addr → Bool} {ob : Addr → Obj} {H : Hp} {a : Addr} (h : p a = false) : lkH p ob H a = H a := by
  unfold lkH
  cases q : H a with
  | none => rfl
  | some o => cases o <;> first | rfl | (simp only [h]; rfl)
theorem lkH_none {p : Addr → Bool} {ob : Addr → Obj} {H : Hp} {a : Addr} (h : H a = none) : lkH p ob H a = none := by
  unfold lkH
  rw [h]
theorem lkH_some {p : Addr → Bool} {ob : Addr → Obj} {H : Hp} {a : Addr} {o : HO} (h : H a = some o) : lkH p ob H a = some o ∨ lkH p ob H a = some (.frz (ob a) o) := by
  unfold lkH
  rw [h]
  cases o <;> first | exact .inl rfl | skip
  · by_cases c : p a = true
    · exact .inr (by simp only [c, if_true])
    · exact .inl (by simp only [c]; rfl)
  · by_cases c : p a = true
    · exact .inr (by simp only [c, if_true])
    · exact .inl (by simp only [c]; rfl)
theorem lkH_keep {p : Addr → Bool} {ob : Addr → Obj} {H : Hp} {a : Addr} {o : HO} (h : H a = some o) (n1 : ∀ kvs, o ≠ .dT kvs) (n2 : ∀ kvs, o ≠ .dK kvs) : lkH p ob H a = some o := by
  unfold lkH
  rw [h]
  cases o <;> first | rfl | exact absurd rfl (n1 _) | exact absurd rfl (n2 _)
theorem lt_succ_ne {a n : Nat} (c : a ≠ n) : decide (a < n + 1) = decide (a < n) := by rw [decide_eq_decide]; omega
theorem Inv.lks {X : Cx} {pins : List (Addr × Obj)} {σ : L2.St} {H : Hp} {s : Shared} (I : L2.Inv X pins σ H s) (p : Addr → Bool) : ∃ ob, L2.Inv X pins σ (lkH p ob H) s := by
  have all : ∀ n : Nat, ∃ ob, L2.Inv X pins σ (lkH (fun a => p a && decide (a < n)) ob H) s := by
    intro n
    induction n with
    | zero =>
      refine ⟨fun _ => default, ?_⟩
      have e : lkH (fun a => p a && decide (a < 0)) (fun _ => default) H = H := by
        funext a
        exact lkH_off (by simp)
      rw [e]
      exact I
    | succ n ih =>
      obtain ⟨ob, J⟩ := ih
      have keep : (∀ ob', lkH (fun a => p a && decide (a < n + 1)) ob' H n = H n) → lkH (fun a => p a && decide (a < n + 1)) ob H = lkH (fun a => p a && decide (a < n)) ob H := fun h => by
        funext a
        by_cases c : a = n
        · subst c; rw [h ob, lkH_off (by simp)]
        · have e : (decide (a < n + 1)) = decide (a < n) := lt_succ_ne c
          unfold lkH
          simp only [e]
      have lock : ∀ u : HO, H n = some u → Mut (some u) → ((∃ kvs, u = .dT kvs) ∨ ∃ kvs, u = .dK kvs) → p n = true → ∃ ob, L2.Inv X pins σ (lkH (fun a => p a && decide (a < n + 1)) ob H) s := fun u hu mu hk hp => by
        have h0 : lkH (fun a => p a && decide (a < n)) ob H n = some u := by rw [lkH_off (by simp)]; exact hu
        obtain ⟨od, J2⟩ := J.lock h0 mu
        refine ⟨fun a => if a = n then od else ob a, ?_⟩
        have e : upd (lkH (fun a => p a && decide (a < n)) ob H) n (.frz od u) = lkH (fun a => p a && decide (a < n + 1)) (fun a => if a = n then od else ob a) H := by
          funext a
          by_cases c : a = n
          · subst c
            rw [upd_same]
            unfold lkH
            rw [hu]
            rcases hk with ⟨kvs, rfl⟩ | ⟨kvs, rfl⟩
            · simp [hp]
            · simp [hp]
          · rw [upd_ne c]
            have e : (decide (a < n + 1)) = decide (a < n) := lt_succ_ne c
            unfold lkH
            simp only [e, if_neg c]
        rw [← e]
        exact J2
      by_cases hp : p n = true
      · cases q : H n with
        | none =>
          refine ⟨ob, ?_⟩
          rw [keep fun ob' => by rw [lkH_none q, q]]
          exact J
        | some u =>
          by_cases k1 : ∃ kvs, u = .dT kvs
          · obtain ⟨kvs, rfl⟩ := k1
            exact lock _ q True.intro (.inl ⟨_, rfl⟩) hp
          by_cases k2 : ∃ kvs, u = .dK kvs
          · obtain ⟨kvs, rfl⟩ := k2
            exact lock _ q True.intro (.inr ⟨_, rfl⟩) hp
          refine ⟨ob, ?_⟩
          rw [keep fun ob' => by rw [lkH_keep q (fun kvs z => k1 ⟨kvs, z⟩) (fun kvs z => k2 ⟨kvs, z⟩), q]]
          exact J
      · refine ⟨ob, ?_⟩
        rw [keep fun ob' => lkH_off (by simp [hp])]
        exact J
  obtain ⟨ob, J⟩ := all s.heap.objs.size
  refine ⟨ob, ?_⟩
  have e : lkH (fun a => p a && decide (a < s.heap.objs.size)) ob H = lkH p ob H := by
    funext a
    by_cases c : a < s.heap.objs.size
    · unfold lkH
      simp only [decide_eq_true c, Bool.and_true]
    · have n : H a = none := I.hok.fresh (Nat.le_of_not_lt c)
      rw [lkH_none n, lkH_none n]
  rw [← e]
  exact J
theorem pe_lk {X : Cx} {e : Expr} {t : TE} (h : PE X e t) : PE X e (fun σ H Q => t σ H fun v H' => ∃ p : Addr → Bool, ∀ ob, Q v (lkH p ob H')) :=
  ⟨fun pins s σ H Q I hq => thn (h.run pins s σ H _ I hq) fun u s' ⟨v, H', I', r, p, q⟩ => by
    obtain ⟨ob, I2⟩ := Inv.lks I' p
    exact ⟨v, _, I2, r, q ob⟩⟩
theorem pss_lk {X : Cx} {sts : List Stmt} {t : TS} (h : PSs X sts t) : PSs X sts (fun D σ H => ∃ p : Addr → Bool, ∀ ob, t D σ (lkH p ob H)) :=
  ⟨fun pins s σ H D I ⟨p, k⟩ => by
    obtain ⟨ob, I2⟩ := Inv.lks I p
    exact h.run pins s σ _ D I2 (k ob)⟩
section
variable {K : KF} {ios : Ios} {B : Bs} {F F' : Hp} {W W' Wr : Wm} {E E' : Nv} {σ : L2.St} {H H' : Hp} {p : Addr → Bool} {ob : Addr → Obj}
theorem NoFz.lk (z : NoFz H) : NoFz (lkH p ob H) := fun a o u e xs => by
  cases q : H a with
  | none => rw [lkH_none q] at e; cases e
  | some v =>
    rcases lkH_some (p := p) (ob := ob) q with k | k
    · rw [k] at e
      cases e
      exact z a o u q xs
    · unfold lkH at e k
      rw [q] at e k
      intro hu
      subst hu
      split at e
      · split at e <;> cases e
      · split at e <;> cases e
      · exact z a o _ (by rw [q]; exact e) xs rfl
theorem lkH_tco {H : Hp} {p : Addr → Bool} {ob : Addr → Obj} {a : Addr} {o : HO} (h : H a = some o) (c : TCo o) : lkH p ob H a = some o := by
  unfold lkH
  rw [h]
  rcases c with ⟨_, rfl⟩ | ⟨_, _, rfl⟩
  · rfl
  · unfold LamX.CodeO
    rfl
theorem Stp.lk (t : Stp F W H F' W' H') (hp : ∀ a, p a = true → H a = none) : Stp F W H F' W' (lkH p ob H') where
  fx := t.fx
  fn := t.fn
  wx := t.wx
  wn := t.wn
  hx := fun a o h n tn => by
    have e := t.hx a o h n tn
    cases q : p a with
    | false => rw [lkH_off q]; exact e
    | true => rw [hp a q] at h; cases h
  hd := fun a o h => by
    obtain ⟨o', e⟩ := t.hd a o h
    rcases lkH_some (p := p) (ob := ob) e with k | k
    · exact ⟨_, k⟩
    · exact ⟨_, k⟩
  fk := fun a o f h => by
    have e := t.fk a o f h
    cases q : p a with
    | false => rw [lkH_off q]; exact e
    | true => rw [hp a q] at h; cases h
  tb := fun P q tw => by
    have tw' := t.tb P q tw
    exact tw'.of tw'.1 (fun _ _ n _ => n) fun a o h _ c => lkH_tco h c
theorem St.lk (S : St K ios B F W E σ H) (hp : ∀ a, p a = true → F a = none ∧ W a = none ∧ B.H0 a = none) : St K ios B F W E σ (lkH p ob H) where
  fh := fun a o h => by
    cases q : p a with
    | false => rw [lkH_off q]; exact S.fh a o h
    | true => rw [(hp a q).1] at h; cases h
  st := S.st.lk fun a q => (hp a q).2.2
  nz := NoFz.lk S.nz
  ow := fun a l h => by
    obtain ⟨h1, o, h2, h3⟩ := S.ow a l h
    refine ⟨h1, o, ?_, h3⟩
    cases q : p a with
    | false => rw [lkH_off q]; exact h2
    | true => rw [(hp a q).2.1] at h; cases h
  fr := S.fr
  w0 := S.w0
  vr := fun i t d h => by
    obtain ⟨v, h1, h2⟩ := S.vr i t d h
    refine ⟨v, h1, h2.keep (Same.refl F) (fun _ _ q => q) fun a l o w q => ?_⟩
    cases c : p a with
    | false => rw [lkH_off c]; exact q
    | true => rw [(hp a c).2.1] at w; cases w
  pn := S.pn
  ln := S.ln
  xo := S.xo
def lkP (Wr : Wm) : Addr → Bool := fun a => (Wr a).isSome
theorem lkP_of {a : Addr} (h : lkP Wr a = true) : ∃ l, Wr a = some l := Option.isSome_iff_exists.mp h
theorem Fresh.lk (fr : Fresh Wr H F' W' H') : Fresh Wr H F' W' (lkH p ob H') := fun a l h => by
  obtain ⟨h1, h2, h3, o, h4, h5⟩ := fr a l h
  refine ⟨h1, h2, h3, ?_⟩
  rcases lkH_some (p := p) (ob := ob) h4 with k | k
  · exact ⟨o, k, h5⟩
  · exact ⟨_, k, rfl⟩
theorem lkH_dct {a : Addr} {o : HO} (hp : p a = true) (h : H a = some o) (hd : isDct o = true) : lkH p ob H a = some (.frz (ob a) o) := by
  unfold lkH
  rw [h]
  cases o <;> first | (cases hd; done) | exact if_pos hp
theorem lkH_nod {a : Addr} {o : HO} (h : H a = some o) (hd : isDct o = false) : lkH p ob H a = some o := lkH_keep h (fun _ z => by rw [z] at hd; cases hd) (fun _ z => by rw [z] at hd; cases hd)
theorem frz_rep (fr : Fresh Wr H F' W' (lkH (lkP Wr) ob H')) {t : Ow} {v : V} {d : D} (r : OwnT K F' H' Wr t [] v d) : Rep K (frz F' Wr (lkH (lkP Wr) ob H')) v d :=
  OwnT.repO (p := []) (q := []) (frz_same fr) (fun a q o h ho hd => by unfold frz; rw [show Wr a = some q from h]; exact lkH_nod ho hd) (fun a q o h ho hd => ⟨ob a, by unfold frz; rw [show Wr a = some q from h]; exact lkH_dct (by unfold lkP; rw [show Wr a = some q from h]; rfl) ho hd⟩) r
end
section
variable {X : Cx} {ios : Ios} {Wx : WX} {e : Expr} {f : M Ent}
theorem pp_of (h : PO X ios Wx e f) : PP X ios Wx e (shM f) := by
  obtain ⟨t, p, r⟩ := h.ex
  refine ⟨_, pe_lk p, fun B F W E σ H Q S h => r B F W E σ H _ S ?_⟩
  unfold shM bnd at h
  cases q : f E with
  | ok a E' =>
    simp only [q] at h
    exact fun F' W' H' v Wr S' t' fr rr => ⟨lkP Wr, fun ob => by
      have fr' := fr.lk (p := lkP Wr) (ob := ob)
      have S2 := S'.lk (p := lkP Wr) (ob := ob) fun a k => by
        obtain ⟨l, hl⟩ := lkP_of k
        exact ⟨(fr a l hl).2.2.1, (fr a l hl).2.1, S.st.back (fr a l hl).1⟩
      have t2 := t'.lk (p := lkP Wr) (ob := ob) fun a k => by
        obtain ⟨l, hl⟩ := lkP_of k
        exact (fr a l hl).1
      exact h _ W' _ v (frz_st S.st S2 fr') (frz_step t2 fr') (frz_rep fr' rr)⟩
  | er x E' => simp only [q] at h; exact h
  | stk => simp only [q] at h; exact h.elim
end
section
variable {X : Cx} {ios : Ios} {ios' : List Nat} {Wx : WX} {e o : Expr} {es : List Expr} {pos p apos : Pos} {k n : Nat} {f C : Addr} {fd : FuncData} {ps : List Str} {m : Fm} {md : Md} {fo : M D} {fs : M (List D)} {dvs : List V} {dds : List D} {us : List Value} {x mn c : Str}
def makeM (m : Fm) (c : Str) (md : Md) (ds : List D) : M Ent := fun E => match ents md ds E with
  | none => .stk
  | some as => match m ((Ow.o, D.ins c [] []) :: as) with
    | .ok (Ow.sh, D.non) O => (match O[0]? with
      | some (some (Ow.o, d)) => .ok (Ow.o, d) (back 0 (none :: md) O E)
      | _ => .stk)
    | .er x O => .er x (back 0 (none :: md) O E)
    | _ => .stk
end
end Dl
namespace Dl
open PySem PySem.Spec PyProof.Rows L2
variable [Tbs]
section
variable {K : KF} {ios : Ios} {B : Bs} {F : Hp} {W : Wm} {E : Nv} {σ : L2.St} {H : Hp}
theorem Stp.mut {o : Addr} {l : Lab} {u : HO} (hw : W o = some l) (hF : F o = none) : Stp F W H F W (upd H o u) :=
  .mk6 (Same.refl F) (fun _ _ h _ => .inl h) (fun _ _ h => h) (fun _ _ h => .inl h) (fun a x h n => by
    by_cases c : a = o
    · subst c; rw [hw] at n; cases n
    · rw [upd_ne c]; exact h) (fun a x h => by
    by_cases c : a = o
    · subst c; exact ⟨_, upd_same⟩
    · exact ⟨x, by rw [upd_ne c]; exact h⟩) (fun a x f h => by rw [upd_ne (fun c => by subst c; rw [hF] at f; cases f)]; exact h) fun _ h _ _ => h
theorem St.mut {i : Nat} {p : Lab} {o : Addr} {u : HO} {v : V} {t : Ow} {d : D} (S : St K ios B F W E σ H) (hw : W o = some (i :: p)) (hu : ∀ ob z, u ≠ .frz ob z) (hs : σ[i]? = some (some v)) (r : OwnT K F (upd H o u) W t [i] v d) (hn : nxo u = true := by rfl) : St K ios B F W (E.set i (some (t, d))) σ (upd H o u) where
  fh := fun a x h => by
    have hne : a ≠ o := fun z => by
      subst z
      rw [(S.ow _ _ hw).1] at h; cases h
    rw [upd_ne hne]; exact S.fh a x h
  st := S.st.trans (Stp.mut hw (S.ow _ _ hw).1)
  nz := fun a ob z e => by
    by_cases c : a = o
    · subst c; rw [upd_same] at e; exact absurd (Option.some.inj e) (hu _ _)
    · rw [upd_ne c] at e; exact S.nz a ob z e
  ow := fun a l h => by
    obtain ⟨h1, x, h2⟩ := S.ow a l h
    refine ⟨h1, ?_⟩
    by_cases c : a = o
    · subst c; exact ⟨_, upd_same, hn⟩
    · exact ⟨x, by rw [upd_ne c]; exact h2.1, h2.2⟩
  fr := S.fr
  w0 := S.w0
  vr := fun j t' d' h => by
    by_cases c : i = j
    · subst c
      rw [List.getElem?_set] at h
      rw [if_pos rfl] at h
      by_cases hl : i < E.length
      · rw [if_pos hl] at h
        cases h
        exact ⟨v, hs, r⟩
      · rw [if_neg hl] at h; cases h
    · rw [List.getElem?_set, if_neg c] at h
      obtain ⟨w, h1, h2⟩ := S.vr j t' d' h
      refine ⟨w, h1, OwnT.keepAt (p := [j]) (q := []) (Same.refl F) (fun _ _ z => z) (fun a q x z hx => ?_) h2⟩
      have hne : a ≠ o := fun y => by
        subst y
        rw [hw] at z
        have z' : i = j := by
          have := Option.some.inj z
          exact (List.cons.inj this).1
        exact c z'
      rw [upd_ne hne]; exact hx
  pn := S.pn
  ln := by rw [List.length_set]; exact S.ln
  xo := S.xo
theorem OwnT.lsh {o : Addr} {vs : List V} {ds : List D} {lab : Lab} (hw : W o = some lab) (ho : H o = some (.lst vs)) (z : ds.length ≤ sizeLine) (r : RepL K F vs ds) : OwnT K F H W (.l .sh) lab (.ref o) (.lst ds) :=
  ⟨o, vs, ds, rfl, rfl, hw, ho, z, r.length, fun j v' d' e1 e2 => by
    obtain ⟨w, e3, r3⟩ := r.get e2
    rw [e1] at e3
    cases e3
    exact r3⟩
theorem OwnT.lshE {lab : Lab} {v : V} {d : D} (h : OwnT K F H W (.l .sh) lab v d) : ∃ o vs ds, v = .ref o ∧ d = .lst ds ∧ W o = some lab ∧ H o = some (.lst vs) ∧ ds.length ≤ sizeLine ∧ RepL K F vs ds := by
  obtain ⟨o, vs, ds, e1, e2, w, ho, z, ln, r⟩ := h
  exact ⟨o, vs, ds, e1, e2, w, ho, z, repL_of ln r⟩
end
def ownL (i : Nat) (E : Nv) : Option (List D) := match E[i]? with
  | some (some (.l .sh, .lst ds)) => some ds
  | _ => none
theorem ownL_of {i : Nat} {E : Nv} {ds : List D} (h : ownL i E = some ds) : E[i]? = some (some (.l .sh, .lst ds)) := by
  unfold ownL at h
  split at h
  · rename_i ds' e; cases h; exact e
  · cases h
def putL (i : Nat) (ds : List D) (E : Nv) : Nv := E.set i (some (.l .sh, .lst ds))
section
variable {K : KF} {ios : Ios} {B : Bs} {F : Hp} {W : Wm} {E : Nv} {σ : L2.St} {H : Hp}
theorem St.ownl (S : St K ios B F W E σ H) {i : Nat} {ds : List D} (h : ownL i E = some ds) : ∃ o vs, σ[i]? = some (some (.ref o)) ∧ H o = some (.lst vs) ∧ ds.length ≤ sizeLine ∧ RepL K F vs ds ∧ Stp F W H F W H ∧
    ∀ vs' ds', RepL K F vs' ds' → ds'.length ≤ sizeLine → St K ios B F W (putL i ds' E) σ (upd H o (.lst vs')) ∧ Stp F W H F W (upd H o (.lst vs')) := by
  obtain ⟨v, h1, h2⟩ := S.vr i _ _ (ownL_of h)
  obtain ⟨o, vs, ds2, rfl, e, w, ho, z, r⟩ := h2.lshE
  cases e
  exact ⟨o, vs, h1, ho, z, r, Stp.refl _ _ _, fun vs' ds' r' z' => ⟨S.mut w (fun _ _ q => by cases q) h1 (OwnT.lsh w upd_same z' r'), Stp.mut w (S.ow _ _ w).1⟩⟩
end
section
variable {X : Cx} {ios : Ios} {Wx : WX} {a e ix : Expr} {fa fe fi : M D} {pos tpos npos apos : Pos} {i : Nat} {x : Str}
def setIxS (i : Nat) (fe fi : M D) : G := andS fe fun y E => match E[i]? with
  | some (some _) => andS fi (fun k E => match ownL i E, k with
    | some ds, .int j => (match ixN ds.length j with
      | some n => .nx (putL i (ds.set n y) E)
      | none => .stk)
    | _, _ => .stk) E
  | _ => .stk
theorem pd_setix (i : Nat) (hN : X.N[i]? = some x) (he : PP X ios Wx e fe) (hi : PP X ios Wx ix fi) (hv : Vis X.env.scope x := by first | exact Or.inl rfl | exact Or.inr (Or.inl rfl) | exact Or.inr (Or.inr rfl)) (hd : (x == ("__debug__" : Str)) = false := by decide) (hcd : (x == ("__classdict__" : Str)) = false := by decide)
    (hs : swapsWith e (some (.Subscript (.Name x npos) ix tpos)) pos.line X.env = pure false := by rfl)
    (ha : ∀ v, assign (.Subscript (.Name x npos) ix tpos) X.env v = (do
      let ov ← holding [v] (eval (.Name x npos) X.env)
      let iv ← holding [v, ov] (eval ix X.env)
      standAt tpos
      holding [v, ov, iv] (setItem ov iv v)
      release [v, ov, iv] []) := by intro _; rfl) : PD X ios Wx (.Assign [.Subscript (.Name x npos) ix tpos] e pos) (setIxS i fe fi) := by
  obtain ⟨te, pe, re⟩ := he.ex
  obtain ⟨ti, pi, ri⟩ := hi.ex
  refine ⟨_, ps_asg pe (pg_sub (pe_var hN hv hd hcd) pi set_list ha) hs, fun B F W E σ H Dn S k => ?_⟩
  refine re B F W E σ H _ S (PstS.seq k fun F1 W1 H1 y dy E1 S1 s1 r1 k1 => ?_)
  cases q : E1[i]? with
  | none => simp only [q] at k1; exact k1.elim
  | some o =>
    cases o with
    | none => simp only [q] at k1; exact k1.elim
    | some p =>
      simp only [q] at k1
      obtain ⟨t, d⟩ := p
      obtain ⟨v, h1, _⟩ := S1.vr i t d q
      refine ⟨v, h1, ri B F1 W1 E1 σ H1 _ S1 (PstS.seq k1 fun F2 W2 H2 z dz E2 S2 s2 r2 k2 => ?_)⟩
      cases q2 : ownL i E2 with
      | none => simp only [q2] at k2; exact k2.elim
      | some ds =>
        simp only [q2] at k2
        cases dz <;> first | (exact k2.elim) | skip
        rename_i j
        have k3 : PstS X.K ios B Wx F2 (match ixN ds.length j with | some n => Fl.nx (putL i (ds.set n dy) E2) | none => Fl.stk) Dn := k2
        cases q3 : ixN ds.length j with
        | none => simp only [q3] at k3; exact k3.elim
        | some n =>
          simp only [q3] at k3
          obtain ⟨o, vs, h2, h3, h4, h5, _, h6⟩ := S2.ownl q2
          rw [h1] at h2
          cases h2
          cases r2
          refine ⟨o, vs, j, n, rfl, rfl, h3, by rw [h5.length]; exact q3, ?_⟩
          obtain ⟨S3, s3⟩ := h6 _ _ (RepL.set (r1.mono s2.fx dy) n h5) (by rw [List.length_set]; exact h4)
          exact k3 F2 W2 _ σ S3 (Same.refl F2)
theorem get_list : PGet X (rIxL X.K) := by
  intro pins s σ H x y v u Q I rx ry h
  obtain ⟨p, xs, i, z, rfl, rfl, hq, he, q⟩ := h
  cases rx
  obtain ⟨t, rfl⟩ := ry
  obtain ⟨its, r, pl, hz⟩ := I.list hq
  obtain ⟨j, h1, h2, h3, h4, h5⟩ := atI_get he
  obtain ⟨w, ew, rw'⟩ := r.get h2
  have hl := r.length
  have fin : EP X pins σ Q w s := ⟨z, H, I, rw', q⟩
  have hn := line63
  rcases Int.lt_or_le i 0 with h0 | h0
  · have hj : (i + (its.toArray.size : Int)).toNat = j := by
      rw [seqIndex_neg h0 h4] at h1
      rw [List.size_toArray, ← hl]
      exact Option.some.inj h1
    exact wpAny_getItem_list_neg pl.isList h0 (by rw [List.size_toArray] <;> omega) (by omega) (by rw [hj]; simpa using ew) fin
  · have hj : i.toNat = j := by
      rw [seqIndex_of h0 h5] at h1
      exact Option.some.inj h1
    exact wpAny_getItem_list pl.isList h0 (by omega) (by rw [hj]; simpa using ew) fin
def augIxS (i : Nat) (g : D → D → Option D) (fi fe : M D) : G := fun E => match E[i]? with
  | some (some _) => andS fi (fun k E => match ownL i E, k with
    | some ds, .int j => (match L2.atI ds j with
      | some old => andS fe (fun y E => match g old y, ownL i E with
        | some z, some ds => (match ixN ds.length j with
          | some n => .nx (putL i (ds.set n z) E)
          | none => .stk)
        | _, _ => .stk) E
      | none => .stk)
    | _, _ => .stk) E
  | _ => .stk
theorem pd_augix (i : Nat) {op : Operator} {tip : TIp} {g : D → D → Option D} (hN : X.N[i]? = some x) (hp : PIp X op tip) (hg : OpD X.K tip g) (he : PP X ios Wx e fe) (hi : PP X ios Wx ix fi) (hv : Vis X.env.scope x := by first | exact Or.inl rfl | exact Or.inr (Or.inl rfl) | exact Or.inr (Or.inr rfl)) (hd : (x == ("__debug__" : Str)) = false := by decide) (hcd : (x == ("__classdict__" : Str)) = false := by decide)
    (ha : ∀ ov iv new, augStore ix ov iv new = (do holding [new, ov, iv] (setItem ov iv new); release [new, ov, iv] []; pure .next) := by intros; rfl) : PD X ios Wx (.AugAssign (.Subscript (.Name x npos) ix tpos) op e pos) (augIxS i g fi fe) := by
  obtain ⟨te, pe, re⟩ := he.ex
  obtain ⟨ti, pi, ri⟩ := hi.ex
  refine ⟨_, ps_augS (pe_var hN hv hd hcd) pi get_list pe hp set_list ha, fun B F W E σ H Dn S k => ?_⟩
  unfold augIxS at k
  cases q : E[i]? with
  | none => simp only [q] at k; exact k.elim
  | some o =>
    cases o with
    | none => simp only [q] at k; exact k.elim
    | some p =>
      simp only [q] at k
      obtain ⟨t, d⟩ := p
      obtain ⟨v, h1, _⟩ := S.vr i t d q
      refine ⟨v, h1, ri B F W E σ H _ S (PstS.seq k fun F2 W2 H2 z dz E2 S2 s2 r2 k2 => ?_)⟩
      cases q2 : ownL i E2 with
      | none => simp only [q2] at k2; exact k2.elim
      | some ds =>
        simp only [q2] at k2
        cases dz <;> first | (exact k2.elim) | skip
        rename_i j
        cases q3 : L2.atI ds j with
        | none => simp only [q3] at k2; exact k2.elim
        | some old =>
          simp only [q3] at k2
          obtain ⟨o, vs, h2, h3, h4, h5, _, h6⟩ := S2.ownl q2
          rw [h1] at h2
          cases h2
          cases r2
          obtain ⟨w, e1, rw'⟩ := h5.atI q3
          refine ⟨o, vs, j, w, rfl, rfl, SqL.of h3, e1, re B F2 W2 E2 σ H2 _ S2 (PstS.seq k2 fun F3 W3 H3 y dy E3 S3 s3 r3 k3 => ?_)⟩
          cases q4 : g old dy with
          | none => simp only [q4] at k3; exact k3.elim
          | some z' =>
            cases q5 : ownL i E3 with
            | none => simp only [q4, q5] at k3; exact k3.elim
            | some ds3 =>
              cases q6 : ixN ds3.length j with
              | none => simp only [q4, q5, q6] at k3; exact k3.elim
              | some n =>
                simp only [q4, q5, q6] at k3
                refine hg F3 H3 w y old dy z' _ S3.fh (rw'.mono s3.fx old) r3 q4 fun F4 H4 v4 g4 r4 => ?_
                have S4 := S3.grow g4
                obtain ⟨o', vs', h2', h3', h4', h5', _, h6'⟩ := S4.ownl q5
                rw [h1] at h2'
                cases h2'
                refine ⟨o, vs', j, n, rfl, rfl, h3', by rw [h5'.length]; exact q6, ?_⟩
                obtain ⟨S5, s5⟩ := h6' _ _ (RepL.set r4 n h5') (by rw [List.length_set]; exact h4')
                exact k3 F4 W3 _ σ S5 g4.fx
def MutD (K : KF) (r : V → List V → Hp → VK → Prop) (g : List D → List D → Option (D × List D)) : Prop := ∀ (F H : Hp) (o : Addr) (vs : List V) (ds : List D) (xs : List V) (as : List D) (z : D) (ds' : List D) (Q : VK), H o = some (.lst vs) → F o = none → Same F H → ds.length ≤ sizeLine → RepL K F vs ds → RepL K F xs as → g ds as = some (z, ds') →
  (∀ v vs', Rep K F v z → RepL K F vs' ds' → Q v (upd H o (.lst vs'))) → r (.ref o) xs H Q
def mutM (i : Nat) (g : List D → List D → Option (D × List D)) (fs : M (List D)) : M D := fun E => match ownL i E with
  | some _ => bnd fs (fun as E => match ownL i E with
    | some ds => (match g ds as with
      | some (z, ds') => if small ds'.length = true then .ok z (putL i ds' E) else .stk
      | none => .stk)
    | none => .stk) E
  | none => .stk
section
variable {es : List Expr} {fs : M (List D)} {name : Str} {id : String} {r : V → List V → Hp → VK → Prop} {g : List D → List D → Option (D × List D)} {cpos : Pos}
theorem mut_end {B : Bs} {F : Hp} {W : Wm} {E : Nv} {σ : L2.St} {H : Hp} {Q : VK} {o : Addr} {xs : List V} {as : List D} (hr : MutD X.K r g) (S : Dl.St X.K ios B F W E σ H) (h1 : σ[i]? = some (some (.ref o))) (rx : RepL X.K F xs as)
    (k : Pst X.K ios B Wx σ (Rep X.K) F W H (match ownL i E with
      | some ds => (match g ds as with
        | some (z, ds') => if small ds'.length = true then Rs.ok z (putL i ds' E) else .stk
        | none => .stk)
      | none => .stk) Q) : r (.ref o) xs H Q := by
  cases q2 : ownL i E with
  | none => simp only [q2] at k; exact k.elim
  | some ds =>
    simp only [q2] at k
    obtain ⟨v, e1, e2⟩ := S.vr i _ _ (ownL_of q2)
    obtain ⟨o', vs, ds2, rfl, e, w, ho, z, rr⟩ := e2.lshE
    cases e
    rw [h1] at e1
    cases e1
    cases q3 : g ds as with
    | none => simp only [q3] at k; exact k.elim
    | some pr =>
      obtain ⟨zz, ds'⟩ := pr
      simp only [q3] at k
      by_cases hz : small ds'.length = true
      · rw [if_pos hz] at k
        refine hr F H o vs ds xs as zz ds' Q ho (S.ow _ _ w).1 S.fh z rr rx q3 fun v' vs' r1 r2 => ?_
        obtain ⟨_, _, h2, h3, h4, h5, _, h6⟩ := S.ownl q2
        rw [h1] at h2
        cases h2
        obtain ⟨S3, s3⟩ := h6 _ _ r2 (of_decide_eq_true hz)
        exact k F W _ v' S3 s3 r1
      · rw [if_neg hz] at k; exact k.elim
theorem pp_mut (i : Nat) (slot : Slot "list" name id) (hty : typeOf (.builtin id) = pure (.type "method_descriptor")) (hm : MtR X id r) (hr : MutD X.K r g) (hN : X.N[i]? = some x) (ha : PL X ios Wx (e :: es) fs) (hv : Vis X.env.scope x := by first | exact Or.inl rfl | exact Or.inr (Or.inl rfl) | exact Or.inr (Or.inr rfl)) (hd : (x == ("__debug__" : Str)) = false := by decide) (hcd : (x == ("__classdict__" : Str)) = false := by decide)
    (hbase : attributeBase (.Name x npos) name X.env (eval (.Name x npos) X.env) = eval (.Name x npos) X.env := by rfl)
    (hfew : ((backTo cpos (starEach (e :: es) X.env)).all (fun x => !x.1) && (backToKw cpos (keywordEach [] X.env)).all (fun x => x.1.isSome)
      && decide ((e :: es).length + ([] : List Keyword).length + (if ([] : List Keyword).isEmpty then 0 else 1) < 30)) = true := by rfl)
    (hline : (apos.endLine == cpos.line) = true := by rfl) (hs : starEach (e :: es) X.env = (false, eval e X.env) :: starEach es X.env := by rfl) (hplain : (backTo cpos (starEach es X.env)).any (·.1) = false := by rfl) :
    PP X ios Wx (.Call (.Attribute (.Name x npos) name apos) (e :: es) [] cpos) (mutM i g fs) := by
  obtain ⟨ta, pa, ra⟩ := ha.ex
  refine ⟨_, pe_bm PySem.F.plainAttrs_list slot hty hm (pe_var hN hv hd hcd) pa hbase hfew hline hs hplain, fun B F W E σ H Q S k => ?_⟩
  unfold mutM at k
  cases q : ownL i E with
  | none => simp only [q] at k; exact k.elim
  | some ds0 =>
    simp only [q] at k
    obtain ⟨o, vs, h1, h3, h4, h5, _, h6⟩ := S.ownl q
    refine ⟨_, h1, .inl ⟨rfl, _, SqL.of h3⟩, ra B F W E σ H _ S (Pst.seq k fun F2 W2 H2 xs as E2 S2 s2 r2 k2 => ?_)⟩
    exact mut_end hr S2 h1 r2 k2
end
end
def appG : List D → List D → Option (D × List D)
  | ds, [y] => if ds.length < sizeLine then some (.non, ds ++ [y]) else none
  | _, _ => none
theorem mut_app {K : KF} : MutD K rAppend appG := by
  intro F H o vs ds xs as z ds' Q ho fo fh hz rr rx hg q
  cases as with
  | nil => cases hg
  | cons y r =>
    cases r with
    | cons _ _ => cases hg
    | nil =>
      have hg' : (if ds.length < sizeLine then some (D.non, ds ++ [y]) else none) = some (z, ds') := hg
      by_cases c : ds.length < sizeLine
      · rw [if_pos c] at hg'
        cases hg'
        cases rx with
        | cons r1 r2 =>
          cases r2
          exact ⟨o, vs, _, rfl, rfl, ho, by rw [rr.length]; exact c, q _ _ .non (rr.app (.cons r1 .nil))⟩
      · rw [if_neg c] at hg'; cases hg'
theorem RepL.erase {K : KF} {F : Hp} : ∀ {vs : List V} {ds : List D} (n : Nat), RepL K F vs ds → RepL K F (vs.eraseIdx n) (ds.eraseIdx n)
  | [], _, n, h => by cases h; exact .nil
  | v :: vs, _, 0, h => by cases h with | cons _ h2 => exact h2
  | v :: vs, _, n + 1, h => by cases h with | cons h1 h2 => exact .cons h1 (h2.erase n)
theorem RepL.reverse {K : KF} {F : Hp} : ∀ {vs : List V} {ds : List D}, RepL K F vs ds → RepL K F vs.reverse ds.reverse
  | [], _, h => by cases h; exact .nil
  | v :: vs, _, h => by
    cases h with
    | cons h1 h2 =>
      rw [List.reverse_cons, List.reverse_cons]
      exact h2.reverse.app (.cons h1 .nil)
def ipD (f : Int → Int → Int) : D → D → Option D
  | .int i, .int j => some (.int (f i j))
  | _, _ => none
theorem opd_ip {K : KF} (f : Int → Int → Int) : OpD K (ipI f) (ipD f) := by
  intro F H x y d e z Q fh rx ry hz q
  unfold ipD at hz
  split at hz
  · cases hz; cases rx; cases ry
    exact ⟨_, _, rfl, rfl, q F H _ (Gr.refl fh) (.int _)⟩
  · cases hz
end Dl
namespace PySem
open Sem (wp)
end PySem
namespace Dl
open PySem PySem.Spec PyProof.Rows L2
variable [Tbs]
section
variable {X : Cx} {tg e : Expr} {te : TE}
def iSeq (K : KF) (te : TE) : TI := fun σ H R => te σ H fun x H1 => ∃ a, x = .ref a ∧ (((∃ xs, SqL K H1 a xs) ∧ R (Itl K a) H1) ∨ ((∃ xs, SqT K H1 a xs) ∧ R (Itt K a) H1))
theorem pi_seq (he : PE X e te) : PI X tg e (iSeq X.K te) := by
  refine ⟨fun pins s σ H R I h => thn (he.run pins s σ H _ I h) fun v s1 ⟨x, H1, I1, r1, a, ex, q⟩ => ?_⟩
  subst ex
  cases r1
  have at0 : ∀ b ∈ [s1.heap.objs.size], FpOk X pins H1 b := fun b hb => by
    cases List.mem_singleton.mp hb
    exact I1.fpOk (Nat.le_refl _) (I1.hok.fresh (Nat.le_refl _))
  rcases q with ⟨⟨xs, hq⟩, q⟩ | ⟨⟨xs, hq⟩, q⟩
  · obtain ⟨its, rv, p, hz⟩ := I1.list hq
    exact wpAny_pyIter_list p.isList ⟨s1.heap.objs.size, [s1.heap.objs.size], _, _, H1, rfl, I1.kept (t' := s1.toks) fun b o z => Heap.get?_push_of_some _ z, turn_list a _, ⟨_, Heap.get?_push_size _ rfl, rfl, rfl⟩, at0, q⟩
  · obtain ⟨its, rv, p, hz⟩ := I1.tuple hq
    exact wpAny_pyIter_tuple (show s1.heap.IsTuple a its.toArray from p) ⟨s1.heap.objs.size, [s1.heap.objs.size], _, _, H1, rfl, I1.kept (t' := s1.toks) fun b o z => Heap.get?_push_of_some _ z, turn_tuple a _, ⟨_, Heap.get?_push_size _ rfl, rfl, rfl⟩, at0, q⟩
variable {ta : TA} {p pos tpos : Pos} {elts : List Expr} {kk : Nat}
end
def prs : Nat → List D → List D
  | _, [] => []
  | n, d :: ds => .tup [.int (n : Nat), d] :: prs (n + 1) ds
section
variable {X : Cx} {ios : Ios} {Wx : WX} {a tg : Expr} {p pos tpos : Pos} {elts : List Expr} {kk : Nat}
theorem it_seq {f : M D} (ha : PP X ios Wx a f) : PIt X ios Wx tg a (bnd f fun d => ofO (seqOf d)) := by
  obtain ⟨ta, pa, ra⟩ := ha.ex
  refine ⟨_, pi_seq pa, fun B F W E σ H R S h => ?_⟩
  refine ra B F W E σ H _ S (Pst.seq h fun F1 W1 H1 x d E1 S1 s1 r1 h1 => ?_)
  obtain ⟨z, ez, h2⟩ := h1.some
  cases r1 <;> first | (cases ez; done) | skip
  · rename_i a vs ds s zz r
    cases ez
    exact ⟨a, rfl, .inl ⟨⟨vs, SqL.of (S1.fh _ _ s)⟩, h2.done S1 (wlk_list s r)⟩⟩
  · rename_i a vs ds s zz r
    cases ez
    exact ⟨a, rfl, .inr ⟨⟨vs, sqT_mono S1.fh s⟩, h2.done S1 (wlk_tup s r)⟩⟩
def enumOf : List D → Option (List D)
  | [d] => (seqOf d).map (prs 0)
  | _ => none
end
end Dl
namespace Dl
open PySem PySem.Spec PyProof.Rows L2
variable [Tbs]
def asIs : List D → Option (List Int)
  | [] => some []
  | .int i :: r => (asIs r).map (i :: ·)
  | _ => none
def asBs : List D → Option (List Bool)
  | [] => some []
  | .bl b :: r => (asBs r).map (b :: ·)
  | _ => none
theorem RepL.ints {K : KF} {F : Hp} : ∀ {ds : List D} {vs : List V} {ns : List Int}, RepL K F vs ds → asIs ds = some ns → vs = ns.map V.int
  | [], _, ns, h, e => by cases h; cases (show some ([] : List Int) = some ns from e); rfl
  | d :: ds, _, ns, h, e => by
    cases h with
    | cons h1 h2 =>
      cases d <;> first | (cases (show (none : Option (List Int)) = some ns from e); done) | skip
      rename_i i
      have e' : (asIs ds).map (i :: ·) = some ns := e
      cases q : asIs ds with
      | none => rw [q] at e'; cases e'
      | some ms =>
        rw [q] at e'
        cases e'
        cases h1
        rw [h2.ints q]
        rfl
def one {α : Type} (f : D → Option α) : List D → Option α
  | [d] => f d
  | _ => none
theorem one_of {α : Type} {f : D → Option α} {ds : List D} {z : α} (h : one f ds = some z) : ∃ d, ds = [d] ∧ f d = some z := by
  unfold one at h
  split at h
  · exact ⟨_, rfl, h⟩
  · cases h
theorem RepL.one {K : KF} {F : Hp} {vs : List V} {d : D} (h : RepL K F vs [d]) : ∃ v, vs = [v] ∧ Rep K F v d := by
  cases h with
  | cons h1 h2 => cases h2; exact ⟨_, rfl, h1⟩
def lenD : D → Option D
  | .str s => if s.length ≤ sizeLine then some (.int s.length) else none
  | .lst ds => some (.int ds.length)
  | .tup ds => some (.int ds.length)
  | _ => none
theorem cd_len {K : KF} : CallD K (fun xs H Q => ∃ x n, xs = [x] ∧ LenV K x H n ∧ Q (.int n) H) (one lenD) := by
  intro F H vs ds z Q fh r0 hz q
  obtain ⟨d, rfl, hz⟩ := one_of hz
  obtain ⟨v, rfl, r⟩ := r0.one
  cases r with
  | str s =>
    have hz' : (if s.length ≤ sizeLine then some (D.int s.length) else none) = some z := hz
    by_cases c : s.length ≤ sizeLine
    · rw [if_pos c] at hz'
      cases hz'
      exact ⟨_, _, rfl, ⟨c, rfl⟩, q F H _ (Gr.refl fh) (.int _)⟩
    · rw [if_neg c] at hz'; cases hz'
  | @lst a ws es s zz r =>
    cases (show some (D.int es.length) = some z from hz)
    exact ⟨_, _, rfl, .inl ⟨ws, SqL.of (fh _ _ s), r.length.symm⟩, q F H _ (Gr.refl fh) (.int _)⟩
  | @tup a ws es s zz r =>
    cases (show some (D.int es.length) = some z from hz)
    exact ⟨_, _, rfl, .inr ⟨ws, sqT_mono fh s, r.length.symm⟩, q F H _ (Gr.refl fh) (.int _)⟩
  | _ => cases hz
def onL {α : Type} (f : List D → Option α) : D → Option α
  | .lst ds => f ds
  | _ => none
def allD : List D → Option D := one (onL fun ds => (asBs ds).map fun bs => .bl (bs.all id))
def anyD : List D → Option D := one (onL fun ds => (asBs ds).map fun bs => .bl (bs.any id))
def sumD : List D → Option D := one (onL fun ds => (asIs ds).map fun bs => .int bs.sum)
theorem map_of {α β : Type} {o : Option α} {f : α → β} {z : β} (h : o.map f = some z) : ∃ a, o = some a ∧ f a = z := by
  cases o with
  | none => cases h
  | some a => exact ⟨a, rfl, Option.some.inj h⟩
def absD : List D → Option D
  | [.int i] => some (.int (if i < 0 then -i else i))
  | _ => none
theorem cd_abs {K : KF} : CallD K (fun xs H Q => ∃ i, xs = [.int i] ∧ Q (.int (if i < 0 then -i else i)) H) absD := by
  intro F H vs ds z Q fh r0 hz q
  unfold absD at hz
  split at hz
  · obtain ⟨v, rfl, r⟩ := r0.one
    cases r; cases hz
    exact ⟨_, rfl, q F H _ (Gr.refl fh) (.int _)⟩
  · cases hz
def intD : List D → Option D
  | [.int i] => some (.int i)
  | [.bl b] => some (.int (if b then 1 else 0))
  | _ => none
theorem cd_int {K : KF} : CallD K (fun xs H Q => (∃ i, xs = [.int i] ∧ Q (.int i) H) ∨ ∃ k, xs = [.bl k] ∧ Q (.int (if k then 1 else 0)) H) intD := by
  intro F H vs ds z Q fh r0 hz q
  unfold intD at hz
  split at hz
  · obtain ⟨v, rfl, r⟩ := r0.one
    cases r; cases hz
    exact .inl ⟨_, rfl, q F H _ (Gr.refl fh) (.int _)⟩
  · obtain ⟨v, rfl, r⟩ := r0.one
    cases r; cases hz
    exact .inr ⟨_, rfl, q F H _ (Gr.refl fh) (.int _)⟩
  · cases hz
def topI : Int → List Int → Int
  | n, [] => n
  | n, m :: r => topI (if m > n then m else n) r
def botI : Int → List Int → Int
  | n, [] => n
  | n, m :: r => botI (if m < n then m else n) r
theorem topI_ge : ∀ (r : List Int) (n y : Int), y = n ∨ y ∈ r → y ≤ topI n r
  | [], n, y, h => by
    rcases h with rfl | h
    · exact Int.le_refl _
    · cases h
  | m :: r, n, y, h => by
    have key : ∀ x, x ≤ (if m > n then m else n) → x ≤ topI (if m > n then m else n) r := fun x hx => Int.le_trans hx (topI_ge r _ _ (.inl rfl))
    show y ≤ topI (if m > n then m else n) r
    rcases h with rfl | h
    · refine key _ ?_
      split <;> omega
    · rcases List.mem_cons.mp h with rfl | h
      · refine key _ ?_
        split <;> omega
      · exact topI_ge r _ _ (.inr h)
theorem topI_mem : ∀ (r : List Int) (n : Int), topI n r = n ∨ topI n r ∈ r
  | [], n => .inl rfl
  | m :: r, n => by
    show topI (if m > n then m else n) r = n ∨ _
    rcases topI_mem r (if m > n then m else n) with h | h
    · by_cases c : m > n
      · rw [if_pos c] at h ⊢
        exact .inr (by show topI (if m > n then m else n) r ∈ m :: r; rw [if_pos c, h]; exact List.mem_cons_self)
      · rw [if_neg c] at h ⊢
        exact .inl h
    · exact .inr (List.mem_cons_of_mem _ h)
theorem botI_le : ∀ (r : List Int) (n y : Int), y = n ∨ y ∈ r → botI n r ≤ y
  | [], n, y, h => by
    rcases h with rfl | h
    · exact Int.le_refl _
    · cases h
  | m :: r, n, y, h => by
    have key : ∀ x, (if m < n then m else n) ≤ x → botI (if m < n then m else n) r ≤ x := fun x hx => Int.le_trans (botI_le r _ _ (.inl rfl)) hx
    show botI (if m < n then m else n) r ≤ y
    rcases h with rfl | h
    · refine key _ ?_
      split <;> omega
    · rcases List.mem_cons.mp h with rfl | h
      · refine key _ ?_
        split <;> omega
      · exact botI_le r _ _ (.inr h)
theorem botI_mem : ∀ (r : List Int) (n : Int), botI n r = n ∨ botI n r ∈ r
  | [], n => .inl rfl
  | m :: r, n => by
    show botI (if m < n then m else n) r = n ∨ _
    rcases botI_mem r (if m < n then m else n) with h | h
    · by_cases c : m < n
      · rw [if_pos c] at h ⊢
        exact .inr (by show botI (if m < n then m else n) r ∈ m :: r; rw [if_pos c, h]; exact List.mem_cons_self)
      · rw [if_neg c] at h ⊢
        exact .inl h
    · exact .inr (List.mem_cons_of_mem _ h)
theorem bind_of {α β : Type} {o : Option α} {f : α → Option β} {z : β} (h : o.bind f = some z) : ∃ a, o = some a ∧ f a = some z := by
  cases o with
  | none => cases h
  | some a => exact ⟨a, rfl, h⟩
def listD : List D → Option D := one fun d => (seqOf d).map .lst
def tupleD : List D → Option D := one fun d => (seqOf d).map .tup
theorem cd_tuple {K : KF} : CallD K (fun xs H Q => ∃ p ys, xs = [.ref p] ∧ ((SqL K H p ys ∧ ∀ l, H l = none → Q (.ref l) (upd H l (.tup ys))) ∨ (SqT K H p ys ∧ Q (.ref p) H))) tupleD := by
  intro F H vs ds z Q fh r0 hz q
  obtain ⟨d, rfl, hz⟩ := one_of hz
  obtain ⟨v, rfl, r⟩ := r0.one
  obtain ⟨es, e, rfl⟩ := map_of hz
  cases r with
  | @lst a ws es' s zz r =>
    cases e
    refine ⟨a, ws, rfl, .inl ⟨SqL.of (fh _ _ s), fun l hl => ?_⟩⟩
    have g : Gr F H (upd F l (.tup ws)) (upd H l (.tup ws)) := Gr.new fh hl fun _ _ z => by cases z
    exact q _ _ _ g (.tup (SqT.of upd_same) zz (r.mono g.fx es))
  | @tup a ws es' s zz r =>
    cases e
    exact ⟨a, ws, rfl, .inr ⟨sqT_mono fh s, q F H _ (Gr.refl fh) (.tup s zz r)⟩⟩
  | _ => cases e
mutual
def toQ : D → Option PyData
  | .non => some .none
  | .bl b => some (.bool b)
  | .int i => some (.int i)
  | .str x => some (.str x)
  | .tup ds => match toQs ds with
    | some ps => some (.tuple ps)
    | none => none
  | .dct [] [] => some (.dict [])
  | _ => none
def toQs : List D → Option (List PyData)
  | [] => some []
  | x :: r => match toQ x, toQs r with
    | some p, some ps => some (p :: ps)
    | _, _ => none
end
def reprQ (d : D) : Option D := (toQ d).bind fun p => if p.showable = true ∧ p.shown.length ≤ sizeLine ∧ p.depth ≤ 40 then some (.str p.shown) else none
def reprP (d : D) : Option D := (toP d).bind fun p => if p.showable = true ∧ p.hasDict = false ∧ p.shown.length ≤ sizeLine ∧ p.depth ≤ 40 then some (.str p.shown) else none
def reprD : List D → Option D
  | [.dct [] []] => some (.str "{}")
  | xs => one (fun d => match reprP d with
    | some z => some z
    | none => reprQ d) xs
theorem toQs_cons {x : D} {r : List D} {ps : List PyData} (h : toQs (x :: r) = some ps) : ∃ p q, toQ x = some p ∧ toQs r = some q ∧ ps = p :: q := by
  have h' : (match toQ x, toQs r with
    | some p, some ps => some (p :: ps)
    | _, _ => none) = some ps := by
    have e := h
    unfold toQs at e
    exact e
  cases q1 : toQ x with
  | none => rw [q1] at h'; cases h'
  | some p =>
    rw [q1] at h'
    cases q2 : toQs r with
    | none => rw [q2] at h'; cases h'
    | some q =>
      rw [q2] at h'
      cases h'
      exact ⟨p, q, rfl, rfl, rfl⟩
def EmpD (H : Hp) (a : Addr) : Prop := Rd H a (.dK ([] : List (Key × V))) ∨ Rd H a (.dT ([] : List (List Key × V)))
theorem Rep.empD {K : KF} {F H : Hp} {v : V} (fh : Same F H) (r : Rep K F v (.dct [] [])) : ∃ a, v = .ref a ∧ EmpD H a := by
  cases r with
  | @dk a o kvs _ _ s k r =>
    cases kvs with
    | nil => exact ⟨a, rfl, .inl (.inr ⟨o, fh _ _ s⟩)⟩
    | cons x r => cases k
  | @dt a o kvs _ _ s k r =>
    cases kvs with
    | nil => exact ⟨a, rfl, .inr (.inr ⟨o, fh _ _ s⟩)⟩
    | cons x r => cases k
theorem EmpD.reads {P : Program} {w : World} {H : Hp} {h : Heap} {a : Addr} (ok : HOk P w H h) (e : EmpD H a) : (a == sysModules) = false ∧ Reads h (.ref a) (.dict []) [a] := by
  rcases e with e | e
  · obtain ⟨_, y, vs, r, o, es, ep, h1, h2, h3, h4, h5, h6⟩ := dk_rd ok e
    cases r
    have n : es.toList = [] := by
      cases q : es.toList with
      | nil => rfl
      | cons x r => rw [q] at h5; cases h5
    exact ⟨y, .dict (as := []) (bs := []) h1 h2.1 h3 (by rw [n]; exact .nil) (by rw [n]; exact .nil)⟩
  · obtain ⟨_, y, xs, r, o, es, ep, h1, h2, h3, h4, h5⟩ := dt_rd ok e
    cases r
    have n : es.toList = [] := h4
    exact ⟨y, .dict (as := []) (bs := []) h1 h2.1 h3 (by rw [n]; exact .nil) (by rw [n]; exact .nil)⟩
def RdQ (K : KF) (H : Hp) (v : V) (p : PyData) : Prop := ∃ F d, Same F H ∧ Rep K F v d ∧ toQ d = some p
section
variable {X : Cx} {pins : List (Addr × Obj)} {σ : L2.St} {H F : Hp} {s : Shared}
mutual
theorem Rep.readsQ (I : Inv X pins σ H s) (fh : Same F H) : ∀ (d : D) {v : V} {u : Value} {p : PyData}, Rep X.K F v d → RelV v u → toQ d = some p → ∃ as, Reads s.heap u p as ∧ sysModules ∉ as
  | .non, v, u, p, h, r, q => by
    cases h
    cases r
    unfold toQ at q
    cases q
    exact ⟨_, .none, nofun⟩
  | .bl b, v, u, p, h, r, q => by
    cases h
    cases r
    unfold toQ at q
    cases q
    exact ⟨_, .bool b, nofun⟩
  | .int i, v, u, p, h, r, q => by
    cases h
    obtain ⟨t, rfl⟩ := r
    unfold toQ at q
    cases q
    exact ⟨_, .int i t, nofun⟩
  | .str x, v, u, p, h, r, q => by
    cases h
    obtain ⟨t, rfl⟩ := r
    unfold toQ at q
    cases q
    exact ⟨_, .str x t, nofun⟩
  | .tup ds, v, u, p, h, r, q => by
    unfold toQ at q
    cases q2 : toQs ds with
    | none => rw [q2] at q; cases q
    | some ps =>
      rw [q2] at q
      cases q
      cases h with
      | tup ss z rr =>
        cases r
        obtain ⟨its, rv, ⟨o, ho, hc, n, hd⟩, _⟩ := I.tuple (sqT_mono fh ss)
        obtain ⟨as, hr, hn⟩ := RepL.readsQ I fh ds rr rv q2
        exact ⟨as, Reads.tuple ho hc hd hr, hn⟩
  | .dct [] [], v, u, p, h, r, q => by
    unfold toQ at q
    cases q
    obtain ⟨a, rfl, e⟩ := h.empD fh
    cases (show u = Value.ref a from r)
    obtain ⟨n, rr⟩ := e.reads I.hok
    exact ⟨_, rr, fun y => by
      cases List.mem_singleton.mp y
      cases n⟩
  | .dct (_ :: _) _, v, u, p, h, r, q => by unfold toQ at q; cases q
  | .dct [] (_ :: _), v, u, p, h, r, q => by unfold toQ at q; cases q
  | .lst _, v, u, p, h, r, q => by unfold toQ at q; cases q
  | .ins _ _ _, v, u, p, h, r, q => by unfold toQ at q; cases q
  | .ty _, v, u, p, h, r, q => by unfold toQ at q; cases q
  | .cl _, v, u, p, h, r, q => by unfold toQ at q; cases q
theorem RepL.readsQ (I : Inv X pins σ H s) (fh : Same F H) : ∀ (ds : List D) {vs : List V} {us : List Value} {ps : List PyData}, RepL X.K F vs ds → Vals vs us → toQs ds = some ps → ∃ as, ReadsAll s.heap us ps as ∧ sysModules ∉ as
  | [], vs, us, ps, h, r, q => by
    cases h
    cases r
    unfold toQs at q
    cases q
    exact ⟨_, .nil, nofun⟩
  | d :: ds, vs, us, ps, h, r, q => by
    obtain ⟨p, qs, e1, e2, rfl⟩ := toQs_cons q
    cases h with
    | cons h1 h2 =>
      cases r with
      | cons r1 r2 =>
        obtain ⟨as, q1, n1⟩ := Rep.readsQ I fh d h1 r1 e1
        obtain ⟨bs, q2, n2⟩ := RepL.readsQ I fh ds h2 r2 e2
        exact ⟨_, .cons q1 q2, fun y => by
          rcases List.mem_append.mp y with y | y
          · exact n1 y
          · exact n2 y⟩
end
end
def rRepr (K : KF) : List V → Hp → VK → Prop := fun xs H Q => (∃ v p, xs = [v] ∧ Dp K H v p ∧ p.showable = true ∧ p.hasDict = false ∧ p.shown.length ≤ sizeLine ∧ p.depth ≤ 40 ∧ Q (.str p.shown) H) ∨ (∃ a, xs = [.ref a] ∧ EmpD H a ∧ Q (.str "{}") H) ∨ ∃ a p, xs = [.ref a] ∧ RdQ K H (.ref a) p ∧ p.showable = true ∧ p.shown.length ≤ sizeLine ∧ p.depth ≤ 40 ∧ Q (.str p.shown) H
theorem toQ_ref {K : KF} {F : Hp} {v : V} {d : D} {p : PyData} (r : Rep K F v d) (e : toQ d = some p) (n : reprP d = none) (hs : p.showable = true) (hz : p.shown.length ≤ sizeLine) : ∃ a, v = .ref a := by
  cases r
  case non =>
    unfold toQ at e
    cases e
    exact absurd n (by unfold reprP toP; simp [hs, hz, PyData.hasDict, PyData.depth])
  case bl b =>
    unfold toQ at e
    cases e
    exact absurd n (by unfold reprP toP; simp [hs, hz, PyData.hasDict, PyData.depth])
  case int i =>
    unfold toQ at e
    cases e
    exact absurd n (by unfold reprP toP; simp [hs, hz, PyData.hasDict, PyData.depth])
  case str x =>
    unfold toQ at e
    cases e
    exact absurd n (by unfold reprP toP; simp [hs, hz, PyData.hasDict, PyData.depth])
  all_goals first | exact ⟨_, rfl⟩ | (unfold toQ at e; cases e)
theorem cd_repr {K : KF} : CallD K (rRepr K) reprD := by
  intro F H vs ds z Q fh r0 hz q
  unfold reprD at hz
  split at hz
  · cases hz
    obtain ⟨v, rfl, r⟩ := r0.one
    obtain ⟨a, rfl, e⟩ := r.empD fh
    exact .inr (.inl ⟨a, rfl, e, q F H _ (Gr.refl fh) (.str _)⟩)
  · obtain ⟨d, rfl, hz3⟩ := one_of hz
    obtain ⟨v, rfl, r⟩ := r0.one
    cases pp : reprP d with
    | some z' =>
      rw [pp] at hz3
      cases hz3
      unfold reprP at pp
      obtain ⟨p, e, hz⟩ := bind_of pp
      split at hz
      · rename_i c
        cases hz
        exact .inl ⟨v, p, rfl, r.dp fh d e, c.1, c.2.1, c.2.2.1, c.2.2.2, q F H _ (Gr.refl fh) (.str _)⟩
      · cases hz
    | none =>
      rw [pp] at hz3
      have hz' : reprQ d = some z := hz3
      unfold reprQ at hz'
      obtain ⟨p, e, hz2⟩ := bind_of hz'
      split at hz2
      · rename_i c
        cases hz2
        obtain ⟨a, rfl⟩ := toQ_ref r e pp c.1 c.2.1
        exact .inr (.inr ⟨a, p, rfl, ⟨F, d, fh, r, e⟩, c.1, c.2.1, c.2.2, q F H _ (Gr.refl fh) (.str _)⟩)
      · cases hz2
theorem call_reprA {X : Cx} (hg : X.A.guards = some []) (hu : X.A.units + 65 < cLine) : CallR X (.builtin "repr") (rRepr X.K) := by
  rintro pins s σ H xs us Q I r z
  rcases z with ⟨v, p, rfl, hd, h1, h2, h3, h4, q⟩ | ⟨a, rfl, e, q⟩ | ⟨a, p, rfl, ⟨F, d, fh, rd, e⟩, h1, h3, h4, q⟩
  rotate_left
  rotate_left
  · obtain ⟨u, rfl, ru⟩ := r.one
    cases (show u = Value.ref a from ru)
    obtain ⟨as, rr, n⟩ := Rep.readsQ I fh d rd ru e
    exact repr_of_reads' rr h1 (fun _ => n) hg (by show X.A.units + (p.depth + 1) < cLine; omega) (fun b o z => z) (fun h' u tk k => ⟨.str _, H, I.kept k, ⟨_, rfl⟩, q⟩) h3
  rotate_left
  · obtain ⟨u, rfl, ru⟩ := r.one
    cases (show u = Value.ref a from ru)
    obtain ⟨n, rr⟩ := e.reads I.hok
    exact repr_of_reads' rr rfl (fun _ y => by
      cases List.mem_singleton.mp y
      cases n) hg (by show X.A.units + (1 + 1) < cLine; omega) (fun b o z => z) (fun h' u tk k => ⟨.str _, H, I.kept k, ⟨_, rfl⟩, q⟩) (by decide)
  obtain ⟨u, rfl, ru⟩ := r.one
  cases hd with
  | non => cases (show u = Value.none from ru); exact P.repr_of_none ⟨.str _, H, I.tok _, ⟨_, rfl⟩, q⟩
  | bl b => cases (show u = Value.bool b from ru); exact P.repr_of_bool ⟨.str _, H, I.tok _, ⟨_, rfl⟩, q⟩
  | int i =>
    obtain ⟨t, rfl⟩ := (show ∃ t, u = Value.int i t from ru)
    exact P.repr_of_int (of_decide_eq_true h1) ⟨.str _, H, I.tok _, ⟨_, rfl⟩, q⟩
  | str x =>
    obtain ⟨t, rfl⟩ := (show ∃ t, u = Value.str x t from ru)
    exact P.repr_of_str ⟨.str _, H, I.tok _, ⟨_, rfl⟩, q⟩ h3
  | lst hs ha =>
    rename_i a xs ds
    obtain ⟨as, rr⟩ := Dp.reads I (.list ds) _ u (.lst hs ha) ru
    cases (show u = Value.ref a from ru)
    exact repr_of_reads' rr h1 (PyData.noDict_hsm h2) hg (by omega) (fun b o z => z) (fun h' u tk k => ⟨.str _, H, I.kept k, ⟨_, rfl⟩, q⟩) h3
  | tup hs ha =>
    rename_i a xs ds
    obtain ⟨as, rr⟩ := Dp.reads I (.tuple ds) _ u (.tup hs ha) ru
    cases (show u = Value.ref a from ru)
    exact repr_of_reads' rr h1 (PyData.noDict_hsm h2) hg (by omega) (fun b o z => z) (fun h' u tk k => ⟨.str _, H, I.kept k, ⟨_, rfl⟩, q⟩) h3
end Dl
namespace Dl
open PySem PySem.Spec PyProof.Rows L2
variable [Tbs]
def tyN : D → Option String
  | .non => some "NoneType"
  | .bl _ => some "bool"
  | .int _ => some "int"
  | .str _ => some "str"
  | .lst _ => some "list"
  | .tup _ => some "tuple"
  | .dct _ _ => some "dict"
  | _ => none
def tys : List String := ["int", "bool", "str", "list", "tuple", "dict"]
def insT (cs : List Str) (T : String) : D → Option Bool
  | .ins c _ _ => if cs.contains c = true ∧ tys.contains T = true then some false else none
  | _ => none
def insC (cs : List Str) (c : Str) : D → Option Bool
  | .ins c' _ _ => if cs.contains c' = true then some (c' == c) else none
  | _ => none
def isi1 (cs : List Str) (x : D) : D → Option Bool
  | .ty T => match tyN x with
    | some S => kitB S T
    | none => insT cs T x
  | .cl c => if cs.contains c = true then (match tyN x with
    | some _ => some false
    | none => insC cs c x) else none
  | _ => none
def isiD (cs : List Str) : List D → Option D
  | [x, c] => (isi1 cs x c).map .bl
  | _ => none
def spX (K : KF) (c : Str) (names : List Str) : Sp := fun vs H Q _ => ∃ a ws, vs = .ref a :: ws ∧ ws.length = names.length ∧ H a = some (exo a (He.ga K c) none) ∧
  ∀ dx, H dx = none → dx ≠ a → Q .non (upd (upd H dx (exd dx (names.zip ws).reverse)) a (exo a (He.ga K c) (some dx)))
section
variable {P : Program} {w : World} {K : KF} {mg : Str → Option Value} {base : Heap} {qual c : Str} {scope : Scope} {f : Addr} {fd : FuncData} {k : Nat} {params : Arguments}
theorem fn_x2 {x y1 f1 y2 f2 : Str} {p1 p2 p3 p4 p5 p6 p7 p8 : Pos} {sf : Str} (F : FunD K x qual params [.Assign [.Attribute (.Name sf p1) f1 p2] (.Name y1 p3) p4, .Assign [.Attribute (.Name sf p5) f2 p6] (.Name y2 p7) p8] scope [] [] f fd) (S : FnScope [sf, y1, y2] [sf, y1, y2] scope) (T : OexC K (He.ga K c))
    (n1 : PySem.W.findIn K (.ref (He.ga K c)) f1 = some none) (n2 : PySem.W.findIn K (.ref (He.ga K c)) f2 = some none)
    (v0 : scope.names.lookup sf = some .local) (v1 : scope.names.lookup y1 = some .local) (v2 : scope.names.lookup y2 = some .local) (d0 : (sf == ("__debug__" : Str)) = false := by decide) (d1 : (y1 == ("__debug__" : Str)) = false := by decide) (d2 : (y2 == ("__debug__" : Str)) = false := by decide)
    (e0 : (sf == ("__classdict__" : Str)) = false := by decide) (e1 : (y1 == ("__classdict__" : Str)) = false := by decide) (e2 : (y2 == ("__classdict__" : Str)) = false := by decide) :
    FnOk P w K mg base (L2.CX P w) (k + 1) f fd [sf, y1, y2] (spX K c [f1, f2]) := by
  refine FunD.ok F S (fun vs H Q E h => ?_) fun cdv A outer s H vs Q E hr h => ?_
  · obtain ⟨a, ws, rfl, l, _⟩ := h
    show ws.length + 1 = 3
    rw [l]; rfl
  · refine ⟨_, pss_cons (ps_ost (pe_var (i := 0) rfl (.inl v0) d0 e0) (pe_var (i := 1) rfl (.inl v1) d1 e1)) (pss_one (ps_ost (pe_var (i := 0) rfl (.inl v0) d0 e0) (pe_var (i := 2) rfl (.inl v2) d2 e2))), ?_⟩
    obtain ⟨a, ws, rfl, l, ha, q⟩ := h
    match ws, l with
    | [z, z2], _ =>
      refine ⟨z, rfl, .ref a, rfl, a, _, rfl, T, n1, .inl ⟨ha, fun dx h1 h2 => ?_⟩⟩
      refine ⟨z2, rfl, .ref a, rfl, a, _, rfl, T, n2, .inr ⟨dx, [(f1, z)], upd_same, ?_, by show 1 ≤ 900; decide, ?_⟩⟩
      · rw [upd_ne h2, upd_same]
      · have e : upd (upd (upd H dx (exd dx [(f1, z)])) a (exo a (He.ga K c) (some dx))) dx (exd dx ((f2, z2) :: [(f1, z)])) = upd (upd H dx (exd dx ([f1, f2].zip [z, z2]).reverse)) a (exo a (He.ga K c) (some dx)) := by
          funext b
          by_cases c1 : b = dx
          · subst c1
            rw [upd_same, upd_ne h2, upd_same]
            rfl
          · rw [upd_ne c1]
            by_cases c2 : b = a
            · subst c2; rw [upd_same, upd_same]
            · rw [upd_ne c2, upd_ne c1, upd_ne c2, upd_ne c1]
        show _
        rw [e]
        exact q dx h1 h2
end
def raiseS (c : Str) (names : List Str) (fs : M (List D)) : G := andS fs fun ds E => if ds.length = names.length then .er ⟨c, names.reverse, ds.reverse⟩ E else .stk
theorem RepL.zipv {K : KF} {F : Hp} : ∀ {ns : List Str} {ws : List V} {ds : List D}, RepL K F ws ds → ds.length = ns.length → (ns.zip ws).map (·.1) = ns ∧ (ns.zip ws).map (·.2) = ws
  | [], ws, ds, h, e => by
    cases h with
    | nil => exact ⟨rfl, rfl⟩
    | cons _ _ => cases e
  | n :: ns, ws, ds, h, e => by
    cases h with
    | nil => cases e
    | cons h1 h2 =>
      obtain ⟨a, b⟩ := RepL.zipv (ns := ns) h2 (by simpa using e)
      rw [List.zip_cons_cons, List.map_cons, List.map_cons, a, b]
      exact ⟨rfl, rfl⟩
section
variable {X : Cx} {ios : Ios} {Wx : WX} {e : Expr} {es : List Expr} {fs : M (List D)} {p pos pos' : Pos} {c x : Str} {names ps : List Str} {fI : Addr} {fd : FuncData} {k : Nat}
theorem pd_raise (hc : X.calm = true) (tk : Takes X Wx) (T : OexC X.K (He.ga X.K c)) (iC : PySem.W.findIn X.K (.ref (He.ga X.K c)) "__init__" = some (some (.ref fI))) (tI : PySem.W.typeIn X.K (.ref fI) = some (.type "function")) (F1 : FnOk X.prog X.w X.K X.mg X.base (L2.CX X.prog X.w) k fI fd ps (spX X.K c names))
    (hr : Room (k + 1) X.A) (hb : Binds X.K fd ps []) (hg : Gl X x) (hm : X.mg x = some (.ref (He.ga X.K c))) (ha : PL X ios Wx (e :: es) fs) (hn : names.length ≤ 1000 := by decide)
    (hdb : (x == ("__debug__" : Str)) = false := by decide) (he : starEach (e :: es) X.env = (false, eval e X.env) :: starEach es X.env := by rfl) (hpl : (backTo pos (starEach es X.env)).any (·.1) = false := by rfl) :
    PD X ios Wx (.Raise (some (.Call (.Name x p) (e :: es) [] pos)) none pos') (raiseS c names fs) := by
  obtain ⟨ta, pa, ra⟩ := ha.ex
  refine ⟨_, ps_raise hc tk (pmk_oex T iC tI F1 hr hb .nil (passes_call tk fun _ _ _ _ z => z.elim) hg hm pa hdb he hpl), fun B F W E σ H Dn S h => ?_⟩
  refine ra B F W E σ H _ S (PstS.seq h fun F1 W1 H1 vs ds E1 S1 s1 r1 h1 => ?_)
  by_cases hl : ds.length = names.length
  · rw [if_pos hl] at h1
    refine ⟨by rw [r1.length, hl]; exact hn, fun a ha => ⟨a, vs, by rw [List.append_nil], by rw [r1.length]; exact hl, upd_same, fun dx hdx hne => ?_⟩⟩
    have hdx1 : H1 dx = none := by rw [upd_ne hne] at hdx; exact hdx
    refine ⟨rfl, dx, _, upd_same, by rw [upd_ne hne, upd_same], hdx1, ?_⟩
    have e : upd (del (upd (upd (upd H1 a (exo a (He.ga X.K c) none)) dx (exd dx (names.zip vs).reverse)) a (exo a (He.ga X.K c) (some dx))) a) dx (.xd (names.zip vs).reverse) = upd H1 dx (.xd (names.zip vs).reverse) := by
      funext b
      by_cases c1 : b = dx
      · subst c1; rw [upd_same, upd_same]
      · rw [upd_ne c1, upd_ne c1]
        by_cases c2 : b = a
        · subst c2; unfold del; rw [if_pos rfl]; exact ha.symm
        · rw [del_ne c2, upd_ne c2, upd_ne c1, upd_ne c2]
    rw [e]
    have z := RepL.zipv r1 hl
    exact h1 F1 W1 _ σ _ _ (S1.laid hdx1 fun _ _ z => by cases z) (Same.refl F1) ⟨rfl, .inr ⟨dx, _, rfl, upd_same, by rw [List.map_reverse, z.1], by rw [List.map_reverse, z.2]; exact r1.reverse⟩⟩
  · rw [if_neg hl] at h1; exact h1.elim
end
end Dl
namespace Dl
open PySem PySem.Spec PyProof.Rows L2
variable [Tbs]
def wpe {α : Type} (l : List (Option α)) : List Nat → List (Option α)
  | [] => l
  | v :: vs => (wpe l vs).set v none
theorem wpe_wipe (σ : L2.St) : ∀ vs : List Nat, wpe σ vs = wipe σ vs
  | [] => rfl
  | v :: vs => by
    show (wpe σ vs).set v none = (wipe σ vs).set v none
    rw [wpe_wipe]
theorem wpe_len {α : Type} (l : List (Option α)) : ∀ vs : List Nat, (wpe l vs).length = l.length
  | [] => rfl
  | v :: vs => by
    show ((wpe l vs).set v none).length = _
    rw [List.length_set, wpe_len]
theorem wpe_get {α : Type} (l : List (Option α)) (i : Nat) : ∀ vs : List Nat, (wpe l vs)[i]? = if i ∈ vs then (l[i]?).map (fun _ => none) else l[i]?
  | [] => by simp [wpe]
  | v :: vs => by
    show ((wpe l vs).set v none)[i]? = _
    rw [List.getElem?_set]
    by_cases c : v = i
    · subst c
      rw [if_pos rfl, wpe_len, if_pos (show v ∈ v :: vs from List.mem_cons_self)]
      by_cases h : v < l.length
      · rw [if_pos h, List.getElem?_eq_getElem h]; rfl
      · rw [if_neg h, List.getElem?_eq_none (by omega)]; rfl
    · rw [if_neg c, wpe_get l i vs]
      by_cases m : i ∈ vs
      · rw [if_pos m, if_pos (List.mem_cons_of_mem _ m)]
      · rw [if_neg m, if_neg (by simp [m]; exact fun z => c z.symm)]
theorem wpe_out {α : Type} {l : List (Option α)} {i : Nat} {vs : List Nat} (h : i ∉ vs) : (wpe l vs)[i]? = l[i]? := by rw [wpe_get, if_neg h]
theorem wpe_some {α : Type} {l : List (Option α)} {i : Nat} {vs : List Nat} {x : α} (h : (wpe l vs)[i]? = some (some x)) : i ∉ vs ∧ l[i]? = some (some x) := by
  rw [wpe_get] at h
  by_cases m : i ∈ vs
  · rw [if_pos m] at h
    cases q : l[i]? with
    | none => rw [q] at h; cases h
    | some o => rw [q] at h; cases h
  · rw [if_neg m] at h; exact ⟨m, h⟩
theorem wpe_set {α : Type} {l : List (Option α)} {i : Nat} {vs : List Nat} {x : Option α} (h : i ∈ vs) : wpe (l.set i x) vs = wpe l vs := by
  apply List.ext_getElem?
  intro j
  rw [wpe_get, wpe_get]
  by_cases m : j ∈ vs
  · rw [if_pos m, if_pos m, List.getElem?_set]
    by_cases c : i = j
    · subst c
      rw [if_pos rfl]
      by_cases hl : i < l.length
      · rw [if_pos hl, List.getElem?_eq_getElem hl]; rfl
      · rw [if_neg hl, List.getElem?_eq_none (by omega)]
    · rw [if_neg c]
  · rw [if_neg m, if_neg m, List.getElem?_set, if_neg (fun c : i = j => m (c ▸ h))]
theorem wpe_wpe {α : Type} {l : List (Option α)} {vs : List Nat} : wpe (wpe l vs) vs = wpe l vs := by
  apply List.ext_getElem?
  intro j
  rw [wpe_get]
  by_cases m : j ∈ vs
  · rw [if_pos m, wpe_get, if_pos m]
    cases l[j]? <;> rfl
  · rw [if_neg m]
section
variable {K : KF} {ios : Ios} {B : Bs} {F F' : Hp} {W W' : Wm} {E : Nv} {σ σ' : L2.St} {H H' : Hp} {vs : List Nat}
theorem St.wiped (S : St K ios B F W E σ H) (hv : ∀ i ∈ vs, ios.contains i = false) : St K ios B F W (wpe E vs) (wipe σ vs) H where
  fh := S.fh
  st := S.st
  nz := S.nz
  ow := S.ow
  fr := S.fr
  w0 := S.w0
  vr := fun i t d h => by
    obtain ⟨m, h⟩ := wpe_some h
    obtain ⟨v, h1, h2⟩ := S.vr i t d h
    exact ⟨v, by rw [← wpe_wipe, wpe_out m]; exact h1, h2⟩
  pn := fun i v h => by
    obtain ⟨h1, h2⟩ := S.pn i v h
    refine ⟨h1, ?_⟩
    rw [← wpe_wipe, wpe_out (fun m => by
      have := hv i m
      replace this := Ios.no this
      exact this h1)]
    exact h2
  ln := by rw [← wpe_wipe, wpe_len, wpe_len]; exact S.ln
  xo := S.xo
theorem St.unwiped (S : St K ios B F W (wpe E vs) (wipe σ vs) H) : St K ios B F W (wpe E vs) σ H where
  fh := S.fh
  st := S.st
  nz := S.nz
  ow := S.ow
  fr := S.fr
  w0 := S.w0
  vr := fun i t d h => by
    obtain ⟨v, h1, h2⟩ := S.vr i t d h
    rw [← wpe_wipe] at h1
    exact ⟨v, (wpe_some h1).2, h2⟩
  pn := fun i v h => by
    obtain ⟨h1, h2⟩ := S.pn i v h
    rw [← wpe_wipe] at h2
    exact ⟨h1, (wpe_some h2).2⟩
  ln := by rw [S.ln, ← wpe_wipe, wpe_len]
  xo := S.xo
theorem St.over {p : Addr} {u : HO} (S : St K ios B F W E σ H) (hF : F p = none) (hW : W p = none) (hB : B.H0 p = none) (hu : ∀ ob z, u ≠ .frz ob z) (hq : ∀ o, H p = some o → ¬ TCo o) : St K ios B F W E σ (upd H p u) where
  fh := fun a o h => by rw [upd_ne (fun c => by subst c; rw [hF] at h; cases h)]; exact S.fh a o h
  st := by
    have s := S.st
    refine ⟨s.fx, s.fn, s.wx, s.wn, fun a o h n tn => ?_, fun a o h => ?_, fun a o f h => ?_, fun P q tw => ?_⟩
    · rw [upd_ne (fun c => by subst c; rw [hB] at h; cases h)]; exact s.hx a o h n tn
    · rw [upd_ne (fun c => by subst c; rw [hB] at h; cases h)]; exact s.hd a o h
    · rw [upd_ne (fun c => by subst c; rw [hB] at h; cases h)]; exact s.fk a o f h
    · have tw' := s.tb P q tw
      exact tw'.of tw'.1 (fun _ _ n _ => n) fun a o ha _ c => by rw [upd_ne (fun z => hq o (by rw [← z]; exact ha) c)]; exact ha
  nz := fun a ob z e => by
    by_cases c : a = p
    · subst c; rw [upd_same] at e; exact absurd (Option.some.inj e) (hu _ _)
    · rw [upd_ne c] at e; exact S.nz a ob z e
  ow := fun a l h => by
    rw [upd_ne (fun c => by subst c; rw [hW] at h; cases h)]; exact S.ow a l h
  fr := S.fr
  w0 := S.w0
  vr := fun i t d h => by
    obtain ⟨v, h1, h2⟩ := S.vr i t d h
    exact ⟨v, h1, h2.keep (Same.refl F) (fun _ _ q => q) fun a l o w q => by rw [upd_ne (fun c => by subst c; rw [hW] at w; cases w)]; exact q⟩
  pn := S.pn
  ln := S.ln
  xo := S.xo
theorem Stp.over {p : Addr} {u : HO} (s : Stp F W H F' W' H') (h : H p = none) (hq : ∀ o, H' p = some o → ¬ TCo o) : Stp F W H F' W' (upd H' p u) :=
  ⟨s.fx, s.fn, s.wx, s.wn, fun a o e n tn => by rw [upd_ne (fun c => by subst c; rw [h] at e; cases e)]; exact s.hx a o e n tn, fun a o e => by rw [upd_ne (fun c => by subst c; rw [h] at e; cases e)]; exact s.hd a o e, fun a o f e => by rw [upd_ne (fun c => by subst c; rw [h] at e; cases e)]; exact s.fk a o f e, fun P q tw => by
    have tw' := s.tb P q tw
    exact tw'.of tw'.1 (fun _ _ n _ => n) fun a o ha _ c => by rw [upd_ne (fun z => hq o (by rw [← z]; exact ha) c)]; exact ha⟩
theorem tco_none {H : Hp} {p : Addr} (e : H p = none) : ∀ o, H p = some o → ¬ TCo o := fun o h => by rw [e] at h; cases h
theorem tco_nxo {H : Hp} {p : Addr} {u : HO} (e : H p = some u) (n : nxo u = true) : ∀ o, H p = some o → ¬ TCo o := fun o h => by rw [e] at h; cases h; exact nxo_tco n
theorem Stp.stays {p : Addr} {u : HO} (s : Stp F W H F' W' H') (fh : Same F' H') (hu : nxo u = true) (hF : F p = none) (hW : W p = none) (hH : H p = some u) : F' p = none ∧ W' p = none ∧ H' p = some u := by
  refine ⟨s.nf fh hF hH (s.hx p u hH hW (nxo_tbl hu)) hu, ?_, s.hx p u hH hW (nxo_tbl hu)⟩
  cases q : W' p with
  | none => rfl
  | some l =>
    rcases s.wn p l q with z | z
    · rw [hW] at z; cases z
    · rw [hH] at z; cases z
end
structure PTw (X : Cx) (ios : Ios) (vs : List Nat) (tg : Expr) (h : D → Nv → Option Nv) : Prop where
  ex : ∃ g : TG, PG X tg g ∧ ∀ B F W E E' σ H v d Q, St X.K ios B F W E σ H → Rep X.K F v d → h d E = some E' → (∀ σ' W', St X.K ios B F W' E' σ' H → Stp F W H F W' H → wipe σ' vs = wipe σ vs → Q σ' H) → g v σ H Q
section
variable {X : Cx} {ios : Ios} {vs : List Nat} {tg : Expr} {es tgs : List Expr} {pos : Pos}
theorem tw_name {i : Nat} {x : Str} (hN : X.N.Nodup) (hi : X.N[i]? = some x) (hx : Loc X.env.scope x) (hio : ios.contains i = false) (hv : i ∈ vs) (hf : X.fn x = true ∨ X.env.scope.names.lookup x = some .local := by first | exact .inl rfl | exact .inr rfl | assumption) : PTw X ios vs (.Name x pos) (putE i) := by
  refine ⟨_, pg_name hN hi hx hf, fun B F W E E' σ H v d Q S r h k => ?_⟩
  cases h
  refine k _ W (S.put hio (Wr := noW) (p := (.sh, d)) Fresh.no r) (Stp.refl _ _ _) ?_
  rw [← wpe_wipe, ← wpe_wipe, wpe_set hv]
end
structure PCs (X : Cx) (ios : Ios) (Wx : WX) (ifs : List Expr) (f : M Bool) : Prop where
  ex : ∃ t : TT, PTs X ifs t ∧ ∀ B F W E σ H Q, St X.K ios B F W E σ H → Pst X.K ios B Wx σ (fun _ (b : Bool) a => b = a) F W H (f E) Q → t σ H Q
theorem pcs_nil {X : Cx} {ios : Ios} {Wx : WX} : PCs X ios Wx [] (ret true) := ⟨tYes, pts_nil, fun B F W E σ H Q S h => h.done S rfl⟩
abbrev Bi := Shared × Hp × Addr × List (Str × Addr) × List Addr
abbrev bx (X : Cx) (scope : Scope) (i : Bi) : Cx := X.blk i.1 i.2.1 scope (compEnvC scope i.2.2.2.1 i.2.2.1 X.env) i.2.2.2.2
abbrev W0x : WX := fun _ _ _ _ => False
section
variable {X : Cx} {ios : Ios} {vs : List Nat} {scope : Scope} {tg elt : Expr} {ifs : List Expr}
theorem uni_pe {f : M D} (h : ∀ i, PP (bx X scope i) ios W0x elt f) : ∃ t : TE, (∀ i, PE (bx X scope i) elt t) ∧ ∀ B F W E σ H Q, St X.K ios B F W E σ H → Pst X.K ios B W0x σ (Rep X.K) F W H (f E) Q → t σ H Q :=
  ⟨fun σ H Q => ∀ i, (h i).ex.choose σ H Q, fun i => ⟨fun pins s σ H Q I q => (h i).ex.choose_spec.1.run pins s σ H Q I (q i)⟩, fun B F W E σ H Q S p i => (h i).ex.choose_spec.2 B F W E σ H Q S p⟩
theorem uni_pc {f : M Bool} (h : ∀ i, PCs (bx X scope i) ios W0x ifs f) : ∃ t : TT, (∀ i, PTs (bx X scope i) ifs t) ∧ ∀ B F W E σ H Q, St X.K ios B F W E σ H → Pst X.K ios B W0x σ (fun _ (b : Bool) a => b = a) F W H (f E) Q → t σ H Q :=
  ⟨fun σ H Q => ∀ i, (h i).ex.choose σ H Q, fun i => ⟨fun pins s σ H Q I q => (h i).ex.choose_spec.1.run pins s σ H Q I (q i)⟩, fun B F W E σ H Q S p i => (h i).ex.choose_spec.2 B F W E σ H Q S p⟩
theorem uni_pg {asg : D → Nv → Option Nv} (h : ∀ i, PTw (bx X scope i) ios vs tg asg) : ∃ g : TG, (∀ i, PG (bx X scope i) tg g) ∧ ∀ B F W E E' σ H v d Q, St X.K ios B F W E σ H → Rep X.K F v d → asg d E = some E' → (∀ σ' W', St X.K ios B F W' E' σ' H → Stp F W H F W' H → wipe σ' vs = wipe σ vs → Q σ' H) → g v σ H Q :=
  ⟨fun v σ H Q => ∀ i, (h i).ex.choose v σ H Q, fun i => ⟨fun pins s σ H v u Q I r q => (h i).ex.choose_spec.1.run pins s σ H v u Q I r (q i)⟩, fun B F W E E' σ H v d Q S r e k i => (h i).ex.choose_spec.2 B F W E E' σ H v d Q S r e k⟩
end
def compL (asg : D → Nv → Option Nv) (cond : M Bool) (elt : M D) (vs : List Nat) : List D → List D → Nv → Rs (List D)
  | [], acc, E => .ok acc (wpe E vs)
  | d :: ds, acc, E => match asg d (wpe E vs) with
    | none => .stk
    | some E1 => match cond E1 with
      | .ok true E2 => (match elt E2 with
        | .ok y E3 => if acc.length < sizeLine then compL asg cond elt vs ds (acc ++ [y]) E3 else .stk
        | _ => .stk)
      | .ok false E2 => compL asg cond elt vs ds acc E2
      | _ => .stk
def compM (f : M (List D)) (asg : D → Nv → Option Nv) (cond : M Bool) (elt : M D) (vs : List Nat) : M Ent := bnd f fun ds => bnd (compL asg cond elt vs ds []) fun xs => ret (.l .sh, .lst xs)
section
variable {X : Cx} {ios : Ios} {Wx : WX} {tg iter elt : Expr} {ifs : List Expr} {scope : Scope} {own : List (Str × Nat)} {pos : Pos} {f : M (List D)} {asg : D → Nv → Option Nv} {cond : M Bool} {fe : M D}
theorem lc_reads {wi : TI} {g : TG} {tt : TT} {te : TE} {vs : List Nat} (hv : ∀ i ∈ vs, ios.contains i = false) (ri : ∀ B F W E σ H R, Dl.St X.K ios B F W E σ H → Pst X.K ios B Wx σ (fun F' (J : It) ds => Wlk X.K J ds F') F W H (f E) R → wi σ H R)
    (rg : ∀ B F W E E' σ H v d Q, Dl.St X.K ios B F W E σ H → Rep X.K F v d → asg d E = some E' → (∀ σ' W', Dl.St X.K ios B F W' E' σ' H → Stp F W H F W' H → wipe σ' vs = wipe σ vs → Q σ' H) → g v σ H Q)
    (rt : ∀ B F W E σ H Q, Dl.St X.K ios B F W E σ H → Pst X.K ios B W0x σ (fun _ (b : Bool) a => b = a) F W H (cond E) Q → tt σ H Q) (re : ∀ B F W E σ H Q, Dl.St X.K ios B F W E σ H → Pst X.K ios B W0x σ (Rep X.K) F W H (fe E) Q → te σ H Q)
    (B : Bs) (F : Hp) (W : Wm) (E : Nv) (σ : L2.St) (H : Hp) (Q : VK) (S : Dl.St X.K ios B F W E σ H) (h : PstO X.K ios B Wx σ F W H (compM f asg cond fe vs E) Q) : tLc wi g tt te vs σ H Q := by
  refine ri B F W E σ H _ S (PstO.seq h fun F1 W1 H1 J ds E1 S1 s1 wl h1 Dd hD => ?_)
  have dF := S1.fh.free hD
  have dW := S1.noW hD
  have dB := S1.st.back hD
  refine ⟨fun i m Hn => m = ds.length - i ∧ i ≤ ds.length ∧ ∃ F' W' E' acc av, St X.K ios B F' W' (wpe E' vs) (wipe σ vs) Hn ∧ Stp F1 W1 H1 F' W' Hn ∧ F' Dd = none ∧ W' Dd = none ∧ Hn Dd = some (.lst av) ∧ RepL X.K F' av acc ∧ acc.length ≤ sizeLine ∧ PstO X.K ios B Wx σ F1 W1 H1 (bnd (compL asg cond fe vs (ds.drop i) acc) (fun xs => ret (.l .sh, .lst xs)) E') Q,
    ⟨ds.length, by simp, Nat.zero_le _, F1, W1, E1, [], [], (S1.over dF dW dB (fun _ _ z => by cases z) (tco_none hD)).wiped hv, (Stp.refl _ _ _).over hD (tco_none hD), dF, dW, upd_same, .nil, Nat.zero_le _, h1⟩, ?_⟩
  rintro i m Hn ⟨rfl, hi, F', W', E', acc, av, S', st', nF, nW, eD, ra, za, k⟩
  by_cases hlt : i < ds.length
  · refine .inr ⟨wl.go i F' Hn st'.fx S'.fh hlt, fun H2 => ∃ F' W' E' acc av, St X.K ios B F' W' (wpe E' vs) (wipe σ vs) H2 ∧ Stp F1 W1 H1 F' W' H2 ∧ F' Dd = none ∧ W' Dd = none ∧ H2 Dd = some (.lst av) ∧ RepL X.K F' av acc ∧ acc.length ≤ sizeLine ∧ PstO X.K ios B Wx σ F1 W1 H1 (bnd (compL asg cond fe vs (ds.drop (i + 1)) acc) (fun xs => ret (.l .sh, .lst xs)) E') Q, fun H2 q => ⟨ds.length - (i + 1), by omega, rfl, hlt, q⟩, fun x H2 hy => ?_⟩
    have ed : ds[i]? = some ds[i] := List.getElem?_eq_getElem hlt
    obtain ⟨F2, gr, rx⟩ := wl.yld i F' Hn x H2 _ st'.fx S'.fh hy ed
    have S2 := S'.grow gr
    have t2 := st'.trans (gr.stp W')
    obtain ⟨nF2, nW2, eD2⟩ := (gr.stp W').stays gr.fh rfl nF nW eD
    rw [List.drop_eq_getElem_cons hlt] at k
    unfold bnd compL at k
    cases q1 : asg ds[i] (wpe E' vs) with
    | none => simp only [q1] at k; exact k.elim
    | some E3 =>
      simp only [q1] at k
      refine rg B F2 W' _ E3 (wipe σ vs) H2 x _ _ S2 rx q1 fun σ3 W3 S3 t3 w3 => ⟨by rw [w3, ← wpe_wipe, ← wpe_wipe, wpe_wpe], ?_⟩
      have t3' := t2.trans t3
      obtain ⟨nF3, nW3, eD3⟩ := t3.stays S3.fh rfl nF2 nW2 eD2
      have w3' : wipe σ3 vs = wipe σ vs := by rw [w3, ← wpe_wipe, ← wpe_wipe, wpe_wpe]
      refine rt B F2 W3 E3 σ3 H2 _ S3 ?_
      cases q2 : cond E3 with
      | er z E4 => simp only [q2] at k; exact k.elim
      | stk => simp only [q2] at k; exact k.elim
      | ok b E4 =>
        intro F4 W4 H4 b' S4 t4 eb
        subst eb
        have t4' := t3'.trans t4
        obtain ⟨nF4, nW4, eD4⟩ := t4.stays S4.fh rfl nF3 nW3 eD3
        cases b' with
        | false =>
          simp only [q2] at k
          refine ⟨F4, W4, E4, acc, av, ?_, t4', nF4, nW4, eD4, RepL.mono (gr.fx.trans t4.fx) acc ra, za, k⟩
          have := S4.wiped hv
          rw [w3'] at this
          exact this
        | true =>
          simp only [q2] at k
          show te σ3 H4 _
          refine re B F4 W4 E4 σ3 H4 _ S4 ?_
          cases q3 : fe E4 with
          | er z E5 => simp only [q3] at k; exact k.elim
          | stk => simp only [q3] at k; exact k.elim
          | ok y E5 =>
            simp only [q3] at k
            intro F5 W5 H5 yv S5 t5 ry
            obtain ⟨nF5, nW5, eD5⟩ := t5.stays S5.fh rfl nF4 nW4 eD4
            by_cases hz : acc.length < sizeLine
            · rw [if_pos hz] at k
              have ra5 : RepL X.K F5 av acc := RepL.mono (gr.fx.trans (t4.fx.trans t5.fx)) acc ra
              refine ⟨av, eD5, by rw [ra.length]; exact hz, F5, W5, E5, acc ++ [y], av ++ [yv], ?_, (t4'.trans t5).over hD (tco_nxo eD5 rfl), nF5, nW5, upd_same, ra5.app (.cons ry .nil), by rw [List.length_append, List.length_singleton]; exact hz, k⟩
              have := (S5.wiped hv).over (p := Dd) (u := .lst (av ++ [yv])) nF5 nW5 dB (fun _ _ z => by cases z) (tco_nxo eD5 rfl)
              rw [w3'] at this
              exact this
            · rw [if_neg hz] at k; exact k.elim
  · have e : i = ds.length := by omega
    subst e
    rw [List.drop_length] at k
    refine .inl ⟨wl.stop _ F' Hn st'.fx S'.fh (Nat.le_refl _), ?_⟩
    refine k F' W' Hn (.ref Dd) (oneW Dd) S'.unwiped st' (fun a l z => ?_) (OwnT.lsh (oneW_self Dd) eD za ra)
    obtain ⟨rfl, _⟩ := oneW_of z
    exact ⟨hD, nW, nF, _, eD, rfl⟩
theorem po_lc (hc : X.calm = true) (hN : X.N.Nodup) (hi : PIt X ios Wx tg iter f) (ok : BlkOk X.N X.env.scope scope own) (hv : ∀ i ∈ own.map (·.2), ios.contains i = false) (hg : ∀ i, PTw (bx X scope i) ios (own.map (·.2)) tg asg) (ht : ∀ i, PCs (bx X scope i) ios W0x ifs cond) (he : ∀ i, PP (bx X scope i) ios W0x elt fe)
    (hs : ∀ x, foldedSetIterable iter X.env x = pure x := by intro _; rfl) : PO X ios Wx (.ListComp elt [⟨tg, iter, ifs, 0⟩] scope pos) (compM f asg cond fe (own.map (·.2))) := by
  obtain ⟨wi, pi, ri⟩ := hi.ex
  obtain ⟨g, pg, rg⟩ := uni_pg hg
  obtain ⟨tt, pt, rt⟩ := uni_pc ht
  obtain ⟨te, pe, re⟩ := uni_pe he
  exact ⟨_, pe_lc hc hN pi ok (fun s H C cl fp => pg (s, H, C, cl, fp)) (fun s H C cl fp => pt (s, H, C, cl, fp)) (fun s H C cl fp => pe (s, H, C, cl, fp)) hs, lc_reads hv ri rg rt re⟩
theorem pd_setLc {i : Nat} {y : Str} {py spos : Pos} (hc : X.calm = true) (hN : X.N.Nodup) (hy : X.N[i]? = some y) (hyl : X.env.scope.names.lookup y = some .local) (hio : ios.contains i = false) (hsw : swapsWith (.ListComp elt [⟨tg, iter, ifs, 0⟩] scope pos) (some (.Name y py)) spos.line X.env = pure true)
    (hi : PIt X ios Wx tg iter f) (ok : BlkOk X.N X.env.scope scope own) (hv : ∀ i ∈ own.map (·.2), ios.contains i = false) (hg : ∀ i, PTw (bx X scope i) ios (own.map (·.2)) tg asg) (ht : ∀ i, PCs (bx X scope i) ios W0x ifs cond) (he : ∀ i, PP (bx X scope i) ios W0x elt fe)
    (hs : ∀ x, foldedSetIterable iter X.env x = pure x := by intro _; rfl) : PD X ios Wx (.Assign [.Name y py] (.ListComp elt [⟨tg, iter, ifs, 0⟩] scope pos) spos) (setS i (compM f asg cond fe (own.map (·.2)))) := by
  obtain ⟨wi, pi, ri⟩ := hi.ex
  obtain ⟨g, pg, rg⟩ := uni_pg hg
  obtain ⟨tt, pt, rt⟩ := uni_pc ht
  obtain ⟨te, pe, re⟩ := uni_pe he
  refine ⟨_, ps_setLc hc hN hy hyl hsw pi ok (fun s H C cl fp => pg (s, H, C, cl, fp)) (fun s H C cl fp => pt (s, H, C, cl, fp)) (fun s H C cl fp => pe (s, H, C, cl, fp)) hs, fun B F W E σ H D S k => ?_⟩
  refine lc_reads (Wx := Wx) hv ri rg rt re B F W E σ H _ S (PstS.seqO k fun F1 W1 H1 v d E1 Wr S1 s1 fr rr k1 => ?_)
  exact k1 F1 _ H1 _ (S1.put hio (fun a l z => by
    obtain ⟨z1, z2⟩ := fr a l z
    exact ⟨S.st.back z1, z2⟩) rr) (Same.refl F1)
end
end Dl
namespace Dl
open PySem PySem.Spec PyProof.Rows L2
variable [Tbs]
def Keeps (n : Nat) (m : Fm) : Prop := ∀ ns : List Int, ns.length ≤ n → (∀ k ∈ ns, Builtin.Int.intBits k ≤ 1048576) → ∃ E, m [(.sh, .frl ns)] = .ok (.sh, .bl true) E
def lone (K : KF) (a : Addr) (o : Obj) (ns : List Int) : Hp := fun b => if b = a then (match K.lookup a with
  | some _ => none
  | none => some (.frz o (.lst (ns.map V.int)))) else none
theorem lone_of {K : KF} {a b : Addr} {o : Obj} {ns : List Int} {u : HO} (h : lone K a o ns b = some u) : b = a ∧ K.lookup a = none ∧ u = .frz o (.lst (ns.map V.int)) := by
  unfold lone at h
  by_cases c : b = a
  · rw [if_pos c] at h
    cases q : K.lookup a with
    | some x => rw [q] at h; cases h
    | none => rw [q] at h; cases h; exact ⟨c, rfl, rfl⟩
  · rw [if_neg c] at h; cases h
theorem lone_ne {K : KF} {a b : Addr} {o : Obj} {ns : List Int} (h : b ≠ a) : lone K a o ns b = none := if_neg h
end Dl
namespace Dl
open PySem PySem.Spec PyProof.Rows L2
variable [Tbs]
mutual
def repK : Nat → KF → Value → D → Bool
  | _, _, .none, .non => true
  | _, _, .bool b, .bl c => b == c
  | _, _, .int i _, .int j => decide (i = j)
  | _, _, .str x _, .str y => decide (x = y)
  | n + 1, K, .ref a, .tup ds => (match K.lookup a with
    | some ⟨.type "tuple", _, .seq its _, _⟩ => decide (ds.length ≤ sizeLine) && repKs n K its.toList ds
    | _ => false)
  | _, _, _, _ => false
def repKs : Nat → KF → List Value → List D → Bool
  | _, _, [], [] => true
  | n + 1, K, u :: us, d :: ds => repK n K u d && repKs n K us ds
  | _, _, _, _ => false
end
theorem andB {a b : Bool} (h : (a && b) = true) : a = true ∧ b = true := Bool.and_eq_true_iff.mp h
theorem repK_both {K : KF} : ∀ n : Nat, (∀ (u : Value) (d : D), repK n K u d = true → ∃ v, RelV v u ∧ ∀ F : Hp, Rep K F v d) ∧ (∀ (us : List Value) (ds : List D), repKs n K us ds = true → ∃ vs, Vals vs us ∧ ∀ F : Hp, RepL K F vs ds) := by
  intro n
  induction n with
  | zero =>
    constructor
    · intro u d h
      unfold repK at h
      split at h
      · exact ⟨.non, rfl, fun _ => .non⟩
      · rename_i b c
        have e : b = c := by simpa using h
        subst e
        exact ⟨.bl b, rfl, fun _ => .bl b⟩
      · have e := of_decide_eq_true h
        subst e
        exact ⟨.int _, ⟨_, rfl⟩, fun _ => .int _⟩
      · have e := of_decide_eq_true h
        subst e
        exact ⟨.str _, ⟨_, rfl⟩, fun _ => .str _⟩
      · rename_i z; cases z
      · cases h
    · intro us ds h
      unfold repKs at h
      split at h
      · exact ⟨[], .nil, fun _ => .nil⟩
      · rename_i z; cases z
      · cases h
  | succ n ih =>
    constructor
    · intro u d h
      unfold repK at h
      split at h
      · exact ⟨.non, rfl, fun _ => .non⟩
      · rename_i b c
        have e : b = c := by simpa using h
        subst e
        exact ⟨.bl b, rfl, fun _ => .bl b⟩
      · have e := of_decide_eq_true h
        subst e
        exact ⟨.int _, ⟨_, rfl⟩, fun _ => .int _⟩
      · have e := of_decide_eq_true h
        subst e
        exact ⟨.str _, ⟨_, rfl⟩, fun _ => .str _⟩
      · rename_i n' a ds z
        cases z
        split at h
        · rename_i dd its k sl q
          obtain ⟨h1, h2⟩ := andB h
          obtain ⟨vs, r1, r2⟩ := ih.2 _ _ h2
          have hl := (r2 (fun _ => none)).length
          have hv := r1.length
          have z := of_decide_eq_true h1
          refine ⟨.ref _, rfl, fun F => .tup (.inr ⟨_, its, k, q, rfl, rfl, ?_, r1⟩) z (r2 F)⟩
          rw [← Array.length_toList, ← hv, hl]; exact z
        · cases h
      · cases h
    · intro us ds h
      unfold repKs at h
      split at h
      · exact ⟨[], .nil, fun _ => .nil⟩
      · rename_i n' u us d ds z
        cases z
        obtain ⟨h1, h2⟩ := andB h
        obtain ⟨v, a1, a2⟩ := ih.1 _ _ h1
        obtain ⟨vs, b1, b2⟩ := ih.2 _ _ h2
        exact ⟨v :: vs, .cons a1 b1, fun F => .cons (a2 F) (b2 F)⟩
      · cases h
theorem repK_ok {K : KF} (n : Nat) (u : Value) (d : D) (h : repK n K u d = true) : ∃ v, RelV v u ∧ ∀ F : Hp, Rep K F v d := (repK_both n).1 u d h
def cstB (K : KF) (x : Str) (d : D) : Bool := match PySem.W.nsIn K mainGlobals x with
  | some (some u) => repK 8 K u d
  | _ => false
theorem cst_ok {K : KF} {h : Heap} {mg : Str → Option Value} {x : Str} {d : D} (X : K.In h) (G : h.Ns mainGlobals mg) (c : cstB K x d = true) : ∃ v u, mg x = some u ∧ RelV v u ∧ ∀ F : Hp, Rep K F v d := by
  unfold cstB at c
  split at c
  · rename_i u q
    obtain ⟨v, a, b⟩ := repK_ok 8 u d c
    exact ⟨v, u, PySem.W.mg_of X G q, a, b⟩
  · cases c
def oexC (K : KF) (C : Addr) : Bool := match K.lookup C with
  | some ⟨.type "type", _, .cls cd, sl⟩ => (match cd.mro, sl.toList with
    | .ref C' :: bm, [_, _, _, _, some (.builtin n), _] => C' == C && (n == "ValueError.__new__" && (cd.hasDict && (!cd.hasDel && PySem.HandSPX.refsVE bm)))
    | _, _ => false)
  | _ => false
def oexB (K : KF) (c : Str) : Bool := oexC K (He.ga K c) && (He.eqO (PySem.W.findIn K (.ref (He.ga K c)) "__setattr__") (some (some (.builtin "object.__setattr__"))) && (decide (PySem.W.subIn K (.ref (He.ga K c)) (.type "BaseException") = some true) &&
  (decide (PySem.W.typeIn K (.ref (He.ga K c)) = some (.type "type")) && PySem.W.keepIn K (.ref (He.ga K c)))))
theorem oexC_ok {K : KF} {C : Addr} (h : oexC K C = true) : ∃ nm q N bs bm sn sub ab col dd k0 k1 k2 k3 k5, K.lookup C = some (excClassObj nm q C N bs bm true sn sub ab col dd k0 k1 k2 k3 k5 "ValueError.__new__") ∧ PySem.HandSPX.refsVE bm = true := by
  unfold oexC at h
  split at h
  · rename_i dd cd sl q
    split at h
    · rename_i C' bm k0 k1 k2 k3 n k5 e1 e2
      obtain ⟨h1, h⟩ := andB h
      obtain ⟨h2, h⟩ := andB h
      obtain ⟨h3, h⟩ := andB h
      obtain ⟨h4, h5⟩ := andB h
      have c1 : C' = C := by simpa using h1
      have c2 : n = "ValueError.__new__" := by simpa using h2
      have c4 : cd.hasDel = false := by simpa using h4
      have c6 : sl = #[k0, k1, k2, k3, some (.builtin n), k5] := by
        apply Array.ext'
        exact e2
      subst c1 c2 c6
      obtain ⟨nm, bs, mro, ns, qn, hd, sn, sub, ab, col, hdel⟩ := cd
      simp only at e1 h3 c4
      subst e1 h3 c4
      exact ⟨nm, qn, ns, bs, bm, sn, sub, ab, col, dd, k0, k1, k2, k3, k5, q, h5⟩
    · cases h
  · cases h
theorem oexB_ok {K : KF} {c : Str} (h : oexB K c = true) : OexC K (He.ga K c) := by
  obtain ⟨h1, h⟩ := andB h
  obtain ⟨h2, h⟩ := andB h
  obtain ⟨h3, h⟩ := andB h
  obtain ⟨h4, h5⟩ := andB h
  exact ⟨oexC_ok h1, He.eqO_ok h2, of_decide_eq_true h3, of_decide_eq_true h4, h5⟩
def oxiB (K : KF) (c : Str) : Bool := He.eqO (PySem.W.findIn K (.ref (He.ga K c)) "__init__") (some (some (.ref (He.fAd K (c, some "__init__"))))) && decide (PySem.W.typeIn K (.ref (He.fAd K (c, some "__init__"))) = some (.type "function"))
theorem oxiB_ok {K : KF} {c : Str} (h : oxiB K c = true) : PySem.W.findIn K (.ref (He.ga K c)) "__init__" = some (some (.ref (He.fAd K (c, some "__init__")))) ∧ PySem.W.typeIn K (.ref (He.fAd K (c, some "__init__"))) = some (.type "function") := by
  obtain ⟨h1, h2⟩ := andB h
  exact ⟨He.eqO_ok h1, of_decide_eq_true h2⟩
def goes (o : Obj) : List Addr := match o.data with
  | .dict es _ => es.toList.flatMap fun e => He.refV e.val
  | .func fd => He.refV fd.code ++ He.refV fd.defaults ++ He.refV fd.kwdefaults
  | .cls cd => cd.ns :: cd.mro.flatMap He.refV
  | .seq its _ => its.toList.flatMap He.refV
  | _ => []
def lvs (g : Addr → Option Obj) : Nat → List Addr → List Addr
  | 0, _ => []
  | n + 1, as => as ++ lvs g n (as.flatMap fun a => match g a with
    | some o => goes o
    | none => [])
structure Md2 (fa : List He.Fa) (fn : List He.DefD) (ex : KF → Bool) (K : KF) (mg : Str → Option Value) : Prop where
  hp : ∃ h : Heap, K.In h ∧ h.Ns mainGlobals mg
  sd : He.SaysD fa fn K
  xt : ex K = true
end Dl
namespace Dl
open PySem PySem.Spec PyProof.Rows L2
variable [Tbs]
def ofSlot (W : Wm) (i : Nat) : Wm := fun a => match W a with
  | some (j :: p) => if j = i then some p else none
  | _ => none
def offSlot (W : Wm) (i : Nat) : Wm := fun a => match W a with
  | some (j :: p) => if j = i then none else some (j :: p)
  | o => o
theorem ofSlot_of {W : Wm} {i : Nat} {a : Addr} {p : Lab} (h : ofSlot W i a = some p) : W a = some (i :: p) := by
  unfold ofSlot at h
  split at h
  · rename_i j q e
    by_cases c : j = i
    · rw [if_pos c] at h; cases h; subst c; exact e
    · rw [if_neg c] at h; cases h
  · cases h
theorem ofSlot_at {W : Wm} {i : Nat} {a : Addr} {p : Lab} (h : W a = some (i :: p)) : ofSlot W i a = some p := by
  unfold ofSlot
  rw [h]
  exact if_pos rfl
theorem offSlot_of {W : Wm} {i : Nat} {a : Addr} {l : Lab} (h : offSlot W i a = some l) : W a = some l ∧ ∀ p, l ≠ i :: p := by
  unfold offSlot at h
  split at h
  · rename_i j q e
    by_cases c : j = i
    · rw [if_pos c] at h; cases h
    · rw [if_neg c] at h; cases h; exact ⟨e, fun p z => c (List.cons.inj z).1⟩
  · rename_i o e
    refine ⟨h, fun p z => ?_⟩
    subst z
    exact e i p h
theorem offSlot_at {W : Wm} {i : Nat} {a : Addr} {l : Lab} (h : W a = some l) (hn : ∀ p, l ≠ i :: p) : offSlot W i a = some l := by
  unfold offSlot
  split
  · rename_i j q e
    rw [h] at e
    cases e
    rw [if_neg (fun c => hn q (by rw [c]))]
  · exact h
theorem offSlot_no {W : Wm} {i : Nat} {a : Addr} {p : Lab} (h : W a = some (i :: p)) : offSlot W i a = none := by
  unfold offSlot
  rw [h]
  exact if_pos rfl
section
variable {K : KF} {ios : Ios} {B : Bs} {F : Hp} {W : Wm} {E : Nv} {σ : L2.St} {H : Hp} {i : Nat}
theorem St.off (S : St K ios B F W E σ H) (hi : ios.contains i = false) : St K ios B F (offSlot W i) (E.set i none) σ H where
  fh := S.fh
  st := by
    have s := S.st
    refine ⟨s.fx, s.fn, fun a l h => ?_, fun a l h => s.wn a l (offSlot_of h).1, s.hx, s.hd, s.fk, fun P q tw => (s.tb P q tw).w fun a l z => (S.ow a l (offSlot_of z).1).2⟩
    refine offSlot_at (s.wx a l h) fun p z => ?_
    subst z
    obtain ⟨j, q, e, hj⟩ := S.w0 a _ h
    cases e
    replace hi := Ios.no hi
    exact hi hj
  nz := S.nz
  ow := fun a l h => S.ow a l (offSlot_of h).1
  fr := fun a l h => S.fr a l (offSlot_of h).1
  w0 := S.w0
  vr := fun j t d h => by
    rw [List.getElem?_set] at h
    by_cases c : i = j
    · rw [if_pos c] at h
      split at h <;> cases h
    · rw [if_neg c] at h
      obtain ⟨v, h1, h2⟩ := S.vr j t d h
      exact ⟨v, h1, OwnT.keepAt (p := [j]) (q := []) (Same.refl F) (fun a q z => offSlot_at z fun p y => c (List.cons.inj y).1.symm) (fun _ _ _ _ z => z) h2⟩
  pn := S.pn
  ln := by rw [List.length_set]; exact S.ln
  xo := S.xo
theorem St.freshSlot (S : St K ios B F W E σ H) (hi : ios.contains i = false) : Fresh (ofSlot W i) B.H0 F (offSlot W i) H := fun a p z => by
  have z1 := ofSlot_of z
  obtain ⟨h1, h2⟩ := S.ow a _ z1
  obtain ⟨j, q, e, hj⟩ := S.fr a _ z1
  cases e
  refine ⟨?_, offSlot_no z1, h1, h2⟩
  rcases hj with hj | hj
  · replace hi := Ios.no hi
    exact absurd hj hi
  · exact hj
end
def frzS (i : Nat) (g : G) : G := fun E => match E[i]? with
  | some (some (_, d)) => g (E.set i (some (.sh, d)))
  | _ => g E
section
variable {X : Cx} {ios : Ios} {Wx : WX} {pos npos : Pos} {x : Str} {sts : List Stmt} {g : G}
theorem pds_frz (i : Nat) (hio : ios.contains i = false) (h : PDs X ios Wx sts g) : PDs X ios Wx sts (frzS i g) := by
  obtain ⟨t, p, r⟩ := h.ex
  refine ⟨_, pss_lk p, fun B F W E σ H Dn S k => ?_⟩
  have plain : t Dn σ H → ∃ p : Addr → Bool, ∀ ob, t Dn σ (lkH p ob H) := fun h => ⟨fun _ => false, fun ob => by
    rw [show lkH (fun _ => false) ob H = H from funext fun a => lkH_off rfl]; exact h⟩
  unfold frzS at k
  cases q : E[i]? with
  | none => simp only [q] at k; exact plain (r B F W E σ H Dn S k)
  | some o =>
    cases o with
    | none => simp only [q] at k; exact plain (r B F W E σ H Dn S k)
    | some pr =>
      simp only [q] at k
      obtain ⟨t0, d⟩ := pr
      obtain ⟨v, h1, h2⟩ := S.vr i t0 d q
      have fr := S.freshSlot hio
      have S1 := S.off hio
      have h3 : OwnT X.K F H (ofSlot W i) t0 [] v d := OwnT.relab (p := [i]) (p' := []) (q := []) (fun a q z => ofSlot_at z) h2
      refine ⟨lkP (ofSlot W i), fun ob => ?_⟩
      have fr' := fr.lk (p := lkP (ofSlot W i)) (ob := ob)
      have S1' := S1.lk (p := lkP (ofSlot W i)) (ob := ob) fun a z => by
        obtain ⟨l, hl⟩ := lkP_of z
        exact ⟨(fr a l hl).2.2.1, (fr a l hl).2.1, (fr a l hl).1⟩
      have S2 : Dl.St X.K ios B (frz F (ofSlot W i) (lkH (lkP (ofSlot W i)) ob H)) (offSlot W i) (E.set i none) σ (lkH (lkP (ofSlot W i)) ob H) := frz_st (Stp.refl _ _ _) S1' fr'
      have r2 : Rep X.K (frz F (ofSlot W i) (lkH (lkP (ofSlot W i)) ob H)) v d := frz_rep fr' h3
      refine r B _ (offSlot W i) (E.set i (some (.sh, d))) σ _ Dn ⟨S2.fh, S2.st, S2.nz, S2.ow, S2.fr, S2.w0, fun j t d' hj => ?_, S2.pn, by rw [List.length_set]; exact S.ln, S2.xo⟩ (PstS.from (frz_same fr') k)
      rw [List.getElem?_set] at hj
      by_cases c : i = j
      · subst c
        rw [if_pos rfl] at hj
        split at hj
        · cases hj; exact ⟨v, h1, r2⟩
        · cases hj
      · rw [if_neg c] at hj
        exact S2.vr j t d' (by rw [List.getElem?_set, if_neg c]; exact hj)
end
def opM (g : D → D → Option D) (fa fb : M D) : M D := bnd fa fun x => bnd fb fun y => ofO (g x y)
def cmB (g : D → D → Option D) (fa fb : M D) : M Bool := bnd fa fun x => bnd fb fun y => ofO ((g x y).bind toB)
def chM (g g' : D → D → Option D) (fa fb fc : M D) : M D := bnd fa fun x => bnd fb fun y => bnd (ofO ((g x y).bind toB)) fun k => if k = true then bnd fc fun z => ofO (g' y z) else ret (.bl false)
def chB (g g' : D → D → Option D) (fa fb fc : M D) : M Bool := bnd fa fun x => bnd fb fun y => bnd (ofO ((g x y).bind toB)) fun k => if k = true then bnd fc fun z => ofO ((g' y z).bind toB) else ret false
def unM (g : D → Option D) (fa : M D) : M D := bnd fa fun x => ofO (g x)
def tupM (fs : M (List D)) : M D := bnd fs fun xs => if small xs.length = true then ret (.tup xs) else stuck
def lstM (fs : M (List D)) : M D := bnd fs fun xs => if small xs.length = true then ret (.lst xs) else stuck
def conM (fa : M D) (fs : M (List D)) : M (List D) := bnd fa fun x => bnd fs fun xs => ret (x :: xs)
def ioM (i : Nat) (fs : M (List D)) : M (List D) := fun E => match E[i]? with
  | some (some _) => fs E
  | _ => .stk
def slM (fa : M D) (fl fh : M (Option Int)) : M D := bnd fa fun x => bnd fl fun l => bnd fh fun u => ofO (sliceD x l u)
def ixp (fa : M D) : M (Option Int) := bnd fa fun d => bnd (ofO (asI d)) fun i => ret (some i)
def cbM (g : List D → Option D) (fs : M (List D)) : M D := bnd fs fun xs => ofO (g xs)
def calM (m : Fm) (md : Md) (dds : List D) (fs : M (List D)) : M Ent := bnd fs fun ds => callM m (md ++ dds.map fun _ => none) (ds ++ dds)
def mkM (m : Fm) (c : Str) (md : Md) (dds : List D) (fs : M (List D)) : M Ent := bnd fs fun ds => makeM m c (md ++ dds.map fun _ => none) (ds ++ dds)
def seqI (f : M D) : M (List D) := bnd f fun d => ofO (seqOf d)
def enI (fs : M (List D)) : M (List D) := bnd fs fun ds => ofO (enumOf ds)
def rg1 (fs : M (List D)) : M (List D) := bnd fs fun ds => ofO (rng1Of ds)
def rg2 (fs : M (List D)) : M (List D) := bnd fs fun ds => ofO (rng2Of ds)
section
variable {fa : List He.Fa} {fn : List He.DefD} {ex : List (KF → Bool)} {K : KF} {mg : Str → Option Value}
abbrev Md3 (fa : List He.Fa) (fn : List He.DefD) (ex : List (KF → Bool)) (K : KF) (mg : Str → Option Value) : Prop := Md2 fa fn (fun K => ex.all fun f => f K) K mg
theorem Md2.glo (o : Md3 fa fn ex K mg) (i : Nat) {x : Str} (h : fa[i]? = some (.glo x) := by rfl) : mg x = some (.ref (He.ga K x)) := by
  obtain ⟨hp, a, b⟩ := o.hp
  exact He.glo_ok a b (o.sd.fact i h)
theorem Md2.free (o : Md3 fa fn ex K mg) (i : Nat) {x : Str} (h : fa[i]? = some (.free x) := by rfl) : mg x = none := by
  obtain ⟨hp, a, b⟩ := o.hp
  exact He.free_ok a b (o.sd.fact i h)
theorem Md2.x (o : Md3 fa fn ex K mg) (i : Nat) {f : KF → Bool} (h : ex[i]? = some f := by rfl) : f K = true := List.all_eq_true.mp o.xt f (List.mem_of_getElem? h)
theorem Md2.cst (o : Md3 fa fn ex K mg) {x : Str} {d : D} (h : cstB K x d = true) : ∃ v u, mg x = some u ∧ RelV v u ∧ ∀ F : Hp, Rep K F v d := by
  obtain ⟨hp, a, b⟩ := o.hp
  exact cst_ok a b h
end
end Dl
namespace Dl
open PySem PySem.Spec PyProof.Rows L2
end Dl
namespace Dl
theorem room65 {k : Nat} {A : PySem.Around} (hr : L2.Room k A) : A.units + 65 < PySem.cLine := by
  have := hr.un
  omega
end Dl
namespace Dl
open PySem PySem.Spec PyProof.Rows L2
variable [Tbs]
section
variable {K : KF} {ios : Ios} {B : Bs} {F : Hp} {W : Wm} {E : Nv} {σ : L2.St} {H : Hp} {i : Nat}
structure Two (K : KF) (F H : Hp) (W : Wm) (i : Nat) (o : Addr) (vs : List V) (dss : List D) : Prop where
  w : W o = some [i]
  h : H o = some (.lst vs)
  z : dss.length ≤ sizeLine
  ln : vs.length = dss.length
  at' : ∀ (j : Nat) v' d', vs[j]? = some v' → dss[j]? = some d' → OwnT K F H W (.l .sh) [i, j] v' d'
theorem Two.row {o : Addr} {vs : List V} {dss : List D} (T : Two K F H W i o vs dss) {n : Nat} {ds : List D} (h : dss[n]? = some (.lst ds)) : ∃ p ws, vs[n]? = some (.ref p) ∧ W p = some [i, n] ∧ H p = some (.lst ws) ∧ ds.length ≤ sizeLine ∧ RepL K F ws ds := by
  have hn : n < vs.length := by rw [T.ln]; exact (List.getElem?_eq_some_iff.mp h).1
  have e := List.getElem?_eq_getElem hn
  obtain ⟨p, ws, ds', e1, e2, w, hp, z, r⟩ := (T.at' n _ _ e h).lshE
  cases e2
  exact ⟨p, ws, by rw [e, e1], w, hp, z, r⟩
variable {F2 H2 : Hp} {W2 : Wm} {E2 : Nv}
end
end Dl
namespace Dl
open PySem PySem.Spec PyProof.Rows L2
variable [Tbs]
def OwnL (K : KF) (F H : Hp) (Wr : Wm) (vs : List V) (ps : List Ent) : Prop := vs.length = ps.length ∧ ∀ (j : Nat) v t d, vs[j]? = some v → ps[j]? = some (t, d) → OwnT K F H Wr t [j] v d
theorem Fresh.stays {Wr W W' W2 : Wm} {H0 F F2 H H2 : Hp} (fr : Fresh Wr H0 F W H) (t : Stp F W H F2 W2 H2) (fh : Same F2 H2) : Fresh Wr H0 F2 W2 H2 ∧ ∀ a l u, Wr a = some l → H a = some u → H2 a = some u := by
  refine ⟨fun a l z => ?_, fun a l u z h => ?_⟩
  · obtain ⟨z1, z2, z3, u, z4, z5⟩ := fr a l z
    obtain ⟨y1, y2, y3⟩ := t.stays fh z5 z3 z2 z4
    exact ⟨z1, y2, y1, u, y3, z5⟩
  · obtain ⟨z1, z2, z3, o', z4, z5⟩ := fr a l z
    rw [h] at z4
    cases z4
    exact (t.stays fh z5 z3 z2 h).2.2
def consW (A R : Wm) : Wm := fun a => match A a with
  | some p => some (0 :: p)
  | none => (match R a with
    | some (j :: p) => some ((j + 1) :: p)
    | _ => none)
theorem consW_a {A R : Wm} {a : Addr} {p : Lab} (h : A a = some p) : consW A R a = some (0 :: p) := by unfold consW; rw [h]
theorem consW_r {A R : Wm} {a : Addr} {j : Nat} {p : Lab} (h : A a = none) (h2 : R a = some (j :: p)) : consW A R a = some ((j + 1) :: p) := by unfold consW; rw [h, h2]
theorem consW_of {A R : Wm} {a : Addr} {l : Lab} (h : consW A R a = some l) : (∃ p, A a = some p) ∨ ∃ m, R a = some m := by
  unfold consW at h
  cases q : A a with
  | some p => exact .inl ⟨p, rfl⟩
  | none =>
    rw [q] at h
    cases q2 : R a with
    | none => simp only [q2] at h; cases h
    | some m => exact .inr ⟨m, rfl⟩
def PstLo (K : KF) (ios : Ios) (B : Bs) (Wx : WX) (σ : L2.St) (F : Hp) (W : Wm) (H : Hp) (r : Rs (List Ent)) (Q : List V → Hp → Prop) : Prop :=
  match r with
  | .ok ps E' => ∀ F' W' H' vs Wr, St K ios B F' W' E' σ H' → Stp F W H F' W' H' → Fresh Wr H F' W' H' → OwnL K F' H' Wr vs ps → Q vs H'
  | .er x E' => ∀ F' W' H' c dx, St K ios B F' W' E' σ H' → Stp F W H F' W' H' → XRep K F' H' x c dx → Wx c dx σ H'
  | .stk => False
structure PLo (X : Cx) (ios : Ios) (Wx : WX) (es : List Expr) (f : M (List Ent)) : Prop where
  ex : ∃ t : TA, PA X es t ∧ ∀ B F W E σ H Q, St X.K ios B F W E σ H → PstLo X.K ios B Wx σ F W H (f E) Q → t σ H Q
def conO (fa : M Ent) (fs : M (List Ent)) : M (List Ent) := fun E => match fa E with
  | .ok p E1 => (match fs E1 with
    | .ok ps E2 => .ok (p :: ps) E2
    | _ => .stk)
  | _ => .stk
def allO (t : Ow) (ps : List Ent) : Bool := ps.all fun p => decide (p.1 = t)
theorem OwnL.list {K : KF} {F H : Hp} {Wr : Wm} {vs : List V} {ps : List Ent} {t : Ow} {p : Addr} (h : OwnL K F H Wr vs ps) (ha : allO t ps = true) (hz : ps.length ≤ sizeLine) (hn : Wr p = none) (hp : H p = some (.lst vs)) :
    OwnT K F H (fun a => if a = p then some [] else Wr a) (.l t) [] (.ref p) (.lst (ps.map (·.2))) := by
  refine ⟨p, vs, _, rfl, rfl, if_pos rfl, hp, by rw [List.length_map]; exact hz, by rw [List.length_map]; exact h.1, fun j v d e1 e2 => ?_⟩
  rw [List.getElem?_map] at e2
  cases q : ps[j]? with
  | none => rw [q] at e2; cases e2
  | some pr =>
    obtain ⟨t', d'⟩ := pr
    rw [q] at e2
    cases e2
    have et : t' = t := of_decide_eq_true (List.all_eq_true.mp ha _ (List.mem_of_getElem? q))
    subst et
    exact OwnT.relab (p := [j]) (p' := [j]) (q := []) (fun a q z => by
      show (if a = p then some [] else Wr a) = _
      rw [if_neg (fun c => by subst c; rw [hn] at z; cases z)]
      exact z) (h.2 j v t' _ e1 q)
section
variable {X : Cx} {ios : Ios} {Wx : WX} {e : Expr} {es : List Expr} {fa : M Ent} {fs : M (List Ent)} {pos : Pos} {t : Ow}
theorem plo_nil : PLo X ios Wx [] (Dl.ret []) := ⟨_, pa_nil, fun B F W E σ H Q S h => h F W H [] noW S (Stp.refl _ _ _) Fresh.no ⟨rfl, fun j v t d e1 e2 => by simp at e1⟩⟩
theorem plo_cons (ha : PO X ios Wx e fa) (hr : PLo X ios Wx es fs) (hs : starEach (e :: es) X.env = (false, eval e X.env) :: starEach es X.env := by rfl) : PLo X ios Wx (e :: es) (conO fa fs) := by
  obtain ⟨ta, pa, ra⟩ := ha.ex
  obtain ⟨tr, pr, rr⟩ := hr.ex
  refine ⟨_, pa_cons pa pr hs, fun B F W E σ H Q S h => ?_⟩
  unfold conO at h
  refine ra B F W E σ H _ S ?_
  cases q1 : fa E with
  | er x E' => simp only [q1] at h; exact h.elim
  | stk => simp only [q1] at h; exact h.elim
  | ok p E1 =>
    simp only [q1] at h
    intro F1 W1 H1 v Wa S1 t1 f1 r1
    refine rr B F1 W1 E1 σ H1 _ S1 ?_
    cases q2 : fs E1 with
    | er x E' => simp only [q2] at h; exact h.elim
    | stk => simp only [q2] at h; exact h.elim
    | ok ps E2 =>
      simp only [q2] at h
      intro F2 W2 H2 vs Wb S2 t2 f2 r2
      obtain ⟨g1, g2⟩ := f1.stays (W' := W1) t2 S2.fh
      have apart : ∀ a m, Wb a = some m → Wa a = none := fun a m z => by
        cases q : Wa a with
        | none => rfl
        | some l =>
          obtain ⟨_, _, _, u, hu, _⟩ := f1 a l q
          rw [(f2 a m z).1] at hu
          cases hu
      refine h F2 W2 H2 (v :: vs) (consW Wa Wb) S2 (t1.trans t2) (fun a l z => ?_) ⟨by rw [List.length_cons, List.length_cons, r2.1], fun j v' t d e1 e2 => ?_⟩
      · rcases consW_of z with ⟨q, z⟩ | ⟨q, z⟩
        · exact g1 a q z
        · obtain ⟨y1, y2⟩ := f2 a q z
          exact ⟨t1.back y1, y2⟩
      · cases j with
        | zero =>
          cases (show some v = some v' from e1)
          cases (show some p = some (t, d) from e2)
          have r1' : OwnT X.K F2 H2 Wa t [] v d := r1.keep t2.fx (fun _ _ z => z) (fun a l o z hz => g2 a l o z hz)
          exact OwnT.relab (p := []) (p' := [0]) (q := []) (fun a q z => consW_a z) r1'
        | succ j =>
          exact OwnT.relab (p := [j]) (p' := [j + 1]) (q := []) (fun a q z => consW_r (apart a _ z) z) (r2.2 j v' t d (by simpa using e1) (by simpa using e2))
end
theorem OwnL.nil {K : KF} {F H : Hp} : OwnL K F H noW [] [] := ⟨rfl, fun j v t d e1 e2 => by simp at e1⟩
end Dl
namespace Dl
open PySem PySem.Spec PyProof.Rows L2
end Dl
namespace Dl
open PySem PySem.Spec PyProof.Rows L2
end Dl
namespace Dl
open PySem PySem.Spec PyProof.Rows L2
variable [Tbs]
def headW (R : Wm) : Wm := fun a => match R a with
  | some (0 :: p) => some p
  | _ => none
def tailW (R : Wm) : Wm := fun a => match R a with
  | some ((j + 1) :: p) => some (j :: p)
  | _ => none
theorem headW_of {R : Wm} {a : Addr} {p : Lab} (h : headW R a = some p) : R a = some (0 :: p) := by
  unfold headW at h
  split at h
  · rename_i q e; cases h; exact e
  · cases h
theorem headW_at {R : Wm} {a : Addr} {p : Lab} (h : R a = some (0 :: p)) : headW R a = some p := by unfold headW; rw [h]; rfl
theorem tailW_of {R : Wm} {a : Addr} {l : Lab} (h : tailW R a = some l) : ∃ j p, l = j :: p ∧ R a = some ((j + 1) :: p) := by
  unfold tailW at h
  split at h
  · rename_i j p e; cases h; exact ⟨j, p, rfl, e⟩
  · cases h
theorem tailW_at {R : Wm} {a : Addr} {j : Nat} {p : Lab} (h : R a = some ((j + 1) :: p)) : tailW R a = some (j :: p) := by unfold tailW; rw [h]
def setO : List Nat → List Ent → Nv → Option Nv
  | [], [], E => some E
  | i :: is, p :: ps, E => setO is ps (E.set i (some p))
  | _, _, _ => none
section
variable {X : Cx} {ios : Ios} {Wx : WX} {a b c e tg : Expr} {es tgs : List Expr} {pos : Pos} {is : List Nat}
def asgO (is : List Nat) (f : M (List Ent)) : G := fun E => match f E with
  | .ok ps E1 => if ps.length = is.length ∧ small ps.length = true then (match setO is ps E1 with
    | some E' => .nx E'
    | none => .stk) else .stk
  | _ => .stk
theorem pd_parO {i j : Nat} {x y : Str} {px py pt : Pos} {kt k2 pt2} {spos : Pos} {f : M (List Ent)} (hc : X.calm = true) (hN : X.N.Nodup) (hi : X.N[i]? = some x) (hj : X.N[j]? = some y) (hij : i ≠ j)
    (hx : X.env.scope.names.lookup x = some .local) (hy : X.env.scope.names.lookup y = some .local) (hio : ios.contains i = false) (hjo : ios.contains j = false) (ha : PLo X ios Wx [a, b] f)
    (hw : swappedStores [.Tuple [.Name x px, .Name y py] kt pt] (.Tuple [a, b] k2 pt2) X.env = pure (some [x, y]))
    (hs : swapsWithSole [.Tuple [.Name x px, .Name y py] kt pt] (.Tuple [a, b] k2 pt2) spos.line X.env = pure false := by rfl) :
    PD X ios Wx (.Assign [.Tuple [.Name x px, .Name y py] kt pt] (.Tuple [a, b] k2 pt2) spos) (asgO [i, j] f) := by
  obtain ⟨t, p, r⟩ := ha.ex
  refine ⟨_, ps_par hc hN hi hj hij hx hy p hw hs, fun B F W E σ H D S k => ?_⟩
  refine r B F W E σ H _ S ?_
  unfold asgO at k
  cases q : f E with
  | er x E' => simp only [q] at k; exact k.elim
  | stk => simp only [q] at k; exact k.elim
  | ok ps E1 =>
    simp only [q] at k
    intro F1 W1 H1 vs Wr S1 t1 f1 r1
    by_cases c : ps.length = [i, j].length ∧ small ps.length = true
    · rw [if_pos c] at k
      match ps, c.1, r1, k with
      | [p1, p2], _, r1, k =>
        match vs, r1.1 with
        | [v1, v2], _ =>
          have fr0 : Fresh Wr B.H0 F1 W1 H1 := fun a l z => by
            obtain ⟨z1, z2⟩ := f1 a l z
            exact ⟨S.st.back z1, z2⟩
          have S2 := S1.put (i := i) (v := v1) (p := p1) (Wr := headW Wr) hio (fun a l z => fr0 a _ (headW_of z)) (OwnT.relab (p := [0]) (p' := []) (q := []) (fun a q z => headW_at z) (r1.2 0 v1 p1.1 p1.2 rfl rfl))
          have S3 := S2.put (i := j) (v := v2) (p := p2) (Wr := headW (tailW Wr)) hjo (fun a l z => by
            obtain ⟨j', q, e, z2⟩ := tailW_of (headW_of z)
            cases e
            obtain ⟨y1, y2, y3, y4⟩ := fr0 a _ z2
            refine ⟨y1, ?_, y3, y4⟩
            unfold putW headW
            rw [z2]
            exact y2) (OwnT.relab (p := [1]) (p' := []) (q := []) (fun a q z => headW_at (tailW_at z)) (r1.2 1 v2 p2.1 p2.2 rfl rfl))
          exact ⟨v1, v2, rfl, k F1 _ H1 _ S3 t1.fx⟩
    · rw [if_neg c] at k; exact k.elim
end
end Dl
namespace Dl
open PySem PySem.Spec PyProof.Rows L2
end Dl
namespace Dl
open PySem PySem.Spec PyProof.Rows L2
end Dl
namespace Dl
open PySem PySem.Spec PyProof.Rows L2
variable [Tbs]
theorem rd_off {F G : Hp} {a : Addr} {u : HO} (e : ∀ a o, F a = some o → nxd o = true → G a = some o) (hu : nxd u = true) (h : Rd F a u) : Rd G a u := by
  rcases h with h | ⟨o, h⟩
  · exact .inl (e _ _ h hu)
  · exact .inr ⟨o, e _ _ h rfl⟩
theorem sqT_off {K : KF} {F G : Hp} {a : Addr} {xs : List V} (e : ∀ a o, F a = some o → nxd o = true → G a = some o) (h : SqT K F a xs) : SqT K G a xs := by
  rcases h with h | h
  · exact .inl (rd_off e rfl h)
  · exact .inr h
theorem sqL_off {K : KF} {F G : Hp} {a : Addr} {xs : List V} (e : ∀ a o, F a = some o → nxd o = true → G a = some o) (h : SqL K F a xs) : SqL K G a xs := by
  rcases h with h | h
  · exact .inl (rd_off e rfl h)
  · exact .inr h
mutual
theorem Rep.off {K : KF} {F G : Hp} (e : ∀ a o, F a = some o → nxd o = true → G a = some o) : ∀ {v : V} (d : D), Rep K F v d → Rep K G v d
  | _, .non, h => by cases h; exact .non
  | _, .bl b, h => by cases h; exact .bl b
  | _, .int i, h => by cases h; exact .int i
  | _, .str x, h => by cases h; exact .str x
  | _, .ty n, h => by cases h; exact .ty n
  | _, .cl c, h => by cases h; exact .cl c
  | _, .frl ns, h => by
    cases h with
    | frl s z => exact .frl (sqL_off e s) z
  | _, .lst ds, h => by
    cases h with
    | lst s z r => exact .lst (e _ _ s rfl) z (RepL.off e ds r)
  | _, .tup ds, h => by
    cases h with
    | tup s z r => exact .tup (sqT_off e s) z (RepL.off e ds r)
  | _, .dct ks ds, h => by
    cases h with
    | dk s k r => exact .dk (e _ _ s rfl) k (RepL.off e ds r)
    | dt s k r => exact .dt (e _ _ s rfl) k (RepL.off e ds r)
  | _, .ins c ns ds, h => by
    cases h with
    | ins s k n r => exact .ins (e _ _ s rfl) k n (RepL.off e ds r)
theorem RepL.off {K : KF} {F G : Hp} (e : ∀ a o, F a = some o → nxd o = true → G a = some o) : ∀ {vs : List V} (ds : List D), RepL K F vs ds → RepL K G vs ds
  | _, [], h => by cases h; exact .nil
  | _, d :: ds, h => by
    cases h with
    | cons h1 h2 => exact .cons (Rep.off e d h1) (RepL.off e ds h2)
end
def ndH (G : Hp) : Hp := fun a => (G a).bind fun o => if nxd o = true then some o else none
theorem ndH_some {G : Hp} {a : Addr} {o : HO} (h : G a = some o) (n : nxd o = true) : ndH G a = some o := by
  show (G a).bind _ = _
  rw [h]
  exact if_pos n
theorem ndH_reg {F G G' H : Hp} {W : Wm} {lab : Lab} (e : ∀ a o, F a = some o → nxd o = true → G a = some o) (r : RegH F H W lab G') : RegH G H W lab (ndH G') := fun a o z => by
  obtain ⟨u, h1, h2⟩ := Option.bind_eq_some_iff.mp (show (G' a).bind _ = some o from z)
  by_cases c : nxd u = true
  · rw [if_pos c] at h2
    cases h2
    exact (r a _ h1).imp (fun y => e _ _ y c) id
  · rw [if_neg c] at h2; cases h2
theorem OwnT.off {K : KF} {F G H : Hp} {W : Wm} (e : ∀ a o, F a = some o → nxd o = true → G a = some o) : ∀ {t : Ow} {lab : Lab} {v : V} {d : D}, OwnT K F H W t lab v d → OwnT K G H W t lab v d
  | .sh, _, _, d, h => Rep.off e d h
  | .g, _, _, d, ⟨G', r, h⟩ => ⟨ndH G', ndH_reg e r, Rep.off (fun a o z n => ndH_some z n) d h⟩
  | .l t, lab, v, d, h => by
    obtain ⟨o, vs, ds, e1, e2, w, ho, z, ln, r⟩ := h
    exact ⟨o, vs, ds, e1, e2, w, ho, z, ln, fun j v' d' a b => OwnT.off e (r j v' d' a b)⟩
  | .m t, lab, v, d, h => by
    rcases h with ⟨o, vs, ds, e1, e2, w, ho, z, ln, r⟩ | ⟨n, r⟩
    · exact .inl ⟨o, vs, ds, e1, e2, w, ho, z, ln, fun j v' d' a b => OwnT.off e (r j v' d' a b)⟩
    · exact .inr ⟨n, Rep.off e d r⟩
  | .r bs, lab, v, d, h => by
    obtain ⟨o, vs, ds, e1, e2, w, ho, z, ln, lb, r⟩ := h
    refine ⟨o, vs, ds, e1, e2, w, ho, z, ln, lb, fun j v' d' t a b c => ?_⟩
    have h1 := r j v' d' t a b c
    cases t with
    | true =>
      obtain ⟨p, ws, es, e3, e4, w2, hp, z2, r2⟩ := h1
      exact ⟨p, ws, es, e3, e4, w2, hp, z2, RepL.off e _ r2⟩
    | false => exact Rep.off e d' h1
  | .d b t, lab, v, d, h => by
    obtain ⟨o, vs, ks, ds, e1, e2, w, ho, ln, r⟩ := h
    exact ⟨o, vs, ks, ds, e1, e2, w, ho, ln, fun j v' d' a b => OwnT.off e (r j v' d' a b)⟩
  | .o, lab, v, d, h => by
    obtain ⟨x, C, dx, fs, c, ns, ds, e1, e2, w, ho, k, n, z, r⟩ := h
    exact ⟨x, C, dx, fs, c, ns, ds, e1, e2, w, ho, k, n, z, RepL.off e _ r⟩
def updX (F : Hp) : Option (Addr × List (Str × V)) → Hp
  | none => F
  | some (d, fs) => upd F d (.xd fs)
def outX (F F3 : Hp) : Option (Addr × List (Str × V)) → Hp
  | none => F3
  | some (d, _) => fun b => if b = d then F b else F3 b
def knX (K : KF) (y : Xn) (dx : Option Addr) (F : Hp) : Prop := (y.ns = [] ∧ y.vs = []) ∨ ∃ d fs, dx = some d ∧ F d = some (.xd fs) ∧ fs.map (·.1) = y.ns ∧ RepL K F (fs.map (·.2)) y.vs
def xios (K : KF) (ios : Ios) (i : Nat) (a : Addr) (dx : Option Addr) (y : Xn) : Ios :=
  ⟨i :: ios.l, fun pn F => pn i = some (.ref a) ∧ knX K y dx F, fun {pn F F'} e h => ⟨h.1, by
    rcases h.2 with h | ⟨d, fs, h1, h2, h3, h4⟩
    · exact .inl h
    · exact .inr ⟨d, fs, h1, e _ _ h2, h3, h4.mono e _⟩⟩⟩
def setPn (pn : Nat → Option V) (i : Nat) (v : V) : Nat → Option V := fun j => if j = i then some v else pn j
section
variable {K : KF} {ios : Ios} {B : Bs} {F : Hp} {W : Wm} {E : Nv} {σ : L2.St} {H : Hp} {A : Option (Addr × List (Str × V))} {i : Nat} {a : Addr} {dx : Option Addr} {y : Xn}
def AtX (H : Hp) : Option (Addr × List (Str × V)) → Prop
  | none => True
  | some (d, fs) => H d = some (.xd fs)
theorem updX_same (hA : AtX H A) (fh : Same F H) : Same F (updX F A) := by
  cases A with
  | none => exact Same.refl F
  | some p =>
    obtain ⟨d, fs⟩ := p
    intro b o h
    show upd F d (.xd fs) b = some o
    by_cases c : b = d
    · subst c
      have h1 := fh _ _ h
      rw [show H b = some (.xd fs) from hA] at h1
      cases h1
      exact upd_same
    · rw [upd_ne c]; exact h
theorem updX_of {b : Addr} {o : HO} (h : updX F A b = some o) : F b = some o ∨ ∃ d fs, A = some (d, fs) ∧ b = d ∧ o = .xd fs := by
  cases A with
  | none => exact .inl h
  | some p =>
    obtain ⟨d, fs⟩ := p
    have h' : upd F d (.xd fs) b = some o := h
    by_cases c : b = d
    · subst c
      rw [upd_same] at h'
      cases h'
      exact .inr ⟨_, _, rfl, rfl, rfl⟩
    · rw [upd_ne c] at h'; exact .inl h'
theorem St.enter (S : St K ios B F W E σ H) (hi : ios.contains i = false) (hl : i < σ.length) (hA : AtX H A) (kn : knX K y dx (updX F A)) :
    St K (xios K ios i a dx y) ⟨setPn B.pn i (.ref a), updX F A, B.W0, B.H0⟩ (updX F A) W (E.set i none) (σ.set i (some (.ref a))) H where
  fh := fun b o h => by
    rcases updX_of h with h | ⟨d, fs, e1, e2, e3⟩
    · exact S.fh _ _ h
    · subst e1 e2 e3; exact hA
  st := by
    have s := S.st
    refine ⟨Same.refl _, fun b o h _ => .inl h, s.wx, s.wn, s.hx, s.hd, fun b o f _ => ?_, fun P q tw => ?_⟩
    · rcases updX_of f with h | ⟨d, fs, e1, e2, e3⟩
      · exact S.fh _ _ h
      · subst e1 e2 e3; exact hA
    · have f0 : B.F0 P = none := by
        cases e : B.F0 P with
        | none => rfl
        | some o =>
          have := updX_same hA S.fh _ _ (s.fx _ _ e)
          rw [show updX F A P = none from tw.1] at this
          cases this
      obtain ⟨g1, g2⟩ := s.tb P q ⟨f0, tw.2⟩
      exact ⟨tw.1, g2⟩
  nz := S.nz
  ow := fun b l h => by
    obtain ⟨h1, o, h2, h3⟩ := S.ow b l h
    refine ⟨?_, o, h2, h3⟩
    cases q : updX F A b with
    | none => rfl
    | some u =>
      rcases updX_of q with q | ⟨d, fs, e1, e2, e3⟩
      · rw [h1] at q; cases q
      · subst e1 e2 e3
        rw [show H b = some (.xd fs) from hA] at h2
        cases h2
        cases h3
  fr := fun b l h => by
    obtain ⟨j, p, e, h1⟩ := S.fr b l h
    exact ⟨j, p, e, h1.imp (fun z => List.mem_cons_of_mem _ z) id⟩
  w0 := fun b l h => by
    obtain ⟨j, p, e, h1⟩ := S.w0 b l h
    exact ⟨j, p, e, List.mem_cons_of_mem _ h1⟩
  vr := fun j t d h => by
    have hj : i ≠ j := fun z => by
      subst z
      rw [List.getElem?_set, if_pos rfl] at h
      split at h <;> cases h
    rw [List.getElem?_set_ne hj] at h
    obtain ⟨v, h1, h2⟩ := S.vr j t d h
    exact ⟨v, by rw [List.getElem?_set_ne hj]; exact h1, h2.keep (updX_same hA S.fh) (fun _ _ q => q) fun _ _ _ _ q => q⟩
  pn := fun j v h => by
    have h' : (if j = i then some (.ref a) else B.pn j) = some v := h
    by_cases c : j = i
    · subst c
      rw [if_pos rfl] at h'
      cases h'
      exact ⟨List.mem_cons_self, by rw [List.getElem?_set, if_pos rfl, if_pos hl]⟩
    · rw [if_neg c] at h'
      obtain ⟨h1, h2⟩ := S.pn j v h'
      exact ⟨List.mem_cons_of_mem _ h1, by rw [List.getElem?_set_ne (fun z => c z.symm)]; exact h2⟩
  ln := by rw [List.length_set, List.length_set]; exact S.ln
  xo := ⟨⟨if_pos rfl, kn⟩, fun P q n => by
    have t0 := S.xo.2 P q n
    obtain ⟨g1, _, ps, g3, _⟩ := S.tbs P q n
    refine ⟨?_, t0.2⟩
    show updX F A P = none
    cases e : updX F A P with
    | none => rfl
    | some o =>
      rcases updX_of e with h | ⟨d, fs, e1, e2, e3⟩
      · rw [g1] at h; cases h
      · subst e1 e2
        have : H P = some (.xd fs) := hA
        rw [g3] at this
        cases this⟩
theorem outX_same {F3 : Hp} (hA : AtX H A) (fh : Same F H) (e : Same (updX F A) F3) : Same F (outX F F3 A) := by
  cases A with
  | none => exact e
  | some p =>
    obtain ⟨d, fs⟩ := p
    intro b o h
    show (if b = d then F b else F3 b) = some o
    by_cases c : b = d
    · rw [if_pos c]; exact h
    · rw [if_neg c]
      exact e _ _ (by show upd F d (.xd fs) b = some o; rw [upd_ne c]; exact h)
theorem outX_off {F3 : Hp} (e : Same (updX F A) F3) : ∀ b o, F3 b = some o → nxd o = true → outX F F3 A b = some o := by
  cases A with
  | none => exact fun b o h _ => h
  | some p =>
    obtain ⟨d, fs⟩ := p
    intro b o h n
    show (if b = d then F b else F3 b) = some o
    by_cases c : b = d
    · subst c
      have h1 := e b (.xd fs) upd_same
      rw [h1] at h; cases h; cases n
    · rw [if_neg c]; exact h
theorem outX_of {F3 : Hp} (e : Same (updX F A) F3) {b : Addr} {o : HO} (h : outX F F3 A b = some o) : F b = some o ∨ (F3 b = some o ∧ (∀ d fs, A = some (d, fs) → b ≠ d)) := by
  cases A with
  | none => exact .inr ⟨h, fun _ _ z => by cases z⟩
  | some p =>
    obtain ⟨d, fs⟩ := p
    have h' : (if b = d then F b else F3 b) = some o := h
    by_cases c : b = d
    · rw [if_pos c] at h'; exact .inl h'
    · rw [if_neg c] at h'; exact .inr ⟨h', fun _ _ z => by cases z; exact c⟩
theorem St.leave {F3 H3 : Hp} {W3 : Wm} {E3 : Nv} {σ3 : L2.St} (S : St K ios B F W E σ H) (hi : ios.contains i = false) (hA : AtX H A) (e : Same (updX F A) F3)
    (S3 : St K (xios K ios i a dx y) ⟨setPn B.pn i (.ref a), updX F A, B.W0, B.H0⟩ F3 W3 E3 σ3 H3) : St K ios B (outX F F3 A) W3 (E3.set i none) (σ3.set i none) H3 where
  fh := fun b o h => by
    rcases outX_of e h with h | ⟨h, _⟩
    · exact S3.fh _ _ (e _ _ (updX_same hA S.fh _ _ h))
    · exact S3.fh _ _ h
  st := by
    have s := S3.st
    refine ⟨S.st.fx.trans (outX_same hA S.fh e), fun b o h nt => ?_, s.wx, s.wn, s.hx, s.hd, fun b o f h => s.fk b o (updX_same hA S.fh _ _ (S.st.fx _ _ f)) h, fun P q tw => ?_⟩
    · rcases outX_of e h with h | ⟨h, n⟩
      · exact S.st.fn _ _ h nt
      · rcases s.fn b o h nt with h | h
        · rcases updX_of h with h | ⟨d, fs, e1, e2, e3⟩
          · exact S.st.fn _ _ h nt
          · exact absurd e2 (n _ _ e1)
        · exact .inr h
    · obtain ⟨g1, _, ps, g3, _⟩ := S.st.tb P q tw
      have u0 : updX F A P = none := by
        cases e : updX F A P with
        | none => rfl
        | some o =>
          rcases updX_of e with h | ⟨d, fs, e1, e2, e3⟩
          · rw [g1] at h; cases h
          · subst e1 e2
            have : H P = some (.xd fs) := hA
            rw [g3] at this
            cases this
      obtain ⟨y1, y2⟩ := s.tb P q ⟨u0, tw.2⟩
      refine ⟨?_, y2⟩
      unfold outX
      split
      · exact y1
      · show (if P = _ then F P else F3 P) = none
        split
        · exact g1
        · exact y1
  nz := S3.nz
  ow := fun b l h => by
    obtain ⟨h1, o, h2, h3⟩ := S3.ow b l h
    refine ⟨?_, o, h2, h3⟩
    cases q : outX F F3 A b with
    | none => rfl
    | some u =>
      rcases outX_of e q with q | ⟨q, _⟩
      · rw [e _ _ (updX_same hA S.fh _ _ q)] at h1; cases h1
      · rw [h1] at q; cases q
  fr := fun b l h => by
    obtain ⟨j, p, e1, h1⟩ := S3.fr b l h
    rcases h1 with h1 | h1
    · rcases List.mem_cons.mp (show j ∈ i :: ios.l from h1) with c | c
      · subst c
        rcases S3.st.wn b l h with z | z
        · obtain ⟨j', p', e2, h2⟩ := S.w0 b l z
          rw [e1] at e2
          cases e2
          exact absurd h2 (Ios.no hi)
        · exact ⟨_, _, e1, .inr z⟩
      · exact ⟨j, p, e1, .inl c⟩
    · exact ⟨j, p, e1, .inr h1⟩
  w0 := S.w0
  vr := fun j t d h => by
    have hj : i ≠ j := fun z => by
      subst z
      rw [List.getElem?_set, if_pos rfl] at h
      split at h <;> cases h
    rw [List.getElem?_set_ne hj] at h
    obtain ⟨v, h1, h2⟩ := S3.vr j t d h
    exact ⟨v, by rw [List.getElem?_set_ne hj]; exact h1, h2.off (outX_off e)⟩
  pn := fun j v h => by
    obtain ⟨h1, h2⟩ := S.pn j v h
    have hj : i ≠ j := fun z => by subst z; exact Ios.no hi h1
    refine ⟨h1, ?_⟩
    rw [List.getElem?_set_ne hj]
    exact (S3.pn j v (by show (if j = i then _ else B.pn j) = some v; rw [if_neg (fun z => hj z.symm)]; exact h)).2
  ln := by rw [List.length_set, List.length_set]; exact S3.ln
  xo := S.xo
theorem Fresh.leave {F3 H3 : Hp} {W3 Wr : Wm} {H0 : Hp} (hA : AtX H A) (fh : Same F H) (e : Same (updX F A) F3) (f : Fresh Wr H0 F3 W3 H3) : Fresh Wr H0 (outX F F3 A) W3 H3 := fun b l h => by
  obtain ⟨h1, h2, h3, h4⟩ := f b l h
  refine ⟨h1, h2, ?_, h4⟩
  cases q : outX F F3 A b with
  | none => rfl
  | some u =>
    rcases outX_of e q with q | ⟨q, _⟩
    · rw [e _ _ (updX_same hA fh _ _ q)] at h3; cases h3
    · rw [h3] at q; cases q
end
def offX (i : Nat) : Fl → Fl
  | .nx E => .nx (E.set i none)
  | .bk E => .bk (E.set i none)
  | .ct E => .ct (E.set i none)
  | .rt p E => .rt p (E.set i none)
  | .er _ _ => .stk
  | .stk => .stk
def tryS (cs no : List Str) (i : Nat) (g : G) (h : Xn → G) : G := fun E => match g E with
  | .er y E' => if cs.contains y.c = true ∧ i < E'.length then offX i (h y (E'.set i none)) else if no.contains y.c = true then .er y E' else .stk
  | .nx E' => .nx E'
  | .bk E' => .bk E'
  | .ct E' => .ct E'
  | .rt p E' => .rt p E'
  | .stk => .stk
theorem pss_weak {X : Cx} {sts : List Stmt} {t t' : TS} (h : PSs X sts t) (w : ∀ D σ H, t' D σ H → t D σ H) : PSs X sts t' := ⟨fun pins s σ H D I k => h.run pins s σ H D I (w _ _ _ k)⟩
theorem pss_ex {X : Cx} {sts : List Stmt} {α : Sort _} {t : α → TS} (h : ∀ a, PSs X sts (t a)) : PSs X sts (fun D σ H => ∃ a, t a D σ H) := ⟨fun pins s σ H D I ⟨a, k⟩ => (h a).run pins s σ H D I k⟩
section
variable {X : Cx} {ios : Ios} {Wx : WX} {x n : Str} {C : Str} {i : Nat} {body suite : List Stmt} {b₀ : Stmt} {np pos pos' : Pos} {g : G} {h : Xn → G} {cs no : List Str}
theorem XRep.at {K : KF} {F H : Hp} {y : Xn} {cls : Value} {dx : Option Addr} (fh : Same F H) (r : XRep K F H y cls dx) : ∃ A : Option (Addr × List (Str × V)), AtX H A ∧ knX K y dx (updX F A) := by
  obtain ⟨_, h | ⟨a, fs, e1, e2, e3, r⟩⟩ := r
  · exact ⟨none, trivial, .inl h⟩
  · exact ⟨some (a, fs), e2, .inr ⟨a, fs, e1, upd_same, e3, r.mono (updX_same (A := some (a, fs)) e2 fh) _⟩⟩
theorem PstS.leave {K : KF} {B : Bs} {F : Hp} {W : Wm} {E : Nv} {σ : L2.St} {H : Hp} {A : Option (Addr × List (Str × V))} {a : Addr} {dx : Option Addr} {y : Xn} {r : Fl} {Dn : Ends} {Wy : WX} (S : St K ios B F W E σ H) (hi : ios.contains i = false) (hA : AtX H A)
    (k : PstS K ios B Wx F (offX i r) Dn) : PstS K (xios K ios i a dx y) ⟨setPn B.pn i (.ref a), updX F A, B.W0, B.H0⟩ Wy (updX F A) r { nx := fun σ' H' => Dn.nx (σ'.set i none) H', rt := Dn.rt, bk := fun σ' H' => Dn.bk (σ'.set i none) H', ct := fun σ' H' => Dn.ct (σ'.set i none) H' } := by
  cases r with
  | nx E3 => exact fun F3 W3 H3 σ3 S3 e => k _ W3 H3 _ (S.leave hi hA e S3) (outX_same hA S.fh e)
  | bk E3 => exact fun F3 W3 H3 σ3 S3 e => k _ W3 H3 _ (S.leave hi hA e S3) (outX_same hA S.fh e)
  | ct E3 => exact fun F3 W3 H3 σ3 S3 e => k _ W3 H3 _ (S.leave hi hA e S3) (outX_same hA S.fh e)
  | rt p E3 => exact fun F3 W3 H3 σ3 v Wr S3 e f r => k _ W3 H3 _ v Wr (S.leave hi hA e S3) (outX_same hA S.fh e) (f.leave hA S.fh e) (r.off (outX_off e))
  | er z E3 => exact k.elim
  | stk => exact k.elim
def noWx : WX := fun _ _ _ _ => False
theorem pd_try (hs : X.stack = X.env :: X.outer) (hf : X.env.frame = some X.env.locals) (hN : X.N.Nodup) (hn : X.N[i]? = some n) (hln : X.env.kindOf n = some .local) (hi : ios.contains i = false) (hg : Gl X x) (hm : X.mg x = some (.ref (He.ga X.K C)))
    (hy : ∀ c ∈ cs, PySem.W.exmOne X.K (.ref (He.ga X.K c)) (.ref (He.ga X.K C)) = some true) (hno : ∀ c ∈ no, PySem.W.exmOne X.K (.ref (He.ga X.K c)) (.ref (He.ga X.K C)) = some false) (tk : Takes X Wx)
    (hb : ∀ (W : WX) (pn : List (Addr × Obj)) (xe : Value → Shared → Prop), Takes (X.tr pn xe) W → PassesOwn (model X.prog X.w) X.A X.env xe → PDs (X.tr pn xe) ios W body g)
    (hsu : ∀ (y : Xn) (a : Addr) (oe : Obj) (cls : Value) (d : Option Addr) (pn : List (Addr × Obj)), y.c ∈ cs → cls = .ref (He.ga X.K y.c) → Zc cls d oe → (∃ vs, oe.data = .fields vs) → PDs (X.suite a ((a, oe) :: pn)) (xios X.K ios i a d y) noWx (b₀ :: suite) (h y))
    (hdb : (x == ("__debug__" : Str)) = false := by decide) :
    PD X ios Wx (.Try body [.ExceptHandler (some (.Name x np)) (some n) (b₀ :: suite) pos'] [] [] pos) (tryS cs no i g h) := by
  refine ⟨_, ps_try_as hs hf hN hn hln ⟨hg, hdb, .inl hm⟩ tk
    (tb := fun W D σ H => ∀ pn xe tk ps, (hb W pn xe tk ps).ex.choose D σ H)
    (ts := fun a cls d D σ H => ∃ (y : Xn) (hc : y.c ∈ cs) (hk : cls = .ref (He.ga X.K y.c)), ∀ oe pn hz hf, (hsu y a oe cls d pn hc hk hz hf).ex.choose D σ H)
    (fun W pn xe tk ps => pss_weak (hb W pn xe tk ps).ex.choose_spec.1 fun D σ H z => z pn xe tk ps)
    (fun a oe cls d pn hz hf => pss_ex fun y => pss_ex fun hc => pss_ex fun hk => pss_weak (hsu y a oe cls d pn hc hk hz hf).ex.choose_spec.1 fun D σ H z => z oe pn hz hf), fun B F W E σ H Dn S k => ?_⟩
  intro pn xe tk' ps
  refine (hb _ pn xe tk' ps).ex.choose_spec.2 B F W E σ H Dn S ?_
  unfold tryS at k
  cases q : g E with
  | nx E' => simp only [q] at k; exact k
  | bk E' => simp only [q] at k; exact k
  | ct E' => simp only [q] at k; exact k
  | rt p E' => simp only [q] at k; exact k
  | stk => simp only [q] at k; exact k
  | er y E' =>
    simp only [q] at k
    intro F1 W1 H1 σ1 cls dx S1 e1 xr
    obtain ⟨A, hA, kn⟩ := xr.at S1.fh
    have ec := xr.1
    by_cases c1 : cs.contains y.c = true ∧ i < E'.length
    · rw [if_pos c1] at k
      have hc : y.c ∈ cs := by simpa using c1.1
      refine ⟨true, by rw [ec]; exact hy _ hc, fun _ a ha => ⟨y, hc, ec, fun oe pn' hz hf' => ?_⟩, fun z => by cases z⟩
      have hl : i < σ1.length := by rw [← S1.ln]; exact c1.2
      refine (hsu y a oe cls dx pn' hc ec hz hf').ex.choose_spec.2 _ _ W1 _ _ H1 _ (S1.enter hi hl hA kn) ?_
      exact PstS.leave S1 hi hA (PstS.from e1 k)
    · rw [if_neg c1] at k
      by_cases c2 : no.contains y.c = true
      · rw [if_pos c2] at k
        have hc : y.c ∈ no := by simpa using c2
        exact ⟨false, by rw [ec]; exact hno _ hc, (fun z => by cases z), fun _ => k F1 W1 H1 σ1 cls dx S1 e1 xr⟩
      · rw [if_neg c2] at k; exact k.elim
def lkX (ns : List Str) (vs : List D) (f : Str) : Option D := match ns, vs with
  | n :: ns, v :: vs => if n = f then some v else lkX ns vs f
  | _, _ => none
theorem lkX_of {K : KF} {F : Hp} {f : Str} : ∀ {fs : List (Str × V)} {ns : List Str} {ds : List D} {d : D}, fs.map (·.1) = ns → RepL K F (fs.map (·.2)) ds → lkX ns ds f = some d → ∃ v, fs.lookup f = some v ∧ Rep K F v d
  | [], ns, ds, d, e, r, h => by
    subst e
    unfold lkX at h; cases h
  | (n, v) :: fs, ns, ds, d, e, r, h => by
    subst e
    cases r with
    | cons r1 r2 =>
      rename_i d1 ds1
      have h' : (if n = f then some d1 else lkX (fs.map (·.1)) ds1 f) = some d := h
      by_cases c : n = f
      · rw [if_pos c] at h'
        cases h'
        refine ⟨v, ?_, r1⟩
        subst c
        simp [List.lookup]
      · rw [if_neg c] at h'
        obtain ⟨w, h1, h2⟩ := lkX_of rfl r2 h'
        refine ⟨w, ?_, h2⟩
        simp only [List.lookup]
        rw [show (f == n) = false from by simpa using fun z => c z.symm]
        exact h1
def xfM (y : Xn) (f : Str) : M D := ofO (lkX y.ns y.vs f)
structure XfOk (K : KF) (c f : Str) : Prop where
  x : XfC K (He.ga K c)
  n : PySem.W.findIn K (.ref (He.ga K c)) f = some none
variable {y : Xn} {a : Addr} {oe : Obj} {cls : Value} {d : Option Addr} {pn : List (Addr × Obj)} {f : Str} {p : Pos}
theorem pp_xf (hc : y.c ∈ cs) (hk : cls = .ref (He.ga X.K y.c)) (hz : Zc cls d oe) (hf : ∃ vs, oe.data = .fields vs) (hx : ∀ c ∈ cs, XfOk X.K c f) (hN : X.N[i]? = some n := by rfl) (hv : Vis X.env.scope n := by first | exact Or.inl rfl | exact Or.inr (Or.inl rfl) | exact Or.inr (Or.inr rfl))
    (hd : (n == ("__debug__" : Str)) = false := by decide) (hcd : (n == ("__classdict__" : Str)) = false := by decide) (hb : attributeBase (.Name n p) f X.env (eval (.Name n p) X.env) = eval (.Name n p) X.env := by rfl) :
    PP (X.suite a ((a, oe) :: pn)) (xios X.K ios i a d y) Wx (.Attribute (.Name n p) f pos) (xfM y f) := by
  refine ⟨_, pe_xf (hx _ hc).x (hx _ hc).n hz hf (pe_var (X := X.suite a ((a, oe) :: pn)) hN hv hd hcd) hb, fun B F W E σ H Q S h => ?_⟩
  obtain ⟨u, eu, h1⟩ := h.some
  obtain ⟨h2, h3⟩ := S.xo.1
  refine ⟨.ref a, (S.pn i _ h2).2, rfl, hk, ?_⟩
  rcases h3 with ⟨z1, z2⟩ | ⟨dd, fs, e1, e2, e3, r⟩
  · rw [z1, z2] at eu; unfold lkX at eu; cases eu
  · obtain ⟨v, l, rv⟩ := lkX_of e3 r eu
    exact ⟨dd, fs, v, e1, S.fh _ _ (S.st.fx _ _ e2), l, h1.done S (rv.mono S.st.fx _)⟩
end
def tryB (K : KF) (cs no : List Str) (C : Str) : Bool := cs.all (fun c => decide (PySem.W.exmOne K (.ref (He.ga K c)) (.ref (He.ga K C)) = some true)) && no.all (fun c => decide (PySem.W.exmOne K (.ref (He.ga K c)) (.ref (He.ga K C)) = some false))
theorem tryB_ok {K : KF} {cs no : List Str} {C : Str} (h : tryB K cs no C = true) : (∀ c ∈ cs, PySem.W.exmOne K (.ref (He.ga K c)) (.ref (He.ga K C)) = some true) ∧ ∀ c ∈ no, PySem.W.exmOne K (.ref (He.ga K c)) (.ref (He.ga K C)) = some false := by
  obtain ⟨h1, h2⟩ := andB h
  exact ⟨fun c hc => of_decide_eq_true (List.all_eq_true.mp h1 c hc), fun c hc => of_decide_eq_true (List.all_eq_true.mp h2 c hc)⟩
def xfsB (K : KF) (cs : List Str) (f : Str) : Bool := cs.all fun c => xfB K (He.ga K c) && decide (PySem.W.findIn K (.ref (He.ga K c)) f = some none)
theorem xfsB_ok {K : KF} {cs : List Str} {f : Str} (h : xfsB K cs f = true) : ∀ c ∈ cs, XfOk K c f := fun c hc => by
  obtain ⟨h1, h2⟩ := andB (List.all_eq_true.mp h c hc)
  exact ⟨xfB_ok h1, of_decide_eq_true h2⟩
end Dl
namespace Dl
open PySem PySem.Spec PyProof.Rows L2
end Dl
namespace Dl
open PySem PySem.Spec PyProof.Rows L2 RZ
variable [Tbs]
def SqX (b : Bool) (K : KF) (H : Hp) (p : Addr) (xs : List V) : Prop := match b with
  | true => SqT K H p xs
  | false => SqL K H p xs
def IrX (b : Bool) (h : Heap) (i p : Addr) (n : Nat) : Prop := match b with
  | true => h.IsTupleIter i p n
  | false => h.IsListIter i p n
def AsX (b : Bool) (h : Heap) (p : Addr) (us : Array Value) : Prop := match b with
  | true => h.IsTuple p us
  | false => h.IsList p us
def obX (b : Bool) (p : Addr) : Obj := match b with
  | true => { cls := .type "tuple_iterator", data := .fields #[.ref p, .int 0 0] }
  | false => { cls := .type "list_iterator", data := .fields #[.ref p, .int 0 0] }
theorem begX (b : Bool) (p : Addr) (us : Array Value) : Begins (.ref p) (obX b p) fun h => AsX b h p us := by
  cases b
  · exact begins_list p us
  · exact begins_tuple p us
theorem IrX.ob {b : Bool} {h : Heap} {i p : Addr} {n : Nat} (x : IrX b h i p n) : ∃ o, h.get? i = some o ∧ ∀ v, o.data ≠ .cell v := by
  cases b
  · obtain ⟨o, e, _, d⟩ := (show h.IsListIter i p n from x)
    exact ⟨o, e, fun v z => by rw [d] at z; cases z⟩
  · obtain ⟨o, e, _, d⟩ := (show h.IsTupleIter i p n from x)
    exact ⟨o, e, fun v z => by rw [d] at z; cases z⟩
theorem IrX.to {b : Bool} {h h' : Heap} {i p : Addr} {n : Nat} (x : IrX b h i p n) (k : ∀ o, h.get? i = some o → h'.get? i = some o) : IrX b h' i p n := by
  cases b
  · exact (show h.IsListIter i p n from x).at k
  · exact (show h.IsTupleIter i p n from x).at k
theorem irX_new {b : Bool} {h : Heap} {i p : Addr} (e : h.get? i = some (obX b p)) : IrX b h i p 0 := by
  cases b
  · exact ⟨_, e, rfl, rfl⟩
  · exact ⟨_, e, rfl, rfl⟩
theorem drawX {X : Cx} {pins : List (Addr × Obj)} {σ : L2.St} {H : Hp} {s : Shared} {b : Bool} {i p : Addr} {n : Nat} {xs : List V} (I : Inv X pins σ H s) (hh : X.A.in1.handled = none) (hs : SqX b X.K H p xs) (hi : IrX b s.heap i p n) :
    ∃ us : List Value, Vals xs us ∧ AsX b s.heap p us.toArray ∧ Draws X.prog X.w X.A.in1 i [i, p] us.toArray.size (fun k v => us.toArray[k]? = some v) fun k h => IrX b h i p k ∧ AsX b h p us.toArray := by
  cases b
  · obtain ⟨us, ru, pu, _⟩ := I.list hs
    exact ⟨us, ru, pu.isList, Draws.list hh i p (fun e => by
      subst e
      obtain ⟨o, ho, hcl, _⟩ := pu.isList
      obtain ⟨o', ho', hc', _⟩ := (show s.heap.IsListIter _ _ n from hi)
      rw [ho] at ho'
      cases ho'
      rw [hcl] at hc'
      exact absurd (Value.type.inj hc') (by decide)) us.toArray⟩
  · obtain ⟨us, ru, pu, _⟩ := I.tuple hs
    have tup : s.heap.IsTuple p us.toArray := pu
    exact ⟨us, ru, tup, Draws.tuple hh i p (fun e => by
      subst e
      obtain ⟨o, ho, hcl, _⟩ := tup
      obtain ⟨o', ho', hc', _⟩ := (show s.heap.IsTupleIter _ _ n from hi)
      rw [ho] at ho'
      cases ho'
      rw [hcl] at hc'
      exact absurd (Value.type.inj hc') (by decide)) us.toArray⟩
theorem AsX.lt {b : Bool} {h : Heap} {p : Addr} {us : Array Value} (x : AsX b h p us) : p < h.objs.size := by
  cases b
  · obtain ⟨o, ho, _⟩ := (show h.IsList p us from x)
    exact Heap.lt_size ho
  · obtain ⟨o, ho, _⟩ := (show h.IsTuple p us from x)
    exact Heap.lt_size ho
def sqO : D → Option (List D)
  | .lst xs => some xs
  | .tup xs => some xs
  | _ => none
theorem rep_sqO {K : KF} {F : Hp} {v : V} {d : D} {ds : List D} (r : Rep K F v d) (e : sqO d = some ds) : ∃ b p vs, v = .ref p ∧ RepL K F vs ds ∧ ∀ F' H, Same F F' → Same F' H → SqX b K H p vs := by
  cases r with
  | lst s z q =>
    cases e
    exact ⟨false, _, _, rfl, q, fun F' H e fh => SqL.of (fh _ _ (e _ _ s))⟩
  | tup s z q =>
    cases e
    exact ⟨true, _, _, rfl, q, fun F' H e fh => sqT_mono (e.trans fh) s⟩
  | _ => cases e
def kOf : D → Option Key
  | .int i => some (.inl i)
  | .str x => some (.inr x)
  | _ => none
def lkD : List D → List D → Key → Option D
  | k :: ks, v :: vs, key => if kOf k = some key then some v else lkD ks vs key
  | _, _, _ => none
end Dl
namespace L2
open PySem PySem.Spec PyProof.Rows
def rCountD (K : PySem.W.Frag) : V → List V → Hp → VK → Prop := fun x xs H Q => ∃ (a : Addr) (y : V) (d : PyData) (ds : List PyData), x = V.ref a ∧ xs = [y] ∧ Dp K H (V.ref a) (.list ds) ∧ Dp K H y d ∧
  SeqAt.shaped (.list ds) = true ∧ SeqAt.shaped d = true ∧ Q (.int (ds.countP (fun z => PyData.eqv z d) : Nat)) H
theorem mt_countD {X : Cx} (hu : X.A.units + 65 < cLine) : MtR X "list.count" (rCountD X.K) := by
  intro pins s σ H x xs v us Q I rx rxs h
  obtain ⟨a, y, d, ds, rfl, rfl, hl, hy, sl, sd, q⟩ := h
  cases rx
  cases rxs with
  | cons ry rt =>
    rename_i uy ut
    cases rt
    obtain ⟨bs, r1⟩ := Dp.reads I d y uy hy ry
    have hxs : PyData.canLayAll0 ds = true := SeqAt.canLay_of_shaped sl
    have hroom : X.A.units + 1 + min (PyData.depthAll ds) d.depth < cLine := room_in_shaped sd hu
    cases hl with
    | lst hs ha =>
      obtain ⟨its, rv, ⟨⟨cls, dd, data, sls⟩, n, ho, hc, hdn, hdt⟩, hlen⟩ := I.list hs
      simp only at hc hdt
      subst hc hdt
      obtain ⟨as, h4⟩ := Dp.readsAll I ds _ its ha rv
      have hmap : its.map (SeqAt.readOf s.heap) = ds := SeqAt.readsAll_map ds its as hxs h4
      have ec : its.toArray.toList.countP (fun u => PyData.eqv (SeqAt.readOf s.heap u) d) = ds.countP (fun z => PyData.eqv z d) := by
        rw [← hmap, List.countP_map]
        rfl
      refine call_meets PySem.F.slot_list_count ⟨_, ho, rfl⟩ PySem.F.entry_list_count (PySem.F.args_list_count_2 _ _)
        (SeqAt.list_countAt a its.toArray n dd sls uy (fun u => PyData.eqv (SeqAt.readOf s.heap u) d)) ⟨ho, SeqAt.items_eqAt (vs := its.toArray) (show ReadsAll s.heap its.toArray.toList ds as from h4) r1 hxs (SeqAt.canLay_of_shaped sd) hroom, ?_⟩
      exact ⟨.int _, H, I.tok _, ⟨s.toks, by
        show Value.int ((its.toArray.toList.countP (fun u => PyData.eqv (SeqAt.readOf s.heap u) d) : Nat) : Int) s.toks = _
        rw [ec]⟩, q⟩
end L2
namespace Dl
open PySem PySem.Spec PyProof.Rows L2
variable [Tbs]
def MtD (K : KF) (r : V → List V → Hp → VK → Prop) (g : D → List D → Option D) : Prop := ∀ (F H : Hp) (x : V) (d : D) (vs : List V) (ds : List D) (z : D) (Q : VK), Same F H → Rep K F x d → RepL K F vs ds → g d ds = some z → (∀ F' H' v, Gr F H F' H' → Rep K F' v z → Q v H') → r x vs H Q
def isL : D → Bool
  | .lst _ => true
  | _ => false
section
variable {X : Cx} {ios : Ios} {Wx : WX} {o e : Expr} {es : List Expr} {fo : M D} {fs : M (List D)} {name : Str} {apos cpos : Pos} {T id : String} {r : V → List V → Hp → VK → Prop} {g : D → List D → Option D}
theorem pp_mtL (slot : PySem.Slot "list" name id) (hty : typeOf (.builtin id) = pure (.type "method_descriptor")) (hm : MtR X id r) (hd : MtD X.K r g) (hg : ∀ x xs z, g x xs = some z → isL x = true) (ho : PP X ios Wx o fo) (ha : PL X ios Wx (e :: es) fs)
    (hbase : attributeBase o name X.env (eval o X.env) = eval o X.env := by rfl)
    (hfew : ((backTo cpos (starEach (e :: es) X.env)).all (fun x => !x.1) && (backToKw cpos (keywordEach [] X.env)).all (fun x => x.1.isSome)
      && decide ((e :: es).length + ([] : List Keyword).length + (if ([] : List Keyword).isEmpty then 0 else 1) < 30)) = true := by rfl)
    (hline : (apos.endLine == cpos.line) = true := by rfl) (hs : starEach (e :: es) X.env = (false, eval e X.env) :: starEach es X.env := by rfl) (hplain : (backTo cpos (starEach es X.env)).any (·.1) = false := by rfl) :
    PP X ios Wx (.Call (.Attribute o name apos) (e :: es) [] cpos) (bnd fo fun x => if isL x = true then bnd fs fun xs => ofO (g x xs) else stuck) := by
  obtain ⟨to, po, ro⟩ := ho.ex
  obtain ⟨ta, pa, ra⟩ := ha.ex
  refine ⟨_, pe_bm PySem.F.plainAttrs_list slot hty hm po pa hbase hfew hline hs hplain, fun B F W E σ H Q S h => ?_⟩
  refine ro B F W E σ H _ S (Pst.seq h fun F1 W1 H1 x d E1 S1 s1 r1 h1 => ?_)
  by_cases c : isL d = true
  · rw [if_pos c] at h1
    refine ⟨?_, ra B F1 W1 E1 σ H1 _ S1 (Pst.seq h1 fun F2 W2 H2 vs ds E2 S2 s2 r2 h2 => ?_)⟩
    · cases r1 with
      | lst s z q => exact .inl ⟨rfl, _, SqL.of (S1.fh _ _ s)⟩
      | _ => cases c
    · obtain ⟨z, ez, h3⟩ := h2.some
      exact hd F2 H2 x d vs ds z Q S2.fh (r1.mono s2.fx d) r2 ez fun F' H' v g rr => h3.grown S2 g rr
  · rw [if_neg c] at h1; exact h1.elim
end
def mlM (g : D → List D → Option D) (fo : M D) (fs : M (List D)) : M D := bnd fo fun x => if isL x = true then bnd fs fun xs => ofO (g x xs) else stuck
def cntD : D → List D → Option D
  | .lst xs, [y] => match toPs xs, toP y with
    | some ps, some p => if SeqAt.shaped (.list ps) = true ∧ SeqAt.shaped p = true then some (.int (ps.countP (fun z => PyData.eqv z p) : Nat)) else none
    | _, _ => none
  | _, _ => none
theorem cntD_L (x : D) (xs : List D) (z : D) (h : cntD x xs = some z) : isL x = true := by
  unfold cntD at h
  split at h
  · rfl
  · cases h
theorem one_repL {K : KF} {F : Hp} {vs : List V} {y : D} (h : RepL K F vs [y]) : ∃ v, vs = [v] ∧ Rep K F v y := by
  cases h with
  | cons h1 h2 => cases h2; exact ⟨_, rfl, h1⟩
theorem lst_dp {K : KF} {F H : Hp} (e : Same F H) {v : V} {xs : List D} {ps : List PyData} (r : Rep K F v (.lst xs)) (h : toPs xs = some ps) : ∃ a, v = .ref a ∧ Dp K H v (.list ps) := by
  have := Rep.dp e (.lst xs) r (p := .list ps) (by unfold toP; rw [h]; rfl)
  cases r
  exact ⟨_, rfl, this⟩
theorem mtd_count {K : KF} : MtD K (rCountD K) cntD := by
  intro F H x d vs ds z Q fh rx rs hz q
  unfold cntD at hz
  split at hz
  · rename_i xs y
    obtain ⟨w, rfl, ry⟩ := one_repL rs
    split at hz
    · rename_i ps p e1 e2
      split at hz
      · rename_i c
        cases hz
        obtain ⟨a, rfl, dl⟩ := lst_dp fh rx e1
        have dy := Rep.dp fh y ry e2
        exact ⟨a, w, p, ps, rfl, rfl, dl, dy, c.1, c.2, q F H _ (Gr.refl fh) (.int _)⟩
      · cases hz
    · cases hz
  · cases hz
def ndB (K : KF) (x : Str) : Bool := match PySem.W.nsIn K mainGlobals x with
  | some (some (.ref a)) => (match K.lookup a with
    | some o => decide (o.cls = .type "tuple") && o.dict.isNone
    | none => false)
  | _ => false
theorem Md2.nd {fa : List He.Fa} {fn : List He.DefD} {ex : List (KF → Bool)} {K : KF} {mg : Str → Option Value} (o : Md3 fa fn ex K mg) {x : Str} (h : ndB K x = true) {v : V} {u : Value} (hm : mg x = some u) (rv : L2.RelV v u) : ∀ a, v = .ref a → ∃ o, K.lookup a = some o ∧ o.cls = .type "tuple" ∧ o.dict = none := by
  obtain ⟨hp, X, G⟩ := o.hp
  unfold ndB at h
  split at h
  · rename_i b q
    have e := PySem.W.mg_of X G q
    rw [hm] at e
    cases e
    intro a ea
    subst ea
    cases rv
    split at h
    · rename_i ob qo
      obtain ⟨h1, h2⟩ := andB h
      exact ⟨ob, qo, of_decide_eq_true h1, by simpa using h2⟩
    · cases h
  · cases h
end Dl
namespace Dl
open PySem PySem.Spec PyProof.Rows L2
end Dl
namespace Dl
open PySem PySem.Spec PyProof.Rows L2
end Dl
namespace Dl
open PySem PySem.Spec PyProof.Rows L2
end Dl
namespace Dl
open PySem PySem.Spec PyProof.Rows L2
end Dl
namespace Dl
open PySem PySem.Spec PyProof.Rows L2
end Dl
namespace Dl
open PySem PySem.Spec PyProof.Rows L2
end Dl
namespace Dl
open PySem PySem.Spec PyProof.Rows L2
end Dl
namespace Dl
open PySem PySem.Spec PyProof.Rows L2
end Dl
namespace Dl
open PySem PySem.Spec PyProof.Rows L2
variable [Tbs]
def Dcs (K : KF) (w : World) (ts : List (Str × List Str)) : Prop := (ts.map fun t => He.dicW K (He.ga K t.1)) = ts.map fun t => some (He.keysIn w.params t.2)
theorem Dcs.tab {K : KF} {w : World} {ts : List (Str × List Str)} (c : Dcs K w ts) (i : Nat) {t : Str × List Str} (h : ts[i]? = some t := by rfl) : ∃ es n, KDict K w (He.ga K t.1) es n := by
  have e2 : (ts.map fun t => He.dicW K (He.ga K t.1))[i]? = (ts.map fun t => some (He.keysIn w.params t.2))[i]? := by rw [c]
  rw [List.getElem?_map, List.getElem?_map, h] at e2
  exact He.dicW_ok (Option.some.inj e2)
end Dl
namespace Dl
open PySem PySem.Spec PyProof.Rows L2
end Dl
namespace Dl
open PySem PySem.Spec PyProof.Rows L2
end Dl
namespace Dl
open PySem PySem.Spec PyProof.Rows L2
end Dl
namespace Dl
open PySem PySem.Spec PyProof.Rows L2
end Dl
namespace Dl
open PySem PySem.Spec PyProof.Rows L2
end Dl
namespace Dl
open PySem PySem.Spec PyProof.Rows L2
end Dl
namespace Dl
open PySem PySem.Spec PyProof.Rows L2
variable [Tbs]
abbrev Ky := Key ⊕ List Key
def keysOf : List D → Option (List Key)
  | [] => some []
  | .int i :: r => (keysOf r).map (Sum.inl i :: ·)
  | .str x :: r => (keysOf r).map (Sum.inr x :: ·)
  | _ => none
def kyD : D → Option Ky
  | .int i => some (.inl (.inl i))
  | .str x => some (.inl (.inr x))
  | .tup (.int i :: r) => (keysOf r).map fun k => .inr (.inl i :: k)
  | _ => none
theorem keysOf_map : ∀ k : List Key, keysOf (k.map kD) = some k
  | [] => rfl
  | .inl i :: r => by
    show (keysOf (r.map kD)).map _ = _
    rw [keysOf_map r]; rfl
  | .inr x :: r => by
    show (keysOf (r.map kD)).map _ = _
    rw [keysOf_map r]; rfl
theorem keysOf_eq : ∀ {ds : List D} {k : List Key}, keysOf ds = some k → ds = k.map kD
  | [], k, h => by cases h; rfl
  | d :: r, k, h => by
    cases d <;> first | (cases h; done) | skip
    · rename_i i
      have h' : (keysOf r).map (Sum.inl i :: ·) = some k := h
      cases q : keysOf r with
      | none => rw [q] at h'; cases h'
      | some k' =>
        rw [q] at h'
        cases h'
        rw [keysOf_eq q]
        rfl
    · rename_i i
      have h' : (keysOf r).map (Sum.inr i :: ·) = some k := h
      cases q : keysOf r with
      | none => rw [q] at h'; cases h'
      | some k' =>
        rw [q] at h'
        cases h'
        rw [keysOf_eq q]
        rfl
def kyE : Ky → D
  | .inl k => kD k
  | .inr k => .tup (k.map kD)
theorem kyD_tup {d : D} {k : List Key} (h : kyD d = some (.inr k)) : d = .tup (k.map kD) ∧ ∃ i r, k = .inl i :: r := by
  unfold kyD at h
  split at h
  · cases h
  · cases h
  · rename_i i r
    cases q : keysOf r with
    | none => rw [q] at h; cases h
    | some k' =>
      rw [q] at h
      cases h
      rw [keysOf_eq q]
      exact ⟨rfl, i, k', rfl⟩
  · cases h
theorem kyD_eq {d : D} {k : Ky} (h : kyD d = some k) : d = kyE k := by
  cases k with
  | inr k => exact (kyD_tup h).1
  | inl k =>
    unfold kyD at h
    split at h
    · cases h; rfl
    · cases h; rfl
    · rename_i i r
      cases q : keysOf r with
      | none => rw [q] at h; cases h
      | some k' => rw [q] at h; cases h
    · cases h
theorem kD_inj {k k' : Key} (h : kD k = kD k') : k = k' := by cases k <;> cases k' <;> cases h <;> rfl
theorem mapkD_inj {k k' : List Key} (h : k.map kD = k'.map kD) : k = k' := by
  have := congrArg keysOf h
  rw [keysOf_map, keysOf_map] at this
  exact Option.some.inj this
theorem kyE_inj {k k' : Ky} (h : kyE k = kyE k') : k = k' := by
  cases k <;> cases k'
  · exact congrArg _ (kD_inj h)
  · rename_i a b; cases a <;> cases h
  · rename_i a b; cases b <;> cases h
  · exact congrArg _ (mapkD_inj (D.tup.inj h))
theorem kyD_enc {k : Ky} {d : D} (h : kyD d = some k) (k' : Ky) : kyD (kyE k') = some k ↔ k' = k := by
  constructor
  · intro e
    exact kyE_inj (kyD_eq e)
  · intro e
    subst e
    rw [← kyD_eq h]
    exact h
def posD (ks : List D) (k : Ky) : Option Nat := ks.findIdx? fun d => decide (kyD d = some k)
def KyAt (H : Hp) (v : V) : Ky → Prop
  | .inl k => v = kV k
  | .inr k => ∃ b, v = .ref b ∧ H b = some (.tup (k.map kV))
theorem KyAt.mono {F H : Hp} (e : Same F H) {v : V} : ∀ {k : Ky}, KyAt F v k → KyAt H v k
  | .inl k, h => h
  | .inr k, ⟨b, h1, h2⟩ => ⟨b, h1, e _ _ h2⟩
def DOr : Bool → Hp → Addr → List D → List V → Prop
  | true, H, o, ks, vs => ∃ kvs : List (List Key × V), Rd H o (.dT kvs) ∧ kvs.map (fun p => D.tup (p.1.map kD)) = ks ∧ kvs.map (·.2) = vs
  | false, H, o, ks, vs => ∃ kvs : List (Key × V), Rd H o (.dK kvs) ∧ kvs.map (fun p => kD p.1) = ks ∧ kvs.map (·.2) = vs
theorem DOb.r {H : Hp} {o : Addr} {ks : List D} {vs : List V} : ∀ {b : Bool}, DOb b H o ks vs → DOr b H o ks vs
  | true, ⟨kvs, e, q⟩ => ⟨kvs, .inl e, q⟩
  | false, ⟨kvs, e, q⟩ => ⟨kvs, .inl e, q⟩
theorem find_pos {α : Type} {p : α → Bool} : ∀ l : List α, (l.findIdx? p = none ∧ l.find? p = none) ∨ ∃ n x, l.findIdx? p = some n ∧ l[n]? = some x ∧ l.find? p = some x
  | [] => .inl ⟨rfl, rfl⟩
  | x :: r => by
    rw [List.findIdx?_cons, List.find?_cons]
    cases c : p x with
    | true => exact .inr ⟨0, x, rfl, rfl, rfl⟩
    | false =>
      rcases find_pos (p := p) r with ⟨h1, h2⟩ | ⟨n, y, h1, h2, h3⟩
      · exact .inl ⟨by rw [h1]; rfl, h2⟩
      · exact .inr ⟨n + 1, y, by rw [h1]; rfl, by simpa using h2, h3⟩
theorem posD_map {κ : Type} [DecidableEq κ] {enc : κ → D} {k : κ} {K0 : Ky} (h : ∀ k', kyD (enc k') = some K0 ↔ k' = k) (kvs : List (κ × V)) : posD (kvs.map fun p => enc p.1) K0 = kvs.findIdx? fun p => decide (p.1 = k) := by
  unfold posD
  induction kvs with
  | nil => rfl
  | cons p r ih =>
    rw [List.map_cons, List.findIdx?_cons, List.findIdx?_cons, ih]
    have e : decide (kyD (enc p.1) = some K0) = decide (p.1 = k) := by rw [decide_eq_decide]; exact h p.1
    rw [e]
theorem pos_val {κ : Type} [DecidableEq κ] {enc : κ → D} {k : κ} {K0 : Ky} (h : ∀ k', kyD (enc k') = some K0 ↔ k' = k) (kvs : List (κ × V)) :
    (posD (kvs.map fun p => enc p.1) K0 = none ∧ valV kvs k = none) ∨ ∃ n v, posD (kvs.map fun p => enc p.1) K0 = some n ∧ (kvs.map (·.2))[n]? = some v ∧ valV kvs k = some v := by
  rw [posD_map h]
  unfold valV
  rcases find_pos (p := fun p : κ × V => decide (p.1 = k)) kvs with ⟨h1, h2⟩ | ⟨n, x, h1, h2, h3⟩
  · exact .inl ⟨h1, by rw [h2]; rfl⟩
  · exact .inr ⟨n, x.2, h1, by rw [List.getElem?_map, h2]; rfl, by rw [h3]; rfl⟩
theorem enc_flat {k : Key} {d : D} (h : kyD d = some (.inl k)) (k' : Key) : kyD (kD k') = some (.inl k) ↔ k' = k :=
  (kyD_enc h (.inl k')).trans ⟨fun e => Sum.inl.inj e, fun e => by rw [e]⟩
theorem enc_tup {k : List Key} {d : D} (h : kyD d = some (.inr k)) (k' : List Key) : kyD (.tup (k'.map kD)) = some (.inr k) ↔ k' = k :=
  (kyD_enc h (.inr k')).trans ⟨fun e => Sum.inr.inj e, fun e => by rw [e]⟩
theorem DOr.get {H : Hp} {o : Addr} {ks : List D} {vs : List V} {y : V} {d : D} {b : Bool} {k : Ky} (h : DOr b H o ks vs) (hd : kyD d = some k) (hb : k.isRight = b) (hy : KyAt H y k) :
    (posD ks k = none ∧ DGet H o y none) ∨ ∃ n v, posD ks k = some n ∧ vs[n]? = some v ∧ DGet H o y (some v) := by
  cases k with
  | inr k =>
    cases (show true = b from hb)
    obtain ⟨kvs, e, e1, e2⟩ := h
    obtain ⟨c, hy, hc⟩ := hy
    rw [← e1, ← e2]
    rcases pos_val (enc_tup hd) kvs with ⟨h1, h2⟩ | ⟨n, v, h1, h2, h3⟩
    · exact .inl ⟨h1, .inr ⟨kvs, k, c, e, hy, hc, h2.symm⟩⟩
    · exact .inr ⟨n, v, h1, h2, .inr ⟨kvs, k, c, e, hy, hc, h3.symm⟩⟩
  | inl k =>
    cases (show false = b from hb)
    obtain ⟨kvs, e, e1, e2⟩ := h
    rw [← e1, ← e2]
    rcases pos_val (enc_flat hd) kvs with ⟨h1, h2⟩ | ⟨n, v, h1, h2, h3⟩
    · exact .inl ⟨h1, .inl ⟨kvs, k, e, hy, h2.symm⟩⟩
    · exact .inr ⟨n, v, h1, h2, .inl ⟨kvs, k, e, hy, h3.symm⟩⟩
def putKs (ks : List D) (k : Ky) (d : D) : List D := match posD ks k with
  | some _ => ks
  | none => ks ++ [d]
def putVs {α : Type} (ks : List D) (k : Ky) (ds : List α) (x : α) : List α := match posD ks k with
  | some _ => List.zipWith (fun k' d' => if kyD k' = some k then x else d') ks ds
  | none => ds ++ [x]
theorem any_pos {κ : Type} [DecidableEq κ] {k : κ} (kvs : List (κ × V)) : (kvs.any fun kv => decide (kv.1 = k)) = (kvs.findIdx? fun p => decide (p.1 = k)).isSome := by
  induction kvs with
  | nil => rfl
  | cons p r ih =>
    rw [List.any_cons, List.findIdx?_cons, ih]
    cases c : decide (p.1 = k) with
    | true => rfl
    | false =>
      show (false || _) = _
      rw [Bool.false_or]
      cases r.findIdx? (fun p => decide (p.1 = k)) <;> rfl
theorem put_map {κ : Type} [DecidableEq κ] {enc : κ → D} {k : κ} {K0 : Ky} {v : V} (h : ∀ k', kyD (enc k') = some K0 ↔ k' = k) (kvs : List (κ × V)) :
    (putK kvs k v).map (fun p => enc p.1) = putKs (kvs.map fun p => enc p.1) K0 (enc k) ∧ (putK kvs k v).map (·.2) = putVs (kvs.map fun p => enc p.1) K0 (kvs.map (·.2)) v := by
  unfold putK putKs putVs
  rw [any_pos, posD_map h]
  cases q : kvs.findIdx? (fun p => decide (p.1 = k)) with
  | none =>
    simp only [Option.isSome_none, Bool.false_eq_true, if_false]
    exact ⟨by rw [List.map_append]; rfl, by rw [List.map_append]; rfl⟩
  | some n =>
    simp only [Option.isSome_some, if_true]
    clear q
    induction kvs with
    | nil => exact ⟨rfl, rfl⟩
    | cons p r ih =>
      simp only [List.map_cons, List.zipWith_cons_cons]
      refine ⟨?_, ?_⟩
      · rw [ih.1]
        by_cases c : p.1 = k
        · rw [if_pos c]
        · rw [if_neg c]
      · rw [ih.2]
        by_cases c : p.1 = k
        · rw [if_pos c, if_pos ((h p.1).mpr c)]
        · rw [if_neg c, if_neg (fun z => c ((h p.1).mp z))]
theorem DOb.put {H : Hp} {o : Addr} {ks : List D} {vs : List V} {y v : V} {d : D} {b : Bool} {k : Ky} (h : DOb b H o ks vs) (hd : kyD d = some k) (hb : k.isRight = b) (hy : KyAt H y k) (hl : ks.length < sizeLine) :
    ∃ u, DPut H o y v (upd H o u) ∧ nxo u = true ∧ (∀ ob z, u ≠ .frz ob z) ∧ DOb b (upd H o u) o (putKs ks k d) (putVs ks k vs v) := by
  cases k with
  | inr k =>
    cases (show true = b from hb)
    obtain ⟨kvs, e, e1, e2⟩ := h
    obtain ⟨c, hy, hc⟩ := hy
    have hl' : kvs.length < sizeLine := by rw [← e1, List.length_map] at hl; exact hl
    obtain ⟨m1, m2⟩ := put_map (v := v) (enc_tup hd) kvs
    rw [← e1, ← e2]
    refine ⟨.dT (putK kvs k v), .inr ⟨kvs, k, c, e, hy, hc, hl', rfl⟩, rfl, fun _ _ z => (by cases z), putK kvs k v, upd_same, ?_, m2⟩
    rw [m1, (kyD_tup hd).1]
  | inl k =>
    cases (show false = b from hb)
    obtain ⟨kvs, e, e1, e2⟩ := h
    have hl' : kvs.length < sizeLine := by rw [← e1, List.length_map] at hl; exact hl
    obtain ⟨m1, m2⟩ := put_map (v := v) (enc_flat hd) kvs
    rw [← e1, ← e2]
    refine ⟨.dK (putK kvs k v), .inl ⟨kvs, k, e, hy, hl', rfl⟩, rfl, fun _ _ z => (by cases z), putK kvs k v, upd_same, ?_, m2⟩
    rw [m1, show d = kD k from kyD_eq hd]
theorem RepL.putVs {K : KF} {F : Hp} {v : V} {d : D} {k : Ky} (r1 : Rep K F v d) : ∀ {ks : List D} {vs : List V} {ds : List D}, RepL K F vs ds → RepL K F (List.zipWith (fun k' d' => if kyD k' = some k then v else d') ks vs) (List.zipWith (fun k' d' => if kyD k' = some k then d else d') ks ds)
  | [], _, _, _ => by simp only [List.zipWith_nil_left]; exact .nil
  | k0 :: ks, _, _, .nil => by simp only [List.zipWith_nil_right]; exact .nil
  | k0 :: ks, _, _, .cons h1 h2 => by
    simp only [List.zipWith_cons_cons]
    by_cases c : kyD k0 = some k
    · rw [if_pos c, if_pos c]; exact .cons r1 (h2.putVs r1)
    · rw [if_neg c, if_neg c]; exact .cons h1 (h2.putVs r1)
theorem RepL.put {K : KF} {F : Hp} {v : V} {d : D} {k : Ky} {ks : List D} {vs : List V} {ds : List D} (r1 : Rep K F v d) (r : RepL K F vs ds) : RepL K F (Dl.putVs ks k vs v) (Dl.putVs ks k ds d) := by
  unfold Dl.putVs
  cases posD ks k with
  | none => exact r.app (.cons r1 .nil)
  | some n => exact RepL.putVs r1 r
theorem Rep.dctE {K : KF} {F : Hp} {v : V} {ks ds : List D} (r : Rep K F v (.dct ks ds)) : ∃ o b vs, v = .ref o ∧ DOr b F o ks vs ∧ RepL K F vs ds := by
  cases r with
  | dk s k r => exact ⟨_, false, _, rfl, ⟨_, .inr ⟨_, s⟩, k, rfl⟩, r⟩
  | dt s k r => exact ⟨_, true, _, rfl, ⟨_, .inr ⟨_, s⟩, k, rfl⟩, r⟩
theorem DOr.mono {F H : Hp} (e : Same F H) {o : Addr} {ks : List D} {vs : List V} : ∀ {b : Bool}, DOr b F o ks vs → DOr b H o ks vs
  | true, ⟨kvs, h, q⟩ => ⟨kvs, rd_mono e h, q⟩
  | false, ⟨kvs, h, q⟩ => ⟨kvs, rd_mono e h, q⟩
def kyB (ks : List D) (b : Bool) : Bool := ks.all fun k => match k with
  | .tup _ => b
  | _ => !b
theorem DOr.kind {H : Hp} {o : Addr} {ks : List D} {vs : List V} {b b' : Bool} (h : DOr b H o ks vs) (hn : ks ≠ []) (hb : kyB ks b' = true) : b = b' := by
  cases b with
  | true =>
    obtain ⟨kvs, _, e, _⟩ := h
    cases kvs with
    | nil => exact absurd e.symm hn
    | cons p r => subst e; have := List.all_eq_true.mp hb _ List.mem_cons_self; simpa using this.symm
  | false =>
    obtain ⟨kvs, _, e, _⟩ := h
    cases kvs with
    | nil => exact absurd e.symm hn
    | cons p r =>
      subst e
      have := List.all_eq_true.mp hb _ List.mem_cons_self
      obtain ⟨k, v⟩ := p
      cases k <;> simpa [kD] using this
end Dl
namespace Dl
open PySem PySem.Spec PyProof.Rows L2
variable [Tbs]
def smK : D → Bool
  | .tup xs => small xs.length
  | _ => true
theorem RepL.ofKeys {K : KF} {F : Hp} : ∀ k : List Key, RepL K F (k.map kV) (k.map kD)
  | [] => .nil
  | .inl i :: r => .cons (.int i) (RepL.ofKeys r)
  | .inr x :: r => .cons (.str x) (RepL.ofKeys r)
end Dl
namespace Dl
open PySem PySem.Spec PyProof.Rows L2
end Dl
namespace Dl
open PySem PySem.Spec PyProof.Rows L2
end Dl
namespace Dl
open PySem PySem.Spec PyProof.Rows L2
variable [Tbs]
theorem OwnL.dict {K : KF} {F H : Hp} {Wr : Wm} {vs : List V} {ps : List Ent} {t : Ow} {p : Addr} {ks : List D} {kv : List (List Key × V)} (h : OwnL K F H Wr vs ps) (ha : allO t ps = true) (hn : Wr p = none) (hp : H p = some (.dT kv)) (e1 : kv.map (fun p => D.tup (p.1.map kD)) = ks) (e2 : kv.map (·.2) = vs) :
    OwnT K F H (fun a => if a = p then some [] else Wr a) (.d true t) [] (.ref p) (.dct ks (ps.map (·.2))) := by
  refine ⟨p, vs, ks, _, rfl, rfl, if_pos rfl, ⟨kv, hp, e1, e2⟩, by rw [List.length_map]; exact h.1, fun j v d e1 e2 => ?_⟩
  rw [List.getElem?_map] at e2
  cases q : ps[j]? with
  | none => rw [q] at e2; cases e2
  | some pr =>
    obtain ⟨t', d'⟩ := pr
    rw [q] at e2
    cases e2
    have et : t' = t := of_decide_eq_true (List.all_eq_true.mp ha _ (List.mem_of_getElem? q))
    subst et
    exact OwnT.relab (p := [j]) (p' := [j]) (q := []) (fun a q z => by
      show (if a = p then some [] else Wr a) = _
      rw [if_neg (fun c => by subst c; rw [hn] at z; cases z)]
      exact z) (h.2 j v t' _ e1 q)
end Dl
namespace Dl
open PySem PySem.Spec PyProof.Rows L2
variable [Tbs]
def mmD (mx : Bool) : List Int → Option Int
  | [] => none
  | x :: r => some (r.foldl (fun a b => if mx = true then (if a < b then b else a) else (if b < a then b else a)) x)
section
variable {X : Cx} {ios : Ios} {Wx : WX} {e ke : Expr} {fs : M (List D)} {fk : M D} {p kpos pos : Pos}
def intsOf : List D → Option (List Int)
  | [] => some []
  | .int i :: r => (intsOf r).map (i :: ·)
  | _ => none
def mmS (mx : Bool) : List D → D → Option D
  | [.lst xs], z => (intsOf xs).map fun ns => match mmD mx ns with
    | some m => .int m
    | none => z
  | _, _ => none
def mmM (mx : Bool) (fs : M (List D)) (fk : M D) : M D := bnd fs fun xs => bnd fk fun z => ofO (mmS mx xs z)
end
end Dl
namespace Dl
open PySem PySem.Spec PyProof.Rows L2
variable [Tbs]
def srtOk (ps : List PyData) : Bool := (ps.all fun p => ps.all fun q => PySem.W.alike p q) && ((ps.all fun p => match p with | .tuple (_ :: _) => true | _ => false) || (ps.all fun p => match p with | .none => false | .tuple _ => false | _ => true)) && (ps.all fun p => decide (p.depth ≤ 8))
theorem srtOk_of {ps : List PyData} (h : srtOk ps = true) : PySem.W.AllAlike ps ∧ PySem.W.Sortable ps ∧ ∀ p ∈ ps, p.depth ≤ 8 := by
  obtain ⟨h12, h3⟩ := Bool.and_eq_true_iff.mp h
  obtain ⟨h1, h2⟩ := Bool.and_eq_true_iff.mp h12
  refine ⟨fun p hp q hq => List.all_eq_true.mp (List.all_eq_true.mp h1 p hp) q hq, ?_, fun p hp => of_decide_eq_true (List.all_eq_true.mp h3 p hp)⟩
  rcases Bool.or_eq_true_iff.mp h2 with h | h
  · refine .inl fun p hp => ?_
    have := List.all_eq_true.mp h p hp
    split at this
    · rename_i x r; exact ⟨x, r, rfl⟩
    · cases this
  · refine .inr fun p hp => ?_
    have := List.all_eq_true.mp h p hp
    split at this
    · cases this
    · cases this
    · rename_i n1 n2; exact ⟨n1, fun xs z => n2 xs z⟩
def srtZ {α : Type} (zs : List (α × PyData)) : List (α × PyData) := zs.mergeSort (PySem.W.dataLe false fun b => b.2)
theorem srtZ_map {α β : Type} (f : α → β) (zs : List (α × PyData)) : (srtZ zs).map (fun z => (f z.1, z.2)) = srtZ (zs.map fun z => (f z.1, z.2)) :=
  PySem.W.sort_maps (fun z : α × PyData => (f z.1, z.2)) fun a _ b _ => rfl
def rSrtL (K : KF) : List V → Hp → VK → Prop := fun vs H Q => ∃ (a : Addr) (xs : List V) (ps : List PyData), vs = [V.ref a] ∧ SqL K H a xs ∧ DpAll K H xs ps ∧ srtOk ps = true ∧ ∀ p, H p = none → Q (.ref p) (upd H p (.lst ((srtZ (xs.zip ps)).map (·.1))))
theorem zip_each {R : Value → V × PyData → Prop} : ∀ {us : List Value} {xs : List V} {ps : List PyData}, us.length = xs.length → xs.length = ps.length → (∀ (j : Nat) u x p, us[j]? = some u → xs[j]? = some x → ps[j]? = some p → R u (x, p)) → PySem.W.EachIs R us (xs.zip ps)
  | [], [], [], _, _, _ => .nil
  | u :: us, x :: xs, p :: ps, e1, e2, h => .cons (h 0 u x p rfl rfl rfl) (zip_each (by simpa using e1) (by simpa using e2) fun j u x p a b c => h (j + 1) u x p (by simpa using a) (by simpa using b) (by simpa using c))
  | [], [], _ :: _, _, e, _ => by simp at e
  | [], _ :: _, _, e, _, _ => by simp at e
  | _ :: _, [], _, e, _, _ => by simp at e
  | _ :: _, _ :: _, [], _, e, _ => by simp at e
theorem vals_get {xs : List V} {us : List Value} (r : Vals xs us) : ∀ {j : Nat} {u : Value} {x : V}, us[j]? = some u → xs[j]? = some x → RelV x u := by
  induction r with
  | nil => intro j u x a; simp at a
  | cons h t ih =>
    intro j u x a b
    cases j with
    | zero => simp at a b; subst a b; exact h
    | succ j => exact ih (by simpa using a) (by simpa using b)
theorem dp_len {K : KF} {H : Hp} : ∀ {xs : List V} {ps : List PyData}, DpAll K H xs ps → xs.length = ps.length
  | _, _, .nil => rfl
  | _, _, .cons _ t => by simp [dp_len t]
theorem dp_get {K : KF} {H : Hp} : ∀ {xs : List V} {ps : List PyData}, DpAll K H xs ps → ∀ {j : Nat} {x : V} {p : PyData}, xs[j]? = some x → ps[j]? = some p → Dp K H x p
  | _, _, .nil, j, x, p, a, _ => by simp at a
  | _, _, .cons h t, 0, x, p, a, b => by simp at a b; subst a b; exact h
  | _, _, .cons h t, j + 1, x, p, a, b => dp_get t (by simpa using a) (by simpa using b)
theorem each_vals {zs : List (V × PyData)} : ∀ {out : List Value}, PySem.W.EachIs (fun u b => RelV b.1 u) out zs → Vals (zs.map (·.1)) out := by
  induction zs with
  | nil => intro out h; cases h; exact .nil
  | cons z zs ih => intro out h; cases h with | cons a b => exact .cons a (ih b)
theorem zip_snd {xs : List V} {ps : List PyData} (h : xs.length = ps.length) : (xs.zip ps).map (fun b => b.2) = ps := by
  have := List.map_snd_zip (l₁ := xs) (l₂ := ps) (by omega)
  exact this
theorem srtZ_len {α : Type} (zs : List (α × PyData)) : (srtZ zs).length = zs.length := List.length_mergeSort _
theorem cr_srtL {X : Cx} (hu : X.A.units + 65 < cLine) : CallR X (.builtin "sorted") (rSrtL X.K) := by
  intro pins s σ H vs us Q I r h
  obtain ⟨a, xs, ps, rfl, hs, dp, ok, q⟩ := h
  obtain ⟨al, so, dep⟩ := srtOk_of ok
  obtain ⟨its, rv, hl, hz⟩ := I.list hs
  rw [Vals.ref1 r]
  have l1 : its.length = xs.length := rv.length.symm
  have l2 := dp_len dp
  have e1 : PySem.W.EachIs (fun u b => RelV b.1 u) its (xs.zip ps) := zip_each l1 l2 fun j u x p a b c => vals_get rv a b
  have e2 : PySem.W.EachIs (fun u (b : V × PyData) => ∃ as, Reads s.heap u b.2 as) its (xs.zip ps) := zip_each l1 l2 fun j u x p a b c => Dp.reads I p x u (dp_get dp b c) (vals_get rv a b)
  refine PySem.W.sorted_data (enc := fun b : V × PyData => b.2) hl.isList e1 e2 (by rw [zip_snd l2]; exact al) (by rw [zip_snd l2]; exact so) (by rw [List.length_zip]; omega) (fun b hb => ?_) fun out hlen eo => ?_
  · have := dep b.2 (by rw [← zip_snd l2]; exact List.mem_map_of_mem hb)
    omega
  · obtain ⟨ep, he⟩ := PyProof.Rows.sortedAll_at s.heap its out.toArray
    have hv : Vals ((srtZ (xs.zip ps)).map (·.1)) out := each_vals eo
    have hz2 : ((srtZ (xs.zip ps)).map (·.1)).length ≤ sizeLine := by rw [List.length_map, srtZ_len, List.length_zip]; omega
    refine ⟨.ref _, upd H (s.heap.objs.size + 1) (.lst ((srtZ (xs.zip ps)).map (·.1))), I.laid (t' := s.toks) (fun _ _ => PyProof.Rows.sortedAll_old) (Nat.le_succ _) ⟨hz2, out, ep, hv, he⟩, rfl, q _ (I.hok.fresh (Nat.le_succ _))⟩
def kP : Key → PyData
  | .inl i => .int i
  | .inr x => .str x
def rSrtT : List V → Hp → VK → Prop := fun vs H Q => ∃ (a : Addr) (kvs : List (List Key × V)), vs = [V.ref a] ∧ Rd H a (.dT kvs) ∧ srtOk (kvs.map fun p => PyData.tuple (p.1.map kP)) = true ∧
  ∀ p bs, H p = none → IsKeys H kvs bs → Q (.ref p) (upd H p (.lst ((srtZ ((bs.map V.ref).zip (kvs.map fun p => PyData.tuple (p.1.map kP)))).map (·.1))))
theorem dp_keys {K : KF} {H : Hp} : ∀ k : List Key, DpAll K H (k.map kV) (k.map kP)
  | [] => .nil
  | .inl i :: r => .cons (.int i) (dp_keys r)
  | .inr x :: r => .cons (.str x) (dp_keys r)
theorem dp_isKeys {K : KF} {H : Hp} {kvs : List (List Key × V)} {bs : List Addr} (h : IsKeys H kvs bs) : DpAll K H (bs.map V.ref) (kvs.map fun p => PyData.tuple (p.1.map kP)) := by
  unfold IsKeys at h
  induction h with
  | nil => exact .nil
  | cons h t ih => exact .cons (.tup (SqT.of h) (dp_keys _)) ih
theorem cr_srtT {X : Cx} (calm : X.calm = true) (hu : X.A.units + 65 < cLine) : CallR X (.builtin "sorted") rSrtT := by
  intro pins s σ H vs us Q I r h
  obtain ⟨a, kvs, rfl, hd, ok, q⟩ := h
  obtain ⟨al, so, dep⟩ := srtOk_of ok
  rw [Vals.ref1 r]
  obtain ⟨z, hs, ks, pr, o, es, ep, ho, hx, hdt, he, hn⟩ := (show ObjOk X.prog X.w H s.heap a (.dT kvs) from hd.ok I.hok)
  have n1 : es.size = ks.length := size_of_entries he
  have n2 : kvs.length = ks.length := Paired.length pr
  have isk := isKeys_of pr
  refine Calls.call_function_entry PyProof.Rows.kind_sorted PyProof.Rows.plain_sorted PyProof.Rows.entry_sorted (PyProof.Rows.args_sorted1 _) ?_
  unfold Builtin.«sorted»
  refine wpAny_bind (m := checkCount "sorted" 1 1 _) (wpAny_pure (wpAny_bind (PySem.W.kdu_collect (A := X.A.in1) (kdl_raw hs hx hdt) (I.ok.hd calm) ho (by omega) fun h1 tk acc kp it => ?_)))
  have ea : acc.toList = (ks.map fun x => x.2.1).map Value.ref := by
    rw [List.map_map]
    apply List.ext_getElem?
    intro j
    rw [List.getElem?_map]
    cases hj : acc.toList[j]? with
    | none =>
      have := List.getElem?_eq_none_iff.mp hj
      rw [Array.length_toList, it.1] at this
      rw [List.getElem?_eq_none (by omega)]
      rfl
    | some v =>
      obtain ⟨en, hen, hv⟩ := it.2 j v (by rw [← Array.getElem?_toList]; exact hj)
      have qe := entry_at he j
      rw [hen] at qe
      cases hb : ks[j]? with
      | none => rw [hb] at qe; exact nomatch (show some en = none from qe)
      | some b =>
        rw [hb] at qe
        rw [hv, show en = entryOfKey (tupleKind (mixKind X.prog X.w)) b from Option.some.inj qe]
        rfl
  have I1 : L2.Inv X pins σ H { s with heap := h1, toks := tk } := I.kept kp
  generalize hbs : (ks.map fun x => x.2.1) = bs at ea isk
  generalize hps : (kvs.map fun p => PyData.tuple (p.1.map kP)) = ps at *
  have lb : (bs.map V.ref).length = ps.length := by rw [← hbs, ← hps]; simp [n2]
  have rv : Vals (bs.map V.ref) acc.toList := by rw [ea]; exact vals_refs _
  have la : acc.toList.length = (bs.map V.ref).length := rv.length.symm
  have lz : acc.toList.length ≤ sizeLine := by rw [la, lb, ← hps, List.length_map]; omega
  have dpk : DpAll X.K H (bs.map V.ref) ps := by rw [← hps]; exact dp_isKeys isk
  refine wpAny_bind (wpAny_newList ?_ lz)
  generalize hh2 : h1.push (seqObj "list" acc.toList.toArray 0) = h2
  have at2 : h2.get? h1.objs.size = some (seqObj "list" acc.toList.toArray 0) := by rw [← hh2]; exact Heap.get?_push_size _ rfl
  have old2 : ∀ b u, h1.get? b = some u → h2.get? b = some u := fun b u e => by rw [← hh2]; exact Heap.get?_push_of_some _ e
  have sz2 : h2.objs.size = h1.objs.size + 1 := by rw [← hh2, size_push']
  show wpAny _ _ _ _ _ { s with heap := h2, toks := tk }
  have e1 : PySem.W.EachIs (fun u b => RelV b.1 u) acc.toList ((bs.map V.ref).zip ps) := zip_each la lb fun j u x p a b c => vals_get rv a b
  have e2 : PySem.W.EachIs (fun u (b : V × PyData) => ∃ as, Reads (PySem.W.sortingHeap h2 h1.objs.size acc.toList) u b.2 as) acc.toList ((bs.map V.ref).zip ps) := zip_each la lb fun j u x p a b c => by
    obtain ⟨as, rd⟩ := Dp.reads I1 p x u (dp_get dpk b c) (vals_get rv a b)
    refine ⟨as, PyProof.Rows.Reads.keeps (fun b o e => ?_) rd⟩
    have lt := Heap.lt_size e
    exact PySem.W.sortingHeap_old (Nat.ne_of_lt lt) (old2 b o e)
  have hal : PySem.W.AllAlike (((bs.map V.ref).zip ps).map fun b => b.2) := by rw [zip_snd lb]; exact al
  have hso : PySem.W.Sortable (((bs.map V.ref).zip ps).map fun b => b.2) := by rw [zip_snd lb]; exact so
  refine wpAny_bind (wpAny_holding (wpAny_call_entry PyProof.Rows.slot_list_sort ⟨_, at2, rfl⟩ PyProof.Rows.entry_list_sort
    (PySem.W.list_sort_vals (κ := PySem.W.dataKind (PySem.W.sortingHeap h2 h1.objs.size acc.toList) (((bs.map V.ref).zip ps).map fun b => b.2)) (s := { s with heap := h2, toks := tk }) at2
      (PySem.W.SortsAt.data (s := { s with heap := PySem.W.sortingHeap h2 h1.objs.size acc.toList, toks := tk }) (PySem.W.each_map (R := fun v d => ∃ as, Reads (PySem.W.sortingHeap h2 h1.objs.size acc.toList) v d as) (fun b : V × PyData => b.2) e2) hal hso (fun d hd => ?_)) lz ⟨_, rfl, ?_⟩)
    (PyProof.Rows.args_list_sort _)))
  · rw [zip_snd lb] at hd
    have := dep d hd
    show X.A.units + 1 + 1 + d.depth < cLine
    omega
  · generalize hout : PySem.W.sortVals (PySem.W.dataKind (PySem.W.sortingHeap h2 h1.objs.size acc.toList) (((bs.map V.ref).zip ps).map fun b => b.2)) false acc.toList acc.toList = out
    have eo := PySem.W.sortVals_data (enc := fun b : V × PyData => b.2) false e1 e2 hal
    rw [hout] at eo
    have hv : Vals ((srtZ ((bs.map V.ref).zip ps)).map (·.1)) out := each_vals eo
    obtain ⟨ep2, he2⟩ := PyProof.Rows.sortedHeap_at (vs := acc.toList) (out := out.toArray) at2
    have hz2 : ((srtZ ((bs.map V.ref).zip ps)).map (·.1)).length ≤ sizeLine := by rw [List.length_map, srtZ_len, List.length_zip]; omega
    refine wpAny_pure ⟨_, rfl, .ref h1.objs.size, upd H h1.objs.size (.lst ((srtZ ((bs.map V.ref).zip ps)).map (·.1))), I1.laid (t' := tk) (fun b u e => ?_) (Nat.le_refl _) (show ObjOk X.prog X.w _ _ _ (.lst _) from ⟨hz2, out, ep2, hv, he2⟩), rfl, q _ bs (I1.hok.fresh (Nat.le_refl _)) isk⟩
    have lt : b < h1.objs.size := Heap.lt_size e
    rw [PyProof.Rows.sortedHeap_old (Nat.ne_of_lt lt) (by rw [sz2]; exact Nat.lt_succ_of_lt lt)]
    exact old2 b u e
def sortedD : List D → Option D
  | [.lst xs] => (match toPs xs with
    | some ps => if srtOk ps = true then some (.lst ((srtZ (xs.zip ps)).map (·.1))) else none
    | none => none)
  | [.dct [] []] => some (.lst [])
  | [.dct ks _] => if ks.all smK = true ∧ small ks.length = true then (match toPs ks with
    | some ps => if ks.all (fun k => match k with | .tup _ => true | _ => false) = true ∧ ks.isEmpty = false ∧ srtOk ps = true then some (.lst ((srtZ (ks.zip ps)).map (·.1))) else if ks.isEmpty = true then none else none
    | none => none) else none
  | _ => none
theorem RepL.dps {K : KF} {F H : Hp} (e : Same F H) : ∀ {vs : List V} {ds : List D} {ps : List PyData}, RepL K F vs ds → toPs ds = some ps → DpAll K H vs ps
  | _, [], ps, r, h => by cases r; cases h; exact .nil
  | _, d :: ds, ps, r, h => by
    cases r with
    | cons r1 r2 =>
      obtain ⟨p, q, h1, h2, rfl⟩ := toPs_cons h
      exact .cons (r1.dp e d h1) (r2.dps e h2)
theorem repL_zip {K : KF} {F : Hp} {zs : List ((V × D) × PyData)} (h : ∀ z ∈ zs, Rep K F z.1.1 z.1.2) : RepL K F (zs.map fun z => z.1.1) (zs.map fun z => z.1.2) := by
  induction zs with
  | nil => exact .nil
  | cons z zs ih => exact .cons (h z List.mem_cons_self) (ih fun y hy => h y (List.mem_cons_of_mem _ hy))
theorem zip3_fst {vs : List V} {ds : List D} {ps : List PyData} (h1 : vs.length = ds.length) : (((vs.zip ds).zip ps).map fun z => (z.1.1, z.2)) = vs.zip ps ∧ (((vs.zip ds).zip ps).map fun z => (z.1.2, z.2)) = ds.zip ps := by
  induction vs generalizing ds ps with
  | nil => cases ds with
    | nil => exact ⟨rfl, rfl⟩
    | cons _ _ => simp at h1
  | cons v vs ih =>
    cases ds with
    | nil => simp at h1
    | cons d ds =>
      cases ps with
      | nil => exact ⟨rfl, rfl⟩
      | cons p ps =>
        obtain ⟨a, b⟩ := ih (ds := ds) (ps := ps) (by simpa using h1)
        exact ⟨by simp only [List.zip_cons_cons, List.map_cons, a], by simp only [List.zip_cons_cons, List.map_cons, b]⟩
theorem RepL.zipMem {K : KF} {F : Hp} : ∀ {vs : List V} {ds : List D}, RepL K F vs ds → ∀ z ∈ vs.zip ds, Rep K F z.1 z.2
  | _, [], r, z, h => by simp at h
  | [], _ :: _, r, z, h => by simp at h
  | v :: vs, d :: ds, r, z, h => by
    cases r with
    | cons r1 r2 =>
      rw [List.zip_cons_cons] at h
      rcases List.mem_cons.mp h with e | e
      · rw [e]; exact r1
      · exact r2.zipMem z e
theorem srtZ_rep {K : KF} {F : Hp} {vs : List V} {ds : List D} {ps : List PyData} (r : RepL K F vs ds) : RepL K F ((srtZ (vs.zip ps)).map (·.1)) ((srtZ (ds.zip ps)).map (·.1)) := by
  obtain ⟨e1, e2⟩ := zip3_fst (ps := ps) r.length
  have a1 : (srtZ (vs.zip ps)).map (·.1) = (srtZ ((vs.zip ds).zip ps)).map fun z => z.1.1 := by
    rw [← e1, ← srtZ_map (fun x : V × D => x.1), List.map_map]; rfl
  have a2 : (srtZ (ds.zip ps)).map (·.1) = (srtZ ((vs.zip ds).zip ps)).map fun z => z.1.2 := by
    rw [← e2, ← srtZ_map (fun x : V × D => x.2), List.map_map]; rfl
  rw [a1, a2]
  refine repL_zip fun z hz => ?_
  have hz' : z ∈ (vs.zip ds).zip ps := (List.mergeSort_perm _ _).mem_iff.mp hz
  have hz2 := (List.of_mem_zip (show (z.1, z.2) ∈ (vs.zip ds).zip ps from hz')).1
  exact r.zipMem z.1 hz2
theorem toPs_tups {kvs : List (List Key × V)} : toPs (kvs.map fun p => D.tup (p.1.map kD)) = some (kvs.map fun p => PyData.tuple (p.1.map kP)) := by
  have key : ∀ k : List Key, toPs (k.map kD) = some (k.map kP) := by
    intro k
    induction k with
    | nil => rfl
    | cons x r ih =>
      show (match toP (kD x), toPs (r.map kD) with | some p, some ps => some (p :: ps) | _, _ => none) = _
      rw [ih]
      cases x <;> rfl
  induction kvs with
  | nil => rfl
  | cons p r ih =>
    show (match toP (D.tup (p.1.map kD)), toPs (r.map fun p => D.tup (p.1.map kD)) with | some p, some ps => some (p :: ps) | _, _ => none) = _
    rw [ih]
    show (match (toPs (p.1.map kD)).map PyData.tuple, some (r.map fun p => PyData.tuple (p.1.map kP)) with | some p, some ps => some (p :: ps) | _, _ => none) = _
    rw [key]
    rfl
theorem isKeys_gr {K : KF} {F H : Hp} (fh : Same F H) {kvs : List (List Key × V)} {bs : List Addr} (h : IsKeys H kvs bs) (hs : (kvs.map fun p => D.tup (p.1.map kD)).all smK = true) : ∃ F', Gr F H F' H ∧ RepL K F' (bs.map V.ref) (kvs.map fun p => D.tup (p.1.map kD)) := by
  unfold IsKeys at h
  induction h with
  | nil => exact ⟨F, Gr.refl fh, .nil⟩
  | @cons p b ps bs h t ih =>
    have hs' : (smK (D.tup (p.1.map kD)) && (ps.map fun p => D.tup (p.1.map kD)).all smK) = true := hs
    obtain ⟨c1, c2⟩ := Bool.and_eq_true_iff.mp hs'
    obtain ⟨F', g, r⟩ := ih c2
    have sm : Same F' (upd F' b (.tup (p.1.map kV))) := fun a o e => by
      by_cases c : a = b
      · subst c
        have := g.fh _ _ e
        rw [h] at this
        cases this
        exact upd_same
      · rw [upd_ne c]; exact e
    refine ⟨upd F' b (.tup (p.1.map kV)), g.trans ⟨sm, Same.refl H, fun a o e => ?_, fun z => z, fun a o e n => ?_⟩, .cons (.tup (SqT.of upd_same) (of_decide_eq_true c1) (RepL.ofKeys _)) (r.mono sm _)⟩
    · by_cases c : a = b
      · subst c; rw [upd_same] at e; cases e; exact h
      · rw [upd_ne c] at e; exact g.fh _ _ e
    · by_cases c : a = b
      · subst c; rw [upd_same] at e; cases e; cases n
      · rw [upd_ne c] at e; exact .inl e
section
variable {X : Cx} {ios : Ios} {Wx : WX} {a b e : Expr} {es : List Expr} {fa fb : M D} {pos apos cpos npos p : Pos} {x : Str}
def rSrtE : List V → Hp → VK → Prop := fun vs H Q => ∃ a : Addr, vs = [V.ref a] ∧ Rd H a (.dK []) ∧ ∀ p, H p = none → Q (.ref p) (upd H p (.lst []))
def rSrtA (K : KF) : List V → Hp → VK → Prop := fun vs H Q => rSrtL K vs H Q ∨ rSrtT vs H Q ∨ rSrtE vs H Q
theorem call_srt (calm : X.calm = true) (hu : X.A.units + 65 < cLine) : CallR X (.builtin "sorted") (rSrtA X.K) := by
  intro pins s σ H vs us Q I r h
  rcases h with h | h | ⟨a, e, hd, q⟩
  · exact cr_srtL hu pins s σ H vs us Q I r h
  · exact cr_srtT calm hu pins s σ H vs us Q I r h
  · exact call_sortedDI calm pins s σ H vs us Q I r ⟨a, [], [], e, hd, rfl, by decide, fun ys p pm _ hp => by
      have := List.Perm.eq_nil pm
      subst this
      exact q p hp⟩
theorem cd_sorted {K : KF} : CallD K (rSrtA K) sortedD := by
  intro F H vs ds z Q fh r0 hz q
  unfold sortedD at hz
  split at hz
  · rename_i xs
    cases r0 with
    | cons r1 r2 =>
      cases r2
      cases r1 with
      | lst s zz rr =>
        split at hz
        · rename_i ps ep
          by_cases c : srtOk ps = true
          · rw [if_pos c] at hz
            cases hz
            refine .inl ⟨_, _, ps, rfl, SqL.of (fh _ _ s), rr.dps fh ep, c, fun p hp => ?_⟩
            rename_i vv _
            have g : Gr F H (upd F p (.lst ((srtZ (vv.zip ps)).map (·.1)))) (upd H p (.lst ((srtZ (vv.zip ps)).map (·.1)))) := Gr.new fh hp fun _ _ z => by cases z
            refine q _ _ _ g (.lst upd_same ?_ ((srtZ_rep rr).mono g.fx _))
            rw [List.length_map, srtZ_len, List.length_zip]
            omega
          · rw [if_neg c] at hz; cases hz
        · cases hz
  · cases hz
    cases r0 with
    | cons r1 r2 =>
      cases r2
      obtain ⟨o, b, vs, rfl, dr, rl⟩ := r1.dctE
      cases rl
      have fin : ∀ p, H p = none → Q (.ref p) (upd H p (.lst [])) := fun p hp => by
        have g : Gr F H (upd F p (.lst [])) (upd H p (.lst [])) := Gr.new fh hp fun _ _ z => by cases z
        exact q _ _ _ g (.lst upd_same (Nat.zero_le _) .nil)
      have dr := DOr.mono fh dr
      cases b with
      | false =>
        obtain ⟨kvs, h1, h2, h3⟩ := dr
        cases kvs with
        | cons _ _ => cases h2
        | nil => exact .inr (.inr ⟨o, rfl, h1, fin⟩)
      | true =>
        obtain ⟨kvs, h1, h2, h3⟩ := dr
        cases kvs with
        | cons _ _ => cases h2
        | nil =>
          refine .inr (.inl ⟨o, [], rfl, h1, rfl, fun p bs hp hk => ?_⟩)
          have : bs = [] := by
            unfold IsKeys at hk
            cases hk
            rfl
          subst this
          have e : srtZ (((([] : List Addr).map V.ref).zip ((([] : List (List Key × V)).map fun p => PyData.tuple (p.1.map kP))))) = [] := by simp [srtZ]
          rw [e]
          exact fin p hp
  · rename_i ks ds' _
    by_cases cs : ks.all smK = true ∧ small ks.length = true
    · rw [if_pos cs] at hz
      split at hz
      · rename_i ps ep
        by_cases c : ks.all (fun k => match k with | .tup _ => true | _ => false) = true ∧ ks.isEmpty = false ∧ srtOk ps = true
        · rw [if_pos c] at hz
          cases hz
          cases r0 with
          | cons r1 r2 =>
            cases r2
            cases r1 with
            | @dk a o kvs _ _ s k r =>
              subst k
              cases kvs with
              | nil => cases c.2.1
              | cons kv rest =>
                have := List.all_eq_true.mp c.1 _ List.mem_cons_self
                obtain ⟨k, v⟩ := kv
                cases k <;> cases this
            | @dt a o kvs _ _ s k r =>
              subst k
              rw [toPs_tups] at ep
              cases ep
              refine .inr (.inl ⟨a, kvs, rfl, .inr ⟨o, fh _ _ s⟩, c.2.2, fun p bs hp hk => ?_⟩)
              obtain ⟨F', g, rk⟩ := isKeys_gr (K := K) fh hk cs.1
              have g2 : Gr F' H (upd F' p (.lst ((srtZ ((bs.map V.ref).zip (kvs.map fun p => PyData.tuple (p.1.map kP)))).map (·.1)))) (upd H p (.lst ((srtZ ((bs.map V.ref).zip (kvs.map fun p => PyData.tuple (p.1.map kP)))).map (·.1)))) := Gr.new g.fh hp fun _ _ z => by cases z
              refine q _ _ _ (g.trans g2) (.lst upd_same ?_ ((srtZ_rep rk).mono g2.fx _))
              have := of_decide_eq_true cs.2
              rw [List.length_map, srtZ_len, List.length_zip]
              omega
        · rw [if_neg c] at hz
          split at hz <;> cases hz
      · cases hz
    · rw [if_neg cs] at hz; cases hz
  · cases hz
end
end Dl
namespace Dl
open PySem PySem.Spec PyProof.Rows L2
end Dl
namespace Dl
open PySem PySem.Spec PyProof.Rows L2
variable [Tbs]
section
variable {prog : Program} {w : World} {A : Around} {Ex : Value → Shared → Prop} {s : Shared} {l : Addr} {its : List Value} {ns : List Int}
theorem F53.iterT {xs : Array Value} {Q : Value → Shared → Prop} (hl : s.heap.IsTuple l xs)
    (h : ∀ s₂ : Shared, s₂ = { s with heap := s.heap.push { cls := .type "tuple_iterator", data := .fields #[.ref l, .int 0 0] } } →
      (s₂.heap.IsTupleIter s.heap.objs.size l 0 ∧ s₂.heap.IsTuple l xs) → (∀ b ∈ [s.heap.objs.size, l], b < s₂.heap.objs.size) → l ≠ s.heap.objs.size → Q (.ref s.heap.objs.size) s₂) :
    wpAny (model prog w) A (pyIter (.ref l)) Q Ex s := by
  have hlt : l < s.heap.objs.size := by obtain ⟨_, e, _⟩ := hl; exact Heap.lt_size e
  refine wpAny_pyIter_tuple hl (h _ rfl ⟨⟨_, Heap.get?_push_size _ rfl, rfl, rfl⟩, hl.push _⟩ (fun b hb => ?_) (Nat.ne_of_lt hlt))
  show b < (s.heap.push _).objs.size
  rw [Heap.size_push]
  rcases List.mem_cons.mp hb with rfl | hb
  · exact Nat.lt_succ_self _
  · rcases List.mem_cons.mp hb with rfl | hb
    · exact Nat.lt_succ_of_lt hlt
    · cases hb
theorem F53.old {h' : Heap} (hk : ∀ b o, b ∉ [s.heap.objs.size] → (s.heap.push { cls := .type "tuple_iterator", data := .fields #[.ref l, .int 0 0] }).get? b = some o → h'.get? b = some o) :
    ∀ b o, s.heap.get? b = some o → h'.get? b = some o := fun b o e => by
  refine hk b o (fun hm => ?_) (Heap.get?_push_of_some _ e)
  rcases List.mem_cons.mp hm with e1 | hm
  · exact absurd (e1 ▸ Heap.lt_size e) (Nat.lt_irrefl _)
  · cases hm
theorem F53.max (hh : A.handled = none) (hl : s.heap.IsTuple l its.toArray) (hi : IntsAre its ns) (hne : 0 < ns.length)
    (h : ∀ h' tk M t', (∀ b o, s.heap.get? b = some o → h'.get? b = some o) → M ∈ ns → (∀ a, a ∈ ns → a ≤ M) → Q (.int M t') { s with heap := h', toks := tk }) : wpAny (model prog w) A (call (.builtin "max") [.ref l]) Q Ex s := by
  obtain ⟨xs, e⟩ := hi.allInts.items
  have hn : numsOf (intItems xs).toList = ns := by rw [← e]; exact hi.numsOf
  rw [nums_intItems] at hn
  subst hn
  rw [e] at hl
  have hsz : 0 < xs.size := by simpa using hne
  refine call_max_walk (F53.iterT hl fun s₂ e st hfp hlI => ?_)
  subst e
  refine ⟨_, _, _, _, _, _, _, rfl, Walks.tuple (A := A.in1) hh _ l hlI (intItems xs), st, hfp, by simpa [intItems] using hsz, CmpOf.ints_gt (numAt xs) (fun _ _ => intItems_at), fun v h' tk hP hk => ?_⟩
  have hv : (intItems xs)[argBest (fun i j => decide (numAt xs i > numAt xs j)) (xs.size - 1)]? = some v := by simpa [intItems] using hP
  obtain ⟨t, rfl⟩ := intItems_at hv
  obtain ⟨h1, h2⟩ := argBest_gt (numAt xs) (xs.size - 1)
  refine h h' tk _ t (F53.old hk) ?_ fun a ha => ?_
  · rw [numAt_eq]; exact PySem.getD_mem (by rw [List.length_map, Array.length_toList]; omega)
  · obtain ⟨j, hj, rfl⟩ := mem_getD ha
    rw [List.length_map, Array.length_toList] at hj
    rw [← numAt_eq]; exact h2 j (by omega)
theorem F53.min (hh : A.handled = none) (hl : s.heap.IsTuple l its.toArray) (hi : IntsAre its ns) (hne : 0 < ns.length)
    (h : ∀ h' tk M t', (∀ b o, s.heap.get? b = some o → h'.get? b = some o) → M ∈ ns → (∀ a, a ∈ ns → M ≤ a) → Q (.int M t') { s with heap := h', toks := tk }) : wpAny (model prog w) A (call (.builtin "min") [.ref l]) Q Ex s := by
  obtain ⟨xs, e⟩ := hi.allInts.items
  have hn : numsOf (intItems xs).toList = ns := by rw [← e]; exact hi.numsOf
  rw [nums_intItems] at hn
  subst hn
  rw [e] at hl
  have hsz : 0 < xs.size := by simpa using hne
  refine call_min_walk (F53.iterT hl fun s₂ e st hfp hlI => ?_)
  subst e
  refine ⟨_, _, _, _, _, _, _, rfl, Walks.tuple (A := A.in1) hh _ l hlI (intItems xs), st, hfp, by simpa [intItems] using hsz, CmpOf.ints_lt (numAt xs) (fun _ _ => intItems_at), fun v h' tk hP hk => ?_⟩
  have hv : (intItems xs)[argBest (fun i j => decide (numAt xs i < numAt xs j)) (xs.size - 1)]? = some v := by simpa [intItems] using hP
  obtain ⟨t, rfl⟩ := intItems_at hv
  obtain ⟨h1, h2⟩ := argBest_lt (numAt xs) (xs.size - 1)
  refine h h' tk _ t (F53.old hk) ?_ fun a ha => ?_
  · rw [numAt_eq]; exact PySem.getD_mem (by rw [List.length_map, Array.length_toList]; omega)
  · obtain ⟨j, hj, rfl⟩ := mem_getD ha
    rw [List.length_map, Array.length_toList] at hj
    rw [← numAt_eq]; exact h2 j (by omega)
end
section
variable {X : Cx}
def rMaxS (K : KF) : List V → Hp → VK → Prop := fun vs H Q => ∃ (a : Addr) (ns : List Int), vs = [V.ref a] ∧ (SqL K H a (ns.map V.int) ∨ SqT K H a (ns.map V.int)) ∧ 0 < ns.length ∧ ∀ m, m ∈ ns → (∀ y, y ∈ ns → y ≤ m) → Q (.int m) H
def rMinS (K : KF) : List V → Hp → VK → Prop := fun vs H Q => ∃ (a : Addr) (ns : List Int), vs = [V.ref a] ∧ (SqL K H a (ns.map V.int) ∨ SqT K H a (ns.map V.int)) ∧ 0 < ns.length ∧ ∀ m, m ∈ ns → (∀ y, y ∈ ns → m ≤ y) → Q (.int m) H
theorem cr_maxS (hc : X.calm = true) : CallR X (.builtin "max") (rMaxS X.K) := by
  intro pins s σ H vs us Q I r h
  obtain ⟨a, ns, rfl, hs, hne, q⟩ := h
  rcases hs with hs | hs
  · exact cr_max hc pins s σ H _ us Q I r ⟨a, ns, rfl, hs, hne, q⟩
  · obtain ⟨its, rv, hl, _⟩ := I.tuple hs
    rw [Vals.ref1 r]
    exact F53.max (I.ok.hd hc) hl rv.ints hne fun h' tk m t' hk h1 h2 => ⟨.int _, H, I.kept hk, ⟨_, rfl⟩, q m h1 h2⟩
theorem cr_minS (hc : X.calm = true) : CallR X (.builtin "min") (rMinS X.K) := by
  intro pins s σ H vs us Q I r h
  obtain ⟨a, ns, rfl, hs, hne, q⟩ := h
  rcases hs with hs | hs
  · exact cr_min hc pins s σ H _ us Q I r ⟨a, ns, rfl, hs, hne, q⟩
  · obtain ⟨its, rv, hl, _⟩ := I.tuple hs
    rw [Vals.ref1 r]
    exact F53.min (I.ok.hd hc) hl rv.ints hne fun h' tk m t' hk h1 h2 => ⟨.int _, H, I.kept hk, ⟨_, rfl⟩, q m h1 h2⟩
end
def maxSD : List D → Option D := one fun d => (seqOf d).bind fun ds => (asIs ds).bind fun ns => match ns with
  | [] => none
  | n :: r => some (.int (topI n r))
def minSD : List D → Option D := one fun d => (seqOf d).bind fun ds => (asIs ds).bind fun ns => match ns with
  | [] => none
  | n :: r => some (.int (botI n r))
theorem cd_maxS {K : KF} : CallD K (rMaxS K) maxSD := by
  intro F H vs ds z Q fh r0 hz q
  obtain ⟨d, rfl, hz⟩ := one_of hz
  obtain ⟨v, rfl, r⟩ := r0.one
  obtain ⟨es, e0, hz⟩ := bind_of hz
  obtain ⟨ns, e, hz⟩ := bind_of hz
  obtain ⟨a, ws, rfl, s, r⟩ := seq_of fh r e0
  cases ns with
  | nil => cases hz
  | cons n ns =>
    cases hz
    refine ⟨a, n :: ns, rfl, (r.ints e) ▸ s, Nat.zero_lt_succ _, fun m hm hy => ?_⟩
    have h1 : m ≤ topI n ns := topI_ge ns n m (List.mem_cons.mp hm)
    have h2 : topI n ns ≤ m := hy _ (List.mem_cons.mpr (topI_mem ns n))
    rw [show m = topI n ns by omega]
    exact q F H _ (Gr.refl fh) (.int _)
theorem cd_minS {K : KF} : CallD K (rMinS K) minSD := by
  intro F H vs ds z Q fh r0 hz q
  obtain ⟨d, rfl, hz⟩ := one_of hz
  obtain ⟨v, rfl, r⟩ := r0.one
  obtain ⟨es, e0, hz⟩ := bind_of hz
  obtain ⟨ns, e, hz⟩ := bind_of hz
  obtain ⟨a, ws, rfl, s, r⟩ := seq_of fh r e0
  cases ns with
  | nil => cases hz
  | cons n ns =>
    cases hz
    refine ⟨a, n :: ns, rfl, (r.ints e) ▸ s, Nat.zero_lt_succ _, fun m hm hy => ?_⟩
    have h1 : botI n ns ≤ m := botI_le ns n m (List.mem_cons.mp hm)
    have h2 : m ≤ botI n ns := hy _ (List.mem_cons.mpr (botI_mem ns n))
    rw [show m = botI n ns by omega]
    exact q F H _ (Gr.refl fh) (.int _)
end Dl
namespace Dl
open PySem PySem.Spec PyProof.Rows L2
end Dl
namespace Dl
open PySem PySem.Spec PyProof.Rows L2
end Dl
namespace Dl
open PySem PySem.Spec PyProof.Rows L2
end Dl
namespace Dl
open PySem PySem.Spec PyProof.Rows L2
end Dl
namespace Dl
open PySem PySem.Spec PyProof.Rows L2
variable [Tbs]
theorem then_nx {g h : G} {E E' : Nv} (e : g E = .nx E') : then_ g h E = h E' := by unfold then_; rw [e]
end Dl
namespace Dl
open PySem PySem.Spec PyProof.Rows L2
end Dl
namespace Dl
open PySem PySem.Spec PyProof.Rows L2
end Dl
namespace Dl
open PySem PySem.Spec PyProof.Rows L2
variable [Tbs]
section
variable {K : KF} {ios : Ios} {B : Bs} {F : Hp} {W : Wm} {E : Nv} {σ : L2.St} {H : Hp} {i : Nat}
structure DT (K : KF) (F H : Hp) (W : Wm) (i : Nat) (t : Ow) (o : Addr) (vs : List V) (ks ds : List D) : Prop where
  w : W o = some [i]
  h : DOb true H o ks vs
  ln : vs.length = ds.length
  at' : ∀ (j : Nat) (v' : V) (d' : D), vs[j]? = some v' → ds[j]? = some d' → OwnT K F H W t [i, j] v' d'
theorem St.dt (S : St K ios B F W E σ H) {t : Ow} {ks ds : List D} (h : E[i]? = some (some (.d true t, .dct ks ds))) : ∃ o vs, σ[i]? = some (some (.ref o)) ∧ DT K F H W i t o vs ks ds := by
  obtain ⟨v, h1, o, vs, ks', ds', rfl, e, w, ho, ln, r⟩ := S.vr i _ _ h
  cases e
  exact ⟨o, vs, h1, w, ho, ln, r⟩
end
end Dl
namespace Dl
open PySem PySem.Spec PyProof.Rows L2
end Dl
namespace Dl
open PySem PySem.Spec PyProof.Rows L2
end Dl
namespace Dl
open PySem PySem.Spec PyProof.Rows L2 LamX
variable [Tbs]
def LamH (H : Hp) (P : Addr) (q : Str) (ps : Array Value) (pos : Pos) (c' : Addr) (H1 : Hp) : Prop := H1 = H ∨ (H c' = none ∧ H1 = upd (upd H P (.tbl (ps ++ #[rawInt pos.line, rawInt pos.col, .ref c']))) c' (CodeO c' q))
section
variable {X : Cx} {pins : List (Addr × Obj)} {σ : L2.St} {H : Hp} {s : Shared}
theorem lam_made {c P : Addr} {params : Arguments} {body : Expr} {scope : Scope} {pos : Pos} {ps : Array Value} {E : Value → Shared → Prop} {Q : Value → Shared → Prop} (I : Inv X pins σ H s) (TB : TabB X.base X.mg c P) (hcode : X.env.code = .ref c)
    (hP : H P = some (.tbl ps)) (ht : TriplesOk ps.toList) (ha : ∀ (pos : Pos) (cv : Value), codeAmong pos ps.toList = some cv → ∃ c, cv = .ref c ∧ H c = some (CodeO c (X.env.qual ++ "<lambda>"))) (hdef : defaultsOf params X.env = ([], [])) (hfree : ∀ y ∈ scope.names, y.2 = .free → ∃ c, X.env.cells.lookup y.1 = some c)
    (h : ∀ (f c' : Addr) (pm ctv : Value) (H1 : Hp) (s' : Shared), Inv X pins σ H1 s' → LamH H P (X.env.qual ++ "<lambda>") ps pos c' H1 →
      s'.heap.get? f = some (PySem.W.kla_obj "<lambda>" (X.env.qual ++ "<lambda>") params body scope (cloFrom X.env.cells scope.names []) pm c' ctv) → H1 f = none → f ∉ frs X.stack → H1 c' = some (CodeO c' (X.env.qual ++ "<lambda>")) → Q (.ref f) s') :
    wpAny (model X.prog X.w) X.A (eval (.Lambda params body scope pos) X.env) Q E s := by
  have bP : s.heap.BuiltinsAt X.mg P := TB.bm.keeps I.bk
  have hP' : s.heap.get? P = some { cls := .none, data := .fields ps } := I.hok P _ hP
  have young : ∀ f, s.heap.objs.size ≤ f → f ∉ frs X.stack := fun f hf z => by
    rcases List.mem_cons.mp (I.stkSub _ z) with e | e
    · exact absurd I.lt (by rw [← e]; exact Nat.not_lt.mpr hf)
    · exact I.nofs hf e
  refine PySem.W.kla_eval hdef ?_
  cases hc : codeAmong pos ps.toList with
  | some cv =>
    obtain ⟨c', rfl, hco⟩ := ha pos cv hc
    refine PySem.W.kla_makeFunctionHit (mg := X.mg) (c := c) (P := P) (ps := ps) (closure_ok hfree) I.ok.glob (I.mod.glob.keeps I.bk) hcode (TB.code.keeps I.bk) hP' ht hc bP fun ctv h' tk hx hsz => ?_
    exact h h'.objs.size c' _ ctv H _ (I.kept fun b o e => Heap.get?_push_of_some _ (hx b o e)) (.inl rfl) (Heap.get?_push_size _ rfl) (I.hok.fresh hsz) (young _ hsz) hco
  | none =>
    refine PySem.W.kla_makeFunction (mg := X.mg) (c := c) (P := P) (ps := ps) (closure_ok hfree) I.ok.glob (I.mod.glob.keeps I.bk) hcode (TB.code.keeps I.bk) hP' ht hc TB.gP bP fun c' ctv h' tk hx hge hlt hrec htb => ?_
    obtain ⟨_, oc, vs, t, ec, hoc, hd, hv⟩ := hrec
    cases ec
    have hsz : s.heap.objs.size ≤ h'.objs.size := Nat.le_trans hge (Nat.le_of_lt hlt)
    have nC : H c' = none := I.hok.fresh hge
    have n1 : h'.objs.size ≠ c' := Nat.ne_of_gt hlt
    have n2 : h'.objs.size ≠ P := Nat.ne_of_gt (Nat.lt_of_lt_of_le (Heap.lt_size hP') hsz)
    refine h h'.objs.size c' ((X.mg "__name__").getD .none) ctv _ _ (inv_table (t' := tk) (more := #[rawInt pos.line, rawInt pos.col, .ref c']) I hP (fun b o hb e => Heap.get?_push_of_some _ (hx b o hb e)) (Heap.get?_push_of_some _ htb) hge ⟨oc, vs, t, Heap.get?_push_of_some _ hoc, hd, hv⟩) (.inr ⟨nC, rfl⟩) (Heap.get?_push_size _ rfl) ?_ (young _ hsz) upd_same
    rw [upd_ne n1, upd_ne n2]
    exact I.hok.fresh hsz
theorem pe_actS {CXg : CXT} {Eg : XK} {Ng : List Str} {qg : Str} {sg : Scope} {g f c' : Addr} {cdg pm ctv : Value} {params : Arguments} {body : Expr} {scope : Scope} {k i : Nat} {a : Str} {pn : List (Addr × Obj)} {xe : Value → Shared → Prop} {W : WX} {tb : XK → TE} {p1 p2 : Pos}
    (I : Inv X pins σ H s) (L : LamS X.env.scope scope) (hf : s.heap.get? f = some (PySem.W.kla_obj "<lambda>" (X.env.qual ++ "<lambda>") params body scope (cloFrom X.env.cells scope.names []) pm c' ctv)) (hfn : H f = none) (hfr : f ∉ frs X.stack)
    (hbind : bindArgs (PySem.W.kla_fn "<lambda>" (X.env.qual ++ "<lambda>") params body scope (cloFrom X.env.cells scope.names []) pm (.ref c') ctv) ⟨[], []⟩ = pure [])
    (tk : Takes ((cxOf CXg X.prog X.w X.K X.mg X.base Ng qg sg g cdg X.A X.stack s H Eg).tr pn xe) W) (hr : Room (k + 1) (X.A.deeper (envOfC qg sg s.heap.objs.size g cdg))) (hgd : (X.A.deeper (envOfC qg sg s.heap.objs.size g cdg)).guards = some [])
    (hbody : ∀ (A : Around) (outer : List Env) (s : Shared) (H : Hp) (E : XK), Room k (A.deeper (lamEnv X scope s.heap.objs.size f c')) → (A.deeper (lamEnv X scope s.heap.objs.size f c')).guards = some [] → PE (lamCx X A outer s H E scope f c') body (tb E))
    (hN : Ng[i]? = some a) (hv : Vis sg a) (hd : (a == ("__debug__" : Str)) = false := by decide) (hcd : (a == ("__classdict__" : Str)) = false := by decide) :
    PE ((cxOf CXg X.prog X.w X.K X.mg X.base Ng qg sg g cdg X.A X.stack s H Eg).tr pn xe) (.Call (.Name a p1) [] [] p2)
      (fun σZ HZ Q => σZ[i]? = some (some (.ref f)) ∧ HZ c' = some (CodeO c' (X.env.qual ++ "<lambda>")) ∧ tb (WE W σZ) σ HZ Q) := by
  constructor
  rintro pinsZ sZ σZ HZ Q IZ ⟨hs, hc, ht⟩
  refine wpAny_Call_Name_kw (thn ((pe_var (pos := p1) (i := i) hN hv hd hcd).run pinsZ sZ σZ HZ (fun v H1 => v = .ref f ∧ H1 = HZ) IZ ⟨.ref f, hs, rfl, rfl⟩) ?_)
  rintro u s1 ⟨v, H1, I1, r1, rfl, rfl⟩
  cases (show u = Value.ref f from r1)
  have at1 := I1.base.keep f _ hf hfn hfr (fun z => nomatch (show f ∈ ([] : List Addr) from z))
  have un : Un (frs X.stack) [] H H1 s.heap s1.heap := I1.base
  obtain ⟨⟨oc, vs, t, hoc, hdc, hvc⟩, _, _⟩ := I1.hok c' _ hc
  have rc : codeAny (model X.prog X.w) (X.A.deeper (envOfC qg sg s.heap.objs.size g cdg)) (.call (.ref f) ⟨[], []⟩) (CR (L2.CX X.prog X.w) (envOfC qg sg s.heap.objs.size g cdg :: X.stack) X.prog X.w H1 s1 Q (WE W σZ)) s1 := by
    refine PySem.W.kla_callFunE hr.depth at1 rfl L.co L.gen rfl ⟨c', oc, vs, t, rfl, hoc, hdc, hvc⟩ ?_
    rw [hbind]
    refine wpAny_pure (wpAny_newFunctionEnv (fun y hy => (L.own y hy).2) (fun y hy => absurd hy (by simp)) (fun h₁ hns hsb => ⟨I1.nolimit.fresh _ hsb, ?_⟩) L.kind)
    have kp : ∀ b o, s1.heap.get? b = some o → h₁.get? b = some o := fun b o e => hsb.extBut b o (Nat.ne_of_lt (Heap.lt_size e)) (Heap.get?_push_of_some _ e)
    have J : Inv (lamCx X (X.A.deeper (envOfC qg sg s.heap.objs.size g cdg)) (envOfC qg sg s.heap.objs.size g cdg :: X.stack) s1 H1 (WE W σZ) scope f c') [] σ H1 { s1 with heap := h₁, toks := s1.toks + ([] : List (Str × Value)).length } :=
      lam_start2 I L I1.env0 hr.hd un hns kp
    refine PySem.W.kla_codeExpr (wpAny_mono ((hbody _ _ s1 H1 (WE W σZ) (hr.deeper _) hgd).run [] _ _ H1 Q J ht) (fun v s' hq => ?_) fun e s' hq => hq)
    obtain ⟨w', H', J', rv, q⟩ := hq
    exact ⟨w', H', J'.os, J'.bare, J'.base, J'.hok, rv, q⟩
  refine PySem.W.callWith_F0 ⟨_, _, _, _, at1⟩ (wpAny_call (codeAny_mono rc fun r s' hq => ?_))
  match r, hq with
  | .error ex, hq => exact tk ex s' (XE.of_call I1 (fun _ _ _ y => y) hq)
  | .ok (.ret u), hq => exact I1.after hq
  | .ok .next, hq => exact hq.elim
  | .ok .brk, hq => exact hq.elim
  | .ok .cont, hq => exact hq.elim
end
section
variable {K : KF} {ios : Ios} {B : Bs} {F : Hp} {W : Wm} {E : Nv} {σ : L2.St} {H H1 : Hp}
theorem lam_stp {P c' : Addr} {q : Str} {ps : Array Value} {pos : Pos} (S : St K ios B F W E σ H) (hn : Tbs.n P = some q) (hP : H P = some (.tbl ps)) (lh : LamH H P q ps pos c' H1) : Stp F W H F W H1 := by
  rcases lh with rfl | ⟨nC, rfl⟩
  · exact Stp.refl _ _ _
  have tw := S.tbs P q hn
  have nPc : P ≠ c' := ne_of_none hP nC
  have at_ : ∀ b, b ≠ P → b ≠ c' → upd (upd H P (.tbl (ps ++ #[rawInt pos.line, rawInt pos.col, .ref c']))) c' (CodeO c' q) b = H b := fun b h1 h2 => by rw [upd_ne h2, upd_ne h1]
  have atP : upd (upd H P (.tbl (ps ++ #[rawInt pos.line, rawInt pos.col, .ref c']))) c' (CodeO c' q) P = some (.tbl (ps ++ #[rawInt pos.line, rawInt pos.col, .ref c'])) := by rw [upd_ne nPc, upd_same]
  have stay : ∀ a o, H a = some o → a ≠ P → upd (upd H P (.tbl (ps ++ #[rawInt pos.line, rawInt pos.col, .ref c']))) c' (CodeO c' q) a = some o := fun a o h n => by rw [at_ a n (ne_of_none h nC)]; exact h
  have nW : W c' = none := by
    cases e : W c' with
    | none => rfl
    | some l =>
      obtain ⟨_, o, h, _⟩ := S.ow c' l e
      rw [nC] at h; cases h
  refine ⟨Same.refl F, fun _ _ h _ => .inl h, fun _ _ h => h, fun _ _ h => .inl h, fun a o h _ tn => stay a o h fun z => ?_, fun a o h => ?_, fun a o f h => stay a o h fun z => ?_, fun P2 q2 tw2 => ?_⟩
  · subst z; rw [hP] at h; cases h; exact tn _ rfl
  · by_cases z : a = P
    · exact ⟨_, by rw [z]; exact atP⟩
    · exact ⟨o, stay a o h z⟩
  · subst z; rw [tw.1] at f; cases f
  · by_cases z : P2 = P
    · subst z
      obtain ⟨h1, h2, ps', h3, ⟨h4, h5⟩, h6⟩ := tw2
      rw [hP] at h3
      cases h3
      rw [hn] at h5
      cases h5
      have eL : (ps ++ #[rawInt pos.line, rawInt pos.col, Value.ref c']).toList = ps.toList ++ [rawInt pos.line, rawInt pos.col, .ref c'] := by simp
      refine ⟨h1, h2, _, atP, ⟨by rw [eL]; exact PySem.TriplesOk_snoc _ _ _ _ h4, hn⟩, fun p' cv e => ?_⟩
      rw [eL] at e
      rcases among_app _ h4 e with e | e
      · obtain ⟨c0, e1, e2, e3⟩ := h6 p' cv e
        exact ⟨c0, e1, e2, stay _ _ e3 fun z => by rw [z, hP] at e3; exact codeO_ne ps (Option.some.inj e3).symm⟩
      · exact ⟨c', e, nW, upd_same⟩
    · obtain ⟨h1, h2, ps', h3, h4, h6⟩ := tw2
      refine ⟨h1, h2, ps', stay _ _ h3 z, h4, fun p' cv e => ?_⟩
      obtain ⟨c0, e1, e2, e3⟩ := h6 p' cv e
      exact ⟨c0, e1, e2, stay _ _ e3 fun z => by rw [z, hP] at e3; exact codeO_ne ps (Option.some.inj e3).symm⟩
theorem St.lam {P c' : Addr} {q : Str} {ps : Array Value} {pos : Pos} (S : St K ios B F W E σ H) (hn : Tbs.n P = some q) (hP : H P = some (.tbl ps)) (lh : LamH H P q ps pos c' H1) : St K ios B F W E σ H1 := by
  have t := lam_stp S hn hP lh
  have stay : ∀ a o, H a = some o → nxo o = true → H1 a = some o := fun a o h n => by
    rcases lh with rfl | ⟨nC, rfl⟩
    · exact h
    · rw [upd_ne (ne_of_none h nC), upd_ne (fun z => by subst z; rw [hP] at h; cases h; cases n)]
      exact h
  refine ⟨fun a o f => t.fk a o f (S.fh a o f), S.st.trans t, fun a ob u e => ?_, fun a l w => ?_, S.fr, S.w0, fun i t0 d e => ?_, S.pn, S.ln, S.xo⟩
  · rcases lh with rfl | ⟨nC, rfl⟩
    · exact S.nz a ob u e
    · by_cases z : a = c'
      · subst z; rw [upd_same] at e; exact absurd e (by unfold CodeO; intro y; cases y)
      · rw [upd_ne z] at e
        by_cases z2 : a = P
        · subst z2; rw [upd_same] at e; cases e
        · rw [upd_ne z2] at e; exact S.nz a ob u e
  · obtain ⟨h1, o, h2, h3⟩ := S.ow a l w
    exact ⟨h1, o, stay a o h2 h3, h3⟩
  · obtain ⟨v, h1, h2⟩ := S.vr i t0 d e
    exact ⟨v, h1, h2.keep (Same.refl F) (fun _ _ z => z) fun a l o w h => by
      obtain ⟨_, o', z1, z2⟩ := S.ow a l w
      rw [h] at z1
      cases z1
      exact stay a o h z2⟩
theorem St.byN {F3 H3 : Hp} {W3 : Wm} (S : St K ios B F W E σ H) (t : Stp F Dl.noW H F3 W3 H3) (fh : Same F3 H3) (nz : NoFz H3) : St K ios B F3 W E σ H3 ∧ Stp F W H F3 W H3 := by
  have own : ∀ a l, W a = some l → ∃ o, H3 a = some o ∧ nxo o = true := fun a l w => by
    obtain ⟨_, o, z1, z2⟩ := S.ow a l w
    exact ⟨o, t.hx a o z1 rfl (nxo_tbl z2), z2⟩
  have s : Stp F W H F3 W H3 := ⟨t.fx, t.fn, fun _ _ h => h, fun _ _ h => .inl h, fun a o h _ tn => t.hx a o h rfl tn, t.hd, t.fk, fun P q tw => (t.tb P q (tw.w fun a l z => by cases z)).w own⟩
  refine ⟨⟨fh, S.st.trans s, nz, fun a l w => ?_, S.fr, S.w0, fun i t0 d e => ?_, S.pn, S.ln, S.xo⟩, s⟩
  · obtain ⟨h1, o, h2, h3⟩ := S.ow a l w
    have h4 := t.hx a o h2 rfl (nxo_tbl h3)
    exact ⟨s.nf fh h1 h2 h4 h3, o, h4, h3⟩
  · obtain ⟨v, h1, h2⟩ := S.vr i t0 d e
    exact ⟨v, h1, h2.keep t.fx (fun _ _ z => z) fun a l o w h => by
      obtain ⟨_, o', z1, z2⟩ := S.ow a l w
      rw [h] at z1
      cases z1
      exact t.hx a o h rfl (nxo_tbl z2)⟩
end
def bl1 : Option Ent → Option Ent
  | some (.sh, d) => some (.sh, d)
  | _ => none
def bl (E : Nv) : Nv := E.map bl1
theorem bl_get {E : Nv} {i : Nat} {t : Ow} {d : D} (h : (bl E)[i]? = some (some (t, d))) : t = .sh ∧ E[i]? = some (some (.sh, d)) := by
  unfold bl at h
  rw [List.getElem?_map] at h
  cases q : E[i]? with
  | none => rw [q] at h; cases h
  | some o =>
    rw [q] at h
    cases o with
    | none => cases h
    | some p =>
      obtain ⟨t0, d0⟩ := p
      cases t0 with
      | sh => cases h; exact ⟨rfl, rfl⟩
      | _ => cases h
theorem bl_len (E : Nv) : (bl E).length = E.length := by unfold bl; rw [List.length_map]
def actO (r : Rs Ent) : M Ent := fun E => match r with
  | .ok p _ => .ok p E
  | .er x _ => .er x E
  | .stk => .stk
def lamO (N : Nat) (gx : M Ent → G) (fe : M Ent) (ds : List D) : M Ent := fun E => match gx (actO (fe (bl E))) ((ds.map fun d => some (Ow.sh, d)) ++ List.replicate (N - ds.length) none) with
  | .rt p _ => .ok p E
  | .nx _ => .ok (.sh, .non) E
  | .er x _ => .er x E
  | _ => .stk
def unF (F0 F : Hp) (c : Addr) : Hp := fun a => if a = c then F0 a else F a
section
variable {K : KF} {ios : Ios} {B : Bs} {F0 : Hp} {E : Nv} {σ : L2.St} {H1 : Hp} {c' : Addr} {q : Str}
theorem unF_off {F0 F2 H2 : Hp} (fh : Same F2 H2) (hc : F2 c' = some (CodeO c' q)) : ∀ a o, F2 a = some o → nxd o = true → unF F0 F2 c' a = some o := fun a o h n => by
  unfold unF
  rw [if_neg (fun z => by subst z; rw [hc] at h; cases h; unfold CodeO at n; cases n)]
  exact h
theorem St.unlam {iosZ : Ios} {pnz : Nat → Option V} {F2 H2 : Hp} {W2 : Wm} {E2 : Nv} {σ2 : L2.St} (SL : St K ios ⟨B.pn, F0, Dl.noW, H1⟩ F0 Dl.noW E σ H1) (hc : H1 c' = some (CodeO c' q)) (S2 : St K iosZ ⟨pnz, upd F0 c' (CodeO c' q), Dl.noW, H1⟩ F2 W2 E2 σ2 H2) :
    St K ios ⟨B.pn, F0, Dl.noW, H1⟩ (unF F0 F2 c') Dl.noW E σ H2 ∧ F2 c' = some (CodeO c' q) := by
  have t : Stp (upd F0 c' (CodeO c' q)) Dl.noW H1 F2 W2 H2 := S2.st
  have f2 : F2 c' = some (CodeO c' q) := t.fx _ _ upd_same
  have old : ∀ a o, F0 a = some o → upd F0 c' (CodeO c' q) a = some o := fun a o h => by
    by_cases z : a = c'
    · subst z
      have := SL.fh _ _ h
      rw [hc] at this
      cases this
      exact upd_same
    · rw [upd_ne z]; exact h
  have fx : Same F0 (unF F0 F2 c') := fun a o h => by
    unfold unF
    split
    · exact h
    · exact t.fx _ _ (old a o h)
  have fh : Same (unF F0 F2 c') H2 := fun a o h => by
    unfold unF at h
    split at h
    · exact S2.fh _ _ (t.fx _ _ (old a o h))
    · exact S2.fh _ _ h
  refine ⟨⟨fh, ?_, S2.nz, fun a l z => (by cases z), fun a l z => (by cases z), fun a l z => (by cases z), fun i t0 d e => ?_, SL.pn, SL.ln, SL.xo⟩, f2⟩
  · refine ⟨fx, fun a o h n => ?_, fun a l z => (by cases z), fun a l z => (by cases z), fun a o h _ tn => t.hx a o h rfl tn, t.hd, fun a o f h => t.fk a o (old a o f) h, fun P q' tw => ?_⟩
    · unfold unF at h
      split at h
      · exact .inl h
      · rename_i z
        rcases t.fn a o h n with y | y
        · rw [upd_ne z] at y; exact .inl y
        · exact .inr y
    · obtain ⟨w1, w2, ps2, hP, w3⟩ := tw
      replace hP : H1 P = some (.tbl ps2) := hP
      have ne : P ≠ c' := fun z => by
        rw [z, hc] at hP
        exact codeO_ne _ (Option.some.inj hP)
      have t1 : TabW (upd F0 c' (CodeO c' q)) H1 Dl.noW P q' := ⟨by rw [upd_ne ne]; exact w1, w2, ps2, hP, w3⟩
      have t2 := t.tb P q' t1
      have t3 : TabW F2 H2 Dl.noW P q' := t2.w fun a l z => by cases z
      exact ⟨by unfold unF; rw [if_neg ne]; exact t3.1, t3.2⟩
  · obtain ⟨v, h1, h2⟩ := SL.vr i t0 d e
    exact ⟨v, h1, h2.keep fx (fun _ _ z => z) fun a l o w _ => by cases w⟩
end
section
variable {P : Program} {w : World} {K : KF} {mg : Str → Option Value} {base : Heap}
theorem run_at {x qual : Str} {params : Arguments} {body : List Stmt} {scope : Scope} {dvs : List V} {kws : List (Str × V)} {f : Addr} {fd : FuncData} {N ps : List Str} {k : Nat} {A : Around} {outer : List Env} {s : Shared} {H : Hp} {args : Args} {us : List Value} {vs : List V} {Q : VK} {E : XK}
    (F : FunD K x qual params body scope dvs kws f fd) (S : FnScope N ps scope) (vl : vs.length = ps.length) (room : Room (k + 1) A) (guards : A.guards = some []) (env : Env0 P w K mg base A outer s H) (binds : BindsTo s fd args (ps.zip us)) (vals : Vals vs us)
    (hb : ∀ (cdv : Value), Room k (A.deeper (envOfC qual scope s.heap.objs.size f cdv)) → (A.deeper (envOfC qual scope s.heap.objs.size f cdv)).guards = some [] →
      ∃ t, PSs (cxOf (Cxt P w) P w K mg base N qual scope f cdv A outer s H E) body t ∧ t { nx := fun _ H' => Q .non H', rt := Q } (L2.start N vs) H) : codeAny (model P w) A (.call (.ref f) args) (CR (Cxt P w) outer P w H s Q E) s := by
  obtain ⟨oc, od, dV, kV, doc, pm, an, cdv, ct, osl, efd, lk, hcd, _, _⟩ := F.ex
  subst efd
  have stays : ∀ b o, base.get? b = some o → s.heap.get? b = some o := fun b o z => (env.bs b o z).1
  have inHeap : K.In s.heap := env.mod.kin.keeps stays
  have kinds : ∀ y ∈ ps.zip us, scope.names.lookup y.1 = some .local ∨ (scope.names.lookup y.1 = some .cell ∧ ((cellsFrom (s.heap.objs.size + 1) scope.names []).lookup y.1).isSome = true) := by
    rintro ⟨n, v⟩ hy
    cases S.par n (List.of_mem_zip hy).1 with
    | inl q => exact Or.inl q
    | inr q => exact Or.inr ⟨q, PySem.W.cellsFrom_some _ _ _ (Or.inl q)⟩
  refine codeAny_call_function room.depth (inHeap _ _ lk) rfl S.co S.gen rfl (PySem.W.codeRec_of inHeap hcd) (binds _ _ _ _ (wpAny_newFunctionEnv_cells S.kind kinds ?_))
  intro env' e' s1 ic
  subst e'
  refine ⟨(env.mod.nolimit.keeps stays).keeps ic.toInCall.keep, codeAny_func ?_⟩
  obtain ⟨t, pt, rd⟩ := hb cdv (room.deeper _) guards
  have inv : Inv (cxOf (Cxt P w) P w K mg base N qual scope f cdv A outer s H E) [] (L2.start N vs) H s1 := inv_start S room.hd env vl vals ic
  refine wpAny_mono (pt.run [] s1 (L2.start N vs) H _ inv rd) ?_ fun e s' z => z
  intro fl s' z
  cases fl with
  | ret u =>
    obtain ⟨v, σ', H', J, rv, q⟩ := z
    exact ⟨v, H', J.os, J.bare, J.base, J.hok, rv, q⟩
  | next =>
    obtain ⟨σ', H', J, q⟩ := z
    exact ⟨.non, H', J.os, J.bare, J.base, J.hok, rfl, q⟩
  | brk =>
    obtain ⟨_, _, _, q⟩ := z
    exact q.elim
  | cont =>
    obtain ⟨_, _, _, q⟩ := z
    exact q.elim
end
theorem XRep.off {K : KF} {F G H : Hp} {x : Xn} {c : Value} {dx : Option Addr} (e : ∀ a o, F a = some o → nxd o = true → G a = some o) (h : XRep K F H x c dx) : XRep K G H x c dx := by
  obtain ⟨h1, h2 | ⟨a, fs, e1, e2, e3, r⟩⟩ := h
  · exact ⟨h1, .inl h2⟩
  · exact ⟨h1, .inr ⟨a, fs, e1, e2, e3, RepL.off e _ r⟩⟩
def Gives (P : Program) (w : World) (K : KF) (mg : Str → Option Value) (base : Heap) (Ng : List Str) (x : Str) (sg : Scope) (g : Addr) (bg : List Stmt) (n : Nat) (a : Str) (k : Nat) (gx : M Ent → G) : Prop :=
  ∀ (cdv : Value) (A : Around) (outer : List Env) (s : Shared) (H : Hp) (E : XK) (ok : (Nat → Option V) → Hp → Prop) (mono : ∀ {pn : Nat → Option V} {F F' : Hp}, Same F F' → ok pn F → ok pn F') (actm : M Ent), Room k (A.deeper (envOfC x sg s.heap.objs.size g cdv)) → (A.deeper (envOfC x sg s.heap.objs.size g cdv)).guards = some [] →
    (∀ (W : WX) (pn : List (Addr × Obj)) (xe : Value → Shared → Prop) (p1 p2 : Pos), Takes ((cxOf (Cxt P w) P w K mg base Ng x sg g cdv A outer s H E).tr pn xe) W → PO ((cxOf (Cxt P w) P w K mg base Ng x sg g cdv A outer s H E).tr pn xe) ⟨[n], ok, mono⟩ W (.Call (.Name a p1) [] [] p2) actm) →
    PDs (cxOf (Cxt P w) P w K mg base Ng x sg g cdv A outer s H E) ⟨[n], ok, mono⟩ (fun c d _ H => E c d H) bg (gx actm)
theorem St.blank2 {K : KF} {ios : Ios} {B : Bs} {F : Hp} {W : Wm} {E : Nv} {σ : L2.St} {H : Hp} (S : St K ios B F W E σ H) : St K ios ⟨B.pn, F, Dl.noW, H⟩ F Dl.noW (bl E) σ H where
  fh := S.fh
  st := Stp.refl _ _ _
  nz := S.nz
  ow := fun a l z => by cases z
  fr := fun a l z => by cases z
  w0 := fun a l z => by cases z
  vr := fun i t d e => by
    obtain ⟨rfl, e2⟩ := bl_get e
    obtain ⟨v, h1, h2⟩ := S.vr i _ d e2
    exact ⟨v, h1, h2⟩
  pn := S.pn
  ln := by rw [bl_len]; exact S.ln
  xo := ⟨ios.mono S.st.fx S.xo.1, fun P q n => (S.tbs P q n).w fun a l z => by cases z⟩
theorem Fresh.byN {H F3 : Hp} {W3 W Wr : Wm} {H3 : Hp} (fr : Fresh Wr H F3 W3 H3) (nw : ∀ a, H a = none → W a = none) : Fresh Wr H F3 W H3 := fun a l z => by
  obtain ⟨z1, _, z3⟩ := fr a l z
  exact ⟨z1, nw a z1, z3⟩
section
variable {X : Cx} {ios : Ios} {Wx : WX} {x a : Str} {g c P : Addr} {k n : Nat} {pg : Arguments} {bg : List Stmt} {sg : Scope} {Ng ps : List Str} {fd : FuncData} {lparams : Arguments} {lbody : Expr} {lscope : Scope} {fe : M Ent} {gx : M Ent → G} {p lpos pos : Pos}
theorem lam_core {B : Bs} {F0 H H1 : Hp} {W : Wm} {E : Nv} {σ : L2.St} {Q : VK} {pins : List (Addr × Obj)} {s' : Shared} {f c' : Addr} {pm ctv : Value} {ps0 : Array Value} {vs0 : List V} {us0 : List Value} {ds0 : List D}
    (F : FunD X.K x x pg bg sg [] [] g fd) (hb : L2.Binds X.K fd ps []) (Sg : FnScope Ng ps sg) (hn : ps.length = n + 1) (hNg : Ng[n]? = some a) (hva : Vis sg a)
    (hG : Gives X.prog X.w X.K X.mg X.base Ng x sg g bg n a (k + 1) gx) (hr : Room (k + 2) X.A) (hgd : X.A.guards = some []) (L : LamS X.env.scope lscope)
    (hbind : ∀ (q : Str) (cl : List (Str × Addr)) (pm cv ctv : Value), bindArgs (PySem.W.kla_fn "<lambda>" q lparams lbody lscope cl pm cv ctv) ⟨[], []⟩ = pure []) (tk : Takes X Wx)
    (hbody : ∀ (A : Around) (outer : List Env) (s : Shared) (H : Hp) (E : XK) (f c' : Addr), Room k (A.deeper (lamEnv X lscope s.heap.objs.size f c')) → (A.deeper (lamEnv X lscope s.heap.objs.size f c')).guards = some [] → PO (lamCx X A outer s H E lscope f c') ios (fun c d _ H => E c d H) lbody fe)
    (hd : (a == ("__debug__" : Str)) = false) (hcd : (a == ("__classdict__" : Str)) = false)
    (S : St X.K ios B F0 W E σ H) (post : PstO X.K ios B Wx σ F0 W H (lamO Ng.length gx fe ds0 E) Q) (I1 : Inv X pins σ H1 s') (hq : Tbs.n P = some (X.env.qual ++ "<lambda>")) (hP : H P = some (.tbl ps0)) (lh : LamH H P (X.env.qual ++ "<lambda>") ps0 lpos c' H1)
    (hf : s'.heap.get? f = some (PySem.W.kla_obj "<lambda>" (X.env.qual ++ "<lambda>") lparams lbody lscope (cloFrom X.env.cells lscope.names []) pm c' ctv)) (hfn : H1 f = none) (hfr : f ∉ frs X.stack) (hco : H1 c' = some (CodeO c' (X.env.qual ++ "<lambda>")))
    (rv : Vals vs0 us0) (r0 : RepL X.K F0 vs0 ds0) (l0 : ds0.length = n) :
    wpAny (model X.prog X.w) X.A (call (.ref g) (us0 ++ [.ref f])) (fun u s2 => ∃ v H2, Inv X pins σ H2 s2 ∧ RelV v u ∧ Q v H2) X.xe s' := by
  have S1 := S.lam hq hP lh
  have st1 := lam_stp S hq hP lh
  have SL := S1.blank2
  have hl0 : vs0.length = n := by rw [r0.length, l0]
  have old : ∀ a o, F0 a = some o → upd F0 c' (CodeO c' (X.env.qual ++ "<lambda>")) a = some o := fun a o h => by
    by_cases z : a = c'
    · subst z
      have := SL.fh _ _ h
      rw [hco] at this
      cases this
      exact upd_same
    · rw [upd_ne z]; exact h
  let ok : (Nat → Option V) → Hp → Prop := fun pn F => pn n = some (.ref f) ∧ Same (upd F0 c' (CodeO c' (X.env.qual ++ "<lambda>"))) F
  have mono : ∀ {pn : Nat → Option V} {F F' : Hp}, Same F F' → ok pn F → ok pn F' := fun e h => ⟨h.1, h.2.trans e⟩
  have act : ∀ (cdv : Value) (W2 : WX) (pn : List (Addr × Obj)) (xe : Value → Shared → Prop) (p1 p2 : Pos), Room (k + 1) (X.A.deeper (envOfC x sg s'.heap.objs.size g cdv)) → (X.A.deeper (envOfC x sg s'.heap.objs.size g cdv)).guards = some [] → Takes ((cxOf (Cxt X.prog X.w) X.prog X.w X.K X.mg X.base Ng x sg g cdv X.A X.stack s' H1 (WE Wx σ)).tr pn xe) W2 →
      PO ((cxOf (Cxt X.prog X.w) X.prog X.w X.K X.mg X.base Ng x sg g cdv X.A X.stack s' H1 (WE Wx σ)).tr pn xe) ⟨[n], ok, mono⟩ W2 (.Call (.Name a p1) [] [] p2) (actO (fe (bl E))) := by
    intro cdv W2 pn xe p1 p2 hr2 hg2 tk2
    let tb : XK → TE := fun E2 σ HZ Q => ∀ (A : Around) (outer : List Env) (s : Shared) (H : Hp) (h1 : Room k (A.deeper (lamEnv X lscope s.heap.objs.size f c'))) (h2 : (A.deeper (lamEnv X lscope s.heap.objs.size f c')).guards = some []), (hbody A outer s H E2 f c' h1 h2).ex.choose σ HZ Q
    refine ⟨_, pe_actS (tb := tb) I1 L hf hfn hfr (hbind _ _ _ _ _) tk2 hr2 hg2 (fun A outer s H E2 h1 h2 => ⟨fun pins s2 σ2 H2 Q2 I2 z => (hbody A outer s H E2 f c' h1 h2).ex.choose_spec.1.run pins s2 σ2 H2 Q2 I2 (z A outer s H h1 h2)⟩) hNg hva hd hcd, fun B' F' W' E' σ' H' Q' S' kk => ?_⟩
    obtain ⟨hp0, hsame⟩ := S'.xo.1
    have fc : Same (upd F0 c' (CodeO c' (X.env.qual ++ "<lambda>"))) F' := hsame.trans S'.st.fx
    have f0 : Same F0 F' := fun a o h => fc _ _ (old a o h)
    refine ⟨(S'.pn n _ hp0).2, S'.fh _ _ (fc _ _ upd_same), fun A outer s2 H2 h1 h2 => ?_⟩
    have Sc : St X.K ios ⟨B.pn, F', Dl.noW, H'⟩ F' Dl.noW (bl E) σ H' := by
      refine ⟨S'.fh, Stp.refl _ _ _, S'.nz, fun a l z => (by cases z), fun a l z => (by cases z), fun a l z => (by cases z), fun i t0 d e => ?_, SL.pn, SL.ln, ios.mono (S1.st.fx.trans f0) S1.xo.1, fun P2 q2 n => (S'.tbs P2 q2 n).w fun a l z => by cases z⟩
      obtain ⟨v, y1, y2⟩ := SL.vr i t0 d e
      exact ⟨v, y1, y2.keep f0 (fun _ _ z => z) fun a l o w _ => by cases w⟩
    refine (hbody A outer s2 H2 (WE W2 σ') f c' h1 h2).ex.choose_spec.2 _ F' Dl.noW (bl E) σ H' Q' Sc ?_
    unfold actO at kk
    cases r : fe (bl E) with
    | stk => rw [r] at kk; exact kk.elim
    | ok d E2 =>
      rw [r] at kk
      intro F3 W3 H3 v Wr S3 t3 fr rr
      obtain ⟨S4, s4⟩ := S'.byN t3 S3.fh S3.nz
      exact kk F3 _ H3 v Wr S4 s4 (fr.byN fun a z => S'.noW z) rr
    | er y E2 =>
      rw [r] at kk
      intro F3 W3 H3 c2 dx S3 t3 rr
      obtain ⟨S4, s4⟩ := S'.byN t3 S3.fh S3.nz
      exact kk F3 _ H3 c2 dx S4 s4 rr
  have lN : n < Ng.length := (List.getElem?_eq_some_iff.mp hNg).1
  have rc : codeAny (model X.prog X.w) X.A (.call (.ref g) ⟨us0 ++ [.ref f], []⟩) (CR (Cxt X.prog X.w) X.stack X.prog X.w H1 s' Q (WE Wx σ)) s' := by
    refine run_at (N := Ng) (ps := ps) (us := us0 ++ [.ref f]) (vs := vs0 ++ [.ref f]) F Sg (by rw [List.length_append, hl0, hn]; rfl) hr hgd I1.env0 ?_ (rv.append (.cons (show L2.RelV (V.ref f) (Value.ref f) from rfl) .nil)) fun cdv hr2 hg2 => ?_
    · have hu0 : us0.length = n := by rw [← rv.length, hl0]
      have := hb s' (us0 ++ [.ref f]) I1.kIn (by simp only [List.length_append, List.length_cons, List.length_nil, hu0, hn])
      rw [List.append_nil] at this
      exact this
    · obtain ⟨t, pt, rt⟩ := (hG cdv X.A X.stack s' H1 (WE Wx σ) ok mono (actO (fe (bl E))) hr2 hg2 (fun W2 pn xe p1 p2 tk2 => act cdv W2 pn xe p1 p2 hr2 hg2 tk2)).ex
      have at_n : (L2.start Ng (vs0 ++ [.ref f]))[n]? = some (some (.ref f)) := by
        unfold L2.start
        rw [List.getElem?_append_left (by rw [List.length_map, List.length_append, hl0]; exact Nat.lt_succ_self _), List.getElem?_map, List.getElem?_append_right (by omega), hl0, Nat.sub_self]
        rfl
      refine ⟨t, pt, rt ⟨fun i => if i = n then some (.ref f) else none, upd F0 c' (CodeO c' (X.env.qual ++ "<lambda>")), Dl.noW, H1⟩ (upd F0 c' (CodeO c' (X.env.qual ++ "<lambda>"))) Dl.noW ((ds0.map fun d => some (Ow.sh, d)) ++ List.replicate (Ng.length - ds0.length) none) (L2.start Ng (vs0 ++ [.ref f])) H1 _ ?_ ?_⟩
      · refine ⟨fun a o h => ?_, Stp.refl _ _ _, SL.nz, fun a l z => (by cases z), fun a l z => (by cases z), fun a l z => (by cases z), fun i t0 d e => ?_, fun i v e => ?_, ?_, ⟨if_pos rfl, Same.refl _⟩, fun P2 q2 n => ?_⟩
        · by_cases z : a = c'
          · subst z; rw [upd_same] at h; cases h; exact hco
          · rw [upd_ne z] at h; exact SL.fh a o h
        · by_cases hi : i < ds0.length
          · rw [List.getElem?_append_left (by rw [List.length_map]; exact hi), List.getElem?_map, List.getElem?_eq_getElem hi] at e
            have e' : some (some (Ow.sh, ds0[i])) = some (some (t0, d)) := e
            cases e'
            obtain ⟨v, y1, y2⟩ := r0.get (List.getElem?_eq_getElem hi)
            refine ⟨v, ?_, y2.mono old _⟩
            unfold L2.start
            rw [List.getElem?_append_left (by rw [List.length_map, List.length_append, hl0]; omega), List.getElem?_map, List.getElem?_append_left (by omega), y1]
            rfl
          · rw [List.getElem?_append_right (by rw [List.length_map]; omega), List.getElem?_replicate] at e
            split at e <;> cases e
        · have e' : (if i = n then some (V.ref f) else none) = some v := e
          by_cases z : i = n
          · subst z
            rw [if_pos rfl] at e'
            cases e'
            exact ⟨List.mem_cons_self, at_n⟩
          · rw [if_neg z] at e'; cases e'
        · unfold L2.start
          rw [List.length_append, List.length_map, List.length_replicate, List.length_append, List.length_map, List.length_replicate, List.length_append, hl0, l0]
          show n + (Ng.length - n) = n + 1 + (Ng.length - (n + 1))
          omega
        · obtain ⟨w1, w2, ps2, hP2, w3⟩ := SL.tbs P2 q2 n
          replace hP2 : H1 P2 = some (.tbl ps2) := hP2
          have ne : P2 ≠ c' := fun z => by
            rw [z, hco] at hP2
            exact codeO_ne _ (Option.some.inj hP2)
          exact ⟨(upd_ne ne).trans w1, w2, ps2, hP2, w3⟩
      · unfold lamO at post
        have back : ∀ {pnz : Nat → Option V} {F2 W2 E2 σ2 H2}, St X.K ⟨[n], ok, mono⟩ ⟨pnz, upd F0 c' (CodeO c' (X.env.qual ++ "<lambda>")), Dl.noW, H1⟩ F2 W2 E2 σ2 H2 → St X.K ios B (unF F0 F2 c') W E σ H2 ∧ Stp F0 W H (unF F0 F2 c') W H2 ∧ (∀ a o, F2 a = some o → nxd o = true → unF F0 F2 c' a = some o) ∧
            ∀ {Wr : Wm}, Fresh Wr H1 F2 W2 H2 → Fresh Wr H (unF F0 F2 c') W H2 := by
          intro pnz F2 W2 E2 σ2 H2 S2
          obtain ⟨SU, f2⟩ := SL.unlam hco S2
          obtain ⟨S3, s3⟩ := S1.byN SU.st SU.fh SU.nz
          refine ⟨S3, st1.trans s3, unF_off S2.fh f2, fun {Wr} fr a l z => ?_⟩
          obtain ⟨z1, z2, z3, z4⟩ := fr a l z
          have z0 := st1.back z1
          refine ⟨z0, S.noW z0, ?_, z4⟩
          unfold unF
          split
          · exact S.fh.free z0
          · exact z3
        cases r : gx (actO (fe (bl E))) ((ds0.map fun d => some (Ow.sh, d)) ++ List.replicate (Ng.length - ds0.length) none) with
        | stk => rw [r] at post; exact post.elim
        | bk _ => rw [r] at post; exact post.elim
        | ct _ => rw [r] at post; exact post.elim
        | nx E2 =>
          rw [r] at post
          intro F2 W2 H2 σ2 S2 _
          obtain ⟨S3, s3, _, _⟩ := back S2
          exact post _ W H2 .non Dl.noW S3 s3 Fresh.no .non
        | er y E2 =>
          rw [r] at post
          intro F2 W2 H2 σ2 c2 dx S2 _ xr
          obtain ⟨S3, s3, off, _⟩ := back S2
          exact post _ W H2 c2 dx S3 s3 (xr.off off)
        | rt e E2 =>
          rw [r] at post
          intro F2 W2 H2 σ2 v Wr S2 _ fr rr
          obtain ⟨S3, s3, off, ff⟩ := back S2
          exact post _ W H2 v Wr S3 s3 (ff fr) (OwnT.off off rr)
  refine wpAny_call (codeAny_mono rc fun r s2 hq => ?_)
  match r, hq with
  | .error ex, hq => exact tk ex s2 (XE.of_call I1 (fun _ _ _ y => y) hq)
  | .ok (.ret u), hq => exact I1.after hq
  | .ok .next, hq => exact hq.elim
  | .ok .brk, hq => exact hq.elim
  | .ok .cont, hq => exact hq.elim
theorem po_lam (hg : Gl X x) (hm : X.mg x = some (.ref g)) (hk : PySem.W.keepIn X.K (.ref g) = true) (F : FunD X.K x x pg bg sg [] [] g fd) (hb : L2.Binds X.K fd [a] []) (Sg : FnScope Ng [a] sg) (hNg : Ng[0]? = some a) (hva : Vis sg a)
    (hG : Gives X.prog X.w X.K X.mg X.base Ng x sg g bg 0 a (k + 1) gx) (TB : TabB X.base X.mg c P) (hcode : X.env.code = .ref c) (hq : Tbs.n P = some (X.env.qual ++ "<lambda>")) (hr : Room (k + 2) X.A) (hgd : X.A.guards = some []) (L : LamS X.env.scope lscope) (hdef : defaultsOf lparams X.env = ([], []))
    (hbind : ∀ (q : Str) (cl : List (Str × Addr)) (pm cv ctv : Value), bindArgs (PySem.W.kla_fn "<lambda>" q lparams lbody lscope cl pm cv ctv) ⟨[], []⟩ = pure []) (tk : Takes X Wx)
    (hbody : ∀ (A : Around) (outer : List Env) (s : Shared) (H : Hp) (E : XK) (f c' : Addr), Room k (A.deeper (lamEnv X lscope s.heap.objs.size f c')) → (A.deeper (lamEnv X lscope s.heap.objs.size f c')).guards = some [] → PO (lamCx X A outer s H E lscope f c') ios (fun c d _ H => E c d H) lbody fe)
    (hdb : (x == ("__debug__" : Str)) = false := by decide) (hd : (a == ("__debug__" : Str)) = false := by decide) (hcd : (a == ("__classdict__" : Str)) = false := by decide) :
    PO X ios Wx (.Call (.Name x p) [.Lambda lparams lbody lscope lpos] [] pos) (lamO Ng.length gx fe []) := by
  refine ⟨fun σ H Q => ∃ B F W E, St X.K ios B F W E σ H ∧ PstO X.K ios B Wx σ F W H (lamO Ng.length gx fe [] E) Q, ?_, fun B F W E σ H Q S h => ⟨B, F, W, E, S, h⟩⟩
  constructor
  rintro pins s σ H Q I ⟨B, F0, W, E, S, post⟩
  obtain ⟨tF, tW, ps, tP, ⟨tr, _⟩, ta⟩ := S.tbs P _ hq
  refine wpAny_Call_Name_kw (ld_glob I hg hm ?_ hdb)
  refine PySem.W.callWith_K (h₀ := X.base) I.ok.mod.kin hk ?_ (by rfl) (by rfl)
  show wpAny _ _ (spliced ((false, eval (.Lambda lparams lbody lscope lpos) X.env) :: backTo pos (starEach [] X.env))) _ _ s
  refine Calls.spliced_cons (lam_made I TB hcode tP tr (fun pos cv e => by obtain ⟨c, e1, _, e3⟩ := ta pos cv e; exact ⟨c, e1, e3⟩) hdef (L.has I.ok) fun f c' pm ctv H1 s' I1 lh hf hfn hfr hco => ?_)
  refine Calls.spliced_nil ⟨I1.kIn, ?_⟩
  exact lam_core (n := 0) (ds0 := []) (vs0 := []) (us0 := []) F hb Sg rfl hNg hva hG hr hgd L hbind tk hbody hd hcd S post I1 hq tP lh hf hfn hfr hco .nil .nil rfl
end
end Dl
namespace Dl
open PySem PySem.Spec PyProof.Rows L2 LamX
abbrev Tfs := List ((Str × Option Str) × Str)
def tbN (K : KF) (tf : Tfs) (P : Addr) : Option Str := (tf.find? fun p => (He.cT K p.1).2 == P).map (·.2)
@[reducible] def tbsOf (K : KF) (tf : Tfs) : Tbs := ⟨tbN K tf⟩
def TbOk [Tbs] (K : KF) (mg : Str → Option Value) (base : Heap) (tf : Tfs) : Prop := ∀ p ∈ tf, TabB base mg (He.cT K p.1).1 (He.cT K p.1).2 ∧ Tbs.n (He.cT K p.1).2 = some p.2
theorem TbOk.at [Tbs] {K : KF} {mg : Str → Option Value} {base : Heap} {tf : Tfs} (t : TbOk K mg base tf) (i : Nat) {p : (Str × Option Str) × Str} (h : tf[i]? = some p := by rfl) : TabB base mg (He.cT K p.1).1 (He.cT K p.1).2 ∧ Tbs.n (He.cT K p.1).2 = some p.2 := t p (List.mem_of_getElem? h)
theorem cT_code {K : KF} {p : Str × Option Str} {cdv : Value} (h : cdv = .ref (cOf K (He.fAd K p))) : cdv = .ref (He.cT K p).1 := h
def tabK (K : KF) (tf : Tfs) : Bool := tf.all fun p => PySem.W.codeHdIn K (He.cT K p.1).1 (He.cT K p.1).2 && ((K.lookup (He.cT K p.1).2).isNone && decide (tbN K tf (He.cT K p.1).2 = some p.2))
def tabH (g : Addr → Option Obj) (tf : Tfs) (K : KF) : Bool := tf.all fun p => match g (He.cT K p.1).2 with
  | some o => He.emptyTab o
  | none => false
structure TabF (K : KF) (tf : Tfs) (h : Heap) : Prop where
  hd : ∀ p ∈ tf, PySem.W.codeHdIn K (He.cT K p.1).1 (He.cT K p.1).2 = true
  out : ∀ p ∈ tf, K.lookup (He.cT K p.1).2 = none
  nm : ∀ p ∈ tf, tbN K tf (He.cT K p.1).2 = some p.2
  em : ∀ p ∈ tf, h.get? (He.cT K p.1).2 = some { cls := .none, data := .fields #[] }
theorem tabF_of {K : KF} {tf : Tfs} {h : Heap} (e1 : tabK K tf = true) (e2 : tabH h.get? tf K = true) : TabF K tf h := by
  have a1 : ∀ p ∈ tf, _ := fun p hp => List.all_eq_true.mp e1 p hp
  refine ⟨fun p hp => (andB (a1 p hp)).1, fun p hp => ?_, fun p hp => of_decide_eq_true (andB (andB (a1 p hp)).2).2, fun p hp => ?_⟩
  · have := (andB (andB (a1 p hp)).2).1
    cases q : K.lookup (He.cT K p.1).2 with
    | none => rfl
    | some o => rw [q] at this; cases this
  · have := List.all_eq_true.mp e2 p hp
    cases q : h.get? (He.cT K p.1).2 with
    | none => rw [q] at this; cases this
    | some o => rw [q] at this; rw [He.emptyTab_eq this]
abbrev AlL : Type := (He.AlD × Bool) × Bool
def obL (n : Nat) (fa : List He.Fa) (fn : List He.DefD) (ex : KF → Bool) (tf : Tfs) (g : Addr → Option Obj) : AlL :=
  (fun K : KF => ((He.obsD fa fn K, ex K), tabK K tf && tabH g tf K)) (He.frG g (lvs g n [mainGlobals]))
def hookL (n : Nat) (fa : List He.Fa) (fn : List He.DefD) (ex : KF → Bool) (tf : Tfs) : PySem.W.Hook where
  α := AlL
  obs := fun s => obL n fa fn ex tf s.heap.get?
  val := fun _ => ((He.valD fn, true), true)
  says := fun _ h => ∃ K : KF, K.In h ∧ He.SaysD fa fn K ∧ ex K = true ∧ TabF K tf h
  of := fun _ s e => ⟨He.frG s.heap.get? (lvs s.heap.get? n [mainGlobals]), He.frG_in, congrArg (fun z : AlL => z.1.1) e, congrArg (fun z : AlL => z.1.2) e, by
    have e2 : (tabK (He.frG s.heap.get? (lvs s.heap.get? n [mainGlobals])) tf && tabH s.heap.get? tf (He.frG s.heap.get? (lvs s.heap.get? n [mainGlobals]))) = true := congrArg (fun z : AlL => z.2) e
    exact tabF_of (andB e2).1 (andB e2).2⟩
  keeps := fun _ _ _ ⟨K, hK, c1, c2, t⟩ k => ⟨K, PySem.W.Frag.In.keeps hK k, c1, c2, ⟨t.hd, t.out, t.nm, fun p hp => k _ _ (t.em p hp)⟩⟩
theorem obL_eq {n : Nat} {fa : List He.Fa} {fn : List He.DefD} {ex : KF → Bool} {tf : Tfs} {g : Addr → Option Obj} {s : Shared} (h : ∀ a, g a = s.heap.get? a) : obL n fa fn ex tf g = (hookL n fa fn ex tf).obs s := by
  have e : g = s.heap.get? := funext h
  rw [e] <;> rfl
end Dl
namespace Dl
open PySem PySem.Spec PyProof.Rows L2
end Dl
namespace Gk
open PySem PySem.Spec PyProof.Rows L2 Dl
def top (i : Nat) : Stmt := PySem.Challenge.pw_earlyorlate_k50_middles_reckoned.main.body.getD i (.Pass ⟨0, 0, 0, 0⟩)
def fn0 : List He.DefD := [⟨("_law_bag", none), "_law_bag", "_law_bag", defArgs (top 11), defBody (top 11), defScope (top 11), [], []⟩, ⟨("_law_take", none), "_law_take", "_law_take", defArgs (top 12), defBody (top 12), defScope (top 12), [], []⟩, ⟨("_law_number", none), "_law_number", "_law_number", defArgs (top 14), defBody (top 14), defScope (top 14), [], []⟩, ⟨("_law_one", none), "_law_one", "_law_one", defArgs (top 13), defBody (top 13), defScope (top 13), [], []⟩, ⟨("_law_any", none), "_law_any", "_law_any", defArgs (top 17), defBody (top 17), defScope (top 17), [], []⟩, ⟨("_law_kind", none), "_law_kind", "_law_kind", defArgs (top 15), defBody (top 15), defScope (top 15), [], []⟩, ⟨("_law_drawn", none), "_law_drawn", "_law_drawn", defArgs (top 18), defBody (top 18), defScope (top 18), [], []⟩, ⟨("_law_alike", none), "_law_alike", "_law_alike", defArgs (top 16), defBody (top 16), defScope (top 16), [], []⟩, ⟨("_law_ends", none), "_law_ends", "_law_ends", defArgs (top 20), defBody (top 20), defScope (top 20), [], []⟩, ⟨("_law_middle", none), "_law_middle", "_law_middle", defArgs (top 19), defBody (top 19), defScope (top 19), [], []⟩, ⟨("_law_raised", none), "_law_raised", "_law_raised", defArgs (top 21), defBody (top 21), defScope (top 21), [], []⟩, ⟨("_law_unequal", none), "_law_unequal", "_law_unequal", defArgs (top 22), defBody (top 22), defScope (top 22), [], []⟩, ⟨("Unequal", some "__init__"), "__init__", "Unequal.__init__", defArgs (inClass (top 2) 0), defBody (inClass (top 2) 0), defScope (inClass (top 2) 0), [], []⟩, ⟨("check_alike", none), "check_alike", "check_alike", defArgs (top 6), defBody (top 6), defScope (top 6), [], []⟩, ⟨("joined", none), "joined", "joined", defArgs (top 8), defBody (top 8), defScope (top 8), [], []⟩, ⟨("median", none), "median", "median", defArgs (top 7), defBody (top 7), defScope (top 7), [], []⟩, ⟨("met", none), "met", "met", defArgs (top 9), defBody (top 9), defScope (top 9), [], []⟩, ⟨("_law_right", none), "_law_right", "_law_right", defArgs (top 23), defBody (top 23), defScope (top 23), [], []⟩, ⟨("law", none), "law", "law", defArgs (top 24), defBody (top 24), defScope (top 24), [], []⟩]
def fn : List He.DefD := fn0
def fa0 : List He.Fa := [.free "abs", .free "len", .free "int", .glo "_law_take", .glo "_law_number", .glo "_law_one", .free "range", .glo "_law_any", .free "tuple", .glo "_law_kind", .free "repr", .free "sorted", .glo "Unequal", .noat "Unequal" "one", .noat "Unequal" "other", .glo "check_alike", .free "zip", .free "max", .free "min", .glo "median"]
def fa1 : List He.Fa := [.glo "_law_raised", .glo "joined", .glo "met", .glo "_law_unequal", .glo "_law_middle", .glo "_law_ends", .glo "_law_alike", .glo "_law_bag", .glo "_law_drawn", .glo "_law_right", .glo "law"]
def fa : List He.Fa := fa0 ++ fa1
def ex0 : List (KF → Bool) := [fun K => tryB K ["Unequal"] ["CaseError"] "Unequal", fun K => xfsB K ["Unequal"] "other", fun K => xfsB K ["Unequal"] "one", fun K => oexB K "Unequal", fun K => oxiB K "Unequal", fun K => cstB K "EARLY" (.str "early"), fun K => cstB K "LATE" (.str "late")]
def ex : List (KF → Bool) := ex0
def loose0 : List Str := ["CaseError", "Unequal", "EARLY", "LATE", "check_alike", "median", "joined", "met", "_law_bag", "_law_take", "_law_one", "_law_number", "_law_kind", "_law_alike", "_law_any", "_law_drawn", "_law_middle", "_law_ends", "_law_raised", "_law_unequal"]
def loose1 : List Str := ["_law_right"]
def loose : List Str := loose0 ++ loose1
def tfs : Tfs := [(("_law_right", none), "_law_right.<locals>.<lambda>")]
abbrev R : PySem.W.OpenRow := PySem.W.OpenLaw.row PySem.Challenge.rw_earlyorlate_k50_middles_reckoned
abbrev hk : PySem.W.Hook := hookL 6 fa fn (fun K => ex.all fun f => f K) tfs
def ob (s : PySem.W.SharedT) : AlL := obL 6 fa fn (fun K => ex.all fun f => f K) tfs (HandSHeadRun.getT s)
theorem ob_eq (s : PySem.W.SharedT) : ob s = hk.obs s.abs := obL_eq (HandSHeadRun.getT_eq s)
theorem run (w : World) : HandSHeadRun.RunEq R (PySem.W.view R.prog [24]) hk ob 20000 loose w := by
  intro os
  kernel_rfl
end Gk
namespace Dl
open PySem PySem.Spec PyProof.Rows L2 LamX
def loneT (K : KF) (tf : Tfs) (a : Addr) (o : Obj) (ns : List Int) : Hp := fun b => if b ∈ tf.map (fun p => (He.cT K p.1).2) then some (.tbl #[]) else lone K a o ns b
theorem loneT_tab {K : KF} {tf : Tfs} {a b : Addr} {o : Obj} {ns : List Int} (h : b ∈ tf.map (fun p => (He.cT K p.1).2)) : loneT K tf a o ns b = some (.tbl #[]) := if_pos h
theorem loneT_of {K : KF} {tf : Tfs} {a b : Addr} {o : Obj} {ns : List Int} {u : HO} (h : loneT K tf a o ns b = some u) : (b ∈ tf.map (fun p => (He.cT K p.1).2) ∧ u = .tbl #[]) ∨ (b = a ∧ K.lookup a = none ∧ u = .frz o (.lst (ns.map V.int))) := by
  unfold loneT at h
  by_cases c : b ∈ tf.map (fun p => (He.cT K p.1).2)
  · rw [if_pos c] at h; cases h; exact .inl ⟨c, rfl⟩
  · rw [if_neg c] at h; exact .inr (lone_of h)
theorem law_gT {tf : Tfs} {P : Program} {w : World} {K : KF} {mg mb : Str → Option Value} {k : Nat} {fa a : Addr} {fd : FuncData} {x : Str} {m : Fm} {sA : Shared} {vs : List Value} {ns : List Int}
    (kx : K.In sA.heap) (gl : sA.heap.Ns mainGlobals mg) (bl : sA.heap.Ns builtinsNs mb) (bb : ∀ x : Str, x ≠ "__name__" → mb x = bootBuiltins x) (nl : sA.heap.NoLimit) (ge : sA.gens = #[]) (tt : TabF K tf sA.heap)
    (hbm : ∃ (bm : Addr) (ob : Obj), mg "__builtins__" = some (.ref bm) ∧ bm ≠ builtinsNs ∧ sA.heap.get? bm = some ob ∧ ob.cls = .type "module" ∧ ob.dict = some builtinsNs ∧ ob.data = .plain)
    (ha : sA.heap.get? a = some { cls := .type "list", data := .seq vs.toArray }) (hi : IntsAre vs ns) (hl : ns.length ≤ sizeLine) (hr : Room k callerA)
    (F : ∀ base : Heap, K.In base → base.Ns mainGlobals mg → @TbOk (tbsOf K tf) K mg base tf → FnG P w K mg base k fa fd [x] (@spD (tbsOf K tf) K 1 [] m)) (hbd : ∀ (s : Shared) (u : Value), BindsTo s fd ⟨[u], []⟩ [(x, u)])
    (hm : ∃ E, m [(.sh, .frl ns)] = .ok (.sh, .bl true) E) :
    codeAny (model P w) callerA (.call (.ref fa) ⟨[.ref a], []⟩) (fun r s' => r = .ok (.ret (.bool true)) ∧ OldK sA.heap s'.heap ∧ s'.os = sA.os ∧ AllBare s'.gens) sA := by
  have rv := vals_ints hi
  have nv := hi.length
  let ts : List Addr := tf.map fun p => (He.cT K p.1).2
  let oL : Obj := { cls := .type "list", data := .seq vs.toArray }
  let H : Hp := loneT K tf a oL ns
  have emp : ∀ b ∈ ts, sA.heap.get? b = some { cls := .none, data := .fields #[] } := fun b hb => by
    obtain ⟨p, hp, rfl⟩ := List.mem_map.mp hb
    exact tt.em p hp
  have noK : ∀ b ∈ ts, K.lookup b = none := fun b hb => by
    obtain ⟨p, hp, rfl⟩ := List.mem_map.mp hb
    exact tt.out p hp
  have aN : a ∉ ts := fun z => by
    have e := emp a z
    rw [ha] at e
    have e' : Data.seq vs.toArray _ = Data.fields #[] := congrArg Obj.data (Option.some.inj e)
    cases e'
  -- what no list and no table is stays to be seen
  have seen : ∀ {b : Addr} {o : Obj}, sA.heap.get? b = some o → b ∉ ts → (b ≠ a ∨ ∃ u, K.lookup a = some u) → (hidT sA.heap H).get? b = some o := fun {b o} e nt c => hidT_get e (by
    cases q : H b with
    | none => rfl
    | some u =>
      rcases loneT_of q with ⟨z, _⟩ | ⟨z1, z2, _⟩
      · exact absurd z nt
      · rcases c with c | ⟨u', c⟩
        · exact absurd z1 c
        · rw [z2] at c; cases c)
  have notT : ∀ {b : Addr} {o : Obj}, sA.heap.get? b = some o → o.data ≠ .fields #[] → b ∉ ts := fun {b o} e d z => by
    have := emp b z
    rw [e] at this
    cases this
    exact d rfl
  have notA : ∀ {b : Addr} {o : Obj}, sA.heap.get? b = some o → (∀ xs n, o.data ≠ .seq xs n) → b ≠ a := fun {b o} e d z => by
    subst z
    rw [ha] at e
    cases e
    exact d _ _ rfl
  have dictB : ∀ {b : Addr} {m : Str → Option Value}, sA.heap.Ns b m → (hidT sA.heap H).Ns b m := fun {b m} ⟨o, es, ep, e, d, r⟩ => by
    refine ⟨o, es, ep, seen e (notT e fun z => ?_) (.inl (notA e fun xs n z => ?_)), d, r⟩
    · rw [d] at z; cases z
    · rw [d] at z; cases z
  have kB : K.In (hidT sA.heap H) := fun b o e => seen (kx b o e) (fun z => by rw [noK b z] at e; cases e) (by
    by_cases c : b = a
    · subst c; exact .inr ⟨o, e⟩
    · exact .inl c)
  have modB : Mod K mg (hidT sA.heap H) := ⟨kB, dictB gl, ⟨mb, dictB bl, bb⟩, let ⟨mc, h1, h2⟩ := nl; ⟨mc, dictB h1, h2⟩⟩
  have hok : HOk P w H sA.heap := fun b u q => by
    rcases loneT_of q with ⟨z, rfl⟩ | ⟨rfl, z2, rfl⟩
    · exact emp b z
    · exact ⟨ha, by rw [List.length_map]; exact hl, vs, _, rv, ha⟩
  have tb : @TbOk (tbsOf K tf) K mg (hidT sA.heap H) tf := fun p hp => by
    refine ⟨⟨PySem.W.codeHd_of_K kB (tt.hd p hp), ?_, fun z => ?_⟩, tt.nm p hp⟩
    · obtain ⟨bm, ob, b1, b2, b3, b4, b5, b6⟩ := hbm
      refine ⟨bm, ob, b1, b2, fun z => ?_, fun z => ?_, seen b3 (notT b3 fun z => by rw [b6] at z; cases z) (.inl (notA b3 fun xs n z => by rw [b6] at z; cases z)), b4, b5, b6⟩
      · obtain ⟨o, es, ep, e, hd, _⟩ := gl
        rw [z, e] at b3
        cases b3
        rw [hd] at b6
        cases b6
      · rw [z, tt.em p hp] at b3
        cases b3
        cases b6
    · obtain ⟨o, es, ep, e, hd, _⟩ := gl
      rw [z, tt.em p hp] at e
      cases e
      cases hd
  have env : Env0 P w K mg (hidT sA.heap H) callerA [] sA H :=
    ⟨rfl, modB, fun b o e => of_hidT e, Nat.le_of_eq (hidT_size _ _), trivial, fun b hb => absurd (show b ∈ ([] : List Addr) from hb) List.not_mem_nil, hok, .of_eq ge⟩
  have seq : SqL K H a (ns.map V.int) := by
    cases q : K.lookup a with
    | some o =>
      have e := kx a o q
      rw [ha] at e
      cases e
      exact .inr ⟨_, vs.toArray, _, q, rfl, rfl, rfl, by rw [List.size_toArray, nv]; exact hl, by simpa using rv⟩
    | none =>
      refine .inl (.inr ⟨oL, ?_⟩)
      show loneT K tf a oL ns a = _
      unfold loneT lone
      rw [if_neg aN, if_pos rfl, q]
  have seqF : SqL K (lone K a oL ns) a (ns.map V.int) := by
    cases q : K.lookup a with
    | some o =>
      have e := kx a o q
      rw [ha] at e
      cases e
      exact .inr ⟨_, vs.toArray, _, q, rfl, rfl, rfl, by rw [List.size_toArray, nv]; exact hl, by simpa using rv⟩
    | none =>
      refine .inl (.inr ⟨oL, ?_⟩)
      unfold lone
      rw [if_pos rfl, q]
  have fh : Same (lone K a oL ns) H := fun b u q => by
    obtain ⟨rfl, z2, z3⟩ := lone_of q
    show loneT K tf b oL ns b = _
    unfold loneT
    rw [if_neg aN]; exact q
  obtain ⟨E, em⟩ := hm
  have wish : @spD (tbsOf K tf) K 1 [] m [.ref a] H (fun v _ => v = .bl true) fun _ _ _ => False := by
    letI : Tbs := tbsOf K tf
    refine ⟨rfl, lone K a oL ns, noW, [(.sh, .frl ns)], ⟨fh, fun b o u q => ?_, fun b l z => ?_, fun b l z => ?_, rfl, fun i v t d e1 e2 => ?_, fun Q q n => ?_⟩, ?_⟩
    · rcases loneT_of q with ⟨_, z⟩ | ⟨_, _, z⟩
      · cases z
      · intro xs e
        subst e
        cases z
    · cases (show (none : Option Lab) = some l from z)
    · cases (show (none : Option Lab) = some l from z)
    · cases i with
      | zero =>
        cases (show some (V.ref a) = some v from e1)
        cases (show some (Ow.sh, D.frl ns) = some (t, d) from e2)
        exact Rep.frl seqF hl
      | succ i => simp at e1
    · have n' : tbN K tf Q = some q := n
      unfold tbN at n'
      obtain ⟨p, hp, rfl⟩ := Option.map_eq_some_iff.mp n'
      have pm := List.mem_of_find?_eq_some hp
      have e1 : (He.cT K p.1).2 = Q := by
        have := List.find?_some (p := fun p : (Str × Option Str) × Str => (He.cT K p.1).2 == Q) hp
        simpa using this
      subst e1
      have qm : (He.cT K p.1).2 ∈ ts := List.mem_map.mpr ⟨p, pm, rfl⟩
      have fN : lone K a oL ns (He.cT K p.1).2 = none := lone_ne fun z => aN (z ▸ qm)
      refine ⟨fN, rfl, #[], loneT_tab qm, ⟨True.intro, n⟩, fun pos cv hc => ?_⟩
      have z : codeAmong pos [] = some cv := hc
      simp [codeAmong] at z
    · rw [em]
      intro F' W' H' v Wr _ _ r
      cases (show Rep K F' v (.bl true) from r)
      rfl
  refine codeAny_mono ((F _ kB (dictB gl) tb).run callerA [] sA H ⟨[.ref a], []⟩ [.ref a] [.ref a] _ _ hr rfl env (hbd sA (.ref a)) (.cons rfl .nil) wish) fun r s' h => ?_
  match r, h with
  | .error e, h =>
    obtain ⟨_, _, _, _, _, _, _, _, _, _, _, _, z⟩ := h
    exact z.elim
  | .ok .next, h => exact h.elim
  | .ok .brk, h => exact h.elim
  | .ok .cont, h => exact h.elim
  | .ok (.ret u), h =>
    obtain ⟨v, H', os, bare, un, hok', r', q⟩ := h
    cases (show v = .bl true from q)
    cases (show u = Value.bool true from r')
    have stay : ∀ b o, b ∉ ts → sA.heap.get? b = some o → s'.heap.get? b = some o := fun b o nb e => by
      cases q : H b with
      | none => exact un.keep b o e q (fun z => absurd (show b ∈ ([] : List Addr) from z) List.not_mem_nil) (fun z => absurd (show b ∈ ([] : List Addr) from z) List.not_mem_nil)
      | some u =>
        rcases loneT_of q with ⟨z, _⟩ | ⟨_, _, rfl⟩
        · exact absurd z nb
        · have z2 := un.frzs b _ _ q
          have e1 := (hok b _ q).1
          have e2 := (hok' b _ z2).1
          rw [e] at e1
          cases e1
          exact e2
    have more : ∀ p ∈ tf, ∃ xs : Array Value, s'.heap.get? (He.cT K p.1).2 = some { cls := .none, data := .fields xs } := fun p hp => by
      obtain ⟨xs, z⟩ := un.tbls _ #[] (loneT_tab (List.mem_map.mpr ⟨p, hp, rfl⟩))
      exact ⟨_, hok' _ _ z⟩
    refine ⟨rfl, ⟨fun b o e => ?_, fun b o e => ?_⟩, os, bare⟩
    · by_cases c : b ∈ ts
      · obtain ⟨p, hp, rfl⟩ := List.mem_map.mp c
        obtain ⟨xs, hx⟩ := more p hp
        have e0 := tt.em p hp
        rw [e0] at e
        cases e
        exact .inr (.inl ⟨((PySem.W.codeHd_of_K kx (tt.hd p hp)).tab e0).isCodeTable, rfl, #[], xs, rfl, by rw [Array.empty_append]; exact hx⟩)
      · exact .inl (stay b o c e)
    · by_cases c : b ∈ ts
      · obtain ⟨p, hp, rfl⟩ := List.mem_map.mp c
        obtain ⟨xs, hx⟩ := more p hp
        exact ⟨_, hx⟩
      · exact ⟨o, stay b o c e⟩
theorem walk_gT {tf : Tfs} {l : PySem.W.OpenLaw} {n k : Nat} {q : Program} {loose : List Str} {XP : (Str → Option Value) → Heap → Prop} {YP : World → Heap → Prop} {d : DefRec} {x : Str} {m : KF → Fm}
    (hn : l.most = some n) (hs : n ≤ sizeLine) (hdf : d.params.defaults = []) (hr : Room k callerA) (hm : ∀ K, Keeps n (m K))
    (F : ∀ (w : World) (mg : Str → Option Value) (fa : Addr) (h : Heap), YP w h → h.Ns mainGlobals mg → mg d.name = some (.ref fa) →
      ∃ (K : KF) (fd : FuncData), K.In h ∧ TabF K tf h ∧ (∀ (s : Shared) (u : Value), BindsTo s fd ⟨[u], []⟩ [(x, u)]) ∧ ∀ base : Heap, K.In base → base.Ns mainGlobals mg → @TbOk (tbsOf K tf) K mg base tf → FnG l.prog w K mg base k fa fd [x] (@spD (tbsOf K tf) K 1 [] (m K))) :
    PySem.W.WalkO q loose XP YP l.row.toRowW d [] (fun f vs => PySem.call f vs) := by
  refine _root_.Att.attach_callB hn hdf fun w sO sA mg mb fa o pm cd doc a vs ns Gd Y ho hd hcd hmg hobj hints hlen hbits hg => ?_
  obtain ⟨K, fd, kx, tt, hb, hF⟩ := F w mg fa _ Y Gd.T.g hmg
  exact law_gT kx Gd.T.g Gd.T.b Gd.T.builtins Gd.T.nolimit hg tt Gd.T.bmain hobj hints (Nat.le_trans hlen hs) hr hF hb (hm K ns hlen hbits)
end Dl
namespace Dl
open PySem PySem.Spec PyProof.Rows L2 GenW
structure Slp (D : Addr) (v : Value) (cp cp' : List (Addr × Obj)) (s s' : Shared) : Prop where
  ad : cp'.map (·.1) = cp.map (·.1)
  os : s'.os = s.os
  bare : AllBare s'.gens
  keep : ∀ b o, b ≠ D → b ∉ cp.map (·.1) → s.heap.get? b = some o → s'.heap.get? b = some o
  at' : ∀ p ∈ cp', s'.heap.get? p.1 = some p.2 ∧ ∀ v, p.2.data ≠ .cell v
  own : ∀ acc c, s.heap.get? D = some (lstObj acc c) → ∃ c', s'.heap.get? D = some (lstObj (acc.push v) c')
structure Gp (X : Cx) (D : Addr) (a0 : List V) (ca : List Addr) (ip : List (Addr × Obj)) (n : Nat) (s₀ : Shared) (ys : List V) (cp : List (Addr × Obj)) (σ : L2.St) (H : Hp) (s : Shared) : Prop where
  ad : cp.map (·.1) = ca
  z0 : ∀ p ∈ cp, s₀.heap.get? p.1 = some p.2
  nn : n + (a0 ++ ys).length = sizeLine
  I : ∃ acc c, s₀.heap.get? D = some (lstObj acc c) ∧ Vals (a0 ++ ys) acc.toList ∧ Inv X ((D, lstObj acc c) :: (cp ++ ip)) σ H s
def GYd (X : Cx) (D : Addr) (a0 : List V) (ca : List Addr) : Protocol := fun n s₀ v s kap =>
  ∃ ys x cp ip σ H, RelV x v ∧ Gp X D a0 ca ip (n + 1) s₀ ys cp σ H s ∧ ∀ s' cp', Slp D v cp cp' s s' → kap (.send .none) s'
structure GE where
  lim : Nat
  nx : List V → L2.St → Hp → Prop
  bk : List V → L2.St → Hp → Prop := fun _ _ _ => False
  ct : List V → L2.St → Hp → Prop := fun _ _ _ => False
def GPo (E : GE) (ys : List V) (σ : L2.St) (H : Hp) : Flow → Prop
  | .next => E.nx ys σ H
  | .brk => E.bk ys σ H
  | .cont => E.ct ys σ H
  | .ret _ => False
def Gk (X : Cx) (D : Addr) (a0 : List V) (ca : List Addr) (ip : List (Addr × Obj)) (A : Around) (R : GenEnd) (c : Code) (fs : List Frame) (K : Flow → Sem PySem.Fin) (E : GE) : Prop :=
  ∀ n s₀ ys cp σ H s f, Gp X D a0 ca ip n s₀ ys cp σ H s → GPo E ys σ H f → Seg (model X.prog X.w) A R (GYd X D a0 ca) n s₀ c (K f) fs s
end Dl
namespace Dl
open PySem PySem.Spec PyProof.Rows L2 GenW
end Dl
namespace Dl
open PySem PySem.Spec PyProof.Rows L2 GenW
end Dl
namespace Dl
open PySem PySem.Spec PyProof.Rows L2 GenW
variable [Tbs]
inductive Yf where
  | nx (E : Nv) | bk (E : Nv) | ct (E : Nv) | stk
def PstY (K : KF) (ios : Ios) (B : Bs) (F : Hp) (ds : List D) (r : List D × Yf) (ge : GE) : Prop := match r.2 with
  | .nx E' => ∀ F' W' H' σ' ys, St K ios B F' W' E' σ' H' → Same F F' → RepL K F' ys (ds ++ r.1) → ge.nx ys σ' H'
  | .bk E' => ∀ F' W' H' σ' ys, St K ios B F' W' E' σ' H' → Same F F' → RepL K F' ys (ds ++ r.1) → ge.bk ys σ' H'
  | .ct E' => ∀ F' W' H' σ' ys, St K ios B F' W' E' σ' H' → Same F F' → RepL K F' ys (ds ++ r.1) → ge.ct ys σ' H'
  | .stk => False
theorem PstY.app {K : KF} {ios : Ios} {B : Bs} {F : Hp} {ds d1 : List D} {r : List D × Yf} {ge : GE} (h : PstY K ios B F ds (d1 ++ r.1, r.2) ge) : PstY K ios B F (ds ++ d1) r ge := by
  obtain ⟨y, f⟩ := r
  cases f with
  | nx E' => exact fun F' W' H' σ' ys S t rr => h F' W' H' σ' ys S t (by rw [← List.append_assoc]; exact rr)
  | bk E' => exact fun F' W' H' σ' ys S t rr => h F' W' H' σ' ys S t (by rw [← List.append_assoc]; exact rr)
  | ct E' => exact fun F' W' H' σ' ys S t rr => h F' W' H' σ' ys S t (by rw [← List.append_assoc]; exact rr)
  | stk => exact h
end Dl
namespace Dl
open PySem PySem.Spec PyProof.Rows L2
end Dl
namespace L2
open PySem PySem.Spec
end L2
namespace Dl
open PySem PySem.Spec PyProof.Rows L2
end Dl
namespace Ks
open PySem PySem.Spec PyProof.Rows L2
section
variable {P : Program} {w : World} {κ : Type} [DecidableEq κ] {knd : KeyKind P w κ}
structure Set0 (knd : KeyKind P w κ) (es : Array (Int × Value)) (t : SetTable) (zs : List ((Int × Value) × κ)) : Prop where
  pm : es.toList.Perm (zs.map (·.1))
  gd : ∀ z ∈ zs, (knd.is z.2 z.1.2 = true ∧ z.1.1 = knd.hash z.2) ∧ z.1.2.scannable = true
  nd : (zs.map (·.2)).Nodup
  bd : es.size < scanBound
  ft : t.fits es.size = true
  rs : Ris t.place.toList
  ld : w.params.followText "set-order" = true ∨ t.led = true
theorem Set0.size {es : Array (Int × Value)} {t : SetTable} {zs : List ((Int × Value) × κ)} (z : Set0 knd es t zs) : es.size = zs.length := by
  rw [← Array.length_toList, z.pm.length_eq, List.length_map]
theorem Set0.laid {es : Array (Int × Value)} {t : SetTable} {zs : List ((Int × Value) × κ)} (z : Set0 knd es t zs) {k : κ} {v : Value} (hk : knd.is k v = true) (hs : v.scannable = true) (hn : k ∉ zs.map (·.2)) (room : zs.length + 1 < scanBound) : Set0 knd (layNew t es (knd.hash k) v).1 (layNew t es (knd.hash k) v).2.1 (((knd.hash k, v), k) :: zs) where
  pm := by
    refine (layNew_perm t es (knd.hash k) v).trans ?_
    rw [Array.toList_push]
    exact (List.perm_append_singleton _ _).trans (z.pm.cons _)
  gd := fun y hy => by
    rcases List.mem_cons.mp hy with rfl | hy
    · exact ⟨⟨hk, rfl⟩, hs⟩
    · exact z.gd y hy
  nd := List.nodup_cons.mpr ⟨hn, z.nd⟩
  bd := by
    rw [← Array.length_toList, (layNew_perm t es (knd.hash k) v).length_eq, Array.length_toList, Array.size_push, z.size]
    exact room
  ft := layNew_fits t es (knd.hash k) v
  rs := layNew_ris t es (knd.hash k) v z.rs
  ld := z.ld.imp id fun q => by rw [layNew_led]; exact q
def SetG (knd : KeyKind P w κ) (h : Heap) (a : Addr) (S : κ → Bool) (n : Nat) : Prop := ∃ o es ep t zs, h.get? a = some o ∧ o.ExactSet ∧ o.data = .set es ep t ∧ Set0 knd es t zs ∧ (∀ k, S k = true ↔ k ∈ zs.map (·.2)) ∧ zs.length = n
theorem SetG.at {h h' : Heap} {a : Addr} {S : κ → Bool} {n : Nat} (R : SetG knd h a S n) (k : ∀ o, h.get? a = some o → h'.get? a = some o) : SetG knd h' a S n := by
  obtain ⟨o, es, ep, t, zs, ho, r⟩ := R
  exact ⟨o, es, ep, t, zs, k o ho, r⟩
end
end Ks
namespace Dl
open PySem PySem.Spec PyProof.Rows L2
end Dl
namespace Dl
open PySem PySem.Spec PyProof.Rows L2
end Dl
namespace Dl
open PySem PySem.Spec PyProof.Rows L2
end Dl
namespace Dl
open PySem PySem.Spec PyProof.Rows L2
end Dl
namespace Dl
open PySem PySem.Spec PyProof.Rows L2 GenW
open Sem (wp)
def junk : GenState → GenState
  | .suspended _ l c p fs cl => .suspended (fun _ => .unsupported "no") l c p fs cl
  | A => A
theorem junk_bare (A : GenState) : (junk A).bare = A.bare := by cases A <;> rfl
def isSusp : GenState → Bool
  | .suspended .. => true
  | _ => false
def isRet : Frame → Bool
  | .ret .. => true
  | .gen .. => false
def noG (fs : List Frame) : Prop := ∀ F ∈ fs, isRet F = true
def okG : GenState → Prop
  | .suspended _ _ _ _ fs _ => noG fs
  | _ => True
def Jk (A B : GenState) : Prop := (A = B ∧ okG A) ∨ (isSusp A = true ∧ B = junk A)
theorem Jk.bare {A B : GenState} (h : Jk A B) : A.bare = B.bare := by
  rcases h with ⟨rfl, _⟩ | ⟨_, rfl⟩
  · rfl
  · exact (junk_bare A).symm
structure Sim (s1 s2 : Shared) : Prop where
  eq : s1 = { s2 with gens := s1.gens }
  sz : s1.gens.size = s2.gens.size
  at' : ∀ (i : Nat) A B, s1.gens[i]? = some A → s2.gens[i]? = some B → Jk A B
def KpI (i : Nat) (s1 s2 s1' s2' : Shared) : Prop := (∀ A, s1.gens[i]? = some A → s2.gens[i]? = some (junk A) → isSusp A = true → s1'.gens[i]? = some A ∧ s2'.gens[i]? = some (junk A)) ∧
  (s1.gens[i]? = some .running → s2.gens[i]? = some .running → s1'.gens[i]? = some .running ∧ s2'.gens[i]? = some .running)
def Kp (s1 s2 s1' s2' : Shared) : Prop := ∀ i : Nat, KpI i s1 s2 s1' s2'
theorem Kp.refl (s1 s2 : Shared) : Kp s1 s2 s1 s2 := fun _ => ⟨fun _ h1 h2 _ => ⟨h1, h2⟩, fun h1 h2 => ⟨h1, h2⟩⟩
theorem KpI.trans {i : Nat} {a1 a2 b1 b2 c1 c2 : Shared} (h : KpI i a1 a2 b1 b2) (k : KpI i b1 b2 c1 c2) : KpI i a1 a2 c1 c2 :=
  ⟨fun A h1 h2 h3 => let ⟨e1, e2⟩ := h.1 A h1 h2 h3; k.1 A e1 e2 h3, fun h1 h2 => let ⟨e1, e2⟩ := h.2 h1 h2; k.2 e1 e2⟩
theorem Kp.trans {a1 a2 b1 b2 c1 c2 : Shared} (h : Kp a1 a2 b1 b2) (k : Kp b1 b2 c1 c2) : Kp a1 a2 c1 c2 := fun i => (h i).trans (k i)
theorem Sim.get {s1 s2 : Shared} (S : Sim s1 s2) {i : Nat} {B : GenState} (h : s2.gens[i]? = some B) : ∃ A, s1.gens[i]? = some A ∧ Jk A B := by
  have hl : i < s1.gens.size := by rw [S.sz]; exact (Array.getElem?_eq_some_iff.mp h).1
  exact ⟨_, Array.getElem?_eq_getElem hl, S.at' i _ _ (Array.getElem?_eq_getElem hl) h⟩
theorem Sim.hp {s1 s2 : Shared} (S : Sim s1 s2) : s1.heap = s2.heap ∧ s1.toks = s2.toks ∧ s1.drawn = s2.drawn ∧ s1.os = s2.os := by rw [S.eq]; exact ⟨rfl, rfl, rfl, rfl⟩
theorem setGen_get {s : Shared} {g i : Nat} {x : GenState} : (s.setGen g x).gens[i]? = if g = i then (if g < s.gens.size then some x else none) else s.gens[i]? := by
  unfold Shared.setGen
  rw [Array.getElem?_setIfInBounds]
theorem Sim.set {s1 s2 : Shared} (S : Sim s1 s2) {g : Nat} {x : GenState} (hx : okG x) : Sim (s1.setGen g x) (s2.setGen g x) ∧ ∀ i, g ≠ i → KpI i s1 s2 (s1.setGen g x) (s2.setGen g x) := by
  have e1 : s1 = { s2 with gens := s1.gens } := S.eq
  refine ⟨⟨?_, ?_, fun i A B h1 h2 => ?_⟩, fun i ne => ⟨fun A h1 h2 h3 => ?_, fun h1 h2 => ?_⟩⟩
  · rw [e1]; rfl
  · rw [setGen_size, setGen_size]; exact S.sz
  · rw [setGen_get] at h1 h2
    by_cases c : g = i
    · rw [if_pos c] at h1 h2
      split at h1
      · rw [if_pos (by rw [← S.sz]; assumption)] at h2
        cases h1; cases h2
        exact .inl ⟨rfl, hx⟩
      · cases h1
    · rw [if_neg c] at h1 h2
      exact S.at' i A B h1 h2
  · rw [setGen_get, setGen_get, if_neg ne, if_neg ne]
    exact ⟨h1, h2⟩
  · rw [setGen_get, setGen_get, if_neg ne, if_neg ne]
    exact ⟨h1, h2⟩
theorem push_get {α : Type} {a : Array α} {x y : α} {i : Nat} (h : (a.push x)[i]? = some y) : (i < a.size ∧ a[i]? = some y) ∨ (i = a.size ∧ y = x) := by
  rw [Array.getElem?_push] at h
  split at h
  · rename_i e
    cases h
    exact .inr ⟨e, rfl⟩
  · exact .inl ⟨(Array.getElem?_eq_some_iff.mp h).1, h⟩
theorem Sim.push {s1 s2 : Shared} (S : Sim s1 s2) (c : Code) : Sim { s1 with gens := s1.gens.push (.fresh c) } { s2 with gens := s2.gens.push (.fresh c) } ∧ Kp s1 s2 { s1 with gens := s1.gens.push (.fresh c) } { s2 with gens := s2.gens.push (.fresh c) } := by
  have e1 : s1 = { s2 with gens := s1.gens } := S.eq
  refine ⟨⟨?_, ?_, fun i A B h1 h2 => ?_⟩, fun i => ⟨fun A h1 h2 h3 => ?_, fun h1 h2 => ?_⟩⟩
  · rw [e1]
  · show (s1.gens.push _).size = (s2.gens.push _).size
    rw [Array.size_push, Array.size_push, S.sz]
  · rcases push_get h1 with ⟨l1, z1⟩ | ⟨l1, rfl⟩
    · rcases push_get h2 with ⟨l2, z2⟩ | ⟨l2, rfl⟩
      · exact S.at' i A B z1 z2
      · rw [S.sz] at l1; omega
    · rcases push_get h2 with ⟨l2, z2⟩ | ⟨l2, rfl⟩
      · rw [S.sz] at l1; omega
      · exact .inl ⟨rfl, True.intro⟩
  · have l1 := (Array.getElem?_eq_some_iff.mp h1).1
    have l2 := (Array.getElem?_eq_some_iff.mp h2).1
    refine ⟨?_, ?_⟩
    · show (s1.gens.push _)[i]? = _
      rw [Array.getElem?_push, if_neg (by omega)]; exact h1
    · show (s2.gens.push _)[i]? = _
      rw [Array.getElem?_push, if_neg (by omega)]; exact h2
  · have l1 := (Array.getElem?_eq_some_iff.mp h1).1
    have l2 := (Array.getElem?_eq_some_iff.mp h2).1
    refine ⟨?_, ?_⟩
    · show (s1.gens.push _)[i]? = _
      rw [Array.getElem?_push, if_neg (by omega)]; exact h1
    · show (s2.gens.push _)[i]? = _
      rw [Array.getElem?_push, if_neg (by omega)]; exact h2
end Dl
namespace Dl
open PySem PySem.Spec PyProof.Rows L2 GenW
structure GE2 (α : Type) where
  lim : Nat
  cnt : α → Nat
  lk : α → List (Addr × Obj) → Prop
  out : α → V → Hp → (α → Hp → Prop) → Prop
  nx : α → L2.St → Hp → Prop
  bk : α → L2.St → Hp → Prop := fun _ _ _ => False
  ct : α → L2.St → Hp → Prop := fun _ _ _ => False
end Dl
namespace Dl
open PySem PySem.Spec PyProof.Rows L2 GenW
variable [Tbs]
structure Stg where
  i : Nat
  F : Hp
  H : Hp
  zs : List V
abbrev Bst (p : Stg) : Bs := ⟨fun _ => none, p.F, Dl.noW, p.H⟩
def Gof (J : Stg → Prop) (p : Stg) (F H : Hp) : Stg → Hp → Prop := fun p' H2 => p'.i = p.i + 1 ∧ p'.H = H2 ∧ Same p'.F H2 ∧ NoFz H2 ∧ Stp F Dl.noW H p'.F Dl.noW H2 ∧ J p'
def OutOk (K : KF) (ds : List D) (J : Stg → Prop) (ge : GE2 Stg) : Prop := ge.cnt = Stg.i ∧ ds.length ≤ ge.lim ∧ ∀ (p : Stg) (x : V) (F H : Hp) (d : D), J p → ds[p.i]? = some d → Same F H → NoFz H → Tbo F H Dl.noW → Stp p.F Dl.noW p.H F Dl.noW H → Rep K F x d → ge.out p x H (Gof J p F H)
def PstY2 (K : KF) (J : Stg → Prop) (p : Stg) (F : Hp) (r : List D × Yf) (ge : GE2 Stg) : Prop := match r.2 with
  | .nx E' => ∀ (p' : Stg) F' W' H' σ', St K (.of []) (Bst p') F' W' E' σ' H' → Same F F' → p'.i = p.i + r.1.length → J p' → ge.nx p' σ' H'
  | .bk E' => ∀ (p' : Stg) F' W' H' σ', St K (.of []) (Bst p') F' W' E' σ' H' → Same F F' → p'.i = p.i + r.1.length → J p' → ge.bk p' σ' H'
  | .ct E' => ∀ (p' : Stg) F' W' H' σ', St K (.of []) (Bst p') F' W' E' σ' H' → Same F F' → p'.i = p.i + r.1.length → J p' → ge.ct p' σ' H'
  | .stk => False
theorem PstY2.app {K : KF} {J : Stg → Prop} {p p' : Stg} {F F1 : Hp} {d1 : List D} {r : List D × Yf} {ge : GE2 Stg} (hp : p'.i = p.i + d1.length) (s : Same F F1) (h : PstY2 K J p F (d1 ++ r.1, r.2) ge) : PstY2 K J p' F1 r ge := by
  obtain ⟨y, f⟩ := r
  have e : ∀ {q : Stg}, q.i = p'.i + y.length → q.i = p.i + (d1 ++ y).length := fun {q} z => by rw [List.length_append]; omega
  cases f with
  | nx E' => exact fun q F' W' H' σ' S t z => h q F' W' H' σ' S (s.trans t) (e z)
  | bk E' => exact fun q F' W' H' σ' S t z => h q F' W' H' σ' S (s.trans t) (e z)
  | ct E' => exact fun q F' W' H' σ' S t z => h q F' W' H' σ' S (s.trans t) (e z)
  | stk => exact h
theorem OutOk.of {K : KF} {ds : List D} {J : Stg → Prop} {ge : GE2 Stg} (h : OutOk K ds J ge) {nx bk ct : Stg → L2.St → Hp → Prop} : OutOk K ds J { lim := ge.lim, cnt := ge.cnt, lk := ge.lk, out := ge.out, nx := nx, bk := bk, ct := ct } := h
end Dl
namespace Dl
open PySem PySem.Spec PyProof.Rows L2 GenW
end Dl
namespace Dl
open PySem PySem.Spec PyProof.Rows L2 GenW
end Dl
namespace Dl
open PySem PySem.Spec PyProof.Rows L2 GenW
end Dl
namespace Dl
open PySem PySem.Spec PyProof.Rows L2 GenW
end Dl
namespace Dl
open PySem PySem.Spec PyProof.Rows L2 GenW
end Dl
namespace Dl
open PySem PySem.Spec PyProof.Rows L2 GenW
end Dl
namespace PySem
open Sem (wp)
end PySem
namespace Dl
open PySem PySem.Spec PyProof.Rows L2 GenW
variable [Tbs]
theorem AsX.kept {b : Bool} {h h' : Heap} {p : Addr} {us : Array Value} (x : AsX b h p us) (k : ∀ o, h.get? p = some o → h'.get? p = some o) : AsX b h' p us := by
  cases b
  · exact (show h.IsList p us from x).at k
  · exact (show h.IsTuple p us from x).at k
end Dl
namespace Dl
open PySem PySem.Spec PyProof.Rows L2 GenW
end Dl
namespace Dl
open PySem PySem.Spec PyProof.Rows L2 GenW
end Dl
namespace Dl
open PySem PySem.Spec PyProof.Rows L2 GenW
end Dl
namespace Dl
open PySem PySem.Spec PyProof.Rows L2
end Dl
namespace Dl
open PySem PySem.Spec PyProof.Rows L2 GenW
end Dl
namespace Dl
open PySem PySem.Spec PyProof.Rows L2
end Dl
namespace Dl
open PySem PySem.Spec PyProof.Rows L2
end Dl
namespace PySem
open Sem (wp)
section
variable {M : Model} {A : Around} {E : Value → Shared → Prop}
theorem wpAny_loadIfAlive {a : Addr} {Q : Option Obj → Shared → Prop} {s : Shared} (h : Q (s.heap.get? a) s) : wpAny M A (loadIfAlive a) Q E s := fun _ _ _ => h
theorem wpAny_forIn_ex {β R : Type} {l : List β} {body : β → R → Sem (ForInStep R)} {I : Nat → R → Shared → Prop} {Q : R → Shared → Prop} {s : Shared} {b : R} (h0 : I 0 b s)
    (hs : ∀ (j : Nat) (x : β) (r : R) (s : Shared), l[j]? = some x → I j r s → wpAny M A (body x r) (fun y s' => ∃ r', y = .yield r' ∧ I (j + 1) r' s') E s)
    (hq : ∀ r s', I l.length r s' → Q r s') : wpAny M A (forIn l b body) Q E s := by
  have main : ∀ (l : List β) (k : Nat) (b : R) (s : Shared), I k b s → (∀ (j : Nat) (x : β) (r : R) (s : Shared), l[j]? = some x → I (k + j) r s → wpAny M A (body x r) (fun y s' => ∃ r', y = .yield r' ∧ I (k + j + 1) r' s') E s) → (∀ r s', I (k + l.length) r s' → Q r s') → wpAny M A (forIn l b body) Q E s := by
    intro l
    induction l with
    | nil =>
      intro k b s h _ hq
      rw [List.forIn_nil]
      exact wpAny_pure (hq b s h)
    | cons x l ih =>
      intro k b s h hs hq
      rw [List.forIn_cons]
      refine wpAny_bind (wpAny_mono (hs 0 x b s rfl h) (fun y s' hr => ?_) fun _ _ z => z)
      obtain ⟨r', rfl, i1⟩ := hr
      show wpAny M A (forIn l r' body) Q E s'
      exact ih (k + 1) r' s' i1 (fun j y r s2 e i2 => by
        have := hs (j + 1) y r s2 e (by rw [show k + (j + 1) = k + 1 + j by omega]; exact i2)
        rw [show k + (j + 1) = k + 1 + j by omega] at this
        exact this) fun r s2 i2 => hq r s2 (by rw [List.length_cons, show k + (l.length + 1) = k + 1 + l.length by omega]; exact i2)
  exact main l 0 b s h0 (fun j x r s e i => by rw [Nat.zero_add] at i ⊢; exact hs j x r s e i) fun r s' i => by rw [Nat.zero_add] at i; exact hq r s' i
end
def zipO (TI TO : Addr) (f0 f1 : Value) : Obj := { cls := .type "zip", data := .fields #[f0, f1, .bool false, .ref TI, .ref TO] }
def tupO (vs : Array Value) : Obj := { cls := .type "tuple", data := .seq vs }
section
variable {prog : Program} {w : World} {A : Around} {E : Value → Shared → Prop}
theorem zn_far {c n0 k N z : Nat} (h : c = n0 + k ∨ c < n0) (hk : k < N) (hz : n0 + N ≤ z) : c ≠ z := by omega
theorem zn_far2 {c n0 k j : Nat} (h : c = n0 + k ∨ c < n0) (hk : k ≠ j) : c ≠ n0 + j := by omega
theorem zn_in {k N n0 : Nat} (h : k < N) {c : Nat} (hc : c < n0 ∨ n0 + N + 2 < c ∨ c = n0 + N) : c ≠ n0 + k := by omega
theorem zn_in2 {k N n0 : Nat} (h : k < N) {c : Nat} (hc : c < n0 ∨ n0 + N ≤ c) : c ≠ n0 + k := by omega
theorem zn_w {N n0 : Nat} {c : Nat} (hc : c < n0 ∨ n0 + N + 2 < c) : c < n0 ∨ n0 + N ≤ c := by omega
theorem zn_v {N n0 : Nat} {c : Nat} (hc : c < n0 ∨ n0 + N + 2 < c) : c < n0 ∨ n0 + N + 2 < c ∨ c = n0 + N := by omega
theorem zn_out {N n0 TI TO z : Nat} (t1 : TI = n0 + N) (t2 : TO = n0 + N + 1) (t3 : z = n0 + N + 2) {c : Nat} (hc : c < n0 ∨ n0 + N + 2 < c ∨ c = n0 + N) : c ≠ z ∧ c ≠ TO := by omega
structure ZN (N n0 TI TO z : Nat) (h : Heap) : Prop where
  z : ∃ f0 f1, h.get? z = some (zipO TI TO f0 f1) ∧ (f0 = .none ∨ ∃ a : Nat, f0 = rawInt a)
  ti : h.get? TI = some (tupO ((List.range N).map fun k => Value.ref (n0 + k)).toArray)
  to : ∃ vs : Array Value, vs.size = N ∧ h.get? TO = some (tupO vs)
theorem zipN_next_item {N n0 TI TO z n : Nat} {Q : Value → Shared → Prop} {s : Shared} (hN : 0 < N) (hN2 : N ≤ sizeLine) (t1 : TI = n0 + N) (t2 : TO = n0 + N + 1) (t3 : z = n0 + N + 2) (Z : ZN N n0 TI TO z s.heap) {fp : Nat → List Addr} {m : Nat → Nat} {P : Nat → Nat → Value → Prop} {St : Nat → Nat → Heap → Prop}
    (D : ∀ k, k < N → Draws prog w A (n0 + k) (fp k) (m k) (P k) (St k)) (hfp : ∀ k, k < N → ∀ a ∈ fp k, a = n0 + k ∨ a < n0) (st : ∀ k, k < N → St k n s.heap) (lt : ∀ k, k < N → n < m k)
    (hQ : ∀ (xs : Array Value) h' tk, xs.size = N → (∀ k x, xs[k]? = some x → P k n x) → ZN N n0 TI TO z h' → (∀ k, k < N → St k (n + 1) h') → h'.get? s.heap.objs.size = some (tupO xs) → h'.objs.size = s.heap.objs.size + 1 →
      (∀ c o, (c < n0 ∨ n0 + N + 2 < c) → s.heap.get? c = some o → h'.get? c = some o) → Q (.ref s.heap.objs.size) { s with heap := h', toks := tk }) :
    wpAny (model prog w) A (Builtin.«zip.__next__» ⟨[.ref z], []⟩) (fun fin s' => ∃ v, fin = .done (.ret v) ∧ Q v s') E s := by
  obtain ⟨hp, g, d, tk0, os⟩ := s
  obtain ⟨⟨f0, f1, hz, hf0⟩, hTI, ⟨vs0, sz0, hTO⟩⟩ := Z
  show wpAny _ _ (field (.ref z) 2 >>= _) _ _ _
  refine wpAny_bind (wpAny_field hz rfl (x := .bool false) rfl ?_)
  show wpAny _ _ (field (.ref z) 3 >>= _) _ _ _
  refine wpAny_bind (wpAny_field hz rfl (x := .ref TI) rfl ?_)
  refine wpAny_bind (wpAny_seqItems hTI rfl ?_)
  have ne : ((List.range N).map fun k => Value.ref (n0 + k)).toArray.isEmpty = false := by
    cases N with
    | zero => exact absurd hN (Nat.lt_irrefl 0)
    | succ N => simp
  simp only [ne]
  have zl : 2000 ≤ sizeLine := by decide
  have nz : z ≠ TI ∧ z ≠ TO ∧ TI ≠ TO := ⟨by omega, by omega, by omega⟩
  refine wpAny_bind (wpAny_mono (Q := fun (b : Bool) s1 => ∃ h1 f0 f1, s1 = ⟨h1, g, d, tk0, os⟩ ∧ h1.get? z = some (zipO TI TO f0 f1) ∧ (f0 = .none ∨ ∃ a : Nat, f0 = rawInt a) ∧ h1.objs.size = hp.objs.size ∧ ∀ c, c ≠ z → h1.get? c = hp.get? c) ?_ (fun b s1 hg => ?_) fun _ _ z => z)
  · unfold Builtin.SmallTypes.ownedTupleIsFree
    refine wpAny_bind (wpAny_field hz rfl (x := f0) rfl ?_)
    rcases hf0 with rfl | ⟨a, rfl⟩
    · exact wpAny_pure ⟨hp, .none, f1, rfl, hz, .inl rfl, rfl, fun _ _ => rfl⟩
    · have same : ∃ h1 f0 f1, (⟨hp, g, d, tk0, os⟩ : Shared) = ⟨h1, g, d, tk0, os⟩ ∧ h1.get? z = some (zipO TI TO f0 f1) ∧ (f0 = .none ∨ ∃ a : Nat, f0 = rawInt a) ∧ h1.objs.size = hp.objs.size ∧ ∀ c, c ≠ z → h1.get? c = hp.get? c := ⟨hp, rawInt a, f1, rfl, hz, .inr ⟨a, rfl⟩, rfl, fun _ _ => rfl⟩
      show wpAny _ _ (loadIfAlive _ >>= _) _ _ _
      refine wpAny_bind (wpAny_loadIfAlive ?_)
      by_cases al : ((⟨hp, g, d, tk0, os⟩ : Shared).heap.get? ((a : Int)).toNat).isNone = true
      · rw [if_pos al]
        exact wpAny_pure same
      · rw [if_neg al]
        show wpAny _ _ (field (.ref z) 1 >>= _) _ _ _
        refine wpAny_bind (wpAny_field hz rfl (x := f1) rfl ?_)
        by_cases bt : (f1 != Value.bool true) = true
        · rw [if_pos bt]
          refine wpAny_bind (wpAny_setField_rec hz (by simp) fun g0 hz0 hs0 => ?_)
          exact wpAny_pure ⟨g0, rawInt a, .bool true, rfl, hz0, .inr ⟨a, rfl⟩, hs0.1, fun c hc => hs0.2 c hc⟩
        · rw [if_neg bt]
          exact wpAny_bind (wpAny_pure (wpAny_pure same))
  · obtain ⟨h1, f0, f1, rfl, hz1, hf1, sz1, kp1⟩ := hg
    have st1 : ∀ k, k < N → St k n h1 := fun k hk => (D k hk).frame n hp h1 (st k hk) fun c hc o e => by
      rw [kp1 c (zn_far (hfp k hk c hc) hk (by omega))]
      exact e
    have hTI1 : h1.get? TI = some (tupO ((List.range N).map fun k => Value.ref (n0 + k)).toArray) := by rw [kp1 TI (fun q => nz.1 q.symm)]; exact hTI
    have hTO1 : h1.get? TO = some (tupO vs0) := by rw [kp1 TO (fun q => nz.2.1 q.symm)]; exact hTO
    cases b with
    | true =>
      simp only [if_true]
      refine wpAny_bind (wpAny_rule ?_)
      refine wpAny_bind (wpAny_field hz1 rfl (x := .ref TO) rfl ?_)
      refine wpAny_bind (wpAny_setField_rec hz1 (by simp) fun h2 hz2 hs2 => ?_)
      have hTO2 : h2.get? TO = some (tupO vs0) := by rw [hs2.2 TO (fun q => nz.2.1 q.symm)]; exact hTO1
      have st2 : ∀ k, k < N → St k n h2 := fun k hk => (D k hk).over (st1 k hk) hs2 fun q => zn_far (hfp k hk _ q) hk (by omega) rfl
      refine wpAny_bind (wpAny_forIn_ex (I := fun j r s' => r = (none, ()) ∧ ∃ h tk vs, s' = ⟨h, g, d, tk, os⟩ ∧ h.objs.size = hp.objs.size ∧ h.get? z = some (zipO TI TO .ellipsis f1) ∧ vs.size = N ∧ h.get? TO = some (tupO vs) ∧ (∀ k x, k < j → vs[k]? = some x → P k n x) ∧ (∀ k, k < N → (k < j → St k (n + 1) h) ∧ (j ≤ k → St k n h)) ∧ ∀ c, (c < n0 ∨ n0 + N + 2 < c ∨ c = n0 + N) → h.get? c = hp.get? c)
        ⟨rfl, h2, tk0, vs0, rfl, hs2.1.trans sz1, hz2, sz0, hTO2, (fun k x hk => absurd hk (Nat.not_lt_zero k)), (fun k hk => ⟨fun q => absurd q (Nat.not_lt_zero k), fun _ => st2 k hk⟩), fun c hc => (hs2.2 c (zn_out t1 t2 t3 hc).1).trans (kp1 c (zn_out t1 t2 t3 hc).1)⟩ ?_ ?_)
      · rintro j x r s' hx ⟨rfl, h, tk, vs, rfl, sz, hz, vsz, hto, hp1, hst, kp⟩
        have hj : j < N := by
          have := (List.getElem?_eq_some_iff.mp hx).1
          rwa [List.length_zipIdx, List.length_map, List.length_range] at this
        have ex : x = (Value.ref (n0 + j), j) := by
          rw [List.getElem?_zipIdx, List.getElem?_map, List.getElem?_range hj] at hx
          have := (Option.some.inj hx).symm
          rw [this, Nat.zero_add]
        subst ex
        refine wpAny_bind (wpAny_onRaise ?_)
        show wpAny _ _ (Builtin.SmallTypes.nextOf (.ref (n0 + j)) >>= _) _ _ _
        refine wpAny_bind ((D j hj).item n _ _ _ (lt j hj) ((hst j hj).2 (Nat.le_refl j)) fun y h' tk' py sy hs' => wpAny_pure ?_)
        replace hs' : Heap.SameBut (n0 + j) h h' := hs'
        have TOj : TO ≠ n0 + j := by omega
        have zj : z ≠ n0 + j := by omega
        have hto' : h'.get? TO = some (tupO vs) := by rw [hs'.2 TO TOj]; exact hto
        refine wpAny_bind (wpAny_seqItems (s := ⟨h', g, d, tk', os⟩) hto' rfl ?_)
        refine wpAny_bind (wpAny_updateSeq (s := ⟨h', g, d, tk', os⟩) hto' rfl ?_ (by omega) (by rw [Array.size_setIfInBounds]; omega))
        refine wpAny_bind (wpAny_letGo (wpAny_pure ⟨_, rfl, rfl, _, tk', vs.setIfInBounds j y, rfl, ?_⟩))
        have hsU := Heap.SameBut.update h' TO (Obj.mapSeq fun v => v.setIfInBounds j y)
        refine ⟨hsU.1.trans (hs'.1.trans sz), ?_, by rw [Array.size_setIfInBounds]; exact vsz, ?_, fun k x hk e => ?_, fun k hk => ⟨fun q => ?_, fun q => ?_⟩, fun c hc => ?_⟩
        · exact (hsU.2 z nz.2.1).trans ((hs'.2 z zj).trans hz)
        · show (h'.update TO _).get? TO = _
          rw [Heap.get?_update_self _ hto' rfl]
          simp [Obj.mapSeq, tupO]
        · by_cases kj : k = j
          · subst kj
            rw [Array.getElem?_setIfInBounds_self, if_pos (by omega)] at e
            cases e
            exact py
          · rw [Array.getElem?_setIfInBounds_ne (by omega)] at e
            exact hp1 k x (by omega) e
        · by_cases kj : k = j
          · subst kj
            exact (D k hk).over sy hsU fun q => zn_far (hfp k hk _ q) hk (by omega) rfl
          · exact (D k hk).over ((D k hk).over ((hst k hk).1 (by omega)) hs' fun q => zn_far2 (hfp k hk _ q) kj rfl) hsU fun q => zn_far (hfp k hk _ q) hk (by omega) rfl
        · exact (D k hk).over ((D k hk).over ((hst k hk).2 (by omega)) hs' fun q => zn_far2 (hfp k hk _ q) (by omega) rfl) hsU fun q => zn_far (hfp k hk _ q) hk (by omega) rfl
        · rw [hsU.2 c (zn_out t1 t2 t3 hc).2, hs'.2 c (zn_in hj hc)]
          exact kp c hc
      · rintro r s' ⟨rfl, h, tk, vs, rfl, sz, hz, vsz, hto, hp1, hst, kp⟩
        rw [List.length_zipIdx, List.length_map, List.length_range] at hp1 hst
        refine wpAny_bind (wpAny_seqItems (s := ⟨h, g, d, tk, os⟩) hto rfl ?_)
        refine wpAny_bind (wpAny_newTuple ?_ (by rw [Array.length_toList]; omega))
        show wpAny _ _ (Builtin.SmallTypes.ownedTupleHandOut (.ref z) (.ref h.objs.size) >>= _) _ _ ⟨h.push { cls := .type "tuple", data := .seq vs.toList.toArray }, g, d, tk, os⟩
        have ev : vs.toList.toArray = vs := Array.toArray_toList
        rw [ev]
        refine wpAny_bind ?_
        unfold Builtin.SmallTypes.ownedTupleHandOut
        have zlt : z < h.objs.size := Heap.lt_size hz
        have hz6 : (h.push (tupO vs)).get? z = some (zipO TI TO .ellipsis f1) := Heap.get?_push_of_some _ hz
        refine wpAny_bind (wpAny_setField_rec hz6 (by simp) fun h7 hz7 hs7 => ?_)
        replace hs7 : Heap.SameBut z (h.push (tupO vs)) h7 := hs7
        refine wpAny_setField_rec hz7 (by simp) fun h8 hz8 hs8 => ?_
        replace hs8 : Heap.SameBut z h7 h8 := hs8
        have up : ∀ c o, c ≠ z → h.get? c = some o → h8.get? c = some o := fun c o c1 e => hs8.extBut _ _ c1 (hs7.extBut _ _ c1 (Heap.get?_push_of_some _ e))
        have hT8 : h8.get? h.objs.size = some (tupO vs) := hs8.extBut _ _ (Nat.ne_of_gt zlt) (hs7.extBut _ _ (Nat.ne_of_gt zlt) (Heap.get?_push_size _ rfl))
        have hz8s : h8.objs.size = h.objs.size + 1 := by rw [hs8.1, hs7.1, Heap.size_push]
        refine wpAny_pure ⟨_, rfl, ?_⟩
        show Q (.ref h.objs.size) ⟨h8, g, d, tk, os⟩
        rw [sz] at hT8 hz8s ⊢
        have hTIh : h.get? TI = some (tupO ((List.range N).map fun k => Value.ref (n0 + k)).toArray) := by rw [kp TI (.inr (.inr t1))]; exact hTI
        exact hQ vs h8 tk vsz (fun k x e => hp1 k x (by rw [← vsz]; exact (Array.getElem?_eq_some_iff.mp e).1) e) ⟨⟨_, _, hz8, .inr ⟨h.objs.size, rfl⟩⟩, up TI _ (fun q => nz.1 q.symm) hTIh, ⟨vs, vsz, up TO _ (fun q => nz.2.1 q.symm) hto⟩⟩
          (fun k hk => (D k hk).frame _ _ _ ((hst k hk).1 hk) fun c hc o e => up c o (zn_far (hfp k hk c hc) hk (by omega)) e) hT8 hz8s
          fun c o hc e => up c o (by omega) (by rw [kp c (by omega)]; exact e)
    | false =>
      simp only [if_false, Bool.false_eq_true]
      rw [List.forIn_toArray]
      refine wpAny_bind (wpAny_forIn_ex (I := fun j (r : Option Fin × Array Value) s' => ∃ vs, r = (none, vs) ∧ ∃ h tk, s' = ⟨h, g, d, tk, os⟩ ∧ h.objs.size = hp.objs.size ∧ vs.size = j ∧ (∀ k x, vs[k]? = some x → P k n x) ∧ (∀ k, k < N → (k < j → St k (n + 1) h) ∧ (j ≤ k → St k n h)) ∧ ∀ c, (c < n0 ∨ n0 + N ≤ c) → h.get? c = h1.get? c)
        ⟨#[], rfl, h1, tk0, rfl, sz1, rfl, (fun k x e => by simp at e), (fun k hk => ⟨fun q => absurd q (Nat.not_lt_zero k), fun _ => st1 k hk⟩), fun c hc => rfl⟩ ?_ ?_)
      · rintro j x r s' hx ⟨vs, rfl, h, tk, rfl, sz, vsz, hp1, hst, kp⟩
        have hj : j < N := by
          have := (List.getElem?_eq_some_iff.mp hx).1
          rwa [List.length_map, List.length_range] at this
        have ex : x = Value.ref (n0 + j) := by
          rw [List.getElem?_map, List.getElem?_range hj] at hx
          exact (Option.some.inj hx).symm
        subst ex
        refine wpAny_bind (wpAny_holding ?_)
        show wpAny _ _ (Builtin.SmallTypes.nextOf (.ref (n0 + j)) >>= _) _ _ _
        refine wpAny_bind ((D j hj).item n _ _ _ (lt j hj) ((hst j hj).2 (Nat.le_refl j)) fun y h' tk' py sy hs' => wpAny_pure ?_)
        replace hs' : Heap.SameBut (n0 + j) h h' := hs'
        refine wpAny_pure ⟨_, rfl, vs.push y, rfl, h', tk', rfl, hs'.1.trans sz, by rw [Array.size_push, vsz], fun k x e => ?_, fun k hk => ⟨fun q => ?_, fun q => ?_⟩, fun c hc => ?_⟩
        · rw [Array.getElem?_push] at e
          by_cases kj : k = vs.size
          · rw [if_pos kj] at e
            cases e
            rw [kj, vsz]
            exact py
          · rw [if_neg kj] at e
            exact hp1 k x e
        · by_cases kj : k = j
          · subst kj
            exact sy
          · exact (D k hk).over ((hst k hk).1 (by omega)) hs' fun q => zn_far2 (hfp k hk _ q) kj rfl
        · exact (D k hk).over ((hst k hk).2 (by omega)) hs' fun q => zn_far2 (hfp k hk _ q) (by omega) rfl
        · rw [hs'.2 c (zn_in2 hj hc)]
          exact kp c hc
      · rintro r s' ⟨vs, rfl, h, tk, rfl, sz, vsz, hp1, hst, kp⟩
        rw [List.length_map, List.length_range] at vsz hst
        refine wpAny_bind (wpAny_newTuple ?_ (by show vs.toList.length ≤ sizeLine; rw [Array.length_toList]; omega))
        have ev : vs.toList.toArray = vs := Array.toArray_toList
        rw [ev]
        refine wpAny_pure ⟨_, rfl, ?_⟩
        show Q (.ref h.objs.size) ⟨h.push (tupO vs), g, d, tk, os⟩
        have up : ∀ c o, h.get? c = some o → (h.push (tupO vs)).get? c = some o := fun c o e => Heap.get?_push_of_some _ e
        have hT8 : (h.push (tupO vs)).get? h.objs.size = some (tupO vs) := Heap.get?_push_size _ rfl
        have hz8s : (h.push (tupO vs)).objs.size = h.objs.size + 1 := Heap.size_push ..
        rw [sz] at hT8 hz8s ⊢
        exact hQ vs _ tk vsz (fun k x e => hp1 k x e) ⟨⟨_, _, up z _ (by rw [kp z (by omega)]; exact hz1), hf1⟩, up TI _ (by rw [kp TI (by omega)]; exact hTI1), ⟨vs0, sz0, up TO _ (by rw [kp TO (by omega)]; exact hTO1)⟩⟩
          (fun k hk => (D k hk).frame _ _ _ ((hst k hk).1 hk) fun c hc o e => up c o e) hT8 hz8s
          fun c o hc e => up c o (by rw [kp c (by omega), kp1 c (by omega)]; exact e)
theorem zipN_next_end {N n0 TI TO z n : Nat} {Q : Fin → Shared → Prop} {s : Shared} (hN : 0 < N) (hN2 : N ≤ sizeLine) (t1 : TI = n0 + N) (t2 : TO = n0 + N + 1) (t3 : z = n0 + N + 2) (Z : ZN N n0 TI TO z s.heap) {fp : Nat → List Addr} {m : Nat → Nat} {P : Nat → Nat → Value → Prop} {St : Nat → Nat → Heap → Prop}
    (D : ∀ k, k < N → Draws prog w A (n0 + k) (fp k) (m k) (P k) (St k)) (hfp : ∀ k, k < N → ∀ a ∈ fp k, a = n0 + k ∨ a < n0) (st : ∀ k, k < N → St k n s.heap) (le : ∀ k, k < N → n ≤ m k) (en : ∃ k, k < N ∧ n = m k)
    (hE : ∀ h' tk e, (∀ c o, (c < n0 ∨ n0 + N + 2 < c) → s.heap.get? c = some o → h'.get? c = some o) → (∃ o, h'.get? e = some o ∧ o.cls = .type "StopIteration") → E (.ref e) { s with heap := h', toks := tk }) :
    wpAny (model prog w) A (Builtin.«zip.__next__» ⟨[.ref z], []⟩) Q E s := by
  obtain ⟨hp, g, d, tk0, os⟩ := s
  obtain ⟨⟨f0, f1, hz, hf0⟩, hTI, ⟨vs0, sz0, hTO⟩⟩ := Z
  show wpAny _ _ (field (.ref z) 2 >>= _) _ _ _
  refine wpAny_bind (wpAny_field hz rfl (x := .bool false) rfl ?_)
  show wpAny _ _ (field (.ref z) 3 >>= _) _ _ _
  refine wpAny_bind (wpAny_field hz rfl (x := .ref TI) rfl ?_)
  refine wpAny_bind (wpAny_seqItems hTI rfl ?_)
  have ne : ((List.range N).map fun k => Value.ref (n0 + k)).toArray.isEmpty = false := by
    cases N with
    | zero => exact absurd hN (Nat.lt_irrefl 0)
    | succ N => simp
  simp only [ne]
  have zl : 2000 ≤ sizeLine := by decide
  have nz : z ≠ TI ∧ z ≠ TO ∧ TI ≠ TO := ⟨by omega, by omega, by omega⟩
  refine wpAny_bind (wpAny_mono (Q := fun (b : Bool) s1 => ∃ h1 f0 f1, s1 = ⟨h1, g, d, tk0, os⟩ ∧ h1.get? z = some (zipO TI TO f0 f1) ∧ (f0 = .none ∨ ∃ a : Nat, f0 = rawInt a) ∧ h1.objs.size = hp.objs.size ∧ ∀ c, c ≠ z → h1.get? c = hp.get? c) ?_ (fun b s1 hg => ?_) fun _ _ z => z)
  · unfold Builtin.SmallTypes.ownedTupleIsFree
    refine wpAny_bind (wpAny_field hz rfl (x := f0) rfl ?_)
    rcases hf0 with rfl | ⟨a, rfl⟩
    · exact wpAny_pure ⟨hp, .none, f1, rfl, hz, .inl rfl, rfl, fun _ _ => rfl⟩
    · have same : ∃ h1 f0 f1, (⟨hp, g, d, tk0, os⟩ : Shared) = ⟨h1, g, d, tk0, os⟩ ∧ h1.get? z = some (zipO TI TO f0 f1) ∧ (f0 = .none ∨ ∃ a : Nat, f0 = rawInt a) ∧ h1.objs.size = hp.objs.size ∧ ∀ c, c ≠ z → h1.get? c = hp.get? c := ⟨hp, rawInt a, f1, rfl, hz, .inr ⟨a, rfl⟩, rfl, fun _ _ => rfl⟩
      show wpAny _ _ (loadIfAlive _ >>= _) _ _ _
      refine wpAny_bind (wpAny_loadIfAlive ?_)
      by_cases al : ((⟨hp, g, d, tk0, os⟩ : Shared).heap.get? ((a : Int)).toNat).isNone = true
      · rw [if_pos al]
        exact wpAny_pure same
      · rw [if_neg al]
        show wpAny _ _ (field (.ref z) 1 >>= _) _ _ _
        refine wpAny_bind (wpAny_field hz rfl (x := f1) rfl ?_)
        by_cases bt : (f1 != Value.bool true) = true
        · rw [if_pos bt]
          refine wpAny_bind (wpAny_setField_rec hz (by simp) fun g0 hz0 hs0 => ?_)
          exact wpAny_pure ⟨g0, rawInt a, .bool true, rfl, hz0, .inr ⟨a, rfl⟩, hs0.1, fun c hc => hs0.2 c hc⟩
        · rw [if_neg bt]
          exact wpAny_bind (wpAny_pure (wpAny_pure same))
  · obtain ⟨h1, f0, f1, rfl, hz1, hf1, sz1, kp1⟩ := hg
    have st1 : ∀ k, k < N → St k n h1 := fun k hk => (D k hk).frame n hp h1 (st k hk) fun c hc o e => by
      rw [kp1 c (zn_far (hfp k hk c hc) hk (by omega))]
      exact e
    have hTI1 : h1.get? TI = some (tupO ((List.range N).map fun k => Value.ref (n0 + k)).toArray) := by rw [kp1 TI (fun q => nz.1 q.symm)]; exact hTI
    have hTO1 : h1.get? TO = some (tupO vs0) := by rw [kp1 TO (fun q => nz.2.1 q.symm)]; exact hTO
    cases b with
    | true =>
      simp only [if_true]
      refine wpAny_bind (wpAny_rule ?_)
      refine wpAny_bind (wpAny_field hz1 rfl (x := .ref TO) rfl ?_)
      refine wpAny_bind (wpAny_setField_rec hz1 (by simp) fun h2 hz2 hs2 => ?_)
      have hTO2 : h2.get? TO = some (tupO vs0) := by rw [hs2.2 TO (fun q => nz.2.1 q.symm)]; exact hTO1
      have st2 : ∀ k, k < N → St k n h2 := fun k hk => (D k hk).over (st1 k hk) hs2 fun q => zn_far (hfp k hk _ q) hk (by omega) rfl
      refine wpAny_bind (wpAny_forIn_ex (I := fun j r s' => r = (none, ()) ∧ ∃ h tk vs, s' = ⟨h, g, d, tk, os⟩ ∧ h.objs.size = hp.objs.size ∧ h.get? z = some (zipO TI TO .ellipsis f1) ∧ vs.size = N ∧ h.get? TO = some (tupO vs) ∧ (∀ k, k < j → n < m k) ∧ (∀ k, k < N → (k < j → St k (n + 1) h) ∧ (j ≤ k → St k n h)) ∧ ∀ c, (c < n0 ∨ n0 + N + 2 < c ∨ c = n0 + N) → h.get? c = hp.get? c)
        ⟨rfl, h2, tk0, vs0, rfl, hs2.1.trans sz1, hz2, sz0, hTO2, (fun k hk => absurd hk (Nat.not_lt_zero k)), (fun k hk => ⟨fun q => absurd q (Nat.not_lt_zero k), fun _ => st2 k hk⟩), fun c hc => (hs2.2 c (zn_out t1 t2 t3 hc).1).trans (kp1 c (zn_out t1 t2 t3 hc).1)⟩ ?_ ?_)
      · rintro j x r s' hx ⟨rfl, h, tk, vs, rfl, sz, hz, vsz, hto, hp1, hst, kp⟩
        have hj : j < N := by
          have := (List.getElem?_eq_some_iff.mp hx).1
          rwa [List.length_zipIdx, List.length_map, List.length_range] at this
        have ex : x = (Value.ref (n0 + j), j) := by
          rw [List.getElem?_zipIdx, List.getElem?_map, List.getElem?_range hj] at hx
          have := (Option.some.inj hx).symm
          rw [this, Nat.zero_add]
        subst ex
        refine wpAny_bind (wpAny_onRaise ?_)
        show wpAny _ _ (Builtin.SmallTypes.nextOf (.ref (n0 + j)) >>= _) _ _ _
        by_cases lj : n = m j
        · refine wpAny_bind ((D j hj).done ⟨h, g, d, tk, os⟩ _ _ (by rw [← lj]; exact (hst j hj).2 (Nat.le_refl j)) fun q e hq he => ?_)
          replace hq : Heap.ExtBut (n0 + j) h q := hq
          obtain ⟨oe, hoe, hce⟩ := he
          replace hoe : q.get? e = some oe := hoe
          have hzq : q.get? z = some (zipO TI TO .ellipsis f1) := hq _ _ (show z ≠ n0 + j by omega) hz
          have hez : e ≠ z := fun x => by subst x; rw [hzq] at hoe; cases hoe; simp [zipO] at hce
          refine wpAny_setField_rec (s := ⟨q, g, d, tk, os⟩) hzq (by simp) fun q' _ hq' => ?_
          replace hq' : Heap.SameBut z q q' := hq'
          exact hE q' tk e (fun c o hc x => hq'.extBut _ _ (zn_out t1 t2 t3 (by omega)).1 (hq _ _ (zn_in hj (by omega)) (by rw [kp c (by omega)]; exact x))) ⟨oe, hq'.extBut _ _ hez hoe, hce⟩
        have lt : n < m j := Nat.lt_of_le_of_ne (le j hj) lj
        refine wpAny_bind ((D j hj).item n _ _ _ lt ((hst j hj).2 (Nat.le_refl j)) fun y h' tk' py sy hs' => wpAny_pure ?_)
        replace hs' : Heap.SameBut (n0 + j) h h' := hs'
        have TOj : TO ≠ n0 + j := by omega
        have zj : z ≠ n0 + j := by omega
        have hto' : h'.get? TO = some (tupO vs) := by rw [hs'.2 TO TOj]; exact hto
        refine wpAny_bind (wpAny_seqItems (s := ⟨h', g, d, tk', os⟩) hto' rfl ?_)
        refine wpAny_bind (wpAny_updateSeq (s := ⟨h', g, d, tk', os⟩) hto' rfl ?_ (by omega) (by rw [Array.size_setIfInBounds]; omega))
        refine wpAny_bind (wpAny_letGo (wpAny_pure ⟨_, rfl, rfl, _, tk', vs.setIfInBounds j y, rfl, ?_⟩))
        have hsU := Heap.SameBut.update h' TO (Obj.mapSeq fun v => v.setIfInBounds j y)
        refine ⟨hsU.1.trans (hs'.1.trans sz), ?_, by rw [Array.size_setIfInBounds]; exact vsz, ?_, fun k hk => ?_, fun k hk => ⟨fun q => ?_, fun q => ?_⟩, fun c hc => ?_⟩
        · exact (hsU.2 z nz.2.1).trans ((hs'.2 z zj).trans hz)
        · show (h'.update TO _).get? TO = _
          rw [Heap.get?_update_self _ hto' rfl]
          simp [Obj.mapSeq, tupO]
        · by_cases kj : k = j
          · subst kj
            exact lt
          · exact hp1 k (by omega)
        · by_cases kj : k = j
          · subst kj
            exact (D k hk).over sy hsU fun q => zn_far (hfp k hk _ q) hk (by omega) rfl
          · exact (D k hk).over ((D k hk).over ((hst k hk).1 (by omega)) hs' fun q => zn_far2 (hfp k hk _ q) kj rfl) hsU fun q => zn_far (hfp k hk _ q) hk (by omega) rfl
        · exact (D k hk).over ((D k hk).over ((hst k hk).2 (by omega)) hs' fun q => zn_far2 (hfp k hk _ q) (by omega) rfl) hsU fun q => zn_far (hfp k hk _ q) hk (by omega) rfl
        · rw [hsU.2 c (zn_out t1 t2 t3 hc).2, hs'.2 c (zn_in hj hc)]
          exact kp c hc
      · rintro r s' ⟨rfl, h, tk, vs, rfl, sz, hz, vsz, hto, hp1, hst, kp⟩
        rw [List.length_zipIdx, List.length_map, List.length_range] at hp1 hst
        obtain ⟨k, hk, e⟩ := en
        exact absurd (hp1 k hk) (by omega)
    | false =>
      simp only [if_false, Bool.false_eq_true]
      rw [List.forIn_toArray]
      refine wpAny_bind (wpAny_forIn_ex (I := fun j (r : Option Fin × Array Value) s' => ∃ vs, r = (none, vs) ∧ ∃ h tk, s' = ⟨h, g, d, tk, os⟩ ∧ h.objs.size = hp.objs.size ∧ vs.size = j ∧ (∀ k, k < j → n < m k) ∧ (∀ k, k < N → (k < j → St k (n + 1) h) ∧ (j ≤ k → St k n h)) ∧ ∀ c, (c < n0 ∨ n0 + N ≤ c) → h.get? c = h1.get? c)
        ⟨#[], rfl, h1, tk0, rfl, sz1, rfl, (fun k hk => absurd hk (Nat.not_lt_zero k)), (fun k hk => ⟨fun q => absurd q (Nat.not_lt_zero k), fun _ => st1 k hk⟩), fun c hc => rfl⟩ ?_ ?_)
      · rintro j x r s' hx ⟨vs, rfl, h, tk, rfl, sz, vsz, hp1, hst, kp⟩
        have hj : j < N := by
          have := (List.getElem?_eq_some_iff.mp hx).1
          rwa [List.length_map, List.length_range] at this
        have ex : x = Value.ref (n0 + j) := by
          rw [List.getElem?_map, List.getElem?_range hj] at hx
          exact (Option.some.inj hx).symm
        subst ex
        refine wpAny_bind (wpAny_holding ?_)
        show wpAny _ _ (Builtin.SmallTypes.nextOf (.ref (n0 + j)) >>= _) _ _ _
        by_cases lj : n = m j
        · refine wpAny_bind ((D j hj).done ⟨h, g, d, tk, os⟩ _ _ (by rw [← lj]; exact (hst j hj).2 (Nat.le_refl j)) fun q e hq he => ?_)
          replace hq : Heap.ExtBut (n0 + j) h q := hq
          exact hE q tk e (fun c o hc x => hq _ _ (zn_in2 hj (zn_w hc)) (by rw [kp c (zn_w hc), kp1 c (zn_out t1 t2 t3 (zn_v hc)).1]; exact x)) he
        have lt : n < m j := Nat.lt_of_le_of_ne (le j hj) lj
        refine wpAny_bind ((D j hj).item n _ _ _ lt ((hst j hj).2 (Nat.le_refl j)) fun y h' tk' py sy hs' => wpAny_pure ?_)
        replace hs' : Heap.SameBut (n0 + j) h h' := hs'
        refine wpAny_pure ⟨_, rfl, vs.push y, rfl, h', tk', rfl, hs'.1.trans sz, by rw [Array.size_push, vsz], fun k hk => ?_, fun k hk => ⟨fun q => ?_, fun q => ?_⟩, fun c hc => ?_⟩
        · by_cases kj : k = j
          · subst kj
            exact lt
          · exact hp1 k (by omega)
        · by_cases kj : k = j
          · subst kj
            exact sy
          · exact (D k hk).over ((hst k hk).1 (by omega)) hs' fun q => zn_far2 (hfp k hk _ q) kj rfl
        · exact (D k hk).over ((hst k hk).2 (by omega)) hs' fun q => zn_far2 (hfp k hk _ q) (by omega) rfl
        · rw [hs'.2 c (zn_in2 hj hc)]
          exact kp c hc
      · rintro r s' ⟨vs, rfl, h, tk, rfl, sz, vsz, hp1, hst, kp⟩
        rw [List.length_map, List.length_range] at hp1
        obtain ⟨k, hk, e⟩ := en
        exact absurd (hp1 k hk) (by omega)
end
end PySem
namespace PySem
open Sem (wp)
namespace F
theorem typeCall_zip_n (vs : List Value) : checkTypeCall "zip" ⟨vs, []⟩ = pure () := by kernel_rfl
theorem newCall_zip_n : ∀ (vs : List Value), checkBuiltinCall "zip.__new__" ⟨.type "zip" :: vs, []⟩ = pure ()
  | [] => by kernel_rfl
  | [a] => by kernel_rfl
  | a :: b :: vs => by kernel_rfl
theorem args_object_init_n (a : Value) (vs : List Value) : argsOk "object.__init__" ⟨a :: vs, []⟩ := by
  unfold argsOk; rw [signature?_of (id := "object.__init__") (n := ['_', '_', 't', 'i', 'n', 'i', '_', '_']) (o := ['t', 'c', 'e', 'j', 'b', 'o']) (by kernel_rfl) owner_object]; kernel_rfl
end F
end PySem
namespace PySem
open Sem (wp)
structure ZB (sz N : Nat) (o : Nat → Obj) (h h' : Heap) : Prop where
  z : h'.get? (sz + N + 2) = some (zipO (sz + N) (sz + N + 1) .none (.bool false))
  ti : h'.get? (sz + N) = some (tupO ((List.range N).map fun k => Value.ref (sz + k)).toArray)
  to : h'.get? (sz + N + 1) = some (tupO (Array.replicate N Value.none))
  it : ∀ k, k < N → h'.get? (sz + k) = some (o k)
  size : h'.objs.size = sz + N + 3
  keep : ∀ c ob, h.get? c = some ob → h'.get? c = some ob
theorem wpAny_iterAll {prog : Program} {w : World} {A : Around} {E : Value → Shared → Prop} {s : Shared} {vs : List Value} {o : Nat → Obj} {Hh : Nat → Heap → Prop} (B : ∀ k v, vs[k]? = some v → Begins v (o k) (Hh k)) (hh : ∀ k v, vs[k]? = some v → Hh k s.heap) {Q : List Value → Shared → Prop}
    (h : ∀ h', h'.objs.size = s.heap.objs.size + vs.length → (∀ k, k < vs.length → h'.get? (s.heap.objs.size + k) = some (o k)) → (∀ c ob, s.heap.get? c = some ob → h'.get? c = some ob) → Q ((List.range vs.length).map fun k => Value.ref (s.heap.objs.size + k)) { s with heap := h' }) :
    wpAny (model prog w) A (Builtin.SmallTypes.iterAll vs) Q E s := by
  obtain ⟨hp, g, d, tk, os⟩ := s
  unfold Builtin.SmallTypes.iterAll
  refine wpAny_bind (wpAny_forIn_ex (I := fun j (r : Array Value) s' => r = ((List.range j).map fun k => Value.ref (hp.objs.size + k)).toArray ∧ ∃ h, s' = ⟨h, g, d, tk, os⟩ ∧ h.objs.size = hp.objs.size + j ∧ (∀ k, k < j → h.get? (hp.objs.size + k) = some (o k)) ∧ ∀ c ob, hp.get? c = some ob → h.get? c = some ob)
    ⟨rfl, hp, rfl, rfl, fun k hk => absurd hk (Nat.not_lt_zero k), fun _ _ e => e⟩ ?_ ?_)
  · rintro j x r s' hx ⟨rfl, h1, rfl, sz, its, kp⟩
    refine wpAny_bind (wpAny_holding ((B j x hx).iter prog w _ _ _ _ ((B j x hx).keeps _ _ (hh j x hx) kp) (wpAny_pure ⟨_, rfl, ?_, h1.push (o j), rfl, ?_, fun k hk => ?_, fun c ob e => Heap.get?_push_of_some _ (kp c ob e)⟩)))
    · show (Array.push _ (Value.ref h1.objs.size)) = _
      rw [List.range_succ, List.map_append, sz]
      simp
    · rw [Heap.size_push, sz, Nat.add_assoc]
    · rcases Nat.lt_or_eq_of_le (Nat.le_of_lt_succ hk) with q | q
      · exact Heap.get?_push_of_some _ (its k q)
      · rw [q, ← sz]
        exact Heap.get?_push_size _ (B j x hx).free
  · rintro r s' ⟨rfl, h1, rfl, sz, its, kp⟩
    exact wpAny_pure (h h1 sz its kp)
theorem meets_zip_newN {vs : List Value} {o : Nat → Obj} {Hh : Nat → Heap → Prop} (hv : vs.length ≤ sizeLine) (B : ∀ k v, vs[k]? = some v → Begins v (o k) (Hh k)) :
    Meets (Builtin.«zip.__new__» ⟨.type "zip" :: vs, []⟩) (fun _ R s => (∀ k v, vs[k]? = some v → Hh k s.heap) ∧
      ∀ h', ZB s.heap.objs.size vs.length o s.heap h' → R (.ok (.ret (.ref (s.heap.objs.size + vs.length + 2)))) { s with heap := h' }) :=
  .of_wp fun prog w A R s h => by
    obtain ⟨hp, g, d, tk, os⟩ := s; obtain ⟨h1, h⟩ := h
    have hsub := sub_zip
    show wpAny _ _ (Builtin.SmallTypes.newClass "zip" ⟨.type "zip" :: vs, []⟩ >>= _) _ _ _
    refine wpAny_bind (wpAny_mono (Q := fun r s' => r = (.type "zip", vs) ∧ s' = ⟨hp, g, d, tk, os⟩) ?_ (fun r s' hr => ?_) fun _ _ z => z)
    · unfold Builtin.SmallTypes.newClass
      repeat (any_goals (first | assumption | wp_step))
      exact ⟨rfl, rfl⟩
    · obtain ⟨rfl, rfl⟩ := hr
      refine wpAny_bind (wpAny_iterAll B h1 fun h' sz its kp => ?_)
      refine wpAny_bind (wpAny_newTuple ?_ (by simpa using hv))
      refine wpAny_bind (wpAny_newTuple ?_ (by simpa using hv))
      have sT : (h'.push (tupO ((List.range vs.length).map fun k => Value.ref (hp.objs.size + k)).toArray)).objs.size = hp.objs.size + vs.length + 1 := by rw [Heap.size_push, sz]
      show wpAny _ _ (newObj (.type "zip") (.fields #[.none, .bool false, .bool false, .ref h'.objs.size, .ref (h'.push _).objs.size]) >>= _) _ _ _
      have eN : ((List.range vs.length).map fun k => Value.ref (hp.objs.size + k)).map (fun _ => Value.none) = List.replicate vs.length Value.none := by
        rw [List.map_map, List.eq_replicate_iff]
        exact ⟨by simp, fun b hb => by obtain ⟨_, _, e⟩ := List.mem_map.mp hb; exact e.symm⟩
      refine wpAny_bind (wpAny_newObj_type ?_)
      refine wpAny_pure ⟨_, rfl, ?_⟩
      rw [eN]
      show R (.ok (.ret (.ref (((h'.push (tupO ((List.range vs.length).map fun k => Value.ref (hp.objs.size + k)).toArray)).push (tupO (List.replicate vs.length Value.none).toArray)).objs.size)))) ⟨((h'.push (tupO ((List.range vs.length).map fun k => Value.ref (hp.objs.size + k)).toArray)).push (tupO (List.replicate vs.length Value.none).toArray)).push (zipO h'.objs.size (h'.push (tupO ((List.range vs.length).map fun k => Value.ref (hp.objs.size + k)).toArray)).objs.size .none (.bool false)), g, d, tk, os⟩
      have sO : ((h'.push (tupO ((List.range vs.length).map fun k => Value.ref (hp.objs.size + k)).toArray)).push (tupO (List.replicate vs.length Value.none).toArray)).objs.size = hp.objs.size + vs.length + 2 := by rw [Heap.size_push, sT]
      rw [sO]
      have up : ∀ c ob, h'.get? c = some ob → (((h'.push (tupO ((List.range vs.length).map fun k => Value.ref (hp.objs.size + k)).toArray)).push (tupO (List.replicate vs.length Value.none).toArray)).push (zipO h'.objs.size (h'.push (tupO ((List.range vs.length).map fun k => Value.ref (hp.objs.size + k)).toArray)).objs.size .none (.bool false))).get? c = some ob := fun c ob e => Heap.get?_push_of_some _ (Heap.get?_push_of_some _ (Heap.get?_push_of_some _ e))
      refine h _ ⟨?_, ?_, ?_, fun k hk => up _ _ (its k hk), ?_, fun c ob e => up _ _ (kp c ob e)⟩
      · have := Heap.get?_push_size ((h'.push (tupO ((List.range vs.length).map fun k => Value.ref (hp.objs.size + k)).toArray)).push (tupO (List.replicate vs.length Value.none).toArray)) (o := zipO h'.objs.size (h'.push (tupO ((List.range vs.length).map fun k => Value.ref (hp.objs.size + k)).toArray)).objs.size .none (.bool false)) rfl
        rw [sO] at this
        rw [this, sT, sz]
      · have := Heap.get?_push_size h' (o := tupO ((List.range vs.length).map fun k => Value.ref (hp.objs.size + k)).toArray) rfl
        rw [sz] at this
        exact Heap.get?_push_of_some _ (Heap.get?_push_of_some _ this)
      · have := Heap.get?_push_size (h'.push (tupO ((List.range vs.length).map fun k => Value.ref (hp.objs.size + k)).toArray)) (o := tupO (List.replicate vs.length Value.none).toArray) rfl
        rw [sT] at this
        rw [show Array.replicate vs.length Value.none = (List.replicate vs.length Value.none).toArray by simp]
        exact Heap.get?_push_of_some _ this
      · rw [Heap.size_push, sO]
theorem zip_beginsN {prog : Program} {w : World} {A : Around} {E : Value → Shared → Prop} {s : Shared} {vs : List Value} {o : Nat → Obj} {Hh : Nat → Heap → Prop} {Q : Value → Shared → Prop} (hv : vs.length ≤ sizeLine) (B : ∀ k v, vs[k]? = some v → Begins v (o k) (Hh k)) (hh : ∀ k v, vs[k]? = some v → Hh k s.heap)
    (h : ∀ h', ZB s.heap.objs.size vs.length o s.heap h' → Q (.ref (s.heap.objs.size + vs.length + 2)) { s with heap := h' }) :
    wpAny (model prog w) A (call (.type "zip") vs) Q E s :=
  callType_new F.called_zip (by decide) (F.typeCall_zip_n _) (F.newCall_zip_n _) (fun obj => F.args_object_init_n obj _) F.entry_zip_new
    (meets_zip_newN hv B) ⟨hh, fun h' z => ⟨⟨_, z.z, rfl⟩, h h' z⟩⟩
end PySem
namespace PySem
section
variable {prog : Program} {w : World} {A : Around} {E : Value → Shared → Prop}
theorem wpAny_pyNext_zipN_item {N n0 TI TO z n : Nat} {Q : Option Value → Shared → Prop} {s : Shared} (hN : 0 < N) (hN2 : N ≤ sizeLine) (t1 : TI = n0 + N) (t2 : TO = n0 + N + 1) (t3 : z = n0 + N + 2) (Z : ZN N n0 TI TO z s.heap) {fp : Nat → List Addr} {m : Nat → Nat} {P : Nat → Nat → Value → Prop} {St : Nat → Nat → Heap → Prop}
    (D : ∀ k, k < N → Draws prog w A.in1 (n0 + k) (fp k) (m k) (P k) (St k)) (hfp : ∀ k, k < N → ∀ a ∈ fp k, a = n0 + k ∨ a < n0) (st : ∀ k, k < N → St k n s.heap) (lt : ∀ k, k < N → n < m k)
    (hQ : ∀ (xs : Array Value) h' tk, xs.size = N → (∀ k x, xs[k]? = some x → P k n x) → ZN N n0 TI TO z h' → (∀ k, k < N → St k (n + 1) h') → h'.get? s.heap.objs.size = some (tupO xs) → h'.objs.size = s.heap.objs.size + 1 →
      (∀ c o, (c < n0 ∨ n0 + N + 2 < c) → s.heap.get? c = some o → h'.get? c = some o) → Q (some (.ref s.heap.objs.size)) { s with heap := h', toks := tk }) :
    wpAny (model prog w) A (pyNext (.ref z)) Q E s := by
  obtain ⟨f0, f1, hz, _⟩ := id Z.z
  have hT : s.TypeIs (.ref z) "zip" := ⟨_, hz, rfl⟩
  unfold pyNext
  exact wpAny_bind (wpAny_attempt (wpAny_callSpecial?_slot (name := Str.ofString "__next__") hT F.slot_zip_next
    (wpAny_call_entry F.slot_zip_next hT F.entry_zip_next
      (zipN_next_item hN hN2 t1 t2 t3 Z D hfp st lt fun xs h' tk y1 y2 b1 b2 d1 d2 b5 => wpAny_pure (hQ xs h' tk y1 y2 b1 b2 d1 d2 b5)) (F.args_zip_next_1 _))))
theorem wpAny_pyNext_zipN_end {N n0 TI TO z n : Nat} {Q : Option Value → Shared → Prop} {s : Shared} (hN : 0 < N) (hN2 : N ≤ sizeLine) (t1 : TI = n0 + N) (t2 : TO = n0 + N + 1) (t3 : z = n0 + N + 2) (Z : ZN N n0 TI TO z s.heap) {fp : Nat → List Addr} {m : Nat → Nat} {P : Nat → Nat → Value → Prop} {St : Nat → Nat → Heap → Prop}
    (D : ∀ k, k < N → Draws prog w A.in1 (n0 + k) (fp k) (m k) (P k) (St k)) (hfp : ∀ k, k < N → ∀ a ∈ fp k, a = n0 + k ∨ a < n0) (st : ∀ k, k < N → St k n s.heap) (le : ∀ k, k < N → n ≤ m k) (en : ∃ k, k < N ∧ n = m k)
    (hQ : ∀ h' tk, (∀ c o, (c < n0 ∨ n0 + N + 2 < c) → s.heap.get? c = some o → h'.get? c = some o) → Q none { s with heap := h', toks := tk }) : wpAny (model prog w) A (pyNext (.ref z)) Q E s := by
  obtain ⟨f0, f1, hz, _⟩ := id Z.z
  have hT : s.TypeIs (.ref z) "zip" := ⟨_, hz, rfl⟩
  unfold pyNext
  refine wpAny_bind (wpAny_attempt (wpAny_callSpecial?_slot (name := Str.ofString "__next__") hT F.slot_zip_next
    (wpAny_call_entry F.slot_zip_next hT F.entry_zip_next (zipN_next_end hN hN2 t1 t2 t3 Z D hfp st le en fun h' tk e hk he => ?_) (F.args_zip_next_1 _))))
  obtain ⟨o, ho, hc⟩ := he
  refine wpAny_bind (wpAny_isInstance (T := "StopIteration") (b := true) ⟨o, ho, hc⟩ isSubtype_stop ?_)
  exact wpAny_pure (hQ _ _ hk)
theorem wpAny_pyIter_zipN {z TI TO : Addr} {f0 f1 : Value} {s : Shared} {Q : Value → Shared → Prop} (hz : s.heap.get? z = some (zipO TI TO f0 f1)) (h : Q (.ref z) s) : wpAny (model prog w) A (pyIter (.ref z)) Q E s := by
  have hT : s.TypeIs (.ref z) "zip" := ⟨_, hz, rfl⟩
  refine wpAny_pyIter_slot hT F.slot_zip_iter (wpAny_call_entry F.slot_zip_iter hT F.entry_zip_iter ?_ (F.args_zip_iter_1 _))
  show wpAny _ _ (PySem.ret (.ref z)) _ _ s
  exact wpAny_pure ⟨_, rfl, "zip", _, hT, F.slot_zip_next.lookup, h⟩
end
end PySem
namespace Dl
open PySem PySem.Spec PyProof.Rows L2 RZ
variable [Tbs]
abbrev Src := Bool × Addr × List V
def Itn (K : KF) (cs : List Src) : It where
  go := fun n H => (∀ c ∈ cs, n < c.2.2.length) ∧ ∀ c ∈ cs, SqX c.1 K H c.2.1 c.2.2
  yld := fun n H v H' => ∃ T xs, v = .ref T ∧ H T = none ∧ H' = upd H T (.tup xs) ∧ cs.map (fun c : Src => c.2.2[n]?) = xs.map some
  stop := fun n H => (∃ c ∈ cs, c.2.2.length ≤ n) ∧ ∀ c ∈ cs, SqX c.1 K H c.2.1 c.2.2
structure ZnAt (cs : List Src) (n0 : Nat) (n : Nat) (h : Heap) : Prop where
  z : ZN cs.length n0 (n0 + cs.length) (n0 + cs.length + 1) (n0 + cs.length + 2) h
  it : ∀ k c, cs[k]? = some c → IrX c.1 h (n0 + k) c.2.1 n
  le : ∀ c ∈ cs, n ≤ c.2.2.length
theorem zipV {n : Nat} : ∀ {cs : List Src} {us : List Value}, us.length = cs.length → (∀ (k : Nat) (c : Src), cs[k]? = some c → ∃ x u, c.2.2[n]? = some x ∧ us[k]? = some u ∧ RelV x u) → ∃ vs, cs.map (fun c : Src => c.2.2[n]?) = vs.map some ∧ Vals vs us
  | [], us, hl, h => by
    cases us with
    | nil => exact ⟨[], rfl, .nil⟩
    | cons u us => cases hl
  | c :: cs, us, hl, h => by
    cases us with
    | nil => cases hl
    | cons u us =>
      obtain ⟨x, u1, e1, e2, r⟩ := h 0 c rfl
      cases e2
      obtain ⟨vs, e3, r3⟩ := zipV (cs := cs) (us := us) (Nat.succ.inj hl) fun k c hk => h (k + 1) c hk
      exact ⟨x :: vs, by rw [List.map_cons, List.map_cons, e1, e3], .cons r r3⟩
theorem mem_fpN {n0 N b : Nat} : b ∈ (List.range (N + 3)).map (fun k => n0 + k) ↔ n0 ≤ b ∧ b < n0 + N + 3 := by
  rw [List.mem_map]
  constructor
  · rintro ⟨k, hk, rfl⟩
    rw [List.mem_range] at hk
    omega
  · rintro ⟨h1, h2⟩
    exact ⟨b - n0, List.mem_range.mpr (by omega), by omega⟩
theorem fpN_out {n0 N b : Nat} (h : b ∉ (List.range (N + 3)).map (fun k => n0 + k)) : b < n0 ∨ n0 + N + 2 < b := by
  rw [mem_fpN] at h
  omega
theorem fpN_cases {n0 N b : Nat} (h : b ∈ (List.range (N + 3)).map (fun k => n0 + k)) : (∃ k, k < N ∧ b = n0 + k) ∨ b = n0 + N ∨ b = n0 + N + 1 ∨ b = n0 + N + 2 := by
  rw [mem_fpN] at h
  by_cases q : b < n0 + N
  · exact .inl ⟨b - n0, by omega, by omega⟩
  · exact .inr (by omega)
theorem drawN {X : Cx} {pins : List (Addr × Obj)} {σ : L2.St} {H : Hp} {s : Shared} {cs : List Src} {n0 n : Nat} (I : Inv X pins σ H s) (hh : X.A.in1.handled = none) (hs : ∀ c ∈ cs, SqX c.1 X.K H c.2.1 c.2.2) (hi : ∀ k c, cs[k]? = some c → IrX c.1 s.heap (n0 + k) c.2.1 n) :
    ∃ U : Nat → List Value, ∀ k c, cs[k]? = some c → Vals c.2.2 (U k) ∧ AsX c.1 s.heap c.2.1 (U k).toArray ∧ Draws X.prog X.w X.A.in1 (n0 + k) [n0 + k, c.2.1] (U k).toArray.size (fun j v => (U k).toArray[j]? = some v) fun j h => IrX c.1 h (n0 + k) c.2.1 j ∧ AsX c.1 h c.2.1 (U k).toArray := by
  refine Classical.axiomOfChoice (r := fun k u => ∀ c, cs[k]? = some c → Vals c.2.2 u ∧ AsX c.1 s.heap c.2.1 u.toArray ∧ Draws X.prog X.w X.A.in1 (n0 + k) [n0 + k, c.2.1] u.toArray.size (fun j v => u.toArray[j]? = some v) fun j h => IrX c.1 h (n0 + k) c.2.1 j ∧ AsX c.1 h c.2.1 u.toArray) fun k => ?_
  cases e : cs[k]? with
  | none => exact ⟨[], fun c z => by cases z⟩
  | some c =>
    obtain ⟨us, r, p, d⟩ := drawX I hh (hs c (List.mem_of_getElem? e)) (hi k c e)
    exact ⟨us, fun c' z => by cases z; exact ⟨r, p, d⟩⟩
theorem turn_zipN {P : Program} {w : World} {K : KF} {x : Str} {tp : Pos} {cs : List Src} {n0 : Nat} (h0 : 0 < cs.length) (hz : cs.length ≤ sizeLine) (hp : ∀ c ∈ cs, c.2.1 < n0) :
    Turn P w K (.Name x tp) (Itn K cs) ((List.range (cs.length + 3)).map fun k => n0 + k) (n0 + cs.length + 2) (fun n h => ZnAt cs n0 n h) where
  mem := mem_fpN.mpr (by omega)
  obj := fun n h st b hb => by
    obtain ⟨f0, f1, ez, _⟩ := st.z.z
    obtain ⟨vs, _, eo⟩ := st.z.to
    rcases fpN_cases hb with ⟨k, hk, rfl⟩ | rfl | rfl | rfl
    · obtain ⟨o, e, d⟩ := (st.it k cs[k] (List.getElem?_eq_getElem hk)).ob
      exact ⟨o, e, d⟩
    · exact ⟨_, st.z.ti, fun v e => nomatch e⟩
    · exact ⟨_, eo, fun v e => nomatch e⟩
    · exact ⟨_, ez, fun v e => nomatch e⟩
  keep := fun n h h' st k => by
    obtain ⟨f0, f1, ez, e0⟩ := st.z.z
    obtain ⟨vs, sv, eo⟩ := st.z.to
    exact ⟨⟨⟨f0, f1, k _ (mem_fpN.mpr (by omega)) _ ez, e0⟩, k _ (mem_fpN.mpr (by omega)) _ st.z.ti, ⟨vs, sv, k _ (mem_fpN.mpr (by omega)) _ eo⟩⟩,
      fun j c e => (st.it j c e).to fun o e2 => k _ (mem_fpN.mpr (by have := (List.getElem?_eq_some_iff.mp e).1; omega)) o e2, st.le⟩
  item := by
    rintro X rfl rfl rfl hc n pins s σ H E I hf st ⟨go, hs⟩
    obtain ⟨U, hU⟩ := drawN I (I.ok.hd hc) hs st.it
    have gk : ∀ {k}, (hk : k < cs.length) → cs[k]? = some cs[k] := fun hk => List.getElem?_eq_getElem hk
    refine wpAny_pyNext_zipN_item h0 hz rfl rfl rfl st.z (fp := fun k => [n0 + k, (cs[k]?.getD (false, 0, [])).2.1]) (m := fun k => (U k).toArray.size) (P := fun k j v => (U k).toArray[j]? = some v)
      (St := fun k j h => IrX (cs[k]?.getD (false, 0, [])).1 h (n0 + k) (cs[k]?.getD (false, 0, [])).2.1 j ∧ AsX (cs[k]?.getD (false, 0, [])).1 h (cs[k]?.getD (false, 0, [])).2.1 (U k).toArray)
      (fun k hk => by rw [gk hk]; exact (hU k _ (gk hk)).2.2) (fun k hk a ha => ?_) (fun k hk => by rw [gk hk]; exact ⟨st.it k _ (gk hk), (hU k _ (gk hk)).2.1⟩) (fun k hk => ?_) fun xs h' tk xz px Z' st' T1 szh kp => ?_
    · rw [gk hk] at ha
      simp only [List.mem_cons, List.not_mem_nil, or_false] at ha
      rcases ha with rfl | rfl
      · exact .inl rfl
      · exact .inr (hp _ (List.getElem_mem hk))
    · have := (hU k _ (gk hk)).1.length
      have g := go _ (List.getElem_mem hk)
      show n < (U k).toArray.size
      rw [List.size_toArray]
      omega
    · obtain ⟨vs, em, rv⟩ := zipV (n := n) (cs := cs) (us := xs.toList) (by rw [Array.length_toList]; exact xz) fun k c e => by
        have hk : k < cs.length := (List.getElem?_eq_some_iff.mp e).1
        have hx : xs[k]? = some xs[k] := Array.getElem?_eq_getElem (by omega)
        have q := px k _ hx
        rw [List.getElem?_toArray] at q
        obtain ⟨v, ev, r⟩ : ∃ v, c.2.2[n]? = some v ∧ RelV v xs[k] := by
          have hn : n < c.2.2.length := go _ (List.mem_of_getElem? e)
          obtain ⟨u, eu, r⟩ := (hU k c e).1.get (List.getElem?_eq_getElem hn)
          rw [eu] at q
          cases q
          exact ⟨_, List.getElem?_eq_getElem hn, r⟩
        exact ⟨v, xs[k], ev, by rw [Array.getElem?_toList]; exact hx, r⟩
      have lv : vs.length ≤ sizeLine := by
        have := congrArg List.length em
        rw [List.length_map, List.length_map] at this
        omega
      refine ⟨_, rfl, wpAny_pure ?_⟩
      have new : ObjOk X.prog X.w (upd H s.heap.objs.size (.tup vs)) h' s.heap.objs.size (.tup vs) := ⟨lv, xs.toList, rv, ⟨_, T1, rfl, 0, by simp [tupO]⟩⟩
      have J : Inv X pins σ (upd H s.heap.objs.size (.tup vs)) { s with heap := h', toks := tk } :=
        I.turnedNew (t' := tk) (ch := (List.range (cs.length + 3)).map fun k => n0 + k) (fun a ob hb e => kp a ob (fpN_out hb) e) hf (Nat.le_refl _) new
      refine ⟨.ref s.heap.objs.size, _, J, rfl, ⟨_, _, rfl, I.hok.fresh (Nat.le_refl _), rfl, em⟩, ⟨Z', fun k c e => ?_, fun c hc' => go c hc'⟩, fun a hb => ?_⟩
      · have := (st' k (List.getElem?_eq_some_iff.mp e).1).1
        rw [e] at this
        exact this
      · have lt : a < s.heap.objs.size := by
          obtain ⟨f0, f1, ez, _⟩ := st.z.z
          have q : n0 + cs.length + 2 < s.heap.objs.size := Heap.lt_size ez
          exact Nat.lt_of_lt_of_le (mem_fpN.mp hb).2 q
        rw [upd_ne (Nat.ne_of_lt lt)]
        exact (hf a hb).1
  done := by
    rintro X rfl rfl rfl hc n pins s σ H E I hf st ⟨en, hs⟩
    obtain ⟨U, hU⟩ := drawN I (I.ok.hd hc) hs st.it
    have gk : ∀ {k}, (hk : k < cs.length) → cs[k]? = some cs[k] := fun hk => List.getElem?_eq_getElem hk
    have ul : ∀ k (hk : k < cs.length), (U k).toArray.size = cs[k].2.2.length := fun k hk => by
      rw [List.size_toArray, (hU k _ (gk hk)).1.length]
    refine wpAny_pyNext_zipN_end h0 hz rfl rfl rfl st.z (fp := fun k => [n0 + k, (cs[k]?.getD (false, 0, [])).2.1]) (m := fun k => (U k).toArray.size) (P := fun k j v => (U k).toArray[j]? = some v)
      (St := fun k j h => IrX (cs[k]?.getD (false, 0, [])).1 h (n0 + k) (cs[k]?.getD (false, 0, [])).2.1 j ∧ AsX (cs[k]?.getD (false, 0, [])).1 h (cs[k]?.getD (false, 0, [])).2.1 (U k).toArray)
      (fun k hk => by rw [gk hk]; exact (hU k _ (gk hk)).2.2) (fun k hk a ha => ?_) (fun k hk => by rw [gk hk]; exact ⟨st.it k _ (gk hk), (hU k _ (gk hk)).2.1⟩) (fun k hk => ?_) ?_ fun h' tk kp => ⟨rfl, I.turnedL (t' := tk) (ch := (List.range (cs.length + 3)).map fun k => n0 + k) (fun a ob hb e => kp a ob (fpN_out hb) e) hf⟩
    · rw [gk hk] at ha
      simp only [List.mem_cons, List.not_mem_nil, or_false] at ha
      rcases ha with rfl | rfl
      · exact .inl rfl
      · exact .inr (hp _ (List.getElem_mem hk))
    · show n ≤ (U k).toArray.size
      rw [ul k hk]
      exact st.le _ (List.getElem_mem hk)
    · obtain ⟨c, hc', hl⟩ := en
      obtain ⟨k, hk, rfl⟩ := List.getElem_of_mem hc'
      refine ⟨k, hk, ?_⟩
      show n = (U k).toArray.size
      rw [ul k hk]
      exact Nat.le_antisymm (st.le _ (List.getElem_mem hk)) hl
  self := fun A n s Q E st h => by
    obtain ⟨f0, f1, ez, _⟩ := st.z.z
    exact wpAny_pyIter_zipN ez h
end Dl
namespace Dl
open PySem PySem.Spec PyProof.Rows L2 RZ
variable [Tbs]
def refN (cs : List Src) : List V := cs.map fun c => V.ref c.2.1
theorem valsN : ∀ {cs : List Src} {us : List Value}, Vals (refN cs) us → us = cs.map fun c => Value.ref c.2.1
  | [], _, .nil => rfl
  | c :: cs, _, .cons a r => by
    rw [valsN (cs := cs) r]
    exact congrArg (· :: _) a
section
variable {X : Cx} {e : Expr} {es : List Expr} {te : TE} {ta : TA} {x : Str} {p pos sp tp : Pos}
theorem zipN_go {pins : List (Addr × Obj)} {σ : L2.St} {H : Hp} {s : Shared} {R : It → Hp → Prop} {cs : List Src} {us : List Value} (I : Inv X pins σ H s) (r : Vals (refN cs) us) (h0 : cs ≠ []) (hz : cs.length ≤ sizeLine) (hs : ∀ c ∈ cs, SqX c.1 X.K H c.2.1 c.2.2) (k : R (Itn X.K cs) H) :
    wpAny (model X.prog X.w) X.A (call (.type "zip") us) (fun v s2 => wpAny (model X.prog X.w) X.A (pyIter v) (PIE X pins σ (.Name x tp) R) X.xe s2) X.xe s := by
  have eu := valsN r
  have lu : us.length = cs.length := by rw [eu, List.length_map]
  have gk : ∀ {k}, (hk : k < cs.length) → cs[k]? = some cs[k] := fun hk => List.getElem?_eq_getElem hk
  have gu : ∀ {k : Nat} {v : Value}, us[k]? = some v → ∃ c : Src, cs[k]? = some c ∧ v = Value.ref c.2.1 := fun {k v} e => by
    rw [eu, List.getElem?_map] at e
    obtain ⟨c, ec, rfl⟩ := Option.map_eq_some_iff.mp e
    exact ⟨c, ec, rfl⟩
  obtain ⟨U, hU⟩ : ∃ U : Nat → Array Value, ∀ (k : Nat) (c : Src), cs[k]? = some c → AsX c.1 s.heap c.2.1 (U k) := by
    refine Classical.axiomOfChoice (r := fun (k : Nat) (u : Array Value) => ∀ c : Src, cs[k]? = some c → AsX c.1 s.heap c.2.1 u) fun k => ?_
    cases e : cs[k]? with
    | none => exact ⟨#[], fun c z => by cases z⟩
    | some c =>
      have hx := hs c (List.mem_of_getElem? e)
      obtain ⟨b, a, xs⟩ := c
      cases b
      · obtain ⟨us, _, pu, _⟩ := I.list hx
        exact ⟨_, fun c' z => by cases z; exact pu.isList⟩
      · obtain ⟨us, _, pu, _⟩ := I.tuple hx
        exact ⟨us.toArray, fun c' z => by cases z; exact pu⟩
  refine zip_beginsN (vs := us) (o := fun k => obX (cs[k]?.getD (false, 0, [])).1 (cs[k]?.getD (false, 0, [])).2.1) (Hh := fun k h => AsX (cs[k]?.getD (false, 0, [])).1 h (cs[k]?.getD (false, 0, [])).2.1 (U k)) (by omega) (fun k v e => ?_) (fun k v e => ?_) fun h' zb => ?_
  · obtain ⟨c, ec, rfl⟩ := gu e
    rw [ec]
    exact begX c.1 c.2.1 (U k)
  · obtain ⟨c, ec, rfl⟩ := gu e
    rw [ec]
    exact hU k c ec
  · rw [lu] at zb ⊢
    have l0 : 0 < cs.length := List.length_pos_iff.mpr h0
    refine wpAny_pyIter_zipN zb.z ⟨_, (List.range (cs.length + 3)).map fun k => s.heap.objs.size + k, _, _, H, rfl, I.kept (t' := s.toks) zb.keep, turn_zipN (x := x) (tp := tp) (cs := cs) (n0 := s.heap.objs.size) l0 hz (fun c hc => ?_), ⟨⟨⟨_, _, zb.z, .inl rfl⟩, zb.ti, ⟨_, by simp, zb.to⟩⟩, fun k c e => ?_, fun c hc => Nat.zero_le _⟩, fun b hb => ?_, k⟩
    · obtain ⟨k, hk, rfl⟩ := List.getElem_of_mem hc
      exact (hU k _ (gk hk)).lt
    · have hk : k < cs.length := (List.getElem?_eq_some_iff.mp e).1
      refine irX_new ?_
      have := zb.it k hk
      rw [e] at this
      exact this
    · have le : s.heap.objs.size ≤ b := (mem_fpN.mp hb).1
      exact I.fpOk le (I.hok.fresh le)
def iZipN (K : KF) (ta : TA) : TI := fun σ H R => ta σ H fun vs H1 => ∃ cs, vs = refN cs ∧ cs ≠ [] ∧ cs.length ≤ sizeLine ∧ (∀ c ∈ cs, SqX c.1 K H1 c.2.1 c.2.2) ∧ R (Itn K cs) H1
theorem pi_zipN (hg : Gl X "zip") (hm : X.mg "zip" = none) (ha : PA X (e :: es) ta) (hs : starEach (e :: es) X.env = (false, eval e X.env) :: starEach es X.env) (hpl : (backTo pos (starEach es X.env)).any (·.1) = false) :
    PI X (.Name x tp) (.Call (.Name "zip" p) (e :: es) [] pos) (iZipN X.K ta) := by
  refine ⟨fun pins s σ H R I h => ?_⟩
  refine Call_ (ld_blt I hg hm PyProof.Rows.boot_zip (PyProof.Rows.callWith_type1 (thn (ha.run pos pins s σ H _ I h) fun us s1 ⟨vs, H1, I1, r1, cs, ex, h0, hz, hx, k⟩ => ?_) hs hpl))
  subst ex
  exact zipN_go I1 r1 h0 hz hx k
end
def minL : List (List D) → Nat
  | [] => 0
  | [l] => l.length
  | l :: r => min l.length (minL r)
def rowsN (ls : List (List D)) : List D := (List.range (minL ls)).map fun i => D.tup (ls.map fun l => l[i]?.getD .non)
theorem minL_le : ∀ {ls : List (List D)} {l}, l ∈ ls → minL ls ≤ l.length
  | [x], l, h => by
    rw [List.mem_singleton.mp h]
    exact Nat.le_refl _
  | x :: y :: r, l, h => by
    unfold minL
    rcases List.mem_cons.mp h with rfl | h
    · exact Nat.min_le_left ..
    · exact Nat.le_trans (Nat.min_le_right ..) (minL_le h)
theorem minL_mem : ∀ {ls : List (List D)}, ls ≠ [] → ∃ l ∈ ls, minL ls = l.length
  | [x], _ => ⟨x, List.mem_singleton.mpr rfl, rfl⟩
  | x :: y :: r, _ => by
    obtain ⟨l, hl, e⟩ := minL_mem (ls := y :: r) (by simp)
    unfold minL
    rw [e]
    rcases Nat.le_total x.length l.length with q | q
    · exact ⟨x, List.mem_cons_self .., Nat.min_eq_left q⟩
    · exact ⟨l, List.mem_cons_of_mem _ hl, Nat.min_eq_right q⟩
inductive SrcR (K : KF) (F : Hp) : List Src → List (List D) → Prop
  | nil : SrcR K F [] []
  | cons {c : Src} {l : List D} {cs ls} : RepL K F c.2.2 l → (∀ F' H, Same F F' → Same F' H → SqX c.1 K H c.2.1 c.2.2) → SrcR K F cs ls → SrcR K F (c :: cs) (l :: ls)
def sqAll : List D → Option (List (List D))
  | [] => some []
  | d :: ds => (sqO d).bind fun x => (sqAll ds).map (x :: ·)
theorem sqAll_rep {K : KF} {F : Hp} : ∀ {vs : List V} {ds : List D} {ls : List (List D)}, RepL K F vs ds → sqAll ds = some ls → ∃ cs, vs = refN cs ∧ SrcR K F cs ls
  | _, [], ls, .nil, h => by
    cases h
    exact ⟨[], rfl, .nil⟩
  | _, d :: ds, ls, .cons r1 r2, h => by
    unfold sqAll at h
    obtain ⟨l, e1, h⟩ := Option.bind_eq_some_iff.mp h
    obtain ⟨ls', e2, rfl⟩ := Option.map_eq_some_iff.mp h
    obtain ⟨b, p, vs1, rfl, q, w⟩ := rep_sqO r1 e1
    obtain ⟨cs, rfl, q2⟩ := sqAll_rep r2 e2
    exact ⟨(b, p, vs1) :: cs, rfl, .cons q w q2⟩
theorem SrcR.len {K : KF} {F : Hp} : ∀ {cs ls}, SrcR K F cs ls → cs.length = ls.length
  | _, _, .nil => rfl
  | _, _, .cons _ _ r => by rw [List.length_cons, List.length_cons, r.len]
theorem SrcR.src {K : KF} {F : Hp} : ∀ {cs ls}, SrcR K F cs ls → ∀ c ∈ cs, ∃ l ∈ ls, c.2.2.length = l.length ∧ ∀ F' H, Same F F' → Same F' H → SqX c.1 K H c.2.1 c.2.2
  | _, _, .cons r w q, c, h => by
    rcases List.mem_cons.mp h with rfl | h
    · exact ⟨_, List.mem_cons_self .., r.length, w⟩
    · obtain ⟨l, hl, z⟩ := q.src c h
      exact ⟨l, List.mem_cons_of_mem _ hl, z⟩
theorem SrcR.back {K : KF} {F : Hp} : ∀ {cs ls}, SrcR K F cs ls → ∀ l ∈ ls, ∃ c ∈ cs, c.2.2.length = l.length
  | _, _, .cons r w q, c, h => by
    rcases List.mem_cons.mp h with rfl | h
    · exact ⟨_, List.mem_cons_self .., r.length⟩
    · obtain ⟨l, hl, z⟩ := q.back c h
      exact ⟨l, List.mem_cons_of_mem _ hl, z⟩
theorem SrcR.row {K : KF} {F : Hp} {n : Nat} : ∀ {cs ls xs}, SrcR K F cs ls → cs.map (fun c : Src => c.2.2[n]?) = xs.map some → RepL K F xs (ls.map fun l => l[n]?.getD .non)
  | _, _, [], .nil, _ => .nil
  | _, _, x :: xs, .cons r w q, h => by
    rw [List.map_cons, List.map_cons] at h
    injection h with h1 h2
    obtain ⟨d, e, rd⟩ := r.getV h1
    rw [List.map_cons, e]
    exact .cons rd (q.row h2)
theorem wlk_zipN {K : KF} {F : Hp} {cs : List Src} {ls : List (List D)} (r : SrcR K F cs ls) (h0 : cs ≠ []) (hz : cs.length ≤ sizeLine) : Wlk K (Itn K cs) (rowsN ls) F where
  go := fun i F' H e fh hi => by
    unfold rowsN at hi
    rw [List.length_map, List.length_range] at hi
    refine ⟨fun c hc => ?_, fun c hc => ?_⟩
    · obtain ⟨l, hl, e, _⟩ := r.src c hc
      have := minL_le hl
      omega
    · obtain ⟨l, hl, _, w⟩ := r.src c hc
      exact w _ _ e fh
  yld := fun i F1 H x H' d e fh hy hd => by
    obtain ⟨T, xs, rfl, hT, rfl, em⟩ := hy
    unfold rowsN at hd
    rw [List.getElem?_map] at hd
    obtain ⟨j, ej, rfl⟩ := Option.map_eq_some_iff.mp hd
    have : j = i := by
      rw [List.getElem?_eq_some_iff] at ej
      obtain ⟨_, ej⟩ := ej
      rw [List.getElem_range] at ej
      exact ej.symm
    subst this
    have g : Gr F1 H (upd F1 T (.tup xs)) (upd H T (.tup xs)) := Gr.new fh hT fun _ _ z => by cases z
    have lx : (ls.map fun l => l[j]?.getD D.non).length ≤ sizeLine := by
      rw [List.length_map, ← r.len]
      exact hz
    exact ⟨_, g, .tup (SqT.of upd_same) lx (((r.row em).mono e _).mono g.fx _)⟩
  stop := fun i F' H e fh hi => by
    unfold rowsN at hi
    rw [List.length_map, List.length_range] at hi
    have l0 : ls ≠ [] := fun z => h0 (List.eq_nil_of_length_eq_zero (by rw [r.len, z]; rfl))
    obtain ⟨l, hl, em⟩ := minL_mem l0
    obtain ⟨c, hc, ec⟩ := r.back l hl
    refine ⟨⟨c, hc, by omega⟩, fun c hc => ?_⟩
    obtain ⟨l, hl, _, w⟩ := r.src c hc
    exact w _ _ e fh
def zipNO (ds : List D) : Option (List D) := match ds with
  | [] => none
  | d :: ds => (sqAll (d :: ds)).map rowsN
def zpN (fs : M (List D)) : M (List D) := bnd fs fun ds => ofO (if decide (ds.length ≤ 15) = true then zipNO ds else none)
section
variable {X : Cx} {ios : Ios} {Wx : WX} {e : Expr} {es : List Expr} {fe : M D} {fs : M (List D)} {x : Str} {p pos sp tp : Pos}
theorem it_zipN (hg : Gl X "zip") (hm : X.mg "zip" = none) (ha : PL X ios Wx (e :: es) fs)
    (hs : starEach (e :: es) X.env = (false, eval e X.env) :: starEach es X.env := by rfl) (hpl : (backTo pos (starEach es X.env)).any (·.1) = false := by rfl) : PIt X ios Wx (.Name x tp) (.Call (.Name "zip" p) (e :: es) [] pos) (zpN fs) := by
  obtain ⟨ta, pa, ra⟩ := ha.ex
  refine ⟨_, pi_zipN hg hm pa hs hpl, fun B F W E σ H R S h => ?_⟩
  unfold zpN at h
  refine ra B F W E σ H _ S (Pst.seq h fun F1 W1 H1 x d E1 S1 s1 r1 h1 => ?_)
  obtain ⟨z, ez, h2⟩ := h1.some
  split at ez
  · rename_i hl
    have hl := of_decide_eq_true hl
    cases d with
    | nil => cases ez
    | cons d ds =>
      obtain ⟨ls, el, rfl⟩ := Option.map_eq_some_iff.mp (show (sqAll (d :: ds)).map rowsN = some z from ez)
      obtain ⟨cs, rfl, q⟩ := sqAll_rep r1 el
      have l1 : cs.length = (d :: ds).length := by
        have := r1.length
        unfold refN at this
        rw [List.length_map] at this
        exact this
      have h0 : cs ≠ [] := fun z => by rw [z] at l1; cases l1
      have hz : cs.length ≤ sizeLine := Nat.le_trans (by omega) (show 15 ≤ sizeLine by decide)
      exact ⟨cs, rfl, h0, hz, fun c hc => by obtain ⟨l, _, _, w⟩ := q.src c hc; exact w _ _ (Same.refl _) S1.fh, h2.done S1 (wlk_zipN q h0 hz)⟩
  · cases ez
end
end Dl
namespace Dl
open PySem PySem.Spec PyProof.Rows L2
end Dl
namespace Dl
open PySem PySem.Spec PyProof.Rows L2
variable [Tbs]
def nuV : V → Option Int
  | .int i => some i
  | .bl b => some (cond b 1 0)
  | _ => none
end Dl
namespace Dl
open PySem PySem.Spec PySem.Calls PyProof.Rows L2
variable [Tbs]
section
variable {X : Cx} {pins : List (Addr × Obj)} {σ : L2.St} {H G : Hp} {s : Shared} {A : Around} {E : Value → Shared → Prop} {P : PySem.Fin → Shared → Prop} {a kS : Addr} {b : Bool} {vs : List Value} {xs : List V} {e1 : Nat} {kz : List PyData}
theorem each_map {α β γ : Type} {R : α → γ → Prop} (g : β → γ) : ∀ {as : List α} {bs : List β}, PySem.W.EachIs (fun x y => R x (g y)) as bs → PySem.W.EachIs R as (bs.map g)
  | _, _, .nil => .nil
  | _, _, .cons h t => .cons h (each_map g t)
end
end Dl
namespace Dl
open PySem PySem.Spec PySem.Calls PyProof.Rows L2
end Dl
namespace Dl
open PySem PySem.Spec PySem.Calls PyProof.Rows L2 LamX
end Dl
namespace Dl
open PySem PySem.Spec PyProof.Rows L2 GenW
def XEc (X : Cx) (W : WX) (C : Addr) (u : Value) (s' : Shared) : Prop :=
  ∃ (a : Addr) (B : Heap) (sI : Shared) (pins : List (Addr × Obj)) (σ : L2.St) (H : Hp) (cls : Value) (d : Option Addr),
    u = .ref a ∧ Inv X pins σ H sI ∧ (∀ b o, sI.heap.get? b = some o → b ∉ frs X.stack → B.get? b = some o) ∧ sI.heap.UpToSlots s'.heap ∧
      HandSPX.FlyingZ B X.stack a (Zc cls d) s'.heap ∧ H a = none ∧ s'.os = sI.os ∧ AllBare s'.gens ∧ W cls d σ H ∧ B.get? C = none ∧ sI.heap.get? C = none
section
variable {X : Cx} {pins : List (Addr × Obj)} {σ : L2.St} {H : Hp} {s s' : Shared} {W : WX} {E : XK} {C : Addr}
theorem XEc.gens {u : Value} (x : XEc X W C u s') {G : Array GenState} (ag : AllBare G) : XEc X W C u { s' with gens := G } := by
  obtain ⟨a, B, sI, pins, σ, H, cls, d, e, I, nb, up, fl, na, os, _, w, z1, z2⟩ := x
  exact ⟨a, B, sI, pins, σ, H, cls, d, e, I, nb, up, fl, na, os, ag, w, z1, z2⟩
end
end Dl
namespace Dl
open PySem PySem.Spec PyProof.Rows L2 GenW
end Dl
namespace Dl
open PySem PySem.Spec PyProof.Rows L2
end Dl
namespace Dl
open PySem PySem.Spec PyProof.Rows L2 GenW
end Dl
namespace Dl
open PySem PySem.Spec PyProof.Rows L2 GenW
end Dl
namespace Dl
open PySem PySem.Spec PyProof.Rows L2
end Dl
namespace Dl
open PySem PySem.Spec PyProof.Rows L2
variable [Tbs]
section
variable {P : Program} {w : World} {K : KF} {mg : Str → Option Value} {base : Heap}
theorem body_runs {N ps : List Str} {n : Nat} {ios : List Nat} {g : G} {scope : Scope} {body : List Stmt} {qual : Str} {f : Addr} {cdv : Value} {A : Around} {outer : List Env} {s : Shared} {H : Hp} {vs : List V} {Q : VK} {E : XK} (S : FnScope N ps scope) (hn : ps.length = n)
    (hb : PDs (cxOf (Cxt P w) P w K mg base N qual scope f cdv A outer s H E) (.of ios) (fun c d _ H => E c d H) body g) (h : spD K n ios (runG N.length g) vs H Q E) :
    ∃ t, PSs (cxOf (Cxt P w) P w K mg base N qual scope f cdv A outer s H E) body t ∧ t { nx := fun _ H' => Q .non H', rt := Q } (L2.start N vs) H := by
  obtain ⟨hl, F0, W0, as, I, post⟩ := h
  obtain ⟨t, pt, rt⟩ := hb.ex
  refine ⟨t, pt, ?_⟩
  let pn : Nat → Option V := fun i => if ios.contains i = true then vs[i]? else none
  have hpn : ∀ i v, i ∈ ios → vs[i]? = some v → pn i = some v := fun i v hi hv => by
    show (if ios.contains i = true then vs[i]? else none) = some v
    rw [if_pos (by simpa using hi)]; exact hv
  have hN : ps.length ≤ N.length := by
    have := congrArg List.length S.pre
    rw [List.length_take] at this
    omega
  have S0 : Dl.St K (.of ios) ⟨pn, F0, W0, H⟩ F0 W0 (as.map some ++ List.replicate (N.length - as.length) none) (L2.start N vs) H := by
    refine ⟨I.fh, Stp.refl _ _ _, I.nz, I.ow, fun a l h => ?_, I.io, fun i t d h => ?_, fun i v h => ?_, ?_, True.intro, I.tb⟩
    · obtain ⟨i, p, e, hi⟩ := I.io a l h
      exact ⟨i, p, e, .inl hi⟩
    · have hi : i < as.length := by
        by_cases c : i < as.length
        · exact c
        · rw [List.getElem?_append_right (by rw [List.length_map]; omega), List.getElem?_replicate] at h
          split at h <;> cases h
      rw [List.getElem?_append_left (by rw [List.length_map]; exact hi), List.getElem?_map] at h
      cases q : as[i]? with
      | none => rw [q] at h; cases h
      | some p =>
        rw [q] at h
        cases h
        have hv : i < vs.length := by rw [I.ln]; exact hi
        refine ⟨vs[i], ?_, I.vr i _ t d (List.getElem?_eq_getElem hv) q⟩
        unfold L2.start
        rw [List.getElem?_append_left (by rw [List.length_map]; exact hv), List.getElem?_map, List.getElem?_eq_getElem hv]
        rfl
    · have h' : (if ios.contains i = true then vs[i]? else none) = some v := h
      by_cases c : ios.contains i = true
      · rw [if_pos c] at h'
        refine ⟨(show i ∈ ios by simpa using c), ?_⟩
        have hv : i < vs.length := (List.getElem?_eq_some_iff.mp h').1
        unfold L2.start
        rw [List.getElem?_append_left (by rw [List.length_map]; exact hv), List.getElem?_map, h']
        rfl
      · rw [if_neg c] at h'; cases h'
    · unfold L2.start
      rw [List.length_append, List.length_append, List.length_map, List.length_map, List.length_replicate, List.length_replicate, I.ln]
  refine rt ⟨pn, F0, W0, H⟩ F0 W0 _ (L2.start N vs) H _ S0 ?_
  unfold runG at post
  cases q : g (as.map some ++ List.replicate (N.length - as.length) none) with
  | nx E' =>
    rw [q] at post
    exact fun F' W' H' σ' S' t' => post F' _ H' .non noW (S'.outs hpn) Fresh.no .non
  | rt p E' =>
    rw [q] at post
    exact fun F' W' H' σ' v Wr S' t' fr r => post F' _ H' v Wr (S'.outs hpn) (fun a l z => by
      obtain ⟨z1, z2, z3⟩ := fr a l z
      exact ⟨z1, rst_none z2, z3⟩) r
  | er x E' =>
    rw [q] at post
    exact fun F' W' H' σ' c dx S' t' r => post F' _ H' c dx (S'.outs hpn) r
  | bk E' => rw [q] at post; exact post.elim
  | ct E' => rw [q] at post; exact post.elim
  | stk => rw [q] at post; exact post.elim
def FnV (P : Program) (w : World) (K : KF) (mg : Str → Option Value) (base : Heap) (k : Nat) (f : Addr) (n : Nat) (m : Fm) : Prop :=
  L2.FnR P w K mg base (Cxt P w) k f (fun vs H Q E => ∃ ws rest, vs = ws ++ rest ∧ ws.length = n ∧ rest.length ≤ sizeLine ∧ ∀ p, H p = none → spD K (n + 1) [] m (ws ++ [V.ref p]) (upd H p (.tup rest)) Q E)
theorem fn_dV {x qual : Str} {params : Arguments} {body : List Stmt} {scope : Scope} {kws : List (Str × V)} {f : Addr} {fd : FuncData} {N ps : List Str} {pv : Str} {k n : Nat} {g : G}
    (F : FunD K x qual params body scope [] kws f fd) (S : FnScope N (ps ++ [pv]) scope) (hn : ps.length = n)
    (hbn : ∀ (kV doc pm cdv ct : Value) (an : Option Addr) (us rest : List Value), us.length = ps.length → bindArgs (PySem.W.fnOf x qual params body scope .none kV doc pm an cdv ct) ⟨us ++ rest, []⟩ = (newTuple rest >>= fun t => pure (ps.zip us ++ [(pv, t)])))
    (hb : ∀ (cdv : Value) (A : Around) (outer : List Env) (s : Shared) (H : Hp) (E : XK), Room k (A.deeper (envOfC qual scope s.heap.objs.size f cdv)) →
      PDs (cxOf (Cxt P w) P w K mg base N qual scope f cdv A outer s H E) (.of []) (fun c d _ H => E c d H) body g) : FnV P w K mg base (k + 1) f n (runG N.length g) := by
  obtain ⟨oc, od, dV, kV, doc, pm, an, cdv, ct, osl, efd, lk, hcd, hdf, _⟩ := F.ex
  subst hn
  have hd0 : dV = .none := by
    rcases hdf with ⟨_, e⟩ | ⟨e, _⟩
    · exact e
    · exact absurd rfl e
  subst hd0
  subst efd
  exact StX.fn_star lk hcd S StX.cxUp (fun us rest h => hbn _ _ _ _ _ _ us rest h) fun A outer s H vs Q E hr h => body_runs S (by rw [List.length_append] <;> rfl) (hb cdv A outer s H E hr) h
end
section
variable {X : Cx} {k n : Nat} {f : Addr} {x : Str} {p pos : Pos} {e : Expr} {es : List Expr} {ios : Ios} {Wx : WX} {m : Fm} {fs : M (List D)}
def tCallV (sp : Sp) (W : WX) (t : TA) : TE := fun σ H Q => t σ H fun vs H1 => sp vs H1 Q (WE W σ)
theorem pe_vr {sp : Sp} {W : WX} {t : TA} (F : L2.FnR X.prog X.w X.K X.mg X.base (Cxt X.prog X.w) k f sp) (hr : Room k X.A) (hg : Gl X x) (hm : X.mg x = some (.ref f)) (hk : PySem.W.keepIn X.K (.ref f) = true) (tk : Takes X W)
    (ha : PA X (e :: es) t) (hdb : (x == ("__debug__" : Str)) = false := by decide) (he : starEach (e :: es) X.env = (false, eval e X.env) :: starEach es X.env := by rfl) (hpl : (backTo pos (starEach es X.env)).any (·.1) = false := by rfl) :
    PE X (.Call (.Name x p) (e :: es) [] pos) (tCallV sp W t) := by
  refine ⟨fun pins s σ H Q I h => ?_⟩
  refine wpAny_Call_Name_kw (ld_glob I hg hm (PySem.W.callWith_K (h₀ := X.base) I.ok.mod.kin hk (thn (ha.run pos pins s σ H _ I h) fun us s1 hz => ?_) he hpl) hdb)
  obtain ⟨vs, H1, I1, r, q⟩ := hz
  refine ⟨I1.kIn, wpAny_call (codeAny_mono (F X.A X.stack s1 H1 us vs Q _ hr I1.env0 r q) fun z s' hz => ?_)⟩
  match z, hz with
  | .error ex, hz => exact tk ex s' (XE.of_call I1 (fun _ _ _ y => y) hz)
  | .ok (.ret u), hz => exact I1.after hz
  | .ok .next, hz => exact hz.elim
  | .ok .brk, hz => exact hz.elim
  | .ok .cont, hz => exact hz.elim
theorem repA_sh {K : KF} {F : Hp} {σ : L2.St} : ∀ {vs : List V} {ds : List D}, RepL K F vs ds → RepA K F σ (List.replicate vs.length none) vs ds
  | _, _, .nil => .nil
  | _, _, .cons r rs => .sh r (repA_sh rs)
def callV (n : Nat) (m : Fm) (fs : M (List D)) : M Ent := bnd fs fun ds => if n ≤ ds.length ∧ small ds.length = true then callM m (List.replicate (n + 1) none) (ds.take n ++ [.tup (ds.drop n)]) else stuck
theorem po_callV (F : FnV X.prog X.w X.K X.mg X.base k f n m) (hr : Room k X.A) (hg : Gl X x) (hm : X.mg x = some (.ref f)) (hk : PySem.W.keepIn X.K (.ref f) = true) (tk : Takes X Wx)
    (ha : PL X ios Wx (e :: es) fs) (hdb : (x == ("__debug__" : Str)) = false := by decide) (he : starEach (e :: es) X.env = (false, eval e X.env) :: starEach es X.env := by rfl) (hpl : (backTo pos (starEach es X.env)).any (·.1) = false := by rfl) (ok : mdOk [] 0 (List.replicate (n + 1) none) = true := by rfl) :
    PO X ios Wx (.Call (.Name x p) (e :: es) [] pos) (callV n m fs) := by
  obtain ⟨ta, pa, ra⟩ := ha.ex
  refine ⟨_, pe_vr F hr hg hm hk tk pa hdb he hpl, fun B F W E σ H Q S h => ?_⟩
  refine ra B F W E σ H _ S (PstO.seq h fun F1 W1 H1 vs ds E1 S1 s1 r1 h1 => ?_)
  by_cases c : n ≤ ds.length ∧ small ds.length = true
  · rw [if_pos c] at h1
    have lv := r1.length
    have sz : ds.length ≤ sizeLine := of_decide_eq_true c.2
    refine ⟨vs.take n, vs.drop n, (List.take_append_drop n vs).symm, by rw [List.length_take]; omega, by rw [List.length_drop]; omega, fun p hp => ?_⟩
    have g : Gr F1 H1 (upd F1 p (.tup (vs.drop n))) (upd H1 p (.tup (vs.drop n))) := Gr.new S1.fh hp fun _ _ z => by cases z
    have S2 := S1.grow g
    have rt : Rep X.K (upd F1 p (.tup (vs.drop n))) (.ref p) (.tup (ds.drop n)) := .tup (SqT.of upd_same) (by rw [List.length_drop]; omega) ((r1.drop n).mono g.fx _)
    have rl : RepL X.K (upd F1 p (.tup (vs.drop n))) (vs.take n ++ [.ref p]) (ds.take n ++ [.tup (ds.drop n)]) := ((r1.take n).mono g.fx _).app (.cons rt .nil)
    have ra2 := repA_sh (σ := σ) rl
    rw [show (vs.take n ++ [V.ref p]).length = n + 1 by rw [List.length_append, List.length_take]; simp; omega] at ra2
    exact callG S2 ra2 ok (by rw [List.length_replicate]) (PstO.from (g.stp _) h1)
  · rw [if_neg c] at h1
    exact h1.elim
end
def rSrtP (K : KF) : List V → Hp → VK → Prop := fun vs H Q => ∃ (a : Addr) (xs : List V) (ps : List PyData), vs = [V.ref a] ∧ SqT K H a xs ∧ DpAll K H xs ps ∧ srtOk ps = true ∧ ∀ p, H p = none → Q (.ref p) (upd H p (.lst ((srtZ (xs.zip ps)).map (·.1))))
theorem cr_srtP {X : Cx} (hu : X.A.units + 65 < cLine) : CallR X (.builtin "sorted") (rSrtP X.K) := by
  intro pins s σ H vs us Q I r h
  obtain ⟨a, xs, ps, rfl, hs, dp, ok, q⟩ := h
  obtain ⟨al, so, dep⟩ := srtOk_of ok
  rw [Vals.ref1 r]
  obtain ⟨its, rv, hl, hz0⟩ := I.tuple hs
  have l2 := dp_len dp
  have l1 : its.length = xs.length := rv.length.symm
  obtain ⟨o, ho, hc, dn, hd⟩ := id hl
  refine Calls.call_function_entry PyProof.Rows.kind_sorted PyProof.Rows.plain_sorted PyProof.Rows.entry_sorted (PyProof.Rows.args_sorted1 _) ?_
  unfold Builtin.«sorted»
  have lz : its.length ≤ sizeLine := by omega
  refine wpAny_bind (m := checkCount "sorted" 1 1 _) (wpAny_pure (wpAny_bind (wpAny_collect_seq a (.inr rfl) ho hc hd (hsz := by rw [List.size_toArray]; exact lz) fun h1 kp => ?_)))
  have I1 : L2.Inv X pins σ H { s with heap := h1 } := I.kept (t' := s.toks) kp
  rw [List.toList_toArray]
  refine wpAny_bind (wpAny_newList ?_ lz)
  generalize hh2 : h1.push (seqObj "list" its.toArray 0) = h2
  have at2 : h2.get? h1.objs.size = some (seqObj "list" its.toArray 0) := by rw [← hh2]; exact Heap.get?_push_size _ rfl
  have old2 : ∀ b u, h1.get? b = some u → h2.get? b = some u := fun b u e => by rw [← hh2]; exact Heap.get?_push_of_some _ e
  have sz2 : h2.objs.size = h1.objs.size + 1 := by rw [← hh2, size_push']
  show wpAny _ _ _ _ _ { s with heap := h2 }
  have e1 : PySem.W.EachIs (fun u b => RelV b.1 u) its (xs.zip ps) := zip_each l1 l2 fun j u x p a b c => vals_get rv a b
  have e2 : PySem.W.EachIs (fun u (b : V × PyData) => ∃ as, Reads (PySem.W.sortingHeap h2 h1.objs.size its) u b.2 as) its (xs.zip ps) := zip_each l1 l2 fun j u x p a b c => by
    obtain ⟨as, rd⟩ := Dp.reads I1 p x u (dp_get dp b c) (vals_get rv a b)
    refine ⟨as, PyProof.Rows.Reads.keeps (fun b o e => ?_) rd⟩
    have lt := Heap.lt_size e
    exact PySem.W.sortingHeap_old (Nat.ne_of_lt lt) (old2 b o e)
  have hal : PySem.W.AllAlike ((xs.zip ps).map fun b => b.2) := by rw [zip_snd l2]; exact al
  have hso : PySem.W.Sortable ((xs.zip ps).map fun b => b.2) := by rw [zip_snd l2]; exact so
  refine wpAny_bind (wpAny_holding (wpAny_call_entry PyProof.Rows.slot_list_sort ⟨_, at2, rfl⟩ PyProof.Rows.entry_list_sort
    (PySem.W.list_sort_vals (κ := PySem.W.dataKind (PySem.W.sortingHeap h2 h1.objs.size its) ((xs.zip ps).map fun b => b.2)) (s := { s with heap := h2 }) at2
      (PySem.W.SortsAt.data (s := { s with heap := PySem.W.sortingHeap h2 h1.objs.size its }) (PySem.W.each_map (R := fun v d => ∃ as, Reads (PySem.W.sortingHeap h2 h1.objs.size its) v d as) (fun b : V × PyData => b.2) e2) hal hso (fun d hd => ?_)) lz ⟨_, rfl, ?_⟩)
    (PyProof.Rows.args_list_sort _)))
  · rw [zip_snd l2] at hd
    have := dep d hd
    show X.A.units + 1 + 1 + d.depth < cLine
    omega
  · generalize hout : PySem.W.sortVals (PySem.W.dataKind (PySem.W.sortingHeap h2 h1.objs.size its) ((xs.zip ps).map fun b => b.2)) false its its = out
    have eo := PySem.W.sortVals_data (enc := fun b : V × PyData => b.2) false e1 e2 hal
    rw [hout] at eo
    have hv : Vals ((srtZ (xs.zip ps)).map (·.1)) out := each_vals eo
    obtain ⟨ep2, he2⟩ := PyProof.Rows.sortedHeap_at (vs := its) (out := out.toArray) at2
    have hz2 : ((srtZ (xs.zip ps)).map (·.1)).length ≤ sizeLine := by rw [List.length_map, srtZ_len, List.length_zip]; omega
    refine wpAny_pure ⟨_, rfl, .ref h1.objs.size, upd H h1.objs.size (.lst ((srtZ (xs.zip ps)).map (·.1))), I1.laid (t' := s.toks) (fun b u e => ?_) (Nat.le_refl _) (show ObjOk X.prog X.w _ _ _ (.lst _) from ⟨hz2, out, ep2, hv, he2⟩), rfl, q _ (I1.hok.fresh (Nat.le_refl _))⟩
    have lt : b < h1.objs.size := Heap.lt_size e
    rw [PyProof.Rows.sortedHeap_old (Nat.ne_of_lt lt) (by rw [sz2]; exact Nat.lt_succ_of_lt lt)]
    exact old2 b u e
def sortedT : List D → Option D
  | [.tup xs] => (match toPs xs with
    | some ps => if srtOk ps = true then some (.lst ((srtZ (xs.zip ps)).map (·.1))) else none
    | none => none)
  | _ => none
theorem cd_sortedT {K : KF} : CallD K (rSrtP K) sortedT := by
  intro F H vs ds z Q fh r0 hz q
  unfold sortedT at hz
  split at hz
  · rename_i xs
    cases r0 with
    | cons r1 r2 =>
      cases r2
      cases r1 with
      | tup s zz rr =>
        split at hz
        · rename_i ps ep
          by_cases c : srtOk ps = true
          · rw [if_pos c] at hz
            cases hz
            refine ⟨_, _, ps, rfl, sqT_mono fh s, rr.dps fh ep, c, fun p hp => ?_⟩
            rename_i vv _
            have g : Gr F H (upd F p (.lst ((srtZ (vv.zip ps)).map (·.1)))) (upd H p (.lst ((srtZ (vv.zip ps)).map (·.1)))) := Gr.new fh hp fun _ _ z => by cases z
            refine q _ _ _ g (.lst upd_same ?_ ((srtZ_rep rr).mono g.fx _))
            rw [List.length_map, srtZ_len, List.length_zip]
            omega
          · rw [if_neg c] at hz; cases hz
        · cases hz
  · cases hz
end Dl
namespace Dl
open PySem PySem.Spec PyProof.Rows L2
end Dl
namespace Dl
open PySem PySem.Spec PyProof.Rows L2
def bdR {α β : Type} : Rs α → (α → M β) → Rs β
  | .ok a E, k => k a E
  | .er x E, _ => .er x E
  | .stk, _ => .stk
def anR {α : Type} : Rs α → (α → G) → Fl
  | .ok a E, k => k a E
  | .er x E, _ => .er x E
  | .stk, _ => .stk
def thF : Fl → G → Fl
  | .nx E, h => h E
  | .rt p E, _ => .rt p E
  | .bk E, _ => .bk E
  | .ct E, _ => .ct E
  | .er x E, _ => .er x E
  | .stk, _ => .stk
def lkR : Rs D → Nv → Rs D
  | .ok d _, E => if imm d = true then .ok d E else .stk
  | .er x _, E => if immL x.vs = true then .er x E else .stk
  | .stk, _ => .stk
def lkB : Rs Bool → Nv → Rs Bool
  | .ok d _, E => .ok d E
  | .er x _, E => if immL x.vs = true then .er x E else .stk
  | .stk, _ => .stk
theorem ret_ap {α : Type} (a : α) (E : Nv) : Dl.ret a E = .ok a E := rfl
theorem stuck_ap {α : Type} (E : Nv) : (stuck : M α) E = .stk := rfl
theorem bnd_ap {α β : Type} (m : M α) (k : α → M β) (E : Nv) : bnd m k E = bdR (m E) k := by unfold bnd bdR; cases m E <;> rfl
theorem bdR_ok {α β : Type} (a : α) (E : Nv) (k : α → M β) : bdR (.ok a E) k = k a E := rfl
theorem bdR_er {α β : Type} (x : Xn) (E : Nv) (k : α → M β) : bdR (.er x E) k = .er x E := rfl
theorem andS_ap {α : Type} (m : M α) (k : α → G) (E : Nv) : andS m k E = anR (m E) k := by unfold andS anR; cases m E <;> rfl
theorem anR_ok {α : Type} (a : α) (E : Nv) (k : α → G) : anR (.ok a E) k = k a E := rfl
theorem anR_er {α : Type} (x : Xn) (E : Nv) (k : α → G) : anR (.er x E) k = .er x E := rfl
theorem then_ap (g h : G) (E : Nv) : then_ g h E = thF (g E) h := by unfold then_ thF; cases g E <;> rfl
theorem thF_nx (E : Nv) (h : G) : thF (.nx E) h = h E := rfl
theorem thF_rt (p : Ent) (E : Nv) (h : G) : thF (.rt p E) h = .rt p E := rfl
theorem thF_er (x : Xn) (E : Nv) (h : G) : thF (.er x E) h = .er x E := rfl
theorem thF_bk (E : Nv) (h : G) : thF (.bk E) h = .bk E := rfl
theorem thF_ct (E : Nv) (h : G) : thF (.ct E) h = .ct E := rfl
theorem done_ap (E : Nv) : done E = .nx E := rfl
theorem ofO_some {α : Type} (a : α) : ofO (some a) = Dl.ret a := rfl
theorem setS_ap (i : Nat) (f : M Ent) (E : Nv) : setS i f E = anR (f E) fun p E => .nx (E.set i (some p)) := by unfold setS; exact andS_ap _ _ _
theorem retS_ap (f : M Ent) (E : Nv) : retS f E = anR (f E) fun p E => .rt p E := by unfold retS; exact andS_ap _ _ _
theorem sh1_ap (f : M D) (E : Nv) : sh1 f E = bdR (f E) fun d => Dl.ret (.sh, d) := by unfold sh1; exact bnd_ap _ _ _
theorem shM_ap (f : M Ent) (E : Nv) : shM f E = bdR (f E) fun p => Dl.ret p.2 := by unfold shM; exact bnd_ap _ _ _
theorem look_ap (f : M D) (E : Nv) : look f E = lkR (f (shr E)) E := by unfold look lkR; cases f (shr E) <;> rfl
theorem lookB_ap (f : M Bool) (E : Nv) : lookB f E = lkB (f (shr E)) E := by unfold lookB lkB; cases f (shr E) <;> rfl
theorem lkR_int (i : Int) (E' E : Nv) : lkR (.ok (.int i) E') E = .ok (.int i) E := rfl
theorem lkR_bl (i : Bool) (E' E : Nv) : lkR (.ok (.bl i) E') E = .ok (.bl i) E := rfl
theorem lkR_str (i : Str) (E' E : Nv) : lkR (.ok (.str i) E') E = .ok (.str i) E := rfl
theorem lkB_ok (d : Bool) (E' E : Nv) : lkB (.ok d E') E = .ok d E := rfl
theorem opM_ap (g : D → D → Option D) (fa fb : M D) (E : Nv) : opM g fa fb E = bdR (fa E) fun x => bnd fb fun y => ofO (g x y) := by unfold opM; exact bnd_ap _ _ _
theorem cmB_ap (g : D → D → Option D) (fa fb : M D) (E : Nv) : cmB g fa fb E = bdR (fa E) fun x => bnd fb fun y => ofO ((g x y).bind toB) := by unfold cmB; exact bnd_ap _ _ _
theorem unM_ap (g : D → Option D) (fa : M D) (E : Nv) : unM g fa E = bdR (fa E) fun x => ofO (g x) := by unfold unM; exact bnd_ap _ _ _
theorem cbM_ap (g : List D → Option D) (fs : M (List D)) (E : Nv) : cbM g fs E = bdR (fs E) fun xs => ofO (g xs) := by unfold cbM; exact bnd_ap _ _ _
theorem conM_ap (fa : M D) (fs : M (List D)) (E : Nv) : conM fa fs E = bdR (fa E) fun x => bnd fs fun xs => Dl.ret (x :: xs) := by unfold conM; exact bnd_ap _ _ _
theorem tupM_ap (fs : M (List D)) (E : Nv) : tupM fs E = bdR (fs E) fun xs => if small xs.length = true then Dl.ret (.tup xs) else stuck := by unfold tupM; exact bnd_ap _ _ _
theorem lstM_ap (fs : M (List D)) (E : Nv) : lstM fs E = bdR (fs E) fun xs => if small xs.length = true then Dl.ret (.lst xs) else stuck := by unfold lstM; exact bnd_ap _ _ _
theorem own1_ap (fs : M (List D)) (E : Nv) : own1 fs E = bdR (fs E) fun xs => if small xs.length = true then Dl.ret (.l .sh, .lst xs) else stuck := by unfold own1; exact bnd_ap _ _ _
theorem ifM_ap {α : Type} (t : M Bool) (f g : M α) (E : Nv) : ifM t f g E = bdR (t E) fun k => if k = true then f else g := by unfold ifM; exact bnd_ap _ _ _
theorem andV_ap (f g : M D) (E : Nv) : andV f g E = bdR (f E) fun d => bnd (ofO (truD d)) fun k => if k = true then g else Dl.ret d := by unfold andV; exact bnd_ap _ _ _
theorem orV_ap (f g : M D) (E : Nv) : orV f g E = bdR (f E) fun d => bnd (ofO (truD d)) fun k => if k = true then Dl.ret d else g := by unfold orV; exact bnd_ap _ _ _
theorem notV_ap (f : M D) (E : Nv) : notV f E = bdR (f E) fun d => ofO ((truD d).map fun k => .bl (!k)) := by unfold notV; exact bnd_ap _ _ _
theorem andM_ap (f g : M Bool) (E : Nv) : andM f g E = bdR (f E) fun b => if b = true then g else Dl.ret false := by unfold andM; exact bnd_ap _ _ _
theorem orM_ap (f g : M Bool) (E : Nv) : orM f g E = bdR (f E) fun b => if b = true then Dl.ret true else g := by unfold orM; exact bnd_ap _ _ _
theorem notM_ap (f : M Bool) (E : Nv) : notM f E = bdR (f E) fun b => Dl.ret (!b) := by unfold notM; exact bnd_ap _ _ _
theorem test_ap (f : M D) (E : Nv) : test f E = bdR (f E) fun d => ofO (truD d) := by unfold test; exact bnd_ap _ _ _
theorem chM_ap (g g' : D → D → Option D) (fa fb fc : M D) (E : Nv) : chM g g' fa fb fc E = bdR (fa E) fun x => bnd fb fun y => bnd (ofO ((g x y).bind toB)) fun k => if k = true then bnd fc fun z => ofO (g' y z) else Dl.ret (.bl false) := by unfold chM; exact bnd_ap _ _ _
theorem chB_ap (g g' : D → D → Option D) (fa fb fc : M D) (E : Nv) : chB g g' fa fb fc E = bdR (fa E) fun x => bnd fb fun y => bnd (ofO ((g x y).bind toB)) fun k => if k = true then bnd fc fun z => ofO ((g' y z).bind toB) else Dl.ret false := by unfold chB; exact bnd_ap _ _ _
theorem calM_ap (m : Fm) (md : Md) (dds : List D) (fs : M (List D)) (E : Nv) : calM m md dds fs E = bdR (fs E) fun ds => callM m (md ++ dds.map fun _ => none) (ds ++ dds) := by unfold calM; exact bnd_ap _ _ _
def clR : Rf → Md → Nv → Rs Ent
  | .ok p O, md, E => .ok p (back 0 md O E)
  | .er x O, md, E => .er x (back 0 md O E)
  | .stk, _, _ => .stk
theorem callM_ap {m : Fm} {md : Md} {ds : List D} {E : Nv} {as : List Ent} (h : ents md ds E = some as) : callM m md ds E = clR (m as) md E := by
  unfold callM clR
  rw [h]
  cases q : m as <;> simp [q]
theorem clR_ok (p : Ent) (O : Nv) (md : Md) (E : Nv) : clR (.ok p O) md E = .ok p (back 0 md O E) := rfl
theorem clR_er (x : Xn) (O : Nv) (md : Md) (E : Nv) : clR (.er x O) md E = .er x (back 0 md O E) := rfl
theorem back_nil (j : Nat) (O E : Nv) : back j [] O E = E := rfl
theorem back_none (j : Nat) (md : Md) (O E : Nv) : back j (none :: md) O E = back (j + 1) md O E := rfl
theorem back_some (j i : Nat) (md : Md) (O E : Nv) : back j (some i :: md) O E = back (j + 1) md O (E.set i ((O[j]?).join)) := rfl
theorem ents_nil (E : Nv) : ents [] [] E = some [] := rfl
theorem ents_no (md : Md) (d : D) (ds : List D) (E : Nv) : ents (none :: md) (d :: ds) E = (ents md ds E).map fun r => (.sh, d) :: r := rfl
def rnF : Fl → Rf
  | .nx E => .ok (.sh, .non) E
  | .rt p E => .ok p E
  | .er x E => .er x E
  | _ => .stk
theorem runG_ap (N : Nat) (g : G) (as : List Ent) : runG N g as = rnF (g (as.map some ++ List.replicate (N - as.length) none)) := by
  unfold runG rnF
  cases g (as.map some ++ List.replicate (N - as.length) none) <;> rfl
theorem rnF_rt (p : Ent) (E : Nv) : rnF (.rt p E) = .ok p E := rfl
theorem rnF_nx (E : Nv) : rnF (.nx E) = .ok (.sh, .non) E := rfl
theorem rnF_er (x : Xn) (E : Nv) : rnF (.er x E) = .er x E := rfl
theorem setIxS_ap {i : Nat} {fe fi : M D} {E : Nv} : setIxS i fe fi E = anR (fe E) fun y E => match E[i]? with
  | some (some _) => andS fi (fun k E => match ownL i E, k with
    | some ds, .int j => (match ixN ds.length j with
      | some n => .nx (putL i (ds.set n y) E)
      | none => .stk)
    | _, _ => .stk) E
  | _ => .stk := by unfold setIxS; exact andS_ap _ _ _
theorem eqI (i j : Int) : eqD (.int i) (.int j) = some (.bl (decide (i = j))) := by
  by_cases c : i = j
  · subst c; simp [eqD, eqB, flat, scal]
  · simp [eqD, eqB, flat, scal, c]
theorem addI (i j : Int) : addD (.int i) (.int j) = some (.int (i + j)) := rfl
theorem subI (i j : Int) : subD (.int i) (.int j) = some (.int (i - j)) := rfl
theorem ltI (i j : Int) : ltD (.int i) (.int j) = some (.bl (decide (i < j))) := rfl
theorem leI (i j : Int) : leD (.int i) (.int j) = some (.bl (decide (i ≤ j))) := rfl
theorem gtI (i j : Int) : gtD (.int i) (.int j) = some (.bl (decide (j < i))) := rfl
theorem geI (i j : Int) : geD (.int i) (.int j) = some (.bl (decide (j ≤ i))) := rfl
theorem modI {i j : Int} (h : 0 < j) : modD (.int i) (.int j) = some (.int (i % j)) := if_pos h
theorem divI {i j : Int} (h : 0 < j ∧ j < 1267650600228229401496703205376) : divD (.int i) (.int j) = some (.int (i / j)) := if_pos (p30_iff.mpr h)
theorem mulI {i j : Int} (h : cmul i j = true) : mulD (.int i) (.int j) = some (.int (i * j)) := if_pos h
theorem cmulR {i j : Int} (h : -9223372036854775808 < j ∧ j < 9223372036854775808) : cmul i j = true := by
  unfold cmul
  rw [Bool.or_eq_true, inR_iff, inR_iff]
  exact .inr ⟨by omega, by omega⟩
theorem cmulL {i j : Int} (h : -9223372036854775808 < i ∧ i < 9223372036854775808) : cmul i j = true := by
  unfold cmul
  rw [Bool.or_eq_true, inR_iff, inR_iff]
  exact .inl ⟨by omega, by omega⟩
theorem negI (i : Int) : negD (.int i) = some (.int (-i)) := rfl
theorem intI (i : Int) : intD [.int i] = some (.int i) := rfl
theorem toB_bl (b : Bool) : toB (.bl b) = some b := rfl
theorem bind_some' {α β : Type} (a : α) (f : α → Option β) : (some a).bind f = f a := rfl
theorem ixL (xs : List D) (i : Int) : ixD (.lst xs) (.int i) = L2.atI xs i := rfl
theorem ixT (xs : List D) (i : Int) : ixD (.tup xs) (.int i) = L2.atI xs i := rfl
theorem atI_nn {α : Type} {xs : List α} {i : Int} (h : 0 ≤ i) : L2.atI xs i = xs[i.toNat]? := by
  unfold L2.atI ixN
  rw [if_pos h]
  by_cases c : i < (xs.length : Int)
  · rw [if_pos c]; rfl
  · rw [if_neg c, List.getElem?_eq_none (by omega)]; rfl
theorem ixN_nn {n : Nat} {i : Int} (h : 0 ≤ i) (c : i < n) : ixN n i = some i.toNat := by
  unfold ixN
  rw [if_pos h, if_pos c]
theorem len1L (ds : List D) : one lenD [.lst ds] = some (.int ds.length) := rfl
theorem len1T (ds : List D) : one lenD [.tup ds] = some (.int ds.length) := rfl
theorem small_of {n : Nat} (h : n ≤ sizeLine) : small n = true := decide_eq_true h
def rdR : Option (Option Ent) → Nv → Rs D
  | some (some (.sh, d)), E => .ok d E
  | _, _ => .stk
theorem rd_eq (i : Nat) (E : Nv) : rd i E = rdR (E[i]?) E := by
  unfold rd rdR
  cases E[i]? with
  | none => rfl
  | some o =>
    cases o with
    | none => rfl
    | some p =>
      obtain ⟨t, d⟩ := p
      cases t <;> rfl
theorem rdR_sh (d : D) (E : Nv) : rdR (some (some (.sh, d))) E = .ok d E := rfl
def ioR {α : Type} : Option (Option Ent) → M α → Nv → Rs α
  | some (some _), f, E => f E
  | _, _, _ => .stk
theorem ioM_eq (i : Nat) (fs : M (List D)) (E : Nv) : ioM i fs E = ioR (E[i]?) fs E := by
  unfold ioM ioR
  cases E[i]? with
  | none => rfl
  | some o => cases o <;> rfl
theorem ioR_so {α : Type} (p : Ent) (f : M α) (E : Nv) : ioR (some (some p)) f E = f E := rfl
def enR : Option (Option Ent) → Option (List Ent) → Option (List Ent)
  | some (some p), o => o.map fun r => p :: r
  | _, _ => none
theorem ents_io (i : Nat) (md : Md) (ds : List D) (E : Nv) : ents (some i :: md) ds E = enR (E[i]?) (ents md ds E) := by
  have h : ents (some i :: md) ds E = (match E[i]? with
    | some (some p) => (ents md ds E).map fun r => p :: r
    | _ => none) := by cases ds <;> rfl
  rw [h]
  unfold enR
  cases E[i]? with
  | none => rfl
  | some o => cases o <;> rfl
theorem enR_so (p : Ent) (o : Option (List Ent)) : enR (some (some p)) o = o.map fun r => p :: r := rfl
def caR (m : Fm) : Option (List Ent) → Md → Nv → Rs Ent
  | some as, md, E => clR (m as) md E
  | none, _, _ => .stk
theorem callM_eq (m : Fm) (md : Md) (ds : List D) (E : Nv) : callM m md ds E = caR m (ents md ds E) md E := by
  cases q : ents md ds E with
  | none => unfold callM caR; rw [q]
  | some as => exact callM_ap q
theorem caR_so (m : Fm) (as : List Ent) (md : Md) (E : Nv) : caR m (some as) md E = clR (m as) md E := rfl
def owR : Option (Option Ent) → Option (List D)
  | some (some (.l .sh, .lst ds)) => some ds
  | _ => none
theorem ownL_eq (i : Nat) (E : Nv) : ownL i E = owR (E[i]?) := by
  unfold ownL owR
  rcases E[i]? with _ | _ | ⟨t, d⟩
  · rfl
  · rfl
  · cases t with
    | l t => cases t <;> first | rfl | (cases d <;> rfl)
    | _ => rfl
theorem owR_so (ds : List D) : owR (some (some (.l .sh, .lst ds))) = some ds := rfl
def siR : Option (List D) → D → D → Nat → Nv → Fl
  | some ds, .int j, y, i, E => (match ixN ds.length j with
    | some n => .nx (putL i (ds.set n y) E)
    | none => .stk)
  | _, _, _, _, _ => .stk
theorem setIxS_eq (i : Nat) (fe fi : M D) (E : Nv) : setIxS i fe fi E = anR (fe E) fun y E => match E[i]? with
  | some (some _) => anR (fi E) fun k E => siR (ownL i E) k y i E
  | _ => .stk := by
  rw [setIxS_ap]
  congr 1
  funext y E
  rcases E[i]? with _ | _ | p
  · rfl
  · rfl
  · show andS fi _ E = _
    rw [andS_ap]
    congr 1
    funext k E
    unfold siR
    rcases ownL i E with _ | ds
    · rfl
    · cases k <;> rfl
theorem siR_at {ds : List D} {j : Int} {y : D} {i : Nat} {E : Nv} (h : 0 ≤ j) (c : j < (ds.length : Int)) : siR (some ds) (.int j) y i E = .nx (putL i (ds.set j.toNat y) E) := by
  show (match ixN ds.length j with | some n => Fl.nx (putL i (ds.set n y) E) | none => Fl.stk) = _
  rw [ixN_nn h c]
theorem augIxS_eq (i : Nat) (g : D → D → Option D) (fi fe : M D) (E : Nv) : augIxS i g fi fe E = match E[i]? with
  | some (some _) => anR (fi E) fun k E => match ownL i E, k with
    | some ds, .int j => (match L2.atI ds j with
      | some old => anR (fe E) fun y E => (match g old y, ownL i E with
        | some z, some ds => siR (some ds) (.int j) z i E
        | _, _ => .stk)
      | none => .stk)
    | _, _ => .stk
  | _ => .stk := by
  unfold augIxS
  rcases E[i]? with _ | _ | p
  · rfl
  · rfl
  · show andS fi _ E = _
    rw [andS_ap]
    congr 1
    funext k E
    rcases ownL i E with _ | ds
    · rfl
    · cases k with
      | int j =>
        simp only
        cases L2.atI ds j with
        | none => rfl
        | some old =>
          simp only
          rw [andS_ap]
          congr 1
      | _ => rfl
theorem mulR {i j : Int} (h : -9223372036854775808 < j ∧ j < 9223372036854775808) : mulD (.int i) (.int j) = some (.int (i * j)) := mulI (cmulR h)
theorem mulL {i j : Int} (h : -9223372036854775808 < i ∧ i < 9223372036854775808) : mulD (.int i) (.int j) = some (.int (i * j)) := mulI (cmulL h)
theorem addL {xs ys : List D} (h : xs.length + ys.length ≤ sizeLine) : addD (.lst xs) (.lst ys) = some (.lst (xs ++ ys)) := if_pos h
theorem addT {xs ys : List D} (h : xs.length + ys.length ≤ sizeLine) : addD (.tup xs) (.tup ys) = some (.tup (xs ++ ys)) := if_pos h
theorem forS_ap (f : M (List D)) (asg : D → Nv → Option Nv) (body : G) (E : Nv) : forS f asg body E = anR (f E) fun ds => loopS asg body ds := by unfold forS; exact andS_ap _ _ _
theorem rg1_ap (fs : M (List D)) (E : Nv) : rg1 fs E = bdR (fs E) fun ds => ofO (rng1Of ds) := by unfold rg1; exact bnd_ap _ _ _
theorem rg2_ap (fs : M (List D)) (E : Nv) : rg2 fs E = bdR (fs E) fun ds => ofO (rng2Of ds) := by unfold rg2; exact bnd_ap _ _ _
theorem seqI_ap (f : M D) (E : Nv) : seqI f E = bdR (f E) fun d => ofO (seqOf d) := by unfold seqI; exact bnd_ap _ _ _
theorem enI_ap (fs : M (List D)) (E : Nv) : enI fs E = bdR (fs E) fun ds => ofO (enumOf ds) := by unfold enI; exact bnd_ap _ _ _
theorem mkM_ap (m : Fm) (c : Str) (md : Md) (dds : List D) (fs : M (List D)) (E : Nv) : mkM m c md dds fs E = bdR (fs E) fun ds => makeM m c (md ++ dds.map fun _ => none) (ds ++ dds) := by unfold mkM; exact bnd_ap _ _ _
theorem loop_cons {asg : D → Nv → Option Nv} {body : G} {d : D} {ds : List D} {E E1 E2 : Nv} (a : asg d E = some E1) (b : body E1 = .nx E2) : loopS asg body (d :: ds) E = loopS asg body ds E2 := by
  show (match asg d E with
    | none => Fl.stk
    | some E1 => match body E1 with
      | .nx E2 => loopS asg body ds E2
      | .ct E2 => loopS asg body ds E2
      | .bk E2 => .nx E2
      | .rt p E2 => .rt p E2
      | .er x E2 => .er x E2
      | .stk => Fl.stk) = _
  rw [a]
  simp only [b]
theorem seqOfL (xs : List D) : seqOf (.lst xs) = some xs := rfl
theorem seqOfT (xs : List D) : seqOf (.tup xs) = some xs := rfl
end Dl
local macro_rules | `(tactic| push_cast only [$xs,*]) => `(tactic| simp (discharger := (first | assumption | omega | decide | (simp only [List.length_cons, List.length_nil, List.length_map]; first | omega | decide) | rfl)) only [Dl.ret_ap, Dl.stuck_ap, Dl.bnd_ap, Dl.bdR_ok, Dl.bdR_er, Dl.andS_ap, Dl.anR_ok, Dl.anR_er, Dl.then_ap, Dl.thF_nx, Dl.thF_rt, Dl.thF_er, Dl.thF_bk, Dl.thF_ct, Dl.done_ap, Dl.ofO_some, Dl.setS_ap, Dl.retS_ap, Dl.sh1_ap, Dl.shM_ap, Dl.look_ap, Dl.lookB_ap, Dl.lkR_int, Dl.lkR_bl, Dl.lkR_str, Dl.lkB_ok, Dl.opM_ap, Dl.cmB_ap, Dl.unM_ap, Dl.cbM_ap, Dl.conM_ap, Dl.tupM_ap, Dl.lstM_ap, Dl.own1_ap, Dl.ifM_ap, Dl.andV_ap, Dl.orV_ap, Dl.notV_ap, Dl.andM_ap, Dl.orM_ap, Dl.notM_ap, Dl.test_ap, Dl.chM_ap, Dl.chB_ap, Dl.calM_ap, Dl.callM_eq, Dl.caR_so, Dl.ents_io, Dl.enR_so, Dl.rd_eq, Dl.rdR_sh, Dl.ioM_eq, Dl.ioR_so, Dl.setIxS_eq, Dl.ownL_eq, Dl.owR_so, Dl.siR_at, Dl.putL, Dl.augIxS_eq, Dl.clR_ok, Dl.clR_er, Dl.back_nil, Dl.back_none, Dl.back_some, Dl.ents_nil, Dl.ents_no, Dl.runG_ap, Dl.rnF_rt, Dl.rnF_nx, Dl.rnF_er, Dl.eqI, Dl.addI, Dl.subI, Dl.ltI, Dl.leI, Dl.gtI, Dl.geI, Dl.negI, Dl.intI, Dl.toB_bl, Dl.bind_some', Dl.ixL, Dl.ixT, Dl.atI_nn, Int.reduceToNat, Int.toNat_zero, Int.toNat_one, Dl.len1L, Dl.len1T, List.map_cons, List.map_nil, List.cons_append, List.nil_append, List.append_nil, List.length_cons, List.length_nil, List.replicate, List.getElem?_cons_zero, List.getElem?_cons_succ, List.set_cons_zero, List.set_cons_succ, if_true, if_false, Bool.false_eq_true, Option.map_some, Option.join_some, decide_true, decide_false, decide_eq_true_eq, Dl.modI, Dl.divI, Dl.mulR, Dl.mulL, Dl.small_of, Dl.addL, Dl.addT, Dl.forS_ap, Dl.rg1_ap, Dl.rg2_ap, Dl.seqI_ap, Dl.enI_ap, Dl.mkM_ap, Dl.seqOfL, Dl.seqOfT, $xs,*])
namespace Dl
open PySem PySem.Spec PyProof.Rows L2
def gBag : G := (retS (own1 (conM (Dl.ret (.int 0)) (conM (Dl.ret (.int 1234567891)) (conM (Dl.ret (.int 0)) (conM (shM (compM (seqI (slM (rd 0) (Dl.ret none) (ixp (Dl.ret (.int 63))))) (putE 1) (Dl.ret true) (cbM absD (conM (rd 1) (Dl.ret []))) [1])) (Dl.ret [])))))))
def mBag : Fm := runG 2 gBag
def gTake : G := (then_ (andS (lookB (cmB eqD (opM ixD (rd 0) (Dl.ret (.int 0))) (Dl.ret (.int 0)))) fun k => if k = true then (then_ (setS 2 (sh1 (Dl.ret (.int 0)))) (then_ (andS (lookB (cmB ltD (opM ixD (rd 0) (Dl.ret (.int 2))) (cbM (one lenD) (conM (opM ixD (rd 0) (Dl.ret (.int 3))) (Dl.ret []))))) fun k => if k = true then (setS 2 (sh1 (look (opM ixD (opM ixD (rd 0) (Dl.ret (.int 3))) (opM ixD (rd 0) (Dl.ret (.int 2))))))) else done) (then_ (augIxS 0 (ipD fun i j => i + j) (Dl.ret (.int 2)) (Dl.ret (.int 1))) (then_ (andS (cmB geD (rd 2) (Dl.ret (.int 1000000000000000000))) fun k => if k = true then (setIxS 0 (rd 2) (Dl.ret (.int 0))) else done) (then_ (setS 3 (sh1 (look (opM addD (opM addD (opM mulD (opM ixD (rd 0) (Dl.ret (.int 1))) (Dl.ret (.int 48271))) (opM modD (cbM intD (conM (rd 2) (Dl.ret []))) (Dl.ret (.int 2147483647)))) (opM mulD (Dl.ret (.int 7919)) (opM ixD (rd 0) (Dl.ret (.int 2)))))))) (setIxS 0 (opM modD (cbM intD (conM (rd 3) (Dl.ret []))) (Dl.ret (.int 2147483647))) (Dl.ret (.int 1)))))))) else done) (then_ (andS (lookB (cmB gtD (opM ixD (rd 0) (Dl.ret (.int 0))) (Dl.ret (.int 0)))) fun k => if k = true then (then_ (setS 4 (sh1 (look (opM modD (cbM intD (conM (opM ixD (rd 0) (Dl.ret (.int 0))) (Dl.ret []))) (rd 1))))) (then_ (setIxS 0 (look (opM divD (cbM intD (conM (opM ixD (rd 0) (Dl.ret (.int 0))) (Dl.ret []))) (rd 1))) (Dl.ret (.int 0))) (retS (sh1 (rd 4))))) else done) (then_ (setS 5 (sh1 (look (opM modD (cbM intD (conM (opM mulD (opM addD (opM ixD (rd 0) (Dl.ret (.int 1))) (Dl.ret (.int 1))) (Dl.ret (.int 39373))) (Dl.ret []))) (Dl.ret (.int 1000000007)))))) (then_ (setS 6 (sh1 (opM modD (cbM intD (conM (opM mulD (opM modD (cbM intD (conM (opM mulD (rd 5) (rd 5)) (Dl.ret []))) (Dl.ret (.int 998244353))) (Dl.ret (.int 30011))) (Dl.ret []))) (Dl.ret (.int 998244353))))) (retS (sh1 (opM modD (cbM intD (conM (opM divD (rd 6) (Dl.ret (.int 7))) (Dl.ret []))) (rd 1))))))))
def mTake : Fm := runG 7 gTake
def mOne : Fm := runG 2 (retS (sh1 (opM ixD (rd 1) (shM (calM mTake [some 0, none] [] (ioM 0 (conM (cbM (one lenD) (conM (rd 1) (Dl.ret []))) (Dl.ret []))))))))
def bagD (x y z : Int) (cs : List Int) : List D := [.int x, .int y, .int z, .lst (cs.map .int)]
structure BagOk (b : List D) : Prop where
  ex : ∃ x y z cs, b = bagD x y z cs ∧ 0 ≤ x ∧ 0 ≤ z ∧ ∀ c ∈ cs, 0 ≤ c
def gT2 : G := (andS (lookB (cmB gtD (opM ixD (rd 0) (Dl.ret (.int 0))) (Dl.ret (.int 0)))) fun k => if k = true then (then_ (setS 4 (sh1 (look (opM modD (cbM intD (conM (opM ixD (rd 0) (Dl.ret (.int 0))) (Dl.ret []))) (rd 1))))) (then_ (setIxS 0 (look (opM divD (cbM intD (conM (opM ixD (rd 0) (Dl.ret (.int 0))) (Dl.ret []))) (rd 1))) (Dl.ret (.int 0))) (retS (sh1 (rd 4))))) else done)
theorem take1 (x y z m : Int) (cs : List Int) (c d e f g : Option Ent) (hx : 0 < x) (hm : 0 < m) (hm2 : m < 1267650600228229401496703205376) : gT2 [some (.l .sh, .lst (bagD x y z cs)), some (.sh, .int m), c, d, e, f, g] = .rt (.sh, .int (x % m)) [some (.l .sh, .lst (bagD (x / m) y z cs)), some (.sh, .int m), c, d, some (.sh, .int (x % m)), f, g] := by
  unfold gT2
  push_cast only [shr, shr1, noO, bagD, hx]
theorem take2 (y z m : Int) (cs : List Int) (c d e f g : Option Ent) : gT2 [some (.l .sh, .lst (bagD 0 y z cs)), some (.sh, .int m), c, d, e, f, g] = .nx [some (.l .sh, .lst (bagD 0 y z cs)), some (.sh, .int m), c, d, e, f, g] := by
  unfold gT2
  push_cast only [shr, shr1, noO, bagD, Int.lt_irrefl]
def gT1b : G := (then_ (setS 2 (sh1 (Dl.ret (.int 0)))) (then_ (andS (lookB (cmB ltD (opM ixD (rd 0) (Dl.ret (.int 2))) (cbM (one lenD) (conM (opM ixD (rd 0) (Dl.ret (.int 3))) (Dl.ret []))))) fun k => if k = true then (setS 2 (sh1 (look (opM ixD (opM ixD (rd 0) (Dl.ret (.int 3))) (opM ixD (rd 0) (Dl.ret (.int 2))))))) else done) (then_ (augIxS 0 (ipD fun i j => i + j) (Dl.ret (.int 2)) (Dl.ret (.int 1))) (then_ (andS (cmB geD (rd 2) (Dl.ret (.int 1000000000000000000))) fun k => if k = true then (setIxS 0 (rd 2) (Dl.ret (.int 0))) else done) (then_ (setS 3 (sh1 (look (opM addD (opM addD (opM mulD (opM ixD (rd 0) (Dl.ret (.int 1))) (Dl.ret (.int 48271))) (opM modD (cbM intD (conM (rd 2) (Dl.ret []))) (Dl.ret (.int 2147483647)))) (opM mulD (Dl.ret (.int 7919)) (opM ixD (rd 0) (Dl.ret (.int 2)))))))) (setIxS 0 (opM modD (cbM intD (conM (rd 3) (Dl.ret []))) (Dl.ret (.int 2147483647))) (Dl.ret (.int 1))))))))
def gT1 : G := (andS (lookB (cmB eqD (opM ixD (rd 0) (Dl.ret (.int 0))) (Dl.ret (.int 0)))) fun k => if k = true then gT1b else done)
def gT3 : G := (then_ (setS 5 (sh1 (look (opM modD (cbM intD (conM (opM mulD (opM addD (opM ixD (rd 0) (Dl.ret (.int 1))) (Dl.ret (.int 1))) (Dl.ret (.int 39373))) (Dl.ret []))) (Dl.ret (.int 1000000007)))))) (then_ (setS 6 (sh1 (opM modD (cbM intD (conM (opM mulD (opM modD (cbM intD (conM (opM mulD (rd 5) (rd 5)) (Dl.ret []))) (Dl.ret (.int 998244353))) (Dl.ret (.int 30011))) (Dl.ret []))) (Dl.ret (.int 998244353))))) (retS (sh1 (opM modD (cbM intD (conM (opM divD (rd 6) (Dl.ret (.int 7))) (Dl.ret []))) (rd 1))))))
theorem gTake_eq : gTake = then_ gT1 (then_ gT2 gT3) := rfl
theorem tk0 (x y z m : Int) (cs : List Int) (c d e f g : Option Ent) (hx : 0 < x) : gT1 [some (.l .sh, .lst (bagD x y z cs)), some (.sh, .int m), c, d, e, f, g] = .nx [some (.l .sh, .lst (bagD x y z cs)), some (.sh, .int m), c, d, e, f, g] := by
  have h0 : ¬ x = 0 := by omega
  unfold gT1
  push_cast only [shr, shr1, noO, bagD, h0]
theorem tk1 (y z m : Int) (cs : List Int) (c d e f g : Option Ent) : gT1 [some (.l .sh, .lst (bagD 0 y z cs)), some (.sh, .int m), c, d, e, f, g] = gT1b [some (.l .sh, .lst (bagD 0 y z cs)), some (.sh, .int m), c, d, e, f, g] := by
  unfold gT1
  push_cast only [shr, shr1, noO, bagD]
def cellAt (z : Int) (cs : List Int) : Int := (cs[z.toNat]?).getD 0
def nextY (y w z : Int) : Int := (y * 48271 + w % 2147483647 + 7919 * (z + 1)) % 2147483647
theorem tk2 (y z m : Int) (cs : List Int) (c d e f g : Option Ent) (hz : 0 ≤ z) : ∃ h, gT1b [some (.l .sh, .lst (bagD 0 y z cs)), some (.sh, .int m), c, d, e, f, g] =
    .nx [some (.l .sh, .lst (bagD (if 1000000000000000000 ≤ cellAt z cs then cellAt z cs else 0) (nextY y (cellAt z cs) z) (z + 1) cs)), some (.sh, .int m), some (.sh, .int (cellAt z cs)), h, e, f, g] := by
  unfold gT1b cellAt
  by_cases hl : z < (cs.length : Int)
  · have e1 : (cs.map D.int)[z.toNat]? = some (.int cs[z.toNat]) := by rw [List.getElem?_map, List.getElem?_eq_getElem (by omega)]; rfl
    have e2 : cs[z.toNat]? = some cs[z.toNat] := List.getElem?_eq_getElem (by omega)
    rw [e2]
    generalize cs[z.toNat] = w at *
    by_cases hw : 1000000000000000000 ≤ w
    · refine ⟨some (.sh, .int (y * 48271 + w % 2147483647 + 7919 * (z + 1))), ?_⟩
      push_cast only [shr, shr1, noO, bagD, List.length_map, hl, e1, hw, ipD, nextY, Option.getD_some]
    · refine ⟨some (.sh, .int (y * 48271 + w % 2147483647 + 7919 * (z + 1))), ?_⟩
      push_cast only [shr, shr1, noO, bagD, List.length_map, hl, e1, hw, ipD, nextY, Option.getD_some]
  · have e2 : cs[z.toNat]? = none := List.getElem?_eq_none (by omega)
    rw [e2]
    have hw : ¬ (1000000000000000000 : Int) ≤ 0 := by decide
    refine ⟨some (.sh, .int (y * 48271 + 0 % 2147483647 + 7919 * (z + 1))), ?_⟩
    push_cast only [shr, shr1, noO, bagD, List.length_map, hl, ipD, nextY, hw, Option.getD_none]
theorem tk3 (y z m : Int) (cs : List Int) (c d e f g : Option Ent) (hm : 0 < m) : ∃ v h i, gT3 [some (.l .sh, .lst (bagD 0 y z cs)), some (.sh, .int m), c, d, e, f, g] = .rt (.sh, .int v) [some (.l .sh, .lst (bagD 0 y z cs)), some (.sh, .int m), c, d, e, h, i] ∧ 0 ≤ v ∧ v < m := by
  unfold gT3
  have h1 : 0 ≤ (y + 1) * 39373 % 1000000007 ∧ (y + 1) * 39373 % 1000000007 < 1000000007 := ⟨Int.emod_nonneg _ (by decide), Int.emod_lt_of_pos _ (by decide)⟩
  generalize he : (y + 1) * 39373 % 1000000007 = w at h1
  have h2 : -9223372036854775808 < w ∧ w < 9223372036854775808 := by omega
  refine ⟨w * w % 998244353 * 30011 % 998244353 / 7 % m, some (.sh, .int w), some (.sh, .int (w * w % 998244353 * 30011 % 998244353)), ?_, Int.emod_nonneg _ (by omega), Int.emod_lt_of_pos _ hm⟩
  push_cast only [shr, shr1, noO, bagD, he]
theorem take_ok {b : List D} {m : Int} (hb : BagOk b) (hm : 0 < m) (hm2 : m < 1267650600228229401496703205376) : ∃ b' v O, mTake [(.l .sh, .lst b), (.sh, .int m)] = .ok (.sh, .int v) (some (.l .sh, .lst b') :: O) ∧ BagOk b' ∧ 0 ≤ v ∧ v < m := by
  obtain ⟨x, y, z, cs, rfl, hx, hz, hc⟩ := hb.ex
  have st : ([((Ow.l .sh, D.lst (bagD x y z cs)) : Ent), (.sh, .int m)].map some ++ List.replicate (7 - [((Ow.l .sh, D.lst (bagD x y z cs)) : Ent), (.sh, .int m)].length) none : Nv) = [some (.l .sh, .lst (bagD x y z cs)), some (.sh, .int m), none, none, none, none, none] := rfl
  unfold mTake
  rw [runG_ap, st, gTake_eq, then_ap]
  by_cases h0 : 0 < x
  · rw [tk0 _ _ _ _ _ _ _ _ _ _ h0, thF_nx, then_ap, take1 _ _ _ _ _ _ _ _ _ _ h0 hm hm2, thF_rt, rnF_rt]
    exact ⟨_, _, _, rfl, ⟨_, _, _, _, rfl, Int.ediv_nonneg hx (by omega), hz, hc⟩, Int.emod_nonneg _ (by omega), Int.emod_lt_of_pos _ hm⟩
  · have e : x = 0 := by omega
    subst e
    obtain ⟨h, e2⟩ := tk2 y z m cs none none none none none hz
    rw [tk1, e2, thF_nx, then_ap]
    by_cases hw : 1000000000000000000 ≤ cellAt z cs
    · rw [if_pos hw, take1 _ _ _ _ _ _ _ _ _ _ (by omega) hm hm2, thF_rt, rnF_rt]
      exact ⟨_, _, _, rfl, ⟨_, _, _, _, rfl, Int.ediv_nonneg (by omega) (by omega), by omega, hc⟩, Int.emod_nonneg _ (by omega), Int.emod_lt_of_pos _ hm⟩
    · rw [if_neg hw, take2, thF_nx]
      obtain ⟨v, h', i', e3, h1, h2⟩ := tk3 (nextY y (cellAt z cs) z) (z + 1) m cs (some (.sh, .int (cellAt z cs))) h none none none hm
      rw [e3, rnF_rt]
      exact ⟨_, _, _, rfl, ⟨_, _, _, _, rfl, Int.le_refl _, by omega, hc⟩, h1, h2⟩
theorem one_ok {b : List D} {xs : List D} (hb : BagOk b) (h0 : 0 < xs.length) (h1 : xs.length < 1267650600228229401496703205376) : ∃ b' d O, mOne [(.l .sh, .lst b), (.sh, .lst xs)] = .ok (.sh, d) (some (.l .sh, .lst b') :: O) ∧ BagOk b' ∧ d ∈ xs := by
  obtain ⟨b', v, O, e, hb', v0, v1⟩ := take_ok (m := (xs.length : Int)) hb (by omega) (by omega)
  have hv : v.toNat < xs.length := by omega
  refine ⟨b', xs[v.toNat], [some (.sh, .lst xs)], ?_, hb', List.getElem_mem hv⟩
  have e2 : xs[v.toNat]? = some xs[v.toNat] := List.getElem?_eq_getElem hv
  unfold mOne
  push_cast only [e, e2]
  rfl
def absI (i : Int) : Int := if i < 0 then -i else i
theorem absI_nn (i : Int) : 0 ≤ absI i := by unfold absI; split <;> omega
theorem bag_loop (a : Option Ent) : ∀ (is : List Int) (acc : List D) (b : Option Ent), acc.length + is.length ≤ 100 → compL (putE 1) (Dl.ret true) (cbM absD (conM (rd 1) (Dl.ret []))) [1] (is.map .int) acc [a, b] = .ok (acc ++ (is.map absI).map .int) [a, none]
  | [], acc, b, _ => by
    show Rs.ok acc (wpe [a, b] [1]) = _
    rw [List.map_nil, List.map_nil, List.append_nil]
    rfl
  | i :: is, acc, b, h => by
    rw [List.length_cons] at h
    have z : acc.length < sizeLine := by rw [sizeLine_eq]; omega
    have e : absD [.int i] = some (.int (absI i)) := rfl
    have e1 : cbM absD (conM (rd 1) (Dl.ret [])) [a, some (.sh, .int i)] = .ok (.int (absI i)) [a, some (.sh, .int i)] := by push_cast only [e]
    have e2 : compL (putE 1) (Dl.ret true) (cbM absD (conM (rd 1) (Dl.ret []))) [1] ((i :: is).map .int) acc [a, b] = (match cbM absD (conM (rd 1) (Dl.ret [])) [a, some (.sh, .int i)] with
        | .ok y E3 => if acc.length < sizeLine then compL (putE 1) (Dl.ret true) (cbM absD (conM (rd 1) (Dl.ret []))) [1] (is.map .int) (acc ++ [y]) E3 else .stk
        | _ => .stk) := rfl
    rw [e2, e1]
    simp only
    rw [if_pos z, bag_loop a is (acc ++ [D.int (absI i)]) (some (Ow.sh, D.int i)) (by rw [List.length_append, List.length_singleton]; omega)]
    rw [List.map_cons, List.map_cons, List.append_assoc]
    rfl
theorem bag_ok {ns : List Int} (h : ns.length ≤ 63) : ∃ b O, mBag [(.sh, .frl ns)] = .ok (.l .sh, .lst b) O ∧ BagOk b := by
  let is : List Int := ((ns.drop (HT.sIx ns.length 0 none)).take (HT.sIx ns.length ns.length (some 63) - HT.sIx ns.length 0 none))
  have hl : is.length ≤ 63 := by
    show ((ns.drop _).take _).length ≤ 63
    rw [List.length_take, List.length_drop]
    omega
  have ec : cutD (ns.map .int) none (some 63) = is.map .int := by
    unfold cutD
    rw [List.length_map, ← List.map_drop, ← List.map_take]
  refine ⟨bagD 0 1234567891 0 (is.map absI), [some (.sh, .frl ns), none], ?_, ⟨0, 1234567891, 0, is.map absI, rfl, by decide, by decide, fun c hc => ?_⟩⟩
  rotate_left 1
  · obtain ⟨i, _, rfl⟩ := List.mem_map.mp hc
    exact absI_nn i
  · have s1 : sliceD (.frl ns) none (some 63) = some (.lst (is.map .int)) := by rw [← ec]; rfl
    have s2 : slM (rd 0) (Dl.ret none) (ixp (Dl.ret (.int 63))) [some (.sh, .frl ns), none] = .ok (.lst (is.map .int)) [some (.sh, .frl ns), none] := by
      have a1 : asI (.int 63) = some 63 := rfl
      unfold slM ixp
      push_cast only [a1, s1]
    have s3 := bag_loop (some (.sh, .frl ns)) is [] none (by rw [List.length_nil]; omega)
    rw [List.nil_append] at s3
    have s4 : small 4 = true := by decide
    have st : ([((Ow.sh, D.frl ns) : Ent)].map some ++ List.replicate (2 - [((Ow.sh, D.frl ns) : Ent)].length) none : Nv) = [some (.sh, .frl ns), none] := rfl
    unfold mBag gBag compM
    rw [runG_ap, st]
    push_cast only [s2, s3, s4]
    rfl
end Dl
namespace Lb
open PySem PySem.Spec PyProof.Rows L2 Dl
def g_is_integer : G := (retS (sh1 (andV (cbM (isiD ["Book"]) (conM (rd 0) (conM (Dl.ret (.ty "int")) (Dl.ret [])))) (notV (cbM (isiD ["Book"]) (conM (rd 0) (conM (Dl.ret (.ty "bool")) (Dl.ret []))))))))
def m_is_integer : Fm := runG 1 g_is_integer
def g_is_index : G := (retS (sh1 (andV (shM (calM m_is_integer [none] [] (conM (rd 0) (Dl.ret [])))) (chM leD ltD (Dl.ret (.int 0)) (rd 0) (rd 1)))))
def m_is_index : Fm := runG 2 g_is_index
def g_is_row : G := (retS (sh1 (andV (cbM (isiD ["Book"]) (conM (rd 0) (conM (Dl.ret (.ty "tuple")) (Dl.ret [])))) (opM eqD (cbM (one lenD) (conM (rd 0) (Dl.ret []))) (rd 1)))))
def m_is_row : Fm := runG 2 g_is_row
def g_is_kind : G := (retS (sh1 (andV (cbM (isiD ["Book"]) (conM (rd 0) (conM (Dl.ret (.ty "str")) (Dl.ret [])))) (opM inD (rd 0) (tupM (conM (Dl.ret (.str "early")) (conM (Dl.ret (.str "late")) (Dl.ret []))))))))
def m_is_kind : Fm := runG 1 g_is_kind
def g_contrary : G := (retS (ifM (cmB eqD (rd 0) (Dl.ret (.str "early"))) (sh1 (Dl.ret (.str "late"))) (sh1 (Dl.ret (.str "early")))))
def m_contrary : Fm := runG 1 g_contrary
def g_stands_as : G := (retS (sh1 (orV (opM eqD (opM ixD (rd 1) (Dl.ret (.int 0))) (Dl.ret (.str "told"))) (opM eqD (opM ixD (opM ixD (unM (attrD ["Book"] "sure") (rd 0)) (opM ixD (rd 1) (Dl.ret (.int 1)))) (Dl.ret (.int 1))) (rd 2)))))
def m_stands_as : Fm := runG 3 g_stands_as
def g_item_of : G := (retS (ifM (cmB eqD (opM ixD (rd 1) (Dl.ret (.int 0))) (Dl.ret (.str "told"))) (sh1 (opM ixD (unM (attrD ["Book"] "tellings") (rd 0)) (opM ixD (rd 1) (Dl.ret (.int 1))))) (sh1 (opM ixD (unM (attrD ["Book"] "sure") (rd 0)) (opM ixD (rd 1) (Dl.ret (.int 1)))))))
def m_item_of : Fm := runG 2 g_item_of
def g_event_of : G := (retS (ifM (cmB eqD (opM ixD (rd 1) (Dl.ret (.int 0))) (Dl.ret (.str "told"))) (sh1 (opM ixD (shM (calM m_item_of [none, none] [] (conM (rd 0) (conM (rd 1) (Dl.ret []))))) (Dl.ret (.int 1)))) (sh1 (opM ixD (shM (calM m_item_of [none, none] [] (conM (rd 0) (conM (rd 1) (Dl.ret []))))) (Dl.ret (.int 0))))))
def m_event_of : Fm := runG 2 g_event_of
def g_number_of : G := (retS (sh1 (opM ixD (shM (calM m_item_of [none, none] [] (conM (rd 0) (conM (rd 1) (Dl.ret []))))) (Dl.ret (.int 2)))))
def m_number_of : Fm := runG 2 g_number_of
def g_sides_of : G := (retS (own1 (conM (tupM (conM (opM ixD (rd 0) (Dl.ret (.int 0))) (conM (opM ixD (rd 0) (Dl.ret (.int 1))) (Dl.ret [])))) (conM (tupM (conM (opM ixD (rd 0) (Dl.ret (.int 2))) (conM (opM ixD (rd 0) (Dl.ret (.int 3))) (Dl.ret [])))) (Dl.ret [])))))
def m_sides_of : Fm := runG 1 g_sides_of
def g_turned_literal : G := (retS (sh1 (tupM (conM (opM ixD (rd 0) (Dl.ret (.int 0))) (conM (shM (calM m_contrary [none] [] (conM (opM ixD (rd 0) (Dl.ret (.int 1))) (Dl.ret [])))) (Dl.ret []))))))
def m_turned_literal : Fm := runG 1 g_turned_literal
def g_pairs_by_clause : G := (then_ (asgS (tgT 2 (tgC (putE 1) (tgC (putE 2) tgN))) (shM (calM m_sides_of [none] [] (conM (rd 0) (Dl.ret []))))) (retS (own1 (conM (tupM (conM (shM (calM m_turned_literal [none] [] (conM (rd 1) (Dl.ret [])))) (conM (rd 2) (Dl.ret [])))) (conM (tupM (conM (shM (calM m_turned_literal [none] [] (conM (rd 2) (Dl.ret [])))) (conM (rd 1) (Dl.ret [])))) (Dl.ret []))))))
def m_pairs_by_clause : Fm := runG 3 g_pairs_by_clause
def g_pairs_by_link : G := (then_ (par2S 2 3 (conM (opM ixD (rd 1) (Dl.ret (.int 0))) (conM (opM ixD (rd 1) (Dl.ret (.int 2))) (Dl.ret [])))) (then_ (setS 4 (sh1 (ifM (cmB eqD (opM ixD (rd 2) (Dl.ret (.int 0))) (Dl.ret (.str "told"))) (opM ixD (opM ixD (unM (attrD ["Book"] "tellings") (rd 0)) (opM ixD (rd 2) (Dl.ret (.int 1)))) (Dl.ret (.int 0))) (Dl.ret (.non))))) (then_ (setS 5 (sh1 (ifM (cmB eqD (opM ixD (rd 3) (Dl.ret (.int 0))) (Dl.ret (.str "told"))) (opM ixD (opM ixD (unM (attrD ["Book"] "tellings") (rd 0)) (opM ixD (rd 3) (Dl.ret (.int 1)))) (Dl.ret (.int 0))) (Dl.ret (.non))))) (then_ (andS (andM (cmB isND (rd 4) (Dl.ret (.non))) (cmB isND (rd 5) (Dl.ret (.non)))) fun k => if k = true then (retS (own1 (Dl.ret []))) else done) (then_ (andS (cmB isND (rd 4) (Dl.ret (.non))) fun k => if k = true then (retS (own1 (conM (tupM (conM (tupM (conM (rd 5) (conM (Dl.ret (.str "late")) (Dl.ret [])))) (conM (tupM (conM (rd 5) (conM (Dl.ret (.str "early")) (Dl.ret [])))) (Dl.ret [])))) (Dl.ret [])))) else done) (then_ (andS (cmB isND (rd 5) (Dl.ret (.non))) fun k => if k = true then (retS (own1 (conM (tupM (conM (tupM (conM (rd 4) (conM (Dl.ret (.str "early")) (Dl.ret [])))) (conM (tupM (conM (rd 4) (conM (Dl.ret (.str "late")) (Dl.ret [])))) (Dl.ret [])))) (Dl.ret [])))) else done) (retS (own1 (conM (tupM (conM (tupM (conM (rd 4) (conM (Dl.ret (.str "early")) (Dl.ret [])))) (conM (tupM (conM (rd 5) (conM (Dl.ret (.str "early")) (Dl.ret [])))) (Dl.ret [])))) (conM (tupM (conM (tupM (conM (rd 5) (conM (Dl.ret (.str "late")) (Dl.ret [])))) (conM (tupM (conM (rd 4) (conM (Dl.ret (.str "late")) (Dl.ret [])))) (Dl.ret [])))) (Dl.ret [])))))))))))
def m_pairs_by_link : Fm := runG 6 g_pairs_by_link
def g_are_stretches : G := (then_ (andS (orM (notM (test (cbM (isiD ["Book"]) (conM (rd 0) (conM (Dl.ret (.ty "list")) (Dl.ret [])))))) (notM (test (cbM allD (conM (shM (compM (seqI (rd 0)) (putE 5) (Dl.ret true) (andV (cbM (isiD ["Book"]) (conM (rd 5) (conM (Dl.ret (.ty "tuple")) (Dl.ret [])))) (opM eqD (cbM (one lenD) (conM (rd 5) (Dl.ret []))) (Dl.ret (.int 3)))) [5])) (Dl.ret [])))))) fun k => if k = true then (retS (sh1 (Dl.ret (.bl false)))) else done) (then_ (forS (enI (conM (rd 0) (Dl.ret []))) (tgT 2 (tgC (putE 1) (tgC (tgT 3 (tgC (putE 2) (tgC (putE 3) (tgC (putE 4) tgN)))) tgN))) (then_ (andS (orM (notM (orM (cmB isND (rd 2) (Dl.ret (.non))) (test (shM (calM m_is_integer [none] [] (conM (rd 2) (Dl.ret []))))))) (notM (orM (cmB isND (rd 3) (Dl.ret (.non))) (test (shM (calM m_is_integer [none] [] (conM (rd 3) (Dl.ret [])))))))) fun k => if k = true then (retS (sh1 (Dl.ret (.bl false)))) else done) (then_ (andS (orM (andM (cmB isND (rd 2) (Dl.ret (.non))) (cmB gtD (rd 1) (Dl.ret (.int 0)))) (andM (cmB isND (rd 3) (Dl.ret (.non))) (cmB ltD (rd 1) (opM subD (cbM (one lenD) (conM (rd 0) (Dl.ret []))) (Dl.ret (.int 1)))))) fun k => if k = true then (retS (sh1 (Dl.ret (.bl false)))) else done) (andS (andM (cmB notND (rd 2) (Dl.ret (.non))) (orM (andM (cmB notND (rd 3) (Dl.ret (.non))) (cmB gtD (rd 2) (rd 3))) (andM (cmB gtD (rd 1) (Dl.ret (.int 0))) (cmB leD (rd 2) (opM ixD (opM ixD (rd 0) (opM subD (rd 1) (Dl.ret (.int 1)))) (Dl.ret (.int 1))))))) fun k => if k = true then (retS (sh1 (Dl.ret (.bl false)))) else done)))) (retS (sh1 (Dl.ret (.bl true))))))
def m_are_stretches : Fm := runG 6 g_are_stretches
def g_is_way : G := (then_ (andS (notM (test (cbM (isiD ["Book"]) (conM (rd 3) (conM (Dl.ret (.ty "tuple")) (Dl.ret [])))))) fun k => if k = true then (retS (sh1 (Dl.ret (.bl false)))) else done) (then_ (setS 4 (sh1 (rd 1))) (then_ (forS (seqI (rd 3)) (putE 5) (then_ (andS (orM (notM (test (shM (calM m_is_index [none, none] [] (conM (rd 5) (conM (cbM (one lenD) (conM (unM (attrD ["Book"] "gaps") (rd 0)) (Dl.ret []))) (Dl.ret []))))))) (cmB neD (opM ixD (opM ixD (unM (attrD ["Book"] "gaps") (rd 0)) (rd 5)) (Dl.ret (.int 0))) (rd 4))) fun k => if k = true then (retS (sh1 (Dl.ret (.bl false)))) else done) (setS 4 (sh1 (opM ixD (opM ixD (unM (attrD ["Book"] "gaps") (rd 0)) (rd 5)) (Dl.ret (.int 1))))))) (retS (sh1 (opM eqD (rd 4) (rd 2)))))))
def m_is_way : Fm := runG 6 g_is_way
def g_total : G := (retS (sh1 (cbM sumD (conM (shM (compM (seqI (rd 1)) (putE 2) (Dl.ret true) (opM ixD (opM ixD (unM (attrD ["Book"] "gaps") (rd 0)) (rd 2)) (Dl.ret (.int 2))) [2])) (Dl.ret [])))))
def m_total : Fm := runG 3 g_total
def g_is_ring_of_gaps : G := (then_ (andS (orM (notM (test (cbM (isiD ["Book"]) (conM (rd 1) (conM (Dl.ret (.ty "tuple")) (Dl.ret [])))))) (orM (cmB eqD (cbM (one lenD) (conM (rd 1) (Dl.ret []))) (Dl.ret (.int 0))) (notM (test (shM (calM m_is_index [none, none] [] (conM (opM ixD (rd 1) (Dl.ret (.int 0))) (conM (cbM (one lenD) (conM (unM (attrD ["Book"] "gaps") (rd 0)) (Dl.ret []))) (Dl.ret []))))))))) fun k => if k = true then (retS (sh1 (Dl.ret (.bl false)))) else done) (then_ (setS 2 (sh1 (opM ixD (opM ixD (unM (attrD ["Book"] "gaps") (rd 0)) (opM ixD (rd 1) (Dl.ret (.int 0)))) (Dl.ret (.int 0))))) (retS (sh1 (andV (shM (calM m_is_way [none, none, none, none] [] (conM (rd 0) (conM (rd 2) (conM (rd 2) (conM (rd 1) (Dl.ret []))))))) (opM gtD (shM (calM m_total [none, none] [] (conM (rd 0) (conM (rd 1) (Dl.ret []))))) (Dl.ret (.int 0))))))))
def m_is_ring_of_gaps : Fm := runG 3 g_is_ring_of_gaps
def g_is_source : G := (then_ (andS (orM (notM (test (shM (calM m_is_row [none, none] [] (conM (rd 1) (conM (Dl.ret (.int 2)) (Dl.ret []))))))) (orM (notM (test (cbM (isiD ["Book"]) (conM (opM ixD (rd 1) (Dl.ret (.int 0))) (conM (Dl.ret (.ty "str")) (Dl.ret [])))))) (cmB ninD (opM ixD (rd 1) (Dl.ret (.int 0))) (tupM (conM (Dl.ret (.str "told")) (conM (Dl.ret (.str "sure")) (Dl.ret []))))))) fun k => if k = true then (retS (sh1 (Dl.ret (.bl false)))) else done) (retS (calM m_is_index [none, none] [] (conM (opM ixD (rd 1) (Dl.ret (.int 1))) (conM (ifM (cmB eqD (opM ixD (rd 1) (Dl.ret (.int 0))) (Dl.ret (.str "told"))) (cbM (one lenD) (conM (unM (attrD ["Book"] "tellings") (rd 0)) (Dl.ret []))) (cbM (one lenD) (conM (unM (attrD ["Book"] "sure") (rd 0)) (Dl.ret [])))) (Dl.ret []))))))
def m_is_source : Fm := runG 2 g_is_source
def g_is_joined : G := (then_ (andS (orM (notM (test (shM (calM m_is_row [none, none] [] (conM (rd 1) (conM (Dl.ret (.int 3)) (Dl.ret []))))))) (orM (notM (test (shM (calM m_is_source [none, none] [] (conM (rd 0) (conM (opM ixD (rd 1) (Dl.ret (.int 0))) (Dl.ret []))))))) (notM (test (shM (calM m_is_source [none, none] [] (conM (rd 0) (conM (opM ixD (rd 1) (Dl.ret (.int 2))) (Dl.ret []))))))))) fun k => if k = true then (retS (sh1 (Dl.ret (.bl false)))) else done) (then_ (andS (orM (notM (test (shM (calM m_stands_as [none, none, none] [] (conM (rd 0) (conM (opM ixD (rd 1) (Dl.ret (.int 0))) (conM (Dl.ret (.str "least")) (Dl.ret [])))))))) (notM (test (shM (calM m_stands_as [none, none, none] [] (conM (rd 0) (conM (opM ixD (rd 1) (Dl.ret (.int 2))) (conM (Dl.ret (.str "most")) (Dl.ret []))))))))) fun k => if k = true then (retS (sh1 (Dl.ret (.bl false)))) else done) (retS (calM m_is_way [none, none, none, none] [] (conM (rd 0) (conM (shM (calM m_event_of [none, none] [] (conM (rd 0) (conM (opM ixD (rd 1) (Dl.ret (.int 0))) (Dl.ret []))))) (conM (shM (calM m_event_of [none, none] [] (conM (rd 0) (conM (opM ixD (rd 1) (Dl.ret (.int 2))) (Dl.ret []))))) (conM (opM ixD (rd 1) (Dl.ret (.int 1))) (Dl.ret [])))))))))
def m_is_joined : Fm := runG 2 g_is_joined
def g_is_moved : G := (retS (sh1 (andV (opM eqD (opM ixD (rd 2) (Dl.ret (.int 0))) (Dl.ret (.str "told"))) (opM inD (opM ixD (opM ixD (unM (attrD ["Book"] "tellings") (rd 0)) (opM ixD (rd 2) (Dl.ret (.int 1)))) (Dl.ret (.int 0))) (rd 1)))))
def m_is_moved : Fm := runG 3 g_is_moved
def g_link_stretch : G := (then_ (asgS (tgT 3 (tgC (putE 3) (tgC (putE 4) (tgC (putE 5) tgN)))) (rd 2)) (then_ (setS 6 (sh1 (opM subD (opM subD (shM (calM m_number_of [none, none] [] (conM (rd 0) (conM (rd 5) (Dl.ret []))))) (shM (calM m_number_of [none, none] [] (conM (rd 0) (conM (rd 3) (Dl.ret [])))))) (shM (calM m_total [none, none] [] (conM (rd 0) (conM (rd 4) (Dl.ret [])))))))) (then_ (par2S 7 8 (conM (shM (calM m_is_moved [none, none, none] [] (conM (rd 0) (conM (rd 1) (conM (rd 3) (Dl.ret [])))))) (conM (shM (calM m_is_moved [none, none, none] [] (conM (rd 0) (conM (rd 1) (conM (rd 5) (Dl.ret [])))))) (Dl.ret [])))) (then_ (andS (cmB eqD (rd 7) (rd 8)) fun k => if k = true then (retS (ifM (cmB ltD (rd 6) (Dl.ret (.int 0))) (sh1 (tupM (conM (Dl.ret (.non)) (conM (Dl.ret (.non)) (Dl.ret []))))) (sh1 (Dl.ret (.non))))) else done) (retS (ifM (test (rd 7)) (sh1 (tupM (conM (Dl.ret (.non)) (conM (opM subD (unM negD (rd 6)) (Dl.ret (.int 1))) (Dl.ret []))))) (sh1 (tupM (conM (opM addD (rd 6) (Dl.ret (.int 1))) (conM (Dl.ret (.non)) (Dl.ret [])))))))))))
def m_link_stretch : Fm := runG 9 g_link_stretch
def g_is_literal : G := (retS (sh1 (andV (shM (calM m_is_row [none, none] [] (conM (rd 1) (conM (Dl.ret (.int 2)) (Dl.ret []))))) (andV (shM (calM m_is_index [none, none] [] (conM (opM ixD (rd 1) (Dl.ret (.int 0))) (conM (unM (attrD ["Book"] "witnesses") (rd 0)) (Dl.ret []))))) (shM (calM m_is_kind [none] [] (conM (opM ixD (rd 1) (Dl.ret (.int 1))) (Dl.ret []))))))))
def m_is_literal : Fm := runG 2 g_is_literal
def g_is_formal_step : G := (then_ (andS (orM (notM (test (shM (calM m_is_row [none, none] [] (conM (rd 1) (conM (Dl.ret (.int 3)) (Dl.ret []))))))) (orM (notM (test (shM (calM m_is_literal [none, none] [] (conM (rd 0) (conM (opM ixD (rd 1) (Dl.ret (.int 0))) (Dl.ret []))))))) (notM (test (shM (calM m_is_literal [none, none] [] (conM (rd 0) (conM (opM ixD (rd 1) (Dl.ret (.int 2))) (Dl.ret []))))))))) fun k => if k = true then (retS (sh1 (Dl.ret (.bl false)))) else done) (then_ (asgS (tgT 3 (tgC (putE 2) (tgC (putE 3) (tgC (putE 4) tgN)))) (rd 1)) (then_ (andS (orM (notM (test (shM (calM m_is_row [none, none] [] (conM (rd 3) (conM (Dl.ret (.int 2)) (Dl.ret []))))))) (notM (test (cbM (isiD ["Book"]) (conM (opM ixD (rd 3) (Dl.ret (.int 0))) (conM (Dl.ret (.ty "str")) (Dl.ret []))))))) fun k => if k = true then (retS (sh1 (Dl.ret (.bl false)))) else done) (then_ (asgS (tgT 2 (tgC (putE 5) (tgC (putE 6) tgN))) (rd 3)) (then_ (andS (cmB eqD (rd 5) (Dl.ret (.str "clause"))) fun k => if k = true then (retS (sh1 (andV (shM (calM m_is_index [none, none] [] (conM (rd 6) (conM (cbM (one lenD) (conM (unM (attrD ["Book"] "clauses") (rd 0)) (Dl.ret []))) (Dl.ret []))))) (opM inD (tupM (conM (rd 2) (conM (rd 4) (Dl.ret [])))) (shM (calM m_pairs_by_clause [none] [] (conM (opM ixD (unM (attrD ["Book"] "clauses") (rd 0)) (rd 6)) (Dl.ret [])))))))) else done) (retS (sh1 (andV (opM eqD (rd 5) (Dl.ret (.str "link"))) (andV (shM (calM m_is_joined [none, none] [] (conM (rd 0) (conM (rd 6) (Dl.ret []))))) (opM inD (tupM (conM (rd 2) (conM (rd 4) (Dl.ret [])))) (shM (calM m_pairs_by_link [none, none] [] (conM (rd 0) (conM (rd 6) (Dl.ret [])))))))))))))))
def m_is_formal_step : Fm := runG 7 g_is_formal_step
def g_is_formal_ring : G := (then_ (andS (orM (notM (test (cbM (isiD ["Book"]) (conM (rd 1) (conM (Dl.ret (.ty "tuple")) (Dl.ret [])))))) (orM (cmB eqD (rd 1) (tupM (Dl.ret []))) (notM (test (cbM allD (conM (shM (compM (seqI (rd 1)) (putE 3) (Dl.ret true) (shM (calM m_is_formal_step [none, none] [] (conM (rd 0) (conM (rd 3) (Dl.ret []))))) [3])) (Dl.ret []))))))) fun k => if k = true then (retS (sh1 (Dl.ret (.bl false)))) else done) (then_ (setS 2 (sh1 (shM (compM (seqI (rd 1)) (putE 3) (Dl.ret true) (opM ixD (rd 3) (Dl.ret (.int 0))) [3])))) (then_ (andS (notM (test (cbM allD (conM (shM (compM (rg1 (conM (cbM (one lenD) (conM (rd 1) (Dl.ret []))) (Dl.ret []))) (putE 4) (Dl.ret true) (opM eqD (opM ixD (opM ixD (rd 1) (opM subD (rd 4) (Dl.ret (.int 1)))) (Dl.ret (.int 2))) (opM ixD (rd 2) (rd 4))) [4])) (Dl.ret []))))) fun k => if k = true then (retS (sh1 (Dl.ret (.bl false)))) else done) (retS (sh1 (cbM anyD (conM (shM (compM (seqI (rd 2)) (putE 3) (Dl.ret true) (opM inD (shM (calM m_turned_literal [none] [] (conM (rd 3) (Dl.ret [])))) (rd 2)) [3])) (Dl.ret []))))))))
def m_is_formal_ring : Fm := runG 5 g_is_formal_ring
def g_is_formal_reason : G := (then_ (andS (orM (notM (test (shM (calM m_is_row [none, none] [] (conM (rd 1) (conM (Dl.ret (.int 2)) (Dl.ret []))))))) (notM (test (cbM (isiD ["Book"]) (conM (opM ixD (rd 1) (Dl.ret (.int 0))) (conM (Dl.ret (.ty "str")) (Dl.ret []))))))) fun k => if k = true then (retS (sh1 (Dl.ret (.bl false)))) else done) (then_ (andS (cmB eqD (opM ixD (rd 1) (Dl.ret (.int 0))) (Dl.ret (.str "gaps"))) fun k => if k = true then (retS (calM m_is_ring_of_gaps [none, none] [] (conM (rd 0) (conM (opM ixD (rd 1) (Dl.ret (.int 1))) (Dl.ret []))))) else done) (then_ (andS (cmB eqD (opM ixD (rd 1) (Dl.ret (.int 0))) (Dl.ret (.str "bounds"))) fun k => if k = true then (then_ (andS (orM (notM (test (shM (calM m_is_joined [none, none] [] (conM (rd 0) (conM (opM ixD (rd 1) (Dl.ret (.int 1))) (Dl.ret []))))))) (orM (cmB neD (opM ixD (opM ixD (opM ixD (rd 1) (Dl.ret (.int 1))) (Dl.ret (.int 0))) (Dl.ret (.int 0))) (Dl.ret (.str "sure"))) (cmB neD (opM ixD (opM ixD (opM ixD (rd 1) (Dl.ret (.int 1))) (Dl.ret (.int 2))) (Dl.ret (.int 0))) (Dl.ret (.str "sure"))))) fun k => if k = true then (retS (sh1 (Dl.ret (.bl false)))) else done) (retS (sh1 (opM notND (shM (calM m_link_stretch [none, none, none] [] (conM (rd 0) (conM (tupM (Dl.ret [])) (conM (opM ixD (rd 1) (Dl.ret (.int 1))) (Dl.ret [])))))) (Dl.ret (.non)))))) else done) (retS (sh1 (andV (opM eqD (opM ixD (rd 1) (Dl.ret (.int 0))) (Dl.ret (.str "kinds"))) (shM (calM m_is_formal_ring [none, none] [] (conM (rd 0) (conM (opM ixD (rd 1) (Dl.ret (.int 1))) (Dl.ret [])))))))))))
def m_is_formal_reason : Fm := runG 2 g_is_formal_reason
def g_is_within : G := (then_ (andS (orM (cmB isND (rd 2) (Dl.ret (.non))) (andM (cmB notND (opM ixD (rd 2) (Dl.ret (.int 0))) (Dl.ret (.non))) (orM (cmB isND (rd 0) (Dl.ret (.non))) (cmB ltD (rd 0) (opM ixD (rd 2) (Dl.ret (.int 0))))))) fun k => if k = true then (retS (sh1 (Dl.ret (.bl false)))) else done) (retS (sh1 (orV (opM isND (opM ixD (rd 2) (Dl.ret (.int 1))) (Dl.ret (.non))) (andV (opM notND (rd 1) (Dl.ret (.non))) (opM leD (rd 1) (opM ixD (rd 2) (Dl.ret (.int 1)))))))))
def m_is_within : Fm := runG 3 g_is_within
def g_narrowed : G := (then_ (setS 2 (compM (seqI (tupM (conM (rd 0) (conM (rd 1) (Dl.ret []))))) (putE 6) (cmB notND (opM ixD (rd 6) (Dl.ret (.int 0))) (Dl.ret (.non))) (opM ixD (rd 6) (Dl.ret (.int 0))) [6])) (frzS 2 (then_ (setS 3 (compM (seqI (tupM (conM (rd 0) (conM (rd 1) (Dl.ret []))))) (putE 6) (cmB notND (opM ixD (rd 6) (Dl.ret (.int 1))) (Dl.ret (.non))) (opM ixD (rd 6) (Dl.ret (.int 1))) [6])) (frzS 3 (then_ (par2S 4 5 (conM (mmM true (conM (rd 2) (Dl.ret [])) (Dl.ret (.non))) (conM (mmM false (conM (rd 3) (Dl.ret [])) (Dl.ret (.non))) (Dl.ret [])))) (retS (ifM (andM (cmB notND (rd 4) (Dl.ret (.non))) (andM (cmB notND (rd 5) (Dl.ret (.non))) (cmB gtD (rd 4) (rd 5)))) (sh1 (Dl.ret (.non))) (sh1 (tupM (conM (rd 4) (conM (rd 5) (Dl.ret []))))))))))))
def m_narrowed : Fm := runG 7 g_narrowed
def g_reason_stretch : G := (then_ (setS 3 (sh1 (tupM (conM (Dl.ret (.non)) (conM (Dl.ret (.non)) (Dl.ret [])))))) (then_ (andS (cmB eqD (opM ixD (rd 2) (Dl.ret (.int 0))) (Dl.ret (.str "kinds"))) fun k => if k = true then (forS (seqI (opM ixD (rd 2) (Dl.ret (.int 1)))) (tgT 3 (tgC (putE 4) (tgC (putE 5) (tgC (putE 6) tgN)))) (andS (andM (cmB eqD (opM ixD (rd 5) (Dl.ret (.int 0))) (Dl.ret (.str "link"))) (cmB notND (rd 3) (Dl.ret (.non)))) fun k => if k = true then (then_ (setS 7 (sh1 (shM (calM m_link_stretch [none, none, none] [] (conM (rd 0) (conM (rd 1) (conM (opM ixD (rd 5) (Dl.ret (.int 1))) (Dl.ret [])))))))) (setS 3 (sh1 (ifM (cmB isND (rd 7) (Dl.ret (.non))) (Dl.ret (.non)) (shM (calM m_narrowed [none, none] [] (conM (rd 3) (conM (rd 7) (Dl.ret []))))))))) else done)) else done) (retS (sh1 (rd 3)))))
def m_reason_stretch : Fm := runG 8 g_reason_stretch
def g_are_holes : G := (then_ (andS (orM (notM (test (shM (calM m_are_stretches [none] [] (conM (rd 2) (Dl.ret [])))))) (notM (test (cbM allD (conM (shM (compM (seqI (rd 2)) (putE 3) (Dl.ret true) (shM (calM m_is_formal_reason [none, none] [] (conM (rd 0) (conM (opM ixD (rd 3) (Dl.ret (.int 2))) (Dl.ret []))))) [3])) (Dl.ret [])))))) fun k => if k = true then (retS (sh1 (Dl.ret (.bl false)))) else done) (retS (sh1 (cbM allD (conM (shM (compM (seqI (rd 2)) (tgT 3 (tgC (putE 4) (tgC (putE 5) (tgC (putE 6) tgN)))) (Dl.ret true) (shM (calM m_is_within [none, none, none] [] (conM (rd 4) (conM (rd 5) (conM (shM (calM m_reason_stretch [none, none, none] [] (conM (rd 0) (conM (rd 1) (conM (rd 6) (Dl.ret [])))))) (Dl.ret [])))))) [4, 5, 6])) (Dl.ret []))))))
def m_are_holes : Fm := runG 7 g_are_holes
def g_law_alike : G := (retS (sh1 (andV (opM eqD (rd 0) (rd 1)) (opM eqD (cbM reprD (conM (rd 0) (Dl.ret []))) (cbM reprD (conM (rd 1) (Dl.ret [])))))))
def m_law_alike : Fm := runG 2 g_law_alike
def g_law_is_whole : G := (retS (sh1 (andV (cbM (isiD ["Book"]) (conM (rd 0) (conM (Dl.ret (.ty "int")) (Dl.ret [])))) (notV (cbM (isiD ["Book"]) (conM (rd 0) (conM (Dl.ret (.ty "bool")) (Dl.ret []))))))))
def m_law_is_whole : Fm := runG 1 g_law_is_whole
def g_law_are_stretches : G := (then_ (andS (notM (test (cbM (isiD ["Book"]) (conM (rd 0) (conM (Dl.ret (.ty "list")) (Dl.ret [])))))) fun k => if k = true then (retS (sh1 (Dl.ret (.bl false)))) else done) (then_ (forS (enI (conM (rd 0) (Dl.ret []))) (tgT 2 (tgC (putE 1) (tgC (putE 2) tgN))) (then_ (andS (orM (notM (test (cbM (isiD ["Book"]) (conM (rd 2) (conM (Dl.ret (.ty "tuple")) (Dl.ret [])))))) (cmB neD (cbM (one lenD) (conM (rd 2) (Dl.ret []))) (Dl.ret (.int 3)))) fun k => if k = true then (retS (sh1 (Dl.ret (.bl false)))) else done) (then_ (par2S 3 4 (conM (opM ixD (rd 2) (Dl.ret (.int 0))) (conM (opM ixD (rd 2) (Dl.ret (.int 1))) (Dl.ret [])))) (then_ (andS (orM (notM (orM (cmB isND (rd 3) (Dl.ret (.non))) (test (shM (calM m_law_is_whole [none] [] (conM (rd 3) (Dl.ret []))))))) (notM (orM (cmB isND (rd 4) (Dl.ret (.non))) (test (shM (calM m_law_is_whole [none] [] (conM (rd 4) (Dl.ret [])))))))) fun k => if k = true then (retS (sh1 (Dl.ret (.bl false)))) else done) (then_ (andS (andM (cmB notND (rd 3) (Dl.ret (.non))) (andM (cmB notND (rd 4) (Dl.ret (.non))) (cmB gtD (rd 3) (rd 4)))) fun k => if k = true then (retS (sh1 (Dl.ret (.bl false)))) else done) (andS (andM (cmB gtD (rd 1) (Dl.ret (.int 0))) (orM (cmB isND (rd 3) (Dl.ret (.non))) (orM (cmB isND (opM ixD (opM ixD (rd 0) (opM subD (rd 1) (Dl.ret (.int 1)))) (Dl.ret (.int 1))) (Dl.ret (.non))) (cmB leD (rd 3) (opM ixD (opM ixD (rd 0) (opM subD (rd 1) (Dl.ret (.int 1)))) (Dl.ret (.int 1))))))) fun k => if k = true then (retS (sh1 (Dl.ret (.bl false)))) else done)))))) (retS (sh1 (Dl.ret (.bl true))))))
def m_law_are_stretches : Fm := runG 5 g_law_are_stretches
def g_law_way_sum : G := (then_ (par2S 4 5 (conM (rd 1) (conM (Dl.ret (.int 0)) (Dl.ret [])))) (then_ (andS (notM (test (cbM (isiD ["Book"]) (conM (rd 3) (conM (Dl.ret (.ty "tuple")) (Dl.ret [])))))) fun k => if k = true then (retS (sh1 (Dl.ret (.non)))) else done) (then_ (forS (seqI (rd 3)) (putE 6) (then_ (andS (orM (notM (test (cbM (isiD ["Book"]) (conM (rd 6) (conM (Dl.ret (.ty "int")) (Dl.ret [])))))) (orM (test (cbM (isiD ["Book"]) (conM (rd 6) (conM (Dl.ret (.ty "bool")) (Dl.ret []))))) (orM (notM (chB leD ltD (Dl.ret (.int 0)) (rd 6) (cbM (one lenD) (conM (opM ixD (rd 0) (Dl.ret (.int 1))) (Dl.ret []))))) (cmB neD (opM ixD (opM ixD (opM ixD (rd 0) (Dl.ret (.int 1))) (rd 6)) (Dl.ret (.int 0))) (rd 4))))) fun k => if k = true then (retS (sh1 (Dl.ret (.non)))) else done) (par2S 4 5 (conM (opM ixD (opM ixD (opM ixD (rd 0) (Dl.ret (.int 1))) (rd 6)) (Dl.ret (.int 1))) (conM (opM addD (rd 5) (opM ixD (opM ixD (opM ixD (rd 0) (Dl.ret (.int 1))) (rd 6)) (Dl.ret (.int 2)))) (Dl.ret [])))))) (retS (ifM (cmB eqD (rd 4) (rd 2)) (sh1 (rd 5)) (sh1 (Dl.ret (.non))))))))
def m_law_way_sum : Fm := runG 7 g_law_way_sum
def g_law_source : G := (then_ (andS (orM (notM (test (cbM (isiD ["Book"]) (conM (rd 1) (conM (Dl.ret (.ty "tuple")) (Dl.ret [])))))) (orM (cmB neD (cbM (one lenD) (conM (rd 1) (Dl.ret []))) (Dl.ret (.int 2))) (cmB ninD (opM ixD (rd 1) (Dl.ret (.int 0))) (tupM (conM (Dl.ret (.str "told")) (conM (Dl.ret (.str "sure")) (Dl.ret []))))))) fun k => if k = true then (retS (sh1 (Dl.ret (.non)))) else done) (then_ (par2S 3 4 (conM (opM ixD (rd 1) (Dl.ret (.int 1))) (conM (ifM (cmB eqD (opM ixD (rd 1) (Dl.ret (.int 0))) (Dl.ret (.str "told"))) (opM ixD (rd 0) (Dl.ret (.int 0))) (opM ixD (rd 0) (Dl.ret (.int 2)))) (Dl.ret [])))) (then_ (andS (orM (notM (test (cbM (isiD ["Book"]) (conM (rd 3) (conM (Dl.ret (.ty "int")) (Dl.ret [])))))) (orM (test (cbM (isiD ["Book"]) (conM (rd 3) (conM (Dl.ret (.ty "bool")) (Dl.ret []))))) (notM (chB leD ltD (Dl.ret (.int 0)) (rd 3) (cbM (one lenD) (conM (rd 4) (Dl.ret []))))))) fun k => if k = true then (retS (sh1 (Dl.ret (.non)))) else done) (then_ (andS (cmB eqD (opM ixD (rd 1) (Dl.ret (.int 0))) (Dl.ret (.str "told"))) fun k => if k = true then (retS (sh1 (opM ixD (rd 4) (rd 3)))) else done) (retS (ifM (cmB eqD (opM ixD (opM ixD (rd 4) (rd 3)) (Dl.ret (.int 1))) (rd 2)) (sh1 (tupM (conM (Dl.ret (.non)) (conM (opM ixD (opM ixD (rd 4) (rd 3)) (Dl.ret (.int 0))) (conM (opM ixD (opM ixD (rd 4) (rd 3)) (Dl.ret (.int 2))) (Dl.ret [])))))) (sh1 (Dl.ret (.non)))))))))
def m_law_source : Fm := runG 5 g_law_source
def g_law_link_ends : G := (then_ (andS (orM (notM (test (cbM (isiD ["Book"]) (conM (rd 1) (conM (Dl.ret (.ty "tuple")) (Dl.ret [])))))) (cmB neD (cbM (one lenD) (conM (rd 1) (Dl.ret []))) (Dl.ret (.int 3)))) fun k => if k = true then (retS (sh1 (tupM (Dl.ret [])))) else done) (then_ (par2S 2 3 (conM (shM (calM m_law_source [none, none, none] [] (conM (rd 0) (conM (opM ixD (rd 1) (Dl.ret (.int 0))) (conM (Dl.ret (.str "least")) (Dl.ret [])))))) (conM (shM (calM m_law_source [none, none, none] [] (conM (rd 0) (conM (opM ixD (rd 1) (Dl.ret (.int 2))) (conM (Dl.ret (.str "most")) (Dl.ret [])))))) (Dl.ret [])))) (then_ (andS (orM (cmB isND (rd 2) (Dl.ret (.non))) (cmB isND (rd 3) (Dl.ret (.non)))) fun k => if k = true then (retS (sh1 (tupM (Dl.ret [])))) else done) (then_ (setS 4 (sh1 (shM (calM m_law_way_sum [none, none, none, none] [] (conM (rd 0) (conM (opM ixD (rd 2) (Dl.ret (.int 1))) (conM (opM ixD (rd 3) (Dl.ret (.int 1))) (conM (opM ixD (rd 1) (Dl.ret (.int 1))) (Dl.ret []))))))))) (retS (ifM (andM (cmB notND (rd 4) (Dl.ret (.non))) (cmB gtD (opM addD (opM ixD (rd 2) (Dl.ret (.int 2))) (rd 4)) (opM ixD (rd 3) (Dl.ret (.int 2))))) (sh1 (tupM (conM (opM ixD (rd 2) (Dl.ret (.int 0))) (conM (opM ixD (rd 3) (Dl.ret (.int 0))) (Dl.ret []))))) (sh1 (tupM (Dl.ret [])))))))))
def m_law_link_ends : Fm := runG 5 g_law_link_ends
def g_law_other : G := (retS (sh1 (tupM (conM (opM ixD (rd 0) (Dl.ret (.int 0))) (conM (ifM (cmB eqD (opM ixD (rd 0) (Dl.ret (.int 1))) (Dl.ret (.str "early"))) (Dl.ret (.str "late")) (Dl.ret (.str "early"))) (Dl.ret []))))))
def m_law_other : Fm := runG 1 g_law_other
def g_law_follows : G := (then_ (andS (orM (notM (test (cbM (isiD ["Book"]) (conM (rd 1) (conM (Dl.ret (.ty "tuple")) (Dl.ret [])))))) (cmB neD (cbM (one lenD) (conM (rd 1) (Dl.ret []))) (Dl.ret (.int 2)))) fun k => if k = true then (retS (own1 (Dl.ret []))) else done) (then_ (andS (cmB eqD (opM ixD (rd 1) (Dl.ret (.int 0))) (Dl.ret (.str "clause"))) fun k => if k = true then (then_ (setS 2 (sh1 (opM ixD (rd 1) (Dl.ret (.int 1))))) (then_ (andS (orM (notM (test (cbM (isiD ["Book"]) (conM (rd 2) (conM (Dl.ret (.ty "int")) (Dl.ret [])))))) (orM (test (cbM (isiD ["Book"]) (conM (rd 2) (conM (Dl.ret (.ty "bool")) (Dl.ret []))))) (notM (chB leD ltD (Dl.ret (.int 0)) (rd 2) (cbM (one lenD) (conM (opM ixD (rd 0) (Dl.ret (.int 3))) (Dl.ret []))))))) fun k => if k = true then (retS (own1 (Dl.ret []))) else done) (then_ (par2S 3 4 (conM (slM (opM ixD (opM ixD (rd 0) (Dl.ret (.int 3))) (rd 2)) (Dl.ret none) (ixp (Dl.ret (.int 2)))) (conM (slM (opM ixD (opM ixD (rd 0) (Dl.ret (.int 3))) (rd 2)) (ixp (Dl.ret (.int 2))) (Dl.ret none)) (Dl.ret [])))) (retS (own1 (conM (tupM (conM (shM (calM m_law_other [none] [] (conM (rd 3) (Dl.ret [])))) (conM (rd 4) (Dl.ret [])))) (conM (tupM (conM (shM (calM m_law_other [none] [] (conM (rd 4) (Dl.ret [])))) (conM (rd 3) (Dl.ret [])))) (Dl.ret [])))))))) else done) (then_ (setS 5 (sh1 (ifM (cmB eqD (opM ixD (rd 1) (Dl.ret (.int 0))) (Dl.ret (.str "link"))) (shM (calM m_law_link_ends [none, none] [] (conM (rd 0) (conM (opM ixD (rd 1) (Dl.ret (.int 1))) (Dl.ret []))))) (tupM (Dl.ret []))))) (then_ (andS (orM (cmB eqD (rd 5) (tupM (Dl.ret []))) (cmB eqD (rd 5) (tupM (conM (Dl.ret (.non)) (conM (Dl.ret (.non)) (Dl.ret [])))))) fun k => if k = true then (retS (own1 (Dl.ret []))) else done) (then_ (andS (cmB isND (opM ixD (rd 5) (Dl.ret (.int 1))) (Dl.ret (.non))) fun k => if k = true then (retS (own1 (conM (tupM (conM (tupM (conM (opM ixD (rd 5) (Dl.ret (.int 0))) (conM (Dl.ret (.str "early")) (Dl.ret [])))) (conM (tupM (conM (opM ixD (rd 5) (Dl.ret (.int 0))) (conM (Dl.ret (.str "late")) (Dl.ret [])))) (Dl.ret [])))) (Dl.ret [])))) else done) (then_ (andS (cmB isND (opM ixD (rd 5) (Dl.ret (.int 0))) (Dl.ret (.non))) fun k => if k = true then (retS (own1 (conM (tupM (conM (tupM (conM (opM ixD (rd 5) (Dl.ret (.int 1))) (conM (Dl.ret (.str "late")) (Dl.ret [])))) (conM (tupM (conM (opM ixD (rd 5) (Dl.ret (.int 1))) (conM (Dl.ret (.str "early")) (Dl.ret [])))) (Dl.ret [])))) (Dl.ret [])))) else done) (retS (own1 (conM (tupM (conM (tupM (conM (opM ixD (rd 5) (Dl.ret (.int 0))) (conM (Dl.ret (.str "early")) (Dl.ret [])))) (conM (tupM (conM (opM ixD (rd 5) (Dl.ret (.int 1))) (conM (Dl.ret (.str "early")) (Dl.ret [])))) (Dl.ret [])))) (conM (tupM (conM (tupM (conM (opM ixD (rd 5) (Dl.ret (.int 1))) (conM (Dl.ret (.str "late")) (Dl.ret [])))) (conM (tupM (conM (opM ixD (rd 5) (Dl.ret (.int 0))) (conM (Dl.ret (.str "late")) (Dl.ret [])))) (Dl.ret [])))) (Dl.ret [])))))))))))
def m_law_follows : Fm := runG 6 g_law_follows
def g_law_is_reason : G := (then_ (andS (orM (notM (test (cbM (isiD ["Book"]) (conM (rd 1) (conM (Dl.ret (.ty "tuple")) (Dl.ret [])))))) (orM (cmB neD (cbM (one lenD) (conM (rd 1) (Dl.ret []))) (Dl.ret (.int 2))) (notM (test (cbM (isiD ["Book"]) (conM (opM ixD (rd 1) (Dl.ret (.int 1))) (conM (Dl.ret (.ty "tuple")) (Dl.ret [])))))))) fun k => if k = true then (retS (sh1 (Dl.ret (.bl false)))) else done) (then_ (andS (cmB eqD (opM ixD (rd 1) (Dl.ret (.int 0))) (Dl.ret (.str "gaps"))) fun k => if k = true then (then_ (setS 2 (compM (seqI (opM ixD (rd 0) (Dl.ret (.int 1)))) (putE 5) (Dl.ret true) (shM (calM m_law_way_sum [none, none, none, none] [] (conM (rd 0) (conM (opM ixD (rd 5) (Dl.ret (.int 0))) (conM (opM ixD (rd 5) (Dl.ret (.int 0))) (conM (opM ixD (rd 1) (Dl.ret (.int 1))) (Dl.ret []))))))) [5])) (frzS 2 (retS (sh1 (opM neD (shM (compM (seqI (rd 2)) (putE 6) (andM (cmB notND (rd 6) (Dl.ret (.non))) (cmB gtD (rd 6) (Dl.ret (.int 0)))) (rd 6) [6])) (lstM (Dl.ret []))))))) else done) (then_ (andS (cmB eqD (opM ixD (rd 1) (Dl.ret (.int 0))) (Dl.ret (.str "bounds"))) fun k => if k = true then (retS (sh1 (opM eqD (shM (calM m_law_link_ends [none, none] [] (conM (rd 0) (conM (opM ixD (rd 1) (Dl.ret (.int 1))) (Dl.ret []))))) (tupM (conM (Dl.ret (.non)) (conM (Dl.ret (.non)) (Dl.ret []))))))) else done) (then_ (setS 3 (sh1 (opM ixD (rd 1) (Dl.ret (.int 1))))) (then_ (andS (orM (cmB neD (opM ixD (rd 1) (Dl.ret (.int 0))) (Dl.ret (.str "kinds"))) (orM (cmB eqD (rd 3) (tupM (Dl.ret []))) (cmB neD (shM (compM (seqI (rd 3)) (putE 7) (orM (notM (test (cbM (isiD ["Book"]) (conM (rd 7) (conM (Dl.ret (.ty "tuple")) (Dl.ret [])))))) (cmB neD (cbM (one lenD) (conM (rd 7) (Dl.ret []))) (Dl.ret (.int 3)))) (rd 7) [7])) (lstM (Dl.ret []))))) fun k => if k = true then (retS (sh1 (Dl.ret (.bl false)))) else done) (then_ (andS (cmB neD (shM (compM (seqI (rd 3)) (putE 7) (cmB ninD (cbM reprD (conM (tupM (conM (opM ixD (rd 7) (Dl.ret (.int 0))) (conM (opM ixD (rd 7) (Dl.ret (.int 2))) (Dl.ret [])))) (Dl.ret []))) (shM (compM (seqI (shM (calM m_law_follows [none, none] [] (conM (rd 0) (conM (opM ixD (rd 7) (Dl.ret (.int 1))) (Dl.ret [])))))) (putE 8) (Dl.ret true) (cbM reprD (conM (rd 8) (Dl.ret []))) [8]))) (rd 7) [7])) (lstM (Dl.ret []))) fun k => if k = true then (retS (sh1 (Dl.ret (.bl false)))) else done) (then_ (andS (cmB neD (shM (compM (rg1 (conM (cbM (one lenD) (conM (rd 3) (Dl.ret []))) (Dl.ret []))) (putE 9) (cmB neD (opM ixD (opM ixD (rd 3) (opM subD (rd 9) (Dl.ret (.int 1)))) (Dl.ret (.int 2))) (opM ixD (opM ixD (rd 3) (rd 9)) (Dl.ret (.int 0)))) (rd 9) [9])) (lstM (Dl.ret []))) fun k => if k = true then (retS (sh1 (Dl.ret (.bl false)))) else done) (then_ (setS 4 (sh1 (shM (compM (seqI (rd 3)) (putE 7) (Dl.ret true) (opM ixD (rd 7) (Dl.ret (.int 0))) [7])))) (retS (sh1 (opM neD (shM (compM (seqI (rd 4)) (putE 10) (cmB inD (shM (calM m_law_other [none] [] (conM (rd 10) (Dl.ret [])))) (rd 4)) (rd 10) [10])) (lstM (Dl.ret [])))))))))))))
def m_law_is_reason : Fm := runG 11 g_law_is_reason
def g_law_moved_parts : G := (then_ (setS 3 (compM (seqI (opM ixD (rd 0) (Dl.ret (.int 0)))) (tgT 3 (tgC (putE 4) (tgC (putE 5) (tgC (putE 6) tgN)))) (Dl.ret true) (tupM (conM (rd 4) (conM (rd 5) (conM (opM subD (rd 6) (opM mulD (rd 2) (cbM intD (conM (opM inD (rd 4) (rd 1)) (Dl.ret []))))) (Dl.ret []))))) [4, 5, 6])) (frzS 3 (retS (own1 (conM (rd 3) (conM (opM ixD (rd 0) (Dl.ret (.int 1))) (conM (opM ixD (rd 0) (Dl.ret (.int 2))) (conM (opM ixD (rd 0) (Dl.ret (.int 3))) (Dl.ret [])))))))))
def m_law_moved_parts : Fm := runG 7 g_law_moved_parts
def g_law_are_holes : G := (then_ (asgS (tgT 4 (tgC (putE 2) (tgC (putE 3) (tgC (putE 4) (tgC (putE 5) tgN))))) (rd 0)) (then_ (andS (notM (test (shM (calM m_law_are_stretches [none] [] (conM (rd 1) (Dl.ret [])))))) fun k => if k = true then (retS (sh1 (Dl.ret (.bl false)))) else done) (then_ (forS (seqI (rd 1)) (tgT 3 (tgC (putE 6) (tgC (putE 7) (tgC (putE 8) tgN)))) (forS (seqI (tupM (conM (ifM (cmB isND (rd 6) (Dl.ret (.non))) (unM negD (opM powD (Dl.ret (.int 10)) (Dl.ret (.int 40)))) (rd 6)) (conM (ifM (cmB isND (rd 7) (Dl.ret (.non))) (opM powD (Dl.ret (.int 10)) (Dl.ret (.int 40))) (rd 7)) (Dl.ret []))))) (putE 9) (andS (notM (test (shM (calM m_law_is_reason [none, none, none] [] (conM (rd 3) (conM (shM (calM m_law_moved_parts [none, none, none] [] (conM (rd 4) (conM (rd 5) (conM (rd 9) (Dl.ret [])))))) (conM (rd 8) (Dl.ret [])))))))) fun k => if k = true then (retS (sh1 (Dl.ret (.bl false)))) else done))) (retS (sh1 (Dl.ret (.bl true)))))))
def m_law_are_holes : Fm := runG 10 g_law_are_holes
def g_law_bag : G := (retS (own1 (conM (Dl.ret (.int 0)) (conM (Dl.ret (.int 1234567891)) (conM (Dl.ret (.int 0)) (conM (shM (compM (seqI (slM (rd 0) (Dl.ret none) (ixp (Dl.ret (.int 63))))) (putE 1) (Dl.ret true) (cbM absD (conM (rd 1) (Dl.ret []))) [1])) (Dl.ret [])))))))
def m_law_bag : Fm := runG 2 g_law_bag
def g_law_take : G := (then_ (andS (lookB (cmB eqD (opM ixD (rd 0) (Dl.ret (.int 0))) (Dl.ret (.int 0)))) fun k => if k = true then (then_ (setS 2 (sh1 (Dl.ret (.int 0)))) (then_ (andS (lookB (cmB ltD (opM ixD (rd 0) (Dl.ret (.int 2))) (cbM (one lenD) (conM (opM ixD (rd 0) (Dl.ret (.int 3))) (Dl.ret []))))) fun k => if k = true then (setS 2 (sh1 (look (opM ixD (opM ixD (rd 0) (Dl.ret (.int 3))) (opM ixD (rd 0) (Dl.ret (.int 2))))))) else done) (then_ (augIxS 0 (ipD fun i j => i + j) (Dl.ret (.int 2)) (Dl.ret (.int 1))) (then_ (andS (cmB geD (rd 2) (Dl.ret (.int 1000000000000000000))) fun k => if k = true then (setIxS 0 (rd 2) (Dl.ret (.int 0))) else done) (then_ (setS 3 (sh1 (look (opM addD (opM addD (opM mulD (opM ixD (rd 0) (Dl.ret (.int 1))) (Dl.ret (.int 48271))) (opM modD (cbM intD (conM (rd 2) (Dl.ret []))) (Dl.ret (.int 2147483647)))) (opM mulD (Dl.ret (.int 7919)) (opM ixD (rd 0) (Dl.ret (.int 2)))))))) (setIxS 0 (opM modD (cbM intD (conM (rd 3) (Dl.ret []))) (Dl.ret (.int 2147483647))) (Dl.ret (.int 1)))))))) else done) (then_ (andS (lookB (cmB gtD (opM ixD (rd 0) (Dl.ret (.int 0))) (Dl.ret (.int 0)))) fun k => if k = true then (then_ (setS 4 (sh1 (look (opM modD (cbM intD (conM (opM ixD (rd 0) (Dl.ret (.int 0))) (Dl.ret []))) (rd 1))))) (then_ (setIxS 0 (look (opM divD (cbM intD (conM (opM ixD (rd 0) (Dl.ret (.int 0))) (Dl.ret []))) (rd 1))) (Dl.ret (.int 0))) (retS (sh1 (rd 4))))) else done) (then_ (setS 5 (sh1 (look (opM modD (cbM intD (conM (opM mulD (opM addD (opM ixD (rd 0) (Dl.ret (.int 1))) (Dl.ret (.int 1))) (Dl.ret (.int 39373))) (Dl.ret []))) (Dl.ret (.int 1000000007)))))) (then_ (setS 6 (sh1 (opM modD (cbM intD (conM (opM mulD (opM modD (cbM intD (conM (opM mulD (rd 5) (rd 5)) (Dl.ret []))) (Dl.ret (.int 998244353))) (Dl.ret (.int 30011))) (Dl.ret []))) (Dl.ret (.int 998244353))))) (retS (sh1 (opM modD (cbM intD (conM (opM divD (rd 6) (Dl.ret (.int 7))) (Dl.ret []))) (rd 1))))))))
def m_law_take : Fm := runG 7 g_law_take
def g_law_one : G := (retS (sh1 (opM ixD (rd 1) (shM (calM m_law_take [some 0, none] [] (ioM 0 (conM (cbM (one lenD) (conM (rd 1) (Dl.ret []))) (Dl.ret []))))))))
def m_law_one : Fm := runG 2 g_law_one
def g_law_number : G := (then_ (par2S 1 2 (conM (shM (calM m_law_take [some 0, none] [] (ioM 0 (conM (Dl.ret (.int 10)) (Dl.ret []))))) (conM (opM subD (shM (calM m_law_take [some 0, none] [] (ioM 0 (conM (Dl.ret (.int 12)) (Dl.ret []))))) (Dl.ret (.int 3))) (Dl.ret [])))) (then_ (andS (cmB ltD (rd 1) (Dl.ret (.int 8))) fun k => if k = true then (retS (sh1 (rd 2))) else done) (retS (ifM (cmB eqD (rd 1) (Dl.ret (.int 8))) (sh1 (opM addD (Dl.ret (.int 999999999900)) (rd 2))) (sh1 (opM subD (rd 2) (Dl.ret (.int 999999999900))))))))
def m_law_number : Fm := runG 3 g_law_number
def g_law_kind : G := (retS (sh1 (opM ixD (lstM (conM (Dl.ret (.str "early")) (conM (Dl.ret (.str "late")) (Dl.ret [])))) (shM (calM m_law_take [some 0, none] [] (ioM 0 (conM (Dl.ret (.int 2)) (Dl.ret []))))))))
def m_law_kind : Fm := runG 1 g_law_kind
def g_law_hand : G := (retS (ifM (cmB eqD (shM (calM m_law_take [some 0, none] [] (ioM 0 (conM (Dl.ret (.int 2)) (Dl.ret []))))) (Dl.ret (.int 0))) (sh1 (cbM tupleD (conM (rd 1) (Dl.ret [])))) (sh1 (cbM listD (conM (rd 1) (Dl.ret []))))))
def m_law_hand : Fm := runG 2 g_law_hand
def g_law_right : G := (then_ (par3S 4 5 6 (conM (shM (calM m_law_hand [some 0, none] [] (ioM 0 (conM (opM ixD (rd 2) (Dl.ret (.int 3))) (Dl.ret []))))) (conM (cbM reprD (conM (rd 3) (Dl.ret []))) (conM (shM (calM m_law_are_holes [none, none] [] (conM (rd 2) (conM (rd 3) (Dl.ret []))))) (Dl.ret []))))) (retS (sh1 (andV (opM eqD (cbM reprD (conM (shM (calM m_are_holes [none, none, none] [] (conM (rd 1) (conM (rd 4) (conM (rd 3) (Dl.ret [])))))) (Dl.ret []))) (cbM reprD (conM (rd 6) (Dl.ret [])))) (andV (opM eqD (cbM reprD (conM (rd 3) (Dl.ret []))) (rd 5)) (opM eqD (cbM listD (conM (rd 4) (Dl.ret []))) (opM ixD (rd 2) (Dl.ret (.int 3)))))))))
def m_law_right : Fm := runG 7 g_law_right
end Lb
namespace Lb
open PySem PySem.Spec PyProof.Rows L2 Dl
theorem take_eq : m_law_take = mTake := rfl
theorem truB (b : Bool) : truD (.bl b) = some b := rfl
theorem in2 (x a b : Str) : inD (.str x) (.tup [.str a, .str b]) = some (.bl (decide (x = a) || decide (x = b))) := by
  have e : eqV (.str a) (.str x) = decide (x = a) := by
    show (a == x) = _
    by_cases c : x = a
    · subst c; simp
    · rw [decide_eq_false c]; simpa using fun z : a = x => c z.symm
  have e2 : eqV (.str b) (.str x) = decide (x = b) := by
    show (b == x) = _
    by_cases c : x = b
    · subst c; simp
    · rw [decide_eq_false c]; simpa using fun z : b = x => c z.symm
  have e3 : inB (.str x) (.tup [.str a, .str b]) = some (inV (.str x) [.str a, .str b]) := rfl
  unfold inD
  rw [e3]
  show some (D.bl (([V.str a, V.str b]).any fun y => eqV y (.str x))) = _
  simp only [List.any_cons, List.any_nil, Bool.or_false, e, e2]
structure Sz where
  ev : Int
  wi : Int
def Big (x : Int) : Prop := -1000000000000000 ≤ x ∧ x ≤ 1000000000000000
inductive Tel (z : Sz) : D → Prop where
  | mk (w e x : Int) : 0 ≤ w → w < z.wi → 0 ≤ e → e < z.ev → Big x → Tel z (.tup [.int w, .int e, .int x])
inductive Gap (z : Sz) : D → Prop where
  | mk (a b g : Int) : 0 ≤ a → a < z.ev → 0 ≤ b → b < z.ev → a ≠ b → Big g → Gap z (.tup [.int a, .int b, .int g])
inductive Sur (z : Sz) : D → Prop where
  | mk (e : Int) (s : Str) (x : Int) : 0 ≤ e → e < z.ev → (s = "least" ∨ s = "most") → Big x → Sur z (.tup [.int e, .str s, .int x])
inductive Cla (z : Sz) : D → Prop where
  | mk (w : Int) (k : Str) (v : Int) (l : Str) : 0 ≤ w → w < z.wi → (k = "early" ∨ k = "late") → 0 ≤ v → v < z.wi → (l = "early" ∨ l = "late") → Cla z (.tup [.int w, .str k, .int v, .str l])
def Itm (z : Sz) : Nat → D → Prop
  | 0 => Tel z
  | 1 => Gap z
  | 2 => Sur z
  | _ => Cla z
inductive Part (z : Sz) (k : Nat) : D → List D → Prop where
  | l (ds : List D) : (∀ d ∈ ds, Itm z k d) → ds.length ≤ 24 → Part z k (.lst ds) ds
  | t (ds : List D) : (∀ d ∈ ds, Itm z k d) → ds.length ≤ 24 → Part z k (.tup ds) ds
theorem Part.seq {z : Sz} {k : Nat} {d : D} {ds : List D} (h : Part z k d ds) : seqOf d = some ds := by cases h <;> rfl
theorem Part.len {z : Sz} {k : Nat} {d : D} {ds : List D} (h : Part z k d ds) : one lenD [d] = some (.int ds.length) := by cases h <;> rfl
theorem Part.le {z : Sz} {k : Nat} {d : D} {ds : List D} (h : Part z k d ds) : ds.length ≤ 24 := by
  cases h with
  | l _ _ h => exact h
  | t _ _ h => exact h
theorem Part.tup {z : Sz} {k : Nat} {d : D} {ds : List D} (h : Part z k d ds) : tupleD [d] = some (.tup ds) := by cases h <;> rfl
def bookN : List Str := ["events", "witnesses", "tellings", "gaps", "sure", "clauses"]
def bookD (z : Sz) (a b c d : List D) : D := .ins "Book" bookN [.int z.ev, .int z.wi, .tup a, .tup b, .tup c, .tup d]
structure SzOk (z : Sz) : Prop where
  e0 : 0 ≤ z.ev
  e8 : z.ev ≤ 8
  w0 : 0 ≤ z.wi
  w8 : z.wi ≤ 8
def Bst (se : D) (z : Sz) (p0 p1 p2 p3 : D) (s7 s8 s9 s10 s11 : Option Ent) : Nv := [some (.o, se), some (.sh, .int z.ev), some (.sh, .int z.wi), some (.sh, p0), some (.sh, p1), some (.sh, p2), some (.sh, p3), s7, s8, s9, s10, s11]
end Lb
namespace Lb
open PySem PySem.Spec PyProof.Rows L2 Dl
theorem par2S_ap (i j : Nat) (f : M (List D)) (E : Nv) {d e : D} {E' : Nv} (h : f E = .ok [d, e] E') : par2S i j f E = .nx ((E'.set i (some (.sh, d))).set j (some (.sh, e))) := by
  unfold par2S
  rw [andS_ap, h]
  rfl
theorem number_ok {b : List D} (hb : BagOk b) : ∃ b' x O, m_law_number [(.l .sh, .lst b)] = .ok (.sh, .int x) (some (.l .sh, .lst b') :: O) ∧ BagOk b' ∧ -1000000000000 ≤ x ∧ x ≤ 1000000000000 := by
  obtain ⟨b1, v, O1, e1, hb1, v0, v1⟩ := take_ok (m := 10) hb (by decide) (by decide)
  obtain ⟨b2, w, O2, e2, hb2, w0, w1⟩ := take_ok (m := 12) hb1 (by decide) (by decide)
  have hp : par2S 1 2 (conM (shM (calM m_law_take [some 0, none] [] (ioM 0 (conM (Dl.ret (.int 10)) (Dl.ret []))))) (conM (opM subD (shM (calM m_law_take [some 0, none] [] (ioM 0 (conM (Dl.ret (.int 12)) (Dl.ret []))))) (Dl.ret (.int 3))) (Dl.ret []))) [some (.l .sh, .lst b), none, none] = .nx [some (.l .sh, .lst b2), some (.sh, .int v), some (.sh, .int (w - 3))] := by
    rw [par2S_ap 1 2 _ _ (d := .int v) (e := .int (w - 3)) (E' := [some (.l .sh, .lst b2), none, none]) (by rw [take_eq]; push_cast only [e1, e2])]
    rfl
  unfold m_law_number g_law_number
  by_cases c : v < 8
  · refine ⟨b2, w - 3, [some (.sh, .int v), some (.sh, .int (w - 3))], ?_, hb2, by omega, by omega⟩
    push_cast only [hp, c]
  · by_cases c2 : v = 8
    · refine ⟨b2, 999999999900 + (w - 3), [some (.sh, .int v), some (.sh, .int (w - 3))], ?_, hb2, by omega, by omega⟩
      subst c2
      push_cast only [hp, Int.lt_irrefl]
    · refine ⟨b2, w - 3 - 999999999900, [some (.sh, .int v), some (.sh, .int (w - 3))], ?_, hb2, by omega, by omega⟩
      push_cast only [hp, c, c2]
theorem kind_ok {b : List D} (hb : BagOk b) : ∃ b' k O, m_law_kind [(.l .sh, .lst b)] = .ok (.sh, .str k) (some (.l .sh, .lst b') :: O) ∧ BagOk b' ∧ (k = "early" ∨ k = "late") := by
  obtain ⟨b1, v, O1, e1, hb1, v0, v1⟩ := take_ok (m := 2) hb (by decide) (by decide)
  unfold m_law_kind g_law_kind
  rw [take_eq]
  have hv : v = 0 ∨ v = 1 := by omega
  rcases hv with rfl | rfl
  · exact ⟨b1, "early", [], (by push_cast only [e1]; rfl), hb1, .inl rfl⟩
  · exact ⟨b1, "late", [], (by push_cast only [e1]; rfl), hb1, .inr rfl⟩
def DTel (z : Sz) (d : D) : Prop := ∃ w e x : Int, d = .tup [.int w, .int e, .int x] ∧ 0 ≤ w ∧ w < z.wi ∧ 0 ≤ e ∧ e < z.ev ∧ -1000000000000 ≤ x ∧ x ≤ 1000000000000
def DGap (z : Sz) (d : D) : Prop := ∃ a b g : Int, d = .tup [.int a, .int b, .int g] ∧ 0 ≤ a ∧ a < z.ev ∧ 0 ≤ b ∧ b < z.ev ∧ a ≠ b ∧ -4 ≤ g ∧ g ≤ 4
def DSur (z : Sz) (d : D) : Prop := ∃ (e : Int) (s : Str) (x : Int), d = .tup [.int e, .str s, .int x] ∧ 0 ≤ e ∧ e < z.ev ∧ (s = "least" ∨ s = "most") ∧ -1000000000000 ≤ x ∧ x ≤ 1000000000000
theorem DTel.tel {z : Sz} {d : D} (h : DTel z d) : Tel z d := by
  obtain ⟨w, e, x, rfl, h1, h2, h3, h4, h5, h6⟩ := h
  exact .mk w e x h1 h2 h3 h4 ⟨by omega, by omega⟩
theorem DGap.gap {z : Sz} {d : D} (h : DGap z d) : Gap z d := by
  obtain ⟨a, b, g, rfl, h1, h2, h3, h4, h5, h6, h7⟩ := h
  exact .mk a b g h1 h2 h3 h4 h5 ⟨by omega, by omega⟩
theorem DSur.sur {z : Sz} {d : D} (h : DSur z d) : Sur z d := by
  obtain ⟨e, s, x, rfl, h1, h2, h3, h4, h5⟩ := h
  exact .mk e s x h1 h2 h3 ⟨by omega, by omega⟩
theorem rg_ok (n : Int) (h0 : -(2 ^ 62) ≤ n) (h1 : n < 2 ^ 62) : rng1Of [.int n] = some (rng 0 n.toNat) := by
  unfold rng1Of
  exact if_pos (inR_iff.mpr ⟨by omega, by omega⟩)
end Lb
namespace Lb
open PySem PySem.Spec PyProof.Rows L2 Dl
end Lb
namespace Lb
open PySem PySem.Spec PyProof.Rows L2 Dl
theorem eqS (x y : Str) : eqD (.str x) (.str y) = some (.bl (decide (x = y))) := by
  by_cases c : x = y
  · subst c; simp [eqD, eqB, flat, scal]
  · simp [eqD, eqB, flat, scal, c]
theorem neSS (x y : Str) : neD (.str x) (.str y) = some (.bl (!decide (x = y))) := by
  by_cases c : x = y
  · subst c; simp [neD, eqB, flat, scal]
  · simp [neD, eqB, flat, scal, c]
end Lb
namespace Lb
open PySem PySem.Spec PyProof.Rows L2 Dl
end Lb
namespace Lb
open PySem PySem.Spec PyProof.Rows L2 Dl
def Lay (d : D) : Prop := ∃ p, toP d = some p ∧ p.canLay0 = true ∧ p.depth ≤ 60
theorem lays : ∀ {xs : List D}, (∀ d ∈ xs, Lay d) → ∃ ps, toPs xs = some ps ∧ PyData.canLayAll0 ps = true ∧ PyData.depthAll ps ≤ 60 ∧ ps.length = xs.length
  | [], _ => ⟨[], by unfold toPs; rfl, by unfold PyData.canLayAll0; rfl, by unfold PyData.depthAll; omega, rfl⟩
  | x :: xs, h => by
    obtain ⟨p, e1, e2, e3⟩ := h x List.mem_cons_self
    obtain ⟨ps, f1, f2, f3, f4⟩ := lays (xs := xs) fun d m => h d (List.mem_cons_of_mem _ m)
    refine ⟨p :: ps, ?_, ?_, ?_, ?_⟩
    · unfold toPs; rw [e1, f1]
    · unfold PyData.canLayAll0; rw [e2, f2]; rfl
    · unfold PyData.depthAll; omega
    · rw [List.length_cons, List.length_cons, f4]
theorem neL {xs : List D} (h : ∀ d ∈ xs, Lay d) : neD (.lst xs) (.lst []) = some (.bl (!xs.isEmpty)) := by
  obtain ⟨ps, f1, f2, f3, f4⟩ := lays h
  have e1 : toP (.lst xs) = some (.list ps) := by unfold toP; rw [f1]; rfl
  have e2 : toP (.lst []) = some (.list []) := by unfold toP toPs; rfl
  have s1 : SeqAt.shaped (.list ps) = true := by
    unfold SeqAt.shaped
    simp only [PyData.canLay0, PyData.depth, f2, Bool.true_and]
    refine decide_eq_true ?_
    omega
  have s2 : SeqAt.shaped (.list []) = true := by
    unfold SeqAt.shaped
    simp [PyData.canLay0, PyData.depth, PyData.canLayAll0, PyData.depthAll]
  have e3 : PyData.eqv (.list ps) (.list []) = xs.isEmpty := by
    cases ps with
    | nil =>
      cases xs with
      | nil => simp [PyData.eqv, PyData.eqvAll]
      | cons x xs => cases f4
    | cons p ps =>
      cases xs with
      | nil => cases f4
      | cons x xs => simp [PyData.eqv, PyData.eqvAll]
  show (match flat (D.lst xs), flat (D.lst []) with
    | some v, some w => if scal v w = true then some (decide (v = w)) else deepEq (D.lst xs) (D.lst [])
    | _, _ => deepEq (D.lst xs) (D.lst [])).map (fun b => D.bl (!b)) = _
  show (deepEq (D.lst xs) (D.lst [])).map (fun b => D.bl (!b)) = _
  unfold deepEq
  rw [e1, e2]
  show (if SeqAt.shaped (.list ps) = true ∧ SeqAt.shaped (.list []) = true then some (PyData.eqv (.list ps) (.list [])) else none).map (fun b => D.bl (!b)) = _
  rw [if_pos ⟨s1, s2⟩, e3]
  rfl
theorem strOk_side {s : Str} (h : s = "least" ∨ s = "most") : PyData.strOk s = true := by
  rcases h with rfl | rfl <;> decide +kernel
theorem strOk_kind {s : Str} (h : s = "early" ∨ s = "late") : PyData.strOk s = true := by
  rcases h with rfl | rfl <;> decide +kernel
theorem Itm.lay {z : Sz} {k : Nat} {d : D} (hk : k < 4) (h : Itm z k d) : Lay d := by
  match k, hk, h with
  | 0, _, h =>
    cases h with
    | mk w e x => exact ⟨.tuple [.int w, .int e, .int x], by simp [toP, toPs], by simp [PyData.canLay0, PyData.canLayAll0], by simp [PyData.depth, PyData.depthAll]⟩
  | 1, _, h =>
    cases h with
    | mk w e x => exact ⟨.tuple [.int w, .int e, .int x], by simp [toP, toPs], by simp [PyData.canLay0, PyData.canLayAll0], by simp [PyData.depth, PyData.depthAll]⟩
  | 2, _, h =>
    cases h with
    | mk e s x h1 h2 h3 => exact ⟨.tuple [.int e, .str s, .int x], by simp [toP, toPs], by simp [PyData.canLay0, PyData.canLayAll0, strOk_side h3], by simp [PyData.depth, PyData.depthAll]⟩
  | 3, _, h =>
    cases h with
    | mk w k v l h1 h2 h3 h4 h5 h6 => exact ⟨.tuple [.int w, .str k, .int v, .str l], by simp [toP, toPs], by simp [PyData.canLay0, PyData.canLayAll0, strOk_kind h3, strOk_kind h6], by simp [PyData.depth, PyData.depthAll]⟩
end Lb
namespace Lb
open PySem PySem.Spec PyProof.Rows L2 Dl
end Lb
namespace Lb
open PySem PySem.Spec PyProof.Rows L2 Dl
theorem asgS_ap (h : D → Nv → Option Nv) (f : M D) (E : Nv) : asgS h f E = anR (f E) fun d E => match h d E with
  | some E' => .nx E'
  | none => .stk := by unfold asgS; exact andS_ap _ _ _
end Lb
namespace Lb
open PySem PySem.Spec PyProof.Rows L2 Dl
def Fit (k N : Nat) (d : D) : Prop := ∃ p, toP d = some p ∧ p.showable = true ∧ p.hasDict = false ∧ p.canLay0 = true ∧ p.leavesShort 1921 = true ∧ p.depth ≤ k ∧ p.bulk ≤ N
theorem Fit.up {k N k' N' : Nat} {d : D} (h : Fit k N d) (a : k ≤ k') (b : N ≤ N') : Fit k' N' d := by
  obtain ⟨p, h1, h2, h3, h4, h5, h6, h7⟩ := h
  exact ⟨p, h1, h2, h3, h4, h5, Nat.le_trans h6 a, Nat.le_trans h7 b⟩
theorem Fit.lay {k N : Nat} {d : D} (h : Fit k N d) (a : k ≤ 60) : Lay d := by
  obtain ⟨p, h1, h2, h3, h4, h5, h6, h7⟩ := h
  exact ⟨p, h1, h4, Nat.le_trans h6 a⟩
theorem fit_int {i : Int} (h : i.natAbs < 2 ^ 200) : Fit 0 0 (.int i) := by
  have l : i.natAbs.log2 < 1920 := by
    by_cases z : i.natAbs = 0
    · rw [z]; decide
    · exact Nat.lt_of_lt_of_le ((Nat.log2_lt z).mpr h) (by decide)
  refine ⟨.int i, by simp [toP], by simp only [PyData.showable]; exact decide_eq_true l, by simp [PyData.hasDict], by simp [PyData.canLay0], ?_, by simp [PyData.depth], by simp [PyData.bulk]⟩
  simp only [PyData.leavesShort, PyData.shown]
  exact decide_eq_true (int_text_len_1921 l)
theorem fit_str {x : Str} {n : Nat} (h : PyData.strOk x = true) (l : PyData.leavesShort 1921 (.str x) = true) (z : x.cps.size ≤ n) : Fit 0 n (.str x) := by
  refine ⟨.str x, by simp [toP], by simp [PyData.showable], by simp [PyData.hasDict], by simp only [PyData.canLay0]; exact h, l, by simp [PyData.depth], ?_⟩
  simp only [PyData.bulk]
  exact z
theorem fits {k N : Nat} : ∀ {xs : List D}, (∀ d ∈ xs, Fit k N d) → ∃ ps, toPs xs = some ps ∧ PyData.showableAll ps = true ∧ PyData.hasDictAll ps = false ∧ PyData.canLayAll0 ps = true ∧ PyData.leavesShortAll 1921 ps = true ∧ PyData.depthAll ps ≤ k ∧ PyData.bulkAll ps ≤ xs.length * (N + 1)
  | [], _ => ⟨[], by unfold toPs; rfl, by unfold PyData.showableAll; rfl, by unfold PyData.hasDictAll; rfl, by unfold PyData.canLayAll0; rfl, by unfold PyData.leavesShortAll; rfl, by unfold PyData.depthAll; omega, by unfold PyData.bulkAll; omega⟩
  | x :: xs, h => by
    obtain ⟨p, e1, e2, e3, e4, e5, e6, e7⟩ := h x List.mem_cons_self
    obtain ⟨ps, f1, f2, f3, f4, f5, f6, f7⟩ := fits (xs := xs) fun d m => h d (List.mem_cons_of_mem _ m)
    refine ⟨p :: ps, ?_, ?_, ?_, ?_, ?_, ?_, ?_⟩
    · unfold toPs; rw [e1, f1]
    · unfold PyData.showableAll; rw [e2, f2]; rfl
    · unfold PyData.hasDictAll; rw [e3, f3]; rfl
    · unfold PyData.canLayAll0; rw [e4, f4]; rfl
    · unfold PyData.leavesShortAll; rw [e5, f5]; rfl
    · unfold PyData.depthAll; omega
    · unfold PyData.bulkAll
      rw [List.length_cons, Nat.add_mul, Nat.one_mul]
      omega
theorem repr_fit {k N : Nat} {d : D} (h : Fit k N d) (a : k ≤ 40) (b : N ≤ 2000) : ∃ s, reprD [d] = some (.str s) := by
  obtain ⟨p, h1, h2, h3, h4, h5, h6, h7⟩ := h
  have l := PyData.shown_le_bulk 1921 (by decide) p h5
  have l2 : p.shown.length ≤ sizeLine := by
    have : 1923 * 2000 + 1921 ≤ sizeLine := by decide
    omega
  refine ⟨p.shown, ?_⟩
  have e : reprP d = some (.str p.shown) := by
    unfold reprP
    rw [h1]
    exact if_pos ⟨h2, h3, l2, Nat.le_trans h6 a⟩
  unfold reprD
  split
  · rename_i q
    cases q
    cases h1
  · show (match reprP d with
      | some z => some z
      | none => reprQ d) = _
    rw [e]
end Lb
namespace Lb
open PySem PySem.Spec PyProof.Rows L2 Dl
theorem comp_bag {asg : D → Nv → Option Nv} {cond : M Bool} {elt : M D} {vs : List Nat} {I : Nv → Prop} {p : D → Prop} : ∀ {ds acc : List D} {E : Nv}, I (wpe E vs) → (∀ d ∈ ds, ∀ E, I E → ∃ E1 E2 y, asg d E = some E1 ∧ cond E1 = .ok true E1 ∧ elt E1 = .ok y E2 ∧ I (wpe E2 vs) ∧ p y) → acc.length + ds.length ≤ sizeLine →
    ∃ ys E', compL asg cond elt vs ds acc E = .ok (acc ++ ys) E' ∧ I E' ∧ ys.length = ds.length ∧ ∀ y ∈ ys, p y
  | [], acc, E, i, _, _ => ⟨[], wpe E vs, by rw [List.append_nil]; rfl, i, rfl, fun _ m => nomatch m⟩
  | d :: ds, acc, E, i, h, z => by
    obtain ⟨E1, E2, y, h1, h2, h3, h4, h5⟩ := h d List.mem_cons_self _ i
    rw [List.length_cons] at z
    obtain ⟨ys, E', e, i', l, q⟩ := comp_bag (ds := ds) (acc := acc ++ [y]) h4 (fun d' m => h d' (List.mem_cons_of_mem _ m)) (by rw [List.length_append, List.length_singleton]; omega)
    refine ⟨y :: ys, E', ?_, i', by rw [List.length_cons, List.length_cons, l], fun x m => ?_⟩
    · show (match asg d (wpe E vs) with
        | none => Rs.stk
        | some E1 => match cond E1 with
          | .ok true E2 => (match elt E2 with
            | .ok y E3 => if acc.length < sizeLine then compL asg cond elt vs ds (acc ++ [y]) E3 else .stk
            | _ => .stk)
          | .ok false E2 => compL asg cond elt vs ds acc E2
          | _ => Rs.stk) = _
      rw [h1]
      simp only [h2, h3]
      rw [if_pos (by omega), e, List.append_assoc]
      rfl
    · rcases List.mem_cons.mp m with rfl | m
      · exact h5
      · exact q x m
end Lb
namespace Gk
open PySem PySem.Spec PyProof.Rows L2 Dl Lb
variable [Tbs]
theorem pcl {X : Cx} {ios : Ios} {Wx : WX} {e : Expr} {es : List Expr} {fs : M (List D)} {pos p : Pos} {k n : Nat} {f : Addr} {fd : FuncData} {ps : List Str} {x : Str} {ios' : List Nat} {m : Fm} {md : Md} (F : FnG X.prog X.w X.K X.mg X.base k f fd ps (spD X.K n ios' m)) (hm : X.mg x = some (.ref f)) (hk : PySem.W.keepIn X.K (.ref f) = true) (hb : Binds X.K fd ps []) (ha : PLm X ios Wx md (e :: es) fs) (hr : Room k X.A := by exact Room.mono (by assumption) (by decide)) (hgd : X.A.guards = some [] := by assumption) (hg : Gl X x := by exact rfl) (tk : Takes X Wx := by exact takes_of rfl rfl rfl rfl) (ok : mdOk ios' 0 (md ++ ([] : List D).map fun _ => none) = true := by rfl) (hn : (md ++ ([] : List D).map fun _ => none).length = n := by rfl) (hdb : (x == ("__debug__" : Str)) = false := by decide) (he : starEach (e :: es) X.env = (false, eval e X.env) :: starEach es X.env := by rfl) (hpl : (backTo pos (starEach es X.env)).any (·.1) = false := by rfl) : Dl.PO X ios Wx (.Call (.Name x p) (e :: es) [] pos) (bnd fs fun ds => callM m (md ++ ([] : List D).map fun _ => none) (ds ++ [])) := po_call F hr hgd hg hm hk hb .nil (fun _ => .nil) tk ha ok hn hdb he hpl
local macro_rules | `(tactic| trivial) => `(tactic| first | exact Or.inl rfl | exact Or.inr rfl | exact ⟨rfl, rfl, rfl, by decide +kernel, rfl, by decide +kernel, by decide +kernel⟩ | (intro _ _ _ _ _ _ us hl; first | exact (match us, hl with | [_], _ => rfl) | exact (match us, hl with | [_, _], _ => rfl) | exact (match us, hl with | [_, _, _], _ => rfl) | exact (match us, hl with | [_, _, _, _], _ => rfl) | exact (match us, hl with | [_, _, _, _, _], _ => rfl) | exact (match us, hl with | [_, _, _, _, _, _], _ => rfl)))
theorem ok_law_bag {P : Program} {w : World} {base : Heap} {K : KF} {mg : Str → Option Value} (o : Md3 fa fn ex K mg) (tb : TbOk K mg base tfs) : ∃ fd, FnG P w K mg base 1 (He.fAd K ("_law_bag", none)) fd ["_law_script"] (spD K 1 [] m_law_bag) ∧ PySem.W.keepIn K (.ref (He.fAd K ("_law_bag", none))) = true ∧ Binds K fd ["_law_script"] [] := by
  obtain ⟨fd, F⟩ := o.sd.def_ 0 rfl
  have sc : FnScope ["_law_script", "_law_cell"] ["_law_script"] (defScope (top 11)) := by trivial
  refine ⟨fd, fn_d F sc rfl fun cdv A outer s H E hr hgd => ?_, F.kp, F.bindsN (by trivial)⟩
  have hu := hr.units
  have hu2 := room65 hr
  exact (pd_one (pd_ret (po_lst (pl_cons pp_int (pl_cons pp_int (pl_cons pp_int (pl_cons (pp_of (po_lc (own := [("_law_cell", 1)]) rfl sc.nd (it_seq (pp_slice (pp_var 0) part_none (part_some pp_int))) (blkOk_by (N := ["_law_script", "_law_cell"]) (sc := defScope (top 11)) (by decide +kernel)) (by decide) (fun _ => (tw_name sc.nd rfl (by first | exact Or.inl rfl | exact Or.inr rfl) rfl (by decide))) (fun _ => pcs_nil) (fun _ => (pp_callB call_abs cd_abs rfl (o.free 0) rfl (pl_cons (pp_var 1) pl_nil))))) pl_nil)))))))
theorem ok_law_take {P : Program} {w : World} {base : Heap} {K : KF} {mg : Str → Option Value} (o : Md3 fa fn ex K mg) (tb : TbOk K mg base tfs) : ∃ fd, FnG P w K mg base 1 (He.fAd K ("_law_take", none)) fd ["_law_bag_here", "_law_many"] (spD K 2 [0] m_law_take) ∧ PySem.W.keepIn K (.ref (He.fAd K ("_law_take", none))) = true ∧ Binds K fd ["_law_bag_here", "_law_many"] [] := by
  obtain ⟨fd, F⟩ := o.sd.def_ 1 rfl
  have sc : FnScope ["_law_bag_here", "_law_many", "_law_cell", "_law_mixed", "_law_drawn_here", "_law_early", "_law_second"] ["_law_bag_here", "_law_many"] (defScope (top 12)) := by trivial
  refine ⟨fd, fn_d F sc rfl fun cdv A outer s H E hr hgd => ?_, F.kp, F.bindsN (by trivial)⟩
  have hu := hr.units
  have hu2 := room65 hr
  exact (pd_cons (pd_if (pb_look (pb_cmp (op_eqA hu) opd_eq (pp_ix (pp_var 0) pp_int) pp_int rfl)) (pd_cons (pd_set sc.nd rfl (by first | exact Or.inl rfl | exact Or.inr rfl) rfl (po_sh pp_int)) (pd_cons (pd_if (pb_look (pb_cmp op_lt (opd_cmp _) (pp_ix (pp_var 0) pp_int) (pp_callB call_len cd_len rfl (o.free 1) rfl (pl_cons (pp_ix (pp_var 0) pp_int) pl_nil)) rfl)) (pd_one (pd_set sc.nd rfl (by first | exact Or.inl rfl | exact Or.inr rfl) rfl (po_sh (pp_look (pp_ix (pp_ix (pp_var 0) pp_int) (pp_ix (pp_var 0) pp_int)))))) pd_nil) (pd_cons (pd_augix 0 rfl ip_add (opd_ip _) pp_int pp_int) (pd_cons (pd_if (pb_cmp op_ge (opd_cmp _) (pp_var 2) pp_int rfl) (pd_one (pd_setix 0 rfl (pp_var 2) pp_int)) pd_nil) (pd_cons (pd_set sc.nd rfl (by first | exact Or.inl rfl | exact Or.inr rfl) rfl (po_sh (pp_look (pp_op op_addA opd_add (pp_op op_addA opd_add (pp_op op_mulA opd_mul (pp_ix (pp_var 0) pp_int) pp_int) (pp_op op_mod opd_mod (pp_callT call_int1 cd_int rfl (o.free 2) rfl (pl_cons (pp_var 2) pl_nil)) pp_int)) (pp_op op_mulA opd_mul pp_int (pp_ix (pp_var 0) pp_int)))))) (pd_one (pd_setix 0 rfl (pp_op op_mod opd_mod (pp_callT call_int1 cd_int rfl (o.free 2) rfl (pl_cons (pp_var 3) pl_nil)) pp_int) pp_int))))))) pd_nil) (pd_cons (pd_if (pb_look (pb_cmp op_gt (opd_cmp _) (pp_ix (pp_var 0) pp_int) pp_int rfl)) (pd_cons (pd_set sc.nd rfl (by first | exact Or.inl rfl | exact Or.inr rfl) rfl (po_sh (pp_look (pp_op op_mod opd_mod (pp_callT call_int1 cd_int rfl (o.free 2) rfl (pl_cons (pp_ix (pp_var 0) pp_int) pl_nil)) (pp_var 1))))) (pd_cons (pd_setix 0 rfl (pp_look (pp_op op_fdivW opd_div (pp_callT call_int1 cd_int rfl (o.free 2) rfl (pl_cons (pp_ix (pp_var 0) pp_int) pl_nil)) (pp_var 1))) pp_int) (pd_one (pd_ret (po_sh (pp_var 4)))))) pd_nil) (pd_cons (pd_set sc.nd rfl (by first | exact Or.inl rfl | exact Or.inr rfl) rfl (po_sh (pp_look (pp_op op_mod opd_mod (pp_callT call_int1 cd_int rfl (o.free 2) rfl (pl_cons (pp_op op_mulA opd_mul (pp_op op_addA opd_add (pp_ix (pp_var 0) pp_int) pp_int) pp_int) pl_nil)) pp_int)))) (pd_cons (pd_set sc.nd rfl (by first | exact Or.inl rfl | exact Or.inr rfl) rfl (po_sh (pp_op op_mod opd_mod (pp_callT call_int1 cd_int rfl (o.free 2) rfl (pl_cons (pp_op op_mulA opd_mul (pp_op op_mod opd_mod (pp_callT call_int1 cd_int rfl (o.free 2) rfl (pl_cons (pp_op op_mulA opd_mul (pp_var 5) (pp_var 5)) pl_nil)) pp_int) pp_int) pl_nil)) pp_int))) (pd_one (pd_ret (po_sh (pp_op op_mod opd_mod (pp_callT call_int1 cd_int rfl (o.free 2) rfl (pl_cons (pp_op op_fdivW opd_div (pp_var 6) pp_int) pl_nil)) (pp_var 1)))))))))
theorem ok_law_number {P : Program} {w : World} {base : Heap} {K : KF} {mg : Str → Option Value} (o : Md3 fa fn ex K mg) (tb : TbOk K mg base tfs) : ∃ fd, FnG P w K mg base 2 (He.fAd K ("_law_number", none)) fd ["_law_bag_here"] (spD K 1 [0] m_law_number) ∧ PySem.W.keepIn K (.ref (He.fAd K ("_law_number", none))) = true ∧ Binds K fd ["_law_bag_here"] [] := by
  obtain ⟨fd, F⟩ := o.sd.def_ 2 rfl
  obtain ⟨fd_law_take, F_law_take, kp_law_take, bd_law_take⟩ := ok_law_take (P := P) (w := w) (base := base) o tb
  have sc : FnScope ["_law_bag_here", "_law_mode", "_law_small"] ["_law_bag_here"] (defScope (top 14)) := by trivial
  refine ⟨fd, fn_d F sc rfl fun cdv A outer s H E hr hgd => ?_, F.kp, F.bindsN (by trivial)⟩
  have hu := hr.units
  have hu2 := room65 hr
  exact (pd_cons (pd_par rfl sc.nd rfl rfl (by decide) rfl rfl rfl rfl (pl_cons (pp_of (pcl F_law_take (o.glo 3) kp_law_take bd_law_take (plm_io 0 (plm_sh pp_int plm_nil)))) (pl_cons (pp_op op_sub opd_sub (pp_of (pcl F_law_take (o.glo 3) kp_law_take bd_law_take (plm_io 0 (plm_sh pp_int plm_nil)))) pp_int) pl_nil)) rfl) (pd_cons (pd_if (pb_cmp op_lt (opd_cmp _) (pp_var 1) pp_int rfl) (pd_one (pd_ret (po_sh (pp_var 2)))) pd_nil) (pd_one (pd_ret (po_if (pb_cmp (op_eqA hu) opd_eq (pp_var 1) pp_int rfl) (po_sh (pp_op op_addA opd_add pp_int (pp_var 2))) (po_sh (pp_op op_sub opd_sub (pp_var 2) pp_int)))))))
theorem ok_law_one {P : Program} {w : World} {base : Heap} {K : KF} {mg : Str → Option Value} (o : Md3 fa fn ex K mg) (tb : TbOk K mg base tfs) : ∃ fd, FnG P w K mg base 2 (He.fAd K ("_law_one", none)) fd ["_law_bag_here", "_law_menu"] (spD K 2 [0] m_law_one) ∧ PySem.W.keepIn K (.ref (He.fAd K ("_law_one", none))) = true ∧ Binds K fd ["_law_bag_here", "_law_menu"] [] := by
  obtain ⟨fd, F⟩ := o.sd.def_ 3 rfl
  obtain ⟨fd_law_take, F_law_take, kp_law_take, bd_law_take⟩ := ok_law_take (P := P) (w := w) (base := base) o tb
  have sc : FnScope ["_law_bag_here", "_law_menu"] ["_law_bag_here", "_law_menu"] (defScope (top 13)) := by trivial
  refine ⟨fd, fn_d F sc rfl fun cdv A outer s H E hr hgd => ?_, F.kp, F.bindsN (by trivial)⟩
  have hu := hr.units
  have hu2 := room65 hr
  exact (pd_one (pd_ret (po_sh (pp_ix (pp_var 1) (pp_of (pcl F_law_take (o.glo 3) kp_law_take bd_law_take (plm_io 0 (plm_sh (pp_callB call_len cd_len rfl (o.free 1) rfl (pl_cons (pp_var 1) pl_nil)) plm_nil))))))))
def g_law_any : G := (retS (calM m_law_one [some 0, none] [] (ioM 0 (conM (lstM (conM (shM (calM m_law_number [some 0] [] (ioM 0 (ret [])))) (conM (shM (calM m_law_number [some 0] [] (ioM 0 (ret [])))) (conM (opM powD (ret (.int 10)) (ret (.int 30))) (conM (unM negD (opM powD (ret (.int 10)) (ret (.int 30)))) (ret [])))))) (ret [])))))
def m_law_any : Fm := runG 1 g_law_any
theorem ok_law_any {P : Program} {w : World} {base : Heap} {K : KF} {mg : Str → Option Value} (o : Md3 fa fn ex K mg) (tb : TbOk K mg base tfs) : ∃ fd, FnG P w K mg base 3 (He.fAd K ("_law_any", none)) fd ["_law_bag_here"] (spD K 1 [0] m_law_any) ∧ PySem.W.keepIn K (.ref (He.fAd K ("_law_any", none))) = true ∧ Binds K fd ["_law_bag_here"] [] := by
  obtain ⟨fd, F⟩ := o.sd.def_ 4 rfl
  obtain ⟨fd_law_number, F_law_number, kp_law_number, bd_law_number⟩ := ok_law_number (P := P) (w := w) (base := base) o tb
  obtain ⟨fd_law_one, F_law_one, kp_law_one, bd_law_one⟩ := ok_law_one (P := P) (w := w) (base := base) o tb
  have sc : FnScope ["_law_bag_here"] ["_law_bag_here"] (defScope (top 17)) := by trivial
  refine ⟨fd, fn_d F sc rfl fun cdv A outer s H E hr hgd => ?_, F.kp, F.bindsN (by trivial)⟩
  have hu := hr.units
  have hu2 := room65 hr
  exact (pd_one (pd_ret (pcl F_law_one (o.glo 5) kp_law_one bd_law_one (plm_io 0 (plm_sh (pp_lst (pl_cons (pp_of (pcl F_law_number (o.glo 4) kp_law_number bd_law_number (plm_io 0 plm_nil))) (pl_cons (pp_of (pcl F_law_number (o.glo 4) kp_law_number bd_law_number (plm_io 0 plm_nil))) (pl_cons (pp_op op_pow opd_pow pp_int pp_int) (pl_cons (pp_un un_neg und_neg (pp_op op_pow opd_pow pp_int pp_int)) pl_nil))))) plm_nil)))))
theorem ok_law_kind {P : Program} {w : World} {base : Heap} {K : KF} {mg : Str → Option Value} (o : Md3 fa fn ex K mg) (tb : TbOk K mg base tfs) : ∃ fd, FnG P w K mg base 2 (He.fAd K ("_law_kind", none)) fd ["_law_bag_here"] (spD K 1 [0] m_law_kind) ∧ PySem.W.keepIn K (.ref (He.fAd K ("_law_kind", none))) = true ∧ Binds K fd ["_law_bag_here"] [] := by
  obtain ⟨fd, F⟩ := o.sd.def_ 5 rfl
  obtain ⟨fd_law_take, F_law_take, kp_law_take, bd_law_take⟩ := ok_law_take (P := P) (w := w) (base := base) o tb
  have sc : FnScope ["_law_bag_here"] ["_law_bag_here"] (defScope (top 15)) := by trivial
  refine ⟨fd, fn_d F sc rfl fun cdv A outer s H E hr hgd => ?_, F.kp, F.bindsN (by trivial)⟩
  have hu := hr.units
  have hu2 := room65 hr
  exact (pd_one (pd_ret (po_sh (pp_ix (pp_lst (pl_cons pp_str (pl_cons pp_str pl_nil))) (pp_of (pcl F_law_take (o.glo 3) kp_law_take bd_law_take (plm_io 0 (plm_sh pp_int plm_nil))))))))
def c1_law_drawn : M Ent := (compM (rg1 (conM (rd 1) (ret []))) (putE 3) (ret true) (shM (calM m_law_kind [some 0] [] (ioM 0 (ret [])))) [3])
def c0_law_drawn : M Ent := (compM (rg1 (conM (rd 2) (ret []))) (putE 4) (ret true) (shM (calM m_law_any [some 0] [] (ioM 0 (ret [])))) [4])
def g_law_drawn : G := (retS (sh1 (tupM (conM (cbM tupleD (conM (shM c1_law_drawn) (ret []))) (conM (cbM tupleD (conM (shM c0_law_drawn) (ret []))) (ret []))))))
def m_law_drawn : Fm := runG 5 g_law_drawn

theorem ok_law_drawn {P : Program} {w : World} {base : Heap} {K : KF} {mg : Str → Option Value} (o : Md3 fa fn ex K mg) (tb : TbOk K mg base tfs) : ∃ fd, FnG P w K mg base 4 (He.fAd K ("_law_drawn", none)) fd ["_law_bag_here", "_law_witnesses", "_law_events"] (spD K 3 [0] m_law_drawn) ∧ PySem.W.keepIn K (.ref (He.fAd K ("_law_drawn", none))) = true ∧ Binds K fd ["_law_bag_here", "_law_witnesses", "_law_events"] [] := by
  obtain ⟨fd, F⟩ := o.sd.def_ 6 rfl
  obtain ⟨fd_law_any, F_law_any, kp_law_any, bd_law_any⟩ := ok_law_any (P := P) (w := w) (base := base) o tb
  obtain ⟨fd_law_kind, F_law_kind, kp_law_kind, bd_law_kind⟩ := ok_law_kind (P := P) (w := w) (base := base) o tb
  have sc : FnScope ["_law_bag_here", "_law_witnesses", "_law_events", "_law_w", "_law_e"] ["_law_bag_here", "_law_witnesses", "_law_events"] (defScope (top 18)) := by trivial
  refine ⟨fd, fn_d F sc rfl fun cdv A outer s H E hr hgd => ?_, F.kp, F.bindsN (by trivial)⟩
  have hu := hr.units
  have hu2 := room65 hr
  exact (pd_one (pd_ret (po_sh (pp_tup (pl_cons (pp_callT call_tuple_of cd_tuple rfl (o.free 8) rfl (pl_cons (pp_of (po_lc (own := [("_law_w", 3)]) rfl sc.nd (it_range1 rfl (o.free 6) (pl_cons (pp_var 1) pl_nil)) (blkOk_by (N := ["_law_bag_here", "_law_witnesses", "_law_events", "_law_w", "_law_e"]) (sc := defScope (top 18)) (by decide +kernel)) (by decide) (fun _ => (tw_name sc.nd rfl (by first | exact Or.inl rfl | exact Or.inr rfl) rfl (by decide))) (fun _ => pcs_nil) (fun _ => (pp_of (po_call F_law_kind (hr.mono (by decide)) hgd rfl (o.glo 9) kp_law_kind bd_law_kind .nil (fun _ => .nil) takes0 (plm_io 0 plm_nil)))))) pl_nil)) (pl_cons (pp_callT call_tuple_of cd_tuple rfl (o.free 8) rfl (pl_cons (pp_of (po_lc (own := [("_law_e", 4)]) rfl sc.nd (it_range1 rfl (o.free 6) (pl_cons (pp_var 2) pl_nil)) (blkOk_by (N := ["_law_bag_here", "_law_witnesses", "_law_events", "_law_w", "_law_e"]) (sc := defScope (top 18)) (by decide +kernel)) (by decide) (fun _ => (tw_name sc.nd rfl (by first | exact Or.inl rfl | exact Or.inr rfl) rfl (by decide))) (fun _ => pcs_nil) (fun _ => (pp_of (po_call F_law_any (hr.mono (by decide)) hgd rfl (o.glo 7) kp_law_any bd_law_any .nil (fun _ => .nil) takes0 (plm_io 0 plm_nil)))))) pl_nil)) pl_nil))))))
theorem ok_law_alike {P : Program} {w : World} {base : Heap} {K : KF} {mg : Str → Option Value} (o : Md3 fa fn ex K mg) (tb : TbOk K mg base tfs) : ∃ fd, FnG P w K mg base 1 (He.fAd K ("_law_alike", none)) fd ["_law_found", "_law_due"] (spD K 2 [] m_law_alike) ∧ PySem.W.keepIn K (.ref (He.fAd K ("_law_alike", none))) = true ∧ Binds K fd ["_law_found", "_law_due"] [] := by
  obtain ⟨fd, F⟩ := o.sd.def_ 7 rfl
  have sc : FnScope ["_law_found", "_law_due"] ["_law_found", "_law_due"] (defScope (top 16)) := by trivial
  refine ⟨fd, fn_d F sc rfl fun cdv A outer s H E hr hgd => ?_, F.kp, F.bindsN (by trivial)⟩
  have hu := hr.units
  have hu2 := room65 hr
  exact (pd_one (pd_ret (po_sh (pp_and (pp_cmp (op_eqA hu) opd_eq (pp_var 0) (pp_var 1) rfl) (pp_one (pp_cmp (op_eqA hu) opd_eq (pp_callB (call_reprA hgd hu2) cd_repr rfl (o.free 10) rfl (pl_cons (pp_var 0) pl_nil)) (pp_callB (call_reprA hgd hu2) cd_repr rfl (o.free 10) rfl (pl_cons (pp_var 1) pl_nil)) rfl))))))
def c0_law_ends : M Ent := (compM (seqI (rd 0)) (putE 8) (ret true) (opM ixD (opM ixD (rd 8) (ret (.int 0))) (rd 5)) [8])
def b0_law_ends : G := (andS (mutM 3 appG (conM (ifM (cmB inD (rd 1) (shM c0_law_ends)) (rd 1) (rd 4)) (ret []))) fun _ => done)
def l0_law_ends : G := (forS (rg1 (conM (cbM (one lenD) (conM (opM ixD (opM ixD (rd 0) (ret (.int 0))) (ret (.int 0))) (ret []))) (ret []))) (putE 5) b0_law_ends)
def c1_law_ends : M Ent := (compM (seqI (rd 0)) (putE 8) (ret true) (opM ixD (opM ixD (rd 8) (ret (.int 1))) (rd 7)) [8])
def b1_law_ends : G := (andS (mutM 6 appG (conM (opM ixD (cbM sortedD (conM (shM c1_law_ends) (ret []))) (rd 2)) (ret []))) fun _ => done)
def l1_law_ends : G := (forS (rg1 (conM (cbM (one lenD) (conM (opM ixD (opM ixD (rd 0) (ret (.int 0))) (ret (.int 1))) (ret []))) (ret []))) (putE 7) b1_law_ends)
def g_law_ends : G := (then_ (asgO [3, 4] (conO (own1 (ret [])) (conO (sh1 (ifM (cmB eqD (rd 1) (ret (.str "early"))) (ret (.str "late")) (ret (.str "early")))) (ret [])))) (then_ l0_law_ends (frzS 3 (then_ (setS 6 (own1 (ret []))) (then_ l1_law_ends (frzS 6 (retS (sh1 (tupM (conM (cbM tupleD (conM (rd 3) (ret []))) (conM (cbM tupleD (conM (rd 6) (ret []))) (ret []))))))))))))
def m_law_ends : Fm := runG 9 g_law_ends

theorem ok_law_ends {P : Program} {w : World} {base : Heap} {K : KF} {mg : Str → Option Value} (o : Md3 fa fn ex K mg) (tb : TbOk K mg base tfs) : ∃ fd, FnG P w K mg base 1 (He.fAd K ("_law_ends", none)) fd ["_law_some", "_law_kind_here", "_law_spot"] (spD K 3 [] m_law_ends) ∧ PySem.W.keepIn K (.ref (He.fAd K ("_law_ends", none))) = true ∧ Binds K fd ["_law_some", "_law_kind_here", "_law_spot"] [] := by
  obtain ⟨fd, F⟩ := o.sd.def_ 8 rfl
  have sc : FnScope ["_law_some", "_law_kind_here", "_law_spot", "_law_kinds", "_law_rest", "_law_w", "_law_times", "_law_e", "_law_one_here"] ["_law_some", "_law_kind_here", "_law_spot"] (defScope (top 20)) := by trivial
  refine ⟨fd, fn_d F sc rfl fun cdv A outer s H E hr hgd => ?_, F.kp, F.bindsN (by trivial)⟩
  have hu := hr.units
  have hu2 := room65 hr
  exact (pd_cons (pd_parO rfl sc.nd rfl rfl (by decide) rfl rfl rfl rfl (plo_cons (po_lst pl_nil) (plo_cons (po_sh (pp_if (pb_cmp (op_eqA hu) opd_eq (pp_var 1) pp_str rfl) pp_str pp_str)) plo_nil)) rfl) (pd_cons (pd_for (passes_of rfl) rfl (it_range1 rfl (o.free 6) (pl_cons (pp_callB call_len cd_len rfl (o.free 1) rfl (pl_cons (pp_ix (pp_ix (pp_var 0) pp_int) pp_int) pl_nil)) pl_nil)) (tg_name sc.nd rfl (by first | exact Or.inl rfl | exact Or.inr rfl) rfl) (pd_one (pd_expr (pp_mut 3 PySem.F.slot_list_append PySem.F.type_list_append mt_append mut_app rfl (pl_cons (pp_if (pb_cmp (op_inA hu2) opd_in (pp_var 1) (pp_of (po_lc (own := [("_law_one_here", 8)]) rfl sc.nd (it_seq (pp_var 0)) (blkOk_by (N := ["_law_some", "_law_kind_here", "_law_spot", "_law_kinds", "_law_rest", "_law_w", "_law_times", "_law_e", "_law_one_here"]) (sc := defScope (top 20)) (by decide +kernel)) (by decide) (fun _ => (tw_name sc.nd rfl (by first | exact Or.inl rfl | exact Or.inr rfl) rfl (by decide))) (fun _ => pcs_nil) (fun _ => (pp_ix (pp_ix (pp_var 8) pp_int) (pp_var 5))))) rfl) (pp_var 1) (pp_var 4)) pl_nil))))) (pds_frz 3 rfl (pd_cons (pd_set sc.nd rfl (by first | exact Or.inl rfl | exact Or.inr rfl) rfl (po_lst pl_nil)) (pd_cons (pd_for (passes_of rfl) rfl (it_range1 rfl (o.free 6) (pl_cons (pp_callB call_len cd_len rfl (o.free 1) rfl (pl_cons (pp_ix (pp_ix (pp_var 0) pp_int) pp_int) pl_nil)) pl_nil)) (tg_name sc.nd rfl (by first | exact Or.inl rfl | exact Or.inr rfl) rfl) (pd_one (pd_expr (pp_mut 6 PySem.F.slot_list_append PySem.F.type_list_append mt_append mut_app rfl (pl_cons (pp_ix (pp_callB (call_srt rfl hu2) cd_sorted rfl (o.free 11) rfl (pl_cons (pp_of (po_lc (own := [("_law_one_here", 8)]) rfl sc.nd (it_seq (pp_var 0)) (blkOk_by (N := ["_law_some", "_law_kind_here", "_law_spot", "_law_kinds", "_law_rest", "_law_w", "_law_times", "_law_e", "_law_one_here"]) (sc := defScope (top 20)) (by decide +kernel)) (by decide) (fun _ => (tw_name sc.nd rfl (by first | exact Or.inl rfl | exact Or.inr rfl) rfl (by decide))) (fun _ => pcs_nil) (fun _ => (pp_ix (pp_ix (pp_var 8) pp_int) (pp_var 7))))) pl_nil)) (pp_var 2)) pl_nil))))) (pds_frz 6 rfl (pd_one (pd_ret (po_sh (pp_tup (pl_cons (pp_callT call_tuple_of cd_tuple rfl (o.free 8) rfl (pl_cons (pp_var 3) pl_nil)) (pl_cons (pp_callT call_tuple_of cd_tuple rfl (o.free 8) rfl (pl_cons (pp_var 6) pl_nil)) pl_nil))))))))))))
def c0_law_middle : M Ent := (compM (seqI (rd 0)) (putE 3) (ret true) (opM ixD (opM ixD (rd 3) (ret (.int 0))) (rd 2)) [3])
def c1_law_middle : M Ent := (compM (rg1 (conM (cbM (one lenD) (conM (opM ixD (opM ixD (rd 0) (ret (.int 0))) (ret (.int 0))) (ret []))) (ret []))) (putE 2) (ret true) (ifM (cmB gtD (mlM cntD (shM c0_law_middle) (conM (ret (.str "early")) (ret []))) (ret (.int 1))) (ret (.str "early")) (ret (.str "late"))) [2])
def c2_law_middle : M Ent := (compM (seqI (rd 0)) (putE 3) (ret true) (opM ixD (opM ixD (rd 3) (ret (.int 1))) (rd 4)) [3])
def c3_law_middle : M Ent := (compM (rg1 (conM (cbM (one lenD) (conM (opM ixD (opM ixD (rd 0) (ret (.int 0))) (ret (.int 1))) (ret []))) (ret []))) (putE 4) (ret true) (opM ixD (cbM sortedD (conM (shM c2_law_middle) (ret []))) (ret (.int 1))) [4])
def g_law_middle : G := (then_ (setS 1 c1_law_middle) (frzS 1 (retS (sh1 (tupM (conM (cbM tupleD (conM (rd 1) (ret []))) (conM (cbM tupleD (conM (shM c3_law_middle) (ret []))) (ret []))))))))
def m_law_middle : Fm := runG 5 g_law_middle

theorem ok_law_middle {P : Program} {w : World} {base : Heap} {K : KF} {mg : Str → Option Value} (o : Md3 fa fn ex K mg) (tb : TbOk K mg base tfs) : ∃ fd, FnG P w K mg base 1 (He.fAd K ("_law_middle", none)) fd ["_law_some"] (spD K 1 [] m_law_middle) ∧ PySem.W.keepIn K (.ref (He.fAd K ("_law_middle", none))) = true ∧ Binds K fd ["_law_some"] [] := by
  obtain ⟨fd, F⟩ := o.sd.def_ 9 rfl
  have sc : FnScope ["_law_some", "_law_kinds", "_law_w", "_law_one_here", "_law_e"] ["_law_some"] (defScope (top 19)) := by trivial
  refine ⟨fd, fn_d F sc rfl fun cdv A outer s H E hr hgd => ?_, F.kp, F.bindsN (by trivial)⟩
  have hu := hr.units
  have hu2 := room65 hr
  exact (pd_cons (pd_setLc (own := [("_law_w", 2)]) rfl sc.nd rfl rfl rfl (sw_true rfl rfl rfl (by decide +kernel)) (it_range1 rfl (o.free 6) (pl_cons (pp_callB call_len cd_len rfl (o.free 1) rfl (pl_cons (pp_ix (pp_ix (pp_var 0) pp_int) pp_int) pl_nil)) pl_nil)) (blkOk_by (N := ["_law_some", "_law_kinds", "_law_w", "_law_one_here", "_law_e"]) (sc := defScope (top 19)) (by decide +kernel)) (by decide) (fun _ => (tw_name sc.nd rfl (by first | exact Or.inl rfl | exact Or.inr rfl) rfl (by decide))) (fun _ => pcs_nil) (fun _ => (pp_if (pb_cmp op_gt (opd_cmp _) (pp_mtL PySem.F.slot_list_count PySem.F.type_list_count (mt_countD hu2) mtd_count cntD_L (pp_of (po_lc (own := [("_law_one_here", 3)]) rfl sc.nd (it_seq (pp_var 0)) (blkOk_by (by first | rfl | decide +kernel)) (by decide) (fun _ => (tw_name sc.nd rfl (by first | exact Or.inl rfl | exact Or.inr rfl) rfl (by decide))) (fun _ => pcs_nil) (fun _ => (pp_ix (pp_ix (pp_var 3) pp_int) (pp_var 2))))) (pl_cons pp_str pl_nil)) pp_int rfl) pp_str pp_str))) (pds_frz 1 rfl (pd_one (pd_ret (po_sh (pp_tup (pl_cons (pp_callT call_tuple_of cd_tuple rfl (o.free 8) rfl (pl_cons (pp_var 1) pl_nil)) (pl_cons (pp_callT call_tuple_of cd_tuple rfl (o.free 8) rfl (pl_cons (pp_of (po_lc (own := [("_law_e", 4)]) rfl sc.nd (it_range1 rfl (o.free 6) (pl_cons (pp_callB call_len cd_len rfl (o.free 1) rfl (pl_cons (pp_ix (pp_ix (pp_var 0) pp_int) pp_int) pl_nil)) pl_nil)) (blkOk_by (N := ["_law_some", "_law_kinds", "_law_w", "_law_one_here", "_law_e"]) (sc := defScope (top 19)) (by decide +kernel)) (by decide) (fun _ => (tw_name sc.nd rfl (by first | exact Or.inl rfl | exact Or.inr rfl) rfl (by decide))) (fun _ => pcs_nil) (fun _ => (pp_ix (pp_callB (call_srt rfl hu2) cd_sorted rfl (o.free 11) rfl (pl_cons (pp_of (po_lc (own := [("_law_one_here", 3)]) rfl sc.nd (it_seq (pp_var 0)) (blkOk_by (by first | rfl | decide +kernel)) (by decide) (fun _ => (tw_name sc.nd rfl (by first | exact Or.inl rfl | exact Or.inr rfl) rfl (by decide))) (fun _ => pcs_nil) (fun _ => (pp_ix (pp_ix (pp_var 3) pp_int) (pp_var 4))))) pl_nil)) pp_int)))) pl_nil)) pl_nil))))))))
def gx_law_raised (act : M Ent) : G := (tryS ["Unequal"] ["CaseError"] 1 (retS (sh1 (tupM (conM (ret (.str "told")) (conM (shM act) (ret [])))))) fun y => (retS (sh1 (tupM (conM (ret (.str "unequal")) (conM (xfM y "one") (conM (xfM y "other") (ret []))))))))
theorem ho_law_raised {K : KF} {mg : Str → Option Value} (o : Md3 fa fn ex K mg) : ∃ fd, FunD K "_law_raised" "_law_raised" (defArgs (top 21)) (defBody (top 21)) (defScope (top 21)) [] [] (He.fAd K ("_law_raised", none)) fd ∧ PySem.W.keepIn K (.ref (He.fAd K ("_law_raised", none))) = true ∧ Binds K fd ["_law_act"] [] := by
  obtain ⟨fd, F⟩ := o.sd.def_ 10 rfl
  exact ⟨fd, F, F.kp, F.bindsN (by trivial)⟩
theorem sc_law_raised : FnScope ["_law_act", "_law_e"] ["_law_act"] (defScope (top 21)) := by trivial
theorem gives_law_raised {P : Program} {w : World} {base : Heap} {K : KF} {mg : Str → Option Value} (o : Md3 fa fn ex K mg) (tb : TbOk K mg base tfs) {k : Nat} (hk : 0 ≤ k) : Gives P w K mg base ["_law_act", "_law_e"] "_law_raised" (defScope (top 21)) (He.fAd K ("_law_raised", none)) (defBody (top 21)) 0 "_law_act" k gx_law_raised := by
  intro cdv A outer s H E ok mono act hr hgd hact
  have hu := hr.units
  have hu2 := room65 hr
  have sc := sc_law_raised
  exact (pd_one (pd_try rfl rfl sc.nd rfl rfl rfl rfl (o.glo 12) (tryB_ok (o.x 0)).1 (tryB_ok (o.x 0)).2 (takes_of rfl rfl rfl rfl) (fun W pn xe tk1 ps1 => (pd_one (pd_ret (po_sh (pp_tup (pl_cons pp_str (pl_cons (pp_of (hact _ _ _ _ _ tk1)) pl_nil))))))) (fun y a oe cls d pn hc hk hz hf => (pd_one (pd_ret (po_sh (pp_tup (pl_cons pp_str (pl_cons (pp_xf hc hk hz hf (xfsB_ok (o.x 2))) (pl_cons (pp_xf hc hk hz hf (xfsB_ok (o.x 1))) pl_nil))))))))))
def b0_law_unequal : G := (andS (cmB neD (cbM (one lenD) (conM (opM ixD (opM ixD (rd 0) (ret (.int 0))) (rd 1)) (ret []))) (cbM (one lenD) (conM (opM ixD (rd 2) (rd 1)) (ret [])))) fun k => if k = true then (retS (sh1 (tupM (conM (ret (.str "unequal")) (conM (cbM (one lenD) (conM (opM ixD (opM ixD (rd 0) (ret (.int 0))) (rd 1)) (ret []))) (conM (cbM (one lenD) (conM (opM ixD (rd 2) (rd 1)) (ret []))) (ret []))))))) else done)
def l0_law_unequal : G := (forS (seqI (slM (rd 0) (ixp (ret (.int 1))) (ret none))) (putE 2) b0_law_unequal)
def b1_law_unequal : G := l0_law_unequal
def l1_law_unequal : G := (forS (seqI (tupM (conM (ret (.int 0)) (conM (ret (.int 1)) (ret []))))) (putE 1) b1_law_unequal)
def g_law_unequal : G := (then_ l1_law_unequal (retS (sh1 (ret (.non)))))
def m_law_unequal : Fm := runG 3 g_law_unequal

theorem ok_law_unequal {P : Program} {w : World} {base : Heap} {K : KF} {mg : Str → Option Value} (o : Md3 fa fn ex K mg) (tb : TbOk K mg base tfs) : ∃ fd, FnG P w K mg base 1 (He.fAd K ("_law_unequal", none)) fd ["_law_some"] (spD K 1 [] m_law_unequal) ∧ PySem.W.keepIn K (.ref (He.fAd K ("_law_unequal", none))) = true ∧ Binds K fd ["_law_some"] [] := by
  obtain ⟨fd, F⟩ := o.sd.def_ 11 rfl
  have sc : FnScope ["_law_some", "_law_part", "_law_other"] ["_law_some"] (defScope (top 22)) := by trivial
  refine ⟨fd, fn_d F sc rfl fun cdv A outer s H E hr hgd => ?_, F.kp, F.bindsN (by trivial)⟩
  have hu := hr.units
  have hu2 := room65 hr
  exact (pd_cons (pd_for (passes_of rfl) rfl (it_seq (pp_tup (pl_cons pp_int (pl_cons pp_int pl_nil)))) (tg_name sc.nd rfl (by first | exact Or.inl rfl | exact Or.inr rfl) rfl) (pd_one (pd_for (passes_of rfl) rfl (it_seq (pp_slice (pp_var 0) (part_some pp_int) part_none)) (tg_name sc.nd rfl (by first | exact Or.inl rfl | exact Or.inr rfl) rfl) (pd_one (pd_if (pb_cmp (op_neA hu) opd_ne (pp_callB call_len cd_len rfl (o.free 1) rfl (pl_cons (pp_ix (pp_ix (pp_var 0) pp_int) (pp_var 1)) pl_nil)) (pp_callB call_len cd_len rfl (o.free 1) rfl (pl_cons (pp_ix (pp_var 2) (pp_var 1)) pl_nil)) rfl) (pd_one (pd_ret (po_sh (pp_tup (pl_cons pp_str (pl_cons (pp_callB call_len cd_len rfl (o.free 1) rfl (pl_cons (pp_ix (pp_ix (pp_var 0) pp_int) (pp_var 1)) pl_nil)) (pl_cons (pp_callB call_len cd_len rfl (o.free 1) rfl (pl_cons (pp_ix (pp_var 2) (pp_var 1)) pl_nil)) pl_nil))))))) pd_nil))))) (pd_one (pd_ret (po_sh pp_non))))
theorem ok_Unequal_init {P : Program} {w : World} {base : Heap} {K : KF} {mg : Str → Option Value} (o : Md3 fa fn ex K mg) (tb : TbOk K mg base tfs) : ∃ fd, FnOk P w K mg base (L2.CX P w) 1 (He.fAd K ("Unequal", some "__init__")) fd ["self", "one", "other"] (spX K "Unequal" ["one", "other"]) ∧ Binds K fd ["self", "one", "other"] [] ∧ True := by
  obtain ⟨fd, F⟩ := o.sd.def_ 12 rfl
  exact ⟨fd, fn_x2 F ⟨rfl, rfl, rfl, by decide +kernel, rfl, by decide +kernel, by decide +kernel⟩ (oexB_ok (o.x 3)) (He.noat_ok (o.sd.fact 13 rfl)) (He.noat_ok (o.sd.fact 14 rfl)) rfl rfl rfl, F.bindsN (by trivial), True.intro⟩
def b0_check_alike : G := (andS (cmB neD (cbM (one lenD) (conM (opM ixD (rd 0) (rd 2)) (ret []))) (cbM (one lenD) (conM (opM ixD (rd 3) (rd 2)) (ret [])))) fun k => if k = true then (raiseS "Unequal" ["one", "other"] (conM (cbM (one lenD) (conM (opM ixD (rd 0) (rd 2)) (ret []))) (conM (cbM (one lenD) (conM (opM ixD (rd 3) (rd 2)) (ret []))) (ret [])))) else done)
def l0_check_alike : G := (forS (seqI (rd 1)) (putE 3) b0_check_alike)
def b1_check_alike : G := l0_check_alike
def l1_check_alike : G := (forS (seqI (tupM (conM (ret (.int 0)) (conM (ret (.int 1)) (ret []))))) (putE 2) b1_check_alike)
def g_check_alike : G := l1_check_alike
def m_check_alike : Fm := runG 4 g_check_alike

theorem ok_check_alike {P : Program} {w : World} {base : Heap} {K : KF} {mg : Str → Option Value} (o : Md3 fa fn ex K mg) (tb : TbOk K mg base tfs) : ∃ fd : FuncData, FnV P w K mg base 3 (He.fAd K ("check_alike", none)) 1 m_check_alike ∧ PySem.W.keepIn K (.ref (He.fAd K ("check_alike", none))) = true ∧ fd = fd := by
  obtain ⟨fd, F⟩ := o.sd.def_ 13 rfl
  obtain ⟨fd_Unequal_init, F_Unequal_init, kp_Unequal_init, bd_Unequal_init⟩ := ok_Unequal_init (P := P) (w := w) (base := base) o tb
  have sc : FnScope ["one", "others", "part", "other"] ["one", "others"] (defScope (top 6)) := by trivial
  refine ⟨fd, fn_dV (ps := ["one"]) (pv := "others") F sc rfl (fun _ _ _ _ _ _ us rest hl => match us, rest, hl with | [_], [], _ => rfl | [_], _ :: rs, _ => (by cases rs <;> rfl)) fun cdv A outer s H E hr => ?_, F.kp, rfl⟩
  have hu := hr.units
  have hu2 := room65 hr
  exact (pd_one (pd_for (passes_of rfl) rfl (it_seq (pp_tup (pl_cons pp_int (pl_cons pp_int pl_nil)))) (tg_name sc.nd rfl (by first | exact Or.inl rfl | exact Or.inr rfl) rfl) (pd_one (pd_for (passes_of rfl) rfl (it_seq (pp_var 1)) (tg_name sc.nd rfl (by first | exact Or.inl rfl | exact Or.inr rfl) rfl) (pd_one (pd_if (pb_cmp (op_neA hu) opd_ne (pp_callB call_len cd_len rfl (o.free 1) rfl (pl_cons (pp_ix (pp_var 0) (pp_var 2)) pl_nil)) (pp_callB call_len cd_len rfl (o.free 1) rfl (pl_cons (pp_ix (pp_var 3) (pp_var 2)) pl_nil)) rfl) (pd_one (pd_raise rfl (takes_of rfl rfl rfl rfl) (oexB_ok (o.x 3)) (oxiB_ok (o.x 4)).1 (oxiB_ok (o.x 4)).2 F_Unequal_init (hr.mono (by decide)) kp_Unequal_init rfl (o.glo 12) (pl_cons (pp_callB call_len cd_len rfl (o.free 1) rfl (pl_cons (pp_ix (pp_var 0) (pp_var 2)) pl_nil)) (pl_cons (pp_callB call_len cd_len rfl (o.free 1) rfl (pl_cons (pp_ix (pp_var 3) (pp_var 2)) pl_nil)) pl_nil)))) pd_nil))))))
def c0_joined : M Ent := (compM (zpN (conM (opM ixD (rd 0) (ret (.int 0))) (conM (opM ixD (rd 1) (ret (.int 0))) (ret [])))) (putE 3) (ret true) (ifM (cmB inD (ret (.str "early")) (rd 3)) (ret (.str "early")) (ret (.str "late"))) [3])
def c1_joined : M Ent := (compM (zpN (conM (opM ixD (rd 0) (ret (.int 1))) (conM (opM ixD (rd 1) (ret (.int 1))) (ret [])))) (putE 3) (ret true) (cbM maxSD (conM (rd 3) (ret []))) [3])
def g_joined : G := (then_ (andS (shM (callV 1 m_check_alike (conM (rd 0) (conM (rd 1) (ret []))))) fun _ => done) (then_ (setS 2 c0_joined) (frzS 2 (retS (sh1 (tupM (conM (cbM tupleD (conM (rd 2) (ret []))) (conM (cbM tupleD (conM (shM c1_joined) (ret []))) (ret [])))))))))
def m_joined : Fm := runG 4 g_joined

theorem ok_joined {P : Program} {w : World} {base : Heap} {K : KF} {mg : Str → Option Value} (o : Md3 fa fn ex K mg) (tb : TbOk K mg base tfs) : ∃ fd, FnG P w K mg base 4 (He.fAd K ("joined", none)) fd ["one", "other"] (spD K 2 [] m_joined) ∧ PySem.W.keepIn K (.ref (He.fAd K ("joined", none))) = true ∧ Binds K fd ["one", "other"] [] := by
  obtain ⟨fd, F⟩ := o.sd.def_ 14 rfl
  obtain ⟨fd_check_alike, F_check_alike, kp_check_alike, bd_check_alike⟩ := ok_check_alike (P := P) (w := w) (base := base) o tb
  obtain ⟨v_EARLY, u_EARLY, m_EARLY, r_EARLY, p_EARLY⟩ := o.cst (o.x 5)
  obtain ⟨v_LATE, u_LATE, m_LATE, r_LATE, p_LATE⟩ := o.cst (o.x 6)
  have sc : FnScope ["one", "other", "kinds", "some"] ["one", "other"] (defScope (top 8)) := by trivial
  refine ⟨fd, fn_d F sc rfl fun cdv A outer s H E hr hgd => ?_, F.kp, F.bindsN (by trivial)⟩
  have hu := hr.units
  have hu2 := room65 hr
  exact (pd_cons (pd_expr (pp_of (po_callV F_check_alike (hr.mono (by decide)) rfl (o.glo 15) kp_check_alike (takes_of rfl rfl rfl rfl) (pl_cons (pp_var 0) (pl_cons (pp_var 1) pl_nil))))) (pd_cons (pd_setLc (own := [("some", 3)]) rfl sc.nd rfl rfl rfl (sw_true rfl rfl rfl (by decide +kernel)) (it_zipN rfl (o.free 16) (pl_cons (pp_ix (pp_var 0) pp_int) (pl_cons (pp_ix (pp_var 1) pp_int) pl_nil))) (blkOk_by (N := ["one", "other", "kinds", "some"]) (sc := defScope (top 8)) (by decide +kernel)) (by decide) (fun _ => (tw_name sc.nd rfl (by first | exact Or.inl rfl | exact Or.inr rfl) rfl (by decide))) (fun _ => pcs_nil) (fun _ => (pp_if (pb_cmp (op_inA hu2) opd_in (pp_glob rfl m_EARLY r_EARLY p_EARLY) (pp_var 3) rfl) (pp_glob rfl m_EARLY r_EARLY p_EARLY) (pp_glob rfl m_LATE r_LATE p_LATE)))) (pds_frz 2 rfl (pd_one (pd_ret (po_sh (pp_tup (pl_cons (pp_callT call_tuple_of cd_tuple rfl (o.free 8) rfl (pl_cons (pp_var 2) pl_nil)) (pl_cons (pp_callT call_tuple_of cd_tuple rfl (o.free 8) rfl (pl_cons (pp_of (po_lc (own := [("some", 3)]) rfl sc.nd (it_zipN rfl (o.free 16) (pl_cons (pp_ix (pp_var 0) pp_int) (pl_cons (pp_ix (pp_var 1) pp_int) pl_nil))) (blkOk_by (N := ["one", "other", "kinds", "some"]) (sc := defScope (top 8)) (by decide +kernel)) (by decide) (fun _ => (tw_name sc.nd rfl (by first | exact Or.inl rfl | exact Or.inr rfl) rfl (by decide))) (fun _ => pcs_nil) (fun _ => (pp_callB (cr_maxS rfl) cd_maxS rfl (o.free 17) rfl (pl_cons (pp_var 3) pl_nil))))) pl_nil)) pl_nil)))))))))
def c0_median : M Ent := (compM (zpN (conM (opM ixD (rd 0) (ret (.int 0))) (conM (opM ixD (rd 1) (ret (.int 0))) (conM (opM ixD (rd 2) (ret (.int 0))) (ret []))))) (putE 4) (ret true) (opM ixD (cbM sortedT (conM (rd 4) (ret []))) (ret (.int 1))) [4])
def c1_median : M Ent := (compM (zpN (conM (opM ixD (rd 0) (ret (.int 1))) (conM (opM ixD (rd 1) (ret (.int 1))) (conM (opM ixD (rd 2) (ret (.int 1))) (ret []))))) (putE 4) (ret true) (opM ixD (cbM sortedT (conM (rd 4) (ret []))) (ret (.int 1))) [4])
def g_median : G := (then_ (andS (shM (callV 1 m_check_alike (conM (rd 0) (conM (rd 1) (conM (rd 2) (ret [])))))) fun _ => done) (then_ (setS 3 c0_median) (frzS 3 (retS (sh1 (tupM (conM (cbM tupleD (conM (rd 3) (ret []))) (conM (cbM tupleD (conM (shM c1_median) (ret []))) (ret [])))))))))
def m_median : Fm := runG 5 g_median

theorem ok_median {P : Program} {w : World} {base : Heap} {K : KF} {mg : Str → Option Value} (o : Md3 fa fn ex K mg) (tb : TbOk K mg base tfs) : ∃ fd, FnG P w K mg base 4 (He.fAd K ("median", none)) fd ["one", "two", "three"] (spD K 3 [] m_median) ∧ PySem.W.keepIn K (.ref (He.fAd K ("median", none))) = true ∧ Binds K fd ["one", "two", "three"] [] := by
  obtain ⟨fd, F⟩ := o.sd.def_ 15 rfl
  obtain ⟨fd_check_alike, F_check_alike, kp_check_alike, bd_check_alike⟩ := ok_check_alike (P := P) (w := w) (base := base) o tb
  have sc : FnScope ["one", "two", "three", "kinds", "some"] ["one", "two", "three"] (defScope (top 7)) := by trivial
  refine ⟨fd, fn_d F sc rfl fun cdv A outer s H E hr hgd => ?_, F.kp, F.bindsN (by trivial)⟩
  have hu := hr.units
  have hu2 := room65 hr
  exact (pd_cons (pd_expr (pp_of (po_callV F_check_alike (hr.mono (by decide)) rfl (o.glo 15) kp_check_alike (takes_of rfl rfl rfl rfl) (pl_cons (pp_var 0) (pl_cons (pp_var 1) (pl_cons (pp_var 2) pl_nil)))))) (pd_cons (pd_setLc (own := [("some", 4)]) rfl sc.nd rfl rfl rfl (sw_true rfl rfl rfl (by decide +kernel)) (it_zipN rfl (o.free 16) (pl_cons (pp_ix (pp_var 0) pp_int) (pl_cons (pp_ix (pp_var 1) pp_int) (pl_cons (pp_ix (pp_var 2) pp_int) pl_nil)))) (blkOk_by (N := ["one", "two", "three", "kinds", "some"]) (sc := defScope (top 7)) (by decide +kernel)) (by decide) (fun _ => (tw_name sc.nd rfl (by first | exact Or.inl rfl | exact Or.inr rfl) rfl (by decide))) (fun _ => pcs_nil) (fun _ => (pp_ix (pp_callB (cr_srtP hu2) cd_sortedT rfl (o.free 11) rfl (pl_cons (pp_var 4) pl_nil)) pp_int))) (pds_frz 3 rfl (pd_one (pd_ret (po_sh (pp_tup (pl_cons (pp_callT call_tuple_of cd_tuple rfl (o.free 8) rfl (pl_cons (pp_var 3) pl_nil)) (pl_cons (pp_callT call_tuple_of cd_tuple rfl (o.free 8) rfl (pl_cons (pp_of (po_lc (own := [("some", 4)]) rfl sc.nd (it_zipN rfl (o.free 16) (pl_cons (pp_ix (pp_var 0) pp_int) (pl_cons (pp_ix (pp_var 1) pp_int) (pl_cons (pp_ix (pp_var 2) pp_int) pl_nil)))) (blkOk_by (N := ["one", "two", "three", "kinds", "some"]) (sc := defScope (top 7)) (by decide +kernel)) (by decide) (fun _ => (tw_name sc.nd rfl (by first | exact Or.inl rfl | exact Or.inr rfl) rfl (by decide))) (fun _ => pcs_nil) (fun _ => (pp_ix (pp_callB (cr_srtP hu2) cd_sortedT rfl (o.free 11) rfl (pl_cons (pp_var 4) pl_nil)) pp_int)))) pl_nil)) pl_nil)))))))))
def c0_met : M Ent := (compM (zpN (conM (opM ixD (rd 0) (ret (.int 0))) (conM (opM ixD (rd 1) (ret (.int 0))) (ret [])))) (putE 3) (ret true) (ifM (cmB inD (ret (.str "late")) (rd 3)) (ret (.str "late")) (ret (.str "early"))) [3])
def c1_met : M Ent := (compM (zpN (conM (opM ixD (rd 0) (ret (.int 1))) (conM (opM ixD (rd 1) (ret (.int 1))) (ret [])))) (putE 3) (ret true) (cbM minSD (conM (rd 3) (ret []))) [3])
def g_met : G := (then_ (andS (shM (callV 1 m_check_alike (conM (rd 0) (conM (rd 1) (ret []))))) fun _ => done) (then_ (setS 2 c0_met) (frzS 2 (retS (sh1 (tupM (conM (cbM tupleD (conM (rd 2) (ret []))) (conM (cbM tupleD (conM (shM c1_met) (ret []))) (ret [])))))))))
def m_met : Fm := runG 4 g_met

theorem ok_met {P : Program} {w : World} {base : Heap} {K : KF} {mg : Str → Option Value} (o : Md3 fa fn ex K mg) (tb : TbOk K mg base tfs) : ∃ fd, FnG P w K mg base 4 (He.fAd K ("met", none)) fd ["one", "other"] (spD K 2 [] m_met) ∧ PySem.W.keepIn K (.ref (He.fAd K ("met", none))) = true ∧ Binds K fd ["one", "other"] [] := by
  obtain ⟨fd, F⟩ := o.sd.def_ 16 rfl
  obtain ⟨fd_check_alike, F_check_alike, kp_check_alike, bd_check_alike⟩ := ok_check_alike (P := P) (w := w) (base := base) o tb
  obtain ⟨v_EARLY, u_EARLY, m_EARLY, r_EARLY, p_EARLY⟩ := o.cst (o.x 5)
  obtain ⟨v_LATE, u_LATE, m_LATE, r_LATE, p_LATE⟩ := o.cst (o.x 6)
  have sc : FnScope ["one", "other", "kinds", "some"] ["one", "other"] (defScope (top 9)) := by trivial
  refine ⟨fd, fn_d F sc rfl fun cdv A outer s H E hr hgd => ?_, F.kp, F.bindsN (by trivial)⟩
  have hu := hr.units
  have hu2 := room65 hr
  exact (pd_cons (pd_expr (pp_of (po_callV F_check_alike (hr.mono (by decide)) rfl (o.glo 15) kp_check_alike (takes_of rfl rfl rfl rfl) (pl_cons (pp_var 0) (pl_cons (pp_var 1) pl_nil))))) (pd_cons (pd_setLc (own := [("some", 3)]) rfl sc.nd rfl rfl rfl (sw_true rfl rfl rfl (by decide +kernel)) (it_zipN rfl (o.free 16) (pl_cons (pp_ix (pp_var 0) pp_int) (pl_cons (pp_ix (pp_var 1) pp_int) pl_nil))) (blkOk_by (N := ["one", "other", "kinds", "some"]) (sc := defScope (top 9)) (by decide +kernel)) (by decide) (fun _ => (tw_name sc.nd rfl (by first | exact Or.inl rfl | exact Or.inr rfl) rfl (by decide))) (fun _ => pcs_nil) (fun _ => (pp_if (pb_cmp (op_inA hu2) opd_in (pp_glob rfl m_LATE r_LATE p_LATE) (pp_var 3) rfl) (pp_glob rfl m_LATE r_LATE p_LATE) (pp_glob rfl m_EARLY r_EARLY p_EARLY)))) (pds_frz 2 rfl (pd_one (pd_ret (po_sh (pp_tup (pl_cons (pp_callT call_tuple_of cd_tuple rfl (o.free 8) rfl (pl_cons (pp_var 2) pl_nil)) (pl_cons (pp_callT call_tuple_of cd_tuple rfl (o.free 8) rfl (pl_cons (pp_of (po_lc (own := [("some", 3)]) rfl sc.nd (it_zipN rfl (o.free 16) (pl_cons (pp_ix (pp_var 0) pp_int) (pl_cons (pp_ix (pp_var 1) pp_int) pl_nil))) (blkOk_by (N := ["one", "other", "kinds", "some"]) (sc := defScope (top 9)) (by decide +kernel)) (by decide) (fun _ => (tw_name sc.nd rfl (by first | exact Or.inl rfl | exact Or.inr rfl) rfl (by decide))) (fun _ => pcs_nil) (fun _ => (pp_callB (cr_minS rfl) cd_minS rfl (o.free 18) rfl (pl_cons (pp_var 3) pl_nil))))) pl_nil)) pl_nil)))))))))
def g_law_right : G := (then_ (setS 3 (sh1 (cbM reprD (conM (lstM (conM (rd 0) (conM (rd 1) (conM (rd 2) (ret []))))) (ret []))))) (then_ (setS 4 (own1 (conM (shM (lamO 2 gx_law_raised (calM m_median [none, none, none] [] (conM (rd 0) (conM (rd 1) (conM (rd 2) (ret []))))) [])) (ret [])))) (then_ (andS (mutM 4 appG (conM (shM (lamO 2 gx_law_raised (calM m_joined [none, none] [] (conM (rd 0) (conM (rd 1) (ret [])))) [])) (ret []))) fun _ => done) (then_ (andS (mutM 4 appG (conM (shM (lamO 2 gx_law_raised (calM m_met [none, none] [] (conM (rd 0) (conM (rd 1) (ret [])))) [])) (ret []))) fun _ => done) (frzS 4 (then_ (par2S 5 6 (conM (shM (calM m_law_unequal [none] [] (conM (lstM (conM (rd 0) (conM (rd 1) (conM (rd 2) (ret []))))) (ret [])))) (conM (shM (calM m_law_unequal [none] [] (conM (lstM (conM (rd 0) (conM (rd 1) (ret [])))) (ret [])))) (ret [])))) (then_ (setS 7 (own1 (conM (ifM (cmB notND (rd 5) (ret (.non))) (rd 5) (tupM (conM (ret (.str "told")) (conM (shM (calM m_law_middle [none] [] (conM (lstM (conM (rd 0) (conM (rd 1) (conM (rd 2) (ret []))))) (ret [])))) (ret []))))) (ret [])))) (then_ (andS (mutM 7 appG (conM (ifM (cmB notND (rd 6) (ret (.non))) (rd 6) (tupM (conM (ret (.str "told")) (conM (shM (calM m_law_ends [none, none, none] [] (conM (lstM (conM (rd 0) (conM (rd 1) (ret [])))) (conM (ret (.str "early")) (conM (unM negD (ret (.int 1))) (ret [])))))) (ret []))))) (ret []))) fun _ => done) (then_ (andS (mutM 7 appG (conM (ifM (cmB notND (rd 6) (ret (.non))) (rd 6) (tupM (conM (ret (.str "told")) (conM (shM (calM m_law_ends [none, none, none] [] (conM (lstM (conM (rd 0) (conM (rd 1) (ret [])))) (conM (ret (.str "late")) (conM (ret (.int 0)) (ret [])))))) (ret []))))) (ret []))) fun _ => done) (frzS 7 (retS (sh1 (andV (shM (calM m_law_alike [none, none] [] (conM (rd 4) (conM (rd 7) (ret []))))) (opM eqD (cbM reprD (conM (lstM (conM (rd 0) (conM (rd 1) (conM (rd 2) (ret []))))) (ret []))) (rd 3)))))))))))))))
def m_law_right : Fm := runG 8 g_law_right
theorem ok_law_right {P : Program} {w : World} {base : Heap} {K : KF} {mg : Str → Option Value} (o : Md3 fa fn ex K mg) (tb : TbOk K mg base tfs) : ∃ fd, FnG P w K mg base 7 (He.fAd K ("_law_right", none)) fd ["_law_one_here", "_law_two", "_law_three"] (spD K 3 [] m_law_right) ∧ PySem.W.keepIn K (.ref (He.fAd K ("_law_right", none))) = true ∧ Binds K fd ["_law_one_here", "_law_two", "_law_three"] [] := by
  obtain ⟨fd, F⟩ := o.sd.def_ 17 rfl
  obtain ⟨fd_law_alike, F_law_alike, kp_law_alike, bd_law_alike⟩ := ok_law_alike (P := P) (w := w) (base := base) o tb
  obtain ⟨fd_law_ends, F_law_ends, kp_law_ends, bd_law_ends⟩ := ok_law_ends (P := P) (w := w) (base := base) o tb
  obtain ⟨fd_law_middle, F_law_middle, kp_law_middle, bd_law_middle⟩ := ok_law_middle (P := P) (w := w) (base := base) o tb
  obtain ⟨fd_law_unequal, F_law_unequal, kp_law_unequal, bd_law_unequal⟩ := ok_law_unequal (P := P) (w := w) (base := base) o tb
  obtain ⟨fd_joined, F_joined, kp_joined, bd_joined⟩ := ok_joined (P := P) (w := w) (base := base) o tb
  obtain ⟨fd_median, F_median, kp_median, bd_median⟩ := ok_median (P := P) (w := w) (base := base) o tb
  obtain ⟨fd_met, F_met, kp_met, bd_met⟩ := ok_met (P := P) (w := w) (base := base) o tb
  obtain ⟨fd_law_raised, F_law_raised, kp_law_raised, bd_law_raised⟩ := ho_law_raised (K := K) (mg := mg) o
  have sc : FnScope ["_law_one_here", "_law_two", "_law_three", "_law_kept", "_law_found", "_law_due", "_law_pair", "_law_wished"] ["_law_one_here", "_law_two", "_law_three"] (defScope (top 23)) := by trivial
  refine ⟨fd, fn_dL F sc rfl fun cdv hcv A outer s H E hr hgd => ?_, F.kp, F.bindsN (by trivial)⟩
  have hu := hr.units
  have hu2 := room65 hr
  exact (pd_cons (pd_set sc.nd rfl (by first | exact Or.inl rfl | exact Or.inr rfl) rfl (po_sh (pp_callB (call_reprA hgd hu2) cd_repr rfl (o.free 10) rfl (pl_cons (pp_lst (pl_cons (pp_var 0) (pl_cons (pp_var 1) (pl_cons (pp_var 2) pl_nil)))) pl_nil)))) (pd_cons (pd_set sc.nd rfl (by first | exact Or.inl rfl | exact Or.inr rfl) rfl (po_lst (pl_cons (pp_of (po_lam (by rfl) (o.glo 20) kp_law_raised F_law_raised bd_law_raised sc_law_raised rfl (by first | exact Or.inl rfl | exact Or.inr (Or.inl rfl) | exact Or.inr (Or.inr rfl)) (gives_law_raised (P := P) (w := w) (base := base) o tb (k := 5) (by decide)) (tb.at 0 (p := (("_law_right", none), "_law_right.<locals>.<lambda>"))).1 (cT_code hcv) (tb.at 0 (p := (("_law_right", none), "_law_right.<locals>.<lambda>"))).2 (hr.mono (by decide)) hgd (LamX.lamS_by (show LamX.lamSB (defScope (top 23)) _ = true from by decide +kernel)) rfl (fun _ _ _ _ _ => rfl) (takes_of rfl rfl rfl rfl) (fun A outer s H E f c' hr hgd => have hu := hr.units; have hu2 := room65 hr; (pcl F_median (o.glo 19) kp_median bd_median (plm_sh (pp_var 0) (plm_sh (pp_var 1) (plm_sh (pp_var 2) plm_nil))))))) pl_nil))) (pd_cons (pd_expr (pp_mut 4 PySem.F.slot_list_append PySem.F.type_list_append mt_append mut_app rfl (pl_cons (pp_of (po_lam (by rfl) (o.glo 20) kp_law_raised F_law_raised bd_law_raised sc_law_raised rfl (by first | exact Or.inl rfl | exact Or.inr (Or.inl rfl) | exact Or.inr (Or.inr rfl)) (gives_law_raised (P := P) (w := w) (base := base) o tb (k := 5) (by decide)) (tb.at 0 (p := (("_law_right", none), "_law_right.<locals>.<lambda>"))).1 (cT_code hcv) (tb.at 0 (p := (("_law_right", none), "_law_right.<locals>.<lambda>"))).2 (hr.mono (by decide)) hgd (LamX.lamS_by (show LamX.lamSB (defScope (top 23)) _ = true from by decide +kernel)) rfl (fun _ _ _ _ _ => rfl) (takes_of rfl rfl rfl rfl) (fun A outer s H E f c' hr hgd => have hu := hr.units; have hu2 := room65 hr; (pcl F_joined (o.glo 21) kp_joined bd_joined (plm_sh (pp_var 0) (plm_sh (pp_var 1) plm_nil)))))) pl_nil))) (pd_cons (pd_expr (pp_mut 4 PySem.F.slot_list_append PySem.F.type_list_append mt_append mut_app rfl (pl_cons (pp_of (po_lam (by rfl) (o.glo 20) kp_law_raised F_law_raised bd_law_raised sc_law_raised rfl (by first | exact Or.inl rfl | exact Or.inr (Or.inl rfl) | exact Or.inr (Or.inr rfl)) (gives_law_raised (P := P) (w := w) (base := base) o tb (k := 5) (by decide)) (tb.at 0 (p := (("_law_right", none), "_law_right.<locals>.<lambda>"))).1 (cT_code hcv) (tb.at 0 (p := (("_law_right", none), "_law_right.<locals>.<lambda>"))).2 (hr.mono (by decide)) hgd (LamX.lamS_by (show LamX.lamSB (defScope (top 23)) _ = true from by decide +kernel)) rfl (fun _ _ _ _ _ => rfl) (takes_of rfl rfl rfl rfl) (fun A outer s H E f c' hr hgd => have hu := hr.units; have hu2 := room65 hr; (pcl F_met (o.glo 22) kp_met bd_met (plm_sh (pp_var 0) (plm_sh (pp_var 1) plm_nil)))))) pl_nil))) (pds_frz 4 rfl (pd_cons (pd_par rfl sc.nd rfl rfl (by decide) rfl rfl rfl rfl (pl_cons (pp_of (pcl F_law_unequal (o.glo 23) kp_law_unequal bd_law_unequal (plm_sh (pp_lst (pl_cons (pp_var 0) (pl_cons (pp_var 1) (pl_cons (pp_var 2) pl_nil)))) plm_nil))) (pl_cons (pp_of (pcl F_law_unequal (o.glo 23) kp_law_unequal bd_law_unequal (plm_sh (pp_lst (pl_cons (pp_var 0) (pl_cons (pp_var 1) pl_nil))) plm_nil))) pl_nil)) rfl) (pd_cons (pd_set sc.nd rfl (by first | exact Or.inl rfl | exact Or.inr rfl) rfl (po_lst (pl_cons (pp_if (pb_cmp op_notN opd_notN (pp_var 5) pp_non rfl) (pp_var 5) (pp_tup (pl_cons pp_str (pl_cons (pp_of (pcl F_law_middle (o.glo 24) kp_law_middle bd_law_middle (plm_sh (pp_lst (pl_cons (pp_var 0) (pl_cons (pp_var 1) (pl_cons (pp_var 2) pl_nil)))) plm_nil))) pl_nil)))) pl_nil))) (pd_cons (pd_expr (pp_mut 7 PySem.F.slot_list_append PySem.F.type_list_append mt_append mut_app rfl (pl_cons (pp_if (pb_cmp op_notN opd_notN (pp_var 6) pp_non rfl) (pp_var 6) (pp_tup (pl_cons pp_str (pl_cons (pp_of (pcl F_law_ends (o.glo 25) kp_law_ends bd_law_ends (plm_sh (pp_lst (pl_cons (pp_var 0) (pl_cons (pp_var 1) pl_nil))) (plm_sh pp_str (plm_sh (pp_un un_neg und_neg pp_int) plm_nil))))) pl_nil)))) pl_nil))) (pd_cons (pd_expr (pp_mut 7 PySem.F.slot_list_append PySem.F.type_list_append mt_append mut_app rfl (pl_cons (pp_if (pb_cmp op_notN opd_notN (pp_var 6) pp_non rfl) (pp_var 6) (pp_tup (pl_cons pp_str (pl_cons (pp_of (pcl F_law_ends (o.glo 25) kp_law_ends bd_law_ends (plm_sh (pp_lst (pl_cons (pp_var 0) (pl_cons (pp_var 1) pl_nil))) (plm_sh pp_str (plm_sh pp_int plm_nil))))) pl_nil)))) pl_nil))) (pds_frz 7 rfl (pd_one (pd_ret (po_sh (pp_and (pp_of (pcl F_law_alike (o.glo 26) kp_law_alike bd_law_alike (plm_sh (pp_var 4) (plm_sh (pp_var 7) plm_nil)))) (pp_one (pp_cmp (op_eqA hu) opd_eq (pp_callB (call_reprA hgd hu2) cd_repr rfl (o.free 10) rfl (pl_cons (pp_lst (pl_cons (pp_var 0) (pl_cons (pp_var 1) (pl_cons (pp_var 2) pl_nil)))) pl_nil)) (pp_var 3) rfl))))))))))))))))
def c0_law : M Ent := (compM (rg1 (conM (ret (.int 2)) (ret []))) (putE 8) (ret true) (shM (calM m_law_one [some 1, none] [] (ioM 1 (conM (lstM (conM (ret (.int 0)) (conM (ret (.int 0)) (conM (ret (.int 0)) (conM (ret (.int 1)) (conM (ret (.int 0)) (conM (ret (.int 0)) (conM (ret (.int 2)) (ret []))))))))) (ret []))))) [8])
def b0_law : G := (then_ (setS 7 c0_law) (frzS 7 (andS (mutM 5 appG (conM (shM (calM m_law_drawn [some 1, none, none] [] (ioM 1 (conM (opM addD (rd 3) (opM ixD (rd 7) (ret (.int 0)))) (conM (opM addD (rd 4) (opM ixD (rd 7) (ret (.int 1)))) (ret [])))))) (ret []))) fun _ => done)))
def l0_law : G := (forS (rg1 (conM (ret (.int 3)) (ret []))) (putE 6) b0_law)
def b1_law : G := (then_ (par2S 3 4 (conM (shM (calM m_law_take [some 1, none] [] (ioM 1 (conM (ret (.int 7)) (ret []))))) (conM (shM (calM m_law_take [some 1, none] [] (ioM 1 (conM (ret (.int 7)) (ret []))))) (ret [])))) (then_ (setS 5 (own1 (ret []))) (then_ l0_law (frzS 5 (andS (orM (notM (test (shM (calM m_law_right [none, none, none] [] (conM (opM ixD (rd 5) (ret (.int 0))) (conM (opM ixD (rd 5) (ret (.int 1))) (conM (opM ixD (rd 5) (ret (.int 2))) (ret [])))))))) (notM (test (shM (calM m_law_right [none, none, none] [] (conM (opM ixD (rd 5) (ret (.int 2))) (conM (opM ixD (rd 5) (ret (.int 0))) (conM (opM ixD (rd 5) (ret (.int 1))) (ret []))))))))) fun k => if k = true then (retS (sh1 (ret (.bl false)))) else done)))))
def l1_law : G := (forS (rg1 (conM (ret (.int 8)) (ret []))) (putE 2) b1_law)
def g_law : G := (then_ (setS 1 (calM m_law_bag [none] [] (conM (rd 0) (ret [])))) (then_ l1_law (retS (sh1 (ret (.bl true))))))
def m_law : Fm := runG 9 g_law

theorem ok_law {P : Program} {w : World} {K : KF} {mg : Str → Option Value} (o : Md3 fa fn ex K mg) : ∃ fd, (∀ base : Heap, TbOk K mg base tfs → FnG P w K mg base 8 (He.fAd K ("law", none)) fd ["_law_script"] (spD K 1 [] m_law)) ∧ ∀ (s : Shared) (u : Value), BindsTo s fd ⟨[u], []⟩ [("_law_script", u)] := by
  obtain ⟨fd, F⟩ := o.sd.def_ 18 rfl
  refine ⟨fd, fun base tb => ?_, fun s u => F.bindsA (ps := ["_law_script"]) (fun _ _ _ _ _ _ us hl => match us, hl with | [_], _ => rfl) s [u] rfl⟩
  obtain ⟨fd_law_bag, F_law_bag, kp_law_bag, bd_law_bag⟩ := ok_law_bag (P := P) (w := w) (base := base) o tb
  obtain ⟨fd_law_drawn, F_law_drawn, kp_law_drawn, bd_law_drawn⟩ := ok_law_drawn (P := P) (w := w) (base := base) o tb
  obtain ⟨fd_law_one, F_law_one, kp_law_one, bd_law_one⟩ := ok_law_one (P := P) (w := w) (base := base) o tb
  obtain ⟨fd_law_right, F_law_right, kp_law_right, bd_law_right⟩ := ok_law_right (P := P) (w := w) (base := base) o tb
  obtain ⟨fd_law_take, F_law_take, kp_law_take, bd_law_take⟩ := ok_law_take (P := P) (w := w) (base := base) o tb
  have sc : FnScope ["_law_script", "_law_bag_here", "_law_turn", "_law_witnesses", "_law_events", "_law_some", "_law_k", "_law_more", "_law_j"] ["_law_script"] (defScope (top 24)) := by trivial
  refine fn_d F sc rfl fun cdv A outer s H E hr hgd => ?_
  have hu := hr.units
  have hu2 := room65 hr
  exact (pd_cons (pd_set sc.nd rfl (by first | exact Or.inl rfl | exact Or.inr rfl) rfl (pcl F_law_bag (o.glo 27) kp_law_bag bd_law_bag (plm_sh (pp_var 0) plm_nil))) (pd_cons (pd_for (passes_of rfl) rfl (it_range1 rfl (o.free 6) (pl_cons pp_int pl_nil)) (tg_name sc.nd rfl (by first | exact Or.inl rfl | exact Or.inr rfl) rfl) (pd_cons (pd_par rfl sc.nd rfl rfl (by decide) rfl rfl rfl rfl (pl_cons (pp_of (pcl F_law_take (o.glo 3) kp_law_take bd_law_take (plm_io 1 (plm_sh pp_int plm_nil)))) (pl_cons (pp_of (pcl F_law_take (o.glo 3) kp_law_take bd_law_take (plm_io 1 (plm_sh pp_int plm_nil)))) pl_nil)) rfl) (pd_cons (pd_set sc.nd rfl (by first | exact Or.inl rfl | exact Or.inr rfl) rfl (po_lst pl_nil)) (pd_cons (pd_for (passes_of rfl) rfl (it_range1 rfl (o.free 6) (pl_cons pp_int pl_nil)) (tg_name sc.nd rfl (by first | exact Or.inl rfl | exact Or.inr rfl) rfl) (pd_cons (pd_setLc (own := [("_law_j", 8)]) rfl sc.nd rfl rfl rfl (sw_true rfl rfl rfl (by decide +kernel)) (it_range1 rfl (o.free 6) (pl_cons pp_int pl_nil)) (blkOk_by (N := ["_law_script", "_law_bag_here", "_law_turn", "_law_witnesses", "_law_events", "_law_some", "_law_k", "_law_more", "_law_j"]) (sc := defScope (top 24)) (by decide +kernel)) (by decide) (fun _ => (tw_name sc.nd rfl (by first | exact Or.inl rfl | exact Or.inr rfl) rfl (by decide))) (fun _ => pcs_nil) (fun _ => (pp_of (po_call F_law_one (hr.mono (by decide)) hgd rfl (o.glo 5) kp_law_one bd_law_one .nil (fun _ => .nil) takes0 (plm_io 1 (plm_sh (pp_lst (pl_cons pp_int (pl_cons pp_int (pl_cons pp_int (pl_cons pp_int (pl_cons pp_int (pl_cons pp_int (pl_cons pp_int pl_nil)))))))) plm_nil)))))) (pds_frz 7 rfl (pd_one (pd_expr (pp_mut 5 PySem.F.slot_list_append PySem.F.type_list_append mt_append mut_app rfl (pl_cons (pp_of (pcl F_law_drawn (o.glo 28) kp_law_drawn bd_law_drawn (plm_io 1 (plm_sh (pp_op op_addA opd_add (pp_var 3) (pp_ix (pp_var 7) pp_int)) (plm_sh (pp_op op_addA opd_add (pp_var 4) (pp_ix (pp_var 7) pp_int)) plm_nil))))) pl_nil))))))) (pds_frz 5 rfl (pd_one (pd_if (pbw_pb (pbw_or (pb_not (pb_truth (pp_of (pcl F_law_right (o.glo 29) kp_law_right bd_law_right (plm_sh (pp_ix (pp_var 5) pp_int) (plm_sh (pp_ix (pp_var 5) pp_int) (plm_sh (pp_ix (pp_var 5) pp_int) plm_nil))))))) (pbw_or1 (pb_not (pb_truth (pp_of (pcl F_law_right (o.glo 29) kp_law_right bd_law_right (plm_sh (pp_ix (pp_var 5) pp_int) (plm_sh (pp_ix (pp_var 5) pp_int) (plm_sh (pp_ix (pp_var 5) pp_int) plm_nil)))))))))) (pd_one (pd_ret (po_sh pp_bl))) pd_nil))))))) (pd_one (pd_ret (po_sh pp_bl)))))
end Gk
namespace Lb
open PySem PySem.Spec PyProof.Rows L2 Dl
abbrev Bg := {b : List D // BagOk b}
theorem take_all (B : Bg) (m : Int) : ∃ p : Bg × Nat × Nv, (0 < m → (p.2.1 : Int) < m) ∧ (0 < m → m < 1267650600228229401496703205376 → m_law_take [(.l .sh, .lst B.1), (.sh, .int m)] = .ok (.sh, .int (p.2.1 : Nat)) (some (.l .sh, .lst p.1.1) :: p.2.2)) := by
  by_cases h : 0 < m ∧ m < 1267650600228229401496703205376
  · obtain ⟨b', v, O, e, hb, v0, v1⟩ := take_ok B.2 h.1 h.2
    refine ⟨(⟨b', hb⟩, v.toNat, O), fun _ => by show ((v.toNat : Nat) : Int) < m; omega, fun _ _ => ?_⟩
    show mTake _ = .ok (.sh, .int ((v.toNat : Nat) : Int)) _
    rw [Int.toNat_of_nonneg v0]
    exact e
  · exact ⟨(B, 0, []), fun h0 => by show ((0 : Nat) : Int) < m; omega, fun h1 h2 => absurd ⟨h1, h2⟩ h⟩
noncomputable def tkB (B : Bg) (m : Int) : Bg := (take_all B m).choose.1
noncomputable def tk (B : Bg) (m : Int) : Nat := (take_all B m).choose.2.1
noncomputable def tkO (B : Bg) (m : Int) : Nv := (take_all B m).choose.2.2
theorem tk_lt {B : Bg} {m : Int} (h : 0 < m) : (tk B m : Int) < m := (take_all B m).choose_spec.1 h
theorem take_ev {B : Bg} {m : Int} (h : 0 < m) (h2 : m < 1267650600228229401496703205376) : m_law_take [(.l .sh, .lst B.1), (.sh, .int m)] = .ok (.sh, .int (tk B m : Nat)) (some (.l .sh, .lst (tkB B m).1) :: tkO B m) := (take_all B m).choose_spec.2 h h2
theorem one_all (B : Bg) (xs : List D) : ∃ p : Bg × D × Nv, (0 < xs.length → p.2.1 ∈ xs) ∧ (0 < xs.length → xs.length < 1267650600228229401496703205376 → m_law_one [(.l .sh, .lst B.1), (.sh, .lst xs)] = .ok (.sh, p.2.1) (some (.l .sh, .lst p.1.1) :: p.2.2)) := by
  by_cases h : 0 < xs.length ∧ xs.length < 1267650600228229401496703205376
  · obtain ⟨b', v, O, e, hb, hv⟩ := one_ok B.2 h.1 h.2
    exact ⟨(⟨b', hb⟩, v, O), fun _ => hv, fun _ _ => e⟩
  · cases xs with
    | nil => exact ⟨(B, .non, []), fun h0 => by simp at h0, fun h0 => by simp at h0⟩
    | cons x xs => exact ⟨(B, x, []), fun _ => List.mem_cons_self, fun h1 h2 => absurd ⟨h1, h2⟩ h⟩
noncomputable def oneB (B : Bg) (xs : List D) : Bg := (one_all B xs).choose.1
noncomputable def oneV (B : Bg) (xs : List D) : D := (one_all B xs).choose.2.1
noncomputable def oneO (B : Bg) (xs : List D) : Nv := (one_all B xs).choose.2.2
theorem oneV_mem {B : Bg} {xs : List D} (h : 0 < xs.length) : oneV B xs ∈ xs := (one_all B xs).choose_spec.1 h
theorem one_ev {B : Bg} {xs : List D} (h : 0 < xs.length) (h2 : xs.length < 1267650600228229401496703205376) : m_law_one [(.l .sh, .lst B.1), (.sh, .lst xs)] = .ok (.sh, oneV B xs) (some (.l .sh, .lst (oneB B xs).1) :: oneO B xs) := (one_all B xs).choose_spec.2 h h2
theorem number_all (B : Bg) : ∃ p : Bg × Int × Nv, (-1000000000000 ≤ p.2.1 ∧ p.2.1 ≤ 1000000000000) ∧ m_law_number [(.l .sh, .lst B.1)] = .ok (.sh, .int p.2.1) (some (.l .sh, .lst p.1.1) :: p.2.2) := by
  obtain ⟨b', v, O, e, hb, h1, h2⟩ := number_ok B.2
  exact ⟨(⟨b', hb⟩, v, O), ⟨h1, h2⟩, e⟩
noncomputable def nuB (B : Bg) : Bg := (number_all B).choose.1
noncomputable def nuV (B : Bg) : Int := (number_all B).choose.2.1
noncomputable def nuO (B : Bg) : Nv := (number_all B).choose.2.2
theorem nuV_bd (B : Bg) : -1000000000000 ≤ nuV B ∧ nuV B ≤ 1000000000000 := (number_all B).choose_spec.1
theorem number_ev (B : Bg) : m_law_number [(.l .sh, .lst B.1)] = .ok (.sh, .int (nuV B)) (some (.l .sh, .lst (nuB B).1) :: nuO B) := (number_all B).choose_spec.2
def kiS : Bool → Str
  | true => "early"
  | false => "late"
def siS : Bool → Str
  | true => "least"
  | false => "most"
theorem kind_all (B : Bg) : ∃ p : Bg × Bool × Nv, m_law_kind [(.l .sh, .lst B.1)] = .ok (.sh, .str (kiS p.2.1)) (some (.l .sh, .lst p.1.1) :: p.2.2) := by
  obtain ⟨b', v, O, e, hb, h⟩ := kind_ok B.2
  rcases h with rfl | rfl
  · exact ⟨(⟨b', hb⟩, true, O), e⟩
  · exact ⟨(⟨b', hb⟩, false, O), e⟩
noncomputable def kdB (B : Bg) : Bg := (kind_all B).choose.1
noncomputable def kdV (B : Bg) : Bool := (kind_all B).choose.2.1
noncomputable def kdO (B : Bg) : Nv := (kind_all B).choose.2.2
theorem kind_ev (B : Bg) : m_law_kind [(.l .sh, .lst B.1)] = .ok (.sh, .str (kiS (kdV B))) (some (.l .sh, .lst (kdB B).1) :: kdO B) := (kind_all B).choose_spec
theorem bag_all (ns : List Int) : ∃ p : Bg × Nv, ns.length ≤ 63 → m_law_bag [(.sh, .frl ns)] = .ok (.l .sh, .lst p.1.1) p.2 := by
  by_cases h : ns.length ≤ 63
  · obtain ⟨b, O, e, hb⟩ := bag_ok h
    exact ⟨(⟨b, hb⟩, O), fun _ => e⟩
  · obtain ⟨b, O, e, hb⟩ := bag_ok (ns := []) (by decide)
    exact ⟨(⟨b, hb⟩, O), fun z => absurd z h⟩
noncomputable def bag0 (ns : List Int) : Bg := (bag_all ns).choose.1
noncomputable def bagO (ns : List Int) : Nv := (bag_all ns).choose.2
theorem bag_ev {ns : List Int} (h : ns.length ≤ 63) : m_law_bag [(.sh, .frl ns)] = .ok (.l .sh, .lst (bag0 ns).1) (bagO ns) := (bag_all ns).choose_spec h
structure Tl where
  w : Nat
  e : Nat
  x : Int
deriving DecidableEq
structure Gp where
  a : Nat
  b : Nat
  g : Int
deriving DecidableEq
structure Sr where
  e : Nat
  s : Bool
  x : Int
deriving DecidableEq
structure Cl where
  w : Nat
  k : Bool
  v : Nat
  l : Bool
deriving DecidableEq
def Tl.d (t : Tl) : D := .tup [.int (t.w : Nat), .int (t.e : Nat), .int t.x]
def Gp.d (t : Gp) : D := .tup [.int (t.a : Nat), .int (t.b : Nat), .int t.g]
def Sr.d (t : Sr) : D := .tup [.int (t.e : Nat), .str (siS t.s), .int t.x]
def Cl.d (t : Cl) : D := .tup [.int (t.w : Nat), .str (kiS t.k), .int (t.v : Nat), .str (kiS t.l)]
structure Bk where
  ev : Nat
  wi : Nat
  tel : List Tl
  gap : List Gp
  sur : List Sr
  cla : List Cl
abbrev Bk.z (b : Bk) : Sz := ⟨(b.ev : Nat), (b.wi : Nat)⟩
def TlOk (ev wi : Nat) (t : Tl) : Prop := t.w < wi ∧ t.e < ev ∧ Big t.x
def GpOk (ev : Nat) (t : Gp) : Prop := t.a < ev ∧ t.b < ev ∧ t.a ≠ t.b ∧ Big t.g
def SrOk (ev : Nat) (t : Sr) : Prop := t.e < ev ∧ Big t.x
def ClOk (wi : Nat) (t : Cl) : Prop := t.w < wi ∧ t.v < wi
structure BkO (b : Bk) : Prop where
  e8 : b.ev ≤ 8
  w8 : b.wi ≤ 8
  t : ∀ t ∈ b.tel, TlOk b.ev b.wi t
  g : ∀ t ∈ b.gap, GpOk b.ev t
  s : ∀ t ∈ b.sur, SrOk b.ev t
  c : ∀ t ∈ b.cla, ClOk b.wi t
  tn : b.tel.length ≤ 24
  gn : b.gap.length ≤ 24
  sn : b.sur.length ≤ 24
  cn : b.cla.length ≤ 24
def Bk.d (b : Bk) : D := bookD b.z (b.tel.map Tl.d) (b.gap.map Gp.d) (b.sur.map Sr.d) (b.cla.map Cl.d)
theorem kiS_or (k : Bool) : kiS k = "early" ∨ kiS k = "late" := by cases k; exact .inr rfl; exact .inl rfl
theorem siS_or (k : Bool) : siS k = "least" ∨ siS k = "most" := by cases k; exact .inr rfl; exact .inl rfl
theorem TlOk.tel {ev wi : Nat} {t : Tl} (h : TlOk ev wi t) : Tel ⟨(ev : Nat), (wi : Nat)⟩ t.d := .mk _ _ _ (by omega) (by have := h.1; show (t.w : Int) < wi; omega) (by omega) (by have := h.2.1; show (t.e : Int) < ev; omega) h.2.2
theorem GpOk.gap {ev : Nat} {wi : Int} {t : Gp} (h : GpOk ev t) : Gap ⟨(ev : Nat), wi⟩ t.d := .mk _ _ _ (by omega) (by have := h.1; show (t.a : Int) < ev; omega) (by omega) (by have := h.2.1; show (t.b : Int) < ev; omega) (by have := h.2.2.1; omega) h.2.2.2
theorem SrOk.sur {ev : Nat} {wi : Int} {t : Sr} (h : SrOk ev t) : Sur ⟨(ev : Nat), wi⟩ t.d := .mk _ _ _ (by omega) (by have := h.1; show (t.e : Int) < ev; omega) (siS_or _) h.2
theorem ClOk.cla {ev : Int} {wi : Nat} {t : Cl} (h : ClOk wi t) : Cla ⟨ev, (wi : Nat)⟩ t.d := .mk _ _ _ _ (by omega) (by have := h.1; show (t.w : Int) < wi; omega) (kiS_or _) (by omega) (by have := h.2; show (t.v : Int) < wi; omega) (kiS_or _)
theorem BkO.sz {b : Bk} (h : BkO b) : SzOk b.z := ⟨by show (0 : Int) ≤ b.ev; omega, by have := h.e8; show (b.ev : Int) ≤ 8; omega, by show (0 : Int) ≤ b.wi; omega, by have := h.w8; show (b.wi : Int) ≤ 8; omega⟩
structure P4 where
  a : List Tl
  b : List Gp
  c : List Sr
  d : List Cl
structure DrawnP (ev wi : Nat) (m : Int) (p : P4) : Prop where
  t : ∀ t ∈ p.a, t.w < wi ∧ t.e < ev ∧ -1000000000000 ≤ t.x ∧ t.x ≤ 1000000000000
  g : ∀ t ∈ p.b, t.a < ev ∧ t.b < ev ∧ t.a ≠ t.b ∧ -4 ≤ t.g ∧ t.g ≤ 4
  s : ∀ t ∈ p.c, t.e < ev ∧ -1000000000000 ≤ t.x ∧ t.x ≤ 1000000000000
  c : ∀ t ∈ p.d, t.w < wi ∧ t.v < wi
  tn : (p.a.length : Int) ≤ m
  gn : p.b.length ≤ 11
  sn : p.c.length ≤ 3
  cn : p.d.length ≤ 3
def P4.l (p : P4) : List D := [.lst (p.a.map Tl.d), .lst (p.b.map Gp.d), .lst (p.c.map Sr.d), .lst (p.d.map Cl.d)]
def P4.k (p : P4) (ev wi : Nat) : Bk := ⟨ev, wi, p.a, p.b, p.c, p.d⟩
theorem DrawnP.bk {ev wi : Nat} {m : Int} {p : P4} (h : DrawnP ev wi m p) (e : ev ≤ 8) (w : wi ≤ 8) (hm : m ≤ 24) : BkO (p.k ev wi) where
  e8 := e
  w8 := w
  t := fun t i => by obtain ⟨h1, h2, h3, h4⟩ := h.t t i; exact ⟨h1, h2, by omega, by omega⟩
  g := fun t i => by obtain ⟨h1, h2, h3, h4, h5⟩ := h.g t i; exact ⟨h1, h2, h3, by omega, by omega⟩
  s := fun t i => by obtain ⟨h1, h2, h3⟩ := h.s t i; exact ⟨h1, by omega, by omega⟩
  c := fun t i => by obtain ⟨h1, h2⟩ := h.c t i; exact ⟨h1, h2⟩
  tn := by have := h.tn; show p.a.length ≤ 24; omega
  gn := Nat.le_trans h.gn (by decide)
  sn := Nat.le_trans h.sn (by decide)
  cn := Nat.le_trans h.cn (by decide)
end Lb
namespace Lb
open PySem PySem.Spec PyProof.Rows L2 Dl
mutual
def okD : D → Bool
  | .lst xs => okDs xs
  | .tup xs => okDs xs
  | .dct _ _ => true
  | .ins c _ _ => c == "Book"
  | .ty _ => false
  | .cl _ => false
  | .frl _ => false
  | .non => true
  | .bl _ => true
  | .int _ => true
  | .str _ => true
def okDs : List D → Bool
  | [] => true
  | x :: r => okD x && okDs r
end
structure ThL (k N : Nat) (xs : List D) : Prop where
  ex : ∃ ps, toPs xs = some ps ∧ PyData.showableAll ps = true ∧ PyData.hasDictAll ps = false ∧ PyData.canLayAll0 ps = true ∧ PyData.leavesShortAll 1921 ps = true ∧ PyData.depthAll ps ≤ k ∧ PyData.bulkAll ps ≤ N
  ok : okDs xs = true
structure Th (k N : Nat) (d : D) : Prop where
  fit : Fit k N d
  ok : okD d = true
theorem Th.up {k N k' N' : Nat} {d : D} (h : Th k N d) (a : k ≤ k') (b : N ≤ N') : Th k' N' d := ⟨h.fit.up a b, h.ok⟩
theorem Th.lay {k N : Nat} {d : D} (h : Th k N d) (a : k ≤ 60) : Lay d := h.fit.lay a
theorem ThL.up {k N k' N' : Nat} {xs : List D} (h : ThL k N xs) (a : k ≤ k') (b : N ≤ N') : ThL k' N' xs := by
  obtain ⟨⟨ps, h1, h2, h3, h4, h5, h6, h7⟩, o⟩ := h
  exact ⟨⟨ps, h1, h2, h3, h4, h5, Nat.le_trans h6 a, Nat.le_trans h7 b⟩, o⟩
theorem th_int {i : Int} (h : i.natAbs < 2 ^ 200) : Th 0 0 (.int i) := ⟨fit_int h, rfl⟩
theorem th_i {i : Int} (h : -1000000000000000000000000000000000 ≤ i) (h2 : i ≤ 1000000000000000000000000000000000) : Th 0 0 (.int i) := th_int (by omega)
theorem th_n {i : Nat} (h : i ≤ 1000000000000000000000000000000000) : Th 0 0 (.int (i : Nat)) := th_int (by omega)
theorem th_str {x : Str} {n : Nat} (h : PyData.strOk x = true) (l : (x.cps.toList.all fun c => decide (c < 16 ^ 8)) = true) (z : x.cps.size ≤ n) : Th 0 n (.str x) := ⟨fit_str h (by simp only [PyData.leavesShort]; exact l) z, rfl⟩
theorem thl_nil : ThL 0 0 [] := ⟨⟨[], by unfold toPs; rfl, by unfold PyData.showableAll; rfl, by unfold PyData.hasDictAll; rfl, by unfold PyData.canLayAll0; rfl, by unfold PyData.leavesShortAll; rfl, by unfold PyData.depthAll; omega, by unfold PyData.bulkAll; omega⟩, rfl⟩
theorem thl_cons {k k' n m : Nat} {x : D} {xs : List D} (h : Th k n x) (hs : ThL k' m xs) : ThL (max k k') (n + 1 + m) (x :: xs) := by
  obtain ⟨⟨p, e1, e2, e3, e4, e5, e6, e7⟩, o⟩ := h
  obtain ⟨⟨ps, f1, f2, f3, f4, f5, f6, f7⟩, os⟩ := hs
  refine ⟨⟨p :: ps, ?_, ?_, ?_, ?_, ?_, ?_, ?_⟩, ?_⟩
  · unfold toPs; rw [e1, f1]
  · unfold PyData.showableAll; rw [e2, f2]; rfl
  · unfold PyData.hasDictAll; rw [e3, f3]; rfl
  · unfold PyData.canLayAll0; rw [e4, f4]; rfl
  · unfold PyData.leavesShortAll; rw [e5, f5]; rfl
  · unfold PyData.depthAll; omega
  · unfold PyData.bulkAll; omega
  · show (okD x && okDs xs) = true
    rw [o, os]; rfl
theorem thl_all {k n : Nat} : ∀ {xs : List D}, (∀ x ∈ xs, Th k n x) → ThL k (xs.length * (n + 1)) xs
  | [], _ => thl_nil.up (Nat.zero_le _) (Nat.zero_le _)
  | x :: xs, h => (thl_cons (h x List.mem_cons_self) (thl_all fun y m => h y (List.mem_cons_of_mem _ m))).up (by omega) (by rw [List.length_cons, Nat.add_mul, Nat.one_mul]; omega)
theorem thl_map {α : Type} {k n : Nat} {f : α → D} {l : List α} (h : ∀ x ∈ l, Th k n (f x)) : ThL k (l.length * (n + 1)) (l.map f) := by
  have r := thl_all (xs := l.map f) (k := k) (n := n) fun x m => by
    obtain ⟨y, hy, rfl⟩ := List.mem_map.mp m
    exact h y hy
  rw [List.length_map] at r
  exact r
theorem th_tup {k N : Nat} {xs : List D} (h : ThL k N xs) : Th (k + 1) N (.tup xs) := by
  obtain ⟨⟨ps, f1, f2, f3, f4, f5, f6, f7⟩, o⟩ := h
  exact ⟨⟨.tuple ps, by unfold toP; rw [f1]; rfl, by simp only [PyData.showable]; exact f2, by simp only [PyData.hasDict]; exact f3, by simp only [PyData.canLay0]; exact f4, by simp only [PyData.leavesShort]; exact f5, by simp only [PyData.depth]; omega, by simp only [PyData.bulk]; exact f7⟩, o⟩
theorem th_lst {k N : Nat} {xs : List D} (h : ThL k N xs) : Th (k + 1) N (.lst xs) := by
  obtain ⟨⟨ps, f1, f2, f3, f4, f5, f6, f7⟩, o⟩ := h
  exact ⟨⟨.list ps, by unfold toP; rw [f1]; rfl, by simp only [PyData.showable]; exact f2, by simp only [PyData.hasDict]; exact f3, by simp only [PyData.canLay0]; exact f4, by simp only [PyData.leavesShort]; exact f5, by simp only [PyData.depth]; omega, by simp only [PyData.bulk]; exact f7⟩, o⟩
theorem th_kind (b : Bool) : Th 0 5 (.str (kiS b)) := by
  cases b
  · exact th_str (by decide +kernel) (by decide +kernel) (by decide +kernel)
  · exact th_str (by decide +kernel) (by decide +kernel) (by decide +kernel)
theorem repr_all (d : D) : ∃ s : Str, (∃ k N, Th k N d ∧ k ≤ 40 ∧ N ≤ 2000) ∨ d = .dct [] [] → reprD [d] = some (.str s) := by
  by_cases h : (∃ k N, Th k N d ∧ k ≤ 40 ∧ N ≤ 2000) ∨ d = .dct [] []
  · rcases h with ⟨k, N, h1, h2, h3⟩ | rfl
    · obtain ⟨s, e⟩ := repr_fit h1.fit h2 h3
      exact ⟨s, fun _ => e⟩
    · exact ⟨"{}", fun _ => rfl⟩
  · exact ⟨"", fun z => absurd z h⟩
noncomputable def rpS (d : D) : Str := (repr_all d).choose
theorem repr_ev {k N : Nat} {d : D} (h : Th k N d) (a : k ≤ 40) (b : N ≤ 2000) : reprD [d] = some (.str (rpS d)) := (repr_all d).choose_spec (.inl ⟨k, N, h, a, b⟩)
def deq (d e : D) : Bool := match toP d, toP e with
  | some p, some q => PyData.eqv p q
  | _, _ => false
theorem eqB_ev {d e : D} (h : Lay d) (h' : Lay e) : eqB d e = some (deq d e) := by
  obtain ⟨p, e1, c1, d1⟩ := h
  obtain ⟨q, e2, c2, d2⟩ := h'
  have s1 : SeqAt.shaped p = true := by unfold SeqAt.shaped; rw [c1, decide_eq_true (show p.depth ≤ 64 by omega)]; rfl
  have s2 : SeqAt.shaped q = true := by unfold SeqAt.shaped; rw [c2, decide_eq_true (show q.depth ≤ 64 by omega)]; rfl
  have dp : deepEq d e = some (PyData.eqv p q) := by
    unfold deepEq
    rw [e1, e2]
    simp only
    rw [if_pos ⟨s1, s2⟩]
  unfold deq
  rw [e1, e2]
  simp only
  unfold eqB
  cases f1 : flat d with
  | none => exact dp
  | some v =>
    cases f2 : flat e with
    | none => exact dp
    | some w =>
      simp only
      by_cases c : scal v w = true
      · rw [if_pos c]
        congr 1
        cases d <;> cases f1 <;> cases e <;> cases f2 <;> first | (cases c; done) | skip
        all_goals
          unfold toP at e1 e2
          cases e1
          cases e2
          simp [PyData.eqv]
          try (rw [Bool.eq_iff_iff]; simp)
      · rw [if_neg c]; exact dp
theorem eqD_ev {d e : D} (h : Lay d) (h' : Lay e) : eqD d e = some (.bl (deq d e)) := by unfold eqD; rw [eqB_ev h h']; rfl
mutual
theorem eqv_self : ∀ p : PyData, p.hasDict = false → PyData.eqv p p = true
  | .none, _ => by simp [PyData.eqv]
  | .bool b, _ => by simp [PyData.eqv]
  | .int i, _ => by simp [PyData.eqv]
  | .str x, _ => by simp [PyData.eqv]
  | .list xs, h => by
    simp only [PyData.eqv]
    exact eqv_selfs xs (by simpa only [PyData.hasDict] using h)
  | .tuple xs, h => by
    simp only [PyData.eqv]
    exact eqv_selfs xs (by simpa only [PyData.hasDict] using h)
  | .dict kvs, h => by simp [PyData.hasDict] at h
theorem eqv_selfs : ∀ ps : List PyData, PyData.hasDictAll ps = false → PyData.eqvAll ps ps = true
  | [], _ => by simp [PyData.eqvAll]
  | p :: ps, h => by
    unfold PyData.hasDictAll at h
    rw [Bool.or_eq_false_iff] at h
    simp only [PyData.eqvAll]
    rw [eqv_self p h.1, eqv_selfs ps h.2]
    rfl
end
theorem deq_self {k N : Nat} {d : D} (h : Th k N d) : deq d d = true := by
  obtain ⟨⟨p, f1, f2, f3, f4, f5, f6, f7⟩, o⟩ := h
  unfold deq
  rw [f1]
  exact eqv_self p f3
theorem eq_self {k N : Nat} {d : D} (h : Th k N d) (a : k ≤ 60) : eqD d d = some (.bl true) := by rw [eqD_ev (h.lay a) (h.lay a), deq_self h]
theorem neSt (s : Str) : neD (.str s) (.str s) = some (.bl false) := by simp [neD, eqB, flat, scal]
theorem eqSt (s : Str) : eqD (.str s) (.str s) = some (.bl true) := by simp [eqD, eqB, flat, scal]
end Lb
namespace Lb
open PySem PySem.Spec PyProof.Rows L2 Dl
theorem b_ev (b : Bk) : attrD ["Book"] "events" b.d = some (.int (b.ev : Nat)) := rfl
theorem b_wi (b : Bk) : attrD ["Book"] "witnesses" b.d = some (.int (b.wi : Nat)) := rfl
theorem b_te (b : Bk) : attrD ["Book"] "tellings" b.d = some (.tup (b.tel.map Tl.d)) := rfl
theorem b_ga (b : Bk) : attrD ["Book"] "gaps" b.d = some (.tup (b.gap.map Gp.d)) := rfl
theorem b_su (b : Bk) : attrD ["Book"] "sure" b.d = some (.tup (b.sur.map Sr.d)) := rfl
theorem b_cl (b : Bk) : attrD ["Book"] "clauses" b.d = some (.tup (b.cla.map Cl.d)) := rfl
def Bk.l (b : Bk) : List D := [.lst (b.tel.map Tl.d), .lst (b.gap.map Gp.d), .lst (b.sur.map Sr.d), .lst (b.cla.map Cl.d)]
theorem bl_0 (b : Bk) : b.l[0]? = some (.lst (b.tel.map Tl.d)) := rfl
theorem bl_1 (b : Bk) : b.l[1]? = some (.lst (b.gap.map Gp.d)) := rfl
theorem bl_2 (b : Bk) : b.l[2]? = some (.lst (b.sur.map Sr.d)) := rfl
theorem bl_3 (b : Bk) : b.l[3]? = some (.lst (b.cla.map Cl.d)) := rfl
theorem neI (i j : Int) : neD (.int i) (.int j) = some (.bl (!decide (i = j))) := by
  have e := eqI i j
  unfold eqD at e
  unfold neD
  cases q : eqB (D.int i) (D.int j) with
  | none => rw [q] at e; cases e
  | some b => rw [q] at e; cases e; rfl
theorem isNI (i : Int) : isND (.int i) .non = some (.bl false) := rfl
theorem isNN : isND .non .non = some (.bl true) := rfl
theorem isNT (xs : List D) : isND (.tup xs) .non = some (.bl false) := rfl
theorem isNS (x : Str) : isND (.str x) .non = some (.bl false) := rfl
theorem snt : ((("sure" : Str)) = "told") = False := eq_false (by decide)
theorem lne : ((("late" : Str)) = "early") = False := eq_false (by decide)
theorem eln : ((("early" : Str)) = "late") = False := eq_false (by decide)
theorem mnl : ((("most" : Str)) = "least") = False := eq_false (by decide)
theorem lnm : ((("least" : Str)) = "most") = False := eq_false (by decide)
theorem siL (s : Bool) : (siS s = "least") = (s = true) := by cases s <;> simp [siS] <;> decide
theorem siM (s : Bool) : (siS s = "most") = (s = false) := by cases s <;> simp [siS] <;> decide
theorem kiE (s : Bool) : (kiS s = "early") = (s = true) := by cases s <;> simp [kiS] <;> decide
theorem kiL (s : Bool) : (kiS s = "late") = (s = false) := by cases s <;> simp [kiS] <;> decide
theorem kiK (s t : Bool) : (kiS s = kiS t) = (s = t) := by cases s <;> cases t <;> simp [kiS] <;> decide
theorem siI (s t : Bool) : (siS s = siS t) = (s = t) := by cases s <;> cases t <;> simp [siS] <;> decide
theorem dtt (s : Bool) : decide (s = true) = s := by cases s <;> rfl
theorem dff (s : Bool) : decide (s = false) = !s := by cases s <;> rfl
theorem cst0 : ((0 : Nat) : Int) = 0 := rfl
theorem cst1 : ((0 + 1 : Nat) : Int) = 1 := rfl
theorem cst2 : ((0 + 1 + 1 : Nat) : Int) = 2 := rfl
theorem cst3 : ((0 + 1 + 1 + 1 : Nat) : Int) = 3 := rfl
theorem cst4 : ((0 + 1 + 1 + 1 + 1 : Nat) : Int) = 4 := rfl
theorem cst5 : ((0 + 1 + 1 + 1 + 1 + 1 : Nat) : Int) = 5 := rfl
theorem cst6 : ((0 + 1 + 1 + 1 + 1 + 1 + 1 : Nat) : Int) = 6 := rfl
theorem tgN_ap (E : Nv) : tgN [] E = some E := rfl
theorem tgC_ap (h : D → Nv → Option Nv) (hs : List D → Nv → Option Nv) (d : D) (ds : List D) (E : Nv) : tgC h hs (d :: ds) E = (h d E).bind (hs ds) := rfl
theorem putE_ap (i : Nat) (d : D) (E : Nv) : putE i d E = some (E.set i (some (.sh, d))) := rfl
theorem tgL2_ap (hs : List D → Nv → Option Nv) (a b : D) (E : Nv) : tgT 2 hs (.lst [a, b]) E = hs [a, b] E := rfl
theorem tgL3_ap (hs : List D → Nv → Option Nv) (a b c : D) (E : Nv) : tgT 3 hs (.lst [a, b, c]) E = hs [a, b, c] E := rfl
theorem tgL4_ap (hs : List D → Nv → Option Nv) (a b c d : D) (E : Nv) : tgT 4 hs (.lst [a, b, c, d]) E = hs [a, b, c, d] E := rfl
theorem tgT2_ap (hs : List D → Nv → Option Nv) (a b : D) (E : Nv) : tgT 2 hs (.tup [a, b]) E = hs [a, b] E := rfl
theorem tgT3_ap (hs : List D → Nv → Option Nv) (a b c : D) (E : Nv) : tgT 3 hs (.tup [a, b, c]) E = hs [a, b, c] E := rfl
theorem tgT4_ap (hs : List D → Nv → Option Nv) (a b c d : D) (E : Nv) : tgT 4 hs (.tup [a, b, c, d]) E = hs [a, b, c, d] E := rfl
theorem tgT5_ap (hs : List D → Nv → Option Nv) (a b c d e : D) (E : Nv) : tgT 5 hs (.tup [a, b, c, d, e]) E = hs [a, b, c, d, e] E := rfl
theorem tgT6_ap (hs : List D → Nv → Option Nv) (a b c d e f : D) (E : Nv) : tgT 6 hs (.tup [a, b, c, d, e, f]) E = hs [a, b, c, d, e, f] E := rfl
theorem par2_ap (i j : Nat) (f : M (List D)) (E : Nv) : par2S i j f E = anR (f E) fun ds E => match ds with
  | [d, e] => .nx ((E.set i (some (.sh, d))).set j (some (.sh, e)))
  | _ => .stk := by unfold par2S; exact andS_ap _ _ _
theorem compF {α : Type} {l : List α} {emb g : α → D} {c : α → Bool} {f0 : M (List D)} {asg : D → Nv → Option Nv} {cond : M Bool} {elt : M D} {vs : List Nat} {E EA E0 : Nv} {E1 : α → Nv} (h0 : f0 E = .ok (l.map emb) EA) (w : wpe EA vs = E0)
    (h : ∀ x ∈ l, asg (emb x) E0 = some (E1 x) ∧ cond (E1 x) = .ok (c x) (E1 x) ∧ (c x = true → elt (E1 x) = .ok (g x) (E1 x)) ∧ wpe (E1 x) vs = E0) (z : l.length ≤ sizeLine) :
    compM f0 asg cond elt vs E = .ok (.l .sh, .lst ((l.filter c).map g)) E0 := by
  have main : ∀ (l : List α) (acc : List D) (E : Nv), wpe E vs = E0 → (∀ x ∈ l, asg (emb x) E0 = some (E1 x) ∧ cond (E1 x) = .ok (c x) (E1 x) ∧ (c x = true → elt (E1 x) = .ok (g x) (E1 x)) ∧ wpe (E1 x) vs = E0) → acc.length + l.length ≤ sizeLine →
      compL asg cond elt vs (l.map emb) acc E = .ok (acc ++ (l.filter c).map g) E0 := by
    intro l
    induction l with
    | nil =>
      intro acc E w _ _
      show Rs.ok acc (wpe E vs) = _
      rw [w, List.filter_nil, List.map_nil, List.append_nil]
    | cons x l ih =>
      intro acc E w h z
      obtain ⟨h1, h2, h3, h4⟩ := h x List.mem_cons_self
      rw [List.length_cons] at z
      show (match asg (emb x) (wpe E vs) with
        | none => Rs.stk
        | some E1 => match cond E1 with
          | .ok true E2 => (match elt E2 with
            | .ok y E3 => if acc.length < sizeLine then compL asg cond elt vs (l.map emb) (acc ++ [y]) E3 else .stk
            | _ => .stk)
          | .ok false E2 => compL asg cond elt vs (l.map emb) acc E2
          | _ => Rs.stk) = _
      rw [w, h1]
      simp only [h2]
      cases q : c x with
      | true =>
        simp only [h3 q]
        rw [if_pos (by omega), ih _ _ h4 (fun y m => h y (List.mem_cons_of_mem _ m)) (by rw [List.length_append, List.length_singleton]; omega), List.filter_cons_of_pos q, List.map_cons, List.append_assoc]
        rfl
      | false =>
        simp only
        rw [ih _ _ h4 (fun y m => h y (List.mem_cons_of_mem _ m)) (by omega), List.filter_cons_of_neg (by rw [q]; exact Bool.false_ne_true)]
  unfold compM
  rw [bnd_ap, h0, bdR_ok, bnd_ap, main l [] EA w h (by rw [List.length_nil]; omega), bdR_ok, List.nil_append]
  rfl
theorem compT {α : Type} {l : List α} {emb g : α → D} {f0 : M (List D)} {asg : D → Nv → Option Nv} {elt : M D} {vs : List Nat} {E EA E0 : Nv} {E1 : α → Nv} (h0 : f0 E = .ok (l.map emb) EA) (w : wpe EA vs = E0)
    (h : ∀ x ∈ l, asg (emb x) E0 = some (E1 x) ∧ elt (E1 x) = .ok (g x) (E1 x) ∧ wpe (E1 x) vs = E0) (z : l.length ≤ sizeLine) :
    compM f0 asg (Dl.ret true) elt vs E = .ok (.l .sh, .lst (l.map g)) E0 := by
  have r := compF (c := fun _ => true) (cond := Dl.ret true) h0 w (fun x m => ⟨(h x m).1, rfl, fun _ => (h x m).2.1, (h x m).2.2⟩) z
  rw [List.filter_eq_self.mpr fun _ _ => rfl] at r
  exact r
end Lb
namespace Lb
open PySem PySem.Spec PyProof.Rows L2 Dl
def iD (i : Nat) : D := .int (i : Nat)
inductive Sc where
  | told (i : Nat)
  | sure (i : Nat)
deriving DecidableEq
def Sc.d : Sc → D
  | .told i => .tup [.str "told", .int (i : Nat)]
  | .sure i => .tup [.str "sure", .int (i : Nat)]
def Sc.ok (b : Bk) : Sc → Prop
  | .told i => i < b.tel.length
  | .sure i => i < b.sur.length
def evS (b : Bk) : Sc → Nat
  | .told i => (b.tel[i]?.map Tl.e).getD 0
  | .sure i => (b.sur[i]?.map Sr.e).getD 0
def nuS (b : Bk) : Sc → Int
  | .told i => (b.tel[i]?.map Tl.x).getD 0
  | .sure i => (b.sur[i]?.map Sr.x).getD 0
def loS (b : Bk) : Sc → Bool
  | .told _ => true
  | .sure i => (b.sur[i]?.map Sr.s).getD false
def hiS (b : Bk) : Sc → Bool
  | .told _ => true
  | .sure i => (b.sur[i]?.map fun t => !t.s).getD false
def wiS (b : Bk) : Sc → Option Nat
  | .told i => b.tel[i]?.map Tl.w
  | .sure _ => none
theorem Sc.getT {b : Bk} {i : Nat} (h : (Sc.told i).ok b) : b.tel[i]? = some (b.tel[i]'h) := List.getElem?_eq_getElem h
end Lb
namespace Lb
open PySem PySem.Spec PyProof.Rows L2 Dl
theorem ThL.len {k N : Nat} {xs : List D} (h : ThL k N xs) : xs.length ≤ N := by
  obtain ⟨⟨ps, h1, h2, h3, h4, h5, h6, h7⟩, o⟩ := h
  have e : ∀ {xs : List D} {ps : List PyData}, toPs xs = some ps → xs.length ≤ PyData.bulkAll ps := by
    intro xs
    induction xs with
    | nil => intro ps _; exact Nat.zero_le _
    | cons x xs ih =>
      intro ps h
      obtain ⟨p, qs, e1, e2, rfl⟩ := toPs_cons h
      have := ih e2
      unfold PyData.bulkAll
      rw [List.length_cons]
      omega
  exact Nat.le_trans (e h1) h7
end Lb
namespace Lb
open PySem PySem.Spec PyProof.Rows L2 Dl
abbrev Lit := Nat × Bool
def litD (l : Lit) : D := .tup [.int (l.1 : Nat), .str (kiS l.2)]
theorem toPs_map {α : Type} {f : α → D} {g : α → PyData} (h : ∀ x, toP (f x) = some (g x)) : ∀ l : List α, toPs (l.map f) = some (l.map g)
  | [] => by simp [toPs]
  | x :: l => by simp [toPs, h, toPs_map h l]
theorem shp_list {α : Type} {g : α → PyData} {k : Nat} (h : ∀ x, (g x).canLay0 = true ∧ (g x).depth ≤ k) (hk : k ≤ 60) (l : List α) : SeqAt.shaped (.list (l.map g)) = true := by
  have c : ∀ l : List α, PyData.canLayAll0 (l.map g) = true ∧ PyData.depthAll (l.map g) ≤ k := by
    intro l
    induction l with
    | nil => exact ⟨by simp [PyData.canLayAll0], by simp [PyData.depthAll]⟩
    | cons x l ih =>
      constructor
      · simp [PyData.canLayAll0, (h x).1, ih.1]
      · simp only [List.map_cons, PyData.depthAll]
        have := (h x).2
        have := ih.2
        omega
  unfold SeqAt.shaped
  simp only [PyData.canLay0, PyData.depth]
  rw [(c l).1, Bool.true_and]
  exact decide_eq_true (by have := (c l).2; show PyData.depthAll (l.map g) + 1 ≤ 64; omega)
def pairsL (b : Bk) (s e : Sc) : List (Lit × Lit) := match wiS b s, wiS b e with
  | none, none => []
  | none, some v => [((v, false), (v, true))]
  | some w, none => [((w, true), (w, false))]
  | some w, some v => [((w, true), (v, true)), ((v, false), (w, false))]
def pairsC (c : Cl) : List (Lit × Lit) := [((c.w, !c.k), (c.v, c.l)), ((c.v, !c.l), (c.w, c.k))]
end Lb
namespace Lb
open PySem PySem.Spec PyProof.Rows L2 Dl
def coR (r : Rs Ent) (fs : M (List Ent)) : Rs (List Ent) := match r with
  | .ok p E1 => (match fs E1 with
    | .ok ps E2 => .ok (p :: ps) E2
    | _ => .stk)
  | _ => .stk
def coR2 (p : Ent) (r : Rs (List Ent)) : Rs (List Ent) := match r with
  | .ok ps E2 => .ok (p :: ps) E2
  | _ => .stk
theorem conO_ap (fa : M Ent) (fs : M (List Ent)) (E : Nv) : conO fa fs E = coR (fa E) fs := rfl
theorem coR_ok (p : Ent) (E : Nv) (fs : M (List Ent)) : coR (.ok p E) fs = coR2 p (fs E) := rfl
theorem coR2_ok (p : Ent) (ps : List Ent) (E : Nv) : coR2 p (.ok ps E) = .ok (p :: ps) E := rfl
def asO (is : List Nat) (r : Rs (List Ent)) : Fl := match r with
  | .ok ps E1 => if ps.length = is.length ∧ small ps.length = true then (match setO is ps E1 with
    | some E' => .nx E'
    | none => .stk) else .stk
  | _ => .stk
theorem asgO_ap (is : List Nat) (f : M (List Ent)) (E : Nv) : asgO is f E = asO is (f E) := rfl
theorem asO2 (i j : Nat) (p q : Ent) (E : Nv) : asO [i, j] (.ok [p, q] E) = .nx ((E.set i (some p)).set j (some q)) := by
  unfold asO
  simp only [List.length_cons, List.length_nil]
  rw [if_pos ⟨trivial, by decide⟩]
  rfl
def frR (o : Option (Option Ent)) (i : Nat) (g : G) (E : Nv) : Fl := match o with
  | some (some (_, d)) => g (E.set i (some (.sh, d)))
  | _ => g E
theorem frzS_ap (i : Nat) (g : G) (E : Nv) : frzS i g E = frR (E[i]?) i g E := by
  unfold frzS frR
  rcases E[i]? with _ | _ | ⟨t, d⟩ <;> rfl
theorem frR_so (t : Ow) (d : D) (i : Nat) (g : G) (E : Nv) : frR (some (some (t, d))) i g E = g (E.set i (some (.sh, d))) := rfl
def muC (o : Option (D × List D)) (i : Nat) (E : Nv) : Rs D := match o with
  | some (z, ds') => if small ds'.length = true then .ok z (putL i ds' E) else .stk
  | none => .stk
def muB (o : Option (List D)) (as : List D) (g : List D → List D → Option (D × List D)) (i : Nat) (E : Nv) : Rs D := match o with
  | some ds => muC (g ds as) i E
  | none => .stk
def muA (o : Option (List D)) (g : List D → List D → Option (D × List D)) (i : Nat) (fs : M (List D)) (E : Nv) : Rs D := match o with
  | some _ => bdR (fs E) fun as E => muB (owR (E[i]?)) as g i E
  | none => .stk
theorem mutM_ap (i : Nat) (g : List D → List D → Option (D × List D)) (fs : M (List D)) (E : Nv) : mutM i g fs E = muA (owR (E[i]?)) g i fs E := by
  unfold mutM muA
  rw [ownL_eq]
  cases owR (E[i]?) with
  | none => rfl
  | some ds =>
    simp only [bnd_ap]
    congr 1
theorem muA_so (ds : List D) (g : List D → List D → Option (D × List D)) (i : Nat) (fs : M (List D)) (E : Nv) : muA (some ds) g i fs E = bdR (fs E) fun as E => muB (owR (E[i]?)) as g i E := rfl
theorem muB_so (ds as : List D) (g : List D → List D → Option (D × List D)) (i : Nat) (E : Nv) : muB (some ds) as g i E = muC (g ds as) i E := rfl
theorem muC_ok (z : D) (ds : List D) (i : Nat) (E : Nv) (h : ds.length ≤ sizeLine) : muC (some (z, ds)) i E = .ok z (putL i ds E) := if_pos (small_of h)
theorem app_ok (ds : List D) (y : D) (h : ds.length < sizeLine) : appG ds [y] = some (.non, ds ++ [y]) := if_pos h
theorem lenA (xs : List D) (y : D) : (xs ++ [y]).length = xs.length + 1 := by rw [List.length_append, List.length_singleton]
theorem eq_nil {xs : List D} (h : ∀ x ∈ xs, Lay x) : eqD (.lst xs) (.lst []) = some (.bl xs.isEmpty) := by
  have e := neL h
  unfold neD at e
  unfold eqD
  cases q : eqB (D.lst xs) (D.lst []) with
  | none => rw [q] at e; cases e
  | some b =>
    rw [q] at e
    have e' : (!b) = (!xs.isEmpty) := D.bl.inj (Option.some.inj e)
    have : b = xs.isEmpty := by
      generalize xs.isEmpty = c at *
      cases b <;> cases c <;> first | rfl | (exact absurd e' (by decide))
    rw [this]; rfl
theorem rng0 (n : Nat) : rng 0 n = (List.range n).map iD := by
  unfold rng
  congr 1
  funext i
  unfold iD
  rw [Int.zero_add]
theorem rng1_nat (n : Nat) (h : n ≤ 1000000000) : rng1Of [.int (n : Nat)] = some ((List.range n).map iD) := by
  rw [rg_ok n (by omega) (by omega), Int.toNat_natCast, rng0]
theorem one_map {α : Type} {f : α → D} {l : List α} {B : Bg} (h : l ≠ []) : ∃ x ∈ l, oneV B (l.map f) = f x := by
  have m := oneV_mem (B := B) (xs := l.map f) (by rw [List.length_map]; exact List.length_pos_iff.mpr h)
  obtain ⟨x, hx, e⟩ := List.mem_map.mp m
  exact ⟨x, hx, e.symm⟩
end Lb
namespace Lb
open PySem PySem.Spec PyProof.Rows L2 Dl
def scs (b : Bk) : List Sc := (List.range b.tel.length).map Sc.told ++ (List.range b.sur.length).map Sc.sure
end Lb
namespace Lb
open PySem PySem.Spec PyProof.Rows L2 Dl
theorem slM_ap (fa : M D) (fl fh : M (Option Int)) (E : Nv) : slM fa fl fh E = bdR (fa E) fun x => bnd fl fun l => bnd fh fun u => ofO (sliceD x l u) := by unfold slM; exact bnd_ap _ _ _
theorem ixp_ap (fa : M D) (E : Nv) : ixp fa E = bdR (fa E) fun d => bnd (ofO (asI d)) fun i => Dl.ret (some i) := by unfold ixp; exact bnd_ap _ _ _
theorem slL (xs : List D) (lo hi : Option Int) : sliceD (.lst xs) lo hi = some (.lst (cutD xs lo hi)) := rfl
theorem asI_int (i : Int) : asI (.int i) = some i := rfl
theorem cut_from (xs : List D) (i : Nat) : cutD xs (some (i : Int)) none = xs.drop i := by
  unfold Dl.cutD
  rw [HT.sIx_none, HT.sIx_nat]
  by_cases c : i ≤ xs.length
  · rw [Nat.min_eq_left c, List.take_of_length_le (by rw [List.length_drop]; omega)]
  · rw [Nat.min_eq_right (by omega), List.drop_length, List.drop_eq_nil_of_le (by omega), List.take_nil]
theorem compD {f0 : M (List D)} {asg : D → Nv → Option Nv} {elt : M D} {vs : List Nat} {I : Nv → Prop} {p : D → Prop} {ds : List D} {E EA : Nv} (h0 : f0 E = .ok ds EA) (i : I (wpe EA vs)) (h : ∀ d ∈ ds, ∀ E, I E → ∃ E1 E2 y, asg d E = some E1 ∧ elt E1 = .ok y E2 ∧ I (wpe E2 vs) ∧ p y) (z : ds.length ≤ sizeLine) :
    ∃ ys E', compM f0 asg (Dl.ret true) elt vs E = .ok (.l .sh, .lst ys) E' ∧ I E' ∧ ys.length = ds.length ∧ ∀ y ∈ ys, p y := by
  obtain ⟨ys, E', e, i', l, q⟩ := comp_bag (asg := asg) (cond := Dl.ret true) (elt := elt) (vs := vs) (I := I) (p := p) (ds := ds) (acc := []) (E := EA) i (fun d m E hE => by
    obtain ⟨E1, E2, y, h1, h2, h3, h4⟩ := h d m E hE
    exact ⟨E1, E2, y, h1, rfl, h2, h3, h4⟩) (by rw [List.length_nil]; omega)
  refine ⟨ys, E', ?_, i', l, q⟩
  unfold compM
  rw [bnd_ap, h0, bdR_ok, bnd_ap, e, bdR_ok, List.nil_append]
  rfl
def ixB (o : Option (List D)) (y : D) (E : Nv) : Rs D := match o with
  | some ds => ofO (ixD (.lst ds) y) E
  | none => .stk
theorem takeN (B : Bg) {m : Nat} (h : 0 < m) (h2 : m < 1267650600228229401496703205376) : ∃ (B2 : Bg) (i : Nat) (O : Nv), m_law_take [(.l .sh, .lst B.1), (.sh, .int (m : Nat))] = .ok (.sh, .int (i : Nat)) (some (.l .sh, .lst B2.1) :: O) ∧ i < m :=
  ⟨_, _, _, take_ev (by omega) (by omega), by have := tk_lt (B := B) (m := (m : Int)) (by omega); omega⟩
theorem oneM {α : Type} (B : Bg) {l : List α} (f : α → D) (h : l ≠ []) (h2 : l.length < 1267650600228229401496703205376) : ∃ (B2 : Bg) (x : α) (O : Nv), m_law_one [(.l .sh, .lst B.1), (.sh, .lst (l.map f))] = .ok (.sh, f x) (some (.l .sh, .lst B2.1) :: O) ∧ x ∈ l := by
  obtain ⟨x, hx, e⟩ := one_map (f := f) (B := B) h
  have o := one_ev (B := B) (xs := l.map f) (by rw [List.length_map]; exact List.length_pos_iff.mpr h) (by rw [List.length_map]; exact h2)
  rw [e] at o
  exact ⟨_, x, _, o, hx⟩
theorem numX (B : Bg) : ∃ (B2 : Bg) (x : Int) (O : Nv), m_law_number [(.l .sh, .lst B.1)] = .ok (.sh, .int x) (some (.l .sh, .lst B2.1) :: O) ∧ -1000000000000 ≤ x ∧ x ≤ 1000000000000 := ⟨_, _, _, number_ev B, nuV_bd B⟩
theorem kindX (B : Bg) : ∃ (B2 : Bg) (k : Bool) (O : Nv), m_law_kind [(.l .sh, .lst B.1)] = .ok (.sh, .str (kiS k)) (some (.l .sh, .lst B2.1) :: O) := ⟨_, _, _, kind_ev B⟩
end Lb
namespace Lb
open PySem PySem.Spec PyProof.Rows L2 Dl
end Lb
namespace Lb
open PySem PySem.Spec PyProof.Rows L2 Dl
def WI (b : Bk) (k : Int) (t : D) (cs : List D) (s4 s5 : Option Ent) : Nv := [some (.sh, b.d), some (.sh, .int k), some (.sh, t), some (.sh, .lst cs), s4, s5]
end Lb
namespace Lb
open PySem PySem.Spec PyProof.Rows L2 Dl
end Lb
namespace Lb
open PySem PySem.Spec PyProof.Rows L2 Dl
inductive It where
  | t (t : Tl)
  | g (t : Gp)
  | s (t : Sr)
  | c (t : Cl)
def It.d : It → D
  | .t x => x.d
  | .g x => x.d
  | .s x => x.d
  | .c x => x.d
def It.n : It → Str
  | .t _ => "tellings"
  | .g _ => "gaps"
  | .s _ => "sure"
  | .c _ => "clauses"
def It.k : It → Int
  | .t _ => 0
  | .g _ => 1
  | .s _ => 2
  | .c _ => 3
def Mid (x : Int) : Prop := -100000000000000 ≤ x ∧ x ≤ 100000000000000
def It.ok (b : Bk) : It → Prop
  | .t x => x.w < b.wi ∧ x.e < b.ev ∧ Mid x.x
  | .g x => x.a < b.ev ∧ x.b < b.ev ∧ x.a ≠ x.b ∧ Mid x.g
  | .s x => x.e < b.ev ∧ Mid x.x
  | .c x => x.w < b.wi ∧ x.v < b.wi
end Lb
namespace Lb
open PySem PySem.Spec PyProof.Rows L2 Dl
end Lb
namespace Lb
open PySem PySem.Spec PyProof.Rows L2 Dl
mutual
def pl : D → Bool
  | .non => true
  | .int _ => true
  | .str _ => true
  | .lst xs => plL xs
  | .tup xs => plL xs
  | .bl _ => false
  | .dct _ _ => false
  | .ins _ _ _ => false
  | .ty _ => false
  | .cl _ => false
  | .frl _ => false
def plL : List D → Bool
  | [] => true
  | x :: r => pl x && plL r
end
end Lb
namespace Lb
open PySem PySem.Spec PyProof.Rows L2 Dl
def Tl.tn (t : Tl) : Tl := ⟨t.w, t.e, -t.x⟩
def Gp.tn (t : Gp) : Gp := ⟨t.b, t.a, t.g⟩
def Sr.tn (t : Sr) : Sr := ⟨t.e, !t.s, -t.x⟩
def Cl.tn (t : Cl) : Cl := ⟨t.w, !t.k, t.v, !t.l⟩
def Bk.tn (b : Bk) : Bk := ⟨b.ev, b.wi, b.tel.map Tl.tn, b.gap.map Gp.tn, b.sur.map Sr.tn, b.cla.map Cl.tn⟩
def nat0 (l : List Nat) (i : Nat) : Nat := l.getD i 0
def Bk.st (os : List Nat) (b : Bk) : Bk := ⟨b.ev, b.wi, b.tel.filter (fun t => !decide (t.w ∈ os)), b.gap, b.sur, b.cla.filter (fun t => !decide (t.w ∈ os) && !decide (t.v ∈ os))⟩
structure Nm (n : Nat) (l : List Nat) : Prop where
  len : l.length = n
  lt : ∀ i ∈ l, i < n
  nd : l.Nodup
theorem Nm.at {n : Nat} {l : List Nat} (h : Nm n l) {i : Nat} (hi : i < n) : nat0 l i < n := by
  unfold nat0
  rw [List.getD_eq_getElem?_getD, List.getElem?_eq_getElem (by rw [h.len]; exact hi)]
  exact h.lt _ (List.getElem_mem _)
theorem Nm.inj {n : Nat} {l : List Nat} (h : Nm n l) {i j : Nat} (hi : i < n) (hj : j < n) (e : nat0 l i = nat0 l j) : i = j := by
  unfold nat0 at e
  rw [List.getD_eq_getElem?_getD, List.getD_eq_getElem?_getD, List.getElem?_eq_getElem (by rw [h.len]; exact hi), List.getElem?_eq_getElem (by rw [h.len]; exact hj)] at e
  exact (List.getElem_inj h.nd).mp e
end Lb
namespace Lb
open PySem PySem.Spec PyProof.Rows L2 Dl
end Lb
namespace Lb
open PySem PySem.Spec PyProof.Rows L2 Dl
structure BkL (b : Bk) : Prop where
  e8 : b.ev ≤ 8
  w8 : b.wi ≤ 8
  t : ∀ t ∈ b.tel, TlOk b.ev b.wi t
  g : ∀ t ∈ b.gap, GpOk b.ev t
  s : ∀ t ∈ b.sur, SrOk b.ev t
  c : ∀ t ∈ b.cla, ClOk b.wi t
def Bk.long (b : Bk) : Prop := 24 < b.tel.length ∨ 24 < b.gap.length ∨ 24 < b.sur.length ∨ 24 < b.cla.length
theorem BkL.ok {b : Bk} (h : BkL b) (n : ¬ b.long) : BkO b := ⟨h.e8, h.w8, h.t, h.g, h.s, h.c, by unfold Bk.long at n; omega, by unfold Bk.long at n; omega, by unfold Bk.long at n; omega, by unfold Bk.long at n; omega⟩
theorem BkO.bl {b : Bk} (h : BkO b) : BkL b := ⟨h.e8, h.w8, h.t, h.g, h.s, h.c⟩
def unX (p q : D) : Xn := ⟨"Unequal", ["other", "one"], [q, p]⟩
end Lb
namespace Lb
open PySem PySem.Spec PyProof.Rows L2 Dl
abbrev Tp := Nat → Nat → Option (Int × List Nat)
abbrev Ts := Nat → Nat → Option Int
end Lb
namespace Lb
open PySem PySem.Spec PyProof.Rows L2 Dl
def rwD (n : Nat) (f : Nat → D) : List D := (List.range n).map f
def tbD (n : Nat) (f : Nat → Nat → D) : List D := (List.range n).map fun a => .lst (rwD n (f a))
def enP : Option (Int × List Nat) → D
  | none => .non
  | some x => .tup [.int x.1, .tup (x.2.map iD)]
def enS : Option Int → D
  | none => .non
  | some x => .int x
def tPw (n : Nat) (f : Tp) : List D := tbD n fun a b => enP (f a b)
def tSm (n : Nat) (h : Ts) : List D := tbD n fun a b => enS (h a b)
end Lb
namespace Lb
open PySem PySem.Spec PyProof.Rows L2 Dl
structure Gn (n m : Nat) (f : Tp) : Prop where
  d : ∀ a, a < n → f a a = some (0, [])
  l : ∀ a b s w, f a b = some (s, w) → w.length ≤ 2 ^ (m + 1)
  c : ∀ a s w, f a m = some (s, w) → w.length ≤ 2 ^ m
  r : ∀ b s w, f m b = some (s, w) → w.length ≤ 2 ^ m
structure Ge (n : Nat) (f : Tp) : Prop where
  d : ∀ a, a < n → f a a = some (0, [])
  l : ∀ a b s w, f a b = some (s, w) → w.length ≤ 1
theorem Ge.gn {n : Nat} {f : Tp} (k : Ge n f) : Gn n 0 f := ⟨k.d, fun a b s w e => by have := k.l a b s w e; show w.length ≤ 2; omega, fun a s w e => k.l a _ s w e, fun b s w e => k.l _ b s w e⟩
end Lb
namespace Lb
open PySem PySem.Spec PyProof.Rows L2 Dl
end Lb
namespace Lb
open PySem PySem.Spec PyProof.Rows L2 Dl TL
def AsL (l : List Nat) : Prop := ∀ c ∈ l, c < 128
theorem AsL.app {l m : List Nat} (h : AsL l) (h2 : AsL m) : AsL (l ++ m) := fun c hc => (List.mem_append.mp hc).elim (h c) (h2 c)
theorem spl_len (S : List Nat) : ∀ (l : List Nat) (k : Nat) (acc : List Nat), (spl S k acc l).length ≤ l.length + 1
  | [], k, acc => by rw [spl_nil]; exact Nat.le_refl _
  | c :: r, 0, acc => by
    cases q : pre S (c :: r) with
    | true => rw [spl_hit q, List.length_cons, List.length_cons]; have := spl_len S r (S.length - 1) []; omega
    | false => rw [spl_miss q, List.length_cons]; have := spl_len S r 0 (acc ++ [c]); omega
  | c :: r, k + 1, acc => by
    rw [List.length_cons]
    have := spl_len S r k acc
    show (spl S k acc r).length ≤ _
    omega
structure Sep (y : Str) (c : Nat) : Prop where
  e : tl y = [c]
  k : y.cps.all (· < 256) = true
theorem Sep.sp {y : Str} {c : Nat} (h : Sep y c) (x : Str) : (Txt.split x y).map tl = spl [c] 0 [] (tl x) := by
  rw [split_spl x y (by rw [h.e]; simp) (TL.kind_ok h.k), h.e]
theorem Sep.len {y : Str} {c : Nat} (h : Sep y c) (x : Str) : (Txt.split x y).length ≤ x.length + 1 := by
  have := spl_len [c] (tl x) 0 []
  rw [← h.sp x, List.length_map] at this
  rw [len_tl]
  exact this
theorem Sep.back {y : Str} {c : Nat} (h : Sep y c) {parts : List Str} (hne : parts ≠ []) (hp : ∀ p ∈ parts, c ∉ tl p) : Txt.split (Txt.join y parts) y = parts := split_join (S := []) h.e h.k hne hp
end Lb
namespace Lb
open PySem PySem.Spec PyProof.Rows L2 Dl TL
theorem Sep.one {y : Str} {c : Nat} (h : Sep y c) {x : Str} (n : c ∉ tl x) : Txt.split x y = [x] := by
  have e := h.back (parts := [x]) (by simp) (fun p m => by rw [List.mem_singleton.mp m]; exact n)
  have e2 : Txt.join y [x] = x := by rw [join_eq]; rfl
  rw [e2] at e
  exact e
def Fb (B k N : Nat) (d : D) : Prop := ∃ p, toP d = some p ∧ p.showable = true ∧ p.hasDict = false ∧ p.leavesShort B = true ∧ p.depth ≤ k ∧ p.bulk ≤ N
theorem Fb.up {B k N k' N' : Nat} {d : D} (h : Fb B k N d) (a : k ≤ k') (b : N ≤ N') : Fb B k' N' d := by
  obtain ⟨p, e1, e2, e3, e5, e6, e7⟩ := h
  exact ⟨p, e1, e2, e3, e5, Nat.le_trans e6 a, Nat.le_trans e7 b⟩
end Lb
namespace Kf
open PySem PySem.Spec PyProof.Rows L2 Dl Lb
def SE (s0 s1 : Option Ent) (N : Nat) (h : Ts) (s3 s4 s5 s6 : Option Ent) : Nv := [s0, s1, some (.l (.l .sh), .lst (tSm N h)), s3, s4, s5, s6]
def S0 (n : Nat) (s1 : Option Ent) (h : Ts) (E : Nv) : Prop := ∃ s3 s4 s5 s6, E = SE (some (.sh, .int (n : Nat))) s1 (n + 1) h s3 s4 s5 s6
def S2 (n : Nat) (s1 s5 : Option Ent) (m a : Nat) (h : Ts) (E : Nv) : Prop := ∃ s4, E = SE (some (.sh, .int (n : Nat))) s1 (n + 1) h (some (.sh, .int (a : Nat))) s4 s5 (some (.sh, .int (m : Nat)))
def S3 (n : Nat) (s1 s5 : Option Ent) (m : Nat) (h : Ts) (E : Nv) : Prop := ∃ s3 s4, E = SE (some (.sh, .int (n : Nat))) s1 (n + 1) h s3 s4 s5 (some (.sh, .int (m : Nat)))
def posS (h : Ts) (u : Nat) : Bool := match h u u with
  | some x => decide (0 < x)
  | none => false
def sumD (n : Nat) (h : Ts) : D := if (List.range (n + 1)).any (posS h) = true then .non else .lst (tSm (n + 1) h)
end Kf
namespace Kf
open PySem PySem.Spec PyProof.Rows L2 Dl Lb
def Out (S : Tp → Nv → Prop) (R : List Nat → Ent → Prop) (r : Fl) : Except (List Nat) Tp → Prop
  | .ok f => ∃ E, r = .nx E ∧ S f E
  | .error w => ∃ p E, r = .rt p E ∧ R w p
def PE (b : Bk) (n : Nat) (f : Tp) (s3 s4 s5 s6 s7 s8 : Option Ent) : Nv := [some (.sh, b.d), some (.sh, .lst ((List.range n).map iD)), some (.l (.l .sh), .lst (tPw n f)), s3, s4, s5, s6, s7, s8]
theorem Out.mono {S S' : Tp → Nv → Prop} {R : List Nat → Ent → Prop} {r : Fl} {s : Except (List Nat) Tp} (h : Out S R r s) (q : ∀ f E, s = .ok f → S f E → S' f E) : Out S' R r s := by
  cases s with
  | ok f =>
    obtain ⟨E, e, k⟩ := h
    exact ⟨E, e, q f E rfl k⟩
  | error w => exact h
def P2 (bk : Bk) (n m a : Nat) (s3 s6 : Option Ent) (f : Tp) (E : Nv) : Prop := Gn n m f ∧ ∃ s5 s8, E = PE bk n f s3 (some (.sh, .int (a : Nat))) s5 s6 (some (.sh, .int (m : Nat))) s8
def lkD (b : Bk) (f : Tp) (s t : Sc) : D := match f (evS b s) (evS b t) with
  | none => .non
  | some x => if nuS b s + x.1 ≤ nuS b t then .non else .tup [s.d, .tup (x.2.map iD), t.d]
end Kf
namespace Kf
open PySem PySem.Spec PyProof.Rows L2 Dl Lb
def loL (b : Bk) : List Sc := (scs b).filter (loS b)
def hiL (b : Bk) : List Sc := (scs b).filter (hiS b)
def dueF (b : Bk) (f : Tp) (s t : Sc) : Bool := match f (evS b s) (evS b t) with
  | none => false
  | some x => decide (nuS b t < nuS b s + x.1)
def lkP (b : Bk) (f : Tp) (p : Sc × Sc) : D := lkD b f p.1 p.2
def prL1 (b : Bk) (f : Tp) (l : List Sc) : List (Sc × Sc) := l.flatMap fun s => ((hiL b).filter (dueF b f s)).map fun t => (s, t)
def prL (b : Bk) (f : Tp) : List (Sc × Sc) := prL1 b f (loL b)
end Kf
namespace Kf
open PySem PySem.Spec PyProof.Rows L2 Dl Lb
def Wm (g : List Gp) : Nat → Nat → Nat → Int → Prop
  | 0, a, b, s => (a = b ∧ s = 0) ∨ ∃ t ∈ g, t.a = a ∧ t.b = b ∧ t.g = s
  | m + 1, a, b, s => Wm g m a b s ∨ ∃ x y, Wm g m a m x ∧ Wm g m m b y ∧ s = x + y
def Le (h k : Ts) : Prop := ∀ a b x, h a b = some x → ∃ y, k a b = some y ∧ x ≤ y
theorem Le.refl (h : Ts) : Le h h := fun a b x e => ⟨x, e, Int.le_refl _⟩
theorem Le.trans {h k l : Ts} (p : Le h k) (q : Le k l) : Le h l := fun a b x e => by
  obtain ⟨y, e1, l1⟩ := p a b x e
  obtain ⟨z, e2, l2⟩ := q a b y e1
  exact ⟨z, e2, by omega⟩
end Kf
namespace Kf
open PySem PySem.Spec PyProof.Rows L2 Dl Lb
end Kf
namespace Kf
open PySem PySem.Spec PyProof.Rows L2 Dl Lb
structure Kp (b : Bk) (κ : Nat → Bool) (τ : Nat → Int) : Prop where
  t : ∀ t ∈ b.tel, if κ t.w = true then t.x ≤ τ t.e else τ t.e ≤ t.x
  g : ∀ t ∈ b.gap, τ t.a + t.g ≤ τ t.b
  s : ∀ t ∈ b.sur, if t.s = true then t.x ≤ τ t.e else τ t.e ≤ t.x
end Kf
namespace Kf
open PySem PySem.Spec PyProof.Rows L2 Dl Lb
abbrev Rwl := List (Lit × D)
def rwK (r : Rwl) : D := .dct (r.map fun p => litD p.1) (r.map (·.2))
def tbK (ls : List Lit) (h : Lit → Rwl) : D := .dct (ls.map litD) (ls.map fun l => rwK (h l))
def upL (h : Lit → Rwl) (l : Lit) (r : Rwl) : Lit → Rwl := fun m => if m = l then r else h m
def adR (r : Rwl) (o : Lit) (v : D) : Rwl := if o ∈ r.map (·.1) then r else r ++ [(o, v)]
def lts (n : Nat) : List Lit := (List.range n).flatMap fun w => [(w, true), (w, false)]
theorem lts_succ (n : Nat) : lts (n + 1) = lts n ++ [(n, true), (n, false)] := by
  unfold lts
  rw [List.range_succ, List.flatMap_append]
  rfl
theorem lts_mem {n : Nat} {l : Lit} : l ∈ lts n ↔ l.1 < n := by
  unfold lts
  rw [List.mem_flatMap]
  constructor
  · rintro ⟨w, m, m2⟩
    have := List.mem_range.mp m
    rcases List.mem_cons.mp m2 with rfl | m2
    · exact this
    · rcases List.mem_cons.mp m2 with rfl | m2
      · exact this
      · cases m2
  · intro h
    refine ⟨l.1, List.mem_range.mpr h, ?_⟩
    obtain ⟨w, k⟩ := l
    cases k
    · exact List.mem_cons_of_mem _ List.mem_cons_self
    · exact List.mem_cons_self
theorem lts_len (n : Nat) : (lts n).length = 2 * n := by
  induction n with
  | zero => rfl
  | succ n ih => rw [lts_succ, List.length_append, ih]; rfl
theorem nd_len {α : Type} [DecidableEq α] : ∀ {w l : List α}, w.Nodup → (∀ x ∈ w, x ∈ l) → w.length ≤ l.length
  | [], l, _, _ => Nat.zero_le _
  | x :: w, l, nd, h => by
    obtain ⟨n1, n2⟩ := List.nodup_cons.mp nd
    have mx := h x List.mem_cons_self
    have := nd_len (w := w) (l := l.erase x) n2 fun y m => (List.mem_erase_of_ne (by rintro rfl; exact n1 m)).mpr (h y (List.mem_cons_of_mem _ m))
    rw [List.length_erase_of_mem mx] at this
    have : 0 < l.length := List.length_pos_of_mem mx
    rw [List.length_cons]
    omega
def clV (i : Nat) (p : Lit × Lit) : D := .tup [litD p.1, .tup [.str "clause", iD i], litD p.2]
def lkV (y : D) (p : Lit × Lit) : D := .tup [litD p.1, .tup [.str "link", y], litD p.2]
def adP (v : Lit × Lit → D) (h : Lit → Rwl) (p : Lit × Lit) : Lit → Rwl := if p.1 = p.2 then h else upL h p.1 (adR (h p.1) p.2 (v p))
def stC (h : Lit → Rwl) (q : Cl × Nat) : Lit → Rwl := (pairsC q.1).foldl (adP (clV q.2)) h
def stL (b : Bk) (f : Tp) (h : Lit → Rwl) (q : Sc × Sc) : Lit → Rwl := (pairsL b q.1 q.2).foldl (adP (lkV (lkP b f q))) h
def stA (b : Bk) (f : Tp) : Lit → Rwl := (prL b f).foldl (stL b f) (b.cla.zipIdx.foldl stC fun _ => [])
def RwO (n : Nat) (h : Lit → Rwl) : Prop := ∀ l, ((h l).map (·.1)).Nodup ∧ ∀ p ∈ h l, p.1.1 < n
theorem RwO.len {n : Nat} {h : Lit → Rwl} (k : RwO n h) (l : Lit) : (h l).length ≤ 2 * n := by
  have := nd_len (k l).1 (l := lts n) fun x m => by
    obtain ⟨p, mp, rfl⟩ := List.mem_map.mp m
    exact lts_mem.mpr ((k l).2 p mp)
  rw [List.length_map, lts_len] at this
  exact this
theorem RwO.nil (n : Nat) : RwO n fun _ => [] := fun l => ⟨List.nodup_nil, fun _ m => nomatch m⟩
def Kyd (h : Lit → Rwl) (l m : Lit) : Prop := m ∈ (h l).map (·.1)
end Kf
namespace Kf
open PySem PySem.Spec PyProof.Rows L2 Dl Lb
def kdD (ks : List Bool) : D := .tup (ks.map fun k => .str (kiS k))
def kap (ks : List Bool) (w : Nat) : Bool := (ks[w]?).getD false
theorem kd_ix {ks : List Bool} {w : Nat} (h : w < ks.length) : ixD (kdD ks) (.int (w : Nat)) = some (.str (kiS (kap ks w))) := by
  unfold kdD kap
  rw [ixT, atI_nn (by omega), Int.toNat_natCast, List.getElem?_map, List.getElem?_eq_getElem h]
  rfl
def ClH (κ : Nat → Bool) (c : Cl) : Prop := κ c.w = c.k ∨ κ c.v = c.l
instance (κ : Nat → Bool) (c : Cl) : Decidable (ClH κ c) := by unfold ClH; infer_instance
end Kf
namespace Kf
open PySem PySem.Spec PyProof.Rows L2 Dl Lb
theorem muC_app {ds : List D} {y : D} {i : Nat} {E : Nv} (h : ds.length < sizeLine) : muC (some (.non, ds ++ [y])) i E = .ok .non (putL i (ds ++ [y]) E) := muC_ok _ _ _ _ (by rw [Lb.lenA]; omega)
def LW (b : Bk) (f : Tp) (ks : List Bool) (ss : List Sc) (acc : List D) (s5 s6 s7 s8 s9 : Option Ent) : Nv := [some (.sh, b.d), some (.sh, kdD ks), some (.sh, .lst (tPw b.ev f)), some (.l .sh, .lst acc), some (.sh, .lst (ss.map Sc.d)), s5, s6, s7, s8, s9]
end Kf
namespace Kf
open PySem PySem.Spec PyProof.Rows L2 Dl Lb
def KdO (K : D) (n : Nat) (κ : Nat → Bool) : Prop := ∀ w, w < n → ixD K (.int (w : Nat)) = some (.str (kiS (κ w)))
theorem kdO {ks : List Bool} {n : Nat} (h : ks.length = n) : KdO (kdD ks) n (kap ks) := fun w hw => kd_ix (by omega)
def tap (ts : List Int) (e : Nat) : Int := (ts[e]?).getD 0
end Kf
namespace Kf
open PySem PySem.Spec PyProof.Rows L2 Dl Lb
end Kf
namespace Kf
open PySem PySem.Spec PyProof.Rows L2 Dl Lb
end Kf
namespace Kf
open PySem PySem.Spec PyProof.Rows L2 Dl Lb
def t0 (n : Nat) (τ : Nat → Int) (e : Nat) : Int := if e < n then τ e else 0
def tmD (ts : List Int) : D := .tup (ts.map .int)
end Kf
namespace Kf
open PySem PySem.Spec PyProof.Rows L2 Dl Lb
end Kf
namespace Kf
open PySem PySem.Spec PyProof.Rows L2 Dl Lb
inductive Chn (h : Lit → Rwl) (l : Lit) : Lit → List D → Prop where
  | nil : Chn h l l []
  | snoc {k m : Lit} {w : List D} {v : D} : Chn h l k w → (m, v) ∈ h k → Chn h l m (w ++ [v])
inductive Rc (h : Lit → Rwl) (l : Lit) : Lit → Prop where
  | refl : Rc h l l
  | tail {k m : Lit} : Rc h l k → Kyd h k m → Rc h l m
theorem Rc.trans {h : Lit → Rwl} {l m k : Lit} (a : Rc h l m) (b : Rc h m k) : Rc h l k := by
  induction b with
  | refl => exact a
  | tail _ s ih => exact .tail ih s
abbrev Cm := List (Lit × List D)
def cmD (C : Cm) : D := .dct (C.map fun p => litD p.1) (C.map fun p => .lst p.2)
def ck (C : Cm) : List Lit := C.map (·.1)
structure Js (n : Nat) (h : Lit → Rwl) (one : Lit) (C : Cm) (Q : List Lit) : Prop where
  nd : (ck C).Nodup
  lt : ∀ l ∈ ck C, l.1 < n
  ch : ∀ p ∈ C, Chn h one p.1 p.2
  ln : ∀ p ∈ C, p.2.length < C.length
  qs : ∀ l ∈ Q, l ∈ ck C
  st : one ∈ ck C
theorem Js.len {n : Nat} {h : Lit → Rwl} {one : Lit} {C : Cm} {Q : List Lit} (j : Js n h one C Q) : C.length ≤ 2 * n := by
  have := nd_len j.nd (l := lts n) fun x m => lts_mem.mpr (j.lt x m)
  unfold ck at this
  rw [List.length_map, lts_len] at this
  exact this
def PS (b : Bk) (h : Lit → Rwl) (one other : Lit) (C : Cm) (Q : List Lit) (s5 s6 : Option Ent) : Nv := [some (.sh, tbK (lts b.wi) h), some (.sh, litD one), some (.sh, litD other), some (.d true .sh, cmD C), some (.l .sh, .lst (Q.map litD)), s5, s6]
end Kf
namespace Kf
open PySem PySem.Spec PyProof.Rows L2 Dl Lb
def ng (l : Lit) : Lit := (l.1, !l.2)
structure Jr (n : Nat) (h : Lit → Rwl) (one : Lit) (F Q : List Lit) : Prop where
  nd : F.Nodup
  lt : ∀ l ∈ F, l.1 < n
  rc : ∀ l ∈ F, Rc h one l
  qs : ∀ l ∈ Q, l ∈ F
  st : one ∈ F
theorem Jr.len {n : Nat} {h : Lit → Rwl} {one : Lit} {F Q : List Lit} (j : Jr n h one F Q) : F.length ≤ 2 * n := by
  have := nd_len j.nd (l := lts n) fun x m => lts_mem.mpr (j.lt x m)
  rw [lts_len] at this
  exact this
def RS (b : Bk) (h : Lit → Rwl) (one : Lit) (F Q : List Lit) (s4 : Option Ent) : Nv := [some (.sh, tbK (lts b.wi) h), some (.sh, litD one), some (.l .sh, .lst (F.map litD)), some (.l .sh, .lst (Q.map litD)), s4]
end Kf
namespace Kf
open PySem PySem.Spec PyProof.Rows L2 Dl Lb
abbrev Cd := List (Nat × Bool)
def gtC (C : Cd) (w : Nat) : Option Bool := (C.find? fun p => decide (p.1 = w)).map (·.2)
structure Jk (b : Bk) (f : Tp) (C : Cd) : Prop where
  cl : ∀ l m : Lit, gtC C l.1 = some l.2 → Rc (stA b f) l m → gtC C m.1 = some m.2
end Kf
namespace Kf
open PySem PySem.Spec PyProof.Rows L2 Dl Lb
end Kf
namespace Kf
open PySem PySem.Spec PyProof.Rows L2 Dl Lb
def leQ (a b : Int) : Bool := decide (a ≤ b)
theorem data_int (u v : D) (a b : Int) : PySem.W.dataLe false (fun z : D × PyData => z.2) (u, .int a) (v, .int b) = leQ a b := by
  unfold PySem.W.dataLe PySem.W.sortLe leQ
  have e : PyProof.Rows.lexLt itemOrd [Sum.inl b] [Sum.inl a] = decide (b < a) := by
    by_cases c : b < a
    · simp [PyProof.Rows.lexLt, itemLt, c]
    · simp [PyProof.Rows.lexLt, itemLt, c]
  show (!PyProof.Rows.lexLt itemOrd [Sum.inl b] [Sum.inl a]) = decide (a ≤ b)
  rw [e, ← decide_not]
  exact decide_eq_decide.mpr (by omega)
def srtI (l : List Int) : List Int := l.mergeSort leQ
theorem toPs_ints (l : List Int) : toPs (l.map D.int) = some (l.map PyData.int) := toPs_map (fun _ => rfl) l
theorem srtOk_ints (l : List Int) : srtOk (l.map PyData.int) = true := by
  unfold srtOk
  simp only [List.all_map, Bool.and_eq_true, Bool.or_eq_true, List.all_eq_true, Function.comp, decide_eq_true_eq]
  exact ⟨⟨fun a _ b _ => rfl, .inr fun a _ => trivial⟩, fun a _ => by show 0 ≤ 8; omega⟩
theorem srt_ints (l : List Int) : ((srtZ ((l.map D.int).zip (l.map PyData.int))).map (·.1)) = (srtI l).map D.int := by
  have z : (l.map D.int).zip (l.map PyData.int) = l.map fun x => (D.int x, PyData.int x) := by
    induction l with
    | nil => rfl
    | cons x l ih => rw [List.map_cons, List.map_cons, List.zip_cons_cons, ih]; rfl
  rw [z]
  unfold srtZ srtI
  have := List.map_mergeSort (r := leQ) (s := PySem.W.dataLe false fun z : D × PyData => z.2) (f := fun x : Int => (D.int x, PyData.int x)) (l := l) fun a _ b _ => (data_int _ _ a b).symm
  rw [← this, List.map_map]
  rfl
theorem sorted_ints (l : List Int) : sortedD [.lst (l.map .int)] = some (.lst ((srtI l).map .int)) := by
  unfold sortedD
  simp only [toPs_ints]
  rw [if_pos (srtOk_ints l), srt_ints]
theorem srtI_perm (l : List Int) : (srtI l).Perm l := List.mergeSort_perm _ _
theorem cnt_kinds (ks : List Bool) : cntD (.lst (ks.map fun k => .str (kiS k))) [.str "early"] = some (.int ((ks.countP fun k => k : Nat) : Int)) := by
  have tp : toPs (ks.map fun k => D.str (kiS k)) = some (ks.map fun k => PyData.str (kiS k)) := toPs_map (fun _ => rfl) ks
  have sh1 : SeqAt.shaped (.list (ks.map fun k => PyData.str (kiS k))) = true := shp_list (g := fun k : Bool => PyData.str (kiS k)) (k := 0) (fun k => ⟨(show PyData.canLay0 (.str (kiS k)) = true from strOk_kind (kiS_or k)), (show PyData.depth (.str (kiS k)) ≤ 0 from Nat.le_refl _)⟩) (by decide) ks
  have sh2 : SeqAt.shaped (PyData.str "early") = true := by decide +kernel
  show (match toPs (ks.map fun k => D.str (kiS k)), toP (D.str "early") with
    | some ps, some p => if SeqAt.shaped (.list ps) = true ∧ SeqAt.shaped p = true then some (D.int (ps.countP (fun z => PyData.eqv z p) : Nat)) else none
    | _, _ => none) = _
  rw [tp]
  show (if SeqAt.shaped (.list (ks.map fun k => PyData.str (kiS k))) = true ∧ SeqAt.shaped (PyData.str "early") = true then some (D.int ((ks.map fun k => PyData.str (kiS k)).countP (fun z => PyData.eqv z (PyData.str "early")) : Nat)) else none) = _
  rw [if_pos ⟨sh1, sh2⟩, List.countP_map]
  congr 3
  congr 1
  funext k
  cases k <;> decide +kernel
end Kf
local macro_rules | `(tactic| push_cast [$xs,*]) => `(tactic| simp (discharger := (first | assumption | omega | decide | (simp only [List.length_cons, List.length_nil, List.length_map]; first | omega | decide) | rfl)) only [Dl.ret_ap, Dl.stuck_ap, Dl.bnd_ap, Dl.bdR_ok, Dl.bdR_er, Dl.andS_ap, Dl.anR_ok, Dl.anR_er, Dl.then_ap, Dl.thF_nx, Dl.thF_rt, Dl.thF_er, Dl.thF_bk, Dl.thF_ct, Dl.done_ap, Dl.ofO_some, Dl.setS_ap, Dl.retS_ap, Dl.sh1_ap, Dl.shM_ap, Dl.look_ap, Dl.lookB_ap, Dl.lkR_int, Dl.lkR_bl, Dl.lkR_str, Dl.lkB_ok, Dl.opM_ap, Dl.cmB_ap, Dl.unM_ap, Dl.cbM_ap, Dl.conM_ap, Dl.tupM_ap, Dl.lstM_ap, Dl.own1_ap, Dl.ifM_ap, Dl.andV_ap, Dl.orV_ap, Dl.notV_ap, Dl.andM_ap, Dl.orM_ap, Dl.notM_ap, Dl.test_ap, Dl.chM_ap, Dl.chB_ap, Dl.calM_ap, Dl.callM_eq, Dl.caR_so, Dl.ents_io, Dl.enR_so, Dl.rd_eq, Dl.rdR_sh, Dl.ioM_eq, Dl.ioR_so, Dl.setIxS_eq, Dl.ownL_eq, Dl.owR_so, Dl.siR_at, Dl.putL, Dl.augIxS_eq, Dl.clR_ok, Dl.clR_er, Dl.back_nil, Dl.back_none, Dl.back_some, Dl.ents_nil, Dl.ents_no, Dl.runG_ap, Dl.rnF_rt, Dl.rnF_nx, Dl.rnF_er, Dl.eqI, Dl.addI, Dl.subI, Dl.ltI, Dl.leI, Dl.gtI, Dl.geI, Dl.negI, Dl.intI, Dl.toB_bl, Dl.bind_some', Dl.ixL, Dl.ixT, Dl.atI_nn, Int.reduceToNat, Int.toNat_zero, Int.toNat_one, Dl.len1L, Dl.len1T, List.map_cons, List.map_nil, List.cons_append, List.nil_append, List.append_nil, List.length_cons, List.length_nil, List.replicate, List.getElem?_cons_zero, List.getElem?_cons_succ, List.set_cons_zero, List.set_cons_succ, if_true, if_false, Bool.false_eq_true, Option.map_some, Option.join_some, decide_true, decide_false, decide_eq_true_eq, Dl.modI, Dl.divI, Dl.mulR, Dl.mulL, Dl.small_of, Dl.addL, Dl.addT, Dl.forS_ap, Dl.rg1_ap, Dl.rg2_ap, Dl.seqI_ap, Dl.enI_ap, Dl.mkM_ap, Dl.seqOfL, Dl.seqOfT, List.length_map, Int.toNat_natCast, List.getElem?_map, Lb.b_ev, Lb.b_wi, Lb.b_te, Lb.b_ga, Lb.b_su, Lb.b_cl, Lb.truB, Bool.not_true, Bool.not_false, Lb.asgS_ap, Lb.tgT2_ap, Lb.tgT3_ap, Lb.tgT4_ap, Lb.tgT5_ap, Lb.tgT6_ap, Lb.tgL2_ap, Lb.tgL3_ap, Lb.tgL4_ap, Lb.tgC_ap, Lb.tgN_ap, Lb.putE_ap, Lb.eqSt, Lb.neSt, Lb.eqS, Lb.neSS, Lb.neI, Lb.isNI, Lb.isNN, Lb.isNT, Lb.isNS, Bool.true_and, Bool.false_and, Bool.and_true, Bool.and_false, Bool.true_or, Bool.false_or, Bool.or_true, Bool.or_false, Lb.snt, Lb.lne, Lb.eln, Lb.mnl, Lb.lnm, Lb.siL, Lb.siM, Lb.kiE, Lb.kiL, Lb.kiK, Lb.siI, Lb.dtt, Lb.dff, Lb.cst0, Lb.cst1, Lb.cst2, Lb.cst3, Lb.cst4, Lb.cst5, Lb.cst6, Lb.bl_0, Lb.bl_1, Lb.bl_2, Lb.bl_3, Int.reduceEq, Int.reduceLT, Int.reduceLE, $xs,*])
namespace Gk
open PySem PySem.Spec PyProof.Rows L2 Dl Lb Kf
theorem andS_at {α : Type} {m : M α} {k : α → G} {E E' : Nv} {z : α} (h : m E = .ok z E') : andS m k E = k z E' := by
  rw [andS_ap, h]
  rfl
abbrev Ex := List Bool × List Int
def tmD (ts : List Int) : D := .tup (ts.map .int)
def exD (p : Ex) : D := .tup [kdD p.1, tmD p.2]
def pn : Bool → Ex → Nat
  | false, p => p.1.length
  | true, p => p.2.length
def ptD : Bool → Ex → D
  | false, p => kdD p.1
  | true, p => tmD p.2
def ixB : Bool → D
  | false => .int 0
  | true => .int 1
theorem ix_ex (t : Bool) (p : Ex) : ixD (exD p) (ixB t) = some (ptD t p) := by cases t <;> rfl
theorem ln_ex (t : Bool) (p : Ex) : one lenD [ptD t p] = some (iD (pn t p)) := by
  cases t with
  | false =>
    show some (D.int (((p.1.map fun k => D.str (kiS k)).length : Nat) : Int)) = _
    rw [List.length_map]
    rfl
  | true =>
    show some (D.int (((p.2.map D.int).length : Nat) : Int)) = _
    rw [List.length_map]
    rfl
theorem ne_nat (a c : Nat) : neD (iD a) (iD c) = some (.bl (decide (a ≠ c))) := by
  rw [show iD a = D.int (a : Int) from rfl, show iD c = D.int (c : Int) from rfl, neI]
  by_cases e : a = c
  · subst e; simp
  · have : ¬ (a : Int) = (c : Int) := by omega
    simp [e, this]
def unP (t : Bool) (one : Ex) (os : List Ex) : Option (Nat × Nat) := (os.find? fun o => decide (pn t one ≠ pn t o)).map fun o => (pn t one, pn t o)
def uneq (one : Ex) (os : List Ex) : Option (Nat × Nat) := match unP false one os with
  | some r => some r
  | none => unP true one os
def CA (one : Ex) (os : List Ex) (s2 s3 : Option Ent) : Nv := [some (.sh, exD one), some (.sh, .tup (os.map exD)), s2, s3]
theorem ca_b0 (one : Ex) (os : List Ex) (t : Bool) (o : Ex) : b0_check_alike (CA one os (some (.sh, ixB t)) (some (.sh, exD o))) = if pn t one = pn t o then .nx (CA one os (some (.sh, ixB t)) (some (.sh, exD o))) else .er (unX (iD (pn t one)) (iD (pn t o))) (CA one os (some (.sh, ixB t)) (some (.sh, exD o))) := by
  have i1 := ix_ex t one
  have i2 := ix_ex t o
  have l1 := ln_ex t one
  have l2 := ln_ex t o
  have ne := ne_nat (pn t one) (pn t o)
  unfold b0_check_alike CA unX raiseS
  generalize exD one = EO at *
  generalize exD o = EP at *
  generalize ixB t = IX at *
  generalize ptD t one = PO1 at *
  generalize ptD t o = PO2 at *
  generalize os.map exD = OS at *
  by_cases c : pn t one = pn t o
  · rw [if_pos c]
    have ne : neD (iD (pn t one)) (iD (pn t o)) = some (.bl false) := by rw [ne, decide_eq_false (fun h => h c)]
    generalize iD (pn t one) = N1 at *
    generalize iD (pn t o) = N2 at *
    (push_cast [i1, i2, l1, l2, ne]) <;> (try rfl)
  · rw [if_neg c]
    have ne : neD (iD (pn t one)) (iD (pn t o)) = some (.bl true) := by rw [ne, decide_eq_true c]
    generalize iD (pn t one) = N1 at *
    generalize iD (pn t o) = N2 at *
    (push_cast [i1, i2, l1, l2, ne]) <;> (try rfl)
theorem ca_l0 (one : Ex) (os : List Ex) (t : Bool) : ∀ (l : List Ex) (s3 : Option Ent), ∃ t3, loopS (putE 3) b0_check_alike (l.map exD) (CA one os (some (.sh, ixB t)) s3) = match unP t one l with
    | none => .nx (CA one os (some (.sh, ixB t)) t3)
    | some (a, c) => .er (unX (iD a) (iD c)) (CA one os (some (.sh, ixB t)) t3)
  | [], s3 => ⟨s3, rfl⟩
  | o :: l, s3 => by
    have e := ca_b0 one os t o
    by_cases c : pn t one = pn t o
    · rw [if_pos c] at e
      obtain ⟨t3, r⟩ := ca_l0 one os t l (some (.sh, exD o))
      refine ⟨t3, (loop_cons (E1 := CA one os (some (.sh, ixB t)) (some (.sh, exD o))) rfl e).trans ?_⟩
      rw [r]
      have : unP t one (o :: l) = unP t one l := by unfold unP; rw [List.find?_cons_of_neg (by simp [c])]
      rw [this]
    · rw [if_neg c] at e
      refine ⟨some (.sh, exD o), ?_⟩
      have : unP t one (o :: l) = some (pn t one, pn t o) := by unfold unP; rw [List.find?_cons_of_pos (by simp [c])]; rfl
      rw [this]
      show (match putE 3 (exD o) (CA one os (some (.sh, ixB t)) s3) with
        | none => Fl.stk
        | some E1 => match b0_check_alike E1 with
          | .nx E2 => loopS (putE 3) b0_check_alike (l.map exD) E2
          | .ct E2 => loopS (putE 3) b0_check_alike (l.map exD) E2
          | .bk E2 => .nx E2
          | .rt p E2 => .rt p E2
          | .er x E2 => .er x E2
          | .stk => .stk) = _
      have pe : putE 3 (exD o) (CA one os (some (.sh, ixB t)) s3) = some (CA one os (some (.sh, ixB t)) (some (.sh, exD o))) := rfl
      rw [pe]
      simp only [e]
theorem ca_b1 (one : Ex) (os : List Ex) (t : Bool) (s3 : Option Ent) : ∃ t3, b1_check_alike (CA one os (some (.sh, ixB t)) s3) = match unP t one os with
    | none => .nx (CA one os (some (.sh, ixB t)) t3)
    | some (a, c) => .er (unX (iD a) (iD c)) (CA one os (some (.sh, ixB t)) t3) := by
  obtain ⟨t3, r⟩ := ca_l0 one os t os s3
  refine ⟨t3, ?_⟩
  rw [← r]
  unfold b1_check_alike l0_check_alike forS
  have q : seqI (rd 1) (CA one os (some (.sh, ixB t)) s3) = .ok (os.map exD) (CA one os (some (.sh, ixB t)) s3) := rfl
  rw [andS_at q]
theorem check_alike_ev (one : Ex) (os : List Ex) : ∃ O, m_check_alike [(.sh, exD one), (.sh, .tup (os.map exD))] = match uneq one os with
    | none => .ok (.sh, .non) O
    | some (a, c) => .er (unX (iD a) (iD c)) O := by
  obtain ⟨t3, r0⟩ := ca_b1 one os false none
  have q0 : seqI (tupM (conM (Dl.ret (.int 0)) (conM (Dl.ret (.int 1)) (Dl.ret [])))) (CA one os none none) = .ok [.int 0, .int 1] (CA one os none none) := rfl
  cases u0 : unP false one os with
  | some p =>
    obtain ⟨a, c⟩ := p
    rw [u0] at r0
    refine ⟨CA one os (some (.sh, .int 0)) t3, ?_⟩
    have : uneq one os = some (a, c) := by unfold uneq; rw [u0]
    rw [this]
    have m : g_check_alike (CA one os none none) = .er (unX (iD a) (iD c)) (CA one os (some (.sh, .int 0)) t3) := by
      rw [g_check_alike]
      unfold l1_check_alike forS
      rw [andS_at q0]
      have r0 : b1_check_alike (CA one os (some (.sh, .int 0)) none) = .er (unX (iD a) (iD c)) (CA one os (some (.sh, .int 0)) t3) := r0
      show (match b1_check_alike (CA one os (some (.sh, .int 0)) none) with
          | .nx E2 => loopS (putE 2) b1_check_alike [.int 1] E2
          | .ct E2 => loopS (putE 2) b1_check_alike [.int 1] E2
          | .bk E2 => .nx E2
          | .rt p E2 => .rt p E2
          | .er x E2 => .er x E2
          | .stk => .stk) = _
      rw [r0]
    show runG 4 g_check_alike [(.sh, exD one), (.sh, .tup (os.map exD))] = _
    rw [runG_ap]
    exact congrArg rnF m
  | none =>
    rw [u0] at r0
    obtain ⟨t4, r1⟩ := ca_b1 one os true t3
    have eu : uneq one os = unP true one os := by unfold uneq; rw [u0]
    rw [eu]
    refine ⟨CA one os (some (.sh, .int 1)) t4, ?_⟩
    show runG 4 g_check_alike [(.sh, exD one), (.sh, .tup (os.map exD))] = _
    have m : g_check_alike (CA one os none none) = match unP true one os with
        | none => .nx (CA one os (some (.sh, .int 1)) t4)
        | some (a, c) => .er (unX (iD a) (iD c)) (CA one os (some (.sh, .int 1)) t4) := by
      rw [g_check_alike]
      unfold l1_check_alike forS
      rw [andS_at q0]
      refine (loop_cons (E1 := CA one os (some (.sh, .int 0)) none) rfl r0).trans ?_
      have r1 : b1_check_alike (CA one os (some (.sh, .int 1)) t3) = match unP true one os with
        | none => .nx (CA one os (some (.sh, .int 1)) t4)
        | some (a, c) => .er (unX (iD a) (iD c)) (CA one os (some (.sh, .int 1)) t4) := r1
      cases u1 : unP true one os with
      | none =>
        rw [u1] at r1
        exact (loop_cons (E1 := CA one os (some (.sh, .int 1)) t3) rfl r1).trans rfl
      | some p =>
        obtain ⟨a, c⟩ := p
        rw [u1] at r1
        show (match b1_check_alike (CA one os (some (.sh, .int 1)) t3) with
          | .nx E2 => loopS (putE 2) b1_check_alike [] E2
          | .ct E2 => loopS (putE 2) b1_check_alike [] E2
          | .bk E2 => .nx E2
          | .rt p E2 => .rt p E2
          | .er x E2 => .er x E2
          | .stk => .stk) = _
        rw [r1]
    rw [runG_ap]
    refine (congrArg rnF m).trans ?_
    cases unP true one os with
    | none => rfl
    | some p => rfl
theorem callV1 {m : Fm} {fs : M (List D)} {d : D} {ds : List D} {E E1 : Nv} (h : fs E = .ok (d :: ds) E1) (z : ds.length ≤ 100) : callV 1 m fs E = callM m [none, none] [d, .tup ds] E1 := by
  have sz : 2000 ≤ sizeLine := by decide
  unfold callV
  rw [bnd_ap, h, bdR_ok, if_pos ⟨by rw [List.length_cons]; omega, small_of (by rw [List.length_cons]; omega)⟩]
  rfl
theorem uneq_none {one : Ex} {os : List Ex} (h : uneq one os = none) : ∀ o ∈ os, o.1.length = one.1.length ∧ o.2.length = one.2.length := by
  unfold uneq at h
  cases u0 : unP false one os with
  | some p => rw [u0] at h; cases h
  | none =>
    rw [u0] at h
    have h1 : unP true one os = none := h
    intro o m
    unfold unP at u0 h1
    rw [Option.map_eq_none_iff, List.find?_eq_none] at u0 h1
    have a := u0 o m
    have c := h1 o m
    simp only [ne_eq, decide_not, Bool.not_eq_eq_eq_not, Bool.not_true, decide_eq_false_iff_not, Decidable.not_not] at a c
    exact ⟨a.symm, c.symm⟩
theorem minL_same {n : Nat} : ∀ {l : List (List D)}, l ≠ [] → (∀ x ∈ l, x.length = n) → minL l = n
  | [x], _, h => h x List.mem_cons_self
  | x :: y :: r, _, h => by
    unfold minL
    rw [h x List.mem_cons_self, minL_same (l := y :: r) (by simp) fun z m => h z (List.mem_cons_of_mem _ m)]
    exact Nat.min_self n
def rowE (t : Bool) (l : List Ex) (i : Nat) : D := .tup (l.map fun p => match t with
  | false => .str (kiS (kap p.1 i))
  | true => .int (tap p.2 i))
def clD : Bool → Ex → List D
  | false, p => p.1.map fun k => .str (kiS k)
  | true, p => p.2.map .int
theorem sq_pt (t : Bool) : ∀ l : List Ex, sqAll (l.map (ptD t)) = some (l.map (clD t))
  | [] => rfl
  | p :: l => by
    have ih := sq_pt t l
    have e : ptD t p = .tup (clD t p) := by cases t <;> rfl
    rw [List.map_cons, e]
    show ((sqO (.tup (clD t p))).bind fun x => (sqAll (l.map (ptD t))).map (x :: ·)) = _
    rw [ih]
    rfl
theorem zip_ex (t : Bool) {n : Nat} {l : List Ex} (h : l ≠ []) (o : ∀ p ∈ l, pn t p = n) : zipNO (l.map (ptD t)) = some ((List.range n).map (rowE t l)) := by
  cases l with
  | nil => exact absurd rfl h
  | cons p0 l =>
    show (sqAll ((p0 :: l).map (ptD t))).map rowsN = _
    rw [sq_pt]
    show some (rowsN _) = _
    unfold rowsN
    have ml : minL ((p0 :: l).map (clD t)) = n := minL_same (by simp) fun x m => by
        obtain ⟨p, mp, rfl⟩ := List.mem_map.mp m
        have := o p mp
        cases t with
        | false => exact (List.length_map ..).trans this
        | true => exact (List.length_map ..).trans this
    rw [ml]
    congr 1
    refine List.map_congr_left fun w m => ?_
    unfold rowE
    rw [List.map_map]
    congr 1
    refine List.map_congr_left fun p mp => ?_
    have hw : w < pn t p := by rw [o p mp]; exact List.mem_range.mp m
    cases t with
    | false =>
      show ((p.1.map fun k => D.str (kiS k))[w]?).getD .non = D.str (kiS (kap p.1 w))
      have hw : w < p.1.length := hw
      rw [List.getElem?_map]
      unfold kap
      rw [List.getElem?_eq_getElem hw]
      rfl
    | true =>
      show ((p.2.map D.int)[w]?).getD .non = D.int (tap p.2 w)
      have hw : w < p.2.length := hw
      rw [List.getElem?_map]
      unfold tap
      rw [List.getElem?_eq_getElem hw]
      rfl
theorem srt2 (x y : Int) : srtI [x, y] = [botI x [y], topI x [y]] := by
  show srtI [x, y] = [(if y < x then y else x), (if y > x then y else x)]
  by_cases c : x ≤ y
  · have : srtI [x, y] = [x, y] := by
      unfold srtI
      refine List.mergeSort_of_pairwise ?_
      rw [List.pairwise_cons]
      exact ⟨fun b m => by rw [List.mem_singleton.mp m]; exact decide_eq_true c, List.pairwise_singleton ..⟩
    rw [this, if_neg (by omega)]
    by_cases d : y > x
    · rw [if_pos d]
    · rw [if_neg d, show y = x by omega]
  · rw [if_pos (by omega), if_neg (by omega)]
    unfold srtI
    simp [List.mergeSort, List.MergeSort.Internal.splitInTwo, leQ, c]
def mj (x y z : Bool) : Bool := x && y || y && z || x && z
def leK (x y : Bool) : Bool := x || !y
theorem toPs_kis (l : List Bool) : toPs (l.map fun k => D.str (kiS k)) = some (l.map fun k => PyData.str (kiS k)) := Lb.toPs_map (fun _ => rfl) l
theorem srtOk_kis (l : List Bool) : srtOk (l.map fun k => PyData.str (kiS k)) = true := by
  unfold srtOk
  simp only [List.all_map, Bool.and_eq_true, Bool.or_eq_true, List.all_eq_true, Function.comp, decide_eq_true_eq]
  exact ⟨⟨fun a _ b _ => rfl, .inr fun a _ => trivial⟩, fun a _ => by show 0 ≤ 8; omega⟩
theorem data_ki (x y : Bool) : PySem.W.dataLe false (fun z : D × PyData => z.2) (D.str (kiS x), PyData.str (kiS x)) (D.str (kiS y), PyData.str (kiS y)) = leK x y := by
  cases x <;> cases y <;> kernel_rfl
theorem srt_kis (l : List Bool) : ((srtZ ((l.map fun k => D.str (kiS k)).zip (l.map fun k => PyData.str (kiS k)))).map (·.1)) = (l.mergeSort leK).map fun k => D.str (kiS k) := by
  have z : (l.map fun k => D.str (kiS k)).zip (l.map fun k => PyData.str (kiS k)) = l.map fun k => (D.str (kiS k), PyData.str (kiS k)) := by
    induction l with
    | nil => rfl
    | cons x l ih => rw [List.map_cons, List.map_cons, List.zip_cons_cons, ih]; rfl
  rw [z]
  unfold srtZ
  have := List.map_mergeSort (r := leK) (s := PySem.W.dataLe false fun z : D × PyData => z.2) (f := fun k : Bool => (D.str (kiS k), PyData.str (kiS k))) (l := l) fun a _ b _ => (data_ki a b).symm
  rw [← this, List.map_map]
  rfl
theorem srt3_b (x y z : Bool) : ([x, y, z].mergeSort leK)[1]? = some (mj x y z) := by
  cases x <;> cases y <;> cases z <;> simp [List.mergeSort, List.merge, List.MergeSort.Internal.splitInTwo, leK, mj]
theorem srt3_k (x y z : Bool) : ∃ L, sortedT [.tup [.str (kiS x), .str (kiS y), .str (kiS z)]] = some L ∧ ixD L (.int 1) = some (.str (kiS (mj x y z))) := by
  refine ⟨.lst (([x, y, z].mergeSort leK).map fun k => D.str (kiS k)), ?_, ?_⟩
  · have e := toPs_kis [x, y, z]
    have o := srtOk_kis [x, y, z]
    have s := srt_kis [x, y, z]
    show (match toPs ([x, y, z].map fun k => D.str (kiS k)) with
      | some ps => if srtOk ps = true then some (D.lst ((srtZ (([x, y, z].map fun k => D.str (kiS k)).zip ps)).map fun q : D × PyData => q.1)) else none
      | none => none) = _
    rw [e]
    simp only
    rw [if_pos o, s]
  · rw [ixL, atI_nn (by omega)]
    show (([x, y, z].mergeSort leK).map fun k => D.str (kiS k))[1]? = _
    rw [List.getElem?_map, srt3_b]
    rfl
theorem cnt3 (x y z : Bool) : ∃ n : Int, cntD (.lst [.str (kiS x), .str (kiS y), .str (kiS z)]) [.str "early"] = some (.int n) ∧ gtD (.int n) (.int 1) = some (.bl (mj x y z)) :=
  ⟨_, cnt_kinds [x, y, z], by cases x <;> cases y <;> cases z <;> rfl⟩
theorem in2 (s x y : Bool) : inD (.str (kiS s)) (.lst [.str (kiS x), .str (kiS y)]) = some (.bl (if s then x || y else !x || !y)) := by cases s <;> cases x <;> cases y <;> kernel_rfl
theorem in2T (s x y : Bool) : inD (.str (kiS s)) (.tup [.str (kiS x), .str (kiS y)]) = some (.bl (if s then x || y else !x || !y)) := by cases s <;> cases x <;> cases y <;> kernel_rfl
def md (x y z : Int) : Int := ((srtI [x, y, z])[1]?).getD 0
theorem srt3_at (x y z : Int) : ixD (.lst ((srtI [x, y, z]).map .int)) (.int 1) = some (.int (md x y z)) := by
  have l : (srtI [x, y, z]).length = 3 := (srtI_perm [x, y, z]).length_eq
  rw [ixL, atI_nn (by omega)]
  show ((srtI [x, y, z]).map D.int)[1]? = _
  rw [List.getElem?_map]
  unfold md
  rw [List.getElem?_eq_getElem (by omega)]
  rfl
theorem srt3_t (x y z : Int) : sortedT [.tup [.int x, .int y, .int z]] = some (.lst ((srtI [x, y, z]).map .int)) := sorted_ints [x, y, z]
def midE (a b c : Ex) : Ex := ((List.range a.1.length).map fun i => mj (kap a.1 i) (kap b.1 i) (kap c.1 i), (List.range a.2.length).map fun i => md (tap a.2 i) (tap b.2 i) (tap c.2 i))
def jmE (s : Bool) (a b : Ex) : Ex := ((List.range a.1.length).map fun i => if s then kap a.1 i || kap b.1 i else kap a.1 i && kap b.1 i, (List.range a.2.length).map fun i => if s then topI (tap a.2 i) [tap b.2 i] else botI (tap a.2 i) [tap b.2 i])
theorem tp_lst (L : List D) : tupleD [.lst L] = some (.tup L) := rfl
theorem kd_map {n : Nat} (f : Nat → Bool) : D.tup ((List.range n).map fun i => .str (kiS (f i))) = kdD ((List.range n).map f) := by
  unfold kdD
  rw [List.map_map]
  rfl
theorem tm_map {n : Nat} (f : Nat → Int) : D.tup ((List.range n).map fun i => .int (f i)) = tmD ((List.range n).map f) := by
  unfold tmD
  rw [List.map_map]
  rfl
def MD (a b c : Ex) (s3 s4 : Option Ent) : Nv := [some (.sh, exD a), some (.sh, exD b), some (.sh, exD c), s3, s4]
theorem md_zip {a b c : Ex} (t : Bool) (h1 : pn t b = pn t a) (h2 : pn t c = pn t a) (s3 : Option Ent) : zpN (conM (opM ixD (rd 0) (Dl.ret (ixB t))) (conM (opM ixD (rd 1) (Dl.ret (ixB t))) (conM (opM ixD (rd 2) (Dl.ret (ixB t))) (Dl.ret [])))) (MD a b c s3 none) = .ok ((List.range (pn t a)).map (rowE t [a, b, c])) (MD a b c s3 none) := by
  have i1 := ix_ex t a
  have i2 := ix_ex t b
  have i3 := ix_ex t c
  have z := zip_ex t (n := pn t a) (l := [a, b, c]) (by simp) (fun p m => by
    rcases List.mem_cons.mp m with rfl | m
    · rfl
    rcases List.mem_cons.mp m with rfl | m
    · exact h1
    rcases List.mem_cons.mp m with rfl | m
    · exact h2
    cases m)
  have z : zipNO [ptD t a, ptD t b, ptD t c] = some ((List.range (pn t a)).map (rowE t [a, b, c])) := z
  have r : (conM (opM ixD (rd 0) (Dl.ret (ixB t))) (conM (opM ixD (rd 1) (Dl.ret (ixB t))) (conM (opM ixD (rd 2) (Dl.ret (ixB t))) (Dl.ret [])))) (MD a b c s3 none) = .ok [ptD t a, ptD t b, ptD t c] (MD a b c s3 none) := by
    clear z
    unfold MD
    generalize exD a = EA at *
    generalize exD b = EB at *
    generalize exD c = EC at *
    generalize ixB t = IX at *
    (push_cast [i1, i2, i3]) <;> (try rfl)
  unfold zpN
  rw [bnd_ap, r, bdR_ok, if_pos (by show decide (3 ≤ 15) = true; rfl), z]
  rfl
theorem median_c0 {a b c : Ex} (h1 : b.1.length = a.1.length) (h2 : c.1.length = a.1.length) (hn : a.1.length ≤ 1000) (s3 : Option Ent) : c0_median (MD a b c s3 none) = .ok (.l .sh, .lst ((List.range a.1.length).map fun i => .str (kiS (mj (kap a.1 i) (kap b.1 i) (kap c.1 i))))) (MD a b c s3 none) := by
  have sz : 2000 ≤ sizeLine := by decide
  unfold c0_median
  refine compT (l := List.range a.1.length) (emb := rowE false [a, b, c]) (EA := MD a b c s3 none) (E1 := fun i => MD a b c s3 (some (.sh, rowE false [a, b, c] i))) (md_zip false h1 h2 s3) rfl (fun i m => ⟨rfl, ?_, rfl⟩) (by rw [List.length_range]; omega)
  obtain ⟨L, e1, e2⟩ := srt3_k (kap a.1 i) (kap b.1 i) (kap c.1 i)
  have e1 : sortedT [rowE false [a, b, c] i] = some L := e1
  unfold MD
  generalize exD a = EA at *
  generalize exD b = EB at *
  generalize exD c = EC at *
  generalize rowE false [a, b, c] i = RW at *
  generalize kiS (mj (kap a.1 i) (kap b.1 i) (kap c.1 i)) = KS at *
  (push_cast [e1, e2]) <;> (try rfl)
theorem median_c1 {a b c : Ex} (h1 : b.2.length = a.2.length) (h2 : c.2.length = a.2.length) (hn : a.2.length ≤ 1000) (s3 : Option Ent) : c1_median (MD a b c s3 none) = .ok (.l .sh, .lst ((List.range a.2.length).map fun i => .int (md (tap a.2 i) (tap b.2 i) (tap c.2 i)))) (MD a b c s3 none) := by
  have sz : 2000 ≤ sizeLine := by decide
  unfold c1_median
  refine compT (l := List.range a.2.length) (emb := rowE true [a, b, c]) (EA := MD a b c s3 none) (E1 := fun i => MD a b c s3 (some (.sh, rowE true [a, b, c] i))) (md_zip true h1 h2 s3) rfl (fun i m => ⟨rfl, ?_, rfl⟩) (by rw [List.length_range]; omega)
  have e1 := srt3_t (tap a.2 i) (tap b.2 i) (tap c.2 i)
  have e2 := srt3_at (tap a.2 i) (tap b.2 i) (tap c.2 i)
  have e1 : sortedT [rowE true [a, b, c] i] = some (.lst ((srtI [tap a.2 i, tap b.2 i, tap c.2 i]).map .int)) := e1
  unfold MD
  generalize D.lst ((srtI [tap a.2 i, tap b.2 i, tap c.2 i]).map .int) = L at *
  generalize exD a = EA at *
  generalize exD b = EB at *
  generalize exD c = EC at *
  generalize rowE true [a, b, c] i = RW at *
  generalize md (tap a.2 i) (tap b.2 i) (tap c.2 i) = KS at *
  (push_cast [e1, e2]) <;> (try rfl)
theorem median_ev (a b c : Ex) (n1 : a.1.length ≤ 1000) (n2 : a.2.length ≤ 1000) : ∃ O, m_median [(.sh, exD a), (.sh, exD b), (.sh, exD c)] = match uneq a [b, c] with
    | none => .ok (.sh, exD (midE a b c)) O
    | some (x, y) => .er (unX (iD x) (iD y)) O := by
  obtain ⟨O1, ca⟩ := check_alike_ev a [b, c]
  have cv : callV 1 m_check_alike (conM (rd 0) (conM (rd 1) (conM (rd 2) (Dl.ret [])))) (MD a b c none none) = callM m_check_alike [none, none] [exD a, .tup ([b, c].map exD)] (MD a b c none none) := callV1 rfl (by simp)
  cases u : uneq a [b, c] with
  | some p =>
    obtain ⟨x, y⟩ := p
    rw [u] at ca
    have ca : m_check_alike [(.sh, exD a), (.sh, .tup ([b, c].map exD))] = .er (unX (iD x) (iD y)) O1 := ca
    refine ⟨MD a b c none none, ?_⟩
    have m : g_median (MD a b c none none) = .er (unX (iD x) (iD y)) (MD a b c none none) := by
      rw [g_median]
      generalize D.tup ([b, c].map exD) = TT at *
      unfold MD at cv ⊢
      generalize exD a = EA at *
      generalize exD b = EB at *
      generalize exD c = EC at *
      (push_cast [cv, ca]) <;> (try rfl)
    show runG 5 g_median [(.sh, exD a), (.sh, exD b), (.sh, exD c)] = _
    rw [runG_ap]
    exact congrArg rnF m
  | none =>
    rw [u] at ca
    have ca : m_check_alike [(.sh, exD a), (.sh, .tup ([b, c].map exD))] = .ok (.sh, .non) O1 := ca
    have q1 := uneq_none u b (by simp)
    have q2 := uneq_none u c (by simp)
    have c0 := median_c0 q1.1 q2.1 n1 none
    have c1 := median_c1 q1.2 q2.2 n2 (some (.sh, .lst ((List.range a.1.length).map fun i => .str (kiS (mj (kap a.1 i) (kap b.1 i) (kap c.1 i))))))
    have k1 := kd_map (n := a.1.length) fun i => mj (kap a.1 i) (kap b.1 i) (kap c.1 i)
    have k2 := tm_map (n := a.2.length) fun i => md (tap a.2 i) (tap b.2 i) (tap c.2 i)
    refine ⟨MD a b c (some (.sh, .lst ((List.range a.1.length).map fun i => .str (kiS (mj (kap a.1 i) (kap b.1 i) (kap c.1 i)))))) none, ?_⟩
    have m : g_median (MD a b c none none) = .rt (.sh, exD (midE a b c)) (MD a b c (some (.sh, .lst ((List.range a.1.length).map fun i => .str (kiS (mj (kap a.1 i) (kap b.1 i) (kap c.1 i)))))) none) := by
      rw [g_median, show exD (midE a b c) = .tup [kdD ((List.range a.1.length).map fun i => mj (kap a.1 i) (kap b.1 i) (kap c.1 i)), tmD ((List.range a.2.length).map fun i => md (tap a.2 i) (tap b.2 i) (tap c.2 i))] from rfl, ← k1, ← k2]
      clear k1 k2
      have t1 := tp_lst ((List.range a.1.length).map fun i => .str (kiS (mj (kap a.1 i) (kap b.1 i) (kap c.1 i))))
      have t2 := tp_lst ((List.range a.2.length).map fun i => .int (md (tap a.2 i) (tap b.2 i) (tap c.2 i)))
      generalize ((List.range a.1.length).map fun i => D.str (kiS (mj (kap a.1 i) (kap b.1 i) (kap c.1 i)))) = L1 at *
      generalize ((List.range a.2.length).map fun i => D.int (md (tap a.2 i) (tap b.2 i) (tap c.2 i))) = L2' at *
      generalize D.tup ([b, c].map exD) = TT at *
      unfold MD at cv c0 c1 ⊢
      generalize exD a = EA at *
      generalize exD b = EB at *
      generalize exD c = EC at *
      (push_cast [cv, ca, c0, frzS_ap, frR_so, t1, c1, t2]) <;> (try rfl)
    show runG 5 g_median [(.sh, exD a), (.sh, exD b), (.sh, exD c)] = _
    rw [runG_ap]
    exact congrArg rnF m
def JM (a b : Ex) (s2 s3 : Option Ent) : Nv := [some (.sh, exD a), some (.sh, exD b), s2, s3]
theorem jm_zip {a b : Ex} (t : Bool) (h1 : pn t b = pn t a) (s2 : Option Ent) : zpN (conM (opM ixD (rd 0) (Dl.ret (ixB t))) (conM (opM ixD (rd 1) (Dl.ret (ixB t))) (Dl.ret []))) (JM a b s2 none) = .ok ((List.range (pn t a)).map (rowE t [a, b])) (JM a b s2 none) := by
  have i1 := ix_ex t a
  have i2 := ix_ex t b
  have z := zip_ex t (n := pn t a) (l := [a, b]) (by simp) (fun p m => by
    rcases List.mem_cons.mp m with rfl | m
    · rfl
    rcases List.mem_cons.mp m with rfl | m
    · exact h1
    cases m)
  have z : zipNO [ptD t a, ptD t b] = some ((List.range (pn t a)).map (rowE t [a, b])) := z
  have r : (conM (opM ixD (rd 0) (Dl.ret (ixB t))) (conM (opM ixD (rd 1) (Dl.ret (ixB t))) (Dl.ret []))) (JM a b s2 none) = .ok [ptD t a, ptD t b] (JM a b s2 none) := by
    clear z
    unfold JM
    generalize exD a = EA at *
    generalize exD b = EB at *
    generalize ixB t = IX at *
    (push_cast [i1, i2]) <;> (try rfl)
  unfold zpN
  rw [bnd_ap, r, bdR_ok, if_pos (by show decide (2 ≤ 15) = true; rfl), z]
  rfl
theorem joined_c0 {a b : Ex} (h1 : b.1.length = a.1.length) (hn : a.1.length ≤ 1000) (s2 : Option Ent) : c0_joined (JM a b s2 none) = .ok (.l .sh, .lst ((List.range a.1.length).map fun i => .str (kiS (kap a.1 i || kap b.1 i)))) (JM a b s2 none) := by
  have sz : 2000 ≤ sizeLine := by decide
  unfold c0_joined
  refine compT (l := List.range a.1.length) (emb := rowE false [a, b]) (EA := JM a b s2 none) (E1 := fun i => JM a b s2 (some (.sh, rowE false [a, b] i))) (jm_zip false h1 s2) rfl (fun i m => ⟨rfl, ?_, rfl⟩) (by rw [List.length_range]; omega)
  have e1 := in2T true (kap a.1 i) (kap b.1 i)
  have e1 : inD (.str "early") (rowE false [a, b] i) = some (.bl (kap a.1 i || kap b.1 i)) := e1
  unfold JM
  generalize exD a = EA at *
  generalize exD b = EB at *
  generalize rowE false [a, b] i = RW at *
  cases q : (kap a.1 i || kap b.1 i) with
  | true =>
    rw [q] at e1
    show _ = Rs.ok (D.str "early") _
    (push_cast [e1]) <;> (try rfl)
  | false =>
    rw [q] at e1
    show _ = Rs.ok (D.str "late") _
    (push_cast [e1]) <;> (try rfl)
theorem met_c0 {a b : Ex} (h1 : b.1.length = a.1.length) (hn : a.1.length ≤ 1000) (s2 : Option Ent) : c0_met (JM a b s2 none) = .ok (.l .sh, .lst ((List.range a.1.length).map fun i => .str (kiS (kap a.1 i && kap b.1 i)))) (JM a b s2 none) := by
  have sz : 2000 ≤ sizeLine := by decide
  unfold c0_met
  refine compT (l := List.range a.1.length) (emb := rowE false [a, b]) (EA := JM a b s2 none) (E1 := fun i => JM a b s2 (some (.sh, rowE false [a, b] i))) (jm_zip false h1 s2) rfl (fun i m => ⟨rfl, ?_, rfl⟩) (by rw [List.length_range]; omega)
  have e1 := in2T false (kap a.1 i) (kap b.1 i)
  have e1 : inD (.str "late") (rowE false [a, b] i) = some (.bl (!kap a.1 i || !kap b.1 i)) := e1
  unfold JM
  generalize exD a = EA at *
  generalize exD b = EB at *
  generalize rowE false [a, b] i = RW at *
  have nq : (!kap a.1 i || !kap b.1 i) = !(kap a.1 i && kap b.1 i) := by cases kap a.1 i <;> cases kap b.1 i <;> rfl
  rw [nq] at e1
  cases q : (kap a.1 i && kap b.1 i) with
  | true =>
    rw [q] at e1
    show _ = Rs.ok (D.str "early") _
    have e1 : inD (.str "late") RW = some (.bl false) := e1
    (push_cast [e1]) <;> (try rfl)
  | false =>
    rw [q] at e1
    show _ = Rs.ok (D.str "late") _
    have e1 : inD (.str "late") RW = some (.bl true) := e1
    (push_cast [e1]) <;> (try rfl)
theorem joined_c1 {a b : Ex} (h1 : b.2.length = a.2.length) (hn : a.2.length ≤ 1000) (s2 : Option Ent) : c1_joined (JM a b s2 none) = .ok (.l .sh, .lst ((List.range a.2.length).map fun i => .int (topI (tap a.2 i) [tap b.2 i]))) (JM a b s2 none) := by
  have sz : 2000 ≤ sizeLine := by decide
  unfold c1_joined
  refine compT (l := List.range a.2.length) (emb := rowE true [a, b]) (EA := JM a b s2 none) (E1 := fun i => JM a b s2 (some (.sh, rowE true [a, b] i))) (jm_zip true h1 s2) rfl (fun i m => ⟨rfl, ?_, rfl⟩) (by rw [List.length_range]; omega)
  have e1 : maxSD [rowE true [a, b] i] = some (.int (topI (tap a.2 i) [tap b.2 i])) := rfl
  unfold JM
  generalize exD a = EA at *
  generalize exD b = EB at *
  generalize rowE true [a, b] i = RW at *
  generalize topI (tap a.2 i) [tap b.2 i] = KS at *
  (push_cast [e1]) <;> (try rfl)
theorem met_c1 {a b : Ex} (h1 : b.2.length = a.2.length) (hn : a.2.length ≤ 1000) (s2 : Option Ent) : c1_met (JM a b s2 none) = .ok (.l .sh, .lst ((List.range a.2.length).map fun i => .int (botI (tap a.2 i) [tap b.2 i]))) (JM a b s2 none) := by
  have sz : 2000 ≤ sizeLine := by decide
  unfold c1_met
  refine compT (l := List.range a.2.length) (emb := rowE true [a, b]) (EA := JM a b s2 none) (E1 := fun i => JM a b s2 (some (.sh, rowE true [a, b] i))) (jm_zip true h1 s2) rfl (fun i m => ⟨rfl, ?_, rfl⟩) (by rw [List.length_range]; omega)
  have e1 : minSD [rowE true [a, b] i] = some (.int (botI (tap a.2 i) [tap b.2 i])) := rfl
  unfold JM
  generalize exD a = EA at *
  generalize exD b = EB at *
  generalize rowE true [a, b] i = RW at *
  generalize botI (tap a.2 i) [tap b.2 i] = KS at *
  (push_cast [e1]) <;> (try rfl)
theorem joined_ev (a b : Ex) (n1 : a.1.length ≤ 1000) (n2 : a.2.length ≤ 1000) : ∃ O, m_joined [(.sh, exD a), (.sh, exD b)] = match uneq a [b] with
    | none => .ok (.sh, exD (jmE true a b)) O
    | some (x, y) => .er (unX (iD x) (iD y)) O := by
  obtain ⟨O1, ca⟩ := check_alike_ev a [b]
  have cv : callV 1 m_check_alike (conM (rd 0) (conM (rd 1) (Dl.ret []))) (JM a b none none) = callM m_check_alike [none, none] [exD a, .tup ([b].map exD)] (JM a b none none) := callV1 rfl (by simp)
  cases u : uneq a [b] with
  | some p =>
    obtain ⟨x, y⟩ := p
    rw [u] at ca
    have ca : m_check_alike [(.sh, exD a), (.sh, .tup ([b].map exD))] = .er (unX (iD x) (iD y)) O1 := ca
    refine ⟨JM a b none none, ?_⟩
    have m : g_joined (JM a b none none) = .er (unX (iD x) (iD y)) (JM a b none none) := by
      rw [g_joined]
      generalize D.tup ([b].map exD) = TT at *
      unfold JM at cv ⊢
      generalize exD a = EA at *
      generalize exD b = EB at *
      (push_cast [cv, ca]) <;> (try rfl)
    show runG 4 g_joined [(.sh, exD a), (.sh, exD b)] = _
    rw [runG_ap]
    exact congrArg rnF m
  | none =>
    rw [u] at ca
    have ca : m_check_alike [(.sh, exD a), (.sh, .tup ([b].map exD))] = .ok (.sh, .non) O1 := ca
    have q1 := uneq_none u b (by simp)
    have c0 := joined_c0 q1.1 n1 none
    have c1 := joined_c1 q1.2 n2 (some (.sh, .lst ((List.range a.1.length).map fun i => .str (kiS (kap a.1 i || kap b.1 i)))))
    have k1 := kd_map (n := a.1.length) fun i => (kap a.1 i || kap b.1 i)
    have k2 := tm_map (n := a.2.length) fun i => topI (tap a.2 i) [tap b.2 i]
    refine ⟨JM a b (some (.sh, .lst ((List.range a.1.length).map fun i => .str (kiS (kap a.1 i || kap b.1 i))))) none, ?_⟩
    have m : g_joined (JM a b none none) = .rt (.sh, exD (jmE true a b)) (JM a b (some (.sh, .lst ((List.range a.1.length).map fun i => .str (kiS (kap a.1 i || kap b.1 i))))) none) := by
      rw [g_joined, show exD (jmE true a b) = .tup [kdD ((List.range a.1.length).map fun i => (kap a.1 i || kap b.1 i)), tmD ((List.range a.2.length).map fun i => topI (tap a.2 i) [tap b.2 i])] from rfl, ← k1, ← k2]
      clear k1 k2
      have t1 := tp_lst ((List.range a.1.length).map fun i => .str (kiS (kap a.1 i || kap b.1 i)))
      have t2 := tp_lst ((List.range a.2.length).map fun i => .int (topI (tap a.2 i) [tap b.2 i]))
      generalize ((List.range a.1.length).map fun i => D.str (kiS (kap a.1 i || kap b.1 i))) = L1 at *
      generalize ((List.range a.2.length).map fun i => D.int (topI (tap a.2 i) [tap b.2 i])) = L2' at *
      generalize D.tup ([b].map exD) = TT at *
      unfold JM at cv c0 c1 ⊢
      generalize exD a = EA at *
      generalize exD b = EB at *
      (push_cast [cv, ca, c0, frzS_ap, frR_so, t1, c1, t2]) <;> (try rfl)
    show runG 4 g_joined [(.sh, exD a), (.sh, exD b)] = _
    rw [runG_ap]
    exact congrArg rnF m
theorem met_ev (a b : Ex) (n1 : a.1.length ≤ 1000) (n2 : a.2.length ≤ 1000) : ∃ O, m_met [(.sh, exD a), (.sh, exD b)] = match uneq a [b] with
    | none => .ok (.sh, exD (jmE false a b)) O
    | some (x, y) => .er (unX (iD x) (iD y)) O := by
  obtain ⟨O1, ca⟩ := check_alike_ev a [b]
  have cv : callV 1 m_check_alike (conM (rd 0) (conM (rd 1) (Dl.ret []))) (JM a b none none) = callM m_check_alike [none, none] [exD a, .tup ([b].map exD)] (JM a b none none) := callV1 rfl (by simp)
  cases u : uneq a [b] with
  | some p =>
    obtain ⟨x, y⟩ := p
    rw [u] at ca
    have ca : m_check_alike [(.sh, exD a), (.sh, .tup ([b].map exD))] = .er (unX (iD x) (iD y)) O1 := ca
    refine ⟨JM a b none none, ?_⟩
    have m : g_met (JM a b none none) = .er (unX (iD x) (iD y)) (JM a b none none) := by
      rw [g_met]
      generalize D.tup ([b].map exD) = TT at *
      unfold JM at cv ⊢
      generalize exD a = EA at *
      generalize exD b = EB at *
      (push_cast [cv, ca]) <;> (try rfl)
    show runG 4 g_met [(.sh, exD a), (.sh, exD b)] = _
    rw [runG_ap]
    exact congrArg rnF m
  | none =>
    rw [u] at ca
    have ca : m_check_alike [(.sh, exD a), (.sh, .tup ([b].map exD))] = .ok (.sh, .non) O1 := ca
    have q1 := uneq_none u b (by simp)
    have c0 := met_c0 q1.1 n1 none
    have c1 := met_c1 q1.2 n2 (some (.sh, .lst ((List.range a.1.length).map fun i => .str (kiS (kap a.1 i && kap b.1 i)))))
    have k1 := kd_map (n := a.1.length) fun i => (kap a.1 i && kap b.1 i)
    have k2 := tm_map (n := a.2.length) fun i => botI (tap a.2 i) [tap b.2 i]
    refine ⟨JM a b (some (.sh, .lst ((List.range a.1.length).map fun i => .str (kiS (kap a.1 i && kap b.1 i))))) none, ?_⟩
    have m : g_met (JM a b none none) = .rt (.sh, exD (jmE false a b)) (JM a b (some (.sh, .lst ((List.range a.1.length).map fun i => .str (kiS (kap a.1 i && kap b.1 i))))) none) := by
      rw [g_met, show exD (jmE false a b) = .tup [kdD ((List.range a.1.length).map fun i => (kap a.1 i && kap b.1 i)), tmD ((List.range a.2.length).map fun i => botI (tap a.2 i) [tap b.2 i])] from rfl, ← k1, ← k2]
      clear k1 k2
      have t1 := tp_lst ((List.range a.1.length).map fun i => .str (kiS (kap a.1 i && kap b.1 i)))
      have t2 := tp_lst ((List.range a.2.length).map fun i => .int (botI (tap a.2 i) [tap b.2 i]))
      generalize ((List.range a.1.length).map fun i => D.str (kiS (kap a.1 i && kap b.1 i))) = L1 at *
      generalize ((List.range a.2.length).map fun i => D.int (botI (tap a.2 i) [tap b.2 i])) = L2' at *
      generalize D.tup ([b].map exD) = TT at *
      unfold JM at cv c0 c1 ⊢
      generalize exD a = EA at *
      generalize exD b = EB at *
      (push_cast [cv, ca, c0, frzS_ap, frR_so, t1, c1, t2]) <;> (try rfl)
    show runG 4 g_met [(.sh, exD a), (.sh, exD b)] = _
    rw [runG_ap]
    exact congrArg rnF m
def LU (l : List Ex) (s1 s2 : Option Ent) : Nv := [some (.sh, .lst (l.map exD)), s1, s2]
def uqD (p : Nat × Nat) : D := .tup [.str "unequal", iD p.1, iD p.2]
theorem lu_b0 (one : Ex) (os : List Ex) (t : Bool) (o : Ex) : b0_law_unequal (LU (one :: os) (some (.sh, ixB t)) (some (.sh, exD o))) = if pn t one = pn t o then .nx (LU (one :: os) (some (.sh, ixB t)) (some (.sh, exD o))) else .rt (.sh, uqD (pn t one, pn t o)) (LU (one :: os) (some (.sh, ixB t)) (some (.sh, exD o))) := by
  have i0 : ixD (.lst ((one :: os).map exD)) (.int 0) = some (exD one) := by rw [ixL, atI_nn (by omega)]; rfl
  have i1 := ix_ex t one
  have i2 := ix_ex t o
  have l1 := ln_ex t one
  have l2 := ln_ex t o
  have ne := ne_nat (pn t one) (pn t o)
  unfold b0_law_unequal LU uqD
  generalize (one :: os).map exD = OS at *
  generalize exD one = EO at *
  generalize exD o = EP at *
  generalize ixB t = IX at *
  generalize ptD t one = PO1 at *
  generalize ptD t o = PO2 at *
  by_cases c : pn t one = pn t o
  · rw [if_pos c]
    have ne : neD (iD (pn t one)) (iD (pn t o)) = some (.bl false) := by rw [ne, decide_eq_false (fun h => h c)]
    generalize iD (pn t one) = N1 at *
    generalize iD (pn t o) = N2 at *
    (push_cast [i0, i1, i2, l1, l2, ne]) <;> (try rfl)
  · rw [if_neg c]
    have ne : neD (iD (pn t one)) (iD (pn t o)) = some (.bl true) := by rw [ne, decide_eq_true c]
    show _ = Fl.rt (Ow.sh, D.tup [.str "unequal", iD (pn t one), iD (pn t o)]) _
    generalize iD (pn t one) = N1 at *
    generalize iD (pn t o) = N2 at *
    (push_cast [i0, i1, i2, l1, l2, ne]) <;> (try rfl)
theorem lu_l0 (one : Ex) (os : List Ex) (t : Bool) : ∀ (l : List Ex) (s2 : Option Ent), ∃ t2, loopS (putE 2) b0_law_unequal (l.map exD) (LU (one :: os) (some (.sh, ixB t)) s2) = match unP t one l with
    | none => .nx (LU (one :: os) (some (.sh, ixB t)) t2)
    | some p => .rt (.sh, uqD p) (LU (one :: os) (some (.sh, ixB t)) t2)
  | [], s2 => ⟨s2, rfl⟩
  | o :: l, s2 => by
    have e := lu_b0 one os t o
    by_cases c : pn t one = pn t o
    · rw [if_pos c] at e
      obtain ⟨t2, r⟩ := lu_l0 one os t l (some (.sh, exD o))
      refine ⟨t2, (loop_cons (E1 := LU (one :: os) (some (.sh, ixB t)) (some (.sh, exD o))) rfl e).trans ?_⟩
      rw [r]
      have : unP t one (o :: l) = unP t one l := by unfold unP; rw [List.find?_cons_of_neg (by simp [c])]
      rw [this]
    · rw [if_neg c] at e
      refine ⟨some (.sh, exD o), ?_⟩
      have : unP t one (o :: l) = some (pn t one, pn t o) := by unfold unP; rw [List.find?_cons_of_pos (by simp [c])]; rfl
      rw [this]
      show (match putE 2 (exD o) (LU (one :: os) (some (.sh, ixB t)) s2) with
        | none => Fl.stk
        | some E1 => match b0_law_unequal E1 with
          | .nx E2 => loopS (putE 2) b0_law_unequal (l.map exD) E2
          | .ct E2 => loopS (putE 2) b0_law_unequal (l.map exD) E2
          | .bk E2 => .nx E2
          | .rt p E2 => .rt p E2
          | .er x E2 => .er x E2
          | .stk => .stk) = _
      have pe : putE 2 (exD o) (LU (one :: os) (some (.sh, ixB t)) s2) = some (LU (one :: os) (some (.sh, ixB t)) (some (.sh, exD o))) := rfl
      rw [pe]
      simp only [e]
theorem lu_b1 (one : Ex) (os : List Ex) (t : Bool) (s2 : Option Ent) : ∃ t2, b1_law_unequal (LU (one :: os) (some (.sh, ixB t)) s2) = match unP t one os with
    | none => .nx (LU (one :: os) (some (.sh, ixB t)) t2)
    | some p => .rt (.sh, uqD p) (LU (one :: os) (some (.sh, ixB t)) t2) := by
  obtain ⟨t2, r⟩ := lu_l0 one os t os s2
  refine ⟨t2, ?_⟩
  rw [← r]
  unfold b1_law_unequal l0_law_unequal forS
  have sl : sliceD (.lst ((one :: os).map exD)) (some 1) none = some (.lst (os.map exD)) := by
    rw [slL]
    exact congrArg (fun z => some (D.lst z)) (cut_from ((one :: os).map exD) 1)
  have q : seqI (slM (rd 0) (ixp (Dl.ret (.int 1))) (Dl.ret none)) (LU (one :: os) (some (.sh, ixB t)) s2) = .ok (os.map exD) (LU (one :: os) (some (.sh, ixB t)) s2) := by
    unfold LU
    generalize D.lst ((one :: os).map exD) = OO at *
    generalize os.map exD = OS at *
    (push_cast [slM_ap, ixp_ap, asI_int, sl]) <;> (try rfl)
  rw [andS_at q]
theorem law_unequal_ev (one : Ex) (os : List Ex) : ∃ O, m_law_unequal [(.sh, .lst ((one :: os).map exD))] = .ok (.sh, match uneq one os with
    | none => .non
    | some p => uqD p) O := by
  obtain ⟨t2, r0⟩ := lu_b1 one os false none
  have q0 : seqI (tupM (conM (Dl.ret (.int 0)) (conM (Dl.ret (.int 1)) (Dl.ret [])))) (LU (one :: os) none none) = .ok [.int 0, .int 1] (LU (one :: os) none none) := rfl
  show ∃ O, runG 3 g_law_unequal [(.sh, .lst ((one :: os).map exD))] = _
  cases u0 : unP false one os with
  | some p =>
    rw [u0] at r0
    refine ⟨LU (one :: os) (some (.sh, .int 0)) t2, ?_⟩
    have : uneq one os = some p := by unfold uneq; rw [u0]
    rw [this]
    have m : g_law_unequal (LU (one :: os) none none) = .rt (.sh, uqD p) (LU (one :: os) (some (.sh, .int 0)) t2) := by
      rw [g_law_unequal]
      have l : l1_law_unequal (LU (one :: os) none none) = .rt (.sh, uqD p) (LU (one :: os) (some (.sh, .int 0)) t2) := by
        unfold l1_law_unequal forS
        rw [andS_at q0]
        have r0 : b1_law_unequal (LU (one :: os) (some (.sh, .int 0)) none) = .rt (.sh, uqD p) (LU (one :: os) (some (.sh, .int 0)) t2) := r0
        show (match b1_law_unequal (LU (one :: os) (some (.sh, .int 0)) none) with
            | .nx E2 => loopS (putE 1) b1_law_unequal [.int 1] E2
            | .ct E2 => loopS (putE 1) b1_law_unequal [.int 1] E2
            | .bk E2 => .nx E2
            | .rt p E2 => .rt p E2
            | .er x E2 => .er x E2
            | .stk => .stk) = _
        rw [r0]
      rw [then_ap, l, thF_rt]
    rw [runG_ap]
    exact congrArg rnF m
  | none =>
    rw [u0] at r0
    obtain ⟨t4, r1⟩ := lu_b1 one os true t2
    have eu : uneq one os = unP true one os := by unfold uneq; rw [u0]
    rw [eu]
    refine ⟨LU (one :: os) (some (.sh, .int 1)) t4, ?_⟩
    have r1 : b1_law_unequal (LU (one :: os) (some (.sh, .int 1)) t2) = match unP true one os with
      | none => .nx (LU (one :: os) (some (.sh, .int 1)) t4)
      | some p => .rt (.sh, uqD p) (LU (one :: os) (some (.sh, .int 1)) t4) := r1
    have l : l1_law_unequal (LU (one :: os) none none) = match unP true one os with
      | none => .nx (LU (one :: os) (some (.sh, .int 1)) t4)
      | some p => .rt (.sh, uqD p) (LU (one :: os) (some (.sh, .int 1)) t4) := by
      unfold l1_law_unequal forS
      rw [andS_at q0]
      refine (loop_cons (E1 := LU (one :: os) (some (.sh, .int 0)) none) rfl r0).trans ?_
      cases u1 : unP true one os with
      | none =>
        rw [u1] at r1
        exact (loop_cons (E1 := LU (one :: os) (some (.sh, .int 1)) t2) rfl r1).trans rfl
      | some p =>
        rw [u1] at r1
        show (match b1_law_unequal (LU (one :: os) (some (.sh, .int 1)) t2) with
          | .nx E2 => loopS (putE 1) b1_law_unequal [] E2
          | .ct E2 => loopS (putE 1) b1_law_unequal [] E2
          | .bk E2 => .nx E2
          | .rt p E2 => .rt p E2
          | .er x E2 => .er x E2
          | .stk => .stk) = _
        rw [r1]
    have m : g_law_unequal (LU (one :: os) none none) = .rt (.sh, match unP true one os with | none => .non | some p => uqD p) (LU (one :: os) (some (.sh, .int 1)) t4) := by
      rw [g_law_unequal]
      cases u1 : unP true one os with
      | none =>
        rw [u1] at l
        exact (then_nx l).trans rfl
      | some p =>
        rw [u1] at l
        rw [then_ap, l, thF_rt]
    rw [runG_ap]
    exact congrArg rnF m
theorem ix_kd {p : Ex} {i : Nat} (h : i < p.1.length) : ixD (kdD p.1) (iD i) = some (.str (kiS (kap p.1 i))) := by
  show ixD (.tup (p.1.map fun k => D.str (kiS k))) (.int (i : Nat)) = _
  rw [ixT, atI_nn (by omega), Int.toNat_natCast, List.getElem?_map]
  unfold kap
  rw [List.getElem?_eq_getElem h]
  rfl
theorem ix_tm {p : Ex} {i : Nat} (h : i < p.2.length) : ixD (tmD p.2) (iD i) = some (.int (tap p.2 i)) := by
  show ixD (.tup (p.2.map D.int)) (.int (i : Nat)) = _
  rw [ixT, atI_nn (by omega), Int.toNat_natCast, List.getElem?_map]
  unfold tap
  rw [List.getElem?_eq_getElem h]
  rfl
def LM (a b c : Ex) (s1 s2 s3 s4 : Option Ent) : Nv := [some (.sh, .lst [exD a, exD b, exD c]), s1, s2, s3, s4]
theorem lm_c0 {a b c : Ex} {i : Nat} (h1 : i < a.1.length) (h2 : i < b.1.length) (h3 : i < c.1.length) (s1 s4 : Option Ent) : c0_law_middle (LM a b c s1 (some (.sh, iD i)) none s4) = .ok (.l .sh, .lst [.str (kiS (kap a.1 i)), .str (kiS (kap b.1 i)), .str (kiS (kap c.1 i))]) (LM a b c s1 (some (.sh, iD i)) none s4) := by
  have sz : 2000 ≤ sizeLine := by decide
  unfold c0_law_middle
  refine compT (l := [a, b, c]) (emb := exD) (g := fun p => .str (kiS (kap p.1 i))) (EA := LM a b c s1 (some (.sh, iD i)) none s4) (E1 := fun p => LM a b c s1 (some (.sh, iD i)) (some (.sh, exD p)) s4) rfl rfl (fun p m => ⟨rfl, ?_, rfl⟩) (by show 3 ≤ sizeLine; omega)
  have hp : i < p.1.length := by
    rcases List.mem_cons.mp m with rfl | m
    · exact h1
    rcases List.mem_cons.mp m with rfl | m
    · exact h2
    rcases List.mem_cons.mp m with rfl | m
    · exact h3
    cases m
  have i1 : ixD (exD p) (.int 0) = some (kdD p.1) := rfl
  have i2 := ix_kd hp
  unfold LM
  generalize exD a = EA at *
  generalize exD b = EB at *
  generalize exD c = EC at *
  generalize exD p = EP at *
  generalize kdD p.1 = KP at *
  generalize iD i = II at *
  generalize kiS (kap p.1 i) = KS at *
  (push_cast [i1, i2]) <;> (try rfl)
theorem lm_c2 {a b c : Ex} {i : Nat} (h1 : i < a.2.length) (h2 : i < b.2.length) (h3 : i < c.2.length) (s1 s2 : Option Ent) : c2_law_middle (LM a b c s1 s2 none (some (.sh, iD i))) = .ok (.l .sh, .lst [.int (tap a.2 i), .int (tap b.2 i), .int (tap c.2 i)]) (LM a b c s1 s2 none (some (.sh, iD i))) := by
  have sz : 2000 ≤ sizeLine := by decide
  unfold c2_law_middle
  refine compT (l := [a, b, c]) (emb := exD) (g := fun p => .int (tap p.2 i)) (EA := LM a b c s1 s2 none (some (.sh, iD i))) (E1 := fun p => LM a b c s1 s2 (some (.sh, exD p)) (some (.sh, iD i))) rfl rfl (fun p m => ⟨rfl, ?_, rfl⟩) (by show 3 ≤ sizeLine; omega)
  have hp : i < p.2.length := by
    rcases List.mem_cons.mp m with rfl | m
    · exact h1
    rcases List.mem_cons.mp m with rfl | m
    · exact h2
    rcases List.mem_cons.mp m with rfl | m
    · exact h3
    cases m
  have i1 : ixD (exD p) (.int 1) = some (tmD p.2) := rfl
  have i2 := ix_tm hp
  unfold LM
  generalize exD a = EA at *
  generalize exD b = EB at *
  generalize exD c = EC at *
  generalize exD p = EP at *
  generalize tmD p.2 = KP at *
  generalize iD i = II at *
  generalize tap p.2 i = KS at *
  (push_cast [i1, i2]) <;> (try rfl)
theorem rng_ln (t : Bool) {p : Ex} {os : List D} {E : Nv} (h0 : E[0]? = some (some (.sh, .lst (exD p :: os)))) (hn : pn t p ≤ 1000) : rg1 (conM (cbM (one lenD) (conM (opM ixD (opM ixD (rd 0) (Dl.ret (.int 0))) (Dl.ret (ixB t))) (Dl.ret []))) (Dl.ret [])) E = .ok ((List.range (pn t p)).map iD) E := by
  have i0 : ixD (.lst (exD p :: os)) (.int 0) = some (exD p) := by rw [ixL, atI_nn (by omega)]; rfl
  have i1 := ix_ex t p
  have l1 := ln_ex t p
  have rg := rng1_nat (pn t p) (by omega)
  have rg : rng1Of [iD (pn t p)] = some ((List.range (pn t p)).map iD) := rg
  generalize D.lst (exD p :: os) = OS at *
  generalize exD p = EP at *
  generalize ptD t p = PT at *
  generalize (List.range (pn t p)).map iD = RR at *
  generalize iD (pn t p) = NN at *
  generalize ixB t = IX at *
  (push_cast [h0, i0, i1, l1, rg]) <;> (try rfl)
theorem lm_c1 {a b c : Ex} (h1 : b.1.length = a.1.length) (h2 : c.1.length = a.1.length) (hn : a.1.length ≤ 1000) (s1 s4 : Option Ent) : c1_law_middle (LM a b c s1 none none s4) = .ok (.l .sh, .lst ((List.range a.1.length).map fun i => .str (kiS (mj (kap a.1 i) (kap b.1 i) (kap c.1 i))))) (LM a b c s1 none none s4) := by
  have sz : 2000 ≤ sizeLine := by decide
  unfold c1_law_middle
  refine compT (l := List.range a.1.length) (emb := iD) (EA := LM a b c s1 none none s4) (E1 := fun i => LM a b c s1 (some (.sh, iD i)) none s4) (rng_ln false (os := [exD b, exD c]) rfl hn) rfl (fun i m => ⟨rfl, ?_, rfl⟩) (by rw [List.length_range]; omega)
  have hi := List.mem_range.mp m
  have c0 := lm_c0 (a := a) (b := b) (c := c) hi (by omega) (by omega) s1 s4
  obtain ⟨n, e1, e2⟩ := cnt3 (kap a.1 i) (kap b.1 i) (kap c.1 i)
  have ml : mlM cntD (shM c0_law_middle) (conM (Dl.ret (.str "early")) (Dl.ret [])) (LM a b c s1 (some (.sh, iD i)) none s4) = .ok (.int n) (LM a b c s1 (some (.sh, iD i)) none s4) := by
    unfold mlM
    rw [bnd_ap, shM_ap, c0, bdR_ok, ret_ap, bdR_ok]
    simp only [show ∀ xs : List D, isL (.lst xs) = true from fun _ => rfl, if_true]
    rw [bnd_ap, conM_ap, ret_ap, bdR_ok, bnd_ap, ret_ap, bdR_ok, ret_ap, bdR_ok, e1]
    rfl
  clear c0 e1
  cases q : mj (kap a.1 i) (kap b.1 i) (kap c.1 i) with
  | true =>
    rw [q] at e2
    show _ = Rs.ok (D.str "early") _
    (push_cast [ml, e2]) <;> (try rfl)
  | false =>
    rw [q] at e2
    show _ = Rs.ok (D.str "late") _
    (push_cast [ml, e2]) <;> (try rfl)
theorem lm_c3 {a b c : Ex} (h1 : b.2.length = a.2.length) (h2 : c.2.length = a.2.length) (hn : a.2.length ≤ 1000) (s1 s2 : Option Ent) : c3_law_middle (LM a b c s1 s2 none none) = .ok (.l .sh, .lst ((List.range a.2.length).map fun i => .int (md (tap a.2 i) (tap b.2 i) (tap c.2 i)))) (LM a b c s1 s2 none none) := by
  have sz : 2000 ≤ sizeLine := by decide
  unfold c3_law_middle
  refine compT (l := List.range a.2.length) (emb := iD) (EA := LM a b c s1 s2 none none) (E1 := fun i => LM a b c s1 s2 none (some (.sh, iD i))) (rng_ln true (os := [exD b, exD c]) rfl hn) rfl (fun i m => ⟨rfl, ?_, rfl⟩) (by rw [List.length_range]; omega)
  have hi := List.mem_range.mp m
  have c2 := lm_c2 (a := a) (b := b) (c := c) hi (by omega) (by omega) s1 s2
  have e1 : sortedD [.lst [.int (tap a.2 i), .int (tap b.2 i), .int (tap c.2 i)]] = some (.lst ((srtI [tap a.2 i, tap b.2 i, tap c.2 i]).map .int)) := sorted_ints [tap a.2 i, tap b.2 i, tap c.2 i]
  have e2 := srt3_at (tap a.2 i) (tap b.2 i) (tap c.2 i)
  generalize D.lst ((srtI [tap a.2 i, tap b.2 i, tap c.2 i]).map .int) = L at *
  generalize D.lst [.int (tap a.2 i), .int (tap b.2 i), .int (tap c.2 i)] = TT at *
  generalize md (tap a.2 i) (tap b.2 i) (tap c.2 i) = KS at *
  (push_cast [c2, e1, e2]) <;> (try rfl)
theorem law_middle_ev {a b c : Ex} (u : uneq a [b, c] = none) (n1 : a.1.length ≤ 1000) (n2 : a.2.length ≤ 1000) : ∃ O, m_law_middle [(.sh, .lst [exD a, exD b, exD c])] = .ok (.sh, exD (midE a b c)) O := by
  have q1 := uneq_none u b (by simp)
  have q2 := uneq_none u c (by simp)
  have c1 := lm_c1 q1.1 q2.1 n1 none none
  have c3 := lm_c3 q1.2 q2.2 n2 (some (.sh, .lst ((List.range a.1.length).map fun i => .str (kiS (mj (kap a.1 i) (kap b.1 i) (kap c.1 i)))))) none
  have k1 := kd_map (n := a.1.length) fun i => mj (kap a.1 i) (kap b.1 i) (kap c.1 i)
  have k2 := tm_map (n := a.2.length) fun i => md (tap a.2 i) (tap b.2 i) (tap c.2 i)
  refine ⟨LM a b c (some (.sh, .lst ((List.range a.1.length).map fun i => .str (kiS (mj (kap a.1 i) (kap b.1 i) (kap c.1 i)))))) none none none, ?_⟩
  have m : g_law_middle (LM a b c none none none none) = .rt (.sh, exD (midE a b c)) (LM a b c (some (.sh, .lst ((List.range a.1.length).map fun i => .str (kiS (mj (kap a.1 i) (kap b.1 i) (kap c.1 i)))))) none none none) := by
    rw [g_law_middle, show exD (midE a b c) = .tup [kdD ((List.range a.1.length).map fun i => mj (kap a.1 i) (kap b.1 i) (kap c.1 i)), tmD ((List.range a.2.length).map fun i => md (tap a.2 i) (tap b.2 i) (tap c.2 i))] from rfl, ← k1, ← k2]
    clear k1 k2
    have t1 := tp_lst ((List.range a.1.length).map fun i => .str (kiS (mj (kap a.1 i) (kap b.1 i) (kap c.1 i))))
    have t2 := tp_lst ((List.range a.2.length).map fun i => .int (md (tap a.2 i) (tap b.2 i) (tap c.2 i)))
    generalize ((List.range a.1.length).map fun i => D.str (kiS (mj (kap a.1 i) (kap b.1 i) (kap c.1 i)))) = L1 at *
    generalize ((List.range a.2.length).map fun i => D.int (md (tap a.2 i) (tap b.2 i) (tap c.2 i))) = L2' at *
    unfold LM at c1 c3 ⊢
    generalize D.lst [exD a, exD b, exD c] = EE at *
    (push_cast [c1, frzS_ap, frR_so, t1, c3, t2]) <;> (try rfl)
  show runG 5 g_law_middle [(.sh, .lst [exD a, exD b, exD c])] = _
  rw [runG_ap]
  exact congrArg rnF m
def spD' : Bool → D
  | true => .int (-1)
  | false => .int 0
def jk (s x y : Bool) : Bool := if s then x || y else x && y
def jt (s : Bool) (x y : Int) : Int := if s then topI x [y] else botI x [y]
theorem ix_two (s : Bool) (x y : Int) : ixD (.lst ((srtI [x, y]).map .int)) (spD' s) = some (.int (jt s x y)) := by
  rw [srt2]
  cases s <;> rfl
theorem jk_in (s x y : Bool) : (if (if s then x || y else !x || !y) = true then kiS s else kiS (!s)) = kiS (jk s x y) := by
  cases s <;> cases x <;> cases y <;> rfl
def LE (a b : Ex) (s : Bool) (d3 : Ent) (s5 s6 s7 : Option Ent) : Nv := [some (.sh, .lst [exD a, exD b]), some (.sh, .str (kiS s)), some (.sh, spD' s), some d3, some (.sh, .str (kiS (!s))), s5, s6, s7, none]
theorem le_c0 {a b : Ex} {i : Nat} (h1 : i < a.1.length) (h2 : i < b.1.length) (s : Bool) (d3 : Ent) (s6 s7 : Option Ent) : c0_law_ends (LE a b s d3 (some (.sh, iD i)) s6 s7) = .ok (.l .sh, .lst [.str (kiS (kap a.1 i)), .str (kiS (kap b.1 i))]) (LE a b s d3 (some (.sh, iD i)) s6 s7) := by
  have sz : 2000 ≤ sizeLine := by decide
  unfold c0_law_ends
  refine compT (l := [a, b]) (emb := exD) (g := fun p => .str (kiS (kap p.1 i))) (EA := LE a b s d3 (some (.sh, iD i)) s6 s7) (E1 := fun p => [some (.sh, .lst [exD a, exD b]), some (.sh, .str (kiS s)), some (.sh, spD' s), some d3, some (.sh, .str (kiS (!s))), some (.sh, iD i), s6, s7, some (.sh, exD p)]) rfl rfl (fun p m => ⟨rfl, ?_, rfl⟩) (by show 2 ≤ sizeLine; omega)
  have hp : i < p.1.length := by
    rcases List.mem_cons.mp m with rfl | m
    · exact h1
    rcases List.mem_cons.mp m with rfl | m
    · exact h2
    cases m
  have i1 : ixD (exD p) (.int 0) = some (kdD p.1) := rfl
  have i2 := ix_kd hp
  generalize exD a = EA at *
  generalize exD b = EB at *
  generalize exD p = EP at *
  generalize kdD p.1 = KP at *
  generalize iD i = II at *
  generalize kiS (kap p.1 i) = KS at *
  generalize kiS s = K1 at *
  generalize kiS (!s) = K2 at *
  generalize spD' s = SP at *
  (push_cast [i1, i2]) <;> (try rfl)
theorem le_c1 {a b : Ex} {i : Nat} (h1 : i < a.2.length) (h2 : i < b.2.length) (s : Bool) (d3 : Ent) (s5 s6 : Option Ent) : c1_law_ends (LE a b s d3 s5 s6 (some (.sh, iD i))) = .ok (.l .sh, .lst [.int (tap a.2 i), .int (tap b.2 i)]) (LE a b s d3 s5 s6 (some (.sh, iD i))) := by
  have sz : 2000 ≤ sizeLine := by decide
  unfold c1_law_ends
  refine compT (l := [a, b]) (emb := exD) (g := fun p => .int (tap p.2 i)) (EA := LE a b s d3 s5 s6 (some (.sh, iD i))) (E1 := fun p => [some (.sh, .lst [exD a, exD b]), some (.sh, .str (kiS s)), some (.sh, spD' s), some d3, some (.sh, .str (kiS (!s))), s5, s6, some (.sh, iD i), some (.sh, exD p)]) rfl rfl (fun p m => ⟨rfl, ?_, rfl⟩) (by show 2 ≤ sizeLine; omega)
  have hp : i < p.2.length := by
    rcases List.mem_cons.mp m with rfl | m
    · exact h1
    rcases List.mem_cons.mp m with rfl | m
    · exact h2
    cases m
  have i1 : ixD (exD p) (.int 1) = some (tmD p.2) := rfl
  have i2 := ix_tm hp
  generalize exD a = EA at *
  generalize exD b = EB at *
  generalize exD p = EP at *
  generalize tmD p.2 = KP at *
  generalize iD i = II at *
  generalize tap p.2 i = KS at *
  generalize kiS s = K1 at *
  generalize kiS (!s) = K2 at *
  generalize spD' s = SP at *
  (push_cast [i1, i2]) <;> (try rfl)
theorem le_l0 {a b : Ex} (h : b.1.length = a.1.length) (s : Bool) (s6 s7 : Option Ent) : ∀ (cs : List Nat) (L : List D) (s5 : Option Ent), (∀ i ∈ cs, i < a.1.length) → L.length + cs.length ≤ 1000 → ∃ t5, loopS (putE 5) b0_law_ends (cs.map iD) (LE a b s (.l .sh, .lst L) s5 s6 s7) = .nx (LE a b s (.l .sh, .lst (L ++ cs.map fun i => .str (kiS (jk s (kap a.1 i) (kap b.1 i))))) t5 s6 s7)
  | [], L, s5, _, _ => ⟨s5, by rw [List.map_nil, List.map_nil, List.append_nil]; rfl⟩
  | i :: cs, L, s5, o, z => by
    have sz : 2000 ≤ sizeLine := by decide
    rw [List.length_cons] at z
    have hi := o i List.mem_cons_self
    have c0 := le_c0 (a := a) (b := b) hi (by omega) s (.l .sh, .lst L) s6 s7
    have iq := in2 s (kap a.1 i) (kap b.1 i)
    have jq := jk_in s (kap a.1 i) (kap b.1 i)
    have ap : ∀ y : D, appG L [y] = some (.non, L ++ [y]) := fun y => Lb.app_ok _ _ (by omega)
    have mc : ∀ (y : D) E, muC (some (.non, L ++ [y])) 3 E = .ok .non (putL 3 (L ++ [y]) E) := fun y E => muC_app (by omega)
    have st : b0_law_ends (LE a b s (.l .sh, .lst L) (some (.sh, iD i)) s6 s7) = .nx (LE a b s (.l .sh, .lst (L ++ [.str (kiS (jk s (kap a.1 i) (kap b.1 i)))])) (some (.sh, iD i)) s6 s7) := by
      rw [← jq]
      unfold b0_law_ends
      generalize D.lst [.str (kiS (kap a.1 i)), .str (kiS (kap b.1 i))] = KK at *
      unfold LE at c0 ⊢
      generalize D.lst [exD a, exD b] = EE at *
      generalize iD i = II at *
      generalize spD' s = SP at *
      generalize (if s then kap a.1 i || kap b.1 i else !kap a.1 i || !kap b.1 i) = q at *
      generalize kiS s = K1 at *
      generalize kiS (!s) = K2 at *
      cases q with
      | true =>
        rw [if_pos rfl]
        (push_cast [c0, iq, mutM_ap, muA_so, muB_so, ap, mc]) <;> (try rfl)
      | false =>
        rw [if_neg Bool.false_ne_true]
        (push_cast [c0, iq, mutM_ap, muA_so, muB_so, ap, mc]) <;> (try rfl)
    obtain ⟨t5, r⟩ := le_l0 h s s6 s7 cs (L ++ [.str (kiS (jk s (kap a.1 i) (kap b.1 i)))]) (some (.sh, iD i)) (fun x m => o x (List.mem_cons_of_mem _ m)) (by rw [List.length_append, List.length_singleton]; omega)
    rw [List.append_assoc] at r
    exact ⟨t5, (loop_cons (E1 := LE a b s (.l .sh, .lst L) (some (.sh, iD i)) s6 s7) rfl st).trans r⟩
theorem le_l1 {a b : Ex} (h : b.2.length = a.2.length) (s : Bool) (d3 : Ent) (s5 : Option Ent) : ∀ (cs : List Nat) (L : List D) (s7 : Option Ent), (∀ i ∈ cs, i < a.2.length) → L.length + cs.length ≤ 1000 → ∃ t7, loopS (putE 7) b1_law_ends (cs.map iD) (LE a b s d3 s5 (some (.l .sh, .lst L)) s7) = .nx (LE a b s d3 s5 (some (.l .sh, .lst (L ++ cs.map fun i => .int (jt s (tap a.2 i) (tap b.2 i))))) t7)
  | [], L, s7, _, _ => ⟨s7, by rw [List.map_nil, List.map_nil, List.append_nil]; rfl⟩
  | i :: cs, L, s7, o, z => by
    have sz : 2000 ≤ sizeLine := by decide
    rw [List.length_cons] at z
    have hi := o i List.mem_cons_self
    have c1 := le_c1 (a := a) (b := b) hi (by omega) s d3 s5 (some (.l .sh, .lst L))
    have e1 : sortedD [.lst [.int (tap a.2 i), .int (tap b.2 i)]] = some (.lst ((srtI [tap a.2 i, tap b.2 i]).map .int)) := sorted_ints [tap a.2 i, tap b.2 i]
    have e2 := ix_two s (tap a.2 i) (tap b.2 i)
    have ap : ∀ y : D, appG L [y] = some (.non, L ++ [y]) := fun y => Lb.app_ok _ _ (by omega)
    have mc : ∀ (y : D) E, muC (some (.non, L ++ [y])) 6 E = .ok .non (putL 6 (L ++ [y]) E) := fun y E => muC_app (by omega)
    have st : b1_law_ends (LE a b s d3 s5 (some (.l .sh, .lst L)) (some (.sh, iD i))) = .nx (LE a b s d3 s5 (some (.l .sh, .lst (L ++ [.int (jt s (tap a.2 i) (tap b.2 i))]))) (some (.sh, iD i))) := by
      unfold b1_law_ends
      generalize D.lst [.int (tap a.2 i), .int (tap b.2 i)] = KK at *
      generalize D.lst ((srtI [tap a.2 i, tap b.2 i]).map .int) = SS at *
      unfold LE at c1 ⊢
      generalize D.lst [exD a, exD b] = EE at *
      generalize iD i = II at *
      generalize spD' s = SP at *
      generalize kiS s = K1 at *
      generalize kiS (!s) = K2 at *
      generalize jt s (tap a.2 i) (tap b.2 i) = JJ at *
      (push_cast [c1, e1, e2, mutM_ap, muA_so, muB_so, ap, mc]) <;> (try rfl)
    obtain ⟨t7, r⟩ := le_l1 h s d3 s5 cs (L ++ [.int (jt s (tap a.2 i) (tap b.2 i))]) (some (.sh, iD i)) (fun x m => o x (List.mem_cons_of_mem _ m)) (by rw [List.length_append, List.length_singleton]; omega)
    rw [List.append_assoc] at r
    exact ⟨t7, (loop_cons (E1 := LE a b s d3 s5 (some (.l .sh, .lst L)) (some (.sh, iD i))) rfl st).trans r⟩
theorem law_ends_ev {a b : Ex} (s : Bool) (u : uneq a [b] = none) (n1 : a.1.length ≤ 1000) (n2 : a.2.length ≤ 1000) : ∃ O, m_law_ends [(.sh, .lst [exD a, exD b]), (.sh, .str (kiS s)), (.sh, spD' s)] = .ok (.sh, exD (jmE s a b)) O := by
  have q1 := uneq_none u b (by simp)
  obtain ⟨t5, l0⟩ := le_l0 q1.1 s none none (List.range a.1.length) [] none (fun i m => List.mem_range.mp m) (by rw [List.length_range, List.length_nil]; omega)
  rw [List.nil_append] at l0
  obtain ⟨t7, l1⟩ := le_l1 q1.2 s (.sh, .lst ((List.range a.1.length).map fun i => .str (kiS (jk s (kap a.1 i) (kap b.1 i))))) t5 (List.range a.2.length) [] none (fun i m => List.mem_range.mp m) (by rw [List.length_range, List.length_nil]; omega)
  rw [List.nil_append] at l1
  have k1 := kd_map (n := a.1.length) fun i => jk s (kap a.1 i) (kap b.1 i)
  have k2 := tm_map (n := a.2.length) fun i => jt s (tap a.2 i) (tap b.2 i)
  have g0 : rg1 (conM (cbM (one lenD) (conM (opM ixD (opM ixD (rd 0) (Dl.ret (.int 0))) (Dl.ret (ixB false))) (Dl.ret []))) (Dl.ret [])) (LE a b s (.l .sh, .lst []) none none none) = .ok ((List.range a.1.length).map iD) (LE a b s (.l .sh, .lst []) none none none) := rng_ln false (os := [exD b]) rfl n1
  have g1 : rg1 (conM (cbM (one lenD) (conM (opM ixD (opM ixD (rd 0) (Dl.ret (.int 0))) (Dl.ret (ixB true))) (Dl.ret []))) (Dl.ret [])) (LE a b s (.sh, .lst ((List.range a.1.length).map fun i => .str (kiS (jk s (kap a.1 i) (kap b.1 i))))) t5 (some (.l .sh, .lst [])) none) = .ok ((List.range a.2.length).map iD) (LE a b s (.sh, .lst ((List.range a.1.length).map fun i => .str (kiS (jk s (kap a.1 i) (kap b.1 i))))) t5 (some (.l .sh, .lst [])) none) := rng_ln true (os := [exD b]) rfl n2
  refine ⟨LE a b s (.sh, .lst ((List.range a.1.length).map fun i => .str (kiS (jk s (kap a.1 i) (kap b.1 i))))) t5 (some (.sh, .lst ((List.range a.2.length).map fun i => .int (jt s (tap a.2 i) (tap b.2 i))))) t7, ?_⟩
  have m : g_law_ends [some (.sh, .lst [exD a, exD b]), some (.sh, .str (kiS s)), some (.sh, spD' s), none, none, none, none, none, none] = .rt (.sh, exD (jmE s a b)) (LE a b s (.sh, .lst ((List.range a.1.length).map fun i => .str (kiS (jk s (kap a.1 i) (kap b.1 i))))) t5 (some (.sh, .lst ((List.range a.2.length).map fun i => .int (jt s (tap a.2 i) (tap b.2 i))))) t7) := by
    rw [g_law_ends, show exD (jmE s a b) = .tup [kdD ((List.range a.1.length).map fun i => jk s (kap a.1 i) (kap b.1 i)), tmD ((List.range a.2.length).map fun i => jt s (tap a.2 i) (tap b.2 i))] from rfl, ← k1, ← k2]
    refine (then_nx (E' := LE a b s (.l .sh, .lst []) none none none) (by
      clear l0 l1 g0 g1 k1 k2
      unfold LE
      generalize D.lst [exD a, exD b] = EE at *
      cases s with
      | true =>
        have eq : eqD (.str (kiS true)) (.str "early") = some (.bl true) := eqSt _
        show _ = Fl.nx [some (.sh, EE), some (.sh, .str (kiS true)), some (.sh, spD' true), some (.l .sh, .lst []), some (.sh, .str "late"), none, none, none, none]
        generalize spD' true = SP at *
        generalize kiS true = K1 at *
        (push_cast [asgO_ap, conO_ap, coR_ok, coR2_ok, asO2, eq]) <;> (try rfl)
      | false =>
        have eq : eqD (.str (kiS false)) (.str "early") = some (.bl false) := by rw [eqS, decide_eq_false (by decide)]
        show _ = Fl.nx [some (.sh, EE), some (.sh, .str (kiS false)), some (.sh, spD' false), some (.l .sh, .lst []), some (.sh, .str "early"), none, none, none, none]
        generalize spD' false = SP at *
        generalize kiS false = K1 at *
        (push_cast [asgO_ap, conO_ap, coR_ok, coR2_ok, asO2, eq]) <;> (try rfl))).trans ?_
    refine (then_nx (E' := LE a b s (.l .sh, .lst ((List.range a.1.length).map fun i => .str (kiS (jk s (kap a.1 i) (kap b.1 i))))) t5 none none) (by
      unfold l0_law_ends forS
      have g0 : rg1 (conM (cbM (one lenD) (conM (opM ixD (opM ixD (rd 0) (Dl.ret (.int 0))) (Dl.ret (.int 0))) (Dl.ret []))) (Dl.ret [])) (LE a b s (.l .sh, .lst []) none none none) = .ok ((List.range a.1.length).map iD) (LE a b s (.l .sh, .lst []) none none none) := g0
      rw [andS_at g0]
      exact l0)).trans ?_
    have fz : ∀ g : G, frzS 3 g (LE a b s (.l .sh, .lst ((List.range a.1.length).map fun i => .str (kiS (jk s (kap a.1 i) (kap b.1 i))))) t5 none none) = g (LE a b s (.sh, .lst ((List.range a.1.length).map fun i => .str (kiS (jk s (kap a.1 i) (kap b.1 i))))) t5 none none) := fun _ => rfl
    rw [fz]
    refine (then_nx (E' := LE a b s (.sh, .lst ((List.range a.1.length).map fun i => .str (kiS (jk s (kap a.1 i) (kap b.1 i))))) t5 (some (.l .sh, .lst [])) none) rfl).trans ?_
    refine (then_nx (E' := LE a b s (.sh, .lst ((List.range a.1.length).map fun i => .str (kiS (jk s (kap a.1 i) (kap b.1 i))))) t5 (some (.l .sh, .lst ((List.range a.2.length).map fun i => .int (jt s (tap a.2 i) (tap b.2 i))))) t7) (by
      unfold l1_law_ends forS
      have g1 : rg1 (conM (cbM (one lenD) (conM (opM ixD (opM ixD (rd 0) (Dl.ret (.int 0))) (Dl.ret (.int 1))) (Dl.ret []))) (Dl.ret [])) (LE a b s (.sh, .lst ((List.range a.1.length).map fun i => .str (kiS (jk s (kap a.1 i) (kap b.1 i))))) t5 (some (.l .sh, .lst [])) none) = .ok ((List.range a.2.length).map iD) (LE a b s (.sh, .lst ((List.range a.1.length).map fun i => .str (kiS (jk s (kap a.1 i) (kap b.1 i))))) t5 (some (.l .sh, .lst [])) none) := g1
      rw [andS_at g1]
      exact l1)).trans ?_
    clear l0 l1 g0 g1 k1 k2 fz
    have t1 := tp_lst ((List.range a.1.length).map fun i => .str (kiS (jk s (kap a.1 i) (kap b.1 i))))
    have t2 := tp_lst ((List.range a.2.length).map fun i => .int (jt s (tap a.2 i) (tap b.2 i)))
    unfold LE
    generalize ((List.range a.1.length).map fun i => D.str (kiS (jk s (kap a.1 i) (kap b.1 i)))) = L1 at *
    generalize ((List.range a.2.length).map fun i => D.int (jt s (tap a.2 i) (tap b.2 i))) = L2' at *
    generalize D.lst [exD a, exD b] = EE at *
    generalize kiS s = K1 at *
    generalize kiS (!s) = K2 at *
    generalize spD' s = SP at *
    (push_cast [frzS_ap, frR_so, t1, t2]) <;> (try rfl)
  show runG 9 g_law_ends [(.sh, .lst [exD a, exD b]), (.sh, .str (kiS s)), (.sh, spD' s)] = _
  rw [runG_ap]
  exact congrArg rnF m
theorem raised_ok {fe : M Ent} {E E1 : Nv} {v : D} (h : fe (bl E) = .ok (.sh, v) E1) : lamO 2 gx_law_raised fe [] E = .ok (.sh, .tup [.str "told", v]) E := by
  unfold lamO gx_law_raised
  rw [h]
  rfl
theorem raised_er {fe : M Ent} {E E1 : Nv} {x y : D} (h : fe (bl E) = .er (unX x y) E1) : lamO 2 gx_law_raised fe [] E = .ok (.sh, .tup [.str "unequal", x, y]) E := by
  unfold lamO gx_law_raised
  rw [h]
  rfl
def Bi (x : Int) : Prop := -1000000000000000000000000000000000 ≤ x ∧ x ≤ 1000000000000000000000000000000000
structure Eb (p : Ex) : Prop where
  k : p.1.length ≤ 12
  t : p.2.length ≤ 12
  b : ∀ x ∈ p.2, Bi x
theorem th_ex {p : Ex} (h : Eb p) : Th 2 200 (exD p) := by
  have t1 : Th 1 (p.1.length * 13) (kdD p.1) := by
    unfold kdD
    exact (th_tup (thl_map (l := p.1) fun k _ => th_kind k)).up (by decide) (by omega)
  have t2 : Th 1 (p.2.length * 1) (tmD p.2) := by
    unfold tmD
    exact (th_tup (thl_map (l := p.2) fun x m => th_i (h.b x m).1 (h.b x m).2)).up (by decide) (by omega)
  have h1 := h.k
  have h2 := h.t
  exact (th_tup (thl_cons t1 (thl_cons t2 thl_nil))).up (by decide) (by omega)
theorem tap_bi {p : Ex} (h : Eb p) (i : Nat) : Bi (tap p.2 i) := by
  unfold tap
  cases q : p.2[i]? with
  | none => exact ⟨by show _ ≤ (0 : Int); decide, by show (0 : Int) ≤ _; decide⟩
  | some x => exact h.b x (List.mem_of_getElem? q)
theorem mid_eb {a b c : Ex} (ha : Eb a) (hb : Eb b) (hc : Eb c) : Eb (midE a b c) := by
  refine ⟨?_, ?_, fun x m => ?_⟩
  · show ((List.range a.1.length).map _).length ≤ 12
    rw [List.length_map, List.length_range]
    exact ha.k
  · show ((List.range a.2.length).map _).length ≤ 12
    rw [List.length_map, List.length_range]
    exact ha.t
  · obtain ⟨i, _, rfl⟩ := List.mem_map.mp m
    unfold md
    cases q : (srtI [tap a.2 i, tap b.2 i, tap c.2 i])[1]? with
    | none => exact ⟨by show _ ≤ (0 : Int); decide, by show (0 : Int) ≤ _; decide⟩
    | some y =>
      have my := (srtI_perm _).mem_iff.mp (List.mem_of_getElem? q)
      show Bi y
      rcases List.mem_cons.mp my with rfl | my
      · exact tap_bi ha i
      rcases List.mem_cons.mp my with rfl | my
      · exact tap_bi hb i
      rcases List.mem_cons.mp my with rfl | my
      · exact tap_bi hc i
      cases my
theorem jm_eb (s : Bool) {a b : Ex} (ha : Eb a) (hb : Eb b) : Eb (jmE s a b) := by
  refine ⟨?_, ?_, fun x m => ?_⟩
  · show ((List.range a.1.length).map _).length ≤ 12
    rw [List.length_map, List.length_range]
    exact ha.k
  · show ((List.range a.2.length).map _).length ≤ 12
    rw [List.length_map, List.length_range]
    exact ha.t
  · obtain ⟨i, _, rfl⟩ := List.mem_map.mp m
    have h1 := tap_bi ha i
    have h2 := tap_bi hb i
    cases s with
    | true =>
      show Bi (if tap b.2 i > tap a.2 i then tap b.2 i else tap a.2 i)
      split
      · exact h2
      · exact h1
    | false =>
      show Bi (if tap b.2 i < tap a.2 i then tap b.2 i else tap a.2 i)
      split
      · exact h2
      · exact h1
def tolD (v : D) : D := .tup [.str "told", v]
def outM (a b c : Ex) : D := match uneq a [b, c] with
  | none => tolD (exD (midE a b c))
  | some p => uqD p
def outJ (s : Bool) (a b : Ex) : D := match uneq a [b] with
  | none => tolD (exD (jmE s a b))
  | some p => uqD p
theorem uneq_le {a : Ex} {os : List Ex} {p : Nat × Nat} (ha : Eb a) (ho : ∀ o ∈ os, Eb o) (h : uneq a os = some p) : p.1 ≤ 12 ∧ p.2 ≤ 12 := by
  have one : ∀ t, ∀ p, unP t a os = some p → p.1 ≤ 12 ∧ p.2 ≤ 12 := fun t p e => by
    unfold unP at e
    obtain ⟨o, m, rfl⟩ := Option.map_eq_some_iff.mp e
    have mo := ho o (List.mem_of_find?_eq_some m)
    cases t with
    | false => exact ⟨ha.k, mo.k⟩
    | true => exact ⟨ha.t, mo.t⟩
  unfold uneq at h
  cases q : unP false a os with
  | some r => rw [q] at h; cases h; exact one false _ q
  | none => rw [q] at h; exact one true _ h
theorem th_tol {p : Ex} (h : Eb p) : Th 3 300 (tolD (exD p)) := (th_tup (thl_cons (th_str (n := 12) (by decide +kernel) (by decide +kernel) (by decide +kernel)) (thl_cons (th_ex h) thl_nil))).up (by decide) (by decide)
theorem th_uq {p : Nat × Nat} (h : p.1 ≤ 12 ∧ p.2 ≤ 12) : Th 3 300 (uqD p) := (th_tup (thl_cons (th_str (n := 12) (by decide +kernel) (by decide +kernel) (by decide +kernel)) (thl_cons (th_n (i := p.1) (by omega)) (thl_cons (th_n (i := p.2) (by omega)) thl_nil)))).up (by decide) (by decide)
theorem th_outM {a b c : Ex} (ha : Eb a) (hb : Eb b) (hc : Eb c) : Th 3 300 (outM a b c) := by
  unfold outM
  cases q : uneq a [b, c] with
  | none => exact th_tol (mid_eb ha hb hc)
  | some p => exact th_uq (uneq_le ha (fun o m => by
      rcases List.mem_cons.mp m with rfl | m
      · exact hb
      rcases List.mem_cons.mp m with rfl | m
      · exact hc
      cases m) q)
theorem th_outJ (s : Bool) {a b : Ex} (ha : Eb a) (hb : Eb b) : Th 3 300 (outJ s a b) := by
  unfold outJ
  cases q : uneq a [b] with
  | none => exact th_tol (jm_eb s ha hb)
  | some p => exact th_uq (uneq_le ha (fun o m => by
      rcases List.mem_cons.mp m with rfl | m
      · exact hb
      cases m) q)
theorem alike_self {d : D} {k N : Nat} (h : Th k N d) (a : k ≤ 40) (c : N ≤ 2000) : ∃ O, m_law_alike [(.sh, d), (.sh, d)] = .ok (.sh, .bl true) O := by
  have e := eq_self h (by omega)
  have r := repr_ev h a c
  have q := eqSt (rpS d)
  refine ⟨[some (.sh, d), some (.sh, d)], ?_⟩
  generalize rpS d = s at *
  unfold m_law_alike g_law_alike
  (push_cast [e, r, q]) <;> (try rfl)
def LW (a b c : Ex) (s3 s4 s5 s6 s7 : Option Ent) : Nv := [some (.sh, exD a), some (.sh, exD b), some (.sh, exD c), s3, s4, s5, s6, s7]
theorem lam_m {a b c : Ex} (ha : Eb a) (s3 s5 s6 s7 : Option Ent) : lamO 2 gx_law_raised (calM m_median [none, none, none] [] (conM (rd 0) (conM (rd 1) (conM (rd 2) (Dl.ret []))))) [] (LW a b c s3 none s5 s6 s7) = .ok (.sh, outM a b c) (LW a b c s3 none s5 s6 s7) := by
  have h1 := ha.k
  have h2 := ha.t
  obtain ⟨O, e⟩ := median_ev a b c (by omega) (by omega)
  unfold outM
  cases q : uneq a [b, c] with
  | none =>
    rw [q] at e
    have e : m_median [(.sh, exD a), (.sh, exD b), (.sh, exD c)] = .ok (.sh, exD (midE a b c)) O := e
    refine raised_ok (E1 := bl (LW a b c s3 none s5 s6 s7)) ?_
    show (calM m_median [none, none, none] [] (conM (rd 0) (conM (rd 1) (conM (rd 2) (Dl.ret []))))) [some (.sh, exD a), some (.sh, exD b), some (.sh, exD c), bl1 s3, none, bl1 s5, bl1 s6, bl1 s7] = .ok (.sh, exD (midE a b c)) [some (.sh, exD a), some (.sh, exD b), some (.sh, exD c), bl1 s3, none, bl1 s5, bl1 s6, bl1 s7]
    generalize exD (midE a b c) = EM at *
    generalize exD a = EA at *
    generalize exD b = EB at *
    generalize exD c = EC at *
    (push_cast [e]) <;> (try rfl)
  | some p =>
    obtain ⟨x, y⟩ := p
    rw [q] at e
    have e : m_median [(.sh, exD a), (.sh, exD b), (.sh, exD c)] = .er (unX (iD x) (iD y)) O := e
    refine raised_er (E1 := bl (LW a b c s3 none s5 s6 s7)) ?_
    show (calM m_median [none, none, none] [] (conM (rd 0) (conM (rd 1) (conM (rd 2) (Dl.ret []))))) [some (.sh, exD a), some (.sh, exD b), some (.sh, exD c), bl1 s3, none, bl1 s5, bl1 s6, bl1 s7] = .er (unX (iD x) (iD y)) [some (.sh, exD a), some (.sh, exD b), some (.sh, exD c), bl1 s3, none, bl1 s5, bl1 s6, bl1 s7]
    generalize exD a = EA at *
    generalize exD b = EB at *
    generalize exD c = EC at *
    (push_cast [e]) <;> (try rfl)
theorem lam_j {a b c : Ex} (ha : Eb a) (s3 s5 s6 s7 : Option Ent) (L : List D) : lamO 2 gx_law_raised (calM m_joined [none, none] [] (conM (rd 0) (conM (rd 1) (Dl.ret [])))) [] (LW a b c s3 (some (.l .sh, .lst L)) s5 s6 s7) = .ok (.sh, outJ true a b) (LW a b c s3 (some (.l .sh, .lst L)) s5 s6 s7) := by
  have h1 := ha.k
  have h2 := ha.t
  obtain ⟨O, e⟩ := joined_ev a b (by omega) (by omega)
  unfold outJ
  cases q : uneq a [b] with
  | none =>
    rw [q] at e
    have e : m_joined [(.sh, exD a), (.sh, exD b)] = .ok (.sh, exD (jmE true a b)) O := e
    refine raised_ok (E1 := bl (LW a b c s3 (some (.l .sh, .lst L)) s5 s6 s7)) ?_
    show (calM m_joined [none, none] [] (conM (rd 0) (conM (rd 1) (Dl.ret [])))) [some (.sh, exD a), some (.sh, exD b), some (.sh, exD c), bl1 s3, none, bl1 s5, bl1 s6, bl1 s7] = .ok (.sh, exD (jmE true a b)) [some (.sh, exD a), some (.sh, exD b), some (.sh, exD c), bl1 s3, none, bl1 s5, bl1 s6, bl1 s7]
    generalize exD (jmE true a b) = EM at *
    generalize exD a = EA at *
    generalize exD b = EB at *
    generalize exD c = EC at *
    (push_cast [e]) <;> (try rfl)
  | some p =>
    obtain ⟨x, y⟩ := p
    rw [q] at e
    have e : m_joined [(.sh, exD a), (.sh, exD b)] = .er (unX (iD x) (iD y)) O := e
    refine raised_er (E1 := bl (LW a b c s3 (some (.l .sh, .lst L)) s5 s6 s7)) ?_
    show (calM m_joined [none, none] [] (conM (rd 0) (conM (rd 1) (Dl.ret [])))) [some (.sh, exD a), some (.sh, exD b), some (.sh, exD c), bl1 s3, none, bl1 s5, bl1 s6, bl1 s7] = .er (unX (iD x) (iD y)) [some (.sh, exD a), some (.sh, exD b), some (.sh, exD c), bl1 s3, none, bl1 s5, bl1 s6, bl1 s7]
    generalize exD a = EA at *
    generalize exD b = EB at *
    generalize exD c = EC at *
    (push_cast [e]) <;> (try rfl)
theorem lam_t {a b c : Ex} (ha : Eb a) (s3 s5 s6 s7 : Option Ent) (L : List D) : lamO 2 gx_law_raised (calM m_met [none, none] [] (conM (rd 0) (conM (rd 1) (Dl.ret [])))) [] (LW a b c s3 (some (.l .sh, .lst L)) s5 s6 s7) = .ok (.sh, outJ false a b) (LW a b c s3 (some (.l .sh, .lst L)) s5 s6 s7) := by
  have h1 := ha.k
  have h2 := ha.t
  obtain ⟨O, e⟩ := met_ev a b (by omega) (by omega)
  unfold outJ
  cases q : uneq a [b] with
  | none =>
    rw [q] at e
    have e : m_met [(.sh, exD a), (.sh, exD b)] = .ok (.sh, exD (jmE false a b)) O := e
    refine raised_ok (E1 := bl (LW a b c s3 (some (.l .sh, .lst L)) s5 s6 s7)) ?_
    show (calM m_met [none, none] [] (conM (rd 0) (conM (rd 1) (Dl.ret [])))) [some (.sh, exD a), some (.sh, exD b), some (.sh, exD c), bl1 s3, none, bl1 s5, bl1 s6, bl1 s7] = .ok (.sh, exD (jmE false a b)) [some (.sh, exD a), some (.sh, exD b), some (.sh, exD c), bl1 s3, none, bl1 s5, bl1 s6, bl1 s7]
    generalize exD (jmE false a b) = EM at *
    generalize exD a = EA at *
    generalize exD b = EB at *
    generalize exD c = EC at *
    (push_cast [e]) <;> (try rfl)
  | some p =>
    obtain ⟨x, y⟩ := p
    rw [q] at e
    have e : m_met [(.sh, exD a), (.sh, exD b)] = .er (unX (iD x) (iD y)) O := e
    refine raised_er (E1 := bl (LW a b c s3 (some (.l .sh, .lst L)) s5 s6 s7)) ?_
    show (calM m_met [none, none] [] (conM (rd 0) (conM (rd 1) (Dl.ret [])))) [some (.sh, exD a), some (.sh, exD b), some (.sh, exD c), bl1 s3, none, bl1 s5, bl1 s6, bl1 s7] = .er (unX (iD x) (iD y)) [some (.sh, exD a), some (.sh, exD b), some (.sh, exD c), bl1 s3, none, bl1 s5, bl1 s6, bl1 s7]
    generalize exD a = EA at *
    generalize exD b = EB at *
    generalize exD c = EC at *
    (push_cast [e]) <;> (try rfl)
theorem put7 {fa : M D} {e0 e1 e2 e3 e4 e5 e6 : Option Ent} {L : List D} {y : D} (z : L.length ≤ 3) (h : fa [e0, e1, e2, e3, e4, e5, e6, some (.l .sh, .lst L)] = .ok y [e0, e1, e2, e3, e4, e5, e6, some (.l .sh, .lst L)]) : (andS (mutM 7 appG (conM fa (Dl.ret []))) fun _ => done) [e0, e1, e2, e3, e4, e5, e6, some (.l .sh, .lst L)] = .nx [e0, e1, e2, e3, e4, e5, e6, some (.l .sh, .lst (L ++ [y]))] := by
  have sz : 2000 ≤ sizeLine := by decide
  have ap : appG L [y] = some (.non, L ++ [y]) := Lb.app_ok _ _ (by omega)
  have mc : ∀ E, muC (some (.non, L ++ [y])) 7 E = .ok .non (putL 7 (L ++ [y]) E) := fun E => muC_app (by omega)
  (push_cast [h, mutM_ap, muA_so, muB_so, ap, mc]) <;> (try rfl)
def unD : Option (Nat × Nat) → D
  | none => .non
  | some p => uqD p
theorem un_not (o : Option (Nat × Nat)) : notND (unD o) .non = some (.bl o.isSome) := by cases o <;> rfl
theorem right_ev {a b c : Ex} (ha : Eb a) (hb : Eb b) (hc : Eb c) : ∃ O, m_law_right [(.sh, exD a), (.sh, exD b), (.sh, exD c)] = .ok (.sh, .bl true) O := by
  have sz : 2000 ≤ sizeLine := by decide
  have k1 := ha.k
  have k2 := ha.t
  have th3 : Th 3 700 (.lst [exD a, exD b, exD c]) := (th_lst (thl_cons (th_ex ha) (thl_cons (th_ex hb) (thl_cons (th_ex hc) thl_nil)))).up (by decide) (by decide)
  have rp := repr_ev th3 (by decide) (by decide)
  have thf : Th 4 1000 (.lst [outM a b c, outJ true a b, outJ false a b]) := (th_lst (thl_cons (th_outM ha hb hc) (thl_cons (th_outJ true ha hb) (thl_cons (th_outJ false ha hb) thl_nil)))).up (by decide) (by decide)
  obtain ⟨O1, al⟩ := alike_self thf (by decide) (by decide)
  have es := eqSt (rpS (.lst [exD a, exD b, exD c]))
  have lm := lam_m (b := b) (c := c) ha
  have lj := lam_j (b := b) (c := c) ha
  have lt := lam_t (b := b) (c := c) ha
  obtain ⟨O2, u1⟩ := law_unequal_ev a [b, c]
  obtain ⟨O3, u2⟩ := law_unequal_ev a [b]
  have u1 : m_law_unequal [(.sh, .lst [exD a, exD b, exD c])] = .ok (.sh, unD (uneq a [b, c])) O2 := by
    have u1 := u1
    cases q : uneq a [b, c] with
    | none => rw [q] at u1; exact u1
    | some p => rw [q] at u1; exact u1
  have u2 : m_law_unequal [(.sh, .lst [exD a, exD b])] = .ok (.sh, unD (uneq a [b])) O3 := by
    have u2 := u2
    cases q : uneq a [b] with
    | none => rw [q] at u2; exact u2
    | some p => rw [q] at u2; exact u2
  have n1 := un_not (uneq a [b, c])
  have n2 := un_not (uneq a [b])
  have ng : negD (.int 1) = some (.int (-1)) := rfl
  have ap : ∀ (L : List D) (y : D), L.length ≤ 3 → appG L [y] = some (.non, L ++ [y]) := fun L y h => Lb.app_ok _ _ (by omega)
  have mc : ∀ (i : Nat) (L : List D) (y : D) E, L.length ≤ 3 → muC (some (.non, L ++ [y])) i E = .ok .non (putL i (L ++ [y]) E) := fun i L y E h => muC_app (by omega)
  have a1 : ∀ x y : D, appG [x] [y] = some (.non, [x, y]) := fun x y => ap [x] y (by simp)
  have a2 : ∀ x y z : D, appG [x, y] [z] = some (.non, [x, y, z]) := fun x y z => ap [x, y] z (by simp)
  have m1 : ∀ (i : Nat) (x y : D) E, muC (some (.non, [x, y])) i E = .ok .non (putL i [x, y] E) := fun i x y E => mc i [x] y E (by simp)
  have m2 : ∀ (i : Nat) (x y z : D) E, muC (some (.non, [x, y, z])) i E = .ok .non (putL i [x, y, z] E) := fun i x y z E => mc i [x, y] z E (by simp)
  -- the wished ones
  have w1 : ∀ (s3 s4 s6 s7 : Option Ent), (ifM (cmB notND (rd 5) (Dl.ret (.non))) (rd 5) (tupM (conM (Dl.ret (.str "told")) (conM (shM (calM m_law_middle [none] [] (conM (lstM (conM (rd 0) (conM (rd 1) (conM (rd 2) (Dl.ret []))))) (Dl.ret [])))) (Dl.ret []))))) (LW a b c s3 s4 (some (.sh, unD (uneq a [b, c]))) s6 s7) = .ok (outM a b c) (LW a b c s3 s4 (some (.sh, unD (uneq a [b, c]))) s6 s7) := fun s3 s4 s6 s7 => by
    clear u1 u2 lm lj lt al thf th3 rp es
    unfold outM
    cases q : uneq a [b, c] with
    | none =>
      rw [q] at n1
      obtain ⟨O, e⟩ := law_middle_ev q (by omega) (by omega)
      unfold tolD unD
      have n1 : notND .non .non = some (.bl false) := n1
      generalize exD (midE a b c) = EM at *
      unfold LW
      generalize exD a = EA at *
      generalize exD b = EB at *
      generalize exD c = EC at *
      (push_cast [n1, e]) <;> (try rfl)
    | some p =>
      rw [q] at n1
      have n1 : notND (uqD p) .non = some (.bl true) := n1
      rw [show unD (some p) = uqD p from rfl]
      unfold LW
      show _ = Rs.ok (uqD p) _
      generalize uqD p = UP at *
      (push_cast [n1]) <;> (try rfl)
  have w2 : ∀ (s : Bool) (es : M D) (s3 s4 s5 s7 : Option Ent), (∀ E : Nv, es E = .ok (spD' s) E) → (ifM (cmB notND (rd 6) (Dl.ret (.non))) (rd 6) (tupM (conM (Dl.ret (.str "told")) (conM (shM (calM m_law_ends [none, none, none] [] (conM (lstM (conM (rd 0) (conM (rd 1) (Dl.ret [])))) (conM (Dl.ret (.str (kiS s))) (conM es (Dl.ret [])))))) (Dl.ret []))))) (LW a b c s3 s4 s5 (some (.sh, unD (uneq a [b]))) s7) = .ok (outJ s a b) (LW a b c s3 s4 s5 (some (.sh, unD (uneq a [b]))) s7) := fun s ee s3 s4 s5 s7 he => by
    clear u1 u2 lm lj lt al thf th3 rp es w1
    unfold outJ
    cases q : uneq a [b] with
    | none =>
      rw [q] at n2
      obtain ⟨O, e⟩ := law_ends_ev s q (by omega) (by omega)
      unfold tolD unD
      have n2 : notND .non .non = some (.bl false) := n2
      generalize exD (jmE s a b) = EM at *
      unfold LW
      generalize exD a = EA at *
      generalize exD b = EB at *
      generalize exD c = EC at *
      generalize kiS s = KS at *
      generalize spD' s = SP at *
      (push_cast [n2, he, e]) <;> (try rfl)
    | some p =>
      rw [q] at n2
      have n2 : notND (uqD p) .non = some (.bl true) := n2
      rw [show unD (some p) = uqD p from rfl]
      unfold LW
      show _ = Rs.ok (uqD p) _
      generalize uqD p = UP at *
      (push_cast [n2]) <;> (try rfl)
  have wj := w2 true (unM negD (Dl.ret (.int 1)))
  have wt := w2 false (Dl.ret (.int 0))
  have wj : ∀ (s3 s4 s5 s7 : Option Ent), (ifM (cmB notND (rd 6) (Dl.ret (.non))) (rd 6) (tupM (conM (Dl.ret (.str "told")) (conM (shM (calM m_law_ends [none, none, none] [] (conM (lstM (conM (rd 0) (conM (rd 1) (Dl.ret [])))) (conM (Dl.ret (.str "early")) (conM (unM negD (Dl.ret (.int 1))) (Dl.ret [])))))) (Dl.ret []))))) (LW a b c s3 s4 s5 (some (.sh, unD (uneq a [b]))) s7) = .ok (outJ true a b) (LW a b c s3 s4 s5 (some (.sh, unD (uneq a [b]))) s7) := fun s3 s4 s5 s7 => wj s3 s4 s5 s7 fun E => by (push_cast [ng]) <;> (try rfl)
  have wt : ∀ (s3 s4 s5 s7 : Option Ent), (ifM (cmB notND (rd 6) (Dl.ret (.non))) (rd 6) (tupM (conM (Dl.ret (.str "told")) (conM (shM (calM m_law_ends [none, none, none] [] (conM (lstM (conM (rd 0) (conM (rd 1) (Dl.ret [])))) (conM (Dl.ret (.str "late")) (conM (Dl.ret (.int 0)) (Dl.ret [])))))) (Dl.ret []))))) (LW a b c s3 s4 s5 (some (.sh, unD (uneq a [b]))) s7) = .ok (outJ false a b) (LW a b c s3 s4 s5 (some (.sh, unD (uneq a [b]))) s7) := fun s3 s4 s5 s7 => wt s3 s4 s5 s7 fun E => rfl
  clear w2 n1 n2
  generalize unD (uneq a [b, c]) = UD1 at *
  generalize unD (uneq a [b]) = UD2 at *
  generalize rpS (.lst [exD a, exD b, exD c]) = RS at *
  refine ⟨LW a b c (some (.sh, .str RS)) (some (.sh, .lst [outM a b c, outJ true a b, outJ false a b])) (some (.sh, UD1)) (some (.sh, UD2)) (some (.sh, .lst [outM a b c, outJ true a b, outJ false a b])), ?_⟩
  have m : g_law_right (LW a b c none none none none none) = .rt (.sh, .bl true) (LW a b c (some (.sh, .str RS)) (some (.sh, .lst [outM a b c, outJ true a b, outJ false a b])) (some (.sh, UD1)) (some (.sh, UD2)) (some (.sh, .lst [outM a b c, outJ true a b, outJ false a b]))) := by
    have lm := lm (some (.sh, .str RS)) none none none
    have lj := lj (some (.sh, .str RS)) none none none [outM a b c]
    have lt := lt (some (.sh, .str RS)) none none none [outM a b c, outJ true a b]
    have w1 := w1 (some (.sh, .str RS)) (some (.sh, .lst [outM a b c, outJ true a b, outJ false a b])) (some (.sh, UD2)) none
    have wj := wj (some (.sh, .str RS)) (some (.sh, .lst [outM a b c, outJ true a b, outJ false a b])) (some (.sh, UD1)) (some (.l .sh, .lst [outM a b c]))
    have wt := wt (some (.sh, .str RS)) (some (.sh, .lst [outM a b c, outJ true a b, outJ false a b])) (some (.sh, UD1)) (some (.l .sh, .lst [outM a b c, outJ true a b]))
    unfold g_law_right
    unfold LW at lm lj lt w1 wj wt ⊢
    clear thf th3
    generalize outM a b c = OM at *
    generalize outJ true a b = OJ at *
    generalize outJ false a b = OT at *
    generalize exD a = EA at *
    generalize exD b = EB at *
    generalize exD c = EC at *
    refine (then_nx (E' := [some (.sh, EA), some (.sh, EB), some (.sh, EC), some (.sh, .str RS), none, none, none, none]) (by
      clear lm lj lt w1 wj wt al u1 u2
      (push_cast [rp]) <;> (try rfl))).trans ?_
    refine (then_nx (E' := [some (.sh, EA), some (.sh, EB), some (.sh, EC), some (.sh, .str RS), some (.l .sh, .lst [OM]), none, none, none]) (by
      clear lj lt w1 wj wt al u1 u2 rp
      (push_cast [lm]) <;> (try rfl))).trans ?_
    refine (then_nx (E' := [some (.sh, EA), some (.sh, EB), some (.sh, EC), some (.sh, .str RS), some (.l .sh, .lst [OM, OJ]), none, none, none]) (by
      clear lm lt w1 wj wt al u1 u2 rp
      (push_cast [lj, mutM_ap, muA_so, muB_so, a1, m1]) <;> (try rfl))).trans ?_
    refine (then_nx (E' := [some (.sh, EA), some (.sh, EB), some (.sh, EC), some (.sh, .str RS), some (.l .sh, .lst [OM, OJ, OT]), none, none, none]) (by
      clear lm lj w1 wj wt al u1 u2 rp
      (push_cast [lt, mutM_ap, muA_so, muB_so, a2, m2]) <;> (try rfl))).trans ?_
    have fz : ∀ g : G, frzS 4 g [some (.sh, EA), some (.sh, EB), some (.sh, EC), some (.sh, .str RS), some (.l .sh, .lst [OM, OJ, OT]), none, none, none] = g [some (.sh, EA), some (.sh, EB), some (.sh, EC), some (.sh, .str RS), some (.sh, .lst [OM, OJ, OT]), none, none, none] := fun _ => rfl
    rw [fz]
    refine (then_nx (E' := [some (.sh, EA), some (.sh, EB), some (.sh, EC), some (.sh, .str RS), some (.sh, .lst [OM, OJ, OT]), some (.sh, UD1), some (.sh, UD2), none]) (by
      clear lm lj lt w1 wj wt al rp
      (push_cast [par2_ap, u1, u2]) <;> (try rfl))).trans ?_
    refine (then_nx (E' := [some (.sh, EA), some (.sh, EB), some (.sh, EC), some (.sh, .str RS), some (.sh, .lst [OM, OJ, OT]), some (.sh, UD1), some (.sh, UD2), some (.l .sh, .lst [OM])]) (by
      clear lm lj lt wj wt al rp u1 u2
      rw [setS_ap, own1_ap, conM_ap, w1]
      rfl)).trans ?_
    refine (then_nx (E' := [some (.sh, EA), some (.sh, EB), some (.sh, EC), some (.sh, .str RS), some (.sh, .lst [OM, OJ, OT]), some (.sh, UD1), some (.sh, UD2), some (.l .sh, .lst [OM, OJ])]) (by
      clear lm lj lt w1 wt al rp u1 u2
      exact put7 (by simp) wj)).trans ?_
    refine (then_nx (E' := [some (.sh, EA), some (.sh, EB), some (.sh, EC), some (.sh, .str RS), some (.sh, .lst [OM, OJ, OT]), some (.sh, UD1), some (.sh, UD2), some (.l .sh, .lst [OM, OJ, OT])]) (by
      clear lm lj lt w1 wj al rp u1 u2
      exact put7 (by simp) wt)).trans ?_
    have fz : ∀ g : G, frzS 7 g [some (.sh, EA), some (.sh, EB), some (.sh, EC), some (.sh, .str RS), some (.sh, .lst [OM, OJ, OT]), some (.sh, UD1), some (.sh, UD2), some (.l .sh, .lst [OM, OJ, OT])] = g [some (.sh, EA), some (.sh, EB), some (.sh, EC), some (.sh, .str RS), some (.sh, .lst [OM, OJ, OT]), some (.sh, UD1), some (.sh, UD2), some (.sh, .lst [OM, OJ, OT])] := fun _ => rfl
    rw [fz]
    clear lm lj lt w1 wj wt u1 u2
    generalize D.lst [OM, OJ, OT] = LL at *
    (push_cast [al, rp, es]) <;> (try rfl)
  show runG 8 g_law_right [(.sh, exD a), (.sh, exD b), (.sh, exD c)] = _
  rw [runG_ap]
  exact congrArg rnF m
theorem any_ev (B : Bg) : ∃ (B2 : Bg) (x : Int) (O : Nv), m_law_any [(.l .sh, .lst B.1)] = .ok (.sh, .int x) (some (.l .sh, .lst B2.1) :: O) ∧ Bi x := by
  obtain ⟨B1, x1, O1, e1, a1, a2⟩ := numX B
  obtain ⟨B2, x2, O2, e2, b1, b2⟩ := numX B1
  have pw : powD (.int 10) (.int 30) = some (.int 1000000000000000000000000000000) := by kernel_rfl
  have ng : negD (.int 1000000000000000000000000000000) = some (.int (-1000000000000000000000000000000)) := rfl
  obtain ⟨B3, x, O3, e3, m⟩ := oneM B2 (l := [x1, x2, 1000000000000000000000000000000, -1000000000000000000000000000000]) D.int (by simp) (by simp)
  have e3 : m_law_one [(.l .sh, .lst B2.1), (.sh, .lst [.int x1, .int x2, .int 1000000000000000000000000000000, .int (-1000000000000000000000000000000)])] = .ok (.sh, .int x) (some (.l .sh, .lst B3.1) :: O3) := e3
  have hx : Bi x := by
    unfold Bi
    rcases List.mem_cons.mp m with rfl | m
    · omega
    rcases List.mem_cons.mp m with rfl | m
    · omega
    rcases List.mem_cons.mp m with rfl | m
    · omega
    rcases List.mem_cons.mp m with rfl | m
    · omega
    cases m
  refine ⟨B3, x, [], ?_, hx⟩
  unfold m_law_any g_law_any
  generalize D.int 1000000000000000000000000000000 = TT at *
  generalize D.int (-1000000000000000000000000000000) = TN at *
  generalize D.int x1 = X1 at *
  generalize D.int x2 = X2 at *
  generalize D.int x = XX at *
  (push_cast [e1, e2, pw, ng, e3]) <;> (try rfl)
theorem kis_ys : ∀ {ys : List D}, (∀ y ∈ ys, ∃ k, y = .str (kiS k)) → ∃ ks : List Bool, ys = ks.map fun k => .str (kiS k)
  | [], _ => ⟨[], rfl⟩
  | y :: ys, h => by
    obtain ⟨k, rfl⟩ := h y List.mem_cons_self
    obtain ⟨ks, rfl⟩ := kis_ys fun y m => h y (List.mem_cons_of_mem _ m)
    exact ⟨k :: ks, rfl⟩
theorem int_ys : ∀ {ys : List D}, (∀ y ∈ ys, ∃ x, y = .int x ∧ Bi x) → ∃ ts : List Int, ys = ts.map .int ∧ ∀ x ∈ ts, Bi x
  | [], _ => ⟨[], rfl, fun _ m => by cases m⟩
  | y :: ys, h => by
    obtain ⟨x, rfl, hx⟩ := h y List.mem_cons_self
    obtain ⟨ts, rfl, ht⟩ := int_ys fun y m => h y (List.mem_cons_of_mem _ m)
    exact ⟨x :: ts, rfl, fun z m => by
      rcases List.mem_cons.mp m with rfl | m
      · exact hx
      · exact ht z m⟩
def LD (B : Bg) (w e : Nat) (s3 s4 : Option Ent) : Nv := [some (.l .sh, .lst B.1), some (.sh, iD w), some (.sh, iD e), s3, s4]
theorem drawn_ev (B : Bg) {w e : Nat} (hw : w ≤ 12) (he : e ≤ 12) : ∃ (B2 : Bg) (p : Ex) (O : Nv), m_law_drawn [(.l .sh, .lst B.1), (.sh, iD w), (.sh, iD e)] = .ok (.sh, exD p) (some (.l .sh, .lst B2.1) :: O) ∧ Eb p := by
  have sz : 2000 ≤ sizeLine := by decide
  have rw_ := rng1_nat w (by omega)
  have re := rng1_nat e (by omega)
  have rw_ : rng1Of [iD w] = some ((List.range w).map iD) := rw_
  have re : rng1Of [iD e] = some ((List.range e).map iD) := re
  obtain ⟨ys, E1, e1, ⟨B1, rfl⟩, l1, p1⟩ := compD (f0 := rg1 (conM (rd 1) (Dl.ret []))) (asg := putE 3) (elt := shM (calM m_law_kind [some 0] [] (ioM 0 (Dl.ret [])))) (vs := [3]) (I := fun E => ∃ B2 : Bg, E = LD B2 w e none none) (p := fun y => ∃ k, y = .str (kiS k)) (ds := (List.range w).map iD) (E := LD B w e none none) (EA := LD B w e none none) (by
      unfold LD
      generalize (List.range w).map iD = RW at *
      generalize iD w = WI at *
      generalize iD e = EI at *
      (push_cast [rw_]) <;> (try rfl)) ⟨B, rfl⟩ (fun d m E ⟨B1, eE⟩ => by
      subst eE
      obtain ⟨B2, k, O, et⟩ := kindX B1
      refine ⟨_, LD B2 w e (some (.sh, d)) none, .str (kiS k), rfl, ?_, ⟨B2, rfl⟩, k, rfl⟩
      unfold LD
      generalize iD w = WI at *
      generalize iD e = EI at *
      generalize D.str (kiS k) = KS at *
      (push_cast [et]) <;> (try rfl)) (by rw [List.length_map, List.length_range]; omega)
  obtain ⟨ks, rfl⟩ := kis_ys p1
  obtain ⟨zs, E2, e2, ⟨B2, rfl⟩, l2, p2⟩ := compD (f0 := rg1 (conM (rd 2) (Dl.ret []))) (asg := putE 4) (elt := shM (calM m_law_any [some 0] [] (ioM 0 (Dl.ret [])))) (vs := [4]) (I := fun E => ∃ B2 : Bg, E = LD B2 w e none none) (p := fun y => ∃ x, y = .int x ∧ Bi x) (ds := (List.range e).map iD) (E := LD B1 w e none none) (EA := LD B1 w e none none) (by
      unfold LD
      generalize (List.range e).map iD = RE at *
      generalize iD w = WI at *
      generalize iD e = EI at *
      (push_cast [re]) <;> (try rfl)) ⟨B1, rfl⟩ (fun d m E ⟨B1, eE⟩ => by
      subst eE
      obtain ⟨B2, x, O, et, hx⟩ := any_ev B1
      refine ⟨_, LD B2 w e none (some (.sh, d)), .int x, rfl, ?_, ⟨B2, rfl⟩, x, rfl, hx⟩
      unfold LD
      generalize iD w = WI at *
      generalize iD e = EI at *
      generalize D.int x = KS at *
      (push_cast [et]) <;> (try rfl)) (by rw [List.length_map, List.length_range]; omega)
  obtain ⟨ts, rfl, ht⟩ := int_ys p2
  rw [List.length_map, List.length_map, List.length_range] at l1 l2
  refine ⟨B2, (ks, ts), (LD B2 w e none none).tail, ?_, ⟨by show ks.length ≤ 12; omega, by show ts.length ≤ 12; omega, ht⟩⟩
  have e1 : c1_law_drawn (LD B w e none none) = .ok (.l .sh, .lst (ks.map fun k => .str (kiS k))) (LD B1 w e none none) := e1
  have e2 : c0_law_drawn (LD B1 w e none none) = .ok (.l .sh, .lst (ts.map .int)) (LD B2 w e none none) := e2
  have t1 : tupleD [.lst (ks.map fun k => .str (kiS k))] = some (kdD ks) := rfl
  have t2 : tupleD [.lst (ts.map .int)] = some (tmD ts) := rfl
  have m : g_law_drawn (LD B w e none none) = .rt (.sh, exD (ks, ts)) (LD B2 w e none none) := by
    rw [g_law_drawn, show exD (ks, ts) = .tup [kdD ks, tmD ts] from rfl]
    unfold LD at e1 e2 ⊢
    generalize (ks.map fun k => D.str (kiS k)) = KS at *
    generalize ts.map D.int = TS at *
    generalize kdD ks = KD at *
    generalize tmD ts = TD at *
    generalize iD w = WI at *
    generalize iD e = EI at *
    (push_cast [e1, t1, e2, t2]) <;> (try rfl)
  show runG 5 g_law_drawn [(.l .sh, .lst B.1), (.sh, iD w), (.sh, iD e)] = _
  rw [runG_ap]
  exact congrArg rnF m
def L1 (x0 : Option Ent) (B : Bg) (s2 : Option Ent) (w e : Nat) (l : List Ex) (s6 s7 s8 : Option Ent) : Nv := [x0, some (.l .sh, .lst B.1), s2, some (.sh, iD w), some (.sh, iD e), some (.l .sh, .lst (l.map exD)), s6, s7, s8]
theorem small_ys : ∀ {ys : List D}, (∀ y ∈ ys, ∃ i, y = iD i ∧ i ≤ 2) → ys.length = 2 → ∃ i j, i ≤ 2 ∧ j ≤ 2 ∧ ys = [iD i, iD j]
  | [y, z], h, _ => by
    obtain ⟨i, rfl, hi⟩ := h y List.mem_cons_self
    obtain ⟨j, rfl, hj⟩ := h z (List.mem_cons_of_mem _ List.mem_cons_self)
    exact ⟨i, j, hi, hj, rfl⟩
theorem law_c0 (x0 : Option Ent) (B : Bg) (s2 : Option Ent) (w e : Nat) (l : List Ex) (s6 s7 : Option Ent) : ∃ (B2 : Bg) (i j : Nat), i ≤ 2 ∧ j ≤ 2 ∧ c0_law (L1 x0 B s2 w e l s6 s7 none) = .ok (.l .sh, .lst [iD i, iD j]) (L1 x0 B2 s2 w e l s6 s7 none) := by
  have sz : 2000 ≤ sizeLine := by decide
  have rg : rng1Of [.int 2] = some ((List.range 2).map iD) := rfl
  obtain ⟨ys, E', e0, ⟨B2, rfl⟩, ly, py⟩ := compD (f0 := rg1 (conM (Dl.ret (.int 2)) (Dl.ret []))) (asg := putE 8) (elt := shM (calM m_law_one [some 1, none] [] (ioM 1 (conM (lstM (conM (Dl.ret (.int 0)) (conM (Dl.ret (.int 0)) (conM (Dl.ret (.int 0)) (conM (Dl.ret (.int 1)) (conM (Dl.ret (.int 0)) (conM (Dl.ret (.int 0)) (conM (Dl.ret (.int 2)) (Dl.ret []))))))))) (Dl.ret []))))) (vs := [8]) (I := fun E => ∃ B2 : Bg, E = L1 x0 B2 s2 w e l s6 s7 none) (p := fun y => ∃ i, y = iD i ∧ i ≤ 2) (ds := (List.range 2).map iD) (E := L1 x0 B s2 w e l s6 s7 none) (EA := L1 x0 B s2 w e l s6 s7 none) (by
      unfold L1
      generalize (List.range 2).map iD = RW at *
      generalize iD w = WI at *
      generalize iD e = EI at *
      generalize l.map exD = LX at *
      (push_cast [rg]) <;> (try rfl)) ⟨B, rfl⟩ (fun d m E ⟨B1, eE⟩ => by
      subst eE
      obtain ⟨B2, i, O, et, hi⟩ := oneM B1 (l := [0, 0, 0, 1, 0, 0, 2]) iD (by simp) (by simp)
      have et : m_law_one [(.l .sh, .lst B1.1), (.sh, .lst [.int 0, .int 0, .int 0, .int 1, .int 0, .int 0, .int 2])] = .ok (.sh, iD i) (some (.l .sh, .lst B2.1) :: O) := et
      have hi : i ≤ 2 := by
        simp at hi
        omega
      refine ⟨_, L1 x0 B2 s2 w e l s6 s7 (some (.sh, d)), iD i, rfl, ?_, ⟨B2, rfl⟩, i, rfl, hi⟩
      unfold L1
      generalize iD w = WI at *
      generalize iD e = EI at *
      generalize iD i = II at *
      generalize l.map exD = LX at *
      (push_cast [et]) <;> (try rfl)) (by rw [List.length_map, List.length_range]; omega)
  rw [List.length_map, List.length_range] at ly
  obtain ⟨i, j, hi, hj, rfl⟩ := small_ys py ly
  exact ⟨B2, i, j, hi, hj, e0⟩
theorem law_b0 (x0 : Option Ent) (B : Bg) (s2 : Option Ent) {w e : Nat} (hw : w ≤ 8) (he : e ≤ 8) {l : List Ex} (hl : l.length ≤ 10) (s6 s7 : Option Ent) : ∃ (B2 : Bg) (p : Ex) (t7 : Option Ent), Eb p ∧ b0_law (L1 x0 B s2 w e l s6 s7 none) = .nx (L1 x0 B2 s2 w e (l ++ [p]) s6 t7 none) := by
  have sz : 2000 ≤ sizeLine := by decide
  obtain ⟨B1, i, j, hi, hj, c0⟩ := law_c0 x0 B s2 w e l s6 s7
  obtain ⟨B2, p, O, de, hp⟩ := drawn_ev B1 (w := w + i) (e := e + j) (by omega) (by omega)
  have a1 : addD (iD w) (iD i) = some (iD (w + i)) := rfl
  have a2 : addD (iD e) (iD j) = some (iD (e + j)) := rfl
  have j0 : ∀ x y : D, ixD (.lst [x, y]) (.int 0) = some x := fun _ _ => rfl
  have j1 : ∀ x y : D, ixD (.lst [x, y]) (.int 1) = some y := fun _ _ => rfl
  have ap : appG (l.map exD) [exD p] = some (.non, (l ++ [p]).map exD) := by
    rw [List.map_append]
    exact Lb.app_ok _ _ (by rw [List.length_map]; omega)
  have mc : ∀ E, muC (some (.non, (l ++ [p]).map exD)) 5 E = .ok .non (putL 5 ((l ++ [p]).map exD) E) := fun E => muC_ok _ _ _ _ (by rw [List.length_map, List.length_append]; simp; omega)
  refine ⟨B2, p, some (.sh, .lst [iD i, iD j]), hp, ?_⟩
  unfold b0_law
  unfold L1 at c0 ⊢
  generalize (l ++ [p]).map exD = LY at *
  generalize l.map exD = LX at *
  generalize exD p = PX at *
  generalize iD (w + i) = W1 at *
  generalize iD (e + j) = E1 at *
  generalize iD w = WI at *
  generalize iD e = EI at *
  generalize iD i = II at *
  generalize iD j = JJ at *
  (push_cast [c0, frzS_ap, frR_so, j0, j1, a1, a2, de, mutM_ap, muA_so, muB_so, ap, mc]) <;> (try rfl)
theorem turn_ev (x0 : Option Ent) (B : Bg) (s2 s3 s4 s5 s6 s7 : Option Ent) : ∃ (B2 : Bg) (t3 t4 t5 t6 t7 : Option Ent), b1_law [x0, some (.l .sh, .lst B.1), s2, s3, s4, s5, s6, s7, none] = .nx [x0, some (.l .sh, .lst B2.1), s2, t3, t4, t5, t6, t7, none] := by
  obtain ⟨B1, w, O1, e1, hw⟩ := takeN B (m := 7) (by decide) (by decide)
  obtain ⟨B2, e, O2, e2, he⟩ := takeN B1 (m := 7) (by decide) (by decide)
  have e1 : m_law_take [(.l .sh, .lst B.1), (.sh, .int 7)] = .ok (.sh, iD w) (some (.l .sh, .lst B1.1) :: O1) := e1
  have e2 : m_law_take [(.l .sh, .lst B1.1), (.sh, .int 7)] = .ok (.sh, iD e) (some (.l .sh, .lst B2.1) :: O2) := e2
  obtain ⟨B3, a, t71, ha, b1⟩ := law_b0 x0 B2 s2 (w := w) (e := e) (by omega) (by omega) (l := []) (by simp) (some (.sh, .int 0)) s7
  obtain ⟨B4, b, t72, hb, b2⟩ := law_b0 x0 B3 s2 (w := w) (e := e) (by omega) (by omega) (l := [a]) (by simp) (some (.sh, .int 1)) t71
  obtain ⟨B5, c, t73, hc, b3⟩ := law_b0 x0 B4 s2 (w := w) (e := e) (by omega) (by omega) (l := [a, b]) (by simp) (some (.sh, .int 2)) t72
  have lp : loopS (putE 6) b0_law [.int 0, .int 1, .int 2] (L1 x0 B2 s2 w e [] s6 s7 none) = .nx (L1 x0 B5 s2 w e [a, b, c] (some (.sh, .int 2)) t73 none) := by
    rw [loop_cons (E1 := L1 x0 B2 s2 w e [] (some (.sh, .int 0)) s7 none) rfl b1, loop_cons (E1 := L1 x0 B3 s2 w e [a] (some (.sh, .int 1)) t71 none) rfl b2, loop_cons (E1 := L1 x0 B4 s2 w e [a, b] (some (.sh, .int 2)) t72 none) rfl b3]
    rfl
  obtain ⟨O3, r1⟩ := right_ev ha hb hc
  obtain ⟨O4, r2⟩ := right_ev hc ha hb
  have r3 : rng1Of [.int 3] = some [.int 0, .int 1, .int 2] := rfl
  have j0 : ∀ x y z : D, ixD (.lst [x, y, z]) (.int 0) = some x := fun _ _ _ => rfl
  have j1 : ∀ x y z : D, ixD (.lst [x, y, z]) (.int 1) = some y := fun _ _ _ => rfl
  have j2 : ∀ x y z : D, ixD (.lst [x, y, z]) (.int 2) = some z := fun _ _ _ => rfl
  refine ⟨B5, some (.sh, iD w), some (.sh, iD e), some (.sh, .lst [exD a, exD b, exD c]), some (.sh, .int 2), t73, ?_⟩
  unfold b1_law
  refine (then_nx (E' := [x0, some (.l .sh, .lst B2.1), s2, some (.sh, iD w), some (.sh, iD e), s5, s6, s7, none]) (by
    clear lp b1 b2 b3 r1 r2
    generalize iD w = WI at *
    generalize iD e = EI at *
    (push_cast [par2_ap, e1, e2]) <;> (try rfl))).trans ?_
  refine (then_nx (E' := L1 x0 B2 s2 w e [] s6 s7 none) rfl).trans ?_
  refine (then_nx (E' := L1 x0 B5 s2 w e [a, b, c] (some (.sh, .int 2)) t73 none) (by
    have q : rg1 (conM (Dl.ret (.int 3)) (Dl.ret [])) (L1 x0 B2 s2 w e [] s6 s7 none) = .ok [.int 0, .int 1, .int 2] (L1 x0 B2 s2 w e [] s6 s7 none) := by
      clear lp b1 b2 b3 r1 r2
      (push_cast [r3]) <;> (try rfl)
    unfold l0_law forS
    rw [andS_at q]
    exact lp)).trans ?_
  clear lp b1 b2 b3
  show (frzS 5 _) [x0, some (.l .sh, .lst B5.1), s2, some (.sh, iD w), some (.sh, iD e), some (.l .sh, .lst [exD a, exD b, exD c]), some (.sh, .int 2), t73, none] = _
  generalize exD a = EA at *
  generalize exD b = EB at *
  generalize exD c = EC at *
  generalize iD w = WI at *
  generalize iD e = EI at *
  (push_cast [frzS_ap, frR_so, j0, j1, j2, r1, r2]) <;> (try rfl)
theorem turns_ev (x0 : Option Ent) : ∀ (ds : List D) (B : Bg) (s2 s3 s4 s5 s6 s7 : Option Ent), ∃ (B2 : Bg) (t2 t3 t4 t5 t6 t7 : Option Ent), loopS (putE 2) b1_law ds [x0, some (.l .sh, .lst B.1), s2, s3, s4, s5, s6, s7, none] = .nx [x0, some (.l .sh, .lst B2.1), t2, t3, t4, t5, t6, t7, none]
  | [], B, s2, s3, s4, s5, s6, s7 => ⟨B, s2, s3, s4, s5, s6, s7, rfl⟩
  | d :: ds, B, s2, s3, s4, s5, s6, s7 => by
    obtain ⟨B1, t3, t4, t5, t6, t7, e⟩ := turn_ev x0 B (some (.sh, d)) s3 s4 s5 s6 s7
    obtain ⟨B2, u2, u3, u4, u5, u6, u7, r⟩ := turns_ev x0 ds B1 (some (.sh, d)) t3 t4 t5 t6 t7
    exact ⟨B2, u2, u3, u4, u5, u6, u7, (loop_cons (E1 := [x0, some (.l .sh, .lst B.1), some (.sh, d), s3, s4, s5, s6, s7, none]) rfl e).trans r⟩
theorem keeps : Keeps 63 m_law := by
  intro ns hl _
  have eb := bag_ev hl
  have r8 := rng1_nat 8 (by decide)
  have r8 : rng1Of [.int 8] = some ((List.range 8).map iD) := r8
  obtain ⟨B2, t2, t3, t4, t5, t6, t7, lp⟩ := turns_ev (some (.sh, .frl ns)) ((List.range 8).map iD) (bag0 ns) none none none none none none
  have main : ∃ E', g_law [some (.sh, .frl ns), none, none, none, none, none, none, none, none] = .rt (.sh, .bl true) E' := by
    refine ⟨[some (.sh, .frl ns), some (.l .sh, .lst B2.1), t2, t3, t4, t5, t6, t7, none], ?_⟩
    rw [g_law]
    refine (then_nx (E' := [some (.sh, .frl ns), some (.l .sh, .lst (bag0 ns).1), none, none, none, none, none, none, none]) (by (push_cast [eb]) <;> (try rfl))).trans ?_
    refine (then_nx (E' := [some (.sh, .frl ns), some (.l .sh, .lst B2.1), t2, t3, t4, t5, t6, t7, none]) (by
      unfold l1_law
      generalize (List.range 8).map iD = RR at *
      (push_cast [r8, lp]) <;> (try rfl))).trans ?_
    rfl
  obtain ⟨E', m⟩ := main
  refine ⟨E', ?_⟩
  show runG 9 g_law [(.sh, .frl ns)] = _
  have : g_law ([(.sh, .frl ns)].map some ++ List.replicate (9 - 1) none) = .rt (.sh, .bl true) E' := m
  rw [runG_ap]
  exact congrArg rnF this
end Gk
open PySem PySem.W PySem.Calls PyProof.Rows
theorem PySem.Challenge.cw_earlyorlate_k50_middles_reckoned_holds : PySem.Challenge.rw_earlyorlate_k50_middles_reckoned.Holds := by
  w_on; o_law
  refine HandSHeadRun.head_any (r := OpenLaw.row PySem.Challenge.rw_earlyorlate_k50_middles_reckoned) (q := view (OpenLaw.row PySem.Challenge.rw_earlyorlate_k50_middles_reckoned).prog [24]) (H := Gk.hk) (ob := Gk.ob) (M := 20000) (loose := Gk.loose) (d := HandSHeadRun.topDef (OpenLaw.row PySem.Challenge.rw_earlyorlate_k50_middles_reckoned).prog 24) (kwd := []) Gk.ob_eq
    (by kernel_rfl) (fun s => by kernel_rfl) Gk.run (by kernel_rfl) (by kernel_rfl) (by kernel_rfl) (by rfl) (by first | assumption | decide +kernel) (by decide +kernel) ⟨rfl, rfl, rfl, rfl, rfl, by decide +kernel⟩ ?hw ?hc
  case hw => w_witness2
  case hc =>
    refine Dl.walk_gT (tf := Gk.tfs) (l := PySem.Challenge.rw_earlyorlate_k50_middles_reckoned) (n := 63) (k := 8) (x := "_law_script") (m := fun _ => Gk.m_law) rfl (by decide) (by kernel_rfl) ⟨rfl, by decide, by decide⟩ (fun _ => Gk.keeps) ?F
    intro w mg fa h Y G hmg0
    obtain ⟨K, KX, c1, c2, tt⟩ := Y
    have hmg : mg ("law" : PySem.Str) = some (.ref fa) := by
      have e : (HandSHeadRun.topDef (OpenLaw.row PySem.Challenge.rw_earlyorlate_k50_middles_reckoned).prog 24).name = ("law" : PySem.Str) := by kernel_rfl
      rw [← e]
      exact hmg0
    have o : Dl.Md3 Gk.fa Gk.fn Gk.ex K mg := ⟨⟨h, KX, G⟩, c1, c2⟩
    have e1 := hmg.symm.trans (o.glo 30)
    cases e1
    letI : Dl.Tbs := Dl.tbsOf K Gk.tfs
    obtain ⟨fd, F, hb⟩ := Gk.ok_law (P := (PySem.Challenge.rw_earlyorlate_k50_middles_reckoned).prog) (w := w) o
    exact ⟨K, fd, KX, tt, hb, fun base _ _ tb => F base tb⟩
end
