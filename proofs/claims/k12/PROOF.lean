import PyProof.Rows.All
import Wide.All
import OpenK.AllK
import Wide.FinOn
import HandS.ForMost
import HandS.Exc
import HandS.ExcOwn
import HandS.WordsExc
import HandS.Defaults
import HandS.Flow
import HandS.Deep
import HandS.IsInst
import HandS.HeadHook1
import HandS.HeadHook2
import HandS.TupAny
import HandS.Style
import KE.GoesEnum
import HandS.ExcInit
import HandS.Comp
import HandS.EndBits
import HandS.Ends
import HandS.HeadEnd
import HandS.Head0
import HandS.Head1
import HandS.Head2
import PySem.Challenge.RW_earlyorlate_k12_words_and_kinds
set_option Elab.async false
set_option linter.all false
set_option maxRecDepth 100000
set_option maxHeartbeats 0
/-! Dl: a layer of data over the hand layer: what a piece of the program gives, as a function of data -/
namespace Dl
open PySem PySem.Spec PyProof.Rows L2
abbrev KF := PySem.W.Frag
inductive D where
  | non | bl (b : Bool) | int (i : Int) | str (x : Str)
  | lst (xs : List D) | tup (xs : List D)
  | dct (ks vs : List D)
  | ins (c : Str) (ns : List Str) (vs : List D)
  | ty (n : String) | cl (c : Str) | frl (ns : List Int)
mutual
def imm : D → Bool
  | .lst _ => false
  | .dct _ _ => false
  | .tup xs => immL xs
  | .ins _ _ vs => immL vs
  | .non => true
  | .bl _ => true
  | .int _ => true
  | .str _ => true
  | .ty _ => true
  | .cl _ => true
  | .frl _ => false
def immL : List D → Bool
  | [] => true
  | x :: r => imm x && immL r
end
/-- what never changes -/
def immO : HO → Bool
  | .tup _ => true
  | .ins _ _ _ => true
  | _ => false
/-- a key's datum -/
def kD : Key → D
  | .inl i => .int i
  | .inr x => .str x
mutual
inductive Rep (K : KF) (F : Hp) : V → D → Prop
  | non : Rep K F .non .non
  | bl (b : Bool) : Rep K F (.bl b) (.bl b)
  | int (i : Int) : Rep K F (.int i) (.int i)
  | str (x : Str) : Rep K F (.str x) (.str x)
  | ty (n : String) : Rep K F (.ty n) (.ty n)
  | cl (c : Str) : Rep K F (.ref (He.ga K c)) (.cl c)
  | frl {a : Addr} {ns : List Int} : SqL K F a (ns.map V.int) → ns.length ≤ sizeLine → Rep K F (.ref a) (.frl ns)
  | lst {a : Addr} {vs : List V} {ds : List D} : F a = some (.lst vs) → ds.length ≤ sizeLine → RepL K F vs ds → Rep K F (.ref a) (.lst ds)
  | tup {a : Addr} {vs : List V} {ds : List D} : SqT K F a vs → ds.length ≤ sizeLine → RepL K F vs ds → Rep K F (.ref a) (.tup ds)
  | ins {a C dx : Addr} {fs : List (Str × V)} {c : Str} {ns : List Str} {ds : List D} : F a = some (.ins C dx fs) → C = He.ga K c → fs.map (·.1) = ns → RepL K F (fs.map (·.2)) ds → Rep K F (.ref a) (.ins c ns ds)
  | dk {a : Addr} {kvs : List (Key × V)} {ks ds : List D} : Rd F a (.dK kvs) → kvs.map (fun p => kD p.1) = ks → RepL K F (kvs.map (·.2)) ds → Rep K F (.ref a) (.dct ks ds)
  | dt {a : Addr} {kvs : List (List Key × V)} {ks ds : List D} : F a = some (.dT kvs) → kvs.map (fun p => D.tup (p.1.map kD)) = ks → RepL K F (kvs.map (·.2)) ds → Rep K F (.ref a) (.dct ks ds)
inductive RepL (K : KF) (F : Hp) : List V → List D → Prop
  | nil : RepL K F [] []
  | cons {v : V} {vs : List V} {d : D} {ds : List D} : Rep K F v d → RepL K F vs ds → RepL K F (v :: vs) (d :: ds)
end
theorem rd_mono {F F' : Hp} {a : Addr} {u : HO} (e : Same F F') (h : Rd F a u) : Rd F' a u := by
  rcases h with h | ⟨o, h⟩
  · exact .inl (e _ _ h)
  · exact .inr ⟨o, e _ _ h⟩
theorem sqT_mono {K : KF} {F F' : Hp} {a : Addr} {xs : List V} (e : Same F F') (h : SqT K F a xs) : SqT K F' a xs := by
  rcases h with h | h
  · exact .inl (rd_mono e h)
  · exact .inr h
theorem sqL_mono {K : KF} {F F' : Hp} {a : Addr} {xs : List V} (e : Same F F') (h : SqL K F a xs) : SqL K F' a xs := by
  rcases h with h | h
  · exact .inl (rd_mono e h)
  · exact .inr h
mutual
theorem Rep.mono {K : KF} {F F' : Hp} (e : Same F F') : ∀ {v : V} (d : D), Rep K F v d → Rep K F' v d
  | _, .non, h => by cases h; exact .non
  | _, .bl b, h => by cases h; exact .bl b
  | _, .int i, h => by cases h; exact .int i
  | _, .str x, h => by cases h; exact .str x
  | _, .ty n, h => by cases h; exact .ty n
  | _, .cl c, h => by cases h; exact .cl c
  | _, .frl ns, h => by
    cases h with
    | frl s z => exact .frl (sqL_mono e s) z
  | _, .lst ds, h => by
    cases h with
    | lst s z r => exact .lst (e _ _ s) z (RepL.mono e ds r)
  | _, .tup ds, h => by
    cases h with
    | tup s z r => exact .tup (sqT_mono e s) z (RepL.mono e ds r)
  | _, .dct ks ds, h => by
    cases h with
    | dk s k r => exact .dk (rd_mono e s) k (RepL.mono e ds r)
    | dt s k r => exact .dt (e _ _ s) k (RepL.mono e ds r)
  | _, .ins c ns ds, h => by
    cases h with
    | ins s k n r => exact .ins (e _ _ s) k n (RepL.mono e ds r)
theorem RepL.mono {K : KF} {F F' : Hp} (e : Same F F') : ∀ {vs : List V} (ds : List D), RepL K F vs ds → RepL K F' vs ds
  | _, [], h => by cases h; exact .nil
  | _, d :: ds, h => by
    cases h with
    | cons h1 h2 => exact .cons (Rep.mono e d h1) (RepL.mono e ds h2)
end
/-- a datum that never changes: the objects that never change suffice (all of frozen tuples stand in F) -/
def NoFz (F' : Hp) : Prop := ∀ a o u, F' a = some (.frz o u) → ∀ xs, u ≠ .tup xs
mutual
theorem Rep.restr {K : KF} {F' G : Hp} (e : ∀ a o, F' a = some o → immO o = true → G a = some o) (nz : NoFz F') : ∀ {v : V} (d : D), imm d = true → Rep K F' v d → Rep K G v d
  | _, .non, _, h => by cases h; exact .non
  | _, .bl b, _, h => by cases h; exact .bl b
  | _, .int i, _, h => by cases h; exact .int i
  | _, .str x, _, h => by cases h; exact .str x
  | _, .ty n, _, h => by cases h; exact .ty n
  | _, .cl c, _, h => by cases h; exact .cl c
  | _, .frl ns, i, h => by cases (show false = true from i)
  | _, .lst ds, i, h => by
    have i' : false = true := i
    cases i'
  | _, .tup ds, i, h => by
    cases h with
    | tup s z r =>
      refine .tup ?_ z (RepL.restr e nz ds i r)
      rcases s with (s | ⟨o, s⟩) | s
      · exact .inl (.inl (e _ _ s rfl))
      · exact absurd rfl (nz _ _ _ s _)
      · exact .inr s
  | _, .dct ks ds, i, h => by
    have i' : false = true := i
    cases i'
  | _, .ins c ns ds, i, h => by
    cases h with
    | ins s k n r => exact .ins (e _ _ s rfl) k n (RepL.restr e nz ds i r)
theorem RepL.restr {K : KF} {F' G : Hp} (e : ∀ a o, F' a = some o → immO o = true → G a = some o) (nz : NoFz F') : ∀ {vs : List V} (ds : List D), immL ds = true → RepL K F' vs ds → RepL K G vs ds
  | _, [], _, h => by cases h; exact .nil
  | _, d :: ds, i, h => by
    have i' : (imm d && immL ds) = true := i
    have ⟨i1, i2⟩ := Bool.and_eq_true_iff.mp i'
    cases h with
    | cons h1 h2 => exact .cons (Rep.restr e nz d i1 h1) (RepL.restr e nz ds i2 h2)
end
/-! ### lists of values -/
theorem RepL.length {K : KF} {F : Hp} : ∀ {vs : List V} {ds : List D}, RepL K F vs ds → vs.length = ds.length
  | [], _, h => by cases h; rfl
  | v :: vs, _, h => by
    cases h with
    | cons _ r => rw [List.length_cons, List.length_cons, r.length]
theorem RepL.get {K : KF} {F : Hp} : ∀ {vs : List V} {ds : List D} {i : Nat} {d : D}, RepL K F vs ds → ds[i]? = some d → ∃ v, vs[i]? = some v ∧ Rep K F v d
  | [], _, i, d, h, e => by cases h; simp at e
  | v :: vs, _, 0, d, h, e => by
    cases h with
    | cons h1 _ => simp at e; subst e; exact ⟨v, rfl, h1⟩
  | v :: vs, _, i + 1, d, h, e => by
    cases h with
    | cons _ h2 =>
      obtain ⟨u, e1, e2⟩ := RepL.get (i := i) h2 (by simpa using e)
      exact ⟨u, by simpa using e1, e2⟩
theorem RepL.getV {K : KF} {F : Hp} : ∀ {vs : List V} {ds : List D} {i : Nat} {v : V}, RepL K F vs ds → vs[i]? = some v → ∃ d, ds[i]? = some d ∧ Rep K F v d
  | [], _, i, d, h, e => by simp at e
  | v :: vs, _, 0, d, h, e => by
    cases h with
    | cons h1 _ => simp at e; subst e; exact ⟨_, rfl, h1⟩
  | v :: vs, _, i + 1, d, h, e => by
    cases h with
    | cons _ h2 =>
      obtain ⟨u, e1, e2⟩ := RepL.getV (i := i) h2 (by simpa using e)
      exact ⟨u, by simpa using e1, e2⟩
theorem RepL.app {K : KF} {F : Hp} : ∀ {vs ws : List V} {ds es : List D}, RepL K F vs ds → RepL K F ws es → RepL K F (vs ++ ws) (ds ++ es)
  | [], _, _, _, h, h' => by cases h; exact h'
  | v :: vs, _, _, _, h, h' => by
    cases h with
    | cons h1 h2 => exact .cons h1 (h2.app h')
theorem RepL.take {K : KF} {F : Hp} : ∀ {vs : List V} {ds : List D} (n : Nat), RepL K F vs ds → RepL K F (vs.take n) (ds.take n)
  | _, _, 0, _ => by rw [List.take_zero, List.take_zero]; exact .nil
  | [], _, n + 1, h => by cases h; exact .nil
  | v :: vs, _, n + 1, h => by
    cases h with
    | cons h1 h2 => exact .cons h1 (h2.take n)
theorem RepL.drop {K : KF} {F : Hp} : ∀ {vs : List V} {ds : List D} (n : Nat), RepL K F vs ds → RepL K F (vs.drop n) (ds.drop n)
  | _, _, 0, h => h
  | [], _, n + 1, h => by cases h; exact .nil
  | v :: vs, _, n + 1, h => by
    cases h with
    | cons h1 h2 => exact h2.drop n
theorem RepL.set {K : KF} {F : Hp} {v : V} {d : D} (r : Rep K F v d) : ∀ {vs : List V} {ds : List D} (i : Nat), RepL K F vs ds → RepL K F (vs.set i v) (ds.set i d)
  | [], _, _, h => by cases h; exact .nil
  | w :: vs, _, 0, h => by
    cases h with
    | cons _ h2 => exact .cons r h2
  | w :: vs, _, i + 1, h => by
    cases h with
    | cons h1 h2 => exact .cons h1 (h2.set r i)
theorem RepL.ofInts {K : KF} {F : Hp} : ∀ (ns : List Int), RepL K F (ns.map V.int) (ns.map D.int)
  | [] => .nil
  | n :: r => .cons (.int n) (RepL.ofInts r)
/-! ### what is owned -/
/-- shared; a list, a dict of one's own, with what stands in it -/
inductive Ow where
  | sh | l (t : Ow) | d (t : Ow) | o
deriving DecidableEq
abbrev Lab := List Nat
abbrev Wm := Addr → Option Lab
def OwnT (K : KF) (F H : Hp) (W : Wm) : Ow → Lab → V → D → Prop
  | .sh, _, v, d => Rep K F v d
  | .l t, lab, v, d => ∃ (o : Addr) (vs : List V) (ds : List D), v = .ref o ∧ d = .lst ds ∧ W o = some lab ∧ H o = some (.lst vs) ∧ ds.length ≤ sizeLine ∧ vs.length = ds.length ∧
      ∀ (j : Nat) (v' : V) (d' : D), vs[j]? = some v' → ds[j]? = some d' → OwnT K F H W t (lab ++ [j]) v' d'
  | .d t, lab, v, d => ∃ (o : Addr) (vs : List V) (ks ds : List D), v = .ref o ∧ d = .dct ks ds ∧ W o = some lab ∧
      ((∃ kvs : List (Key × V), H o = some (.dK kvs) ∧ kvs.map (fun p => kD p.1) = ks ∧ kvs.map (·.2) = vs) ∨ (∃ kvs : List (List Key × V), H o = some (.dT kvs) ∧ kvs.map (fun p => D.tup (p.1.map kD)) = ks ∧ kvs.map (·.2) = vs)) ∧ vs.length = ds.length ∧
      ∀ (j : Nat) (v' : V) (d' : D), vs[j]? = some v' → ds[j]? = some d' → OwnT K F H W t (lab ++ [j]) v' d'
  | .o, lab, v, d => ∃ (x C dx : Addr) (fs : List (Str × V)) (c : Str) (ns : List Str) (ds : List D), v = .ref x ∧ d = .ins c ns ds ∧ W x = some lab ∧ H x = some (.ins C dx fs) ∧ C = He.ga K c ∧ fs.map (·.1) = ns ∧ fs.length ≤ 100 ∧ RepL K F (fs.map (·.2)) ds
/-- nothing of it is an instance -/
def noO : Ow → Bool
  | .sh => true
  | .l t => noO t
  | .d t => noO t
  | .o => false
/-- one step of the heaps: F what is frozen, W what is owned, H all -/
structure Stp (F : Hp) (W : Wm) (H F' : Hp) (W' : Wm) (H' : Hp) : Prop where
  fx : Same F F'
  fn : ∀ a o, F' a = some o → F a = some o ∨ H a = none
  wx : ∀ a l, W a = some l → W' a = some l
  wn : ∀ a l, W' a = some l → W a = some l ∨ H a = none
  hx : ∀ a o, H a = some o → W a = none → H' a = some o
  hd : ∀ a o, H a = some o → ∃ o', H' a = some o'
theorem Stp.refl (F : Hp) (W : Wm) (H : Hp) : Stp F W H F W H := ⟨Same.refl F, fun _ _ h => .inl h, fun _ _ h => h, fun _ _ h => .inl h, fun _ _ h _ => h, fun _ o h => ⟨o, h⟩⟩
theorem Stp.back {F : Hp} {W : Wm} {H F' : Hp} {W' : Wm} {H' : Hp} (s : Stp F W H F' W' H') {a : Addr} (h : H' a = none) : H a = none := by
  cases q : H a with
  | none => rfl
  | some o =>
    obtain ⟨o', e⟩ := s.hd a o q
    rw [h] at e
    cases e
theorem Stp.trans {F F1 F2 : Hp} {W W1 W2 : Wm} {H H1 H2 : Hp} (a : Stp F W H F1 W1 H1) (b : Stp F1 W1 H1 F2 W2 H2) : Stp F W H F2 W2 H2 where
  fx := a.fx.trans b.fx
  fn := fun x o h => by
    rcases b.fn x o h with h | h
    · exact a.fn x o h
    · exact .inr (a.back h)
  wx := fun x l h => b.wx x l (a.wx x l h)
  wn := fun x l h => by
    rcases b.wn x l h with h | h
    · exact a.wn x l h
    · exact .inr (a.back h)
  hx := fun x o h n => b.hx x o (a.hx x o h n) (by
    cases q : W1 x with
    | none => rfl
    | some l =>
      rcases a.wn x l q with z | z
      · rw [n] at z; cases z
      · rw [h] at z; cases z)
  hd := fun x o h => by
    obtain ⟨o1, e1⟩ := a.hd x o h
    exact b.hd x o1 e1
/-- what was owned by the labels W stays so: F grows, the objects at W's labels stand as before -/
theorem OwnT.keep {K : KF} {F F' H H' : Hp} {W W' : Wm} (e : Same F F') (hw : ∀ a l, W a = some l → W' a = some l) (hh : ∀ a l o, W a = some l → H a = some o → H' a = some o) : ∀ {t : Ow} {lab : Lab} {v : V} {d : D}, OwnT K F H W t lab v d → OwnT K F' H' W' t lab v d
  | .sh, _, _, d, h => Rep.mono e d h
  | .l t, lab, v, d, h => by
    obtain ⟨o, vs, ds, e1, e2, w, ho, z, ln, r⟩ := h
    exact ⟨o, vs, ds, e1, e2, hw _ _ w, hh _ _ _ w ho, z, ln, fun j v' d' a b => OwnT.keep e hw hh (r j v' d' a b)⟩
  | .d t, lab, v, d, h => by
    obtain ⟨o, vs, ks, ds, e1, e2, w, ho, ln, r⟩ := h
    refine ⟨o, vs, ks, ds, e1, e2, hw _ _ w, ?_, ln, fun j v' d' a b => OwnT.keep e hw hh (r j v' d' a b)⟩
    rcases ho with ⟨kvs, ho, q⟩ | ⟨kvs, ho, q⟩
    · exact .inl ⟨kvs, hh _ _ _ w ho, q⟩
    · exact .inr ⟨kvs, hh _ _ _ w ho, q⟩
  | .o, lab, v, d, h => by
    obtain ⟨x, C, dx, fs, c, ns, ds, e1, e2, w, ho, k, n, z, r⟩ := h
    exact ⟨x, C, dx, fs, c, ns, ds, e1, e2, hw _ _ w, hh _ _ _ w ho, k, n, z, r.mono e _⟩
/-- .. at labels with a head i alone -/
theorem OwnT.keepAt {K : KF} {F F' H H' : Hp} {W W' : Wm} {p : Lab} (e : Same F F') (hw : ∀ a q, W a = some (p ++ q) → W' a = some (p ++ q)) (hh : ∀ a q o, W a = some (p ++ q) → H a = some o → H' a = some o) : ∀ {t : Ow} {q : Lab} {v : V} {d : D}, OwnT K F H W t (p ++ q) v d → OwnT K F' H' W' t (p ++ q) v d
  | .sh, _, _, d, h => Rep.mono e d h
  | .l t, q, v, d, h => by
    obtain ⟨o, vs, ds, e1, e2, w, ho, z, ln, r⟩ := h
    refine ⟨o, vs, ds, e1, e2, hw _ _ w, hh _ _ _ w ho, z, ln, fun j v' d' a b => ?_⟩
    have h1 := r j v' d' a b
    rw [List.append_assoc] at h1 ⊢
    exact OwnT.keepAt e hw hh h1
  | .d t, q, v, d, h => by
    obtain ⟨o, vs, ks, ds, e1, e2, w, ho, ln, r⟩ := h
    refine ⟨o, vs, ks, ds, e1, e2, hw _ _ w, ?_, ln, fun j v' d' a b => ?_⟩
    · rcases ho with ⟨kvs, ho, q⟩ | ⟨kvs, ho, q⟩
      · exact .inl ⟨kvs, hh _ _ _ w ho, q⟩
      · exact .inr ⟨kvs, hh _ _ _ w ho, q⟩
    · have h1 := r j v' d' a b
      rw [List.append_assoc] at h1 ⊢
      exact OwnT.keepAt e hw hh h1
  | .o, q, v, d, h => by
    obtain ⟨x, C, dx, fs, c, ns, ds, e1, e2, w, ho, k, n, z, r⟩ := h
    exact ⟨x, C, dx, fs, c, ns, ds, e1, e2, hw _ _ w, hh _ _ _ w ho, k, n, z, r.mono e _⟩
/-- labels told anew -/
theorem OwnT.relab {K : KF} {F H : Hp} {W W' : Wm} {p p' : Lab} (hw : ∀ a q, W a = some (p ++ q) → W' a = some (p' ++ q)) : ∀ {t : Ow} {q : Lab} {v : V} {d : D}, OwnT K F H W t (p ++ q) v d → OwnT K F H W' t (p' ++ q) v d
  | .sh, _, _, d, h => h
  | .l t, q, v, d, h => by
    obtain ⟨o, vs, ds, e1, e2, w, ho, z, ln, r⟩ := h
    refine ⟨o, vs, ds, e1, e2, hw _ _ w, ho, z, ln, fun j v' d' a b => ?_⟩
    have h1 := r j v' d' a b
    rw [List.append_assoc] at h1 ⊢
    exact OwnT.relab hw h1
  | .d t, q, v, d, h => by
    obtain ⟨o, vs, ks, ds, e1, e2, w, ho, ln, r⟩ := h
    refine ⟨o, vs, ks, ds, e1, e2, hw _ _ w, ho, ln, fun j v' d' a b => ?_⟩
    have h1 := r j v' d' a b
    rw [List.append_assoc] at h1 ⊢
    exact OwnT.relab hw h1
  | .o, q, v, d, h => by
    obtain ⟨x, C, dx, fs, c, ns, ds, e1, e2, w, r⟩ := h
    exact ⟨x, C, dx, fs, c, ns, ds, e1, e2, hw _ _ w, r⟩
theorem repL_of {K : KF} {F : Hp} : ∀ {vs : List V} {ds : List D}, vs.length = ds.length → (∀ (j : Nat) v' d', vs[j]? = some v' → ds[j]? = some d' → Rep K F v' d') → RepL K F vs ds
  | [], [], _, _ => .nil
  | [], _ :: _, e, _ => by simp at e
  | _ :: _, [], e, _ => by simp at e
  | v :: vs, d :: ds, e, h => .cons (h 0 v d rfl rfl) (repL_of (by simpa using e) fun j v' d' a b => h (j + 1) v' d' (by simpa using a) (by simpa using b))
/-- what is owned, seen as shared: in any heap that has what is owned -/
theorem OwnT.rep {K : KF} {F H G : Hp} {W : Wm} {p : Lab} (e : Same F G) (hh : ∀ a q o, W a = some (p ++ q) → H a = some o → immO o = false → G a = some o) : ∀ {t : Ow} {q : Lab} {v : V} {d : D}, noO t = true → OwnT K F H W t (p ++ q) v d → Rep K G v d
  | .sh, _, _, d, _, h => Rep.mono e d h
  | .l t, q, v, d, n, h => by
    obtain ⟨o, vs, ds, rfl, rfl, w, ho, z, ln, r⟩ := h
    refine .lst (hh _ _ _ w ho rfl) z (repL_of ln fun j v' d' a b => ?_)
    have h1 := r j v' d' a b
    rw [List.append_assoc] at h1
    exact OwnT.rep e hh (show noO t = true from n) h1
  | .d t, q, v, d, n, h => by
    obtain ⟨o, vs, ks, ds, rfl, rfl, w, ho, ln, r⟩ := h
    have r' : RepL K G vs ds := repL_of ln fun j v' d' a b => by
      have h1 := r j v' d' a b
      rw [List.append_assoc] at h1
      exact OwnT.rep e hh (show noO t = true from n) h1
    rcases ho with ⟨kvs, ho, k1, k2⟩ | ⟨kvs, ho, k1, k2⟩
    · subst k2; exact .dk (.inl (hh _ _ _ w ho rfl)) k1 r'
    · subst k2; exact .dt (hh _ _ _ w ho rfl) k1 r'
  | .o, q, v, d, n, h => by cases (show false = true from n)
/-- .. an instance too -/
theorem OwnT.repO {K : KF} {F H G : Hp} {W : Wm} {p : Lab} (e : Same F G) (hh : ∀ a q o, W a = some (p ++ q) → H a = some o → G a = some o) : ∀ {t : Ow} {q : Lab} {v : V} {d : D}, OwnT K F H W t (p ++ q) v d → Rep K G v d
  | .sh, _, _, d, h => Rep.mono e d h
  | .l t, q, v, d, h => by
    obtain ⟨o, vs, ds, rfl, rfl, w, ho, z, ln, r⟩ := h
    refine .lst (hh _ _ _ w ho) z (repL_of ln fun j v' d' a b => ?_)
    have h1 := r j v' d' a b
    rw [List.append_assoc] at h1
    exact OwnT.repO e hh h1
  | .d t, q, v, d, h => by
    obtain ⟨o, vs, ks, ds, rfl, rfl, w, ho, ln, r⟩ := h
    have r' : RepL K G vs ds := repL_of ln fun j v' d' a b => by
      have h1 := r j v' d' a b
      rw [List.append_assoc] at h1
      exact OwnT.repO e hh h1
    rcases ho with ⟨kvs, ho, k1, k2⟩ | ⟨kvs, ho, k1, k2⟩
    · subst k2; exact .dk (.inl (hh _ _ _ w ho)) k1 r'
    · subst k2; exact .dt (hh _ _ _ w ho) k1 r'
  | .o, q, v, d, h => by
    obtain ⟨x, C, dx, fs, c, ns, ds, rfl, rfl, w, ho, k, n, z, r⟩ := h
    exact .ins (hh _ _ _ w ho) k n (r.mono e _)
end Dl

namespace Dl
open PySem PySem.Spec PyProof.Rows L2
/-! ### what a piece of the program gives -/
structure Xn where
  c : Str
  ns : List Str
  vs : List D
abbrev Ent := Ow × D
abbrev Nv := List (Option Ent)
inductive Rs (α : Type) where
  | ok (a : α) (E : Nv) | er (x : Xn) (E : Nv) | stk
abbrev M (α : Type) := Nv → Rs α
def ret {α : Type} (a : α) : M α := fun E => .ok a E
def stuck {α : Type} : M α := fun _ => .stk
def bnd {α β : Type} (m : M α) (k : α → M β) : M β := fun E => match m E with
  | .ok a E' => k a E'
  | .er x E' => .er x E'
  | .stk => .stk
def ofO {α : Type} : Option α → M α
  | some a => ret a
  | none => stuck
/-- a shared local -/
def rd (i : Nat) : M D := fun E => match E[i]? with
  | some (some (.sh, d)) => .ok d E
  | _ => .stk
def XRep (K : KF) (F H : Hp) (x : Xn) (cls : Value) (dx : Option Addr) : Prop :=
  cls = .ref (He.ga K x.c) ∧ ((x.ns = [] ∧ x.vs = []) ∨ ∃ a fs, dx = some a ∧ H a = some (.xd fs) ∧ fs.map (·.1) = x.ns ∧ RepL K F (fs.map (·.2)) x.vs)
/-- the base of a body: the pinned slots, the heaps at its entry -/
structure Bs where
  pn : Nat → Option V
  F0 : Hp
  W0 : Wm
  H0 : Hp
structure St (K : KF) (ios : List Nat) (B : Bs) (F : Hp) (W : Wm) (E : Nv) (σ : L2.St) (H : Hp) : Prop where
  fh : Same F H
  st : Stp B.F0 B.W0 B.H0 F W H
  nz : NoFz H
  ow : ∀ a l, W a = some l → F a = none ∧ ∃ o, H a = some o
  fr : ∀ a l, W a = some l → ∃ i p, l = i :: p ∧ (i ∈ ios ∨ B.H0 a = none)
  w0 : ∀ a l, B.W0 a = some l → ∃ i p, l = i :: p ∧ i ∈ ios
  vr : ∀ i t d, E[i]? = some (some (t, d)) → ∃ v, σ[i]? = some (some v) ∧ OwnT K F H W t [i] v d
  pn : ∀ i v, B.pn i = some v → i ∈ ios ∧ σ[i]? = some (some v)
  ln : E.length = σ.length
/-- new objects alone -/
structure Gr (F H F' H' : Hp) : Prop where
  fx : Same F F'
  hx : Same H H'
  fh : Same F' H'
  nz : NoFz H → NoFz H'
  fn : ∀ a o, F' a = some o → F a = some o ∨ H a = none
theorem Gr.refl {F H : Hp} (fh : Same F H) : Gr F H F H := ⟨Same.refl F, Same.refl H, fh, fun z => z, fun _ _ h => .inl h⟩
theorem same_new {H : Hp} {p : Addr} {o : HO} (h : H p = none) : Same H (upd H p o) := fun b x e => by
  rw [upd_ne (ne_of_none e h)]
  exact e
theorem Gr.new {F H : Hp} {p : Addr} {o : HO} (fh : Same F H) (hp : H p = none) (ho : ∀ ob u, o ≠ .frz ob u) : Gr F H (upd F p o) (upd H p o) where
  fx := same_new (fh.free hp)
  hx := same_new hp
  fh := fun b x e => by
    by_cases hb : b = p
    · subst hb; rw [upd_same] at e ⊢; exact e
    · rw [upd_ne hb] at e ⊢; exact fh _ _ e
  nz := fun z a ob u e => by
    by_cases hb : a = p
    · subst hb; rw [upd_same] at e; exact absurd (Option.some.inj e) (ho _ _)
    · rw [upd_ne hb] at e; exact z _ _ _ e
  fn := fun a x e => by
    by_cases hb : a = p
    · subst hb; exact .inr hp
    · rw [upd_ne hb] at e; exact .inl e
theorem Gr.trans {F H F1 H1 F2 H2 : Hp} (a : Gr F H F1 H1) (b : Gr F1 H1 F2 H2) : Gr F H F2 H2 :=
  ⟨a.fx.trans b.fx, a.hx.trans b.hx, b.fh, fun z => b.nz (a.nz z), fun x o h => by
    rcases b.fn x o h with h | h
    · exact a.fn x o h
    · exact .inr (a.hx.free h)⟩
theorem Gr.stp {F H F' H' : Hp} (g : Gr F H F' H') (W : Wm) : Stp F W H F' W H' :=
  ⟨g.fx, g.fn, fun _ _ h => h, fun _ _ h => .inl h, fun a o h _ => g.hx a o h, fun a o h => ⟨o, g.hx a o h⟩⟩
section
variable {K : KF} {ios : List Nat} {B : Bs} {F F' : Hp} {W W' : Wm} {E : Nv} {σ : L2.St} {H H' : Hp}
/-- what is not frozen is not frozen later -/
theorem Stp.nf (s : Stp F W H F' W' H') {a : Addr} {o : HO} (h1 : F a = none) (h2 : H a = some o) : F' a = none := by
  cases q : F' a with
  | none => rfl
  | some u =>
    rcases s.fn a u q with z | z
    · rw [h1] at z; cases z
    · rw [h2] at z; cases z
theorem St.grow (S : St K ios B F W E σ H) (g : Gr F H F' H') : St K ios B F' W E σ H' where
  fh := g.fh
  st := S.st.trans (g.stp W)
  nz := g.nz S.nz
  ow := fun a l h => by
    obtain ⟨h1, o, h2⟩ := S.ow a l h
    exact ⟨(g.stp W).nf h1 h2, o, g.hx a o h2⟩
  fr := S.fr
  w0 := S.w0
  vr := fun i t d h => by
    obtain ⟨v, h1, h2⟩ := S.vr i t d h
    exact ⟨v, h1, h2.keep g.fx (fun _ _ q => q) fun a l o _ q => g.hx a o q⟩
  pn := S.pn
  ln := S.ln
/-- what is wanted behind a piece -/
def Pst (K : KF) (ios : List Nat) (B : Bs) (Wx : WX) (σ : L2.St) {α β : Type} (R : Hp → β → α → Prop) (F : Hp) (W : Wm) (H : Hp) (r : Rs α) (Q : β → Hp → Prop) : Prop :=
  match r with
  | .ok a E' => ∀ F' W' H' b, St K ios B F' W' E' σ H' → Stp F W H F' W' H' → R F' b a → Q b H'
  | .er x E' => ∀ F' W' H' c dx, St K ios B F' W' E' σ H' → Stp F W H F' W' H' → XRep K F' H' x c dx → Wx c dx σ H'
  | .stk => False
variable {Wx : WX} {α β γ δ : Type} {R : Hp → β → α → Prop} {R' : Hp → δ → γ → Prop} {Q : β → Hp → Prop} {Q' : δ → Hp → Prop}
theorem Pst.from {F1 : Hp} {W1 : Wm} {H1 : Hp} {r : Rs α} (s : Stp F W H F1 W1 H1) (h : Pst K ios B Wx σ R F W H r Q) : Pst K ios B Wx σ R F1 W1 H1 r Q := by
  cases r with
  | ok a E' => exact fun F' W' H' b S t rr => h F' W' H' b S (s.trans t) rr
  | er x E' => exact fun F' W' H' c dx S t rr => h F' W' H' c dx S (s.trans t) rr
  | stk => exact h
theorem Pst.seq {m : M α} {k : α → M γ} (h : Pst K ios B Wx σ R' F W H (bnd m k E) Q')
    (g : ∀ F' W' H' b a E', St K ios B F' W' E' σ H' → Stp F W H F' W' H' → R F' b a → Pst K ios B Wx σ R' F' W' H' (k a E') Q' → Q b H') : Pst K ios B Wx σ R F W H (m E) Q := by
  unfold bnd at h
  cases q : m E with
  | ok a E' =>
    rw [q] at h
    exact fun F' W' H' b S t rr => g F' W' H' b a E' S t rr (Pst.from t h)
  | er x E' =>
    rw [q] at h
    exact h
  | stk =>
    rw [q] at h
    exact h.elim
/-- the end of a piece that gives a value -/
theorem Pst.done {a : α} {b : β} (h : Pst K ios B Wx σ R F W H (ret a E) Q) (S : St K ios B F W E σ H) (r : R F b a) : Q b H := h F W H b S (Stp.refl F W H) r
theorem Pst.grown {a : α} {b : β} (h : Pst K ios B Wx σ R F W H (ret a E) Q) (S : St K ios B F W E σ H) (g : Gr F H F' H') (r : R F' b a) : Q b H' := h F' W H' b (S.grow g) (g.stp W) r
theorem Pst.some {o : Option α} (h : Pst K ios B Wx σ R F W H (ofO o E) Q) : ∃ a, o = Option.some a ∧ Pst K ios B Wx σ R F W H (ret a E) Q := by
  cases o with
  | none => exact h.elim
  | some a => exact ⟨a, rfl, h⟩
end
/-! ### the judgements -/
/-- an expression gives a datum -/
structure PP (X : Cx) (ios : List Nat) (Wx : WX) (e : Expr) (f : M D) : Prop where
  ex : ∃ t : TE, PE X e t ∧ ∀ B F W E σ H Q, St X.K ios B F W E σ H → Pst X.K ios B Wx σ (Rep X.K) F W H (f E) Q → t σ H Q
/-- a test -/
structure PB (X : Cx) (ios : List Nat) (Wx : WX) (e : Expr) (f : M Bool) : Prop where
  ex : ∃ t : TT, PT X e t ∧ ∀ B F W E σ H Q, St X.K ios B F W E σ H → Pst X.K ios B Wx σ (fun _ (b : Bool) a => b = a) F W H (f E) Q → t σ H Q
structure PBW (X : Cx) (ios : List Nat) (Wx : WX) (e : Expr) (f : M Bool) : Prop where
  ex : ∃ t : TT, PW X e t ∧ ∀ B F W E σ H Q, St X.K ios B F W E σ H → Pst X.K ios B Wx σ (fun _ (b : Bool) a => b = a) F W H (f E) Q → t σ H Q
/-- arguments -/
structure PL (X : Cx) (ios : List Nat) (Wx : WX) (es : List Expr) (f : M (List D)) : Prop where
  ex : ∃ t : TA, PA X es t ∧ ∀ B F W E σ H Q, St X.K ios B F W E σ H → Pst X.K ios B Wx σ (RepL X.K) F W H (f E) Q → t σ H Q
section
variable {X : Cx} {ios : List Nat} {Wx : WX} {a b c e : Expr} {es : List Expr} {fa fb fc : M D} {pos : Pos}
theorem pp_var (i : Nat) {x : Str} (hN : X.N[i]? = some x := by rfl) (hv : Vis X.env.scope x := by first | exact Or.inl rfl | exact Or.inr (Or.inl rfl) | exact Or.inr (Or.inr rfl)) (hd : (x == ("__debug__" : Str)) = false := by decide)
    (hcd : (x == ("__classdict__" : Str)) = false := by decide) : PP X ios Wx (.Name x pos) (rd i) := by
  refine ⟨_, pe_var hN hv hd hcd, fun B F W E σ H Q S h => ?_⟩
  unfold rd at h
  cases q : E[i]? with
  | none => rw [q] at h; exact h.elim
  | some o =>
    rw [q] at h
    cases o with
    | none => exact h.elim
    | some p =>
      obtain ⟨t, d⟩ := p
      obtain ⟨v, h1, h2⟩ := S.vr i t d q
      cases t with
      | sh => exact ⟨v, h1, h F W H v S (Stp.refl F W H) h2⟩
      | l t => exact h.elim
      | d t => exact h.elim
      | o => exact h.elim
theorem pp_c {v : V} {d : D} (h : PE X e (tC v)) (r : ∀ F : Hp, Rep X.K F v d) : PP X ios Wx e (ret d) := ⟨_, h, fun B F W E σ H Q S k => k.done S (r F)⟩
theorem pp_int {i j} : PP X ios Wx (.Constant (.int i) j pos) (ret (.int i)) := pp_c pe_int fun _ => .int i
theorem pp_bl {b j} : PP X ios Wx (.Constant (.bool b) j pos) (ret (.bl b)) := pp_c pe_bl fun _ => .bl b
theorem pp_non {j} : PP X ios Wx (.Constant .none j pos) (ret .non) := pp_c pe_non fun _ => .non
theorem pp_str {x j} : PP X ios Wx (.Constant (.str x) j pos) (ret (.str x)) := pp_c pe_str fun _ => .str x
theorem pp_glob {x : Str} {v : V} {u : Value} {d : D} (hg : Gl X x) (hm : X.mg x = some u) (r : RelV v u) (rep : ∀ F : Hp, Rep X.K F v d) (hd : (x == ("__debug__" : Str)) = false := by decide) : PP X ios Wx (.Name x pos) (ret d) := pp_c (pe_glob hg hm r hd) rep
/-! ### operators -/
/-- what an operator on values gives of data -/
def OpD (K : KF) (r : R2) (g : D → D → Option D) : Prop := ∀ (F H : Hp) (x y : V) (d e z : D) (Q : VK), Same F H → Rep K F x d → Rep K F y e → g d e = some z → (∀ F' H' v, Gr F H F' H' → Rep K F' v z → Q v H') → r x y H Q
theorem OpD.or {K : KF} {r r' : R2} {g g' : D → D → Option D} (h : OpD K r g) (h' : OpD K r' g') : OpD K (fun x y H Q => r x y H Q ∨ r' x y H Q) (fun d e => (g d e).or (g' d e)) := by
  intro F H x y d e z Q fh rx ry hz q
  cases q1 : g d e with
  | some z' =>
    have ez : z' = z := by
      have hz' : ((g d e).or (g' d e)) = some z := hz
      rw [q1] at hz'
      exact Option.some.inj hz'
    subst ez
    exact .inl (h F H x y d e _ Q fh rx ry q1 q)
  | none =>
    have hz' : ((g d e).or (g' d e)) = some z := hz
    rw [q1] at hz'
    exact .inr (h' F H x y d e _ Q fh rx ry hz' q)
theorem pp_op {op : Operator} {r : R2} {g : D → D → Option D} (ho : OpR X (binaryOp op) r) (hd : OpD X.K r g) (ha : PP X ios Wx a fa) (hb : PP X ios Wx b fb) : PP X ios Wx (.BinOp a op b pos) (bnd fa fun x => bnd fb fun y => ofO (g x y)) := by
  obtain ⟨ta, pa, ra⟩ := ha.ex
  obtain ⟨tb, pb, rb⟩ := hb.ex
  refine ⟨_, pe_op ho pa pb, fun B F W E σ H Q S h => ?_⟩
  refine ra B F W E σ H _ S (Pst.seq h fun F1 W1 H1 x d E1 S1 s1 r1 h1 => ?_)
  refine rb B F1 W1 E1 σ H1 _ S1 (Pst.seq h1 fun F2 W2 H2 y e E2 S2 s2 r2 h2 => ?_)
  obtain ⟨z, ez, h3⟩ := h2.some
  exact hd F2 H2 x y d e z Q S2.fh (r1.mono s2.fx d) r2 ez fun F' H' v g rr => h3.grown S2 g rr
theorem pp_cmp {op : CmpOp} {r : R2} {g : D → D → Option D} (ho : OpR X (compareOp op) r) (hd : OpD X.K r g) (ha : PP X ios Wx a fa) (hb : PP X ios Wx b fb) (hm : behindInMarks op b = false) : PP X ios Wx (.Compare a [op] [b] pos) (bnd fa fun x => bnd fb fun y => ofO (g x y)) := by
  obtain ⟨ta, pa, ra⟩ := ha.ex
  obtain ⟨tb, pb, rb⟩ := hb.ex
  refine ⟨_, pe_cmpR ho pa pb hm, fun B F W E σ H Q S h => ?_⟩
  refine ra B F W E σ H _ S (Pst.seq h fun F1 W1 H1 x d E1 S1 s1 r1 h1 => ?_)
  refine rb B F1 W1 E1 σ H1 _ S1 (Pst.seq h1 fun F2 W2 H2 y e E2 S2 s2 r2 h2 => ?_)
  obtain ⟨z, ez, h3⟩ := h2.some
  exact hd F2 H2 x y d e z Q S2.fh (r1.mono s2.fx d) r2 ez fun F' H' v g rr => h3.grown S2 g rr
def toB : D → Option Bool
  | .bl b => some b
  | _ => none
theorem pb_cmp {op : CmpOp} {r : R2} {g : D → D → Option D} (ho : OpR X (compareOp op) r) (hd : OpD X.K r g) (ha : PP X ios Wx a fa) (hb : PP X ios Wx b fb) (hm : behindInMarks op b = false) : PB X ios Wx (.Compare a [op] [b] pos) (bnd fa fun x => bnd fb fun y => ofO ((g x y).bind toB)) := by
  obtain ⟨ta, pa, ra⟩ := ha.ex
  obtain ⟨tb, pb, rb⟩ := hb.ex
  refine ⟨_, pt_cmpR ho pa pb hm, fun B F W E σ H Q S h => ?_⟩
  refine ra B F W E σ H _ S (Pst.seq h fun F1 W1 H1 x d E1 S1 s1 r1 h1 => ?_)
  refine rb B F1 W1 E1 σ H1 _ S1 (Pst.seq h1 fun F2 W2 H2 y e E2 S2 s2 r2 h2 => ?_)
  obtain ⟨z, ez, h3⟩ := h2.some
  cases q : g d e with
  | none => rw [q] at ez; cases ez
  | some z' =>
    rw [q] at ez
    cases z' with
    | bl k =>
      cases ez
      refine hd F2 H2 x y d e _ _ S2.fh (r1.mono s2.fx d) r2 q fun F' H' v g rr => ?_
      cases rr
      exact ⟨_, rfl, h3.grown S2 g rfl⟩
    | _ => cases ez
/-- a < b < c -/
theorem pp_chain {op op' : CmpOp} {r r' : R2} {g g' : D → D → Option D} (ho : OpR X (compareOp op) r) (hd : OpD X.K r g) (ho' : OpR X (compareOp op') r') (hd' : OpD X.K r' g') (ha : PP X ios Wx a fa) (hb : PP X ios Wx b fb) (hc : PP X ios Wx c fc)
    (hm : lastMarks [op, op'] [b, c] = false := by with_unfolding_all rfl) :
    PP X ios Wx (.Compare a [op, op'] [b, c] pos) (bnd fa fun x => bnd fb fun y => bnd (ofO ((g x y).bind toB)) fun k => if k = true then bnd fc fun z => ofO (g' y z) else ret (.bl false)) := by
  obtain ⟨ta, pa, ra⟩ := ha.ex
  obtain ⟨tb, pb, rb⟩ := hb.ex
  obtain ⟨tc, pc, rc⟩ := hc.ex
  refine ⟨_, pe_chain ho ho' pa pb pc hm, fun B F W E σ H Q S h => ?_⟩
  refine ra B F W E σ H _ S (Pst.seq h fun F1 W1 H1 x d E1 S1 s1 r1 h1 => ?_)
  refine rb B F1 W1 E1 σ H1 _ S1 (Pst.seq h1 fun F2 W2 H2 y e E2 S2 s2 r2 h2 => ?_)
  cases q : g d e with
  | none => rw [q] at h2; exact h2.elim
  | some z' =>
    rw [q] at h2
    cases z' with
    | bl k =>
      refine hd F2 H2 x y d e _ _ S2.fh (r1.mono s2.fx d) r2 q fun F3 H3 v g3 rr => ?_
      cases rr
      refine ⟨_, rfl, ?_⟩
      have S3 := S2.grow g3
      have h3 := Pst.from (g3.stp W2) h2
      cases k with
      | false => exact h3.done S3 (.bl false)
      | true =>
        refine rc B F3 W2 E2 σ H3 _ S3 (Pst.seq h3 fun F4 W4 H4 w f E4 S4 s4 r4 h4 => ?_)
        obtain ⟨u, eu, h5⟩ := h4.some
        exact hd' F4 H4 y w e f u Q S4.fh (r2.mono (g3.fx.trans s4.fx) e) r4 eu fun F' H' v g rr => h5.grown S4 g rr
    | _ => exact h2.elim
theorem pb_chain {op op' : CmpOp} {r r' : R2} {g g' : D → D → Option D} (ho : OpR X (compareOp op) r) (hd : OpD X.K r g) (ho' : OpR X (compareOp op') r') (hd' : OpD X.K r' g') (ha : PP X ios Wx a fa) (hb : PP X ios Wx b fb) (hc : PP X ios Wx c fc)
    (hm : lastMarks [op, op'] [b, c] = false := by with_unfolding_all rfl) :
    PB X ios Wx (.Compare a [op, op'] [b, c] pos) (bnd fa fun x => bnd fb fun y => bnd (ofO ((g x y).bind toB)) fun k => if k = true then bnd fc fun z => ofO ((g' y z).bind toB) else ret false) := by
  obtain ⟨ta, pa, ra⟩ := ha.ex
  obtain ⟨tb, pb, rb⟩ := hb.ex
  obtain ⟨tc, pc, rc⟩ := hc.ex
  refine ⟨_, pt_chain ho ho' pa pb pc hm, fun B F W E σ H Q S h => ?_⟩
  refine ra B F W E σ H _ S (Pst.seq h fun F1 W1 H1 x d E1 S1 s1 r1 h1 => ?_)
  refine rb B F1 W1 E1 σ H1 _ S1 (Pst.seq h1 fun F2 W2 H2 y e E2 S2 s2 r2 h2 => ?_)
  cases q : g d e with
  | none => rw [q] at h2; exact h2.elim
  | some z' =>
    rw [q] at h2
    cases z' with
    | bl k =>
      refine hd F2 H2 x y d e _ _ S2.fh (r1.mono s2.fx d) r2 q fun F3 H3 v g3 rr => ?_
      cases rr
      refine ⟨_, rfl, ?_⟩
      have S3 := S2.grow g3
      have h3 := Pst.from (g3.stp W2) h2
      cases k with
      | false => exact ⟨_, rfl, h3.done S3 rfl⟩
      | true =>
        refine rc B F3 W2 E2 σ H3 _ S3 (Pst.seq h3 fun F4 W4 H4 w f E4 S4 s4 r4 h4 => ?_)
        obtain ⟨u, eu, h5⟩ := h4.some
        cases q2 : g' e f with
        | none => rw [q2] at eu; cases eu
        | some z2 =>
          rw [q2] at eu
          cases z2 with
          | bl k2 =>
            cases eu
            refine hd' F4 H4 y w e f _ _ S4.fh (r2.mono (g3.fx.trans s4.fx) e) r4 q2 fun F' H' v g rr => ?_
            cases rr
            exact ⟨_, rfl, h5.grown S4 g rfl⟩
          | _ => cases eu
    | _ => exact h2.elim
/-! ### one-place operators -/
def UnD (K : KF) (r : V → Hp → VK → Prop) (g : D → Option D) : Prop := ∀ (F H : Hp) (x : V) (d z : D) (Q : VK), Same F H → Rep K F x d → g d = some z → (∀ F' H' v, Gr F H F' H' → Rep K F' v z → Q v H') → r x H Q
theorem pp_un {op : UnaryOp} {r : V → Hp → VK → Prop} {g : D → Option D} (ho : UnR X (unaryOp op) r) (hd : UnD X.K r g) (ha : PP X ios Wx a fa) : PP X ios Wx (.UnaryOp op a pos) (bnd fa fun x => ofO (g x)) := by
  obtain ⟨ta, pa, ra⟩ := ha.ex
  refine ⟨_, pe_un ho pa, fun B F W E σ H Q S h => ?_⟩
  refine ra B F W E σ H _ S (Pst.seq h fun F1 W1 H1 x d E1 S1 s1 r1 h1 => ?_)
  obtain ⟨z, ez, h3⟩ := h1.some
  exact hd F1 H1 x d z Q S1.fh r1 ez fun F' H' v g rr => h3.grown S1 g rr
/-! ### arguments, displays -/
theorem pl_nil : PL X ios Wx [] (ret []) := ⟨_, pa_nil, fun B F W E σ H Q S h => h.done S .nil⟩
theorem pl_cons {fs : M (List D)} (ha : PP X ios Wx a fa) (hr : PL X ios Wx es fs) (hs : starEach (a :: es) X.env = (false, eval a X.env) :: starEach es X.env := by rfl) : PL X ios Wx (a :: es) (bnd fa fun x => bnd fs fun xs => ret (x :: xs)) := by
  obtain ⟨ta, pa, ra⟩ := ha.ex
  obtain ⟨tr, pr, rr⟩ := hr.ex
  refine ⟨_, pa_cons pa pr hs, fun B F W E σ H Q S h => ?_⟩
  refine ra B F W E σ H _ S (Pst.seq h fun F1 W1 H1 x d E1 S1 s1 r1 h1 => ?_)
  refine rr B F1 W1 E1 σ H1 _ S1 (Pst.seq h1 fun F2 W2 H2 y e E2 S2 s2 r2 h2 => ?_)
  exact h2.done S2 (.cons (r1.mono s2.fx d) r2)
def small (n : Nat) : Bool := decide (n ≤ sizeLine)
theorem pp_tup {k : Nat} {fs : M (List D)} (h : PL X ios Wx es fs) : PP X ios Wx (.Tuple es k pos) (bnd fs fun xs => if small xs.length = true then ret (.tup xs) else stuck) := by
  obtain ⟨t, p, r⟩ := h.ex
  refine ⟨_, pe_tup p, fun B F W E σ H Q S h => ?_⟩
  refine r B F W E σ H _ S (Pst.seq h fun F1 W1 H1 x d E1 S1 s1 r1 h1 => ?_)
  by_cases hz : small d.length = true
  · rw [if_pos hz] at h1
    have hz' : d.length ≤ sizeLine := of_decide_eq_true hz
    refine ⟨by rw [r1.length]; exact hz', fun p hp => ?_⟩
    have g : Gr F1 H1 (upd F1 p (.tup x)) (upd H1 p (.tup x)) := Gr.new S1.fh hp fun _ _ z => by cases z
    exact h1.grown S1 g (.tup (SqT.of upd_same) hz' (r1.mono g.fx d))
  · rw [if_neg hz] at h1; exact h1.elim
theorem pp_lst {fs : M (List D)} (h : PL X ios Wx es fs) : PP X ios Wx (.List es pos) (bnd fs fun xs => if small xs.length = true then ret (.lst xs) else stuck) := by
  obtain ⟨t, p, r⟩ := h.ex
  refine ⟨_, pe_lst p, fun B F W E σ H Q S h => ?_⟩
  refine r B F W E σ H _ S (Pst.seq h fun F1 W1 H1 x d E1 S1 s1 r1 h1 => ?_)
  by_cases hz : small d.length = true
  · rw [if_pos hz] at h1
    have hz' : d.length ≤ sizeLine := of_decide_eq_true hz
    refine ⟨by rw [r1.length]; exact hz', fun p hp => ?_⟩
    have g : Gr F1 H1 (upd F1 p (.lst x)) (upd H1 p (.lst x)) := Gr.new S1.fh hp fun _ _ z => by cases z
    exact h1.grown S1 g (.lst upd_same hz' (r1.mono g.fx d))
  · rw [if_neg hz] at h1; exact h1.elim
end
end Dl

namespace Dl
open PySem PySem.Spec PyProof.Rows L2
/-! ### a look at what is owned -/
def shr1 : Option Ent → Option Ent
  | some (t, d) => if noO t = true then some (.sh, d) else none
  | none => none
def shr (E : Nv) : Nv := E.map shr1
theorem shr_get {E : Nv} {i : Nat} {t : Ow} {d : D} (h : (shr E)[i]? = some (some (t, d))) : t = .sh ∧ ∃ t0, noO t0 = true ∧ E[i]? = some (some (t0, d)) := by
  unfold shr at h
  rw [List.getElem?_map] at h
  cases q : E[i]? with
  | none => rw [q] at h; cases h
  | some o =>
    rw [q] at h
    cases o with
    | none =>
      have h' : (some none : Option (Option Ent)) = some (some (t, d)) := h
      cases h'
    | some p =>
      obtain ⟨t0, d0⟩ := p
      have h' : (some (if noO t0 = true then some (Ow.sh, d0) else none) : Option (Option Ent)) = some (some (t, d)) := h
      by_cases c : noO t0 = true
      · rw [if_pos c] at h'
        cases h'
        exact ⟨rfl, t0, c, rfl⟩
      · rw [if_neg c] at h'
        cases h'
theorem shr_len (E : Nv) : (shr E).length = E.length := by unfold shr; rw [List.length_map]
def noW : Wm := fun _ => none
/-- F and the own lists and dicts -/
def vis (F : Hp) (W : Wm) (H : Hp) : Hp := fun a => match W a with
  | some _ => (match H a with
    | some o => if immO o = true then none else some o
    | none => none)
  | none => F a
/-- F and what never changes of what is new in F' -/
def gl (F H F' : Hp) : Hp := fun a => match F a with
  | some o => some o
  | none => match H a with
    | some _ => none
    | none => match F' a with
      | some o => if immO o = true then some o else none
      | none => none
theorem vis_of {F : Hp} {W : Wm} {H : Hp} {a : Addr} {o : HO} (h : vis F W H a = some o) : (W a = none ∧ F a = some o) ∨ (H a = some o ∧ immO o = false) := by
  unfold vis at h
  cases q : W a with
  | none => rw [q] at h; exact .inl ⟨rfl, h⟩
  | some l =>
    rw [q] at h
    cases q2 : H a with
    | none => rw [q2] at h; cases h
    | some u =>
      rw [q2] at h
      have h' : (if immO u = true then none else some u) = some o := h
      by_cases c : immO u = true
      · rw [if_pos c] at h'; cases h'
      · rw [if_neg c] at h'; cases h'
        exact .inr ⟨rfl, by simpa using c⟩
theorem vis_own {F : Hp} {W : Wm} {H : Hp} {a : Addr} {l : Lab} {o : HO} (h : W a = some l) (h2 : H a = some o) (h3 : immO o = false) : vis F W H a = some o := by
  unfold vis
  rw [h, h2]
  show (if immO o = true then none else some o) = some o
  rw [h3]
  rfl
theorem vis_none {F : Hp} {W : Wm} {H : Hp} {a : Addr} (h : W a = none) : vis F W H a = F a := by
  unfold vis
  rw [h]
theorem gl_old {F H F' : Hp} {a : Addr} {o : HO} (h : F a = some o) : gl F H F' a = some o := by unfold gl; rw [h]
theorem gl_of {F H F' : Hp} {a : Addr} {o : HO} (h : gl F H F' a = some o) : F a = some o ∨ (F a = none ∧ H a = none ∧ F' a = some o ∧ immO o = true) := by
  unfold gl at h
  cases q : F a with
  | some u => rw [q] at h; exact .inl h
  | none =>
    rw [q] at h
    cases q1 : H a with
    | some u => rw [q1] at h; cases h
    | none =>
      rw [q1] at h
      refine .inr ⟨rfl, rfl, ?_⟩
      cases q2 : F' a with
      | none => rw [q2] at h; cases h
      | some u =>
        rw [q2] at h
        have h' : (if immO u = true then some u else none) = some o := h
        by_cases i : immO u = true
        · rw [if_pos i] at h'; cases h'; exact ⟨rfl, i⟩
        · rw [if_neg i] at h'; cases h'
theorem gl_new {F H F' : Hp} {a : Addr} {o : HO} (e : Same F H) (h : H a = none) (h2 : F' a = some o) (i : immO o = true) : gl F H F' a = some o := by
  unfold gl
  rw [e.free h, h, h2]
  exact if_pos i
theorem gl_same {F H F' : Hp} : Same F (gl F H F') := fun a o h => gl_old h
section
variable {K : KF} {ios : List Nat} {B : Bs} {F F' : Hp} {W W' : Wm} {E E' : Nv} {σ : L2.St} {H H' : Hp}
theorem St.noLab (S : St K ios B F W E σ H) {a : Addr} {o : HO} (h : F a = some o) : W a = none := by
  cases q : W a with
  | none => rfl
  | some l =>
    rw [(S.ow a l q).1] at h
    cases h
theorem St.visF (S : St K ios B F W E σ H) : Same F (vis F W H) := fun a o h => by rw [vis_none (S.noLab h)]; exact h
/-- all is looked at as shared -/
theorem St.look (S : St K ios B F W E σ H) : St K ios ⟨B.pn, vis F W H, noW, H⟩ (vis F W H) noW (shr E) σ H where
  fh := fun a o h => by
    rcases vis_of h with ⟨_, q⟩ | ⟨q, _⟩
    · exact S.fh _ _ q
    · exact q
  st := Stp.refl _ noW H
  nz := S.nz
  ow := fun a l h => by cases (show (none : Option Lab) = some l from h)
  fr := fun a l h => by cases (show (none : Option Lab) = some l from h)
  w0 := fun a l h => by cases (show (none : Option Lab) = some l from h)
  vr := fun i t d h => by
    obtain ⟨rfl, t0, n0, h0⟩ := shr_get h
    obtain ⟨v, h1, h2⟩ := S.vr i t0 d h0
    exact ⟨v, h1, OwnT.rep (p := [i]) (q := []) S.visF (fun a q o w z i => vis_own w z i) n0 h2⟩
  pn := S.pn
  ln := by rw [shr_len]; exact S.ln
/-- behind the look -/
theorem St.looked (S : St K ios B F W E σ H) (S' : St K ios ⟨B.pn, vis F W H, noW, H⟩ F' W' E' σ H') :
    St K ios B (gl F H F') W E σ H' ∧ Stp F W H (gl F H F') W H' ∧ ∀ a o, F' a = some o → immO o = true → gl F H F' a = some o := by
  have t : Stp (vis F W H) noW H F' W' H' := S'.st
  have e : Same F F' := S.visF.trans t.fx
  have s : Stp F W H (gl F H F') W H' := by
    refine ⟨gl_same, fun a o h => ?_, fun _ _ h => h, fun _ _ h => .inl h, fun a o h _ => t.hx a o h rfl, fun a o h => ⟨o, t.hx a o h rfl⟩⟩
    rcases gl_of h with h | ⟨_, h, _⟩
    · exact .inl h
    · exact .inr h
  have fh' : Same (gl F H F') H' := fun a o h => by
    rcases gl_of h with h | ⟨_, _, h, _⟩
    · exact t.hx a o (S.fh a o h) rfl
    · exact S'.fh a o h
  refine ⟨⟨fh', S.st.trans s, S'.nz, fun a l h => ?_, S.fr, S.w0, fun i t0 d h => ?_, S.pn, S.ln⟩, s, fun a o h i => ?_⟩
  · obtain ⟨h1, o, h2⟩ := S.ow a l h
    exact ⟨s.nf h1 h2, o, t.hx a o h2 rfl⟩
  · obtain ⟨v, h1, h2⟩ := S.vr i t0 d h
    exact ⟨v, h1, h2.keep gl_same (fun _ _ q => q) fun a l o _ q => t.hx a o q rfl⟩
  · rcases t.fn a o h with q | q
    · rcases vis_of q with ⟨_, q⟩ | ⟨_, q⟩
      · exact gl_old q
      · rw [i] at q; cases q
    · exact gl_new S.fh q h i
end
theorem NoFz.of {F H : Hp} (e : Same F H) (z : NoFz H) : NoFz F := fun a o u h => z a o u (e _ _ h)
def look (f : M D) : M D := fun E => match f (shr E) with
  | .ok d _ => if imm d = true then .ok d E else .stk
  | .er x _ => if immL x.vs = true then .er x E else .stk
  | .stk => .stk
def lookB (f : M Bool) : M Bool := fun E => match f (shr E) with
  | .ok d _ => .ok d E
  | .er x _ => if immL x.vs = true then .er x E else .stk
  | .stk => .stk
theorem XRep.restr {K : KF} {F' G H : Hp} {x : Xn} {c : Value} {dx : Option Addr} (e : ∀ a o, F' a = some o → immO o = true → G a = some o) (nz : NoFz F') (i : immL x.vs = true) (h : XRep K F' H x c dx) : XRep K G H x c dx := by
  obtain ⟨h1, h2⟩ := h
  refine ⟨h1, ?_⟩
  rcases h2 with h2 | ⟨a, fs, e1, e2, e3, r⟩
  · exact .inl h2
  · exact .inr ⟨a, fs, e1, e2, e3, RepL.restr e nz _ i r⟩
theorem XRep.mono {K : KF} {F F' H : Hp} {x : Xn} {c : Value} {dx : Option Addr} (e : Same F F') (h : XRep K F H x c dx) : XRep K F' H x c dx := by
  obtain ⟨h1, h2⟩ := h
  refine ⟨h1, ?_⟩
  rcases h2 with h2 | ⟨a, fs, e1, e2, e3, r⟩
  · exact .inl h2
  · exact .inr ⟨a, fs, e1, e2, e3, RepL.mono e _ r⟩
section
variable {X : Cx} {ios : List Nat} {Wx : WX} {a b c e : Expr} {es : List Expr} {fa fb fc f : M D} {pos : Pos}
theorem pp_look (h : PP X ios Wx e f) : PP X ios Wx e (look f) := by
  obtain ⟨t, p, r⟩ := h.ex
  refine ⟨t, p, fun B F W E σ H Q S h => r _ (vis F W H) noW (shr E) σ H Q S.look ?_⟩
  unfold look at h
  cases q : f (shr E) with
  | ok d E2 =>
    rw [q] at h
    by_cases i : imm d = true
    · have h' := h
      rw [show (match (Rs.ok d E2 : Rs D) with | .ok d _ => if imm d = true then Rs.ok d E else .stk | .er x _ => if immL x.vs = true then .er x E else .stk | .stk => .stk) = Rs.ok d E from if_pos i] at h'
      intro F' W' H' v S' t' rr
      obtain ⟨S2, s2, e⟩ := S.looked S'
      exact h' _ W H' v S2 s2 (Rep.restr e (NoFz.of S'.fh S'.nz) d i rr)
    · rw [show (match (Rs.ok d E2 : Rs D) with | .ok d _ => if imm d = true then Rs.ok d E else .stk | .er x _ => if immL x.vs = true then .er x E else .stk | .stk => .stk) = Rs.stk from if_neg i] at h
      exact h.elim
  | er x E2 =>
    rw [q] at h
    by_cases i : immL x.vs = true
    · have h' := h
      rw [show (match (Rs.er x E2 : Rs D) with | .ok d _ => if imm d = true then Rs.ok d E else .stk | .er x _ => if immL x.vs = true then Rs.er x E else .stk | .stk => .stk) = Rs.er x E from if_pos i] at h'
      intro F' W' H' c dx S' t' rr
      obtain ⟨S2, s2, e⟩ := S.looked S'
      exact h' _ W H' c dx S2 s2 (XRep.restr e (NoFz.of S'.fh S'.nz) i rr)
    · rw [show (match (Rs.er x E2 : Rs D) with | .ok d _ => if imm d = true then Rs.ok d E else .stk | .er x _ => if immL x.vs = true then .er x E else .stk | .stk => .stk) = Rs.stk from if_neg i] at h
      exact h.elim
  | stk => rw [q] at h; exact h.elim
theorem pb_look {f : M Bool} (h : PB X ios Wx e f) : PB X ios Wx e (lookB f) := by
  obtain ⟨t, p, r⟩ := h.ex
  refine ⟨t, p, fun B F W E σ H Q S h => r _ (vis F W H) noW (shr E) σ H Q S.look ?_⟩
  unfold lookB at h
  cases q : f (shr E) with
  | ok d E2 =>
    rw [q] at h
    intro F' W' H' v S' t' rr
    obtain ⟨S2, s2, e⟩ := S.looked S'
    exact h _ W H' v S2 s2 rr
  | er x E2 =>
    rw [q] at h
    by_cases i : immL x.vs = true
    · have h' := h
      rw [show (match (Rs.er x E2 : Rs Bool) with | .ok d _ => Rs.ok d E | .er x _ => if immL x.vs = true then Rs.er x E else .stk | .stk => .stk) = Rs.er x E from if_pos i] at h'
      intro F' W' H' c dx S' t' rr
      obtain ⟨S2, s2, e⟩ := S.looked S'
      exact h' _ W H' c dx S2 s2 (XRep.restr e (NoFz.of S'.fh S'.nz) i rr)
    · rw [show (match (Rs.er x E2 : Rs Bool) with | .ok d _ => Rs.ok d E | .er x _ => if immL x.vs = true then .er x E else .stk | .stk => .stk) = Rs.stk from if_neg i] at h
      exact h.elim
  | stk => rw [q] at h; exact h.elim
end
/-! ### what is made anew -/
/-- labels of what was made since H -/
def Fresh (Wr : Wm) (H F' : Hp) (W' : Wm) (H' : Hp) : Prop := ∀ a l, Wr a = some l → H a = none ∧ W' a = none ∧ F' a = none ∧ ∃ o, H' a = some o
theorem Fresh.no {H F' : Hp} {W' : Wm} {H' : Hp} : Fresh noW H F' W' H' := fun a l h => by cases (show (none : Option Lab) = some l from h)
def PstO (K : KF) (ios : List Nat) (B : Bs) (Wx : WX) (σ : L2.St) (F : Hp) (W : Wm) (H : Hp) (r : Rs Ent) (Q : VK) : Prop :=
  match r with
  | .ok p E' => ∀ F' W' H' v Wr, St K ios B F' W' E' σ H' → Stp F W H F' W' H' → Fresh Wr H F' W' H' → OwnT K F' H' Wr p.1 [] v p.2 → Q v H'
  | .er x E' => ∀ F' W' H' c dx, St K ios B F' W' E' σ H' → Stp F W H F' W' H' → XRep K F' H' x c dx → Wx c dx σ H'
  | .stk => False
structure PO (X : Cx) (ios : List Nat) (Wx : WX) (e : Expr) (f : M Ent) : Prop where
  ex : ∃ t : TE, PE X e t ∧ ∀ B F W E σ H Q, St X.K ios B F W E σ H → PstO X.K ios B Wx σ F W H (f E) Q → t σ H Q
def sh1 (f : M D) : M Ent := bnd f fun d => ret (.sh, d)
def own1 (f : M (List D)) : M Ent := bnd f fun xs => if small xs.length = true then ret (.l .sh, .lst xs) else stuck
section
variable {K : KF} {ios : List Nat} {B : Bs} {F F' : Hp} {W W' : Wm} {E E' : Nv} {σ : L2.St} {H H' : Hp} {Wx : WX}
theorem PstO.from {F1 : Hp} {W1 : Wm} {H1 : Hp} {r : Rs Ent} {Q : VK} (s : Stp F W H F1 W1 H1) (h : PstO K ios B Wx σ F W H r Q) : PstO K ios B Wx σ F1 W1 H1 r Q := by
  cases r with
  | ok a E' => exact fun F' W' H' b Wr S t fr rr => h F' W' H' b Wr S (s.trans t) (fun a l z => by
      obtain ⟨z1, z2⟩ := fr a l z
      exact ⟨s.back z1, z2⟩) rr
  | er x E' => exact fun F' W' H' c dx S t rr => h F' W' H' c dx S (s.trans t) rr
  | stk => exact h
theorem PstO.seq {α β : Type} {R : Hp → β → α → Prop} {m : M α} {k : α → M Ent} {Q : β → Hp → Prop} {Q' : VK} (h : PstO K ios B Wx σ F W H (bnd m k E) Q')
    (g : ∀ F' W' H' b a E', St K ios B F' W' E' σ H' → Stp F W H F' W' H' → R F' b a → PstO K ios B Wx σ F' W' H' (k a E') Q' → Q b H') : Pst K ios B Wx σ R F W H (m E) Q := by
  unfold bnd at h
  cases q : m E with
  | ok a E' =>
    rw [q] at h
    exact fun F' W' H' b S t rr => g F' W' H' b a E' S t rr (PstO.from t h)
  | er x E' =>
    rw [q] at h
    exact h
  | stk =>
    rw [q] at h
    exact h.elim
/-- an own object laid -/
theorem Stp.laid {p : Addr} {o : HO} (hp : H p = none) : Stp F W H F W (upd H p o) :=
  ⟨Same.refl F, fun _ _ h => .inl h, fun _ _ h => h, fun _ _ h => .inl h, fun a u h _ => same_new hp a u h, fun a u h => ⟨u, same_new hp a u h⟩⟩
theorem St.laid {p : Addr} {o : HO} (S : St K ios B F W E σ H) (hp : H p = none) (ho : ∀ ob u, o ≠ .frz ob u) : St K ios B F W E σ (upd H p o) where
  fh := S.fh.trans (same_new hp)
  st := S.st.trans (Stp.laid hp)
  nz := fun a ob u e => by
    by_cases hb : a = p
    · subst hb; rw [upd_same] at e; exact absurd (Option.some.inj e) (ho _ _)
    · rw [upd_ne hb] at e; exact S.nz _ _ _ e
  ow := fun a l h => by
    obtain ⟨h1, u, h2⟩ := S.ow a l h
    exact ⟨h1, u, same_new hp a u h2⟩
  fr := S.fr
  w0 := S.w0
  vr := fun i t d h => by
    obtain ⟨v, h1, h2⟩ := S.vr i t d h
    exact ⟨v, h1, h2.keep (Same.refl F) (fun _ _ q => q) fun a l u _ q => same_new hp a u q⟩
  pn := S.pn
  ln := S.ln
theorem St.noW {p : Addr} (S : St K ios B F W E σ H) (hp : H p = none) : W p = none := by
  cases q : W p with
  | none => rfl
  | some l =>
    obtain ⟨_, o, h⟩ := S.ow p l q
    rw [hp] at h; cases h
def oneW (p : Addr) : Wm := fun a => if a = p then some [] else none
theorem oneW_self (p : Addr) : oneW p p = some [] := if_pos rfl
theorem oneW_of {p a : Addr} {l : Lab} (h : oneW p a = some l) : a = p ∧ l = [] := by
  unfold oneW at h
  by_cases e : a = p
  · rw [if_pos e] at h; cases h; exact ⟨e, rfl⟩
  · rw [if_neg e] at h; cases h
theorem PstO.listed {ds : List D} {vs : List V} {p : Addr} {Q : VK} (h : PstO K ios B Wx σ F W H (ret (.l .sh, .lst ds) E) Q) (S : St K ios B F W E σ H) (hp : H p = none) (z : ds.length ≤ sizeLine) (r : RepL K F vs ds) : Q (.ref p) (upd H p (.lst vs)) := by
  refine h F W _ _ (oneW p) (S.laid hp fun _ _ z => by cases z) (Stp.laid hp) (fun a l q => ?_) ⟨p, vs, ds, rfl, rfl, oneW_self p, upd_same, z, r.length, fun j v' d' e1 e2 => ?_⟩
  · obtain ⟨rfl, _⟩ := oneW_of q
    exact ⟨hp, S.noW hp, S.fh.free hp, _, upd_same⟩
  · obtain ⟨w, e3, r3⟩ := r.get e2
    rw [e1] at e3
    cases e3
    exact r3
theorem PstO.ofSh {f : M D} {Q : VK} (h : PstO K ios B Wx σ F W H (sh1 f E) Q) : Pst K ios B Wx σ (Rep K) F W H (f E) Q := by
  unfold sh1 at h
  refine PstO.seq h fun F' W' H' v d E' S t rr h2 => ?_
  exact h2 F' W' H' v noW S (Stp.refl _ _ _) Fresh.no rr
end
section
variable {X : Cx} {ios : List Nat} {Wx : WX} {a b c e : Expr} {es : List Expr} {fa fb fc f : M D} {pos : Pos}
theorem po_sh (h : PP X ios Wx e f) : PO X ios Wx e (sh1 f) := by
  obtain ⟨t, p, r⟩ := h.ex
  exact ⟨t, p, fun B F W E σ H Q S h => r B F W E σ H Q S h.ofSh⟩
theorem po_lst {fs : M (List D)} (h : PL X ios Wx es fs) : PO X ios Wx (.List es pos) (own1 fs) := by
  obtain ⟨t, p, r⟩ := h.ex
  refine ⟨_, pe_lst p, fun B F W E σ H Q S h => ?_⟩
  refine r B F W E σ H _ S (PstO.seq h fun F1 W1 H1 x d E1 S1 s1 r1 h1 => ?_)
  by_cases hz : small d.length = true
  · rw [if_pos hz] at h1
    have hz' : d.length ≤ sizeLine := of_decide_eq_true hz
    exact ⟨by rw [r1.length]; exact hz', fun p hp => h1.listed S1 hp hz' r1⟩
  · rw [if_neg hz] at h1; exact h1.elim
end
/-! ### statements -/
inductive Fl where
  | nx (E : Nv) | rt (r : Ent) (E : Nv) | bk (E : Nv) | ct (E : Nv) | er (x : Xn) (E : Nv) | stk
abbrev G := Nv → Fl
def PstS (K : KF) (ios : List Nat) (B : Bs) (Wx : WX) (F : Hp) (r : Fl) (D : Ends) : Prop :=
  match r with
  | .nx E' => ∀ F' W' H' σ', St K ios B F' W' E' σ' H' → Same F F' → D.nx σ' H'
  | .bk E' => ∀ F' W' H' σ', St K ios B F' W' E' σ' H' → Same F F' → D.bk σ' H'
  | .ct E' => ∀ F' W' H' σ', St K ios B F' W' E' σ' H' → Same F F' → D.ct σ' H'
  | .rt p E' => ∀ F' W' H' σ' v Wr, St K ios B F' W' E' σ' H' → Same F F' → Fresh Wr B.H0 F' W' H' → OwnT K F' H' Wr p.1 [] v p.2 → D.rt v H'
  | .er x E' => ∀ F' W' H' σ' c dx, St K ios B F' W' E' σ' H' → Same F F' → XRep K F' H' x c dx → Wx c dx σ' H'
  | .stk => False
structure PD (X : Cx) (ios : List Nat) (Wx : WX) (st : Stmt) (g : G) : Prop where
  ex : ∃ t : TS, PS X st t ∧ ∀ B F W E σ H D, St X.K ios B F W E σ H → PstS X.K ios B Wx F (g E) D → t D σ H
structure PDs (X : Cx) (ios : List Nat) (Wx : WX) (st : List Stmt) (g : G) : Prop where
  ex : ∃ t : TS, PSs X st t ∧ ∀ B F W E σ H D, St X.K ios B F W E σ H → PstS X.K ios B Wx F (g E) D → t D σ H
def then_ (g h : G) : G := fun E => match g E with
  | .nx E' => h E'
  | .rt p E' => .rt p E'
  | .bk E' => .bk E'
  | .ct E' => .ct E'
  | .er x E' => .er x E'
  | .stk => .stk
def done : G := fun E => .nx E
/-- a piece, then what is made of it -/
def andS {α : Type} (m : M α) (k : α → G) : G := fun E => match m E with
  | .ok a E' => k a E'
  | .er x E' => .er x E'
  | .stk => .stk
section
variable {K : KF} {ios : List Nat} {B : Bs} {F F' : Hp} {W W' : Wm} {E E' : Nv} {σ : L2.St} {H H' : Hp} {Wx : WX}
theorem PstS.from {F1 : Hp} {r : Fl} {D : Ends} (s : Same F F1) (h : PstS K ios B Wx F r D) : PstS K ios B Wx F1 r D := by
  cases r with
  | nx E' => exact fun F' W' H' σ' S t => h F' W' H' σ' S (s.trans t)
  | bk E' => exact fun F' W' H' σ' S t => h F' W' H' σ' S (s.trans t)
  | ct E' => exact fun F' W' H' σ' S t => h F' W' H' σ' S (s.trans t)
  | rt p E' => exact fun F' W' H' σ' v Wr S t => h F' W' H' σ' v Wr S (s.trans t)
  | er x E' => exact fun F' W' H' σ' c dx S t => h F' W' H' σ' c dx S (s.trans t)
  | stk => exact h
theorem PstS.seq {α β : Type} {R : Hp → β → α → Prop} {m : M α} {k : α → G} {Q : β → Hp → Prop} {D : Ends} (h : PstS K ios B Wx F (andS m k E) D)
    (g : ∀ F' W' H' b a E', St K ios B F' W' E' σ H' → Stp F W H F' W' H' → R F' b a → PstS K ios B Wx F' (k a E') D → Q b H') : Pst K ios B Wx σ R F W H (m E) Q := by
  unfold andS at h
  cases q : m E with
  | ok a E' =>
    rw [q] at h
    exact fun F' W' H' b S t rr => g F' W' H' b a E' S t rr (PstS.from t.fx h)
  | er x E' =>
    rw [q] at h
    exact fun F' W' H' c dx S t rr => h F' W' H' σ c dx S t.fx rr
  | stk =>
    rw [q] at h
    exact h.elim
theorem PstS.seqO {m : M Ent} {k : Ent → G} {Q : VK} {D : Ends} (h : PstS K ios B Wx F (andS m k E) D)
    (g : ∀ F' W' H' v p E' Wr, St K ios B F' W' E' σ H' → Stp F W H F' W' H' → Fresh Wr H F' W' H' → OwnT K F' H' Wr p.1 [] v p.2 → PstS K ios B Wx F' (k p E') D → Q v H') : PstO K ios B Wx σ F W H (m E) Q := by
  unfold andS at h
  cases q : m E with
  | ok a E' =>
    rw [q] at h
    exact fun F' W' H' b Wr S t fr rr => g F' W' H' b a E' Wr S t fr rr (PstS.from t.fx h)
  | er x E' =>
    rw [q] at h
    exact fun F' W' H' c dx S t rr => h F' W' H' σ c dx S t.fx rr
  | stk =>
    rw [q] at h
    exact h.elim
theorem PstS.then {g h : G} {D : Ends} {D' : Ends} (e1 : D'.rt = D.rt) (e2 : D'.bk = D.bk) (e3 : D'.ct = D.ct) (k : PstS K ios B Wx F (then_ g h E) D)
    (c : ∀ F' W' H' σ' E', St K ios B F' W' E' σ' H' → Same F F' → PstS K ios B Wx F' (h E') D → D'.nx σ' H') : PstS K ios B Wx F (g E) D' := by
  unfold then_ at k
  cases q : g E with
  | nx E' => rw [q] at k; exact fun F' W' H' σ' S t => c F' W' H' σ' E' S t (PstS.from t k)
  | rt p E' => rw [q] at k; exact fun F' W' H' σ' v Wr S t fr r => by rw [e1]; exact k F' W' H' σ' v Wr S t fr r
  | bk E' => rw [q] at k; exact fun F' W' H' σ' S t => by rw [e2]; exact k F' W' H' σ' S t
  | ct E' => rw [q] at k; exact fun F' W' H' σ' S t => by rw [e3]; exact k F' W' H' σ' S t
  | er x E' => rw [q] at k; exact k
  | stk => rw [q] at k; exact k.elim
end
section
variable {X : Cx} {ios : List Nat} {Wx : WX} {a b c e : Expr} {es : List Expr} {fa fb fc f : M D} {pos : Pos} {st : Stmt} {sts : List Stmt} {g h : G}
theorem pd_nil : PDs X ios Wx [] done := ⟨_, pss_nil, fun B F W E σ H D S k => k F W H σ S (Same.refl F)⟩
theorem pd_one (h1 : PD X ios Wx st g) : PDs X ios Wx [st] g := by
  obtain ⟨t, p, r⟩ := h1.ex
  exact ⟨_, pss_one p, r⟩
theorem pd_cons (h1 : PD X ios Wx st g) (h2 : PDs X ios Wx sts h) : PDs X ios Wx (st :: sts) (then_ g h) := by
  obtain ⟨t1, p1, r1⟩ := h1.ex
  obtain ⟨t2, p2, r2⟩ := h2.ex
  refine ⟨_, pss_cons p1 p2, fun B F W E σ H D S k => ?_⟩
  exact r1 B F W E σ H _ S (PstS.then (D := D) (h := h) rfl rfl rfl k fun F' W' H' σ' E' S' t k' => r2 B F' W' E' σ' H' D S' k')
theorem pd_pass : PD X ios Wx (.Pass pos) done := ⟨_, ps_pass, fun B F W E σ H D S k => k F W H σ S (Same.refl F)⟩
theorem pd_break : PD X ios Wx (.Break pos) (fun E => .bk E) := ⟨_, ps_break, fun B F W E σ H D S k => k F W H σ S (Same.refl F)⟩
theorem pd_continue : PD X ios Wx (.Continue pos) (fun E => .ct E) := ⟨_, ps_continue, fun B F W E σ H D S k => k F W H σ S (Same.refl F)⟩
theorem pd_if {p q : List Stmt} {fc : M Bool} (hc : PB X ios Wx c fc) (ha : PDs X ios Wx p g) (hb : PDs X ios Wx q h) : PD X ios Wx (.If c p q pos) (andS fc fun k => if k = true then g else h) := by
  obtain ⟨tc, pc, rc⟩ := hc.ex
  obtain ⟨t1, p1, r1⟩ := ha.ex
  obtain ⟨t2, p2, r2⟩ := hb.ex
  refine ⟨_, ps_if pc p1 p2, fun B F W E σ H D S k => ?_⟩
  refine rc B F W E σ H _ S (PstS.seq k fun F1 W1 H1 b d E1 S1 s1 rr k1 => ?_)
  subst rr
  cases b with
  | true => exact r1 B F1 W1 E1 σ H1 D S1 k1
  | false => exact r2 B F1 W1 E1 σ H1 D S1 k1
theorem pd_expr (he : PP X ios Wx e f) (hs : swapsWith e none pos.line X.env = pure false := by rfl) : PD X ios Wx (.Expr e pos) (andS f fun _ => done) := by
  obtain ⟨t, p, r⟩ := he.ex
  refine ⟨_, ps_expr p hs, fun B F W E σ H D S k => ?_⟩
  exact r B F W E σ H _ S (PstS.seq k fun F1 W1 H1 v d E1 S1 s1 rr k1 => k1 F1 W1 H1 σ S1 (Same.refl F1))
def retS (f : M Ent) : G := andS f fun p E => .rt p E
theorem pd_ret {f : M Ent} (he : PO X ios Wx e f) : PD X ios Wx (.Return (some e) pos) (retS f) := by
  obtain ⟨t, p, r⟩ := he.ex
  refine ⟨_, ps_ret p, fun B F W E σ H D S k => ?_⟩
  refine r B F W E σ H _ S (PstS.seqO k fun F1 W1 H1 v d E1 Wr S1 s1 fr rr k1 => ?_)
  exact k1 F1 W1 H1 σ v Wr S1 (Same.refl F1) (fun a l z => by
    obtain ⟨z1, z2⟩ := fr a l z
    exact ⟨S.st.back z1, z2⟩) rr
theorem pd_retN : PD X ios Wx (.Return none pos) (fun E => .rt (.sh, .non) E) := ⟨_, ps_retN, fun B F W E σ H D S k => k F W H σ .non noW S (Same.refl F) Fresh.no .non⟩
/-- a name is stored -/
def putW (W Wr : Wm) (i : Nat) : Wm := fun a => match Wr a with
  | some l => some (i :: l)
  | none => W a
theorem putW_r {W Wr : Wm} {i : Nat} {a : Addr} {l : Lab} (h : Wr a = some l) : putW W Wr i a = some (i :: l) := by unfold putW; rw [h]
theorem putW_of {W Wr : Wm} {i : Nat} {a : Addr} {l : Lab} (h : putW W Wr i a = some l) : (∃ l', Wr a = some l' ∧ l = i :: l') ∨ (Wr a = none ∧ W a = some l) := by
  unfold putW at h
  cases q : Wr a with
  | some l' => rw [q] at h; cases h; exact .inl ⟨l', rfl, rfl⟩
  | none => rw [q] at h; exact .inr ⟨rfl, h⟩
end
section
variable {K : KF} {ios : List Nat} {B : Bs} {F F' : Hp} {W W' Wr : Wm} {E E' : Nv} {σ : L2.St} {H H' : Hp} {Wx : WX}
theorem St.put (S : St K ios B F W E σ H) {i : Nat} {v : V} {p : Ent} (hi : ios.contains i = false) (fr : Fresh Wr B.H0 F W H) (r : OwnT K F H Wr p.1 [] v p.2) :
    St K ios B F (putW W Wr i) (E.set i (some p)) (σ.set i (some v)) H where
  fh := S.fh
  st := by
    have s := S.st
    refine ⟨s.fx, s.fn, fun a l h => ?_, fun a l h => ?_, s.hx, s.hd⟩
    · have h1 := s.wx a l h
      unfold putW
      cases q : Wr a with
      | none => exact h1
      | some l' =>
        obtain ⟨_, z, _⟩ := fr a l' q
        rw [h1] at z; cases z
    · rcases putW_of h with ⟨l', q, _⟩ | ⟨_, q⟩
      · exact .inr (fr a l' q).1
      · exact s.wn a l q
  nz := S.nz
  ow := fun a l h => by
    rcases putW_of h with ⟨l', q, _⟩ | ⟨_, q⟩
    · obtain ⟨_, _, z3, z4⟩ := fr a l' q
      exact ⟨z3, z4⟩
    · exact S.ow a l q
  fr := fun a l h => by
    rcases putW_of h with ⟨l', q, rfl⟩ | ⟨_, q⟩
    · exact ⟨i, l', rfl, .inr (fr a l' q).1⟩
    · exact S.fr a l q
  w0 := S.w0
  vr := fun j t d h => by
    by_cases hj : i = j
    · subst hj
      rw [List.getElem?_set] at h
      rw [if_pos rfl] at h
      by_cases hl : i < E.length
      · rw [if_pos hl] at h
        cases h
        refine ⟨v, ?_, ?_⟩
        · rw [List.getElem?_set, if_pos rfl, if_pos (by rw [← S.ln]; exact hl)]
        · exact OwnT.relab (p := []) (p' := [i]) (q := []) (fun a q z => putW_r z) r
      · rw [if_neg hl] at h; cases h
    · rw [List.getElem?_set, if_neg hj] at h
      obtain ⟨u, h1, h2⟩ := S.vr j t d h
      refine ⟨u, ?_, ?_⟩
      · rw [List.getElem?_set, if_neg hj]; exact h1
      · refine h2.keep (Same.refl F) (fun a l z => ?_) (fun a l o _ z => z)
        unfold putW
        cases q : Wr a with
        | none => exact z
        | some l' =>
          obtain ⟨_, y, _⟩ := fr a l' q
          rw [z] at y; cases y
  pn := fun j u h => by
    obtain ⟨h1, h2⟩ := S.pn j u h
    refine ⟨h1, ?_⟩
    have hj : i ≠ j := fun z => by
      subst z
      rw [List.contains_eq_mem, decide_eq_false_iff_not] at hi
      exact hi h1
    rw [List.getElem?_set, if_neg hj]; exact h2
  ln := by rw [List.length_set, List.length_set]; exact S.ln
end
section
variable {X : Cx} {ios : List Nat} {Wx : WX} {a b c e : Expr} {es : List Expr} {fa fb fc : M D} {pos : Pos} {st : Stmt} {sts : List Stmt} {g h : G}
def setS (i : Nat) (f : M Ent) : G := andS f fun p E => .nx (E.set i (some p))
theorem pd_set {i : Nat} {x : Str} {f : M Ent} {pos' : Pos} (hN : X.N.Nodup) (hi : X.N[i]? = some x) (hx : Loc X.env.scope x) (hio : ios.contains i = false) (he : PO X ios Wx e f)
    (hs : swapsWith e (some (.Name x pos')) pos.line X.env = pure false := by rfl) (hf : X.fn x = true ∨ X.env.scope.names.lookup x = some .local := by first | exact .inl rfl | exact .inr rfl | assumption) :
    PD X ios Wx (.Assign [.Name x pos'] e pos) (setS i f) := by
  obtain ⟨t, p, r⟩ := he.ex
  refine ⟨_, ps_set hN hi hx p hs hf, fun B F W E σ H D S k => ?_⟩
  refine r B F W E σ H _ S (PstS.seqO k fun F1 W1 H1 v d E1 Wr S1 s1 fr rr k1 => ?_)
  exact k1 F1 _ H1 _ (S1.put hio (fun a l z => by
    obtain ⟨z1, z2⟩ := fr a l z
    exact ⟨S.st.back z1, z2⟩) rr) (Same.refl F1)
end
end Dl

namespace Dl
open PySem PySem.Spec PyProof.Rows L2
/-! ### data seen as plain data -/
mutual
def toP : D → Option PyData
  | .non => some .none
  | .bl b => some (.bool b)
  | .int i => some (.int i)
  | .str x => some (.str x)
  | .lst xs => (toPs xs).map .list
  | .tup xs => (toPs xs).map .tuple
  | .dct _ _ => none
  | .ins _ _ _ => none
  | .ty _ => none
  | .cl _ => none
  | .frl _ => none
def toPs : List D → Option (List PyData)
  | [] => some []
  | x :: r => match toP x, toPs r with
    | some p, some ps => some (p :: ps)
    | _, _ => none
end
theorem toPs_cons {x : D} {r : List D} {ps : List PyData} (h : toPs (x :: r) = some ps) : ∃ p q, toP x = some p ∧ toPs r = some q ∧ ps = p :: q := by
  have h' : (match toP x, toPs r with
    | some p, some ps => some (p :: ps)
    | _, _ => none) = some ps := by
    have e := h
    unfold toPs at e
    exact e
  cases q1 : toP x with
  | none => rw [q1] at h'; cases h'
  | some p =>
    rw [q1] at h'
    cases q2 : toPs r with
    | none => rw [q2] at h'; cases h'
    | some q =>
      rw [q2] at h'
      cases h'
      exact ⟨p, q, rfl, rfl, rfl⟩
mutual
theorem Rep.dp {K : KF} {F H : Hp} (e : Same F H) : ∀ {v : V} (d : D) {p : PyData}, Rep K F v d → toP d = some p → Dp K H v p
  | _, .non, p, h, q => by
    cases h
    unfold toP at q
    cases q
    exact .non
  | _, .bl b, p, h, q => by
    cases h
    unfold toP at q
    cases q
    exact .bl b
  | _, .int i, p, h, q => by
    cases h
    unfold toP at q
    cases q
    exact .int i
  | _, .str x, p, h, q => by
    cases h
    unfold toP at q
    cases q
    exact .str x
  | _, .lst ds, p, h, q => by
    unfold toP at q
    cases q2 : toPs ds with
    | none => rw [q2] at q; cases q
    | some ps =>
      rw [q2] at q
      cases q
      cases h with
      | lst s z r => exact .lst (SqL.of (e _ _ s)) (RepL.dp e ds r q2)
  | _, .tup ds, p, h, q => by
    unfold toP at q
    cases q2 : toPs ds with
    | none => rw [q2] at q; cases q
    | some ps =>
      rw [q2] at q
      cases q
      cases h with
      | tup s z r => exact .tup (sqT_mono e s) (RepL.dp e ds r q2)
  | _, .dct _ _, p, h, q => by unfold toP at q; cases q
  | _, .ins _ _ _, p, h, q => by unfold toP at q; cases q
  | _, .ty _, p, h, q => by unfold toP at q; cases q
  | _, .cl _, p, h, q => by unfold toP at q; cases q
theorem RepL.dp {K : KF} {F H : Hp} (e : Same F H) : ∀ {vs : List V} (ds : List D) {ps : List PyData}, RepL K F vs ds → toPs ds = some ps → DpAll K H vs ps
  | _, [], ps, h, q => by
    cases h
    unfold toPs at q
    cases q
    exact .nil
  | _, d :: ds, ps, h, q => by
    obtain ⟨p, qs, e1, e2, rfl⟩ := toPs_cons q
    cases h with
    | cons h1 h2 => exact .cons (Rep.dp e d h1 e1) (RepL.dp e ds h2 e2)
end
theorem new_lst {K : KF} {F H : Hp} {p : Addr} {vs : List V} {ds : List D} {Q : VK} (q : ∀ F' H' v, Gr F H F' H' → Rep K F' v (.lst ds) → Q v H') (fh : Same F H) (hp : H p = none) (z : ds.length ≤ sizeLine) (r : RepL K F vs ds) : Q (.ref p) (upd H p (.lst vs)) := by
  have g : Gr F H (upd F p (.lst vs)) (upd H p (.lst vs)) := Gr.new fh hp fun _ _ z => by cases z
  exact q _ _ _ g (.lst upd_same z (r.mono g.fx _))
theorem new_tup {K : KF} {F H : Hp} {p : Addr} {vs : List V} {ds : List D} {Q : VK} (q : ∀ F' H' v, Gr F H F' H' → Rep K F' v (.tup ds) → Q v H') (fh : Same F H) (hp : H p = none) (z : ds.length ≤ sizeLine) (r : RepL K F vs ds) : Q (.ref p) (upd H p (.tup vs)) := by
  have g : Gr F H (upd F p (.tup vs)) (upd H p (.tup vs)) := Gr.new fh hp fun _ _ z => by cases z
  exact q _ _ _ g (.tup (SqT.of upd_same) z (r.mono g.fx _))
/-! ### operators on data -/
def addD : D → D → Option D
  | .int i, .int j => some (.int (i + j))
  | .str x, .str y => if x.length + y.length ≤ sizeLine then some (.str (x ++ y)) else none
  | .lst xs, .lst ys => if xs.length + ys.length ≤ sizeLine then some (.lst (xs ++ ys)) else none
  | .tup xs, .tup ys => if xs.length + ys.length ≤ sizeLine then some (.tup (xs ++ ys)) else none
  | _, _ => none
def subD : D → D → Option D
  | .int i, .int j => some (.int (i - j))
  | _, _ => none
def cmul (i j : Int) : Bool := (decide (-(2 ^ 64) < i) && decide (i < 2 ^ 64)) || (decide (-(2 ^ 64) < j) && decide (j < 2 ^ 64))
def mulD : D → D → Option D
  | .int i, .int j => if cmul i j = true then some (.int (i * j)) else none
  | .lst xs, .int k => if -(2 ^ 63) ≤ k ∧ k < 2 ^ 63 ∧ xs.length * k.toNat ≤ sizeLine then some (.lst (List.replicate k.toNat xs).flatten) else none
  | _, _ => none
def divD : D → D → Option D
  | .int i, .int j => if 0 < j ∧ j < 1073741824 then some (.int (i / j)) else none
  | _, _ => none
def modD : D → D → Option D
  | .int i, .int j => if 0 < j then some (.int (i % j)) else none
  | _, _ => none
def powD : D → D → Option D
  | .int i, .int j => if 0 ≤ j ∧ j ≤ 1000000 ∧ i.natAbs < 2 ^ 64 then some (.int (i ^ j.toNat)) else none
  | _, _ => none
def negD : D → Option D
  | .int i => some (.int (-i))
  | _ => none
def cmpI (p : Int → Int → Bool) : D → D → Option D
  | .int i, .int j => some (.bl (p i j))
  | _, _ => none
def ltD : D → D → Option D := cmpI fun i j => decide (i < j)
def leD : D → D → Option D := cmpI fun i j => decide (i ≤ j)
def gtD : D → D → Option D := cmpI fun i j => decide (j < i)
def geD : D → D → Option D := cmpI fun i j => decide (j ≤ i)
def flat : D → Option V
  | .non => some .non
  | .bl b => some (.bl b)
  | .int i => some (.int i)
  | .str x => some (.str x)
  | _ => none
theorem Rep.flat {K : KF} {F : Hp} {v w : V} {d : D} (h : Rep K F v d) (e : flat d = some w) : v = w := by
  cases h <;> first | (cases e; rfl) | cases e
def deepEq (d e : D) : Option Bool := match toP d, toP e with
  | some p, some q => if SeqAt.shaped p = true ∧ SeqAt.shaped q = true then some (PyData.eqv p q) else none
  | _, _ => none
def eqB (d e : D) : Option Bool := match flat d, flat e with
  | some v, some w => if scal v w = true then some (decide (v = w)) else deepEq d e
  | _, _ => deepEq d e
def eqD (d e : D) : Option D := (eqB d e).map .bl
def neD (d e : D) : Option D := (eqB d e).map fun b => .bl (!b)
def isNone (d : D) : Bool := match d with
  | .non => true
  | _ => false
section
variable {K : KF}
theorem opd_I {C : Int → Int → Prop} {gv : Int → Int → V} {g : D → D → Option D} (h : ∀ d e z, g d e = some z → ∃ i j, d = .int i ∧ e = .int j ∧ C i j ∧ ∀ F : Hp, Rep K F (gv i j) z) : OpD K (rI C gv) g := by
  intro F H x y d e z Q fh rx ry hz q
  obtain ⟨i, j, rfl, rfl, hc, hr⟩ := h d e z hz
  cases rx
  cases ry
  exact ⟨i, j, rfl, rfl, hc, q F H _ (Gr.refl fh) (hr F)⟩
theorem opd_I0 {gv : Int → Int → V} {g : D → D → Option D} (h : ∀ d e z, g d e = some z → ∃ i j, d = .int i ∧ e = .int j ∧ ∀ F : Hp, Rep K F (gv i j) z) : OpD K (rI0 gv) g := by
  intro F H x y d e z Q fh rx ry hz q
  obtain ⟨i, j, rfl, rfl, hr⟩ := h d e z hz
  cases rx
  cases ry
  exact ⟨i, j, rfl, rfl, q F H _ (Gr.refl fh) (hr F)⟩
theorem opd_sub : OpD K (rI0 fun i j => .int (i - j)) subD := opd_I0 fun d e z h => by
  cases d <;> cases e <;> first | (cases h; done) | skip
  rename_i i j
  cases h
  exact ⟨i, j, rfl, rfl, fun _ => .int _⟩
theorem opd_cmp (p : Int → Int → Bool) : OpD K (rI0 fun i j => .bl (p i j)) (cmpI p) := opd_I0 fun d e z h => by
  cases d <;> cases e <;> first | (cases h; done) | skip
  rename_i i j
  cases h
  exact ⟨i, j, rfl, rfl, fun _ => .bl _⟩
theorem opd_div : OpD K (rI CDiv fun i j => .int (i / j)) divD := opd_I fun d e z h => by
  cases d <;> cases e <;> first | (cases h; done) | skip
  rename_i i j
  have h' : (if 0 < j ∧ j < 1073741824 then some (D.int (i / j)) else none) = some z := h
  by_cases c : 0 < j ∧ j < 1073741824
  · rw [if_pos c] at h'; cases h'; exact ⟨i, j, rfl, rfl, c, fun _ => .int _⟩
  · rw [if_neg c] at h'; cases h'
theorem opd_mod : OpD K (rI (fun _ j => 0 < j) fun i j => .int (i % j)) modD := opd_I fun d e z h => by
  cases d <;> cases e <;> first | (cases h; done) | skip
  rename_i i j
  have h' : (if 0 < j then some (D.int (i % j)) else none) = some z := h
  by_cases c : 0 < j
  · rw [if_pos c] at h'; cases h'; exact ⟨i, j, rfl, rfl, c, fun _ => .int _⟩
  · rw [if_neg c] at h'; cases h'
theorem opd_pow : OpD K (rI CPow fun i j => .int (i ^ j.toNat)) powD := opd_I fun d e z h => by
  cases d <;> cases e <;> first | (cases h; done) | skip
  rename_i i j
  have h' : (if 0 ≤ j ∧ j ≤ 1000000 ∧ i.natAbs < 2 ^ 64 then some (D.int (i ^ j.toNat)) else none) = some z := h
  by_cases c : 0 ≤ j ∧ j ≤ 1000000 ∧ i.natAbs < 2 ^ 64
  · rw [if_pos c] at h'; cases h'; exact ⟨i, j, rfl, rfl, c, fun _ => .int _⟩
  · rw [if_neg c] at h'; cases h'
/-- + of ints, texts, lists, tuples -/
def rAddA (K : KF) : R2 := fun x y H Q => (rI0 fun i j => .int (i + j)) x y H Q ∨ (fun x y H Q => ∃ i j, x = .str i ∧ y = .str j ∧ i.length + j.length ≤ sizeLine ∧ Q (.str (i ++ j)) H : R2) x y H Q ∨ rCat x y H Q ∨ rCatA K x y H Q
theorem op_addA {X : Cx} : OpR X (binaryOp .Add) (rAddA X.K) := op_add.or (op_add_str.or (op_cat.or op_catA))
theorem opd_add : OpD K (rAddA K) addD := by
  intro F H x y d e z Q fh rx ry hz q
  cases d <;> cases e <;> first | (cases hz; done) | skip
  · cases rx; cases ry; cases hz
    exact .inl ⟨_, _, rfl, rfl, q F H _ (Gr.refl fh) (.int _)⟩
  · rename_i a b
    cases rx; cases ry
    have h' : (if a.length + b.length ≤ sizeLine then some (D.str (a ++ b)) else none) = some z := hz
    by_cases c : a.length + b.length ≤ sizeLine
    · rw [if_pos c] at h'; cases h'
      exact .inr (.inl ⟨_, _, rfl, rfl, c, q F H _ (Gr.refl fh) (.str _)⟩)
    · rw [if_neg c] at h'; cases h'
  · rename_i a b
    have h' : (if a.length + b.length ≤ sizeLine then some (D.lst (a ++ b)) else none) = some z := hz
    by_cases c : a.length + b.length ≤ sizeLine
    · rw [if_pos c] at h'; cases h'
      cases rx with
      | lst s1 z1 r1 => cases ry with
        | lst s2 z2 r2 =>
          refine .inr (.inr (.inl ⟨_, _, _, _, rfl, rfl, fh _ _ s1, fh _ _ s2, by rw [r1.length, r2.length]; exact c, fun p hp => new_lst q fh hp (by rw [List.length_append]; exact c) (r1.app r2)⟩))
    · rw [if_neg c] at h'; cases h'
  · rename_i a b
    have h' : (if a.length + b.length ≤ sizeLine then some (D.tup (a ++ b)) else none) = some z := hz
    by_cases c : a.length + b.length ≤ sizeLine
    · rw [if_pos c] at h'; cases h'
      cases rx with
      | tup s1 z1 r1 => cases ry with
        | tup s2 z2 r2 =>
          refine .inr (.inr (.inr ⟨_, _, _, _, rfl, rfl, sqT_mono fh s1, sqT_mono fh s2, by rw [r1.length, r2.length]; exact c, fun e => ?_, fun _ e => ?_, fun _ _ p hp => ?_⟩))
          · subst e
            cases r1
            exact q F H _ (Gr.refl fh) (.tup s2 z2 r2)
          · subst e
            cases r2
            exact q F H _ (Gr.refl fh) (by rw [List.append_nil]; exact .tup s1 z1 r1)
          · exact new_tup q fh hp (by rw [List.length_append]; exact c) (r1.app r2)
    · rw [if_neg c] at h'; cases h'
theorem rep_flatten {K : KF} {F : Hp} {vs : List V} {ds : List D} (r : RepL K F vs ds) : ∀ k : Nat, RepL K F (List.replicate k vs).flatten (List.replicate k ds).flatten
  | 0 => .nil
  | k + 1 => by
    rw [List.replicate_succ, List.replicate_succ, List.flatten_cons, List.flatten_cons]
    exact r.app (rep_flatten r k)
theorem len_flatten {α : Type} (xs : List α) : ∀ k : Nat, (List.replicate k xs).flatten.length = xs.length * k
  | 0 => rfl
  | k + 1 => by rw [List.replicate_succ, List.flatten_cons, List.length_append, len_flatten xs k, Nat.mul_succ, Nat.add_comm]
def rMulA : R2 := fun x y H Q => (rI CMul fun i j => .int (i * j)) x y H Q ∨ rRep x y H Q
theorem op_mulA {X : Cx} : OpR X (binaryOp .Mult) rMulA := op_mul.or op_rep
theorem opd_mul : OpD K rMulA mulD := by
  intro F H x y d e z Q fh rx ry hz q
  cases d <;> cases e <;> first | (cases hz; done) | skip
  · rename_i i j
    cases rx; cases ry
    have h' : (if cmul i j = true then some (D.int (i * j)) else none) = some z := hz
    by_cases c : cmul i j = true
    · rw [if_pos c] at h'; cases h'
      refine .inl ⟨_, _, rfl, rfl, ?_, q F H _ (Gr.refl fh) (.int _)⟩
      unfold cmul at c
      rw [Bool.or_eq_true, Bool.and_eq_true, Bool.and_eq_true, decide_eq_true_eq, decide_eq_true_eq, decide_eq_true_eq, decide_eq_true_eq] at c
      exact c
    · rw [if_neg c] at h'; cases h'
  · rename_i a k
    have h' : (if -(2 ^ 63) ≤ k ∧ k < 2 ^ 63 ∧ a.length * k.toNat ≤ sizeLine then some (D.lst (List.replicate k.toNat a).flatten) else none) = some z := hz
    by_cases c : -(2 ^ 63) ≤ k ∧ k < 2 ^ 63 ∧ a.length * k.toNat ≤ sizeLine
    · rw [if_pos c] at h'; cases h'
      cases ry
      cases rx with
      | lst s1 z1 r1 =>
        refine .inr ⟨_, _, _, rfl, rfl, fh _ _ s1, c.1, c.2.1, by rw [r1.length]; exact c.2.2, fun p hp => new_lst q fh hp (by rw [len_flatten]; exact c.2.2) (rep_flatten r1 k.toNat)⟩
    · rw [if_neg c] at h'; cases h'
theorem und_neg : UnD K (rU fun i => .int (-i)) negD := by
  intro F H x d z Q fh rx hz q
  cases d <;> first | (cases hz; done) | skip
  cases rx; cases hz
  exact ⟨_, rfl, q F H _ (Gr.refl fh) (.int _)⟩
def rEqA (K : KF) : R2 := fun x y H Q => rEq x y H Q ∨ rEqD K x y H Q
def rNeA (K : KF) : R2 := fun x y H Q => rNe x y H Q ∨ rNeD K x y H Q
theorem op_eqA {X : Cx} (hu : X.A.units + 64 < cLine) : OpR X (compareOp .Eq) (rEqA X.K) := op_eq.or (op_eqD hu)
theorem op_neA {X : Cx} (hu : X.A.units + 64 < cLine) : OpR X (compareOp .NotEq) (rNeA X.K) := op_ne.or (op_neD hu)
theorem deep_of {d e : D} {b : Bool} (h : deepEq d e = some b) : ∃ p q, toP d = some p ∧ toP e = some q ∧ SeqAt.shaped p = true ∧ SeqAt.shaped q = true ∧ b = PyData.eqv p q := by
  unfold deepEq at h
  cases q1 : toP d with
  | none => rw [q1] at h; cases h
  | some p =>
    rw [q1] at h
    cases q2 : toP e with
    | none => rw [q2] at h; cases h
    | some q =>
      rw [q2] at h
      have h' : (if SeqAt.shaped p = true ∧ SeqAt.shaped q = true then some (PyData.eqv p q) else none) = some b := h
      by_cases c : SeqAt.shaped p = true ∧ SeqAt.shaped q = true
      · rw [if_pos c] at h'; cases h'; exact ⟨p, q, rfl, rfl, c.1, c.2, rfl⟩
      · rw [if_neg c] at h'; cases h'
theorem eqB_of {d e : D} {b : Bool} (h : eqB d e = some b) : (∃ v w, flat d = some v ∧ flat e = some w ∧ scal v w = true ∧ b = decide (v = w)) ∨ deepEq d e = some b := by
  unfold eqB at h
  cases q1 : flat d with
  | none => rw [q1] at h; exact .inr h
  | some v =>
    rw [q1] at h
    cases q2 : flat e with
    | none => rw [q2] at h; exact .inr h
    | some w =>
      rw [q2] at h
      have h' : (if scal v w = true then some (decide (v = w)) else deepEq d e) = some b := h
      by_cases c : scal v w = true
      · rw [if_pos c] at h'; cases h'; exact .inl ⟨v, w, rfl, rfl, c, rfl⟩
      · rw [if_neg c] at h'; exact .inr h'
theorem opd_eq : OpD K (rEqA K) eqD := by
  intro F H x y d e z Q fh rx ry hz q
  unfold eqD at hz
  cases h : eqB d e with
  | none => rw [h] at hz; cases hz
  | some b =>
    rw [h] at hz
    cases hz
    rcases eqB_of h with ⟨v, w, e1, e2, sc, rfl⟩ | h
    · rw [rx.flat e1, ry.flat e2]
      exact .inl ⟨sc, q F H _ (Gr.refl fh) (.bl _)⟩
    · obtain ⟨p, p2, e1, e2, s1, s2, rfl⟩ := deep_of h
      exact .inr ⟨p, p2, rx.dp fh d e1, ry.dp fh e e2, s1, s2, q F H _ (Gr.refl fh) (.bl _)⟩
theorem opd_ne : OpD K (rNeA K) neD := by
  intro F H x y d e z Q fh rx ry hz q
  unfold neD at hz
  cases h : eqB d e with
  | none => rw [h] at hz; cases hz
  | some b =>
    rw [h] at hz
    cases hz
    rcases eqB_of h with ⟨v, w, e1, e2, sc, rfl⟩ | h
    · rw [rx.flat e1, ry.flat e2]
      exact .inl ⟨sc, q F H _ (Gr.refl fh) (.bl _)⟩
    · obtain ⟨p, p2, e1, e2, s1, s2, rfl⟩ := deep_of h
      exact .inr ⟨p, p2, rx.dp fh d e1, ry.dp fh e e2, s1, s2, q F H _ (Gr.refl fh) (.bl _)⟩
/-! ### is -/
def isND (d e : D) : Option D := match e with
  | .non => some (.bl (isNone d))
  | _ => none
def notND (d e : D) : Option D := match e with
  | .non => some (.bl (!isNone d))
  | _ => none
theorem Rep.isNone {F : Hp} {v : V} {d : D} (h : Rep K F v d) : decide (v = .non) = isNone d := by
  cases h <;> first | exact decide_eq_true rfl | exact decide_eq_false fun z => by cases z
theorem opd_isN : OpD K (fun x y H Q => y = .non ∧ Q (.bl (decide (x = .non))) H) isND := by
  intro F H x y d e z Q fh rx ry hz q
  cases e <;> first | (cases hz; done) | skip
  cases ry; cases hz
  exact ⟨rfl, by rw [rx.isNone]; exact q F H _ (Gr.refl fh) (.bl _)⟩
theorem opd_notN : OpD K (fun x y H Q => y = .non ∧ Q (.bl (!decide (x = .non))) H) notND := by
  intro F H x y d e z Q fh rx ry hz q
  cases e <;> first | (cases hz; done) | skip
  cases ry; cases hz
  exact ⟨rfl, by rw [rx.isNone]; exact q F H _ (Gr.refl fh) (.bl _)⟩
/-- is a truth -/
def rIsT : R2 := fun x y H Q => ∃ b : Bool, y = .bl b ∧ Q (.bl (decide (x = .bl b))) H
def rNotT : R2 := fun x y H Q => ∃ b : Bool, y = .bl b ∧ Q (.bl (!decide (x = .bl b))) H
theorem op_isT {X : Cx} : OpR X (compareOp .Is) rIsT := by
  intro pins s σ H x y v u Q I rx ry h
  obtain ⟨b, rfl, q⟩ := h
  cases (show u = Value.bool b from ry)
  by_cases e : x = .bl b
  · subst e
    cases (show v = Value.bool b from rx)
    exact wpAny_is_self rfl ⟨.bl true, H, I, rfl, by simpa using q⟩
  · have q' : Q (.bl false) H := by simpa [e] using q
    cases x with
    | non => cases rx; exact wpAny_is_other rfl (fun z => by cases z) ⟨.bl false, H, I, rfl, q'⟩
    | bl a =>
      cases rx
      exact wpAny_is_other rfl (fun z => e (by cases z; rfl)) ⟨.bl false, H, I, rfl, q'⟩
    | int i => obtain ⟨t, rfl⟩ := rx; exact wpAny_is_other rfl (fun z => by cases z) ⟨.bl false, H, I, rfl, q'⟩
    | str i => obtain ⟨t, rfl⟩ := rx; exact wpAny_is_other rfl (fun z => by cases z) ⟨.bl false, H, I, rfl, q'⟩
    | byt i => obtain ⟨t, rfl⟩ := rx; exact wpAny_is_other rfl (fun z => by cases z) ⟨.bl false, H, I, rfl, q'⟩
    | flt i => obtain ⟨t, rfl⟩ := rx; exact wpAny_is_other rfl (fun z => by cases z) ⟨.bl false, H, I, rfl, q'⟩
    | ref i => cases rx; exact wpAny_is_other rfl (fun z => by cases z) ⟨.bl false, H, I, rfl, q'⟩
    | ty i => cases rx; exact wpAny_is_other rfl (fun z => by cases z) ⟨.bl false, H, I, rfl, q'⟩
end
end Dl

namespace Dl
open PySem PySem.Spec PyProof.Rows L2
/-! ### truth, tests -/
def truD : D → Option Bool
  | .non => some false
  | .bl b => some b
  | .int i => some (i != 0)
  | .str x => if x.length ≤ sizeLine then some ((x.length : Int) != 0) else none
  | .lst xs => some (!xs.isEmpty)
  | .tup xs => some (!xs.isEmpty)
  | _ => none
theorem RepL.isEmpty {K : KF} {F : Hp} {vs : List V} {ds : List D} (r : RepL K F vs ds) : vs.isEmpty = ds.isEmpty := by
  cases r <;> rfl
theorem Rep.tru {K : KF} {F H : Hp} (e : Same F H) {v : V} {d : D} (h : Rep K F v d) {k : Bool} (q : truD d = some k) : TruV K v H k := by
  cases h with
  | non => cases q; rfl
  | bl b => cases q; rfl
  | int i => cases q; rfl
  | str x =>
    have q' : (if x.length ≤ sizeLine then some ((x.length : Int) != 0) else none) = some k := q
    by_cases c : x.length ≤ sizeLine
    · rw [if_pos c] at q'; cases q'; exact ⟨c, rfl⟩
    · rw [if_neg c] at q'; cases q'
  | lst s z r => cases q; exact .inl ⟨_, SqL.of (e _ _ s), by rw [r.isEmpty]⟩
  | tup s z r => cases q; exact .inr (.inl ⟨_, sqT_mono e s, by rw [r.isEmpty]⟩)
  | ty n => cases q
  | cl c => cases q
  | ins _ _ _ _ => cases q
  | dk _ _ _ => cases q
  | dt _ _ _ => cases q
  | frl _ _ => cases q
section
variable {X : Cx} {ios : List Nat} {Wx : WX} {a b c e : Expr} {es rest : List Expr} {fa fb fc f : M D} {ta tb tc : M Bool} {pos : Pos}
def test (f : M D) : M Bool := bnd f fun d => ofO (truD d)
theorem pb_truth (ha : PP X ios Wx a fa) (he : ∀ whole, isTrue a X.env whole = (do let v ← whole; standAt a.pos; holding [v] (truthy v)) := by intro _; rfl) : PB X ios Wx a (test fa) := by
  obtain ⟨t, p, r⟩ := ha.ex
  refine ⟨_, pt_truth p he, fun B F W E σ H Q S h => ?_⟩
  refine r B F W E σ H _ S (Pst.seq h fun F1 W1 H1 x d E1 S1 s1 r1 h1 => ?_)
  obtain ⟨k, ek, h2⟩ := h1.some
  exact ⟨k, r1.tru S1.fh ek, h2.done S1 rfl⟩
def notM (f : M Bool) : M Bool := bnd f fun b => ret (!b)
theorem pb_not (ha : PB X ios Wx a ta) : PB X ios Wx (.UnaryOp .Not a pos) (notM ta) := by
  obtain ⟨t, p, r⟩ := ha.ex
  refine ⟨_, pt_not p, fun B F W E σ H Q S h => ?_⟩
  refine r B F W E σ H _ S (Pst.seq h fun F1 W1 H1 x d E1 S1 s1 r1 h1 => ?_)
  exact h1.done S1 (by rw [r1])
def andM (f g : M Bool) : M Bool := bnd f fun b => if b = true then g else ret false
def orM (f g : M Bool) : M Bool := bnd f fun b => if b = true then ret true else g
theorem pbw_and1 (ha : PB X ios Wx a ta) : PBW X ios Wx (.BoolOp .And [a] pos) ta := by
  obtain ⟨t, p, r⟩ := ha.ex
  exact ⟨t, pw_and1 p, r⟩
theorem pbw_or1 (ha : PB X ios Wx a ta) : PBW X ios Wx (.BoolOp .Or [a] pos) ta := by
  obtain ⟨t, p, r⟩ := ha.ex
  exact ⟨t, pw_or1 p, r⟩
theorem pbw_and (ha : PB X ios Wx a ta) (hb : PBW X ios Wx (.BoolOp .And (b :: rest) pos) tb) : PBW X ios Wx (.BoolOp .And (a :: b :: rest) pos) (andM ta tb) := by
  obtain ⟨t1, p1, r1⟩ := ha.ex
  obtain ⟨t2, p2, r2⟩ := hb.ex
  refine ⟨_, pw_and p1 p2, fun B F W E σ H Q S h => ?_⟩
  refine r1 B F W E σ H _ S (Pst.seq h fun F1 W1 H1 x d E1 S1 s1 rr h1 => ?_)
  subst rr
  cases x with
  | true => exact r2 B F1 W1 E1 σ H1 Q S1 h1
  | false => exact h1.done S1 rfl
theorem pbw_or (ha : PB X ios Wx a ta) (hb : PBW X ios Wx (.BoolOp .Or (b :: rest) pos) tb) : PBW X ios Wx (.BoolOp .Or (a :: b :: rest) pos) (orM ta tb) := by
  obtain ⟨t1, p1, r1⟩ := ha.ex
  obtain ⟨t2, p2, r2⟩ := hb.ex
  refine ⟨_, pw_or p1 p2, fun B F W E σ H Q S h => ?_⟩
  refine r1 B F W E σ H _ S (Pst.seq h fun F1 W1 H1 x d E1 S1 s1 rr h1 => ?_)
  subst rr
  cases x with
  | true => exact h1.done S1 rfl
  | false => exact r2 B F1 W1 E1 σ H1 Q S1 h1
theorem pbw_pb (h : PBW X ios Wx a ta) : PB X ios Wx a ta := by
  obtain ⟨t, p, r⟩ := h.ex
  exact ⟨t, p.pt, r⟩
/-! ### and, or, not, if as values -/
theorem pp_one {op} (h : PP X ios Wx a f) : PP X ios Wx (.BoolOp op [a] pos) f := by
  obtain ⟨t, p, r⟩ := h.ex
  exact ⟨t, pe_one p, r⟩
def andV (f g : M D) : M D := bnd f fun d => bnd (ofO (truD d)) fun k => if k = true then g else ret d
def orV (f g : M D) : M D := bnd f fun d => bnd (ofO (truD d)) fun k => if k = true then ret d else g
theorem pp_and (ha : PP X ios Wx a fa) (hb : PP X ios Wx (.BoolOp .And (b :: rest) pos) fb) : PP X ios Wx (.BoolOp .And (a :: b :: rest) pos) (andV fa fb) := by
  obtain ⟨t1, p1, r1⟩ := ha.ex
  obtain ⟨t2, p2, r2⟩ := hb.ex
  refine ⟨_, pe_andT p1 p2, fun B F W E σ H Q S h => ?_⟩
  refine r1 B F W E σ H _ S (Pst.seq h fun F1 W1 H1 x d E1 S1 s1 rr h1 => ?_)
  unfold bnd at h1
  cases q : truD d with
  | none => rw [q] at h1; exact h1.elim
  | some k =>
    rw [q] at h1
    refine ⟨k, rr.tru S1.fh q, ?_⟩
    cases k with
    | true => exact r2 B F1 W1 E1 σ H1 Q S1 h1
    | false => exact h1 F1 W1 H1 x S1 (Stp.refl _ _ _) rr
theorem pp_or (ha : PP X ios Wx a fa) (hb : PP X ios Wx (.BoolOp .Or (b :: rest) pos) fb) : PP X ios Wx (.BoolOp .Or (a :: b :: rest) pos) (orV fa fb) := by
  obtain ⟨t1, p1, r1⟩ := ha.ex
  obtain ⟨t2, p2, r2⟩ := hb.ex
  refine ⟨_, pe_orT p1 p2, fun B F W E σ H Q S h => ?_⟩
  refine r1 B F W E σ H _ S (Pst.seq h fun F1 W1 H1 x d E1 S1 s1 rr h1 => ?_)
  unfold bnd at h1
  cases q : truD d with
  | none => rw [q] at h1; exact h1.elim
  | some k =>
    rw [q] at h1
    refine ⟨k, rr.tru S1.fh q, ?_⟩
    cases k with
    | true => exact h1 F1 W1 H1 x S1 (Stp.refl _ _ _) rr
    | false => exact r2 B F1 W1 E1 σ H1 Q S1 h1
def notV (f : M D) : M D := bnd f fun d => ofO ((truD d).map fun k => .bl (!k))
theorem pp_not (ha : PP X ios Wx a fa) : PP X ios Wx (.UnaryOp .Not a pos) (notV fa) := by
  obtain ⟨t1, p1, r1⟩ := ha.ex
  refine ⟨_, pe_notT p1, fun B F W E σ H Q S h => ?_⟩
  refine r1 B F W E σ H _ S (Pst.seq h fun F1 W1 H1 x d E1 S1 s1 rr h1 => ?_)
  cases q : truD d with
  | none => rw [q] at h1; exact h1.elim
  | some k =>
    rw [q] at h1
    exact ⟨k, rr.tru S1.fh q, h1 F1 W1 H1 _ S1 (Stp.refl _ _ _) (.bl _)⟩
def ifM {α : Type} (t : M Bool) (f g : M α) : M α := bnd t fun k => if k = true then f else g
theorem pp_if (hc : PB X ios Wx c tc) (ha : PP X ios Wx a fa) (hb : PP X ios Wx b fb) : PP X ios Wx (.IfExp c a b pos) (ifM tc fa fb) := by
  obtain ⟨t0, p0, r0⟩ := hc.ex
  obtain ⟨t1, p1, r1⟩ := ha.ex
  obtain ⟨t2, p2, r2⟩ := hb.ex
  refine ⟨_, pe_ifExp p0 p1 p2, fun B F W E σ H Q S h => ?_⟩
  refine r0 B F W E σ H _ S (Pst.seq h fun F1 W1 H1 x d E1 S1 s1 rr h1 => ?_)
  subst rr
  cases x with
  | true => exact r1 B F1 W1 E1 σ H1 Q S1 h1
  | false => exact r2 B F1 W1 E1 σ H1 Q S1 h1
theorem po_if {fa fb : M Ent} (hc : PB X ios Wx c tc) (ha : PO X ios Wx a fa) (hb : PO X ios Wx b fb) : PO X ios Wx (.IfExp c a b pos) (ifM tc fa fb) := by
  obtain ⟨t0, p0, r0⟩ := hc.ex
  obtain ⟨t1, p1, r1⟩ := ha.ex
  obtain ⟨t2, p2, r2⟩ := hb.ex
  refine ⟨_, pe_ifExp p0 p1 p2, fun B F W E σ H Q S h => ?_⟩
  refine r0 B F W E σ H _ S (PstO.seq h fun F1 W1 H1 x d E1 S1 s1 rr h1 => ?_)
  subst rr
  cases x with
  | true => exact r1 B F1 W1 E1 σ H1 Q S1 h1
  | false => exact r2 B F1 W1 E1 σ H1 Q S1 h1
/-! ### subscripts, slices -/
def ixD : D → D → Option D
  | .lst xs, .int i => atI xs i
  | .tup xs, .int i => atI xs i
  | .str x, .int i => if x.length ≤ sizeLine then (atI x.cps.toList i).map fun c => .str ⟨#[c]⟩ else none
  | _, _ => none
theorem RepL.atI {K : KF} {F : Hp} {vs : List V} {ds : List D} {i : Int} {d : D} (r : RepL K F vs ds) (h : L2.atI ds i = some d) : ∃ v, L2.atI vs i = some v ∧ Rep K F v d := by
  unfold L2.atI at h ⊢
  rw [r.length]
  cases q : ixN ds.length i with
  | none => rw [q] at h; cases h
  | some j =>
    rw [q] at h
    exact r.get h
theorem opd_ix {K : KF} : OpD K (rIx K) ixD := by
  intro F H x y d e z Q fh rx ry hz q
  cases d <;> cases e <;> first | (cases hz; done) | skip
  · rename_i a i
    have h' : (if a.length ≤ sizeLine then (L2.atI a.cps.toList i).map fun c => D.str ⟨#[c]⟩ else none) = some z := hz
    by_cases c : a.length ≤ sizeLine
    · rw [if_pos c] at h'
      cases q2 : L2.atI a.cps.toList i with
      | none => rw [q2] at h'; cases h'
      | some ch =>
        rw [q2] at h'
        cases h'
        cases rx; cases ry
        exact .inr (.inr ⟨_, _, _, rfl, rfl, c, q2, q F H _ (Gr.refl fh) (.str _)⟩)
    · rw [if_neg c] at h'; cases h'
  · cases ry
    cases rx with
    | lst s1 z1 r1 =>
      obtain ⟨v, e1, e2⟩ := r1.atI hz
      exact .inl ⟨_, _, _, _, rfl, rfl, SqL.of (fh _ _ s1), e1, q F H _ (Gr.refl fh) e2⟩
  · cases ry
    cases rx with
    | tup s1 z1 r1 =>
      obtain ⟨v, e1, e2⟩ := r1.atI hz
      exact .inr (.inl ⟨_, _, _, _, rfl, rfl, sqT_mono fh s1, e1, q F H _ (Gr.refl fh) e2⟩)
theorem pp_ix (ha : PP X ios Wx a fa) (hb : PP X ios Wx b fb) (hs : PlainIx b := by intro _ _; rfl) : PP X ios Wx (.Subscript a b pos) (bnd fa fun x => bnd fb fun y => ofO (ixD x y)) := by
  obtain ⟨ta, pa, ra⟩ := ha.ex
  obtain ⟨tb, pb, rb⟩ := hb.ex
  refine ⟨_, pe_ix ix_seq pa pb hs, fun B F W E σ H Q S h => ?_⟩
  refine ra B F W E σ H _ S (Pst.seq h fun F1 W1 H1 x d E1 S1 s1 r1 h1 => ?_)
  refine rb B F1 W1 E1 σ H1 _ S1 (Pst.seq h1 fun F2 W2 H2 y e E2 S2 s2 r2 h2 => ?_)
  obtain ⟨z, ez, h3⟩ := h2.some
  exact opd_ix F2 H2 x y d e z Q S2.fh (r1.mono s2.fx d) r2 ez fun F' H' v g rr => h3.grown S2 g rr
/-- an end of a slice -/
structure PPart (X : Cx) (ios : List Nat) (Wx : WX) (e : Option Expr) (f : M (Option Int)) : Prop where
  ex : ∃ t : TO, L2.PO X e t ∧ ∀ B F W E σ H Q, St X.K ios B F W E σ H → Pst X.K ios B Wx σ (fun _ (b : Option Int) a => b = a) F W H (f E) Q → t σ H Q
theorem part_none : PPart X ios Wx none (ret none) := ⟨_, po_none, fun B F W E σ H Q S h => h.done S rfl⟩
def asI : D → Option Int
  | .int i => some i
  | _ => none
theorem part_some (ha : PP X ios Wx a fa) : PPart X ios Wx (some a) (bnd fa fun d => bnd (ofO (asI d)) fun i => ret (some i)) := by
  obtain ⟨t, p, r⟩ := ha.ex
  refine ⟨_, po_some p, fun B F W E σ H Q S h => ?_⟩
  refine r B F W E σ H _ S (Pst.seq h fun F1 W1 H1 x d E1 S1 s1 rr h1 => ?_)
  cases d <;> first | exact h1.elim | skip
  cases rr
  exact ⟨_, rfl, h1 F1 W1 H1 _ S1 (Stp.refl _ _ _) rfl⟩
def cutD (xs : List D) (lo hi : Option Int) : List D := (xs.drop (HT.sIx xs.length 0 lo)).take (HT.sIx xs.length xs.length hi - HT.sIx xs.length 0 lo)
def sliceD (d : D) (lo hi : Option Int) : Option D := match d with
  | .lst xs => some (.lst (cutD xs lo hi))
  | .tup xs => some (.tup (cutD xs lo hi))
  | .frl ns => some (.lst (cutD (ns.map .int) lo hi))
  | _ => none
theorem RepL.cut {K : KF} {F : Hp} {vs : List V} {ds : List D} (r : RepL K F vs ds) (lo hi : Option Int) : RepL K F (cutV vs lo hi) (cutD ds lo hi) := by
  unfold cutV cutD
  rw [r.length]
  exact (r.drop _).take _
theorem cutD_le (xs : List D) (lo hi : Option Int) : (cutD xs lo hi).length ≤ xs.length := by
  unfold cutD
  rw [List.length_take, List.length_drop]
  omega
theorem cutD_whole {xs : List D} {lo hi : Option Int} (h : HT.sIx xs.length 0 lo = 0 ∧ HT.sIx xs.length xs.length hi = xs.length) : cutD xs lo hi = xs := by
  unfold cutD
  rw [h.1, h.2, List.drop_zero, Nat.sub_zero, List.take_length]
def rSlX (K : KF) : V → Option Int → Option Int → Hp → VK → Prop := fun x lo hi H Q => rSlL K x lo hi H Q ∨ rSlA K x lo hi H Q
theorem pp_slice {lo hi : Option Expr} {fl fh : M (Option Int)} {p2 : Pos} (ha : PP X ios Wx a fa) (hl : PPart X ios Wx lo fl) (hh : PPart X ios Wx hi fh) : PP X ios Wx (.Subscript a (.Slice lo hi none p2) pos) (bnd fa fun x => bnd fl fun l => bnd fh fun u => ofO (sliceD x l u)) := by
  obtain ⟨ta, pa, ra⟩ := ha.ex
  obtain ⟨tl, pl, rl⟩ := hl.ex
  obtain ⟨th, ph, rh⟩ := hh.ex
  refine ⟨_, pe_slice (r := rSlX X.K) (sl_list.or sl_tupA) pa pl ph, fun B F W E σ H Q S h => ?_⟩
  refine ra B F W E σ H _ S (Pst.seq h fun F1 W1 H1 x d E1 S1 s1 r1 h1 => ?_)
  refine rl B F1 W1 E1 σ H1 _ S1 (Pst.seq h1 fun F2 W2 H2 l l' E2 S2 s2 r2 h2 => ?_)
  refine rh B F2 W2 E2 σ H2 _ S2 (Pst.seq h2 fun F3 W3 H3 u u' E3 S3 s3 r3 h3 => ?_)
  subst r2 r3
  obtain ⟨z, ez, h4⟩ := h3.some
  have rx := r1.mono (s2.fx.trans s3.fx) d
  have q : ∀ F' H' v, Gr F3 H3 F' H' → Rep X.K F' v z → Q v H' := fun F' H' v g rr => h4.grown S3 g rr
  cases d <;> first | (cases ez; done) | skip
  · cases ez
    cases rx with
    | lst s z r => exact .inl ⟨_, _, rfl, SqL.of (S3.fh _ _ s), fun p hp => new_lst q S3.fh hp (Nat.le_trans (cutD_le _ _ _) z) (r.cut _ _)⟩
  · cases ez
    cases rx with
    | tup s z r =>
      refine .inr ⟨_, _, rfl, sqT_mono S3.fh s, fun w => ?_, fun _ p hp => new_tup q S3.fh hp (Nat.le_trans (cutD_le _ _ _) z) (r.cut _ _)⟩
      rw [r.length] at w
      exact q F3 H3 _ (Gr.refl S3.fh) (by rw [cutD_whole w]; exact .tup s z r)
  · rename_i ns
    cases ez
    cases rx with
    | frl s z => exact .inl ⟨_, _, rfl, sqL_mono S3.fh s, fun p hp => new_lst q S3.fh hp (Nat.le_trans (cutD_le _ _ _) (by rw [List.length_map]; exact z)) ((RepL.ofInts ns).cut _ _)⟩
/-! ### in -/
def flats : List D → Option (List V)
  | [] => some []
  | d :: r => match flat d, flats r with
    | some v, some vs => some (v :: vs)
    | _, _ => none
theorem RepL.flats {K : KF} {F : Hp} : ∀ {vs ws : List V} {ds : List D}, RepL K F vs ds → flats ds = some ws → vs = ws
  | [], _, _, h, e => by cases h; cases e; rfl
  | v :: vs, ws, _, h, e => by
    cases h with
    | cons h1 h2 =>
      rename_i d ds
      have e' : (match flat d, Dl.flats ds with
        | some v, some vs => some (v :: vs)
        | _, _ => none) = some ws := e
      cases q1 : flat d with
      | none => rw [q1] at e'; cases e'
      | some x =>
        rw [q1] at e'
        cases q2 : Dl.flats ds with
        | none => rw [q2] at e'; cases e'
        | some xs =>
          rw [q2] at e'
          cases e'
          rw [h1.flat q1, h2.flats q2]
def seqOf : D → Option (List D)
  | .lst xs => some xs
  | .tup xs => some xs
  | _ => none
def flatIn (d e : D) : Option Bool := match flat d, seqOf e with
  | some v, some xs => match flats xs with
    | some vs => if flatV v = true ∧ vs.all flatV = true then some (inV v vs) else none
    | none => none
  | _, _ => none
def deepIn (d e : D) : Option Bool := match toP d, toP e with
  | some p, some (.list qs) => if SeqAt.shaped p = true ∧ SeqAt.shaped (.list qs) = true then some (qs.any fun z => PyData.eqv z p) else none
  | _, _ => none
def inB (d e : D) : Option Bool := match flatIn d e with
  | some b => some b
  | none => deepIn d e
def inD (d e : D) : Option D := (inB d e).map .bl
def ninD (d e : D) : Option D := (inB d e).map fun b => .bl (!b)
def rInA (K : KF) : R2 := fun x y H Q => rIn K false x y H Q ∨ rInD K x y H Q
def rNinA (K : KF) : R2 := fun x y H Q => rIn K true x y H Q ∨ rNotInD K x y H Q
theorem op_inA (hu : X.A.units + 65 < cLine) : OpR X (compareOp .In) (rInA X.K) := op_in_seq.or (op_inD hu)
theorem op_ninA (hu : X.A.units + 65 < cLine) : OpR X (compareOp .NotIn) (rNinA X.K) := op_notIn_seq.or (op_notInD hu)
theorem flatIn_of {d e : D} {b : Bool} (h : flatIn d e = some b) : ∃ v xs vs, flat d = some v ∧ seqOf e = some xs ∧ flats xs = some vs ∧ flatV v = true ∧ vs.all flatV = true ∧ b = inV v vs := by
  unfold flatIn at h
  cases q1 : flat d with
  | none => rw [q1] at h; cases h
  | some v =>
    rw [q1] at h
    cases q2 : seqOf e with
    | none => rw [q2] at h; cases h
    | some xs =>
      rw [q2] at h
      have h2 : (match flats xs with
        | some vs => if flatV v = true ∧ vs.all flatV = true then some (inV v vs) else none
        | none => none) = some b := h
      cases q3 : flats xs with
      | none => rw [q3] at h2; cases h2
      | some vs =>
        rw [q3] at h2
        have h3 : (if flatV v = true ∧ vs.all flatV = true then some (inV v vs) else none) = some b := h2
        by_cases c : flatV v = true ∧ vs.all flatV = true
        · rw [if_pos c] at h3; cases h3; exact ⟨v, xs, vs, rfl, rfl, q3, c.1, c.2, rfl⟩
        · rw [if_neg c] at h3; cases h3
theorem deepIn_of {d e : D} {b : Bool} (h : deepIn d e = some b) : ∃ p qs, toP d = some p ∧ toP e = some (.list qs) ∧ SeqAt.shaped p = true ∧ SeqAt.shaped (.list qs) = true ∧ b = qs.any fun z => PyData.eqv z p := by
  unfold deepIn at h
  cases q1 : toP d with
  | none => rw [q1] at h; cases h
  | some p =>
    rw [q1] at h
    cases q2 : toP e with
    | none => rw [q2] at h; cases h
    | some q =>
      rw [q2] at h
      cases q with
      | list qs =>
        have h3 : (if SeqAt.shaped p = true ∧ SeqAt.shaped (.list qs) = true then some (qs.any fun z => PyData.eqv z p) else none) = some b := h
        by_cases c : SeqAt.shaped p = true ∧ SeqAt.shaped (.list qs) = true
        · rw [if_pos c] at h3; cases h3; exact ⟨p, qs, rfl, rfl, c.1, c.2, rfl⟩
        · rw [if_neg c] at h3; cases h3
      | _ => cases h
theorem seq_of {K : KF} {F H : Hp} (fh : Same F H) {v : V} {d : D} {xs : List D} (h : Rep K F v d) (e : seqOf d = some xs) : ∃ p vs, v = .ref p ∧ (SqL K H p vs ∨ SqT K H p vs) ∧ RepL K F vs xs := by
  cases h <;> first | (cases e; done) | skip
  · cases e
    rename_i s z r
    exact ⟨_, _, rfl, .inl (SqL.of (fh _ _ s)), r⟩
  · cases e
    rename_i s z r
    exact ⟨_, _, rfl, .inr (sqT_mono fh s), r⟩
theorem opd_in {K : KF} : OpD K (rInA K) inD := by
  intro F H x y d e z Q fh rx ry hz q
  unfold inD inB at hz
  cases h : flatIn d e with
  | some b =>
    rw [h] at hz
    cases hz
    obtain ⟨v, xs, vs, e1, e2, e3, f1, f2, rfl⟩ := flatIn_of h
    obtain ⟨p, ws, rfl, sq, r⟩ := seq_of fh ry e2
    rw [rx.flat e1]
    refine .inl ⟨p, ws, rfl, sq, f1, by rw [r.flats e3]; exact f2, ?_⟩
    rw [r.flats e3, if_neg Bool.false_ne_true]
    exact q F H _ (Gr.refl fh) (.bl _)
  | none =>
    rw [h] at hz
    cases h2 : deepIn d e with
    | none => rw [h2] at hz; cases hz
    | some b =>
      rw [h2] at hz
      cases hz
      obtain ⟨p, qs, e1, e2, s1, s2, rfl⟩ := deepIn_of h2
      exact .inr ⟨p, qs, rx.dp fh d e1, ry.dp fh e e2, s1, s2, q F H _ (Gr.refl fh) (.bl _)⟩
theorem opd_nin {K : KF} : OpD K (rNinA K) ninD := by
  intro F H x y d e z Q fh rx ry hz q
  unfold ninD inB at hz
  cases h : flatIn d e with
  | some b =>
    rw [h] at hz
    cases hz
    obtain ⟨v, xs, vs, e1, e2, e3, f1, f2, rfl⟩ := flatIn_of h
    obtain ⟨p, ws, rfl, sq, r⟩ := seq_of fh ry e2
    rw [rx.flat e1]
    refine .inl ⟨p, ws, rfl, sq, f1, by rw [r.flats e3]; exact f2, ?_⟩
    rw [r.flats e3, if_pos rfl]
    exact q F H _ (Gr.refl fh) (.bl _)
  | none =>
    rw [h] at hz
    cases h2 : deepIn d e with
    | none => rw [h2] at hz; cases hz
    | some b =>
      rw [h2] at hz
      cases hz
      obtain ⟨p, qs, e1, e2, s1, s2, rfl⟩ := deepIn_of h2
      exact .inr ⟨p, qs, rx.dp fh d e1, ry.dp fh e e2, s1, s2, q F H _ (Gr.refl fh) (.bl _)⟩
/-! ### fields -/
def fldAt : Str → List Str → List D → Option D
  | f, n :: ns, d :: ds => if f = n then some d else fldAt f ns ds
  | _, _, _ => none
def attrD (cs : List Str) (f : Str) : D → Option D
  | .ins c ns ds => if cs.contains c = true then fldAt f ns ds else none
  | _ => none
theorem lookup_fld {K : KF} {F : Hp} {f : Str} {d : D} : ∀ {fs : List (Str × V)} {ds : List D}, RepL K F (fs.map (·.2)) ds → fldAt f (fs.map (·.1)) ds = some d → ∃ v, fs.lookup f = some v ∧ Rep K F v d
  | [], _, h, e => by cases h; cases e
  | (n, v) :: fs, _, h, e => by
    cases h with
    | cons h1 h2 =>
      rename_i d0 ds
      have e' : (if f = n then some d0 else fldAt f (fs.map (·.1)) ds) = some d := e
      by_cases c : f = n
      · rw [if_pos c] at e'; cases e'
        subst c
        exact ⟨v, by simp [List.lookup], h1⟩
      · rw [if_neg c] at e'
        obtain ⟨u, e1, e2⟩ := lookup_fld h2 e'
        have c2 : (f == n) = false := by simpa using c
        exact ⟨u, by simp [List.lookup, c2, e1], e2⟩
theorem pp_attr {f : Str} (cs : List Str) (hc : ∀ c ∈ cs, Cls X.K (He.ga X.K c) ∧ NoAttr X.K (He.ga X.K c) f) (ha : PP X ios Wx a fa) (hb : attributeBase a f X.env (eval a X.env) = eval a X.env := by rfl) : PP X ios Wx (.Attribute a f pos) (bnd fa fun x => ofO (attrD cs f x)) := by
  obtain ⟨ta, pa, ra⟩ := ha.ex
  refine ⟨_, pe_fld pa hb, fun B F W E σ H Q S h => ?_⟩
  refine ra B F W E σ H _ S (Pst.seq h fun F1 W1 H1 x d E1 S1 s1 r1 h1 => ?_)
  obtain ⟨z, ez, h2⟩ := h1.some
  cases d <;> first | (cases ez; done) | skip
  rename_i c ns ds
  have e' : (if cs.contains c = true then fldAt f ns ds else none) = some z := ez
  by_cases hin : cs.contains c = true
  · rw [if_pos hin] at e'
    have hm : c ∈ cs := by simpa using hin
    cases r1 with
    | ins s k n r =>
      subst n k
      obtain ⟨v, e1, e2⟩ := lookup_fld r e'
      exact ⟨_, _, _, _, v, rfl, S1.fh _ _ s, (hc c hm).1, (hc c hm).2, e1, h2.done S1 e2⟩
  · rw [if_neg hin] at e'; cases e'
/-! ### built-in functions -/
def CallD (K : KF) (r : List V → Hp → VK → Prop) (g : List D → Option D) : Prop := ∀ (F H : Hp) (vs : List V) (ds : List D) (z : D) (Q : VK), Same F H → RepL K F vs ds → g ds = some z → (∀ F' H' v, Gr F H F' H' → Rep K F' v z → Q v H') → r vs H Q
theorem pp_callB {x : Str} {id : String} {p : Pos} {r : List V → Hp → VK → Prop} {g : List D → Option D} {fs : M (List D)} (hc : CallR X (.builtin id) r) (hd : CallD X.K r g) (hg : Gl X x) (hm : X.mg x = none) (hv : bootBuiltins x = some (.builtin id)) (ha : PL X ios Wx (e :: es) fs)
    (hn : x ≠ "__name__" := by decide) (hdb : (x == ("__debug__" : Str)) = false := by decide) (he : starEach (e :: es) X.env = (false, eval e X.env) :: starEach es X.env := by rfl) (hpl : (backTo pos (starEach es X.env)).any (·.1) = false := by rfl) :
    PP X ios Wx (.Call (.Name x p) (e :: es) [] pos) (bnd fs fun xs => ofO (g xs)) := by
  obtain ⟨t, pa, ra⟩ := ha.ex
  refine ⟨_, pe_callB hc hg hm hv pa hn hdb he hpl, fun B F W E σ H Q S h => ?_⟩
  refine ra B F W E σ H _ S (Pst.seq h fun F1 W1 H1 vs ds E1 S1 s1 r1 h1 => ?_)
  obtain ⟨z, ez, h2⟩ := h1.some
  exact hd F1 H1 vs ds z Q S1.fh r1 ez fun F' H' v g rr => h2.grown S1 g rr
theorem pp_callT {x : Str} {T : String} {p : Pos} {r : List V → Hp → VK → Prop} {g : List D → Option D} {fs : M (List D)} (hc : CallR X (.type T) r) (hd : CallD X.K r g) (hg : Gl X x) (hm : X.mg x = none) (hv : bootBuiltins x = some (.type T)) (ha : PL X ios Wx (e :: es) fs)
    (hn : x ≠ "__name__" := by decide) (hdb : (x == ("__debug__" : Str)) = false := by decide) (he : starEach (e :: es) X.env = (false, eval e X.env) :: starEach es X.env := by rfl) (hpl : (backTo pos (starEach es X.env)).any (·.1) = false := by rfl) :
    PP X ios Wx (.Call (.Name x p) (e :: es) [] pos) (bnd fs fun xs => ofO (g xs)) := by
  obtain ⟨t, pa, ra⟩ := ha.ex
  refine ⟨_, pe_callTy hc hg hm hv pa hn hdb he hpl, fun B F W E σ H Q S h => ?_⟩
  refine ra B F W E σ H _ S (Pst.seq h fun F1 W1 H1 vs ds E1 S1 s1 r1 h1 => ?_)
  obtain ⟨z, ez, h2⟩ := h1.some
  exact hd F1 H1 vs ds z Q S1.fh r1 ez fun F' H' v g rr => h2.grown S1 g rr
end
end Dl

namespace Dl
open PySem PySem.Spec PyProof.Rows L2
/-! ### targets -/
def putE (i : Nat) (d : D) (E : Nv) : Option Nv := some (E.set i (some (.sh, d)))
def tgN : List D → Nv → Option Nv
  | [], E => some E
  | _, _ => none
def tgC (h : D → Nv → Option Nv) (hs : List D → Nv → Option Nv) : List D → Nv → Option Nv
  | d :: ds, E => (h d E).bind (hs ds)
  | _, _ => none
def tgT (n : Nat) (hs : List D → Nv → Option Nv) : D → Nv → Option Nv
  | .tup ds, E => if ds.length = n then hs ds E else none
  | _, _ => none
structure PT' (X : Cx) (ios : List Nat) (tg : Expr) (h : D → Nv → Option Nv) : Prop where
  ex : ∃ g : TG, PG X tg g ∧ ∀ B F W E E' σ H v d Q, St X.K ios B F W E σ H → Rep X.K F v d → h d E = some E' → (∀ σ' W', St X.K ios B F W' E' σ' H → Q σ' H) → g v σ H Q
structure PTs' (X : Cx) (ios : List Nat) (tgs : List Expr) (h : List D → Nv → Option Nv) : Prop where
  ex : ∃ g : TGs, PGs X tgs g ∧ ∀ B F W E E' σ H vs ds Q, St X.K ios B F W E σ H → RepL X.K F vs ds → h ds E = some E' → (∀ σ' W', St X.K ios B F W' E' σ' H → Q σ' H) → g vs σ H Q
section
variable {X : Cx} {ios : List Nat} {Wx : WX} {a b c e tg : Expr} {es tgs : List Expr} {pos : Pos}
theorem tg_name {i : Nat} {x : Str} (hN : X.N.Nodup) (hi : X.N[i]? = some x) (hx : Loc X.env.scope x) (hio : ios.contains i = false) (hf : X.fn x = true ∨ X.env.scope.names.lookup x = some .local := by first | exact .inl rfl | exact .inr rfl | assumption) :
    PT' X ios (.Name x pos) (putE i) := by
  refine ⟨_, pg_name hN hi hx hf, fun B F W E E' σ H v d Q S r h k => ?_⟩
  cases h
  exact k _ _ (S.put hio (Wr := noW) Fresh.no r)
theorem tgs_nil : PTs' X ios [] tgN := by
  refine ⟨_, pgs_nil, fun B F W E E' σ H vs ds Q S r h k => ?_⟩
  cases ds with
  | nil => cases r; cases h; exact ⟨rfl, k σ W S⟩
  | cons d ds => cases h
theorem tgs_cons {h : D → Nv → Option Nv} {hs : List D → Nv → Option Nv} (h1 : PT' X ios tg h) (h2 : PTs' X ios tgs hs)
    (hs' : (assignEach (tg :: tgs) X.env).map (·.2) = assign tg X.env :: (assignEach tgs X.env).map (·.2) := by rfl) : PTs' X ios (tg :: tgs) (tgC h hs) := by
  obtain ⟨g1, p1, r1⟩ := h1.ex
  obtain ⟨g2, p2, r2⟩ := h2.ex
  refine ⟨_, pgs_cons p1 p2 hs', fun B F W E E' σ H vs ds Q S r hh k => ?_⟩
  cases ds with
  | nil => cases hh
  | cons d ds =>
    cases r with
    | cons q1 q2 =>
      have hh' : (h d E).bind (hs ds) = some E' := hh
      cases e1 : h d E with
      | none => rw [e1] at hh'; cases hh'
      | some E1 =>
        rw [e1] at hh'
        exact ⟨_, _, rfl, r1 B F W E E1 σ H _ d _ S q1 e1 fun σ1 W1 S1 => r2 B F W1 E1 E' σ1 H _ ds Q S1 q2 hh' k⟩
/-- (a, b, ..) = a tuple of that length -/
theorem tg_tup {n k : Nat} {hs : List D → Nv → Option Nv} (hc : X.calm = true) (h : PTs' X ios es hs) (hn : (assignEach es X.env).length = n := by rfl) (hst : (assignEach es X.env).findIdx? (·.1) = none := by rfl) :
    PT' X ios (.Tuple es k pos) (tgT n hs) := by
  obtain ⟨g, p, r⟩ := h.ex
  refine ⟨_, pg_tup hc p hn hst, fun B F W E E' σ H v d Q S rr hh kk => ?_⟩
  cases d <;> first | (cases hh; done) | skip
  rename_i ds
  have hh' : (if ds.length = n then hs ds E else none) = some E' := hh
  by_cases c : ds.length = n
  · rw [if_pos c] at hh'
    cases rr with
    | tup s z q => exact ⟨_, _, rfl, sqT_mono S.fh s, by rw [q.length]; exact c, r B F W E E' σ H _ ds Q S q hh' kk⟩
  · rw [if_neg c] at hh'; cases hh'
/-- target = e -/
def asgS (h : D → Nv → Option Nv) (f : M D) : G := andS f fun d E => match h d E with
  | some E' => .nx E'
  | none => .stk
theorem pd_asg {h : D → Nv → Option Nv} {f : M D} (he : PP X ios Wx e f) (hg : PT' X ios tg h) (hs : swapsWithSole [tg] e pos.line X.env = pure false := by rfl) (hw : swappedStores [tg] e X.env = pure none := by rfl)
    (h1 : (assignEach [tg] X.env).map (·.2) = [assign tg X.env] := by rfl) : PD X ios Wx (.Assign [tg] e pos) (asgS h f) := by
  obtain ⟨t, p, r⟩ := he.ex
  obtain ⟨g, p2, r2⟩ := hg.ex
  refine ⟨_, ps_asg p p2 hs hw h1, fun B F W E σ H D S k => ?_⟩
  refine r B F W E σ H _ S (PstS.seq k fun F1 W1 H1 v d E1 S1 s1 rr k1 => ?_)
  cases q : h d E1 with
  | none => rw [q] at k1; exact k1.elim
  | some E2 =>
    rw [q] at k1
    exact r2 B F1 W1 E1 E2 σ H1 v d _ S1 rr q fun σ' W' S' => k1 F1 W' H1 σ' S' (Same.refl F1)
/-- a, b = x, y -/
def par2S (i j : Nat) (f : M (List D)) : G := andS f fun ds E => match ds with
  | [d, e] => .nx ((E.set i (some (.sh, d))).set j (some (.sh, e)))
  | _ => .stk
theorem pd_par {i j : Nat} {x y : Str} {px py pt : Pos} {kt k2 pt2} {fs : M (List D)} (hc : X.calm = true) (hN : X.N.Nodup) (hi : X.N[i]? = some x) (hj : X.N[j]? = some y) (hij : i ≠ j)
    (hx : X.env.scope.names.lookup x = some .local) (hy : X.env.scope.names.lookup y = some .local) (hio : ios.contains i = false) (hjo : ios.contains j = false) (ha : PL X ios Wx [a, b] fs)
    (hw : swappedStores [.Tuple [.Name x px, .Name y py] kt pt] (.Tuple [a, b] k2 pt2) X.env = pure (some [x, y]))
    (hs : swapsWithSole [.Tuple [.Name x px, .Name y py] kt pt] (.Tuple [a, b] k2 pt2) pos.line X.env = pure false := by rfl) :
    PD X ios Wx (.Assign [.Tuple [.Name x px, .Name y py] kt pt] (.Tuple [a, b] k2 pt2) pos) (par2S i j fs) := by
  obtain ⟨t, p, r⟩ := ha.ex
  refine ⟨_, ps_par hc hN hi hj hij hx hy p hw hs, fun B F W E σ H D S k => ?_⟩
  refine r B F W E σ H _ S (PstS.seq k fun F1 W1 H1 vs ds E1 S1 s1 rr k1 => ?_)
  cases rr with
  | nil => exact k1.elim
  | cons q1 rr =>
    cases rr with
    | nil => exact k1.elim
    | cons q2 rr =>
      cases rr with
      | nil => exact ⟨_, _, rfl, k1 F1 _ H1 _ ((S1.put hio (p := (.sh, _)) (Wr := noW) Fresh.no q1).put hjo (p := (.sh, _)) (Wr := noW) Fresh.no q2) (Same.refl F1)⟩
      | cons _ _ => exact k1.elim
def par3S (i j l : Nat) (f : M (List D)) : G := andS f fun ds E => match ds with
  | [d, e, g] => .nx (((E.set i (some (.sh, d))).set j (some (.sh, e))).set l (some (.sh, g)))
  | _ => .stk
end
/-! ### what is walked -/
/-- the walk J gives the data ds -/
structure Wlk (K : KF) (J : It) (ds : List D) (F0 : Hp) : Prop where
  go : ∀ i F H, Same F0 F → Same F H → i < ds.length → J.go i H
  yld : ∀ i F H x H' d, Same F0 F → Same F H → J.yld i H x H' → ds[i]? = some d → ∃ F', Gr F H F' H' ∧ Rep K F' x d
  stop : ∀ i F H, Same F0 F → Same F H → ds.length ≤ i → J.stop i H
structure PIt (X : Cx) (ios : List Nat) (Wx : WX) (tg iter : Expr) (f : M (List D)) : Prop where
  ex : ∃ wi : TI, PI X tg iter wi ∧ ∀ B F W E σ H R, St X.K ios B F W E σ H → Pst X.K ios B Wx σ (fun F' (J : It) ds => Wlk X.K J ds F') F W H (f E) R → wi σ H R
def loopS (asg : D → Nv → Option Nv) (body : G) : List D → G
  | [], E => .nx E
  | d :: ds, E => match asg d E with
    | none => .stk
    | some E1 => match body E1 with
      | .nx E2 => loopS asg body ds E2
      | .ct E2 => loopS asg body ds E2
      | .bk E2 => .nx E2
      | .rt p E2 => .rt p E2
      | .er x E2 => .er x E2
      | .stk => .stk
def forS (f : M (List D)) (asg : D → Nv → Option Nv) (body : G) : G := andS f fun ds => loopS asg body ds
section
variable {X : Cx} {ios : List Nat} {Wx : WX} {a b c e tg iter : Expr} {es tgs : List Expr} {pos : Pos} {body : List Stmt}
theorem pd_for {f : M (List D)} {asg : D → Nv → Option Nv} {g : G} (hp : PassesOwn (model X.prog X.w) X.A X.env X.xe) (hc : X.calm = true) (hi : PIt X ios Wx tg iter f) (hg : PT' X ios tg asg) (hb : PDs X ios Wx body g)
    (hs : ∀ x, foldedSetIterable iter X.env x = pure x := by intro _; rfl) : PD X ios Wx (.For tg iter body [] pos) (forS f asg g) := by
  obtain ⟨wi, pi, ri⟩ := hi.ex
  obtain ⟨gg, pg, rg⟩ := hg.ex
  obtain ⟨tb, pb, rb⟩ := hb.ex
  refine ⟨_, ps_for hp hc pi pg pb hs, fun B F W E σ H D S k => ?_⟩
  refine ri B F W E σ H _ S (PstS.seq k fun F1 W1 H1 J ds E1 S1 s1 wl k1 => ?_)
  refine ⟨fun i m σ' H' => m = ds.length - i ∧ i ≤ ds.length ∧ ∃ F' W' E', St X.K ios B F' W' E' σ' H' ∧ Same F1 F' ∧ PstS X.K ios B Wx F' (loopS asg g (ds.drop i) E') D,
    ⟨ds.length, by simp, Nat.zero_le _, F1, W1, E1, S1, Same.refl F1, k1⟩, ?_⟩
  rintro i m σ' H' ⟨rfl, hi, F', W', E', S', e', k'⟩
  by_cases hlt : i < ds.length
  · refine .inr ⟨wl.go i F' H' e' S'.fh hlt, fun σ2 H2 => ∃ F2 W2 E2, St X.K ios B F2 W2 E2 σ2 H2 ∧ Same F1 F2 ∧ PstS X.K ios B Wx F2 (loopS asg g (ds.drop (i + 1)) E2) D, fun σ2 H2 h2 => ⟨ds.length - (i + 1), by omega, rfl, hlt, h2⟩, fun x H2 hy => ?_⟩
    have ed : ds[i]? = some ds[i] := List.getElem?_eq_getElem hlt
    obtain ⟨F2, gr, rx⟩ := wl.yld i F' H' x H2 _ e' S'.fh hy ed
    have S2 := S'.grow gr
    rw [List.drop_eq_getElem_cons hlt] at k'
    have k2 : PstS X.K ios B Wx F2 (loopS asg g (ds[i] :: ds.drop (i + 1)) E') D := PstS.from gr.fx k'
    unfold loopS at k2
    cases q : asg ds[i] E' with
    | none => rw [q] at k2; exact k2.elim
    | some E3 =>
      rw [q] at k2
      refine rg B F2 W' E' E3 σ' H2 x _ _ S2 rx q fun σ3 W3 S3 => ?_
      refine rb B F2 W3 E3 σ3 H2 _ S3 ?_
      cases q2 : g E3 with
      | nx E4 => simp only [q2] at k2; exact fun F4 W4 H4 σ4 S4 t4 => ⟨F4, W4, E4, S4, e'.trans (gr.fx.trans t4), PstS.from t4 k2⟩
      | ct E4 => simp only [q2] at k2; exact fun F4 W4 H4 σ4 S4 t4 => ⟨F4, W4, E4, S4, e'.trans (gr.fx.trans t4), PstS.from t4 k2⟩
      | bk E4 => simp only [q2] at k2; exact fun F4 W4 H4 σ4 S4 t4 => k2 F4 W4 H4 σ4 S4 t4
      | rt p E4 => simp only [q2] at k2; exact fun F4 W4 H4 σ4 v Wr S4 t4 => k2 F4 W4 H4 σ4 v Wr S4 t4
      | er x E4 => simp only [q2] at k2; exact fun F4 W4 H4 σ4 c dx S4 t4 => k2 F4 W4 H4 σ4 c dx S4 t4
      | stk => simp only [q2] at k2; exact k2.elim
  · have e : i = ds.length := by omega
    subst e
    rw [List.drop_length] at k'
    exact .inl ⟨wl.stop _ F' H' e' S'.fh (Nat.le_refl _), k' F' W' H' σ' S' (Same.refl F')⟩
/-! ### lists, tuples, ranges walked -/
theorem wlk_list {K : KF} {F0 : Hp} {a : Addr} {vs : List V} {ds : List D} (h : F0 a = some (.lst vs)) (r : RepL K F0 vs ds) : Wlk K (Itl K a) ds F0 where
  go := fun i F H e1 e2 hi => by
    have hl := r.length
    exact ⟨vs, vs[i], SqL.of (e2 _ _ (e1 _ _ h)), List.getElem?_eq_getElem (by omega)⟩
  yld := fun i F H x H' d e1 e2 hy hd => by
    obtain ⟨rfl, hq⟩ := hy
    obtain ⟨v, ev, rv⟩ := r.get hd
    have ex := hq vs (SqL.of (e2 _ _ (e1 _ _ h)))
    rw [ev] at ex
    cases ex
    exact ⟨F, Gr.refl e2, rv.mono e1 d⟩
  stop := fun i F H e1 e2 hi => ⟨vs, SqL.of (e2 _ _ (e1 _ _ h)), by rw [r.length]; exact hi⟩
theorem wlk_tup {K : KF} {F0 : Hp} {a : Addr} {vs : List V} {ds : List D} (h : SqT K F0 a vs) (r : RepL K F0 vs ds) : Wlk K (Itt K a) ds F0 where
  go := fun i F H e1 e2 hi => by
    have hl := r.length
    exact ⟨vs, vs[i], sqT_mono e2 (sqT_mono e1 h), List.getElem?_eq_getElem (by omega)⟩
  yld := fun i F H x H' d e1 e2 hy hd => by
    obtain ⟨rfl, hq⟩ := hy
    obtain ⟨v, ev, rv⟩ := r.get hd
    have ex := hq vs (sqT_mono e2 (sqT_mono e1 h))
    rw [ev] at ex
    cases ex
    exact ⟨F, Gr.refl e2, rv.mono e1 d⟩
  stop := fun i F H e1 e2 hi => ⟨vs, sqT_mono e2 (sqT_mono e1 h), by rw [r.length]; exact hi⟩
def rng (lo : Int) (n : Nat) : List D := (List.range n).map fun i => .int (lo + (i : Nat))
theorem wlk_rng {K : KF} {F0 : Hp} {lo : Int} {n : Nat} : Wlk K (Itr lo n) (rng lo n) F0 where
  go := fun i F H e1 e2 hi => by
    unfold rng at hi
    rw [List.length_map, List.length_range] at hi
    exact hi
  yld := fun i F H x H' d e1 e2 hy hd => by
    obtain ⟨rfl, rfl⟩ := hy
    unfold rng at hd
    rw [List.getElem?_map] at hd
    cases q : (List.range n)[i]? with
    | none => rw [q] at hd; cases hd
    | some j =>
      rw [q] at hd
      have ej : j = i := by
        rw [List.getElem?_range] at q
        · cases q; rfl
        · have := (List.getElem?_eq_some_iff.mp q).1
          rw [List.length_range] at this; exact this
      subst ej
      cases hd
      exact ⟨F, Gr.refl e2, .int _⟩
  stop := fun i F H e1 e2 hi => by
    unfold rng at hi
    rw [List.length_map, List.length_range] at hi
    exact hi
def lstOf : D → Option (List D)
  | .lst xs => some xs
  | _ => none
def tupOf : D → Option (List D)
  | .tup xs => some xs
  | _ => none
theorem it_list {f : M D} (ha : PP X ios Wx a f) : PIt X ios Wx tg a (bnd f fun d => ofO (lstOf d)) := by
  obtain ⟨t, p, r⟩ := ha.ex
  refine ⟨_, pi_list p, fun B F W E σ H R S h => ?_⟩
  refine r B F W E σ H _ S (Pst.seq h fun F1 W1 H1 x d E1 S1 s1 rr h1 => ?_)
  cases d <;> first | exact h1.elim | skip
  cases rr with
  | lst s z q => exact ⟨_, rfl, ⟨_, SqL.of (S1.fh _ _ s)⟩, h1 F1 W1 H1 _ S1 (Stp.refl _ _ _) (wlk_list s q)⟩
theorem it_tup {f : M D} (ha : PP X ios Wx a f) : PIt X ios Wx tg a (bnd f fun d => ofO (tupOf d)) := by
  obtain ⟨t, p, r⟩ := ha.ex
  refine ⟨_, pi_tup p, fun B F W E σ H R S h => ?_⟩
  refine r B F W E σ H _ S (Pst.seq h fun F1 W1 H1 x d E1 S1 s1 rr h1 => ?_)
  cases d <;> first | exact h1.elim | skip
  cases rr with
  | tup s z q => exact ⟨_, rfl, ⟨_, sqT_mono S1.fh s⟩, h1 F1 W1 H1 _ S1 (Stp.refl _ _ _) (wlk_tup s q)⟩
def rng1Of : List D → Option (List D)
  | [.int j] => if -(2 ^ 62) ≤ j ∧ j < 2 ^ 62 then some (rng 0 j.toNat) else none
  | _ => none
def rng2Of : List D → Option (List D)
  | [.int i, .int j] => if -(2 ^ 62) ≤ i ∧ i < 2 ^ 62 ∧ -(2 ^ 62) ≤ j ∧ j < 2 ^ 62 then some (rng i (j - i).toNat) else none
  | _ => none
theorem rng1_of {ds z : List D} (h : rng1Of ds = some z) : ∃ j, ds = [.int j] ∧ -(2 ^ 62) ≤ j ∧ j < 2 ^ 62 ∧ z = rng 0 j.toNat := by
  match ds, h with
  | [.int j], h =>
    have h' : (if -(2 ^ 62) ≤ j ∧ j < 2 ^ 62 then some (rng 0 j.toNat) else none) = some z := h
    by_cases c : -(2 ^ 62) ≤ j ∧ j < 2 ^ 62
    · rw [if_pos c] at h'; cases h'; exact ⟨j, rfl, c.1, c.2, rfl⟩
    · rw [if_neg c] at h'; cases h'
theorem rng2_of {ds z : List D} (h : rng2Of ds = some z) : ∃ i j, ds = [.int i, .int j] ∧ (-(2 ^ 62) ≤ i ∧ i < 2 ^ 62 ∧ -(2 ^ 62) ≤ j ∧ j < 2 ^ 62) ∧ z = rng i (j - i).toNat := by
  match ds, h with
  | [.int i, .int j], h =>
    have h' : (if -(2 ^ 62) ≤ i ∧ i < 2 ^ 62 ∧ -(2 ^ 62) ≤ j ∧ j < 2 ^ 62 then some (rng i (j - i).toNat) else none) = some z := h
    by_cases c : -(2 ^ 62) ≤ i ∧ i < 2 ^ 62 ∧ -(2 ^ 62) ≤ j ∧ j < 2 ^ 62
    · rw [if_pos c] at h'; cases h'; exact ⟨i, j, rfl, c, rfl⟩
    · rw [if_neg c] at h'; cases h'
theorem it_range1 {fs : M (List D)} {p : Pos} (hg : Gl X "range") (hm : X.mg "range" = none) (ha : PL X ios Wx [a] fs) (hs : starEach [a] X.env = [(false, eval a X.env)] := by rfl) : PIt X ios Wx tg (.Call (.Name "range" p) [a] [] pos) (bnd fs fun ds => ofO (rng1Of ds)) := by
  obtain ⟨t, pa, r⟩ := ha.ex
  refine ⟨_, pi_range1 hg hm pa hs, fun B F W E σ H R S h => ?_⟩
  refine r B F W E σ H _ S (Pst.seq h fun F1 W1 H1 vs ds E1 S1 s1 rr h1 => ?_)
  obtain ⟨z, ez, h2⟩ := h1.some
  obtain ⟨j, rfl, c1, c2, rfl⟩ := rng1_of ez
  cases rr with
  | cons q1 rr =>
    cases rr
    cases q1
    exact ⟨j, rfl, c1, c2, h2 F1 W1 H1 _ S1 (Stp.refl _ _ _) wlk_rng⟩
theorem it_range2 {fs : M (List D)} {p : Pos} (hg : Gl X "range") (hm : X.mg "range" = none) (ha : PL X ios Wx [a, b] fs) (hs : starEach [a, b] X.env = [(false, eval a X.env), (false, eval b X.env)] := by rfl) (hs2 : starEach [b] X.env = [(false, eval b X.env)] := by rfl) :
    PIt X ios Wx tg (.Call (.Name "range" p) [a, b] [] pos) (bnd fs fun ds => ofO (rng2Of ds)) := by
  obtain ⟨t, pa, r⟩ := ha.ex
  refine ⟨_, pi_range2 hg hm pa hs hs2, fun B F W E σ H R S h => ?_⟩
  refine r B F W E σ H _ S (Pst.seq h fun F1 W1 H1 vs ds E1 S1 s1 rr h1 => ?_)
  obtain ⟨z, ez, h2⟩ := h1.some
  obtain ⟨i, j, rfl, c, rfl⟩ := rng2_of ez
  cases rr with
  | cons q1 rr =>
    cases rr with
    | cons q2 rr =>
      cases rr
      cases q1
      cases q2
      exact ⟨i, j, rfl, c, h2 F1 W1 H1 _ S1 (Stp.refl _ _ _) wlk_rng⟩
/-! ### while -/
def whileS : Nat → M Bool → G → G
  | 0, _, _, _ => .stk
  | n + 1, c, body, E => match c E with
    | .stk => .stk
    | .er x E1 => .er x E1
    | .ok false E1 => .nx E1
    | .ok true E1 => match body E1 with
      | .nx E2 => whileS n c body E2
      | .ct E2 => whileS n c body E2
      | .bk E2 => .nx E2
      | .rt p E2 => .rt p E2
      | .er x E2 => .er x E2
      | .stk => .stk
theorem pd_while (n : Nat) {c : Expr} {fc : M Bool} {g : G} (hp : PassesOwn (model X.prog X.w) X.A X.env X.xe) (hc : PB X ios Wx c fc) (hb : PDs X ios Wx body g) : PD X ios Wx (.While c body [] pos) (whileS n fc g) := by
  obtain ⟨tc, pc, rc⟩ := hc.ex
  obtain ⟨tb, pb, rb⟩ := hb.ex
  refine ⟨_, ps_while hp pc pb, fun B F W E σ H D S k => ?_⟩
  refine ⟨fun m σ' H' => ∃ F' W' E', St X.K ios B F' W' E' σ' H' ∧ Same F F' ∧ PstS X.K ios B Wx F' (whileS m fc g E') D, ⟨n, F, W, E, S, Same.refl F, k⟩, ?_⟩
  rintro m σ' H' ⟨F', W', E', S', e', k'⟩
  cases m with
  | zero => exact k'.elim
  | succ m =>
    unfold whileS at k'
    refine rc B F' W' E' σ' H' _ S' ?_
    cases q : fc E' with
    | stk => rw [q] at k'; exact k'.elim
    | er x E1 => simp only [q] at k'; exact fun F1 W1 H1 c dx S1 t1 => k' F1 W1 H1 σ' c dx S1 t1.fx
    | ok b E1 =>
      cases b with
      | false =>
        simp only [q] at k'
        intro F1 W1 H1 b S1 t1 eb
        subst eb
        rw [if_neg Bool.false_ne_true]
        exact k' F1 W1 H1 σ' S1 t1.fx
      | true =>
        simp only [q] at k'
        intro F1 W1 H1 b S1 t1 eb
        subst eb
        rw [if_pos rfl]
        refine ⟨fun σ2 H2 => ∃ F2 W2 E2, St X.K ios B F2 W2 E2 σ2 H2 ∧ Same F F2 ∧ PstS X.K ios B Wx F2 (whileS m fc g E2) D, fun σ2 H2 h2 => ⟨m, Nat.lt_succ_self m, h2⟩, ?_⟩
        refine rb B F1 W1 E1 σ' H1 _ S1 ?_
        cases q2 : g E1 with
        | nx E4 => simp only [q2] at k'; exact fun F4 W4 H4 σ4 S4 t4 => ⟨F4, W4, E4, S4, e'.trans (t1.fx.trans t4), PstS.from (t1.fx.trans t4) k'⟩
        | ct E4 => simp only [q2] at k'; exact fun F4 W4 H4 σ4 S4 t4 => ⟨F4, W4, E4, S4, e'.trans (t1.fx.trans t4), PstS.from (t1.fx.trans t4) k'⟩
        | bk E4 => simp only [q2] at k'; exact fun F4 W4 H4 σ4 S4 t4 => k' F4 W4 H4 σ4 S4 (t1.fx.trans t4)
        | rt p E4 => simp only [q2] at k'; exact fun F4 W4 H4 σ4 v Wr S4 t4 => k' F4 W4 H4 σ4 v Wr S4 (t1.fx.trans t4)
        | er x E4 => simp only [q2] at k'; exact fun F4 W4 H4 σ4 c dx S4 t4 => k' F4 W4 H4 σ4 c dx S4 (t1.fx.trans t4)
        | stk => simp only [q2] at k'; exact k'.elim
end
end Dl

namespace Dl
open PySem PySem.Spec PyProof.Rows L2
/-! ### defs, with what is known of the frames around (no repr runs) -/
abbrev Cxt (P : Program) (w : World) : CXT := L2.CX P w
structure FnG (P : Program) (w : World) (K : KF) (mg : Str → Option Value) (base : Heap) (k : Nat) (f : Addr) (fd : FuncData) (ps : List Str) (sp : Sp) : Prop where
  len : ∀ vs H Q E, sp vs H Q E → vs.length = ps.length
  run : ∀ (A : Around) (outer : List Env) (s : Shared) (H : Hp) (args : Args) (us : List Value) (vs : List V) (Q : VK) (E : XK), Room k A → A.guards = some [] → Env0 P w K mg base A outer s H →
    BindsTo s fd args (ps.zip us) → Vals vs us → sp vs H Q E → codeAny (model P w) A (.call (.ref f) args) (CR (Cxt P w) outer P w H s Q E) s
section
variable {P : Program} {w : World} {K : KF} {mg : Str → Option Value} {base : Heap}
theorem fn_g {x qual : Str} {params : Arguments} {body : List Stmt} {scope : Scope} {dvs : List V} {kws : List (Str × V)} {f : Addr} {fd : FuncData} {N ps : List Str} {k : Nat} {sp : Sp}
    (F : FunD K x qual params body scope dvs kws f fd) (S : FnScope N ps scope) (len : ∀ vs H Q E, sp vs H Q E → vs.length = ps.length)
    (hb : ∀ (cdv : Value) (A : Around) (outer : List Env) (s : Shared) (H : Hp) (vs : List V) (Q : VK) (E : XK), Room k (A.deeper (envOfC qual scope s.heap.objs.size f cdv)) → (A.deeper (envOfC qual scope s.heap.objs.size f cdv)).guards = some [] → sp vs H Q E →
      ∃ t, PSs (cxOf (Cxt P w) P w K mg base N qual scope f cdv A outer s H E) body t ∧ t { nx := fun _ H' => Q .non H', rt := Q } (start N vs) H) : FnG P w K mg base (k + 1) f fd ps sp := by
  obtain ⟨oc, od, dV, kV, doc, pm, an, cdv, ct, osl, efd, lk, hcd, _, _⟩ := F.ex
  subst efd
  constructor
  · exact len
  intro A outer s H args us vs Q E room guards env binds vals wish
  have stays : ∀ b o, base.get? b = some o → s.heap.get? b = some o := fun b o z => (env.bs b o z).1
  have inHeap : K.In s.heap := env.mod.kin.keeps stays
  have vl := len _ _ _ _ wish
  have kinds : ∀ y ∈ ps.zip us, scope.names.lookup y.1 = some .local ∨ (scope.names.lookup y.1 = some .cell ∧ ((cellsFrom (s.heap.objs.size + 1) scope.names []).lookup y.1).isSome = true) := by
    rintro ⟨n, v⟩ hy
    cases S.par n (List.of_mem_zip hy).1 with
    | inl q => exact Or.inl q
    | inr q => exact Or.inr ⟨q, PySem.W.cellsFrom_some _ _ _ (Or.inl q)⟩
  refine codeAny_call_function room.depth (inHeap _ _ lk) rfl S.co S.gen rfl (PySem.W.codeRec_of inHeap hcd) (binds _ _ _ _ (wpAny_newFunctionEnv_cells S.kind kinds ?_))
  intro env' e' s1 ic
  subst e'
  refine ⟨(env.mod.nolimit.keeps stays).keeps ic.toInCall.keep, codeAny_func ?_⟩
  obtain ⟨t, pt, rd⟩ := hb cdv A outer s H vs Q E (room.deeper _) guards wish
  have inv : Inv (cxOf (Cxt P w) P w K mg base N qual scope f cdv A outer s H E) [] (start N vs) H s1 := inv_start S room.hd env vl vals ic
  refine wpAny_mono (pt.run [] s1 (start N vs) H _ inv rd) ?_ fun e s' z => z
  intro fl s' z
  cases fl with
  | ret u =>
    obtain ⟨v, σ', H', J, rv, q⟩ := z
    exact ⟨v, H', J.os, J.bare, J.base, J.hok, rv, q⟩
  | next =>
    obtain ⟨σ', H', J, q⟩ := z
    exact ⟨.non, H', J.os, J.bare, J.base, J.hok, rfl, q⟩
  | brk =>
    obtain ⟨_, _, _, q⟩ := z
    exact q.elim
  | cont =>
    obtain ⟨_, _, _, q⟩ := z
    exact q.elim
end
section
variable {X : Cx} {k : Nat} {f C : Addr} {fd : FuncData} {ps : List Str} {sp : Sp} {dvs : List V} {ds : List Value} {x m : Str} {p pos apos : Pos} {e o : Expr} {es : List Expr} {ta : TE} {t : TA} {W : WX}
/-- the callee runs; what it raises goes where W says -/
theorem run_g {pins : List (Addr × Obj)} {σ : L2.St} {H : Hp} {s : Shared} {Q : VK} {us : List Value} {vs : List V} (F : FnG X.prog X.w X.K X.mg X.base k f fd ps sp) (hr : Room k X.A) (hg : X.A.guards = some []) (hb : Binds X.K fd ps ds) (hd : Vals dvs ds) (tk : Takes X W)
    (I : Inv X pins σ H s) (r : Vals vs us) (h : sp (vs ++ dvs) H Q (WE W σ)) : wpAny (model X.prog X.w) X.A (call (.ref f) us) (EP X pins σ Q) X.xe s := by
  have all : Vals (vs ++ dvs) (us ++ ds) := r.append hd
  have ll : (us ++ ds).length = ps.length := all.length.symm.trans (F.len _ _ _ _ h)
  refine wpAny_call (codeAny_mono (F.run X.A X.stack s H ⟨us, []⟩ (us ++ ds) (vs ++ dvs) Q _ hr hg I.env0 (hb s us I.kIn ll) all h) ?_)
  intro z s' hz
  match z, hz with
  | .error ex, hz => exact tk ex s' (XE.of_call I (fun _ _ _ y => y) hz)
  | .ok (.ret u), hz => exact I.after hz
  | .ok .next, hz => exact hz.elim
  | .ok .brk, hz => exact hz.elim
  | .ok .cont, hz => exact hz.elim
def tCallG (sp : Sp) (dvs : List V) (W : WX) (t : TA) : TE := fun σ H Q => t σ H fun vs H1 => sp (vs ++ dvs) H1 Q (WE W σ)
theorem pe_g (F : FnG X.prog X.w X.K X.mg X.base k f fd ps sp) (hr : Room k X.A) (hgd : X.A.guards = some []) (hg : Gl X x) (hm : X.mg x = some (.ref f)) (hk : PySem.W.keepIn X.K (.ref f) = true) (hb : Binds X.K fd ps ds) (hd : Vals dvs ds) (tk : Takes X W)
    (ha : PA X (e :: es) t) (hdb : (x == ("__debug__" : Str)) = false := by decide) (he : starEach (e :: es) X.env = (false, eval e X.env) :: starEach es X.env := by rfl) (hpl : (backTo pos (starEach es X.env)).any (·.1) = false := by rfl) :
    PE X (.Call (.Name x p) (e :: es) [] pos) (tCallG sp dvs W t) := by
  constructor
  intro pins s σ H Q I h
  refine wpAny_Call_Name_kw (ld_glob I hg hm (PySem.W.callWith_K (h₀ := X.base) I.ok.mod.kin hk (thn (ha.run pos pins s σ H _ I h) ?_) he hpl) hdb)
  rintro us s1 ⟨vs, H1, I1, r, q⟩
  exact ⟨I1.kIn, run_g F hr hgd hb hd tk I1 r q⟩
theorem pe_g0 (F : FnG X.prog X.w X.K X.mg X.base k f fd ps sp) (hr : Room k X.A) (hgd : X.A.guards = some []) (hg : Gl X x) (hm : X.mg x = some (.ref f)) (hk : PySem.W.keepIn X.K (.ref f) = true) (hb : Binds X.K fd ps ds) (hd : Vals dvs ds) (tk : Takes X W)
    (hdb : (x == ("__debug__" : Str)) = false := by decide) : PE X (.Call (.Name x p) [] [] pos) (tCallG sp dvs W tNil) := by
  constructor
  intro pins s σ H Q I h
  exact wpAny_Call_Name_kw (ld_glob I hg hm (PySem.W.callWith_K0 I.kIn hk (run_g (us := []) F hr hgd hb hd tk I .nil h)) hdb)
def tMethG (C : Addr) (m : Str) (sp : Sp) (dvs : List V) (W : WX) (ta : TE) (t : TA) : TE := fun σ H Q => ta σ H fun x H1 => ∃ a dx fs, x = .ref a ∧ H1 a = some (.ins C dx fs) ∧ fs.lookup m = none ∧
  t σ H1 fun vs H2 => sp (x :: (vs ++ dvs)) H2 Q (WE W σ)
theorem pe_mg {pl : Sem Bool} (he : PE X o ta) (c : Cls X.K C) (hm : Meth X.K C m f) (F : FnG X.prog X.w X.K X.mg X.base k f fd ps sp) (hr : Room k X.A) (hgd : X.A.guards = some []) (hb : Binds X.K fd ps ds) (hd : Vals dvs ds) (tk : Takes X W) (ha : PA X (e :: es) t)
    (hst : starEach (e :: es) X.env = (false, eval e X.env) :: starEach es X.env := by rfl) (hpl : (backTo pos (starEach es X.env)).any (·.1) = false := by rfl)
    (ht : eval (.Call (.Attribute o m apos) (e :: es) [] pos) X.env = (do
      let ov ← eval o X.env
      standAt apos.atName
      let (f, first) ← holding [ov] (getMethod ov m pl)
      callWith pos f first (backTo pos (starEach (e :: es) X.env)) (backToKw pos (keywordEach [] X.env))) := by rfl) :
    PE X (.Call (.Attribute o m apos) (e :: es) [] pos) (tMethG C m sp dvs W ta t) := by
  constructor
  intro pins s σ H Q I h
  refine PySem.W.methodCall_KW (pl := pl) (thn (he.run pins s σ H _ I h) ?_) ht
  rintro u s1 ⟨x, H1, I1, rx, a, dx, fs, rfl, ea, l, q⟩
  cases (show u = Value.ref a from rx)
  refine getmeth_ok I1 ea c hm l (PySem.W.callWith_K (first := [.ref a]) (h₀ := X.base) I.ok.mod.kin hm.kp (thn (ha.run pos pins s1 σ H1 _ I1 q) ?_) hst hpl)
  rintro us s2 ⟨vs, H2, I2, r, q2⟩
  exact ⟨I2.kIn, run_g (us := .ref a :: us) (vs := .ref a :: vs) F hr hgd hb hd tk I2 (.cons rfl r) q2⟩
theorem pe_mg0 {pl : Sem Bool} (he : PE X o ta) (c : Cls X.K C) (hm : Meth X.K C m f) (F : FnG X.prog X.w X.K X.mg X.base k f fd ps sp) (hr : Room k X.A) (hgd : X.A.guards = some []) (hb : Binds X.K fd ps ds) (hd : Vals dvs ds) (tk : Takes X W)
    (ht : eval (.Call (.Attribute o m apos) [] [] pos) X.env = (do
      let ov ← eval o X.env
      standAt apos.atName
      let (f, first) ← holding [ov] (getMethod ov m pl)
      callWith pos f first (backTo pos (starEach [] X.env)) (backToKw pos (keywordEach [] X.env))) := by rfl) :
    PE X (.Call (.Attribute o m apos) [] [] pos) (tMethG C m sp dvs W ta tNil) := by
  constructor
  intro pins s σ H Q I h
  refine PySem.W.methodCall_KW (pl := pl) (thn (he.run pins s σ H _ I h) ?_) ht
  rintro u s1 ⟨x, H1, I1, rx, a, dx, fs, rfl, ea, l, q⟩
  cases (show u = Value.ref a from rx)
  exact getmeth_ok I1 ea c hm l (PySem.W.callWith_K0 (first := [.ref a]) I1.kIn hm.kp (run_g (us := [.ref a]) (vs := [.ref a]) F hr hgd hb hd tk I1 (.cons rfl .nil) q))
/-- C(..) -/
def tMakeG (C : Addr) (sp : Sp) (dvs : List V) (W : WX) (t : TA) : TE := fun σ H Q => t σ H fun vs H1 => ∀ x dx, H1 x = none → H1 dx = none → dx ≠ x →
  sp (.ref x :: (vs ++ dvs)) (upd (upd H1 dx (.own x)) x (.ins C dx [])) (fun v H2 => v = .non ∧ Q (.ref x) H2) (WE W σ)
theorem make_guards {A : Around} {C : Addr} {us : List Value} {kw : List (Str × Value)} : (A.under (.builtin "type.__call__" ⟨.ref C :: us, kw⟩)).guards = A.guards := by
  simp [Around.under, Code.guards, Code.isGuard, guardIds, pushGuards]
theorem run_mk {pins : List (Addr × Obj)} {σ : L2.St} {H : Hp} {s : Shared} {Q : VK} {us : List Value} {vs : List V} (M : Mk X.K C f) (F : FnG X.prog X.w X.K X.mg X.base k f fd ps sp) (hr : Room (k + 1) X.A) (hgd : X.A.guards = some []) (hb : Binds X.K fd ps ds) (hd : Vals dvs ds)
    (tk : Takes X W) (I : Inv X pins σ H s) (r : Vals vs us)
    (h : ∀ x dx, H x = none → H dx = none → dx ≠ x → sp (.ref x :: (vs ++ dvs)) (upd (upd H dx (.own x)) x (.ins C dx [])) (fun v H2 => v = .non ∧ Q (.ref x) H2) (WE W σ)) :
    wpAny (model X.prog X.w) X.A (call (.ref C) us) (EP X pins σ Q) X.xe s := by
  have wish := h (s.heap.objs.size + 1) s.heap.objs.size (I.hok.fresh (Nat.le_succ _)) (I.hok.fresh (Nat.le_refl _)) (Nat.ne_of_lt (Nat.lt_succ_self _))
  have I2 := Inv.made (C := C) I
  have all : Vals (V.ref (s.heap.objs.size + 1) :: (vs ++ dvs)) (Value.ref (s.heap.objs.size + 1) :: (us ++ ds)) := Paired.cons rfl (r.append hd)
  have ll : (Value.ref (s.heap.objs.size + 1) :: us ++ ds).length = ps.length := by
    have z := F.len _ _ _ _ wish
    rw [all.length] at z
    exact z
  have runs := F.run _ X.stack _ _ ⟨Value.ref (s.heap.objs.size + 1) :: us, []⟩ (Value.ref (s.heap.objs.size + 1) :: (us ++ ds)) _ _ (WE W σ) (hr.make C us []) (by rw [make_guards]; exact hgd) (I2.env0.make C us []) (hb _ (Value.ref (s.heap.objs.size + 1) :: us) I2.kIn ll) all wish
  refine wpAny_call (make_map (f := f) I.kIn M.makes M.init (beq_iff_eq.mp M.fn) (codeAny_mono runs ?_))
  intro z s' hz
  match z, hz with
  | .error ex, hz => exact tk ex s' (XE.of_call I2 (fun _ _ _ y => y) hz)
  | .ok (.ret u), hz =>
    obtain ⟨v, H', I3, rv, ev, q3⟩ := I2.after hz
    subst ev
    exact ⟨rv, .ref (s.heap.objs.size + 1), H', I3, rfl, q3⟩
  | .ok .next, hz => exact hz.elim
  | .ok .brk, hz => exact hz.elim
  | .ok .cont, hz => exact hz.elim
theorem pe_mk (M : Mk X.K C f) (F : FnG X.prog X.w X.K X.mg X.base k f fd ps sp) (hr : Room (k + 1) X.A) (hgd : X.A.guards = some []) (hg : Gl X x) (hm : X.mg x = some (.ref C)) (hb : Binds X.K fd ps ds) (hd : Vals dvs ds) (tk : Takes X W)
    (ha : PA X (e :: es) t) (hdb : (x == ("__debug__" : Str)) = false := by decide) (he : starEach (e :: es) X.env = (false, eval e X.env) :: starEach es X.env := by rfl) (hpl : (backTo pos (starEach es X.env)).any (·.1) = false := by rfl) :
    PE X (.Call (.Name x p) (e :: es) [] pos) (tMakeG C sp dvs W t) := by
  constructor
  intro pins s σ H Q I h
  refine wpAny_Call_Name_kw (ld_glob I hg hm (PySem.W.callWith_K (h₀ := X.base) I.ok.mod.kin M.kp (thn (ha.run pos pins s σ H _ I h) ?_) he hpl) hdb)
  rintro us s1 ⟨vs, H1, I1, r, q⟩
  exact ⟨I1.kIn, run_mk M F hr hgd hb hd tk I1 r q⟩
end
end Dl

namespace Dl
open PySem PySem.Spec PyProof.Rows L2
/-! ### a def as a function of data -/
inductive Rf where
  | ok (r : Ent) (E : Nv) | er (x : Xn) (E : Nv) | stk
abbrev Fm := List Ent → Rf
structure Ins (K : KF) (ios : List Nat) (F : Hp) (W : Wm) (H : Hp) (vs : List V) (as : List Ent) : Prop where
  fh : Same F H
  nz : NoFz H
  ow : ∀ a l, W a = some l → F a = none ∧ ∃ o, H a = some o
  io : ∀ a l, W a = some l → ∃ i p, l = i :: p ∧ i ∈ ios
  ln : vs.length = as.length
  vr : ∀ i v t d, vs[i]? = some v → as[i]? = some (t, d) → OwnT K F H W t [i] v d
structure Outs (K : KF) (ios : List Nat) (F : Hp) (W : Wm) (H F' : Hp) (W' : Wm) (H' : Hp) (vs : List V) (E : Nv) : Prop where
  st : Stp F W H F' W' H'
  fh : Same F' H'
  nz : NoFz H'
  ow : ∀ a l, W' a = some l → F' a = none ∧ ∃ o, H' a = some o
  io : ∀ a l, W' a = some l → ∃ i p, l = i :: p ∧ i ∈ ios
  vr : ∀ i v t d, i ∈ ios → vs[i]? = some v → E[i]? = some (some (t, d)) → OwnT K F' H' W' t [i] v d
def PstF (K : KF) (ios : List Nat) (F : Hp) (W : Wm) (H : Hp) (vs : List V) (r : Rf) (Q : VK) (Ex : XK) : Prop :=
  match r with
  | .ok p E => ∀ F' W' H' v Wr, Outs K ios F W H F' W' H' vs E → Fresh Wr H F' W' H' → OwnT K F' H' Wr p.1 [] v p.2 → Q v H'
  | .er x E => ∀ F' W' H' c dx, Outs K ios F W H F' W' H' vs E → XRep K F' H' x c dx → Ex c dx H'
  | .stk => False
def spD (K : KF) (n : Nat) (ios : List Nat) (m : Fm) : Sp := fun vs H Q Ex => vs.length = n ∧ ∃ F W as, Ins K ios F W H vs as ∧ PstF K ios F W H vs (m as) Q Ex
/-- a body's run -/
def runG (N : Nat) (g : G) : Fm := fun as => match g (as.map some ++ List.replicate (N - as.length) none) with
  | .nx E => .ok (.sh, .non) E
  | .rt p E => .ok p E
  | .er x E => .er x E
  | .bk _ => .stk
  | .ct _ => .stk
  | .stk => .stk
def rst (ios : List Nat) (W : Wm) : Wm := fun a => match W a with
  | some (i :: p) => if ios.contains i = true then some (i :: p) else none
  | _ => none
theorem rst_of {ios : List Nat} {W : Wm} {a : Addr} {l : Lab} (h : rst ios W a = some l) : W a = some l ∧ ∃ i p, l = i :: p ∧ i ∈ ios := by
  unfold rst at h
  cases q : W a with
  | none => rw [q] at h; cases h
  | some l' =>
    rw [q] at h
    cases l' with
    | nil => cases h
    | cons i p =>
      have h' : (if ios.contains i = true then some (i :: p) else none) = some l := h
      by_cases c : ios.contains i = true
      · rw [if_pos c] at h'; cases h'; exact ⟨rfl, i, p, rfl, by simpa using c⟩
      · rw [if_neg c] at h'; cases h'
theorem rst_in {ios : List Nat} {W : Wm} {a : Addr} {i : Nat} {p : Lab} (h : W a = some (i :: p)) (hi : i ∈ ios) : rst ios W a = some (i :: p) := by
  unfold rst
  rw [h]
  exact if_pos (by simpa using hi)
theorem rst_none {ios : List Nat} {W : Wm} {a : Addr} (h : W a = none) : rst ios W a = none := by
  unfold rst
  rw [h]
section
variable {K : KF} {ios : List Nat} {F F' : Hp} {W W' : Wm} {E' : Nv} {σ' : L2.St} {H H' : Hp} {vs : List V} {pn : Nat → Option V}
theorem St.outs (S : St K ios ⟨pn, F, W, H⟩ F' W' E' σ' H') (hp : ∀ i v, i ∈ ios → vs[i]? = some v → pn i = some v) : Outs K ios F W H F' (rst ios W') H' vs E' where
  st := by
    have s : Stp F W H F' W' H' := S.st
    refine ⟨s.fx, s.fn, fun a l h => ?_, fun a l h => s.wn a l (rst_of h).1, s.hx, s.hd⟩
    obtain ⟨i, p, rfl, hi⟩ := S.w0 a l h
    exact rst_in (s.wx a _ h) hi
  fh := S.fh
  nz := S.nz
  ow := fun a l h => S.ow a l (rst_of h).1
  io := fun a l h => (rst_of h).2
  vr := fun i v t d hi hv he => by
    obtain ⟨u, h1, h2⟩ := S.vr i t d he
    have h3 := (S.pn i v (hp i v hi hv)).2
    rw [h1] at h3
    cases h3
    exact OwnT.relab (p := [i]) (p' := [i]) (q := []) (fun a q z => rst_in z hi) h2
end
section
variable {P : Program} {w : World} {K : KF} {mg : Str → Option Value} {base : Heap}
/-- THE RULE for a def -/
theorem fn_d {x qual : Str} {params : Arguments} {body : List Stmt} {scope : Scope} {dvs : List V} {kws : List (Str × V)} {f : Addr} {fd : FuncData} {N ps : List Str} {k n : Nat} {ios : List Nat} {g : G}
    (F : FunD K x qual params body scope dvs kws f fd) (S : FnScope N ps scope) (hn : ps.length = n)
    (hb : ∀ (cdv : Value) (A : Around) (outer : List Env) (s : Shared) (H : Hp) (E : XK), Room k (A.deeper (envOfC qual scope s.heap.objs.size f cdv)) → (A.deeper (envOfC qual scope s.heap.objs.size f cdv)).guards = some [] →
      PDs (cxOf (Cxt P w) P w K mg base N qual scope f cdv A outer s H E) ios (fun c d _ H => E c d H) body g) : FnG P w K mg base (k + 1) f fd ps (spD K n ios (runG N.length g)) := by
  refine fn_g F S (fun vs H Q E h => h.1.trans hn.symm) fun cdv A outer s H vs Q E hr hg h => ?_
  obtain ⟨hl, F0, W0, as, I, post⟩ := h
  obtain ⟨t, pt, rt⟩ := (hb cdv A outer s H E hr hg).ex
  refine ⟨t, pt, ?_⟩
  let pn : Nat → Option V := fun i => if ios.contains i = true then vs[i]? else none
  have hpn : ∀ i v, i ∈ ios → vs[i]? = some v → pn i = some v := fun i v hi hv => by
    show (if ios.contains i = true then vs[i]? else none) = some v
    rw [if_pos (by simpa using hi)]; exact hv
  have hN : ps.length ≤ N.length := by
    have := congrArg List.length S.pre
    rw [List.length_take] at this
    omega
  have S0 : Dl.St K ios ⟨pn, F0, W0, H⟩ F0 W0 (as.map some ++ List.replicate (N.length - as.length) none) (L2.start N vs) H := by
    refine ⟨I.fh, Stp.refl _ _ _, I.nz, I.ow, fun a l h => ?_, I.io, fun i t d h => ?_, fun i v h => ?_, ?_⟩
    · obtain ⟨i, p, e, hi⟩ := I.io a l h
      exact ⟨i, p, e, .inl hi⟩
    · have hi : i < as.length := by
        by_cases c : i < as.length
        · exact c
        · rw [List.getElem?_append_right (by rw [List.length_map]; omega), List.getElem?_replicate] at h
          split at h <;> cases h
      rw [List.getElem?_append_left (by rw [List.length_map]; exact hi), List.getElem?_map] at h
      cases q : as[i]? with
      | none => rw [q] at h; cases h
      | some p =>
        rw [q] at h
        cases h
        have hv : i < vs.length := by rw [I.ln]; exact hi
        refine ⟨vs[i], ?_, I.vr i _ t d (List.getElem?_eq_getElem hv) q⟩
        unfold L2.start
        rw [List.getElem?_append_left (by rw [List.length_map]; exact hv), List.getElem?_map, List.getElem?_eq_getElem hv]
        rfl
    · have h' : (if ios.contains i = true then vs[i]? else none) = some v := h
      by_cases c : ios.contains i = true
      · rw [if_pos c] at h'
        refine ⟨by simpa using c, ?_⟩
        have hv : i < vs.length := (List.getElem?_eq_some_iff.mp h').1
        unfold L2.start
        rw [List.getElem?_append_left (by rw [List.length_map]; exact hv), List.getElem?_map, h']
        rfl
      · rw [if_neg c] at h'; cases h'
    · unfold L2.start
      rw [List.length_append, List.length_append, List.length_map, List.length_map, List.length_replicate, List.length_replicate, I.ln]
  refine rt ⟨pn, F0, W0, H⟩ F0 W0 _ (L2.start N vs) H _ S0 ?_
  unfold runG at post
  cases q : g (as.map some ++ List.replicate (N.length - as.length) none) with
  | nx E' =>
    rw [q] at post
    exact fun F' W' H' σ' S' t' => post F' _ H' .non noW (S'.outs hpn) Fresh.no .non
  | rt p E' =>
    rw [q] at post
    exact fun F' W' H' σ' v Wr S' t' fr r => post F' _ H' v Wr (S'.outs hpn) (fun a l z => by
      obtain ⟨z1, z2, z3⟩ := fr a l z
      exact ⟨z1, rst_none z2, z3⟩) r
  | er x E' =>
    rw [q] at post
    exact fun F' W' H' σ' c dx S' t' r => post F' _ H' c dx (S'.outs hpn) r
  | bk E' => rw [q] at post; exact post.elim
  | ct E' => rw [q] at post; exact post.elim
  | stk => rw [q] at post; exact post.elim
end
/-! ### calls -/
/-- the arguments: none a shared one, some i the own local i -/
abbrev Md := List (Option Nat)
inductive RepA (K : KF) (F : Hp) (σ : L2.St) : Md → List V → List D → Prop
  | nil : RepA K F σ [] [] []
  | sh {md : Md} {v : V} {vs : List V} {d : D} {ds : List D} : Rep K F v d → RepA K F σ md vs ds → RepA K F σ (none :: md) (v :: vs) (d :: ds)
  | io {md : Md} {i : Nat} {v : V} {vs : List V} {ds : List D} : σ[i]? = some (some v) → RepA K F σ md vs ds → RepA K F σ (some i :: md) (v :: vs) ds
structure PLm (X : Cx) (ios : List Nat) (Wx : WX) (md : Md) (es : List Expr) (f : M (List D)) : Prop where
  ex : ∃ t : TA, PA X es t ∧ ∀ B F W E σ H Q, St X.K ios B F W E σ H → Pst X.K ios B Wx σ (fun F vs ds => RepA X.K F σ md vs ds) F W H (f E) Q → t σ H Q
theorem RepA.mono {K : KF} {F F' : Hp} {σ : L2.St} (e : Same F F') {md : Md} {vs : List V} {ds : List D} (h : RepA K F σ md vs ds) : RepA K F' σ md vs ds := by
  induction h with
  | nil => exact .nil
  | sh r _ ih => exact .sh (r.mono e _) ih
  | io r _ ih => exact .io r ih
/-- the entries handed in -/
def ents : Md → List D → Nv → Option (List Ent)
  | [], [], _ => some []
  | none :: md, d :: ds, E => (ents md ds E).map fun r => (.sh, d) :: r
  | some i :: md, ds, E => match E[i]? with
    | some (some p) => (ents md ds E).map fun r => p :: r
    | _ => none
  | _, _, _ => none
/-- the own ones come back -/
def back : Nat → Md → Nv → Nv → Nv
  | _, [], _, E => E
  | j, none :: md, O, E => back (j + 1) md O E
  | j, some i :: md, O, E => back (j + 1) md O (E.set i ((O[j]?).join))
/-- the static look: own arguments are at own places, none twice -/
def mdOk (ios' : List Nat) : Nat → Md → Bool
  | _, [] => true
  | j, none :: md => mdOk ios' (j + 1) md
  | j, some i :: md => ios'.contains j && !md.contains (some i) && mdOk ios' (j + 1) md
/-- the place of the own local i -/
def plc (md : Md) (i : Nat) : Option Nat := md.findIdx? fun o => o == some i
def toC (md : Md) : Lab → Option Lab
  | i :: p => (plc md i).map fun j => j :: p
  | [] => none
def ofC (md : Md) : Lab → Option Lab
  | j :: p => match md[j]? with
    | some (some i) => some (i :: p)
    | _ => none
  | [] => none
theorem plc_some {md : Md} {i j : Nat} (h : plc md i = some j) : md[j]? = some (some i) := by
  unfold plc at h
  rw [List.findIdx?_eq_some_iff_getElem] at h
  obtain ⟨hl, e, _⟩ := h
  rw [List.getElem?_eq_getElem hl]
  have e' : (md[j] == some i) = true := e
  rw [beq_iff_eq.mp e']
theorem mdOk_at {ios' : List Nat} : ∀ {md : Md} {k j i : Nat}, mdOk ios' k md = true → md[j]? = some (some i) → (k + j) ∈ ios' ∧ plc md i = some j
  | [], _, _, _, _, h => by simp at h
  | none :: md, k, 0, i, _, h => by simp at h
  | none :: md, k, j + 1, i, h, e => by
    have h' : mdOk ios' (k + 1) md = true := h
    obtain ⟨h1, h2⟩ := mdOk_at (j := j) h' (by simpa using e)
    refine ⟨by rw [show k + (j + 1) = k + 1 + j by omega]; exact h1, ?_⟩
    unfold plc at h2 ⊢
    rw [List.findIdx?_cons, h2]
    rfl
  | some i0 :: md, k, 0, i, h, e => by
    have h' : (ios'.contains k && !md.contains (some i0) && mdOk ios' (k + 1) md) = true := h
    rw [Bool.and_eq_true, Bool.and_eq_true] at h'
    have e' : i0 = i := by simpa using e
    subst e'
    refine ⟨by simpa using h'.1.1, ?_⟩
    unfold plc
    rw [List.findIdx?_cons]
    simp
  | some i0 :: md, k, j + 1, i, h, e => by
    have h' : (ios'.contains k && !md.contains (some i0) && mdOk ios' (k + 1) md) = true := h
    rw [Bool.and_eq_true, Bool.and_eq_true] at h'
    obtain ⟨h1, h2⟩ := mdOk_at (j := j) h'.2 (by simpa using e)
    refine ⟨by rw [show k + (j + 1) = k + 1 + j by omega]; exact h1, ?_⟩
    have hne : i0 ≠ i := fun z => by
      subst z
      have hm : md.contains (some i0) = true := by
        have := List.mem_of_getElem? (show md[j]? = some (some i0) by simpa using e)
        simpa using this
      rw [hm] at h'
      exact absurd h'.1.2 (by decide)
    unfold plc at h2 ⊢
    rw [List.findIdx?_cons, h2]
    simp [hne]
theorem back_len : ∀ {md : Md} {j : Nat} {O E : Nv}, (back j md O E).length = E.length
  | [], _, _, _ => rfl
  | none :: md, j, O, E => back_len (md := md)
  | some i :: md, j, O, E => by
    have h := back_len (md := md) (j := j + 1) (O := O) (E := E.set i ((O[j]?).join))
    rw [List.length_set] at h
    exact h
theorem back_no {md : Md} {O : Nv} {i : Nat} : ∀ {k : Nat} {E : Nv}, (some i ∉ md) → (back k md O E)[i]? = E[i]? := by
  induction md with
  | nil => exact fun _ => rfl
  | cons o md ih =>
    intro k E h
    have h2 : some i ∉ md := fun z => h (List.mem_cons_of_mem _ z)
    cases o with
    | none => exact ih (k := k + 1) (E := E) h2
    | some i0 =>
      have hne : i0 ≠ i := fun z => h (by rw [z]; exact List.mem_cons_self)
      have h1 := ih (k := k + 1) (E := E.set i0 ((O[k]?).join)) h2
      rw [List.getElem?_set_ne hne] at h1
      exact h1
theorem back_at {ios' : List Nat} {O : Nv} {i : Nat} {md : Md} : ∀ {k j : Nat} {E : Nv}, mdOk ios' k md = true → md[j]? = some (some i) → i < E.length → (back k md O E)[i]? = some ((O[k + j]?).join) := by
  induction md with
  | nil => intro k j E _ h; simp at h
  | cons o md ih =>
    intro k j E hm h hl
    cases o with
    | none =>
      cases j with
      | zero => simp at h
      | succ j =>
        have h1 := ih (k := k + 1) (j := j) (E := E) hm (by simpa using h) hl
        rw [show k + 1 + j = k + (j + 1) by omega] at h1
        exact h1
    | some i0 =>
      have hm' : (ios'.contains k && !md.contains (some i0) && mdOk ios' (k + 1) md) = true := hm
      rw [Bool.and_eq_true, Bool.and_eq_true] at hm'
      cases j with
      | zero =>
        have e' : i0 = i := by simpa using h
        subst e'
        have hn : some i0 ∉ md := by
          have := hm'.1.2
          simpa using this
        have h1 := back_no (k := k + 1) (O := O) (E := E.set i0 ((O[k]?).join)) hn
        rw [List.getElem?_set_self hl] at h1
        exact h1
      | succ j =>
        have h1 := ih (k := k + 1) (j := j) (E := E.set i0 ((O[k]?).join)) hm'.2 (by simpa using h) (by rw [List.length_set]; exact hl)
        rw [show k + 1 + j = k + (j + 1) by omega] at h1
        exact h1
theorem mem_of_at {md : Md} {o : Option Nat} (h : o ∈ md) : ∃ j : Nat, md[j]? = some o := by
  obtain ⟨j, hj, e⟩ := List.getElem_of_mem h
  exact ⟨j, by rw [List.getElem?_eq_getElem hj, e]⟩
theorem plc_none {md : Md} {i : Nat} (h : some i ∉ md) : plc md i = none := by
  unfold plc
  rw [List.findIdx?_eq_none_iff]
  intro o ho
  by_cases c : o = some i
  · subst c; exact absurd ho h
  · simpa using c
/-- the labels handed in: of own locals, and of what is new -/
def inW (W Wf : Wm) (md : Md) : Wm := fun a => match (W a).bind (toC md) with
  | some l => some l
  | none => Wf a
/-- the labels behind a call -/
def outW (W W' : Wm) (md : Md) : Wm := fun a => match W a with
  | some l => some l
  | none => (W' a).bind (ofC md)
section
variable {K : KF} {ios ios' : List Nat} {B : Bs} {F : Hp} {W Wf : Wm} {E : Nv} {σ : L2.St} {H : Hp} {md : Md} {vs : List V} {as : List Ent}
/-- what is handed in that is new -/
structure NewW (ios' : List Nat) (md : Md) (F : Hp) (W : Wm) (H : Hp) (B : Bs) (Wf : Wm) : Prop where
  at' : ∀ a l, Wf a = some l → F a = none ∧ W a = none ∧ B.H0 a = none ∧ (∃ o, H a = some o) ∧ ∃ (j : Nat) (p : Lab), l = j :: p ∧ j ∈ ios' ∧ md[j]? = some none
theorem NewW.no : NewW ios' md F W H B noW := ⟨fun a l h => by cases (show (none : Option Lab) = some l from h)⟩
theorem toC_some {l m : Lab} (h : toC md l = some m) : ∃ (i j : Nat) (p : Lab), l = i :: p ∧ m = j :: p ∧ plc md i = some j ∧ md[j]? = some (some i) := by
  cases l with
  | nil => cases h
  | cons i p =>
    have h' : (plc md i).map (fun j => j :: p) = some m := h
    cases q : plc md i with
    | none => rw [q] at h'; cases h'
    | some j =>
      rw [q] at h'
      cases h'
      exact ⟨i, j, p, rfl, rfl, q, plc_some q⟩
theorem inW_of {a : Addr} {m : Lab} (h : inW W Wf md a = some m) : (∃ (i j : Nat) (p : Lab), W a = some (i :: p) ∧ m = j :: p ∧ plc md i = some j ∧ md[j]? = some (some i)) ∨ Wf a = some m := by
  unfold inW at h
  cases q : W a with
  | none => rw [q] at h; exact .inr h
  | some l =>
    rw [q] at h
    have h' : (match toC md l with | some l => some l | none => Wf a) = some m := h
    cases q2 : toC md l with
    | none => rw [q2] at h'; exact .inr h'
    | some m' =>
      rw [q2] at h'
      cases h'
      obtain ⟨i, j, p, rfl, e, e2, e3⟩ := toC_some q2
      exact .inl ⟨i, j, p, rfl, e, e2, e3⟩
theorem inW_at {a : Addr} {i j : Nat} {p : Lab} (h : W a = some (i :: p)) (hp : plc md i = some j) : inW W Wf md a = some (j :: p) := by
  unfold inW
  rw [h]
  show (match (plc md i).map (fun j => j :: p) with | some l => some l | none => Wf a) = _
  rw [hp]
  rfl
theorem inW_nf {a : Addr} {m : Lab} (n : NewW ios' md F W H B Wf) (h : Wf a = some m) : inW W Wf md a = some m := by
  unfold inW
  rw [(n.at' a m h).2.1]
  exact h
theorem inW_none {a : Addr} {i : Nat} {p : Lab} (n : NewW ios' md F W H B Wf) (h : W a = some (i :: p)) (hp : plc md i = none) : inW W Wf md a = none := by
  cases q : inW W Wf md a with
  | none => rfl
  | some m =>
    rcases inW_of q with ⟨i', j, p', e, _, e2, _⟩ | e
    · rw [h] at e; cases e; rw [hp] at e2; cases e2
    · rw [(n.at' a m e).2.1] at h; cases h
theorem inW_no {a : Addr} (h : W a = none) (h2 : Wf a = none) : inW W Wf md a = none := by
  unfold inW
  rw [h]
  exact h2
/-- what stands at the places handed in -/
def Handed (K : KF) (F H : Hp) (Wf : Wm) (E : Nv) (σ : L2.St) (md : Md) (vs : List V) (as : List Ent) : Prop := ∀ (j : Nat) v t d, vs[j]? = some v → as[j]? = some (t, d) →
  (md[j]? = some none ∧ OwnT K F H Wf t [j] v d) ∨ ∃ i, md[j]? = some (some i) ∧ σ[i]? = some (some v) ∧ E[i]? = some (some (t, d))
theorem Handed.ins (S : St K ios B F W E σ H) (n : NewW ios' md F W H B Wf) (ok : mdOk ios' 0 md = true) (hl : vs.length = as.length) (h : Handed K F H Wf E σ md vs as) : Ins K ios' F (inW W Wf md) H vs as where
  fh := S.fh
  nz := S.nz
  ow := fun a l z => by
    rcases inW_of z with ⟨i, j, p, e, _⟩ | e
    · exact S.ow a _ e
    · have := n.at' a l e
      exact ⟨this.1, this.2.2.2.1⟩
  io := fun a l z => by
    rcases inW_of z with ⟨i, j, p, e, e2, e3, e4⟩ | e
    · refine ⟨j, p, e2, ?_⟩
      have := (mdOk_at ok e4).1
      rw [Nat.zero_add] at this
      exact this
    · obtain ⟨j, p, e1, e2, _⟩ := (n.at' a l e).2.2.2.2
      exact ⟨j, p, e1, e2⟩
  ln := hl
  vr := fun j v t d e1 e2 => by
    rcases h j v t d e1 e2 with ⟨m, r⟩ | ⟨i, m, sv, ev⟩
    · exact OwnT.relab (p := [j]) (p' := [j]) (q := []) (fun a q z => inW_nf n z) r
    · obtain ⟨u, h1, h2⟩ := S.vr i t d ev
      rw [sv] at h1
      cases h1
      exact OwnT.relab (p := [i]) (p' := [j]) (q := []) (fun a q z => inW_at z (mdOk_at ok m).2) h2
variable {F' H' : Hp} {W' : Wm} {O : Nv}
theorem outW_new {a : Addr} {l : Lab} (h : W a = none) (h2 : outW W W' md a = some l) : ∃ (i j : Nat) (p : Lab), W' a = some (j :: p) ∧ md[j]? = some (some i) ∧ l = i :: p := by
  unfold outW at h2
  rw [h] at h2
  have h2' : (W' a).bind (ofC md) = some l := h2
  cases q : W' a with
  | none => rw [q] at h2'; cases h2'
  | some m =>
    rw [q] at h2'
    have h3 : ofC md m = some l := h2'
    cases m with
    | nil => cases h3
    | cons j p =>
      have h4 : (match md[j]? with | some (some i) => some (i :: p) | _ => none) = some l := h3
      cases q2 : md[j]? with
      | none => rw [q2] at h4; cases h4
      | some o =>
        rw [q2] at h4
        cases o with
        | none => cases h4
        | some i => cases h4; exact ⟨i, j, p, rfl, q2, rfl⟩
theorem outW_old {a : Addr} {l : Lab} (h : W a = some l) : outW W W' md a = some l := by unfold outW; rw [h]
theorem outW_at {a : Addr} {i j : Nat} {p : Lab} (h : W a = none) (h2 : W' a = some (j :: p)) (h3 : md[j]? = some (some i)) : outW W W' md a = some (i :: p) := by
  unfold outW
  rw [h, h2]
  show (match md[j]? with | some (some i) => some (i :: p) | _ => none) = _
  rw [h3]
/-- a new label of the callee's stands on a new object, or is of what was handed in new -/
theorem Outs.new (n : NewW ios' md F W H B Wf) (U : Outs K ios' F (inW W Wf md) H F' W' H' vs O) {a : Addr} {l : Lab} (h : W a = none) (h2 : outW W W' md a = some l) : H a = none := by
  obtain ⟨i, j, p, e1, e2, _⟩ := outW_new h h2
  rcases U.st.wn a _ e1 with z | z
  · rcases inW_of z with ⟨i', j', p', e3, _⟩ | e3
    · rw [h] at e3; cases e3
    · obtain ⟨j', p', e4, _, e5⟩ := (n.at' a _ e3).2.2.2.2
      cases e4
      rw [e2] at e5; cases e5
  · exact z
theorem Outs.step {Hb : Hp} (n : NewW ios' md F W H B Wf) (sb : Same Hb H) (nb : ∀ a l, Wf a = some l → Hb a = none) (U : Outs K ios' F (inW W Wf md) H F' W' H' vs O) : Stp F W Hb F' (outW W W' md) H' where
  fx := U.st.fx
  fn := fun a o h => by
    rcases U.st.fn a o h with z | z
    · exact .inl z
    · exact .inr (sb.free z)
  wx := fun a l h => outW_old h
  wn := fun a l h => by
    cases q : W a with
    | some m => rw [outW_old q] at h; exact .inl h
    | none => exact .inr (sb.free (U.new n q h))
  hx := fun a o h q => U.st.hx a o (sb _ _ h) (inW_no q (by
    cases e : Wf a with
    | none => rfl
    | some l => rw [nb a l e] at h; cases h))
  hd := fun a o h => U.st.hd a o (sb _ _ h)
theorem Handed.out {Hb : Hp} (Sb : St K ios B F W E σ Hb) (S : St K ios B F W E σ H) (sb : Same Hb H) (n : NewW ios' md F W H B Wf) (nb : ∀ a l, Wf a = some l → Hb a = none) (ok : mdOk ios' 0 md = true) (h : Handed K F H Wf E σ md vs as) (hm : ∀ (j i : Nat), md[j]? = some (some i) → ∃ v, vs[j]? = some v ∧ σ[i]? = some (some v) ∧ i < E.length)
    (U : Outs K ios' F (inW W Wf md) H F' W' H' vs O) : St K ios B F' (outW W W' md) (back 0 md O E) σ H' where
  fh := U.fh
  st := Sb.st.trans (U.step n sb nb)
  nz := U.nz
  ow := fun a l z => by
    cases q : W a with
    | some m =>
      obtain ⟨h1, o, h2⟩ := S.ow a m q
      cases q2 : inW W Wf md a with
      | some m2 => exact U.ow a m2 (U.st.wx a m2 q2)
      | none => exact ⟨U.st.nf h1 h2, o, U.st.hx a o h2 q2⟩
    | none =>
      obtain ⟨i, j, p, e1, _⟩ := outW_new q z
      exact U.ow a _ e1
  fr := fun a l z => by
    cases q : W a with
    | some m => rw [outW_old q] at z; cases z; exact S.fr a _ q
    | none =>
      obtain ⟨i, j, p, _, _, e⟩ := outW_new q z
      exact ⟨i, p, e, .inr (S.st.back (U.new n q z))⟩
  w0 := S.w0
  vr := fun i t d z => by
    by_cases c : some i ∈ md
    · obtain ⟨j, e⟩ := mem_of_at c
      obtain ⟨v, e1, e2, e3⟩ := hm j i e
      have hj := mdOk_at ok e
      rw [Nat.zero_add] at hj
      rw [back_at ok e e3, Nat.zero_add] at z
      have z1 : (O[j]?).join = some (t, d) := Option.some.inj z
      have z2 : O[j]? = some (some (t, d)) := by
        cases q : O[j]? with
        | none => rw [q] at z1; cases z1
        | some u => rw [q] at z1; exact congrArg some z1
      refine ⟨v, e2, OwnT.relab (p := [j]) (p' := [i]) (q := []) (fun a q y => ?_) (U.vr j v t d hj.1 e1 z2)⟩
      cases qw : W a with
      | none => exact outW_at qw y e
      | some m =>
        obtain ⟨_, o, ho⟩ := S.ow a m qw
        rcases U.st.wn a _ y with w | w
        · rcases inW_of w with ⟨i', j', p', e4, e5, e6, e7⟩ | e4
          · have e5' : j = j' ∧ q = p' := by simpa using e5
            obtain ⟨rfl, rfl⟩ := e5'
            rw [e] at e7
            cases e7
            rw [outW_old e4]; rfl
          · rw [(n.at' a _ e4).2.1] at qw; cases qw
        · rw [ho] at w; cases w
    · rw [back_no c] at z
      obtain ⟨v, h1, h2⟩ := S.vr i t d z
      refine ⟨v, h1, OwnT.keepAt (p := [i]) (q := []) U.st.fx (fun a q y => outW_old y) (fun a q o y ho => U.st.hx a o ho (inW_none n y (plc_none c))) h2⟩
  pn := S.pn
  ln := by rw [back_len]; exact S.ln
theorem Fresh.out {Hb : Hp} {Wr : Wm} (S : St K ios B F W E σ H) (fr : Fresh Wr H F' W' H') (sb : Same Hb H) : Fresh Wr Hb F' (outW W W' md) H' := fun a l z => by
  obtain ⟨z1, z2, z3⟩ := fr a l z
  refine ⟨sb.free z1, ?_, z3⟩
  unfold outW
  rw [S.noW z1, z2]
  rfl
theorem RepA.len {ds : List D} (h : RepA K F σ md vs ds) : md.length = vs.length := by
  induction h with
  | nil => rfl
  | sh _ _ ih => rw [List.length_cons, List.length_cons, ih]
  | io _ _ ih => rw [List.length_cons, List.length_cons, ih]
theorem RepA.app {ds es : List D} {ws : List V} (h : RepA K F σ md vs ds) (r : RepL K F ws es) : RepA K F σ (md ++ es.map fun _ => none) (vs ++ ws) (ds ++ es) := by
  induction h with
  | nil =>
    have go : ∀ {ws : List V} {es : List D}, RepL K F ws es → RepA K F σ (es.map fun _ => none) ws es := by
      intro ws es
      induction es generalizing ws with
      | nil => intro r; cases r; exact .nil
      | cons e es ih => intro r; cases r with | cons r1 r2 => exact .sh r1 (ih r2)
    exact go r
  | sh r1 _ ih => exact .sh r1 ih
  | io r1 _ ih => exact .io r1 ih
theorem ents_some {i : Nat} {md : Md} {ds : List D} {E : Nv} {as : List Ent} (h : ents (some i :: md) ds E = some as) : ∃ p r, E[i]? = some (some p) ∧ ents md ds E = some r ∧ as = p :: r := by
  have h' : (match E[i]? with | some (some p) => (ents md ds E).map fun r => p :: r | _ => none) = some as := by
    cases ds <;> exact h
  cases q : E[i]? with
  | none => rw [q] at h'; cases h'
  | some o =>
    rw [q] at h'
    cases o with
    | none => cases h'
    | some p =>
      cases q2 : ents md ds E with
      | none => rw [q2] at h'; cases h'
      | some r => rw [q2] at h'; cases h'; exact ⟨p, r, rfl, rfl, rfl⟩
theorem ents_none {d : D} {md : Md} {ds : List D} {E : Nv} {as : List Ent} (h : ents (none :: md) (d :: ds) E = some as) : ∃ r, ents md ds E = some r ∧ as = (.sh, d) :: r := by
  have h' : ((ents md ds E).map fun r => (Ow.sh, d) :: r) = some as := h
  cases q2 : ents md ds E with
  | none => rw [q2] at h'; cases h'
  | some r => rw [q2] at h'; cases h'; exact ⟨r, rfl, rfl⟩
def Hand0 (K : KF) (F : Hp) (E : Nv) (σ : L2.St) (md : Md) (vs : List V) (as : List Ent) : Prop := ∀ (j : Nat) v t d, vs[j]? = some v → as[j]? = some (t, d) →
  (md[j]? = some none ∧ t = .sh ∧ Rep K F v d) ∨ ∃ i, md[j]? = some (some i) ∧ σ[i]? = some (some v) ∧ E[i]? = some (some (t, d))
theorem Hand0.handed (h : Hand0 K F E σ md vs as) : Handed K F H Wf E σ md vs as := fun j v t d e1 e2 => by
  rcases h j v t d e1 e2 with ⟨a, rfl, c⟩ | c
  · exact .inl ⟨a, c⟩
  · exact .inr c
theorem RepA.handed {ds : List D} (h : RepA K F σ md vs ds) : ∀ {as : List Ent}, ents md ds E = some as → vs.length = as.length ∧ Hand0 K F E σ md vs as ∧ (E.length = σ.length → ∀ (j i : Nat), md[j]? = some (some i) → ∃ v, vs[j]? = some v ∧ σ[i]? = some (some v) ∧ i < E.length) := by
  induction h with
  | nil =>
    intro as e
    cases (show some ([] : List Ent) = some as from e)
    exact ⟨rfl, fun j v t d e1 e2 => by simp at e1, fun _ j i e => by simp at e⟩
  | sh r h ih =>
    intro as e
    obtain ⟨rs, e1, rfl⟩ := ents_none e
    obtain ⟨l, g, m⟩ := ih e1
    refine ⟨by rw [List.length_cons, List.length_cons, l], fun j v t d e1 e2 => ?_, fun hl j i e => ?_⟩
    · cases j with
      | zero =>
        have e1' := Option.some.inj e1
        have e2' := Option.some.inj e2
        cases e2'
        subst e1'
        exact .inl ⟨rfl, rfl, r⟩
      | succ j => exact g j v t d (by simpa using e1) (by simpa using e2)
    · cases j with
      | zero => simp at e
      | succ j => exact m hl j i (by simpa using e)
  | @io md i v vs ds r h ih =>
    intro as e
    obtain ⟨p, rs, e0, e1, rfl⟩ := ents_some e
    obtain ⟨l, g, m⟩ := ih e1
    refine ⟨by rw [List.length_cons, List.length_cons, l], fun j v' t d e1 e2 => ?_, fun hl j i' e => ?_⟩
    · cases j with
      | zero =>
        have e1' := Option.some.inj e1
        have e2' := Option.some.inj e2
        subst e1'
        exact .inr ⟨i, rfl, r, by rw [e0]; exact congrArg (fun z => some (some z)) e2'⟩
      | succ j => exact g j v' t d (by simpa using e1) (by simpa using e2)
    · cases j with
      | zero =>
        have e' : i = i' := by simpa using e
        subst e'
        exact ⟨v, rfl, r, (List.getElem?_eq_some_iff.mp e0).1⟩
      | succ j => exact m hl j i' (by simpa using e)
end
/-! ### the rules of calls -/
theorem plm_nil {X : Cx} {ios : List Nat} {Wx : WX} : PLm X ios Wx [] [] (ret []) := ⟨_, pa_nil, fun B F W E σ H Q S h => h.done S .nil⟩
theorem plm_sh {X : Cx} {ios : List Nat} {Wx : WX} {md : Md} {a : Expr} {es : List Expr} {fa : M D} {fs : M (List D)} (ha : PP X ios Wx a fa) (hr : PLm X ios Wx md es fs) (hs : starEach (a :: es) X.env = (false, eval a X.env) :: starEach es X.env := by rfl) :
    PLm X ios Wx (none :: md) (a :: es) (bnd fa fun x => bnd fs fun xs => ret (x :: xs)) := by
  obtain ⟨ta, pa, ra⟩ := ha.ex
  obtain ⟨tr, pr, rr⟩ := hr.ex
  refine ⟨_, pa_cons pa pr hs, fun B F W E σ H Q S h => ?_⟩
  refine ra B F W E σ H _ S (Pst.seq h fun F1 W1 H1 x d E1 S1 s1 r1 h1 => ?_)
  refine rr B F1 W1 E1 σ H1 _ S1 (Pst.seq h1 fun F2 W2 H2 y e E2 S2 s2 r2 h2 => ?_)
  exact h2.done S2 (.sh (r1.mono s2.fx d) r2)
/-- an own local, handed in itself -/
theorem plm_io (i : Nat) {X : Cx} {ios : List Nat} {Wx : WX} {md : Md} {x : Str} {pos : Pos} {es : List Expr} {fs : M (List D)} (hr : PLm X ios Wx md es fs) (hN : X.N[i]? = some x := by rfl) (hv : Vis X.env.scope x := by first | exact Or.inl rfl | exact Or.inr (Or.inl rfl) | exact Or.inr (Or.inr rfl))
    (hd : (x == ("__debug__" : Str)) = false := by decide) (hcd : (x == ("__classdict__" : Str)) = false := by decide) (hs : starEach (.Name x pos :: es) X.env = (false, eval (.Name x pos) X.env) :: starEach es X.env := by rfl) : PLm X ios Wx (some i :: md) (.Name x pos :: es) (fun E => match E[i]? with
      | some (some _) => fs E
      | _ => .stk) := by
  obtain ⟨tr, pr, rr⟩ := hr.ex
  refine ⟨_, pa_cons (pe_var hN hv hd hcd) pr hs, fun B F W E σ H Q S h => ?_⟩
  cases q : E[i]? with
  | none => simp only [q] at h; exact h.elim
  | some o =>
    cases o with
    | none => simp only [q] at h; exact h.elim
    | some p =>
      simp only [q] at h
      obtain ⟨t, d⟩ := p
      obtain ⟨v, h1, h2⟩ := S.vr i t d q
      refine ⟨v, h1, rr B F W E σ H _ S ?_⟩
      cases q2 : fs E with
      | ok a E' =>
        rw [q2] at h
        exact fun F' W' H' b S' t' r => h F' W' H' _ S' t' (.io h1 r)
      | er x E' => rw [q2] at h; exact h
      | stk => rw [q2] at h; exact h.elim
def callM (m : Fm) (md : Md) (ds : List D) : M Ent := fun E => match ents md ds E with
  | none => .stk
  | some as => match m as with
    | .ok p O => .ok p (back 0 md O E)
    | .er x O => .er x (back 0 md O E)
    | .stk => .stk
section
variable {K : KF} {ios ios' : List Nat} {B : Bs} {F : Hp} {W : Wm} {E : Nv} {σ : L2.St} {H : Hp} {md : Md} {vs : List V} {ds : List D} {Wx : WX} {m : Fm} {n : Nat} {Q : VK}
/-- the heart of a call -/
theorem callG (S : St K ios B F W E σ H) (r : RepA K F σ md vs ds) (ok : mdOk ios' 0 md = true) (hn : md.length = n) (h : PstO K ios B Wx σ F W H (callM m md ds E) Q) : spD K n ios' m vs H Q (WE Wx σ) := by
  refine ⟨r.len.symm.trans hn, ?_⟩
  unfold callM at h
  cases q : ents md ds E with
  | none => rw [q] at h; exact h.elim
  | some as =>
    obtain ⟨hl, hh, hm⟩ := r.handed q
    have N : NewW ios' md F W H B noW := NewW.no
    refine ⟨F, inW W noW md, as, Handed.ins S N ok hl hh.handed, ?_⟩
    have nb : ∀ a l, noW a = some l → H a = none := fun a l z => by cases (show (none : Option Lab) = some l from z)
    cases q2 : m as with
    | ok p O =>
      simp only [q, q2] at h
      exact fun F' W' H' v Wr U fr rr => h F' _ H' v Wr (Handed.out S S (Same.refl _) N nb ok hh.handed (hm S.ln) U) (U.step N (Same.refl _) nb) (fr.out S (Same.refl _)) rr
    | er x O =>
      simp only [q, q2] at h
      exact fun F' W' H' c dx U rr => h F' _ H' c dx (Handed.out S S (Same.refl _) N nb ok hh.handed (hm S.ln) U) (U.step N (Same.refl _) nb) rr
    | stk => simp only [q, q2] at h; exact h.elim
end
section
variable {X : Cx} {ios ios' : List Nat} {Wx : WX} {e o : Expr} {es : List Expr} {pos p apos : Pos} {k n : Nat} {f C : Addr} {fd : FuncData} {ps : List Str} {m : Fm} {md : Md} {fs : M (List D)} {dvs : List V} {dds : List D} {us : List Value} {x mn : Str}
/-- f(..) of a def -/
theorem po_call (F : FnG X.prog X.w X.K X.mg X.base k f fd ps (spD X.K n ios' m)) (hr : Room k X.A) (hgd : X.A.guards = some []) (hg : Gl X x) (hm : X.mg x = some (.ref f)) (hk : PySem.W.keepIn X.K (.ref f) = true) (hb : Binds X.K fd ps us) (hd : Vals dvs us) (rd : ∀ F, RepL X.K F dvs dds) (tk : Takes X Wx)
    (ha : PLm X ios Wx md (e :: es) fs) (ok : mdOk ios' 0 (md ++ dds.map fun _ => none) = true := by rfl) (hn : (md ++ dds.map fun _ => none).length = n := by rfl) (hdb : (x == ("__debug__" : Str)) = false := by decide) (he : starEach (e :: es) X.env = (false, eval e X.env) :: starEach es X.env := by rfl) (hpl : (backTo pos (starEach es X.env)).any (·.1) = false := by rfl) :
    PO X ios Wx (.Call (.Name x p) (e :: es) [] pos) (bnd fs fun ds => callM m (md ++ dds.map fun _ => none) (ds ++ dds)) := by
  obtain ⟨ta, pa, ra⟩ := ha.ex
  refine ⟨_, pe_g F hr hgd hg hm hk hb hd tk pa hdb he hpl, fun B F W E σ H Q S h => ?_⟩
  refine ra B F W E σ H _ S (PstO.seq h fun F1 W1 H1 vs ds E1 S1 s1 r1 h1 => ?_)
  exact callG S1 (r1.app (rd F1)) ok hn h1
theorem po_call0 (F : FnG X.prog X.w X.K X.mg X.base k f fd ps (spD X.K n ios' m)) (hr : Room k X.A) (hgd : X.A.guards = some []) (hg : Gl X x) (hm : X.mg x = some (.ref f)) (hk : PySem.W.keepIn X.K (.ref f) = true) (hb : Binds X.K fd ps us) (hd : Vals dvs us) (rd : ∀ F, RepL X.K F dvs dds) (tk : Takes X Wx)
    (ok : mdOk ios' 0 (dds.map fun _ => none) = true := by rfl) (hn : (dds.map fun _ => (none : Option Nat)).length = n := by rfl) (hdb : (x == ("__debug__" : Str)) = false := by decide) :
    PO X ios Wx (.Call (.Name x p) [] [] pos) (callM m (dds.map fun _ => none) dds) := by
  refine ⟨_, pe_g0 F hr hgd hg hm hk hb hd tk hdb, fun B F W E σ H Q S h => ?_⟩
  exact callG S (RepA.nil.app (rd F)) ok hn h
end
end Dl

namespace Dl
open PySem PySem.Spec PyProof.Rows L2
/-! ### what was made, seen as shared -/
def shM (f : M Ent) : M D := bnd f fun p => ret p.2
/-- F with what was made -/
def frz (F : Hp) (Wr : Wm) (H : Hp) : Hp := fun a => match Wr a with
  | some _ => H a
  | none => F a
theorem frz_same {H F' : Hp} {W' Wr : Wm} {H' : Hp} (fr : Fresh Wr H F' W' H') : Same F' (frz F' Wr H') := fun a o h => by
  unfold frz
  cases q : Wr a with
  | none => exact h
  | some l => rw [(fr a l q).2.2.1] at h; cases h
section
variable {K : KF} {ios : List Nat} {B : Bs} {F F' : Hp} {W W' Wr : Wm} {E E' : Nv} {σ : L2.St} {H H' : Hp}
theorem frz_step (t : Stp F W H F' W' H') (fr : Fresh Wr H F' W' H') : Stp F W H (frz F' Wr H') W' H' where
  fx := t.fx.trans (frz_same fr)
  fn := fun a o h => by
    cases q : Wr a with
    | some l => exact .inr (fr a l q).1
    | none => unfold frz at h; rw [q] at h; exact t.fn a o h
  wx := t.wx
  wn := t.wn
  hx := t.hx
  hd := t.hd
theorem frz_st (S0 : Stp B.F0 B.W0 B.H0 F W H) (S' : St K ios B F' W' E' σ H') (fr : Fresh Wr H F' W' H') : St K ios B (frz F' Wr H') W' E' σ H' where
  fh := fun a o h => by
    unfold frz at h
    cases q : Wr a with
    | some l => rw [q] at h; exact h
    | none => rw [q] at h; exact S'.fh a o h
  st := by
    have s := S'.st
    refine ⟨s.fx.trans (frz_same fr), fun a o h => ?_, s.wx, s.wn, s.hx, s.hd⟩
    cases q : Wr a with
    | some l => exact .inr (S0.back (fr a l q).1)
    | none => unfold frz at h; rw [q] at h; exact s.fn a o h
  nz := S'.nz
  ow := fun a l h => by
    obtain ⟨h1, h2⟩ := S'.ow a l h
    refine ⟨?_, h2⟩
    unfold frz
    cases q : Wr a with
    | some m => rw [(fr a m q).2.1] at h; cases h
    | none => exact h1
  fr := S'.fr
  w0 := S'.w0
  vr := fun i t d h => by
    obtain ⟨v, h1, h2⟩ := S'.vr i t d h
    exact ⟨v, h1, h2.keep (frz_same fr) (fun _ _ q => q) (fun _ _ _ _ q => q)⟩
  pn := S'.pn
  ln := S'.ln
theorem frz_rep (fr : Fresh Wr H F' W' H') {t : Ow} {v : V} {d : D} (r : OwnT K F' H' Wr t [] v d) : Rep K (frz F' Wr H') v d :=
  OwnT.repO (p := []) (q := []) (frz_same fr) (fun a q o h ho => by unfold frz; rw [show Wr a = some q from h]; exact ho) r
end
section
variable {X : Cx} {ios : List Nat} {Wx : WX} {e : Expr} {f : M Ent}
theorem pp_of (h : PO X ios Wx e f) : PP X ios Wx e (shM f) := by
  obtain ⟨t, p, r⟩ := h.ex
  refine ⟨t, p, fun B F W E σ H Q S h => r B F W E σ H Q S ?_⟩
  unfold shM bnd at h
  cases q : f E with
  | ok a E' =>
    simp only [q] at h
    exact fun F' W' H' v Wr S' t' fr rr => h _ W' H' v (frz_st S.st S' fr) (frz_step t' fr) (frz_rep fr rr)
  | er x E' => simp only [q] at h; exact h
  | stk => simp only [q] at h; exact h.elim
end
/-! ### methods, makings -/
def isIns (c mn : Str) : D → Bool
  | .ins c' ns _ => c' == c && !ns.contains mn
  | _ => false
theorem isIns_of {K : KF} {F : Hp} {c mn : Str} {d : D} {v : V} (h : isIns c mn d = true) (r : Rep K F v d) : ∃ a dx fs, v = .ref a ∧ F a = some (.ins (He.ga K c) dx fs) ∧ fs.lookup mn = none := by
  cases d <;> first | (cases (show false = true from h); done) | skip
  rename_i c' ns ds
  have h' : (c' == c && !ns.contains mn) = true := h
  rw [Bool.and_eq_true] at h'
  cases r with
  | ins s k n r =>
    have e : c' = c := by simpa using h'.1
    subst e
    subst k
    refine ⟨_, _, _, rfl, s, ?_⟩
    subst n
    have h2 := h'.2
    rename_i a dx fs
    clear s r h h'
    induction fs with
    | nil => rfl
    | cons p fs ih =>
      obtain ⟨n, v⟩ := p
      have hc : (!(n :: fs.map (·.1)).contains mn) = true := h2
      have hc2 : ¬ (mn = n ∨ mn ∈ fs.map (·.1)) := by simpa using hc
      have c1 : (mn == n) = false := by
        cases q : mn == n with
        | false => rfl
        | true => exact absurd (.inl (by simpa using q)) hc2
      have e1 : ((n, v) :: fs).lookup mn = fs.lookup mn := by simp [List.lookup, c1]
      rw [e1]
      refine ih ?_
      have : ¬ mn ∈ fs.map (·.1) := fun z => hc2 (.inr z)
      simpa using this
section
variable {X : Cx} {ios ios' : List Nat} {Wx : WX} {e o : Expr} {es : List Expr} {pos p apos : Pos} {k n : Nat} {f C : Addr} {fd : FuncData} {ps : List Str} {m : Fm} {md : Md} {fo : M D} {fs : M (List D)} {dvs : List V} {dds : List D} {us : List Value} {x mn c : Str}
/-- o.m(..) -/
theorem po_meth {pl : Sem Bool} (ho : PP X ios Wx o fo) (hc : Cls X.K (He.ga X.K c)) (hm : Meth X.K (He.ga X.K c) mn f) (F : FnG X.prog X.w X.K X.mg X.base k f fd ps (spD X.K n ios' m)) (hr : Room k X.A) (hgd : X.A.guards = some []) (hb : Binds X.K fd ps us) (hd : Vals dvs us) (rd : ∀ F, RepL X.K F dvs dds) (tk : Takes X Wx)
    (ha : PLm X ios Wx md (e :: es) fs) (ok : mdOk ios' 0 (none :: md ++ dds.map fun _ => none) = true := by rfl) (hn : (none :: md ++ dds.map fun _ => none).length = n := by rfl)
    (hst : starEach (e :: es) X.env = (false, eval e X.env) :: starEach es X.env := by rfl) (hpl : (backTo pos (starEach es X.env)).any (·.1) = false := by rfl)
    (ht : eval (.Call (.Attribute o mn apos) (e :: es) [] pos) X.env = (do
      let ov ← eval o X.env
      standAt apos.atName
      let (f, first) ← holding [ov] (getMethod ov mn pl)
      callWith pos f first (backTo pos (starEach (e :: es) X.env)) (backToKw pos (keywordEach [] X.env))) := by rfl) :
    PO X ios Wx (.Call (.Attribute o mn apos) (e :: es) [] pos) (bnd fo fun d => if isIns c mn d = true then bnd fs fun ds => callM m (none :: md ++ dds.map fun _ => none) (d :: ds ++ dds) else stuck) := by
  obtain ⟨to, po, ro⟩ := ho.ex
  obtain ⟨ta, pa, ra⟩ := ha.ex
  refine ⟨_, pe_mg po hc hm F hr hgd hb hd tk pa hst hpl ht, fun B F W E σ H Q S h => ?_⟩
  refine ro B F W E σ H _ S (PstO.seq h fun F1 W1 H1 v d E1 S1 s1 r1 h1 => ?_)
  by_cases hi : isIns c mn d = true
  · rw [if_pos hi] at h1
    obtain ⟨a, dx, fs, rfl, ea, l⟩ := isIns_of hi r1
    refine ⟨a, dx, fs, rfl, S1.fh _ _ ea, l, ?_⟩
    refine ra B F1 W1 E1 σ H1 _ S1 (PstO.seq h1 fun F2 W2 H2 vs ds E2 S2 s2 r2 h2 => ?_)
    exact callG S2 ((RepA.sh (r1.mono s2.fx d) r2).app (rd F2)) ok hn h2
  · rw [if_neg hi] at h1; exact h1.elim
theorem po_meth0 {pl : Sem Bool} (ho : PP X ios Wx o fo) (hc : Cls X.K (He.ga X.K c)) (hm : Meth X.K (He.ga X.K c) mn f) (F : FnG X.prog X.w X.K X.mg X.base k f fd ps (spD X.K n ios' m)) (hr : Room k X.A) (hgd : X.A.guards = some []) (hb : Binds X.K fd ps us) (hd : Vals dvs us) (rd : ∀ F, RepL X.K F dvs dds) (tk : Takes X Wx)
    (ok : mdOk ios' 0 (none :: dds.map fun _ => none) = true := by rfl) (hn : (none :: dds.map fun _ => (none : Option Nat)).length = n := by rfl)
    (ht : eval (.Call (.Attribute o mn apos) [] [] pos) X.env = (do
      let ov ← eval o X.env
      standAt apos.atName
      let (f, first) ← holding [ov] (getMethod ov mn pl)
      callWith pos f first (backTo pos (starEach [] X.env)) (backToKw pos (keywordEach [] X.env))) := by rfl) :
    PO X ios Wx (.Call (.Attribute o mn apos) [] [] pos) (bnd fo fun d => if isIns c mn d = true then callM m (none :: dds.map fun _ => none) (d :: dds) else stuck) := by
  obtain ⟨to, po, ro⟩ := ho.ex
  refine ⟨_, pe_mg0 po hc hm F hr hgd hb hd tk ht, fun B F W E σ H Q S h => ?_⟩
  refine ro B F W E σ H _ S (PstO.seq h fun F1 W1 H1 v d E1 S1 s1 r1 h1 => ?_)
  by_cases hi : isIns c mn d = true
  · rw [if_pos hi] at h1
    obtain ⟨a, dx, fs, rfl, ea, l⟩ := isIns_of hi r1
    exact ⟨a, dx, fs, rfl, S1.fh _ _ ea, l, callG S1 ((RepA.sh r1 .nil).app (rd F1)) ok hn h1⟩
  · rw [if_neg hi] at h1; exact h1.elim
def makeM (m : Fm) (c : Str) (md : Md) (ds : List D) : M Ent := fun E => match ents md ds E with
  | none => .stk
  | some as => match m ((Ow.o, D.ins c [] []) :: as) with
    | .ok (Ow.sh, D.non) O => (match O[0]? with
      | some (some (Ow.o, d)) => .ok (Ow.o, d) (back 0 (none :: md) O E)
      | _ => .stk)
    | .er x O => .er x (back 0 (none :: md) O E)
    | _ => .stk
/-- the label of the thing being made -/
def selfW (x : Addr) : Wm := fun a => if a = x then some [0] else none
theorem selfW_of {x a : Addr} {l : Lab} (h : selfW x a = some l) : a = x ∧ l = [0] := by
  unfold selfW at h
  by_cases e : a = x
  · rw [if_pos e] at h; cases h; exact ⟨e, rfl⟩
  · rw [if_neg e] at h; cases h
theorem makeG {K : KF} {B : Bs} {F : Hp} {W : Wm} {E : Nv} {σ : L2.St} {H : Hp} {vs : List V} {ds : List D} {Q : VK} {y dx : Addr} (S : Dl.St K ios B F W E σ H) (r : RepA K F σ md vs ds) (ok : mdOk ios' 0 (none :: md) = true) (h0 : 0 ∈ ios') (hn : (none :: md).length = n) (hx : H y = none) (hdx : H dx = none) (hne : dx ≠ y) (h : PstO K ios B Wx σ F W H (makeM m c md ds E) Q) :
    spD K n ios' m (.ref y :: vs) (upd (upd H dx (.own y)) y (.ins (He.ga K c) dx [])) (fun v H2 => v = .non ∧ Q (.ref y) H2) (WE Wx σ) := by
  refine ⟨by rw [← hn, List.length_cons, List.length_cons, r.len], ?_⟩
  unfold makeM at h
  cases q : ents md ds E with
  | none => rw [q] at h; exact h.elim
  | some as =>
    have hx2 : (upd H dx (.own y)) y = none := by rw [upd_ne (Ne.symm hne)]; exact hx
    have S1 : Dl.St K ios B F W E σ (upd (upd H dx (.own y)) y (.ins (He.ga K c) dx [])) := (S.laid hdx fun _ _ z => by cases z).laid hx2 fun _ _ z => by cases z
    have sb : Same H (upd (upd H dx (.own y)) y (.ins (He.ga K c) dx [])) := (same_new hdx).trans (same_new hx2)
    obtain ⟨hl, hh, hm⟩ := r.handed q
    have N : NewW ios' (none :: md) F W (upd (upd H dx (.own y)) y (.ins (He.ga K c) dx [])) B (selfW y) := ⟨fun a l z => by
      obtain ⟨rfl, rfl⟩ := selfW_of z
      exact ⟨S.fh.free hx, S.noW hx, S.st.back hx, ⟨_, upd_same⟩, 0, [], rfl, h0, rfl⟩⟩
    have nb : ∀ a l, selfW y a = some l → H a = none := fun a l z => by
      obtain ⟨rfl, _⟩ := selfW_of z
      exact hx
    have hnd : Handed K F (upd (upd H dx (.own y)) y (.ins (He.ga K c) dx [])) (selfW y) E σ (none :: md) (.ref y :: vs) ((.o, .ins c [] []) :: as) := fun j v t d e1 e2 => by
      cases j with
      | zero =>
        have e1' := Option.some.inj e1
        have e2' := Option.some.inj e2
        subst e1'
        cases e2'
        exact .inl ⟨rfl, y, He.ga K c, dx, [], c, [], [], rfl, rfl, if_pos rfl, upd_same, rfl, rfl, Nat.zero_le _, .nil⟩
      | succ j =>
        rcases hh j v t d (by simpa using e1) (by simpa using e2) with ⟨a, rfl, z⟩ | z
        · exact .inl ⟨a, z⟩
        · exact .inr z
    have hm2 : ∀ (j i : Nat), (none :: md)[j]? = some (some i) → ∃ v, (V.ref y :: vs)[j]? = some v ∧ σ[i]? = some (some v) ∧ i < E.length := fun j i e => by
      cases j with
      | zero => simp at e
      | succ j => exact hm S.ln j i (by simpa using e)
    refine ⟨F, inW W (selfW y) (none :: md), (.o, .ins c [] []) :: as, Handed.ins S1 N ok (by rw [List.length_cons, List.length_cons, hl]) hnd, ?_⟩
    cases q2 : m ((.o, .ins c [] []) :: as) with
    | ok p O =>
      simp only [q, q2] at h
      obtain ⟨t, d⟩ := p
      intro F' W' H' v Wr U fr rr
      cases t <;> first | (exact h.elim) | skip
      cases d <;> first | (exact h.elim) | skip
      have rr' : Rep K F' v .non := rr
      cases rr'
      refine ⟨rfl, ?_⟩
      cases q3 : O[0]? with
      | none => simp only [q3] at h; exact h.elim
      | some u =>
        simp only [q3] at h
        cases u with
        | none => exact h.elim
        | some p2 =>
          obtain ⟨t2, d2⟩ := p2
          cases t2 <;> first | (exact h.elim) | skip
          obtain ⟨y', C, dx', fs, c', ns, dd, e1, e2, w, e3, e4, e5, e6, e7⟩ := U.vr 0 (.ref y) .o d2 h0 rfl q3
          cases e1
          have ow := U.ow y _ w
          refine h F' _ H' (.ref y) (oneW y) (Handed.out S S1 sb N nb ok hnd hm2 U) (U.step N sb nb) (fun a l z => ?_) ⟨y, C, dx', fs, c', ns, dd, rfl, e2, oneW_self y, e3, e4, e5, e6, e7⟩
          obtain ⟨rfl, _⟩ := oneW_of z
          refine ⟨hx, ?_, ow⟩
          unfold outW
          rw [S.noW hx, w]
          rfl
    | er x O =>
      simp only [q, q2] at h
      exact fun F' W' H' c' dx' U rr => h F' _ H' c' dx' (Handed.out S S1 sb N nb ok hnd hm2 U) (U.step N sb nb) rr
    | stk => simp only [q, q2] at h; exact h.elim
/-- C(..) -/
theorem po_make (hM : Mk X.K (He.ga X.K c) f) (F : FnG X.prog X.w X.K X.mg X.base k f fd ps (spD X.K n ios' m)) (hr : Room (k + 1) X.A) (hgd : X.A.guards = some []) (hg : Gl X x) (hm : X.mg x = some (.ref (He.ga X.K c))) (hb : Binds X.K fd ps us) (hd : Vals dvs us) (rd : ∀ F, RepL X.K F dvs dds) (tk : Takes X Wx)
    (ha : PLm X ios Wx md (e :: es) fs) (ok : mdOk ios' 0 (none :: (md ++ dds.map fun _ => none)) = true := by rfl) (h0 : ios'.contains 0 = true := by rfl) (hn : (none :: (md ++ dds.map fun _ => none)).length = n := by rfl) (hdb : (x == ("__debug__" : Str)) = false := by decide) (he : starEach (e :: es) X.env = (false, eval e X.env) :: starEach es X.env := by rfl) (hpl : (backTo pos (starEach es X.env)).any (·.1) = false := by rfl) :
    PO X ios Wx (.Call (.Name x p) (e :: es) [] pos) (bnd fs fun ds => makeM m c (md ++ dds.map fun _ => none) (ds ++ dds)) := by
  obtain ⟨ta, pa, ra⟩ := ha.ex
  refine ⟨_, pe_mk hM F hr hgd hg hm hb hd tk pa hdb he hpl, fun B F W E σ H Q S h => ?_⟩
  refine ra B F W E σ H _ S (PstO.seq h fun F1 W1 H1 vs ds E1 S1 s1 r1 h1 => ?_)
  exact fun y dx h1' h2' hne => makeG S1 (r1.app (rd F1)) ok (by simpa using h0) hn h1' h2' hne h1
end
end Dl

namespace Dl
open PySem PySem.Spec PyProof.Rows L2
/-! ### what is owned is changed in its place -/
section
variable {K : KF} {ios : List Nat} {B : Bs} {F : Hp} {W : Wm} {E : Nv} {σ : L2.St} {H : Hp}
theorem Stp.mut {o : Addr} {l : Lab} {u : HO} (hw : W o = some l) : Stp F W H F W (upd H o u) :=
  ⟨Same.refl F, fun _ _ h => .inl h, fun _ _ h => h, fun _ _ h => .inl h, fun a x h n => by
    by_cases c : a = o
    · subst c; rw [hw] at n; cases n
    · rw [upd_ne c]; exact h, fun a x h => by
    by_cases c : a = o
    · subst c; exact ⟨_, upd_same⟩
    · exact ⟨x, by rw [upd_ne c]; exact h⟩⟩
theorem St.mut {i : Nat} {p : Lab} {o : Addr} {u : HO} {v : V} {t : Ow} {d : D} (S : St K ios B F W E σ H) (hw : W o = some (i :: p)) (hu : ∀ ob z, u ≠ .frz ob z) (hs : σ[i]? = some (some v)) (r : OwnT K F (upd H o u) W t [i] v d) : St K ios B F W (E.set i (some (t, d))) σ (upd H o u) where
  fh := fun a x h => by
    have hne : a ≠ o := fun z => by
      subst z
      rw [(S.ow _ _ hw).1] at h; cases h
    rw [upd_ne hne]; exact S.fh a x h
  st := S.st.trans (Stp.mut hw)
  nz := fun a ob z e => by
    by_cases c : a = o
    · subst c; rw [upd_same] at e; exact absurd (Option.some.inj e) (hu _ _)
    · rw [upd_ne c] at e; exact S.nz a ob z e
  ow := fun a l h => by
    obtain ⟨h1, x, h2⟩ := S.ow a l h
    refine ⟨h1, ?_⟩
    by_cases c : a = o
    · subst c; exact ⟨_, upd_same⟩
    · exact ⟨x, by rw [upd_ne c]; exact h2⟩
  fr := S.fr
  w0 := S.w0
  vr := fun j t' d' h => by
    by_cases c : i = j
    · subst c
      rw [List.getElem?_set] at h
      rw [if_pos rfl] at h
      by_cases hl : i < E.length
      · rw [if_pos hl] at h
        cases h
        exact ⟨v, hs, r⟩
      · rw [if_neg hl] at h; cases h
    · rw [List.getElem?_set, if_neg c] at h
      obtain ⟨w, h1, h2⟩ := S.vr j t' d' h
      refine ⟨w, h1, OwnT.keepAt (p := [j]) (q := []) (Same.refl F) (fun _ _ z => z) (fun a q x z hx => ?_) h2⟩
      have hne : a ≠ o := fun y => by
        subst y
        rw [hw] at z
        have z' : i = j := by
          have := Option.some.inj z
          exact (List.cons.inj this).1
        exact c z'
      rw [upd_ne hne]; exact hx
  pn := S.pn
  ln := by rw [List.length_set]; exact S.ln
/-- an own list of shared things -/
theorem OwnT.lsh {o : Addr} {vs : List V} {ds : List D} {lab : Lab} (hw : W o = some lab) (ho : H o = some (.lst vs)) (z : ds.length ≤ sizeLine) (r : RepL K F vs ds) : OwnT K F H W (.l .sh) lab (.ref o) (.lst ds) :=
  ⟨o, vs, ds, rfl, rfl, hw, ho, z, r.length, fun j v' d' e1 e2 => by
    obtain ⟨w, e3, r3⟩ := r.get e2
    rw [e1] at e3
    cases e3
    exact r3⟩
theorem OwnT.lshE {lab : Lab} {v : V} {d : D} (h : OwnT K F H W (.l .sh) lab v d) : ∃ o vs ds, v = .ref o ∧ d = .lst ds ∧ W o = some lab ∧ H o = some (.lst vs) ∧ ds.length ≤ sizeLine ∧ RepL K F vs ds := by
  obtain ⟨o, vs, ds, e1, e2, w, ho, z, ln, r⟩ := h
  exact ⟨o, vs, ds, e1, e2, w, ho, z, repL_of ln r⟩
end
/-- an own list at the slot i -/
def ownL (i : Nat) (E : Nv) : Option (List D) := match E[i]? with
  | some (some (.l .sh, .lst ds)) => some ds
  | _ => none
theorem ownL_of {i : Nat} {E : Nv} {ds : List D} (h : ownL i E = some ds) : E[i]? = some (some (.l .sh, .lst ds)) := by
  unfold ownL at h
  split at h
  · rename_i ds' e; cases h; exact e
  · cases h
def putL (i : Nat) (ds : List D) (E : Nv) : Nv := E.set i (some (.l .sh, .lst ds))
section
variable {K : KF} {ios : List Nat} {B : Bs} {F : Hp} {W : Wm} {E : Nv} {σ : L2.St} {H : Hp}
/-- the slot's list is there; what is put there is told -/
theorem St.ownl (S : St K ios B F W E σ H) {i : Nat} {ds : List D} (h : ownL i E = some ds) : ∃ o vs, σ[i]? = some (some (.ref o)) ∧ H o = some (.lst vs) ∧ ds.length ≤ sizeLine ∧ RepL K F vs ds ∧ Stp F W H F W H ∧
    ∀ vs' ds', RepL K F vs' ds' → ds'.length ≤ sizeLine → St K ios B F W (putL i ds' E) σ (upd H o (.lst vs')) ∧ Stp F W H F W (upd H o (.lst vs')) := by
  obtain ⟨v, h1, h2⟩ := S.vr i _ _ (ownL_of h)
  obtain ⟨o, vs, ds2, rfl, e, w, ho, z, r⟩ := h2.lshE
  cases e
  exact ⟨o, vs, h1, ho, z, r, Stp.refl _ _ _, fun vs' ds' r' z' => ⟨S.mut w (fun _ _ q => by cases q) h1 (OwnT.lsh w upd_same z' r'), Stp.mut w⟩⟩
end
section
variable {X : Cx} {ios : List Nat} {Wx : WX} {a e ix : Expr} {fa fe fi : M D} {pos tpos npos apos : Pos} {i : Nat} {x : Str}
def setIxS (i : Nat) (fe fi : M D) : G := andS fe fun y E => match E[i]? with
  | some (some _) => andS fi (fun k E => match ownL i E, k with
    | some ds, .int j => (match ixN ds.length j with
      | some n => .nx (putL i (ds.set n y) E)
      | none => .stk)
    | _, _ => .stk) E
  | _ => .stk
/-- x[ix] = e, x an own list -/
theorem pd_setix (i : Nat) (hN : X.N[i]? = some x) (he : PP X ios Wx e fe) (hi : PP X ios Wx ix fi) (hv : Vis X.env.scope x := by first | exact Or.inl rfl | exact Or.inr (Or.inl rfl) | exact Or.inr (Or.inr rfl)) (hd : (x == ("__debug__" : Str)) = false := by decide) (hcd : (x == ("__classdict__" : Str)) = false := by decide)
    (hs : swapsWith e (some (.Subscript (.Name x npos) ix tpos)) pos.line X.env = pure false := by rfl)
    (ha : ∀ v, assign (.Subscript (.Name x npos) ix tpos) X.env v = (do
      let ov ← holding [v] (eval (.Name x npos) X.env)
      let iv ← holding [v, ov] (eval ix X.env)
      standAt tpos
      holding [v, ov, iv] (setItem ov iv v)
      release [v, ov, iv] []) := by intro _; rfl) : PD X ios Wx (.Assign [.Subscript (.Name x npos) ix tpos] e pos) (setIxS i fe fi) := by
  obtain ⟨te, pe, re⟩ := he.ex
  obtain ⟨ti, pi, ri⟩ := hi.ex
  refine ⟨_, ps_asg pe (pg_sub (pe_var hN hv hd hcd) pi set_list ha) hs, fun B F W E σ H Dn S k => ?_⟩
  refine re B F W E σ H _ S (PstS.seq k fun F1 W1 H1 y dy E1 S1 s1 r1 k1 => ?_)
  cases q : E1[i]? with
  | none => simp only [q] at k1; exact k1.elim
  | some o =>
    cases o with
    | none => simp only [q] at k1; exact k1.elim
    | some p =>
      simp only [q] at k1
      obtain ⟨t, d⟩ := p
      obtain ⟨v, h1, _⟩ := S1.vr i t d q
      refine ⟨v, h1, ri B F1 W1 E1 σ H1 _ S1 (PstS.seq k1 fun F2 W2 H2 z dz E2 S2 s2 r2 k2 => ?_)⟩
      cases q2 : ownL i E2 with
      | none => simp only [q2] at k2; exact k2.elim
      | some ds =>
        simp only [q2] at k2
        cases dz <;> first | (exact k2.elim) | skip
        rename_i j
        have k3 : PstS X.K ios B Wx F2 (match ixN ds.length j with | some n => Fl.nx (putL i (ds.set n dy) E2) | none => Fl.stk) Dn := k2
        cases q3 : ixN ds.length j with
        | none => simp only [q3] at k3; exact k3.elim
        | some n =>
          simp only [q3] at k3
          obtain ⟨o, vs, h2, h3, h4, h5, _, h6⟩ := S2.ownl q2
          rw [h1] at h2
          cases h2
          cases r2
          refine ⟨o, vs, j, n, rfl, rfl, h3, by rw [h5.length]; exact q3, ?_⟩
          obtain ⟨S3, s3⟩ := h6 _ _ (RepL.set (r1.mono s2.fx dy) n h5) (by rw [List.length_set]; exact h4)
          exact k3 F2 W2 _ σ S3 (Same.refl F2)
theorem get_list : PGet X (rIxL X.K) := by
  intro pins s σ H x y v u Q I rx ry h
  obtain ⟨p, xs, i, z, rfl, rfl, hq, he, q⟩ := h
  cases rx
  obtain ⟨t, rfl⟩ := ry
  obtain ⟨its, r, pl, hz⟩ := I.list hq
  obtain ⟨j, h1, h2, h3, h4, h5⟩ := atI_get he
  obtain ⟨w, ew, rw'⟩ := r.get h2
  have hl := r.length
  have fin : EP X pins σ Q w s := ⟨z, H, I, rw', q⟩
  have hn := line63
  rcases Int.lt_or_le i 0 with h0 | h0
  · have hj : (i + (its.toArray.size : Int)).toNat = j := by
      rw [seqIndex_neg h0 h4] at h1
      rw [List.size_toArray, ← hl]
      exact Option.some.inj h1
    exact wpAny_getItem_list_neg pl.isList h0 (by rw [List.size_toArray] <;> omega) (by omega) (by rw [hj]; simpa using ew) fin
  · have hj : i.toNat = j := by
      rw [seqIndex_of h0 h5] at h1
      exact Option.some.inj h1
    exact wpAny_getItem_list pl.isList h0 (by omega) (by rw [hj]; simpa using ew) fin
def augIxS (i : Nat) (g : D → D → Option D) (fi fe : M D) : G := fun E => match E[i]? with
  | some (some _) => andS fi (fun k E => match ownL i E, k with
    | some ds, .int j => (match L2.atI ds j with
      | some old => andS fe (fun y E => match g old y, ownL i E with
        | some z, some ds => (match ixN ds.length j with
          | some n => .nx (putL i (ds.set n z) E)
          | none => .stk)
        | _, _ => .stk) E
      | none => .stk)
    | _, _ => .stk) E
  | _ => .stk
/-- x[ix] op= e, x an own list -/
theorem pd_augix (i : Nat) {op : Operator} {tip : TIp} {g : D → D → Option D} (hN : X.N[i]? = some x) (hp : PIp X op tip) (hg : OpD X.K tip g) (he : PP X ios Wx e fe) (hi : PP X ios Wx ix fi) (hv : Vis X.env.scope x := by first | exact Or.inl rfl | exact Or.inr (Or.inl rfl) | exact Or.inr (Or.inr rfl)) (hd : (x == ("__debug__" : Str)) = false := by decide) (hcd : (x == ("__classdict__" : Str)) = false := by decide)
    (ha : ∀ ov iv new, augStore ix ov iv new = (do holding [new, ov, iv] (setItem ov iv new); release [new, ov, iv] []; pure .next) := by intros; rfl) : PD X ios Wx (.AugAssign (.Subscript (.Name x npos) ix tpos) op e pos) (augIxS i g fi fe) := by
  obtain ⟨te, pe, re⟩ := he.ex
  obtain ⟨ti, pi, ri⟩ := hi.ex
  refine ⟨_, ps_augS (pe_var hN hv hd hcd) pi get_list pe hp set_list ha, fun B F W E σ H Dn S k => ?_⟩
  unfold augIxS at k
  cases q : E[i]? with
  | none => simp only [q] at k; exact k.elim
  | some o =>
    cases o with
    | none => simp only [q] at k; exact k.elim
    | some p =>
      simp only [q] at k
      obtain ⟨t, d⟩ := p
      obtain ⟨v, h1, _⟩ := S.vr i t d q
      refine ⟨v, h1, ri B F W E σ H _ S (PstS.seq k fun F2 W2 H2 z dz E2 S2 s2 r2 k2 => ?_)⟩
      cases q2 : ownL i E2 with
      | none => simp only [q2] at k2; exact k2.elim
      | some ds =>
        simp only [q2] at k2
        cases dz <;> first | (exact k2.elim) | skip
        rename_i j
        cases q3 : L2.atI ds j with
        | none => simp only [q3] at k2; exact k2.elim
        | some old =>
          simp only [q3] at k2
          obtain ⟨o, vs, h2, h3, h4, h5, _, h6⟩ := S2.ownl q2
          rw [h1] at h2
          cases h2
          cases r2
          obtain ⟨w, e1, rw'⟩ := h5.atI q3
          refine ⟨o, vs, j, w, rfl, rfl, SqL.of h3, e1, re B F2 W2 E2 σ H2 _ S2 (PstS.seq k2 fun F3 W3 H3 y dy E3 S3 s3 r3 k3 => ?_)⟩
          cases q4 : g old dy with
          | none => simp only [q4] at k3; exact k3.elim
          | some z' =>
            cases q5 : ownL i E3 with
            | none => simp only [q4, q5] at k3; exact k3.elim
            | some ds3 =>
              cases q6 : ixN ds3.length j with
              | none => simp only [q4, q5, q6] at k3; exact k3.elim
              | some n =>
                simp only [q4, q5, q6] at k3
                refine hg F3 H3 w y old dy z' _ S3.fh (rw'.mono s3.fx old) r3 q4 fun F4 H4 v4 g4 r4 => ?_
                have S4 := S3.grow g4
                obtain ⟨o', vs', h2', h3', h4', h5', _, h6'⟩ := S4.ownl q5
                rw [h1] at h2'
                cases h2'
                refine ⟨o, vs', j, n, rfl, rfl, h3', by rw [h5'.length]; exact q6, ?_⟩
                obtain ⟨S5, s5⟩ := h6' _ _ (RepL.set r4 n h5') (by rw [List.length_set]; exact h4')
                exact k3 F4 W3 _ σ S5 g4.fx
def augS (i : Nat) (g : D → D → Option D) (fe : M D) : G := andS (rd i) fun old => andS fe fun y E => match g old y with
  | some z => .nx (E.set i (some (.sh, z)))
  | none => .stk
/-- x op= e, a shared local -/
theorem pd_aug (i : Nat) {op : Operator} {tip : TIp} {g : D → D → Option D} (hN : X.N.Nodup) (hi : X.N[i]? = some x) (hx : Loc X.env.scope x) (hio : ios.contains i = false) (hp : PIp X op tip) (hg : OpD X.K tip g) (he : PP X ios Wx e fe)
    (hf : X.fn x = true ∨ X.env.scope.names.lookup x = some .local := by first | exact .inl rfl | exact .inr rfl | assumption) : PD X ios Wx (.AugAssign (.Name x npos) op e pos) (augS i g fe) := by
  obtain ⟨te, pe, re⟩ := he.ex
  refine ⟨_, ps_aug hN hi hx pe hp hf, fun B F W E σ H Dn S k => ?_⟩
  unfold augS andS at k
  unfold rd at k
  cases q : E[i]? with
  | none => simp only [q] at k; exact k.elim
  | some o =>
    cases o with
    | none => simp only [q] at k; exact k.elim
    | some p =>
      obtain ⟨t, d⟩ := p
      obtain ⟨v, h1, h2⟩ := S.vr i t d q
      cases t <;> first | (simp only [q] at k; exact k.elim) | skip
      simp only [q] at k
      refine ⟨v, h1, re B F W E σ H _ S (PstS.seq (k := fun y E => match g d y with | some z => .nx (E.set i (some (.sh, z))) | none => .stk) k fun F3 W3 H3 y dy E3 S3 s3 r3 k3 => ?_)⟩
      cases q4 : g d dy with
      | none => simp only [q4] at k3; exact k3.elim
      | some z =>
        simp only [q4] at k3
        have h2' : Rep X.K F v d := h2
        refine hg F3 H3 v y d dy z _ S3.fh (h2'.mono s3.fx d) r3 q4 fun F4 H4 v4 g4 r4 => ?_
        have S4 := S3.grow g4
        exact k3 F4 _ H4 _ (S4.put (p := (.sh, z)) hio Fresh.no r4) g4.fx
/-! ### methods of an own list -/
/-- a method on a list: what it gives, what is left -/
def MutD (K : KF) (r : V → List V → Hp → VK → Prop) (g : List D → List D → Option (D × List D)) : Prop := ∀ (F H : Hp) (o : Addr) (vs : List V) (ds : List D) (xs : List V) (as : List D) (z : D) (ds' : List D) (Q : VK), H o = some (.lst vs) → F o = none → Same F H → ds.length ≤ sizeLine → RepL K F vs ds → RepL K F xs as → g ds as = some (z, ds') →
  (∀ v vs', Rep K F v z → RepL K F vs' ds' → Q v (upd H o (.lst vs'))) → r (.ref o) xs H Q
def mutM (i : Nat) (g : List D → List D → Option (D × List D)) (fs : M (List D)) : M D := fun E => match ownL i E with
  | some _ => bnd fs (fun as E => match ownL i E with
    | some ds => (match g ds as with
      | some (z, ds') => if small ds'.length = true then .ok z (putL i ds' E) else .stk
      | none => .stk)
    | none => .stk) E
  | none => .stk
section
variable {es : List Expr} {fs : M (List D)} {name : Str} {id : String} {r : V → List V → Hp → VK → Prop} {g : List D → List D → Option (D × List D)} {cpos : Pos}
theorem mut_end {B : Bs} {F : Hp} {W : Wm} {E : Nv} {σ : L2.St} {H : Hp} {Q : VK} {o : Addr} {xs : List V} {as : List D} (hr : MutD X.K r g) (S : Dl.St X.K ios B F W E σ H) (h1 : σ[i]? = some (some (.ref o))) (rx : RepL X.K F xs as)
    (k : Pst X.K ios B Wx σ (Rep X.K) F W H (match ownL i E with
      | some ds => (match g ds as with
        | some (z, ds') => if small ds'.length = true then Rs.ok z (putL i ds' E) else .stk
        | none => .stk)
      | none => .stk) Q) : r (.ref o) xs H Q := by
  cases q2 : ownL i E with
  | none => simp only [q2] at k; exact k.elim
  | some ds =>
    simp only [q2] at k
    obtain ⟨v, e1, e2⟩ := S.vr i _ _ (ownL_of q2)
    obtain ⟨o', vs, ds2, rfl, e, w, ho, z, rr⟩ := e2.lshE
    cases e
    rw [h1] at e1
    cases e1
    cases q3 : g ds as with
    | none => simp only [q3] at k; exact k.elim
    | some pr =>
      obtain ⟨zz, ds'⟩ := pr
      simp only [q3] at k
      by_cases hz : small ds'.length = true
      · rw [if_pos hz] at k
        refine hr F H o vs ds xs as zz ds' Q ho (S.ow _ _ w).1 S.fh z rr rx q3 fun v' vs' r1 r2 => ?_
        obtain ⟨_, _, h2, h3, h4, h5, _, h6⟩ := S.ownl q2
        rw [h1] at h2
        cases h2
        obtain ⟨S3, s3⟩ := h6 _ _ r2 (of_decide_eq_true hz)
        exact k F W _ v' S3 s3 r1
      · rw [if_neg hz] at k; exact k.elim
theorem pp_mut (i : Nat) (slot : Slot "list" name id) (hty : typeOf (.builtin id) = pure (.type "method_descriptor")) (hm : MtR X id r) (hr : MutD X.K r g) (hN : X.N[i]? = some x) (ha : PL X ios Wx (e :: es) fs) (hv : Vis X.env.scope x := by first | exact Or.inl rfl | exact Or.inr (Or.inl rfl) | exact Or.inr (Or.inr rfl)) (hd : (x == ("__debug__" : Str)) = false := by decide) (hcd : (x == ("__classdict__" : Str)) = false := by decide)
    (hbase : attributeBase (.Name x npos) name X.env (eval (.Name x npos) X.env) = eval (.Name x npos) X.env := by rfl)
    (hfew : ((backTo cpos (starEach (e :: es) X.env)).all (fun x => !x.1) && (backToKw cpos (keywordEach [] X.env)).all (fun x => x.1.isSome)
      && decide ((e :: es).length + ([] : List Keyword).length + (if ([] : List Keyword).isEmpty then 0 else 1) < 30)) = true := by rfl)
    (hline : (apos.endLine == cpos.line) = true := by rfl) (hs : starEach (e :: es) X.env = (false, eval e X.env) :: starEach es X.env := by rfl) (hplain : (backTo cpos (starEach es X.env)).any (·.1) = false := by rfl) :
    PP X ios Wx (.Call (.Attribute (.Name x npos) name apos) (e :: es) [] cpos) (mutM i g fs) := by
  obtain ⟨ta, pa, ra⟩ := ha.ex
  refine ⟨_, pe_bm PySem.F.plainAttrs_list slot hty hm (pe_var hN hv hd hcd) pa hbase hfew hline hs hplain, fun B F W E σ H Q S k => ?_⟩
  unfold mutM at k
  cases q : ownL i E with
  | none => simp only [q] at k; exact k.elim
  | some ds0 =>
    simp only [q] at k
    obtain ⟨o, vs, h1, h3, h4, h5, _, h6⟩ := S.ownl q
    refine ⟨_, h1, .inl ⟨rfl, _, SqL.of h3⟩, ra B F W E σ H _ S (Pst.seq k fun F2 W2 H2 xs as E2 S2 s2 r2 k2 => ?_)⟩
    exact mut_end hr S2 h1 r2 k2
theorem pp_mut0 (i : Nat) (slot : Slot "list" name id) (hty : typeOf (.builtin id) = pure (.type "method_descriptor")) (hm : MtR X id r) (hr : MutD X.K r g) (hN : X.N[i]? = some x) (hv : Vis X.env.scope x := by first | exact Or.inl rfl | exact Or.inr (Or.inl rfl) | exact Or.inr (Or.inr rfl)) (hd : (x == ("__debug__" : Str)) = false := by decide) (hcd : (x == ("__classdict__" : Str)) = false := by decide)
    (hbase : attributeBase (.Name x npos) name X.env (eval (.Name x npos) X.env) = eval (.Name x npos) X.env := by rfl) (hline : (apos.endLine == cpos.line) = true := by rfl) :
    PP X ios Wx (.Call (.Attribute (.Name x npos) name apos) [] [] cpos) (mutM i g (ret [])) := by
  refine ⟨_, pe_bm0 PySem.F.plainAttrs_list slot hty hm (pe_var hN hv hd hcd) hbase hline, fun B F W E σ H Q S k => ?_⟩
  unfold mutM at k
  cases q : ownL i E with
  | none => simp only [q] at k; exact k.elim
  | some ds0 =>
    simp only [q] at k
    obtain ⟨o, vs, h1, h3, h4, h5, _, h6⟩ := S.ownl q
    refine ⟨_, h1, .inl ⟨rfl, _, SqL.of h3⟩, ?_⟩
    exact mut_end hr S h1 .nil k
end
end
def appG : List D → List D → Option (D × List D)
  | ds, [y] => if ds.length < sizeLine then some (.non, ds ++ [y]) else none
  | _, _ => none
theorem mut_app {K : KF} : MutD K rAppend appG := by
  intro F H o vs ds xs as z ds' Q ho fo fh hz rr rx hg q
  cases as with
  | nil => cases hg
  | cons y r =>
    cases r with
    | cons _ _ => cases hg
    | nil =>
      have hg' : (if ds.length < sizeLine then some (D.non, ds ++ [y]) else none) = some (z, ds') := hg
      by_cases c : ds.length < sizeLine
      · rw [if_pos c] at hg'
        cases hg'
        cases rx with
        | cons r1 r2 =>
          cases r2
          exact ⟨o, vs, _, rfl, rfl, ho, by rw [rr.length]; exact c, q _ _ .non (rr.app (.cons r1 .nil))⟩
      · rw [if_neg c] at hg'; cases hg'
def extG : List D → List D → Option (D × List D)
  | ds, [.lst es] => if ds.length + es.length ≤ sizeLine then some (.non, ds ++ es) else none
  | _, _ => none
theorem mut_ext {K : KF} : MutD K rExtend extG := by
  intro F H o vs ds xs as z ds' Q ho fo fh hz rr rx hg q
  unfold extG at hg
  split at hg
  · rename_i es
    by_cases c : ds.length + es.length ≤ sizeLine
    · rw [if_pos c] at hg
      cases hg
      cases rx with
      | cons r1 r2 =>
        cases r2
        cases r1 with
        | lst s z r =>
          exact ⟨o, _, vs, _, rfl, rfl, ho, fh _ _ s, by rw [rr.length, r.length]; exact c, q _ _ .non (rr.app r)⟩
    · rw [if_neg c] at hg; cases hg
  · cases hg
theorem RepL.erase {K : KF} {F : Hp} : ∀ {vs : List V} {ds : List D} (n : Nat), RepL K F vs ds → RepL K F (vs.eraseIdx n) (ds.eraseIdx n)
  | [], _, n, h => by cases h; exact .nil
  | v :: vs, _, 0, h => by cases h with | cons _ h2 => exact h2
  | v :: vs, _, n + 1, h => by cases h with | cons h1 h2 => exact .cons h1 (h2.erase n)
theorem RepL.dropLast {K : KF} {F : Hp} : ∀ {vs : List V} {ds : List D}, RepL K F vs ds → RepL K F vs.dropLast ds.dropLast
  | [], _, h => by cases h; exact .nil
  | [v], _, h => by cases h with | cons h1 h2 => cases h2; exact .nil
  | v :: w :: vs, _, h => by
    cases h with
    | cons h1 h2 =>
      cases h2 with
      | cons h3 h4 => exact .cons h1 (RepL.dropLast (.cons h3 h4))
theorem RepL.reverse {K : KF} {F : Hp} : ∀ {vs : List V} {ds : List D}, RepL K F vs ds → RepL K F vs.reverse ds.reverse
  | [], _, h => by cases h; exact .nil
  | v :: vs, _, h => by
    cases h with
    | cons h1 h2 =>
      rw [List.reverse_cons, List.reverse_cons]
      exact h2.reverse.app (.cons h1 .nil)
def popG : List D → List D → Option (D × List D)
  | ds, [] => (ds[ds.length - 1]?).map fun y => (y, ds.dropLast)
  | _, _ => none
theorem mut_pop {K : KF} : MutD K rPop popG := by
  intro F H o vs ds xs as z ds' Q ho fo fh hz rr rx hg q
  cases as with
  | cons _ _ => cases hg
  | nil =>
    cases rx
    have hg' : (ds[ds.length - 1]?).map (fun y => (y, ds.dropLast)) = some (z, ds') := hg
    cases e : ds[ds.length - 1]? with
    | none => rw [e] at hg'; cases hg'
    | some y =>
      rw [e] at hg'
      cases hg'
      obtain ⟨v, e1, r1⟩ := rr.get e
      exact ⟨o, vs, v, rfl, rfl, ho, by rw [rr.length]; exact e1, q _ _ r1 rr.dropLast⟩
def popAtG : List D → List D → Option (D × List D)
  | ds, [.int i] => if -(2 ^ 63) ≤ i ∧ i < 2 ^ 63 then (seqIndex? i ds.length).bind fun k => (ds[k]?).map fun y => (y, ds.eraseIdx k) else none
  | _, _ => none
theorem mut_popAt {K : KF} : MutD K rPopAt popAtG := by
  intro F H o vs ds xs as z ds' Q ho fo fh hz rr rx hg q
  unfold popAtG at hg
  split at hg
  · rename_i i
    by_cases c : -(2 ^ 63) ≤ i ∧ i < 2 ^ 63
    · rw [if_pos c] at hg
      cases e1 : seqIndex? i ds.length with
      | none => rw [e1] at hg; cases hg
      | some k =>
        rw [e1] at hg
        have hg' : (ds[k]?).map (fun y => (y, ds.eraseIdx k)) = some (z, ds') := hg
        cases e : ds[k]? with
        | none => rw [e] at hg'; cases hg'
        | some y =>
          rw [e] at hg'
          cases hg'
          cases rx with
          | cons r1 r2 =>
            cases r2
            cases r1
            obtain ⟨v, e2, r3⟩ := rr.get e
            exact ⟨o, vs, i, k, v, rfl, rfl, ho, c.1, c.2, by rw [rr.length]; exact e1, e2, q _ _ r3 (rr.erase k)⟩
    · rw [if_neg c] at hg; cases hg
  · cases hg
def revG : List D → List D → Option (D × List D)
  | ds, [] => some (.non, ds.reverse)
  | _, _ => none
theorem mut_rev {K : KF} : MutD K rReverse revG := by
  intro F H o vs ds xs as z ds' Q ho fo fh hz rr rx hg q
  cases as with
  | cons _ _ => cases hg
  | nil =>
    cases rx
    cases (show some (D.non, ds.reverse) = some (z, ds') from hg)
    exact ⟨o, vs, rfl, rfl, ho, q _ _ .non rr.reverse⟩
def clrG : List D → List D → Option (D × List D)
  | _, [] => some (.non, [])
  | _, _ => none
theorem mut_clr {K : KF} : MutD K rClear clrG := by
  intro F H o vs ds xs as z ds' Q ho fo fh hz rr rx hg q
  cases as with
  | cons _ _ => cases hg
  | nil =>
    cases rx
    cases (show some (D.non, ([] : List D)) = some (z, ds') from hg)
    exact ⟨o, vs, rfl, rfl, ho, q _ _ .non .nil⟩
def insG : List D → List D → Option (D × List D)
  | ds, [.int i, y] => if ds.length < sizeLine ∧ 0 ≤ i ∧ i < 2 ^ 63 then some (.non, ds.take i.toNat ++ [y] ++ ds.drop i.toNat) else none
  | _, _ => none
theorem mut_ins {K : KF} : MutD K (fun x vs H Q => ∃ (l : Addr) (xs : List V) (i : Int) (y : V), x = .ref l ∧ vs = [.int i, y] ∧ H l = some (.lst xs) ∧ xs.length < sizeLine ∧ 0 ≤ i ∧ i < 2 ^ 63 ∧ Q .non (upd H l (.lst (xs.take i.toNat ++ [y] ++ xs.drop i.toNat)))) insG := by
  intro F H o vs ds xs as z ds' Q ho fo fh hz rr rx hg q
  unfold insG at hg
  split at hg
  · rename_i i y
    by_cases c : ds.length < sizeLine ∧ 0 ≤ i ∧ i < 2 ^ 63
    · rw [if_pos c] at hg
      cases hg
      cases rx with
      | cons r1 r2 =>
        cases r2 with
        | cons r2 r3 =>
          cases r3
          cases r1
          exact ⟨o, vs, i, _, rfl, rfl, ho, by rw [rr.length]; exact c.1, c.2.1, c.2.2, q _ _ .non (((rr.take _).app (.cons r2 .nil)).app (rr.drop _))⟩
    · rw [if_neg c] at hg; cases hg
  · cases hg
/-- in-place operators on ints -/
def ipD (f : Int → Int → Int) : D → D → Option D
  | .int i, .int j => some (.int (f i j))
  | _, _ => none
theorem opd_ip {K : KF} (f : Int → Int → Int) : OpD K (ipI f) (ipD f) := by
  intro F H x y d e z Q fh rx ry hz q
  unfold ipD at hz
  split at hz
  · cases hz; cases rx; cases ry
    exact ⟨_, _, rfl, rfl, q F H _ (Gr.refl fh) (.int _)⟩
  · cases hz
end Dl

/-! Dl11: loops over lists and tuples alike, enumerate of both -/
namespace PySem
open Sem (wp)
theorem dl_enum_new {v : Value} {o : Obj} {H : Heap → Prop} (B : Begins v o H) :
    Meets (Builtin.«enumerate.__new__» ⟨[.type "enumerate", v], []⟩) (fun _ R s => H s.heap ∧
      R (.ok (.ret (.ref (s.heap.push o).objs.size))) { s with heap := (s.heap.push o).push { cls := .type "enumerate", data := .fields #[.none, .bool false, .ref s.heap.objs.size, rawInt 0, .none, .none] } }) := by
  refine .of_wp fun prog w A R s hh => ?_
  obtain ⟨hp, g, d, tk, os⟩ := s
  have hsub := sub_enumerate
  have start : ∀ {A' : Around} {E : Value → Shared → Prop} {Q : Value → Shared → Prop}, Q (.ref hp.objs.size) ⟨hp.push o, g, d, tk, os⟩ → wpAny (model prog w) A' (pyIter v) Q E ⟨hp, g, d, tk, os⟩ :=
    fun q => B.iter prog w _ _ ⟨hp, g, d, tk, os⟩ _ hh.1 q
  wp_walk using start
  refine wpAny_stack_any fun st => wpAny_pure ?_
  split
  next c _ _ _ _ _ => cases (c == Value.type "enumerate") <;> (wp_walk using start; exact ⟨_, rfl, hh.2⟩)
  next => wp_walk using start; exact ⟨_, rfl, hh.2⟩
theorem dl_enum_call {prog : Program} {w : World} {A : Around} {E : Value → Shared → Prop} {s : Shared} {v : Value} {o : Obj} {H : Heap → Prop} {Q : Value → Shared → Prop} (B : Begins v o H) (hh : H s.heap)
    (k : ∀ h', IsEnum h' (s.heap.objs.size + 1) s.heap.objs.size 0 .none → h'.get? s.heap.objs.size = some o → (∀ b u, s.heap.get? b = some u → h'.get? b = some u) → Q (.ref (s.heap.objs.size + 1)) { s with heap := h' }) :
    wpAny (model prog w) A (call (.type "enumerate") [v]) Q E s := by
  have two : (s.heap.push o).objs.size = s.heap.objs.size + 1 := Heap.size_push ..
  have top := Heap.get?_push_size (s.heap.push o) (o := { cls := .type "enumerate", data := .fields #[.none, .bool false, .ref s.heap.objs.size, rawInt 0, .none, .none] }) rfl
  refine callType_new F.called_enumerate (by decide) (F.typeCall_enumerate_1 _) (F.newCall_enumerate_1 _) (fun obj => F.args_object_init_2 obj _) F.entry_enumerate_new (dl_enum_new B) ⟨hh, ?_⟩
  show _ ∧ _
  rw [two] at top ⊢
  exact ⟨⟨_, top, rfl⟩, k _ top (Heap.get?_push_of_some _ (Heap.get?_push_size _ B.free)) fun b u x => Heap.get?_push_of_some _ (Heap.get?_push_of_some _ x)⟩
end PySem
namespace Dl
open PySem PySem.Spec PyProof.Rows L2
/-- the tuple at a, each item in a new pair -/
def Itet (K : KF) (a : Addr) : It where
  go := fun i H => ∃ (xs : List V) (x : V), SqT K H a xs ∧ xs[i]? = some x
  yld := fun i H v H' => ∃ T x, v = .ref T ∧ H T = none ∧ H' = upd H T (.tup [.int (i : Nat), x]) ∧ ∀ xs, SqT K H a xs → xs[i]? = some x
  stop := fun i H => ∃ xs : List V, SqT K H a xs ∧ xs.length ≤ i
theorem turn_enumT {P : Program} {w : World} {K : KF} {elts : List Expr} {kk : Nat} {tpos : Pos} (a e it : Addr) :
    Turn P w K (.Tuple elts kk tpos) (Itet K a) [e, it] e (fun i h => (∃ old, IsEnum h e it ((i : Nat) : Int) old) ∧ h.IsTupleIter it a i ∧ e ≠ it) where
  mem := List.mem_cons_self
  obj := fun i h st b hb => by
    obtain ⟨⟨old, he⟩, ⟨o, ho, hc, hd⟩, _⟩ := st
    rcases List.mem_cons.mp hb with rfl | hb
    · exact ⟨_, he, fun v q => nomatch q⟩
    · cases List.mem_singleton.mp hb
      exact ⟨o, ho, fun v q => by rw [hd] at q; cases q⟩
  keep := fun i h h' st k => by
    obtain ⟨⟨old, he⟩, hi, hne⟩ := st
    exact ⟨⟨old, k e (by simp) _ he⟩, hi.at fun o q => k it (by simp) o q, hne⟩
  item := by
    rintro X rfl rfl rfl hc i pins s σ H E I hf ⟨⟨old, he⟩, hit, hne⟩ ⟨xs, x, hq, hx⟩
    obtain ⟨its, rv, p, hz⟩ := I.tuple hq
    obtain ⟨u, hu, ru⟩ := rv.get hx
    have hel : e < s.heap.objs.size := Heap.lt_size he
    have hil : it < s.heap.objs.size := by obtain ⟨_, q, _⟩ := hit; exact Heap.lt_size q
    have tup : s.heap.IsTuple a its.toArray := p
    have hea : e ≠ a := fun z => by
      subst z
      obtain ⟨o, ho, hcl, _⟩ := tup
      rw [he] at ho
      cases ho
      exact absurd (Value.type.inj hcl) (by decide)
    have D := Draws.tuple (prog := X.prog) (w := X.w) (A := X.A.in1) (I.ok.hd hc) it a (fun z => by
      subst z
      obtain ⟨o, ho, hcl, _⟩ := tup
      obtain ⟨o', ho', hc', _⟩ := hit
      rw [ho] at ho'
      cases ho'
      rw [hcl] at hc'
      exact absurd (Value.type.inj hc') (by decide)) its.toArray
    refine wpAny_pyNext_enum_itemD D he ⟨hit, tup⟩ (by have := (List.getElem?_eq_some_iff.mp hu).1; simpa using this) hne (by
      intro z
      rcases List.mem_cons.mp z with z | z
      · exact hne z
      · exact hea (List.mem_singleton.mp z)) fun y h' tk hy ho hs' hT hsz hk => ?_
    have hyu : y = u := by
      have hy' : its.toArray[i]? = some y := hy
      rw [show its.toArray[i]? = some u by simpa using hu] at hy'
      exact (Option.some.inj hy').symm
    subst hyu
    refine ⟨_, rfl, wpAny_letOwnedTupleGo_enum (s := { s with heap := h', toks := tk + 1 }) ho fun h'' he' sb => ?_⟩
    have hT2 : h''.get? s.heap.objs.size = some { cls := .type "tuple", data := .seq #[.int i tk, y] } := (sb.2 _ (Nat.ne_of_gt hel)).trans hT
    have new : ObjOk X.prog X.w (upd H s.heap.objs.size (.tup [.int (i : Nat), x])) h'' s.heap.objs.size (.tup [.int (i : Nat), x]) :=
      ⟨by show 2 ≤ sizeLine; decide, [.int i tk, y], .cons ⟨_, rfl⟩ (.cons ru .nil), ⟨_, hT2, rfl, _, rfl⟩⟩
    have I1 : Inv X pins σ (upd H s.heap.objs.size (.tup [.int (i : Nat), x])) { s with heap := h'', toks := tk + 1 } :=
      I.turnedNew (ch := [e, it]) (fun b ob hb q => (sb.2 b (fun z => hb (by simp [z]))).trans (hk b ob (fun z => hb (by simp [z])) (fun z => hb (by simp [z])) q)) hf (Nat.le_refl _) new
    refine ⟨.ref s.heap.objs.size, _, I1, rfl, ⟨_, x, rfl, I.hok.fresh (Nat.le_refl _), rfl, fun ys hy => by rw [I.tuple_inj hy hq]; exact hx⟩, ⟨⟨y, ?_⟩, hs'.1.at fun o q => (sb.2 it (Ne.symm hne)).trans q, hne⟩, fun b hb => ?_⟩
    · rw [show ((i + 1 : Nat) : Int) = (i : Int) + 1 by omega]; exact he'
    · have hb' : b < s.heap.objs.size := by
        rcases List.mem_cons.mp hb with rfl | z
        · exact hel
        · cases List.mem_singleton.mp z; exact hil
      rw [upd_ne (Nat.ne_of_lt hb')]
      exact (hf b hb).1
  done := by
    rintro X rfl rfl rfl hc i pins s σ H E I hf ⟨⟨old, he⟩, hit, hne⟩ ⟨xs, hq, hx⟩
    obtain ⟨its, rv, p, hz⟩ := I.tuple hq
    obtain ⟨f0, f1, f2, f3, f4, f5⟩ := hf it (by simp)
    have tup : s.heap.IsTuple a its.toArray := p
    have hl := rv.length
    have hT : s.TypeIs (.ref e) "enumerate" := ⟨_, he, rfl⟩
    have hh : (X.A.in1.in1).handled = none := I.ok.hd hc
    unfold pyNext
    refine wpAny_bind (wpAny_attempt (wpAny_callSpecial?_slot (name := Str.ofString "__next__") hT F.slot_enumerate_next (wpAny_call_entry F.slot_enumerate_next hT F.entry_enumerate_next ?_ (F.args_enumerate_next_1 _))))
    show wpAny _ _ (field (.ref e) 2 >>= _) _ _ _
    refine wpAny_bind (wpAny_field he rfl (x := .ref it) rfl (wpAny_bind (wpAny_nextOf_tuple_end hh hit tup (by simp; omega) fun h' x he' hx' => ?_)))
    obtain ⟨o, ho, hcl⟩ := hx'
    exact wpAny_bind (wpAny_isInstance (T := "StopIteration") (b := true) ⟨o, ho, hcl⟩ isSubtype_stop (wpAny_pure ⟨rfl, I.turned (t' := s.toks) (fun b o hb q => he' b o hb q) f0 f1 f3 f4 f5⟩))
  self := fun A i s Q E st h => let ⟨⟨_, he⟩, _⟩ := st; wpAny_pyIter_enum he h
section
variable {X : Cx} {tg e : Expr} {te : TE}
/-- a list or a tuple walked -/
def iSeq (K : KF) (te : TE) : TI := fun σ H R => te σ H fun x H1 => ∃ a, x = .ref a ∧ (((∃ xs, SqL K H1 a xs) ∧ R (Itl K a) H1) ∨ ((∃ xs, SqT K H1 a xs) ∧ R (Itt K a) H1))
theorem pi_seq (he : PE X e te) : PI X tg e (iSeq X.K te) := by
  refine ⟨fun pins s σ H R I h => thn (he.run pins s σ H _ I h) fun v s1 ⟨x, H1, I1, r1, a, ex, q⟩ => ?_⟩
  subst ex
  cases r1
  have at0 : ∀ b ∈ [s1.heap.objs.size], FpOk X pins H1 b := fun b hb => by
    cases List.mem_singleton.mp hb
    exact I1.fpOk (Nat.le_refl _) (I1.hok.fresh (Nat.le_refl _))
  rcases q with ⟨⟨xs, hq⟩, q⟩ | ⟨⟨xs, hq⟩, q⟩
  · obtain ⟨its, rv, p, hz⟩ := I1.list hq
    exact wpAny_pyIter_list p.isList ⟨s1.heap.objs.size, [s1.heap.objs.size], _, _, H1, rfl, I1.kept (t' := s1.toks) fun b o z => Heap.get?_push_of_some _ z, turn_list a _, ⟨_, Heap.get?_push_size _ rfl, rfl, rfl⟩, at0, q⟩
  · obtain ⟨its, rv, p, hz⟩ := I1.tuple hq
    exact wpAny_pyIter_tuple (show s1.heap.IsTuple a its.toArray from p) ⟨s1.heap.objs.size, [s1.heap.objs.size], _, _, H1, rfl, I1.kept (t' := s1.toks) fun b o z => Heap.get?_push_of_some _ z, turn_tuple a _, ⟨_, Heap.get?_push_size _ rfl, rfl, rfl⟩, at0, q⟩
variable {ta : TA} {p pos tpos : Pos} {elts : List Expr} {kk : Nat}
def iEnumS (K : KF) (ta : TA) : TI := fun σ H R => ta σ H fun vs H1 => ∃ a, vs = [.ref a] ∧ (((∃ xs, SqL K H1 a xs) ∧ R (Ite K a) H1) ∨ ((∃ xs, SqT K H1 a xs) ∧ R (Itet K a) H1))
theorem pi_enumS (hg : Gl X "enumerate") (hm : X.mg "enumerate" = none) (ha : PA X [e] ta) (hs : starEach [e] X.env = [(false, eval e X.env)] := by rfl) : PI X (.Tuple elts kk tpos) (.Call (.Name "enumerate" p) [e] [] pos) (iEnumS X.K ta) := by
  refine ⟨fun pins s σ H R I h => Call_ (ld_blt I hg hm boot_enumerate (PyProof.Rows.callWith_type1 (thn (ha.run pos pins s σ H _ I h) fun us s1 ⟨vs, H1, I1, r1, a, ex, q⟩ => ?_) hs rfl))⟩
  subst ex
  obtain ⟨u, rfl, ru⟩ := r1.one
  cases ru
  have at2 : ∀ b ∈ [s1.heap.objs.size + 1, s1.heap.objs.size], FpOk X pins H1 b := fun b hb => by
    have hle : s1.heap.objs.size ≤ b := by
      rcases List.mem_cons.mp hb with rfl | z
      · exact Nat.le_succ _
      · rw [List.mem_singleton.mp z]; exact Nat.le_refl _
    exact I1.fpOk hle (I1.hok.fresh hle)
  rcases q with ⟨⟨xs, hq⟩, q⟩ | ⟨⟨xs, hq⟩, q⟩
  · obtain ⟨its, rv, pl, hz⟩ := I1.list hq
    exact dl_enum_call (begins_list a its.toArray) pl.isList fun h' he hit hk => wpAny_pyIter_enum he
      ⟨s1.heap.objs.size + 1, _, _, _, H1, rfl, I1.kept (t' := s1.toks) hk, turn_enum a (s1.heap.objs.size + 1) s1.heap.objs.size, ⟨⟨.none, he⟩, ⟨_, hit, rfl, rfl⟩, Nat.succ_ne_self _⟩, at2, q⟩
  · obtain ⟨its, rv, pl, hz⟩ := I1.tuple hq
    exact dl_enum_call (begins_tuple a its.toArray) (show s1.heap.IsTuple a its.toArray from pl) fun h' he hit hk => wpAny_pyIter_enum he
      ⟨s1.heap.objs.size + 1, _, _, _, H1, rfl, I1.kept (t' := s1.toks) hk, turn_enumT a (s1.heap.objs.size + 1) s1.heap.objs.size, ⟨⟨.none, he⟩, ⟨_, hit, rfl, rfl⟩, Nat.succ_ne_self _⟩, at2, q⟩
end
/-- pairs with their places -/
def prs : Nat → List D → List D
  | _, [] => []
  | n, d :: ds => .tup [.int (n : Nat), d] :: prs (n + 1) ds
theorem prs_len : ∀ (n : Nat) (ds : List D), (prs n ds).length = ds.length
  | _, [] => rfl
  | n, d :: ds => by
    have h : prs n (d :: ds) = .tup [.int (n : Nat), d] :: prs (n + 1) ds := rfl
    rw [h, List.length_cons, List.length_cons, prs_len]
theorem prs_get : ∀ (n : Nat) (ds : List D) (i : Nat), (prs n ds)[i]? = (ds[i]?).map fun d => .tup [.int ((n + i : Nat) : Int), d]
  | _, [], i => by show ([] : List D)[i]? = _; simp
  | n, d :: ds, 0 => rfl
  | n, d :: ds, i + 1 => by
    have h : (prs n (d :: ds))[i + 1]? = (prs (n + 1) ds)[i]? := rfl
    rw [h, prs_get, List.getElem?_cons_succ, show n + 1 + i = n + (i + 1) by omega]
theorem pair_grow {K : KF} {F H : Hp} {T : Addr} {x : V} {d : D} {i : Nat} (fh : Same F H) (hT : H T = none) (r : Rep K F x d) : ∃ F', Gr F H F' (upd H T (.tup [.int (i : Nat), x])) ∧ Rep K F' (.ref T) (.tup [.int (i : Nat), d]) := by
  have g : Gr F H (upd F T (.tup [.int (i : Nat), x])) (upd H T (.tup [.int (i : Nat), x])) := Gr.new fh hT fun _ _ z => by cases z
  exact ⟨_, g, .tup (SqT.of upd_same) (by show 2 ≤ sizeLine; decide) (.cons (.int _) (.cons (r.mono g.fx d) .nil))⟩
theorem wlk_enum {K : KF} {F0 : Hp} {a : Addr} {vs : List V} {ds : List D} (h : F0 a = some (.lst vs)) (r : RepL K F0 vs ds) : Wlk K (Ite K a) (prs 0 ds) F0 where
  go := fun i F H e1 e2 hi => by
    rw [prs_len] at hi
    have hl := r.length
    exact ⟨vs, vs[i], SqL.of (e2 _ _ (e1 _ _ h)), List.getElem?_eq_getElem (by omega)⟩
  yld := fun i F H x H' d e1 e2 hy hd => by
    obtain ⟨T, y, rfl, hT, rfl, hq⟩ := hy
    rw [prs_get, Nat.zero_add] at hd
    cases q : ds[i]? with
    | none => rw [q] at hd; cases hd
    | some d0 =>
      rw [q] at hd
      cases hd
      obtain ⟨v, ev, rv⟩ := r.get q
      have ex := hq vs (SqL.of (e2 _ _ (e1 _ _ h)))
      rw [ev] at ex
      cases ex
      exact pair_grow e2 hT (rv.mono e1 d0)
  stop := fun i F H e1 e2 hi => ⟨vs, SqL.of (e2 _ _ (e1 _ _ h)), by rw [r.length, ← prs_len 0]; exact hi⟩
theorem wlk_enumT {K : KF} {F0 : Hp} {a : Addr} {vs : List V} {ds : List D} (h : SqT K F0 a vs) (r : RepL K F0 vs ds) : Wlk K (Itet K a) (prs 0 ds) F0 where
  go := fun i F H e1 e2 hi => by
    rw [prs_len] at hi
    have hl := r.length
    exact ⟨vs, vs[i], sqT_mono e2 (sqT_mono e1 h), List.getElem?_eq_getElem (by omega)⟩
  yld := fun i F H x H' d e1 e2 hy hd => by
    obtain ⟨T, y, rfl, hT, rfl, hq⟩ := hy
    rw [prs_get, Nat.zero_add] at hd
    cases q : ds[i]? with
    | none => rw [q] at hd; cases hd
    | some d0 =>
      rw [q] at hd
      cases hd
      obtain ⟨v, ev, rv⟩ := r.get q
      have ex := hq vs (sqT_mono e2 (sqT_mono e1 h))
      rw [ev] at ex
      cases ex
      exact pair_grow e2 hT (rv.mono e1 d0)
  stop := fun i F H e1 e2 hi => ⟨vs, sqT_mono e2 (sqT_mono e1 h), by rw [r.length, ← prs_len 0]; exact hi⟩
section
variable {X : Cx} {ios : List Nat} {Wx : WX} {a tg : Expr} {p pos tpos : Pos} {elts : List Expr} {kk : Nat}
theorem it_seq {f : M D} (ha : PP X ios Wx a f) : PIt X ios Wx tg a (bnd f fun d => ofO (seqOf d)) := by
  obtain ⟨ta, pa, ra⟩ := ha.ex
  refine ⟨_, pi_seq pa, fun B F W E σ H R S h => ?_⟩
  refine ra B F W E σ H _ S (Pst.seq h fun F1 W1 H1 x d E1 S1 s1 r1 h1 => ?_)
  obtain ⟨z, ez, h2⟩ := h1.some
  cases r1 <;> first | (cases ez; done) | skip
  · rename_i a vs ds s zz r
    cases ez
    exact ⟨a, rfl, .inl ⟨⟨vs, SqL.of (S1.fh _ _ s)⟩, h2.done S1 (wlk_list s r)⟩⟩
  · rename_i a vs ds s zz r
    cases ez
    exact ⟨a, rfl, .inr ⟨⟨vs, sqT_mono S1.fh s⟩, h2.done S1 (wlk_tup s r)⟩⟩
def enumOf : List D → Option (List D)
  | [d] => (seqOf d).map (prs 0)
  | _ => none
theorem it_enum {fs : M (List D)} (hg : Gl X "enumerate") (hm : X.mg "enumerate" = none) (ha : PL X ios Wx [a] fs) (hs : starEach [a] X.env = [(false, eval a X.env)] := by rfl) : PIt X ios Wx (.Tuple elts kk tpos) (.Call (.Name "enumerate" p) [a] [] pos) (bnd fs fun ds => ofO (enumOf ds)) := by
  obtain ⟨ta, pa, ra⟩ := ha.ex
  refine ⟨_, pi_enumS hg hm pa hs, fun B F W E σ H R S h => ?_⟩
  refine ra B F W E σ H _ S (Pst.seq h fun F1 W1 H1 x d E1 S1 s1 r1 h1 => ?_)
  obtain ⟨z, ez, h2⟩ := h1.some
  cases r1 with
  | nil => cases ez
  | cons r1 r2 =>
    cases r2 with
    | cons _ _ => cases ez
    | nil =>
      cases r1 <;> first | (cases ez; done) | skip
      · rename_i a vs ds s zz r
        cases ez
        exact ⟨a, rfl, .inl ⟨⟨vs, SqL.of (S1.fh _ _ s)⟩, h2.done S1 (wlk_enum s r)⟩⟩
      · rename_i a vs ds s zz r
        cases ez
        exact ⟨a, rfl, .inr ⟨⟨vs, sqT_mono S1.fh s⟩, h2.done S1 (wlk_enumT s r)⟩⟩
end
end Dl

/-! Dl12: built-in functions, dict displays, raise -/
namespace Dl
open PySem PySem.Spec PyProof.Rows L2
/-! ### len, all, any, .. -/
def asIs : List D → Option (List Int)
  | [] => some []
  | .int i :: r => (asIs r).map (i :: ·)
  | _ => none
def asBs : List D → Option (List Bool)
  | [] => some []
  | .bl b :: r => (asBs r).map (b :: ·)
  | _ => none
theorem RepL.ints {K : KF} {F : Hp} : ∀ {ds : List D} {vs : List V} {ns : List Int}, RepL K F vs ds → asIs ds = some ns → vs = ns.map V.int
  | [], _, ns, h, e => by cases h; cases (show some ([] : List Int) = some ns from e); rfl
  | d :: ds, _, ns, h, e => by
    cases h with
    | cons h1 h2 =>
      cases d <;> first | (cases (show (none : Option (List Int)) = some ns from e); done) | skip
      rename_i i
      have e' : (asIs ds).map (i :: ·) = some ns := e
      cases q : asIs ds with
      | none => rw [q] at e'; cases e'
      | some ms =>
        rw [q] at e'
        cases e'
        cases h1
        rw [h2.ints q]
        rfl
theorem RepL.bools {K : KF} {F : Hp} : ∀ {ds : List D} {vs : List V} {ns : List Bool}, RepL K F vs ds → asBs ds = some ns → vs = ns.map V.bl
  | [], _, ns, h, e => by cases h; cases (show some ([] : List Bool) = some ns from e); rfl
  | d :: ds, _, ns, h, e => by
    cases h with
    | cons h1 h2 =>
      cases d <;> first | (cases (show (none : Option (List Bool)) = some ns from e); done) | skip
      rename_i i
      have e' : (asBs ds).map (i :: ·) = some ns := e
      cases q : asBs ds with
      | none => rw [q] at e'; cases e'
      | some ms =>
        rw [q] at e'
        cases e'
        cases h1
        rw [h2.bools q]
        rfl
/-- one argument -/
def one {α : Type} (f : D → Option α) : List D → Option α
  | [d] => f d
  | _ => none
theorem one_of {α : Type} {f : D → Option α} {ds : List D} {z : α} (h : one f ds = some z) : ∃ d, ds = [d] ∧ f d = some z := by
  unfold one at h
  split at h
  · exact ⟨_, rfl, h⟩
  · cases h
theorem RepL.one {K : KF} {F : Hp} {vs : List V} {d : D} (h : RepL K F vs [d]) : ∃ v, vs = [v] ∧ Rep K F v d := by
  cases h with
  | cons h1 h2 => cases h2; exact ⟨_, rfl, h1⟩
theorem RepL.two {K : KF} {F : Hp} {vs : List V} {d e : D} (h : RepL K F vs [d, e]) : ∃ v w, vs = [v, w] ∧ Rep K F v d ∧ Rep K F w e := by
  cases h with
  | cons h1 h2 =>
    obtain ⟨w, rfl, h3⟩ := h2.one
    exact ⟨_, w, rfl, h1, h3⟩
def lenD : D → Option D
  | .str s => if s.length ≤ sizeLine then some (.int s.length) else none
  | .lst ds => some (.int ds.length)
  | .tup ds => some (.int ds.length)
  | _ => none
theorem cd_len {K : KF} : CallD K (fun xs H Q => ∃ x n, xs = [x] ∧ LenV K x H n ∧ Q (.int n) H) (one lenD) := by
  intro F H vs ds z Q fh r0 hz q
  obtain ⟨d, rfl, hz⟩ := one_of hz
  obtain ⟨v, rfl, r⟩ := r0.one
  cases r with
  | str s =>
    have hz' : (if s.length ≤ sizeLine then some (D.int s.length) else none) = some z := hz
    by_cases c : s.length ≤ sizeLine
    · rw [if_pos c] at hz'
      cases hz'
      exact ⟨_, _, rfl, ⟨c, rfl⟩, q F H _ (Gr.refl fh) (.int _)⟩
    · rw [if_neg c] at hz'; cases hz'
  | @lst a ws es s zz r =>
    cases (show some (D.int es.length) = some z from hz)
    exact ⟨_, _, rfl, .inl ⟨ws, SqL.of (fh _ _ s), r.length.symm⟩, q F H _ (Gr.refl fh) (.int _)⟩
  | @tup a ws es s zz r =>
    cases (show some (D.int es.length) = some z from hz)
    exact ⟨_, _, rfl, .inr ⟨ws, sqT_mono fh s, r.length.symm⟩, q F H _ (Gr.refl fh) (.int _)⟩
  | _ => cases hz
def onL {α : Type} (f : List D → Option α) : D → Option α
  | .lst ds => f ds
  | _ => none
theorem onL_of {α : Type} {f : List D → Option α} {d : D} {z : α} (h : onL f d = some z) : ∃ ds, d = .lst ds ∧ f ds = some z := by
  cases d <;> first | (cases (show (none : Option α) = some z from h); done) | skip
  exact ⟨_, rfl, h⟩
theorem Rep.lstE {K : KF} {F H : Hp} {v : V} {ds : List D} (fh : Same F H) (h : Rep K F v (.lst ds)) : ∃ a vs, v = .ref a ∧ SqL K H a vs ∧ RepL K F vs ds := by
  cases h with
  | lst s z r => exact ⟨_, _, rfl, SqL.of (fh _ _ s), r⟩
def allD : List D → Option D := one (onL fun ds => (asBs ds).map fun bs => .bl (bs.all id))
def anyD : List D → Option D := one (onL fun ds => (asBs ds).map fun bs => .bl (bs.any id))
def sumD : List D → Option D := one (onL fun ds => (asIs ds).map fun bs => .int bs.sum)
theorem map_of {α β : Type} {o : Option α} {f : α → β} {z : β} (h : o.map f = some z) : ∃ a, o = some a ∧ f a = z := by
  cases o with
  | none => cases h
  | some a => exact ⟨a, rfl, Option.some.inj h⟩
theorem cd_all {K : KF} : CallD K (rAll K) allD := by
  intro F H vs ds z Q fh r0 hz q
  obtain ⟨d, rfl, hz⟩ := one_of hz
  obtain ⟨v, rfl, r⟩ := r0.one
  obtain ⟨es, rfl, hz⟩ := onL_of hz
  obtain ⟨bs, e, rfl⟩ := map_of hz
  obtain ⟨a, ws, rfl, s, r⟩ := r.lstE fh
  exact ⟨a, bs, rfl, (r.bools e) ▸ s, q F H _ (Gr.refl fh) (.bl _)⟩
theorem cd_any {K : KF} : CallD K (rAny K) anyD := by
  intro F H vs ds z Q fh r0 hz q
  obtain ⟨d, rfl, hz⟩ := one_of hz
  obtain ⟨v, rfl, r⟩ := r0.one
  obtain ⟨es, rfl, hz⟩ := onL_of hz
  obtain ⟨bs, e, rfl⟩ := map_of hz
  obtain ⟨a, ws, rfl, s, r⟩ := r.lstE fh
  exact ⟨a, bs, rfl, (r.bools e) ▸ s, q F H _ (Gr.refl fh) (.bl _)⟩
theorem cd_sum {K : KF} : CallD K (rSum K) sumD := by
  intro F H vs ds z Q fh r0 hz q
  obtain ⟨d, rfl, hz⟩ := one_of hz
  obtain ⟨v, rfl, r⟩ := r0.one
  obtain ⟨es, rfl, hz⟩ := onL_of hz
  obtain ⟨bs, e, rfl⟩ := map_of hz
  obtain ⟨a, ws, rfl, s, r⟩ := r.lstE fh
  exact ⟨a, bs, rfl, (r.ints e) ▸ s, q F H _ (Gr.refl fh) (.int _)⟩
def absD : List D → Option D
  | [.int i] => some (.int (if i < 0 then -i else i))
  | _ => none
theorem cd_abs {K : KF} : CallD K (fun xs H Q => ∃ i, xs = [.int i] ∧ Q (.int (if i < 0 then -i else i)) H) absD := by
  intro F H vs ds z Q fh r0 hz q
  unfold absD at hz
  split at hz
  · obtain ⟨v, rfl, r⟩ := r0.one
    cases r; cases hz
    exact ⟨_, rfl, q F H _ (Gr.refl fh) (.int _)⟩
  · cases hz
def intD : List D → Option D
  | [.int i] => some (.int i)
  | [.bl b] => some (.int (if b then 1 else 0))
  | _ => none
theorem cd_int {K : KF} : CallD K (fun xs H Q => (∃ i, xs = [.int i] ∧ Q (.int i) H) ∨ ∃ k, xs = [.bl k] ∧ Q (.int (if k then 1 else 0)) H) intD := by
  intro F H vs ds z Q fh r0 hz q
  unfold intD at hz
  split at hz
  · obtain ⟨v, rfl, r⟩ := r0.one
    cases r; cases hz
    exact .inl ⟨_, rfl, q F H _ (Gr.refl fh) (.int _)⟩
  · obtain ⟨v, rfl, r⟩ := r0.one
    cases r; cases hz
    exact .inr ⟨_, rfl, q F H _ (Gr.refl fh) (.int _)⟩
  · cases hz
def max2D : List D → Option D
  | [.int i, .int j] => some (.int (if j > i then j else i))
  | _ => none
def min2D : List D → Option D
  | [.int i, .int j] => some (.int (if j < i then j else i))
  | _ => none
theorem cd_max2 {K : KF} : CallD K (fun xs H Q => ∃ i j, xs = [.int i, .int j] ∧ Q (.int (if j > i then j else i)) H) max2D := by
  intro F H vs ds z Q fh r0 hz q
  unfold max2D at hz
  split at hz
  · obtain ⟨v, w, rfl, r1, r2⟩ := r0.two
    cases r1; cases r2; cases hz
    exact ⟨_, _, rfl, q F H _ (Gr.refl fh) (.int _)⟩
  · cases hz
theorem cd_min2 {K : KF} : CallD K (fun xs H Q => ∃ i j, xs = [.int i, .int j] ∧ Q (.int (if j < i then j else i)) H) min2D := by
  intro F H vs ds z Q fh r0 hz q
  unfold min2D at hz
  split at hz
  · obtain ⟨v, w, rfl, r1, r2⟩ := r0.two
    cases r1; cases r2; cases hz
    exact ⟨_, _, rfl, q F H _ (Gr.refl fh) (.int _)⟩
  · cases hz
/-- the greatest, the least of some -/
def topI : Int → List Int → Int
  | n, [] => n
  | n, m :: r => topI (if m > n then m else n) r
def botI : Int → List Int → Int
  | n, [] => n
  | n, m :: r => botI (if m < n then m else n) r
theorem topI_ge : ∀ (r : List Int) (n y : Int), y = n ∨ y ∈ r → y ≤ topI n r
  | [], n, y, h => by
    rcases h with rfl | h
    · exact Int.le_refl _
    · cases h
  | m :: r, n, y, h => by
    have key : ∀ x, x ≤ (if m > n then m else n) → x ≤ topI (if m > n then m else n) r := fun x hx => Int.le_trans hx (topI_ge r _ _ (.inl rfl))
    show y ≤ topI (if m > n then m else n) r
    rcases h with rfl | h
    · refine key _ ?_
      split <;> omega
    · rcases List.mem_cons.mp h with rfl | h
      · refine key _ ?_
        split <;> omega
      · exact topI_ge r _ _ (.inr h)
theorem topI_mem : ∀ (r : List Int) (n : Int), topI n r = n ∨ topI n r ∈ r
  | [], n => .inl rfl
  | m :: r, n => by
    show topI (if m > n then m else n) r = n ∨ _
    rcases topI_mem r (if m > n then m else n) with h | h
    · by_cases c : m > n
      · rw [if_pos c] at h ⊢
        exact .inr (by show topI (if m > n then m else n) r ∈ m :: r; rw [if_pos c, h]; exact List.mem_cons_self)
      · rw [if_neg c] at h ⊢
        exact .inl h
    · exact .inr (List.mem_cons_of_mem _ h)
theorem botI_le : ∀ (r : List Int) (n y : Int), y = n ∨ y ∈ r → botI n r ≤ y
  | [], n, y, h => by
    rcases h with rfl | h
    · exact Int.le_refl _
    · cases h
  | m :: r, n, y, h => by
    have key : ∀ x, (if m < n then m else n) ≤ x → botI (if m < n then m else n) r ≤ x := fun x hx => Int.le_trans (botI_le r _ _ (.inl rfl)) hx
    show botI (if m < n then m else n) r ≤ y
    rcases h with rfl | h
    · refine key _ ?_
      split <;> omega
    · rcases List.mem_cons.mp h with rfl | h
      · refine key _ ?_
        split <;> omega
      · exact botI_le r _ _ (.inr h)
theorem botI_mem : ∀ (r : List Int) (n : Int), botI n r = n ∨ botI n r ∈ r
  | [], n => .inl rfl
  | m :: r, n => by
    show botI (if m < n then m else n) r = n ∨ _
    rcases botI_mem r (if m < n then m else n) with h | h
    · by_cases c : m < n
      · rw [if_pos c] at h ⊢
        exact .inr (by show botI (if m < n then m else n) r ∈ m :: r; rw [if_pos c, h]; exact List.mem_cons_self)
      · rw [if_neg c] at h ⊢
        exact .inl h
    · exact .inr (List.mem_cons_of_mem _ h)
def maxLD : List D → Option D := one (onL fun ds => (asIs ds).bind fun ns => match ns with
  | [] => none
  | n :: r => some (.int (topI n r)))
def minLD : List D → Option D := one (onL fun ds => (asIs ds).bind fun ns => match ns with
  | [] => none
  | n :: r => some (.int (botI n r)))
theorem bind_of {α β : Type} {o : Option α} {f : α → Option β} {z : β} (h : o.bind f = some z) : ∃ a, o = some a ∧ f a = some z := by
  cases o with
  | none => cases h
  | some a => exact ⟨a, rfl, h⟩
theorem cd_maxL {K : KF} : CallD K (rMax K) maxLD := by
  intro F H vs ds z Q fh r0 hz q
  obtain ⟨d, rfl, hz⟩ := one_of hz
  obtain ⟨v, rfl, r⟩ := r0.one
  obtain ⟨es, rfl, hz⟩ := onL_of hz
  obtain ⟨ns, e, hz⟩ := bind_of hz
  obtain ⟨a, ws, rfl, s, r⟩ := r.lstE fh
  cases ns with
  | nil => cases hz
  | cons n ns =>
    cases hz
    refine ⟨a, n :: ns, rfl, (r.ints e) ▸ s, Nat.zero_lt_succ _, fun m hm hy => ?_⟩
    have h1 : m ≤ topI n ns := topI_ge ns n m (List.mem_cons.mp hm)
    have h2 : topI n ns ≤ m := hy _ (List.mem_cons.mpr (topI_mem ns n))
    rw [show m = topI n ns by omega]
    exact q F H _ (Gr.refl fh) (.int _)
theorem cd_minL {K : KF} : CallD K (rMin K) minLD := by
  intro F H vs ds z Q fh r0 hz q
  obtain ⟨d, rfl, hz⟩ := one_of hz
  obtain ⟨v, rfl, r⟩ := r0.one
  obtain ⟨es, rfl, hz⟩ := onL_of hz
  obtain ⟨ns, e, hz⟩ := bind_of hz
  obtain ⟨a, ws, rfl, s, r⟩ := r.lstE fh
  cases ns with
  | nil => cases hz
  | cons n ns =>
    cases hz
    refine ⟨a, n :: ns, rfl, (r.ints e) ▸ s, Nat.zero_lt_succ _, fun m hm hy => ?_⟩
    have h1 : botI n ns ≤ m := botI_le ns n m (List.mem_cons.mp hm)
    have h2 : m ≤ botI n ns := hy _ (List.mem_cons.mpr (botI_mem ns n))
    rw [show m = botI n ns by omega]
    exact q F H _ (Gr.refl fh) (.int _)
def listD : List D → Option D := one fun d => (seqOf d).map .lst
def tupleD : List D → Option D := one fun d => (seqOf d).map .tup
theorem cd_list {K : KF} : CallD K (fun xs H Q => ∃ p ys, xs = [.ref p] ∧ (SqL K H p ys ∨ SqT K H p ys) ∧ ∀ l, H l = none → Q (.ref l) (upd H l (.lst ys))) listD := by
  intro F H vs ds z Q fh r0 hz q
  obtain ⟨d, rfl, hz⟩ := one_of hz
  obtain ⟨v, rfl, r⟩ := r0.one
  obtain ⟨es, e, rfl⟩ := map_of hz
  obtain ⟨p, ws, rfl, s, r'⟩ := seq_of fh r e
  have hz : es.length ≤ sizeLine := by
    cases r with
    | lst _ zz _ => cases e; exact zz
    | tup _ zz _ => cases e; exact zz
    | _ => cases e
  refine ⟨p, ws, rfl, s, fun l hl => ?_⟩
  have g : Gr F H (upd F l (.lst ws)) (upd H l (.lst ws)) := Gr.new fh hl fun _ _ z => by cases z
  exact q _ _ _ g (.lst upd_same hz (r'.mono g.fx es))
theorem cd_tuple {K : KF} : CallD K (fun xs H Q => ∃ p ys, xs = [.ref p] ∧ ((SqL K H p ys ∧ ∀ l, H l = none → Q (.ref l) (upd H l (.tup ys))) ∨ (SqT K H p ys ∧ Q (.ref p) H))) tupleD := by
  intro F H vs ds z Q fh r0 hz q
  obtain ⟨d, rfl, hz⟩ := one_of hz
  obtain ⟨v, rfl, r⟩ := r0.one
  obtain ⟨es, e, rfl⟩ := map_of hz
  cases r with
  | @lst a ws es' s zz r =>
    cases e
    refine ⟨a, ws, rfl, .inl ⟨SqL.of (fh _ _ s), fun l hl => ?_⟩⟩
    have g : Gr F H (upd F l (.tup ws)) (upd H l (.tup ws)) := Gr.new fh hl fun _ _ z => by cases z
    exact q _ _ _ g (.tup (SqT.of upd_same) zz (r.mono g.fx es))
  | @tup a ws es' s zz r =>
    cases e
    exact ⟨a, ws, rfl, .inr ⟨sqT_mono fh s, q F H _ (Gr.refl fh) (.tup s zz r)⟩⟩
  | _ => cases e
/-! ### repr -/
def reprD : List D → Option D := one fun d => (toP d).bind fun p => if p.showable = true ∧ p.hasDict = false ∧ p.shown.length ≤ sizeLine ∧ p.depth ≤ 40 then some (.str p.shown) else none
def rRepr (K : KF) : List V → Hp → VK → Prop := fun xs H Q => ∃ v p, xs = [v] ∧ Dp K H v p ∧ p.showable = true ∧ p.hasDict = false ∧ p.shown.length ≤ sizeLine ∧ p.depth ≤ 40 ∧ Q (.str p.shown) H
theorem cd_repr {K : KF} : CallD K (rRepr K) reprD := by
  intro F H vs ds z Q fh r0 hz q
  obtain ⟨d, rfl, hz⟩ := one_of hz
  obtain ⟨v, rfl, r⟩ := r0.one
  obtain ⟨p, e, hz⟩ := bind_of hz
  split at hz
  · rename_i c
    cases hz
    exact ⟨v, p, rfl, r.dp fh d e, c.1, c.2.1, c.2.2.1, c.2.2.2, q F H _ (Gr.refl fh) (.str _)⟩
  · cases hz
theorem call_reprA {X : Cx} (hg : X.A.guards = some []) (hu : X.A.units + 65 < cLine) : CallR X (.builtin "repr") (rRepr X.K) := by
  rintro pins s σ H xs us Q I r ⟨v, p, rfl, hd, h1, h2, h3, h4, q⟩
  obtain ⟨u, rfl, ru⟩ := r.one
  cases hd with
  | non => cases (show u = Value.none from ru); exact P.repr_of_none ⟨.str _, H, I.tok _, ⟨_, rfl⟩, q⟩
  | bl b => cases (show u = Value.bool b from ru); exact P.repr_of_bool ⟨.str _, H, I.tok _, ⟨_, rfl⟩, q⟩
  | int i =>
    obtain ⟨t, rfl⟩ := (show ∃ t, u = Value.int i t from ru)
    exact P.repr_of_int (of_decide_eq_true h1) ⟨.str _, H, I.tok _, ⟨_, rfl⟩, q⟩
  | str x =>
    obtain ⟨t, rfl⟩ := (show ∃ t, u = Value.str x t from ru)
    exact P.repr_of_str ⟨.str _, H, I.tok _, ⟨_, rfl⟩, q⟩ h3
  | lst hs ha =>
    rename_i a xs ds
    obtain ⟨as, rr⟩ := Dp.reads I (.list ds) _ u (.lst hs ha) ru
    cases (show u = Value.ref a from ru)
    exact repr_of_reads' rr h1 (PyData.noDict_hsm h2) hg (by omega) (fun b o z => z) (fun h' u tk k => ⟨.str _, H, I.kept k, ⟨_, rfl⟩, q⟩) h3
  | tup hs ha =>
    rename_i a xs ds
    obtain ⟨as, rr⟩ := Dp.reads I (.tuple ds) _ u (.tup hs ha) ru
    cases (show u = Value.ref a from ru)
    exact repr_of_reads' rr h1 (PyData.noDict_hsm h2) hg (by omega) (fun b o z => z) (fun h' u tk k => ⟨.str _, H, I.kept k, ⟨_, rfl⟩, q⟩) h3
end Dl

/-! Dl13: isinstance, dict displays, raise -/
namespace Dl
open PySem PySem.Spec PyProof.Rows L2
/-! ### isinstance -/
def tyN : D → Option String
  | .non => some "NoneType"
  | .bl _ => some "bool"
  | .int _ => some "int"
  | .str _ => some "str"
  | .lst _ => some "list"
  | .tup _ => some "tuple"
  | .dct _ _ => some "dict"
  | _ => none
/-- own classes whose things are asked -/
structure IC (K : KF) (c : Str) : Prop where
  cl : Cls K (He.ga K c)
  ha : PySem.W.findIn K (.ref (He.ga K c)) "__class__" = some (some (.builtin "object.__class__"))
  hn : PySem.W.specialIn K (.builtin "object.__class__") "__get__" = some (some (.builtin "getset_descriptor.__get__"))
  tk : PySem.W.takesIn K (.builtin "object.__class__") = some true
  ob : PySem.W.mroIn K (He.ga K c) (.type "object") = some true
def tys : List String := ["int", "bool", "str", "list", "tuple", "dict"]
structure ICs (K : KF) (cs : List Str) : Prop where
  ic : ∀ c ∈ cs, IC K c
  ty : ∀ c ∈ cs, ∀ T ∈ tys, PySem.W.kitOne K (.ref (He.ga K c)) (.type T) = some false
  yt : ∀ c ∈ cs, ∀ T ∈ "NoneType" :: tys, PySem.W.kitOne K (.type T) (.ref (He.ga K c)) = some false
  cc : ∀ c ∈ cs, ∀ c' ∈ cs, PySem.W.kitOne K (.ref (He.ga K c)) (.ref (He.ga K c')) = some (c == c')
/-- a thing of an own class, asked for a built-in type; for an own class -/
def insT (cs : List Str) (T : String) : D → Option Bool
  | .ins c _ _ => if cs.contains c = true ∧ tys.contains T = true then some false else none
  | _ => none
def insC (cs : List Str) (c : Str) : D → Option Bool
  | .ins c' _ _ => if cs.contains c' = true then some (c' == c) else none
  | _ => none
def isi1 (cs : List Str) (x : D) : D → Option Bool
  | .ty T => match tyN x with
    | some S => kitB S T
    | none => insT cs T x
  | .cl c => if cs.contains c = true then (match tyN x with
    | some _ => some false
    | none => insC cs c x) else none
  | _ => none
def isiA (cs : List Str) (x : D) : List D → Option Bool
  | [] => some false
  | c :: r => match isi1 cs x c with
    | some true => if (isiA cs x r).isSome = true then some true else none
    | some false => isiA cs x r
    | none => none
theorem tyX_of {K : KF} {F H : Hp} (fh : Same F H) {v : V} {d : D} {S : String} (r : Rep K F v d) (h : tyN d = some S) : TyX K H v (.type S) := by
  cases r with
  | non => cases h; exact .base .non
  | bl b => cases h; exact .base (.bl b)
  | int i => cases h; exact .base (.int i)
  | str x => cases h; exact .base (.str x)
  | lst s z r => cases h; exact .base (.lst (fh _ _ s))
  | tup s z r =>
    cases h
    rcases s with (s | ⟨o, s⟩) | ⟨o, its, n, e1, e2, _⟩
    · exact .base (.tup (fh _ _ s))
    · exact .fTuple (fh _ _ s)
    · exact .kTuple e1 e2
  | dk s k r =>
    cases h
    rcases s with s | ⟨o, s⟩
    · exact .base (.dK (fh _ _ s))
    · exact .fDict (fh _ _ s)
  | dt s k r => cases h; exact .base (.dT (fh _ _ s))
  | _ => cases h
theorem ic_ty {K : KF} {F H : Hp} {c : Str} {ns : List Str} {ds : List D} {v : V} (i : IC K c) (fh : Same F H) (r : Rep K F v (.ins c ns ds)) : TyX K H v (.ref (He.ga K c)) := by
  cases r with
  | ins s k n r => subst k; exact .base (.ins (fh _ _ s) i.cl i.ha i.hn i.tk i.ob)
/-- one class: its value, its answer -/
theorem isi1_of {K : KF} {F H : Hp} {cs : List Str} (I : ICs K cs) (fh : Same F H) {x : D} {v : V} {c : D} {w : V} {b : Bool} (r : Rep K F v x) (rc : Rep K F w c) (h : isi1 cs x c = some b) : ∃ t u, ClsV w u ∧ TyX K H v t ∧ PySem.W.kitOne K t u = some b ∧ (∀ S, tyN x = some S → t = .type S) ∧ ((∃ c' ns ds, x = .ins c' ns ds ∧ t = .ref (He.ga K c')) ∨ ∃ S, tyN x = some S) := by
  cases rc with
  | ty T =>
    cases q : tyN x with
    | some S =>
      have h' : kitB S T = some b := by
        have : isi1 cs x (.ty T) = kitB S T := by unfold isi1; rw [q]
        rw [this] at h; exact h
      exact ⟨_, _, .ty T, tyX_of fh r q, kit_ty h', fun S' e => (by cases e; rfl), .inr ⟨S, rfl⟩⟩
    | none =>
      have h0 : insT cs T x = some b := by
        have : isi1 cs x (.ty T) = insT cs T x := by unfold isi1; rw [q]
        rw [this] at h; exact h
      cases x with
      | ins c ns ds =>
        have h' : (if cs.contains c = true ∧ tys.contains T = true then some false else none) = some b := h0
        by_cases k : cs.contains c = true ∧ tys.contains T = true
        · rw [if_pos k] at h'
          cases h'
          have hc : c ∈ cs := by simpa using k.1
          have hT : T ∈ tys := by simpa using k.2
          exact ⟨_, _, .ty T, ic_ty (I.ic c hc) fh r, I.ty c hc T hT, fun S e => (by cases e), .inl ⟨c, ns, ds, rfl, rfl⟩⟩
        · rw [if_neg k] at h'; cases h'
      | _ => cases h0
  | cl c =>
    have h0 : (if cs.contains c = true then (match tyN x with
      | some _ => some false
      | none => insC cs c x) else none) = some b := h
    by_cases k : cs.contains c = true
    · rw [if_pos k] at h0
      have hc : c ∈ cs := by simpa using k
      cases q : tyN x with
      | some S =>
        simp only [q] at h0
        cases h0
        have hS : S ∈ "NoneType" :: tys := by
          cases x with
          | ins _ _ _ => cases q
          | ty _ => cases q
          | cl _ => cases q
          | frl _ => cases q
          | _ => cases q; decide
        exact ⟨_, _, .own _, tyX_of fh r q, I.yt c hc S hS, fun S' e => (by cases e; rfl), .inr ⟨S, rfl⟩⟩
      | none =>
        simp only [q] at h0
        cases x with
        | ins c' ns ds =>
          have h1 : (if cs.contains c' = true then some (c' == c) else none) = some b := h0
          by_cases k2 : cs.contains c' = true
          · rw [if_pos k2] at h1
            cases h1
            have hc' : c' ∈ cs := by simpa using k2
            exact ⟨_, _, .own _, ic_ty (I.ic c' hc') fh r, I.cc c' hc' c hc, fun S e => (by cases e), .inl ⟨c', ns, ds, rfl, rfl⟩⟩
          · rw [if_neg k2] at h1; cases h1
        | _ => cases h0
    · rw [if_neg k] at h0; cases h0
  | _ => cases h
def isiD (cs : List Str) : List D → Option D
  | [x, c] => (isi1 cs x c).map .bl
  | _ => none
theorem cd_isi {K : KF} {cs : List Str} (I : ICs K cs) : CallD K (rIsi K) (isiD cs) := by
  intro F H vs ds z Q fh r0 hz q
  unfold isiD at hz
  split at hz
  · rename_i x c
    obtain ⟨v, w, rfl, r1, r2⟩ := r0.two
    obtain ⟨b, e, rfl⟩ := map_of hz
    obtain ⟨t, u, h1, h2, h3, _⟩ := isi1_of I fh r1 r2 e
    exact ⟨v, w, t, u, b, rfl, h1, h2, h3, q F H _ (Gr.refl fh) (.bl b)⟩
  · cases hz
theorem isiA_of {K : KF} {F H : Hp} {cs : List Str} (I : ICs K cs) (fh : Same F H) {x : D} {v : V} (r : Rep K F v x) {t : Value} (ht : TyX K H v t) (hS : ∀ S, tyN x = some S → t = .type S) (hC : ∀ c ns ds, x = .ins c ns ds → t = .ref (He.ga K c)) : ∀ {ws : List V} {es : List D} {b : Bool}, RepL K F ws es → isiA cs x es = some b → ∃ us, Paired ClsV ws us ∧ PySem.W.kitAny K t us = some b
  | _, [], b, h, e => by
    cases h
    cases (show some false = some b from e)
    exact ⟨[], .nil, rfl⟩
  | _, c :: es, b, h, e => by
    cases h with
    | cons h1 h2 =>
      cases q : isi1 cs x c with
      | none => unfold isiA at e; simp only [q] at e; cases e
      | some k =>
        obtain ⟨t', u, k1, k2, k3, k4, k5⟩ := isi1_of I fh r h1 q
        have et : t' = t := by
          rcases k5 with ⟨c', ns, ds, e1, e2⟩ | ⟨S, e1⟩
          · rw [e2, hC c' ns ds e1]
          · rw [k4 S e1, hS S e1]
        subst et
        unfold isiA at e
        cases k with
        | true =>
          simp only [q] at e
          by_cases k : (isiA cs x es).isSome = true
          · rw [if_pos k] at e
            cases e
            obtain ⟨b', eb⟩ := Option.isSome_iff_exists.mp k
            obtain ⟨us, p1, p2⟩ := isiA_of I fh r ht hS hC h2 eb
            exact ⟨u :: us, .cons k1 p1, kitAny_cons k3 (fun z => by cases z) fun _ => rfl⟩
          · rw [if_neg k] at e; cases e
        | false =>
          simp only [q] at e
          obtain ⟨us, p1, p2⟩ := isiA_of I fh r ht hS hC h2 e
          exact ⟨u :: us, .cons k1 p1, kitAny_cons k3 (fun _ => p2) fun z => by cases z⟩
section
variable {X : Cx} {ios : List Nat} {Wx : WX} {a e : Expr} {es : List Expr} {fa : M D} {fs : M (List D)} {p pos tpos : Pos} {k : Nat} {cs : List Str}
/-- isinstance(x, (A, ..)) -/
def isiTM (cs : List Str) (fa : M D) (fs : M (List D)) : M D := bnd fa fun x => bnd fs fun es => if es.isEmpty = true ∨ ¬ small es.length = true then stuck else ofO ((isiA cs x es).map .bl)
theorem pp_isiT (I : ICs X.K cs) (hg : Gl X "isinstance") (hm : X.mg "isinstance" = none) (ha : PP X ios Wx a fa) (hes : PL X ios Wx es fs)
    (hs1 : starEach [a, .Tuple es k tpos] X.env = (false, eval a X.env) :: starEach [.Tuple es k tpos] X.env := by rfl) (hs2 : starEach [.Tuple es k tpos] X.env = (false, eval (.Tuple es k tpos) X.env) :: starEach [] X.env := by rfl) :
    PP X ios Wx (.Call (.Name "isinstance" p) [a, .Tuple es k tpos] [] pos) (isiTM cs fa fs) := by
  obtain ⟨ta, pa, ra⟩ := ha.ex
  obtain ⟨ts, ps, rs⟩ := hes.ex
  refine ⟨_, pe_callB call_isiT hg hm rfl (pa_cons pa (pa_cons (pe_tup ps) pa_nil hs2) hs1) (he := hs1) (hpl := by rw [hs2]; rfl), fun B F W E σ H Q S h => ?_⟩
  unfold isiTM at h
  refine ra B F W E σ H _ S (Pst.seq h fun F1 W1 H1 v x E1 S1 s1 r1 h1 => ?_)
  refine rs B F1 W1 E1 σ H1 _ S1 (Pst.seq h1 fun F2 W2 H2 ws es E2 S2 s2 r2 h2 => ?_)
  by_cases hz : es.isEmpty = true ∨ ¬ small es.length = true
  · rw [if_pos hz] at h2; exact h2.elim
  · rw [if_neg hz] at h2
    have hz' : es.length ≤ sizeLine := of_decide_eq_true (Classical.byContradiction fun z => hz (.inr z))
    refine ⟨by rw [r2.length]; exact hz', fun q hq => ?_⟩
    obtain ⟨z, ez, h3⟩ := h2.some
    obtain ⟨b, eb, rfl⟩ := map_of ez
    have g : Gr F2 H2 (upd F2 q (.tup ws)) (upd H2 q (.tup ws)) := Gr.new S2.fh hq fun _ _ z => by cases z
    have rx := r1.mono (s2.fx.trans g.fx) x
    have re := r2.mono g.fx es
    cases es with
    | nil => exact absurd (.inl rfl) hz
    | cons c es =>
      have re0 := re
      cases re with
      | cons h1' h2' =>
        have hb : ∃ k, isi1 cs x c = some k := by
          unfold isiA at eb
          cases q : isi1 cs x c with
          | none => simp only [q] at eb; cases eb
          | some k => exact ⟨k, rfl⟩
        obtain ⟨k, ek⟩ := hb
        obtain ⟨t, u, k1, k2, k3, k4, k5⟩ := isi1_of I g.fh rx h1' ek
        obtain ⟨us, p1, p2⟩ := isiA_of I g.fh rx k2 k4 (fun c' ns ds e => by
          rcases k5 with ⟨c2, ns2, ds2, e1, e2⟩ | ⟨S, e1⟩
          · rw [e1] at e; cases e; exact e2
          · rw [e] at e1; cases e1) re0 eb
        exact ⟨v, q, _, t, us, b, rfl, upd_same, p1, k2, p2, h3.grown S2 g (.bl b)⟩
/-! ### dict displays -/
theorem pp_dnew : PP X ios Wx (.Dict [] [] pos) (ret (.dct [] [])) := by
  refine ⟨_, pe_dnewK, fun B F W E σ H Q S h p hp => ?_⟩
  have g : Gr F H (upd F p (.dK [])) (upd H p (.dK [])) := Gr.new S.fh hp fun _ _ z => by cases z
  exact h.grown S g (.dk (.inl upd_same) rfl .nil)
/-- {k: v}, both written -/
theorem pp_done {kk : Key} {v : V} {d : D} {ke : Expr} {ve : Expr} (hk : PE X ke (tC (kV kk))) (hv : PE X ve (tC v)) (r : ∀ F : Hp, Rep X.K F v d) : PP X ios Wx (.Dict [some ke] [ve] pos) (ret (.dct [kD kk] [d])) := by
  refine ⟨_, pe_disp (pps_cons hk hv pps_nil) rfl rfl (by simp) (by show 1 ≤ 15; decide), fun B F W E σ H Q S h p hp => ?_⟩
  have g : Gr F H (upd F p (.dK [(kk, v)])) (upd H p (.dK [(kk, v)])) := Gr.new S.fh hp fun _ _ z => by cases z
  refine ⟨upd_same, [(kk, v)], rfl, by show 1 ≤ 15; decide, ?_⟩
  have e : upd (upd H p (.dK [])) p (.dK (mergeK [] [(kk, v)])) = upd H p (.dK [(kk, v)]) := by
    funext b
    by_cases c : b = p
    · subst c; rw [upd_same, upd_same]; rfl
    · rw [upd_ne c, upd_ne c, upd_ne c]
  rw [e]
  exact h.grown S g (.dk (.inl upd_same) rfl (.cons (r _) .nil))
end
/-! ### raise -/
/-- the __init__ of an own error class that keeps its arguments as fields -/
def spX (K : KF) (c : Str) (names : List Str) : Sp := fun vs H Q _ => ∃ a ws, vs = .ref a :: ws ∧ ws.length = names.length ∧ H a = some (exo a (He.ga K c) none) ∧
  ∀ dx, H dx = none → dx ≠ a → Q .non (upd (upd H dx (exd dx (names.zip ws).reverse)) a (exo a (He.ga K c) (some dx)))
section
variable {P : Program} {w : World} {K : KF} {mg : Str → Option Value} {base : Heap} {qual c : Str} {scope : Scope} {f : Addr} {fd : FuncData} {k : Nat} {params : Arguments}
theorem fn_x1 {x y1 f1 : Str} {p1 p2 p3 p4 : Pos} {sf : Str} (F : FunD K x qual params [.Assign [.Attribute (.Name sf p1) f1 p2] (.Name y1 p3) p4] scope [] [] f fd) (S : FnScope [sf, y1] [sf, y1] scope) (T : OexC K (He.ga K c)) (n1 : PySem.W.findIn K (.ref (He.ga K c)) f1 = some none)
    (v0 : scope.names.lookup sf = some .local) (v1 : scope.names.lookup y1 = some .local) (d0 : (sf == ("__debug__" : Str)) = false := by decide) (d1 : (y1 == ("__debug__" : Str)) = false := by decide) (e0 : (sf == ("__classdict__" : Str)) = false := by decide) (e1 : (y1 == ("__classdict__" : Str)) = false := by decide) :
    FnOk P w K mg base (L2.CX P w) (k + 1) f fd [sf, y1] (spX K c [f1]) := by
  refine FunD.ok F S (fun vs H Q E h => ?_) fun cdv A outer s H vs Q E hr h => ?_
  · obtain ⟨a, ws, rfl, l, _⟩ := h
    show ws.length + 1 = 2
    rw [l]; rfl
  · refine ⟨_, pss_one (ps_ost (pe_var (i := 0) rfl (.inl v0) d0 e0) (pe_var (i := 1) rfl (.inl v1) d1 e1)), ?_⟩
    obtain ⟨a, ws, rfl, l, ha, q⟩ := h
    match ws, l with
    | [z], _ => exact ⟨z, rfl, .ref a, rfl, a, _, rfl, T, n1, .inl ⟨ha, fun dx h1 h2 => q dx h1 h2⟩⟩
theorem fn_x2 {x y1 f1 y2 f2 : Str} {p1 p2 p3 p4 p5 p6 p7 p8 : Pos} {sf : Str} (F : FunD K x qual params [.Assign [.Attribute (.Name sf p1) f1 p2] (.Name y1 p3) p4, .Assign [.Attribute (.Name sf p5) f2 p6] (.Name y2 p7) p8] scope [] [] f fd) (S : FnScope [sf, y1, y2] [sf, y1, y2] scope) (T : OexC K (He.ga K c))
    (n1 : PySem.W.findIn K (.ref (He.ga K c)) f1 = some none) (n2 : PySem.W.findIn K (.ref (He.ga K c)) f2 = some none)
    (v0 : scope.names.lookup sf = some .local) (v1 : scope.names.lookup y1 = some .local) (v2 : scope.names.lookup y2 = some .local) (d0 : (sf == ("__debug__" : Str)) = false := by decide) (d1 : (y1 == ("__debug__" : Str)) = false := by decide) (d2 : (y2 == ("__debug__" : Str)) = false := by decide)
    (e0 : (sf == ("__classdict__" : Str)) = false := by decide) (e1 : (y1 == ("__classdict__" : Str)) = false := by decide) (e2 : (y2 == ("__classdict__" : Str)) = false := by decide) :
    FnOk P w K mg base (L2.CX P w) (k + 1) f fd [sf, y1, y2] (spX K c [f1, f2]) := by
  refine FunD.ok F S (fun vs H Q E h => ?_) fun cdv A outer s H vs Q E hr h => ?_
  · obtain ⟨a, ws, rfl, l, _⟩ := h
    show ws.length + 1 = 3
    rw [l]; rfl
  · refine ⟨_, pss_cons (ps_ost (pe_var (i := 0) rfl (.inl v0) d0 e0) (pe_var (i := 1) rfl (.inl v1) d1 e1)) (pss_one (ps_ost (pe_var (i := 0) rfl (.inl v0) d0 e0) (pe_var (i := 2) rfl (.inl v2) d2 e2))), ?_⟩
    obtain ⟨a, ws, rfl, l, ha, q⟩ := h
    match ws, l with
    | [z, z2], _ =>
      refine ⟨z, rfl, .ref a, rfl, a, _, rfl, T, n1, .inl ⟨ha, fun dx h1 h2 => ?_⟩⟩
      refine ⟨z2, rfl, .ref a, rfl, a, _, rfl, T, n2, .inr ⟨dx, [(f1, z)], upd_same, ?_, by show 1 ≤ 900; decide, ?_⟩⟩
      · rw [upd_ne h2, upd_same]
      · have e : upd (upd (upd H dx (exd dx [(f1, z)])) a (exo a (He.ga K c) (some dx))) dx (exd dx ((f2, z2) :: [(f1, z)])) = upd (upd H dx (exd dx ([f1, f2].zip [z, z2]).reverse)) a (exo a (He.ga K c) (some dx)) := by
          funext b
          by_cases c1 : b = dx
          · subst c1
            rw [upd_same, upd_ne h2, upd_same]
            rfl
          · rw [upd_ne c1]
            by_cases c2 : b = a
            · subst c2; rw [upd_same, upd_same]
            · rw [upd_ne c2, upd_ne c1, upd_ne c2, upd_ne c1]
        show _
        rw [e]
        exact q dx h1 h2
end
def raiseS (c : Str) (names : List Str) (fs : M (List D)) : G := andS fs fun ds E => if ds.length = names.length then .er ⟨c, names.reverse, ds.reverse⟩ E else .stk
theorem RepL.zipv {K : KF} {F : Hp} : ∀ {ns : List Str} {ws : List V} {ds : List D}, RepL K F ws ds → ds.length = ns.length → (ns.zip ws).map (·.1) = ns ∧ (ns.zip ws).map (·.2) = ws
  | [], ws, ds, h, e => by
    cases h with
    | nil => exact ⟨rfl, rfl⟩
    | cons _ _ => cases e
  | n :: ns, ws, ds, h, e => by
    cases h with
    | nil => cases e
    | cons h1 h2 =>
      obtain ⟨a, b⟩ := RepL.zipv (ns := ns) h2 (by simpa using e)
      rw [List.zip_cons_cons, List.map_cons, List.map_cons, a, b]
      exact ⟨rfl, rfl⟩
section
variable {X : Cx} {ios : List Nat} {Wx : WX} {e : Expr} {es : List Expr} {fs : M (List D)} {p pos pos' : Pos} {c x : Str} {names ps : List Str} {fI : Addr} {fd : FuncData} {k : Nat}
theorem pd_raise (hc : X.calm = true) (tk : Takes X Wx) (T : OexC X.K (He.ga X.K c)) (iC : PySem.W.findIn X.K (.ref (He.ga X.K c)) "__init__" = some (some (.ref fI))) (tI : PySem.W.typeIn X.K (.ref fI) = some (.type "function")) (F1 : FnOk X.prog X.w X.K X.mg X.base (L2.CX X.prog X.w) k fI fd ps (spX X.K c names))
    (hr : Room (k + 1) X.A) (hb : Binds X.K fd ps []) (hg : Gl X x) (hm : X.mg x = some (.ref (He.ga X.K c))) (ha : PL X ios Wx (e :: es) fs) (hn : names.length ≤ 1000 := by decide)
    (hdb : (x == ("__debug__" : Str)) = false := by decide) (he : starEach (e :: es) X.env = (false, eval e X.env) :: starEach es X.env := by rfl) (hpl : (backTo pos (starEach es X.env)).any (·.1) = false := by rfl) :
    PD X ios Wx (.Raise (some (.Call (.Name x p) (e :: es) [] pos)) none pos') (raiseS c names fs) := by
  obtain ⟨ta, pa, ra⟩ := ha.ex
  refine ⟨_, ps_raise hc tk (pmk_oex T iC tI F1 hr hb .nil (passes_call tk fun _ _ _ _ z => z.elim) hg hm pa hdb he hpl), fun B F W E σ H Dn S h => ?_⟩
  refine ra B F W E σ H _ S (PstS.seq h fun F1 W1 H1 vs ds E1 S1 s1 r1 h1 => ?_)
  by_cases hl : ds.length = names.length
  · rw [if_pos hl] at h1
    refine ⟨by rw [r1.length, hl]; exact hn, fun a ha => ⟨a, vs, by rw [List.append_nil], by rw [r1.length]; exact hl, upd_same, fun dx hdx hne => ?_⟩⟩
    have hdx1 : H1 dx = none := by rw [upd_ne hne] at hdx; exact hdx
    refine ⟨rfl, dx, _, upd_same, by rw [upd_ne hne, upd_same], hdx1, ?_⟩
    have e : upd (del (upd (upd (upd H1 a (exo a (He.ga X.K c) none)) dx (exd dx (names.zip vs).reverse)) a (exo a (He.ga X.K c) (some dx))) a) dx (.xd (names.zip vs).reverse) = upd H1 dx (.xd (names.zip vs).reverse) := by
      funext b
      by_cases c1 : b = dx
      · subst c1; rw [upd_same, upd_same]
      · rw [upd_ne c1, upd_ne c1]
        by_cases c2 : b = a
        · subst c2; unfold del; rw [if_pos rfl]; exact ha.symm
        · rw [del_ne c2, upd_ne c2, upd_ne c1, upd_ne c2]
    rw [e]
    have z := RepL.zipv r1 hl
    exact h1 F1 W1 _ σ _ _ (S1.laid hdx1 fun _ _ z => by cases z) (Same.refl F1) ⟨rfl, .inr ⟨dx, _, rfl, upd_same, by rw [List.map_reverse, z.1], by rw [List.map_reverse, z.2]; exact r1.reverse⟩⟩
  · rw [if_neg hl] at h1; exact h1.elim
end
end Dl

/-! Dl14: comprehensions -/
namespace Dl
open PySem PySem.Spec PyProof.Rows L2
/-! ### places forgotten -/
def wpe {α : Type} (l : List (Option α)) : List Nat → List (Option α)
  | [] => l
  | v :: vs => (wpe l vs).set v none
theorem wpe_wipe (σ : L2.St) : ∀ vs : List Nat, wpe σ vs = wipe σ vs
  | [] => rfl
  | v :: vs => by
    show (wpe σ vs).set v none = (wipe σ vs).set v none
    rw [wpe_wipe]
theorem wpe_len {α : Type} (l : List (Option α)) : ∀ vs : List Nat, (wpe l vs).length = l.length
  | [] => rfl
  | v :: vs => by
    show ((wpe l vs).set v none).length = _
    rw [List.length_set, wpe_len]
theorem wpe_get {α : Type} (l : List (Option α)) (i : Nat) : ∀ vs : List Nat, (wpe l vs)[i]? = if i ∈ vs then (l[i]?).map (fun _ => none) else l[i]?
  | [] => by simp [wpe]
  | v :: vs => by
    show ((wpe l vs).set v none)[i]? = _
    rw [List.getElem?_set]
    by_cases c : v = i
    · subst c
      rw [if_pos rfl, wpe_len, if_pos (show v ∈ v :: vs from List.mem_cons_self)]
      by_cases h : v < l.length
      · rw [if_pos h, List.getElem?_eq_getElem h]; rfl
      · rw [if_neg h, List.getElem?_eq_none (by omega)]; rfl
    · rw [if_neg c, wpe_get l i vs]
      by_cases m : i ∈ vs
      · rw [if_pos m, if_pos (List.mem_cons_of_mem _ m)]
      · rw [if_neg m, if_neg (by simp [m]; exact fun z => c z.symm)]
theorem wpe_out {α : Type} {l : List (Option α)} {i : Nat} {vs : List Nat} (h : i ∉ vs) : (wpe l vs)[i]? = l[i]? := by rw [wpe_get, if_neg h]
theorem wpe_some {α : Type} {l : List (Option α)} {i : Nat} {vs : List Nat} {x : α} (h : (wpe l vs)[i]? = some (some x)) : i ∉ vs ∧ l[i]? = some (some x) := by
  rw [wpe_get] at h
  by_cases m : i ∈ vs
  · rw [if_pos m] at h
    cases q : l[i]? with
    | none => rw [q] at h; cases h
    | some o => rw [q] at h; cases h
  · rw [if_neg m] at h; exact ⟨m, h⟩
theorem wpe_set {α : Type} {l : List (Option α)} {i : Nat} {vs : List Nat} {x : Option α} (h : i ∈ vs) : wpe (l.set i x) vs = wpe l vs := by
  apply List.ext_getElem?
  intro j
  rw [wpe_get, wpe_get]
  by_cases m : j ∈ vs
  · rw [if_pos m, if_pos m, List.getElem?_set]
    by_cases c : i = j
    · subst c
      rw [if_pos rfl]
      by_cases hl : i < l.length
      · rw [if_pos hl, List.getElem?_eq_getElem hl]; rfl
      · rw [if_neg hl, List.getElem?_eq_none (by omega)]
    · rw [if_neg c]
  · rw [if_neg m, if_neg m, List.getElem?_set, if_neg (fun c : i = j => m (c ▸ h))]
theorem wpe_wpe {α : Type} {l : List (Option α)} {vs : List Nat} : wpe (wpe l vs) vs = wpe l vs := by
  apply List.ext_getElem?
  intro j
  rw [wpe_get]
  by_cases m : j ∈ vs
  · rw [if_pos m, wpe_get, if_pos m]
    cases l[j]? <;> rfl
  · rw [if_neg m]
section
variable {K : KF} {ios : List Nat} {B : Bs} {F F' : Hp} {W W' : Wm} {E : Nv} {σ σ' : L2.St} {H H' : Hp} {vs : List Nat}
theorem St.wiped (S : St K ios B F W E σ H) (hv : ∀ i ∈ vs, ios.contains i = false) : St K ios B F W (wpe E vs) (wipe σ vs) H where
  fh := S.fh
  st := S.st
  nz := S.nz
  ow := S.ow
  fr := S.fr
  w0 := S.w0
  vr := fun i t d h => by
    obtain ⟨m, h⟩ := wpe_some h
    obtain ⟨v, h1, h2⟩ := S.vr i t d h
    exact ⟨v, by rw [← wpe_wipe, wpe_out m]; exact h1, h2⟩
  pn := fun i v h => by
    obtain ⟨h1, h2⟩ := S.pn i v h
    refine ⟨h1, ?_⟩
    rw [← wpe_wipe, wpe_out (fun m => by
      have := hv i m
      rw [List.contains_eq_mem, decide_eq_false_iff_not] at this
      exact this h1)]
    exact h2
  ln := by rw [← wpe_wipe, wpe_len, wpe_len]; exact S.ln
theorem St.unwiped (S : St K ios B F W (wpe E vs) (wipe σ vs) H) : St K ios B F W (wpe E vs) σ H where
  fh := S.fh
  st := S.st
  nz := S.nz
  ow := S.ow
  fr := S.fr
  w0 := S.w0
  vr := fun i t d h => by
    obtain ⟨v, h1, h2⟩ := S.vr i t d h
    rw [← wpe_wipe] at h1
    exact ⟨v, (wpe_some h1).2, h2⟩
  pn := fun i v h => by
    obtain ⟨h1, h2⟩ := S.pn i v h
    rw [← wpe_wipe] at h2
    exact ⟨h1, (wpe_some h2).2⟩
  ln := by rw [S.ln, ← wpe_wipe, wpe_len]
/-- an object that nothing tells of is laid anew -/
theorem St.over {p : Addr} {u : HO} (S : St K ios B F W E σ H) (hF : F p = none) (hW : W p = none) (hB : B.H0 p = none) (hu : ∀ ob z, u ≠ .frz ob z) : St K ios B F W E σ (upd H p u) where
  fh := fun a o h => by rw [upd_ne (fun c => by subst c; rw [hF] at h; cases h)]; exact S.fh a o h
  st := by
    have s := S.st
    refine ⟨s.fx, s.fn, s.wx, s.wn, fun a o h n => ?_, fun a o h => ?_⟩
    · rw [upd_ne (fun c => by subst c; rw [hB] at h; cases h)]; exact s.hx a o h n
    · rw [upd_ne (fun c => by subst c; rw [hB] at h; cases h)]; exact s.hd a o h
  nz := fun a ob z e => by
    by_cases c : a = p
    · subst c; rw [upd_same] at e; exact absurd (Option.some.inj e) (hu _ _)
    · rw [upd_ne c] at e; exact S.nz a ob z e
  ow := fun a l h => by
    rw [upd_ne (fun c => by subst c; rw [hW] at h; cases h)]; exact S.ow a l h
  fr := S.fr
  w0 := S.w0
  vr := fun i t d h => by
    obtain ⟨v, h1, h2⟩ := S.vr i t d h
    exact ⟨v, h1, h2.keep (Same.refl F) (fun _ _ q => q) fun a l o w q => by rw [upd_ne (fun c => by subst c; rw [hW] at w; cases w)]; exact q⟩
  pn := S.pn
  ln := S.ln
theorem Stp.over {p : Addr} {u : HO} (s : Stp F W H F' W' H') (h : H p = none) : Stp F W H F' W' (upd H' p u) :=
  ⟨s.fx, s.fn, s.wx, s.wn, fun a o e n => by rw [upd_ne (fun c => by subst c; rw [h] at e; cases e)]; exact s.hx a o e n, fun a o e => by rw [upd_ne (fun c => by subst c; rw [h] at e; cases e)]; exact s.hd a o e⟩
/-- it stays -/
theorem Stp.stays {p : Addr} {u : HO} (s : Stp F W H F' W' H') (hF : F p = none) (hW : W p = none) (hH : H p = some u) : F' p = none ∧ W' p = none ∧ H' p = some u := by
  refine ⟨s.nf hF hH, ?_, s.hx p u hH hW⟩
  cases q : W' p with
  | none => rfl
  | some l =>
    rcases s.wn p l q with z | z
    · rw [hW] at z; cases z
    · rw [hH] at z; cases z
end
/-! ### the same target in every block -/
structure PTw (X : Cx) (ios vs : List Nat) (tg : Expr) (h : D → Nv → Option Nv) : Prop where
  ex : ∃ g : TG, PG X tg g ∧ ∀ B F W E E' σ H v d Q, St X.K ios B F W E σ H → Rep X.K F v d → h d E = some E' → (∀ σ' W', St X.K ios B F W' E' σ' H → Stp F W H F W' H → wipe σ' vs = wipe σ vs → Q σ' H) → g v σ H Q
structure PTws (X : Cx) (ios vs : List Nat) (tgs : List Expr) (h : List D → Nv → Option Nv) : Prop where
  ex : ∃ g : TGs, PGs X tgs g ∧ ∀ B F W E E' σ H ws ds Q, St X.K ios B F W E σ H → RepL X.K F ws ds → h ds E = some E' → (∀ σ' W', St X.K ios B F W' E' σ' H → Stp F W H F W' H → wipe σ' vs = wipe σ vs → Q σ' H) → g ws σ H Q
section
variable {X : Cx} {ios vs : List Nat} {tg : Expr} {es tgs : List Expr} {pos : Pos}
theorem putW_no {W : Wm} {i : Nat} : putW W noW i = W := rfl
theorem tw_name {i : Nat} {x : Str} (hN : X.N.Nodup) (hi : X.N[i]? = some x) (hx : Loc X.env.scope x) (hio : ios.contains i = false) (hv : i ∈ vs) (hf : X.fn x = true ∨ X.env.scope.names.lookup x = some .local := by first | exact .inl rfl | exact .inr rfl | assumption) : PTw X ios vs (.Name x pos) (putE i) := by
  refine ⟨_, pg_name hN hi hx hf, fun B F W E E' σ H v d Q S r h k => ?_⟩
  cases h
  refine k _ W (S.put hio (Wr := noW) (p := (.sh, d)) Fresh.no r) (Stp.refl _ _ _) ?_
  rw [← wpe_wipe, ← wpe_wipe, wpe_set hv]
theorem tws_nil : PTws X ios vs [] tgN := by
  refine ⟨_, pgs_nil, fun B F W E E' σ H ws ds Q S r h k => ?_⟩
  cases ds with
  | nil => cases r; cases h; exact ⟨rfl, k σ W S (Stp.refl _ _ _) rfl⟩
  | cons d ds => cases h
theorem tws_cons {h : D → Nv → Option Nv} {hs : List D → Nv → Option Nv} (h1 : PTw X ios vs tg h) (h2 : PTws X ios vs tgs hs) (hs' : (assignEach (tg :: tgs) X.env).map (·.2) = assign tg X.env :: (assignEach tgs X.env).map (·.2) := by rfl) : PTws X ios vs (tg :: tgs) (tgC h hs) := by
  obtain ⟨g1, p1, r1⟩ := h1.ex
  obtain ⟨g2, p2, r2⟩ := h2.ex
  refine ⟨_, pgs_cons p1 p2 hs', fun B F W E E' σ H ws ds Q S r hh k => ?_⟩
  cases ds with
  | nil => cases hh
  | cons d ds =>
    cases r with
    | cons q1 q2 =>
      obtain ⟨E1, e1, hh'⟩ := bind_of (show (h d E).bind (hs ds) = some E' from hh)
      exact ⟨_, _, rfl, r1 B F W E E1 σ H _ d _ S q1 e1 fun σ1 W1 S1 t1 w1 => r2 B F W1 E1 E' σ1 H _ ds Q S1 q2 hh' fun σ2 W2 S2 t2 w2 => k σ2 W2 S2 (t1.trans t2) (w2.trans w1)⟩
theorem tw_tup {n k : Nat} {hs : List D → Nv → Option Nv} (hc : X.calm = true) (h : PTws X ios vs es hs) (hn : (assignEach es X.env).length = n := by rfl) (hst : (assignEach es X.env).findIdx? (·.1) = none := by rfl) : PTw X ios vs (.Tuple es k pos) (tgT n hs) := by
  obtain ⟨g, p, r⟩ := h.ex
  refine ⟨_, pg_tup hc p hn hst, fun B F W E E' σ H v d Q S rr hh kk => ?_⟩
  cases d <;> first | (cases hh; done) | skip
  rename_i ds
  have hh' : (if ds.length = n then hs ds E else none) = some E' := hh
  by_cases c : ds.length = n
  · rw [if_pos c] at hh'
    cases rr with
    | tup s z q => exact ⟨_, _, rfl, sqT_mono S.fh s, by rw [q.length]; exact c, r B F W E E' σ H _ ds Q S q hh' kk⟩
  · rw [if_neg c] at hh'; cases hh'
end
/-- conditions -/
structure PCs (X : Cx) (ios : List Nat) (Wx : WX) (ifs : List Expr) (f : M Bool) : Prop where
  ex : ∃ t : TT, PTs X ifs t ∧ ∀ B F W E σ H Q, St X.K ios B F W E σ H → Pst X.K ios B Wx σ (fun _ (b : Bool) a => b = a) F W H (f E) Q → t σ H Q
theorem pcs_nil {X : Cx} {ios : List Nat} {Wx : WX} : PCs X ios Wx [] (ret true) := ⟨tYes, pts_nil, fun B F W E σ H Q S h => h.done S rfl⟩
theorem pcs_one {X : Cx} {ios : List Nat} {Wx : WX} {c : Expr} {f : M Bool} (h : PB X ios Wx c f) : PCs X ios Wx [c] f := by
  obtain ⟨t, p, r⟩ := h.ex
  exact ⟨t, pts_one p, r⟩
/-! ### one reading for all blocks -/
abbrev Bi := Shared × Hp × Addr × List (Str × Addr) × List Addr
abbrev bx (X : Cx) (scope : Scope) (i : Bi) : Cx := X.blk i.1 i.2.1 scope (compEnvC scope i.2.2.2.1 i.2.2.1 X.env) i.2.2.2.2
abbrev W0x : WX := fun _ _ _ _ => False
section
variable {X : Cx} {ios vs : List Nat} {scope : Scope} {tg elt : Expr} {ifs : List Expr}
theorem uni_pe {f : M D} (h : ∀ i, PP (bx X scope i) ios W0x elt f) : ∃ t : TE, (∀ i, PE (bx X scope i) elt t) ∧ ∀ B F W E σ H Q, St X.K ios B F W E σ H → Pst X.K ios B W0x σ (Rep X.K) F W H (f E) Q → t σ H Q :=
  ⟨fun σ H Q => ∀ i, (h i).ex.choose σ H Q, fun i => ⟨fun pins s σ H Q I q => (h i).ex.choose_spec.1.run pins s σ H Q I (q i)⟩, fun B F W E σ H Q S p i => (h i).ex.choose_spec.2 B F W E σ H Q S p⟩
theorem uni_pc {f : M Bool} (h : ∀ i, PCs (bx X scope i) ios W0x ifs f) : ∃ t : TT, (∀ i, PTs (bx X scope i) ifs t) ∧ ∀ B F W E σ H Q, St X.K ios B F W E σ H → Pst X.K ios B W0x σ (fun _ (b : Bool) a => b = a) F W H (f E) Q → t σ H Q :=
  ⟨fun σ H Q => ∀ i, (h i).ex.choose σ H Q, fun i => ⟨fun pins s σ H Q I q => (h i).ex.choose_spec.1.run pins s σ H Q I (q i)⟩, fun B F W E σ H Q S p i => (h i).ex.choose_spec.2 B F W E σ H Q S p⟩
theorem uni_pg {asg : D → Nv → Option Nv} (h : ∀ i, PTw (bx X scope i) ios vs tg asg) : ∃ g : TG, (∀ i, PG (bx X scope i) tg g) ∧ ∀ B F W E E' σ H v d Q, St X.K ios B F W E σ H → Rep X.K F v d → asg d E = some E' → (∀ σ' W', St X.K ios B F W' E' σ' H → Stp F W H F W' H → wipe σ' vs = wipe σ vs → Q σ' H) → g v σ H Q :=
  ⟨fun v σ H Q => ∀ i, (h i).ex.choose v σ H Q, fun i => ⟨fun pins s σ H v u Q I r q => (h i).ex.choose_spec.1.run pins s σ H v u Q I r (q i)⟩, fun B F W E E' σ H v d Q S r e k i => (h i).ex.choose_spec.2 B F W E E' σ H v d Q S r e k⟩
end
/-! ### [elt for tg in iter if ..] -/
def compL (asg : D → Nv → Option Nv) (cond : M Bool) (elt : M D) (vs : List Nat) : List D → List D → Nv → Rs (List D)
  | [], acc, E => .ok acc (wpe E vs)
  | d :: ds, acc, E => match asg d (wpe E vs) with
    | none => .stk
    | some E1 => match cond E1 with
      | .ok true E2 => (match elt E2 with
        | .ok y E3 => if acc.length < sizeLine then compL asg cond elt vs ds (acc ++ [y]) E3 else .stk
        | _ => .stk)
      | .ok false E2 => compL asg cond elt vs ds acc E2
      | _ => .stk
def compM (f : M (List D)) (asg : D → Nv → Option Nv) (cond : M Bool) (elt : M D) (vs : List Nat) : M Ent := bnd f fun ds => bnd (compL asg cond elt vs ds []) fun xs => ret (.l .sh, .lst xs)
section
variable {X : Cx} {ios : List Nat} {Wx : WX} {tg iter elt : Expr} {ifs : List Expr} {scope : Scope} {own : List (Str × Nat)} {pos : Pos} {f : M (List D)} {asg : D → Nv → Option Nv} {cond : M Bool} {fe : M D}
/-- the loop of a comprehension -/
theorem po_lc (hc : X.calm = true) (hN : X.N.Nodup) (hi : PIt X ios Wx tg iter f) (ok : BlkOk X.N X.env.scope scope own) (hv : ∀ i ∈ own.map (·.2), ios.contains i = false) (hg : ∀ i, PTw (bx X scope i) ios (own.map (·.2)) tg asg) (ht : ∀ i, PCs (bx X scope i) ios W0x ifs cond) (he : ∀ i, PP (bx X scope i) ios W0x elt fe)
    (hs : ∀ x, foldedSetIterable iter X.env x = pure x := by intro _; rfl) : PO X ios Wx (.ListComp elt [⟨tg, iter, ifs, 0⟩] scope pos) (compM f asg cond fe (own.map (·.2))) := by
  obtain ⟨wi, pi, ri⟩ := hi.ex
  obtain ⟨g, pg, rg⟩ := uni_pg hg
  obtain ⟨tt, pt, rt⟩ := uni_pc ht
  obtain ⟨te, pe, re⟩ := uni_pe he
  refine ⟨_, pe_lc hc hN pi ok (fun s H C cl fp => pg (s, H, C, cl, fp)) (fun s H C cl fp => pt (s, H, C, cl, fp)) (fun s H C cl fp => pe (s, H, C, cl, fp)) hs, fun B F W E σ H Q S h => ?_⟩
  generalize own.map (·.2) = vs at *
  refine ri B F W E σ H _ S (PstO.seq h fun F1 W1 H1 J ds E1 S1 s1 wl h1 Dd hD => ?_)
  have dF := S1.fh.free hD
  have dW := S1.noW hD
  have dB := S1.st.back hD
  refine ⟨fun i m Hn => m = ds.length - i ∧ i ≤ ds.length ∧ ∃ F' W' E' acc av, St X.K ios B F' W' (wpe E' vs) (wipe σ vs) Hn ∧ Stp F1 W1 H1 F' W' Hn ∧ F' Dd = none ∧ W' Dd = none ∧ Hn Dd = some (.lst av) ∧ RepL X.K F' av acc ∧ acc.length ≤ sizeLine ∧ PstO X.K ios B Wx σ F1 W1 H1 (bnd (compL asg cond fe vs (ds.drop i) acc) (fun xs => ret (.l .sh, .lst xs)) E') Q,
    ⟨ds.length, by simp, Nat.zero_le _, F1, W1, E1, [], [], (S1.over dF dW dB fun _ _ z => by cases z).wiped hv, (Stp.refl _ _ _).over hD, dF, dW, upd_same, .nil, Nat.zero_le _, h1⟩, ?_⟩
  rintro i m Hn ⟨rfl, hi, F', W', E', acc, av, S', st', nF, nW, eD, ra, za, k⟩
  by_cases hlt : i < ds.length
  · refine .inr ⟨wl.go i F' Hn st'.fx S'.fh hlt, fun H2 => ∃ F' W' E' acc av, St X.K ios B F' W' (wpe E' vs) (wipe σ vs) H2 ∧ Stp F1 W1 H1 F' W' H2 ∧ F' Dd = none ∧ W' Dd = none ∧ H2 Dd = some (.lst av) ∧ RepL X.K F' av acc ∧ acc.length ≤ sizeLine ∧ PstO X.K ios B Wx σ F1 W1 H1 (bnd (compL asg cond fe vs (ds.drop (i + 1)) acc) (fun xs => ret (.l .sh, .lst xs)) E') Q, fun H2 q => ⟨ds.length - (i + 1), by omega, rfl, hlt, q⟩, fun x H2 hy => ?_⟩
    have ed : ds[i]? = some ds[i] := List.getElem?_eq_getElem hlt
    obtain ⟨F2, gr, rx⟩ := wl.yld i F' Hn x H2 _ st'.fx S'.fh hy ed
    have S2 := S'.grow gr
    have t2 := st'.trans (gr.stp W')
    obtain ⟨nF2, nW2, eD2⟩ := (gr.stp W').stays nF nW eD
    rw [List.drop_eq_getElem_cons hlt] at k
    unfold bnd compL at k
    cases q1 : asg ds[i] (wpe E' vs) with
    | none => simp only [q1] at k; exact k.elim
    | some E3 =>
      simp only [q1] at k
      refine rg B F2 W' _ E3 (wipe σ vs) H2 x _ _ S2 rx q1 fun σ3 W3 S3 t3 w3 => ⟨by rw [w3, ← wpe_wipe, ← wpe_wipe, wpe_wpe], ?_⟩
      have t3' := t2.trans t3
      obtain ⟨nF3, nW3, eD3⟩ := t3.stays nF2 nW2 eD2
      have w3' : wipe σ3 vs = wipe σ vs := by rw [w3, ← wpe_wipe, ← wpe_wipe, wpe_wpe]
      refine rt B F2 W3 E3 σ3 H2 _ S3 ?_
      cases q2 : cond E3 with
      | er z E4 => simp only [q2] at k; exact k.elim
      | stk => simp only [q2] at k; exact k.elim
      | ok b E4 =>
        intro F4 W4 H4 b' S4 t4 eb
        subst eb
        have t4' := t3'.trans t4
        obtain ⟨nF4, nW4, eD4⟩ := t4.stays nF3 nW3 eD3
        cases b' with
        | false =>
          simp only [q2] at k
          refine ⟨F4, W4, E4, acc, av, ?_, t4', nF4, nW4, eD4, RepL.mono (gr.fx.trans t4.fx) acc ra, za, k⟩
          have := S4.wiped hv
          rw [w3'] at this
          exact this
        | true =>
          simp only [q2] at k
          show te σ3 H4 _
          refine re B F4 W4 E4 σ3 H4 _ S4 ?_
          cases q3 : fe E4 with
          | er z E5 => simp only [q3] at k; exact k.elim
          | stk => simp only [q3] at k; exact k.elim
          | ok y E5 =>
            simp only [q3] at k
            intro F5 W5 H5 yv S5 t5 ry
            obtain ⟨nF5, nW5, eD5⟩ := t5.stays nF4 nW4 eD4
            by_cases hz : acc.length < sizeLine
            · rw [if_pos hz] at k
              have ra5 : RepL X.K F5 av acc := RepL.mono (gr.fx.trans (t4.fx.trans t5.fx)) acc ra
              refine ⟨av, eD5, by rw [ra.length]; exact hz, F5, W5, E5, acc ++ [y], av ++ [yv], ?_, (t4'.trans t5).over hD, nF5, nW5, upd_same, ra5.app (.cons ry .nil), by rw [List.length_append, List.length_singleton]; exact hz, k⟩
              have := (S5.wiped hv).over (p := Dd) (u := .lst (av ++ [yv])) nF5 nW5 dB fun _ _ z => by cases z
              rw [w3'] at this
              exact this
            · rw [if_neg hz] at k; exact k.elim
  · have e : i = ds.length := by omega
    subst e
    rw [List.drop_length] at k
    refine .inl ⟨wl.stop _ F' Hn st'.fx S'.fh (Nat.le_refl _), ?_⟩
    refine k F' W' Hn (.ref Dd) (oneW Dd) S'.unwiped st' (fun a l z => ?_) (OwnT.lsh (oneW_self Dd) eD za ra)
    obtain ⟨rfl, _⟩ := oneW_of z
    exact ⟨hD, nW, nF, _, eD⟩
end
end Dl

/-! Dl15: the end of a law -/
namespace Dl
open PySem PySem.Spec PyProof.Rows L2
/-- what the law's def is asked for -/
def Keeps (n : Nat) (m : Fm) : Prop := ∀ ns : List Int, ns.length ≤ n → (∀ k ∈ ns, Builtin.Int.intBits k ≤ 1048576) → ∃ E, m [(.sh, .frl ns)] = .ok (.sh, .bl true) E
def lone (K : KF) (a : Addr) (o : Obj) (ns : List Int) : Hp := fun b => if b = a then (match K.lookup a with
  | some _ => none
  | none => some (.frz o (.lst (ns.map V.int)))) else none
theorem lone_of {K : KF} {a b : Addr} {o : Obj} {ns : List Int} {u : HO} (h : lone K a o ns b = some u) : b = a ∧ K.lookup a = none ∧ u = .frz o (.lst (ns.map V.int)) := by
  unfold lone at h
  by_cases c : b = a
  · rw [if_pos c] at h
    cases q : K.lookup a with
    | some x => rw [q] at h; cases h
    | none => rw [q] at h; cases h; exact ⟨c, rfl, rfl⟩
  · rw [if_neg c] at h; cases h
theorem lone_ne {K : KF} {a b : Addr} {o : Obj} {ns : List Int} (h : b ≠ a) : lone K a o ns b = none := if_neg h
theorem law_g {P : Program} {w : World} {K : KF} {mg mb : Str → Option Value} {k : Nat} {fa a : Addr} {fd : FuncData} {x : Str} {m : Fm} {sA : Shared} {vs : List Value} {ns : List Int}
    (kx : K.In sA.heap) (gl : sA.heap.Ns mainGlobals mg) (bl : sA.heap.Ns builtinsNs mb) (bb : ∀ x : Str, x ≠ "__name__" → mb x = bootBuiltins x) (nl : sA.heap.NoLimit) (ge : sA.gens = #[])
    (ha : sA.heap.get? a = some { cls := .type "list", data := .seq vs.toArray }) (hi : IntsAre vs ns) (hl : ns.length ≤ sizeLine) (hr : Room k callerA)
    (F : ∀ base : Heap, K.In base → base.Ns mainGlobals mg → FnG P w K mg base k fa fd [x] (spD K 1 [] m)) (hbd : ∀ (s : Shared) (u : Value), BindsTo s fd ⟨[u], []⟩ [(x, u)])
    (hm : ∃ E, m [(.sh, .frl ns)] = .ok (.sh, .bl true) E) :
    codeAny (model P w) callerA (.call (.ref fa) ⟨[.ref a], []⟩) (fun r s' => r = .ok (.ret (.bool true)) ∧ OldK sA.heap s'.heap ∧ s'.os = sA.os ∧ AllBare s'.gens) sA := by
  have rv := vals_ints hi
  have nv := hi.length
  let H : Hp := lone K a { cls := .type "list", data := .seq vs.toArray } ns
  have inB : ∀ {b : Addr} {o : Obj}, sA.heap.get? b = some o → (b ≠ a ∨ ∃ u, K.lookup a = some u) → (hidT sA.heap H).get? b = some o := fun {b o} e c => hidT_get e (by
    cases q : H b with
    | none => rfl
    | some u =>
      obtain ⟨z1, z2, _⟩ := lone_of q
      rcases c with c | ⟨u', c⟩
      · exact absurd z1 c
      · rw [z2] at c; cases c)
  have dictB : ∀ {b : Addr} {m : Str → Option Value}, sA.heap.Ns b m → (hidT sA.heap H).Ns b m := fun {b m} ⟨o, es, ep, e, d, r⟩ => by
    refine ⟨o, es, ep, inB e (.inl fun z => ?_), d, r⟩
    subst z
    rw [ha] at e
    cases e
    exact nomatch (show Data.seq vs.toArray _ = Data.dict es ep from d)
  have kB : K.In (hidT sA.heap H) := fun b o e => inB (kx b o e) (by
    by_cases c : b = a
    · subst c; exact .inr ⟨o, e⟩
    · exact .inl c)
  have modB : Mod K mg (hidT sA.heap H) := ⟨kB, dictB gl, ⟨mb, dictB bl, bb⟩, let ⟨mc, h1, h2⟩ := nl; ⟨mc, dictB h1, h2⟩⟩
  have hok : HOk P w H sA.heap := fun b u q => by
    obtain ⟨rfl, z2, rfl⟩ := lone_of q
    exact ⟨ha, by rw [List.length_map]; exact hl, vs, _, rv, ha⟩
  have env : Env0 P w K mg (hidT sA.heap H) callerA [] sA H :=
    ⟨rfl, modB, fun b o e => of_hidT e, Nat.le_of_eq (hidT_size _ _), trivial, fun b hb => absurd (show b ∈ ([] : List Addr) from hb) List.not_mem_nil, hok, .of_eq ge⟩
  have seq : SqL K H a (ns.map V.int) := by
    cases q : K.lookup a with
    | some o =>
      have e := kx a o q
      rw [ha] at e
      cases e
      exact .inr ⟨_, vs.toArray, _, q, rfl, rfl, rfl, by rw [List.size_toArray, nv]; exact hl, by simpa using rv⟩
    | none =>
      refine .inl (.inr ⟨{ cls := .type "list", data := .seq vs.toArray }, ?_⟩)
      show lone K a _ ns a = _
      unfold lone
      rw [if_pos rfl, q]
  obtain ⟨E, em⟩ := hm
  have wish : spD K 1 [] m [.ref a] H (fun v _ => v = .bl true) fun _ _ _ => False := by
    refine ⟨rfl, H, noW, [(.sh, .frl ns)], ⟨Same.refl H, fun b o u q => ?_, fun b l z => ?_, fun b l z => ?_, rfl, fun i v t d e1 e2 => ?_⟩, ?_⟩
    · obtain ⟨_, _, z⟩ := lone_of q
      intro xs e
      subst e
      cases z
    · cases (show (none : Option Lab) = some l from z)
    · cases (show (none : Option Lab) = some l from z)
    · cases i with
      | zero =>
        cases (show some (V.ref a) = some v from e1)
        cases (show some (Ow.sh, D.frl ns) = some (t, d) from e2)
        exact Rep.frl seq hl
      | succ i => simp at e1
    · rw [em]
      intro F' W' H' v Wr _ _ r
      cases (show Rep K F' v (.bl true) from r)
      rfl
  refine codeAny_mono ((F _ kB (dictB gl)).run callerA [] sA H ⟨[.ref a], []⟩ [.ref a] [.ref a] _ _ hr rfl env (hbd sA (.ref a)) (.cons rfl .nil) wish) fun r s' h => ?_
  match r, h with
  | .error e, h =>
    obtain ⟨_, _, _, _, _, _, _, _, _, _, _, _, z⟩ := h
    exact z.elim
  | .ok .next, h => exact h.elim
  | .ok .brk, h => exact h.elim
  | .ok .cont, h => exact h.elim
  | .ok (.ret u), h =>
    obtain ⟨v, H', os, bare, un, hok', r', q⟩ := h
    cases (show v = .bl true from q)
    cases (show u = Value.bool true from r')
    refine ⟨rfl, OldK.of_keep fun b o e => ?_, os, bare⟩
    cases q : H b with
    | none => exact un.keep b o e q (fun z => absurd (show b ∈ ([] : List Addr) from z) List.not_mem_nil) (fun z => absurd (show b ∈ ([] : List Addr) from z) List.not_mem_nil)
    | some u =>
      obtain ⟨_, _, rfl⟩ := lone_of q
      have z2 := un.frzs b _ _ q
      have e1 := (hok b _ q).1
      have e2 := (hok' b _ z2).1
      rw [e] at e1
      cases e1
      exact e2
/-- the goal that is left behind the top -/
theorem walk_g {l : PySem.W.OpenLaw} {n k : Nat} {q : Program} {loose : List Str} {XP : (Str → Option Value) → Heap → Prop} {YP : World → Heap → Prop} {d : DefRec} {x : Str} {m : KF → Fm}
    (hn : l.most = some n) (hs : n ≤ sizeLine) (hdf : d.params.defaults = []) (hr : Room k callerA) (hm : ∀ K, Keeps n (m K))
    (F : ∀ (w : World) (mg : Str → Option Value) (fa : Addr) (h : Heap), YP w h → h.Ns mainGlobals mg → mg d.name = some (.ref fa) →
      ∃ (K : KF) (fd : FuncData), K.In h ∧ (∀ (s : Shared) (u : Value), BindsTo s fd ⟨[u], []⟩ [(x, u)]) ∧ ∀ base : Heap, K.In base → base.Ns mainGlobals mg → FnG l.prog w K mg base k fa fd [x] (spD K 1 [] (m K))) :
    PySem.W.WalkO q loose XP YP l.row.toRowW d [] (fun f vs => PySem.call f vs) := by
  refine _root_.Att.attach_callB hn hdf fun w sO sA mg mb fa o pm cd doc a vs ns Gd Y ho hd hcd hmg hobj hints hlen hbits hg => ?_
  obtain ⟨K, fd, kx, hb, hF⟩ := F w mg fa _ Y Gd.T.g hmg
  exact law_g kx Gd.T.g Gd.T.b Gd.T.builtins Gd.T.nolimit hg hobj hints (Nat.le_trans hlen hs) hr hF hb (hm K ns hlen hbits)
end Dl

/-! Dl16: what the head says of the module -/
namespace Dl
open PySem PySem.Spec PyProof.Rows L2
/-! ### constants of the module -/
mutual
def repK : Nat → KF → Value → D → Bool
  | _, _, .none, .non => true
  | _, _, .bool b, .bl c => b == c
  | _, _, .int i _, .int j => decide (i = j)
  | _, _, .str x _, .str y => decide (x = y)
  | n + 1, K, .ref a, .tup ds => (match K.lookup a with
    | some ⟨.type "tuple", _, .seq its _, _⟩ => decide (ds.length ≤ sizeLine) && repKs n K its.toList ds
    | _ => false)
  | _, _, _, _ => false
def repKs : Nat → KF → List Value → List D → Bool
  | _, _, [], [] => true
  | n + 1, K, u :: us, d :: ds => repK n K u d && repKs n K us ds
  | _, _, _, _ => false
end
theorem andB {a b : Bool} (h : (a && b) = true) : a = true ∧ b = true := Bool.and_eq_true_iff.mp h
theorem repK_both {K : KF} : ∀ n : Nat, (∀ (u : Value) (d : D), repK n K u d = true → ∃ v, RelV v u ∧ ∀ F : Hp, Rep K F v d) ∧ (∀ (us : List Value) (ds : List D), repKs n K us ds = true → ∃ vs, Vals vs us ∧ ∀ F : Hp, RepL K F vs ds) := by
  intro n
  induction n with
  | zero =>
    constructor
    · intro u d h
      unfold repK at h
      split at h
      · exact ⟨.non, rfl, fun _ => .non⟩
      · rename_i b c
        have e : b = c := by simpa using h
        subst e
        exact ⟨.bl b, rfl, fun _ => .bl b⟩
      · have e := of_decide_eq_true h
        subst e
        exact ⟨.int _, ⟨_, rfl⟩, fun _ => .int _⟩
      · have e := of_decide_eq_true h
        subst e
        exact ⟨.str _, ⟨_, rfl⟩, fun _ => .str _⟩
      · rename_i z; cases z
      · cases h
    · intro us ds h
      unfold repKs at h
      split at h
      · exact ⟨[], .nil, fun _ => .nil⟩
      · rename_i z; cases z
      · cases h
  | succ n ih =>
    constructor
    · intro u d h
      unfold repK at h
      split at h
      · exact ⟨.non, rfl, fun _ => .non⟩
      · rename_i b c
        have e : b = c := by simpa using h
        subst e
        exact ⟨.bl b, rfl, fun _ => .bl b⟩
      · have e := of_decide_eq_true h
        subst e
        exact ⟨.int _, ⟨_, rfl⟩, fun _ => .int _⟩
      · have e := of_decide_eq_true h
        subst e
        exact ⟨.str _, ⟨_, rfl⟩, fun _ => .str _⟩
      · rename_i n' a ds z
        cases z
        split at h
        · rename_i dd its k sl q
          obtain ⟨h1, h2⟩ := andB h
          obtain ⟨vs, r1, r2⟩ := ih.2 _ _ h2
          have hl := (r2 (fun _ => none)).length
          have hv := r1.length
          have z := of_decide_eq_true h1
          refine ⟨.ref _, rfl, fun F => .tup (.inr ⟨_, its, k, q, rfl, rfl, ?_, r1⟩) z (r2 F)⟩
          rw [← Array.length_toList, ← hv, hl]; exact z
        · cases h
      · cases h
    · intro us ds h
      unfold repKs at h
      split at h
      · exact ⟨[], .nil, fun _ => .nil⟩
      · rename_i n' u us d ds z
        cases z
        obtain ⟨h1, h2⟩ := andB h
        obtain ⟨v, a1, a2⟩ := ih.1 _ _ h1
        obtain ⟨vs, b1, b2⟩ := ih.2 _ _ h2
        exact ⟨v :: vs, .cons a1 b1, fun F => .cons (a2 F) (b2 F)⟩
      · cases h
theorem repK_ok {K : KF} (n : Nat) (u : Value) (d : D) (h : repK n K u d = true) : ∃ v, RelV v u ∧ ∀ F : Hp, Rep K F v d := (repK_both n).1 u d h
def cstB (K : KF) (x : Str) (d : D) : Bool := match PySem.W.nsIn K mainGlobals x with
  | some (some u) => repK 8 K u d
  | _ => false
theorem cst_ok {K : KF} {h : Heap} {mg : Str → Option Value} {x : Str} {d : D} (X : K.In h) (G : h.Ns mainGlobals mg) (c : cstB K x d = true) : ∃ v u, mg x = some u ∧ RelV v u ∧ ∀ F : Hp, Rep K F v d := by
  unfold cstB at c
  split at c
  · rename_i u q
    obtain ⟨v, a, b⟩ := repK_ok 8 u d c
    exact ⟨v, u, PySem.W.mg_of X G q, a, b⟩
  · cases c
def dflB (K : KF) (f : Str × Option Str) (i : Nat) (d : D) : Bool := repK 8 K (.ref (He.dflAt f i K)) d
/-! ### classes -/
def icB (K : KF) (c : Str) : Bool := (He.Fa.cls c).ok K && (He.eqO (PySem.W.findIn K (.ref (He.ga K c)) "__class__") (some (some (.builtin "object.__class__"))) && (He.eqO (PySem.W.specialIn K (.builtin "object.__class__") "__get__") (some (some (.builtin "getset_descriptor.__get__"))) &&
  (decide (PySem.W.takesIn K (.builtin "object.__class__") = some true) && decide (PySem.W.mroIn K (He.ga K c) (.type "object") = some true))))
theorem icB_ok {K : KF} {c : Str} (h : icB K c = true) : IC K c := by
  obtain ⟨h1, h⟩ := andB h
  obtain ⟨h2, h⟩ := andB h
  obtain ⟨h3, h⟩ := andB h
  obtain ⟨h4, h5⟩ := andB h
  exact ⟨He.cls_ok h1, He.eqO_ok h2, He.eqO_ok h3, of_decide_eq_true h4, of_decide_eq_true h5⟩
def icsB (K : KF) (cs : List Str) : Bool := cs.all (fun c => icB K c) && ((cs.all fun c => tys.all fun T => decide (PySem.W.kitOne K (.ref (He.ga K c)) (.type T) = some false)) && ((cs.all fun c => ("NoneType" :: tys).all fun T => decide (PySem.W.kitOne K (.type T) (.ref (He.ga K c)) = some false)) &&
  (cs.all fun c => cs.all fun c' => decide (PySem.W.kitOne K (.ref (He.ga K c)) (.ref (He.ga K c')) = some (c == c')))))
theorem icsB_ok {K : KF} {cs : List Str} (h : icsB K cs = true) : ICs K cs := by
  obtain ⟨h1, h⟩ := andB h
  obtain ⟨h2, h⟩ := andB h
  obtain ⟨h3, h4⟩ := andB h
  exact ⟨fun c hc => icB_ok (List.all_eq_true.mp h1 c hc), fun c hc T hT => of_decide_eq_true (List.all_eq_true.mp (List.all_eq_true.mp h2 c hc) T hT), fun c hc T hT => of_decide_eq_true (List.all_eq_true.mp (List.all_eq_true.mp h3 c hc) T hT),
    fun c hc c' hc' => of_decide_eq_true (List.all_eq_true.mp (List.all_eq_true.mp h4 c hc) c' hc')⟩
/-! ### error classes -/
def oexC (K : KF) (C : Addr) : Bool := match K.lookup C with
  | some ⟨.type "type", _, .cls cd, sl⟩ => (match cd.mro, sl.toList with
    | .ref C' :: bm, [_, _, _, _, some (.builtin n), _] => C' == C && (n == "ValueError.__new__" && (cd.hasDict && (!cd.hasDel && PySem.HandSPX.refsVE bm)))
    | _, _ => false)
  | _ => false
def oexB (K : KF) (c : Str) : Bool := oexC K (He.ga K c) && (He.eqO (PySem.W.findIn K (.ref (He.ga K c)) "__setattr__") (some (some (.builtin "object.__setattr__"))) && (decide (PySem.W.subIn K (.ref (He.ga K c)) (.type "BaseException") = some true) &&
  (decide (PySem.W.typeIn K (.ref (He.ga K c)) = some (.type "type")) && PySem.W.keepIn K (.ref (He.ga K c)))))
theorem oexC_ok {K : KF} {C : Addr} (h : oexC K C = true) : ∃ nm q N bs bm sn sub ab col dd k0 k1 k2 k3 k5, K.lookup C = some (excClassObj nm q C N bs bm true sn sub ab col dd k0 k1 k2 k3 k5 "ValueError.__new__") ∧ PySem.HandSPX.refsVE bm = true := by
  unfold oexC at h
  split at h
  · rename_i dd cd sl q
    split at h
    · rename_i C' bm k0 k1 k2 k3 n k5 e1 e2
      obtain ⟨h1, h⟩ := andB h
      obtain ⟨h2, h⟩ := andB h
      obtain ⟨h3, h⟩ := andB h
      obtain ⟨h4, h5⟩ := andB h
      have c1 : C' = C := by simpa using h1
      have c2 : n = "ValueError.__new__" := by simpa using h2
      have c4 : cd.hasDel = false := by simpa using h4
      have c6 : sl = #[k0, k1, k2, k3, some (.builtin n), k5] := by
        apply Array.ext'
        exact e2
      subst c1 c2 c6
      obtain ⟨nm, bs, mro, ns, qn, hd, sn, sub, ab, col, hdel⟩ := cd
      simp only at e1 h3 c4
      subst e1 h3 c4
      exact ⟨nm, qn, ns, bs, bm, sn, sub, ab, col, dd, k0, k1, k2, k3, k5, q, h5⟩
    · cases h
  · cases h
theorem oexB_ok {K : KF} {c : Str} (h : oexB K c = true) : OexC K (He.ga K c) := by
  obtain ⟨h1, h⟩ := andB h
  obtain ⟨h2, h⟩ := andB h
  obtain ⟨h3, h⟩ := andB h
  obtain ⟨h4, h5⟩ := andB h
  exact ⟨oexC_ok h1, He.eqO_ok h2, of_decide_eq_true h3, of_decide_eq_true h4, h5⟩
/-- the __init__ of such a class -/
def oxiB (K : KF) (c : Str) : Bool := He.eqO (PySem.W.findIn K (.ref (He.ga K c)) "__init__") (some (some (.ref (He.fAd K (c, some "__init__"))))) && decide (PySem.W.typeIn K (.ref (He.fAd K (c, some "__init__"))) = some (.type "function"))
theorem oxiB_ok {K : KF} {c : Str} (h : oxiB K c = true) : PySem.W.findIn K (.ref (He.ga K c)) "__init__" = some (some (.ref (He.fAd K (c, some "__init__")))) ∧ PySem.W.typeIn K (.ref (He.fAd K (c, some "__init__"))) = some (.type "function") := by
  obtain ⟨h1, h2⟩ := andB h
  exact ⟨He.eqO_ok h1, of_decide_eq_true h2⟩
/-! ### the hook: the written part by levels, further checks -/
def goes (o : Obj) : List Addr := match o.data with
  | .dict es _ => es.toList.flatMap fun e => He.refV e.val
  | .func fd => He.refV fd.code ++ He.refV fd.defaults
  | .cls cd => cd.ns :: cd.mro.flatMap He.refV
  | .seq its _ => its.toList.flatMap He.refV
  | _ => []
def lvs (g : Addr → Option Obj) : Nat → List Addr → List Addr
  | 0, _ => []
  | n + 1, as => as ++ lvs g n (as.flatMap fun a => match g a with
    | some o => goes o
    | none => [])
def obE (n : Nat) (fa : List He.Fa) (fn : List He.DefD) (ex : KF → Bool) (g : Addr → Option Obj) : He.AlD × Bool :=
  (fun K : KF => (He.obsD fa fn K, ex K)) (He.frG g (lvs g n [mainGlobals]))
def hookE (n : Nat) (fa : List He.Fa) (fn : List He.DefD) (ex : KF → Bool) : PySem.W.Hook where
  α := He.AlD × Bool
  obs := fun s => obE n fa fn ex s.heap.get?
  val := fun _ => (He.valD fn, true)
  says := fun _ h => ∃ K : KF, K.In h ∧ He.SaysD fa fn K ∧ ex K = true
  of := fun _ _ e => ⟨_, He.frG_in, congrArg Prod.fst e, congrArg Prod.snd e⟩
  keeps := fun _ _ _ ⟨K, hK, c⟩ k => ⟨K, PySem.W.Frag.In.keeps hK k, c⟩
theorem obE_eq {n : Nat} {fa : List He.Fa} {fn : List He.DefD} {ex : KF → Bool} {g : Addr → Option Obj} {s : Shared} (h : ∀ a, g a = s.heap.get? a) : obE n fa fn ex g = (hookE n fa fn ex).obs s := by
  have e : g = s.heap.get? := funext h
  rw [e] <;> rfl
/-- what the module's part says, at a table of globals -/
structure Md2 (fa : List He.Fa) (fn : List He.DefD) (ex : KF → Bool) (K : KF) (mg : Str → Option Value) : Prop where
  hp : ∃ h : Heap, K.In h ∧ h.Ns mainGlobals mg
  sd : He.SaysD fa fn K
  xt : ex K = true
end Dl

/-! Dl17: fields of the thing being made, own locals given back or frozen; names for what the rules give -/
namespace Dl
open PySem PySem.Spec PyProof.Rows L2
/-! ### self.f = e in the making -/
def setF (f : Str) (d : D) : List Str → List D → List Str × List D
  | n :: ns, x :: xs => if f = n then (f :: ns, d :: xs) else (n :: (setF f d ns xs).1, x :: (setF f d ns xs).2)
  | _, _ => ([f], [d])
def fldS (i : Nat) (cs : List Str) (f : Str) (fe : M D) : G := andS fe fun y E => match E[i]? with
  | some (some (.o, .ins c ns ds)) => if cs.contains c = true ∧ ns.length ≤ 60 then .nx (E.set i (some (.o, .ins c (setF f y ns ds).1 (setF f y ns ds).2))) else .stk
  | _ => .stk
theorem putF_rep {K : KF} {F : Hp} {f : Str} {v : V} {d : D} (r : Rep K F v d) : ∀ {fs : List (Str × V)} {ds : List D}, RepL K F (fs.map (·.2)) ds → (putF f v fs).map (·.1) = (setF f d (fs.map (·.1)) ds).1 ∧ RepL K F ((putF f v fs).map (·.2)) (setF f d (fs.map (·.1)) ds).2 ∧ (putF f v fs).length ≤ fs.length + 1
  | [], ds, h => by
    cases h
    exact ⟨rfl, .cons r .nil, Nat.le_refl _⟩
  | (n, x) :: fs, ds, h => by
    cases h with
    | cons h1 h2 =>
      rename_i d0 ds
      obtain ⟨a, b, c⟩ := putF_rep r h2
      by_cases e : f = n
      · subst e
        have e1 : putF f v ((f, x) :: fs) = (f, v) :: fs := by simp [putF]
        have e2 : setF f d (((f, x) :: fs).map (·.1)) (d0 :: ds) = (f :: fs.map (·.1), d :: ds) := by simp [setF]
        rw [e1, e2]
        exact ⟨rfl, .cons r h2, by simp⟩
      · have e0 : ¬ n = f := fun z => e z.symm
        have e1 : putF f v ((n, x) :: fs) = (n, x) :: putF f v fs := by simp [putF, e, e0]
        have e2 : setF f d (((n, x) :: fs).map (·.1)) (d0 :: ds) = (n :: (setF f d (fs.map (·.1)) ds).1, d0 :: (setF f d (fs.map (·.1)) ds).2) := by simp [setF, e]
        rw [e1, e2]
        exact ⟨by rw [List.map_cons, a], .cons h1 b, by rw [List.length_cons, List.length_cons]; omega⟩
section
variable {X : Cx} {ios : List Nat} {Wx : WX} {e : Expr} {fe : M D} {pos npos pos' : Pos} {i : Nat} {x f : Str} {sts : List Stmt} {g : G}
theorem pd_fld (i : Nat) (cs : List Str) (hN : X.N[i]? = some x) (hc : ∀ c ∈ cs, Cls X.K (He.ga X.K c) ∧ NoAttr X.K (He.ga X.K c) f) (he : PP X ios Wx e fe) (hv : Vis X.env.scope x := by first | exact Or.inl rfl | exact Or.inr (Or.inl rfl) | exact Or.inr (Or.inr rfl)) (hd : (x == ("__debug__" : Str)) = false := by decide) (hcd : (x == ("__classdict__" : Str)) = false := by decide)
    (hs : swapsWith e (some (.Attribute (.Name x npos) f pos')) pos.line X.env = pure false := by rfl) : PD X ios Wx (.Assign [.Attribute (.Name x npos) f pos'] e pos) (fldS i cs f fe) := by
  obtain ⟨te, pe, re⟩ := he.ex
  refine ⟨_, ps_fld (pe_var hN hv hd hcd) pe hs, fun B F W E σ H Dn S k => ?_⟩
  refine re B F W E σ H _ S (PstS.seq k fun F1 W1 H1 y dy E1 S1 s1 r1 k1 => ?_)
  cases q : E1[i]? with
  | none => simp only [q] at k1; exact k1.elim
  | some o =>
    cases o with
    | none => simp only [q] at k1; exact k1.elim
    | some p =>
      obtain ⟨t, d⟩ := p
      obtain ⟨v, h1, h2⟩ := S1.vr i t d q
      cases t with
      | sh => simp only [q] at k1; exact k1.elim
      | l t => simp only [q] at k1; exact k1.elim
      | d t => simp only [q] at k1; exact k1.elim
      | o =>
        obtain ⟨a, C, dx, fs, c, ns, ds, rfl, rfl, w, ha, rfl, rfl, z, rr⟩ := h2
        simp only [q] at k1
        by_cases hz : cs.contains c = true ∧ (fs.map (·.1)).length ≤ 60
        · rw [if_pos hz] at k1
          have hm : c ∈ cs := by simpa using hz.1
          have hl : fs.length ≤ 60 := by have := hz.2; rw [List.length_map] at this; exact this
          obtain ⟨e1, e2, e3⟩ := putF_rep (f := f) r1 rr
          refine ⟨_, h1, a, _, dx, fs, rfl, ha, (hc c hm).1, (hc c hm).2, by omega, ?_⟩
          exact k1 F1 W1 _ σ (S1.mut w (fun _ _ z => by cases z) h1 ⟨a, _, dx, _, c, _, _, rfl, rfl, w, upd_same, rfl, e1, by omega, e2⟩) (Same.refl F1)
        · rw [if_neg hz] at k1; exact k1.elim
end
/-! ### own locals given back -/
/-- the labels of the slot i, those of all others -/
def ofSlot (W : Wm) (i : Nat) : Wm := fun a => match W a with
  | some (j :: p) => if j = i then some p else none
  | _ => none
def offSlot (W : Wm) (i : Nat) : Wm := fun a => match W a with
  | some (j :: p) => if j = i then none else some (j :: p)
  | o => o
theorem ofSlot_of {W : Wm} {i : Nat} {a : Addr} {p : Lab} (h : ofSlot W i a = some p) : W a = some (i :: p) := by
  unfold ofSlot at h
  split at h
  · rename_i j q e
    by_cases c : j = i
    · rw [if_pos c] at h; cases h; subst c; exact e
    · rw [if_neg c] at h; cases h
  · cases h
theorem ofSlot_at {W : Wm} {i : Nat} {a : Addr} {p : Lab} (h : W a = some (i :: p)) : ofSlot W i a = some p := by
  unfold ofSlot
  rw [h]
  exact if_pos rfl
theorem offSlot_of {W : Wm} {i : Nat} {a : Addr} {l : Lab} (h : offSlot W i a = some l) : W a = some l ∧ ∀ p, l ≠ i :: p := by
  unfold offSlot at h
  split at h
  · rename_i j q e
    by_cases c : j = i
    · rw [if_pos c] at h; cases h
    · rw [if_neg c] at h; cases h; exact ⟨e, fun p z => c (List.cons.inj z).1⟩
  · rename_i o e
    refine ⟨h, fun p z => ?_⟩
    subst z
    exact e i p h
theorem offSlot_at {W : Wm} {i : Nat} {a : Addr} {l : Lab} (h : W a = some l) (hn : ∀ p, l ≠ i :: p) : offSlot W i a = some l := by
  unfold offSlot
  split
  · rename_i j q e
    rw [h] at e
    cases e
    rw [if_neg (fun c => hn q (by rw [c]))]
  · exact h
theorem offSlot_no {W : Wm} {i : Nat} {a : Addr} {p : Lab} (h : W a = some (i :: p)) : offSlot W i a = none := by
  unfold offSlot
  rw [h]
  exact if_pos rfl
section
variable {K : KF} {ios : List Nat} {B : Bs} {F : Hp} {W : Wm} {E : Nv} {σ : L2.St} {H : Hp} {i : Nat}
/-- the slot i is let go -/
theorem St.off (S : St K ios B F W E σ H) (hi : ios.contains i = false) : St K ios B F (offSlot W i) (E.set i none) σ H where
  fh := S.fh
  st := by
    have s := S.st
    refine ⟨s.fx, s.fn, fun a l h => ?_, fun a l h => s.wn a l (offSlot_of h).1, s.hx, s.hd⟩
    refine offSlot_at (s.wx a l h) fun p z => ?_
    subst z
    obtain ⟨j, q, e, hj⟩ := S.w0 a _ h
    cases e
    rw [List.contains_eq_mem, decide_eq_false_iff_not] at hi
    exact hi hj
  nz := S.nz
  ow := fun a l h => S.ow a l (offSlot_of h).1
  fr := fun a l h => S.fr a l (offSlot_of h).1
  w0 := S.w0
  vr := fun j t d h => by
    rw [List.getElem?_set] at h
    by_cases c : i = j
    · rw [if_pos c] at h
      split at h <;> cases h
    · rw [if_neg c] at h
      obtain ⟨v, h1, h2⟩ := S.vr j t d h
      exact ⟨v, h1, OwnT.keepAt (p := [j]) (q := []) (Same.refl F) (fun a q z => offSlot_at z fun p y => c (List.cons.inj y).1.symm) (fun _ _ _ _ z => z) h2⟩
  pn := S.pn
  ln := by rw [List.length_set]; exact S.ln
theorem St.freshSlot (S : St K ios B F W E σ H) (hi : ios.contains i = false) : Fresh (ofSlot W i) B.H0 F (offSlot W i) H := fun a p z => by
  have z1 := ofSlot_of z
  obtain ⟨h1, h2⟩ := S.ow a _ z1
  obtain ⟨j, q, e, hj⟩ := S.fr a _ z1
  cases e
  refine ⟨?_, offSlot_no z1, h1, h2⟩
  rcases hj with hj | hj
  · rw [List.contains_eq_mem, decide_eq_false_iff_not] at hi
    exact absurd hj hi
  · exact hj
end
def retvS (i : Nat) : G := fun E => match E[i]? with
  | some (some p) => .rt p (E.set i none)
  | _ => .stk
def frzS (i : Nat) (g : G) : G := fun E => match E[i]? with
  | some (some (_, d)) => g (E.set i (some (.sh, d)))
  | _ => g E
section
variable {X : Cx} {ios : List Nat} {Wx : WX} {pos npos : Pos} {x : Str} {sts : List Stmt} {g : G}
theorem pd_retv (i : Nat) (hN : X.N[i]? = some x) (hio : ios.contains i = false) (hv : Vis X.env.scope x := by first | exact Or.inl rfl | exact Or.inr (Or.inl rfl) | exact Or.inr (Or.inr rfl)) (hd : (x == ("__debug__" : Str)) = false := by decide) (hcd : (x == ("__classdict__" : Str)) = false := by decide) : PD X ios Wx (.Return (some (.Name x npos)) pos) (retvS i) := by
  refine ⟨_, ps_ret (pe_var hN hv hd hcd), fun B F W E σ H Dn S k => ?_⟩
  unfold retvS at k
  cases q : E[i]? with
  | none => simp only [q] at k; exact k.elim
  | some o =>
    cases o with
    | none => simp only [q] at k; exact k.elim
    | some p =>
      simp only [q] at k
      obtain ⟨t, d⟩ := p
      obtain ⟨v, h1, h2⟩ := S.vr i t d q
      exact ⟨v, h1, k F _ H σ v (ofSlot W i) (S.off hio) (Same.refl F) (S.freshSlot hio) (OwnT.relab (p := [i]) (p' := []) (q := []) (fun a q z => ofSlot_at z) h2)⟩
/-- from here on the slot i is shared -/
theorem pds_frz (i : Nat) (hio : ios.contains i = false) (h : PDs X ios Wx sts g) : PDs X ios Wx sts (frzS i g) := by
  obtain ⟨t, p, r⟩ := h.ex
  refine ⟨t, p, fun B F W E σ H Dn S k => ?_⟩
  unfold frzS at k
  cases q : E[i]? with
  | none => simp only [q] at k; exact r B F W E σ H Dn S k
  | some o =>
    cases o with
    | none => simp only [q] at k; exact r B F W E σ H Dn S k
    | some pr =>
      simp only [q] at k
      obtain ⟨t0, d⟩ := pr
      obtain ⟨v, h1, h2⟩ := S.vr i t0 d q
      have fr := S.freshSlot hio
      have S1 := S.off hio
      have h3 : OwnT X.K F H (ofSlot W i) t0 [] v d := OwnT.relab (p := [i]) (p' := []) (q := []) (fun a q z => ofSlot_at z) h2
      have S2 : Dl.St X.K ios B (frz F (ofSlot W i) H) (offSlot W i) (E.set i none) σ H := frz_st (Stp.refl _ _ _) S1 fr
      have r2 : Rep X.K (frz F (ofSlot W i) H) v d := frz_rep fr h3
      refine r B _ (offSlot W i) (E.set i (some (.sh, d))) σ H Dn ⟨S2.fh, S2.st, S2.nz, S2.ow, S2.fr, S2.w0, fun j t d' hj => ?_, S2.pn, by rw [List.length_set]; exact S.ln⟩ (PstS.from (frz_same fr) k)
      rw [List.getElem?_set] at hj
      by_cases c : i = j
      · subst c
        rw [if_pos rfl] at hj
        split at hj
        · cases hj; exact ⟨v, h1, r2⟩
        · cases hj
      · rw [if_neg c] at hj
        exact S2.vr j t d' (by rw [List.getElem?_set, if_neg c]; exact hj)
end
/-! ### names for what the rules give -/
def opM (g : D → D → Option D) (fa fb : M D) : M D := bnd fa fun x => bnd fb fun y => ofO (g x y)
def cmB (g : D → D → Option D) (fa fb : M D) : M Bool := bnd fa fun x => bnd fb fun y => ofO ((g x y).bind toB)
def chM (g g' : D → D → Option D) (fa fb fc : M D) : M D := bnd fa fun x => bnd fb fun y => bnd (ofO ((g x y).bind toB)) fun k => if k = true then bnd fc fun z => ofO (g' y z) else ret (.bl false)
def chB (g g' : D → D → Option D) (fa fb fc : M D) : M Bool := bnd fa fun x => bnd fb fun y => bnd (ofO ((g x y).bind toB)) fun k => if k = true then bnd fc fun z => ofO ((g' y z).bind toB) else ret false
def unM (g : D → Option D) (fa : M D) : M D := bnd fa fun x => ofO (g x)
def tupM (fs : M (List D)) : M D := bnd fs fun xs => if small xs.length = true then ret (.tup xs) else stuck
def lstM (fs : M (List D)) : M D := bnd fs fun xs => if small xs.length = true then ret (.lst xs) else stuck
def conM (fa : M D) (fs : M (List D)) : M (List D) := bnd fa fun x => bnd fs fun xs => ret (x :: xs)
def ioM (i : Nat) (fs : M (List D)) : M (List D) := fun E => match E[i]? with
  | some (some _) => fs E
  | _ => .stk
def slM (fa : M D) (fl fh : M (Option Int)) : M D := bnd fa fun x => bnd fl fun l => bnd fh fun u => ofO (sliceD x l u)
def ixp (fa : M D) : M (Option Int) := bnd fa fun d => bnd (ofO (asI d)) fun i => ret (some i)
def cbM (g : List D → Option D) (fs : M (List D)) : M D := bnd fs fun xs => ofO (g xs)
def calM (m : Fm) (md : Md) (dds : List D) (fs : M (List D)) : M Ent := bnd fs fun ds => callM m (md ++ dds.map fun _ => none) (ds ++ dds)
def metM (c mn : Str) (m : Fm) (md : Md) (dds : List D) (fo : M D) (fs : M (List D)) : M Ent := bnd fo fun d => if isIns c mn d = true then bnd fs fun ds => callM m (none :: md ++ dds.map fun _ => none) (d :: ds ++ dds) else stuck
def met0 (c mn : Str) (m : Fm) (dds : List D) (fo : M D) : M Ent := bnd fo fun d => if isIns c mn d = true then callM m (none :: dds.map fun _ => none) (d :: dds) else stuck
def mkM (m : Fm) (c : Str) (md : Md) (dds : List D) (fs : M (List D)) : M Ent := bnd fs fun ds => makeM m c (md ++ dds.map fun _ => none) (ds ++ dds)
def seqI (f : M D) : M (List D) := bnd f fun d => ofO (seqOf d)
def enI (fs : M (List D)) : M (List D) := bnd fs fun ds => ofO (enumOf ds)
def rg1 (fs : M (List D)) : M (List D) := bnd fs fun ds => ofO (rng1Of ds)
def rg2 (fs : M (List D)) : M (List D) := bnd fs fun ds => ofO (rng2Of ds)
section
variable {fa : List He.Fa} {fn : List He.DefD} {ex : List (KF → Bool)} {K : KF} {mg : Str → Option Value}
abbrev Md3 (fa : List He.Fa) (fn : List He.DefD) (ex : List (KF → Bool)) (K : KF) (mg : Str → Option Value) : Prop := Md2 fa fn (fun K => ex.all fun f => f K) K mg
theorem Md2.glo (o : Md3 fa fn ex K mg) (i : Nat) {x : Str} (h : fa[i]? = some (.glo x) := by rfl) : mg x = some (.ref (He.ga K x)) := by
  obtain ⟨hp, a, b⟩ := o.hp
  exact He.glo_ok a b (o.sd.fact i h)
theorem Md2.free (o : Md3 fa fn ex K mg) (i : Nat) {x : Str} (h : fa[i]? = some (.free x) := by rfl) : mg x = none := by
  obtain ⟨hp, a, b⟩ := o.hp
  exact He.free_ok a b (o.sd.fact i h)
theorem Md2.x (o : Md3 fa fn ex K mg) (i : Nat) {f : KF → Bool} (h : ex[i]? = some f := by rfl) : f K = true := List.all_eq_true.mp o.xt f (List.mem_of_getElem? h)
theorem Md2.cst (o : Md3 fa fn ex K mg) {x : Str} {d : D} (h : cstB K x d = true) : ∃ v u, mg x = some u ∧ RelV v u ∧ ∀ F : Hp, Rep K F v d := by
  obtain ⟨hp, a, b⟩ := o.hp
  exact cst_ok a b h
end
end Dl

/-! Dl18: is True, small helpers of what a program prints -/
namespace Dl
open PySem PySem.Spec PyProof.Rows L2
def isTB (d : D) (b : Bool) : Bool := match d with
  | .bl a => a == b
  | _ => false
def isTD (d e : D) : Option D := match e with
  | .bl b => some (.bl (isTB d b))
  | _ => none
def notTD (d e : D) : Option D := match e with
  | .bl b => some (.bl (!isTB d b))
  | _ => none
theorem Rep.isT {K : KF} {F : Hp} {v : V} {d : D} {b : Bool} (h : Rep K F v d) : decide (v = .bl b) = isTB d b := by
  cases h with
  | bl a => cases a <;> cases b <;> rfl
  | _ => exact decide_eq_false fun z => by cases z
theorem opd_isT {K : KF} : OpD K rIsT isTD := by
  intro F H x y d e z Q fh rx ry hz q
  cases e <;> first | (cases hz; done) | skip
  cases ry; cases hz
  exact ⟨_, rfl, by rw [rx.isT]; exact q F H _ (Gr.refl fh) (.bl _)⟩
theorem opd_notT {K : KF} : OpD K rNotT notTD := by
  intro F H x y d e z Q fh rx ry hz q
  cases e <;> first | (cases hz; done) | skip
  cases ry; cases hz
  exact ⟨_, rfl, by rw [rx.isT]; exact q F H _ (Gr.refl fh) (.bl _)⟩
theorem op_notT {X : Cx} : OpR X (compareOp .IsNot) rNotT := by
  intro pins s σ H x y v u Q I rx ry h
  obtain ⟨b, rfl, q⟩ := h
  cases (show u = Value.bool b from ry)
  by_cases e : x = .bl b
  · subst e
    cases (show v = Value.bool b from rx)
    exact wpAny_isNot_self rfl ⟨.bl false, H, I, rfl, by simpa using q⟩
  · have q' : Q (.bl true) H := by simpa [e] using q
    have fin : EP X pins σ Q (.bool true) s := ⟨.bl true, H, I, rfl, q'⟩
    cases x with
    | bl a =>
      cases rx
      exact wpAny_isNot_other rfl (fun z => e (by cases z; rfl)) fin
    | non => cases rx; exact wpAny_isNot_other rfl (fun z => by cases z) fin
    | int i => obtain ⟨t, rfl⟩ := rx; exact wpAny_isNot_other rfl (fun z => by cases z) fin
    | str i => obtain ⟨t, rfl⟩ := rx; exact wpAny_isNot_other rfl (fun z => by cases z) fin
    | byt i => obtain ⟨t, rfl⟩ := rx; exact wpAny_isNot_other rfl (fun z => by cases z) fin
    | flt i => obtain ⟨t, rfl⟩ := rx; exact wpAny_isNot_other rfl (fun z => by cases z) fin
    | ref i => cases rx; exact wpAny_isNot_other rfl (fun z => by cases z) fin
    | ty i => cases rx; exact wpAny_isNot_other rfl (fun z => by cases z) fin
theorem hc1 {K : KF} {c f : Str} (a : Cls K (He.ga K c)) (b : NoAttr K (He.ga K c) f) : ∀ c' ∈ [c], Cls K (He.ga K c') ∧ NoAttr K (He.ga K c') f := fun c' h => by
  cases List.mem_singleton.mp h
  exact ⟨a, b⟩
theorem hc2 {K : KF} {c f : Str} {cs : List Str} (a : Cls K (He.ga K c)) (b : NoAttr K (He.ga K c) f) (r : ∀ c' ∈ cs, Cls K (He.ga K c') ∧ NoAttr K (He.ga K c') f) : ∀ c' ∈ c :: cs, Cls K (He.ga K c') ∧ NoAttr K (He.ga K c') f := fun c' h => by
  rcases List.mem_cons.mp h with rfl | h
  · exact ⟨a, b⟩
  · exact r c' h
theorem dfl_rep {K : KF} {f : Str × Option Str} {i : Nat} {d : D} (h : dflB K f i d = true) (F : Hp) : Rep K F (.ref (He.dflAt f i K)) d := by
  obtain ⟨v, r, p⟩ := repK_ok 8 _ _ h
  cases v with
  | ref a => cases (show Value.ref (He.dflAt f i K) = Value.ref a from r); exact p F
  | non => cases r
  | bl b => cases r
  | int j => obtain ⟨t, e⟩ := r; cases e
  | str j => obtain ⟨t, e⟩ := r; cases e
  | byt j => obtain ⟨t, e⟩ := r; cases e
  | flt j => obtain ⟨t, e⟩ := r; cases e
  | ty n => cases r
end Dl
namespace Dl
theorem room65 {k : Nat} {A : PySem.Around} (hr : L2.Room k A) : A.units + 65 < PySem.cLine := by
  have := hr.un
  omega
end Dl

/-! Dm1: what the pieces give, step by step (no program in sight) -/
namespace Dl
open PySem PySem.Spec PyProof.Rows L2
/-! ### steps -/
def bdR {α β : Type} : Rs α → (α → M β) → Rs β
  | .ok a E, k => k a E
  | .er x E, _ => .er x E
  | .stk, _ => .stk
def anR {α : Type} : Rs α → (α → G) → Fl
  | .ok a E, k => k a E
  | .er x E, _ => .er x E
  | .stk, _ => .stk
def thF : Fl → G → Fl
  | .nx E, h => h E
  | .rt p E, _ => .rt p E
  | .bk E, _ => .bk E
  | .ct E, _ => .ct E
  | .er x E, _ => .er x E
  | .stk, _ => .stk
def lkR : Rs D → Nv → Rs D
  | .ok d _, E => if imm d = true then .ok d E else .stk
  | .er x _, E => if immL x.vs = true then .er x E else .stk
  | .stk, _ => .stk
def lkB : Rs Bool → Nv → Rs Bool
  | .ok d _, E => .ok d E
  | .er x _, E => if immL x.vs = true then .er x E else .stk
  | .stk, _ => .stk
def opR : Option D → Nv → Rs D
  | some d, E => .ok d E
  | none, _ => .stk
theorem ret_ap {α : Type} (a : α) (E : Nv) : Dl.ret a E = .ok a E := rfl
theorem stuck_ap {α : Type} (E : Nv) : (stuck : M α) E = .stk := rfl
theorem bnd_ap {α β : Type} (m : M α) (k : α → M β) (E : Nv) : bnd m k E = bdR (m E) k := by unfold bnd bdR; cases m E <;> rfl
theorem bdR_ok {α β : Type} (a : α) (E : Nv) (k : α → M β) : bdR (.ok a E) k = k a E := rfl
theorem bdR_er {α β : Type} (x : Xn) (E : Nv) (k : α → M β) : bdR (.er x E) k = .er x E := rfl
theorem andS_ap {α : Type} (m : M α) (k : α → G) (E : Nv) : andS m k E = anR (m E) k := by unfold andS anR; cases m E <;> rfl
theorem anR_ok {α : Type} (a : α) (E : Nv) (k : α → G) : anR (.ok a E) k = k a E := rfl
theorem anR_er {α : Type} (x : Xn) (E : Nv) (k : α → G) : anR (.er x E) k = .er x E := rfl
theorem then_ap (g h : G) (E : Nv) : then_ g h E = thF (g E) h := by unfold then_ thF; cases g E <;> rfl
theorem thF_nx (E : Nv) (h : G) : thF (.nx E) h = h E := rfl
theorem thF_rt (p : Ent) (E : Nv) (h : G) : thF (.rt p E) h = .rt p E := rfl
theorem thF_er (x : Xn) (E : Nv) (h : G) : thF (.er x E) h = .er x E := rfl
theorem thF_bk (E : Nv) (h : G) : thF (.bk E) h = .bk E := rfl
theorem thF_ct (E : Nv) (h : G) : thF (.ct E) h = .ct E := rfl
theorem done_ap (E : Nv) : done E = .nx E := rfl
theorem ofO_some {α : Type} (a : α) : ofO (some a) = Dl.ret a := rfl
theorem setS_ap (i : Nat) (f : M Ent) (E : Nv) : setS i f E = anR (f E) fun p E => .nx (E.set i (some p)) := by unfold setS; exact andS_ap _ _ _
theorem retS_ap (f : M Ent) (E : Nv) : retS f E = anR (f E) fun p E => .rt p E := by unfold retS; exact andS_ap _ _ _
theorem sh1_ap (f : M D) (E : Nv) : sh1 f E = bdR (f E) fun d => Dl.ret (.sh, d) := by unfold sh1; exact bnd_ap _ _ _
theorem shM_ap (f : M Ent) (E : Nv) : shM f E = bdR (f E) fun p => Dl.ret p.2 := by unfold shM; exact bnd_ap _ _ _
theorem look_ap (f : M D) (E : Nv) : look f E = lkR (f (shr E)) E := by unfold look lkR; cases f (shr E) <;> rfl
theorem lookB_ap (f : M Bool) (E : Nv) : lookB f E = lkB (f (shr E)) E := by unfold lookB lkB; cases f (shr E) <;> rfl
theorem lkR_ok (d : D) (E' E : Nv) (h : imm d = true) : lkR (.ok d E') E = .ok d E := if_pos h
theorem lkR_int (i : Int) (E' E : Nv) : lkR (.ok (.int i) E') E = .ok (.int i) E := rfl
theorem lkR_bl (i : Bool) (E' E : Nv) : lkR (.ok (.bl i) E') E = .ok (.bl i) E := rfl
theorem lkR_str (i : Str) (E' E : Nv) : lkR (.ok (.str i) E') E = .ok (.str i) E := rfl
theorem lkB_ok (d : Bool) (E' E : Nv) : lkB (.ok d E') E = .ok d E := rfl
theorem opM_ap (g : D → D → Option D) (fa fb : M D) (E : Nv) : opM g fa fb E = bdR (fa E) fun x => bnd fb fun y => ofO (g x y) := by unfold opM; exact bnd_ap _ _ _
theorem cmB_ap (g : D → D → Option D) (fa fb : M D) (E : Nv) : cmB g fa fb E = bdR (fa E) fun x => bnd fb fun y => ofO ((g x y).bind toB) := by unfold cmB; exact bnd_ap _ _ _
theorem unM_ap (g : D → Option D) (fa : M D) (E : Nv) : unM g fa E = bdR (fa E) fun x => ofO (g x) := by unfold unM; exact bnd_ap _ _ _
theorem cbM_ap (g : List D → Option D) (fs : M (List D)) (E : Nv) : cbM g fs E = bdR (fs E) fun xs => ofO (g xs) := by unfold cbM; exact bnd_ap _ _ _
theorem conM_ap (fa : M D) (fs : M (List D)) (E : Nv) : conM fa fs E = bdR (fa E) fun x => bnd fs fun xs => Dl.ret (x :: xs) := by unfold conM; exact bnd_ap _ _ _
theorem ioM_ap {i : Nat} {fs : M (List D)} {E : Nv} {p : Ent} (h : E[i]? = some (some p)) : ioM i fs E = fs E := by unfold ioM; rw [h]
theorem rd_ap {i : Nat} {E : Nv} {d : D} (h : E[i]? = some (some (.sh, d))) : rd i E = .ok d E := by unfold rd; rw [h]
theorem tupM_ap (fs : M (List D)) (E : Nv) : tupM fs E = bdR (fs E) fun xs => if small xs.length = true then Dl.ret (.tup xs) else stuck := by unfold tupM; exact bnd_ap _ _ _
theorem lstM_ap (fs : M (List D)) (E : Nv) : lstM fs E = bdR (fs E) fun xs => if small xs.length = true then Dl.ret (.lst xs) else stuck := by unfold lstM; exact bnd_ap _ _ _
theorem own1_ap (fs : M (List D)) (E : Nv) : own1 fs E = bdR (fs E) fun xs => if small xs.length = true then Dl.ret (.l .sh, .lst xs) else stuck := by unfold own1; exact bnd_ap _ _ _
theorem ifM_ap {α : Type} (t : M Bool) (f g : M α) (E : Nv) : ifM t f g E = bdR (t E) fun k => if k = true then f else g := by unfold ifM; exact bnd_ap _ _ _
theorem andV_ap (f g : M D) (E : Nv) : andV f g E = bdR (f E) fun d => bnd (ofO (truD d)) fun k => if k = true then g else Dl.ret d := by unfold andV; exact bnd_ap _ _ _
theorem orV_ap (f g : M D) (E : Nv) : orV f g E = bdR (f E) fun d => bnd (ofO (truD d)) fun k => if k = true then Dl.ret d else g := by unfold orV; exact bnd_ap _ _ _
theorem notV_ap (f : M D) (E : Nv) : notV f E = bdR (f E) fun d => ofO ((truD d).map fun k => .bl (!k)) := by unfold notV; exact bnd_ap _ _ _
theorem andM_ap (f g : M Bool) (E : Nv) : andM f g E = bdR (f E) fun b => if b = true then g else Dl.ret false := by unfold andM; exact bnd_ap _ _ _
theorem orM_ap (f g : M Bool) (E : Nv) : orM f g E = bdR (f E) fun b => if b = true then Dl.ret true else g := by unfold orM; exact bnd_ap _ _ _
theorem notM_ap (f : M Bool) (E : Nv) : notM f E = bdR (f E) fun b => Dl.ret (!b) := by unfold notM; exact bnd_ap _ _ _
theorem test_ap (f : M D) (E : Nv) : test f E = bdR (f E) fun d => ofO (truD d) := by unfold test; exact bnd_ap _ _ _
theorem chM_ap (g g' : D → D → Option D) (fa fb fc : M D) (E : Nv) : chM g g' fa fb fc E = bdR (fa E) fun x => bnd fb fun y => bnd (ofO ((g x y).bind toB)) fun k => if k = true then bnd fc fun z => ofO (g' y z) else Dl.ret (.bl false) := by unfold chM; exact bnd_ap _ _ _
theorem chB_ap (g g' : D → D → Option D) (fa fb fc : M D) (E : Nv) : chB g g' fa fb fc E = bdR (fa E) fun x => bnd fb fun y => bnd (ofO ((g x y).bind toB)) fun k => if k = true then bnd fc fun z => ofO ((g' y z).bind toB) else Dl.ret false := by unfold chB; exact bnd_ap _ _ _
theorem calM_ap (m : Fm) (md : Md) (dds : List D) (fs : M (List D)) (E : Nv) : calM m md dds fs E = bdR (fs E) fun ds => callM m (md ++ dds.map fun _ => none) (ds ++ dds) := by unfold calM; exact bnd_ap _ _ _
def clR : Rf → Md → Nv → Rs Ent
  | .ok p O, md, E => .ok p (back 0 md O E)
  | .er x O, md, E => .er x (back 0 md O E)
  | .stk, _, _ => .stk
theorem callM_ap {m : Fm} {md : Md} {ds : List D} {E : Nv} {as : List Ent} (h : ents md ds E = some as) : callM m md ds E = clR (m as) md E := by
  unfold callM clR
  rw [h]
  cases q : m as <;> simp [q]
theorem clR_ok (p : Ent) (O : Nv) (md : Md) (E : Nv) : clR (.ok p O) md E = .ok p (back 0 md O E) := rfl
theorem clR_er (x : Xn) (O : Nv) (md : Md) (E : Nv) : clR (.er x O) md E = .er x (back 0 md O E) := rfl
theorem back_nil (j : Nat) (O E : Nv) : back j [] O E = E := rfl
theorem back_none (j : Nat) (md : Md) (O E : Nv) : back j (none :: md) O E = back (j + 1) md O E := rfl
theorem back_some (j i : Nat) (md : Md) (O E : Nv) : back j (some i :: md) O E = back (j + 1) md O (E.set i ((O[j]?).join)) := rfl
theorem ents_nil (E : Nv) : ents [] [] E = some [] := rfl
theorem ents_no (md : Md) (d : D) (ds : List D) (E : Nv) : ents (none :: md) (d :: ds) E = (ents md ds E).map fun r => (.sh, d) :: r := rfl
theorem ents_so {i : Nat} {md : Md} {ds : List D} {E : Nv} {p : Ent} (h : E[i]? = some (some p)) : ents (some i :: md) ds E = (ents md ds E).map fun r => p :: r := by
  cases ds with
  | nil =>
    show (match E[i]? with | some (some p) => (ents md [] E).map fun r => p :: r | _ => none) = _
    rw [h]
  | cons d ds =>
    show (match E[i]? with | some (some p) => (ents md (d :: ds) E).map fun r => p :: r | _ => none) = _
    rw [h]
def rnF : Fl → Rf
  | .nx E => .ok (.sh, .non) E
  | .rt p E => .ok p E
  | .er x E => .er x E
  | _ => .stk
theorem runG_ap (N : Nat) (g : G) (as : List Ent) : runG N g as = rnF (g (as.map some ++ List.replicate (N - as.length) none)) := by
  unfold runG rnF
  cases g (as.map some ++ List.replicate (N - as.length) none) <;> rfl
theorem rnF_rt (p : Ent) (E : Nv) : rnF (.rt p E) = .ok p E := rfl
theorem rnF_nx (E : Nv) : rnF (.nx E) = .ok (.sh, .non) E := rfl
theorem rnF_er (x : Xn) (E : Nv) : rnF (.er x E) = .er x E := rfl
/-! ### own lists -/
theorem setIxS_ap {i : Nat} {fe fi : M D} {E : Nv} : setIxS i fe fi E = anR (fe E) fun y E => match E[i]? with
  | some (some _) => andS fi (fun k E => match ownL i E, k with
    | some ds, .int j => (match ixN ds.length j with
      | some n => .nx (putL i (ds.set n y) E)
      | none => .stk)
    | _, _ => .stk) E
  | _ => .stk := by unfold setIxS; exact andS_ap _ _ _
theorem ownL_ap {i : Nat} {E : Nv} {ds : List D} (h : E[i]? = some (some (.l .sh, .lst ds))) : ownL i E = some ds := by unfold ownL; rw [h]
/-! ### operators -/
theorem eqI (i j : Int) : eqD (.int i) (.int j) = some (.bl (decide (i = j))) := by
  by_cases c : i = j
  · subst c; simp [eqD, eqB, flat, scal]
  · simp [eqD, eqB, flat, scal, c]
theorem addI (i j : Int) : addD (.int i) (.int j) = some (.int (i + j)) := rfl
theorem subI (i j : Int) : subD (.int i) (.int j) = some (.int (i - j)) := rfl
theorem ltI (i j : Int) : ltD (.int i) (.int j) = some (.bl (decide (i < j))) := rfl
theorem leI (i j : Int) : leD (.int i) (.int j) = some (.bl (decide (i ≤ j))) := rfl
theorem gtI (i j : Int) : gtD (.int i) (.int j) = some (.bl (decide (j < i))) := rfl
theorem geI (i j : Int) : geD (.int i) (.int j) = some (.bl (decide (j ≤ i))) := rfl
theorem modI {i j : Int} (h : 0 < j) : modD (.int i) (.int j) = some (.int (i % j)) := if_pos h
theorem divI {i j : Int} (h : 0 < j ∧ j < 1073741824) : divD (.int i) (.int j) = some (.int (i / j)) := if_pos h
theorem mulI {i j : Int} (h : cmul i j = true) : mulD (.int i) (.int j) = some (.int (i * j)) := if_pos h
theorem cmulR {i j : Int} (h : -(2 ^ 64) < j ∧ j < 2 ^ 64) : cmul i j = true := by
  unfold cmul
  rw [decide_eq_true h.1, decide_eq_true h.2, Bool.and_self, Bool.or_true]
theorem cmulL {i j : Int} (h : -(2 ^ 64) < i ∧ i < 2 ^ 64) : cmul i j = true := by
  unfold cmul
  rw [decide_eq_true h.1, decide_eq_true h.2, Bool.and_self, Bool.true_or]
theorem negI (i : Int) : negD (.int i) = some (.int (-i)) := rfl
theorem intI (i : Int) : intD [.int i] = some (.int i) := rfl
theorem toB_bl (b : Bool) : toB (.bl b) = some b := rfl
theorem bind_some' {α β : Type} (a : α) (f : α → Option β) : (some a).bind f = f a := rfl
theorem ixL (xs : List D) (i : Int) : ixD (.lst xs) (.int i) = L2.atI xs i := rfl
theorem ixT (xs : List D) (i : Int) : ixD (.tup xs) (.int i) = L2.atI xs i := rfl
theorem atI_nn {α : Type} {xs : List α} {i : Int} (h : 0 ≤ i) : L2.atI xs i = xs[i.toNat]? := by
  unfold L2.atI ixN
  rw [if_pos h]
  by_cases c : i < (xs.length : Int)
  · rw [if_pos c]; rfl
  · rw [if_neg c, List.getElem?_eq_none (by omega)]; rfl
theorem ixN_nn {n : Nat} {i : Int} (h : 0 ≤ i) (c : i < n) : ixN n i = some i.toNat := by
  unfold ixN
  rw [if_pos h, if_pos c]
theorem len1L (ds : List D) : one lenD [.lst ds] = some (.int ds.length) := rfl
theorem len1T (ds : List D) : one lenD [.tup ds] = some (.int ds.length) := rfl
theorem small_of {n : Nat} (h : n ≤ sizeLine) : small n = true := decide_eq_true h
/-! ### the same with what is looked up told apart -/
def rdR : Option (Option Ent) → Nv → Rs D
  | some (some (.sh, d)), E => .ok d E
  | _, _ => .stk
theorem rd_eq (i : Nat) (E : Nv) : rd i E = rdR (E[i]?) E := by
  unfold rd rdR
  cases E[i]? with
  | none => rfl
  | some o =>
    cases o with
    | none => rfl
    | some p =>
      obtain ⟨t, d⟩ := p
      cases t <;> rfl
theorem rdR_sh (d : D) (E : Nv) : rdR (some (some (.sh, d))) E = .ok d E := rfl
def ioR {α : Type} : Option (Option Ent) → M α → Nv → Rs α
  | some (some _), f, E => f E
  | _, _, _ => .stk
theorem ioM_eq (i : Nat) (fs : M (List D)) (E : Nv) : ioM i fs E = ioR (E[i]?) fs E := by
  unfold ioM ioR
  cases E[i]? with
  | none => rfl
  | some o => cases o <;> rfl
theorem ioR_so {α : Type} (p : Ent) (f : M α) (E : Nv) : ioR (some (some p)) f E = f E := rfl
def enR : Option (Option Ent) → Option (List Ent) → Option (List Ent)
  | some (some p), o => o.map fun r => p :: r
  | _, _ => none
theorem ents_io (i : Nat) (md : Md) (ds : List D) (E : Nv) : ents (some i :: md) ds E = enR (E[i]?) (ents md ds E) := by
  have h : ents (some i :: md) ds E = (match E[i]? with
    | some (some p) => (ents md ds E).map fun r => p :: r
    | _ => none) := by cases ds <;> rfl
  rw [h]
  unfold enR
  cases E[i]? with
  | none => rfl
  | some o => cases o <;> rfl
theorem enR_so (p : Ent) (o : Option (List Ent)) : enR (some (some p)) o = o.map fun r => p :: r := rfl
def caR (m : Fm) : Option (List Ent) → Md → Nv → Rs Ent
  | some as, md, E => clR (m as) md E
  | none, _, _ => .stk
theorem callM_eq (m : Fm) (md : Md) (ds : List D) (E : Nv) : callM m md ds E = caR m (ents md ds E) md E := by
  cases q : ents md ds E with
  | none => unfold callM caR; rw [q]
  | some as => exact callM_ap q
theorem caR_so (m : Fm) (as : List Ent) (md : Md) (E : Nv) : caR m (some as) md E = clR (m as) md E := rfl
def owR : Option (Option Ent) → Option (List D)
  | some (some (.l .sh, .lst ds)) => some ds
  | _ => none
theorem ownL_eq (i : Nat) (E : Nv) : ownL i E = owR (E[i]?) := by
  unfold ownL owR
  rcases E[i]? with _ | _ | ⟨t, d⟩
  · rfl
  · rfl
  · cases t with
    | l t => cases t <;> first | rfl | (cases d <;> rfl)
    | _ => rfl
theorem owR_so (ds : List D) : owR (some (some (.l .sh, .lst ds))) = some ds := rfl
/-- x[k] = y -/
def siR : Option (List D) → D → D → Nat → Nv → Fl
  | some ds, .int j, y, i, E => (match ixN ds.length j with
    | some n => .nx (putL i (ds.set n y) E)
    | none => .stk)
  | _, _, _, _, _ => .stk
theorem setIxS_eq (i : Nat) (fe fi : M D) (E : Nv) : setIxS i fe fi E = anR (fe E) fun y E => match E[i]? with
  | some (some _) => anR (fi E) fun k E => siR (ownL i E) k y i E
  | _ => .stk := by
  rw [setIxS_ap]
  congr 1
  funext y E
  rcases E[i]? with _ | _ | p
  · rfl
  · rfl
  · show andS fi _ E = _
    rw [andS_ap]
    congr 1
    funext k E
    unfold siR
    rcases ownL i E with _ | ds
    · rfl
    · cases k <;> rfl
theorem siR_at {ds : List D} {j : Int} {y : D} {i : Nat} {E : Nv} (h : 0 ≤ j) (c : j < (ds.length : Int)) : siR (some ds) (.int j) y i E = .nx (putL i (ds.set j.toNat y) E) := by
  show (match ixN ds.length j with | some n => Fl.nx (putL i (ds.set n y) E) | none => Fl.stk) = _
  rw [ixN_nn h c]
/-- x[k] op= y -/
theorem augIxS_eq (i : Nat) (g : D → D → Option D) (fi fe : M D) (E : Nv) : augIxS i g fi fe E = match E[i]? with
  | some (some _) => anR (fi E) fun k E => match ownL i E, k with
    | some ds, .int j => (match L2.atI ds j with
      | some old => anR (fe E) fun y E => (match g old y, ownL i E with
        | some z, some ds => siR (some ds) (.int j) z i E
        | _, _ => .stk)
      | none => .stk)
    | _, _ => .stk
  | _ => .stk := by
  unfold augIxS
  rcases E[i]? with _ | _ | p
  · rfl
  · rfl
  · show andS fi _ E = _
    rw [andS_ap]
    congr 1
    funext k E
    rcases ownL i E with _ | ds
    · rfl
    · cases k with
      | int j =>
        simp only
        cases L2.atI ds j with
        | none => rfl
        | some old =>
          simp only
          rw [andS_ap]
          congr 1
      | _ => rfl
theorem mulR {i j : Int} (h : -18446744073709551616 < j ∧ j < 18446744073709551616) : mulD (.int i) (.int j) = some (.int (i * j)) := mulI (cmulR h)
theorem mulL {i j : Int} (h : -18446744073709551616 < i ∧ i < 18446744073709551616) : mulD (.int i) (.int j) = some (.int (i * j)) := mulI (cmulL h)
theorem addL {xs ys : List D} (h : xs.length + ys.length ≤ sizeLine) : addD (.lst xs) (.lst ys) = some (.lst (xs ++ ys)) := if_pos h
theorem addT {xs ys : List D} (h : xs.length + ys.length ≤ sizeLine) : addD (.tup xs) (.tup ys) = some (.tup (xs ++ ys)) := if_pos h
/-! ### loops -/
theorem loop_inv {asg : D → Nv → Option Nv} {body : G} {I : Nv → Prop} : ∀ {ds : List D} {E : Nv}, (∀ d ∈ ds, ∀ E, I E → ∃ E1 E2, asg d E = some E1 ∧ body E1 = .nx E2 ∧ I E2) → I E → ∃ E', loopS asg body ds E = .nx E' ∧ I E'
  | [], E, _, i => ⟨E, rfl, i⟩
  | d :: ds, E, h, i => by
    obtain ⟨E1, E2, a, b, i2⟩ := h d List.mem_cons_self E i
    obtain ⟨E', e, i3⟩ := loop_inv (ds := ds) (fun d' hd => h d' (List.mem_cons_of_mem _ hd)) i2
    refine ⟨E', ?_, i3⟩
    rw [← e]
    show (match asg d E with
      | none => Fl.stk
      | some E1 => match body E1 with
        | .nx E2 => loopS asg body ds E2
        | .ct E2 => loopS asg body ds E2
        | .bk E2 => .nx E2
        | .rt p E2 => .rt p E2
        | .er x E2 => .er x E2
        | .stk => Fl.stk) = _
    rw [a]
    simp only [b]
theorem forS_ap (f : M (List D)) (asg : D → Nv → Option Nv) (body : G) (E : Nv) : forS f asg body E = anR (f E) fun ds => loopS asg body ds := by unfold forS; exact andS_ap _ _ _
theorem rg1_ap (fs : M (List D)) (E : Nv) : rg1 fs E = bdR (fs E) fun ds => ofO (rng1Of ds) := by unfold rg1; exact bnd_ap _ _ _
theorem rg2_ap (fs : M (List D)) (E : Nv) : rg2 fs E = bdR (fs E) fun ds => ofO (rng2Of ds) := by unfold rg2; exact bnd_ap _ _ _
theorem seqI_ap (f : M D) (E : Nv) : seqI f E = bdR (f E) fun d => ofO (seqOf d) := by unfold seqI; exact bnd_ap _ _ _
theorem enI_ap (fs : M (List D)) (E : Nv) : enI fs E = bdR (fs E) fun ds => ofO (enumOf ds) := by unfold enI; exact bnd_ap _ _ _
theorem mkM_ap (m : Fm) (c : Str) (md : Md) (dds : List D) (fs : M (List D)) (E : Nv) : mkM m c md dds fs E = bdR (fs E) fun ds => makeM m c (md ++ dds.map fun _ => none) (ds ++ dds) := by unfold mkM; exact bnd_ap _ _ _
theorem loop_cons {asg : D → Nv → Option Nv} {body : G} {d : D} {ds : List D} {E E1 E2 : Nv} (a : asg d E = some E1) (b : body E1 = .nx E2) : loopS asg body (d :: ds) E = loopS asg body ds E2 := by
  show (match asg d E with
    | none => Fl.stk
    | some E1 => match body E1 with
      | .nx E2 => loopS asg body ds E2
      | .ct E2 => loopS asg body ds E2
      | .bk E2 => .nx E2
      | .rt p E2 => .rt p E2
      | .er x E2 => .er x E2
      | .stk => Fl.stk) = _
  rw [a]
  simp only [b]
theorem loop_nil {asg : D → Nv → Option Nv} {body : G} {E : Nv} : loopS asg body [] E = .nx E := rfl
theorem seqOfL (xs : List D) : seqOf (.lst xs) = some xs := rfl
theorem seqOfT (xs : List D) : seqOf (.tup xs) = some xs := rfl
theorem makeM_ok {m : Fm} {c : Str} {md : Md} {ds : List D} {E O : Nv} {as : List Ent} {d : D} (h : ents md ds E = some as) (e : m ((Ow.o, D.ins c [] []) :: as) = .ok (Ow.sh, D.non) O) (e2 : O[0]? = some (some (Ow.o, d))) : makeM m c md ds E = .ok (.o, d) (back 0 (none :: md) O E) := by
  unfold makeM
  rw [h]
  simp only [e, e2]
theorem makeM_er {m : Fm} {c : Str} {md : Md} {ds : List D} {E O : Nv} {as : List Ent} {x : Xn} (h : ents md ds E = some as) (e : m ((Ow.o, D.ins c [] []) :: as) = .er x O) : makeM m c md ds E = .er x (back 0 (none :: md) O E) := by
  unfold makeM
  rw [h]
  simp only [e]
end Dl

/-! Dm2: the bag of draws -/
namespace Dl
open PySem PySem.Spec PyProof.Rows L2
def gBag : G := (retS (own1 (conM (Dl.ret (.int 0)) (conM (Dl.ret (.int 1234567891)) (conM (Dl.ret (.int 0)) (conM (shM (compM (seqI (slM (rd 0) (Dl.ret none) (ixp (Dl.ret (.int 63))))) (putE 1) (Dl.ret true) (cbM absD (conM (rd 1) (Dl.ret []))) [1])) (Dl.ret [])))))))
def mBag : Fm := runG 2 gBag
def gTake : G := (then_ (andS (lookB (cmB eqD (opM ixD (rd 0) (Dl.ret (.int 0))) (Dl.ret (.int 0)))) fun k => if k = true then (then_ (setS 2 (sh1 (Dl.ret (.int 0)))) (then_ (andS (lookB (cmB ltD (opM ixD (rd 0) (Dl.ret (.int 2))) (cbM (one lenD) (conM (opM ixD (rd 0) (Dl.ret (.int 3))) (Dl.ret []))))) fun k => if k = true then (setS 2 (sh1 (look (opM ixD (opM ixD (rd 0) (Dl.ret (.int 3))) (opM ixD (rd 0) (Dl.ret (.int 2))))))) else done) (then_ (augIxS 0 (ipD fun i j => i + j) (Dl.ret (.int 2)) (Dl.ret (.int 1))) (then_ (andS (cmB geD (rd 2) (Dl.ret (.int 1000000000000000000))) fun k => if k = true then (setIxS 0 (rd 2) (Dl.ret (.int 0))) else done) (then_ (setS 3 (sh1 (look (opM addD (opM addD (opM mulD (opM ixD (rd 0) (Dl.ret (.int 1))) (Dl.ret (.int 48271))) (opM modD (cbM intD (conM (rd 2) (Dl.ret []))) (Dl.ret (.int 2147483647)))) (opM mulD (Dl.ret (.int 7919)) (opM ixD (rd 0) (Dl.ret (.int 2)))))))) (setIxS 0 (opM modD (cbM intD (conM (rd 3) (Dl.ret []))) (Dl.ret (.int 2147483647))) (Dl.ret (.int 1)))))))) else done) (then_ (andS (lookB (cmB gtD (opM ixD (rd 0) (Dl.ret (.int 0))) (Dl.ret (.int 0)))) fun k => if k = true then (then_ (setS 4 (sh1 (look (opM modD (cbM intD (conM (opM ixD (rd 0) (Dl.ret (.int 0))) (Dl.ret []))) (rd 1))))) (then_ (setIxS 0 (look (opM divD (cbM intD (conM (opM ixD (rd 0) (Dl.ret (.int 0))) (Dl.ret []))) (rd 1))) (Dl.ret (.int 0))) (retS (sh1 (rd 4))))) else done) (then_ (setS 5 (sh1 (look (opM modD (cbM intD (conM (opM mulD (opM addD (opM ixD (rd 0) (Dl.ret (.int 1))) (Dl.ret (.int 1))) (Dl.ret (.int 39373))) (Dl.ret []))) (Dl.ret (.int 1000000007)))))) (then_ (setS 6 (sh1 (opM modD (cbM intD (conM (opM mulD (opM modD (cbM intD (conM (opM mulD (rd 5) (rd 5)) (Dl.ret []))) (Dl.ret (.int 998244353))) (Dl.ret (.int 30011))) (Dl.ret []))) (Dl.ret (.int 998244353))))) (retS (sh1 (opM modD (cbM intD (conM (opM divD (rd 6) (Dl.ret (.int 7))) (Dl.ret []))) (rd 1))))))))
def mTake : Fm := runG 7 gTake
def mOne : Fm := runG 2 (retS (sh1 (opM ixD (rd 1) (shM (calM mTake [some 0, none] [] (ioM 0 (conM (cbM (one lenD) (conM (rd 1) (Dl.ret []))) (Dl.ret []))))))))
/-- the bag's list -/
def bagD (x y z : Int) (cs : List Int) : List D := [.int x, .int y, .int z, .lst (cs.map .int)]
structure BagOk (b : List D) : Prop where
  ex : ∃ x y z cs, b = bagD x y z cs ∧ 0 ≤ x ∧ 0 ≤ z ∧ ∀ c ∈ cs, 0 ≤ c
/-- the second half: something is left of the first number -/
def gT2 : G := (andS (lookB (cmB gtD (opM ixD (rd 0) (Dl.ret (.int 0))) (Dl.ret (.int 0)))) fun k => if k = true then (then_ (setS 4 (sh1 (look (opM modD (cbM intD (conM (opM ixD (rd 0) (Dl.ret (.int 0))) (Dl.ret []))) (rd 1))))) (then_ (setIxS 0 (look (opM divD (cbM intD (conM (opM ixD (rd 0) (Dl.ret (.int 0))) (Dl.ret []))) (rd 1))) (Dl.ret (.int 0))) (retS (sh1 (rd 4))))) else done)
theorem take1 (x y z m : Int) (cs : List Int) (c d e f g : Option Ent) (hx : 0 < x) (hm : 0 < m) (hm2 : m < 1073741824) : gT2 [some (.l .sh, .lst (bagD x y z cs)), some (.sh, .int m), c, d, e, f, g] = .rt (.sh, .int (x % m)) [some (.l .sh, .lst (bagD (x / m) y z cs)), some (.sh, .int m), c, d, some (.sh, .int (x % m)), f, g] := by
  unfold gT2
  simp (discharger := (first | assumption | omega | decide | (simp only [List.length_cons, List.length_nil, List.length_map]; first | omega | decide) | rfl)) only [ret_ap, stuck_ap, bnd_ap, bdR_ok, bdR_er, andS_ap, anR_ok, anR_er, then_ap, thF_nx, thF_rt, thF_er, thF_bk, thF_ct, done_ap, ofO_some, setS_ap, retS_ap, sh1_ap, shM_ap, look_ap, lookB_ap, lkR_int, lkR_bl, lkR_str, lkB_ok, opM_ap, cmB_ap, unM_ap, cbM_ap, conM_ap, tupM_ap, lstM_ap, own1_ap, ifM_ap, andV_ap, orV_ap, notV_ap, andM_ap, orM_ap, notM_ap, test_ap, chM_ap, chB_ap, calM_ap, callM_eq, caR_so, ents_io, enR_so, rd_eq, rdR_sh, ioM_eq, ioR_so, setIxS_eq, ownL_eq, owR_so, siR_at, putL, augIxS_eq, clR_ok, clR_er, back_nil, back_none, back_some, ents_nil, ents_no, runG_ap, rnF_rt, rnF_nx, rnF_er, eqI, addI, subI, ltI, leI, gtI, geI, negI, intI, toB_bl, bind_some', ixL, ixT, atI_nn, Int.reduceToNat, Int.toNat_zero, Int.toNat_one, len1L, len1T, List.map_cons, List.map_nil, List.cons_append, List.nil_append, List.append_nil, List.length_cons, List.length_nil, List.replicate, List.getElem?_cons_zero, List.getElem?_cons_succ, List.set_cons_zero, List.set_cons_succ, if_true, if_false, Bool.false_eq_true, Option.map_some, Option.join_some, decide_true, decide_false, decide_eq_true_eq, modI, divI, mulR, mulL, small_of, addL, addT, forS_ap, rg1_ap, rg2_ap, seqI_ap, enI_ap, mkM_ap, seqOfL, seqOfT, shr, shr1, noO, bagD, hx]
theorem take2 (y z m : Int) (cs : List Int) (c d e f g : Option Ent) : gT2 [some (.l .sh, .lst (bagD 0 y z cs)), some (.sh, .int m), c, d, e, f, g] = .nx [some (.l .sh, .lst (bagD 0 y z cs)), some (.sh, .int m), c, d, e, f, g] := by
  unfold gT2
  simp (discharger := (first | assumption | omega | decide | (simp only [List.length_cons, List.length_nil, List.length_map]; first | omega | decide) | rfl)) only [ret_ap, stuck_ap, bnd_ap, bdR_ok, bdR_er, andS_ap, anR_ok, anR_er, then_ap, thF_nx, thF_rt, thF_er, thF_bk, thF_ct, done_ap, ofO_some, setS_ap, retS_ap, sh1_ap, shM_ap, look_ap, lookB_ap, lkR_int, lkR_bl, lkR_str, lkB_ok, opM_ap, cmB_ap, unM_ap, cbM_ap, conM_ap, tupM_ap, lstM_ap, own1_ap, ifM_ap, andV_ap, orV_ap, notV_ap, andM_ap, orM_ap, notM_ap, test_ap, chM_ap, chB_ap, calM_ap, callM_eq, caR_so, ents_io, enR_so, rd_eq, rdR_sh, ioM_eq, ioR_so, setIxS_eq, ownL_eq, owR_so, siR_at, putL, augIxS_eq, clR_ok, clR_er, back_nil, back_none, back_some, ents_nil, ents_no, runG_ap, rnF_rt, rnF_nx, rnF_er, eqI, addI, subI, ltI, leI, gtI, geI, negI, intI, toB_bl, bind_some', ixL, ixT, atI_nn, Int.reduceToNat, Int.toNat_zero, Int.toNat_one, len1L, len1T, List.map_cons, List.map_nil, List.cons_append, List.nil_append, List.append_nil, List.length_cons, List.length_nil, List.replicate, List.getElem?_cons_zero, List.getElem?_cons_succ, List.set_cons_zero, List.set_cons_succ, if_true, if_false, Bool.false_eq_true, Option.map_some, Option.join_some, decide_true, decide_false, decide_eq_true_eq, modI, divI, mulR, mulL, small_of, addL, addT, forS_ap, rg1_ap, rg2_ap, seqI_ap, enI_ap, mkM_ap, seqOfL, seqOfT, shr, shr1, noO, bagD, Int.lt_irrefl]
def gT1b : G := (then_ (setS 2 (sh1 (Dl.ret (.int 0)))) (then_ (andS (lookB (cmB ltD (opM ixD (rd 0) (Dl.ret (.int 2))) (cbM (one lenD) (conM (opM ixD (rd 0) (Dl.ret (.int 3))) (Dl.ret []))))) fun k => if k = true then (setS 2 (sh1 (look (opM ixD (opM ixD (rd 0) (Dl.ret (.int 3))) (opM ixD (rd 0) (Dl.ret (.int 2))))))) else done) (then_ (augIxS 0 (ipD fun i j => i + j) (Dl.ret (.int 2)) (Dl.ret (.int 1))) (then_ (andS (cmB geD (rd 2) (Dl.ret (.int 1000000000000000000))) fun k => if k = true then (setIxS 0 (rd 2) (Dl.ret (.int 0))) else done) (then_ (setS 3 (sh1 (look (opM addD (opM addD (opM mulD (opM ixD (rd 0) (Dl.ret (.int 1))) (Dl.ret (.int 48271))) (opM modD (cbM intD (conM (rd 2) (Dl.ret []))) (Dl.ret (.int 2147483647)))) (opM mulD (Dl.ret (.int 7919)) (opM ixD (rd 0) (Dl.ret (.int 2)))))))) (setIxS 0 (opM modD (cbM intD (conM (rd 3) (Dl.ret []))) (Dl.ret (.int 2147483647))) (Dl.ret (.int 1))))))))
def gT1 : G := (andS (lookB (cmB eqD (opM ixD (rd 0) (Dl.ret (.int 0))) (Dl.ret (.int 0)))) fun k => if k = true then gT1b else done)
def gT3 : G := (then_ (setS 5 (sh1 (look (opM modD (cbM intD (conM (opM mulD (opM addD (opM ixD (rd 0) (Dl.ret (.int 1))) (Dl.ret (.int 1))) (Dl.ret (.int 39373))) (Dl.ret []))) (Dl.ret (.int 1000000007)))))) (then_ (setS 6 (sh1 (opM modD (cbM intD (conM (opM mulD (opM modD (cbM intD (conM (opM mulD (rd 5) (rd 5)) (Dl.ret []))) (Dl.ret (.int 998244353))) (Dl.ret (.int 30011))) (Dl.ret []))) (Dl.ret (.int 998244353))))) (retS (sh1 (opM modD (cbM intD (conM (opM divD (rd 6) (Dl.ret (.int 7))) (Dl.ret []))) (rd 1))))))
theorem gTake_eq : gTake = then_ gT1 (then_ gT2 gT3) := rfl
theorem tk0 (x y z m : Int) (cs : List Int) (c d e f g : Option Ent) (hx : 0 < x) : gT1 [some (.l .sh, .lst (bagD x y z cs)), some (.sh, .int m), c, d, e, f, g] = .nx [some (.l .sh, .lst (bagD x y z cs)), some (.sh, .int m), c, d, e, f, g] := by
  have h0 : ¬ x = 0 := by omega
  unfold gT1
  simp (discharger := (first | assumption | omega | decide | (simp only [List.length_cons, List.length_nil, List.length_map]; first | omega | decide) | rfl)) only [ret_ap, stuck_ap, bnd_ap, bdR_ok, bdR_er, andS_ap, anR_ok, anR_er, then_ap, thF_nx, thF_rt, thF_er, thF_bk, thF_ct, done_ap, ofO_some, setS_ap, retS_ap, sh1_ap, shM_ap, look_ap, lookB_ap, lkR_int, lkR_bl, lkR_str, lkB_ok, opM_ap, cmB_ap, unM_ap, cbM_ap, conM_ap, tupM_ap, lstM_ap, own1_ap, ifM_ap, andV_ap, orV_ap, notV_ap, andM_ap, orM_ap, notM_ap, test_ap, chM_ap, chB_ap, calM_ap, callM_eq, caR_so, ents_io, enR_so, rd_eq, rdR_sh, ioM_eq, ioR_so, setIxS_eq, ownL_eq, owR_so, siR_at, putL, augIxS_eq, clR_ok, clR_er, back_nil, back_none, back_some, ents_nil, ents_no, runG_ap, rnF_rt, rnF_nx, rnF_er, eqI, addI, subI, ltI, leI, gtI, geI, negI, intI, toB_bl, bind_some', ixL, ixT, atI_nn, Int.reduceToNat, Int.toNat_zero, Int.toNat_one, len1L, len1T, List.map_cons, List.map_nil, List.cons_append, List.nil_append, List.append_nil, List.length_cons, List.length_nil, List.replicate, List.getElem?_cons_zero, List.getElem?_cons_succ, List.set_cons_zero, List.set_cons_succ, if_true, if_false, Bool.false_eq_true, Option.map_some, Option.join_some, decide_true, decide_false, decide_eq_true_eq, modI, divI, mulR, mulL, small_of, addL, addT, forS_ap, rg1_ap, rg2_ap, seqI_ap, enI_ap, mkM_ap, seqOfL, seqOfT, shr, shr1, noO, bagD, h0]
theorem tk1 (y z m : Int) (cs : List Int) (c d e f g : Option Ent) : gT1 [some (.l .sh, .lst (bagD 0 y z cs)), some (.sh, .int m), c, d, e, f, g] = gT1b [some (.l .sh, .lst (bagD 0 y z cs)), some (.sh, .int m), c, d, e, f, g] := by
  unfold gT1
  simp (discharger := (first | assumption | omega | decide | (simp only [List.length_cons, List.length_nil, List.length_map]; first | omega | decide) | rfl)) only [ret_ap, stuck_ap, bnd_ap, bdR_ok, bdR_er, andS_ap, anR_ok, anR_er, then_ap, thF_nx, thF_rt, thF_er, thF_bk, thF_ct, done_ap, ofO_some, setS_ap, retS_ap, sh1_ap, shM_ap, look_ap, lookB_ap, lkR_int, lkR_bl, lkR_str, lkB_ok, opM_ap, cmB_ap, unM_ap, cbM_ap, conM_ap, tupM_ap, lstM_ap, own1_ap, ifM_ap, andV_ap, orV_ap, notV_ap, andM_ap, orM_ap, notM_ap, test_ap, chM_ap, chB_ap, calM_ap, callM_eq, caR_so, ents_io, enR_so, rd_eq, rdR_sh, ioM_eq, ioR_so, setIxS_eq, ownL_eq, owR_so, siR_at, putL, augIxS_eq, clR_ok, clR_er, back_nil, back_none, back_some, ents_nil, ents_no, runG_ap, rnF_rt, rnF_nx, rnF_er, eqI, addI, subI, ltI, leI, gtI, geI, negI, intI, toB_bl, bind_some', ixL, ixT, atI_nn, Int.reduceToNat, Int.toNat_zero, Int.toNat_one, len1L, len1T, List.map_cons, List.map_nil, List.cons_append, List.nil_append, List.append_nil, List.length_cons, List.length_nil, List.replicate, List.getElem?_cons_zero, List.getElem?_cons_succ, List.set_cons_zero, List.set_cons_succ, if_true, if_false, Bool.false_eq_true, Option.map_some, Option.join_some, decide_true, decide_false, decide_eq_true_eq, modI, divI, mulR, mulL, small_of, addL, addT, forS_ap, rg1_ap, rg2_ap, seqI_ap, enI_ap, mkM_ap, seqOfL, seqOfT, shr, shr1, noO, bagD]
/-- the next number of the script, 0 behind its end -/
def cellAt (z : Int) (cs : List Int) : Int := (cs[z.toNat]?).getD 0
def nextY (y w z : Int) : Int := (y * 48271 + w % 2147483647 + 7919 * (z + 1)) % 2147483647
theorem tk2 (y z m : Int) (cs : List Int) (c d e f g : Option Ent) (hz : 0 ≤ z) : ∃ h, gT1b [some (.l .sh, .lst (bagD 0 y z cs)), some (.sh, .int m), c, d, e, f, g] =
    .nx [some (.l .sh, .lst (bagD (if 1000000000000000000 ≤ cellAt z cs then cellAt z cs else 0) (nextY y (cellAt z cs) z) (z + 1) cs)), some (.sh, .int m), some (.sh, .int (cellAt z cs)), h, e, f, g] := by
  unfold gT1b cellAt
  by_cases hl : z < (cs.length : Int)
  · have e1 : (cs.map D.int)[z.toNat]? = some (.int cs[z.toNat]) := by rw [List.getElem?_map, List.getElem?_eq_getElem (by omega)]; rfl
    have e2 : cs[z.toNat]? = some cs[z.toNat] := List.getElem?_eq_getElem (by omega)
    rw [e2]
    generalize cs[z.toNat] = w at *
    by_cases hw : 1000000000000000000 ≤ w
    · refine ⟨some (.sh, .int (y * 48271 + w % 2147483647 + 7919 * (z + 1))), ?_⟩
      simp (discharger := (first | assumption | omega | decide | (simp only [List.length_cons, List.length_nil, List.length_map]; first | omega | decide) | rfl)) only [ret_ap, stuck_ap, bnd_ap, bdR_ok, bdR_er, andS_ap, anR_ok, anR_er, then_ap, thF_nx, thF_rt, thF_er, thF_bk, thF_ct, done_ap, ofO_some, setS_ap, retS_ap, sh1_ap, shM_ap, look_ap, lookB_ap, lkR_int, lkR_bl, lkR_str, lkB_ok, opM_ap, cmB_ap, unM_ap, cbM_ap, conM_ap, tupM_ap, lstM_ap, own1_ap, ifM_ap, andV_ap, orV_ap, notV_ap, andM_ap, orM_ap, notM_ap, test_ap, chM_ap, chB_ap, calM_ap, callM_eq, caR_so, ents_io, enR_so, rd_eq, rdR_sh, ioM_eq, ioR_so, setIxS_eq, ownL_eq, owR_so, siR_at, putL, augIxS_eq, clR_ok, clR_er, back_nil, back_none, back_some, ents_nil, ents_no, runG_ap, rnF_rt, rnF_nx, rnF_er, eqI, addI, subI, ltI, leI, gtI, geI, negI, intI, toB_bl, bind_some', ixL, ixT, atI_nn, Int.reduceToNat, Int.toNat_zero, Int.toNat_one, len1L, len1T, List.map_cons, List.map_nil, List.cons_append, List.nil_append, List.append_nil, List.length_cons, List.length_nil, List.replicate, List.getElem?_cons_zero, List.getElem?_cons_succ, List.set_cons_zero, List.set_cons_succ, if_true, if_false, Bool.false_eq_true, Option.map_some, Option.join_some, decide_true, decide_false, decide_eq_true_eq, modI, divI, mulR, mulL, small_of, addL, addT, forS_ap, rg1_ap, rg2_ap, seqI_ap, enI_ap, mkM_ap, seqOfL, seqOfT, shr, shr1, noO, bagD, List.length_map, hl, e1, hw, ipD, nextY, Option.getD_some]
    · refine ⟨some (.sh, .int (y * 48271 + w % 2147483647 + 7919 * (z + 1))), ?_⟩
      simp (discharger := (first | assumption | omega | decide | (simp only [List.length_cons, List.length_nil, List.length_map]; first | omega | decide) | rfl)) only [ret_ap, stuck_ap, bnd_ap, bdR_ok, bdR_er, andS_ap, anR_ok, anR_er, then_ap, thF_nx, thF_rt, thF_er, thF_bk, thF_ct, done_ap, ofO_some, setS_ap, retS_ap, sh1_ap, shM_ap, look_ap, lookB_ap, lkR_int, lkR_bl, lkR_str, lkB_ok, opM_ap, cmB_ap, unM_ap, cbM_ap, conM_ap, tupM_ap, lstM_ap, own1_ap, ifM_ap, andV_ap, orV_ap, notV_ap, andM_ap, orM_ap, notM_ap, test_ap, chM_ap, chB_ap, calM_ap, callM_eq, caR_so, ents_io, enR_so, rd_eq, rdR_sh, ioM_eq, ioR_so, setIxS_eq, ownL_eq, owR_so, siR_at, putL, augIxS_eq, clR_ok, clR_er, back_nil, back_none, back_some, ents_nil, ents_no, runG_ap, rnF_rt, rnF_nx, rnF_er, eqI, addI, subI, ltI, leI, gtI, geI, negI, intI, toB_bl, bind_some', ixL, ixT, atI_nn, Int.reduceToNat, Int.toNat_zero, Int.toNat_one, len1L, len1T, List.map_cons, List.map_nil, List.cons_append, List.nil_append, List.append_nil, List.length_cons, List.length_nil, List.replicate, List.getElem?_cons_zero, List.getElem?_cons_succ, List.set_cons_zero, List.set_cons_succ, if_true, if_false, Bool.false_eq_true, Option.map_some, Option.join_some, decide_true, decide_false, decide_eq_true_eq, modI, divI, mulR, mulL, small_of, addL, addT, forS_ap, rg1_ap, rg2_ap, seqI_ap, enI_ap, mkM_ap, seqOfL, seqOfT, shr, shr1, noO, bagD, List.length_map, hl, e1, hw, ipD, nextY, Option.getD_some]
  · have e2 : cs[z.toNat]? = none := List.getElem?_eq_none (by omega)
    rw [e2]
    have hw : ¬ (1000000000000000000 : Int) ≤ 0 := by decide
    refine ⟨some (.sh, .int (y * 48271 + 0 % 2147483647 + 7919 * (z + 1))), ?_⟩
    simp (discharger := (first | assumption | omega | decide | (simp only [List.length_cons, List.length_nil, List.length_map]; first | omega | decide) | rfl)) only [ret_ap, stuck_ap, bnd_ap, bdR_ok, bdR_er, andS_ap, anR_ok, anR_er, then_ap, thF_nx, thF_rt, thF_er, thF_bk, thF_ct, done_ap, ofO_some, setS_ap, retS_ap, sh1_ap, shM_ap, look_ap, lookB_ap, lkR_int, lkR_bl, lkR_str, lkB_ok, opM_ap, cmB_ap, unM_ap, cbM_ap, conM_ap, tupM_ap, lstM_ap, own1_ap, ifM_ap, andV_ap, orV_ap, notV_ap, andM_ap, orM_ap, notM_ap, test_ap, chM_ap, chB_ap, calM_ap, callM_eq, caR_so, ents_io, enR_so, rd_eq, rdR_sh, ioM_eq, ioR_so, setIxS_eq, ownL_eq, owR_so, siR_at, putL, augIxS_eq, clR_ok, clR_er, back_nil, back_none, back_some, ents_nil, ents_no, runG_ap, rnF_rt, rnF_nx, rnF_er, eqI, addI, subI, ltI, leI, gtI, geI, negI, intI, toB_bl, bind_some', ixL, ixT, atI_nn, Int.reduceToNat, Int.toNat_zero, Int.toNat_one, len1L, len1T, List.map_cons, List.map_nil, List.cons_append, List.nil_append, List.append_nil, List.length_cons, List.length_nil, List.replicate, List.getElem?_cons_zero, List.getElem?_cons_succ, List.set_cons_zero, List.set_cons_succ, if_true, if_false, Bool.false_eq_true, Option.map_some, Option.join_some, decide_true, decide_false, decide_eq_true_eq, modI, divI, mulR, mulL, small_of, addL, addT, forS_ap, rg1_ap, rg2_ap, seqI_ap, enI_ap, mkM_ap, seqOfL, seqOfT, shr, shr1, noO, bagD, List.length_map, hl, ipD, nextY, hw, Option.getD_none]
theorem tk3 (y z m : Int) (cs : List Int) (c d e f g : Option Ent) (hm : 0 < m) : ∃ v h i, gT3 [some (.l .sh, .lst (bagD 0 y z cs)), some (.sh, .int m), c, d, e, f, g] = .rt (.sh, .int v) [some (.l .sh, .lst (bagD 0 y z cs)), some (.sh, .int m), c, d, e, h, i] ∧ 0 ≤ v ∧ v < m := by
  unfold gT3
  have h1 : 0 ≤ (y + 1) * 39373 % 1000000007 ∧ (y + 1) * 39373 % 1000000007 < 1000000007 := ⟨Int.emod_nonneg _ (by decide), Int.emod_lt_of_pos _ (by decide)⟩
  generalize he : (y + 1) * 39373 % 1000000007 = w at h1
  have h2 : -18446744073709551616 < w ∧ w < 18446744073709551616 := by omega
  refine ⟨w * w % 998244353 * 30011 % 998244353 / 7 % m, some (.sh, .int w), some (.sh, .int (w * w % 998244353 * 30011 % 998244353)), ?_, Int.emod_nonneg _ (by omega), Int.emod_lt_of_pos _ hm⟩
  simp (discharger := (first | assumption | omega | decide | (simp only [List.length_cons, List.length_nil, List.length_map]; first | omega | decide) | rfl)) only [ret_ap, stuck_ap, bnd_ap, bdR_ok, bdR_er, andS_ap, anR_ok, anR_er, then_ap, thF_nx, thF_rt, thF_er, thF_bk, thF_ct, done_ap, ofO_some, setS_ap, retS_ap, sh1_ap, shM_ap, look_ap, lookB_ap, lkR_int, lkR_bl, lkR_str, lkB_ok, opM_ap, cmB_ap, unM_ap, cbM_ap, conM_ap, tupM_ap, lstM_ap, own1_ap, ifM_ap, andV_ap, orV_ap, notV_ap, andM_ap, orM_ap, notM_ap, test_ap, chM_ap, chB_ap, calM_ap, callM_eq, caR_so, ents_io, enR_so, rd_eq, rdR_sh, ioM_eq, ioR_so, setIxS_eq, ownL_eq, owR_so, siR_at, putL, augIxS_eq, clR_ok, clR_er, back_nil, back_none, back_some, ents_nil, ents_no, runG_ap, rnF_rt, rnF_nx, rnF_er, eqI, addI, subI, ltI, leI, gtI, geI, negI, intI, toB_bl, bind_some', ixL, ixT, atI_nn, Int.reduceToNat, Int.toNat_zero, Int.toNat_one, len1L, len1T, List.map_cons, List.map_nil, List.cons_append, List.nil_append, List.append_nil, List.length_cons, List.length_nil, List.replicate, List.getElem?_cons_zero, List.getElem?_cons_succ, List.set_cons_zero, List.set_cons_succ, if_true, if_false, Bool.false_eq_true, Option.map_some, Option.join_some, decide_true, decide_false, decide_eq_true_eq, modI, divI, mulR, mulL, small_of, addL, addT, forS_ap, rg1_ap, rg2_ap, seqI_ap, enI_ap, mkM_ap, seqOfL, seqOfT, shr, shr1, noO, bagD, he]
theorem take_ok {b : List D} {m : Int} (hb : BagOk b) (hm : 0 < m) (hm2 : m < 1073741824) : ∃ b' v O, mTake [(.l .sh, .lst b), (.sh, .int m)] = .ok (.sh, .int v) (some (.l .sh, .lst b') :: O) ∧ BagOk b' ∧ 0 ≤ v ∧ v < m := by
  obtain ⟨x, y, z, cs, rfl, hx, hz, hc⟩ := hb.ex
  have st : ([((Ow.l .sh, D.lst (bagD x y z cs)) : Ent), (.sh, .int m)].map some ++ List.replicate (7 - [((Ow.l .sh, D.lst (bagD x y z cs)) : Ent), (.sh, .int m)].length) none : Nv) = [some (.l .sh, .lst (bagD x y z cs)), some (.sh, .int m), none, none, none, none, none] := rfl
  unfold mTake
  rw [runG_ap, st, gTake_eq, then_ap]
  by_cases h0 : 0 < x
  · rw [tk0 _ _ _ _ _ _ _ _ _ _ h0, thF_nx, then_ap, take1 _ _ _ _ _ _ _ _ _ _ h0 hm hm2, thF_rt, rnF_rt]
    exact ⟨_, _, _, rfl, ⟨_, _, _, _, rfl, Int.ediv_nonneg hx (by omega), hz, hc⟩, Int.emod_nonneg _ (by omega), Int.emod_lt_of_pos _ hm⟩
  · have e : x = 0 := by omega
    subst e
    obtain ⟨h, e2⟩ := tk2 y z m cs none none none none none hz
    rw [tk1, e2, thF_nx, then_ap]
    by_cases hw : 1000000000000000000 ≤ cellAt z cs
    · rw [if_pos hw, take1 _ _ _ _ _ _ _ _ _ _ (by omega) hm hm2, thF_rt, rnF_rt]
      exact ⟨_, _, _, rfl, ⟨_, _, _, _, rfl, Int.ediv_nonneg (by omega) (by omega), by omega, hc⟩, Int.emod_nonneg _ (by omega), Int.emod_lt_of_pos _ hm⟩
    · rw [if_neg hw, take2, thF_nx]
      obtain ⟨v, h', i', e3, h1, h2⟩ := tk3 (nextY y (cellAt z cs) z) (z + 1) m cs (some (.sh, .int (cellAt z cs))) h none none none hm
      rw [e3, rnF_rt]
      exact ⟨_, _, _, rfl, ⟨_, _, _, _, rfl, Int.le_refl _, by omega, hc⟩, h1, h2⟩
theorem one_ok {b : List D} {xs : List D} (hb : BagOk b) (h0 : 0 < xs.length) (h1 : xs.length < 1073741824) : ∃ b' d O, mOne [(.l .sh, .lst b), (.sh, .lst xs)] = .ok (.sh, d) (some (.l .sh, .lst b') :: O) ∧ BagOk b' ∧ d ∈ xs := by
  obtain ⟨b', v, O, e, hb', v0, v1⟩ := take_ok (m := (xs.length : Int)) hb (by omega) (by omega)
  have hv : v.toNat < xs.length := by omega
  refine ⟨b', xs[v.toNat], [some (.sh, .lst xs)], ?_, hb', List.getElem_mem hv⟩
  have e2 : xs[v.toNat]? = some xs[v.toNat] := List.getElem?_eq_getElem hv
  unfold mOne
  simp (discharger := (first | assumption | omega | decide | (simp only [List.length_cons, List.length_nil, List.length_map]; first | omega | decide) | rfl)) only [ret_ap, stuck_ap, bnd_ap, bdR_ok, bdR_er, andS_ap, anR_ok, anR_er, then_ap, thF_nx, thF_rt, thF_er, thF_bk, thF_ct, done_ap, ofO_some, setS_ap, retS_ap, sh1_ap, shM_ap, look_ap, lookB_ap, lkR_int, lkR_bl, lkR_str, lkB_ok, opM_ap, cmB_ap, unM_ap, cbM_ap, conM_ap, tupM_ap, lstM_ap, own1_ap, ifM_ap, andV_ap, orV_ap, notV_ap, andM_ap, orM_ap, notM_ap, test_ap, chM_ap, chB_ap, calM_ap, callM_eq, caR_so, ents_io, enR_so, rd_eq, rdR_sh, ioM_eq, ioR_so, setIxS_eq, ownL_eq, owR_so, siR_at, putL, augIxS_eq, clR_ok, clR_er, back_nil, back_none, back_some, ents_nil, ents_no, runG_ap, rnF_rt, rnF_nx, rnF_er, eqI, addI, subI, ltI, leI, gtI, geI, negI, intI, toB_bl, bind_some', ixL, ixT, atI_nn, Int.reduceToNat, Int.toNat_zero, Int.toNat_one, len1L, len1T, List.map_cons, List.map_nil, List.cons_append, List.nil_append, List.append_nil, List.length_cons, List.length_nil, List.replicate, List.getElem?_cons_zero, List.getElem?_cons_succ, List.set_cons_zero, List.set_cons_succ, if_true, if_false, Bool.false_eq_true, Option.map_some, Option.join_some, decide_true, decide_false, decide_eq_true_eq, modI, divI, mulR, mulL, small_of, addL, addT, forS_ap, rg1_ap, rg2_ap, seqI_ap, enI_ap, mkM_ap, seqOfL, seqOfT, e, e2]
  rfl
def absI (i : Int) : Int := if i < 0 then -i else i
theorem absI_nn (i : Int) : 0 ≤ absI i := by unfold absI; split <;> omega
theorem bag_loop (a : Option Ent) : ∀ (is : List Int) (acc : List D) (b : Option Ent), acc.length + is.length ≤ 100 → compL (putE 1) (Dl.ret true) (cbM absD (conM (rd 1) (Dl.ret []))) [1] (is.map .int) acc [a, b] = .ok (acc ++ (is.map absI).map .int) [a, none]
  | [], acc, b, _ => by
    show Rs.ok acc (wpe [a, b] [1]) = _
    rw [List.map_nil, List.map_nil, List.append_nil]
    rfl
  | i :: is, acc, b, h => by
    rw [List.length_cons] at h
    have z : acc.length < sizeLine := by rw [sizeLine_eq]; omega
    have e : absD [.int i] = some (.int (absI i)) := rfl
    have e1 : cbM absD (conM (rd 1) (Dl.ret [])) [a, some (.sh, .int i)] = .ok (.int (absI i)) [a, some (.sh, .int i)] := by simp (discharger := (first | assumption | omega | decide | (simp only [List.length_cons, List.length_nil, List.length_map]; first | omega | decide) | rfl)) only [ret_ap, stuck_ap, bnd_ap, bdR_ok, bdR_er, andS_ap, anR_ok, anR_er, then_ap, thF_nx, thF_rt, thF_er, thF_bk, thF_ct, done_ap, ofO_some, setS_ap, retS_ap, sh1_ap, shM_ap, look_ap, lookB_ap, lkR_int, lkR_bl, lkR_str, lkB_ok, opM_ap, cmB_ap, unM_ap, cbM_ap, conM_ap, tupM_ap, lstM_ap, own1_ap, ifM_ap, andV_ap, orV_ap, notV_ap, andM_ap, orM_ap, notM_ap, test_ap, chM_ap, chB_ap, calM_ap, callM_eq, caR_so, ents_io, enR_so, rd_eq, rdR_sh, ioM_eq, ioR_so, setIxS_eq, ownL_eq, owR_so, siR_at, putL, augIxS_eq, clR_ok, clR_er, back_nil, back_none, back_some, ents_nil, ents_no, runG_ap, rnF_rt, rnF_nx, rnF_er, eqI, addI, subI, ltI, leI, gtI, geI, negI, intI, toB_bl, bind_some', ixL, ixT, atI_nn, Int.reduceToNat, Int.toNat_zero, Int.toNat_one, len1L, len1T, List.map_cons, List.map_nil, List.cons_append, List.nil_append, List.append_nil, List.length_cons, List.length_nil, List.replicate, List.getElem?_cons_zero, List.getElem?_cons_succ, List.set_cons_zero, List.set_cons_succ, if_true, if_false, Bool.false_eq_true, Option.map_some, Option.join_some, decide_true, decide_false, decide_eq_true_eq, modI, divI, mulR, mulL, small_of, addL, addT, forS_ap, rg1_ap, rg2_ap, seqI_ap, enI_ap, mkM_ap, seqOfL, seqOfT, e]
    have e2 : compL (putE 1) (Dl.ret true) (cbM absD (conM (rd 1) (Dl.ret []))) [1] ((i :: is).map .int) acc [a, b] = (match cbM absD (conM (rd 1) (Dl.ret [])) [a, some (.sh, .int i)] with
        | .ok y E3 => if acc.length < sizeLine then compL (putE 1) (Dl.ret true) (cbM absD (conM (rd 1) (Dl.ret []))) [1] (is.map .int) (acc ++ [y]) E3 else .stk
        | _ => .stk) := rfl
    rw [e2, e1]
    simp only
    rw [if_pos z, bag_loop a is (acc ++ [D.int (absI i)]) (some (Ow.sh, D.int i)) (by rw [List.length_append, List.length_singleton]; omega)]
    rw [List.map_cons, List.map_cons, List.append_assoc]
    rfl
theorem bag_ok {ns : List Int} (h : ns.length ≤ 63) : ∃ b O, mBag [(.sh, .frl ns)] = .ok (.l .sh, .lst b) O ∧ BagOk b := by
  let is : List Int := ((ns.drop (HT.sIx ns.length 0 none)).take (HT.sIx ns.length ns.length (some 63) - HT.sIx ns.length 0 none))
  have hl : is.length ≤ 63 := by
    show ((ns.drop _).take _).length ≤ 63
    rw [List.length_take, List.length_drop]
    omega
  have ec : cutD (ns.map .int) none (some 63) = is.map .int := by
    unfold cutD
    rw [List.length_map, ← List.map_drop, ← List.map_take]
  refine ⟨bagD 0 1234567891 0 (is.map absI), [some (.sh, .frl ns), none], ?_, ⟨0, 1234567891, 0, is.map absI, rfl, by decide, by decide, fun c hc => ?_⟩⟩
  rotate_left 1
  · obtain ⟨i, _, rfl⟩ := List.mem_map.mp hc
    exact absI_nn i
  · have s1 : sliceD (.frl ns) none (some 63) = some (.lst (is.map .int)) := by rw [← ec]; rfl
    have s2 : slM (rd 0) (Dl.ret none) (ixp (Dl.ret (.int 63))) [some (.sh, .frl ns), none] = .ok (.lst (is.map .int)) [some (.sh, .frl ns), none] := by
      have a1 : asI (.int 63) = some 63 := rfl
      unfold slM ixp
      simp (discharger := (first | assumption | omega | decide | (simp only [List.length_cons, List.length_nil, List.length_map]; first | omega | decide) | rfl)) only [ret_ap, stuck_ap, bnd_ap, bdR_ok, bdR_er, andS_ap, anR_ok, anR_er, then_ap, thF_nx, thF_rt, thF_er, thF_bk, thF_ct, done_ap, ofO_some, setS_ap, retS_ap, sh1_ap, shM_ap, look_ap, lookB_ap, lkR_int, lkR_bl, lkR_str, lkB_ok, opM_ap, cmB_ap, unM_ap, cbM_ap, conM_ap, tupM_ap, lstM_ap, own1_ap, ifM_ap, andV_ap, orV_ap, notV_ap, andM_ap, orM_ap, notM_ap, test_ap, chM_ap, chB_ap, calM_ap, callM_eq, caR_so, ents_io, enR_so, rd_eq, rdR_sh, ioM_eq, ioR_so, setIxS_eq, ownL_eq, owR_so, siR_at, putL, augIxS_eq, clR_ok, clR_er, back_nil, back_none, back_some, ents_nil, ents_no, runG_ap, rnF_rt, rnF_nx, rnF_er, eqI, addI, subI, ltI, leI, gtI, geI, negI, intI, toB_bl, bind_some', ixL, ixT, atI_nn, Int.reduceToNat, Int.toNat_zero, Int.toNat_one, len1L, len1T, List.map_cons, List.map_nil, List.cons_append, List.nil_append, List.append_nil, List.length_cons, List.length_nil, List.replicate, List.getElem?_cons_zero, List.getElem?_cons_succ, List.set_cons_zero, List.set_cons_succ, if_true, if_false, Bool.false_eq_true, Option.map_some, Option.join_some, decide_true, decide_false, decide_eq_true_eq, modI, divI, mulR, mulL, small_of, addL, addT, forS_ap, rg1_ap, rg2_ap, seqI_ap, enI_ap, mkM_ap, seqOfL, seqOfT, a1, s1]
    have s3 := bag_loop (some (.sh, .frl ns)) is [] none (by rw [List.length_nil]; omega)
    rw [List.nil_append] at s3
    have s4 : small 4 = true := by decide
    have st : ([((Ow.sh, D.frl ns) : Ent)].map some ++ List.replicate (2 - [((Ow.sh, D.frl ns) : Ent)].length) none : Nv) = [some (.sh, .frl ns), none] := rfl
    unfold mBag gBag compM
    rw [runG_ap, st]
    simp (discharger := (first | assumption | omega | decide | (simp only [List.length_cons, List.length_nil, List.length_map]; first | omega | decide) | rfl)) only [ret_ap, stuck_ap, bnd_ap, bdR_ok, bdR_er, andS_ap, anR_ok, anR_er, then_ap, thF_nx, thF_rt, thF_er, thF_bk, thF_ct, done_ap, ofO_some, setS_ap, retS_ap, sh1_ap, shM_ap, look_ap, lookB_ap, lkR_int, lkR_bl, lkR_str, lkB_ok, opM_ap, cmB_ap, unM_ap, cbM_ap, conM_ap, tupM_ap, lstM_ap, own1_ap, ifM_ap, andV_ap, orV_ap, notV_ap, andM_ap, orM_ap, notM_ap, test_ap, chM_ap, chB_ap, calM_ap, callM_eq, caR_so, ents_io, enR_so, rd_eq, rdR_sh, ioM_eq, ioR_so, setIxS_eq, ownL_eq, owR_so, siR_at, putL, augIxS_eq, clR_ok, clR_er, back_nil, back_none, back_some, ents_nil, ents_no, runG_ap, rnF_rt, rnF_nx, rnF_er, eqI, addI, subI, ltI, leI, gtI, geI, negI, intI, toB_bl, bind_some', ixL, ixT, atI_nn, Int.reduceToNat, Int.toNat_zero, Int.toNat_one, len1L, len1T, List.map_cons, List.map_nil, List.cons_append, List.nil_append, List.append_nil, List.length_cons, List.length_nil, List.replicate, List.getElem?_cons_zero, List.getElem?_cons_succ, List.set_cons_zero, List.set_cons_succ, if_true, if_false, Bool.false_eq_true, Option.map_some, Option.join_some, decide_true, decide_false, decide_eq_true_eq, modI, divI, mulR, mulL, small_of, addL, addT, forS_ap, rg1_ap, rg2_ap, seqI_ap, enI_ap, mkM_ap, seqOfL, seqOfT, s2, s3, s4]
    rfl
end Dl

namespace Gk
open PySem PySem.Spec PyProof.Rows L2 Dl
def top (i : Nat) : Stmt := PySem.Challenge.pw_earlyorlate_k12_words_and_kinds.main.body.getD i (.Pass ⟨0, 0, 0, 0⟩)
def fn0 : List He.DefD := [⟨("_law_bag", none), "_law_bag", "_law_bag", defArgs (top 30), defBody (top 30), defScope (top 30), [], []⟩, ⟨("_law_take", none), "_law_take", "_law_take", defArgs (top 31), defBody (top 31), defScope (top 31), [], []⟩, ⟨("Wrong", some "__init__"), "__init__", "Wrong.__init__", defArgs (inClass (top 14) 0), defBody (inClass (top 14) 0), defScope (inClass (top 14) 0), [], []⟩, ⟨("BadItem", some "__init__"), "__init__", "BadItem.__init__", defArgs (inClass (top 15) 0), defBody (inClass (top 15) 0), defScope (inClass (top 15) 0), [], []⟩, ⟨("TooMany", some "__init__"), "__init__", "TooMany.__init__", defArgs (inClass (top 16) 0), defBody (inClass (top 16) 0), defScope (inClass (top 16) 0), [], []⟩, ⟨("is_integer", none), "is_integer", "is_integer", defArgs (top 5), defBody (top 5), defScope (top 5), [], []⟩, ⟨("is_index", none), "is_index", "is_index", defArgs (top 8), defBody (top 8), defScope (top 8), [], []⟩, ⟨("is_number", none), "is_number", "is_number", defArgs (top 6), defBody (top 6), defScope (top 6), [], []⟩, ⟨("is_side", none), "is_side", "is_side", defArgs (top 21), defBody (top 21), defScope (top 21), [], []⟩, ⟨("bound_checks", none), "bound_checks", "bound_checks", defArgs (top 24), defBody (top 24), defScope (top 24), [], []⟩, ⟨("is_kind", none), "is_kind", "is_kind", defArgs (top 7), defBody (top 7), defScope (top 7), [], []⟩, ⟨("clause_checks", none), "clause_checks", "clause_checks", defArgs (top 25), defBody (top 25), defScope (top 25), [], []⟩, ⟨("gap_checks", none), "gap_checks", "gap_checks", defArgs (top 23), defBody (top 23), defScope (top 23), [], []⟩, ⟨("telling_checks", none), "telling_checks", "telling_checks", defArgs (top 22), defBody (top 22), defScope (top 22), [], []⟩, ⟨("checks", none), "checks", "checks", defArgs (top 26), defBody (top 26), defScope (top 26), [], []⟩, ⟨("is_row", none), "is_row", "is_row", defArgs (top 9), defBody (top 9), defScope (top 9), [], []⟩, ⟨("check_part", none), "check_part", "check_part", defArgs (top 27), defBody (top 27), defScope (top 27), [], []⟩, ⟨("Book", some "__init__"), "__init__", "Book.__init__", defArgs (inClass (top 28) 0), defBody (inClass (top 28) 0), defScope (inClass (top 28) 0), [.adr (He.dflAt ("Book", some "__init__") 0), .adr (He.dflAt ("Book", some "__init__") 1), .adr (He.dflAt ("Book", some "__init__") 2), .adr (He.dflAt ("Book", some "__init__") 3)], []⟩, ⟨("_law_one", none), "_law_one", "_law_one", defArgs (top 32), defBody (top 32), defScope (top 32), [], []⟩, ⟨("_law_value", none), "_law_value", "_law_value", defArgs (top 33), defBody (top 33), defScope (top 33), [], []⟩]
def fn1 : List He.DefD := [⟨("contrary", none), "contrary", "contrary", defArgs (top 10), defBody (top 10), defScope (top 10), [], []⟩, ⟨("turned_literal", none), "turned_literal", "turned_literal", defArgs (top 11), defBody (top 11), defScope (top 11), [], []⟩, ⟨("law", none), "law", "law", defArgs (top 34), defBody (top 34), defScope (top 34), [], []⟩]
def fn : List He.DefD := fn0 ++ fn1
def fa0 : List He.Fa := [.free "abs", .free "len", .free "int", .noat "Wrong" "place", .noat "BadItem" "place", .noat "BadItem" "index", .noat "TooMany" "limit", .free "bool", .free "isinstance", .glo "is_integer", .free "str", .glo "is_number", .glo "is_side", .glo "is_index", .glo "is_kind", .glo "telling_checks", .glo "gap_checks", .glo "bound_checks", .glo "clause_checks", .free "tuple"]
def fa1 : List He.Fa := [.glo "TooMany", .free "enumerate", .glo "checks", .free "all", .glo "is_row", .glo "BadItem", .glo "Wrong", .free "list", .glo "check_part", .noat "Book" "events", .noat "Book" "witnesses", .noat "Book" "tellings", .noat "Book" "gaps", .noat "Book" "sure", .noat "Book" "clauses", .glo "_law_take", .mkr "Book", .glo "Book", .glo "_law_one", .glo "contrary"]
def fa2 : List He.Fa := [.glo "_law_bag", .free "range", .glo "_law_value", .free "repr", .glo "turned_literal", .glo "law"]
def fa : List He.Fa := fa0 ++ fa1 ++ fa2
def ex0 : List (KF → Bool) := [fun K => oexB K "Wrong", fun K => oexB K "BadItem", fun K => oexB K "TooMany", fun K => icsB K ["Book"], fun K => cstB K "GREATEST" (.int (1000000000000000)), fun K => cstB K "SIDES" (.tup [.str "least", .str "most"]), fun K => cstB K "LATE" (.str "late"), fun K => cstB K "EARLY" (.str "early"), fun K => cstB K "ITEMS" (.int 24), fun K => oxiB K "TooMany", fun K => oxiB K "BadItem", fun K => cstB K "SIZE" (.int 8), fun K => oxiB K "Wrong", fun K => icB K "Book", fun K => dflB K ("Book", some "__init__") 3 (.tup []), fun K => dflB K ("Book", some "__init__") 2 (.tup []), fun K => dflB K ("Book", some "__init__") 1 (.tup []), fun K => dflB K ("Book", some "__init__") 0 (.tup [])]
def ex : List (KF → Bool) := ex0
def loose0 : List Str := ["_wall", "EARLY", "LATE", "GREATEST", "is_integer", "is_number", "is_kind", "is_index", "is_row", "contrary", "turned_literal", "CaseError", "Wrong", "BadItem", "TooMany", "SIZE", "ITEMS", "SIDES", "is_side", "telling_checks"]
def loose1 : List Str := ["gap_checks", "bound_checks", "clause_checks", "checks", "check_part", "Book", "_law_bag", "_law_take", "_law_one", "_law_value"]
def loose : List Str := loose0 ++ loose1
def g_law_bag : G := (retS (own1 (conM (ret (.int 0)) (conM (ret (.int 1234567891)) (conM (ret (.int 0)) (conM (shM (compM (seqI (slM (rd 0) (ret none) (ixp (ret (.int 63))))) (putE 1) (ret true) (cbM absD (conM (rd 1) (ret []))) [1])) (ret [])))))))
def m_law_bag : Fm := runG 2 g_law_bag
theorem ok_law_bag {P : Program} {w : World} {base : Heap} {K : KF} {mg : Str → Option Value} (o : Md3 fa fn ex K mg) : ∃ fd, FnG P w K mg base 1 (He.fAd K ("_law_bag", none)) fd ["_law_script"] (spD K 1 [] m_law_bag) ∧ PySem.W.keepIn K (.ref (He.fAd K ("_law_bag", none))) = true ∧ Binds K fd ["_law_script"] [] := by
  obtain ⟨fd, F⟩ := o.sd.def_ 0 rfl
  have sc : FnScope ["_law_script", "_law_cell"] ["_law_script"] (defScope (top 30)) := ⟨rfl, rfl, rfl, by decide +kernel, rfl, by decide +kernel, by decide +kernel⟩
  refine ⟨fd, fn_d F sc rfl fun cdv A outer s H E hr hgd => ?_, F.kp, F.bindsN fun _ _ _ _ _ _ us hl => match us, hl with | [_], _ => rfl⟩
  have hu := hr.units
  have hu2 := room65 hr
  exact (pd_one (pd_ret (po_lst (pl_cons pp_int (pl_cons pp_int (pl_cons pp_int (pl_cons (pp_of (po_lc (own := [("_law_cell", 1)]) rfl sc.nd (it_seq (pp_slice (pp_var 0) part_none (part_some pp_int))) (blkOk_by (N := ["_law_script", "_law_cell"]) (sc := defScope (top 30)) (by decide +kernel)) (by decide) (fun _ => (tw_name sc.nd rfl (by first | exact Or.inl rfl | exact Or.inr rfl) rfl (by decide))) (fun _ => pcs_nil) (fun _ => (pp_callB call_abs cd_abs rfl (o.free 0) rfl (pl_cons (pp_var 1) pl_nil))))) pl_nil)))))))
def g_law_take : G := (then_ (andS (lookB (cmB eqD (opM ixD (rd 0) (ret (.int 0))) (ret (.int 0)))) fun k => if k = true then (then_ (setS 2 (sh1 (ret (.int 0)))) (then_ (andS (lookB (cmB ltD (opM ixD (rd 0) (ret (.int 2))) (cbM (one lenD) (conM (opM ixD (rd 0) (ret (.int 3))) (ret []))))) fun k => if k = true then (setS 2 (sh1 (look (opM ixD (opM ixD (rd 0) (ret (.int 3))) (opM ixD (rd 0) (ret (.int 2))))))) else done) (then_ (augIxS 0 (ipD fun i j => i + j) (ret (.int 2)) (ret (.int 1))) (then_ (andS (cmB geD (rd 2) (ret (.int 1000000000000000000))) fun k => if k = true then (setIxS 0 (rd 2) (ret (.int 0))) else done) (then_ (setS 3 (sh1 (look (opM addD (opM addD (opM mulD (opM ixD (rd 0) (ret (.int 1))) (ret (.int 48271))) (opM modD (cbM intD (conM (rd 2) (ret []))) (ret (.int 2147483647)))) (opM mulD (ret (.int 7919)) (opM ixD (rd 0) (ret (.int 2)))))))) (setIxS 0 (opM modD (cbM intD (conM (rd 3) (ret []))) (ret (.int 2147483647))) (ret (.int 1)))))))) else done) (then_ (andS (lookB (cmB gtD (opM ixD (rd 0) (ret (.int 0))) (ret (.int 0)))) fun k => if k = true then (then_ (setS 4 (sh1 (look (opM modD (cbM intD (conM (opM ixD (rd 0) (ret (.int 0))) (ret []))) (rd 1))))) (then_ (setIxS 0 (look (opM divD (cbM intD (conM (opM ixD (rd 0) (ret (.int 0))) (ret []))) (rd 1))) (ret (.int 0))) (retS (sh1 (rd 4))))) else done) (then_ (setS 5 (sh1 (look (opM modD (cbM intD (conM (opM mulD (opM addD (opM ixD (rd 0) (ret (.int 1))) (ret (.int 1))) (ret (.int 39373))) (ret []))) (ret (.int 1000000007)))))) (then_ (setS 6 (sh1 (opM modD (cbM intD (conM (opM mulD (opM modD (cbM intD (conM (opM mulD (rd 5) (rd 5)) (ret []))) (ret (.int 998244353))) (ret (.int 30011))) (ret []))) (ret (.int 998244353))))) (retS (sh1 (opM modD (cbM intD (conM (opM divD (rd 6) (ret (.int 7))) (ret []))) (rd 1))))))))
def m_law_take : Fm := runG 7 g_law_take
theorem ok_law_take {P : Program} {w : World} {base : Heap} {K : KF} {mg : Str → Option Value} (o : Md3 fa fn ex K mg) : ∃ fd, FnG P w K mg base 1 (He.fAd K ("_law_take", none)) fd ["_law_bag_here", "_law_many"] (spD K 2 [0] m_law_take) ∧ PySem.W.keepIn K (.ref (He.fAd K ("_law_take", none))) = true ∧ Binds K fd ["_law_bag_here", "_law_many"] [] := by
  obtain ⟨fd, F⟩ := o.sd.def_ 1 rfl
  have sc : FnScope ["_law_bag_here", "_law_many", "_law_cell", "_law_mixed", "_law_drawn", "_law_early", "_law_second"] ["_law_bag_here", "_law_many"] (defScope (top 31)) := ⟨rfl, rfl, rfl, by decide +kernel, rfl, by decide +kernel, by decide +kernel⟩
  refine ⟨fd, fn_d F sc rfl fun cdv A outer s H E hr hgd => ?_, F.kp, F.bindsN fun _ _ _ _ _ _ us hl => match us, hl with | [_, _], _ => rfl⟩
  have hu := hr.units
  have hu2 := room65 hr
  exact (pd_cons (pd_if (pb_look (pb_cmp (op_eqA hu) opd_eq (pp_ix (pp_var 0) pp_int) pp_int rfl)) (pd_cons (pd_set sc.nd rfl (by first | exact Or.inl rfl | exact Or.inr rfl) rfl (po_sh pp_int)) (pd_cons (pd_if (pb_look (pb_cmp op_lt (opd_cmp _) (pp_ix (pp_var 0) pp_int) (pp_callB call_len cd_len rfl (o.free 1) rfl (pl_cons (pp_ix (pp_var 0) pp_int) pl_nil)) rfl)) (pd_one (pd_set sc.nd rfl (by first | exact Or.inl rfl | exact Or.inr rfl) rfl (po_sh (pp_look (pp_ix (pp_ix (pp_var 0) pp_int) (pp_ix (pp_var 0) pp_int)))))) pd_nil) (pd_cons (pd_augix 0 rfl ip_add (opd_ip _) pp_int pp_int) (pd_cons (pd_if (pb_cmp op_ge (opd_cmp _) (pp_var 2) pp_int rfl) (pd_one (pd_setix 0 rfl (pp_var 2) pp_int)) pd_nil) (pd_cons (pd_set sc.nd rfl (by first | exact Or.inl rfl | exact Or.inr rfl) rfl (po_sh (pp_look (pp_op op_addA opd_add (pp_op op_addA opd_add (pp_op op_mulA opd_mul (pp_ix (pp_var 0) pp_int) pp_int) (pp_op op_mod opd_mod (pp_callT call_int1 cd_int rfl (o.free 2) rfl (pl_cons (pp_var 2) pl_nil)) pp_int)) (pp_op op_mulA opd_mul pp_int (pp_ix (pp_var 0) pp_int)))))) (pd_one (pd_setix 0 rfl (pp_op op_mod opd_mod (pp_callT call_int1 cd_int rfl (o.free 2) rfl (pl_cons (pp_var 3) pl_nil)) pp_int) pp_int))))))) pd_nil) (pd_cons (pd_if (pb_look (pb_cmp op_gt (opd_cmp _) (pp_ix (pp_var 0) pp_int) pp_int rfl)) (pd_cons (pd_set sc.nd rfl (by first | exact Or.inl rfl | exact Or.inr rfl) rfl (po_sh (pp_look (pp_op op_mod opd_mod (pp_callT call_int1 cd_int rfl (o.free 2) rfl (pl_cons (pp_ix (pp_var 0) pp_int) pl_nil)) (pp_var 1))))) (pd_cons (pd_setix 0 rfl (pp_look (pp_op op_fdiv opd_div (pp_callT call_int1 cd_int rfl (o.free 2) rfl (pl_cons (pp_ix (pp_var 0) pp_int) pl_nil)) (pp_var 1))) pp_int) (pd_one (pd_ret (po_sh (pp_var 4)))))) pd_nil) (pd_cons (pd_set sc.nd rfl (by first | exact Or.inl rfl | exact Or.inr rfl) rfl (po_sh (pp_look (pp_op op_mod opd_mod (pp_callT call_int1 cd_int rfl (o.free 2) rfl (pl_cons (pp_op op_mulA opd_mul (pp_op op_addA opd_add (pp_ix (pp_var 0) pp_int) pp_int) pp_int) pl_nil)) pp_int)))) (pd_cons (pd_set sc.nd rfl (by first | exact Or.inl rfl | exact Or.inr rfl) rfl (po_sh (pp_op op_mod opd_mod (pp_callT call_int1 cd_int rfl (o.free 2) rfl (pl_cons (pp_op op_mulA opd_mul (pp_op op_mod opd_mod (pp_callT call_int1 cd_int rfl (o.free 2) rfl (pl_cons (pp_op op_mulA opd_mul (pp_var 5) (pp_var 5)) pl_nil)) pp_int) pp_int) pl_nil)) pp_int))) (pd_one (pd_ret (po_sh (pp_op op_mod opd_mod (pp_callT call_int1 cd_int rfl (o.free 2) rfl (pl_cons (pp_op op_fdiv opd_div (pp_var 6) pp_int) pl_nil)) (pp_var 1)))))))))
theorem ok_Wrong_init {P : Program} {w : World} {base : Heap} {K : KF} {mg : Str → Option Value} (o : Md3 fa fn ex K mg) : ∃ fd, FnOk P w K mg base (L2.CX P w) 1 (He.fAd K ("Wrong", some "__init__")) fd ["self", "place"] (spX K "Wrong" ["place"]) ∧ Binds K fd ["self", "place"] [] ∧ True := by
  obtain ⟨fd, F⟩ := o.sd.def_ 2 rfl
  exact ⟨fd, fn_x1 F ⟨rfl, rfl, rfl, by decide +kernel, rfl, by decide +kernel, by decide +kernel⟩ (oexB_ok (o.x 0)) (He.noat_ok (o.sd.fact 3 rfl)) rfl rfl, F.bindsN fun _ _ _ _ _ _ us hl => match us, hl with | [_, _], _ => rfl, True.intro⟩
theorem ok_BadItem_init {P : Program} {w : World} {base : Heap} {K : KF} {mg : Str → Option Value} (o : Md3 fa fn ex K mg) : ∃ fd, FnOk P w K mg base (L2.CX P w) 1 (He.fAd K ("BadItem", some "__init__")) fd ["self", "place", "index"] (spX K "BadItem" ["place", "index"]) ∧ Binds K fd ["self", "place", "index"] [] ∧ True := by
  obtain ⟨fd, F⟩ := o.sd.def_ 3 rfl
  exact ⟨fd, fn_x2 F ⟨rfl, rfl, rfl, by decide +kernel, rfl, by decide +kernel, by decide +kernel⟩ (oexB_ok (o.x 1)) (He.noat_ok (o.sd.fact 4 rfl)) (He.noat_ok (o.sd.fact 5 rfl)) rfl rfl rfl, F.bindsN fun _ _ _ _ _ _ us hl => match us, hl with | [_, _, _], _ => rfl, True.intro⟩
theorem ok_TooMany_init {P : Program} {w : World} {base : Heap} {K : KF} {mg : Str → Option Value} (o : Md3 fa fn ex K mg) : ∃ fd, FnOk P w K mg base (L2.CX P w) 1 (He.fAd K ("TooMany", some "__init__")) fd ["self", "limit"] (spX K "TooMany" ["limit"]) ∧ Binds K fd ["self", "limit"] [] ∧ True := by
  obtain ⟨fd, F⟩ := o.sd.def_ 4 rfl
  exact ⟨fd, fn_x1 F ⟨rfl, rfl, rfl, by decide +kernel, rfl, by decide +kernel, by decide +kernel⟩ (oexB_ok (o.x 2)) (He.noat_ok (o.sd.fact 6 rfl)) rfl rfl, F.bindsN fun _ _ _ _ _ _ us hl => match us, hl with | [_, _], _ => rfl, True.intro⟩
def g_is_integer : G := (retS (sh1 (andV (cbM (isiD ["Book"]) (conM (rd 0) (conM (ret (.ty "int")) (ret [])))) (notV (cbM (isiD ["Book"]) (conM (rd 0) (conM (ret (.ty "bool")) (ret []))))))))
def m_is_integer : Fm := runG 1 g_is_integer
theorem ok_is_integer {P : Program} {w : World} {base : Heap} {K : KF} {mg : Str → Option Value} (o : Md3 fa fn ex K mg) : ∃ fd, FnG P w K mg base 1 (He.fAd K ("is_integer", none)) fd ["thing"] (spD K 1 [] m_is_integer) ∧ PySem.W.keepIn K (.ref (He.fAd K ("is_integer", none))) = true ∧ Binds K fd ["thing"] [] := by
  obtain ⟨fd, F⟩ := o.sd.def_ 5 rfl
  have sc : FnScope ["thing"] ["thing"] (defScope (top 5)) := ⟨rfl, rfl, rfl, by decide +kernel, rfl, by decide +kernel, by decide +kernel⟩
  refine ⟨fd, fn_d F sc rfl fun cdv A outer s H E hr hgd => ?_, F.kp, F.bindsN fun _ _ _ _ _ _ us hl => match us, hl with | [_], _ => rfl⟩
  have hu := hr.units
  have hu2 := room65 hr
  exact (pd_one (pd_ret (po_sh (pp_and (pp_callB call_isi (cd_isi (icsB_ok (o.x 3))) rfl (o.free 8) rfl (pl_cons (pp_var 0) (pl_cons (pp_c (pe_bltn (v := .ty "int") (u := .type "int") rfl (o.free 2) rfl rfl) (fun _ => .ty "int")) pl_nil))) (pp_one (pp_not (pp_callB call_isi (cd_isi (icsB_ok (o.x 3))) rfl (o.free 8) rfl (pl_cons (pp_var 0) (pl_cons (pp_c (pe_bltn (v := .ty "bool") (u := .type "bool") rfl (o.free 7) rfl rfl) (fun _ => .ty "bool")) pl_nil)))))))))
def g_is_index : G := (retS (sh1 (andV (shM (calM m_is_integer [none] [] (conM (rd 0) (ret [])))) (chM leD ltD (ret (.int 0)) (rd 0) (rd 1)))))
def m_is_index : Fm := runG 2 g_is_index
theorem ok_is_index {P : Program} {w : World} {base : Heap} {K : KF} {mg : Str → Option Value} (o : Md3 fa fn ex K mg) : ∃ fd, FnG P w K mg base 2 (He.fAd K ("is_index", none)) fd ["thing", "many"] (spD K 2 [] m_is_index) ∧ PySem.W.keepIn K (.ref (He.fAd K ("is_index", none))) = true ∧ Binds K fd ["thing", "many"] [] := by
  obtain ⟨fd, F⟩ := o.sd.def_ 6 rfl
  obtain ⟨fd_is_integer, F_is_integer, kp_is_integer, bd_is_integer⟩ := ok_is_integer (P := P) (w := w) (base := base) o
  have sc : FnScope ["thing", "many"] ["thing", "many"] (defScope (top 8)) := ⟨rfl, rfl, rfl, by decide +kernel, rfl, by decide +kernel, by decide +kernel⟩
  refine ⟨fd, fn_d F sc rfl fun cdv A outer s H E hr hgd => ?_, F.kp, F.bindsN fun _ _ _ _ _ _ us hl => match us, hl with | [_, _], _ => rfl⟩
  have hu := hr.units
  have hu2 := room65 hr
  exact (pd_one (pd_ret (po_sh (pp_and (pp_of (po_call F_is_integer (hr.mono (by decide)) hgd rfl (o.glo 9) kp_is_integer bd_is_integer .nil (fun _ => .nil) (takes_of rfl rfl rfl rfl) (plm_sh (pp_var 0) plm_nil))) (pp_one (pp_chain op_le (opd_cmp _) op_lt (opd_cmp _) pp_int (pp_var 0) (pp_var 1)))))))
def g_is_number : G := (retS (sh1 (andV (shM (calM m_is_integer [none] [] (conM (rd 0) (ret [])))) (chM leD leD (unM negD (ret (.int (1000000000000000)))) (rd 0) (ret (.int (1000000000000000)))))))
def m_is_number : Fm := runG 1 g_is_number
theorem ok_is_number {P : Program} {w : World} {base : Heap} {K : KF} {mg : Str → Option Value} (o : Md3 fa fn ex K mg) : ∃ fd, FnG P w K mg base 2 (He.fAd K ("is_number", none)) fd ["thing"] (spD K 1 [] m_is_number) ∧ PySem.W.keepIn K (.ref (He.fAd K ("is_number", none))) = true ∧ Binds K fd ["thing"] [] := by
  obtain ⟨fd, F⟩ := o.sd.def_ 7 rfl
  obtain ⟨fd_is_integer, F_is_integer, kp_is_integer, bd_is_integer⟩ := ok_is_integer (P := P) (w := w) (base := base) o
  obtain ⟨v_GREATEST, u_GREATEST, m_GREATEST, r_GREATEST, p_GREATEST⟩ := o.cst (o.x 4)
  have sc : FnScope ["thing"] ["thing"] (defScope (top 6)) := ⟨rfl, rfl, rfl, by decide +kernel, rfl, by decide +kernel, by decide +kernel⟩
  refine ⟨fd, fn_d F sc rfl fun cdv A outer s H E hr hgd => ?_, F.kp, F.bindsN fun _ _ _ _ _ _ us hl => match us, hl with | [_], _ => rfl⟩
  have hu := hr.units
  have hu2 := room65 hr
  exact (pd_one (pd_ret (po_sh (pp_and (pp_of (po_call F_is_integer (hr.mono (by decide)) hgd rfl (o.glo 9) kp_is_integer bd_is_integer .nil (fun _ => .nil) (takes_of rfl rfl rfl rfl) (plm_sh (pp_var 0) plm_nil))) (pp_one (pp_chain op_le (opd_cmp _) op_le (opd_cmp _) (pp_un un_neg und_neg (pp_glob rfl m_GREATEST r_GREATEST p_GREATEST)) (pp_var 0) (pp_glob rfl m_GREATEST r_GREATEST p_GREATEST)))))))
def g_is_side : G := (retS (sh1 (andV (cbM (isiD ["Book"]) (conM (rd 0) (conM (ret (.ty "str")) (ret [])))) (opM inD (rd 0) (ret (.tup [.str "least", .str "most"]))))))
def m_is_side : Fm := runG 1 g_is_side
theorem ok_is_side {P : Program} {w : World} {base : Heap} {K : KF} {mg : Str → Option Value} (o : Md3 fa fn ex K mg) : ∃ fd, FnG P w K mg base 1 (He.fAd K ("is_side", none)) fd ["thing"] (spD K 1 [] m_is_side) ∧ PySem.W.keepIn K (.ref (He.fAd K ("is_side", none))) = true ∧ Binds K fd ["thing"] [] := by
  obtain ⟨fd, F⟩ := o.sd.def_ 8 rfl
  obtain ⟨v_SIDES, u_SIDES, m_SIDES, r_SIDES, p_SIDES⟩ := o.cst (o.x 5)
  have sc : FnScope ["thing"] ["thing"] (defScope (top 21)) := ⟨rfl, rfl, rfl, by decide +kernel, rfl, by decide +kernel, by decide +kernel⟩
  refine ⟨fd, fn_d F sc rfl fun cdv A outer s H E hr hgd => ?_, F.kp, F.bindsN fun _ _ _ _ _ _ us hl => match us, hl with | [_], _ => rfl⟩
  have hu := hr.units
  have hu2 := room65 hr
  exact (pd_one (pd_ret (po_sh (pp_and (pp_callB call_isi (cd_isi (icsB_ok (o.x 3))) rfl (o.free 8) rfl (pl_cons (pp_var 0) (pl_cons (pp_c (pe_bltn (v := .ty "str") (u := .type "str") rfl (o.free 10) rfl rfl) (fun _ => .ty "str")) pl_nil))) (pp_one (pp_cmp (op_inA hu2) opd_in (pp_var 0) (pp_glob rfl m_SIDES r_SIDES p_SIDES) rfl))))))
def g_bound_checks : G := (retS (own1 (conM (shM (calM m_is_index [none, none] [] (conM (opM ixD (rd 1) (ret (.int 0))) (conM (rd 0) (ret []))))) (conM (shM (calM m_is_side [none] [] (conM (opM ixD (rd 1) (ret (.int 1))) (ret [])))) (conM (shM (calM m_is_number [none] [] (conM (opM ixD (rd 1) (ret (.int 2))) (ret [])))) (ret []))))))
def m_bound_checks : Fm := runG 2 g_bound_checks
theorem ok_bound_checks {P : Program} {w : World} {base : Heap} {K : KF} {mg : Str → Option Value} (o : Md3 fa fn ex K mg) : ∃ fd, FnG P w K mg base 3 (He.fAd K ("bound_checks", none)) fd ["events", "item"] (spD K 2 [] m_bound_checks) ∧ PySem.W.keepIn K (.ref (He.fAd K ("bound_checks", none))) = true ∧ Binds K fd ["events", "item"] [] := by
  obtain ⟨fd, F⟩ := o.sd.def_ 9 rfl
  obtain ⟨fd_is_index, F_is_index, kp_is_index, bd_is_index⟩ := ok_is_index (P := P) (w := w) (base := base) o
  obtain ⟨fd_is_number, F_is_number, kp_is_number, bd_is_number⟩ := ok_is_number (P := P) (w := w) (base := base) o
  obtain ⟨fd_is_side, F_is_side, kp_is_side, bd_is_side⟩ := ok_is_side (P := P) (w := w) (base := base) o
  have sc : FnScope ["events", "item"] ["events", "item"] (defScope (top 24)) := ⟨rfl, rfl, rfl, by decide +kernel, rfl, by decide +kernel, by decide +kernel⟩
  refine ⟨fd, fn_d F sc rfl fun cdv A outer s H E hr hgd => ?_, F.kp, F.bindsN fun _ _ _ _ _ _ us hl => match us, hl with | [_, _], _ => rfl⟩
  have hu := hr.units
  have hu2 := room65 hr
  exact (pd_one (pd_ret (po_lst (pl_cons (pp_of (po_call F_is_index (hr.mono (by decide)) hgd rfl (o.glo 13) kp_is_index bd_is_index .nil (fun _ => .nil) (takes_of rfl rfl rfl rfl) (plm_sh (pp_ix (pp_var 1) pp_int) (plm_sh (pp_var 0) plm_nil)))) (pl_cons (pp_of (po_call F_is_side (hr.mono (by decide)) hgd rfl (o.glo 12) kp_is_side bd_is_side .nil (fun _ => .nil) (takes_of rfl rfl rfl rfl) (plm_sh (pp_ix (pp_var 1) pp_int) plm_nil))) (pl_cons (pp_of (po_call F_is_number (hr.mono (by decide)) hgd rfl (o.glo 11) kp_is_number bd_is_number .nil (fun _ => .nil) (takes_of rfl rfl rfl rfl) (plm_sh (pp_ix (pp_var 1) pp_int) plm_nil))) pl_nil))))))
def g_is_kind : G := (retS (sh1 (andV (cbM (isiD ["Book"]) (conM (rd 0) (conM (ret (.ty "str")) (ret [])))) (opM inD (rd 0) (tupM (conM (ret (.str "early")) (conM (ret (.str "late")) (ret []))))))))
def m_is_kind : Fm := runG 1 g_is_kind
theorem ok_is_kind {P : Program} {w : World} {base : Heap} {K : KF} {mg : Str → Option Value} (o : Md3 fa fn ex K mg) : ∃ fd, FnG P w K mg base 1 (He.fAd K ("is_kind", none)) fd ["thing"] (spD K 1 [] m_is_kind) ∧ PySem.W.keepIn K (.ref (He.fAd K ("is_kind", none))) = true ∧ Binds K fd ["thing"] [] := by
  obtain ⟨fd, F⟩ := o.sd.def_ 10 rfl
  obtain ⟨v_EARLY, u_EARLY, m_EARLY, r_EARLY, p_EARLY⟩ := o.cst (o.x 7)
  obtain ⟨v_LATE, u_LATE, m_LATE, r_LATE, p_LATE⟩ := o.cst (o.x 6)
  have sc : FnScope ["thing"] ["thing"] (defScope (top 7)) := ⟨rfl, rfl, rfl, by decide +kernel, rfl, by decide +kernel, by decide +kernel⟩
  refine ⟨fd, fn_d F sc rfl fun cdv A outer s H E hr hgd => ?_, F.kp, F.bindsN fun _ _ _ _ _ _ us hl => match us, hl with | [_], _ => rfl⟩
  have hu := hr.units
  have hu2 := room65 hr
  exact (pd_one (pd_ret (po_sh (pp_and (pp_callB call_isi (cd_isi (icsB_ok (o.x 3))) rfl (o.free 8) rfl (pl_cons (pp_var 0) (pl_cons (pp_c (pe_bltn (v := .ty "str") (u := .type "str") rfl (o.free 10) rfl rfl) (fun _ => .ty "str")) pl_nil))) (pp_one (pp_cmp (op_inA hu2) opd_in (pp_var 0) (pp_tup (pl_cons (pp_glob rfl m_EARLY r_EARLY p_EARLY) (pl_cons (pp_glob rfl m_LATE r_LATE p_LATE) pl_nil))) rfl))))))
def g_clause_checks : G := (retS (own1 (conM (shM (calM m_is_index [none, none] [] (conM (opM ixD (rd 1) (ret (.int 0))) (conM (rd 0) (ret []))))) (conM (shM (calM m_is_kind [none] [] (conM (opM ixD (rd 1) (ret (.int 1))) (ret [])))) (conM (shM (calM m_is_index [none, none] [] (conM (opM ixD (rd 1) (ret (.int 2))) (conM (rd 0) (ret []))))) (conM (shM (calM m_is_kind [none] [] (conM (opM ixD (rd 1) (ret (.int 3))) (ret [])))) (ret [])))))))
def m_clause_checks : Fm := runG 2 g_clause_checks
theorem ok_clause_checks {P : Program} {w : World} {base : Heap} {K : KF} {mg : Str → Option Value} (o : Md3 fa fn ex K mg) : ∃ fd, FnG P w K mg base 3 (He.fAd K ("clause_checks", none)) fd ["witnesses", "item"] (spD K 2 [] m_clause_checks) ∧ PySem.W.keepIn K (.ref (He.fAd K ("clause_checks", none))) = true ∧ Binds K fd ["witnesses", "item"] [] := by
  obtain ⟨fd, F⟩ := o.sd.def_ 11 rfl
  obtain ⟨fd_is_index, F_is_index, kp_is_index, bd_is_index⟩ := ok_is_index (P := P) (w := w) (base := base) o
  obtain ⟨fd_is_kind, F_is_kind, kp_is_kind, bd_is_kind⟩ := ok_is_kind (P := P) (w := w) (base := base) o
  have sc : FnScope ["witnesses", "item"] ["witnesses", "item"] (defScope (top 25)) := ⟨rfl, rfl, rfl, by decide +kernel, rfl, by decide +kernel, by decide +kernel⟩
  refine ⟨fd, fn_d F sc rfl fun cdv A outer s H E hr hgd => ?_, F.kp, F.bindsN fun _ _ _ _ _ _ us hl => match us, hl with | [_, _], _ => rfl⟩
  have hu := hr.units
  have hu2 := room65 hr
  exact (pd_one (pd_ret (po_lst (pl_cons (pp_of (po_call F_is_index (hr.mono (by decide)) hgd rfl (o.glo 13) kp_is_index bd_is_index .nil (fun _ => .nil) (takes_of rfl rfl rfl rfl) (plm_sh (pp_ix (pp_var 1) pp_int) (plm_sh (pp_var 0) plm_nil)))) (pl_cons (pp_of (po_call F_is_kind (hr.mono (by decide)) hgd rfl (o.glo 14) kp_is_kind bd_is_kind .nil (fun _ => .nil) (takes_of rfl rfl rfl rfl) (plm_sh (pp_ix (pp_var 1) pp_int) plm_nil))) (pl_cons (pp_of (po_call F_is_index (hr.mono (by decide)) hgd rfl (o.glo 13) kp_is_index bd_is_index .nil (fun _ => .nil) (takes_of rfl rfl rfl rfl) (plm_sh (pp_ix (pp_var 1) pp_int) (plm_sh (pp_var 0) plm_nil)))) (pl_cons (pp_of (po_call F_is_kind (hr.mono (by decide)) hgd rfl (o.glo 14) kp_is_kind bd_is_kind .nil (fun _ => .nil) (takes_of rfl rfl rfl rfl) (plm_sh (pp_ix (pp_var 1) pp_int) plm_nil))) pl_nil)))))))
def g_gap_checks : G := (then_ (setS 2 (sh1 (shM (calM m_is_index [none, none] [] (conM (opM ixD (rd 1) (ret (.int 0))) (conM (rd 0) (ret []))))))) (retS (own1 (conM (rd 2) (conM (andV (shM (calM m_is_index [none, none] [] (conM (opM ixD (rd 1) (ret (.int 1))) (conM (rd 0) (ret []))))) (notV (andV (rd 2) (opM eqD (opM ixD (rd 1) (ret (.int 0))) (opM ixD (rd 1) (ret (.int 1))))))) (conM (shM (calM m_is_number [none] [] (conM (opM ixD (rd 1) (ret (.int 2))) (ret [])))) (ret [])))))))
def m_gap_checks : Fm := runG 3 g_gap_checks
theorem ok_gap_checks {P : Program} {w : World} {base : Heap} {K : KF} {mg : Str → Option Value} (o : Md3 fa fn ex K mg) : ∃ fd, FnG P w K mg base 3 (He.fAd K ("gap_checks", none)) fd ["events", "item"] (spD K 2 [] m_gap_checks) ∧ PySem.W.keepIn K (.ref (He.fAd K ("gap_checks", none))) = true ∧ Binds K fd ["events", "item"] [] := by
  obtain ⟨fd, F⟩ := o.sd.def_ 12 rfl
  obtain ⟨fd_is_index, F_is_index, kp_is_index, bd_is_index⟩ := ok_is_index (P := P) (w := w) (base := base) o
  obtain ⟨fd_is_number, F_is_number, kp_is_number, bd_is_number⟩ := ok_is_number (P := P) (w := w) (base := base) o
  have sc : FnScope ["events", "item", "fine"] ["events", "item"] (defScope (top 23)) := ⟨rfl, rfl, rfl, by decide +kernel, rfl, by decide +kernel, by decide +kernel⟩
  refine ⟨fd, fn_d F sc rfl fun cdv A outer s H E hr hgd => ?_, F.kp, F.bindsN fun _ _ _ _ _ _ us hl => match us, hl with | [_, _], _ => rfl⟩
  have hu := hr.units
  have hu2 := room65 hr
  exact (pd_cons (pd_set sc.nd rfl (by first | exact Or.inl rfl | exact Or.inr rfl) rfl (po_sh (pp_of (po_call F_is_index (hr.mono (by decide)) hgd rfl (o.glo 13) kp_is_index bd_is_index .nil (fun _ => .nil) (takes_of rfl rfl rfl rfl) (plm_sh (pp_ix (pp_var 1) pp_int) (plm_sh (pp_var 0) plm_nil)))))) (pd_one (pd_ret (po_lst (pl_cons (pp_var 2) (pl_cons (pp_and (pp_of (po_call F_is_index (hr.mono (by decide)) hgd rfl (o.glo 13) kp_is_index bd_is_index .nil (fun _ => .nil) (takes_of rfl rfl rfl rfl) (plm_sh (pp_ix (pp_var 1) pp_int) (plm_sh (pp_var 0) plm_nil)))) (pp_one (pp_not (pp_and (pp_var 2) (pp_one (pp_cmp (op_eqA hu) opd_eq (pp_ix (pp_var 1) pp_int) (pp_ix (pp_var 1) pp_int) rfl)))))) (pl_cons (pp_of (po_call F_is_number (hr.mono (by decide)) hgd rfl (o.glo 11) kp_is_number bd_is_number .nil (fun _ => .nil) (takes_of rfl rfl rfl rfl) (plm_sh (pp_ix (pp_var 1) pp_int) plm_nil))) pl_nil)))))))
def g_telling_checks : G := (retS (own1 (conM (shM (calM m_is_index [none, none] [] (conM (opM ixD (rd 2) (ret (.int 0))) (conM (rd 1) (ret []))))) (conM (shM (calM m_is_index [none, none] [] (conM (opM ixD (rd 2) (ret (.int 1))) (conM (rd 0) (ret []))))) (conM (shM (calM m_is_number [none] [] (conM (opM ixD (rd 2) (ret (.int 2))) (ret [])))) (ret []))))))
def m_telling_checks : Fm := runG 3 g_telling_checks
theorem ok_telling_checks {P : Program} {w : World} {base : Heap} {K : KF} {mg : Str → Option Value} (o : Md3 fa fn ex K mg) : ∃ fd, FnG P w K mg base 3 (He.fAd K ("telling_checks", none)) fd ["events", "witnesses", "item"] (spD K 3 [] m_telling_checks) ∧ PySem.W.keepIn K (.ref (He.fAd K ("telling_checks", none))) = true ∧ Binds K fd ["events", "witnesses", "item"] [] := by
  obtain ⟨fd, F⟩ := o.sd.def_ 13 rfl
  obtain ⟨fd_is_index, F_is_index, kp_is_index, bd_is_index⟩ := ok_is_index (P := P) (w := w) (base := base) o
  obtain ⟨fd_is_number, F_is_number, kp_is_number, bd_is_number⟩ := ok_is_number (P := P) (w := w) (base := base) o
  have sc : FnScope ["events", "witnesses", "item"] ["events", "witnesses", "item"] (defScope (top 22)) := ⟨rfl, rfl, rfl, by decide +kernel, rfl, by decide +kernel, by decide +kernel⟩
  refine ⟨fd, fn_d F sc rfl fun cdv A outer s H E hr hgd => ?_, F.kp, F.bindsN fun _ _ _ _ _ _ us hl => match us, hl with | [_, _, _], _ => rfl⟩
  have hu := hr.units
  have hu2 := room65 hr
  exact (pd_one (pd_ret (po_lst (pl_cons (pp_of (po_call F_is_index (hr.mono (by decide)) hgd rfl (o.glo 13) kp_is_index bd_is_index .nil (fun _ => .nil) (takes_of rfl rfl rfl rfl) (plm_sh (pp_ix (pp_var 2) pp_int) (plm_sh (pp_var 1) plm_nil)))) (pl_cons (pp_of (po_call F_is_index (hr.mono (by decide)) hgd rfl (o.glo 13) kp_is_index bd_is_index .nil (fun _ => .nil) (takes_of rfl rfl rfl rfl) (plm_sh (pp_ix (pp_var 2) pp_int) (plm_sh (pp_var 0) plm_nil)))) (pl_cons (pp_of (po_call F_is_number (hr.mono (by decide)) hgd rfl (o.glo 11) kp_is_number bd_is_number .nil (fun _ => .nil) (takes_of rfl rfl rfl rfl) (plm_sh (pp_ix (pp_var 2) pp_int) plm_nil))) pl_nil))))))
def g_checks : G := (then_ (andS (cmB eqD (rd 2) (ret (.int 0))) fun k => if k = true then (retS (calM m_telling_checks [none, none, none] [] (conM (rd 0) (conM (rd 1) (conM (rd 3) (ret [])))))) else done) (then_ (andS (cmB eqD (rd 2) (ret (.int 1))) fun k => if k = true then (retS (calM m_gap_checks [none, none] [] (conM (rd 0) (conM (rd 3) (ret []))))) else done) (retS (ifM (cmB eqD (rd 2) (ret (.int 2))) (calM m_bound_checks [none, none] [] (conM (rd 0) (conM (rd 3) (ret [])))) (calM m_clause_checks [none, none] [] (conM (rd 1) (conM (rd 3) (ret []))))))))
def m_checks : Fm := runG 4 g_checks
theorem ok_checks {P : Program} {w : World} {base : Heap} {K : KF} {mg : Str → Option Value} (o : Md3 fa fn ex K mg) : ∃ fd, FnG P w K mg base 4 (He.fAd K ("checks", none)) fd ["events", "witnesses", "part", "item"] (spD K 4 [] m_checks) ∧ PySem.W.keepIn K (.ref (He.fAd K ("checks", none))) = true ∧ Binds K fd ["events", "witnesses", "part", "item"] [] := by
  obtain ⟨fd, F⟩ := o.sd.def_ 14 rfl
  obtain ⟨fd_bound_checks, F_bound_checks, kp_bound_checks, bd_bound_checks⟩ := ok_bound_checks (P := P) (w := w) (base := base) o
  obtain ⟨fd_clause_checks, F_clause_checks, kp_clause_checks, bd_clause_checks⟩ := ok_clause_checks (P := P) (w := w) (base := base) o
  obtain ⟨fd_gap_checks, F_gap_checks, kp_gap_checks, bd_gap_checks⟩ := ok_gap_checks (P := P) (w := w) (base := base) o
  obtain ⟨fd_telling_checks, F_telling_checks, kp_telling_checks, bd_telling_checks⟩ := ok_telling_checks (P := P) (w := w) (base := base) o
  have sc : FnScope ["events", "witnesses", "part", "item"] ["events", "witnesses", "part", "item"] (defScope (top 26)) := ⟨rfl, rfl, rfl, by decide +kernel, rfl, by decide +kernel, by decide +kernel⟩
  refine ⟨fd, fn_d F sc rfl fun cdv A outer s H E hr hgd => ?_, F.kp, F.bindsN fun _ _ _ _ _ _ us hl => match us, hl with | [_, _, _, _], _ => rfl⟩
  have hu := hr.units
  have hu2 := room65 hr
  exact (pd_cons (pd_if (pb_cmp (op_eqA hu) opd_eq (pp_var 2) pp_int rfl) (pd_one (pd_ret (po_call F_telling_checks (hr.mono (by decide)) hgd rfl (o.glo 15) kp_telling_checks bd_telling_checks .nil (fun _ => .nil) (takes_of rfl rfl rfl rfl) (plm_sh (pp_var 0) (plm_sh (pp_var 1) (plm_sh (pp_var 3) plm_nil)))))) pd_nil) (pd_cons (pd_if (pb_cmp (op_eqA hu) opd_eq (pp_var 2) pp_int rfl) (pd_one (pd_ret (po_call F_gap_checks (hr.mono (by decide)) hgd rfl (o.glo 16) kp_gap_checks bd_gap_checks .nil (fun _ => .nil) (takes_of rfl rfl rfl rfl) (plm_sh (pp_var 0) (plm_sh (pp_var 3) plm_nil))))) pd_nil) (pd_one (pd_ret (po_if (pb_cmp (op_eqA hu) opd_eq (pp_var 2) pp_int rfl) (po_call F_bound_checks (hr.mono (by decide)) hgd rfl (o.glo 17) kp_bound_checks bd_bound_checks .nil (fun _ => .nil) (takes_of rfl rfl rfl rfl) (plm_sh (pp_var 0) (plm_sh (pp_var 3) plm_nil))) (po_call F_clause_checks (hr.mono (by decide)) hgd rfl (o.glo 18) kp_clause_checks bd_clause_checks .nil (fun _ => .nil) (takes_of rfl rfl rfl rfl) (plm_sh (pp_var 1) (plm_sh (pp_var 3) plm_nil))))))))
def g_is_row : G := (retS (sh1 (andV (cbM (isiD ["Book"]) (conM (rd 0) (conM (ret (.ty "tuple")) (ret [])))) (opM eqD (cbM (one lenD) (conM (rd 0) (ret []))) (rd 1)))))
def m_is_row : Fm := runG 2 g_is_row
theorem ok_is_row {P : Program} {w : World} {base : Heap} {K : KF} {mg : Str → Option Value} (o : Md3 fa fn ex K mg) : ∃ fd, FnG P w K mg base 1 (He.fAd K ("is_row", none)) fd ["thing", "many"] (spD K 2 [] m_is_row) ∧ PySem.W.keepIn K (.ref (He.fAd K ("is_row", none))) = true ∧ Binds K fd ["thing", "many"] [] := by
  obtain ⟨fd, F⟩ := o.sd.def_ 15 rfl
  have sc : FnScope ["thing", "many"] ["thing", "many"] (defScope (top 9)) := ⟨rfl, rfl, rfl, by decide +kernel, rfl, by decide +kernel, by decide +kernel⟩
  refine ⟨fd, fn_d F sc rfl fun cdv A outer s H E hr hgd => ?_, F.kp, F.bindsN fun _ _ _ _ _ _ us hl => match us, hl with | [_, _], _ => rfl⟩
  have hu := hr.units
  have hu2 := room65 hr
  exact (pd_one (pd_ret (po_sh (pp_and (pp_callB call_isi (cd_isi (icsB_ok (o.x 3))) rfl (o.free 8) rfl (pl_cons (pp_var 0) (pl_cons (pp_c (pe_bltn (v := .ty "tuple") (u := .type "tuple") rfl (o.free 19) rfl rfl) (fun _ => .ty "tuple")) pl_nil))) (pp_one (pp_cmp (op_eqA hu) opd_eq (pp_callB call_len cd_len rfl (o.free 1) rfl (pl_cons (pp_var 0) pl_nil)) (pp_var 1) rfl))))))
def g_check_part : G := (then_ (andS (cmB gtD (cbM (one lenD) (conM (rd 3) (ret []))) (ret (.int 24))) fun k => if k = true then (raiseS "TooMany" ["limit"] (conM (ret (.int 24)) (ret []))) else done) (forS (enI (conM (rd 3) (ret []))) (tgT 2 (tgC (putE 4) (tgC (putE 5) tgN))) (andS (orM (notM (test (shM (calM m_is_row [none, none] [] (conM (rd 5) (conM (ifM (cmB eqD (rd 2) (ret (.int 3))) (ret (.int 4)) (ret (.int 3))) (ret []))))))) (notM (test (cbM allD (conM (shM (calM m_checks [none, none, none, none] [] (conM (rd 0) (conM (rd 1) (conM (rd 2) (conM (rd 5) (ret []))))))) (ret [])))))) fun k => if k = true then (raiseS "BadItem" ["place", "index"] (conM (opM addD (rd 2) (ret (.int 2))) (conM (rd 4) (ret [])))) else done)))
def m_check_part : Fm := runG 6 g_check_part
theorem ok_check_part {P : Program} {w : World} {base : Heap} {K : KF} {mg : Str → Option Value} (o : Md3 fa fn ex K mg) : ∃ fd, FnG P w K mg base 5 (He.fAd K ("check_part", none)) fd ["events", "witnesses", "part", "items"] (spD K 4 [] m_check_part) ∧ PySem.W.keepIn K (.ref (He.fAd K ("check_part", none))) = true ∧ Binds K fd ["events", "witnesses", "part", "items"] [] := by
  obtain ⟨fd, F⟩ := o.sd.def_ 16 rfl
  obtain ⟨fd_BadItem_init, F_BadItem_init, kp_BadItem_init, bd_BadItem_init⟩ := ok_BadItem_init (P := P) (w := w) (base := base) o
  obtain ⟨fd_TooMany_init, F_TooMany_init, kp_TooMany_init, bd_TooMany_init⟩ := ok_TooMany_init (P := P) (w := w) (base := base) o
  obtain ⟨fd_checks, F_checks, kp_checks, bd_checks⟩ := ok_checks (P := P) (w := w) (base := base) o
  obtain ⟨fd_is_row, F_is_row, kp_is_row, bd_is_row⟩ := ok_is_row (P := P) (w := w) (base := base) o
  obtain ⟨v_ITEMS, u_ITEMS, m_ITEMS, r_ITEMS, p_ITEMS⟩ := o.cst (o.x 8)
  have sc : FnScope ["events", "witnesses", "part", "items", "index", "item"] ["events", "witnesses", "part", "items"] (defScope (top 27)) := ⟨rfl, rfl, rfl, by decide +kernel, rfl, by decide +kernel, by decide +kernel⟩
  refine ⟨fd, fn_d F sc rfl fun cdv A outer s H E hr hgd => ?_, F.kp, F.bindsN fun _ _ _ _ _ _ us hl => match us, hl with | [_, _, _, _], _ => rfl⟩
  have hu := hr.units
  have hu2 := room65 hr
  exact (pd_cons (pd_if (pb_cmp op_gt (opd_cmp _) (pp_callB call_len cd_len rfl (o.free 1) rfl (pl_cons (pp_var 3) pl_nil)) (pp_glob rfl m_ITEMS r_ITEMS p_ITEMS) rfl) (pd_one (pd_raise rfl (takes_of rfl rfl rfl rfl) (oexB_ok (o.x 2)) (oxiB_ok (o.x 9)).1 (oxiB_ok (o.x 9)).2 F_TooMany_init (hr.mono (by decide)) kp_TooMany_init rfl (o.glo 20) (pl_cons (pp_glob rfl m_ITEMS r_ITEMS p_ITEMS) pl_nil))) pd_nil) (pd_one (pd_for (passes_of rfl) rfl (it_enum rfl (o.free 21) (pl_cons (pp_var 3) pl_nil)) (tg_tup rfl (tgs_cons (tg_name sc.nd rfl (by first | exact Or.inl rfl | exact Or.inr rfl) rfl) (tgs_cons (tg_name sc.nd rfl (by first | exact Or.inl rfl | exact Or.inr rfl) rfl) tgs_nil))) (pd_one (pd_if (pbw_pb (pbw_or (pb_not (pb_truth (pp_of (po_call F_is_row (hr.mono (by decide)) hgd rfl (o.glo 24) kp_is_row bd_is_row .nil (fun _ => .nil) (takes_of rfl rfl rfl rfl) (plm_sh (pp_var 5) (plm_sh (pp_if (pb_cmp (op_eqA hu) opd_eq (pp_var 2) pp_int rfl) pp_int pp_int) plm_nil)))))) (pbw_or1 (pb_not (pb_truth (pp_callB (cr_all rfl) cd_all rfl (o.free 23) rfl (pl_cons (pp_of (po_call F_checks (hr.mono (by decide)) hgd rfl (o.glo 22) kp_checks bd_checks .nil (fun _ => .nil) (takes_of rfl rfl rfl rfl) (plm_sh (pp_var 0) (plm_sh (pp_var 1) (plm_sh (pp_var 2) (plm_sh (pp_var 5) plm_nil)))))) pl_nil))))))) (pd_one (pd_raise rfl (takes_of rfl rfl rfl rfl) (oexB_ok (o.x 1)) (oxiB_ok (o.x 10)).1 (oxiB_ok (o.x 10)).2 F_BadItem_init (hr.mono (by decide)) kp_BadItem_init rfl (o.glo 25) (pl_cons (pp_op op_addA opd_add (pp_var 2) pp_int) (pl_cons (pp_var 4) pl_nil)))) pd_nil)))))
def g_Book_init : G := (then_ (forS (enI (conM (lstM (conM (rd 1) (conM (rd 2) (ret [])))) (ret []))) (tgT 2 (tgC (putE 7) (tgC (putE 8) tgN))) (andS (notM (test (shM (calM m_is_index [none, none] [] (conM (rd 8) (conM (opM addD (ret (.int 8)) (ret (.int 1))) (ret []))))))) fun k => if k = true then (raiseS "Wrong" ["place"] (conM (rd 7) (ret []))) else done)) (then_ (setS 9 (sh1 (lstM (conM (rd 3) (conM (rd 4) (conM (rd 5) (conM (rd 6) (ret [])))))))) (then_ (forS (enI (conM (rd 9) (ret []))) (tgT 2 (tgC (putE 7) (tgC (putE 10) tgN))) (andS (notM (test (isiTM ["Book"] (rd 10) (conM (ret (.ty "list")) (conM (ret (.ty "tuple")) (ret [])))))) fun k => if k = true then (raiseS "Wrong" ["place"] (conM (opM addD (rd 7) (ret (.int 2))) (ret []))) else done)) (then_ (forS (enI (conM (rd 9) (ret []))) (tgT 2 (tgC (putE 11) (tgC (putE 10) tgN))) (andS (shM (calM m_check_part [none, none, none, none] [] (conM (rd 1) (conM (rd 2) (conM (rd 11) (conM (rd 10) (ret []))))))) fun _ => done)) (then_ (fldS 0 ["Book"] "events" (rd 1)) (then_ (fldS 0 ["Book"] "witnesses" (rd 2)) (then_ (fldS 0 ["Book"] "tellings" (cbM tupleD (conM (rd 3) (ret [])))) (then_ (fldS 0 ["Book"] "gaps" (cbM tupleD (conM (rd 4) (ret [])))) (then_ (fldS 0 ["Book"] "sure" (cbM tupleD (conM (rd 5) (ret [])))) (fldS 0 ["Book"] "clauses" (cbM tupleD (conM (rd 6) (ret [])))))))))))))
def m_Book_init : Fm := runG 12 g_Book_init
theorem ok_Book_init {P : Program} {w : World} {base : Heap} {K : KF} {mg : Str → Option Value} (o : Md3 fa fn ex K mg) : ∃ fd, FnG P w K mg base 6 (He.fAd K ("Book", some "__init__")) fd ["self", "events", "witnesses", "tellings", "gaps", "sure", "clauses"] (spD K 7 [0] m_Book_init) ∧ PySem.W.keepIn K (.ref (He.fAd K ("Book", some "__init__"))) = true ∧ (∃ us, Vals [V.ref (He.dflAt ("Book", some "__init__") 0 K), V.ref (He.dflAt ("Book", some "__init__") 1 K), V.ref (He.dflAt ("Book", some "__init__") 2 K), V.ref (He.dflAt ("Book", some "__init__") 3 K)] us ∧ Binds K fd ["self", "events", "witnesses", "tellings", "gaps", "sure", "clauses"] us) := by
  obtain ⟨fd, F⟩ := o.sd.def_ 17 rfl
  obtain ⟨fd_Wrong_init, F_Wrong_init, kp_Wrong_init, bd_Wrong_init⟩ := ok_Wrong_init (P := P) (w := w) (base := base) o
  obtain ⟨fd_check_part, F_check_part, kp_check_part, bd_check_part⟩ := ok_check_part (P := P) (w := w) (base := base) o
  obtain ⟨fd_is_index, F_is_index, kp_is_index, bd_is_index⟩ := ok_is_index (P := P) (w := w) (base := base) o
  obtain ⟨v_SIZE, u_SIZE, m_SIZE, r_SIZE, p_SIZE⟩ := o.cst (o.x 11)
  have sc : FnScope ["self", "events", "witnesses", "tellings", "gaps", "sure", "clauses", "place", "size", "parts", "items", "part"] ["self", "events", "witnesses", "tellings", "gaps", "sure", "clauses"] (defScope (inClass (top 28) 0)) := ⟨rfl, rfl, rfl, by decide +kernel, rfl, by decide +kernel, by decide +kernel⟩
  refine ⟨fd, fn_d F sc rfl fun cdv A outer s H E hr hgd => ?_, F.kp, F.binds1 3 0 (by simp [He.DefD.dvs]) rfl fun _ _ _ _ _ _ _ us its h1 h2 => match us, h1, its, h2 with | [_, _, _], _, [_, _, _, _], _ => ⟨_, rfl, rfl⟩⟩
  have hu := hr.units
  have hu2 := room65 hr
  exact (pd_cons (pd_for (passes_of rfl) rfl (it_enum rfl (o.free 21) (pl_cons (pp_lst (pl_cons (pp_var 1) (pl_cons (pp_var 2) pl_nil))) pl_nil)) (tg_tup rfl (tgs_cons (tg_name sc.nd rfl (by first | exact Or.inl rfl | exact Or.inr rfl) rfl) (tgs_cons (tg_name sc.nd rfl (by first | exact Or.inl rfl | exact Or.inr rfl) rfl) tgs_nil))) (pd_one (pd_if (pb_not (pb_truth (pp_of (po_call F_is_index (hr.mono (by decide)) hgd rfl (o.glo 13) kp_is_index bd_is_index .nil (fun _ => .nil) (takes_of rfl rfl rfl rfl) (plm_sh (pp_var 8) (plm_sh (pp_op op_addA opd_add (pp_glob rfl m_SIZE r_SIZE p_SIZE) pp_int) plm_nil)))))) (pd_one (pd_raise rfl (takes_of rfl rfl rfl rfl) (oexB_ok (o.x 0)) (oxiB_ok (o.x 12)).1 (oxiB_ok (o.x 12)).2 F_Wrong_init (hr.mono (by decide)) kp_Wrong_init rfl (o.glo 26) (pl_cons (pp_var 7) pl_nil))) pd_nil))) (pd_cons (pd_set sc.nd rfl (by first | exact Or.inl rfl | exact Or.inr rfl) rfl (po_sh (pp_lst (pl_cons (pp_var 3) (pl_cons (pp_var 4) (pl_cons (pp_var 5) (pl_cons (pp_var 6) pl_nil))))))) (pd_cons (pd_for (passes_of rfl) rfl (it_enum rfl (o.free 21) (pl_cons (pp_var 9) pl_nil)) (tg_tup rfl (tgs_cons (tg_name sc.nd rfl (by first | exact Or.inl rfl | exact Or.inr rfl) rfl) (tgs_cons (tg_name sc.nd rfl (by first | exact Or.inl rfl | exact Or.inr rfl) rfl) tgs_nil))) (pd_one (pd_if (pb_not (pb_truth (pp_isiT (icsB_ok (o.x 3)) rfl (o.free 8) (pp_var 10) (pl_cons (pp_c (pe_bltn (v := .ty "list") (u := .type "list") rfl (o.free 27) rfl rfl) (fun _ => .ty "list")) (pl_cons (pp_c (pe_bltn (v := .ty "tuple") (u := .type "tuple") rfl (o.free 19) rfl rfl) (fun _ => .ty "tuple")) pl_nil))))) (pd_one (pd_raise rfl (takes_of rfl rfl rfl rfl) (oexB_ok (o.x 0)) (oxiB_ok (o.x 12)).1 (oxiB_ok (o.x 12)).2 F_Wrong_init (hr.mono (by decide)) kp_Wrong_init rfl (o.glo 26) (pl_cons (pp_op op_addA opd_add (pp_var 7) pp_int) pl_nil))) pd_nil))) (pd_cons (pd_for (passes_of rfl) rfl (it_enum rfl (o.free 21) (pl_cons (pp_var 9) pl_nil)) (tg_tup rfl (tgs_cons (tg_name sc.nd rfl (by first | exact Or.inl rfl | exact Or.inr rfl) rfl) (tgs_cons (tg_name sc.nd rfl (by first | exact Or.inl rfl | exact Or.inr rfl) rfl) tgs_nil))) (pd_one (pd_expr (pp_of (po_call F_check_part (hr.mono (by decide)) hgd rfl (o.glo 28) kp_check_part bd_check_part .nil (fun _ => .nil) (takes_of rfl rfl rfl rfl) (plm_sh (pp_var 1) (plm_sh (pp_var 2) (plm_sh (pp_var 11) (plm_sh (pp_var 10) plm_nil))))))))) (pd_cons (pd_fld 0 ["Book"] rfl (hc1 (icB_ok (o.x 13)).cl (He.noat_ok (o.sd.fact 29 rfl))) (pp_var 1)) (pd_cons (pd_fld 0 ["Book"] rfl (hc1 (icB_ok (o.x 13)).cl (He.noat_ok (o.sd.fact 30 rfl))) (pp_var 2)) (pd_cons (pd_fld 0 ["Book"] rfl (hc1 (icB_ok (o.x 13)).cl (He.noat_ok (o.sd.fact 31 rfl))) (pp_callT call_tuple_of cd_tuple rfl (o.free 19) rfl (pl_cons (pp_var 3) pl_nil))) (pd_cons (pd_fld 0 ["Book"] rfl (hc1 (icB_ok (o.x 13)).cl (He.noat_ok (o.sd.fact 32 rfl))) (pp_callT call_tuple_of cd_tuple rfl (o.free 19) rfl (pl_cons (pp_var 4) pl_nil))) (pd_cons (pd_fld 0 ["Book"] rfl (hc1 (icB_ok (o.x 13)).cl (He.noat_ok (o.sd.fact 33 rfl))) (pp_callT call_tuple_of cd_tuple rfl (o.free 19) rfl (pl_cons (pp_var 5) pl_nil))) (pd_one (pd_fld 0 ["Book"] rfl (hc1 (icB_ok (o.x 13)).cl (He.noat_ok (o.sd.fact 34 rfl))) (pp_callT call_tuple_of cd_tuple rfl (o.free 19) rfl (pl_cons (pp_var 6) pl_nil)))))))))))))
def g_law_one : G := (retS (sh1 (opM ixD (rd 1) (shM (calM m_law_take [some 0, none] [] (ioM 0 (conM (cbM (one lenD) (conM (rd 1) (ret []))) (ret []))))))))
def m_law_one : Fm := runG 2 g_law_one
theorem ok_law_one {P : Program} {w : World} {base : Heap} {K : KF} {mg : Str → Option Value} (o : Md3 fa fn ex K mg) : ∃ fd, FnG P w K mg base 2 (He.fAd K ("_law_one", none)) fd ["_law_bag_here", "_law_menu"] (spD K 2 [0] m_law_one) ∧ PySem.W.keepIn K (.ref (He.fAd K ("_law_one", none))) = true ∧ Binds K fd ["_law_bag_here", "_law_menu"] [] := by
  obtain ⟨fd, F⟩ := o.sd.def_ 18 rfl
  obtain ⟨fd_law_take, F_law_take, kp_law_take, bd_law_take⟩ := ok_law_take (P := P) (w := w) (base := base) o
  have sc : FnScope ["_law_bag_here", "_law_menu"] ["_law_bag_here", "_law_menu"] (defScope (top 32)) := ⟨rfl, rfl, rfl, by decide +kernel, rfl, by decide +kernel, by decide +kernel⟩
  refine ⟨fd, fn_d F sc rfl fun cdv A outer s H E hr hgd => ?_, F.kp, F.bindsN fun _ _ _ _ _ _ us hl => match us, hl with | [_, _], _ => rfl⟩
  have hu := hr.units
  have hu2 := room65 hr
  exact (pd_one (pd_ret (po_sh (pp_ix (pp_var 1) (pp_of (po_call F_law_take (hr.mono (by decide)) hgd rfl (o.glo 35) kp_law_take bd_law_take .nil (fun _ => .nil) (takes_of rfl rfl rfl rfl) (plm_io 0 (plm_sh (pp_callB call_len cd_len rfl (o.free 1) rfl (pl_cons (pp_var 1) pl_nil)) plm_nil))))))))
def g_law_value : G := (then_ (setS 1 (sh1 (opM subD (opM addD (opM powD (ret (.int 10)) (ret (.int 15))) (shM (calM m_law_take [some 0, none] [] (ioM 0 (conM (ret (.int 3)) (ret [])))))) (ret (.int 1))))) (then_ (setS 2 (sh1 (lstM (conM (ret (.int 0)) (conM (ret (.int 1)) (conM (unM negD (ret (.int 1))) (conM (rd 1) (conM (opM subD (ret (.int 0)) (rd 1)) (conM (opM powD (ret (.int 10)) (ret (.int 30))) (conM (shM (calM m_law_take [some 0, none] [] (ioM 0 (conM (opM powD (ret (.int 10)) (ret (.int 9))) (ret []))))) (conM (ret (.bl true)) (conM (ret (.bl false)) (conM (ret (.non)) (conM (ret (.str "early")) (conM (ret (.str "late")) (ret [])))))))))))))))) (then_ (setS 2 (sh1 (opM addD (rd 2) (lstM (conM (ret (.str "Early")) (conM (ret (.str "lat")) (conM (ret (.str "early ")) (conM (ret (.str " late")) (conM (ret (.str "")) (conM (ret (.str "latee")) (conM (ret (.str "e")) (conM (tupM (ret [])) (conM (tupM (conM (ret (.str "early")) (ret []))) (conM (lstM (conM (ret (.str "late")) (ret []))) (conM (ret (.dct [] [])) (conM (ret (.dct [kD (.inr "early")] [.int 1])) (ret []))))))))))))))))) (then_ (setS 2 (sh1 (opM addD (rd 2) (lstM (conM (ret (.str "0")) (conM (shM (mkM m_Book_init "Book" [none, none] [.tup [], .tup [], .tup [], .tup []] (conM (ret (.int 1)) (conM (ret (.int 1)) (ret []))))) (conM (tupM (conM (ret (.str "early")) (conM (ret (.str "late")) (ret [])))) (ret [])))))))) (retS (calM m_law_one [some 0, none] [] (ioM 0 (conM (rd 2) (ret [])))))))))
def m_law_value : Fm := runG 3 g_law_value
theorem ok_law_value {P : Program} {w : World} {base : Heap} {K : KF} {mg : Str → Option Value} (o : Md3 fa fn ex K mg) : ∃ fd, FnG P w K mg base 8 (He.fAd K ("_law_value", none)) fd ["_law_bag_here"] (spD K 1 [0] m_law_value) ∧ PySem.W.keepIn K (.ref (He.fAd K ("_law_value", none))) = true ∧ Binds K fd ["_law_bag_here"] [] := by
  obtain ⟨fd, F⟩ := o.sd.def_ 19 rfl
  obtain ⟨fd_Book_init, F_Book_init, kp_Book_init, bd_Book_init⟩ := ok_Book_init (P := P) (w := w) (base := base) o
  obtain ⟨fd_law_one, F_law_one, kp_law_one, bd_law_one⟩ := ok_law_one (P := P) (w := w) (base := base) o
  obtain ⟨fd_law_take, F_law_take, kp_law_take, bd_law_take⟩ := ok_law_take (P := P) (w := w) (base := base) o
  have sc : FnScope ["_law_bag_here", "_law_edge", "_law_menu"] ["_law_bag_here"] (defScope (top 33)) := ⟨rfl, rfl, rfl, by decide +kernel, rfl, by decide +kernel, by decide +kernel⟩
  refine ⟨fd, fn_d F sc rfl fun cdv A outer s H E hr hgd => ?_, F.kp, F.bindsN fun _ _ _ _ _ _ us hl => match us, hl with | [_], _ => rfl⟩
  have hu := hr.units
  have hu2 := room65 hr
  exact (pd_cons (pd_set sc.nd rfl (by first | exact Or.inl rfl | exact Or.inr rfl) rfl (po_sh (pp_op op_sub opd_sub (pp_op op_addA opd_add (pp_op op_pow opd_pow pp_int pp_int) (pp_of (po_call F_law_take (hr.mono (by decide)) hgd rfl (o.glo 35) kp_law_take bd_law_take .nil (fun _ => .nil) (takes_of rfl rfl rfl rfl) (plm_io 0 (plm_sh pp_int plm_nil))))) pp_int))) (pd_cons (pd_set sc.nd rfl (by first | exact Or.inl rfl | exact Or.inr rfl) rfl (po_sh (pp_lst (pl_cons pp_int (pl_cons pp_int (pl_cons (pp_un un_neg und_neg pp_int) (pl_cons (pp_var 1) (pl_cons (pp_op op_sub opd_sub pp_int (pp_var 1)) (pl_cons (pp_op op_pow opd_pow pp_int pp_int) (pl_cons (pp_of (po_call F_law_take (hr.mono (by decide)) hgd rfl (o.glo 35) kp_law_take bd_law_take .nil (fun _ => .nil) (takes_of rfl rfl rfl rfl) (plm_io 0 (plm_sh (pp_op op_pow opd_pow pp_int pp_int) plm_nil)))) (pl_cons pp_bl (pl_cons pp_bl (pl_cons pp_non (pl_cons pp_str (pl_cons pp_str pl_nil))))))))))))))) (pd_cons (pd_set sc.nd rfl (by first | exact Or.inl rfl | exact Or.inr rfl) rfl (po_sh (pp_op op_addA opd_add (pp_var 2) (pp_lst (pl_cons pp_str (pl_cons pp_str (pl_cons pp_str (pl_cons pp_str (pl_cons pp_str (pl_cons pp_str (pl_cons pp_str (pl_cons (pp_tup pl_nil) (pl_cons (pp_tup (pl_cons pp_str pl_nil)) (pl_cons (pp_lst (pl_cons pp_str pl_nil)) (pl_cons pp_dnew (pl_cons (pp_done (kk := (.inr "early")) pe_str pe_int (fun _ => .int _)) pl_nil)))))))))))))))) (pd_cons (pd_set sc.nd rfl (by first | exact Or.inl rfl | exact Or.inr rfl) rfl (po_sh (pp_op op_addA opd_add (pp_var 2) (pp_lst (pl_cons pp_str (pl_cons (pp_of (po_make (He.mkr_ok (o.sd.fact 36 rfl)) F_Book_init (hr.mono (by decide)) hgd rfl (o.glo 37) bd_Book_init.choose_spec.2 bd_Book_init.choose_spec.1 (fun F => (RepL.cons (dfl_rep (o.x 17) F) (RepL.cons (dfl_rep (o.x 16) F) (RepL.cons (dfl_rep (o.x 15) F) (RepL.cons (dfl_rep (o.x 14) F) RepL.nil))))) (takes_of rfl rfl rfl rfl) (plm_sh pp_int (plm_sh pp_int plm_nil)))) (pl_cons (pp_tup (pl_cons pp_str (pl_cons pp_str pl_nil))) pl_nil))))))) (pd_one (pd_ret (po_call F_law_one (hr.mono (by decide)) hgd rfl (o.glo 38) kp_law_one bd_law_one .nil (fun _ => .nil) (takes_of rfl rfl rfl rfl) (plm_io 0 (plm_sh (pp_var 2) plm_nil)))))))))
def g_contrary : G := (retS (ifM (cmB eqD (rd 0) (ret (.str "early"))) (sh1 (ret (.str "late"))) (sh1 (ret (.str "early")))))
def m_contrary : Fm := runG 1 g_contrary
theorem ok_contrary {P : Program} {w : World} {base : Heap} {K : KF} {mg : Str → Option Value} (o : Md3 fa fn ex K mg) : ∃ fd, FnG P w K mg base 1 (He.fAd K ("contrary", none)) fd ["kind"] (spD K 1 [] m_contrary) ∧ PySem.W.keepIn K (.ref (He.fAd K ("contrary", none))) = true ∧ Binds K fd ["kind"] [] := by
  obtain ⟨fd, F⟩ := o.sd.def_ 20 rfl
  obtain ⟨v_EARLY, u_EARLY, m_EARLY, r_EARLY, p_EARLY⟩ := o.cst (o.x 7)
  obtain ⟨v_LATE, u_LATE, m_LATE, r_LATE, p_LATE⟩ := o.cst (o.x 6)
  have sc : FnScope ["kind"] ["kind"] (defScope (top 10)) := ⟨rfl, rfl, rfl, by decide +kernel, rfl, by decide +kernel, by decide +kernel⟩
  refine ⟨fd, fn_d F sc rfl fun cdv A outer s H E hr hgd => ?_, F.kp, F.bindsN fun _ _ _ _ _ _ us hl => match us, hl with | [_], _ => rfl⟩
  have hu := hr.units
  have hu2 := room65 hr
  exact (pd_one (pd_ret (po_if (pb_cmp (op_eqA hu) opd_eq (pp_var 0) (pp_glob rfl m_EARLY r_EARLY p_EARLY) rfl) (po_sh (pp_glob rfl m_LATE r_LATE p_LATE)) (po_sh (pp_glob rfl m_EARLY r_EARLY p_EARLY)))))
def g_turned_literal : G := (retS (sh1 (tupM (conM (opM ixD (rd 0) (ret (.int 0))) (conM (shM (calM m_contrary [none] [] (conM (opM ixD (rd 0) (ret (.int 1))) (ret [])))) (ret []))))))
def m_turned_literal : Fm := runG 1 g_turned_literal
theorem ok_turned_literal {P : Program} {w : World} {base : Heap} {K : KF} {mg : Str → Option Value} (o : Md3 fa fn ex K mg) : ∃ fd, FnG P w K mg base 2 (He.fAd K ("turned_literal", none)) fd ["literal"] (spD K 1 [] m_turned_literal) ∧ PySem.W.keepIn K (.ref (He.fAd K ("turned_literal", none))) = true ∧ Binds K fd ["literal"] [] := by
  obtain ⟨fd, F⟩ := o.sd.def_ 21 rfl
  obtain ⟨fd_contrary, F_contrary, kp_contrary, bd_contrary⟩ := ok_contrary (P := P) (w := w) (base := base) o
  have sc : FnScope ["literal"] ["literal"] (defScope (top 11)) := ⟨rfl, rfl, rfl, by decide +kernel, rfl, by decide +kernel, by decide +kernel⟩
  refine ⟨fd, fn_d F sc rfl fun cdv A outer s H E hr hgd => ?_, F.kp, F.bindsN fun _ _ _ _ _ _ us hl => match us, hl with | [_], _ => rfl⟩
  have hu := hr.units
  have hu2 := room65 hr
  exact (pd_one (pd_ret (po_sh (pp_tup (pl_cons (pp_ix (pp_var 0) pp_int) (pl_cons (pp_of (po_call F_contrary (hr.mono (by decide)) hgd rfl (o.glo 39) kp_contrary bd_contrary .nil (fun _ => .nil) (takes_of rfl rfl rfl rfl) (plm_sh (pp_ix (pp_var 0) pp_int) plm_nil))) pl_nil))))))
def g_law : G := (then_ (setS 1 (calM m_law_bag [none] [] (conM (rd 0) (ret [])))) (then_ (forS (rg1 (conM (ret (.int 20)) (ret []))) (putE 2) (then_ (setS 3 (sh1 (shM (calM m_law_value [some 1] [] (ioM 1 (ret [])))))) (then_ (setS 4 (sh1 (andV (cbM (isiD ["Book"]) (conM (rd 3) (conM (ret (.ty "int")) (ret [])))) (andV (opM notTD (rd 3) (ret (.bl true))) (opM notTD (rd 3) (ret (.bl false))))))) (then_ (setS 5 (sh1 (andV (rd 4) (chM leD leD (unM negD (ret (.int 1000000000000000))) (rd 3) (ret (.int 1000000000000000)))))) (then_ (setS 6 (sh1 (andV (cbM (isiD ["Book"]) (conM (rd 3) (conM (ret (.ty "str")) (ret [])))) (opM inD (rd 3) (tupM (conM (ret (.str "early")) (conM (ret (.str "late")) (ret [])))))))) (andS (cmB neD (cbM reprD (conM (lstM (conM (shM (calM m_is_integer [none] [] (conM (rd 3) (ret [])))) (conM (shM (calM m_is_number [none] [] (conM (rd 3) (ret [])))) (conM (shM (calM m_is_kind [none] [] (conM (rd 3) (ret [])))) (ret []))))) (ret []))) (cbM reprD (conM (lstM (conM (rd 4) (conM (rd 5) (conM (rd 6) (ret []))))) (ret [])))) fun k => if k = true then (retS (sh1 (ret (.bl false)))) else done)))))) (then_ (forS (seqI (tupM (conM (tupM (conM (ret (.str "early")) (conM (ret (.str "late")) (ret [])))) (conM (tupM (conM (ret (.str "late")) (conM (ret (.str "early")) (ret [])))) (ret []))))) (tgT 2 (tgC (putE 7) (tgC (putE 8) tgN))) (then_ (setS 9 (sh1 (shM (calM m_law_take [some 1, none] [] (ioM 1 (conM (ret (.int 8)) (ret []))))))) (then_ (andS (orM (cmB neD (shM (calM m_contrary [none] [] (conM (rd 7) (ret [])))) (rd 8)) (cmB neD (shM (calM m_turned_literal [none] [] (conM (tupM (conM (rd 9) (conM (rd 7) (ret [])))) (ret [])))) (tupM (conM (rd 9) (conM (rd 8) (ret [])))))) fun k => if k = true then (retS (sh1 (ret (.bl false)))) else done) (then_ (andS (cmB neD (shM (calM m_contrary [none] [] (conM (shM (calM m_contrary [none] [] (conM (rd 7) (ret [])))) (ret [])))) (rd 7)) fun k => if k = true then (retS (sh1 (ret (.bl false)))) else done) (andS (cmB neD (shM (calM m_turned_literal [none] [] (conM (shM (calM m_turned_literal [none] [] (conM (tupM (conM (rd 9) (conM (rd 8) (ret [])))) (ret [])))) (ret [])))) (tupM (conM (rd 9) (conM (rd 8) (ret []))))) fun k => if k = true then (retS (sh1 (ret (.bl false)))) else done))))) (retS (sh1 (ret (.bl true)))))))
def m_law : Fm := runG 10 g_law
theorem ok_law {P : Program} {w : World} {K : KF} {mg : Str → Option Value} (o : Md3 fa fn ex K mg) : ∃ fd, (∀ base : Heap, FnG P w K mg base 9 (He.fAd K ("law", none)) fd ["_law_script"] (spD K 1 [] m_law)) ∧ ∀ (s : Shared) (u : Value), BindsTo s fd ⟨[u], []⟩ [("_law_script", u)] := by
  obtain ⟨fd, F⟩ := o.sd.def_ 22 rfl
  refine ⟨fd, fun base => ?_, fun s u => F.bindsA (ps := ["_law_script"]) (fun _ _ _ _ _ _ us hl => match us, hl with | [_], _ => rfl) s [u] rfl⟩
  obtain ⟨fd_law_bag, F_law_bag, kp_law_bag, bd_law_bag⟩ := ok_law_bag (P := P) (w := w) (base := base) o
  obtain ⟨fd_law_take, F_law_take, kp_law_take, bd_law_take⟩ := ok_law_take (P := P) (w := w) (base := base) o
  obtain ⟨fd_law_value, F_law_value, kp_law_value, bd_law_value⟩ := ok_law_value (P := P) (w := w) (base := base) o
  obtain ⟨fd_contrary, F_contrary, kp_contrary, bd_contrary⟩ := ok_contrary (P := P) (w := w) (base := base) o
  obtain ⟨fd_is_integer, F_is_integer, kp_is_integer, bd_is_integer⟩ := ok_is_integer (P := P) (w := w) (base := base) o
  obtain ⟨fd_is_kind, F_is_kind, kp_is_kind, bd_is_kind⟩ := ok_is_kind (P := P) (w := w) (base := base) o
  obtain ⟨fd_is_number, F_is_number, kp_is_number, bd_is_number⟩ := ok_is_number (P := P) (w := w) (base := base) o
  obtain ⟨fd_turned_literal, F_turned_literal, kp_turned_literal, bd_turned_literal⟩ := ok_turned_literal (P := P) (w := w) (base := base) o
  have sc : FnScope ["_law_script", "_law_bag_here", "_law_trip", "_law_thing", "_law_whole", "_law_number", "_law_word", "_law_kind", "_law_other", "_law_w"] ["_law_script"] (defScope (top 34)) := ⟨rfl, rfl, rfl, by decide +kernel, rfl, by decide +kernel, by decide +kernel⟩
  refine fn_d F sc rfl fun cdv A outer s H E hr hgd => ?_
  have hu := hr.units
  have hu2 := room65 hr
  exact (pd_cons (pd_set sc.nd rfl (by first | exact Or.inl rfl | exact Or.inr rfl) rfl (po_call F_law_bag (hr.mono (by decide)) hgd rfl (o.glo 40) kp_law_bag bd_law_bag .nil (fun _ => .nil) (takes_of rfl rfl rfl rfl) (plm_sh (pp_var 0) plm_nil))) (pd_cons (pd_for (passes_of rfl) rfl (it_range1 rfl (o.free 41) (pl_cons pp_int pl_nil)) (tg_name sc.nd rfl (by first | exact Or.inl rfl | exact Or.inr rfl) rfl) (pd_cons (pd_set sc.nd rfl (by first | exact Or.inl rfl | exact Or.inr rfl) rfl (po_sh (pp_of (po_call F_law_value (hr.mono (by decide)) hgd rfl (o.glo 42) kp_law_value bd_law_value .nil (fun _ => .nil) (takes_of rfl rfl rfl rfl) (plm_io 1 plm_nil))))) (pd_cons (pd_set sc.nd rfl (by first | exact Or.inl rfl | exact Or.inr rfl) rfl (po_sh (pp_and (pp_callB call_isi (cd_isi (icsB_ok (o.x 3))) rfl (o.free 8) rfl (pl_cons (pp_var 3) (pl_cons (pp_c (pe_bltn (v := .ty "int") (u := .type "int") rfl (o.free 2) rfl rfl) (fun _ => .ty "int")) pl_nil))) (pp_and (pp_cmp op_notT opd_notT (pp_var 3) pp_bl rfl) (pp_one (pp_cmp op_notT opd_notT (pp_var 3) pp_bl rfl)))))) (pd_cons (pd_set sc.nd rfl (by first | exact Or.inl rfl | exact Or.inr rfl) rfl (po_sh (pp_and (pp_var 4) (pp_one (pp_chain op_le (opd_cmp _) op_le (opd_cmp _) (pp_un un_neg und_neg pp_int) (pp_var 3) pp_int))))) (pd_cons (pd_set sc.nd rfl (by first | exact Or.inl rfl | exact Or.inr rfl) rfl (po_sh (pp_and (pp_callB call_isi (cd_isi (icsB_ok (o.x 3))) rfl (o.free 8) rfl (pl_cons (pp_var 3) (pl_cons (pp_c (pe_bltn (v := .ty "str") (u := .type "str") rfl (o.free 10) rfl rfl) (fun _ => .ty "str")) pl_nil))) (pp_one (pp_cmp (op_inA hu2) opd_in (pp_var 3) (pp_tup (pl_cons pp_str (pl_cons pp_str pl_nil))) rfl))))) (pd_one (pd_if (pb_cmp (op_neA hu) opd_ne (pp_callB (call_reprA hgd hu2) cd_repr rfl (o.free 43) rfl (pl_cons (pp_lst (pl_cons (pp_of (po_call F_is_integer (hr.mono (by decide)) hgd rfl (o.glo 9) kp_is_integer bd_is_integer .nil (fun _ => .nil) (takes_of rfl rfl rfl rfl) (plm_sh (pp_var 3) plm_nil))) (pl_cons (pp_of (po_call F_is_number (hr.mono (by decide)) hgd rfl (o.glo 11) kp_is_number bd_is_number .nil (fun _ => .nil) (takes_of rfl rfl rfl rfl) (plm_sh (pp_var 3) plm_nil))) (pl_cons (pp_of (po_call F_is_kind (hr.mono (by decide)) hgd rfl (o.glo 14) kp_is_kind bd_is_kind .nil (fun _ => .nil) (takes_of rfl rfl rfl rfl) (plm_sh (pp_var 3) plm_nil))) pl_nil)))) pl_nil)) (pp_callB (call_reprA hgd hu2) cd_repr rfl (o.free 43) rfl (pl_cons (pp_lst (pl_cons (pp_var 4) (pl_cons (pp_var 5) (pl_cons (pp_var 6) pl_nil)))) pl_nil)) rfl) (pd_one (pd_ret (po_sh pp_bl))) pd_nil))))))) (pd_cons (pd_for (passes_of rfl) rfl (it_seq (pp_tup (pl_cons (pp_tup (pl_cons pp_str (pl_cons pp_str pl_nil))) (pl_cons (pp_tup (pl_cons pp_str (pl_cons pp_str pl_nil))) pl_nil)))) (tg_tup rfl (tgs_cons (tg_name sc.nd rfl (by first | exact Or.inl rfl | exact Or.inr rfl) rfl) (tgs_cons (tg_name sc.nd rfl (by first | exact Or.inl rfl | exact Or.inr rfl) rfl) tgs_nil))) (pd_cons (pd_set sc.nd rfl (by first | exact Or.inl rfl | exact Or.inr rfl) rfl (po_sh (pp_of (po_call F_law_take (hr.mono (by decide)) hgd rfl (o.glo 35) kp_law_take bd_law_take .nil (fun _ => .nil) (takes_of rfl rfl rfl rfl) (plm_io 1 (plm_sh pp_int plm_nil)))))) (pd_cons (pd_if (pbw_pb (pbw_or (pb_cmp (op_neA hu) opd_ne (pp_of (po_call F_contrary (hr.mono (by decide)) hgd rfl (o.glo 39) kp_contrary bd_contrary .nil (fun _ => .nil) (takes_of rfl rfl rfl rfl) (plm_sh (pp_var 7) plm_nil))) (pp_var 8) rfl) (pbw_or1 (pb_cmp (op_neA hu) opd_ne (pp_of (po_call F_turned_literal (hr.mono (by decide)) hgd rfl (o.glo 44) kp_turned_literal bd_turned_literal .nil (fun _ => .nil) (takes_of rfl rfl rfl rfl) (plm_sh (pp_tup (pl_cons (pp_var 9) (pl_cons (pp_var 7) pl_nil))) plm_nil))) (pp_tup (pl_cons (pp_var 9) (pl_cons (pp_var 8) pl_nil))) rfl)))) (pd_one (pd_ret (po_sh pp_bl))) pd_nil) (pd_cons (pd_if (pb_cmp (op_neA hu) opd_ne (pp_of (po_call F_contrary (hr.mono (by decide)) hgd rfl (o.glo 39) kp_contrary bd_contrary .nil (fun _ => .nil) (takes_of rfl rfl rfl rfl) (plm_sh (pp_of (po_call F_contrary (hr.mono (by decide)) hgd rfl (o.glo 39) kp_contrary bd_contrary .nil (fun _ => .nil) (takes_of rfl rfl rfl rfl) (plm_sh (pp_var 7) plm_nil))) plm_nil))) (pp_var 7) rfl) (pd_one (pd_ret (po_sh pp_bl))) pd_nil) (pd_one (pd_if (pb_cmp (op_neA hu) opd_ne (pp_of (po_call F_turned_literal (hr.mono (by decide)) hgd rfl (o.glo 44) kp_turned_literal bd_turned_literal .nil (fun _ => .nil) (takes_of rfl rfl rfl rfl) (plm_sh (pp_of (po_call F_turned_literal (hr.mono (by decide)) hgd rfl (o.glo 44) kp_turned_literal bd_turned_literal .nil (fun _ => .nil) (takes_of rfl rfl rfl rfl) (plm_sh (pp_tup (pl_cons (pp_var 9) (pl_cons (pp_var 8) pl_nil))) plm_nil))) plm_nil))) (pp_tup (pl_cons (pp_var 9) (pl_cons (pp_var 8) pl_nil))) rfl) (pd_one (pd_ret (po_sh pp_bl))) pd_nil)))))) (pd_one (pd_ret (po_sh pp_bl))))))
abbrev R : PySem.W.OpenRow := PySem.W.OpenLaw.row PySem.Challenge.rw_earlyorlate_k12_words_and_kinds
abbrev hk : PySem.W.Hook := hookE 6 fa fn (fun K => ex.all fun f => f K)
def ob (s : PySem.W.SharedT) : He.AlD × Bool := obE 6 fa fn (fun K => ex.all fun f => f K) (HandSHeadRun.getT s)
theorem ob_eq (s : PySem.W.SharedT) : ob s = hk.obs s.abs := obE_eq (HandSHeadRun.getT_eq s)
theorem run (w : World) : HandSHeadRun.RunEq R (PySem.W.view R.prog [34]) hk ob 20000 loose w := by
  intro os
  kernel_rfl
end Gk

namespace Gk
open PySem PySem.Spec PyProof.Rows L2 Dl
theorem take_eq : m_law_take = mTake := rfl
theorem bag_eq : m_law_bag = mBag := rfl
theorem one_eq : m_law_one = mOne := rfl
/-- the book of one event and one witness -/
def book11 : D := .ins "Book" ["events", "witnesses", "tellings", "gaps", "sure", "clauses"] [.int 1, .int 1, .tup [], .tup [], .tup [], .tup []]
theorem book_ok (E : Nv) : makeM m_Book_init "Book" [none, none, none, none, none, none] [.int 1, .int 1, .tup [], .tup [], .tup [], .tup []] E = .ok (.o, book11) E := by
  have e : m_Book_init [(Ow.o, D.ins "Book" [] []), (.sh, .int 1), (.sh, .int 1), (.sh, .tup []), (.sh, .tup []), (.sh, .tup []), (.sh, .tup [])] = .ok (.sh, .non) [some (.o, book11), some (.sh, .int 1), some (.sh, .int 1), some (.sh, .tup []), some (.sh, .tup []), some (.sh, .tup []), some (.sh, .tup []), some (.sh, .int 3), some (.sh, .int 1), some (.sh, .lst [.tup [], .tup [], .tup [], .tup []]), some (.sh, .tup []), some (.sh, .int 3)] := by
    kernel_rfl
  exact makeM_ok rfl e rfl
/-- what the law's menu holds -/
def Fine : D → Prop
  | .non => True
  | .bl _ => True
  | .int _ => True
  | .str x => x.length ≤ 20
  | .lst _ => True
  | .tup _ => True
  | .dct _ _ => True
  | .ins c _ _ => c = "Book"
  | _ => False
def isIntB : D → Bool
  | .int _ => true
  | _ => false
def isNumB : D → Bool
  | .int i => decide (-1000000000000000 ≤ i) && decide (i ≤ 1000000000000000)
  | _ => false
def isStrB : D → Bool
  | .str _ => true
  | _ => false
theorem book_in : (["Book"] : List Str).contains "Book" = true := by decide
theorem isi_int {d : D} (h : Fine d) : isiD ["Book"] [d, .ty "int"] = some (.bl (match d with | .int _ => true | .bl _ => true | _ => false)) := by
  cases d <;> first | rfl | (cases h; done) | (cases h; rfl)
theorem isi_bool {d : D} (h : Fine d) : isiD ["Book"] [d, .ty "bool"] = some (.bl (match d with | .bl _ => true | _ => false)) := by
  cases d <;> first | rfl | (cases h; done) | (cases h; rfl)
theorem isi_str {d : D} (h : Fine d) : isiD ["Book"] [d, .ty "str"] = some (.bl (isStrB d)) := by
  cases d <;> first | rfl | (cases h; done) | (cases h; rfl)
theorem truB (b : Bool) : truD (.bl b) = some b := rfl
theorem is_integer_ok {d : D} (h : Fine d) : m_is_integer [(.sh, d)] = .ok (.sh, .bl (isIntB d)) [some (.sh, d)] := by
  unfold m_is_integer g_is_integer
  have e1 := isi_int h
  have e2 := isi_bool h
  cases d <;> first | (cases h; done) | (simp (discharger := (first | assumption | omega | decide | (simp only [List.length_cons, List.length_nil, List.length_map]; first | omega | decide) | rfl)) only [ret_ap, stuck_ap, bnd_ap, bdR_ok, bdR_er, andS_ap, anR_ok, anR_er, then_ap, thF_nx, thF_rt, thF_er, thF_bk, thF_ct, done_ap, ofO_some, setS_ap, retS_ap, sh1_ap, shM_ap, look_ap, lookB_ap, lkR_int, lkR_bl, lkR_str, lkB_ok, opM_ap, cmB_ap, unM_ap, cbM_ap, conM_ap, tupM_ap, lstM_ap, own1_ap, ifM_ap, andV_ap, orV_ap, notV_ap, andM_ap, orM_ap, notM_ap, test_ap, chM_ap, chB_ap, calM_ap, callM_eq, caR_so, ents_io, enR_so, rd_eq, rdR_sh, ioM_eq, ioR_so, setIxS_eq, ownL_eq, owR_so, siR_at, putL, augIxS_eq, clR_ok, clR_er, back_nil, back_none, back_some, ents_nil, ents_no, runG_ap, rnF_rt, rnF_nx, rnF_er, eqI, addI, subI, ltI, leI, gtI, geI, negI, intI, toB_bl, bind_some', ixL, ixT, atI_nn, Int.reduceToNat, Int.toNat_zero, Int.toNat_one, len1L, len1T, List.map_cons, List.map_nil, List.cons_append, List.nil_append, List.append_nil, List.length_cons, List.length_nil, List.replicate, List.getElem?_cons_zero, List.getElem?_cons_succ, List.set_cons_zero, List.set_cons_succ, if_true, if_false, Bool.false_eq_true, Option.map_some, Option.join_some, decide_true, decide_false, decide_eq_true_eq, modI, divI, mulR, mulL, small_of, addL, addT, forS_ap, rg1_ap, rg2_ap, seqI_ap, enI_ap, mkM_ap, seqOfL, seqOfT, e1, e2, truB, Option.map_some]; rfl)
theorem is_number_ok {d : D} (h : Fine d) : m_is_number [(.sh, d)] = .ok (.sh, .bl (isNumB d)) [some (.sh, d)] := by
  unfold m_is_number g_is_number
  have e1 := is_integer_ok h
  cases d with
  | int i =>
    by_cases c1 : -1000000000000000 ≤ i
    · by_cases c2 : i ≤ 1000000000000000
      · simp (discharger := (first | assumption | omega | decide | (simp only [List.length_cons, List.length_nil, List.length_map]; first | omega | decide) | rfl)) only [ret_ap, stuck_ap, bnd_ap, bdR_ok, bdR_er, andS_ap, anR_ok, anR_er, then_ap, thF_nx, thF_rt, thF_er, thF_bk, thF_ct, done_ap, ofO_some, setS_ap, retS_ap, sh1_ap, shM_ap, look_ap, lookB_ap, lkR_int, lkR_bl, lkR_str, lkB_ok, opM_ap, cmB_ap, unM_ap, cbM_ap, conM_ap, tupM_ap, lstM_ap, own1_ap, ifM_ap, andV_ap, orV_ap, notV_ap, andM_ap, orM_ap, notM_ap, test_ap, chM_ap, chB_ap, calM_ap, callM_eq, caR_so, ents_io, enR_so, rd_eq, rdR_sh, ioM_eq, ioR_so, setIxS_eq, ownL_eq, owR_so, siR_at, putL, augIxS_eq, clR_ok, clR_er, back_nil, back_none, back_some, ents_nil, ents_no, runG_ap, rnF_rt, rnF_nx, rnF_er, eqI, addI, subI, ltI, leI, gtI, geI, negI, intI, toB_bl, bind_some', ixL, ixT, atI_nn, Int.reduceToNat, Int.toNat_zero, Int.toNat_one, len1L, len1T, List.map_cons, List.map_nil, List.cons_append, List.nil_append, List.append_nil, List.length_cons, List.length_nil, List.replicate, List.getElem?_cons_zero, List.getElem?_cons_succ, List.set_cons_zero, List.set_cons_succ, if_true, if_false, Bool.false_eq_true, Option.map_some, Option.join_some, decide_true, decide_false, decide_eq_true_eq, modI, divI, mulR, mulL, small_of, addL, addT, forS_ap, rg1_ap, rg2_ap, seqI_ap, enI_ap, mkM_ap, seqOfL, seqOfT, e1, truB, isIntB, c1, c2, isNumB, Bool.and_self]; rfl
      · simp (discharger := (first | assumption | omega | decide | (simp only [List.length_cons, List.length_nil, List.length_map]; first | omega | decide) | rfl)) only [ret_ap, stuck_ap, bnd_ap, bdR_ok, bdR_er, andS_ap, anR_ok, anR_er, then_ap, thF_nx, thF_rt, thF_er, thF_bk, thF_ct, done_ap, ofO_some, setS_ap, retS_ap, sh1_ap, shM_ap, look_ap, lookB_ap, lkR_int, lkR_bl, lkR_str, lkB_ok, opM_ap, cmB_ap, unM_ap, cbM_ap, conM_ap, tupM_ap, lstM_ap, own1_ap, ifM_ap, andV_ap, orV_ap, notV_ap, andM_ap, orM_ap, notM_ap, test_ap, chM_ap, chB_ap, calM_ap, callM_eq, caR_so, ents_io, enR_so, rd_eq, rdR_sh, ioM_eq, ioR_so, setIxS_eq, ownL_eq, owR_so, siR_at, putL, augIxS_eq, clR_ok, clR_er, back_nil, back_none, back_some, ents_nil, ents_no, runG_ap, rnF_rt, rnF_nx, rnF_er, eqI, addI, subI, ltI, leI, gtI, geI, negI, intI, toB_bl, bind_some', ixL, ixT, atI_nn, Int.reduceToNat, Int.toNat_zero, Int.toNat_one, len1L, len1T, List.map_cons, List.map_nil, List.cons_append, List.nil_append, List.append_nil, List.length_cons, List.length_nil, List.replicate, List.getElem?_cons_zero, List.getElem?_cons_succ, List.set_cons_zero, List.set_cons_succ, if_true, if_false, Bool.false_eq_true, Option.map_some, Option.join_some, decide_true, decide_false, decide_eq_true_eq, modI, divI, mulR, mulL, small_of, addL, addT, forS_ap, rg1_ap, rg2_ap, seqI_ap, enI_ap, mkM_ap, seqOfL, seqOfT, e1, truB, isIntB, c1, c2, isNumB, Bool.and_false]; rfl
    · simp (discharger := (first | assumption | omega | decide | (simp only [List.length_cons, List.length_nil, List.length_map]; first | omega | decide) | rfl)) only [ret_ap, stuck_ap, bnd_ap, bdR_ok, bdR_er, andS_ap, anR_ok, anR_er, then_ap, thF_nx, thF_rt, thF_er, thF_bk, thF_ct, done_ap, ofO_some, setS_ap, retS_ap, sh1_ap, shM_ap, look_ap, lookB_ap, lkR_int, lkR_bl, lkR_str, lkB_ok, opM_ap, cmB_ap, unM_ap, cbM_ap, conM_ap, tupM_ap, lstM_ap, own1_ap, ifM_ap, andV_ap, orV_ap, notV_ap, andM_ap, orM_ap, notM_ap, test_ap, chM_ap, chB_ap, calM_ap, callM_eq, caR_so, ents_io, enR_so, rd_eq, rdR_sh, ioM_eq, ioR_so, setIxS_eq, ownL_eq, owR_so, siR_at, putL, augIxS_eq, clR_ok, clR_er, back_nil, back_none, back_some, ents_nil, ents_no, runG_ap, rnF_rt, rnF_nx, rnF_er, eqI, addI, subI, ltI, leI, gtI, geI, negI, intI, toB_bl, bind_some', ixL, ixT, atI_nn, Int.reduceToNat, Int.toNat_zero, Int.toNat_one, len1L, len1T, List.map_cons, List.map_nil, List.cons_append, List.nil_append, List.append_nil, List.length_cons, List.length_nil, List.replicate, List.getElem?_cons_zero, List.getElem?_cons_succ, List.set_cons_zero, List.set_cons_succ, if_true, if_false, Bool.false_eq_true, Option.map_some, Option.join_some, decide_true, decide_false, decide_eq_true_eq, modI, divI, mulR, mulL, small_of, addL, addT, forS_ap, rg1_ap, rg2_ap, seqI_ap, enI_ap, mkM_ap, seqOfL, seqOfT, e1, truB, isIntB, c1, isNumB, Bool.false_and]; rfl
  | _ => first | (cases h; done) | (simp (discharger := (first | assumption | omega | decide | (simp only [List.length_cons, List.length_nil, List.length_map]; first | omega | decide) | rfl)) only [ret_ap, stuck_ap, bnd_ap, bdR_ok, bdR_er, andS_ap, anR_ok, anR_er, then_ap, thF_nx, thF_rt, thF_er, thF_bk, thF_ct, done_ap, ofO_some, setS_ap, retS_ap, sh1_ap, shM_ap, look_ap, lookB_ap, lkR_int, lkR_bl, lkR_str, lkB_ok, opM_ap, cmB_ap, unM_ap, cbM_ap, conM_ap, tupM_ap, lstM_ap, own1_ap, ifM_ap, andV_ap, orV_ap, notV_ap, andM_ap, orM_ap, notM_ap, test_ap, chM_ap, chB_ap, calM_ap, callM_eq, caR_so, ents_io, enR_so, rd_eq, rdR_sh, ioM_eq, ioR_so, setIxS_eq, ownL_eq, owR_so, siR_at, putL, augIxS_eq, clR_ok, clR_er, back_nil, back_none, back_some, ents_nil, ents_no, runG_ap, rnF_rt, rnF_nx, rnF_er, eqI, addI, subI, ltI, leI, gtI, geI, negI, intI, toB_bl, bind_some', ixL, ixT, atI_nn, Int.reduceToNat, Int.toNat_zero, Int.toNat_one, len1L, len1T, List.map_cons, List.map_nil, List.cons_append, List.nil_append, List.append_nil, List.length_cons, List.length_nil, List.replicate, List.getElem?_cons_zero, List.getElem?_cons_succ, List.set_cons_zero, List.set_cons_succ, if_true, if_false, Bool.false_eq_true, Option.map_some, Option.join_some, decide_true, decide_false, decide_eq_true_eq, modI, divI, mulR, mulL, small_of, addL, addT, forS_ap, rg1_ap, rg2_ap, seqI_ap, enI_ap, mkM_ap, seqOfL, seqOfT, e1, truB, isIntB]; rfl)
def isKindB (d : D) : Option Bool := match d with
  | .str x => inB (.str x) (.tup [.str "early", .str "late"])
  | _ => some false
theorem is_kind_ok {d : D} (h : Fine d) {k : Bool} (hk : isKindB d = some k) : m_is_kind [(.sh, d)] = .ok (.sh, .bl k) [some (.sh, d)] := by
  unfold m_is_kind g_is_kind
  have e1 := isi_str h
  cases d with
  | str x =>
    have e2 : inD (.str x) (.tup [.str "early", .str "late"]) = some (.bl k) := by unfold inD; rw [show inB (.str x) (.tup [.str "early", .str "late"]) = some k from hk]; rfl
    simp (discharger := (first | assumption | omega | decide | (simp only [List.length_cons, List.length_nil, List.length_map]; first | omega | decide) | rfl)) only [ret_ap, stuck_ap, bnd_ap, bdR_ok, bdR_er, andS_ap, anR_ok, anR_er, then_ap, thF_nx, thF_rt, thF_er, thF_bk, thF_ct, done_ap, ofO_some, setS_ap, retS_ap, sh1_ap, shM_ap, look_ap, lookB_ap, lkR_int, lkR_bl, lkR_str, lkB_ok, opM_ap, cmB_ap, unM_ap, cbM_ap, conM_ap, tupM_ap, lstM_ap, own1_ap, ifM_ap, andV_ap, orV_ap, notV_ap, andM_ap, orM_ap, notM_ap, test_ap, chM_ap, chB_ap, calM_ap, callM_eq, caR_so, ents_io, enR_so, rd_eq, rdR_sh, ioM_eq, ioR_so, setIxS_eq, ownL_eq, owR_so, siR_at, putL, augIxS_eq, clR_ok, clR_er, back_nil, back_none, back_some, ents_nil, ents_no, runG_ap, rnF_rt, rnF_nx, rnF_er, eqI, addI, subI, ltI, leI, gtI, geI, negI, intI, toB_bl, bind_some', ixL, ixT, atI_nn, Int.reduceToNat, Int.toNat_zero, Int.toNat_one, len1L, len1T, List.map_cons, List.map_nil, List.cons_append, List.nil_append, List.append_nil, List.length_cons, List.length_nil, List.replicate, List.getElem?_cons_zero, List.getElem?_cons_succ, List.set_cons_zero, List.set_cons_succ, if_true, if_false, Bool.false_eq_true, Option.map_some, Option.join_some, decide_true, decide_false, decide_eq_true_eq, modI, divI, mulR, mulL, small_of, addL, addT, forS_ap, rg1_ap, rg2_ap, seqI_ap, enI_ap, mkM_ap, seqOfL, seqOfT, e1, truB, isStrB, e2]
    rfl
  | _ => first | (cases h; done) | (cases hk; simp (discharger := (first | assumption | omega | decide | (simp only [List.length_cons, List.length_nil, List.length_map]; first | omega | decide) | rfl)) only [ret_ap, stuck_ap, bnd_ap, bdR_ok, bdR_er, andS_ap, anR_ok, anR_er, then_ap, thF_nx, thF_rt, thF_er, thF_bk, thF_ct, done_ap, ofO_some, setS_ap, retS_ap, sh1_ap, shM_ap, look_ap, lookB_ap, lkR_int, lkR_bl, lkR_str, lkB_ok, opM_ap, cmB_ap, unM_ap, cbM_ap, conM_ap, tupM_ap, lstM_ap, own1_ap, ifM_ap, andV_ap, orV_ap, notV_ap, andM_ap, orM_ap, notM_ap, test_ap, chM_ap, chB_ap, calM_ap, callM_eq, caR_so, ents_io, enR_so, rd_eq, rdR_sh, ioM_eq, ioR_so, setIxS_eq, ownL_eq, owR_so, siR_at, putL, augIxS_eq, clR_ok, clR_er, back_nil, back_none, back_some, ents_nil, ents_no, runG_ap, rnF_rt, rnF_nx, rnF_er, eqI, addI, subI, ltI, leI, gtI, geI, negI, intI, toB_bl, bind_some', ixL, ixT, atI_nn, Int.reduceToNat, Int.toNat_zero, Int.toNat_one, len1L, len1T, List.map_cons, List.map_nil, List.cons_append, List.nil_append, List.append_nil, List.length_cons, List.length_nil, List.replicate, List.getElem?_cons_zero, List.getElem?_cons_succ, List.set_cons_zero, List.set_cons_succ, if_true, if_false, Bool.false_eq_true, Option.map_some, Option.join_some, decide_true, decide_false, decide_eq_true_eq, modI, divI, mulR, mulL, small_of, addL, addT, forS_ap, rg1_ap, rg2_ap, seqI_ap, enI_ap, mkM_ap, seqOfL, seqOfT, e1, truB, isStrB]; rfl)
theorem kind_some {d : D} (h : Fine d) : ∃ k, isKindB d = some k := by
  cases d with
  | str x => exact ⟨_, rfl⟩
  | _ => exact ⟨false, rfl⟩
def menuL (v w : Int) : List D := [.int 0, .int 1, .int (-1), .int (1000000000000000 + v - 1), .int (0 - (1000000000000000 + v - 1)), .int 1000000000000000000000000000000, .int w, .bl true, .bl false, .non, .str "early", .str "late"] ++ [.str "Early", .str "lat", .str "early ", .str " late", .str "", .str "latee", .str "e", .tup [], .tup [.str "early"], .lst [.str "late"], .dct [] [], .dct [kD (.inr "early")] [.int 1]] ++ [.str "0", book11, .tup [.str "early", .str "late"]]
theorem menu_fine {v w : Int} {d : D} (h : d ∈ menuL v w) : Fine d := by
  unfold menuL at h
  simp only [List.mem_append, List.mem_cons, List.not_mem_nil, or_false] at h
  rcases h with ((h | h | h | h | h | h | h | h | h | h | h | h) | (h | h | h | h | h | h | h | h | h | h | h | h)) | (h | h | h) <;> subst h <;> first | trivial | (show (_ : Str).length ≤ 20; decide) | (show (_ : Str) = _; rfl)
theorem value_ok {b : List D} (hb : BagOk b) : ∃ b' d O, m_law_value [(.l .sh, .lst b)] = .ok (.sh, d) (some (.l .sh, .lst b') :: O) ∧ BagOk b' ∧ Fine d := by
  obtain ⟨b1, v, O1, e1, hb1, v0, v1⟩ := take_ok (m := 3) hb (by decide) (by decide)
  obtain ⟨b2, w, O2, e2, hb2, w0, w1⟩ := take_ok (m := 1000000000) hb1 (by decide) (by decide)
  obtain ⟨b3, d, O3, e3, hb3, hd⟩ := one_ok (xs := menuL v w) hb2 (by show (0 : Nat) < 27; decide) (by show (27 : Nat) < 1073741824; decide)
  have p1 : powD (.int 10) (.int 15) = some (.int 1000000000000000) := by kernel_rfl
  have p2 : powD (.int 10) (.int 30) = some (.int 1000000000000000000000000000000) := by kernel_rfl
  have p3 : powD (.int 10) (.int 9) = some (.int 1000000000) := by kernel_rfl
  refine ⟨b3, d, [some (.sh, .int (1000000000000000 + v - 1)), some (.sh, .lst (menuL v w))], ?_, hb3, menu_fine hd⟩
  unfold m_law_value g_law_value
  rw [take_eq, one_eq]
  unfold menuL at e3
  simp only [List.cons_append, List.nil_append] at e3
  simp (discharger := (first | assumption | omega | decide | (simp only [List.length_cons, List.length_nil, List.length_map]; first | omega | decide) | rfl)) only [ret_ap, stuck_ap, bnd_ap, bdR_ok, bdR_er, andS_ap, anR_ok, anR_er, then_ap, thF_nx, thF_rt, thF_er, thF_bk, thF_ct, done_ap, ofO_some, setS_ap, retS_ap, sh1_ap, shM_ap, look_ap, lookB_ap, lkR_int, lkR_bl, lkR_str, lkB_ok, opM_ap, cmB_ap, unM_ap, cbM_ap, conM_ap, tupM_ap, lstM_ap, own1_ap, ifM_ap, andV_ap, orV_ap, notV_ap, andM_ap, orM_ap, notM_ap, test_ap, chM_ap, chB_ap, calM_ap, callM_eq, caR_so, ents_io, enR_so, rd_eq, rdR_sh, ioM_eq, ioR_so, setIxS_eq, ownL_eq, owR_so, siR_at, putL, augIxS_eq, clR_ok, clR_er, back_nil, back_none, back_some, ents_nil, ents_no, runG_ap, rnF_rt, rnF_nx, rnF_er, eqI, addI, subI, ltI, leI, gtI, geI, negI, intI, toB_bl, bind_some', ixL, ixT, atI_nn, Int.reduceToNat, Int.toNat_zero, Int.toNat_one, len1L, len1T, List.map_cons, List.map_nil, List.cons_append, List.nil_append, List.append_nil, List.length_cons, List.length_nil, List.replicate, List.getElem?_cons_zero, List.getElem?_cons_succ, List.set_cons_zero, List.set_cons_succ, if_true, if_false, Bool.false_eq_true, Option.map_some, Option.join_some, decide_true, decide_false, decide_eq_true_eq, modI, divI, mulR, mulL, small_of, addL, addT, forS_ap, rg1_ap, rg2_ap, seqI_ap, enI_ap, mkM_ap, seqOfL, seqOfT, e1, e2, p1, p2, p3, book_ok]
  rw [e3]
  rfl
theorem whole_ok {d : D} (h : Fine d) {E : Nv} (he : E[3]? = some (some (.sh, d))) : andV (cbM (isiD ["Book"]) (conM (rd 3) (conM (Dl.ret (.ty "int")) (Dl.ret [])))) (andV (opM notTD (rd 3) (Dl.ret (.bl true))) (opM notTD (rd 3) (Dl.ret (.bl false)))) E = .ok (.bl (isIntB d)) E := by
  have e1 := isi_int h
  cases d with
  | bl b =>
    have t1 : notTD (.bl b) (.bl true) = some (.bl (!b)) := by cases b <;> rfl
    have t2 : notTD (.bl b) (.bl false) = some (.bl b) := by cases b <;> rfl
    cases b <;> (simp (discharger := (first | assumption | omega | decide | (simp only [List.length_cons, List.length_nil, List.length_map]; first | omega | decide) | rfl)) only [ret_ap, stuck_ap, bnd_ap, bdR_ok, bdR_er, andS_ap, anR_ok, anR_er, then_ap, thF_nx, thF_rt, thF_er, thF_bk, thF_ct, done_ap, ofO_some, setS_ap, retS_ap, sh1_ap, shM_ap, look_ap, lookB_ap, lkR_int, lkR_bl, lkR_str, lkB_ok, opM_ap, cmB_ap, unM_ap, cbM_ap, conM_ap, tupM_ap, lstM_ap, own1_ap, ifM_ap, andV_ap, orV_ap, notV_ap, andM_ap, orM_ap, notM_ap, test_ap, chM_ap, chB_ap, calM_ap, callM_eq, caR_so, ents_io, enR_so, rd_eq, rdR_sh, ioM_eq, ioR_so, setIxS_eq, ownL_eq, owR_so, siR_at, putL, augIxS_eq, clR_ok, clR_er, back_nil, back_none, back_some, ents_nil, ents_no, runG_ap, rnF_rt, rnF_nx, rnF_er, eqI, addI, subI, ltI, leI, gtI, geI, negI, intI, toB_bl, bind_some', ixL, ixT, atI_nn, Int.reduceToNat, Int.toNat_zero, Int.toNat_one, len1L, len1T, List.map_cons, List.map_nil, List.cons_append, List.nil_append, List.append_nil, List.length_cons, List.length_nil, List.replicate, List.getElem?_cons_zero, List.getElem?_cons_succ, List.set_cons_zero, List.set_cons_succ, if_true, if_false, Bool.false_eq_true, Option.map_some, Option.join_some, decide_true, decide_false, decide_eq_true_eq, modI, divI, mulR, mulL, small_of, addL, addT, forS_ap, rg1_ap, rg2_ap, seqI_ap, enI_ap, mkM_ap, seqOfL, seqOfT, he, e1, t1, t2, truB, Bool.not_true, Bool.not_false]; rfl)
  | int i =>
    have t1 : notTD (.int i) (.bl true) = some (.bl true) := rfl
    have t2 : notTD (.int i) (.bl false) = some (.bl true) := rfl
    simp (discharger := (first | assumption | omega | decide | (simp only [List.length_cons, List.length_nil, List.length_map]; first | omega | decide) | rfl)) only [ret_ap, stuck_ap, bnd_ap, bdR_ok, bdR_er, andS_ap, anR_ok, anR_er, then_ap, thF_nx, thF_rt, thF_er, thF_bk, thF_ct, done_ap, ofO_some, setS_ap, retS_ap, sh1_ap, shM_ap, look_ap, lookB_ap, lkR_int, lkR_bl, lkR_str, lkB_ok, opM_ap, cmB_ap, unM_ap, cbM_ap, conM_ap, tupM_ap, lstM_ap, own1_ap, ifM_ap, andV_ap, orV_ap, notV_ap, andM_ap, orM_ap, notM_ap, test_ap, chM_ap, chB_ap, calM_ap, callM_eq, caR_so, ents_io, enR_so, rd_eq, rdR_sh, ioM_eq, ioR_so, setIxS_eq, ownL_eq, owR_so, siR_at, putL, augIxS_eq, clR_ok, clR_er, back_nil, back_none, back_some, ents_nil, ents_no, runG_ap, rnF_rt, rnF_nx, rnF_er, eqI, addI, subI, ltI, leI, gtI, geI, negI, intI, toB_bl, bind_some', ixL, ixT, atI_nn, Int.reduceToNat, Int.toNat_zero, Int.toNat_one, len1L, len1T, List.map_cons, List.map_nil, List.cons_append, List.nil_append, List.append_nil, List.length_cons, List.length_nil, List.replicate, List.getElem?_cons_zero, List.getElem?_cons_succ, List.set_cons_zero, List.set_cons_succ, if_true, if_false, Bool.false_eq_true, Option.map_some, Option.join_some, decide_true, decide_false, decide_eq_true_eq, modI, divI, mulR, mulL, small_of, addL, addT, forS_ap, rg1_ap, rg2_ap, seqI_ap, enI_ap, mkM_ap, seqOfL, seqOfT, he, e1, t1, t2, truB]
    rfl
  | _ => first | (cases h; done) | (simp (discharger := (first | assumption | omega | decide | (simp only [List.length_cons, List.length_nil, List.length_map]; first | omega | decide) | rfl)) only [ret_ap, stuck_ap, bnd_ap, bdR_ok, bdR_er, andS_ap, anR_ok, anR_er, then_ap, thF_nx, thF_rt, thF_er, thF_bk, thF_ct, done_ap, ofO_some, setS_ap, retS_ap, sh1_ap, shM_ap, look_ap, lookB_ap, lkR_int, lkR_bl, lkR_str, lkB_ok, opM_ap, cmB_ap, unM_ap, cbM_ap, conM_ap, tupM_ap, lstM_ap, own1_ap, ifM_ap, andV_ap, orV_ap, notV_ap, andM_ap, orM_ap, notM_ap, test_ap, chM_ap, chB_ap, calM_ap, callM_eq, caR_so, ents_io, enR_so, rd_eq, rdR_sh, ioM_eq, ioR_so, setIxS_eq, ownL_eq, owR_so, siR_at, putL, augIxS_eq, clR_ok, clR_er, back_nil, back_none, back_some, ents_nil, ents_no, runG_ap, rnF_rt, rnF_nx, rnF_er, eqI, addI, subI, ltI, leI, gtI, geI, negI, intI, toB_bl, bind_some', ixL, ixT, atI_nn, Int.reduceToNat, Int.toNat_zero, Int.toNat_one, len1L, len1T, List.map_cons, List.map_nil, List.cons_append, List.nil_append, List.append_nil, List.length_cons, List.length_nil, List.replicate, List.getElem?_cons_zero, List.getElem?_cons_succ, List.set_cons_zero, List.set_cons_succ, if_true, if_false, Bool.false_eq_true, Option.map_some, Option.join_some, decide_true, decide_false, decide_eq_true_eq, modI, divI, mulR, mulL, small_of, addL, addT, forS_ap, rg1_ap, rg2_ap, seqI_ap, enI_ap, mkM_ap, seqOfL, seqOfT, he, e1, truB]; rfl)
theorem number_ok {d : D} (h : Fine d) {E : Nv} (he : E[3]? = some (some (.sh, d))) (hw : E[4]? = some (some (.sh, .bl (isIntB d)))) : andV (rd 4) (chM leD leD (unM negD (Dl.ret (.int 1000000000000000))) (rd 3) (Dl.ret (.int 1000000000000000))) E = .ok (.bl (isNumB d)) E := by
  cases d with
  | int i =>
    by_cases c1 : -1000000000000000 ≤ i
    · by_cases c2 : i ≤ 1000000000000000
      · simp (discharger := (first | assumption | omega | decide | (simp only [List.length_cons, List.length_nil, List.length_map]; first | omega | decide) | rfl)) only [ret_ap, stuck_ap, bnd_ap, bdR_ok, bdR_er, andS_ap, anR_ok, anR_er, then_ap, thF_nx, thF_rt, thF_er, thF_bk, thF_ct, done_ap, ofO_some, setS_ap, retS_ap, sh1_ap, shM_ap, look_ap, lookB_ap, lkR_int, lkR_bl, lkR_str, lkB_ok, opM_ap, cmB_ap, unM_ap, cbM_ap, conM_ap, tupM_ap, lstM_ap, own1_ap, ifM_ap, andV_ap, orV_ap, notV_ap, andM_ap, orM_ap, notM_ap, test_ap, chM_ap, chB_ap, calM_ap, callM_eq, caR_so, ents_io, enR_so, rd_eq, rdR_sh, ioM_eq, ioR_so, setIxS_eq, ownL_eq, owR_so, siR_at, putL, augIxS_eq, clR_ok, clR_er, back_nil, back_none, back_some, ents_nil, ents_no, runG_ap, rnF_rt, rnF_nx, rnF_er, eqI, addI, subI, ltI, leI, gtI, geI, negI, intI, toB_bl, bind_some', ixL, ixT, atI_nn, Int.reduceToNat, Int.toNat_zero, Int.toNat_one, len1L, len1T, List.map_cons, List.map_nil, List.cons_append, List.nil_append, List.append_nil, List.length_cons, List.length_nil, List.replicate, List.getElem?_cons_zero, List.getElem?_cons_succ, List.set_cons_zero, List.set_cons_succ, if_true, if_false, Bool.false_eq_true, Option.map_some, Option.join_some, decide_true, decide_false, decide_eq_true_eq, modI, divI, mulR, mulL, small_of, addL, addT, forS_ap, rg1_ap, rg2_ap, seqI_ap, enI_ap, mkM_ap, seqOfL, seqOfT, he, hw, truB, isIntB, c1, c2, isNumB, Bool.and_self]
      · simp (discharger := (first | assumption | omega | decide | (simp only [List.length_cons, List.length_nil, List.length_map]; first | omega | decide) | rfl)) only [ret_ap, stuck_ap, bnd_ap, bdR_ok, bdR_er, andS_ap, anR_ok, anR_er, then_ap, thF_nx, thF_rt, thF_er, thF_bk, thF_ct, done_ap, ofO_some, setS_ap, retS_ap, sh1_ap, shM_ap, look_ap, lookB_ap, lkR_int, lkR_bl, lkR_str, lkB_ok, opM_ap, cmB_ap, unM_ap, cbM_ap, conM_ap, tupM_ap, lstM_ap, own1_ap, ifM_ap, andV_ap, orV_ap, notV_ap, andM_ap, orM_ap, notM_ap, test_ap, chM_ap, chB_ap, calM_ap, callM_eq, caR_so, ents_io, enR_so, rd_eq, rdR_sh, ioM_eq, ioR_so, setIxS_eq, ownL_eq, owR_so, siR_at, putL, augIxS_eq, clR_ok, clR_er, back_nil, back_none, back_some, ents_nil, ents_no, runG_ap, rnF_rt, rnF_nx, rnF_er, eqI, addI, subI, ltI, leI, gtI, geI, negI, intI, toB_bl, bind_some', ixL, ixT, atI_nn, Int.reduceToNat, Int.toNat_zero, Int.toNat_one, len1L, len1T, List.map_cons, List.map_nil, List.cons_append, List.nil_append, List.append_nil, List.length_cons, List.length_nil, List.replicate, List.getElem?_cons_zero, List.getElem?_cons_succ, List.set_cons_zero, List.set_cons_succ, if_true, if_false, Bool.false_eq_true, Option.map_some, Option.join_some, decide_true, decide_false, decide_eq_true_eq, modI, divI, mulR, mulL, small_of, addL, addT, forS_ap, rg1_ap, rg2_ap, seqI_ap, enI_ap, mkM_ap, seqOfL, seqOfT, he, hw, truB, isIntB, c1, c2, isNumB, Bool.and_false]
    · simp (discharger := (first | assumption | omega | decide | (simp only [List.length_cons, List.length_nil, List.length_map]; first | omega | decide) | rfl)) only [ret_ap, stuck_ap, bnd_ap, bdR_ok, bdR_er, andS_ap, anR_ok, anR_er, then_ap, thF_nx, thF_rt, thF_er, thF_bk, thF_ct, done_ap, ofO_some, setS_ap, retS_ap, sh1_ap, shM_ap, look_ap, lookB_ap, lkR_int, lkR_bl, lkR_str, lkB_ok, opM_ap, cmB_ap, unM_ap, cbM_ap, conM_ap, tupM_ap, lstM_ap, own1_ap, ifM_ap, andV_ap, orV_ap, notV_ap, andM_ap, orM_ap, notM_ap, test_ap, chM_ap, chB_ap, calM_ap, callM_eq, caR_so, ents_io, enR_so, rd_eq, rdR_sh, ioM_eq, ioR_so, setIxS_eq, ownL_eq, owR_so, siR_at, putL, augIxS_eq, clR_ok, clR_er, back_nil, back_none, back_some, ents_nil, ents_no, runG_ap, rnF_rt, rnF_nx, rnF_er, eqI, addI, subI, ltI, leI, gtI, geI, negI, intI, toB_bl, bind_some', ixL, ixT, atI_nn, Int.reduceToNat, Int.toNat_zero, Int.toNat_one, len1L, len1T, List.map_cons, List.map_nil, List.cons_append, List.nil_append, List.append_nil, List.length_cons, List.length_nil, List.replicate, List.getElem?_cons_zero, List.getElem?_cons_succ, List.set_cons_zero, List.set_cons_succ, if_true, if_false, Bool.false_eq_true, Option.map_some, Option.join_some, decide_true, decide_false, decide_eq_true_eq, modI, divI, mulR, mulL, small_of, addL, addT, forS_ap, rg1_ap, rg2_ap, seqI_ap, enI_ap, mkM_ap, seqOfL, seqOfT, he, hw, truB, isIntB, c1, isNumB, Bool.false_and]
  | _ => first | (cases h; done) | (simp (discharger := (first | assumption | omega | decide | (simp only [List.length_cons, List.length_nil, List.length_map]; first | omega | decide) | rfl)) only [ret_ap, stuck_ap, bnd_ap, bdR_ok, bdR_er, andS_ap, anR_ok, anR_er, then_ap, thF_nx, thF_rt, thF_er, thF_bk, thF_ct, done_ap, ofO_some, setS_ap, retS_ap, sh1_ap, shM_ap, look_ap, lookB_ap, lkR_int, lkR_bl, lkR_str, lkB_ok, opM_ap, cmB_ap, unM_ap, cbM_ap, conM_ap, tupM_ap, lstM_ap, own1_ap, ifM_ap, andV_ap, orV_ap, notV_ap, andM_ap, orM_ap, notM_ap, test_ap, chM_ap, chB_ap, calM_ap, callM_eq, caR_so, ents_io, enR_so, rd_eq, rdR_sh, ioM_eq, ioR_so, setIxS_eq, ownL_eq, owR_so, siR_at, putL, augIxS_eq, clR_ok, clR_er, back_nil, back_none, back_some, ents_nil, ents_no, runG_ap, rnF_rt, rnF_nx, rnF_er, eqI, addI, subI, ltI, leI, gtI, geI, negI, intI, toB_bl, bind_some', ixL, ixT, atI_nn, Int.reduceToNat, Int.toNat_zero, Int.toNat_one, len1L, len1T, List.map_cons, List.map_nil, List.cons_append, List.nil_append, List.append_nil, List.length_cons, List.length_nil, List.replicate, List.getElem?_cons_zero, List.getElem?_cons_succ, List.set_cons_zero, List.set_cons_succ, if_true, if_false, Bool.false_eq_true, Option.map_some, Option.join_some, decide_true, decide_false, decide_eq_true_eq, modI, divI, mulR, mulL, small_of, addL, addT, forS_ap, rg1_ap, rg2_ap, seqI_ap, enI_ap, mkM_ap, seqOfL, seqOfT, he, hw, truB, isIntB]; rfl)
theorem word_ok {d : D} (h : Fine d) {k : Bool} (hk : isKindB d = some k) {E : Nv} (he : E[3]? = some (some (.sh, d))) : andV (cbM (isiD ["Book"]) (conM (rd 3) (conM (Dl.ret (.ty "str")) (Dl.ret [])))) (opM inD (rd 3) (tupM (conM (Dl.ret (.str "early")) (conM (Dl.ret (.str "late")) (Dl.ret []))))) E = .ok (.bl k) E := by
  have e1 := isi_str h
  cases d with
  | str x =>
    have e2 : inD (.str x) (.tup [.str "early", .str "late"]) = some (.bl k) := by unfold inD; rw [show inB (.str x) (.tup [.str "early", .str "late"]) = some k from hk]; rfl
    simp (discharger := (first | assumption | omega | decide | (simp only [List.length_cons, List.length_nil, List.length_map]; first | omega | decide) | rfl)) only [ret_ap, stuck_ap, bnd_ap, bdR_ok, bdR_er, andS_ap, anR_ok, anR_er, then_ap, thF_nx, thF_rt, thF_er, thF_bk, thF_ct, done_ap, ofO_some, setS_ap, retS_ap, sh1_ap, shM_ap, look_ap, lookB_ap, lkR_int, lkR_bl, lkR_str, lkB_ok, opM_ap, cmB_ap, unM_ap, cbM_ap, conM_ap, tupM_ap, lstM_ap, own1_ap, ifM_ap, andV_ap, orV_ap, notV_ap, andM_ap, orM_ap, notM_ap, test_ap, chM_ap, chB_ap, calM_ap, callM_eq, caR_so, ents_io, enR_so, rd_eq, rdR_sh, ioM_eq, ioR_so, setIxS_eq, ownL_eq, owR_so, siR_at, putL, augIxS_eq, clR_ok, clR_er, back_nil, back_none, back_some, ents_nil, ents_no, runG_ap, rnF_rt, rnF_nx, rnF_er, eqI, addI, subI, ltI, leI, gtI, geI, negI, intI, toB_bl, bind_some', ixL, ixT, atI_nn, Int.reduceToNat, Int.toNat_zero, Int.toNat_one, len1L, len1T, List.map_cons, List.map_nil, List.cons_append, List.nil_append, List.append_nil, List.length_cons, List.length_nil, List.replicate, List.getElem?_cons_zero, List.getElem?_cons_succ, List.set_cons_zero, List.set_cons_succ, if_true, if_false, Bool.false_eq_true, Option.map_some, Option.join_some, decide_true, decide_false, decide_eq_true_eq, modI, divI, mulR, mulL, small_of, addL, addT, forS_ap, rg1_ap, rg2_ap, seqI_ap, enI_ap, mkM_ap, seqOfL, seqOfT, he, e1, truB, isStrB, e2]
  | _ => first | (cases h; done) | (cases hk; simp (discharger := (first | assumption | omega | decide | (simp only [List.length_cons, List.length_nil, List.length_map]; first | omega | decide) | rfl)) only [ret_ap, stuck_ap, bnd_ap, bdR_ok, bdR_er, andS_ap, anR_ok, anR_er, then_ap, thF_nx, thF_rt, thF_er, thF_bk, thF_ct, done_ap, ofO_some, setS_ap, retS_ap, sh1_ap, shM_ap, look_ap, lookB_ap, lkR_int, lkR_bl, lkR_str, lkB_ok, opM_ap, cmB_ap, unM_ap, cbM_ap, conM_ap, tupM_ap, lstM_ap, own1_ap, ifM_ap, andV_ap, orV_ap, notV_ap, andM_ap, orM_ap, notM_ap, test_ap, chM_ap, chB_ap, calM_ap, callM_eq, caR_so, ents_io, enR_so, rd_eq, rdR_sh, ioM_eq, ioR_so, setIxS_eq, ownL_eq, owR_so, siR_at, putL, augIxS_eq, clR_ok, clR_er, back_nil, back_none, back_some, ents_nil, ents_no, runG_ap, rnF_rt, rnF_nx, rnF_er, eqI, addI, subI, ltI, leI, gtI, geI, negI, intI, toB_bl, bind_some', ixL, ixT, atI_nn, Int.reduceToNat, Int.toNat_zero, Int.toNat_one, len1L, len1T, List.map_cons, List.map_nil, List.cons_append, List.nil_append, List.append_nil, List.length_cons, List.length_nil, List.replicate, List.getElem?_cons_zero, List.getElem?_cons_succ, List.set_cons_zero, List.set_cons_succ, if_true, if_false, Bool.false_eq_true, Option.map_some, Option.join_some, decide_true, decide_false, decide_eq_true_eq, modI, divI, mulR, mulL, small_of, addL, addT, forS_ap, rg1_ap, rg2_ap, seqI_ap, enI_ap, mkM_ap, seqOfL, seqOfT, he, e1, truB, isStrB])
theorem repr3 (a n k : Bool) : ∃ s, reprD [.lst [.bl a, .bl n, .bl k]] = some (.str s) := by
  cases a <;> cases n <;> cases k <;> exact ⟨_, rfl⟩
theorem neS (s : Str) : neD (.str s) (.str s) = some (.bl false) := by simp [neD, eqB, flat, scal]
def body1 : G := (then_ (setS 3 (sh1 (shM (calM m_law_value [some 1] [] (ioM 1 (Dl.ret [])))))) (then_ (setS 4 (sh1 (andV (cbM (isiD ["Book"]) (conM (rd 3) (conM (Dl.ret (.ty "int")) (Dl.ret [])))) (andV (opM notTD (rd 3) (Dl.ret (.bl true))) (opM notTD (rd 3) (Dl.ret (.bl false))))))) (then_ (setS 5 (sh1 (andV (rd 4) (chM leD leD (unM negD (Dl.ret (.int 1000000000000000))) (rd 3) (Dl.ret (.int 1000000000000000)))))) (then_ (setS 6 (sh1 (andV (cbM (isiD ["Book"]) (conM (rd 3) (conM (Dl.ret (.ty "str")) (Dl.ret [])))) (opM inD (rd 3) (tupM (conM (Dl.ret (.str "early")) (conM (Dl.ret (.str "late")) (Dl.ret [])))))))) (andS (cmB neD (cbM reprD (conM (lstM (conM (shM (calM m_is_integer [none] [] (conM (rd 3) (Dl.ret [])))) (conM (shM (calM m_is_number [none] [] (conM (rd 3) (Dl.ret [])))) (conM (shM (calM m_is_kind [none] [] (conM (rd 3) (Dl.ret [])))) (Dl.ret []))))) (Dl.ret []))) (cbM reprD (conM (lstM (conM (rd 4) (conM (rd 5) (conM (rd 6) (Dl.ret []))))) (Dl.ret [])))) fun k => if k = true then (retS (sh1 (Dl.ret (.bl false)))) else done)))))
/-- the law's locals: the script, the bag, eight more -/
def Loc8 (E : Nv) : Prop := ∃ a b s2 s3 s4 s5 s6 s7 s8 s9, E = [a, some (.l .sh, .lst b), s2, s3, s4, s5, s6, s7, s8, s9] ∧ BagOk b
theorem body1_ok {E : Nv} (h : Loc8 E) : ∃ E2, body1 E = .nx E2 ∧ Loc8 E2 := by
  obtain ⟨a, b, s2, s3, s4, s5, s6, s7, s8, s9, rfl, hb⟩ := h
  obtain ⟨b', d, O, e1, hb', hd⟩ := value_ok hb
  obtain ⟨k, hk⟩ := kind_some hd
  obtain ⟨s, hs⟩ := repr3 (isIntB d) (isNumB d) k
  have i1 := is_integer_ok hd
  have i2 := is_number_ok hd
  have i3 := is_kind_ok hd hk
  have st1 : setS 3 (sh1 (shM (calM m_law_value [some 1] [] (ioM 1 (Dl.ret []))))) [a, some (.l .sh, .lst b), s2, s3, s4, s5, s6, s7, s8, s9] = .nx [a, some (.l .sh, .lst b'), s2, some (.sh, d), s4, s5, s6, s7, s8, s9] := by simp (discharger := (first | assumption | omega | decide | (simp only [List.length_cons, List.length_nil, List.length_map]; first | omega | decide) | rfl)) only [ret_ap, stuck_ap, bnd_ap, bdR_ok, bdR_er, andS_ap, anR_ok, anR_er, then_ap, thF_nx, thF_rt, thF_er, thF_bk, thF_ct, done_ap, ofO_some, setS_ap, retS_ap, sh1_ap, shM_ap, look_ap, lookB_ap, lkR_int, lkR_bl, lkR_str, lkB_ok, opM_ap, cmB_ap, unM_ap, cbM_ap, conM_ap, tupM_ap, lstM_ap, own1_ap, ifM_ap, andV_ap, orV_ap, notV_ap, andM_ap, orM_ap, notM_ap, test_ap, chM_ap, chB_ap, calM_ap, callM_eq, caR_so, ents_io, enR_so, rd_eq, rdR_sh, ioM_eq, ioR_so, setIxS_eq, ownL_eq, owR_so, siR_at, putL, augIxS_eq, clR_ok, clR_er, back_nil, back_none, back_some, ents_nil, ents_no, runG_ap, rnF_rt, rnF_nx, rnF_er, eqI, addI, subI, ltI, leI, gtI, geI, negI, intI, toB_bl, bind_some', ixL, ixT, atI_nn, Int.reduceToNat, Int.toNat_zero, Int.toNat_one, len1L, len1T, List.map_cons, List.map_nil, List.cons_append, List.nil_append, List.append_nil, List.length_cons, List.length_nil, List.replicate, List.getElem?_cons_zero, List.getElem?_cons_succ, List.set_cons_zero, List.set_cons_succ, if_true, if_false, Bool.false_eq_true, Option.map_some, Option.join_some, decide_true, decide_false, decide_eq_true_eq, modI, divI, mulR, mulL, small_of, addL, addT, forS_ap, rg1_ap, rg2_ap, seqI_ap, enI_ap, mkM_ap, seqOfL, seqOfT, e1]
  have st2 := whole_ok hd (E := [a, some (.l .sh, .lst b'), s2, some (.sh, d), s4, s5, s6, s7, s8, s9]) rfl
  have st3 := number_ok hd (E := [a, some (.l .sh, .lst b'), s2, some (.sh, d), some (.sh, .bl (isIntB d)), s5, s6, s7, s8, s9]) rfl rfl
  have st4 := word_ok hd hk (E := [a, some (.l .sh, .lst b'), s2, some (.sh, d), some (.sh, .bl (isIntB d)), some (.sh, .bl (isNumB d)), s6, s7, s8, s9]) rfl
  refine ⟨[a, some (.l .sh, .lst b'), s2, some (.sh, d), some (.sh, .bl (isIntB d)), some (.sh, .bl (isNumB d)), some (.sh, .bl k), s7, s8, s9], ?_, ⟨_, _, _, _, _, _, _, _, _, _, rfl, hb'⟩⟩
  unfold body1
  rw [then_ap, st1, thF_nx, then_ap, setS_ap, sh1_ap, st2]
  simp only [bdR_ok, ret_ap, anR_ok, thF_nx, List.set_cons_succ, List.set_cons_zero]
  rw [then_ap, setS_ap, sh1_ap, st3]
  simp only [bdR_ok, ret_ap, anR_ok, thF_nx, List.set_cons_succ, List.set_cons_zero]
  rw [then_ap, setS_ap, sh1_ap, st4]
  simp only [bdR_ok, ret_ap, anR_ok, thF_nx, List.set_cons_succ, List.set_cons_zero]
  simp (discharger := (first | assumption | omega | decide | (simp only [List.length_cons, List.length_nil, List.length_map]; first | omega | decide) | rfl)) only [ret_ap, stuck_ap, bnd_ap, bdR_ok, bdR_er, andS_ap, anR_ok, anR_er, then_ap, thF_nx, thF_rt, thF_er, thF_bk, thF_ct, done_ap, ofO_some, setS_ap, retS_ap, sh1_ap, shM_ap, look_ap, lookB_ap, lkR_int, lkR_bl, lkR_str, lkB_ok, opM_ap, cmB_ap, unM_ap, cbM_ap, conM_ap, tupM_ap, lstM_ap, own1_ap, ifM_ap, andV_ap, orV_ap, notV_ap, andM_ap, orM_ap, notM_ap, test_ap, chM_ap, chB_ap, calM_ap, callM_eq, caR_so, ents_io, enR_so, rd_eq, rdR_sh, ioM_eq, ioR_so, setIxS_eq, ownL_eq, owR_so, siR_at, putL, augIxS_eq, clR_ok, clR_er, back_nil, back_none, back_some, ents_nil, ents_no, runG_ap, rnF_rt, rnF_nx, rnF_er, eqI, addI, subI, ltI, leI, gtI, geI, negI, intI, toB_bl, bind_some', ixL, ixT, atI_nn, Int.reduceToNat, Int.toNat_zero, Int.toNat_one, len1L, len1T, List.map_cons, List.map_nil, List.cons_append, List.nil_append, List.append_nil, List.length_cons, List.length_nil, List.replicate, List.getElem?_cons_zero, List.getElem?_cons_succ, List.set_cons_zero, List.set_cons_succ, if_true, if_false, Bool.false_eq_true, Option.map_some, Option.join_some, decide_true, decide_false, decide_eq_true_eq, modI, divI, mulR, mulL, small_of, addL, addT, forS_ap, rg1_ap, rg2_ap, seqI_ap, enI_ap, mkM_ap, seqOfL, seqOfT, i1, i2, i3, hs, neS]
theorem neT {xs : List D} {ps : List PyData} (h : toPs xs = some ps) (hs : SeqAt.shaped (.tuple ps) = true) : neD (.tup xs) (.tup xs) = some (.bl false) := by
  have e1 : toP (.tup xs) = some (.tuple ps) := by unfold toP; rw [h]; rfl
  have e2 : PyData.eqv (.tuple ps) (.tuple ps) = true := SeqAt.eqv_refl _ (SeqAt.canLay_of_shaped hs)
  unfold neD eqB deepEq
  rw [show flat (.tup xs) = none from rfl, e1]
  simp only
  rw [if_pos ⟨hs, hs⟩, e2]
  rfl
theorem shp (v : Int) {x : Str} (h : PyData.strOk x = true) : SeqAt.shaped (.tuple [.int v, .str x]) = true := by
  unfold SeqAt.shaped
  simp [PyData.canLay0, PyData.canLayAll0, PyData.depth, PyData.depthAll, h]
theorem contrary1 : m_contrary [(.sh, .str "early")] = .ok (.sh, .str "late") [some (.sh, .str "early")] := by kernel_rfl
theorem contrary2 : m_contrary [(.sh, .str "late")] = .ok (.sh, .str "early") [some (.sh, .str "late")] := by kernel_rfl
theorem turned1 (v : D) : m_turned_literal [(.sh, .tup [v, .str "early"])] = .ok (.sh, .tup [v, .str "late"]) [some (.sh, .tup [v, .str "early"])] := by
  unfold m_turned_literal g_turned_literal
  simp (discharger := (first | assumption | omega | decide | (simp only [List.length_cons, List.length_nil, List.length_map]; first | omega | decide) | rfl)) only [ret_ap, stuck_ap, bnd_ap, bdR_ok, bdR_er, andS_ap, anR_ok, anR_er, then_ap, thF_nx, thF_rt, thF_er, thF_bk, thF_ct, done_ap, ofO_some, setS_ap, retS_ap, sh1_ap, shM_ap, look_ap, lookB_ap, lkR_int, lkR_bl, lkR_str, lkB_ok, opM_ap, cmB_ap, unM_ap, cbM_ap, conM_ap, tupM_ap, lstM_ap, own1_ap, ifM_ap, andV_ap, orV_ap, notV_ap, andM_ap, orM_ap, notM_ap, test_ap, chM_ap, chB_ap, calM_ap, callM_eq, caR_so, ents_io, enR_so, rd_eq, rdR_sh, ioM_eq, ioR_so, setIxS_eq, ownL_eq, owR_so, siR_at, putL, augIxS_eq, clR_ok, clR_er, back_nil, back_none, back_some, ents_nil, ents_no, runG_ap, rnF_rt, rnF_nx, rnF_er, eqI, addI, subI, ltI, leI, gtI, geI, negI, intI, toB_bl, bind_some', ixL, ixT, atI_nn, Int.reduceToNat, Int.toNat_zero, Int.toNat_one, len1L, len1T, List.map_cons, List.map_nil, List.cons_append, List.nil_append, List.append_nil, List.length_cons, List.length_nil, List.replicate, List.getElem?_cons_zero, List.getElem?_cons_succ, List.set_cons_zero, List.set_cons_succ, if_true, if_false, Bool.false_eq_true, Option.map_some, Option.join_some, decide_true, decide_false, decide_eq_true_eq, modI, divI, mulR, mulL, small_of, addL, addT, forS_ap, rg1_ap, rg2_ap, seqI_ap, enI_ap, mkM_ap, seqOfL, seqOfT, contrary1]
  rfl
theorem turned2 (v : D) : m_turned_literal [(.sh, .tup [v, .str "late"])] = .ok (.sh, .tup [v, .str "early"]) [some (.sh, .tup [v, .str "late"])] := by
  unfold m_turned_literal g_turned_literal
  simp (discharger := (first | assumption | omega | decide | (simp only [List.length_cons, List.length_nil, List.length_map]; first | omega | decide) | rfl)) only [ret_ap, stuck_ap, bnd_ap, bdR_ok, bdR_er, andS_ap, anR_ok, anR_er, then_ap, thF_nx, thF_rt, thF_er, thF_bk, thF_ct, done_ap, ofO_some, setS_ap, retS_ap, sh1_ap, shM_ap, look_ap, lookB_ap, lkR_int, lkR_bl, lkR_str, lkB_ok, opM_ap, cmB_ap, unM_ap, cbM_ap, conM_ap, tupM_ap, lstM_ap, own1_ap, ifM_ap, andV_ap, orV_ap, notV_ap, andM_ap, orM_ap, notM_ap, test_ap, chM_ap, chB_ap, calM_ap, callM_eq, caR_so, ents_io, enR_so, rd_eq, rdR_sh, ioM_eq, ioR_so, setIxS_eq, ownL_eq, owR_so, siR_at, putL, augIxS_eq, clR_ok, clR_er, back_nil, back_none, back_some, ents_nil, ents_no, runG_ap, rnF_rt, rnF_nx, rnF_er, eqI, addI, subI, ltI, leI, gtI, geI, negI, intI, toB_bl, bind_some', ixL, ixT, atI_nn, Int.reduceToNat, Int.toNat_zero, Int.toNat_one, len1L, len1T, List.map_cons, List.map_nil, List.cons_append, List.nil_append, List.append_nil, List.length_cons, List.length_nil, List.replicate, List.getElem?_cons_zero, List.getElem?_cons_succ, List.set_cons_zero, List.set_cons_succ, if_true, if_false, Bool.false_eq_true, Option.map_some, Option.join_some, decide_true, decide_false, decide_eq_true_eq, modI, divI, mulR, mulL, small_of, addL, addT, forS_ap, rg1_ap, rg2_ap, seqI_ap, enI_ap, mkM_ap, seqOfL, seqOfT, contrary2]
  rfl
def body2 : G := (then_ (setS 9 (sh1 (shM (calM m_law_take [some 1, none] [] (ioM 1 (conM (Dl.ret (.int 8)) (Dl.ret []))))))) (then_ (andS (orM (cmB neD (shM (calM m_contrary [none] [] (conM (rd 7) (Dl.ret [])))) (rd 8)) (cmB neD (shM (calM m_turned_literal [none] [] (conM (tupM (conM (rd 9) (conM (rd 7) (Dl.ret [])))) (Dl.ret [])))) (tupM (conM (rd 9) (conM (rd 8) (Dl.ret [])))))) fun k => if k = true then (retS (sh1 (Dl.ret (.bl false)))) else done) (then_ (andS (cmB neD (shM (calM m_contrary [none] [] (conM (shM (calM m_contrary [none] [] (conM (rd 7) (Dl.ret [])))) (Dl.ret [])))) (rd 7)) fun k => if k = true then (retS (sh1 (Dl.ret (.bl false)))) else done) (andS (cmB neD (shM (calM m_turned_literal [none] [] (conM (shM (calM m_turned_literal [none] [] (conM (tupM (conM (rd 9) (conM (rd 8) (Dl.ret [])))) (Dl.ret [])))) (Dl.ret [])))) (tupM (conM (rd 9) (conM (rd 8) (Dl.ret []))))) fun k => if k = true then (retS (sh1 (Dl.ret (.bl false)))) else done))))
theorem body2_ok {a : Option Ent} {b : List D} {s2 s3 s4 s5 s6 s9 : Option Ent} (hb : BagOk b) (x y : Str) (hxy : (x = "early" ∧ y = "late") ∨ (x = "late" ∧ y = "early")) : ∃ b' t, BagOk b' ∧ body2 [a, some (.l .sh, .lst b), s2, s3, s4, s5, s6, some (.sh, .str x), some (.sh, .str y), s9] = .nx [a, some (.l .sh, .lst b'), s2, s3, s4, s5, s6, some (.sh, .str x), some (.sh, .str y), t] := by
  obtain ⟨b', v, O, e1, hb', v0, v1⟩ := take_ok (m := 8) hb (by decide) (by decide)
  have n1 : neD (.tup [.int v, .str "early"]) (.tup [.int v, .str "early"]) = some (.bl false) := neT (ps := [.int v, .str "early"]) rfl (shp v (by decide +kernel))
  have n2 : neD (.tup [.int v, .str "late"]) (.tup [.int v, .str "late"]) = some (.bl false) := neT (ps := [.int v, .str "late"]) rfl (shp v (by decide +kernel))
  refine ⟨b', some (.sh, .int v), hb', ?_⟩
  unfold body2
  rw [take_eq]
  rcases hxy with ⟨rfl, rfl⟩ | ⟨rfl, rfl⟩
  · simp (discharger := (first | assumption | omega | decide | (simp only [List.length_cons, List.length_nil, List.length_map]; first | omega | decide) | rfl)) only [ret_ap, stuck_ap, bnd_ap, bdR_ok, bdR_er, andS_ap, anR_ok, anR_er, then_ap, thF_nx, thF_rt, thF_er, thF_bk, thF_ct, done_ap, ofO_some, setS_ap, retS_ap, sh1_ap, shM_ap, look_ap, lookB_ap, lkR_int, lkR_bl, lkR_str, lkB_ok, opM_ap, cmB_ap, unM_ap, cbM_ap, conM_ap, tupM_ap, lstM_ap, own1_ap, ifM_ap, andV_ap, orV_ap, notV_ap, andM_ap, orM_ap, notM_ap, test_ap, chM_ap, chB_ap, calM_ap, callM_eq, caR_so, ents_io, enR_so, rd_eq, rdR_sh, ioM_eq, ioR_so, setIxS_eq, ownL_eq, owR_so, siR_at, putL, augIxS_eq, clR_ok, clR_er, back_nil, back_none, back_some, ents_nil, ents_no, runG_ap, rnF_rt, rnF_nx, rnF_er, eqI, addI, subI, ltI, leI, gtI, geI, negI, intI, toB_bl, bind_some', ixL, ixT, atI_nn, Int.reduceToNat, Int.toNat_zero, Int.toNat_one, len1L, len1T, List.map_cons, List.map_nil, List.cons_append, List.nil_append, List.append_nil, List.length_cons, List.length_nil, List.replicate, List.getElem?_cons_zero, List.getElem?_cons_succ, List.set_cons_zero, List.set_cons_succ, if_true, if_false, Bool.false_eq_true, Option.map_some, Option.join_some, decide_true, decide_false, decide_eq_true_eq, modI, divI, mulR, mulL, small_of, addL, addT, forS_ap, rg1_ap, rg2_ap, seqI_ap, enI_ap, mkM_ap, seqOfL, seqOfT, e1, contrary1, contrary2, turned1, turned2, n1, n2, neS]
  · simp (discharger := (first | assumption | omega | decide | (simp only [List.length_cons, List.length_nil, List.length_map]; first | omega | decide) | rfl)) only [ret_ap, stuck_ap, bnd_ap, bdR_ok, bdR_er, andS_ap, anR_ok, anR_er, then_ap, thF_nx, thF_rt, thF_er, thF_bk, thF_ct, done_ap, ofO_some, setS_ap, retS_ap, sh1_ap, shM_ap, look_ap, lookB_ap, lkR_int, lkR_bl, lkR_str, lkB_ok, opM_ap, cmB_ap, unM_ap, cbM_ap, conM_ap, tupM_ap, lstM_ap, own1_ap, ifM_ap, andV_ap, orV_ap, notV_ap, andM_ap, orM_ap, notM_ap, test_ap, chM_ap, chB_ap, calM_ap, callM_eq, caR_so, ents_io, enR_so, rd_eq, rdR_sh, ioM_eq, ioR_so, setIxS_eq, ownL_eq, owR_so, siR_at, putL, augIxS_eq, clR_ok, clR_er, back_nil, back_none, back_some, ents_nil, ents_no, runG_ap, rnF_rt, rnF_nx, rnF_er, eqI, addI, subI, ltI, leI, gtI, geI, negI, intI, toB_bl, bind_some', ixL, ixT, atI_nn, Int.reduceToNat, Int.toNat_zero, Int.toNat_one, len1L, len1T, List.map_cons, List.map_nil, List.cons_append, List.nil_append, List.append_nil, List.length_cons, List.length_nil, List.replicate, List.getElem?_cons_zero, List.getElem?_cons_succ, List.set_cons_zero, List.set_cons_succ, if_true, if_false, Bool.false_eq_true, Option.map_some, Option.join_some, decide_true, decide_false, decide_eq_true_eq, modI, divI, mulR, mulL, small_of, addL, addT, forS_ap, rg1_ap, rg2_ap, seqI_ap, enI_ap, mkM_ap, seqOfL, seqOfT, e1, contrary1, contrary2, turned1, turned2, n1, n2, neS]
theorem keeps : Keeps 63 m_law := by
  intro ns hl _
  obtain ⟨b, O, eb, hb⟩ := bag_ok hl
  have r20 : rng1Of [.int 20] = some (rng 0 20) := rfl
  have I0 : Loc8 [some (.sh, .frl ns), some (.l .sh, .lst b), none, none, none, none, none, none, none, none] := ⟨_, _, _, _, _, _, _, _, _, _, rfl, hb⟩
  obtain ⟨E1, l1, i1⟩ := loop_inv (asg := putE 2) (body := body1) (I := Loc8) (ds := rng 0 20) (fun d _ E hE => by
    obtain ⟨a, b, s2, s3, s4, s5, s6, s7, s8, s9, rfl, hb⟩ := hE
    obtain ⟨E2, h2, h3⟩ := body1_ok (E := [a, some (.l .sh, .lst b), some (.sh, d), s3, s4, s5, s6, s7, s8, s9]) ⟨_, _, _, _, _, _, _, _, _, _, rfl, hb⟩
    exact ⟨_, E2, rfl, h2, h3⟩) I0
  obtain ⟨a, b1, s2, s3, s4, s5, s6, s7, s8, s9, rfl, hb1⟩ := i1
  obtain ⟨b2, t2, hb2, l2⟩ := body2_ok (a := a) (s2 := s2) (s3 := s3) (s4 := s4) (s5 := s5) (s6 := s6) (s9 := s9) hb1 "early" "late" (.inl ⟨rfl, rfl⟩)
  obtain ⟨b3, t3, hb3, l3⟩ := body2_ok (a := a) (s2 := s2) (s3 := s3) (s4 := s4) (s5 := s5) (s6 := s6) (s9 := t2) hb2 "late" "early" (.inr ⟨rfl, rfl⟩)
  have lp : loopS (tgT 2 (tgC (putE 7) (tgC (putE 8) tgN))) body2 [.tup [.str "early", .str "late"], .tup [.str "late", .str "early"]] [a, some (.l .sh, .lst b1), s2, s3, s4, s5, s6, s7, s8, s9] = .nx [a, some (.l .sh, .lst b3), s2, s3, s4, s5, s6, some (.sh, .str "late"), some (.sh, .str "early"), t3] := by
    rw [loop_cons (E1 := [a, some (.l .sh, .lst b1), s2, s3, s4, s5, s6, some (.sh, .str "early"), some (.sh, .str "late"), s9]) rfl l2]
    rw [loop_cons (E1 := [a, some (.l .sh, .lst b2), s2, s3, s4, s5, s6, some (.sh, .str "late"), some (.sh, .str "early"), t2]) rfl l3]
    rfl
  refine ⟨[a, some (.l .sh, .lst b3), s2, s3, s4, s5, s6, some (.sh, .str "late"), some (.sh, .str "early"), t3], ?_⟩
  have eg : g_law = then_ (setS 1 (calM mBag [none] [] (conM (rd 0) (Dl.ret [])))) (then_ (forS (rg1 (conM (Dl.ret (.int 20)) (Dl.ret []))) (putE 2) body1) (then_ (forS (seqI (tupM (conM (tupM (conM (Dl.ret (.str "early")) (conM (Dl.ret (.str "late")) (Dl.ret [])))) (conM (tupM (conM (Dl.ret (.str "late")) (conM (Dl.ret (.str "early")) (Dl.ret [])))) (Dl.ret []))))) (tgT 2 (tgC (putE 7) (tgC (putE 8) tgN))) body2) (retS (sh1 (Dl.ret (.bl true)))))) := rfl
  unfold m_law
  rw [eg]
  simp (discharger := (first | assumption | omega | decide | (simp only [List.length_cons, List.length_nil, List.length_map]; first | omega | decide) | rfl)) only [ret_ap, stuck_ap, bnd_ap, bdR_ok, bdR_er, andS_ap, anR_ok, anR_er, then_ap, thF_nx, thF_rt, thF_er, thF_bk, thF_ct, done_ap, ofO_some, setS_ap, retS_ap, sh1_ap, shM_ap, look_ap, lookB_ap, lkR_int, lkR_bl, lkR_str, lkB_ok, opM_ap, cmB_ap, unM_ap, cbM_ap, conM_ap, tupM_ap, lstM_ap, own1_ap, ifM_ap, andV_ap, orV_ap, notV_ap, andM_ap, orM_ap, notM_ap, test_ap, chM_ap, chB_ap, calM_ap, callM_eq, caR_so, ents_io, enR_so, rd_eq, rdR_sh, ioM_eq, ioR_so, setIxS_eq, ownL_eq, owR_so, siR_at, putL, augIxS_eq, clR_ok, clR_er, back_nil, back_none, back_some, ents_nil, ents_no, runG_ap, rnF_rt, rnF_nx, rnF_er, eqI, addI, subI, ltI, leI, gtI, geI, negI, intI, toB_bl, bind_some', ixL, ixT, atI_nn, Int.reduceToNat, Int.toNat_zero, Int.toNat_one, len1L, len1T, List.map_cons, List.map_nil, List.cons_append, List.nil_append, List.append_nil, List.length_cons, List.length_nil, List.replicate, List.getElem?_cons_zero, List.getElem?_cons_succ, List.set_cons_zero, List.set_cons_succ, if_true, if_false, Bool.false_eq_true, Option.map_some, Option.join_some, decide_true, decide_false, decide_eq_true_eq, modI, divI, mulR, mulL, small_of, addL, addT, forS_ap, rg1_ap, rg2_ap, seqI_ap, enI_ap, mkM_ap, seqOfL, seqOfT, eb, r20, l1, lp]
end Gk

open PySem PySem.W PySem.Calls PyProof.Rows
theorem PySem.Challenge.cw_earlyorlate_k12_words_and_kinds_holds : PySem.Challenge.rw_earlyorlate_k12_words_and_kinds.Holds := by
  w_on; o_law
  refine HandSHeadRun.head_any (r := OpenLaw.row PySem.Challenge.rw_earlyorlate_k12_words_and_kinds) (q := view (OpenLaw.row PySem.Challenge.rw_earlyorlate_k12_words_and_kinds).prog [34]) (H := Gk.hk) (ob := Gk.ob) (M := 20000) (loose := Gk.loose) (d := HandSHeadRun.topDef (OpenLaw.row PySem.Challenge.rw_earlyorlate_k12_words_and_kinds).prog 34) (kwd := []) Gk.ob_eq
    (by kernel_rfl) (fun s => by kernel_rfl) Gk.run (by kernel_rfl) (by kernel_rfl) (by kernel_rfl) (by rfl) (by first | assumption | decide +kernel) (by decide +kernel) ⟨rfl, rfl, rfl, rfl, rfl, by decide +kernel⟩ ?hw ?hc
  case hw => w_witness2
  case hc =>
    refine Dl.walk_g (l := PySem.Challenge.rw_earlyorlate_k12_words_and_kinds) (n := 63) (k := 9) (x := "_law_script") (m := fun _ => Gk.m_law) rfl (by decide) (by kernel_rfl) ⟨rfl, by decide, by decide⟩ (fun _ => Gk.keeps) ?F
    intro w mg fa h Y G hmg0
    obtain ⟨K, KX, c1, c2⟩ := Y
    have hmg : mg ("law" : PySem.Str) = some (.ref fa) := by
      have e : (HandSHeadRun.topDef (OpenLaw.row PySem.Challenge.rw_earlyorlate_k12_words_and_kinds).prog 34).name = ("law" : PySem.Str) := by kernel_rfl
      rw [← e]
      exact hmg0
    have o : Dl.Md3 Gk.fa Gk.fn Gk.ex K mg := ⟨⟨h, KX, G⟩, c1, c2⟩
    have e1 := hmg.symm.trans (o.glo 45)
    cases e1
    obtain ⟨fd, F, hb⟩ := Gk.ok_law (P := (PySem.Challenge.rw_earlyorlate_k12_words_and_kinds).prog) (w := w) o
    exact ⟨K, fd, KX, hb, fun base _ _ => F base⟩

